import PyProof.Rows.All
import OpenK.KLine
import PyProof.EnumMake
import PyProof.EnumStmt
import PyProof.EnumFor
import Lean
import PySem.Challenge.RW_nm0168_03
set_option Elab.async false
set_option maxRecDepth 100000
set_option maxHeartbeats 8000000
set_option linter.all false
set_option tactic.hygienic false
set_option genSizeOfSpec false
set_option genInjectivity false
namespace Mine
set_option genSizeOf false
set_option genSizeOfSpec false
set_option genInjectivity false
structure A3(p0 p1 p2:Prop):Prop where
 h0:p0
 h1:p1
 h2:p2
structure A4(p0 p1 p2 p3:Prop):Prop where
 h0:p0
 h1:p1
 h2:p2
 h3:p3
structure A5(p0 p1 p2 p3 p4:Prop):Prop where
 h0:p0
 h1:p1
 h2:p2
 h3:p3
 h4:p4
structure A6(p0 p1 p2 p3 p4 p5:Prop):Prop where
 h0:p0
 h1:p1
 h2:p2
 h3:p3
 h4:p4
 h5:p5
structure A7(p0 p1 p2 p3 p4 p5 p6:Prop):Prop where
 h0:p0
 h1:p1
 h2:p2
 h3:p3
 h4:p4
 h5:p5
 h6:p6
structure A8(p0 p1 p2 p3 p4 p5 p6 p7:Prop):Prop where
 h0:p0
 h1:p1
 h2:p2
 h3:p3
 h4:p4
 h5:p5
 h6:p6
 h7:p7
structure A9(p0 p1 p2 p3 p4 p5 p6 p7 p8:Prop):Prop where
 h0:p0
 h1:p1
 h2:p2
 h3:p3
 h4:p4
 h5:p5
 h6:p6
 h7:p7
 h8:p8
inductive jJ{t0:Type}(p0:t0->Prop):Prop
 | mk(x0:t0)(h0:p0 x0):jJ p0
inductive dO{t0:Type}(p0 p1:t0->Prop):Prop
 | mk(x0:t0)(h0:p0 x0)(h1:p1 x0):dO p0 p1
inductive zB{t0:Type}(p0 p1 p2:t0->Prop):Prop
 | mk(x0:t0)(h0:p0 x0)(h1:p1 x0)(h2:p2 x0):zB p0 p1 p2
inductive Os{t0:Type}(p0 p1 p2 p3:t0->Prop):Prop
 | mk(x0:t0)(h0:p0 x0)(h1:p1 x0)(h2:p2 x0)(h3:p3 x0):Os p0 p1 p2 p3
inductive zC{t0:Type}(p0 p1 p2 p3 p4:t0->Prop):Prop
 | mk(x0:t0)(h0:p0 x0)(h1:p1 x0)(h2:p2 x0)(h3:p3 x0)(h4:p4 x0):zC p0 p1 p2 p3 p4
inductive UX{t0:Type}(p0 p1 p2 p3 p4 p5:t0->Prop):Prop
 | mk(x0:t0)(h0:p0 x0)(h1:p1 x0)(h2:p2 x0)(h3:p3 x0)(h4:p4 x0)(h5:p5 x0):UX p0 p1 p2 p3 p4 p5
inductive Xy{t0:Type}(p0 p1 p2 p3 p4 p5 p6:t0->Prop):Prop
 | mk(x0:t0)(h0:p0 x0)(h1:p1 x0)(h2:p2 x0)(h3:p3 x0)(h4:p4 x0)(h5:p5 x0)(h6:p6 x0):Xy p0 p1 p2 p3 p4 p5 p6
inductive Xz{t0:Type}(p0 p1 p2 p3 p4 p5 p6 p7:t0->Prop):Prop
 | mk(x0:t0)(h0:p0 x0)(h1:p1 x0)(h2:p2 x0)(h3:p3 x0)(h4:p4 x0)(h5:p5 x0)(h6:p6 x0)(h7:p7 x0):Xz p0 p1 p2 p3 p4 p5 p6 p7
inductive GW{t0 t1:Type}(p0:t0->t1->Prop):Prop
 | mk(x0:t0)(x1:t1)(h0:p0 x0 x1):GW p0
inductive AG{t0 t1:Type}(p0 p1:t0->t1->Prop):Prop
 | mk(x0:t0)(x1:t1)(h0:p0 x0 x1)(h1:p1 x0 x1):AG p0 p1
inductive CB{t0 t1:Type}(p0 p1 p2:t0->t1->Prop):Prop
 | mk(x0:t0)(x1:t1)(h0:p0 x0 x1)(h1:p1 x0 x1)(h2:p2 x0 x1):CB p0 p1 p2
inductive Jo{t0 t1:Type}(p0 p1 p2 p3:t0->t1->Prop):Prop
 | mk(x0:t0)(x1:t1)(h0:p0 x0 x1)(h1:p1 x0 x1)(h2:p2 x0 x1)(h3:p3 x0 x1):Jo p0 p1 p2 p3
inductive UY{t0 t1:Type}(p0 p1 p2 p3 p4:t0->t1->Prop):Prop
 | mk(x0:t0)(x1:t1)(h0:p0 x0 x1)(h1:p1 x0 x1)(h2:p2 x0 x1)(h3:p3 x0 x1)(h4:p4 x0 x1):UY p0 p1 p2 p3 p4
inductive Li{t0 t1 t2:Type}(p0:t0->t1->t2->Prop):Prop
 | mk(x0:t0)(x1:t1)(x2:t2)(h0:p0 x0 x1 x2):Li p0
inductive X1{t0 t1 t2:Type}(p0 p1:t0->t1->t2->Prop):Prop
 | mk(x0:t0)(x1:t1)(x2:t2)(h0:p0 x0 x1 x2)(h1:p1 x0 x1 x2):X1 p0 p1
inductive Rt{t0 t1 t2:Type}(p0 p1 p2:t0->t1->t2->Prop):Prop
 | mk(x0:t0)(x1:t1)(x2:t2)(h0:p0 x0 x1 x2)(h1:p1 x0 x1 x2)(h2:p2 x0 x1 x2):Rt p0 p1 p2
inductive Lj{t0 t1 t2:Type}(p0 p1 p2 p3:t0->t1->t2->Prop):Prop
 | mk(x0:t0)(x1:t1)(x2:t2)(h0:p0 x0 x1 x2)(h1:p1 x0 x1 x2)(h2:p2 x0 x1 x2)(h3:p3 x0 x1 x2):Lj p0 p1 p2 p3
inductive UZ{t0 t1 t2:Type}(p0 p1 p2 p3 p4:t0->t1->t2->Prop):Prop
 | mk(x0:t0)(x1:t1)(x2:t2)(h0:p0 x0 x1 x2)(h1:p1 x0 x1 x2)(h2:p2 x0 x1 x2)(h3:p3 x0 x1 x2)(h4:p4 x0 x1 x2):UZ p0 p1 p2 p3 p4
inductive Ua{t0 t1 t2:Type}(p0 p1 p2 p3 p4 p5:t0->t1->t2->Prop):Prop
 | mk(x0:t0)(x1:t1)(x2:t2)(h0:p0 x0 x1 x2)(h1:p1 x0 x1 x2)(h2:p2 x0 x1 x2)(h3:p3 x0 x1 x2)(h4:p4 x0 x1 x2)(h5:p5 x0 x1 x2):Ua p0 p1 p2 p3 p4 p5
inductive X2{t0 t1 t2:Type}(p0 p1 p2 p3 p4 p5 p6:t0->t1->t2->Prop):Prop
 | mk(x0:t0)(x1:t1)(x2:t2)(h0:p0 x0 x1 x2)(h1:p1 x0 x1 x2)(h2:p2 x0 x1 x2)(h3:p3 x0 x1 x2)(h4:p4 x0 x1 x2)(h5:p5 x0 x1 x2)(h6:p6 x0 x1 x2):X2 p0 p1 p2 p3 p4 p5 p6
inductive Jp{t0 t1 t2 t3:Type}(p0:t0->t1->t2->t3->Prop):Prop
 | mk(x0:t0)(x1:t1)(x2:t2)(x3:t3)(h0:p0 x0 x1 x2 x3):Jp p0
inductive X4{t0 t1 t2 t3:Type}(p0 p1:t0->t1->t2->t3->Prop):Prop
 | mk(x0:t0)(x1:t1)(x2:t2)(x3:t3)(h0:p0 x0 x1 x2 x3)(h1:p1 x0 x1 x2 x3):X4 p0 p1
inductive Ub{t0 t1 t2 t3:Type}(p0 p1 p2:t0->t1->t2->t3->Prop):Prop
 | mk(x0:t0)(x1:t1)(x2:t2)(x3:t3)(h0:p0 x0 x1 x2 x3)(h1:p1 x0 x1 x2 x3)(h2:p2 x0 x1 x2 x3):Ub p0 p1 p2
inductive X5{t0 t1 t2 t3:Type}(p0 p1 p2 p3:t0->t1->t2->t3->Prop):Prop
 | mk(x0:t0)(x1:t1)(x2:t2)(x3:t3)(h0:p0 x0 x1 x2 x3)(h1:p1 x0 x1 x2 x3)(h2:p2 x0 x1 x2 x3)(h3:p3 x0 x1 x2 x3):X5 p0 p1 p2 p3
inductive Ot{t0 t1 t2 t3:Type}(p0 p1 p2 p3 p4:t0->t1->t2->t3->Prop):Prop
 | mk(x0:t0)(x1:t1)(x2:t2)(x3:t3)(h0:p0 x0 x1 x2 x3)(h1:p1 x0 x1 x2 x3)(h2:p2 x0 x1 x2 x3)(h3:p3 x0 x1 x2 x3)(h4:p4 x0 x1 x2 x3):Ot p0 p1 p2 p3 p4
inductive X6{t0 t1 t2 t3:Type}(p0 p1 p2 p3 p4 p5 p6:t0->t1->t2->t3->Prop):Prop
 | mk(x0:t0)(x1:t1)(x2:t2)(x3:t3)(h0:p0 x0 x1 x2 x3)(h1:p1 x0 x1 x2 x3)(h2:p2 x0 x1 x2 x3)(h3:p3 x0 x1 x2 x3)(h4:p4 x0 x1 x2 x3)(h5:p5 x0 x1 x2 x3)(h6:p6 x0 x1 x2 x3):X6 p0 p1 p2 p3 p4 p5 p6
inductive Lk{t0 t1 t2 t3 t4:Type}(p0 p1:t0->t1->t2->t3->t4->Prop):Prop
 | mk(x0:t0)(x1:t1)(x2:t2)(x3:t3)(x4:t4)(h0:p0 x0 x1 x2 x3 x4)(h1:p1 x0 x1 x2 x3 x4):Lk p0 p1
inductive X7{t0 t1 t2 t3 t4:Type}(p0 p1 p2:t0->t1->t2->t3->t4->Prop):Prop
 | mk(x0:t0)(x1:t1)(x2:t2)(x3:t3)(x4:t4)(h0:p0 x0 x1 x2 x3 x4)(h1:p1 x0 x1 x2 x3 x4)(h2:p2 x0 x1 x2 x3 x4):X7 p0 p1 p2
inductive X8{t0 t1 t2 t3 t4:Type}(p0 p1 p2 p3 p4:t0->t1->t2->t3->t4->Prop):Prop
 | mk(x0:t0)(x1:t1)(x2:t2)(x3:t3)(x4:t4)(h0:p0 x0 x1 x2 x3 x4)(h1:p1 x0 x1 x2 x3 x4)(h2:p2 x0 x1 x2 x3 x4)(h3:p3 x0 x1 x2 x3 x4)(h4:p4 x0 x1 x2 x3 x4):X8 p0 p1 p2 p3 p4
inductive X9{t0 t1 t2 t3 t4:Type}(p0 p1 p2 p3 p4 p5 p6:t0->t1->t2->t3->t4->Prop):Prop
 | mk(x0:t0)(x1:t1)(x2:t2)(x3:t3)(x4:t4)(h0:p0 x0 x1 x2 x3 x4)(h1:p1 x0 x1 x2 x3 x4)(h2:p2 x0 x1 x2 x3 x4)(h3:p3 x0 x1 x2 x3 x4)(h4:p4 x0 x1 x2 x3 x4)(h5:p5 x0 x1 x2 x3 x4)(h6:p6 x0 x1 x2 x3 x4):X9 p0 p1 p2 p3 p4 p5 p6
inductive Uc{t0 t1 t2 t3 t4:Type}(p0 p1 p2 p3 p4 p5 p6 p7 p8:t0->t1->t2->t3->t4->Prop):Prop
 | mk(x0:t0)(x1:t1)(x2:t2)(x3:t3)(x4:t4)(h0:p0 x0 x1 x2 x3 x4)(h1:p1 x0 x1 x2 x3 x4)(h2:p2 x0 x1 x2 x3 x4)(h3:p3 x0 x1 x2 x3 x4)(h4:p4 x0 x1 x2 x3 x4)(h5:p5 x0 x1 x2 x3 x4)(h6:p6 x0 x1 x2 x3 x4)(h7:p7 x0 x1 x2 x3 x4)(h8:p8 x0 x1 x2 x3 x4):Uc p0 p1 p2 p3 p4 p5 p6 p7 p8
inductive Qy{t0 t1 t2 t3 t4:Type}(p0 p1 p2 p3 p4 p5 p6 p7 p8 p9 WJ:t0->t1->t2->t3->t4->Prop):Prop
 | mk(x0:t0)(x1:t1)(x2:t2)(x3:t3)(x4:t4)(h0:p0 x0 x1 x2 x3 x4)(h1:p1 x0 x1 x2 x3 x4)(h2:p2 x0 x1 x2 x3 x4)(h3:p3 x0 x1 x2 x3 x4)(h4:p4 x0 x1 x2 x3 x4)(h5:p5 x0 x1 x2 x3 x4)(h6:p6 x0 x1 x2 x3 x4)(h7:p7 x0 x1 x2 x3 x4)(h8:p8 x0 x1 x2 x3 x4)(h9:p9 x0 x1 x2 x3 x4)(Yd:WJ x0 x1 x2 x3 x4):Qy p0 p1 p2 p3 p4 p5 p6 p7 p8 p9 WJ
inductive Ud{t0 t1 t2 t3 t4 t5:Type}(p0 p1:t0->t1->t2->t3->t4->t5->Prop):Prop
 | mk(x0:t0)(x1:t1)(x2:t2)(x3:t3)(x4:t4)(x5:t5)(h0:p0 x0 x1 x2 x3 x4 x5)(h1:p1 x0 x1 x2 x3 x4 x5):Ud p0 p1
inductive Ue{t0 t1 t2 t3 t4 t5:Type}(p0 p1 p2 p3 p4 p5 p6:t0->t1->t2->t3->t4->t5->Prop):Prop
 | mk(x0:t0)(x1:t1)(x2:t2)(x3:t3)(x4:t4)(x5:t5)(h0:p0 x0 x1 x2 x3 x4 x5)(h1:p1 x0 x1 x2 x3 x4 x5)(h2:p2 x0 x1 x2 x3 x4 x5)(h3:p3 x0 x1 x2 x3 x4 x5)(h4:p4 x0 x1 x2 x3 x4 x5)(h5:p5 x0 x1 x2 x3 x4 x5)(h6:p6 x0 x1 x2 x3 x4 x5):Ue p0 p1 p2 p3 p4 p5 p6
inductive YA{t0 t1 t2 t3 t4 t5 t6:Type}(p0 p1 p2:t0->t1->t2->t3->t4->t5->t6->Prop):Prop
 | mk(x0:t0)(x1:t1)(x2:t2)(x3:t3)(x4:t4)(x5:t5)(x6:t6)(h0:p0 x0 x1 x2 x3 x4 x5 x6)(h1:p1 x0 x1 x2 x3 x4 x5 x6)(h2:p2 x0 x1 x2 x3 x4 x5 x6):YA p0 p1 p2
inductive Qz{t0 t1 t2 t3 t4 t5 t6:Type}(p0 p1 p2 p3 p4 p5 p6 p7 p8 p9 WJ jp jq jr:t0->t1->t2->t3->t4->t5->t6->Prop):Prop
 | mk(x0:t0)(x1:t1)(x2:t2)(x3:t3)(x4:t4)(x5:t5)(x6:t6)(h0:p0 x0 x1 x2 x3 x4 x5 x6)(h1:p1 x0 x1 x2 x3 x4 x5 x6)(h2:p2 x0 x1 x2 x3 x4 x5 x6)(h3:p3 x0 x1 x2 x3 x4 x5 x6)(h4:p4 x0 x1 x2 x3 x4 x5 x6)(h5:p5 x0 x1 x2 x3 x4 x5 x6)(h6:p6 x0 x1 x2 x3 x4 x5 x6)(h7:p7 x0 x1 x2 x3 x4 x5 x6)(h8:p8 x0 x1 x2 x3 x4 x5 x6)(h9:p9 x0 x1 x2 x3 x4 x5 x6)(Yd:WJ x0 x1 x2 x3 x4 x5 x6)(T5:jp x0 x1 x2 x3 x4 x5 x6)(h12:jq x0 x1 x2 x3 x4 x5 x6)(h13:jr x0 x1 x2 x3 x4 x5 x6):Qz p0 p1 p2 p3 p4 p5 p6 p7 p8 p9 WJ jp jq jr
inductive YB{t0 t1 t2 t3 t4 t5 t6 t7 t8:Type}(p0 p1 p2 p3 p4:t0->t1->t2->t3->t4->t5->t6->t7->t8->Prop):Prop
 | mk(x0:t0)(x1:t1)(x2:t2)(x3:t3)(x4:t4)(x5:t5)(x6:t6)(x7:t7)(x8:t8)(h0:p0 x0 x1 x2 x3 x4 x5 x6 x7 x8)(h1:p1 x0 x1 x2 x3 x4 x5 x6 x7 x8)(h2:p2 x0 x1 x2 x3 x4 x5 x6 x7 x8)(h3:p3 x0 x1 x2 x3 x4 x5 x6 x7 x8)(h4:p4 x0 x1 x2 x3 x4 x5 x6 x7 x8):YB p0 p1 p2 p3 p4
theorem n1{a b d:Nat}(h:d<a):a - 1 - b<a:=Nat.lt_of_le_of_lt (Nat.sub_le _ _) (Nat.sub_lt (Nat.zero_lt_of_lt h) Nat.one_pos)
theorem n2{a b:Nat}(h:b<a):a - 1 - b+b+1=a:=(congrArg (· + 1) (Nat.sub_add_cancel (Nat.le_sub_one_of_lt h))).trans (Nat.sub_add_cancel (Nat.zero_lt_of_lt h))
theorem n3{a b:Nat}(h:b<a):((a - 1 - b:Nat):Int)=a - 1 - b:=by
 rw[Nat.sub_sub,Int.ofNat_sub (Nat.add_comm b 1▸h),Int.natCast_add];exact (Int.sub_sub _ _ _).symm
theorem n4{s n r:Nat}(h:s=n - r+(r - n)):s<=n+r:=h▸Nat.add_le_add (Nat.sub_le _ _) (Nat.sub_le _ _)
theorem n5{m n:Nat}: m - min n m=m - n:=(Nat.le_total n m).elim (fun h=>by rw[Nat.min_eq_left h]) fun h=>by rw[Nat.min_eq_right h,Nat.sub_self,Nat.sub_eq_zero_of_le h]
theorem n6{m n:Nat}: (if (m:Int)<n then (m:Int) else n)=(min n m:Nat):=by
 by_cases h:m<n
 ·rw[if_pos (Int.ofNat_lt.mpr h),Nat.min_eq_right (Nat.le_of_lt h)]
 ·rw[if_neg (fun q=>h (Int.ofNat_lt.mp q)),Nat.min_eq_left (Nat.not_lt.mp h)]
theorem n8{h i j f:Nat}(e:h+(i - f)=h+(j - f))(hi: ¬ i<f)(hj: ¬ j<f):i=j:=
 (Nat.sub_add_cancel (Nat.not_lt.mp hi)).symm.trans ((congrArg (· + f) (Nat.add_left_cancel e)).trans (Nat.sub_add_cancel (Nat.not_lt.mp hj)))
theorem n9{c s n p:Nat}(hc:c<70000)(hp:p<=2)(hn:n<=1000)(h:s=n - p+(p - n)):c+s+5<71010:=
 Nat.lt_trans (Nat.add_lt_add_right (Nat.add_lt_add_of_lt_of_le hc (Nat.le_trans (n4 h) (Nat.add_le_add hn hp))) 5) (by decide)
theorem V1{k a:Nat}(h:a+1<=k):k - (a+1)+1=k - a:=by
 rw[<- Nat.sub_sub];exact Nat.sub_add_cancel (Nat.le_sub_of_add_le (Nat.add_comm a 1▸h))
theorem RU{n a b:Nat}(h:a<=n)(hb:b<a):n - a+b<n:=Nat.lt_of_lt_of_eq (Nat.add_lt_add_left hb _) (Nat.sub_add_cancel h)
theorem V2{a:Int}: a<=a+1:=Int.le_of_lt (Int.lt_add_one_of_le (Int.le_refl a))
theorem n14{a b:Int}{n:Nat}(h:(n:Int)<=b): ¬ (b<n):=Int.not_lt.mpr h
theorem sr{m:Int}{n:Nat}(h:4<=m)(k:m<4+n):(m - 4).toNat<n:=(Int.toNat_lt (Int.sub_nonneg_of_le h)).mpr (Int.sub_left_lt_of_lt_add k)
theorem Xa{m:Int}(h:4<=m):4+((m - 4).toNat:Int)=m:=by rw[Int.toNat_of_nonneg (Int.sub_nonneg_of_le h),Int.add_comm];exact Int.sub_add_cancel m 4
end Mine
namespace Mine
open PySem PySem.W PyProof.Rows
noncomputable abbrev PW:=PySem.Challenge.pw_nm0168_03
noncomputable def vS(s:String)(t:Nat):Value:=.str (Str.ofString s) t
noncomputable def en(P:Params)(s:String)(t:Nat)(v:Value):DictEntry:=⟨PyData.keyHash P (Str.ofString s),vS s t,v⟩
noncomputable def cI(i:Nat):Stmt:=(PW.main.body[i]?).getD (.Pass default)
noncomputable def cW(i j:Nat):Stmt:=match cI i with
 | .ClassDef _ _ _ b _ _ _ _ _ _ _=>(b[j]?).getD (.Pass default)
 | s=>s
noncomputable def Ut(s:Stmt)(q:String)(m cd:Value)(g bi:Nat):Data:=match s with
 | .FunctionDef n a b _ _ _ sc _ _ _=>.func { name:=n,qualname:=Str.ofString q,params:=a,body:=.stmts b,scope:=sc,globals:=g,closure:=[],defaults:=.none,kwdefaults:=.none,pyModule:=m,code:=cd,builtins:=bi }
 | _=>.plain
noncomputable def zi(i:Int):Value:=.int i 0
noncomputable def zr(n:Nat):Value:=.ref n
noncomputable def zt(xs:List Value):Obj:=⟨.type "tuple",none,.seq xs.toArray 0,#[]⟩
noncomputable def z0:Obj:=⟨.type "tuple",none,.seq #[] 0,#[]⟩
noncomputable def zs:Nat->List String->List Value
 | _,[]=>[]
 | n,s::r=>vS s n::zs (n+1) r
noncomputable def zn(n:Nat)(l:List String):Obj:=zt (zs n l)
noncomputable def ze:Obj:=⟨.none,none,.fields #[],#[]⟩
noncomputable def zg(s:Stmt)(q:String):Obj:=⟨.none,none,Ut s q .none .none 0 0,#[]⟩
noncomputable def zf(s:Stmt)(q m:String)(t r:Nat):Obj:=⟨.type "function",none,Ut s q (vS m t) (.ref r) 3 0,#[]⟩
noncomputable def zc(n q:String)(t:Nat)(l a b c d:Int)(r1:Nat)(e:Bool)(r2:Nat)(v3 v4 v5:Value)(k:Nat):Obj:=⟨.type "code",none,.fields #[vS n t,vS q (t+1),vS "/claim/cut.py" (t+2),.int l 0,.int a 0,.int b 0,.int c 0,.int d 0,.ref r1,.bool e,.int 181 0,.ref r2,.none,v3,v4,v5,.int ((t+k:Nat):Int) 0,.int l 0,vS "/claim/cut.py" (t+k+1)],#[]⟩
noncomputable def zd(P:Params)(xs:List (String×Nat×Value)):Obj:=⟨.type "dict",none,.dict (xs.map fun e=>en P e.1 e.2.1 e.2.2).toArray xs.length,#[]⟩
noncomputable def aq{α:Type}: List α->List α
 | []=>[]
 | [x]=>[x]
 | x::_::r=>x::aq r
noncomputable def R1:Nat->List Obj->BT
 | 0,_=>.nil
 | _,[]=>.nil
 | n+1,x::r=>.node x (R1 n (aq r)) (R1 n (aq r.tail))
noncomputable def fl:List Value:=[zi 1,zi 0,zr 20,zi 13,zi 0,zr 29,zi 15,zi 0,zr 36,zi 17,zi 0,zr 43,zi 64,zi 0,zr 71,zi 69,zi 0,zr 91,zi 96,zi 0,zr 105,zi 104,zi 0,zr 126,zi 106,zi 0,zr 133,zi 108,zi 0,zr 140,zi 110,zi 0,zr 147,zi 114,zi 0,zr 154,zi 116,zi 0,zr 161,zi 122,zi 0,zr 166,zi 140,zi 0,zr 174,zi 151,zi 0,zr 195,zi 328,zi 0,zr 385,zi 330,zi 0,zr 392,zi 333,zi 0,zr 399,zi 335,zi 0,zr 406,zi 340,zi 0,zr 413,zi 350,zi 0,zr 420,zi 364,zi 0,zr 427,zi 369,zi 0,zr 434,zi 380,zi 0,zr 441,zi 398,zi 0,zr 448,zi 402,zi 0,zr 455,zi 405,zi 0,zr 462,zi 415,zi 0,zr 469,zi 428,zi 0,zr 476,zi 430,zi 0,zr 483,zi 447,zi 0,zr 490,zi 449,zi 0,zr 497,zi 452,zi 0,zr 504,zi 456,zi 0,zr 511,zi 458,zi 0,zr 518,zi 461,zi 0,zr 525,zi 464,zi 0,zr 532,zi 466,zi 0,zr 539,zi 472,zi 0,zr 546,zi 474,zi 0,zr 553,zi 478,zi 0,zr 560,zi 483,zi 0,zr 567,zi 485,zi 0,zr 574,zi 487,zi 0,zr 581,zi 492,zi 0,zr 588,zi 496,zi 0,zr 595,zi 500,zi 0,zr 602,zi 505,zi 0,zr 609,zi 507,zi 0,zr 616,zi 511,zi 0,zr 623,zi 524,zi 0,zr 633,zi 530,zi 0,zr 640,zi 540,zi 0,zr 668,zi 549,zi 0,zr 696,zi 558,zi 0,zr 724,zi 569,zi 0,zr 752,zi 579,zi 0,zr 780,zi 588,zi 0,zr 808,zi 655,zi 0,zr 921,zi 657,zi 0,zr 926,zi 660,zi 0,zr 933,zi 663,zi 0,zr 941,zi 667,zi 0,zr 948,zi 673,zi 0,zr 955,zi 678,zi 0,zr 960,zi 696,zi 0,zr 967,zi 714,zi 0,zr 974,zi 719,zi 0,zr 981,zi 734,zi 0,zr 988,zi 744,zi 0,zr 993,zi 769,zi 0,zr 1000,zi 774,zi 0,zr 1005,zi 789,zi 0,zr 1012]
noncomputable def gl:List (String×Nat×Value):=[("__doc__",166,.none),("__package__",167,.none),("__loader__",168,(.builtin "__main__.__loader__#opaque")),("__spec__",169,.none),("__annotations__",170,(zr 6)),("__builtins__",171,(zr 4)),("__file__",173,(vS "/claim/cut.py" 172)),("__cached__",174,.none),("_wall",193,(zr 21)),("I32",198,(.int (-1) 197)),("I64",201,(.int (-2) 200)),("FUNCREF",204,(.int (-16) 203)),("EXTERNREF",207,(.int (-17) 206)),("EMPTY",210,(.int (-64) 209)),("FUNCTION",212,(.int (0) 211)),("KIND_NAMES",221,(zr 22)),("HEAP_NAMES",226,(zr 23)),("is_ref",233,(zr 30)),("default_value",240,(zr 37)),("block_kind",248,(zr 44)),("UNREACHABLE",250,(.int (0) 249)),("NOP",252,(.int (1) 251)),("BLOCK",254,(.int (2) 253)),("LOOP",256,(.int (3) 255)),("IF",258,(.int (4) 257)),("ELSE",260,(.int (5) 259)),("END",262,(.int (11) 261)),("BR",264,(.int (12) 263)),("BR_IF",266,(.int (13) 265)),("BR_TABLE",268,(.int (14) 267)),("RETURN_CALL",270,(.int (18) 269)),("RETURN_CALL_INDIRECT",272,(.int (19) 271)),("DROP",274,(.int (26) 273)),("SELECT_KINDS",276,(.int (28) 275)),("LOCAL_GET",278,(.int (32) 277)),("LOCAL_SET",280,(.int (33) 279)),("LOCAL_TEE",282,(.int (34) 281)),("GLOBAL_GET",284,(.int (35) 283)),("GLOBAL_SET",286,(.int (36) 285)),("TABLE_GET",288,(.int (37) 287)),("TABLE_SET",290,(.int (38) 289)),("MEMORY_SIZE",292,(.int (63) 291)),("MEMORY_GROW",294,(.int (64) 293)),("I32_CONST",296,(.int (65) 295)),("I64_CONST",298,(.int (66) 297)),("REF_NULL",300,(.int (208) 299)),("REF_IS_NULL",302,(.int (209) 301)),("REF_FUNC",304,(.int (210) 303)),("MEMORY_INIT",306,(.int (64520) 305)),("DATA_DROP",308,(.int (64521) 307)),("MEMORY_COPY",310,(.int (64522) 309)),("MEMORY_FILL",312,(.int (64523) 311)),("TABLE_INIT",314,(.int (64524) 313)),("ELEM_DROP",316,(.int (64525) 315)),("TABLE_COPY",318,(.int (64526) 317)),("TABLE_GROW",320,(.int (64527) 319)),("TABLE_SIZE",322,(.int (64528) 321)),("TABLE_FILL",324,(.int (64529) 323)),("LOADS",373,(zr 45)),("STORES",395,(zr 58)),("WasmFault",426,(zr 82)),("Misused",442,(zr 95)),("MOVE",446,(.int (256) 445)),("CONST",448,(.int (257) 447)),("SELECT",450,(.int (258) 449)),("JUMP",452,(.int (259) 451)),("JUMP_IF",454,(.int (260) 453)),("JUMP_UNLESS",456,(.int (261) 455)),("JUMP_TABLE",458,(.int (262) 457)),("CALL",460,(.int (263) 459)),("CALL_INDIRECT",462,(.int (264) 461)),("TAIL",464,(.int (265) 463)),("TAIL_INDIRECT",466,(.int (266) 465)),("RETURN",468,(.int (267) 467)),("ON",470,(.int (4096) 469)),("OFF",472,(.int (8192) 471)),("TWO_N",474,(.int (16384) 473)),("ON_N",476,(.int (20480) 475)),("OFF_N",478,(.int (24576) 477)),("EQZ_32",480,(.int (69) 479)),("EQZ_64",482,(.int (80) 481)),("LAST_COMPARE",484,(.int (90) 483)),("LAST_NUMBER_CODE",486,(.int (196) 485)),("ONE_PLACES",501,(zr 98)),("GOAL_CODES",502,(zr 99)),("MOST_THREADS",504,(.int (8) 503)),("Rows",541,(zr 116)),("is_one_place",548,(zr 127)),("is_reckoning",555,(zr 134)),("is_compare",562,(zr 141)),("has_goal",569,(zr 148)),("is_jump",576,(zr 155)),("threaded",587,(zr 162)),("resolved",593,(zr 167)),("WASM_RETURN",597,(.int (15) 596)),("WASM_CALL",599,(.int (16) 598)),("WASM_CALL_INDIRECT",601,(.int (17) 600)),("WASM_SELECT",603,(.int (27) 602)),("PLACE",605,(.int (0) 604)),("NUMBER",607,(.int (1) 606)),("TURNABLE",622,(zr 168)),("Frame",661,(zr 185)),("Compiler",938,(zr 375)),("do_nothing",946,(zr 386)),("do_unreachable",954,(zr 393)),("do_block",962,(zr 400)),("do_if",972,(zr 407)),("do_else",981,(zr 414)),("do_end",990,(zr 421)),("do_br",1001,(zr 428)),("do_br_if",1014,(zr 435)),("do_br_table",1030,(zr 442)),("do_return",1038,(zr 449)),("put_results",1047,(zr 456)),("do_call",1058,(zr 463)),("do_call_indirect",1073,(zr 470)),("do_drop",1081,(zr 477)),("do_select",1094,(zr 484)),("do_local_get",1102,(zr 491)),("do_local_set",1111,(zr 498)),("do_local_tee",1120,(zr 505)),("do_global_get",1128,(zr 512)),("do_global_set",1137,(zr 519)),("do_constant",1146,(zr 526)),("do_ref_null",1154,(zr 533)),("do_ref_is_null",1164,(zr 540)),("do_ref_func",1172,(zr 547)),("do_load",1182,(zr 554)),("do_store",1193,(zr 561)),("do_memory_size",1201,(zr 568)),("do_drop_segment",1209,(zr 575)),("do_three",1219,(zr 582)),("do_table_get",1229,(zr 589)),("do_table_set",1238,(zr 596)),("do_table_grow",1247,(zr 603)),("do_table_size",1255,(zr 610)),("do_one",1265,(zr 617)),("do_two",1278,(zr 624)),("DOERS",1320,(zr 625)),("rows_of",1329,(zr 634)),("Import",1373,(zr 658)),("Func",1413,(zr 686)),("Global",1453,(zr 714)),("Elem",1497,(zr 742)),("Data",1539,(zr 770)),("Custom",1579,(zr 798)),("Module",1719,(zr 911)),("copied_body",1726,(zr 922)),("copied_elem",1732,(zr 927)),("_law_kinds",1740,(zr 934)),("_law_twos",1748,(zr 935)),("_law_next",1756,(zr 942)),("_law_fill",1766,(zr 949)),("_law_shut",1776,(zr 956)),("_law_jump",1782,(zr 961)),("_law_block",1800,(zr 968)),("_law_items",1811,(zr 975)),("_law_item",1824,(zr 982)),("_law_module",1835,(zr 989)),("_law_row",1841,(zr 994)),("_law_is_bare",1852,(zr 1001)),("_law_after",1858,(zr 1006)),("law",1873,(zr 1013))]
noncomputable def zw(n q:String)(t:Nat)(l a b c d:Int)(r:Nat)(x:Nat):Obj:=⟨.type "code",none,.fields #[vS n t,vS q (t+1),vS "/claim/cut.py" (t+2),zi l,zi a,zi b,zi c,zi d,zr r,.bool true,zi 181,zr (r+1),.none,zr (r+2),zr (r+3),zr (r+4),zi x,zi l,vS "/claim/cut.py" (x+1)],#[]⟩
noncomputable def tc(P:Params):List Obj:=[z0,⟨.none,none,(.fields fl.toArray),#[]⟩,zc "<module>" "<module>" 182 1 0 0 0 0 11 false 12 .none .none .none 3,⟨.type "frame",none,.plain,#[(some (zr 13)),(some (zr 3)),(some (zr 3)),none,(some (vS "__main__" 164)),none,(some (zr 0))]⟩,z0,ze,zn 190 ["k"],z0,zg (cI 0) "_wall",zc "_wall" "_wall" 187 1 1 0 0 3 15 true 16 (zr 17) (zr 18) (zr 19) 4,zf (cI 0) "_wall" "__main__" 164 20,⟨.type "dict",none,(.dict #[⟨(-2),.int (-1) 197,(vS "i32" 213)⟩,⟨(-2),.int (-2) 200,(vS "i64" 214)⟩,⟨(-16),.int (-16) 203,(vS "funcref" 215)⟩,⟨(-17),.int (-17) 206,(vS "externref" 216)⟩] 4),#[]⟩,⟨.type "dict",none,(.dict #[⟨(-16),.int (-16) 203,(vS "func" 222)⟩,⟨(-17),.int (-17) 206,(vS "extern" 223)⟩] 2),#[]⟩,z0,ze,zn 230 ["kind"],z0,zg (cI 10) "is_ref",zc "is_ref" "is_ref" 227 13 1 0 0 3 24 true 25 (zr 26) (zr 27) (zr 28) 4,zf (cI 10) "is_ref" "wasmcore.kinds" 194 29,z0,ze,zn 237 ["kind"],z0,zg (cI 11) "default_value",zc "default_value" "default_value" 234 15 1 0 0 3 31 true 32 (zr 33) (zr 34) (zr 35) 4,zf (cI 11) "default_value" "wasmcore.kinds" 194 36,z0,ze,zn 244 ["kinds","told"],z0,zg (cI 12) "block_kind",zw "block_kind" "block_kind" 241 17 2 0 0 3 38 246,zf (cI 12) "block_kind" "wasmcore.kinds" 194 43,⟨.type "dict",none,(.dict #[⟨(40),.int (40) 325,(zr 46)⟩,⟨(41),.int (41) 328,(zr 47)⟩,⟨(44),.int (44) 331,(zr 48)⟩,⟨(45),.int (45) 334,(zr 49)⟩,⟨(46),.int (46) 337,(zr 50)⟩,⟨(47),.int (47) 340,(zr 51)⟩,⟨(48),.int (48) 343,(zr 52)⟩,⟨(49),.int (49) 346,(zr 53)⟩,⟨(50),.int (50) 349,(zr 54)⟩,⟨(51),.int (51) 352,(zr 55)⟩,⟨(52),.int (52) 355,(zr 56)⟩,⟨(53),.int (53) 358,(zr 57)⟩] 12),#[]⟩,zt [.int (-1) 197,.int (4) 326,.int (0) 327],zt [.int (-2) 200,.int (8) 329,.int (0) 330],zt [.int (-1) 197,.int (1) 332,.int (1) 333],zt [.int (-1) 197,.int (1) 335,.int (0) 336],zt [.int (-1) 197,.int (2) 338,.int (1) 339],zt [.int (-1) 197,.int (2) 341,.int (0) 342],zt [.int (-2) 200,.int (1) 344,.int (1) 345],zt [.int (-2) 200,.int (1) 347,.int (0) 348],zt [.int (-2) 200,.int (2) 350,.int (1) 351],zt [.int (-2) 200,.int (2) 353,.int (0) 354],zt [.int (-2) 200,.int (4) 356,.int (1) 357],zt [.int (-2) 200,.int (4) 359,.int (0) 360],⟨.type "dict",none,(.dict #[⟨(54),.int (54) 374,(zr 59)⟩,⟨(55),.int (55) 376,(zr 60)⟩,⟨(58),.int (58) 378,(zr 61)⟩,⟨(59),.int (59) 380,(zr 62)⟩,⟨(60),.int (60) 382,(zr 63)⟩,⟨(61),.int (61) 384,(zr 64)⟩,⟨(62),.int (62) 386,(zr 65)⟩] 7),#[]⟩,zt [.int (-1) 197,.int (4) 375],zt [.int (-2) 200,.int (8) 377],zt [.int (-1) 197,.int (1) 379],zt [.int (-1) 197,.int (2) 381],zt [.int (-2) 200,.int (1) 383],zt [.int (-2) 200,.int (2) 385],zt [.int (-2) 200,.int (4) 387],zt [.type "Exception"],⟨.type "builtin_function_or_method",none,(.fields #[(.builtin "type.__prepare__"),.type "type"]),#[]⟩,zd P [("__module__",405,(vS "wasmcore.faults" 396)),("__qualname__",407,(vS "WasmFault" 406)),("__firstlineno__",409,(.int (64) 408)),("__init__",417,(zr 79)),("__static_attributes__",419,(zr 80))],z0,⟨.none,none,(.fields #[zi 66,zi 4,zr 78]),#[]⟩,zc "WasmFault" "WasmFault" 400 64 0 0 0 0 69 false 70 .none .none .none 3,⟨.type "frame",none,.plain,#[(some (zr 71)),(some (zr 3)),(some (zr 68)),none,(some (vS "wasmcore.faults" 396)),none,(some (zr 0))]⟩,z0,ze,zn 413 ["self","why"],z0,zg (cW 54 0) "WasmFault.__init__",zw "__init__" "WasmFault.__init__" 410 66 2 0 0 3 73 415,zf (cW 54 0) "WasmFault.__init__" "wasmcore.faults" 396 78,zn 418 ["why"],⟨.type "dict",none,(.dict #[en P "__module__" 405 (vS "wasmcore.faults" 396),en P "__firstlineno__" 409 (.int (64) 408),en P "__init__" 417 (zr 79),en P "__static_attributes__" 419 (zr 80),en P "__weakref__" 421 (zr 83),en P "__doc__" 422 .none] 3),#[]⟩,⟨.type "type",none,(.cls ⟨"WasmFault",[.type "Exception"],[zr 82,.type "Exception",.type "BaseException",.type "object"],81,"WasmFault",true,[],[zr 95],false,none,false⟩),#[(some (zr 66)),none,(some (vS "WasmFault" 398)),(some (vS "WasmFault" 406)),(some (.builtin "Exception.__new__")),(some (.bool true))]⟩,⟨.type "getset_descriptor",none,(.fields #[vS "__weakref__" 420,zr 82,(.builtin "ExceptionGroup.__weakref__"),.none]),#[]⟩,⟨.type "super",none,(.fields #[zr 82,zr 82,zr 82]),#[]⟩,⟨.type "builtin_function_or_method",none,(.fields #[(.builtin "object.__init_subclass__"),zr 82]),#[]⟩,zt [zr 82],⟨.type "builtin_function_or_method",none,(.fields #[(.builtin "type.__prepare__"),.type "type"]),#[]⟩,zd P [("__module__",434,(vS "wasmcore.faults" 396)),("__qualname__",436,(vS "Misused" 435)),("__firstlineno__",438,(.int (69) 437)),("__static_attributes__",439,(zr 93))],z0,ze,zc "Misused" "Misused" 429 69 0 0 0 0 89 false 90 .none .none .none 3,⟨.type "frame",none,.plain,#[(some (zr 91)),(some (zr 3)),(some (zr 88)),none,(some (vS "wasmcore.faults" 396)),none,(some (zr 0))]⟩,z0,⟨.type "dict",none,(.dict #[en P "__module__" 434 (vS "wasmcore.faults" 396),en P "__firstlineno__" 438 (.int (69) 437),en P "__static_attributes__" 439 (zr 93),en P "__doc__" 440 .none] 2),#[]⟩,⟨.type "type",none,(.cls ⟨"Misused",[zr 82],[zr 95,zr 82,.type "Exception",.type "BaseException",.type "object"],94,"Misused",true,[],[],false,none,false⟩),#[(some (zr 86)),none,(some (vS "Misused" 427)),(some (vS "Misused" 435)),(some (.builtin "Exception.__new__")),(some (.bool true))]⟩,⟨.type "super",none,(.fields #[zr 95,zr 95,zr 95]),#[]⟩,⟨.type "builtin_function_or_method",none,(.fields #[(.builtin "object.__init_subclass__"),zr 95]),#[]⟩,zt [.int (69) 479,.int (80) 481,.int (103) 487,.int (104) 488,.int (105) 489,.int (121) 490,.int (122) 491,.int (123) 492,.int (167) 493,.int (172) 494,.int (173) 495,.int (192) 496,.int (193) 497,.int (194) 498,.int (195) 499,.int (196) 500,.int (64) 293],zt [.int (35) 283,.int (37) 287,.int (63) 291,.int (64) 293,.int (209) 301,.int (210) 303,.int (64528) 321,.int (256) 445,.int (257) 447],z0,⟨.type "builtin_function_or_method",none,(.fields #[(.builtin "type.__prepare__"),.type "type"]),#[]⟩,zd P [("__module__",512,(vS "wasmcore.rowparts" 443)),("__qualname__",514,(vS "Rows" 513)),("__firstlineno__",516,(.int (96) 515)),("__init__",528,(zr 113)),("__static_attributes__",534,(zr 114))],z0,⟨.none,none,(.fields #[zi 98,zi 4,zr 112]),#[]⟩,zc "Rows" "Rows" 507 96 0 0 0 0 103 false 104 .none .none .none 3,⟨.type "frame",none,.plain,#[(some (zr 105)),(some (zr 3)),(some (zr 102)),none,(some (vS "wasmcore.rowparts" 443)),none,(some (zr 0))]⟩,z0,ze,zn 520 ["self","rows","slots","params","zeros","results"],z0]
noncomputable def td(P:Params):List Obj:=[zg (cW 81 0) "Rows.__init__",zw "__init__" "Rows.__init__" 517 98 6 0 0 3 107 526,zf (cW 81 0) "Rows.__init__" "wasmcore.rowparts" 443 112,zn 529 ["params","results","rows","slots","zeros"],⟨.type "dict",none,(.dict #[en P "__module__" 512 (vS "wasmcore.rowparts" 443),en P "__firstlineno__" 516 (.int (96) 515),en P "__init__" 528 (zr 113),en P "__static_attributes__" 534 (zr 114),en P "__dict__" 536 (zr 117),en P "__weakref__" 538 (zr 118),en P "__doc__" 539 .none] 4),#[]⟩,⟨.type "type",none,(.cls ⟨"Rows",[.type "object"],[zr 116,.type "object"],115,"Rows",true,[],[],false,none,false⟩),#[none,none,(some (vS "Rows" 505)),(some (vS "Rows" 513)),(some (.builtin "object.__new__")),(some (.bool true))]⟩,⟨.type "getset_descriptor",none,(.fields #[vS "__dict__" 535,zr 116,(.builtin "function.__dict__"),(.builtin "function.__dict__#set")]),#[]⟩,⟨.type "getset_descriptor",none,(.fields #[vS "__weakref__" 537,zr 116,(.builtin "ExceptionGroup.__weakref__"),.none]),#[]⟩,⟨.type "super",none,(.fields #[zr 116,zr 116,zr 116]),#[]⟩,⟨.type "builtin_function_or_method",none,(.fields #[(.builtin "object.__init_subclass__"),zr 116]),#[]⟩,z0,ze,zn 545 ["code"],z0,zg (cI 82) "is_one_place",zc "is_one_place" "is_one_place" 542 104 1 0 0 3 121 true 122 (zr 123) (zr 124) (zr 125) 4,zf (cI 82) "is_one_place" "wasmcore.rowparts" 443 126,z0,ze,zn 552 ["code"],z0,zg (cI 83) "is_reckoning",zc "is_reckoning" "is_reckoning" 549 106 1 0 0 3 128 true 129 (zr 130) (zr 131) (zr 132) 4,zf (cI 83) "is_reckoning" "wasmcore.rowparts" 443 133,z0,ze,zn 559 ["code"],z0,zg (cI 84) "is_compare",zc "is_compare" "is_compare" 556 108 1 0 0 3 135 true 136 (zr 137) (zr 138) (zr 139) 4,zf (cI 84) "is_compare" "wasmcore.rowparts" 443 140,z0,ze,zn 566 ["op"],z0,zg (cI 85) "has_goal",zc "has_goal" "has_goal" 563 110 1 0 0 3 142 true 143 (zr 144) (zr 145) (zr 146) 4,zf (cI 85) "has_goal" "wasmcore.rowparts" 443 147,z0,ze,zn 573 ["op"],z0,zg (cI 86) "is_jump",zc "is_jump" "is_jump" 570 114 1 0 0 3 149 true 150 (zr 151) (zr 152) (zr 153) 4,zf (cI 86) "is_jump" "wasmcore.rowparts" 443 154,z0,ze,zn 580 ["rows","labels","label","at","turn"],z0,zg (cI 87) "threaded",zw "threaded" "threaded" 577 116 3 0 0 3 156 585,zf (cI 87) "threaded" "wasmcore.rowparts" 443 161,z0,ze,zg (cI 88) "resolved",zc "resolved" "resolved" 588 122 2 0 0 3 163 true 164 .none .none (zr 165) 3,zf (cI 88) "resolved" "wasmcore.rowparts" 443 166,zt [.int (70) 608,.int (71) 609,.int (81) 610,.int (82) 611,.int (106) 612,.int (108) 613,.int (113) 614,.int (114) 615,.int (115) 616,.int (124) 617,.int (126) 618,.int (131) 619,.int (132) 620,.int (133) 621],z0,⟨.type "builtin_function_or_method",none,(.fields #[(.builtin "type.__prepare__"),.type "type"]),#[]⟩,zd P [("__module__",630,(vS "wasmcore.rows" 594)),("__qualname__",632,(vS "Frame" 631)),("__firstlineno__",634,(.int (140) 633)),("__init__",645,(zr 182)),("__static_attributes__",654,(zr 183))],z0,⟨.none,none,(.fields #[zi 142,zi 4,zr 181]),#[]⟩,zc "Frame" "Frame" 625 140 0 0 0 0 172 false 173 .none .none .none 3,⟨.type "frame",none,.plain,#[(some (zr 174)),(some (zr 3)),(some (zr 171)),none,(some (vS "wasmcore.rows" 594)),none,(some (zr 0))]⟩,z0,ze,zn 638 ["self","code","height","params","results"],z0,zg (cW 97 0) "Frame.__init__",zw "__init__" "Frame.__init__" 635 142 5 0 0 3 176 643,zf (cW 97 0) "Frame.__init__" "wasmcore.rows" 594 181,zn 646 ["begin_label","code","else_label","end_label","height","is_used","params","results"],⟨.type "dict",none,(.dict #[en P "__module__" 630 (vS "wasmcore.rows" 594),en P "__firstlineno__" 634 (.int (140) 633),en P "__init__" 645 (zr 182),en P "__static_attributes__" 654 (zr 183),en P "__dict__" 656 (zr 186),en P "__weakref__" 658 (zr 187),en P "__doc__" 659 .none] 4),#[]⟩,⟨.type "type",none,(.cls ⟨"Frame",[.type "object"],[zr 185,.type "object"],184,"Frame",true,[],[],false,none,false⟩),#[none,none,(some (vS "Frame" 623)),(some (vS "Frame" 631)),(some (.builtin "object.__new__")),(some (.bool true))]⟩,⟨.type "getset_descriptor",none,(.fields #[vS "__dict__" 655,zr 185,(.builtin "function.__dict__"),(.builtin "function.__dict__#set")]),#[]⟩,⟨.type "getset_descriptor",none,(.fields #[vS "__weakref__" 657,zr 185,(.builtin "ExceptionGroup.__weakref__"),.none]),#[]⟩,⟨.type "super",none,(.fields #[zr 185,zr 185,zr 185]),#[]⟩,⟨.type "builtin_function_or_method",none,(.fields #[(.builtin "object.__init_subclass__"),zr 185]),#[]⟩,z0,⟨.type "builtin_function_or_method",none,(.fields #[(.builtin "type.__prepare__"),.type "type"]),#[]⟩,zd P [("__module__",669,(vS "wasmcore.rows" 594)),("__qualname__",671,(vS "Compiler" 670)),("__firstlineno__",673,(.int (151) 672)),("__init__",684,(zr 203)),("label",691,(zr 210)),("put_label",699,(zr 217)),("emit",710,(zr 224)),("home",718,(zr 231)),("push",726,(zr 238)),("push_home",734,(zr 245)),("pop",741,(zr 252)),("put",752,(zr 259)),("slot_of",763,(zr 266)),("settle",771,(zr 273)),("settle_top",781,(zr 280)),("settle_all",788,(zr 287)),("drop_top",797,(zr 294)),("save_local",808,(zr 301)),("stack_of_height",814,(zr 306)),("put_local",830,(zr 313)),("condition",844,(zr 320)),("branch",857,(zr 327)),("goal",866,(zr 334)),("is_there",872,(zr 339)),("move_to",883,(zr 346)),("open_block",895,(zr 353)),("die",902,(zr 360)),("all_rows",908,(zr 365)),("take",918,(zr 372)),("__static_attributes__",931,(zr 373))],z0,⟨.none,none,(.fields #[zi 153,zi 4,zr 202,zi 168,zi 4,zr 209,zi 172,zi 4,zr 216,zi 176,zi 4,zr 223,zi 179,zi 4,zr 230,zi 182,zi 4,zr 237,zi 186,zi 4,zr 244,zi 191,zi 4,zr 251,zi 194,zi 4,zr 258,zi 201,zi 4,zr 265,zi 208,zi 4,zr 272,zi 212,zi 4,zr 279,zi 218,zi 4,zr 286,zi 221,zi 4,zr 293,zi 225,zi 4,zr 300,zi 233,zi 4,zr 305,zi 236,zi 4,zr 312,zi 245,zi 4,zr 319,zi 256,zi 4,zr 326,zi 270,zi 4,zr 333,zi 277,zi 4,zr 338,zi 282,zi 4,zr 345,zi 287,zi 4,zr 352,zi 298,zi 4,zr 359,zi 301,zi 4,zr 364,zi 309,zi 4,zr 371]),#[]⟩,zc "Compiler" "Compiler" 664 151 0 0 0 0 193 false 194 .none .none .none 3,⟨.type "frame",none,.plain,#[(some (zr 195)),(some (zr 3)),(some (zr 192)),none,(some (vS "wasmcore.rows" 594)),none,(some (zr 0))]⟩,z0,ze,zn 677 ["self","module","func","params","results"],z0,zg (cW 98 0) "Compiler.__init__",zw "__init__" "Compiler.__init__" 674 153 3 0 0 3 197 682,zf (cW 98 0) "Compiler.__init__" "wasmcore.rows" 594 202,z0,ze,zn 688 ["self"],z0,zg (cW 98 1) "Compiler.label",zc "label" "Compiler.label" 685 168 1 0 0 3 204 true 205 (zr 206) (zr 207) (zr 208) 4,zf (cW 98 1) "Compiler.label" "wasmcore.rows" 594 209]
noncomputable def te(P:Params):List Obj:=[z0,ze,zn 695 ["self","label"],z0,zg (cW 98 2) "Compiler.put_label",zw "put_label" "Compiler.put_label" 692 172 2 0 0 3 211 697,zf (cW 98 2) "Compiler.put_label" "wasmcore.rows" 594 216,z0,ze,zn 703 ["self","op","a","b","c"],z0,zg (cW 98 3) "Compiler.emit",zw "emit" "Compiler.emit" 700 176 5 0 0 3 218 708,zf (cW 98 3) "Compiler.emit" "wasmcore.rows" 594 223,z0,ze,zn 714 ["self","height"],z0,zg (cW 98 4) "Compiler.home",zw "home" "Compiler.home" 711 179 2 0 0 3 225 716,zf (cW 98 4) "Compiler.home" "wasmcore.rows" 594 230,z0,ze,zn 722 ["self","entry"],z0,zg (cW 98 5) "Compiler.push",zw "push" "Compiler.push" 719 182 2 0 0 3 232 724,zf (cW 98 5) "Compiler.push" "wasmcore.rows" 594 237,z0,ze,zn 730 ["self","slot"],z0,zg (cW 98 6) "Compiler.push_home",zw "push_home" "Compiler.push_home" 727 186 1 0 0 3 239 732,zf (cW 98 6) "Compiler.push_home" "wasmcore.rows" 594 244,z0,ze,zn 738 ["self"],z0,zg (cW 98 7) "Compiler.pop",zc "pop" "Compiler.pop" 735 191 1 0 0 3 246 true 247 (zr 248) (zr 249) (zr 250) 4,zf (cW 98 7) "Compiler.pop" "wasmcore.rows" 594 251,z0,ze,zn 745 ["self","slot","entry","sort","about"],z0,zg (cW 98 8) "Compiler.put",zw "put" "Compiler.put" 742 194 3 0 0 3 253 750,zf (cW 98 8) "Compiler.put" "wasmcore.rows" 594 258,z0,ze,zn 756 ["self","entry","height","sort","about"],z0,zg (cW 98 9) "Compiler.slot_of",zw "slot_of" "Compiler.slot_of" 753 201 3 0 0 3 260 761,zf (cW 98 9) "Compiler.slot_of" "wasmcore.rows" 594 265,z0,ze,zn 767 ["self","height"],z0,zg (cW 98 10) "Compiler.settle",zw "settle" "Compiler.settle" 764 208 2 0 0 3 267 769,zf (cW 98 10) "Compiler.settle" "wasmcore.rows" 594 272,z0,ze,zn 775 ["self","many","begin","height"],z0,zg (cW 98 11) "Compiler.settle_top",zw "settle_top" "Compiler.settle_top" 772 212 2 0 0 3 274 779,zf (cW 98 11) "Compiler.settle_top" "wasmcore.rows" 594 279,z0,ze,zn 785 ["self"],z0,zg (cW 98 12) "Compiler.settle_all",zc "settle_all" "Compiler.settle_all" 782 218 1 0 0 3 281 true 282 (zr 283) (zr 284) (zr 285) 4,zf (cW 98 12) "Compiler.settle_all" "wasmcore.rows" 594 286,z0,ze,zn 792 ["self","many","turn"],z0,zg (cW 98 13) "Compiler.drop_top",zw "drop_top" "Compiler.drop_top" 789 221 2 0 0 3 288 795,zf (cW 98 13) "Compiler.drop_top" "wasmcore.rows" 594 293,z0,ze,zn 801 ["self","index","found","height","entry"],z0,zg (cW 98 14) "Compiler.save_local",zw "save_local" "Compiler.save_local" 798 225 2 0 0 3 295 806,zf (cW 98 14) "Compiler.save_local" "wasmcore.rows" 594 300,z0,ze,zg (cW 98 15) "Compiler.stack_of_height",zc "stack_of_height" "Compiler.stack_of_height" 809 233 2 0 0 3 302 true 303 .none .none (zr 304) 3,zf (cW 98 15) "Compiler.stack_of_height" "wasmcore.rows" 594 305,z0,ze,zn 818 ["self","index","entry","saved","temp","is_last","op","a","b","c"],z0]
noncomputable def tf(P:Params):List Obj:=[zg (cW 98 16) "Compiler.put_local",zw "put_local" "Compiler.put_local" 815 236 3 0 0 3 307 828,zf (cW 98 16) "Compiler.put_local" "wasmcore.rows" 594 312,z0,ze,zn 834 ["self","entry","temp","op","a","b","c","is_joined"],z0,zg (cW 98 17) "Compiler.condition",zw "condition" "Compiler.condition" 831 245 1 0 0 3 314 842,zf (cW 98 17) "Compiler.condition" "wasmcore.rows" 594 319,z0,ze,zn 848 ["self","told","sense","label","op","b","c"],z0,zg (cW 98 18) "Compiler.branch",zw "branch" "Compiler.branch" 845 256 4 0 0 3 321 855,zf (cW 98 18) "Compiler.branch" "wasmcore.rows" 594 326,z0,ze,zn 861 ["self","depth","frame"],z0,zg (cW 98 19) "Compiler.goal",zw "goal" "Compiler.goal" 858 270 2 0 0 3 328 864,zf (cW 98 19) "Compiler.goal" "wasmcore.rows" 594 333,z0,ze,zg (cW 98 20) "Compiler.is_there",zc "is_there" "Compiler.is_there" 867 277 3 0 0 3 335 true 336 .none .none (zr 337) 3,zf (cW 98 20) "Compiler.is_there" "wasmcore.rows" 594 338,z0,ze,zn 876 ["self","frame","many","begin","place"],z0,zg (cW 98 21) "Compiler.move_to",zw "move_to" "Compiler.move_to" 873 282 3 0 0 3 340 881,zf (cW 98 21) "Compiler.move_to" "wasmcore.rows" 594 345,z0,ze,zn 887 ["self","code","kind","params","results","frame"],z0,zg (cW 98 22) "Compiler.open_block",zw "open_block" "Compiler.open_block" 884 287 3 0 0 3 347 893,zf (cW 98 22) "Compiler.open_block" "wasmcore.rows" 594 352,z0,ze,zn 899 ["self"],z0,zg (cW 98 23) "Compiler.die",zc "die" "Compiler.die" 896 298 1 0 0 3 354 true 355 (zr 356) (zr 357) (zr 358) 4,zf (cW 98 23) "Compiler.die" "wasmcore.rows" 594 359,z0,ze,zg (cW 98 24) "Compiler.all_rows",zc "all_rows" "Compiler.all_rows" 903 301 1 0 0 3 361 true 362 .none .none (zr 363) 3,zf (cW 98 24) "Compiler.all_rows" "wasmcore.rows" 594 364,z0,ze,zn 912 ["self","instruction","code","doer"],z0,zg (cW 98 25) "Compiler.take",zw "take" "Compiler.take" 909 309 2 0 0 3 366 916,zf (cW 98 25) "Compiler.take" "wasmcore.rows" 594 371,zn 919 ["fence","first","frames","func","is_live","labels","module","most","results","rows","skipped","stack"],⟨.type "dict",none,(.dict #[en P "__module__" 669 (vS "wasmcore.rows" 594),en P "__firstlineno__" 673 (.int (151) 672),en P "__init__" 684 (zr 203),en P "label" 691 (zr 210),en P "put_label" 699 (zr 217),en P "emit" 710 (zr 224),en P "home" 718 (zr 231),en P "push" 726 (zr 238),en P "push_home" 734 (zr 245),en P "pop" 741 (zr 252),en P "put" 752 (zr 259),en P "slot_of" 763 (zr 266),en P "settle" 771 (zr 273),en P "settle_top" 781 (zr 280),en P "settle_all" 788 (zr 287),en P "drop_top" 797 (zr 294),en P "save_local" 808 (zr 301),en P "stack_of_height" 814 (zr 306),en P "put_local" 830 (zr 313),en P "condition" 844 (zr 320),en P "branch" 857 (zr 327),en P "goal" 866 (zr 334),en P "is_there" 872 (zr 339),en P "move_to" 883 (zr 346),en P "open_block" 895 (zr 353),en P "die" 902 (zr 360),en P "all_rows" 908 (zr 365),en P "take" 918 (zr 372),en P "__static_attributes__" 931 (zr 373),en P "__dict__" 933 (zr 376),en P "__weakref__" 935 (zr 377),en P "__doc__" 936 .none] 4),#[]⟩,⟨.type "type",none,(.cls ⟨"Compiler",[.type "object"],[zr 375,.type "object"],374,"Compiler",true,[],[],false,none,false⟩),#[none,none,(some (vS "Compiler" 662)),(some (vS "Compiler" 670)),(some (.builtin "object.__new__")),(some (.bool true))]⟩,⟨.type "getset_descriptor",none,(.fields #[vS "__dict__" 932,zr 375,(.builtin "function.__dict__"),(.builtin "function.__dict__#set")]),#[]⟩,⟨.type "getset_descriptor",none,(.fields #[vS "__weakref__" 934,zr 375,(.builtin "ExceptionGroup.__weakref__"),.none]),#[]⟩,⟨.type "super",none,(.fields #[zr 375,zr 375,zr 375]),#[]⟩,⟨.type "builtin_function_or_method",none,(.fields #[(.builtin "object.__init_subclass__"),zr 375]),#[]⟩,z0,ze,zn 942 ["made","instruction"],z0,zg (cI 99) "do_nothing",zw "do_nothing" "do_nothing" 939 328 2 0 0 3 380 944,zf (cI 99) "do_nothing" "wasmcore.rows" 594 385,z0,ze,zn 950 ["made","instruction"],z0,zg (cI 100) "do_unreachable",zw "do_unreachable" "do_unreachable" 947 330 2 0 0 3 387 952,zf (cI 100) "do_unreachable" "wasmcore.rows" 594 392,z0,ze,zn 958 ["made","instruction"],z0,zg (cI 101) "do_block",zw "do_block" "do_block" 955 333 2 0 0 3 394 960,zf (cI 101) "do_block" "wasmcore.rows" 594 399,z0,ze,zn 966 ["made","instruction","told","frame"],z0,zg (cI 102) "do_if",zw "do_if" "do_if" 963 335 2 0 0 3 401 970,zf (cI 102) "do_if" "wasmcore.rows" 594 406,z0,ze,zn 976 ["made","instruction","frame"]]
noncomputable def th(P:Params):List Obj:=[z0,zg (cI 103) "do_else",zw "do_else" "do_else" 973 340 2 0 0 3 408 979,zf (cI 103) "do_else" "wasmcore.rows" 594 413,z0,ze,zn 985 ["made","instruction","frame"],z0,zg (cI 104) "do_end",zw "do_end" "do_end" 982 350 2 0 0 3 415 988,zf (cI 104) "do_end" "wasmcore.rows" 594 420,z0,ze,zn 994 ["made","instruction","frame","many","label"],z0,zg (cI 105) "do_br",zw "do_br" "do_br" 991 364 2 0 0 3 422 999,zf (cI 105) "do_br" "wasmcore.rows" 594 427,z0,ze,zn 1005 ["made","instruction","told","frame","many","label","over"],z0,zg (cI 106) "do_br_if",zw "do_br_if" "do_br_if" 1002 369 2 0 0 3 429 1012,zf (cI 106) "do_br_if" "wasmcore.rows" 594 434,z0,ze,zn 1018 ["made","instruction","entry","slot","stubs","goals","depth","frame","many","label"],z0,zg (cI 107) "do_br_table",zw "do_br_table" "do_br_table" 1015 380 2 0 0 3 436 1028,zf (cI 107) "do_br_table" "wasmcore.rows" 594 441,z0,ze,zn 1034 ["made","instruction"],z0,zg (cI 108) "do_return",zw "do_return" "do_return" 1031 398 2 0 0 3 443 1036,zf (cI 108) "do_return" "wasmcore.rows" 594 448,z0,ze,zn 1042 ["made","many","turn"],z0,zg (cI 109) "put_results",zw "put_results" "put_results" 1039 402 2 0 0 3 450 1045,zf (cI 109) "put_results" "wasmcore.rows" 594 455,z0,ze,zn 1051 ["made","instruction","params","results","first"],z0,zg (cI 110) "do_call",zw "do_call" "do_call" 1048 405 2 0 0 3 457 1056,zf (cI 110) "do_call" "wasmcore.rows" 594 462,z0,ze,zn 1062 ["made","instruction","kind","table","params","results","entry","slot","first"],z0,zg (cI 111) "do_call_indirect",zw "do_call_indirect" "do_call_indirect" 1059 415 2 0 0 3 464 1071,zf (cI 111) "do_call_indirect" "wasmcore.rows" 594 469,z0,ze,zn 1077 ["made","instruction"],z0,zg (cI 112) "do_drop",zw "do_drop" "do_drop" 1074 428 2 0 0 3 471 1079,zf (cI 112) "do_drop" "wasmcore.rows" 594 476,z0,ze,zn 1085 ["made","instruction","sort","about","first","second","height"],z0,zg (cI 113) "do_select",zw "do_select" "do_select" 1082 430 2 0 0 3 478 1092,zf (cI 113) "do_select" "wasmcore.rows" 594 483,z0,ze,zn 1098 ["made","instruction"],z0,zg (cI 114) "do_local_get",zw "do_local_get" "do_local_get" 1095 447 2 0 0 3 485 1100,zf (cI 114) "do_local_get" "wasmcore.rows" 594 490,z0,ze,zn 1106 ["made","instruction","entry"],z0,zg (cI 115) "do_local_set",zw "do_local_set" "do_local_set" 1103 449 2 0 0 3 492 1109,zf (cI 115) "do_local_set" "wasmcore.rows" 594 497,z0,ze,zn 1115 ["made","instruction","entry"],z0,zg (cI 116) "do_local_tee",zw "do_local_tee" "do_local_tee" 1112 452 2 0 0 3 499 1118,zf (cI 116) "do_local_tee" "wasmcore.rows" 594 504,z0,ze,zn 1124 ["made","instruction"],z0,zg (cI 117) "do_global_get"]
noncomputable def ti(P:Params):List Obj:=[zw "do_global_get" "do_global_get" 1121 456 2 0 0 3 506 1126,zf (cI 117) "do_global_get" "wasmcore.rows" 594 511,z0,ze,zn 1132 ["made","instruction","entry"],z0,zg (cI 118) "do_global_set",zw "do_global_set" "do_global_set" 1129 458 2 0 0 3 513 1135,zf (cI 118) "do_global_set" "wasmcore.rows" 594 518,z0,ze,zn 1141 ["made","instruction","bits"],z0,zg (cI 119) "do_constant",zw "do_constant" "do_constant" 1138 461 2 0 0 3 520 1144,zf (cI 119) "do_constant" "wasmcore.rows" 594 525,z0,ze,zn 1150 ["made","instruction"],z0,zg (cI 120) "do_ref_null",zw "do_ref_null" "do_ref_null" 1147 464 2 0 0 3 527 1152,zf (cI 120) "do_ref_null" "wasmcore.rows" 594 532,z0,ze,zn 1158 ["made","instruction","sort","about"],z0,zg (cI 121) "do_ref_is_null",zw "do_ref_is_null" "do_ref_is_null" 1155 466 2 0 0 3 534 1162,zf (cI 121) "do_ref_is_null" "wasmcore.rows" 594 539,z0,ze,zn 1168 ["made","instruction"],z0,zg (cI 122) "do_ref_func",zw "do_ref_func" "do_ref_func" 1165 472 2 0 0 3 541 1170,zf (cI 122) "do_ref_func" "wasmcore.rows" 594 546,z0,ze,zn 1176 ["made","instruction","entry","slot"],z0,zg (cI 123) "do_load",zw "do_load" "do_load" 1173 474 2 0 0 3 548 1180,zf (cI 123) "do_load" "wasmcore.rows" 594 553,z0,ze,zn 1186 ["made","instruction","value","held","entry"],z0,zg (cI 124) "do_store",zw "do_store" "do_store" 1183 478 2 0 0 3 555 1191,zf (cI 124) "do_store" "wasmcore.rows" 594 560,z0,ze,zn 1197 ["made","instruction"],z0,zg (cI 125) "do_memory_size",zw "do_memory_size" "do_memory_size" 1194 483 2 0 0 3 562 1199,zf (cI 125) "do_memory_size" "wasmcore.rows" 594 567,z0,ze,zn 1205 ["made","instruction"],z0,zg (cI 126) "do_drop_segment",zw "do_drop_segment" "do_drop_segment" 1202 485 2 0 0 3 569 1207,zf (cI 126) "do_drop_segment" "wasmcore.rows" 594 574,z0,ze,zn 1213 ["made","instruction","first","b"],z0,zg (cI 127) "do_three",zw "do_three" "do_three" 1210 487 2 0 0 3 576 1217,zf (cI 127) "do_three" "wasmcore.rows" 594 581,z0,ze,zn 1223 ["made","instruction","entry","slot"],z0,zg (cI 128) "do_table_get",zw "do_table_get" "do_table_get" 1220 492 2 0 0 3 583 1227,zf (cI 128) "do_table_get" "wasmcore.rows" 594 588,z0,ze,zn 1233 ["made","instruction","first"],z0,zg (cI 129) "do_table_set",zw "do_table_set" "do_table_set" 1230 496 2 0 0 3 590 1236,zf (cI 129) "do_table_set" "wasmcore.rows" 594 595,z0,ze,zn 1242 ["made","instruction","first"],z0,zg (cI 130) "do_table_grow",zw "do_table_grow" "do_table_grow" 1239 500 2 0 0 3 597 1245,zf (cI 130) "do_table_grow" "wasmcore.rows" 594 602,z0,ze,zn 1251 ["made","instruction"],z0,zg (cI 131) "do_table_size",zw "do_table_size" "do_table_size" 1248 505 2 0 0 3 604 1253,zf (cI 131) "do_table_size" "wasmcore.rows" 594 609]
noncomputable def tj(P:Params):List Obj:=[z0,ze,zn 1259 ["made","instruction","entry","slot"],z0,zg (cI 132) "do_one",zw "do_one" "do_one" 1256 507 2 0 0 3 611 1263,zf (cI 132) "do_one" "wasmcore.rows" 594 616,z0,ze,zn 1269 ["made","instruction","code","second","first","height","held"],z0,zg (cI 133) "do_two",zw "do_two" "do_two" 1266 511 2 0 0 3 618 1276,zf (cI 133) "do_two" "wasmcore.rows" 594 623,⟨.type "dict",none,(.dict #[⟨(0),.int (0) 249,(zr 393)⟩,⟨(1),.int (1) 251,(zr 386)⟩,⟨(2),.int (2) 253,(zr 400)⟩,⟨(3),.int (3) 255,(zr 400)⟩,⟨(4),.int (4) 257,(zr 407)⟩,⟨(5),.int (5) 259,(zr 414)⟩,⟨(11),.int (11) 261,(zr 421)⟩,⟨(12),.int (12) 263,(zr 428)⟩,⟨(13),.int (13) 265,(zr 435)⟩,⟨(14),.int (14) 267,(zr 442)⟩,⟨(15),.int (15) 596,(zr 449)⟩,⟨(16),.int (16) 598,(zr 463)⟩,⟨(18),.int (18) 269,(zr 463)⟩,⟨(17),.int (17) 600,(zr 470)⟩,⟨(19),.int (19) 271,(zr 470)⟩,⟨(26),.int (26) 273,(zr 477)⟩,⟨(27),.int (27) 602,(zr 484)⟩,⟨(28),.int (28) 275,(zr 484)⟩,⟨(32),.int (32) 277,(zr 491)⟩,⟨(33),.int (33) 279,(zr 498)⟩,⟨(34),.int (34) 281,(zr 505)⟩,⟨(35),.int (35) 283,(zr 512)⟩,⟨(36),.int (36) 285,(zr 519)⟩,⟨(37),.int (37) 287,(zr 589)⟩,⟨(38),.int (38) 289,(zr 596)⟩,⟨(63),.int (63) 291,(zr 568)⟩,⟨(65),.int (65) 295,(zr 526)⟩,⟨(66),.int (66) 297,(zr 526)⟩,⟨(208),.int (208) 299,(zr 533)⟩,⟨(209),.int (209) 301,(zr 540)⟩,⟨(210),.int (210) 303,(zr 547)⟩,⟨(64520),.int (64520) 305,(zr 582)⟩,⟨(64521),.int (64521) 307,(zr 575)⟩,⟨(64522),.int (64522) 309,(zr 582)⟩,⟨(64523),.int (64523) 311,(zr 582)⟩,⟨(64524),.int (64524) 313,(zr 582)⟩,⟨(64525),.int (64525) 315,(zr 575)⟩,⟨(64526),.int (64526) 317,(zr 582)⟩,⟨(64527),.int (64527) 319,(zr 603)⟩,⟨(64528),.int (64528) 321,(zr 610)⟩,⟨(64529),.int (64529) 323,(zr 582)⟩] 41),#[]⟩,⟨.type "dict",none,(.dict #[⟨(28),.int (28) 275,(zr 484)⟩,⟨(32),.int (32) 277,(zr 491)⟩,⟨(33),.int (33) 279,(zr 498)⟩,⟨(34),.int (34) 281,(zr 505)⟩,⟨(35),.int (35) 283,(zr 512)⟩,⟨(36),.int (36) 285,(zr 519)⟩,⟨(37),.int (37) 287,(zr 589)⟩,⟨(38),.int (38) 289,(zr 596)⟩,⟨(63),.int (63) 291,(zr 568)⟩,⟨(65),.int (65) 295,(zr 526)⟩,⟨(66),.int (66) 297,(zr 526)⟩,⟨(208),.int (208) 299,(zr 533)⟩,⟨(209),.int (209) 301,(zr 540)⟩,⟨(210),.int (210) 303,(zr 547)⟩,⟨(64520),.int (64520) 305,(zr 582)⟩,⟨(64521),.int (64521) 307,(zr 575)⟩,⟨(64522),.int (64522) 309,(zr 582)⟩] 17),#[]⟩,⟨.type "dict",none,(.dict #[⟨(64523),.int (64523) 311,(zr 582)⟩,⟨(64524),.int (64524) 313,(zr 582)⟩,⟨(64525),.int (64525) 315,(zr 575)⟩,⟨(64526),.int (64526) 317,(zr 582)⟩,⟨(64527),.int (64527) 319,(zr 603)⟩,⟨(64528),.int (64528) 321,(zr 610)⟩,⟨(64529),.int (64529) 323,(zr 582)⟩] 7),#[]⟩,z0,ze,zn 1324 ["module","index","func"],z0,zg (cI 135) "rows_of",zw "rows_of" "rows_of" 1321 524 2 0 0 3 628 1327,zf (cI 135) "rows_of" "wasmcore.rows" 594 633,z0,⟨.type "builtin_function_or_method",none,(.fields #[(.builtin "type.__prepare__"),.type "type"]),#[]⟩,zd P [("__module__",1339,(vS "wasmcore.modules" 1330)),("__qualname__",1341,(vS "Import" 1340)),("__firstlineno__",1343,(.int (530) 1342)),("__init__",1354,(zr 648)),("plain",1361,(zr 655)),("__static_attributes__",1366,(zr 656))],z0,⟨.none,none,(.fields #[zi 532,zi 4,zr 647,zi 538,zi 4,zr 654]),#[]⟩,zc "Import" "Import" 1334 530 0 0 0 0 638 false 639 .none .none .none 3,⟨.type "frame",none,.plain,#[(some (zr 640)),(some (zr 3)),(some (zr 637)),none,(some (vS "wasmcore.modules" 1330)),none,(some (zr 0))]⟩,z0,ze,zn 1347 ["self","place","name","sort","about"],z0,zg (cW 137 0) "Import.__init__",zw "__init__" "Import.__init__" 1344 532 5 0 0 3 642 1352,zf (cW 137 0) "Import.__init__" "wasmcore.modules" 1330 647,z0,ze,zn 1358 ["self"],z0,zg (cW 137 1) "Import.plain",zc "plain" "Import.plain" 1355 538 1 0 0 3 649 true 650 (zr 651) (zr 652) (zr 653) 4,zf (cW 137 1) "Import.plain" "wasmcore.modules" 1330 654,zn 1362 ["about","name","place","sort"],⟨.type "dict",none,(.dict #[en P "__module__" 1339 (vS "wasmcore.modules" 1330),en P "__firstlineno__" 1343 (.int (530) 1342),en P "__init__" 1354 (zr 648),en P "plain" 1361 (zr 655),en P "__static_attributes__" 1366 (zr 656),en P "__dict__" 1368 (zr 659),en P "__weakref__" 1370 (zr 660),en P "__doc__" 1371 .none] 4),#[]⟩,⟨.type "type",none,(.cls ⟨"Import",[.type "object"],[zr 658,.type "object"],657,"Import",true,[],[],false,none,false⟩),#[none,none,(some (vS "Import" 1332)),(some (vS "Import" 1340)),(some (.builtin "object.__new__")),(some (.bool true))]⟩,⟨.type "getset_descriptor",none,(.fields #[vS "__dict__" 1367,zr 658,(.builtin "function.__dict__"),(.builtin "function.__dict__#set")]),#[]⟩,⟨.type "getset_descriptor",none,(.fields #[vS "__weakref__" 1369,zr 658,(.builtin "ExceptionGroup.__weakref__"),.none]),#[]⟩,⟨.type "super",none,(.fields #[zr 658,zr 658,zr 658]),#[]⟩,⟨.type "builtin_function_or_method",none,(.fields #[(.builtin "object.__init_subclass__"),zr 658]),#[]⟩,z0,⟨.type "builtin_function_or_method",none,(.fields #[(.builtin "type.__prepare__"),.type "type"]),#[]⟩,zd P [("__module__",1381,(vS "wasmcore.modules" 1330)),("__qualname__",1383,(vS "Func" 1382)),("__firstlineno__",1385,(.int (540) 1384)),("__init__",1395,(zr 676)),("plain",1402,(zr 683)),("__static_attributes__",1406,(zr 684))],z0,⟨.none,none,(.fields #[zi 542,zi 4,zr 675,zi 547,zi 4,zr 682]),#[]⟩,zc "Func" "Func" 1376 540 0 0 0 0 666 false 667 .none .none .none 3,⟨.type "frame",none,.plain,#[(some (zr 668)),(some (zr 3)),(some (zr 665)),none,(some (vS "wasmcore.modules" 1330)),none,(some (zr 0))]⟩,z0,ze,zn 1389 ["self","kind","locals_now","body"],z0,zg (cW 138 0) "Func.__init__",zw "__init__" "Func.__init__" 1386 542 4 0 0 3 670 1393,zf (cW 138 0) "Func.__init__" "wasmcore.modules" 1330 675,z0,ze,zn 1399 ["self"],z0,zg (cW 138 1) "Func.plain",zc "plain" "Func.plain" 1396 547 1 0 0 3 677 true 678 (zr 679) (zr 680) (zr 681) 4,zf (cW 138 1) "Func.plain" "wasmcore.modules" 1330 682,zn 1403 ["body","kind","locals"],⟨.type "dict",none,(.dict #[en P "__module__" 1381 (vS "wasmcore.modules" 1330),en P "__firstlineno__" 1385 (.int (540) 1384),en P "__init__" 1395 (zr 676),en P "plain" 1402 (zr 683),en P "__static_attributes__" 1406 (zr 684),en P "__dict__" 1408 (zr 687),en P "__weakref__" 1410 (zr 688),en P "__doc__" 1411 .none] 4),#[]⟩,⟨.type "type",none,(.cls ⟨"Func",[.type "object"],[zr 686,.type "object"],685,"Func",true,[],[],false,none,false⟩),#[none,none,(some (vS "Func" 1374)),(some (vS "Func" 1382)),(some (.builtin "object.__new__")),(some (.bool true))]⟩,⟨.type "getset_descriptor",none,(.fields #[vS "__dict__" 1407,zr 686,(.builtin "function.__dict__"),(.builtin "function.__dict__#set")]),#[]⟩,⟨.type "getset_descriptor",none,(.fields #[vS "__weakref__" 1409,zr 686,(.builtin "ExceptionGroup.__weakref__"),.none]),#[]⟩,⟨.type "super",none,(.fields #[zr 686,zr 686,zr 686]),#[]⟩,⟨.type "builtin_function_or_method",none,(.fields #[(.builtin "object.__init_subclass__"),zr 686]),#[]⟩,z0,⟨.type "builtin_function_or_method",none,(.fields #[(.builtin "type.__prepare__"),.type "type"]),#[]⟩,zd P [("__module__",1421,(vS "wasmcore.modules" 1330)),("__qualname__",1423,(vS "Global" 1422)),("__firstlineno__",1425,(.int (549) 1424)),("__init__",1435,(zr 704)),("plain",1442,(zr 711)),("__static_attributes__",1446,(zr 712))],z0,⟨.none,none,(.fields #[zi 551,zi 4,zr 703,zi 556,zi 4,zr 710]),#[]⟩,zc "Global" "Global" 1416 549 0 0 0 0 694 false 695 .none .none .none 3,⟨.type "frame",none,.plain,#[(some (zr 696)),(some (zr 3)),(some (zr 693)),none,(some (vS "wasmcore.modules" 1330)),none,(some (zr 0))]⟩,z0,ze,zn 1429 ["self","kind","mutable","body"],z0,zg (cW 139 0) "Global.__init__",zw "__init__" "Global.__init__" 1426 551 4 0 0 3 698 1433,zf (cW 139 0) "Global.__init__" "wasmcore.modules" 1330 703,z0,ze,zn 1439 ["self"],z0,zg (cW 139 1) "Global.plain",zc "plain" "Global.plain" 1436 556 1 0 0 3 705 true 706 (zr 707) (zr 708) (zr 709) 4]
noncomputable def tm(P:Params):List Obj:=[zf (cW 139 1) "Global.plain" "wasmcore.modules" 1330 710,zn 1443 ["body","kind","mutable"],⟨.type "dict",none,(.dict #[en P "__module__" 1421 (vS "wasmcore.modules" 1330),en P "__firstlineno__" 1425 (.int (549) 1424),en P "__init__" 1435 (zr 704),en P "plain" 1442 (zr 711),en P "__static_attributes__" 1446 (zr 712),en P "__dict__" 1448 (zr 715),en P "__weakref__" 1450 (zr 716),en P "__doc__" 1451 .none] 4),#[]⟩,⟨.type "type",none,(.cls ⟨"Global",[.type "object"],[zr 714,.type "object"],713,"Global",true,[],[],false,none,false⟩),#[none,none,(some (vS "Global" 1414)),(some (vS "Global" 1422)),(some (.builtin "object.__new__")),(some (.bool true))]⟩,⟨.type "getset_descriptor",none,(.fields #[vS "__dict__" 1447,zr 714,(.builtin "function.__dict__"),(.builtin "function.__dict__#set")]),#[]⟩,⟨.type "getset_descriptor",none,(.fields #[vS "__weakref__" 1449,zr 714,(.builtin "ExceptionGroup.__weakref__"),.none]),#[]⟩,⟨.type "super",none,(.fields #[zr 714,zr 714,zr 714]),#[]⟩,⟨.type "builtin_function_or_method",none,(.fields #[(.builtin "object.__init_subclass__"),zr 714]),#[]⟩,z0,⟨.type "builtin_function_or_method",none,(.fields #[(.builtin "type.__prepare__"),.type "type"]),#[]⟩,zd P [("__module__",1461,(vS "wasmcore.modules" 1330)),("__qualname__",1463,(vS "Elem" 1462)),("__firstlineno__",1465,(.int (558) 1464)),("__init__",1477,(zr 732)),("plain",1484,(zr 739)),("__static_attributes__",1490,(zr 740))],z0,⟨.none,none,(.fields #[zi 560,zi 4,zr 731,zi 567,zi 4,zr 738]),#[]⟩,zc "Elem" "Elem" 1456 558 0 0 0 0 722 false 723 .none .none .none 3,⟨.type "frame",none,.plain,#[(some (zr 724)),(some (zr 3)),(some (zr 721)),none,(some (vS "wasmcore.modules" 1330)),none,(some (zr 0))]⟩,z0,ze,zn 1469 ["self","mode","table","offset","kind","inits"],z0,zg (cW 140 0) "Elem.__init__",zw "__init__" "Elem.__init__" 1466 560 6 0 0 3 726 1475,zf (cW 140 0) "Elem.__init__" "wasmcore.modules" 1330 731,z0,ze,zn 1481 ["self"],z0,zg (cW 140 1) "Elem.plain",zc "plain" "Elem.plain" 1478 567 1 0 0 3 733 true 734 (zr 735) (zr 736) (zr 737) 4,zf (cW 140 1) "Elem.plain" "wasmcore.modules" 1330 738,zn 1485 ["inits","kind","mode","offset","table"],⟨.type "dict",none,(.dict #[en P "__module__" 1461 (vS "wasmcore.modules" 1330),en P "__firstlineno__" 1465 (.int (558) 1464),en P "__init__" 1477 (zr 732),en P "plain" 1484 (zr 739),en P "__static_attributes__" 1490 (zr 740),en P "__dict__" 1492 (zr 743),en P "__weakref__" 1494 (zr 744),en P "__doc__" 1495 .none] 4),#[]⟩,⟨.type "type",none,(.cls ⟨"Elem",[.type "object"],[zr 742,.type "object"],741,"Elem",true,[],[],false,none,false⟩),#[none,none,(some (vS "Elem" 1454)),(some (vS "Elem" 1462)),(some (.builtin "object.__new__")),(some (.bool true))]⟩,⟨.type "getset_descriptor",none,(.fields #[vS "__dict__" 1491,zr 742,(.builtin "function.__dict__"),(.builtin "function.__dict__#set")]),#[]⟩,⟨.type "getset_descriptor",none,(.fields #[vS "__weakref__" 1493,zr 742,(.builtin "ExceptionGroup.__weakref__"),.none]),#[]⟩,⟨.type "super",none,(.fields #[zr 742,zr 742,zr 742]),#[]⟩,⟨.type "builtin_function_or_method",none,(.fields #[(.builtin "object.__init_subclass__"),zr 742]),#[]⟩,z0,⟨.type "builtin_function_or_method",none,(.fields #[(.builtin "type.__prepare__"),.type "type"]),#[]⟩,zd P [("__module__",1505,(vS "wasmcore.modules" 1330)),("__qualname__",1507,(vS "Data" 1506)),("__firstlineno__",1509,(.int (569) 1508)),("__init__",1520,(zr 760)),("plain",1527,(zr 767)),("__static_attributes__",1532,(zr 768))],z0,⟨.none,none,(.fields #[zi 571,zi 4,zr 759,zi 577,zi 4,zr 766]),#[]⟩,zc "Data" "Data" 1500 569 0 0 0 0 750 false 751 .none .none .none 3,⟨.type "frame",none,.plain,#[(some (zr 752)),(some (zr 3)),(some (zr 749)),none,(some (vS "wasmcore.modules" 1330)),none,(some (zr 0))]⟩,z0,ze,zn 1513 ["self","mode","memory","offset","octets"],z0,zg (cW 141 0) "Data.__init__",zw "__init__" "Data.__init__" 1510 571 5 0 0 3 754 1518,zf (cW 141 0) "Data.__init__" "wasmcore.modules" 1330 759,z0,ze,zn 1524 ["self"],z0,zg (cW 141 1) "Data.plain",zc "plain" "Data.plain" 1521 577 1 0 0 3 761 true 762 (zr 763) (zr 764) (zr 765) 4,zf (cW 141 1) "Data.plain" "wasmcore.modules" 1330 766,zn 1528 ["memory","mode","octets","offset"],⟨.type "dict",none,(.dict #[en P "__module__" 1505 (vS "wasmcore.modules" 1330),en P "__firstlineno__" 1509 (.int (569) 1508),en P "__init__" 1520 (zr 760),en P "plain" 1527 (zr 767),en P "__static_attributes__" 1532 (zr 768),en P "__dict__" 1534 (zr 771),en P "__weakref__" 1536 (zr 772),en P "__doc__" 1537 .none] 4),#[]⟩,⟨.type "type",none,(.cls ⟨"Data",[.type "object"],[zr 770,.type "object"],769,"Data",true,[],[],false,none,false⟩),#[none,none,(some (vS "Data" 1498)),(some (vS "Data" 1506)),(some (.builtin "object.__new__")),(some (.bool true))]⟩,⟨.type "getset_descriptor",none,(.fields #[vS "__dict__" 1533,zr 770,(.builtin "function.__dict__"),(.builtin "function.__dict__#set")]),#[]⟩,⟨.type "getset_descriptor",none,(.fields #[vS "__weakref__" 1535,zr 770,(.builtin "ExceptionGroup.__weakref__"),.none]),#[]⟩,⟨.type "super",none,(.fields #[zr 770,zr 770,zr 770]),#[]⟩,⟨.type "builtin_function_or_method",none,(.fields #[(.builtin "object.__init_subclass__"),zr 770]),#[]⟩,z0,⟨.type "builtin_function_or_method",none,(.fields #[(.builtin "type.__prepare__"),.type "type"]),#[]⟩,zd P [("__module__",1547,(vS "wasmcore.modules" 1330)),("__qualname__",1549,(vS "Custom" 1548)),("__firstlineno__",1551,(.int (579) 1550)),("__init__",1561,(zr 788)),("plain",1568,(zr 795)),("__static_attributes__",1572,(zr 796))],z0,⟨.none,none,(.fields #[zi 581,zi 4,zr 787,zi 586,zi 4,zr 794]),#[]⟩,zc "Custom" "Custom" 1542 579 0 0 0 0 778 false 779 .none .none .none 3,⟨.type "frame",none,.plain,#[(some (zr 780)),(some (zr 3)),(some (zr 777)),none,(some (vS "wasmcore.modules" 1330)),none,(some (zr 0))]⟩,z0,ze,zn 1555 ["self","name","octets","behind"],z0,zg (cW 142 0) "Custom.__init__",zw "__init__" "Custom.__init__" 1552 581 4 0 0 3 782 1559,zf (cW 142 0) "Custom.__init__" "wasmcore.modules" 1330 787,z0,ze,zn 1565 ["self"],z0,zg (cW 142 1) "Custom.plain",zc "plain" "Custom.plain" 1562 586 1 0 0 3 789 true 790 (zr 791) (zr 792) (zr 793) 4,zf (cW 142 1) "Custom.plain" "wasmcore.modules" 1330 794,zn 1569 ["behind","name","octets"],⟨.type "dict",none,(.dict #[en P "__module__" 1547 (vS "wasmcore.modules" 1330),en P "__firstlineno__" 1551 (.int (579) 1550),en P "__init__" 1561 (zr 788),en P "plain" 1568 (zr 795),en P "__static_attributes__" 1572 (zr 796),en P "__dict__" 1574 (zr 799),en P "__weakref__" 1576 (zr 800),en P "__doc__" 1577 .none] 4),#[]⟩,⟨.type "type",none,(.cls ⟨"Custom",[.type "object"],[zr 798,.type "object"],797,"Custom",true,[],[],false,none,false⟩),#[none,none,(some (vS "Custom" 1540)),(some (vS "Custom" 1548)),(some (.builtin "object.__new__")),(some (.bool true))]⟩,⟨.type "getset_descriptor",none,(.fields #[vS "__dict__" 1573,zr 798,(.builtin "function.__dict__"),(.builtin "function.__dict__#set")]),#[]⟩,⟨.type "getset_descriptor",none,(.fields #[vS "__weakref__" 1575,zr 798,(.builtin "ExceptionGroup.__weakref__"),.none]),#[]⟩,⟨.type "super",none,(.fields #[zr 798,zr 798,zr 798]),#[]⟩,⟨.type "builtin_function_or_method",none,(.fields #[(.builtin "object.__init_subclass__"),zr 798]),#[]⟩,z0,⟨.type "builtin_function_or_method",none,(.fields #[(.builtin "type.__prepare__"),.type "type"]),#[]⟩,zd P [("__module__",1587,(vS "wasmcore.modules" 1330)),("__qualname__",1589,(vS "Module" 1588)),("__firstlineno__",1591,(.int (588) 1590)),("__init__",1598,(zr 816)),("imported",1606,(zr 823)),("abouts",1612,(zr 828)),("func_kinds",1618,(zr 833)),("table_kinds",1625,(zr 840)),("memory_kinds",1632,(zr 847)),("global_kinds",1639,(zr 854)),("many",1648,(zr 861)),("func",1657,(zr 868)),("kind_of_func",1665,(zr 875)),("export",1673,(zr 882)),("plain",1680,(zr 889)),("bodies",1687,(zr 896)),("constants",1694,(zr 903)),("copy",1700,(zr 908)),("__static_attributes__",1712,(zr 909))],z0,⟨.none,none,(.fields #[zi 590,zi 4,zr 815,zi 603,zi 4,zr 822,zi 606,zi 4,zr 827,zi 609,zi 4,zr 832,zi 612,zi 4,zr 839,zi 615,zi 4,zr 846,zi 618,zi 4,zr 853,zi 621,zi 4,zr 860,zi 625,zi 4,zr 867,zi 629,zi 4,zr 874,zi 632,zi 4,zr 881,zi 635,zi 4,zr 888,zi 638,zi 4,zr 895,zi 641,zi 4,zr 902,zi 644,zi 4,zr 907]),#[]⟩,zc "Module" "Module" 1582 588 0 0 0 0 806 false 807 .none .none .none 3,⟨.type "frame",none,.plain,#[(some (zr 808)),(some (zr 3)),(some (zr 805)),none,(some (vS "wasmcore.modules" 1330)),none,(some (zr 0))]⟩,z0]
noncomputable def tn(P:Params):List Obj:=[ze,zn 1595 ["self"],z0,zg (cW 143 0) "Module.__init__",zc "__init__" "Module.__init__" 1592 590 1 0 0 3 810 true 811 (zr 812) (zr 813) (zr 814) 4,zf (cW 143 0) "Module.__init__" "wasmcore.modules" 1330 815,z0,ze,zn 1602 ["self","sort"],z0,zg (cW 143 1) "Module.imported",zw "imported" "Module.imported" 1599 603 2 0 0 3 817 1604,zf (cW 143 1) "Module.imported" "wasmcore.modules" 1330 822,z0,ze,zg (cW 143 2) "Module.abouts",zc "abouts" "Module.abouts" 1607 606 2 0 0 3 824 true 825 .none .none (zr 826) 3,zf (cW 143 2) "Module.abouts" "wasmcore.modules" 1330 827,z0,ze,zg (cW 143 3) "Module.func_kinds",zc "func_kinds" "Module.func_kinds" 1613 609 1 0 0 3 829 true 830 .none .none (zr 831) 3,zf (cW 143 3) "Module.func_kinds" "wasmcore.modules" 1330 832,z0,ze,zn 1622 ["self"],z0,zg (cW 143 4) "Module.table_kinds",zc "table_kinds" "Module.table_kinds" 1619 612 1 0 0 3 834 true 835 (zr 836) (zr 837) (zr 838) 4,zf (cW 143 4) "Module.table_kinds" "wasmcore.modules" 1330 839,z0,ze,zn 1629 ["self"],z0,zg (cW 143 5) "Module.memory_kinds",zc "memory_kinds" "Module.memory_kinds" 1626 615 1 0 0 3 841 true 842 (zr 843) (zr 844) (zr 845) 4,zf (cW 143 5) "Module.memory_kinds" "wasmcore.modules" 1330 846,z0,ze,zn 1636 ["self"],z0,zg (cW 143 6) "Module.global_kinds",zc "global_kinds" "Module.global_kinds" 1633 618 1 0 0 3 848 true 849 (zr 850) (zr 851) (zr 852) 4,zf (cW 143 6) "Module.global_kinds" "wasmcore.modules" 1330 853,z0,ze,zn 1643 ["self","sort","own"],z0,zg (cW 143 7) "Module.many",zw "many" "Module.many" 1640 621 2 0 0 3 855 1646,zf (cW 143 7) "Module.many" "wasmcore.modules" 1330 860,z0,ze,zn 1652 ["self","index","place"],z0,zg (cW 143 8) "Module.func",zw "func" "Module.func" 1649 625 2 0 0 3 862 1655,zf (cW 143 8) "Module.func" "wasmcore.modules" 1330 867,z0,ze,zn 1661 ["self","index"],z0,zg (cW 143 9) "Module.kind_of_func",zw "kind_of_func" "Module.kind_of_func" 1658 629 2 0 0 3 869 1663,zf (cW 143 9) "Module.kind_of_func" "wasmcore.modules" 1330 874,z0,ze,zn 1669 ["self","name"],z0,zg (cW 143 10) "Module.export",zw "export" "Module.export" 1666 632 2 0 0 3 876 1671,zf (cW 143 10) "Module.export" "wasmcore.modules" 1330 881,z0,ze,zn 1677 ["self"],z0,zg (cW 143 11) "Module.plain",zc "plain" "Module.plain" 1674 635 1 0 0 3 883 true 884 (zr 885) (zr 886) (zr 887) 4,zf (cW 143 11) "Module.plain" "wasmcore.modules" 1330 888,z0,ze,zn 1684 ["self"],z0,zg (cW 143 12) "Module.bodies",zc "bodies" "Module.bodies" 1681 638 1 0 0 3 890 true 891 (zr 892) (zr 893) (zr 894) 4,zf (cW 143 12) "Module.bodies" "wasmcore.modules" 1330 895,z0,ze,zn 1691 ["self"],z0,zg (cW 143 13) "Module.constants",zc "constants" "Module.constants" 1688 641 1 0 0 3 897 true 898 (zr 899) (zr 900) (zr 901) 4,zf (cW 143 13) "Module.constants" "wasmcore.modules" 1330 902,z0,ze,zg (cW 143 14) "Module.copy",zc "copy" "Module.copy" 1695 644 1 0 0 3 904 true 905 .none .none (zr 906) 3,zf (cW 143 14) "Module.copy" "wasmcore.modules" 1330 907,zn 1701 ["customs","datas","elems","exports","funcs","globals","imports","kinds","memories","start","tables"],⟨.type "dict",none,(.dict #[en P "__module__" 1587 (vS "wasmcore.modules" 1330),en P "__firstlineno__" 1591 (.int (588) 1590),en P "__init__" 1598 (zr 816),en P "imported" 1606 (zr 823),en P "abouts" 1612 (zr 828),en P "func_kinds" 1618 (zr 833),en P "table_kinds" 1625 (zr 840),en P "memory_kinds" 1632 (zr 847),en P "global_kinds" 1639 (zr 854),en P "many" 1648 (zr 861),en P "func" 1657 (zr 868),en P "kind_of_func" 1665 (zr 875),en P "export" 1673 (zr 882),en P "plain" 1680 (zr 889),en P "bodies" 1687 (zr 896),en P "constants" 1694 (zr 903),en P "copy" 1700 (zr 908),en P "__static_attributes__" 1712 (zr 909),en P "__dict__" 1714 (zr 912),en P "__weakref__" 1716 (zr 913),en P "__doc__" 1717 .none] 4),#[]⟩]
noncomputable def tq(P:Params):List Obj:=[⟨.type "type",none,(.cls ⟨"Module",[.type "object"],[zr 911,.type "object"],910,"Module",true,[],[],false,none,false⟩),#[none,none,(some (vS "Module" 1580)),(some (vS "Module" 1588)),(some (.builtin "object.__new__")),(some (.bool true))]⟩,⟨.type "getset_descriptor",none,(.fields #[vS "__dict__" 1713,zr 911,(.builtin "function.__dict__"),(.builtin "function.__dict__#set")]),#[]⟩,⟨.type "getset_descriptor",none,(.fields #[vS "__weakref__" 1715,zr 911,(.builtin "ExceptionGroup.__weakref__"),.none]),#[]⟩,⟨.type "super",none,(.fields #[zr 911,zr 911,zr 911]),#[]⟩,⟨.type "builtin_function_or_method",none,(.fields #[(.builtin "object.__init_subclass__"),zr 911]),#[]⟩,z0,ze,zn 1723 ["body"],z0,zg (cI 144) "copied_body",zc "copied_body" "copied_body" 1720 655 1 0 0 3 916 true 917 (zr 918) (zr 919) (zr 920) 4,zf (cI 144) "copied_body" "wasmcore.modules" 1330 921,z0,ze,zg (cI 145) "copied_elem",zc "copied_elem" "copied_elem" 1727 657 1 0 0 3 923 true 924 .none .none (zr 925) 3,zf (cI 145) "copied_elem" "wasmcore.modules" 1330 926,z0,ze,z0,z0,zg (cI 147) "_law_kinds",zc "_law_kinds" "_law_kinds" 1735 660 0 0 0 3 928 true 929 (zr 930) (zr 931) (zr 932) 3,zf (cI 147) "_law_kinds" "law_nm0168_03" 1733 933,zt [.int (106) 1741,.int (107) 1742,.int (108) 1743,.int (115) 1744,.int (118) 1745,.int (70) 1746,.int (73) 1747],z0,ze,zn 1752 ["pen","at"],z0,zg (cI 149) "_law_next",zw "_law_next" "_law_next" 1749 663 1 0 0 3 936 1754,zf (cI 149) "_law_next" "law_nm0168_03" 1733 941,z0,ze,zn 1760 ["body","high","many","x"],z0,zg (cI 150) "_law_fill",zw "_law_fill" "_law_fill" 1757 667 4 0 0 3 943 1764,zf (cI 150) "_law_fill" "law_nm0168_03" 1733 948,z0,ze,zn 1770 ["body","high","many","turn"],z0,zg (cI 151) "_law_shut",zw "_law_shut" "_law_shut" 1767 673 3 0 0 3 950 1774,zf (cI 151) "_law_shut" "law_nm0168_03" 1733 955,z0,ze,zg (cI 152) "_law_jump",zc "_law_jump" "_law_jump" 1777 678 5 0 0 3 957 true 958 .none .none (zr 959) 3,zf (cI 152) "_law_jump" "law_nm0168_03" 1733 960,z0,ze,zn 1786 ["pen","body","high","labels","is_loop","x","mark","params","results","more","inner","here"],z0,zg (cI 153) "_law_block",zw "_law_block" "_law_block" 1783 696 6 0 0 3 962 1798,zf (cI 153) "_law_block" "law_nm0168_03" 1733 967,z0,ze,zn 1804 ["pen","body","high","labels","turn"],z0,zg (cI 154) "_law_items",zw "_law_items" "_law_items" 1801 714 4 0 0 3 969 1809,zf (cI 154) "_law_items" "law_nm0168_03" 1733 974,z0,ze,zn 1815 ["pen","body","high","labels","x","way","many"],z0,zg (cI 155) "_law_item",zw "_law_item" "_law_item" 1812 719 4 0 0 3 976 1822,zf (cI 155) "_law_item" "law_nm0168_03" 1733 981,z0,ze,zn 1828 ["script","pen","body","high","module"],z0,zg (cI 156) "_law_module",zw "_law_module" "_law_module" 1825 734 1 0 0 3 983 1833,zf (cI 156) "_law_module" "law_nm0168_03" 1733 988,z0,ze,zg (cI 157) "_law_row",zc "_law_row" "_law_row" 1836 744 1 0 0 3 990 true 991 .none .none (zr 992) 3,zf (cI 157) "_law_row" "law_nm0168_03" 1733 993,z0,ze,zn 1845 ["row","op","a","b","c"],z0,zg (cI 158) "_law_is_bare",zw "_law_is_bare" "_law_is_bare" 1842 769 1 0 0 3 995 1850,zf (cI 158) "_law_is_bare" "law_nm0168_03" 1733 1000,z0,ze,zg (cI 159) "_law_after",zc "_law_after" "_law_after" 1853 774 4 0 0 3 1002 true 1003 .none .none (zr 1004) 3,zf (cI 159) "_law_after" "law_nm0168_03" 1733 1005,z0,ze,zn 1862 ["script","module","made","known","waiting","at","found","near","both"],z0]
noncomputable def am(P:Params):List Obj:=[zg (cI 160) "law",zw "law" "law" 1859 789 1 0 0 3 1007 1871,zf (cI 160) "law" "law_nm0168_03" 1733 1012]
noncomputable def UK(P:Params):List Obj:=[boot_o_0 P,boot_o_1 P,⟨.none,none,(.dict #[en P "type.__subclasses__.Exception.0" 423 (zi 82),en P "type.__subclasses__.Exception.n" 424 (zi 1)] 2),#[]⟩,zd P (("__name__",165,(vS "law_nm0168_03" 1733))::gl),boot_o_4 P,boot_o_5 P,boot_o_6 P,boot_o_7 P,boot_o_8 P,boot_o_9 P,boot_o_10 P]++(tc P++(td P++(te P++(tf P++(th P++(ti P++(tj P++(tm P++(tn P++(tq P++(am P)))))))))))
noncomputable def Wb(P:Params):BT:=(.node (boot_o_0 P) (.node (boot_o_1 P) (.node (boot_o_3 P) (.node (boot_o_7 P) .nil .nil) .nil) (.node (boot_o_5 P) (.node (boot_o_9 P) .nil .nil) .nil)) (.node (boot_o_2 P) (.node (boot_o_4 P) (.node (boot_o_8 P) .nil .nil) .nil) (.node (boot_o_6 P) (.node (boot_o_10 P) .nil .nil) .nil)))
noncomputable def Qw(w:World)(os:OsState):SharedT:=⟨Wb w.params,11,{},#[],boot_drawn,181,os⟩
noncomputable def cj(P:Params):BT:=(.node (boot_o_0 P) (.node (boot_o_1 P) (.node (boot_o_3 P) (.node (boot_o_7 P) .nil .nil) (.node (z0) .nil .nil)) (.node (boot_o_5 P) (.node (boot_o_9 P) .nil .nil) (.node (zc "<module>" "<module>" 182 1 0 0 0 0 11 false 12 .none .none .none 3) .nil .nil))) (.node (boot_o_2 P) (.node (boot_o_4 P) (.node (boot_o_8 P) .nil .nil) (.node (ze) .nil .nil)) (.node (boot_o_6 P) (.node (boot_o_10 P) .nil .nil) (.node (⟨.type "frame",none,.plain,#[(some (zr 13)),(some (zr 3)),(some (zr 3)),none,(some (vS "__main__" 164)),none,(some (zr 0))]⟩) .nil .nil))))
noncomputable def GV(w:World)(os:OsState):SharedT:=⟨cj w.params,15,{},#[],boot_drawn,187,os⟩
noncomputable def t1(P:Params):BT:=R1 11 (((((UK P).take 66).set 3 (zd P (("__name__",165,(vS "wasmcore.kinds" 194))::gl.take 60))).set 12 (⟨.none,none,(.fields (fl.take 12).toArray),#[]⟩)).set 2 (boot_o_2 P))
noncomputable def S1(w:World)(os:OsState):SharedT:=⟨t1 w.params,66,{},#[],boot_drawn,396,os⟩
noncomputable def t2(P:Params):BT:=R1 11 ((((UK P).take 380).set 3 (zd P (("__name__",165,(vS "wasmcore.rows" 594))::gl.take 103))).set 12 (⟨.none,none,(.fields (fl.take 48).toArray),#[]⟩))
noncomputable def S2(w:World)(os:OsState):SharedT:=⟨t2 w.params,380,{},#[],boot_drawn,939,os⟩
noncomputable def t3(P:Params):BT:=R1 11 ((((UK P).take 625).set 3 (zd P (("__name__",165,(vS "wasmcore.rows" 594))::gl.take 138))).set 12 (⟨.none,none,(.fields (fl.take 153).toArray),#[]⟩))
noncomputable def S3(w:World)(os:OsState):SharedT:=⟨t3 w.params,625,{},#[],boot_drawn,1279,os⟩
noncomputable def t4(P:Params):BT:=R1 11 ((((UK P).take 628).set 3 (zd P (("__name__",165,(vS "wasmcore.rows" 594))::gl.take 139))).set 12 (⟨.none,none,(.fields (fl.take 153).toArray),#[]⟩))
noncomputable def S4(w:World)(os:OsState):SharedT:=⟨t4 w.params,628,{},#[],boot_drawn,1321,os⟩
noncomputable def t5(P:Params):BT:=R1 11 ((UK P).take 1014)
noncomputable def S5(w:World)(os:OsState):SharedT:=⟨t5 w.params,1014,{},#[],boot_drawn,1874,os⟩
noncomputable def H1(P:Params):Heap:=⟨⟨UK P⟩,{}⟩
noncomputable abbrev nP:Option Value:=some (.ref 6)
noncomputable def sS:Env:= { scope:=PW.main.scope,locals:=mainNs,globals:=mainNs,cells:=[],code:=.ref 13,frame:=some 14 }
noncomputable def dL:Code:=.body (behindTheImports PW) sS
noncomputable abbrev B0:List Frame:=[topFrame default]
noncomputable def ps(a b c d:Nat):Pos:=⟨a,b,c,d⟩
theorem L2(w:World)(os:OsState):(Qw w os).abs=⟨boot_heap w.params,#[],boot_drawn,boot_toks,os⟩:=by kernel_rfl
theorem TO(w:World)(os:OsState):topGo treeTable PW w 11 nP 12 (Qw w os).abs (topStub PW)=some ((GV w os).abs,⟨denote treeTable dL,dL,ps 0 0 0 0,B0⟩):=by kernel_rfl
theorem J4(w:World)(os:OsState):segRun treeTable PW w 11 nP 1 1 (GV w os).abs (blockOf (behindTheImports PW) sS dL (ps 0 0 0 0) B0)=some (Flow.next,(GV w os).abs,dL,ps 0 0 0 0):=by kernel_rfl
noncomputable def l1:List Stmt:=(PW.main.body.drop 0).take 53
theorem H9(w:World)(os:OsState):PySem.W.Fast.tw10110043849684766642 PySem.W.Fast.tw14364793385576792824 PW (w.withFollow "special-get-raises" false) 11 nP 1 1014 (GV (w.withFollow "special-get-raises" false) os) (piecesOf l1 sS dL (ps 0 0 0 0) B0)=some (Flow.next,S1 (w.withFollow "special-get-raises" false) os,dL,ps 62 0 62 6):=by kernel_rfl
theorem K5(w:World)(os:OsState):PySem.W.Fast.tw10110043849684766642 PySem.W.Fast.tw14364793385576792824 PW (w.withFollow "special-get-raises" true) 11 nP 1 1014 (GV (w.withFollow "special-get-raises" true) os) (piecesOf l1 sS dL (ps 0 0 0 0) B0)=some (Flow.next,S1 (w.withFollow "special-get-raises" true) os,dL,ps 62 0 62 6):=by kernel_rfl
theorem bn(w:World)(os:OsState):segRunT treeTable PW w 11 nP 1 1014 (GV w os) (piecesOf l1 sS dL (ps 0 0 0 0) B0)=some (Flow.next,S1 w os,dL,ps 62 0 62 6):=by
 rw[PySem.W.Fast.te10110043849684766642,PySem.W.Fast.te14364793385576792824];exact byRow2 "special-get-raises" (P:=fun w=>PySem.W.Fast.tw10110043849684766642 PySem.W.Fast.tw14364793385576792824 PW w 11 nP 1 1014 (GV w os) (piecesOf l1 sS dL (ps 0 0 0 0) B0)=some (Flow.next,S1 w os,dL,ps 62 0 62 6)) (fun w=>H9 w os) (fun w=>K5 w os) w
noncomputable def l2:List Stmt:=(PW.main.body.drop 53).take 46
theorem Tg(w:World)(os:OsState):PySem.W.Fast.tw10110043849684766642 PySem.W.Fast.tw14364793385576792824 PW w 11 nP 1 2533 (S1 w os) (piecesOf l2 sS dL (ps 62 0 62 6) B0)=some (Flow.next,S2 w os,dL,ps 151 0 327 37):=by kernel_rfl
theorem bo(w:World)(os:OsState):segRunT treeTable PW w 11 nP 1 2533 (S1 w os) (piecesOf l2 sS dL (ps 62 0 62 6) B0)=some (Flow.next,S2 w os,dL,ps 151 0 327 37):=by
 rw[PySem.W.Fast.te10110043849684766642,PySem.W.Fast.te14364793385576792824];exact Tg w os
noncomputable def l3:List Stmt:=(PW.main.body.drop 99).take 35
theorem Th(w:World)(os:OsState):PySem.W.Fast.tw10110043849684766642 PySem.W.Fast.tw14364793385576792824 PW w 11 nP 1 1111 (S2 w os) (piecesOf l3 sS dL (ps 151 0 327 37) B0)=some (Flow.next,S3 w os,dL,ps 511 0 522 58):=by kernel_rfl
theorem bp(w:World)(os:OsState):segRunT treeTable PW w 11 nP 1 1111 (S2 w os) (piecesOf l3 sS dL (ps 151 0 327 37) B0)=some (Flow.next,S3 w os,dL,ps 511 0 522 58):=by
 rw[PySem.W.Fast.te10110043849684766642,PySem.W.Fast.te14364793385576792824];exact Th w os
noncomputable def l4:List Stmt:=(PW.main.body.drop 134).take 1
theorem IA(w:World)(os:OsState):PySem.W.Fast.tw10110043849684766642 PySem.W.Fast.tw14364793385576792824 PW (w.withFollow "special-get-raises" false) 11 nP 1 784 (S3 (w.withFollow "special-get-raises" false) os) (piecesOf l4 sS dL (ps 511 0 522 58) B0)=some (Flow.next,S4 (w.withFollow "special-get-raises" false) os,dL,ps 523 0 523 5):=by kernel_rfl
theorem K6(w:World)(os:OsState):PySem.W.Fast.tw10110043849684766642 PySem.W.Fast.tw14364793385576792824 PW (w.withFollow "special-get-raises" true) 11 nP 1 784 (S3 (w.withFollow "special-get-raises" true) os) (piecesOf l4 sS dL (ps 511 0 522 58) B0)=some (Flow.next,S4 (w.withFollow "special-get-raises" true) os,dL,ps 523 0 523 5):=by kernel_rfl
theorem bq(w:World)(os:OsState):segRunT treeTable PW w 11 nP 1 784 (S3 w os) (piecesOf l4 sS dL (ps 511 0 522 58) B0)=some (Flow.next,S4 w os,dL,ps 523 0 523 5):=by
 rw[PySem.W.Fast.te10110043849684766642,PySem.W.Fast.te14364793385576792824];exact byRow2 "special-get-raises" (P:=fun w=>PySem.W.Fast.tw10110043849684766642 PySem.W.Fast.tw14364793385576792824 PW w 11 nP 1 784 (S3 w os) (piecesOf l4 sS dL (ps 511 0 522 58) B0)=some (Flow.next,S4 w os,dL,ps 523 0 523 5)) (fun w=>IA w os) (fun w=>K6 w os) w
noncomputable def l5:List Stmt:=(PW.main.body.drop 135).take 26
theorem Ti(w:World)(os:OsState):PySem.W.Fast.tw10110043849684766642 PySem.W.Fast.tw14364793385576792824 PW w 11 nP 1 2746 (S4 w os) (piecesOf l5 sS dL (ps 523 0 523 5) B0)=some (Flow.next,S5 w os,dL,ps 789 0 805 15):=by kernel_rfl
theorem bu(w:World)(os:OsState):segRunT treeTable PW w 11 nP 1 2746 (S4 w os) (piecesOf l5 sS dL (ps 523 0 523 5) B0)=some (Flow.next,S5 w os,dL,ps 789 0 805 15):=by
 rw[PySem.W.Fast.te10110043849684766642,PySem.W.Fast.te14364793385576792824];exact Ti w os
theorem Gq:behindTheImports PW=l1++(l2++(l3++(l4++(l5++([]))))):=by kernel_rfl
theorem Pm(w:World)(s:Shared)(env:Env)(c:Code)(p:Pos):topRun treeTable PW w 11 nP 2 s (restOf [] env c p B0)=some s:=by
 obtain⟨h,g,d,t,os⟩:=s;rfl
theorem Qi(w:World)(os:OsState):topRun treeTable PW w 11 nP (12+(1+(1014+(2533+(1111+(784+(2746+2))))))) ⟨boot_heap w.params,#[],boot_drawn,boot_toks,os⟩ (topStub PW)=some (S5 w os).abs:=by
 rw[<- L2];refine go_top (TO w os) ?_;refine piece_block (J4 w os) ?_;rw[Gq];refine piece_app (segRun_of (bn w os)) ?_;refine piece_app (segRun_of (bo w os)) ?_;refine piece_app (segRun_of (bp w os)) ?_;refine piece_app (segRun_of (bq w os)) ?_;refine piece_app (segRun_of (bu w os)) ?_;exact Pm w _ _ _ _
theorem KB(w:World)(os:OsState):(S5 w os).abs=⟨H1 w.params,#[],boot_drawn,1874,os⟩:=by kernel_rfl
end Mine
namespace Mine
open PySem PySem.W PyProof.Rows
noncomputable abbrev wL:=PySem.Challenge.rw_nm0168_03
noncomputable def tP:Program:= { PW with main:= { PW.main with body:=[cI 160] } }
noncomputable def BI:List Str:=(PW.boundNames.filter fun n=>n != Str.ofString "law")
noncomputable def YC(s:Shared):Bool:=xlAt tP [] s&&recOk (RowW.records wL.row.toRowW) s
theorem WS(w:World)(os:OsState):openSeen tP BI (importedModules PW.main.body) YC true ⟨H1 w.params,#[],boot_drawn,1874,os⟩=openGood tP BI:=by
 rw[Fast.te4187177175401517315];kernel_rfl
theorem WX(w:World):((boot_heap w.params).isNs mainGlobals&&(#[]:Array GenState).size==0,(boot_heap w.params).objs.size,(boot_heap w.params).nsMap mainGlobals "__annotations__")=(true,11,nP):=by kernel_rfl
theorem Sw(w:World)(os:OsState):(staticsOk (importedModules PW.main.body) (boot_heap w.params) (H1 w.params)&&namesBound PW (H1 w.params)&&gensDone ⟨H1 w.params,#[],boot_drawn,1874,os⟩&&laidKept (boot_heap w.params) (H1 w.params))=true:=by kernel_rfl
theorem Ui(w:World):Option.map (fun s=>(s.heap,s.gens,s.drawn,s.toks)) (fencedOpening treeTable PW w 17000)=some (boot_heap w.params,#[],boot_drawn,boot_toks):=boot_open (by kernel_rfl) (by decide) (fun s=>by kernel_rfl) w
theorem Vx:LeftO PW tP BI YC (fun s=>s.heap) (fun w=>H1 w.params) 17000:=
 LeftO.of_pieces (H₀:=boot_heap) (H₁:=H1) (gs₀:= #[]) (gs₁:= #[]) (d₀:=boot_drawn) (d₁:=boot_drawn) (k₀:=boot_toks) (k₁:=1874) (m₀:=11) (ann:=nP) (M:=(12+(1+(1014+(2533+(1111+(784+(2746+2)))))))) Ui WX
  (fun w os=>by rw[Qi w os,KB w os]) (by decide) (fun w=>by
   funext os
   show (_,_,_)=(_,_,_);rw[Sw w os,WS w os])
noncomputable def d1:DefRec:=match cI 160 with
 | .FunctionDef n a b _ _ _ sc _ _ p=> { name:=n,params:=a,body:=b,scope:=sc,pos:=p }
 | _=>⟨Str.empty,⟨[],[],none,[],[],none,[]⟩,[],⟨.function,[],false,false,[]⟩,default⟩
theorem YK:W.defOf tP (OpenLaw.row wL).name=some (d1,[]):=by kernel_rfl
theorem ce:PW.theDef (OpenLaw.row wL).name=some (d1.params,d1.body,d1.scope):=by kernel_rfl
theorem ri:kwWritten? d1.params.kwonlyargs d1.params.kw_defaults=some []:=by kernel_rfl
theorem tt:(chainsOk tP&&opensWell PW&&(frees (OpenLaw.row wL).toRowW&&(OpenLaw.row wL).within.isEmpty))=true:=by decide +kernel
theorem Uh:PW.bare:=⟨rfl,rfl,rfl,rfl,rfl,by decide +kernel⟩
theorem an{a b:Bool}(h:a=true)(k:b=true):(a&&b)=true:=by rw[h,k];rfl
theorem ND:sreFenced PW.main=true:=by rw[Fast.te11788848310118352699];kernel_rfl
theorem rv:((moduleNames PW.main.body).isEmpty||lookedIntoSs (moduleNames PW.main.body) PW.main.body)=true:=by rw[Fast.te12862048085361865435];kernel_rfl
theorem rx:namesResolve PW=true:=by rw[Fast.te8377067652309620493];kernel_rfl
theorem ry:PW.boundNames.all (fun n=> !worldNames.contains n)=true:=by kernel_rfl
theorem sd:(namesMeet PW PW.main.body fun _ n=>attrL n)=true:=by rw[Fast.te17119622794617984870];kernel_rfl
theorem rz:noRoadLSs { strict:= !(importedModules PW.main.body).all cThrough.contains,foot:=none,bare:=(["vars","dir","locals"]:List Str).filter (readsOut PW PW.main.body) } PW.main.body=true:=by rw[Fast.te8326940854005059898];kernel_rfl
theorem Vy:looksOpen PW=true:=by
 unfold looksOpen;exact an (an (an (an (an ND rv) rx) ry) rz) sd
theorem WK:(OpenLaw.row wL).partSaid=true:=by
 unfold OpenRow.partSaid;refine (an (an (an (an (an (an (an (an (an (an (an (an (an Vy ?_) ?_) ?_) ?_) ?_) ?_) ?_) ?_) ?_) ?_) ?_) ?_) ?_)
 all_goals kernel_rfl
theorem bg:(OpenLaw.row wL).wellSaid=true:=by
 unfold OpenRow.wellSaid;refine (an (an WK ?_) ?_)
 all_goals kernel_rfl
theorem sf:noRoadLSs { strict:=true,foot:=some wL.bound',writes:=wL.writes,may:=wL.may } wL.footing=true:=by kernel_rfl
theorem sh:wL.namesIt=true:=by rw[Fast.te16286561074155671207];kernel_rfl
theorem Z0:wL.bound'.all (fun n=> !builtinNamed n||wL.about==[n] || !wL.reads n)=true:=by rw[Fast.te6984425678791042302];kernel_rfl
theorem Z1:(namesMeet wL.prog wL.footing (fun sc n=>(!(["type","isinstance","issubclass","getattr","hasattr"]:List Str).contains n||sc.names.lookup n==some .globalImplicit) &&
  (wL.may != some n||sc.kind== .module||sc.names.lookup n==some .globalImplicit)))=true:=by kernel_rfl
theorem Z2:(namesMeet wL.prog wL.above (fun _ n=> !wL.own.contains n))=true:=by kernel_rfl
theorem Z3:(namesMeet wL.prog wL.footing fun sc n=>sc.kind== .module||sc.names.lookup n != some .globalExplicit)=true:=by kernel_rfl
theorem WR:wL.wellSaid=true:=by
 unfold OpenLaw.wellSaid;refine (an (an (an (an (an (an (an (an (an (an (an (an (an (an (an (an (an (an bg ?_) ?_) ?_) ?_) ?_) sf) ?_) sh) ?_) Z0) ?_) ?_) Z1) ?_) ?_) ?_) Z2) Z3)
 all_goals kernel_rfl
theorem VA(walk:WalkO tP BI (XL tP []) (fun w h=>∀ b o,(H1 w.params).get? b=some o->h.get? b=some o) (OpenLaw.row wL).toRowW d1 [] fun f vs=>call f vs):wL.Holds:=by
 w_on
 refine holds_law WR fun bk=> ?_;refine W.holds_open (q:=tP) (loose:=BI) (Xt:=YC) (XP:=XL tP []) (Yf:=fun s=>s.heap) (Ya:=fun w=>H1 w.params) (YP:=fun w h=>∀ b o,(H1 w.params).get? b=some o->h.get? b=some o) (N:=17000) Vx
  (fun w s e b o h=>by rw[<- e] at h;exact h) (fun w h h' x k b o e=>k b o (x b o e)) (fun s e=>xl_of s (Bool.and_eq_true_iff.mp e).1) XL.keeps YK ce ri (fun s e=>recFacts_of (Bool.and_eq_true_iff.mp e).2) (by rfl) bk tt Uh ?_ walk
 exact⟨[.list [.int 3,.int 1]],by decide +kernel,by decide +kernel⟩
end Mine
namespace Mine
set_option genCtorIdx false
set_option genSizeOf false
set_option genSizeOfSpec false
inductive V where
 | none|bool (b:Bool)|int (i:Int)|str (s:String)|aM (xs:List V)|ref (a:Nat)|g (n:Nat)|mD (lo hi:Int)
inductive aY where
 | list(xs:List V)
 | dict(es:List (Int×V))(ep:Option Nat)
 | inst(c:Nat)(fs:List (Nat×V))
noncomputable abbrev Hp:=List aY
set_option genCtorIdx true in
inductive GN where|add|sub|mul|fdiv|wN|Xd|Xg|WW|J2|Uj
set_option genCtorIdx true in
inductive Rp where|eq|ne|lt|le|gt|ge|is|FK|pY|yL
inductive E where
 | aB(v:V)
 | aA(i:Nat)
 | cQ(op:GN)(a b:E)
 | neg(a:E)
 | not(a:E)
 | and(es:List E)
 | or(es:List E)
 | cH(op:Rp)(a b:E)
 | tX(Nd Km:Rp)(a b c:E)
 | ite(c t f:E)
 | aM(es:List E)
 | list(es:List E)
 | dict(kvs:List E)
 | aN(o:E)(a:Nat)
 | bP(o i:E)
 | kX(o lo hi:E)
 | call(f:E)(args:List E)
 | aJ(o:E)(m:Nat)(args:List E)
 | comp(gP:E)(fR:Nat)(iter:E)
 | nH(gP:E)(fR:Nat)(iter cond:E)
inductive S where
 | expr(e:E)
 | eO(i:Nat)(e:E)
 | jC(is:List Nat)(e:E)
 | bZ(o:E)(a:Nat)(e:E)
 | Dh(o i e:E)
 | Oa(i:Nat)(op:GN)(e:E)
 | Lw(o i:E)(op:GN)(e:E)
 | fU(c:E)(t f:List S)
 | qM(c:E)(b:List S)
 | qK(fR:Nat)(it:E)(b:List S)
 | KF(fR:Nat)(it:E)(b:List S)
 | KG(Wg:List Nat)(it:E)(b:List S)
 | MS(i x:Nat)(l:E)(b:List S)
 | ret(e:E)
 | ET
 | BU
 | fail
set_option genCtorIdx true in
inductive Wu where|len|min|max|range|list|tuple|all
inductive Kind where
 | fn(np:Nat)(nv:Nat)(body:List S)
 | cls(eF:Nat)
 | blt(b:Wu)
 | jH(es:List (Int×V))
 | kB(xs:List Int)
 | cU
structure Cx where
 kind:Nat->Kind
 aJ:Nat->Nat->Option Nat
 iQ:Nat->Nat->Bool
 fr:Nat->Bool
theorem cY{α:Type}{x:α}{p:Prop}(h:(none:Option α)=some x):p:=nomatch h
noncomputable def bO{α β:Type}(r:Option α)(f:α->Option β):Option β:=match r with
 | some x=>f x
 | none=>none
theorem aK{α β:Type}{r:Option α}{f:α->Option β}{y:β}(h:bO r f=some y):dO (fun x=>r=some x) (fun x=>f x=some y):=by
 cases r with
 | none=>exact cY h
 | some x=>exact⟨x,rfl,h⟩
theorem dT{α β:Type}{r:Option α}{x:α}{f:α->Option β}(h:r=some x):bO r f=f x:=by rw[h];rfl
noncomputable def dI{β:Type}(c:Bool)(x:Option β):Option β:=match c with
 | true=>x
 | false=>none
theorem bH{β:Type}{c:Bool}{x:Option β}{y:β}(h:dI c x=some y):c=true/\x=some y:=by
 cases c with
 | false=>exact cY h
 | true=>exact⟨rfl,h⟩
theorem dJ{β:Type}{c:Bool}{x:Option β}(h:c=true):dI c x=x:=by rw[h];rfl
noncomputable def Jg:V->Option Bool
 | .bool b=>some b
 | _=>none
noncomputable def uT:V->Option Int
 | .int i=>some i
 | _=>none
noncomputable def GA:V->Option Nat
 | .ref a=>some a
 | _=>none
theorem B4{v:V}{b:Bool}(h:Jg v=some b):v= .bool b:=by
 cases v<;>first|exact cY h|exact congrArg V.bool (Option.some.inj h)
theorem dW{v:V}{i:Int}(h:uT v=some i):v= .int i:=by
 cases v<;>first|exact cY h|exact congrArg V.int (Option.some.inj h)
theorem kR{v:V}{i:Nat}(h:GA v=some i):v= .ref i:=by
 cases v<;>first|exact cY h|exact congrArg V.ref (Option.some.inj h)
noncomputable def nJ:aY->Option (List V)
 | .list xs=>some xs
 | .dict _ _=>none
 | .inst _ _=>none
noncomputable def Us:aY->Option (List (Int×V)×Option Nat)
 | .list _=>none
 | .dict es ep=>some (es,ep)
 | .inst _ _=>none
noncomputable def CT:aY->Option (Nat×List (Nat×V))
 | .list _=>none
 | .dict _ _=>none
 | .inst c fs=>some (c,fs)
theorem Pp{o:aY}{xs:List V}(h:nJ o=some xs):o= .list xs:=by
 cases o<;>first|exact cY h|exact congrArg aY.list (Option.some.inj h)
theorem PF{o:aY}{p}(h:Us o=some p):o= .dict p.1 p.2:=by
 cases o<;>first|exact cY h|(cases Option.some.inj h;rfl)
theorem Pj{o:aY}{p}(h:CT o=some p):o= .inst p.1 p.2:=by
 cases o<;>first|exact cY h|(cases Option.some.inj h;rfl)
noncomputable def nS(h:Hp)(a:Nat):Option (List V):=bO h[a]? nJ
noncomputable def pW(h:Hp)(a:Nat):Option (List (Int×V)×Option Nat):=bO h[a]? Us
noncomputable def I5(h:Hp)(a:Nat):Option (Nat×List (Nat×V)):=bO h[a]? CT
theorem eV{h:Hp}{a:Nat}{xs:List V}(e:nS h a=some xs):h[a]? = some (.list xs):=by
 obtain⟨o,h1,h2⟩:=aK e;rw[h1,Pp h2]
theorem vH{h:Hp}{a:Nat}{p}(e:pW h a=some p):h[a]? = some (.dict p.1 p.2):=by
 obtain⟨o,h1,h2⟩:=aK e;rw[h1,PF h2]
theorem M1{h:Hp}{a:Nat}{p}(e:I5 h a=some p):h[a]? = some (.inst p.1 p.2):=by
 obtain⟨o,h1,h2⟩:=aK e;rw[h1,Pj h2]
noncomputable def cJ{α:Type}(o:Option α)(Q:α->Prop):Prop:=match o with
 | some x=>Q x
 | none=>False
theorem cJ.ok{α:Type}{o:Option α}{Q:α->Prop}(h:cJ o Q):dO (fun x=>o=some x) Q:=by
 cases o with
 | none=>exact h.elim
 | some x=>exact⟨x,rfl,h⟩
theorem cJ.of{α:Type}{o:Option α}{x:α}{Q:α->Prop}(e:o=some x)(h:Q x):cJ o Q:=by rw[e];exact h
noncomputable def cR{β:Sort u}(c:Bool)(x y:β):β:=match c with
 | true=>x
 | false=>y
theorem M0{c:Bool}{p:Prop}(h:cR c p False):c=true/\p:=by
 cases c with
 | true=>exact⟨rfl,h⟩
 | false=>exact h.elim
mutual
noncomputable def LJ:V->V->Nat->Option Bool
 | .none,.none,_=>some true
 | .bool a,.bool b,_=>some (a==b)
 | .int a,.int b,_=>some (a==b)
 | .str a,.str b,_=>some (a==b)
 | .aM xs,.aM ys,n+1=>yB xs ys n
 | _,_,_=>Option.none
noncomputable def yB:List V->List V->Nat->Option Bool
 | [],[],_=>some true
 | [],_::_,_=>some false
 | _::_,[],_=>some false
 | x::xs,y::ys,n=>bO (LJ x y n) fun a=>bO (yB xs ys n) fun b=>some (a&&b)
end
noncomputable def XF(h:Hp)(x y:V):Option Bool:=match GA x with
 | some a=>bO (GA y) fun b=>bO (nS h a) fun xs=>bO (nS h b) fun ys=>if xs.length=ys.length then yB xs ys 20 else some false
 | none=>LJ x y 20
noncomputable def dU(i:Int):Bool:=decide (i.natAbs<2 ^ 60)
noncomputable def Jr(a b:Int):Int:=if 0<=a/\0<=b then ((a.toNat &&& b.toNat:Nat):Int) else 0
noncomputable def Xc(a b:Int):Int:=if 0<=a/\0<=b then ((a.toNat ||| b.toNat:Nat):Int) else 0
noncomputable def nn(a b:Int):Bool:=decide (0<=a)&&decide (0<=b)
noncomputable def CI(op:GN)(a b:Int):Option Int:=match op with
 | .add=>some (a+b)
 | .sub=>some (a - b)
 | .mul=>dI (dU a&&dU b) (some (a*b))
 | .fdiv=>dI (b != 0&&dU b) (some (a.fdiv b))
 | .wN=>dI (b != 0) (some (a.fmod b))
 | .Xd=>dI (dU a&&decide (0<=b)&&decide (b<=1000000)) (some (a ^ b.toNat))
 | .Xg=>dI (decide (0<=b)) (some (a.fdiv (2 ^ b.toNat)))
 | .WW=>dI (dU a&&decide (0<=b)&&decide (b<=1000000)) (some (a*2 ^ b.toNat))
 | .J2=>dI (nn a b) (some (Jr a b))
 | .Uj=>dI (nn a b) (some (Xc a b))
noncomputable abbrev R(α:Type):=Option (α×Hp)
noncomputable def most:Nat:=16000000
noncomputable def Kf(h:Hp)(xs:List V):V×Hp:=(.ref h.length,h++[.list xs])
noncomputable def WE:List V->Option V
 | [x]=>some x
 | _=>none
noncomputable def YH(op:GN)(xs:List V)(y:V)(h:Hp):R V:=match op with
 | .add=>bO (GA y) fun b=>bO (nS h b) fun ys=>dI (decide (xs.length+ys.length<=most)) (some (Kf h (xs++ys)))
 | .mul=>bO (uT y) fun n=>bO (WE xs) fun x=>dI (decide (0<=n)&&decide (n<=most)) (some (Kf h (List.replicate n.toNat x)))
 | _=>none
noncomputable def Do(op:GN)(x y:V)(h:Hp):R V:=match GA x with
 | some a=>bO (nS h a) fun xs=>YH op xs y h
 | none=>bO (uT x) fun a=>bO (uT y) fun b=>bO (CI op a b) fun c=>some (.int c,h)
noncomputable def cA(es:List (Int×V))(k:Int):Option V:=(es.find? fun e=>e.1==k).map (·.2)
noncomputable def jA(es:List (Int×V))(k:Int)(v:V):List (Int×V):=
 if es.any (fun e=>e.1==k) then es.map fun e=>if e.1==k then (k,v) else e else es++[(k,v)]
noncomputable def I4(a:Int):List V->Option Bool
 | []=>some false
 | x::r=>bO (uT x) fun b=>bO (I4 a r) fun q=>some (a==b||q)
noncomputable def YS:Kind->Option (List (Int×V))
 | .jH es=>some es
 | .fn _ _ _=>none
 | .cls _=>none
 | .blt _=>none
 | .kB _=>none
 | .cU=>none
noncomputable def Wy:Kind->Option (List Int)
 | .jH _=>none
 | .fn _ _ _=>none
 | .cls _=>none
 | .blt _=>none
 | .kB xs=>some xs
 | .cU=>none
noncomputable def Zp(G:Cx)(a:Int)(y:V)(h:Hp):Option Bool:=match y with
 | .aM ys=>I4 a ys
 | .ref d=>bO (pW h d) fun p=>some (cA p.1 a).isSome
 | .g n=>bO (YS (G.kind n)) fun es=>some (cA es a).isSome
 | _=>none
noncomputable def isNone:V->Option Bool
 | .none=>some true
 | .g _=>Option.none
 | _=>some false
noncomputable def vQ:V->Bool
 | .none=>true
 | _=>false
theorem oZ{v:V}(h:vQ v=true):v= .none:=by
 cases v<;>first|rfl|exact absurd h Bool.false_ne_true
noncomputable def M3(x y:V)(f:Int->Int->Bool):Option Bool:=bO (uT x) fun a=>bO (uT y) fun b=>some (f a b)
noncomputable def vE(G:Cx)(op:Rp)(x y:V)(h:Hp):Option Bool:=match op with
 | .eq=>XF h x y
 | .ne=>bO (XF h x y) fun b=>some (!b)
 | .lt=>M3 x y fun a b=>decide (a<b)
 | .le=>M3 x y fun a b=>decide (a<=b)
 | .gt=>M3 x y fun a b=>decide (a>b)
 | .ge=>M3 x y fun a b=>decide (a≥b)
 | .is=>dI (vQ y) (isNone x)
 | .FK=>dI (vQ y) (bO (isNone x) fun b=>some (!b))
 | .pY=>bO (uT x) fun a=>Zp G a y h
 | .yL=>bO (uT x) fun a=>bO (Zp G a y h) fun b=>some (!b)
noncomputable def fY(i:Int)(n:Nat):Option Nat:=
 if 0<=i then (if i<n then some i.toNat else none) else (if 0<=i+n then some (i+n).toNat else none)
noncomputable def Q2(xs:List V)(i:Int):Option V:=bO (fY i xs.length) fun k=>xs[k]?
noncomputable def Zo(o:aY)(i:Int):Option V:=match o with
 | .list xs=>Q2 xs i
 | .dict es _=>cA es i
 | .inst _ _=>none
noncomputable def D8(G:Cx)(o:V)(i:Int)(h:Hp):Option V:=match o with
 | .aM xs=>Q2 xs i
 | .ref a=>bO h[a]? fun ob=>Zo ob i
 | .g n=>bO (YS (G.kind n)) fun es=>cA es i
 | _=>none
noncomputable def Dq(n:Nat)(d:Nat)(v:V):Option Nat:=match uT v with
 | some i=>dI (decide (0<=i)&&decide (i<=n)) (some i.toNat)
 | none=>dI (vQ v) (some d)
noncomputable def Eb(o lo hi:V)(h:Hp):R V:=match o with
 | .aM xs=>bO (uT lo) fun i=>dI (vQ hi&&(decide (1<=i)&&decide (i<=xs.length))) (some (.aM (xs.drop i.toNat),h))
 | .ref l=>bO (nS h l) fun xs=>bO (Dq xs.length 0 lo) fun a=>bO (Dq xs.length xs.length hi) fun b=>some (Kf h ((xs.take b).drop a))
 | _=>none
noncomputable def jZ:List (Nat×V)->Nat->Option V
 | [],_=>none
 | e::r,a=>cR (Nat.beq e.1 a) (some e.2) (jZ r a)
noncomputable def tZ:List (Nat×V)->Nat->V->List (Nat×V)
 | [],a,v=>[(a,v)]
 | e::r,a,v=>cR (Nat.beq e.1 a) ((a,v)::r) (e::tZ r a v)
noncomputable def Ck(G:Cx)(o:V)(a:Nat)(h:Hp):Option V:=bO (GA o) fun l=>bO (I5 h l) fun p=>dI (G.iQ p.1 a) (jZ p.2 a)
noncomputable def oA(G:Cx)(o:V)(a:Nat)(v:V)(h:Hp):Option Hp:=bO (GA o) fun l=>bO (I5 h l) fun p=>dI (G.iQ p.1 a) (some (h.set l (.inst p.1 (tZ p.2 a v))))
noncomputable def bx(o:aY)(i:Int)(v:V):Option aY:=match o with
 | .list xs=>bO (fY i xs.length) fun k=>some (.list (xs.set k v))
 | .dict es ep=>dI (decide (es.length<=most)) (some (.dict (jA es i v) (if (cA es i).isSome then ep else ep.map (· + 1))))
 | .inst _ _=>none
noncomputable def oB(o:V)(i:Int)(v:V)(h:Hp):Option Hp:=bO (GA o) fun l=>bO h[l]? fun ob=>bO (bx ob i v) fun jm=>some (h.set l jm)
noncomputable def GZ:List V->Option Bool
 | []=>some true
 | x::r=>bO (Jg x) fun b=>bO (GZ r) fun q=>some (b&&q)
noncomputable def EQ:List V->Option (List (Int×V))
 | []=>some []
 | [_]=>none
 | k::v::r=>bO (uT k) fun i=>bO (EQ r) fun es=>dI (!es.any fun e=>e.1==i) (some ((i,v)::es))
noncomputable def Df{α:Type}(args:List V)(f:V->Option α):Option α:=match args with
 | []=>none
 | x::r=>match r with
  | []=>f x
  | _::_=>none
noncomputable def Ow{α:Type}(args:List V)(f:V->V->Option α):Option α:=match args with
 | []=>none
 | x::r=>Df r (f x)
theorem mT{α:Type}{args:List V}{f:V->Option α}{y:α}(h:Df args f=some y):dO (fun x=>args=[x]) (fun x=>f x=some y):=by
 cases args with
 | nil=>exact cY h
 | cons x r=>cases r with
  | nil=>exact⟨x,rfl,h⟩
  | cons=>exact cY h
theorem Dg{α:Type}{args:List V}{f:V->V->Option α}{z:α}(h:Ow args f=some z):AG (fun x y=>args=[x,y]) (fun x y=>f x y=some z):=by
 cases args with
 | nil=>exact cY h
 | cons x r=>
  obtain⟨y,h1,h2⟩:=mT (f:=f x) h;exact⟨x,y,by rw[h1],h2⟩
noncomputable def EB(G:Cx)(x:V)(h:Hp):Option (List V):=match x with
 | .aM xs=>some xs
 | .ref a=>nS h a
 | .g n=>bO (Wy (G.kind n)) fun xs=>dI (decide (xs.length<=most)) (some (xs.map .int))
 | _=>none
noncomputable def AZ(G:Cx)(b:Wu)(args:List V)(h:Hp):R V:=match b with
 | .len=>Df args fun x=>bO (EB G x h) fun xs=>some (.int xs.length,h)
 | .min=>Ow args fun x y=>bO (uT x) fun a=>bO (uT y) fun b=>some (.int (if b<a then b else a),h)
 | .max=>Ow args fun x y=>bO (uT x) fun a=>bO (uT y) fun b=>some (.int (if b>a then b else a),h)
 | .range=>match args with
  | []=>none
  | x::r=>bO (uT x) fun a=>match r with
   | []=>dI (dU a) (some (.mD 0 a,h))
   | _::_=>Df r fun y=>bO (uT y) fun b=>dI (dU a&&dU b) (some (.mD a b,h))
 | .list=>Df args fun x=>bO (EB G x h) fun xs=>some (Kf h xs)
 | .tuple=>Df args fun x=>bO (EB G x h) fun xs=>some (.aM xs,h)
 | .all=>Df args fun x=>bO (GA x) fun a=>bO (nS h a) fun xs=>bO (GZ xs) fun b=>some (.bool b,h)
noncomputable abbrev PE:=V->Hp->Prop
noncomputable abbrev Call:=Nat->List V->Hp->PE->Prop
noncomputable def OT(G:Cx)(cl:Call)(f:V)(args:List V)(h:Hp)(Q:PE):Prop:=match f with
 | .g n=>(match G.kind n with
  | .fn _ _ _=>cl n args h Q
  | .cls eF=>cl eF (.ref h.length::args) (h++[.inst n []]) fun v h'=>v= .none/\Q (.ref h.length) h'
  | .blt b=>cJ (AZ G b args h) fun r=>Q r.1 r.2
  | .jH _=>False
  | .kB _=>False
  | .cU=>False)
 | _=>False
inductive Jn where|NG|Ur|UI (c:Nat)
noncomputable def Tt(G:Cx)(m:Nat):aY->Option Jn
 | .list _=>dI (Nat.ble m 2) (some .NG)
 | .dict _ _=>dI (Nat.beq m 3) (some .Ur)
 | .inst c fs=>dI ((G.aJ c m).isSome&&(jZ fs m).isNone) (some (.UI c))
noncomputable def OH(G:Cx)(m:Nat)(o:V)(h:Hp):Option Jn:=bO (GA o) fun l=>bO h[l]? (Tt G m)
noncomputable def vT(l:Nat)(xs:List V)(m:Nat)(args:List V)(h:Hp):R V:=match m with
 | 0=>Df args fun v=>dI (decide (xs.length<most)) (some (.none,h.set l (.list (xs++[v]))))
 | 1=>match args with
  | []=>bO xs.getLast? fun v=>some (v,h.set l (.list xs.dropLast))
  | _::_=>none
 | 2=>Df args fun y=>bO (GA y) fun b=>bO (nS h b) fun ys=>dI (decide (l≠b)&&decide (xs.length+ys.length<=most)) (some (.none,h.set l (.list (xs++ys))))
 | _+3=>none
noncomputable def ME(es:List (Int×V))(m:Nat)(args:List V)(h:Hp):R V:=dI (Nat.beq m 3) (Ow args fun x d=>bO (uT x) fun k=>some ((cA es k).getD d,h))
noncomputable def Rl(G:Cx)(cl:Call)(Qf:Jn)(o:V)(m:Nat)(args:List V)(h:Hp)(Q:PE):Prop:=match Qf with
 | .NG=>cJ (GA o) fun l=>cJ (nS h l) fun xs=>cJ (vT l xs m args h) fun r=>Q r.1 r.2
 | .Ur=>cJ (GA o) fun l=>cJ (pW h l) fun p=>cJ (ME p.1 m args h) fun r=>Q r.1 r.2
 | .UI c=>cJ (G.aJ c m) fun f=>cl f (o::args) h Q
noncomputable def gJ{σ:Type}(turn:σ->(σ->Prop)->Prop)(s:σ):Prop:=
 ∃ (n:Nat) (I:Nat->σ->Prop),I n s/\∀ n s,I n s->turn s fun s'=>∃ m,m<n/\I m s'
noncomputable abbrev cP:=List (Option V)
noncomputable def qA(it:V)(k:Nat)(h:Hp):Option (Option V):=match it with
 | .aM xs=>some xs[k]?
 | .mD lo hi=>some (if lo+k<hi then some (.int (lo+k)) else none)
 | .ref a=>bO (nS h a) fun xs=>some xs[k]?
 | _=>none
noncomputable def HN(ρ:cP)(i:Nat):Option V:=ρ[i]?.join
noncomputable def SA(vs:List V):Bool:=decide (vs.length<=most)
inductive Fl where
 | next|ret (v:V)
noncomputable abbrev PS:=Fl->cP->Hp->Prop
noncomputable def rA(turn:V->Hp->(Option V->Hp->Prop)->Prop)(it:V)(Q:PE)(p:Nat×List V×Hp)(go:Nat×List V×Hp->Prop):Prop:=
 cJ (qA it p.1 p.2.2) fun y=>match y with
  | none=>Q (.ref p.2.2.length) (p.2.2++[.list p.2.1])
  | some x=>turn x p.2.2 fun r h'=>match r with
   | some v=>p.2.1.length<most/\go (p.1+1,p.2.1++[v],h')
   | none=>go (p.1+1,p.2.1,h')
mutual
noncomputable def wE(G:Cx)(cl:Call):E->cP->Hp->PE->Prop
 | .aB v,_,h,Q=>Q v h
 | .aA i,ρ,h,Q=>cJ (HN ρ i) fun v=>Q v h
 | .cQ op a b,ρ,h,Q=>wE G cl a ρ h fun x h1=>wE G cl b ρ h1 fun y h2=>cJ (Do op x y h2) fun r=>Q r.1 r.2
 | .neg a,ρ,h,Q=>wE G cl a ρ h fun x h1=>cJ (uT x) fun i=>Q (.int (-i)) h1
 | .not a,ρ,h,Q=>wE G cl a ρ h fun x h1=>cJ (Jg x) fun b=>Q (.bool (!b)) h1
 | .and es,ρ,h,Q=>Tz G cl es ρ h Q
 | .or es,ρ,h,Q=>co G cl es ρ h Q
 | .cH op a b,ρ,h,Q=>wE G cl a ρ h fun x h1=>wE G cl b ρ h1 fun y h2=>cJ (vE G op x y h2) fun r=>Q (.bool r) h2
 | .tX Nd Km a b c,ρ,h,Q=>wE G cl a ρ h fun x h1=>wE G cl b ρ h1 fun y h2=>cJ (vE G Nd x y h2) fun r=>
   cR r (wE G cl c ρ h2 fun z h3=>cJ (vE G Km y z h3) fun r=>Q (.bool r) h3) (Q (.bool false) h2)
 | .ite c t f,ρ,h,Q=>wE G cl c ρ h fun x h1=>cJ (Jg x) fun b=>cR b (wE G cl t ρ h1 Q) (wE G cl f ρ h1 Q)
 | .aM es,ρ,h,Q=>Oo G cl es ρ h fun vs h1=>cR (SA vs) (Q (.aM vs) h1) False
 | .list es,ρ,h,Q=>Oo G cl es ρ h fun vs h1=>cR (SA vs) (Q (.ref h1.length) (h1++[.list vs])) False
 | .dict kvs,ρ,h,Q=>Oo G cl kvs ρ h fun vs h1=>cJ (EQ vs) fun es=>Q (.ref h1.length) (h1++[.dict es (cR kvs.isEmpty (some 0) Option.none)])
 | .aN o a,ρ,h,Q=>wE G cl o ρ h fun x h1=>cJ (Ck G x a h1) fun v=>Q v h1
 | .bP o i,ρ,h,Q=>wE G cl o ρ h fun x h1=>wE G cl i ρ h1 fun k h2=>cJ (uT k) fun i=>cJ (D8 G x i h2) fun v=>Q v h2
 | .kX o lo hi,ρ,h,Q=>wE G cl o ρ h fun x h1=>wE G cl lo ρ h1 fun a h2=>wE G cl hi ρ h2 fun b h3=>cJ (Eb x a b h3) fun r=>Q r.1 r.2
 | .call f args,ρ,h,Q=>wE G cl f ρ h fun fv h1=>Oo G cl args ρ h1 fun vs h2=>OT G cl fv vs h2 Q
 | .aJ o m args,ρ,h,Q=>wE G cl o ρ h fun ov h1=>cJ (OH G m ov h1) fun Qf=>Oo G cl args ρ h1 fun vs h2=>Rl G cl Qf ov m vs h2 Q
 | .comp gP fR it,ρ,h,Q=>wE G cl it ρ h fun x h1=>gJ (rA (fun v hh q=>wE G cl gP (ρ.set fR (some v)) hh fun y h'=>q (some y) h') x Q) (0,[],h1)
 | .nH gP fR it c,ρ,h,Q=>wE G cl it ρ h fun x h1=>gJ (rA (fun v hh q=>wE G cl c (ρ.set fR (some v)) hh fun t Oh=>cJ (Jg t) fun b=>
   cR b (wE G cl gP (ρ.set fR (some v)) Oh fun y h'=>q (some y) h') (q none Oh)) x Q) (0,[],h1)
noncomputable def Oo(G:Cx)(cl:Call):List E->cP->Hp->(List V->Hp->Prop)->Prop
 | [],_,h,Q=>Q [] h
 | e::es,ρ,h,Q=>wE G cl e ρ h fun v h1=>Oo G cl es ρ h1 fun vs h2=>Q (v::vs) h2
noncomputable def Tz(G:Cx)(cl:Call):List E->cP->Hp->PE->Prop
 | [],_,_,_=>False
 | e::es,ρ,h,Q=>wE G cl e ρ h fun x h1=>cJ (Jg x) fun b=>cR (es.isEmpty || !b) (Q (.bool b) h1) (Tz G cl es ρ h1 Q)
noncomputable def co(G:Cx)(cl:Call):List E->cP->Hp->PE->Prop
 | [],_,_,_=>False
 | e::es,ρ,h,Q=>wE G cl e ρ h fun x h1=>cJ (Jg x) fun b=>cR (es.isEmpty||b) (Q (.bool b) h1) (co G cl es ρ h1 Q)
end
noncomputable def gS:List Nat->List V->cP->Option cP
 | [],vs,ρ=>match vs with
  | []=>some ρ
  | _::_=>none
 | i::is,vs,ρ=>match vs with
  | []=>none
  | v::vs=>gS is vs (ρ.set i (some v))
noncomputable def B3:V->Option (List V)
 | .aM xs=>some xs
 | _=>none
noncomputable def jE(k:cP->Hp->Prop)(Q:PS):PS:=fun fl ρ h=>match fl with
 | .next=>k ρ h
 | .ret v=>Q (.ret v) ρ h
noncomputable def rB(nx:Nat->cP->Hp->Option (Option cP))(body:cP->Hp->PS->Prop)(Q:PS)(p:Nat×cP×Hp)(go:Nat×cP×Hp->Prop):Prop:=
 cJ (nx p.1 p.2.1 p.2.2) fun y=>match y with
  | none=>Q .next p.2.1 p.2.2
  | some ρ1=>body ρ1 p.2.2 (jE (fun ρ h=>go (p.1+1,ρ,h)) Q)
noncomputable def JI(bind:Nat->V->cP->Option cP)(it:V):Nat->cP->Hp->Option (Option cP):=fun k ρ h=>bO (qA it k h) fun y=>match y with
 | none=>some none
 | some v=>bO (bind k v ρ) fun ρ1=>some (some ρ1)
noncomputable def V7(fR d:Nat)(CU:List Int)(ep:Nat):Nat->cP->Hp->Option (Option cP):=fun k ρ h=>bO (pW h d) fun p=>
 dI (decide (p.1.map (·.1)=CU)&&decide (p.2=some ep)) (match CU[k]? with
  | none=>some none
  | some i=>some (some (ρ.set fR (some (.int i)))))
mutual
noncomputable def wS(G:Cx)(cl:Call):S->cP->Hp->PS->Prop
 | .expr e,ρ,h,Q=>wE G cl e ρ h fun _ h1=>Q .next ρ h1
 | .eO i e,ρ,h,Q=>wE G cl e ρ h fun v h1=>Q .next (ρ.set i (some v)) h1
 | .jC is e,ρ,h,Q=>wE G cl e ρ h fun v h1=>cJ (B3 v) fun vs=>cJ (gS is vs ρ) fun ρ1=>Q .next ρ1 h1
 | .bZ o a e,ρ,h,Q=>wE G cl e ρ h fun v h1=>wE G cl o ρ h1 fun x h2=>cJ (oA G x a v h2) fun h3=>Q .next ρ h3
 | .Dh o i e,ρ,h,Q=>wE G cl e ρ h fun v h1=>wE G cl o ρ h1 fun x h2=>wE G cl i ρ h2 fun k h3=>cJ (uT k) fun i=>cJ (oB x i v h3) fun h4=>Q .next ρ h4
 | .Oa i op e,ρ,h,Q=>cJ (HN ρ i) fun x=>cJ (uT x) fun a=>wE G cl e ρ h fun y h1=>cJ (uT y) fun b=>cJ (CI op a b) fun c=>Q .next (ρ.set i (some (.int c))) h1
 | .Lw o i op e,ρ,h,Q=>wE G cl o ρ h fun x h1=>wE G cl i ρ h1 fun k h2=>cJ (uT k) fun i=>cJ (D8 G x i h2) fun z=>cJ (uT z) fun a=>wE G cl e ρ h2 fun y h3=>cJ (uT y) fun b=>cJ (CI op a b) fun c=>
   cJ (oB x i (.int c) h3) fun h4=>Q .next ρ h4
 | .fU c t f,ρ,h,Q=>wE G cl c ρ h fun x h1=>cJ (Jg x) fun b=>cR b (eI G cl t ρ h1 Q) (eI G cl f ρ h1 Q)
 | .qM c b,ρ,h,Q=>gJ (fun p go=>wE G cl c p.1 p.2 fun v h1=>cJ (Jg v) fun t=>cR t (eI G cl b p.1 h1 (jE (fun ρ h=>go (ρ,h)) Q)) (Q .next p.1 h1)) (ρ,h)
 | .qK fR it b,ρ,h,Q=>wE G cl it ρ h fun x h1=>gJ (rB (JI (fun _ v ρ=>some (ρ.set fR (some v))) x) (eI G cl b) Q) (0,ρ,h1)
 | .KF fR it b,ρ,h,Q=>wE G cl it ρ h fun x h1=>cJ (GA x) fun d=>cJ (pW h1 d) fun p=>cJ p.2 fun ep=>gJ (rB (V7 fR d (p.1.map (·.1)) ep) (eI G cl b) Q) (0,ρ,h1)
 | .KG Wg it b,ρ,h,Q=>wE G cl it ρ h fun x h1=>gJ (rB (JI (fun _ v ρ=>bO (B3 v) fun vs=>gS Wg vs ρ) x) (eI G cl b) Q) (0,ρ,h1)
 | .MS i x l b,ρ,h,Q=>wE G cl l ρ h fun v h1=>cJ (GA v) fun a=>gJ (rB (JI (fun k v ρ=>some ((ρ.set i (some (.int k))).set x (some v))) (.ref a)) (eI G cl b) Q) (0,ρ,h1)
 | .ret e,ρ,h,Q=>wE G cl e ρ h fun v h1=>Q (.ret v) ρ h1
 | .ET,ρ,h,Q=>Q (.ret .none) ρ h
 | .BU,ρ,h,Q=>Q .next ρ h
 | .fail,_,_,_=>False
noncomputable def eI(G:Cx)(cl:Call):List S->cP->Hp->PS->Prop
 | [],ρ,h,Q=>Q .next ρ h
 | s::r,ρ,h,Q=>wS G cl s ρ h (jE (fun ρ1 h1=>eI G cl r ρ1 h1 Q) Q)
end
noncomputable def eG:Fl->V
 | .ret v=>v
 | .next=>.none
noncomputable def MR:Kind->Option (Nat×Nat×List S)
 | .fn np nv b=>some (np,nv,b)
 | .cls _=>none
 | .blt _=>none
 | .jH _=>none
 | .kB _=>none
 | .cU=>none
mutual
noncomputable def pQ(g:Nat->Nat):V->V
 | .none=>.none
 | .bool b=>.bool b
 | .int i=>.int i
 | .str s=>.str s
 | .aM xs=>.aM (kH g xs)
 | .ref a=>.ref (g a)
 | .g n=>.g n
 | .mD lo hi=>.mD lo hi
noncomputable def kH(g:Nat->Nat):List V->List V
 | []=>[]
 | x::xs=>pQ g x::kH g xs
end
noncomputable def mQ(g:Nat->Nat):aY->aY
 | .list xs=>.list (kH g xs)
 | .dict es ep=>.dict (es.map fun e=>(e.1,pQ g e.2)) ep
 | .inst c fs=>.inst c (fs.map fun e=>(e.1,pQ g e.2))
noncomputable def fN(f:List Nat)(n i:Nat):Nat:=match f[i]? with
 | some j=>j
 | none=>n+(i - f.length)
structure Ch(f:List Nat)(L h:Hp):Prop where
 len:L.length=f.length
 nd:f.Nodup
 oK: ∀ (i j:Nat),f[i]? = some j->j<h.length/\h[j]? = (L[i]?).map (mQ (fN f h.length))
structure El(f:List Nat)(h L' h':Hp):Prop where
 len:h'.length=h.length+(L'.length - f.length)
 oK: ∀ (k i:Nat),f[k]? = some i->h'[i]? = (L'[k]?).map (mQ (fN f h.length))
 keep: ∀ i,i<h.length->i∉f->h'[i]? = h[i]?
 new: ∀ j,h'[h.length+j]? = (L'[f.length+j]?).map (mQ (fN f h.length))
noncomputable def dy(cl:Call):Call:=fun n args h Q=>∃ (f:List Nat) (L:Hp) (as:List V),Ch f L h/\kH (fN f h.length) as=args/\cl n as L fun v L'=>∀ h',El f h L' h'->Q (pQ (fN f h.length) v) h'
noncomputable def Uw(G:Cx)(cl:Call):Call:=fun n args h Q=>cR (G.fr n) (dy cl n args h Q) (cl n args h Q)
inductive Bx(p:Prop):Prop where
 | mk(h:p):Bx p
noncomputable def UR(G:Cx):Nat->Call
 | 0,_,_,_,_=>False
 | d+1,n,args,h,Q=>cJ (MR (G.kind n)) fun q=>cR (Nat.beq args.length q.1) (eI G (Uw G fun n args h Q=>Bx (UR G d n args h Q)) q.2.2 (args.map some++List.replicate (q.2.1 - q.1) none) h fun fl _ h1=>Q (eG fl) h1) False
@[irreducible]
noncomputable def wF(G:Cx)(d:Nat):Call:=UR G d
theorem OU{G:Cx}{d:Nat}: wF G d=UR G d:=by unfold wF;rfl
end Mine
namespace Mine
noncomputable def Lz:List S:=[.ret (.cH .pY (.aA 0) (.aB (.g 108)))]
noncomputable def zL:List S:=[.ret (.ite (.call (.aB (.g 14)) [(.aA 0)]) (.aB .none) (.aB (.int 0)))]
noncomputable def Dk:List S:=[.fU (.cH .eq (.aA 1) (.aB (.int (-64)))) [.ret (.aM [(.aM []),(.aM [])])] [],.fU (.cH .lt (.aA 1) (.aB (.int 0))) [.ret (.ite (.cH .pY (.aA 1) (.aB (.g 107))) (.aM [(.aM []),(.aM [(.aA 1)])]) (.aB .none))] [],.ret (.ite (.cH .lt (.aA 1) (.call (.aB (.g 0)) [(.aA 0)])) (.bP (.aA 0) (.aA 1)) (.aB .none))]
noncomputable def AU:List S:=[.ret (.cH .pY (.aA 0) (.aB (.aM [(.int 69),(.int 80),(.int 103),(.int 104),(.int 105),(.int 121),(.int 122),(.int 123),(.int 167),(.int 172),(.int 173),(.int 192),(.int 193),(.int 194),(.int 195),(.int 196),(.int 64)])))]
noncomputable def AV:List S:=[.ret (.tX .le .le (.aB (.int 69)) (.aA 0) (.aB (.int 196)))]
noncomputable def Dm:List S:=[.ret (.or [(.tX .le .le (.aB (.int 69)) (.aA 0) (.aB (.int 90))),(.cH .eq (.aA 0) (.aB (.int 209)))])]
noncomputable def Gh:List S:=[.fU (.or [(.cH .pY (.aA 0) (.aB (.aM [(.int 35),(.int 37),(.int 63),(.int 64),(.int 209),(.int 210),(.int 64528),(.int 256),(.int 257)]))),(.cH .pY (.aA 0) (.aB (.g 109))),(.call (.aB (.g 18)) [(.aA 0)])]) [.ret (.aB (.bool true))] [],.ret (.tX .le .lt (.aB (.int 16384)) (.aA 0) (.aB (.int 20480)))]
noncomputable def Jz:List S:=[.ret (.or [(.cH .pY (.aA 0) (.aM [(.aB (.int 259)),(.aB (.int 260)),(.aB (.int 261))])),(.tX .le .lt (.aB (.int 4096)) (.aA 0) (.aB (.int 16384))),(.and [(.cH .ge (.aA 0) (.aB (.int 20480))),(.cH .lt (.aA 0) (.cQ .add (.aB (.int 20480)) (.aB (.int 8192))))])])]
noncomputable def Gj:List S:=[.eO 3 (.bP (.aA 1) (.aA 2)),.qK 4 (.call (.aB (.g 3)) [(.aB (.int 8))]) [.fU (.and [(.cH .lt (.aA 3) (.call (.aB (.g 0)) [(.aA 0)])),(.cH .eq (.bP (.bP (.aA 0) (.aA 3)) (.aB (.int 0))) (.aB (.int 259)))]) [.eO 3 (.bP (.aA 1) (.bP (.bP (.aA 0) (.aA 3)) (.aB (.int 1))))] []],.ret (.aA 3)]
noncomputable def Gi:List S:=[.eO 2 (.list []),.KG [3,4,5,6] (.aA 0) [.fU (.call (.aB (.g 21)) [(.aA 3)]) [.expr (.aJ (.aA 2) 0 [(.aM [(.aA 3),(.call (.aB (.g 22)) [(.aA 0),(.aA 1),(.aA 4)]),(.aA 5),(.aA 6)])])] [.fU (.cH .eq (.aA 3) (.aB (.int 262))) [.expr (.aJ (.aA 2) 0 [(.aM [(.aA 3),(.aA 4),(.call (.aB (.g 5)) [(.comp (.call (.aB (.g 22)) [(.aA 0),(.aA 1),(.aA 7)]) 7 (.aA 5))]),(.aA 6)])])] [.expr (.aJ (.aA 2) 0 [(.aM [(.aA 3),(.aA 4),(.aA 5),(.aA 6)])])]]],.ret (.aA 2)]
noncomputable def CF:List S:=[.bZ (.aA 0) 4 (.aA 1),.bZ (.aA 0) 5 (.aA 2),.bZ (.aA 0) 6 (.aA 3),.bZ (.aA 0) 7 (.aA 4),.bZ (.aA 0) 8 (.aA 5)]
noncomputable def AP:List S:=[.bZ (.aA 0) 9 (.aA 1),.bZ (.aA 0) 10 (.aA 2),.bZ (.aA 0) 6 (.aA 3),.bZ (.aA 0) 8 (.aA 4),.bZ (.aA 0) 11 (.aB .none),.bZ (.aA 0) 12 (.aB .none),.bZ (.aA 0) 13 (.aB .none),.bZ (.aA 0) 14 (.aB (.bool false))]
noncomputable def uZ:List S:=[.bZ (.aA 0) 15 (.aA 1),.bZ (.aA 0) 16 (.aA 2),.jC [3,4] (.bP (.aN (.aA 1) 17) (.aN (.aA 2) 18)),.bZ (.aA 0) 19 (.cQ .add (.call (.aB (.g 0)) [(.aA 3)]) (.call (.aB (.g 0)) [(.aN (.aA 2) 20)])),.bZ (.aA 0) 8 (.call (.aB (.g 0)) [(.aA 4)]),.bZ (.aA 0) 4 (.list []),.bZ (.aA 0) 21 (.list []),.bZ (.aA 0) 22 (.aB (.int 0)),.bZ (.aA 0) 23 (.list []),.bZ (.aA 0) 24 (.aB (.int 0)),.bZ (.aA 0) 25 (.list []),.bZ (.aA 0) 26 (.aB (.bool true)),.bZ (.aA 0) 27 (.aB (.int 0))]
noncomputable def wR:List S:=[.expr (.aJ (.aN (.aA 0) 21) 0 [(.neg (.aB (.int 1)))]),.ret (.cQ .sub (.call (.aB (.g 0)) [(.aN (.aA 0) 21)]) (.aB (.int 1)))]
noncomputable def qV:List S:=[.Dh (.aN (.aA 0) 21) (.aA 1) (.call (.aB (.g 0)) [(.aN (.aA 0) 4)]),.bZ (.aA 0) 22 (.call (.aB (.g 0)) [(.aN (.aA 0) 4)])]
noncomputable def zE:List S:=[.expr (.aJ (.aN (.aA 0) 4) 0 [(.aM [(.aA 1),(.aA 2),(.aA 3),(.aA 4)])])]
noncomputable def zG:List S:=[.ret (.cQ .add (.aN (.aA 0) 19) (.aA 1))]
noncomputable def zH:List S:=[.expr (.aJ (.aN (.aA 0) 23) 0 [(.aA 1)]),.bZ (.aA 0) 24 (.call (.aB (.g 2)) [(.aN (.aA 0) 24),(.call (.aB (.g 0)) [(.aN (.aA 0) 23)])])]
noncomputable def qU:List S:=[.eO 1 (.aJ (.aA 0) 28 [(.call (.aB (.g 0)) [(.aN (.aA 0) 23)])]),.expr (.aJ (.aA 0) 29 [(.aM [(.aB (.int 0)),(.aA 1)])]),.ret (.aA 1)]
noncomputable def AN:List S:=[.ret (.aJ (.aN (.aA 0) 23) 1 [])]
noncomputable def AO:List S:=[.jC [3,4] (.aA 2),.fU (.cH .eq (.aA 3) (.aB (.int 1))) [.expr (.aJ (.aA 0) 30 [(.aB (.int 257)),(.aA 1),(.aA 4),(.aB (.int 0))])] [.fU (.cH .ne (.aA 4) (.aA 1)) [.expr (.aJ (.aA 0) 30 [(.aB (.int 256)),(.aA 1),(.aA 4),(.aB (.int 0))])] []]]
noncomputable def tU:List S:=[.jC [3,4] (.aA 1),.fU (.cH .eq (.aA 3) (.aB (.int 0))) [.ret (.aA 4)] [],.expr (.aJ (.aA 0) 30 [(.aB (.int 257)),(.aJ (.aA 0) 28 [(.aA 2)]),(.aA 4),(.aB (.int 0))]),.ret (.aJ (.aA 0) 28 [(.aA 2)])]
noncomputable def uY:List S:=[.expr (.aJ (.aA 0) 31 [(.aJ (.aA 0) 28 [(.aA 1)]),(.bP (.aN (.aA 0) 23) (.aA 1))]),.Dh (.aN (.aA 0) 23) (.aA 1) (.aM [(.aB (.int 0)),(.aJ (.aA 0) 28 [(.aA 1)])])]
noncomputable def qI:List S:=[.eO 2 (.cQ .sub (.call (.aB (.g 0)) [(.aN (.aA 0) 23)]) (.aA 1)),.qK 3 (.call (.aB (.g 3)) [(.aA 2),(.call (.aB (.g 0)) [(.aN (.aA 0) 23)])]) [.expr (.aJ (.aA 0) 32 [(.aA 3)])],.ret (.aJ (.aA 0) 28 [(.aA 2)])]
noncomputable def qH:List S:=[.expr (.aJ (.aA 0) 33 [(.call (.aB (.g 0)) [(.aN (.aA 0) 23)])])]
noncomputable def sP:List S:=[.qK 2 (.call (.aB (.g 3)) [(.aA 1)]) [.expr (.aJ (.aN (.aA 0) 23) 1 [])]]
noncomputable def qG:List S:=[.eO 2 (.aB (.int 0)),.MS 3 4 (.aN (.aA 0) 23) [.fU (.cH .eq (.aA 4) (.aM [(.aB (.int 0)),(.aA 1)])) [.expr (.aJ (.aA 0) 32 [(.aA 3)]),.eO 2 (.cQ .add (.aA 2) (.aB (.int 1)))] []],.ret (.aA 2)]
noncomputable def lR:List S:=[.ret (.comp (.aM [(.aB (.int 0)),(.aJ (.aA 0) 28 [(.aA 2)])]) 2 (.call (.aB (.g 3)) [(.aA 1)]))]
noncomputable def qW:List S:=[.jC [4,5] (.aM [(.aJ (.aA 0) 34 [(.aA 1)]),(.aJ (.aA 0) 28 [(.call (.aB (.g 0)) [(.aN (.aA 0) 23)])])]),.eO 3 (.and [(.cH .eq (.aA 4) (.aB (.int 0))),(.cH .gt (.call (.aB (.g 0)) [(.aN (.aA 0) 4)]) (.aN (.aA 0) 22))]),.fU (.and [(.aA 3),(.cH .eq (.aA 2) (.aM [(.aB (.int 0)),(.aA 5)])),(.call (.aB (.g 20)) [(.bP (.bP (.aN (.aA 0) 4) (.neg (.aB (.int 1)))) (.aB (.int 0)))]),(.cH .eq (.bP (.bP (.aN (.aA 0) 4) (.neg (.aB (.int 1)))) (.aB (.int 1))) (.aA 5))]) [.jC [6,7,8,9] (.aJ (.aN (.aA 0) 4) 1 []),.expr (.aJ (.aA 0) 30 [(.aA 6),(.aA 1),(.aA 8),(.aA 9)])] [.expr (.aJ (.aA 0) 31 [(.aA 1),(.aA 2)])]]
noncomputable def qT:List S:=[.eO 1 (.aJ (.aA 0) 1 []),.eO 2 (.aJ (.aA 0) 28 [(.call (.aB (.g 0)) [(.aN (.aA 0) 23)])]),.fU (.and [(.cH .eq (.aA 1) (.aM [(.aB (.int 0)),(.aA 2)])),(.cH .gt (.call (.aB (.g 0)) [(.aN (.aA 0) 4)]) (.aN (.aA 0) 22)),(.cH .eq (.bP (.bP (.aN (.aA 0) 4) (.neg (.aB (.int 1)))) (.aB (.int 1))) (.aA 2))]) [.jC [4,5,6,7] (.bP (.aN (.aA 0) 4) (.neg (.aB (.int 1)))),.eO 3 (.or [(.call (.aB (.g 19)) [(.aA 4)]),(.and [(.tX .le .lt (.aB (.int 16384)) (.aA 4) (.aB (.int 20480))),(.call (.aB (.g 19)) [(.cQ .sub (.aA 4) (.aB (.int 16384)))])])]),.fU (.aA 3) [.expr (.aJ (.aN (.aA 0) 4) 1 []),.ret (.aM [(.aA 4),(.aA 6),(.aA 7)])] []] [],.ret (.ite (.cH .eq (.bP (.aA 1) (.aB (.int 0))) (.aB (.int 1))) (.aM [(.aB (.int 257)),(.bP (.aA 1) (.aB (.int 1))),(.aB (.int 0))]) (.aM [(.aB (.int 256)),(.bP (.aA 1) (.aB (.int 1))),(.aB (.int 0))]))]
noncomputable def uX:List S:=[.jC [4,5,6] (.aA 1),.fU (.cH .eq (.aA 4) (.aB (.int 257))) [.fU (.cH .eq (.cH .ne (.aA 5) (.aB (.int 0))) (.cH .eq (.aA 2) (.aB (.int 1)))) [.expr (.aJ (.aA 0) 30 [(.aB (.int 259)),(.aA 3),(.aB (.int 0)),(.aB (.int 0))])] []] [.fU (.cH .eq (.aA 4) (.aB (.int 256))) [.expr (.aJ (.aA 0) 30 [(.ite (.cH .eq (.aA 2) (.aB (.int 1))) (.aB (.int 260)) (.aB (.int 261))),(.aA 3),(.aA 5),(.aB (.int 0))])] [.fU (.or [(.cH .eq (.aA 4) (.aB (.int 69))),(.cH .eq (.aA 4) (.aB (.int 80)))]) [.expr (.aJ (.aA 0) 30 [(.ite (.cH .eq (.aA 2) (.aB (.int 1))) (.aB (.int 261)) (.aB (.int 260))),(.aA 3),(.aA 5),(.aB (.int 0))])] [.fU (.cH .ge (.aA 4) (.aB (.int 16384))) [.expr (.aJ (.aA 0) 30 [(.cQ .add (.cQ .sub (.aA 4) (.aB (.int 16384))) (.ite (.cH .eq (.aA 2) (.aB (.int 1))) (.aB (.int 20480)) (.aB (.int 24576)))),(.aA 3),(.aA 5),(.aA 6)])] [.expr (.aJ (.aA 0) 30 [(.cQ .add (.aA 4) (.ite (.cH .eq (.aA 2) (.aB (.int 1))) (.aB (.int 4096)) (.aB (.int 8192)))),(.aA 3),(.aA 5),(.aA 6)])]]]]]
noncomputable def zF:List S:=[.eO 2 (.bP (.aN (.aA 0) 25) (.cQ .sub (.cQ .sub (.call (.aB (.g 0)) [(.aN (.aA 0) 25)]) (.aB (.int 1))) (.aA 1))),.fU (.cH .eq (.aN (.aA 2) 9) (.aB (.int 3))) [.ret (.aM [(.aA 2),(.aN (.aA 2) 6),(.aN (.aA 2) 12)])] [],.bZ (.aA 2) 14 (.aB (.bool true)),.ret (.aM [(.aA 2),(.aN (.aA 2) 8),(.aN (.aA 2) 11)])]
noncomputable def sQ:List S:=[.eO 3 (.cQ .sub (.call (.aB (.g 0)) [(.aN (.aA 0) 23)]) (.aA 2)),.eO 4 (.comp (.aM [(.aB (.int 0)),(.aJ (.aA 0) 28 [(.cQ .add (.aN (.aA 1) 10) (.aA 5))])]) 5 (.call (.aB (.g 3)) [(.aA 2)])),.ret (.cH .eq (.kX (.aN (.aA 0) 23) (.aA 3) (.aB .none)) (.aA 4))]
noncomputable def tT:List S:=[.eO 3 (.cQ .sub (.call (.aB (.g 0)) [(.aN (.aA 0) 23)]) (.aA 2)),.qK 4 (.call (.aB (.g 3)) [(.aA 2)]) [.expr (.aJ (.aA 0) 31 [(.aJ (.aA 0) 28 [(.cQ .add (.aN (.aA 1) 10) (.aA 4))]),(.bP (.aN (.aA 0) 23) (.cQ .add (.aA 3) (.aA 4)))])]]
noncomputable def qF:List S:=[.jC [4,5] (.aA 2),.expr (.aJ (.aA 0) 35 []),.eO 3 (.call (.aB (.g 9)) [(.aA 1),(.cQ .sub (.call (.aB (.g 0)) [(.aN (.aA 0) 23)]) (.call (.aB (.g 0)) [(.aA 4)])),(.call (.aB (.g 0)) [(.aA 4)]),(.call (.aB (.g 0)) [(.aA 5)])]),.bZ (.aA 3) 11 (.aJ (.aA 0) 36 []),.fU (.cH .eq (.aA 1) (.aB (.int 3))) [.bZ (.aA 3) 12 (.aJ (.aA 0) 36 []),.expr (.aJ (.aA 0) 37 [(.aN (.aA 3) 12)])] [],.expr (.aJ (.aN (.aA 0) 25) 0 [(.aA 3)]),.ret (.aA 3)]
noncomputable def AM:List S:=[.bZ (.aA 0) 26 (.aB (.bool false))]
noncomputable def gQ:List S:=[.expr (.aJ (.aA 0) 38 [(.aB (.int 2)),(.aM [(.aM []),(.bP (.bP (.aN (.aN (.aA 0) 15) 17) (.aN (.aN (.aA 0) 16) 18)) (.aB (.int 1)))])]),.qK 1 (.aN (.aN (.aA 0) 16) 39) [.expr (.aJ (.aA 0) 40 [(.aA 1)])],.eO 2 (.call (.aB (.g 5)) [(.comp (.call (.aB (.g 15)) [(.aA 4)]) 4 (.aN (.aN (.aA 0) 16) 20))]),.eO 3 (.cQ .sub (.aN (.aA 0) 19) (.call (.aB (.g 0)) [(.aA 2)])),.ret (.call (.aB (.g 8)) [(.call (.aB (.g 23)) [(.aN (.aA 0) 4),(.aN (.aA 0) 21)]),(.cQ .add (.aN (.aA 0) 19) (.aN (.aA 0) 24)),(.aA 3),(.aA 2),(.aN (.aA 0) 8)])]
noncomputable def kL:List S:=[.eO 2 (.bP (.aA 1) (.aB (.int 0))),.fU (.or [(.and [(.not (.aN (.aA 0) 26)),(.cH .gt (.aN (.aA 0) 27) (.aB (.int 0)))]),(.and [(.not (.aN (.aA 0) 26)),(.cH .yL (.aA 2) (.aM [(.aB (.int 5)),(.aB (.int 11))]))])]) [.fU (.cH .pY (.aA 2) (.aM [(.aB (.int 2)),(.aB (.int 3)),(.aB (.int 4))])) [.bZ (.aA 0) 27 (.cQ .add (.aN (.aA 0) 27) (.aB (.int 1)))] [.fU (.cH .eq (.aA 2) (.aB (.int 11))) [.bZ (.aA 0) 27 (.cQ .sub (.aN (.aA 0) 27) (.aB (.int 1)))] []],.ET] [],.fU (.cH .pY (.aA 2) (.aB (.g 111))) [.eO 3 (.bP (.aB (.g 111)) (.aA 2)),.expr (.call (.aA 3) [(.aA 0),(.aA 1)])] [.fU (.cH .pY (.aA 2) (.aB (.g 109))) [.fail] [.fU (.cH .pY (.aA 2) (.aB (.g 110))) [.fail] [.fU (.call (.aB (.g 17)) [(.aA 2)]) [.expr (.call (.aB (.g 70)) [(.aA 0),(.aA 1)])] [.expr (.call (.aB (.g 71)) [(.aA 0),(.aA 1)])]]]]]
noncomputable def Dl:List S:=[.BU]
noncomputable def wT:List S:=[.expr (.aJ (.aA 0) 30 [(.aB (.int 0)),(.aB (.int 0)),(.aB (.int 0)),(.aB (.int 0))]),.expr (.aJ (.aA 0) 41 [])]
noncomputable def Gf:List S:=[.expr (.aJ (.aA 0) 38 [(.bP (.aA 1) (.aB (.int 0))),(.call (.aB (.g 16)) [(.aN (.aN (.aA 0) 15) 17),(.bP (.aA 1) (.aB (.int 1)))])])]
noncomputable def O7:List S:=[.eO 2 (.aJ (.aA 0) 42 []),.eO 3 (.aJ (.aA 0) 38 [(.aB (.int 4)),(.call (.aB (.g 16)) [(.aN (.aN (.aA 0) 15) 17),(.bP (.aA 1) (.aB (.int 1)))])]),.bZ (.aA 3) 13 (.aJ (.aA 0) 36 []),.expr (.aJ (.aA 0) 43 [(.aA 2),(.aB (.int 0)),(.aN (.aA 3) 13)])]
noncomputable def Cm:List S:=[.eO 2 (.bP (.aN (.aA 0) 25) (.neg (.aB (.int 1)))),.fU (.aN (.aA 0) 26) [.expr (.aJ (.aA 0) 35 []),.bZ (.aA 2) 14 (.aB (.bool true)),.expr (.aJ (.aA 0) 30 [(.aB (.int 259)),(.aN (.aA 2) 11),(.aB (.int 0)),(.aB (.int 0))])] [],.expr (.aJ (.aA 0) 37 [(.aN (.aA 2) 13)]),.bZ (.aA 2) 13 (.aB .none),.bZ (.aA 0) 23 (.aJ (.aA 0) 44 [(.cQ .add (.aN (.aA 2) 10) (.aN (.aA 2) 6))]),.bZ (.aA 0) 26 (.aB (.bool true))]
noncomputable def vC:List S:=[.eO 2 (.aJ (.aN (.aA 0) 25) 1 []),.fU (.aN (.aA 0) 26) [.expr (.aJ (.aA 0) 35 [])] [],.fU (.cH .FK (.aN (.aA 2) 13) (.aB .none)) [.expr (.aJ (.aA 0) 37 [(.aN (.aA 2) 13)]),.bZ (.aA 0) 26 (.aB (.bool true))] [],.fU (.aN (.aA 2) 14) [.expr (.aJ (.aA 0) 37 [(.aN (.aA 2) 11)]),.bZ (.aA 0) 26 (.aB (.bool true))] [],.bZ (.aA 0) 23 (.aJ (.aA 0) 44 [(.cQ .add (.aN (.aA 2) 10) (.aN (.aA 2) 8))]),.bZ (.aA 0) 24 (.call (.aB (.g 2)) [(.aN (.aA 0) 24),(.call (.aB (.g 0)) [(.aN (.aA 0) 23)])]),.fU (.and [(.cH .eq (.aN (.aA 0) 25) (.list [])),(.aN (.aA 0) 26)]) [.expr (.aJ (.aA 0) 30 [(.aB (.int 267)),(.aJ (.aA 0) 28 [(.aB (.int 0))]),(.aN (.aA 0) 8),(.aB (.int 0))])] []]
noncomputable def O6:List S:=[.jC [2,3,4] (.aJ (.aA 0) 45 [(.bP (.aA 1) (.aB (.int 1)))]),.expr (.aJ (.aA 0) 46 [(.aA 2),(.aA 3)]),.expr (.aJ (.aA 0) 30 [(.aB (.int 259)),(.aA 4),(.aB (.int 0)),(.aB (.int 0))]),.expr (.aJ (.aA 0) 41 [])]
noncomputable def Gg:List S:=[.eO 2 (.aJ (.aA 0) 42 []),.jC [4,5,6] (.aJ (.aA 0) 45 [(.bP (.aA 1) (.aB (.int 1)))]),.fU (.aJ (.aA 0) 47 [(.aA 4),(.aA 5)]) [.expr (.aJ (.aA 0) 43 [(.aA 2),(.aB (.int 1)),(.aA 6)]),.ET] [],.eO 3 (.aJ (.aA 0) 36 []),.expr (.aJ (.aA 0) 43 [(.aA 2),(.aB (.int 0)),(.aA 3)]),.expr (.aJ (.aA 0) 46 [(.aA 4),(.aA 5)]),.expr (.aJ (.aA 0) 30 [(.aB (.int 259)),(.aA 6),(.aB (.int 0)),(.aB (.int 0))]),.expr (.aJ (.aA 0) 37 [(.aA 3)])]
noncomputable def nG:List S:=[.eO 2 (.aJ (.aA 0) 1 []),.jC [4,5,6] (.aM [(.aJ (.aA 0) 48 [(.aA 2),(.call (.aB (.g 0)) [(.aN (.aA 0) 23)])]),(.dict []),(.list [])]),.qK 3 (.kX (.aA 1) (.aB (.int 1)) (.aB .none)) [.jC [7,8,9] (.aJ (.aA 0) 45 [(.aA 3)]),.fU (.aJ (.aA 0) 47 [(.aA 7),(.aA 8)]) [.expr (.aJ (.aA 6) 0 [(.aA 9)])] [.fU (.cH .yL (.aA 3) (.aA 5)) [.Dh (.aA 5) (.aA 3) (.aJ (.aA 0) 36 [])] [],.expr (.aJ (.aA 6) 0 [(.bP (.aA 5) (.aA 3))])]],.expr (.aJ (.aA 0) 30 [(.aB (.int 262)),(.aA 4),(.call (.aB (.g 5)) [(.aA 6)]),(.aB (.int 0))]),.KF 3 (.aA 5) [.jC [7,8,9] (.aJ (.aA 0) 45 [(.aA 3)]),.expr (.aJ (.aA 0) 37 [(.bP (.aA 5) (.aA 3))]),.expr (.aJ (.aA 0) 46 [(.aA 7),(.aA 8)]),.expr (.aJ (.aA 0) 30 [(.aB (.int 259)),(.aA 9),(.aB (.int 0)),(.aB (.int 0))])],.expr (.aJ (.aA 0) 41 [])]
noncomputable def Ew:List S:=[.expr (.aJ (.aA 0) 46 [(.bP (.aN (.aA 0) 25) (.aB (.int 0))),(.aN (.aA 0) 8)]),.expr (.aJ (.aA 0) 30 [(.aB (.int 267)),(.aJ (.aA 0) 28 [(.aB (.int 0))]),(.aN (.aA 0) 8),(.aB (.int 0))]),.expr (.aJ (.aA 0) 41 [])]
noncomputable def CH:List S:=[.qK 2 (.call (.aB (.g 3)) [(.aA 1)]) [.expr (.aJ (.aA 0) 49 [])]]
noncomputable def Jx:List S:=[.jC [3,4] (.aJ (.aN (.aA 0) 15) 50 [(.bP (.aA 1) (.aB (.int 1)))]),.eO 2 (.aJ (.aA 0) 33 [(.call (.aB (.g 0)) [(.aA 3)])]),.expr (.aJ (.aA 0) 51 [(.call (.aB (.g 0)) [(.aA 3)])]),.fU (.cH .eq (.bP (.aA 1) (.aB (.int 0))) (.aB (.int 18))) [.expr (.aJ (.aA 0) 30 [(.aB (.int 265)),(.bP (.aA 1) (.aB (.int 1))),(.aA 2),(.aB (.int 0))]),.expr (.aJ (.aA 0) 41 []),.ET] [],.expr (.aJ (.aA 0) 30 [(.aB (.int 263)),(.bP (.aA 1) (.aB (.int 1))),(.aA 2),(.aB (.int 0))]),.expr (.call (.aB (.g 62)) [(.aA 0),(.call (.aB (.g 0)) [(.aA 4)])])]
noncomputable def Jy:List S:=[.expr (.aJ (.aA 0) 1 [])]
noncomputable def Ex:List S:=[.jC [3,4] (.bP (.aN (.aA 0) 23) (.neg (.aB (.int 1)))),.fU (.cH .eq (.aA 3) (.aB (.int 0))) [.eO 5 (.aJ (.aA 0) 33 [(.aB (.int 3))]),.expr (.aJ (.aA 0) 51 [(.aB (.int 3))]),.expr (.aJ (.aA 0) 30 [(.aB (.int 258)),(.aA 5),(.aB (.int 0)),(.aB (.int 0))]),.expr (.aJ (.aA 0) 49 []),.ET] [],.expr (.aJ (.aA 0) 1 []),.eO 2 (.aJ (.aA 0) 1 []),.fU (.cH .eq (.aA 4) (.aB (.int 0))) [.expr (.aJ (.aA 0) 1 []),.eO 6 (.call (.aB (.g 0)) [(.aN (.aA 0) 23)]),.fU (.cH .eq (.aA 2) (.aM [(.aB (.int 0)),(.aJ (.aA 0) 28 [(.cQ .add (.aA 6) (.aB (.int 1)))])])) [.expr (.aJ (.aA 0) 31 [(.aJ (.aA 0) 28 [(.aA 6)]),(.aA 2)]),.eO 2 (.aM [(.aB (.int 0)),(.aJ (.aA 0) 28 [(.aA 6)])])] [],.expr (.aJ (.aA 0) 29 [(.aA 2)])] []]
noncomputable def AR:List S:=[.expr (.aJ (.aA 0) 29 [(.aM [(.aB (.int 0)),(.bP (.aA 1) (.aB (.int 1)))])])]
noncomputable def AS:List S:=[.eO 2 (.aJ (.aA 0) 1 []),.expr (.aJ (.aA 0) 52 [(.bP (.aA 1) (.aB (.int 1))),(.aA 2)])]
noncomputable def AT:List S:=[.eO 2 (.aJ (.aA 0) 1 []),.expr (.aJ (.aA 0) 52 [(.bP (.aA 1) (.aB (.int 1))),(.aA 2)]),.expr (.aJ (.aA 0) 29 [(.ite (.cH .eq (.bP (.aA 2) (.aB (.int 0))) (.aB (.int 0))) (.aM [(.aB (.int 0)),(.bP (.aA 1) (.aB (.int 1)))]) (.aA 2))])]
noncomputable def CG:List S:=[.eO 2 (.ite (.cH .eq (.bP (.aA 1) (.aB (.int 0))) (.aB (.int 65))) (.aB (.int 32)) (.aB (.int 64))),.expr (.aJ (.aA 0) 29 [(.aM [(.aB (.int 1)),(.cQ .wN (.bP (.aA 1) (.aB (.int 1))) (.cQ .Xd (.aB (.int 2)) (.aA 2)))])])]
noncomputable def Lx:List S:=[.eO 2 (.aJ (.aA 0) 1 []),.eO 3 (.aJ (.aA 0) 48 [(.aA 2),(.call (.aB (.g 0)) [(.aN (.aA 0) 23)])]),.expr (.aJ (.aA 0) 30 [(.bP (.aA 1) (.aB (.int 0))),(.aJ (.aA 0) 49 []),(.aA 3),(.aB (.int 0))])]
noncomputable def Ly:List S:=[.jC [5,6] (.aM [(.bP (.aA 1) (.aB (.int 0))),(.aJ (.aA 0) 1 [])]),.eO 2 (.aJ (.aA 0) 1 []),.eO 3 (.call (.aB (.g 0)) [(.aN (.aA 0) 23)]),.fU (.and [(.cH .eq (.bP (.aA 2) (.aB (.int 0))) (.aB (.int 1))),(.cH .eq (.bP (.aA 6) (.aB (.int 0))) (.aB (.int 0))),(.cH .pY (.aA 5) (.aB (.aM [(.int 70),(.int 71),(.int 81),(.int 82),(.int 106),(.int 108),(.int 113),(.int 114),(.int 115),(.int 124),(.int 126),(.int 131),(.int 132),(.int 133)])))]) [.expr (.aJ (.aA 0) 30 [(.cQ .add (.aB (.int 16384)) (.aA 5)),(.aJ (.aA 0) 49 []),(.bP (.aA 6) (.aB (.int 1))),(.bP (.aA 2) (.aB (.int 1)))]),.ET] [],.eO 4 (.aJ (.aA 0) 48 [(.aA 2),(.aA 3)]),.fU (.cH .eq (.bP (.aA 6) (.aB (.int 0))) (.aB (.int 1))) [.expr (.aJ (.aA 0) 30 [(.cQ .add (.aB (.int 16384)) (.aA 5)),(.aJ (.aA 0) 49 []),(.aA 4),(.bP (.aA 6) (.aB (.int 1)))])] [.expr (.aJ (.aA 0) 30 [(.aA 5),(.aJ (.aA 0) 49 []),(.aA 4),(.bP (.aA 6) (.aB (.int 1)))])]]
noncomputable def J0:List S:=[.eO 2 (.ite (.tX .le .lt (.aB (.int 0)) (.aA 1) (.aJ (.aA 0) 53 [(.aB (.int 0))])) (.aJ (.aA 0) 16 [(.aA 1)]) (.aB .none)),.fU (.cH .is (.aA 2) (.aB .none)) [.fail] [],.ret (.aJ (.call (.aB (.g 10)) [(.aA 0),(.aA 2)]) 54 [])]
noncomputable def zI:List S:=[.bZ (.aA 0) 55 (.aA 1),.bZ (.aA 0) 56 (.aA 2),.bZ (.aA 0) 57 (.aA 3),.bZ (.aA 0) 58 (.aA 4)]
noncomputable def CC:List S:=[.bZ (.aA 0) 18 (.aA 1),.bZ (.aA 0) 20 (.aA 2),.bZ (.aA 0) 39 (.aA 3)]
noncomputable def zK:List S:=[.bZ (.aA 0) 17 (.list []),.bZ (.aA 0) 59 (.list []),.bZ (.aA 0) 60 (.list []),.bZ (.aA 0) 61 (.list []),.bZ (.aA 0) 62 (.list []),.bZ (.aA 0) 63 (.list []),.bZ (.aA 0) 64 (.list []),.bZ (.aA 0) 65 (.aB .none),.bZ (.aA 0) 66 (.list []),.bZ (.aA 0) 67 (.list []),.bZ (.aA 0) 68 (.list [])]
noncomputable def vA:List S:=[.ret (.call (.aB (.g 0)) [(.aJ (.aA 0) 69 [(.aA 1)])])]
noncomputable def zJ:List S:=[.ret (.nH (.aN (.aA 2) 58) 2 (.aN (.aA 0) 59) (.cH .eq (.aN (.aA 2) 57) (.aA 1)))]
noncomputable def sR:List S:=[.ret (.cQ .add (.aJ (.aA 0) 69 [(.aB (.int 0))]) (.comp (.aN (.aA 1) 18) 1 (.aN (.aA 0) 60)))]
noncomputable def CE:List S:=[.eO 2 (.bP (.list [(.aN (.aA 0) 60),(.aN (.aA 0) 61),(.aN (.aA 0) 62),(.aN (.aA 0) 63)]) (.aA 1)),.ret (.cQ .add (.aJ (.aA 0) 70 [(.aA 1)]) (.call (.aB (.g 0)) [(.aA 2)]))]
noncomputable def CD:List S:=[.eO 2 (.cQ .sub (.aA 1) (.aJ (.aA 0) 70 [(.aB (.int 0))])),.ret (.ite (.cH .ge (.aA 2) (.aB (.int 0))) (.bP (.aN (.aA 0) 60) (.aA 2)) (.aB .none))]
noncomputable def qJ:List S:=[.ret (.bP (.aN (.aA 0) 17) (.bP (.aJ (.aA 0) 71 []) (.aA 1)))]
noncomputable def Dj:List S:=[.ret (.list [(.aM [(.aM []),(.aM [])]),(.aM [(.aM []),(.aM [(.neg (.aB (.int 1)))])]),(.aM [(.aM [(.neg (.aB (.int 1)))]),(.aM [(.neg (.aB (.int 1)))])]),(.aM [(.aM [(.neg (.aB (.int 1))),(.neg (.aB (.int 1)))]),(.aM [(.neg (.aB (.int 1)))])]),(.aM [(.aM [(.neg (.aB (.int 1)))]),(.aM [(.neg (.aB (.int 1))),(.neg (.aB (.int 1)))])]),(.aM [(.aM [(.neg (.aB (.int 1))),(.neg (.aB (.int 1)))]),(.aM [(.neg (.aB (.int 1))),(.neg (.aB (.int 1)))])])])]
noncomputable def Eu:List S:=[.eO 1 (.bP (.aA 0) (.aB (.int 1))),.Dh (.aA 0) (.aB (.int 1)) (.cQ .add (.aA 1) (.aB (.int 1))),.ret (.cQ .add (.ite (.cH .lt (.aA 1) (.call (.aB (.g 0)) [(.bP (.aA 0) (.aB (.int 0)))])) (.bP (.bP (.aA 0) (.aB (.int 0))) (.aA 1)) (.aB (.int 0))) (.cQ .mul (.aB (.int 53)) (.aA 1)))]
noncomputable def Et:List S:=[.qM (.cH .lt (.aA 1) (.aA 2)) [.expr (.aJ (.aA 0) 0 [(.ite (.cH .eq (.cQ .wN (.aA 3) (.aB (.int 2))) (.aB (.int 0))) (.aM [(.aB (.int 65)),(.cQ .sub (.cQ .wN (.cQ .fdiv (.aA 3) (.aB (.int 2))) (.aB (.int 9))) (.aB (.int 2)))]) (.aM [(.aB (.int 32)),(.cQ .wN (.cQ .fdiv (.aA 3) (.aB (.int 2))) (.aB (.int 3)))]))]),.eO 3 (.cQ .add (.cQ .fdiv (.aA 3) (.aB (.int 3))) (.aB (.int 1))),.Oa 1 .add (.aB (.int 1))],.ret (.aA 1)]
noncomputable def Ev:List S:=[.fU (.cH .FK (.aA 1) (.aB .none)) [.qK 3 (.call (.aB (.g 3)) [(.cQ .sub (.aA 1) (.aA 2))]) [.expr (.aJ (.aA 0) 0 [(.aM [(.aB (.int 26))])])],.expr (.call (.aB (.g 88)) [(.aA 0),(.call (.aB (.g 1)) [(.aA 1),(.aA 2)]),(.aA 2),(.aB (.int 4))])] []]
noncomputable def eY:List S:=[.eO 5 (.nH (.aA 9) 9 (.call (.aB (.g 3)) [(.call (.aB (.g 0)) [(.aA 2)])]) (.cH .eq (.bP (.bP (.aA 2) (.cQ .sub (.cQ .sub (.call (.aB (.g 0)) [(.aA 2)]) (.aB (.int 1))) (.aA 9))) (.aB (.int 1))) (.aB (.int 0)))),.eO 6 (.bP (.aA 5) (.cQ .wN (.aA 4) (.call (.aB (.g 0)) [(.aA 5)]))),.eO 7 (.bP (.bP (.aA 2) (.cQ .sub (.cQ .sub (.call (.aB (.g 0)) [(.aA 2)]) (.aB (.int 1))) (.aA 6))) (.aB (.int 0))),.fU (.cH .eq (.aA 3) (.aB (.int 12))) [.eO 1 (.call (.aB (.g 88)) [(.aA 0),(.aA 1),(.aA 7),(.cQ .fdiv (.aA 4) (.aB (.int 7)))]),.expr (.aJ (.aA 0) 2 [(.list [(.aM [(.aB (.int 32)),(.cQ .wN (.cQ .fdiv (.aA 4) (.aB (.int 5))) (.aB (.int 3)))]),(.aM [(.aB (.int 13)),(.aA 6)])])]),.ret (.aA 1)] [],.fU (.and [(.cH .eq (.aA 3) (.aB (.int 13))),(.cH .eq (.cQ .wN (.cQ .fdiv (.aA 4) (.aB (.int 3))) (.aB (.int 3))) (.aB (.int 1)))]) [.jC [6,7] (.aM [(.cQ .sub (.call (.aB (.g 0)) [(.aA 2)]) (.aB (.int 1))),(.bP (.bP (.aA 2) (.aB (.int 0))) (.aB (.int 0)))])] [],.expr (.call (.aB (.g 88)) [(.aA 0),(.aA 1),(.aA 7),(.cQ .fdiv (.aA 4) (.aB (.int 7)))]),.fU (.cH .eq (.aA 3) (.aB (.int 14))) [.eO 8 (.nH (.aA 9) 9 (.aA 5) (.cH .eq (.bP (.bP (.aA 2) (.cQ .sub (.cQ .sub (.call (.aB (.g 0)) [(.aA 2)]) (.aB (.int 1))) (.aA 9))) (.aB (.int 0))) (.aA 7))),.expr (.aJ (.aA 0) 2 [(.list [(.aM [(.aB (.int 32)),(.cQ .wN (.cQ .fdiv (.aA 4) (.aB (.int 5))) (.aB (.int 3)))]),(.aM [(.aB (.int 14)),(.bP (.aA 8) (.cQ .wN (.cQ .fdiv (.aA 4) (.aB (.int 3))) (.call (.aB (.g 0)) [(.aA 8)]))),(.bP (.aA 8) (.cQ .wN (.cQ .fdiv (.aA 4) (.aB (.int 11))) (.call (.aB (.g 0)) [(.aA 8)]))),(.aA 6)])])])] [.expr (.aJ (.aA 0) 0 [(.bP (.list [(.aM [(.aB (.int 12)),(.aA 6)]),(.aM [(.aB (.int 15))]),(.aM [(.aB (.int 0))])]) (.cQ .wN (.cQ .fdiv (.aA 4) (.aB (.int 3))) (.aB (.int 3))))])],.expr (.aJ (.aA 0) 2 [(.bP (.list [(.list []),(.list [(.aM [(.aB (.int 106))]),(.aM [(.aB (.int 26))])]),(.list [(.aM [(.aB (.int 65)),(.aB (.int 3))]),(.aM [(.aB (.int 33)),(.aB (.int 0))])]),(.list [(.aM [(.aB (.int 2)),(.neg (.aB (.int 64)))]),(.aM [(.aB (.int 65)),(.aB (.int 1))]),(.aM [(.aB (.int 4)),(.neg (.aB (.int 64)))]),(.aM [(.aB (.int 5))]),(.aM [(.aB (.int 11))]),(.aM [(.aB (.int 11))])])]) (.cQ .wN (.aA 4) (.aB (.int 4))))]),.ret (.aB .none)]
noncomputable def bA:List S:=[.eO 6 (.ite (.aA 4) (.bP (.aM [(.aB (.int 0)),(.aB (.int 2)),(.aB (.int 5))]) (.cQ .wN (.aA 5) (.aB (.int 3)))) (.cQ .wN (.aA 5) (.aB (.int 6)))),.jC [10,11] (.aM [(.call (.aB (.g 0)) [(.bP (.bP (.call (.aB (.g 86)) []) (.aA 6)) (.aB (.int 0)))]),(.call (.aB (.g 0)) [(.bP (.bP (.call (.aB (.g 86)) []) (.aA 6)) (.aB (.int 1)))])]),.eO 7 (.ite (.and [(.not (.aA 4)),(.cH .eq (.cQ .wN (.cQ .fdiv (.aA 5) (.aB (.int 6))) (.aB (.int 2))) (.aB (.int 1)))]) (.aB (.int 1)) (.aB (.int 0))),.eO 2 (.call (.aB (.g 88)) [(.aA 1),(.aA 2),(.cQ .add (.aA 10) (.aA 7)),(.cQ .fdiv (.aA 5) (.aB (.int 12)))]),.expr (.aJ (.aA 1) 0 [(.aM [(.ite (.aA 4) (.aB (.int 3)) (.cQ .add (.aB (.int 2)) (.cQ .mul (.aB (.int 2)) (.aA 7)))),(.aJ (.dict [(.aB (.int 0)),(.neg (.aB (.int 64))),(.aB (.int 1)),(.neg (.aB (.int 1)))]) 3 [(.aA 6),(.aA 6)])])]),.eO 8 (.cQ .add (.aA 3) (.list [(.ite (.aA 4) (.aM [(.aA 10),(.aB (.int 1))]) (.aM [(.aA 11),(.aB (.int 0))]))])),.eO 9 (.call (.aB (.g 92)) [(.aA 0),(.aA 1),(.aA 10),(.aA 8)]),.fU (.and [(.aA 4),(.cH .FK (.aA 9) (.aB .none))]) [.expr (.call (.aB (.g 89)) [(.aA 1),(.aA 9),(.aA 10)]),.expr (.aJ (.aA 1) 2 [(.list [(.aM [(.aB (.int 32)),(.aB (.int 3))]),(.aM [(.aB (.int 65)),(.aB (.int 1))]),(.aM [(.aB (.int 118))]),(.aM [(.aB (.int 34)),(.aB (.int 3))]),(.aM [(.aB (.int 13)),(.aB (.int 0))])])]),.eO 9 (.aA 10)] [],.expr (.call (.aB (.g 89)) [(.aA 1),(.aA 9),(.aA 11)]),.fU (.and [(.cH .eq (.aA 7) (.aB (.int 1))),(.or [(.cH .ne (.aA 10) (.aA 11)),(.cH .eq (.cQ .wN (.cQ .fdiv (.aA 5) (.aB (.int 12))) (.aB (.int 2))) (.aB (.int 0)))])]) [.expr (.aJ (.aA 1) 0 [(.aM [(.aB (.int 5))])]),.expr (.call (.aB (.g 89)) [(.aA 1),(.call (.aB (.g 92)) [(.aA 0),(.aA 1),(.aA 10),(.aA 8)]),(.aA 11)])] [],.expr (.aJ (.aA 1) 0 [(.aM [(.aB (.int 11))])]),.ret (.cQ .add (.cQ .sub (.cQ .sub (.aA 2) (.aA 10)) (.aA 7)) (.aA 11))]
noncomputable def Di:List S:=[.qK 4 (.call (.aB (.g 3)) [(.cQ .add (.aB (.int 1)) (.cQ .wN (.call (.aB (.g 87)) [(.aA 0)]) (.aB (.int 3))))]) [.fU (.and [(.cH .gt (.bP (.aA 0) (.aB (.int 2))) (.aB (.int 0))),(.cH .FK (.aA 2) (.aB .none))]) [.eO 2 (.call (.aB (.g 93)) [(.aA 0),(.aA 1),(.aA 2),(.aA 3)])] []],.ret (.aA 2)]
noncomputable def iI:List S:=[.Lw (.aA 0) (.aB (.int 2)) .sub (.aB (.int 1)),.eO 4 (.call (.aB (.g 87)) [(.aA 0)]),.jC [6,4] (.aM [(.cQ .wN (.aA 4) (.aB (.int 16))),(.cQ .fdiv (.aA 4) (.aB (.int 16)))]),.fU (.cH .lt (.aA 6) (.aB (.int 4))) [.expr (.aJ (.aA 1) 0 [(.ite (.cH .lt (.aA 6) (.aB (.int 2))) (.aM [(.aB (.int 65)),(.cQ .sub (.cQ .wN (.aA 4) (.aB (.int 9))) (.aB (.int 2)))]) (.aM [(.aB (.int 32)),(.cQ .wN (.aA 4) (.aB (.int 3)))]))]),.ret (.cQ .add (.aA 2) (.aB (.int 1)))] [],.fU (.and [(.cH .pY (.aA 6) (.aM [(.aB (.int 10)),(.aB (.int 11))])),(.cH .lt (.call (.aB (.g 0)) [(.aA 3)]) (.aB (.int 5)))]) [.ret (.call (.aB (.g 91)) [(.aA 0),(.aA 1),(.aA 2),(.aA 3),(.cH .eq (.aA 6) (.aB (.int 11))),(.aA 4)])] [],.fU (.tX .lt .lt (.aB (.int 11)) (.aA 6) (.aB (.int 15))) [.ret (.call (.aB (.g 90)) [(.aA 1),(.aA 2),(.aA 3),(.aA 6),(.aA 4)])] [],.eO 5 (.aJ (.dict [(.aB (.int 4)),(.aB (.int 2)),(.aB (.int 9)),(.aB (.int 3)),(.aB (.int 15)),(.aB (.int 2))]) 3 [(.aA 6),(.aB (.int 1))]),.eO 2 (.call (.aB (.g 88)) [(.aA 1),(.aA 2),(.aA 5),(.cQ .fdiv (.aA 4) (.aB (.int 7)))]),.expr (.aJ (.aA 1) 0 [(.aJ (.dict [(.aB (.int 4)),(.aM [(.bP (.aB (.aM [(.int 106),(.int 107),(.int 108),(.int 115),(.int 118),(.int 70),(.int 73)])) (.cQ .wN (.aA 4) (.aB (.int 7))))]),(.aB (.int 5)),(.aM [(.aB (.int 69))]),(.aB (.int 6)),(.aM [(.aB (.int 33)),(.cQ .wN (.aA 4) (.aB (.int 3)))]),(.aB (.int 7)),(.aM [(.aB (.int 34)),(.cQ .wN (.aA 4) (.aB (.int 3)))]),(.aB (.int 8)),(.aM [(.aB (.int 26))]),(.aB (.int 9)),(.aM [(.aB (.int 27))]),(.aB (.int 15)),(.aM [(.aB (.int 16)),(.aB (.int 0))])]) 3 [(.aA 6),(.aM [(.aB (.int 1))])])]),.ret (.cQ .sub (.aA 2) (.aJ (.dict [(.aB (.int 4)),(.aB (.int 1)),(.aB (.int 6)),(.aB (.int 1)),(.aB (.int 8)),(.aB (.int 1)),(.aB (.int 9)),(.aB (.int 2))]) 3 [(.aA 6),(.aB (.int 0))]))]
noncomputable def nF:List S:=[.jC [2,3,4] (.aM [(.list [(.aA 0),(.aB (.int 0)),(.call (.aB (.g 2)) [(.aB (.int 3)),(.call (.aB (.g 1)) [(.aB (.int 14)),(.call (.aB (.g 0)) [(.aA 0)])])])]),(.list [(.aM [(.aB (.int 65)),(.aB (.int 7))]),(.aM [(.aB (.int 33)),(.aB (.int 3))])]),(.aB (.int 0))]),.qM (.and [(.cH .gt (.bP (.aA 2) (.aB (.int 2))) (.aB (.int 0))),(.cH .FK (.aA 4) (.aB .none))]) [.eO 4 (.call (.aB (.g 93)) [(.aA 2),(.aA 3),(.aA 4),(.list [(.aM [(.aB (.int 2)),(.aB (.int 0))])])])],.expr (.call (.aB (.g 89)) [(.aA 3),(.aA 4),(.aB (.int 2))]),.eO 1 (.call (.aB (.g 13)) []),.bZ (.aA 1) 17 (.call (.aB (.g 4)) [(.call (.aB (.g 86)) [])]),.bZ (.aA 1) 59 (.list [(.call (.aB (.g 11)) [(.aB (.str "h")),(.aB (.str "f")),(.aB (.int 0)),(.aB (.int 5))])]),.bZ (.aA 1) 60 (.list [(.call (.aB (.g 12)) [(.aB (.int 5)),(.aM [(.neg (.aB (.int 1))),(.neg (.aB (.int 1)))]),(.cQ .add (.aA 3) (.list [(.aM [(.aB (.int 11))])]))])]),.ret (.aA 1)]
noncomputable def Ge:List S:=[.jC [1,2,3,4] (.aA 0),.fU (.cH .eq (.aA 1) (.aB (.int 256))) [.ret (.aM [(.list [(.aA 3)]),(.list [(.aA 2)]),(.list []),(.aB (.bool true))])] [],.fU (.cH .eq (.aA 1) (.aB (.int 257))) [.ret (.aM [(.list []),(.list [(.aA 2)]),(.list []),(.aB (.bool true))])] [],.fU (.cH .eq (.aA 1) (.aB (.int 258))) [.ret (.aM [(.list [(.aA 2),(.cQ .add (.aA 2) (.aB (.int 1))),(.cQ .add (.aA 2) (.aB (.int 2)))]),(.list [(.aA 2)]),(.list []),(.aB (.bool true))])] [],.fU (.cH .eq (.aA 1) (.aB (.int 259))) [.ret (.aM [(.list []),(.list []),(.list [(.aA 2)]),(.aB (.bool false))])] [],.fU (.cH .pY (.aA 1) (.aM [(.aB (.int 260)),(.aB (.int 261))])) [.ret (.aM [(.list [(.aA 3)]),(.list []),(.list [(.aA 2)]),(.aB (.bool true))])] [],.fU (.cH .eq (.aA 1) (.aB (.int 262))) [.ret (.aM [(.list [(.aA 2)]),(.list []),(.call (.aB (.g 4)) [(.aA 3)]),(.aB (.bool false))])] [],.fU (.cH .eq (.aA 1) (.aB (.int 263))) [.ret (.aM [(.list [(.aA 3),(.cQ .add (.aA 3) (.aB (.int 1)))]),(.list [(.aA 3),(.cQ .add (.aA 3) (.aB (.int 1)))]),(.list []),(.aB (.bool true))])] [],.fU (.cH .eq (.aA 1) (.aB (.int 267))) [.ret (.aM [(.comp (.cQ .add (.aA 2) (.aA 7)) 7 (.call (.aB (.g 3)) [(.aA 3)])),(.list []),(.list []),(.aB (.bool false))])] [],.fU (.cH .eq (.aA 1) (.aB (.int 0))) [.ret (.aM [(.list []),(.list []),(.list []),(.aB (.bool false))])] [],.fU (.cH .ge (.aA 1) (.aB (.int 4096))) [.eO 5 (.tX .le .lt (.aB (.int 16384)) (.aA 1) (.aB (.int 20480))),.eO 6 (.ite (.or [(.cH .ge (.aA 1) (.aB (.int 16384))),(.cH .eq (.cQ .wN (.aA 1) (.aB (.int 4096))) (.aB (.int 69)))]) (.list [(.aA 3)]) (.list [(.aA 3),(.aA 4)])),.ret (.aM [(.aA 6),(.ite (.aA 5) (.list [(.aA 2)]) (.list [])),(.ite (.aA 5) (.list []) (.list [(.aA 2)])),(.aB (.bool true))])] [],.ret (.aM [(.ite (.cH .eq (.aA 1) (.aB (.int 69))) (.list [(.aA 3)]) (.list [(.aA 3),(.aA 4)])),(.list [(.aA 2)]),(.list []),(.aB (.bool true))])]
noncomputable def AQ:List S:=[.jC [1,2,3,4] (.aA 0),.fU (.cH .pY (.aA 1) (.aM [(.aB (.int 0)),(.aB (.int 258)),(.aB (.int 259))])) [.ret (.and [(.cH .eq (.list [(.aA 3),(.aA 4)]) (.list [(.aB (.int 0)),(.aB (.int 0))])),(.or [(.cH .ne (.aA 1) (.aB (.int 0))),(.cH .eq (.aA 2) (.aB (.int 0)))])])] [],.ret (.or [(.cH .eq (.aA 4) (.aB (.int 0))),(.cH .yL (.aA 1) (.aM [(.aB (.int 69)),(.aB (.int 256)),(.aB (.int 257)),(.aB (.int 260)),(.aB (.int 261)),(.aB (.int 262)),(.aB (.int 263)),(.aB (.int 267))]))])]
noncomputable def fB:List S:=[.jC [6,7,5,8] (.call (.aB (.g 102)) [(.bP (.aA 0) (.aA 2))]),.fU (.not (.call (.aB (.g 103)) [(.bP (.aA 0) (.aA 2))])) [.ret (.aB .none)] [],.qK 4 (.aA 6) [.fU (.or [(.not (.tX .le .lt (.aB (.int 0)) (.aA 4) (.aA 1))),(.cH .eq (.cQ .J2 (.cQ .Xg (.aA 3) (.aA 4)) (.aB (.int 1))) (.aB (.int 0)))]) [.ret (.aB .none)] []],.qK 4 (.aA 7) [.fU (.not (.tX .le .lt (.aB (.int 0)) (.aA 4) (.aA 1))) [.ret (.aB .none)] [],.eO 3 (.cQ .Uj (.aA 3) (.cQ .WW (.aB (.int 1)) (.aA 4)))],.eO 5 (.cQ .add (.aA 5) (.ite (.aA 8) (.list [(.cQ .add (.aA 2) (.aB (.int 1)))]) (.list []))),.fU (.not (.call (.aB (.g 7)) [(.comp (.tX .le .lt (.aB (.int 0)) (.aA 9) (.call (.aB (.g 0)) [(.aA 0)])) 9 (.aA 5))])) [.ret (.aB .none)] [],.ret (.aM [(.aA 5),(.aA 3)])]
noncomputable def iP:List S:=[.eO 1 (.call (.aB (.g 94)) [(.call (.aB (.g 4)) [(.aA 0)])]),.eO 2 (.call (.aB (.g 72)) [(.aA 1),(.aB (.int 1))]),.fU (.or [(.cH .ne (.aN (.aA 2) 6) (.aB (.int 2))),(.cH .ne (.aN (.aA 2) 7) (.aM [(.aB (.int 0)),(.aB (.int 0))])),(.cH .ne (.aN (.aA 2) 8) (.aB (.int 2))),(.cH .lt (.aN (.aA 2) 5) (.aB (.int 4)))]) [.ret (.aB (.bool false))] [],.jC [3,4] (.aM [(.dict [(.aB (.int 0)),(.aB (.int 15))]),(.list [(.aB (.int 0))])]),.qM (.cH .ne (.aA 4) (.list [])) [.eO 5 (.aJ (.aA 4) 1 []),.eO 6 (.call (.aB (.g 104)) [(.aN (.aA 2) 4),(.aN (.aA 2) 5),(.aA 5),(.bP (.aA 3) (.aA 5))]),.fU (.or [(.cH .is (.aA 6) (.aB .none)),(.and [(.cH .eq (.bP (.bP (.aN (.aA 2) 4) (.aA 5)) (.aB (.int 0))) (.aB (.int 267))),(.cH .ne (.bP (.bP (.aN (.aA 2) 4) (.aA 5)) (.aB (.int 2))) (.aB (.int 2)))])]) [.ret (.aB (.bool false))] [],.qK 7 (.bP (.aA 6) (.aB (.int 0))) [.eO 8 (.ite (.cH .pY (.aA 7) (.aA 3)) (.cQ .J2 (.bP (.aA 3) (.aA 7)) (.bP (.aA 6) (.aB (.int 1)))) (.bP (.aA 6) (.aB (.int 1)))),.fU (.or [(.cH .yL (.aA 7) (.aA 3)),(.cH .ne (.aA 8) (.bP (.aA 3) (.aA 7)))]) [.Dh (.aA 3) (.aA 7) (.aA 8),.expr (.aJ (.aA 4) 0 [(.aA 7)])] []]],.ret (.aB (.bool true))]
noncomputable def EC(bC:List Int):List Kind:=[
 .blt .len,
 .blt .min,
 .blt .max,
 .blt .range,
 .blt .list,
 .blt .tuple,
 .cU,
 .blt .all,
 .cls 24,
 .cls 25,
 .cls 26,
 .cls 73,
 .cls 75,
 .cls 77,
 .fn 1 1 Lz,
 .fn 1 1 zL,
 .fn 2 2 Dk,
 .fn 1 1 AU,
 .fn 1 1 AV,
 .fn 1 1 Dm,
 .fn 1 1 Gh,
 .fn 1 1 Jz,
 .fn 3 5 Gj,
 .fn 2 8 Gi,
 .fn 6 6 CF,
 .fn 5 5 AP,
 .fn 3 5 uZ,
 .fn 1 1 wR,
 .fn 2 2 qV,
 .fn 5 5 zE,
 .fn 2 2 zG,
 .fn 2 2 zH,
 .fn 1 2 qU,
 .fn 1 1 AN,
 .fn 3 5 AO,
 .fn 3 5 tU,
 .fn 2 2 uY,
 .fn 2 4 qI,
 .fn 1 1 qH,
 .fn 2 3 sP,
 .fn 2 5 qG,
 .fn 2 3 lR,
 .fn 3 10 qW,
 .fn 1 8 qT,
 .fn 4 7 uX,
 .fn 2 3 zF,
 .fn 3 6 sQ,
 .fn 3 5 tT,
 .fn 3 6 qF,
 .fn 1 1 AM,
 .fn 1 5 gQ,
 .fn 2 4 kL,
 .fn 2 2 Dl,
 .fn 2 2 wT,
 .fn 2 2 Gf,
 .fn 2 4 O7,
 .fn 2 3 Cm,
 .fn 2 3 vC,
 .fn 2 5 O6,
 .fn 2 7 Gg,
 .fn 2 10 nG,
 .fn 2 2 Ew,
 .fn 2 3 CH,
 .fn 2 5 Jx,
 .fn 2 2 Jy,
 .fn 2 7 Ex,
 .fn 2 2 AR,
 .fn 2 3 AS,
 .fn 2 3 AT,
 .fn 2 3 CG,
 .fn 2 4 Lx,
 .fn 2 7 Ly,
 .fn 2 3 J0,
 .fn 5 5 zI,
 .cU,
 .fn 4 4 CC,
 .cU,
 .fn 1 1 zK,
 .fn 2 2 vA,
 .fn 2 3 zJ,
 .fn 1 2 sR,
 .fn 2 3 CE,
 .fn 2 3 CD,
 .fn 2 2 qJ,
 .cU,
 .cU,
 .fn 0 0 Dj,
 .fn 1 2 Eu,
 .fn 4 4 Et,
 .fn 3 4 Ev,
 .fn 5 10 eY,
 .fn 6 12 bA,
 .fn 4 5 Di,
 .fn 4 7 iI,
 .fn 1 5 nF,
 .cU,
 .cU,
 .cU,
 .cU,
 .cU,
 .cU,
 .cU,
 .fn 1 8 Ge,
 .fn 1 5 AQ,
 .fn 4 10 fB,
 .cU,
 .fn 1 9 iP,
 .jH [(-1,(.str "i32")),(-2,(.str "i64")),(-16,(.str "funcref")),(-17,(.str "externref"))],
 .jH [(-16,(.str "func")),(-17,(.str "extern"))],
 .jH [(40,(.aM [(.int (-1)),(.int 4),(.int 0)])),(41,(.aM [(.int (-2)),(.int 8),(.int 0)])),(44,(.aM [(.int (-1)),(.int 1),(.int 1)])),(45,(.aM [(.int (-1)),(.int 1),(.int 0)])),(46,(.aM [(.int (-1)),(.int 2),(.int 1)])),(47,(.aM [(.int (-1)),(.int 2),(.int 0)])),(48,(.aM [(.int (-2)),(.int 1),(.int 1)])),(49,(.aM [(.int (-2)),(.int 1),(.int 0)])),(50,(.aM [(.int (-2)),(.int 2),(.int 1)])),(51,(.aM [(.int (-2)),(.int 2),(.int 0)])),(52,(.aM [(.int (-2)),(.int 4),(.int 1)])),(53,(.aM [(.int (-2)),(.int 4),(.int 0)]))],
 .jH [(54,(.aM [(.int (-1)),(.int 4)])),(55,(.aM [(.int (-2)),(.int 8)])),(58,(.aM [(.int (-1)),(.int 1)])),(59,(.aM [(.int (-1)),(.int 2)])),(60,(.aM [(.int (-2)),(.int 1)])),(61,(.aM [(.int (-2)),(.int 2)])),(62,(.aM [(.int (-2)),(.int 4)]))],
 .jH [(0,(.g 53)),(1,(.g 52)),(2,(.g 54)),(3,(.g 54)),(4,(.g 55)),(5,(.g 56)),(11,(.g 57)),(12,(.g 58)),(13,(.g 59)),(14,(.g 60)),(15,(.g 61)),(16,(.g 63)),(18,(.g 63)),(17,(.g 113)),(19,(.g 113)),(26,(.g 64)),(27,(.g 65)),(28,(.g 65)),(32,(.g 66)),(33,(.g 67)),(34,(.g 68)),(35,(.g 114)),(36,(.g 115)),(37,(.g 122)),(38,(.g 123)),(63,(.g 119)),(65,(.g 69)),(66,(.g 69)),(208,(.g 116)),(209,(.g 117)),(210,(.g 118)),(64520,(.g 121)),(64521,(.g 120)),(64522,(.g 121)),(64523,(.g 121)),(64524,(.g 121)),(64525,(.g 120)),(64526,(.g 121)),(64527,(.g 124)),(64528,(.g 125)),(64529,(.g 121))],
 .kB bC,
 .cU,
 .cU,
 .cU,
 .cU,
 .cU,
 .cU,
 .cU,
 .cU,
 .cU,
 .cU,
 .cU,
 .cU,
 .cU,
 .cU]
noncomputable def vV:List (Nat×Nat×Nat):=[(10,36,27),(10,37,28),(10,30,29),(10,28,30),(10,29,31),(10,49,32),(10,1,33),(10,31,34),(10,48,35),(10,32,36),(10,33,37),(10,35,38),(10,51,39),(10,34,40),(10,44,41),(10,52,42),(10,42,43),(10,43,44),(10,45,45),(10,47,46),(10,46,47),(10,38,48),(10,41,49),(10,54,50),(10,40,51),(13,70,78),(13,69,79),(13,71,80),(13,53,81),(13,16,82),(13,50,83)]
noncomputable def vG:List (Nat×Nat):=[(8,4),(8,5),(8,6),(8,7),(8,8),(9,9),(9,10),(9,6),(9,8),(9,11),(9,12),(9,13),(9,14),(10,15),(10,16),(10,19),(10,8),(10,4),(10,21),(10,22),(10,23),(10,24),(10,25),(10,26),(10,27),(11,55),(11,56),(11,57),(11,58),(12,18),(12,20),(12,39),(13,17),(13,59),(13,60),(13,61),(13,62),(13,63),(13,64),(13,65),(13,66),(13,67),(13,68)]
noncomputable def cx(bC:List Int):Cx where
 kind n:=(EC bC).getD n .cU
 aJ c a:=((vV).find? fun e=>e.1==c&&e.2.1==a).map (·.2.2)
 iQ c a:=vG.any fun e=>e.1==c&&e.2==a
 fr n:=Nat.beq n 72||(Nat.beq n 51||(Nat.beq n 23||Nat.beq n 104))
noncomputable def Jw:List String:=["append","pop","extend","get","rows","slots","params","zeros","results","code","height","end_label","begin_label","else_label","is_used","module","func","kinds","kind","first","locals","labels","fence","stack","most","frames","is_live","skipped","home","push","emit","put","settle","settle_top","save_local","settle_all","label","put_label","open_block","body","take","die","condition","branch","stack_of_height","goal","move_to","is_there","slot_of","push_home","kind_of_func","drop_top","put_local","many","all_rows","place","name","sort","about","imports","funcs","tables","memories","globals","exports","start","elems","datas","customs","abouts","imported","func_kinds","plain"]
noncomputable def OP:List (Nat×List String):=[(14,["kind"]),(15,["kind"]),(16,["kinds","told"]),(17,["code"]),(18,["code"]),(19,["code"]),(20,["op"]),(21,["op"]),(22,["rows","labels","label","at","turn"]),(23,["rows","labels","found","op","a","b","c","label"]),(24,["self","rows","slots","params","zeros","results"]),(25,["self","code","height","params","results"]),(26,["self","module","func","params","results"]),(27,["self"]),(28,["self","label"]),(29,["self","op","a","b","c"]),(30,["self","height"]),(31,["self","entry"]),(32,["self","slot"]),(33,["self"]),(34,["self","slot","entry","sort","about"]),(35,["self","entry","height","sort","about"]),(36,["self","height"]),(37,["self","many","begin","height"]),(38,["self"]),(39,["self","many","turn"]),(40,["self","index","found","height","entry"]),(41,["self","height","place"]),(42,["self","index","entry","is_last","saved","temp","op","a","b","c"]),(43,["self","entry","temp","is_joined","op","a","b","c"]),(44,["self","told","sense","label","op","b","c"]),(45,["self","depth","frame"]),(46,["self","frame","many","begin","homes","place"]),(47,["self","frame","many","begin","place"]),(48,["self","code","kind","frame","params","results"]),(49,["self"]),(50,["self","instruction","zeros","params","kind"]),(51,["self","instruction","code","doer"]),(52,["made","instruction"]),(53,["made","instruction"]),(54,["made","instruction"]),(55,["made","instruction","told","frame"]),(56,["made","instruction","frame"]),(57,["made","instruction","frame"]),(58,["made","instruction","frame","many","label"]),(59,["made","instruction","told","over","frame","many","label"]),(60,["made","instruction","entry","depth","slot","stubs","goals","frame","many","label"]),(61,["made","instruction"]),(62,["made","many","turn"]),(63,["made","instruction","first","params","results"]),(64,["made","instruction"]),(65,["made","instruction","second","sort","about","first","height"]),(66,["made","instruction"]),(67,["made","instruction","entry"]),(68,["made","instruction","entry"]),(69,["made","instruction","bits"]),(70,["made","instruction","entry","slot"]),(71,["made","instruction","first","height","held","code","second"]),(72,["module","index","func"]),(73,["self","place","name","sort","about"]),(75,["self","kind","locals_now","body"]),(77,["self"]),(78,["self","sort"]),(79,["self","sort","one"]),(80,["self","func"]),(81,["self","sort","own"]),(82,["self","index","place"]),(83,["self","index"]),(86,[]),(87,["pen","at"]),(88,["body","high","many","x"]),(89,["body","high","many","turn"]),(90,["body","high","labels","way","x","outer","depth","many","alike","k"]),(91,["pen","body","high","labels","is_loop","x","mark","more","inner","here","params","results"]),(92,["pen","body","high","labels","turn"]),(93,["pen","body","high","labels","x","many","way"]),(94,["script","module","pen","body","high"]),(102,["row","op","a","b","c","is_sum","reads","k"]),(103,["row","op","a","b","c"]),(104,["rows","slots","at","written","slot","nexts","reads","writes","goes_on","near"]),(106,["script","module","made","known","waiting","at","found","near","both"])]
end Mine
namespace Mine
open PySem PySem.W PyProof.Rows
structure Wd where
 prog:Program
 w:World
 G:Cx
 eZ:Nat->Option Value
 an:Nat->Option Str
 h0:Heap
noncomputable abbrev Mp:=List (Addr×Option Addr)
noncomputable def jP(p:Addr×Option Addr):List Addr:=p.1::p.2.toList
noncomputable def mM(μ:Mp)(a:Addr):Prop:=∃ p∈μ,a∈jP p
noncomputable def Qv(h:Heap)(a:Addr)(lo hi:Int):Prop:=∃ t u v,IsRange h a lo hi 1 t u v
noncomputable def AE(h:Heap)(a:Addr)(items:Array Value):Prop:=∃ n,h.get? a=some { cls:=.type "list",dict:=none,data:=.seq items n,slots:= #[] }
noncomputable def OZ(h:Heap)(a:Addr)(items:Array Value):Prop:=∃ n,h.get? a=some { cls:=.type "tuple",dict:=none,data:=.seq items n,slots:= #[] }
theorem AE.is{h:Heap}{a:Addr}{items:Array Value}(x:AE h a items):h.IsList a items:=let ⟨n,e⟩:=x;⟨_,e,rfl,n,rfl⟩
theorem OZ.is{h:Heap}{a:Addr}{items:Array Value}(x:OZ h a items):h.IsTuple a items:=let ⟨n,e⟩:=x;⟨_,e,rfl,n,rfl⟩
inductive aS(W:Wd)(μ:Mp)(h:Heap):V->Value->Prop where
 | none:aS W μ h .none .none
 | bool(b:Bool):aS W μ h (.bool b) (.bool b)
 | int(i:Int)(t:Tok):aS W μ h (.int i) (.int i t)
 | str(s:String)(t:Tok):aS W μ h (.str s) (.str (Str.ofString s) t)
 | aM{xs:List V}{a:Addr}{items:Array Value}(hz:xs.length<=most)(ht:OZ h a items)(hl:xs.length=items.size)(hr: ∀ (i:Nat) x y,xs[i]? = some x->items[i]? = some y->aS W μ h x y):aS W μ h (.aM xs) (.ref a)
 | ref{i:Nat}{p:Addr×Option Addr}(hp:μ[i]? = some p):aS W μ h (.ref i) (.ref p.1)
 | g{n:Nat}{v:Value}(hg:W.eZ n=some v):aS W μ h (.g n) v
 | mD{lo hi:Int}{a:Addr}(hb:(dU lo&&dU hi)=true)(hr:Qv h a lo hi):aS W μ h (.mD lo hi) (.ref a)
inductive aO(W:Wd)(μ:Mp)(h:Heap):List V->List Value->Prop where
 | nil:aO W μ h [] []
 | cons{x:V}{y:Value}{xs:List V}{ys:List Value}(hx:aS W μ h x y)(hs:aO W μ h xs ys):aO W μ h (x::xs) (y::ys)
section
variable{W:Wd}{μ μ':Mp}{h h':Heap}{x:V}{y:Value}{xs cr:List V}{ys LN:List Value}
theorem aO.length(r:aO W μ h xs ys):xs.length=ys.length:=by
 induction r with
 | nil=>rfl
 | cons _ _ ih=>exact congrArg Nat.succ ih
theorem aO.size{items:Array Value}(r:aO W μ h xs items.toList):xs.length=items.size:=r.length
theorem aO.bP(r:aO W μ h xs ys): ∀ (i:Nat) x y,xs[i]? = some x->ys[i]? = some y->aS W μ h x y:=by
 induction r with
 | nil=>exact fun i x y e=>cY e
 | cons hx _ ih=>exact fun i=>match i with
  | 0=>fun x y e e'=>Option.some.inj e▸Option.some.inj e'▸hx
  | i+1=>ih i
theorem aO.of: ∀ {xs:List V} {ys:List Value},xs.length=ys.length->(∀ (i:Nat) x y,xs[i]? = some x->ys[i]? = some y->aS W μ h x y)->aO W μ h xs ys:=fun {xs}=>by
 induction xs with
 | nil=>exact fun {ys} e _=>by cases ys with
  | nil=>exact .nil
  | cons=>exact Nat.noConfusion e
 | cons x xs ih=>exact fun {ys} e r=>by cases ys with
  | nil=>exact Nat.noConfusion e
  | cons y ys=>exact .cons (r 0 x y rfl rfl) (ih (Nat.succ.inj e) fun i=>r (i+1))
theorem aS.LG{a:Addr}{items:Array Value}(hz:xs.length<=most)(ht:OZ h a items)(r:aO W μ h xs items.toList):aS W μ h (.aM xs) (.ref a):=
 .aM hz ht r.length fun i x y e e'=>r.bP i x y e (by rw[Array.getElem?_toList];exact e')
theorem aO.append(r:aO W μ h xs ys)(r':aO W μ h cr LN):aO W μ h (xs++cr) (ys++LN):=by
 induction r with
 | nil=>exact r'
 | cons hx _ ih=>exact .cons hx ih
theorem aO.get(r:aO W μ h xs ys){k:Nat}{x:V}(e:xs[k]? = some x):dO (fun y=>ys[k]? = some y) (fun y=>aS W μ h x y):=by
 have hk:k<ys.length:=r.length▸(List.getElem?_eq_some_iff.mp e).1;exact⟨ys[k],List.getElem?_eq_getElem hk,r.bP k x _ e (List.getElem?_eq_getElem hk)⟩
theorem aO.take(r:aO W μ h xs ys)(k:Nat):aO W μ h (xs.take k) (ys.take k):=by
 induction r generalizing k with
 | nil=>cases k<;>exact .nil
 | cons hx _ ih=>cases k with
  | zero=>exact .nil
  | succ k=>exact .cons hx (ih k)
theorem aO.drop(r:aO W μ h xs ys)(k:Nat):aO W μ h (xs.drop k) (ys.drop k):=by
 induction r generalizing k with
 | nil=>cases k<;>exact .nil
 | cons hx hs ih=>cases k with
  | zero=>exact .cons hx hs
  | succ k=>exact ih k
theorem aO.set(hv:aS W μ h x y)(r:aO W μ h xs ys)(k:Nat):aO W μ h (xs.set k x) (ys.set k y):=by
 induction r generalizing k with
 | nil=>cases k<;>exact .nil
 | cons hx hs ih=>cases k with
  | zero=>exact .cons hv hs
  | succ k=>exact .cons hx (ih k)
theorem aO.replicate(hv:aS W μ h x y): ∀ n,aO W μ h (List.replicate n x) (List.replicate n y):=fun n=>by
 induction n with
 | zero=>exact .nil
 | succ n ih=>exact .cons hv ih
noncomputable def yD(o:Obj):Prop:=(o.cls= .type "tuple"/\∃ xs n,o.data= .seq xs n)\/(o.cls= .type "range"/\∃ vs,o.data= .fields vs)
noncomputable def TP(h h':Heap):Prop:=∀ a o,h.get? a=some o->yD o->h'.get? a=some o
theorem aS.bJ(hm: ∀ (i:Nat) p,μ[i]? = some p->μ'[i]? = some p)(ht:TP h h')(r:aS W μ h x y):aS W μ' h' x y:=by
 induction r with
 | none=>exact .none
 | bool b=>exact .bool b
 | int i t=>exact .int i t
 | str s t=>exact .str s t
 | aM hz ho hl _ ih=>
  obtain⟨n,ho⟩:=ho;exact .aM hz ⟨n,ht _ _ ho (.inl ⟨rfl,_,n,rfl⟩)⟩ hl ih
 | ref hp=>exact .ref (hm _ _ hp)
 | g hg=>exact .g hg
 | mD hb hr=>
  obtain⟨t,u,v,hr⟩:=hr;exact .mD hb ⟨t,u,v,ht _ _ hr (.inr ⟨rfl,_,rfl⟩)⟩
theorem aO.bJ(hm: ∀ (i:Nat) p,μ[i]? = some p->μ'[i]? = some p)(ht:TP h h')(r:aO W μ h xs ys):aO W μ' h' xs ys:=by
 induction r with
 | nil=>exact .nil
 | cons hx _ ih=>exact .cons (hx.bJ hm ht) ih
noncomputable def Xx(W:Wd)(μ:Mp)(h:Heap)(x:V)(y:Value):Prop:=match x with
 | .none=>y= .none
 | .bool b=>y= .bool b
 | .int i=>∃ t,y= .int i t
 | .str s=>∃ t,y= .str (Str.ofString s) t
 | .aM xs=>Jo (fun a items=>y= .ref a) (fun a items=>xs.length<=most) (fun a items=>OZ h a items) (fun a items=>aO W μ h xs items.toList)
 | .ref i=>dO (fun p=>y= .ref p.1) (fun p=>μ[i]? = some p)
 | .g n=>W.eZ n=some y
 | .mD lo hi=>zB (fun a=>y= .ref a) (fun a=>(dU lo&&dU hi)=true) (fun a=>Qv h a lo hi)
theorem aS.dF(r:aS W μ h x y):Xx W μ h x y:=by
 cases r with
 | none=>exact rfl
 | bool=>exact rfl
 | int=>exact⟨_,rfl⟩
 | str=>exact⟨_,rfl⟩
 | aM hz ht hl hr=>exact⟨_,_,rfl,hz,ht,.of hl fun i x y e e'=>hr i x y e (by rw[<- Array.getElem?_toList];exact e')⟩
 | ref hp=>exact⟨_,rfl,hp⟩
 | g hg=>exact hg
 | mD hb hr=>exact⟨_,rfl,hb,hr⟩
noncomputable def Xv(W:Wd)(μ:Mp)(h:Heap)(xs:List V)(ys:List Value):Prop:=match xs with
 | []=>ys=[]
 | x::xs=>CB (fun y LN=>ys=y::LN) (fun y LN=>aS W μ h x y) (fun y LN=>aO W μ h xs LN)
theorem aO.dF(r:aO W μ h xs ys):Xv W μ h xs ys:=by
 cases r with
 | nil=>exact rfl
 | cons hx hs=>exact⟨_,_,rfl,hx,hs⟩
end
noncomputable def Da(W:Wd)(μ:Mp)(h:Heap)(x:Option V)(y:Option Value):Prop:=match x with
 | some x=>cJ y (aS W μ h x)
 | none=>y=none
theorem Da.bJ{W:Wd}{μ μ':Mp}{h h':Heap}(hm: ∀ (i:Nat) p,μ[i]? = some p->μ'[i]? = some p)(ht:TP h h'){x:Option V}{y:Option Value}(r:Da W μ h x y):Da W μ' h' x y:=by
 cases x with
 | none=>exact r
 | some x=>cases y with
  | none=>exact r
  | some y=>exact aS.bJ hm ht r
noncomputable def FR(W:Wd)(μ:Mp)(h:Heap)(fs:List (Nat×V))(m:Str->Option Value):Prop:=(∀ a nm,W.an a=some nm->Da W μ h (jZ fs a) (m nm))/\∀ y,m y≠none->∃ a,W.an a=some y
theorem FR.bJ{W:Wd}{μ μ':Mp}{h h':Heap}(hm: ∀ (i:Nat) p,μ[i]? = some p->μ'[i]? = some p)(ht:TP h h'){fs:List (Nat×V)}{m:Str->Option Value}(r:FR W μ h fs m):FR W μ' h' fs m:=⟨fun a nm e=>(r.1 a nm e).bJ hm ht,r.2⟩
inductive fS(W:Wd)(μ:Mp)(h:Heap):List (Int×V)->List (Int×Value)->Prop where
 | nil:fS W μ h [] []
 | cons{k:Int}{x:V}{y:Value}{xs:List (Int×V)}{ys:List (Int×Value)}(hx:aS W μ h x y)(hs:fS W μ h xs ys):fS W μ h ((k,x)::xs) ((k,y)::ys)
theorem fS.bJ{W:Wd}{μ μ':Mp}{h h':Heap}(hm: ∀ (i:Nat) p,μ[i]? = some p->μ'[i]? = some p)(ht:TP h h'){xs:List (Int×V)}{ys:List (Int×Value)}(r:fS W μ h xs ys):fS W μ' h' xs ys:=by
 induction r with
 | nil=>exact .nil
 | cons hx _ ih=>exact .cons (hx.bJ hm ht) ih
inductive lQ(W:Wd)(μ:Mp)(h:Heap):aY->Addr×Option Addr->Prop where
 | list{xs:List V}{a:Addr}{items:Array Value}(hz:xs.length<=most)(hl:AE h a items)(hr:aO W μ h xs items.toList):lQ W μ h (.list xs) (a,none)
 | dict{es:List (Int×V)}{ep:Option Nat}{a:Addr}{kvs:List (Int×Value)}{n:Nat}(he: ∀ k,ep=some k->n=k)(hd:h.DictAt (intKind W.prog W.w) a kvs n)(hr:fS W μ h es kvs):lQ W μ h (.dict es ep) (a,none)
 | inst{c:Nat}{C:Addr}{fs:List (Nat×V)}{m:Str->Option Value}{a d:Addr}{o:Obj}(hc:W.eZ c=some (.ref C))(ho:h.get? a=some o)(It:o.cls= .ref C)
   (hn: ∀ k,o.data ≠ .cls k) (rZ:d≠a) (hd:o.dict=some d) (hs:h.Ns1 d m) (hr:FR W μ h fs m):lQ W μ h (.inst c fs) (a,some d)
noncomputable def Xs(W:Wd)(μ:Mp)(h:Heap)(o:aY)(p:Addr×Option Addr):Prop:=match o with
 | .list xs=>Jo (fun a items=>p=(a,none)) (fun a items=>xs.length<=most) (fun a items=>AE h a items) (fun a items=>aO W μ h xs items.toList)
 | .dict es ep=>Lj (fun a kvs n=>p=(a,none)) (fun a kvs n=>∀ k,ep=some k->n=k) (fun a kvs n=>h.DictAt (intKind W.prog W.w) a kvs n) (fun a kvs n=>fS W μ h es kvs)
 | .inst c fs=>Uc (fun C m a d o=>p=(a,some d)) (fun C m a d o=>W.eZ c=some (.ref C)) (fun C m a d o=>h.get? a=some o) (fun C m a d o=>o.cls= .ref C) (fun C m a d o=>∀ k,o.data ≠ .cls k) (fun C m a d o=>d≠a) (fun C m a d o=>o.dict=some d) (fun C m a d o=>h.Ns1 d m) (fun C m a d o=>FR W μ h fs m)
theorem lQ.dF{W:Wd}{μ:Mp}{h:Heap}{o:aY}{p:Addr×Option Addr}(r:lQ W μ h o p):Xs W μ h o p:=by
 cases r with
 | list hz hl hr=>exact⟨_,_,rfl,hz,hl,hr⟩
 | dict he hd hr=>exact⟨_,_,_,rfl,he,hd,hr⟩
 | inst hc ho It hn rZ hd hs hr=>exact⟨_,_,_,_,_,rfl,hc,ho,It,hn,rZ,hd,hs,hr⟩
structure St(W:Wd)(μ:Mp)(H:Hp)(h:Heap):Prop where
 len:μ.length=H.length
 iC: ∀ b o,W.h0.get? b=some o->h.get? b=some o
 obj: ∀ (i:Nat) o p,H[i]? = some o->μ[i]? = some p->lQ W μ h o p
 fresh: ∀ a,mM μ a->W.h0.get? a=none
 apart: ∀ (i j:Nat) p q a,μ[i]? = some p->μ[j]? = some q->a∈jP p->a∈jP q->i=j
 kind: ∀ a o,mM μ a->h.get? a=some o->¬ yD o
theorem mM.nK{μ:Mp}{i:Nat}{p:Addr×Option Addr}{a:Addr}(hp:μ[i]? = some p)(ha:a∈jP p):mM μ a:=⟨p,List.mem_of_getElem? hp,ha⟩
theorem mM.get{μ:Mp}{a:Addr}(h:mM μ a):AG (fun (i:Nat) (p:Addr×Option Addr)=>μ[i]? = some p) (fun (i:Nat) (p:Addr×Option Addr)=>a∈jP p):=by
 obtain⟨p,hp,ha⟩:=h;obtain⟨i,hi⟩:=List.getElem?_of_mem hp;exact⟨i,p,hi,ha⟩
theorem mM.append{μ l:Mp}{a:Addr}(h:mM μ a):mM (μ++l) a:=by obtain⟨p,hp,ha⟩:=h;exact⟨p,List.mem_append_left _ hp,ha⟩
theorem dS{a b:Addr}(h:a∈jP (b,none)):a=b:=List.mem_singleton.mp h
theorem vU{a b d:Addr}(h:a∈jP (b,some d)):a=b\/a=d:=(List.mem_cons.mp h).imp id List.mem_singleton.mp
theorem iK(p:Addr×Option Addr):p.1∈jP p:=by simp [jP]
theorem Fb{a d:Addr}: d∈jP (a,some d):=by simp [jP]
theorem lQ.bJ{W:Wd}{μ μ':Mp}{h h':Heap}{o:aY}{p:Addr×Option Addr}(hm: ∀ (i:Nat) p,μ[i]? = some p->μ'[i]? = some p)(ht:TP h h')
  (hk: ∀ a∈jP p,∀ ob,h.get? a=some ob->h'.get? a=some ob) (hr:lQ W μ h o p):lQ W μ' h' o p:=by
 cases hr with
 | list hz hl hr=>obtain⟨n,ho⟩:=hl;exact .list hz ⟨n,hk _ (iK _) _ ho⟩ (hr.bJ hm ht)
 | dict he hd hr=>obtain⟨ob,es,ho,r⟩:=hd;exact .dict he ⟨ob,es,hk _ (iK _) _ ho,r⟩ (hr.bJ hm ht)
 | inst hc ho It hn rZ hd hs hr=>
  obtain⟨ob,es,ep,e1,r⟩:=hs;exact .inst hc (hk _ (iK _) _ ho) It hn rZ hd ⟨ob,es,ep,hk _ Fb _ e1,r⟩ (hr.bJ hm ht)
structure Mv(W:Wd)(X:Addr->Prop)(μ:Mp)(h:Heap)(μ':Mp)(H':Hp)(h':Heap):Prop where
 st:St W μ' H' h'
 ext: ∃ l,μ'=μ++l
 new: ∀ a o,mM μ' a->h.get? a=some o->mM μ a
 has: ∀ a o,h.get? a=some o->∃ o',h'.get? a=some o'
 keep: ∀ b o,¬ mM μ b->¬ X b->h.get? b=some o->h'.get? b=some o
noncomputable abbrev X0:Addr->Prop:=fun _=>False
theorem Mv.refl{W:Wd}{X:Addr->Prop}{μ:Mp}{H:Hp}{h:Heap}(s:St W μ H h):Mv W X μ h μ H h:=⟨s,⟨[],by simp⟩,fun _ _ x _=>x,fun _ o e=>⟨o,e⟩,fun _ _ _ _ x=>x⟩
theorem Mv.trans{W:Wd}{X:Addr->Prop}{μ μ' Xn:Mp}{H' ct:Hp}{h h' MX:Heap}(x:Mv W X μ h μ' H' h')(y:Mv W X μ' h' Xn ct MX):Mv W X μ h Xn ct MX:=by
 obtain⟨l,rfl⟩:=x.ext;obtain⟨l',rfl⟩:=y.ext;refine⟨y.st,⟨l++l',by simp⟩,fun a o ha e=> ?_,fun a o e=> ?_,fun b o hb hx e=> ?_⟩
 ·obtain⟨o',e'⟩:=x.has a o e
  exact x.new a o (y.new a o' ha e') e
 ·obtain⟨o',e'⟩:=x.has a o e
  exact y.has a o' e'
 ·exact y.keep b o (fun q=>hb (x.new b o q e)) hx (x.keep b o hb hx e)
theorem Mv.OX{W:Wd}{X Y:Addr->Prop}{μ μ':Mp}{H':Hp}{h h':Heap}(x:Mv W X μ h μ' H' h')(hx: ∀ a o,h.get? a=some o->X a->Y a):Mv W Y μ h μ' H' h':=
 ⟨x.st,x.ext,x.new,x.has,fun b o hb hy e=>x.keep b o hb (fun q=>hy (hx b o e q)) e⟩
theorem Mv.mp{W:Wd}{X:Addr->Prop}{μ μ':Mp}{H':Hp}{h h':Heap}(x:Mv W X μ h μ' H' h'): ∀ (i:Nat) p,μ[i]? = some p->μ'[i]? = some p:=by
 obtain⟨l,rfl⟩:=x.ext;intro i p e;rw[List.getElem?_append_left (List.getElem?_eq_some_iff.mp e).1];exact e
theorem Mv.Re{W:Wd}{X:Addr->Prop}{μ μ':Mp}{H H':Hp}{h h':Heap}(s:St W μ H h)(hX: ∀ a o,X a->h.get? a=some o->¬ yD o)(x:Mv W X μ h μ' H' h'):TP h h':=fun a o ho hc=>
 x.keep a o (fun q=>s.kind a o q ho hc) (fun q=>hX a o q ho hc) ho
theorem Mv.tp{W:Wd}{μ μ':Mp}{H H':Hp}{h h':Heap}(s:St W μ H h)(x:Mv W X0 μ h μ' H' h'):TP h h':=x.Re s (fun _ _ q=>q.elim)
theorem aS.mv{W:Wd}{μ μ':Mp}{H H':Hp}{h h':Heap}{v:V}{y:Value}(s:St W μ H h)(x:Mv W X0 μ h μ' H' h')(r:aS W μ h v y):aS W μ' h' v y:=r.bJ x.mp (x.tp s)
theorem aO.mv{W:Wd}{μ μ':Mp}{H H':Hp}{h h':Heap}{v:List V}{y:List Value}(s:St W μ H h)(x:Mv W X0 μ h μ' H' h')(r:aO W μ h v y):aO W μ' h' v y:=r.bJ x.mp (x.tp s)
theorem lQ.has{W:Wd}{μ:Mp}{h:Heap}{o:aY}{p:Addr×Option Addr}(r:lQ W μ h o p){a:Addr}(hm:a∈jP p): ∃ ob,h.get? a=some ob:=by
 cases r with
 | list hz hl hr=>obtain⟨n,ho⟩:=hl;rw[dS hm];exact⟨_,ho⟩
 | dict he hd hr=>obtain⟨ob,es,ho,r⟩:=hd;rw[dS hm];exact⟨_,ho⟩
 | inst hc ho It hn rZ hd hs hr=>
  obtain⟨ob,es,ep,e1,r⟩:=hs;rcases vU hm with h|h<;>rw[h]
  ·exact⟨_,ho⟩
  ·exact⟨_,e1⟩
theorem St.has{W:Wd}{μ:Mp}{H:Hp}{h:Heap}(s:St W μ H h){a:Addr}(ha:mM μ a): ∃ o,h.get? a=some o:=by
 obtain⟨i,p,hp,hm⟩:=ha.get;have hi:i<H.length:=s.len▸(List.getElem?_eq_some_iff.mp hp).1;exact (s.obj i _ p (List.getElem?_eq_getElem hi) hp).has hm
theorem Mv.of_keep{W:Wd}{μ:Mp}{H:Hp}{h h':Heap}(s:St W μ H h)(hk: ∀ b o,h.get? b=some o->h'.get? b=some o):Mv W X0 μ h μ H h':=by
 refine⟨⟨s.len,fun b o e=>hk b o (s.iC b o e),fun i o p ho hp=>(s.obj i o p ho hp).bJ (fun _ _ e=>e) (fun a o e _=>hk a o e) (fun a _ ob e=>hk a ob e),s.fresh,s.apart,fun a o ha e=> ?_⟩,
  ⟨[],by simp⟩,fun _ _ x _=>x,fun a o e=>⟨o,hk a o e⟩,fun b o _ _ e=>hk b o e⟩
 obtain⟨o',LY⟩:=s.has ha;have:=hk a o' LY;rw[e] at this;cases this;exact s.kind a o ha LY
theorem Mv.HU{W:Wd}{μ:Mp}{H:Hp}{h h':Heap}{i:Nat}{p:Addr×Option Addr}{o':aY}(s:St W μ H h)(hp:μ[i]? = some p)
  (hk: ∀ b o,b∉jP p->h.get? b=some o->h'.get? b=some o) (hr:TP h h'->lQ W μ h' o' p)
  (vO: ∀ a∈jP p,∀ o,h'.get? a=some o->¬ yD o):Mv W X0 μ h μ (H.set i o') h':=by
 have Se: ∀ a,a∈jP p->mM μ a:=fun a ha=>.nK hp ha;have tp:TP h h':=fun a o ho hc=>hk a o (fun q=>by
  exact s.kind a o (Se a q) ho hc) ho
 refine⟨⟨by rw[List.length_set];exact s.len,fun b o e=>hk b o (fun q=> ?_) (s.iC b o e),fun j o q ho hq=> ?_,s.fresh,s.apart,fun a o ha e=> ?_⟩,⟨[],by simp⟩,fun _ _ x _=>x,fun a o e=> ?_,fun b o hb _ e=>hk b o (fun q=>hb (Se b q)) e⟩
 ·rw[s.fresh b (Se b q)] at e;cases e
 ·by_cases GH:i=j
  ·subst GH
   rw[hp] at hq;cases hq;rw[List.getElem?_set_self'] at ho;have:H[i]?.isSome:=by rw[List.getElem?_eq_getElem (s.len▸(List.getElem?_eq_some_iff.mp hp).1)];rfl
   obtain⟨x,hx⟩:=Option.isSome_iff_exists.mp this;rw[hx] at ho;cases ho;exact hr tp
  ·rw[List.getElem?_set_ne GH] at ho
   refine (s.obj j o q ho hq).bJ (fun _ _ e=>e) tp (fun a ha ob e=>hk a ob (fun z=>GH (s.apart i j p q a hp hq z ha)) e)
 ·by_cases hm:a∈jP p
  ·exact vO a hm o e
  ·obtain⟨o',LY⟩:=s.has ha
   have:=hk a o' hm LY;rw[e] at this;cases this;exact s.kind a o ha LY
 ·by_cases hm:a∈jP p
  ·exact (hr tp).has hm
  ·exact⟨o,hk a o hm e⟩
theorem St.dD{W:Wd}{μ:Mp}{H:Hp}{h:Heap}(st:St W μ H h){a:Addr}(hn:h.get? a=none): ¬ mM μ a/\W.h0.get? a=none:=by
 refine⟨fun q=> ?_,?_⟩
 ·obtain⟨o,e⟩:=st.has q
  exact cY (hn.symm.trans e)
 ·cases e:W.h0.get? a with
  | none=>rfl
  | some o=>exact cY (hn.symm.trans (st.iC a o e))
theorem rC{p q:Addr×Option Addr}{μ:Mp}{i:Nat}(e:(μ++[p])[i]? = some q):μ[i]? = some q\/(i=μ.length/\p=q):=by
 by_cases hi:i<μ.length
 ·rw[List.getElem?_append_left hi] at e;exact .inl e
 ·rw[List.getElem?_append_right (Nat.le_of_not_lt hi)] at e
  by_cases z:i - μ.length=0
  ·rw[z] at e;exact .inr ⟨Nat.le_antisymm (Nat.sub_eq_zero_iff_le.mp z) (Nat.le_of_not_lt hi),Option.some.inj e⟩
  ·obtain⟨n,hn⟩:=Nat.exists_eq_succ_of_ne_zero z
   rw[hn] at e;exact cY e
theorem BN{p:Addr×Option Addr}{μ:Mp}(i:Nat)(q:Addr×Option Addr)(e:μ[i]? = some q):(μ++[p])[i]? = some q:=by
 rw[List.getElem?_append_left (List.getElem?_eq_some_iff.mp e).1];exact e
theorem zY{p:Addr×Option Addr}{μ:Mp}{a:Addr}(h:mM (μ++[p]) a):mM μ a\/a∈jP p:=by
 obtain⟨q,hq,ha⟩:=h;rcases List.mem_append.mp hq with hq|hq
 ·exact .inl ⟨q,hq,ha⟩
 ·exact .inr (List.mem_singleton.mp hq▸ha)
theorem Mv.Ll{W:Wd}{X:Addr->Prop}{μ μ1:Mp}{H H1:Hp}{h h1:Heap}{p:Addr×Option Addr}{o':aY}(st:St W μ H h)(m:Mv W X μ h μ1 H1 h1)(hf: ∀ a∈jP p,h.get? a=none/\¬ mM μ1 a)
  (hr:lQ W (μ1++[p]) h1 o' p) (vO: ∀ a∈jP p,∀ o,h1.get? a=some o->¬ yD o):Mv W X μ h (μ1++[p]) (H1++[o']) h1:=by
 obtain⟨l,hl⟩:=m.ext;refine⟨⟨by rw[List.length_append,List.length_append,m.st.len];rfl,m.st.iC,fun i o q ho hq=> ?_,fun a ha=> ?_,fun i j q r a hq CQ ha hb=> ?_,fun a o ha e=> ?_⟩,⟨l++[p],by rw[hl,List.append_assoc]⟩,fun a o ha e=> ?_,m.has,m.keep⟩
 ·rcases rC hq with e|⟨e1,e2⟩
  ·rw[List.getElem?_append_left (m.st.len▸(List.getElem?_eq_some_iff.mp e).1)] at ho
   exact (m.st.obj i o q ho e).bJ BN (fun _ _ e _=>e) (fun _ _ _ e=>e)
  ·rw[e1,m.st.len,List.getElem?_append_right (Nat.le_refl _),Nat.sub_self] at ho
   rw[<- e2,<- Option.some.inj ho];exact hr
 ·exact (zY ha).elim (m.st.fresh a) fun h1=>(st.dD (hf a h1).1).2
 ·rcases rC hq with e|⟨e1,e2⟩<;>rcases rC CQ with e'|⟨YM,lf⟩
  ·exact m.st.apart i j q r a e e' ha hb
  ·rw[<- lf] at hb
   exact ((hf a hb).2 (.nK e ha)).elim
  ·rw[<- e2] at ha
   exact ((hf a ha).2 (.nK e' hb)).elim
  ·rw[e1,YM]
 ·exact (zY ha).elim (fun h1=>m.st.kind a o h1 e) fun h1=>vO a h1 o e
 ·exact (zY ha).elim (fun h1=>m.new a o h1 e) fun h1=>cY ((hf a h1).1.symm.trans e)
theorem Mv.EI{W:Wd}{μ:Mp}{H:Hp}{h h':Heap}{p:Addr×Option Addr}{o':aY}(s:St W μ H h)
  (hk: ∀ b o,h.get? b=some o->h'.get? b=some o) (hf: ∀ a∈jP p,h.get? a=none)
  (hr:lQ W (μ++[p]) h' o' p) (vO: ∀ a∈jP p,∀ o,h'.get? a=some o->¬ yD o):Mv W X0 μ h (μ++[p]) (H++[o']) h':=
 Mv.Ll s (Mv.of_keep s hk) (fun a ha=>⟨hf a ha,(s.dD (hf a ha)).1⟩) hr vO
theorem vM{α:Type}{l:List α}{x:α}: (l++[x])[l.length]? = some x:=by rw[List.getElem?_append_right (Nat.le_refl _),Nat.sub_self];rfl
theorem iX{o:Obj}(h:o.cls= .type "list"): ¬ yD o:=fun z=>by
 rcases z with⟨a,_⟩|⟨a,_⟩<;>rw[h] at a<;>exact absurd a (by decide)
theorem fG{o:Obj}{es:Array DictEntry}{n:Nat}(h:o.data= .dict es n): ¬ yD o:=fun z=>by
 rcases z with⟨_,a⟩|⟨_,a⟩
 ·obtain⟨_,_,a⟩:=a;rw[h] at a;cases a
 ·obtain⟨_,a⟩:=a;rw[h] at a;cases a
theorem yK{o:Obj}{C:Addr}(h:o.cls= .ref C): ¬ yD o:=fun z=>by
 rcases z with⟨a,_⟩|⟨a,_⟩<;>rw[h] at a<;>cases a
theorem Mv.newList{W:Wd}{μ:Mp}{H:Hp}{h:Heap}{xs:List V}{items:Array Value}{n:Nat}(s:St W μ H h)(hz:xs.length<=most)(hr:aO W μ h xs items.toList):
  Mv W X0 μ h (μ++[(h.objs.size,none)]) (H++[.list xs]) (h.push { cls:=.type "list",data:=.seq items n })/\
   aS W (μ++[(h.objs.size,none)]) (h.push { cls:=.type "list",data:=.seq items n }) (.ref H.length) (.ref h.objs.size):=by
 have g:(h.push { cls:=.type "list",data:=.seq items n }).get? h.objs.size=some { cls:=.type "list",data:=.seq items n }:=Heap.get?_push_size _ rfl;refine⟨Mv.EI s (fun b o e=>Heap.get?_push_of_some _ e) (fun a ha=> ?_) (.list hz ⟨n,g⟩ (hr.bJ BN fun a o e _=>Heap.get?_push_of_some _ e)) (fun a ha o e=> ?_),.ref (p:=(h.objs.size,none)) ?_⟩
 ·rw[dS ha];exact Heap.get?_none_of_le (Nat.le_refl _)
 ·rw[dS ha,g] at e;exact Option.some.inj e▸iX rfl
 ·rw[<- s.len];exact vM
theorem Mv.C5{W:Wd}{μ:Mp}{H:Hp}{h h':Heap}{xs:List V}{items:Array Value}{a:Addr}(s:St W μ H h)(hz:xs.length<=most)(hk: ∀ b o,h.get? b=some o->h'.get? b=some o)(hf:h.get? a=none)(hl:AE h' a items)
  (hr:aO W μ h xs items.toList):Mv W X0 μ h (μ++[(a,none)]) (H++[.list xs]) h'/\aS W (μ++[(a,none)]) h' (.ref H.length) (.ref a):=by
 obtain⟨n,g⟩:=hl;refine⟨Mv.EI s hk (fun b hb=> ?_) (.list hz ⟨n,g⟩ (hr.bJ BN fun b o e _=>hk b o e)) (fun b hb o e=> ?_),.ref (p:=(a,none)) ?_⟩
 ·rw[dS hb];exact hf
 ·rw[dS hb,g] at e;exact Option.some.inj e▸iX rfl
 ·rw[<- s.len];exact vM
theorem Mv.push{W:Wd}{μ:Mp}{H:Hp}{h:Heap}(s:St W μ H h)(o:Obj):Mv W X0 μ h μ H (h.push o):=
 .of_keep s fun _ _ e=>Heap.get?_push_of_some _ e
theorem Mv.newTuple{W:Wd}{μ:Mp}{H:Hp}{h:Heap}{xs:List V}{items:Array Value}{n:Nat}(s:St W μ H h)(hz:xs.length<=most)(hr:aO W μ h xs items.toList):
  Mv W X0 μ h μ H (h.push { cls:=.type "tuple",data:=.seq items n })/\aS W μ (h.push { cls:=.type "tuple",data:=.seq items n }) (.aM xs) (.ref h.objs.size):=
 ⟨.push s _,.LG hz ⟨n,Heap.get?_push_size _ rfl⟩ (hr.bJ (fun _ _ e=>e) fun _ _ e _=>Heap.get?_push_of_some _ e)⟩
theorem St.listAt{W:Wd}{μ:Mp}{H:Hp}{h:Heap}(s:St W μ H h){i:Nat}{xs:List V}{y:Value}(e:H[i]? = some (.list xs))(r:aS W μ h (.ref i) y):
  UY (fun a items=>y= .ref a) (fun a items=>μ[i]? = some (a,none)) (fun a items=>AE h a items) (fun a items=>aO W μ h xs items.toList) (fun a items=>items.size<=most):=by
 obtain⟨p,hy,hp⟩:=r.dF;obtain⟨a,items,e1,hz,hl,hr⟩:=(s.obj i _ _ e hp).dF;rw[e1] at hp hy;exact⟨a,items,hy,hp,hl,hr,by rw[hr.length] at hz;exact hz⟩
end Mine
namespace Mine
open PySem PySem.W PyProof.Rows
noncomputable abbrev Mo(W:Wd):Model:=model W.prog W.w
noncomputable def LP(W:Wd)(s:Shared)(μ:Mp)(r:V×Hp)(Q:Value->Shared->Prop):Prop:=
 ∀ μ' h' tk v,Mv W X0 μ s.heap μ' r.2 h'->aS W μ' h' r.1 v->Q v { s with heap:=h',toks:=tk }
noncomputable def DX(W:Wd)(A:Around)(s:Shared)(μ:Mp)(t:Sem Value)(r:V×Hp):Prop:=∀ Q E,LP W s μ r Q->wpAny (Mo W) A t Q E s
theorem LP.gM{W:Wd}{s:Shared}{μ:Mp}{H:Hp}{v:V}{y:Value}{tk:Nat}{Q:Value->Shared->Prop}(r:LP W s μ (v,H) Q)(st:St W μ H s.heap)(hv:aS W μ s.heap v y):Q y { s with toks:=tk }:=
 r μ s.heap tk y (.refl st) hv
theorem LP.mX{W:Wd}{s:Shared}{μ:Mp}{H:Hp}{v:V}{y:Value}{Q:Value->Shared->Prop}(r:LP W s μ (v,H) Q)(st:St W μ H s.heap)(hv:aS W μ s.heap v y):Q y s:=
 r.gM (tk:=s.toks) st hv
noncomputable def xO:GN->Operator
 | .add=>.Add | .sub=>.Sub | .mul=>.Mult | .fdiv=>.FloorDiv | .wN=>.Mod | .Xd=>.Pow | .Xg=>.RShift | .WW=>.LShift | .J2=>.BitAnd | .Uj=>.BitOr
theorem J3{a b:Int}(h:nn a b=true):Builtin.bitAnd a b=Jr a b:=by
 simp only[nn,Bool.and_eq_true,decide_eq_true_eq] at h;unfold Builtin.bitAnd Jr;simp [h.1,h.2]
theorem L0{a b:Int}(h:nn a b=true):Builtin.bitOr a b=Xc a b:=by
 simp only[nn,Bool.and_eq_true,decide_eq_true_eq] at h;have ha: ¬ (0<=Builtin.bitNot a):=by unfold Builtin.bitNot;lia
 have hb: ¬ (0<=Builtin.bitNot b):=by unfold Builtin.bitNot;lia
 have na:Builtin.bitNot (Builtin.bitNot a)=a:=by unfold Builtin.bitNot;lia
 have nb:Builtin.bitNot (Builtin.bitNot b)=b:=by unfold Builtin.bitNot;lia
 unfold Builtin.bitOr Builtin.bitAnd Xc;simp only[ha,hb,decide_false,na,nb,h.1,h.2,and_self,if_true];unfold Builtin.bitNot;lia
theorem aD{a b:Bool}(h:(a&&b)=true):a=true/\b=true:=(Bool.and_eq_true a b).mp h
theorem lN{i:Int}: dU i=true↔i.natAbs<2 ^ 60:=by simp [dU]
theorem Gp{i:Int}(h:dU i=true):Builtin.Int.intBits i<=64:=by
 rw[lN] at h;unfold Builtin.Int.intBits;split
 ·lia
 ·rename_i hz
  have hn:i.natAbs≠0:=by simp at hz;lia
  have:i.natAbs.log2<60:=(Nat.log2_lt hn).mpr h;lia
section
variable{W:Wd}{A:Around}{s:Shared}{μ:Mp}{H:Hp}
theorem Gl{op:GN}{a b c:Int}{t u:Tok}(st:St W μ H s.heap)(e:CI op a b=some c):DX W A s μ (binaryOp (xO op) (.int a t) (.int b u)) (.int c,H):=by
 intro Q E r;have done: ∀ {d:Int},some d=some c->Q (.int d s.toks) { s with toks:=s.toks+1 }:=fun hd=>by cases hd;exact r.gM st (.int _ _)
 clear r;cases op with
 | add=>exact PySem.P.add_int (done e)
 | sub=>exact PySem.P.sub_int (done e)
 | mul=>
  obtain⟨h,e⟩:=bH e;exact PySem.P.mul_int (done e) (.of_left (Gp (aD h).1))
 | fdiv=>
  obtain⟨h,e⟩:=bH e;have h0:b≠0:=bne_iff_ne.mp (aD h).1;exact PyProof.Rows.floordiv_int h0 (done e) (.inl (PyProof.noPylong_of_log2 (Nat.lt_trans ((Nat.log2_lt (by simpa using h0)).mpr (lN.mp (aD h).2)) (by decide))))
 | wN=>
  obtain⟨h,e⟩:=bH e;exact PyProof.Rows.mod_int' (bne_iff_ne.mp h) (done e)
 | Xd=>
  obtain⟨h,e⟩:=bH e;exact PyProof.Rows.pow_int_small (of_decide_eq_true (aD (aD h).1).2) (of_decide_eq_true (aD h).2) (Nat.lt_trans (lN.mp (aD (aD h).1).1) (by decide)) (done e)
 | Xg=>
  obtain⟨h,e⟩:=bH e;exact PyProof.Rows.rshift_int (of_decide_eq_true h) (done e)
 | WW=>
  obtain⟨h,e⟩:=bH e;exact PyProof.Rows.lshift_int_small (of_decide_eq_true (aD (aD h).1).2) (of_decide_eq_true (aD h).2) (Nat.lt_trans (lN.mp (aD (aD h).1).1) (by decide)) (done e)
 | J2=>
  obtain⟨h,e⟩:=bH e;exact PyProof.Rows.and_int (done (J3 h▸e))
 | Uj=>
  obtain⟨h,e⟩:=bH e;exact PyProof.Rows.or_int (done (L0 h▸e))
end
theorem Dd{W:Wd}{A:Around}{E:Value->Shared->Prop}{s:Shared}{l b:Addr}{items xH:Array Value}{Q:Value->Shared->Prop}(hl:AE s.heap l items)(hb:AE s.heap b xH)
  (h:Q (.ref s.heap.objs.size) { s with heap:=s.heap.push { cls:=.type "list",data:=.seq (items++xH) } }) (kI:items.size+xH.size<=sizeLine):
  wpAny (Mo W) A (binaryOp .Add (.ref l) (.ref b)) Q E s:=by
 obtain⟨n,ho⟩:=hl;obtain⟨n2,UD⟩:=hb;exact concat_meets ⟨_,ho,rfl⟩ ⟨_,UD,rfl⟩ noFill_list_add seq_list_add PySem.F.slot_list_add PySem.F.entry_list_add (PySem.F.args_list_add_2 _ _) (list_addW l b items xH n n2 none none #[] #[] kI) ⟨ho,UD,h⟩
theorem DC(y:Value): ∀ (k:Nat) (acc:Array Value),(List.foldl (fun x1 x2=>x1++x2) acc (List.replicate k #[y])).toList=acc.toList++List.replicate k y
 | 0,acc=>by simp
 | k+1,acc=>by
  rw[List.replicate_succ,List.foldl_cons,DC y k];simp [List.replicate_succ]
theorem FT{W:Wd}{A:Around}{E:Value->Shared->Prop}{s:Shared}{l:Addr}{items:Array Value}{x:Int}{u:Tok}{Q:Value->Shared->Prop}(hl:AE s.heap l items)
  (gc: -(2 ^ 63:Int)<=x) (hhi:x<2 ^ 63) (kI:items.size*x.toNat<=2 ^ 24)
  (h:Q (.ref s.heap.objs.size) { s with heap:=s.heap.push { cls:=.type "list",data:=.seq (List.foldl (fun x1 x2=>x1++x2) #[] (List.replicate (if items.isEmpty=true then 0 else x.toNat) items)) } }):
  wpAny (Mo W) A (binaryOp .Mult (.ref l) (.int x u)) Q E s:=by
 obtain⟨k,hl⟩:=hl;exact wpAny_binaryOp_repeat_ref (T:="list") (U:="int") (by decide) ⟨_,hl,rfl⟩ (fun s'=>typeIs_int s' x u) noFill_list_mul F.fills_int_mul F.slot_int_rmul repeat_list F.slot_int_index.lookup
  (call_meets F.slot_int_rmul (typeIs_int s x u) F.entry_int_rmul (F.args_int_rmul_2 _ _) (int___rmul___int_list x u l items k)
   ⟨hl,rfl,⟨_,hl,rfl⟩,call_meets F.slot_list_mul ⟨_,hl,rfl⟩ F.entry_list_mul (F.args_list_mul_2 _ _)
    (AutoListH.list___mul___list_int_3 l items k x u (by simp [Builtin.List.listFitsIndex];lia) (by lia) (by simp [Builtin.List.listTooLong,sizeLine];lia))
    ⟨hl,h⟩⟩)
theorem P7{xs:List V}{x:V}(h:WE xs=some x):xs=[x]:=by
 cases xs with
 | nil=>exact cY h
 | cons y ys=>cases ys with
  | nil=>exact congrArg (fun x=>[x]) (Option.some.inj h)
  | cons=>exact cY h
theorem bU:sizeLine=16777216:=rfl
theorem lE:most=16000000:=rfl
section
variable{W:Wd}{A:Around}{s:Shared}{μ:Mp}{H:Hp}
theorem Gm{op:GN}{x y:V}{v w:Value}{r:V×Hp}(st:St W μ H s.heap)(hx:aS W μ s.heap x v)(hy:aS W μ s.heap y w)(e:Do op x y H=some r):
  DX W A s μ (binaryOp (xO op) v w) r:=by
 cases hq:GA x with
 | none=>
  unfold Do at e;rw[hq] at e;obtain⟨a,ha,e⟩:=aK e;obtain⟨b,hb,e⟩:=aK e;obtain⟨c,hc,e⟩:=aK e;rw[dW ha] at hx;rw[dW hb] at hy;obtain⟨t,rfl⟩:=hx.dF;obtain⟨u,rfl⟩:=hy.dF;cases e;exact Gl st hc
 | some a=>
  unfold Do at e;rw[hq] at e;obtain⟨xs,hA,e⟩:=aK e;rw[kR hq] at hx;obtain⟨a,ia,rfl,hp,hl,hr,_⟩:=st.listAt (eV hA) hx;clear hA hx hq;cases op with
  | add=>
   obtain⟨b,hb,e⟩:=aK e;obtain⟨ys,hB,e⟩:=aK e;obtain⟨kI,e⟩:=bH e;rw[kR hb] at hy;obtain⟨b,ib,rfl,zO,GI,uR,_⟩:=st.listAt (eV hB) hy;cases e;intro Q E k;have kI:=of_decide_eq_true kI;refine Dd hl GI ?_ (by rw[bU];rw[hr.length,uR.length,lE] at kI;simp only[Array.length_toList] at kI;lia);have m:=Mv.newList (n:=0) (items:=ia++ib) st (by rw[List.length_append];exact kI) (by rw[Array.toList_append];exact hr.append uR);exact k _ _ s.toks _ m.1 m.2
  | mul=>
   obtain⟨n,hn,e⟩:=aK e;obtain⟨x,hx,e⟩:=aK e;obtain⟨kI,e⟩:=bH e;rw[dW hn] at hy;obtain⟨t,rfl⟩:=hy.dF;rw[P7 hx] at hr;obtain⟨y,ys,e1,hv,hs⟩:=hr.dF;rw[show ys=[] from hs.dF] at e1;have ol:ia= #[y]:=Array.ext' e1;cases e;intro Q E k;have h1:=of_decide_eq_true (aD kI).1;have h2:n<=16000000:=of_decide_eq_true (aD kI).2;rw[ol] at hl;refine FT hl (by lia) (by lia) (by simp;lia) ?_;have m:=Mv.newList (n:=0) (items:=List.foldl (fun x1 x2=>x1++x2) #[] (List.replicate (if (#[y]:Array Value).isEmpty=true then 0 else n.toNat) #[y])) st (by rw[List.length_replicate,lE];lia)
    (xs:=List.replicate n.toNat x) (by rw[DC];exact aO.replicate hv n.toNat)
   exact k _ _ s.toks _ m.1 m.2
  | _=>exact cY e
end
end Mine
namespace Mine
open PySem PySem.W PyProof.Rows PySem.SeqAt
theorem OZ.fun{h:Heap}{a:Addr}{i j:Array Value}(x:OZ h a i)(y:OZ h a j):i=j:=by
 obtain⟨n,x⟩:=x;obtain⟨m,y⟩:=y;rw[x] at y;cases y;rfl
theorem AE.fun{h:Heap}{a:Addr}{i j:Array Value}(x:AE h a i)(y:AE h a j):i=j:=by
 obtain⟨n,x⟩:=x;obtain⟨m,y⟩:=y;rw[x] at y;cases y;rfl
theorem toNat_map_inj: ∀ {l m:List Char},l.map Char.toNat=m.map Char.toNat->l=m:=fun {l}=>by
 induction l with
 | nil=>exact fun {m} h=>(List.map_eq_nil_iff.mp h.symm).symm
 | cons a l ih=>
  intro m h;cases m with
  | nil=>exact absurd h (by simp)
  | cons b m=>
   have h:=List.cons.inj h;rw[Char.toNat_inj.mp h.1,ih h.2]
theorem EH{a b:String}(h:Str.ofString a=Str.ofString b):a=b:=by
 rw[Str.ofString_eq_byList] at h;unfold Str.ofStringByList at h;have:=congrArg (fun s:Str=>s.cps.toList) h;simp only at this;exact String.toList_inj.mp (toNat_map_inj this)
theorem EG(a b:String):(Str.ofString a==Str.ofString b)=(a==b):=by
 rw[Bool.eq_iff_iff,beq_iff_eq,beq_iff_eq];exact⟨EH,fun h=>by rw[h]⟩
theorem EqAt.bf{A:Around}{s:Shared}{l b:Addr}{k:Bool}(hs:l=b->k=true)(h:RcAt A s (.ref l) (.ref b) k):EqAt A s (.ref l) (.ref b) k:=by
 by_cases e:l=b
 ·subst e;rw[hs rfl];exact EqAt.same _
 ·exact EqAt.of_refs e h
noncomputable def Rk(xs ys:List V)(n j:Nat):Bool:=(bO xs[j]? fun x=>bO ys[j]? fun y=>LJ x y n).getD false
theorem OS{x y:V}{xs ys:List V}{n:Nat}: (Rk (x::xs) (y::ys) n∘Nat.succ)=Rk xs ys n:=rfl
structure VE(A:Around)(s:Shared)(v w:Value)(b:Bool):Prop where
 rc:RcAt A s v w b
 ne:RcNeAt A s v w (!b)
 eq:EqAt A s v w b
 same:v=w->b=true
theorem OR{y:V}{n:Nat}{b:Bool}(e:LJ .none y n=some b):y= .none/\b=true:=by
 cases y<;>first|exact cY e|exact⟨rfl,(Option.some.inj e).symm⟩
theorem OQ{a:Bool}{y:V}{n:Nat}{b:Bool}(e:LJ (.bool a) y n=some b):dO (fun c=>y= .bool c) (fun c=>(a==c)=b):=by
 cases y<;>first|exact cY e|exact⟨_,rfl,Option.some.inj e⟩
theorem Qn{a:Int}{y:V}{n:Nat}{b:Bool}(e:LJ (.int a) y n=some b):dO (fun c=>y= .int c) (fun c=>(a==c)=b):=by
 cases y<;>first|exact cY e|exact⟨_,rfl,Option.some.inj e⟩
theorem Qo{a:String}{y:V}{n:Nat}{b:Bool}(e:LJ (.str a) y n=some b):dO (fun c=>y= .str c) (fun c=>(a==c)=b):=by
 cases y<;>first|exact cY e|exact⟨_,rfl,Option.some.inj e⟩
theorem Qp{xs:List V}{y:V}{n:Nat}{b:Bool}(e:LJ (.aM xs) y n=some b):CB (fun ys m=>y= .aM ys) (fun ys m=>n=m+1) (fun ys m=>yB xs ys m=some b):=by
 cases y<;>first|exact cY e|(cases n with
  | zero=>exact cY e
  | succ m=>exact⟨_,_,rfl,rfl,e⟩)
theorem IR{x y:V}{n:Nat}{b:Bool}{p:Prop}(hx:(∃ a,x= .ref a)\/(∃ a,x= .g a)\/ ∃ a c,x= .mD a c)(e:LJ x y n=some b):p:=by
 rcases hx with⟨a,rfl⟩|⟨a,rfl⟩|⟨a,c,rfl⟩<;>cases y<;>exact cY e
theorem GB: ∀ {xs ys:List V} {n:Nat} {b:Bool},yB xs ys n=some b->((List.range (min xs.length ys.length)).all (Rk xs ys n)&&xs.length==ys.length)=b:=fun {xs}=>by
 induction xs with
 | nil=>exact fun {ys n b} e=>by cases ys<;>exact Option.some.inj e
 | cons x xs ih=>
  intro ys n b e;cases ys with
  | nil=>exact Option.some.inj e
  | cons y ys=>
   obtain⟨a,e1,e⟩:=aK e;obtain⟨c,e2,e⟩:=aK e;rw[<- Option.some.inj e,<- ih e2,List.length_cons,List.length_cons,Nat.add_min_add_right,List.range_succ_eq_map,List.all_cons,List.all_map,OS,show Rk (x::xs) (y::ys) n 0=a from congrArg (Option.getD · false) e1,show (xs.length+1==ys.length+1)=(xs.length==ys.length) from by simp,Bool.and_assoc]
theorem GC: ∀ {xs ys:List V} {n:Nat} {b:Bool},yB xs ys n=some b->∀ (j:Nat) x y,xs[j]? = some x->ys[j]? = some y->LJ x y n=some (Rk xs ys n j):=fun {xs}=>by
 induction xs with
 | nil=>exact fun e j x y h=>cY h
 | cons x xs ih=>
  intro ys n b e j u v h1 h2;cases ys with
  | nil=>exact cY h2
  | cons y ys=>
   obtain⟨a,e1,e⟩:=aK e;obtain⟨c,e2,e⟩:=aK e;cases j with
   | zero=>
    rw[<- Option.some.inj h1,<- Option.some.inj h2,show Rk (x::xs) (y::ys) n 0=a from congrArg (Option.getD · false) e1];exact e1
   | succ j=>exact ih e2 j u v h1 h2
section
variable{W:Wd}{μ:Mp}{s:Shared}
theorem Rj: ∀ {n:Nat} {x y:V} {v w:Value} {b:Bool} {A:Around},A.units+n<cLine->aS W μ s.heap x v->aS W μ s.heap y w->LJ x y n=some b->VE A s v w b:=fun {n}=>by
 induction n using Nat.strongRecOn with
 | ind n ih=>
  intro x y v w b A hu hx hy e;cases x with
  | none=>
   obtain⟨rfl,rfl⟩:=OR e;rw[show v=_ from hx.dF,show w=_ from hy.dF];exact⟨RcAt.none_none,RcNeAt.none_none,EqAt.same _,fun _=>rfl⟩
  | bool a=>
   obtain⟨c,rfl,rfl⟩:=OQ e;rw[show v=_ from hx.dF,show w=_ from hy.dF];exact⟨RcAt.bool_bool _ _,RcNeAt.bool_bool _ _,EqAt.bool_bool _ _,fun q=>beq_iff_eq.mpr (Value.bool.inj q)⟩
  | int a=>
   obtain⟨c,rfl,rfl⟩:=Qn e;obtain⟨t,rfl⟩:=hx.dF;obtain⟨t',rfl⟩:=hy.dF;exact⟨RcAt.int_int _ _ _ _,RcNeAt.int_int _ _ _ _,EqAt.int_int _ _ _ _,fun q=>beq_iff_eq.mpr (Value.int.inj q).1⟩
  | str a=>
   obtain⟨c,rfl,rfl⟩:=Qo e;obtain⟨t,rfl⟩:=hx.dF;obtain⟨t',rfl⟩:=hy.dF;rw[<- EG];exact⟨RcAt.str_str _ _ _ _,RcNeAt.str_str _ _ _ _,EqAt.str_str _ _ _ _,fun q=>beq_iff_eq.mpr (Value.str.inj q).1⟩
  | aM xs=>
   obtain⟨ys,m,rfl,rfl,e⟩:=Qp e;obtain⟨a1,i1,rfl,vP,ZY,HA⟩:=hx.dF;obtain⟨a2,i2,rfl,GK,XS,uR⟩:=hy.dF;have l1:xs.length=i1.size:=HA.length;have l2:ys.length=i2.size:=uR.length;have hz:i1.size<=16000000:=l1▸vP;have oK: ∀ {A:Around},A.units+m<cLine->∀ j (g1:j<i1.size) (g2:j<i2.size),VE A s i1[j] i2[j] (Rk xs ys m j):=fun {A} hu j g1 g2=>by
    have q1:xs[j]? = some xs[j]:=List.getElem?_eq_getElem (l1▸g1);have q2:ys[j]? = some ys[j]:=List.getElem?_eq_getElem (l2▸g2);refine ih m (Nat.lt_succ_self m) hu (HA.bP j _ _ q1 ?_) (uR.bP j _ _ q2 ?_) (GC e j _ _ q1 q2)
    ·rw[Array.getElem?_toList];exact Array.getElem?_eq_getElem g1
    ·rw[Array.getElem?_toList];exact Array.getElem?_eq_getElem g2
   have ha:=GB e;have RQ:Value.ref a1= .ref a2->b=true:=fun q=>by
    rw[<- Value.ref.inj q] at XS;have q:=ZY.fun XS;rw[<- ha,l1,l2,<- q,beq_self_eq_true,Bool.and_true,Nat.min_self,List.all_eq_true];intro j hj;have hj:=List.mem_range.mp hj;exact (oK (A:=A) (by lia) j hj (q▸hj)).same (by simp [q])
   rw[l1,l2] at ha;have rc:RcAt A s (.ref a1) (.ref a2) b:=ha▸RcAt.tuples ZY.is XS.is (by lia) fun j g1 g2=>(oK (A:=A.in1) (by show A.units+1+m<cLine;lia) j g1 g2).eq;exact⟨rc,ha▸RcNeAt.tuples ZY.is XS.is (by lia) fun j g1 g2=>(oK (A:=A.in1) (by show A.units+1+m<cLine;lia) j g1 g2).eq,EqAt.bf (fun q=>RQ (q▸rfl)) rc,RQ⟩
  | ref a=>exact IR (.inl ⟨_,rfl⟩) e
  | g a=>exact IR (.inr (.inl ⟨_,rfl⟩)) e
  | mD a c=>exact IR (.inr (.inr ⟨_,_,rfl⟩)) e
end
end Mine
namespace Mine
open PySem PySem.W PyProof.Rows PySem.SeqAt
noncomputable def lT:Rp->CmpOp
 | .eq=>.Eq | .ne=>.NotEq | .lt=>.Lt | .le=>.LtE | .gt=>.Gt | .ge=>.GtE | .is=>.Is | .FK=>.IsNot | .pY=>.In | .yL=>.NotIn
theorem Mg{W:Wd}{μ:Mp}{H:Hp}{s:Shared}{x y:V}{v w:Value}{b:Bool}{A:Around}(hu:A.units+21<cLine)(st:St W μ H s.heap)(hx:aS W μ s.heap x v)(hy:aS W μ s.heap y w)
  (e:XF H x y=some b):RcAt A s v w b/\RcNeAt A s v w (!b):=by
 unfold XF at e;cases hq:GA x with
 | none=>
  rw[hq] at e;have:=Rj (A:=A) (n:=20) (by lia) hx hy e;exact⟨this.rc,this.ne⟩
 | some i=>
  rw[hq] at e;obtain⟨j,hj,e⟩:=aK e;obtain⟨xs,hA,e⟩:=aK e;obtain⟨ys,hB,e⟩:=aK e;rw[kR hq] at hx;rw[kR hj] at hy;obtain⟨a,ia,rfl,_,hl,hr,vP⟩:=st.listAt (eV hA) hx;obtain⟨c,ic,rfl,_,GI,uR,_⟩:=st.listAt (eV hB) hy;clear hA hB hx hy hq hj;have l1:xs.length=ia.size:=hr.length;have l2:ys.length=ic.size:=uR.length;have vP:ia.size<=16000000:=vP;by_cases kI:xs.length=ys.length
  ·rw[if_pos kI] at e
   have hz:ia.size=ic.size:=l1▸l2▸kI;have g: ∀ j (g1:j<ia.size) (g2:j<ic.size),EqAt A.in1 s ia[j] ic[j] (Rk xs ys 20 j):=fun j g1 g2=>by
    have q1:xs[j]? = some xs[j]:=List.getElem?_eq_getElem (l1▸g1);have q2:ys[j]? = some ys[j]:=List.getElem?_eq_getElem (l2▸g2);refine (Rj (A:=A.in1) (n:=20) (by show A.units+1+20<cLine;lia) (hr.bP j _ _ q1 ?_) (uR.bP j _ _ q2 ?_) (GC e j _ _ q1 q2)).eq
    ·rw[Array.getElem?_toList];exact Array.getElem?_eq_getElem g1
    ·rw[Array.getElem?_toList];exact Array.getElem?_eq_getElem g2
   have ha:=GB e;rw[<- kI,beq_self_eq_true,Bool.and_true,Nat.min_self,l1] at ha;rw[<- ha];exact⟨RcAt.lists hl.is GI.is hz (by lia) g,RcNeAt.lists hl.is GI.is hz (by lia) g⟩
  ·rw[if_neg kI] at e
   have hz:(ia.size != ic.size)=true:=bne_iff_ne.mpr (l1▸l2▸kI);rw[<- Option.some.inj e];exact⟨RcAt.lists_lengths hl.is GI.is hz (by lia),RcNeAt.lists_lengths hl.is GI.is hz (by lia)⟩
theorem Gz{k:Kind}{es:List (Int×V)}(h:YS k=some es):k= .jH es:=by
 cases k<;>first|exact cY h|exact congrArg Kind.jH (Option.some.inj h)
theorem SC{k:Kind}{xs:List Int}(h:Wy k=some xs):k= .kB xs:=by
 cases k<;>first|exact cY h|exact congrArg Kind.kB (Option.some.inj h)
structure WOk(W:Wd):Prop where
 um:W.h0.get? sysModules≠none
 jH: ∀ n es,W.G.kind n= .jH es->∃ d kvs ep,W.eZ n=some (.ref d)/\(d==sysModules)=false/\W.h0.DictAt (intKind W.prog W.w) d kvs ep/\fS W [] W.h0 es kvs
 kB: ∀ n xs,W.G.kind n= .kB xs->xs.length<=most/\∃ a items,W.eZ n=some (.ref a)/\AE W.h0 a items/\aO W [] W.h0 (xs.map .int) items.toList
set_option tactic.hygienic true in
theorem fS.SB{W:Wd}{μ:Mp}{h:Heap}{es:List (Int×V)}{kvs:List (Int×Value)}(r:fS W μ h es kvs)(k:Int):
  (cA es k=none/\valueAt kvs k=none)\/CB (fun x y=>cA es k=some x) (fun x y=>valueAt kvs k=some y) (fun x y=>aS W μ h x y):=by
 induction r with
 | nil=>exact .inl ⟨rfl,rfl⟩
 | cons hx hs ih=>
  rename_i k' x y es kvs
  by_cases e:k'=k
  ·exact .inr ⟨x,y,by simp [cA,e],by simp [valueAt,e],hx⟩
  ·have h1:cA ((k',x)::es) k=cA es k:=by simp [cA,e]
   have h2:valueAt ((k',y)::kvs) k=valueAt kvs k:=by simp [valueAt,e]
   rw[h1,h2];exact ih
theorem fS.isSome{W:Wd}{μ:Mp}{h:Heap}{es:List (Int×V)}{kvs:List (Int×Value)}(r:fS W μ h es kvs)(k:Int):(valueAt kvs k).isSome=(cA es k).isSome:=by
 rcases r.SB k with⟨a,b⟩|⟨x,y,a,b,_⟩<;>(rw[a,b];rfl)
theorem fS.length{W:Wd}{μ:Mp}{h:Heap}{es:List (Int×V)}{kvs:List (Int×Value)}(r:fS W μ h es kvs):es.length=kvs.length:=by
 induction r with
 | nil=>rfl
 | cons _ _ ih=>exact congrArg Nat.succ ih
theorem St.dictAt{W:Wd}{μ:Mp}{H:Hp}{h:Heap}(s:St W μ H h)(wo:WOk W){i:Nat}{es:List (Int×V)}{ep:Option Nat}{y:Value}(e:H[i]? = some (.dict es ep))(r:aS W μ h (.ref i) y):
  Ua (fun d kvs n=>y= .ref d) (fun d kvs n=>μ[i]? = some (d,none)) (fun d kvs n=>(d==sysModules)=false) (fun d kvs n=>h.DictAt (intKind W.prog W.w) d kvs n) (fun d kvs n=>fS W μ h es kvs) (fun d kvs n=>(∀ k,ep=some k->n=k)):=by
 obtain⟨p,hy,hp⟩:=r.dF;obtain⟨a,kvs,n,e1,he,hd,hr⟩:=(s.obj i _ _ e hp).dF;rw[e1] at hp hy;exact⟨a,kvs,n,hy,hp,beq_eq_false_iff_ne.mpr fun q=>wo.um (q▸s.fresh _ (.nK hp (iK _))),hd,hr,he⟩
theorem St.cg{W:Wd}{μ:Mp}{H:Hp}{h:Heap}(s:St W μ H h):TP W.h0 h:=fun a o e _=>s.iC a o e
theorem St.D0{W:Wd}{μ:Mp}{H:Hp}{h:Heap}(s:St W μ H h)(wo:WOk W){n:Nat}{es:List (Int×V)}{y:Value}(e:W.G.kind n= .jH es)(r:aS W μ h (.g n) y):
  Lj (fun d kvs ep=>y= .ref d) (fun d kvs ep=>(d==sysModules)=false) (fun d kvs ep=>h.DictAt (intKind W.prog W.w) d kvs ep) (fun d kvs ep=>fS W μ h es kvs):=by
 obtain⟨d,kvs,ep,e1,e2,e3,e4⟩:=wo.jH n es e;exact⟨d,kvs,ep,Option.some.inj (r.dF.symm.trans e1),e2,e3.keep s.iC,e4.bJ (fun i p q=>cY q) s.cg⟩
theorem St.PK{W:Wd}{μ:Mp}{H:Hp}{h:Heap}(s:St W μ H h)(wo:WOk W){n:Nat}{xs:List Int}{y:Value}(e:W.G.kind n= .kB xs)(r:aS W μ h (.g n) y):
  Jo (fun a items=>y= .ref a) (fun a items=>AE h a items) (fun a items=>aO W μ h (xs.map .int) items.toList) (fun a items=>items.size<=most):=by
 obtain⟨hz,a,items,e1,⟨m,e2⟩,e3⟩:=wo.kB n xs e;have hl:=e3.length;rw[List.length_map] at hl;exact⟨a,items,Option.some.inj (r.dF.symm.trans e1),⟨m,s.iC _ _ e2⟩,e3.bJ (fun i p q=>cY q) s.cg,by rw[hl] at hz;exact hz⟩
section
variable{W:Wd}{A:Around}{s:Shared}{μ:Mp}{H:Hp}
noncomputable def MJ(a:Int):Value->Bool
 | .int b _=>b==a
 | _=>false
theorem Ka{W:Wd}{μ:Mp}{h:Heap}{a:Int}{ys:List V}{vs:List Value}(r:aO W μ h ys vs): ∀ {b:Bool},I4 a ys=some b->(∀ y∈vs,∃ c t,y= .int c t)/\vs.any (MJ a)=b:=by
 induction r with
 | nil=>exact fun e=>⟨fun y hy=>(List.not_mem_nil hy).elim,Option.some.inj e⟩
 | cons hx hs ih=>
  intro b e;obtain⟨c,hc,e⟩:=aK e;obtain⟨q,hq,e⟩:=aK e;obtain⟨h1,h2⟩:=ih hq;rw[dW hc] at hx;obtain⟨t,rfl⟩:=hx.dF;refine⟨fun y hy=> ?_,?_⟩
  ·rcases List.mem_cons.mp hy with hy|hy
   ·exact⟨c,t,hy⟩
   ·exact h1 y hy
  ·rw[List.any_cons,h2,<- Option.some.inj e]
   exact congrArg (· || q) BEq.comm
theorem Kb{W:Wd}{μ:Mp}{s:Shared}{A:Around}{a:Int}{t:Tok}{ys:List V}{items:Array Value}{b:Bool}(r:aO W μ s.heap ys items.toList)(e:I4 a ys=some b):
  (∀ y,y∈items->EqAt A s y (.int a t) (MJ a y))/\items.any (MJ a)=b:=by
 obtain⟨h1,h2⟩:=Ka r e;refine⟨fun y hy=> ?_,by rw[<- h2,Array.any_toList]⟩;obtain⟨c,u,rfl⟩:=h1 y (Array.mem_toList_iff.mpr hy);exact EqAt.int_int _ _ _ _
noncomputable def Le(W:Wd)(A:Around)(s:Shared)(v w:Value)(b:Bool):Prop:=∀ {Q:Value->Shared->Prop} {E:Value->Shared->Prop},
  ((∀ tk,Q (.bool b) { s with toks:=tk })->wpAny (Mo W) A (compareOp .In v w) Q E s)/\((∀ tk,Q (.bool !b) { s with toks:=tk })->wpAny (Mo W) A (compareOp .NotIn v w) Q E s)
theorem Cy{a:Int}{t:Tok}{d:Addr}{kvs:List (Int×Value)}{n:Nat}{es:List (Int×V)}{b:Bool}(hs:(d==sysModules)=false)(hd:s.heap.DictAt (intKind W.prog W.w) d kvs n)(hr:fS W μ s.heap es kvs)(e:some (cA es a).isSome=some b):Le W A s (.int a t) (.ref d) b:=by
 rw[<- Option.some.inj e,<- hr.isSome];intro Q E;exact⟨fun q=>wpAny_in_of (intKind_is _ _ _ t) hs hd.dictOf.mapOf (q _),fun q=>wpAny_notIn_of (intKind_is _ _ _ t) hs hd.dictOf.mapOf (q _)⟩
theorem Cz{a:Int}{y:V}{t:Tok}{w:Value}{b:Bool}(wo:WOk W)(st:St W μ H s.heap)(hy:aS W μ s.heap y w)(e:Zp W.G a y H=some b):Le W A s (.int a t) w b:=by
 cases y with
 | aM ys=>
  obtain⟨_,_,rfl,hz,ht,hr⟩:=hy.dF;have h:=Kb (A:=A.in1) (t:=t) hr e;rw[<- h.2];intro Q E;exact⟨fun q=>in_tupleAt _ ht.is h.1 (q s.toks),fun q=>notIn_tupleAt _ ht.is h.1 (q s.toks)⟩
 | ref d=>
  obtain⟨p,hd,e⟩:=aK e;obtain⟨d,kvs,n,rfl,hp,hs,T7,hr,he⟩:=st.dictAt wo (vH hd) hy;exact Cy hs T7 hr e
 | g n=>
  obtain⟨es,hd,e⟩:=aK e;obtain⟨d,kvs,ep,rfl,hs,T7,hr⟩:=st.D0 wo (Gz hd) hy;exact Cy hs T7 hr e
 | _=>exact cY e
theorem vR{W:Wd}{μ:Mp}{h:Heap}{x:V}{v:Value}{b:Bool}(hx:aS W μ h x v)(e:isNone x=some b):plainIs v .none=true/\(v== .none)=b:=by
 cases hx<;>first|exact cY e|exact⟨rfl,Option.some.inj e⟩
theorem zW{x y:V}{v w:Value}{f:Int->Int->Bool}{b:Bool}{μ:Mp}{h:Heap}(hx:aS W μ h x v)(hy:aS W μ h y w)(e:M3 x y f=some b):Ub (fun a c t u=>v= .int a t) (fun a c t u=>w= .int c u) (fun a c t u=>f a c=b):=by
 obtain⟨a,ha,e⟩:=aK e;obtain⟨c,hc,e⟩:=aK e;rw[dW ha] at hx;rw[dW hc] at hy;obtain⟨t,h1⟩:=hx.dF;obtain⟨u,h2⟩:=hy.dF;exact⟨a,c,t,u,h1,h2,Option.some.inj e⟩
theorem jK{op:Rp}{x y:V}{v w:Value}{b:Bool}(wo:WOk W)(hu:A.units+21<cLine)(st:St W μ H s.heap)(hx:aS W μ s.heap x v)(hy:aS W μ s.heap y w)(e:vE W.G op x y H=some b){Q:Value->Shared->Prop}{E:Value->Shared->Prop}
  (q: ∀ tk,Q (.bool b) { s with toks:=tk }):wpAny (Mo W) A (compareOp (lT op) v w) Q E s:=by
 cases op with
 | eq=>exact (Mg hu st hx hy e).1 _ _ _ _ (q s.toks)
 | ne=>
  obtain⟨c,hc,e⟩:=aK e;rw[<- Option.some.inj e] at q;exact (Mg hu st hx hy hc).2 _ _ _ _ (q s.toks)
 | lt=>
  obtain⟨a,c,t,u,rfl,rfl,rfl⟩:=zW hx hy e;exact PySem.P.lt_int (q s.toks)
 | le=>
  obtain⟨a,c,t,u,rfl,rfl,rfl⟩:=zW hx hy e;exact PySem.P.le_int (q s.toks)
 | gt=>
  obtain⟨a,c,t,u,rfl,rfl,rfl⟩:=zW hx hy e;exact PySem.P.gt_int (q s.toks)
 | ge=>
  obtain⟨a,c,t,u,rfl,rfl,rfl⟩:=zW hx hy e;exact PySem.P.ge_int (q s.toks)
 | is=>
  obtain⟨hn,e⟩:=bH e;rw[oZ hn] at hy;obtain⟨h1,h2⟩:=vR hx e;rw[show w= .none from hy.dF];exact wpAny_is_plain h1 (h2▸q s.toks)
 | FK=>
  obtain⟨hn,e⟩:=bH e;obtain⟨c,hc,e⟩:=aK e;rw[oZ hn] at hy;obtain⟨h1,h2⟩:=vR hx hc;rw[show w= .none from hy.dF];rw[<- Option.some.inj e] at q;exact wpAny_isNot_plain h1 (h2▸q s.toks)
 | pY=>
  obtain⟨a,ha,e⟩:=aK e;rw[dW ha] at hx;obtain⟨t,rfl⟩:=hx.dF;exact (Cz wo st hy e).1 q
 | yL=>
  obtain⟨a,ha,e⟩:=aK e;obtain⟨c,hc,e⟩:=aK e;rw[dW ha] at hx;obtain⟨t,rfl⟩:=hx.dF;rw[<- Option.some.inj e] at q;exact (Cz wo st hy hc).2 q
end
end Mine
namespace Mine
open PySem PySem.W PyProof.Rows PySem.SeqAt
theorem zQ(l:Addr)(items:Array Value)(n:Nat)(i:Int)(u:Tok)(v:Value)(hi:0<=i)(KR:Builtin.List.listFitsIndex i=true)(hk:i.toNat<items.size):
  Meets (Builtin.«list.__setitem__» ⟨[.ref l,.int i u,v],[]⟩)
   (fun _ R s=>s.heap.get? l=some { cls:=.type "list",dict:=none,data:=.seq items n,slots:= #[] }/\R (.ok (.ret .none)) { s with heap:=s.heap.update l (Obj.mapSeq (·.setIfInBounds i.toNat v)) }):=
 .of_wp fun prog w A R s h=>by
  obtain⟨hl,h⟩:=h;show wpAny _ _ (Builtin.List.listSubscript? (.int i u) >>= _) _ _ s;refine wpAny_bind (wpAny_listSubscript_int KR ?_);clear KR;obtain⟨k,rfl⟩:=Int.eq_ofNat_of_zero_le hi;have zU:k<items.size:=hk;have hy:items[k]? = some items[k]:=Array.getElem?_eq_getElem zU;show wpAny _ _ ((seqItemAt l k >>= fun r=>pure (r.map (k,·))) >>= _) _ _ s;refine wpAny_bind (wpAny_bind (wpAny_seqItemAt hl rfl (wpAny_pure ?_)));rw[hy];show wpAny _ _ (setSeqItemAt l k v >>= _) _ _ s;refine wpAny_bind (wpAny_setSeqItemAt hl rfl ?_)
  first
   | exact wpAny_pure ⟨_,rfl,h⟩
   | exact wpAny_bind (wpAny_pure (wpAny_pure ⟨_,rfl,h⟩))
theorem xL(l:Addr)(items:Array Value)(n:Nat)(i:Int)(u:Tok)(k:Nat)(v:Value)(h0:i<0)(KR:Builtin.List.listFitsIndex i=true)(hi:seqIndex? i items.size=some k)(hk:k<items.size):
  Meets (Builtin.«list.__setitem__» ⟨[.ref l,.int i u,v],[]⟩)
   (fun _ R s=>s.heap.get? l=some { cls:=.type "list",dict:=none,data:=.seq items n,slots:= #[] }/\R (.ok (.ret .none)) { s with heap:=s.heap.update l (Obj.mapSeq (·.setIfInBounds k v)) }):=
 .of_wp fun prog w A R s h=>by
  obtain⟨hl,h⟩:=h;show wpAny _ _ (Builtin.List.listSubscript? (.int i u) >>= _) _ _ s;refine wpAny_bind (wpAny_listSubscript_int KR ?_);clear KR;obtain⟨j,rfl⟩: ∃ j:Nat,i=Int.negSucc j:=by
   cases i with
   | ofNat n=>exact absurd h0 (Int.not_lt.mpr (Int.ofNat_nonneg n))
   | negSucc n=>exact⟨n,rfl⟩
  have hy:items[k]? = some items[k]:=Array.getElem?_eq_getElem hk;show wpAny _ _ ((Builtin.List.listItems (.ref l) >>= fun xs=>pure ((seqIndex? (Int.negSucc j) xs.size).bind fun i=>xs[i]?.map (i,·))) >>= _) _ _ s;refine wpAny_bind (wpAny_bind ?_);show wpAny _ _ (seqItems? (.ref l) >>= _) _ _ s;refine wpAny_bind (wpAny_seqItems hl rfl (wpAny_pure (wpAny_pure ?_)));rw[hi];simp only[Option.bind_some,hy,Option.map_some];show wpAny _ _ (setSeqItemAt l k v >>= _) _ _ s;refine wpAny_bind (wpAny_setSeqItemAt hl rfl ?_)
  first
   | exact wpAny_pure ⟨_,rfl,h⟩
   | exact wpAny_bind (wpAny_pure (wpAny_pure ⟨_,rfl,h⟩))
theorem iG{M:Model}{A:Around}{E:Value->Shared->Prop}{s:Shared}{o i v:Value}{T id:String}{Q:Unit->Shared->Prop}(hT:s.TypeIs o T)(hn:seqItemTypes.contains T=false)(slot:Slot T "__setitem__" id)
  (hc:wpAny M A (call (.builtin id) [o,i,v]) (fun _ s'=>Q () s') E s):wpAny M A (setItem o i v) Q E s:=by
 unfold setItem;refine wpAny_holding ?_;refine wpAny_bind (wpAny_sequenceKey hT hn ?_);exact wpAny_bind (wpAny_callSpecial?_slot hT slot (wpAny_mono hc (fun v s' h'=>wpAny_pure h') fun _ _ e=>e))
theorem EE(f:Array Value->Array Value)(iw:Array Value)(n:Nat): ∃ m,Obj.mapSeq f { cls:=.type "list",dict:=none,data:=.seq iw n,slots:= #[] }= { cls:=.type "list",dict:=none,data:=.seq (f iw) m,slots:= #[] }:=
 ⟨_,rfl⟩
section
variable{W:Wd}{A:Around}{s:Shared}{μ:Mp}{H:Hp}
theorem Mv.listUpdate{h:Heap}{i:Nat}{a:Addr}{items:Array Value}{f:Array Value->Array Value}{ys:List V}(st:St W μ H h)(hp:μ[i]? = some (a,none))(hl:AE h a items)(hz:ys.length<=most)
  (hr:aO W μ h ys (f items).toList):Mv W X0 μ h μ (H.set i (.list ys)) (h.update a (Obj.mapSeq f)):=by
 obtain⟨n,ho⟩:=hl;obtain⟨m,hm⟩:=EE f items n;have g:(h.update a (Obj.mapSeq f)).get? a=some { cls:=.type "list",dict:=none,data:=.seq (f items) m,slots:= #[] }:=by
  rw[Heap.get?_update_self _ ho (by rw[hm];rfl),hm]
 have sb:=Heap.SameBut.update h a (Obj.mapSeq f);refine .HU st hp (fun b o hb e=> ?_) (fun tp=>.list hz ⟨m,g⟩ (hr.bJ (fun _ _ e=>e) tp)) (fun b hb o e=> ?_)
 ·rw[sb.2 b (fun q=>hb (by subst q;exact iK _))];exact e
 ·rw[dS hb,g] at e;exact Option.some.inj e▸iX rfl
theorem pH{i:Int}{n k:Nat}(h:fY i n=some k):k<n/\((0<=i/\i=k)\/(i<0/\i+n=k)):=by
 unfold fY at h;by_cases h0:0<=i
 ·rw[if_pos h0] at h
  by_cases h1:i<n
  ·rw[if_pos h1] at h
   have e:=Option.some.inj h;exact⟨e▸(Int.toNat_lt h0).mpr h1,.inl ⟨h0,e▸(Int.toNat_of_nonneg h0).symm⟩⟩
  ·rw[if_neg h1] at h;exact cY h
 ·rw[if_neg h0] at h
  by_cases h1:0<=i+n
  ·rw[if_pos h1] at h
   have e:=Option.some.inj h;have hi:=Int.not_le.mp h0;exact⟨e▸(Int.toNat_lt h1).mpr (Int.lt_of_lt_of_le (Int.add_lt_add_right hi n) (Int.le_of_eq (Int.zero_add _))),.inr ⟨hi,e▸(Int.toNat_of_nonneg h1).symm⟩⟩
  ·rw[if_neg h1] at h;exact cY h
theorem rQ{i:Int}{n k:Nat}(h:fY i n=some k):seqIndex? i n=some k:=by
 obtain⟨h1,h2⟩:=pH h;have e:seqIndex? i n=if (decide (0<=(if i<0 then i+n else i))&&decide ((if i<0 then i+n else i)<n))=true then some (if i<0 then i+n else i).toNat else none:=rfl
 rw[e];rcases h2 with⟨h2,h3⟩|⟨h2,h3⟩
 ·rw[if_neg (show ¬ i<0 by lia),if_pos (by simp;lia),h3];rfl
 ·rw[if_pos h2,if_pos (by simp;lia),h3];rfl
theorem uA{l:Addr}{items:Array Value}{i:Int}{t:Tok}{k:Nat}{y:Value}{Q:Value->Shared->Prop}{E:Value->Shared->Prop}(hl:AE s.heap l items)(hs:items.size<=most)(hk:fY i items.size=some k)(hy:items[k]? = some y)(h:Q y s):
  wpAny (Mo W) A (getItem (.ref l) (.int i t)) Q E s:=by
 obtain⟨h1,h2⟩:=pH hk;rw[lE] at hs;rcases h2 with⟨h2,h3⟩|⟨h2,h3⟩
 ·exact wpAny_getItem_list hl.is h2 (by lia) (by rw[h3];exact hy) h
 ·exact wpAny_getItem_list_neg hl.is h2 (by lia) (by lia) (by rw[h3];exact hy) h
theorem Lv{xs:List V}{i:Int}{r:V}{μ:Mp}{h:Heap}{items:Array Value}(hr:aO W μ h xs items.toList)(e:Q2 xs i=some r):CB (fun j y=>fY i items.size=some j) (fun j y=>items[j]? = some y) (fun j y=>aS W μ h r y):=by
 obtain⟨j,hp,e⟩:=aK e;obtain⟨y,hy,hv⟩:=hr.get e;rw[show xs.length=items.size from hr.length] at hp;exact⟨j,y,hp,by rw[<- Array.getElem?_toList];exact hy,hv⟩
theorem Ak{r:V}{i:Int}{t:Tok}{d:Addr}{kvs:List (Int×Value)}{n:Nat}{es:List (Int×V)}(st:St W μ H s.heap)(hd:s.heap.DictAt (intKind W.prog W.w) d kvs n)(hr:fS W μ s.heap es kvs)(e:cA es i=some r):DX W A s μ (getItem (.ref d) (.int i t)) (r,H):=fun Q E k=>by
 rcases hr.SB i with⟨h1,_⟩|⟨p,q,h1,h2,hv⟩
 ·exact cY (h1.symm.trans e)
 ·rw[Option.some.inj (h1.symm.trans e)] at hv
  exact wpAny_getItem_of (intKind_is _ _ _ t) hd.dictOf.mapOf h2 (k.gM st hv)
theorem Av{x r:V}{v:Value}{i:Int}{t:Tok}(wo:WOk W)(st:St W μ H s.heap)(hx:aS W μ s.heap x v)(e:D8 W.G x i H=some r):DX W A s μ (getItem v (.int i t)) (r,H):=by
 cases x with
 | aM xs=>
  obtain⟨a,items,rfl,hz,⟨n,ho⟩,hr⟩:=hx.dF;obtain⟨j,y,hp,hy,hv⟩:=Lv hr e;obtain⟨h1,h2⟩:=pH hp;have hz:items.size<=16000000:=hr.size▸hz;exact fun Q E k=>PySem.P.getItem_tuple ho (by lia) (by lia) (rQ hp) hy (k.mX st hv)
 | ref l=>
  obtain⟨ob,ho,e⟩:=aK e;cases ob with
  | list xs=>
   obtain⟨a,ia,rfl,hp,hl,hr,hz⟩:=st.listAt ho hx;obtain⟨j,y,hp,hy,hv⟩:=Lv hr e;exact fun Q E k=>uA hl hz hp hy (k.mX st hv)
  | dict es ep=>
   obtain⟨d,kvs,n,rfl,hp,hs,hd,hr,he⟩:=st.dictAt wo ho hx;exact Ak st hd hr e
  | inst=>exact cY e
 | g n=>
  obtain⟨es,hd,e⟩:=aK e;obtain⟨d,kvs,ep,rfl,hs,hd,hr⟩:=st.D0 wo (Gz hd) hx;exact Ak st hd hr e
 | _=>exact cY e
noncomputable def Xo(n d:Nat)(o:Option Int)(a:Nat):Prop:=a<=n/\(o=none/\a=d\/o=some (a:Int))
theorem vD{μ:Mp}{h:Heap}{n d a:Nat}{x:V}{v:Value}(hd:d<=n)(hx:aS W μ h x v)(e:Dq n d x=some a):dO (fun o=>IsPart v o) (fun o=>Xo n d o a):=by
 unfold Dq at e;cases hq:uT x with
 | none=>
  rw[hq] at e;obtain⟨hn,e⟩:=bH e;rw[oZ hn] at hx;rw[show v=_ from hx.dF,<- Option.some.inj e];exact⟨none,.none,hd,.inl ⟨rfl,rfl⟩⟩
 | some i=>
  rw[hq] at e;obtain⟨hi,e⟩:=bH e;rw[dW hq] at hx;obtain⟨t,rfl⟩:=hx.dF;have h0:=of_decide_eq_true (aD hi).1;have h1:=of_decide_eq_true (aD hi).2;rw[<- Option.some.inj e];exact⟨some i,.int i t,by lia,.inr (by rw[Int.toNat_of_nonneg h0])⟩
theorem Cb{items:Array Value}{lo hi:Option Int}{a b:Nat}(ha:Xo items.size 0 lo a)(hb:Xo items.size items.size hi b):slicePick items lo hi none=((items.toList.take b).drop a).toArray:=by
 have e:sliceBounds lo hi none items.size=((a:Int),(b:Int),1):=by
  obtain⟨ha1,ha⟩:=ha;obtain⟨PQ,hb⟩:=hb;have h1: ¬ ((a:Int)<0):=by lia
  have h2: ¬ ((b:Int)<0):=by lia
  rcases ha with⟨rfl,rfl⟩|rfl<;>rcases hb with⟨rfl,rfl⟩|rfl <;>
   simp only[sliceBounds,Option.getD_none,h1,h2,if_false,show (1:Int)>0 by decide,if_true]
  ·rfl
  ·congr 1;congr 1;lia
  ·congr 1;lia
  ·congr 1
   ·lia
   ·congr 1;lia
 unfold slicePick;rw[e];show ((sliceRange (a:Int) (b:Int) 1).filterMap (items[·]?)).toArray=_;rw[sliceRange_one,pick_run,List.drop_take]
noncomputable def Lh(W:Wd)(A:Around)(s:Shared)(v vl vu:Value)(Q E:Value->Shared->Prop):Prop:=CB (fun T id=>s.TypeIs v T) (fun T id=>typeLookup (.type T) "__getitem__"=pure (some (.builtin id))) (fun T id=>wpAny (Mo W) A (getItem v (.ref s.heap.objs.size)) Q E { s with heap:=s.heap.push { cls:=.type "slice",data:=.fields #[vl,vu,.none] } })
theorem Ec{x lo hi:V}{v vl vu:Value}{r:V×Hp}(st:St W μ H s.heap)(hx:aS W μ s.heap x v)(hl:aS W μ s.heap lo vl)(hh:aS W μ s.heap hi vu)(e:Eb x lo hi H=some r){Q:Value->Shared->Prop}{E:Value->Shared->Prop}
  (k:LP W s μ r Q):Lh W A s v vl vu Q E:=by
 have mp:=Mv.push st { cls:=.type "slice",data:=.fields #[vl,vu,.none] };cases x with
 | aM xs=>
  obtain⟨i,VI,e⟩:=aK e;obtain⟨hc,e⟩:=bH e;rw[dW VI] at hl;rw[oZ (aD hc).1] at hh;have hc:=aD (aD hc).2;obtain⟨t,items,rfl,hz,⟨n,ho⟩,hr⟩:=hx.dF;obtain⟨u,rfl⟩:=hl.dF;have Zf:vu= .none:=hh.dF;subst Zf;have kI:xs.length=items.size:=hr.length;have h1:=of_decide_eq_true hc.1;have h2:=of_decide_eq_true hc.2;clear hc VI hl hh hx;obtain⟨m,rfl⟩:=Int.eq_ofNat_of_zero_le (show 0<=i by lia);rw[<- Option.some.inj e] at k;refine⟨"tuple",_,⟨_,ho,rfl⟩,slot_tuple_getitem.lookup,?_⟩;have qh:IsTup (s.heap.push { cls:=.type "slice",data:=.fields #[.int (m:Int) u,.none,.none] }) t items:=⟨_,Heap.get?_push_of_some _ ho,rfl,n,rfl⟩;refine getItem_tuple_from qh (Heap.IsSliceOf.new ..) (by lia) (by lia) ?_ (by rw[bU,<- kI];rw[lE] at hz;lia);have m2:=Mv.newTuple (n:=0) (items:=(items.toList.drop m).toArray) (xs:=xs.drop m) mp.st (Nat.le_trans (by rw[List.length_drop];lia) hz) ((hr.mv st mp).drop m);exact k _ _ s.toks _ (mp.trans m2.1) m2.2
 | ref l=>
  obtain⟨xs,hA,e⟩:=aK e;obtain⟨p,FF,e⟩:=aK e;obtain⟨q,ZO,e⟩:=aK e;obtain⟨a,ia,rfl,hp,KT,hr,hz⟩:=st.listAt (eV hA) hx;rw[show xs.length=ia.size from hr.length] at FF ZO;obtain⟨lo',l1,l2⟩:=vD (Nat.zero_le _) hl FF;obtain⟨VI,l3,l4⟩:=vD (Nat.le_refl _) hh ZO;have Pi:xs.length<=most:=hr.size▸hz;clear hA hx hl hh FF ZO;rw[<- Option.some.inj e] at k;refine⟨"list",_,KT.is.typeIs,slot_list_getitem.lookup,?_⟩;refine wpAny_getItem_list_slice (KT.is.push _) (Heap.IsSliceOf.new ..) l1 l3 .none (by simp) ?_ (by rw[bU];rw[lE] at hz;lia);rw[Cb l2 l4];have m2:=Mv.newList (n:=0) (items:=((ia.toList.take q).drop p).toArray) (xs:=(xs.take q).drop p) mp.st (Nat.le_trans (by rw[List.length_drop,List.length_take];lia) Pi) (((hr.mv st mp).take q).drop p);exact k _ _ s.toks _ (mp.trans m2.1) m2.2
 | _=>exact cY e
end
end Mine
namespace Mine
open PySem PySem.W PyProof.Rows PySem.SeqAt
noncomputable def UV(W:Wd)(s:Shared)(μ:Mp)(H:Hp)(Q:Shared->Prop):Prop:=
 ∀ μ' h' tk,Mv W X0 μ s.heap μ' H h'->Q { s with heap:=h',toks:=tk }
theorem Gv{W:Wd}{A:Around}{E:Value->Shared->Prop}{s:Shared}{d:Addr}{kvs:List (Int×Value)}{ep:Nat}{k:Int}{t:Tok}{v:Value}{Q:Unit->Shared->Prop}(hm:s.heap.DictAt (intKind W.prog W.w) d kvs ep)
  (hQ: ∀ h',h'.DictAt (intKind W.prog W.w) d (stored kvs k v) (if (kvs.any fun kv=>decide (kv.1=k)) then ep else ep+1)->Heap.SameBut d s.heap h'->Q () { s with heap:=h',toks:=s.toks+1 })
  (kI:kvs.length<=sizeLine):wpAny (Mo W) A (dictSet d (.int k t) v) Q E s:=by
 have CP:=intKind_is W.prog W.w k t;obtain⟨o,es,ho,hc,hd,hk,hp,hn⟩:=hm;have ny:es.size<=sizeLine:=by
  have e1:=hp.length;have e2:es.toList.length=es.size:=by simp
  lia
 have VJ:(es.findIdx? fun e=>(intKind W.prog W.w).is k e.key)=kvs.findIdx? fun kv=>decide (kv.1=k):=by
  rw[<- hp.findIdx k];obtain⟨l⟩:=es;simp
 unfold dictSet;refine wpAny_holding (wpAny_bind ((intKind W.prog W.w).pyHash CP ?_));unfold dictSetHashed;refine wpAny_holding (wpAny_bind (wpAny_dictFind_of (s:= { s with toks:=s.toks+1 }) CP ho hd hk ?_));cases hi:es.findIdx? fun e=>(intKind W.prog W.w).is k e.key with
 | some i=>
  have G8:=any_of_findIdx_some (VJ▸hi);rw[G8] at hQ;simp only[if_true] at hQ;refine wpAny_bind (wpAny_rule (wpAny_bind (wpAny_updateDict (s:= { s with toks:=s.toks+1 }) ho hd (wpAny_point (hQ _ ⟨_,_,Heap.get?_update_self _ ho (Obj.isFreed_of_dict (Obj.data_mapDict hd _)),
   hc.mapDict _,Obj.data_mapDict hd _,hk.modify _ _,?_,?_⟩ (Heap.SameBut.update ..))) (by simp))))
  ·rw[stored,if_pos G8]
   have hl:(es.toList.findIdx? fun e=>(intKind W.prog W.w).is k e.key)=some i:=by rw[<- hi];obtain⟨l⟩:=es;simp
   have:=hp.modify hn hl v;obtain⟨l⟩:=es
   simpa using this
  ·rw[stored,if_pos G8,keys_map_store];exact hn
 | none=>
  have VY:k∉kvs.map (·.1):=not_mem_of_findIdx_none (VJ▸hi);have G8: ¬ (kvs.any fun kv=>decide (kv.1=k))=true:=by
   rw[List.any_eq_true];rintro⟨kv,T9,he⟩;exact VY (List.mem_map.mpr ⟨kv,T9,of_decide_eq_true he⟩)
  rw[if_neg G8] at hQ;refine wpAny_bind (wpAny_rule (wpAny_updateDictKeys (hz:=ny) (s:= { s with toks:=s.toks+1 }) ho hd (hQ _ ⟨_,_,Heap.get?_update_self _ ho (Obj.isFreed_of_dict (Obj.data_mapDictKeys hd _)),
   hc.mapDictKeys _,Obj.data_mapDictKeys hd _,hk.push CP _,?_,?_⟩ (Heap.SameBut.update ..))))
  ·rw[stored,if_neg G8]
   have:=hp.append CP ((intKind W.prog W.w).hash k) v;obtain⟨l⟩:=es
   simpa using this
  ·rw[stored,if_neg G8,List.map_append,List.nodup_append]
   refine⟨hn,by simp,?_⟩;intro a ha b hb;simp only[List.map_cons,List.map_nil,List.mem_singleton] at hb;subst hb;exact fun e=>VY (e▸ha)
theorem EY{W:Wd}{A:Around}{E:Value->Shared->Prop}{s:Shared}{d:Addr}{kvs:List (Int×Value)}{ep:Nat}{k:Int}{t:Tok}{v:Value}{Q:Unit->Shared->Prop}(hm:s.heap.DictAt (intKind W.prog W.w) d kvs ep)
  (hQ: ∀ h',h'.DictAt (intKind W.prog W.w) d (stored kvs k v) (if (kvs.any fun kv=>decide (kv.1=k)) then ep else ep+1)->Heap.SameBut d s.heap h'->Q () { s with heap:=h',toks:=s.toks+1 })
  (kI:kvs.length<=sizeLine):wpAny (Mo W) A (setItem (.ref d) (.int k t) v) Q E s:=by
 refine iG hm.dictOf.typeIs (by decide) slot_dict_setitem (wpAny_call_entry slot_dict_setitem hm.dictOf.typeIs entry_dict_setitem ?_ (args_dict_setitem _ _ _));show wpAny _ _ (Builtin.Dict.notOrdered "__setitem__" ⟨[.ref d,.int k t,v],[]⟩ >>= _) _ _ s;refine wpAny_bind (wpAny_notOrdered_dict hm.dictOf.typeIs ?_);show wpAny _ _ (dictSet d (.int k t) v >>= _) _ _ s;exact wpAny_bind (Gv hm (fun h' h1 h2=>wpAny_pure ⟨.none,rfl,hQ h' h1 h2⟩) kI)
section
variable{W:Wd}{μ:Mp}{h:Heap}{es:List (Int×V)}{kvs:List (Int×Value)}
theorem fS.any(r:fS W μ h es kvs)(k:Int):(kvs.any fun kv=>decide (kv.1=k))=es.any fun e=>e.1==k:=by
 induction r with
 | nil=>rfl
 | cons _ _ ih=>exact congrArg (_ || ·) ih
theorem KD(es:List (Int×V))(k:Int):(cA es k).isSome=es.any fun e=>e.1==k:=by
 unfold cA;rw[Option.isSome_map,Bool.eq_iff_iff,List.find?_isSome,List.any_eq_true]
set_option tactic.hygienic true in
theorem fS.NJ{k:Int}{x:V}{y:Value}(hv:aS W μ h x y)(r:fS W μ h es kvs):
  fS W μ h (es.map fun e=>if e.1==k then (k,x) else e) (kvs.map fun kv=>if kv.1=k then (kv.1,y) else kv):=by
 induction r with
 | nil=>exact .nil
 | cons hx _ ih=>
  rename_i k' _ _ _ _ _
  rw[List.map_cons,List.map_cons];by_cases e:k'=k
  ·rw[if_pos e,if_pos (beq_iff_eq.mpr e),e];exact .cons hv ih
  ·rw[if_neg e,if_neg (fun q=>e (beq_iff_eq.mp q))];exact .cons hx ih
theorem fS.append{es':List (Int×V)}{HI:List (Int×Value)}(h':fS W μ h es' HI)(r:fS W μ h es kvs):fS W μ h (es++es') (kvs++HI):=by
 induction r with
 | nil=>exact h'
 | cons hx _ ih=>exact .cons hx ih
end
theorem fS.Jb{W:Wd}{μ:Mp}{h:Heap}{k:Int}{x:V}{y:Value}(hv:aS W μ h x y){es:List (Int×V)}{kvs:List (Int×Value)}(r:fS W μ h es kvs):fS W μ h (jA es k x) (stored kvs k y):=by
 unfold jA stored;rw[r.any k];split
 ·exact r.NJ hv
 ·exact fS.append (.cons hv .nil) r
section
variable{W:Wd}{A:Around}{s:Shared}{μ:Mp}{H:Hp}
theorem rR{x z:V}{i:Int}{t:Tok}{v u:Value}{H':Hp}(wo:WOk W)(st:St W μ H s.heap)(hx:aS W μ s.heap x v)(hz:aS W μ s.heap z u)(e:oB x i z H=some H'){Q:Unit->Shared->Prop}{E:Value->Shared->Prop}
  (k:UV W s μ H' (Q ())):wpAny (Mo W) A (setItem v (.int i t) u) Q E s:=by
 obtain⟨l,hl,e⟩:=aK e;obtain⟨ob,ho,e⟩:=aK e;obtain⟨jm,hb,e⟩:=aK e;rw[kR hl] at hx;rw[<- Option.some.inj e] at k;clear hl e;cases ob with
 | list xs=>
  obtain⟨k',zU,e⟩:=aK hb;rw[<- Option.some.inj e] at k;obtain⟨a,ia,rfl,hp,hl,hr,kI⟩:=st.listAt ho hx;rw[hr.size] at zU;obtain⟨n,ho⟩:=id hl;obtain⟨h1,h2⟩:=pH zU;have hq:Q () { s with heap:=s.heap.update a (Obj.mapSeq (·.setIfInBounds k' u)) }:=by
   refine k _ _ s.toks (Mv.listUpdate st hp hl (by rw[List.length_set,hr.size];exact kI) ?_);rw[Array.toList_setIfInBounds];exact aO.set hz hr _
  have kI:ia.size<=16000000:=kI;clear k hr hx hz hb e;rcases h2 with⟨h2,h3⟩|⟨h2,h3⟩
  ·refine iG hl.is.typeIs (by decide) slot_list_setitem (call_meets slot_list_setitem hl.is.typeIs entry_list_setitem (args_list_setitem _ _ _) (zQ a ia n i t u h2 (fitsIndex_of h2 (by lia)) (by lia)) ⟨ho,?_⟩)
   rw[h3];exact hq
  ·exact iG hl.is.typeIs (by decide) slot_list_setitem (call_meets slot_list_setitem hl.is.typeIs entry_list_setitem (args_list_setitem _ _ _) (xL a ia n i t k' u h2 (fitsIndex_neg h2 (by lia)) (rQ zU) h1) ⟨ho,hq⟩)
 | dict es ep=>
  obtain⟨hi,e⟩:=bH hb;rw[<- Option.some.inj e] at k;obtain⟨d,kvs,n,rfl,hp,hs,hd,hr,he⟩:=st.dictAt wo ho hx;have hi:es.length<=16000000:=of_decide_eq_true hi;refine EY hd (fun h' h1 h2=> ?_) (by rw[bU,<- hr.length];lia);rw[hr.any i,<- KD] at h1;refine k _ _ _ (Mv.HU st hp (fun b o hb e=> ?_) (fun tp=>.dict (fun k hk=> ?_) h1 ((hr.bJ (fun _ _ e=>e) tp).Jb (hz.bJ (fun _ _ e=>e) tp))) (fun b hb o e=> ?_))
  ·rw[h2.2 b (fun q=>hb (q▸iK _))];exact e
  ·cases hf:(cA es i).isSome with
   | true=>rw[hf] at hk;exact he k hk
   | false=>
    rw[hf] at hk;cases ep with
    | none=>exact cY hk
    | some m=>rw[he m rfl];exact Option.some.inj hk
  ·obtain⟨o',es',g1,_,g2,_⟩:=h1
   rw[dS hb,g1] at e;exact Option.some.inj e▸fG g2
 | inst=>exact cY hb
end
structure Em where
 nm:Str
 q:Str
 bs:List Value
 sn:List Str
 sub:List Value
 col:Option Bool
 dd:Option Addr
 k0:Option Value
 k1:Option Value
 k2:Option Value
 k3:Option Value
 k5:Option Value
noncomputable abbrev Em.obj(p:Em)(C N:Addr):Obj:=excClassObj p.nm p.q C N p.bs [.type "object"] true p.sn p.sub false p.col p.dd p.k0 p.k1 p.k2 p.k3 p.k5 "object.__new__"
structure Qu(W:Wd)(c eF:Nat)(C N:Addr)(mN:Str->Option Value)(p:Em):Prop where
 ga:W.eZ c=some (.ref C)
 obj:W.h0.get? C=some (p.obj C N)
 ns:W.h0.Ns N mN
 V5:mN "__getattribute__"=none
 ae:mN "__getattr__"=none
 V6:mN "__setattr__"=none
 eF:Jo (fun fI oI=>W.eZ eF=some (.ref fI)) (fun fI oI=>mN "__init__"=some (.ref fI)) (fun fI oI=>W.h0.get? fI=some oI) (fun fI oI=>oI.cls= .type "function")
 dat: ∀ a x,W.G.iQ c a=true->W.an a=some x->mN x=none/\typeLookup (.type "object") x=pure none
 aJ: ∀ a f x,W.G.aJ c a=some f->W.an a=some x->UZ (fun fa Pw y=>mN x=some (.ref fa)) (fun fa Pw y=>W.eZ f=some (.ref fa)) (fun fa Pw y=>W.h0.get? fa=some Pw) (fun fa Pw y=>Pw.cls= .type "function") (fun fa Pw y=>typeLookup (.type "object") x=pure y)
noncomputable def O9:Wu->Value
 | .len=>.builtin "len"
 | .min=>.builtin "min"
 | .max=>.builtin "max"
 | .range=>.type "range"
 | .list=>.type "list"
 | .tuple=>.type "tuple"
 | .all=>.builtin "all"
structure oH(W:Wd):Prop extends WOk W where
 cls: ∀ c eF,W.G.kind c= .cls eF->Jp (Qu W c eF)
 inj: ∀ a b x,W.an a=some x->W.an b=some x->a=b
 names: ∃ ns:List Str,ns.length<=sizeLine/\∀ a x,W.an a=some x->x∈ns
 handed: ∀ n v,W.eZ n=some v->handedOut v=pure v
 blt: ∀ n b,W.G.kind n= .blt b->W.eZ n=some (O9 b)
 Uu: ∀ n np nv b,W.G.kind n= .fn np nv b->Rt (fun a o fd=>W.eZ n=some (.ref a)) (fun a o fd=>W.h0.get? a=some o) (fun a o fd=>o.data= .func fd)
 eF: ∀ c i,W.G.kind c= .cls i->Li fun np nv b=>W.G.kind i= .fn np nv b
 S6: ∀ c m f,W.G.aJ c m=some f->(∃ i,W.G.kind c= .cls i)/\Li fun np nv b=>W.G.kind f= .fn np nv b
 R6: ∀ c a,W.G.iQ c a=true->∃ i,W.G.kind c= .cls i
theorem Dn{a b:Nat}(h: ¬ a=b):Nat.beq a b=false:=Bool.eq_false_iff.mpr fun q=>h (Nat.eq_of_beq_eq_true q)
theorem MM(a b:Nat)(x:V)(fs:List (Nat×V)):jZ (tZ fs a x) b=if a=b then some x else jZ fs b:=by
 induction fs with
 | nil=>
  by_cases h:a=b
  ·rw[if_pos h,h];exact (congrArg (fun c=>cR c (some x) none) (Nat.beq_refl b))
  ·rw[if_neg h];exact (congrArg (fun c=>cR c (some x) none) (Dn h))
 | cons e r ih=>
  show jZ (cR (Nat.beq e.1 a) ((a,x)::r) (e::tZ r a x)) b=if a=b then some x else cR (Nat.beq e.1 b) (some e.2) (jZ r b)
  by_cases h:e.1=a
  ·rw[h,Nat.beq_refl]
   show cR (Nat.beq a b) (some x) (jZ r b)=_;by_cases hb:a=b
   ·rw[if_pos hb,hb,Nat.beq_refl];rfl
   ·rw[if_neg hb,Dn hb];rfl
  ·rw[Dn h]
   show cR (Nat.beq e.1 b) (some e.2) (jZ (tZ r a x) b)=_;rw[ih];by_cases hb:a=b
   ·rw[if_pos hb,if_pos hb,<- hb,Dn h];rfl
   ·rw[if_neg hb,if_neg hb]
theorem FR.kP{W:Wd}{μ:Mp}{h:Heap}{a:Nat}{nm:Str}{x:V}{y:Value}{fs:List (Nat×V)}{m:Str->Option Value}(inj: ∀ a b x,W.an a=some x->W.an b=some x->a=b)(ha:W.an a=some nm)(hv:aS W μ h x y)(r:FR W μ h fs m):
  FR W μ h (tZ fs a x) fun z=>if z=nm then some y else m z:=by
 refine⟨fun b nb hb=> ?_,fun z hz=> ?_⟩
 ·rw[MM]
  show Da W μ h _ (if nb=nm then some y else m nb);by_cases e:a=b
  ·rw[if_pos e,if_pos (Option.some.inj (hb.symm.trans (e▸ha)))];exact hv
  ·rw[if_neg e,if_neg (fun q:nb=nm=>e (inj a b nm ha (q▸hb)))];exact r.1 b nb hb
 ·by_cases e:z=nm
  ·exact⟨a,e▸ha⟩
  ·exact r.2 z (fun q=>hz ((if_neg e).trans q))
section
variable{W:Wd}{A:Around}{s:Shared}{μ:Mp}{H:Hp}
theorem St.M2{h:Heap}(st:St W μ H h){i c:Nat}{fs:List (Nat×V)}{y:Value}(e:H[i]? = some (.inst c fs))(r:aS W μ h (.ref i) y):
  Qy (fun C m a d o=>y= .ref a) (fun C m a d o=>μ[i]? = some (a,some d)) (fun C m a d o=>h.Inst a C m) (fun C m a d o=>W.eZ c=some (.ref C)) (fun C m a d o=>h.get? a=some o) (fun C m a d o=>o.cls= .ref C) (fun C m a d o=>∀ k,o.data ≠ .cls k) (fun C m a d o=>d≠a) (fun C m a d o=>o.dict=some d) (fun C m a d o=>h.Ns1 d m) (fun C m a d o=>FR W μ h fs m):=by
 obtain⟨p,hy,hp⟩:=r.dF;obtain⟨C,m,a,d,o,e1,hc,ho,It,hn,rZ,hd,hs,hr⟩:=(st.obj i _ _ e hp).dF;rw[e1] at hp hy;exact⟨C,m,a,d,o,hy,hp,⟨_,ho,It,hn,.inr ⟨_,hd,rZ,hs⟩⟩,hc,ho,It,hn,rZ,hd,hs,hr⟩
theorem G7{h:Heap}{x:V}{v:Value}(wo:oH W)(r:aS W μ h x v):handedOut v=pure v:=by
 cases r<;>first|rfl|exact wo.handed _ _ ‹_›
theorem kY{h:Heap}(st:St W μ H h){N:Addr}{m:Str->Option Value}(hn:W.h0.Ns N m):h.Ns N m:=let ⟨o,es,ep,e,r⟩:=hn;⟨o,es,ep,st.iC _ _ e,r⟩
theorem St.Q9{i:Nat}{p:Nat×List (Nat×V)}{a:Nat}{nm:Str}{y:Value}(wo:oH W)(st:St W μ H s.heap)(ha:W.an a=some nm)(hA:I5 H i=some p)(hd:W.G.iQ p.1 a=true)(r:aS W μ s.heap (.ref i) y):
  Qz (fun C m ad d o N mN=>y= .ref ad) (fun C m ad d o N mN=>μ[i]? = some (ad,some d)) (fun C m ad d o N mN=>s.heap.Inst ad C m) (fun C m ad d o N mN=>W.eZ p.1=some (.ref C)) (fun C m ad d o N mN=>s.heap.get? ad=some o) (fun C m ad d o N mN=>o.cls= .ref C) (fun C m ad d o N mN=>∀ k,o.data ≠ .cls k) (fun C m ad d o N mN=>d≠ad) (fun C m ad d o N mN=>o.dict=some d) (fun C m ad d o N mN=>FR W μ s.heap p.2 m)
   (fun C m ad d o N mN=>∃ q:Em,W.h0.get? C=some (q.obj C N)) (fun C m ad d o N mN=>s.heap.Ns N mN) (fun C m ad d o N mN=>mN "__getattribute__"=none/\mN "__setattr__"=none) (fun C m ad d o N mN=>mN nm=none/\typeLookup (.type "object") nm=pure none):=by
 obtain⟨C,m,ad,d,o,hy,hp,hI,hc,ho,It,hn,rZ,RG,hs,hr⟩:=st.M2 (M1 hA) r;obtain⟨i,hk⟩:=wo.R6 _ _ hd;obtain⟨C',N,mN,q,K⟩:=wo.cls _ i hk;have e:C'=C:=Value.ref.inj (Option.some.inj (K.ga.symm.trans hc));exact⟨C,m,ad,d,o,N,mN,hy,hp,hI,hc,ho,It,hn,rZ,RG,hr,⟨q,e▸K.obj⟩,kY st K.ns,⟨K.V5,K.V6⟩,K.dat a nm hd ha⟩
theorem Es{x r:V}{a:Nat}{nm:Str}{v:Value}{expr:Bool}(wo:oH W)(st:St W μ H s.heap)(ha:W.an a=some nm)(hx:aS W μ s.heap x v)(e:Ck W.G x a H=some r):DX W A s μ (getAttr v nm expr) (r,H):=by
 obtain⟨l,hl,e⟩:=aK e;obtain⟨p,hA,e⟩:=aK e;obtain⟨hd,e⟩:=bH e;rw[kR hl] at hx;obtain⟨C,m,ad,d,o,N,mN,rfl,_,hI,_,_,_,_,_,_,hr,⟨q,hC⟩,hN,hs,hm⟩:=st.Q9 wo ha hA hd hx;have hv:=hr.1 a nm ha;rw[e] at hv;obtain⟨y,hy,hv⟩:=hv.ok;intro Q E k;obtain⟨I1,g,dr,tk,os⟩:=s;exact load_attr (st.iC _ _ hC) hN hs.1 hm.1 hm.2 hI hy (G7 wo hv) (k.gM st hv)
theorem Bk{x z:V}{a:Nat}{nm:Str}{v u:Value}{H':Hp}(wo:oH W)(st:St W μ H s.heap)(ha:W.an a=some nm)(hx:aS W μ s.heap x v)(hz:aS W μ s.heap z u)
  (e:oA W.G x a z H=some H') {Q:Unit->Shared->Prop} {E:Value->Shared->Prop} (k:UV W s μ H' (Q ())):wpAny (Mo W) A (setAttr v nm u) Q E s:=by
 obtain⟨l,hl,e⟩:=aK e;obtain⟨p,hA,e⟩:=aK e;obtain⟨hd,e⟩:=bH e;rw[kR hl] at hx;rw[<- Option.some.inj e] at k;clear e hl;obtain⟨C,m,ad,d,o,N,mN,rfl,hp,hI,hc,ho,It,ZD,rZ,RG,hr,⟨q,hC⟩,hN,hs,hm⟩:=st.Q9 wo ha hA hd hx;obtain⟨ns,VZ,uQ⟩:=wo.names;have qr:ad≠C:=fun z=>by
  have:=st.fresh _ (.nK hp (iK _));rw[show (ad,some d).1=C from z,hC] at this;exact cY this.symm
 refine store_attr F.store_object (st.iC _ _ hC) hN hs.2 hm.1 hm.2 qr hI (fun h' UP mn Mh ZF=> ?_) (fun y hy=>let ⟨b,hb⟩:=hr.2 y hy;uQ _ _ hb) VZ;obtain⟨o₁,UC,c1,c2,c3,c4⟩:=ZF o ho;have XE:=c4 d RG;have Va:h'.Ns1 d (fun y=>if y=nm then some u else m y):=by
  obtain⟨o2,UD,_,_,hh⟩:=mn;rw[<- Option.some.inj (UC.symm.trans UD),XE] at hh;rcases hh with⟨h1,_⟩|⟨d',h1,_,h3⟩
  ·exact cY h1.symm
  ·exact Option.some.inj h1▸h3
 have U8:=c1.trans It;refine k _ _ _ (Mv.HU st hp (fun b ob hb e=>Mh b ob (fun q=>hb (q▸iK _)) (fun o₀ dx e1 e2 q=>hb ?_) e) (fun tp=>.inst hc UC U8 (c2▸ZD) rZ XE Va (FR.kP wo.inj ha (hz.bJ (fun _ _ e=>e) tp) (hr.bJ (fun _ _ e=>e) tp))) (fun b hb ob e=> ?_))
 ·rw[<- Option.some.inj (ho.symm.trans e1),RG] at e2
  exact Option.some.inj e2▸q▸Fb
 ·rcases vU hb with h|h
  ·rw[h,UC] at e;exact Option.some.inj e▸yK U8
  ·obtain⟨o2,es,ep,e1,e2,_⟩:=Va
   rw[h,e1] at e;exact Option.some.inj e▸fG e2
end
end Mine
namespace Mine
open PySem PySem.W PyProof.Rows PySem.SeqAt
section
variable{W:Wd}{A:Around}{s:Shared}{μ:Mp}{H:Hp}
theorem LP.keep{v:V}{y:Value}{Q:Value->Shared->Prop}(r:LP W s μ (v,H) Q)(st:St W μ H s.heap){h':Heap}{tk:Nat}(hk: ∀ b o,s.heap.get? b=some o->h'.get? b=some o)(hv:aS W μ h' v y):Q y { s with heap:=h',toks:=tk }:=
 r μ h' tk y (.of_keep st hk) hv
theorem Ga{h:Heap}{xs:List V}{vs:List Value}(r:aO W μ h xs vs): ∀ {b:Bool},GZ xs=some b->dO (fun bs:List Bool=>vs=bs.map .bool) (fun bs=>bs.all id=b):=by
 induction r with
 | nil=>exact fun e=>⟨[],rfl,Option.some.inj e⟩
 | cons hx hs ih=>
  intro b e;obtain⟨c,hc,e⟩:=aK e;obtain⟨q,hq,e⟩:=aK e;obtain⟨bs,h1,h2⟩:=ih hq;rw[B4 hc] at hx;exact⟨c::bs,by rw[h1,show _=_ from hx.dF];rfl,by rw[<- Option.some.inj e,<- h2];rfl⟩
theorem Jq{l:Addr}{bs:List Bool}{items:Array Value}{Q:Value->Shared->Prop}{E:Value->Shared->Prop}(hh:A.handled=none)(hl:AE s.heap l items)(hb:items.toList=bs.map .bool)
  (h: ∀ h' tk,(∀ b o,s.heap.get? b=some o->h'.get? b=some o)->Q (.bool (bs.all id)) { s with heap:=h',toks:=tk }):wpAny (Mo W) A (call (.builtin "all") [.ref l]) Q E s:=by
 obtain⟨n,ho⟩:=id hl;have eA:l<s.heap.objs.size:=Heap.lt_size ho;refine call_all_walkS (wpAny_pyIter_list hl.is ?_);refine⟨_,_,_,_,_,_,_,fun i=>bs.getD i false,rfl,(Walks.list (A:=A.in1) hh s.heap.objs.size l (Nat.ne_of_lt eA) items).toS,⟨⟨_,Heap.get?_push_size _ rfl,rfl,rfl⟩,hl.is.push _⟩,fun i v s' Q' E' hP hQ=> ?_,fun s' hm=> ?_⟩
 ·have:items.toList[i]? = some v:=by simpa using hP
  rw[hb,List.getElem?_map] at this;obtain⟨c,hc,rfl⟩:=Option.map_eq_some_iff.mp this;refine wpAny_truthy_bool ?_;have e:bs.getD i false=c:=by rw[List.getD_eq_getElem?_getD,hc];rfl
  rw[<- e];exact hQ
 ·have kI:items.size=bs.length:=by
   have:=congrArg List.length hb
   simpa using this
  have e:((List.range items.size).all fun i=>bs.getD i false)=bs.all id:=by
   rw[kI,Bool.eq_iff_iff,List.all_eq_true,List.all_eq_true];constructor
   ·intro h x hx
    obtain⟨i,hi,rfl⟩:=List.getElem_of_mem hx;have:=h i (List.mem_range.mpr hi);rw[List.getD_eq_getElem?_getD,List.getElem?_eq_getElem hi] at this;exact this
   ·intro h i hi
    have hi:=List.mem_range.mp hi;rw[List.getD_eq_getElem?_getD,List.getElem?_eq_getElem hi];exact h _ (List.getElem_mem hi)
  rw[e];have hq:=h s'.heap s'.toks (fun b o e=>hm.heap b o (fun q=>by simp at q;subst q;exact absurd (Heap.lt_size e) (Nat.lt_irrefl _)) (Heap.get?_push_of_some _ e));have h1:=hm.gens;have h2:=hm.drawn;have h3:=hm.os;obtain⟨I1,g',d',t',o'⟩:=s';simp only at h1 h2 h3;subst h1 h2 h3;exact hq
noncomputable def km(h:Heap)(a:Addr)(items:Array Value):Prop:=AE h a items\/OZ h a items
theorem xI{x:V}{v:Value}{xs:List V}(wo:oH W)(st:St W μ H s.heap)(hx:aS W μ s.heap x v)(e:EB W.G x H=some xs):Jo (fun a items=>v= .ref a) (fun a items=>km s.heap a items) (fun a items=>aO W μ s.heap xs items.toList) (fun a items=>items.size<=most):=by
 cases x with
 | aM ys=>
  obtain⟨a,items,h1,hz,ht,hr⟩:=hx.dF;rw[<- Option.some.inj e];exact⟨a,items,h1,.inr ht,hr,hr.size▸hz⟩
 | ref i=>
  obtain⟨a,items,h1,_,hl,hr,hz⟩:=st.listAt (eV e) hx;exact⟨a,items,h1,.inl hl,hr,hz⟩
 | g n=>
  obtain⟨ys,hk,e⟩:=aK e;obtain⟨_,e⟩:=bH e;obtain⟨a,items,h1,hl,hr,hz⟩:=st.PK wo.toWOk (SC hk) hx;rw[<- Option.some.inj e];exact⟨a,items,h1,.inl hl,hr,hz⟩
 | _=>exact cY e
theorem Bz{x y:V}{vs:List Value}{a b:Int}(r:aO W μ s.heap [x,y] vs)(ha:uT x=some a)(hb:uT y=some b): ∃ t u,vs=[.int a t,.int b u]:=by
 obtain⟨v,v1,rfl,hx,r1⟩:=r.dF;obtain⟨w,v2,rfl,hy,r2⟩:=r1.dF;rw[dW ha] at hx;rw[dW hb] at hy;obtain⟨t,rfl⟩:=hx.dF;obtain⟨u,rfl⟩:=hy.dF;exact⟨t,u,by rw[show v2=[] from r2.dF]⟩
theorem aO.B8{x:V}{vs:List Value}{h:Heap}(r:aO W μ h [x] vs):dO (fun v=>vs=[v]) (fun v=>aS W μ h x v):=by
 obtain⟨v,v1,rfl,hx,r1⟩:=r.dF;exact⟨v,by rw[show v1=[] from r1.dF],hx⟩
theorem E1{k:Wu}{xs:List V}{vs:List Value}{r:V×Hp}(wo:oH W)(hh:A.handled=none)(st:St W μ H s.heap)(KX:aO W μ s.heap xs vs)(e:AZ W.G k xs H=some r):DX W A s μ (call (O9 k) vs) r:=by
 intro Q E q;cases k with
 | len=>
  obtain⟨x,rfl,e⟩:=mT e;obtain⟨ys,he,e⟩:=aK e;obtain⟨v,rfl,hx⟩:=KX.B8;obtain⟨a,items,rfl,hl,hr,hz⟩:=xI wo st hx he;rw[<- Option.some.inj e,hr.size] at q;have hz:items.size<=16000000:=hz;rcases hl with hl|⟨n,ho⟩
  ·exact Calls.call_len_list hl.is (by lia) (q.gM st (.int _ _))
  ·exact PySem.P.len_tuple ho (by lia) (q.gM st (.int _ _))
 | min=>
  obtain⟨x,y,rfl,e⟩:=Dg e;obtain⟨a,ha,e⟩:=aK e;obtain⟨b,hb,e⟩:=aK e;obtain⟨t,u,rfl⟩:=Bz KX ha hb;rw[<- Option.some.inj e] at q;refine min_two_ints hh fun h' tk As=> ?_;by_cases hc:b<a
  ·rw[if_pos hc] at q ⊢;exact q.keep st As (.int _ _)
  ·rw[if_neg hc] at q ⊢;exact q.keep st As (.int _ _)
 | max=>
  obtain⟨x,y,rfl,e⟩:=Dg e;obtain⟨a,ha,e⟩:=aK e;obtain⟨b,hb,e⟩:=aK e;obtain⟨t,u,rfl⟩:=Bz KX ha hb;rw[<- Option.some.inj e] at q;refine max_two_ints hh fun h' tk As=> ?_;by_cases hc:b>a
  ·rw[if_pos hc] at q ⊢;exact q.keep st As (.int _ _)
  ·rw[if_neg hc] at q ⊢;exact q.keep st As (.int _ _)
 | range=>
  cases xs with
  | nil=>exact cY e
  | cons x r'=>
   obtain⟨a,ha,e⟩:=aK e;cases r' with
   | nil=>
    obtain⟨hb,e⟩:=bH e;obtain⟨v,rfl,hx⟩:=KX.B8;rw[dW ha] at hx;obtain⟨t,rfl⟩:=hx.dF;rw[<- Option.some.inj e] at q;exact call_range_1 (q.keep st (fun b o e=>Heap.get?_push_of_some _ e) (.mD (by rw[hb];rfl) ⟨_,_,_,IsRange.new ..⟩))
   | cons y r'=>
    obtain⟨z,hz,e⟩:=mT e;obtain⟨b,hb,e⟩:=aK e;obtain⟨hc,e⟩:=bH e;rw[hz] at KX;obtain⟨t,u,rfl⟩:=Bz KX ha hb;rw[<- Option.some.inj e] at q;exact call_range_2 (q.keep st (fun b o e=>Heap.get?_push_of_some _ e) (.mD hc ⟨_,_,_,IsRange.new ..⟩))
 | list=>
  obtain⟨x,rfl,e⟩:=mT e;obtain⟨ys,he,e⟩:=aK e;obtain⟨v,rfl,hx⟩:=KX.B8;obtain⟨a,items,rfl,hl,hr,hz⟩:=xI wo st hx he;rw[<- Option.some.inj e] at q;have vP:items.size<=16000000:=hz;have GK:ys.length<=most:=hr.size▸hz;rcases hl with⟨n,ho⟩|⟨n,ho⟩
  ·refine call_list_seq a (.inl rfl) ho rfl rfl (fun h' c' h1 h2=> ?_) (by rw[bU];lia)
   have m:=Mv.C5 st (h':=h') GK h1 (Heap.get?_none_of_le (Nat.le_refl _)) ⟨c',h2⟩ hr;exact q _ _ s.toks _ m.1 m.2
  ·refine call_list_seq a (.inr rfl) ho rfl rfl (fun h' c' h1 h2=> ?_) (by rw[bU];lia)
   have m:=Mv.C5 st (h':=h') GK h1 (Heap.get?_none_of_le (Nat.le_refl _)) ⟨c',h2⟩ hr;exact q _ _ s.toks _ m.1 m.2
 | tuple=>
  obtain⟨x,rfl,e⟩:=mT e;obtain⟨ys,he,e⟩:=aK e;obtain⟨v,rfl,hx⟩:=KX.B8;obtain⟨a,items,rfl,hl,hr,hz⟩:=xI wo st hx he;rw[<- Option.some.inj e] at q;have vP:items.size<=16000000:=hz;have GK:ys.length<=most:=hr.size▸hz;rcases hl with hl|ht
  ·refine call_tuple_list hl.is (fun h' h1=> ?_) (by rw[bU];lia)
   have mk:=Mv.of_keep st h1;have m:=Mv.newTuple (n:=0) mk.st GK (hr.mv st mk);exact q _ _ s.toks _ (mk.trans m.1) m.2
  ·exact call_tuple_same ht.is (q.mX st (.LG GK ht hr))
 | all=>
  obtain⟨x,rfl,e⟩:=mT e;obtain⟨i,hi,e⟩:=aK e;obtain⟨ys,he,e⟩:=aK e;obtain⟨b,hb,e⟩:=aK e;obtain⟨v,rfl,hx⟩:=KX.B8;rw[kR hi] at hx;obtain⟨a,ia,rfl,hp,hl,hr,hz⟩:=st.listAt (eV he) hx;obtain⟨bs,h1,rfl⟩:=Ga hr hb;rw[<- Option.some.inj e] at q;exact Jq hh hl h1 fun h' tk As=>q.keep st As (.bool _)
end
end Mine
namespace Mine
open PySem PySem.W PyProof.Rows PySem.SeqAt
section
variable{M:Model}{A:Around}{E:Value->Shared->Prop}{s:Shared}
theorem TypeIs.push{s:Shared}{v:Value}{T:String}(h:s.TypeIs v T)(o:Obj):Shared.TypeIs { s with heap:=s.heap.push o } v T:=by
 cases v<;>first|exact h|exact (let ⟨ob,e,hc⟩:=h;⟨ob,Heap.get?_push_of_some _ e,hc⟩)
noncomputable def cN(M:Model)(A:Around)(f:Value)(s:Shared):Prop:=∃ k:Keeper,∀ (Q:Keeper->Shared->Prop) (E:Value->Shared->Prop),Q k s->wpAny M A (keeperOf f) Q E s
theorem cN.builtin{id:String}: cN M A (.builtin id) s:=⟨.machine,fun _ _ h=>wpAny_pure h⟩
theorem cN.type{T:String}: cN M A (.type T) s:=⟨.machine,fun _ _ h=>wpAny_pure h⟩
theorem cN.func{a:Addr}{o:Obj}{fd:FuncData}(ho:s.heap.get? a=some o)(hd:o.data= .func fd):cN M A (.ref a) s:=⟨.frame,fun Q E h=>by
 unfold keeperOf;refine wpAny_bind (wpAny_load ho ?_);rw[hd];exact wpAny_pure h⟩
theorem oO{pos:Pos}{f:Value}{first:List Value}{args:List (Bool×Sem Value)}{Q:Value->Shared->Prop}(uB:args.any (·.1)=false)
  (h:wpAny M A (evalArgs f true args []) (fun x s₁=>A3 (cN M A f s₁) (x.kw=[]) (wpAny M A (call f (first++x.pos) []) Q E s₁)) E s):
  wpAny M A (callWith pos f first args []) Q E s:=by
 unfold callWith;refine wpAny_bind (wpAny_holding (wpAny_mono h (fun x s₁ h₁=>wpAny_bind (wpAny_standAt ?_)) fun _ _ x=>x));obtain⟨⟨k,hk⟩,ox,hc⟩:=h₁;have tail: ∀ {t:Sem Value},wpAny M A t Q E s₁->wpAny M A (t >>= fun r=>holding [r] point >>= fun _=>pure r) Q E s₁:=
  fun ht=>wpAny_bind (wpAny_mono ht (fun r s₂ hr=>wpAny_bind (wpAny_holding (wpAny_point (wpAny_pure hr)))) fun _ _ x=>x)
 simp only[uB,List.any_nil,Bool.or_false,ox];refine wpAny_bind (hk _ _ ?_);cases k<;>simp only
 ·split
  ·exact tail hc
  ·exact tail (by unfold callMarked;exact Calls.wpAny_keep hc)
 ·split
  ·exact tail hc
  ·exact tail (by unfold callMarked;exact Calls.wpAny_keep hc)
 ·exact tail hc
 ·exact tail (wpAny_operating hc)
theorem oS{f:Value}{args:List (Bool×Sem Value)}{Q:Args->Shared->Prop}(uB:args.any (·.1)=false)(h:wpAny M A (spliced args) (fun vs s'=>Q ⟨vs,[]⟩ s') E s):wpAny M A (evalArgs f true args []) Q E s:=by
 cases args with
 | nil=>
  unfold evalArgs;show wpAny M A (spliced [] >>= _) Q E s;exact wpAny_bind (wpAny_mono h (fun vs s' h'=>wpAny_bind (wpAny_pure (wpAny_holding (wpAny_bind (wpAny_pure (wpAny_bind (wpAny_pure (wpAny_pure h')))))))) fun _ _ x=>x)
 | cons x jS=>
  obtain⟨b,x⟩:=x;simp only[List.any_cons,Bool.or_eq_false_iff] at uB;obtain⟨rfl,_⟩:=uB;exact Calls.evalArgs_plain h
noncomputable def MK(M:Model)(A:Around)(env:Env)(E:Value->Shared->Prop):List Expr->(List Value->Shared->Prop)->Shared->Prop
 | [],Q,s=>Q [] s
 | e::r,Q,s=>wpAny M A (eval e env) (fun v s₁=>MK M A env E r (fun vs s₂=>Q (v::vs) s₂) s₁) E s
theorem gY{env:Env}{es:List Expr}: ∀ {Q:List Value->Shared->Prop} {s:Shared},MK M A env E es Q s->wpAny M A (spliced (es.map fun e=>(false,eval e env))) Q E s:=by
 induction es with
 | nil=>exact fun h=>Calls.spliced_nil h
 | cons e r ih=>exact fun h=>Calls.spliced_cons (wpAny_mono h (fun v s₁ h₁=>ih h₁) fun _ _ x=>x)
end
section
variable{prog:Program}{w:World}{A:Around}{E:Value->Shared->Prop}{s:Shared}{env:Env}
theorem tH{M:Model}{o:Value}{T id:String}{Q:Bool->Shared->Prop}(hl:typeLookup (.type T) "__getitem__"=pure (some (.builtin id)))(hT:s.TypeIs o T)(h:Q false s):wpAny M A (getitemInPython o) Q E s:=by
 rw[getitemInPython_of_ne hT.not_modules];exact wpAny_bind (wpAny_specialOf hT hl (wpAny_pure h))
theorem Gx{value:Expr}{RT Rg:Option Expr}{p pos:Pos}{Q:Value->Shared->Prop}
  (h:wpAny (model prog w) A (eval value env) (fun o s₁=>wpAny (model prog w) A (evalPart RT env) (fun vl s₂=>wpAny (model prog w) A (evalPart Rg env) (fun vu s₃=>CB (fun T id=>s₃.TypeIs o T) (fun T id=>typeLookup (.type T) "__getitem__"=pure (some (.builtin id))) (fun T id=>wpAny (model prog w) A (getItem o (.ref s₃.heap.objs.size)) Q E { s₃ with heap:=s₃.heap.push { cls:=.type "slice",data:=.fields #[vl,vu,.none] } })) E s₂) E s₁) E s):
  wpAny (model prog w) A (eval (.Subscript value (.Slice RT Rg none p) pos) env) Q E s:=by
 rw[arm_eval_Subscript];refine wpAny_bind (wpAny_mono h (fun o s₁ h₁=>wpAny_bind (wpAny_holding (wpAny_Slice (wpAny_mono h₁ (fun vl s₂ h₂=>wpAny_mono h₂ (fun vu s₃ h₃=> ?_) fun _ _ e=>e) fun _ _ e=>e)))) fun _ _ x=>x);rw[evalPart_none];refine wpAny_pure (wpAny_bind (wpAny_standAt ?_));obtain⟨T,id,mu,hl,hg⟩:=h₃;have hT:Shared.TypeIs { s₃ with heap:=s₃.heap.push { cls:=.type "slice",data:=.fields #[vl,vu,.none] } } o T:=TypeIs.push mu _;refine wpAny_bind (tH hl hT ?_);exact wpAny_bind (wpAny_operating (wpAny_mono hg (fun r s₃ h₃=>wpAny_bind (wpAny_letTemporaryGo (wpAny_pure h₃))) fun _ _ x=>x))
end
end Mine
namespace Mine
set_option genCtorIdx false
set_option backward.match.sparseCases false
open PySem PySem.W PyProof.Rows PySem.SeqAt
theorem eJ{p:Prop}(h:false=true):p:=nomatch h
noncomputable def Vr:V->Bool
 | .none=>true
 | _=>false
noncomputable def Zq(a:Bool):V->Bool
 | .bool b=>a==b
 | _=>false
noncomputable def Zr(a:Int):V->Bool
 | .int b=>a==b
 | _=>false
noncomputable def Zt(a:String):V->Bool
 | .str b=>a==b
 | _=>false
noncomputable def qz(a:Nat):V->Bool
 | .g b=>a==b
 | _=>false
noncomputable def tu(f:List V->Bool):V->Bool
 | .aM ys=>f ys
 | _=>false
noncomputable def ni(f:V->List V->Bool):List V->Bool
 | y::ys=>f y ys
 | []=>false
mutual
noncomputable def vB:V->V->Bool
 | .none=>Vr
 | .bool a=>Zq a
 | .int a=>Zr a
 | .str a=>Zt a
 | .aM xs=>tu fun ys=>Xl xs ys
 | .g a=>qz a
 | .ref _=>fun _=>false
 | .mD _ _=>fun _=>false
noncomputable def Xl:List V->List V->Bool
 | [],b=>b.isEmpty
 | x::xs,b=>ni (fun y ys=>vB x y&&Xl xs ys) b
end
mutual
theorem Rh: ∀ {a b:V},vB a b=true->a=b
 | .none,b,h=>by cases b<;>first|exact eJ h|rfl
 | .bool a,b,h=>by cases b<;>first|exact eJ h|exact congrArg V.bool (eq_of_beq h)
 | .int a,b,h=>by cases b<;>first|exact eJ h|exact congrArg V.int (eq_of_beq h)
 | .str a,b,h=>by cases b<;>first|exact eJ h|exact congrArg V.str (eq_of_beq h)
 | .aM xs,b,h=>by cases b<;>first|exact eJ h|exact congrArg V.aM (ON h)
 | .g a,b,h=>by cases b<;>first|exact eJ h|exact congrArg V.g (eq_of_beq h)
 | .ref _,_,h=>eJ h
 | .mD _ _,_,h=>eJ h
theorem ON: ∀ {a b:List V},Xl a b=true->a=b
 | [],b,h=>by cases b with
  | nil=>rfl
  | cons=>exact eJ h
 | x::xs,b,h=>by cases b with
  | nil=>exact eJ h
  | cons y ys=>
   have h':=Bool.and_eq_true_iff.mp (show (vB x y&&Xl xs ys)=true from h);rw[Rh h'.1,ON h'.2]
end
structure KC where
 kn:List (Str×NameKind)
 vn:List Str
 gl:Str->Option V
 an:Nat->Option Str
noncomputable def la:Const->Bool
 | .none=>true
 | _=>false
noncomputable def kx(a:Bool):Const->Bool
 | .bool b=>a==b
 | _=>false
noncomputable def kz(a:Int):Const->Bool
 | .int b=>a==b
 | _=>false
noncomputable def lc(a:String):Const->Bool
 | .str b=>Str.ofString a==b
 | _=>false
noncomputable def Up:V->Const->Bool
 | .none=>la
 | .bool a=>kx a
 | .int a=>kz a
 | .str a=>lc a
 | .aM _=>fun _=>false
 | .ref _=>fun _=>false
 | .g _=>fun _=>false
 | .mD _ _=>fun _=>false
noncomputable def W4(K:KC)(v:V)(x:Str):Bool:=match K.gl x with
 | some v'=>vB v v'
 | none=>false
noncomputable def sG(x:Str):Bool:= !(x==("__debug__":Str))
noncomputable def tM:Expr->Bool
 | .Set _ _ _=>true
 | _=>false
noncomputable def cE(kn names:List (Str×NameKind)):List (Str×NameKind):=
 names.map fun (n,k)=>if (k== .free&&true&&kn.lookup n==some .cell) then (n,.cell) else (n,k)
noncomputable def Ig(K:KC)(scope:Scope)(x:Str)(fR:Nat)(iter:Expr):Bool:=
 scope.kind== .function&&scope.names.all (fun y=>y.2 != .cell)&&scope.names.all (fun y=>y.2 != .local||(scope.names.lookup y.1==some .local&&(y.1==x || !K.vn.contains y.1)))&&scope.names.lookup x==some .local &&
  K.vn[fR]?==some x&&scope.names.all (fun y=>y.2 != .free||K.kn.lookup y.1==some .cell) && !tM iter
noncomputable def Ps{α:Type}(b:Bool):List α->Bool
 | []=>b
 | _::_=>false
theorem HS{α:Type}{b:Bool}{l:List α}{P:List α->Prop}(h:Ps b l=true)(g:b=true->P []):P l:=by
 cases l with
 | nil=>exact g h
 | cons=>exact eJ h
noncomputable def au{α β:Type}(f:α->β->Bool):List α->List β->Bool
 | x::r,y::r'=>Ps (Ps (f x y) r') r
 | _,_=>false
theorem RY{α β:Type}{f:α->β->Bool}{xs:List α}{ys:List β}{P:List α->List β->Prop}(h:au f xs ys=true)(g: ∀ x y,f x y=true->P [x] [y]):P xs ys:=by
 cases xs with
 | nil=>exact eJ h
 | cons x r=>
  cases ys with
  | nil=>exact eJ h
  | cons y r'=>exact HS (P:=fun r=>P (x::r) (y::r')) h fun h=>HS (P:=fun r'=>P [x] (y::r')) h (g x y)
noncomputable def jo{α β:Type}(f:α->α->β->β->Bool):List α->List β->Bool
 | x::r,y::r'=>au (f x · y ·) r r'
 | _,_=>false
theorem WC{α β:Type}{f:α->α->β->β->Bool}{xs:List α}{ys:List β}{P:List α->List β->Prop}(h:jo f xs ys=true)(g: ∀ x x' y y',f x x' y y'=true->P [x,x'] [y,y']):P xs ys:=by
 cases xs with
 | nil=>exact eJ h
 | cons x r=>
  cases ys with
  | nil=>exact eJ h
  | cons y r'=>exact RY (P:=fun r r'=>P (x::r) (y::r')) h fun x' y'=>g x x' y y'
noncomputable def Vs:UnaryOp->Bool
 | .USub=>true
 | _=>false
noncomputable def JB:UnaryOp->Bool
 | .Not=>true
 | _=>false
noncomputable def I7:BoolOp->Bool
 | .And=>true
 | .Or=>false
inductive XV where
 | no
 | const(c:Const)
 | name(x:Str)
 | cQ(l:Expr)(o:Operator)(r:Expr)
 | un(o:UnaryOp)(x:Expr)
 | bool(o:BoolOp)(vs:List Expr)
 | cH(l:Expr)(os:List CmpOp)(rs:List Expr)
 | ite(c t f:Expr)
 | aM(es:List Expr)
 | list(es:List Expr)
 | dict(ks:List (Option Expr))(vs:List Expr)
 | aN(o:Expr)(x:Str)(p:Pos)
 | bP(o i:Expr)
 | sl(l u:Option Expr)
 | call(g:Expr)(as:List Expr)(p:Pos)
 | comp(gP t it:Expr)(ifs:List Expr)(sc:Scope)
noncomputable def af(v:XV):List Keyword->XV
 | []=>v
 | _::_=>.no
noncomputable def ag(v:XV):Option Expr->XV
 | none=>v
 | some _=>.no
noncomputable def av(f:Comprehension->XV):List Comprehension->XV
 | []=>.no
 | g::r=>match r with
  | []=>cR (g.is_async==0) (f g) .no
  | _::_=>.no
noncomputable def vw:Expr->XV
 | .Constant c _ _=>.const c
 | .Name x _=>.name x
 | .BinOp l o r _=>.cQ l o r
 | .UnaryOp o x _=>.un o x
 | .BoolOp o vs _=>.bool o vs
 | .Compare l os rs _=>.cH l os rs
 | .IfExp c t e _=>.ite c t e
 | .Tuple es _ _=>.aM es
 | .List es _=>.list es
 | .Dict ks vs _=>.dict ks vs
 | .Attribute o x p=>.aN o x p
 | .Subscript o i _=>.bP o i
 | .Slice l u o _=>ag (.sl l u) o
 | .Call g as ks p=>af (.call g as p) ks
 | .ListComp gP gs sc _=>av (fun g=>.comp gP g.target g.iter g.ifs sc) gs
 | _=>.no
noncomputable def XV.is(e:Expr):XV->Prop
 | .no=>True
 | .const c=>GW fun k p=>e= .Constant c k p
 | .name x=>jJ fun p=>e= .Name x p
 | .cQ l o r=>jJ fun p=>e= .BinOp l o r p
 | .un o x=>jJ fun p=>e= .UnaryOp o x p
 | .bool o vs=>jJ fun p=>e= .BoolOp o vs p
 | .cH l os rs=>jJ fun p=>e= .Compare l os rs p
 | .ite c t f=>jJ fun p=>e= .IfExp c t f p
 | .aM es=>GW fun k p=>e= .Tuple es k p
 | .list es=>jJ fun p=>e= .List es p
 | .dict ks vs=>jJ fun p=>e= .Dict ks vs p
 | .aN o x p=>e= .Attribute o x p
 | .bP o i=>jJ fun p=>e= .Subscript o i p
 | .sl l u=>jJ fun p=>e= .Slice l u none p
 | .call g as p=>e= .Call g as [] p
 | .comp gP t it ifs sc=>jJ fun p=>e= .ListComp gP [⟨t,it,ifs,0⟩] sc p
theorem fZ(e:Expr):(vw e).is e:=by
 cases e with
 | Constant|Tuple=>exact⟨_,_,rfl⟩
 | Name|BinOp|UnaryOp|BoolOp|Compare|IfExp|List|Dict|Subscript=>exact⟨_,rfl⟩
 | Attribute=>exact rfl
 | Slice l u o p=>cases o with
  | none=>exact⟨_,rfl⟩
  | some=>exact trivial
 | Call g as ks p=>cases ks with
  | nil=>exact rfl
  | cons=>exact trivial
 | ListComp gP gs sc p=>cases gs with
  | nil=>exact trivial
  | cons g r=>cases r with
   | cons=>exact trivial
   | nil=>
    show (cR (g.is_async==0) _ _:XV).is _;cases h:g.is_async==0 with
    | false=>exact trivial
    | true=>
     obtain⟨t,it,ifs,k⟩:=g;have e:k=0:=eq_of_beq h;subst e;exact⟨_,rfl⟩
 | _=>exact trivial
noncomputable def Zs:XV->Bool
 | .name _=>true
 | _=>false
noncomputable def sx:List Expr->Bool
 | []=>false
 | _::_=>true
noncomputable def ta:XV->Bool
 | .name _=>true
 | .aN _ _ _=>true
 | .bP _ _=>true
 | .dict _ _=>true
 | .call g as _=>Zs (vw g)&&sx as
 | _=>false
noncomputable def lF(e:Expr):Bool:=ta (vw e)
theorem Uf{o:Expr}{aN:Str}{env:Env}{x:Sem Value}(h:lF o=true):attributeBase o aN env x=x:=by
 have hi:=fZ o;unfold lF at h;revert h hi;cases vw o with
 | name|bP|dict=>intro _ hi;obtain⟨p,rfl⟩:=hi;rfl
 | aN=>intro _ hi;rw[show o=_ from hi];rfl
 | call g as p=>
  cases as with
  | nil=>exact fun h=>eJ (aD h).2
  | cons a r=>
   intro h hi;have h1:=(aD h).1;rw[show o=_ from hi];clear h hi;have hg:=fZ g;revert h1 hg;cases vw g with
   | name x=>intro _ hg;obtain⟨p,rfl⟩:=hg;rfl
   | _=>exact eJ
 | _=>exact eJ
theorem kT{M:Model}{A:Around}{E:Value->Shared->Prop}{s:Shared}{o:Expr}{aN:Str}{env:Env}{Q:Value->Shared->Prop}(h:lF o=true)(hq:wpAny M A (eval o env) Q E s):wpAny M A (attributeBase o aN env (eval o env)) Q E s:=(Uf h).symm▸hq
noncomputable def WZ:XV->Bool
 | .no=>true
 | _=>false
noncomputable def HF(e:Expr):Bool:=WZ (vw e)
noncomputable def iW(es:List Expr):Bool:=es.all fun e=> !HF e
noncomputable def ui:XV->Bool
 | .no=>true
 | .sl _ _=>true
 | _=>false
noncomputable def lA(e:Expr):Bool:=ui (vw e)
noncomputable def Uo:XV->Bool
 | .no=>true
 | .comp _ _ _ _ _=>true
 | _=>false
noncomputable def lZ(e:Expr):Bool:=Uo (vw e)
theorem zS{t:Type}{p:t->Prop}{q:Prop}(h:jJ p)(f: ∀ x,p x->q):q:=jJ.rec f h
theorem Ro{t u:Type}{p:t->u->Prop}{q:Prop}(h:GW p)(f: ∀ x y,p x y->q):q:=GW.rec f h
theorem Ed{e:Expr}{r:List Expr}{env:Env}(h:(!HF e)=true):starEach (e::r) env=(false,eval e env)::starEach r env:=by
 have hi:=fZ e;unfold HF at h;revert h hi;cases vw e with
 | no=>exact eJ
 | const|aM=>exact fun _ hi=>Ro hi fun _ _ e=>e▸rfl
 | aN|call=>exact fun _ hi=>(show e=_ from hi)▸rfl
 | _=>exact fun _ hi=>zS hi fun _ e=>e▸rfl
theorem wI{kX:Expr}{o i:Value}(h:lA kX=false):subscripted kX false o i=operate [o,i] (getItem o i):=by
 have hi:=fZ kX;unfold lA at h;revert h hi;cases vw kX with
 | no|sl=>exact fun h=>eJ h.symm
 | const|aM=>exact fun _ hi=>Ro hi fun _ _ e=>e▸rfl
 | aN|call=>exact fun _ hi=>(show kX=_ from hi)▸rfl
 | _=>exact fun _ hi=>zS hi fun _ e=>e▸rfl
theorem nC{env:Env}{value:Expr}{t:Option Expr}{l:Nat}(h:lZ value=false):swapsWith value t l env=pure false:=by
 have hi:=fZ value;unfold lZ at h;revert h hi;cases vw value with
 | no|comp=>exact fun h=>eJ h.symm
 | const|aM=>exact fun _ hi=>Ro hi fun _ _ e=>e▸rfl
 | aN|call=>exact fun _ hi=>(show value=_ from hi)▸rfl
 | _=>exact fun _ hi=>zS hi fun _ e=>e▸rfl
theorem Br(env:Env){es:List Expr}(h:iW es=true):starEach es env=es.map fun e=>(false,eval e env):=by
 induction es with
 | nil=>rfl
 | cons e r ih=>rw[List.map_cons,<- ih (aD h).2,Ed (aD h).1]
theorem fC(pos:Pos)(env:Env){es:List Expr}(h:iW es=true):backTo pos (starEach es env)=es.map fun e=>(false,eval e env):=by
 rw[Br env h];unfold backTo;rw[List.map_map];rfl
theorem oL(pos:Pos)(env:Env){es:List Expr}(h:iW es=true):(backTo pos (starEach es env)).any (·.1)=false:=by
 rw[fC pos env h,List.any_map];exact List.any_eq_false.mpr fun _ _=>Bool.false_ne_true
section
variable{prog:Program}{w:World}{A:Around}{E:Value->Shared->Prop}{s:Shared}{env:Env}
theorem Ag{value kX:Expr}{pos:Pos}{Q:Value->Shared->Prop}(hs:lA kX=false)
  (h:wpAny (model prog w) A (eval value env) (fun o s₁=>wpAny (model prog w) A (eval kX env) (fun i s₂=>SubscriptOn (model prog w) A o i Q E s₂) E s₁) E s):
  wpAny (model prog w) A (eval (.Subscript value kX pos) env) Q E s:=by
 rw[arm_eval_Subscript];refine wpAny_bind (wpAny_mono h (fun o s₁ h₁=>wpAny_bind (wpAny_holding (wpAny_mono h₁ (fun i s₂ h₂=>wpAny_bind (wpAny_standAt ?_)) fun _ _ x=>x))) fun _ _ x=>x);obtain⟨T,id,hl,hT,hg⟩:=h₂;refine wpAny_bind (tH hl hT ?_);rw[wI hs];exact wpAny_bind (wpAny_operating (wpAny_mono hg (fun r s₃ h₃=>wpAny_bind (wpAny_letTemporaryGo (wpAny_pure h₃))) fun _ _ x=>x))
theorem Af{value:Expr}{aN:Str}{pos:Pos}{Q:Value->Shared->Prop}(hn:lF value=true)
  (h:wpAny (model prog w) A (eval value env) (fun o s₁=>wpAny (model prog w) A (getAttr o aN true) Q E s₁) E s):wpAny (model prog w) A (eval (.Attribute value aN pos) env) Q E s:=by
 rw[arm_eval_Attribute];refine wpAny_bind (kT hn (wpAny_mono h (fun o s₁ h₁=>wpAny_bind (wpAny_standAt (wpAny_bind (wpAny_holding (wpAny_mono h₁ (fun r s₂ h₂=> ?_) fun _ _ x=>x))))) fun _ _ x=>x));exact wpAny_bind (wpAny_letTemporaryGo (wpAny_pure h₂))
end
noncomputable def JH:E->Bool
 | .aB v=>Vr v
 | _=>false
theorem Pt{e:E}{P:E->Prop}(h:JH e=true)(g:P (.aB .none)):P e:=by
 cases e with
 | aB v=>cases v<;>first|exact eJ h|exact g
 | _=>exact eJ h
noncomputable def Ib:XV->Bool
 | .name _=>true
 | .bP _ _=>true
 | _=>false
noncomputable def Xb(f:Expr->Bool)(g:Bool):Option Expr->Bool
 | none=>g
 | some x=>f x
noncomputable def Yt(f:Expr->Bool):List Expr->Bool
 | x::r=>Ps (f x) r
 | []=>false
theorem Mb{f:Expr->Bool}{l:List Expr}{P:List Expr->Prop}(h:Yt f l=true)(g: ∀ x,f x=true->P [x]):P l:=by
 cases l with
 | nil=>exact eJ h
 | cons x r=>exact HS (P:=fun r=>P (x::r)) h (g x)
noncomputable def Ij(f:Expr->List Expr->Bool):List Expr->Bool
 | x::xs=>f x xs
 | []=>false
theorem Dv{f:Expr->List Expr->Bool}{l:List Expr}{P:List Expr->Prop}(h:Ij f l=true)(g: ∀ x xs,f x xs=true->P (x::xs)):P l:=by
 cases l with
 | nil=>exact eJ h
 | cons x xs=>exact g x xs h
noncomputable def Q6(f:Expr->List (Option Expr)->Bool):List (Option Expr)->Bool
 | []=>false
 | x::xs=>match x with
  | some x=>f x xs
  | none=>false
theorem PC{f:Expr->List (Option Expr)->Bool}{l:List (Option Expr)}{P:List (Option Expr)->Prop}(h:Q6 f l=true)(g: ∀ x xs,f x xs=true->P (some x::xs)):P l:=by
 cases l with
 | nil=>exact eJ h
 | cons x xs=>cases x with
  | none=>exact eJ h
  | some x=>exact g x xs h
noncomputable def EM(f:Const->Bool)(g:Str->Bool):XV->Bool
 | .const c=>f c
 | .name x=>g x
 | _=>false
theorem Ki{f:Const->Bool}{g:Str->Bool}{v:XV}{P:XV->Prop}(h:EM f g v=true)(a: ∀ c,f c=true->P (.const c))(b: ∀ x,g x=true->P (.name x)):P v:=by
 cases v<;>first|exact eJ h|exact a _ h|exact b _ h
theorem Tw{f:Const->Bool}{g:Str->Bool}{e:Expr}{P:Expr->Prop}(h:EM f g (vw e)=true)(a: ∀ c k p,f c=true->P (.Constant c k p))(b: ∀ x p,g x=true->P (.Name x p)):P e:=
 Ki (P:=fun v=>v.is e->P e) h (fun c h1 i=>Ro i fun k p i=>i▸a c k p h1) (fun x h1 i=>zS i fun p i=>i▸b x p h1) (fZ e)
noncomputable def jO(f:Str->Bool):XV->Bool
 | .name x=>f x
 | _=>false
theorem Nc{f:Str->Bool}{v:XV}{P:XV->Prop}(h:jO f v=true)(g: ∀ x,f x=true->P (.name x)):P v:=by
 cases v<;>first|exact eJ h|exact g _ h
theorem rV{f:Str->Bool}{e:Expr}{P:Expr->Prop}(h:jO f (vw e)=true)(gg: ∀ x p,f x=true->P (.Name x p)):P e:=
 Nc (P:=fun v=>v.is e->P e) h (fun x h1 hi=>zS hi fun p hi=>hi▸gg x p h1) (fZ e)
noncomputable def NU(f:Expr->Operator->Expr->Bool):XV->Bool
 | .cQ l o r=>f l o r
 | _=>false
theorem Pz{f:Expr->Operator->Expr->Bool}{v:XV}{P:XV->Prop}(h:NU f v=true)(g: ∀ l o r,f l o r=true->P (.cQ l o r)):P v:=by
 cases v<;>first|exact eJ h|exact g _ _ _ h
theorem cm{f:Expr->Operator->Expr->Bool}{e:Expr}{P:Expr->Prop}(h:NU f (vw e)=true)(gg: ∀ l o r p,f l o r=true->P (.BinOp l o r p)):P e:=
 Pz (P:=fun v=>v.is e->P e) h (fun l o r h1 hi=>zS hi fun p hi=>hi▸gg l o r p h1) (fZ e)
noncomputable def P6(f:UnaryOp->Expr->Bool):XV->Bool
 | .un o x=>f o x
 | _=>false
theorem TH{f:UnaryOp->Expr->Bool}{v:XV}{P:XV->Prop}(h:P6 f v=true)(g: ∀ o x,f o x=true->P (.un o x)):P v:=by
 cases v<;>first|exact eJ h|exact g _ _ h
theorem kj{f:UnaryOp->Expr->Bool}{e:Expr}{P:Expr->Prop}(h:P6 f (vw e)=true)(gg: ∀ o x p,f o x=true->P (.UnaryOp o x p)):P e:=
 TH (P:=fun v=>v.is e->P e) h (fun o x h1 hi=>zS hi fun p hi=>hi▸gg o x p h1) (fZ e)
noncomputable def EL(f:BoolOp->List Expr->Bool):XV->Bool
 | .bool o vs=>f o vs
 | _=>false
theorem NV{f:BoolOp->List Expr->Bool}{v:XV}{P:XV->Prop}(h:EL f v=true)(g: ∀ o vs,f o vs=true->P (.bool o vs)):P v:=by
 cases v<;>first|exact eJ h|exact g _ _ h
theorem Ri{f:BoolOp->List Expr->Bool}{e:Expr}{P:Expr->Prop}(h:EL f (vw e)=true)(gg: ∀ o vs p,f o vs=true->P (.BoolOp o vs p)):P e:=
 NV (P:=fun v=>v.is e->P e) h (fun o vs h1 hi=>zS hi fun p hi=>hi▸gg o vs p h1) (fZ e)
noncomputable def JN(f:Expr->List CmpOp->List Expr->Bool):XV->Bool
 | .cH l os rs=>f l os rs
 | _=>false
theorem P0{f:Expr->List CmpOp->List Expr->Bool}{v:XV}{P:XV->Prop}(h:JN f v=true)(g: ∀ l os rs,f l os rs=true->P (.cH l os rs)):P v:=by
 cases v<;>first|exact eJ h|exact g _ _ _ h
theorem Wl{f:Expr->List CmpOp->List Expr->Bool}{e:Expr}{P:Expr->Prop}(h:JN f (vw e)=true)(gg: ∀ l os rs p,f l os rs=true->P (.Compare l os rs p)):P e:=
 P0 (P:=fun v=>v.is e->P e) h (fun l os rs h1 hi=>zS hi fun p hi=>hi▸gg l os rs p h1) (fZ e)
noncomputable def Na(f:Expr->Expr->Expr->Bool):XV->Bool
 | .ite c t x=>f c t x
 | _=>false
theorem P3{f:Expr->Expr->Expr->Bool}{v:XV}{P:XV->Prop}(h:Na f v=true)(g: ∀ c t x,f c t x=true->P (.ite c t x)):P v:=by
 cases v<;>first|exact eJ h|exact g _ _ _ h
theorem cn{f:Expr->Expr->Expr->Bool}{e:Expr}{P:Expr->Prop}(h:Na f (vw e)=true)(gg: ∀ c t x p,f c t x=true->P (.IfExp c t x p)):P e:=
 P3 (P:=fun v=>v.is e->P e) h (fun c t x h1 hi=>zS hi fun p hi=>hi▸gg c t x p h1) (fZ e)
noncomputable def DA(f:List Expr->Bool):XV->Bool
 | .aM es=>f es
 | _=>false
theorem P5{f:List Expr->Bool}{v:XV}{P:XV->Prop}(h:DA f v=true)(g: ∀ es,f es=true->P (.aM es)):P v:=by
 cases v<;>first|exact eJ h|exact g _ h
theorem Qm{f:List Expr->Bool}{e:Expr}{P:Expr->Prop}(h:DA f (vw e)=true)(gg: ∀ es k p,f es=true->P (.Tuple es k p)):P e:=
 P5 (P:=fun v=>v.is e->P e) h (fun es h1 hi=>Ro hi fun k p hi=>hi▸gg es k p h1) (fZ e)
noncomputable def HZ(f:List Expr->Bool):XV->Bool
 | .list es=>f es
 | _=>false
theorem Nb{f:List Expr->Bool}{v:XV}{P:XV->Prop}(h:HZ f v=true)(g: ∀ es,f es=true->P (.list es)):P v:=by
 cases v<;>first|exact eJ h|exact g _ h
theorem Wn{f:List Expr->Bool}{e:Expr}{P:Expr->Prop}(h:HZ f (vw e)=true)(gg: ∀ es p,f es=true->P (.List es p)):P e:=
 Nb (P:=fun v=>v.is e->P e) h (fun es h1 hi=>zS hi fun p hi=>hi▸gg es p h1) (fZ e)
noncomputable def HX(f:List (Option Expr)->List Expr->Bool):XV->Bool
 | .dict ks vs=>f ks vs
 | _=>false
theorem NY{f:List (Option Expr)->List Expr->Bool}{v:XV}{P:XV->Prop}(h:HX f v=true)(g: ∀ ks vs,f ks vs=true->P (.dict ks vs)):P v:=by
 cases v<;>first|exact eJ h|exact g _ _ h
theorem Wm{f:List (Option Expr)->List Expr->Bool}{e:Expr}{P:Expr->Prop}(h:HX f (vw e)=true)(gg: ∀ ks vs p,f ks vs=true->P (.Dict ks vs p)):P e:=
 NY (P:=fun v=>v.is e->P e) h (fun ks vs h1 hi=>zS hi fun p hi=>hi▸gg ks vs p h1) (fZ e)
noncomputable def BQ(f:Expr->Str->Pos->Bool):XV->Bool
 | .aN o x p=>f o x p
 | _=>false
theorem NT{f:Expr->Str->Pos->Bool}{v:XV}{P:XV->Prop}(h:BQ f v=true)(g: ∀ o x p,f o x p=true->P (.aN o x p)):P v:=by
 cases v<;>first|exact eJ h|exact g _ _ _ h
theorem OM{f:Expr->Str->Pos->Bool}{e:Expr}{P:Expr->Prop}(h:BQ f (vw e)=true)(gg: ∀ o x p,f o x p=true->P (.Attribute o x p)):P e:=
 NT (P:=fun v=>v.is e->P e) h (fun o x p h1 hi=>(show e=_ from hi)▸gg o x p h1) (fZ e)
noncomputable def C9(f:Expr->Expr->Bool):XV->Bool
 | .bP o i=>f o i
 | _=>false
theorem P2{f:Expr->Expr->Bool}{v:XV}{P:XV->Prop}(h:C9 f v=true)(g: ∀ o i,f o i=true->P (.bP o i)):P v:=by
 cases v<;>first|exact eJ h|exact g _ _ h
theorem Ql{f:Expr->Expr->Bool}{e:Expr}{P:Expr->Prop}(h:C9 f (vw e)=true)(gg: ∀ o i p,f o i=true->P (.Subscript o i p)):P e:=
 P2 (P:=fun v=>v.is e->P e) h (fun o i h1 hi=>zS hi fun p hi=>hi▸gg o i p h1) (fZ e)
noncomputable def TF(f:Option Expr->Option Expr->Bool):XV->Bool
 | .sl l u=>f l u
 | _=>false
theorem TG{f:Option Expr->Option Expr->Bool}{v:XV}{P:XV->Prop}(h:TF f v=true)(g: ∀ l u,f l u=true->P (.sl l u)):P v:=by
 cases v<;>first|exact eJ h|exact g _ _ h
theorem uq{f:Option Expr->Option Expr->Bool}{e:Expr}{P:Expr->Prop}(h:TF f (vw e)=true)(gg: ∀ l u p,f l u=true->P (.Slice l u none p)):P e:=
 TG (P:=fun v=>v.is e->P e) h (fun l u h1 hi=>zS hi fun p hi=>hi▸gg l u p h1) (fZ e)
noncomputable def uG(f:Expr->List Expr->Pos->Bool):XV->Bool
 | .call g as p=>f g as p
 | _=>false
theorem FZ{f:Expr->List Expr->Pos->Bool}{v:XV}{P:XV->Prop}(h:uG f v=true)(g: ∀ g as p,f g as p=true->P (.call g as p)):P v:=by
 cases v<;>first|exact eJ h|exact g _ _ _ h
theorem Jh{f:Expr->List Expr->Pos->Bool}{e:Expr}{P:Expr->Prop}(h:uG f (vw e)=true)(gg: ∀ g as p,f g as p=true->P (.Call g as [] p)):P e:=
 FZ (P:=fun v=>v.is e->P e) h (fun g as p h1 hi=>(show e=_ from hi)▸gg g as p h1) (fZ e)
noncomputable def BR(f:Expr->Expr->Expr->List Expr->Scope->Bool):XV->Bool
 | .comp gP t it ifs sc=>f gP t it ifs sc
 | _=>false
theorem NX{f:Expr->Expr->Expr->List Expr->Scope->Bool}{v:XV}{P:XV->Prop}(h:BR f v=true)(g: ∀ gP t it ifs sc,f gP t it ifs sc=true->P (.comp gP t it ifs sc)):P v:=by
 cases v<;>first|exact eJ h|exact g _ _ _ _ _ h
theorem OO{f:Expr->Expr->Expr->List Expr->Scope->Bool}{e:Expr}{P:Expr->Prop}(h:BR f (vw e)=true)(gg: ∀ gP t it ifs sc p,f gP t it ifs sc=true->P (.ListComp gP [⟨t,it,ifs,0⟩] sc p)):P e:=
 NX (P:=fun v=>v.is e->P e) h (fun gP t it ifs sc h1 hi=>zS hi fun p hi=>hi▸gg gP t it ifs sc p h1) (fZ e)
mutual
noncomputable def jF(kn:List (Str×NameKind))(K:KC):E->XV->Bool
 | .aB v,pe=>EM (fun c=>Up v c) (fun x=>sG x&&kn.lookup x==some .globalImplicit&&W4 K v x) pe
 | .aA i,pe=>jO (fun x=>sG x&&K.vn[i]?==some x&&(kn.lookup x==some .local||kn.lookup x==some .cell)) pe
 | .cQ op a b,pe=>NU (fun l o r=>o==xO op&&jF kn K a (vw l)&&jF kn K b (vw r)) pe
 | .neg a,pe=>P6 (fun o x=>Vs o&&jF kn K a (vw x)) pe
 | .not a,pe=>P6 (fun o x=>JB o&&jF kn K a (vw x)) pe
 | .and es,pe=>EL (fun o vs=>I7 o&&F9 kn K es vs) pe
 | .or es,pe=>EL (fun o vs=> !I7 o&&F9 kn K es vs) pe
 | .cH op a b,pe=>JN (fun l os rs=>au (fun o r=>o==lT op && !behindInMarks o r&&jF kn K a (vw l)&&jF kn K b (vw r)) os rs) pe
 | .tX Nd Km a b c,pe=>JN (fun l os rs=>jo (fun o1 o2 r1 r2=>o1==lT Nd&&o2==lT Km && !behindInMarks o2 r2&&jF kn K a (vw l)&&jF kn K b (vw r1)&&jF kn K c (vw r2)) os rs) pe
 | .ite c t f,pe=>Na (fun c' t' f'=>jF kn K c (vw c')&&jF kn K t (vw t')&&jF kn K f (vw f')) pe
 | .aM es,pe=>DA (fun es'=>iW es'&&F9 kn K es es') pe
 | .list es,pe=>HZ (fun es'=>iW es'&&F9 kn K es es') pe
 | .dict kvs,pe=>HX (fun CU vals=>decide (CU.length<=15)&&decide (CU.length=vals.length)&&ck kn K kvs CU vals) pe
 | .aN o a,pe=>BQ (fun o' x _=>lF o'&&K.an a==some x&&jF kn K o (vw o')) pe
 | .bP o i,pe=>C9 (fun o' i'=> !lA i'&&jF kn K o (vw o')&&jF kn K i (vw i')) pe
 | .kX o lo hi,pe=>C9 (fun o' s=>TF (fun l u=>jF kn K o (vw o')&&Xb (fun x=>jF kn K lo (vw x)) (JH lo) l&&Xb (fun x=>jF kn K hi (vw x)) (JH hi) u) (vw s)) pe
 | .call f args,pe=>uG (fun f' dK _=>Ib (vw f')&&iW dK&&decide (dK.length<30)&&jF kn K f (vw f')&&F9 kn K args dK) pe
 | .aJ o m args,pe=>uG (fun f' dK p=>BQ (fun o' x ap=>lF o'&&ap.endLine==p.line&&iW dK&&decide (dK.length<29)&&K.an m==some x&&jF kn K o (vw o')&&F9 kn K args dK) (vw f')) pe
 | .comp gP fR it,pe=>BR (fun fT t gR ifs scope=>jO (fun x=>ifs.isEmpty&&Ig { K with kn:=kn } scope x fR gR&&jF kn K it (vw gR)&&jF (cE kn scope.names) K gP (vw fT)) (vw t)) pe
 | .nH gP fR it c,pe=>BR (fun fT t gR ifs scope=>jO (fun x=>Yt (fun c'=>Ig { K with kn:=kn } scope x fR gR&&jF kn K it (vw gR)&&jF (cE kn scope.names) K gP (vw fT)&&jF (cE kn scope.names) K c (vw c')) ifs) (vw t)) pe
noncomputable def F9(kn:List (Str×NameKind))(K:KC):List E->List Expr->Bool
 | [],l=>l.isEmpty
 | e::es,l=>Ij (fun x xs=>jF kn K e (vw x)&&F9 kn K es xs) l
noncomputable def ck(kn:List (Str×NameKind))(K:KC):List E->List (Option Expr)->List Expr->Bool
 | [],ks,vs=>ks.isEmpty&&vs.isEmpty
 | [_],_,_=>false
 | k::v::r,ks,vs=>Q6 (fun k' ks=>Ij (fun v' vs=>jF kn K k (vw k')&&jF kn K v (vw v')&&ck kn K r ks vs) vs) ks
end
end Mine
namespace Mine
open PySem PySem.W PyProof.Rows PySem.SeqAt
structure FrOk(W:Wd)(μ:Mp)(h:Heap)(K:KC)(env:PySem.Env)(ρ:cP):Prop where
 kind:env.scope.kind= .function
 kn:env.scope.names=K.kn
 D4:env.globals=3
 blt:env.builtins=0
 ns: ∃ m,h.Ns env.locals m/\∀ (i:Nat) x v,K.vn[i]? = some x->ρ[i]? = some (some v)->K.kn.lookup x=some .local->∃ y,m x=some y/\aS W μ h v y
 cell: ∀ x,K.kn.lookup x=some .cell->CB (fun c _=>env.cells.lookup x=some c) (fun c u=>h.IsCell c u) (fun _ u=>∀ (i:Nat) v,K.vn[i]? = some x->ρ[i]? = some (some v)->∃ y,u=some y/\aS W μ h v y)
 HM: ¬ mM μ env.locals/\W.h0.get? env.locals=none
 lS: ∀ x c,env.cells.lookup x=some c->¬ mM μ c/\W.h0.get? c=none/\c≠env.locals/\∃ o,h.get? c=some o
theorem Ns.has{h:Heap}{a:Addr}{m:Str->Option Value}(x:h.Ns a m): ∃ o,h.get? a=some o:=let ⟨o,_,_,e,_⟩:=x;⟨o,e⟩
theorem Ns.eN{h h':Heap}{a:Addr}{m:Str->Option Value}(x:h.Ns a m)(hk: ∀ o,h.get? a=some o->h'.get? a=some o):h'.Ns a m:=let ⟨o,es,ep,e,r⟩:=x;⟨o,es,ep,hk o e,r⟩
theorem IsCell.eN{h h':Heap}{a:Addr}{u:Option Value}(x:h.IsCell a u)(hk: ∀ o,h.get? a=some o->h'.get? a=some o):h'.IsCell a u:=let ⟨o,e,r⟩:=x;⟨o,hk o e,r⟩
theorem Mv.TK{W:Wd}{X:Addr->Prop}{μ μ':Mp}{H':Hp}{h h':Heap}(m:Mv W X μ h μ' H' h'){a:Addr}{o:Obj}(ha: ¬ mM μ a)(e:h.get? a=some o): ¬ mM μ' a:=fun q=>ha (m.new a o q e)
theorem FrOk.je{W:Wd}{X:Addr->Prop}{μ μ':Mp}{H H':Hp}{h h':Heap}{K:KC}{env:PySem.Env}{ρ:cP}(st:St W μ H h)(f:FrOk W μ h K env ρ)(m:Mv W X μ h μ' H' h')(hX: ∀ a o,X a->h.get? a=some o->¬ yD o)
  (hL: ¬ X env.locals) (hC: ∀ x c,env.cells.lookup x=some c->¬ X c):FrOk W μ' h' K env ρ:=by
 obtain⟨mp,hn,hv⟩:=f.ns;obtain⟨o,ho⟩:=Ns.has hn;have tp:=m.Re st hX;refine⟨f.kind,f.kn,f.D4,f.blt,⟨mp,Ns.eN hn fun o e=>m.keep _ o f.HM.1 hL e,fun i x v h1 h2 h3=> ?_⟩,fun x hx=> ?_,⟨m.TK f.HM.1 ho,f.HM.2⟩,fun x c hc=> ?_⟩
 ·obtain⟨y,h4,h5⟩:=hv i x v h1 h2 h3
  exact⟨y,h4,h5.bJ m.mp tp⟩
 ·obtain⟨c,u,h1,h2,h3⟩:=f.cell x hx
  refine⟨c,u,h1,IsCell.eN h2 fun o e=>m.keep _ o (f.lS x c h1).1 (hC x c h1) e,fun i v h4 h5=> ?_⟩;obtain⟨y,h6,h7⟩:=h3 i v h4 h5;exact⟨y,h6,h7.bJ m.mp tp⟩
 ·obtain⟨h1,h2,h3,o,h4⟩:=f.lS x c hc
  exact⟨m.TK h1 h4,h2,h3,m.has c o h4⟩
theorem FrOk.mv{W:Wd}{μ μ':Mp}{H H':Hp}{h h':Heap}{K:KC}{env:PySem.Env}{ρ:cP}(st:St W μ H h)(f:FrOk W μ h K env ρ)(m:Mv W X0 μ h μ' H' h'):FrOk W μ' h' K env ρ:=f.je st m (fun _ _ q=>q.elim) id fun _ _ _=>id
theorem LP.step{W:Wd}{s:Shared}{μ μ':Mp}{H':Hp}{h':Heap}{tk:Nat}{r:V×Hp}{Q:Value->Shared->Prop}(k:LP W s μ r Q)(m:Mv W X0 μ s.heap μ' H' h'):LP W { s with heap:=h',toks:=tk } μ' r Q:=
 fun Xn MX cf v m2 hv=>k Xn MX cf v (m.trans m2) hv
noncomputable def Jl(W:Wd)(gl:Str->Option V):Prop:=∀ x v,gl x=some v->∃ y,aS W [] W.h0 v y/\((∃ mg,W.h0.Ns 3 mg/\mg x=some y)\/(∃ mg mb,W.h0.Ns 3 mg/\mg x=none/\W.h0.Ns 0 mb/\mb x=some y))
section
variable{W:Wd}{A:Around}{cl:Call}{K:KC}{env:PySem.Env}{ρ:cP}
noncomputable def Eo(W:Wd)(s:Shared)(μ:Mp)(P:PE)(Q:Value->Shared->Prop):Prop:=∀ v H',P v H'->LP W s μ (v,H') Q
noncomputable def Ce(W:Wd)(A:Around)(s:Shared)(μ:Mp)(t:Sem Value)(P:PE):Prop:=∀ Q E,Eo W s μ P Q->wpAny (Mo W) A t Q E s
theorem Eo.step{s:Shared}{μ μ':Mp}{H':Hp}{h':Heap}{tk:Nat}{P:PE}{Q:Value->Shared->Prop}(k:Eo W s μ P Q)(m:Mv W X0 μ s.heap μ' H' h'):Eo W { s with heap:=h',toks:=tk } μ' P Q:=fun v H p=>(k v H p).step m
theorem Eo.gM{s:Shared}{μ:Mp}{H:Hp}{P:PE}{v:V}{y:Value}{tk:Nat}{Q:Value->Shared->Prop}(r:Eo W s μ P Q)(p:P v H)(st:St W μ H s.heap)(hv:aS W μ s.heap v y):Q y { s with toks:=tk }:=(r v H p).gM st hv
theorem Eo.mX{s:Shared}{μ:Mp}{H:Hp}{P:PE}{v:V}{y:Value}{Q:Value->Shared->Prop}(r:Eo W s μ P Q)(p:P v H)(st:St W μ H s.heap)(hv:aS W μ s.heap v y):Q y s:=(r v H p).mX st hv
noncomputable def aT(W:Wd)(A:Around)(cl:Call)(K:KC)(env:PySem.Env)(ρ:cP)(e:E)(pe:Expr):Prop:=
 ∀ {H μ} {s:Shared} {P:PE},FrOk W μ s.heap K env ρ->St W μ H s.heap->wE W.G cl e ρ H P->Ce W A s μ (eval pe env) P
noncomputable def Xw(W:Wd)(s:Shared)(μ:Mp)(P:List V->Hp->Prop)(Q:List Value->Shared->Prop):Prop:=∀ vs H',P vs H'->∀ μ' h' tk ys,Mv W X0 μ s.heap μ' H' h'->aO W μ' h' vs ys->Q ys { s with heap:=h',toks:=tk }
noncomputable def Rq(W:Wd)(A:Around)(cl:Call)(K:KC)(env:PySem.Env)(ρ:cP)(es:List E)(UL:List Expr):Prop:=
 ∀ {H μ} {s:Shared} {P:List V->Hp->Prop},FrOk W μ s.heap K env ρ->St W μ H s.heap->Oo W.G cl es ρ H P->∀ Q E,Xw W s μ P Q->MK (Mo W) A env E UL Q s
theorem Ju{v:V}{c:Const}{k:Nat}{pos:Pos}(h:Up v c=true):aT W A cl K env ρ (.aB v) (.Constant c k pos):=fun f st w Q E q=>by
 cases v with
 | none=>cases c<;>first|exact eJ h|exact wpAny_pure (q.mX w st .none)
 | bool b=>cases c<;>first|exact eJ h|exact eq_of_beq h▸wpAny_pure (q.mX w st (.bool _))
 | int i=>cases c<;>first|exact eJ h|exact eq_of_beq h▸wpAny_Constant_int (q.gM w st (.int _ _))
 | str z=>cases c<;>first|exact eJ h|exact eq_of_beq h▸Calls.Constant_str (q.gM w st (.str _ _))
 | _=>exact eJ h
theorem BO{x:Str}(h:sG x=true):(x==("__debug__":Str))=false:=by simpa [sG] using h
theorem SJ{v:V}{x:Str}(h:W4 K v x=true):K.gl x=some v:=by
 unfold W4 at h;cases hq:K.gl x with
 | none=>rw[hq] at h;exact eJ h
 | some v'=>rw[hq] at h;rw[Rh h]
theorem Lr{v:V}{x:Str}{pos:Pos}(gl:Jl W K.gl)(hd:sG x=true)(hk:K.kn.lookup x=some .globalImplicit)(h:W4 K v x=true):aT W A cl K env ρ (.aB v) (.Name x pos):=fun f st w Q E q=>by
 obtain⟨y,hr,hy⟩:=gl x v (SJ h);refine Calls.Name_function_global f.kind (by unfold Env.kindOf;rw[f.kn];exact hk) ?_ (BO hd);have hq:=q.mX w st (hr.bJ (fun i p q=>cY q) st.cg);rcases hy with⟨mg,h1,h2⟩|⟨mg,mb,h1,h2,h3,h4⟩
 ·exact Calls.loadGlobal_global (f.D4▸kY st h1) h2 hq
 ·exact Calls.loadGlobal_builtin (f.D4▸kY st h1) h2 (f.blt▸kY st h3) h4 hq
theorem C3{ρ:cP}{i:Nat}{v:V}(h:HN ρ i=some v):ρ[i]? = some (some v):=Option.join_eq_some_iff.mp h
theorem FrOk.Su{μ:Mp}{h:Heap}(f:FrOk W μ h K env ρ){x:Str}{k:Option NameKind}(e:K.kn.lookup x=k):env.kindOf x=k:=by unfold Env.kindOf;rw[f.kn];exact e
theorem O2{i:Nat}{x:Str}{pos:Pos}(hd:sG x=true)(hi:K.vn[i]? = some x)(hk:K.kn.lookup x=some .local\/K.kn.lookup x=some .cell):aT W A cl K env ρ (.aA i) (.Name x pos):=fun f st w Q E q=>by
 obtain⟨v,hv,w⟩:=w.ok;have hv:=C3 hv;refine wpAny_Name ?_ (BO hd);rcases hk with hk|hk
 ·obtain⟨m,hn,hm⟩:=f.ns
  obtain⟨y,h1,h2⟩:=hm i x v hi hv hk;exact wpAny_loadName_local f.kind (f.Su hk) hn h1 (q.mX w st h2)
 ·obtain⟨c,u,h1,h2,h3⟩:=f.cell x hk
  obtain⟨y,rfl,h5⟩:=h3 i v hi hv;exact wpAny_loadName_cell f.kind (f.Su hk) h1 h2 (q.mX w st h5)
theorem Oy{op:GN}{a b:E}{l r':Expr}{pos:Pos}(ha:aT W A cl K env ρ a l)(hb:aT W A cl K env ρ b r'):aT W A cl K env ρ (.cQ op a b) (.BinOp l (xO op) r' pos):=fun f st w Q E q=>
 wpAny_BinOp (ha f st w _ _ fun x H1 w1 μ1 h1 tk1 v m1 hv=>hb (f.mv st m1) m1.st w1 _ _ fun y H2 w2 μ2 h2 tk2 u m2 hu=>by
  obtain⟨r,e,w3⟩:=w2.ok;exact Gm m2.st (hv.mv m1.st m2) hu e _ _ (((q r.1 r.2 w3).step m1).step m2))
theorem O3{a:E}{x:Expr}{pos:Pos}(ha:aT W A cl K env ρ a x):aT W A cl K env ρ (.neg a) (.UnaryOp .USub x pos):=fun f st w Q E q=>
 wpAny_UnaryOp (ha f st w _ _ fun x H1 w1 μ1 h1 tk1 v m1 hv=>by
  obtain⟨i,hi,w2⟩:=w1.ok;rw[dW hi] at hv;obtain⟨t,rfl⟩:=hv.dF;exact PySem.P.neg_int ((q.step m1).gM w2 m1.st (.int _ _)))
noncomputable def GU(W:Wd)(s:Shared)(μ:Mp)(P:Bool->Hp->Prop)(Q:Bool->Shared->Prop):Prop:=∀ b H',P b H'->∀ μ' h' tk,Mv W X0 μ s.heap μ' H' h'->Q b { s with heap:=h',toks:=tk }
noncomputable abbrev WD(P:Bool->Hp->Prop):PE:=fun v h=>cJ (Jg v) fun b=>P b h
noncomputable def UT(W:Wd)(A:Around)(cl:Call)(K:KC)(env:PySem.Env)(ρ:cP)(e:E)(pe:Expr):Prop:=
 ∀ {H μ} {s:Shared} {P:Bool->Hp->Prop},FrOk W μ s.heap K env ρ->St W μ H s.heap->wE W.G cl e ρ H (WD P)->∀ Q E,GU W s μ P Q->wpAny (Mo W) A (isTrue pe env (eval pe env)) Q E s
structure gA(W:Wd)(A:Around)(cl:Call)(K:KC)(env:PySem.Env)(ρ:cP)(e:E)(pe:Expr):Prop where
 ev:aT W A cl K env ρ e pe
 tv:UT W A cl K env ρ e pe
theorem GU.step{s:Shared}{μ μ':Mp}{H':Hp}{h':Heap}{tk:Nat}{P:Bool->Hp->Prop}{Q:Bool->Shared->Prop}(k:GU W s μ P Q)(m:Mv W X0 μ s.heap μ' H' h'):GU W { s with heap:=h',toks:=tk } μ' P Q:=fun b H p μ2 h2 tk2 m2=>k b H p μ2 h2 tk2 (m.trans m2)
theorem GU.gM{s:Shared}{μ:Mp}{H:Hp}{P:Bool->Hp->Prop}{b:Bool}{tk:Nat}{Q:Bool->Shared->Prop}(r:GU W s μ P Q)(p:P b H)(st:St W μ H s.heap):Q b { s with toks:=tk }:=r b H p μ s.heap tk (.refl st)
noncomputable def TN:XV->Bool
 | .un o _=> !JB o
 | .bool _ _=>false
 | .ite _ _ _=>false
 | .cH _ _ _=>false
 | _=>true
noncomputable def Ni(e:Expr):Bool:=TN (vw e)
theorem EA{pe:Expr}{Rn:Sem Value}(h:Ni pe=true):isTrue pe env Rn=(do let v <- Rn;standAt pe.pos;holding [v] (truthy v)):=by
 cases pe with
 | UnaryOp op x p=>cases op<;>first|rfl|exact eJ h
 | _=>first|rfl|exact eJ h
theorem aT.tV{e:E}{pe:Expr}(hp:Ni pe=true)(h:aT W A cl K env ρ e pe):gA W A cl K env ρ e pe:=⟨h,fun {H μ s P} f st w Q E q=>by
 rw[EA hp];refine wpAny_bind (h (P:=WD P) f st w _ _ fun x H1 w1 μ' h' tk v m hv=> ?_);obtain⟨b,hb,w2⟩:=w1.ok;rw[B4 hb] at hv;rw[show v=_ from hv.dF];exact wpAny_bind (wpAny_standAt (wpAny_holding (wpAny_truthy_bool (q b _ w2 μ' h' tk m))))⟩
inductive IT(P:E->Expr->Prop):List E->List Expr->Prop where
 | nil:IT P [] []
 | cons{e:E}{x:Expr}{es:List E}{xs:List Expr}(h:P e x)(t:IT P es xs):IT P (e::es) (x::xs)
theorem IT.Dy{es:List E}{xs:List Expr}(a:IT (gA W A cl K env ρ) es xs):Rq W A cl K env ρ es xs:=by
 induction a with
 | nil=>exact fun f st w Q E q=>q [] _ w _ _ _ [] (.refl st) .nil
 | cons h t ih=>
  exact fun f st w Q E q=>h.ev f st w _ _ fun x H1 w1 μ1 h1 tk1 y m1 hv=>ih (f.mv st m1) m1.st w1 _ _ fun xs H2 w2 μ2 h2 tk2 ys m2 Ze=>q _ _ w2 μ2 h2 tk2 _ (m1.trans m2) (.cons (hv.mv m1.st m2) Ze)
theorem O4{a:E}{x:Expr}{pos:Pos}(ha:gA W A cl K env ρ a x):gA W A cl K env ρ (.not a) (.UnaryOp .Not x pos):=by
 refine⟨fun f st w Q E q=> ?_,fun f st w Q E q=>wpAny_isTrue_Not (ha.tv f st w _ _ fun b H1 w1 μ1 h1 tk1 m1=>q (!b) _ w1 μ1 h1 tk1 m1)⟩;refine wpAny_UnaryOp (ha.ev f st w _ _ fun x H1 w1 μ1 h1 tk1 v m1 hv=> ?_);obtain⟨b,hb,w2⟩:=w1.ok;rw[B4 hb] at hv;rw[show v=_ from hv.dF];unfold unaryOp;refine wpAny_holding ?_;show wpAny _ _ (if (UnaryOp.Not==UnaryOp.Not)=true then (truthy (Value.bool b) >>= fun c=>pure (Value.bool (!c))) else _) _ _ _;rw[if_pos (by rfl)];exact wpAny_bind (wpAny_truthy_bool (wpAny_pure ((q.step m1).mX w2 m1.st (.bool _))))
noncomputable def I6:Bool->BoolOp
 | true=>.And
 | false=>.Or
noncomputable def Wo(G:Cx)(cl:Call)(a:Bool)(es:List E)(ρ:cP)(h:Hp)(Q:PE):Prop:=cR a (Tz G cl es ρ h Q) (co G cl es ρ h Q)
theorem Jk{G:Cx}{a:Bool}{e:E}{h:Hp}{Q:PE}(w:Wo G cl a [e] ρ h Q):wE G cl e ρ h (WD fun b=>Q (.bool b)):=by
 cases a with
 | true=>exact w
 | false=>exact w
theorem GD{G:Cx}{a:Bool}{e e':E}{es:List E}{h:Hp}{Q:PE}(w:Wo G cl a (e::e'::es) ρ h Q):wE G cl e ρ h (WD fun b h1=>cR (b==a) (Wo G cl a (e'::es) ρ h1 Q) (Q (.bool b) h1)):=by
 have m: ∀ {P P':PE},(∀ v h,P v h=P' v h)->wE G cl e ρ h P->wE G cl e ρ h P':=fun hp w=>(funext fun v=>funext fun h=>hp v h)▸w;cases a with
 | true=>exact m (fun v h=>by cases v<;>first|rfl|(rename_i b;cases b<;>rfl)) w
 | false=>exact m (fun v h=>by cases v<;>first|rfl|(rename_i b;cases b<;>rfl)) w
set_option tactic.hygienic true in
theorem Cn{pos:Pos}{a:Bool}{es:List E}{xs:List Expr}(al:IT (gA W A cl K env ρ) es xs): ∀ {H μ} {s:Shared} {P:PE},FrOk W μ s.heap K env ρ->St W μ H s.heap->Wo W.G cl a es ρ H P->Ce W A s μ (boolOp pos (I6 a) (evalEach xs env)) P:=by
 induction al with
 | nil=>exact fun f st w=>by cases a<;>exact w.elim
 | cons h t ih=>
  rename_i e x es xs
  intro H μ s P f st w Q E q;cases t with
  | nil=>
   refine h.ev f st (Jk w) Q E fun v H' p=> ?_;obtain⟨b,hb,w2⟩:=p.ok;rw[B4 hb];exact q _ _ w2
  | cons h2 t2=>
   rename_i e2 x2 es2 uu
   have body:wpAny (Mo W) A (eval x env) (fun v s'=>wpAny (Mo W) A (do
    standAt pos
    let t <- holding [v] (truthy v)
    match I6 a,t with
    | .And,false | .Or,true=>pure v
    | _,_=>boolOp pos (I6 a) (evalEach (x2::uu) env)) Q E s') E s:=h.ev f st (GD w) _ _ fun v H1 w1 μ1 h1 tk1 y m1 hv=>by
     obtain⟨b,hb,w2⟩:=w1.ok;rw[B4 hb] at hv;rw[show y=_ from hv.dF];refine wpAny_bind (wpAny_standAt (wpAny_bind (wpAny_holding (wpAny_truthy_bool ?_))));cases a<;>cases b
     ·exact ih (f.mv st m1) m1.st w2 Q E (q.step m1)
     ·exact wpAny_pure ((q.step m1).mX w2 m1.st (.bool _))
     ·exact wpAny_pure ((q.step m1).mX w2 m1.st (.bool _))
     ·exact ih (f.mv st m1) m1.st w2 Q E (q.step m1)
   exact wpAny_bind body
theorem AI{a:Bool}{es:List E}{xs:List Expr}(al:IT (gA W A cl K env ρ) es xs): ∀ {H μ} {s:Shared} {P:Bool->Hp->Prop},FrOk W μ s.heap K env ρ->St W μ H s.heap->Wo W.G cl a es ρ H (WD P)->∀ Q E,GU W s μ P Q->wpAny (Mo W) A (allTrue (I6 a) xs env) Q E s:=by
 induction al with
 | nil=>exact fun f st w=>by cases a<;>exact w.elim
 | cons h t ih=>
  intro H μ s P f st w Q E q;rw[arm_allTrue_cons];cases t with
  | nil=>
   refine wpAny_bind (h.tv f st (Jk w) _ _ fun b H1 w1 μ1 h1 tk1 m1=> ?_);have q1:Q b _:=q b _ w1 μ1 h1 tk1 m1;cases a<;>cases b<;>exact wpAny_pure q1
  | cons h2 t2=>
   refine wpAny_bind (h.tv f st (GD w) _ _ fun b H1 w1 μ1 h1 tk1 m1=> ?_);cases a<;>cases b
   ·exact ih (f.mv st m1) m1.st w1 Q E (q.step m1)
   ·exact wpAny_pure (q _ _ w1 μ1 h1 tk1 m1)
   ·exact wpAny_pure (q _ _ w1 μ1 h1 tk1 m1)
   ·exact ih (f.mv st m1) m1.st w1 Q E (q.step m1)
theorem Ox{es:List E}{xs:List Expr}{pos:Pos}(h:IT (gA W A cl K env ρ) es xs):gA W A cl K env ρ (.and es) (.BoolOp .And xs pos):=
 ⟨fun f st w=>by rw[arm_eval_BoolOp];exact Cn (a:=true) h f st w,fun f st w=>by rw[arm_isTrue_BoolOp];exact AI (a:=true) h f st w⟩
theorem Ry{es:List E}{xs:List Expr}{pos:Pos}(h:IT (gA W A cl K env ρ) es xs):gA W A cl K env ρ (.or es) (.BoolOp .Or xs pos):=
 ⟨fun f st w=>by rw[arm_eval_BoolOp];exact Cn (a:=false) h f st w,fun f st w=>by rw[arm_isTrue_BoolOp];exact AI (a:=false) h f st w⟩
theorem Oz{op:Rp}{a b:E}{l r':Expr}{pos:Pos}(wo:WOk W)(hu:A.units+21<cLine)(hm:behindInMarks (lT op) r'=false)(ha:aT W A cl K env ρ a l)(hb:aT W A cl K env ρ b r'):gA W A cl K env ρ (.cH op a b) (.Compare l [lT op] [r'] pos):=by
 refine⟨fun f st w Q E q=> ?_,fun {H μ s P} f st w Q E q=> ?_⟩
 ·refine wpAny_Compare1 (ha f st w _ _ fun x H1 w1 μ1 h1 tk1 v m1 hv=>hb (f.mv st m1) m1.st w1 _ _ fun y H2 w2 μ2 h2 tk2 u m2 Mw=> ?_) hm
  obtain⟨c,hc,w3⟩:=w2.ok;exact jK wo hu m2.st (hv.mv m1.st m2) Mw hc fun tk=>((q.step m1).step m2).gM w3 m2.st (.bool _)
 ·refine wpAny_isTrue_Compare1 (ha (P:=fun x h=>wE W.G cl b ρ h fun y h=>cJ (vE W.G op x y h) fun r=>P r h) f st w _ _ fun x H1 w1 μ1 h1 tk1 v m1 hv=>hb (f.mv st m1) m1.st w1 _ _ fun y H2 w2 μ2 h2 tk2 u m2 Mw=> ?_) hm
  obtain⟨c,hc,w3⟩:=w2.ok;exact jK wo hu m2.st (hv.mv m1.st m2) Mw hc fun tk=>wpAny_truthy_bool (q _ _ w3 μ2 h2 tk (m1.trans m2))
theorem Lo{Nd Km:Rp}{a b c:E}{l r1 r2:Expr}{pos:Pos}(wo:WOk W)(hu:A.units+21<cLine)(hm:behindInMarks (lT Km) r2=false)(ha:aT W A cl K env ρ a l)(hb:aT W A cl K env ρ b r1)(hc:aT W A cl K env ρ c r2):
  gA W A cl K env ρ (.tX Nd Km a b c) (.Compare l [lT Nd,lT Km] [r1,r2] pos):=by
 have XK:markedEach [lT Nd,lT Km] [r1,r2] (evalEach [r1,r2] env)=[eval r1 env,eval r2 env]:=by
  show eval r1 env::[markedBehindIn (lT Km) r2 (eval r2 env)]=_;rw[markedBehindIn_of_false hm]
 refine⟨fun f st w Q E q=> ?_,fun {H μ s P} f st w Q E q=> ?_⟩
 ·rw[arm_eval_Compare,XK]
  refine wpAny_bind (ha f st w _ _ fun x H1 w1 μ1 h1 tk1 v m1 hv=>wpAny_bind (wpAny_holding (hb (f.mv st m1) m1.st w1 _ _ fun y H2 w2 μ2 h2 tk2 u m2 Mw=> ?_)));refine wpAny_bind (wpAny_standAt (wpAny_bind (wpAny_holding ?_)));obtain⟨r,hr,w3⟩:=w2.ok;refine jK wo hu m2.st (hv.mv m1.st m2) Mw hr fun tk=> ?_;refine wpAny_bind (wpAny_release (wpAny_bind (wpAny_holding (wpAny_truthy_bool ?_))));cases r with
  | true=>
   refine wpAny_bind (wpAny_holding (hc ((f.mv st m1).mv m1.st m2) m2.st w3 _ _ fun z H3 w4 μ3 h3 OJ u3 m3 Za=> ?_));refine wpAny_bind (wpAny_standAt (wpAny_operating ?_));obtain⟨d,hd,w5⟩:=w4.ok;exact jK wo hu m3.st (Mw.mv m2.st m3) Za hd fun tk=>(((q.step m1).step m2).step m3).gM w5 m3.st (.bool _)
  | false=>exact wpAny_pure (((q.step m1).step m2).gM w3 m2.st (.bool _))
 ·rw[arm_isTrue_Compare,XK]
  refine wpAny_bind (ha (P:=fun x h=>wE W.G cl b ρ h fun y h=>cJ (vE W.G Nd x y h) fun r=>cR r (wE W.G cl c ρ h fun z h=>cJ (vE W.G Km y z h) fun r=>P r h) (P false h)) f st w _ _ fun x H1 w1 μ1 h1 tk1 v m1 hv=>wpAny_bind (wpAny_holding (hb (f.mv st m1) m1.st w1 _ _ fun y H2 w2 μ2 h2 tk2 u m2 Mw=> ?_)));refine wpAny_bind (wpAny_standAt (wpAny_bind (wpAny_holding ?_)));obtain⟨r,hr,w3⟩:=w2.ok;refine jK wo hu m2.st (hv.mv m1.st m2) Mw hr fun tk=> ?_;refine wpAny_bind (wpAny_release (wpAny_bind (wpAny_holding (wpAny_truthy_bool ?_))));cases r with
  | true=>
   refine wpAny_bind (wpAny_holding (hc ((f.mv st m1).mv m1.st m2) m2.st w3 _ _ fun z H3 w4 μ3 h3 OJ u3 m3 Za=> ?_));refine wpAny_bind (wpAny_standAt (wpAny_bind (wpAny_operating ?_)));obtain⟨d,hd,w5⟩:=w4.ok;exact jK wo hu m3.st (Mw.mv m2.st m3) Za hd fun tk=>wpAny_holding (wpAny_truthy_bool ((((q.step m1).step m2).step m3).gM w5 m3.st))
  | false=>exact wpAny_pure (((q.step m1).step m2).gM w3 m2.st)
theorem O1{c t f':E}{pc pt pf:Expr}{pos:Pos}(hc:gA W A cl K env ρ c pc)(ht:gA W A cl K env ρ t pt)(hf:gA W A cl K env ρ f' pf):gA W A cl K env ρ (.ite c t f') (.IfExp pc pt pf pos):=by
 refine⟨fun f st w Q E q=>wpAny_IfExp (hc.tv f st w _ _ fun b H1 w1 μ1 h1 tk1 m1=> ?_),fun {H μ s P} f st w Q E q=> ?_⟩
 ·cases b with
  | true=>exact ht.ev (f.mv st m1) m1.st w1 _ _ (q.step m1)
  | false=>exact hf.ev (f.mv st m1) m1.st w1 _ _ (q.step m1)
 ·rw[arm_isTrue_IfExp]
  refine wpAny_bind (hc.tv f st w _ _ fun b H1 w1 μ1 h1 tk1 m1=> ?_);cases b with
  | true=>exact ht.tv (f.mv st m1) m1.st w1 _ _ (q.step m1)
  | false=>exact hf.tv (f.mv st m1) m1.st w1 _ _ (q.step m1)
end
end Mine
namespace Mine
open PySem PySem.W PyProof.Rows PySem.SeqAt
noncomputable def kJ(W:Wd)(A:Around)(cl:Call):Prop:=
 ∀ {n np nv b args H μ} {s:Shared} {vals f P},W.G.kind n= .fn np nv b->W.eZ n=some f->St W μ H s.heap->aO W μ s.heap args vals->cl n args H P->Ce W A s μ (call f vals) P
noncomputable def OF(A:Around)(A':Around):Prop:=A'=A\/ ∃ C vals,A'=A.under (.builtin "type.__call__" ⟨.ref C::vals,[]⟩)
section
variable{W:Wd}{A:Around}{cl:Call}{K:KC}{env:PySem.Env}{ρ:cP}
theorem ML{vs:List V}(h:SA vs=true):vs.length<=most:=of_decide_eq_true h
theorem O5{es:List E}{xs:List Expr}{k:Nat}{pos:Pos}(hs:iW xs=true)(h:IT (gA W A cl K env ρ) es xs):aT W A cl K env ρ (.aM es) (.Tuple xs k pos):=fun f st w Q E q=>by
 rw[arm_eval_Tuple,fC pos env hs];refine wpAny_bind (wpAny_standAt (wpAny_bind (gY (h.Dy f st w _ _ fun vs H1 w1 μ1 h1 tk ys m hr=> ?_))));have hz:vs.length<=16000000:=ML (M0 w1).1;refine wpAny_newObj_type ?_ (by rw[hr.length] at hz;show ys.toArray.size<=sizeLine;rw[List.size_toArray,bU];lia);have m2:=Mv.newTuple (n:=0) (items:=ys.toArray) m.st hz hr;exact q _ _ (M0 w1).2 _ _ tk _ (m.trans m2.1) m2.2
theorem Ls{es:List E}{xs:List Expr}{pos:Pos}(hs:iW xs=true)(h:IT (gA W A cl K env ρ) es xs):aT W A cl K env ρ (.list es) (.List xs pos):=fun f st w Q E q=>by
 rw[arm_eval_List,fC pos env hs];refine wpAny_bind (wpAny_standAt (wpAny_bind (gY (h.Dy f st w _ _ fun vs H1 w1 μ1 h1 tk ys m hr=> ?_))));have hz:vs.length<=16000000:=ML (M0 w1).1;refine wpAny_newObj_type ?_ (by rw[hr.length] at hz;show ys.toArray.size<=sizeLine;rw[List.size_toArray,bU];lia);have m2:=Mv.newList (n:=0) (items:=ys.toArray) m.st hz hr;exact q _ _ (M0 w1).2 _ _ tk _ (m.trans m2.1) m2.2
theorem Lm{o:E}{a:Nat}{o':Expr}{x:Str}{pos:Pos}(wo:oH W)(hn:lF o'=true)(ha:W.an a=some x)(h:aT W A cl K env ρ o o'):aT W A cl K env ρ (.aN o a) (.Attribute o' x pos):=fun f st w Q E q=>
 Af hn (h f st w _ _ fun v H1 w1 μ1 h1 tk1 y m1 hv=>by
  obtain⟨u,e,w2⟩:=w1.ok;exact Es wo m1.st ha hv e _ _ ((q _ _ w2).step m1))
theorem Mz{x r:V}{i:Int}{v:Value}{s:Shared}{μ:Mp}{H:Hp}(wo:WOk W)(st:St W μ H s.heap)(hv:aS W μ s.heap x v)(hr:D8 W.G x i H=some r):AG (fun T id=>typeLookup (.type T) "__getitem__"=pure (some (.builtin id))) (fun T id=>s.TypeIs v T):=by
 cases x with
 | aM xs=>
  obtain⟨a,items,rfl,_,ht,_⟩:=hv.dF;exact⟨"tuple",_,slot_tuple_getitem.lookup,ht.is.typeIs⟩
 | ref l=>
  obtain⟨ob,hA,e⟩:=aK hr;cases ob with
  | list xs=>
   obtain⟨a,ia,rfl,_,hl,_⟩:=st.listAt hA hv;exact⟨"list",_,slot_list_getitem.lookup,hl.is.typeIs⟩
  | dict es ep=>
   obtain⟨d,kvs,n,rfl,_,_,hd,_⟩:=st.dictAt wo hA hv;exact⟨"dict",_,slot_dict_getitem.lookup,hd.dictOf.typeIs⟩
  | inst=>exact cY e
 | g n=>
  obtain⟨es,hA,e⟩:=aK hr;obtain⟨d,kvs,ep,rfl,_,hd,_⟩:=st.D0 wo (Gz hA) hv;exact⟨"dict",_,slot_dict_getitem.lookup,hd.dictOf.typeIs⟩
 | _=>exact cY hr
theorem O0{o i:E}{o' i':Expr}{pos:Pos}(wo:WOk W)(hs:lA i'=false)(ho:aT W A cl K env ρ o o')(hi:aT W A cl K env ρ i i'):aT W A cl K env ρ (.bP o i) (.Subscript o' i' pos):=fun f st w Q E q=>
 Ag hs (ho f st w _ _ fun x H1 w1 μ1 h1 tk1 v m1 hv=>hi (f.mv st m1) m1.st w1 _ _ fun k H2 w2 μ2 h2 tk2 u m2 hu=>by
  obtain⟨n,hn,w3⟩:=w2.ok;obtain⟨r,hr,w4⟩:=w3.ok;rw[dW hn] at hu;obtain⟨t,rfl⟩:=hu.dF;have hv:=hv.mv m1.st m2;obtain⟨T,id,k1,k2⟩:=Mz (s:=⟨h2,_,_,tk2,_⟩) wo m2.st hv hr;exact⟨T,id,k1,k2,Av wo m2.st hv hr _ E (((q _ _ w4).step m1).step m2)⟩)
noncomputable def Cd(W:Wd)(A:Around)(cl:Call)(K:KC)(env:PySem.Env)(ρ:cP)(e:E)(pe:Option Expr):Prop:=
 ∀ {H μ} {s:Shared} {P:PE},FrOk W μ s.heap K env ρ->St W μ H s.heap->wE W.G cl e ρ H P->Ce W A s μ (evalPart pe env) P
theorem Js:Cd W A cl K env ρ (.aB .none) none:=fun f st w Q E q=>by
 rw[evalPart_none];exact wpAny_pure (q.mX w st .none)
theorem Jt{e:E}{x:Expr}(h:aT W A cl K env ρ e x):Cd W A cl K env ρ e (some x):=fun f st w Q E q=>by
 rw[evalPart_some];exact h f st w Q E q
theorem Jv{o lo hi:E}{o':Expr}{l u:Option Expr}{p pos:Pos}(ho:aT W A cl K env ρ o o')(hl:Cd W A cl K env ρ lo l)(hu:Cd W A cl K env ρ hi u):aT W A cl K env ρ (.kX o lo hi) (.Subscript o' (.Slice l u none p) pos):=fun f st w Q E q=>
 Gx (ho f st w _ _ fun x H1 w1 μ1 h1 tk1 v m1 hv=>hl (f.mv st m1) m1.st w1 _ _ fun a H2 w2 μ2 h2 tk2 vl m2 Sj=>hu ((f.mv st m1).mv m1.st m2) m2.st w2 _ _ fun b H3 w3 μ3 h3 OJ vu m3 Zf=>by
  obtain⟨r,e,w4⟩:=w3.ok;exact Ec m3.st ((hv.mv m1.st m2).mv m2.st m3) (Sj.mv m2.st m3) Zf e ((((q _ _ w4).step m1).step m2).step m3))
theorem HH{C N:Addr}{p:Em}{s:Shared}(hC:s.heap.get? C=some (p.obj C N)):cN (Mo W) A (.ref C) s:=⟨.machine,fun Q E hq=>by
 obtain⟨hh,g,d,t,os⟩:=s;have f1:=tc_lookup;have hT:(⟨hh,g,d,t,os⟩:Shared).TypeIs (.ref C) "type":=⟨_,hC,rfl⟩;unfold keeperOf specialOf
 repeat (any_goals (first|assumption|with_reducible refine wpAny_loadPart_at hC ?_|with_reducible refine wpAny_load' hC ?_|wp_step))
 all_goals exact hq⟩
theorem NH{n:Nat}{C x dx:Addr}{h h1:Heap}{μ:Mp}{H:Hp}(st:St W μ H h)(hg:W.eZ n=some (.ref C))(hm:Heap.MadeObj h h1 x dx C):Mv W X0 μ h (μ++[(x,some dx)]) (H++[.inst n []]) h1:=by
 obtain⟨o,Zk,ij,qs,im⟩:=hm.inst;have gm:=hm.dict o Zk;rw[gm] at im;rcases im with⟨h2,_⟩|⟨d',h2,h3,h4⟩
 ·exact cY h2.symm
 ·rw[<- Option.some.inj h2] at h3 h4
  refine Mv.EI st hm.keeps (fun a ha=> ?_) (.inst (m:=fun _=>none) hg Zk ij qs h3 gm h4 ⟨fun _ _ _=>rfl,fun y hy=>(hy rfl).elim⟩) (fun a ha ob e=> ?_)
  ·rcases vU ha with e|e<;>rw[e]
   ·exact hm.newX
   ·exact hm.newD
  ·rcases vU ha with h|h
   ·rw[h,Zk] at e;exact Option.some.inj e▸yK ij
   ·obtain⟨o2,es,ep,e1,e2,_⟩:=h4
    rw[h,e1] at e;exact Option.some.inj e▸fG e2
noncomputable def Lb(W:Wd)(A:Around)(s:Shared)(μ:Mp)(f:Value)(vs:List Value)(P:PE):Prop:=cN (Mo W) A f s/\Ce W A s μ (call f vs) P
theorem GF{x:V}{f:Value}{xs:List V}{vs:List Value}{s:Shared}{μ:Mp}{H:Hp}{P:PE}(wo:oH W)(hh:A.handled=none)(hc: ∀ A',OF A A'->kJ W A' cl)(st:St W μ H s.heap)(hx:aS W μ s.heap x f)(KX:aO W μ s.heap xs vs)(w:OT W.G cl x xs H P):
  Lb W A s μ f vs P:=by
 cases x with
 | g n=>
  have hg:W.eZ n=some f:=hx.dF
  change (match W.G.kind n with | .fn _ _ _=>_ | .cls eF=>_ | .blt b=>_ | .jH _=>False | .kB _=>False | .cU=>False) at w
  cases hk:W.G.kind n with
  | fn np nv b=>
   rw[hk] at w;obtain⟨a,o,fd,h1,h2,h3⟩:=wo.Uu n np nv b hk;have e:f= .ref a:=Option.some.inj (hg.symm.trans h1);exact⟨e▸cN.func (st.iC _ _ h2) h3,hc A (.inl rfl) hk hg st KX w⟩
  | cls eF=>
   rw[hk] at w;obtain⟨C,N,mN,p,K⟩:=wo.cls n eF hk;have e:f= .ref C:=Option.some.inj (hg.symm.trans K.ga);obtain⟨np,nv,b,ot⟩:=wo.eF n eF hk;obtain⟨fI,oI,g8,g9,Wz,YW⟩:=K.eF;have hC:=st.iC _ _ K.obj;rw[e];refine⟨HH hC,fun Q E q=> ?_⟩;obtain⟨hp,g,d,t,os⟩:=s;refine wpAny_call_obj_init F.objNew hC (kY st K.ns) g9 (st.iC _ _ Wz) YW fun h1 x dx hm=> ?_;have m1:=NH st K.ga hm;have il:aS W (μ++[(x,some dx)]) h1 (.ref H.length) (.ref x):=.ref (p:=(x,some dx)) (by rw[<- st.len];simp);refine hc _ (.inr ⟨C,vs,rfl⟩) (s:=⟨h1,g,d,t,os⟩) ot g8 m1.st (.cons il (KX.mv st m1)) w _ _ fun v H2 w2 μ2 h2 tk2 y m2 hv=> ?_;rw[w2.1] at hv;exact⟨hv.dF,q _ _ w2.2 μ2 h2 tk2 (.ref x) (m1.trans m2) (il.mv m1.st m2)⟩
  | blt b=>
   rw[hk] at w;have e:f=O9 b:=Option.some.inj (hg.symm.trans (wo.blt n b hk));obtain⟨r,hr,w⟩:=w.ok;rw[e];exact⟨by cases b<;>first|exact cN.builtin|exact cN.type,fun Q E q=>E1 wo hh st KX hr _ _ (q _ _ w)⟩
  | jH=>rw[hk] at w;exact w.elim
  | kB=>rw[hk] at w;exact w.elim
  | cU=>rw[hk] at w;exact w.elim
 | _=>exact w.elim
end
end Mine
namespace Mine
open PySem PySem.W PyProof.Rows PySem.SeqAt
section
variable{W:Wd}{A:Around}{cl:Call}{K:KC}{env:PySem.Env}{ρ:cP}
theorem Ln{f:E}{args:List E}{f':Expr}{dK:List Expr}{pos:Pos}(wo:oH W)(hh:A.handled=none)(hc: ∀ A',OF A A'->kJ W A' cl)(hf:Ib (vw f')=true)(hs:iW dK=true)(h:aT W A cl K env ρ f f')(ha:IT (gA W A cl K env ρ) args dK):
  aT W A cl K env ρ (.call f args) (.Call f' dK [] pos):=fun {H μ s P} fr st w Q E q=>by
 have YE:eval (.Call f' dK [] pos) env=(do callWith pos (<- eval f' env) [] (backTo pos (starEach dK env)) []):=by
  have k:=fZ f';cases hv:vw f' with
  | name x=>rw[hv] at k;obtain⟨p,rfl⟩:=k;rfl
  | bP o i=>rw[hv] at k;obtain⟨p,rfl⟩:=k;rfl
  | _=>rw[hv] at hf;exact eJ hf
 rw[YE];refine wpAny_bind (h fr st w _ _ fun fv H1 w1 μ1 h1 tk1 v m1 hv=> ?_);refine oO (oL pos env hs) (oS (oL pos env hs) ?_);rw[fC pos env hs];refine gY (ha.Dy (fr.mv st m1) m1.st w1 _ _ fun vs H2 w2 μ2 h2 tk2 ys m2 hr=> ?_);have hv:=hv.mv m1.st m2;have k:=GF (s:= { s with heap:=h2,toks:=tk2 }) wo hh hc m2.st hv hr w2;exact⟨k.1,rfl,k.2 _ _ ((q.step m1).step m2)⟩
theorem aO.Zw{μ:Mp}{h:Heap}{xs:List V}{ys:List Value}{v:V}(r:aO W μ h xs ys)(e:xs.getLast? = some v):dO (fun y=>ys[ys.length - 1]? = some y) (fun y=>aS W μ h v y):=by
 rw[List.getLast?_eq_getElem?,r.length] at e;exact r.get e
theorem aO.dropLast{μ:Mp}{h:Heap}{xs:List V}{ys:List Value}(r:aO W μ h xs ys):aO W μ h xs.dropLast ys.dropLast:=by
 rw[List.dropLast_eq_take,List.dropLast_eq_take,r.length];exact r.take _
structure GM(W:Wd):Prop where
 append:W.an 0=some "append"
 pop:W.an 1=some "pop"
 extend:W.an 2=some "extend"
 get:W.an 3=some "get"
noncomputable def Z5:Nat->String
 | 0=>"list.append"
 | 1=>"list.pop"
 | _=>"list.extend"
theorem FN{l m:Nat}{xs args:List V}{vals:List Value}{a:Addr}{s:Shared}{μ:Mp}{H:Hp}{r:V×Hp}(st:St W μ H s.heap)(hA:H[l]? = some (.list xs))(hp:μ[l]? = some (a,none))(hr:aO W μ s.heap args vals)(e:vT l xs m args H=some r):
  DX W A s μ (call (.builtin (Z5 m)) (.ref a::vals)) r:=by
 obtain⟨a',items,e1,_,hl,Oj,hz⟩:=st.listAt hA (.ref (p:=(a,none)) hp);rw[<- Value.ref.inj e1] at hl;obtain⟨n,ho⟩:=id hl;have hz:items.size<=16000000:=hz;have bE:=Oj.size;intro Q E q
 match m,e with
 | 0,e=>
  obtain⟨v,rfl,e⟩:=mT e;obtain⟨kI,e⟩:=bH e;obtain⟨y,rfl,hv⟩:=hr.B8;have kI:xs.length<16000000:=of_decide_eq_true kI;rw[<- Option.some.inj e] at q;refine call_meets F.slot_list_append ⟨_,ho,rfl⟩ F.entry_list_append (F.args_list_append_2 _ _) (AutoListH.list_append_list_val_0 a items n _ (by rw[bU];lia)) ⟨ho,?_⟩;exact q _ _ s.toks _ (Mv.listUpdate st hp hl (by rw[List.length_append,lE];exact kI) (by rw[Array.toList_push];exact Oj.append (.cons hv .nil))) .none
 | 1,e=>
  cases args with
  | cons=>exact cY e
  | nil=>
   obtain⟨v,hv,e⟩:=aK e;rw[show vals=[] from hr.dF];obtain⟨y,hy,Zg⟩:=Oj.Zw hv;rw[Array.length_toList,Array.getElem?_toList] at hy;rw[<- Option.some.inj e] at q;have rZ:items.size - 1<items.size:=(Array.getElem?_eq_some_iff.mp hy).1;refine call_meets F.slot_list_pop ⟨_,ho,rfl⟩ F.entry_list_pop (F.args_list_pop_1 _) (MeetsSeq.list_pop_last a items n y hy (by rw[bU];lia)) ⟨ho,?_⟩;have m:=Mv.listUpdate (f:=fun xs=>xs.eraseIdxIfInBounds (items.size - 1)) (ys:=xs.dropLast) st hp hl (by rw[List.length_dropLast,lE];lia) (by
    rw[Array.eraseIdxIfInBounds,dif_pos rZ,Array.toList_eraseIdx,List.eraseIdx_eq_dropLast]
    ·exact Oj.dropLast
    ·rw[Array.length_toList];lia)
   exact q _ _ s.toks _ m (Zg.mv st m)
 | 2,e=>
  obtain⟨v,rfl,e⟩:=mT e;obtain⟨b,hb,e⟩:=aK e;obtain⟨ys,hB,e⟩:=aK e;obtain⟨hc,e⟩:=bH e;obtain⟨y,rfl,hv⟩:=hr.B8;rw[kR hb] at hv;obtain⟨a2,xH,rfl,zO,GI,uR,GK⟩:=st.listAt (eV hB) hv;obtain⟨n2,UD⟩:=id GI;have yG:=uR.size;have kI:xs.length+ys.length<=16000000:=of_decide_eq_true (aD hc).2;rw[<- Option.some.inj e] at q;refine call_meets F.slot_list_extend ⟨_,ho,rfl⟩ F.entry_list_extend (F.args_list_extend_2 _ _) (AutoSeq1.list_extend_list_list_0 a items n a2 xH n2 (by simp [Builtin.List.listTooLong,bU];lia) (by rw[bU];lia) (by rw[bU];lia)) ⟨ho,UD,?_⟩;exact q _ _ s.toks _ (Mv.listUpdate st hp hl (by rw[List.length_append];exact kI) (by rw[Array.toList_append];exact Oj.append uR)) .none
 | k+3,e=>exact cY e
theorem E4{l m:Nat}{p:List (Int×V)×Option Nat}{args:List V}{vals:List Value}{d:Addr}{s:Shared}{μ:Mp}{H:Hp}{r:V×Hp}(wo:WOk W)(st:St W μ H s.heap)(hA:H[l]? = some (.dict p.1 p.2))(hp:μ[l]? = some (d,none))(hr:aO W μ s.heap args vals)(e:ME p.1 m args H=some r):
  m=3/\DX W A s μ (call (.builtin "dict.get") (.ref d::vals)) r:=by
 obtain⟨d',kvs,n,e1,_,hs,hd,Ek,he⟩:=st.dictAt wo hA (.ref (p:=(d,none)) hp);rw[<- Value.ref.inj e1] at hd hs;obtain⟨h3,e⟩:=bH e;obtain⟨x,y,rfl,e⟩:=Dg e;obtain⟨k,hk,e⟩:=aK e;obtain⟨v,v1,rfl,hx,r1⟩:=hr.dF;obtain⟨u,rfl,hy⟩:=r1.B8;rw[dW hk] at hx;obtain⟨t,rfl⟩:=hx.dF;refine⟨Nat.eq_of_beq_eq_true h3,fun Q E q=> ?_⟩;rw[<- Option.some.inj e] at q;refine call_meetsIn F.slot_dict_get hd.dictOf.typeIs F.entry_dict_get (F.args_dict_get_3 _ _ _) (meets_dict_get_default (intKind W.prog W.w) d (intKind_is _ _ _ t) hs _) ⟨_,hd.dictOf.mapOf,?_⟩;rcases Ek.SB k with⟨h1,h2⟩|⟨p,y,h1,h2,hv⟩
 ·rw[h1] at q;rw[h2];exact q.gM st hy
 ·rw[h1] at q;rw[h2];exact q.gM st hv
theorem E5{o':Expr}{x:Str}{ap pos:Pos}{dK:List Expr}{s:Shared}{Q:Value->Shared->Prop}{E:Value->Shared->Prop}(hn:lF o'=true)(hl:(ap.endLine==pos.line)=true)(hs:iW dK=true)(hf:dK.length<29)
  (h:wpAny (Mo W) A (eval o' env) (fun ov s₁=>∀ pl,wpAny (Mo W) A (getMethod ov x pl) (fun p s₂=>wpAny (Mo W) A (callWith pos p.1 p.2 (dK.map fun e=>(false,eval e env)) []) Q E s₂) E s₁) E s):
  wpAny (Mo W) A (eval (.Call (.Attribute o' x ap) dK [] pos) env) Q E s:=by
 rw[arm_eval_Call];refine wpAny_bind (kT hn (wpAny_mono h (fun ov s₁ h₁=>wpAny_bind (wpAny_standAt ?_)) fun _ _ e=>e));have VD:methodCallForm (dK.length+([]:List Keyword).length) (backTo pos (starEach dK env)) (backToKw pos (keywordEach [] env))=true:=by
  unfold methodCallForm;rw[fC pos env hs];rw[List.all_map,show dK.all ((fun x=> !x.1)∘fun e=>(false,eval e env))=true from List.all_eq_true.mpr fun _ _=>rfl];exact decide_eq_true (Nat.lt_succ_of_lt hf)
 have mO:methodCallPos true o' env ap pos=pure pos:=by unfold methodCallPos;rw[hl];rfl
 unfold methodCall;rw[VD];refine wpAny_bind (wpAny_holding ?_);unfold calleeOf;rw[if_pos rfl];refine wpAny_mono (h₁ _) (fun p s₂ h₂=> ?_) fun _ _ e=>e;refine wpAny_bind (wpAny_of_eq mO ?_);rw[fC pos env hs];exact h₂
noncomputable def DZ(W:Wd)(A:Around)(μ1:Mp)(H1:Hp)(h1:Heap)(s:Shared)(p:Value×List Value)(Qf:Jn)(ov:V)(m:Nat)(cl:Call):Prop:=
 ∀ {μ2 h2 tk2 H2 vs ys P},Mv W X0 μ1 h1 μ2 H2 h2->aO W μ2 h2 vs ys->Rl W.G cl Qf ov m vs H2 P->Lb W A { s with heap:=h2,toks:=tk2 } μ2 p.1 (p.2++ys) P
theorem YI{m:Nat}{P:Nat->Prop}(h:Nat.ble m 2=true)(a:P 0)(b:P 1)(c:P 2):P m:=by
 cases m with
 | zero=>exact a
 | succ m=>cases m with
  | zero=>exact b
  | succ m=>cases m with
   | zero=>exact c
   | succ m=>exact eJ h
section
variable{s:Shared}{μ:Mp}{H:Hp}{w:Value}{m:Nat}{x:Str}{pl:Sem Bool}{Q:Value×List Value->Shared->Prop}{E:Value->Shared->Prop}{l:Nat}
theorem KM{xs:List V}(ao:GM W)(hm:W.an m=some x)(st:St W μ H s.heap)(ho:H[l]? = some (.list xs))(hw:aS W μ s.heap (.ref l) w)(hM:Nat.ble m 2=true)(q: ∀ p tk,DZ W A μ H s.heap s p .NG (.ref l) m cl->Q p { s with toks:=tk }):wpAny (Mo W) A (getMethod w x pl) Q E s:=by
 obtain⟨a,ia,rfl,hp,KT,hr,hz⟩:=st.listAt ho hw;obtain⟨n,PZ⟩:=id KT;have go: ∀ {id},Slot "list" x id->typeOf (.builtin id)=pure (.type "method_descriptor")->Z5 m=id->wpAny (Mo W) A (getMethod (.ref a) x pl) Q E s:=fun {id} sl ty om=>
  getMethod_builtin (T:="list") ⟨_,PZ,rfl⟩ F.plainAttrs_list sl ty (fun b hb=>by cases hb;exact⟨_,PZ,rfl⟩) (q _ _ fun {μ2 h2 tk2 H2 vs ys P} m2 uR w=>⟨cN.builtin,by
   obtain⟨cr,hA,w⟩:=w.ok;obtain⟨r,CQ,w⟩:=w.ok;exact fun Q E q=>om▸FN m2.st (eV hA) (m2.mp _ _ hp) uR CQ _ _ (q _ _ w)⟩)
 clear q hz hr hp PZ KT hw ho st;revert hm go;exact YI (P:=fun m=>W.an m=some x->(∀ {id},Slot "list" x id->typeOf (.builtin id)=pure (.type "method_descriptor")->Z5 m=id->_)->_) hM
  (fun hm go=>go (Option.some.inj (hm.symm.trans ao.append)▸F.slot_list_append) F.type_list_append rfl)
  (fun hm go=>go (Option.some.inj (hm.symm.trans ao.pop)▸F.slot_list_pop) F.type_list_pop rfl)
  (fun hm go=>go (Option.some.inj (hm.symm.trans ao.extend)▸F.slot_list_extend) F.type_list_extend rfl)
theorem KK{es:List (Int×V)}{ep:Option Nat}(wo:WOk W)(ao:GM W)(hm:W.an m=some x)(st:St W μ H s.heap)(ho:H[l]? = some (.dict es ep))(hw:aS W μ s.heap (.ref l) w)(m3:m=3)(q: ∀ p tk,DZ W A μ H s.heap s p .Ur (.ref l) m cl->Q p { s with toks:=tk }):wpAny (Mo W) A (getMethod w x pl) Q E s:=by
 obtain⟨d,kvs,n,rfl,hp,ZV,hd,Ek,he⟩:=st.dictAt wo ho hw;rw[m3] at hm;rw[Option.some.inj (hm.symm.trans ao.get)];obtain⟨o,es',PZ,Yy,_⟩:=id hd;refine getMethod_builtin (T:="dict") hd.dictOf.typeIs F.plainAttrs_dict F.slot_dict_get F.type_dict_get (fun b hb=>by cases hb;exact⟨_,PZ,Yy.2.1⟩) (q _ _ fun {μ2 h2 tk2 H2 vs ys P} m2 uR w=>⟨cN.builtin,?_⟩);obtain⟨p',hA,w⟩:=w.ok;obtain⟨r,CQ,w⟩:=w.ok;exact fun Q E q=>(E4 wo m2.st (vH hA) (m2.mp _ _ hp) uR CQ).2 _ _ (q _ _ w)
theorem KL{c:Nat}{fs:List (Nat×V)}(wo:oH W)(hc:kJ W A cl)(hm:W.an m=some x)(st:St W μ H s.heap)(ho:H[l]? = some (.inst c fs))(hw:aS W μ s.heap (.ref l) w)(Ma:((W.G.aJ c m).isSome&&(jZ fs m).isNone)=true)(q: ∀ p tk,DZ W A μ H s.heap s p (.UI c) (.ref l) m cl->Q p { s with toks:=tk }):wpAny (Mo W) A (getMethod w x pl) Q E s:=by
 obtain⟨fn,Og⟩:=Option.isSome_iff_exists.mp (aD Ma).1;have VX:=Option.isNone_iff_eq_none.mp (aD Ma).2;clear Ma;obtain⟨⟨i,hk⟩,np,nv,b,fu⟩:=wo.S6 c m fn Og;obtain⟨C,mp,ad,d,o,rfl,_,hI,XD,_,_,_,_,_,_,hr⟩:=st.M2 ho hw;obtain⟨C',N,mN,pp,K⟩:=wo.cls c i hk;have e:C'=C:=Value.ref.inj (Option.some.inj (K.ga.symm.trans XD));obtain⟨fa,Pw,y,ZA,tI,Mn,ZG,qk⟩:=K.aJ m fn x Og hm;have I3:=hr.1 m x hm;rw[VX] at I3;obtain⟨a',o',fd,re,rf,rh⟩:=wo.Uu fn np nv b fu;have ef:fa=a':=Value.ref.inj (Option.some.inj (tI.symm.trans re));obtain⟨I1,g,dr,uo,os⟩:=s;refine method_of (e▸st.iC _ _ K.obj) (kY st K.ns) K.V5 K.ae ZA (st.iC _ _ Mn) ZG qk hI I3 (q (.ref fa,[.ref ad]) uo fun {μ2 h2 tk2 H2 vs ys P} m2 uR w=>⟨cN.func (m2.st.iC _ _ (ef▸rf)) rh,?_⟩);obtain⟨f',RH,w⟩:=w.ok;rw[Option.some.inj (RH.symm.trans Og)] at w;exact hc (s:=⟨h2,g,dr,tk2,os⟩) fu tI m2.st (.cons (hw.mv st m2) uR) w
theorem YY{ov:V}{Qf:Jn}(wo:oH W)(ao:GM W)(hc:kJ W A cl)(hm:W.an m=some x)(st:St W μ H s.heap)(hw:aS W μ s.heap ov w)(ht:OH W.G m ov H=some Qf)(q: ∀ p tk,DZ W A μ H s.heap s p Qf ov m cl->Q p { s with toks:=tk }):wpAny (Mo W) A (getMethod w x pl) Q E s:=by
 obtain⟨l,hl,e⟩:=aK ht;obtain⟨ob,ho,e⟩:=aK e;rw[kR hl] at hw q;clear hl ht;cases ob with
 | list xs=>
  obtain⟨hM,e⟩:=bH e;exact KM ao hm st ho hw hM ((Option.some.inj e).symm▸q)
 | dict es ep=>
  obtain⟨hM,e⟩:=bH e;exact KK wo.toWOk ao hm st ho hw (Nat.eq_of_beq_eq_true hM) ((Option.some.inj e).symm▸q)
 | inst c fs=>
  obtain⟨hM,e⟩:=bH e;exact KL wo hc hm st ho hw hM ((Option.some.inj e).symm▸q)
end
theorem Lu{o:E}{m:Nat}{args:List E}{o':Expr}{x:Str}{ap pos:Pos}{dK:List Expr}(wo:oH W)(ao:GM W)(hc: ∀ A',OF A A'->kJ W A' cl)(hn:lF o'=true)(hl:(ap.endLine==pos.line)=true)(hs:iW dK=true)(hf:dK.length<29)(hm:W.an m=some x)
  (h:aT W A cl K env ρ o o') (ha:IT (gA W A cl K env ρ) args dK):aT W A cl K env ρ (.aJ o m args) (.Call (.Attribute o' x ap) dK [] pos):=fun {H μ s P} fr st w Q E q=>by
 refine E5 hn hl hs hf (h fr st w _ _ fun ov H1 w1 μ1 h1 tk1 v m1 hv pl=> ?_);obtain⟨Qf,ht,w2⟩:=w1.ok;have uB:(dK.map fun e=>(false,eval e env)).any (·.1)=false:=by rw[List.any_map];exact List.any_eq_false.mpr fun _ _=>Bool.false_ne_true
 refine YY (s:= { s with heap:=h1,toks:=tk1 }) wo ao (hc A (.inl rfl)) hm m1.st hv ht fun p tk ma=> ?_;refine oO uB (oS uB (gY (ha.Dy (s:= { s with heap:=h1,toks:=tk }) (fr.mv st m1) m1.st w2 _ _ fun vs H2 w3 μ2 h2 tk2 ys m2 hr=> ?_)));have k:=ma (tk2:=tk2) m2 hr w3;exact⟨k.1,rfl,k.2 _ _ ((q.step m1).step m2)⟩
end
end Mine
namespace Mine
open PySem PySem.W PyProof.Rows PySem.SeqAt
theorem Mv.sZ{W:Wd}{X:Addr->Prop}{μ μ1:Mp}{H1:Hp}{h h1 h':Heap}(m:Mv W X μ h μ1 H1 h1)(Y:Addr->Prop)(hY: ∀ a,Y a->A3 (¬ mM μ1 a) (W.h0.get? a=none) (h.get? a=none))(hF: ∀ a o,Y a->h1.get? a=some o->¬ yD o)
  (hk: ∀ b o,¬ Y b->h1.get? b=some o->h'.get? b=some o):Mv W X μ h μ1 H1 h':=by
 refine⟨⟨m.st.len,fun b o e=>hk b o (fun q=>cY ((hY b q).2.symm.trans e)) (m.st.iC b o e),fun i o p ho hp=>(m.st.obj i o p ho hp).bJ (fun _ _ e=>e) (fun a o e hf=>hk a o (fun q=>hF a o q e hf) e) (fun a ha ob e=>hk a ob (fun q=>(hY a q).1 (.nK hp ha)) e),m.st.fresh,m.st.apart,fun a o ha e=> ?_⟩,
  m.ext,m.new,fun a o e=> ?_,fun b o hb hx e=>hk b o (fun q=>cY ((hY b q).3.symm.trans e)) (m.keep b o hb hx e)⟩
 ·obtain⟨o',LY⟩:=m.st.has ha
  rw[<- Option.some.inj ((hk a o' (fun q=>(hY a q).1 ha) LY).symm.trans e)];exact m.st.kind a o' ha LY
 ·obtain⟨o',e'⟩:=m.has a o e
  exact⟨o',hk a o' (fun q=>cY ((hY a q).3.symm.trans e)) e'⟩
inductive qE(W:Wd)(μ:Mp)(h:Heap)(I:Addr):V->Nat->Prop where
 | list{a:Nat}{l:Addr}{k:Nat}(hp:μ[a]? = some (l,none))(hi:h.IsListIter I l k):qE W μ h I (.ref a) k
 | aM{xs:List V}{t:Addr}{items:Array Value}{k:Nat}(hz:xs.length<=most)(ht:OZ h t items)(hr:aO W μ h xs items.toList)(hi:h.IsTupleIter I t k):qE W μ h I (.aM xs) k
 | mD{lo hi left:Int}{k:Nat}(hl:(lo+k<hi->left=hi - lo - k)/\(¬ lo+k<hi->left<=0))(oF:IsRangeIter h I (lo+k) left 1):qE W μ h I (.mD lo hi) k
theorem vL{o:Obj}{T:String}(h:o.cls= .type T)(ht:T≠"tuple")(hr:T≠"range"): ¬ yD o:=fun z=>by
 rcases z with⟨a,_⟩|⟨a,_⟩
 ·exact ht (Value.type.inj (h.symm.trans a))
 ·exact hr (Value.type.inj (h.symm.trans a))
theorem qE.has{W:Wd}{μ:Mp}{h:Heap}{I:Addr}{x:V}{k:Nat}(i:qE W μ h I x k):dO (fun o=>h.get? I=some o) (fun o=>¬ yD o):=by
 cases i with
 | list hp hi=>obtain⟨o,e,hc,hd⟩:=hi;exact⟨o,e,vL hc (by decide) (by decide)⟩
 | aM hz ht hr hi=>obtain⟨o,e,hc,hd⟩:=hi;exact⟨o,e,vL hc (by decide) (by decide)⟩
 | mD hl oF=>exact⟨_,oF,vL rfl (by decide) (by decide)⟩
section
variable{W:Wd}{A:Around}{s:Shared}{μ:Mp}{H:Hp}
theorem aO.SH{h:Heap}{xs:List V}{items:Array Value}(r:aO W μ h xs items.toList)(k:Nat):Da W μ h xs[k]? items[k]?:=by
 cases e:xs[k]? with
 | none=>
  rw[List.getElem?_eq_none_iff,r.size] at e;exact Array.getElem?_eq_none e
 | some x=>
  obtain⟨y,h1,h2⟩:=r.get e;rw[Array.getElem?_toList] at h1;rw[h1];exact h2
theorem vZ{x:V}{v:Value}{y:Option V}(st:St W μ H s.heap)(hx:aS W μ s.heap x v)(hn:qA x 0 H=some y){Q:Value->Shared->Prop}{E:Value->Shared->Prop}
  (q: ∀ h',(∀ b o,s.heap.get? b=some o->h'.get? b=some o)->s.heap.get? s.heap.objs.size=none->qE W μ h' s.heap.objs.size x 0->Q (.ref s.heap.objs.size) { s with heap:=h' }):wpAny (Mo W) A (pyIter v) Q E s:=by
 have q:=fun o=>q (s.heap.push o) (fun b o' e=>Heap.get?_push_of_some o e) (Heap.get?_none_of_le (Nat.le_refl _));cases x with
 | aM xs=>
  obtain⟨a,items,rfl,hz,ht,hr⟩:=hx.dF;obtain⟨n,ho⟩:=id ht;exact wpAny_pyIter_tuple ht.is (q _ (.aM hz ⟨n,Heap.get?_push_of_some _ ho⟩ (hr.bJ (fun _ _ e=>e) fun _ _ e _=>Heap.get?_push_of_some _ e) ⟨_,Heap.get?_push_size _ rfl,rfl,rfl⟩))
 | mD lo hi=>
  obtain⟨a,rfl,hb,t,u,w,hr⟩:=hx.dF;have h1:=lN.mp (aD hb).1;have h2:=lN.mp (aD hb).2;refine wpAny_pyIter_range hr (small_one (by lia) (by lia) (by lia) (by lia)) (q _ (.mD (left:=Builtin.Range.rangeSize lo hi 1) ?_ ?_))
  ·rw[rangeSize_one]
   exact⟨fun h=>by rw[if_pos (by simpa using h)];lia,fun h=>by rw[if_neg (by simpa using h)];lia⟩
  ·rw[show lo+((0:Nat):Int)=lo by lia]
   exact Heap.get?_push_size _ rfl
 | ref i=>
  obtain⟨xs,hA,_⟩:=aK hn;obtain⟨a,ia,rfl,hp,hl,hr,hz⟩:=st.listAt (eV hA) hx;exact wpAny_pyIter_list hl.is (q _ (.list hp ⟨_,Heap.get?_push_size _ rfl,rfl,rfl⟩))
 | _=>exact cY hn
set_option tactic.hygienic true in
theorem wA{x:V}{k:Nat}{y:Option V}{I:Addr}(hh:A.handled=none)(st:St W μ H s.heap)(hi:qE W μ s.heap I x k)(hI: ¬ mM μ I)(hn:qA x k H=some y){Q:Option Value->Shared->Prop}{E:Value->Shared->Prop}
  (q: ∀ h' tk w,(∀ b o,b≠I->s.heap.get? b=some o->h'.get? b=some o)->(∀ z,y=some z->qE W μ h' I x (k+1))->Da W μ h' y w->Q w { s with heap:=h',toks:=tk }):wpAny (Mo W) A (pyNext (.ref I)) Q E s:=by
 obtain⟨oI,RN,fm⟩:=hi.has;have M9: ∀ {h':Heap},(∀ b o,b≠I->s.heap.get? b=some o->h'.get? b=some o)->TP s.heap h':=fun hk a o e hf=>hk a o (fun q=>fm (Option.some.inj (RN.symm.trans (q▸e))▸hf)) e;have same: ∀ {h':Heap},Heap.SameBut I s.heap h'->∀ b o,b≠I->s.heap.get? b=some o->h'.get? b=some o:=fun hs b o hb e=>(hs.2 b hb).trans e;cases hi with
 | aM hz ht hr oF=>
  rename_i xs t items
  rw[<- Option.some.inj hn] at q;have hg:=hr.SH k;cases hx:(items[k]?:Option Value) with
  | none=>
   rw[hx] at hg;cases hk:xs[k]? with
   | none=>exact wpAny_pyNext_tuple_end hh oF ht.is hx fun h' he=>q h' s.toks none (fun b o hb e=>he b o hb e) (fun z e=>cY (hk.symm.trans e)) (by rw[hk];exact rfl)
   | some z=>rw[hk] at hg;exact hg.elim
  | some w=>
   refine wpAny_pyNext_tuple_item oF ht.is hx fun h' D6 hs=> ?_;have hk:=same hs;obtain⟨n,e⟩:=ht;refine q h' s.toks _ hk (fun z _=>.aM hz ⟨n,hk t _ (fun q=> ?_) e⟩ (hr.bJ (fun _ _ e=>e) (M9 hk)) D6) (hx▸hg.bJ (fun _ _ e=>e) (M9 hk));rw[q,RN] at e;exact fm (Option.some.inj e▸ .inl ⟨rfl,_,_,rfl⟩)
 | mD hl oF=>
  rename_i lo VI left
  rw[<- Option.some.inj hn] at q;by_cases eA:lo+k<VI
  ·rw[if_pos eA] at q
   have gb:=hl.1 eA;refine wpAny_pyNext_range_item oF (by lia) fun h' D6 hs=> ?_;refine q h' _ _ (same hs) (fun z _=>.mD (left:=left - 1) ⟨fun h=> ?_,fun h=> ?_⟩ ?_) (.int _ _)
   ·push_cast at h ⊢;lia
   ·push_cast at h;lia
   ·rw[show lo+((k+1:Nat):Int)=lo+k+1 by push_cast;lia];exact D6
  ·rw[if_neg eA] at q
   exact wpAny_pyNext_range_end hh oF (hl.2 eA) fun h' he=>q h' s.toks none (fun b o hb e=>he b o hb e) (fun z e=>cY e) rfl
 | list hp oF=>
  rename_i l
  obtain⟨xs,hA,hn⟩:=aK hn;obtain⟨l',ia,e1,I1,KT,hr,hz⟩:=st.listAt (eV hA) (.ref hp);rw[<- Value.ref.inj e1] at KT;rw[<- Option.some.inj hn] at q;have hg:=hr.SH k;cases hx:(ia[k]?:Option Value) with
  | none=>
   rw[hx] at hg;cases hk:xs[k]? with
   | none=>exact wpAny_pyNext_list_end hh oF KT.is hx fun h' he=>q h' s.toks none (fun b o hb e=>he b o hb e) (fun z e=>cY (hk.symm.trans e)) (by rw[hk];exact rfl)
   | some z=>rw[hk] at hg;exact hg.elim
  | some w=>
   refine wpAny_pyNext_list_item oF KT.is hx fun h' D6 hs=> ?_;exact q h' s.toks _ (same hs) (fun z _=>.list hp D6) (hx▸hg.bJ (fun _ _ e=>e) (M9 (same hs)))
end
end Mine
namespace Mine
open PySem PySem.W PyProof.Rows PySem.SeqAt
noncomputable def iD(env:PySem.Env):List (Str×NameKind)->List (Str×Addr)->List (Str×Addr)
 | [],acc=>acc
 | (n,k)::r,acc=>if k== .free then iD env r ((n,(env.cells.lookup n).getD 0)::acc) else iD env r acc
theorem Gr{env:PySem.Env}(f:Str×NameKind->List (Str×Addr)->Sem (ForInStep (List (Str×Addr))))
  (hf: ∀ n k cs,f (n,k) cs=if k== .free then (do let c <- cellOf env n;pure (.yield ((n,c)::cs))) else pure (.yield cs)) (names:List (Str×NameKind)):
  ∀ (acc:List (Str×Addr)),(∀ y∈names,y.2= .free->∃ c,env.cells.lookup y.1=some c)->forIn names acc f=pure (iD env names acc):=by
 induction names with
 | nil=>exact fun acc _=>rfl
 | cons y r ih=>
  intro acc h;obtain⟨n,k⟩:=y;rw[List.forIn_cons,hf];have hr:=fun acc=>ih acc fun y hy=>h y (List.mem_cons_of_mem _ hy);show _=pure (if k== .free then iD env r ((n,(env.cells.lookup n).getD 0)::acc) else iD env r acc);cases hk:k==NameKind.free with
  | true=>
   obtain⟨c,hc⟩:=h (n,k) List.mem_cons_self (beq_iff_eq.mp hk);have hc:env.cells.lookup n=some c:=hc;have e:cellOf env n=pure c:=by unfold cellOf;rw[hc]
   rw[hc];simp only[if_true,e,pure_bind,Option.getD_some];exact hr _
  | false=>
   simp only[Bool.false_eq_true,if_false,pure_bind];exact hr _
theorem tG{scope:Scope}{env:PySem.Env}(h: ∀ y∈scope.names,y.2= .free->∃ c,env.cells.lookup y.1=some c):closureFor scope env=pure (iD env scope.names []):=by
 simp only[closureFor];rw[Gr _ (fun n k cs=>by cases hk:k==NameKind.free<;>simp [hk]) scope.names [] h];rfl
theorem wV{env:PySem.Env}{y:Str×NameKind}{r:List (Str×NameKind)}{acc:List (Str×Addr)}: iD env (y::r) acc=if y.2== .free then iD env r ((y.1,(env.cells.lookup y.1).getD 0)::acc) else iD env r acc:=rfl
theorem L9{env:PySem.Env}{names:List (Str×NameKind)}{n:Str}{c:Addr}: ∀ {acc:List (Str×Addr)},(n,c)∈iD env names acc->(n,c)∈acc\/((n,NameKind.free)∈names/\c=(env.cells.lookup n).getD 0):=by
 induction names with
 | nil=>exact fun h=>.inl h
 | cons y r ih=>
  intro acc h;rw[wV] at h;cases hk:y.2==NameKind.free with
  | true=>
   rw[hk] at h;rcases ih h with h1|⟨h1,h3⟩
   ·rcases List.mem_cons.mp h1 with h1|h1
    ·have e:=Prod.mk.inj h1
     rw[e.1,e.2];exact .inr ⟨beq_iff_eq.mp hk▸List.mem_cons_self,rfl⟩
    ·exact .inl h1
   ·exact .inr ⟨List.mem_cons_of_mem _ h1,h3⟩
  | false=>
   rw[hk] at h;exact (ih h).imp id fun h1=>⟨List.mem_cons_of_mem _ h1.1,h1.2⟩
theorem L7{env:PySem.Env}{names:List (Str×NameKind)}{x:Str×Addr}: ∀ {acc:List (Str×Addr)},x∈acc->x∈iD env names acc:=by
 induction names with
 | nil=>exact fun h=>h
 | cons y r ih=>
  intro acc h;rw[wV];cases y.2==NameKind.free
  ·exact ih h
  ·exact ih (List.mem_cons_of_mem _ h)
theorem L8{env:PySem.Env}{names:List (Str×NameKind)}{n:Str}: ∀ {acc:List (Str×Addr)},(n,NameKind.free)∈names->(n,(env.cells.lookup n).getD 0)∈iD env names acc:=by
 induction names with
 | nil=>exact fun h=>(List.not_mem_nil h).elim
 | cons y r ih=>
  intro acc h;rw[wV];rcases List.mem_cons.mp h with h|h
  ·rw[<- h];exact L7 List.mem_cons_self
  ·cases y.2==NameKind.free<;>exact ih h
theorem CV{α:Type}{n:Str}{c:α}{l:List (Str×α)}(h:(n,c)∈l): ∃ c',l.lookup n=some c':=by
 induction l with
 | nil=>exact (List.not_mem_nil h).elim
 | cons y r ih=>
  rw[show (y::r).lookup n=_ from List.lookup_cons];cases hb:n==y.1 with
  | true=>exact⟨_,rfl⟩
  | false=>
   rcases List.mem_cons.mp h with h|h
   ·rw[<- h,beq_self_eq_true] at hb;exact eJ hb.symm
   ·exact ih h
theorem yR{K:KC}{scope:Scope}{env:PySem.Env}(hk:env.scope.kind= .function)(hn:env.scope.names=K.kn):(relabel scope env).names=cE K.kn scope.names:=by
 unfold relabel cE Env.kindOf;rw[hk,hn];rfl
noncomputable def JS(kn:List (Str×NameKind))(y:Str×NameKind):NameKind:=if (y.2== .free&&true&&kn.lookup y.1==some .cell) then .cell else y.2
theorem Ff{kn:List (Str×NameKind)}{names:List (Str×NameKind)}{x:Str}{k:NameKind}(h:(cE kn names).lookup x=some k):zB (fun y=>y∈names) (fun y=>y.1=x) (fun y=>JS kn y=k):=by
 induction names with
 | nil=>exact cY h
 | cons y r ih=>
  have e:cE kn (y::r)=(y.1,JS kn y)::cE kn r:=by
   obtain⟨n,k⟩:=y;show (if (k== .free&&true&&kn.lookup n==some .cell)=true then (n,NameKind.cell) else (n,k))::cE kn r=(n,if (k== .free&&true&&kn.lookup n==some .cell)=true then .cell else k)::cE kn r;cases (k== .free&&true&&kn.lookup n==some .cell)<;>rfl
  rw[e,List.lookup_cons] at h;cases hb:x==y.1 with
  | true=>
   rw[hb] at h;exact⟨y,List.mem_cons_self,(beq_iff_eq.mp hb).symm,Option.some.inj h⟩
  | false=>
   rw[hb] at h;obtain⟨y,h1,h2,h3⟩:=ih h;exact⟨y,List.mem_cons_of_mem _ h1,h2,h3⟩
theorem CW{kn:List (Str×NameKind)}{names:List (Str×NameKind)}{x:Str}(hc: ∀ y∈names,y.2 ≠ .cell)(h:(cE kn names).lookup x=some .cell):(x,NameKind.free)∈names/\kn.lookup x=some .cell:=by
 obtain⟨⟨n,k⟩,h1,rfl,h3⟩:=Ff h;unfold JS at h3;by_cases hq:(k== .free&&true&&kn.lookup n==some .cell)=true
 ·have h4:=aD hq
  exact⟨beq_iff_eq.mp (aD h4.1).1▸h1,beq_iff_eq.mp h4.2⟩
 ·rw[if_neg hq] at h3
  exact (hc _ h1 h3).elim
theorem Ba{kn:List (Str×NameKind)}{names:List (Str×NameKind)}{x:Str}(h:(cE kn names).lookup x=some .local):(x,NameKind.local)∈names:=by
 obtain⟨⟨n,k⟩,h1,rfl,h3⟩:=Ff h;unfold JS at h3;by_cases hq:(k== .free&&true&&kn.lookup n==some .cell)=true
 ·rw[if_pos hq] at h3;exact NameKind.noConfusion h3
 ·rw[if_neg hq] at h3
  exact h3▸h1
structure qO(K:KC)(scope:Scope)(x:Str)(fR:Nat)(iter:Expr):Prop where
 kind:scope.kind= .function
 cell: ∀ y∈scope.names,y.2 ≠ .cell
 aA: ∀ y∈scope.names,y.2= .local->scope.names.lookup y.1=some .local/\(y.1=x\/y.1∉K.vn)
 We:scope.names.lookup x=some .local
 Wc:K.vn[fR]? = some x
 free: ∀ y∈scope.names,y.2= .free->K.kn.lookup y.1=some .cell
 set:tM iter=false
theorem vF{K:KC}{scope:Scope}{x:Str}{fR:Nat}{iter:Expr}(h:Ig K scope x fR iter=true):qO K scope x fR iter:=by
 simp only[Ig,Bool.and_eq_true,List.all_eq_true,beq_iff_eq,bne_iff_ne,Bool.or_eq_true,Bool.not_eq_true',ne_eq,List.contains_eq_mem,decide_eq_false_iff_not] at h;obtain⟨⟨⟨⟨⟨⟨h1,h2⟩,h3⟩,h4⟩,h5⟩,h6⟩,h7⟩:=h;exact⟨h1,h2,fun y hy hl=>(h3 y hy).elim (fun h=>absurd hl h) id,h4,h5,fun y hy hf=>(h6 y hy).elim (fun h=>absurd hf h) id,h7⟩
theorem FrOk.comp{W:Wd}{μ:Mp}{h:Heap}{K:KC}{env:PySem.Env}{ρ:cP}{scope:Scope}{x:Str}{fR:Nat}{iter:Expr}{C:Addr}{v:V}{y:Value}{m:Str->Option Value}(f:FrOk W μ h K env ρ)(c:qO K scope x fR iter)(nd:K.vn.Nodup)
  (hC: ¬ mM μ C/\W.h0.get? C=none) (U4: ∀ z c,env.cells.lookup z=some c->c≠C) (hn:h.Ns C m) (hm:m x=some y) (hv:aS W μ h v y):
  FrOk W μ h { K with kn:=cE K.kn scope.names } (compEnvC scope (iD env scope.names []) C env) (ρ.set fR (some v)):=by
 have mP: ∀ z c',(iD env scope.names []).lookup z=some c'->env.cells.lookup z=some c':=fun z c' hz=>by
  rcases L9 (mem_of_lookup hz) with h1|⟨h1,h3⟩
  ·exact (List.not_mem_nil h1).elim
  ·obtain⟨cv,u,h4,_⟩:=f.cell z (c.free _ h1 rfl)
   rw[h4] at h3;simp only[Option.getD_some] at h3;rw[h4,h3]
 refine⟨c.kind,yR f.kind f.kn,f.D4,f.blt,⟨m,hn,fun i z w h1 h2 h3=> ?_⟩,fun z hz=> ?_,hC,fun z c' hz=> ?_⟩
 ·have hz:z=x:=by
   rcases (c.aA _ (Ba h3) rfl).2 with hz|hz
   ·exact hz
   ·exact absurd (List.mem_of_getElem? h1) hz
  subst hz;have hi:i=fR:=by
   have e1:=List.getElem?_eq_some_iff.mp h1;have e2:=List.getElem?_eq_some_iff.mp c.Wc;obtain⟨l1,e1⟩:=e1;obtain⟨l2,e2⟩:=e2;exact (List.getElem_inj nd).mp (e1.trans e2.symm)
  subst hi;have:w=v:=by
   rw[List.getElem?_set_self'] at h2;cases hρ:ρ[i]? with
   | none=>rw[hρ] at h2;cases h2
   | some u=>rw[hρ] at h2;cases h2;rfl
  subst this;exact⟨y,hm,hv⟩
 ·obtain⟨h1,h2⟩:=CW c.cell hz
  obtain⟨c',u,h4,h5,h6⟩:=f.cell z h2;have uQ:=L8 (env:=env) (acc:=[]) h1;obtain⟨cv,U7⟩:=CV uQ;have:=mP z cv U7;rw[h4] at this;cases this;refine⟨c',u,U7,h5,fun i w h7 h8=>h6 i w h7 ?_⟩;have hi:fR≠i:=by
   intro q;subst q;have e1:=c.Wc;rw[show ({ K with kn:=cE K.kn scope.names }: KC).vn=K.vn from rfl] at h7;rw[e1] at h7;cases h7;have:(cE K.kn scope.names).lookup x=some .local:=by
    have:=lookup_relabel_local (env:=env) c.We;rw[<- yR f.kind f.kn];exact this
   rw[this] at hz;cases hz
  rw[List.getElem?_set_ne hi] at h8;exact h8
 ·have:=mP z c' hz
  obtain⟨h1,h2,h3,h4⟩:=f.lS z c' this;exact⟨h1,h2,U4 z c' this,h4⟩
end Mine
namespace Mine
open PySem PySem.W PyProof.Rows PySem.SeqAt
theorem qE.iter{W:Wd}{A:Around}{s:Shared}{μ:Mp}{I:Addr}{x:V}{k:Nat}(i:qE W μ s.heap I x k){Q:Value->Shared->Prop}{E:Value->Shared->Prop}(q:Q (.ref I) s):wpAny (Mo W) A (pyIter (.ref I)) Q E s:=by
 cases i with
 | list hp hi=>exact wpAny_pyIter_listiter hi q
 | aM hz ht hr hi=>exact wpAny_pyIter_tupleiter hi q
 | mD hl oF=>exact wpAny_pyIter_rangeiter oF q
theorem qE.eN{W:Wd}{μ μ':Mp}{h h':Heap}{I:Addr}{x:V}{k:Nat}(i:qE W μ h I x k)(hm: ∀ (j:Nat) p,μ[j]? = some p->μ'[j]? = some p)(tp:TP h h')(hk: ∀ o,h.get? I=some o->h'.get? I=some o):qE W μ' h' I x k:=by
 cases i with
 | list hp hi=>obtain⟨o,e,r⟩:=hi;exact .list (hm _ _ hp) ⟨o,hk o e,r⟩
 | aM hz ht hr hi=>
  obtain⟨o,e,r⟩:=hi;obtain⟨n,e2⟩:=ht;exact .aM hz ⟨n,tp _ _ e2 (.inl ⟨rfl,_,n,rfl⟩)⟩ (hr.bJ hm tp) ⟨o,hk o e,r⟩
 | mD hl oF=>exact .mD hl (hk _ oF)
theorem BC{x:Str}{px:Pos}{it v:Value}: letOwnedTupleGo (.Name x px) it v=pure ():=rfl
section
variable{W:Wd}{A:Around}{cl:Call}{K:KC}{env:PySem.Env}{ρ:cP}
noncomputable def X3(I D C:Addr):Addr->Prop:=fun a=>a=I\/a=D\/a=C
structure jI(W:Wd)(μ0:Mp)(h0:Heap)(I D C:Addr)(it:V)(k:Nat)(acc:List V)(μ:Mp)(H:Hp)(h:Heap):Prop where
 mv:Mv W (X3 I D C) μ0 h0 μ H h
 it:qE W μ h I it k
 acc:zB (fun items=>AE h D items) (fun items=>aO W μ h acc items.toList) (fun items=>acc.length<=most)
 ns: ∃ m,h.Ns C m
 own:A3 (¬ mM μ I) (¬ mM μ D) (¬ mM μ C)
structure DW(h0:Heap)(I D C:Addr):Prop where
 i0:h0.get? I=none
 d0:h0.get? D=none
 c0:h0.get? C=none
 ic:I≠C
 id:I≠D
 dc:D≠C
theorem Ns.KH{h:Heap}{C:Addr}{m:Str->Option Value}(n:h.Ns C m){o:Obj}(e:h.get? C=some o): ¬ yD o:=by
 obtain⟨o',es,ep,e',hd,_⟩:=n;exact Option.some.inj (e'.symm.trans e)▸fG hd
theorem oJ{W:Wd}{μ0 μ:Mp}{h0 h:Heap}{H:Hp}{I D C:Addr}{it:V}{k:Nat}{acc:List V}(c:jI W μ0 h0 I D C it k acc μ H h)(a:Addr)(o:Obj)(ha:X3 I D C a)(e:h.get? a=some o): ¬ yD o:=by
 rcases ha with h|h|h<;>rw[h] at e
 ·obtain⟨o',e',hf⟩:=c.it.has
  exact Option.some.inj (e'.symm.trans e)▸hf
 ·obtain⟨items,⟨n,e'⟩,_⟩:=c.acc
  exact Option.some.inj (e'.symm.trans e)▸iX rfl
 ·obtain⟨m,hm⟩:=c.ns
  exact Ns.KH hm e
theorem Lf{W:Wd}{s:Shared}{D:Addr}{items:Array Value}{x:Value}{Q:Value->Shared->Prop}{E:Value->Shared->Prop}(hl:AE s.heap D items)(hz:items.size<=sizeLine)
  (hQ: ∀ h',AE h' D (items.push x)->Heap.SameBut D s.heap h'->Q .none { s with heap:=h' }):wpAny (Mo W) A (call (.builtin "list.append") [.ref D,x]) Q E s:=
 wpAny_list_append_plain (let ⟨n,e⟩:=hl;⟨n,e⟩) (fun h' hp hs=>hQ h' (let ⟨n,e⟩:=hp;⟨n,e⟩) hs) hz
noncomputable def DT(ifs:List Expr)(e:PySem.Env):Sem Bool:=forIn ifs true fun c r=>if r=true then do let ok <- isTrue c e (eval c e);pure (ForInStep.yield ok) else pure (ForInStep.yield r)
noncomputable def wQ(W:Wd)(A:Around)(K:KC)(scope:Scope)(env:PySem.Env)(ρ:cP)(fR:Nat)(ifs:List Expr)(gP:Expr)(turn:V->Hp->(Option V->Hp->Prop)->Prop):Prop:=
 ∀ {C v μ H} {s:Shared} {P:Option V->Hp->Prop},FrOk W μ s.heap { K with kn:=cE K.kn scope.names } (compEnvC scope (iD env scope.names []) C env) (ρ.set fR (some v))->St W μ H s.heap->turn v H P->
  ∀ (Q:Option Value->Shared->Prop) (E:Value->Shared->Prop),(∀ r H',P r H'->∀ μ' h' tk y,Mv W X0 μ s.heap μ' H' h'->Da W μ' h' r y->Q y { s with heap:=h',toks:=tk })->
   wpAny (Mo W) A (DT ifs (compEnvC scope (iD env scope.names []) C env)) (fun ok s'=>if ok=true then wpAny (Mo W) A (eval gP (compEnvC scope (iD env scope.names []) C env)) (fun w ug=>Q (some w) ug) E s' else Q none s') E s
section
variable{s:Shared}{μ:Mp}{I D C:Addr}{x:Str}{px:Pos}{fR:Nat}{gR fT:Expr}{ifs:List Expr}{scope:Scope}{A0:V}{turn:V->Hp->(Option V->Hp->Prop)->Prop}{P:PE}
theorem jI.next{k:Nat}{acc:List V}{μk:Mp}{Hk:Hp}{hk h':Heap}{j:Nat}(b:DW s.heap I D C){H:Hp}(st:St W μ H s.heap)(ca:jI W μ s.heap I D C A0 k acc μk Hk hk)(As: ∀ b o,b≠I->hk.get? b=some o->h'.get? b=some o)(oF:qE W μk h' I A0 j):jI W μ s.heap I D C A0 j acc μk Hk h':=by
 have tp:TP hk h':=fun a o e hf=>As a o (fun q=>oJ ca a o (.inl q) e hf) e;refine⟨ca.mv.sZ (fun a=>a=I) (fun a ha=>ha▸⟨ca.own.1,(st.dD b.i0).2,b.i0⟩) (fun a o ha e=>oJ ca a o (.inl ha) e) (fun b o hb e=>As b o hb e),oF,?_,?_,ca.own⟩
 ·obtain⟨items,⟨n,e⟩,hr,hz⟩:=ca.acc
  exact⟨items,⟨n,As D _ b.id.symm e⟩,hr.bJ (fun _ _ e=>e) tp,hz⟩
 ·obtain⟨m,hm⟩:=ca.ns
  exact⟨m,Ns.eN hm fun o e=>As C o b.ic.symm e⟩
theorem jI.jf{k:Nat}{acc:List V}{μk μ':Mp}{Hk H':Hp}{hk h':Heap}(ca:jI W μ s.heap I D C A0 k acc μk Hk hk)(m:Mv W X0 μk hk μ' H' h'):jI W μ s.heap I D C A0 k acc μ' H' h':=by
 have tp:=m.tp ca.mv.st;obtain⟨items,⟨n,e⟩,hr,hz⟩:=ca.acc;obtain⟨mm,hm⟩:=ca.ns;obtain⟨oI,hI,_⟩:=ca.it.has;obtain⟨oC,hC⟩:=Ns.has hm;exact⟨ca.mv.trans (m.OX fun a o _ q=>q.elim),ca.it.eN m.mp tp (fun o e=>m.keep I o ca.own.1 (fun q=>q) e),⟨items,⟨n,m.keep D _ ca.own.2 (fun q=>q) e⟩,hr.bJ m.mp tp,hz⟩,⟨mm,Ns.eN hm fun o e=>m.keep C o ca.own.3 (fun q=>q) e⟩,m.TK ca.own.1 hI,m.TK ca.own.2 e,m.TK ca.own.3 hC⟩
theorem J7{k:Nat}{acc:List V}{μk:Mp}{Hk H:Hp}{hk:Heap}{tk:Nat}{go:Nat×List V×Hp->Prop}{N:Shared->Prop}{R:Shared->Prop}{E:Value->Shared->Prop}(hh:A.handled=none)(nd:K.vn.Nodup)(b:DW s.heap I D C)(f:FrOk W μ s.heap K env ρ)(st:St W μ H s.heap)(c:qO K scope x fR gR)
  (ht:wQ W A K scope env ρ fR ifs fT turn) (ca:jI W μ s.heap I D C A0 k acc μk Hk hk) (w:rA turn A0 P (k,acc,Hk) go)
  (gV: ∀ {k acc Hn μ' h' tk},go (k,acc,Hn)->jI W μ s.heap I D C A0 k acc μ' Hn h'->N { s with heap:=h',toks:=tk }) (Ar: ∀ {h' tk},P (.ref Hk.length) (Hk++[.list acc])->(∀ b o,b≠I->hk.get? b=some o->h'.get? b=some o)->R { s with heap:=h',toks:=tk }):
  wpAny (Mo W) A (pyNext (.ref I)) (fun r s₁=>match r with
   | none=>R s₁
   | some v=>wpAny (Mo W) A (assign (.Name x px) (compEnvC scope (iD env scope.names []) C env) v) (fun _ s₂=>
     wpAny (Mo W) A (DT ifs (compEnvC scope (iD env scope.names []) C env)) (fun ok s₃=>
      if ok=true then wpAny (Mo W) A (eval fT (compEnvC scope (iD env scope.names []) C env)) (fun x s₄=>wpAny (Mo W) A (call (.builtin "list.append") [.ref D,x]) (fun _ s₅=>N s₅) E s₄) E s₃ else N s₃) E s₂) E s₁) E { s with heap:=hk,toks:=tk }:=by
 obtain⟨y,hy,w⟩:=w.ok;refine wA (s:= { s with heap:=hk,toks:=tk }) hh ca.mv.st ca.it ca.own.1 hy fun h1 tk1 u rE PV HA=> ?_;cases y with
 | none=>
  rw[show u=none from HA];exact Ar w rE
 | some z=>
  obtain⟨v,hv,ig⟩:dO (fun v=>u=some v) (fun v=>aS W μk h1 z v):=by
   cases u with
   | none=>exact HA.elim
   | some v=>exact⟨v,rfl,HA⟩
  rw[hv];have Od:=ca.next b st rE (PV z rfl);clear hv HA PV rE hy ca;obtain⟨mC,gh⟩:=Od.ns;refine wpAny_assign_Name (wpAny_storeName_local (env:=compEnvC scope (iD env scope.names []) C env) (lookup_relabel_local c.We) gh (fun h2 ZB Ol=> ?_) (by simp [compEnvC,relabel,c.kind]));have Ul:jI W μ s.heap I D C A0 (k+1) acc μk Hk h2:=by
   have k2: ∀ b o,b≠C->h1.get? b=some o->h2.get? b=some o:=fun b o hb e=>(Ol.2 b hb).trans e;have tp:TP h1 h2:=fun a o e hf=>k2 a o (fun q=>oJ Od a o (.inr (.inr q)) e hf) e;obtain⟨items,⟨n,e⟩,hr,hz⟩:=Od.acc;exact⟨Od.mv.sZ (fun a=>a=C) (fun a ha=>ha▸⟨Od.own.3,(st.dD b.c0).2,b.c0⟩) (fun a o ha e=>oJ Od a o (.inr (.inr ha)) e) (fun b o hb e=>k2 b o hb e),Od.it.eN (fun _ _ e=>e) tp (fun o e=>k2 I o b.ic e),⟨items,⟨n,k2 D _ b.dc e⟩,hr.bJ (fun _ _ e=>e) tp,hz⟩,⟨_,ZB⟩,Od.own⟩
  have kg:TP h1 h2:=fun a o e hf=>(Ol.2 a (fun q=>oJ Od a o (.inr (.inr q)) e hf)).trans e;have XA: ∀ a,X3 I D C a->s.heap.get? a=none:=fun a ha=>by rcases ha with h|h|h<;>rw[h]<;>first|exact b.i0|exact b.d0|exact b.c0
  have U4: ∀ z c',env.cells.lookup z=some c'->¬ X3 I D C c':=fun z c' hz q=>by
   obtain⟨_,_,_,o,ho⟩:=f.lS z c' hz;exact cY ((XA c' q).symm.trans ho)
  have et: ¬ X3 I D C env.locals:=fun q=>by
   obtain⟨m,hm,_⟩:=f.ns;obtain⟨o,ho⟩:=Ns.has hm;exact cY ((XA _ q).symm.trans ho)
  have fc:=(f.je st Ul.mv (fun a o ha e=>cY ((XA a ha).symm.trans e)) et U4).comp c nd (C:=C) (v:=z) (y:=v) ⟨Ul.own.3,(st.dD b.c0).2⟩ (fun zz c' qt q=>U4 zz c' qt (.inr (.inr q))) ZB (by simp) (ig.bJ (fun _ _ e=>e) kg);clear XA U4 et kg Ol ZB ig Od gh f c nd;refine wpAny_mono (ht fc (s:= { s with heap:=h2,toks:=_ }) Ul.mv.st w (fun y s₅=>∃ r Hn μ' h5 Tu,s₅= { s with heap:=h5,toks:=Tu }/\Mv W X0 μk h2 μ' Hn h5/\Da W μ' h5 r y/\(match r with|some v=>acc.length<most/\go (k+1,acc++[v],Hn)|none=>go (k+1,acc,Hn))) E
   (fun r Hn p μ' h5 Tu y m5 UE=>⟨r,Hn,μ',h5,Tu,rfl,m5,UE,p⟩)) (fun ok s₅ I0=> ?_) fun _ _ e=>e
  cases ok with
  | false=>
   obtain⟨r,Hn,μ',h5,Tu,rfl,m5,UE,p⟩:=I0;cases r with
   | none=>exact gV p (Ul.jf m5)
   | some=>exact UE.elim
  | true=>
   refine wpAny_mono I0 (fun w5 s₆ h6=> ?_) fun _ _ e=>e;obtain⟨r,Hn,μ',h5,Tu,rfl,m5,UE,p⟩:=h6;cases r with
   | none=>exact cY (show none=some w5 from UE.symm)
   | some u=>
    have Q4:=Ul.jf m5;obtain⟨Ss,VN,Vg,hz5⟩:=Q4.acc;have hz:acc.length<16000000:=p.1;refine Lf VN (by rw[bU,<- Vg.size];lia) fun h6 SX Vi=> ?_;have k6: ∀ b o,b≠D->h5.get? b=some o->h6.get? b=some o:=fun b o hb e=>(Vi.2 b hb).trans e;have ch:TP h5 h6:=fun a o e hf=>k6 a o (fun q=>oJ Q4 a o (.inr (.inl q)) e hf) e;refine gV p.2 ⟨?_,Q4.it.eN (fun _ _ e=>e) ch (fun o e=>k6 I o b.id e),⟨Ss.push w5,SX,?_,by rw[List.length_append,lE];exact hz⟩,?_,Q4.own⟩
    ·exact Q4.mv.sZ (fun a=>a=D) (fun a ha=>ha▸⟨Q4.own.2,(st.dD b.d0).2,b.d0⟩) (fun a o ha e=>oJ Q4 a o (.inr (.inl ha)) e) (fun b o hb e=>k6 b o hb e)
    ·rw[Array.toList_push]
     exact (Vg.bJ (fun _ _ e=>e) ch).append (.cons (aS.bJ (fun _ _ e=>e) ch UE) .nil)
    ·obtain⟨m6,pd⟩:=Q4.ns
     exact⟨m6,Ns.eN pd fun o e=>k6 C o b.dc.symm e⟩
end
end
end Mine
namespace Mine
open PySem PySem.W PyProof.Rows PySem.SeqAt
section
variable{W:Wd}{A:Around}{cl:Call}{K:KC}{env:PySem.Env}{ρ:cP}
theorem gX{e:Expr}(h:tM e=false)(env:PySem.Env): ∀ x,foldedSetIterable e env x=pure x:=by
 intro x;cases e<;>first|rfl|exact eJ h.symm
theorem MB{s:Shared}{μ μk:Mp}{H Hk:Hp}{I D C:Addr}{A0:V}{k:Nat}{acc:List V}{hk h':Heap}(b:DW s.heap I D C)(st:St W μ H s.heap)(ca:jI W μ s.heap I D C A0 k acc μk Hk hk)(As: ∀ b o,b≠I->hk.get? b=some o->h'.get? b=some o):
  A4 (Mv W X0 μ s.heap (μk++[(D,none)]) (Hk++[.list acc]) h') (aS W (μk++[(D,none)]) h' (.ref Hk.length) (.ref D)) (∃ m,h'.Ns C m) (¬ mM (μk++[(D,none)]) C):=by
 have m1:=ca.mv.sZ (h':=h') (fun a=>a=I) (fun a ha=>ha▸⟨ca.own.1,(st.dD b.i0).2,b.i0⟩) (fun a o ha e=>oJ ca a o (.inl ha) e) (fun b o hb e=>As b o hb e);obtain⟨items,⟨n,e⟩,hr,hz⟩:=ca.acc;obtain⟨m,hm⟩:=ca.ns;have hl:AE h' D items:=⟨n,As D _ b.id.symm e⟩;have tp:TP hk h':=fun a o e hf=>As a o (fun q=>oJ ca a o (.inl q) e hf) e;have m2:Mv W X0 μ s.heap μk Hk h':=m1.OX fun a o e q=>by rcases q with h|h|h<;>(rw[h] at e;first|exact cY (b.i0.symm.trans e)|exact cY (b.d0.symm.trans e)|exact cY (b.c0.symm.trans e))
 refine⟨Mv.Ll st m2 (fun a ha=>dS ha▸⟨b.d0,ca.own.2⟩) (.list hz hl ((hr.bJ (fun _ _ e=>e) tp).bJ BN (fun _ _ e _=>e))) (fun a ha o e=> ?_),.ref (p:=(D,none)) (by rw[<- m2.st.len];exact vM),⟨m,Ns.eN hm fun o e=>As C o b.ic.symm e⟩,fun q=> ?_⟩
 ·obtain⟨n,e'⟩:=hl
  rw[dS ha,e'] at e;exact Option.some.inj e▸iX rfl
 ·exact (zY q).elim ca.own.3 fun h=>b.dc (dS h).symm
theorem Co{s:Shared}{μ:Mp}{H:Hp}{x:Str}{px:Pos}{fR:Nat}{gR fT:Expr}{ifs:List Expr}{scope:Scope}{pos:Pos}{A0:V}{v:Value}{turn:V->Hp->(Option V->Hp->Prop)->Prop}{P:PE}{RR:Value->Addr->Result->Shared->Prop}{E:Value->Shared->Prop}
  (hh:A.handled=none) (nd:K.vn.Nodup) (c:qO K scope x fR gR) (f:FrOk W μ s.heap K env ρ) (st:St W μ H s.heap) (hv:aS W μ s.heap A0 v) (ht:wQ W A K scope env ρ fR ifs fT turn) (w:gJ (rA turn A0 P) (0,[],H))
  (hR: ∀ {D C h' tk μ' Hn vs},P (.ref Hn.length) (Hn++[.list vs])->A4 (Mv W X0 μ s.heap (μ'++[(D,none)]) (Hn++[.list vs]) h') (aS W (μ'++[(D,none)]) h' (.ref Hn.length) (.ref D)) (∃ m,h'.Ns C m) (¬ mM (μ'++[(D,none)]) C)->s.heap.get? C=none->RR (.ref D) C (.ok .next) { s with heap:=h',toks:=tk }):
  wpAny (Mo W) A (pyIter v) (fun it s₂=>wpAny (Mo W) A (newList []) (fun acc s₃=>wpAny (Mo W) A (newFunctionEnv scope env.globals (iD env scope.names []) [] env.qual none .none (some env)) (fun Um s₄=>codeAny (Mo W) A (.compStart (.ListComp fT [⟨.Name x px,gR,ifs,0⟩] scope pos) 0 it acc { Um with scope:=relabel scope env }) (RR acc Um.locals) s₄) E s₃) E s₂) E s:=by
 obtain⟨n,J,j0,jt⟩:=w;obtain⟨y0,hy,_⟩:=(jt n _ j0).ok;refine vZ st hv hy fun h1 rE hI oF=> ?_;clear hy hv;generalize U5:s.heap.objs.size=I at hI oF ⊢;refine wpAny_newObj_type ?_ (Nat.zero_le _);refine wpAny_newFunctionEnv c.cell (fun y hy=>(List.not_mem_nil hy).elim) (fun h3 Sc Sg=> ?_) c.kind;dsimp only at Sc Sg ⊢;generalize MY:h1.objs.size=D at *;have Yh:h1.get? D=none:=MY▸Heap.get?_none_of_le (Nat.le_refl _);have Y1:(h1.push { cls:=.type "list",dict:=none,data:=.seq ([]:List Value).toArray }).get? D=some { cls:=.type "list",dict:=none,data:=.seq #[] }:=by rw[<- MY];exact Heap.get?_push_size _ rfl
 have vN: ∀ b o,h1.get? b=some o->(h1.push { cls:=.type "list",dict:=none,data:=.seq ([]:List Value).toArray }).get? b=some o:=fun b o e=>Heap.get?_push_of_some _ e;generalize h1.push { cls:=.type "list",dict:=none,data:=.seq ([]:List Value).toArray }= h2 at *;generalize RD:h2.objs.size=C at *;have U3:h2.get? C=none:=RD▸Heap.get?_none_of_le (Nat.le_refl _);have zX: ∀ {a:Addr} {g g':Heap},(∀ b o,g.get? b=some o->g'.get? b=some o)->g'.get? a=none->g.get? a=none:=fun {a g g'} hk hn=>by
  cases e:g.get? a with
  | none=>rfl
  | some o=>exact cY (hn.symm.trans (hk a o e))
 have Iv: ∀ b o,b≠C->h2.get? b=some o->h3.get? b=some o:=fun b o hb e=>Sg.extBut b o hb (Heap.get?_push_of_some _ e);obtain⟨oI,RN,_⟩:=oF.has;have b:DW s.heap I D C:=⟨hI,zX rE Yh,zX (fun b o e=>vN b o (rE b o e)) U3,fun q=>cY (U3.symm.trans (q▸vN _ _ RN)),fun q=>cY (Yh.symm.trans (q▸RN)),fun q=>cY (U3.symm.trans (q▸Y1))⟩;have start:jI W μ s.heap I D C A0 0 [] μ H h3:=by
  have mk:=Mv.of_keep st (h':=h3) fun b' o e=>Iv b' o (fun q=>cY (b.c0.symm.trans (q▸e))) (vN b' o (rE b' o e));refine⟨mk.OX (fun a o _ q=>q.elim),oF.eN (fun _ _ e=>e) (fun a o e hf=>Iv a o (fun q=>cY ((zX vN U3).symm.trans (q▸e))) (vN a o e)) (fun o e=>Iv I o b.ic (vN I o e)),⟨#[],⟨0,Iv D _ b.dc Y1⟩,.nil,Nat.zero_le _⟩,⟨_,Sc⟩,(st.dD b.i0).1,(st.dD b.d0).1,(st.dD b.c0).1⟩
 clear U5 MY RD Yh Y1 vN U3 zX Iv RN rE oF Sg Sc;have kO: ∀ s₄:Shared,s₄.gens=s.gens->s₄.drawn=s.drawn->s₄.os=s.os->s₄.heap=h3->codeAny (Mo W) A (.compLoop (.ListComp fT [⟨.Name x px,gR,ifs,0⟩] scope pos) 0 (.ref I) (.ref D) (compEnvC scope (iD env scope.names []) C env)) (RR (.ref D) C) s₄:=by
  intro s₄ g1 g2 g3 g4;refine codeAny_compLoop_tests (fun n s'=>∃ k acc Hk μk hk tk,s'= { s with heap:=hk,toks:=tk }/\J n (k,acc,Hk)/\jI W μ s.heap I D C A0 k acc μk Hk hk) ?_ n ⟨0,[],H,μ,h3,s₄.toks,by obtain⟨_,_,_,_,_⟩:=s₄;simp_all,j0,start⟩ (fun v=>BC);rintro n s' ⟨k,acc,Hk,μk,hk,tk,rfl,jn,ca⟩;exact J7 hh nd b f st c ht ca (jt n _ jn) (fun {k acc Hn μ' h' tk} gV ld=>let ⟨m,hm,hj⟩:=gV;⟨m,hm,k,acc,Hn,μ',h',tk,rfl,hj,ld⟩) fun p As=>hR p (MB b st ca As) b.c0
 exact codeAny_compStart_list (kO _ rfl rfl rfl rfl) ((start.it).iter (s:= { s with heap:=h3,toks:=_ }) (kO _ rfl rfl rfl rfl))
theorem Bw{scope:Scope}{fR:Nat}{gP:E}{fT:Expr}(h: ∀ C v,aT W A cl { K with kn:=cE K.kn scope.names } (compEnvC scope (iD env scope.names []) C env) (ρ.set fR (some v)) gP fT):
  wQ W A K scope env ρ fR [] fT (fun v hh q=>wE W.G cl gP (ρ.set fR (some v)) hh fun y h'=>q (some y) h'):=fun {C v μ H s P} f st w Q E q=>
 wpAny_tests_nil (h C v f st w _ _ fun y H' p μ' h' tk w m hw=>q (some y) H' p μ' h' tk (some w) m hw)
theorem Jf{scope:Scope}{fR:Nat}{gP c:E}{fT c':Expr}(hc: ∀ C v,gA W A cl { K with kn:=cE K.kn scope.names } (compEnvC scope (iD env scope.names []) C env) (ρ.set fR (some v)) c c')
  (h: ∀ C v,aT W A cl { K with kn:=cE K.kn scope.names } (compEnvC scope (iD env scope.names []) C env) (ρ.set fR (some v)) gP fT):
  wQ W A K scope env ρ fR [c'] fT (fun v hh q=>wE W.G cl c (ρ.set fR (some v)) hh fun t Oh=>cJ (Jg t) fun b=>cR b (wE W.G cl gP (ρ.set fR (some v)) Oh fun y h'=>q (some y) h') (q none Oh)):=fun {C v μ H s P} f st w Q E q=>by
 refine wpAny_tests_one ((hc C v).tv f st w _ _ fun b H1 w1 μ1 h1 tk1 m1=> ?_);cases b with
 | true=>exact h C v (f.mv st m1) m1.st w1 _ _ fun y H' p μ' h' tk w m hw=>q (some y) H' p μ' h' tk (some w) (m1.trans m) hw
 | false=>exact q none H1 w1 μ1 h1 tk1 none m1 rfl
theorem Cp{x:Str}{px:Pos}{fR:Nat}{it:E}{gR fT:Expr}{ifs:List Expr}{scope:Scope}{pos:Pos}{turn:V->Hp->(Option V->Hp->Prop)->Prop}(hh:A.handled=none)(nd:K.vn.Nodup)(c:qO K scope x fR gR)(oF:aT W A cl K env ρ it gR)(ht:wQ W A K scope env ρ fR ifs fT turn)
  {H:Hp} {μ:Mp} {s:Shared} {P:PE} (f:FrOk W μ s.heap K env ρ) (st:St W μ H s.heap) (w:wE W.G cl it ρ H fun x h=>gJ (rA turn x P) (0,[],h)):
  Ce W A s μ (eval (.ListComp fT [⟨.Name x px,gR,ifs,0⟩] scope pos) env) P:=by
 intro Q E q;have Iu:closureFor scope env=pure (iD env scope.names []):=tG fun y hy hf=>by
  obtain⟨c',u,h1,_⟩:=f.cell y.1 (c.free y hy hf);exact⟨c',h1⟩
 rw[eval_ListComp];refine wpAny_comprehension_free (use:=none) rfl (gX c.set env) Iu c.kind (fun y hy hl=>(c.aA y hy hl).1) (oF f st w _ _ fun A0 H1 w1 μ1 h1 tk1 v m1 hv=> ?_);refine Co (RR:=fun acc C=>compPost (Mo W) A E none Q acc C) hh nd c (f.mv st m1) m1.st hv ht w1 ?_;intro D C h' tk μ' Hn vs p cd SK;obtain⟨m,XM⟩:=cd.3;refine⟨m,XM,fun MX Vh=> ?_⟩;have nf: ∀ {a o},a=C->h'.get? a=some o->¬ yD o:=fun ha e=>Ns.KH XM (ha▸e);have ma:=cd.1.sZ (fun a=>a=C) (fun a ha=>ha▸⟨cd.4,(m1.st.dD SK).2,SK⟩) (fun a o ha e=>nf ha e) (h':=MX) (fun b o hb e=>(Vh.2 b hb).trans e);exact q _ _ p _ MX tk _ (m1.trans ma) (cd.2.bJ (fun _ _ e=>e) fun a o e hf=>(Vh.2 a (fun q=>nf q e hf)).trans e)
theorem Lp{x:Str}{px:Pos}{fR:Nat}{it gP:E}{gR fT:Expr}{scope:Scope}{pos:Pos}(hh:A.handled=none)(nd:K.vn.Nodup)(c:qO K scope x fR gR)(oF:aT W A cl K env ρ it gR)
  (h: ∀ C v,aT W A cl { K with kn:=cE K.kn scope.names } (compEnvC scope (iD env scope.names []) C env) (ρ.set fR (some v)) gP fT):aT W A cl K env ρ (.comp gP fR it) (.ListComp fT [⟨.Name x px,gR,[],0⟩] scope pos):=fun f st w=>
 Cp hh nd c oF (Bw h) f st w
theorem Gc{x:Str}{px:Pos}{fR:Nat}{it gP cc:E}{gR fT cy:Expr}{scope:Scope}{pos:Pos}(hh:A.handled=none)(nd:K.vn.Nodup)(c:qO K scope x fR gR)(oF:aT W A cl K env ρ it gR)
  (hc: ∀ C v,gA W A cl { K with kn:=cE K.kn scope.names } (compEnvC scope (iD env scope.names []) C env) (ρ.set fR (some v)) cc cy)
  (h: ∀ C v,aT W A cl { K with kn:=cE K.kn scope.names } (compEnvC scope (iD env scope.names []) C env) (ρ.set fR (some v)) gP fT):aT W A cl K env ρ (.nH gP fR it cc) (.ListComp fT [⟨.Name x px,gR,[cy],0⟩] scope pos):=fun f st w=>
 Cp hh nd c oF (Jf hc h) f st w
inductive LO(P:E->Expr->Prop):List E->List (Option Expr)->List Expr->Prop where
 | nil:LO P [] [] []
 | cons{k v:E}{k' v':Expr}{es:List E}{ks:List (Option Expr)}{vs:List Expr}(hk:P k k')(hv:P v v')(t:LO P es ks vs):LO P (k::v::es) (some k'::ks) (v'::vs)
noncomputable def EP(env:PySem.Env)(pos:Pos):List (Option Expr)->List Expr->List (Sem Value×Sem Value)
 | some k::ks,v::vs=>(eval k env,do let x <- eval v env;standAt pos;pure x)::EP env pos ks vs
 | _,_=>[]
inductive AF(W:Wd)(μ:Mp)(h:Heap):List V->List (Value×Value)->Prop where
 | nil:AF W μ h [] []
 | cons{k v:V}{k' v':Value}{xs:List V}{ps:List (Value×Value)}(hk:aS W μ h k k')(hv:aS W μ h v v')(t:AF W μ h xs ps):AF W μ h (k::v::xs) ((k',v')::ps)
theorem AF.mv{μ μ':Mp}{H H':Hp}{h h':Heap}(st:St W μ H h)(m:Mv W X0 μ h μ' H' h'){xs:List V}{ps:List (Value×Value)}(r:AF W μ h xs ps):AF W μ' h' xs ps:=by
 induction r with
 | nil=>exact .nil
 | cons hk hv _ ih=>exact .cons (hk.mv st m) (hv.mv st m) ih
theorem LO.WV{P:E->Expr->Prop}(env:PySem.Env)(pos:Pos){es:List E}{ks:List (Option Expr)}{vs:List Expr}(a:LO P es ks vs):
  (evalEachOpt ks env).zip ((evalEach vs env).map fun v=>do let x <- v;standAt pos;pure x)=(EP env pos ks vs).map fun p=>(some p.1,p.2):=by
 induction a with
 | nil=>rfl
 | cons hk hv t ih=>
  rw[arm_evalEachOpt_cons,arm_evalOpt_some,arm_evalEach_cons,List.map_cons,List.zip_cons_cons,ih];rfl
theorem LO.len{P:E->Expr->Prop}(env:PySem.Env)(pos:Pos){es:List E}{ks:List (Option Expr)}{vs:List Expr}(a:LO P es ks vs):(EP env pos ks vs).length=ks.length:=by
 induction a with
 | nil=>rfl
 | cons hk hv t ih=>exact congrArg Nat.succ ih
theorem Fc{pos:Pos}{es:List E}{ks:List (Option Expr)}{vs:List Expr}(a:LO (gA W A cl K env ρ) es ks vs): ∀ {H μ} {s:Shared} {P:List V->Hp->Prop},FrOk W μ s.heap K env ρ->St W μ H s.heap->Oo W.G cl es ρ H P->
  ∀ (Q:List (Value×Value)->Shared->Prop) E,(∀ xs H',P xs H'->∀ μ' h' tk ps,Mv W X0 μ s.heap μ' H' h'->AF W μ' h' xs ps->Q ps { s with heap:=h',toks:=tk })->wpAny (Mo W) A (evalPairs (EP env pos ks vs)) Q E s:=by
 induction a with
 | nil=>exact fun {H μ s P} f st w Q E q=>evalPairs_nil (q _ _ w μ s.heap s.toks [] (.refl st) .nil)
 | cons hk hv t ih=>
  intro H μ s P f st w Q E q;refine evalPairs_cons (hk.ev f st w _ _ fun x1 H1 w1 μ1 h1 tk1 y1 m1 Sh=>wpAny_bind (hv.ev (f.mv st m1) m1.st w1 _ _ fun x2 H2 w2 μ2 h2 tk2 y2 m2 Si=>wpAny_bind (wpAny_standAt (wpAny_pure ?_))));refine ih ((f.mv st m1).mv m1.st m2) m2.st w2 _ _ fun xs H3 w3 μ3 h3 OJ ps m3 hp=> ?_;exact q _ _ w3 μ3 h3 OJ _ ((m1.trans m2).trans m3) (.cons ((Sh.mv m1.st m2).mv m2.st m3) (Si.mv m2.st m3) hp)
noncomputable def Xu(W:Wd)(μ:Mp)(h:Heap)(xs:List V)(ps:List (Value×Value)):Prop:=match xs with
 | []=>ps=[]
 | [_]=>False
 | k::v::r=>Lj (fun k' v' WN=>ps=(k',v')::WN) (fun k' v' WN=>aS W μ h k k') (fun k' v' WN=>aS W μ h v v') (fun k' v' WN=>AF W μ h r WN)
theorem AF.dF{μ:Mp}{h:Heap}{xs:List V}{ps:List (Value×Value)}(r:AF W μ h xs ps):Xu W μ h xs ps:=by
 cases r with
 | nil=>exact rfl
 | cons hk hv t=>exact⟨_,_,_,rfl,hk,hv,t⟩
theorem Hc{μ:Mp}{h:Heap}{xs:List V}{ps:List (Value×Value)}(r:AF W μ h xs ps): ∀ {es:List (Int×V)},EQ xs=some es->
  Os (fun kvs=>Carries (intKind W.prog W.w) ps kvs) (fun kvs=>fS W μ h es kvs) (fun kvs=>(kvs.map (·.1)).Nodup) (fun kvs=>kvs.map (·.1)=es.map (·.1)):=by
 induction r with
 | nil=>exact fun e=>⟨[],trivial,Option.some.inj e▸ .nil,List.nodup_nil,Option.some.inj e▸rfl⟩
 | cons hk hv t ih=>
  intro es e;obtain⟨i,hi,e⟩:=aK e;obtain⟨es',e1,e⟩:=aK e;obtain⟨RL,e⟩:=bH e;obtain⟨kvs,h1,h2,h3,h4⟩:=ih e1;rw[dW hi] at hk;obtain⟨tk,rfl⟩:=hk.dF;rw[<- Option.some.inj e];refine⟨(i,_)::kvs,⟨intKind_is _ _ _ _,rfl,h1⟩,.cons hv h2,?_,by rw[List.map_cons,List.map_cons,h4]⟩;rw[List.map_cons,List.nodup_cons];refine⟨fun hm=> ?_,h3⟩;rw[h4] at hm;obtain⟨p,hp,KV⟩:=List.mem_map.mp hm;have:(es'.any fun e=>e.1==i)=true:=List.any_eq_true.mpr ⟨p,hp,beq_iff_eq.mpr KV⟩;rw[this] at RL;exact eJ RL
theorem HO(kvs:List (Int×Value)): ∀ acc:List (Int×Value),((acc++kvs).map (·.1)).Nodup->merged acc kvs=acc++kvs:=by
 induction kvs with
 | nil=>exact fun acc _=>(List.append_nil acc).symm
 | cons kv kvs ih=>
  intro acc h;have hk: ¬ (acc.any fun e=>decide (e.1=kv.1))=true:=fun q=>by
   obtain⟨p,hp,he⟩:=List.any_eq_true.mp q;rw[List.map_append,List.nodup_append] at h;exact h.2.2 p.1 (List.mem_map.mpr ⟨p,hp,rfl⟩) kv.1 (List.mem_map.mpr ⟨kv,List.mem_cons_self,rfl⟩) (of_decide_eq_true he)
  have e:merged acc (kv::kvs)=merged (stored acc kv.1 kv.2) kvs:=rfl;have e2:acc++kv::kvs=acc++[kv]++kvs:=by rw[List.append_assoc];rfl
  rw[e,stored,if_neg hk,e2,ih];exact e2▸h
theorem MF{vs:List Expr}{pos:Pos}{s:Shared}{μ:Mp}{H:Hp}{Q E:Value->Shared->Prop}(st:St W μ H s.heap)(Ze:vs=[])(q: ∀ {h' d},Mv W X0 μ s.heap (μ++[(d,none)]) (H++[.dict [] (some 0)]) h'->aS W (μ++[(d,none)]) h' (.ref H.length) (.ref d)->Q (.ref d) { s with heap:=h' }):wpAny (Mo W) A (eval (.Dict [] vs pos) env) Q E s:=by
 rw[Ze];refine wpAny_Dict_empty ?_;have g:(s.heap.push { cls:=.type "dict",data:=.dict #[] }).get? s.heap.objs.size=some { cls:=.type "dict",data:=.dict #[] }:=Heap.get?_push_size _ rfl;have m:=Mv.EI (p:=(s.heap.objs.size,none)) (o':=.dict [] (some 0)) st (fun b o e=>Heap.get?_push_of_some { cls:=.type "dict",data:=.dict #[] } e) (fun a ha=>dS ha▸Heap.get?_none_of_le (Nat.le_refl _))
  (.dict (n:=0) (kvs:=[]) (fun k hk=>Option.some.inj hk) ⟨_,#[],g,⟨rfl,rfl,rfl⟩,rfl,fun e he=>absurd he (by simp),.nil,List.nodup_nil⟩ .nil) (fun a ha o e=>by rw[dS ha,g] at e;exact Option.some.inj e▸fG rfl)
 exact q m (.ref (p:=(s.heap.objs.size,none)) (by rw[<- st.len];exact vM))
theorem Lq{kvs:List E}{ks:List (Option Expr)}{vs:List Expr}{pos:Pos}(hl:ks.length<=15)(GI:ks.length=vs.length)(h:LO (gA W A cl K env ρ) kvs ks vs):aT W A cl K env ρ (.dict kvs) (.Dict ks vs pos):=fun {H μ s P} f st w Q E q=>by
 have w:Oo W.G cl kvs ρ H fun vs h1=>cJ (EQ vs) fun es=>P (.ref h1.length) (h1++[.dict es (cR kvs.isEmpty (some 0) none)]):=w;cases ks with
 | nil=>
  cases h
  have w:P (.ref H.length) (H++[.dict [] (some 0)]):=w;exact MF st rfl fun {h' d} m hv=>q _ _ w _ h' s.toks _ m hv
 | cons k ks=>
  have bE:=h.len env pos;have Ys:s.heap.get? s.heap.objs.size=none:=Heap.get?_none_of_le (Nat.le_refl _);have rZ:kvs.isEmpty=false:=by cases h;rfl
  rw[rZ] at w;refine wpAny_Dict_pairs (knd:=intKind W.prog W.w) (h.WV env pos) (fun z=>by rw[z] at bE;exact Nat.noConfusion bE) (bE▸hl) ?_;have mp:=Mv.push st { cls:=.type "dict",data:=.dict #[] };have g:(s.heap.push { cls:=.type "dict",data:=.dict #[] }).get? s.heap.objs.size=some { cls:=.type "dict",data:=.dict #[] }:=Heap.get?_push_size _ rfl;have RL:=st.dD Ys;refine Fc h (s:= { s with heap:=s.heap.push { cls:=.type "dict",data:=.dict #[] } }) (f.mv st mp) mp.st w _ _ fun xs H1 w1 μ1 h1 tk1 ps m1 hp=> ?_;obtain⟨es,he,w2⟩:=w1.ok;obtain⟨HI,c1,c2,c3,c4⟩:=Hc hp he;have g1:h1.get? s.heap.objs.size=some { cls:=.type "dict",data:=.dict #[] }:=m1.keep _ _ RL.1 (fun q=>q) g;refine⟨HI,c1,⟨_,#[],0,g1,⟨rfl,rfl,rfl⟩,rfl,fun e he=>absurd he (by simp),.nil,List.nodup_nil⟩,fun h' fb hs=> ?_⟩;rw[HO HI [] c3,List.nil_append] at fb;obtain⟨ep,SR⟩:=fb.dictAt;have VV: ¬ mM μ1 s.heap.objs.size:=m1.TK RL.1 g;have nf: ∀ {a o},a=s.heap.objs.size->h1.get? a=some o->¬ yD o:=fun ha e=>Option.some.inj (g1.symm.trans (ha▸e))▸fG rfl;have ma:=(mp.trans m1).sZ (fun a=>a=s.heap.objs.size) (fun a ha=>ha▸⟨VV,RL.2,Ys⟩) (fun a o ha e=>nf ha e) (h':=h') (fun b o hb e=>(hs.2 b hb).trans e);have tp:TP h1 h':=fun a o e hf=>(hs.2 a (fun q=>nf q e hf)).trans e;have ad:=Mv.Ll (p:=(s.heap.objs.size,none)) (o':=.dict es none) st ma (fun a ha=>dS ha▸⟨Ys,VV⟩) (.dict (n:=ep) (fun k hk=>cY hk) SR ((c2.bJ (fun _ _ e=>e) tp).bJ BN (fun _ _ e _=>e))) (fun a ha o e=>by
   obtain⟨o',es',e',_,T7,_⟩:=SR;rw[dS ha,e'] at e;exact Option.some.inj e▸fG T7)
  exact q _ _ w2 _ _ _ _ ad (.ref (p:=(s.heap.objs.size,none)) (by rw[<- ma.st.len];exact vM))
end
end Mine
namespace Mine
open PySem PySem.W PyProof.Rows PySem.SeqAt
noncomputable def Oq(W:Wd)(gl:Str->Option V):Prop:=∀ v,gl (Str.ofString "enumerate")=some v->∃ n,v= .g n/\W.eZ n=some (.type "enumerate")
structure En(W:Wd)(A:Around)(cl:Call)(K:KC):Prop where
 wo:oH W
 ao:GM W
 gl:Jl W K.gl
 en:Oq W K.gl
 an:K.an=W.an
 nd:K.vn.Nodup
 handled:A.handled=none
 units:A.units+21<cLine
 Ic: ∀ A',OF A A'->kJ W A' cl
theorem kl{e:Expr}{v:XV}(h:vw e=v):v.is e:=h▸fZ e
theorem sW{a:Bool}(h:(!a)=true):a=false:=by cases a<;>first|rfl|exact eJ h
theorem L3{W:Wd}{A:Around}{cl:Call}{K K':KC}{env:PySem.Env}{ρ:cP}{kn:List (Str×NameKind)}{e:E}{l:Option Expr}(h:Xb (fun x=>jF kn K' e (vw x)) (JH e) l=true)(g: ∀ x,jF kn K' e (vw x)=true->aT W A cl K env ρ e x):Cd W A cl K env ρ e l:=by
 cases l with
 | none=>exact Pt (P:=fun e=>Cd W A cl K env ρ e none) h Js
 | some x=>exact Jt (g x h)
mutual
theorem aX{W:Wd}{A:Around}{cl:Call}{K:KC}(ok:En W A cl K): ∀ (e:E) (kn:List (Str×NameKind)) (pe:Expr) (_:jF kn K e (vw pe)=true) (env:PySem.Env) (ρ:cP),gA W A cl { K with kn:=kn } env ρ e pe
 | .aB v,kn,pe,h,env,ρ=>by
  refine Tw h (fun c k p h1=>aT.tV rfl (Ju h1)) fun x p h1=> ?_;exact aT.tV rfl (Lr (K:= { K with kn:=kn }) ok.gl (aD (aD h1).1).1 (eq_of_beq (aD (aD h1).1).2) (aD h1).2)
 | .aA i,kn,pe,h,env,ρ=>by
  refine rV h fun x p h1=> ?_;have h2:=aD h1;exact aT.tV rfl (O2 (K:= { K with kn:=kn }) (aD h2.1).1 (eq_of_beq (aD h2.1).2) (((Bool.or_eq_true _ _).mp h2.2).imp eq_of_beq eq_of_beq))
 | .cQ op a b,kn,pe,h,env,ρ=>by
  refine cm h fun l o r p h1=> ?_;have h2:=aD h1;have e:o=xO op:=eq_of_beq (aD h2.1).1;rw[e];exact aT.tV rfl (Oy (aX ok a kn l (aD h2.1).2 env ρ).ev (aX ok b kn r h2.2 env ρ).ev)
 | .neg a,kn,pe,h,env,ρ=>by
  refine kj h fun o x p h1=> ?_;have ih:=aT.tV rfl (O3 (pos:=p) (aX ok a kn x (aD h1).2 env ρ).ev);cases o<;>first|exact eJ (aD h1).1|exact ih
 | .not a,kn,pe,h,env,ρ=>by
  refine kj h fun o x p h1=> ?_;have ih:=O4 (pos:=p) (aX ok a kn x (aD h1).2 env ρ);cases o<;>first|exact eJ (aD h1).1|exact ih
 | .and es,kn,pe,h,env,ρ=>by
  refine Ri h fun o vs p h1=> ?_;have ih:=Ox (pos:=p) (pD ok es kn vs (aD h1).2 env ρ);cases o<;>first|exact eJ (aD h1).1|exact ih
 | .or es,kn,pe,h,env,ρ=>by
  refine Ri h fun o vs p h1=> ?_;have ih:=Ry (pos:=p) (pD ok es kn vs (aD h1).2 env ρ);cases o<;>first|exact eJ (aD h1).1|exact ih
 | .cH op a b,kn,pe,h,env,ρ=>by
  refine Wl h fun l os rs p h1=>RY (P:=fun os rs=>gA _ _ _ _ _ _ _ (.Compare l os rs p)) h1 fun o r h2=> ?_;have h3:=aD h2;have h4:=aD h3.1;have h5:=aD h4.1;have e:o=lT op:=eq_of_beq h5.1;rw[e] at h5 ⊢;exact Oz ok.wo.toWOk ok.units (sW h5.2) (aX ok a kn l h4.2 env ρ).ev (aX ok b kn r h3.2 env ρ).ev
 | .tX Nd Km a b c,kn,pe,h,env,ρ=>by
  refine Wl h fun l os rs p h1=>WC (P:=fun os rs=>gA _ _ _ _ _ _ _ (.Compare l os rs p)) h1 fun o1 o2 r1 r2 h2=> ?_;have h3:=aD h2;have h4:=aD h3.1;have h5:=aD h4.1;have h6:=aD h5.1;have e1:o1=lT Nd:=eq_of_beq (aD h6.1).1;have e2:o2=lT Km:=eq_of_beq (aD h6.1).2;rw[e2] at h6;rw[e1,e2];exact Lo ok.wo.toWOk ok.units (sW h6.2) (aX ok a kn l h5.2 env ρ).ev (aX ok b kn r1 h4.2 env ρ).ev (aX ok c kn r2 h3.2 env ρ).ev
 | .ite c t f,kn,pe,h,env,ρ=>by
  refine cn h fun c' t' f' p h1=> ?_;exact O1 (aX ok c kn c' (aD (aD h1).1).1 env ρ) (aX ok t kn t' (aD (aD h1).1).2 env ρ) (aX ok f kn f' (aD h1).2 env ρ)
 | .aM es,kn,pe,h,env,ρ=>by
  refine Qm h fun es' k p h1=> ?_;exact aT.tV rfl (O5 (aD h1).1 (pD ok es kn es' (aD h1).2 env ρ))
 | .list es,kn,pe,h,env,ρ=>by
  refine Wn h fun es' p h1=> ?_;exact aT.tV rfl (Ls (aD h1).1 (pD ok es kn es' (aD h1).2 env ρ))
 | .dict kvs,kn,pe,h,env,ρ=>by
  refine Wm h fun ks vs p h1=> ?_;exact aT.tV rfl (Lq (of_decide_eq_true (aD (aD h1).1).1) (of_decide_eq_true (aD (aD h1).1).2) (NI ok kvs kn ks vs (aD h1).2 env ρ))
 | .aN o a,kn,pe,h,env,ρ=>by
  refine OM h fun o' x p h1=> ?_;exact aT.tV rfl (Lm ok.wo (aD (aD h1).1).1 (ok.an▸eq_of_beq (aD (aD h1).1).2) (aX ok o kn o' (aD h1).2 env ρ).ev)
 | .bP o i,kn,pe,h,env,ρ=>by
  refine Ql h fun o' i' p h1=> ?_;exact aT.tV rfl (O0 ok.wo.toWOk (sW (aD (aD h1).1).1) (aX ok o kn o' (aD (aD h1).1).2 env ρ).ev (aX ok i kn i' (aD h1).2 env ρ).ev)
 | .kX o lo hi,kn,pe,h,env,ρ=>by
  refine Ql h fun o' s p h1=>uq (P:=fun s=>gA _ _ _ _ _ _ _ (.Subscript o' s p)) h1 fun l u p' h2=> ?_;exact aT.tV rfl (Jv (aX ok o kn o' (aD (aD h2).1).1 env ρ).ev (L3 (aD (aD h2).1).2 fun x hx=>(aX ok lo kn x hx env ρ).ev) (L3 (aD h2).2 fun x hx=>(aX ok hi kn x hx env ρ).ev))
 | .call f args,kn,pe,h,env,ρ=>by
  refine Jh h fun f' dK p h1=> ?_;have h2:=aD (aD h1).1;have h3:=aD h2.1;exact aT.tV rfl (Ln ok.wo ok.handled ok.Ic (aD h3.1).1 (aD h3.1).2 (aX ok f kn f' h2.2 env ρ).ev (pD ok args kn dK (aD h1).2 env ρ))
 | .aJ o m args,kn,pe,h,env,ρ=>by
  refine Jh h fun f' dK p h1=>OM (P:=fun f=>gA _ _ _ _ _ _ _ (.Call f dK [] p)) h1 fun o' x ap h2=> ?_;have h3:=aD (aD h2).1;have h4:=aD h3.1;have h5:=aD h4.1;have h6:=aD h5.1;exact aT.tV rfl (Lu ok.wo ok.ao ok.Ic (aD h6.1).1 (aD h6.1).2 h6.2 (of_decide_eq_true h5.2) (ok.an▸eq_of_beq h4.2) (aX ok o kn o' h3.2 env ρ).ev (pD ok args kn dK (aD h2).2 env ρ))
 | .comp gP fR it,kn,pe,h,env,ρ=>by
  refine OO h fun fT t gR ifs sc p h1=>rV (P:=fun t=>gA _ _ _ _ _ _ _ (.ListComp fT [⟨t,gR,ifs,0⟩] sc p)) h1 fun x px h2=> ?_;have h3:=aD (aD h2).1;rw[List.isEmpty_iff.mp (aD h3.1).1];exact aT.tV rfl (Lp (K:= { K with kn:=kn }) ok.handled ok.nd (vF (aD h3.1).2) (aX ok it kn gR h3.2 env ρ).ev (fun C v=>(aX ok gP _ fT (aD h2).2 _ _).ev))
 | .nH gP fR it c,kn,pe,h,env,ρ=>by
  refine OO h fun fT t gR ifs sc p h1=>rV (P:=fun t=>gA _ _ _ _ _ _ _ (.ListComp fT [⟨t,gR,ifs,0⟩] sc p)) h1 fun x px h2=>Mb (P:=fun ifs=>gA _ _ _ _ _ _ _ (.ListComp fT [⟨.Name x px,gR,ifs,0⟩] sc p)) h2 fun c' h3=> ?_;have h4:=aD (aD h3).1;exact aT.tV rfl (Gc (K:= { K with kn:=kn }) ok.handled ok.nd (vF (aD h4.1).1) (aX ok it kn gR (aD h4.1).2 env ρ).ev (fun C v=>aX ok c _ c' (aD h3).2 _ _) (fun C v=>(aX ok gP _ fT h4.2 _ _).ev))
theorem pD{W:Wd}{A:Around}{cl:Call}{K:KC}(ok:En W A cl K): ∀ (es:List E) (kn:List (Str×NameKind)) (UL:List Expr) (_:F9 kn K es UL=true) (env:PySem.Env) (ρ:cP),IT (gA W A cl { K with kn:=kn } env ρ) es UL
 | [],kn,UL,h,env,ρ=>by rw[List.isEmpty_iff.mp h];exact .nil
 | e::es,kn,UL,h,env,ρ=>by
  refine Dv h fun x xs h1=> ?_;exact .cons (aX ok e kn x (aD h1).1 env ρ) (pD ok es kn xs (aD h1).2 env ρ)
theorem NI{W:Wd}{A:Around}{cl:Call}{K:KC}(ok:En W A cl K): ∀ (es:List E) (kn:List (Str×NameKind)) (ks:List (Option Expr)) (vs:List Expr) (_:ck kn K es ks vs=true) (env:PySem.Env) (ρ:cP),LO (gA W A cl { K with kn:=kn } env ρ) es ks vs
 | [],kn,ks,vs,h,env,ρ=>by rw[List.isEmpty_iff.mp (aD h).1,List.isEmpty_iff.mp (aD h).2];exact .nil
 | [_],kn,ks,vs,h,env,ρ=>eJ h
 | k::v::r,kn,ks,vs,h,env,ρ=>by
  refine PC (P:=fun ks=>LO _ _ ks vs) h fun k' ks h1=>Dv (P:=fun vs=>LO _ _ (some k'::ks) vs) h1 fun v' vs h2=> ?_;exact .cons (aX ok k kn k' (aD (aD h2).1).1 env ρ) (aX ok v kn v' (aD (aD h2).1).2 env ρ) (NI ok r kn ks vs (aD h2).2 env ρ)
end
end Mine
namespace Mine
open PySem PySem.W PyProof.Rows PySem.SeqAt
noncomputable def FX(env:PySem.Env):Addr->Prop:=fun a=>a=env.locals\/ ∃ x,env.cells.lookup x=some a
noncomputable def Xp(env:PySem.Env):Prop:=∀ x y c,env.cells.lookup x=some c->env.cells.lookup y=some c->x=y
theorem Mv.QO{W:Wd}{X:Addr->Prop}{μ:Mp}{H:Hp}{h h':Heap}(st:St W μ H h)(hX: ∀ a,X a->¬ mM μ a/\W.h0.get? a=none)(hF: ∀ a o,X a->h.get? a=some o->¬ yD o)
  (hk: ∀ b o,¬ X b->h.get? b=some o->h'.get? b=some o) (hh: ∀ a o,X a->h.get? a=some o->∃ o',h'.get? a=some o'):Mv W X μ h μ H h':=by
 refine⟨⟨st.len,fun b o e=>hk b o (fun q=>cY ((hX b q).2.symm.trans e)) (st.iC b o e),fun i o p ho hp=>(st.obj i o p ho hp).bJ (fun _ _ e=>e) (fun a o e hf=>hk a o (fun q=>hF a o q e hf) e) (fun a ha ob e=>hk a ob (fun q=>(hX a q).1 (.nK hp ha)) e),st.fresh,st.apart,fun a o ha e=> ?_⟩,
  ⟨[],(List.append_nil μ).symm⟩,fun a o x _=>x,fun a o e=> ?_,fun b o hb hx e=>hk b o hx e⟩
 ·obtain⟨o',LY⟩:=st.has ha
  rw[<- Option.some.inj ((hk a o' (fun q=>(hX a q).1 ha) LY).symm.trans e)];exact st.kind a o' ha LY
 ·by_cases hx:X a
  ·exact hh a o hx e
  ·exact⟨o,hk a o hx e⟩
section
variable{W:Wd}{A:Around}{cl:Call}{K:KC}{env:PySem.Env}{ρ:cP}
theorem IsCell.KH{h:Heap}{c:Addr}{u:Option Value}(x:h.IsCell c u){o:Obj}(e:h.get? c=some o): ¬ yD o:=by
 obtain⟨o',e',hd⟩:=x;rw[<- Option.some.inj (e'.symm.trans e)];intro z;rcases z with⟨_,_,_,q⟩|⟨_,_,q⟩
 ·exact Data.noConfusion (hd.symm.trans q)
 ·exact Data.noConfusion (hd.symm.trans q)
theorem FrOk.KH{μ:Mp}{h:Heap}(f:FrOk W μ h K env ρ)(hc: ∀ x c,env.cells.lookup x=some c->∃ u,h.IsCell c u)(a:Addr)(o:Obj)(ha:FX env a)(e:h.get? a=some o): ¬ yD o:=by
 rcases ha with ha|⟨x,hx⟩
 ·obtain⟨m,hm,_⟩:=f.ns
  exact Ns.KH hm (ha▸e)
 ·obtain⟨u,hu⟩:=hc x a hx
  exact IsCell.KH hu e
structure qP(W:Wd)(μ:Mp)(h:Heap)(K:KC)(env:PySem.Env)(ρ:cP):Prop extends FrOk W μ h K env ρ where
 L6:Xp env
 cells: ∀ x c,env.cells.lookup x=some c->∃ u,h.IsCell c u
theorem qP.mv{μ μ':Mp}{H H':Hp}{h h':Heap}(st:St W μ H h)(f:qP W μ h K env ρ)(m:Mv W X0 μ h μ' H' h'):qP W μ' h' K env ρ:=
 ⟨f.toFrOk.mv st m,f.L6,fun x c hx=>let ⟨u,hu⟩:=f.cells x c hx;⟨u,IsCell.eN hu fun o e=>m.keep c o (f.lS x c hx).1 (fun q=>q) e⟩⟩
theorem qP.keep{μ:Mp}{h h':Heap}(f:qP W μ h K env ρ)(tp:TP h h')(hk: ∀ b o,FX env b->h.get? b=some o->h'.get? b=some o):qP W μ h' K env ρ:=by
 obtain⟨mp,hn,hv⟩:=f.ns;refine⟨⟨f.kind,f.kn,f.D4,f.blt,⟨mp,Ns.eN hn fun o e=>hk _ o (.inl rfl) e,fun i x v h1 h2 h3=>let ⟨y,h4,h5⟩:=hv i x v h1 h2 h3;⟨y,h4,h5.bJ (fun _ _ e=>e) tp⟩⟩,fun x hx=> ?_,f.HM,fun x c hc=> ?_⟩,f.L6,fun x c hc=> ?_⟩
 ·obtain⟨c,u,h1,h2,h3⟩:=f.cell x hx
  exact⟨c,u,h1,IsCell.eN h2 fun o e=>hk c o (.inr ⟨x,h1⟩) e,fun i v h4 h5=>let ⟨y,h6,h7⟩:=h3 i v h4 h5;⟨y,h6,h7.bJ (fun _ _ e=>e) tp⟩⟩
 ·obtain⟨h1,h2,h3,o,h4⟩:=f.lS x c hc
  exact⟨h1,h2,h3,o,hk c o (.inr ⟨x,hc⟩) h4⟩
 ·obtain⟨u,hu⟩:=f.cells x c hc
  exact⟨u,IsCell.eN hu fun o e=>hk c o (.inr ⟨x,hc⟩) e⟩
theorem qP.lv{μ:Mp}{h:Heap}(f:qP W μ h K env ρ)(a:Addr)(ha:FX env a): ¬ mM μ a/\W.h0.get? a=none:=by
 rcases ha with ha|⟨z,hz⟩
 ·exact ha▸f.HM
 ·exact⟨(f.lS z a hz).1,(f.lS z a hz).2.1⟩
theorem wG{i j:Nat}{x z:Str}{v w:V}(nd:K.vn.Nodup)(hi:K.vn[i]? = some x)(h1:K.vn[j]? = some z)(h2:(ρ.set i (some v))[j]? = some (some w)):(z=x/\w=v)\/(z≠x/\ρ[j]? = some (some w)):=by
 by_cases hz:i=j
 ·rw[<- hz] at h1 h2
  rw[List.getElem?_set_self'] at h2;cases hρ:ρ[i]? with
  | none=>rw[hρ] at h2;exact cY h2
  | some u=>rw[hρ] at h2;exact .inl ⟨Option.some.inj (h1.symm.trans hi),(Option.some.inj (Option.some.inj h2)).symm⟩
 ·rw[List.getElem?_set_ne hz] at h2
  refine .inr ⟨fun q=>hz ?_,h2⟩;rw[q] at h1;obtain⟨l1,e1⟩:=List.getElem?_eq_some_iff.mp h1;obtain⟨l2,e2⟩:=List.getElem?_eq_some_iff.mp hi;exact (List.getElem_inj nd).mp (e2.trans e1.symm)
theorem qP.QO{μ:Mp}{H:Hp}{h h':Heap}{c:Addr}(st:St W μ H h)(f:qP W μ h K env ρ)(hc:FX env c)(hk: ∀ b o,b≠c->h.get? b=some o->h'.get? b=some o)(hh: ∃ o,h'.get? c=some o):Mv W (FX env) μ h μ H h':=
 Mv.QO st f.lv (f.toFrOk.KH f.cells) (fun b o hb e=>hk b o (fun q=>hb (q▸hc)) e) fun a o ha e=>by
  by_cases hl:a=c
  ·exact hl▸hh
  ·exact⟨o,hk a o hl e⟩
theorem qP.bY{μ:Mp}{H:Hp}{h h':Heap}{i:Nat}{x:Str}{v:V}{y:Value}{m:Str->Option Value}(nd:K.vn.Nodup)(st:St W μ H h)(f:qP W μ h K env ρ)(hi:K.vn[i]? = some x)(hl:K.kn.lookup x=some .local)(hv:aS W μ h v y)
  (hm: ∀ (i:Nat) x v,K.vn[i]? = some x->ρ[i]? = some (some v)->K.kn.lookup x=some .local->∃ y,m x=some y/\aS W μ h v y) (SZ:h'.Ns env.locals fun z=>if z=x then some y else m z) (hk: ∀ b o,b≠env.locals->h.get? b=some o->h'.get? b=some o):Mv W (FX env) μ h μ H h'/\qP W μ h' K env (ρ.set i (some v)):=by
 have mm:=f.QO st (.inl rfl) hk (Ns.has SZ);have tp:=mm.Re st (f.toFrOk.KH f.cells);refine⟨mm,⟨f.kind,f.kn,f.D4,f.blt,⟨_,SZ,fun j z w h1 h2 h3=> ?_⟩,fun z hz=> ?_,f.HM,fun z c hz=> ?_⟩,f.L6,fun z c hz=> ?_⟩
 ·rcases wG nd hi h1 h2 with⟨e1,e2⟩|⟨rZ,h4⟩
  ·exact⟨y,if_pos e1,e2▸hv.bJ (fun _ _ e=>e) tp⟩
  ·obtain⟨y',h5,h6⟩:=hm j z w h1 h4 h3
   exact⟨y',(if_neg rZ).trans h5,h6.bJ (fun _ _ e=>e) tp⟩
 ·obtain⟨c,u,h1,h2,h3⟩:=f.cell z hz
  refine⟨c,u,h1,IsCell.eN h2 fun o e=>hk c o (f.lS z c h1).2.2.1 e,fun j w h4 h5=> ?_⟩;rcases wG nd hi h4 h5 with⟨e1,e2⟩|⟨rZ,h6⟩
  ·rw[e1,hl] at hz;exact NameKind.noConfusion (Option.some.inj hz)
  ·obtain⟨y',h7,h8⟩:=h3 j w h4 h6
   exact⟨y',h7,h8.bJ (fun _ _ e=>e) tp⟩
 ·obtain⟨h1,h2,h3,o,h4⟩:=f.lS z c hz
  exact⟨h1,h2,h3,o,hk c o h3 h4⟩
 ·obtain⟨u,hu⟩:=f.cells z c hz
  exact⟨u,IsCell.eN hu fun o e=>hk c o (f.lS z c hz).2.2.1 e⟩
theorem qP.P9{μ:Mp}{H:Hp}{h h':Heap}{i:Nat}{x:Str}{v:V}{y:Value}{c:Addr}(nd:K.vn.Nodup)(st:St W μ H h)(f:qP W μ h K env ρ)(hi:K.vn[i]? = some x)(hl:K.kn.lookup x=some .cell)(hv:aS W μ h v y)
  (hx:env.cells.lookup x=some c) (SO:h'.IsCell c (some y)) (hk: ∀ b o,b≠c->h.get? b=some o->h'.get? b=some o):Mv W (FX env) μ h μ H h'/\qP W μ h' K env (ρ.set i (some v)):=by
 have mm:=f.QO st (.inr ⟨x,hx⟩) hk (let ⟨o,e,_⟩:=SO;⟨o,e⟩);have tp:=mm.Re st (f.toFrOk.KH f.cells);have nh:=(f.lS x c hx).2.2.1;obtain⟨m,hn,hm⟩:=f.ns;refine⟨mm,⟨f.kind,f.kn,f.D4,f.blt,⟨m,Ns.eN hn fun o e=>hk _ o nh.symm e,fun j z w h4 h5 h6=> ?_⟩,fun z hz=> ?_,f.HM,fun z c' hz=> ?_⟩,f.L6,fun z c' hz=> ?_⟩
 ·rcases wG nd hi h4 h5 with⟨e1,e2⟩|⟨rZ,h7⟩
  ·rw[e1,hl] at h6;exact NameKind.noConfusion (Option.some.inj h6)
  ·obtain⟨y',h8,h9⟩:=hm j z w h4 h7 h6
   exact⟨y',h8,h9.bJ (fun _ _ e=>e) tp⟩
 ·by_cases Zm:z=x
  ·rw[Zm]
   refine⟨c,some y,hx,SO,fun j w h7 h8=> ?_⟩;rcases wG nd hi h7 h8 with⟨_,e2⟩|⟨rZ,_⟩
   ·exact⟨y,rfl,e2▸hv.bJ (fun _ _ e=>e) tp⟩
   ·exact absurd rfl rZ
  ·obtain⟨c',u',h4,h5,h6⟩:=f.cell z hz
   refine⟨c',u',h4,IsCell.eN h5 fun o e=>hk c' o (fun q=>Zm (f.L6 z x c (q▸h4) hx)) e,fun j w h7 h8=> ?_⟩;rcases wG nd hi h7 h8 with⟨e1,_⟩|⟨_,h9⟩
   ·exact absurd e1 Zm
   ·obtain⟨y',Yd,T5⟩:=h6 j w h7 h9
    exact⟨y',Yd,T5.bJ (fun _ _ e=>e) tp⟩
 ·obtain⟨h4,h5,h6,o,h7⟩:=f.lS z c' hz
  exact⟨h4,h5,h6,mm.has c' o h7⟩
 ·by_cases XD:c'=c
  ·exact⟨_,XD▸SO⟩
  ·obtain⟨u',hu⟩:=f.cells z c' hz
   exact⟨u',IsCell.eN hu fun o e=>hk c' o XD e⟩
noncomputable def kS(K:KC)(x:Str):Prop:=K.kn.lookup x=some .local\/K.kn.lookup x=some .cell
theorem kG{μ:Mp}{H:Hp}{s:Shared}{i:Nat}{x:Str}{v:V}{y:Value}(nd:K.vn.Nodup)(st:St W μ H s.heap)(f:qP W μ s.heap K env ρ)(hi:K.vn[i]? = some x)(hk:kS K x)(hv:aS W μ s.heap v y)
  {Q:Unit->Shared->Prop} {E:Value->Shared->Prop} (q: ∀ h' tk,Mv W (FX env) μ s.heap μ H h'->qP W μ h' K env (ρ.set i (some v))->Q () { s with heap:=h',toks:=tk }):wpAny (Mo W) A (storeName env x y) Q E s:=by
 rcases hk with hk|hk
 ·obtain⟨m,hn,hm⟩:=f.ns
  refine wpAny_storeName_local (f.Su hk) hn (fun h' SZ FH=> ?_) (by rw[f.kind];rfl);have:=f.bY nd st hi hk hv hm SZ fun b o hb e=>(FH.2 b hb).trans e;exact q h' _ this.1 this.2
 ·obtain⟨c,u,h1,h2,h3⟩:=f.cell x hk
  refine wpAny_storeName_cell f.kind (f.Su hk) h1 h2 fun h' SO FH=> ?_;have:=f.P9 nd st hi hk hv h1 SO fun b o hb e=>(FH.2 b hb).trans e;exact q h' s.toks this.1 this.2
noncomputable def UU(W:Wd)(μ:Mp)(h:Heap)(fl:Fl)(f:Flow):Prop:=match fl with
 | .next=>f= .next
 | .ret v=>dO (fun w=>f= .ret w) (fun w=>aS W μ h v w)
noncomputable def CA(W:Wd)(K:KC)(env:PySem.Env)(s:Shared)(μ:Mp)(P:PS)(Q:Flow->Shared->Prop):Prop:=
 ∀ fl ρ' H',P fl ρ' H'->∀ μ' h' tk f,Mv W (FX env) μ s.heap μ' H' h'->qP W μ' h' K env ρ'->UU W μ' h' fl f->Q f { s with heap:=h',toks:=tk }
theorem CA.step{s:Shared}{μ μ':Mp}{H':Hp}{h':Heap}{tk:Nat}{P:PS}{Q:Flow->Shared->Prop}(k:CA W K env s μ P Q)(m:Mv W (FX env) μ s.heap μ' H' h'):CA W K env { s with heap:=h',toks:=tk } μ' P Q:=fun fl ρ H p μ2 h2 tk2 f m2=>k fl ρ H p μ2 h2 tk2 f (m.trans m2)
theorem CA.next{s:Shared}{μ:Mp}{H:Hp}{P:PS}{Q:Flow->Shared->Prop}(k:CA W K env s μ P Q)(p:P .next ρ H){h':Heap}{tk:Nat}{μ':Mp}(m:Mv W (FX env) μ s.heap μ' H h')(f:qP W μ' h' K env ρ):Q .next { s with heap:=h',toks:=tk }:=k .next ρ H p μ' h' tk .next m f rfl
noncomputable def eC(W:Wd)(A:Around)(cl:Call)(K:KC)(env:PySem.Env)(st:S)(ps:Stmt):Prop:=
 ∀ {ρ H μ} {s:Shared} {P:PS},qP W μ s.heap K env ρ->St W μ H s.heap->wS W.G cl st ρ H P->∀ Q E,CA W K env s μ P Q->wpAny (Mo W) A (exec ps env) Q E s
noncomputable def hZ(W:Wd)(A:Around)(cl:Call)(K:KC)(env:PySem.Env)(st:List S)(ps:List Stmt):Prop:=
 ∀ {ρ H μ} {s:Shared} {P:PS},qP W μ s.heap K env ρ->St W μ H s.heap->eI W.G cl st ρ H P->∀ Q E,CA W K env s μ P Q->wpAny (Mo W) A (execs ps env) Q E s
theorem Mv.fx{X:Addr->Prop}{μ μ':Mp}{H':Hp}{h h':Heap}(m:Mv W X0 μ h μ' H' h'):Mv W X μ h μ' H' h':=m.OX fun _ _ _ q=>q.elim
theorem Qb{pos:Pos}: eC W A cl K env .BU (.Pass pos):=fun f st w Q E q=>wpAny_Pass (q.next (tk:=_) w (.refl st) f)
theorem QW{ps:Stmt}: eC W A cl K env .fail ps:=fun f st w=>w.elim
theorem Tr{e:E}{pe:Expr}{pos:Pos}(h: ∀ ρ,aT W A cl K env ρ e pe):eC W A cl K env (.ret e) (.Return (some pe) pos):=fun f st w Q E q=>
 wpAny_Return_some (h _ f.toFrOk st w _ _ fun v H1 w1 μ1 h1 tk1 y m1 hv=>q _ _ _ w1 μ1 h1 tk1 (.ret y) m1.fx (f.mv st m1) ⟨y,rfl,hv⟩)
theorem Qc{pos:Pos}: eC W A cl K env .ET (.Return none pos):=fun {ρ H μ s P} f st w Q E q=>
 wpAny_Return_none (q _ _ _ w μ s.heap s.toks (.ret .none) (.refl st) f ⟨_,rfl,.none⟩)
theorem Tn:hZ W A cl K env [] []:=fun f st w Q E q=>wpAny_execs_nil (q.next (tk:=_) w (.refl st) f)
theorem QP{x:S}{xs:List S}{p:Stmt}{ps:List Stmt}(h1:eC W A cl K env x p)(h2:hZ W A cl K env xs ps):hZ W A cl K env (x::xs) (p::ps):=fun f st w Q E q=>by
 refine wpAny_execs_cons (h1 f st w _ _ fun fl ρ1 H1 w1 μ1 Oh tk1 fw m1 f1 hf=> ?_);cases fl with
 | next=>
  rw[show fw= .next from hf];exact h2 f1 m1.st w1 _ _ (q.step m1)
 | ret v=>
  obtain⟨y,rfl,hv⟩:=hf;exact q _ _ _ w1 μ1 Oh tk1 _ m1 f1 ⟨y,rfl,hv⟩
theorem WY{c:E}{t f':List S}{pc:Expr}{pt pf:List Stmt}{pos:Pos}(hc: ∀ ρ,gA W A cl K env ρ c pc)(ht:hZ W A cl K env t pt)(hf:hZ W A cl K env f' pf):eC W A cl K env (.fU c t f') (.If pc pt pf pos):=fun f st w Q E q=>by
 refine wpAny_If ((hc _).tv f.toFrOk st w _ _ fun b H1 w1 μ1 h1 tk1 m1=> ?_);cases b with
 | true=>exact ht (f.mv st m1) m1.st w1 _ _ (q.step m1.fx)
 | false=>exact hf (f.mv st m1) m1.st w1 _ _ (q.step m1.fx)
end
end Mine
namespace Mine
open PySem PySem.W PyProof.Rows PySem.SeqAt
section
variable{W:Wd}{A:Around}{cl:Call}{K:KC}{env:PySem.Env}{ρ:cP}
theorem CL{f:Expr}{as:List Expr}{ks:List Keyword}{p pos:Pos}{v:Value}{s:Shared}{Q:Flow->Shared->Prop}{E:Value->Shared->Prop}(h:Q .next s):wpAny (Mo W) A (dropValue (.Call f as ks p) pos v) Q E s:=by
 cases v with
 | ref=>exact wpAny_bind (wpAny_standAt (wpAny_bind (wpAny_runValue (codeAny_builtin entry_let_go (show wpAny _ _ (ret .none) _ _ s from wpAny_pure (wpAny_pure h))))))
 | _=>exact wpAny_pure h
theorem QV{e:E}{pf:Expr}{as:List Expr}{p pos:Pos}(h: ∀ ρ,aT W A cl K env ρ e (.Call pf as [] p)):eC W A cl K env (.expr e) (.Expr (.Call pf as [] p) pos):=fun f st w Q E q=>by
 rw[exec_Expr env _ pos (by unfold interactive;rw[f.kind];rfl) (nC rfl)];exact wpAny_bind (wpAny_standAt (wpAny_bind (h _ f.toFrOk st w _ _ fun v H1 w1 μ1 h1 tk1 y m1 hv=>CL (q.next w1 m1.fx (f.mv st m1)))))
theorem Tp{i:Nat}{x:Str}{px:Pos}{e:E}{pe:Expr}{pos:Pos}(nd:K.vn.Nodup)(hi:K.vn[i]? = some x)(hk:kS K x)(Om:env.scope.kind= .function->env.scope.names=K.kn->swapsWith pe (some (.Name x px)) pos.line env=pure false)
  (h: ∀ ρ,aT W A cl K env ρ e pe):eC W A cl K env (.eO i e) (.Assign [.Name x px] pe pos):=fun {ρ H μ s P} f st w Q E q=>
 wpAny_Assign_Name (h _ f.toFrOk st w _ _ fun v H1 w1 μ1 h1 tk1 y m1 hv=>kG (s:= { s with heap:=h1,toks:=tk1 }) nd m1.st (f.mv st m1) hi hk hv fun h' tk m f'=>q.next w1 (m1.fx.trans m) f') (Om f.kind f.kn)
theorem Bq{i:Nat}{y:Str}{py:Pos}{x:Str}{px:Pos}{fR:Nat}{it:E}{gR fT:Expr}{ifs:List Expr}{scope:Scope}{Dw pos:Pos}{ev:E}{turn:cP->V->Hp->(Option V->Hp->Prop)->Prop}(hh:A.handled=none)(nd:K.vn.Nodup)(hi:K.vn[i]? = some y)(hk:kS K y)
  (c:qO K scope x fR gR) (Om:env.scope.kind= .function->env.scope.names=K.kn->swapsWith (.ListComp fT [⟨.Name x px,gR,ifs,0⟩] scope Dw) (some (.Name y py)) pos.line env=pure true)
  (oF: ∀ ρ,aT W A cl K env ρ it gR) (ht: ∀ ρ,wQ W A K scope env ρ fR ifs fT (turn ρ))
  (fj: ∀ ρ H P,wE W.G cl ev ρ H P->wE W.G cl it ρ H fun x h=>gJ (rA (turn ρ) x P) (0,[],h)):
  eC W A cl K env (.eO i ev) (.Assign [.Name y py] (.ListComp fT [⟨.Name x px,gR,ifs,0⟩] scope Dw) pos):=fun {ρ H μ s P} f st w Q E q=>by
 have Iu:closureFor scope env=pure (iD env scope.names []):=tG fun y hy hf=>by
  obtain⟨c',u,h1,_⟩:=f.cell y.1 (c.free y hy hf);exact⟨c',h1⟩
 rw[exec_Assign_Name_used _ _ _ _ (Om f.kind f.kn)];refine wpAny_bind (wpAny_standAt (wpAny_bind ?_));show wpAny _ A (do let _ <- comprehension (.ListComp fT [⟨.Name x px,gR,ifs,0⟩] scope Dw) scope env _ (newList []) false (eval gR env) (some (assign (.Name y py) env))) _ _ s;refine wpAny_bind (wpAny_mono (wpAny_comprehension_free (use:=some (assign (.Name y py) env)) (Q:=fun _ s'=>Q .next s') rfl (gX c.set env) Iu c.kind (fun y hy hl=>(c.aA y hy hl).1) (oF ρ f.toFrOk st (fj _ _ _ w) _ _ fun A0 H1 w1 μ1 h1 tk1 v m1 hv=> ?_))
  (fun _ s' hq=>wpAny_pure (wpAny_pure hq)) fun _ _ e=>e)
 have f1:=f.mv st m1;clear Iu f st w fj Om;refine Co (RR:=fun acc C=>compPost (Mo W) A E (some (assign (.Name y py) env)) (fun _ s'=>Q .next s') acc C) hh nd c f1.toFrOk m1.st hv (ht ρ) w1 ?_;intro D C h' tk μ' Hn vs p cd SK;show wpAny _ A (assign (.Name y py) env (.ref D)) _ _ _;have ec: ¬ FX env C:=fun z=>by
  rcases z with z|⟨z,hz⟩
  ·obtain⟨mm,hm,_⟩:=f1.ns
   obtain⟨o,ho⟩:=Ns.has hm;exact cY (SK.symm.trans (z▸ho))
  ·obtain⟨_,_,_,o,ho⟩:=f1.lS z C hz
   exact cY (SK.symm.trans ho)
 refine wpAny_assign_Name (kG (s:= { s with heap:=h',toks:=tk }) nd cd.1.st (f1.mv m1.st cd.1) hi hk cd.2 fun h2 tk2 m2 f3=> ?_);obtain⟨m,XM⟩:=cd.3;have VU:=Ns.eN XM fun o e=>m2.keep C o cd.4 ec e;refine⟨m,VU,fun h3 Mt=> ?_⟩;have mt:=(cd.1.fx (X:=FX env)).trans m2;have Iv: ∀ b o,b≠C->h2.get? b=some o->h3.get? b=some o:=fun b o hb e=>(Mt.2 b hb).trans e;have nf: ∀ {a o},a=C->h2.get? a=some o->¬ yD o:=fun ha e=>Ns.KH VU (ha▸e);have ma:=mt.sZ (fun a=>a=C) (fun a ha=>ha▸⟨cd.4,(m1.st.dD SK).2,SK⟩) (fun a o ha e=>nf ha e) (h':=h3) (fun b o hb e=>Iv b o hb e);exact q.next p (m1.fx.trans ma) (f3.keep (fun a o e hf=>Iv a o (fun z=>nf z e hf) e) fun b o hb e=>Iv b o (fun z=>ec (z▸hb)) e)
end
end Mine
namespace Mine
open PySem PySem.W PyProof.Rows PySem.SeqAt
section
variable{W:Wd}{A:Around}{cl:Call}{K:KC}{env:PySem.Env}{ρ:cP}
theorem vI{t value:Expr}{pos:Pos}{s:Shared}{Q:Flow->Shared->Prop}{E:Value->Shared->Prop}(hc:lZ value=false)(e2:swappedStores [t] value env=pure none)(e3:(assignEach [t] env).map (·.2)=[assign t env])
  (h:wpAny (Mo W) A (eval value env) (fun v s₁=>wpAny (Mo W) A (assign t env v) (fun _ s₂=>Q .next s₂) E s₁) E s):wpAny (Mo W) A (exec (.Assign [t] value pos) env) Q E s:=by
 show wpAny _ _ (do
  standAt pos
  if <- swapsWithSole [t] value pos.line env then do
   evalThenUse value env fun v=>assignAll v ((assignEach [t] env).map (·.2))
   pure .next
  else do
   let v <- eval value env
   assignStores env v (<- swappedStores [t] value env) ((assignEach [t] env).map (·.2))) Q E s
 have e1:swapsWithSole [t] value pos.line env=pure false:=nC hc;rw[e1,e2,e3];exact wpAny_bind (wpAny_standAt (wpAny_bind (wpAny_pure (wpAny_bind (wpAny_mono h (fun v s₁ h₁=>wpAny_bind (wpAny_pure (wpAny_bind (m:=assign t env v) (wpAny_mono h₁ (fun _ s₂ h₂=>wpAny_pure h₂) fun _ _ x=>x)))) fun _ _ x=>x)))))
theorem QQ{o e:E}{a:Nat}{x:Str}{o' pe:Expr}{ap pos:Pos}(wo:oH W)(ha:W.an a=some x)(hc:lZ pe=false)(ho: ∀ ρ,aT W A cl K env ρ o o')(he: ∀ ρ,aT W A cl K env ρ e pe):eC W A cl K env (.bZ o a e) (.Assign [.Attribute o' x ap] pe pos):=fun {ρ H μ s P} f st w Q E q=>by
 refine vI hc rfl rfl (he _ f.toFrOk st w _ _ fun v H1 w1 μ1 h1 tk1 y m1 hv=> ?_);rw[arm_assign_Attribute];refine wpAny_bind (wpAny_holding (ho _ (f.toFrOk.mv st m1) m1.st w1 _ _ fun x H2 w2 μ2 h2 tk2 u m2 hu=> ?_));obtain⟨H3,hs,w3⟩:=w2.ok;exact wpAny_bind (wpAny_standAt (wpAny_bind (wpAny_holding (Bk (s:= { s with heap:=h2,toks:=tk2 }) wo m2.st ha hu (hv.mv m1.st m2) hs fun μ3 h3 OJ m3=>wpAny_release (q.next w3 ((m1.trans m2).trans m3).fx (((f.mv st m1).mv m1.st m2).mv m2.st m3))))))
theorem QR{o i e:E}{o' i' pe:Expr}{sp pos:Pos}(wo:oH W)(hc:lZ pe=false)(ho: ∀ ρ,aT W A cl K env ρ o o')(hi: ∀ ρ,aT W A cl K env ρ i i')(he: ∀ ρ,aT W A cl K env ρ e pe):eC W A cl K env (.Dh o i e) (.Assign [.Subscript o' i' sp] pe pos):=fun {ρ H μ s P} f st w Q E q=>by
 refine vI hc rfl rfl (he _ f.toFrOk st w _ _ fun v H1 w1 μ1 h1 tk1 y m1 hv=> ?_);rw[arm_assign_Subscript];refine wpAny_bind (wpAny_holding (ho _ (f.toFrOk.mv st m1) m1.st w1 _ _ fun x H2 w2 μ2 h2 tk2 u m2 hu=>wpAny_bind (wpAny_holding (hi _ ((f.toFrOk.mv st m1).mv m1.st m2) m2.st w2 _ _ fun k H3 w3 μ3 h3 OJ kv m3 T9=> ?_))));obtain⟨n,hn,w4⟩:=w3.ok;obtain⟨H4,hs,w5⟩:=w4.ok;rw[dW hn] at T9;obtain⟨t,rfl⟩:=T9.dF;exact wpAny_bind (wpAny_standAt (wpAny_bind (wpAny_holding (rR (s:= { s with heap:=h3,toks:=OJ }) wo.toWOk m3.st (hu.mv m2.st m3) ((hv.mv m1.st m2).mv m2.st m3) hs fun μ4 h4 Xk m4=>wpAny_release (q.next w5 (((m1.trans m2).trans m3).trans m4).fx ((((f.mv st m1).mv m1.st m2).mv m2.st m3).mv m3.st m4))))))
noncomputable def M6:GN->Bool
 | .add=>true
 | .sub=>true
 | _=>false
theorem tK{op:GN}{a b c:Int}{t u:Tok}{s:Shared}{μ:Mp}{H:Hp}(ho:M6 op=true)(st:St W μ H s.heap)(e:CI op a b=some c):DX W A s μ (inplaceOp (xO op) (.int a t) (.int b u)) (.int c,H):=by
 intro Q E r;cases op with
 | add=>rw[<- Option.some.inj e] at r;exact PySem.P.iadd_int (r.gM st (.int _ _))
 | sub=>rw[<- Option.some.inj e] at r;exact PySem.P.isub_int (r.gM st (.int _ _))
 | _=>exact eJ ho
theorem HL{μ:Mp}{s:Shared}{i:Nat}{x:Str}{v:V}(f:FrOk W μ s.heap K env ρ)(hi:K.vn[i]? = some x)(hk:kS K x)(hv:HN ρ i=some v){Q:Value->Shared->Prop}{E:Value->Shared->Prop}(q: ∀ y,aS W μ s.heap v y->Q y s):wpAny (Mo W) A (loadName env x) Q E s:=by
 have hv:=C3 hv;rcases hk with hk|hk
 ·obtain⟨m,hn,hm⟩:=f.ns
  obtain⟨y,h1,h2⟩:=hm i x v hi hv hk;exact wpAny_loadName_local f.kind (f.Su hk) hn h1 (q y h2)
 ·obtain⟨c,u,h1,h2,h3⟩:=f.cell x hk
  obtain⟨y,rfl,h5⟩:=h3 i v hi hv;exact wpAny_loadName_cell f.kind (f.Su hk) h1 h2 (q y h5)
theorem Tq{i:Nat}{x:Str}{px pos:Pos}{op:GN}{e:E}{pe:Expr}(nd:K.vn.Nodup)(kC:M6 op=true)(hi:K.vn[i]? = some x)(hk:kS K x)(h: ∀ ρ,aT W A cl K env ρ e pe):
  eC W A cl K env (.Oa i op e) (.AugAssign (.Name x px) (xO op) pe pos):=fun {ρ H μ s P} f st w Q E q=>by
 obtain⟨xv,ha,w⟩:=w.ok;obtain⟨a,hq,w⟩:=w.ok;rw[dW hq] at ha;refine wpAny_AugAssign_Name (HL f.toFrOk hi hk ha fun y hy=> ?_);obtain⟨t,rfl⟩:=hy.dF;refine h _ f.toFrOk st w _ _ fun v H1 w1 μ1 h1 tk1 u m1 hu=> ?_;obtain⟨b,hb,w2⟩:=w1.ok;obtain⟨c,hc,w3⟩:=w2.ok;rw[dW hb] at hu;obtain⟨t',rfl⟩:=hu.dF;refine tK (s:= { s with heap:=h1,toks:=tk1 }) kC m1.st hc _ _ fun μ2 h2 tk2 v m2 hv=> ?_;exact kG (s:= { s with heap:=h2,toks:=tk2 }) nd m2.st ((f.mv st m1).mv m1.st m2) hi hk hv fun h' tk m f'=>q.next w3 ((m1.trans m2).fx.trans m) f'
theorem AK{i':Expr}{ov iv nv:Value}(hs:lA i'=false):augStore i' ov iv nv=(do holding [nv,ov,iv] (setItem ov iv nv);release [nv,ov,iv] [];pure .next):=by
 have hi:=fZ i';unfold lA at hs;revert hs hi;cases vw i' with
 | no|sl=>exact fun h=>eJ h.symm
 | const|aM=>exact fun _ hi=>Ro hi fun _ _ e=>e▸rfl
 | aN|call=>exact fun _ hi=>(show i'=_ from hi)▸rfl
 | _=>exact fun _ hi=>zS hi fun _ e=>e▸rfl
theorem QU{o i e:E}{o' i' pe:Expr}{op:GN}{sp pos:Pos}(wo:oH W)(kC:M6 op=true)(hs:lA i'=false)(ho: ∀ ρ,aT W A cl K env ρ o o')(hi: ∀ ρ,aT W A cl K env ρ i i')(he: ∀ ρ,aT W A cl K env ρ e pe):
  eC W A cl K env (.Lw o i op e) (.AugAssign (.Subscript o' i' sp) (xO op) pe pos):=fun {ρ H μ s P} f st w Q E q=>by
 show wpAny _ _ (do
  standAt pos
  let ov <- eval o' env
  let iv <- holding [ov] (eval i' env)
  let new <- holding [ov,iv] do
   standAt sp
   let WB <- getItem ov iv
   let v <- holding [WB] (eval pe env)
   standAt pos
   operate [WB,v] (inplaceOp (xO op) WB v)
  standAt sp
  augStore i' ov iv new) Q E s
 refine wpAny_bind (wpAny_standAt (wpAny_bind (ho _ f.toFrOk st w _ _ fun x H1 w1 μ1 h1 tk1 ov m1 gn=>wpAny_bind (wpAny_holding (hi _ (f.mv st m1).toFrOk m1.st w1 _ _ fun k H2 w2 μ2 h2 tk2 iv m2 Y6=> ?_)))));have f2:=(f.mv st m1).mv m1.st m2;obtain⟨n,hn,w3⟩:=w2.ok;obtain⟨z,hz,w4⟩:=w3.ok;obtain⟨a,ha,w5⟩:=w4.ok;rw[dW hn] at Y6;obtain⟨t0,rfl⟩:=Y6.dF;rw[dW ha] at hz;have q2:=q.step (tk:=tk2) (m1.trans m2).fx;have Vc:=gn.mv m1.st m2;have UN:=m2.st;clear f st w w1 w2 w3 w4 gn q m1 m2 hn ha ho hi Y6;refine wpAny_bind (wpAny_holding (wpAny_bind (wpAny_standAt (wpAny_bind (Av (s:= { s with heap:=h2,toks:=tk2 }) wo.toWOk UN Vc hz _ _ fun μ3 h3 OJ WB m3 ZH=> ?_)))));obtain⟨t,rfl⟩:=ZH.dF;refine wpAny_bind (wpAny_holding (he _ (f2.mv UN m3).toFrOk m3.st w5 _ _ fun v H4 w6 μ4 h4 Xk u m4 hu=>wpAny_bind (wpAny_standAt (wpAny_operating ?_))));obtain⟨b,hb,w7⟩:=w6.ok;obtain⟨c,hc,w8⟩:=w7.ok;obtain⟨H5,ZS,w9⟩:=w8.ok;rw[dW hb] at hu;obtain⟨t',rfl⟩:=hu.dF;have si:=m3.trans m4;refine tK (s:= { s with heap:=h4,toks:=Xk }) kC m4.st hc _ _ fun μ5 h5 Tu nv m5 pj=> ?_;refine wpAny_bind (wpAny_standAt ?_);rw[AK hs];have Z4:=si.trans m5;exact wpAny_bind (wpAny_holding (rR (s:= { s with heap:=h5,toks:=Tu }) wo.toWOk m5.st (Vc.mv UN Z4) pj ZS fun μ6 h6 tk6 m6=>wpAny_bind (wpAny_release (wpAny_pure (q2.next w9 (Z4.trans m6).fx (f2.mv UN (Z4.trans m6)))))))
end
end Mine
namespace Mine
open PySem PySem.W PyProof.Rows PySem.SeqAt
section
variable{W:Wd}{A:Around}{cl:Call}{K:KC}{env:PySem.Env}
theorem N7{c:E}{b:List S}{pc:Expr}{pb:List Stmt}{pos:Pos}(hc: ∀ ρ,gA W A cl K env ρ c pc)(hb:hZ W A cl K env b pb):eC W A cl K env (.qM c b) (.While pc pb [] pos):=fun {ρ H μ s P} f st w Q E q=>by
 obtain⟨n,I,i0,it⟩:=w;refine wpAny_While (codeAny_whileLoop (fun n s'=>∃ ρk Hk μk hk tk,s'= { s with heap:=hk,toks:=tk }/\I n (ρk,Hk)/\Mv W (FX env) μ s.heap μk Hk hk/\qP W μk hk K env ρk) ?_ n ⟨ρ,H,μ,s.heap,s.toks,rfl,i0,.refl st,f⟩);rintro n s' ⟨ρk,Hk,μk,hk,tk,rfl,ik,mk,fk⟩;refine (hc ρk).tv (s:= { s with heap:=hk,toks:=tk }) (P:=fun t h1=>cR t (eI W.G cl b ρk h1 (jE (fun ρ h=>∃ m,m<n/\I m (ρ,h)) P)) (P .next ρk h1)) fk.toFrOk mk.st (it n _ ik) _ _ fun t H1 w1 μ1 h1 tk1 m1=> ?_;cases t with
 | false=>exact wpAny_execs_nil (q.next w1 (mk.trans m1.fx) (fk.mv mk.st m1))
 | true=>
  refine hb (fk.mv mk.st m1) m1.st w1 _ _ fun fl ρ2 H2 w2 μ2 h2 tk2 fw m2 f2 hf=> ?_;cases fl with
  | next=>
   obtain⟨m,hm,i2⟩:=w2;rw[show fw= .next from hf];exact⟨m,hm,ρ2,H2,μ2,h2,tk2,rfl,i2,(mk.trans m1.fx).trans m2,f2⟩
  | ret v=>
   obtain⟨y,rfl,hv⟩:=hf;exact q _ _ _ w2 μ2 h2 tk2 (.ret y) ((mk.trans m1.fx).trans m2) f2 ⟨y,rfl,hv⟩
noncomputable def Qx(W:Wd)(A:Around)(env:PySem.Env)(target:Expr)(it:Value)(R:Result->Shared->Prop)(B:Shared->Prop)(s:Shared):Prop:=wpAny (Mo W) A (pyNext it) (fun r s₁=>match r with
   | none=>wpAny (Mo W) A (execs [] env) (fun f s₃=>R (.ok f) s₃) (notedBy (Mo W) A env fun e s'=>R (.error e) s') s₁
   | some v=>wpAny (Mo W) A (letOwnedTupleGo target it v) (fun _ kc=>wpAny (Mo W) A (assign target env v) (fun _ s₂=>B s₂) (notedBy (Mo W) A env fun e s'=>R (.error e) s') kc) (notedBy (Mo W) A env fun e s'=>R (.error e) s') s₁) (notedBy (Mo W) A env fun e s'=>R (.error e) s') s
theorem G2{target:Expr}{it:Value}{body:List Stmt}{R:Result->Shared->Prop}{s:Shared}(I:Nat->Shared->Prop)
  (turn: ∀ n s,I n s->Qx W A env target it R (fun s₂=>wpAny (Mo W) A (execs body env) (fun f s₃=>match f with
     | .next | .cont=>∃ m,m<n/\I m s₃
     | .brk=>R (.ok .next) s₃
     | .ret v=>R (.ok (.ret v)) s₃) (notedBy (Mo W) A env fun e s'=>R (.error e) s') s₂) s)
  (n:Nat) (h:I n s):codeAny (Mo W) A (.forLoop target it body [] env) R s:=by
 refine codeAny_loop' rfl I (fun n s hI=> ?_) n h;show wpAny _ _ ((forTurn target it body [] env).onRaise (fun x=>do noteFrame x env;theTreesLotGoes x)) _ _ s;refine wpAny_noted ?_;simp only[forTurn];refine wpAny_bind (wpAny_standAt (wpAny_bind (wpAny_onRaise (wpAny_mono (turn n s hI) (fun r s₁ h₁=> ?_) fun _ _ h'=>wpAny_standAt h'))));cases r with
 | none=>exact wpAny_pure (.inr ⟨rfl,codeAny_block h₁⟩)
 | some v=>
  refine wpAny_bind (wpAny_mono h₁ (fun _ kc qw=> ?_) fun _ _ h'=>h');refine wpAny_bind (wpAny_mono qw (fun _ s₂ h₂=>wpAny_bind (wpAny_mono h₂ (fun f s₃ h₃=> ?_) fun _ _ h'=>h')) fun _ _ h'=>h');cases f with
  | next=>exact wpAny_pure (.inl ⟨rfl,h₃⟩)
  | cont=>exact wpAny_pure (.inl ⟨rfl,h₃⟩)
  | brk=>exact wpAny_pure h₃
  | ret v=>exact wpAny_pure h₃
noncomputable def T1(X:Addr->Prop)(h h':Heap):Prop:=∀ b o,¬ X b->h.get? b=some o->h'.get? b=some o
noncomputable def Rr(W:Wd)(A:Around)(K:KC)(env:PySem.Env)(target:Expr)(it:Value)(nx:Nat->cP->Hp->Option (Option cP))(X:Addr->Prop)(J:Nat->Mp->Heap->Prop)(s:Shared):Prop:=
 ∀ {k ρk Hk μk hk tk y},nx k ρk Hk=some y->St W μk Hk hk->J k μk hk->(∀ a,X a->¬ mM μk a)->(∀ a,X a->¬ FX env a)->(∀ h1,T1 X hk h1->St W μk Hk h1/\qP W μk h1 K env ρk)->∀ {R B},
  (y=none->∀ h' UP,T1 X hk h'->wpAny (Mo W) A (execs [] env) (fun f s₃=>R (.ok f) s₃) (notedBy (Mo W) A env fun e s'=>R (.error e) s') { s with heap:=h',toks:=UP })->
  (∀ ρ1,y=some ρ1->∀ h1 h2 tk2,T1 X hk h1->Mv W (FX env) μk h1 μk Hk h2->qP W μk h2 K env ρ1->J (k+1) μk h2->B { s with heap:=h2,toks:=tk2 })->Qx W A env target it R B { s with heap:=hk,toks:=tk }
theorem xN{target:Expr}{it:Value}{b:List S}{pb:List Stmt}{nx:Nat->cP->Hp->Option (Option cP)}{X:Addr->Prop}{J:Nat->Mp->Heap->Prop}{ρ:cP}{H:Hp}{μ:Mp}{s:Shared}{P:PS}{h1:Heap}{tk1:Nat}{R:Result->Shared->Prop}(hb:hZ W A cl K env b pb)
  (st:St W μ H s.heap) (f:qP W μ s.heap K env ρ) (pl: ∀ a,X a->s.heap.get? a=none) (hJ: ∀ {k μk hk a},J k μk hk->X a->dO (fun o=>hk.get? a=some o) (fun o=>¬ yD o))
  (mJ: ∀ {k μk hk μ' H' h'},J k μk hk->(∀ a,X a->¬ mM μk a)->(∀ a,X a->¬ FX env a)->Mv W (FX env) μk hk μ' H' h'->TP hk h'->J k μ' h') (jl:Rr W A K env target it nx X J s)
  (k1: ∀ b o,s.heap.get? b=some o->h1.get? b=some o) (j0:J 0 μ h1) (w:gJ (rB nx (eI W.G cl b) P) (0,ρ,H)) (q:CA W K env s μ P fun f s'=>R (.ok f) s'):
  codeAny (Mo W) A (.forLoop target it pb [] env) R { s with heap:=h1,toks:=tk1 }:=by
 obtain⟨n,I,i0,iu⟩:=w;have nX: ∀ a,X a->¬ FX env a:=fun a hx z=>by
  rcases z with z|⟨z,hz⟩
  ·obtain⟨mm,hm,_⟩:=f.ns
   obtain⟨o,ho⟩:=Ns.has hm;exact cY ((pl a hx).symm.trans (z▸ho))
  ·obtain⟨_,_,_,o,ho⟩:=f.lS z a hz
   exact cY ((pl a hx).symm.trans ho)
 have m0:=Mv.of_keep st k1;refine G2 (fun n s'=>∃ k ρk Hk μk hk tk,s'= { s with heap:=hk,toks:=tk }/\I n (k,ρk,Hk)/\Mv W (FX env) μ s.heap μk Hk hk/\qP W μk hk K env ρk/\J k μk hk/\∀ a,X a->¬ mM μk a) ?_ n
  ⟨0,ρ,H,μ,h1,tk1,rfl,i0,m0.fx,f.mv st m0,j0,fun a hx=>(st.dD (pl a hx)).1⟩
 clear m0 k1 j0 i0;rintro n s' ⟨k,ρk,Hk,μk,hk,tk,rfl,ik,mk,fk,jk,oX⟩;obtain⟨y,hy,w⟩:=(iu n _ ik).ok;have step: ∀ h1,T1 X hk h1->Mv W (FX env) μ s.heap μk Hk h1/\qP W μk h1 K env ρk:=fun h1 kp=>by
  have tp:TP hk h1:=fun a o e hf=>kp a o (fun z=>by obtain⟨o',e',nf⟩:=hJ jk z;exact nf (Option.some.inj (e.symm.trans e')▸hf)) e;refine⟨mk.sZ X (fun a ha=>⟨oX a ha,(st.dD (pl a ha)).2,pl a ha⟩) (fun a o ha e=>by obtain⟨o',e',nf⟩:=hJ jk ha;exact Option.some.inj (e'.symm.trans e)▸nf) kp,fk.keep tp fun b o hb e=>kp b o (fun z=>nX b z hb) e⟩
 refine jl hy mk.st jk oX nX (fun h1 kp=>⟨(step h1 kp).1.st,(step h1 kp).2⟩) (fun e h' UP kp=> ?_) (fun ρ1 e h1 h2 tk2 kp m2 f2 j2=> ?_)
 ·rw[e] at w
  exact wpAny_execs_nil (q.next w (step h' kp).1 (step h' kp).2)
 ·rw[e] at w
  have mt:=(step h1 kp).1.trans m2;clear step iu hy e kp jl jk mk fk;refine hb (s:= { s with heap:=h2,toks:=tk2 }) f2 m2.st w _ _ fun fl ρ3 H3 w3 μ3 h3 OJ fw m3 f3 hf=> ?_;cases fl with
  | next=>
   obtain⟨m,hm,i3⟩:=w3;rw[show fw= .next from hf];refine⟨m,hm,k+1,ρ3,H3,μ3,h3,OJ,rfl,i3,mt.trans m3,f3,mJ j2 oX nX m3 (m3.Re m2.st (f2.toFrOk.KH f2.cells)),fun a hx=> ?_⟩;obtain⟨o,ho,_⟩:=hJ j2 hx;exact m3.TK (oX a hx) ho
  | ret v=>
   obtain⟨y,rfl,hv⟩:=hf;exact q _ _ _ w3 μ3 h3 OJ (.ret y) (mt.trans m3) f3 ⟨y,rfl,hv⟩
noncomputable def JQ:List String:=["enumerate","zip","dict_itemiterator","dict_reverseitemiterator","odict_iterator","itertools.zip_longest","itertools.pairwise"]
theorem sI{target:Expr}{I:Addr}{w:Value}{o:Obj}{T:String}{s:Shared}{Q:Unit->Shared->Prop}{E:Value->Shared->Prop}(ho:s.heap.get? I=some o)(hc:o.cls= .type T)(hT:JQ.contains T=false)(q:Q () s):wpAny (Mo W) A (letOwnedTupleGo target (.ref I) w) Q E s:=by
 have go:wpAny (Mo W) A (do
   let (.ref r,.ref a):=(Value.ref I,w)|return
   let o <- load r
   match o.cls,o.data with
   | .type n,.fields vs=>
    if ["enumerate","zip","dict_itemiterator","dict_reverseitemiterator","odict_iterator","itertools.zip_longest","itertools.pairwise"].contains n&&vs[0]?==some (rawInt a) then
     rule "for.unpacks-the-owned-tuple"
     updateField r 0 .none
   | _,_=>pure ()) Q E s:=by
  cases w with
  | ref a=>
   refine wpAny_bind (wpAny_load ho ?_);rw[hc];cases hd:o.data with
   | fields vs=>
    show wpAny _ _ (if (JQ.contains T&&vs[0]?==some (rawInt a))=true then _ else _) Q E s;rw[hT,Bool.false_and,if_neg (by decide)];exact wpAny_pure q
   | _=>exact wpAny_pure q
  | _=>exact wpAny_pure q
 cases target<;>first|exact wpAny_pure q|exact go
theorem qE.own{μ:Mp}{I:Addr}{x:V}{k:Nat}{s:Shared}(i:qE W μ s.heap I x k){target:Expr}{w:Value}{Q:Unit->Shared->Prop}{E:Value->Shared->Prop}(q:Q () s):wpAny (Mo W) A (letOwnedTupleGo target (.ref I) w) Q E s:=by
 cases i with
 | list hp hi=>obtain⟨o,e,hc,hd⟩:=hi;exact sI e hc (by decide) q
 | aM hz ht hr hi=>obtain⟨o,e,hc,hd⟩:=hi;exact sI e hc (by decide) q
 | mD hl oF=>exact sI oF rfl (by decide) q
noncomputable def IU(W:Wd)(A:Around)(K:KC)(env:PySem.Env)(target:Expr)(bind:Nat->V->cP->Option cP):Prop:=
 ∀ {k z ρ ρ1 w H μ} {s:Shared} {Q:Unit->Shared->Prop} {E:Value->Shared->Prop},bind k z ρ=some ρ1->qP W μ s.heap K env ρ->St W μ H s.heap->aS W μ s.heap z w->
  (∀ h' tk,Mv W (FX env) μ s.heap μ H h'->qP W μ h' K env ρ1->Q () { s with heap:=h',toks:=tk })->wpAny (Mo W) A (assign target env w) Q E s
theorem F7{i:Nat}{x:Str}{px:Pos}(nd:K.vn.Nodup)(hi:K.vn[i]? = some x)(hk:kS K x):IU W A K env (.Name x px) (fun _ v ρ=>some (ρ.set i (some v))):=fun {k z ρ ρ1 w H μ s Q E} hb f st hv q=>by
 rw[<- Option.some.inj hb] at q;exact wpAny_assign_Name (kG nd st f hi hk hv q)
theorem MT{target:Expr}{b:List S}{pb:List Stmt}{bind:Nat->V->cP->Option cP}{A0:V}{v:Value}{ρ:cP}{H:Hp}{μ:Mp}{s:Shared}{P:PS}(hh:A.handled=none)(tg:IU W A K env target bind)(hb:hZ W A cl K env b pb)
  (f:qP W μ s.heap K env ρ) (st:St W μ H s.heap) (hv:aS W μ s.heap A0 v) (w:gJ (rB (JI bind A0) (eI W.G cl b) P) (0,ρ,H)) {R:Result->Shared->Prop} {E:Value->Shared->Prop} (q:CA W K env s μ P fun f s'=>R (.ok f) s'):
  wpAny (Mo W) A (pyIter v) (fun it s₂=>codeAny (Mo W) A (.forLoop target it pb [] env) R s₂) E s:=by
 obtain⟨y0,ip⟩: ∃ y,qA A0 0 H=some y:=by
  obtain⟨n,I,i0,it⟩:=w;obtain⟨y,hy,_⟩:=(it n _ i0).ok;obtain⟨z,hz,_⟩:=aK hy;exact⟨z,hz⟩
 refine vZ st hv ip fun h1 rE hI oF=> ?_;refine xN (X:=fun a=>a=s.heap.objs.size) (J:=fun k μ h=>qE W μ h s.heap.objs.size A0 k) (tk1:=s.toks) hb st f (fun a ha=>ha▸hI) (fun j ha=>ha▸j.has) (fun j oX nX m tp=>j.eN m.mp tp fun o e=>m.keep _ o (oX _ rfl) (nX _ rfl) e) ?_ rE oF w q;clear oF rE ip hv w q f st;intro k ρk Hk μk hk tk y hy qL jk oX nX kp R B Ar gV;obtain⟨z,hz,hy⟩:=aK hy;refine wA (s:= { s with heap:=hk,toks:=tk }) hh qL jk (oX _ rfl) hz fun h1 tk1 u rE PV HA=> ?_;cases z with
 | none=>
  rw[show u=none from HA];exact Ar (Option.some.inj hy).symm h1 tk1 rE
 | some z=>
  cases u with
  | none=>exact HA.elim
  | some v=>
   obtain⟨ρ1,hb,hy⟩:=aK hy;have ir:=PV z rfl;refine ir.own (s:= { s with heap:=h1,toks:=tk1 }) (tg (s:= { s with heap:=h1,toks:=tk1 }) hb (kp h1 rE).2 (kp h1 rE).1 HA fun h2 tk2 m2 f2=> ?_);refine gV ρ1 (Option.some.inj hy).symm h1 h2 tk2 rE m2 f2 (ir.eN (fun _ _ e=>e) (m2.Re (kp h1 rE).1 ((kp h1 rE).2.toFrOk.KH (kp h1 rE).2.cells)) fun o e=>m2.keep _ o (oX _ rfl) (nX _ rfl) e)
end
end Mine
namespace Mine
open PySem PySem.W PyProof.Rows PySem.SeqAt
inductive GS(K:KC):List Nat->List Expr->Prop where
 | nil:GS K [] []
 | cons{i:Nat}{x:Str}{p:Pos}{is:List Nat}{es:List Expr}(hi:K.vn[i]? = some x)(hk:kS K x)(t:GS K is es):GS K (i::is) (.Name x p::es)
noncomputable def jh(K:KC)(i:Nat)(x:Str):Bool:=K.vn[i]?==some x&&(K.kn.lookup x==some .local||K.kn.lookup x==some .cell)
theorem NQ{K:KC}{i:Nat}{x:Str}(h:jh K i x=true):K.vn[i]? = some x/\kS K x:=⟨eq_of_beq (aD h).1,((Bool.or_eq_true _ _).mp (aD h).2).imp eq_of_beq eq_of_beq⟩
noncomputable def V4(K:KC):List Nat->List Expr->Bool
 | [],es=>es.isEmpty
 | i::is,es=>Ij (fun e es=>jO (jh K i) (vw e)&&V4 K is es) es
theorem HT{K:KC}{is:List Nat}: ∀ {es:List Expr},V4 K is es=true->GS K is es:=by
 induction is with
 | nil=>exact fun h=>List.isEmpty_iff.mp h▸ .nil
 | cons i is ih=>
  intro es h;exact Dv h fun e es h1=>rV (P:=fun e=>GS K (i::is) (e::es)) (aD h1).1 fun x p h2=>.cons (NQ h2).1 (NQ h2).2 (ih (aD h1).2)
section
variable{W:Wd}{A:Around}{cl:Call}{K:KC}{env:PySem.Env}
set_option tactic.hygienic true in
theorem GS.len{is:List Nat}{es:List Expr}(n:GS K is es):A3 ((assignEach es env).length=es.length) ((assignEach es env).findIdx? (·.1)=none) (is.length=es.length):=by
 induction n with
 | nil=>exact⟨rfl,rfl,rfl⟩
 | cons hi hk t ih=>
  rename_i i x p is es
  have e:assignEach (.Name x p::es) env=(false,assign (.Name x p) env)::assignEach es env:=rfl;rw[e];exact⟨congrArg Nat.succ ih.1,by rw[List.findIdx?_cons,ih.2];rfl,congrArg Nat.succ ih.3⟩
theorem mG{vs:List V}{ρ ρ1:cP}(h:gS [] vs ρ=some ρ1):vs=[]/\ρ=ρ1:=by
 cases vs with
 | nil=>exact⟨rfl,Option.some.inj h⟩
 | cons=>exact cY h
theorem kF{i:Nat}{is:List Nat}{vs:List V}{ρ ρ1:cP}(h:gS (i::is) vs ρ=some ρ1):AG (fun v Ty=>vs=v::Ty) (fun v Ty=>gS is Ty (ρ.set i (some v))=some ρ1):=by
 cases vs with
 | nil=>exact cY h
 | cons v vs=>exact⟨v,vs,rfl,h⟩
theorem Bh{is:List Nat}: ∀ {vs:List V} {ρ ρ1:cP},gS is vs ρ=some ρ1->is.length=vs.length:=by
 induction is with
 | nil=>
  intro vs ρ ρ1 h;rw[(mG h).1];rfl
 | cons i is ih=>
  intro vs ρ ρ1 h;obtain⟨v,vs,rfl,h⟩:=kF h;exact congrArg Nat.succ (ih h)
noncomputable def qR(W:Wd)(A:Around)(K:KC)(env:PySem.Env)(is:List Nat)(ts:List (Value->Sem Unit)):Prop:=∀ {vs:List V} {ys:List Value} {ρ ρ1:cP} {μ:Mp} {H:Hp} {s:Shared} {Q:Unit->Shared->Prop} {E:Value->Shared->Prop},gS is vs ρ=some ρ1->qP W μ s.heap K env ρ->St W μ H s.heap->aO W μ s.heap vs ys->
  (∀ h' tk,Mv W (FX env) μ s.heap μ H h'->qP W μ h' K env ρ1->Q () { s with heap:=h',toks:=tk })->wpAny (Mo W) A (assignInOrder ts ys) Q E s
theorem Bs:qR W A K env [] []:=fun {vs ys ρ ρ1 μ H s Q E} hs f st hr q=>by
 obtain⟨e1,e2⟩:=mG hs;rw[e1] at hr;rw[show ys=[] from hr.dF];rw[e2] at f;exact wpAny_pure (q s.heap s.toks (.refl st) f)
theorem yY{i:Nat}{is:List Nat}{x:Str}{t:Value->Sem Unit}{ts:List (Value->Sem Unit)}(nd:K.vn.Nodup)(hi:K.vn[i]? = some x)(hk:kS K x)(ht: ∀ {y:Value} {s:Shared} {Q:Unit->Shared->Prop} {E:Value->Shared->Prop},wpAny (Mo W) A (storeName env x y) Q E s->wpAny (Mo W) A (t y) Q E s)(ih:qR W A K env is ts):qR W A K env (i::is) (t::ts):=fun {vs ys ρ ρ1 μ H s Q E} hs f st hr q=>by
 obtain⟨v,Ty,e1,hs⟩:=kF hs;rw[e1] at hr;obtain⟨y,LN,rfl,hv,Oj⟩:=hr.dF;show wpAny _ _ (holding LN (t y) >>= fun _=>assignInOrder ts LN) Q E s;refine wpAny_bind (wpAny_holding (ht (kG nd st f hi hk hv fun h1 tk1 m1 f1=> ?_)));exact ih (s:= { s with heap:=h1,toks:=tk1 }) hs f1 m1.st (Oj.bJ (fun _ _ e=>e) (m1.Re st (f.toFrOk.KH f.cells))) fun h' tk m f'=>q h' tk (m1.trans m) f'
theorem CR(nd:K.vn.Nodup){is:List Nat}{es:List Expr}(n:GS K is es):qR W A K env is ((assignEach es env).map (·.2)):=by
 induction n with
 | nil=>exact Bs
 | cons hi hk t ih=>exact yY nd hi hk (fun h=>wpAny_assign_Name h) ih
theorem DV{v:V}{vs:List V}(h:B3 v=some vs):v= .aM vs:=by
 cases v<;>first|exact cY h|exact congrArg V.aM (Option.some.inj h)
theorem yA{is:List Nat}{es:List Expr}{k:Nat}{p:Pos}(hh:A.handled=none)(nd:K.vn.Nodup)(n:GS K is es):IU W A K env (.Tuple es k p) (fun _ v ρ=>bO (B3 v) fun vs=>gS is vs ρ):=fun {_ z ρ ρ1 w H μ s Q E} hb f st hv q=>by
 obtain⟨vs,hu,hs⟩:=aK hb;rw[DV hu] at hv;obtain⟨a,items,rfl,hz,ht,hr⟩:=hv.dF;have hl:=n.len (env:=env);refine wpAny_assign_Tuple hh ht.is (by rw[hl.1,<- hl.3,Bh hs,hr.size]) hl.2 fun h' he=> ?_;have m0:=Mv.of_keep st (h':=h') (fun b o e=>he b o (Nat.ne_of_lt (Heap.lt_size e)) e);exact CR nd n (s:= { s with heap:=h' }) hs (f.mv st m0) m0.st (hr.mv st m0) fun h2 tk m f'=>q h2 tk (m0.fx.trans m) f'
theorem N6{target pi:Expr}{it:E}{b:List S}{pb:List Stmt}{pos:Pos}{sm:S}{bind:Nat->V->cP->Option cP}(hh:A.handled=none)(hs:tM pi=false)(tg:IU W A K env target bind)(hi: ∀ ρ,aT W A cl K env ρ it pi)(hb:hZ W A cl K env b pb)
  (Yy: ∀ {ρ H P},wS W.G cl sm ρ H P->wE W.G cl it ρ H fun x h=>gJ (rB (JI bind x) (eI W.G cl b) P) (0,ρ,h)):eC W A cl K env sm (.For target pi pb [] pos):=fun {ρ H μ s P} f st w Q E q=>
 wpAny_For (hi _ f.toFrOk st (Yy w) _ _ fun x H1 w1 μ1 h1 tk1 v m1 hv=>MT (s:= { s with heap:=h1,toks:=tk1 }) hh tg hb (f.mv st m1) m1.st hv w1 (q.step m1.fx)) (gX hs env)
theorem QZ{is:List Nat}{es:List Expr}{k:Nat}{p pos:Pos}{pi:Expr}{it:E}{b:List S}{pb:List Stmt}(hh:A.handled=none)(nd:K.vn.Nodup)(hs:tM pi=false)(n:GS K is es)(hi: ∀ ρ,aT W A cl K env ρ it pi)(hb:hZ W A cl K env b pb):
  eC W A cl K env (.KG is it b) (.For (.Tuple es k p) pi pb [] pos):=N6 (sm:=.KG is it b) (bind:=fun _ v ρ=>bO (B3 v) fun vs=>gS is vs ρ) hh hs (@yA W A K env is es k p hh nd n) hi hb fun w=>w
theorem Qa{i:Nat}{x:Str}{px pos:Pos}{pi:Expr}{it:E}{b:List S}{pb:List Stmt}(hh:A.handled=none)(nd:K.vn.Nodup)(hs:tM pi=false)(hi:K.vn[i]? = some x)(hk:kS K x)(oF: ∀ ρ,aT W A cl K env ρ it pi)(hb:hZ W A cl K env b pb):
  eC W A cl K env (.qK i it b) (.For (.Name x px) pi pb [] pos):=N6 (sm:=.qK i it b) (bind:=fun _ v ρ=>some (ρ.set i (some v))) hh hs (@F7 W A K env i x px nd hi hk) oF hb fun w=>w
end
end Mine
namespace Mine
open PySem PySem.W PyProof.Rows PySem.SeqAt
noncomputable def lI(K:KC)(ts:List Expr):List Str:=
 ts.filterMap fun
  | .Name id pos=>if K.kn.lookup id==some .local&&pos.line==((ts.head?.map (·.pos.line)).getD 0) then some id else none
  | _=>none
theorem jz{e:Expr}{b:Bool}: (match e with | .Starred .. =>b|_=>b)=b:=by cases e<;>rfl
noncomputable def ka(K:KC)(ts vs:List Expr):Option (Option (List Str)):=
 cR (!(ts.length==2||ts.length==3)||vs.length != ts.length||false) (some none) <|
 cR (vs.any fun | .Starred .. =>true|_=>false) (some none) <|
 cR ((lI K ts).length != ts.length||(lI K ts).eraseDups.length != (lI K ts).length) (some none) <|
 cR (vs.all (foldedForSure 8)) (some none) <|
 cR (vs.all (constantsAlone 8)) none (some (some (lI K ts)))
noncomputable def uk(K:KC)(ts:List Expr):XV->Option (Option (List Str))
 | .aM vs=>ka K ts vs
 | .no=>none
 | _=>some none
noncomputable def xZ(K:KC)(ts:List Expr)(e:Expr):Option (Option (List Str)):=uk K ts (vw e)
section
variable{W:Wd}{A:Around}{cl:Call}{K:KC}{env:PySem.Env}
theorem Xi{c:Bool}{u r:Option (List Str)}{x:Option (Option (List Str))}{y:Sem (Option (List Str))}(h:cR c (some u) x=some r)(g:x=some r->y=pure r):(if c=true then pure u else y)=pure r:=by
 cases c with
 | true=>exact congrArg pure (Option.some.inj h)
 | false=>exact g h
theorem uj{c:Bool}{r:Option (List Str)}{x:Option (Option (List Str))}{y z:Sem (Option (List Str))}(h:cR c none x=some r)(g:x=some r->y=pure r):(if c=true then z else y)=pure r:=by
 cases c with
 | true=>exact cY h
 | false=>exact g h
theorem Ts{ts vs:List Expr}{k k2:Nat}{p p2:Pos}{r:Option (List Str)}(hk:env.scope.kind= .function)(hn:env.scope.names=K.kn)(h:ka K ts vs=some r):swappedStores [.Tuple ts k p] (.Tuple vs k2 p2) env=pure r:=by
 have hb:env.blockKind= .function:=by unfold Env.blockKind;rw[hk];rfl
 have T8:env.kindOf=fun x=>K.kn.lookup x:=funext fun x=>by unfold Env.kindOf;rw[hn]
 unfold swappedStores;rw[hb,T8];exact Xi h fun h=>Xi h fun h=>Xi h fun h=>Xi h fun h=>uj h fun h=>congrArg pure (Option.some.inj h)
theorem LC{ts:List Expr}{k:Nat}{p:Pos}{value:Expr}{r:Option (List Str)}(hk:env.scope.kind= .function)(hn:env.scope.names=K.kn)(h:xZ K ts value=some r):swappedStores [.Tuple ts k p] value env=pure r:=by
 have hi:=fZ value;unfold xZ at h;revert h hi;cases vw value with
 | no=>exact cY
 | aM=>exact fun h hi=>Ro hi fun _ _ e=>e▸Ts hk hn h
 | const=>exact fun h hi=>Ro hi fun _ _ e=>e▸congrArg pure (Option.some.inj h)
 | aN|call=>exact fun h hi=>(show value=_ from hi)▸congrArg pure (Option.some.inj h)
 | _=>exact fun h hi=>zS hi fun _ e=>e▸congrArg pure (Option.some.inj h)
inductive Jm(K:KC):List Nat->List Str->Prop where
 | nil:Jm K [] []
 | cons{i:Nat}{x:Str}{is:List Nat}{xs:List Str}(hi:K.vn[i]? = some x)(hk:kS K x)(t:Jm K is xs):Jm K (i::is) (x::xs)
theorem Jm.append{is:List Nat}{xs:List Str}(n:Jm K is xs){js:List Nat}{ys:List Str}(m:Jm K js ys):Jm K (is++js) (xs++ys):=by
 induction n with
 | nil=>exact m
 | cons hi hk t ih=>exact .cons hi hk ih
theorem Jm.reverse{is:List Nat}{xs:List Str}(n:Jm K is xs):Jm K is.reverse xs.reverse:=by
 induction n with
 | nil=>exact .nil
 | cons hi hk t ih=>rw[List.reverse_cons,List.reverse_cons];exact ih.append (.cons hi hk .nil)
theorem E0(nd:K.vn.Nodup){is:List Nat}{xs:List Str}(n:Jm K is xs):qR W A K env is (xs.map fun n=>bindName env n):=by
 induction n with
 | nil=>exact Bs
 | cons hi hk t ih=>exact yY nd hi hk (fun h=>wpAny_bindName h) ih
theorem ID{i:Nat}{v:V}{is:List Nat}: ∀ {vs:List V} {ρ ρ1:cP},i∉is->gS is vs (ρ.set i (some v))=some ρ1->dO (fun r=>gS is vs ρ=some r) (fun r=>ρ1=r.set i (some v)):=by
 induction is with
 | nil=>
  intro vs ρ ρ1 _ h;obtain⟨e1,e2⟩:=mG h;exact⟨ρ,by rw[e1];rfl,e2.symm⟩
 | cons j is ih=>
  intro vs ρ ρ1 hn h;obtain⟨w,Ty,rfl,h2⟩:=kF h;rw[List.set_comm _ _ fun (z:i=j)=>hn (List.mem_cons.mpr (.inl z))] at h2;exact ih (fun z=>hn (List.mem_cons_of_mem _ z)) h2
theorem Fx{i:Nat}{v:V}{is:List Nat}: ∀ {vs:List V} {ρ ρ1:cP},gS is vs ρ=some ρ1->gS (is++[i]) (vs++[v]) ρ=some (ρ1.set i (some v)):=by
 induction is with
 | nil=>
  intro vs ρ ρ1 h;obtain⟨e1,e2⟩:=mG h;rw[e1,e2];rfl
 | cons j is ih=>
  intro vs ρ ρ1 h;obtain⟨w,Ty,rfl,h2⟩:=kF h;exact ih h2
theorem Bj{is:List Nat}: ∀ {vs:List V} {ρ ρ1:cP},is.Nodup->gS is vs ρ=some ρ1->gS is.reverse vs.reverse ρ=some ρ1:=by
 induction is with
 | nil=>
  intro vs ρ ρ1 _ h;have e:=(mG h).1;rw[e] at h ⊢;exact h
 | cons i is ih=>
  intro vs ρ ρ1 nd h;obtain⟨n1,n2⟩:=List.nodup_cons.mp nd;obtain⟨v,Ty,rfl,h2⟩:=kF h;obtain⟨r,hr,e⟩:=ID n1 h2;rw[List.reverse_cons,List.reverse_cons,e];exact Fx (ih n2 hr)
theorem aO.reverse{μ:Mp}{h:Heap}{xs:List V}: ∀ {ys:List Value},aO W μ h xs ys->aO W μ h xs.reverse ys.reverse:=by
 induction xs with
 | nil=>exact fun r=>(r.dF:_=[])▸ .nil
 | cons x xs ih=>
  intro ys r;obtain⟨y,LN,rfl,hx,hs⟩:=r.dF;rw[List.reverse_cons,List.reverse_cons];exact (ih hs).append (.cons hx .nil)
set_option tactic.hygienic true in
theorem GS.names{is:List Nat}{es:List Expr}(n:GS K is es){p:Str->Pos->Bool}: (es.filterMap fun | .Name id pos=>if p id pos then some id else none|_=>none).length=es.length->Jm K is (es.filterMap fun | .Name id pos=>if p id pos then some id else none|_=>none):=by
 induction n with
 | nil=>exact fun _=>.nil
 | cons hi hk t ih=>
  intro h
  rename_i i x q is es
  rw[List.filterMap_cons] at h ⊢;dsimp only at h ⊢;by_cases hp:p x q=true
  ·rw[if_pos hp] at h ⊢
   exact .cons hi hk (ih (Nat.succ.inj h))
  ·rw[if_neg hp] at h
   exact absurd (h▸List.length_filterMap_le _ es) (Nat.not_succ_le_self _)
theorem Xj{c:Bool}{x:Option (Option (List Str))}{n:List Str}{P:Prop}(h:cR c (some none) x=some (some n))(g:c=false->x=some (some n)->P):P:=by
 cases c with
 | true=>exact cY (Option.some.inj h)
 | false=>exact g rfl h
theorem Eg{ts:List Expr}{pe:Expr}{names:List Str}(h:xZ K ts pe=some (some names)):names=lI K ts/\names.length=ts.length:=by
 unfold xZ at h;revert h;cases vw pe with
 | no=>exact cY
 | aM=>
  refine fun h=>Xj h fun _ h=>Xj h fun _ h=>Xj h fun c3 h=>Xj h fun _ h=> ?_;revert h;cases List.all _ _ with
  | true=>exact cY
  | false=>
   intro h;rw[<- Option.some.inj (Option.some.inj h)];exact⟨rfl,Decidable.byContradiction fun z=>Bool.noConfusion (((Bool.or_eq_true _ _).mpr (.inl (bne_iff_ne.mpr z))).symm.trans c3)⟩
 | _=>exact fun h=>cY (Option.some.inj h)
theorem QT{is:List Nat}{es:List Expr}{k:Nat}{p pos:Pos}{e:E}{pe:Expr}{r:Option (List Str)}(hh:A.handled=none)(nd:K.vn.Nodup)(n:GS K is es)(sv:is.Nodup)(hc:lZ pe=false)(hr:xZ K es pe=some r)(h: ∀ ρ,aT W A cl K env ρ e pe):
  eC W A cl K env (.jC is e) (.Assign [.Tuple es k p] pe pos):=fun {ρ H μ s P} f st w Q E q=>by
 show wpAny _ _ (do
  standAt pos
  if <- swapsWithSole [.Tuple es k p] pe pos.line env then do
   evalThenUse pe env fun v=>assignAll v ((assignEach [.Tuple es k p] env).map (·.2))
   pure .next
  else do
   let v <- eval pe env
   assignStores env v (<- swappedStores [.Tuple es k p] pe env) ((assignEach [.Tuple es k p] env).map (·.2))) Q E s
 have YM:swapsWithSole [.Tuple es k p] pe pos.line env=pure false:=nC (t:=some (.Tuple es k p)) (l:=pos.line) (env:=env) hc;rw[YM];refine wpAny_bind (wpAny_standAt (wpAny_bind (wpAny_pure (wpAny_bind (h ρ f.toFrOk st w _ _ fun v H1 w1 μ1 h1 tk1 w m1 hw=> ?_)))));obtain⟨vs,hu,w2⟩:=w1.ok;obtain⟨ρ1,hs,w3⟩:=w2.ok;rw[LC f.kind f.kn hr];refine wpAny_bind (wpAny_pure ?_);have f1:=f.mv st m1;cases r with
 | none=>
  show wpAny _ _ (assignAll w [assign (.Tuple es k p) env] >>= fun _=>pure .next) Q E _;exact wpAny_bind (m:=assign (.Tuple es k p) env w) (@yA W A K env is es k p hh nd n 0 v ρ ρ1 w H1 μ1 { s with heap:=h1,toks:=tk1 } _ _ ((dT hu).trans hs) f1 m1.st hw fun h' tk m f'=>wpAny_pure (q.next w3 (m1.fx.trans m) f'))
 | some names=>
  obtain⟨en,ZE⟩:=Eg hr;rw[en] at ZE ⊢;have Sa:Jm K is (lI K es):=n.names (p:=fun id pos=>K.kn.lookup id==some .local&&pos.line==((es.head?.map (·.pos.line)).getD 0)) ZE;rw[DV hu] at hw;obtain⟨a,items,rfl,hz,ht,Oj⟩:=hw.dF;show wpAny _ _ (do
   rule "assign.swapped-stores"
   let items <- unpackItems (.ref a) (lI K es).length none
   assignInOrder ((lI K es).reverse.map fun n=>bindName env n) items.reverse
   pure .next) Q E _
  rw[show (lI K es).length=items.size from ZE.trans ((n.len (env:=env)).3.symm.trans ((Bh hs).trans Oj.size))];refine wpAny_bind (wpAny_rule (wpAny_bind (wpAny_unpackItems_tuple hh ht.is fun h' he=> ?_)));have m0:=Mv.of_keep m1.st (h':=h') (fun b o e=>he b o (Nat.ne_of_lt (Heap.lt_size e)) e);refine wpAny_bind (E0 (s:= { s with heap:=h',toks:=tk1 }) nd Sa.reverse (Bj sv hs) (f1.mv m1.st m0) m0.st ((Oj.mv m1.st m0).reverse) fun h2 tk m f'=> ?_);exact wpAny_pure (q.next w3 ((m1.fx.trans m0.fx).trans m) f')
end
end Mine
namespace Mine
open PySem PySem.W PyProof.Rows PySem.SeqAt
section
variable{W:Wd}{A:Around}{cl:Call}{K:KC}{env:PySem.Env}
theorem fS.CU{μ:Mp}{h:Heap}{es:List (Int×V)}{kvs:List (Int×Value)}(r:fS W μ h es kvs):kvs.map (·.1)=es.map (·.1):=by
 induction r with
 | nil=>rfl
 | cons hx _ ih=>exact congrArg _ ih
theorem FL{h:Heap}{it d:Addr}{i n ep:Nat}(hi:h.IsKeyIter it d i n ep):dO (fun o=>h.get? it=some o) (fun o=>¬ yD o):=by
 obtain⟨o,e,hc,hd⟩:=hi;exact⟨o,e,fun z=>by rcases z with⟨a,_⟩|⟨a,_⟩<;>exact absurd (hc.symm.trans a) (by decide)⟩
theorem HC{k:Int}{v:Value}(h:(intKind W.prog W.w).is k v=true){μ:Mp}{hp:Heap}: aS W μ hp (.int k) v:=
 let ⟨_,e⟩:=Value.isInt_shape h
 e▸ .int _ _
theorem QX{i:Nat}{x:Str}{px pos:Pos}{pi:Expr}{it:E}{b:List S}{pb:List Stmt}(wo:WOk W)(hh:A.handled=none)(nd:K.vn.Nodup)(hs:tM pi=false)(hi:K.vn[i]? = some x)(zU:kS K x)(oF: ∀ ρ,aT W A cl K env ρ it pi)(hb:hZ W A cl K env b pb):
  eC W A cl K env (.KF i it b) (.For (.Name x px) pi pb [] pos):=fun {ρ H μ s P} f st w Q E q=>by
 refine wpAny_For (oF _ f.toFrOk st w _ _ fun x0 H1 w1 μ1 h1 tk1 v m1 hv=> ?_) (gX hs env);obtain⟨l,hl,w2⟩:=w1.ok;obtain⟨p,hp,w3⟩:=w2.ok;obtain⟨ep,he,w4⟩:=w3.ok;rw[kR hl] at hv;obtain⟨d,kvs,n,rfl,hm,ZV,SR,fg,fi⟩:=m1.st.dictAt wo (vH hp) hv;refine wpAny_pyIter_dict (s:= { s with heap:=h1,toks:=tk1 }) ZV SR ?_;have G9:kvs.length=(p.1.map (·.1)).length:=by rw[<- fg.CU,List.length_map]
 rw[G9,fi ep he];have nf: ∀ {k:Nat} {μk:Mp} {hk:Heap},(hk.IsKeyIter h1.objs.size d k (p.1.map (·.1)).length ep/\μk[l]? = some (d,none))->dO (fun o=>hk.get? h1.objs.size=some o) (fun o=>¬ yD o):=fun j=>FL j.1;refine xN (s:= { s with heap:=h1,toks:=tk1 }) (X:=fun a=>a=h1.objs.size) (J:=fun k μ h=>h.IsKeyIter h1.objs.size d k (p.1.map (·.1)).length ep/\μ[l]? = some (d,none)) (tk1:=tk1) hb m1.st (f.mv st m1)
  (fun a ha=>ha▸Heap.get?_none_of_le (Nat.le_refl _)) (fun j ha=>ha▸nf j)
  (fun {k μk hk μ' H' h'} j oX nX m tp=>⟨let ⟨o,e,r⟩:=j.1;⟨o,m.keep _ o (oX _ rfl) (nX _ rfl) e,r⟩,m.mp _ _ j.2⟩) ?_ (fun b o e=>Heap.get?_push_of_some _ e) ⟨⟨_,Heap.get?_push_size _ rfl,rfl,rfl⟩,hm⟩ w4 (q.step m1.fx)
 clear w4 w3 w2 w1 w SR fg fi ZV hm hv oF hb f st q m1 hp G9 he hl;intro k ρk Hk μk hk tk y hy qL jk oX nX kp R B Ar gV;obtain⟨p',I1,hy⟩:=aK hy;obtain⟨hc,hy⟩:=bH hy;have Yr:p'.1.map (·.1)=p.1.map (·.1):=of_decide_eq_true (aD hc).1;obtain⟨d',HI,n',e1,XI,qf,SS,U9,VB⟩:=qL.dictAt wo (vH I1) (.ref jk.2);have D7:HI.length=(p.1.map (·.1)).length:=by rw[<- Yr,<- U9.CU,List.length_map]
 have ik:=jk.1;rw[<- Value.ref.inj e1] at SS;rw[<- D7,<- VB ep (of_decide_eq_true (aD hc).2)] at ik;cases CP:(p.1.map (·.1))[k]? with
 | none=>
  rw[CP] at hy;exact wpAny_pyNext_dict_end (s:= { s with heap:=hk,toks:=tk }) hh ik SS (List.getElem?_eq_none (D7▸List.getElem?_eq_none_iff.mp CP)) fun h' he=>Ar (Option.some.inj hy).symm h' tk fun b o hb e=>he b o hb e
 | some ky=>
  rw[CP] at hy;rw[<- Yr,<- U9.CU,List.getElem?_map] at CP;obtain⟨kv,T9,e2⟩:=Option.map_eq_some_iff.mp CP;refine wpAny_pyNext_dict_item (s:= { s with heap:=hk,toks:=tk }) ik SS (k:=ky) (v:=kv.2) (e2▸T9) fun key h' vO D6 FH=> ?_;have As:T1 (fun a=>a=h1.objs.size) hk h':=fun b o hb e=>(FH.2 b hb).trans e;obtain⟨o,e,SO,T7⟩:=id D6;refine sI (s:= { s with heap:=h',toks:=tk }) e SO (by decide) (@F7 W A K env i x px nd hi zU k (.int ky) ρk _ key Hk μk { s with heap:=h',toks:=tk } _ _ rfl (kp h' As).2 (kp h' As).1 (HC vO) fun h2 tk2 m2 f2=> ?_);rw[D7,VB ep (of_decide_eq_true (aD hc).2)] at D6;exact gV _ (Option.some.inj hy).symm h' h2 tk2 As m2 f2 ⟨let ⟨o,e,r⟩:=D6;⟨o,m2.keep _ o (oX _ rfl) (nX _ rfl) e,r⟩,jk.2⟩
end
end Mine
namespace Mine
open PySem PySem.W PyProof.Rows PySem.SeqAt
section
variable{W:Wd}{A:Around}{cl:Call}{K:KC}{env:PySem.Env}
noncomputable def GQ(l it e:Addr)(a k:Nat)(μ:Mp)(h:Heap):Prop:=zB (fun o=>IsEnum h e it (k:Int) o) (fun _=>h.IsListIter it l k) (fun _=>μ[a]? = some (l,none))
theorem MI{h:Heap}{e it:Addr}{k:Int}{o:Value}(i:IsEnum h e it k o):dO (fun o=>h.get? e=some o) (fun o=>¬ yD o):=⟨_,i,vL rfl (by decide) (by decide)⟩
theorem GQ.has{l it e a:Addr}{k:Nat}{μ:Mp}{h:Heap}(j:GQ l it e a k μ h){x:Addr}(hx:x=e\/x=it):dO (fun o=>h.get? x=some o) (fun o=>¬ yD o):=by
 obtain⟨o,h1,⟨oi,ei,hc,hd⟩,_⟩:=j;rcases hx with hx|hx
 ·exact hx▸MI h1
 ·exact hx▸⟨oi,ei,vL hc (by decide) (by decide)⟩
theorem GQ.keep{l it e a:Addr}{k:Nat}{μ μ':Mp}{h h':Heap}(j:GQ l it e a k μ h)(hm: ∀ (i:Nat) p,μ[i]? = some p->μ'[i]? = some p)(hk: ∀ b o,b=e\/b=it->h.get? b=some o->h'.get? b=some o):GQ l it e a k μ' h':=
 let ⟨o,h1,⟨oi,ei,r⟩,h3⟩:=j
 ⟨o,hk e _ (.inl rfl) h1,⟨oi,hk it _ (.inr rfl) ei,r⟩,hm _ _ h3⟩
theorem KA{i x:Nat}{es:List Expr}{k0:Nat}{pt:Pos}{b:List S}{pb:List Stmt}{a:Nat}{v:Value}{ρ:cP}{H:Hp}{μ:Mp}{s:Shared}{P:PS}(hh:A.handled=none)(nd:K.vn.Nodup)(nm:GS K [i,x] es)(hb:hZ W A cl K env b pb)
  (f:qP W μ s.heap K env ρ) (st:St W μ H s.heap) (hv:aS W μ s.heap (.ref a) v) (w:gJ (rB (JI (fun k v ρ=>some ((ρ.set i (some (.int k))).set x (some v))) (.ref a)) (eI W.G cl b) P) (0,ρ,H)) {R:Result->Shared->Prop} {E:Value->Shared->Prop}
  (q:CA W K env s μ P fun f s'=>R (.ok f) s'):
  wpAny (Mo W) A (call (.type "enumerate") [v]) (fun y s₁=>wpAny (Mo W) A (pyIter y) (fun it s₂=>codeAny (Mo W) A (.forLoop (.Tuple es k0 pt) it pb [] env) R s₂) E s₁) E s:=by
 obtain⟨xs0,fy⟩: ∃ xs,nS H a=some xs:=by
  obtain⟨n,I,i0,it⟩:=w;obtain⟨y,hy,_⟩:=(it n _ i0).ok;obtain⟨z,hz,_⟩:=aK hy;obtain⟨xs,hx,_⟩:=aK hz;exact⟨xs,hx⟩
 obtain⟨l,ia0,rfl,gp,VO,qc,Pi⟩:=st.listAt (eV fy) hv;refine call_enumerate_list VO.is fun h1 SL W7 ZX rE=>wpAny_pyIter_enum SL ?_;have pl: ∀ x,x=s.heap.objs.size+1\/x=s.heap.objs.size->s.heap.get? x=none:=fun x hx=>by
  rcases hx with hx|hx
  ·exact hx▸Heap.get?_none_of_le (Nat.le_succ _)
  ·exact hx▸Heap.get?_none_of_le (Nat.le_refl _)
 have rZ:s.heap.objs.size+1≠s.heap.objs.size:=Nat.succ_ne_self _;generalize s.heap.objs.size=it at SL W7 rZ pl ⊢;generalize it+1=e at SL rZ pl ⊢;refine xN (X:=fun a=>a=e\/a=it) (J:=fun k μ h=>GQ l it e a k μ h) (tk1:=s.toks) hb st f pl (fun j ha=>j.has ha)
  (fun j oX nX m tp=>j.keep m.mp fun b o hb e=>m.keep b o (oX b hb) (nX b hb) e) ?_ rE ⟨_,SL,W7,gp⟩ w q
 clear w q qc Pi VO gp fy W7 SL rE hv st f ZX pl hb;intro k ρk Hk μk hk tk y hy qL jk oX nX kp R B Ar gV;obtain⟨z,hz,hy⟩:=aK hy;obtain⟨xs,hl,hz⟩:=aK hz;obtain⟨WB,ek,lk,pk⟩:=id jk;obtain⟨l',ia,e1,FF,KT,hr,_⟩:=qL.listAt (eV hl) (.ref pk);rw[<- Value.ref.inj e1] at KT;have hg:=hr.SH k;rw[Option.some.inj hz] at hg;cases hx:(ia[k]?:Option Value) with
 | none=>
  rw[hx] at hg;cases z with
  | some z=>exact hg.elim
  | none=>exact wpAny_pyNext_enum_end (s:= { s with heap:=hk,toks:=tk }) hh ek lk KT.is hx fun h' he=>Ar (Option.some.inj hy).symm h' tk fun b o hb e'=>he b o (fun z=>hb (.inr z)) e'
 | some w=>
  rw[hx] at hg;cases z with
  | none=>exact cY hg.symm
  | some z=>
   refine wpAny_pyNext_enum_item (s:= { s with heap:=hk,toks:=tk }) ek lk KT.is hx rZ fun h2 W5 W8 W9 Ol vN=> ?_;refine wpAny_letOwnedTupleGo_enum (s:= { s with heap:=h2,toks:=tk+1 }) W5 fun h3 RE Mt=> ?_;have Iv:T1 (fun a=>a=e\/a=it) hk h3:=fun b o hb e'=>(Mt.2 b fun z=>hb (.inl z)).trans (vN b o (fun z=>hb (.inl z)) (fun z=>hb (.inr z)) e');have tp:TP hk h3:=fun a o e' hf=>Iv a o (fun z=>by
    obtain⟨o',h5,nf⟩:=jk.has z;exact nf (Option.some.inj (e'.symm.trans h5)▸hf)) e'
   have j3:GQ l it e a (k+1) μk h3:=⟨_,RE,let ⟨o,eo,r⟩:=W8;⟨o,(Mt.2 _ rZ.symm).trans eo,r⟩,pk⟩;refine @yA W A K env [i,x] es k0 pt hh nd nm 0 (.aM [.int k,z]) ρk _ (.ref hk.objs.size) Hk μk { s with heap:=h3,toks:=tk+1 } _ _ rfl (kp h3 Iv).2 (kp h3 Iv).1 ?_ fun h4 Xk m4 f4=> ?_
   ·exact .LG (show 2<=most from Nat.le_of_ble_eq_true rfl) ⟨_,(Mt.2 _ (Nat.ne_of_gt (Heap.lt_size ek))).trans W9⟩ (.cons (.int _ _) (.cons (hg.bJ (fun _ _ e=>e) tp) .nil))
   ·exact gV _ (Option.some.inj hy).symm h3 h4 Xk Iv m4 f4 (j3.keep m4.mp fun b o hb e=>m4.keep b o (oX b hb) (nX b hb) e)
theorem QY{i x:Nat}{es:List Expr}{k:Nat}{pt pos pc pe:Pos}{l:E}{l':Expr}{b:List S}{pb:List Stmt}(gl:Jl W K.gl)(en:Oq W K.gl)(hh:A.handled=none)(nd:K.vn.Nodup)(nm:GS K [i,x] es)(ou:K.kn.lookup (Str.ofString "enumerate")=some .globalImplicit)(XH:(K.gl (Str.ofString "enumerate")).isSome=true)
  (tJ:iW [l']=true) (hl: ∀ ρ,aT W A cl K env ρ l l') (hb:hZ W A cl K env b pb):
  eC W A cl K env (.MS i x l b) (.For (.Tuple es k pt) (.Call (.Name (Str.ofString "enumerate") pe) [l'] [] pc) pb [] pos):=fun {ρ H μ s P} f st w Q E q=>by
 obtain⟨vn,ie⟩:=Option.isSome_iff_exists.mp XH;obtain⟨n,e1,tI⟩:=en vn ie;obtain⟨y,hr,hy⟩:=gl _ _ ie;rw[e1] at hr;rw[Option.some.inj (hr.dF.symm.trans tI)] at hy;refine wpAny_For ?_ (gX rfl env);have YE:eval (.Call (.Name (Str.ofString "enumerate") pe) [l'] [] pc) env=(do callWith pc (<- eval (.Name (Str.ofString "enumerate") pe) env) [] (backTo pc (starEach [l'] env)) []):=rfl;rw[YE];refine wpAny_bind (Calls.Name_function_global f.kind (f.Su ou) ?_ (by decide));have go: ∀ {P:Value->Shared->Prop},P (.type "enumerate") s->wpAny (Mo W) A (loadGlobal env (Str.ofString "enumerate")) P E s:=fun {P} hP=>by
  rcases hy with⟨mg,h1,h2⟩|⟨mg,mb,h1,h2,h3,h4⟩
  ·exact Calls.loadGlobal_global (f.D4▸kY st h1) h2 hP
  ·exact Calls.loadGlobal_builtin (f.D4▸kY st h1) h2 (f.blt▸kY st h3) h4 hP
 refine go ?_;refine oO (oL pc env tJ) (oS (oL pc env tJ) ?_);rw[fC pc env tJ];refine gY ?_;refine hl _ f.toFrOk st w _ _ fun v H1 w1 μ1 h1 tk1 y m1 hv=> ?_;obtain⟨a,ha,w2⟩:=w1.ok;rw[kR ha] at hv;exact⟨cN.type,rfl,KA (s:= { s with heap:=h1,toks:=tk1 }) hh nd nm hb (f.mv st m1) m1.st hv w2 (q.step m1.fx)⟩
end
end Mine
namespace Mine
set_option genCtorIdx false
open PySem PySem.W PyProof.Rows PySem.SeqAt
noncomputable def jc(K:KC)(x:Str):Bool:=K.kn.lookup x==some .local||K.kn.lookup x==some .cell
theorem Sv{K:KC}{x:Str}(h:jc K x=true):kS K x:=((Bool.or_eq_true _ _).mp h).imp eq_of_beq eq_of_beq
noncomputable def OG(K:KC)(t:Str)(tp:Pos)(scope:Scope)(Dw:Pos):Bool:=
 K.kn.lookup t==some .local&&tp.line==Dw.line && !(scope.names.any fun (n,k)=>n==t&&(k== .local||k== .cell))
theorem uN{K:KC}{env:PySem.Env}{gP:Expr}{gens:List Comprehension}{scope:Scope}{Dw:Pos}{t:Str}{tp:Pos}{l:Nat}(hk:env.scope.kind= .function)(hn:env.scope.names=K.kn):
  swapsWith (.ListComp gP gens scope Dw) (some (.Name t tp)) l env=pure (OG K t tp scope Dw):=by
 have hb:env.blockKind= .function:=by unfold Env.blockKind;rw[hk];rfl
 have T8:env.kindOf t=K.kn.lookup t:=by unfold Env.kindOf;rw[hn]
 show (pure (env.blockKind== .function&&env.kindOf t==some .local&&tp.line==Dw.line && !(scope.names.any fun (n,k)=>n==t&&(k== .local||k== .cell))):Sem Bool)=_;rw[hb,T8];rfl
noncomputable def Rx:XV->Bool:=BR fun _ _ _ _ _=>true
noncomputable def uV(v:Expr)(x:XV):Bool:=Rx x || !lZ v
inductive SV where
 | no
 | ret(v:Option Expr)
 | expr(v:Expr)
 | eO(t v:Expr)
 | Oa(t:Expr)(o:Operator)(v:Expr)
 | ite(c:Expr)(t e:List Stmt)
 | qM(c:Expr)(b:List Stmt)
 | PL(t it:Expr)(b:List Stmt)
 | BU
noncomputable def sg(f:Expr->SV):List Expr->SV
 | []=>.no
 | t::r=>match r with
  | []=>f t
  | _::_=>.no
noncomputable def nE(v:SV):List Stmt->SV
 | []=>v
 | _::_=>.no
set_option backward.match.sparseCases false in
noncomputable def vz:Stmt->SV
 | .Return v _=>.ret v
 | .Expr v _=>.expr v
 | .Assign ts v _=>sg (fun t=>.eO t v) ts
 | .AugAssign t o v _=>.Oa t o v
 | .If c t e _=>.ite c t e
 | .While c b o _=>nE (.qM c b) o
 | .For t it b o _=>nE (.PL t it b) o
 | .Pass _=>.BU
 | _=>.no
noncomputable def SV.is(s:Stmt):SV->Prop
 | .no=>True
 | .ret v=>jJ fun p=>s= .Return v p
 | .expr v=>jJ fun p=>s= .Expr v p
 | .eO t v=>jJ fun p=>s= .Assign [t] v p
 | .Oa t o v=>jJ fun p=>s= .AugAssign t o v p
 | .ite c t e=>jJ fun p=>s= .If c t e p
 | .qM c b=>jJ fun p=>s= .While c b [] p
 | .PL t it b=>jJ fun p=>s= .For t it b [] p
 | .BU=>jJ fun p=>s= .Pass p
theorem zA(s:Stmt):(vz s).is s:=by
 cases s with
 | Return|Expr|AugAssign|If|Pass=>exact⟨_,rfl⟩
 | Assign ts v p=>cases ts with
  | nil=>exact trivial
  | cons t r=>cases r with
   | nil=>exact⟨_,rfl⟩
   | cons=>exact trivial
 | While c b o p=>cases o with
  | nil=>exact⟨_,rfl⟩
  | cons=>exact trivial
 | For t it b o p=>cases o with
  | nil=>exact⟨_,rfl⟩
  | cons=>exact trivial
 | _=>exact trivial
noncomputable def JO(f:Option Expr->Bool):SV->Bool
 | .ret v=>f v
 | _=>false
theorem P4{f:Option Expr->Bool}{v:SV}{P:SV->Prop}(h:JO f v=true)(g: ∀ v,f v=true->P (.ret v)):P v:=by
 cases v<;>first|exact eJ h|exact g _ h
theorem Ws{f:Option Expr->Bool}{e:Stmt}{P:Stmt->Prop}(h:JO f (vz e)=true)(g: ∀ v p,f v=true->P (.Return v p)):P e:=
 P4 (P:=fun v=>v.is e->P e) h (fun v h1 hi=>zS hi fun p hi=>hi▸g v p h1) (zA e)
noncomputable def HY(f:Expr->Bool):SV->Bool
 | .expr v=>f v
 | _=>false
theorem NZ{f:Expr->Bool}{v:SV}{P:SV->Prop}(h:HY f v=true)(g: ∀ v,f v=true->P (.expr v)):P v:=by
 cases v<;>first|exact eJ h|exact g _ h
theorem Wq{f:Expr->Bool}{e:Stmt}{P:Stmt->Prop}(h:HY f (vz e)=true)(g: ∀ v p,f v=true->P (.Expr v p)):P e:=
 NZ (P:=fun v=>v.is e->P e) h (fun v h1 hi=>zS hi fun p hi=>hi▸g v p h1) (zA e)
noncomputable def C7(f:Expr->Expr->Bool):SV->Bool
 | .eO t v=>f t v
 | _=>false
theorem Px{f:Expr->Expr->Bool}{v:SV}{P:SV->Prop}(h:C7 f v=true)(g: ∀ t v,f t v=true->P (.eO t v)):P v:=by
 cases v<;>first|exact eJ h|exact g _ _ h
theorem Qr{f:Expr->Expr->Bool}{e:Stmt}{P:Stmt->Prop}(h:C7 f (vz e)=true)(g: ∀ t v p,f t v=true->P (.Assign [t] v p)):P e:=
 Px (P:=fun v=>v.is e->P e) h (fun t v h1 hi=>zS hi fun p hi=>hi▸g t v p h1) (zA e)
noncomputable def JM(f:Expr->Operator->Expr->Bool):SV->Bool
 | .Oa t o v=>f t o v
 | _=>false
theorem Py{f:Expr->Operator->Expr->Bool}{v:SV}{P:SV->Prop}(h:JM f v=true)(g: ∀ t o v,f t o v=true->P (.Oa t o v)):P v:=by
 cases v<;>first|exact eJ h|exact g _ _ _ h
theorem Wp{f:Expr->Operator->Expr->Bool}{e:Stmt}{P:Stmt->Prop}(h:JM f (vz e)=true)(g: ∀ t o v p,f t o v=true->P (.AugAssign t o v p)):P e:=
 Py (P:=fun v=>v.is e->P e) h (fun t o v h1 hi=>zS hi fun p hi=>hi▸g t o v p h1) (zA e)
noncomputable def TD(f:Expr->List Stmt->List Stmt->Bool):SV->Bool
 | .ite c t e=>f c t e
 | _=>false
theorem TE{f:Expr->List Stmt->List Stmt->Bool}{v:SV}{P:SV->Prop}(h:TD f v=true)(g: ∀ c t x,f c t x=true->P (.ite c t x)):P v:=by
 cases v<;>first|exact eJ h|exact g _ _ _ h
theorem uv{f:Expr->List Stmt->List Stmt->Bool}{e:Stmt}{P:Stmt->Prop}(h:TD f (vz e)=true)(g: ∀ c t x p,f c t x=true->P (.If c t x p)):P e:=
 TE (P:=fun v=>v.is e->P e) h (fun c t x h1 hi=>zS hi fun p hi=>hi▸g c t x p h1) (zA e)
noncomputable def EN(f:Expr->List Stmt->Bool):SV->Bool
 | .qM c b=>f c b
 | _=>false
theorem Kj{f:Expr->List Stmt->Bool}{v:SV}{P:SV->Prop}(h:EN f v=true)(g: ∀ c b,f c b=true->P (.qM c b)):P v:=by
 cases v<;>first|exact eJ h|exact g _ _ h
theorem T0{f:Expr->List Stmt->Bool}{e:Stmt}{P:Stmt->Prop}(h:EN f (vz e)=true)(g: ∀ c b p,f c b=true->P (.While c b [] p)):P e:=
 Kj (P:=fun v=>v.is e->P e) h (fun c b h1 hi=>zS hi fun p hi=>hi▸g c b p h1) (zA e)
noncomputable def C8(f:Expr->Expr->List Stmt->Bool):SV->Bool
 | .PL t it b=>f t it b
 | _=>false
theorem P1{f:Expr->Expr->List Stmt->Bool}{v:SV}{P:SV->Prop}(h:C8 f v=true)(g: ∀ t it b,f t it b=true->P (.PL t it b)):P v:=by
 cases v<;>first|exact eJ h|exact g _ _ _ h
theorem Qs{f:Expr->Expr->List Stmt->Bool}{e:Stmt}{P:Stmt->Prop}(h:C8 f (vz e)=true)(g: ∀ t it b p,f t it b=true->P (.For t it b [] p)):P e:=
 P1 (P:=fun v=>v.is e->P e) h (fun t it b h1 hi=>zS hi fun p hi=>hi▸g t it b p h1) (zA e)
noncomputable def HD:SV->Bool
 | .BU=>true
 | _=>false
theorem M8{v:SV}{P:SV->Prop}(h:HD v=true)(g:P .BU):P v:=by
 cases v<;>first|exact eJ h|exact g
theorem Wr{e:Stmt}{P:Stmt->Prop}(h:HD (vz e)=true)(g: ∀ p,P (.Pass p)):P e:=
 M8 (P:=fun v=>v.is e->P e) h (fun hi=>zS hi fun p hi=>hi▸g p) (zA e)
noncomputable def Q7(f:Stmt->List Stmt->Bool):List Stmt->Bool
 | x::xs=>f x xs
 | []=>false
theorem PD{f:Stmt->List Stmt->Bool}{l:List Stmt}{P:List Stmt->Prop}(h:Q7 f l=true)(g: ∀ x xs,f x xs=true->P (x::xs)):P l:=by
 cases l with
 | nil=>exact eJ h
 | cons x xs=>exact g x xs h
noncomputable def V9(K:KC)(i:Nat)(x:Str):Bool:=K.vn[i]?==some x&&jc K x
theorem uE{K:KC}{i:Nat}{x:Str}(h:V9 K i x=true):K.vn[i]? = some x/\kS K x:=⟨eq_of_beq (aD h).1,Sv (aD h).2⟩
mutual
noncomputable def kh(K:KC):S->SV->Bool
 | .fail,_=>true
 | .BU,ps=>HD ps
 | .ET,ps=>JO (fun v=>v.isNone) ps
 | .ret e,ps=>JO (fun v=>Xb (fun x=>jF K.kn K e (vw x)) false v) ps
 | .expr e,ps=>HY (fun x=>uG (fun _ _ _=>jF K.kn K e (vw x)) (vw x)) ps
 | .eO i e,ps=>C7 (fun t v=>jO (fun x=>uV v (vw v)&&V9 K i x&&jF K.kn K e (vw v)) (vw t)) ps
 | .jC is e,ps=>C7 (fun t v=>DA (fun es=> !lZ v&&V4 K is es&&decide is.Nodup&&(xZ K es v).isSome&&jF K.kn K e (vw v)) (vw t)) ps
 | .bZ o a e,ps=>C7 (fun t v=>BQ (fun o' x _=> !lZ v&&K.an a==some x&&jF K.kn K o (vw o')&&jF K.kn K e (vw v)) (vw t)) ps
 | .Dh o i e,ps=>C7 (fun t v=>C9 (fun o' i'=> !lZ v&&jF K.kn K o (vw o')&&jF K.kn K i (vw i')&&jF K.kn K e (vw v)) (vw t)) ps
 | .Oa i op e,ps=>JM (fun t o v=>jO (fun x=>o==xO op&&M6 op&&V9 K i x&&jF K.kn K e (vw v)) (vw t)) ps
 | .Lw o i op e,ps=>JM (fun t p v=>C9 (fun o' i'=>p==xO op&&M6 op && !lA i'&&jF K.kn K o (vw o')&&jF K.kn K i (vw i')&&jF K.kn K e (vw v)) (vw t)) ps
 | .fU c t f,ps=>TD (fun c' t' f'=>jF K.kn K c (vw c')&&Bv K t t'&&Bv K f f') ps
 | .qM c b,ps=>EN (fun c' b'=>jF K.kn K c (vw c')&&Bv K b b') ps
 | .qK i it b,ps=>C8 (fun t gR b'=>jO (fun x=> !tM gR&&V9 K i x&&jF K.kn K it (vw gR)&&Bv K b b') (vw t)) ps
 | .KF i it b,ps=>C8 (fun t gR b'=>jO (fun x=> !tM gR&&V9 K i x&&jF K.kn K it (vw gR)&&Bv K b b') (vw t)) ps
 | .KG is it b,ps=>C8 (fun t gR b'=>DA (fun es=> !tM gR&&V4 K is es&&jF K.kn K it (vw gR)&&Bv K b b') (vw t)) ps
 | .MS i x l b,ps=>C8 (fun t gR b'=>DA (fun es=>uG (fun f as _=>jO (fun z=>Yt (fun l'=>V4 K [i,x] es&&z==Str.ofString "enumerate"&&K.kn.lookup (Str.ofString "enumerate")==some .globalImplicit&&(K.gl (Str.ofString "enumerate")).isSome&&iW [l']&&jF K.kn K l (vw l')&&Bv K b b') as) (vw f)) (vw gR)) (vw t)) ps
noncomputable def Bv(K:KC):List S->List Stmt->Bool
 | [],ps=>ps.isEmpty
 | s::ss,ps=>Q7 (fun p ps=>kh K s (vz p)&&Bv K ss ps) ps
end
section
variable{W:Wd}{A:Around}{cl:Call}{K:KC}{env:PySem.Env}
theorem Qj{kn:List (Str×NameKind)}{e:E}{gP t it:Expr}{ifs:List Expr}{sc:Scope}{P:E->Prop}(h:jF kn K e (.comp gP t it ifs sc)=true)(a: ∀ x y z,jF kn K (.comp x y z) (.comp gP t it ifs sc)=true->P (.comp x y z))(b: ∀ x y z c,jF kn K (.nH x y z c) (.comp gP t it ifs sc)=true->P (.nH x y z c)):P e:=by
 cases e<;>first|exact eJ h|exact a _ _ _ h|exact b _ _ _ _ h
theorem QS{i:Nat}{x:Str}{px pos:Pos}{e:E}{gP t gR:Expr}{ifs:List Expr}{sc:Scope}{p:Pos}(ok:En W A cl K)(hi:K.vn[i]? = some x/\kS K x)(h:jF K.kn K e (.comp gP t gR ifs sc)=true)(Om:OG K x px sc p=true):eC W A cl K env (.eO i e) (.Assign [.Name x px] (.ListComp gP [⟨t,gR,ifs,0⟩] sc p) pos):=by
 refine Qj (P:=fun e=>eC W A cl K env (.eO i e) _) h (fun Gw fR it h=> ?_) fun Gw fR it c0 h=> ?_
 ·
  refine rV (P:=fun t=>eC W A cl K env _ (.Assign [_] (.ListComp gP [⟨t,gR,ifs,0⟩] sc p) pos)) (show jO _ (vw t)=true from h) fun y py h2=> ?_;have h3:=aD (aD h2).1;rw[List.isEmpty_iff.mp (aD h3.1).1];exact fun {ρ H μ s P}=>Bq (ev:=.comp Gw fR it) (turn:=fun ρ v hh q=>wE W.G cl Gw (ρ.set fR (some v)) hh fun y h'=>q (some y) h') ok.handled ok.nd hi.1 hi.2 (vF (aD h3.1).2) (fun hk hn=>(uN hk hn).trans (congrArg pure Om)) (fun ρ=>(aX ok it K.kn gR h3.2 env ρ).ev)
   (fun ρ=>Bw fun C v=>(aX ok Gw _ gP (aD h2).2 _ _).ev) fun ρ H P w=>w
 ·
  refine rV (P:=fun t=>eC W A cl K env _ (.Assign [_] (.ListComp gP [⟨t,gR,ifs,0⟩] sc p) pos)) (show jO _ (vw t)=true from h) fun y py h2=> ?_;refine Mb (P:=fun ifs=>eC W A cl K env _ (.Assign [_] (.ListComp gP [⟨.Name y py,gR,ifs,0⟩] sc p) pos)) h2 fun c' h3=> ?_;have h4:=aD (aD h3).1;exact fun {ρ H μ s P}=>Bq (ev:=.nH Gw fR it c0) (turn:=fun ρ v hh q=>wE W.G cl c0 (ρ.set fR (some v)) hh fun t Oh=>cJ (Jg t) fun b=>cR b (wE W.G cl Gw (ρ.set fR (some v)) Oh fun y h'=>q (some y) h') (q none Oh)) ok.handled ok.nd hi.1 hi.2 (vF (aD h4.1).1) (fun hk hn=>(uN hk hn).trans (congrArg pure Om)) (fun ρ=>(aX ok it K.kn gR (aD h4.1).2 env ρ).ev)
   (fun ρ=>Jf (fun C v=>aX ok c0 _ c' (aD h3).2 _ _) fun C v=>(aX ok Gw _ gP h4.2 _ _).ev) fun ρ H P w=>w
theorem N2{v:Expr}{x:XV}(h:Rx x=false)(h0:uV v x=true):lZ v=false:=by
 unfold uV at h0;rw[h] at h0;exact sW h0
theorem IG{i:Nat}{x:Str}{px pos:Pos}{e:E}{v:Expr}(ok:En W A cl K)(h0:uV v (vw v)=true)(hi:K.vn[i]? = some x/\kS K x)(h:jF K.kn K e (vw v)=true):eC W A cl K env (.eO i e) (.Assign [.Name x px] v pos):=by
 have go:=fun hs=>@Tp W A cl K env i x px e v pos ok.nd hi.1 hi.2 hs fun ρ=>(aX ok e K.kn v h env ρ).ev;cases hc:Rx (vw v) with
 | false=>exact fun {ρ H μ s P}=>go fun hk hn=>nC (N2 hc h0)
 | true=>
  revert h go;refine OO (P:=fun v=>jF K.kn K e (vw v)=true->((env.scope.kind= .function->env.scope.names=K.kn->swapsWith v (some (.Name x px)) pos.line env=pure false)->eC W A cl K env (.eO i e) (.Assign [.Name x px] v pos))->eC W A cl K env _ (.Assign _ v pos)) hc fun gP t it ifs sc p _ h go=> ?_;cases Om:OG K x px sc p with
  | false=>exact go fun hk hn=>(uN hk hn).trans (congrArg pure Om)
  | true=>exact QS ok hi h Om
end
theorem NW{b:Bool}{v:XV}(h:uG (fun _ _ _=>b) v=true):b=true:=FZ (P:=fun _=>b=true) h fun _ _ _ h=>h
noncomputable def dQ(W:Wd)(A:Around)(cl:Call)(K:KC)(st:S)(ps:Stmt):Prop:=∀ env,eC W A cl K env st ps
noncomputable def Lc(W:Wd)(A:Around)(cl:Call)(K:KC)(st:List S)(ps:List Stmt):Prop:=∀ env,hZ W A cl K env st ps
mutual
theorem Sx{W:Wd}{A:Around}{cl:Call}{K:KC}(ok:En W A cl K): ∀ (st:S) (ps:Stmt) (_:kh K st (vz ps)=true),dQ W A cl K st ps
 | .fail,ps,h=>fun env=>QW
 | .BU,ps,h=>@Wr _ (dQ W A cl K _) h fun p=>by
  intro env ρ H μ s P;exact Qb
 | .ET,ps,h=>@Ws _ _ (dQ W A cl K _) h fun v p h1=>by
  intro env ρ H μ s P;rw[Option.isNone_iff_eq_none.mp h1];exact Qc
 | .ret e,ps,h=>@Ws _ _ (dQ W A cl K _) h fun v p h1=>by
  intro env ρ H μ s P;cases v with
  | none=>exact eJ h1
  | some x=>exact Tr fun ρ=>(aX ok e K.kn x h1 env ρ).ev
 | .expr e,ps,h=>@Wq _ _ (dQ W A cl K _) h fun v p h1=>by
  exact @Jh _ _ (fun v=>jF K.kn K e (vw v)=true->dQ W A cl K _ (.Expr v p)) h1 (fun f as q _ h env=>QV fun ρ=>(aX ok e K.kn _ h env ρ).ev) (NW h1)
 | .eO i e,ps,h=>@Qr _ _ (dQ W A cl K _) h fun t v p h1=>@rV _ _ (fun t=>dQ W A cl K _ (.Assign [t] v p)) h1 fun x px h2=>by
  intro env ρ H μ s P;exact IG ok (aD (aD h2).1).1 (uE (aD (aD h2).1).2) (aD h2).2
 | .jC is e,ps,h=>@Qr _ _ (dQ W A cl K _) h fun t v p h1=>@Qm _ _ (fun t=>dQ W A cl K _ (.Assign [t] v p)) h1 fun es k px h2=>by
  intro env ρ H μ s P;have h3:=aD (aD h2).1;have h4:=aD h3.1;have h5:=aD h4.1;obtain⟨r,hr⟩:=Option.isSome_iff_exists.mp h3.2;exact QT ok.handled ok.nd (HT h5.2) (of_decide_eq_true h4.2) (sW h5.1) hr fun ρ=>(aX ok e K.kn v (aD h2).2 env ρ).ev
 | .bZ o a e,ps,h=>@Qr _ _ (dQ W A cl K _) h fun t v p h1=>@OM _ _ (fun t=>dQ W A cl K _ (.Assign [t] v p)) h1 fun o' x px h2=>by
  intro env ρ H μ s P;have h3:=aD (aD h2).1;exact QQ ok.wo (ok.an▸eq_of_beq (aD h3.1).2) (sW (aD h3.1).1) (fun ρ=>(aX ok o K.kn o' h3.2 env ρ).ev) fun ρ=>(aX ok e K.kn v (aD h2).2 env ρ).ev
 | .Dh o i e,ps,h=>@Qr _ _ (dQ W A cl K _) h fun t v p h1=>@Ql _ _ (fun t=>dQ W A cl K _ (.Assign [t] v p)) h1 fun o' i' px h2=>by
  intro env ρ H μ s P;have h3:=aD (aD h2).1;exact QR ok.wo (sW (aD h3.1).1) (fun ρ=>(aX ok o K.kn o' (aD h3.1).2 env ρ).ev) (fun ρ=>(aX ok i K.kn i' h3.2 env ρ).ev) fun ρ=>(aX ok e K.kn v (aD h2).2 env ρ).ev
 | .Oa i op e,ps,h=>@Wp _ _ (dQ W A cl K _) h fun t o v p h1=>@rV _ _ (fun t=>dQ W A cl K _ (.AugAssign t o v p)) h1 fun x px h2=>by
  intro env ρ H μ s P;have h3:=aD (aD h2).1;rw[show o=xO op from eq_of_beq (aD h3.1).1];exact Tq ok.nd (aD h3.1).2 (uE h3.2).1 (uE h3.2).2 fun ρ=>(aX ok e K.kn v (aD h2).2 env ρ).ev
 | .Lw o i op e,ps,h=>@Wp _ _ (dQ W A cl K _) h fun t q v p h1=>@Ql _ _ (fun t=>dQ W A cl K _ (.AugAssign t q v p)) h1 fun o' i' px h2=>by
  intro env ρ H μ s P;have h3:=aD (aD h2).1;have h4:=aD h3.1;have h5:=aD h4.1;rw[show q=xO op from eq_of_beq (aD h5.1).1];exact QU ok.wo (aD h5.1).2 (sW h5.2) (fun ρ=>(aX ok o K.kn o' h4.2 env ρ).ev) (fun ρ=>(aX ok i K.kn i' h3.2 env ρ).ev) fun ρ=>(aX ok e K.kn v (aD h2).2 env ρ).ev
 | .fU c t f,ps,h=>@uv _ _ (dQ W A cl K _) h fun c' t' f' p h1=>by
  intro env ρ H μ s P;exact WY (fun ρ=>aX ok c K.kn c' (aD (aD h1).1).1 env ρ) (lC ok t t' (aD (aD h1).1).2 env) (lC ok f f' (aD h1).2 env)
 | .qM c b,ps,h=>@T0 _ _ (dQ W A cl K _) h fun c' b' p h1=>by
  intro env ρ H μ s P;exact N7 (fun ρ=>aX ok c K.kn c' (aD h1).1 env ρ) (lC ok b b' (aD h1).2 env)
 | .qK i it b,ps,h=>@Qs _ _ (dQ W A cl K _) h fun t gR b' p h1=>@rV _ _ (fun t=>dQ W A cl K _ (.For t gR b' [] p)) h1 fun x px h2=>by
  intro env ρ H μ s P;have h3:=aD (aD h2).1;exact Qa ok.handled ok.nd (sW (aD h3.1).1) (uE (aD h3.1).2).1 (uE (aD h3.1).2).2 (fun ρ=>(aX ok it K.kn gR h3.2 env ρ).ev) (lC ok b b' (aD h2).2 env)
 | .KF i it b,ps,h=>@Qs _ _ (dQ W A cl K _) h fun t gR b' p h1=>@rV _ _ (fun t=>dQ W A cl K _ (.For t gR b' [] p)) h1 fun x px h2=>by
  intro env ρ H μ s P;have h3:=aD (aD h2).1;exact QX ok.wo.toWOk ok.handled ok.nd (sW (aD h3.1).1) (uE (aD h3.1).2).1 (uE (aD h3.1).2).2 (fun ρ=>(aX ok it K.kn gR h3.2 env ρ).ev) (lC ok b b' (aD h2).2 env)
 | .KG is it b,ps,h=>@Qs _ _ (dQ W A cl K _) h fun t gR b' p h1=>@Qm _ _ (fun t=>dQ W A cl K _ (.For t gR b' [] p)) h1 fun es k px h2=>by
  intro env ρ H μ s P;have h3:=aD (aD h2).1;exact QZ ok.handled ok.nd (sW (aD h3.1).1) (HT (aD h3.1).2) (fun ρ=>(aX ok it K.kn gR h3.2 env ρ).ev) (lC ok b b' (aD h2).2 env)
 | .MS i x l b,ps,h=>@Qs _ _ (dQ W A cl K _) h fun t gR b' p h1=>@Qm _ _ (fun t=>dQ W A cl K _ (.For t gR b' [] p)) h1 fun es k px h2=>@Jh _ _ (fun it=>dQ W A cl K _ (.For _ it b' [] p)) h2 fun f' as pc h3=>@rV _ _ (fun f=>dQ W A cl K _ (.For _ (.Call f as [] pc) b' [] p)) h3 fun z pz h4=>@Mb _ _ (fun as=>dQ W A cl K _ (.For _ (.Call _ as [] pc) b' [] p)) h4 fun l' h5=>by
  intro env ρ H μ s P;have h6:=aD (aD h5).1;have h7:=aD h6.1;have h8:=aD h7.1;have h9:=aD h8.1;rw[show z=_ from eq_of_beq (aD h9.1).2];exact QY ok.gl ok.en ok.handled ok.nd (HT (aD h9.1).1) (eq_of_beq h9.2) h8.2 h7.2 (fun ρ=>(aX ok l K.kn l' h6.2 env ρ).ev) (lC ok b b' (aD h5).2 env)
theorem lC{W:Wd}{A:Around}{cl:Call}{K:KC}(ok:En W A cl K): ∀ (st:List S) (ps:List Stmt) (_:Bv K st ps=true),Lc W A cl K st ps
 | [],ps,h=>by rw[List.isEmpty_iff.mp h];exact fun env=>Tn
 | x::xs,ps,h=>@PD _ _ (Lc W A cl K _) h fun p ps h1=>by
  intro env ρ H μ s P;exact QP (Sx ok x p (aD h1).1 env) (lC ok xs ps (aD h1).2 env)
end
end Mine
namespace Mine
open PySem PySem.W PyProof.Rows PySem.SeqAt
section
variable{W:Wd}{μ μ1:Mp}{h:Heap}{g:Nat->Nat}
theorem sN: ∀ (xs:List V),(kH g xs).length=xs.length:=fun xs=>by
 induction xs with
 | nil=>rfl
 | cons x xs ih=>exact congrArg Nat.succ ih
mutual
theorem aS.jN(hm: ∀ (i:Nat) p,μ[g i]? = some p->μ1[i]? = some p): ∀ (v:V) {y:Value},aS W μ h (pQ g v) y->aS W μ1 h v y
 | .none,y,r=>(r.dF:y=_)▸ .none
 | .bool b,y,r=>(r.dF:y=_)▸ .bool b
 | .int i,y,r=>let ⟨t,e⟩:=r.dF;e▸ .int i t
 | .str s,y,r=>let ⟨t,e⟩:=r.dF;e▸ .str s t
 | .aM xs,y,r=>let ⟨a,items,e,hz,ht,hr⟩:=r.dF;e▸ .LG (sN xs▸hz) ht (aO.jN hm xs hr)
 | .ref i,y,r=>let ⟨p,e,hp⟩:=r.dF;e▸ .ref (hm _ _ hp)
 | .g n,y,r=>.g r.dF
 | .mD lo hi,y,r=>let ⟨a,e,hb,hr⟩:=r.dF;e▸ .mD hb hr
theorem aO.jN(hm: ∀ (i:Nat) p,μ[g i]? = some p->μ1[i]? = some p): ∀ (xs:List V) {ys:List Value},aO W μ h (kH g xs) ys->aO W μ1 h xs ys
 | [],ys,r=>(r.dF:ys=[])▸ .nil
 | x::xs,ys,r=>let ⟨y,LN,e,hx,hs⟩:=r.dF;e▸ .cons (aS.jN hm x hx) (aO.jN hm xs hs)
end
mutual
theorem aS.oE(hm: ∀ (i:Nat) p,μ[i]? = some p->μ1[g i]? = some p): ∀ (v:V) {y:Value},aS W μ h v y->aS W μ1 h (pQ g v) y
 | .none,y,r=>(r.dF:y=_)▸ .none
 | .bool b,y,r=>(r.dF:y=_)▸ .bool b
 | .int i,y,r=>let ⟨t,e⟩:=r.dF;e▸ .int i t
 | .str s,y,r=>let ⟨t,e⟩:=r.dF;e▸ .str s t
 | .aM xs,y,r=>let ⟨a,items,e,hz,ht,hr⟩:=r.dF;e▸ .LG ((sN xs).symm▸hz) ht (aO.oE hm xs hr)
 | .ref i,y,r=>let ⟨p,e,hp⟩:=r.dF;e▸ .ref (hm _ _ hp)
 | .g n,y,r=>.g r.dF
 | .mD lo hi,y,r=>let ⟨a,e,hb,hr⟩:=r.dF;e▸ .mD hb hr
theorem aO.oE(hm: ∀ (i:Nat) p,μ[i]? = some p->μ1[g i]? = some p): ∀ (xs:List V) {ys:List Value},aO W μ h xs ys->aO W μ1 h (kH g xs) ys
 | [],ys,r=>(r.dF:ys=[])▸ .nil
 | x::xs,ys,r=>let ⟨y,LN,e,hx,hs⟩:=r.dF;e▸ .cons (aS.oE hm x hx) (aO.oE hm xs hs)
end
theorem E6{fs:List (Nat×V)}{a:Nat}: jZ (fs.map fun e=>(e.1,pQ g e.2)) a=(jZ fs a).map (pQ g):=by
 induction fs with
 | nil=>rfl
 | cons e r ih=>
  show cR (Nat.beq e.1 a) _ (jZ (r.map _) a)=Option.map _ (cR (Nat.beq e.1 a) _ (jZ r a));cases Nat.beq e.1 a with
  | true=>rfl
  | false=>exact ih
theorem lQ.jN(hm: ∀ (i:Nat) p,μ[g i]? = some p->μ1[i]? = some p){o:aY}{p:Addr×Option Addr}(r:lQ W μ h (mQ g o) p):lQ W μ1 h o p:=by
 cases o with
 | list xs=>
  obtain⟨a,items,e,hz,hl,hr⟩:=r.dF;exact e▸ .list (sN xs▸hz) hl (aO.jN hm xs hr)
 | dict es ep=>
  obtain⟨a,kvs,n,e,he,hd,hr⟩:=r.dF;refine e▸ .dict he hd ?_;clear r he hd;induction es generalizing kvs with
  | nil=>cases hr;exact .nil
  | cons e es ih=>
   cases hr with
   | cons hx hs=>exact .cons (aS.jN hm e.2 hx) (ih _ hs)
 | inst c fs=>
  obtain⟨C,m,a,d,o,e,h1,h2,h3,h4,h5,h6,h7,h8⟩:=r.dF;refine e▸ .inst h1 h2 h3 h4 h5 h6 h7 ⟨fun k nm hk=> ?_,h8.2⟩;have:=h8.1 k nm hk;rw[E6] at this;cases hf:jZ fs k with
  | none=>rw[hf] at this;exact this
  | some v=>
   rw[hf] at this;obtain⟨y,hy,hv⟩:=cJ.ok this;rw[hy];exact aS.jN hm v hv
theorem lQ.oE(hm: ∀ (i:Nat) p,μ[i]? = some p->μ1[g i]? = some p){o:aY}{p:Addr×Option Addr}(r:lQ W μ h o p):lQ W μ1 h (mQ g o) p:=by
 cases o with
 | list xs=>
  obtain⟨a,items,e,hz,hl,hr⟩:=r.dF;exact e▸ .list ((sN xs).symm▸hz) hl (aO.oE hm xs hr)
 | dict es ep=>
  obtain⟨a,kvs,n,e,he,hd,hr⟩:=r.dF;refine e▸ .dict he hd ?_;clear r he hd;induction hr with
  | nil=>exact .nil
  | cons hx hs ih=>exact .cons (aS.oE hm _ hx) ih
 | inst c fs=>
  obtain⟨C,m,a,d,o,e,h1,h2,h3,h4,h5,h6,h7,h8⟩:=r.dF;refine e▸ .inst h1 h2 h3 h4 h5 h6 h7 ⟨fun k nm hk=> ?_,h8.2⟩;have:=h8.1 k nm hk;rw[E6];cases hf:jZ fs k with
  | none=>rw[hf] at this;exact this
  | some v=>
   rw[hf] at this;obtain⟨y,hy,hv⟩:=cJ.ok this;rw[hy];exact aS.oE hm v hv
end
noncomputable def nZ(f:List Nat)(μ:Mp):Mp:=f.map fun j=>(μ[j]?).getD (0,none)
noncomputable def Ug(f:List Nat)(h L':Hp)(i:Nat):aY:=(match f.findIdx? (Nat.beq i) with
 | some k=>(L'[k]?).map (mQ (fN f h.length))
 | none=>cR (Nat.ble h.length i) ((L'[f.length+(i - h.length)]?).map (mQ (fN f h.length))) h[i]?).getD (.list [])
noncomputable def Ey(f:List Nat)(h L':Hp):Hp:=(List.range (h.length+(L'.length - f.length))).map (Ug f h L')
theorem oT{f:List Nat}{i k:Nat}(e:f.findIdx? (Nat.beq i)=some k):f[k]? = some i:=by
 obtain⟨hk,h1,_⟩:=List.findIdx?_eq_some_iff_getElem.mp e;rw[List.getElem?_eq_getElem hk,Nat.eq_of_beq_eq_true h1]
theorem G0{f:List Nat}{i:Nat}(e:f.findIdx? (Nat.beq i)=none):i∉f:=fun hi=>eJ ((List.findIdx?_eq_none_iff.mp e i hi).symm.trans (Nat.beq_refl i))
theorem E9{f:List Nat}{i k:Nat}(nd:f.Nodup)(e:f[k]? = some i):f.findIdx? (Nat.beq i)=some k:=by
 cases h:f.findIdx? (Nat.beq i) with
 | none=>exact absurd (List.mem_of_getElem? e) (G0 h)
 | some j=>exact congrArg some ((List.getElem?_inj (List.getElem?_eq_some_iff.mp (oT h)).1 nd).mp ((oT h).trans e.symm))
theorem AW{f:List Nat}{h L':Hp}{i:Nat}{o:Option aY}(hi:i<h.length+(L'.length - f.length))(e:(match f.findIdx? (Nat.beq i) with
 | some k=>(L'[k]?).map (mQ (fN f h.length))
 | none=>cR (Nat.ble h.length i) ((L'[f.length+(i - h.length)]?).map (mQ (fN f h.length))) h[i]?)=o) (ho:o.isSome=true):(Ey f h L')[i]? = o:=by
 unfold Ey;rw[List.getElem?_map,List.getElem?_range hi];show some (Option.getD _ _)=_;rw[e];cases o with
 | none=>exact eJ ho
 | some x=>rfl
theorem O8{f:List Nat}{L h L':Hp}(s:Ch f L h)(hl:f.length<=L'.length):El f h L' (Ey f h L'):=by
 have lt: ∀ {k i:Nat},f[k]? = some i->i<h.length:=fun e=>(s.oK _ _ e).1;refine⟨by unfold Ey;rw[List.length_map,List.length_range],fun k i e=> ?_,fun i hi hn=> ?_,fun j=> ?_⟩
 ·have hk:=Nat.lt_of_lt_of_le (List.getElem?_eq_some_iff.mp e).1 hl
  refine AW (Nat.lt_of_lt_of_le (lt e) (Nat.le_add_right ..)) (by rw[E9 s.nd e]) ?_;rw[List.getElem?_eq_getElem hk];rfl
 ·refine AW (Nat.lt_of_lt_of_le hi (Nat.le_add_right ..)) ?_ ?_
  ·cases hf:f.findIdx? (Nat.beq i) with
   | some k=>exact absurd (List.mem_of_getElem? (oT hf)) hn
   | none=>
    dsimp only;rw[Bool.eq_false_iff.mpr fun q=>Nat.lt_irrefl _ (Nat.lt_of_lt_of_le hi (Nat.le_of_ble_eq_true q))];rfl
  ·rw[List.getElem?_eq_getElem hi];rfl
 ·by_cases hj:f.length+j<L'.length
  ·refine AW (Nat.add_lt_add_left (Nat.lt_sub_of_add_lt (Nat.add_comm .. ▸ hj)) _) ?_ ?_
   ·cases hf:f.findIdx? (Nat.beq (h.length+j)) with
    | some k=>exact absurd (lt (oT hf)) (Nat.not_lt_of_le (Nat.le_add_right ..))
    | none=>
     dsimp only;rw[Nat.ble_eq_true_of_le (Nat.le_add_right ..),Nat.add_sub_cancel_left];rfl
   ·rw[List.getElem?_eq_getElem hj];rfl
  ·rw[List.getElem?_eq_none (Nat.le_of_not_lt hj),List.getElem?_eq_none]
   ·rfl
   ·unfold Ey
    rw[List.length_map,List.length_range];exact Nat.add_le_add_left (Nat.sub_le_of_le_add (Nat.add_comm .. ▸ Nat.le_of_not_lt hj)) _
end Mine
namespace Mine
open PySem PySem.W PyProof.Rows PySem.SeqAt
section
variable{W:Wd}{μ:Mp}{H L:Hp}{h:Heap}{f:List Nat}
theorem iZ:(nZ f μ).length=f.length:=List.length_map _
theorem Bg{i:Nat}{p:Addr×Option Addr}(s:Ch f L H)(hl:μ.length=H.length)(e:(nZ f μ)[i]? = some p):dO (fun j=>f[i]? = some j) (fun j=>μ[j]? = some p):=by
 unfold nZ at e;rw[List.getElem?_map] at e;obtain⟨j,h1,h2⟩:=Option.map_eq_some_iff.mp e;rw[List.getElem?_eq_getElem (hl▸(s.oK _ _ h1).1)] at h2;exact⟨j,h1,(List.getElem?_eq_getElem (hl▸(s.oK _ _ h1).1)).trans (congrArg some h2)⟩
theorem IC{i j:Nat}{p:Addr×Option Addr}(h1:f[i]? = some j)(e:μ[j]? = some p):(nZ f μ)[i]? = some p:=by
 unfold nZ;rw[List.getElem?_map,h1];show some ((μ[j]?).getD (0,none))=_;rw[e];rfl
theorem Fw{i:Nat}{p:Addr×Option Addr}(hl:μ.length=H.length)(e:μ[fN f H.length i]? = some p):(nZ f μ)[i]? = some p:=by
 unfold fN at e;cases hf:f[i]? with
 | some j=>rw[hf] at e;exact IC hf e
 | none=>
  rw[hf] at e;exact cY ((List.getElem?_eq_none (by rw[hl];exact Nat.le_add_right ..)).symm.trans e)
theorem N0{i:Nat}{p:Addr×Option Addr}{l:Mp}(s:Ch f L H)(hl:μ.length=H.length)(e:(nZ f μ++l)[i]? = some p):(μ++l)[fN f H.length i]? = some p:=by
 unfold fN;by_cases hi:i<(nZ f μ).length
 ·rw[List.getElem?_append_left hi] at e
  obtain⟨j,h1,h2⟩:=Bg s hl e;rw[h1];rw[List.getElem?_append_left (List.getElem?_eq_some_iff.mp h2).1];exact h2
 ·rw[List.getElem?_append_right (Nat.le_of_not_lt hi),iZ] at e
  rw[List.getElem?_eq_none (l:=f) (by rw[iZ] at hi;exact Nat.le_of_not_lt hi)];dsimp only;rw[<- hl,List.getElem?_append_right (Nat.le_add_right ..),Nat.add_sub_cancel_left];exact e
theorem AB{a:Addr}(s:Ch f L H)(hl:μ.length=H.length)(o:mM (nZ f μ) a):Rt (fun (i:Nat) (j:Nat) (p:Addr×Option Addr)=>f[i]? = some j) (fun i j p=>μ[j]? = some p) (fun i j p=>a∈jP p):=by
 obtain⟨i,p,h1,h2⟩:=o.get;obtain⟨j,h3,h4⟩:=Bg s hl h1;exact⟨i,j,p,h3,h4,h2⟩
theorem St.jN(st:St W μ H h)(s:Ch f L H):St W (nZ f μ) L h:=by
 have own: ∀ {a},mM (nZ f μ) a->mM μ a:=fun o=>let ⟨i,j,p,_,h4,h2⟩:=AB s st.len o;.nK h4 h2
 refine⟨iZ.trans s.len.symm,st.iC,fun i o p ho hp=> ?_,fun a ha=>st.fresh a (own ha),fun i j p q a hp hq ha hb=> ?_,fun a o ha e=>st.kind a o (own ha) e⟩
 ·obtain⟨j,h1,h2⟩:=Bg s st.len hp
  refine lQ.jN (fun i p e=>Fw st.len e) (st.obj j _ p ?_ h2);rw[(s.oK i j h1).2,ho];rfl
 ·obtain⟨i',h1,h2⟩:=Bg s st.len hp
  obtain⟨j',h3,h4⟩:=Bg s st.len hq;have:=st.apart i' j' p q a h2 h4 ha hb;exact (List.getElem?_inj (List.getElem?_eq_some_iff.mp h1).1 s.nd).mp (h1.trans (congrArg some this▸h3.symm))
theorem Mv.oE{μ':Mp}{L' H':Hp}{h':Heap}{l:Mp}(st:St W μ H h)(s:Ch f L H)(m:Mv W X0 (nZ f μ) h μ' L' h')(hl:μ'=nZ f μ++l)(b:El f H L' H'):Mv W X0 μ h (μ++l) H' h':=by
 rw[hl] at m;have bE:L'.length=f.length+l.length:=by rw[<- m.st.len,List.length_append,iZ]
 have up: ∀ i p,(nZ f μ++l)[i]? = some p->(μ++l)[fN f H.length i]? = some p:=fun i p e=>N0 s st.len e;have own: ∀ {a},mM (nZ f μ) a->mM μ a:=fun o=>let ⟨i,j,p,_,h4,h2⟩:=AB s st.len o;.nK h4 h2
 have ax: ∀ {a i p},l[i]? = some p->a∈jP p->mM (nZ f μ++l) a:=fun e ha=>let ⟨hi,e'⟩:=List.getElem?_eq_some_iff.mp e;⟨_,List.mem_append_right _ (e'▸List.getElem_mem hi),ha⟩
 have Pq: ∀ {i p},l[i]? = some p->(nZ f μ++l)[f.length+i]? = some p:=fun e=>by
  rw[List.getElem?_append_right (by rw[iZ];exact Nat.le_add_right ..),iZ,Nat.add_sub_cancel_left];exact e
 have lP: ∀ {a},mM (μ++l) a->mM μ a\/mM (nZ f μ++l) a:=fun o=>by
  obtain⟨p,hp,ha⟩:=o;rcases List.mem_append.mp hp with hp|hp
  ·exact .inl ⟨p,hp,ha⟩
  ·exact .inr ⟨p,List.mem_append_right _ hp,ha⟩
 have YF: ∀ {i p},(μ++l)[i]? = some p->(i<μ.length/\μ[i]? = some p)\/dO (fun j=>i=μ.length+j) (fun j=>l[j]? = some p):=fun {i p} e=>by
  by_cases hi:i<μ.length
  ·rw[List.getElem?_append_left hi] at e;exact .inl ⟨hi,e⟩
  ·rw[List.getElem?_append_right (Nat.le_of_not_lt hi)] at e
   exact .inr ⟨_,(Nat.add_sub_cancel' (Nat.le_of_not_lt hi)).symm,e⟩
 have jd: ∀ {i j p q a},μ[i]? = some p->l[j]? = some q->a∈jP p->a∈jP q->False:=fun {i j p q a} e1 e2 ha hb=>by
  obtain⟨o,ho⟩:=st.has (.nK e1 ha);obtain⟨k,i',r,h3,h4,h5⟩:=AB s st.len (m.new a o (ax e2 hb) ho);have e3:(nZ f μ++l)[k]? = some r:=by
   rw[List.getElem?_append_left (by rw[iZ];exact (List.getElem?_eq_some_iff.mp h3).1)];exact IC h3 h4
  have:=m.st.apart k (f.length+j) r q a e3 (Pq e2) h5 hb;exact Nat.not_lt_of_le (Nat.le_add_right f.length j) (this▸(List.getElem?_eq_some_iff.mp h3).1)
 refine⟨⟨?_,m.st.iC,fun i o p ho hp=> ?_,fun a ha=>(lP ha).elim (st.fresh a) (m.st.fresh a),fun i j p q a hp hq ha hb=> ?_,fun a o ha e=> ?_⟩,⟨l,rfl⟩,fun a o ha e=>(lP ha).elim id fun z=>own (m.new a o z e),m.has,fun b o hb hx e=>m.keep b o (fun z=>hb (own z)) hx e⟩
 ·rw[b.len,bE,List.length_append,st.len,Nat.add_sub_cancel_left]
 ·rcases YF hp with⟨hi,e⟩|⟨j,rfl,e⟩
  ·by_cases hm:i∈f
   ·obtain⟨k,hk⟩:=List.getElem?_of_mem hm
    rw[b.oK k i hk] at ho;obtain⟨o',h1,h2⟩:=Option.map_eq_some_iff.mp ho;rw[<- h2];refine lQ.oE up (m.st.obj k o' p h1 ?_);rw[List.getElem?_append_left (by rw[iZ];exact (List.getElem?_eq_some_iff.mp hk).1)];exact IC hk e
   ·rw[b.keep i (st.len▸hi) hm] at ho
    refine (st.obj i o p ho e).bJ (fun i p e=> ?_) (m.Re (st.jN s) fun _ _ q=>q.elim) fun a ha ob e1=>m.keep a ob (fun z=> ?_) (fun q=>q) e1
    ·rw[List.getElem?_append_left (List.getElem?_eq_some_iff.mp e).1];exact e
    ·obtain⟨k,i',r,h3,h4,h5⟩:=AB s st.len z
     exact hm (st.apart i i' p r a e h4 ha h5▸List.mem_of_getElem? h3)
  ·rw[st.len,b.new] at ho
   obtain⟨o',h1,h2⟩:=Option.map_eq_some_iff.mp ho;rw[<- h2];exact lQ.oE up (m.st.obj _ o' p h1 (Pq e))
 ·rcases YF hp with⟨_,e⟩|⟨i',rfl,e⟩<;>rcases YF hq with⟨_,e'⟩|⟨j',rfl,e'⟩
  ·exact st.apart i j p q a e e' ha hb
  ·exact (jd e e' ha hb).elim
  ·exact (jd e' e hb ha).elim
  ·exact congrArg _ (Nat.add_left_cancel (m.st.apart _ _ p q a (Pq e) (Pq e') ha hb))
 ·by_cases z:mM (nZ f μ++l) a
  ·exact m.st.kind a o z e
  ·have ha:=(lP ha).resolve_right z
   obtain⟨o',ho⟩:=st.has ha;rw[<- Option.some.inj ((m.keep a o' (fun y=>z y.append) (fun q=>q) ho).symm.trans e)];exact st.kind a o' ha ho
end
theorem SE{W:Wd}{A:Around}{cl:Call}(h:kJ W A cl):kJ W A (Uw W.G cl):=fun {n np nv b args H μ s vals f P} hk hg st ha w=>by
 have w:cR (W.G.fr n) (dy cl n args H P) (cl n args H P):=w;cases hb:W.G.fr n with
 | false=>rw[hb] at w;exact h hk hg st ha w
 | true=>
  rw[hb] at w;obtain⟨ps,L,as,s1,e,w1⟩:=w;rw[<- e] at ha;intro Q E q;refine h hk hg (st.jN s1) (aO.jN (fun i p e=>Fw st.len e) as ha) w1 Q E fun v L' p μ' h' tk y m hy=> ?_;obtain⟨l,hl⟩:=m.ext;have b:=O8 (L':=L') s1 (by rw[<- m.st.len,hl,List.length_append,iZ];exact Nat.le_add_right ..);exact q _ _ (p _ b) _ h' tk y (m.oE st s1 hl b) (aS.oE (fun i p e=>N0 s1 st.len (hl▸e)) v hy)
end Mine
namespace Mine
open PySem PySem.W PyProof.Rows
theorem BF{α:Type}: ∀ {xs:List Str} {vs:List α},xs.Nodup->vs.length=xs.length->∀ {x:Str},x∈xs->((xs.zip vs).lookup x).isNone=false
 | [],_,_,_,x,h=>by cases h
 | y::ys,[],_,hl,x,h=>by simp at hl
 | y::ys,v::vs,hn,hl,x,h=>by
  rw[List.zip_cons_cons,List.lookup_cons];by_cases Zl:x=y
  ·subst Zl;simp
  ·have:(x==y)=false:=by simpa using Zl
   rw[this];simp at hl;have hx:x∈ys:=by
    rcases List.mem_cons.mp h with e|e
    ·exact absurd e Zl
    ·exact e
   exact BF (List.nodup_cons.mp hn).2 hl hx
theorem kA{α:Type}: ∀ {xs:List Str} {vs:List α},xs.Nodup->vs.length=xs.length->∀ (pre:List (Str×α)),(∀ x∈xs,pre.lookup x=none)->xs.filterMap (fun n=>((pre++xs.zip vs).lookup n).map (n,·))=xs.zip vs
 | [],_,_,_,pre,_=>rfl
 | y::ys,[],_,hl,pre,_=>by simp at hl
 | y::ys,v::vs,hn,hl,pre,hp=>by
  have SZ:=List.nodup_cons.mp hn;simp at hl;have hy:(pre++(y,v)::ys.zip vs).lookup y=some v:=by
   rw[List.lookup_append,hp y List.mem_cons_self];simp [List.lookup_cons]
  rw[List.zip_cons_cons,List.filterMap_cons,hy];simp only[Option.map_some]
  congr 1
  have:=kA (vs:=vs) SZ.2 hl (pre++[(y,v)]) (fun x hx=>by
   rw[List.lookup_append,hp x (List.mem_cons_of_mem _ hx)];have:(x==y)=false:=by
    simp only[beq_eq_false_iff_ne];intro q;subst q;exact SZ.1 hx
   simp [List.lookup_cons,this])
  rw[List.append_assoc,List.singleton_append] at this;exact this
theorem AX{fd:FuncData}{vals:List Value}{ps:List Arg}(hp:fd.params=⟨[],ps,none,[],[],none,[]⟩)(hd:fd.defaults= .none)(hn:(ps.map (·.arg)).Nodup)(hl:vals.length=ps.length):
  bindArgs fd ⟨vals,[]⟩=pure ((ps.map (·.arg)).zip vals):=by
 have D7:vals.length=(ps.map (·.arg)).length:=by simpa using hl
 have VS:((ps.map (·.arg)).filter fun n=>(((ps.map (·.arg)).zip vals).lookup n).isNone)=[]:=by
  rw[List.filter_eq_nil_iff];intro x hx;rw[BF hn D7 hx];simp
 have hf:=kA hn D7 [] (fun x _=>rfl);rw[List.nil_append] at hf;have Iw:decide (vals.length>(ps.map (·.arg)).length)=false:=by simpa using Nat.le_of_eq hl
 have hs:seqItems? Value.none=pure none:=rfl;clear hl hn;unfold bindArgs;rw[hp,hd];dsimp +zetaHave only;simp only[List.map_nil,List.nil_append,List.append_nil,↓hs,↓List.forIn_nil,↓pure_bind,Iw,Bool.false_and,Bool.false_eq_true,↓reduceIte,Option.getD_none,List.length_nil,Nat.zero_sub,Nat.sub_zero,List.drop_nil,List.take_length,VS,List.isEmpty_nil,Bool.not_true,List.zip_nil_right,hf]
end Mine
namespace Mine
open PySem PySem.W PyProof.Rows PySem.SeqAt
inductive Ld(W:Wd)(gl:Str->Option V)(n np nv:Nat)(b:List S):Prop where
 | mk(a:Addr)(o:Obj)(fd:FuncData)(ps:List Arg)(body:List Stmt)(vn:List Str)(_:W.eZ n=some (.ref a))(_:W.h0.get? a=some o)(_:o.data= .func fd)(_:fd.params=⟨[],ps,none,[],[],none,[]⟩)(_:fd.defaults= .none)(_:fd.closure=[])(_:fd.body= .stmts body)(_:fd.globals=3)(_:fd.builtins=0)(_:fd.scope.kind= .function)(_:fd.scope.isCoroutine=false)(_:fd.scope.isGenerator=false)(_:W.h0.CodeRec fd.code fd.qualname)(_:np<=nv)(_:vn.length=nv)(_:ps.map (·.arg)=vn.take np)(_:vn.Nodup)(_: ∀ x∈vn.take np,fd.scope.names.lookup x=some .local\/fd.scope.names.lookup x=some .cell)(_:Bv ⟨fd.scope.names,vn,gl,W.an⟩ b body=true)
theorem BE{α:Type}{x y:Str}{v:α}{r:List (Str×α)}: ((x,v)::r).lookup y=if y=x then some v else r.lookup y:=by
 rw[List.lookup_cons];by_cases h:y=x
 ·rw[if_pos h,beq_iff_eq.mpr h]
 ·rw[if_neg h,beq_eq_false_iff_ne.mpr h]
theorem tF{x:Str}{names:List (Str×NameKind)}: ∀ {n:Nat} {acc:List (Str×Addr)},(acc.lookup x).isSome=true\/(x,NameKind.cell)∈names->((cellsFrom n names acc).lookup x).isSome=true:=by
 induction names with
 | nil=>exact fun h=>h.elim (fun h=>h) fun h=>nomatch h
 | cons y r ih=>
  obtain⟨y,k⟩:=y;intro n acc h;unfold cellsFrom;split
  ·refine ih ?_
   rw[BE];by_cases e:x=y
   ·rw[if_pos e];exact .inl rfl
   ·rw[if_neg e];exact h.imp_right fun h=>(List.mem_cons.mp h).resolve_left fun q=>e (congrArg Prod.fst q)
  ·rename_i hk
   exact ih (h.imp_right fun h=>(List.mem_cons.mp h).resolve_left fun q=>hk (beq_iff_eq.mpr (congrArg Prod.snd q).symm))
theorem Go{kindOf:Str->Option NameKind}{x:Str}{bs:List (Str×Value)}: ∀ {m:Str->Option Value},x∉bs.map (·.1)->bindL kindOf bs m x=m x:=by
 induction bs with
 | nil=>exact fun _=>rfl
 | cons p r ih=>
  intro m h;unfold bindL;rw[ih fun q=>h (List.mem_cons_of_mem _ q)];split
  ·exact if_neg fun (q:x=p.1)=>h (q▸List.mem_cons_self ..)
  ·rfl
theorem Gn{kindOf:Str->Option NameKind}{x:Str}{bs:List (Str×Value)}: ∀ {m:Str->Option Value},x∉bs.map (·.1)->bindC kindOf bs m x=m x:=by
 induction bs with
 | nil=>exact fun _=>rfl
 | cons p r ih=>
  intro m h;unfold bindC;rw[ih fun q=>h (List.mem_cons_of_mem _ q)];split
  ·rfl
  ·exact if_neg fun (q:x=p.1)=>h (q▸List.mem_cons_self ..)
theorem Ez{kindOf:Str->Option NameKind}{x:Str}{v:Value}{bs:List (Str×Value)}: ∀ {m:Str->Option Value} {i:Nat},(bs.map (·.1)).Nodup->bs[i]? = some (x,v)->(kindOf x=some .local->bindL kindOf bs m x=some v)/\(kindOf x=some .cell->bindC kindOf bs m x=some v):=by
 induction bs with
 | nil=>exact fun _ h=>cY h
 | cons p r ih=>
  intro m i hn h;obtain⟨h1,h2⟩:=List.nodup_cons.mp hn;cases i with
  | zero=>
   rw[show p=(x,v) from Option.some.inj h] at h1 ⊢;unfold bindL bindC;rw[Go h1,Gn h1];exact⟨fun hk=>by rw[if_pos hk];exact if_pos rfl,fun hk=>by rw[if_neg (hk▸by decide)];exact if_pos rfl⟩
  | succ i=>
   unfold bindL bindC;exact⟨(ih h2 h).1,(ih h2 h).2⟩
noncomputable def Db(A:Around)(d:Nat):Prop:=A.handled=none/\A.depth+3*d<recursionLimit/\A.units+12*d+40<cLine
theorem Db.deeper{A:Around}{d:Nat}(r:Db A (d+1))(env:PySem.Env):Db (A.deeper env) d/\(A.deeper env).depth+1+3*d<recursionLimit:=by
 obtain⟨h1,h2,h3⟩:=r;refine⟨⟨h1,?_,?_⟩,?_⟩
 ·show A.depth+1+3*d<_;lia
 ·show A.units+3+12*d+40<_;lia
 ·show A.depth+1+1+3*d<_;lia
theorem Db.under{A:Around}{d:Nat}(r:Db A d)(hd:A.depth+1+3*d<recursionLimit)(hu:A.units+12*d+44<cLine)(C:Addr)(vals:List Value):Db (A.under (.builtin "type.__call__" ⟨.ref C::vals,[]⟩)) d:=by
 obtain⟨h1,h2,h3⟩:=r;refine⟨h1,?_,?_⟩
 ·show A.depth+1+3*d<_;lia
 ·show A.units+(1+3*0)+12*d+40<_;lia
theorem Uk{W:Wd}{A:Around}{cl:Call}(h:kJ W A cl):kJ W A fun n args H Q=>Bx (cl n args H Q):=fun {n np nv b args H μ s vals f P} hk hg st ha w=>h hk hg st ha (let ⟨w⟩:=w;w)
theorem L5{W:Wd}{gl:Str->Option V}(wo:oH W)(ao:GM W)(XH:Jl W gl)(en:Oq W gl)(Y9:W.h0.NoLimit)(YU: ∀ n np nv b,W.G.kind n= .fn np nv b->Ld W gl n np nv b)(d:Nat):
  ∀ A,Db A d->kJ W A (UR W.G d):=by
 induction d with
 | zero=>exact fun A _ {n np nv b args H μ s vals f P} _ _ _ _ w=>w.elim
 | succ d ih=>
 intro A hr n np nv b args H μ s vals f P hk hg st RF w;obtain⟨a,o,fd,ps,body,vn,g1,g2,g3,g4,g5,g6,g7,g8,g9,Wz,YW,lw,lx,ly,lz,W3,dz,mc,md⟩:=YU n np nv b hk;rw[Option.some.inj (hg.symm.trans g1)];obtain⟨q0,gu,w⟩:=w.ok;obtain⟨bE,w⟩:=M0 w;rw[hk] at gu;rw[<- Option.some.inj gu] at w bE;replace bE:args.length=np:=Nat.eq_of_beq_eq_true bE;have Sj:=RF.length;have gi:(vn.take np).length=np:=List.length_take_of_le (lz▸ly);have Ej:ps.length=np:=by rw[<- gi,<- W3,List.length_map]
 have gj:(vn.take np).Nodup:=dz.sublist (List.take_sublist ..);have U6:=AX (vals:=vals) g4 g5 (W3▸gj) (by rw[Ej,<- Sj,bE]);intro Q E q;obtain⟨HA,uR,qd⟩:=hr;refine wpAny_call (codeAny_call_cells (by lia) (st.iC a o g2) g3 (Y9.keeps st.iC) (lx.keeps st.iC) g7 U6 g6 ?_ ?_ YW lw Wz)
 ·intro x hx
  rw[W3] at hx;exact (mc x.1 (List.of_mem_zip hx).1).imp_right fun h=>⟨h,tF (.inr (mem_of_lookup h))⟩
 ·intro s1 uQ
  rw[W3] at uQ;have VW:(((vn.take np).zip vals).map (·.1)).Nodup:=by
   rw[List.map_fst_zip (by rw[gi,<- Sj,bE];exact Nat.le_refl _)];exact gj
  generalize Mf:callEnvC fd s.heap.objs.size a=env at uQ ⊢;have HB:env.scope=fd.scope:=Mf▸rfl;have Iy:env.locals=s.heap.objs.size:=Mf▸rfl;have SP:env.cells=cellsFrom (s.heap.objs.size+1) fd.scope.names []:=Mf▸rfl;have T8:env.kindOf=(fun z=>fd.scope.names.lookup z):=funext fun x=>by unfold Env.kindOf;rw[HB]
  obtain⟨h1,tk1,rfl⟩:=uQ.toInCall.same;have m0:=Mv.of_keep st (h':=h1) uQ.toInCall.keep;have Ym: ∀ c,FX env c->s.heap.get? c=none:=fun c hc=>Heap.get?_none_of_le (by
   rcases hc with hc|⟨x,hx⟩
   ·rw[hc,Iy];exact Nat.le_refl _
   ·exact Nat.le_of_lt (Iy▸uQ.above x c (mem_of_lookup hx)))
  have Q1: ∀ (i:Nat) x v,vn[i]? = some x->(args.map some++List.replicate (nv - np) none)[i]? = some (some v)->dO (fun y=>((vn.take np).zip vals)[i]? = some (x,y)) (fun y=>aS W μ h1 v y):=fun i x v hx hv=>by
   by_cases hi:i<np
   ·rw[List.getElem?_append_left (by rw[List.length_map,bE];exact hi),List.getElem?_map] at hv
    obtain⟨v',Sh,Si⟩:=Option.map_eq_some_iff.mp hv;obtain⟨y,hy,Zg⟩:=RF.get Sh;exact⟨y,List.getElem?_zip_eq_some.mpr ⟨by rw[List.getElem?_take_of_lt hi];exact hx,hy⟩,Option.some.inj Si▸Zg.mv st m0⟩
   ·rw[List.getElem?_append_right (by rw[List.length_map,bE];exact Nat.le_of_not_lt hi),List.getElem?_replicate] at hv
    split at hv
    ·exact cY (Option.some.inj hv)
    ·exact cY hv
  have fr:qP W μ h1 ⟨fd.scope.names,vn,gl,W.an⟩ env (args.map some++List.replicate (nv - np) none):=by
   refine⟨⟨HB▸Wz,HB▸rfl,Mf▸g8,Mf▸g9,⟨_,uQ.toInCall.ns,fun i x v h2 h3 h4=> ?_⟩,fun x hx=> ?_,st.dD (Ym _ (.inl rfl)),fun x c hc=> ?_⟩,fun x y c hx hy=>name_of_addr uQ.apart (mem_of_lookup hx) (mem_of_lookup hy),fun x c hc=>⟨_,uQ.cell x c hc⟩⟩
   ·obtain⟨y,h5,h6⟩:=Q1 i x v h2 h3
    exact⟨y,by rw[T8];exact (Ez VW h5).1 h4,h6⟩
   ·obtain⟨c,hc⟩:=Option.isSome_iff_exists.mp (SP▸tF (.inr (mem_of_lookup hx)):(env.cells.lookup x).isSome=true)
    refine⟨c,_,hc,uQ.cell x c hc,fun i v h2 h3=> ?_⟩;obtain⟨y,h5,h6⟩:=Q1 i x v h2 h3;exact⟨y,by rw[T8];exact (Ez VW h5).2 hx,h6⟩
   ·have h2:=st.dD (Ym c (.inr ⟨x,hc⟩))
    obtain⟨o,ho,_⟩:=uQ.cell x c hc;have h3:=uQ.above x c (mem_of_lookup hc);exact⟨h2.1,h2.2,fun z=>Nat.lt_irrefl _ (z▸h3),o,ho⟩
  have room:=Db.deeper (A:=A) (d:=d) ⟨HA,uR,qd⟩ env;have Ic: ∀ A',OF (A.deeper env) A'->kJ W A' (Uw W.G fun n args h Q=>Bx (UR W.G d n args h Q)):=fun A' U2=>SE (Uk (by
   rcases U2 with U2|⟨C,vs,U2⟩
   ·exact U2▸ih _ room.1
   ·exact U2▸ih _ (room.1.under room.2 (by show A.units+3+12*d+44<_;lia) C vs)))
  have ev:En W (A.deeper env) (Uw W.G fun n args h Q=>Bx (UR W.G d n args h Q)) ⟨fd.scope.names,vn,gl,W.an⟩:=⟨wo,ao,XH,en,rfl,dz,HA,by show A.units+3+21<_;lia,Ic⟩;refine lC ev b body md env (s:= { s with heap:=h1,toks:=tk1 }) fr m0.st w _ _ fun fl ρ' H' p μ' h' UP fw m f' hf=> ?_;have J1:Mv W X0 μ s.heap μ' H' h':=((m0.fx (X:=FX env)).trans m).OX fun c o' e' hc=>cY ((Ym c hc).symm.trans e');cases fl with
  | next=>
   rw[show fw= .next from hf];exact q _ _ p μ' h' UP .none J1 .none
  | ret v=>
   obtain⟨y,rfl,hv⟩:=hf;exact q _ _ p μ' h' UP _ J1 hv
end Mine
namespace Mine
open PySem PySem.W PyProof.Rows PySem.SeqAt
structure Tb where
 ga:List (Option Value)
 gl:List (Str×V)
 an:List Str
 vn:List (Nat×List Str)
noncomputable def Tb.g(T:Tb)(n:Nat):Option Value:=(T.ga[n]?).join
noncomputable def UQ{β:Type}(f:String->Option β):Value->Option β
 | .type t=>f t
 | _=>none
noncomputable def Xe{β:Type}(f:Addr->Option β):Value->Option β
 | .ref t=>f t
 | _=>none
noncomputable def Wv{β:Type}(f:String->Option β):Value->Option β
 | .builtin t=>f t
 | _=>none
theorem B2{β:Type}{f:String->Option β}{v:Value}{y:β}(h:UQ f v=some y):dO (fun t=>v= .type t) (fun t=>f t=some y):=by
 cases v<;>first|exact cY h|exact⟨_,rfl,h⟩
theorem Hj{β:Type}{f:Addr->Option β}{v:Value}{y:β}(h:Xe f v=some y):dO (fun t=>v= .ref t) (fun t=>f t=some y):=by
 cases v<;>first|exact cY h|exact⟨_,rfl,h⟩
theorem Gk{β:Type}{f:String->Option β}{v:Value}{y:β}(h:Wv f v=some y):dO (fun t=>v= .builtin t) (fun t=>f t=some y):=by
 cases v<;>first|exact cY h|exact⟨_,rfl,h⟩
noncomputable def IQ(x y:Value):Bool:=(Xe (fun a=>Xe (fun b=>dI (Nat.beq a b) (some ())) y) x).isSome||(UQ (fun a=>UQ (fun b=>dI (a==b) (some ())) y) x).isSome||(Wv (fun a=>Wv (fun b=>dI (a==b) (some ())) y) x).isSome
theorem sM{x y:Value}(h:IQ x y=true):x=y:=by
 rcases (Bool.or_eq_true _ _).mp h with h|h
 ·rcases (Bool.or_eq_true _ _).mp h with h|h
  ·obtain⟨u,h⟩:=Option.isSome_iff_exists.mp h
   obtain⟨a,e1,h1⟩:=Hj h;obtain⟨b,e2,h2⟩:=Hj h1;exact e1.trans ((congrArg Value.ref (Nat.eq_of_beq_eq_true (bH h2).1)).trans e2.symm)
  ·obtain⟨u,h⟩:=Option.isSome_iff_exists.mp h
   obtain⟨a,e1,h1⟩:=B2 h;obtain⟨b,e2,h2⟩:=B2 h1;exact e1.trans ((congrArg Value.type (eq_of_beq (bH h2).1)).trans e2.symm)
 ·obtain⟨u,h⟩:=Option.isSome_iff_exists.mp h
  obtain⟨a,e1,h1⟩:=Gk h;obtain⟨b,e2,h2⟩:=Gk h1;exact e1.trans ((congrArg Value.builtin (eq_of_beq (bH h2).1)).trans e2.symm)
noncomputable def Sq:Value->Bool
 | .none=>true
 | _=>false
theorem JA{x:Value}(h:Sq x=true):x= .none:=by
 cases x<;>first|exact eJ h|rfl
noncomputable def cz{β:Type}(f:ClassData->Option β):Data->Option β
 | .cls c=>f c
 | _=>none
noncomputable def jx{β:Type}(f:Array Value->Option β):Data->Option β
 | .seq xs _=>f xs
 | _=>none
noncomputable def da{β:Type}(f:Array DictEntry->Option β):Data->Option β
 | .dict xs _=>f xs
 | _=>none
noncomputable def PB{α β:Type}(f:α->List α->Option β):List α->Option β
 | x::r=>f x r
 | []=>none
noncomputable def aa{α β:Type}(y:Option β):List α->Option β
 | []=>y
 | _::_=>none
theorem R2{β:Type}{f:ClassData->Option β}{v:Data}{y:β}(h:cz f v=some y):dO (fun t=>v= .cls t) (fun t=>f t=some y):=by
 cases v<;>first|exact cY h|exact⟨_,rfl,h⟩
theorem Tl{β:Type}{f:Array Value->Option β}{v:Data}{y:β}(h:jx f v=some y):AG (fun xs n=>v= .seq xs n) (fun xs n=>f xs=some y):=by
 cases v<;>first|exact cY h|exact⟨_,_,rfl,h⟩
theorem R7{β:Type}{f:Array DictEntry->Option β}{v:Data}{y:β}(h:da f v=some y):AG (fun xs n=>v= .dict xs n) (fun xs n=>f xs=some y):=by
 cases v<;>first|exact cY h|exact⟨_,_,rfl,h⟩
theorem qZ{α β:Type}{f:α->List α->Option β}{l:List α}{y:β}(h:PB f l=some y):AG (fun x r=>l=x::r) (fun x r=>f x r=some y):=by
 cases l<;>first|exact cY h|exact⟨_,_,rfl,h⟩
theorem NP{α β:Type}{z:Option β}{l:List α}{y:β}(h:aa z l=some y):l=[]/\z=some y:=by
 cases l<;>first|exact cY h|exact⟨rfl,h⟩
noncomputable def bare{β:Type}(t:String)(o:Obj)(x:Option β):Option β:=UQ (fun t'=>dI (t'==t&&(o.dict.isNone&&o.slots.isEmpty)) x) o.cls
theorem IW{β:Type}{t:String}{o:Obj}{x:Option β}{y:β}(h:bare t o x=some y):x=some y/\o= { cls:=.type t,dict:=none,data:=o.data,slots:= #[] }:=by
 obtain⟨cl,dd,data,sl⟩:=o;obtain⟨t',e1,h⟩:=B2 h;obtain⟨hc,h⟩:=bH h;rw[show cl=_ from e1,eq_of_beq (aD hc).1,show dd=none from Option.isNone_iff_eq_none.mp (aD (aD hc).2).1,show sl= #[] from Array.isEmpty_iff.mp (aD (aD hc).2).2];exact⟨h,rfl⟩
noncomputable def Rf(o:Obj):Option (Array Value):=bare "tuple" o (jx some o.data)
theorem OL{o:Obj}{items:Array Value}(h:Rf o=some items):jJ fun n=>o= { cls:=.type "tuple",dict:=none,data:=.seq items n,slots:= #[] }:=by
 obtain⟨h1,h2⟩:=IW h;obtain⟨xs,n,h3,h4⟩:=Tl h1;exact⟨n,h2.trans (by rw[h3,Option.some.inj h4])⟩
noncomputable def L1(a:Bool):Value->Bool
 | .bool b=>a==b
 | _=>false
noncomputable def M4(a:Int):Value->Bool
 | .int b _=>decide (b=a)
 | _=>false
noncomputable def Rb(a:Str):Value->Bool
 | .str b _=>b==a
 | _=>false
noncomputable def BZ(f:Addr->Bool):Value->Bool
 | .ref a=>f a
 | _=>false
theorem J5{a:Bool}{v:Value}(h:L1 a v=true):v= .bool a:=by
 cases v<;>first|exact eJ h|exact congrArg Value.bool (eq_of_beq h).symm
theorem FI{a:Int}{v:Value}(h:M4 a v=true):jJ fun t=>v= .int a t:=by
 cases v<;>first|exact eJ h|exact⟨_,congrArg (Value.int · _) (of_decide_eq_true h)⟩
theorem OD{a:Str}{v:Value}(h:Rb a v=true):jJ fun t=>v= .str a t:=by
 cases v<;>first|exact eJ h|exact⟨_,congrArg (Value.str · _) (eq_of_beq h)⟩
theorem nY{f:Addr->Bool}{v:Value}(h:BZ f v=true):dO (fun a=>v= .ref a) (fun a=>f a=true):=by
 cases v<;>first|exact eJ h|exact⟨_,rfl,h⟩
noncomputable def yM{α:Type}(f:α->Bool):Option α->Bool
 | some x=>f x
 | none=>false
theorem dH{α:Type}{f:α->Bool}{o:Option α}(h:yM f o=true):dO (fun x=>o=some x) (fun x=>f x=true):=by
 cases o<;>first|exact eJ h|exact⟨_,rfl,h⟩
noncomputable def MC{α:Type}(f:α->List α->Bool):List α->Bool
 | x::xs=>f x xs
 | []=>false
theorem E2{α:Type}{f:α->List α->Bool}{l:List α}(h:MC f l=true):AG (fun x xs=>l=x::xs) (fun x xs=>f x xs=true):=by
 cases l<;>first|exact eJ h|exact⟨_,_,rfl,h⟩
section
variable(T:Tb)(h:Heap)
mutual
noncomputable def Xm:V->Value->Bool
 | .none,y=>Sq y
 | .bool a,y=>L1 a y
 | .int a,y=>M4 a y
 | .str a,y=>Rb (Str.ofString a) y
 | .aM xs,y=>BZ (fun a=>yM (fun o=>yM (fun items=>decide (xs.length<=most)&&Tx xs items.toList) (Rf o)) (h.get? a)) y
 | .g n,y=>yM (fun v=>IQ v y) (T.g n)
 | .ref _,_=>false
 | .mD _ _,_=>false
noncomputable def Tx:List V->List Value->Bool
 | [],ys=>ys.isEmpty
 | x::xs,ys=>MC (fun y ys=>Xm x y&&Tx xs ys) ys
end
noncomputable def ah(x:Str):Option Value:=match h.nsMap 3 x with
 | some v=>some v
 | none=>h.nsMap 0 x
noncomputable def Ux(p:Str×V):Bool:=yM (Xm T h p.2) (ah h p.1)
noncomputable def JR(a:Arguments):Option (List Arg):=dI (a.posonlyargs.isEmpty&&a.vararg.isNone&&a.kwonlyargs.isEmpty&&a.kw_defaults.isEmpty&&a.kwarg.isNone&&a.defaults.isEmpty) (some a.args)
noncomputable def Ja:FuncBody->Option (List Stmt)
 | .stmts b=>some b
 | _=>none
noncomputable def MV:Data->Option FuncData
 | .func fd=>some fd
 | _=>none
noncomputable def lm(vn:List Str)(np nv:Nat)(b:List S)(fd:FuncData):Bool:=yM (fun ps=>yM (fun body=>
  Sq fd.defaults&&fd.closure.isEmpty&&Nat.beq fd.globals 3&&Nat.beq fd.builtins 0&&fd.scope.kind== .function && !fd.scope.isCoroutine && !fd.scope.isGenerator&&h.codeRecOk fd.code fd.qualname&&decide (np<=nv)&&Nat.beq vn.length nv &&
   (ps.map (·.arg)==vn.take np)&&decide vn.Nodup&&(vn.take np).all (fun x=>fd.scope.names.lookup x==some .local||fd.scope.names.lookup x==some .cell)&&Bv ⟨fd.scope.names,vn,fun x=>T.gl.lookup x,fun a=>T.an[a]?⟩ b body) (Ja fd.body)) (JR fd.params)
noncomputable def dt(n np nv:Nat)(b:List S):Bool:=yM (BZ fun a=>yM (fun o=>yM (lm T h ((T.vn.lookup n).getD []) np nv b) (MV o.data)) (h.get? a)) (T.g n)
noncomputable def YL:List (Int×V)->List DictEntry->Bool
 | [],es=>es.isEmpty
 | p::r,es=>MC (fun e es=>M4 p.1 e.key&&decide (e.hash=hashInt p.1)&&Xm T h p.2 e.val&&YL r es) es
noncomputable def dictOf(o:Obj):Option (Array DictEntry):=bare "dict" o (da some o.data)
noncomputable def RA(n:Nat)(es:List (Int×V)):Bool:=yM (BZ fun d=> !(d==sysModules)&&yM (fun o=>yM (fun wW=>decide (es.map (·.1)).Nodup&&YL T h es wW.toList) (dictOf o)) (h.get? d)) (T.g n)
noncomputable def JL(x:Str):Option (Option Value):=fastLookup "object" x
noncomputable def Vq(o:Obj):Bool:=IQ o.cls (.type "function")
noncomputable def So(a:Addr):Bool:=yM Vq (h.get? a)
noncomputable def Q5(o:Obj):Option (Em×Addr×Addr):=UQ (fun t=>cz (fun c=>PB (fun v1 r=>Xe (fun C'=>PB (fun v2 r=>UQ (fun t'=>aa (PB (fun k0 r=>PB (fun k1 r=>PB (fun k2 r=>PB (fun k3 r=>PB (fun x r=>PB (fun k5 r=>aa (bO x (Wv fun nw=>dI ((t=="type"&&t'=="object"&&nw=="object.__new__")&&(c.hasDict && !c.abstract && !c.hasDel)) (some (⟨c.name,c.qualname,c.bases,c.slotNames,c.subclasses,c.collection,o.dict,k0,k1,k2,k3,k5⟩,C',c.ns)))) r) r) r) r) r) r) o.slots.toList) r) v2) r) v1) c.mro) o.data) o.cls
noncomputable def Un(dat:List (Nat×Nat))(mt:List (Nat×Nat×Nat))(c eF:Nat):Bool:=yM (BZ fun C=>yM (fun o=>yM (fun q:Em×Addr×Addr=>
   Nat.beq q.2.1 C&&h.isNs q.2.2&&(h.nsMap q.2.2 "__getattribute__").isNone&&(h.nsMap q.2.2 "__getattr__").isNone&&(h.nsMap q.2.2 "__setattr__").isNone &&
   yM (BZ fun fI=>yM (fun v=>IQ v (.ref fI)) (h.nsMap q.2.2 "__init__")&&So h fI) (T.g eF) &&
   dat.all (fun e=> !(Nat.beq e.1 c)||yM (fun x=>(h.nsMap q.2.2 x).isNone&&yM (fun r=>r.isNone) (JL x)) (T.an[e.2]?)) &&
   mt.all (fun e=> !(Nat.beq e.1 c)||yM (fun x=>yM (BZ fun fa=>yM (fun v=>IQ v (.ref fa)) (h.nsMap q.2.2 x)&&So h fa&&(JL x).isSome) (T.g e.2.2)) (T.an[e.2.1]?))) (Q5 o)) (h.get? C)) (T.g c)
noncomputable def I8:Kind->Bool
 | .fn _ _ _=>true
 | _=>false
noncomputable def JD(kind:Nat->Kind)(dat:List (Nat×Nat))(mt:List (Nat×Nat×Nat))(n:Nat):Kind->Bool
 | .fn np nv b=>dt T h n np nv b
 | .cls eF=>Un T h dat mt n eF&&I8 (kind eF)
 | .jH es=>RA T h n es
 | .kB _=>true
 | .cU=>true
 | .blt b=>yM (fun v=>IQ v (O9 b)) (T.g n)
end
end Mine
namespace Mine
open PySem PySem.W PyProof.Rows PySem.SeqAt
section
variable{W:Wd}{T:Tb}{h:Heap}(tI: ∀ n v,T.g n=some v->W.eZ n=some v)(hx: ∀ b o,h.get? b=some o->W.h0.get? b=some o)
include tI hx
mutual
theorem IS: ∀ {v:V} {y:Value},Xm T h v y=true->aS W [] W.h0 v y
 | .none,y,e=>by rw[JA e];exact .none
 | .bool a,y,e=>by rw[J5 e];exact .bool a
 | .int a,y,e=>by obtain⟨t,rfl⟩:=FI e;exact .int a t
 | .str a,y,e=>by obtain⟨t,rfl⟩:=OD e;exact .str a t
 | .aM xs,y,e=>by
  obtain⟨a,rfl,e1⟩:=nY e;obtain⟨o,ho,e2⟩:=dH e1;obtain⟨items,hi,e3⟩:=dH e2;obtain⟨n,rfl⟩:=OL hi;exact .LG (of_decide_eq_true (aD e3).1) ⟨n,hx _ _ ho⟩ (Jj (aD e3).2)
 | .g n,y,e=>by
  obtain⟨v,hv,e1⟩:=dH e;rw[sM e1] at hv;exact .g (tI n y hv)
 | .ref _,y,e=>eJ e
 | .mD _ _,y,e=>eJ e
theorem Jj: ∀ {xs:List V} {ys:List Value},Tx T h xs ys=true->aO W [] W.h0 xs ys
 | [],ys,e=>List.isEmpty_iff.mp e▸ .nil
 | x::xs,ys,e=>by
  obtain⟨y,ys,rfl,e1⟩:=E2 e;exact .cons (IS (aD e1).1) (Jj (aD e1).2)
end
theorem Uy(h3:h.isNs 3=true)(h0:h.isNs 0=true)(hg:T.gl.all (Ux T h)=true):Jl W (fun x=>T.gl.lookup x):=fun x v e=>by
 obtain⟨y,hy,e1⟩:=dH (List.all_eq_true.mp hg _ (mem_of_lookup e));refine⟨y,IS tI hx e1,?_⟩;have n3:W.h0.Ns 3 (h.nsMap 3):=Ns.eN (Heap.Ns.of_isNs h3) fun o e=>hx _ _ e;have n0:W.h0.Ns 0 (h.nsMap 0):=Ns.eN (Heap.Ns.of_isNs h0) fun o e=>hx _ _ e;have hy:(match h.nsMap 3 x with|some v=>some v|none=>h.nsMap 0 x)=some y:=hy;cases hz:h.nsMap 3 x with
 | some z=>rw[hz] at hy;exact .inl ⟨_,n3,hz.trans hy⟩
 | none=>rw[hz] at hy;exact .inr ⟨_,_,n3,hz,n0,hy⟩
omit tI hx in
theorem He{a:Arguments}{ps:List Arg}(e:JR a=some ps):a=⟨[],ps,none,[],[],none,[]⟩:=by
 obtain⟨a1,a2,a3,a4,a5,a6,a7⟩:=a;obtain⟨h,e⟩:=bH e;have h2:=aD h;have h3:=aD h2.1;have h4:=aD h3.1;have h5:=aD h4.1;have h6:=aD h5.1;rw[show a1=[] from List.isEmpty_iff.mp h6.1,show a2=ps from Option.some.inj e,show a3=none from Option.isNone_iff_eq_none.mp h6.2,show a4=[] from List.isEmpty_iff.mp h5.2,show a5=[] from List.isEmpty_iff.mp h4.2,show a6=none from Option.isNone_iff_eq_none.mp h3.2,show a7=[] from List.isEmpty_iff.mp h2.2]
omit tI hx in
theorem IK{a:FuncBody}{b:List Stmt}(e:Ja a=some b):a= .stmts b:=by
 cases a<;>first|exact cY e|exact congrArg FuncBody.stmts (Option.some.inj e)
omit tI hx in
theorem KI{a:Data}{b:FuncData}(e:MV a=some b):a= .func b:=by
 cases a<;>first|exact cY e|exact congrArg Data.func (Option.some.inj e)
theorem Uv{n np nv:Nat}{b:List S}(PP:W.an=fun a=>T.an[a]?)(e:dt T h n np nv b=true):Ld W (fun x=>T.gl.lookup x) n np nv b:=by
 obtain⟨v,hv,e1⟩:=dH e;obtain⟨a,rfl,e2⟩:=nY e1;obtain⟨o,ho,e3⟩:=dH e2;obtain⟨fd,Yz,e4⟩:=dH e3;obtain⟨ps,Sf,e5⟩:=dH e4;obtain⟨body,hb,e6⟩:=dH e5;have e7:=aD e6;have e8:=aD e7.1;have e9:=aD e8.1;have T3:=aD e9.1;have T4:=aD T3.1;have db:=aD T4.1;have de:=aD db.1;have df:=aD de.1;have dg:=aD df.1;have dh:=aD dg.1;have di:=aD dh.1;have dj:=aD di.1;have dk:=aD dj.1;exact⟨a,o,fd,ps,body,(T.vn.lookup n).getD [],tI _ _ hv,hx _ _ ho,KI Yz,He Sf,JA dk.1,List.isEmpty_iff.mp dk.2,IK hb,Nat.eq_of_beq_eq_true dj.2,Nat.eq_of_beq_eq_true di.2,eq_of_beq dh.2,sW dg.2,sW df.2,(Heap.CodeRec.of_ok de.2).keeps hx,of_decide_eq_true db.2,Nat.eq_of_beq_eq_true T4.2,eq_of_beq T3.2,of_decide_eq_true e9.2,fun x hx=>((Bool.or_eq_true _ _).mp (List.all_eq_true.mp e8.2 x hx)).imp eq_of_beq eq_of_beq,PP▸e7.2⟩
omit tI hx in
theorem J9{o:Obj}{wW:Array DictEntry}(e:dictOf o=some wW):o.ExactDict/\∃ ep,o.data= .dict wW ep:=by
 obtain⟨h1,h2⟩:=IW e;obtain⟨xs,n,h3,h4⟩:=R7 h1;rw[Option.some.inj h4] at h3;exact⟨h2▸⟨rfl,rfl,rfl⟩,n,h3⟩
theorem R8{es:List (Int×V)}: ∀ {wW:List DictEntry},YL T h es wW=true->Os (fun kvs:List (Int×Value)=>fS W [] W.h0 es kvs) (fun kvs=>Pairs (intKind W.prog W.w) wW kvs) (fun kvs=>∀ e∈wW,∃ k,(intKind W.prog W.w).is k e.key=true/\e.hash=(intKind W.prog W.w).hash k) (fun kvs=>kvs.map (·.1)=es.map (·.1)):=by
 induction es with
 | nil=>
  intro wW e;rw[List.isEmpty_iff.mp e];exact⟨[],.nil,.nil,fun _ h=>(nomatch h),rfl⟩
 | cons p r ih=>
  intro wW e;obtain⟨k,x⟩:=p;obtain⟨en,wW,rfl,e1⟩:=E2 e;have h4:=aD e1;have h3:=aD h4.1;have h2:=aD h3.1;obtain⟨t,ht⟩:=FI h2.1;obtain⟨kvs,g1,g2,g3,g4⟩:=ih h4.2;have hk:(intKind W.prog W.w).is k en.key=true:=ht▸intKind_is _ _ _ t;refine⟨(k,en.val)::kvs,.cons (IS tI hx h3.2) g1,.cons hk rfl g2,fun e' he=> ?_,congrArg (k:: ·) g4⟩;rcases List.mem_cons.mp he with he|he
  ·exact⟨k,he▸hk,he▸of_decide_eq_true h2.2⟩
  ·exact g3 e' he
theorem PH{n:Nat}{es:List (Int×V)}(e:RA T h n es=true): ∃ d kvs ep,W.eZ n=some (.ref d)/\(d==sysModules)=false/\W.h0.DictAt (intKind W.prog W.w) d kvs ep/\fS W [] W.h0 es kvs:=by
 obtain⟨v,hv,e1⟩:=dH e;obtain⟨d,rfl,e2⟩:=nY e1;obtain⟨o,ho,e3⟩:=dH (aD e2).2;obtain⟨wW,nu,e4⟩:=dH e3;obtain⟨hd,ep,SR⟩:=J9 nu;obtain⟨kvs,g1,g2,g3,g4⟩:=R8 tI hx (aD e4).2;exact⟨d,kvs,ep,tI _ _ hv,sW (aD e2).1,⟨o,wW,hx _ _ ho,hd,SR,fun e he=>g3 e (Array.mem_toList_iff.mpr he),g2,by rw[g4];exact of_decide_eq_true (aD e4).1⟩,g1⟩
omit tI hx in
theorem MA{o:Obj}{p:Em}{C N:Addr}(e:Q5 o=some (p,C,N)):o=p.obj C N:=by
 obtain⟨cl,dd,data,⟨sl⟩⟩:=o;obtain⟨t,q1,e⟩:=B2 e;obtain⟨c,q2,e⟩:=R2 e;obtain⟨nm,bs,mro,ns,q,hd,sn,sub,ab,col,dl⟩:=c;obtain⟨v1,r,q3,e⟩:=qZ e;obtain⟨C',q4,e⟩:=Hj e;obtain⟨v2,r2,q5,e⟩:=qZ e;obtain⟨t',q6,e⟩:=B2 e;obtain⟨q7,e⟩:=NP e;obtain⟨k0,r3,q8,e⟩:=qZ e;obtain⟨k1,r4,q9,e⟩:=qZ e;obtain⟨k2,r5,tx,e⟩:=qZ e;obtain⟨k3,r6,tz,e⟩:=qZ e;obtain⟨x,r7,ua,e⟩:=qZ e;obtain⟨k5,r8,ub,e⟩:=qZ e;obtain⟨uc,e⟩:=NP e;obtain⟨v,ud,e⟩:=aK e;obtain⟨nw,ue,e⟩:=Gk e;obtain⟨hc,e⟩:=bH e;have h2:=aD hc;have h3:=aD h2.1;have h4:=aD h3.1;have h5:=aD h2.2;have h6:=aD h5.1;have e:=Option.some.inj e;rw[show p=_ from (congrArg (·.1) e).symm,show C=C' from (congrArg (·.2.1) e).symm,show N=ns from (congrArg (·.2.2) e).symm];rw[show cl=_ from q1,show data=_ from q2,show mro=_ from q3,q4,q5,q6,q7,show sl=_ from q8,q9,tx,tz,ua,ub,uc,ud,ue,eq_of_beq h4.1,eq_of_beq h4.2,eq_of_beq h3.2,show hd=true from h6.1,show ab=false from sW h6.2,show dl=false from sW h5.2]
omit tI hx in
theorem FW{x:Str}{y:Option Value}(e:JL x=some y):typeLookup (.type "object") x=pure y:=by
 rw[typeLookup_type,builtinLookup_eq_fast];unfold JL at e;rw[e]
omit tI in
theorem I9{a:Addr}(e:So h a=true):dO (fun o=>W.h0.get? a=some o) (fun o=>o.cls= .type "function"):=by
 obtain⟨o,ho,e1⟩:=dH e;exact⟨o,hx _ _ ho,sM e1⟩
omit tI hx in
theorem IV{α:Type}{l:List (Nat×α)}{f:Nat×α->Bool}{c:Nat}{a:α}(e:l.all (fun e=> !(Nat.beq e.1 c)||f e)=true)(hm:(c,a)∈l):f (c,a)=true:=by
 have h:=List.all_eq_true.mp e _ hm;dsimp only at h;rw[Nat.beq_refl] at h;exact h
theorem R4{dat:List (Nat×Nat)}{mt:List (Nat×Nat×Nat)}{c eF:Nat}(PP:W.an=fun a=>T.an[a]?)(PR: ∀ a,W.G.iQ c a=true->(c,a)∈dat)(UA: ∀ a f,W.G.aJ c a=some f->(c,a,f)∈mt)(e:Un T h dat mt c eF=true):Jp (Qu W c eF):=by
 obtain⟨v,hv,e1⟩:=dH e;obtain⟨C,rfl,e2⟩:=nY e1;obtain⟨o,ho,e3⟩:=dH e2;obtain⟨⟨p,C',N⟩,hq,e4⟩:=dH e3;have h8:=aD e4;have h7:=aD h8.1;have h6:=aD h7.1;have h5:=aD h6.1;have h4:=aD h5.1;have h3:=aD h4.1;have h2:=aD h3.1;have gk:=hx _ _ ho;rw[MA hq,show C'=C from Nat.eq_of_beq_eq_true h2.1] at gk;obtain⟨vi,qo,e5⟩:=dH h6.2;obtain⟨fI,rfl,e6⟩:=nY e5;obtain⟨v2,Si,e7⟩:=dH (aD e6).1;obtain⟨oI,RN,nc⟩:=I9 hx (aD e6).2;refine⟨C,N,h.nsMap N,p,tI _ _ hv,gk,Ns.eN (Heap.Ns.of_isNs h2.2) (fun o e=>hx _ _ e),Option.isNone_iff_eq_none.mp h3.2,Option.isNone_iff_eq_none.mp h4.2,Option.isNone_iff_eq_none.mp h5.2,⟨fI,oI,tI _ _ qo,Si.trans (congrArg some (sM e7)),RN,nc⟩,fun a x ha Vo=> ?_,fun a f x hf Vo=> ?_⟩
 ·obtain⟨x',Zi,e8⟩:=dH (IV h7.2 (PR a ha))
  rw[PP] at Vo;rw[Option.some.inj (Zi.symm.trans Vo)] at e8;obtain⟨r,hr,e9⟩:=dH (aD e8).2;exact⟨Option.isNone_iff_eq_none.mp (aD e8).1,FW (hr.trans (congrArg some (Option.isNone_iff_eq_none.mp e9)))⟩
 ·obtain⟨x',Zi,e8⟩:=dH (IV h8.2 (UA a f hf))
  rw[PP] at Vo;rw[Option.some.inj (Zi.symm.trans Vo)] at e8;obtain⟨vf,qn,e9⟩:=dH e8;obtain⟨fa,rfl,T3⟩:=nY e9;obtain⟨v3,ql,T4⟩:=dH (aD (aD T3).1).1;obtain⟨Pw,Mn,SQ⟩:=I9 hx (aD (aD T3).1).2;obtain⟨y,hy⟩:=Option.isSome_iff_exists.mp (aD T3).2;exact⟨fa,Pw,y,ql.trans (congrArg some (sM T4)),tI _ _ qn,Mn,SQ,FW hy⟩
end
noncomputable def Ay:Kind->Bool
 | .cls _=>true
 | _=>false
theorem C0{k:Kind}(h:Ay k=true): ∃ i,k= .cls i:=by
 cases k<;>first|exact eJ h|exact⟨_,rfl⟩
theorem FJ{k:Kind}(h:I8 k=true):Li fun np nv b=>k= .fn np nv b:=by
 cases k<;>first|exact eJ h|exact⟨_,_,_,rfl⟩
theorem LD{W:Wd}{T:Tb}{h:Heap}{dat:List (Nat×Nat)}{mt:List (Nat×Nat×Nat)}(tI: ∀ n v,T.g n=some v->W.eZ n=some v)(hx: ∀ b o,h.get? b=some o->W.h0.get? b=some o)(PP:W.an=fun a=>T.an[a]?)
  (PR: ∀ c a,W.G.iQ c a=true->(c,a)∈dat) (UA: ∀ c a f,W.G.aJ c a=some f->(c,a,f)∈mt)
  (SU: ∀ n xs,W.G.kind n= .kB xs->xs.length<=most/\∃ a items,W.eZ n=some (.ref a)/\AE W.h0 a items/\aO W [] W.h0 (xs.map .int) items.toList)
  (ZW:(h.get? sysModules).isSome=true) (vO: ∀ n,JD T h W.G.kind dat mt n (W.G.kind n)=true) (ZD:decide T.an.Nodup=true) (bE:T.an.length<=sizeLine) (VH: ∀ n v,W.eZ n=some v->handedOut v=pure v)
  (nk:dat.all (fun e=>Ay (W.G.kind e.1))=true) (XK:mt.all (fun e=>Ay (W.G.kind e.1)&&I8 (W.G.kind e.2.2))=true):
  oH W/\∀ n np nv b,W.G.kind n= .fn np nv b->Ld W (fun x=>T.gl.lookup x) n np nv b:=by
 have hk: ∀ n {k},W.G.kind n=k->JD T h W.G.kind dat mt n k=true:=fun n k e=>e▸vO n;have Og: ∀ n np nv b,W.G.kind n= .fn np nv b->Ld W (fun x=>T.gl.lookup x) n np nv b:=fun n np nv b e=>Uv tI hx PP (hk n e);refine⟨⟨⟨fun z=> ?_,fun n es e=>PH tI hx (hk n e),SU⟩,fun c eF e=>R4 tI hx PP (PR c) (UA c) (aD (hk c e)).1,fun a b x ea eb=> ?_,⟨T.an,bE,fun a x e=> ?_⟩,VH,fun n b e=> ?_,fun n np nv b e=> ?_,fun c i e=>FJ (aD (hk c e)).2,fun c m f e=> ?_,fun c a e=>C0 (List.all_eq_true.mp nk _ (PR c a e))⟩,Og⟩
 ·obtain⟨o,ho⟩:=Option.isSome_iff_exists.mp ZW
  exact cY (z.symm.trans (hx _ _ ho))
 ·rw[PP] at ea eb
  obtain⟨l1,e1⟩:=List.getElem?_eq_some_iff.mp ea;obtain⟨l2,e2⟩:=List.getElem?_eq_some_iff.mp eb;exact (List.getElem_inj (of_decide_eq_true ZD)).mp (e1.trans e2.symm)
 ·rw[PP] at e
  exact List.mem_of_getElem? e
 ·obtain⟨y,hy,e2⟩:=dH (hk n e)
  exact tI _ _ (hy.trans (congrArg some (sM e2)))
 ·obtain⟨a,o,fd,_,_,_,g1,g2,g3,_⟩:=Og n np nv b e
  exact⟨a,o,fd,g1,g2,g3⟩
 ·have:=aD (List.all_eq_true.mp XK _ (UA c m f e))
  exact⟨C0 this.1,FJ this.2⟩
end Mine
namespace Mine
open PySem PySem.W PyProof.Rows PySem.SeqAt
noncomputable def mK:Tb where
 ga:=[some (.builtin "len"),some (.builtin "min"),some (.builtin "max"),some (.type "range"),some (.type "list"),some (.type "tuple"),some (.builtin "sum"),some (.builtin "all"),some (.ref 116),some (.ref 185),some (.ref 375),some (.ref 658),some (.ref 686),some (.ref 911),some (.ref 30),some (.ref 37),some (.ref 44),some (.ref 127),some (.ref 134),some (.ref 141),some (.ref 148),some (.ref 155),some (.ref 162),some (.ref 167),some (.ref 113),some (.ref 182),some (.ref 203),some (.ref 210),some (.ref 217),some (.ref 224),some (.ref 231),some (.ref 238),some (.ref 245),some (.ref 252),some (.ref 259),some (.ref 266),some (.ref 273),some (.ref 280),some (.ref 287),some (.ref 294),some (.ref 301),some (.ref 306),some (.ref 313),some (.ref 320),some (.ref 327),some (.ref 334),some (.ref 339),some (.ref 346),some (.ref 353),some (.ref 360),some (.ref 365),some (.ref 372),some (.ref 386),some (.ref 393),some (.ref 400),some (.ref 407),some (.ref 414),some (.ref 421),some (.ref 428),some (.ref 435),some (.ref 442),some (.ref 449),some (.ref 456),some (.ref 463),some (.ref 477),some (.ref 484),some (.ref 491),some (.ref 498),some (.ref 505),some (.ref 526),some (.ref 617),some (.ref 624),some (.ref 634),some (.ref 648),some (.ref 655),some (.ref 676),some (.ref 683),some (.ref 816),some (.ref 823),some (.ref 828),some (.ref 833),some (.ref 861),some (.ref 868),some (.ref 875),some (.ref 889),none,some (.ref 934),some (.ref 942),some (.ref 949),some (.ref 956),some (.ref 961),some (.ref 968),some (.ref 975),some (.ref 982),some (.ref 989),none,none,none,none,none,none,none,some (.ref 994),some (.ref 1001),some (.ref 1006),none,some (.ref 1013),some (.ref 22),some (.ref 23),some (.ref 45),some (.ref 58),some (.ref 625),none,some (.ref 470),some (.ref 512),some (.ref 519),some (.ref 533),some (.ref 540),some (.ref 547),some (.ref 568),some (.ref 575),some (.ref 582),some (.ref 589),some (.ref 596),some (.ref 603),some (.ref 610),some (.type "enumerate")]
 gl:=[(Str.ofString "enumerate",.g 126),(Str.ofString "HEAP_NAMES",.g 108),(Str.ofString "is_ref",.g 14),(Str.ofString "EMPTY",(.int (-64))),(Str.ofString "KIND_NAMES",.g 107),(Str.ofString "len",.g 0),(Str.ofString "ONE_PLACES",(.aM [(.int 69),(.int 80),(.int 103),(.int 104),(.int 105),(.int 121),(.int 122),(.int 123),(.int 167),(.int 172),(.int 173),(.int 192),(.int 193),(.int 194),(.int 195),(.int 196),(.int 64)])),(Str.ofString "EQZ_32",(.int 69)),(Str.ofString "LAST_NUMBER_CODE",(.int 196)),(Str.ofString "LAST_COMPARE",(.int 90)),(Str.ofString "REF_IS_NULL",(.int 209)),(Str.ofString "GOAL_CODES",(.aM [(.int 35),(.int 37),(.int 63),(.int 64),(.int 209),(.int 210),(.int 64528),(.int 256),(.int 257)])),(Str.ofString "LOADS",.g 109),(Str.ofString "is_reckoning",.g 18),(Str.ofString "TWO_N",(.int 16384)),(Str.ofString "ON_N",(.int 20480)),(Str.ofString "JUMP",(.int 259)),(Str.ofString "JUMP_IF",(.int 260)),(Str.ofString "JUMP_UNLESS",(.int 261)),(Str.ofString "ON",(.int 4096)),(Str.ofString "MOST_THREADS",(.int 8)),(Str.ofString "range",.g 3),(Str.ofString "is_jump",.g 21),(Str.ofString "threaded",.g 22),(Str.ofString "JUMP_TABLE",(.int 262)),(Str.ofString "tuple",.g 5),(Str.ofString "max",.g 2),(Str.ofString "PLACE",(.int 0)),(Str.ofString "NUMBER",(.int 1)),(Str.ofString "CONST",(.int 257)),(Str.ofString "MOVE",(.int 256)),(Str.ofString "has_goal",.g 20),(Str.ofString "is_compare",.g 19),(Str.ofString "EQZ_64",(.int 80)),(Str.ofString "OFF_N",(.int 24576)),(Str.ofString "OFF",(.int 8192)),(Str.ofString "LOOP",(.int 3)),(Str.ofString "Frame",.g 9),(Str.ofString "BLOCK",(.int 2)),(Str.ofString "default_value",.g 15),(Str.ofString "resolved",.g 23),(Str.ofString "Rows",.g 8),(Str.ofString "ELSE",(.int 5)),(Str.ofString "END",(.int 11)),(Str.ofString "IF",(.int 4)),(Str.ofString "DOERS",.g 111),(Str.ofString "STORES",.g 110),(Str.ofString "is_one_place",.g 17),(Str.ofString "do_one",.g 70),(Str.ofString "do_two",.g 71),(Str.ofString "UNREACHABLE",(.int 0)),(Str.ofString "block_kind",.g 16),(Str.ofString "RETURN",(.int 267)),(Str.ofString "RETURN_CALL",(.int 18)),(Str.ofString "TAIL",(.int 265)),(Str.ofString "CALL",(.int 263)),(Str.ofString "put_results",.g 62),(Str.ofString "SELECT",(.int 258)),(Str.ofString "I32_CONST",(.int 65)),(Str.ofString "TURNABLE",(.aM [(.int 70),(.int 71),(.int 81),(.int 82),(.int 106),(.int 108),(.int 113),(.int 114),(.int 115),(.int 124),(.int 126),(.int 131),(.int 132),(.int 133)])),(Str.ofString "Compiler",.g 10),(Str.ofString "FUNCTION",(.int 0)),(Str.ofString "min",.g 1),(Str.ofString "_law_fill",.g 88),(Str.ofString "_law_kinds",.g 86),(Str.ofString "_law_items",.g 92),(Str.ofString "_law_shut",.g 89),(Str.ofString "_law_next",.g 87),(Str.ofString "_law_item",.g 93),(Str.ofString "_law_block",.g 91),(Str.ofString "_law_jump",.g 90),(Str.ofString "_law_twos",(.aM [(.int 106),(.int 107),(.int 108),(.int 115),(.int 118),(.int 70),(.int 73)])),(Str.ofString "Module",.g 13),(Str.ofString "list",.g 4),(Str.ofString "Import",.g 11),(Str.ofString "Func",.g 12),(Str.ofString "_law_row",.g 102),(Str.ofString "_law_is_bare",.g 103),(Str.ofString "all",.g 7),(Str.ofString "_law_module",.g 94),(Str.ofString "sum",.g 6),(Str.ofString "rows_of",.g 72),(Str.ofString "_law_after",.g 104)]
 an:=Jw.map Str.ofString
 vn:=OP.map fun e=>(e.1,e.2.map Str.ofString)
theorem Pk(P:Params)(bC:List Int):((List.range 127).all fun n=>JD mK (H1 P) (cx bC).kind vG vV n ((cx bC).kind n))=true:=by kernel_rfl
theorem U0(P:Params):mK.gl.all (Ux mK (H1 P))=true:=by kernel_rfl
theorem Md(P:Params):((H1 P).isNs 3&&(H1 P).isNs 0&&((H1 P).get? sysModules).isSome&&yM (fun v=>IQ v (.ref 1013)) ((H1 P).nsMap 3 (Str.ofString "law"))&&((H1 P).isNs cStatics&&((H1 P).nsMap cStatics "sys.recursionlimit").isNone))=true:=by kernel_rfl
theorem Wa(bC:List Int):(decide mK.an.Nodup&&(mK.ga.all fun v=>match v with|some y=>handedIn y|none=>true)&&vG.all (fun e=>Ay ((cx bC).kind e.1))&&vV.all (fun e=>Ay ((cx bC).kind e.1)&&I8 ((cx bC).kind e.2.2)))=true:=by kernel_rfl
theorem Ou:mK.an[0]? = some (Str.ofString "append")/\mK.an[1]? = some (Str.ofString "pop")/\mK.an[2]? = some (Str.ofString "extend")/\mK.an[3]? = some (Str.ofString "get"):=⟨by kernel_rfl,by kernel_rfl,by kernel_rfl,by kernel_rfl⟩
theorem YO:mK.gl.lookup (Str.ofString "enumerate")=some (.g 126):=by kernel_rfl
theorem YX:mK.g 126=some (.type "enumerate"):=by kernel_rfl
end Mine
namespace Mine
open PySem PySem.W PyProof.Rows PySem.SeqAt
theorem M5{W:Wd}{h:Heap}{vs:List Value}{ns:List Int}(i:IntsAre vs ns):aO W [] h (ns.map .int) vs:=by
 induction i with
 | nil=>exact .nil
 | cons n t r ih=>exact .cons (.int n t) ih
noncomputable def Cc(w:World)(bC:List Int)(l:Addr)(h:Heap):Wd:=⟨wL.row.prog,w,cx bC,fun n=>if n=112 then some (.ref l) else mK.g n,fun a=>mK.an[a]?,h⟩
theorem A2{bC:List Int}{n:Nat}(h: ¬ n<127):(cx bC).kind n= .cU:=by
 show (EC bC).getD n .cU= .cU;rw[List.getD_eq_getElem?_getD,List.getElem?_eq_none (Nat.le_of_not_lt (show ¬ n<(EC bC).length from h))];rfl
theorem MQ(bC:List Int):((List.range 127).all fun n=>Nat.beq n 112||(Wy ((cx bC).kind n)).isNone)=true:=by kernel_rfl
theorem MP{bC:List Int}{n:Nat}{xs:List Int}(e:(cx bC).kind n= .kB xs):n=112/\xs=bC:=by
 by_cases hn:n<127
 ·rcases (Bool.or_eq_true _ _).mp (List.all_eq_true.mp (MQ bC) n (List.mem_range.mpr hn)) with z|z
  ·have z:=Nat.eq_of_beq_eq_true z
   rw[z] at e;exact⟨z,Option.some.inj (congrArg Wy (e.symm.trans (show (cx bC).kind 112= .kB bC from rfl)))⟩
  ·rw[e] at z
   exact eJ z
 ·exact Kind.noConfusion (e.symm.trans (A2 hn))
theorem Qq{w:World}{bC:List Int}{l:Addr}{h:Heap}(hx: ∀ b o,(H1 w.params).get? b=some o->h.get? b=some o){vs:List Value}(hl:h.get? l=some { cls:=.type "list",data:=.seq vs.toArray })(hi:IntsAre vs bC)(mi:bC.length<=most):
  A5 (oH (Cc w bC l h)) (GM (Cc w bC l h)) (Jl (Cc w bC l h) (fun x=>mK.gl.lookup x)) (Oq (Cc w bC l h) (fun x=>mK.gl.lookup x)) (∀ n np nv b,(Cc w bC l h).G.kind n= .fn np nv b->Ld (Cc w bC l h) (fun x=>mK.gl.lookup x) n np nv b):=by
 have hT:=aD (Wa bC);have eu:=aD hT.1;have W9:=aD eu.1;have hH:=aD (Md w.params);have mj:=aD hH.1;have Yi:=aD mj.1;have tI: ∀ n v,mK.g n=some v->(Cc w bC l h).eZ n=some v:=fun n v e=>(if_neg fun z=>cY ((show mK.g 112=none from rfl).symm.trans (z▸e))).trans e;have main:=LD (W:=Cc w bC l h) (T:=mK) (h:=H1 w.params) (dat:=vG) (mt:=vV) tI hx rfl
  (fun c a e=>by
   obtain⟨p,hp,hq⟩:=List.any_eq_true.mp (show (vG.any fun e=>e.1==c&&e.2==a)=true from e);have hq:=aD hq;rw[<- eq_of_beq hq.1,<- eq_of_beq hq.2];exact hp)
  (fun c a f e=>by
   obtain⟨p,hp,hq⟩:=Option.map_eq_some_iff.mp (show ((vV.find? fun e=>e.1==c&&e.2.1==a).map (·.2.2))=some f from e);have h0:=List.find?_some hp;have h1:=aD h0;rw[<- eq_of_beq h1.1,<- eq_of_beq h1.2,<- hq];exact List.mem_of_find?_eq_some hp)
  (fun n xs e=>by
   obtain⟨e1,e2⟩:=MP e;rw[e1,e2];exact⟨mi,l,vs.toArray,rfl,⟨_,hl⟩,by rw[List.toList_toArray];exact M5 hi⟩)
  Yi.2 (fun n=>by
   by_cases hn:n<127
   ·exact List.all_eq_true.mp (Pk w.params bC) n (List.mem_range.mpr hn)
   ·show JD _ _ _ _ _ n ((cx bC).kind n)=true
    rw[A2 hn];rfl) W9.1
  (by rw[bU];decide)
  (fun n v e=>by
   by_cases hn:n=112
   ·rw[<- Option.some.inj ((if_pos hn).symm.trans (show (if n=112 then some (.ref l) else mK.g n)=some v from e))];rfl
   ·have e1:mK.ga[n]? = some (some v):=Option.join_eq_some_iff.mp ((if_neg hn).symm.trans (show (if n=112 then some (.ref l) else mK.g n)=some v from e))
    exact handedOut_of (List.all_eq_true.mp W9.2 _ (List.mem_of_getElem? e1)))
  eu.2 hT.2
 refine⟨main.1,⟨Ou.1,Ou.2.1,Ou.2.2.1,Ou.2.2.2⟩,Uy tI hx (aD Yi.1).1 (aD Yi.1).2 (U0 _),fun v e=> ?_,main.2⟩;exact⟨126,Option.some.inj ((show mK.gl.lookup (Str.ofString "enumerate")=some v from e).symm.trans YO),tI _ _ YX⟩
set_option tactic.hygienic true in
theorem Nl(main: ∀ bC:List Int,bC.length<=63->wF (cx bC) 60 106 [.g 112] [] fun v _=>v= .bool true):wL.Holds:=by
 refine VA ?_;intro w s₀ s₁ mg mb G Y a o pm cd doc dV kV ho hd hcd hD pg hg args vals as ZN Y8 Ek Sm gc
 wrow_args ZN Y8 Ek Sm gc
 rename_i bC hs h0 W7 HA GI w4 w3 l vs w0 hL ra w1 r0 hI hr Yr mz
 have bE:bC.length<=63:=by omega
 have hw:s₁.heap.get? l=some { cls:=.type "list",data:=.seq vs.toArray }:=by
  obtain⟨o1,UC,_,n1,XE⟩:=hL;have ur:Well w.params s₁.heap (.ref l) (.list (ofPys (bC.map .int))):=w1;cases ur with
  | list hg _=>
   rw[hg] at UC;cases UC;have:_=_:=XE;cases this;exact hg
 have hT:=G.T;obtain⟨wo,ao,gl,en,YU⟩:=Qq (l:=l) Y hw hI (by rw[lE];omega);have hH:=aD (Md w.params);have ha:a=1013:=by
  obtain⟨v,hv,e1⟩:=dH (aD hH.1).2;have hn:s₁.heap.Ns 3 ((H1 w.params).nsMap 3):=Ns.eN (Heap.Ns.of_isNs (aD (aD (aD hH.1).1).1).1) fun o e=>Y _ _ e;have h1:=hn.eq_nsMap;have h2:=hT.g.eq_nsMap;have h3:mg (Str.ofString "law")=some v:=by
   rw[h2,show mainGlobals=3 from rfl,<- h1];exact hv
  exact Value.ref.inj ((Option.some.inj ((show mg (Str.ofString "law")=some (.ref a) from pg).symm.trans h3)).trans (sM e1))
 subst ha;have room:Db callerA 60:=⟨rfl,by decide,by decide⟩;have st:St (Cc w bC l s₁.heap) [] [] s₁.heap:=⟨rfl,fun _ _ e=>e,fun i o p ho=>cY ho,(fun a ⟨p,hp,_⟩=>nomatch hp),fun i j p q a hp=>cY hp,fun a o ⟨p,hp,_⟩=>nomatch hp⟩;have ZT:(Cc w bC l s₁.heap).eZ 112=some (.ref l):=rfl;refine L5 wo ao gl en hT.nolimit YU 60 callerA room (n:=106) (np:=1) (nv:=9) (b:=iP) (f:=.ref 1013) rfl rfl st (.cons (.g ZT) .nil) (OU▸main bC bE) _ _ fun v H' hv μ' h' tk y m hy=> ?_;rw[hv] at hy;rw[show y=_ from hy.dF];refine⟨.inl ⟨_,_,[],rfl,(fun _=>rfl),ReadsW.bool true,?_,fun _=>⟨List.nodup_nil,fun _ hm=>(nomatch hm)⟩⟩,.of_keep m.st.iC,rfl,.of_eq hg⟩
 first|rfl|wrow_post
end Mine
namespace Mine
set_option genCtorIdx false
set_option genCtorIdx true in
inductive bL where
 | num(n:Int)|pl (s:Int)
 deriving DecidableEq
inductive Arg where
 | i(n:Int)|t (l:List Int)
structure dZ where
 op:Int
 a:Int
 b:Arg
 c:Int
structure Fr where
 adr:Nat
 code:Int
 aC:Int
 params:Int
 aU:Int
 eU:Option Int
 begL:Option Int
 elseL:Option Int
 used:Bool
structure CS where
 rows:List dZ
 labels:List Int
 fence:Int
 stack:List bL
 most:Int
 frames:List Fr
 live:Bool
 skipped:Int
noncomputable def bL.v:bL->V
 | .num n=>.aM [.int 1,.int n]
 | .pl s=>.aM [.int 0,.int s]
noncomputable def Arg.v:Arg->V
 | .i n=>.int n
 | .t l=>.aM (l.map .int)
noncomputable def dZ.v(r:dZ):V:=.aM [.int r.op,.int r.a,r.b.v,.int r.c]
noncomputable def oV:Option Int->V
 | some i=>.int i
 | none=>.none
noncomputable def Fr.o(f:Fr):aY:=.inst 9 [(9,.int f.code),(10,.int f.aC),(6,.int f.params),(8,.int f.aU),(11,oV f.eU),(12,oV f.begL),(13,oV f.elseL),(14,.bool f.used)]
structure Ad where
 c:Nat
 m:Nat
 fn:Nat
 r:Nat
 l:Nat
 f:Nat
 s:Nat
noncomputable def CS.o(a:Ad)(x:CS):aY:=.inst 10 [(15,.ref a.m),(16,.ref a.fn),(19,.int 4),(8,.int 2),(4,.ref a.r),(21,.ref a.l),(22,.int x.fence),(23,.ref a.s),(24,.int x.most),(25,.ref a.f),(26,.bool x.live),(27,.int x.skipped)]
noncomputable def Ad.own(a:Ad)(x:CS):List Nat:=a.c::a.r::a.l::a.f::a.s::x.frames.map (·.adr)
noncomputable def CS.size(x:CS):Nat:=x.rows.length+x.labels.length+x.stack.length+x.frames.length
variable{a:Ad}{x:CS}{H:Hp}
theorem Ap{H:Hp}{i:Nat}{o:aY}(h:H[i]? = some o):i<H.length:=(List.getElem?_eq_some_iff.mp h).1
namespace CS
noncomputable def aV(x:CS)(op a:Int)(b:Arg)(c:Int):CS:= { x with rows:=x.rows++[⟨op,a,b,c⟩] }
noncomputable def aP(x:CS):CS:= { x with labels:=x.labels++[-1] }
noncomputable def aG(x:CS)(l:Nat):CS:= { x with labels:=x.labels.set l x.rows.length,fence:=x.rows.length }
noncomputable def push(x:CS)(e:bL):CS:= { x with stack:=x.stack++[e],most:=(if (x.stack.length:Int)+1>x.most then (x.stack.length:Int)+1 else x.most) }
noncomputable def aZ(x:CS):CS:=x.push (.pl (4+x.stack.length))
noncomputable def pop(x:CS):CS:= { x with stack:=x.stack.dropLast }
noncomputable def kP(x:CS)(slot:Int):bL->CS
 | .num n=>x.aV 257 slot (.i n) 0
 | .pl s=>if s=slot then x else x.aV 256 slot (.i s) 0
noncomputable def bN(x:CS)(h:Int):bL->CS×Int
 | .num n=>(x.aV 257 (4+h) (.i n) 0,4+h)
 | .pl s=>(x,s)
noncomputable def DM(x:CS)(h:Nat)(e:bL):CS:= { x with stack:=x.stack.set h e }
noncomputable def cB(x:CS)(h:Nat):CS:=match x.stack[h]? with
 | some e=>(x.kP (4+h) e).DM h (.pl (4+h))
 | none=>x
noncomputable def dY(x:CS)(b:Nat):Nat->CS
 | 0=>x
 | n+1=>(x.dY b n).cB (b+n)
noncomputable def aI(x:CS)(many:Nat):CS:=x.dY (x.stack.length - many) many
noncomputable def bX(x:CS):Nat->CS
 | 0=>x
 | n+1=>(x.bX n).pop
@[simp] theorem nW{x:CS}{s:Int}{e:bL}: (x.kP s e).stack=x.stack:=by
 cases e with
 | num n=>rfl
 | pl t=>simp only[kP];split<;>rfl
@[simp] theorem Hh{x:CS}{s:Int}{e:bL}: (x.kP s e).frames=x.frames:=by
 cases e with
 | num n=>rfl
 | pl t=>simp only[kP];split<;>rfl
theorem nV{x:CS}{s:Int}{e:bL}: (x.kP s e).size<=x.size+1:=by
 cases e with
 | num n=>simp [kP,aV,size];lia
 | pl t=>simp only[kP];split<;>simp [aV,size];lia
@[simp] theorem IE{x:CS}{h:Nat}{e:bL}: (x.DM h e).size=x.size:=by simp [DM,size]
theorem yW{x:CS}{h:Nat}: (x.cB h).size<=x.size+1:=by
 unfold cB;split
 ·rw[IE];exact nV
 ·lia
@[simp] theorem IF{x:CS}{h:Nat}: (x.cB h).stack.length=x.stack.length:=by
 unfold cB;split
 ·simp [DM]
 ·rfl
@[simp] theorem CZ{x:CS}{h:Nat}: (x.cB h).frames=x.frames:=by
 unfold cB;split
 ·simp [DM]
 ·rfl
theorem pN{x:CS}{b:Nat}: ∀ {n:Nat},(x.dY b n).size<=x.size+n
 | 0=>Nat.le_refl _
 | n+1=>Nat.le_trans yW (by have:=pN (x:=x) (b:=b) (n:=n);lia)
@[simp] theorem iL{x:CS}{b:Nat}: ∀ {n:Nat},(x.dY b n).stack.length=x.stack.length
 | 0=>rfl
 | n+1=>by simp [dY,iL]
@[simp] theorem rS{x:CS}{b:Nat}: ∀ {n:Nat},(x.dY b n).frames=x.frames
 | 0=>rfl
 | n+1=>by simp [dY,rS]
theorem mV{x:CS}: ∀ {n:Nat},(x.bX n).stack.length=x.stack.length - n
 | 0=>rfl
 | n+1=>by simp [bX,pop,mV];lia
@[simp] theorem lV{x:CS}: ∀ {n:Nat},(x.bX n).frames=x.frames
 | 0=>rfl
 | n+1=>by simp [bX,pop,lV]
end CS
theorem TL{a:Ad}{x y:CS}(h:y.frames=x.frames):a.own y=a.own x:=by unfold Ad.own;rw[h]
theorem eL{α:Type}{l:List α}(h:0<l.length): ∃ e,l.getLast? = some e:=by
 cases e:l.getLast? with
 | some x=>exact⟨x,rfl⟩
 | none=>rw[List.getLast?_eq_none_iff] at e;subst e;simp at h
noncomputable def HE(op:Int):Bool:=decide (69<=op)&&decide (op<=196)
noncomputable def Az(op:Int):Bool:=(decide (69<=op)&&decide (op<=90))||op==209
noncomputable def D9(i:Int)(l:List Int):Bool:=l.any fun j=>i==j
noncomputable def rY:List Int:=[35,37,63,64,209,210,64528,256,257]
noncomputable def sD:List Int:=[40,41,44,45,46,47,48,49,50,51,52,53]
noncomputable def fX(op:Int):Bool:=D9 op rY||(D9 op sD||HE op)||(decide (16384<=op)&&decide (op<20480))
namespace CS
noncomputable def cX(x:CS)(bP:Int):Nat->CS
 | 0=>x
 | k+1=>if (x.cX bP k).stack[k]? = some (.pl bP) then (x.cX bP k).cB k else x.cX bP k
noncomputable def kQ(x:CS)(bP:Int):Nat->Int
 | 0=>0
 | k+1=>if (x.cX bP k).stack[k]? = some (.pl bP) then x.kQ bP k+1 else x.kQ bP k
noncomputable def dC(n:Nat):List bL:=(List.range n).map fun (k:Nat)=>.pl (4+(k:Int))
noncomputable def sB(x:CS)(fh:Int)(many:Nat):Bool:=decide (x.stack.drop (x.stack.length - many)=(List.range many).map fun (k:Nat)=>.pl (4+(fh+(k:Int))))
noncomputable def lX(x:CS)(e:bL):Option dZ:=match x.rows.getLast? with
 | some r=>if e= .pl (4+x.stack.length)/\(x.rows.length:Int)>x.fence/\r.a=4+x.stack.length then some r else none
 | none=>none
noncomputable def fV(op:Int):Bool:=Az op||(decide (16384<=op)&&decide (op<20480)&&Az (op - 16384))
noncomputable def gB:bL->Int×Arg×Int
 | .num n=>(257,.i n,0)
 | .pl s=>(256,.i s,0)
noncomputable def aE(x:CS)(e:bL):CS×(Int×Arg×Int):=match x.lX e with
 | some r=>if fV r.op then ({ x with rows:=x.rows.dropLast },(r.op,r.b,r.c)) else (x,gB e)
 | none=>(x,gB e)
noncomputable def branch(x:CS)(op n c:Int)(mF:Bool)(aP:Int):CS:=
 if op=257 then (if (n != 0)==mF then x.aV 259 aP (.i 0) 0 else x)
 else if op=256 then x.aV (if mF then 260 else 261) aP (.i n) 0
 else if op=69\/op=80 then x.aV (if mF then 261 else 260) aP (.i n) 0
 else if op≥16384 then x.aV (op - 16384+(if mF then 20480 else 24576)) aP (.i n) c
 else x.aV (op+(if mF then 4096 else 8192)) aP (.i n) c
noncomputable def jQ(y:CS)(n bP:Int)(e:bL):CS:=
 match (if n=0 then y.lX e else none) with
 | some r=>if fX r.op then ({ y with rows:=y.rows.dropLast }: CS).aV r.op bP r.b r.c else y.kP bP e
 | none=>y.kP bP e
noncomputable def bY(x:CS)(bP:Int)(e:bL):CS:=(x.cX bP x.stack.length).jQ (x.kQ bP x.stack.length) bP e
noncomputable def kW(x:CS)(b:Nat)(fh:Int):Nat->CS
 | 0=>x
 | k+1=>match x.stack[b+k]? with
  | some e=>(x.kW b fh k).kP (4+(fh+k)) e
  | none=>x.kW b fh k
noncomputable def bR(x:CS)(fh:Int)(many:Nat):CS:=x.kW (x.stack.length - many) fh many
theorem pK{x:CS}{i:Int}: ∀ {k:Nat},(x.cX i k).size<=x.size+k
 | 0=>Nat.le_refl _
 | k+1=>by
  have:=pK (x:=x) (i:=i) (k:=k);simp only[cX];split
  ·exact Nat.le_trans yW (by lia)
  ·lia
@[simp] theorem lM{x:CS}{i:Int}: ∀ {k:Nat},(x.cX i k).stack.length=x.stack.length
 | 0=>rfl
 | k+1=>by
  simp only[cX];split
  ·rw[IF];exact lM
  ·exact lM
@[simp] theorem wD{x:CS}{i:Int}: ∀ {k:Nat},(x.cX i k).frames=x.frames
 | 0=>rfl
 | k+1=>by
  simp only[cX];split
  ·rw[CZ];exact wD
  ·exact wD
@[simp] theorem mY{x:CS}{b:Nat}{fh:Int}: ∀ {k:Nat},(x.kW b fh k).stack=x.stack
 | 0=>rfl
 | k+1=>by simp only[kW];split<;>simp [mY]
@[simp] theorem pE{x:CS}{b:Nat}{fh:Int}: ∀ {k:Nat},(x.kW b fh k).frames=x.frames
 | 0=>rfl
 | k+1=>by simp only[kW];split<;>simp [pE]
theorem uC{x:CS}{b:Nat}{fh:Int}: ∀ {k:Nat},(x.kW b fh k).size<=x.size+k
 | 0=>Nat.le_refl _
 | k+1=>by
  have:=uC (x:=x) (b:=b) (fh:=fh) (k:=k);simp only[kW];split
  ·exact Nat.le_trans nV (by lia)
  ·lia
end CS
theorem FQ{l:List Fr}{i:Nat}{f f':Fr}(hi:l[i]? = some f)(ha:f'.adr=f.adr):(l.set i f').map (·.adr)=l.map (·.adr):=by
 rw[List.map_set];apply List.ext_getElem?;intro j;by_cases h:i=j
 ·subst h
  rw[List.getElem?_set_self (by simpa using (List.getElem?_eq_some_iff.mp hi).1),List.getElem?_map,hi,ha];rfl
 ·rw[List.getElem?_set_ne h]
theorem eK{e:bL}{r:dZ}: x.lX e=some r↔x.rows.getLast? = some r/\e= .pl (4+x.stack.length)/\(x.rows.length:Int)>x.fence/\r.a=4+x.stack.length:=by
 unfold CS.lX;cases h:x.rows.getLast? with
 | none=>simp
 | some r'=>
  simp only[];split
  ·rename_i hc
   constructor
   ·intro q;cases q;exact⟨rfl,hc⟩
   ·rintro⟨q,_⟩;exact q
  ·rename_i hc
   constructor
   ·intro q;cases q
   ·rintro⟨q,h2⟩;cases q;exact absurd h2 hc
noncomputable def Fr.eP(f:Fr):Fr:=if f.code=3 then f else { f with used:=true }
noncomputable def Fr.many(f:Fr):Int:=if f.code=3 then f.params else f.aU
noncomputable def Fr.dP(f:Fr):Option Int:=if f.code=3 then f.begL else f.eU
namespace CS
noncomputable def aH(x:CS)(k:Nat):CS:=match x.frames[k]? with
 | some f=> { x with frames:=x.frames.set k f.eP }
 | none=>x
noncomputable def rK(y:CS)(code:Int)(np nr adr:Nat):Fr:=⟨adr,code,y.stack.length - np,np,nr,some y.labels.length,none,none,false⟩
noncomputable def pT(x:CS)(f:Fr):CS:= { x with frames:=x.frames++[f] }
noncomputable def pF(y:CS)(code:Int)(np nr adr:Nat):CS:=
 if code=3 then (y.aP.aP.aG (y.labels.length+1)).pT { y.rK code np nr adr with begL:=some (y.labels.length+1:Nat) }
 else y.aP.pT (y.rK code np nr adr)
noncomputable def aL(x:CS)(code:Int)(np nr adr:Nat):CS:=(x.aI x.stack.length).pF code np nr adr
end CS
theorem CS.bS{n:Nat}: (x.aI n).size<=x.size+n:=CS.pN
@[simp] theorem CS.bM{n:Nat}: (x.aI n).frames=x.frames:=CS.rS
@[simp] theorem CS.dA{n:Nat}: (x.aI n).stack.length=x.stack.length:=CS.iL
theorem CS.gH:x.aP.size=x.size+1:=by simp [CS.aP,CS.size];lia
theorem CS.jW{l:Nat}: (x.aG l).size=x.size:=by simp [CS.aG,CS.size]
noncomputable def fF(m:Int):Option (Nat×Nat):=if m= -64 then some (0,0) else if m= -1 then some (0,1) else if m=2 then some (1,1) else if m=3 then some (2,1) else if m=4 then some (1,2) else if m=5 then some (2,2) else none
theorem UH{α:Type}{m i:Int}{a b:α}{x:Option α}{P:Int->α->Prop}(h:(if m=i then some a else x)=some b)(y:P i a)(z:x=some b->P m b):P m b:=by
 by_cases c:m=i
 ·rw[if_pos c] at h
  rw[c,<- Option.some.inj h];exact y
 ·rw[if_neg c] at h
  exact z h
theorem C4{m:Int}{n k:Nat}{P:Int->Nat->Nat->Prop}(h:fF m=some (n,k))(a:P (-64) 0 0)(b:P (-1) 0 1)(c:P 2 1 1)(d:P 3 2 1)(e:P 4 1 2)(f:P 5 2 2):P m n k:=
 UH (P:=fun m p=>P m p.1 p.2) h a fun h=>UH (P:=fun m p=>P m p.1 p.2) h b fun h=>UH (P:=fun m p=>P m p.1 p.2) h c fun h=>UH (P:=fun m p=>P m p.1 p.2) h d fun h=>UH (P:=fun m p=>P m p.1 p.2) h e fun h=>UH (P:=fun m p=>P m p.1 p.2) h f fun h=>nomatch h
set_option tactic.hygienic true in
theorem CS.yP{n i:Int}{e:bL}: A3 ((x.jQ n i e).size<=x.size+1) ((x.jQ n i e).stack=x.stack) ((x.jQ n i e).frames=x.frames):=by
 unfold CS.jQ;split
 ·rename_i r hr
  split
  ·refine⟨?_,rfl,rfl⟩
   simp [CS.aV,CS.size];lia
  ·exact⟨CS.nV,by simp,by simp⟩
 ·exact⟨CS.nV,by simp,by simp⟩
theorem CS.cZ{i:Int}{e:bL}: A3 ((x.bY i e).size<=x.size+x.stack.length+1) ((x.bY i e).frames=x.frames) ((x.bY i e).stack.length=x.stack.length):=by
 unfold CS.bY;obtain⟨h1,h2,h3⟩:=CS.yP (x:=x.cX i x.stack.length) (n:=x.kQ i x.stack.length) (i:=i) (e:=e);have:=CS.pK (x:=x) (i:=i) (k:=x.stack.length);exact⟨by lia,by rw[h3];simp,by rw[h2];simp⟩
noncomputable def Eh(i:Int):bL->bL
 | .pl _=>.pl i
 | .num n=>.num n
namespace CS
noncomputable def nL(x:CS):Nat->CS
 | 0=>x
 | n+1=>(x.nL n).aZ
noncomputable def call(x:CS)(f:Int)(np nr:Nat):CS:=
 (((x.aI np).bX np).aV 263 f (.i (4+(x.stack.length - np:Nat))) 0).nL nr
noncomputable def B8(x:CS)(op:Int)(e:bL):CS:=
 let p:=x.bN x.stack.length e
 p.1.aZ.aV op (4+p.1.stack.length) (.i p.2) 0
end CS
theorem CS.lL{e:bL}: (x.push e).size=x.size+1:=by simp [CS.push,CS.size];lia
theorem CS.dN:x.aZ.size=x.size+1:=CS.lL
theorem CS.cO{op i:Int}{b:Arg}{c:Int}: (x.aV op i b c).size=x.size+1:=by simp [CS.aV,CS.size];lia
theorem CS.cD:x.pop.size<=x.size:=by simp [CS.pop,CS.size]
theorem CS.iR: ∀ {n:Nat},(x.bX n).size<=x.size
 | 0=>Nat.le_refl _
 | n+1=>Nat.le_trans CS.cD CS.iR
theorem CS.nA: ∀ {n:Nat},(x.nL n).size=x.size+n/\(x.nL n).frames=x.frames/\(x.nL n).stack.length=x.stack.length+n
 | 0=>⟨rfl,rfl,rfl⟩
 | n+1=>by
  obtain⟨h1,h2,h3⟩:=CS.nA (n:=n);refine⟨by simp only[CS.nL,CS.dN,h1];lia,h2,?_⟩;simp [CS.nL,CS.aZ,CS.push,h3];lia
noncomputable def By:List Int:=[70,71,81,82,106,108,113,114,115,124,126,131,132,133]
noncomputable def bL.tL:bL->Bool
 | .num _=>true
 | .pl _=>false
noncomputable def bL.n:bL->Int
 | .num n=>n
 | .pl n=>n
namespace CS
noncomputable def lP(x:CS)(code:Int)(first nM:bL):CS:=
 if first.tL && !nM.tL&&D9 code By then x.aZ.aV (16384+code) (4+x.stack.length) (.i nM.n) first.n
 else ((x.bN x.stack.length first).1.aZ).aV (if nM.tL then 16384+code else code) (4+(x.bN x.stack.length first).1.stack.length) (.i (x.bN x.stack.length first).2) nM.n
noncomputable def fA(x:CS)(k:Nat)(f:Fr):CS:= { x with frames:=x.frames.set k f }
noncomputable def NC(x:CS)(k:Nat)(f:Fr)(many:Nat)(dP:Int):CS:= { ((x.aH k).bR f.aC many).aV 259 dP (.i 0) 0 with live:=false }
noncomputable def oM(x:CS)(k:Nat)(f:Fr)(many:Nat)(dP:Int)(op n c:Int):CS:=
 let y:=x.aH k
 if y.sB f.aC many then y.branch op n c true dP
 else (((y.aP.branch op n c false y.labels.length).bR f.aC many).aV 259 dP (.i 0) 0).aG y.labels.length
noncomputable def ret(x:CS)(fh:Int):CS:= { (x.bR fh 2).aV 267 4 (.i 2) 0 with live:=false }
end CS
set_option tactic.hygienic true in
theorem pG{k:Nat}: a.own (x.aH k)=a.own x:=by
 unfold CS.aH;split
 ·rename_i f hf
  unfold Ad.own;rw[FQ hf];unfold Fr.eP;split<;>rfl
 ·rfl
theorem CS.cS{k:Nat}: A5 ((x.aH k).size=x.size) ((x.aH k).stack=x.stack) ((x.aH k).frames.length=x.frames.length) ((x.aH k).labels=x.labels) ((x.aH k).rows=x.rows):=by
 unfold CS.aH;split
 ·constructor<;>simp [CS.size]
 ·exact⟨rfl,rfl,rfl,rfl,rfl⟩
theorem iE{k:Nat}{f:Fr}(hk:x.frames[k]? = some f):(x.aH k).frames[k]? = some f.eP:=by
 unfold CS.aH;rw[hk];exact List.getElem?_set_self (List.getElem?_eq_some_iff.mp hk).1
theorem Fr.nQ{f:Fr}: f.eP.adr=f.adr/\f.eP.aC=f.aC:=by
 unfold Fr.eP;split<;>exact⟨rfl,rfl⟩
theorem CS.cT{fh:Int}{many:Nat}: A3 ((x.bR fh many).size<=x.size+many) ((x.bR fh many).frames=x.frames) ((x.bR fh many).stack=x.stack):=⟨CS.uC,CS.pE,CS.mY⟩
theorem CS.gE{op n c:Int}{s:Bool}{l:Int}: A4 ((x.branch op n c s l).size<=x.size+1) ((x.branch op n c s l).frames=x.frames) ((x.branch op n c s l).stack=x.stack) ((x.branch op n c s l).labels=x.labels):=by
 have h: ∀ {p:Int} {b:Arg} {q:Int},A4 ((x.aV p l b q).size<=x.size+1) ((x.aV p l b q).frames=x.frames) ((x.aV p l b q).stack=x.stack) ((x.aV p l b q).labels=x.labels):=fun {p b q}=>⟨by rw[CS.cO];lia,rfl,rfl,rfl⟩;unfold CS.branch;split
 ·split
  ·exact h
  ·exact⟨by lia,rfl,rfl,rfl⟩
 split
 ·exact h
 split
 ·exact h
 split
 ·exact h
 ·exact h
theorem CS.eT{e:bL}: A4 ((x.aE e).1.size<=x.size) ((x.aE e).1.frames=x.frames) ((x.aE e).1.stack=x.stack) ((x.aE e).1.labels=x.labels):=by
 unfold CS.aE;split
 ·split
  ·constructor<;>simp [CS.size]
  ·exact⟨Nat.le_refl _,rfl,rfl,rfl⟩
 ·exact⟨Nat.le_refl _,rfl,rfl,rfl⟩
set_option tactic.hygienic true in
theorem CS.tN{fh:Int}{many:Nat}: (x.bR fh many).labels=x.labels:=by
 unfold CS.bR;generalize x.stack.length - many=b;induction many with
 | zero=>rfl
 | succ n ih=>
  simp only[CS.kW];split
  ·rename_i e he
   have: ∀ (y:CS) (s:Int) (e:bL),(y.kP s e).labels=y.labels:=fun y s e=>by
    cases e with
    | num n=>rfl
    | pl t=>simp only[CS.kP];split<;>rfl
   rw[this];exact ih
  ·exact ih
namespace CS
noncomputable def KZ(y:CS)(n r adr:Nat):Fr:=(y.aI y.stack.length).rK 4 n r adr
noncomputable def xG(y:CS)(op i c:Int)(n r adr:Nat):CS:=
 ((y.aL 4 n r adr).aP.fA y.frames.length { y.KZ n r adr with elseL:=some (y.aL 4 n r adr).labels.length }).branch op i c false (y.aL 4 n r adr).labels.length
noncomputable def toLive(x:CS)(es:List bL):CS:= { x with stack:=es,live:=true }
noncomputable def lW(x:CS)(k:Nat)(f:Fr)(le:Int):CS:=if x.live then ((x.aI x.stack.length).fA k { f with used:=true }).aV 259 le (.i 0) 0 else x
noncomputable def fE(x:CS)(f:Fr):Fr:=if x.live then { f with used:=true } else f
noncomputable def iS(x:CS)(k:Nat)(f:Fr)(le:Int)(el hp:Nat):CS:=
 (((x.lW k f le).aG el).fA k { x.fE f with elseL:=none }).toLive (dC hp)
end CS
theorem CS.uP{k:Nat}{f:Fr}: (x.fA k f).size=x.size:=by simp [CS.fA,CS.size]
theorem CS.yN{y:CS}{n r adr:Nat}: (y.aL 4 n r adr).frames=y.frames++[y.KZ n r adr]/\(y.aL 4 n r adr).size<=y.size+y.stack.length+2:=by
 unfold CS.aL CS.pF;rw[if_neg (by decide)];have h1:=CS.bS (x:=y) (n:=y.stack.length);refine⟨?_,?_⟩
 ·show (y.aI y.stack.length).frames++[_]=_
  rw[CS.bM];rfl
 ·have: ∀ (u:CS) (f:Fr),(u.pT f).size=u.size+1:=fun u f=>by simp [CS.pT,CS.size];lia
  rw[this,CS.gH];lia
namespace CS
noncomputable def xM(x:CS):CS:= { x with live:=true }
noncomputable def eX(x:CS):CS:= { x with frames:=x.frames.dropLast }
noncomputable def gK(x:CS):CS:=if x.live then x.aI x.stack.length else x
noncomputable def oQ(x:CS):Option Int->CS
 | some l=>(x.aG l.toNat).xM
 | none=>x
noncomputable def gZ(x:CS)(used:Bool)(fe:Nat):CS:=if used then (x.aG fe).xM else x
noncomputable def rJ(i j:Int):Int:=if j>i then j else i
noncomputable def eD(x:CS)(hp:Nat):CS:= { x with stack:=dC hp,most:=rJ x.most hp }
noncomputable def jL(x:CS):CS:=if x.frames.isEmpty&&x.live then x.aV 267 4 (.i 2) 0 else x
noncomputable def mW(x:CS)(f:Fr)(fe hp:Nat):CS:=((((x.eX.gK).oQ f.elseL).gZ f.used fe).eD hp).jL
noncomputable def lH(y:CS)(nM:bL):CS:=if nM= .pl (4+((y.stack.length:Int)+1)) then (y.kP (4+y.stack.length) nM).push (.pl (4+y.stack.length)) else y.push nM
noncomputable def xV(y:CS)(n:Int)(nM:bL):CS:=if n=0 then y.pop.lH nM else y
noncomputable def cG(x:CS):bL->CS
 | .pl _=>(((x.aI 3).bX 3).aV 258 (4+(x.stack.length - 3:Nat)) (.i 0) 0).aZ
 | .num n=>x.pop.pop.xV n (x.pop.stack.getLast?.getD (.num 0))
end CS
noncomputable def mP(l:List (Int×Int))(k:Int):Option Int:=(l.find? fun e=>e.1==k).map (·.2)
structure TS where
 x:CS
 bI:List (Int×Int)
 cL:List Int
noncomputable def bB(x:CS)(dd:Nat):Nat:=x.frames.length - 1 - dd
noncomputable def TS.step(t:TS)(dd:Nat):TS:=match t.x.frames[bB t.x dd]? with
 | some f=>if (t.x.aH (bB t.x dd)).sB f.aC f.many.toNat then ⟨t.x.aH (bB t.x dd),t.bI,t.cL++[f.dP.getD 0]⟩
  else match mP t.bI dd with
   | some l=>⟨t.x.aH (bB t.x dd),t.bI,t.cL++[l]⟩
   | none=>⟨(t.x.aH (bB t.x dd)).aP,t.bI++[((dd:Int),(t.x.labels.length:Int))],t.cL++[(t.x.labels.length:Int)]⟩
 | none=>t
noncomputable def TS.cM(t:TS):List Nat->TS
 | []=>t
 | d::r=>(t.step d).cM r
noncomputable def bW(x:CS)(p:Int×Int):CS:=match x.frames[bB x p.1.toNat]? with
 | some f=>(((x.aH (bB x p.1.toNat)).aG p.2.toNat).bR f.aC f.many.toNat).aV 259 (f.dP.getD 0) (.i 0) 0
 | none=>x
noncomputable def aW(x:CS):List (Int×Int)->CS
 | []=>x
 | p::r=>aW (bW x p) r
noncomputable def CS.mU(x:CS)(e:bL)(ds:List Nat):CS:=
 { aW ((TS.cM ⟨(x.bN x.stack.length e).1,[],[]⟩ ds).x.aV 262 (x.bN x.stack.length e).2 (.t (TS.cM ⟨(x.bN x.stack.length e).1,[],[]⟩ ds).cL) 0) (TS.cM ⟨(x.bN x.stack.length e).1,[],[]⟩ ds).bI with live:=false }
noncomputable def Fr.same(f g:Fr):Prop:=g.adr=f.adr/\g.aC=f.aC/\g.many=f.many/\g.dP=f.dP
theorem Fr.K3(f:Fr):f.same f.eP:=by
 unfold Fr.same Fr.eP;split
 ·exact⟨rfl,rfl,rfl,rfl⟩
 ·rename_i h
  refine⟨rfl,rfl,?_,?_⟩
  ·unfold Fr.many;rfl
  ·unfold Fr.dP;rfl
noncomputable def iH(x y:CS):Prop:=y.frames.length=x.frames.length/\∀ (k:Nat) f,x.frames[k]? = some f->∃ g,y.frames[k]? = some g/\f.same g
theorem iH.refl(x:CS):iH x x:=⟨rfl,fun k f h=>⟨f,h,rfl,rfl,rfl,rfl⟩⟩
theorem iH.trans{x y z:CS}(p:iH x y)(q:iH y z):iH x z:=⟨q.1.trans p.1,fun k f h=>by
 obtain⟨g,hg,h1,h2,h3,h4⟩:=p.2 k f h;obtain⟨g',LV,e1,e2,e3,e4⟩:=q.2 k g hg;exact⟨g',LV,e1.trans h1,e2.trans h2,e3.trans h3,e4.trans h4⟩⟩
theorem iH.of_eq{x y:CS}(h:y.frames=x.frames):iH x y:=⟨by rw[h],fun k f hk=>⟨f,by rw[h];exact hk,rfl,rfl,rfl,rfl⟩⟩
set_option tactic.hygienic true in
theorem iH.aH{x:CS}{k:Nat}: iH x (x.aH k):=by
 unfold CS.aH;split
 ·rename_i f hf
  refine⟨by simp,fun j g hj=> ?_⟩;by_cases h:k=j
  ·subst h
   rw[hf] at hj;cases hj;exact⟨f.eP,List.getElem?_set_self (List.getElem?_eq_some_iff.mp hf).1,f.K3⟩
  ·exact⟨g,by show (x.frames.set k f.eP)[j]? = _;rw[List.getElem?_set_ne h];exact hj,rfl,rfl,rfl,rfl⟩
 ·exact .refl _
structure fW(x:CS)(dd:Nat):Prop where
 lt:dd<x.frames.length
 oK: ∀ f,x.frames[bB x dd]? = some f->(∃ l,f.dP=some l)/\0<=f.many/\f.many.toNat<=x.stack.length/\f.many<=2
theorem fW.same{x y:CS}{dd:Nat}(h:fW x dd)(s:iH x y)(hl:y.stack.length=x.stack.length):fW y dd:=by
 refine⟨by rw[s.1];exact h.lt,fun g hg=> ?_⟩;have hx:bB y dd=bB x dd:=by unfold bB;rw[s.1]
 rw[hx] at hg;have eA:bB x dd<x.frames.length:=n1 h.lt;obtain⟨g',LV,h1,h2,h3,h4⟩:=s.2 _ _ (List.getElem?_eq_getElem eA);rw[hg] at LV;cases LV;have:=h.oK _ (List.getElem?_eq_getElem eA);rw[h3,h4,hl];exact this
set_option tactic.hygienic true in
theorem TS.Ee{t:TS}{dd:Nat}: A7 (iH t.x (t.step dd).x) (a.own (t.step dd).x=a.own t.x) ((t.step dd).x.size<=t.x.size+1) ((t.step dd).x.stack=t.x.stack) (t.x.labels.length<=(t.step dd).x.labels.length) ((t.step dd).cL.length<=t.cL.length+1) ((t.step dd).bI.length<=t.bI.length+1):=by
 unfold TS.step;split
 ·rename_i f hf
  obtain⟨z1,z2,z3,z4,z5⟩:=CS.cS (x:=t.x) (k:=bB t.x dd);split
  ·exact⟨.aH,pG,by rw[z1];lia,z2,by rw[z4];lia,by simp,Nat.le_succ _⟩
  ·split
   ·exact⟨.aH,pG,by rw[z1];lia,z2,by rw[z4];lia,by simp,Nat.le_succ _⟩
   ·refine⟨iH.aH.trans (.of_eq rfl),pG,by rw[CS.gH,z1];lia,z2,?_,by simp,by simp⟩
    show _<=((t.x.aH _).labels++[-1]).length;rw[z4];simp
 ·exact⟨.refl _,rfl,by lia,rfl,by lia,by lia,by lia⟩
theorem nN: ∀ {ps:List (Int×Int)} {x:CS} {p:Int×Int},aW x (ps++[p])=bW (aW x ps) p
 | [],x,p=>rfl
 | d::r,x,p=>by
  show aW (bW x d) (r++[p])=_;rw[nN];rfl
theorem lO{α:Type}{l:List α}{k:Nat}{v:α}(h:l[k]? = some v):l.take (k+1)=l.take k++[v]:=by
 rw[List.take_add_one,h];rfl
theorem BD{l m:List (Int×Int)}{k:Int}: mP (l++m) k=(mP l k).or (mP m k):=by
 unfold mP;rw[List.find?_append];cases l.find? (fun e=>e.1==k) with
 | none=>rfl
 | some p=>rfl
noncomputable def TS.Ok(t:TS)(ds:List Nat):Prop:=∀ p∈t.bI,(∃ k∈ds,p.1=(k:Int))/\(∃ l:Nat,p.2=(l:Int)/\l<t.x.labels.length)/\mP t.bI p.1=some p.2
theorem TS.Ok.step{t:TS}{ds:List Nat}{dd:Nat}(h:t.Ok ds)(hd:dd∈ds):(t.step dd).Ok ds:=by
 have Iw:t.x.labels.length<=(t.step dd).x.labels.length:=(TS.Ee (a:=⟨0,0,0,0,0,0,0⟩)).5;have tJ:(t.step dd).bI=t.bI\/(A3 (mP t.bI dd=none) ((t.step dd).bI=t.bI++[((dd:Int),(t.x.labels.length:Int))]) (t.x.labels.length<(t.step dd).x.labels.length)):=by
  unfold TS.step;split
  ·split
   ·exact .inl rfl
   ·split
    ·exact .inl rfl
    ·rename_i VQ
     refine .inr ⟨VQ,rfl,?_⟩;show _<((t.x.aH _).labels++[-1]).length;rw[CS.cS.4];simp
  ·exact .inl rfl
 intro p hp;rcases tJ with q|⟨hn,q,eA⟩
 ·rw[q] at hp ⊢
  obtain⟨h1,⟨l,h2,h3⟩,h4⟩:=h p hp;exact⟨h1,⟨l,h2,by lia⟩,h4⟩
 ·rw[q] at hp ⊢
  rcases List.mem_append.mp hp with hp|hp
  ·obtain⟨h1,⟨l,h2,h3⟩,h4⟩:=h p hp
   exact⟨h1,⟨l,h2,by lia⟩,by rw[BD,h4];rfl⟩
  ·cases List.mem_singleton.mp hp
   refine⟨⟨dd,hd,rfl⟩,⟨_,rfl,eA⟩,?_⟩;rw[BD];show (mP t.bI dd).or _=_;rw[hn];simp [mP]
theorem TS.F4{t:TS}{ds:List Nat}(a:Ad): ∀ {es:List Nat},(∀ e∈es,e∈ds)->t.Ok ds->A8 (iH t.x (t.cM es).x) (a.own (t.cM es).x=a.own t.x) ((t.cM es).x.size<=t.x.size+es.length) ((t.cM es).x.stack=t.x.stack) (t.x.labels.length<=(t.cM es).x.labels.length) ((t.cM es).cL.length<=t.cL.length+es.length) ((t.cM es).bI.length<=t.bI.length+es.length) ((t.cM es).Ok ds):=by
 intro es;induction es generalizing t with
 | nil=>exact fun _ ok=>⟨.refl _,rfl,Nat.le_refl _,rfl,Nat.le_refl _,Nat.le_refl _,Nat.le_refl _,ok⟩
 | cons e r ih=>
  intro uQ ok;obtain⟨h1,h2,h3,h4,h5,h6,h7⟩:=TS.Ee (t:=t) (dd:=e) (a:=a);obtain⟨g1,g2,g3,g4,g5,g6,g7,g8⟩:=ih (t:=t.step e) (fun e he=>uQ e (List.mem_cons_of_mem _ he)) (ok.step (uQ e List.mem_cons_self));show A8 (iH t.x ((t.step e).cM r).x) _ _ _ _ _ _ _;refine⟨h1.trans g1,g2.trans h2,?_,g4.trans h4,Nat.le_trans h5 g5,?_,?_,g8⟩
  ·show ((t.step e).cM r).x.size<=_;rw[List.length_cons];lia
  ·show ((t.step e).cM r).cL.length<=_;rw[List.length_cons];lia
  ·show ((t.step e).cM r).bI.length<=_;rw[List.length_cons];lia
set_option tactic.hygienic true in
theorem yZ{x:CS}{p:Int×Int}(a:Ad):A5 (iH x (bW x p)) (a.own (bW x p)=a.own x) (∀ f,x.frames[bB x p.1.toNat]? = some f->(bW x p).size<=x.size+f.many.toNat+1) ((bW x p).stack=x.stack) ((bW x p).labels.length=x.labels.length):=by
 unfold bW;split
 ·rename_i f hf
  obtain⟨z1,z2,z3,z4,z5⟩:=CS.cS (x:=x) (k:=bB x p.1.toNat);obtain⟨m1,m2,m3⟩:=CS.cT (x:=(x.aH (bB x p.1.toNat)).aG p.2.toNat) (fh:=f.aC) (many:=f.many.toNat);have ml:=CS.tN (x:=(x.aH (bB x p.1.toNat)).aG p.2.toNat) (fh:=f.aC) (many:=f.many.toNat);refine⟨iH.aH.trans (.of_eq m2),?_,fun g hg=> ?_,m3.trans z2,?_⟩
  ·exact (TL (x:=x.aH (bB x p.1.toNat)) m2).trans pG
  ·rw[hf] at hg;cases hg
   rw[CS.cO];have:((x.aH (bB x p.1.toNat)).aG p.2.toNat).size=x.size:=by rw[<- z1];simp [CS.aG,CS.size]
   lia
  ·show (CS.bR _ _ _).labels.length=_
   rw[ml];show ((x.aH _).labels.set _ _).length=_;rw[List.length_set,z4]
 ·exact⟨.refl _,rfl,fun g hg=>by simp_all,rfl,rfl⟩
theorem F5{x:CS}{ps:List (Int×Int)}{ds:List Nat}(a:Ad)(hd: ∀ dd∈ds,fW x dd)(hp: ∀ p∈ps,∃ dd∈ds,p.1=((dd:Nat):Int)): ∀ k,A5 (iH x (aW x (ps.take k))) (a.own (aW x (ps.take k))=a.own x) ((aW x (ps.take k)).size<=x.size+3*(ps.take k).length) ((aW x (ps.take k)).stack=x.stack) ((aW x (ps.take k)).labels.length=x.labels.length):=by
 intro k;induction k with
 | zero=>exact⟨.refl _,rfl,Nat.le_refl _,rfl,rfl⟩
 | succ k ih=>
  cases hk:ps[k]? with
  | none=>
   have h1:ps.take (k+1)=ps.take k:=by
    rw[List.take_add_one,hk];simp
   rw[h1];exact ih
  | some p=>
   obtain⟨i1,i2,i3,i4,i5⟩:=ih;rw[lO hk,nN];obtain⟨g1,g2,g3,g4,g5⟩:=yZ (x:=aW x (ps.take k)) (p:=p) a;obtain⟨dd,RG,FF⟩:=hp p (List.mem_of_getElem? hk);have ok:=(hd dd RG).same i1 (by rw[i4]);refine⟨i1.trans g1,g2.trans i2,?_,g4.trans i4,g5.trans i5⟩;have eA:bB (aW x (ps.take k)) p.1.toNat<(aW x (ps.take k)).frames.length:=n1 ok.lt;have g3':=g3 _ (List.getElem?_eq_getElem eA);obtain⟨_,m0,_,m2⟩:=ok.oK (aW x (ps.take k)).frames[bB (aW x (ps.take k)) p.1.toNat] (by
    rw[<- List.getElem?_eq_getElem eA,FF];rfl)
   rw[List.length_append,List.length_singleton];lia
noncomputable def FU(ds:List Nat):List V:=ds.map fun k:Nat=>.int k
theorem CS.gO{e:bL}{h:Int}: A4 ((x.bN h e).1.size<=x.size+1) ((x.bN h e).1.frames=x.frames) ((x.bN h e).1.stack=x.stack) ((x.bN h e).1.labels=x.labels):=by
 cases e with
 | num n=>exact⟨by show (x.aV _ _ _ _).size<=_;rw[CS.cO];lia,rfl,rfl,rfl⟩
 | pl s=>exact⟨Nat.le_succ _,rfl,rfl,rfl⟩
inductive aR where
 | const(n:Int)|get (i:Int)|set (i:Int)|LF (i:Int)|drop|cG|br (d:Nat)|oM (d:Nat)|table (ds:List Nat)|ret|jX|LZ
 | lP(op:Int)|zM|call|block (m:Int)|kO (m:Int)|iff (m:Int)|nO|cV
noncomputable def aR.code:aR->Int
 | .const _=>65 | .get _=>32 | .set _=>33 | .LF _=>34 | .drop=>26 | .cG=>27 | .br _=>12 | .oM _=>13 | .table _=>14 | .ret=>15 | .jX=>0 | .LZ=>1
 | .lP op=>op | .zM=>69 | .call=>16 | .block _=>2 | .kO _=>3 | .iff _=>4 | .nO=>5 | .cV=>11
noncomputable def aR.more:aR->List V
 | .const n=>[.int n] | .get n=>[.int n] | .set n=>[.int n] | .LF n=>[.int n] | .br d=>[.int d] | .oM d=>[.int d] | .table ds=>FU ds | .call=>[.int 0]
 | .block m=>[.int m] | .kO m=>[.int m] | .iff m=>[.int m]
 | _=>[]
noncomputable def aR.v(i:aR):V:=.aM (.int i.code::i.more)
noncomputable def pP:List Int:=[106,107,108,115,118,70,73]
noncomputable def Arg.n:Arg->Int
 | .i n=>n
 | .t _=>0
noncomputable def Arg.Sp:Arg->Prop
 | .i _=>True
 | .t _=>False
namespace CS
noncomputable def dB(x:CS):bL:=x.stack.getLast?.getD (.num 0)
noncomputable def SD:Fr:=⟨0,0,0,0,0,none,none,none,false⟩
noncomputable def An(x:CS)(d:Nat):Fr:=x.frames[bB x d]?.getD SD
noncomputable def aF(x:CS):Fr:=x.frames.getLast?.getD SD
noncomputable def IZ(x:CS)(d:Nat):CS:=x.NC (bB x d) (x.An d) (x.An d).many.toNat ((x.An d).dP.getD 0)
noncomputable def oN(y:CS)(d:Nat)(t:Int×Arg×Int):CS:=y.oM (bB y d) (y.An d) (y.An d).many.toNat ((y.An d).dP.getD 0) t.1 t.2.1.n t.2.2
noncomputable def Ax(y:CS)(t:Int×Arg×Int)(p:Nat×Nat)(adr:Nat):CS:=y.xG t.1 t.2.1.n t.2.2 p.1 p.2 adr
noncomputable def oP(x:CS)(f:Fr):CS:=x.iS (x.frames.length - 1) f (f.eU.getD 0) (f.elseL.getD 0).toNat (f.aC+f.params).toNat
noncomputable def oR(x:CS)(f:Fr):CS:=x.mW f (f.eU.getD 0).toNat (f.aC+f.aU).toNat
noncomputable def io(m:Int):Nat×Nat:=(fF m).getD (0,0)
noncomputable def Cq(x:CS)(i:aR)(adr:Nat):CS:=match i with
 | .const n=>x.push (.num (n.fmod 4294967296))
 | .get i=>x.push (.pl i)
 | .set i=>x.pop.bY i x.dB
 | .LF i=>(x.pop.bY i x.dB).push (Eh i x.dB)
 | .drop=>x.pop
 | .cG=>x.cG x.dB
 | .br d=>x.IZ d
 | .oM d=>(x.pop.aE x.dB).1.oN d (x.pop.aE x.dB).2
 | .table ds=>x.pop.mU x.dB ds
 | .ret=>x.ret (x.frames[0]?.getD SD).aC
 | .jX=> { x.aV 0 0 (.i 0) 0 with live:=false }
 | .LZ=>x
 | .lP op=>x.pop.pop.lP op x.pop.dB x.dB
 | .zM=>x.pop.B8 69 x.dB
 | .call=>x.call 0 2 2
 | .block m=>x.aL 2 (io m).1 (io m).2 adr
 | .kO m=>x.aL 3 (io m).1 (io m).2 adr
 | .iff m=>(x.pop.aE x.dB).1.Ax (x.pop.aE x.dB).2 (io m) adr
 | .nO=>x.oP x.aF
 | .cV=>x.oR x.aF
noncomputable def qC(x:CS)(i:aR):Bool:= !x.live&&decide (x.skipped>0) || !x.live && !(i.code==5||(i.code==11||false))
noncomputable def N4(x:CS)(i:aR):Int:=if (i.code==2||(i.code==3||(i.code==4||false)))=true then x.skipped+1 else if i.code=11 then x.skipped - 1 else x.skipped
noncomputable def skip(x:CS)(i:aR):CS:= { x with skipped:=x.N4 i }
noncomputable def take(x:CS)(i:aR)(adr:Nat):CS:=if x.qC i=true then x.skip i else x.Cq i adr
noncomputable def Qt(x:CS)(i:aR):Prop:=match i with
 | .set _ | .LF _ | .drop | .zM=>1<=x.stack.length
 | .cG=>3<=x.stack.length
 | .lP op=>2<=x.stack.length/\op∈pP
 | .call=>2<=x.stack.length
 | .br d=>fW x d
 | .oM d=>1<=x.stack.length/\fW x.pop d/\(x.pop.aE x.dB).2.2.1.Sp
 | .table ds=>1<=x.stack.length/\(∀ d∈ds,fW x.pop d)/\ds.length<=10
 | .ret=>2<=x.stack.length/\1<=x.frames.length
 | .block m | .kO m=>(fF m).isSome=true
 | .iff m=>1<=x.stack.length/\(fF m).isSome=true/\(x.pop.aE x.dB).2.2.1.Sp
 | .nO=>1<=x.frames.length/\x.aF.eU.isSome=true/\(∃ el:Nat,x.aF.elseL=some (el:Int)/\el<x.labels.length)/\0<=x.aF.aC+x.aF.params/\x.aF.aC+x.aF.params<1000
 | .cV=>1<=x.frames.length/\(∃ fe:Nat,x.aF.eU=some (fe:Int)/\fe<x.labels.length)/\(∀ l,x.aF.elseL=some l->0<=l/\l.toNat<x.labels.length)/\0<=x.aF.aC+x.aF.aU/\x.aF.aC+x.aF.aU<1000
 | _=>True
structure Op(x:CS)(i:aR):Prop where
 size:x.size+x.stack.length<90000
 fence:0<=x.fence
 CJ:x.qC i=false->x.Qt i
end CS
theorem fO{x:CS}(h:1<=x.stack.length):x.stack.getLast? = some x.dB:=by
 obtain⟨e,he⟩:=eL (l:=x.stack) h;unfold CS.dB;rw[he];rfl
noncomputable def mA(op:Int):Bool:=D9 op [259,260,261]||(decide (4096<=op)&&decide (op<16384)||(decide (op≥20480)&&decide (op<28672)))
noncomputable def Arg.l:Arg->List Int
 | .i _=>[]
 | .t l=>l
noncomputable def Arg.UJ:Arg->Prop
 | .i _=>False
 | .t _=>True
noncomputable def dZ.zP(r:dZ):List Int:=if mA r.op=true then [r.a] else if r.op=262 then r.b.l else []
noncomputable def pZ(labels:List Int)(l:Int):Int:=labels[l.toNat]?.getD 0
noncomputable def nD(rows:List dZ)(labels:List Int)(Cj:Int):Int:=match rows[Cj.toNat]? with
 | some r=>if r.op=259 then pZ labels r.a else Cj
 | none=>Cj
noncomputable def Rd(rows:List dZ)(labels:List Int):Nat->Int->Int
 | 0,Cj=>Cj
 | n+1,Cj=>nD rows labels (Rd rows labels n Cj)
noncomputable def pO(rows:List dZ)(labels:List Int)(l:Int):Int:=Rd rows labels 8 (pZ labels l)
noncomputable def jR(rows:List dZ)(labels:List Int)(r:dZ):dZ:=
 if mA r.op=true then { r with a:=pO rows labels r.a } else if r.op=262 then { r with b:=.t (r.b.l.map (pO rows labels)) } else r
noncomputable def iY(rows:List dZ)(labels:List Int):List dZ:=rows.map (jR rows labels)
noncomputable def wP(labels:List Int)(l:Int):Prop:=0<=l/\∃ p:Nat,labels[l.toNat]? = some (p:Int)
noncomputable def oG(rows:List dZ)(labels:List Int):Prop:=∀ r∈rows,(∀ l∈r.zP,wP labels l)/\(r.op=262->r.b.UJ/\r.b.l.length<1000)
namespace CS
noncomputable def wp(P:CS->Prop):List aR->CS->Prop
 | [],x=>P x
 | i::r,x=>x.Op i/\∀ adr,wp P r (x.take i adr)
theorem gT{P:CS->Prop}{s:List aR}: ∀ {r:List aR} {x:CS},wp P (r++s) x↔wp (wp P s) r x
 | [],x=>Iff.rfl
 | i::r,x=>by
  show (_/\∀ adr,wp P (r++s) _)↔(_/\∀ adr,wp _ r _);simp only[gT]
noncomputable def eF:CS:=⟨[],[],0,[],0,[],true,0⟩
end CS
theorem Aq{H T:Hp}{i:Nat}{o:aY}(h:H[i]? = some o):(H++T)[i]? = some o:=by
 rw[List.getElem?_append_left (Ap h)];exact h
inductive tQ:List aR->Prop
 | nil:tQ []
 | iB{a b}: tQ a->tQ b->tQ (a++b)
 | plain{i:aR}: i.code≠2->i.code≠3->i.code≠4->i.code≠5->i.code≠11->tQ [i]
 | Ob{i:aR}{a}: (i.code=2\/i.code=3\/i.code=4)->tQ a->tQ (i::(a++[.cV]))
 | nO{m:Int}{a b}: tQ a->tQ b->tQ (.iff m::(a ++ .nO::(b++[.cV])))
noncomputable def iV:List aR:=[.get 3,.const 1,.lP 118,.LF 3,.oM 0]
noncomputable def wO(h:Option Nat)(r:Nat):Prop:=h=some r\/h=none
inductive gC:List (Nat×Bool)->Option Nat->List aR->Option Nat->Prop
 | nil{L h}: gC L h [] h
 | iB{L h h1 h2 a b}: gC L h a h1->gC L h1 b h2->gC L h (a++b) h2
 | const{L h n}: gC L (some h) [.const n] (some (h+1))
 | get{L h i}: 0<=i->i<4->gC L (some h) [.get i] (some (h+1))
 | set{L h i}: 0<=i->i<3->gC L (some (h+1)) [.set i] (some h)
 | LF{L h i}: 0<=i->i<3->gC L (some (h+1)) [.LF i] (some (h+1))
 | drop{L h}: gC L (some (h+1)) [.drop] (some h)
 | cG{L h}: gC L (some (h+3)) [.cG] (some (h+1))
 | lP{L h op}: op∈pP->gC L (some (h+2)) [.lP op] (some (h+1))
 | zM{L h}: gC L (some (h+1)) [.zM] (some (h+1))
 | call{L h}: gC L (some (h+2)) [.call] (some (h+2))
 | LZ{L h}: gC L (some h) [.LZ] (some h)
 | oM{L h d many}: d<L.length->L[L.length - 1 - d]? = some (many,false)->many<=h->gC L (some (h+1)) [.oM d] (some h)
 | br{L h d many}: d<L.length->L[L.length - 1 - d]? = some (many,false)->many<=h->gC L (some h) [.br d] none
 | ret{L h}: 2<=h->gC L (some h) [.ret] none
 | jX{L h}: gC L (some h) [.jX] none
 | table{L h ds}: ds.length<=3->(∀ d∈ds,d<L.length/\∃ many,L[L.length - 1 - d]? = some (many,false)/\many<=h)->gC L (some (h+1)) [.table ds] none
 | J8{L a}: tQ a->gC L none a none
 | block{L h m p r a h'}: fF m=some (p,r)->gC (L++[(r,false)]) (some p) a h'->wO h' r->gC L (some (h+p)) (.block m::(a++[.cV])) (some (h+r))
 | kO{L h m p a}: fF m=some (p,p)->gC (L++[(p,true)]) (some p) a (some p)->gC L (some (h+p)) (.kO m::((a++iV)++[.cV])) (some (h+p))
 | BG{L h m p a}: fF m=some (p,p)->gC (L++[(p,true)]) (some p) a none->gC L (some (h+p)) (.kO m::(a++[.cV])) (some (h+p))
 | iff{L h m p a h'}: fF m=some (p,p)->gC (L++[(p,false)]) (some p) a h'->wO h' p->gC L (some (h+p+1)) (.iff m::(a++[.cV])) (some (h+p))
 | nO{L h m p r a h' b MX}: fF m=some (p,r)->gC (L++[(r,false)]) (some p) a h'->wO h' r->gC (L++[(r,false)]) (some p) b MX->wO MX r->gC L (some (h+p+1)) (.iff m::(a ++ .nO::(b++[.cV]))) (some (h+r))
theorem tQ.xQ: ∀ {a:List aR},(∀ i∈a,i.code≠2/\i.code≠3/\i.code≠4/\i.code≠5/\i.code≠11)->tQ a
 | [],_=>.nil
 | i::r,h=>by
  obtain⟨h1,h2,h3,h4,h5⟩:=h i List.mem_cons_self;exact .iB (.plain h1 h2 h3 h4 h5) (tQ.xQ fun j hj=>h j (List.mem_cons_of_mem _ hj))
theorem gC.T2{L h a h'}(s:gC L h a h'):tQ a:=by
 induction s with
 | nil=>exact .nil
 | iB _ _ i1 i2=>exact .iB i1 i2
 | lP kC=>
  apply tQ.plain<;>(intro q;simp only[aR.code] at q;subst q;revert kC;decide)
 | J8 b=>exact b
 | block _ _ _ i1=>exact .Ob (.inl rfl) i1
 | kO _ _ i1=>exact .Ob (.inr (.inl rfl)) (.iB i1 (tQ.xQ (by decide)))
 | BG _ _ i1=>exact .Ob (.inr (.inl rfl)) i1
 | iff _ _ _ i1=>exact .Ob (.inr (.inr rfl)) i1
 | nO _ _ _ _ _ i1 i2=>exact .nO i1 i2
 | _=>exact .plain (by simp [aR.code]) (by simp [aR.code]) (by simp [aR.code]) (by simp [aR.code]) (by simp [aR.code])
noncomputable def WL(sa Cj jU:Nat):aY:=.list [.ref sa,.int Cj,.int jU]
noncomputable def tE(code:List aR):aY:=.list (code.map aR.v)
structure Xq(H:Hp)(sc:List Int)(pa ba sa Cj jU:Nat)(code:List aR):Prop where
 tw:H[pa]? = some (WL sa Cj jU)
 body:H[ba]? = some (tE code)
 uh:H[sa]? = some (.list (sc.map .int))
 pb:pa≠ba
 sp:sa≠pa
 sb:sa≠ba
noncomputable def pR(s:List aR):Prop:=∀ i∈s,(∃ n,i= .const n)\/ ∃ n,i= .get n/\0<=n/\n<3
theorem Xq.new(g:Xq H sc pa ba sa Cj jU code){T:Hp}: Xq (H++T) sc pa ba sa Cj jU code:=
 ⟨Aq g.tw,Aq g.body,Aq g.uh,g.pb,g.sp,g.sb⟩
theorem pR.cC{L:List (Nat×Bool)}: ∀ {s:List aR} {n:Nat},pR s->gC L (some n) s (some (n+s.length))
 | [],n,_=>.nil
 | i::r,n,h=>by
  have hr:gC L (some (n+1)) r (some (n+1+r.length)):=pR.cC (fun j hj=>h j (List.mem_cons_of_mem _ hj));have e:n+(i::r).length=n+1+r.length:=by simp;lia
  rw[e];refine gC.iB (a:=[i]) ?_ hr;rcases h i List.mem_cons_self with⟨k,rfl⟩|⟨k,rfl,h0,h3⟩
  ·exact .const
  ·exact .get h0 (by lia)
structure jG(L:List (Nat×Bool)):Prop where
 pos:1<=L.length
 le:L.length<=5
 zero:L[0]? = some (2,false)
 many: ∀ p∈L,p.1<=2
theorem jG.get{L:List (Nat×Bool)}{k:Nat}(hk:k<L.length):GW (fun many b=>L[L.length - 1 - k]? = some (many,b)):=⟨_,_,List.getElem?_eq_getElem (n1 hk)⟩
theorem jG.more{p:Nat×Bool}(ok:jG L)(hl:L.length<5)(hp:p.1<=2):jG (L++[p]):=by
 refine⟨by simp,by simp;lia,?_,fun q hq=> ?_⟩
 ·rw[List.getElem?_append_left ok.pos];exact ok.zero
 ·rcases List.mem_append.mp hq with h|h
  ·exact ok.many q h
  ·rw[List.mem_singleton.mp h];exact hp
noncomputable def GO(body:List aR):Prop:=∃ cC h',body=[.const 7,.set 3]++cC++[.cV]/\gC [(2,false)] (some 0) cC h'/\wO h' 2/\cC.length<=230
end Mine
namespace Mine
noncomputable abbrev Sl:=Int->Prop
noncomputable def AY:List Int:=[4096+70,4096+73,8192+70,8192+73]
noncomputable def tW:List Int:=[20480+70,20480+73,24576+70,24576+73]
inductive fJ:dZ->List Int->List Int->List Int->Bool->Prop
 | HQ{a s}: fJ ⟨256,a,.i s,0⟩ [s] [a] [] true
 | const{a n}: fJ ⟨257,a,.i n,0⟩ [] [a] [] true
 | cG{a}: fJ ⟨258,a,.i 0,0⟩ [a,a+1,a+2] [a] [] true
 | HG{l}: fJ ⟨259,l,.i 0,0⟩ [] [] [l] false
 | On{op l s}: op=260\/op=261->fJ ⟨op,l,.i s,0⟩ [s] [] [l] true
 | table{a ls}: ls.length<1000->fJ ⟨262,a,.t ls,0⟩ [a] [] ls false
 | call{b}: fJ ⟨263,0,.i b,0⟩ [b,b+1] [b,b+1] [] true
 | ret:fJ ⟨267,4,.i 2,0⟩ [4,5] [] [] false
 | OK:fJ ⟨0,0,.i 0,0⟩ [] [] [] false
 | zM{a s}: fJ ⟨69,a,.i s,0⟩ [s] [a] [] true
 | lP{op a s t}: op∈pP->fJ ⟨op,a,.i s,t⟩ [s,t] [a] [] true
 | sX{op a s n}: op∈pP->fJ ⟨16384+op,a,.i s,n⟩ [s] [a] [] true
 | br{op l s t}: op∈AY->fJ ⟨op,l,.i s,t⟩ [s,t] [] [l] true
 | Oc{op l s n}: op∈tW->fJ ⟨op,l,.i s,n⟩ [s] [] [l] true
noncomputable def eS(labels:List Int)(lk:List Sl)(P:Int->Prop)(K:Sl)(l:Int):Prop:=
 0<=l/\∃ Kl,lk[l.toNat]? = some Kl/\(∀ s,Kl s->K s)/\(P l\/ ∃ q:Nat,labels[l.toNat]? = some (q:Int))
structure Cg(labels:List Int)(lk:List Sl)(P:Int->Prop)(most:Int)(K:Sl)(nx:Sl)(r:dZ)(rd wr lb:List Int)(go:Bool):Prop where
 hk:fJ r rd wr lb go
 Ek: ∀ s∈rd,K s
 XC: ∀ s,s∈rd\/s∈wr->0<=s/\s<4+most
 RM:go=true->∀ s,nx s->K s\/s∈wr
 Ei: ∀ l∈lb,eS labels lk P K l
structure wM(rows:List dZ)(labels:List Int)(fence most:Int)(ks lk:List Sl)(W:Sl)(P:Int->Prop):Prop where
 len:ks.length=rows.length
 FO:lk.length=labels.length
 f0:0<=fence
 f1:fence<=rows.length
 row: ∀ (j:Nat) r K,rows[j]? = some r->ks[j]? = some K->Jp fun rd wr lb go=>Cg labels lk P most K (ks[j+1]?.getD W) r rd wr lb go
 dP: ∀ (l:Nat) p Kl,labels[l]? = some p->lk[l]? = some Kl->p= -1\/ ∃ q:Nat,p=q/\p<=fence/\∀ s,(ks[q]?.getD W) s->Kl s
 wb: ∀ s,W s->0<=s/\s<4+most
 kb: ∀ K∈ks,∀ s,K s->0<=s/\s<4+most
 st: ∀ s,(ks[0]?.getD W) s->s<4
section
variable{rows:List dZ}{labels:List Int}{fence most:Int}{ks lk:List Sl}{W W' K:Sl}{P P':Int->Prop}{r:dZ}{rd wr lb:List Int}{go:Bool}
theorem eS.bT(h: ∀ l,P l->P' l){l:Int}(x:eS labels lk P K l):eS labels lk P' K l:=by
 obtain⟨h0,Kl,h1,h2,h3⟩:=x;exact⟨h0,Kl,h1,h2,h3.imp (h l) id⟩
theorem Cg.imp{P':Int->Prop}{FS:Int}{JE:List Int}{qN:List Sl}{nx ji:Sl}(x:Cg labels lk P most K nx r rd wr lb go)(hm:most<=FS)(hn:go=true->∀ s,ji s->nx s)(hl: ∀ l,eS labels lk P K l->eS JE qN P' K l):Cg JE qN P' FS K ji r rd wr lb go:=
 ⟨x.hk,x.Ek,fun s hs=>by have:=x.XC s hs;lia,fun hg s hs=>x.RM hg s (hn hg s hs),fun l D7=>hl l (x.Ei l D7)⟩
theorem wM.OV(x:wM rows labels fence most ks lk W P)(h: ∀ s,W' s->W s):wM rows labels fence most ks lk W' P:=by
 have hn: ∀ (j:Nat) s,(ks[j]?.getD W') s->(ks[j]?.getD W) s:=fun j s hs=>by
  cases hk:ks[j]? with
  | none=>rw[hk] at hs;exact h s hs
  | some K=>rw[hk] at hs;exact hs
 refine⟨x.len,x.FO,x.f0,x.f1,fun j r K hr hK=> ?_,fun l p Kl hp hk=> ?_,fun s hs=>x.wb s (h s hs),x.kb,fun s hs=>x.st s (hn 0 s hs)⟩
 ·obtain⟨rd,wr,lb,go,ok⟩:=x.row j r K hr hK
  exact⟨rd,wr,lb,go,ok.imp (Int.le_refl _) (fun _=>hn (j+1)) (fun l z=>z)⟩
 ·exact (x.dP l p Kl hp hk).imp id fun ⟨q,h1,h2,h3⟩=>⟨q,h1,h2,fun s hs=>h3 s (hn q s hs)⟩
theorem wM.BL{FS:Int}(x:wM rows labels fence most ks lk W P)(h:most<=FS):wM rows labels fence FS ks lk W P:=by
 refine⟨x.len,x.FO,x.f0,x.f1,fun j r K hr hK=> ?_,x.dP,fun s hs=>by have:=x.wb s hs;lia,fun K hK s hs=>by have:=x.kb K hK s hs;lia,x.st⟩;obtain⟨rd,wr,lb,go,ok⟩:=x.row j r K hr hK;exact⟨rd,wr,lb,go,ok.imp h (fun _ s hs=>hs) (fun l z=>z)⟩
theorem wM.bT(x:wM rows labels fence most ks lk W P)(h: ∀ l,P l->P' l):wM rows labels fence most ks lk W P':=by
 refine⟨x.len,x.FO,x.f0,x.f1,fun j r K hr hK=> ?_,x.dP,x.wb,x.kb,x.st⟩;obtain⟨rd,wr,lb,go,ok⟩:=x.row j r K hr hK;exact⟨rd,wr,lb,go,ok.imp (Int.le_refl _) (fun _ s hs=>hs) (fun l z=>z.bT h)⟩
theorem wM.aV(x:wM rows labels fence most ks lk W P)(k:fJ r rd wr lb go)(Ek: ∀ s∈rd,W s)(XU: ∀ s∈wr,0<=s/\s<4+most)(Ei: ∀ l∈lb,eS labels lk P W l)(hW: ∀ s,W' s->(W s\/s∈wr)\/(go=false/\0<=s/\s<4+most)):wM (rows++[r]) labels fence most (ks++[W]) lk W' P:=by
 have ow: ∀ j,j<rows.length->(ks++[W])[j+1]?.getD W'=ks[j+1]?.getD W:=fun j hj=>by
  by_cases h:j+1<ks.length
  ·rw[List.getElem?_append_left h]
   rw[List.getElem?_eq_getElem h];rfl
  ·have e:j+1=ks.length:=by have:=x.len;lia
   rw[e,List.getElem?_concat_length,List.getElem?_eq_none (Nat.le_refl _)];rfl
 refine⟨by simp [x.len],x.FO,x.f0,by have:=x.f1;rw[List.length_append];simp;lia,fun j r' K hr hK=> ?_,fun l p Kl hp hk=> ?_,fun s hs=> ?_,fun K hK s hs=> ?_,fun s hs=>x.st s ?_⟩
 ·by_cases hj:j<rows.length
  ·rw[List.getElem?_append_left hj] at hr
   rw[List.getElem?_append_left (by rw[x.len];exact hj)] at hK;obtain⟨bc,cp,Zx,YZ,ok⟩:=x.row j r' K hr hK;exact⟨bc,cp,Zx,YZ,by rw[ow j hj];exact ok⟩
  ·have oq:j=rows.length:=by
    have:=(List.getElem?_eq_some_iff.mp hr).1;rw[List.length_append] at this;simp at this;lia
   subst oq;rw[List.getElem?_concat_length] at hr;rw[<- x.len,List.getElem?_concat_length] at hK;cases hr;cases hK;refine⟨rd,wr,lb,go,k,Ek,fun s hs=>hs.elim (fun q=>x.wb s (Ek s q)) (XU s),fun hg s hs=> ?_,Ei⟩;rw[List.getElem?_eq_none (by rw[List.length_append,x.len];simp)] at hs;rcases hW s hs with q|⟨q,_⟩
   ·exact q
   ·rw[hg] at q;cases q
 ·refine (x.dP l p Kl hp hk).imp id fun ⟨q,h1,h2,h3⟩=>⟨q,h1,h2,fun s hs=>h3 s ?_⟩
  have hq:q<=ks.length:=by have:=x.f1;have:=x.len;lia
  by_cases h:q<ks.length
  ·rw[List.getElem?_append_left h] at hs
   rw[List.getElem?_eq_getElem h] at hs ⊢;exact hs
  ·have e:q=ks.length:=by lia
   rw[e,List.getElem?_concat_length] at hs;rw[e,List.getElem?_eq_none (Nat.le_refl _)];exact hs
 ·rcases hW s hs with (q|q)|⟨_,q⟩
  ·exact x.wb s q
  ·exact XU s q
  ·exact q
 ·rcases List.mem_append.mp hK with q|q
  ·exact x.kb K q s hs
  ·rw[List.mem_singleton.mp q] at hs;exact x.wb s hs
 ·cases ks with
  | nil=>exact hs
  | cons K ks=>exact hs
theorem wM.drop(x:wM rows labels fence most ks lk W P)(hr:rows.getLast? = some r)(hf:fence<rows.length):Lk (fun K rd wr lb go=>Cg labels lk P most K W r rd wr lb go) (fun K rd wr lb go=>wM rows.dropLast labels fence most ks.dropLast lk K P):=by
 have mO:0<rows.length:=Int.ofNat_lt.mp (Int.lt_of_le_of_lt x.f0 hf);have kU:rows[rows.length - 1]? = some r:=by rw[<- List.getLast?_eq_getElem?];exact hr
 have G9:rows.length - 1<ks.length:=x.len.symm▸Nat.sub_lt mO Nat.one_pos;have hk:ks[rows.length - 1]? = some ks[rows.length - 1]:=List.getElem?_eq_getElem G9;obtain⟨rd,wr,lb,go,ok⟩:=x.row _ r _ kU hk;have e:rows.length - 1+1=ks.length:=(Nat.sub_add_cancel mO).trans x.len.symm;rw[e,List.getElem?_eq_none (Nat.le_refl _)] at ok;have mq:=List.mem_of_getElem? hk;generalize ks[rows.length - 1]=K at *;have RM: ∀ j,j<ks.length->ks.dropLast[j]?.getD K=ks[j]?.getD W:=fun j hj=>by
  rw[List.getElem?_dropLast];by_cases h:j<ks.length - 1
  ·rw[if_pos h,List.getElem?_eq_getElem hj];rfl
  ·have e2:j=rows.length - 1:=Nat.le_antisymm (Nat.le_sub_one_of_lt (x.len▸hj)) (x.len▸Nat.not_lt.mp h)
   rw[if_neg h,e2,hk];rfl
 refine⟨K,rd,wr,lb,go,ok,by simp [x.len],x.FO,x.f0,by rw[List.length_dropLast,Int.ofNat_sub mO];exact Int.le_sub_one_of_lt hf,fun j r' K' CQ W6=> ?_,fun l p Kl hp G9=> ?_,x.kb K mq,fun K' W6=>x.kb K' (List.dropLast_subset _ W6),fun s hs=>x.st s (by rw[RM 0 (by lia)] at hs;exact hs)⟩
 ·have hj:j<rows.length - 1:=by have:=(List.getElem?_eq_some_iff.mp CQ).1;rw[List.length_dropLast] at this;exact this
  rw[List.getElem?_dropLast,if_pos hj] at CQ;rw[List.getElem?_dropLast,if_pos (by rw[x.len];exact hj)] at W6;obtain⟨bc,cp,Zx,YZ,tr⟩:=x.row j r' K' CQ W6;exact⟨bc,cp,Zx,YZ,by rw[RM (j+1) (x.len.symm▸Nat.add_lt_of_lt_sub hj)];exact tr⟩
 ·refine (x.dP l p Kl hp G9).imp id fun ⟨q,h1,h2,h3⟩=>⟨q,h1,h2,fun s hs=>h3 s ?_⟩
  rw[RM q (x.len.symm▸Int.ofNat_lt.mp (Int.lt_of_le_of_lt (h1▸h2) hf))] at hs;exact hs
theorem wM.free(x:wM rows labels fence most ks lk W P)(hr:rows.getLast? = some r)(hf:fence<rows.length)(hk: ∀ rd wr lb go,fJ r rd wr lb go->go=false)(hW: ∀ s,W' s->0<=s/\s<4+most):wM rows labels fence most ks lk W' P:=by
 have kU:rows[rows.length - 1]? = some r:=by rw[<- List.getLast?_eq_getElem?];exact hr
 refine⟨x.len,x.FO,x.f0,x.f1,fun j r' K CQ hK=> ?_,fun l p Kl hp G9=> ?_,hW,x.kb,fun s hs=>x.st s ?_⟩
 ·obtain⟨rd,wr,lb,go,ok⟩:=x.row j r' K CQ hK
  refine⟨rd,wr,lb,go,ok.imp (Int.le_refl _) (fun hg s hs=> ?_) (fun l z=>z)⟩;by_cases h:j+1<ks.length
  ·rw[List.getElem?_eq_getElem h] at hs ⊢;exact hs
  ·have hj:j=rows.length - 1:=Nat.le_antisymm (Nat.le_sub_one_of_lt (List.getElem?_eq_some_iff.mp CQ).1) (Nat.sub_le_of_le_add (x.len▸Nat.not_lt.mp h))
   subst hj;rw[kU] at CQ;cases CQ;rw[hk _ _ _ _ ok.hk] at hg;cases hg
 ·refine (x.dP l p Kl hp G9).imp id fun ⟨q,h1,h2,h3⟩=>⟨q,h1,h2,fun s hs=>h3 s ?_⟩
  have h:q<ks.length:=x.len.symm▸Int.ofNat_lt.mp (Int.lt_of_le_of_lt (h1▸h2) hf);rw[List.getElem?_eq_getElem h] at hs ⊢;exact hs
 ·have h:0<ks.length:=x.len.symm▸Int.ofNat_lt.mp (Int.lt_of_le_of_lt x.f0 hf)
  rw[List.getElem?_eq_getElem h] at hs ⊢;exact hs
theorem eS.more{l:Int}(x:eS labels lk P K l){a:Int}{Kl:Sl}: eS (labels++[a]) (lk++[Kl]) P K l:=by
 obtain⟨h0,K',h1,h2,h3⟩:=x;refine⟨h0,K',?_,h2,h3.imp id fun ⟨q,hq⟩=>⟨q,?_⟩⟩
 ·rw[List.getElem?_append_left (List.getElem?_eq_some_iff.mp h1).1];exact h1
 ·rw[List.getElem?_append_left (List.getElem?_eq_some_iff.mp hq).1];exact hq
theorem wM.aP(x:wM rows labels fence most ks lk W P)(Kl:Sl):wM rows (labels++[-1]) fence most ks (lk++[Kl]) W P:=by
 refine⟨x.len,by simp [x.FO],x.f0,x.f1,fun j r K hr hK=> ?_,fun l p Xr hp G9=> ?_,x.wb,x.kb,x.st⟩
 ·obtain⟨rd,wr,lb,go,ok⟩:=x.row j r K hr hK
  exact⟨rd,wr,lb,go,ok.imp (Int.le_refl _) (fun _ s hs=>hs) (fun l z=>z.more)⟩
 ·by_cases h:l<labels.length
  ·rw[List.getElem?_append_left h] at hp
   rw[List.getElem?_append_left (by rw[x.FO];exact h)] at G9;exact x.dP l p Xr hp G9
  ·have:l=labels.length:=by
    have:=(List.getElem?_eq_some_iff.mp hp).1;rw[List.length_append] at this;simp at this;lia
   subst this;rw[List.getElem?_concat_length] at hp;cases hp;exact .inl rfl
theorem wM.kP{l:Nat}{Kl:Sl}(x:wM rows labels fence most ks lk W P)(hl:lk[l]? = some Kl)(hW: ∀ s,W s->Kl s)(hP: ∀ i,P i->P' i\/i=l):wM rows (labels.set l rows.length) rows.length most ks lk W P':=by
 have Mm:l<labels.length:=by rw[<- x.FO];exact (List.getElem?_eq_some_iff.mp hl).1
 have uQ: ∀ K i,eS labels lk P K i->eS (labels.set l rows.length) lk P' K i:=fun K i ⟨h0,K',h1,h2,h3⟩=>by
  refine⟨h0,K',h1,h2,?_⟩;by_cases e:l=i.toNat
  ·right
   rw[<- e];exact⟨rows.length,List.getElem?_set_self Mm⟩
  ·rcases h3 with h|⟨q,hq⟩
   ·rcases hP i h with h'|rfl
    ·exact .inl h'
    ·exact absurd (by simp) e
   ·exact .inr ⟨q,by rw[List.getElem?_set_ne e];exact hq⟩
 refine⟨x.len,by simp [x.FO],by lia,Int.le_refl _,fun j r K hr hK=> ?_,fun i p Xr hp G9=> ?_,x.wb,x.kb,x.st⟩
 ·obtain⟨rd,wr,lb,go,ok⟩:=x.row j r K hr hK
  exact⟨rd,wr,lb,go,ok.imp (Int.le_refl _) (fun _ s hs=>hs) (uQ K)⟩
 ·by_cases e:l=i
  ·subst e
   rw[List.getElem?_set_self Mm] at hp;cases hp;rw[hl] at G9;cases G9;refine .inr ⟨rows.length,rfl,Int.le_refl _,fun s hs=>hW s ?_⟩;rw[List.getElem?_eq_none (by rw[x.len];exact Nat.le_refl _)] at hs;exact hs
  ·rw[List.getElem?_set_ne e] at hp
   exact (x.dP i p Xr hp G9).imp id fun ⟨q,h1,h2,h3⟩=>⟨q,h1,Int.le_trans h2 x.f1,h3⟩
end
structure fK(x y:CS):Prop where
 labels:y.labels=x.labels
 fence:y.fence=x.fence
 frames:y.frames=x.frames
 most:y.most=x.most
 live:y.live=x.live
 skipped:y.skipped=x.skipped
theorem fK.refl(x:CS):fK x x:=⟨rfl,rfl,rfl,rfl,rfl,rfl⟩
theorem fK.trans{x y z:CS}(p:fK x y)(q:fK y z):fK x z:=
 ⟨q.labels.trans p.labels,q.fence.trans p.fence,q.frames.trans p.frames,q.most.trans p.most,q.live.trans p.live,q.skipped.trans p.skipped⟩
noncomputable def Rw(x:CS)(lk:List Sl)(W:Sl)(P:Int->Prop):Prop:=∃ ks,wM x.rows x.labels x.fence x.most ks lk W P
noncomputable def zD(W:Sl)(a:Int):Sl:=fun s=>W s\/s=a
noncomputable def jY(W:Sl)(h:Nat):bL->Prop
 | .num _=>True
 | .pl s=>(0<=s/\s<4)\/(s=4+h/\W s)
noncomputable def Cf(W:Sl):bL->Prop
 | .num _=>True
 | .pl s=>W s
structure gU(st:List bL)(W:Sl):Prop where
 aA: ∀ s,0<=s->s<4->W s
 LQ: ∀ (h:Nat) e,st[h]? = some e->jY W h e
theorem jY.bJ{W W':Sl}{h:Nat}{e:bL}(k: ∀ s,W s->W' s)(x:jY W h e):jY W' h e:=by
 cases e with
 | num n=>trivial
 | pl s=>exact x.imp id fun ⟨a,b⟩=>⟨a,k s b⟩
theorem gU.bJ{st:List bL}{W W':Sl}(k: ∀ s,W s->W' s)(x:gU st W):gU st W':=⟨fun s h0 h4=>k s (x.aA s h0 h4),fun h e he=>(x.LQ h e he).bJ k⟩
theorem jY.ok{st:List bL}{W:Sl}{h:Nat}{e:bL}(x:jY W h e)(k:gU st W):Cf W e:=by
 cases e with
 | num n=>trivial
 | pl s=>exact x.elim (fun h=>k.aA s h.1 h.2) (fun h=>h.2)
theorem gU.pop{st:List bL}{W:Sl}(x:gU st W):gU st.dropLast W:=⟨x.aA,fun h e he=>by
 rw[List.getElem?_dropLast] at he;split at he
 ·exact x.LQ h e he
 ·cases he⟩
theorem gU.push{st:List bL}{W:Sl}{e:bL}(x:gU st W)(he:jY W st.length e):gU (st++[e]) W:=⟨x.aA,fun h e' Mc=>by
 by_cases hl:h<st.length
 ·rw[List.getElem?_append_left hl] at Mc;exact x.LQ h e' Mc
 ·have:h=st.length:=by
   have:=(List.getElem?_eq_some_iff.mp Mc).1;rw[List.length_append] at this;simp at this;lia
  subst this;rw[List.getElem?_concat_length] at Mc;cases Mc;exact he⟩
theorem gU.dB{x:CS}{W:Sl}(k:gU x.stack W)(h:1<=x.stack.length):jY W (x.stack.length - 1) x.dB:=by
 refine k.LQ _ _ ?_;rw[<- List.getLast?_eq_getElem?];exact fO h
section
variable{c:CS}{lk:List Sl}{W W':Sl}{P P':Int->Prop}{r:dZ}{rd wr lb:List Int}{go:Bool}
theorem Rw.OV(x:Rw c lk W P)(h: ∀ s,W' s->W s):Rw c lk W' P:=x.imp fun _ k=>k.OV h
theorem Rw.bT(x:Rw c lk W P)(h: ∀ l,P l->P' l):Rw c lk W P':=x.imp fun _ k=>k.bT h
theorem Rw.wb(x:Rw c lk W P): ∀ s,W s->0<=s/\s<4+c.most:=x.elim fun _ k=>k.wb
theorem Rw.aV{op a:Int}{b:Arg}{q:Int}(x:Rw c lk W P)(k:fJ ⟨op,a,b,q⟩ rd wr lb go)(Ek: ∀ s∈rd,W s)(XU: ∀ s∈wr,0<=s/\s<4+c.most)(Ei: ∀ l∈lb,eS c.labels lk P W l)(hW: ∀ s,W' s->(W s\/s∈wr)\/(go=false/\0<=s/\s<4+c.most)):Rw (c.aV op a b q) lk W' P:=
 x.elim fun _ z=>⟨_,z.aV k Ek XU Ei hW⟩
theorem Rw.aP(x:Rw c lk W P)(Kl:Sl):Rw c.aP (lk++[Kl]) W P:=x.imp fun _ k=>k.aP Kl
theorem Rw.aG{l:Nat}{Kl:Sl}(x:Rw c lk W P)(hl:lk[l]? = some Kl)(hW: ∀ s,W s->Kl s)(hP: ∀ i,P i->P' i\/i=l):Rw (c.aG l) lk W P':=x.imp fun _ k=>k.kP hl hW hP
theorem Rw.push{e:bL}(x:Rw c lk W P):Rw (c.push e) lk W P:=x.imp fun _ k=>k.BL (by
 show c.most<=if (c.stack.length:Int)+1>c.most then (c.stack.length:Int)+1 else c.most
 split<;>lia)
theorem DB{e:bL}: ((c.push e).stack.length:Int)<=(c.push e).most:=by
 show ((c.stack++[e]).length:Int)<=if (c.stack.length:Int)+1>c.most then (c.stack.length:Int)+1 else c.most
 rw[List.length_append];split<;>simp<;>lia
theorem BY{e:bL}(h:(c.stack.length:Int)<=c.most):(c.push e).most<=c.most+1:=by
 show (if (c.stack.length:Int)+1>c.most then (c.stack.length:Int)+1 else c.most)<=_;split<;>lia
theorem vY{s:Int}{e:bL}: fK c (c.kP s e):=by
 cases e with
 | num n=>exact⟨rfl,rfl,rfl,rfl,rfl,rfl⟩
 | pl t=>
  simp only[CS.kP];split
  ·exact .refl _
  ·exact⟨rfl,rfl,rfl,rfl,rfl,rfl⟩
theorem Rw.QA{slot:Int}{e:bL}(x:Rw c lk W P)(he:Cf W e)(h0:0<=slot)(h1:slot<4+c.most):Rw (c.kP slot e) lk (zD W slot) P:=by
 cases e with
 | num n=>exact x.aV .const (by simp) (by simp;lia) (by simp) (fun s hs=>.inl (by simpa [zD] using hs))
 | pl t=>
  simp only[CS.kP];split
  ·rename_i ht
   subst ht;exact x.OV fun s hs=>hs.elim id fun q=>q▸he
  ·exact x.aV .HQ (by simpa [Cf] using he) (by simp;lia) (by simp) (fun s hs=>.inl (by simpa [zD] using hs))
theorem wH{h:Nat}{e:bL}(he:c.stack[h]? = some e):(c.cB h).stack=c.stack.set h (.pl (4+h))/\fK c (c.cB h):=by
 unfold CS.cB;rw[he];have:=vY (c:=c) (s:=4+h) (e:=e);exact⟨by show (c.kP _ e).stack.set _ _=_;rw[CS.nW],this.labels,this.fence,this.frames,this.most,this.live,this.skipped⟩
theorem gU.set{st:List bL}{h:Nat}(k:gU st W):gU (st.set h (.pl (4+h))) (zD W (4+h)):=by
 refine⟨fun s h0 h4=>.inl (k.aA s h0 h4),fun i e he=> ?_⟩;by_cases hi:h=i
 ·subst hi
  have eA:=(List.getElem?_eq_some_iff.mp he).1;rw[List.length_set] at eA;rw[List.getElem?_set_self eA] at he;cases he;exact .inr ⟨rfl,.inr rfl⟩
 ·rw[List.getElem?_set_ne hi] at he
  exact (k.LQ i e he).bJ fun s hs=>.inl hs
theorem DN{h:Nat}(x:Rw c lk W P)(k:gU c.stack W)(hl:h<c.stack.length)(hm:(c.stack.length:Int)<=c.most):A4 (Rw (c.cB h) lk (zD W (4+h)) P) (gU (c.cB h).stack (zD W (4+h))) ((c.cB h).stack=c.stack.set h (.pl (4+h))) (fK c (c.cB h)):=by
 have he:=List.getElem?_eq_getElem hl;obtain⟨s1,s2⟩:=wH he;refine⟨?_,by rw[s1];exact k.set,s1,s2⟩;unfold CS.cB;rw[he];exact x.QA ((k.LQ h _ he).ok k) (by lia) (by lia)
theorem uL{b:Nat}(x:Rw c lk W P)(k:gU c.stack W)(hm:(c.stack.length:Int)<=c.most): ∀ n,b+n<=c.stack.length->∃ W',(∀ s,W s->W' s)/\Rw (c.dY b n) lk W' P/\gU (c.dY b n).stack W'/\(∀ i e,(c.dY b n).stack[i]? = some e->(b<=i->i<b+n->e= .pl (4+i))/\(i<b\/b+n<=i->c.stack[i]? = some e))/\fK c (c.dY b n)
 | 0,_=>⟨W,fun _ h=>h,x,k,fun i e he=>⟨by lia,fun _=>he⟩,.refl _⟩
 | n+1,hn=>by
  obtain⟨W1,h1,h2,h3,h4,h5⟩:=uL (b:=b) x k hm n (by lia);obtain⟨g1,g2,g3,g4⟩:=DN (h:=b+n) h2 h3 (by rw[CS.iL];lia) (by rw[CS.iL,h5.most];exact hm);refine⟨_,fun s hs=>.inl (h1 s hs),g1,g2,fun i e he=> ?_,h5.trans g4⟩;have Mc:((c.dY b n).cB (b+n)).stack[i]? = some e:=he;rw[g3] at Mc;by_cases hi:b+n=i
  ·subst hi
   rw[List.getElem?_set_self (by rw[CS.iL];lia)] at Mc;cases Mc;exact⟨fun _ _=>rfl,by lia⟩
  ·rw[List.getElem?_set_ne hi] at Mc
   obtain⟨q1,q2⟩:=h4 i e Mc;exact⟨fun a b'=>q1 a (by lia),fun a=>q2 (by lia)⟩
noncomputable def sY(st:List bL):Prop:=∀ (i:Nat) e,st[i]? = some e->e= .pl (4+i)
noncomputable def bF(h:Nat):Sl:=fun s=>0<=s/\s<4+h
theorem sY.iC{st:List bL}(k:gU st W)(h:sY st): ∀ s,bF st.length s->W s:=fun s ⟨h0,h1⟩=>by
 by_cases h4:s<4
 ·exact k.aA s h0 h4
 ·have Yg:=Int.not_lt.mp h4
  have eA:(s - 4).toNat<st.length:=sr Yg h1;have he:=List.getElem?_eq_getElem eA;have h2:=h _ _ he;have h3:=k.LQ _ _ he;rw[h2] at h3;rcases h3 with h3|h3
  ·exact absurd (Xa Yg▸h3.2) h4
  ·exact Xa Yg▸h3.2
theorem pM(x:Rw c lk W P)(k:gU c.stack W)(hm:(c.stack.length:Int)<=c.most):zC (fun W'=>(∀ s,W s->W' s)) (fun W'=>Rw (c.aI c.stack.length) lk W' P) (fun W'=>gU (c.aI c.stack.length).stack W') (fun W'=>sY (c.aI c.stack.length).stack) (fun W'=>fK c (c.aI c.stack.length)):=by
 obtain⟨W',h1,h2,h3,h4,h5⟩:=uL (b:=c.stack.length - c.stack.length) x k hm c.stack.length (by lia);refine⟨W',h1,h2,h3,fun i e he=> ?_,h5⟩;have eA:=(List.getElem?_eq_some_iff.mp he).1;rw[CS.dA] at eA;exact (h4 i e he).1 (by lia) (by lia)
theorem Mq{st:List bL}(h:sY st):st=CS.dC st.length:=by
 apply List.ext_getElem?;intro i;unfold CS.dC;rw[List.getElem?_map];by_cases hi:i<st.length
 ·rw[List.getElem?_range hi,List.getElem?_eq_getElem hi]
  exact congrArg some (h i _ (List.getElem?_eq_getElem hi))
 ·rw[List.getElem?_eq_none (by lia),List.getElem?_eq_none (by simp;lia)];rfl
theorem yH{n:Nat}: sY (CS.dC n):=fun i e he=>by
 unfold CS.dC at he;rw[List.getElem?_map] at he;obtain⟨k,hk,rfl⟩:=Option.map_eq_some_iff.mp he;have:=(List.getElem?_eq_some_iff.mp hk);obtain⟨h1,h2⟩:=this;rw[List.getElem_range] at h2;rw[h2]
theorem xE{n:Nat}(h: ∀ s,bF n s->W s):gU (CS.dC n) W:=by
 refine⟨fun s h0 h4=>h s ⟨h0,by lia⟩,fun i e he=> ?_⟩;have eA:=(List.getElem?_eq_some_iff.mp he).1;have hl:(CS.dC n).length=n:=by simp [CS.dC]
 rw[yH i e he];exact .inr ⟨rfl,h _ ⟨by lia,by lia⟩⟩
theorem BM{b:Nat}{fh:Int}(x:Rw c lk W P)(k:gU c.stack W)(hf:0<=fh): ∀ n:Nat,fh+n<=c.most->b+n<=c.stack.length->∃ W',(∀ s,W s->W' s)/\Rw (c.kW b fh n) lk W' P/\(∀ i:Nat,i<n->W' (4+(fh+i)))/\fK c (c.kW b fh n)
 | 0,_,_=>⟨W,fun _ h=>h,x,fun _ h=>absurd h (by lia),.refl _⟩
 | n+1,h1,h2=>by
  obtain⟨W1,g1,g2,g3,g4⟩:=BM (b:=b) x k hf n (by lia) (by lia);have hl:b+n<c.stack.length:=by lia
  have he:(c.stack)[b+n]? = some c.stack[b+n]:=List.getElem?_eq_getElem hl;simp only[CS.kW,he];refine⟨_,fun s hs=>.inl (g1 s hs),g2.QA (((k.LQ _ _ he).bJ g1).ok (k.bJ g1)) (by lia) (by rw[g4.most];lia),fun i hi=> ?_,g4.trans vY⟩;by_cases uQ:i<n
  ·exact .inl (g3 i uQ)
  ·have:i=n:=by lia
   subst this;exact .inr rfl
end
theorem mL{op:Int}(h:op∈pP):op=106\/op=107\/op=108\/op=115\/op=118\/op=70\/op=73:=by
 simpa [pP] using h
theorem mZ{b:Bool}{p:Prop}(h:(!b)=true)(k:b=true):p:=by
 rw[k] at h;exact absurd h (by decide)
theorem iN{p:Int->Bool}{l:List Int}(h:l.all p=true){op:Int}(k:op∈l):p op=true:=List.all_eq_true.mp h op k
theorem KP{r:dZ}{rd wr lb:List Int}{go:Bool}(k:fJ r rd wr lb go)(h:fX r.op=true):A4 (go=true) (wr=[r.a]) (lb=[]) (∀ i,fJ ⟨r.op,i,r.b,r.c⟩ rd [i] [] true):=by
 induction k with
 | HQ=>exact⟨rfl,rfl,rfl,fun _=>.HQ⟩
 | const=>exact⟨rfl,rfl,rfl,fun _=>.const⟩
 | zM=>exact⟨rfl,rfl,rfl,fun _=>.zM⟩
 | lP kC=>exact⟨rfl,rfl,rfl,fun _=>.lP kC⟩
 | sX kC=>exact⟨rfl,rfl,rfl,fun _=>.sX kC⟩
 | @On op _ _ kC=>exact mZ (b:=fX op) (kC.elim (fun e=>e▸rfl) fun e=>e▸rfl) h
 | br kC=>exact mZ (iN (by decide:(AY.all fun op=> !fX op)=true) kC) h
 | Oc kC=>exact mZ (iN (by decide:(tW.all fun op=> !fX op)=true) kC) h
 | _=>exact mZ (b:=fX _) rfl h
inductive iA(W:Sl):Int×Arg×Int->Prop
 | num{n}: iA W (257,.i n,0)
 | pl{s}: W s->iA W (256,.i s,0)
 | zM{s}: W s->iA W (69,.i s,0)
 | lP{op s t}: op=70\/op=73->W s->W t->iA W (op,.i s,t)
 | sX{op s n}: op=70\/op=73->W s->iA W (16384+op,.i s,n)
theorem iA.Sp{W:Sl}{t:Int×Arg×Int}(h:iA W t):t.2.1.Sp:=by cases h<;>trivial
theorem iA.bJ{W W':Sl}{t:Int×Arg×Int}(k: ∀ s,W s->W' s)(h:iA W t):iA W' t:=by
 cases h with
 | num=>exact .num
 | pl h=>exact .pl (k _ h)
 | zM h=>exact .zM (k _ h)
 | lP a b c=>exact .lP a (k _ b) (k _ c)
 | sX a b=>exact .sX a (k _ b)
theorem WG{op:Int}{b:Bool}(h:(!b||(op==70||op==73))=true)(k:b=true):op=70\/op=73:=by
 rw[k] at h;exact (Bool.or_eq_true_iff.mp ((Bool.false_or _).symm.trans h)).imp eq_of_beq eq_of_beq
theorem KJ{r:dZ}{rd wr lb:List Int}{go:Bool}{K:Sl}(k:fJ r rd wr lb go)(h:CS.fV r.op=true)(hk: ∀ s∈rd,K s):A4 (go=true) (wr=[r.a]) (lb=[]) (iA K (r.op,r.b,r.c)):=by
 induction k with
 | zM=>exact⟨rfl,rfl,rfl,.zM (hk _ (.head _))⟩
 | lP kC=>exact⟨rfl,rfl,rfl,.lP (WG (iN (by decide:(pP.all fun op=> !CS.fV op||(op==70||op==73))=true) kC) h) (hk _ (.head _)) (hk _ (.tail _ (.head _)))⟩
 | sX kC=>exact⟨rfl,rfl,rfl,.sX (WG (iN (by decide:(pP.all fun op=> !CS.fV (16384+op)||(op==70||op==73))=true) kC) h) (hk _ (.head _))⟩
 | @On op _ _ kC=>exact mZ (b:=CS.fV op) (kC.elim (fun e=>e▸rfl) fun e=>e▸rfl) h
 | br kC=>exact mZ (iN (by decide:(AY.all fun op=> !CS.fV op)=true) kC) h
 | Oc kC=>exact mZ (iN (by decide:(tW.all fun op=> !CS.fV op)=true) kC) h
 | _=>exact mZ (b:=CS.fV _) rfl h
section
variable{c:CS}{lk:List Sl}{W W':Sl}{P P':Int->Prop}{rd wr lb:List Int}{go:Bool}
theorem Rw.drop{r:dZ}(x:Rw c lk W P)(hr:c.rows.getLast? = some r)(hf:c.fence<c.rows.length):Lk (fun K rd wr lb go=>Cg c.labels lk P c.most K W r rd wr lb go) (fun K rd wr lb go=>Rw { c with rows:=c.rows.dropLast } lk K P):=by
 obtain⟨ks,k⟩:=x;obtain⟨K,rd,wr,lb,go,h1,h2⟩:=k.drop hr hf;exact⟨K,rd,wr,lb,go,h1,_,h2⟩
theorem gU.BB{st:List bL}{K:Sl}(k:gU st W)(h: ∀ s,W s->K s\/s=4+st.length):gU st K:=by
 refine⟨fun s h0 h4=>(h s (k.aA s h0 h4)).elim id (fun q=>by lia),fun i e he=> ?_⟩;have eA:=(List.getElem?_eq_some_iff.mp he).1;have:=k.LQ i e he;cases e with
 | num n=>trivial
 | pl s=>exact this.imp id fun ⟨a,b⟩=>⟨a,(h s b).elim id (fun q=>by lia)⟩
theorem Fu{i:Int}(x:Rw c lk W P)(k:gU c.stack W)(hm:(c.stack.length:Int)<=c.most): ∀ n,n<=c.stack.length->∃ W',(∀ s,W s->W' s)/\Rw (c.cX i n) lk W' P/\gU (c.cX i n).stack W'/\fK c (c.cX i n)
 | 0,_=>⟨W,fun _ h=>h,x,k,.refl _⟩
 | n+1,hn=>by
  obtain⟨W1,h1,h2,h3,h5⟩:=Fu (i:=i) x k hm n (by lia);simp only[CS.cX];split
  ·obtain⟨g1,g2,g3,g4⟩:=DN (h:=n) h2 h3 (by rw[CS.lM];lia) (by rw[CS.lM,h5.most];exact hm)
   exact⟨_,fun s hs=>.inl (h1 s hs),g1,g2,h5.trans g4⟩
  ·exact⟨W1,h1,h2,h3,h5⟩
structure cu(x y:CS):Prop where
 labels:y.labels=x.labels
 fence:y.fence=x.fence
 frames:y.frames=x.frames
 most:y.most=x.most
 live:y.live=x.live
 skipped:y.skipped=x.skipped
 stack:y.stack.length=x.stack.length
set_option tactic.hygienic true in
theorem Kp{n i:Int}{e:bL}(x:Rw c lk W P)(k:gU c.stack W)(he:Cf W e)(hi:0<=i)(fq:i<4)(hm:0<=c.most):zB (fun W'=>Rw (c.jQ n i e) lk W' P) (fun W'=>gU (c.jQ n i e).stack W') (fun W'=>fK c (c.jQ n i e)):=by
 have plain:zB (fun W'=>Rw (c.kP i e) lk W' P) (fun W'=>gU (c.kP i e).stack W') (fun W'=>fK c (c.kP i e)):=
  ⟨_,x.QA he hi (by lia),by rw[CS.nW];exact k.bJ fun s hs=>.inl hs,vY⟩
 unfold CS.jQ;split
 ·rename_i r hr
  split at hr
  ·obtain⟨f1,f2,f3,f4⟩:=eK.mp hr
   split
   ·rename_i hg
    obtain⟨K,rd,wr,lb,go,ok,x1⟩:=x.drop f1 (by lia);obtain⟨rfl,rfl,rfl,k2⟩:=KP ok.hk hg;have mw: ∀ s,W s->K s\/s=4+c.stack.length:=fun s hs=>by
     rcases ok.RM rfl s hs with q|q
     ·exact .inl q
     ·rw[List.mem_singleton.mp q];exact .inr f4
    have kK:gU c.stack K:=k.BB mw;refine⟨zD K i,x1.aV (k2 i) ok.Ek (by simp;exact⟨hi,by show i<4+c.most;lia⟩) (by simp) (fun s hs=>.inl (by simpa [zD] using hs)),kK.bJ fun s hs=>.inl hs,⟨rfl,rfl,rfl,rfl,rfl,rfl⟩⟩
   ·exact plain
  ·cases hr
 ·exact plain
theorem yQ{i:Int}{e:bL}(x:Rw c lk W P)(k:gU c.stack W)(hm:(c.stack.length:Int)<=c.most)(he:jY W c.stack.length e)(hi:0<=i)(fq:i<4):zB (fun W'=>Rw (c.bY i e) lk W' P) (fun W'=>gU (c.bY i e).stack W') (fun W'=>fK c (c.bY i e)):=by
 unfold CS.bY;obtain⟨W1,h1,h2,h3,h4⟩:=Fu (i:=i) x k hm c.stack.length (Nat.le_refl _);obtain⟨W2,g1,g2,g3⟩:=Kp (n:=c.kQ i c.stack.length) (i:=i) (e:=e) h2 h3 ((he.bJ h1).ok (k.bJ h1)) hi fq (by rw[h4.most];lia);exact⟨W2,g1,g2,h4.trans g3⟩
theorem lU{e:bL}: A7 ((c.aE e).1.labels=c.labels) ((c.aE e).1.fence=c.fence) ((c.aE e).1.frames=c.frames) ((c.aE e).1.most=c.most) ((c.aE e).1.live=c.live) ((c.aE e).1.skipped=c.skipped) ((c.aE e).1.stack=c.stack):=by
 unfold CS.aE;split
 ·split<;>exact⟨rfl,rfl,rfl,rfl,rfl,rfl,rfl⟩
 ·exact⟨rfl,rfl,rfl,rfl,rfl,rfl,rfl⟩
set_option tactic.hygienic true in
theorem Du{e:bL}(x:Rw c lk W P)(k:gU c.stack W)(he:jY W c.stack.length e):zB (fun W'=>Rw (c.aE e).1 lk W' P) (fun W'=>gU (c.aE e).1.stack W') (fun W'=>iA W' (c.aE e).2):=by
 have plain:iA W (CS.gB e):=by
  cases e with
  | num n=>exact .num
  | pl s=>exact .pl (he.ok k)
 unfold CS.aE;split
 ·rename_i r hr
  obtain⟨f1,f2,f3,f4⟩:=eK.mp hr;split
  ·rename_i hg
   obtain⟨K,rd,wr,lb,go,ok,x1⟩:=x.drop f1 (by lia);obtain⟨rfl,rfl,rfl,k2⟩:=KJ ok.hk hg ok.Ek;refine⟨K,x1,k.BB fun s hs=> ?_,k2⟩;rcases ok.RM rfl s hs with q|q
   ·exact .inl q
   ·rw[List.mem_singleton.mp q];exact .inr f4
  ·exact⟨W,x,k,plain⟩
 ·exact⟨W,x,k,plain⟩
theorem CS.J6{x:CS}{op n c:Int}{s:Bool}{l:Int}: ∃ R,x.branch op n c s l= { x with rows:=R }:=by
 unfold CS.branch
 repeat' split
 all_goals exact⟨_,rfl⟩
theorem qX{op n q:Int}{s:Bool}{l:Int}: A7 ((c.branch op n q s l).labels=c.labels) ((c.branch op n q s l).fence=c.fence) ((c.branch op n q s l).frames=c.frames) ((c.branch op n q s l).most=c.most) ((c.branch op n q s l).live=c.live) ((c.branch op n q s l).skipped=c.skipped) ((c.branch op n q s l).stack=c.stack):=by
 obtain⟨R,e⟩:=CS.J6 (x:=c) (op:=op) (n:=n) (c:=q) (s:=s) (l:=l);rw[e];exact⟨rfl,rfl,rfl,rfl,rfl,rfl,rfl⟩
theorem wU{t:Int×Arg×Int}{s:Bool}{l:Int}(x:Rw c lk W P)(ht:iA W t)(hl:eS c.labels lk P W l):Rw (c.branch t.1 t.2.1.n t.2.2 s l) lk W P:=by
 have same: ∀ s,W s->(W s\/s∈([]:List Int))\/(true=false/\0<=s/\s<4+c.most):=fun s h=>.inl (.inl h);have Oi: ∀ i∈[l],eS c.labels lk P W i:=fun i hi=>by rw[List.mem_singleton.mp hi];exact hl
 cases ht with
 | num=>
  show Rw (if (257:Int)=257 then _ else _) lk W P;rw[if_pos rfl];split
  ·exact x.aV .HG (by simp) (by simp) Oi (fun s h=>.inl (.inl h))
  ·exact x
 | pl h=>
  show Rw (if (256:Int)=257 then _ else if (256:Int)=256 then _ else _) lk W P;rw[if_neg (by decide),if_pos rfl];refine x.aV (.On ?_) (by simpa [Arg.n] using h) (by simp) Oi same;cases s
  ·exact .inr rfl
  ·exact .inl rfl
 | zM h=>
  show Rw (if (69:Int)=257 then _ else if (69:Int)=256 then _ else if (69:Int)=69\/(69:Int)=80 then _ else _) lk W P;rw[if_neg (by decide),if_neg (by decide),if_pos (.inl rfl)];refine x.aV (.On ?_) (by simpa [Arg.n] using h) (by simp) Oi same;cases s
  ·exact .inl rfl
  ·exact .inr rfl
 | lP kC h1 h2=>
  rcases kC with rfl|rfl
  ·refine x.aV (.br ?_) (by simpa [Arg.n] using ⟨h1,h2⟩) (by simp) Oi same
   cases s<;>(dsimp only;decide)
  ·refine x.aV (.br ?_) (by simpa [Arg.n] using ⟨h1,h2⟩) (by simp) Oi same
   cases s<;>(dsimp only;decide)
 | sX kC h1=>
  rcases kC with rfl|rfl
  ·refine x.aV (.Oc ?_) (by simpa [Arg.n] using h1) (by simp) Oi same
   cases s<;>(dsimp only;decide)
  ·refine x.aV (.Oc ?_) (by simpa [Arg.n] using h1) (by simp) Oi same
   cases s<;>(dsimp only;decide)
end
section
variable{c:CS}{lk:List Sl}{W W':Sl}{P P':Int->Prop}{rd wr lb:List Int}{go:Bool}
theorem xX{h:Nat}{e:bL}(x:Rw c lk W P)(k:gU c.stack W)(he:jY W h e)(hm:(h:Int)<c.most):zC (fun W'=>(∀ s,W s->W' s)) (fun W'=>Rw (c.bN h e).1 lk W' P) (fun W'=>W' (c.bN h e).2) (fun W'=>fK c (c.bN h e).1) (fun W'=>(c.bN h e).1.stack=c.stack):=by
 cases e with
 | num n=>exact⟨zD W (4+h),fun s hs=>.inl hs,x.aV .const (by simp) (by simp;lia) (by simp) (fun s hs=>.inl (by simpa [zD] using hs)),.inr rfl,⟨rfl,rfl,rfl,rfl,rfl,rfl⟩,rfl⟩
 | pl s=>exact⟨W,fun _ h=>h,x,he.ok k,.refl _,rfl⟩
structure qD(c y:CS)(lk:List Sl)(P:Int->Prop):Prop where
 ex: ∃ W,Rw y lk W P/\gU y.stack W
 labels:y.labels=c.labels
 fence:y.fence=c.fence
 frames:y.frames=c.frames
 live:y.live=c.live
 skipped:y.skipped=c.skipped
 most:c.most<=y.most
 gW:y.most<=c.most+1
 len:(y.stack.length:Int)<=y.most
theorem qD.of{y:CS}(s:fK c y)(x:Rw y lk W P)(k:gU y.stack W)(hl:(y.stack.length:Int)<=c.most):qD c y lk P:=
 ⟨⟨W,x,k⟩,s.labels,s.fence,s.frames,s.live,s.skipped,by rw[s.most];exact Int.le_refl _,by rw[s.most];lia,by rw[s.most];exact hl⟩
theorem Ac{op:Int}{b:Arg}{q:Int}{n:Int}(x:Rw c lk W P)(k:gU c.stack W)(hm:(c.stack.length:Int)<=c.most)(kd:fJ ⟨op,4+c.stack.length,b,q⟩ rd [4+c.stack.length] [] true)(Ek: ∀ s∈rd,W s)(hn:n=4+c.stack.length):
  qD c (c.aZ.aV op n b q) lk P/\(c.aZ.aV op n b q).stack.length=c.stack.length+1:=by
 subst hn;have x1:Rw c.aZ lk W P:=x.push;have pw:(c.aZ.stack.length:Int)<=c.aZ.most:=DB (c:=c) (e:=.pl (4+c.stack.length));have hl:c.aZ.stack.length=c.stack.length+1:=by simp [CS.aZ,CS.push]
 have qa:(c.stack.length:Int)+1<=c.aZ.most:=by lia
 refine⟨⟨⟨zD W (4+c.stack.length),x1.aV kd Ek (by simp;lia) (by simp) (fun s hs=>.inl (by simpa [zD] using hs)),?_⟩,rfl,rfl,rfl,rfl,rfl,?_,BY (e:=.pl (4+c.stack.length)) hm,pw⟩,hl⟩
 ·exact (k.bJ fun s hs=>.inl hs).push (.inr ⟨rfl,.inr rfl⟩)
 ·show c.most<=c.aZ.most
  unfold CS.aZ CS.push;dsimp only;split<;>lia
theorem qD.uO{y z:CS}(s:fK c y)(g:qD y z lk P):qD c z lk P:=
 ⟨g.ex,g.labels.trans s.labels,g.fence.trans s.fence,g.frames.trans s.frames,g.live.trans s.live,g.skipped.trans s.skipped,by rw[<- s.most];exact g.most,by rw[<- s.most];exact g.gW,g.len⟩
theorem TI{e:bL}(x:Rw c lk W P)(k:gU c.stack W)(hm:(c.stack.length:Int)<c.most)(he:jY W c.stack.length e):qD c (c.B8 69 e) lk P/\(c.B8 69 e).stack.length=c.stack.length+1:=by
 obtain⟨W1,h1,h2,h3,h4,h5⟩:=xX x k he hm;have:=Ac (c:=(c.bN c.stack.length e).1) (op:=69) (b:=.i (c.bN c.stack.length e).2) (q:=0) (n:=4+(c.bN c.stack.length e).1.stack.length) h2 (by rw[h5];exact k.bJ h1) (by rw[h5,h4.most];lia) .zM (by simpa using h3) rfl;exact⟨this.1.uO h4,by have:=this.2;rw[h5] at this;exact this⟩
theorem Tv{op:Int}{e1 e2:bL}(x:Rw c lk W P)(k:gU c.stack W)(hm:(c.stack.length:Int)+1<c.most+1)(Yv:jY W c.stack.length e1)(FD:jY W (c.stack.length+1) e2)(kC:op∈pP):qD c (c.lP op e1 e2) lk P/\(c.lP op e1 e2).stack.length=c.stack.length+1:=by
 have Vb:=FD.ok k;unfold CS.lP;split
 ·rename_i hc
  cases e2 with
  | num n=>simp [bL.tL] at hc
  | pl s=>exact Ac x k (by lia) (.sX kC) (by simpa [bL.n,Cf] using Vb) rfl
 ·obtain⟨W1,h1,h2,h3,h4,h5⟩:=xX x k Yv (by lia)
  have kd:dO (fun rd=>fJ ⟨if e2.tL then 16384+op else op,4+(c.bN c.stack.length e1).1.stack.length,.i (c.bN c.stack.length e1).2,e2.n⟩ rd [4+(c.bN c.stack.length e1).1.stack.length] [] true) (fun rd=>∀ s∈rd,W1 s):=by
   cases e2 with
   | num n=>exact⟨_,.sX kC,by simpa using h3⟩
   | pl s=>exact⟨_,.lP kC,by simpa [bL.n,Cf] using ⟨h3,h1 _ Vb⟩⟩
  obtain⟨rd,kd,Ek⟩:=kd;have:=Ac (c:=(c.bN c.stack.length e1).1) h2 (by rw[h5];exact k.bJ h1) (by rw[h5,h4.most];lia) kd Ek rfl;exact⟨this.1.uO h4,by have:=this.2;rw[h5] at this;exact this⟩
theorem gU.Il{c:CS}(k:gU c.stack W): ∀ n,gU (c.bX n).stack W
 | 0=>k
 | n+1=>(gU.Il k n).pop
theorem kZ: ∀ n,fK c (c.bX n)/\(c.bX n).rows=c.rows
 | 0=>⟨.refl _,rfl⟩
 | n+1=>⟨(kZ n).1.trans ⟨rfl,rfl,rfl,rfl,rfl,rfl⟩,(kZ n).2⟩
theorem Rw.Il(x:Rw c lk W P)(n:Nat):Rw (c.bX n) lk W P:=by
 obtain⟨s,r⟩:=kZ (c:=c) n;unfold Rw at *;rw[r,s.labels,s.fence,s.most];exact x
theorem Bo{many:Nat}(x:Rw c lk W P)(k:gU c.stack W)(hm:(c.stack.length:Int)<=c.most)(hl:many<=c.stack.length):UX (fun W'=>(∀ s,W s->W' s)) (fun W'=>Rw ((c.aI many).bX many) lk W' P) (fun W'=>gU ((c.aI many).bX many).stack W') (fun W'=>(∀ i:Nat,c.stack.length - many<=i->i<c.stack.length->W' (4+i))) (fun W'=>fK c ((c.aI many).bX many)) (fun W'=>((c.aI many).bX many).stack.length=c.stack.length - many):=by
 obtain⟨W1,h1,h2,h3,h4,h5⟩:=uL (b:=c.stack.length - many) x k hm many (by lia);have bE:(c.aI many).stack.length=c.stack.length:=CS.dA;refine⟨W1,h1,h2.Il many,gU.Il (c:=c.aI many) h3 many,fun i hi hil=> ?_,h5.trans (kZ many).1,by rw[CS.mV,bE]⟩;have he:=List.getElem?_eq_getElem (l:=(c.aI many).stack) (i:=i) (by lia);have e1:=(h4 i _ he).1 hi (by lia);have e2:=h3.LQ i _ he;rw[e1] at e2;rcases e2 with e2|e2
 ·lia
 ·exact e2.2
theorem Ia(x:Rw c lk W P)(k:gU c.stack W)(hm:(c.stack.length:Int)<=c.most)(hl:2<=c.stack.length):qD c (c.call 0 2 2) lk P/\(c.call 0 2 2).stack.length=c.stack.length:=by
 obtain⟨W1,h1,h2,h3,h4,h5,h6⟩:=Bo (many:=2) x k hm hl;have SM:=h4 (c.stack.length - 2) (Nat.le_refl _) (RU (b:=0) hl (by decide));have PQ:=h4 (c.stack.length - 2+1) (Nat.le_succ _) (RU hl (by decide));have e1:(4:Int)+((c.stack.length - 2+1:Nat):Int)=4+((c.stack.length - 2:Nat):Int)+1:=(Int.add_assoc 4 ((c.stack.length - 2:Nat):Int) 1).symm;rw[e1] at PQ;unfold CS.call;generalize hy:(c.aI 2).bX 2=y at *;have hw:=h2.wb;have Mk:(y.push (.pl (4+y.stack.length))).stack.length=y.stack.length+1:=by simp [CS.push]
 have x3:Rw (y.aV 263 0 (.i (4+(c.stack.length - 2:Nat))) 0) lk W1 P:=h2.aV .call (by simpa using ⟨SM,PQ⟩) (by
  intro s hs;simp only[List.mem_cons,List.not_mem_nil,or_false] at hs;rcases hs with rfl|rfl
  ·exact hw _ SM
  ·exact hw _ PQ) (by simp) (fun s hs=>.inl (.inl hs))
 have UG:=h5.most;show qD c (((y.aV 263 0 (.i (4+(c.stack.length - 2:Nat))) 0).aZ).aZ) lk P/\(((y.aV 263 0 (.i (4+(c.stack.length - 2:Nat))) 0).aZ).aZ).stack.length=c.stack.length;have k3:gU (y.stack++[.pl (4+y.stack.length)]) W1:=h3.push (.inr ⟨rfl,by rw[h6];exact SM⟩);have k4:gU (y.stack++[.pl (4+y.stack.length)]++[.pl (4+(y.stack.length+1:Nat))]) W1:=k3.push (.inr ⟨by simp,by
  rw[h6];rw[<- e1] at PQ;exact PQ⟩)
 have tJ:(((y.aV 263 0 (.i (4+(c.stack.length - 2:Nat))) 0).aZ).aZ).stack=y.stack++[.pl (4+y.stack.length)]++[.pl (4+(y.stack.length+1:Nat))]:=by
  show (y.stack++[.pl (4+y.stack.length)])++[.pl (4+((y.stack++[bL.pl (4+y.stack.length)]).length:Int))]=_;rw[List.length_append];rfl
 have hq:((y.stack.length+2:Nat):Int)<=y.most:=by rw[UG,h6,Nat.sub_add_cancel hl];exact hm
 have p1:(y.aV 263 0 (.i (4+(c.stack.length - 2:Nat))) 0).aZ.most=y.most:=if_neg (Int.not_lt.mpr (Int.le_trans (Int.ofNat_le.mpr (Nat.le_succ (y.stack.length+1))) hq));have eE:(((y.aV 263 0 (.i (4+(c.stack.length - 2:Nat))) 0).aZ).aZ).most=c.most:=by
  refine (if_neg (Int.not_lt.mpr ?_)).trans (p1.trans UG);rw[p1];show ((y.stack++[_]).length:Int)+1<=_;rw[List.length_append];exact hq
 refine⟨⟨⟨W1,(x3.push).push,by rw[tJ];exact k4⟩,h5.labels,h5.fence,h5.frames,h5.live,h5.skipped,by rw[eE];exact Int.le_refl _,by rw[eE];exact V2,by rw[eE,tJ,List.length_append,List.length_append,<- UG];exact hq⟩,by rw[tJ,List.length_append,List.length_append];exact h6▸Nat.sub_add_cancel hl⟩
theorem DL(x:Rw c lk W P)(k:gU c.stack W)(hm:(c.stack.length:Int)<=c.most)(hl:3<=c.stack.length):qD c (c.cG c.dB) lk P/\(c.cG c.dB).stack.length=c.stack.length - 2:=by
 unfold CS.cG;have Ej:c.pop.stack.length=c.stack.length - 1:=by simp [CS.pop]
 have Ve:c.pop.pop.stack.length=c.stack.length - 2:=by simp [CS.pop];lia
 cases qi:c.dB with
 | pl s=>
  dsimp only;obtain⟨W1,h1,h2,h3,h4,h5,h6⟩:=Bo (many:=3) x k hm hl;have SM:=h4 (c.stack.length - 3) (Nat.le_refl _) (RU (b:=0) hl (by decide));have PQ:=h4 (c.stack.length - 3+1) (Nat.le_succ _) (RU hl (by decide));have MZ:=h4 (c.stack.length - 3+2) (Nat.le_add_right _ _) (RU hl (by decide));have e1:(4:Int)+((c.stack.length - 3+1:Nat):Int)=4+((c.stack.length - 3:Nat):Int)+1:=(Int.add_assoc 4 ((c.stack.length - 3:Nat):Int) 1).symm;have e2:(4:Int)+((c.stack.length - 3+2:Nat):Int)=4+((c.stack.length - 3:Nat):Int)+2:=(Int.add_assoc 4 ((c.stack.length - 3:Nat):Int) 2).symm;rw[e1] at PQ;rw[e2] at MZ;generalize (c.aI 3).bX 3=y at *;have x3:Rw (y.aV 258 (4+(c.stack.length - 3:Nat)) (.i 0) 0) lk W1 P:=h2.aV .cG (by simpa using ⟨SM,PQ,MZ⟩) (by simpa using h2.wb _ SM) (by simp) (fun s hs=>.inl (.inl hs));have UG:=h5.most;have eE:((y.aV 258 (4+(c.stack.length - 3:Nat)) (.i 0) 0).aZ).most=c.most:=by
   show (if (y.stack.length:Int)+1>y.most then _ else y.most)=_;rw[if_neg (by lia),UG]
  have tJ:((y.aV 258 (4+(c.stack.length - 3:Nat)) (.i 0) 0).aZ).stack=y.stack++[.pl (4+y.stack.length)]:=rfl;refine⟨⟨⟨W1,x3.push,by rw[tJ];exact h3.push (.inr ⟨rfl,by rw[h6];exact SM⟩)⟩,h5.labels,h5.fence,h5.frames,h5.live,h5.skipped,by rw[eE];exact Int.le_refl _,by rw[eE];exact V2,by rw[eE,tJ,List.length_append];exact Int.le_trans (Int.ofNat_le.mpr (Nat.le_of_lt (by rw[h6];exact RU (b:=1) hl (by decide)))) hm⟩,by rw[tJ,List.length_append];rw[h6];exact V1 hl⟩
 | num n=>
  dsimp only;have kp:gU c.pop.stack W:=k.pop;have ja:gU c.pop.pop.stack W:=kp.pop;have ut:Rw c.pop.pop lk W P:=x;have Xf:jY W (c.stack.length - 2) c.pop.dB:=by
   have:=kp.dB (by lia);rw[Ej] at this;rw[Nat.sub_sub] at this;exact this
  have qj:c.pop.stack.getLast?.getD (.num 0)=c.pop.dB:=rfl;rw[qj];unfold CS.xV;split
  ·
   have RO:c.pop.pop.pop.stack.length=c.stack.length - 3:=by simp [CS.pop];lia
   have k3:gU c.pop.pop.pop.stack W:=ja.pop;have x3:Rw c.pop.pop.pop lk W P:=x;unfold CS.lH;split
   ·rename_i Pg
    have ii:W (4+((c.pop.pop.pop.stack.length:Int)+1)):=by
     have:=Xf.ok k;rw[Pg] at this;exact this
    have x4:=x3.QA (slot:=4+c.pop.pop.pop.stack.length) (e:=c.pop.dB) (Xf.ok k) (by lia) (by show _<4+c.most;lia);have s4:=vY (c:=c.pop.pop.pop) (s:=4+c.pop.pop.pop.stack.length) (e:=c.pop.dB);have jy:(c.pop.pop.pop.kP (4+c.pop.pop.pop.stack.length) c.pop.dB).stack=c.pop.pop.pop.stack:=CS.nW;have tJ:((c.pop.pop.pop.kP (4+c.pop.pop.pop.stack.length) c.pop.dB).push (.pl (4+c.pop.pop.pop.stack.length))).stack=c.pop.pop.pop.stack++[.pl (4+c.pop.pop.pop.stack.length)]:=by
     show (CS.kP _ _ _).stack++_=_;rw[jy]
    have eE:((c.pop.pop.pop.kP (4+c.pop.pop.pop.stack.length) c.pop.dB).push (.pl (4+c.pop.pop.pop.stack.length))).most=c.most:=by
     show (if ((CS.kP _ _ _).stack.length:Int)+1>(CS.kP _ _ _).most then _ else (CS.kP _ _ _).most)=_;rw[jy,s4.most];exact if_neg (by show ¬ (_>c.most);lia)
    refine⟨⟨⟨_,x4.push,by rw[tJ];exact (k3.bJ fun s hs=>.inl hs).push (.inr ⟨rfl,.inr rfl⟩)⟩,s4.labels,s4.fence,s4.frames,s4.live,s4.skipped,by rw[eE];exact Int.le_refl _,by rw[eE];exact V2,by rw[eE,tJ,List.length_append];exact Int.le_trans (Int.ofNat_le.mpr (Nat.le_of_lt (by rw[RO];exact RU (b:=1) hl (by decide)))) hm⟩,by rw[tJ,List.length_append];rw[RO];exact V1 hl⟩
   ·rename_i Pg
    have bm:jY W c.pop.pop.pop.stack.length c.pop.dB:=by
     cases he:c.pop.dB with
     | num n=>trivial
     | pl s=>
      rw[he] at Xf Pg;rcases Xf with q|⟨q,_⟩
      ·exact .inl q
      ·exfalso;apply Pg;rw[q,RO];congr 1;lia
    have tJ:(c.pop.pop.pop.push c.pop.dB).stack=c.pop.pop.pop.stack++[c.pop.dB]:=rfl;have eE:(c.pop.pop.pop.push c.pop.dB).most=c.most:=by
     show (if (c.pop.pop.pop.stack.length:Int)+1>c.most then _ else c.most)=_;rw[if_neg (by lia)]
    refine⟨⟨⟨W,x3.push,by rw[tJ];exact k3.push bm⟩,rfl,rfl,rfl,rfl,rfl,by rw[eE];exact Int.le_refl _,by rw[eE];exact V2,by rw[eE,tJ,List.length_append];exact Int.le_trans (Int.ofNat_le.mpr (Nat.le_of_lt (by rw[RO];exact RU (b:=1) hl (by decide)))) hm⟩,by rw[tJ,List.length_append];rw[RO];exact V1 hl⟩
  ·exact⟨⟨⟨W,ut,ja⟩,rfl,rfl,rfl,rfl,rfl,Int.le_refl _,V2,by rw[Ve];show _<=c.most;lia⟩,Ve⟩
end
structure pS(labels:List Int)(lk:List Sl)(most:Int)(p:Nat×Bool)(f:Fr)(hh pp rr el:Nat):Prop where
 kO:f.code=3↔p.2=true
 many:f.many=(p.1:Int)
 aC:f.aC=(hh:Int)
 params:f.params=(pp:Int)
 aU:f.aU=(rr:Int)
 eU:f.eU=some (el:Int)
 gP:lk[el]? = some (bF (hh+rr))
 le:pp<=2/\rr<=2
 fit:(hh+pp:Int)<=most
 Q3:f.code=3->∃ bl q:Nat,f.begL=some (bl:Int)/\lk[bl]? = some (bF (hh+pp))/\labels[bl]? = some (q:Int)
 nO: ∀ l,f.elseL=some l->∃ e:Nat,l=(e:Int)/\lk[e]? = some (bF (hh+pp))
structure cF(frames:List Fr)(labels:List Int)(lk:List Sl)(most:Int)(L:List (Nat×Bool)):Prop where
 len:frames.length=L.length
 ok: ∀ (k:Nat) p f,L[k]? = some p->frames[k]? = some f->Jp fun hh pp rr el=>pS labels lk most p f hh pp rr el
 bJ: ∀ (i j:Nat) f g,i<=j->frames[i]? = some f->frames[j]? = some g->f.aC<=g.aC
 zero: ∀ f,frames[0]? = some f->f.aC=0
noncomputable def bT(frames:List Fr)(l:Int):Prop:=∃ f∈frames,(f.used=true/\f.eU=some l)\/f.elseL=some l
noncomputable def Dc(x:CS):Prop:=x.fence<x.rows.length/\∃ r,x.rows.getLast? = some r/\∀ rd wr lb go,fJ r rd wr lb go->go=false
structure At(x:CS)(n:Nat)(L:List (Nat×Bool))(h:Option Nat):Prop where
 rows:CB (fun lk W=>Rw x lk W (bT x.frames)) (fun lk _=>cF x.frames x.labels lk x.most L) (fun _ W=>x.live=true->gU x.stack W)
 skip:x.skipped=0
 high:x.live=true->∃ hh:Nat,h=some hh/\(x.stack.length:Int)=x.aF.aC+hh
 below:x.live=true->∀ i:Nat,(i:Int)<x.aF.aC->x.stack[i]? = some (.pl (4+i))
 stop:x.live=false->Dc x
 most:(x.stack.length:Int)<=x.most
 gW:x.most+x.frames.length<=n+3
 size:x.size<=262*(n+1)
 fence:0<=x.fence
noncomputable def cK(m:Int)(c y:CS):Prop:=∀ i:Nat,(i:Int)<m->c.stack[i]? = some (.pl (4+i))->y.stack[i]? = some (.pl (4+i))
theorem cK.trans{m:Int}{x y z:CS}(a:cK m x y)(b:cK m y z):cK m x z:=fun i hi h=>b i hi (a i hi h)
theorem cK.of_eq{m:Int}{x y:CS}(h:y.stack=x.stack):cK m x y:=fun i _ hi=>by rw[h];exact hi
theorem cK.iB{m:Int}{x y:CS}{e:List bL}(h:y.stack=x.stack++e):cK m x y:=fun i _ hi=>by
 rw[h,List.getElem?_append_left (List.getElem?_eq_some_iff.mp hi).1];exact hi
theorem cK.pop{m:Int}{x:CS}(h:m<x.stack.length):cK m x x.pop:=fun i hm hi=>by
 show x.stack.dropLast[i]? = _;rw[List.getElem?_dropLast,if_pos (by lia)];exact hi
theorem cK.drop{m:Int}{x:CS}: ∀ n:Nat,m<=x.stack.length - n->cK m x (x.bX n)
 | 0,_=>.of_eq rfl
 | n+1,h=>(cK.drop n (by lia)).trans (.pop (by rw[CS.mV];lia))
theorem cK.cB{m:Int}{x:CS}{h:Nat}: cK m x (x.cB h):=fun i hm hi=>by
 by_cases hl:h<x.stack.length
 ·rw[(wH (List.getElem?_eq_getElem hl)).1]
  by_cases e:h=i
  ·subst e;rw[List.getElem?_set_self hl]
  ·rw[List.getElem?_set_ne e];exact hi
 ·have e:x.cB h=x:=by
   unfold CS.cB;rw[List.getElem?_eq_none (Nat.le_of_not_lt hl)]
  rw[e];exact hi
theorem cK.dY{m:Int}{x:CS}{b:Nat}: ∀ n,cK m x (x.dY b n)
 | 0=>.of_eq rfl
 | n+1=>(cK.dY n).trans .cB
theorem cK.cX{m:Int}{x:CS}{i:Int}: ∀ n,cK m x (x.cX i n)
 | 0=>.of_eq rfl
 | n+1=>by
  simp only[CS.cX];split
  ·exact (cK.cX n).trans .cB
  ·exact cK.cX n
theorem cK.bY{m:Int}{x:CS}{i:Int}{e:bL}: cK m x (x.bY i e):=
 (cK.cX x.stack.length).trans (.of_eq CS.yP.2)
section
variable{x y:CS}{n:Nat}{L:List (Nat×Bool)}{h:Option Nat}
theorem At.Vv(a:At x n L h){n':Nat}(hn:n<=n'):At x n' L h:=
 ⟨a.rows,a.skip,a.high,a.below,a.stop,a.most,by have:=a.gW;lia,by have:=a.size;lia,a.fence⟩
theorem At.J8(a:At x n L h)(hd:x.live=false){h':Option Nat}: At x n L h':=
 ⟨a.rows,a.skip,(fun q=>by rw[hd] at q;cases q),(fun q=>by rw[hd] at q;cases q),a.stop,a.most,a.gW,a.size,a.fence⟩
theorem At.next(a:At x n L h)(hl:x.live=true){hh:Nat}(g: ∀ lk W,Rw x lk W (bT x.frames)->gU x.stack W->qD x y lk (bT x.frames))(bE:(y.stack.length:Int)=x.aF.aC+hh)(hk:cK x.aF.aC x y)(hz:y.size<=x.size+x.stack.length+16)(hn:n<=236):At y (n+1) L (some hh):=by
 obtain⟨lk,W,h1,h2,h3⟩:=a.rows;have gg:=g lk W h1 (h3 hl);obtain⟨W',g1,g2⟩:=gg.ex;have VP:y.aF=x.aF:=by unfold CS.aF;rw[gg.frames]
 refine⟨⟨lk,W',by rw[gg.frames];exact g1,?_,fun _=>g2⟩,gg.skipped.trans a.skip,fun _=>⟨hh,rfl,by rw[VP];exact bE⟩,fun _ i hi=>by rw[VP] at hi;exact hk i hi (a.below hl i hi),(fun q=>by rw[gg.live,hl] at q;cases q),gg.len,?_,?_,by rw[gg.fence];exact a.fence⟩
 ·rw[gg.frames,gg.labels]
  exact⟨h2.len,fun k p f hp hf=>by
   obtain⟨hh,pp,rr,el,ok⟩:=h2.ok k p f hp hf;exact⟨hh,pp,rr,el,{ ok with fit:=Int.le_trans ok.fit gg.most }⟩,h2.bJ,h2.zero⟩
 ·rw[gg.frames];have:=gg.gW;have:=a.gW;push_cast;lia
 ·have:=a.size;have:=a.most;have:=a.gW;lia
theorem qD.pop{lk:List Sl}{P:Int->Prop}(g:qD x.pop y lk P):qD x y lk P:=⟨g.ex,g.labels,g.fence,g.frames,g.live,g.skipped,g.most,g.gW,g.len⟩
theorem lJ{i:aR}(hd:x.live=false)(hs:x.skipped=0/\i.code≠5/\i.code≠11\/0<x.skipped):x.qC i=true:=by
 unfold CS.qC;rw[hd];rcases hs with⟨h0,h5,T5⟩|h
 ·have e5:(i.code==5)=false:=by simpa using h5
  have T4:(i.code==11)=false:=by simpa using T5
  rw[e5,T4];simp
 ·have:decide (x.skipped>0)=true:=decide_eq_true (by lia)
  rw[this];rfl
noncomputable def CS.sk(x:CS)(k:Int):CS:= { x with skipped:=k }
theorem sO{i:aR}{r:List aR}{P:CS->Prop}(hs:x.qC i=true)(hz:x.size+x.stack.length<90000)(hf:0<=x.fence)(w:CS.wp P r (x.skip i)):CS.wp P (i::r) x:=by
 refine⟨⟨hz,hf,(fun q=>by rw[hs] at q;cases q)⟩,fun adr=> ?_⟩;unfold CS.take;rw[if_pos hs];exact w
theorem PG{code:List aR}(b:tQ code): ∀ {x:CS} {P:CS->Prop},x.live=false->0<=x.skipped->x.size+x.stack.length<90000->0<=x.fence->P x->CS.wp P code x:=by
 induction b with
 | nil=>exact fun _ _ _ _ hp=>hp
 | iB _ _ i1 i2=>
  intro x P hd hs hz hf hp;rw[CS.gT];exact i1 hd hs hz hf (i2 hd hs hz hf hp)
 | plain h2 h3 h4 h5 T5=>
  intro x P hd hs hz hf hp;refine sO (lJ hd (by lia)) hz hf ?_;unfold CS.skip CS.N4;rw[if_neg (by simp [h2,h3,h4]),if_neg T5];exact hp
 | @Ob i a hi _ ih=>
  intro x P hd hs hz hf hp;refine sO (lJ hd (by lia)) hz hf ?_;have e1:x.skip i=x.sk (x.skipped+1):=by
   unfold CS.skip CS.N4 CS.sk;rw[if_pos (by rcases hi with h|h|h<;>simp [h])]
  rw[e1,CS.gT];refine ih (x:=x.sk (x.skipped+1)) hd (by show 0<=x.skipped+1;lia) hz hf ?_;refine sO (lJ hd (.inr (by show 0<x.skipped+1;lia))) hz hf ?_;have e2:(x.sk (x.skipped+1)).skip .cV=x:=by
   show ({ x with skipped:=x.skipped+1 - 1 }: CS)=x;have:x.skipped+1 - 1=x.skipped:=by lia
   rw[this]
  rw[e2];exact hp
 | @nO m a b _ _ i1 i2=>
  intro x P hd hs hz hf hp;refine sO (lJ hd (by simp [aR.code];lia)) hz hf ?_;have e1:x.skip (.iff m)=x.sk (x.skipped+1):=rfl;rw[e1,CS.gT];refine i1 (x:=x.sk (x.skipped+1)) hd (by show 0<=x.skipped+1;lia) hz hf ?_;refine sO (lJ hd (.inr (by show 0<x.skipped+1;lia))) hz hf ?_;have e3:(x.sk (x.skipped+1)).skip .nO=x.sk (x.skipped+1):=rfl;rw[e3,CS.gT];refine i2 (x:=x.sk (x.skipped+1)) hd (by show 0<=x.skipped+1;lia) hz hf ?_;refine sO (lJ hd (.inr (by show 0<x.skipped+1;lia))) hz hf ?_;have e2:(x.sk (x.skipped+1)).skip .cV=x:=by
   show ({ x with skipped:=x.skipped+1 - 1 }: CS)=x;have:x.skipped+1 - 1=x.skipped:=by lia
   rw[this]
  rw[e2];exact hp
theorem At.fits(a:At x n L h)(hn:n<=236):x.size+x.stack.length<90000:=by
 have:=a.size;have:=a.most;have:=a.gW;lia
end
noncomputable def Fr.lB(f g:Fr):Prop:=g= { f with used:=g.used }
noncomputable def bG(x y:CS):Prop:=y.frames.length=x.frames.length/\∀ (k:Nat) f,x.frames[k]? = some f->∃ g,y.frames[k]? = some g/\f.lB g
theorem bG.refl(x:CS):bG x x:=⟨rfl,fun _ f h=>⟨f,h,rfl⟩⟩
theorem bG.of_eq{x y:CS}(h:y.frames=x.frames):bG x y:=⟨by rw[h],fun _ f hf=>⟨f,by rw[h];exact hf,rfl⟩⟩
theorem Fr.lB.trans{f g h:Fr}(p:f.lB g)(q:g.lB h):f.lB h:=by
 unfold Fr.lB at *;rw[q,p]
theorem bG.trans{x y z:CS}(p:bG x y)(q:bG y z):bG x z:=⟨q.1.trans p.1,fun k f hf=>by
 obtain⟨g,h1,h2⟩:=p.2 k f hf;obtain⟨g',h3,h4⟩:=q.2 k g h1;exact⟨g',h3,h2.trans h4⟩⟩
theorem Kd(f:Fr):f.lB f.eP:=by
 unfold Fr.lB Fr.eP;split<;>rfl
structure Sta(x:CS)(lk:List Sl)(W:Sl)(L:List (Nat×Bool))(h:Nat):Prop where
 fr:cF x.frames x.labels lk x.most L
 qL:gU x.stack W
 len:(x.stack.length:Int)=x.aF.aC+h
 below: ∀ i:Nat,(i:Int)<x.aF.aC->x.stack[i]? = some (.pl (4+i))
 most:(x.stack.length:Int)<=x.most
structure Live(x:CS)(lk:List Sl)(W:Sl)(L:List (Nat×Bool))(h:Nat):Prop extends Sta x lk W L h where
 rw:Rw x lk W (bT x.frames)
section
variable{x y:CS}{n:Nat}{L:List (Nat×Bool)}{h:Nat}{lk:List Sl}{W W':Sl}
theorem At.alive(a:At x n L (some h))(hl:x.live=true):GW (fun lk W=>Live x lk W L h):=by
 obtain⟨lk,W,h1,h2,h3⟩:=a.rows;obtain⟨hh,e,h4⟩:=a.high hl;cases e;exact⟨lk,W,⟨h2,h3 hl,h4,a.below hl,a.most⟩,h1⟩
theorem pS.lB{labels:List Int}{most:Int}{p:Nat×Bool}{f g:Fr}{hh pp rr el:Nat}(k:pS labels lk most p f hh pp rr el)(l:f.lB g):pS labels lk most p g hh pp rr el:=by
 unfold Fr.lB at l;rw[l];exact⟨k.kO,k.many,k.aC,k.params,k.aU,k.eU,k.gP,k.le,k.fit,k.Q3,k.nO⟩
theorem xK(s:bG x y)(h:1<=x.frames.length):x.aF.lB y.aF:=by
 have hx:x.frames[x.frames.length - 1]? = some x.aF:=by
  obtain⟨f,hf⟩:=eL (l:=x.frames) h;have:x.aF=f:=by unfold CS.aF;rw[hf];rfl
  rw[this,<- List.getLast?_eq_getElem?];exact hf
 obtain⟨g,hg,hl⟩:=s.2 _ _ hx;have:y.aF=g:=by
  unfold CS.aF;rw[List.getLast?_eq_getElem?,s.1,hg];rfl
 rw[this];exact hl
theorem rI(s:bG x y)(h:1<=x.frames.length):y.aF.aC=x.aF.aC:=by
 have:=xK s h;unfold Fr.lB at this;rw[this]
theorem rH(h:1<=x.frames.length):x.frames[x.frames.length - 1]? = some x.aF:=by
 obtain⟨f,hf⟩:=eL (l:=x.frames) h;have:x.aF=f:=by unfold CS.aF;rw[hf];rfl
 rw[this,<- List.getLast?_eq_getElem?];exact hf
theorem sC(s:bG x y){k:Nat}{g:Fr}(hg:y.frames[k]? = some g):dO (fun f=>x.frames[k]? = some f) (fun f=>f.lB g):=by
 have hk:k<x.frames.length:=by rw[<- s.1];exact (List.getElem?_eq_some_iff.mp hg).1
 obtain⟨g',h1,h2⟩:=s.2 k _ (List.getElem?_eq_getElem hk);rw[hg] at h1;cases h1;exact⟨_,List.getElem?_eq_getElem hk,h2⟩
theorem cF.lB{labels:List Int}{most:Int}(k:cF x.frames labels lk most L)(s:bG x y):cF y.frames labels lk most L:=by
 refine⟨s.1.trans k.len,fun i p g hp hg=> ?_,fun i j f g GH hf hg=> ?_,fun g hg=> ?_⟩
 ·obtain⟨f,hf,hl⟩:=sC s hg
  obtain⟨hh,pp,rr,el,ok⟩:=k.ok i p f hp hf;exact⟨hh,pp,rr,el,ok.lB hl⟩
 ·obtain⟨f',RH,hl⟩:=sC s hf
  obtain⟨g',LV,D7⟩:=sC s hg;have:=k.bJ i j f' g' GH RH LV;unfold Fr.lB at hl D7;rw[hl,D7];exact this
 ·obtain⟨f,hf,hl⟩:=sC s hg
  unfold Fr.lB at hl;rw[hl];exact k.zero f hf
set_option tactic.hygienic true in
theorem gF{k:Nat}: bG x (x.aH k):=by
 unfold CS.aH;split
 ·rename_i f hf
  refine⟨by simp,fun j g hj=> ?_⟩;by_cases h:k=j
  ·subst h
   rw[hf] at hj;cases hj;exact⟨f.eP,List.getElem?_set_self (List.getElem?_eq_some_iff.mp hf).1,Kd f⟩
  ·exact⟨g,by show (x.frames.set k f.eP)[j]? = _;rw[List.getElem?_set_ne h];exact hj,rfl⟩
 ·exact .refl _
theorem dM{k:Nat}: A7 ((x.aH k).rows=x.rows) ((x.aH k).labels=x.labels) ((x.aH k).fence=x.fence) ((x.aH k).most=x.most) ((x.aH k).live=x.live) ((x.aH k).skipped=x.skipped) ((x.aH k).stack=x.stack):=by
 unfold CS.aH;split<;>exact⟨rfl,rfl,rfl,rfl,rfl,rfl,rfl⟩
set_option tactic.hygienic true in
theorem sJ{k:Nat}{l:Int}(h:bT x.frames l):bT (x.aH k).frames l:=by
 obtain⟨f,hf,h⟩:=h;obtain⟨j,hj⟩:=List.getElem?_of_mem hf;unfold CS.aH;split
 ·rename_i g hg
  by_cases e:k=j
  ·subst e
   have e:g=f:=Option.some.inj (hg.symm.trans hj);subst e;refine⟨g.eP,List.mem_of_getElem? (List.getElem?_set_self (List.getElem?_eq_some_iff.mp hg).1),?_⟩;unfold Fr.eP;split
   ·exact h
   ·exact h.imp (fun q=>⟨rfl,q.2⟩) id
  ·exact⟨f,List.mem_of_getElem? (by rw[List.getElem?_set_ne e];exact hj),h⟩
 ·exact⟨f,hf,h⟩
theorem Ks{k:Nat}(r:Rw x lk W (bT x.frames)):Rw (x.aH k) lk W (bT (x.aH k).frames):=by
 obtain⟨g1,g2,g3,g4,_⟩:=dM (x:=x) (k:=k);have:=r.bT (fun l h=>sJ (k:=k) h);unfold Rw at *;rw[g1,g2,g3,g4];exact this
theorem Sta.eP{k:Nat}(v:Sta x lk W L h)(hp:1<=L.length):Sta (x.aH k) lk W L h:=by
 obtain⟨g1,g2,g3,g4,g5,g6,g7⟩:=dM (x:=x) (k:=k);have hh:=rI (gF (x:=x) (k:=k)) (by rw[v.fr.len];exact hp);refine⟨?_,by rw[g7];exact v.qL,by rw[g7,hh];exact v.len,fun i hi=>by rw[hh] at hi;rw[g7];exact v.below i hi,by rw[g7,g4];exact v.most⟩;rw[g2,g4];exact v.fr.lB gF
theorem Live.eP{k:Nat}(v:Live x lk W L h)(hp:1<=L.length):Live (x.aH k) lk W L h:=⟨v.toSta.eP hp,Ks v.rw⟩
structure GR(x:CS)(lk:List Sl)(L:List (Nat×Bool))(d many:Nat)(f:Fr)(hh dP:Nat):Prop where
 oK:x.frames[bB x d]? = some f
 lY:f.many=(many:Int)
 oY:f.aC=(hh:Int)
 jD:f.dP=some (dP:Int)
 VQ:lk[dP]? = some (bF (hh+many))
 kP:bT (x.aH (bB x d)).frames dP\/ ∃ q:Nat,x.labels[dP]? = some (q:Int)
 low:(hh:Int)<=x.aF.aC
theorem Sta.rD{d many:Nat}{lp:Bool}(v:Sta x lk W L h)(hd:d<L.length)(hL:L[L.length - 1 - d]? = some (many,lp)):Li (fun f hh dP=>GR x lk L d many f hh dP):=by
 have VL:bB x d=L.length - 1 - d:=by unfold bB;rw[v.fr.len]
 have eA:L.length - 1 - d<x.frames.length:=v.fr.len.symm▸n1 hd;have hf:=List.getElem?_eq_getElem eA;obtain⟨hh,pp,rr,el,ok⟩:=v.fr.ok _ _ _ hL hf;have kU:=rH (x:=x) (by rw[v.fr.len];lia);have PX:=v.fr.bJ _ _ _ _ (v.fr.len.symm▸Nat.sub_le _ _) hf kU;generalize x.frames[L.length - 1 - d]=f at *;rw[ok.aC] at PX;by_cases hc:f.code=3
 ·obtain⟨bl,q,b1,b2,b3⟩:=ok.Q3 hc
  have hm:(many:Int)=pp:=by rw[<- ok.params,<- ok.many];unfold Fr.many;rw[if_pos hc]
  have XI:many=pp:=Int.ofNat.inj hm;subst XI;exact⟨f,hh,bl,by rw[VL];exact hf,ok.many,ok.aC,by unfold Fr.dP;rw[if_pos hc];exact b1,b2,.inr ⟨q,b3⟩,PX⟩
 ·have hm:(many:Int)=rr:=by rw[<- ok.aU,<- ok.many];unfold Fr.many;rw[if_neg hc]
  have XI:many=rr:=Int.ofNat.inj hm;subst XI;refine⟨f,hh,el,by rw[VL];exact hf,ok.many,ok.aC,by unfold Fr.dP;rw[if_neg hc];exact ok.eU,ok.gP,.inl ?_,PX⟩;refine⟨f.eP,?_,.inl ?_⟩
  ·rw[VL];exact List.mem_of_getElem? (iE hf)
  ·unfold Fr.eP;rw[if_neg hc];exact⟨rfl,ok.eU⟩
theorem GR.depth{d many:Nat}{f:Fr}{hh dP:Nat}(g:GR x lk L d many f hh dP)(hd:d<x.frames.length)(hm:many<=x.stack.length)(h2:many<=2):fW x d:=by
 refine⟨hd,fun f' RH=> ?_⟩;rw[g.oK] at RH;cases RH;exact⟨⟨dP,g.jD⟩,by rw[g.lY];lia,by rw[g.lY];simpa using hm,by rw[g.lY];lia⟩
theorem GR.NA{d many:Nat}{f:Fr}{hh dP:Nat}(g:GR x lk L d many f hh dP)(v:Sta x lk W L h)(hW: ∀ s,W s->W' s)(ph: ∀ i:Nat,i<many->W' (4+((hh:Int)+i))):eS x.labels lk (bT (x.aH (bB x d)).frames) W' dP:=by
 refine⟨by lia,bF (hh+many),by simpa using g.VQ,fun s hs=> ?_,by simpa using g.kP⟩;obtain⟨h0,h1⟩:=hs;by_cases h4:s<4
 ·exact hW s (v.qL.aA s h0 h4)
 ·by_cases hl:s<4+hh
  ·have hb:=v.below (s - 4).toNat (by have:=g.low;lia)
   have:=v.qL.LQ _ _ hb;rcases this with q|q
   ·exact absurd (Xa (Int.not_lt.mp h4)▸q.2) h4
   ·exact hW s (Xa (Int.not_lt.mp h4)▸q.2)
  ·have:=ph (s - 4 - hh).toNat (by push_cast at h1;lia)
   have e:(4:Int)+((hh:Int)+((s - 4 - hh).toNat:Int))=s:=by lia
   rw[e] at this;exact this
theorem F8{fh:Int}{many:Nat}(k:gU x.stack W)(hf:0<=fh)(hm:many<=x.stack.length)(h:x.sB fh many=true): ∀ i:Nat,i<many->W (4+(fh+i)):=fun i hi=>by
 unfold CS.sB at h;have h:=of_decide_eq_true h;have e:(x.stack.drop (x.stack.length - many))[i]? = some (.pl (4+(fh+i))):=by
  rw[h,List.getElem?_map,List.getElem?_range hi];rfl
 rw[List.getElem?_drop] at e;rcases k.LQ _ _ e with q|q
 ·lia
 ·exact q.2
end
noncomputable def gD(x:CS)(n:Nat)(L:List (Nat×Bool))(i:aR)(h':Option Nat):Prop:=x.Op i/\∀ adr,At (x.take i adr) (n+1) L h'/\bG x (x.take i adr)
section
variable{x y:CS}{n:Nat}{L:List (Nat×Bool)}{h:Nat}{lk:List Sl}{W W':Sl}{P:Int->Prop}
theorem HK{i:aR}(hl:x.live=true):x.qC i=false:=by unfold CS.qC;rw[hl];rfl
theorem gN{i:aR}{adr:Nat}(hl:x.live=true):x.take i adr=x.Cq i adr:=by
 unfold CS.take;rw[if_neg (by rw[HK hl];decide)]
theorem eM{ho:Option Nat}(a:At x n L ho)(hl:x.live=true)(hn:n<=236)(i:aR)(CJ:x.Qt i)(y:CS)(he: ∀ adr,x.Cq i adr=y){hh:Nat}(g: ∀ lk W,Rw x lk W (bT x.frames)->gU x.stack W->qD x y lk (bT x.frames))(bE:(y.stack.length:Int)=x.aF.aC+hh)(hk:cK x.aF.aC x y)(hz:y.size<=x.size+x.stack.length+16):gD x n L i (some hh):=by
 refine⟨⟨a.fits hn,a.fence,fun _=>CJ⟩,fun adr=> ?_⟩;rw[gN hl,he adr];obtain⟨lk,W,h1,h2,h3⟩:=a.rows;exact⟨a.next hl g bE hk hz hn,.of_eq (g lk W h1 (h3 hl)).frames⟩
theorem ES{e:bL}(x1:Rw x lk W P)(k:gU x.stack W)(hm:(x.stack.length:Int)<=x.most)(he:jY W x.stack.length e):qD x (x.push e) lk P:=
 ⟨⟨W,x1.push,k.push he⟩,rfl,rfl,rfl,rfl,rfl,by show x.most<=(if (x.stack.length:Int)+1>x.most then (x.stack.length:Int)+1 else x.most);split<;>lia,BY hm,DB⟩
theorem rT{a b d k s:Nat}(h1:a<=b+k)(h2:b<=d)(hk:k<=s+16):a<=d+s+16:=Nat.le_trans h1 (Nat.le_trans (Nat.add_le_add h2 hk) (Nat.le_of_eq (Nat.add_assoc d s 16).symm))
theorem BX{e:bL}: (x.push e).stack.length=x.stack.length+1:=by simp [CS.push]
theorem hU:x.pop.stack.length=x.stack.length - 1:=by simp [CS.pop]
theorem uM(a:At x n L (some h))(hl:x.live=true)(hn:n<=236){v:Int}: gD x n L (.const v) (some (h+1)):=by
 obtain⟨ND,W0,v0⟩:=a.alive hl;exact eM a hl hn (.const v) trivial (x.push (.num (v.fmod 4294967296))) (fun _=>rfl) (fun lk W r k=>ES r k a.most trivial) (by rw[BX];exact (congrArg (· + 1) v0.len).trans (Int.add_assoc ..)) (.iB rfl) (by rw[CS.lL];exact rT (k:=1) (Nat.le_refl _) (Nat.le_refl _) (Nat.le_add_left_of_le (by decide)))
theorem Fz(a:At x n L (some h))(hl:x.live=true)(hn:n<=236){i:Int}(h0:0<=i)(h4:i<4):gD x n L (.get i) (some (h+1)):=by
 obtain⟨ND,W0,v0⟩:=a.alive hl;exact eM a hl hn (.get i) trivial (x.push (.pl i)) (fun _=>rfl) (fun lk W r k=>ES r k a.most (Or.inl ⟨h0,h4⟩)) (by rw[BX];exact (congrArg (· + 1) v0.len).trans (Int.add_assoc ..)) (.iB rfl) (by rw[CS.lL];exact rT (k:=1) (Nat.le_refl _) (Nat.le_refl _) (Nat.le_add_left_of_le (by decide)))
theorem iT(v:Sta x lk W L h)(hp:1<=L.length):0<=x.aF.aC:=by
 have kU:=rH (x:=x) (by rw[v.fr.len];exact hp);have hg:L[x.frames.length - 1]? = some L[L.length - 1]:=by rw[v.fr.len];exact List.getElem?_eq_getElem (by lia)
 obtain⟨hh,pp,rr,el,ok⟩:=v.fr.ok _ _ _ hg kU;rw[ok.aC];lia
theorem Hb(v:Sta x lk W L h)(hp:1<=L.length): ∃ e:Nat,x.aF.aC=e/\x.stack.length=e+h:=by
 obtain⟨e,he⟩:=Int.eq_ofNat_of_zero_le (iT v hp);have q:=v.len;rw[he] at q;exact⟨e,he,Int.ofNat.inj q⟩
theorem kE{e k:Nat}(hs:x.stack.length=e+(k+1)):x.pop.stack.length=e+k:=by rw[hU,hs];rfl
theorem lG{e k n:Nat}{m:Int}(he:m=e)(hs:n=e+(k+1)):m<n:=by rw[he,hs];exact Int.ofNat_lt.mpr (Nat.lt_add_of_pos_right (Nat.succ_pos k))
theorem jV{e h k n:Nat}(hs:n=e+(h+k)):k<=n:=hs▸Nat.le_trans (Nat.le_add_left k h) (Nat.le_add_left _ e)
theorem BW(hm:(x.stack.length:Int)<=x.most):(x.pop.stack.length:Int)<=x.most:=Int.le_trans (Int.ofNat_le.mpr (by rw[hU];exact Nat.sub_le _ _)) hm
theorem Rc{a b d p k s:Nat}(h1:a<=b+p+k)(h2:b<=d)(h3:p<=s)(hk:k<=16):a<=d+s+16:=Nat.le_trans h1 (Nat.add_le_add (Nat.add_le_add h2 h3) hk)
theorem JF{a b:Nat}{m:Int}(h:(a:Int)<=m)(e:b+1<=a):(b:Int)<m:=Int.lt_of_lt_of_le (Int.ofNat_lt.mpr e) h
theorem F1(a:At x n L (some (h+1)))(hl:x.live=true)(hn:n<=236)(hp:1<=L.length){i:Int}(h0:0<=i)(h4:i<4):gD x n L (.set i) (some h):=by
 obtain⟨ND,W0,v0⟩:=a.alive hl;obtain⟨e,he,hs⟩:=Hb v0.toSta hp;have h1:=kE hs;have mO:1<=x.stack.length:=jV hs;refine eM a hl hn (.set i) mO (x.pop.bY i x.dB) (fun _=>rfl) (fun lk W r k=> ?_) ?_ ((cK.pop (lG he hs)).trans .bY) ?_
 ·obtain⟨W1,g1,g2,g3⟩:=yQ (c:=x.pop) (i:=i) (e:=x.dB) r k.pop (BW a.most) (by rw[hU];exact k.dB mO) h0 h4
  exact (qD.of g3 g1 g2 (by rw[CS.cZ.3];exact BW a.most)).pop
 ·rw[CS.cZ.3,h1,he];rfl
 ·exact Rc (CS.cZ (x:=x.pop) (i:=i) (e:=x.dB)).1 CS.cD (by rw[hU];exact Nat.sub_le _ _) (by decide)
theorem F2(a:At x n L (some (h+1)))(hl:x.live=true)(hn:n<=236)(hp:1<=L.length){i:Int}(h0:0<=i)(h4:i<4):gD x n L (.LF i) (some (h+1)):=by
 obtain⟨ND,W0,v0⟩:=a.alive hl;obtain⟨e,he,hs⟩:=Hb v0.toSta hp;have h1:=kE hs;have mO:1<=x.stack.length:=jV hs;refine eM a hl hn (.LF i) mO ((x.pop.bY i x.dB).push (Eh i x.dB)) (fun _=>rfl) (fun lk W r k=> ?_) ?_ (((cK.pop (lG he hs)).trans .bY).trans (.iB rfl)) ?_
 ·obtain⟨W1,g1,g2,g3⟩:=yQ (c:=x.pop) (i:=i) (e:=x.dB) r k.pop (BW a.most) (by rw[hU];exact k.dB mO) h0 h4
  have:=ES (e:=Eh i x.dB) g1 g2 (by rw[CS.cZ.3,g3.most];exact BW a.most) (by
   cases x.dB with
   | num n=>trivial
   | pl s=>exact Or.inl ⟨h0,h4⟩)
  exact (this.uO g3).pop
 ·rw[BX,CS.cZ.3,h1,he];rfl
 ·rw[CS.lL]
  exact Rc (k:=2) (Nat.succ_le_succ (CS.cZ (x:=x.pop) (i:=i) (e:=x.dB)).1) CS.cD (by rw[hU];exact Nat.sub_le _ _) (by decide)
theorem LA(a:At x n L (some (h+1)))(hl:x.live=true)(hn:n<=236)(hp:1<=L.length):gD x n L .drop (some h):=by
 obtain⟨ND,W0,v0⟩:=a.alive hl;obtain⟨e,he,hs⟩:=Hb v0.toSta hp;refine eM a hl hn .drop (jV hs) (x.pop) (fun _=>rfl) (fun lk W r k=>⟨⟨W,r,k.pop⟩,rfl,rfl,rfl,rfl,rfl,Int.le_refl _,Int.le_add_one (Int.le_refl _),BW a.most⟩) ?_ (.pop (lG he hs)) (rT (k:=0) CS.cD (Nat.le_refl _) (Nat.zero_le _));rw[kE hs,he];rfl
theorem OB(a:At x n L (some h))(hl:x.live=true)(hn:n<=236):gD x n L .LZ (some h):=by
 obtain⟨ND,W0,v0⟩:=a.alive hl;exact eM a hl hn .LZ trivial x (fun _=>rfl) (fun lk W r k=>⟨⟨W,r,k⟩,rfl,rfl,rfl,rfl,rfl,Int.le_refl _,Int.le_add_one (Int.le_refl _),a.most⟩) v0.len (.of_eq rfl) (rT (k:=0) (Nat.le_refl _) (Nat.le_refl _) (Nat.zero_le _))
theorem B1{op:Int}{e1 e2:bL}: (x.lP op e1 e2).size<=x.size+3/\(x.lP op e1 e2).stack=x.stack++[.pl (4+x.stack.length)]:=by
 unfold CS.lP;split
 ·exact⟨by rw[CS.cO,CS.dN];lia,rfl⟩
 ·obtain⟨s1,s2,s3,_⟩:=CS.gO (x:=x) (e:=e1) (h:=x.stack.length)
  refine⟨by rw[CS.cO,CS.dN];lia,?_⟩;show (x.bN x.stack.length e1).1.stack++[.pl (4+(x.bN x.stack.length e1).1.stack.length)]=_;rw[s3]
theorem BS{op:Int}{e:bL}: (x.B8 op e).size<=x.size+3/\(x.B8 op e).stack=x.stack++[.pl (4+x.stack.length)]:=by
 obtain⟨s1,s2,s3,_⟩:=CS.gO (x:=x) (e:=e) (h:=x.stack.length);unfold CS.B8;dsimp only;refine⟨by rw[CS.cO,CS.dN];lia,?_⟩;show (x.bN x.stack.length e).1.stack++[.pl (4+(x.bN x.stack.length e).1.stack.length)]=_;rw[s3]
theorem F3(a:At x n L (some (h+2)))(hl:x.live=true)(hn:n<=236)(hp:1<=L.length){op:Int}(kC:op∈pP):gD x n L (.lP op) (some (h+1)):=by
 obtain⟨ND,W0,v0⟩:=a.alive hl;obtain⟨e,he,hs⟩:=Hb v0.toSta hp;have h1:=kE hs;have h2:=kE h1;refine eM a hl hn (.lP op) ⟨jV hs,kC⟩ (x.pop.pop.lP op x.pop.dB x.dB) (fun _=>rfl) (fun lk W r k=> ?_) ?_ (((cK.pop (lG he hs)).trans (.pop (lG he h1))).trans (.iB B1.2)) (rT B1.1 (Nat.le_trans CS.cD CS.cD) (Nat.le_trans (by decide:3<=16) (Nat.le_add_left 16 _)))
 ·have t2:=k.dB (jV (h:=h+1) (k:=1) hs)
  have t1:=k.pop.dB (x:=x.pop) (jV (h:=h) (k:=1) h1);rw[show x.stack.length - 1=x.pop.pop.stack.length+1 by rw[hs,h2];rfl] at t2;rw[show x.pop.stack.length - 1=x.pop.pop.stack.length by rw[h1,h2];rfl] at t1;exact (Tv (c:=x.pop.pop) r k.pop.pop (Int.add_lt_add_right (JF (a:=x.stack.length) a.most (by rw[hs,h2];exact Nat.le_succ _)) 1) t1 t2 kC).1.pop.pop
 ·rw[B1.2,List.length_append,h2,he];rfl
theorem N9(a:At x n L (some (h+1)))(hl:x.live=true)(hn:n<=236)(hp:1<=L.length):gD x n L .zM (some (h+1)):=by
 obtain⟨ND,W0,v0⟩:=a.alive hl;obtain⟨e,he,hs⟩:=Hb v0.toSta hp;have h1:=kE hs;refine eM a hl hn .zM (jV hs) (x.pop.B8 69 x.dB) (fun _=>rfl) (fun lk W r k=> ?_) ?_ ((cK.pop (lG he hs)).trans (.iB BS.2)) (rT BS.1 CS.cD (Nat.le_trans (by decide:3<=16) (Nat.le_add_left 16 _)))
 ·exact (TI (c:=x.pop) r k.pop (JF (a:=x.stack.length) a.most (by rw[hs,h1];exact Nat.le_refl _)) (by rw[hU];exact k.dB (jV hs))).1.pop
 ·rw[BS.2,List.length_append,h1,he];rfl
theorem Fa{e h k n:Nat}{m:Int}(he:m=e)(hs:n=e+(h+k)):m<=(n:Int) - k:=by
 rw[he,hs];exact Int.le_sub_right_of_add_le (Int.ofNat_le.mpr (Nat.add_le_add_left (Nat.le_add_left k h) e))
theorem K9(a:At x n L (some (h+2)))(hl:x.live=true)(hn:n<=236)(hp:1<=L.length):gD x n L .call (some (h+2)):=by
 obtain⟨ND,W0,v0⟩:=a.alive hl;obtain⟨e,he,hs⟩:=Hb v0.toSta hp;have mO:2<=x.stack.length:=jV hs;have It:(x.call 0 2 2).stack.length=x.stack.length:=(Ia v0.rw v0.qL a.most mO).2;refine eM a hl hn .call mO (x.call 0 2 2) (fun _=>rfl) (fun lk W r k=>(Ia r k a.most mO).1) (by show ((x.call 0 2 2).stack.length:Int)=_;rw[It];exact v0.len) ?_ ?_
 ·refine ((cK.dY (x:=x) (b:=x.stack.length - 2) 2).trans (.drop (x:=x.aI 2) 2 (by rw[CS.dA];exact Fa he hs))).trans ?_
  exact (cK.iB (x:=(x.aI 2).bX 2) (y:=(((x.aI 2).bX 2).aV 263 0 (.i (4+(x.stack.length - 2:Nat))) 0).aZ) rfl).trans (.iB rfl)
 ·show (CS.nL _ 2).size<=_
  rw[CS.nA.1,CS.cO];exact rT (k:=5) (Nat.add_le_add_right (Nat.le_trans CS.iR CS.bS) 3) (Nat.le_refl _) (Nat.le_add_left_of_le (by decide))
theorem F0(a:At x n L (some (h+3)))(hl:x.live=true)(hn:n<=236)(hp:1<=L.length):gD x n L .cG (some (h+1)):=by
 obtain⟨ND,W0,v0⟩:=a.alive hl;obtain⟨e,he,hs⟩:=Hb v0.toSta hp;have h1:=kE hs;have h2:=kE h1;have mO:3<=x.stack.length:=jV hs;have KW:(x.cG x.dB).stack.length=x.stack.length - 2:=(DL v0.rw v0.qL a.most mO).2;have iy:cK x.aF.aC x x.pop.pop:=(cK.pop (lG he hs)).trans (.pop (lG he h1));have iz:cK x.aF.aC x x.pop.pop.pop:=iy.trans (.pop (lG he h2));refine eM a hl hn .cG mO (x.cG x.dB) (fun _=>rfl) (fun lk W r k=>(DL r k a.most mO).1) (by show ((x.cG x.dB).stack.length:Int)=_;rw[KW,hs,he];rfl) ?_ ?_
 ·show cK _ x (x.cG x.dB)
  unfold CS.cG;split
  ·refine ((cK.dY (x:=x) (b:=x.stack.length - 3) 3).trans (.drop (x:=x.aI 3) 3 (by rw[CS.dA];exact Fa he hs))).trans ?_
   exact .iB rfl
  ·unfold CS.xV CS.lH
   split
   ·split
    ·refine iz.trans (.iB (e:=[.pl (4+x.pop.pop.pop.stack.length)]) ?_)
     show (CS.kP _ _ _).stack++_=_;rw[CS.nW]
    ·exact iz.trans (.iB rfl)
   ·exact iy
 ·show (x.cG x.dB).size<=_
  have hk: ∀ {k:Nat},k<=16->k<=x.stack.length+16:=fun h=>Nat.le_add_left_of_le h;unfold CS.cG;split
  ·rw[CS.dN,CS.cO]
   exact rT (k:=5) (Nat.add_le_add_right (Nat.le_trans CS.iR CS.bS) 2) (Nat.le_refl _) (hk (by decide))
  ·have zO:x.pop.pop.size<=x.size:=Nat.le_trans CS.cD CS.cD
   have RO:x.pop.pop.pop.size<=x.size:=Nat.le_trans CS.cD zO;unfold CS.xV CS.lH;split
   ·split
    ·rw[CS.lL]
     exact rT (k:=2) (Nat.add_le_add_right CS.nV 1) RO (hk (by decide))
    ·rw[CS.lL];exact rT (k:=1) (Nat.le_refl _) RO (hk (by decide))
   ·exact rT (k:=0) (Nat.le_refl _) zO (Nat.zero_le _)
theorem At.PO{ho:Option Nat}(a:At x n L ho)(hd:y.live=false)(s:bG x y)(hr:AG (fun lk W=>Rw y lk W (bT y.frames)) (fun lk W=>cF y.frames y.labels lk y.most L))(hs:y.skipped=x.skipped)(st:Dc y)(tJ:(y.stack.length:Int)<=x.stack.length)(hm:y.most=x.most)(hz:y.size<=x.size+x.stack.length+16)(hf:0<=y.fence)(hn:n<=236){h':Option Nat}: At y (n+1) L h':=by
 obtain⟨lk,W,h1,h2⟩:=hr;have:=a.most;have:=a.gW;have:=a.size;exact⟨⟨lk,W,h1,h2,(fun q=>by rw[hd] at q;cases q)⟩,hs.trans a.skip,(fun q=>by rw[hd] at q;cases q),(fun q=>by rw[hd] at q;cases q),fun _=>st,by lia,by rw[hm,s.1];push_cast;lia,by lia,hf⟩
theorem Rw.Ai(r:Rw x lk W P):0<=x.fence/\x.fence<=x.rows.length:=r.elim fun _ k=>⟨k.f0,k.f1⟩
theorem sK{op i q:Int}{b:Arg}(hf:x.fence<=x.rows.length)(hk: ∀ rd wr lb go,fJ ⟨op,i,b,q⟩ rd wr lb go->go=false){y:CS}(hy:y.rows=x.rows++[⟨op,i,b,q⟩])(XW:y.fence=x.fence):Dc y:=by
 refine⟨by rw[hy,XW,List.length_append];simp;lia,⟨op,i,b,q⟩,by rw[hy];simp,hk⟩
noncomputable def U1(op:Int):Bool:= !(op==0||op==267||op==262||op==259)
theorem DS{r:dZ}{rd wr lb:List Int}{go:Bool}(k:fJ r rd wr lb go):go=U1 r.op:=by
 induction k with
 | @On op _ _ h=>exact h.elim (fun e=>e▸rfl) fun e=>e▸rfl
 | lP h=>exact (iN (by decide:(pP.all U1)=true) h).symm
 | sX h=>exact (iN (by decide:(pP.all fun op=>U1 (16384+op))=true) h).symm
 | br h=>exact (iN (by decide:(AY.all U1)=true) h).symm
 | Oc h=>exact (iN (by decide:(tW.all U1)=true) h).symm
 | _=>rfl
theorem C1{l:Int}: ∀ rd wr lb go,fJ ⟨259,l,.i 0,0⟩ rd wr lb go->go=false:=fun _ _ _ _ k=>DS k
end
section
variable{x y:CS}{n:Nat}{L:List (Nat×Bool)}{h:Nat}{lk:List Sl}{W W':Sl}{P P':Int->Prop}
theorem At.uD(v:Live x lk W L h)(hl:x.live=true)(hs:x.skipped=0)(hm:x.most+x.frames.length<=n+3)(hz:x.size<=262*(n+1))(hf:0<=x.fence):At x n L (some h):=
 ⟨⟨lk,W,v.rw,v.fr,fun _=>v.qL⟩,hs,fun _=>⟨h,rfl,v.len⟩,fun _=>v.below,(fun q=>by rw[hl] at q;cases q),v.most,hm,hz,hf⟩
theorem cF.aP{frames:List Fr}{labels:List Int}{most a:Int}{K:Sl}(k:cF frames labels lk most L):cF frames (labels++[a]) (lk++[K]) most L:=by
 have g: ∀ {α:Type} {l:List α} {i:Nat} {v b:α},l[i]? = some v->(l++[b])[i]? = some v:=fun h=>by
  rw[List.getElem?_append_left (List.getElem?_eq_some_iff.mp h).1];exact h
 refine⟨k.len,fun i p f hp hf=> ?_,k.bJ,k.zero⟩;obtain⟨hh,pp,rr,el,ok⟩:=k.ok i p f hp hf;exact⟨hh,pp,rr,el,{ ok with
  gP:=g ok.gP
  Q3:=fun hc=>by
   obtain⟨bl,q,b1,b2,b3⟩:=ok.Q3 hc;exact⟨bl,q,b1,g b2,g b3⟩
  nO:=fun l hl=>by
   obtain⟨e,e1,e2⟩:=ok.nO l hl;exact⟨e,e1,g e2⟩ }⟩
theorem cF.kP{frames:List Fr}{labels:List Int}{most:Int}{l p:Nat}(k:cF frames labels lk most L):cF frames (labels.set l p) lk most L:=by
 refine⟨k.len,fun i pq f hp hf=> ?_,k.bJ,k.zero⟩;obtain⟨hh,pp,rr,el,ok⟩:=k.ok i pq f hp hf;exact⟨hh,pp,rr,el,{ ok with
  Q3:=fun hc=>by
   obtain⟨bl,q,b1,b2,b3⟩:=ok.Q3 hc;by_cases e:l=bl
   ·subst e
    exact⟨l,p,b1,b2,List.getElem?_set_self (List.getElem?_eq_some_iff.mp b3).1⟩
   ·exact⟨bl,q,b1,b2,by rw[List.getElem?_set_ne e];exact b3⟩ }⟩
theorem Sta.aP(v:Sta x lk W L h){K:Sl}: Sta x.aP (lk++[K]) W L h:=⟨v.fr.aP,v.qL,v.len,v.below,v.most⟩
theorem Sta.aG(v:Sta x lk W L h){l:Nat}: Sta (x.aG l) lk W L h:=⟨v.fr.kP,v.qL,v.len,v.below,v.most⟩
theorem A1{d many:Nat}{f:Fr}{hh dP:Nat}(v:Sta x lk W L h)(r:Rw x lk W P)(g:GR x lk L d many f hh dP)(hm:many<=h)(hp:1<=L.length)(hP: ∀ l,P l->P' l)(mr: ∀ l,bT (x.aH (bB x d)).frames l->P' l):
  A4 (Rw (((x.aH (bB x d)).bR f.aC many).aV 259 dP (.i 0) 0) lk W P') (fK (x.aH (bB x d)) (((x.aH (bB x d)).bR f.aC many).aV 259 dP (.i 0) 0)) ((((x.aH (bB x d)).bR f.aC many).aV 259 dP (.i 0) 0).stack=x.stack) (dO (fun rows=>(((x.aH (bB x d)).bR f.aC many).aV 259 dP (.i 0) 0).rows=rows++[⟨259,dP,.i 0,0⟩]) (fun rows=>x.fence<=rows.length)):=by
 obtain⟨g1,g2,g3,g4,g5,g6,g7⟩:=dM (x:=x) (k:=bB x d);have r1:Rw (x.aH (bB x d)) lk W P:=by unfold Rw at *;rw[g1,g2,g3,g4];exact r
 have h0:=iT v hp;have bE:=v.len;have eE:=v.most;have PX:=g.low;obtain⟨W1,m1,m2,m3,m4⟩:=BM (b:=(x.aH (bB x d)).stack.length - many) (fh:=f.aC) r1 (by rw[g7];exact v.qL) (by rw[g.oY];lia) many (by rw[g.oY,g4];lia) (by rw[g7];lia);have hl:eS x.labels lk (bT (x.aH (bB x d)).frames) W1 dP:=g.NA v m1 (fun i hi=>by have:=m3 i hi;rw[g.oY] at this;exact this);have Vz:Rw ((x.aH (bB x d)).bR f.aC many) lk W1 P':=m2.bT hP;have JG:fK (x.aH (bB x d)) ((x.aH (bB x d)).bR f.aC many):=m4;have qq:=r.wb;refine⟨Vz.aV .HG (by simp) (by simp) (fun l D7=>by
  rw[List.mem_singleton.mp D7,JG.labels,g2];exact hl.bT mr) (fun s hs=>.inr ⟨rfl,by rw[JG.most,g4];exact qq s hs⟩),JG.trans ⟨rfl,rfl,rfl,rfl,rfl,rfl⟩,?_,_,rfl,?_⟩
 ·show (CS.bR _ _ _).stack=_
  rw[CS.cT.3,g7]
 ·have:=Vz.Ai.2
  rw[JG.fence,g3] at this;exact this
theorem MU{d many:Nat}{f:Fr}{hh dP:Nat}(g:GR x lk L d many f hh dP):A3 (x.An d=f) ((x.An d).many.toNat=many) ((x.An d).dP.getD 0=dP):=by
 have e:x.An d=f:=by unfold CS.An;rw[g.oK];rfl
 refine⟨e,by rw[e,g.lY];simp,by rw[e,g.jD];rfl⟩
theorem KQ{k many:Nat}{fh l:Int}: (((x.aH k).bR fh many).aV 259 l (.i 0) 0).size<=x.size+many+1:=by
 rw[CS.cO];have:=(CS.cT (x:=x.aH k) (fh:=fh) (many:=many)).1;have:=(CS.cS (x:=x) (k:=k)).1;lia
theorem Qd(a:At x n L (some h))(hl:x.live=true)(hn:n<=236){d many:Nat}(hd:d<L.length)(hL:L[L.length - 1 - d]? = some (many,false))(hm:many<=h)(h2:many<=2):gD x n L (.br d) none:=by
 obtain⟨lk,W,v⟩:=a.alive hl;obtain⟨f,hh,dP,g⟩:=v.toSta.rD hd hL;have h0:=iT v.toSta (by lia);have bE:=v.len;refine⟨⟨a.fits hn,a.fence,fun _=>g.depth (by rw[v.fr.len];exact hd) (by lia) h2⟩,fun adr=> ?_⟩;rw[gN hl];show At (x.IZ d) _ _ _/\bG x (x.IZ d);unfold CS.IZ CS.NC;obtain⟨e1,e2,e3⟩:=MU g;rw[e2,e3,e1];obtain⟨r1,s1,st,rows,er,CO⟩:=A1 v.toSta v.rw g hm (by lia) (fun _ h=>sJ h) (fun _ h=>h);obtain⟨g1,g2,g3,g4,g5,g6,g7⟩:=dM (x:=x) (k:=bB x d);have kI:=KQ (x:=x) (k:=bB x d) (many:=many) (fh:=f.aC) (l:=dP);generalize ((x.aH (bB x d)).bR f.aC many).aV 259 dP (.i 0) 0=z at *;have UM:bG x z:=gF.trans (.of_eq s1.frames);refine⟨a.PO (y:= { z with live:=false }) rfl UM ⟨lk,W,?_,?_⟩ (s1.skipped.trans g6) ?_ (by rw[st];exact Int.le_refl _) (s1.most.trans g4) (by have:({ z with live:=false }: CS).size=z.size:=rfl;lia) (by show 0<=z.fence;rw[s1.fence,g3];exact a.fence) hn,UM⟩
 ·have:z.frames=(x.aH (bB x d)).frames:=s1.frames
  show Rw z lk W (bT z.frames);rw[this];exact r1
 ·show cF z.frames z.labels lk z.most L
  rw[s1.labels,s1.most,g2,g4];exact v.fr.lB UM
 ·exact sK (x:= { x with rows:=rows }) CO C1 er (s1.fence.trans g3)
theorem wB{op i q:Int}{b:Arg}(h:op=0\/op=267\/op=262): ∀ rd wr lb go,fJ ⟨op,i,b,q⟩ rd wr lb go->go=false:=fun _ _ _ _ k=>(DS k).trans (by rcases h with rfl|rfl|rfl<;>rfl)
theorem Ef(a:At x n L (some h))(hl:x.live=true)(hn:n<=236):gD x n L .jX none:=by
 obtain⟨lk,W,v⟩:=a.alive hl;refine⟨⟨a.fits hn,a.fence,fun _=>trivial⟩,fun adr=> ?_⟩;rw[gN hl];refine⟨a.PO (y:= { x.aV 0 0 (.i 0) 0 with live:=false }) rfl (.of_eq rfl) ⟨lk,W,?_,v.fr⟩ rfl ?_ (Int.le_refl _) rfl (by show (x.aV 0 0 (.i 0) 0).size<=_;rw[CS.cO];lia) a.fence hn,.of_eq rfl⟩
 ·exact v.rw.aV .OK (by simp) (by simp) (by simp) (fun s hs=>.inl (.inl hs))
 ·exact sK (x:=x) v.rw.Ai.2 (wB (.inl rfl)) rfl rfl
theorem OC(a:At x n L (some h))(hl:x.live=true)(hn:n<=236)(hp:1<=L.length)(hm:2<=h):gD x n L .ret none:=by
 obtain⟨lk,W,v⟩:=a.alive hl;have h0:=iT v.toSta hp;have bE:=v.len;have eE:=v.most;have oc:1<=x.frames.length:=by rw[v.fr.len];exact hp
 have hz:=v.fr.zero _ (List.getElem?_eq_getElem (by lia));have oe:(x.frames[0]?.getD CS.SD).aC=0:=by rw[List.getElem?_eq_getElem (by lia)];exact hz
 refine⟨⟨a.fits hn,a.fence,fun _=>⟨by lia,oc⟩⟩,fun adr=> ?_⟩;rw[gN hl];show At (x.ret _) _ _ _/\bG x (x.ret _);rw[oe];unfold CS.ret;obtain⟨W1,m1,m2,m3,m4⟩:=BM (b:=x.stack.length - 2) (fh:=0) v.rw v.qL (Int.le_refl _) 2 (by lia) (by lia);have w4:=m3 0 (by lia);have w5:=m3 1 (by lia);have JG:fK x (x.bR 0 2):=m4;have Vz:Rw (x.bR 0 2) lk W1 (bT x.frames):=m2;have r1:Rw ((x.bR 0 2).aV 267 4 (.i 2) 0) lk W1 (bT x.frames):=Vz.aV .ret (by
  intro s hs;simp only[List.mem_cons,List.not_mem_nil,or_false] at hs;rcases hs with rfl|rfl
  ·exact w4
  ·exact w5) (by simp) (by simp) (fun s hs=>.inl (.inl hs))
 have kI:=(CS.cT (x:=x) (fh:=0) (many:=2));refine⟨a.PO (y:= { (x.bR 0 2).aV 267 4 (.i 2) 0 with live:=false }) rfl (.of_eq JG.frames) ⟨lk,W1,?_,?_⟩ JG.skipped ?_ (by show ((x.bR 0 2).stack.length:Int)<=_;rw[kI.3];exact Int.le_refl _) JG.most (by show ((x.bR 0 2).aV 267 4 (.i 2) 0).size<=_;rw[CS.cO];have:=kI.1;lia) (by show 0<=(x.bR 0 2).fence;rw[JG.fence];exact a.fence) hn,.of_eq JG.frames⟩
 ·show Rw ((x.bR 0 2).aV 267 4 (.i 2) 0) lk W1 (bT (x.bR 0 2).frames)
  rw[JG.frames];exact r1
 ·show cF (x.bR 0 2).frames (x.bR 0 2).labels lk (x.bR 0 2).most L
  rw[JG.frames,JG.labels,JG.most];exact v.fr
 ·exact sK (x:=x.bR 0 2) Vz.Ai.2 (wB (.inr (.inl rfl))) rfl rfl
end
section
variable{x y z:CS}{n:Nat}{L:List (Nat×Bool)}{h:Nat}{lk:List Sl}{W W':Sl}{P P':Int->Prop}
theorem Sta.same(v:Sta x lk W L h)(h1:z.labels=x.labels)(h2:z.frames=x.frames)(h3:z.most=x.most)(h4:z.stack=x.stack):Sta z lk W L h:=by
 have hl:z.aF=x.aF:=by unfold CS.aF;rw[h2]
 exact⟨by rw[h1,h2,h3];exact v.fr,by rw[h4];exact v.qL,by rw[h4,hl];exact v.len,fun i hi=>by rw[hl] at hi;rw[h4];exact v.below i hi,by rw[h4,h3];exact v.most⟩
theorem Sta.WU(v:Sta x lk W L h)(k:gU x.stack W'):Sta x lk W' L h:=⟨v.fr,k,v.len,v.below,v.most⟩
theorem Sta.pop(v:Sta x lk W L (h+1))(hp:1<=L.length):Sta x.pop lk W L h:=by
 have h0:=iT v hp;have bE:=v.len;have Ej:=hU (x:=x);push_cast at bE;exact⟨v.fr,v.qL.pop,by rw[Ej];show _=x.aF.aC+_;lia,fun i hi=>cK.pop (m:=x.aF.aC) (by lia) i hi (v.below i hi),by rw[Ej];have:=v.most;show _<=x.most;lia⟩
theorem Live.cond(v:Live x lk W L (h+1))(hp:1<=L.length):dO (fun W'=>Live (x.pop.aE x.dB).1 lk W' L h) (fun W'=>iA W' (x.pop.aE x.dB).2):=by
 have h0:=iT v.toSta hp;have bE:=v.len;push_cast at bE;have sp:=v.toSta.pop hp;have ht:=v.qL.dB (by lia);rw[<- hU] at ht;obtain⟨W1,r1,k1,t1⟩:=Du (c:=x.pop) (e:=x.dB) v.rw v.qL.pop ht;obtain⟨c1,c2,c3,c4,c5,c6,c7⟩:=lU (c:=x.pop) (e:=x.dB);refine⟨W1,⟨(sp.same c1 c3 c4 c7).WU k1,?_⟩,t1⟩;rw[c3];exact r1
theorem KO(f:Fr):f.eP.eP=f.eP:=by
 unfold Fr.eP;by_cases h:f.code=3
 ·rw[if_pos h,if_pos h]
 ·rw[if_neg h]
  exact if_neg h
theorem MW(f:Fr):f.eP.dP=f.dP:=by
 unfold Fr.eP;split
 ·rfl
 ·unfold Fr.dP;rfl
theorem G5{k:Nat}{f:Fr}(hk:x.frames[k]? = some f.eP):x.aH k=x:=by
 obtain⟨eA,he⟩:=List.getElem?_eq_some_iff.mp hk;unfold CS.aH;rw[hk];dsimp only;have:x.frames.set k f.eP.eP=x.frames:=by
  rw[KO,<- he];exact List.set_getElem_self eA
 rw[this]
theorem DP(a:At x n L (some (h+1)))(hl:x.live=true)(hn:n<=236){d many:Nat}{lp:Bool}(hd:d<L.length)(hL:L[L.length - 1 - d]? = some (many,lp))(hm:many<=h)(h2:many<=2):gD x n L (.oM d) (some h):=by
 obtain⟨lk,W,v0⟩:=a.alive hl;have hp:1<=L.length:=by lia
 have h0:=iT v0.toSta hp;have Mj:=v0.len;push_cast at Mj;obtain⟨W1,v,t⟩:=v0.cond hp;obtain⟨c1,c2,c3,c4,c5,c6,c7⟩:=lU (c:=x.pop) (e:=x.dB);have kI:=(CS.eT (x:=x.pop) (e:=x.dB)).1;have GJ:=CS.cD (x:=x);have CO:(x.pop.aE x.dB).1.frames=x.frames:=c3;have Ix:(x.pop.aE x.dB).1.live=true:=c5.trans hl;have Cv:(x.pop.aE x.dB).1.skipped=0:=c6.trans a.skip;have eE:(x.pop.aE x.dB).1.most=x.most:=c4;have ST:(x.pop.aE x.dB).1.fence=x.fence:=c2;refine⟨⟨a.fits hn,a.fence,fun _=>⟨by lia,?_,t.Sp⟩⟩,fun adr=> ?_⟩
 ·have sp:=v0.toSta.pop hp
  obtain⟨f,hh,dP,g⟩:=sp.rD hd hL;have:=sp.len;have h0':=iT sp hp;exact g.depth (by rw[sp.fr.len];exact hd) (by lia) h2
 rw[gN hl];show At ((x.pop.aE x.dB).1.oN d (x.pop.aE x.dB).2) _ _ _/\bG x ((x.pop.aE x.dB).1.oN d (x.pop.aE x.dB).2);generalize (x.pop.aE x.dB).2=gB at *;generalize (x.pop.aE x.dB).1=y at *;have bE:=v.len;obtain⟨f,hh,dP,g⟩:=v.toSta.rD hd hL;obtain⟨e1,e2,e3⟩:=MU g;unfold CS.oN;rw[e2,e3,e1];obtain⟨g1,g2,g3,g4,g5,g6,g7⟩:=dM (x:=y) (k:=bB y d);have vu:=v.eP (k:=bB y d) hp;have RI:=iE g.oK;have su:bG x (y.aH (bB y d)):=(bG.of_eq CO).trans gF;have hzu:=(CS.cS (x:=y) (k:=bB y d)).1;have oj:0<=y.aF.aC:=iT v.toSta hp;unfold CS.oM;dsimp only;split
 ·
  rename_i ZZ
  have hW: ∀ i:Nat,i<many->W1 (4+((hh:Int)+i)):=fun i hi=>by
   have:=F8 vu.qL (by rw[g.oY];lia) (by rw[g7];lia) ZZ i hi;rw[g.oY] at this;exact this
  have jD:=g.NA v.toSta (fun _ h=>h) hW;have rb:=wU (c:=y.aH (bB y d)) (s:=true) (l:=dP) vu.rw t (by rw[g2];exact jD);obtain⟨b1,b2,b3,b4,b5,b6,b7⟩:=qX (c:=y.aH (bB y d)) (op:=gB.1) (n:=gB.2.1.n) (q:=gB.2.2) (s:=true) (l:=dP);have SN:=(CS.gE (x:=y.aH (bB y d)) (op:=gB.1) (n:=gB.2.1.n) (c:=gB.2.2) (s:=true) (l:=dP)).1;generalize (y.aH (bB y d)).branch gB.1 gB.2.1.n gB.2.2 true dP=z at *;have sz:bG x z:=su.trans (.of_eq b3);have:=a.gW;have:=a.size;have:=a.most;refine⟨At.uD ⟨vu.toSta.same b1 b3 b4 b7,by rw[b3];exact rb⟩ (b5.trans (g5.trans Ix)) (b6.trans (g6.trans Cv)) (by rw[b4,g4,eE,sz.1];push_cast;lia) (by lia) (by rw[b2,g3,ST];exact a.fence),sz⟩
 ·
  generalize hu:y.aH (bB y d)=u at *;have rl:Rw u.aP (lk++[W1]) W1 (fun l=>bT u.frames l\/l=u.labels.length):=(vu.rw.bT (fun l h=>Or.inl h)).aP W1;have yG:lk.length=u.labels.length:=vu.rw.elim fun _ k=>k.FO;have Vd:eS u.aP.labels (lk++[W1]) (fun l=>bT u.frames l\/l=u.labels.length) W1 u.labels.length:=
   ⟨by lia,W1,by rw[Int.toNat_natCast,<- yG,List.getElem?_concat_length],fun _ h=>h,.inl (.inr rfl)⟩
  have rb:=wU (c:=u.aP) (s:=false) (l:=u.labels.length) rl t Vd;obtain⟨b1,b2,b3,b4,b5,b6,b7⟩:=qX (c:=u.aP) (op:=gB.1) (n:=gB.2.1.n) (q:=gB.2.2) (s:=false) (l:=u.labels.length);have SN:=(CS.gE (x:=u.aP) (op:=gB.1) (n:=gB.2.1.n) (c:=gB.2.2) (s:=false) (l:=u.labels.length)).1;rw[CS.gH] at SN;generalize hz:u.aP.branch gB.1 gB.2.1.n gB.2.2 false u.labels.length=z at *;have sz:Sta z (lk++[W1]) W1 L h:=vu.toSta.aP.same b1 b3 b4 b7;have VL:bB z d=bB y d:=by
   unfold bB;have e:z.frames.length=y.frames.length:=by
    rw[b3];show u.frames.length=_;rw[<- hu];exact gF.1
   rw[e]
  have iq:z.frames[bB z d]? = some f.eP:=by rw[VL,b3];exact RI
  have VC:=G5 iq;obtain⟨f',B7,Zu,g'⟩:=sz.rD hd hL;have ef:f'=f.eP:=Option.some.inj (g'.oK.symm.trans iq);have eh:f'.aC=f.aC:=by rw[ef];exact Fr.nQ.2
  have el:(Zu:Int)=dP:=by
   have h1:=g'.jD;rw[ef,MW,g.jD] at h1;exact (Option.some.inj h1).symm
  obtain⟨rj,sj,Xh,rows,er,od⟩:=A1 (P':=fun l=>bT u.frames l\/l=u.labels.length) sz rb g' hm hp (fun _ h=>h) (fun l gq=>by
   rw[VC,b3] at gq;exact .inl gq)
  rw[VC,eh,el] at rj sj Xh er;have qg:((z.bR f.aC many).aV 259 dP (.i 0) 0).size<=z.size+many+1:=by
   rw[CS.cO];have:=(CS.cT (x:=z) (fh:=f.aC) (many:=many)).1;lia
  generalize (z.bR f.aC many).aV 259 dP (.i 0) 0=w at *;have Sm:w.frames=u.frames:=sj.frames.trans b3;have rp:Rw (w.aG u.labels.length) (lk++[W1]) W1 (bT u.frames):=rj.aG (l:=u.labels.length) (Kl:=W1) (by rw[<- yG,List.getElem?_concat_length]) (fun _ h=>h) (fun i hi=>hi);have sw:Sta (w.aG u.labels.length) (lk++[W1]) W1 L h:=(sz.same (z:=w) sj.labels sj.frames sj.most Xh).aG;have UM:bG x (w.aG u.labels.length):=su.trans (.of_eq Sm);have:=a.gW;have:=a.size;have:=a.most;have Vn:(w.aG u.labels.length).most=x.most:=by
   show w.most=_;rw[sj.most,b4];show u.most=_;rw[g4,eE]
  refine⟨At.uD ⟨sw,by show Rw _ _ _ (bT w.frames);rw[Sm];exact rp⟩ ?_ ?_ ?_ ?_ ?_,UM⟩
  ·show w.live=true
   rw[sj.live,b5];exact g5.trans Ix
  ·show w.skipped=0
   rw[sj.skipped,b6];exact g6.trans Cv
  ·rw[Vn,UM.1];push_cast;lia
  ·rw[CS.jW];lia
  ·show 0<=(w.rows.length:Int);lia
end
section
variable{x y z:CS}{n:Nat}{L:List (Nat×Bool)}{h:Nat}{lk:List Sl}{W W':Sl}{P P':Int->Prop}
noncomputable def nU(frames:List Fr)(bI:List (Int×Int))(l:Int):Prop:=bT frames l\/ ∃ p∈bI,p.2=l
structure Ep(t:TS)(lk:List Sl)(W:Sl)(L:List (Nat×Bool))(h:Nat)(c:CS):Prop where
 UO:Sta t.x lk W L h
 rw:Rw t.x lk W (nU t.x.frames t.bI)
 cL: ∀ l∈t.cL,eS t.x.labels lk (nU t.x.frames t.bI) W l
 bI: ∀ p∈t.bI,0<=p.2/\lk[p.2.toNat]? = some W
 fr:bG c t.x
 fence:t.x.fence=c.fence
 most:t.x.most=c.most
 live:t.x.live=c.live
 skipped:t.x.skipped=c.skipped
theorem NE{l:List (Int×Int)}{k v:Int}(h:mP l k=some v): ∃ p∈l,p.2=v:=by
 unfold mP at h;obtain⟨p,hp,rfl⟩:=Option.map_eq_some_iff.mp h;exact⟨p,List.mem_of_find?_eq_some hp,rfl⟩
theorem Ep.step{t:TS}{c:CS}(v:Ep t lk W L h c){d many:Nat}{lp:Bool}(hd:d<L.length)(hL:L[L.length - 1 - d]? = some (many,lp))(hm:many<=h): ∃ qN,Ep (t.step d) qN W L h c:=by
 obtain⟨f,hh,dP,g⟩:=v.UO.rD hd hL;have hp:1<=L.length:=by lia
 have h0:=iT v.UO hp;have bE:=v.UO.len;obtain⟨g1,g2,g3,g4,g5,g6,g7⟩:=dM (x:=t.x) (k:=bB t.x d);have sg:=v.UO.eP (k:=bB t.x d) hp;have ZA:f.many.toNat=many:=by rw[g.lY];simp
 have rg: ∀ {Q:Int->Prop},(∀ l,nU t.x.frames t.bI l->Q l)->Rw (t.x.aH (bB t.x d)) lk W Q:=fun hQ=>by
  have:=v.rw.bT hQ;unfold Rw at *;rw[g1,g2,g3,g4];exact this
 have up: ∀ l,nU t.x.frames t.bI l->nU (t.x.aH (bB t.x d)).frames t.bI l:=fun l q=>q.imp sJ id;have YV:bG c (t.x.aH (bB t.x d)):=v.fr.trans gF;unfold TS.step;rw[g.oK];dsimp only;rw[ZA];split
 ·rename_i ZZ
  have hW: ∀ i:Nat,i<many->W (4+((hh:Int)+i)):=fun i hi=>by
   have:=F8 sg.qL (by rw[g.oY];lia) (by rw[g7];lia) ZZ i hi;rw[g.oY] at this;exact this
  have jD:=g.NA v.UO (fun _ h=>h) hW;refine⟨lk,sg,rg up,fun l hl=> ?_,v.bI,YV,g3.trans v.fence,g4.trans v.most,g5.trans v.live,g6.trans v.skipped⟩;rcases List.mem_append.mp hl with q|q
  ·show eS (t.x.aH _).labels _ _ _ _
   rw[g2];exact (v.cL l q).bT up
  ·show eS (t.x.aH _).labels _ _ _ _
   rw[List.mem_singleton.mp q,g2,g.jD];exact jD.bT fun l q=>.inl q
 ·split
  ·rename_i l VQ
   obtain⟨p,I1,rfl⟩:=NE VQ;refine⟨lk,sg,rg up,fun l hl=> ?_,v.bI,YV,g3.trans v.fence,g4.trans v.most,g5.trans v.live,g6.trans v.skipped⟩;show eS (t.x.aH _).labels _ _ _ _;rcases List.mem_append.mp hl with q|q
   ·rw[g2];exact (v.cL l q).bT up
   ·rw[List.mem_singleton.mp q,g2]
    obtain⟨q1,q2⟩:=v.bI p I1;exact⟨q1,W,q2,fun _ h=>h,.inl (.inr ⟨p,I1,rfl⟩)⟩
  ·have Mm:lk.length=t.x.labels.length:=v.rw.elim fun _ k=>k.FO
   have ki: ∀ l,nU t.x.frames t.bI l->nU (t.x.aH (bB t.x d)).frames (t.bI++[((d:Int),(t.x.labels.length:Int))]) l:=fun l q=>(up l q).imp id fun ⟨p,h1,h2⟩=>⟨p,List.mem_append_left _ h1,h2⟩;refine⟨lk++[W],sg.aP,(rg ki).aP W,fun l hl=> ?_,fun p I1=> ?_,YV,g3.trans v.fence,g4.trans v.most,g5.trans v.live,g6.trans v.skipped⟩
   ·show eS ((t.x.aH _).labels++[-1]) _ _ _ _
    rcases List.mem_append.mp hl with q|q
    ·rw[g2];exact ((v.cL l q).bT ki).more
    ·rw[List.mem_singleton.mp q,g2]
     exact⟨by lia,W,by rw[Int.toNat_natCast,<- Mm,List.getElem?_concat_length],fun _ h=>h,.inl (.inr ⟨_,List.mem_append_right _ (List.mem_singleton.mpr rfl),rfl⟩)⟩
   ·rcases List.mem_append.mp I1 with q|q
    ·obtain⟨q1,q2⟩:=v.bI p q
     exact⟨q1,by rw[List.getElem?_append_left (List.getElem?_eq_some_iff.mp q2).1];exact q2⟩
    ·rw[List.mem_singleton.mp q]
     exact⟨by show (0:Int)<=t.x.labels.length;lia,by show (lk++[W])[(t.x.labels.length:Int).toNat]? = _;rw[Int.toNat_natCast,<- Mm,List.getElem?_concat_length]⟩
theorem Ep.cM{c:CS}: ∀ {ds:List Nat} {t:TS} {lk:List Sl},Ep t lk W L h c->(∀ d∈ds,d<L.length/\∃ many,L[L.length - 1 - d]? = some (many,false)/\many<=h)->∃ qN,Ep (t.cM ds) qN W L h c
 | [],t,lk,v,_=>⟨lk,v⟩
 | d::r,t,lk,v,hd=>by
  obtain⟨h1,many,h2,h3⟩:=hd d List.mem_cons_self;obtain⟨qN,v'⟩:=v.step h1 h2 h3;exact Ep.cM (ds:=r) (t:=t.step d) v' (fun e he=>hd e (List.mem_cons_of_mem _ he))
theorem TS.yX: ∀ {ds:List Nat} {t:TS},(t.cM ds).cL.length<=t.cL.length+ds.length
 | [],t=>Nat.le_refl _
 | d::r,t=>by
  have h:=TS.yX (ds:=r) (t:=t.step d);have h2:(t.step d).cL.length<=t.cL.length+1:=by
   unfold TS.step;split
   ·split
    ·simp
    ·split<;>simp
   ·lia
  show ((t.step d).cM r).cL.length<=_;simp only[List.length_cons];lia
theorem G6{k l:Nat}: (x.aH k).aG l=(x.aG l).aH k:=by
 unfold CS.aH;show _=match x.frames[k]? with
  | some f=> { x.aG l with frames:=(x.aG l).frames.set k f.eP }
  | none=>x.aG l
 cases x.frames[k]? with
 | some f=>rfl
 | none=>rfl
theorem F6{c:CS}{ds:List Nat}: ∀ {ps:List (Int×Int)} {x:CS},Sta x lk W L h->Rw x lk W (nU x.frames ps)->(∀ p∈ps,0<=p.2/\lk[p.2.toNat]? = some W)->(∀ p∈ps,∃ d∈ds,p.1=((d:Nat):Int))->(∀ d∈ds,d<L.length/\∃ many,L[L.length - 1 - d]? = some (many,false)/\many<=h)->bG c x->(∃ r,x.rows.getLast? = some r/\x.fence<x.rows.length/\∀ rd wr lb go,fJ r rd wr lb go->go=false)->0<=x.fence->
  Sta (aW x ps) lk W L h/\Rw (aW x ps) lk W (bT (aW x ps).frames)/\bG c (aW x ps)/\Dc (aW x ps)/\(aW x ps).most=x.most/\(aW x ps).skipped=x.skipped/\0<=(aW x ps).fence
 | [],x,v,r,_,_,_,s,st,hf=>⟨v,r.bT fun l q=>q.elim id (fun ⟨p,hp,_⟩=>absurd hp (List.not_mem_nil)),s,⟨st.choose_spec.2.1,st.choose,st.choose_spec.1,st.choose_spec.2.2⟩,rfl,rfl,hf⟩
 | p::ps,x,v,r,hs,hd,LU,s,st,hf=>by
  obtain⟨d,nq,FF⟩:=hd p List.mem_cons_self;obtain⟨nl,many,hL,hm⟩:=LU d nq;obtain⟨q0,q1⟩:=hs p List.mem_cons_self;have hp:1<=L.length:=by lia
  have v1:Sta (x.aG p.2.toNat) lk W L h:=v.aG;have r1:Rw (x.aG p.2.toNat) lk W (nU x.frames ps):=r.aG q1 (fun _ h=>h) (fun i hi=>by
   rcases hi with q|⟨p',I1,e⟩
   ·exact .inl (.inl q)
   ·rcases List.mem_cons.mp I1 with rfl|I1
    ·right;lia
    ·exact .inl (.inr ⟨p',I1,e⟩))
  obtain⟨f,hh,dP,g⟩:=v1.rD nl hL;obtain⟨rj,sj,Xh,rows,er,CO⟩:=A1 (P':=nU ((x.aG p.2.toNat).aH (bB (x.aG p.2.toNat) d)).frames ps) v1 r1 g hm hp (fun l q=>q.imp (fun q=>sJ (x:=x.aG p.2.toNat) q) id) (fun l q=>.inl q);have yI:bW x p=(((x.aG p.2.toNat).aH (bB (x.aG p.2.toNat) d)).bR f.aC many).aV 259 dP (.i 0) 0:=by
   have e:bB (x.aG p.2.toNat) d=bB x p.1.toNat:=by rw[FF];rfl
   have LR:x.frames[bB x p.1.toNat]? = some f:=by rw[<- e];exact g.oK
   unfold bW;rw[LR];dsimp only;rw[G6,e,g.lY,g.jD];rfl
  show Sta (aW (bW x p) ps) lk W L h/\_;have ZU:Sta (bW x p) lk W L h:=by
   rw[yI];obtain⟨g1,g2,g3,g4,g5,g6,g7⟩:=dM (x:=x.aG p.2.toNat) (k:=bB (x.aG p.2.toNat) d);exact (v1.eP (k:=bB (x.aG p.2.toNat) d) hp).same sj.labels sj.frames sj.most (Xh.trans g7.symm)
  have uR:Rw (bW x p) lk W (nU (bW x p).frames ps):=by
   rw[yI];have:((((x.aG p.2.toNat).aH (bB (x.aG p.2.toNat) d)).bR f.aC many).aV 259 dP (.i 0) 0).frames=((x.aG p.2.toNat).aH (bB (x.aG p.2.toNat) d)).frames:=sj.frames;rw[this];exact rj
  have Ol:bG c (bW x p):=by
   rw[yI];have a1:bG x ((x.aG p.2.toNat).aH (bB (x.aG p.2.toNat) d)):=(bG.of_eq (y:=x.aG p.2.toNat) rfl).trans gF;exact (s.trans a1).trans (.of_eq sj.frames)
  obtain⟨g1,g2,g3,g4,g5,g6,g7⟩:=dM (x:=x.aG p.2.toNat) (k:=bB (x.aG p.2.toNat) d);have D5:(bW x p).fence=(x.aG p.2.toNat).fence:=by rw[yI];exact sj.fence.trans g3
  have eE:(bW x p).most=x.most:=by rw[yI];exact sj.most.trans g4
  have Cv:(bW x p).skipped=x.skipped:=by rw[yI];exact sj.skipped.trans g6
  have nz:0<=(bW x p).fence:=by rw[D5];show (0:Int)<=x.rows.length;lia
  obtain⟨a1,a2,a3,a4,a5,a6,a7⟩:=F6 (c:=c) (ds:=ds) (ps:=ps) (x:=bW x p) ZU uR (fun q hq=>hs q (List.mem_cons_of_mem _ hq)) (fun q hq=>hd q (List.mem_cons_of_mem _ hq)) LU Ol ⟨⟨259,dP,.i 0,0⟩,by rw[yI,er];simp,by rw[D5,yI,er,List.length_append];simp;lia,C1⟩ nz;exact⟨a1,a2,a3,a4,a5.trans eE,a6.trans Cv,a7⟩
theorem IJ(a:At x n L (some (h+1)))(hl:x.live=true)(hn:n<=236)(hp:1<=L.length){ds:List Nat}(h3:ds.length<=3)(LU: ∀ d∈ds,d<L.length/\∃ many,L[L.length - 1 - d]? = some (many,false)/\many<=h)(h2: ∀ p∈L,p.1<=2):gD x n L (.table ds) none:=by
 obtain⟨lk,W,v0⟩:=a.alive hl;have h0:=iT v0.toSta hp;have bE:=v0.len;push_cast at bE;have sp:=v0.toSta.pop hp;have Ej:=hU (x:=x);have eE:=a.most;have xC: ∀ d∈ds,fW x.pop d:=fun d hd=>by
  obtain⟨h1,many,hL,hm⟩:=LU d hd;obtain⟨f,hh,dP,g⟩:=sp.rD h1 hL;exact g.depth (by rw[sp.fr.len];exact h1) (by rw[Ej];lia) (h2 _ (List.mem_of_getElem? hL))
 refine⟨⟨a.fits hn,a.fence,fun _=>⟨by lia,xC,by lia⟩⟩,fun adr=> ?_⟩;rw[gN hl];show At (x.pop.mU x.dB ds) _ _ _/\bG x (x.pop.mU x.dB ds);have ht:=v0.qL.dB (by lia);rw[<- hU] at ht;obtain⟨W1,m1,m2,m3,m4,m5⟩:=xX (c:=x.pop) v0.rw v0.qL.pop ht (by rw[Ej];show _<x.most;lia);have kI:=(CS.gO (x:=x.pop) (e:=x.dB) (h:=x.pop.stack.length)).1;have GJ:=CS.cD (x:=x);unfold CS.mU;generalize (x.pop.bN x.pop.stack.length x.dB).2=slot at *;generalize (x.pop.bN x.pop.stack.length x.dB).1=z at *;have sz:Sta z lk W1 L h:=(sp.same m4.labels m4.frames m4.most m5).WU (by rw[m5];exact v0.qL.pop.bJ m1);have t0:Ep ⟨z,[],[]⟩ lk W1 L h z:=⟨sz,by
  show Rw z lk W1 (nU z.frames []);rw[m4.frames];exact m2.bT fun l q=>.inl q,fun l hl=>absurd hl (List.not_mem_nil),fun p hp=>absurd hp (List.not_mem_nil),.refl _,rfl,rfl,rfl,rfl⟩
 obtain⟨qN,v⟩:=t0.cM LU;obtain⟨f1,f2,f3,f4,f5,f6,f7,f8⟩:=TS.F4 (t:=⟨z,[],[]⟩) (ds:=ds) (es:=ds) ⟨0,0,0,0,0,0,0⟩ (fun e he=>he) (fun p hp=>by cases hp);have f3':(TS.cM ⟨z,[],[]⟩ ds).x.size<=z.size+ds.length:=f3;have lj:(TS.cM ⟨z,[],[]⟩ ds).x.stack=z.stack:=f4;have f7':(TS.cM ⟨z,[],[]⟩ ds).bI.length<=0+ds.length:=f7;have XH:(TS.cM ⟨z,[],[]⟩ ds).cL.length<=0+ds.length:=TS.yX;generalize TS.cM ⟨z,[],[]⟩ ds=t at *;have D5:=v.rw.Ai;have rt:Rw (t.x.aV 262 slot (.t t.cL) 0) qN W1 (nU t.x.frames t.bI):=v.rw.aV (.table (by lia)) (by simpa using m3) (by simp) v.cL (fun s hs=>.inl (.inl hs));have st:Sta (t.x.aV 262 slot (.t t.cL) 0) qN W1 L h:=v.UO.same rfl rfl rfl rfl;have qu:bG x z:=.of_eq m4.frames;obtain⟨a1,a2,a3,a4,a5,a6,a7⟩:=F6 (c:=x) (ds:=ds) (ps:=t.bI) st rt v.bI (fun p hp=>(f8 p hp).1) LU (qu.trans v.fr) ⟨⟨262,slot,.t t.cL,0⟩,by show (t.x.rows++[_]).getLast? = _;simp,by show t.x.fence<((t.x.rows++[_]).length:Int);rw[List.length_append];simp;lia,wB (.inr (.inr rfl))⟩ D5.1;have Mu:=F5 (x:=t.x.aV 262 slot (.t t.cL) 0) (ps:=t.bI) (ds:=ds) ⟨0,0,0,0,0,0,0⟩ (fun d hd=>by
  obtain⟨h1,many,hL,hm⟩:=LU d hd;obtain⟨f,hh,dP,g⟩:=st.rD h1 hL;have:=st.len;have:=iT st hp;exact g.depth (by rw[st.fr.len];exact h1) (by lia) (h2 _ (List.mem_of_getElem? hL))) (fun p hp=>(f8 p hp).1) t.bI.length
 rw[List.take_length] at Mu;obtain⟨b1,b2,b3,b4,b5⟩:=Mu;have hez:(t.x.aV 262 slot (.t t.cL) 0).size=t.x.size+1:=CS.cO;generalize aW (t.x.aV 262 slot (.t t.cL) 0) t.bI=w at *;have e1:w.most=x.most:=by rw[a5];show t.x.most=_;rw[v.most,m4.most];rfl
 have e2:w.skipped=x.skipped:=by rw[a6];show t.x.skipped=_;rw[v.skipped,m4.skipped];rfl
 have e3:w.stack.length=x.stack.length - 1:=by rw[b4];show t.x.stack.length=_;rw[lj,m5,Ej]
 exact⟨a.PO (y:= { w with live:=false }) rfl a3 ⟨qN,W1,a2,a1.fr⟩ e2 a4 (by show (w.stack.length:Int)<=_;lia) e1 (by show w.size<=_;lia) a7 hn,a3⟩
end
section
variable{x y z:CS}{n:Nat}{L:List (Nat×Bool)}{h:Nat}{lk:List Sl}{W W':Sl}{P P':Int->Prop}
theorem iU{f:Fr}{F:List Fr}(h:z.frames=F++[f]):z.aF=f:=by
 unfold CS.aF;rw[h,List.getLast?_concat];rfl
theorem vX{F:List Fr}{f:Fr}{l:Int}(h:bT F l):bT (F++[f]) l:=h.imp fun _ k=>⟨List.mem_append_left _ k.1,k.2⟩
theorem De{α:Type}{l:List α}{i:Nat}{v b:α}(h:l[i]? = some v):(l++[b])[i]? = some v:=by
 rw[List.getElem?_append_left (List.getElem?_eq_some_iff.mp h).1];exact h
theorem Pn{labels:List Int}{most:Int}(k:cF x.frames labels lk most L){i:Nat}{g:Fr}(hi:x.frames[i]? = some g):g.aC<=x.aF.aC:=by
 have hl:=(List.getElem?_eq_some_iff.mp hi).1;exact k.bJ _ _ _ _ (by lia) hi (rH (x:=x) (by lia))
theorem cF.iB{labels:List Int}{most:Int}{q:Nat×Bool}{f:Fr}{hh pp rr el:Nat}(k:cF x.frames labels lk most L)(o:pS labels lk most q f hh pp rr el)(hl:x.aF.aC<=f.aC)(h0:L=[]->f.aC=0):cF (x.frames++[f]) labels lk most (L++[q]):=by
 have bE:=k.len;refine⟨by simp [bE],fun i p g hp hg=> ?_,fun i j g g' GH hg LV=> ?_,fun g hg=> ?_⟩
 ·by_cases hi:i<L.length
  ·rw[List.getElem?_append_left hi] at hp
   rw[List.getElem?_append_left (by lia)] at hg;exact k.ok i p g hp hg
  ·have:i=L.length:=by
    have:=(List.getElem?_eq_some_iff.mp hp).1;rw[List.length_append] at this;simp at this;lia
   subst this;rw[List.getElem?_concat_length] at hp;rw[<- bE,List.getElem?_concat_length] at hg;cases hp;cases hg;exact⟨hh,pp,rr,el,o⟩
 ·by_cases hj:j<x.frames.length
  ·rw[List.getElem?_append_left hj] at LV
   rw[List.getElem?_append_left (by lia)] at hg;exact k.bJ i j g g' GH hg LV
  ·have:j=x.frames.length:=by
    have:=(List.getElem?_eq_some_iff.mp LV).1;rw[List.length_append] at this;simp at this;lia
   subst this;rw[List.getElem?_concat_length] at LV;cases LV;by_cases hi:i<x.frames.length
   ·rw[List.getElem?_append_left hi] at hg
    exact Int.le_trans (Pn k hg) hl
   ·have:i=x.frames.length:=by lia
    subst this;rw[List.getElem?_concat_length] at hg;cases hg;exact Int.le_refl _
 ·by_cases hi:0<x.frames.length
  ·rw[List.getElem?_append_left hi] at hg
   exact k.zero g hg
  ·have e:x.frames=[]:=List.eq_nil_of_length_eq_zero (by lia)
   rw[e] at hg;cases hg;exact h0 (List.eq_nil_of_length_eq_zero (by lia))
theorem Cu{k i:Nat}(h:i<k):(CS.dC k)[i]? = some (.pl (4+i)):=by
 have hl:i<(CS.dC k).length:=by simp [CS.dC];exact h
 rw[List.getElem?_eq_getElem hl];exact congrArg some (yH i _ (List.getElem?_eq_getElem hl))
theorem nR{k:Nat}: (CS.dC k).length=k:=by simp [CS.dC]
theorem Live.cB(v:Live x lk W L h):zC (fun W'=>(∀ s,W s->W' s)) (fun W'=>Live (x.aI x.stack.length) lk W' L h) (fun W'=>sY (x.aI x.stack.length).stack) (fun W'=>fK x (x.aI x.stack.length)) (fun W'=>(x.aI x.stack.length).stack.length=x.stack.length):=by
 obtain⟨W',h1,h2,h3,h4,h5⟩:=pM v.rw v.qL v.most;have hl:(x.aI x.stack.length).stack.length=x.stack.length:=CS.dA;generalize x.aI x.stack.length=z at *;have hf:z.aF=x.aF:=by unfold CS.aF;rw[h5.frames]
 refine⟨W',h1,⟨⟨by rw[h5.labels,h5.frames,h5.most];exact v.fr,h3,by rw[hl,hf];exact v.len,fun i hi=> ?_,by rw[hl,h5.most];exact v.most⟩,by rw[h5.frames];exact h2⟩,h4,h5,hl⟩;rw[hf] at hi;have:=v.len;have eA:i<z.stack.length:=by rw[hl];lia
 rw[List.getElem?_eq_getElem eA];exact congrArg some (h4 i _ (List.getElem?_eq_getElem eA))
structure Lg(x z:CS)(W':Sl)(f:Fr)(hh p r:Nat):Prop where
 iC: ∀ s,bF (hh+p) s->W' s
 fr:z.frames=x.frames++[f]
 nO:f.elseL=none
 aC:f.aC=(hh:Int)
 params:f.params=(p:Int)
 aU:f.aU=(r:Int)
 used:f.used=false
 most:z.most=x.most
 live:z.live=x.live
 skipped:z.skipped=x.skipped
 size:z.size<=x.size+x.stack.length+3
 fence:0<=x.fence->0<=z.fence
 len:z.stack.length=x.stack.length
theorem EO{code:Int}{p r h0 adr:Nat}(hc:code≠3)(v:Live x lk W L (h0+p))(Y5:0<=x.aF.aC)(hL:L=[]->h0=0)(hp:p<=2)(hr:r<=2):Ot (fun W' (hh:Nat) qN f=>(hh:Int)=x.aF.aC+h0) (fun W' (hh:Nat) qN f=>(∀ s,W s->W' s)) (fun W' (hh:Nat) qN f=>Lg x (x.aL code p r adr) W' f hh p r) (fun W' (hh:Nat) qN f=>Live (x.aL code p r adr) qN W' (L++[(r,false)]) p) (fun W' (hh:Nat) qN f=>f.code=code):=by
 obtain⟨W',w1,w2,w3,w4,w5⟩:=v.cB;have bE:=v.len;have kI:=CS.bS (x:=x) (n:=x.stack.length);unfold CS.aL CS.pF;rw[if_neg hc];generalize x.aI x.stack.length=y at *;have hf:y.aF=x.aF:=by unfold CS.aF;rw[w4.frames]
 obtain⟨hh,Oe⟩: ∃ hh:Nat,(hh:Int)=x.aF.aC+h0:=⟨(x.aF.aC+h0).toNat,by lia⟩;have tJ:y.stack.length=hh+p:=by lia
 have FE:lk.length=y.labels.length:=w2.rw.elim fun _ k=>k.FO;have jM:(y.rK code p r adr).aC=(hh:Int):=by show (y.stack.length:Int) - p=_;lia
 have FC:=sY.iC w2.qL w3;rw[tJ] at FC;have fo:pS y.aP.labels (lk++[bF (hh+r)]) y.most (r,false) (y.rK code p r adr) hh p r y.labels.length:=
  ⟨⟨fun h=>absurd h hc,fun h=>by cases h⟩,by unfold Fr.many;exact if_neg hc,jM,rfl,rfl,rfl,by rw[<- FE,List.getElem?_concat_length],⟨hp,hr⟩,by have:=w2.most;lia,fun h=>absurd h hc,fun l hl=>by cases hl⟩
 have Pi:L=[]->(y.rK code p r adr).aC=0:=fun e=>by
  have:=hL e;have e2:x.frames=[]:=by
   have:=v.fr.len;rw[e] at this;exact List.eq_nil_of_length_eq_zero this
  have:x.aF.aC=0:=by unfold CS.aF;rw[e2];rfl
  lia
 have fr:=cF.iB (x:=y) (k:=(w2.fr.aP (a:= -1) (K:=bF (hh+r)))) fo (by rw[jM,hf];lia) Pi;have Mx:(y.aP.pT (y.rK code p r adr)).frames=y.frames++[y.rK code p r adr]:=rfl;refine⟨W',hh,lk++[bF (hh+r)],y.rK code p r adr,Oe,w1,⟨FC,by rw[Mx,w4.frames],rfl,jM,rfl,rfl,rfl,w4.most,w4.live,w4.skipped,?_,fun q=>by show 0<=y.fence;rw[w4.fence];exact q,w5⟩,⟨⟨fr,w2.qL,?_,fun i hi=> ?_,w2.most⟩,?_⟩,rfl⟩
 ·have:(y.aP.pT (y.rK code p r adr)).size=y.size+2:=by simp [CS.size,CS.aP,CS.pT];lia
  lia
 ·rw[iU Mx,jM]
  show (y.stack.length:Int)=_;lia
 ·rw[iU Mx,jM] at hi
  show y.stack[i]? = _;have eA:i<y.stack.length:=by lia
  rw[List.getElem?_eq_getElem eA];exact congrArg some (w3 i _ (List.getElem?_eq_getElem eA))
 ·have r1:Rw y.aP (lk++[bF (hh+r)]) W' (bT y.frames):=w2.rw.aP _
  exact r1.bT fun l q=>vX q
theorem Kn{p h0 adr:Nat}(v:Live x lk W L (h0+p))(Y5:0<=x.aF.aC)(hL:L=[]->h0=0)(hp:p<=2):Lj (fun (hh:Nat) qN f=>(hh:Int)=x.aF.aC+h0) (fun (hh:Nat) qN f=>Lg x (x.aL 3 p p adr) (bF (hh+p)) f hh p p) (fun (hh:Nat) qN f=>Live (x.aL 3 p p adr) qN (bF (hh+p)) (L++[(p,true)]) p) (fun (hh:Nat) qN f=>f.code=3):=by
 obtain⟨W',w1,w2,w3,w4,w5⟩:=v.cB;have bE:=v.len;have kI:=CS.bS (x:=x) (n:=x.stack.length);unfold CS.aL CS.pF;rw[if_pos rfl];generalize x.aI x.stack.length=y at *;have hf:y.aF=x.aF:=by unfold CS.aF;rw[w4.frames]
 obtain⟨hh,Oe⟩: ∃ hh:Nat,(hh:Int)=x.aF.aC+h0:=⟨(x.aF.aC+h0).toNat,by lia⟩;have tJ:y.stack.length=hh+p:=by lia
 have FE:lk.length=y.labels.length:=w2.rw.elim fun _ k=>k.FO;generalize xD:({ y.rK 3 p p adr with begL:=some ((y.labels.length+1:Nat):Int) }: Fr)=f;have jM:f.aC=(hh:Int):=by subst xD;show (y.stack.length:Int) - p=_;lia
 have FC:=sY.iC w2.qL w3;rw[tJ] at FC;have jD:(y.aP.aP.aG (y.labels.length+1)).labels=y.labels++[-1]++[(y.rows.length:Int)]:=by
  show (y.labels++[-1]++[-1]).set (y.labels.length+1) _=_;rw[List.set_append_right _ _ (by simp)];simp;rfl
 have VR:(lk++[bF (hh+p)]++[bF (hh+p)])[y.labels.length+1]? = some (bF (hh+p)):=by
  have e:y.labels.length+1=(lk++[bF (hh+p)]).length:=by simp [FE]
  rw[e,List.getElem?_concat_length]
 have fo:pS (y.aP.aP.aG (y.labels.length+1)).labels (lk++[bF (hh+p)]++[bF (hh+p)]) y.most (p,true) f hh p p y.labels.length:=by
  refine⟨⟨fun _=>rfl,fun _=>by subst xD;rfl⟩,by subst xD;rfl,jM,by subst xD;rfl,by subst xD;rfl,by subst xD;rfl,?_,⟨hp,hp⟩,by have:=w2.most;lia,fun _=>⟨y.labels.length+1,y.rows.length,by subst xD;rfl,VR,?_⟩,fun l hl=>by subst xD;cases hl⟩
  ·exact De (by rw[<- FE,List.getElem?_concat_length])
  ·rw[jD]
   have e:y.labels.length+1=(y.labels++[-1]).length:=by simp
   rw[e,List.getElem?_concat_length]
 have Pi:L=[]->f.aC=0:=fun e=>by
  have:=hL e;have e2:x.frames=[]:=by
   have:=v.fr.len;rw[e] at this;exact List.eq_nil_of_length_eq_zero this
  have:x.aF.aC=0:=by unfold CS.aF;rw[e2];rfl
  lia
 have SD:cF y.frames (y.aP.aP.aG (y.labels.length+1)).labels (lk++[bF (hh+p)]++[bF (hh+p)]) y.most L:=((w2.fr.aP (a:= -1) (K:=bF (hh+p))).aP (a:= -1) (K:=bF (hh+p))).kP;have fr:=cF.iB (x:=y) SD fo (by rw[jM,hf];lia) Pi;have Mx:((y.aP.aP.aG (y.labels.length+1)).pT f).frames=y.frames++[f]:=rfl;refine⟨hh,lk++[bF (hh+p)]++[bF (hh+p)],f,Oe,⟨fun _ h=>h,by rw[Mx,w4.frames],by subst xD;rfl,jM,by subst xD;rfl,by subst xD;rfl,by subst xD;rfl,w4.most,w4.live,w4.skipped,?_,fun q=>by show (0:Int)<=y.rows.length;lia,w5⟩,?_,by subst xD;rfl⟩
 ·have:((y.aP.aP.aG (y.labels.length+1)).pT f).size=y.size+3:=by simp [CS.size,CS.aP,CS.pT,CS.aG];lia
  lia
 have vN:gU y.stack (bF (hh+p)):=by
  rw[Mq w3,tJ];exact xE fun _ h=>h
 refine⟨⟨fr,vN,?_,fun i hi=> ?_,w2.most⟩,?_⟩
 ·rw[iU Mx,jM]
  show (y.stack.length:Int)=_;lia
 ·rw[iU Mx,jM] at hi
  show y.stack[i]? = _;have eA:i<y.stack.length:=by lia
  rw[List.getElem?_eq_getElem eA];exact congrArg some (w3 i _ (List.getElem?_eq_getElem eA))
 ·have r1:Rw (y.aP.aP.aG (y.labels.length+1)) (lk++[bF (hh+p)]++[bF (hh+p)]) (bF (hh+p)) (bT y.frames):=(((w2.rw.OV FC).aP (bF (hh+p))).aP (bF (hh+p))).aG VR (fun _ h=>h) (fun i hi=>.inl hi)
  exact r1.bT fun l q=>vX q
end
namespace CS
noncomputable def Im(x:CS)(f:Fr)(fe hp:Nat):CS:=(((x.eX.gK).oQ f.elseL).gZ f.used fe).eD hp
end CS
noncomputable def UW(c:CS)(m:Int)(lk:List Sl)(W:Sl)(P:Int->Prop):Prop:=∃ ks,wM c.rows c.labels c.fence m ks lk W P
section
variable{x y z:CS}{n:Nat}{L:List (Nat×Bool)}{q:Nat×Bool}{h:Nat}{lk:List Sl}{W W' K:Sl}{P P':Int->Prop}
theorem cF.BL{frames:List Fr}{labels:List Int}{m m':Int}(k:cF frames labels lk m L)(h:m<=m'):cF frames labels lk m' L:=
 ⟨k.len,fun i p f hp hf=>by
  obtain⟨hh,pp,rr,el,ok⟩:=k.ok i p f hp hf;exact⟨hh,pp,rr,el,{ ok with fit:=Int.le_trans ok.fit h }⟩,k.bJ,k.zero⟩
theorem cF.pop{frames:List Fr}{labels:List Int}{m:Int}(k:cF frames labels lk m (L++[q])):cF frames.dropLast labels lk m L:=by
 have hl:=k.len;rw[List.length_append] at hl;have g: ∀ {i:Nat} {f:Fr},frames.dropLast[i]? = some f->frames[i]? = some f:=fun h=>by
  rw[List.getElem?_dropLast] at h;split at h
  ·exact h
  ·cases h
 exact⟨by rw[List.length_dropLast,hl];simp,fun i p f hp hf=>k.ok i p f (De hp) (g hf),fun i j f f' GH hf RH=>k.bJ i j f f' GH (g hf) (g RH),fun f hf=>k.zero f (g hf)⟩
theorem cF.pB{labels:List Int}{m:Int}(k:cF x.frames labels lk m (L++[q])):Jp (fun hh pp rr el=>pS labels lk m q x.aF hh pp rr el):=by
 have hl:=k.len;rw[List.length_append] at hl;simp at hl;have h1:=rH (x:=x) (by lia);refine k.ok _ _ _ ?_ h1;rw[hl];exact List.getElem?_concat_length
theorem yE(h:1<=x.frames.length):x.frames=x.frames.dropLast++[x.aF]:=by
 have rZ:x.frames≠[]:=fun e=>by rw[e] at h;simp at h
 obtain⟨f,hf⟩:=eL (l:=x.frames) h;have e:x.aF=f:=by unfold CS.aF;rw[hf];rfl
 rw[List.getLast?_eq_some_getLast rZ] at hf;cases hf;rw[e];exact (List.dropLast_concat_getLast rZ).symm
theorem BV(h:1<=x.frames.length){l:Int}(p:bT x.frames l):bT x.frames.dropLast l\/(x.aF.used=true/\x.aF.eU=some l)\/x.aF.elseL=some l:=by
 rw[yE h] at p;obtain⟨f,hf,k⟩:=p;rcases List.mem_append.mp hf with hf|hf
 ·exact .inl ⟨f,hf,k⟩
 ·rw[List.mem_singleton.mp hf] at k
  exact .inr k
theorem Fe{F:List Fr}{m:Int}{l:Nat}(r:UW x m lk K P)(k:cF F x.labels lk m L)(hl:lk[l]? = some K)(hP: ∀ i,P i->P' i\/i=l):UW (x.aG l).xM m lk K P'/\cF F (x.aG l).xM.labels lk m L:=
 ⟨r.imp fun _ w=>w.kP hl (fun _ h=>h) hP,k.kP⟩
structure US(x w:CS)(L:List (Nat×Bool))(hh r:Nat):Prop where
 rows:dO (fun lk=>Rw w lk (bF (hh+r)) (bT w.frames)) (fun lk=>cF w.frames w.labels lk w.most L)
 fr:w.frames=x.frames.dropLast
 skipped:w.skipped=x.skipped
 stop:w.live=false->Dc w
 stack:w.stack=CS.dC (hh+r)
 most:w.most=CS.rJ x.most (hh+r:Nat)
 size:w.size<=x.size+(hh+r)
 fence:0<=w.fence
theorem Sy{i j:Int}: i<=CS.rJ i j:=by
 unfold CS.rJ;by_cases h:j>i
 ·rw[if_pos h];exact Int.le_of_lt h
 ·rw[if_neg h];exact Int.le_refl _
theorem Sz{i j:Int}: j<=CS.rJ i j:=by
 unfold CS.rJ;by_cases h:j>i
 ·rw[if_pos h];exact Int.le_refl _
 ·rw[if_neg h];exact Int.not_lt.mp h
theorem MO{ho:Option Nat}{hh r:Nat}(a:At x n (L++[q]) ho)(hE:wO ho r)(jM:x.aF.aC=hh)(sV:x.aF.aU=r)(KV:x.aF.elseL=none\/x.aF.params=r):US x (x.Im x.aF (x.aF.eU.getD 0).toNat (hh+r)) L hh r:=by
 obtain⟨lk,W,r0,fr,qL⟩:=a.rows;have pX:1<=x.frames.length:=by rw[fr.len,List.length_append];exact Nat.le_add_left _ _
 obtain⟨B7,pp,rr,el,fo⟩:=fr.pB;have e1:B7=hh:=Int.ofNat.inj (fo.aC.symm.trans jM);have e2:rr=r:=Int.ofNat.inj (fo.aU.symm.trans sV);subst e1 e2;have hm:x.most<=CS.rJ x.most (B7+rr:Nat):=Sy;have XJ:((B7+rr:Nat):Int)<=CS.rJ x.most (B7+rr:Nat):=Sz;unfold CS.Im;have c1: ∀ x1,x.eX.gK=x1->A9 (UW x1 (CS.rJ x.most (B7+rr:Nat)) lk (bF (B7+rr)) (bT x.frames)) (x1.labels=x.labels) (x1.frames=x.frames.dropLast) (x1.fence=x.fence) (x1.live=x.live) (x1.skipped=x.skipped) (x1.most=x.most) (x1.rows.length+x1.labels.length+x1.frames.length<=x.size) ((x.live=false->Dc x1)):=by
  rintro _ rfl
  have GJ:x.eX.rows.length+x.eX.labels.length+x.eX.stack.length+x.eX.frames.length+1=x.size:=by
   simp [CS.eX,CS.size];lia
  unfold CS.gK;cases hl:x.live with
  | true=>
   rw[if_pos (show x.eX.live=true from hl)];obtain⟨h',e,bE⟩:=a.high hl;have e':h'=rr:=by
    rcases hE with q|q<;>rw[e] at q<;>cases q;rfl
   subst e';have KW:x.stack.length=B7+h':=by rw[jM] at bE;lia
   obtain⟨W',w1,w2,w3,w4,w5⟩:=pM (c:=x.eX) r0 (qL hl) a.most;have kI:=CS.bS (x:=x.eX) (n:=x.eX.stack.length);have Mm:(x.eX.aI x.eX.stack.length).stack.length=x.eX.stack.length:=CS.dA;have hb:=sY.iC w3 w4;rw[Mm] at hb;have my: ∀ s,bF (B7+h') s->W' s:=by rw[<- KW];exact hb
   generalize x.eX.aI x.eX.stack.length=z at *;have hz:z.size=z.rows.length+z.labels.length+z.stack.length+z.frames.length:=rfl;have GK:x.eX.size=x.eX.rows.length+x.eX.labels.length+x.eX.stack.length+x.eX.frames.length:=rfl;obtain⟨ks,k⟩:=w2.OV my;refine⟨⟨ks,k.BL (by rw[w5.most];exact hm)⟩,w5.labels,w5.frames,w5.fence,w5.live.trans hl,w5.skipped,w5.most,by lia,(fun q=>by cases q)⟩
  | false=>
   rw[if_neg (by rw[show x.eX.live=x.live from rfl,hl];decide)];obtain⟨s1,r,s2,s3⟩:=a.stop hl;obtain⟨ks,k⟩:=r0;exact⟨⟨ks,(k.BL hm).free s2 s1 s3 (fun s hs=>⟨hs.1,by have:=hs.2;lia⟩)⟩,rfl,rfl,rfl,hl,rfl,rfl,by lia,fun _=>⟨s1,r,s2,s3⟩⟩
 obtain⟨x1,dm⟩: ∃ x1,x.eX.gK=x1:=⟨_,rfl⟩;obtain⟨r1,l1,f1,n1,v1,k1,m1,z1,t1⟩:=c1 _ dm;rw[dm];have du:cF x.frames.dropLast x1.labels lk (CS.rJ x.most (B7+rr:Nat)) L:=by rw[l1];exact (fr.pop).BL hm
 have c2: ∀ x2,x1.oQ x.aF.elseL=x2->A7 (UW x2 (CS.rJ x.most (B7+rr:Nat)) lk (bF (B7+rr)) (fun l=>bT x.frames.dropLast l\/(x.aF.used=true/\x.aF.eU=some l))) (cF x.frames.dropLast x2.labels lk (CS.rJ x.most (B7+rr:Nat)) L) (x2.frames=x1.frames) (x2.skipped=x1.skipped) (x2.labels.length=x1.labels.length) (x2.rows=x1.rows) ((x2.live=false->Dc x2)):=by
  rintro _ rfl
  cases he:x.aF.elseL with
  | none=>
   refine⟨r1.imp fun _ k=>k.bT fun l p=> ?_,du,rfl,rfl,rfl,rfl,fun q=>t1 (by rw[<- v1];exact q)⟩;rcases BV pX p with p|p|p
   ·exact .inl p
   ·exact .inr p
   ·rw[he] at p;cases p
  | some l=>
   obtain⟨e,e1,e2⟩:=fo.nO l he;have lh:pp=rr:=by
    rcases KV with p|p
    ·rw[he] at p;cases p
    ·exact Int.ofNat.inj (fo.params.symm.trans p)
   subst lh;have Iw:l.toNat=e:=by lia
   obtain⟨g1,g2⟩:=Fe (x:=x1) (l:=l.toNat) (P':=fun l=>bT x.frames.dropLast l\/(x.aF.used=true/\x.aF.eU=some l)) r1 du (by rw[Iw];exact e2) (fun i p=>by
    rcases BV pX p with p|p|p
    ·exact .inl (.inl p)
    ·exact .inl (.inr p)
    ·rw[he] at p;cases p;right;lia)
   exact⟨g1,g2,rfl,rfl,by show (x1.labels.set _ _).length=_;simp,rfl,(fun q=>by cases q)⟩
 obtain⟨x2,YQ⟩: ∃ x2,x1.oQ x.aF.elseL=x2:=⟨_,rfl⟩;obtain⟨r2,dw,f2,k2,l2,w2,t2⟩:=c2 _ YQ;rw[YQ];have c3: ∀ x3,x2.gZ x.aF.used (x.aF.eU.getD 0).toNat=x3->A7 (UW x3 (CS.rJ x.most (B7+rr:Nat)) lk (bF (B7+rr)) (bT x.frames.dropLast)) (cF x.frames.dropLast x3.labels lk (CS.rJ x.most (B7+rr:Nat)) L) (x3.frames=x2.frames) (x3.skipped=x2.skipped) (x3.labels.length=x2.labels.length) (x3.rows=x2.rows) ((x3.live=false->Dc x3)):=by
  rintro _ rfl
  unfold CS.gZ;cases hu:x.aF.used with
  | false=>
   rw[if_neg (by decide)];refine⟨r2.imp fun _ k=>k.bT fun l p=> ?_,dw,rfl,rfl,rfl,rfl,t2⟩;rcases p with p|p
   ·exact p
   ·rw[hu] at p;cases p.1
  | true=>
   rw[if_pos rfl];have Me:(x.aF.eU.getD 0).toNat=el:=by rw[fo.eU];simp
   obtain⟨g1,g2⟩:=Fe (x:=x2) (l:=(x.aF.eU.getD 0).toNat) (P':=bT x.frames.dropLast) r2 dw (by rw[Me];exact fo.gP) (fun i p=>by
    rcases p with p|p
    ·exact .inl p
    ·right;have:=p.2;rw[fo.eU] at this;cases this;lia)
   exact⟨g1,g2,rfl,rfl,by show (x2.labels.set _ _).length=_;simp,rfl,(fun q=>by cases q)⟩
 obtain⟨x3,YR⟩: ∃ x3,x2.gZ x.aF.used (x.aF.eU.getD 0).toNat=x3:=⟨_,rfl⟩;obtain⟨r3,lr,f3,k3,l3,w3,t3⟩:=c3 _ YR;rw[YR];have ff:x3.frames=x.frames.dropLast:=f3.trans (f2.trans f1);have Zj:x3.most=x.most:=by
  rw[<- YR,<- YQ];have a1: ∀ {u:CS} {b:Bool} {k:Nat},(u.gZ b k).most=u.most:=fun {u b k}=>by unfold CS.gZ;split<;>rfl
  have a2: ∀ {u:CS} {o:Option Int},(u.oQ o).most=u.most:=fun {u o}=>by cases o<;>rfl
  rw[a1,a2,m1]
 have eE:(x3.eD (B7+rr)).most=CS.rJ x.most (B7+rr:Nat):=by
  show CS.rJ x3.most _=_;rw[Zj]
 have Og:0<=x3.fence:=r3.elim fun _ k=>k.f0;refine⟨⟨lk,?_,?_⟩,ff,k3.trans (k2.trans k1),t3,rfl,eE,?_,Og⟩
 ·unfold Rw
  rw[eE];show ∃ ks,wM x3.rows x3.labels x3.fence _ ks lk _ (bT x3.frames);rw[ff];exact r3
 ·rw[eE]
  show cF x3.frames x3.labels lk _ L;rw[ff];exact lr
 ·show x3.rows.length+x3.labels.length+(CS.dC (B7+rr)).length+x3.frames.length<=_
  rw[nR,w3,w2,l3,l2,f3,f2];lia
end
section
variable{x y z:CS}{n:Nat}{L:List (Nat×Bool)}{q:Nat×Bool}{h:Nat}{lk:List Sl}{W W' K:Sl}{P P':Int->Prop}
theorem lD{m:Int}{p r:Nat}(h:fF m=some (p,r)):p<=2/\r<=2:=
 C4 (P:=fun _ p r=>p<=2/\r<=2) h (by decide) (by decide) (by decide) (by decide) (by decide) (by decide)
theorem At.PM(a:At x n L (some h))(hl:x.live=true):0<=x.aF.aC:=by
 obtain⟨lk,W,v⟩:=a.alive hl;by_cases hp:1<=L.length
 ·exact iT v.toSta hp
 ·have e:x.frames=[]:=List.eq_nil_of_length_eq_zero (by have:=v.fr.len;lia)
  unfold CS.aF;rw[e];exact Int.le_refl _
theorem II{p r:Nat}(a:At x n L (some (h+p)))(hl:x.live=true)(hn:n<=236)(hL:L=[]->h=0){m:Int}(hm:fF m=some (p,r)):x.Op (.block m)/\∀ adr,At (x.take (.block m) adr) (n+1) (L++[(r,false)]) (some p)/\zC (fun f=>(x.take (.block m) adr).frames=x.frames++[f]) (fun f=>f.aC=x.aF.aC+h) (fun f=>f.params=(p:Int)) (fun f=>f.aU=(r:Int)) (fun f=>f.elseL=none):=by
 obtain⟨lk,W,v⟩:=a.alive hl;obtain⟨hp,hr⟩:=lD hm;refine⟨⟨a.fits hn,a.fence,fun _=>by show (fF m).isSome=true;rw[hm];rfl⟩,fun adr=> ?_⟩;rw[gN hl];have KS:CS.io m=(p,r):=by unfold CS.io;rw[hm];rfl
 show At (x.aL 2 (CS.io m).1 (CS.io m).2 adr) _ _ _/\_;show _/\zC (fun f=>(x.aL 2 (CS.io m).1 (CS.io m).2 adr).frames=_) _ _ _ _;rw[KS];dsimp only;obtain⟨W',hh,qN,f,Oe,w,o,v',_⟩:=EO (code:=2) (r:=r) (adr:=adr) (by decide) v (a.PM hl) hL hp hr;have:=a.gW;have:=a.size;have:=a.most;have pX:(x.aL 2 p r adr).frames.length=x.frames.length+1:=by rw[o.fr];simp
 have:=o.size;refine⟨At.uD v' (o.live.trans hl) (o.skipped.trans a.skip) (by rw[o.most,pX];push_cast;lia) (by lia) (o.fence a.fence),f,o.fr,by rw[o.aC,Oe],o.params,o.aU,o.nO⟩
theorem DQ{p:Nat}(a:At x n L (some (h+p)))(hl:x.live=true)(hn:n<=236)(hL:L=[]->h=0){m:Int}(hm:fF m=some (p,p)):x.Op (.kO m)/\∀ adr,At (x.take (.kO m) adr) (n+1) (L++[(p,true)]) (some p)/\zC (fun f=>(x.take (.kO m) adr).frames=x.frames++[f]) (fun f=>f.aC=x.aF.aC+h) (fun f=>f.params=(p:Int)) (fun f=>f.aU=(p:Int)) (fun f=>f.elseL=none):=by
 obtain⟨lk,W,v⟩:=a.alive hl;obtain⟨hp,hr⟩:=lD hm;refine⟨⟨a.fits hn,a.fence,fun _=>by show (fF m).isSome=true;rw[hm];rfl⟩,fun adr=> ?_⟩;rw[gN hl];have KS:CS.io m=(p,p):=by unfold CS.io;rw[hm];rfl
 show At (x.aL 3 (CS.io m).1 (CS.io m).2 adr) _ _ _/\_;show _/\zC (fun f=>(x.aL 3 (CS.io m).1 (CS.io m).2 adr).frames=_) _ _ _ _;rw[KS];dsimp only;obtain⟨hh,qN,f,Oe,o,v',_⟩:=Kn (adr:=adr) v (a.PM hl) hL hp;have:=a.gW;have:=a.size;have:=a.most;have pX:(x.aL 3 p p adr).frames.length=x.frames.length+1:=by rw[o.fr];simp
 have:=o.size;refine⟨At.uD v' (o.live.trans hl) (o.skipped.trans a.skip) (by rw[o.most,pX];push_cast;lia) (by lia) (o.fence a.fence),f,o.fr,by rw[o.aC,Oe],o.params,o.aU,o.nO⟩
theorem cF.JX{F:List Fr}{f g:Fr}{labels:List Int}{m:Int}{hh pp rr el:Nat}(k:cF (F++[f]) labels lk m (L++[q]))(o:pS labels lk m q g hh pp rr el)(e:g.aC=f.aC):cF (F++[g]) labels lk m (L++[q]):=by
 have hl:=k.len;have hF:F.length=L.length:=by simpa using hl
 have g0: ∀ {i:Nat} {u:Fr},(F++[g])[i]? = some u->Os (fun u'=>(F++[f])[i]? = some u') (fun u'=>u'.aC=u.aC) (fun u'=>(i<F.length->u'=u)) (fun u'=>(i=F.length->u=g)):=fun {i u} h=>by
  by_cases hi:i<F.length
  ·rw[List.getElem?_append_left hi] at h ⊢
   exact⟨u,h,rfl,fun _=>rfl,fun _=>by lia⟩
  ·have:i=F.length:=by
    have:=(List.getElem?_eq_some_iff.mp h).1;rw[List.length_append] at this;simp at this;lia
   subst this;rw[List.getElem?_concat_length] at h ⊢;cases h;exact⟨f,rfl,e.symm,fun _=>by lia,fun _=>rfl⟩
 refine⟨by rw[<- hl];simp,fun i p u hp hu=> ?_,fun i j u u' GH hu Mw=> ?_,fun u hu=> ?_⟩
 ·obtain⟨u',h1,h2,h3,h4⟩:=g0 hu
  by_cases hi:i<F.length
  ·rw[<- h3 hi];exact k.ok i p u' hp h1
  ·have e2:i=F.length:=by
    have:=(List.getElem?_eq_some_iff.mp hu).1;rw[List.length_append] at this;simp at this;lia
   rw[h4 e2];rw[e2,hF,List.getElem?_concat_length] at hp;cases hp;exact⟨_,_,_,_,o⟩
 ·obtain⟨v,h1,h2,_⟩:=g0 hu
  obtain⟨v',mf,mh,_⟩:=g0 Mw;rw[<- h2,<- mh];exact k.bJ i j v v' GH h1 mf
 ·obtain⟨v,h1,h2,_⟩:=g0 hu
  rw[<- h2];exact k.zero v h1
theorem Bm{α:Type}{l:List α}{g:α}: ∀ {k:Nat},k+1=l.length->l.set k g=l.dropLast++[g]:=fun {k} h=>by
 apply List.ext_getElem?;intro i;rw[List.getElem?_set];by_cases e:k=i
 ·subst e
  rw[if_pos rfl,if_pos (by lia)];have:k=l.dropLast.length:=by simp;lia
  rw[this,List.getElem?_concat_length]
 ·rw[if_neg e]
  by_cases hi:i<l.dropLast.length
  ·rw[List.getElem?_append_left hi,List.getElem?_dropLast,if_pos (by simpa using hi)]
  ·rw[List.getElem?_eq_none (by simp at hi;lia),List.getElem?_eq_none (by simp at hi ⊢;lia)]
theorem JZ{p r:Nat}(a:At x n L (some (h+p+1)))(hl:x.live=true)(hn:n<=236)(FF:1<=L.length){m:Int}(hm:fF m=some (p,r)):x.Op (.iff m)/\∀ adr,At (x.take (.iff m) adr) (n+1) (L++[(r,false)]) (some p)/\zC (fun f=>(x.take (.iff m) adr).frames=x.frames++[f]) (fun f=>f.aC=x.aF.aC+h) (fun f=>f.params=(p:Int)) (fun f=>f.aU=(r:Int)) (fun f=>f.elseL.isSome=true):=by
 obtain⟨lk,W,v0⟩:=a.alive hl;obtain⟨hp,hr⟩:=lD hm;have h0:=iT v0.toSta FF;have Mj:=v0.len;push_cast at Mj;obtain⟨W1,v,t⟩:=v0.cond FF;refine⟨⟨a.fits hn,a.fence,fun _=>⟨by lia,by rw[hm];rfl,t.Sp⟩⟩,fun adr=> ?_⟩;rw[gN hl];have KS:CS.io m=(p,r):=by unfold CS.io;rw[hm];rfl
 show At ((x.pop.aE x.dB).1.Ax (x.pop.aE x.dB).2 (CS.io m) adr) _ _ _/\zC (fun f=>((x.pop.aE x.dB).1.Ax (x.pop.aE x.dB).2 (CS.io m) adr).frames=_) _ _ _ _;rw[KS];obtain⟨c1,c2,c3,c4,c5,c6,c7⟩:=lU (c:=x.pop) (e:=x.dB);have kI:=(CS.eT (x:=x.pop) (e:=x.dB)).1;have GJ:=CS.cD (x:=x);have CO:(x.pop.aE x.dB).1.frames=x.frames:=c3;have Ix:(x.pop.aE x.dB).1.live=true:=c5.trans hl;have Cv:(x.pop.aE x.dB).1.skipped=0:=c6.trans a.skip;have eE:(x.pop.aE x.dB).1.most=x.most:=c4;have ST:(x.pop.aE x.dB).1.fence=x.fence:=c2;have qe:(x.pop.aE x.dB).1.stack.length<=x.stack.length:=by rw[c7,hU];lia
 generalize (x.pop.aE x.dB).2=gB at *;generalize (x.pop.aE x.dB).1=y at *;have VP:y.aF=x.aF:=by unfold CS.aF;rw[CO]
 obtain⟨W',hh,qN,f,Oe,w,o,v',ez⟩:=EO (code:=4) (r:=r) (adr:=adr) (by decide) v (by rw[VP];exact h0) (fun e=>by rw[e] at FF;simp at FF) hp hr;have oo:y.KZ p r adr=f:=by
  have:=(CS.yN (y:=y) (n:=p) (r:=r) (adr:=adr)).1;rw[o.fr] at this;have:=List.append_cancel_left this;cases this;rfl
 unfold CS.Ax CS.xG;dsimp only;rw[oo];have:=a.gW;have:=a.size;have:=a.most;have pX:(y.aL 4 p r adr).frames.length=x.frames.length+1:=by rw[o.fr,CO];simp
 have hos:=o.size;have XO:=o.fr;have ZI:=o.most;have PZ:=o.live;have I0:=o.skipped;have pn:=o.nO;have po:=o.used;have Mn:=o.fence (by rw[ST];exact a.fence);have TA:=o.aC;have WF:=o.params;have WI:=o.aU;have V8:=o.iC;clear o;generalize y.aL 4 p r adr=b at *;generalize hg:({ f with elseL:=some (b.labels.length:Int) }: Fr)=g at *;have Zb:(b.aP.fA y.frames.length g).frames=x.frames++[g]:=by
  show b.frames.set _ _=_;rw[XO,Bm (by simp),List.dropLast_concat,CO]
 have FE:qN.length=b.labels.length:=v'.rw.elim fun _ k=>k.FO;have sT:g.elseL=some (b.labels.length:Int):=by rewrite [<- hg];rfl
 have ln:cF (x.frames++[f]) b.aP.labels (qN++[bF (hh+p)]) b.most (L++[(r,false)]):=by
  have:=v'.fr.aP (a:= -1) (K:=bF (hh+p));rw[XO,CO] at this;exact this
 have bl:b.aF=f:=iU XO;obtain⟨B7,pp,rr,el,G1⟩:=cF.pB (x:=b) (by have:=v'.fr.aP (a:= -1) (K:=bF (hh+p));exact this);rw[bl] at G1;have e1:B7=hh:=Int.ofNat.inj (G1.aC.symm.trans TA);have e2:pp=p:=Int.ofNat.inj (G1.params.symm.trans WF);have e3:rr=r:=Int.ofNat.inj (G1.aU.symm.trans WI);rw[e1,e2,e3] at G1;have kU:(qN++[bF (hh+p)])[b.labels.length]? = some (bF (hh+p)):=by rw[<- FE,List.getElem?_concat_length]
 have go:pS b.aP.labels (qN++[bF (hh+p)]) b.most (r,false) g hh p r el:=by
  rewrite [<- hg];exact⟨G1.kO,G1.many,G1.aC,G1.params,G1.aU,G1.eU,G1.gP,G1.le,G1.fit,G1.Q3,fun l hl=>by cases hl;exact⟨_,rfl,kU⟩⟩
 have me:=ln.JX go (by rewrite [<- hg];rfl);have VF:(b.aP.fA y.frames.length g).aF=g:=iU Zb;have FA:g.aC=(hh:Int):=by rewrite [<- hg];exact TA
 have su:Sta (b.aP.fA y.frames.length g) (qN++[bF (hh+p)]) W' (L++[(r,false)]) p:=by
  have Sj:=v'.len;have gz:=v'.below;rw[bl,TA] at Sj gz;refine⟨by rw[Zb];exact me,v'.qL,by rw[VF,FA];exact Sj,fun i hi=> ?_,v'.most⟩;rw[VF,FA] at hi;exact gz i hi
 have ru:Rw (b.aP.fA y.frames.length g) (qN++[bF (hh+p)]) W' (bT (x.frames++[g])):=by
  have r1:Rw b.aP (qN++[bF (hh+p)]) W' (bT (x.frames++[f])):=by
   have:=v'.rw.aP (bF (hh+p));rw[XO,CO] at this;exact this
  refine r1.bT fun l ⟨u,hu,k⟩=> ?_;rcases List.mem_append.mp hu with hu|hu
  ·exact vX ⟨u,hu,k⟩
  ·rw[List.mem_singleton.mp hu] at k
   rcases k with k|k
   ·rw[po] at k;cases k.1
   ·rw[pn] at k;cases k
 have jD:eS (b.aP.fA y.frames.length g).labels (qN++[bF (hh+p)]) (bT (x.frames++[g])) W' (b.labels.length:Int):=
  ⟨by lia,bF (hh+p),by rw[Int.toNat_natCast];exact kU,V8,.inl ⟨g,List.mem_append_right _ (List.mem_singleton.mpr rfl),.inr sT⟩⟩
 have rb:=wU (c:=b.aP.fA y.frames.length g) (s:=false) (l:=(b.labels.length:Int)) ru (t.bJ w) jD;obtain⟨b1,b2,b3,b4,b5,b6,b7⟩:=qX (c:=b.aP.fA y.frames.length g) (op:=gB.1) (n:=gB.2.1.n) (q:=gB.2.2) (s:=false) (l:=(b.labels.length:Int));have SN:=(CS.gE (x:=b.aP.fA y.frames.length g) (op:=gB.1) (n:=gB.2.1.n) (c:=gB.2.2) (s:=false) (l:=(b.labels.length:Int))).1;rw[CS.uP,CS.gH] at SN;generalize (b.aP.fA y.frames.length g).branch gB.1 gB.2.1.n gB.2.2 false (b.labels.length:Int)=z at *;have Mx:z.frames=x.frames++[g]:=b3.trans Zb;refine⟨At.uD ⟨su.same b1 b3 b4 b7,by rw[Mx];exact rb⟩ (b5.trans (PZ.trans Ix)) (b6.trans (I0.trans Cv)) ?_ ?_ ?_,g,Mx,by rw[FA,Oe,VP],by rewrite [<- hg];exact WF,by rewrite [<- hg];exact WI,by rw[sT];rfl⟩
 ·rw[b4,Mx]
  show b.most+_<=_;rw[ZI,eE];simp;lia
 ·lia
 ·rw[b2];exact Mn
end
theorem no{p:Prop}(h: ¬p->False):p:=Classical.byContradiction h
section
variable{x y z:CS}{n:Nat}{L:List (Nat×Bool)}{q:Nat×Bool}{h:Nat}{lk:List Sl}{W W' K:Sl}{P P':Int->Prop}
theorem Er{i:aR}(hs:x.skipped=0)(hi:i.code=5\/i.code=11):x.qC i=false:=by
 unfold CS.qC;rw[hs];have:(i.code==5||(i.code==11||false))=true:=by rcases hi with h|h<;>rw[h]<;>rfl
 rw[this];cases x.live<;>rfl
theorem tR{i:aR}{adr:Nat}(hs:x.skipped=0)(hi:i.code=5\/i.code=11):x.take i adr=x.Cq i adr:=by
 unfold CS.take;rw[if_neg (by rw[Er hs hi];decide)]
theorem At.pB{ho:Option Nat}(a:At x n (L++[q]) ho):Lk (fun lk hh pp rr el=>pS x.labels lk x.most q x.aF hh pp rr el) (fun lk hh pp rr el=>lk.length=x.labels.length):=by
 obtain⟨lk,W,r0,fr,qL⟩:=a.rows;obtain⟨hh,pp,rr,el,fo⟩:=fr.pB;exact⟨lk,hh,pp,rr,el,fo,r0.elim fun _ k=>k.FO⟩
theorem At.zN{ho:Option Nat}(a:At x n L ho):x.frames.length=L.length:=by
 obtain⟨lk,W,r0,fr,qL⟩:=a.rows;exact fr.len
theorem Id{ho:Option Nat}(a:At x n (L++[q]) ho)(hn:n<=236):x.Op .cV:=by
 obtain⟨lk,hh,pp,rr,el,fo,hl⟩:=a.pB;have eA: ∀ {i:Nat} {K:Sl},lk[i]? = some K->i<x.labels.length:=fun h=>by rw[<- hl];exact (List.getElem?_eq_some_iff.mp h).1
 have:=fo.fit;have:=fo.le;have:=a.gW;have:=a.zN;refine⟨a.fits hn,a.fence,fun _=>⟨by rw[a.zN];simp,⟨el,fo.eU,eA fo.gP⟩,fun l he=> ?_,by rw[fo.aC,fo.aU];lia,by rw[fo.aC,fo.aU];lia⟩⟩;obtain⟨e,e1,e2⟩:=fo.nO l he;have:=eA e2;lia
theorem Ik{ho:Option Nat}{hh r:Nat}(a:At x n (L++[q]) ho)(hE:wO ho r)(jM:x.aF.aC=hh)(sV:x.aF.aU=r)(KV:x.aF.elseL=none\/x.aF.params=r):dO (fun w=>x.oR x.aF=w.jL) (fun w=>US x w L hh r):=by
 refine⟨_,?_,MO a hE jM sV KV⟩;have e:(x.aF.aC+x.aF.aU).toNat=hh+r:=by lia
 unfold CS.oR;rw[e];rfl
theorem VG{ho:Option Nat}{hh r:Nat}(a:At x n (L++[q]) ho)(jM:x.aF.aC=hh)(sV:x.aF.aU=r):(hh+r:Int)<=x.most+2:=by
 obtain⟨lk,B7,pp,rr,el,fo,hl⟩:=a.pB;have:=fo.fit;have:=fo.le;have:=fo.aC;have:=fo.aU;lia
theorem OA{ho:Option Nat}{h0 r:Nat}(a:At x n (L++[q]) ho)(hn:n<=236)(hL:1<=L.length)(hE:wO ho r)(sV:x.aF.aU=r)(KV:x.aF.elseL=none\/x.aF.params=r)(jM:x.aF.aC=x.eX.aF.aC+h0):x.Op .cV/\∀ adr,At (x.take .cV adr) (n+1) L (some (h0+r))/\(x.take .cV adr).frames=x.frames.dropLast:=by
 refine⟨Id a hn,fun adr=> ?_⟩;rw[tR a.skip (.inr rfl)];show At (x.oR x.aF) _ _ _/\(x.oR x.aF).frames=_;obtain⟨qN,hh,pp,rr,el,fo,hl⟩:=a.pB;obtain⟨w,e,c⟩:=Ik a hE fo.aC sV KV;have Iw:=VG a fo.aC sV;rw[e];have pX:w.frames.length=L.length:=by rw[c.fr,List.length_dropLast,a.zN];simp
 have hr:w.jL=w:=by
  unfold CS.jL;have:w.frames.isEmpty=false:=by
   rw[List.isEmpty_eq_false_iff];intro q;rw[q] at pX;simp at pX;lia
  rw[this];rfl
 rw[hr];obtain⟨lk,r1,f1⟩:=c.rows;have Sm:w.aF=x.eX.aF:=by unfold CS.aF;rw[c.fr];rfl
 have hhh:(hh:Int)=w.aF.aC+h0:=by rw[Sm,<- jM];exact fo.aC.symm
 have hm:=c.most;have XJ:w.most<=x.most+2/\(hh+r:Int)<=w.most:=by rw[hm];unfold CS.rJ;split<;>lia
 have KW:w.stack.length=hh+r:=by rw[c.stack,nR]
 have:=a.gW;have:=a.size;have:=c.size;have:=a.zN;rw[List.length_append] at this;simp at this;refine⟨⟨⟨lk,bF (hh+r),r1,f1,fun _=>by rw[c.stack];exact xE fun _ h=>h⟩,c.skipped.trans a.skip,fun _=>⟨h0+r,rfl,by rw[KW];push_cast;lia⟩,fun _ i hi=>by rw[c.stack];exact Cu (by lia),c.stop,by rw[KW];push_cast;lia,by rw[pX];push_cast;lia,by lia,c.fence⟩,c.fr⟩
theorem N8{ho:Option Nat}{p r:Nat}(a:At x n (L++[(r,false)]) ho)(hn:n<=236)(hE:wO ho r)(sV:x.aF.aU=r)(Ms:x.aF.params=p)(Me:x.aF.elseL.isSome=true):x.Op .nO/\∀ adr,At (x.take .nO adr) (n+1) (L++[(r,false)]) (some p)/\zC (fun f=>(x.take .nO adr).frames=x.frames.dropLast++[f]) (fun f=>f.aC=x.aF.aC) (fun f=>f.params=(p:Int)) (fun f=>f.aU=(r:Int)) (fun f=>f.elseL=none):=by
 refine no fun ng=> ?_;obtain⟨lk,W,r0,fr,qL⟩:=a.rows;obtain⟨hh,pp,rr,el,fo⟩:=fr.pB;have FE:lk.length=x.labels.length:=r0.elim fun _ k=>k.FO;have e1:pp=p:=Int.ofNat.inj (fo.params.symm.trans Ms);have e2:rr=r:=Int.ofNat.inj (fo.aU.symm.trans sV);rw[e1,e2] at fo;obtain⟨l,hl⟩:=Option.isSome_iff_exists.mp Me;obtain⟨e,ee,Iw⟩:=fo.nO l hl;subst ee;have pX:x.frames.length=L.length+1:=by rw[a.zN];simp
 have XG:1<=x.frames.length:=pX▸Nat.succ_pos _;have jM:=fo.aC;have KR:=fo.fit;have gd:=a.gW;have eA:e<x.labels.length:=by rw[<- FE];exact (List.getElem?_eq_some_iff.mp Iw).1
 refine ng ?_;clear ng;refine⟨⟨a.fits hn,a.fence,fun _=>⟨XG,by rw[fo.eU];rfl,⟨e,hl,eA⟩,by rw[jM,Ms];exact Int.natCast_nonneg (hh+p),by rw[jM,Ms];lia⟩⟩,fun adr=> ?_⟩;rw[tR a.skip (.inl rfl)];show At (x.oP x.aF) _ _ _/\zC (fun f=>(x.oP x.aF).frames=_) _ _ _ _;have e3:(x.aF.aC+x.aF.params).toNat=hh+p:=by rw[jM,Ms];exact Int.toNat_natCast (hh+p)
 have e4:(x.aF.elseL.getD 0).toNat=e:=by rw[hl];simp
 have e5:x.aF.eU.getD 0=(el:Int):=by rw[fo.eU];rfl
 unfold CS.oP CS.iS;rw[e3,e4,e5];have rE:x.frames.length - 1+1=x.frames.length:=Nat.sub_add_cancel XG;generalize hg:({ x.fE x.aF with elseL:=none }: Fr)=g;have gr: ∀ i,bT x.frames i->bT (x.frames.dropLast++[g]) i\/i=e:=fun i p=>by
  rcases BV XG p with p|p|p
  ·exact .inl (vX p)
  ·refine .inl ⟨g,List.mem_append_right _ (List.mem_singleton.mpr rfl),.inl ?_⟩
   subst hg;refine⟨?_,?_⟩
   ·show (x.fE x.aF).used=true
    unfold CS.fE;split
    ·rfl
    ·exact p.1
   ·show (x.fE x.aF).eU=_
    unfold CS.fE;split<;>exact p.2
  ·right;rw[hl] at p;cases p;rfl
 have c1: ∀ y,x.lW (x.frames.length - 1) x.aF el=y->A9 (Rw y lk (bF (hh+p)) (fun i=>bT (x.frames.dropLast++[g]) i\/i=e)) (y.labels=x.labels) ((y.frames.set (x.frames.length - 1) g)=x.frames.dropLast++[g]) (y.most=x.most) (y.skipped=x.skipped) (y.rows.length+y.labels.length+y.frames.length+y.stack.length<=x.size+x.stack.length+1) (y.stack.length=x.stack.length) ((x.live=true->hh<=x.stack.length)) ((x.live=false->y.rows.length=x.rows.length/\y.frames.length=x.frames.length)):=by
  rintro _ rfl
  unfold CS.lW;cases RJ:x.live with
  | true=>
   rw[if_pos rfl];refine no fun ng=> ?_;obtain⟨h',eh,bE⟩:=a.high RJ;have e':h'=r:=by
    rcases hE with q|q<;>rw[eh] at q<;>cases q;rfl
   subst e';have KW:x.stack.length=hh+h':=Int.ofNat.inj (bE.trans (by rw[jM];rfl));obtain⟨W',w1,w2,w3,w4,w5⟩:=pM (c:=x) r0 (qL RJ) a.most;have kI:=CS.bS (x:=x) (n:=x.stack.length);have Mm:(x.aI x.stack.length).stack.length=x.stack.length:=CS.dA;have hb:=sY.iC w3 w4;rw[Mm,KW] at hb;rw[KW] at w2 w5 kI Mm ng;generalize x.aI (hh+h')=z at *;have us:Rw z lk W' (fun i=>bT (x.frames.dropLast++[g]) i\/i=e):=w2.bT gr;have oh:bT (x.frames.dropLast++[g]) el:=⟨g,List.mem_append_right _ (List.mem_singleton.mpr rfl),.inl ⟨by rewrite [<- hg];show (x.fE x.aF).used=true;unfold CS.fE;rw[if_pos RJ],by rewrite [<- hg];show (x.fE x.aF).eU=_;unfold CS.fE;rw[if_pos RJ];exact fo.eU⟩⟩;have jD:eS z.labels lk (fun i=>bT (x.frames.dropLast++[g]) i\/i=e) W' el:=⟨Int.natCast_nonneg _,bF (hh+h'),by rw[Int.toNat_natCast];exact fo.gP,hb,.inl (.inl oh)⟩;have r3:Rw (z.aV 259 el (.i 0) 0) lk (bF (hh+p)) (fun i=>bT (x.frames.dropLast++[g]) i\/i=e):=us.aV .HG (by simp) (by simp) (fun i hi=>by rw[List.mem_singleton.mp hi];exact jD) (fun s hs=>.inr ⟨rfl,hs.1,by have:=hs.2;rw[w5.most];push_cast at this;lia⟩);refine ng ⟨r3,w5.labels,?_,w5.most,w5.skipped,?_,by show z.stack.length=_;lia,fun _=>by lia,(fun q=>by cases q)⟩
   ·show (z.frames.set _ _).set _ _=_
    rw[List.set_set,w5.frames,Bm rE]
   ·show (z.rows++[_]).length+z.labels.length+(z.frames.set _ _).length+z.stack.length<=_
    have hz:z.size=z.rows.length+z.labels.length+z.stack.length+z.frames.length:=rfl;simp;lia
  | false=>
   rw[if_neg (by decide)];refine no fun ng=> ?_;obtain⟨s1,r,s2,s3⟩:=a.stop RJ;have hz:x.size=x.rows.length+x.labels.length+x.stack.length+x.frames.length:=rfl;obtain⟨ks,k⟩:=r0;refine ng ⟨⟨ks,(k.free s2 s1 s3 (fun s hs=>⟨hs.1,by have:=hs.2;push_cast at this;lia⟩)).bT gr⟩,rfl,Bm rE,rfl,rfl,by lia,rfl,(fun q=>by cases q),fun _=>⟨rfl,rfl⟩⟩
 refine no fun ng=> ?_;obtain⟨y,ey⟩: ∃ y,x.lW (x.frames.length - 1) x.aF el=y:=⟨_,rfl⟩;obtain⟨r1,l1,f1,m1,k1,z1,s1,b1,d1⟩:=c1 _ ey;rw[ey] at ng;have r2:Rw (y.aG e) lk (bF (hh+p)) (bT (x.frames.dropLast++[g])):=r1.aG Iw (fun _ h=>h) (fun i hi=>hi);generalize hw:((y.aG e).fA (x.frames.length - 1) g).toLive (CS.dC (hh+p))=w at ng;have wf:w.frames=x.frames.dropLast++[g]:=by rewrite [<- hw];exact f1
 have wl:w.aF=g:=iU wf;have FA:g.aC=(hh:Int):=by rewrite [<- hg];show (x.fE x.aF).aC=_;unfold CS.fE;split<;>exact jM
 have Yb:g.params=(p:Int):=by rewrite [<- hg];show (x.fE x.aF).params=_;unfold CS.fE;split<;>exact Ms
 have Yc:g.aU=(r:Int):=by rewrite [<- hg];show (x.fE x.aF).aU=_;unfold CS.fE;split<;>exact sV
 have Uz:pS x.labels lk x.most (r,false) g hh p r el:=by
  rewrite [<- hg];unfold CS.fE;split<;>exact⟨fo.kO,fo.many,fo.aC,fo.params,fo.aU,fo.eU,fo.gP,fo.le,fo.fit,fo.Q3,fun l hl=>by cases hl⟩
 have tJ:w.stack=CS.dC (hh+p):=by rewrite [<- hw];rfl
 have Vn:w.most=x.most:=by rewrite [<- hw];exact m1
 have lu:cF w.frames w.labels lk w.most (L++[(r,false)]):=by
  have f0:cF (x.frames.dropLast++[g]) x.labels lk x.most (L++[(r,false)]):=by
   have:=fr;rw[yE (x:=x) XG] at this;exact this.JX Uz (by rw[FA,jM])
  have:w.labels=x.labels.set e y.rows.length:=by rewrite [<- hw];show y.labels.set _ _=_;rw[l1]
  rw[wf,this,Vn];exact f0.kP
 have uf:Rw w lk (bF (hh+p)) (bT w.frames):=by rw[wf];subst hw;exact r2
 refine ng ?_;clear ng;refine⟨At.uD ⟨⟨lu,by rw[tJ];exact xE fun _ h=>h,by rw[tJ,nR,wl,FA];push_cast;rfl,fun i hi=> ?_,by rw[tJ,nR,Vn];push_cast;lia⟩,uf⟩ (by rewrite [<- hw];rfl) (by rewrite [<- hw];exact k1.trans a.skip) (by rw[Vn,wf];simp;lia) ?_ (by rewrite [<- hw];show (0:Int)<=y.rows.length;lia),g,wf,by rw[FA,jM],Yb,Yc,by rewrite [<- hg];rfl⟩
 ·rw[wl,FA] at hi
  rw[tJ];exact Cu (by lia)
 ·have hws:w.size=y.rows.length+y.labels.length+(hh+p)+y.frames.length:=by
   rewrite [<- hw];show y.rows.length+(y.labels.set _ _).length+(CS.dC (hh+p)).length+(y.frames.set _ _).length=_;rw[nR];simp
  have:=a.size;have:=a.most;have hxz:x.size=x.rows.length+x.labels.length+x.stack.length+x.frames.length:=rfl;have Mm:y.labels.length=x.labels.length:=by rw[l1]
  have:=fo.le;cases RJ:x.live with
  | true=>
   have:=b1 RJ;lia
  | false=>
   obtain⟨d2,d3⟩:=d1 RJ;lia
end
section
variable{x y z:CS}{n:Nat}{L:List (Nat×Bool)}{q:Nat×Bool}{ho LY:Option Nat}{Q:CS->Prop}
theorem mE{code:List aR}(b:tQ code)(a:At x n L ho)(hn:n+code.length<=236)(hd:x.live=false){h':Option Nat}(hQ: ∀ y,At y (n+code.length) L h'->bG x y->Q y):CS.wp Q code x:=
 PG b hd (by rw[a.skip];exact Int.le_refl _) (a.fits (by lia)) a.fence (hQ x ((a.J8 hd).Vv (by lia)) (.refl x))
theorem eB{i:aR}{r:List aR}{h':Option Nat}(b:tQ [i])(a:At x n L ho)(hn:n<=235)(st:x.live=true->gD x n L i h')(hQ: ∀ y,At y (n+1) L h'->bG x y->CS.wp Q r y):CS.wp Q (i::r) x:=by
 have e:i::r=[i]++r:=rfl;rw[e,CS.gT];cases hl:x.live with
 | true=>exact⟨(st hl).1,fun adr=>hQ _ ((st hl).2 adr).1 ((st hl).2 adr).2⟩
 | false=>exact mE b a (by simp;lia) hl hQ
theorem bG.block{x1:CS}{f:Fr}(h:x1.frames=x.frames++[f])(s:bG x1 y):bG x y.eX/\f.lB y.aF:=by
 have hl:x1.frames.length=x.frames.length+1:=by rw[h];simp
 refine⟨⟨by show y.frames.dropLast.length=_;rw[List.length_dropLast,s.1,hl];simp,fun k g hg=> ?_⟩,?_⟩
 ·have hk:=(List.getElem?_eq_some_iff.mp hg).1
  obtain⟨g',h1,h2⟩:=s.2 k g (by rw[h];exact De hg);refine⟨g',?_,h2⟩;show y.frames.dropLast[k]? = _;rw[List.getElem?_dropLast,if_pos (by rw[s.1,hl];simp;exact hk)];exact h1
 ·have:=xK s (by lia)
  rw[iU h] at this;exact this
theorem Qh{p:Nat}(a:At x n (L++[(p,true)]) (some p))(hn:n+5<=236)(hp:p<=2)(hQ: ∀ y,At y (n+5) (L++[(p,true)]) (some p)->bG x y->Q y):CS.wp Q iV x:=by
 have hL:1<=(L++[(p,true)]).length:=by simp
 have pl: ∀ {i:aR},i.code≠2->i.code≠3->i.code≠4->i.code≠5->i.code≠11->tQ [i]:=tQ.plain;refine eB (pl (by decide) (by decide) (by decide) (by decide) (by decide)) a (by lia) (fun hl=>Fz a hl (by lia) (by lia) (by lia)) fun y1 a1 s1=> ?_;refine eB (pl (by decide) (by decide) (by decide) (by decide) (by decide)) a1 (by lia) (fun hl=>uM a1 hl (by lia)) fun y2 a2 s2=> ?_;refine eB (pl (by decide) (by decide) (by decide) (by decide) (by decide)) a2 (by lia) (fun hl=>F3 a2 hl (by lia) hL (by decide)) fun y3 a3 s3=> ?_;refine eB (pl (by decide) (by decide) (by decide) (by decide) (by decide)) a3 (by lia) (fun hl=>F2 a3 hl (by lia) hL (by lia) (by lia)) fun y4 a4 s4=> ?_;refine eB (pl (by decide) (by decide) (by decide) (by decide) (by decide)) a4 (by lia) (fun hl=>DP a4 hl (by lia) (d:=0) (many:=p) (lp:=true) (by simp) (by simp) (Nat.le_refl _) hp) fun y5 a5 s5=> ?_;exact hQ y5 a5 (s1.trans (s2.trans (s3.trans (s4.trans s5))))
theorem Aj{x1:CS}{f:Fr}{h0 r:Nat}(hx:x1.frames=x.frames++[f])(s:bG x1 y)(hf:f.aC=x.aF.aC+h0)(pX:1<=x.frames.length)(sV:f.aU=(r:Int))(KV:f.elseL=none\/f.params=(r:Int))(a:At y n (L++[q]) ho)(hn:n<=235)(hL:1<=L.length)(hE:wO ho r)(hQ: ∀ z,At z (n+1) L (some (h0+r))->bG x z->Q z):CS.wp Q [.cV] y:=by
 obtain⟨s1,s2⟩:=bG.block hx s;have l:=s2;unfold Fr.lB at l;obtain⟨c,st⟩:=OA (h0:=h0) (r:=r) a (by lia) hL hE (by rw[l];exact sV) (by rw[l];exact KV) (by rw[rI s1 pX,<- hf,l]);refine⟨c,fun adr=>hQ _ (st adr).1 ?_⟩;exact s1.trans (.of_eq (st adr).2)
theorem Tj{code:List aR}{h h':Option Nat}(s:gC L h code h'): ∀ {x:CS} {n:Nat} {Q:CS->Prop},At x n L h->n+code.length<=236->(∀ p∈L,p.1<=2)->1<=L.length->(∀ y,At y (n+code.length) L h'->bG x y->Q y)->CS.wp Q code x:=by
 induction s with
 | nil=>exact fun a _ _ _ hQ=>hQ _ a (.refl _)
 | @iB L h h1 h2 ca cb s1 s2 i1 i2=>
  intro x n Q a hn hL h1 hQ;rw[List.length_append] at hn hQ;rw[CS.gT];exact i1 a (by lia) hL h1 fun y ay sy=>i2 ay (by lia) hL h1 fun z az sz=>hQ z (by rw[<- Nat.add_assoc];exact az) (sy.trans sz)
 | const=>
  intro x n Q a hn hL h1 hQ;exact eB (.plain (by simp [aR.code]) (by simp [aR.code]) (by simp [aR.code]) (by simp [aR.code]) (by simp [aR.code])) a (by simp at hn;lia) (fun hl=>uM a hl (by simp at hn;lia)) hQ
 | get h0 h4=>
  intro x n Q a hn hL h1 hQ;exact eB (.plain (by simp [aR.code]) (by simp [aR.code]) (by simp [aR.code]) (by simp [aR.code]) (by simp [aR.code])) a (by simp at hn;lia) (fun hl=>Fz a hl (by simp at hn;lia) h0 h4) hQ
 | set h0 h4=>
  intro x n Q a hn hL h1 hQ;exact eB (.plain (by simp [aR.code]) (by simp [aR.code]) (by simp [aR.code]) (by simp [aR.code]) (by simp [aR.code])) a (by simp at hn;lia) (fun hl=>F1 a hl (by simp at hn;lia) h1 h0 (by lia)) hQ
 | LF h0 h4=>
  intro x n Q a hn hL h1 hQ;exact eB (.plain (by simp [aR.code]) (by simp [aR.code]) (by simp [aR.code]) (by simp [aR.code]) (by simp [aR.code])) a (by simp at hn;lia) (fun hl=>F2 a hl (by simp at hn;lia) h1 h0 (by lia)) hQ
 | drop=>
  intro x n Q a hn hL h1 hQ;exact eB (.plain (by simp [aR.code]) (by simp [aR.code]) (by simp [aR.code]) (by simp [aR.code]) (by simp [aR.code])) a (by simp at hn;lia) (fun hl=>LA a hl (by simp at hn;lia) h1) hQ
 | cG=>
  intro x n Q a hn hL h1 hQ;exact eB (.plain (by simp [aR.code]) (by simp [aR.code]) (by simp [aR.code]) (by simp [aR.code]) (by simp [aR.code])) a (by simp at hn;lia) (fun hl=>F0 a hl (by simp at hn;lia) h1) hQ
 | @lP L h op kC=>
  intro x n Q a hn hL h1 hQ;have hc: ∀ k:Int,k<12->op≠k:=fun k hk e=>by rcases mL kC with h|h|h|h|h|h|h<;>lia
  exact eB (.plain (hc 2 (by lia)) (hc 3 (by lia)) (hc 4 (by lia)) (hc 5 (by lia)) (hc 11 (by lia))) a (by simp at hn;lia) (fun hl=>F3 a hl (by simp at hn;lia) h1 kC) hQ
 | zM=>
  intro x n Q a hn hL h1 hQ;exact eB (.plain (by simp [aR.code]) (by simp [aR.code]) (by simp [aR.code]) (by simp [aR.code]) (by simp [aR.code])) a (by simp at hn;lia) (fun hl=>N9 a hl (by simp at hn;lia) h1) hQ
 | call=>
  intro x n Q a hn hL h1 hQ;exact eB (.plain (by simp [aR.code]) (by simp [aR.code]) (by simp [aR.code]) (by simp [aR.code]) (by simp [aR.code])) a (by simp at hn;lia) (fun hl=>K9 a hl (by simp at hn;lia) h1) hQ
 | LZ=>
  intro x n Q a hn hL h1 hQ;exact eB (.plain (by simp [aR.code]) (by simp [aR.code]) (by simp [aR.code]) (by simp [aR.code]) (by simp [aR.code])) a (by simp at hn;lia) (fun hl=>OB a hl (by simp at hn;lia)) hQ
 | oM hd D7 hm=>
  intro x n Q a hn hL h1 hQ;exact eB (.plain (by simp [aR.code]) (by simp [aR.code]) (by simp [aR.code]) (by simp [aR.code]) (by simp [aR.code])) a (by simp at hn;lia) (fun hl=>DP a hl (by simp at hn;lia) hd D7 hm (hL _ (List.mem_of_getElem? D7))) hQ
 | br hd D7 hm=>
  intro x n Q a hn hL h1 hQ;exact eB (.plain (by simp [aR.code]) (by simp [aR.code]) (by simp [aR.code]) (by simp [aR.code]) (by simp [aR.code])) a (by simp at hn;lia) (fun hl=>Qd a hl (by simp at hn;lia) hd D7 hm (hL _ (List.mem_of_getElem? D7))) hQ
 | ret h2=>
  intro x n Q a hn hL h1 hQ;exact eB (.plain (by simp [aR.code]) (by simp [aR.code]) (by simp [aR.code]) (by simp [aR.code]) (by simp [aR.code])) a (by simp at hn;lia) (fun hl=>OC a hl (by simp at hn;lia) h1 h2) hQ
 | jX=>
  intro x n Q a hn hL h1 hQ;exact eB (.plain (by simp [aR.code]) (by simp [aR.code]) (by simp [aR.code]) (by simp [aR.code]) (by simp [aR.code])) a (by simp at hn;lia) (fun hl=>Ef a hl (by simp at hn;lia)) hQ
 | table h3 LU=>
  intro x n Q a hn hL h1 hQ;exact eB (.plain (by simp [aR.code]) (by simp [aR.code]) (by simp [aR.code]) (by simp [aR.code]) (by simp [aR.code])) a (by simp at hn;lia) (fun hl=>IJ a hl (by simp at hn;lia) h1 h3 LU hL) hQ
 | J8 b=>
  intro x n Q a hn hL h1 hQ;have hd:x.live=false:=by
   cases hl:x.live with
   | false=>rfl
   | true=>obtain⟨hh,e,_⟩:=a.high hl;cases e
  exact mE b a hn hd hQ
 | @block L h m p r ca h' hm s he ih=>
  intro x n Q a hn hL h1 hQ;cases hl:x.live with
  | false=>exact mE (.Ob (.inl rfl) s.T2) a hn hl hQ
  | true=>
   have bE:(aR.block m::(ca++[.cV])).length=ca.length+2:=by simp
   rw[bE] at hn hQ;obtain⟨c,st⟩:=II a hl (by lia) (fun e=>by rw[e] at h1;simp at h1) hm;refine⟨c,fun adr=> ?_⟩;obtain⟨a1,f,f1,f2,f3,f4,f5⟩:=st adr;rw[CS.gT];refine ih a1 (by lia) (fun p hp=> ?_) (by simp) fun y ay sy=> ?_
   ·rcases List.mem_append.mp hp with hp|hp
    ·exact hL p hp
    ·rw[List.mem_singleton.mp hp];exact (lD hm).2
   ·exact Aj f1 sy f2 (by rw[a.zN];exact h1) f4 (.inl f5) ay (by lia) h1 he fun z az sz=>hQ z (by rw[show n+(ca.length+2)=n+1+ca.length+1 by lia];exact az) sz
 | @kO L h m p ca hm s ih=>
  intro x n Q a hn hL h1 hQ;have bt:tQ iV:=tQ.xQ (by decide);cases hl:x.live with
  | false=>exact mE (.Ob (.inr (.inl rfl)) (.iB s.T2 bt)) a hn hl hQ
  | true=>
   have bE:(aR.kO m::((ca++iV)++[.cV])).length=ca.length+7:=by simp [iV]
   rw[bE] at hn hQ;obtain⟨c,st⟩:=DQ a hl (by lia) (fun e=>by rw[e] at h1;simp at h1) hm;refine⟨c,fun adr=> ?_⟩;obtain⟨a1,f,f1,f2,f3,f4,f5⟩:=st adr;rw[CS.gT,CS.gT];refine ih a1 (by lia) (fun p hp=> ?_) (by simp) fun y ay sy=> ?_
   ·rcases List.mem_append.mp hp with hp|hp
    ·exact hL p hp
    ·rw[List.mem_singleton.mp hp];exact (lD hm).2
   ·refine Qh ay (by lia) (lD hm).1 fun y2 ku ul=> ?_
    exact Aj f1 (sy.trans ul) f2 (by rw[a.zN];exact h1) f4 (.inl f5) ku (by lia) h1 (.inl rfl) fun z az sz=>hQ z (by rw[show n+(ca.length+7)=n+1+ca.length+5+1 by lia];exact az) sz
 | @BG L h m p ca hm s ih=>
  intro x n Q a hn hL h1 hQ;cases hl:x.live with
  | false=>exact mE (.Ob (.inr (.inl rfl)) s.T2) a hn hl hQ
  | true=>
   have bE:(aR.kO m::(ca++[.cV])).length=ca.length+2:=by simp
   rw[bE] at hn hQ;obtain⟨c,st⟩:=DQ a hl (by lia) (fun e=>by rw[e] at h1;simp at h1) hm;refine⟨c,fun adr=> ?_⟩;obtain⟨a1,f,f1,f2,f3,f4,f5⟩:=st adr;rw[CS.gT];refine ih a1 (by lia) (fun p hp=> ?_) (by simp) fun y ay sy=> ?_
   ·rcases List.mem_append.mp hp with hp|hp
    ·exact hL p hp
    ·rw[List.mem_singleton.mp hp];exact (lD hm).2
   ·exact Aj f1 sy f2 (by rw[a.zN];exact h1) f4 (.inl f5) ay (by lia) h1 (.inr rfl) fun z az sz=>hQ z (by rw[show n+(ca.length+2)=n+1+ca.length+1 by lia];exact az) sz
 | @iff L h m p ca h' hm s he ih=>
  intro x n Q a hn hL h1 hQ;cases hl:x.live with
  | false=>exact mE (.Ob (.inr (.inr rfl)) s.T2) a hn hl hQ
  | true=>
   have bE:(aR.iff m::(ca++[.cV])).length=ca.length+2:=by simp
   rw[bE] at hn hQ;obtain⟨c,st⟩:=JZ a hl (by lia) h1 hm;refine⟨c,fun adr=> ?_⟩;obtain⟨a1,f,f1,f2,f3,f4,f5⟩:=st adr;rw[CS.gT];refine ih a1 (by lia) (fun p hp=> ?_) (by simp) fun y ay sy=> ?_
   ·rcases List.mem_append.mp hp with hp|hp
    ·exact hL p hp
    ·rw[List.mem_singleton.mp hp];exact (lD hm).2
   ·exact Aj f1 sy f2 (by rw[a.zN];exact h1) f4 (.inr f3) ay (by lia) h1 he fun z az sz=>hQ z (by rw[show n+(ca.length+2)=n+1+ca.length+1 by lia];exact az) sz
 | @nO L h m p r ca h' cb MX hm s he s2 FD ih qx=>
  intro x n Q a hn hL h1 hQ;cases hl:x.live with
  | false=>exact mE (.nO s.T2 s2.T2) a hn hl hQ
  | true=>
   have bE:(aR.iff m::(ca ++ .nO::(cb++[.cV]))).length=ca.length+cb.length+3:=by simp;lia
   rw[bE] at hn hQ;obtain⟨c,st⟩:=JZ a hl (by lia) h1 hm;refine⟨c,fun adr=> ?_⟩;obtain⟨a1,f,f1,f2,f3,f4,f5⟩:=st adr;have W8: ∀ p∈L++[(r,false)],p.1<=2:=fun p hp=>by
    rcases List.mem_append.mp hp with hp|hp
    ·exact hL p hp
    ·rw[List.mem_singleton.mp hp];exact (lD hm).2
   rw[CS.gT];refine ih a1 (by lia) W8 (by simp) fun y ay sy=> ?_;obtain⟨t1,t2⟩:=bG.block f1 sy;unfold Fr.lB at t2;obtain⟨c2,UN⟩:=N8 ay (by lia) he (by rw[t2];exact f4) (by rw[t2];exact f3) (by rw[t2];exact f5);refine⟨c2,fun YD=> ?_⟩;obtain⟨a2,g,g1,g2,g3,g4,g5⟩:=UN YD;rw[CS.gT];refine qx a2 (by lia) W8 (by simp) fun z az sz=> ?_;have pX:1<=x.frames.length:=by rw[a.zN];exact h1
   refine Aj (x:=y.eX) (h0:=h) g1 sz ?_ (by rw[t1.1];exact pX) g4 (.inl g5) az (by lia) h1 FD fun w aw sw=>hQ w (by rw[show n+(ca.length+cb.length+3)=n+1+ca.length+1+cb.length+1 by lia];exact aw) (t1.trans sw);rw[g2,rI t1 pX,<- f2,t2]
end
structure Fin(y:CS):Prop where
 jv: ∃ ks lk W,wM y.rows y.labels y.fence y.most ks lk W (fun _=>False)
 stop:Dc y
 most:0<=y.most
 gW:y.most<=240
 size:y.rows.length+y.labels.length<62200
section
variable{x y z:CS}{n:Nat}
theorem Kc:Live CS.eF [] (bF 0) [] 0:=by
 have hb: ∀ s,bF 0 s->0<=s/\s<4:=fun s ⟨h0,h1⟩=>⟨h0,by push_cast at h1;lia⟩;have fr:cF CS.eF.frames CS.eF.labels [] CS.eF.most []:=⟨rfl,fun k p f hp=>(by cases hp),fun i j f g _ hf=>(by cases hf),fun f hf=>(by cases hf)⟩;have st:gU CS.eF.stack (bF 0):=⟨fun s h0 h4=>⟨h0,by lia⟩,fun i e he=>(by cases he)⟩;refine⟨⟨fr,st,rfl,fun i hi=> ?_,Int.le_refl _⟩,[],⟨rfl,rfl,Int.le_refl _,Int.le_refl _,fun j r K hr=>(by cases hr),fun l p K hp=>(by cases hp),fun s hs=> ?_,fun K hK=>(by cases hK),fun s hs=>(hb s hs).2⟩⟩
 ·have:(CS.eF.aF).aC=0:=rfl
  lia
 ·have:=hb s hs
  exact⟨this.1,by show s<4+0;lia⟩
theorem Ng{l:Int}: ¬ bT [] l:=fun ⟨f,hf,_⟩=>by cases hf
theorem NB{ho:Option Nat}{x1 y:CS}{f:Fr}(hx:x1.frames=[f])(s:bG x1 y)(sV:f.aU=2)(KV:f.elseL=none)(a:At y n [(2,false)] ho)(hn:n<=236)(hE:wO ho 2):CS.wp Fin [.cV] y:=by
 have a':At y n ([]++[(2,false)]) ho:=a;refine⟨Id a' hn,fun adr=> ?_⟩;rw[tR a.skip (.inr rfl)];show Fin (y.oR y.aF);have l:=xK s (by rw[hx];simp);rw[iU (F:=[]) hx] at l;unfold Fr.lB at l;obtain⟨qN,hh,pp,rr,el,fo,hl⟩:=a'.pB;have Y5:hh=0:=by
  obtain⟨lk,W,r0,fr,qL⟩:=a.rows;have pX:=a.zN;have h1:=rH (x:=y) (by rw[pX];simp);rw[pX] at h1;have:=fr.zero _ h1;rw[fo.aC] at this;lia
 subst Y5;obtain⟨w,e,c⟩:=Ik (L:=[]) a' hE fo.aC (r:=2) (by rw[l];exact sV) (.inl (by rw[l];exact KV));rw[e];have CO:w.frames=[]:=by
  rw[c.fr];have:=a.zN;exact List.eq_nil_of_length_eq_zero (by rw[List.length_dropLast,this];rfl)
 obtain⟨lk,r1,f1⟩:=c.rows;rw[CO] at r1;have r2:Rw w lk (bF (0+2)) (fun _=>False):=r1.bT fun l p=>Ng p;have VT:w.most=if ((0+2:Nat):Int)>y.most then ((0+2:Nat):Int) else y.most:=c.most
 have gd:=a.gW;have kI:=a.size;have hcz:=c.size;have hwz:w.size=w.rows.length+w.labels.length+w.stack.length+w.frames.length:=rfl;have UG:0<=y.most:=by have:=a.most;lia
 have hm:2<=w.most/\w.most<=240:=by rw[VT];split<;>lia
 unfold CS.jL;rw[CO];cases hl:w.live with
 | true=>
  rw[if_pos (by rfl)];obtain⟨ks,k⟩:Rw (w.aV 267 4 (.i 2) 0) lk (bF (0+2)) (fun _=>False):=r2.aV .ret (by
   intro s hs;simp only[List.mem_cons,List.not_mem_nil,or_false] at hs;rcases hs with rfl|rfl<;>exact⟨by lia,by lia⟩) (by simp) (by simp) (fun s hs=>.inl (.inl hs))
  exact⟨⟨ks,lk,_,k⟩,sK (x:=w) r2.Ai.2 (wB (.inr (.inl rfl))) rfl rfl,by show 0<=w.most;lia,hm.2,by show (w.rows++[_]).length+w.labels.length<_;simp;lia⟩
 | false=>
  rw[if_neg (by decide)];obtain⟨ks,k⟩:=r2;exact⟨⟨ks,lk,_,k⟩,c.stop hl,by lia,hm.2,by lia⟩
theorem PA{body:List aR}(b:GO body)(adr:Nat):(CS.eF.aL 2 0 2 adr).wp Fin body:=by
 obtain⟨cC,h',rfl,s,he,bE⟩:=b;obtain⟨W',hh,qN,f,Oe,w,o,v',_⟩:=EO (code:=2) (p:=0) (r:=2) (h0:=0) (adr:=adr) (by decide) Kc (Int.le_refl _) (fun _=>rfl) (by lia) (by lia);have a0:At (CS.eF.aL 2 0 2 adr) 0 [(2,false)] (some 0):=At.uD v' (o.live.trans rfl) (o.skipped.trans rfl) (by rw[o.most,o.fr];show (0:Int)+1<=0+3;lia) (by have:=o.size;have e:CS.eF.size+CS.eF.stack.length=0:=rfl;lia) (o.fence (Int.le_refl _));have CO:(CS.eF.aL 2 0 2 adr).frames=[f]:=o.fr;have sV:=o.aU;have Yx:=o.nO;generalize CS.eF.aL 2 0 2 adr=x at *;rw[List.append_assoc,CS.gT];refine eB (.plain (by simp [aR.code]) (by simp [aR.code]) (by simp [aR.code]) (by simp [aR.code]) (by simp [aR.code])) a0 (by lia) (fun hl=>uM a0 hl (by lia)) fun y1 a1 s1=> ?_;refine eB (.plain (by simp [aR.code]) (by simp [aR.code]) (by simp [aR.code]) (by simp [aR.code]) (by simp [aR.code])) a1 (by lia) (fun hl=>F1 a1 hl (by lia) (by simp) (by lia) (by lia)) fun y2 a2 s2=> ?_;show CS.wp Fin (cC++[.cV]) y2;rw[CS.gT];refine Tj s a2 (by lia) (by simp) (by simp) fun y3 a3 s3=> ?_;exact NB CO (s1.trans (s2.trans s3)) (by rw[sV];rfl) Yx a3 (by lia) he
end
theorem Wj{b:Bool}{op:Int}(h:(!b&&op != 262)=true):b=false/\op≠262:=⟨(Bool.not_eq_true' b).mp (Bool.and_eq_true_iff.mp h).1,bne_iff_ne.mp (Bool.and_eq_true_iff.mp h).2⟩
theorem Wk{b:Bool}{op:Int}(h:(b&&op != 262)=true):b=true/\op≠262:=⟨(Bool.and_eq_true_iff.mp h).1,bne_iff_ne.mp (Bool.and_eq_true_iff.mp h).2⟩
theorem Bb{rows:List dZ}{labels:List Int}{r:dZ}{rd wr lb:List Int}{go:Bool}(k:fJ r rd wr lb go):A3 (r.zP=lb) (r.op=262->r.b.UJ/\r.b.l.length<1000) (fJ (jR rows labels r) rd wr (lb.map (pO rows labels)) go):=by
 have nj: ∀ (r:dZ),mA r.op=false->r.op≠262->A3 (r.zP=[]) (r.op=262->r.b.UJ/\r.b.l.length<1000) (jR rows labels r=r):=fun r h1 h2=>by
  refine⟨?_,fun h=>absurd h h2,?_⟩
  ·unfold dZ.zP;rw[if_neg (by rw[h1];decide),if_neg h2]
  ·unfold jR;rw[if_neg (by rw[h1];decide),if_neg h2]
 have yj: ∀ (r:dZ),mA r.op=true->r.op≠262->A3 (r.zP=[r.a]) (r.op=262->r.b.UJ/\r.b.l.length<1000) (jR rows labels r= { r with a:=pO rows labels r.a }):=fun r h1 h2=>by
  refine⟨?_,fun h=>absurd h h2,?_⟩
  ·unfold dZ.zP;rw[if_pos h1]
  ·unfold jR;rw[if_pos h1]
 have pl: ∀ {r:dZ} {rd wr:List Int},fJ r rd wr [] true->mA r.op=false->r.op≠262->A3 (r.zP=[]) (r.op=262->r.b.UJ/\r.b.l.length<1000) (fJ (jR rows labels r) rd wr (([]:List Int).map (pO rows labels)) true):=fun {r rd wr} k h1 h2=>by
  obtain⟨a,b,c⟩:=nj r h1 h2;exact⟨a,b,by rw[c];exact k⟩
 induction k with
 | HQ=>exact pl .HQ rfl (show (256:Int)≠262 by decide)
 | const=>exact pl .const rfl (show (257:Int)≠262 by decide)
 | cG=>exact pl .cG rfl (show (258:Int)≠262 by decide)
 | zM=>exact pl .zM rfl (show (69:Int)≠262 by decide)
 | call=>exact pl .call rfl (show (263:Int)≠262 by decide)
 | lP h=>
  obtain⟨a,b⟩:=Wj (iN (by decide:(pP.all fun op=> !mA op&&op != 262)=true) h);exact pl (.lP h) a b
 | sX h=>
  obtain⟨a,b⟩:=Wj (iN (by decide:(pP.all fun op=> !mA (16384+op)&&(16384+op) != 262)=true) h);exact pl (.sX h) a b
 | @HG l=>
  obtain⟨a,b,c⟩:=yj ⟨259,l,.i 0,0⟩ rfl (show (259:Int)≠262 by decide);exact⟨a,b,by rw[c];exact .HG⟩
 | @On op l s h=>
  obtain⟨a,b,c⟩:=yj ⟨op,l,.i s,0⟩ (h.elim (fun e=>e▸rfl) fun e=>e▸rfl) (h.elim (fun e q=>absurd (e.symm.trans q) (by decide)) fun e q=>absurd (e.symm.trans q) (by decide));exact⟨a,b,by rw[c];exact .On h⟩
 | @br op l s t h=>
  obtain⟨a1,b1⟩:=Wk (iN (by decide:(AY.all fun op=>mA op&&op != 262)=true) h);obtain⟨a,b,c⟩:=yj ⟨op,l,.i s,t⟩ a1 b1;exact⟨a,b,by rw[c];exact .br h⟩
 | @Oc op l s t h=>
  obtain⟨a1,b1⟩:=Wk (iN (by decide:(tW.all fun op=>mA op&&op != 262)=true) h);obtain⟨a,b,c⟩:=yj ⟨op,l,.i s,t⟩ a1 b1;exact⟨a,b,by rw[c];exact .Oc h⟩
 | @table a ls h=>
  exact⟨rfl,fun _=>⟨trivial,h⟩,.table (by rw[List.length_map];exact h)⟩
 | ret=>exact⟨rfl,fun h=>absurd h (show ¬ (267:Int)=262 by decide),.ret⟩
 | OK=>exact⟨rfl,fun h=>absurd h (show ¬ (0:Int)=262 by decide),.OK⟩
structure AD(R:List dZ)(K:Nat->Sl)(slots:Int):Prop where
 row: ∀ (j:Nat) r,R[j]? = some r->Ot (fun rd wr tg go=>fJ r rd wr tg go) (fun rd _ _ _=>∀ s∈rd,K j s/\0<=s/\s<slots) (fun _ wr _ _=>∀ s∈wr,0<=s/\s<slots) (fun _ wr _ go=>go=true->j+1<R.length/\∀ s,K (j+1) s->K j s\/s∈wr) (fun _ _ tg _=>∀ t∈tg,∃ q:Nat,t=q/\q<R.length/\∀ s,K q s->K j s)
 start: ∀ s,K 0 s->0<=s/\s<4
 bound: ∀ j s,K j s->0<=s/\s<slots
 pos:0<R.length
section
variable{y:CS}
theorem Fin.zP(f:Fin y):oG y.rows y.labels:=by
 obtain⟨ks,lk,W,k⟩:=f.jv;intro r hr;obtain⟨j,hj⟩:=List.getElem?_of_mem hr;have eA:=(List.getElem?_eq_some_iff.mp hj).1;obtain⟨rd,wr,lb,go,ok⟩:=k.row j r _ hj (List.getElem?_eq_getElem (by rw[k.len];exact eA));obtain⟨h1,h2,_⟩:=Bb (rows:=y.rows) (labels:=y.labels) ok.hk;refine⟨fun l hl=> ?_,h2⟩;rw[h1] at hl;obtain⟨h0,Kl,_,_,h3⟩:=ok.Ei l hl;exact⟨h0,h3.resolve_left id⟩
theorem Fin.PM(f:Fin y): ∃ K,AD (iY y.rows y.labels) K (4+y.most):=by
 obtain⟨ks,lk,W,k⟩:=f.jv;obtain⟨s1,r0,s2,s3⟩:=f.stop;have hf0:=k.f0;refine⟨fun j=>ks[j]?.getD (fun _=>False),?_⟩;have bE:(iY y.rows y.labels).length=y.rows.length:=by simp [iY]
 have Vt: ∀ j,j<y.rows.length->∃ K,ks[j]? = some K:=fun j hj=>⟨_,List.getElem?_eq_getElem (by rw[k.len];exact hj)⟩;have Vu: ∀ {l:Int} {K:Sl},eS y.labels lk (fun _=>False) K l->zB (fun (q:Nat)=>pZ y.labels l=q) (fun (q:Nat)=>q<y.rows.length) (fun (q:Nat)=>∀ s,(ks[q]?.getD (fun _=>False)) s->K s):=fun {l K} ⟨h0,Kl,h1,h2,h3⟩=>by
  obtain⟨q,hq⟩:=h3.resolve_left id;have e:pZ y.labels l=q:=by unfold pZ;rw[hq];rfl
  rcases k.dP _ _ _ hq h1 with h|⟨q',e',Iw,hK⟩
  ·lia
  ·have:q'=q:=by lia
   subst this;refine⟨q',e,by lia,fun s hs=>h2 s (hK s ?_)⟩;obtain⟨Kq,T6⟩:=Vt q' (by lia);rw[T6] at hs ⊢;exact hs
 have Zv: ∀ {l:Int} {K:Sl},eS y.labels lk (fun _=>False) K l->∀ n,zB (fun (q:Nat)=>Rd y.rows y.labels n (pZ y.labels l)=q) (fun (q:Nat)=>q<y.rows.length) (fun (q:Nat)=>∀ s,(ks[q]?.getD (fun _=>False)) s->K s):=fun {l K} hl n=>by
  induction n with
  | zero=>exact Vu hl
  | succ n ih=>
   obtain⟨q,e,hq,hK⟩:=ih;show zB (fun q:Nat=>nD y.rows y.labels (Rd y.rows y.labels n (pZ y.labels l))=q) _ _;rw[e];unfold nD;rw[Int.toNat_natCast,List.getElem?_eq_getElem hq];dsimp only;split
   ·rename_i kC
    obtain⟨Kq,T6⟩:=Vt q hq;obtain⟨rd,wr,lb,go,ok⟩:=k.row q _ _ (List.getElem?_eq_getElem hq) T6;obtain⟨h1,_,_⟩:=Bb (rows:=y.rows) (labels:=y.labels) ok.hk;have Ei:y.rows[q].a∈lb:=by
     rw[<- h1];unfold dZ.zP;rw[kC];exact List.mem_singleton.mpr rfl
    obtain⟨q2,e2,qb,mo⟩:=Vu (ok.Ei _ Ei);refine⟨q2,e2,qb,fun s hs=>hK s ?_⟩;rw[T6];exact mo s hs
   ·exact⟨q,rfl,hq,hK⟩
 refine⟨fun j r hr=> ?_,fun s hs=> ?_,fun j s hs=> ?_,by rw[bE];lia⟩
 ·have CQ: ∃ r0,y.rows[j]? = some r0/\jR y.rows y.labels r0=r:=by
   unfold iY at hr;rw[List.getElem?_map] at hr;exact Option.map_eq_some_iff.mp hr
  obtain⟨r',CQ,rfl⟩:=CQ;have hj:=(List.getElem?_eq_some_iff.mp CQ).1;obtain⟨K,hK⟩:=Vt j hj;obtain⟨rd,wr,lb,go,ok⟩:=k.row j r' K CQ hK;obtain⟨_,_,h3⟩:=Bb (rows:=y.rows) (labels:=y.labels) ok.hk;refine⟨rd,wr,_,go,h3,fun s hs=> ?_,fun s hs=>ok.XC s (.inr hs),fun hg=> ?_,fun t ht=> ?_⟩
  ·show (ks[j]?.getD _) s/\_
   rw[hK];exact⟨ok.Ek s hs,ok.XC s (.inl hs)⟩
  ·have VM:j+1<y.rows.length:=by
    by_cases h:j+1<y.rows.length
    ·exact h
    ·exfalso
     have e:j=y.rows.length - 1:=by lia
     rw[e,<- List.getLast?_eq_getElem?,s2] at CQ;cases CQ;have:=s3 _ _ _ _ ok.hk;rw[hg] at this;cases this
   refine⟨by rw[bE];exact VM,fun s hs=> ?_⟩;show (ks[j]?.getD _) s\/_;rw[hK];have FH:(ks[j+1]?.getD (fun _=>False)) s:=hs;obtain⟨K1,eg⟩:=Vt _ VM;rw[eg] at FH;exact ok.RM hg s (by rw[eg];exact FH)
  ·obtain⟨l,hl,rfl⟩:=List.mem_map.mp ht
   obtain⟨q,e,hq,T6⟩:=Zv (ok.Ei l hl) 8;refine⟨q,e,by rw[bE];exact hq,fun s hs=> ?_⟩;show (ks[j]?.getD _) s;rw[hK];exact T6 s hs
 ·have FH:(ks[0]?.getD (fun _=>False)) s:=hs
  obtain⟨K0,Yj⟩:=Vt 0 (by lia);rw[Yj] at FH;have:=k.st s (by rw[Yj];exact FH);exact⟨(k.kb K0 (List.mem_of_getElem? Yj) s FH).1,this⟩
 ·have FH:(ks[j]?.getD (fun _=>False)) s:=hs
  cases hK:ks[j]? with
  | none=>rw[hK] at FH;exact FH.elim
  | some K=>
   rw[hK] at FH;exact k.kb K (List.mem_of_getElem? hK) s FH
end
noncomputable def KY(n:Nat):V:=.aM (List.replicate n (.int (-1)))
noncomputable def rG(n m:Nat):V:=.aM [KY n,KY m]
noncomputable def gG:List V:=[rG 0 0,rG 0 1,rG 1 1,rG 2 1,rG 1 2,rG 2 2]
noncomputable def V0:aY:=.inst 13 [(17,.ref 1),(59,.ref 2),(60,.ref 3),(61,.ref 4),(62,.ref 5),(63,.ref 6),(64,.ref 7),(65,.none),(66,.ref 8),(67,.ref 9),(68,.ref 10)]
noncomputable def Vp:aY:=.inst 11 [(55,.str "h"),(56,.str "f"),(57,.int 0),(58,.int 5)]
noncomputable def YT:aY:=.inst 12 [(18,.int 5),(20,KY 2),(39,.ref 13)]
noncomputable def uS(B:List V)(r:Hp):Hp:=V0:: .list gG:: .list [.ref 11]:: .list [.ref 12]:: .list []:: .list []:: .list []:: .list []:: .list []:: .list []:: .list []::Vp::YT:: .list B::r
namespace CS
noncomputable def obj(x:CS):aY:=.inst 10 [(15,.ref 0),(16,.ref 12),(19,.int 4),(8,.int 2),(4,.ref 18),(21,.ref 19),(22,.int x.fence),(23,.ref 20),(24,.int x.most),(25,.ref 21),(26,.bool x.live),(27,.int x.skipped)]
noncomputable def hp(B:List V)(x:CS)(r:Hp):Hp:=uS B (.list [.ref 3,.ref 4,.ref 5,.ref 6]:: .list [.int 5]:: .list [.int 5]::x.obj:: .list (x.rows.map dZ.v):: .list (x.labels.map .int):: .list (x.stack.map bL.v):: .list ((List.range x.frames.length).map fun k=>.ref (k+22))::(x.frames.map Fr.o++r))
end CS
section
variable{G:Cx}{cl:Call}{ρ:cP}{H:Hp}
theorem iO{l:Nat}{xs:List V}{v:V}{Q:V×Hp->Prop}(hz:xs.length<100000)(k:Q (.none,H.set l (.list (xs++[v])))):cJ (vT l xs 0 [v] H) Q:=.of (dJ (decide_eq_true (Nat.lt_trans hz (by decide)))) k
theorem fL{α β:Type}(f:α->β)(xs:List α)(x:α):xs.map f++[f x]=(xs++[x]).map f:=by rw[List.map_append];rfl
theorem fQ{k n:Nat}(h:k<n):fY (k:Int) n=some k:=by
 unfold fY;rw[if_pos (Int.natCast_nonneg k),if_pos (Int.ofNat_lt.mpr h)];rfl
theorem Hd{n:Nat}: fY (-1) (n+1)=some n:=by
 unfold fY;rw[if_neg (by decide),if_pos (by lia)];exact congrArg some (by lia)
theorem kN{xs:List V}{i:Int}{k:Nat}{v:V}{Q:V->Prop}(hk:fY i xs.length=some k)(hv:xs[k]? = some v)(q:Q v):cJ (Q2 xs i) Q:=.of ((dT hk).trans hv) q
noncomputable abbrev Wf(sc:List Int)(d n:Nat)(args:List V)(H:Hp)(Q:PE):Prop:=Bx (wF (cx sc) d n args H Q)
noncomputable abbrev Cl(sc:List Int)(d:Nat):Call:=Uw (cx sc) fun n args h Q=>Bx (wF (cx sc) d n args h Q)
theorem enter{sc:List Int}{d n np nv:Nat}{b:List S}{args:List V}{Q:PE}(hk:(cx sc).kind n= .fn np nv b)(hl:Nat.beq args.length np=true)(h:eI (cx sc) (Cl sc d) b (args.map some++List.replicate (nv - np) none) H fun fl _ h1=>Q (eG fl) h1):Wf sc (d+1) n args H Q:=by
 constructor
 rw[OU];unfold Cl at h;simp only[OU] at h;show cJ (MR ((cx sc).kind n)) _;rw[hk];show cR (Nat.beq args.length np) _ _;rw[hl];exact h
theorem N1{l:Nat}{xs:List V}{i:Int}{k:Nat}{v:V}{Q:Hp->Prop}(e:H[l]? = some (.list xs))(hk:fY i xs.length=some k)(q:Q (H.set l (.list (xs.set k v)))):cJ (oB (.ref l) i v H) Q:=by
 refine .of (x:=H.set l (.list (xs.set k v))) ?_ q;show bO H[l]? _=_;rw[e];show bO (bO (fY i xs.length) _) _=_;rw[hk];rfl
theorem rF{c:Bool}{p q:Prop}(h:c=true)(k:p):cR c p q:=by rw[h];exact k
theorem Cw{c:Bool}{p q:Prop}(h:c=false)(k:q):cR c p q:=by rw[h];exact k
end
section
variable{sc:List Int}{d:Nat}{x:CS}{B:List V}{r:Hp}{Q:PE}
theorem CS.DO(hz:x.size<99999):x.rows.length<99999:=by unfold CS.size at hz;lia
theorem CS.Fy(hz:x.size<99999):x.labels.length<99999:=by unfold CS.size at hz;lia
theorem CS.mI(hz:x.size<99999):x.stack.length<99999:=by unfold CS.size at hz;lia
theorem EF{α β:Type}{f:α->β}{xs:List α}(h:xs.length<99999):(xs.map f).length<100000:=by rw[List.length_map];exact Nat.lt_trans h (by decide)
theorem iF(h:Int)(k:Q (.int (4+h)) (x.hp B r)):Wf sc (d+1) 30 [.ref 17,.int h] (x.hp B r) Q:=enter rfl rfl k
theorem to{h h':Hp}{Q:Hp->Prop}(e:h=h')(k:Q h'):Q h:=e▸k
theorem Wi{v v':V}{h h':Hp}(ev:v=v')(eh:h=h')(k:Q v' h'):Q v h:=ev▸eh▸k
theorem XQ{rows:List dZ}{l:List V}(e:l=rows.map dZ.v):(x.hp B r).set 18 (.list l)=CS.hp B { x with rows:=rows } r:=e▸rfl
theorem pr{ls:List Int}{l:List V}(e:l=ls.map V.int):(x.hp B r).set 19 (.list l)=CS.hp B { x with labels:=ls } r:=e▸rfl
theorem ZK{es:List bL}{l:List V}(e:l=es.map bL.v):(x.hp B r).set 20 (.list l)=CS.hp B { x with stack:=es } r:=e▸rfl
theorem ZL{es:List bL}{l:List V}{m m':Int}(e:l=es.map bL.v)(em:m=m'):((x.hp B r).set 20 (.list l)).set 17 (CS.obj { x with most:=m })=CS.hp B { x with stack:=es,most:=m' } r:=e▸em▸rfl
theorem ZJ{ls:List Int}{l:List V}{m m':Int}(e:l=ls.map V.int)(em:m=m'):((x.hp B r).set 19 (.list l)).set 17 (CS.obj { x with fence:=m })=CS.hp B { x with labels:=ls,fence:=m' } r:=e▸em▸rfl
theorem bK{α:Type}{f:α->V}{xs:List α}: ((xs.map f).length:Int)=xs.length:=by rw[List.length_map]
theorem FM{α:Type}{f:α->V}{xs:List α}{v:V}: ((xs.map f++[v]).length:Int)=(xs.length:Int)+1:=by rw[List.length_append,List.length_map];rfl
theorem dE(hz:x.size<99999)(op i:Int)(b:Arg)(c:Int)(k:Q .none ((x.aV op i b c).hp B r)):Wf sc (d+1) 29 [.ref 17,.int op,.int i,b.v,.int c] (x.hp B r) Q:=
 enter rfl rfl (iO (EF (CS.DO hz)) (to (Q:=Q .none) (XQ (fL dZ.v x.rows ⟨op,i,b,c⟩)) k))
theorem AA(hz:x.size<99999)(k:Q (.int x.labels.length) (x.aP.hp B r)):Wf sc (d+1) 27 [.ref 17] (x.hp B r) Q:=
 enter rfl rfl (iO (EF (CS.Fy hz)) (Wi (Q:=Q) (congrArg V.int (by rw[FM];lia)) (pr (fL V.int x.labels (-1))) k))
theorem jT{l:Nat}(hl:l<x.labels.length)(k:Q .none ((x.aG l).hp B r)):Wf sc (d+1) 28 [.ref 17,.int l] (x.hp B r) Q:=
 enter rfl rfl (N1 rfl (fQ (by rw[List.length_map];exact hl)) (to (Q:=Q .none) (ZJ (by rw[bK,List.map_set]) bK) k))
theorem uJ(hz:x.size<99999)(e:bL)(k:Q .none ((x.push e).hp B r)):Wf sc (d+1) 31 [.ref 17,e.v] (x.hp B r) Q:=
 enter rfl rfl (iO (EF (CS.mI hz)) (to (Q:=Q .none) (ZL (m:=if ((x.stack.map bL.v++[e.v]).length:Int)>x.most then ((x.stack.map bL.v++[e.v]).length:Int) else x.most) (fL bL.v x.stack e) (by rw[FM])) k))
theorem gI(hz:x.size<99999)(k:Q (.int (4+x.stack.length)) (x.aZ.hp B r)):Wf sc (d+2) 32 [.ref 17] (x.hp B r) Q:=
 enter rfl rfl (iF _ (uJ (e:=.pl (4+((x.stack.map bL.v).length:Int))) hz (by
  show Q (.int (4+((x.stack.map bL.v).length:Int))) ((x.push (.pl (4+((x.stack.map bL.v).length:Int)))).hp B r);rw[bK];exact k)))
end
section
variable{G:Cx}{cl:Call}{ρ:cP}{H:Hp}
theorem uI{l:Nat}{xs:List V}{v:V}{Q:V×Hp->Prop}(hv:xs.getLast? = some v)(k:Q (v,H.set l (.list xs.dropLast))):cJ (vT l xs 1 [] H) Q:=.of (dT hv) k
theorem nI{nx:Nat->cP->Hp->Option (Option cP)}{body:cP->Hp->PS->Prop}{Q:PS}(n:Nat)(J:Nat->cP->Hp->Prop)(j0:J 0 ρ H)(cV: ∀ ρ H,J n ρ H->nx n ρ H=some none/\Q .next ρ H)
  (turn: ∀ k ρ H,k<n->J k ρ H->∀ go:cP->Hp->Prop,(∀ ρ H,J (k+1) ρ H->go ρ H)->dO (fun ρ1=>nx k ρ H=some (some ρ1)) (fun ρ1=>body ρ1 H (jE go Q))):gJ (rB nx body Q) (0,ρ,H):=by
 refine⟨n,fun m s=>m+s.1=n/\J s.1 s.2.1 s.2.2,⟨rfl,j0⟩,fun m s hs=> ?_⟩;obtain⟨k,ρ,H⟩:=s;obtain⟨h1,h2⟩:=hs;cases m with
 | zero=>
  rw[show k=n from (Nat.zero_add k).symm.trans h1] at h2 ⊢;obtain⟨h3,h4⟩:=cV ρ H h2;exact .of h3 h4
 | succ m=>
  obtain⟨ρ1,h3,h4⟩:=turn k ρ H (h1▸Nat.lt_add_of_pos_left (Nat.succ_pos m)) h2 (fun ρ' H'=>∃ m',m'<m+1/\(m'+(k+1)=n/\J (k+1) ρ' H')) fun ρ H j=>⟨m,Nat.lt_succ_self m,(Nat.succ_add_eq_add_succ m k).symm.trans h1,j⟩;exact .of h3 h4
theorem NR{b:Nat->V->cP->Option cP}{lo hi:Int}{k:Nat}{ρ1:cP}(h:lo+k<hi)(e:b k (.int (lo+k)) ρ=some ρ1):JI b (.mD lo hi) k ρ H=some (some ρ1):=by
 show bO (some (if lo+k<hi then _ else _)) _=_;rw[if_pos h];exact dT e
theorem JJ{b:Nat->V->cP->Option cP}{lo hi:Int}{k:Nat}(h: ¬ lo+k<hi):JI b (.mD lo hi) k ρ H=some none:=by
 show bO (some (if lo+k<hi then _ else _)) _=_;rw[if_neg h];rfl
theorem iM{n:Nat}(h:n<1000000):dU (n:Int)=true:=decide_eq_true (Nat.lt_trans h (by decide))
theorem K8{a b:Int}{m n:Nat}(ea:a=m)(eb:b=n)(ha:m<1000000)(hb:n<1000000):(dU a&&dU b)=true:=by rw[ea,eb,iM ha,iM hb];rfl
theorem BH{t:Nat}{body:cP->Hp->PS->Prop}{Q:PS}{lo hi:Int}{b n:Nat}(lg:lo=b)(YN:hi=(b+n:Nat))(J:Nat->cP->Hp->Prop)(j0:J 0 ρ H)(cV: ∀ ρ H,J n ρ H->Q .next ρ H)
  (turn: ∀ k ρ H,k<n->J k ρ H->∀ go:cP->Hp->Prop,(∀ ρ H,J (k+1) ρ H->go ρ H)->body (ρ.set t (some (.int (b+k:Nat)))) H (jE go Q)):gJ (rB (JI (fun _ v ρ=>some (ρ.set t (some v))) (.mD lo hi)) body Q) (0,ρ,H):=by
 rw[lg,YN];exact nI n J j0 (fun ρ H j=>⟨JJ (Int.lt_irrefl _),cV ρ H j⟩) fun k ρ H hk j go hg=>⟨_,NR (Int.ofNat_lt.mpr (Nat.add_lt_add_left hk b)) rfl,turn k ρ H hk j go hg⟩
theorem AC{s n k m:Nat}(hz:s+n<m)(hk:k<n):s+k<m:=Nat.lt_trans (Nat.add_lt_add_left hk s) hz
theorem TQ{a b:Int}{Q:V×Hp->Prop}(h:(dU a&&dU b)=true)(k:Q (.mD a b,H)):cJ (dI (dU a&&dU b) (some (V.mD a b,H))) Q:=.of (dJ h) k
theorem nB{a:Int}{Q:V×Hp->Prop}(h:dU a=true)(k:Q (.mD 0 a,H)):cJ (dI (dU a) (some (V.mD 0 a,H))) Q:=.of (dJ h) k
end
theorem CS.xW{x:CS}{h:Nat}{e:bL}(he:x.stack[h]? = some e):x.cB h=(x.kP (4+h) e).DM h (.pl (4+h)):=by
 unfold CS.cB;rw[he]
theorem dR{α β:Type}{f:α->β}{xs:List α}{k:Nat}{x:α}(h:xs[k]? = some x):(xs.map f)[k]? = some (f x):=by rw[List.getElem?_map,h];rfl
theorem QK{α β:Type}(f:α->β)(xs:List α)(i:Nat)(a:α):(xs.map f).set i (f a)=(xs.set i a).map f:=by rw[List.map_set]
theorem bD{α:Type}{xs:List α}{k:Nat}{x:α}(h:xs[k]? = some x):k<xs.length:=(List.getElem?_eq_some_iff.mp h).1
theorem fP{α β:Type}{f:α->β}{xs:List α}{k:Nat}(h:k<xs.length):fY (k:Int) (xs.map f).length=some k:=fQ (by rw[List.length_map];exact h)
section
variable{sc:List Int}{d:Nat}{x:CS}{B:List V}{r:Hp}{Q:PE}
theorem qB{e:bL}(he:x.stack.getLast? = some e)(k:Q e.v (x.pop.hp B r)):Wf sc (d+1) 33 [.ref 17] (x.hp B r) Q:=
 enter rfl rfl (uI (by rw[List.getLast?_map,he];rfl) (to (Q:=Q e.v) (ZK List.map_dropLast.symm) k))
theorem yU(hz:x.size<99999)(slot:Int)(e:bL)(k:Q .none ((x.kP slot e).hp B r)):Wf sc (d+2) 34 [.ref 17,.int slot,e.v] (x.hp B r) Q:=by
 cases e with
 | num n=>exact enter rfl rfl (dE hz 257 slot (.i n) 0 k)
 | pl t=>
  have k:Q .none ((if t=slot then x else x.aV 256 slot (.i t) 0).hp B r):=k;by_cases ht:t=slot
  ·rw[if_pos ht] at k
   exact enter rfl rfl (Cw (by rw[ht];exact congrArg not (beq_self_eq_true slot)) k)
  ·rw[if_neg ht] at k
   exact enter rfl rfl (rF (congrArg not (beq_eq_false_iff_ne.mpr ht)) (dE hz 256 slot (.i t) 0 k))
theorem rP(hz:x.size<99999)(e:bL)(h:Int)(k:Q (.int (x.bN h e).2) ((x.bN h e).1.hp B r)):Wf sc (d+2) 35 [.ref 17,e.v,.int h] (x.hp B r) Q:=by
 cases e with
 | num n=>exact enter rfl rfl (iF h (dE hz 257 (4+h) (.i n) 0 (iF h k)))
 | pl t=>exact enter rfl rfl k
theorem Fq(hz:x.size<99999){h:Nat}{i:Int}{e:bL}(ei:i=h)(he:x.stack[h]? = some e)(k:Q .none ((x.cB h).hp B r)):Wf sc (d+3) 36 [.ref 17,.int i] (x.hp B r) Q:=by
 rw[CS.xW he] at k;rw[ei];exact enter rfl rfl (iF h (kN (fP (bD he)) (dR he) (yU hz (4+h) e (iF h (N1 rfl (fP (by rw[CS.nW];exact bD he)) (to (Q:=Q .none) (ZK (QK bL.v (x.kP (4+h) e).stack h (.pl (4+h)))) k))))))
theorem rO{m:Int}{many:Nat}(em:m=many)(hm:many<=x.stack.length)(hz:x.size+many<99999)(k:Q (.int (4+(x.stack.length - many:Nat))) ((x.aI many).hp B r)):Wf sc (d+4) 37 [.ref 17,.int m] (x.hp B r) Q:=by
 have hb:((x.stack.map bL.v).length:Int) - m=(x.stack.length - many:Nat):=by rw[bK,em];exact (Int.ofNat_sub hm).symm
 have hl:((x.stack.map bL.v).length:Int)=(x.stack.length - many+many:Nat):=by rw[bK,Nat.sub_add_cancel hm]
 have hs:=Nat.lt_trans (CS.mI (Nat.lt_of_le_of_lt (Nat.le_add_right _ _) hz)) (by decide:99999<1000000);refine enter rfl rfl (TQ (K8 hb hl (Nat.lt_of_le_of_lt (Nat.sub_le ..) hs) (Nat.lt_of_le_of_lt (Nat.le_of_eq (Nat.sub_add_cancel hm)) hs)) (BH hb hl (fun k ρ h=>dO (fun v=>ρ=[some (.ref 17),some (.int m),some (.int (((x.stack.map bL.v).length:Int) - m)),v]) (fun _=>h=(x.dY (x.stack.length - many) k).hp B r)) ⟨_,rfl,rfl⟩ (fun ρ h j=> ?_) fun n ρ h hn j go gV=> ?_))
 ·obtain⟨v,e1,e2⟩:=j
  rw[e1,e2];exact iF _ (Wi (Q:=Q) (congrArg (fun i=>V.int (4+i)) hb) rfl k)
 ·obtain⟨v,e1,e2⟩:=j
  rw[e1,e2];exact Fq (Nat.lt_of_le_of_lt CS.pN (AC hz hn)) rfl (List.getElem?_eq_getElem (by rw[CS.iL];exact Nat.lt_of_lt_of_eq (Nat.add_lt_add_left hn _) (Nat.sub_add_cancel hm))) (gV _ _ ⟨_,rfl,rfl⟩)
theorem rN(hz:x.size+x.stack.length<99999)(k:Q .none ((x.aI x.stack.length).hp B r)):Wf sc (d+5) 38 [.ref 17] (x.hp B r) Q:=
 enter rfl rfl (rO bK (Nat.le_refl _) hz k)
theorem DE{m:Int}{many:Nat}(em:m=many)(hm:many<=x.stack.length)(hz:x.size<99999)(k:Q .none ((x.bX many).hp B r)):Wf sc (d+1) 39 [.ref 17,.int m] (x.hp B r) Q:=by
 have hs:=Nat.lt_trans (CS.mI hz) (by decide:99999<1000000);refine enter rfl rfl (nB (em▸iM (Nat.lt_of_le_of_lt hm hs)) (BH (b:=0) rfl (em.trans (congrArg _ (Nat.zero_add many).symm)) (fun k ρ h=>dO (fun v=>ρ=[some (.ref 17),some (.int m),v]) (fun _=>h=(x.bX k).hp B r)) ⟨_,rfl,rfl⟩ (fun ρ h j=> ?_) fun n ρ h hn j go gV=> ?_))
 ·obtain⟨v,e1,e2⟩:=j
  rw[e1,e2];exact k
 ·obtain⟨v,e1,e2⟩:=j
  rw[e1,e2];obtain⟨e,he⟩:=eL (l:=(x.bX n).stack) (by rw[CS.mV];exact Nat.sub_pos_of_lt (Nat.lt_of_lt_of_le hn hm));exact uI (v:=e.v) (by rw[List.getLast?_map,he];rfl) (gV _ _ ⟨_,rfl,ZK List.map_dropLast.symm⟩)
theorem JU(k:Q .none (({ x with live:=false }: CS).hp B r)):Wf sc (d+1) 49 [.ref 17] (x.hp B r) Q:=enter rfl rfl k
end
theorem IX{a b:Int}: (a==b)=decide (a=b):=by
 by_cases h:a=b
 ·rw[decide_eq_true h];exact beq_iff_eq.mpr h
 ·rw[decide_eq_false h];exact beq_eq_false_iff_ne.mpr h
theorem Ji{m:Nat}{e f:bL}: LJ e.v f.v (m+1)=some (decide (e=f)):=by
 cases e with
 | num n=>cases f with
  | num k=>
   show some ((n==k)&&true)=_;rw[Bool.and_true,IX];exact congrArg some (decide_eq_decide.mpr ⟨fun h=>congrArg _ h,fun h=>by cases h;rfl⟩)
  | pl k=>exact congrArg some (decide_eq_false fun q=>nomatch q).symm
 | pl n=>cases f with
  | num k=>exact congrArg some (decide_eq_false fun q=>nomatch q).symm
  | pl k=>
   show some ((n==k)&&true)=_;rw[Bool.and_true,IX];exact congrArg some (decide_eq_decide.mpr ⟨fun h=>congrArg _ h,fun h=>by cases h;rfl⟩)
theorem LK{m:Nat}{es:List bL}: ∀ {fs:List bL},es.length=fs.length->yB (es.map bL.v) (fs.map bL.v) (m+1)=some (decide (es=fs)):=by
 induction es with
 | nil=>
  intro fs h;rw[List.length_eq_zero_iff.mp h.symm];rfl
 | cons e es ih=>
  intro fs h;cases fs with
  | nil=>exact Nat.noConfusion h
  | cons f fs=>
   show bO (LJ e.v f.v (m+1)) _=_;rw[Ji];show bO (yB (es.map bL.v) (fs.map bL.v) (m+1)) _=_;rw[ih (Nat.succ.inj h)];show some (decide (e=f)&&decide (es=fs))=_;rw[<- Bool.decide_and];exact congrArg some (decide_eq_decide.mpr List.cons_eq_cons.symm)
section
variable{G:Cx}{cl:Call}{ρ:cP}{H:Hp}
theorem Gb{c b:Bool}{P:Bool->Prop}(k:P (c&&b)):cR c (P b) (P false):=by cases c<;>exact k
theorem WH{c b:Bool}{P:Bool->Prop}(k:P (c||b)):cR c (P c) (P b):=by cases c<;>exact k
theorem bQ{c:Bool}{p q:Prop}(t:c=true->p)(f:c=false->q):cR c p q:=by
 cases c with
 | true=>exact t rfl
 | false=>exact f rfl
theorem Dz{e:bL}{i:Int}{Q:Bool->Prop}(k:Q (decide (e= .pl i))):cJ (vE G .eq e.v (.aM [.int 0,.int i]) H) Q:=by
 cases e<;>exact .of (Ji (m:=19) (f:=.pl i)) k
theorem E7(k:Int)(es:List (Int×V)):(cA es k).isSome=D9 k (es.map (·.1)):=by
 induction es with
 | nil=>rfl
 | cons e r ih=>
  unfold cA at ih ⊢;rw[Option.isSome_map] at ih ⊢;rw[List.find?_cons];show _=(k==e.1||D9 k (r.map (·.1)));rw[BEq.comm,<- ih];cases k==e.1<;>rfl
theorem sH{b:Nat->V->cP->Option cP}{a k:Nat}{xs:List V}{v:V}{ρ1:cP}(e:H[a]? = some (.list xs))(hv:xs[k]? = some v)(hb:b k v ρ=some ρ1):JI b (.ref a) k ρ H=some (some ρ1):=by
 show bO (bO (bO H[a]? nJ) _) _=_;rw[e];show bO (some xs[k]?) _=_;rw[hv];exact dT hb
theorem nT{b:Nat->V->cP->Option cP}{a k:Nat}{xs:List V}(e:H[a]? = some (.list xs))(hv:xs.length<=k):JI b (.ref a) k ρ H=some none:=by
 show bO (bO (bO H[a]? nJ) _) _=_;rw[e];show bO (some xs[k]?) _=_;rw[List.getElem?_eq_none hv];rfl
theorem Gu{turn:V->Hp->(Option V->Hp->Prop)->Prop}{it:V}{Q:PE}(n:Nat)(item:Nat->V)(g:Nat->Option V)(h1: ∀ k,k<n->qA it k H=some (some (item k)))(h2:qA it n H=some none)(hz:n<most)
  (ht: ∀ k q,k<n->q (g k) H->turn (item k) H q) (k:Q (.ref H.length) (H++[.list ((List.range n).filterMap g)])):gJ (rA turn it Q) (0,[],H):=by
 refine⟨n,fun m s=>m+s.1=n/\s.2.1=(List.range s.1).filterMap g/\s.2.2=H,⟨rfl,rfl,rfl⟩,fun m s hs=> ?_⟩;obtain⟨j,acc,h⟩:=s;obtain⟨e1,e2,e3⟩:=hs;have e2:acc=(List.range j).filterMap g:=e2;have e3:h=H:=e3;rw[e3];cases m with
 | zero=>
  have ej:j=n:=(Nat.zero_add j).symm.trans e1;rw[ej] at e2 ⊢;rw[e2];exact .of h2 k
 | succ m=>
  have hj:j<n:=e1▸Nat.lt_add_of_pos_left (Nat.succ_pos m);have en:=(Nat.succ_add_eq_add_succ m j).symm.trans e1;refine .of (h1 j hj) (ht j _ hj ?_);have er:(List.range (j+1)).filterMap g=acc++(match g j with|some v=>[v]|none=>[]):=by
   rw[List.range_succ,List.filterMap_append,e2,List.filterMap_cons,List.filterMap_nil];cases g j<;>rfl
  cases hg:g j with
  | none=>
   rw[hg] at er;exact⟨m,Nat.lt_succ_self m,en,(List.append_nil acc).symm.trans er.symm,rfl⟩
  | some v=>
   rw[hg] at er;refine⟨?_,m,Nat.lt_succ_self m,en,er.symm,rfl⟩;show acc.length<most;rw[e2];exact Nat.lt_of_le_of_lt (List.length_filterMap_le ..) (by rw[List.length_range];exact Nat.lt_trans hj hz)
theorem Ab{turn:V->Hp->(Option V->Hp->Prop)->Prop}{hi:Int}{Q:PE}{n:Nat}(g:Nat->V)(eh:hi=n)(hz:n<1000000)(ht: ∀ (k:Nat) q,k<n->q (some (g k)) H->turn (.int k) H q)(k:Q (.ref H.length) (H++[.list ((List.range n).map g)])):gJ (rA turn (.mD 0 hi) Q) (0,[],H):=by
 rw[eh];refine Gu n (fun k=>.int k) (fun k=>some (g k)) (fun k hk=> ?_) ?_ (Nat.lt_trans hz (by decide)) ht ?_
 ·show some (if (0:Int)+k<n then some (V.int (0+k)) else none)=_
  rw[Int.zero_add,if_pos (Int.ofNat_lt.mpr hk)]
 ·show some (if (0:Int)+n<n then some (V.int (0+n)) else none)=_
  rw[Int.zero_add,if_neg (Int.lt_irrefl _)]
 ·rw[List.filterMap_eq_map'];exact k
end
section
variable{sc:List Int}{d:Nat}{x:CS}{B:List V}{r H:Hp}{Q:PE}{op:Int}
theorem Np(k:Q (.bool (HE op)) H):Wf sc (d+1) 18 [.int op] H Q:=enter rfl rfl (Gb (P:=fun b=>Q (.bool b) H) k)
theorem JV(k:Q (.bool (Az op)) H):Wf sc (d+1) 19 [.int op] H Q:=enter rfl rfl (Gb (P:=fun b=>cR b (Q (.bool b) H) (Q (.bool (op==209)) H)) (WH (P:=fun b=>Q (.bool b) H) k))
theorem xB(h:(D9 op rY||(D9 op sD||HE op))=true):fX op=true:=by unfold fX;rw[h];rfl
theorem Kv(k:Q (.bool (fX op)) H):Wf sc (d+2) 20 [.int op] H Q:=by
 refine enter rfl rfl (bQ (fun h=>rF h ?_) fun h=>bQ (fun h2=>rF h2 ?_) fun h2=>Np (bQ (fun h3=> ?_) fun h3=>Gb (P:=fun b=>Q (.bool b) H) ?_))
 ·rw[xB (by rw[show D9 op rY=true from h];rfl)] at k;exact k
 ·have h2:D9 op sD=true:=(E7 op _).symm.trans h2
  rw[xB (by rw[h2,Bool.true_or,Bool.or_true])] at k;exact k
 ·rw[xB (by rw[h3,Bool.or_true,Bool.or_true])] at k;exact k
 ·have h2:D9 op sD=false:=(E7 op _).symm.trans h2
  have e:fX op=(decide (16384<=op)&&decide (op<20480)):=by
   unfold fX;rw[show D9 op rY=false from h,h2,h3];rfl
  rw[e] at k;exact k
end
end Mine
namespace Mine
section
variable{G:Cx}{cl:Call}{ρ:cP}{H:Hp}{x:CS}{B:List V}{r:Hp}
theorem aQ{o:aY}: (H++[o])[H.length]? = some o:=by rw[List.getElem?_append_right (Nat.le_refl _),Nat.sub_self];rfl
theorem bV{o o':aY}{i:Nat}(h:H[i]? = some o):(H++[o'])[i]? = some o:=(List.getElem?_append_left (bD h)).trans h
theorem xF{o:aY}: x.hp B r++[o]=x.hp B (r++[o]):=by
 unfold CS.hp;rw[<- List.append_assoc];rfl
theorem RP{k:Nat}{f:Fr}(h:x.frames[k]? = some f):(x.hp B r)[k+22]? = some f.o:=by
 show (x.frames.map Fr.o++r)[k]? = _;rw[List.getElem?_append_left (by rw[List.length_map];exact bD h)];exact dR h
noncomputable def Fr.CM(f:Fr):List (Nat×V):=[(9,.int f.code),(10,.int f.aC),(6,.int f.params),(8,.int f.aU),(11,oV f.eU),(12,oV f.begL),(13,oV f.elseL),(14,.bool f.used)]
theorem hG{sc:List Int}{k a:Nat}{f:Fr}{v:V}{Q:V->Prop}(h:x.frames[k]? = some f)(hd:(cx sc).iQ 9 a=true)(hv:jZ f.CM a=some v)(q:Q v):cJ (Ck (cx sc) (.ref (k+22)) a (x.hp B r)) Q:=by
 refine .of (x:=v) ?_ q;show bO (bO (x.hp B r)[k+22]? CT) _=_;rw[RP h];exact (dJ hd).trans hv
theorem N5{l b:Nat}{i:Int}{xs:List V}{Q:V×Hp->Prop}(e:H[l]? = some (.list xs))(eb:i=b)(hb:b<=xs.length)(k:Q (.ref H.length,H++[.list (xs.drop b)])):cJ (Eb (.ref l) (.int i) .none H) Q:=by
 refine .of (x:=(.ref H.length,H++[.list (xs.drop b)])) ?_ k;show bO (bO H[l]? nJ) _=_;rw[e,eb];show bO (dI (decide ((0:Int)<=b)&&decide ((b:Int)<=xs.length)) (some (b:Int).toNat)) _=_;rw[decide_eq_true (Int.natCast_nonneg b),decide_eq_true (Int.ofNat_le.mpr hb)];show some (Kf H ((xs.take xs.length).drop b))=_;rw[List.take_length];rfl
theorem PI{i j:Nat}{es fs:List bL}{Q:Bool->Prop}(hi:H[i]? = some (.list (es.map bL.v)))(hj:H[j]? = some (.list (fs.map bL.v)))(k:Q (decide (es=fs))):cJ (vE G .eq (.ref i) (.ref j) H) Q:=by
 refine .of (x:=decide (es=fs)) ?_ k;show bO (bO H[i]? nJ) (fun xs=>bO (bO H[j]? nJ) fun ys=>if xs.length=ys.length then yB xs ys 20 else some false)=_;rw[hi,hj];show (if (es.map bL.v).length=(fs.map bL.v).length then yB (es.map bL.v) (fs.map bL.v) 20 else some false)=_;rw[List.length_map,List.length_map];by_cases h:es.length=fs.length
 ·rw[if_pos h];exact LK h
 ·rw[if_neg h,decide_eq_false fun q=>h (congrArg _ q)]
theorem sE{t:Nat}{body:cP->Hp->PS->Prop}{Q:PS}{hi:Int}{n:Nat}(YN:hi=n)(J:Nat->cP->Hp->Prop)(j0:J 0 ρ H)(cV: ∀ ρ H,J n ρ H->Q .next ρ H)
  (turn: ∀ k ρ H,k<n->J k ρ H->∀ go:cP->Hp->Prop,(∀ ρ H,J (k+1) ρ H->go ρ H)->body (ρ.set t (some (.int (k:Nat)))) H (jE go Q)):gJ (rB (JI (fun _ v ρ=>some (ρ.set t (some v))) (.mD 0 hi)) body Q) (0,ρ,H):=
 BH (b:=0) rfl (YN.trans (congrArg _ (Nat.zero_add n).symm)) J j0 cV fun k ρ H hk j go hg=>(congrArg (fun i:Nat=>body (ρ.set t (some (.int i))) H (jE go Q)) (Nat.zero_add k)).mpr (turn k ρ H hk j go hg)
end
namespace CS
variable{x:CS}{i:Int}{k:Nat}
theorem DK(h:(x.cX i k).stack[k]? = some (.pl i)):x.cX i (k+1)=(x.cX i k).cB k/\x.kQ i (k+1)=x.kQ i k+1:=⟨if_pos h,if_pos h⟩
theorem Ft(h:(x.cX i k).stack[k]?≠some (.pl i)):x.cX i (k+1)=x.cX i k/\x.kQ i (k+1)=x.kQ i k:=⟨if_neg h,if_neg h⟩
theorem HR{b:Nat}{e:bL}(h:x.stack[b+k]? = some e):x.kW b i (k+1)=(x.kW b i k).kP (4+(i+k)) e:=by
 show (match x.stack[b+k]? with|some e=>_|none=>_)=_;rw[h]
end CS
section
variable{sc:List Int}{d:Nat}{x:CS}{B:List V}{r:Hp}{Q:PE}
theorem Fp(hz:x.size+x.stack.length<99999)(bP:Int)(q:Q (.int (x.kQ bP x.stack.length)) ((x.cX bP x.stack.length).hp B r)):Wf sc (d+4) 40 [.ref 17,.int bP] (x.hp B r) Q:=by
 refine enter rfl rfl (nI x.stack.length (fun k ρ h=>AG (fun v w=>ρ=[some (.ref 17),some (.int bP),some (.int (x.kQ bP k)),v,w]) (fun _ _=>h=(x.cX bP k).hp B r)) ⟨_,_,rfl,rfl⟩ (fun ρ h j=> ?_) fun n ρ h hn j go gV=> ?_)
 ·obtain⟨v,w,e1,e2⟩:=j
  rw[e1,e2];exact⟨nT rfl (by rw[List.length_map,CS.lM];exact Nat.le_refl _),q⟩
 ·obtain⟨v,w,e1,e2⟩:=j
  rw[e1,e2];have he:=List.getElem?_eq_getElem (l:=(x.cX bP n).stack) (i:=n) (by rw[CS.lM];exact hn);refine⟨_,sH rfl (dR he) rfl,Dz (bQ (fun h=> ?_) fun h=> ?_)⟩
  ·obtain⟨h1,h2⟩:=CS.DK (he.trans (congrArg some (of_decide_eq_true h)))
   exact Fq (Nat.lt_of_le_of_lt CS.pK (AC hz hn)) rfl he (gV _ _ ⟨_,_,by rw[h2];rfl,by rw[h1]⟩)
  ·obtain⟨h1,h2⟩:=CS.Ft (fun z=>of_decide_eq_false h (Option.some.inj (he.symm.trans z)))
   exact gV _ _ ⟨_,_,by rw[h2];rfl,by rw[h1]⟩
theorem Pa{n:Nat}: (List.range n).map (fun (k:Nat)=>(bL.pl (4+(k:Int))).v)=(CS.dC n).map bL.v:=by
 unfold CS.dC;rw[List.map_map];rfl
theorem DJ{m:Int}{n:Nat}(em:m=n)(hn:n<1000000)(q:Q (.ref (x.hp B r).length) (x.hp B (r++[.list ((CS.dC n).map bL.v)]))):Wf sc (d+2) 41 [.ref 17,.int m] (x.hp B r) Q:=
 enter rfl rfl (nB (em▸iM hn) (Ab (fun k=>(bL.pl (4+(k:Int))).v) em hn (fun k q hk hq=>iF _ hq) (to (Q:=Q _) (xF.trans (congrArg (fun l=>x.hp B (r++[.list l])) Pa)) q)))
theorem Be{k many:Nat}{m:Int}{f:Fr}(hk:x.frames[k]? = some f)(em:m=many)(hm:many<=x.stack.length)(hz:x.size<99999)(q: ∀ g,Q (.bool (x.sB f.aC many)) (x.hp B (r++g))):Wf sc (d+2) 46 [.ref 17,.ref (k+22),.int m] (x.hp B r) Q:=by
 have hn:=Nat.lt_of_le_of_lt hm (Nat.lt_trans (CS.mI hz) (by decide:99999<1000000));refine enter rfl rfl (nB (em▸iM hn) (Ab (fun k=>(bL.pl (4+(f.aC+(k:Int)))).v) em hn (fun k q zU hq=>hG hk rfl rfl (iF _ hq)) (N5 (b:=x.stack.length - many) rfl (by rw[bK,em];exact (Int.ofNat_sub hm).symm) (by rw[List.length_map];exact Nat.sub_le ..) (PI (es:=x.stack.drop (x.stack.length - many)) (fs:=(List.range many).map fun (k:Nat)=>.pl (4+(f.aC+(k:Int)))) (by rw[<- List.map_drop];exact aQ) (bV (by rw[List.map_map];exact aQ)) ?_))));exact to (Q:=Q _) ((congrArg (· ++ _) xF).trans (xF.trans (congrArg (CS.hp B x) (List.append_assoc ..)))) (q _)
theorem Kx{k many:Nat}{m:Int}{f:Fr}(hk:x.frames[k]? = some f)(em:m=many)(hm:many<=x.stack.length)(hz:x.size<99999)(q: ∀ r',Q (.bool (x.sB f.aC many)) (x.hp B r')):Wf sc (d+2) 46 [.ref 17,.ref (k+22),.int m] (x.hp B r) Q:=Be hk em hm hz fun _=>q _
theorem wC{k many:Nat}{m:Int}{f:Fr}(hk:x.frames[k]? = some f)(em:m=many)(hm:many<=x.stack.length)(hz:x.size+many<99999)(q:Q .none ((x.bR f.aC many).hp B r)):Wf sc (d+3) 47 [.ref 17,.ref (k+22),.int m] (x.hp B r) Q:=by
 have hb:((x.stack.map bL.v).length:Int) - m=(x.stack.length - many:Nat):=by rw[bK,em];exact (Int.ofNat_sub hm).symm
 have hs:=Nat.lt_trans (CS.mI (Nat.lt_of_le_of_lt (Nat.le_add_right _ _) hz)) (by decide:99999<1000000);refine enter rfl rfl (nB (em▸iM (Nat.lt_of_le_of_lt hm hs)) (sE em (fun n ρ h=>dO (fun v=>ρ=[some (.ref 17),some (.ref (k+22)),some (.int m),some (.int (((x.stack.map bL.v).length:Int) - m)),v]) (fun _=>h=(x.kW (x.stack.length - many) f.aC n).hp B r)) ⟨_,rfl,rfl⟩ (fun ρ h j=> ?_) fun n ρ h hn j go gV=> ?_))
 ·obtain⟨v,e1,e2⟩:=j
  rw[e1,e2];exact q
 ·obtain⟨v,e1,e2⟩:=j
  rw[e1,e2];have hl:x.stack.length - many+n<x.stack.length:=Nat.lt_of_lt_of_eq (Nat.add_lt_add_left hn _) (Nat.sub_add_cancel hm);have he:=List.getElem?_eq_getElem hl;refine hG (k:=k) (f:=f) (by rw[CS.pE];exact hk) rfl rfl (iF _ (kN (k:=x.stack.length - many+n) (v:=(x.stack[x.stack.length - many+n]).v) ?_ (by rw[CS.mY];exact dR he) (yU (Nat.lt_of_le_of_lt CS.uC (AC hz hn)) (4+(f.aC+n)) _ (gV _ _ ⟨_,rfl,by rw[CS.HR he]⟩))));rw[hb,CS.mY];exact fP hl
end
end Mine
namespace Mine
noncomputable def Je(t:Int×Arg×Int):V:=.aM [.int t.1,t.2.1.v,.int t.2.2]
section
variable{G:Cx}{cl:Call}{ρ:cP}{H:Hp}{x:CS}{B:List V}{r:Hp}
theorem pU{b:Bool}{t f k:Prop}(hf:b=false->f)(hk:b=true->k):cR (!b) (cR b t f) k:=by
 cases b with
 | false=>exact hf rfl
 | true=>exact hk rfl
theorem pC{α:Type}{g:α->V}{xs:List α}{v:α}{Q:V->Prop}(h:xs.getLast? = some v)(q:Q (g v)):cJ (Q2 (xs.map g) (-1)) Q:=by
 rw[List.getLast?_eq_getElem?] at h;obtain⟨n,hn⟩:=Nat.exists_eq_succ_of_ne_zero (Nat.ne_of_gt (Nat.lt_of_le_of_lt (Nat.zero_le _) (bD h)));rw[hn] at h;exact kN (k:=n) (by rw[List.length_map,hn];exact Hd) (dR h) q
theorem BK{α β:Type}{g:α->β}{xs:List α}{v:α}(h:xs.getLast? = some v):(xs.map g).getLast? = some (g v):=by rw[List.getLast?_map,h];rfl
end
namespace CS
variable{y:CS}{e:bL}{rr:dZ}
theorem Ao(h: ∀ rr,y.rows.getLast? = some rr->e= .pl (4+y.stack.length)->(y.rows.length:Int)>y.fence->rr.a=4+y.stack.length->False):y.lX e=none:=by
 cases hF:y.lX e with
 | none=>rfl
 | some rr=>
  obtain⟨h1,h2,h3,h4⟩:=eK.mp hF;exact (h rr h1 h2 h3 h4).elim
theorem SF{op:Int}(h:Az op=true):fV op=true:=by unfold fV;rw[h];rfl
theorem SG{op:Int}(h1:decide (16384<=op)=true)(h2:decide (op<20480)=true)(h3:Az (op - 16384)=true):fV op=true:=by unfold fV;rw[h1,h2,h3];exact Bool.or_true _
theorem G4{op:Int}(h:Az op=false)(h2:decide (16384<=op)=false\/decide (op<20480)=false\/Az (op - 16384)=false):fV op=false:=by
 unfold fV;rw[h];rcases h2 with h2|h2|h2<;>rw[h2]
 ·rfl
 ·rw[Bool.and_false];rfl
 ·rw[Bool.and_false];rfl
theorem Dt(h:y.lX e=none):y.aE e=(y,gB e):=by unfold aE;rw[h]
theorem Ds(h:y.lX e=some rr)(hf:fV rr.op=false):y.aE e=(y,gB e):=by
 unfold aE;rw[h];exact if_neg fun z=>Bool.false_ne_true (hf.symm.trans z)
theorem CK(h:y.lX e=some rr)(hf:fV rr.op=true):y.aE e=({ y with rows:=y.rows.dropLast },(rr.op,rr.b,rr.c)):=by
 unfold aE;rw[h];exact if_pos hf
end CS
section
variable{sc:List Int}{d:Nat}{x:CS}{B:List V}{r:Hp}{Q:PE}
theorem yT{e:bL}(he:x.stack.getLast? = some e)(hf:0<=x.fence)(q:Q (Je (x.pop.aE e).2) ((x.pop.aE e).1.hp B r)):Wf sc (d+2) 43 [.ref 17] (x.hp B r) Q:=by
 have no:x.pop.lX e=none->Q (Je (CS.gB e)) (x.pop.hp B r):=fun h=>by rw[CS.Dt h] at q;exact q
 refine enter rfl rfl (qB he (iF _ (Dz (pU (fun h=> ?_) fun h=>pU (fun h2=> ?_) fun h2=> ?_))))
 ·have:=no (CS.Ao fun rr _ h2 _ _=>of_decide_eq_false h (h2.trans (by rw[bK])))
  cases e<;>exact this
 ·have:=no (CS.Ao fun rr _ _ h3 _=>of_decide_eq_false h2 (by rw[bK];exact h3))
  cases e<;>exact this
 have h:=of_decide_eq_true h;have h2:=of_decide_eq_true h2;rw[bK] at h h2;obtain⟨rr,hr⟩:=eL (l:=x.pop.rows) (Int.ofNat_lt.mp (Int.lt_of_le_of_lt hf h2));refine pC hr (bQ (fun h3=>pC hr ?_) fun h3=> ?_)
 ·have h3:rr.a=4+x.pop.stack.length:=(beq_iff_eq.mp h3).trans (by rw[bK])
  have hF:x.pop.lX e=some rr:=eK.mpr ⟨hr,h,h2,h3⟩;have yes:CS.fV rr.op=true->Q (.aM [.int rr.op,rr.b.v,.int rr.c]) ((({ x.pop with rows:=x.pop.rows.dropLast }):CS).hp B r):=fun h=>by rw[CS.CK hF h] at q;exact q
  have nf:CS.fV rr.op=false->Q (Je (CS.gB e)) (x.pop.hp B r):=fun h=>by rw[CS.Ds hF h] at q;exact q
  clear q no h2 h3 hF h;refine JV (bQ (fun h4=>rF h4 (uI (BK hr) (to (Q:=Q _) (XQ List.map_dropLast.symm) (yes (CS.SF h4))))) fun h4=>bQ (fun h5=>pU (fun h6=> ?_) fun h6=>JV (bQ (fun h7=>uI (BK hr) (to (Q:=Q _) (XQ List.map_dropLast.symm) (yes (CS.SG h5 h6 h7)))) fun h7=> ?_)) fun h5=> ?_)
  ·have:=nf (CS.G4 h4 (.inr (.inl h6)))
   cases e<;>exact this
  ·have:=nf (CS.G4 h4 (.inr (.inr h7)))
   cases e<;>exact this
  ·have:=nf (CS.G4 h4 (.inl h5))
   cases e<;>exact this
 ·have:=no (CS.Ao fun ju e1 _ _ h4=>by
   rw[Option.some.inj (hr.symm.trans e1)] at h3;exact Bool.false_ne_true (h3.symm.trans (beq_iff_eq.mpr (h4.trans (by rw[bK])))))
  cases e<;>exact this
end
end Mine
namespace Mine
namespace CS
variable{x y:CS}{e:bL}{rr:dZ}{n i:Int}
theorem Kr{s:Int}: (y.kP s e).fence=y.fence:=by
 cases e with
 | num n=>rfl
 | pl t=>
  show (if t=s then y else y.aV 256 s (.i t) 0).fence=_;by_cases h:t=s
  ·rw[if_pos h]
  ·rw[if_neg h];rfl
theorem EZ{h:Nat}: (y.cB h).fence=y.fence:=by
 cases he:y.stack[h]? with
 | none=>unfold cB;rw[he]
 | some e=>rw[xW he];exact Kr
theorem Fs{k:Nat}: (x.cX i k).fence=x.fence:=by
 induction k with
 | zero=>rfl
 | succ k ih=>
  by_cases h:(x.cX i k).stack[k]? = some (.pl i)
  ·rw[(DK h).1,EZ,ih]
  ·rw[(Ft h).1,ih]
theorem Ko(h: ∀ rr,n=0->y.lX e=some rr->fX rr.op=false):y.jQ n i e=y.kP i e:=by
 unfold jQ;by_cases hn:n=0
 ·rw[if_pos hn]
  cases hF:y.lX e with
  | none=>rfl
  | some rr=>exact if_neg fun z=>Bool.false_ne_true ((h rr hn hF).symm.trans z)
 ·rw[if_neg hn]
theorem Hg(hn:n=0)(hF:y.lX e=some rr)(h:fX rr.op=true):y.jQ n i e=({ y with rows:=y.rows.dropLast }: CS).aV rr.op i rr.b rr.c:=by
 unfold jQ;rw[if_pos hn,hF];exact if_pos h
end CS
section
variable{sc:List Int}{d:Nat}{x:CS}{B:List V}{r:Hp}{Q:PE}
theorem uK(hz:x.size+x.stack.length<99998)(bP:Int)(e:bL)(hf:0<=x.fence)(q:Q .none ((x.bY bP e).hp B r)):Wf sc (d+5) 42 [.ref 17,.int bP,e.v] (x.hp B r) Q:=by
 unfold CS.bY at q;have hy:(x.cX bP x.stack.length).size<99998:=Nat.lt_of_le_of_lt CS.pK hz;have XW:0<=(x.cX bP x.stack.length).fence:=by rw[CS.Fs];exact hf
 refine enter rfl rfl (Fp (Nat.lt_trans hz (by decide)) bP (iF _ ?_));generalize x.cX bP x.stack.length=y at q hy XW ⊢;generalize x.kQ bP x.stack.length=n at q ⊢;have UF:y.size<99999:=Nat.lt_trans hy (by decide);have no:(∀ rr,n=0->y.lX e=some rr->fX rr.op=false)->Q .none ((y.kP bP e).hp B r):=fun h=>by rw[CS.Ko h] at q;exact q
 refine bQ (fun h=>rF h (Cw (by cases hn:n==0 with|false=>rfl|true=>exact nomatch (congrArg not hn).symm.trans h) (yU UF bP e (no fun rr h1 _=> ?_)))) fun h=>pU (fun h1=>yU UF bP e (no fun rr _ hF=> ?_)) fun h1=>Dz (pU (fun h2=>yU UF bP e (no fun rr _ hF=> ?_)) fun h2=> ?_)
 ·rw[h1] at h
  exact absurd h (by decide)
 ·exact (of_decide_eq_false h1 (by rw[bK];exact (eK.mp hF).2.2.1)).elim
 ·exact (of_decide_eq_false h2 ((eK.mp hF).2.1.trans (by rw[bK]))).elim
 have hn:n=0:=beq_iff_eq.mp ((Bool.not_not _).symm.trans (congrArg not h));have h1:=of_decide_eq_true h1;have h2:=of_decide_eq_true h2;rw[bK] at h1 h2;obtain⟨rr,hr⟩:=eL (l:=y.rows) (Int.ofNat_lt.mp (Int.lt_of_le_of_lt XW h1));refine pC hr (Kv (pU (fun h3=>yU UF bP e (no fun ju _ hF=> ?_)) fun h3=>pC hr (bQ (fun h4=>uI (BK hr) (to (Q:=fun h=>Wf sc (d+4) 29 _ h _) (XQ List.map_dropLast.symm) (dE ?_ rr.op bP rr.b rr.c ?_))) fun h4=>yU UF bP e (no fun ju _ hF=> ?_))))
 ·rw[<- Option.some.inj (hr.symm.trans (eK.mp hF).1)];exact h3
 ·exact Nat.lt_of_le_of_lt (by unfold CS.size;rw[List.length_dropLast];exact Nat.add_le_add_right (Nat.add_le_add_right (Nat.add_le_add_right (Nat.sub_le ..) _) _) _) UF
 ·rw[CS.Hg hn (eK.mpr ⟨hr,h2,h1,(beq_iff_eq.mp h4).trans (by rw[bK])⟩) h3] at q
  exact q
 ·have e1:=(eK.mp hF).2.2.2
  rw[<- Option.some.inj (hr.symm.trans (eK.mp hF).1)] at e1;exact (Bool.false_ne_true (h4.symm.trans (beq_iff_eq.mpr (e1.trans (by rw[bK]))))).elim
end
end Mine
namespace Mine
section
variable{x:CS}{B:List V}{r:Hp}{f:Fr}
theorem Mr{k:Nat}(hk:k<x.frames.length):(x.hp B r).set (k+22) f.o=CS.hp B (x.fA k f) r:=by
 have e:(x.frames.map Fr.o++r).set k f.o=(x.frames.set k f).map Fr.o++r:=by rw[List.set_append_left _ _ (by rw[List.length_map];exact hk),List.map_set]
 have e2:(x.frames.set k f).length=x.frames.length:=List.length_set;unfold CS.fA CS.hp;dsimp only;rw[e2,<- e];rfl
theorem D3{sc:List Int}{k a:Nat}{g:Fr}{v:V}{Q:Hp->Prop}(h:x.frames[k]? = some f)(hd:(cx sc).iQ 9 a=true)(hv:aY.inst 9 (tZ f.CM a v)=g.o)(q:Q ((x.fA k g).hp B r)):cJ (oA (cx sc) (.ref (k+22)) a v (x.hp B r)) Q:=by
 rw[<- Mr (bD h),<- hv] at q;refine .of ?_ q;show bO (bO (x.hp B r)[k+22]? CT) _=_;rw[RP h];exact dJ hd
theorem kM:(x.hp B r).length=x.frames.length+r.length+22:=by
 show (x.frames.map Fr.o++r).length+22=_;rw[List.length_append,List.length_map]
theorem Nk{n k:Nat}(h:k<n):(List.range n)[k]? = some k:=List.getElem?_range h
theorem Ct{k:Nat}{i:Int}{Q:V->Prop}(hi:i=k)(hk:k<x.frames.length)(q:Q (.ref (k+22))):cJ (Q2 ((List.range x.frames.length).map fun k=>V.ref (k+22)) i) Q:=by
 rw[hi];exact kN (fP (by rw[List.length_range];exact hk)) (dR (Nk hk)) q
end
section
variable{sc:List Int}{d:Nat}{x:CS}{B:List V}{r:Hp}{Q:PE}
theorem Bc(hz:x.size<99999)(op n c:Int)(mF:Bool){s aP:Int}(es:s=if mF then 1 else 0)(q:Q .none ((x.branch op n c mF aP).hp B r)):Wf sc (d+2) 44 [.ref 17,Je (op,.i n,c),.int s,.int aP] (x.hp B r) Q:=by
 rw[es];unfold CS.branch at q;refine enter rfl rfl (bQ (fun h=> ?_) fun h=>bQ (fun h2=> ?_) fun h2=> ?_)
 ·rw[if_pos (beq_iff_eq.mp h)] at q
  cases mF with
  | false=>exact bQ (fun h2=>by rw[if_pos (show ((n != 0)==false)=true from h2)] at q;exact dE hz 259 aP (.i 0) 0 q) fun h2=>by rw[if_neg (Bool.eq_false_iff.mp (show ((n != 0)==false)=false from h2))] at q;exact q
  | true=>exact bQ (fun h2=>by rw[if_pos (show ((n != 0)==true)=true from h2)] at q;exact dE hz 259 aP (.i 0) 0 q) fun h2=>by rw[if_neg (Bool.eq_false_iff.mp (show ((n != 0)==true)=false from h2))] at q;exact q
 ·rw[if_neg (beq_eq_false_iff_ne.mp h),if_pos (beq_iff_eq.mp h2)] at q
  cases mF<;>exact dE hz _ aP (.i n) 0 q
 rw[if_neg (beq_eq_false_iff_ne.mp h),if_neg (beq_eq_false_iff_ne.mp h2)] at q;have yes:(op=69\/op=80)->Q .none ((x.aV (if mF then 261 else 260) aP (.i n) 0).hp B r):=fun h=>by rw[if_pos h] at q;exact q
 refine bQ (fun h3=>rF h3 ?_) fun h3=>bQ (fun h4=> ?_) fun h4=> ?_
 ·have q:=yes (.inl (beq_iff_eq.mp h3))
  cases mF<;>exact dE hz _ aP (.i n) 0 q
 ·have q:=yes (.inr (beq_iff_eq.mp h4))
  cases mF<;>exact dE hz _ aP (.i n) 0 q
 rw[if_neg fun z=>z.elim (beq_eq_false_iff_ne.mp h3) (beq_eq_false_iff_ne.mp h4)] at q;refine bQ (fun h5=> ?_) fun h5=> ?_
 ·rw[if_pos (of_decide_eq_true h5)] at q
  cases mF<;>exact dE hz _ aP (.i n) c q
 ·rw[if_neg (of_decide_eq_false h5)] at q
  cases mF<;>exact dE hz _ aP (.i n) c q
theorem CS.KN{k:Nat}{f:Fr}(hk:x.frames[k]? = some f):x.aH k=x.fA k f.eP:=by
 unfold CS.aH;rw[hk];rfl
theorem CS.IP{k:Nat}{f:Fr}(hk:x.frames[k]? = some f):x.fA k f=x:=by
 have e:x.frames.set k f=x.frames:=List.ext_getElem? fun j=>by
  by_cases h:k=j
  ·rw[<- h,List.getElem?_set_self (bD hk),hk]
  ·rw[List.getElem?_set_ne h]
 unfold CS.fA;rw[e]
theorem TY{k depth:Nat}{m:Int}{f:Fr}(em:m=depth)(hk:x.frames[k]? = some f)(hd:k+depth+1=x.frames.length)(q:Q (.aM [.ref (k+22),.int f.many,oV f.dP]) ((x.aH k).hp B r)):Wf sc (d+1) 45 [.ref 17,.int m] (x.hp B r) Q:=by
 rw[CS.KN hk] at q;refine enter rfl rfl (Ct (by rw[em,bK,List.length_range,<- hd];lia) (bD hk) (hG hk rfl rfl (bQ (fun h=> ?_) fun h=> ?_)))
 ·have h:=beq_iff_eq.mp h
  unfold Fr.many Fr.dP Fr.eP at q;rw[if_pos h,if_pos h,if_pos h,CS.IP hk] at q;exact hG hk rfl rfl (hG hk rfl rfl q)
 ·have h:=beq_eq_false_iff_ne.mp h
  unfold Fr.many Fr.dP Fr.eP at q;rw[if_neg h,if_neg h,if_neg h] at q;have zU:(x.fA k { f with used:=true }).frames[k]? = some { f with used:=true }:=List.getElem?_set_self (bD hk);exact D3 hk rfl rfl (hG zU rfl rfl (hG zU rfl rfl q))
end
section
variable{G:Cx}{H:Hp}{x:CS}{B:List V}{r:Hp}{f:Fr}{sc:List Int}
theorem dG{c a:Nat}{fs:List (Nat×V)}{v:V}{Q:Hp->Prop}(hd:G.iQ c a=true)(q:Q (H++[.inst c (tZ fs a v)])):cJ (oA G (.ref H.length) a v (H++[.inst c fs])) Q:=by
 refine .of (x:=H++[.inst c (tZ fs a v)]) ?_ q;show bO (bO (H++[aY.inst c fs])[H.length]? CT) _=_;rw[aQ];refine (dJ hd).trans (congrArg some ?_);rw[List.set_append_right _ _ (Nat.le_refl _),Nat.sub_self];rfl
theorem RV:(x.hp B [f.o])[x.frames.length+22]? = some f.o:=by
 show (x.frames.map Fr.o++[f.o])[x.frames.length]? = _;rw[<- List.length_map (f:=Fr.o)];exact aQ
theorem Pr{l a:Nat}{v:V}{Q:V->Prop}(hl:l=x.frames.length+22)(hd:(cx sc).iQ 9 a=true)(hv:jZ f.CM a=some v)(q:Q v):cJ (Ck (cx sc) (.ref l) a (x.hp B [f.o])) Q:=by
 rw[hl];refine .of (x:=v) ?_ q;show bO (bO (x.hp B [f.o])[x.frames.length+22]? CT) _=_;rw[RV];exact (dJ hd).trans hv
theorem NO{l a:Nat}{v:V}{g:Fr}{Q:Hp->Prop}(hl:l=x.frames.length+22)(hd:(cx sc).iQ 9 a=true)(hv:aY.inst 9 (tZ f.CM a v)=g.o)(q:Q (x.hp B [g.o])):cJ (oA (cx sc) (.ref l) a v (x.hp B [f.o])) Q:=by
 rw[hl];have e:(x.hp B [f.o]).set (x.frames.length+22) g.o=x.hp B [g.o]:=by
  have:(x.frames.map Fr.o++[f.o]).set x.frames.length g.o=x.frames.map Fr.o++[g.o]:=by
   rw[List.set_append_right _ _ (by rw[List.length_map];exact Nat.le_refl _),List.length_map,Nat.sub_self];rfl
  unfold CS.hp;rw[<- this];rfl
 rw[<- e,<- hv] at q;refine .of ?_ q;show bO (bO (x.hp B [f.o])[x.frames.length+22]? CT) _=_;rw[RV];exact dJ hd
theorem I2{l:Nat}(hl:l=x.frames.length+22):(x.hp B [f.o]).set 21 (.list (((List.range x.frames.length).map fun k=>V.ref (k+22))++[.ref l]))=(x.pT f).hp B []:=by
 have e:((List.range x.frames.length).map fun k=>V.ref (k+22))++[.ref l]=(List.range (x.frames++[f]).length).map fun k=>V.ref (k+22):=by
  rw[List.length_append,hl];show _=(List.range (x.frames.length+1)).map _;rw[List.range_succ,List.map_append];rfl
 have e2:(x.frames++[f]).map Fr.o++[]=x.frames.map Fr.o++[f.o]:=by rw[List.append_nil,List.map_append];rfl
 unfold CS.pT CS.hp;dsimp only;rw[e2,<- e];rfl
end
section
variable{sc:List Int}{d:Nat}{x:CS}{B:List V}{r:Hp}{Q:PE}
theorem Hz{code h p n:Int}(q:Q .none (x.hp B [(⟨0,code,h,p,n,none,none,none,false⟩:Fr).o])):Wf sc (d+1) 25 [.ref (x.hp B []).length,.int code,.int h,.int p,.int n] (x.hp B []++[.inst 9 []]) Q:=
 enter rfl rfl (dG rfl (dG rfl (dG rfl (dG rfl (dG rfl (dG rfl (dG rfl (dG rfl (to (Q:=Q .none) (xF (o:=(⟨0,code,h,p,n,none,none,none,false⟩:Fr).o)) q)))))))))
theorem Fn{i:Int}(ei:(x.labels.length:Int)=i)(hz:x.size<99999)(k:Q (.int i) (x.aP.hp B r)):Wf sc (d+1) 27 [.ref 17] (x.hp B r) Q:=AA hz (ei▸k)
theorem rM{code:Int}{ps rs:List V}(hz:x.size+x.stack.length<99990)(q:Q (.ref (x.frames.length+22)) ((x.aL code ps.length rs.length 0).hp B [])):Wf sc (d+6) 48 [.ref 17,.int code,.aM [.aM ps,.aM rs]] (x.hp B []) Q:=by
 unfold CS.aL at q;have hy:(x.aI x.stack.length).size<99990:=Nat.lt_of_le_of_lt CS.bS hz;rw[<- CS.bM (n:=x.stack.length)] at q;refine enter rfl rfl (rN (Nat.lt_trans hz (by decide)) ?_);generalize x.aI x.stack.length=y at q hy ⊢;have hl:(y.hp B []).length=y.frames.length+22:=kM;have oz:y.aP.size<99999:=by rw[CS.gH];exact Nat.lt_of_le_of_lt hy (by decide)
 have pX: ∀ z:CS,z.frames=y.frames->((List.range z.frames.length).map fun k=>V.ref (k+22)).length<100000:=fun z hz=>by
  rw[List.length_map,List.length_range,hz];exact Nat.lt_of_le_of_lt (Nat.le_add_left ..) (Nat.lt_trans hy (by decide))
 refine Hz ⟨rfl,AA (Nat.lt_trans hy (by decide)) (NO (g:=⟨0,code,((y.stack.map bL.v).length:Int) - ps.length,ps.length,rs.length,some y.labels.length,none,none,false⟩) hl rfl rfl (bQ (fun h=> ?_) fun h=> ?_))⟩
 ·have e1:(y.aP.labels.length:Int)=(y.labels.length+1:Nat):=congrArg _ (List.length_append ..)
  unfold CS.pF at q;rw[if_pos (beq_iff_eq.mp h)] at q;refine Fn e1 oz (NO (g:=⟨0,code,((y.stack.map bL.v).length:Int) - ps.length,ps.length,rs.length,some y.labels.length,some (y.labels.length+1:Nat),none,false⟩) hl rfl rfl (Pr hl rfl rfl (jT ?_ (iO (pX _ rfl) (Wi (Q:=Q) (congrArg V.ref hl) (I2 hl) ?_)))))
  ·show _<((y.labels++[-1])++[-1]).length
   rw[List.length_append,List.length_append];exact Nat.lt_succ_self _
  ·rw[bK];exact q
 ·unfold CS.pF at q
  rw[if_neg (beq_eq_false_iff_ne.mp h)] at q;exact iO (pX _ rfl) (Wi (Q:=Q) (congrArg V.ref hl) (I2 hl) (by rw[bK];exact q))
end
end Mine
namespace Mine
namespace CS
variable{x:CS}
theorem xR{n:Nat}(h:x.size+x.stack.length<n):x.pop.size+x.pop.stack.length<n:=by
 refine Nat.lt_of_le_of_lt (Nat.add_le_add cD ?_) h;show x.stack.dropLast.length<=_;rw[List.length_dropLast];exact Nat.sub_le ..
theorem JY{n m:Nat}(h:x.size+x.stack.length<n)(hm:n<=m):x.size<m:=Nat.lt_of_lt_of_le (Nat.lt_of_le_of_lt (Nat.le_add_right ..) h) hm
end CS
section
variable{sc:List Int}{d:Nat}{x:CS}{B:List V}{r:Hp}{Q:PE}{e:bL}{iv:V}
theorem TV(he:x.stack.getLast? = some e)(q:Q .none (x.pop.hp B r)):Wf sc (d+2) 64 [.ref 17,iv] (x.hp B r) Q:=enter rfl rfl (qB he q)
theorem Ht(hz:x.size<99999)(i:Int)(q:Q .none ((x.push (.pl i)).hp B r)):Wf sc (d+2) 66 [.ref 17,.aM [.int 32,.int i]] (x.hp B r) Q:=enter rfl rfl (uJ hz (.pl i) q)
theorem Hm(hz:x.size<99999)(i:Int)(q:Q .none ((x.push (.num (i.fmod 4294967296))).hp B r)):Wf sc (d+2) 69 [.ref 17,.aM [.int 65,.int i]] (x.hp B r) Q:=enter rfl rfl (uJ hz (.num (i.fmod 4294967296)) q)
theorem Kz(q:Q .none (x.hp B r)):Wf sc (d+1) 52 [.ref 17,iv] (x.hp B r) Q:=enter rfl rfl q
theorem CY(hz:x.size<99999)(q:Q .none (({ x.aV 0 0 (.i 0) 0 with live:=false }: CS).hp B r)):Wf sc (d+2) 53 [.ref 17,iv] (x.hp B r) Q:=enter rfl rfl (dE hz 0 0 (.i 0) 0 (JU q))
theorem Hu(he:x.stack.getLast? = some e)(hz:x.size+x.stack.length<99990)(i:Int)(hf:0<=x.fence)(q:Q .none ((x.pop.bY i e).hp B r)):Wf sc (d+6) 67 [.ref 17,.aM [.int 33,.int i]] (x.hp B r) Q:=
 enter rfl rfl (qB he (uK (CS.xR (Nat.lt_trans hz (by decide))) i e hf q))
theorem Hv(he:x.stack.getLast? = some e)(hz:x.size+x.stack.length<99990)(i:Int)(hf:0<=x.fence)(q:Q .none (((x.pop.bY i e).push (Eh i e)).hp B r)):Wf sc (d+6) 68 [.ref 17,.aM [.int 34,.int i]] (x.hp B r) Q:=by
 have hb:=CS.xR hz;have h2:(x.pop.bY i e).size<99999:=Nat.lt_of_le_of_lt CS.cZ.1 (Nat.lt_of_lt_of_le (Nat.succ_lt_succ hb) (by decide));cases e with
 | num n=>exact enter rfl rfl (qB he (uK (Nat.lt_trans hb (by decide)) i _ hf (uJ h2 (.num n) q)))
 | pl s=>exact enter rfl rfl (qB he (uK (Nat.lt_trans hb (by decide)) i _ hf (uJ h2 (.pl i) q)))
theorem EX{m:Int}{n:Nat}(em:m=n)(hz:x.size+n<99999)(q:Q .none ((x.nL n).hp B r)):Wf sc (d+3) 62 [.ref 17,.int m] (x.hp B r) Q:=by
 refine enter rfl rfl (nB (em▸iM (Nat.lt_trans (Nat.lt_of_le_of_lt (Nat.le_add_left ..) hz) (by decide))) (sE em (fun k ρ h=>dO (fun v=>ρ=[some (.ref 17),some (.int m),v]) (fun _=>h=(x.nL k).hp B r)) ⟨_,rfl,rfl⟩ (fun ρ h j=> ?_) fun n ρ h hn j go gV=> ?_))
 ·obtain⟨v,e1,e2⟩:=j
  rw[e1,e2];exact q
 ·obtain⟨v,e1,e2⟩:=j
  rw[e1,e2];exact gI (by rw[CS.nA.1];exact AC hz hn) (gV _ _ ⟨_,rfl,rfl⟩)
theorem WP(he:x.stack.getLast? = some e)(hz:x.size<99990)(op:Int)(q:Q .none ((x.pop.B8 op e).hp B r)):Wf sc (d+3) 70 [.ref 17,.aM [.int op]] (x.hp B r) Q:=by
 have h1:x.pop.size<99990:=Nat.lt_of_le_of_lt CS.cD hz;have h2:(x.pop.bN x.pop.stack.length e).1.size<99991:=Nat.lt_of_le_of_lt CS.gO.1 (Nat.succ_lt_succ h1);refine enter rfl rfl (qB he (rP (Nat.lt_trans h1 (by decide)) e ((x.pop.stack.map bL.v).length:Int) ?_));rw[bK];exact gI (Nat.lt_trans h2 (by decide)) (dE (by rw[CS.dN];exact Nat.lt_trans (Nat.succ_lt_succ h2) (by decide)) op _ (.i _) 0 q)
end
end Mine
namespace Mine
namespace CS
variable{x:CS}{code:Int}{a b:bL}
theorem IN(h:(a.tL && !b.tL&&D9 code By)=false):x.lP code a b=((x.bN x.stack.length a).1.aZ).aV (if b.tL then 16384+code else code) (4+(x.bN x.stack.length a).1.stack.length) (.i (x.bN x.stack.length a).2) b.n:=if_neg fun z=>Bool.false_ne_true (h.symm.trans z)
theorem Qk(h:(a.tL && !b.tL&&D9 code By)=true):x.lP code a b=x.aZ.aV (16384+code) (4+x.stack.length) (.i b.n) a.n:=if_pos h
end CS
section
variable{sc:List Int}{d:Nat}{x:CS}{B:List V}{r:Hp}{Q:PE}{e:bL}{iv:V}{f:Fr}{k depth many:Nat}{m dP:Int}
theorem WQ{e2 e1:bL}(FD:x.stack.getLast? = some e2)(Yv:x.pop.stack.getLast? = some e1)(hz:x.size<99990)(code:Int)(q:Q .none ((x.pop.pop.lP code e1 e2).hp B r)):Wf sc (d+3) 71 [.ref 17,.aM [.int code]] (x.hp B r) Q:=by
 have h1:x.pop.pop.size<99990:=Nat.lt_of_le_of_lt CS.cD (Nat.lt_of_le_of_lt CS.cD hz);have h2:(x.pop.pop.bN x.pop.pop.stack.length e1).1.size<99991:=Nat.lt_of_le_of_lt CS.gO.1 (Nat.succ_lt_succ h1);have h3:=Nat.lt_trans h1 (by decide:99990<99999);have h4:=Nat.lt_trans h2 (by decide:99991<99999);have h5:(x.pop.pop.bN x.pop.pop.stack.length e1).1.aZ.size<99999:=by rw[CS.dN];exact Nat.lt_trans (Nat.succ_lt_succ h2) (by decide)
 refine enter rfl rfl (qB FD (qB Yv ?_));cases e1 with
 | pl t=>
  rw[CS.IN rfl] at q;refine rP h3 (.pl t) ((x.pop.pop.stack.map bL.v).length:Int) ?_;rw[bK];cases e2 with
  | num b=>exact gI h4 (dE h5 _ _ (.i _) _ q)
  | pl b=>exact gI h4 (dE h5 _ _ (.i _) _ q)
 | num a=>
  cases e2 with
  | num b=>
   rw[CS.IN rfl] at q;refine rP h3 (.num a) ((x.pop.pop.stack.map bL.v).length:Int) ?_;rw[bK];exact gI h4 (dE h5 _ _ (.i _) _ q)
  | pl b=>
   refine bQ (fun h=> ?_) fun h=> ?_
   ·rw[CS.Qk (a:=.num a) (b:=.pl b) h] at q
    exact gI h3 (dE (by rw[CS.dN];exact Nat.lt_trans (Nat.succ_lt_succ h1) (by decide)) (16384+code) _ (.i b) a q)
   ·rw[CS.IN (a:=.num a) (b:=.pl b) h] at q
    refine rP h3 (.num a) ((x.pop.pop.stack.map bL.v).length:Int) ?_;rw[bK];exact gI h4 (dE h5 _ _ (.i _) _ q)
theorem zZ(em:m=depth)(hk:x.frames[k]? = some f)(hd:k+depth+1=x.frames.length)(hm:f.many=many)(hl:f.dP=some dP)(q:Q (.aM [.ref (k+22),.int many,.int dP]) ((x.aH k).hp B r)):Wf sc (d+1) 45 [.ref 17,.int m] (x.hp B r) Q:=
 TY em hk hd (by rw[hm,hl];exact q)
theorem bh(hk:x.frames[k]? = some f)(hd:k+depth+1=x.frames.length)(hm:f.many=many)(hl:f.dP=some dP)(hs:many<=x.stack.length)(hz:x.size+many<99990)(q:Q .none ((x.NC k f many dP).hp B r)):Wf sc (d+4) 58 [.ref 17,.aM [.int 12,.int depth]] (x.hp B r) Q:=by
 have hg:=CS.cS (x:=x) (k:=k);refine enter rfl rfl (zZ rfl hk hd hm hl (wC (f:=f.eP) (iE hk) rfl (by rw[hg.2];exact hs) (by rw[hg.1];exact Nat.lt_trans hz (by decide)) ?_));rw[Fr.nQ.2];exact dE (Nat.lt_of_le_of_lt CS.cT.1 (by rw[hg.1];exact Nat.lt_trans hz (by decide))) 259 dP (.i 0) 0 (JU q)
theorem Nw(hk:x.frames[0]? = some f)(hs:2<=x.stack.length)(hz:x.size<99980)(q:Q .none ((x.ret f.aC).hp B r)):Wf sc (d+4) 61 [.ref 17,iv] (x.hp B r) Q:=
 enter rfl rfl (Ct (k:=0) rfl (bD hk) (wC (many:=2) hk rfl hs (Nat.lt_of_lt_of_le (Nat.add_lt_add_right hz 2) (by decide)) (iF _ (dE (Nat.lt_of_le_of_lt CS.cT.1 (Nat.lt_of_lt_of_le (Nat.add_lt_add_right hz 2) (by decide))) 267 4 (.i 2) 0 (JU q)))))
theorem TT{n c op:Int}(he:x.stack.getLast? = some e)(hf:0<=x.fence)(ht:(x.pop.aE e).2=(op,.i n,c))(hk:x.frames[k]? = some f)(hd:k+depth+1=x.frames.length)(hm:f.many=many)(hl:f.dP=some dP)(hs:many<=x.pop.stack.length)(hz:x.size+many<99990)
  (q: ∀ r',Q .none (((x.pop.aE e).1.oM k f many dP op n c).hp B r')):Wf sc (d+4) 59 [.ref 17,.aM [.int 13,.int depth]] (x.hp B r) Q:=by
 have hc:=CS.eT (x:=x.pop) (e:=e);have vP:(x.pop.aE e).1.size+many<99990:=Nat.lt_of_le_of_lt (Nat.add_le_add_right (Nat.le_trans hc.1 CS.cD) _) hz;rw[<- hc.3] at hs;rw[show x.frames=(x.pop.aE e).1.frames from hc.2.symm] at hk hd;refine enter rfl rfl (yT he hf ?_);rw[ht];generalize (x.pop.aE e).1=y at q vP hs hk hd ⊢;have hg:=CS.cS (x:=y) (k:=k);have Y4:(y.aH k).size+many<99990:=by rw[hg.1];exact vP
 have PU:(y.aH k).size<99990:=Nat.lt_of_le_of_lt (Nat.le_add_right ..) Y4;have hb:=CS.gE (x:=(y.aH k).aP) (op:=op) (n:=n) (c:=c) (s:=false) (l:=(y.aH k).labels.length);have SN:((y.aH k).aP.branch op n c false (y.aH k).labels.length).size+many<99999:=by
  have:=hb.1;rw[CS.gH] at this;exact Nat.lt_of_le_of_lt (Nat.add_le_add_right this _) (by clear q hb this hs hk hd;lia)
 refine zZ rfl hk hd hm hl (Kx (f:=f.eP) (iE hk) rfl (by rw[hg.2];exact hs) (Nat.lt_trans PU (by decide)) fun r'=> ?_);unfold CS.oM at q;dsimp only at q;rw[Fr.nQ.2];refine bQ (fun h=> ?_) fun h=> ?_
 ·rw[if_pos h] at q
  exact Bc (Nat.lt_trans PU (by decide)) op n c true rfl (q r')
 ·rw[if_neg (Bool.eq_false_iff.mp h)] at q
  refine AA (Nat.lt_trans PU (by decide)) (Bc (by rw[CS.gH];exact Nat.lt_trans (Nat.succ_lt_succ PU) (by decide)) op n c false rfl (wC (f:=f.eP) (by rw[hb.2];exact iE hk) rfl (by rw[hb.3];show many<=(y.aH k).stack.length;rw[hg.2];exact hs) SN ?_));rw[Fr.nQ.2];refine dE (Nat.lt_of_le_of_lt CS.cT.1 SN) 259 dP (.i 0) 0 (jT ?_ (q r'));show _<(CS.bR _ _ _).labels.length;rw[CS.tN,hb.4];show _<((y.aH k).labels++[-1]).length;rw[List.length_append];exact Nat.lt_succ_self _
end
end Mine
namespace Mine
section
variable{G:Cx}{H:Hp}{x:CS}{B:List V}{r:Hp}
theorem Pc{g:Hp}: x.hp B r++g=x.hp B (r++g):=by
 unfold CS.hp;rw[<- List.append_assoc];rfl
theorem mB{a:Nat}{xs:List V}{Q:V×Hp->Prop}(e:H[a]? = some (.list xs))(q:Q (.int xs.length,H)):cJ (AZ G .len [.ref a] H) Q:=by
 refine .of (x:=(.int xs.length,H)) ?_ q;show bO (bO H[a]? nJ) _=_;rw[e];rfl
theorem AH{i j:Nat}{xs ys:List V}{Q:V×Hp->Prop}(hi:H[i]? = some (.list xs))(hj:H[j]? = some (.list ys))(hz:decide (xs.length+ys.length<=most)=true)(q:Q (.ref H.length,H++[.list (xs++ys)])):cJ (Do .add (.ref i) (.ref j) H) Q:=by
 refine .of (x:=(.ref H.length,H++[.list (xs++ys)])) ?_ q;show bO (bO H[i]? nJ) (fun xs=>bO (bO H[j]? nJ) fun ys=>dI (decide (xs.length+ys.length<=most)) (some (Kf H (xs++ys))))=_;rw[hi,hj];exact dJ hz
theorem hO{a k:Nat}{i:Int}{xs:List V}{v:V}{Q:V->Prop}(e:H[a]? = some (.list xs))(hk:fY i xs.length=some k)(hv:xs[k]? = some v)(q:Q v):cJ (D8 G (.ref a) i H) Q:=by
 refine .of (x:=v) ?_ q;show bO H[a]? _=_;rw[e];exact (dT hk).trans hv
end
section
variable{sc:List Int}{d:Nat}{x:CS}{B:List V}{r:Hp}{Q:PE}
theorem Fg(q:Q (.ref (uS B r).length) (uS B r++[.list [.int 5]])):Wf sc (d+1) 79 [.ref 0,.int 0] (uS B r) Q:=
 enter rfl rfl (Gu 1 (fun _=>.ref 11) (fun _=>some (.int 5)) (fun k hk=>by rw[Nat.lt_one_iff.mp hk];rfl) rfl (by decide) (fun k q _ hq=>hq) q)
theorem Bd(q:Q (.int 1) (uS B r++[.list [.int 5]])):Wf sc (d+2) 78 [.ref 0,.int 0] (uS B r) Q:=
 enter rfl rfl (Fg (mB aQ q))
theorem Fk(q:Q (.ref ((uS B r).length+2)) (uS B r++[.list [.int 5],.list [.int 5],.list [.int 5,.int 5]])):Wf sc (d+2) 80 [.ref 0] (uS B r) Q:=by
 refine enter rfl rfl (Fg (Gu 1 (fun _=>.ref 12) (fun _=>some (.int 5)) (fun k hk=>by rw[Nat.lt_one_iff.mp hk];rfl) rfl (by decide) (fun k q _ hq=>hq) (AH (bV aQ) aQ rfl ?_)));refine Wi (Q:=Q) ?_ ?_ q
 ·rw[List.length_append,List.length_append];rfl
 ·rw[List.append_assoc,List.append_assoc];rfl
theorem EV(q: ∀ g,Q (rG 2 2) (uS B r++g)):Wf sc (d+3) 83 [.ref 0,.int 0] (uS B r) Q:=
 enter rfl rfl (Fk (hO (k:=0) (xs:=[.int 5,.int 5]) (v:=.int 5) (by
  rw[List.getElem?_append_right (Nat.le_add_right ..),Nat.add_sub_cancel_left];rfl) rfl rfl (q _)))
end
section
variable{sc:List Int}{d:Nat}{x:CS}{B:List V}{r:Hp}{Q:PE}{e:bL}
theorem yS{m:Int}{n k:Nat}(h:fF m=some (n,k))(q:Q (rG n k) (uS B r)):Wf sc (d+1) 16 [.ref 1,.int m] (uS B r) Q:=by
 revert q;exact C4 (P:=fun m n k=>Q (rG n k) (uS B r)->Wf sc (d+1) 16 [.ref 1,.int m] (uS B r) Q) h (fun q=>enter rfl rfl q) (fun q=>enter rfl rfl q) (fun q=>enter rfl rfl q) (fun q=>enter rfl rfl q) (fun q=>enter rfl rfl q) fun q=>enter rfl rfl q
theorem JT{m code:Int}{n k:Nat}(h:fF m=some (n,k))(hz:x.size+x.stack.length<99990)(q:Q .none ((x.aL code n k 0).hp B [])):Wf sc (d+7) 54 [.ref 17,.aM [.int code,.int m]] (x.hp B []) Q:=
 enter rfl rfl (yS h (rM hz (by rw[List.length_replicate,List.length_replicate];exact q)))
theorem CX(q: ∀ r',Q (rG 2 2) (x.hp B r')):Wf sc (d+3) 83 [.ref 0,.int 0] (x.hp B r) Q:=
 EV fun g=>to (Q:=Q _) Pc (q _)
theorem TU(hs:2<=x.stack.length)(hz:x.size<99980)(q: ∀ r',Q .none ((x.call 0 2 2).hp B r')):Wf sc (d+6) 63 [.ref 17,.aM [.int 16,.int 0]] (x.hp B r) Q:=by
 have h1:(x.aI 2).size<99982:=Nat.lt_of_le_of_lt CS.bS (Nat.add_lt_add_right hz 2);have h2:((x.aI 2).bX 2).size<99982:=Nat.lt_of_le_of_lt CS.iR h1;exact enter rfl rfl (CX fun r'=>rO (many:=2) rfl hs (Nat.lt_of_lt_of_le (Nat.add_lt_add_right hz 2) (by decide)) (DE (many:=2) rfl (by rw[CS.dA];exact hs) (Nat.lt_trans h1 (by decide)) (dE (Nat.lt_trans h2 (by decide)) 263 0 (.i _) 0 (EX (n:=2) rfl (by rw[CS.cO];exact Nat.lt_of_lt_of_le (Nat.add_lt_add_right (Nat.succ_lt_succ h2) 2) (by decide)) (q r')))))
end
end Mine
namespace Mine
namespace CS
variable{x:CS}{s n:Int}
theorem Fv{e:bL}(h:e= .pl (4+((x.stack.length:Int)+1))):x.lH e=(x.kP (4+x.stack.length) e).push (.pl (4+x.stack.length)):=if_pos h
theorem IB{e:bL}(h:e ≠ .pl (4+((x.stack.length:Int)+1))):x.lH e=x.push e:=if_neg h
end CS
section
variable{sc:List Int}{d:Nat}{x:CS}{B:List V}{r:Hp}{Q:PE}{e e2:bL}{iv:V}
theorem Ny(he:x.stack.getLast? = some e)(FD:x.pop.stack.getLast? = some e2)(hs:3<=x.stack.length)(hz:x.size<99980)(q:Q .none ((x.cG e).hp B r)):Wf sc (d+5) 65 [.ref 17,iv] (x.hp B r) Q:=by
 cases e with
 | pl s=>
  have h1:(x.aI 3).size<99983:=Nat.lt_of_le_of_lt CS.bS (Nat.add_lt_add_right hz 3);have h2:((x.aI 3).bX 3).size<99983:=Nat.lt_of_le_of_lt CS.iR h1;exact enter rfl rfl (pC he (rO (many:=3) rfl hs (Nat.lt_of_lt_of_le (Nat.add_lt_add_right hz 3) (by decide)) (DE (many:=3) rfl (by rw[CS.dA];exact hs) (Nat.lt_trans h1 (by decide)) (dE (Nat.lt_trans h2 (by decide)) 258 _ (.i 0) 0 (gI (by rw[CS.cO];exact Nat.lt_trans (Nat.succ_lt_succ h2) (by decide)) q)))))
 | num n=>
  have q:Q .none ((x.pop.pop.xV n (x.pop.stack.getLast?.getD (.num 0))).hp B r):=q;rw[FD] at q;refine enter rfl rfl (pC he (qB he (qB FD (bQ (fun h=> ?_) fun h=> ?_))))
  ·have q:Q .none (((if n=0 then x.pop.pop.pop.lH e2 else x.pop.pop)).hp B r):=q
   rw[if_pos (beq_iff_eq.mp h)] at q;have hl:0<x.pop.pop.stack.length:=by
    show 0<(x.stack.dropLast.dropLast).length;rw[List.length_dropLast,List.length_dropLast];exact Nat.sub_pos_of_lt (Nat.lt_sub_of_add_lt hs)
   obtain⟨e3,nt⟩:=eL hl;have Sn:x.pop.pop.pop.size<99980:=Nat.lt_of_le_of_lt CS.cD (Nat.lt_of_le_of_lt CS.cD (Nat.lt_of_le_of_lt CS.cD hz));refine qB nt (iF _ (Dz (bQ (fun h2=> ?_) fun h2=> ?_)))
   ·have h2:=of_decide_eq_true h2
    rw[bK] at h2;rw[CS.Fv h2] at q;refine iF _ ?_;rw[bK];exact yU (Nat.lt_trans Sn (by decide)) _ e2 (iF _ (uJ (Nat.lt_trans (Nat.lt_of_le_of_lt CS.nV (Nat.succ_lt_succ Sn)) (by decide)) (.pl (4+x.pop.pop.pop.stack.length)) q))
   ·have h2:=of_decide_eq_false h2
    rw[bK] at h2;rw[CS.IB h2] at q;exact uJ (Nat.lt_trans Sn (by decide)) e2 q
  ·have q:Q .none (((if n=0 then x.pop.pop.pop.lH e2 else x.pop.pop)).hp B r):=q
   rw[if_neg (beq_eq_false_iff_ne.mp h)] at q;exact q
end
end Mine
namespace Mine
section
variable{sc:List Int}{d:Nat}{x:CS}{B:List V}{r:Hp}{Q:PE}{e:bL}{iv:V}
theorem bj{op i c m:Int}{n k:Nat}(he:x.stack.getLast? = some e)(hf:0<=x.fence)(ht:(x.pop.aE e).2=(op,.i i,c))(hm:fF m=some (n,k))(hz:x.size+x.stack.length<99980)(q:Q .none (((x.pop.aE e).1.xG op i c n k 0).hp B [])):
  Wf sc (d+7) 55 [.ref 17,.aM [.int 4,.int m]] (x.hp B []) Q:=by
 have hc:=CS.eT (x:=x.pop) (e:=e);have vP:(x.pop.aE e).1.size+(x.pop.aE e).1.stack.length<99980:=by
  rw[hc.3];exact Nat.lt_of_le_of_lt (Nat.add_le_add_right hc.1 _) (CS.xR hz)
 refine enter rfl rfl (yT he hf ?_);rw[ht];generalize (x.pop.aE e).1=y at q vP ⊢;have ho:=CS.yN (y:=y) (n:=n) (r:=k) (adr:=0);have GK:(y.aL 4 n k 0).size<99982:=Nat.lt_of_le_of_lt ho.2 (Nat.add_lt_add_right vP 2);have hk:(y.aL 4 n k 0).aP.frames[y.frames.length]? = some (y.KZ n k 0):=by
  show (y.aL 4 n k 0).frames[_]? = _;rw[ho.1,List.getElem?_append_right (Nat.le_refl _),Nat.sub_self];rfl
 unfold CS.xG at q;refine yS hm (rM (Nat.lt_trans vP (by decide)) ?_);rw[List.length_replicate,List.length_replicate];exact AA (Nat.lt_trans GK (by decide)) (D3 (g:= { y.KZ n k 0 with elseL:=some (y.aL 4 n k 0).labels.length }) hk rfl rfl (hG (f:= { y.KZ n k 0 with elseL:=some (y.aL 4 n k 0).labels.length }) (List.getElem?_set_self (bD hk)) rfl rfl
  (Bc (by rw[CS.uP,CS.gH];exact Nat.lt_trans (Nat.succ_lt_succ GK) (by decide)) op i c false rfl q)))
end
end Mine
namespace Mine
namespace CS
noncomputable def S9(x:CS)(l:Nat):aY:=.inst 10 [(15,.ref 0),(16,.ref 12),(19,.int 4),(8,.int 2),(4,.ref 18),(21,.ref 19),(22,.int x.fence),(23,.ref l),(24,.int x.most),(25,.ref 21),(26,.bool x.live),(27,.int x.skipped)]
noncomputable def sU(B:List V)(x:CS)(l:Nat)(S0:List V)(r:Hp):Hp:=uS B (.list [.ref 3,.ref 4,.ref 5,.ref 6]:: .list [.int 5]:: .list [.int 5]::x.S9 l:: .list (x.rows.map dZ.v):: .list (x.labels.map .int):: .list S0:: .list ((List.range x.frames.length).map fun k=>.ref (k+22))::(x.frames.map Fr.o++r))
end CS
namespace CS
variable{x y:CS}
theorem Hi{s:Int}{e:bL}: (y.kP s e).labels=y.labels:=by
 cases e with
 | num n=>rfl
 | pl t=>
  show (if t=s then y else y.aV 256 s (.i t) 0).labels=_;by_cases h:t=s
  ·rw[if_pos h]
  ·rw[if_neg h];rfl
theorem Ca{h:Nat}: (y.cB h).labels=y.labels:=by
 cases he:y.stack[h]? with
 | none=>unfold cB;rw[he]
 | some e=>rw[xW he];exact Hi
theorem oD{m:Nat}: (x.aI m).labels=x.labels:=by
 unfold aI;generalize x.stack.length - m=b;induction m with
 | zero=>rfl
 | succ m ih=>exact Ca.trans ih
end CS
theorem Pl{x:CS}{k:Nat}{Q:V->Prop}(h:x.frames.length=k+1)(q:Q (.ref (k+22))):cJ (Q2 ((List.range x.frames.length).map fun k=>V.ref (k+22)) (-1)) Q:=
 pC (g:=fun k=>V.ref (k+22)) (v:=k) (by rw[h,List.range_succ,List.getLast?_concat]) q
section
variable{sc:List Int}{d:Nat}{x:CS}{B:List V}{r:Hp}{Q:PE}{e:bL}{iv:V}
theorem TW{k el hp:Nat}{le:Int}{f:Fr}(hk:x.frames[k]? = some f)(hn:x.frames.length=k+1)(Iw:f.eU=some le)(Me:f.elseL=some (el:Int))(eA:el<x.labels.length)(LW:f.aC+f.params=hp)(GJ:hp<1000)(hz:x.size+x.stack.length<99980)
  (q: ∀ S0,Q .none (CS.sU B (x.iS k f le el hp) (x.hp B r).length S0 (r++[.list ((CS.dC hp).map bL.v)]))):Wf sc (d+6) 56 [.ref 17,iv] (x.hp B r) Q:=by
 have tail: ∀ (y:CS) (g:Fr),y.frames[k]? = some g->y.frames.length=x.frames.length->el<y.labels.length->g.elseL=some (el:Int)->g.aC=f.aC->g.params=f.params->(x.iS k f le el hp=((y.aG el).fA k { g with elseL:=none }).toLive (CS.dC hp))->
   eI (cx sc) (Cl sc (d+5)) (Cm.drop 2) [some (.ref 17),some iv,some (.ref (k+22))] (y.hp B r) fun fl _ h1=>Q (eG fl) h1:=fun y g h1 h2 h3 h4 h5 h6 h7=>by
  rw[h7] at q;have hg:jZ g.CM 13=some (.int el):=congrArg (fun o=>some (oV o)) h4;have hl:(x.hp B r).length=(((y.aG el).fA k { g with elseL:=none }).hp B r).length:=by
   rw[kM,kM];show _=(y.frames.set k _).length+_+_;rw[List.length_set,h2]
  have vN:((y.aG el).fA k { g with elseL:=none }).frames[k]? = some { g with elseL:=none }:=List.getElem?_set_self (bD h1);rw[hl] at q;refine hG h1 rfl hg (jT h3 (D3 (g:= { g with elseL:=none }) (x:=y.aG el) h1 rfl rfl (hG vN rfl rfl (hG vN rfl rfl ?_))));refine DJ (n:=hp) (by rw[h5,h6];exact LW) (Nat.lt_trans GJ (by decide)) (q _)
 refine enter rfl rfl (Pl hn (bQ (fun h=> ?_) fun h=> ?_))
 ·have hy:(x.aI x.stack.length).size<99980:=Nat.lt_of_le_of_lt CS.bS hz
  have rE:(x.aI x.stack.length).frames[k]? = some f:=by rw[CS.bM];exact hk
  have vN:((x.aI x.stack.length).fA k { f with used:=true }).frames[k]? = some { f with used:=true }:=List.getElem?_set_self (bD rE);have Yw:jZ ({ f with used:=true }: Fr).CM 11=some (.int le):=congrArg (fun o=>some (oV o)) Iw;refine rN (Nat.lt_trans hz (by decide)) (D3 (g:= { f with used:=true }) rE rfl rfl (hG vN rfl Yw (dE (by rw[CS.uP];exact Nat.lt_trans hy (by decide)) 259 le (.i 0) 0 ?_)));refine tail _ { f with used:=true } vN ?_ ?_ Me rfl rfl ?_
  ·show ((x.aI _).frames.set k _).length=_
   rw[List.length_set,CS.bM]
  ·show _<(x.aI _).labels.length
   rw[CS.oD];exact eA
  ·unfold CS.iS CS.lW CS.fE
   rw[if_pos h,if_pos h]
 ·refine tail x f hk rfl eA Me rfl rfl ?_
  unfold CS.iS CS.lW CS.fE;rw[if_neg (Bool.eq_false_iff.mp h),if_neg (Bool.eq_false_iff.mp h)]
end
end Mine
namespace Mine
section
variable{G:Cx}{H:Hp}{x:CS}{B:List V}{r:Hp}{f:Fr}{sc:List Int}
theorem oW{k a:Nat}{v:V}{Q:V->Prop}(hl:x.frames.length=k)(hd:(cx sc).iQ 9 a=true)(hv:jZ f.CM a=some v)(q:Q v):cJ (Ck (cx sc) (.ref (k+22)) a (x.hp B (f.o::r))) Q:=by
 refine .of (x:=v) ?_ q;have e:(x.hp B (f.o::r))[k+22]? = some f.o:=by
  show (x.frames.map Fr.o++f.o::r)[k]? = _;rw[List.getElem?_append_right (by rw[List.length_map,hl];exact Nat.le_refl _),List.length_map,hl,Nat.sub_self];rfl
 show bO (bO (x.hp B (f.o::r))[k+22]? CT) _=_;rw[e];exact (dJ hd).trans hv
theorem Pe{k:Nat}(h:x.frames[k]? = some f)(hn:x.frames.length=k+1):(x.hp B r).set 21 (.list (((List.range x.frames.length).map fun k=>V.ref (k+22)).dropLast))=x.eX.hp B (f.o::r):=by
 have e1:x.frames=x.frames.dropLast++[f]:=by
  have h1:x.frames.getLast? = some f:=by rw[List.getLast?_eq_getElem?,hn];exact h
  obtain⟨l,hl⟩:=List.getLast?_eq_some_iff.mp h1;rw[hl,List.dropLast_concat]
 have e2:((List.range x.frames.length).map fun k=>V.ref (k+22)).dropLast=(List.range x.frames.dropLast.length).map fun k=>V.ref (k+22):=by
  rw[List.length_dropLast,hn,List.range_succ,List.map_append];exact List.dropLast_concat ..
 have e3:x.frames.map Fr.o++r=x.frames.dropLast.map Fr.o++f.o::r:=by
  rw[show x.frames.map Fr.o=(x.frames.dropLast++[f]).map Fr.o from congrArg _ e1,List.map_append,List.append_assoc];rfl
 unfold CS.eX CS.hp;dsimp only;rw[e2,e3];rfl
theorem PT{i j:Nat}{xs:List V}{Q:Bool->Prop}(hi:H[i]? = some (.list xs))(hj:H[j]? = some (.list []))(q:Q xs.isEmpty):cJ (vE G .eq (.ref i) (.ref j) H) Q:=by
 refine .of (x:=xs.isEmpty) ?_ q;show bO (bO H[i]? nJ) (fun xs=>bO (bO H[j]? nJ) fun ys=>if xs.length=ys.length then yB xs ys 20 else some false)=_;rw[hi,hj];cases xs<;>rfl
end
section
variable{sc:List Int}{d:Nat}{x:CS}{B:List V}{r:Hp}{Q:PE}{l:Nat}{S0:List V}
theorem QE(h:Int)(k:Q (.int (4+h)) (x.sU B l S0 r)):Wf sc (d+1) 30 [.ref 17,.int h] (x.sU B l S0 r) Q:=enter rfl rfl k
theorem QC(hz:x.rows.length<99999)(op i:Int)(b:Arg)(c:Int)(k:Q .none ((x.aV op i b c).sU B l S0 r)):Wf sc (d+1) 29 [.ref 17,.int op,.int i,b.v,.int c] (x.sU B l S0 r) Q:=
 enter rfl rfl (iO (EF hz) (to (Q:=Q .none) (show (x.sU B l S0 r).set 18 (.list (x.rows.map dZ.v++[dZ.v ⟨op,i,b,c⟩]))=(x.aV op i b c).sU B l S0 r from by rw[fL];rfl) k))
theorem Pb{o:aY}: x.sU B l S0 r++[o]=x.sU B l S0 (r++[o]):=by
 unfold CS.sU;rw[<- List.append_assoc];rfl
theorem FG{o:aY}(hl:l=x.frames.length+r.length+22):(x.sU B l S0 (r++[o]))[l]? = some o:=by
 have:(x.frames.map Fr.o++(r++[o]))[x.frames.length+r.length]? = some o:=by
  rw[<- List.append_assoc,<- List.length_map (f:=Fr.o),<- List.length_append];exact aQ
 rw[hl];exact this
theorem QD{H:Hp}(e:H=x.sU B l S0 r)(h:Int)(k:Q (.int (4+h)) (x.sU B l S0 r)):Wf sc (d+1) 30 [.ref 17,.int h] H Q:=e▸QE h k
theorem DG{k hp:Nat}{f:Fr}{iv:V}{y:CS}(hy:y.frames.length=k)(hz:y.size<99990)(LW:f.aC+f.aU=hp)(GJ:hp<1000)(q: ∀ S0,Q .none ((y.eD hp).jL.sU B (k+(r.length+1)+22) S0 (f.o::r++[.list ((CS.dC hp).map bL.v)]++[.list []]))):
  eI (cx sc) (Cl sc (d+5)) (vC.drop 4) [some (.ref 17),some iv,some (.ref (k+22))] (y.hp B (f.o::r)) fun fl _ h1=>Q (eG fl) h1:=by
 have bE:((CS.dC hp).map bL.v).length=hp:=by
  unfold CS.dC;rw[List.length_map,List.length_map,List.length_range]
 have hl:(y.hp B (f.o::r)).length=y.frames.length+(f.o::r).length+22:=kM;rw[show k+(r.length+1)+22=(y.hp B (f.o::r)).length from (hl.trans (by rw[hy];rfl)).symm] at q;refine oW hy rfl rfl (oW hy rfl rfl (DJ (n:=hp) LW (Nat.lt_trans GJ (by decide)) (mB (FG (x:=y) (B:=B) (S0:=y.stack.map bL.v) hl) ?_)));have eH:CS.sU B { y with most:=if (((CS.dC hp).map bL.v).length:Int)>y.most then (((CS.dC hp).map bL.v).length:Int) else y.most } (y.hp B (f.o::r)).length (y.stack.map bL.v) (f.o::r++[.list ((CS.dC hp).map bL.v)])++[.list []]=(y.eD hp).sU B (y.hp B (f.o::r)).length (y.stack.map bL.v) (f.o::r++[.list ((CS.dC hp).map bL.v)]++[.list []]):=by
  rw[bE,Pb];rfl
 have no:((y.eD hp).frames.isEmpty&&(y.eD hp).live)=false->∀ S0,Q .none ((y.eD hp).sU B (y.hp B (f.o::r)).length S0 (f.o::r++[.list ((CS.dC hp).map bL.v)]++[.list []])):=fun h S0=>by
  have:=q S0;unfold CS.jL at this;rw[if_neg (Bool.eq_false_iff.mp h)] at this;exact this
 have yes:((y.eD hp).frames.isEmpty&&(y.eD hp).live)=true->∀ S0,Q .none (((y.eD hp).aV 267 4 (.i 2) 0).sU B (y.hp B (f.o::r)).length S0 (f.o::r++[.list ((CS.dC hp).map bL.v)]++[.list []])):=fun h S0=>by
  have:=q S0;unfold CS.jL at this;rw[if_pos h] at this;exact this
 have em:((List.range y.frames.length).map fun k=>V.ref (k+22)).isEmpty=y.frames.isEmpty:=by
  cases y.frames with
  | nil=>rfl
  | cons f l=>
   show ((List.range (l.length+1)).map _).isEmpty=false;rw[List.range_succ_eq_map];rfl
 refine PT (xs:=(List.range y.frames.length).map fun k=>.ref (k+22)) rfl aQ (pU (fun h=> ?_) fun h=>bQ (fun h2=> ?_) fun h2=> ?_)
 ·rw[em] at h
  exact to (Q:=Q .none) eH (no (by show (y.frames.isEmpty&&_)=false;rw[h];rfl) _)
 ·rw[em] at h
  exact QD eH 0 (QC (x:=y.eD hp) (CS.DO (x:=y) (Nat.lt_trans hz (by decide))) 267 4 (.i 2) 0 (yes (by show (y.frames.isEmpty&&y.live)=true;rw[h,show y.live=true from h2];rfl) _))
 ·exact to (Q:=Q .none) eH (no (by show (_&&y.live)=false;rw[show y.live=false from h2,Bool.and_false]) _)
end
section
variable{sc:List Int}{d:Nat}{x:CS}{B:List V}{r:Hp}{Q:PE}{l:Nat}{S0:List V}{k hp fe:Nat}{f:Fr}{iv:V}{y:CS}
noncomputable abbrev eU(hp:Nat)(f:Fr)(r:Hp):Hp:=f.o::r++[.list ((CS.dC hp).map bL.v)]++[.list []]
theorem DH(hy:y.frames.length=k)(hz:y.size<99990)(LW:f.aC+f.aU=hp)(GJ:hp<1000)(xD:f.eU=some (fe:Int))(eA:fe<y.labels.length)(q: ∀ S0,Q .none (((y.gZ f.used fe).eD hp).jL.sU B (k+(r.length+1)+22) S0 (eU hp f r))):
  eI (cx sc) (Cl sc (d+5)) (vC.drop 3) [some (.ref 17),some iv,some (.ref (k+22))] (y.hp B (f.o::r)) fun fl _ h1=>Q (eG fl) h1:=by
 unfold CS.gZ at q;refine oW hy rfl rfl (bQ (fun h=> ?_) fun h=> ?_)
 ·rw[if_pos h] at q
  exact oW hy rfl (show jZ f.CM 11=some (.int fe) from congrArg (fun o=>some (oV o)) xD) (jT eA (DG (y:=(y.aG fe).xM) hy (by show (y.aG fe).size<_;rw[CS.jW];exact hz) LW GJ q))
 ·rw[if_neg (Bool.eq_false_iff.mp h)] at q
  exact DG hy hz LW GJ q
theorem DF(hy:y.frames.length=k)(hz:y.size<99990)(LW:f.aC+f.aU=hp)(GJ:hp<1000)(xD:f.eU=some (fe:Int))(eA:fe<y.labels.length)(Me: ∀ l,f.elseL=some l->0<=l/\l.toNat<y.labels.length)(q: ∀ S0,Q .none ((((y.oQ f.elseL).gZ f.used fe).eD hp).jL.sU B (k+(r.length+1)+22) S0 (eU hp f r))):
  eI (cx sc) (Cl sc (d+5)) (vC.drop 2) [some (.ref 17),some iv,some (.ref (k+22))] (y.hp B (f.o::r)) fun fl _ h1=>Q (eG fl) h1:=by
 cases he:f.elseL with
 | none=>
  rw[he] at q;exact oW hy rfl (show jZ f.CM 13=some .none from congrArg (fun o=>some (oV o)) he) (DH hy hz LW GJ xD eA q)
 | some l=>
  rw[he] at q;obtain⟨h0,h1⟩:=Me l he;have hl:jZ f.CM 13=some (.int (l.toNat:Int)):=(congrArg (fun o=>some (oV o)) he).trans (by rw[Int.toNat_of_nonneg h0];rfl);exact oW hy rfl hl (oW hy rfl hl (jT h1 (DH (y:=(y.aG l.toNat).xM) hy (by show (y.aG l.toNat).size<_;rw[CS.jW];exact hz) LW GJ xD (by show fe<(y.labels.set _ _).length;rw[List.length_set];exact eA) q)))
theorem WO(hk:x.frames[k]? = some f)(hn:x.frames.length=k+1)(hz:x.size+x.stack.length<99980)(LW:f.aC+f.aU=hp)(GJ:hp<1000)(xD:f.eU=some (fe:Int))(eA:fe<x.labels.length)(Me: ∀ l,f.elseL=some l->0<=l/\l.toNat<x.labels.length)
  (q: ∀ S0,Q .none ((x.mW f fe hp).sU B (k+(r.length+1)+22) S0 (eU hp f r))):Wf sc (d+6) 57 [.ref 17,iv] (x.hp B r) Q:=by
 have hf:x.eX.frames.length=k:=by
  show x.frames.dropLast.length=k;rw[List.length_dropLast,hn];rfl
 have Vf:x.eX.size<=x.size:=Nat.add_le_add_left (by show x.frames.dropLast.length<=_;rw[List.length_dropLast];exact Nat.sub_le ..) _;have vP:x.eX.size+x.eX.stack.length<99980:=Nat.lt_of_le_of_lt (Nat.add_le_add_right Vf _) hz;refine enter rfl rfl (uI (v:=.ref (k+22)) (by rw[hn,List.range_succ,List.map_append];exact List.getLast?_concat ..) ?_);rw[Pe hk hn];unfold CS.mW CS.gK at q;refine bQ (fun h=> ?_) fun h=> ?_
 ·rw[if_pos (show x.eX.live=true from h)] at q
  have jD:(x.eX.aI x.eX.stack.length).labels=x.labels:=CS.oD;exact rN (Nat.lt_trans vP (by decide)) (DF (by rw[CS.bM];exact hf) (Nat.lt_of_le_of_lt CS.bS (Nat.lt_trans vP (by decide))) LW GJ xD (by rw[jD];exact eA) (by rw[jD];exact Me) q)
 ·rw[if_neg (Bool.eq_false_iff.mp (show x.eX.live=false from h))] at q
  exact DF hf (Nat.lt_of_le_of_lt Vf (CS.JY hz (by decide))) LW GJ xD eA Me q
end
section
variable{sc:List Int}{d:Nat}{x:CS}{B:List V}{Q:PE}
theorem Td(q:Q (.int 2) (uS B [.list [.ref 3,.ref 4,.ref 5,.ref 6],.list [.int 5]])):Wf sc (d+3) 81 [.ref 0,.int 0] (uS B []) Q:=
 enter rfl rfl (Bd (r:=[.list [.ref 3,.ref 4,.ref 5,.ref 6]]) q)
theorem TX{r:Hp}(q:Q (.ref 12) (uS B r++[.list [.int 5]])):Wf sc (d+3) 82 [.ref 0,.int 1] (uS B r) Q:=
 enter rfl rfl (Bd q)
end
noncomputable def ci(B:List V)(fs:List (Nat×V))(r:Hp):Hp:=uS B (.list [.ref 3,.ref 4,.ref 5,.ref 6]:: .list [.int 5]:: .list [.int 5]:: .inst 10 fs::r)
@[irreducible]
noncomputable def wZ(G:Cx)(cl:Call)(b:List S)(ρ:cP)(H:Hp)(Q:PS):Prop:=eI G cl b ρ H Q
theorem B6{G:Cx}{cl:Call}{b:List S}{ρ:cP}{H:Hp}{Q:PS}: wZ G cl b ρ H Q=eI G cl b ρ H Q:=by unfold wZ;rfl
theorem RX{G:Cx}{cl:Call}{b:List S}{ρ:cP}{H:Hp}{Q:PS}(h:wZ G cl b ρ H Q):eI G cl b ρ H Q:=by rw[<- B6];exact h
section
variable{sc:List Int}{d:Nat}{x:CS}{B:List V}{Q:PE}
theorem pV{ρ:cP}{fs:List (Nat×V)}{r r':Hp}{a:Nat}{e:E}{v:V}{jS:List S}{Q:PS}(hd:(cx sc).iQ 10 a=true)(h0:HN ρ 0=some (.ref 17))(he: ∀ K:PE,K v (ci B fs r')->wE (cx sc) (Cl sc d) e ρ (ci B fs r) K)(q:wZ (cx sc) (Cl sc d) jS ρ (ci B (tZ fs a v) r') Q):wZ (cx sc) (Cl sc d) (.bZ (.aA 0) a e::jS) ρ (ci B fs r) Q:=
by
 rw[B6] at q ⊢;exact he _ (.of h0 (.of (x:=ci B (tZ fs a v) r') (dJ hd) q))
theorem jB{G:Cx}{cl:Call}{s:S}{jS:List S}{ρ ρ':cP}{H H':Hp}{Q:PS}(hs: ∀ K:PS,K .next ρ' H'->wS G cl s ρ H K)(q:eI G cl jS ρ' H' Q):eI G cl (s::jS) ρ H Q:=hs _ q
theorem MH{sc:List Int}{d n np nv:Nat}{b:List S}{args:List V}{Q:PE}{H:Hp}(hk:(cx sc).kind n= .fn np nv b)(hl:Nat.beq args.length np=true)(h:wZ (cx sc) (Cl sc d) b (args.map some++List.replicate (nv - np) none) H fun fl _ h1=>Q (eG fl) h1):Wf sc (d+1) n args H Q:=enter hk hl (RX h)
theorem OY{G:Cx}{cl:Call}{ρ:cP}{H:Hp}{Q:PS}(q:Q .next ρ H):wZ G cl [] ρ H Q:=by rw[B6];exact q
theorem wK{G:Cx}{cl:Call}{s:S}{jS:List S}{ρ ρ':cP}{H H':Hp}{Q:PS}(hs: ∀ K:PS,K .next ρ' H'->wS G cl s ρ H K)(q:wZ G cl jS ρ' H' Q):wZ G cl (s::jS) ρ H Q:=by rw[B6] at q ⊢;exact hs _ q
theorem Hl(q:Q .none (CS.eF.hp B [])):Wf sc (d+1) 26 [.ref 17,.ref 0,.ref 12] (ci B [] []) Q:=
 MH rfl rfl (pV rfl rfl (fun _ k=>k) (pV rfl rfl (fun _ k=>k) (wK (ρ':=[some (.ref 17),some (.ref 0),some (.ref 12),some (KY 2),some (KY 2)]) (fun _ k=>k)
 (pV rfl rfl (v:=.int 4) (fun _ k=>k)
 (pV rfl rfl (v:=.int 2) (fun _ k=>k)
 (pV rfl rfl (r':=[.list []]) (fun _ k=>k)
 (pV rfl rfl (r':=[.list [],.list []]) (fun _ k=>k)
 (pV rfl rfl (fun _ k=>k)
 (pV rfl rfl (r':=[.list [],.list [],.list []]) (fun _ k=>k)
 (pV rfl rfl (fun _ k=>k)
 (pV rfl rfl (r':=[.list [],.list [],.list [],.list []]) (fun _ k=>k)
 (pV rfl rfl (fun _ k=>k)
 (pV rfl rfl (fun _ k=>k)
 (OY q))))))))))))))
end
noncomputable def dv(l:List (Int×Int)):List (Int×V):=l.map fun p=>(p.1,.int p.2)
theorem vK{l:List (Int×Int)}{k:Int}: cA (dv l) k=(mP l k).map V.int:=by
 unfold cA dv mP;rw[List.find?_map,Option.map_map,Option.map_map];rfl
theorem IL{es:List (Int×V)}{k:Int}{v:V}(h:cA es k=none):jA es k v=es++[(k,v)]:=by
 refine if_neg fun q=> ?_;obtain⟨p,hp,hq⟩:=List.any_eq_true.mp q;exact absurd hq (List.find?_eq_none.mp (Option.map_eq_none_iff.mp h) p hp)
theorem NF{l:List (Int×Int)}{k v:Int}(h:mP l k=none):mP (l++[(k,v)]) k=some v:=by
 rw[BD,h];show mP [(k,v)] k=_;unfold mP;rw[List.find?_cons_of_pos (p:=fun e:Int×Int=>e.1==k) (a:=(k,v)) (beq_self_eq_true k)];rfl
section
variable{G:Cx}{H:Hp}{l m:Nat}{xs:List V}{es:List (Int×V)}{ep:Option Nat}{i:Int}{v:V}
theorem Bt{Q:Jn->Prop}(e:H[l]? = some (.list xs))(hm:Nat.ble m 2=true)(q:Q .NG):cJ (OH G m (.ref l) H) Q:=.of (x:=Jn.NG) (show bO H[l]? (Tt G m)=some Jn.NG from (dT e).trans (dJ (x:=some Jn.NG) hm)) q
theorem BJ{Q:List V->Prop}(e:H[l]? = some (.list xs))(q:Q xs):cJ (nS H l) Q:=.of (x:=xs) (dT e) q
theorem tY{Q:List (Int×V)×Option Nat->Prop}(e:H[l]? = some (.dict es ep))(q:Q (es,ep)):cJ (pW H l) Q:=.of (x:=(es,ep)) (dT e) q
theorem vW{Q:Bool->Prop}(e:H[l]? = some (.dict es ep))(q:Q (!(cA es i).isSome)):cJ (vE G .yL (.int i) (.ref l) H) Q:=by
 refine .of (x:= !(cA es i).isSome) ?_ q;show bO (bO (pW H l) _) _=_;unfold pW;rw[e];rfl
theorem sA{Q:V->Prop}(e:H[l]? = some (.dict es ep))(hv:cA es i=some v)(q:Q v):cJ (D8 G (.ref l) i H) Q:=.of (x:=v) ((dT e).trans hv) q
theorem QL{Q:Hp->Prop}{es':List (Int×V)}{R9:Option Nat}(e:H[l]? = some (.dict es ep))(hz:es.length<1000)(h1:jA es i v=es')(h2:(if (cA es i).isSome then ep else ep.map (· + 1))=R9)(q:Q (H.set l (.dict es' R9))):cJ (oB (.ref l) i v H) Q:=by
 refine .of (x:=H.set l (.dict es' R9)) ?_ q;show bO H[l]? _=_;rw[e,<- h1,<- h2];exact dT (dJ (decide_eq_true (Nat.le_trans (Nat.le_of_lt hz) (by decide))))
theorem S8{b:Nat->V->cP->Option cP}{k:Nat}{ρ ρ1:cP}(hv:xs[k]? = some v)(hb:b k v ρ=some ρ1):JI b (.aM xs) k ρ H=some (some ρ1):=by
 show bO (some xs[k]?) _=_;rw[hv];exact dT hb
theorem Pv{b:Nat->V->cP->Option cP}{k:Nat}{ρ:cP}(hv:xs.length<=k):JI b (.aM xs) k ρ H=some none:=by
 show bO (some xs[k]?) _=_;rw[List.getElem?_eq_none hv];rfl
end
section
variable{x:CS}{B:List V}{r:Hp}{o o' p:aY}{k:Nat}
theorem uW(hk:x.frames.length=k):(x.hp B (o::r))[k+22]? = some o:=by
 show (x.frames.map Fr.o++o::r)[k]? = _;rw[List.getElem?_append_right (by rw[List.length_map,hk];exact Nat.le_refl _),List.length_map,hk,Nat.sub_self];rfl
theorem AL(hk:x.frames.length=k):(x.hp B (o::p::r))[k+23]? = some p:=by
 show (x.frames.map Fr.o++o::p::r)[k+1]? = _;rw[List.getElem?_append_right (by rw[List.length_map,hk];exact Nat.le_succ _),List.length_map,hk,Nat.add_sub_cancel_left];rfl
theorem RZ{α:Type}{a r:List α}{o o':α}{k:Nat}(h:a.length=k):(a++o::r).set k o'=a++o'::r:=by
 rw[List.set_append_right k o' (Nat.le_of_eq h),h,Nat.sub_self];rfl
theorem Tk{α:Type}{a r:List α}{o p o':α}{k:Nat}(h:a.length=k):(a++o::p::r).set (k+1) o'=a++o::o'::r:=by
 rw[List.set_append_right (k+1) o' (Nat.le_trans (Nat.le_of_eq h) (Nat.le_succ _)),h,Nat.add_sub_cancel_left];rfl
theorem Rz(hk:x.frames.length=k):(x.hp B (o::r)).set (k+22) o'=x.hp B (o'::r):=
 congrArg (fun l=>uS B (.list [.ref 3,.ref 4,.ref 5,.ref 6]:: .list [.int 5]:: .list [.int 5]::x.obj:: .list (x.rows.map dZ.v):: .list (x.labels.map .int):: .list (x.stack.map bL.v):: .list ((List.range x.frames.length).map fun k=>.ref (k+22))::l)) (RZ ((List.length_map _).trans hk))
theorem Gd(hk:x.frames.length=k):(x.hp B (o::p::r)).set (k+23) o'=x.hp B (o::o'::r):=
 congrArg (fun l=>uS B (.list [.ref 3,.ref 4,.ref 5,.ref 6]:: .list [.int 5]:: .list [.int 5]::x.obj:: .list (x.rows.map dZ.v):: .list (x.labels.map .int):: .list (x.stack.map bL.v):: .list ((List.range x.frames.length).map fun k=>.ref (k+22))::l)) (Tk ((List.length_map _).trans hk))
end
noncomputable def D2:Option S->List S
 | some (.qK _ _ b)=>b
 | some (.KF _ _ b)=>b
 | _=>[]
noncomputable def Qe:List S:=D2 nG[2]?
noncomputable def OE:List S:=D2 nG[4]?
section
variable{sc:List Int}{d:Nat}{B:List V}{r:Hp}
theorem K2{t:TS}{dd ep k:Nat}{iv en:V}{slot:Int}{o7 o8 o9:Option V}{go:cP->Hp->Prop}{Q:PS}(hk:t.x.frames.length=k)(ok:fW t.x dd)(hz:t.x.size<99980)(Y4:t.cL.length<1000)(kI:t.bI.length<1000)
  (q: ∀ p7 p8 p9 R9 g,go [some (.ref 17),some iv,some en,some (.int dd),some (.int slot),some (.ref (k+22)),some (.ref (k+23)),p7,p8,p9] ((t.step dd).x.hp B (.dict (dv (t.step dd).bI) (some R9):: .list ((t.step dd).cL.map .int)::g))):
  eI (cx sc) (Cl sc (d+3)) Qe [some (.ref 17),some iv,some en,some (.int dd),some (.int slot),some (.ref (k+22)),some (.ref (k+23)),o7,o8,o9] (t.x.hp B (.dict (dv t.bI) (some ep):: .list (t.cL.map .int)::r)) (jE go Q):=by
 have eA:bB t.x dd<t.x.frames.length:=Nat.lt_of_le_of_lt (Nat.sub_le ..) (Nat.sub_lt (Nat.lt_of_le_of_lt (Nat.zero_le _) ok.lt) Nat.one_pos);have hd:bB t.x dd+dd+1=t.x.frames.length:=n2 ok.lt;have hf:=List.getElem?_eq_getElem eA;obtain⟨⟨dP,jD⟩,RK,SY,XJ⟩:=ok.oK _ hf;have hg:=CS.cS (x:=t.x) (k:=bB t.x dd);have Y2:=iE hf;unfold TS.step at q;rw[hf] at q;dsimp only at q;rw[jD] at q;generalize t.x.frames[bB t.x dd]=f at *;generalize bB t.x dd=n at *;refine zZ rfl hf hd (Int.toNat_of_nonneg RK).symm jD (Be Y2 rfl (by rw[hg.2];exact SY) (by rw[hg.1];exact Nat.lt_trans hz (by decide)) fun g=> ?_);rw[Fr.nQ.2];have zU:(t.x.aH n).frames.length=k:=hg.3.trans hk;have Y3:(t.cL.map V.int).length<100000:=by rw[List.length_map];exact Nat.lt_trans Y4 (by decide)
 refine bQ (fun h=> ?_) fun h=> ?_
 ·rw[if_pos h] at q
  exact Bt (AL zU) rfl (BJ (AL zU) (iO Y3 (to (Q:=go _) ((Gd zU).trans (by rw[fL];rfl)) (q _ _ _ ep (r++g)))))
 ·rw[if_neg (Bool.eq_false_iff.mp h)] at q
  cases hl:mP t.bI dd with
  | some l=>
   rw[hl] at q;have Of:cA (dv t.bI) dd=some (.int l):=by rw[vK,hl];rfl
   refine vW (uW zU) ?_;rw[Of];exact Bt (AL zU) rfl (sA (uW zU) Of (BJ (AL zU) (iO Y3 (to (Q:=go _) ((Gd zU).trans (by rw[fL];rfl)) (q _ _ _ ep (r++g))))))
  | none=>
   rw[hl] at q;have Of:cA (dv t.bI) dd=none:=by rw[vK,hl];rfl
   refine vW (uW zU) ?_;rw[Of];have Ei:((t.x.aH n).labels.length:Int)=t.x.labels.length:=by rw[hg.4]
   have vN:(t.x.aH n).aP.frames.length=k:=zU;refine Fn Ei (by rw[hg.1];exact Nat.lt_trans hz (by decide)) (QL (es':=dv (t.bI++[((dd:Int),(t.x.labels.length:Int))])) (uW vN) (by unfold dv;rw[List.length_map];exact kI) ((IL Of).trans (by unfold dv;rw[List.map_append];rfl)) (by rw[Of]) ?_);have Y0:cA (dv (t.bI++[((dd:Int),(t.x.labels.length:Int))])) dd=some (.int t.x.labels.length):=by rw[vK,NF hl];rfl
   exact to (Q:=fun H=>eI (cx sc) _ _ _ H _) (Rz vN) (Bt (AL vN) rfl (sA (uW vN) Y0 (BJ (AL vN) (iO Y3 (to (Q:=go _) ((Gd vN).trans (by rw[fL];rfl)) (q _ _ _ (ep+1) (r++g)))))))
theorem H7{x:CS}{dd l ep k:Nat}{ps:List (Int×Int)}{iv en gv:V}{slot:Int}{o7 o8 o9:Option V}{go:cP->Hp->Prop}{Q:PS}(hk:x.frames.length=k)(Iz:mP ps dd=some (l:Int))(ok:fW x dd)(hl:l<x.labels.length)(hz:x.size<99980)
  (q: ∀ p7 p8 p9,go [some (.ref 17),some iv,some en,some (.int dd),some (.int slot),some (.ref (k+22)),some gv,p7,p8,p9] ((bW x ((dd:Int),(l:Int))).hp B (.dict (dv ps) (some ep)::r))):
  eI (cx sc) (Cl sc (d+3)) OE [some (.ref 17),some iv,some en,some (.int dd),some (.int slot),some (.ref (k+22)),some gv,o7,o8,o9] (x.hp B (.dict (dv ps) (some ep)::r)) (jE go Q):=by
 have eA:bB x dd<x.frames.length:=Nat.lt_of_le_of_lt (Nat.sub_le ..) (Nat.sub_lt (Nat.lt_of_le_of_lt (Nat.zero_le _) ok.lt) Nat.one_pos);have hd:bB x dd+dd+1=x.frames.length:=n2 ok.lt;have hf:=List.getElem?_eq_getElem eA;obtain⟨⟨dP,jD⟩,RK,SY,XJ⟩:=ok.oK _ hf;have hg:=CS.cS (x:=x) (k:=bB x dd);have Y2:=iE hf;unfold bW at q;rw[show bB x ((dd:Int),(l:Int)).1.toNat=bB x dd from rfl,hf] at q;dsimp only at q;rw[jD] at q;generalize x.frames[bB x dd]=f at *;generalize bB x dd=n at *;have zU:(x.aH n).frames.length=k:=hg.3.trans hk;have Of:cA (dv ps) dd=some (.int l):=by rw[vK,Iz];rfl
 have Sf:((x.aH n).aG l).size<99980:=by rw[CS.jW,hg.1];exact hz
 have UA:=CS.cT (x:=(x.aH n).aG l) (fh:=f.aC) (many:=f.many.toNat);have gf:((x.aH n).aG l).size+f.many.toNat<99990:=Nat.lt_of_lt_of_le (Nat.add_lt_add_of_lt_of_le Sf (Int.toNat_le.mpr XJ)) (by decide);refine zZ rfl hf hd (Int.toNat_of_nonneg RK).symm jD (sA (uW zU) Of (jT (by rw[hg.4];exact hl) (wC Y2 rfl (by show _<=(x.aH n).stack.length;rw[hg.2];exact SY) (Nat.lt_trans gf (by decide)) ?_)));rw[Fr.nQ.2];exact dE (Nat.lt_of_le_of_lt UA.1 (Nat.lt_trans gf (by decide))) 259 dP (.i 0) 0 (q _ _ _)
end
theorem TS.DR: ∀ {ds:List Nat} {t:TS} {dd:Nat},t.cM (ds++[dd])=(t.cM ds).step dd
 | [],t,dd=>rfl
 | d::r,t,dd=>by
  show (t.step d).cM (r++[dd])=_;rw[TS.DR];rfl
section
variable{G:Cx}{H:Hp}{l k ep fR:Nat}{es:List (Int×V)}{i:Int}{ρ:cP}{x:V}{xs:List V}
theorem S7(e:H[l]? = some (.dict es (some ep)))(hv:(es.map (·.1))[k]? = some i):V7 fR l (es.map (·.1)) ep k ρ H=some (some (ρ.set fR (some (.int i)))):=by
 unfold V7 pW;rw[e];show dI (decide (es.map (·.1)=es.map (·.1))&&decide (some ep=some ep)) _=_;rw[decide_eq_true rfl,decide_eq_true rfl,hv];rfl
theorem Pu(e:H[l]? = some (.dict es (some ep)))(hv:es.length<=k):V7 fR l (es.map (·.1)) ep k ρ H=some none:=by
 unfold V7 pW;rw[e];show dI (decide (es.map (·.1)=es.map (·.1))&&decide (some ep=some ep)) _=_;rw[decide_eq_true rfl,decide_eq_true rfl,List.getElem?_eq_none (by rw[List.length_map];exact hv)];rfl
theorem K7{Q:V×Hp->Prop}(q:Q (.aM xs,H)):cJ (Eb (.aM (x::xs)) (.int 1) .none H) Q:=by
 refine .of (x:=(.aM xs,H)) ?_ q;show dI (true&&(true&&decide ((1:Int)<=((x::xs).length:Int)))) _=_;rw[decide_eq_true (by rw[List.length_cons];lia:(1:Int)<=((x::xs).length:Int))];rfl
theorem IM{Q:V×Hp->Prop}(e:H[l]? = some (.list xs))(q:Q (.aM xs,H)):cJ (AZ G .tuple [.ref l] H) Q:=by
 refine .of (x:=(.aM xs,H)) ?_ q;show bO (bO H[l]? nJ) _=_;rw[e];rfl
end
section
variable{sc:List Int}{d:Nat}{B:List V}{x:CS}{e:bL}{Q:PE}
theorem Ku{ds:List Nat}(he:x.stack.getLast? = some e)(LU: ∀ dd∈ds,fW x.pop dd)(hn:ds.length<=10)(hz:x.size<99900)(q: ∀ r',Q .none ((x.pop.mU e ds).hp B r')):Wf sc (d+4) 60 [.ref 17,.aM (.int 14::FU ds)] (x.hp B []) Q:=by
 have Sf:x.pop.size<99900:=Nat.lt_of_le_of_lt CS.cD hz;refine enter rfl rfl (qB he (rP (Nat.lt_trans Sf (by decide)) e ((x.pop.stack.map bL.v).length:Int) ?_));rw[bK];obtain⟨s1,s2,s3,s4⟩:=CS.gO (x:=x.pop) (e:=e) (h:=x.pop.stack.length);have qv:=Nat.lt_of_le_of_lt s1 (Nat.succ_lt_succ Sf);have Yu: ∀ dd∈ds,fW (x.pop.bN x.pop.stack.length e).1 dd:=fun dd h=>(LU dd h).same (.of_eq s2) (by rw[s3]);unfold CS.mU at q;generalize (x.pop.bN x.pop.stack.length e).2=slot at *;generalize (x.pop.bN x.pop.stack.length e).1=z at *;clear s1 s2 s3 s4 LU Sf hz;have CO:=fun k=>TS.F4 (t:=⟨z,[],[]⟩) (ds:=ds) (es:=ds.take k) ⟨0,0,0,0,0,0,0⟩ (fun e h=>List.mem_of_mem_take h) (fun p hp=>by cases hp);have Ww: ∀ k,A3 ((TS.cM ⟨z,[],[]⟩ (ds.take k)).x.size<99911) ((TS.cM ⟨z,[],[]⟩ (ds.take k)).cL.length<1000) ((TS.cM ⟨z,[],[]⟩ (ds.take k)).bI.length<1000):=fun k=>by
  have hl:(ds.take k).length<=10:=Nat.le_trans (List.length_take_le' ..) hn;exact⟨Nat.lt_of_le_of_lt (CO k).3 (Nat.add_lt_add_of_lt_of_le qv hl),Nat.lt_of_le_of_lt (CO k).6 (Nat.lt_of_le_of_lt (Nat.add_le_add_left hl _) (by decide:0+10<1000)),Nat.lt_of_le_of_lt (CO k).7 (Nat.lt_of_le_of_lt (Nat.add_le_add_left hl _) (by decide:0+10<1000))⟩
 refine K7 (nI ds.length (fun n ρ H=>Ud (fun o3 o7 o8 o9 _ _=>ρ=[some (.ref 17),some (.aM (.int 14::FU ds)),some e.v,o3,some (.int slot),some (.ref (z.frames.length+22)),some (.ref (z.frames.length+23)),o7,o8,o9]) (fun _ _ _ _ ep g=>H=(TS.cM ⟨z,[],[]⟩ (ds.take n)).x.hp B (.dict (dv (TS.cM ⟨z,[],[]⟩ (ds.take n)).bI) (some ep):: .list ((TS.cM ⟨z,[],[]⟩ (ds.take n)).cL.map .int)::g))) ?_ ?_ ?_)
 ·refine⟨none,none,none,none,0,[],?_,(congrArg (· ++ _) xF).trans xF⟩
  rw[List.length_append,kM];rfl
 ·intro ρ H j
  obtain⟨o3,o7,o8,o9,ep,g,e1,e2⟩:=j;rw[e1,e2];refine⟨Pv (Nat.le_of_eq (List.length_map _)),?_⟩;have hf:=CO ds.length;have hb:=Ww ds.length;rw[List.take_length] at hf hb ⊢;generalize TS.cM ⟨z,[],[]⟩ ds=t at *;have hk:t.x.frames.length=z.frames.length:=hf.1.1;refine IM (AL hk) (dE (Nat.lt_trans hb.1 (by decide)) 262 slot (.t t.cL) 0 (tY (uW hk) ?_));have XR:iH z (t.x.aV 262 slot (.t t.cL) 0):=iH.trans hf.1 (.of_eq rfl);have Vk:(t.x.aV 262 slot (.t t.cL) 0).stack=z.stack:=hf.4;have kI:(t.x.aV 262 slot (.t t.cL) 0).size<99912:=by rw[CS.cO];exact Nat.succ_lt_succ hb.1
  have Ei:(t.x.aV 262 slot (.t t.cL) 0).labels.length=t.x.labels.length:=rfl;generalize t.x.aV 262 slot (.t t.cL) 0=u at *;have hs:=fun k=>F5 (x:=u) (ps:=t.bI) (ds:=ds) ⟨0,0,0,0,0,0,0⟩ (fun dd h=>(Yu dd h).same XR (by rw[Vk])) (fun p hp=>(hf.8 p hp).1) k;refine nI t.bI.length (fun n ρ H=>Lk (fun o3 o7 o8 o9 _=>ρ=[some (.ref 17),some (.aM (.int 14::FU ds)),some e.v,o3,some (.int slot),some (.ref (z.frames.length+22)),some (.ref (z.frames.length+23)),o7,o8,o9]) (fun _ _ _ _ g=>H=(aW u (t.bI.take n)).hp B (.dict (dv t.bI) (some ep)::g))) ?_ ?_ ?_
  ·exact⟨_,_,_,_,_,rfl,rfl⟩
  ·intro ρ H j
   obtain⟨o3,o7,o8,o9,g,e1,e2⟩:=j;rw[e1,e2];have vN:(aW u (t.bI.take t.bI.length)).frames.length=z.frames.length:=(hs _).1.1.trans XR.1;refine⟨Pu (uW vN) (Nat.le_of_eq (List.length_map _)),JU ?_⟩;rw[List.take_length];exact q _
  ·intro n ρ H hl j go gV
   obtain⟨o3,o7,o8,o9,g,e1,e2⟩:=j;rw[e1,e2];have Vj:=hs n;have vN:(aW u (t.bI.take n)).frames.length=z.frames.length:=Vj.1.1.trans XR.1;have hp:=List.getElem?_eq_getElem hl;obtain⟨⟨dd,RG,q1⟩,⟨l,q2,GI⟩,Iz⟩:=hf.8 _ (List.getElem_mem hl);have KV:t.bI[n]=((dd:Int),(l:Int)):=Prod.ext q1 q2;rw[KV] at hp Iz;have Y7:(t.bI.take n).length<=10:=Nat.le_trans (List.length_take_le' ..) (Nat.le_trans (Nat.le_trans hf.7 (Nat.le_of_eq (Nat.zero_add _))) hn);exact⟨_,S7 (uW vN) (i:=(dd:Int)) (by unfold dv;rw[List.map_map,List.getElem?_map,hp];rfl),H7 (l:=l) vN Iz (((Yu dd RG).same XR (by rw[Vk])).same Vj.1 (by rw[Vj.4])) (by rw[Vj.5,Ei];exact GI) (Nat.lt_of_le_of_lt Vj.3 (Nat.lt_trans (Nat.add_lt_add_of_lt_of_le kI (Nat.mul_le_mul_left 3 Y7)) (by decide))) fun p7 p8 p9=>gV _ _ ⟨_,_,_,_,_,rfl,by rw[lO hp,nN]⟩⟩
 ·intro n ρ H hl j go gV
  obtain⟨o3,o7,o8,o9,ep,g,e1,e2⟩:=j;rw[e1,e2];have hp:=List.getElem?_eq_getElem hl;have hf:=CO n;exact⟨_,S8 (v:=.int (ds[n]:Nat)) (by unfold FU;rw[List.getElem?_map,hp];rfl) rfl,K2 hf.1.1 ((Yu _ (List.getElem_mem hl)).same hf.1 (by rw[hf.4])) (Nat.lt_trans (Ww n).1 (by decide)) (Ww n).2 (Ww n).3 fun p7 p8 p9 R9 g'=>gV _ _ ⟨_,_,_,_,R9,g',rfl,by rw[lO hp,TS.DR]⟩⟩
end
mutual
noncomputable def HW(p:Nat->Bool):V->Bool
 | .ref a=>p a
 | .aM xs=>Kg p xs
 | _=>true
noncomputable def Kg(p:Nat->Bool):List V->Bool
 | []=>true
 | x::xs=>HW p x&&Kg p xs
end
noncomputable def TB(p:Nat->Bool):List (Nat×V)->Bool
 | []=>true
 | e::r=>HW p e.2&&TB p r
noncomputable def HV(p:Nat->Bool):aY->Bool
 | .list xs=>Kg p xs
 | .dict _ _=>false
 | .inst _ fs=>TB p fs
noncomputable def TM(a:Nat):Bool:=Nat.blt a 22 && !(Nat.beq a 20)
section
variable{g:Nat->Nat}{p:Nat->Bool}
theorem Rv{a b:Bool}(h:(a&&b)=true):a=true/\b=true:=by
 cases a with
 | false=>exact Bool.noConfusion (show false=true from h)
 | true=>exact⟨rfl,h⟩
mutual
theorem EJ(hg: ∀ a,p a=true->g a=a): ∀ (v:V),HW p v=true->pQ g v=v
 | .none,_=>rfl
 | .bool _,_=>rfl
 | .int _,_=>rfl
 | .str _,_=>rfl
 | .aM xs,h=>congrArg V.aM (BP hg xs h)
 | .ref a,h=>congrArg V.ref (hg a h)
 | .g _,_=>rfl
 | .mD _ _,_=>rfl
theorem BP(hg: ∀ a,p a=true->g a=a): ∀ (xs:List V),Kg p xs=true->kH g xs=xs
 | [],_=>rfl
 | x::xs,h=>by
  obtain⟨h1,h2⟩:=Rv h;show pQ g x::kH g xs=_;rw[EJ hg x h1,BP hg xs h2]
end
theorem FY(hg: ∀ a,p a=true->g a=a): ∀ (fs:List (Nat×V)),TB p fs=true->(fs.map fun e=>(e.1,pQ g e.2))=fs
 | [],_=>rfl
 | e::r,h=>by
  obtain⟨h1,h2⟩:=Rv h;rw[List.map_cons,EJ hg _ h1,FY hg r h2]
theorem eR(hg: ∀ a,p a=true->g a=a){o:aY}(h:HV p o=true):mQ g o=o:=by
 cases o with
 | list xs=>exact congrArg aY.list (BP hg xs h)
 | dict es ep=>exact Bool.noConfusion (show false=true from h)
 | inst c fs=>exact congrArg (aY.inst c) (FY hg fs h)
theorem dX{α:Type}{f:α->V}(h: ∀ x,HW p (f x)=true): ∀ (xs:List α),Kg p (xs.map f)=true
 | []=>rfl
 | x::xs=>by
  show (HW p (f x)&&Kg p (xs.map f))=true;rw[h x,dX h xs];rfl
theorem TC(e:bL):HW p e.v=true:=by cases e<;>rfl
theorem uF(r:dZ):HW p r.v=true:=by
 show (true&&(true&&(HW p r.b.v&&(true&&true))))=true;have:HW p r.b.v=true:=by
  cases r.b with
  | i n=>rfl
  | t l=>exact dX (f:=V.int) (fun _=>rfl) l
 rw[this];rfl
theorem EK(i:aR):HW p i.v=true:=by
 cases i with
 | table ds=>exact dX (f:=fun k:Nat=>V.int k) (fun _=>rfl) ds
 | _=>rfl
theorem NS(o:Option Int):HW p (oV o)=true:=by cases o<;>rfl
theorem WA(f:Fr):HV p f.o=true:=by
 show (true&&(true&&(true&&(true&&(HW p (oV f.eU)&&(HW p (oV f.begL)&&(HW p (oV f.elseL)&&(true&&true))))))))=true;rw[NS,NS,NS];rfl
theorem Ip(hg: ∀ a,p a=true->g a=a): ∀ (fs:List Fr),(fs.map Fr.o).map (mQ g)=fs.map Fr.o
 | []=>rfl
 | f::fs=>by
  rw[List.map_cons,List.map_cons,eR hg (WA f),Ip hg fs]
end
structure qQ(B:List V)(x:CS)(H:Hp):Prop where
 ex: ∃ f,(∀ a,TM a=true->f[a]? = some a)/\Ch f (x.hp B []) H
section
variable{x:CS}{B:List V}{S0:List V}{r:Hp}{l:Nat}
theorem B5{g:Nat->Nat}: ∀ (xs:List Nat),(∀ k∈xs,g (k+22)=k+22)->kH g (xs.map fun k=>V.ref (k+22))=xs.map fun k=>V.ref (k+22)
 | [],_=>rfl
 | k::xs,h=>by
  show V.ref (g (k+22))::kH g (xs.map _)=_;rw[h k List.mem_cons_self,B5 xs fun j hj=>h j (List.mem_cons_of_mem _ hj)];rfl
theorem Pd{g:Nat->Nat}{Bi:List aR}(hg: ∀ a,TM a=true->g a=a)(Ye:g 20=l)(hf: ∀ k,k<x.frames.length->g (k+22)=k+22):
  (x.hp (Bi.map aR.v) []).map (mQ g)=x.sU (Bi.map aR.v) l (x.stack.map bL.v) []:=by
 unfold CS.hp CS.sU uS;have hk:mQ g (.list gG)= .list gG:=eR hg rfl;simp only[List.map_cons,List.append_nil,hk,Ip hg];rw[eR hg (o:=V0) rfl,eR hg (o:=Vp) rfl,eR hg (o:=YT) rfl,eR hg (o:=.list (Bi.map aR.v)) (dX EK _),eR hg (o:=.list (x.rows.map dZ.v)) (dX uF _),eR hg (o:=.list (x.stack.map bL.v)) (dX TC _),eR hg (o:=.list (x.labels.map .int)) (dX (fun _=>rfl) _)];rw[eR hg (o:=.list [.ref 11]) rfl,eR hg (o:=.list [.ref 12]) rfl,eR hg (o:=.list []) rfl,eR hg (o:=.list [.int 5]) rfl,eR hg (o:=.list [.ref 3,.ref 4,.ref 5,.ref 6]) rfl];have h1:mQ g x.obj=x.S9 l:=by
  show aY.inst 10 [(15,.ref (g 0)),(16,.ref (g 12)),(19,.int 4),(8,.int 2),(4,.ref (g 18)),(21,.ref (g 19)),(22,.int x.fence),(23,.ref (g 20)),(24,.int x.most),(25,.ref (g 21)),(26,.bool x.live),(27,.int x.skipped)]=_;rw[Ye,hg 0 rfl,hg 12 rfl,hg 18 rfl,hg 19 rfl,hg 21 rfl];rfl
 have h2:mQ g (.list ((List.range x.frames.length).map fun k=>.ref (k+22)))= .list ((List.range x.frames.length).map fun k=>.ref (k+22)):=congrArg aY.list (B5 _ fun k hk=>hf k (List.mem_range.mp hk));rw[h1,h2]
theorem zV:(x.sU B l S0 r).length=x.frames.length+r.length+22:=by
 show (x.frames.map Fr.o++r).length+22=_;rw[List.length_append,List.length_map]
theorem KU{S1:List V}: x.sU B l S0 r=(x.sU B l S1 []).set 20 (.list S0)++r:=by
 show x.sU B l S0 r=uS B (_::_::_::_::_::_::_::_::(x.frames.map Fr.o++[]))++r;rw[List.append_nil];rfl
theorem xS{n l i j:Nat}(h:((List.range n).set 20 l)[i]? = some j)(hn:20<n):(i=20/\j=l)\/(i≠20/\i<n/\j=i):=by
 by_cases hi:20=i
 ·rw[<- hi,List.getElem?_set_self (by rw[List.length_range];exact hn)] at h
  exact .inl ⟨hi.symm,(Option.some.inj h).symm⟩
 ·rw[List.getElem?_set_ne hi] at h
  have eA:=bD h;rw[List.length_range] at eA;rw[List.getElem?_range eA] at h;exact .inr ⟨Ne.symm hi,eA,(Option.some.inj h).symm⟩
theorem zR{n l:Nat}(hn:20<n)(hl:l=20\/n<=l):((List.range n).set 20 l).Nodup:=by
 refine List.pairwise_iff_getElem.mpr fun i j hi hj GH=> ?_;have h1:=xS (List.getElem?_eq_getElem hi) hn;have h2:=xS (List.getElem?_eq_getElem hj) hn;generalize ((List.range n).set 20 l)[i]=a at *;generalize ((List.range n).set 20 l)[j]=b at *;lia
theorem Ea{Bi:List aR}(hl:l=20\/x.frames.length+22<=l)(h:(x.sU (Bi.map aR.v) l S0 r)[l]? = some (.list (x.stack.map bL.v))):qQ (Bi.map aR.v) x (x.sU (Bi.map aR.v) l S0 r):=by
 have hn:20<x.frames.length+22:=Nat.lt_of_lt_of_le (by decide:20<22) (Nat.le_add_left ..);have dp: ∀ i,i<x.frames.length+22->i≠20->((List.range (x.frames.length+22)).set 20 l)[i]? = some i:=fun i hi Ye=>by
  rw[List.getElem?_set_ne (Ne.symm Ye),List.getElem?_range hi]
 have li:((List.range (x.frames.length+22)).set 20 l)[20]? = some l:=List.getElem?_set_self (by rw[List.length_range];exact hn);have ll: ∀ i,i<22->i<x.frames.length+22:=fun i hi=>Nat.lt_of_lt_of_le hi (Nat.le_add_left ..);have bE:(x.sU (Bi.map aR.v) l S0 r).length=x.frames.length+r.length+22:=zV;have dq: ∀ a,TM a=true->((List.range (x.frames.length+22)).set 20 l)[a]? = some a:=fun a ha=>by
  obtain⟨h1,h2⟩:=Rv ha;exact dp a (ll a (Nat.le_of_ble_eq_true h1:a<22)) (fun q=>by rw[q] at h2;exact Bool.noConfusion h2)
 refine⟨(List.range (x.frames.length+22)).set 20 l,dq,?_,zR hn hl,fun i j GH=> ?_⟩
 ·rw[kM,List.length_set,List.length_range];rfl
 have ZI:=Pd (x:=x) (l:=l) (Bi:=Bi) (g:=fN ((List.range (x.frames.length+22)).set 20 l) (x.sU (Bi.map aR.v) l S0 r).length)
  (fun a ha=>by unfold fN;rw[dq a ha])
  (by unfold fN;rw[li])
  (fun k hk=>by unfold fN;rw[dp (k+22) (Nat.add_lt_add_right hk 22) (fun q=>by lia)])
 have hL: ∀ i,((x.hp (Bi.map aR.v) [])[i]?).map (mQ (fN ((List.range (x.frames.length+22)).set 20 l) (x.sU (Bi.map aR.v) l S0 r).length))=(x.sU (Bi.map aR.v) l (x.stack.map bL.v) [])[i]?:=fun i=>by rw[<- List.getElem?_map,ZI]
 rw[hL];rcases xS GH hn with⟨h1,h2⟩|⟨h1,h2,h3⟩
 ·rw[h1,h2]
  exact⟨bD h,h⟩
 ·rw[h3]
  refine⟨by rw[bE];exact Nat.lt_of_lt_of_le h2 (Nat.add_le_add_right (Nat.le_add_right ..) 22),?_⟩;rw[KU (S1:=x.stack.map bL.v),List.getElem?_append_left (by rw[List.length_set,zV];exact h2),List.getElem?_set_ne (Ne.symm h1)]
theorem Bp{Bi:List aR}: qQ (Bi.map aR.v) x (x.hp (Bi.map aR.v) r):=Ea (l:=20) (.inl rfl) rfl
end
theorem vJ{f:List Nat}{n k j:Nat}(h:f[k]? = some j):fN f n k=j:=by unfold fN;rw[h]
theorem Ah{f:List Nat}{n k:Nat}(h:f.length<=k):fN f n k=n+(k - f.length):=by unfold fN;rw[List.getElem?_eq_none h]
mutual
theorem yC{f g k:Nat->Nat}(h: ∀ i,f (g i)=k i): ∀ (v:V),pQ f (pQ g v)=pQ k v
 | .none=>rfl
 | .bool _=>rfl
 | .int _=>rfl
 | .str _=>rfl
 | .aM xs=>congrArg V.aM (rW h xs)
 | .ref a=>congrArg V.ref (h a)
 | .g _=>rfl
 | .mD _ _=>rfl
theorem rW{f g k:Nat->Nat}(h: ∀ i,f (g i)=k i): ∀ (xs:List V),kH f (kH g xs)=kH k xs
 | []=>rfl
 | x::xs=>by
  show pQ f (pQ g x)::kH f (kH g xs)=_;rw[yC h x,rW h xs];rfl
end
theorem Kh{f g k:Nat->Nat}(h: ∀ i,f (g i)=k i)(o:aY):mQ f (mQ g o)=mQ k o:=by
 cases o with
 | list xs=>exact congrArg aY.list (rW h xs)
 | dict es ep=>
  refine congrArg (fun l=>aY.dict l ep) ((List.map_map ..).trans (congrArg (fun q=>es.map q) (funext fun e=> ?_)));exact congrArg (fun v=>(e.1,v)) (yC h e.2)
 | inst c fs=>
  refine congrArg (aY.inst c) ((List.map_map ..).trans (congrArg (fun q=>fs.map q) (funext fun e=> ?_)));exact congrArg (fun v=>(e.1,v)) (yC h e.2)
theorem El.pos{f:List Nat}{L H L' h':Hp}(b:El f H L' h')(s:Ch f L H){j:Nat}(hj:j<L'.length):fN f H.length j<h'.length/\h'[fN f H.length j]? = (L'[j]?).map (mQ (fN f H.length)):=by
 by_cases hf:j<f.length
 ·have e:=List.getElem?_eq_getElem hf
  rw[vJ e,b.len];exact⟨Nat.lt_of_lt_of_le (s.oK _ _ e).1 (Nat.le_add_right ..),b.oK _ _ e⟩
 ·have hf:=Nat.le_of_not_lt hf
  rw[Ah hf,b.len];refine⟨Nat.add_lt_add_left (Nat.sub_lt_sub_right hf hj) _,?_⟩;rw[b.new,Nat.add_sub_cancel' hf]
theorem Ch.J1{f g:List Nat}{L H L' h' M:Hp}(s:Ch f L H)(b:El f H L' h')(t:Ch g M L')(hl:f.length<=L'.length):Ch (g.map (fN f H.length)) M h':=by
 have inj: ∀ i j,i<L'.length->j<L'.length->fN f H.length i=fN f H.length j->i=j:=fun i j hi hj e=>by
  by_cases h1:i<f.length
  ·have e1:=List.getElem?_eq_getElem h1
   rw[vJ e1] at e;by_cases h2:j<f.length
   ·have e2:=List.getElem?_eq_getElem h2
    rw[vJ e2] at e;exact (List.getElem?_inj h1 s.nd).mp (e1.trans ((congrArg some e).trans e2.symm))
   ·rw[Ah (Nat.le_of_not_lt h2)] at e
    have:=(s.oK _ _ e1).1;lia
  ·rw[Ah (Nat.le_of_not_lt h1)] at e
   by_cases h2:j<f.length
   ·have e2:=List.getElem?_eq_getElem h2
    rw[vJ e2] at e;have:=(s.oK _ _ e2).1;lia
   ·rw[Ah (Nat.le_of_not_lt h2)] at e
    exact n8 e h1 h2
 refine⟨t.len.trans (List.length_map _).symm,?_,fun i J e=> ?_⟩
 ·refine List.pairwise_iff_getElem.mpr fun i j hi hj GH q=> ?_
  rw[List.length_map] at hi hj;rw[List.getElem_map,List.getElem_map] at q;have e1:=List.getElem?_eq_getElem hi;have e2:=List.getElem?_eq_getElem hj;have:=inj _ _ (t.oK _ _ e1).1 (t.oK _ _ e2).1 q;exact Nat.lt_irrefl i (Nat.lt_of_lt_of_eq GH ((List.getElem?_inj hi t.nd).mp (e1.trans ((congrArg some this).trans e2.symm))).symm)
 ·rw[List.getElem?_map] at e
  obtain⟨j,e1,e2⟩:=Option.map_eq_some_iff.mp e;obtain⟨h1,h2⟩:=t.oK _ _ e1;obtain⟨h3,h4⟩:=b.pos s h1;rw[<- e2];refine⟨h3,h4.trans ?_⟩;rw[h2,Option.map_map];refine congrArg (fun q=>Option.map q M[i]?) (funext fun o=>Kh (fun k=> ?_) o);by_cases hk:k<g.length
  ·have e3:=List.getElem?_eq_getElem hk
   rw[vJ e3,vJ (f:=g.map (fN f H.length)) (j:=fN f H.length g[k]) (by rw[List.getElem?_map,e3];rfl)]
  ·have hk:=Nat.le_of_not_lt hk
   rw[Ah hk,Ah (f:=f) (Nat.le_trans hl (Nat.le_add_right ..)),Ah (f:=g.map (fN f H.length)) (by rw[List.length_map];exact hk),b.len,List.length_map,Nat.sub_add_comm hl,Nat.add_assoc]
theorem qQ.J1{B:List V}{x y:CS}{f:List Nat}{H L' h':Hp}(t:qQ B y L')(hf: ∀ a,TM a=true->f[a]? = some a)(s:Ch f (x.hp B []) H)(b:El f H L' h')(hl:(x.hp B []).length<=L'.length):qQ B y h':=by
 obtain⟨g,hg,t⟩:=t.ex;exact⟨g.map (fN f H.length),fun a ha=>by rw[List.getElem?_map,hg a ha];exact congrArg some (vJ (hf a ha)),s.J1 b t (s.len▸hl)⟩
noncomputable def DU:Option S->List S
 | some (.fU _ b _)=>b
 | _=>[]
section
variable{sc:List Int}{d:Nat}{x:CS}{B:List V}{r:Hp}{Q:PE}
theorem Zn{G:Cx}{H:Hp}{v:V}{xs:List V}{Q:V->Prop}(q:Q v):cJ (D8 G (.aM (v::xs)) 0 H) Q:=by
 refine .of (x:=v) ?_ q;show bO (fY 0 (xs.length+1)) _=_;rw[show fY 0 (xs.length+1)=some 0 from fQ (k:=0) (Nat.succ_pos _)];rfl
theorem JW{c:Int}{o v:V}{K:PS}{n:Int}(hn:(if (c==2||(c==3||(c==4||false)))=true then x.skipped+1 else if c=11 then x.skipped - 1 else x.skipped)=n)(k: ∀ ρ,K (.ret .none) ρ (CS.hp B { x with skipped:=n } r)):
  eI (cx sc) (Cl sc d) (DU kL[1]?) [some (.ref 17),some v,some (.int c),none] (x.hp B r) K:=by
 refine bQ (fun h=> ?_) fun h=>bQ (fun h2=> ?_) fun h2=> ?_
 ·rw[if_pos h] at hn
  rw[<- hn] at k;exact k _
 ·rw[if_neg (Bool.eq_false_iff.mp h),if_pos (beq_iff_eq.mp h2)] at hn
  rw[<- hn] at k;exact k _
 ·rw[if_neg (Bool.eq_false_iff.mp h),if_neg (fun q=>beq_eq_false_iff_ne.mp h2 q)] at hn
  rw[<- hn] at k;exact k _
theorem H8{i:aR}(gV:x.qC i=false->eI (cx sc) (Cl sc d) (kL.drop 2) [some (.ref 17),some i.v,some (.int i.code),none] (x.hp B r) fun fl _ h1=>Q (eG fl) h1)(gx:x.qC i=true->Q .none ((x.skip i).hp B r)):Wf sc (d+1) 51 [.ref 17,i.v] (x.hp B r) Q:=by
 refine enter rfl rfl (Zn ?_);obtain⟨rows,labels,fence,stack,most,frames,live,skipped⟩:=x;cases live with
 | true=>exact gV rfl
 | false=>
  refine bQ (fun h=> ?_) fun h=> ?_
  ·exact rF h (JW (x:=⟨rows,labels,fence,stack,most,frames,false,skipped⟩) (o:=.none) rfl fun _=>gx (by unfold CS.qC;exact congrArg (fun b=>true&&b||_) h))
  ·have h':decide (skipped>0)=false:=h
   refine bQ (fun h2=> ?_) fun h2=> ?_
   ·exact (JW (x:=⟨rows,labels,fence,stack,most,frames,false,skipped⟩) (o:=.none) rfl fun _=>gx (by
     show (true&&decide (skipped>0)||true && !(i.code==5||(i.code==11||false)))=true;rw[h'];exact h2))
   ·exact gV (by
     show (true&&decide (skipped>0)||true && !(i.code==5||(i.code==11||false)))=false;rw[h'];exact h2)
end
section
variable{x:CS}
theorem G3{op:Int}{e1 e2:bL}: (x.lP op e1 e2).frames=x.frames:=by
 unfold CS.lP;split
 ·rfl
 ·exact CS.gO.2
theorem CN{e:bL}: (x.cG e).frames=x.frames:=by
 unfold CS.cG;cases e with
 | num n=>
  unfold CS.xV CS.lH;dsimp only
  repeat' (first|rfl|split)
  exact CS.Hh
 | pl s=>
  show ((x.aI 3).bX 3).frames=_;rw[CS.lV,CS.bM]
theorem Am: ∀ {ps:List (Int×Int)} {x:CS},(aW x ps).frames.length=x.frames.length
 | [],x=>rfl
 | p::r,x=>(Am (x:=bW x p)).trans (yZ (x:=x) (p:=p) ⟨0,0,0,0,0,0,0⟩).1.1
theorem Al: ∀ {ds:List Nat} {t:TS},(t.cM ds).x.frames.length=t.x.frames.length
 | [],t=>rfl
 | p::r,t=>(Al (t:=t.step p)).trans (TS.Ee (t:=t) (dd:=p) (a:=⟨0,0,0,0,0,0,0⟩)).1.1
theorem wY{code:Int}{n r adr:Nat}: x.frames.length<=(x.aL code n r adr).frames.length:=by
 unfold CS.aL CS.pF;split
 ·show _<=((x.aI x.stack.length).frames++[_]).length
  rw[List.length_append,CS.bM];exact Nat.le_add_right ..
 ·show _<=((x.aI x.stack.length).frames++[_]).length
  rw[List.length_append,CS.bM];exact Nat.le_add_right ..
theorem KE{k:Nat}{f:Fr}{many:Nat}{dP op n c:Int}: (x.oM k f many dP op n c).frames.length=x.frames.length:=by
 unfold CS.oM;dsimp only;split
 ·exact (congrArg List.length CS.gE.2).trans CS.cS.3
 ·exact ((congrArg List.length CS.cT.2).trans (congrArg List.length CS.gE.2)).trans CS.cS.3
theorem PJ{op i c:Int}{n r adr:Nat}: x.frames.length<=(x.xG op i c n r adr).frames.length:=by
 unfold CS.xG;rw[CS.gE.2];show _<=((x.aL 4 n r adr).frames.set _ _).length;rw[List.length_set];exact wY
theorem wX{k:Nat}{f:Fr}{le:Int}{el hp:Nat}: (x.iS k f le el hp).frames.length=x.frames.length:=by
 unfold CS.iS CS.lW;show ((CS.aG _ _).frames.set _ _).length=_;rw[List.length_set];show (CS.frames (if x.live then _ else x)).length=_;split
 ·show ((x.aI x.stack.length).frames.set _ _).length=_
  rw[List.length_set,CS.bM]
 ·rfl
theorem oU{f:Fr}{fe hp:Nat}: (x.mW f fe hp).frames=x.frames.dropLast/\(x.mW f fe hp).stack=CS.dC hp:=by
 have h: ∀ y:CS,y.jL.frames=y.frames/\y.jL.stack=y.stack:=fun y=>by
  unfold CS.jL;split<;>exact⟨rfl,rfl⟩
 unfold CS.mW;refine⟨(h _).1.trans ?_,(h _).2⟩;show (CS.gZ _ _ _).frames=_;have h3:x.eX.gK.frames=x.frames.dropLast:=by
  unfold CS.gK;split
  ·rw[CS.bM];rfl
  ·rfl
 have h2:(x.eX.gK.oQ f.elseL).frames=x.frames.dropLast:=by
  cases f.elseL<;>exact h3
 unfold CS.gZ;split<;>exact h2
theorem Arg.M7: ∀ {b:Arg},b.Sp->b= .i b.n
 | .i _,_=>rfl
theorem Nj:x.pop.stack.length=x.stack.length - 1:=List.length_dropLast ..
theorem E3{dd:Nat}(ok:fW x dd):A6 (x.frames[bB x dd]? = some (x.An dd)) (bB x dd+dd+1=x.frames.length) ((x.An dd).many=((x.An dd).many.toNat:Nat)) ((x.An dd).dP=some ((x.An dd).dP.getD 0)) ((x.An dd).many.toNat<=x.stack.length) ((x.An dd).many.toNat<=2):=by
 have eA:=ok.lt;have hk:=List.getElem?_eq_getElem (l:=x.frames) (i:=bB x dd) (n1 eA);obtain⟨⟨dP,hl⟩,m0,m1,m2⟩:=ok.oK _ hk;have hD:x.An dd=x.frames[bB x dd]'(n1 eA):=by unfold CS.An;rw[hk];rfl
 rw[hD];exact⟨hk,n2 eA,(Int.toNat_of_nonneg m0).symm,by rw[hl];rfl,m1,Int.toNat_le.mpr m2⟩
theorem C2(h:1<=x.frames.length):x.frames[x.frames.length - 1]? = some x.aF:=by
 obtain⟨f,hf⟩:=eL (l:=x.frames) h;unfold CS.aF;rw[hf,<- List.getLast?_eq_getElem?,hf];rfl
theorem D1{e:bL}{ds:List Nat}: (x.mU e ds).frames.length=x.frames.length:=by
 unfold CS.mU;show (aW _ _).frames.length=_;rw[Am];show (TS.cM _ ds).x.frames.length=_;rw[Al];exact congrArg List.length CS.gO.2
theorem SI{α:Type}{a r:List α}{o p:α}{k:Nat}(h:a.length=k):(a++o::p::r)[k+1]? = some p:=by
 rw[List.getElem?_append_right (by rw[h];exact Nat.le_succ _),h,Nat.add_sub_cancel_left];rfl
end
section
variable{sc:List Int}{d:Nat}{x:CS}{Q:PE}{Bi:List aR}
theorem Te{i:aR}(hc:x.Op i)(q: ∀ H',qQ (Bi.map aR.v) (x.take i 0) H'->(x.hp (Bi.map aR.v) []).length<=H'.length->Q .none H'):Wf sc (d+8) 51 [.ref 17,i.v] (x.hp (Bi.map aR.v) []) Q:=by
 obtain⟨hz,xD,CJ⟩:=hc;have vP:x.size<90000:=CS.JY hz (Nat.le_refl _);unfold CS.take at q;refine H8 (fun hs=> ?_) fun hs=> ?_
 rotate_left
 ·rw[if_pos hs] at q
  exact q _ Bp (Nat.le_refl _)
 rw[if_neg (Bool.eq_false_iff.mp hs)] at q;have CJ:=CJ hs;clear hs;have cV:x.frames.length<=(x.Cq i 0).frames.length->∀ r',Q .none ((x.Cq i 0).hp (Bi.map aR.v) r'):=fun h r'=>q _ Bp (by rw[kM,kM];exact Nat.add_le_add_right (Nat.le_trans h (Nat.le_add_right ..)) 22);cases i with
 | const n=>exact Hm (Nat.lt_trans vP (by decide)) n (cV (Nat.le_refl _) _)
 | get n=>exact Ht (Nat.lt_trans vP (by decide)) n (cV (Nat.le_refl _) _)
 | set n=>exact Hu (fO CJ) (Nat.lt_trans hz (by decide)) n xD (cV (Nat.le_of_eq (congrArg List.length (CS.cZ (x:=x.pop)).2.symm)) _)
 | LF n=>exact Hv (fO CJ) (Nat.lt_trans hz (by decide)) n xD (cV (Nat.le_of_eq (congrArg List.length (CS.cZ (x:=x.pop)).2.symm)) _)
 | drop=>exact TV (fO CJ) (cV (Nat.le_refl _) _)
 | cG=>
  have h3:3<=x.stack.length:=CJ;exact Ny (fO (Nat.le_trans (by decide) h3)) (fO (x:=x.pop) (by rw[Nj];lia)) h3 (Nat.lt_trans vP (by decide)) (cV (Nat.le_of_eq (congrArg List.length CN.symm)) _)
 | br dd=>
  obtain⟨h1,h2,h3,h4,h5,h6⟩:=E3 CJ;exact bh h1 h2 h3 h4 h5 (Nat.lt_of_lt_of_le (Nat.add_lt_add_of_lt_of_le vP h6) (by decide)) (cV (Nat.le_of_eq (((congrArg List.length CS.cT.2).trans CS.cS.3).symm)) _)
 | oM dd=>
  obtain⟨hl,ok,hI⟩:=CJ;obtain⟨h1,h2,h3,h4,h5,h6⟩:=E3 ok;have SQ:(x.pop.aE x.dB).1.frames=x.frames:=CS.eT.2;have Yz:(x.pop.aE x.dB).1.An dd=x.pop.An dd:=by
   unfold CS.An bB;rw[SQ];rfl
  have Of:bB (x.pop.aE x.dB).1 dd=bB x.pop dd:=by unfold bB;rw[SQ];rfl
  have cV:x.frames.length<=((x.pop.aE x.dB).1.oN dd (x.pop.aE x.dB).2).frames.length->∀ r',Q .none (((x.pop.aE x.dB).1.oN dd (x.pop.aE x.dB).2).hp (Bi.map aR.v) r'):=cV;unfold CS.oN at cV;rw[Yz,Of] at cV;exact TT (fO hl) xD (by rw[<- Arg.M7 hI]) h1 h2 h3 h4 h5 (Nat.lt_of_lt_of_le (Nat.add_lt_add_of_lt_of_le vP h6) (by decide)) (cV (Nat.le_of_eq ((KE.trans (congrArg List.length SQ)).symm)))
 | table ds=>
  obtain⟨hl,ok,hn⟩:=CJ;exact Ku (fO hl) ok hn (Nat.lt_trans vP (by decide)) (cV (Nat.le_of_eq (D1 (x:=x.pop)).symm))
 | ret=>
  obtain⟨h2,hf⟩:=CJ;have hk:x.frames[0]? = some (x.frames[0]?.getD CS.SD):=by
   rw[List.getElem?_eq_getElem hf];rfl
  exact Nw hk h2 (Nat.lt_trans vP (by decide)) (cV (Nat.le_of_eq (congrArg List.length CS.cT.2.symm)) _)
 | jX=>exact CY (Nat.lt_trans vP (by decide)) (cV (Nat.le_refl _) _)
 | LZ=>exact Kz (cV (Nat.le_refl _) _)
 | lP op=>
  obtain⟨hl,kC⟩:=CJ;have go:=WQ (sc:=sc) (d:=d+4) (r:=[]) (B:=Bi.map aR.v) (Q:=fun _ h=>Q .none h) (fO (x:=x) (Nat.le_trans (by decide) hl)) (fO (x:=x.pop) (by rw[Nj];lia)) (Nat.lt_trans vP (by decide)) op (cV (Nat.le_of_eq (congrArg List.length (G3 (x:=x.pop.pop) (op:=op) (e1:=x.pop.dB) (e2:=x.dB)).symm)) _);clear q cV hl hz vP xD;simp only[pP,List.mem_cons,List.not_mem_nil,or_false] at kC;rcases kC with rfl|rfl|rfl|rfl|rfl|rfl|rfl<;>exact enter rfl rfl go
 | zM=>
  exact enter rfl rfl (WP (fO CJ) (Nat.lt_trans vP (by decide)) 69 (cV (Nat.le_of_eq (congrArg List.length (CS.gO (x:=x.pop) (e:=x.dB) (h:=x.pop.stack.length)).2.symm)) _))
 | call=>exact TU CJ (Nat.lt_trans vP (by decide)) (cV (Nat.le_of_eq (congrArg List.length ((CS.nA.2.1.trans (by show ((x.aI 2).bX 2).frames=_;rw[CS.lV,CS.bM])).symm))))
 | block m=>
  obtain⟨p,hp⟩:=Option.isSome_iff_exists.mp CJ;have KS:CS.io m=p:=by unfold CS.io;rw[hp];rfl
  have cV:x.frames.length<=(x.aL 2 (CS.io m).1 (CS.io m).2 0).frames.length->∀ r',Q .none ((x.aL 2 (CS.io m).1 (CS.io m).2 0).hp (Bi.map aR.v) r'):=cV;rw[KS] at cV;exact JT hp (Nat.lt_trans hz (by decide)) (cV wY _)
 | kO m=>
  obtain⟨p,hp⟩:=Option.isSome_iff_exists.mp CJ;have KS:CS.io m=p:=by unfold CS.io;rw[hp];rfl
  have cV:x.frames.length<=(x.aL 3 (CS.io m).1 (CS.io m).2 0).frames.length->∀ r',Q .none ((x.aL 3 (CS.io m).1 (CS.io m).2 0).hp (Bi.map aR.v) r'):=cV;rw[KS] at cV;exact JT hp (Nat.lt_trans hz (by decide)) (cV wY _)
 | iff m=>
  obtain⟨hl,hm,hI⟩:=CJ;obtain⟨p,hp⟩:=Option.isSome_iff_exists.mp hm;have KS:CS.io m=p:=by unfold CS.io;rw[hp];rfl
  have SQ:(x.pop.aE x.dB).1.frames=x.frames:=CS.eT.2;have cV:x.frames.length<=((x.pop.aE x.dB).1.Ax (x.pop.aE x.dB).2 (CS.io m) 0).frames.length->∀ r',Q .none (((x.pop.aE x.dB).1.Ax (x.pop.aE x.dB).2 (CS.io m) 0).hp (Bi.map aR.v) r'):=cV;unfold CS.Ax at cV;rw[KS] at cV;exact bj (fO hl) xD (by rw[<- Arg.M7 hI]) hp (Nat.lt_trans hz (by decide)) (cV (Nat.le_trans (Nat.le_of_eq (congrArg List.length SQ.symm)) PJ) _)
 | nO=>
  obtain⟨h1,h2,⟨el,h3,h4⟩,h5,h6⟩:=CJ;obtain⟨le,Iw⟩:=Option.isSome_iff_exists.mp h2;have rE:=C2 h1;have he:x.oP x.aF=x.iS (x.frames.length - 1) x.aF le el (x.aF.aC+x.aF.params).toNat:=by
   unfold CS.oP;rw[Iw,h3];rfl
  have q: ∀ H',qQ (Bi.map aR.v) (x.oP x.aF) H'->(x.hp (Bi.map aR.v) []).length<=H'.length->Q .none H':=q;rw[he] at q;refine TW rE (Nat.succ_pred_eq_of_pos h1).symm Iw h3 h4 (Int.toNat_of_nonneg h5).symm ((Int.toNat_lt h5).mpr h6) (Nat.lt_trans hz (by decide)) fun S0=>q _ (Ea (.inr ?_) (FG ?_)) ?_
  ·rw[wX,kM];exact Nat.le_refl _
  ·rw[wX,kM]
  ·rw[kM,zV,wX];exact Nat.add_le_add_right (Nat.add_le_add_left (Nat.zero_le _) _) 22
 | cV=>
  obtain⟨h1,⟨fe,h2,h3⟩,h4,h5,h6⟩:=CJ;have he:x.oR x.aF=x.mW x.aF fe (x.aF.aC+x.aF.aU).toNat:=by
   unfold CS.oR;rw[h2];rfl
  have q: ∀ H',qQ (Bi.map aR.v) (x.oR x.aF) H'->(x.hp (Bi.map aR.v) []).length<=H'.length->Q .none H':=q;rw[he] at q;refine WO (k:=x.frames.length - 1) (C2 h1) (Nat.succ_pred_eq_of_pos h1).symm (Nat.lt_trans hz (by decide)) (Int.toNat_of_nonneg h5).symm ((Int.toNat_lt h5).mpr h6) h2 h3 h4 fun S0=>q _ (Ea (.inr ?_) ?_) ?_
  ·rw[oU.1,List.length_dropLast];exact Nat.add_le_add_right (Nat.le_add_right ..) 22
  ·rw[oU.2]
   exact SI (a:=(x.mW x.aF fe (x.aF.aC+x.aF.aU).toNat).frames.map Fr.o) (by rw[List.length_map,oU.1,List.length_dropLast])
  ·rw[kM,zV,oU.1,List.length_dropLast]
   exact Nat.add_le_add_right (show x.frames.length<=x.frames.length - 1+3 by lia) 22
end
theorem wP.jg{labels:List Int}{l:Int}(h:wP labels l): ∃ p:Nat,pZ labels l=p:=by
 obtain⟨_,p,hp⟩:=h;exact⟨p,by unfold pZ;rw[hp];rfl⟩
theorem oG.go{rows:List dZ}{labels:List Int}(ok:oG rows labels){r:dZ}(hr:r∈rows)(h:r.op=259):wP labels r.a:=by
 refine (ok r hr).1 r.a ?_;unfold dZ.zP;rw[h];exact List.mem_singleton.mpr rfl
set_option tactic.hygienic true in
theorem Jd{rows:List dZ}{labels:List Int}(ok:oG rows labels){p:Nat}: ∀ n,∃ q:Nat,Rd rows labels n p=q
 | 0=>⟨p,rfl⟩
 | n+1=>by
  obtain⟨q,hq⟩:=Jd ok (p:=p) n;show ∃ q:Nat,nD rows labels (Rd rows labels n p)=q;rw[hq];unfold nD;split
  ·rename_i r hr
   split
   ·rename_i kC
    exact (ok.go (List.mem_of_getElem? hr) kC).jg
   ·exact⟨q,rfl⟩
  ·exact⟨q,rfl⟩
noncomputable def hr(rows:List dZ)(labels:List Int)(r:Hp):Hp:=.list (rows.map dZ.v):: .list (labels.map .int)::r
section
variable{sc:List Int}{d:Nat}{Q:PE}{H r:Hp}{rows:List dZ}{labels:List Int}{op lb:Int}
theorem Aw{Q:V->Prop}(h:wP labels lb)(q:Q (.int (pZ labels lb))):cJ (Q2 (labels.map .int) lb) Q:=by
 obtain⟨h0,p,hp⟩:=h;rw[show pZ labels lb=p by unfold pZ;rw[hp];rfl] at q;rw[<- Int.toNat_of_nonneg h0];exact kN (fP (bD hp)) (dR hp) q
theorem Q0{b t:Bool}{P:Bool->Prop}(k:P (b&&t)):cR (!b) (P b) (P t):=by cases b<;>exact k
theorem No(q:Q (.bool (mA op)) H):Wf sc (d+1) 21 [.int op] H Q:=by
 unfold mA at q;refine enter rfl rfl (bQ (fun h=> ?_) fun h=>bQ (fun h1=>bQ (fun h2=> ?_) fun h2=> ?_) fun h1=> ?_)
 ·have h:D9 op [259,260,261]=true:=h
  show Q (.bool (D9 op [259,260,261])) H;rw[h] at q ⊢;exact q
 ·have h:D9 op [259,260,261]=false:=h
  have h2:decide (op<16384)=true:=h2;have h1:decide (4096<=op)=true:=h1;show Q (.bool (decide (op<16384))) H;rw[h,h1,h2] at q;rw[h2];exact q
 ·have h:D9 op [259,260,261]=false:=h
  have h2:decide (op<16384)=false:=h2;have h1:decide (4096<=op)=true:=h1;rw[h,h1,h2] at q;exact Q0 (P:=fun b=>Q (.bool b) H) q
 ·have h:D9 op [259,260,261]=false:=h
  have h1:decide (4096<=op)=false:=h1;rw[h,h1] at q;exact Q0 (P:=fun b=>Q (.bool b) H) q
theorem Bf(ok:oG rows labels)(h:wP labels lb)(q:Q (.int (pO rows labels lb)) (hr rows labels r)):Wf sc (d+1) 22 [.ref 0,.ref 1,.int lb] (hr rows labels r) Q:=by
 obtain⟨p,hp⟩:=h.jg;unfold pO at q;refine enter rfl rfl (Aw h ?_);rw[hp] at q ⊢;refine sE (n:=8) rfl (fun n ρ H=>dO (fun v=>ρ=[some (.ref 0),some (.ref 1),some (.int lb),some (.int (Rd rows labels n p)),v]) (fun _=>H=hr rows labels r)) ⟨_,rfl,rfl⟩ (fun ρ h j=> ?_) fun n ρ H hn j go gV=> ?_
 ·obtain⟨v,e1,e2⟩:=j
  rw[e1,e2];exact q
 ·obtain⟨v,e1,e2⟩:=j
  rw[e1,e2];obtain⟨m,hm⟩:=Jd ok (p:=p) n;have cV: ∀ i:Int,nD rows labels m=i->go [some (.ref 0),some (.ref 1),some (.int lb),some (.int i),some (.int (n:Nat))] (hr rows labels r):=fun i hi=>gV _ _ ⟨_,by rw[show Rd rows labels (n+1) p=i from (congrArg (nD rows labels) hm).trans hi],rfl⟩;unfold nD at cV;rw[Int.toNat_natCast] at cV;rw[hm];refine pU (fun h1=> ?_) fun h1=> ?_
  ·have h1: ¬ (m:Int)<((rows.map dZ.v).length:Int):=of_decide_eq_false h1
   exact cV _ (by rw[List.getElem?_eq_none (by rw[bK] at h1;lia)])
  ·have h1:(m:Int)<((rows.map dZ.v).length:Int):=of_decide_eq_true h1
   rw[bK] at h1;have hk:=List.getElem?_eq_getElem (Int.ofNat_lt.mp h1);rw[hk] at cV;refine kN (fP (Int.ofNat_lt.mp h1)) (dR hk) (bQ (fun h2=> ?_) fun h2=> ?_)
   ·have h2:rows[m].op=259:=beq_iff_eq.mp h2
    exact kN (fP (Int.ofNat_lt.mp h1)) (dR hk) (Aw (ok.go (List.getElem_mem _) h2) (cV _ (if_pos h2)))
   ·exact cV _ (if_neg (beq_eq_false_iff_ne.mp h2))
end
section
variable{H:Hp}
theorem Ih{α:Type}{turn:V->Hp->(Option V->Hp->Prop)->Prop}{it:V}{Q:PE}{xs:List α}{f:α->V}{g:α->Option V}(h1: ∀ k,qA it k H=some (xs.map f)[k]?)(hz:xs.length<most)
  (ht: ∀ x∈xs,∀ q,q (g x) H->turn (f x) H q) (k:Q (.ref H.length) (H++[.list (xs.filterMap g)])):gJ (rA turn it Q) (0,[],H):=by
 refine⟨xs.length,fun m s=>m+s.1=xs.length/\s.2.1=(xs.take s.1).filterMap g/\s.2.2=H,⟨rfl,rfl,rfl⟩,fun m s hs=> ?_⟩;obtain⟨j,acc,h⟩:=s;obtain⟨e1,e2,e3⟩:=hs;have e2:acc=(xs.take j).filterMap g:=e2;have e3:h=H:=e3;rw[e3];cases m with
 | zero=>
  have ej:j=xs.length:=(Nat.zero_add j).symm.trans e1;rw[ej,List.take_length] at e2;rw[e2];exact .of (x:=none) ((h1 j).trans (congrArg some (List.getElem?_eq_none (by rw[List.length_map,ej];exact Nat.le_refl _)))) k
 | succ m=>
  have hj:j<xs.length:=e1▸Nat.lt_add_of_pos_left (Nat.succ_pos m);have en:=(Nat.succ_add_eq_add_succ m j).symm.trans e1;have hx:=List.getElem?_eq_getElem hj;have er:(xs.take (j+1)).filterMap g=acc++(match g xs[j] with|some v=>[v]|none=>[]):=by
   rw[lO hx,List.filterMap_append,e2,List.filterMap_cons,List.filterMap_nil];cases g xs[j]<;>rfl
  refine .of ((h1 j).trans (congrArg some (dR hx))) (ht _ (List.getElem_mem hj) _ ?_);cases hg:g xs[j] with
  | none=>
   rw[hg] at er;exact⟨m,Nat.lt_succ_self m,en,(List.append_nil acc).symm.trans er.symm,rfl⟩
  | some v=>
   rw[hg] at er;refine⟨?_,m,Nat.lt_succ_self m,en,er.symm,rfl⟩;show acc.length<most;rw[e2];exact Nat.lt_of_le_of_lt (List.length_filterMap_le ..) (Nat.lt_of_le_of_lt (List.length_take_le' ..) hz)
theorem Aa{α:Type}{turn:V->Hp->(Option V->Hp->Prop)->Prop}{it:V}{Q:PE}{xs:List α}{f:α->V}(g:α->V)(h1: ∀ k,qA it k H=some (xs.map f)[k]?)(hz:xs.length<most)
  (ht: ∀ x∈xs,∀ q,q (some (g x)) H->turn (f x) H q) (k:Q (.ref H.length) (H++[.list (xs.map g)])):gJ (rA turn it Q) (0,[],H):=
 Ih (g:=fun x=>some (g x)) h1 hz ht (by rw[show xs.filterMap (fun x=>some (g x))=xs.map g from congrFun List.filterMap_eq_map xs];exact k)
end
theorem Arg.Sr: ∀ {b:Arg},b.UJ->b= .t b.l
 | .t _,_=>rfl
section
variable{sc:List Int}{d:Nat}{Q:PE}{r:Hp}{rows:List dZ}{labels:List Int}
theorem H0(ok:oG rows labels)(hz:rows.length<99999)(q: ∀ g,Q (.ref 2) (hr rows labels (.list ((iY rows labels).map dZ.v)::g))):Wf sc (d+2) 23 [.ref 0,.ref 1] (hr rows labels []) Q:=by
 refine enter rfl rfl (nI rows.length (fun n ρ H=>∃ o3 o4 o5 o6 o7 g,ρ=[some (.ref 0),some (.ref 1),some (.ref 2),o3,o4,o5,o6,o7]/\H=hr rows labels (.list (((rows.take n).map (jR rows labels)).map dZ.v)::g)) ?_ ?_ ?_)
 ·exact⟨none,none,none,none,none,[],rfl,rfl⟩
 ·intro ρ H j
  obtain⟨o3,o4,o5,o6,o7,g,e1,e2⟩:=j;rw[e1,e2,List.take_length];exact⟨nT rfl (Nat.le_of_eq (List.length_map _)),q g⟩
 ·intro n ρ H hn j go gV
  obtain⟨o3,o4,o5,o6,o7,g,e1,e2⟩:=j;rw[e1,e2];have hk:=List.getElem?_eq_getElem hn;have I0:=ok _ (List.getElem_mem hn);rw[lO hk] at gV;generalize rows[n]=w at *;have hl:(((rows.take n).map (jR rows labels)).map dZ.v).length<100000:=by
   rw[List.length_map,List.length_map];exact Nat.lt_of_le_of_lt (List.length_take_le' ..) (Nat.lt_trans hz (by decide))
  have cV: ∀ (v:V) o3 o4 o5 o6 o7 g,v=(jR rows labels w).v->go [some (.ref 0),some (.ref 1),some (.ref 2),o3,o4,o5,o6,o7] (hr rows labels (.list (((rows.take n).map (jR rows labels)).map dZ.v++[v])::g)):=fun v o3 o4 o5 o6 o7 g e=>gV _ _ ⟨o3,o4,o5,o6,o7,g,rfl,by rw[e,fL,fL]⟩;unfold jR at cV;unfold dZ.zP at I0;refine⟨_,sH rfl (dR hk) rfl,No (bQ (fun h=> ?_) fun h=> ?_)⟩
  ·rw[if_pos h] at cV I0
   exact Bf ok (I0.1 _ (List.mem_singleton.mpr rfl)) (iO hl (cV _ _ _ _ _ _ _ rfl))
  ·rw[if_neg (Bool.eq_false_iff.mp h)] at cV I0
   refine bQ (fun h2=> ?_) fun h2=> ?_
   ·have h2:w.op=262:=beq_iff_eq.mp h2
    rw[if_pos h2] at cV I0;have hb:=Arg.Sr (I0.2 h2).1;have bE:=(I0.2 h2).2;obtain⟨op,a,b,c⟩:=w;dsimp only at hb bE cV I0 h2;generalize b.l=l at *;rw[hb] at hk ⊢;refine Aa (xs:=l) (f:=V.int) (fun l=>.int (pO rows labels l)) (fun k=>rfl) (Nat.lt_trans bE (by decide)) (fun x hx q hq=>Bf ok (I0.1 x hx) hq) (IM aQ ?_);exact iO hl (cV _ _ _ _ _ _ _ (congrArg (fun z=>V.aM [.int op,.int a,V.aM z,.int c]) (List.map_map (f:=pO rows labels) (g:=V.int) (l:=l)).symm))
   ·have h2:w.op≠262:=beq_eq_false_iff_ne.mp h2
    rw[if_neg h2] at cV;exact iO hl (cV _ _ _ _ _ _ _ rfl)
end
section
variable{x:CS}{Bi:List aR}{H:Hp}
structure Seen(Bi:List aR)(x:CS)(H:Hp):Prop where
 m:jJ (fun K=>H[0]? = some (.inst 13 K))
 fn:H[12]? = some YT
 body:H[13]? = some (.list (Bi.map aR.v))
 obj:jJ (fun l=>H[17]? = some (x.S9 l))
 rows:H[18]? = some (.list (x.rows.map dZ.v))
 labels:H[19]? = some (.list (x.labels.map .int))
theorem qQ.seen(s:qQ (Bi.map aR.v) x H):Seen Bi x H:=by
 obtain⟨f,hf,s⟩:=s.ex;have hg: ∀ a,TM a=true->fN f H.length a=a:=fun a ha=>vJ (hf a ha);have oK: ∀ {a:Nat} {o:aY},TM a=true->(x.hp (Bi.map aR.v) [])[a]? = some o->HV TM o=true->H[a]? = some o:=fun {a o} ha ho hk=>by
  rw[(s.oK a a (hf a ha)).2,ho,Option.map_some,eR hg hk]
 refine⟨⟨_,oK (a:=0) rfl rfl rfl⟩,oK (a:=12) rfl rfl rfl,oK (a:=13) rfl rfl (dX EK _),⟨fN f H.length 20,?_⟩,oK (a:=18) rfl rfl (dX uF _),oK (a:=19) rfl rfl (dX (fun _=>rfl) _)⟩;rw[(s.oK 17 17 (hf 17 rfl)).2];show some (aY.inst 10 [(15,.ref (fN f H.length 0)),(16,.ref (fN f H.length 12)),(19,.int 4),(8,.int 2),(4,.ref (fN f H.length 18)),(21,.ref (fN f H.length 19)),(22,.int x.fence),(23,.ref (fN f H.length 20)),(24,.int x.most),(25,.ref (fN f H.length 21)),(26,.bool x.live),(27,.int x.skipped)])=_;rw[hg 0 rfl,hg 12 rfl,hg 18 rfl,hg 19 rfl,hg 21 rfl];rfl
end
section
variable{G:Cx}{H:Hp}{l c a m:Nat}{fs:List (Nat×V)}{v:V}
theorem eQ{Q:V->Prop}(e:H[l]? = some (.inst c fs))(hd:G.iQ c a=true)(hv:jZ fs a=some v)(q:Q v):cJ (Ck G (.ref l) a H) Q:=by
 refine .of (x:=v) ?_ q;show bO (bO H[l]? CT) _=_;rw[e];exact (dJ hd).trans hv
theorem Qg{Q:Jn->Prop}(e:H[l]? = some (.inst c fs))(ht:Tt G m (.inst c fs)=some (.UI c))(q:Q (.UI c)):cJ (OH G m (.ref l) H) Q:=.of (x:=Jn.UI c) ((dT e).trans ht) q
@[irreducible]
noncomputable def B9(sc:List Int)(d:Nat):Call:=Cl sc d
theorem GP{sc:List Int}{d:Nat}: B9 sc d=Cl sc d:=by unfold B9;rfl
theorem MG{sc:List Int}{d n np nv:Nat}{b:List S}{args:List V}{Q:PE}{H:Hp}(hk:(cx sc).kind n= .fn np nv b)(hl:Nat.beq args.length np=true)(h:eI (cx sc) (B9 sc d) b (args.map some++List.replicate (nv - np) none) H fun fl _ h1=>Q (eG fl) h1):Wf sc (d+1) n args H Q:=enter hk hl (by rw[<- GP];exact h)
theorem Io{sc:List Int}{d n:Nat}{f:List Nat}{L:Hp}{as args:List V}{Q:PE}(hf:(cx sc).fr n=true)(s:Ch f L H)(e:kH (fN f H.length) as=args)(k:Wf sc d n as L fun v L'=>∀ h',El f H L' h'->Q (pQ (fN f H.length) v) h'):B9 sc d n args H Q:=by
 rw[GP];show cR ((cx sc).fr n) _ _;rw[hf];exact⟨f,L,as,s,e,k⟩
end
theorem kD{g:Nat->Nat}{o:aY}(h:HV (fun _=>false) o=true):mQ g o=o:=eR (fun _ q=>Bool.noConfusion q) h
theorem LM{g:Nat->Nat}{v:V}(h:HW (fun _=>false) v=true):pQ g v=v:=EJ (fun _ q=>Bool.noConfusion q) v h
theorem bw{H:Hp}{a b:Nat}{p o:aY}(ha:H[a]? = some p)(hb:H[b]? = some o)(mx:a≠b)(hp:HV (fun _=>false) p=true)(ho:HV (fun _=>false) o=true):Ch [a,b] [p,o] H:=by
 refine⟨rfl,List.nodup_cons.mpr ⟨fun q=>mx (List.mem_singleton.mp q),List.nodup_cons.mpr ⟨List.not_mem_nil,List.nodup_nil⟩⟩,fun i j h=> ?_⟩
 match i,h with
 | 0,h=>
  rw[<- Option.some.inj h];exact⟨bD ha,ha.trans (congrArg some (kD hp).symm)⟩
 | 1,h=>
  rw[<- Option.some.inj h];exact⟨bD hb,hb.trans (congrArg some (kD ho).symm)⟩
theorem FB{sc:List Int}{d n:Nat}{args:List V}{H:Hp}{Q:PE}(hf:(cx sc).fr n=false)(k:Wf sc d n args H Q):B9 sc d n args H Q:=by
 rw[GP];show cR ((cx sc).fr n) _ _;rw[hf];exact k
noncomputable def pI(p:Nat)(most:Int):aY:=.inst 8 [(4,.ref p),(5,.int (4+most)),(6,.int 2),(7,.aM [.int 0,.int 0]),(8,.int 2)]
section
variable{sc:List Int}{d:Nat}{Q:PE}{H:Hp}
theorem DD(q:Q (.int 0) H):Wf sc (d+2) 15 [.int (-1)] H Q:=enter rfl rfl (enter rfl rfl q)
theorem H6{v1 v2 v3 v4 v5:V}(q:Q .none (H++[.inst 8 [(4,v1),(5,v2),(6,v3),(7,v4),(8,v5)]])):Wf sc (d+1) 24 [.ref H.length,v1,v2,v3,v4,v5] (H++[.inst 8 []]) Q:=
 enter rfl rfl (dG rfl (dG rfl (dG rfl (dG rfl (dG rfl q)))))
theorem Nn{y:CS}{Bi:List aR}{o1:Option V}(s:Seen Bi y H)(ok:oG y.rows y.labels)(hz:y.rows.length<99999)
  (q: ∀ l j H',H'[l]? = some (pI j y.most)->H'[j]? = some (.list ((iY y.rows y.labels).map dZ.v))->Q (.ref l) H'):
  eI (cx sc) (B9 sc (d+3)) (gQ.drop 2) [some (.ref 17),o1,none,none,none] H fun fl _ h1=>Q (eG fl) h1:=by
 obtain⟨⟨K,hm⟩,Og,XC,⟨sl,hc⟩,ZQ,Ei⟩:=s;refine eQ hc rfl rfl (eQ Og rfl rfl (Aa (xs:=[(-1:Int),-1]) (f:=V.int) (fun _=>.int 0) (fun k=>rfl) (by decide) (fun x hx q hq=> ?_) (IM aQ ?_)))
 ·rcases List.mem_cons.mp hx with rfl|hx
  ·exact FB rfl (DD hq)
  ·rw[List.mem_singleton.mp hx];exact FB rfl (DD hq)
 ·have hc:=bV (o':=aY.list [.int 0,.int 0]) hc
  have ZQ:=bV (o':=aY.list [.int 0,.int 0]) ZQ;have Ei:=bV (o':=aY.list [.int 0,.int 0]) Ei;show eI (cx sc) (B9 sc (d+3)) (gQ.drop 3) [some (.ref 17),o1,some (.aM [.int 0,.int 0]),none,none] (H++[.list [.int 0,.int 0]]) fun fl _ h1=>Q (eG fl) h1;generalize H++[.list [.int 0,.int 0]]=H at *;refine eQ hc rfl rfl (eQ hc rfl rfl (eQ hc rfl rfl (Io (f:=[18,19]) (L:=hr y.rows y.labels []) (as:=[.ref 0,.ref 1]) rfl (bw ZQ Ei (by decide) (dX uF _) (dX (fun _=>rfl) _)) rfl (H0 ok hz fun g H' b=> ?_))));have hc:=(b.keep 17 (bD hc) (by decide)).trans hc;have hn:=b.new 0;have hl:=b.len;refine eQ hc rfl rfl (eQ hc rfl rfl (eQ hc rfl rfl (FB rfl (H6 ⟨rfl,q _ H.length _ aQ (bV ?_)⟩))));refine hn.trans ?_;exact congrArg some (kD (dX uF _))
theorem Kt{P:CS->Prop}{Bi:List aR}(w:CS.wp P Bi (CS.eF.aL 2 0 2 0))(hP: ∀ y,P y->oG y.rows y.labels/\y.rows.length<99999)
  (q: ∀ y l j H',P y->H'[l]? = some (pI j y.most)->H'[j]? = some (.list ((iY y.rows y.labels).map dZ.v))->Q (.ref l) H'):Wf sc (d+9) 50 [.ref 17] (CS.eF.hp (Bi.map aR.v) []) Q:=by
 refine MG rfl rfl (FB rfl (rM (x:=CS.eF) (ps:=[]) (rs:=List.replicate 2 (.int (-1))) (by decide) ?_));have w:CS.wp P Bi (CS.eF.aL 2 ([]:List V).length (List.replicate 2 (V.int (-1))).length 0):=w;generalize CS.eF.aL 2 ([]:List V).length (List.replicate 2 (V.int (-1))).length 0=x at *;have s0:=Bp (x:=x) (Bi:=Bi) (r:=[]);refine nI Bi.length (fun n ρ H=>∃ o y,ρ=[some (.ref 17),o,none,none,none]/\qQ (Bi.map aR.v) y H/\CS.wp P (Bi.drop n) y) ⟨none,x,rfl,s0,w⟩ ?_ ?_
 ·intro ρ H j
  obtain⟨o,y,e1,s,w⟩:=j;rw[e1];rw[List.drop_length] at w;exact⟨nT s.seen.body (Nat.le_of_eq (List.length_map _)),Nn s.seen (hP y w).1 (hP y w).2 fun l j H'=>q y l j H' w⟩
 ·intro n ρ H hn j go gV
  obtain⟨o,y,e1,s,w⟩:=j;rw[e1];rw[List.drop_eq_getElem_cons hn] at w;have hi:=List.getElem?_eq_getElem hn;generalize Bi[n]=i at *;have se:=s.seen;obtain⟨l,hc⟩:=se.obj;obtain⟨f,hf,sl⟩:=s.ex;refine⟨_,sH se.body (dR hi) rfl,Qg hc rfl (Io (f:=f) (L:=y.hp (Bi.map aR.v) []) (as:=[.ref 17,i.v]) rfl sl ?_ (Te w.1 fun L' t hl H' b=>gV _ _ ⟨_,_,rfl,t.J1 hf sl b hl,w.2 0⟩))⟩;show [V.ref (fN f _ 17),pQ (fN f _) i.v]=[V.ref 17,i.v];rw[vJ (hf 17 rfl),LM (EK i)]
end
section
variable{sc:List Int}{d:Nat}{Q:PE}{H:Hp}
theorem Nx{P:CS->Prop}{Bi:List aR}(w:CS.wp P Bi (CS.eF.aL 2 0 2 0))(hP: ∀ y,P y->oG y.rows y.labels/\y.rows.length<99999)
  (q: ∀ y l j H',P y->H'[l]? = some (pI j y.most)->H'[j]? = some (.list ((iY y.rows y.labels).map dZ.v))->Q (.ref l) H'):Wf sc (d+10) 72 [.ref 0,.int 1] (uS (Bi.map aR.v) []) Q:=
 enter rfl rfl (Td (TX (r:=[.list [.ref 3,.ref 4,.ref 5,.ref 6],.list [.int 5]]) (Hl ⟨rfl,Kt w hP q⟩)))
end
noncomputable def hV:Option Nat->V
 | some n=>.int n
 | none=>.none
noncomputable def ED(p:Nat×Bool):V:=.aM [.int p.1,.int (if p.2 then 1 else 0)]
noncomputable def iJ(L:List (Nat×Bool)):aY:=.list (L.map ED)
noncomputable def g3(sq:List Int)(a b:Nat)(code:List aR)(r:Hp):Hp:=.list (sq.map .int)::WL 0 a b::tE code::r
theorem Cr{L:List (Nat×Bool)}{n:Nat}: ∀ {k:Nat},gC L (some (n+k)) (List.replicate k .drop) (some n)
 | 0=>.nil
 | k+1=>by
  rw[List.replicate_succ];exact gC.iB (a:=[.drop]) (h1:=some (n+k)) .drop Cr
noncomputable def QN(h:Option Nat)(many:Nat):Nat:=match h with
 | some n=>(n - many)+(many - n)
 | none=>0
theorem gL(i n:Int)(h:0<n):0<=i.fmod n/\i.fmod n<n:=⟨Int.fmod_nonneg_of_pos i h,Int.fmod_lt_of_pos i h⟩
theorem pR.B8{i:aR}(h:(∃ n,i= .const n)\/ ∃ n,i= .get n/\0<=n/\n<3){s:List aR}(hs:pR s):pR (s++[i]):=fun j hj=>by
 rcases List.mem_append.mp hj with q|q
 ·exact hs j q
 ·rw[List.mem_singleton.mp q];exact h
section
variable{G:Cx}{H:Hp}
theorem qM{cl:Call}{c:E}{body jS:List S}{ρ:cP}{Q:PS}(I:Nat->cP->Hp->Prop)(n:Nat)(h0:I n ρ H)(step: ∀ n ρ H,I n ρ H->∀ go:cP->Hp->Prop,(∀ m ρ' H',m<n->I m ρ' H'->go ρ' H')->wE G cl c ρ H fun v h1=>cJ (Jg v) fun t=>cR t (eI G cl body ρ h1 (jE go (jE (fun ρ1 h1=>eI G cl jS ρ1 h1 Q) Q))) (eI G cl jS ρ h1 Q)):eI G cl (.qM c body::jS) ρ H Q:=by
 show gJ (fun (p:cP×Hp) go=>wE G cl c p.1 p.2 fun v h1=>cJ (Jg v) fun t=>cR t (eI G cl body p.1 h1 (jE (fun ρ h=>go (ρ,h)) (jE (fun ρ1 h1=>eI G cl jS ρ1 h1 Q) Q))) (jE (fun ρ1 h1=>eI G cl jS ρ1 h1 Q) Q .next p.1 h1)) (ρ,H);exact⟨n,fun n s=>I n s.1 s.2,h0,fun n s hs=>step n s.1 s.2 hs _ fun m ρ' H' hm hi=>⟨m,hm,hi⟩⟩
theorem xY{i:Int}(h1: -1000000<i)(h2:i<1000000):dU i=true:=decide_eq_true (by have:(2:Nat) ^ 60=1152921504606846976:=rfl;lia)
theorem NL{a b:Int}{Q:V×Hp->Prop}(h:(dU a&&dU b)=true)(q:Q (.int (a*b),H)):cJ (Do .mul (.int a) (.int b) H) Q:=by
 refine .of (x:=(.int (a*b),H)) ?_ q;show bO (dI (dU a&&dU b) (some (a*b))) _=_;rw[dJ h];rfl
end
section
variable{sc sq:List Int}{d a b:Nat}{Q:PE}{r:Hp}{code:List aR}
theorem tS{i:aR}{Q:V×Hp->Prop}(hz:code.length<100000)(q:Q (.none,g3 sq a b (code++[i]) r)):cJ (vT 2 (code.map aR.v) 0 [i.v] (g3 sq a b code r)) Q:=by
 refine iO (by rw[List.length_map];exact hz) ?_;rw[fL];exact q
theorem Nv(LR:a<100000)(q: ∀ x,Q (.int x) (g3 sq (a+1) b code r)):Wf sc (d+1) 87 [.ref 1] (g3 sq a b code r) Q:=by
 have hm:(dU 53&&dU a)=true:=by rw[iM (Nat.lt_trans LR (by decide))];rfl
 refine enter rfl rfl (bQ (fun h=> ?_) fun h=> ?_)
 ·have h:(a:Int)<((sq.map V.int).length:Int):=of_decide_eq_true h
  rw[bK] at h;have hk:=List.getElem?_eq_getElem (Int.ofNat_lt.mp h);exact kN (fP (Int.ofNat_lt.mp h)) (dR hk) (NL hm (q _))
 ·exact NL hm (q _)
theorem xT{high many:Nat}{i j:Int}(ei:i=high)(ej:j=many)(x:Int)(hz:code.length+many<100000)(q: ∀ cC,pR cC->cC.length=many - high->Q (.int (high+cC.length:Nat)) (g3 sq a b (code++cC) r)):Wf sc (d+1) 88 [.ref 2,.int i,.int j,.int x] (g3 sq a b code r) Q:=by
 rw[ei,ej];refine enter rfl rfl (qM (fun n ρ H=>∃ x cC,ρ=[some (.ref 2),some (.int (high+cC.length:Nat)),some (.int many),some (.int x)]/\n=many - (high+cC.length)/\H=g3 sq a b (code++cC) r/\pR cC/\cC.length<=many - high) (many - high) ?_ fun n ρ H j go gV=> ?_)
 ·exact⟨x,[],rfl,rfl,by rw[List.append_nil],fun _ h=>absurd h List.not_mem_nil,Nat.zero_le _⟩
 obtain⟨x,cC,e1,e2,e3,hF,hl⟩:=j;rw[e1,e3];refine bQ (fun h=> ?_) fun h=> ?_
 ·have h:((high+cC.length:Nat):Int)<many:=of_decide_eq_true h
  have h:=Int.ofNat_lt.mp h;have bE:(code++cC).length<100000:=by rw[List.length_append];exact Nat.lt_trans (Nat.add_lt_add_left (Nat.lt_of_le_of_lt (Nat.le_add_left _ _) h) _) hz
  have cV: ∀ i:aR,((∃ n,i= .const n)\/ ∃ n,i= .get n/\0<=n/\n<3)->go [some (.ref 2),some (.int ((high+cC.length:Nat)+1)),some (.int many),some (.int (x.fdiv 3+1))] (g3 sq a b (code++cC++[i]) r):=fun i hi=>
   gV (many - (high+cC.length) - 1) _ _ (by rw[e2];exact Nat.sub_lt (Nat.sub_pos_of_lt h) Nat.one_pos) ⟨_,cC++[i],by rw[List.length_append];rfl,by rw[List.length_append];rfl,by rw[List.append_assoc],hF.B8 hi,by rw[List.length_append];exact Nat.le_sub_of_add_le (by rw[Nat.add_comm,<- Nat.add_assoc];exact h)⟩
  refine bQ (fun h=> ?_) fun h=> ?_
  ·exact tS (i:=.const ((x.fdiv 2).fmod 9 - 2)) bE (cV _ (.inl ⟨_,rfl⟩))
  ·exact tS (i:=.get ((x.fdiv 2).fmod 3)) bE (cV _ (.inr ⟨_,rfl,gL _ 3 (by decide)⟩))
 ·have h: ¬ ((high+cC.length:Nat):Int)<many:=of_decide_eq_false h
  exact q cC hF (Nat.le_antisymm hl (Nat.sub_le_iff_le_add.mpr (Nat.add_comm _ _▸Nat.not_lt.mp fun q=>h (Int.ofNat_lt.mpr q))))
end
theorem MN{L:List (Nat×Bool)}{n many:Nat}{cC:List aR}(hF:pR cC)(hl:cC.length=many - n)(h:n<=many):gC L (some n) cC (some many):=by
 have:=hF.cC (L:=L) (n:=n);rw[hl,Nat.add_sub_cancel' h] at this;exact this
theorem N3{L:List (Nat×Bool)}{n many:Nat}{cC:List aR}(hF:pR cC)(hl:cC.length=many - min n many):gC L (some n) (List.replicate (n - many) .drop++cC) (some many):=by
 by_cases eA:n<=many
 ·rw[Nat.sub_eq_zero_of_le eA,List.replicate_zero,List.nil_append]
  rw[Nat.min_eq_left eA] at hl;exact MN hF hl eA
 ·have sT:=Nat.le_of_not_le eA
  rw[Nat.min_eq_right sT,Nat.sub_self] at hl;rw[List.eq_nil_of_length_eq_zero hl,List.append_nil];have:=Cr (L:=L) (n:=many) (k:=n - many);rw[Nat.add_sub_cancel' sT] at this;exact this
section
variable{sc sq:List Int}{d a b:Nat}{Q:PE}{r:Hp}{code:List aR}
theorem xU(L:List (Nat×Bool)){h:Option Nat}{many:Nat}{v:V}(ev:v=hV h)(hm:many<=1000)(hh:h.getD 0<=1000)(hz:code.length<80000)(q: ∀ cC,gC L h cC (h.map fun _=>many)->cC.length=QN h many->Q .none (g3 sq a b (code++cC) r)):Wf sc (d+2) 89 [.ref 2,v,.int many] (g3 sq a b code r) Q:=by
 rw[ev];cases h with
 | none=>
  have q:=q [] .nil rfl;rw[List.append_nil] at q;exact enter rfl rfl q
 | some n=>
  have hn:n<=1000:=hh;refine enter rfl rfl (nB (xY (by lia) (by lia)) (nI (n - many) (fun k ρ H=>∃ v,ρ=[some (.ref 2),some (.int n),some (.int many),v]/\H=g3 sq a b (code++List.replicate k .drop) r) ?_ ?_ ?_))
  ·exact⟨none,rfl,by rw[List.replicate_zero,List.append_nil]⟩
  ·intro ρ H j
   obtain⟨v,e1,e2⟩:=j;rw[e1,e2];refine⟨JJ (by lia),xT (high:=min n many) (many:=many) n6 rfl 4 (by rw[List.length_append,List.length_replicate];exact Nat.lt_of_lt_of_le (Nat.add_lt_add_of_lt_of_le (Nat.add_lt_add_of_lt_of_le hz (Nat.le_trans (Nat.sub_le _ _) hn)) hm) (by decide)) fun cC hF hl=> ?_⟩;rw[List.append_assoc];exact q _ (N3 hF hl) (by rw[List.length_append,List.length_replicate,hl];exact congrArg (_ + ·) n5)
  ·intro k ρ H hk j go gV
   obtain⟨v,e1,e2⟩:=j;rw[e1,e2];exact⟨_,NR (by lia) rfl,tS (i:=.drop) (by rw[List.length_append,List.length_replicate];exact Nat.lt_of_lt_of_le (Nat.add_lt_add_of_lt_of_le hz (Nat.le_trans (Nat.le_of_lt hk) (Nat.le_trans (Nat.sub_le _ _) hn))) (by decide)) (gV _ _ ⟨_,rfl,by rw[List.replicate_succ',List.append_assoc]⟩)⟩
end
noncomputable def OI:List (List aR):=[[],[.lP 106,.drop],[.const 3,.set 0],[.block (-64),.const 1,.iff (-64),.nO,.cV,.cV]]
theorem Bu{t:List aR}(ht:t∈OI):tQ t/\t.length<=6:=by
 simp only[OI,List.mem_cons,List.not_mem_nil,or_false] at ht;rcases ht with rfl|rfl|rfl|rfl
 ·exact⟨.nil,by decide⟩
 ·exact⟨tQ.xQ (by decide),by decide⟩
 ·exact⟨tQ.xQ (by decide),by decide⟩
 ·exact⟨tQ.Ob (i:=.block (-64)) (a:=[.const 1,.iff (-64),.nO,.cV]) (.inl rfl) (.iB (a:=[.const 1]) (tQ.xQ (by decide)) (tQ.nO (a:=[]) (b:=[]) .nil .nil)),by decide⟩
noncomputable def mR(r r':Hp):Prop:=∀ (i:Nat) (o:aY),r[i]? = some o->r'[i]? = some o
theorem mR.refl(r:Hp):mR r r:=fun _ _ h=>h
theorem mR.iB{r r':Hp}(h:mR r r'){o:aY}: mR r (r'++[o]):=fun i p hp=>bV (h i p hp)
theorem mR.trans{r s t:Hp}(h:mR r s)(k:mR s t):mR r t:=fun i p hp=>k i p (h i p hp)
section
variable{G:Cx}{H:Hp}{sq:List Int}{a b:Nat}{r:Hp}{code:List aR}
theorem RB{ys:List V}{t:List aR}{m:Nat}{Q:V×Hp->Prop}(hm:H[m]? = some (.list ys))(hy:ys=t.map aR.v)(h3:Nat.beq 2 m=false)(hz:code.length+t.length<100000)(q:Q (.none,H.set 2 (tE (code++t)))):cJ (vT 2 (code.map aR.v) 2 [.ref m] H) Q:=by
 refine .of (x:=(.none,H.set 2 (tE (code++t)))) ?_ q;show bO (bO H[m]? nJ) _=_;rw[hm,hy];show dI (decide (2≠m)&&decide ((code.map aR.v).length+(t.map aR.v).length<=most)) (some (V.none,H.set 2 (.list (code.map aR.v++t.map aR.v))))=_;have h2:2≠m:=fun q=>by subst q;exact Bool.noConfusion (show true=false from h3)
 rw[show decide (2≠m)=true from decide_eq_true h2,decide_eq_true (by rw[List.length_map,List.length_map];exact Nat.le_trans (Nat.le_of_lt hz) (by decide)),<- List.map_append];rfl
theorem HP{i n:Int}{Q:V×Hp->Prop}(hn:(n != 0)=true)(q:Q (.int (i.fmod n),H)):cJ (Do .wN (.int i) (.int n) H) Q:=by
 refine .of (x:=(.int (i.fmod n),H)) ?_ q;show bO (dI (n != 0) (some (i.fmod n))) _=_;rw[dJ hn];rfl
end
noncomputable def tA:aY:=.list []
noncomputable def tB:aY:=.list [.aM [.int 106],.aM [.int 26]]
noncomputable def tC:aY:=.list [.aM [.int 65,.int 3],.aM [.int 33,.int 0]]
noncomputable def tD:aY:=.list [.aM [.int 2,.int (-64)],.aM [.int 65,.int 1],.aM [.int 4,.int (-64)],.aM [.int 5],.aM [.int 11],.aM [.int 11]]
noncomputable def tl(H:Hp):List Nat:=[H.length,(H++[tA]).length,(H++[tA]++[tB]).length,(H++[tA]++[tB]++[tC]).length]
noncomputable def kf(H:Hp)(o:aY):Hp:=H++[tA]++[tB]++[tC]++[tD]++[o]
theorem Wh{H:Hp}(o:aY){j:Nat}(h:j<4): ∃ t,t∈OI/\(kf H o)[(tl H)[j]?.getD 0]? = some (tE t)/\H.length<=(tl H)[j]?.getD 0:=by
 match j,h with
 | 0,_=>exact⟨_,.head _,bV (bV (bV (bV aQ))),Nat.le_refl _⟩
 | 1,_=>exact⟨_,.tail _ (.head _),bV (bV (bV aQ)),by show _<=(H++[tA]).length;rw[List.length_append];exact Nat.le_add_right ..⟩
 | 2,_=>exact⟨_,.tail _ (.tail _ (.head _)),bV (bV aQ),by show _<=(H++[tA]++[tB]).length;rw[List.length_append,List.length_append];exact Nat.le_add_right _ 2⟩
 | 3,_=>exact⟨_,.tail _ (.tail _ (.tail _ (.head _))),bV aQ,by show _<=(H++[tA]++[tB]++[tC]).length;rw[List.length_append,List.length_append,List.length_append];exact Nat.le_add_right _ 3⟩
theorem YG{m:Nat}(h:3<=m):Nat.beq 2 m=false:=Bool.eq_false_iff.mpr fun q=>by have:=Nat.eq_of_beq_eq_true q;subst this;exact Nat.not_succ_le_self 2 h
theorem My{G:Cx}{H:Hp}{l k:Nat}{i:Int}{ms:List Nat}{Q:V->Prop}(e:H[l]? = some (.list (ms.map V.ref)))(hk:fY i ms.length=some k)(q:Q (.ref (ms[k]?.getD 0)))(hl:k<ms.length):cJ (D8 G (.ref l) i H) Q:=
 hO e (by rw[List.length_map];exact hk) (by rw[List.getElem?_map,List.getElem?_eq_getElem hl];rfl) q
section
variable{sc sq:List Int}{d a b:Nat}{Q:PE}{r:Hp}{code:List aR}{cl:Call}{o1 o2 o3 o5 o6 o7 o8 o9:Option V}{x:Int}
theorem DI(hz:code.length<90000)(q: ∀ t r',tQ t->t.length<=6->mR r r'->Q .none (g3 sq a b (code++t) r')):
  eI (cx sc) cl (eY.drop 7) [some (.ref 2),o1,o2,o3,some (.int x),o5,o6,o7,o8,o9] (g3 sq a b code r) fun fl _ h1=>Q (eG fl) h1:=by
 obtain⟨f0,f4⟩:=gL x 4 (by decide);have Ej:fY (x.fmod 4) 4=some (x.fmod 4).toNat:=by
  have:=fQ (k:=(x.fmod 4).toNat) (n:=4) (by lia);rw[Int.toNat_of_nonneg f0] at this;exact this
 have hj:(x.fmod 4).toNat<4:=by lia
 obtain⟨t,ht,hm,sT⟩:=Wh (H:=g3 sq a b code r) (.list ((tl (g3 sq a b code r)).map V.ref)) hj;refine My (ms:=tl (g3 sq a b code r)) aQ Ej (RB (H:=kf (g3 sq a b code r) (.list ((tl (g3 sq a b code r)).map V.ref))) (t:=t) hm rfl ?_ (Nat.lt_of_lt_of_le (Nat.add_lt_add_of_lt_of_le hz (Bu ht).2) (by decide)) ?_) hj
 ·exact YG (Nat.le_trans (Nat.le_add_left 3 r.length) sT)
 ·exact q t _ (Bu ht).1 (Bu ht).2 (mR.iB (mR.iB (mR.iB (mR.iB (mR.iB (mR.refl r))))))
end
noncomputable def xP(L:List (Nat×Bool))(k:Nat):Bool:=match L[L.length - 1 - k]? with
 | some p=> !p.2
 | none=>false
noncomputable def fH(L:List (Nat×Bool)):List Nat:=(List.range L.length).filter (xP L)
theorem lK{L:List (Nat×Bool)}{k:Nat}(h:k∈fH L):k<L.length/\∃ many,L[L.length - 1 - k]? = some (many,false):=by
 obtain⟨h1,h2⟩:=List.mem_filter.mp h;have hk:=List.mem_range.mp h1;obtain⟨many,b,hg⟩:=jG.get hk;refine⟨hk,many,?_⟩;unfold xP at h2;rw[hg] at h2 ⊢;cases b with
 | true=>exact Bool.noConfusion (show false=true from h2)
 | false=>rfl
theorem Ha{L:List (Nat×Bool)}(ok:jG L):L[L.length - 1 - (L.length - 1)]? = some (2,false)/\L.length - 1∈fH L:=by
 have h0:L[L.length - 1 - (L.length - 1)]? = some (2,false):=by
  rw[Nat.sub_self];exact ok.zero
 refine⟨h0,List.mem_filter.mpr ⟨List.mem_range.mpr (Nat.sub_lt ok.pos Nat.one_pos),?_⟩⟩;unfold xP;rw[h0];rfl
noncomputable def yV(L:List (Nat×Bool))(many:Nat)(k:Nat):Bool:=match L[L.length - 1 - k]? with
 | some p=>(p.1:Int)==many
 | none=>false
noncomputable def qS(L:List (Nat×Bool))(many:Nat):List Nat:=(fH L).filter (yV L many)
theorem rX{L:List (Nat×Bool)}{k many:Nat}(h:k∈qS L many):k<L.length/\L[L.length - 1 - k]? = some (many,false):=by
 obtain⟨h1,h2⟩:=List.mem_filter.mp h;obtain⟨hk,m,hg⟩:=lK h1;refine⟨hk,?_⟩;unfold yV at h2;rw[hg] at h2 ⊢;rw[show m=many from Int.ofNat.inj (eq_of_beq h2)]
theorem GY{L:List (Nat×Bool)}{k many:Nat}(h:k∈fH L)(hg:L[L.length - 1 - k]? = some (many,false)):0<(qS L many).length:=by
 refine List.length_pos_of_mem (a:=k) (List.mem_filter.mpr ⟨h,?_⟩);unfold yV;rw[hg];exact beq_self_eq_true _
theorem RC{α β:Type}{p:α->Bool}{f:α->β}: ∀ (xs:List α),xs.filterMap (fun x=>if p x then some (f x) else none)=(xs.filter p).map f
 | []=>rfl
 | x::xs=>by
  rw[List.filterMap_cons,List.filter_cons,RC xs];cases p x<;>rfl
noncomputable def eW(k:Nat):V:=.int k
theorem uH{x:Int}{ks:List Nat}(h0:0<ks.length):CB (fun k j=>k∈ks) (fun k j=>fY (x.fmod ((ks.map eW).length:Int)) (ks.map eW).length=some j) (fun k j=>(ks.map eW)[j]? = some (.int (k:Nat))):=by
 rw[List.length_map];obtain⟨h1,h2⟩:=gL x ks.length (Int.ofNat_lt.mpr h0);have eA:(x.fmod ks.length).toNat<ks.length:=(Int.toNat_lt h1).mpr h2;have:=fQ eA;rw[Int.toNat_of_nonneg h1] at this;exact⟨_,_,List.getElem_mem eA,this,by rw[List.getElem?_map,List.getElem?_eq_getElem eA];rfl⟩
section
variable{G:Cx}{H:Hp}{L:List (Nat×Bool)}{code:List aR}{l k many:Nat}{b:Bool}
theorem HJ{Q:V->Prop}(hL:H[l]? = some (iJ L))(hk:k<L.length)(hg:L[L.length - 1 - k]? = some (many,b))(q:Q (.aM [.int many,.int (if b then 1 else 0)])):cJ (D8 G (.ref l) (((L.map ED).length:Int) - 1 - k) H) Q:=by
 refine hO (k:=L.length - 1 - k) hL ?_ (dR hg) q;rw[List.length_map];have:=fQ (k:=L.length - 1 - k) (n:=L.length) (n1 hk);rw[n3 hk] at this;exact this
theorem NN{n k:Nat}: qA (.mD 0 n) k H=some ((List.range n).map eW)[k]?:=by
 show some (if (0:Int)+k<n then some (V.int (0+k)) else none)=_;rw[List.getElem?_map,Int.zero_add];by_cases h:k<n
 ·rw[List.getElem?_range h,if_pos (Int.ofNat_lt.mpr h)];rfl
 ·rw[List.getElem?_eq_none (by rw[List.length_range];exact Nat.le_of_not_lt h),if_neg (fun q=>h (Int.ofNat_lt.mp q))];rfl
theorem C6{xs:List V}{l k:Nat}(e:H[l]? = some (.list xs)):qA (.ref l) k H=some xs[k]?:=by
 show bO (bO H[l]? nJ) _=_;rw[e];rfl
theorem AJ{sq:List Int}{a b:Nat}{r:Hp}{o:aY}{i:aR}{Q:V×Hp->Prop}(hz:code.length<100000)(q:Q (.none,g3 sq a b (code++[i]) (r++[o]))):cJ (vT 2 (code.map aR.v) 0 [i.v] (g3 sq a b code r++[o])) Q:=by
 refine iO (by rw[List.length_map];exact hz) ?_;rw[fL];exact q
theorem Gy{sq:List Int}{a b:Nat}{r:Hp}{ys:List V}{t:List aR}{Q:V×Hp->Prop}(hy:ys=t.map aR.v)(hz:code.length+t.length<100000)(q:Q (.none,g3 sq a b (code++t) (r++[.list ys]))):cJ (vT 2 (code.map aR.v) 2 [.ref (g3 sq a b code r).length] (g3 sq a b code r++[.list ys])) Q:=
 RB aQ hy rfl hz q
end
theorem Ii{sq:List Int}{a b:Nat}{code:List aR}{r:Hp}{turn:V->Hp->(Option V->Hp->Prop)->Prop}{it:V}{Q:PE}{xs:List Nat}{p:Nat->Bool}(h1: ∀ k,qA it k (g3 sq a b code r)=some (xs.map eW)[k]?)(hz:xs.length<most)
  (ht: ∀ x∈xs,∀ q,q (if p x then some (eW x) else none) (g3 sq a b code r)->turn (eW x) (g3 sq a b code r) q) (k:Q (.ref (r.length+3)) (g3 sq a b code (r++[.list ((xs.filter p).map eW)]))):gJ (rA turn it Q) (0,[],g3 sq a b code r):=by
 refine Ih (g:=fun x=>if p x then some (eW x) else none) h1 hz ht ?_;rw[RC];exact k
theorem IY{n:Nat}(h:0<n):((n:Int) != 0)=true:=bne_iff_ne.mpr fun q=>Nat.lt_irrefl 0 ((Int.ofNat.inj q:n=0)▸h)
theorem zT{L:List (Nat×Bool)}{h many:Nat}{fs:List aR}(hF:pR fs)(hl:fs.length=many - h):gC L (some h) fs (some (h+fs.length))/\many<=h+fs.length:=⟨hF.cC,by lia⟩
section
variable{sc sq:List Int}{d a b h many Dx o k:Nat}{Q:PE}{r:Hp}{code:List aR}{L:List (Nat×Bool)}{Rm x:Int}
theorem Fm(hz:code.length<80000)(ok:jG L)(hh:h<=900)(xC:Dx∈fH L)(hg:L[L.length - 1 - Dx]? = some (many,false))(h1:(x.fdiv 3).fmod 3=1->many=2){v2 v5:V}{dv mv:Int}(ed:dv=Dx)(em:mv=many)
  (q: ∀ cC r',gC L (some h) cC none->cC.length<=14->mR r r'->Q .none (g3 sq a b (code++cC) r')):
  eI (cx sc) (Cl sc (d+1)) (eY.drop 5) [some (.ref 2),some (.int h),some v2,some (.int 13),some (.int x),some v5,some (.int dv),some (.int mv),none,none] (g3 sq a b code r) fun fl _ h1=>Q (eG fl) h1:=by
 rw[ed,em];have lY:many<=2:=ok.many _ (List.mem_of_getElem? hg);have eA:=(lK xC).1;refine xT (high:=h) (many:=many) rfl rfl (x.fdiv 7) (Nat.lt_of_lt_of_le (Nat.add_lt_add_of_lt_of_le hz lY) (by decide)) fun fs hF hl=> ?_;obtain⟨sF,sT⟩:=zT (L:=L) hF hl;have pX:fs.length<=2:=hl▸Nat.le_trans (Nat.sub_le ..) lY;obtain⟨j,i,Ej,hv,hs⟩: ∃ j i,fY ((x.fdiv 3).fmod 3) 3=some j/\[(aR.br Dx).v,aR.ret.v,aR.jX.v][j]? = some i.v/\gC L (some (h+fs.length)) [i] none:=by
  obtain⟨f0,f3⟩:=gL (x.fdiv 3) 3 (by decide);have c3:(x.fdiv 3).fmod 3=0\/(x.fdiv 3).fmod 3=1\/(x.fdiv 3).fmod 3=2:=by lia
  rcases c3 with q|q|q
  ·exact⟨0,.br Dx,by rw[q];rfl,rfl,.br eA hg sT⟩
  ·exact⟨1,.ret,by rw[q];rfl,rfl,.ret (h1 q▸sT)⟩
  ·exact⟨2,.jX,by rw[q];rfl,rfl,.jX⟩
 have bE:(code++fs).length<80010:=by rw[List.length_append];lia
 refine hO (k:=j) (v:=i.v) aQ Ej hv (AJ (i:=i) (Nat.lt_trans bE (by decide)) (DI (by rw[List.length_append];exact Nat.lt_trans (Nat.add_lt_add_right bE 1) (by decide)) fun t r' hB ht he=> ?_));rw[List.append_assoc,List.append_assoc];refine q _ r' (sF.iB (hs.iB (.J8 hB))) ?_ ((mR.refl r).iB.trans he);rw[List.length_append,List.length_append];exact Nat.add_le_add pX (Nat.le_trans (Nat.add_le_add_left ht 1) (by decide:1+6<=12))
end
theorem Cs{L:List (Nat×Bool)}{h:Nat}(x:Int):gC L (some h) [.get ((x.fdiv 5).fmod 3)] (some (h+1)):=.get (gL _ 3 (by decide)).1 (Int.lt_trans (gL _ 3 (by decide)).2 (by decide))
section
variable{sc sq:List Int}{d a b h many Dx o k:Nat}{Q:PE}{r:Hp}{code:List aR}{L:List (Nat×Bool)}{Rm x:Int}
theorem Nt(hz:code.length<80000)(hL:r[k]? = some (iJ L))(ok:jG L)(ho:r[o]? = some (.list ((fH L).map eW)))(hh:h<=900)(xC:Dx∈fH L)(hg:L[L.length - 1 - Dx]? = some (many,false))
  (q: ∀ cC r',gC L (some h) cC none->cC.length<=14->mR r r'->Q .none (g3 sq a b (code++cC) r')):
  eI (cx sc) (Cl sc (d+1)) (eY.drop 5) [some (.ref 2),some (.int h),some (.ref (k+3)),some (.int 14),some (.int x),some (.ref (o+3)),some (.int Dx),some (.int many),none,none] (g3 sq a b code r) fun fl _ h1=>Q (eG fl) h1:=by
 have lY:many<=2:=ok.many _ (List.mem_of_getElem? hg);have eA:=(lK xC).1;refine xT (high:=h) (many:=many) rfl rfl (x.fdiv 7) (Nat.lt_of_lt_of_le (Nat.add_lt_add_of_lt_of_le hz lY) (by decide)) fun fs hF hl=> ?_;obtain⟨sF,sT⟩:=zT (L:=L) hF hl;have pX:fs.length<=2:=hl▸Nat.le_trans (Nat.sub_le ..) lY;have bE:(code++fs).length<80010:=by rw[List.length_append];lia
 have PZ:(fH L).length<=5:=Nat.le_trans (List.length_filter_le ..) (by rw[List.length_range];exact ok.le);have Ir:(g3 sq a b (code++fs) r)[k+3]? = some (iJ L):=hL;have XN:(g3 sq a b (code++fs) r)[o+3]? = some (.list ((fH L).map eW)):=ho;refine Ii (xs:=fH L) (p:=yV L many) (fun _=>C6 XN) (Nat.lt_of_le_of_lt PZ (by decide)) (fun j hj q hq=> ?_) ?_
 ·obtain⟨rE,m,RI⟩:=lK hj
  refine mB Ir (HJ Ir rE RI (bQ (fun h=> ?_) fun h=> ?_))
  ·rw[if_pos (show yV L many j=true by unfold yV;rw[RI];exact h)] at hq
   exact hq
  ·rw[if_neg (Bool.eq_false_iff.mp (show yV L many j=false by unfold yV;rw[RI];exact h))] at hq
   exact hq
 have hA:(g3 sq a b (code++fs) (r++[.list ((qS L many).map eW)]))[r.length+3]? = some (.list ((qS L many).map eW)):=aQ (H:=r);have Yp:=GY xC hg;have hn:((((qS L many).map eW).length:Int) != 0)=true:=IY (by rw[List.length_map];exact Yp);obtain⟨j1,n1,VM,FF,Sh⟩:=uH (x:=x.fdiv 3) Yp;obtain⟨j2,n2,ft,zO,Si⟩:=uH (x:=x.fdiv 11) Yp;have hE:=(mR.refl r).iB (o:=.list ((qS L many).map eW));show eI (cx sc) (Cl sc (d+1)) _ [some (.ref 2),some (.int h),some (.ref (k+3)),some (.int 14),some (.int x),some (.ref (o+3)),some (.int Dx),some (.int many),some (.ref (r.length+3)),none] (g3 sq a b (code++fs) (r++[.list ((qS L many).map eW)])) _;generalize r++[.list ((qS L many).map eW)]=r2 at *;generalize r.length=n at *;refine mB hA (HP hn (hO hA FF Sh (mB hA (HP hn (hO hA zO Si (Gy (t:=[.get ((x.fdiv 5).fmod 3),.table [j1,j2,Dx]]) rfl (Nat.lt_trans (Nat.add_lt_add_right bE 2) (by decide)) (DI ?_ fun t r' hB ht he=> ?_)))))))
 ·rw[List.length_append];exact Nat.lt_trans (Nat.add_lt_add_right bE 2) (by decide)
 rw[List.append_assoc,List.append_assoc];refine q _ r' (sF.iB (((Cs x).iB (.table (Nat.le_refl _) ?_):gC L _ ([_]++[_]) none).iB (.J8 hB))) ?_ (hE.trans ((mR.refl r2).iB.trans he))
 ·intro i hi
  rcases List.mem_cons.mp hi with rfl|hi
  ·exact⟨(rX VM).1,many,(rX VM).2,sT⟩
  rcases List.mem_cons.mp hi with rfl|hi
  ·exact⟨(rX ft).1,many,(rX ft).2,sT⟩
  rw[List.mem_singleton.mp hi];exact⟨eA,many,hg,sT⟩
 rw[List.length_append,List.length_append];exact Nat.add_le_add pX (Nat.le_trans (Nat.add_le_add_left ht 2) (by decide:2+6<=12))
end
section
variable{sc sq:List Int}{d a b h many Dx o k:Nat}{Q:PE}{r:Hp}{code:List aR}{L:List (Nat×Bool)}{Rm x:Int}
theorem Nr(hz:code.length<80000)(ok:jG L)(hh:h<=900)(xC:Dx∈fH L)(hg:L[L.length - 1 - Dx]? = some (many,false)){v2 v5:V}
  (q: ∀ n cC r',gC L (some h) cC (some n)->cC.length+n<=h+14->mR r r'->Q (.int (n:Nat)) (g3 sq a b (code++cC) r')):
  eI (cx sc) (Cl sc (d+1)) (eY.drop 3) [some (.ref 2),some (.int h),some v2,some (.int 12),some (.int x),some v5,some (.int Dx),some (.int many),none,none] (g3 sq a b code r) fun fl _ h1=>Q (eG fl) h1:=by
 have lY:many<=2:=ok.many _ (List.mem_of_getElem? hg);have eA:=(lK xC).1;refine xT (high:=h) (many:=many) rfl rfl (x.fdiv 7) (Nat.lt_of_lt_of_le (Nat.add_lt_add_of_lt_of_le hz lY) (by decide)) fun fs hF hl=> ?_;obtain⟨sF,sT⟩:=zT (L:=L) hF hl;have pX:fs.length<=2:=hl▸Nat.le_trans (Nat.sub_le ..) lY;have bE:(code++fs).length<80010:=by rw[List.length_append];lia
 refine Gy (t:=[.get ((x.fdiv 5).fmod 3),.oM Dx]) rfl (Nat.lt_trans (Nat.add_lt_add_right bE 2) (by decide)) ?_;rw[List.append_assoc];refine q (h+fs.length) _ _ (sF.iB ((Cs x).iB (.oM eA hg sT):gC L _ ([_]++[_]) _)) ?_ (mR.refl r).iB;rw[List.length_append];exact (show fs.length+2+(h+fs.length)<=h+14 by lia)
theorem TZ(hz:code.length<80000)(hL:r[k]? = some (iJ L))(ok:jG L)(hh:h<=900)(hw:Rm=12\/Rm=13\/Rm=14)
  (q: ∀ h' cC r',gC L (some h) cC h'->cC.length+h'.getD 0<=h+14->mR r r'->Q (hV h') (g3 sq a b (code++cC) r')):
  Wf sc (d+2) 90 [.ref 2,.int h,.ref (k+3),.int Rm,.int x] (g3 sq a b code r) Q:=by
 have Ir:(g3 sq a b code r)[k+3]? = some (iJ L):=hL;have bE:((L.map ED).length:Int)<1000000:=by rw[List.length_map];exact Int.lt_of_le_of_lt (Int.ofNat_le.mpr ok.le) (by decide)
 refine enter rfl rfl (mB Ir (nB (xY (Int.lt_of_lt_of_le (by decide:(-1000000:Int)<0) (Int.natCast_nonneg _)) bE) (Ii (xs:=List.range L.length) (p:=xP L) (fun _=>by rw[List.length_map];exact NN) (by rw[List.length_range];exact Nat.lt_of_le_of_lt ok.le (by decide)) (fun j hj q hq=> ?_) ?_)))
 ·have rE:=List.mem_range.mp hj
  obtain⟨m,b,RI⟩:=jG.get rE;refine mB Ir (HJ Ir rE RI ?_);have e:xP L j= !b:=by unfold xP;rw[RI]
  rw[e] at hq;cases b with
  | true=>exact hq
  | false=>exact hq
 show eI (cx sc) (Cl sc (d+1)) (eY.drop 1) [some (.ref 2),some (.int h),some (.ref (k+3)),some (.int Rm),some (.int x),some (.ref (r.length+3)),none,none,none,none] (g3 sq a b code (r++[.list ((fH L).map eW)])) fun fl _ h1=>Q (eG fl) h1;have hE:=(mR.refl r).iB (o:=.list ((fH L).map eW));have ho:(r++[.list ((fH L).map eW)])[r.length]? = some (.list ((fH L).map eW)):=aQ;have hL:=hE _ _ hL;have q: ∀ h' cC r',gC L (some h) cC h'->cC.length+h'.getD 0<=h+14->mR (r++[.list ((fH L).map eW)]) r'->Q (hV h') (g3 sq a b (code++cC) r'):=fun h' cC r' hs hl he=>q h' cC r' hs hl (hE.trans he);clear Ir hE;generalize r++[.list ((fH L).map eW)]=r1 at *;generalize r.length=o at *;have Ir:(g3 sq a b code r1)[k+3]? = some (iJ L):=hL;have XN:(g3 sq a b code r1)[o+3]? = some (.list ((fH L).map eW)):=ho;obtain⟨Pi,uQ⟩:=Ha ok;have kC:0<(fH L).length:=List.length_pos_of_mem uQ;obtain⟨Dx,n1,xC,FF,Sh⟩:=uH (x:=x) kC;obtain⟨eA,many,hg⟩:=lK xC;refine mB XN (HP (IY (by rw[List.length_map];exact kC)) (hO XN FF Sh (mB Ir (HJ Ir eA hg ?_))));show eI (cx sc) (Cl sc (d+1)) (eY.drop 3) [some (.ref 2),some (.int h),some (.ref (k+3)),some (.int Rm),some (.int x),some (.ref (o+3)),some (.int Dx),some (.int many),none,none] (g3 sq a b code r1) fun fl _ h1=>Q (eG fl) h1;rcases hw with rfl|rfl|rfl
 ·exact Nr hz ok hh xC hg fun n cC r'=>q (some n) cC r'
 ·refine bQ (fun hc=> ?_) fun hc=> ?_
  ·have e1:((L.map ED).length:Int) - 1=(L.length - 1:Nat):=by
    have:=ok.pos;rw[List.length_map];lia
   have step: ∀ K:PS,K .next [some (.ref 2),some (.int h),some (.ref (k+3)),some (.int 13),some (.int x),some (.ref (o+3)),some (.int (((L.map ED).length:Int) - 1)),some (.int (2:Nat)),none,none] (g3 sq a b code r1)->eI (cx sc) (Cl sc (d+1)) (DU eY[4]?) [some (.ref 2),some (.int h),some (.ref (k+3)),some (.int 13),some (.int x),some (.ref (o+3)),some (.int Dx),some (.int many),none,none] (g3 sq a b code r1) K:=fun K q=>
    mB Ir (hO (k:=0) Ir (fQ (k:=0) (by rw[List.length_map];exact ok.pos)) (dR ok.zero) q)
   exact step _ (Fm (many:=2) hz ok hh uQ Pi (fun _=>rfl) e1 rfl fun cC r' hs hl=>q none cC r' hs (Nat.le_trans hl (Nat.le_add_left ..)))
  ·exact Fm hz ok hh xC hg (fun q=>absurd q (beq_eq_false_iff_ne.mp hc)) rfl rfl fun cC r' hs hl=>q none cC r' hs (Nat.le_trans hl (Nat.le_add_left ..))
 ·exact Nt hz hL ok ho hh xC hg fun cC r' hs hl=>q none cC r' hs (Nat.le_trans hl (Nat.le_add_left ..))
end
noncomputable def pA:Nat->Nat×Nat
 | 0=>(0,0)|1=>(0,1)|2=>(1,1)|3=>(2,1)|4=>(1,2)|_=>(2,2)
noncomputable def wJ:Nat->Int
 | 0=> -64|1=> -1|n=>n
theorem jw{m:Nat}(h:m<6):m=0\/m=1\/m=2\/m=3\/m=4\/m=5:=by lia
theorem Jc{m:Nat}(h:m<6):A3 (fF (wJ m)=some ((pA m).1,(pA m).2)) ((pA m).1<=2) ((pA m).2<=2):=by
 rcases jw h with rfl|rfl|rfl|rfl|rfl|rfl<;>exact⟨rfl,by decide,by decide⟩
theorem rU{m:Nat}(h:m<6):(cA [(0,.int (-64)),(1,.int (-1))] (m:Int)).getD (.int (m:Int))=V.int (wJ m)/\gG[m]? = some (rG (pA m).1 (pA m).2):=by
 rcases jw h with rfl|rfl|rfl|rfl|rfl|rfl<;>exact⟨rfl,rfl⟩
noncomputable def Nf(b:Bool)(more:Nat)(t:Int):aR:=if b then .kO t else if more=0 then .block t else .iff t
noncomputable def FV(b:List S)(i:Nat):S:=b[i]?.getD .BU
section
variable{G:Cx}{H:Hp}{l:Nat}{es:List (Int×V)}{ep:Option Nat}
theorem sL{Q:Jn->Prop}(e:H[l]? = some (.dict es ep))(q:Q .Ur):cJ (OH G 3 (.ref l) H) Q:=.of (x:=Jn.Ur) (dT e) q
theorem xA{i:Int}{dv v:V}{Q:V×Hp->Prop}(hv:(cA es i).getD dv=v)(q:Q (v,H)):cJ (ME es 3 [.int i,dv] H) Q:=.of (x:=(v,H)) (by rw[<- hv];rfl) q
end
section
variable{sc sq:List Int}{d a b h k:Nat}{Q:PE}{r:Hp}{code:List aR}{L:List (Nat×Bool)}{x:Int}{K:PS}{bl:Bool}
theorem EW{H:Hp}(q:Q (.ref H.length) (H++[.list gG])):Wf sc (d+1) 86 [] H Q:=enter rfl rfl q
theorem Fi{l:V}{H:Hp}
  (q: ∀ m more:Nat,m<6->more<=1->(bl=true->(pA m).1=(pA m).2/\more=0)->eI (cx sc) (Cl sc (d+1)) (bA.drop 3) [some (.ref 1),some (.ref 2),some (.int h),some l,some (.bool bl),some (.int x),some (.int (m:Nat)),some (.int (more:Nat)),none,none,some (.int ((pA m).1:Nat)),some (.int ((pA m).2:Nat))] (H++[.list gG]++[.list gG]) K):
  eI (cx sc) (Cl sc (d+1)) bA [some (.ref 1),some (.ref 2),some (.int h),some l,some (.bool bl),some (.int x),none,none,none,none,none,none] H K:=by
 have mid: ∀ m:Nat,m<6->∀ K:PS,K .next [some (.ref 1),some (.ref 2),some (.int h),some l,some (.bool bl),some (.int x),some (.int (m:Nat)),none,none,none,some (.int ((pA m).1:Nat)),some (.int ((pA m).2:Nat))] (H++[.list gG]++[.list gG])->
   wS (cx sc) (Cl sc (d+1)) (FV bA 1) [some (.ref 1),some (.ref 2),some (.int h),some l,some (.bool bl),some (.int x),some (.int (m:Nat)),none,none,none,none,none] H K:=fun m hm K q=>by
  have q:K .next [some (.ref 1),some (.ref 2),some (.int h),some l,some (.bool bl),some (.int x),some (.int (m:Nat)),none,none,none,some (.int ((List.replicate (pA m).1 (V.int (-1))).length:Nat)),some (.int ((List.replicate (pA m).2 (V.int (-1))).length:Nat))] (H++[.list gG]++[.list gG]):=by
   rw[List.length_replicate,List.length_replicate];exact q
  exact EW (hO aQ (fQ (k:=m) (n:=6) hm) (rU hm).2 (EW (hO aQ (fQ (k:=m) (n:=6) hm) (rU hm).2 q)))
 cases bl with
 | true=>
  obtain⟨j,m,Ej,hv,hm,KS⟩: ∃ j m:Nat,fY (x.fmod 3) 3=some j/\[V.int 0,.int 2,.int 5][j]? = some (.int (m:Nat))/\m<6/\(pA m).1=(pA m).2:=by
   obtain⟨f0,f3⟩:=gL x 3 (by decide);have c3:x.fmod 3=0\/x.fmod 3=1\/x.fmod 3=2:=by lia
   rcases c3 with q|q|q
   ·exact⟨0,0,by rw[q];rfl,rfl,by decide,rfl⟩
   ·exact⟨1,2,by rw[q];rfl,rfl,by decide,rfl⟩
   ·exact⟨2,5,by rw[q];rfl,rfl,by decide,rfl⟩
  exact jB (fun _ q=>kN Ej hv q) (jB (fun K q=>mid m hm K q) (jB (fun _ q=>q) (q m 0 hm (Nat.zero_le _) fun _=>⟨KS,rfl⟩)))
 | false=>
  obtain⟨f0,f6⟩:=gL x 6 (by decide);have hm:(x.fmod 6).toNat<6:=(Int.toNat_lt f0).mpr f6;have e:=Int.toNat_of_nonneg f0;refine jB (ρ':=[some (.ref 1),some (.ref 2),some (.int h),some l,some (.bool false),some (.int x),some (.int (x.fmod 6)),none,none,none,none,none]) (fun _ q=>q) ?_;rw[<- e];generalize (x.fmod 6).toNat=m at *;refine jB (fun K q=>mid m hm K q) ?_;by_cases hc:(x.fdiv 6).fmod 2=1
  ·exact jB (ρ':=[some (.ref 1),some (.ref 2),some (.int h),some l,some (.bool false),some (.int x),some (.int m),some (.int (1:Nat)),none,none,some (.int ((pA m).1:Nat)),some (.int ((pA m).2:Nat))]) (fun _ q=>rF (beq_iff_eq.mpr hc) q) (q m 1 hm (Nat.le_refl _) (fun q=>Bool.noConfusion q))
  ·exact jB (ρ':=[some (.ref 1),some (.ref 2),some (.int h),some l,some (.bool false),some (.int x),some (.int m),some (.int (0:Nat)),none,none,some (.int ((pA m).1:Nat)),some (.int ((pA m).2:Nat))]) (fun _ q=>Cw (beq_eq_false_iff_ne.mpr hc) q) (q m 0 hm (Nat.zero_le _) (fun q=>Bool.noConfusion q))
end
section
variable{sc sq:List Int}{d a b h k:Nat}{Q:PE}{r:Hp}{code:List aR}{L:List (Nat×Bool)}{x:Int}{K:PS}{bl:Bool}
theorem GX{ys:List V}{LL:List (Nat×Bool)}{Q:V×Hp->Prop}(hL:r[k]? = some (iJ L))(hy:L.map ED++ys=LL.map ED)(hz:LL.length<=1000)(q:Q (.ref ((r++[aY.list ys]).length+3),g3 sq a b code (r++[.list ys]++[iJ LL]))):cJ (Do .add (.ref (k+3)) (.ref (g3 sq a b code r).length) (g3 sq a b code r++[.list ys])) Q:=by
 refine AH (xs:=L.map ED) (ys:=ys) (bV (show (g3 sq a b code r)[k+3]? = some (iJ L) from hL)) aQ ?_ ?_
 ·have:=congrArg List.length hy
  rw[List.length_append] at this;rw[this,List.length_map];exact decide_eq_true (Nat.le_trans hz (by decide))
 ·rw[hy];exact q
noncomputable def xJ(bl:Bool)(m:Nat):Nat×Bool:=if bl then ((pA m).1,true) else ((pA m).2,false)
theorem Fj{m more:Nat}(hz:code.length<80000)(hL:r[k]? = some (iJ L))(hm:m<6)(Au:more<=1)(hb:bl=true->more=0)(hh:h<=900)(bE:L.length<=5)
  (q: ∀ fs r1 pY,pR fs->fs.length=(pA m).1+more - h->mR r r1->r1[pY]? = some (iJ (L++[xJ bl m]))->eI (cx sc) (Cl sc (d+1)) (bA.drop 6) [some (.ref 1),some (.ref 2),some (.int (h+fs.length:Nat)),some (.ref (k+3)),some (.bool bl),some (.int x),some (.int m),some (.int more),some (.ref (pY+3)),none,some (.int ((pA m).1:Nat)),some (.int ((pA m).2:Nat))] (g3 sq a b (code++(fs++[Nf bl more (wJ m)])) r1) K):
  eI (cx sc) (Cl sc (d+1)) (bA.drop 3) [some (.ref 1),some (.ref 2),some (.int h),some (.ref (k+3)),some (.bool bl),some (.int x),some (.int m),some (.int more),none,none,some (.int ((pA m).1:Nat)),some (.int ((pA m).2:Nat))] (g3 sq a b code r) K:=by
 obtain⟨ht,zO,uR⟩:=Jc hm;refine xT (high:=h) (many:=(pA m).1+more) rfl (Int.natCast_add ..).symm (x.fdiv 12) (Nat.lt_of_lt_of_le (Nat.add_lt_add_of_lt_of_le hz (Nat.add_le_add zO Au)) (by decide)) fun fs hF hl=> ?_;have pX:fs.length<=3:=hl▸Nat.le_trans (Nat.sub_le _ _) (Nat.add_le_add zO Au);have GI:(code++fs).length<100000:=by rw[List.length_append];exact Nat.lt_trans (Nat.add_lt_add_of_lt_of_le hz pX) (by decide)
 have Yk:(L++[xJ bl m]).length<=1000:=by rw[List.length_append];exact Nat.le_trans (Nat.add_le_add_right bE 1) (by decide)
 have q: ∀ o ys,eI (cx sc) (Cl sc (d+1)) (bA.drop 6) [some (.ref 1),some (.ref 2),some (.int (h+fs.length:Nat)),some (.ref (k+3)),some (.bool bl),some (.int x),some (.int m),some (.int more),some (.ref ((r++[o]++[aY.list ys]).length+3)),none,some (.int ((pA m).1:Nat)),some (.int ((pA m).2:Nat))] (g3 sq a b (code++fs++[Nf bl more (wJ m)]) (r++[o]++[.list ys]++[iJ (L++[xJ bl m])])) K:=fun o ys=>by
  rw[List.append_assoc code fs];exact q fs _ _ hF hl (((mR.refl r).iB.iB).iB) aQ
 have Yl: ∀ o,(r++[o])[k]? = some (iJ L):=fun o=>bV hL;cases bl with
 | true=>
  have h0:=hb rfl;subst h0;refine sL aQ (tY aQ (xA (rU hm).1 (AJ (i:=.kO (wJ m)) GI ?_)));exact GX (LL:=L++[xJ true m]) (Yl _) (by rw[List.map_append];rfl) Yk (q _ _)
 | false=>
  have VT:more=0\/more=1:=(Nat.lt_or_ge more 1).imp Nat.lt_one_iff.mp fun h1=>Nat.le_antisymm Au h1;rcases VT with rfl|rfl
  ·refine sL aQ (tY aQ (xA (rU hm).1 (AJ (i:=.block (wJ m)) GI ?_)))
   exact GX (LL:=L++[xJ false m]) (Yl _) (by rw[List.map_append];rfl) Yk (q _ _)
  ·refine sL aQ (tY aQ (xA (rU hm).1 (AJ (i:=.iff (wJ m)) GI ?_)))
   exact GX (LL:=L++[xJ false m]) (Yl _) (by rw[List.map_append];rfl) Yk (q _ _)
end
noncomputable def uU(sc sq:List Int)(d n:Nat):Prop:=∀ (a jU:Nat) (code:List aR) (r:Hp) (k:Nat) (L:List (Nat×Bool)) (h:Nat) (Q:PE),r[k]? = some (iJ L)->jG L->5<=L.length+n->code.length+h+16*jU<=800->a+3*jU<=899->
 (∀ h' cC r' a2 fD,gC L (some h) cC h'->cC.length+h'.getD 0+16*fD<=h+16*jU->a2+3*fD<=a+1+3*jU->fD<=jU->mR r r'->Q (hV h') (g3 sq a2 fD (code++cC) r'))->
 Wf sc d 92 [.ref 1,.ref 2,.int h,.ref (k+3)] (g3 sq a jU code r) Q
theorem Ae{gM:Option Nat}{r:Nat}: wO (gM.map fun _=>r) r:=by
 cases gM with
 | none=>exact .inr rfl
 | some n=>exact .inl rfl
theorem Zz{s n t p m x y:Nat}(hl:s+n+x<=p+y)(e:t=n - m+(m - n)):s+t+x<=p+m+y:=by
 have e1:t<=n+m:=e▸Nat.add_le_add (Nat.sub_le n m) (Nat.sub_le m n);clear e;lia
section
variable{sc sq:List Int}{d a b h k p rr more n:Nat}{Q:PE}{r:Hp}{code:List aR}{L:List (Nat×Bool)}{x:Int}{K:PS}{cl:Call}{o0 o3 o4 o5 o6 o8 o9:Option V}
theorem pJ(hz:code.length<80000)(sT:p+more<=h)(q:Q (.int (h - p - more+rr:Nat)) (g3 sq a b (code++[.cV]) r)):
  eI (cx sc) cl (bA.drop 10) [o0,some (.ref 2),some (.int h),o3,o4,o5,o6,some (.int more),o8,o9,some (.int p),some (.int rr)] (g3 sq a b code r) fun fl _ h1=>Q (eG fl) h1:=by
 have e:(h:Int) - p - more+rr=(h - p - more+rr:Nat):=by rw[Int.natCast_add,Nat.sub_sub,Int.ofNat_sub sT,Int.natCast_add,Int.sub_sub]
 rw[<- e] at q;exact tS (i:=.cV) (Nat.lt_trans hz (by decide)) q
theorem Hw(hz:code.length<80000)(sT:p<=h)(hp:p<=2)(q:Q (.int (h - p - 0+p:Nat)) (g3 sq a b (code++[.cV]) r)):
  eI (cx sc) (Cl sc (d+2)) (bA.drop 7) [o0,some (.ref 2),some (.int h),o3,some (.bool true),o5,o6,some (.int (0:Nat)),o8,some .none,some (.int p),some (.int p)] (g3 sq a b code r) fun fl _ h1=>Q (eG fl) h1:=by
 refine xU [] (h:=none) (many:=p) rfl (Nat.le_trans hp (by decide)) (Nat.zero_le _) hz fun cC hs hl=> ?_;rw[List.eq_nil_of_length_eq_zero hl,List.append_nil];exact pJ hz sT q
theorem Hx(hz:code.length<70000)(sT:p<=h)(hp:p<=2)(hn:n<=1000)(q: ∀ s3 r',gC L (some n) s3 (some p)->s3.length=n - p+(p - n)->mR r r'->Q (.int (h - p - 0+p:Nat)) (g3 sq a b (code++s3++iV++[.cV]) r')):
  eI (cx sc) (Cl sc (d+2)) (bA.drop 7) [o0,some (.ref 2),some (.int h),o3,some (.bool true),o5,o6,some (.int (0:Nat)),o8,some (.int n),some (.int p),some (.int p)] (g3 sq a b code r) fun fl _ h1=>Q (eG fl) h1:=by
 have step: ∀ K:PS,(∀ s3 r',gC L (some n) s3 (some p)->s3.length=n - p+(p - n)->mR r r'->K .next [o0,some (.ref 2),some (.int h),o3,some (.bool true),o5,o6,some (.int (0:Nat)),o8,some (.int p),some (.int p),some (.int p)] (g3 sq a b (code++s3++iV) r'))->
   eI (cx sc) (Cl sc (d+2)) (DU bA[7]?) [o0,some (.ref 2),some (.int h),o3,some (.bool true),o5,o6,some (.int (0:Nat)),o8,some (.int n),some (.int p),some (.int p)] (g3 sq a b code r) K:=fun K q=>
  xU L (h:=some n) (many:=p) rfl (Nat.le_trans hp (by decide)) hn (Nat.lt_trans hz (by decide)) fun s3 hs hl=>Gy (t:=iV) rfl (by
   have hl:s3.length=n - p+(p - n):=hl;rw[List.length_append];exact Nat.lt_trans (n9 hz hp hn hl) (by decide)) (q s3 _ hs hl (mR.refl r).iB)
 refine step _ fun s3 r' hs hl he=> ?_;have fz:(code++s3++iV).length<80000:=by
  rw[List.length_append,List.length_append];exact Nat.lt_trans (n9 hz hp hn hl) (by decide)
 refine xU [] (h:=some p) (many:=p) rfl (Nat.le_trans hp (by decide)) (Nat.le_trans hp (by decide)) fz fun s5 gw VN=> ?_;have VN:s5.length=p - p+(p - p):=VN;have e5:s5=[]:=List.eq_nil_of_length_eq_zero (by rw[VN,Nat.sub_self]);rw[e5,List.append_nil];exact pJ fz sT (q s3 r' hs hl he)
theorem Fh{m:Nat}{o5:Option V}(hi:uU sc sq (d+2) m){jU pY:Nat}{LI:List (Nat×Bool)}(uQ:r[pY]? = some (iJ LI))(ok:jG LI)(hn:5<=LI.length+m)(hz:code.length+1+p+16*jU<=800)(LR:a+3*jU<=899)(hr:rr<=2)
  (q: ∀ FD Ra s6 r' a2 qY,gC LI (some p) Ra FD->gC LI FD s6 (FD.map fun _=>rr)->Ra.length+s6.length+16*qY<=p+rr+16*jU->a2+3*qY<=a+1+3*jU->qY<=jU->mR r r'->K .next [some (.ref 1),some (.ref 2),o3,o4,o5,o6,o8,o9,some (.ref (pY+3)),o0,some (.int p),some (.int rr)] (g3 sq a2 qY (code++[.nO]++Ra++s6) r')):
  eI (cx sc) (Cl sc (d+2)) (DU bA[9]?) [some (.ref 1),some (.ref 2),o3,o4,o5,o6,o8,o9,some (.ref (pY+3)),o0,some (.int p),some (.int rr)] (g3 sq a jU code r) K:=by
 have Oi:(code++[aR.nO]).length=code.length+1:=by rw[List.length_append];rfl
 have h8:code.length<=800:=Nat.le_trans (Nat.le_add_right _ 1) (Nat.le_trans (Nat.le_add_right _ p) (Nat.le_trans (Nat.le_add_right _ _) hz));have h9:p+16*jU<=800:=Nat.le_trans (Nat.le_add_left _ (code.length+1)) (Nat.add_assoc _ p _▸hz);refine tS (i:=.nO) (Nat.lt_of_le_of_lt h8 (by decide)) (hi a jU _ r pY LI p _ uQ ok hn (by rw[Oi];exact hz) LR fun FD Ra r2 a2 qY hs hl ha hb hE=> ?_);have bE:(code++[aR.nO]++Ra).length<80000:=by rw[List.length_append,Oi];exact Nat.lt_of_le_of_lt (Nat.add_le_add (Nat.add_le_add_right h8 1) (Nat.le_trans (Nat.le_trans (Nat.le_add_right _ _) (Nat.le_add_right _ _)) (Nat.le_trans hl h9))) (by decide)
 refine xU LI (h:=FD) (many:=rr) rfl (Nat.le_trans hr (by decide)) (Nat.le_trans (Nat.le_trans (Nat.le_add_left _ _) (Nat.le_add_right _ _)) (Nat.le_trans hl (Nat.le_trans h9 (by decide)))) bE fun s6 Vi SX=>q FD Ra s6 r2 a2 qY hs Vi ?_ ha hb hE;clear q;cases FD with
 | none=>
  have q1:s6.length=0:=SX;rw[q1];exact Nat.le_trans hl (Nat.add_le_add_right (Nat.le_add_right p rr) _)
 | some n=>
  exact Zz hl SX
end
theorem fM{L:List (Nat×Bool)}{h h' k k':Nat}{s:List aR}(x:gC L (some h) s (some h'))(e:h=k)(e':h'=k'):gC L (some k) s (some k'):=by subst e e';exact x
section
variable{a f s s3 l u v:List aR}{i j e:aR}
theorem ko:a++(f++[i])++s++[j]=a++(f++(i::(s++[j]))):=by simp
theorem kq:a++(f++[i])++s++s3++l++[j]=a++(f++(i::(((s++s3)++l)++[j]))):=by simp
theorem kr:a++(f++[i])++s++s3++[j]=a++(f++(i::((s++s3)++[j]))):=by simp
theorem kt:a++(f++[i])++s++s3++[e]++u++v++[j]=a++(f++(i::((s++s3)++e::((u++v)++[j])))):=by simp
end
theorem Zy{c h b w s k b2:Nat}(hz:c+h+16*(b+1)<=800)(hw:w<=3)(hs:s+16*b2<=k+16*b)(hk:k<=4):c+w+1+s+1+2+16*b2<=800:=by lia
theorem XY{x k n:Nat}(hn:800<=n)(h:x+1+2+k<=800):x<n:=by lia
theorem XZ{f v:List aR}{i j:aR}{u h b b2 k rr:Nat}(hu:u<=h)(hw:f.length<=3)(hs:v.length+16*b2<=k+16*b)(hk:k+rr<=11):(f++(i::(v++[j]))).length+(u+rr)+16*b2<=h+16*(b+1):=by
 rw[List.length_append,List.length_cons,List.length_append];show f.length+(v.length+1+1)+(u+rr)+16*b2<=h+16*(b+1);revert hs hw;generalize v.length=x;generalize f.length=y;intro hw hs;lia
theorem jb{c h b s n x p:Nat}(hz:c+h+16*(b+1)<=800)(hp:p<=2)(hl:s+n+x<=p+16*b):n<=1000:=by lia
theorem rm{s p x y:Nat}(hl:s+x<=p+y):s+5+x<=p+5+y:=by lia
theorem rn{k s t x y z:Nat}(h1:k+1+2+x<=800)(h2:s+t+z<=y+x)(h:y<=4):k+1+s+t<80000:=by lia
theorem ro{a b x y:Nat}(h:x+y<=a+1+b):x+1+y<=a+2+b:=by lia
theorem rq{a b n:Nat}(h:a+b<=n):a+1+b<=n+1:=by lia
theorem rk{s t q x y z:Nat}(h1:s+x<=q+y)(h2:t+z<=q+x):s+(t+1)+z<=2*q+1+y:=by lia
section
variable{sc sq:List Int}{d a jU h k p rr more n:Nat}{Q:PE}{r:Hp}{code:List aR}{L:List (Nat×Bool)}{x:Int}{K:PS}{bl:Bool}
theorem EU{l:V}
  (q: ∀ m more:Nat,m<6->more<=1->(bl=true->(pA m).1=(pA m).2/\more=0)->eI (cx sc) (Cl sc (d+1)) (bA.drop 3) [some (.ref 1),some (.ref 2),some (.int h),some l,some (.bool bl),some (.int x),some (.int (m:Nat)),some (.int (more:Nat)),none,none,some (.int ((pA m).1:Nat)),some (.int ((pA m).2:Nat))] (g3 sq a jU code (r++[.list gG]++[.list gG])) K):
  eI (cx sc) (Cl sc (d+1)) bA [some (.ref 1),some (.ref 2),some (.int h),some l,some (.bool bl),some (.int x),none,none,none,none,none,none] (g3 sq a jU code r) K:=Fi (H:=g3 sq a jU code r) q
theorem Hs(hi:uU sc sq (d+2) n)(hL:r[k]? = some (iJ L))(ok:jG L)(eA:L.length<5)(hn:5<=L.length+1+n)(hz:code.length+h+16*(jU+1)<=800)(LR:a+3*jU<=898)
  (q: ∀ h' cC r' a2 fD,gC L (some h) cC (some h')->cC.length+h'+16*fD<=h+16*(jU+1)->a2+3*fD<=a+2+3*jU->fD<=jU->mR r r'->Q (.int (h':Nat)) (g3 sq a2 fD (code++cC) r')):
  Wf sc (d+3) 91 [.ref 1,.ref 2,.int h,.ref (k+3),.bool bl,.int x] (g3 sq a jU code r) Q:=by
 refine enter rfl rfl (EU (K:=fun fl _ h1=>Q (eG fl) h1) fun m more hm Au hb=> ?_);obtain⟨ht,zO,uR⟩:=Jc hm;have e:=Fj (sc:=sc) (sq:=sq) (d:=d+1) (a:=a) (b:=jU) (h:=h) (k:=k) (r:=r++[.list gG]++[.list gG]) (code:=code) (L:=L) (x:=x) (bl:=bl) (m:=m) (more:=more) (K:=fun fl _ h1=>Q (eG fl) h1);refine e ?_ (bV (bV hL)) hm Au (fun q=>(hb q).2) ?_ (Nat.le_of_lt eA) ?_
 ·exact Nat.lt_of_le_of_lt (Nat.le_trans (Nat.le_add_right _ _) (Nat.le_trans (Nat.le_add_right _ _) hz)) (by decide)
 ·exact Nat.le_trans (Nat.le_trans (Nat.le_add_left _ _) (Nat.le_trans (Nat.le_add_right _ _) hz)) (by decide)
 clear e;intro fs r1 pY hF pX hE uQ;have SL:mR r r1:=((mR.refl r).iB.iB).trans hE;have sF:=hF.cC (L:=L) (n:=h);have jD:(xJ bl m).1<=2:=by
  cases bl
  ·exact uR
  ·exact zO
 have ar:jG (L++[xJ bl m]):=ok.more eA jD;have Mk:(code++(fs++[Nf bl more (wJ m)])).length=code.length+fs.length+1:=by rw[List.length_append,List.length_append];rfl
 have ZC:5<=(L++[xJ bl m]).length+n:=by rw[List.length_append];exact hn
 have hw:fs.length<=(pA m).1+more:=pX▸Nat.sub_le _ _;have Sk:fs.length<=3:=Nat.le_trans hw (Nat.add_le_add zO Au);have sT:(pA m).1+more<=h+fs.length:=by rw[pX,Nat.add_comm h];exact Nat.le_add_of_sub_le (Nat.le_refl _)
 clear pX;refine hi a jU _ r1 pY _ (pA m).1 _ uQ ar ZC ?_ (Nat.le_succ_of_le LR) ?_
 ·rw[Mk]
  exact Nat.le_trans (Nat.add_le_add_right (Nat.add_le_add (Nat.le_add_right _ 1) zO) _) (Zy (s:=0) (k:=0) hz Sk (Nat.le_refl _) (by decide))
 intro gM sg r2 a2 qY hs hl ha MZ W5;have VK:=W5 _ _ uQ;have PN:=SL.trans W5;generalize hp:(pA m).1=p at *;generalize hr:(pA m).2=rr at *;generalize wJ m=t at *;obtain⟨u,hu⟩:=Nat.le.dest sT;have Ph:h+fs.length - p - more=u:=by rw[<- hu,Nat.sub_sub];exact Nat.add_sub_cancel_left _ _
 have XT:u<=h:=Nat.le_of_add_le_add_left (a:=p+more) (by rw[hu,Nat.add_comm h];exact Nat.add_le_add_right hw h);have Yn:a2+3*qY<=a+2+3*jU:=Nat.le_trans ha (Nat.add_le_add_right (Nat.le_succ _) _);show eI (cx sc) (Cl sc (d+2)) (bA.drop 7) [some (.ref 1),some (.ref 2),some (.int (h+fs.length:Nat)),some (.ref (k+3)),some (.bool bl),some (.int x),some (.int m),some (.int more),some (.ref (pY+3)),some (hV gM),some (.int p),some (.int rr)] (g3 sq a2 qY (code++(fs++[Nf bl more t])++sg) r2) fun fl _ h1=>Q (eG fl) h1;have yG:(code++(fs++[Nf bl more t])++sg).length=code.length+fs.length+1+sg.length:=by rw[List.length_append,Mk]
 have GK:=Zy hz Sk (Nat.le_trans (Nat.add_le_add_right (Nat.le_add_right _ _) _) hl) (Nat.le_trans zO (by decide));cases bl with
 | true=>
  obtain⟨ZM,RK⟩:=hb rfl;subst RK;rw[<- ZM] at ht uR ⊢;have Mi:xJ true m=(p,true):=by unfold xJ;rw[hp];rfl
  rw[Mi] at hs;have sT:p<=h+fs.length:=sT;have Vl:u+p=h+fs.length:=(Nat.add_comm u p).trans hu;cases gM with
  | none=>
   refine Hw (by rw[yG];exact XY (by decide) GK) sT zO ?_;rw[ko,Ph];exact q _ _ r2 a2 qY (sF.iB (fM (.BG ht hs) Vl rfl)) (XZ XT Sk hl (Nat.add_le_add (Nat.le_trans zO (by decide:2<=9)) zO)) Yn MZ PN
  | some nn=>
   refine Hx (L:=L++[(p,true)]) (by rw[yG];exact XY (by decide) GK) sT zO (jb hz zO hl) fun s3 r' Mt LX RE=> ?_;rw[kq,Ph];refine q _ _ r' a2 qY (sF.iB (fM (.kO ht (hs.iB Mt)) Vl rfl)) (XZ XT Sk (k:=p+p+5) ?_ ?_) Yn MZ (PN.trans RE)
   ·rw[List.length_append,List.length_append]
    exact rm (Zz hl LX)
   ·exact Nat.add_le_add (Nat.add_le_add (Nat.add_le_add zO zO) (Nat.le_refl 5)) zO
 | false=>
  have Mi:xJ false m=(rr,false):=by unfold xJ;rw[hr];rfl
  rw[Mi] at hs VK ar ZC;have hh:gM.getD 0<=1000:=jb hz zO hl;refine xU (L++[(rr,false)]) (h:=gM) (many:=rr) rfl (Nat.le_trans uR (by decide)) hh (by rw[yG];exact XY (by decide) GK) fun s3 Mt LX=> ?_;have SW:sg.length+s3.length+16*qY<=p+rr+16*jU:=by
   cases gM with
   | none=>
    have q1:s3.length=0:=LX;rw[q1];exact Nat.le_trans hl (Nat.add_le_add_right (Nat.le_add_right p rr) _)
   | some n=>exact Zz hl LX
  have Pf:p+rr<=4:=Nat.add_le_add zO uR;have Sn:code.length+fs.length+1+(sg.length+s3.length)+1+2+16*qY<=800:=Zy hz Sk SW Pf;have ZR:=gC.iB hs Mt;have Ar:wO (gM.map fun _=>rr) rr:=Ae;have Ml:(code++(fs++[Nf false more t])++sg++s3).length=code.length+fs.length+1+(sg.length+s3.length):=by rw[List.length_append,yG,Nat.add_assoc]
  show eI (cx sc) (Cl sc (d+2)) (bA.drop 9) [some (.ref 1),some (.ref 2),some (.int (h+fs.length:Nat)),some (.ref (k+3)),some (.bool false),some (.int x),some (.int m),some (.int more),some (.ref (pY+3)),some (hV gM),some (.int p),some (.int rr)] (g3 sq a2 qY (code++(fs++[Nf false more t])++sg++s3) r2) fun fl _ h1=>Q (eG fl) h1;clear GK hl LX hb jD hh;have plain: ∀ {i:aR},i=Nf false more t->gC L (some (h+fs.length)) (i::((sg++s3)++[.cV])) (some (u+rr))->
    eI (cx sc) (Cl sc (d+2)) (bA.drop 10) [some (.ref 1),some (.ref 2),some (.int (h+fs.length:Nat)),some (.ref (k+3)),some (.bool false),some (.int x),some (.int m),some (.int more),some (.ref (pY+3)),some (hV gM),some (.int p),some (.int rr)] (g3 sq a2 qY (code++(fs++[Nf false more t])++sg++s3) r2) fun fl _ h1=>Q (eG fl) h1:=fun {i} ei ZT=>by
   refine pJ (by rw[Ml];exact XY (by decide) Sn) sT ?_;rw[kr,<- ei,Ph];exact q _ _ r2 a2 qY (sF.iB ZT) (XZ XT Sk (by rw[List.length_append];exact SW) (Nat.add_le_add (Nat.le_trans Pf (by decide:4<=9)) uR)) Yn MZ PN
  have VT:more=0\/more=1:=by
   rcases Nat.lt_or_ge more 1 with h1|h1
   ·exact .inl (Nat.lt_one_iff.mp h1)
   ·exact .inr (Nat.le_antisymm Au h1)
  rcases VT with rfl|rfl
  ·exact plain (i:=.block t) rfl (fM (.block ht ZR Ar) ((Nat.add_comm u p).trans hu) rfl)
  ·have Vl:u+p+1=h+fs.length:=(Nat.add_comm u (p+1)).trans hu
   have nO:eI (cx sc) (Cl sc (d+2)) (DU bA[9]?) [some (.ref 1),some (.ref 2),some (.int (h+fs.length:Nat)),some (.ref (k+3)),some (.bool false),some (.int x),some (.int m),some (.int (1:Nat)),some (.ref (pY+3)),some (hV gM),some (.int p),some (.int rr)] (g3 sq a2 qY (code++(fs++[Nf false 1 t])++sg++s3) r2) (jE (fun ρ h=>eI (cx sc) (Cl sc (d+2)) (bA.drop 10) ρ h fun fl _ h1=>Q (eG fl) h1) fun fl _ h1=>Q (eG fl) h1):=by
    refine Fh hi VK ar ZC (by rw[Ml];exact Nat.le_trans (Nat.add_le_add_right (Nat.add_le_add_left zO _) _) Sn) ?_ uR fun FD Ra s6 r' a3 L4 gw Vi SX Yo XB RE=> ?_
    ·exact Nat.le_trans ha (rq LR)
    refine pJ (by rw[List.length_append,List.length_append,List.length_append,Ml];exact rn Sn SX Pf) sT ?_;rw[kt,Ph];refine q _ _ r' a3 L4 (sF.iB (fM (.nO ht ZR Ar (gw.iB Vi) Ae) Vl rfl)) ?_ (Nat.le_trans Yo (ro ha)) (Nat.le_trans XB MZ) (PN.trans RE);have:=XZ (i:=Nf false 1 t) (j:=.cV) (v:=(sg++s3) ++ .nO::(Ra++s6)) (k:=2*(p+rr)+1) XT Sk (by rw[List.length_append,List.length_append,List.length_cons,List.length_append];exact rk SW SX) (Nat.add_le_add (Nat.add_le_add_right (Nat.mul_le_mul_left 2 Pf) 1) uR);rwa [List.append_assoc,List.cons_append] at this
   refine bQ (fun hc=>rF hc nO) fun hc=>bQ (fun _=>nO) fun mz=> ?_;have hc:(!((p:Int)==(rr:Int)))=false:=hc;have ZM:p=rr:=Decidable.byContradiction fun rZ=>by
    rw[show ((p:Int)==(rr:Int))=false from beq_eq_false_iff_ne.mpr fun q=>rZ (Int.ofNat.inj q)] at hc;exact Bool.noConfusion (show true=false from hc)
   subst ZM;exact plain (i:=.iff t) rfl (fM (.iff ht ZR Ar) Vl rfl)
end
noncomputable def DY(sc sq:List Int)(d n:Nat):Prop:=∀ (a jU:Nat) (code:List aR) (r:Hp) (k:Nat) (L:List (Nat×Bool)) (h:Nat) (Q:PE),r[k]? = some (iJ L)->jG L->5<=L.length+n->code.length+h+16*(jU+1)<=800->a+3*(jU+1)<=900->
 (∀ h' cC r' a2 fD,gC L (some h) cC h'->cC.length+h'.getD 0+16*fD<=h+16*(jU+1)->a2+3*fD<=a+3*(jU+1)->fD<=jU->mR r r'->Q (hV h') (g3 sq a2 fD (code++cC) r'))->
 Wf sc d 93 [.ref 1,.ref 2,.int h,.ref (k+3)] (g3 sq a (jU+1) code r) Q
section
variable{sc sq:List Int}{d n:Nat}
theorem QF(hi:DY sc sq (d+1) n):uU sc sq (d+2) n:=by
 intro a jU code r k L h Q hL ok hn hz LR q;refine enter rfl rfl (Nv (by clear q hi;lia) fun x=> ?_);obtain⟨f0,f3⟩:=gL x 3 (by decide);have e:(1:Int)+x.fmod 3=((1+(x.fmod 3).toNat:Nat):Int):=by rw[Int.natCast_add,Int.toNat_of_nonneg f0];rfl
 refine nB (xY (by clear q hi;lia) (by clear q hi;lia)) (sE e (fun j ρ H=>Ue (fun hh v _ _ _ _=>ρ=[some (.ref 1),some (.ref 2),some (hV hh),some (.ref (k+3)),v]) (fun _ _ a2 fD cC r'=>H=g3 sq a2 fD (code++cC) r') (fun hh _ _ _ cC _=>gC L (some h) cC hh) (fun hh _ _ fD cC _=>cC.length+hh.getD 0+16*fD<=h+16*jU) (fun _ _ a2 fD _ _=>a2+3*fD<=a+1+3*jU) (fun _ _ _ fD _ _=>fD<=jU) (fun _ _ _ _ _ r'=>mR r r')) ?_ ?_ ?_)
 ·exact⟨some h,none,a+1,jU,[],r,rfl,by rw[List.append_nil],.nil,by show 0+h+16*jU<=_;rw[Nat.zero_add];exact Nat.le_refl _,Nat.le_refl _,Nat.le_refl _,mR.refl r⟩
 ·intro ρ H j
  obtain⟨hh,v,a2,fD,cC,r',e1,e2,hs,hl,ha,hb,hE⟩:=j;rw[e1,e2];exact q hh cC r' a2 fD hs hl ha hb hE
 ·intro j ρ H hj jj go gV
  obtain⟨hh,v,a2,fD,cC,r',e1,e2,hs,hl,ha,hb,hE⟩:=jj;rw[e1,e2];have IH:go [some (.ref 1),some (.ref 2),some (hV hh),some (.ref (k+3)),some (.int (j:Nat))] (g3 sq a2 fD (code++cC) r'):=gV _ _ ⟨hh,_,a2,fD,cC,r',rfl,rfl,hs,hl,ha,hb,hE⟩;refine pU (fun _=>IH) fun hc=> ?_;have hc:(fD:Int)>0:=of_decide_eq_true hc;cases hh with
  | none=>exact IH
  | some h2=>
   obtain⟨b,rfl⟩: ∃ b,fD=b+1:=⟨fD - 1,(Nat.sub_add_cancel (Int.ofNat_lt.mp hc)).symm⟩;have hl:cC.length+h2+16*(b+1)<=h+16*jU:=hl;refine hi a2 b (code++cC) r' k L h2 _ (hE _ _ hL) ok hn ?_ ?_ fun h' s2 r2 a3 L4 Ol LX Yo XB RE=>gV _ _ ⟨h',_,a3,L4,cC++s2,r2,rfl,by rw[List.append_assoc],hs.iB Ol,?_,?_,?_,hE.trans RE⟩
   ·rw[List.length_append];clear q hi gV IH;lia
   ·clear q hi gV IH;lia
   ·rw[List.length_append];clear q hi gV IH;lia
   ·clear q hi gV IH;lia
   ·clear q hi gV IH;lia
end
noncomputable def MD:List (Int×V):=[(4,.int 2),(9,.int 3),(15,.int 2)]
noncomputable def Uq(op y:Int):List (Int×V):=[(4,.aM [.int op]),(5,.aM [.int 69]),(6,.aM [.int 33,.int (y.fmod 3)]),(7,.aM [.int 34,.int (y.fmod 3)]),(8,.aM [.int 26]),(9,.aM [.int 27]),(15,.aM [.int 16,.int 0])]
noncomputable def Q8:List (Int×V):=[(4,.int 1),(6,.int 1),(8,.int 1),(9,.int 2)]
theorem LH(y:Int): ∃ op∈pP,∃ j,fY (y.fmod 7) 7=some j/\(pP.map V.int)[j]? = some (.int op):=by
 obtain⟨f0,f1⟩:=gL y 7 (by decide);have eA:(y.fmod 7).toNat<pP.length:=(Int.toNat_lt f0).mpr f1;have:=fQ (n:=7) eA;rw[Int.toNat_of_nonneg f0] at this;exact⟨_,List.getElem_mem eA,_,this,dR (List.getElem?_eq_getElem eA)⟩
inductive Rs(L:List (Nat×Bool))(op y w:Int):Prop where
 | mk(many BB:Nat)(i:aR)(_:(cA MD w).getD (.int 1)= .int many)(_:(cA (Uq op y) w).getD (.aM [.int 1])=i.v)(_:(cA Q8 w).getD (.int 0)= .int BB)(_:many<=3)(_:BB<=many)(_: ∀ k,many<=k->gC L (some k) [i] (some (k - BB)))
theorem Hf{w y op:Int}(kC:op∈pP)(w0:4<=w)(w1:w<12\/w=15)(L:List (Nat×Bool)):Rs L op y w:=by
 obtain⟨y0,y3⟩:=gL y 3 (by decide);have cw:w=4\/w=5\/w=6\/w=7\/w=8\/w=9\/w=10\/w=11\/w=15:=by lia
 rcases cw with rfl|rfl|rfl|rfl|rfl|rfl|rfl|rfl|rfl
 ·exact⟨2,1,.lP op,rfl,rfl,rfl,by decide,by decide,fun k hk=>fM (.lP (h:=k - 2) kC) (Nat.sub_add_cancel hk) (V1 hk)⟩
 ·exact⟨1,0,.zM,rfl,rfl,rfl,by decide,by decide,fun k hk=>fM (.zM (h:=k - 1)) (Nat.sub_add_cancel hk) (Nat.sub_add_cancel hk)⟩
 ·exact⟨1,1,.set (y.fmod 3),rfl,rfl,rfl,by decide,by decide,fun k hk=>fM (.set (h:=k - 1) y0 y3) (Nat.sub_add_cancel hk) rfl⟩
 ·exact⟨1,0,.LF (y.fmod 3),rfl,rfl,rfl,by decide,by decide,fun k hk=>fM (.LF (h:=k - 1) y0 y3) (Nat.sub_add_cancel hk) (Nat.sub_add_cancel hk)⟩
 ·exact⟨1,1,.drop,rfl,rfl,rfl,by decide,by decide,fun k hk=>fM (.drop (h:=k - 1)) (Nat.sub_add_cancel hk) rfl⟩
 ·exact⟨3,2,.cG,rfl,rfl,rfl,by decide,by decide,fun k hk=>fM (.cG (h:=k - 3)) (Nat.sub_add_cancel hk) (V1 hk)⟩
 ·exact⟨1,0,.LZ,rfl,rfl,rfl,by decide,by decide,fun k hk=>.LZ⟩
 ·exact⟨1,0,.LZ,rfl,rfl,rfl,by decide,by decide,fun k hk=>.LZ⟩
 ·exact⟨2,0,.call,rfl,rfl,rfl,by decide,by decide,fun k hk=>fM (.call (h:=k - 2)) (Nat.sub_add_cancel hk) (Nat.sub_add_cancel hk)⟩
section
variable{sc sq:List Int}{d a b h k n:Nat}{Q:PE}{r:Hp}{code:List aR}{L:List (Nat×Bool)}{w y:Int}{o0 o3:Option V}
theorem QH(hz:code.length<80000)(w0:4<=w)(w1:w<12\/w=15)(L:List (Nat×Bool))(q: ∀ h' cC r',gC L (some h) cC (some h')->cC.length+h'<=h+16->mR r r'->Q (.int (h':Nat)) (g3 sq a b (code++cC) r')):
  eI (cx sc) (Cl sc (d+1)) (iI.drop 6) [o0,some (.ref 2),some (.int h),o3,some (.int y),none,some (.int w)] (g3 sq a b code r) fun fl _ h1=>Q (eG fl) h1:=by
 obtain⟨op,kC,j,Ej,hv⟩:=LH y;obtain⟨many,BB,i,h1,h2,h3,hm,hl,hs⟩:=Hf (y:=y) kC w0 w1 L;refine sL aQ (tY aQ (xA h1 ?_));show eI (cx sc) (Cl sc (d+1)) (iI.drop 7) [o0,some (.ref 2),some (.int h),o3,some (.int y),some (.int many),some (.int w)] (g3 sq a b code (r++[.dict MD none])) fun fl _ h1=>Q (eG fl) h1;refine xT (high:=h) (many:=many) rfl rfl (y.fdiv 7) (Nat.lt_of_lt_of_le (Nat.add_lt_add_of_lt_of_le hz hm) (by decide)) fun fs hF pX=> ?_;obtain⟨sF,sT⟩:=zT (L:=L) hF pX;have oa:fs.length<=3:=by rw[pX];exact Nat.le_trans (Nat.sub_le ..) hm
 have bE:(code++fs).length<100000:=by rw[List.length_append];exact Nat.lt_of_lt_of_le (Nat.add_lt_add_of_lt_of_le hz oa) (by decide)
 have e:((h+fs.length:Nat):Int) - BB=(h+fs.length - BB:Nat):=(Int.ofNat_sub (Nat.le_trans hl sT)).symm;refine kN Ej hv (sL aQ (tY aQ (xA h2 (AJ (i:=i) bE (sL aQ (tY aQ (xA h3 ?_)))))));have q:=q (h+fs.length - BB) (fs++[i]) (r++[.dict MD none]++[.dict (Uq op y) none]++[.dict Q8 none]) (sF.iB (hs _ sT)) (by rw[List.length_append];exact (show fs.length+1+(h+fs.length - BB)<=h+16 by lia)) (mR.refl r).iB.iB.iB;rw[<- e,<- List.append_assoc] at q;exact q
end
section
variable{sc sq:List Int}{d a b h k n:Nat}{Q:PE}{r:Hp}{code:List aR}{L:List (Nat×Bool)}{w y:Int}{K:PS}
theorem Hq(hb:L.length<5->dO (fun m=>n=m+1) (fun m=>uU sc sq (d+2) m))(hL:r[k]? = some (iJ L))(ok:jG L)(hn:5<=L.length+n)(hz:code.length+h+16*(b+1)<=800)(LR:a+3*b<=898)(w0:0<=w)(w1:w<16)
  (q: ∀ h' cC r' a2 fD,gC L (some h) cC h'->cC.length+h'.getD 0+16*fD<=h+16*(b+1)->a2+3*fD<=a+2+3*b->fD<=b->mR r r'->Q (hV h') (g3 sq a2 fD (code++cC) r')):
  eI (cx sc) (Cl sc (d+3)) (iI.drop 3) [some (.ref 1),some (.ref 2),some (.int h),some (.ref (k+3)),some (.int y),none,some (.int w)] (g3 sq a b code r) fun fl _ h1=>Q (eG fl) h1:=by
 have XX:code.length<80000:=by clear q hb;lia
 have Ir:(g3 sq a b code r)[k+3]? = some (iJ L):=hL;have q0: ∀ h' cC r',gC L (some h) cC h'->cC.length+h'.getD 0<=h+16->mR r r'->Q (hV h') (g3 sq a b (code++cC) r'):=fun h' cC r' hs hl hE=>q h' cC r' a b hs (by clear q hb;lia) (by clear q hb;lia) (Nat.le_refl _) hE;obtain⟨y0,y3⟩:=gL y 3 (by decide);refine bQ (fun h4=> ?_) fun h4=> ?_
 ·have B8: ∀ i:aR,gC L (some h) [i] (some (h+1))->Q (.int ((h:Int)+1)) (g3 sq a b (code++[i]) r):=fun i hs=>q0 (some (h+1)) [i] r hs (by show 1+(h+1)<=_;clear q hb q0;lia) (mR.refl r)
  refine bQ (fun _=> ?_) fun _=> ?_
  ·exact tS (i:=.const (y.fmod 9 - 2)) (Nat.lt_trans XX (by decide)) (B8 _ .const)
  ·exact tS (i:=.get (y.fmod 3)) (Nat.lt_trans XX (by decide)) (B8 _ (.get y0 (Int.lt_trans y3 (by decide))))
 have h4: ¬ w<4:=of_decide_eq_false h4;have plain:(w<12\/w=15)->eI (cx sc) (Cl sc (d+3)) (iI.drop 6) [some (.ref 1),some (.ref 2),some (.int h),some (.ref (k+3)),some (.int y),none,some (.int w)] (g3 sq a b code r) fun fl _ h1=>Q (eG fl) h1:=fun h5=>
  QH (d:=d+2) XX (Int.not_lt.mp h4) h5 L fun h' cC r' hs hl hE=>q0 (some h') cC r' hs hl hE
 have jS:eI (cx sc) (Cl sc (d+3)) (iI.drop 5) [some (.ref 1),some (.ref 2),some (.int h),some (.ref (k+3)),some (.int y),none,some (.int w)] (g3 sq a b code r) fun fl _ h1=>Q (eG fl) h1:=by
  refine bQ (fun h5=>bQ (fun h6=> ?_) fun h6=>plain (.inr ?_)) fun h5=>plain (.inl ?_)
  ·have h5:11<w:=of_decide_eq_true h5
   have h6:w<15:=of_decide_eq_true h6;exact TZ (d:=d+1) XX hL ok (by clear q hb q0 plain;lia) (by clear q hb q0 plain;lia) fun h' cC r' hs hl hE=>q0 h' cC r' hs (Nat.le_trans hl (Nat.add_le_add_left (by decide) _)) hE
  ·have h6: ¬ w<15:=of_decide_eq_false h6
   clear q hb q0 plain;lia
  ·have h5: ¬ 11<w:=of_decide_eq_false h5
   clear q hb q0 plain;lia
 refine pU (fun _=>jS) fun _=>mB Ir (bQ (fun h5=> ?_) fun _=>jS);have h5:((L.map ED).length:Int)<5:=of_decide_eq_true h5;rw[List.length_map] at h5;obtain⟨m,em,hm⟩:=hb (Int.ofNat_lt.mp h5);exact Hs hm hL ok (Int.ofNat_lt.mp h5) (by rw[em] at hn;clear q hb q0 plain jS hm;lia) hz LR fun h' cC r' a2 fD hs hl ha MZ hE=>q (some h') cC r' a2 fD hs hl ha MZ hE
theorem Nq(hb: ∀ (L:List (Nat×Bool)),5<=L.length+n->L.length<5->dO (fun m=>n=m+1) (fun m=>uU sc sq (d+2) m)):DY sc sq (d+4) n:=by
 intro a jU code r k L h Q hL ok hn hz LR q;have e:(((jU+1:Nat):Int) - 1)=jU:=by clear q hb;lia
 refine enter rfl rfl (jB (ρ':=[some (.ref 1),some (.ref 2),some (.int h),some (.ref (k+3)),none,none,none]) (H':=g3 sq a jU code r) (fun K q=> ?_) (Nv (by clear q hb;lia) fun x=> ?_))
 ·have q:K .next [some (.ref 1),some (.ref 2),some (.int h),some (.ref (k+3)),none,none,none] (.list (sq.map .int):: .list [.ref 0,.int a,.int (((jU+1:Nat):Int) - 1)]::tE code::r):=by rw[e];exact q
  exact q
 obtain⟨f0,f1⟩:=gL x 16 (by decide);exact Hq (d:=d) (w:=x.fmod 16) (y:=x.fdiv 16) (hb L hn) hL ok hn hz (by clear q hb;lia) f0 f1 fun h' cC r' a2 fD hs hl ha MZ hE=>q h' cC r' a2 fD hs hl (by clear q hb;lia) MZ hE
theorem JC: ∀ n d,DY sc sq (3*n+4+d) n
 | 0,d=>by
  have:=Nq (sc:=sc) (sq:=sq) (d:=d) (n:=0) fun L h1 h2=>absurd h1 (by lia);rw[show 3*0+4+d=d+4 by lia];exact this
 | n+1,d=>by
  have hi:=JC n d;rw[show 3*n+4+d=(3*n+3+d)+1 by lia] at hi;have:=Nq (sc:=sc) (sq:=sq) (d:=3*n+3+d) (n:=n+1) fun L h1 h2=>⟨n,rfl,QF hi⟩;rw[show 3*(n+1)+4+d=3*n+3+d+4 by lia];exact this
end
noncomputable def yJ(n k i f:Nat):List (Nat×V):=[(17,.ref k),(59,.ref i),(60,.ref f),(61,.ref (n+4)),(62,.ref (n+5)),(63,.ref (n+6)),(64,.ref (n+7)),(65,.none),(66,.ref (n+8)),(67,.ref (n+9)),(68,.ref (n+10))]
section
variable{G:Cx}{P T H:Hp}{c a n:Nat}{fs fs':List (Nat×V)}{v v':V}
theorem Iq{k:Nat}: (P++T)[P.length+k]? = T[k]?:=by
 rw[List.getElem?_append_right (Nat.le_add_right ..),Nat.add_sub_cancel_left]
theorem Bl{Q:Hp->Prop}(eH:H=P ++ .inst c fs::T)(ev:v=v')(hd:G.iQ c a=true)(hf:tZ fs a v'=fs')(q:Q (P ++ .inst c fs'::T)):cJ (oA G (.ref P.length) a v H) Q:=by
 rw[eH,ev];refine .of (x:=P ++ .inst c fs'::T) ?_ q;show bO (bO (P++aY.inst c fs::T)[P.length]? CT) _=_;rw[show (P++aY.inst c fs::T)[P.length]? = some (.inst c fs) from Iq (k:=0)];refine (dJ hd).trans (congrArg some ?_);rw[<- hf];exact RZ rfl
theorem Po{l:Nat}{xs:List V}{Q:V×Hp->Prop}(e:H[l]? = some (.list xs))(q:Q (.ref H.length,H++[.list xs])):cJ (AZ G .list [.ref l] H) Q:=by
 refine .of (x:=(.ref H.length,H++[.list xs])) ?_ q;show bO (bO H[l]? nJ) _=_;rw[e];rfl
theorem mS{o x:aY}: (P++o::T)++[x]=P++o::(T++[x]):=List.append_assoc P (o::T) [x]
theorem BA{o:aY}(h:T.length+1=n):V.ref (P++o::T).length=V.ref (P.length+n):=by
 rw[List.length_append,List.length_cons,h]
end
section
variable{sc:List Int}{d:Nat}{P H:Hp}{Q:PE}
theorem tO{G:Cx}{cl:Call}{ρ:cP}{c a n:Nat}{fs fs':List (Nat×V)}{T T':Hp}{jS:List S}{Q:PS}(h0:HN ρ 0=some (.ref P.length))(hd:G.iQ c a=true)(hn:T.length+1=n)(hf:tZ fs a (.ref (P.length+n))=fs')(hT:T++[.list []]=T')(q:wZ G cl jS ρ (P ++ .inst c fs'::T') Q):wZ G cl (.bZ (.aA 0) a (.list [])::jS) ρ (P ++ .inst c fs::T) Q:=
by
 rw[B6] at q ⊢;exact .of h0 (Bl mS (BA hn) hd hf (hT▸q))
theorem WM{G:Cx}{cl:Call}{ρ:cP}{c a:Nat}{v:V}{fs fs':List (Nat×V)}{T:Hp}{jS:List S}{Q:PS}(h0:HN ρ 0=some (.ref P.length))(hd:G.iQ c a=true)(hf:tZ fs a v=fs')(q:wZ G cl jS ρ (P ++ .inst c fs'::T) Q):wZ G cl (.bZ (.aA 0) a (.aB v)::jS) ρ (P ++ .inst c fs::T) Q:=
by
 rw[B6] at q ⊢;exact .of h0 (Bl rfl rfl hd hf q)
theorem Kw{v1 v2 v3 v4:V}(q:Q .none (H++[.inst 11 [(55,v1),(56,v2),(57,v3),(58,v4)]])):Wf sc (d+1) 73 [.ref H.length,v1,v2,v3,v4] (H++[.inst 11 []]) Q:=
 enter rfl rfl (dG rfl (dG rfl (dG rfl (dG rfl q))))
theorem Ho{v1 v2 v3:V}(q:Q .none (H++[.inst 12 [(18,v1),(20,v2),(39,v3)]])):Wf sc (d+1) 75 [.ref H.length,v1,v2,v3] (H++[.inst 12 []]) Q:=
 enter rfl rfl (dG rfl (dG rfl (dG rfl q)))
theorem Ky(q:Q .none (P ++ .inst 13 (yJ P.length (P.length+1) (P.length+2) (P.length+3))::List.replicate 10 (.list []))):Wf sc (d+1) 77 [.ref P.length] (P++[.inst 13 []]) Q:=
 MH rfl rfl (tO (P:=P) (T:=[]) rfl rfl (n:=1) rfl rfl rfl (tO (n:=2) rfl rfl rfl rfl rfl (tO (n:=3) rfl rfl rfl rfl rfl (tO (n:=4) rfl rfl rfl rfl rfl (tO (n:=5) rfl rfl rfl rfl rfl (tO (n:=6) rfl rfl rfl rfl rfl (tO (n:=7) rfl rfl rfl rfl rfl (WM rfl rfl rfl (tO (n:=8) rfl rfl rfl rfl rfl (tO (n:=9) rfl rfl rfl rfl rfl (tO (n:=10) rfl rfl rfl rfl rfl (OY q))))))))))))
end
theorem To{G:Cx}{cl:Call}{e:E}{jS:List S}{ρ:cP}{H:Hp}{Q:PS}(h:wE G cl e ρ H fun v h1=>Q (.ret v) ρ h1):wZ G cl (.ret e::jS) ρ H Q:=by rw[B6];exact h
section
variable{sc:List Int}{d:Nat}{P H:Hp}{Q:PE}{code:List aR}
noncomputable def ke:Hp:=List.replicate 10 (.list [])
noncomputable def qy:aY:=.inst 11 [(55,.str "h"),(56,.str "f"),(57,.int 0),(58,.int 5)]
noncomputable def lq(n:Nat):aY:=.inst 12 [(18,.int 5),(20,KY 2),(39,.ref n)]
noncomputable def Z6:Hp:=ke++[.list gG]++[.list gG]
noncomputable def Z7(n:Nat):Hp:=Z6++[qy]++[.list [.ref (n+13)]]
noncomputable def Z8(n:Nat)(code:List aR):Hp:=Z7 n++[tE [.cV]]++[tE (code++[.cV])]++[lq (n+16)]++[.list [.ref (n+17)]]
noncomputable def mH(P:Hp)(code:List aR):Hp:=P ++ .inst 13 (yJ P.length (P.length+12) (P.length+14) (P.length+18))::Z8 P.length code
theorem Hy{o0 o2 o4:Option V}(hb:P[2]? = some (tE code))(hz:code.length<100000)(q:Q (.ref P.length) (mH P code)):eI (cx sc) (Cl sc (d+2)) (nF.drop 3) [o0,none,o2,some (.ref 2),o4] P fun fl _ h1=>Q (eG fl) h1:=by
 apply RX;refine wK (ρ':=[o0,some (.ref P.length),o2,some (.ref 2),o4]) (H':=P ++ .inst 13 (yJ P.length (P.length+1) (P.length+2) (P.length+3))::ke) (fun K q=>Ky ⟨rfl,q⟩) ?_;refine wK (ρ':=[o0,some (.ref P.length),o2,some (.ref 2),o4]) (H':=P ++ .inst 13 (yJ P.length (P.length+12) (P.length+2) (P.length+3))::Z6) (fun K q=>EW (Po aQ (Bl (T:=Z6) (v':=.ref (P.length+12)) (by rw[mS (P:=P),mS (P:=P)];rfl) (by rw[mS (P:=P)];exact BA rfl) rfl rfl q))) ?_;refine wK (ρ':=[o0,some (.ref P.length),o2,some (.ref 2),o4]) (H':=P ++ .inst 13 (yJ P.length (P.length+12) (P.length+14) (P.length+3))::Z7 P.length) (fun K q=>Kw ⟨rfl,Bl (T:=Z7 P.length) (v':=.ref (P.length+14)) (by rw[mS (P:=P),mS (P:=P),BA (P:=P) (n:=13) rfl];rfl) (by rw[mS (P:=P)];exact BA rfl) rfl rfl q⟩) ?_;refine wK (ρ':=[o0,some (.ref P.length),o2,some (.ref 2),o4]) (H':=mH P code) (fun K q=>AH (xs:=code.map aR.v) (ys:=[aR.cV.v]) (bV ((List.getElem?_append_left (bD hb)).trans hb)) aQ ?_ (Ho ⟨rfl,Bl (c:=13) (fs:=yJ P.length (P.length+12) (P.length+14) (P.length+3)) (fs':=yJ P.length (P.length+12) (P.length+14) (P.length+18)) (T:=Z8 P.length code) (v':=.ref (P.length+18)) ?_ ?_ rfl rfl q⟩)) ?_
 ·rw[List.length_map];exact decide_eq_true (Nat.le_trans (Nat.succ_le_of_lt hz) (by decide))
 ·rw[mS (P:=P),mS (P:=P),mS (P:=P),mS (P:=P),BA (P:=P) (n:=16) rfl,BA (P:=P) (n:=17) rfl,fL];rfl
 ·rw[mS (P:=P),mS (P:=P),mS (P:=P)];exact BA rfl
 ·exact To q
end
noncomputable def Ke(n:Nat):List Nat:=[0,12,14,18,4,5,6,7,8,9,10,13,17,16].map (n + ·)
theorem NK{P:Hp}{code:List aR}: Ch (Ke P.length) (uS ((code++[aR.cV]).map aR.v) []) (mH P code):=by
 refine⟨rfl,?_,fun i j h=> ?_⟩
 ·exact List.pairwise_map.mpr (List.Pairwise.imp (fun h e=>h (Nat.add_left_cancel e)) (by decide:List.Nodup [0,12,14,18,4,5,6,7,8,9,10,13,17,16]))
 have key: ∀ (k:Nat) (o:aY),(aY.inst 13 (yJ P.length (P.length+12) (P.length+14) (P.length+18))::Z8 P.length code)[k]? = some o->P.length+k<(mH P code).length/\(mH P code)[P.length+k]? = some o:=fun k o e=>by
  have e:(mH P code)[P.length+k]? = some o:=Iq.trans e;exact⟨bD e,e⟩
 match i,h with
 | 0,h=>rw[<- Option.some.inj h];exact key 0 _ rfl
 | 1,h=>rw[<- Option.some.inj h];exact key 12 _ rfl
 | 2,h=>rw[<- Option.some.inj h];exact key 14 _ rfl
 | 3,h=>rw[<- Option.some.inj h];exact key 18 _ rfl
 | 4,h=>rw[<- Option.some.inj h];exact key 4 _ rfl
 | 5,h=>rw[<- Option.some.inj h];exact key 5 _ rfl
 | 6,h=>rw[<- Option.some.inj h];exact key 6 _ rfl
 | 7,h=>rw[<- Option.some.inj h];exact key 7 _ rfl
 | 8,h=>rw[<- Option.some.inj h];exact key 8 _ rfl
 | 9,h=>rw[<- Option.some.inj h];exact key 9 _ rfl
 | 10,h=>rw[<- Option.some.inj h];exact key 10 _ rfl
 | 11,h=>rw[<- Option.some.inj h];exact key 13 _ rfl
 | 12,h=>rw[<- Option.some.inj h];exact key 17 _ rfl
 | 13,h=>
  rw[<- Option.some.inj h];refine (congrArg (fun o=>_/\_=some o) (kD (dX EK (code++[aR.cV])):mQ _ (.list _)=_)).mpr (key 16 _ rfl)
theorem R3(n:Nat):dO (fun b:Nat=>(if (if (n:Int)<14 then (n:Int) else 14)>3 then (if (n:Int)<14 then (n:Int) else 14) else 3)=(b:Int)) (fun b=>b<=14):=by
 by_cases h:(n:Int)<14
 ·rw[if_pos h]
  by_cases k:(n:Int)>3
  ·exact⟨n,if_pos k,Nat.le_of_lt (Int.ofNat_lt.mp h)⟩
  ·exact⟨3,if_neg k,by decide⟩
 ·rw[if_neg h]
  exact⟨14,if_pos (by decide),Nat.le_refl _⟩
section
variable{sc sq:List Int}{d:Nat}{Q:PE}
theorem Fo(hn:sq.length<=100000)(q: ∀ n H' body,GO body->Ch (Ke n) (uS (body.map aR.v) []) H'->Q (.ref n) H'):Wf sc (d+20) 94 [.ref 0] [.list (sq.map .int)] Q:=by
 obtain⟨b,hb,Yq⟩:=R3 (sq.map V.int).length;refine enter rfl rfl (jB (ρ':=[some (.ref 0),none,some (.ref 1),some (.ref 2),some (.int (0:Nat))]) (H':=g3 sq 0 b [.const 7,.set 3] []) (fun K q=> ?_) ?_)
 ·have q:K .next [some (.ref 0),none,some (.ref 1),some (.ref 2),some (.int 0)] (.list (sq.map .int):: .list [.ref 0,.int 0,.int (if (if ((sq.map V.int).length:Int)<14 then ((sq.map V.int).length:Int) else 14)>3 then (if ((sq.map V.int).length:Int)<14 then ((sq.map V.int).length:Int) else 14) else 3)]::tE [.const 7,.set 3]::[]):=by rw[hb];exact q
  exact q
 have yF:DY sc sq (d+19) 4:=by
  have:=JC (sc:=sc) (sq:=sq) 4 (d+3);rw[show 3*4+4+(d+3)=d+19 from Nat.add_comm 16 (d+3)] at this;exact this
 have ok:jG [(2,false)]:=⟨by decide,by decide,rfl,by decide⟩;refine qM (fun n ρ H=>Ot (fun hh _ _ _=>ρ=[some (.ref 0),none,some (.ref 1),some (.ref 2),some (hV hh)]) (fun _ a2 cC r'=>H=g3 sq a2 n ([.const 7,.set 3]++cC) r') (fun hh _ cC _=>gC [(2,false)] (some 0) cC hh) (fun hh _ cC _=>cC.length+hh.getD 0+16*n<=16*b) (fun _ a2 _ _=>a2+3*n<=3*b)) b ⟨some 0,0,[],[],rfl,rfl,.nil,Nat.le_of_eq (Nat.zero_add _),Nat.le_of_eq (Nat.zero_add _)⟩ fun n ρ H j go gV=> ?_;obtain⟨hh,a2,cC,r',e1,e2,hs,hl,ha⟩:=j;rw[e1,e2];have cV:eI (cx sc) (Cl sc (d+19)) (nF.drop 2) [some (.ref 0),none,some (.ref 1),some (.ref 2),some (hV hh)] (g3 sq a2 n ([.const 7,.set 3]++cC) r') fun fl _ h1=>Q (eG fl) h1:=by
  have bE:([aR.const 7,.set 3]++cC).length=2+cC.length:=by rw[List.length_append];rfl
  refine xU [(2,false)] (h:=hh) (many:=2) rfl (by decide) (Nat.le_trans (Nat.le_trans (Nat.le_add_left _ _) (Nat.le_add_right _ _)) (Nat.le_trans hl (Nat.le_trans (Nat.mul_le_mul_left 16 Yq) (by decide)))) (by rw[bE];clear gV q yF;lia) fun s3 Mt LX=> ?_;refine Hy (d:=d+17) (code:=[.const 7,.set 3]++cC++s3) rfl ?_ (q _ _ _ ?_ NK)
  ·have q1:s3.length<=hh.getD 0+2:=by
    cases hh with
    | none=>exact Nat.le_trans (Nat.le_of_eq LX) (Nat.zero_le _)
    | some n=>exact Nat.le_trans (Nat.le_of_eq LX) (n4 rfl)
   rw[List.length_append,bE];clear gV q yF;lia
  ·refine⟨cC++s3,_,by rw[List.append_assoc,List.append_assoc,List.append_assoc,List.append_assoc],hs.iB Mt,Ae,?_⟩
   have q1:s3.length<=hh.getD 0+2:=by
    cases hh with
    | none=>exact Nat.le_trans (Nat.le_of_eq LX) (Nat.zero_le _)
    | some n=>exact Nat.le_trans (Nat.le_of_eq LX) (n4 rfl)
   rw[List.length_append];clear gV q yF;lia
 refine pU (fun _=>cV) fun hc=> ?_;have hc:(n:Int)>0:=of_decide_eq_true hc;cases hh with
 | none=>exact cV
 | some h2=>
  obtain⟨bd,rfl⟩: ∃ bd,n=bd+1:=⟨n - 1,(Nat.sub_add_cancel (Int.ofNat_lt.mp hc)).symm⟩;have hl:cC.length+h2+16*(bd+1)<=16*b:=hl;refine yF a2 bd ([.const 7,.set 3]++cC) (r'++[iJ [(2,false)]]) r'.length [(2,false)] h2 _ aQ ok (by decide) ?_ ?_ ?_
  ·rw[List.length_append];show 2+cC.length+_+_<=_;clear gV q yF cV;lia
  ·clear gV q yF cV;lia
  ·intro h' s2 r2 a3 L4 Ol LX Yo XB RE
   refine gV L4 _ _ (Nat.lt_succ_of_le XB) ⟨h',a3,cC++s2,r2,rfl,by rw[List.append_assoc],hs.iB Ol,?_,?_⟩
   ·rw[List.length_append];clear gV q yF cV;lia
   ·clear gV q yF cV;lia
end
section
variable{sc:List Int}{d:Nat}{Q:PE}{H:Hp}
theorem Nu{r:dZ}{rd wr tg:List Int}{go:Bool}(k:fJ r rd wr tg go)(q:Q (.aM [.ref H.length,.ref (H++[aY.list (rd.map .int)]).length,.ref (H++[aY.list (rd.map .int)]++[aY.list (wr.map .int)]).length,.bool go]) (H++[aY.list (rd.map .int)]++[aY.list (wr.map .int)]++[aY.list (tg.map .int)])):Wf sc (d+1) 102 [r.v] H Q:=by
 induction k with
 | HQ=>exact enter rfl rfl q
 | const=>exact enter rfl rfl q
 | cG=>exact enter rfl rfl q
 | HG=>exact enter rfl rfl q
 | On h=>rcases h with rfl|rfl<;>exact enter rfl rfl q
 | table h=>exact enter rfl rfl q
 | call=>exact enter rfl rfl q
 | OK=>exact enter rfl rfl q
 | zM=>exact enter rfl rfl q
 | ret=>exact enter rfl rfl (Ab (n:=2) (fun k=>.int (4+k)) rfl (by decide) (fun _ _ _ hq=>hq) q)
 | lP h=>rcases mL h with rfl|rfl|rfl|rfl|rfl|rfl|rfl<;>exact enter rfl rfl q
 | sX h=>rcases mL h with rfl|rfl|rfl|rfl|rfl|rfl|rfl<;>exact enter rfl rfl q
 | br h=>
  simp only[AY,List.mem_cons,List.not_mem_nil,or_false] at h;rcases h with rfl|rfl|rfl|rfl<;>exact enter rfl rfl q
 | Oc h=>
  simp only[tW,List.mem_cons,List.not_mem_nil,or_false] at h;rcases h with rfl|rfl|rfl|rfl<;>exact enter rfl rfl q
theorem JP{c:Bool}{P:Bool->Prop}(k:P true):cR c (P c) (P true):=by cases c<;>exact k
theorem TR{r:dZ}{rd wr tg:List Int}{go:Bool}(k:fJ r rd wr tg go)(q: ∀ g,Q (.bool true) (H++g)):Wf sc (d+1) 103 [r.v] H Q:=by
 have q0:Q (.bool true) H:=by
  have:=q [];rw[List.append_nil] at this;exact this
 have q2: ∀ a b,Q (.bool true) (H++[a]++[b]):=fun a b=>by
  rw[List.append_assoc];exact q _
 have NG: ∀ {K:Bool->Prop},K true->cJ (vE (cx sc) .eq (.ref H.length) (.ref (H++[aY.list [.int 0,.int 0]]).length) (H++[aY.list [.int 0,.int 0]]++[aY.list [.int 0,.int 0]])) K:=fun {K} q=>by
  refine .of (x:=true) ?_ q;show bO (bO (H++[aY.list [.int 0,.int 0]]++[aY.list [.int 0,.int 0]])[H.length]? nJ) (fun xs=>bO (bO (H++[aY.list [.int 0,.int 0]]++[aY.list [.int 0,.int 0]])[(H++[aY.list [.int 0,.int 0]]).length]? nJ) fun ys=>if xs.length=ys.length then yB xs ys 20 else some false)=_;rw[bV aQ,aQ];rfl
 induction k with
 | HQ=>exact enter rfl rfl q0
 | const=>exact enter rfl rfl q0
 | cG=>exact enter rfl rfl (NG (q2 _ _))
 | HG=>exact enter rfl rfl (NG (q2 _ _))
 | On h=>rcases h with rfl|rfl<;>exact enter rfl rfl q0
 | table h=>exact enter rfl rfl q0
 | call=>exact enter rfl rfl q0
 | OK=>exact enter rfl rfl (NG (q2 _ _))
 | zM=>exact enter rfl rfl q0
 | ret=>exact enter rfl rfl q0
 | lP h=>rcases mL h with rfl|rfl|rfl|rfl|rfl|rfl|rfl<;>exact enter rfl rfl (JP (P:=fun b=>Q (.bool b) H) q0)
 | sX h=>rcases mL h with rfl|rfl|rfl|rfl|rfl|rfl|rfl<;>exact enter rfl rfl (JP (P:=fun b=>Q (.bool b) H) q0)
 | br h=>
  simp only[AY,List.mem_cons,List.not_mem_nil,or_false] at h;rcases h with rfl|rfl|rfl|rfl<;>exact enter rfl rfl (JP (P:=fun b=>Q (.bool b) H) q0)
 | Oc h=>
  simp only[tW,List.mem_cons,List.not_mem_nil,or_false] at h;rcases h with rfl|rfl|rfl|rfl<;>exact enter rfl rfl (JP (P:=fun b=>Q (.bool b) H) q0)
end
theorem QM{w:Nat}{s:Int}(hb:w.testBit s.toNat=true):CI .J2 ((w:Int).fdiv (2 ^ s.toNat)) 1=some 1:=by
 have e1:(w:Int).fdiv (2 ^ s.toNat)=((w / 2 ^ s.toNat:Nat):Int):=by
  rw[Int.fdiv_eq_ediv_of_nonneg _ (Int.le_of_lt (Int.pow_pos (by decide)))];push_cast;rfl
 rw[e1];have h2:Jr ((w / 2 ^ s.toNat:Nat):Int) 1=1:=by
  unfold Jr;rw[if_pos ⟨Int.natCast_nonneg _,by decide⟩,Int.toNat_natCast,show (1:Int).toNat=1 from rfl,Nat.and_one_is_mod];have e3:w.testBit s.toNat=decide (w / 2 ^ s.toNat % 2=1):=Nat.testBit_eq_decide_div_mod_eq;rw[of_decide_eq_true (e3.symm.trans hb)];rfl
 have h3:nn ((w / 2 ^ s.toNat:Nat):Int) 1=true:=by
  unfold nn;rw[decide_eq_true (Int.natCast_nonneg _)];rfl
 show dI (nn ((w / 2 ^ s.toNat:Nat):Int) 1) (some (Jr ((w / 2 ^ s.toNat:Nat):Int) 1))=some 1;rw[dJ h3,h2]
theorem TJ{w:Nat}{s:Int}(h0:0<=s)(h1:s<=1000):CI .WW 1 s=some (1*2 ^ s.toNat)/\CI .Uj w (1*2 ^ s.toNat)=some ((w ||| 2 ^ s.toNat:Nat):Int):=by
 constructor
 ·refine dJ ?_
  rw[decide_eq_true h0,decide_eq_true (Int.le_trans h1 (by decide))];rfl
 ·have e:(1:Int)*2 ^ s.toNat=((2 ^ s.toNat:Nat):Int):=by
   push_cast
   rw[Int.one_mul]
  rw[e];have h3:nn (w:Int) ((2 ^ s.toNat:Nat):Int)=true:=by
   unfold nn;rw[decide_eq_true (Int.natCast_nonneg _),decide_eq_true (Int.natCast_nonneg _)];rfl
  refine (dJ h3).trans (congrArg some ?_);unfold Xc;rw[if_pos ⟨Int.natCast_nonneg _,Int.natCast_nonneg _⟩,Int.toNat_natCast,Int.toNat_natCast]
theorem Nm{r:dZ}{rd wr tg:List Int}{go:Bool}(k:fJ r rd wr tg go):tg.length<1000:=by
 induction k with
 | table h=>exact h
 | _=>simp only[List.length_cons,List.length_nil];decide
section
variable{G:Cx}{H:Hp}
theorem Dp{op:GN}{a b c:Int}{Q:V×Hp->Prop}(e:CI op a b=some c)(q:Q (.int c,H)):cJ (Do op (.int a) (.int b) H) Q:=by
 refine .of (x:=(.int c,H)) ?_ q;show bO (CI op a b) _=_;rw[e];rfl
theorem Ru{l:Nat}{xs:List V}{Q:V×Hp->Prop}(e:H[l]? = some (.list xs))(h:GZ xs=some true)(q:Q (.bool true,H)):cJ (AZ G .all [.ref l] H) Q:=by
 refine .of (x:=(.bool true,H)) ?_ q;show bO (bO H[l]? nJ) _=_;rw[e];show bO (GZ xs) _=_;rw[h];rfl
theorem Ci{α:Type}: ∀ (l:List α),GZ (l.map fun _=>V.bool true)=some true
 | []=>rfl
 | a::l=>by
  show bO (GZ (l.map fun _=>V.bool true)) _=_;rw[Ci l];rfl
end
noncomputable def hA(rows:List dZ)(rd wr tg:List Int)(g:Hp):Hp:=.list (rows.map dZ.v):: .list (rd.map .int):: .list (wr.map .int):: .list (tg.map .int)::g
section
variable{sc:List Int}{cl:Call}{Q:PE}{rows:List dZ}{rd wr tg:List Int}{g:Hp}{sl:Int}{w:Nat}{K:PS}{o4 o8:Option V}{Cj:V}
theorem QI(hr: ∀ s∈rd,A3 (0<=s) (s<sl) (w.testBit s.toNat=true))(q: ∀ ai,K .next [some (.ref 0),some (.int sl),some Cj,some (.int w),ai,some (.ref 3),some (.ref 1),some (.ref 2),o8,none] (hA rows rd wr tg g)):
  wS (cx sc) cl (FV fB 2) [some (.ref 0),some (.int sl),some Cj,some (.int w),o4,some (.ref 3),some (.ref 1),some (.ref 2),o8,none] (hA rows rd wr tg g) K:=by
 refine nI rd.length (fun n ρ H=>dO (fun o=>ρ=[some (.ref 0),some (.int sl),some Cj,some (.int w),o,some (.ref 3),some (.ref 1),some (.ref 2),o8,none]) (fun _=>H=hA rows rd wr tg g)) ⟨_,rfl,rfl⟩ (fun ρ H j=> ?_) fun n ρ H hn j go gV=> ?_
 ·obtain⟨o,e1,e2⟩:=j
  rw[e1,e2];exact⟨nT rfl (Nat.le_of_eq (List.length_map _)),q o⟩
 ·obtain⟨o,e1,e2⟩:=j
  rw[e1,e2];have hk:=List.getElem?_eq_getElem hn;obtain⟨h0,h1,h2⟩:=hr _ (List.getElem_mem hn);generalize rd[n]=s at *;exact⟨_,sH rfl (dR hk) rfl,rF (decide_eq_true h0) (Cw (congrArg not (decide_eq_true h1)) (Dp (dJ (decide_eq_true h0)) (Dp (QM h2) (gV _ _ ⟨_,rfl,rfl⟩))))⟩
theorem Nz(KW:sl<=1000)(hr: ∀ s∈wr,0<=s/\s<sl)(q: ∀ ai (w':Nat),(∀ i,w.testBit i=true->w'.testBit i=true)->(∀ s∈wr,w'.testBit s.toNat=true)->(w<2 ^ sl.toNat->w'<2 ^ sl.toNat)->K .next [some (.ref 0),some (.int sl),some Cj,some (.int w'),ai,some (.ref 3),some (.ref 1),some (.ref 2),o8,none] (hA rows rd wr tg g)):
  wS (cx sc) cl (FV fB 3) [some (.ref 0),some (.int sl),some Cj,some (.int w),o4,some (.ref 3),some (.ref 1),some (.ref 2),o8,none] (hA rows rd wr tg g) K:=by
 refine nI wr.length (fun n ρ H=>∃ (o:Option V) (w':Nat),ρ=[some (.ref 0),some (.int sl),some Cj,some (.int w'),o,some (.ref 3),some (.ref 1),some (.ref 2),o8,none]/\H=hA rows rd wr tg g/\(∀ i,w.testBit i=true->w'.testBit i=true)/\(∀ s∈wr.take n,w'.testBit s.toNat=true)/\(w<2 ^ sl.toNat->w'<2 ^ sl.toNat)) ⟨_,w,rfl,rfl,fun _ h=>h,fun s hs=>absurd hs List.not_mem_nil,fun h=>h⟩ (fun ρ H j=> ?_) fun n ρ H hn j go gV=> ?_
 ·obtain⟨o,w',e1,e2,g1,g2,g3⟩:=j
  rw[e1,e2];rw[List.take_length] at g2;exact⟨nT rfl (Nat.le_of_eq (List.length_map _)),q o w' g1 g2 g3⟩
 ·obtain⟨o,w',e1,e2,g1,g2,g3⟩:=j
  rw[e1,e2];have hk:=List.getElem?_eq_getElem hn;obtain⟨h0,h1⟩:=hr _ (List.getElem_mem hn);rw[lO hk] at gV;generalize wr[n]=s at *;obtain⟨b1,b2⟩:=TJ (w:=w') h0 (Int.le_trans (Int.le_of_lt h1) KW);refine⟨_,sH rfl (dR hk) rfl,rF (decide_eq_true h0) (Cw (congrArg not (decide_eq_true h1)) (Dp b1 (Dp b2 (gV _ _ ⟨_,_,rfl,rfl,fun i hi=> ?_,fun t ht=> ?_,fun hw=> ?_⟩))))⟩
  ·rw[Nat.testBit_or,g1 i hi];rfl
  ·rw[Nat.testBit_or]
   rcases List.mem_append.mp ht with ht|ht
   ·rw[g2 t ht];rfl
   ·rw[List.mem_singleton.mp ht,Nat.testBit_two_pow_self,Bool.or_true]
  ·exact Nat.or_lt_two_pow (g3 hw) (Nat.pow_lt_pow_right (by decide) (by lia))
end
theorem QB{r:dZ}{rd wr tg:List Int}{go:Bool}(k:fJ r rd wr tg go)(h:r.op=267):r.b= .i 2:=by
 induction k with
 | ret=>rfl
 | On h'=>
  dsimp only at h;rw[h] at h';exact absurd h' (by decide)
 | lP h'=>
  dsimp only at h;rw[h] at h';exact absurd h' (by decide)
 | sX h'=>
  have h:16384+_=(267:Int):=h;rw[show _=(-16117:Int) from Int.add_left_cancel h] at h';exact absurd h' (by decide)
 | br h'=>
  dsimp only at h;rw[h] at h';exact absurd h' (by decide)
 | Oc h'=>
  dsimp only at h;rw[h] at h';exact absurd h' (by decide)
 | _=>
  dsimp only at h;exact absurd h (by decide)
section
variable{sc:List Int}{d:Nat}{Q:PE}{rows:List dZ}{K:Nat->Sl}{slots:Int}
theorem Hr(g:AD rows K slots)(KW:slots<=1000){j:Nat}{r:dZ}(hj:rows[j]? = some r){w:Nat}(hw: ∀ s,K j s->w.testBit s.toNat=true)
  (q: ∀ (w':Nat) (ns:List Nat) l H',H'[0]? = some (.list (rows.map dZ.v))->H'[l]? = some (.list (ns.map eW))->(∀ n∈ns,n<rows.length/\∀ s,K n s->w'.testBit s.toNat=true)->(w<2 ^ slots.toNat->w'<2 ^ slots.toNat)->Q (.aM [.ref l,.int w']) H'):
  Wf sc (d+2) 104 [.ref 0,.int slots,.int j,.int w] [.list (rows.map dZ.v)] Q:=by
 obtain⟨rd,wr,tg,go,k,h1,h2,h3,h4⟩:=g.row j r hj;have eA:=bD hj;have f3:=Nm k;have ix:=fP (f:=dZ.v) eA;refine enter rfl rfl (kN ix (dR hj) (Nu k (kN ix (dR hj) (TR k fun gg=> ?_))));show eI (cx sc) (Cl sc (d+1)) (fB.drop 2) [some (.ref 0),some (.int slots),some (.int j),some (.int w),none,some (.ref 3),some (.ref 1),some (.ref 2),some (.bool go),none] (hA rows rd wr tg gg) fun fl _ h1=>Q (eG fl) h1;refine QI (K:=jE (fun ρ1 h1=>eI (cx sc) (Cl sc (d+1)) (fB.drop 3) ρ1 h1 fun fl _ h1=>Q (eG fl) h1) fun fl _ h1=>Q (eG fl) h1) (fun s hs=>⟨(h1 s hs).2.1,(h1 s hs).2.2,hw s (h1 s hs).1⟩) fun o4=> ?_;refine Nz (K:=jE (fun ρ1 h1=>eI (cx sc) (Cl sc (d+1)) (fB.drop 4) ρ1 h1 fun fl _ h1=>Q (eG fl) h1) fun fl _ h1=>Q (eG fl) h1) KW h2 fun o5 w' m1 m2 m3=> ?_;obtain⟨RW,Sb⟩: ∃ RW:List Nat,tg=RW.map (fun n:Nat=>(n:Int)):=⟨tg.map Int.toNat,by
  rw[List.map_map]
  conv=>lhs;rw[<- List.map_id tg]
  refine List.map_congr_left fun t ht=> ?_;obtain⟨q,e,_⟩:=h4 t ht;rw[e];rfl⟩
 have hN: ∀ n∈RW++(if go then [j+1] else []),n<rows.length/\∀ s,K n s->w'.testBit s.toNat=true:=fun n hn=>by
  rcases List.mem_append.mp hn with hn|hn
  ·obtain⟨q,e,hq,hK⟩:=h4 (n:Int) (by rw[Sb];exact List.mem_map.mpr ⟨n,hn,rfl⟩)
   have:q=n:=Int.ofNat.inj e.symm;subst this;exact⟨hq,fun s hs=>m1 _ (hw s (hK s hs))⟩
  ·cases go with
   | false=>exact absurd hn List.not_mem_nil
   | true=>
    rw[List.mem_singleton.mp hn];obtain⟨a,b⟩:=h3 rfl;exact⟨a,fun s hs=>(b s hs).elim (fun q=>m1 _ (hw s q)) (fun q=>m2 s q)⟩
 have bE:RW.length<1000:=by rw[Sb,List.length_map] at f3;exact f3
 have og:(if go then [j+1] else []).length<=1:=by cases go<;>exact (by simp)
 have gy:tg.map V.int=RW.map eW:=by rw[Sb,List.map_map];rfl
 have tail: ∀ o1,eI (cx sc) (Cl sc (d+1)) (fB.drop 5) [some (.ref 0),some (.int slots),some (.int j),some (.int w'),o5,some (.ref ((hA rows rd wr tg gg++[aY.list o1]).length)),some (.ref 1),some (.ref 2),some (.bool go),none] (hA rows rd wr tg gg++[.list o1]++[.list ((RW++(if go then [j+1] else [])).map eW)]) fun fl _ h1=>Q (eG fl) h1:=fun o1=>by
  have q:=fun l H' h0 hq=>q w' _ l H' h0 hq hN m3;have oy:(RW++(if go then [j+1] else [])).length<most:=by
   rw[List.length_append];exact Nat.lt_of_lt_of_le (Nat.add_lt_add_of_lt_of_le bE og) (by decide)
  generalize RW++(if go then [j+1] else [])=ns at *;refine Aa (xs:=ns) (f:=eW) (fun _=>.bool true) (fun k=>C6 aQ) oy ?_ ?_
  ·intro n hn p hp
   have e:decide ((n:Int)<((rows.map dZ.v).length:Int))=true:=by
    rw[bK];exact decide_eq_true (Int.ofNat_lt.mpr (hN n hn).1)
   show p (some (.bool (decide ((n:Int)<((rows.map dZ.v).length:Int))))) _;rw[e];exact hp
  ·exact Ru aQ (Ci ns) (q _ _ rfl (bV aQ))
 cases go with
 | true=>
  refine AH (i:=3) (xs:=tg.map .int) rfl aQ ?_ ?_
  ·rw[List.length_map]
   exact decide_eq_true (Nat.le_trans (Nat.add_le_add_right (Nat.le_of_lt f3) 1) (by decide))
  ·have t:=tail [.int (j+1)]
   rw[List.map_append,<- gy] at t;exact t
 | false=>
  refine AH (i:=3) (xs:=tg.map .int) rfl aQ ?_ ?_
  ·rw[List.length_map]
   exact decide_eq_true (Nat.le_trans (Nat.le_of_lt f3) (by decide))
  ·have t:=tail []
   rw[List.map_append,<- gy] at t;exact t
end
noncomputable def Gs(w:Nat):Nat->Nat
 | 0=>0
 | n+1=>Gs w n+(if w.testBit n then 1 else 0)
theorem Dr{w:Nat}: ∀ n,Gs w n<=n
 | 0=>Nat.le_refl _
 | n+1=>by have:=Dr (w:=w) n;simp only[Gs];split<;>lia
theorem Ie{v w:Nat}: ∀ n,Gs (v &&& w) n<=Gs v n/\((∃ i,i<n/\v.testBit i=true/\w.testBit i=false)->Gs (v &&& w) n<Gs v n)
 | 0=>⟨Nat.le_refl _,fun ⟨i,h,_⟩=>by lia⟩
 | n+1=>by
  obtain⟨h1,h2⟩:=Ie (v:=v) (w:=w) n;simp only[Gs,Nat.testBit_and];refine⟨?_,fun ⟨i,hi,a,b⟩=> ?_⟩
  ·cases v.testBit n<;>cases w.testBit n<;>simp<;>lia
  ·by_cases e:i=n
   ·subst e
    rw[a,b];simp;lia
   ·have:=h2 ⟨i,by lia,a,b⟩
    cases v.testBit n<;>cases w.testBit n<;>simp<;>lia
theorem R5{v w n:Nat}(hv:v<2 ^ n)(h:v &&& w≠v):Gs (v &&& w) n<Gs v n:=by
 refine (Ie n).2 ?_;apply Classical.byContradiction;intro RL;apply h;apply Nat.eq_of_testBit_eq;intro i;rw[Nat.testBit_and];by_cases hi:i<n
 ·cases ha:v.testBit i with
  | false=>rfl
  | true=>
   cases hb:w.testBit i with
   | true=>rfl
   | false=>exact absurd ⟨i,hi,ha,hb⟩ RL
 ·rw[Nat.testBit_lt_two_pow (Nat.lt_of_lt_of_le hv (Nat.pow_le_pow_right (by decide) (by lia)))];rfl
noncomputable def P8(S:Nat):Option Nat->Nat
 | none=>S+1
 | some v=>Gs v S
noncomputable def yO(S:Nat)(f:Nat->Option Nat):Nat->Nat
 | 0=>0
 | n+1=>yO S f n+P8 S (f n)
noncomputable def IO(f:Nat->Option Nat)(n v:Nat):Nat->Option Nat:=fun i=>if i=n then some v else f i
theorem Fd{S:Nat}{f g:Nat->Option Nat}: ∀ n,(∀ i,i<n->f i=g i)->yO S f n=yO S g n
 | 0,_=>rfl
 | n+1,h=>by
  simp only[yO];rw[Fd n (fun i hi=>h i (by lia)),h n (by lia)]
theorem ER{S:Nat}{f:Nat->Option Nat}{k v:Nat}(h:Gs v S+1<=P8 S (f k)): ∀ n,k<n->yO S (IO f k v) n+1<=yO S f n
 | 0,hk=>by lia
 | n+1,hk=>by
  simp only[yO];by_cases e:n=k
  ·subst e
   have e1:yO S (IO f n v) n=yO S f n:=Fd n fun i hi=>by unfold IO;rw[if_neg (by lia)]
   have e2:IO f n v n=some v:=by unfold IO;rw[if_pos rfl]
   rw[e1,e2];show yO S f n+Gs v S+1<=_;lia
  ·have:=ER (S:=S) (f:=f) h n (by lia)
   have e2:IO f k v n=f n:=by unfold IO;rw[if_neg e]
   rw[e2];lia
theorem Nh{S:Nat}{f:Nat->Option Nat}: ∀ n,yO S f n<=n*(S+1)
 | 0=>by simp [yO]
 | n+1=>by
  have:=Nh (S:=S) (f:=f) n;have h2:P8 S (f n)<=S+1:=by
   cases f n with
   | none=>exact Nat.le_refl _
   | some v=>have:=Dr (w:=v) S;show Gs v S<=_;lia
  simp only[yO,Nat.succ_mul];lia
theorem E8{es:List (Int×V)}{k i:Int}{v:V}: cA (jA es k v) i=if i=k then some v else cA es i:=by
 unfold jA cA;split
 ·rename_i h
  induction es with
  | nil=>simp at h
  | cons p r ih=>
   rw[List.map_cons,List.find?_cons,List.find?_cons];by_cases hp:p.1=k
   ·have e1:(p.1==k)=true:=by simpa using hp
    rw[if_pos e1];by_cases hi:i=k
    ·subst hi
     simp
    ·have e2:((k,v).1==i)=false:=by simp;lia
     have e3:(p.1==i)=false:=by simp;lia
     rw[e2,e3,if_neg hi];dsimp only;by_cases hr:(r.any fun e=>e.1==k)=true
     ·rw[ih hr,if_neg hi]
     ·have:r.map (fun e=>if (e.1==k)=true then (k,v) else e)=r:=by
       conv=>rhs;rw[<- List.map_id r]
       refine List.map_congr_left fun e he=> ?_;rw[if_neg (fun q=>hr (List.any_eq_true.mpr ⟨e,he,q⟩))];rfl
      rw[this]
   ·have e1:(p.1==k)=false:=by simpa using hp
    rw[if_neg (by rw[e1];decide)];have hr:(r.any fun e=>e.1==k)=true:=by
     rw[List.any_cons,e1] at h;simpa using h
    by_cases hi:p.1=i
    ·have e2:(p.1==i)=true:=by simpa using hi
     rw[e2,if_neg (by lia)]
    ·have e2:(p.1==i)=false:=by simpa using hi
     rw[e2];exact ih hr
 ·rename_i h
  rw[List.find?_append];by_cases hi:i=k
  ·subst hi
   rw[if_pos rfl];have:es.find? (fun e=>e.1==i)=none:=by
    rw[List.find?_eq_none];intro p hp q;exact h (List.any_eq_true.mpr ⟨p,hp,q⟩)
   rw[this];simp
  ·rw[if_neg hi]
   have e2:(k==i)=false:=by simp;lia
   cases es.find? (fun e=>e.1==i) with
   | none=>simp [e2]
   | some p=>rfl
theorem LB{es:List (Int×V)}{k:Int}{v:V}: (jA es k v).length<=es.length+1:=by
 unfold jA;split<;>simp
structure LS(p q D Wt:Nat)(rows:List dZ)(K:Nat->Sl)(S:Nat)(m:Int)(H:Hp)(f:Nat->Option Nat)(ws:List Nat):Prop where
 rL:H[p]? = some (.list (rows.map dZ.v))
 FP:H[q]? = some (pI p m)
 dict: ∃ es,H[D]? = some (.dict es none)/\(∀ n:Nat,cA es n=(f n).map eW)/\es.length+yO S f rows.length<=rows.length*(S+1)
 GG:H[Wt]? = some (.list (ws.map eW))
 pY: ∀ n∈ws,∃ v,f n=some v
 ok: ∀ n v,f n=some v->n<rows.length/\v<2 ^ S/\∀ s,K n s->v.testBit s.toNat=true
 Wx:ws.length+yO S f rows.length<=rows.length*(S+1)
noncomputable def OW:Option S->List S
 | some (.qM _ b)=>b
 | _=>[]
noncomputable def pL:List S:=OW iP[4]?
noncomputable def NM:List S:=D2 pL[3]?
section
variable{G:Cx}{H:Hp}{l:Nat}{es es':List (Int×V)}{ep:Option Nat}{i:Int}{v:V}
theorem RS{Q:Bool->Prop}(e:H[l]? = some (.dict es ep))(q:Q (cA es i).isSome):cJ (vE G .pY (.int i) (.ref l) H) Q:=by
 refine .of (x:=(cA es i).isSome) ?_ q;show bO (pW H l) _=_;unfold pW;rw[e];rfl
theorem QJ{Q:Hp->Prop}(e:H[l]? = some (.dict es none))(hz:es.length<=most)(q:Q (H.set l (.dict (jA es i v) none))):cJ (oB (.ref l) i v H) Q:=by
 refine .of (x:=H.set l (.dict (jA es i v) none)) ?_ q;show bO H[l]? _=_;rw[e];refine dT (dJ (decide_eq_true hz) |>.trans ?_);cases (cA es i).isSome<;>rfl
theorem Ov{xs:List V}{Q:V×Hp->Prop}(hz:xs.length<most)(k:Q (.none,H.set l (.list (xs++[v])))):cJ (vT l xs 0 [v] H) Q:=.of (dJ (decide_eq_true hz)) k
theorem Bn{o o':aY}(h:H[l]? = some o):(H.set l o')[l]? = some o':=List.getElem?_set_self (bD h)
end
section
variable{sc:List Int}{cl:Call}{p q D Wt S:Nat}{H:Hp}{rows:List dZ}{K:Nat->Sl}{m:Int}{f:Nat->Option Nat}{ws:List Nat}{Kk:PS}
theorem LS.same{H':Hp}(s:LS p q D Wt rows K S m H f ws)(h: ∀ i,i<H.length->H'[i]? = H[i]?):LS p q D Wt rows K S m H' f ws:=by
 obtain⟨es,e1,e2,e3⟩:=s.dict;exact⟨(h _ (Ap s.rL)).trans s.rL,(h _ (Ap s.FP)).trans s.FP,⟨es,(h _ (Ap e1)).trans e1,e2,e3⟩,(h _ (Ap s.GG)).trans s.GG,s.pY,s.ok,s.Wx⟩
theorem LS.Jb(s:LS p q D Wt rows K S m H f ws)(hd:p<D/\q<D/\D<Wt)(hB:rows.length*(S+1)<15900000){n v:Nat}(hn:n<rows.length)(hv:v<2 ^ S)(hK: ∀ s,K n s->v.testBit s.toNat=true)(hc:Gs v S+1<=P8 S (f n)){o1 o2 o5 o6:Option V}
  (k: ∀ H2,LS p q D Wt rows K S m H2 (IO f n v) (ws++[n])->2*yO S (IO f n v) rows.length+(ws++[n]).length<=2*yO S f rows.length+ws.length->(∀ i,i≠D->i≠Wt->H2[i]? = H[i]?)->Kk .next [o1,o2,some (.ref q),some (.ref D),some (.ref Wt),o5,o6,some (.int n),some (.int v)] H2):
  eI (cx sc) cl (DU NM[1]?) [o1,o2,some (.ref q),some (.ref D),some (.ref Wt),o5,o6,some (.int n),some (.int v)] H Kk:=by
 obtain⟨es,e1,e2,e3⟩:=s.dict;obtain⟨d1,d2,d3⟩:=hd;have pu:=ER (S:=S) (f:=f) hc rows.length hn;have Wx:=s.Wx;have Zh:(H.set D (.dict (jA es n (.int v)) none))[Wt]? = some (.list (ws.map eW)):=(List.getElem?_set_ne (Nat.ne_of_lt d3)).trans s.GG;have Sd: ∀ i,i≠D->i≠Wt->((H.set D (.dict (jA es n (.int v)) none)).set Wt (.list (ws.map eW++[eW n])))[i]? = H[i]?:=fun i h1 h2=>(List.getElem?_set_ne (Ne.symm h2)).trans (List.getElem?_set_ne (Ne.symm h1));refine QJ e1 (by show es.length<=16000000;clear k;lia) (Bt Zh rfl (BJ Zh (Ov (by rw[List.length_map];show _<16000000;clear k;lia) (k _ ⟨(Sd p (Nat.ne_of_lt d1) (Nat.ne_of_lt (Nat.lt_trans d1 d3))).trans s.rL,(Sd q (Nat.ne_of_lt d2) (Nat.ne_of_lt (Nat.lt_trans d2 d3))).trans s.FP,⟨jA es n (.int v),(List.getElem?_set_ne (Nat.ne_of_gt d3)).trans (Bn e1),fun i=> ?_,?_⟩,?_,fun i hi=> ?_,fun i u hu=> ?_,?_⟩ ?_ Sd))))
 ·rw[E8]
  unfold IO;by_cases e:i=n
  ·rw[if_pos (show (i:Int)=n from congrArg _ e),if_pos e];rfl
  ·rw[if_neg (show ¬ (i:Int)=n from fun q=>e (Int.ofNat.inj q)),if_neg e];exact e2 i
 ·have:=LB (es:=es) (k:=n) (v:=.int v)
  clear k;lia
 ·rw[Bn Zh,List.map_append];rfl
 ·unfold IO
  by_cases e:i=n
  ·exact⟨v,if_pos e⟩
  ·rw[if_neg e]
   rcases List.mem_append.mp hi with h|h
   ·exact s.pY i h
   ·exact absurd (List.mem_singleton.mp h) e
 ·unfold IO at hu
  by_cases e:i=n
  ·rw[if_pos e] at hu
   rw[<- Option.some.inj hu,e];exact⟨hn,hv,hK⟩
  ·rw[if_neg e] at hu
   exact s.ok i u hu
 ·rw[List.length_append]
  show _+1+_<=_;clear k;lia
 ·rw[List.length_append]
  show _+(_+1)<=_;clear k;lia
theorem LS.Z9(s:LS p q D Wt rows K S m H f ws)(hd:p<D/\q<D/\D<Wt)(hB:rows.length*(S+1)<15900000){n w:Nat}(hn:n<rows.length)(hw:w<2 ^ S)(hK: ∀ s,K n s->w.testBit s.toNat=true){o1 o2 o5 o8:Option V}{q':Nat}
  (k: ∀ JK H2 f2 GL,LS p q D Wt rows K S m H2 f2 GL->2*yO S f2 rows.length+GL.length<=2*yO S f rows.length+ws.length->(∀ i,i≠D->i≠Wt->H2[i]? = H[i]?)->Kk .next [o1,o2,some (.ref q),some (.ref D),some (.ref Wt),o5,some (.aM [.ref q',.int w]),some (.int n),JK] H2):
  eI (cx sc) cl NM [o1,o2,some (.ref q),some (.ref D),some (.ref Wt),o5,some (.aM [.ref q',.int w]),some (.int n),o8] H Kk:=by
 obtain⟨es,e1,e2,e3⟩:=s.dict;cases hf:f n with
 | none=>
  have e:cA es n=none:=by rw[e2,hf];rfl
  refine RS e1 ?_;rw[e];refine vW e1 ?_;rw[e];exact s.Jb (Kk:=jE (fun ρ h=>eI (cx sc) cl [] ρ h Kk) Kk) hd hB hn hw hK (by rw[hf];exact Nat.succ_le_succ (Dr S)) fun H2 a b c=>k _ H2 _ _ a b c
 | some v=>
  obtain⟨_,hv,qm⟩:=s.ok n v hf;have e:cA es n=some (eW v):=by rw[e2,hf];rfl
  refine RS e1 ?_;rw[e];refine sA e1 e ?_;show eI (cx sc) cl (NM.drop 1) [o1,o2,some (.ref q),some (.ref D),some (.ref Wt),o5,some (.aM [.ref q',.int w]),some (.int n),some (.int ((v &&& w:Nat):Int))] H Kk;refine vW e1 ?_;rw[e];refine sA e1 e (bQ (fun hc=> ?_) fun hc=> ?_)
  ·have hc:(!(((v &&& w:Nat):Int)==(v:Int)))=true:=hc
   have rZ:v &&& w≠v:=fun q=>by
    rw[q,beq_self_eq_true] at hc;exact Bool.noConfusion (show false=true from hc)
   exact s.Jb (Kk:=jE (fun ρ h=>eI (cx sc) cl [] ρ h Kk) Kk) (v:=v &&& w) hd hB hn (Nat.lt_of_le_of_lt Nat.and_le_left hv) (fun s hs=>by rw[Nat.testBit_and,qm s hs,hK s hs];rfl) (by rw[hf];exact R5 hv rZ) fun H2 a b c=>k _ H2 _ _ a b c
  ·exact k _ H f ws s (Nat.le_refl _) fun _ _ _=>rfl
theorem LS.V3(s:LS p q D Wt rows K S m H f ws)(hd:p<D/\q<D/\D<Wt)(hB:rows.length*(S+1)<15900000){ns:List Nat}{w:Nat}(hn: ∀ n∈ns,n<rows.length/\∀ s,K n s->w.testBit s.toNat=true)(hw:w<2 ^ S){o1 o2 o5 o7 o8:Option V}{q':Nat}(hq:H[q']? = some (.list (ns.map eW)))(h1:q'≠D)(h2:q'≠Wt)
  (k: ∀ La JK H2 f2 GL,LS p q D Wt rows K S m H2 f2 GL->2*yO S f2 rows.length+GL.length<=2*yO S f rows.length+ws.length->Kk .next [o1,o2,some (.ref q),some (.ref D),some (.ref Wt),o5,some (.aM [.ref q',.int w]),La,JK] H2):
  wS (cx sc) cl (FV pL 3) [o1,o2,some (.ref q),some (.ref D),some (.ref Wt),o5,some (.aM [.ref q',.int w]),o7,o8] H Kk:=by
 refine nI ns.length (fun j ρ Hk=>∃ La JK f2 GL,ρ=[o1,o2,some (.ref q),some (.ref D),some (.ref Wt),o5,some (.aM [.ref q',.int w]),La,JK]/\LS p q D Wt rows K S m Hk f2 GL/\2*yO S f2 rows.length+GL.length<=2*yO S f rows.length+ws.length/\∀ i,i≠D->i≠Wt->Hk[i]? = H[i]?) ⟨_,_,f,ws,rfl,s,Nat.le_refl _,fun _ _ _=>rfl⟩ (fun ρ Hk j=> ?_) fun j ρ Hk hj jj go gV=> ?_
 ·obtain⟨La,JK,f2,GL,e1,s2,hm,ho⟩:=j
  rw[e1];exact⟨nT ((ho q' h1 h2).trans hq) (Nat.le_of_eq (List.length_map _)),k La JK Hk f2 GL s2 hm⟩
 ·obtain⟨La,JK,f2,GL,e1,s2,hm,ho⟩:=jj
  rw[e1];have hk:=List.getElem?_eq_getElem hj;obtain⟨n1,n2⟩:=hn _ (List.getElem_mem hj);exact⟨_,sH ((ho q' h1 h2).trans hq) (dR hk) rfl,s2.Z9 (Kk:=jE go Kk) hd hB n1 hw n2 fun tb H2 f3 cq a b c=>gV _ _ ⟨_,_,f3,cq,rfl,a,Nat.le_trans b hm,fun i hi fp=>(c i hi fp).trans (ho i hi fp)⟩⟩
end
section
variable{G:Cx}{H:Hp}
theorem PY{i j:Nat}{xs:List V}{Q:Bool->Prop}(hi:H[i]? = some (.list xs))(hj:H[j]? = some (.list []))(q:Q (!xs.isEmpty)):cJ (vE G .ne (.ref i) (.ref j) H) Q:=by
 refine .of (x:= !xs.isEmpty) ?_ q;show bO (bO (bO H[i]? nJ) fun xs=>bO (bO H[j]? nJ) fun ys=>if xs.length=ys.length then yB xs ys 20 else some false) _=_;rw[hi,hj];cases xs with
 | nil=>rfl
 | cons x xs=>rfl
theorem bv{p:Nat}{o:aY}(h:H[p]? = some o)(ho:HV (fun _=>false) o=true):Ch [p] [o] H:=by
 refine⟨rfl,List.nodup_cons.mpr ⟨List.not_mem_nil,List.nodup_nil⟩,fun i j e=> ?_⟩
 match i,e with
 | 0,e=>
  rw[<- Option.some.inj e];exact⟨bD h,h.trans (congrArg some (kD ho).symm)⟩
theorem dn{p m l:Nat}: fN [p] m l=p\/m<=fN [p] m l:=by
 match l with
 | 0=>exact .inl rfl
 | l+1=>exact .inr (Nat.le_add_right ..)
end
section
variable{sc:List Int}{d p q D Wt S:Nat}{H:Hp}{rows:List dZ}{K:Nat->Sl}{m:Int}{f:Nat->Option Nat}{ws:List Nat}{Kk:PS}{o1 o2 o5 o6 o7 o8:Option V}
theorem LS.pop(s:LS p q D Wt rows K S m H f ws)(hd:p<D/\q<D/\D<Wt):LS p q D Wt rows K S m (H.set Wt (.list (ws.dropLast.map eW))) f ws.dropLast:=by
 obtain⟨es,e1,e2,e3⟩:=s.dict;obtain⟨d1,d2,d3⟩:=hd;exact⟨(List.getElem?_set_ne (Nat.ne_of_gt (Nat.lt_trans d1 d3))).trans s.rL,(List.getElem?_set_ne (Nat.ne_of_gt (Nat.lt_trans d2 d3))).trans s.FP,⟨es,(List.getElem?_set_ne (Nat.ne_of_gt d3)).trans e1,e2,e3⟩,Bn s.GG,fun n hn=>s.pY n (List.dropLast_subset _ hn),s.ok,Nat.le_trans (Nat.add_le_add_right (by rw[List.length_dropLast];exact Nat.sub_le ..) _) s.Wx⟩
theorem LS.sZ(s1:LS p q D Wt rows K S m H f ws)(g:AD rows K (4+m))(hS:S=(4+m).toNat)(hm:m<=900)(hd:p<D/\q<D/\D<Wt){n0 v0:Nat}(Vm:f n0=some v0)
  (k: ∀ (w':Nat) (ns:List Nat) (q':Nat) (H2:Hp),LS p q D Wt rows K S m H2 f ws->H2[q']? = some (.list (ns.map eW))->q'≠D->q'≠Wt->(∀ n∈ns,n<rows.length/\∀ s,K n s->w'.testBit s.toNat=true)->w'<2 ^ S->Kk .next [o1,o2,some (.ref q),some (.ref D),some (.ref Wt),some (.int n0),some (.aM [.ref q',.int (w':Nat)]),o7,o8] H2):
  wS (cx sc) (B9 sc (d+2)) (FV pL 1) [o1,o2,some (.ref q),some (.ref D),some (.ref Wt),some (.int n0),o6,o7,o8] H Kk:=by
 obtain⟨UB,Zd,Zc⟩:=s1.ok n0 v0 Vm;obtain⟨es,e1,e2,_⟩:=s1.dict;have hr:=List.getElem?_eq_getElem UB;have sl:=bv s1.rL (dX uF rows);have args: ∀ K:List V->Hp->Prop,K [.ref p,.int (4+m),.int n0,.int v0] H->Oo (cx sc) (B9 sc (d+2)) [.aN (.aA 2) 4,.aN (.aA 2) 5,.aA 5,.bP (.aA 3) (.aA 5)] [o1,o2,some (.ref q),some (.ref D),some (.ref Wt),some (.int n0),o6,o7,o8] H K:=fun K k=>
  eQ s1.FP rfl rfl (eQ s1.FP rfl rfl (sA e1 (show cA es n0=some (eW v0) by rw[e2,Vm];rfl) k))
 refine args (fun vs h2=>OT (cx sc) (B9 sc (d+2)) (.g 104) vs h2 fun v h1=>Kk .next [o1,o2,some (.ref q),some (.ref D),some (.ref Wt),some (.int n0),some v,o7,o8] h1) (Io (f:=[p]) (L:=[.list (rows.map dZ.v)]) (as:=[.ref 0,.int (4+m),.int n0,.int v0]) rfl sl rfl (Hr (d:=d) g (Int.le_trans (Int.add_le_add_left hm 4) (by decide)) hr Zc fun w' ns l L' h0 hl VZ qp H2 b=> ?_));have hq:=(b.pos sl (bD hl)).2;rw[hl] at hq;have hq:H2[fN [p] H.length l]? = some (.list (ns.map eW)):=hq.trans (congrArg some (kD (dX (fun _=>rfl) ns)));have hp:H2[p]? = some (.list (rows.map dZ.v)):=(b.oK 0 p rfl).trans (by rw[h0];exact congrArg some (kD (dX uF rows)));have Mh: ∀ i,i<H.length->H2[i]? = H[i]?:=fun i hi=>by
  by_cases e:i=p
  ·rw[e,hp,s1.rL]
  ·exact b.keep i hi fun q=>e (List.mem_singleton.mp q)
 obtain⟨d1,d2,d3⟩:=hd;have ew:=bD s1.GG;refine k w' ns (fN [p] H.length l) H2 (s1.same Mh) hq (fun e=> ?_) (fun e=> ?_) VZ (by rw[hS];exact qp (by rw[<- hS];exact Zd))
 ·rcases dn (p:=p) (m:=H.length) (l:=l) with h|h
  ·exact Nat.ne_of_lt d1 (h.symm.trans e)
  ·rw[e] at h;exact Nat.lt_irrefl _ (Nat.lt_of_lt_of_le (Nat.lt_trans d3 ew) h)
 ·rcases dn (p:=p) (m:=H.length) (l:=l) with h|h
  ·exact Nat.ne_of_lt (Nat.lt_trans d1 d3) (h.symm.trans e)
  ·rw[e] at h;exact Nat.lt_irrefl _ (Nat.lt_of_lt_of_le ew h)
theorem LS.bz(s2:LS p q D Wt rows K S m H f ws)(g:AD rows K (4+m)){n0:Nat}(UB:n0<rows.length){v6:List V}(k:Kk .next [o1,o2,some (.ref q),o5,o6,some (.int n0),some (.aM v6),o7,o8] H):
  wS (cx sc) (B9 sc (d+2)) (FV pL 2) [o1,o2,some (.ref q),o5,o6,some (.int n0),some (.aM v6),o7,o8] H Kk:=by
 have hr:=List.getElem?_eq_getElem UB;obtain⟨rd,wr,tg,go,kk,_⟩:=g.row n0 _ hr;have ZP:=QB kk;generalize rows[n0]=r at *;have ix:=fP (f:=dZ.v) UB;refine eQ s2.FP rfl rfl (hO s2.rL ix (dR hr) (pU (fun _=>k) fun hc=> ?_));have hb:=ZP (beq_iff_eq.mp hc);refine eQ s2.FP rfl rfl (hO s2.rL ix (dR hr) ?_);obtain⟨op,a,bb,c⟩:=r;dsimp only at hb;subst hb;exact k
theorem LS.turn(s:LS p q D Wt rows K S m H f ws)(g:AD rows K (4+m))(hS:S=(4+m).toNat)(hm:m<=900)(hd:p<D/\q<D/\D<Wt)(hB:rows.length*(S+1)<15900000){n0:Nat}(kU:ws.getLast? = some n0)
  (k: ∀ aj ak La JK H2 f2 GL,LS p q D Wt rows K S m H2 f2 GL->2*yO S f2 rows.length+GL.length<2*yO S f rows.length+ws.length->Kk .next [o1,o2,some (.ref q),some (.ref D),some (.ref Wt),aj,ak,La,JK] H2):
  eI (cx sc) (B9 sc (d+2)) pL [o1,o2,some (.ref q),some (.ref D),some (.ref Wt),o5,o6,o7,o8] H Kk:=by
 obtain⟨v0,Vm⟩:=s.pY n0 (List.mem_of_getLast? kU);have UB:=(s.ok n0 v0 Vm).1;have Sm:1<=ws.length:=by
  cases ws with
  | nil=>exact nomatch kU
  | cons=>exact Nat.succ_le_succ (Nat.zero_le _)
 have s1:=s.pop hd;refine jB (ρ':=[o1,o2,some (.ref q),some (.ref D),some (.ref Wt),some (.int n0),o6,o7,o8]) (H':=H.set Wt (.list (ws.dropLast.map eW))) (fun K k=>Bt s.GG rfl (BJ s.GG (uI (v:=eW n0) (by rw[List.getLast?_map,kU];rfl) (by rw[<- List.map_dropLast];exact k)))) ?_;refine s1.sZ (Kk:=jE (fun ρ1 h1=>eI (cx sc) (B9 sc (d+2)) (pL.drop 2) ρ1 h1 Kk) Kk) g hS hm hd Vm fun w' ns q' H2 s2 hq h1 h2 VZ hw=> ?_;refine s2.bz (Kk:=jE (fun ρ1 h1=>eI (cx sc) (B9 sc (d+2)) (pL.drop 3) ρ1 h1 Kk) Kk) g UB ?_;exact s2.V3 (Kk:=jE (fun ρ h=>eI (cx sc) (B9 sc (d+2)) [] ρ h Kk) Kk) hd hB VZ hw hq h1 h2 fun La JK H3 f3 cq a c=>k _ _ La JK H3 f3 cq a (by rw[List.length_dropLast] at c;clear k;lia)
end
section
variable{sc:List Int}{d p q D Wt S:Nat}{H:Hp}{rows:List dZ}{K:Nat->Sl}{m:Int}{f:Nat->Option Nat}{ws:List Nat}{Q:PS}{o1 o2 o5 o6 o7 o8:Option V}
theorem LS.Tf(s:LS p q D Wt rows K S m H f ws)(g:AD rows K (4+m))(hS:S=(4+m).toNat)(hm:m<=900)(hd:p<D/\q<D/\D<Wt)(hB:rows.length*(S+1)<15900000)(k: ∀ ρ H,Q (.ret (.bool true)) ρ H):
  eI (cx sc) (B9 sc (d+2)) (iP.drop 4) [o1,o2,some (.ref q),some (.ref D),some (.ref Wt),o5,o6,o7,o8] H Q:=by
 refine qM (fun n ρ H=>∃ f ws o5 o6 o7 o8,ρ=[o1,o2,some (.ref q),some (.ref D),some (.ref Wt),o5,o6,o7,o8]/\LS p q D Wt rows K S m H f ws/\n=2*yO S f rows.length+ws.length) _ ⟨f,ws,o5,o6,o7,o8,rfl,s,rfl⟩ fun n ρ H j go gV=> ?_;obtain⟨f,ws,o5,o6,o7,o8,e1,s,e2⟩:=j;rw[e1];have s1:LS p q D Wt rows K S m (H++[.list []]) f ws:=s.same fun i hi=>List.getElem?_append_left hi;refine PY s1.GG aQ (bQ (fun hc=> ?_) fun _=>k _ _);obtain⟨n0,kU⟩: ∃ n0,ws.getLast? = some n0:=eL (by
  cases ws with
  | nil=>exact absurd hc (fun q=>Bool.noConfusion (show false=true from q))
  | cons=>exact Nat.succ_pos _)
 exact s1.turn (Kk:=jE go (jE (fun ρ1 h1=>eI (cx sc) (B9 sc (d+2)) (iP.drop 5) ρ1 h1 Q) Q)) g hS hm hd hB kU fun aj ak La JK H2 f2 GL a b=>gV _ _ H2 (by rw[e2];exact b) ⟨f2,GL,aj,ak,La,JK,rfl,a,rfl⟩
end
theorem R0{s:Int}(h0:0<=s)(h4:s<4):(15:Nat).testBit s.toNat=true:=by
 have:s=0\/s=1\/s=2\/s=3:=by lia
 rcases this with rfl|rfl|rfl|rfl<;>rfl
theorem K4{sc:List Int}{H:Hp}{Q:V×Hp->Prop}(h:sc.length<=most)(q:Q (.ref H.length,H++[.list (sc.map .int)])):cJ (AZ (cx sc) .list [.g 112] H) Q:=by
 refine .of (x:=(.ref H.length,H++[.list (sc.map .int)])) ?_ q;show bO (dI (decide (sc.length<=most)) (some (sc.map V.int))) _=_;rw[dJ (decide_eq_true h)];rfl
theorem LS.start{p q S:Nat}{rows:List dZ}{K:Nat->Sl}{m:Int}{H:Hp}(hp:H[p]? = some (.list (rows.map dZ.v)))(hq:H[q]? = some (pI p m))(g:AD rows K (4+m))(hS:(4+m).toNat=S)(h0:0<=m):LS p q H.length (H.length+1) rows K S m (H++[.dict [(0,.int 15)] none]++[.list [.int 0]]) (IO (fun _=>none) 0 15) [0]:=by
 have mO:=g.pos;have pu:=ER (S:=S) (f:=fun _=>none) (k:=0) (v:=15) (Nat.succ_le_succ (Dr S)) rows.length mO;have pv:=Nh (S:=S) (f:=fun _=>none) rows.length;refine⟨bV (bV hp),bV (bV hq),⟨[(0,.int 15)],bV aQ,fun n=> ?_,?_⟩,?_,fun n hn=>⟨15,by rw[List.mem_singleton.mp hn];rfl⟩,fun n v hv=> ?_,?_⟩
 ·unfold IO
  by_cases e:n=0
  ·rw[e];rfl
  ·rw[if_neg e]
   have:((0:Int)==(n:Int))=false:=beq_eq_false_iff_ne.mpr fun q=>e (Int.ofNat.inj q.symm);show Option.map _ (List.find? _ _)=_;rw[List.find?_cons_of_neg (p:=fun e:Int×V=>e.1==(n:Int)) (a:=(0,V.int 15)) (by rw[this];exact Bool.false_ne_true)];rfl
 ·show 1+_<=_
  lia
 ·have hD:H.length+1=(H++[aY.dict [(0,V.int 15)] none]).length:=by rw[List.length_append];rfl
  rw[hD];exact aQ
 ·unfold IO at hv
  by_cases e:n=0
  ·rw[if_pos e] at hv
   rw[<- Option.some.inj hv,e];refine⟨mO,Nat.lt_of_lt_of_le (show 15<2 ^ 4 by decide) (Nat.pow_le_pow_right (by decide) (by lia)),fun s hs=> ?_⟩;obtain⟨a,b⟩:=g.start s hs;exact R0 a b
  ·rw[if_neg e] at hv;exact nomatch hv
 ·show 1+_<=_
  lia
section
variable{sc:List Int}{d:Nat}{Kk:PS}
theorem Ta{n:Nat}{H1:Hp}{body:List aR}(YJ:GO body)(WT:Ch (Ke n) (uS (body.map aR.v) []) H1){o0:Option V}
  (k: ∀ y p q H2,Fin y->H2[q]? = some (pI p y.most)->H2[p]? = some (.list ((iY y.rows y.labels).map dZ.v))->Kk .next [o0,some (.ref n),some (.ref q),none,none,none,none,none,none] H2):
  wS (cx sc) (B9 sc (d+10)) (FV iP 1) [o0,some (.ref n),none,none,none,none,none,none,none] H1 Kk:=by
 refine Io (f:=Ke n) (L:=uS (body.map aR.v) []) (as:=[.ref 0,.int 1]) rfl WT rfl (Nx (P:=Fin) (PA YJ 0) (fun y f=>⟨f.zP,Nat.lt_of_le_of_lt (Nat.le_add_right ..) (Nat.lt_trans f.size (by decide))⟩) fun y l j L' cV hl hj H2 b=> ?_);have hq:=(b.pos WT (bD hl)).2;have hp:=(b.pos WT (bD hj)).2;rw[hl] at hq;rw[hj] at hp;exact k y (fN (Ke n) H1.length j) (fN (Ke n) H1.length l) H2 cV hq (hp.trans (congrArg some (kD (dX uF _))))
theorem Tc{p q:Nat}{m:Int}{H:Hp}(hq:H[q]? = some (pI p m))(hm:0<=m){o0 o1:Option V}(k:Kk .next [o0,o1,some (.ref q),none,none,none,none,none,none] H):
  wS (cx sc) (B9 sc (d+2)) (FV iP 2) [o0,o1,some (.ref q),none,none,none,none,none,none] H Kk:=
 eQ hq rfl rfl (eQ hq rfl rfl (eQ hq rfl rfl (eQ hq rfl rfl (Cw (decide_eq_false (by lia)) k))))
theorem QG(hs:sc.length<=63):Wf sc 60 106 [.g 112] [] fun v _=>v= .bool true:=by
 refine MG rfl rfl (K4 (Nat.le_trans hs (by decide)) (FB rfl (Fo (d:=39) (Nat.le_trans hs (by decide)) fun n H1 body YJ WT=> ?_)));refine Ta (d:=49) (Kk:=jE (fun ρ1 h1=>eI (cx sc) (B9 sc 59) (iP.drop 2) ρ1 h1 fun fl _ _=>eG fl= .bool true) fun fl _ _=>eG fl= .bool true) YJ WT fun y p q H2 cV hq hp=> ?_;obtain⟨K,g⟩:=cV.PM;have bE:(iY y.rows y.labels).length=y.rows.length:=List.length_map _;have kI:=cV.size;have RK:=cV.most;have gd:=cV.gW;refine Tc (d:=57) (Kk:=jE (fun ρ1 h1=>eI (cx sc) (B9 sc 59) (iP.drop 3) ρ1 h1 fun fl _ _=>eG fl= .bool true) fun fl _ _=>eG fl= .bool true) hq RK ?_;have hB:(iY y.rows y.labels).length*((4+y.most).toNat+1)<15900000:=Nat.lt_of_le_of_lt (Nat.mul_le_mul (show _<=62200 by lia) (show (4+y.most).toNat+1<=245 by lia)) (by decide);have s:=LS.start hp hq g rfl RK;refine jB (ρ':=[some (.g 112),some (.ref n),some (.ref q),some (.ref H2.length),some (.ref (H2.length+1)),none,none,none,none]) (H':=H2++[.dict [(0,.int 15)] none]++[.list [.int 0]]) (fun K k=> ?_) (s.Tf (d:=57) g rfl (by lia) ⟨bD hp,bD hq,Nat.lt_succ_self _⟩ hB fun _ _=>rfl);have k:K .next [some (.g 112),some (.ref n),some (.ref q),some (.ref H2.length),some (.ref (H2++[aY.dict [(0,.int 15)] none]).length),none,none,none,none] (H2++[.dict [(0,.int 15)] none]++[.list [.int 0]]):=by
  rw[List.length_append];exact k
 exact k
theorem Vw(sc:List Int)(hs:sc.length<=63):wF (cx sc) 60 106 [.g 112] [] fun v _=>v= .bool true:=by
 obtain⟨h⟩:=QG hs;exact h
end
end Mine
theorem PySem.Challenge.cw_nm0168_03_holds : PySem.Challenge.rw_nm0168_03.Holds :=
 Mine.Nl fun sc hs=>Mine.Vw sc hs
