import PyProof.Rows.All
import Wide.All
import OpenK.AllK
import Wide.FinOn
import PyProof.P3In
import PyProof.TupleKey
import ObjForm.ListNI
import PySem.Challenge.RW_xm0610_01
set_option Elab.async false
set_option autoImplicit false
set_option linter.unusedVariables false
set_option genSizeOf false
set_option genInjectivity false
set_option genCtorIdx false
set_option bootstrap.genMatcherCode false
set_option backward.match.sparseCases false
set_option linter.unusedSimpArgs false
namespace Mine
section
set_option maxRecDepth 10000
inductive LX where
 | n (k:Nat)
 | v (i:Nat)
 | a (x y:LX)
 | m (k:Nat) (x:LX)
noncomputable def LX.den (c:List Nat):LX->Nat
 | .n k=>k
 | .v i=>c.getD i 0
 | .a x y=>x.den c + y.den c
 | .m k x=>k * x.den c
noncomputable def ZlQ:List Int->List Int->List Int
 | [],r=>r
 | x::xs,r=>(x + r.headD 0)::ZlQ xs r.tail
noncomputable def evC:List Int->List Nat->Int
 | [],_=>0
 | x::xs,c=>x * c.headD 0 + evC xs c.tail
noncomputable def ZqL:Nat->List Int
 | 0=>[1]
 | i + 1=>0::ZqL i
noncomputable def LX.co (s:Int):LX->List Int
 | .n k=>[s * k]
 | .v i=>0::(ZqL i).map (s * ·)
 | .a x y=>ZlQ (x.co s) (y.co s)
 | .m k x=>x.co (s * k)
theorem ZgC:∀ (x y:List Int) (c:List Nat),evC (ZlQ x y) c=evC x c + evC y c
 | [],y,c=>(Int.zero_add _).symm
 | a::x,[],c=>by
  show (a + 0) * _ + evC (ZlQ x []) c.tail=(a * _ + evC x c.tail) + 0
  rw [ZgC x [] c.tail,Int.add_zero,Int.add_zero]
  show _ + (_ + 0)=_
  rw [Int.add_zero]
 | a::x,b::y,c=>by
  show (a + b) * _ + evC (ZlQ x y) c.tail=(a * _ + evC x c.tail) + (b * _ + evC y c.tail)
  rw [ZgC x y c.tail,Int.add_mul]
  omega
theorem Znv (s:Int):∀ (i:Nat) (c:List Nat),evC ((ZqL i).map (s * ·)) c=s * (c.getD i 0:Nat)
 | 0,c=>by
  show s * 1 * (c.headD 0:Nat) + 0=_
  rw [Int.mul_one,Int.add_zero]
  cases c <;> rfl
 | i + 1,c=>by
  show s * 0 * _ + evC ((ZqL i).map (s * ·)) c.tail=_
  rw [Znv s i c.tail,Int.mul_zero,Int.zero_mul,Int.zero_add]
  cases c <;> rfl
theorem Zkv (c:List Nat):∀ (x:LX) (s:Int),evC (x.co s) (1::c)=s * (x.den c:Nat)
 | .n k,s=>by
  show s * k * 1 + 0=_
  rw [Int.mul_one,Int.add_zero]; rfl
 | .v i,s=>by
  show 0 * _ + evC ((ZqL i).map (s * ·)) c=_
  rw [Znv,Int.zero_mul,Int.zero_add]; rfl
 | .a x y,s=>by
  show evC (ZlQ (x.co s) (y.co s)) _=s * ((x.den c + y.den c:Nat):Int)
  rw [ZgC,Zkv c x s,Zkv c y s,Int.natCast_add,Int.mul_add]
 | .m k x,s=>by
  show evC (x.co (s * k)) _=s * ((k * x.den c:Nat):Int)
  rw [Zkv c x,Int.natCast_mul,Int.mul_assoc]
noncomputable def ZnQ:List (Nat × LX × LX)->List Int
 | []=>[]
 | (k,x,y)::r=>ZlQ (ZlQ (x.co k) (y.co (-k))) (ZnQ r)
noncomputable def ZrO (c:List Nat):List (Nat × LX × LX)->Prop
 | []=>False
 | (_,x,y)::r=>x.den c<=y.den c->ZrO c r
noncomputable def Zpj:List Int->Bool
 | []=>false
 | x::r=>decide (1<=x)&&r.all fun y=>decide (0<=y)
theorem Znu:∀ (l:List Int) (c:List Nat),(l.all fun y=>decide (0<=y))=true->0<=evC l c
 | [],_,_=>Int.le_refl _
 | x::l,c,h=>by
  obtain ⟨h1,h2⟩:=Bool.and_eq_true_iff.mp h
  exact Int.add_nonneg (Int.mul_nonneg (of_decide_eq_true h1) (Int.natCast_nonneg _)) (Znu l c.tail h2)
theorem Znx (c:List Nat):∀ (hs:List (Nat × LX × LX)) (z:Int),z<=0->1<=z + evC (ZnQ hs) (1::c)->ZrO c hs
 | [],z,h,q=>by
  have:evC (ZnQ []) (1::c)=0:=rfl
  rw [this] at q
  show False
  omega
 | (k,x,y)::r,z,h,q=>fun le=>by
  have e:evC (ZnQ ((k,x,y)::r)) (1::c)=k * (x.den c:Nat) + -k * (y.den c:Nat) + evC (ZnQ r) (1::c):=by
   show evC (ZlQ (ZlQ (x.co k) (y.co (-k))) (ZnQ r)) _=_
   rw [ZgC,ZgC,Zkv,Zkv]
  rw [e] at q
  refine Znx c r (z + (k * (x.den c:Nat) + -k * (y.den c:Nat))) ?_ (by rw [Int.add_assoc]; exact q)
  have:=Int.mul_le_mul_of_nonneg_left (Int.ofNat_le.mpr le) (Int.natCast_nonneg k)
  rw [Int.neg_mul]
  omega
theorem far (c:List Nat) (hs:List (Nat × LX × LX)) (h:Zpj (ZnQ hs)=true):ZrO c hs:=by
 refine Znx c hs 0 (Int.le_refl _) ?_
 rw [Int.zero_add]
 revert h
 cases ZnQ hs with
 | nil=>exact fun h=>nomatch h
 | cons x r =>
  intro h
  obtain ⟨h1,h2⟩:=Bool.and_eq_true_iff.mp h
  have:=Znu r c h2
  have h1:=of_decide_eq_true h1
  show 1<=x * 1 + evC r c
  omega
theorem o0 {a:Nat} (h0:a<=10):a<=1000000:=Nat.le_trans h0 (Nat.le_add_left _ _)
theorem o1 {a:Nat} (h0:a<=3):a<=1000000:=Nat.le_trans h0 (Nat.le_add_left _ _)
theorem o2 {a b:Nat} (h0:a + 200 < b):a + 64 < b:=Nat.lt_of_le_of_lt (Nat.add_le_add_left (by decide) _) h0
theorem o3 {a:Nat} (h0:a<=14):a<=1000000:=Nat.le_trans h0 (Nat.le_add_left _ _)
theorem o4 {a:Nat} (h0:2<=a):1<=a:=Nat.le_of_lt h0
theorem o5 {a b:Nat} (h0:b=a + 1):a<=b:=by simp [h0]
theorem o6 {a:Nat}:0<=(↑a:Int):=Int.natCast_nonneg _
theorem o7 {a b:Nat} (h0:b=a + 2):a<=b:=by simp [h0]
theorem o8 {a:Nat} (h0:a<=1000):a<=1000000:=Nat.le_trans h0 (Nat.le_add_left _ _)
theorem o9 {a:Nat} (h0:a<=14):a<=1000:=Nat.le_trans h0 (Nat.le_add_left _ _)
theorem o10 {a:Nat} (h0:a<=12):a<=1000000:=Nat.le_trans h0 (Nat.le_add_left _ _)
theorem o11 {a b:Nat} (h0:b<=10) (h1:b + 1=a):a<=1000000:=Nat.le_of_not_lt fun hn=>far [b,a] [(1,(.v 0),(.n 10)),(1,(.v 1),(.a (.v 0) (.n 1))),(1,(.a (.n 1000000) (.n 1)),(.v 1))] rfl h0 (Nat.le_of_eq h1.symm) hn
theorem o12 {a b:Nat} (h0:a < b):(↑a:Int) < (↑b:Int):=Int.ofNat_lt.mpr h0
theorem o13 {a:Nat} (h0:a<=3):a<=10:=Nat.le_trans h0 (Nat.le_add_left _ _)
theorem o14 {a:Nat} (h0:6<=a):1<=a:=Nat.le_trans (Nat.le_add_left _ _) h0
theorem o15 {a:Nat} (h0:4<=a):1<=a:=Nat.le_trans (Nat.le_add_left _ _) h0
theorem o16 {a:Nat} (h0:a < 64):a<=16777216:=Nat.le_of_lt (Nat.lt_of_lt_of_le h0 (by decide))
theorem o17 {a b:Nat}:a + 1 + b=a + (b + 1):=Nat.add_right_comm _ _ _
theorem o18 {a:Int} {b c:Nat} (h0:c + 1=b) (h1:(↑c:Int) + 1=a):a=(↑b:Int):=h1.symm.trans (congrArg Nat.cast h0)
theorem o19 {a b:Nat} (h0:a<=b):a < b + 1:=Nat.lt_succ_of_le h0
theorem o20 {a:Nat} (h0:0 < a):0 < (↑a:Int):=Int.ofNat_lt.mpr h0
theorem o21 {a:Nat} (h0:a<=100):a<=100000:=Nat.le_trans h0 (Nat.le_add_left _ _)
theorem o22 {a:Nat} (h0:7<=a):1<=a:=Nat.le_trans (Nat.le_add_left _ _) h0
theorem o23 {a b:Nat} (h0:a + 200 < b):a + 1 + 64 < b:=Nat.lt_of_not_le fun hn=>far [a,b] [(1,(.a (.a (.v 0) (.n 200)) (.n 1)),(.v 1)),(1,(.v 1),(.a (.a (.v 0) (.n 1)) (.n 64)))] rfl h0 hn
theorem o24 {a b:Nat} (h0:b<=1000000) (h1:a=b):a<=16777216:=Nat.le_trans (Nat.le_of_eq h1) (Nat.le_trans h0 (by decide))
theorem o25 {a b c d:Nat} (h0:a + 64 < d) (h1:b<=6):a + 1 + min b c < d:=Nat.lt_of_not_le fun hn=>far [a,d,b,(min b c)] [(1,(.a (.a (.v 0) (.n 64)) (.n 1)),(.v 1)),(1,(.v 2),(.n 6)),(1,(.v 1),(.a (.a (.v 0) (.n 1)) (.v 3))),(1,(.v 3),(.v 2))] rfl h0 h1 hn (Nat.min_le_left _ _)
theorem o26 {a b:Nat} (h0:b<=10) (h1:b + 1=a):a<=11:=Nat.le_of_not_lt fun hn=>far [b,a] [(1,(.v 0),(.n 10)),(1,(.v 1),(.a (.v 0) (.n 1))),(1,(.a (.n 11) (.n 1)),(.v 1))] rfl h0 (Nat.le_of_eq h1.symm) hn
theorem o27 {a b:Nat} (h0:b<=10) (h1:a=b):a<=1000000:=Nat.le_trans (Nat.le_of_eq h1) (Nat.le_trans h0 (by decide))
theorem o28 {a:Nat}:¬(↑a:Int) < (↑a:Int):=Int.lt_irrefl _
theorem o29 {a b:Nat} (h0:a < b):a < b + 1:=Nat.lt_succ_of_lt h0
theorem o30 {a b:Nat} (h0:a<=b) (h1:¬a=b):a < b:=Nat.lt_of_le_of_ne h0 h1
theorem o31 {a:Nat} (h0:5<=a):1<=a:=Nat.le_trans (Nat.le_add_left _ _) h0
theorem o32 {a b c:Nat} (h0:c=a) (h1:c + 1=b):a + 1=b:=Nat.le_antisymm (Nat.le_of_not_lt fun hn=>far [a,c,b] [(1,(.v 0),(.v 1)),(1,(.a (.v 1) (.n 1)),(.v 2)),(1,(.a (.v 2) (.n 1)),(.a (.v 0) (.n 1)))] rfl (Nat.le_of_eq h0.symm) (Nat.le_of_eq h1) hn) (Nat.le_of_not_lt fun hn=>far [c,a,b] [(1,(.v 0),(.v 1)),(1,(.v 2),(.a (.v 0) (.n 1))),(1,(.a (.a (.v 1) (.n 1)) (.n 1)),(.v 2))] rfl (Nat.le_of_eq h0) (Nat.le_of_eq h1.symm) hn)
theorem o33 {a b c:Nat} (h0:b<=10) (h1:b + 1=c) (h2:a + 1=c):a<=1000000:=Nat.le_of_not_lt fun hn=>far [b,c,a] [(1,(.v 0),(.n 10)),(1,(.v 1),(.a (.v 0) (.n 1))),(1,(.a (.v 2) (.n 1)),(.v 1)),(1,(.a (.n 1000000) (.n 1)),(.v 2))] rfl h0 (Nat.le_of_eq h1.symm) (Nat.le_of_eq h2) hn
theorem o34 {a:Nat} (h0:7<=a):2<=a:=Nat.le_trans (Nat.le_add_left _ _) h0
theorem o35 {a b:Nat} (h0:¬a=b):¬(↑a:Int)=(↑b:Int):=fun e=>h0 (Int.ofNat_inj.mp e)
theorem o36 {a b:Nat} (h0:(↑a:Int) < (↑b:Int)):a < b:=Int.ofNat_lt.mp h0
theorem o37 {a:Nat} (h0:3<=a):1<=a:=Nat.le_trans (Nat.le_add_left _ _) h0
theorem o38 {a:Int} (h0:a<=1000000):a < 2 ^ 63:=Int.lt_of_le_of_lt h0 (by decide)
theorem o39 {a:Nat}:a<=a + 1:=Nat.le_succ _
theorem o40 {a b c d:Nat} (h0:c < b) (h1:d=b) (h2:a < d):a < b:=Nat.lt_of_not_le fun hn=>far [d,b,a] [(1,(.v 0),(.v 1)),(1,(.a (.v 2) (.n 1)),(.v 0)),(1,(.v 1),(.v 2))] rfl (Nat.le_of_eq h1) h2 hn
theorem o41 {a b c d:Nat} (h0:a + 64 < d) (h1:b<=6):a + min b c < d:=Nat.lt_of_not_le fun hn=>far [a,d,b,(min b c)] [(1,(.a (.a (.v 0) (.n 64)) (.n 1)),(.v 1)),(1,(.v 2),(.n 6)),(1,(.v 1),(.a (.v 0) (.v 3))),(1,(.v 3),(.v 2))] rfl h0 h1 hn (Nat.min_le_left _ _)
theorem o42 {a:Nat}:a<=a + 2:=Nat.le_add_right _ _
theorem o43 {a:Nat} (h0:a<=1000000):a<=16777216:=Nat.le_trans h0 (Nat.le_add_left _ _)
theorem o44 {a:Nat}:a<=a:=Nat.le_refl _
theorem o45 {a:Nat} (h0:(↑a:Int) < 64):a < 64:=Int.ofNat_lt.mp h0
theorem o46 {a b:Nat} (h0:a < b):a<=b:=Nat.le_of_lt h0
theorem o47 {a:Nat} (h0:a<=1000000):(↑a:Int)<=1000000:=Int.ofNat_le.mpr h0
theorem o48 {a b:Nat} (h0:a<=b) (h1:b<=3):a<=1000000:=Nat.le_trans h0 (Nat.le_trans h1 (by decide))
theorem o49 {a b:Nat}:a + (b + 1)=a + 1 + b:=Nat.le_antisymm (Nat.le_of_not_lt fun hn=>far [a,b] [(1,(.a (.a (.a (.v 0) (.n 1)) (.v 1)) (.n 1)),(.a (.v 0) (.a (.v 1) (.n 1))))] rfl hn) (Nat.le_of_not_lt fun hn=>far [a,b] [(1,(.a (.a (.v 0) (.a (.v 1) (.n 1))) (.n 1)),(.a (.a (.v 0) (.n 1)) (.v 1)))] rfl hn)
theorem o50 {a b:Nat} (h0:b<=a) (h1:a < b + 1):a=b:=Nat.le_antisymm (Nat.le_of_lt_succ h1) h0
theorem o52 {a:Nat}:a < a + 1:=Nat.lt_succ_self _
theorem o53 {a b:Nat} (h0:a < b):a<=b - 1:=Nat.le_sub_one_of_lt h0
theorem o54 {a:Nat} (h0:a<=3):a<=6:=Nat.le_trans h0 (Nat.le_add_left _ _)
theorem o55 {a b:Nat} (h0:b<=14) (h1:a<=b):a<=1000000:=Nat.le_trans h1 (Nat.le_trans h0 (by decide))
theorem o56 {a:Nat} (h0:5<=a):4<=a:=Nat.le_of_lt h0
theorem o57 {a:Nat} (h0:5<=a):2<=a:=Nat.le_trans (Nat.le_add_left _ _) h0
theorem o58 {a:Nat} (h0:6<=a):2<=a:=Nat.le_trans (Nat.le_add_left _ _) h0
theorem o59 {a:Nat} (h0:a<=10):a<=1000:=Nat.le_trans h0 (Nat.le_add_left _ _)
theorem o60 {a b:Nat} (h0:b<=14) (h1:a<=b):a<=1000:=Nat.le_trans h1 (Nat.le_trans h0 (by decide))
theorem o61 {a b:Nat} (h0:b<=14) (h1:a<=b):a<=14:=Nat.le_trans h1 h0
theorem o62 {a:Nat} (h0:2<=a):2<=a:=by omega
theorem o63 {a b c:Nat} (h0:b + 1=c) (h1:a < c):a < b + 1:=by simp [h0,h1]
theorem o64 {a b:Nat} (h0:a<=b):a<=b + 1:=by solve_by_elim (maxDepth:=3) [Nat.le_of_lt,Nat.le_refl,Nat.le_succ,Nat.lt_succ_self,Nat.le_add_right,Nat.le_add_left,Nat.succ_le_of_lt,Nat.le_of_lt_succ,Nat.lt_succ_of_le,Nat.succ_le_succ,Nat.zero_le,Nat.le_of_eq,Nat.ne_of_lt,Nat.ne_of_gt,Nat.lt_of_lt_of_le,Nat.lt_of_le_of_lt,Nat.le_trans,Nat.lt_trans]
theorem o65 {a:Nat}:(↑a:Int).toNat=a:=Int.toNat_natCast _
theorem o66 {a:Nat} (h0:a < 5):a=0\/a=1\/a=2\/a=3\/a=4:=(by decide:∀ x:Fin 5,x.1=0\/x.1=1\/x.1=2\/x.1=3\/x.1=4) ⟨a,h0⟩
theorem o67 {a b:Nat} (h0:a=b) (h1:a < b):False:=far [b,a] [(1,(.v 0),(.v 1)),(1,(.a (.v 1) (.n 1)),(.v 0))] rfl (Nat.le_of_eq h0.symm) h1
theorem o68 {a b c:Nat} (h0:b<=12) (h1:b=a + c):a<=12:=Nat.le_of_not_lt fun hn=>far [b,a,c] [(1,(.v 0),(.n 12)),(1,(.a (.v 1) (.v 2)),(.v 0)),(1,(.a (.n 12) (.n 1)),(.v 1))] rfl h0 (Nat.le_of_eq h1.symm) hn
theorem o69 {a b c:Nat} (h0:b=a + c) (h1:b<=3):a<=3:=Nat.le_of_not_lt fun hn=>far [a,c,b] [(1,(.a (.v 0) (.v 1)),(.v 2)),(1,(.v 2),(.n 3)),(1,(.a (.n 3) (.n 1)),(.v 0))] rfl (Nat.le_of_eq h0.symm) h1 hn
theorem o70 {a b:Nat} (h0:b<=12) (h1:a=b):a<=1000000:=Nat.le_trans (Nat.le_of_eq h1) (Nat.le_trans h0 (by decide))
theorem o71 {a:Nat} (h0:a<=3):a<=100:=Nat.le_trans h0 (Nat.le_add_left _ _)
theorem o72 {a b:Nat} (h0:b<=a/\a<=3):a<=10:=Nat.le_of_not_lt fun hn=>far [a] [(1,(.v 0),(.n 3)),(1,(.a (.n 10) (.n 1)),(.v 0))] rfl h0.2 hn
theorem o73 {a b:Nat} (h0:1 + a=b):1 + (↑a:Int)=(↑b:Int):=congrArg Int.ofNat h0
theorem o74 {a b:Nat} (h0:b<=2) (h1:a=b):a<=100:=Nat.le_trans (Nat.le_of_eq h1) (Nat.le_trans h0 (by decide))
theorem o75 {a:Nat} (h0:9<=a):1<=a:=Nat.le_trans (Nat.le_add_left _ _) h0
theorem o76 {a:Nat} (h0:9<=a):7<=a:=Nat.le_trans (Nat.le_add_left _ _) h0
theorem o77 {a:Nat} (h0:10<=a):1<=a:=Nat.le_trans (Nat.le_add_left _ _) h0
theorem o78 {a:Nat} (h0:10<=a):3<=a:=Nat.le_trans (Nat.le_add_left _ _) h0
theorem o79 {a:Int} (h0:a.natAbs < 2 ^ 62):-2 ^ 64 < a:=Int.neg_lt_of_neg_lt (Int.lt_of_le_of_lt (Int.natAbs_neg a ▸ Int.le_natAbs) (Int.lt_trans (Int.ofNat_lt.mpr h0) (by decide)))
theorem o80 {a:Int} (h0:a.natAbs < 2 ^ 62):a < 2 ^ 64:=Int.lt_of_le_of_lt Int.le_natAbs (Int.lt_trans (Int.ofNat_lt.mpr h0) (by decide))
theorem o81 {a b c d:Nat} (h0:c + d<=1000000) (h1:a=c) (h2:b=d):a + b<=16777216:=Nat.le_of_not_lt fun hn=>far [c,d,a,b] [(1,(.a (.v 0) (.v 1)),(.n 1000000)),(1,(.v 2),(.v 0)),(1,(.v 3),(.v 1)),(1,(.a (.n 16777216) (.n 1)),(.a (.v 2) (.v 3)))] rfl h0 (Nat.le_of_eq h1) (Nat.le_of_eq h2) hn
theorem o82 {a b:Nat} (h0:b<=1000000) (h1:a=b):(↑a:Int) < 2 ^ 63:=Int.ofNat_lt.mpr (Nat.lt_of_le_of_lt (Nat.le_trans (Nat.le_of_eq h1) h0) (by decide))
theorem o83 {a b c:Nat} (h0:a < c) (h1:b=c):a < b:=by simp [h0,h1]
theorem o84 {a b c d:Nat} (h0:c < b) (h1:d=b) (h2:a < d) (h3:a < d):a < b:=Nat.lt_of_not_le fun hn=>far [d,b,a] [(1,(.v 0),(.v 1)),(1,(.a (.v 2) (.n 1)),(.v 0)),(1,(.v 1),(.v 2))] rfl (Nat.le_of_eq h1) h2 hn
theorem o85 {a b c d:Nat} (h0:a + 64 < d) (h1:b<=6):a + min (b + 1) (c + 1) < d:=Nat.lt_of_not_le fun hn=>far [a,d,b,(min (b + 1) (c + 1))] [(1,(.a (.a (.v 0) (.n 64)) (.n 1)),(.v 1)),(1,(.v 2),(.n 6)),(1,(.v 1),(.a (.v 0) (.v 3))),(1,(.v 3),(.a (.v 2) (.n 1)))] rfl h0 h1 hn (Nat.min_le_left _ _)
theorem o86 {a:Nat}:a < a + 2:=Nat.le_succ _
theorem o87 {a b:Nat} (h0:b=a):a<=b:=by solve_by_elim (maxDepth:=3) [Nat.le_of_lt,Nat.le_refl,Nat.le_succ,Nat.lt_succ_self,Nat.le_add_right,Nat.le_add_left,Nat.succ_le_of_lt,Nat.le_of_lt_succ,Nat.lt_succ_of_le,Nat.succ_le_succ,Nat.zero_le,Nat.le_of_eq,Nat.ne_of_lt,Nat.ne_of_gt,Nat.lt_of_lt_of_le,Nat.lt_of_le_of_lt,Nat.le_trans,Nat.lt_trans]
theorem o88 {a:Int} (h0:0<=a):¬a < 0:=by simpa using h0
theorem o89 {a:Nat}:a - 1<=a:=Nat.sub_le _ _
theorem o90 {a:Nat}:a<=a + 5:=Nat.le_add_right _ _
theorem o91 {a b c:Nat} (h0:a=c + 1) (h1:b=c + 2):a ≠ b:=by simp [h0,h1]
theorem o92 {a:Nat} (h0:¬a < 2):2<=a:=Nat.le_of_not_lt h0
theorem o93 {a b:Nat} (h0:a < 64) (h1:63<=b):a<=b:=Nat.le_of_not_lt fun hn=>far [a,b] [(1,(.a (.v 0) (.n 1)),(.n 64)),(1,(.n 63),(.v 1)),(1,(.a (.v 1) (.n 1)),(.v 0))] rfl h0 h1 hn
theorem o94 {a b:Nat} (h0:a < b + 1):a<=b:=Nat.le_of_lt_succ h0
theorem o95 {a b:Nat} (h0:a=b):¬a > b:=by simp [h0]
theorem o96 {a b:Nat} (h0:a=b) (h1:a + 1<=b):False:=far [b,a] [(1,(.v 0),(.v 1)),(1,(.a (.v 1) (.n 1)),(.v 0))] rfl (Nat.le_of_eq h0.symm) h1
theorem o97 {a:Nat} (h0:a<=64):a < 4096:=Nat.lt_of_le_of_lt h0 (by decide)
theorem o99 {a b:Nat} (h0:a<=b):a + (b - a)=b:=Nat.add_sub_of_le h0
theorem ZsD {a b c:Nat} (h0:a=b + 1 + c):a=b + (c + 1):=Nat.le_antisymm (Nat.le_of_not_lt fun hn=>far [a,b,c] [(1,(.v 0),(.a (.a (.v 1) (.n 1)) (.v 2))),(1,(.a (.a (.v 1) (.a (.v 2) (.n 1))) (.n 1)),(.v 0))] rfl (Nat.le_of_eq h0) hn) (Nat.le_of_not_lt fun hn=>far [b,c,a] [(1,(.a (.a (.v 0) (.n 1)) (.v 1)),(.v 2)),(1,(.a (.v 2) (.n 1)),(.a (.v 0) (.a (.v 1) (.n 1))))] rfl (Nat.le_of_eq h0.symm) hn)
theorem ZsE {a b c:Nat} (h0:a + (c + 1)=b):a < b:=Nat.lt_of_not_le fun hn=>far [a,c,b] [(1,(.a (.v 0) (.a (.v 1) (.n 1))),(.v 2)),(1,(.v 2),(.v 0))] rfl (Nat.le_of_eq h0) hn
theorem ZsF {a b c:Nat} (h0:a + (b + 1)=c):a + 1 + b=c:=Nat.le_antisymm (Nat.le_of_not_lt fun hn=>far [a,b,c] [(1,(.a (.v 0) (.a (.v 1) (.n 1))),(.v 2)),(1,(.a (.v 2) (.n 1)),(.a (.a (.v 0) (.n 1)) (.v 1)))] rfl (Nat.le_of_eq h0) hn) (Nat.le_of_not_lt fun hn=>far [c,a,b] [(1,(.v 0),(.a (.v 1) (.a (.v 2) (.n 1)))),(1,(.a (.a (.a (.v 1) (.n 1)) (.v 2)) (.n 1)),(.v 0))] rfl (Nat.le_of_eq h0.symm) hn)
theorem ZsG {a:Nat}:0 + a=a:=Nat.add_comm _ _
theorem ZsH {a b c:Nat} (h0:c < b + 1) (h1:a < c):a < b:=Nat.lt_of_not_le fun hn=>far [c,b,a] [(1,(.a (.v 0) (.n 1)),(.a (.v 1) (.n 1))),(1,(.a (.v 2) (.n 1)),(.v 0)),(1,(.v 1),(.v 2))] rfl h0 h1 hn
theorem ZsI {a b:Nat} (h0:b<=1000000) (h1:a < b):(↑a:Int)<=1000000:=Int.ofNat_le.mpr (show a<=1000000 from Nat.le_of_not_lt fun hn=>far [b,a] [(1,(.v 0),(.n 1000000)),(1,(.a (.v 1) (.n 1)),(.v 0)),(1,(.a (.n 1000000) (.n 1)),(.v 1))] rfl h0 h1 hn)
theorem ZsJ {a b c:Nat} (h0:a < c) (h1:a < b + 1) (h2:b<=a):a=b:=Nat.le_antisymm (Nat.le_of_lt_succ h1) h2
theorem ZsK {a b c:Nat} (h0:c=a) (h1:c + 1=b):(↑a:Int) + 1=(↑b:Int):=by subst h0; exact congrArg Nat.cast h1
theorem ZsL {a b:Nat} (h0:b<=10) (h1:b=a):a<=1000000:=Nat.le_trans (Nat.le_of_eq h1.symm) (Nat.le_trans h0 (by decide))
theorem ZsM {a b c d:Nat} (h0:a<=11 * c) (h1:d<=10) (h2:d + 1=b):a + b<=11 * (c + 1):=Nat.le_of_not_lt fun hn=>far [a,c,d,b] [(1,(.v 0),(.m 11 (.v 1))),(1,(.v 2),(.n 10)),(1,(.v 3),(.a (.v 2) (.n 1))),(1,(.a (.m 11 (.a (.v 1) (.n 1))) (.n 1)),(.a (.v 0) (.v 3)))] rfl h0 h1 (Nat.le_of_eq h2.symm) hn
theorem ZsN {a b c d:Nat} (h0:c < d) (h1:d<=10) (h2:a + b<=11 * (c + 1)):a + b<=1000000:=Nat.le_of_not_lt fun hn=>far [c,d,a,b] [(11,(.a (.v 0) (.n 1)),(.v 1)),(11,(.v 1),(.n 10)),(1,(.a (.v 2) (.v 3)),(.m 11 (.a (.v 0) (.n 1)))),(1,(.a (.n 1000000) (.n 1)),(.a (.v 2) (.v 3)))] rfl h0 h1 h2 hn
theorem ZsO {a:Int} {b c:Nat} (h0:(↑c:Int) + 1=(↑b:Int)) (h1:(↑c:Int) + 1=a):a=(↑b:Int):=h1.symm.trans h0
theorem ZsP {a b:Nat} (h0:b<=10) (h1:b + 1=a):a<=100000:=Nat.le_of_not_lt fun hn=>far [b,a] [(1,(.v 0),(.n 10)),(1,(.v 1),(.a (.v 0) (.n 1))),(1,(.a (.n 100000) (.n 1)),(.v 1))] rfl h0 (Nat.le_of_eq h1.symm) hn
theorem ZsQ {a b:Nat} (h0:a < b):¬(↑a:Int)=(↑b:Int):=fun hn=>far [a,b] [(1,(.a (.v 0) (.n 1)),(.v 1)),(1,(.v 1),(.v 0))] rfl h0 (Nat.le_of_eq (show a=b from Int.ofNat_inj.mp hn).symm)
theorem ZsR:¬(0<=-1/\-1<=1000000):=by decide
theorem ZsS {a b:Nat} (h0:¬a < b):¬(↑a:Int) < (↑b:Int):=by simp [h0]
theorem ZsT {a b:Nat} (h0:a - b=0):a - (b + 1)=a - b:=by rw [<- Nat.sub_sub,h0]
theorem ZsU {a b:Nat} (h0:¬a - b=0) (h1:min (a - b) a=0):False:=h0 ((Nat.min_eq_left (Nat.sub_le a b)).symm.trans h1)
theorem ZsV {a b:Nat}:min (min (a - b) a - 1) (a - b)=a - (b + 1):=by rw [Nat.min_eq_left (Nat.sub_le a b),Nat.min_eq_left (Nat.sub_le _ 1)]; rfl
theorem ZsW {a b:Nat} (h0:b<=a):a - (a - b)=b:=Nat.sub_sub_self h0
theorem ZsX {a b:Nat} (h0:¬b<=a):a<=b:=Nat.le_of_not_le h0
theorem ZsY {a:Nat} (h0:0 < a):a - 1 + 1=a:=Nat.sub_add_cancel h0
theorem ZsZ {a b:Nat} (h0:0 < a) (h1:a=min b (a - 1)):False:=far [a,(min b (a - 1)),(a - 1)] [(1,(.v 0),(.v 1)),(1,(.v 1),(.v 2)),(1,(.a (.v 2) (.n 1)),(.v 0))] rfl (Nat.le_of_eq h1) (Nat.min_le_right _ _) (Nat.le_of_eq (Nat.sub_add_cancel (Nat.le_of_not_lt fun hs=>far [a] [(1,(.a (.n 0) (.n 1)),(.v 0)),(1,(.a (.v 0) (.n 1)),(.n 1))] rfl h0 hs)))
theorem Zs0 {a b:Nat} (h0:b<=1) (h1:a=1):max a b<=1:=by simp [h0,h1]
theorem Zs1 {a:Nat} (h0:a<=1):a + 1<=6:=Nat.lt_of_le_of_lt h0 (by decide)
theorem Zs2 {a:Nat} (h0:a<=1):max 0 (max (a + 1) 0) + 1<=3:=Nat.succ_le_succ (Nat.max_le.mpr ⟨by decide,Nat.max_le.mpr ⟨Nat.succ_le_succ h0,by decide⟩⟩)
theorem Zs3 {a b:Nat} (h0:b<=14) (h1:a=b):a<=1000000:=Nat.le_trans (Nat.le_of_eq h1) (Nat.le_trans h0 (by decide))
theorem Zs4 {a:Nat} (h0:a<=14):a<=999999:=Nat.le_trans h0 (Nat.le_add_left _ _)
theorem Zs5 {a b c:Nat} (h0:a<=b + c):a<=b + (c + 1):=by solve_by_elim (maxDepth:=3) [Nat.le_of_lt,Nat.le_refl,Nat.le_succ,Nat.lt_succ_self,Nat.le_add_right,Nat.le_add_left,Nat.succ_le_of_lt,Nat.le_of_lt_succ,Nat.lt_succ_of_le,Nat.succ_le_succ,Nat.zero_le,Nat.le_of_eq,Nat.ne_of_lt,Nat.ne_of_gt,Nat.lt_of_lt_of_le,Nat.lt_of_le_of_lt,Nat.le_trans,Nat.lt_trans]
theorem Zs6 {a b c:Nat} (h0:a<=b + c):a + 1<=b + (c + 1):=Nat.lt_succ_of_le h0
theorem Zs7 {a:Nat} (h0:a<=11):a<=1000000:=Nat.le_trans h0 (Nat.le_add_left _ _)
theorem Zs8 {a b c:Nat} (h0:b<=10) (h1:b + 1=c) (h2:a < c):a<=11:=Nat.le_of_not_lt fun hn=>far [b,c,a] [(1,(.v 0),(.n 10)),(1,(.v 1),(.a (.v 0) (.n 1))),(1,(.a (.v 2) (.n 1)),(.v 1)),(1,(.a (.n 11) (.n 1)),(.v 2))] rfl h0 (Nat.le_of_eq h1.symm) h2 hn
theorem Zs9 {a b c d e:Nat} (h0:b<=1000) (h1:c<=10) (h2:c + 1=d) (h3:e < d) (h4:a<=b + e):a<=1000000:=Nat.le_of_not_lt fun hn=>far [b,c,d,e,a] [(1,(.v 0),(.n 1000)),(1,(.v 1),(.n 10)),(1,(.v 2),(.a (.v 1) (.n 1))),(1,(.a (.v 3) (.n 1)),(.v 2)),(1,(.v 4),(.a (.v 0) (.v 3))),(1,(.a (.n 1000000) (.n 1)),(.v 4))] rfl h0 h1 (Nat.le_of_eq h2.symm) h3 h4 hn
theorem Zta {a b:Nat} (h0:b<=3):min a b<=3:=Nat.le_of_not_lt fun hn=>far [b,(min a b)] [(1,(.v 0),(.n 3)),(1,(.a (.n 3) (.n 1)),(.v 1)),(1,(.v 1),(.v 0))] rfl h0 hn (Nat.min_le_right _ _)
theorem Ztb {a b:Nat} (h0:a=b):¬a < b:=by simp [h0]
theorem Ztc {a b:Nat} (h0:min a b=a):a<=b:=Nat.le_of_not_lt fun hn=>far [a,(min a b),b] [(1,(.v 0),(.v 1)),(1,(.a (.v 2) (.n 1)),(.v 0)),(1,(.v 1),(.v 2))] rfl (Nat.le_of_eq h0.symm) hn (Nat.min_le_right _ _)
theorem Ztd {a b:Nat} (h0:a<=b) (h1:b<=a):a=b:=Nat.le_antisymm h0 h1
theorem Zte {a:Nat} (h0:0 < a) (h1:a<=a - 1):False:=far [a,(a - 1)] [(1,(.v 0),(.v 1)),(1,(.a (.v 1) (.n 1)),(.v 0))] rfl h1 (Nat.le_of_eq (Nat.sub_add_cancel (Nat.le_of_not_lt fun hs=>far [a] [(1,(.a (.n 0) (.n 1)),(.v 0)),(1,(.a (.v 0) (.n 1)),(.n 1))] rfl h0 hs)))
theorem Ztf {a:Nat} (h0:a<=0):a=0:=Nat.max_eq_left h0
theorem Ztg {a b:Nat} (h0:a<=b + 1):a - 1<=b:=by simpa using h0
theorem Zth {a b c d:Nat} (h0:a + b=c) (h1:b + (d + 1)<=c):a - 1 < a:=Nat.lt_of_not_le fun hn=>far [a,(a - 1)] [(1,(.v 0),(.v 1)),(1,(.a (.v 1) (.n 1)),(.v 0))] rfl hn (Nat.le_of_eq (Nat.sub_add_cancel (Nat.le_of_not_lt fun hs=>far [c,a,b,d] [(1,(.v 0),(.a (.v 1) (.v 2))),(1,(.a (.v 2) (.a (.v 3) (.n 1))),(.v 0)),(1,(.a (.v 1) (.n 1)),(.n 1))] rfl (Nat.le_of_eq h0.symm) h1 hs)))
theorem Zti {a b c d:Nat} (h0:a + b=c) (h1:b + (d + 1)<=c):a - 1 + (b + 1)=c:=Nat.le_antisymm (Nat.le_of_not_lt fun hn=>far [a,b,c,(a - 1)] [(1,(.a (.v 0) (.v 1)),(.v 2)),(1,(.a (.v 2) (.n 1)),(.a (.v 3) (.a (.v 1) (.n 1)))),(1,(.a (.v 3) (.n 1)),(.v 0))] rfl (Nat.le_of_eq h0) hn (Nat.le_of_eq (Nat.sub_add_cancel (Nat.le_of_not_lt fun hs=>far [c,a,b,d] [(1,(.v 0),(.a (.v 1) (.v 2))),(1,(.a (.v 2) (.a (.v 3) (.n 1))),(.v 0)),(1,(.a (.v 1) (.n 1)),(.n 1))] rfl (Nat.le_of_eq h0.symm) h1 hs)))) (Nat.le_of_not_lt fun hn=>far [c,a,b,(a - 1)] [(1,(.v 0),(.a (.v 1) (.v 2))),(1,(.a (.a (.v 3) (.a (.v 2) (.n 1))) (.n 1)),(.v 0)),(1,(.v 1),(.a (.v 3) (.n 1)))] rfl (Nat.le_of_eq h0.symm) hn (Nat.sub_le_iff_le_add.mp (Nat.le_refl _)))
theorem Ztj {a b c:Nat} (h0:b + (a + 1)<=c) (h1:c<=14):a<=999999:=Nat.le_of_not_lt fun hn=>far [b,a,c] [(1,(.a (.v 0) (.a (.v 1) (.n 1))),(.v 2)),(1,(.v 2),(.n 14)),(1,(.a (.n 999999) (.n 1)),(.v 1))] rfl h0 h1 hn
theorem Ztk {a b c:Nat} (h0:b + a=c) (h1:c<=14):a<=1000000:=Nat.le_of_not_lt fun hn=>far [b,a,c] [(1,(.a (.v 0) (.v 1)),(.v 2)),(1,(.v 2),(.n 14)),(1,(.a (.n 1000000) (.n 1)),(.v 1))] rfl (Nat.le_of_eq h0) h1 hn
theorem Ztl {a b c d:Nat} (h0:c + (a + 1)<=d) (h1:d<=14) (h2:b<=d):a + b<=1000000:=Nat.le_of_not_lt fun hn=>far [c,a,d,b] [(1,(.a (.v 0) (.a (.v 1) (.n 1))),(.v 2)),(2,(.v 2),(.n 14)),(1,(.v 3),(.v 2)),(1,(.a (.n 1000000) (.n 1)),(.a (.v 1) (.v 3)))] rfl h0 h1 h2 hn
theorem Ztm {a b c:Nat} (h0:b<=14) (h1:c + a=b):a < 64:=Nat.lt_of_not_le fun hn=>far [b,c,a] [(1,(.v 0),(.n 14)),(1,(.a (.v 1) (.v 2)),(.v 0)),(1,(.n 64),(.v 2))] rfl h0 (Nat.le_of_eq h1) hn
theorem Ztn {a b:Nat} (h0:4<=b) (h1:a<=3):a + 1<=b:=Nat.lt_of_le_of_lt h1 h0
theorem Zto {a b:Nat} (h0:a + (b + 1)<=1000):a<=1000:=Nat.le_trans (Nat.le_add_right _ _) h0
theorem Ztp {a b c:Nat} (h0:a + (c + 1)<=1000) (h1:b<=1):a + b + c<=1000:=Nat.le_of_not_lt fun hn=>far [a,c,b] [(1,(.a (.v 0) (.a (.v 1) (.n 1))),(.n 1000)),(1,(.v 2),(.n 1)),(1,(.a (.n 1000) (.n 1)),(.a (.a (.v 0) (.v 2)) (.v 1)))] rfl h0 h1 hn
theorem Ztq {a b:Nat} (h0:a + (b + 1)<=1000):a + b<=1000:=Nat.le_of_lt h0
theorem Ztr {a:Nat} (h0:a<=2):a<=1000:=Nat.le_trans h0 (Nat.le_add_left _ _)
theorem Zts {a b c:Nat} (h0:b<=c) (h1:a<=1):a + b<=c + 1:=Nat.le_of_not_lt fun hn=>far [b,c,a] [(1,(.v 0),(.v 1)),(1,(.v 2),(.n 1)),(1,(.a (.a (.v 1) (.n 1)) (.n 1)),(.a (.v 2) (.v 0)))] rfl h0 h1 hn
theorem Ztt {a b c:Nat} (h0:b<=2) (h1:a<=c) (h2:c<=b):a<=10:=Nat.le_of_not_lt fun hn=>far [b,a,c] [(1,(.v 0),(.n 2)),(1,(.v 1),(.v 2)),(1,(.v 2),(.v 0)),(1,(.a (.n 10) (.n 1)),(.v 1))] rfl h0 h1 h2 hn
theorem Ztu {a:Nat} (h0:a<=30):a<=1000:=Nat.le_trans h0 (Nat.le_add_left _ _)
theorem Ztv {a:Nat} (h0:a<=20):a<=30:=Nat.le_trans h0 (Nat.le_add_left _ _)
theorem Ztw {a:Nat} (h0:a<=20):a<=1000:=Nat.le_trans h0 (Nat.le_add_left _ _)
theorem Ztx {a:Nat} (h0:a<=20):a + 1<=30:=Nat.lt_of_le_of_lt h0 (by decide)
theorem Zty {a:Nat} (h0:a<=10):a<=20:=Nat.le_trans h0 (Nat.le_add_left _ _)
theorem Ztz {a b:Nat} (h0:a<=10) (h1:b<=1):a + b<=20:=Nat.le_trans (Nat.add_le_add h0 h1) (by decide)
theorem ZtA {a:Int} (h0:0<=a/\a < 45):0<=a/\a < 64:=by omega
theorem ZtB {a b c:Nat} (h0:a<=b):a<=b + c:=Nat.le_trans h0 (Nat.le_add_right _ _)
theorem ZtC {a:Nat}:3 * a + 3=3 * (a + 1):=Int.toNat_natCast _
theorem ZtD {a:Int} {b:Nat} (h0:b < 14) (h1:a=3 * (↑b:Int) + 0\/a=3 * (↑b:Int) + 1\/a=3 * (↑b:Int) + 2):0<=a/\a < 45:=by rcases h1 with rfl | rfl | rfl; exact ⟨Int.natCast_nonneg (3 * b + 0),Int.ofNat_lt.mpr (show 3 * b + 0 < 45 from Nat.lt_trans (Nat.add_lt_add_right (Nat.mul_lt_mul_of_pos_left h0 (by decide)) 0) (by decide))⟩; exact ⟨Int.natCast_nonneg (3 * b + 1),Int.ofNat_lt.mpr (show 3 * b + 1 < 45 from Nat.lt_trans (Nat.add_lt_add_right (Nat.mul_lt_mul_of_pos_left h0 (by decide)) 1) (by decide))⟩; exact ⟨Int.natCast_nonneg (3 * b + 2),Int.ofNat_lt.mpr (show 3 * b + 2 < 45 from Nat.lt_trans (Nat.add_lt_add_right (Nat.mul_lt_mul_of_pos_left h0 (by decide)) 2) (by decide))⟩
theorem ZtE {a:Nat} (h0:a<=14):a<=100000:=Nat.le_trans h0 (Nat.le_add_left _ _)
theorem ZtF {a:Nat} (h0:a < 14):0<=3 * (↑a:Int) + 0/\3 * (↑a:Int) + 0 < 45:=⟨Int.natCast_nonneg ((3 * a) + 0),Int.ofNat_lt.mpr (show ((3 * a) + 0) < 45 from Nat.lt_of_not_le fun hn=>far [a] [(3,(.a (.v 0) (.n 1)),(.n 14)),(1,(.n 45),(.a (.m 3 (.v 0)) (.n 0)))] rfl h0 hn)⟩
theorem ZtG {a:Nat} (h0:a < 14):0<=3 * (↑a:Int) + 1/\3 * (↑a:Int) + 1 < 45:=⟨Int.natCast_nonneg ((3 * a) + 1),Int.ofNat_lt.mpr (show ((3 * a) + 1) < 45 from Nat.lt_of_not_le fun hn=>far [a] [(3,(.a (.v 0) (.n 1)),(.n 14)),(1,(.n 45),(.a (.m 3 (.v 0)) (.n 1)))] rfl h0 hn)⟩
theorem ZtH {a b:Nat} (h0:b<=14) (h1:a=3 * b):a<=1000:=Nat.le_of_not_lt fun hn=>far [b,a] [(3,(.v 0),(.n 14)),(1,(.v 1),(.m 3 (.v 0))),(1,(.a (.n 1000) (.n 1)),(.v 1))] rfl h0 (Nat.le_of_eq h1) hn
theorem ZtI {a b:Nat} (h0:b<=3) (h1:a < 14):0<=3 * (↑a:Int) + (↑b:Int)/\3 * (↑a:Int) + (↑b:Int) < 45:=⟨Int.natCast_nonneg ((3 * a) + b),Int.ofNat_lt.mpr (show ((3 * a) + b) < 45 from Nat.lt_of_not_le fun hn=>far [b,a] [(1,(.v 0),(.n 3)),(3,(.a (.v 1) (.n 1)),(.n 14)),(1,(.n 45),(.a (.m 3 (.v 1)) (.v 0)))] rfl h0 h1 hn)⟩
theorem ZtJ {a:Nat} (h0:a<=14):a<=14:=by omega
theorem ZtK {a b:Nat} (h0:a<=b):a + 1<=b + 1:=Nat.lt_succ_of_le h0
theorem ZtL {a b:Nat} (h0:a < b):a + 1 < b + 1:=Nat.add_lt_add_right h0 _
theorem ZtM {a:Nat} (h0:(↑a:Int) < 45):a < 45:=Int.ofNat_lt.mp h0
theorem ZtN {a b c:Nat}:a + b + c=c + b + a:=Nat.le_antisymm (Nat.le_of_not_lt fun hn=>far [c,b,a] [(1,(.a (.a (.a (.v 0) (.v 1)) (.v 2)) (.n 1)),(.a (.a (.v 2) (.v 1)) (.v 0)))] rfl hn) (Nat.le_of_not_lt fun hn=>far [a,b,c] [(1,(.a (.a (.a (.v 0) (.v 1)) (.v 2)) (.n 1)),(.a (.a (.v 2) (.v 1)) (.v 0)))] rfl hn)
theorem ZtO {a b c d e:Nat} (h0:b + c=d + e):a + b + c=a + d + e:=Nat.le_antisymm (Nat.le_of_not_lt fun hn=>far [b,c,d,e,a] [(1,(.a (.v 0) (.v 1)),(.a (.v 2) (.v 3))),(1,(.a (.a (.a (.v 4) (.v 2)) (.v 3)) (.n 1)),(.a (.a (.v 4) (.v 0)) (.v 1)))] rfl (Nat.le_of_eq h0) hn) (Nat.le_of_not_lt fun hn=>far [d,e,b,c,a] [(1,(.a (.v 0) (.v 1)),(.a (.v 2) (.v 3))),(1,(.a (.a (.a (.v 4) (.v 2)) (.v 3)) (.n 1)),(.a (.a (.v 4) (.v 0)) (.v 1)))] rfl (Nat.le_of_eq h0.symm) hn)
theorem ZtP {a b:Nat} (h0:b<=10) (h1:a < b):(↑a:Int)<=1000000:=Int.ofNat_le.mpr (show a<=1000000 from Nat.le_of_not_lt fun hn=>far [b,a] [(1,(.v 0),(.n 10)),(1,(.a (.v 1) (.n 1)),(.v 0)),(1,(.a (.n 1000000) (.n 1)),(.v 1))] rfl h0 h1 hn)
theorem ZtQ {a b c d e:Nat} (h0:d < e) (h1:a + e=c + d):2 * a + b<=2 * c + b:=Nat.le_of_not_lt fun hn=>far [d,e,a,c,b] [(2,(.a (.v 0) (.n 1)),(.v 1)),(2,(.a (.v 2) (.v 1)),(.a (.v 3) (.v 0))),(1,(.a (.a (.m 2 (.v 3)) (.v 4)) (.n 1)),(.a (.m 2 (.v 2)) (.v 4)))] rfl h0 (Nat.le_of_eq h1) hn
theorem ZtR {a:Nat} (h0:a<=2000):a<=1000000:=Nat.le_trans h0 (Nat.le_add_left _ _)
theorem ZtS {a b c d e:Nat} (h0:d < e) (h1:a + e=c + d):2 * a + (b + 1)<=2 * c + b:=Nat.le_of_not_lt fun hn=>far [d,e,a,c,b] [(2,(.a (.v 0) (.n 1)),(.v 1)),(2,(.a (.v 2) (.v 1)),(.a (.v 3) (.v 0))),(1,(.a (.a (.m 2 (.v 3)) (.v 4)) (.n 1)),(.a (.m 2 (.v 2)) (.a (.v 4) (.n 1))))] rfl h0 (Nat.le_of_eq h1) hn
theorem ZtT {a:Nat} (h0:a<=45):a < 46:=Nat.lt_succ_of_le h0
theorem ZtU {a b:Nat} (h0:2 * b + a<=2000):a<=2000:=Nat.le_trans (Nat.le_add_left _ _) h0
theorem ZtV {a:Nat} (h0:a<=3):(↑a:Int)<=1000000:=Int.ofNat_le.mpr (Nat.le_trans h0 (by decide))
theorem ZtW {a b c:Nat} (h0:b<=3) (h1:c=b) (h2:a<=46 * c):2 * a + 1<=2000:=Nat.le_of_not_lt fun hn=>far [b,c,a] [(92,(.v 0),(.n 3)),(92,(.v 1),(.v 0)),(2,(.v 2),(.m 46 (.v 1))),(1,(.a (.n 2000) (.n 1)),(.a (.m 2 (.v 2)) (.n 1)))] rfl h0 (Nat.le_of_eq h1) h2 hn
theorem ZtX {a b:Nat} (h0:2 * b + (a + 1)<=2000):a<=999999:=Nat.le_of_not_lt fun hn=>far [b,a] [(1,(.a (.m 2 (.v 0)) (.a (.v 1) (.n 1))),(.n 2000)),(1,(.a (.n 999999) (.n 1)),(.v 1))] rfl h0 hn
theorem ZtY {a b:Nat} (h0:2 * a + (b + 1)<=2000):2 * a + b<=2000:=Nat.le_of_lt h0
theorem ZtZ {a b c d:Nat} (h0:2 * a + b<=2 * c + d):2 * a + b < 2 * c + (d + 1):=Nat.lt_succ_of_le h0
theorem Zt0 {a b c d:Nat} (h0:2 * c + (d + 1)<=2000) (h1:2 * a + b<=2 * c + d):2 * a + b<=2000:=Nat.le_of_lt (Nat.lt_of_le_of_lt h1 h0)
theorem Zt1 {a b:Nat} (h0:a<=b + 1):a + 1<=b + 1 + 1:=Nat.lt_succ_of_le h0
theorem Zt2 {a b c d:Nat} (h0:b<=1000) (h1:c<=11) (h2:d < c) (h3:a<=b + d):a<=1000000:=Nat.le_of_not_lt fun hn=>far [b,c,d,a] [(1,(.v 0),(.n 1000)),(1,(.v 1),(.n 11)),(1,(.a (.v 2) (.n 1)),(.v 1)),(1,(.v 3),(.a (.v 0) (.v 2))),(1,(.a (.n 1000000) (.n 1)),(.v 3))] rfl h0 h1 h2 h3 hn
theorem Zt3 {a b c d:Nat} (h0:d<=b + c) (h1:a<=d + 1):a<=b + (c + 1):=Nat.le_of_not_lt fun hn=>far [d,b,c,a] [(1,(.v 0),(.a (.v 1) (.v 2))),(1,(.v 3),(.a (.v 0) (.n 1))),(1,(.a (.a (.v 1) (.a (.v 2) (.n 1))) (.n 1)),(.v 3))] rfl h0 h1 hn
theorem Zt4 {a b c:Nat} (h0:c<=11) (h1:a<=b + c):a<=b + 11:=Nat.le_of_not_lt fun hn=>far [c,a,b] [(1,(.v 0),(.n 11)),(1,(.v 1),(.a (.v 2) (.v 0))),(1,(.a (.a (.v 2) (.n 11)) (.n 1)),(.v 1))] rfl h0 h1 hn
theorem Zt5 {a b:Nat} (h0:a<=11 * b):a<=11 * (b + 1):=Nat.le_trans h0 (Nat.le_add_right _ _)
theorem Zt6 {a b c:Nat} (h0:b<=3) (h1:c < b) (h2:a<=11 * c):a<=1000:=Nat.le_of_not_lt fun hn=>far [b,c,a] [(11,(.v 0),(.n 3)),(11,(.a (.v 1) (.n 1)),(.v 0)),(1,(.v 2),(.m 11 (.v 1))),(1,(.a (.n 1000) (.n 1)),(.v 2))] rfl h0 h1 h2 hn
theorem Zt7 {a b c:Nat} (h0:c<=11 * b) (h1:a<=c + 11):a<=11 * (b + 1):=Nat.le_of_not_lt fun hn=>far [c,b,a] [(1,(.v 0),(.m 11 (.v 1))),(1,(.v 2),(.a (.v 0) (.n 11))),(1,(.a (.m 11 (.a (.v 1) (.n 1))) (.n 1)),(.v 2))] rfl h0 h1 hn
theorem Zt8 {a:Nat} (h0:6<=a):6<=a:=by omega
theorem Zt9 {a:Nat} (h0:0 < (↑a:Int)):¬(↑a:Int)<=0:=fun hn=>far [a] [(1,(.a (.n 0) (.n 1)),(.v 0)),(1,(.v 0),(.n 0))] rfl (show 0 < a from Int.ofNat_lt.mp h0) (show a<=0 from Int.ofNat_le.mp hn)
theorem Zua {a:Nat} (h0:7<=a):6<=a:=Nat.le_of_lt h0
theorem Zub {a b:Nat} (h0:a<=b) (h1:b<=12):a<=1000000:=Nat.le_trans h0 (Nat.le_trans h1 (by decide))
theorem Zuc {a b c:Nat} (h0:c<=b) (h1:a<=c + 1):a<=b + 1:=Nat.le_of_not_lt fun hn=>far [c,b,a] [(1,(.v 0),(.v 1)),(1,(.v 2),(.a (.v 0) (.n 1))),(1,(.a (.a (.v 1) (.n 1)) (.n 1)),(.v 2))] rfl h0 h1 hn
theorem Zud {a:Nat} (h0:7<=a):5<=a:=Nat.le_trans (Nat.le_add_left _ _) h0
theorem Zue {a:Nat} (h0:7<=a):4<=a:=Nat.lt_of_le_of_lt (Nat.le_add_left _ _) h0
theorem Zuf {a b:Nat} (h0:¬a=b) (h1:¬b=1):¬(a=b\/a=3/\b=1):=by simp [h0,h1]
theorem Zug {a:Nat} (h0:¬a=1):¬(↑a:Int)=1:=fun e=>h0 (Int.ofNat_inj.mp e)
theorem Zuh {a b:Nat} (h0:¬a=b) (h1:¬a=3):¬(a=b\/a=3/\b=1):=by simp [h0,h1]
theorem Zui {a:Nat} (h0:¬a=3):¬(↑a:Int)=3:=fun e=>h0 (Int.ofNat_inj.mp e)
theorem Zuj {a b c d:Nat} (h0:b<=3 * c) (h1:a<=d) (h2:d<=3):a + b<=3 * (c + 1):=Nat.le_of_not_lt fun hn=>far [b,c,a,d] [(1,(.v 0),(.m 3 (.v 1))),(1,(.v 2),(.v 3)),(1,(.v 3),(.n 3)),(1,(.a (.m 3 (.a (.v 1) (.n 1))) (.n 1)),(.a (.v 2) (.v 0)))] rfl h0 h1 h2 hn
theorem Zuk {a b c d:Nat} (h0:c<=12) (h1:a<=3 * c) (h2:d<=3) (h3:b<=d):a + b<=1000:=Nat.le_of_not_lt fun hn=>far [c,a,d,b] [(3,(.v 0),(.n 12)),(1,(.v 1),(.m 3 (.v 0))),(1,(.v 2),(.n 3)),(1,(.v 3),(.v 2)),(1,(.a (.n 1000) (.n 1)),(.a (.v 1) (.v 3)))] rfl h0 h1 h2 h3 hn
theorem Zul {a b:Nat} (h0:a=b):(↑a:Int)=(↑b:Int):=congrArg Int.ofNat h0
theorem Zum {a:Nat} (h0:a<=3):a=0\/a=1\/a=2\/a=3:=(by decide:∀ x:Fin 4,x.1=0\/x.1=1\/x.1=2\/x.1=3) ⟨a,Nat.lt_succ_of_le h0⟩
theorem Zun {a b:Nat} (h0:¬b=a):¬(↑a:Int)=(↑b:Int):=fun e=>h0 (Int.ofNat_inj.mp e).symm
theorem Zuo {a:Nat} (h0:1<=a):1<=a:=by omega
theorem Zup {a b c d e:Nat} (h0:c<=12) (h1:a<=3 * min d c) (h2:e<=3) (h3:b<=e):a + b<=1000:=Nat.le_of_not_lt fun hn=>far [c,a,(min d c),e,b] [(3,(.v 0),(.n 12)),(1,(.v 1),(.m 3 (.v 2))),(1,(.v 3),(.n 3)),(1,(.v 4),(.v 3)),(1,(.a (.n 1000) (.n 1)),(.a (.v 1) (.v 4))),(3,(.v 2),(.v 0))] rfl h0 h1 h2 h3 hn (Nat.min_le_right _ _)
theorem Zuq {a:Nat} (h0:a<=1):a<=6:=Nat.le_trans h0 (Nat.le_add_left _ _)
theorem Zur {a b c:Nat} (h0:b=a + (c + 1)):a < b:=by simp [h0]
theorem Zus {a b c:Nat} (h0:c < b) (h1:c=a):a < b:=Nat.lt_of_not_le fun hn=>far [c,b,a] [(1,(.a (.v 0) (.n 1)),(.v 1)),(1,(.v 2),(.v 0)),(1,(.v 1),(.v 2))] rfl h0 (Nat.le_of_eq h1.symm) hn
theorem Zut {a b:Nat} (h0:b<=10) (h1:b + 1=a):a<=1000:=Nat.le_of_not_lt fun hn=>far [b,a] [(1,(.v 0),(.n 10)),(1,(.v 1),(.a (.v 0) (.n 1))),(1,(.a (.n 1000) (.n 1)),(.v 1))] rfl h0 (Nat.le_of_eq h1.symm) hn
theorem Zuu {a:Nat} (h0:a<=3):a < 64:=Nat.lt_of_le_of_lt h0 (by decide)
theorem Zuv {a:Nat} (h0:a<=3):a<=100000:=Nat.le_trans h0 (Nat.le_add_left _ _)
theorem Zuw {a b:Nat} (h0:(↑b:Int) < 2) (h1:1 + b=a):a<=2:=Nat.le_of_not_lt fun hn=>far [b,a] [(1,(.a (.v 0) (.n 1)),(.n 2)),(1,(.v 1),(.a (.n 1) (.v 0))),(1,(.a (.n 2) (.n 1)),(.v 1))] rfl (show b < 2 from Int.ofNat_lt.mp h0) (Nat.le_of_eq h1.symm) hn
theorem Zux {a:Nat} (h0:a<=2):a<=1000000:=Nat.le_trans h0 (Nat.le_add_left _ _)
theorem Zuy {a:Nat} (h0:a<=2):a<=100000:=Nat.le_trans h0 (Nat.le_add_left _ _)
theorem Zuz {a:Nat} (h0:a<=14):(↑a:Int) < 1073741824:=Int.ofNat_lt.mpr (Nat.lt_of_le_of_lt h0 (by decide))
theorem ZuA {a:Nat} (h0:7<=a):3<=a:=Nat.le_trans (Nat.le_add_left _ _) h0
theorem ZuB {a:Nat} (h0:5<=a):3<=a:=Nat.lt_of_le_of_lt (Nat.le_add_left _ _) h0
theorem ZuC {a b:Nat} (h0:5<=b) (h1:a<=3):a + 1<=b:=Nat.le_of_not_lt fun hn=>far [b,a] [(1,(.n 5),(.v 0)),(1,(.v 1),(.n 3)),(1,(.a (.v 0) (.n 1)),(.a (.v 1) (.n 1)))] rfl h0 h1 hn
theorem ZuD {a b:Nat} (h0:(↑b:Int) < 5) (h1:1 + b=a):a<=5:=Nat.le_of_not_lt fun hn=>far [b,a] [(1,(.a (.v 0) (.n 1)),(.n 5)),(1,(.v 1),(.a (.n 1) (.v 0))),(1,(.a (.n 5) (.n 1)),(.v 1))] rfl (show b < 5 from Int.ofNat_lt.mp h0) (Nat.le_of_eq h1.symm) hn
theorem ZuE {a:Nat} (h0:a<=5):a<=1000000:=Nat.le_trans h0 (Nat.le_add_left _ _)
theorem ZuF {a:Nat} (h0:6<=a):5<=a:=Nat.le_of_lt h0
theorem ZuG {a:Nat} (h0:0 < (↑a:Int)):0 < a:=Int.ofNat_lt.mp h0
theorem ZuH {a:Nat} (h0:10<=a):9<=a:=Nat.le_of_lt h0
theorem ZuI {a:Nat} (h0:10<=a):5<=a:=Nat.le_trans (Nat.le_add_left _ _) h0
theorem ZuJ {a:Nat} (h0:10<=a):7<=a:=Nat.le_trans (Nat.le_add_left _ _) h0
theorem ZuK {a b:Nat} (h0:b + 1<=a):a=a - 1 + 1:=Nat.le_antisymm (Nat.le_of_not_lt fun hn=>far [(a - 1),a] [(1,(.a (.a (.v 0) (.n 1)) (.n 1)),(.v 1)),(1,(.v 1),(.a (.v 0) (.n 1)))] rfl hn (Nat.sub_le_iff_le_add.mp (Nat.le_refl _))) (Nat.le_of_not_lt fun hn=>far [a,(a - 1)] [(1,(.a (.v 0) (.n 1)),(.a (.v 1) (.n 1))),(1,(.a (.v 1) (.n 1)),(.v 0))] rfl hn (Nat.le_of_eq (Nat.sub_add_cancel (Nat.le_of_not_lt fun hs=>far [b,a] [(1,(.a (.v 0) (.n 1)),(.v 1)),(1,(.a (.v 1) (.n 1)),(.n 1))] rfl h0 hs))))
theorem ZuL {a b:Nat} (h0:a + 1<=b):a<=b - 1:=Nat.le_sub_one_of_lt h0
theorem ZuM {a:Int} (h0:0<=a) (h1:a < 2147483647):a.natAbs < 2 ^ 62:=Int.ofNat_lt.mp (by rw [Int.natAbs_of_nonneg h0]; exact Int.lt_trans h1 (by decide))
theorem ZuN {a:Nat} (h0:a<=1000):(↑a:Int) < 1073741824:=Int.ofNat_lt.mpr (Nat.lt_of_le_of_lt h0 (by decide))
theorem ZuO {a:Int} {b:Nat} (h0:0 < b) (h1:a < (↑b:Int)):a.toNat < b:=by simp [h0,h1]
theorem ZuP {a:Int} {b:Nat} (h0:b<=1000) (h1:a < (↑b:Int)):a<=1000000:=Int.le_trans (Int.le_of_lt h1) (Int.ofNat_le.mpr (Nat.le_trans h0 (by decide)))
theorem ZuQ {a:Nat} (h0:(↑a:Int) < 5):a < 5:=Int.ofNat_lt.mp h0
theorem ZuR {a:Int} (h0:0<=a) (h1:a < 8):a=0\/a=1\/a=2\/a=3\/a=4\/a=5\/a=6\/a=7:=(Int.eq_ofNat_of_zero_le h0).elim fun n e=>e ▸ (by decide:∀ x:Fin 8,((x.1:Nat):Int)=0\/((x.1:Nat):Int)=1\/((x.1:Nat):Int)=2\/((x.1:Nat):Int)=3\/((x.1:Nat):Int)=4\/((x.1:Nat):Int)=5\/((x.1:Nat):Int)=6\/((x.1:Nat):Int)=7) ⟨n,Int.ofNat_lt.mp (e ▸ h1)⟩
theorem ZuS {a:Int} (h0:0<=a) (h1:a < 5):a=0\/a=1\/a=2\/a=3\/a=4:=(Int.eq_ofNat_of_zero_le h0).elim fun n e=>e ▸ (by decide:∀ x:Fin 5,((x.1:Nat):Int)=0\/((x.1:Nat):Int)=1\/((x.1:Nat):Int)=2\/((x.1:Nat):Int)=3\/((x.1:Nat):Int)=4) ⟨n,Int.ofNat_lt.mp (e ▸ h1)⟩
theorem ZuT {a:Nat} (h0:(↑a:Int) < 4):a<=1000000:=Nat.le_of_not_lt fun hn=>far [a] [(1,(.a (.v 0) (.n 1)),(.n 4)),(1,(.a (.n 1000000) (.n 1)),(.v 0))] rfl (show a < 4 from Int.ofNat_lt.mp h0) hn
theorem ZuU {a:Nat} (h0:(↑a:Int) < 4):a<=100000:=Nat.le_of_not_lt fun hn=>far [a] [(1,(.a (.v 0) (.n 1)),(.n 4)),(1,(.a (.n 100000) (.n 1)),(.v 0))] rfl (show a < 4 from Int.ofNat_lt.mp h0) hn
theorem ZuV {a:Nat} (h0:a<=3):(↑a:Int) < 1073741824:=Int.ofNat_lt.mpr (Nat.lt_of_le_of_lt h0 (by decide))
theorem ZuW {a b:Nat} (h0:(↑b:Int) < 4) (h1:a=b):a<=100000:=Nat.le_of_not_lt fun hn=>far [b,a] [(1,(.a (.v 0) (.n 1)),(.n 4)),(1,(.v 1),(.v 0)),(1,(.a (.n 100000) (.n 1)),(.v 1))] rfl (show b < 4 from Int.ofNat_lt.mp h0) (Nat.le_of_eq h1) hn
theorem ZuX {a b c:Nat} (h0:a<=1000) (h1:(↑c:Int) < 4) (h2:b=c):a + b<=1000000:=Nat.le_of_not_lt fun hn=>far [a,c,b] [(1,(.v 0),(.n 1000)),(1,(.a (.v 1) (.n 1)),(.n 4)),(1,(.v 2),(.v 1)),(1,(.a (.n 1000000) (.n 1)),(.a (.v 0) (.v 2)))] rfl h0 (show c < 4 from Int.ofNat_lt.mp h1) (Nat.le_of_eq h2) hn
theorem ZuY {a b c:Nat} (h0:a<=1000) (h1:(↑c:Int) < 4) (h2:b=c):a + b + (0 + 1)<=1000000:=Nat.le_of_not_lt fun hn=>far [a,c,b] [(1,(.v 0),(.n 1000)),(1,(.a (.v 1) (.n 1)),(.n 4)),(1,(.v 2),(.v 1)),(1,(.a (.n 1000000) (.n 1)),(.a (.a (.v 0) (.v 2)) (.a (.n 0) (.n 1))))] rfl h0 (show c < 4 from Int.ofNat_lt.mp h1) (Nat.le_of_eq h2) hn
theorem ZuZ {a b:Nat} (h0:(↑b:Int) < 4) (h1:a=b):a<=3:=Nat.le_of_not_lt fun hn=>far [b,a] [(1,(.a (.v 0) (.n 1)),(.n 4)),(1,(.v 1),(.v 0)),(1,(.a (.n 3) (.n 1)),(.v 1))] rfl (show b < 4 from Int.ofNat_lt.mp h0) (Nat.le_of_eq h1) hn
theorem Zu0 {a b c:Nat} (h0:b<=4 * c) (h1:a<=3):a + (0 + 1) + b<=4 * (c + 1):=Nat.le_of_not_lt fun hn=>far [b,c,a] [(1,(.v 0),(.m 4 (.v 1))),(1,(.v 2),(.n 3)),(1,(.a (.m 4 (.a (.v 1) (.n 1))) (.n 1)),(.a (.a (.v 2) (.a (.n 0) (.n 1))) (.v 0)))] rfl h0 h1 hn
theorem Zu1 {a b c:Nat} (h0:b<=3) (h1:a + (c + 1)=b):a<=10:=Nat.le_of_not_lt fun hn=>far [b,a,c] [(1,(.v 0),(.n 3)),(1,(.a (.v 1) (.a (.v 2) (.n 1))),(.v 0)),(1,(.a (.n 10) (.n 1)),(.v 1))] rfl h0 (Nat.le_of_eq h1) hn
theorem Zu2 {a b c d:Nat} (h0:b<=3) (h1:c + (d + 1)=b) (h2:a<=4 * c):a<=1000:=Nat.le_of_not_lt fun hn=>far [b,c,d,a] [(4,(.v 0),(.n 3)),(4,(.a (.v 1) (.a (.v 2) (.n 1))),(.v 0)),(1,(.v 3),(.m 4 (.v 1))),(1,(.a (.n 1000) (.n 1)),(.v 3))] rfl h0 (Nat.le_of_eq h1) h2 hn
theorem Zu3 {a b c:Nat} (h0:a + (b + 1)=c):a + (0 + 1) + b=c:=Nat.le_antisymm (Nat.le_of_not_lt fun hn=>far [a,b,c] [(1,(.a (.v 0) (.a (.v 1) (.n 1))),(.v 2)),(1,(.a (.v 2) (.n 1)),(.a (.a (.v 0) (.a (.n 0) (.n 1))) (.v 1)))] rfl (Nat.le_of_eq h0) hn) (Nat.le_of_not_lt fun hn=>far [c,a,b] [(1,(.v 0),(.a (.v 1) (.a (.v 2) (.n 1)))),(1,(.a (.a (.a (.v 1) (.a (.n 0) (.n 1))) (.v 2)) (.n 1)),(.v 0))] rfl (Nat.le_of_eq h0.symm) hn)
theorem Zu4 {a:Nat}:1 + (↑a:Int)=(↑(a + 1):Int):=Int.add_comm _ _
theorem Zu5 {a b:Nat} (h0:(↑b:Int) < 3) (h1:b + 1=a):0 < a/\a<=3:=⟨Nat.lt_of_not_le fun hn=>far [b,a] [(1,(.a (.v 0) (.n 1)),(.v 1)),(1,(.v 1),(.n 0))] rfl (Nat.le_of_eq h1) hn,Nat.le_of_not_lt fun hn=>far [b,a] [(1,(.a (.v 0) (.n 1)),(.n 3)),(1,(.v 1),(.a (.v 0) (.n 1))),(1,(.a (.n 3) (.n 1)),(.v 1))] rfl (show b < 3 from Int.ofNat_lt.mp h0) (Nat.le_of_eq h1.symm) hn⟩
theorem Zu6 {a b:Nat} (h0:(↑b:Int) < 3) (h1:b + 1=a):a<=1000000:=Nat.le_of_not_lt fun hn=>far [b,a] [(1,(.a (.v 0) (.n 1)),(.n 3)),(1,(.v 1),(.a (.v 0) (.n 1))),(1,(.a (.n 1000000) (.n 1)),(.v 1))] rfl (show b < 3 from Int.ofNat_lt.mp h0) (Nat.le_of_eq h1.symm) hn
theorem Zu7 {a b:Nat} (h0:a + 1=b) (h1:0=b):False:=far [a,b] [(1,(.a (.v 0) (.n 1)),(.v 1)),(1,(.v 1),(.n 0))] rfl (Nat.le_of_eq h0) (Nat.le_of_eq h1.symm)
theorem Zu8 {a b c:Nat} (h0:(↑b:Int) < 3) (h1:b + 1=c) (h2:a=c):a<=3:=Nat.le_of_not_lt fun hn=>far [b,c,a] [(1,(.a (.v 0) (.n 1)),(.n 3)),(1,(.v 1),(.a (.v 0) (.n 1))),(1,(.v 2),(.v 1)),(1,(.a (.n 3) (.n 1)),(.v 2))] rfl (show b < 3 from Int.ofNat_lt.mp h0) (Nat.le_of_eq h1.symm) (Nat.le_of_eq h2) hn
theorem Zu9 {a:Int} (h0:0 < a):a ≠ 0:=by omega
theorem Zva {a:Int} (h0:0 < a/\a < 2 ^ 30):a ≠ 0:=by omega
theorem Zvb {a:Int} (h0:0 < a/\a < 2 ^ 30):a.natAbs < 1073741824:=Int.ofNat_lt.mp (by rw [Int.natAbs_of_nonneg (Int.le_of_lt h0.1)]; exact h0.2)
theorem Zvc {a:Int} (h0:0<=a):-2 ^ 63<=a:=Int.le_trans (by decide) h0
theorem Zvd {a:Int} {b:Nat} (h0:a.toNat < b):a < (↑b:Int):=Int.lt_of_le_of_lt (Int.self_le_toNat a) (Int.ofNat_lt.mpr h0)
theorem Zve {a b:Int} (h0:a < b):a<=b:=Int.le_of_lt h0
theorem Zvf {a b c:Int} (h0:a < c) (h1:c<=b):a<=b:=Int.le_of_lt (Int.lt_of_lt_of_le h0 h1)
theorem Zvg {a b:Int} (h0:¬b < a):a<=b:=Int.not_lt.mp h0
theorem Zvh {a:Int} (h0:0<=a/\a<=1000000):a.toNat<=1000000:=Int.toNat_le.mpr h0.2
theorem Zvi {a:Int} (h0:0<=a/\a<=1000000):(↑a.toNat:Int)=a:=Int.toNat_of_nonneg h0.1
theorem Zvj {a b:Int} (h0:a < b):max a b=b:=Int.max_eq_right (Int.le_of_lt h0)
theorem Zvk {a b:Int} (h0:¬b > a):max a b=a:=Int.max_eq_left (Int.not_lt.mp h0)
theorem Zvl {a b c:Nat} (h0:b < 64) (h1:a=c) (h2:b=c):a < 64:=Nat.lt_of_not_le fun hn=>far [b,a,c] [(1,(.a (.v 0) (.n 1)),(.n 64)),(1,(.v 1),(.v 2)),(1,(.v 2),(.v 0)),(1,(.n 64),(.v 1))] rfl h0 (Nat.le_of_eq h1) (Nat.le_of_eq h2.symm) hn
theorem Zvm {a b:Nat} (h0:a < b) (h1:a < 0):False:=Nat.not_lt_zero _ h1
theorem Zvn {a b c:Nat} (h0:b < c) (h1:a + 1 < b + 1):a < b:=Nat.lt_of_succ_lt_succ h1
theorem Zvo {a b:Nat} (h0:max a b<=6):a<=6:=Nat.le_trans (Nat.le_max_left _ _) h0
theorem Zvp {a b:Nat} (h0:max b a<=6):a<=6:=Nat.le_trans (Nat.le_max_right _ _) h0
theorem Zvq {a b c:Nat} (h0:b + c<=1000000) (h1:a=b):a<=16777216:=Nat.le_of_not_lt fun hn=>far [b,c,a] [(1,(.a (.v 0) (.v 1)),(.n 1000000)),(1,(.v 2),(.v 0)),(1,(.a (.n 16777216) (.n 1)),(.v 2))] rfl h0 (Nat.le_of_eq h1) hn
theorem Zvr {a b c d:Nat} (h0:c + d<=1000000) (h1:a=c) (h2:b=d):a + b<=16777216 + 1:=Nat.le_of_not_lt fun hn=>far [c,d,a,b] [(1,(.a (.v 0) (.v 1)),(.n 1000000)),(1,(.v 2),(.v 0)),(1,(.v 3),(.v 1)),(1,(.a (.a (.n 16777216) (.n 1)) (.n 1)),(.a (.v 2) (.v 3)))] rfl h0 (Nat.le_of_eq h1) (Nat.le_of_eq h2) hn
theorem Zvs {a b c d:Nat} (h0:c + d<=1000000) (h1:a=c) (h2:b=d):¬a + b > 16777216:=fun hn=>far [c,d,a,b] [(1,(.a (.v 0) (.v 1)),(.n 1000000)),(1,(.v 2),(.v 0)),(1,(.v 3),(.v 1)),(1,(.a (.n 16777216) (.n 1)),(.a (.v 2) (.v 3)))] rfl h0 (Nat.le_of_eq h1) (Nat.le_of_eq h2) hn
theorem Zvt {a b:Nat} (h0:b<=1000000) (h1:a < b):(↑a:Int) < 2 ^ 63 - 1:=Int.lt_of_lt_of_le (Int.ofNat_lt.mpr (Nat.lt_of_lt_of_le h1 h0)) (by decide)
theorem Zvu {a b c d e f:Nat} (h0:a + 200 < b) (h1:c < d) (h2:e=d) (h3:f < e) (h4:f < e):a + 1 + 64 < b:=Nat.lt_of_not_le fun hn=>far [a,b] [(1,(.a (.a (.v 0) (.n 200)) (.n 1)),(.v 1)),(1,(.v 1),(.a (.a (.v 0) (.n 1)) (.n 64)))] rfl h0 hn
theorem Zvv {a b:Nat} (h0:a<=b/\b<=a + 0):a=b:=Nat.le_antisymm (Nat.le_of_not_lt fun hn=>far [a,b] [(1,(.v 0),(.v 1)),(1,(.a (.v 1) (.n 1)),(.v 0))] rfl h0.1 hn) (Nat.le_of_not_lt fun hn=>far [b,a] [(1,(.v 0),(.a (.v 1) (.n 0))),(1,(.a (.v 1) (.n 1)),(.v 0))] rfl h0.2 hn)
theorem Zvw {a b c:Nat} (h0:a + (c + 1) < b):a < b:=Nat.lt_of_le_of_lt (Nat.le_add_right _ _) h0
theorem Zvx {a b c:Nat} (h0:a + (b + 1) < c):a + 1 + b < c:=Nat.lt_of_not_le fun hn=>far [a,b,c] [(1,(.a (.a (.v 0) (.a (.v 1) (.n 1))) (.n 1)),(.v 2)),(1,(.v 2),(.a (.a (.v 0) (.n 1)) (.v 1)))] rfl h0 hn
theorem Zvy {a b c d:Nat} (h0:a + max b d < c):a + b < c:=Nat.lt_of_not_le fun hn=>far [a,(max b d),c,b] [(1,(.a (.a (.v 0) (.v 1)) (.n 1)),(.v 2)),(1,(.v 2),(.a (.v 0) (.v 3))),(1,(.v 3),(.v 1))] rfl h0 hn (Nat.le_max_left _ _)
theorem Zvz {a b c d:Nat} (h0:a + max d b < c):a + b < c:=Nat.lt_of_not_le fun hn=>far [a,(max d b),c,b] [(1,(.a (.a (.v 0) (.v 1)) (.n 1)),(.v 2)),(1,(.v 2),(.a (.v 0) (.v 3))),(1,(.v 3),(.v 1))] rfl h0 hn (Nat.le_max_right _ _)
theorem ZvA {a:Nat} (h0:a + 1<=0):False:=Nat.not_lt_zero _ h0
theorem ZvB {a b:Nat} (h0:a + 1<=b + 1):a<=b:=Nat.le_of_lt_succ h0
theorem ZvC {a b c:Nat} (h0:max a c<=b):a<=b:=Nat.le_trans (Nat.le_max_left _ _) h0
theorem ZvD {a b c:Nat} (h0:max c a<=b):a<=b:=Nat.le_trans (Nat.le_max_right _ _) h0
theorem ZvE {a b c:Nat} (h0:a + 64 < c) (h1:b<=6):a + b < c:=Nat.lt_of_not_le fun hn=>far [a,c,b] [(1,(.a (.a (.v 0) (.n 64)) (.n 1)),(.v 1)),(1,(.v 2),(.n 6)),(1,(.v 1),(.a (.v 0) (.v 2)))] rfl h0 h1 hn
theorem ZvF {a b:Nat} (h0:a + 200 < b):a < b:=Nat.lt_of_le_of_lt (Nat.le_add_right _ _) h0
theorem ZvG {a b:Nat} (h0:a + (b + 1)<=1000):a<=16777216:=Nat.le_of_not_lt fun hn=>far [a,b] [(1,(.a (.v 0) (.a (.v 1) (.n 1))),(.n 1000)),(1,(.a (.n 16777216) (.n 1)),(.v 0))] rfl h0 hn
theorem ZvH {a b:Nat} (h0:a + (b + 1)<=1000):a + 1<=16777216 + 1:=Nat.le_of_not_lt fun hn=>far [a,b] [(1,(.a (.v 0) (.a (.v 1) (.n 1))),(.n 1000)),(1,(.a (.a (.n 16777216) (.n 1)) (.n 1)),(.a (.v 0) (.n 1)))] rfl h0 hn
theorem ZvI {a b:Nat} (h0:a + (b + 1)<=1000):a + 1 + b<=1000:=Nat.le_of_not_lt fun hn=>far [a,b] [(1,(.a (.v 0) (.a (.v 1) (.n 1))),(.n 1000)),(1,(.a (.n 1000) (.n 1)),(.a (.a (.v 0) (.n 1)) (.v 1)))] rfl h0 hn
theorem ZvJ {a b:Nat} (h0:a<=b + 1 + 1):a<=b + 5:=Nat.le_of_not_lt fun hn=>far [a,b] [(1,(.v 0),(.a (.a (.v 1) (.n 1)) (.n 1))),(1,(.a (.a (.v 1) (.n 5)) (.n 1)),(.v 0))] rfl h0 hn
theorem ZvK {a:Nat} (h0:a < 64):a<=1000:=Nat.le_of_lt (Nat.lt_of_lt_of_le h0 (by decide))
theorem ZvL {a:Nat}:a=0->0=(↑a:Int):=fun e=>(congrArg Nat.cast e).symm
theorem ZvM {a:Nat} (h0:a<=1000000):(↑a:Int) < 9223372036854775808/\(a=0\/(↑a:Int) < 9223372036854775808):=⟨Int.ofNat_lt.mpr (Nat.lt_of_le_of_lt h0 (by decide)),.inr (Int.ofNat_lt.mpr (Nat.lt_of_le_of_lt h0 (by decide)))⟩
theorem ZvN {a:Nat}:0 < (↑(a + 1):Int):=by simp
theorem ZvO {a:Nat}:(↑(a + 1):Int) - 1=(↑a:Int):=by simp
theorem ZvP {a:Nat}:(↑(a + 1):Int)=(↑a:Int) + 1:=by rfl
theorem ZvQ {a b:Nat}:(↑(a + b.succ):Int)=(↑(a + 1 + b):Int):=by omega
theorem ZvR:(↑0:Int)<=0:=Int.natCast_nonneg _
theorem ZvS {a:Nat}:(0 + (↑a:Int) * 1).toNat=a:=by simp
theorem ZvT {a b:Nat} (h0:a + 1<=b):a<=b:=Nat.le_of_lt h0
theorem ZvU {a b c:Nat} (h0:a<=c):min a b<=c:=Nat.le_trans (Nat.min_le_left _ _) h0
theorem ZvV {a b c:Nat} (h0:b<=1000000) (h1:c=b) (h2:a<=c):a<=16777216:=Nat.le_of_not_lt fun hn=>far [b,c,a] [(1,(.v 0),(.n 1000000)),(1,(.v 1),(.v 0)),(1,(.v 2),(.v 1)),(1,(.a (.n 16777216) (.n 1)),(.v 2))] rfl h0 (Nat.le_of_eq h1) h2 hn
theorem ZvW {a:Int} {b:Nat} (h0:0<=a) (h1:a.toNat<=b):(↑a.toNat:Int)=min a (↑b:Int):=(Int.toNat_of_nonneg h0).trans (Int.min_eq_left (Int.toNat_le.mp h1)).symm
theorem ZvX {a:Nat} {b:Int} (h0:¬b.toNat<=a):(↑a:Int)=min b (↑a:Int):=(Int.min_eq_right (Int.le_of_lt (Int.lt_toNat.mp (Nat.lt_of_not_le h0)))).symm
theorem ZvY {a:Nat} {b:Int} {c:Nat} (h0:c=a) (h1:¬b.toNat<=c):a<=b.toNat:=Nat.le_of_not_lt fun hn=>far [a,c,b.toNat] [(1,(.v 0),(.v 1)),(1,(.a (.v 1) (.n 1)),(.v 2)),(1,(.a (.v 2) (.n 1)),(.v 0))] rfl (Nat.le_of_eq h0.symm) (Nat.lt_of_not_le h1) hn
theorem ZvZ:-1 < 0:=Int.natCast_nonneg _
theorem Zv0 {a:Nat}:(↑(a - 1):Int)=max (-1 + (↑a:Int)) 0:=by omega
theorem Zv1 {a b c d:Nat} (h0:a<=c) (h1:c + 2 * (d + 1) + 20 < b):a < b:=Nat.lt_of_not_le fun hn=>far [a,c,d,b] [(1,(.v 0),(.v 1)),(1,(.a (.a (.a (.v 1) (.m 2 (.a (.v 2) (.n 1)))) (.n 20)) (.n 1)),(.v 3)),(1,(.v 3),(.v 0))] rfl h0 h1 hn
theorem Zv2 {a b c d:Nat} (h0:a<=c) (h1:c + 10 * (d + 1) + 200 < b):a + 3 + 200 < b:=Nat.lt_of_not_le fun hn=>far [a,c,d,b] [(1,(.v 0),(.v 1)),(1,(.a (.a (.a (.v 1) (.m 10 (.a (.v 2) (.n 1)))) (.n 200)) (.n 1)),(.v 3)),(1,(.v 3),(.a (.a (.v 0) (.n 3)) (.n 200)))] rfl h0 h1 hn
theorem Zv3 {a b c d:Nat} (h0:a<=c) (h1:c + 2 * (d + 1) + 20 < b):a + 1 + 20 < b:=Nat.lt_of_not_le fun hn=>far [a,c,d,b] [(1,(.v 0),(.v 1)),(1,(.a (.a (.a (.v 1) (.m 2 (.a (.v 2) (.n 1)))) (.n 20)) (.n 1)),(.v 3)),(1,(.v 3),(.a (.a (.v 0) (.n 1)) (.n 20)))] rfl h0 h1 hn
theorem Zv4 {a b c d:Nat} (h0:a<=d) (h1:d + 10 * (b + 1) + 200 < c):a + 8 + 10 * b + 200 < c:=Nat.lt_of_not_le fun hn=>far [a,d,b,c] [(1,(.v 0),(.v 1)),(1,(.a (.a (.a (.v 1) (.m 10 (.a (.v 2) (.n 1)))) (.n 200)) (.n 1)),(.v 3)),(1,(.v 3),(.a (.a (.a (.v 0) (.n 8)) (.m 10 (.v 2))) (.n 200)))] rfl h0 h1 hn
theorem Zv5 {a b c d:Nat} (h0:a<=d) (h1:d + 2 * (b + 1) + 20 < c):a + 2 + 2 * b + 20 < c:=Nat.lt_of_not_le fun hn=>far [a,d,b,c] [(1,(.v 0),(.v 1)),(1,(.a (.a (.a (.v 1) (.m 2 (.a (.v 2) (.n 1)))) (.n 20)) (.n 1)),(.v 3)),(1,(.v 3),(.a (.a (.a (.v 0) (.n 2)) (.m 2 (.v 2))) (.n 20)))] rfl h0 h1 hn
theorem Zv6 {a:Nat}:a + 1<=a + 5:=by solve_by_elim (maxDepth:=3) [Nat.le_of_lt,Nat.le_refl,Nat.le_succ,Nat.lt_succ_self,Nat.le_add_right,Nat.le_add_left,Nat.succ_le_of_lt,Nat.le_of_lt_succ,Nat.lt_succ_of_le,Nat.succ_le_succ,Nat.zero_le,Nat.le_of_eq,Nat.ne_of_lt,Nat.ne_of_gt,Nat.lt_of_lt_of_le,Nat.lt_of_le_of_lt,Nat.le_trans,Nat.lt_trans]
theorem Zv7 {a:Nat}:a + 1<=a + 1:=Nat.lt_succ_self _
theorem Zv8 {a b c d e:Nat} (h0:a + d<=1000000) (h1:b + (c * e + c)<=d):a + b + c<=1000000:=Nat.le_of_not_lt fun hn=>far [a,d,b,(c * e),c] [(1,(.a (.v 0) (.v 1)),(.n 1000000)),(1,(.a (.v 2) (.a (.v 3) (.v 4))),(.v 1)),(1,(.a (.n 1000000) (.n 1)),(.a (.a (.v 0) (.v 2)) (.v 4)))] rfl h0 h1 hn
theorem Zv9 {a b c d e:Nat} (h0:a + (c * d + c)<=e) (h1:b<=c):a + b + c * d<=e:=Nat.le_of_not_lt fun hn=>far [a,(c * d),c,e,b] [(1,(.a (.v 0) (.a (.v 1) (.v 2))),(.v 3)),(1,(.v 4),(.v 2)),(1,(.a (.v 3) (.n 1)),(.a (.a (.v 0) (.v 4)) (.v 1)))] rfl h0 h1 hn
theorem Zwa {a b:Nat} (h0:b + 1<=1000000) (h1:a=b):a<=16777216:=Nat.le_of_not_lt fun hn=>far [b,a] [(1,(.a (.v 0) (.n 1)),(.n 1000000)),(1,(.v 1),(.v 0)),(1,(.a (.n 16777216) (.n 1)),(.v 1))] rfl h0 (Nat.le_of_eq h1) hn
theorem Zwb {a b c:Nat} (h0:a=c + 1) (h1:b=c + 2):a<=b:=by simp [h0,h1]
theorem Zwc {a b:Nat} (h0:b=a + 2):a ≠ b:=by simp [h0]
theorem Zwd {a b:Nat} (h0:b=a + 1):a ≠ b:=by simp [h0]
theorem Zwe {a b c:Nat} (h0:a=c + 1) (h1:b=c + 2):a < b:=by simp [h0,h1]
theorem Zwf {a:Nat} (h0:a<=100000):1 * a<=1000000:=Nat.le_trans (Nat.mul_le_mul_left _ h0) (by decide)
theorem Zwg {a:Nat} (h0:a<=1000):1000 * a<=1000000:=Nat.le_trans (Nat.mul_le_mul_left _ h0) (by decide)
theorem Zwh {a:Int} {b c:Nat} (h0:a < (↑c:Int)) (h1:b=c):a < (↑b:Int):=by simp [h0,h1]
theorem Zwi {a b:Nat} (h0:a<=b) (h1:b < 1):a=b:=Nat.le_antisymm (Nat.le_of_not_lt fun hn=>far [a,b] [(1,(.v 0),(.v 1)),(1,(.a (.v 1) (.n 1)),(.v 0))] rfl h0 hn) (Nat.le_of_not_lt fun hn=>far [b,a] [(1,(.a (.v 0) (.n 1)),(.n 1)),(1,(.a (.v 1) (.n 1)),(.v 0))] rfl h1 hn)
theorem Zwj {a b:Nat} {c d:Int} (h0:a=b\/c < d) (h1:d<=c):a=b:=h0.resolve_right (Int.not_lt.mpr h1)
theorem Zwk {a:Nat} (h0:2<=a):a=a - 1 + 1:=Nat.le_antisymm (Nat.le_of_not_lt fun hn=>far [(a - 1),a] [(1,(.a (.a (.v 0) (.n 1)) (.n 1)),(.v 1)),(1,(.v 1),(.a (.v 0) (.n 1)))] rfl hn (Nat.sub_le_iff_le_add.mp (Nat.le_refl _))) (Nat.le_of_not_lt fun hn=>far [a,(a - 1)] [(1,(.a (.v 0) (.n 1)),(.a (.v 1) (.n 1))),(1,(.a (.v 1) (.n 1)),(.v 0))] rfl hn (Nat.le_of_eq (Nat.sub_add_cancel (Nat.le_of_not_lt fun hs=>far [a] [(1,(.n 2),(.v 0)),(1,(.a (.v 0) (.n 1)),(.n 1))] rfl h0 hs))))
theorem Zwl {a:Nat} (h0:2<=a) (h1:max 0 a=0):False:=far [a,(max 0 a)] [(1,(.n 2),(.v 0)),(1,(.v 1),(.n 0)),(1,(.v 0),(.v 1))] rfl h0 (Nat.le_of_eq h1) (Nat.le_max_right _ _)
theorem Zwm {a:Nat} (h0:2<=a):¬0 ≥ a:=fun hn=>far [a] [(1,(.n 2),(.v 0)),(1,(.v 0),(.n 0))] rfl h0 hn
theorem Zwn:1<=1:=Nat.le_refl _
theorem Zwo {a:Nat} (h0:a < 64):a<=16777216 + 1:=Nat.le_of_lt (Nat.lt_of_lt_of_le h0 (by decide))
theorem Zwp {a b c:Nat} (h0:c=b) (h1:a=c):a=b:=h1.trans h0
theorem Zwq {a b c:Nat} (h0:a<=c) (h1:c < b):a < b:=Nat.lt_of_le_of_lt h0 h1
theorem Zwr {a b c d:Nat} (h0:b=c) (h1:a<=d) (h2:d < c):a < b:=Nat.lt_of_not_le fun hn=>far [c,b,a,d] [(1,(.v 0),(.v 1)),(1,(.v 2),(.v 3)),(1,(.a (.v 3) (.n 1)),(.v 0)),(1,(.v 1),(.v 2))] rfl (Nat.le_of_eq h0.symm) h1 h2 hn
theorem Zws {a b c:Nat} (h0:b=c) (h1:a < c):a < b:=by simp [h0,h1]
theorem Zwt {a:Nat} (h0:a < 64):(↑a:Int) < 2 ^ 64:=Int.ofNat_lt.mpr (Nat.lt_of_lt_of_le h0 (by decide))
theorem Zwu {a b:Nat} (h0:¬b<=a):a + 1<=b:=Nat.lt_of_not_le h0
theorem Zwv {a b:Nat} (h0:a < 64) (h1:63<=b):a < b + 1:=Nat.lt_of_not_le fun hn=>far [a,b] [(1,(.a (.v 0) (.n 1)),(.n 64)),(1,(.n 63),(.v 1)),(1,(.a (.v 1) (.n 1)),(.v 0))] rfl h0 h1 hn
theorem Zww {a b:Nat} (h0:a<=b) (h1:b + 1<=a):False:=Nat.lt_irrefl _ (Nat.lt_of_lt_of_le h1 h0)
theorem Zwx {a b:Nat} (h0:a < b / 4):¬a / 8 > b:=fun hn=>far [a,(b / 4),b,(a / 8)] [(4,(.a (.v 0) (.n 1)),(.v 1)),(1,(.a (.v 2) (.n 1)),(.v 3)),(1,(.m 4 (.v 1)),(.v 2)),(4,(.m 8 (.v 3)),(.v 0))] rfl h0 hn (Nat.mul_div_le _ _) (Nat.mul_div_le _ _)
theorem Zwy {a b:Nat} (h0:b - a=0) (h1:a<=b):a=b:=Nat.le_antisymm (Nat.le_of_not_lt fun hn=>far [a,b] [(1,(.v 0),(.v 1)),(1,(.a (.v 1) (.n 1)),(.v 0))] rfl h1 hn) (Nat.le_of_not_lt fun hn=>far [(b - a),a,b] [(1,(.v 0),(.n 0)),(1,(.a (.v 1) (.n 1)),(.v 2)),(1,(.v 2),(.a (.v 0) (.v 1)))] rfl (Nat.le_of_eq h0) hn (Nat.sub_le_iff_le_add.mp (Nat.le_refl _)))
theorem Zwz {a b c:Nat} (h0:b - a=c + 1):a < b:=Nat.sub_pos_iff_lt.mp (h0 ▸ Nat.succ_pos c)
theorem ZwA {a b:Nat} (h0:a < b + 1) (h1:¬a=b):a < b:=Nat.lt_of_le_of_ne (Nat.le_of_lt_succ h0) h1
theorem ZwB {a b c:Nat} (h0:a - b=c + 1):a - (b + 1)=c:=by rw [<- Nat.sub_sub,h0]; rfl
theorem ZwC {a:Nat}:a - 0=a - 0:=by simp
theorem ZwD {a b c:Nat} (h0:a + (c + 1)<=b):a<=b:=Nat.le_trans (Nat.le_add_right _ _) h0
theorem ZwE {a:Int} {b:Nat} (h0:a.toNat=b) (h1:0<=a):a=(↑b:Int):=(Int.toNat_of_nonneg h1).symm.trans (congrArg Nat.cast h0)
theorem ZwF {a b c:Nat} (h0:a + (b + 1)<=c):a + 1 + b<=c:=Nat.le_of_not_lt fun hn=>far [a,b,c] [(1,(.a (.v 0) (.a (.v 1) (.n 1))),(.v 2)),(1,(.a (.v 2) (.n 1)),(.a (.a (.v 0) (.n 1)) (.v 1)))] rfl h0 hn
theorem ZwG {a b c d:Nat} (h0:c < d) (h1:a<=b):a < b + 1:=Nat.lt_succ_of_le h1
theorem ZwH {a:Nat} (h0:((a - 1=7\/a - 1=15)\/a - 1=31)\/63<=a - 1):(a - 1=7\/a - 1=15\/a - 1=31)\/63<=a - 1:=Or.imp_left or_assoc.mp h0
theorem ZwI {a b c:Nat} (h0:a<=c) (h1:c < b):a<=b - 1:=Nat.le_sub_one_of_lt (Nat.lt_of_not_le fun hn=>far [a,c,b] [(1,(.v 0),(.v 1)),(1,(.a (.v 1) (.n 1)),(.v 2)),(1,(.v 2),(.v 0))] rfl h0 h1 hn)
theorem ZwJ {a:Nat} (h0:a<=1024):¬a > 16777216:=fun hn=>far [a] [(1,(.v 0),(.n 1024)),(1,(.a (.n 16777216) (.n 1)),(.v 0))] rfl h0 hn
theorem ZwK {a b:Nat} (h0:a=b + 1):0 < a:=by simp [h0]
theorem ZwL {a b:Nat} (h0:a=b + 1):a - 1=b:=by simp [h0]
theorem ZwM {a b c d e:Nat} (h0:b<=64) (h1:c<=64) (h2:a=c/\d<=e):(a + b) * 2 < 300:=Nat.lt_of_not_le fun hn=>far [b,c,a,((a + b) * 2)] [(2,(.v 0),(.n 64)),(2,(.v 1),(.n 64)),(2,(.v 2),(.v 1)),(1,(.n 300),(.v 3)),(1,(.v 3),(.m 2 (.a (.v 2) (.v 0))))] rfl h0 h1 (Nat.le_of_eq h2.1) hn (Nat.le_of_eq (Nat.mul_comm _ _))
theorem ZwN {a b c d e:Nat} (h0:b=a/\d<=e):a<=(b + c) * 2:=Nat.le_of_not_lt fun hn=>far [a,b,((b + c) * 2),c] [(2,(.v 0),(.v 1)),(2,(.a (.v 2) (.n 1)),(.v 0)),(1,(.m 2 (.a (.v 1) (.v 3))),(.v 2))] rfl (Nat.le_of_eq h0.1.symm) hn (Nat.le_of_eq (Nat.mul_comm _ _))
theorem ZwO {a b c:Nat} (h0:(c + a) * 2 < b):a<=b - 1:=Nat.le_sub_one_of_lt (Nat.lt_of_not_le fun hn=>far [((c + a) * 2),b,a,c] [(1,(.a (.v 0) (.n 1)),(.v 1)),(1,(.v 1),(.v 2)),(1,(.m 2 (.a (.v 3) (.v 2))),(.v 0))] rfl h0 hn (Nat.le_of_eq (Nat.mul_comm _ _)))
theorem ZwP {a b c:Nat} (h0:¬(c + a) * 5 ≥ b * 3):a<=b:=Nat.le_of_not_lt fun hn=>far [((c + a) * 5),(b * 3),b,a,c] [(1,(.a (.v 0) (.n 1)),(.v 1)),(3,(.a (.v 2) (.n 1)),(.v 3)),(1,(.m 5 (.a (.v 4) (.v 3))),(.v 0)),(1,(.v 1),(.m 3 (.v 2)))] rfl (Nat.lt_of_not_le h0) hn (Nat.le_of_eq (Nat.mul_comm _ _)) (Nat.le_of_eq (Nat.mul_comm _ _))
theorem ZwQ {a:Nat} (h0:a<=64):a<=64:=by omega
theorem ZwR {a b c d e:Nat} (h0:b=a/\c<=d) (h1:b + e=0):a=0:=Nat.le_antisymm (Nat.le_of_not_lt fun hn=>far [a,b,e] [(1,(.v 0),(.v 1)),(1,(.a (.v 1) (.v 2)),(.n 0)),(1,(.a (.n 0) (.n 1)),(.v 0))] rfl (Nat.le_of_eq h0.1.symm) (Nat.le_of_eq h1) hn) (Nat.le_of_not_lt fun hn=>far [a] [(1,(.a (.v 0) (.n 1)),(.n 0))] rfl hn)
theorem ZwS {a b:Nat} (h0:a=b) (h1:b=0):a=0:=h0.trans h1
theorem ZwT {a b c d e f:Nat} (h0:e < b) (h1:a=b/\f<=d) (h2:a + c<=d):a - 1=b - 1/\a - 1 + (c + 1)<=d:=⟨Nat.le_antisymm (Nat.le_sub_one_of_lt (Nat.lt_of_not_le fun hn=>far [a,b,(a - 1)] [(1,(.v 0),(.v 1)),(1,(.v 1),(.v 2)),(1,(.a (.v 2) (.n 1)),(.v 0))] rfl (Nat.le_of_eq h1.1) hn (Nat.le_of_eq (Nat.sub_add_cancel (Nat.le_of_not_lt fun hs=>far [e,b,a] [(1,(.a (.v 0) (.n 1)),(.v 1)),(1,(.v 1),(.v 2)),(1,(.a (.v 2) (.n 1)),(.n 1))] rfl h0 (Nat.le_of_eq h1.1.symm) hs))))) (Nat.le_sub_one_of_lt (Nat.lt_of_not_le fun hn=>far [b,a,(b - 1)] [(1,(.v 0),(.v 1)),(1,(.v 1),(.v 2)),(1,(.a (.v 2) (.n 1)),(.v 0))] rfl (Nat.le_of_eq h1.1.symm) hn (Nat.le_of_eq (Nat.sub_add_cancel (Nat.le_of_not_lt fun hs=>far [e,b] [(1,(.a (.v 0) (.n 1)),(.v 1)),(1,(.a (.v 1) (.n 1)),(.n 1))] rfl h0 hs))))),Nat.le_of_not_lt fun hn=>far [a,c,d,(a - 1)] [(1,(.a (.v 0) (.v 1)),(.v 2)),(1,(.a (.v 2) (.n 1)),(.a (.v 3) (.a (.v 1) (.n 1)))),(1,(.a (.v 3) (.n 1)),(.v 0))] rfl h2 hn (Nat.le_of_eq (Nat.sub_add_cancel (Nat.le_of_not_lt fun hs=>far [e,b,a] [(1,(.a (.v 0) (.n 1)),(.v 1)),(1,(.v 1),(.v 2)),(1,(.a (.v 2) (.n 1)),(.n 1))] rfl h0 (Nat.le_of_eq h1.1.symm) hs)))⟩
theorem ZwU {a:Nat} (h0:a<=64):¬a > 50000:=fun hn=>far [a] [(1,(.v 0),(.n 64)),(1,(.a (.n 50000) (.n 1)),(.v 0))] rfl h0 hn
theorem ZwV {a:Nat} (h0:a<=64):a * 4 < 300:=Nat.lt_of_le_of_lt (Nat.mul_le_mul_right _ h0) (by decide)
theorem ZwW {a:Nat}:a<=a * 4:=Nat.le_add_left _ _
end
section
open PySem
set_option maxRecDepth 10000
theorem nos {α:Type} {a:α} {P:Prop} (h:none=some a):P:=nomatch h
theorem bnd {α β:Type} {o:Option α} {f:α->Option β} {b:β} (h:o.bind f=some b):∃ a,o=some a/\f a=some b:=Option.bind_eq_some_iff.mp h
theorem ns2 {α:Type} {a:α} {P:Prop} (h:some a=none):P:=nomatch h
theorem nob {P:Prop} (h:false=true):P:=nomatch h
theorem ZqZ {P:Prop} (h:true=false):P:=nomatch h
theorem ifs {α:Type} {p:Prop} [i:Decidable p] {a b c:α} {X:Prop} (h:(if p then a else b)=c) (k:p->a=c->X) (l:¬p->b=c->X):X:=by
 cases i with
 | isTrue q=>exact k q h
 | isFalse q=>exact l q h
universe u0 u1 u2 u3 u4
theorem ZL  {A B:Prop} {X:Prop} (h:A/\B) (k:A->B->X):X:=k h.1 h.2
theorem Zbp  {A B C:Prop} {X:Prop} (h:A/\B/\C) (k:A->B->C->X):X:=k h.1 h.2.1 h.2.2
theorem ZlP  {A B C D:Prop} {X:Prop} (h:A/\B/\C/\D) (k:A->B->C->D->X):X:=k h.1 h.2.1 h.2.2.1 h.2.2.2
theorem ZqO  {A B C D E:Prop} {X:Prop} (h:A/\B/\C/\D/\E) (k:A->B->C->D->E->X):X:=k h.1 h.2.1 h.2.2.1 h.2.2.2.1 h.2.2.2.2
theorem ZwZ  {A B C D E F:Prop} {X:Prop} (h:A/\B/\C/\D/\E/\F) (k:A->B->C->D->E->F->X):X:=k h.1 h.2.1 h.2.2.1 h.2.2.2.1 h.2.2.2.2.1 h.2.2.2.2.2
theorem ZU {α0:Sort u0} {A:α0->Prop} {X:Prop} (h:∃ a,A a) (k:∀ a,A a->X):X:=h.elim fun a h=>k a h
theorem Ze {α0:Sort u0} {A B:α0->Prop} {X:Prop} (h:∃ a,A a/\B a) (k:∀ a,A a->B a->X):X:=h.elim fun a h=>k a h.1 h.2
theorem Zdk {α0:Sort u0} {A B C:α0->Prop} {X:Prop} (h:∃ a,A a/\B a/\C a) (k:∀ a,A a->B a->C a->X):X:=h.elim fun a h=>k a h.1 h.2.1 h.2.2
theorem Zgf {α0:Sort u0} {A B C D:α0->Prop} {X:Prop} (h:∃ a,A a/\B a/\C a/\D a) (k:∀ a,A a->B a->C a->D a->X):X:=h.elim fun a h=>k a h.1 h.2.1 h.2.2.1 h.2.2.2
theorem Zq3 {α0:Sort u0} {A B C D E:α0->Prop} {X:Prop} (h:∃ a,A a/\B a/\C a/\D a/\E a) (k:∀ a,A a->B a->C a->D a->E a->X):X:=h.elim fun a h=>k a h.1 h.2.1 h.2.2.1 h.2.2.2.1 h.2.2.2.2
theorem Zw0 {α0:Sort u0} {α1:Sort u1} {A:α0->α1->Prop} {X:Prop} (h:∃ a b,A a b) (k:∀ a b,A a b->X):X:=h.elim fun a h=>h.elim fun b h=>k a b h
theorem Zik {α0:Sort u0} {α1:Sort u1} {A B:α0->α1->Prop} {X:Prop} (h:∃ a b,A a b/\B a b) (k:∀ a b,A a b->B a b->X):X:=h.elim fun a h=>h.elim fun b h=>k a b h.1 h.2
theorem ZaM {α0:Sort u0} {α1:Sort u1} {A B C:α0->α1->Prop} {X:Prop} (h:∃ a b,A a b/\B a b/\C a b) (k:∀ a b,A a b->B a b->C a b->X):X:=h.elim fun a h=>h.elim fun b h=>k a b h.1 h.2.1 h.2.2
theorem Zq4 {α0:Sort u0} {α1:Sort u1} {A B C D:α0->α1->Prop} {X:Prop} (h:∃ a b,A a b/\B a b/\C a b/\D a b) (k:∀ a b,A a b->B a b->C a b->D a b->X):X:=h.elim fun a h=>h.elim fun b h=>k a b h.1 h.2.1 h.2.2.1 h.2.2.2
theorem Zw1 {α0:Sort u0} {α1:Sort u1} {A B C D E:α0->α1->Prop} {X:Prop} (h:∃ a b,A a b/\B a b/\C a b/\D a b/\E a b) (k:∀ a b,A a b->B a b->C a b->D a b->E a b->X):X:=h.elim fun a h=>h.elim fun b h=>k a b h.1 h.2.1 h.2.2.1 h.2.2.2.1 h.2.2.2.2
theorem Zsd {α0:Sort u0} {α1:Sort u1} {A B C D E F G:α0->α1->Prop} {X:Prop} (h:∃ a b,A a b/\B a b/\C a b/\D a b/\E a b/\F a b/\G a b) (k:∀ a b,A a b->B a b->C a b->D a b->E a b->F a b->G a b->X):X:=h.elim fun a h=>h.elim fun b h=>k a b h.1 h.2.1 h.2.2.1 h.2.2.2.1 h.2.2.2.2.1 h.2.2.2.2.2.1 h.2.2.2.2.2.2
theorem Zw2 {α0:Sort u0} {α1:Sort u1} {α2:Sort u2} {A:α0->α1->α2->Prop} {X:Prop} (h:∃ a b c,A a b c) (k:∀ a b c,A a b c->X):X:=h.elim fun a h=>h.elim fun b h=>h.elim fun c h=>k a b c h
theorem ZjU {α0:Sort u0} {α1:Sort u1} {α2:Sort u2} {A B:α0->α1->α2->Prop} {X:Prop} (h:∃ a b c,A a b c/\B a b c) (k:∀ a b c,A a b c->B a b c->X):X:=h.elim fun a h=>h.elim fun b h=>h.elim fun c h=>k a b c h.1 h.2
theorem ZlT {α0:Sort u0} {α1:Sort u1} {α2:Sort u2} {A B C:α0->α1->α2->Prop} {X:Prop} (h:∃ a b c,A a b c/\B a b c/\C a b c) (k:∀ a b c,A a b c->B a b c->C a b c->X):X:=h.elim fun a h=>h.elim fun b h=>h.elim fun c h=>k a b c h.1 h.2.1 h.2.2
theorem ZnU {α0:Sort u0} {α1:Sort u1} {α2:Sort u2} {A B C D:α0->α1->α2->Prop} {X:Prop} (h:∃ a b c,A a b c/\B a b c/\C a b c/\D a b c) (k:∀ a b c,A a b c->B a b c->C a b c->D a b c->X):X:=h.elim fun a h=>h.elim fun b h=>h.elim fun c h=>k a b c h.1 h.2.1 h.2.2.1 h.2.2.2
theorem Zpp {α0:Sort u0} {α1:Sort u1} {α2:Sort u2} {A B C D E:α0->α1->α2->Prop} {X:Prop} (h:∃ a b c,A a b c/\B a b c/\C a b c/\D a b c/\E a b c) (k:∀ a b c,A a b c->B a b c->C a b c->D a b c->E a b c->X):X:=h.elim fun a h=>h.elim fun b h=>h.elim fun c h=>k a b c h.1 h.2.1 h.2.2.1 h.2.2.2.1 h.2.2.2.2
theorem Zw3 {α0:Sort u0} {α1:Sort u1} {α2:Sort u2} {A B C D E F G:α0->α1->α2->Prop} {X:Prop} (h:∃ a b c,A a b c/\B a b c/\C a b c/\D a b c/\E a b c/\F a b c/\G a b c) (k:∀ a b c,A a b c->B a b c->C a b c->D a b c->E a b c->F a b c->G a b c->X):X:=h.elim fun a h=>h.elim fun b h=>h.elim fun c h=>k a b c h.1 h.2.1 h.2.2.1 h.2.2.2.1 h.2.2.2.2.1 h.2.2.2.2.2.1 h.2.2.2.2.2.2
theorem Zw4 {α0:Sort u0} {α1:Sort u1} {α2:Sort u2} {α3:Sort u3} {A B:α0->α1->α2->α3->Prop} {X:Prop} (h:∃ a b c d,A a b c d/\B a b c d) (k:∀ a b c d,A a b c d->B a b c d->X):X:=h.elim fun a h=>h.elim fun b h=>h.elim fun c h=>h.elim fun d h=>k a b c d h.1 h.2
theorem ZlU {α0:Sort u0} {α1:Sort u1} {α2:Sort u2} {α3:Sort u3} {A B C:α0->α1->α2->α3->Prop} {X:Prop} (h:∃ a b c d,A a b c d/\B a b c d/\C a b c d) (k:∀ a b c d,A a b c d->B a b c d->C a b c d->X):X:=h.elim fun a h=>h.elim fun b h=>h.elim fun c h=>h.elim fun d h=>k a b c d h.1 h.2.1 h.2.2
theorem Zse {α0:Sort u0} {α1:Sort u1} {α2:Sort u2} {α3:Sort u3} {A B C D:α0->α1->α2->α3->Prop} {X:Prop} (h:∃ a b c d,A a b c d/\B a b c d/\C a b c d/\D a b c d) (k:∀ a b c d,A a b c d->B a b c d->C a b c d->D a b c d->X):X:=h.elim fun a h=>h.elim fun b h=>h.elim fun c h=>h.elim fun d h=>k a b c d h.1 h.2.1 h.2.2.1 h.2.2.2
theorem Zac {a b:Bool} (h:(a&&b)=true):a=true:=(Bool.and_eq_true_iff.mp h).1
theorem ZeS {a b:Bool} (h:(a&&b)=true):b=true:=(Bool.and_eq_true_iff.mp h).2
theorem ZjT {α:Type} {l:List α} {n:Nat} {X:Prop} (h:l.length=n + 1) (k:∀ a t,l=a::t->t.length=n->X):X:=by
 cases l with
 | nil=>cases h
 | cons a t=>exact k a t rfl (Nat.succ.inj h)
theorem Zr5 {α:Type} {l:List α} (h:l.length=2):∃ a b,l=[a,b] :=
 ZjT h fun a t e1 h=>ZjT h fun b t2 e2 h=>⟨a,b,by rw [e1,e2,List.length_eq_zero_iff.mp h]⟩
theorem Zr6 {α:Type} {l:List α} (h:l.length=3):∃ a b c,l=[a,b,c] :=
 ZjT h fun a t e1 h=>ZjT h fun b t2 e2 h=>ZjT h fun c t3 e3 h=>⟨a,b,c,by rw [e1,e2,e3,List.length_eq_zero_iff.mp h]⟩
noncomputable def alt {α:Type} (o p:Option α):Option α:=match o with
 | some a=>some a
 | none=>p
noncomputable def sel {α β:Type} (o:Option β) (f:β->Option α) (p:Option α):Option α:=match o with
 | some a=>f a
 | none=>p
theorem ZqA {α β:Type} {o:Option β} {f:β->Option α} {p:Option α} {a:α} (h:sel o f p=some a):(∃ x,o=some x/\f x=some a)\/p=some a:=by
 cases o with
 | none=>exact .inr h
 | some b=>exact .inl ⟨b,rfl,h⟩
theorem ZbA {α:Type} {o p:Option α} {a:α} (h:alt o p=some a):o=some a\/p=some a:=by
 cases o with
 | none=>exact .inr h
 | some b=>exact .inl h
set_option genCtorIdx true in
set_option genInjectivity true in
inductive LV where
 | none
 | bool (b:Bool)
 | int (i:Int)
 | w (k:Nat)
 | tup (vs:List LV)
 | lst (vs:List LV)
 | fset (xs:List Int)
 | rng (n:Nat)
 | ref (a:Addr)
 | rcd (c:Nat) (vs:List LV)
 | fn (f:Nat)
 | cls (c:Nat)
 | bm (f:Nat) (self:LV)
set_option genCtorIdx true in
set_option genInjectivity true in
inductive LO where
 | list (vs:List LV)
 | dict (es:List (LV × LV))
 | idict (es:List (Int × LV))
 | inst (c:Nat) (d:Addr)
 | ns (fs:List (Nat × LV))
noncomputable abbrev St:=Addr->Option LO
noncomputable abbrev Env:=List (Nat × LV)
noncomputable def upd (σ:St) (a:Addr) (o:Option LO):St:=fun x=>if x=a then o else σ x
theorem Zb (σ:St) (a:Addr) (o:Option LO):upd σ a o a=o:=by simp [upd]
theorem Zc (σ:St) {a b:Addr} (o:Option LO) (h:b ≠ a):upd σ a o b=σ b:=by simp [upd,h]
noncomputable def Zo:Env->Nat->Option LV
 | [],_=>.none
 | (y,v)::r,x=>if x=y then some v else Zo r x
theorem ZkI (y v r x):Zo ((y,v)::r) x=if x=y then some v else Zo r x:=rfl
noncomputable def Zm:Env->Nat->LV->Env
 | [],x,u=>[(x,u)]
 | (y,v)::r,x,u=>if x=y then (x,u)::r else (y,v)::Zm r x u
theorem ZqB (y v r x u):Zm ((y,v)::r) x u=if x=y then (x,u)::r else (y,v)::Zm r x u:=rfl
theorem ZM:∀ (ρ:Env) (x:Nat) (u:LV) (y:Nat),Zo (Zm ρ x u) y=if y=x then some u else Zo ρ y
 | [],x,u,y=>by simp [Zm,Zo]
 | (z,v)::r,x,u,y=>by
  by_cases h:x=z
  ·subst h
   by_cases q:y=x <;> simp [Zm,Zo,q]
  ·by_cases q:y=z
   ·subst q
    have:¬ y=x:=fun e=>h e.symm
    simp [Zm,Zo,h,this]
   ·simp [Zm,Zo,h,q,ZM r x u y]
noncomputable def ZC {α:Type} (o:Option α) (f:α->Prop):Prop:=match o with | some a=>f a | .none=>False
theorem Zqm {α:Type} (a:α) (f:α->Prop):ZC (some a) f=f a:=rfl
theorem Zi {α:Type} {o:Option α} {f:α->Prop}:ZC o f ↔ ∃ a,o=some a/\f a:=by cases o <;> simp [ZC]
mutual
noncomputable def plain:LV->Bool
 | .none=>true
 | .int _=>true
 | .w _=>true
 | .tup vs=>Zam vs
 | _=>false
noncomputable def Zam:List LV->Bool
 | []=>true
 | v::vs=>plain v&&Zam vs
end
mutual
noncomputable def depth:LV->Nat
 | .tup vs=>Z8 vs + 1
 | _=>0
noncomputable def Z8:List LV->Nat
 | []=>0
 | v::vs=>max (depth v) (Z8 vs)
end
theorem Zcy (v vs):Zam (v::vs)=(plain v&&Zam vs):=rfl
theorem Zfw (v vs):Z8 (v::vs)=max (depth v) (Z8 vs):=rfl
theorem Zlr {vs:List LV}:plain (.tup vs)=Zam vs:=rfl
theorem ZhG {vs:List LV}:depth (.tup vs)=Z8 vs + 1:=rfl
noncomputable def Zak (v:LV):Bool:=plain v&&Nat.ble (depth v) 6
noncomputable def ZA (vs:List LV):Bool:=Zam vs&&Nat.ble (Z8 vs) 6
mutual
noncomputable def ZbQ:LV->Bool
 | .int _=>true
 | .w _=>true
 | .tup vs=>Za0 vs
 | _=>false
noncomputable def Za0:List LV->Bool
 | []=>true
 | v::vs=>ZbQ v&&Za0 vs
end
theorem ZhS (v vs):Za0 (v::vs)=(ZbQ v&&Za0 vs):=rfl
theorem Zp4 {vs:List LV}:ZbQ (.tup vs)=Za0 vs:=rfl
noncomputable def Zov:LV->Bool
 | .tup _=>true
 | _=>false
noncomputable def ZaL (v:LV):Bool:=Zov v&&ZbQ v&&Zak v
noncomputable def Zaa (σ:St):LV->Option (List LV)
 | .lst vs=>some vs
 | .ref a=>match σ a with
  | some (.list vs)=>some vs
  | _=>.none
 | _=>.none
noncomputable def ZaD:LV->Option (List LV)
 | .lst vs=>some vs
 | .tup vs=>some vs
 | .rng n=>some ((List.range n).map fun (i:Nat)=>LV.int (Int.ofNat i))
 | _=>.none
noncomputable def asI (v:LV):Option Int:=match v with
 | .int i=>some i
 | _=>none
noncomputable def asT (v:LV):Option (List LV):=match v with
 | .tup i=>some i
 | _=>none
noncomputable def asL (v:LV):Option (List LV):=match v with
 | .lst i=>some i
 | _=>none
noncomputable def asW (v:LV):Option Nat:=match v with
 | .w i=>some i
 | _=>none
noncomputable def asF (v:LV):Option (List Int):=match v with
 | .fset i=>some i
 | _=>none
noncomputable def asB (v:LV):Option Bool:=match v with
 | .bool i=>some i
 | _=>none
theorem ZP {v:LV} {i:Int} (h:asI v=some i):v=.int i:=by cases v <;> first | exact nos h | (cases h; rfl)
theorem Zb7 {v:LV} {i:List LV} (h:asT v=some i):v=.tup i:=by cases v <;> first | exact nos h | (cases h; rfl)
theorem ZdB {v:LV} {i:List LV} (h:asL v=some i):v=.lst i:=by cases v <;> first | exact nos h | (cases h; rfl)
theorem Zj2 {v:LV} {i:Nat} (h:asW v=some i):v=.w i:=by cases v <;> first | exact nos h | (cases h; rfl)
theorem Zd7 {v:LV} {i:List Int} (h:asF v=some i):v=.fset i:=by cases v <;> first | exact nos h | (cases h; rfl)
theorem ZeZ {v:LV} {i:Bool} (h:asB v=some i):v=.bool i:=by cases v <;> first | exact nos h | (cases h; rfl)
noncomputable def two {α β:Type} (f:LV->Option α) (a b:LV) (g:α->α->Option β):Option β:=(f a).bind fun i=>(f b).bind fun j=>g i j
theorem Za6 {α β:Type} {f:LV->Option α} {a b:LV} {g:α->α->Option β} {c:β} (h:two f a b g=some c):∃ i j,f a=some i/\f b=some j/\g i j=some c:=by
 refine Ze (bnd h) fun i x h=>?_
 refine Ze (bnd h) fun j y h=>?_
 exact ⟨i,j,x,y,h⟩
noncomputable def Zie (vs:List LV):Option LV:=match vs with
 | []=>none
 | v::r=>match r with
  | []=>some v
  | _::_=>none
theorem Za4 {vs:List LV} {v:LV} (h:Zie vs=some v):vs=[v]:=by
 cases vs with
 | nil=>exact nos h
 | cons a r=>cases r with
  | nil=>obtain rfl:=Option.some.inj h; rfl
  | cons _ _=>exact nos h
noncomputable def pr2 (vs:List LV):Option (LV × LV):=match vs with
 | []=>none
 | v::r=>(Zie r).bind fun w=>some (v,w)
theorem Zqt {vs:List LV} {p:LV × LV} (h:pr2 vs=some p):vs=[p.1,p.2]:=by
 cases vs with
 | nil=>exact nos h
 | cons a r =>
  obtain ⟨w,e,h⟩:=bnd h
  obtain rfl:=Option.some.inj h
  rw [Za4 e]
noncomputable def ZdT (o:Operator) (σ:St) (a b:LV):Option LV :=
 match o with
 | .Add=>alt (two asI a b fun i j=>some (.int (i + j))) (sel (asT a) (fun xs=>(asT b).bind fun ys=>if xs.length + ys.length<=1000000 then some (.tup (xs++ys)) else .none)
  (two asL a b fun xs ys=>if xs.length + ys.length<=1000000 then some (.lst (xs++ys)) else .none))
 | .Sub=>alt (two asI a b fun i j=>some (.int (i - j))) (two asF a b fun xs ys=>some (.fset (xs.filter fun x=>!ys.contains x)))
 | .BitOr=>two asF a b fun xs ys=>some (.fset (xs++ys.filter fun y=>!xs.contains y))
 | .Mult=>two asI a b fun i j=>if i.natAbs < 2 ^ 62\/j.natAbs < 2 ^ 62 then some (.int (i * j)) else .none
 | .Mod=>two asI a b fun i j=>if 0 < j then some (.int (i.fmod j)) else .none
 | .FloorDiv=>two asI a b fun i j=>if 0 < j/\j < 2 ^ 30 then some (.int (i.fdiv j)) else .none
 | .Pow=>two asI a b fun i j=>if i=10/\j=18 then some (.int (10 ^ 18)) else .none
 | _=>.none
open Classical in
noncomputable def eqK (σ:St) (a b:LV):Option Bool:=if Zak a&&Zak b then some (decide (a=b)) else
 (Zaa σ a).bind fun xs=>(Zaa σ b).bind fun ys=>if ZA xs&&ZA ys then some (decide (xs=ys)) else .none
open Classical in
noncomputable def eqL (σ:St) (a b:LV):Option Bool:=sel (asF a) (fun xs=>sel (asF b) (fun ys=>some (decide (∀ x,x ∈ xs ↔ x ∈ ys))) (eqK σ a b)) (eqK σ a b)
theorem Zf3 {α β:Type} {o:Option β} {f:β->Option α} {p:Option α} {a:α} {X:Prop} (h:sel o f p=some a) (k:∀ x,o=some x->f x=some a->X) (l:o=none->p=some a->X):X:=by
 cases o with
 | none=>exact l rfl h
 | some b=>exact k b rfl h
noncomputable def isN (b:LV):Bool:=match b with
 | .none=>true
 | _=>false
noncomputable def nul (b:LV) (x:Option Bool):Option Bool:=if isN b then x else none
theorem ZiX {b:LV} {x:Option Bool} {c:Bool} (h:nul b x=some c):b=.none/\x=some c:=by cases b <;> first | exact nos h | exact ⟨rfl,h⟩
noncomputable def Zgx (σ:St) (c:LV):Option (List (LV × LV)):=match c with
 | .ref r=>match σ r with
  | some (.dict es)=>some es
  | _=>none
 | _=>none
noncomputable def ZiG (σ:St) (c:LV):Option (List (Int × LV)):=match c with
 | .ref r=>match σ r with
  | some (.idict es)=>some es
  | _=>none
 | _=>none
theorem Ziw {σ:St} {c:LV} {es:List (LV × LV)} (h:Zgx σ c=some es):∃ r,c=.ref r/\σ r=some (.dict es):=by
 cases c with
 | ref r =>
  refine ⟨r,rfl,?_⟩
  revert h
  show (match σ r with | some (.dict es)=>some es | _=>none)=some es->_
  cases σ r with
  | none=>exact fun h=>nos h
  | some o=>cases o with
   | dict e=>exact fun h=>by rw [Option.some.inj h]
   | _=>exact fun h=>nos h
 | _=>exact nos h
theorem ZgP {σ:St} {c:LV} {es:List (Int × LV)} (h:ZiG σ c=some es):∃ r,c=.ref r/\σ r=some (.idict es):=by
 cases c with
 | ref r =>
  refine ⟨r,rfl,?_⟩
  revert h
  show (match σ r with | some (.idict es)=>some es | _=>none)=some es->_
  cases σ r with
  | none=>exact fun h=>nos h
  | some o=>cases o with
   | idict e=>exact fun h=>by rw [Option.some.inj h]
   | _=>exact fun h=>nos h
 | _=>exact nos h
theorem Ziv {σ:St} {r:Addr} {es:List (LV × LV)} (h:σ r=some (.dict es)):Zgx σ (.ref r)=some es:=by
 show (match σ r with | some (.dict es)=>some es | _=>none)=_
 rw [h]
theorem ZgO {σ:St} {r:Addr} {es:List (Int × LV)} (h:σ r=some (.idict es)):ZiG σ (.ref r)=some es:=by
 show (match σ r with | some (.idict es)=>some es | _=>none)=_
 rw [h]
theorem Zek {σ:St} {r:Addr} {xs:List LV} (h:σ r=some (.list xs)):Zaa σ (.ref r)=some xs:=by
 show (match σ r with | some (.list vs)=>some vs | _=>none)=_
 rw [h]
theorem Zc5 {σ:St} {r:Addr} {o:LO} (h:σ r=some o) (n:∀ xs,o ≠ .list xs):Zaa σ (.ref r)=none:=by
 show (match σ r with | some (.list vs)=>some vs | _=>none)=_
 rw [h]
 cases o with
 | list xs=>exact absurd rfl (n xs)
 | _=>rfl
theorem Zl4 {α:Type} {o p:Option α} {a:α} (h:o=some a):alt o p=some a:=by rw [h]; rfl
theorem ZpA {α:Type} {o p:Option α} (h:o=none):alt o p=p:=by rw [h]; rfl
open Classical in
noncomputable def inL (σ:St) (a c:LV):Option Bool :=
 alt ((alt (asT c) (Zaa σ c)).bind fun vs=>if Zak a&&ZA vs then some (decide (a ∈ vs)) else .none)
  (alt ((asF c).bind fun xs=>(asI a).bind fun i=>some (decide (i ∈ xs)))
   (alt ((Zgx σ c).bind fun es=>if ZaL a then some (decide (a ∈ es.map (·.1))) else .none) ((ZiG σ c).bind fun es=>(asI a).bind fun i=>some (decide (i ∈ es.map (·.1))))))
open Classical in
theorem ZhU {σ:St} {a:LV} {r:Addr} {vs:List LV} (h:σ r=some (.list vs)) (h1:(Zak a&&ZA vs)=true):inL σ a (.ref r)=some (decide (a ∈ vs)):=by
 refine Zl4 ?_
 show (Zaa σ (.ref r)).bind _=_
 rw [Zek h]
 exact if_pos h1
open Classical in
theorem Zmz {σ:St} {a:LV} {r:Addr} {es:List (LV × LV)} (h:σ r=some (.dict es)) (h1:ZaL a=true):inL σ a (.ref r)=some (decide (a ∈ es.map (·.1))):=by
 refine (ZpA ?_).trans ?_
 ·show (Zaa σ (.ref r)).bind _=_
  rw [Zc5 h nofun]; rfl
 ·show alt (Option.bind (Zgx σ (.ref r)) _) _=_
  rw [Ziv h]
  exact Zl4 (if_pos h1)
open Classical in
theorem ZkL {σ:St} {i:Int} {r:Addr} {es:List (Int × LV)} (h:σ r=some (.idict es)):inL σ (.int i) (.ref r)=some (decide (i ∈ es.map (·.1))):=by
 refine (ZpA ?_).trans ?_
 ·show (Zaa σ (.ref r)).bind _=_
  rw [Zc5 h nofun]; rfl
 ·have e:Zgx σ (.ref r)=none:=by
   show (match σ r with | some (.dict es)=>some es | _=>none)=_
   rw [h]
  show alt (Option.bind (Zgx σ (.ref r)) _) _=_
  rw [e,ZgO h]; rfl
open Classical in
noncomputable def isNone (a:LV):Bool:=match a with | .none=>true | _=>false
open Classical in
noncomputable def ZbN (o:CmpOp) (σ:St) (a b:LV):Option Bool :=
 match o with
 | .Eq=>eqL σ a b
 | .NotEq=>(eqL σ a b).map (!·)
 | .Lt=>two asI a b fun i j=>some (decide (i < j))
 | .LtE=>two asI a b fun i j=>some (decide (i<=j))
 | .Gt=>two asI a b fun i j=>some (decide (j < i))
 | .GtE=>two asI a b fun i j=>some (decide (j<=i))
 | .Is=>nul b (some (isNone a))
 | .IsNot=>nul b (some (!isNone a))
 | .In=>inL σ a b
 | .NotIn=>(inL σ a b).map (!·)
noncomputable def Zeu (vs:List LV) (i:Int):Option LV:=if 0<=i/\i<=1000000 then vs[i.toNat]? else .none
open Classical in
noncomputable def Zdt (k:LV):List (LV × LV)->Option LV
 | []=>.none
 | (x,v)::r=>if k=x then some v else Zdt k r
open Classical in
theorem ZcT (k x v r):Zdt k ((x,v)::r)=if k=x then some v else Zdt k r:=rfl
open Classical in
noncomputable def Zh6 (k u:LV):List (LV × LV)->List (LV × LV)
 | []=>[(k,u)]
 | (x,v)::r=>if k=x then (x,u)::r else (x,v)::Zh6 k u r
open Classical in
theorem Zi8 (k u x v r):Zh6 k u ((x,v)::r)=if k=x then (x,u)::r else (x,v)::Zh6 k u r:=rfl
noncomputable def Za3 (k:Int):List (Int × LV)->Option LV
 | []=>.none
 | (x,v)::r=>if k=x then some v else Za3 k r
theorem ZbR (k x v r):Za3 k ((x,v)::r)=if k=x then some v else Za3 k r:=rfl
noncomputable def Zhu (k:Int) (u:LV):List (Int × LV)->List (Int × LV)
 | []=>[(k,u)]
 | (x,v)::r=>if k=x then (x,u)::r else (x,v)::Zhu k u r
theorem Zlt (k u x v r):Zhu k u ((x,v)::r)=if k=x then (x,u)::r else (x,v)::Zhu k u r:=rfl
noncomputable def Zge (σ:St) (a i:LV):Option LV:=sel (alt (asT a) (Zaa σ a)) (fun vs=>(asI i).bind fun k=>Zeu vs k)
 (sel (Zgx σ a) (fun es=>if ZaL i then Zdt i es else .none) ((ZiG σ a).bind fun es=>(asI i).bind fun k=>Za3 k es))
theorem Zhm {σ:St} {r:Addr} {es:List (LV × LV)} {i:LV} (h:σ r=some (.dict es)) (t:ZaL i=true):Zge σ (.ref r) i=Zdt i es:=by
 unfold Zge
 rw [show alt (asT (.ref r)) (Zaa σ (.ref r))=none from Zc5 h nofun,Ziv h]
 exact if_pos t
theorem ZjO {σ:St} {r:Addr} {es:List (Int × LV)} {i:Int} (h:σ r=some (.idict es)):Zge σ (.ref r) (.int i)=Za3 i es:=by
 unfold Zge
 rw [show alt (asT (.ref r)) (Zaa σ (.ref r))=none from Zc5 h nofun,show Zgx σ (.ref r)=none by
  show (match σ r with | some (.dict es)=>some es | _=>none)=_
  rw [h],ZgO h]
 rfl
noncomputable def Zid (a i:LV):Option LV:=(asT a).bind fun vs=>(asI i).bind fun k =>
 if vs.length<=1000000 then (if 0<=k/\k<=1000000 then some (.tup (vs.take k.toNat)) else if k=-1 then some (.tup (vs.take (vs.length - 1))) else .none) else .none
set_option genCtorIdx true in
inductive Bi where
 | len_ | range_ | list_ | tuple_ | frozenset_ | max_ | int_ | sorted_
noncomputable def ZbC:List LV->Option (List Int)
 | []=>some []
 | v::r=>(asI v).bind fun i=>(ZbC r).map (i::·)
noncomputable def ZdF (i:Int):List Int->List Int
 | []=>[i]
 | j::r=>if i < j then i::j::r else j::ZdF i r
theorem ZfC (i j r):ZdF i (j::r)=if i < j then i::j::r else j::ZdF i r:=rfl
noncomputable def ZbX:List Int->List Int
 | []=>[]
 | i::r=>ZdF i (ZbX r)
theorem ZjL (i r):ZbX (i::r)=ZdF i (ZbX r):=rfl
noncomputable def Zed:List Int->List Int
 | []=>[]
 | i::r=>let q:=Zed r; if q.contains i then q else i::q
theorem ZhF (i r):Zed (i::r)=if (Zed r).contains i then Zed r else i::Zed r:=rfl
noncomputable def biL (b:Bi) (σ:St) (vs:List LV):Option LV :=
 match b with
 | .len_=>(Zie vs).bind fun v=>(alt (asT v) (Zaa σ v)).bind fun xs=>if xs.length<=1000000 then some (.int xs.length) else .none
 | .range_=>(Zie vs).bind fun v=>(asI v).bind fun n=>if 0<=n/\n<=1000000 then some (.rng n.toNat) else .none
 | .list_=>(Zie vs).bind fun v=>(alt (asT v) (asL v)).bind fun xs=>if xs.length<=1000000 then some (.lst xs) else .none
 | .tuple_=>(Zie vs).bind fun v=>(asT v).bind fun xs=>some (.tup xs)
 | .frozenset_=>match vs with
  | []=>some (.fset [])
  | v::r=>(Zie (v::r)).bind fun v=>(asL v).bind fun xs=>(ZbC xs).bind fun is=>if is.length<=1000/\(is.all fun i=>decide (0<=i)&&decide (i < 64))=true then some (.fset (Zed is)) else .none
 | .max_=>(pr2 vs).bind fun p=>two asI p.1 p.2 fun i j=>some (.int (max i j))
 | .int_=>(Zie vs).bind fun v=>(asB v).bind fun b=>some (.int (if b then 1 else 0))
 | .sorted_=>(Zie vs).bind fun v=>(Zaa σ v).bind fun xs=>(ZbC xs).bind fun is=>if is.length < 64 then some (.lst ((ZbX is).map .int)) else .none
set_option genCtorIdx true in
inductive LM where
 | append | extend | pop | index
open Classical in
noncomputable def Zmx (v:LV):List LV->Option Nat
 | []=>.none
 | x::r=>if x=v then some 0 else (Zmx v r).map (· + 1)
open Classical in
theorem ZnC (v x r):Zmx v (x::r)=if x=v then some 0 else (Zmx v r).map (· + 1):=rfl
noncomputable def Znb (σ:St) (ov:LV):Option (Addr × List LV):=match ov with
 | .ref a=>match σ a with
  | some (.list xs)=>some (a,xs)
  | _=>none
 | _=>none
theorem Zh9 {σ:St} {ov:LV} {p:Addr × List LV} (h:Znb σ ov=some p):ov=.ref p.1/\σ p.1=some (.list p.2):=by
 cases ov with
 | ref a =>
  revert h
  show (match σ a with | some (.list xs)=>some (a,xs) | _=>none)=some p->_
  cases e:σ a with
  | none=>exact fun h=>nos h
  | some o=>cases o with
   | list xs=>exact fun h=>by obtain rfl:=Option.some.inj h; exact ⟨rfl,e⟩
   | _=>exact fun h=>nos h
 | _=>exact nos h
theorem ZfZ {σ:St} {a:Addr} {xs:List LV} (h:σ a=some (.list xs)):Znb σ (.ref a)=some (a,xs):=by
 show (match σ a with | some (.list xs)=>some (a,xs) | _=>none)=_
 rw [h]
noncomputable def lmL (m:LM) (ov:LV) (vs:List LV) (Q:LV->St->Prop) (σ:St):Prop :=
 match m with
 | .append=>ZC (Zie vs) fun v=>ZC (Znb σ ov) fun p=>p.2.length<=1000000/\Q .none (upd σ p.1 (some (.list (p.2++[v]))))
 | .extend=>ZC (Zie vs) fun v=>ZC (Znb σ ov) fun p=>ZC (Zaa σ v) fun ys=>p.2.length + ys.length<=1000000/\v ≠ .ref p.1/\Q .none (upd σ p.1 (some (.list (p.2++ys))))
 | .pop=>vs=[]/\ZC (Znb σ ov) fun p=>p.2.length<=1000000/\∃ ys y,p.2=ys++[y]/\Q y (upd σ p.1 (some (.list ys)))
 | .index=>ZC (Zie vs) fun v=>ZC (Zaa σ ov) fun xs=>Zak v=true/\ZA xs=true/\xs.length<=1000000/\ZC (Zmx v xs) fun i=>Q (.int (i:Int)) σ
inductive Tg where
 | nm (x:Nat)
 | tp (xs:List Nat)
noncomputable def Zay:List Nat->List LV->Env->Option Env
 | [],[],ρ=>some ρ
 | x::xs,v::vs,ρ=>Zay xs vs (Zm ρ x v)
 | _,_,_=>.none
noncomputable def Z0 (t:Tg) (v:LV) (ρ:Env):Option Env :=
 match t with
 | .nm x=>some (Zm ρ x v)
 | .tp xs=>match v with
  | .tup vs=>Zay xs vs ρ
  | .lst vs=>Zay xs vs ρ
  | _=>.none
inductive LE where
 | k (v:LV)
 | v (x:Nat)
 | g (x:Nat)
 | bin (o:Operator) (l r:LE)
 | neg (i:Nat)
 | cmp (o:CmpOp) (l r:LE)
 | chain (l:LE) (o₁:CmpOp) (m:LE) (o₂:CmpOp) (r:LE)
 | bool (and:Bool) (l r:LE)
 | not (e:LE)
 | ite (t a b:LE)
 | tup (es:List LE)
 | lst (es:List LE)
 | lstR (es:List LE)
 | dictR (byInt:Bool)
 | repR (l n:LE)
 | attr (e:LE) (x:Nat)
 | sub (e i:LE)
 | slc (e i:LE)
 | call (f:LE) (as:List LE)
 | meth (o:LE) (x:Nat) (as:List LE)
 | lm (o:LE) (m:LM) (as:List LE)
 | bi (b:Bi) (as:List LE)
 | srt (e f:LE)
 | comp (tr:Bool) (fv:List Nat) (elt:LE) (t:Tg) (it:LE) (c:Option LE)
 | comp2 (tr:Bool) (fv:List Nat) (elt:LE) (t:Tg) (it:LE) (t₂:Tg) (it₂:LE)
 | frz (e:LE)
 | stuck
inductive LS where
 | expr (e:LE)
 | asg (t:Tg) (e:LE)
 | asgA (o:LE) (x:Nat) (e:LE)
 | asgI (o i:LE) (e:LE)
 | aug (x:Nat) (o:Operator) (e:LE)
 | ret (e:LE)
 | ifs (t:LE) (a b:List LS)
 | whl (t:LE) (b:List LS)
 | for_ (t:Tg) (e:LE) (b:List LS)
 | stuck
inductive Fl where
 | next
 | ret (v:LV)
structure Tab where
 glob:Nat->Option LV
 meth:Nat->Nat->Option Nat
 init:Nat->Option Nat
 fields:Nat->List Nat
noncomputable abbrev Cal:=Nat->List LV->(LV->St->Prop)->St->Prop
noncomputable def Zja:List Nat->List LV->Nat->Option LV
 | x::xs,v::vs,y=>if y=x then some v else Zja xs vs y
 | _,_,_=>.none
noncomputable def ZmA {α:Type} (σ:St) (o:LV) (f:Addr->Nat->Addr->Env->Option α):Option α:=match o with
 | .ref a=>match σ a with
  | some (.inst c d)=>match σ d with
   | some (.ns fs)=>f a c d fs
   | _=>none
  | _=>none
 | _=>none
theorem ZkR {α:Type} {σ:St} {o:LV} {f:Addr->Nat->Addr->Env->Option α} {r:α} {X:Prop} (h:ZmA σ o f=some r) (k:∀ a c d fs,o=.ref a->σ a=some (.inst c d)->σ d=some (.ns fs)->f a c d fs=some r->X):X:=by
 cases o with
 | ref a =>
  revert h
  show (match σ a with | some (.inst c d)=>(match σ d with | some (.ns fs)=>f a c d fs | _=>none) | _=>none)=some r->_
  cases ea:σ a with
  | none=>exact fun h=>nos h
  | some oo=>cases oo with
   | inst c d =>
    show (match σ d with | some (.ns fs)=>f a c d fs | _=>none)=some r->_
    cases ed:σ d with
    | none=>exact fun h=>nos h
    | some od=>cases od with
     | ns fs=>exact fun h=>k a c d fs rfl ea ed h
     | _=>exact fun h=>nos h
   | _=>exact fun h=>nos h
 | _=>exact nos h
theorem ZfD {α:Type} {σ:St} {a:Addr} {c:Nat} {d:Addr} {fs:Env} {f:Addr->Nat->Addr->Env->Option α} (ha:σ a=some (.inst c d)) (hd:σ d=some (.ns fs)):ZmA σ (.ref a) f=f a c d fs:=by
 show (match σ a with | some (.inst c d)=>(match σ d with | some (.ns fs)=>f a c d fs | _=>none) | _=>none)=_
 rw [ha]
 show (match σ d with | some (.ns fs)=>f a c d fs | _=>none)=_
 rw [hd]
noncomputable def ZrJ {α:Type} (o:LV) (f:Nat->List LV->Option α) (e:Option α):Option α:=match o with
 | .rcd c vs=>f c vs
 | _=>e
theorem ZnP {α:Type} {o:LV} {f:Nat->List LV->Option α} {e:Option α} {r:α} {X:Prop} (h:ZrJ o f e=some r) (k:∀ c vs,o=.rcd c vs->f c vs=some r->X) (l:e=some r->X):X:=by
 cases o with
 | rcd c vs=>exact k c vs rfl h
 | _=>exact l h
noncomputable def ZdO (T:Tab) (σ:St) (o:LV) (x:Nat):Option LV :=
 ZrJ o (fun c vs=>sel (T.meth c x) (fun _=>none) (Zja (T.fields c) vs x))
  (ZmA σ o fun a c d fs=>sel (T.meth c x) (fun f=>sel (Zo fs x) (fun _=>none) (some (.bm f (.ref a)))) (Zo fs x))
noncomputable def Zao (T:Tab) (σ:St) (o:LV) (x:Nat):Option Nat :=
 ZrJ o (fun c _=>if (T.fields c).contains x then .none else T.meth c x) (ZmA σ o fun a c d fs=>sel (Zo fs x) (fun _=>none) (T.meth c x))
noncomputable def Zeb (T:Tab) (C:Cal) (fv:LV) (vs:List LV) (Q:LV->St->Prop) (σ:St):Prop :=
 match fv with
 | .fn f=>C f vs Q σ
 | .bm f u=>C f (u::vs) Q σ
 | .cls c=>ZC (T.init c) fun f=>∀ a d,σ a=.none->σ d=.none->a ≠ d->
   C f (.ref a::vs) (fun r σ'=>r=.none/\Q (.ref a) σ') (upd (upd σ d (some (.ns []))) a (some (.inst c d)))
 | _=>False
noncomputable def ZoW:List Nat->Env->Option (List LV)
 | [],_=>some []
 | x::xs,fs=>(Zo fs x).bind fun v=>(ZoW xs fs).map (v::·)
noncomputable def Zgb (T:Tab) (v:LV) (Q:LV->St->Prop) (σ:St):Prop :=
 match v with
 | .ref a=>match σ a with
  | some (.list vs)=>Q (.lst vs) (upd σ a .none)
  | some (.inst c d)=>match σ d with
   | some (.ns fs)=>fs.map (·.1)=T.fields c/\ZC (ZoW (T.fields c) fs) fun vs=>Q (.rcd c vs) (upd (upd σ a .none) d .none)
   | _=>False
  | _=>False
 | _=>False
noncomputable def ZgV (C:Cal) (f:Nat):List LV->(List Int->St->Prop)->St->Prop
 | [],Q,σ=>Q [] σ
 | x::xs,Q,σ=>C f [x] (fun r σ₁=>match r with
   | .int i=>ZgV C f xs (fun is σ₂=>Q (i::is) σ₂) σ₁
   | _=>False) σ
noncomputable def ZaH (body:LV->(List LV->St->Prop)->St->Prop):List LV->List LV->(List LV->St->Prop)->St->Prop
 | [],acc,Q,σ=>Q acc σ
 | x::xs,acc,Q,σ=>body x (fun ys σ₁=>ZaH body xs (acc++ys) Q σ₁) σ
noncomputable def ZcO (fv:List Nat) (ρ:Env):Option Env :=
 match fv with
 | []=>some []
 | x::xs=>(Zo ρ x).bind fun v=>(ZcO xs ρ).map ((x,v)::·)
theorem ZfA (x xs ρ):ZcO (x::xs) ρ=(Zo ρ x).bind fun v=>(ZcO xs ρ).map ((x,v)::·):=rfl
noncomputable def ZeV (tr:Bool) (Q:LV->St->Prop) (vs:List LV) (σ:St):Prop :=
 match tr with
 | true=>∀ a,σ a=.none->Q (.ref a) (upd σ a (some (.list vs)))
 | false=>Q (.lst vs) σ
mutual
noncomputable def wpE (T:Tab) (C:Cal):LE->Env->(LV->St->Prop)->St->Prop
 | .k v,_,Q,σ=>Q v σ
 | .v x,ρ,Q,σ=>ZC (Zo ρ x) fun u=>Q u σ
 | .g x,_,Q,σ=>ZC (T.glob x) fun u=>Q u σ
 | .bin o l r,ρ,Q,σ=>wpE T C l ρ (fun a σ₁=>wpE T C r ρ (fun b σ₂=>ZC (ZdT o σ₂ a b) fun c=>Q c σ₂) σ₁) σ
 | .neg i,_,Q,σ=>Q (.int (-(i:Int))) σ
 | .cmp o l r,ρ,Q,σ=>wpE T C l ρ (fun a σ₁=>wpE T C r ρ (fun b σ₂=>ZC (ZbN o σ₂ a b) fun c=>Q (.bool c) σ₂) σ₁) σ
 | .chain l o₁ m o₂ r,ρ,Q,σ=>wpE T C l ρ (fun a σ₁=>wpE T C m ρ (fun b σ₂=>ZC (ZbN o₁ σ₂ a b) fun c =>
   match c with
   | true=>wpE T C r ρ (fun d σ₃=>ZC (ZbN o₂ σ₃ b d) fun c₂=>Q (.bool c₂) σ₃) σ₂
   | false=>Q (.bool false) σ₂) σ₁) σ
 | .bool an l r,ρ,Q,σ=>wpE T C l ρ (fun a σ₁=>match a with
   | .bool b=>(b=an->wpE T C r ρ (fun c σ₂=>match c with | .bool c=>Q (.bool c) σ₂ | _=>False) σ₁)/\(b ≠ an->Q (.bool b) σ₁)
   | _=>False) σ
 | .not e,ρ,Q,σ=>wpE T C e ρ (fun a σ₁=>match a with | .bool b=>Q (.bool (!b)) σ₁ | _=>False) σ
 | .ite t a b,ρ,Q,σ=>wpE T C t ρ (fun c σ₁=>match c with
   | .bool x=>(x=true->wpE T C a ρ Q σ₁)/\(x=false->wpE T C b ρ Q σ₁)
   | _=>False) σ
 | .tup es,ρ,Q,σ=>Zcs T C es ρ (fun vs σ₁=>Q (.tup vs) σ₁) σ
 | .lst es,ρ,Q,σ=>Zcs T C es ρ (fun vs σ₁=>Q (.lst vs) σ₁) σ
 | .lstR es,ρ,Q,σ=>Zcs T C es ρ (fun vs σ₁=>ZeV true Q vs σ₁) σ
 | .dictR byInt,_,Q,σ=>∀ a,σ a=.none->Q (.ref a) (upd σ a (some (match byInt with | true=>.idict [] | false=>.dict [])))
 | .repR l n,ρ,Q,σ=>wpE T C l ρ (fun a σ₁=>wpE T C n ρ (fun b σ₂=>ZC (asL a) fun l=>ZC (Zie l) fun x=>ZC (asI b) fun i=>0<=i/\i<=1000000/\ZeV true Q (List.replicate i.toNat x) σ₂) σ₁) σ
 | .attr e x,ρ,Q,σ=>wpE T C e ρ (fun o σ₁=>ZC (ZdO T σ₁ o x) fun u=>Q u σ₁) σ
 | .sub e i,ρ,Q,σ=>wpE T C e ρ (fun a σ₁=>wpE T C i ρ (fun b σ₂=>ZC (Zge σ₂ a b) fun c=>Q c σ₂) σ₁) σ
 | .slc e i,ρ,Q,σ=>wpE T C e ρ (fun a σ₁=>wpE T C i ρ (fun b σ₂=>ZC (Zid a b) fun c=>Q c σ₂) σ₁) σ
 | .call f as,ρ,Q,σ=>wpE T C f ρ (fun fv σ₁=>Zcs T C as ρ (fun vs σ₂=>Zeb T C fv vs Q σ₂) σ₁) σ
 | .meth o x as,ρ,Q,σ=>wpE T C o ρ (fun ov σ₁=>ZC (Zao T σ₁ ov x) fun f=>Zcs T C as ρ (fun vs σ₂=>C f (ov::vs) Q σ₂) σ₁) σ
 | .lm o m as,ρ,Q,σ=>wpE T C o ρ (fun ov σ₁=>ZC (Zaa σ₁ ov) fun _=>Zcs T C as ρ (fun vs σ₂=>lmL m ov vs Q σ₂) σ₁) σ
 | .bi b as,ρ,Q,σ=>Zcs T C as ρ (fun vs σ₁=>ZC (biL b σ₁ vs) fun c=>Q c σ₁) σ
 | .srt e f,ρ,Q,σ=>wpE T C e ρ (fun a σ₁=>wpE T C f ρ (fun fv σ₂=>match a,fv with
   | .lst xs,.fn g=>xs.length < 64/\ZgV C g xs (fun is σ₃=>is.Pairwise (·<=·)/\Q (.lst xs) σ₃) σ₂
   | _,_=>False) σ₁) σ
 | .comp tr fv elt t it c,ρ,Q,σ=>wpE T C it ρ (fun iv σ₁=>ZC (ZaD iv) fun xs=>ZC (ZcO fv ρ) fun ρc =>
   xs.length<=100000/\ZaH (fun x K σ₂=>ZC (Z0 t x ρc) fun ρx=>wpC T C c ρx (fun b σ₃ =>
    match b with
    | true=>wpE T C elt ρx (fun u σ₄=>K [u] σ₄) σ₃
    | false=>K [] σ₃) σ₂) xs [] (ZeV tr Q) σ₁) σ
 | .comp2 tr fv elt t it t₂ it₂,ρ,Q,σ=>wpE T C it ρ (fun iv σ₁=>ZC (ZaD iv) fun xs=>ZC (ZcO fv ρ) fun ρc =>
   xs.length<=1000/\ZaH (fun x K σ₂=>ZC (Z0 t x ρc) fun ρx=>wpE T C it₂ ρx (fun jv σ₃=>ZC (ZaD jv) fun ys =>
    ys.length<=1000/\ZaH (fun y K₂ σ₄=>ZC (Z0 t₂ y ρx) fun ρy=>wpE T C elt ρy (fun u σ₅=>K₂ [u] σ₅) σ₄) ys [] K σ₃) σ₂) xs [] (ZeV tr Q) σ₁) σ
 | .frz e,ρ,Q,σ=>wpE T C e ρ (fun v σ₁=>Zgb T v Q σ₁) σ
 | .stuck,_,_,_=>False
noncomputable def Zcs (T:Tab) (C:Cal):List LE->Env->(List LV->St->Prop)->St->Prop
 | [],_,Q,σ=>Q [] σ
 | e::es,ρ,Q,σ=>wpE T C e ρ (fun v σ₁=>Zcs T C es ρ (fun vs σ₂=>Q (v::vs) σ₂) σ₁) σ
noncomputable def wpC (T:Tab) (C:Cal):Option LE->Env->(Bool->St->Prop)->St->Prop
 | .none,_,Q,σ=>Q true σ
 | some e,ρ,Q,σ=>wpE T C e ρ (fun v σ₁=>match v with | .bool b=>Q b σ₁ | _=>False) σ
end
noncomputable def Zpo (test:Env->(Bool->St->Prop)->St->Prop) (body:Env->(Fl->Env->St->Prop)->St->Prop):Nat->Env->(Fl->Env->St->Prop)->St->Prop
 | 0,_,_,_=>False
 | n + 1,ρ,Q,σ=>test ρ (fun b σ₁=>match b with
   | true=>body ρ (fun fl ρ₂ σ₂=>match fl with
    | .next=>Zpo test body n ρ₂ Q σ₂
    | .ret v=>Q (.ret v) ρ₂ σ₂) σ₁
   | false=>Q .next ρ σ₁) σ
noncomputable def Ze6 (t:Tg) (body:Env->(Fl->Env->St->Prop)->St->Prop):List LV->Env->(Fl->Env->St->Prop)->St->Prop
 | [],ρ,Q,σ=>Q .next ρ σ
 | x::xs,ρ,Q,σ=>ZC (Z0 t x ρ) fun ρ₁=>body ρ₁ (fun fl ρ₂ σ₂=>match fl with
   | .next=>Ze6 t body xs ρ₂ Q σ₂
   | .ret v=>Q (.ret v) ρ₂ σ₂) σ
noncomputable def wpB (T:Tab) (C:Cal) (e:LE) (ρ:Env) (Q:Bool->St->Prop) (σ:St):Prop :=
 wpE T C e ρ (fun v σ₁=>match v with | .bool b=>Q b σ₁ | _=>False) σ
mutual
noncomputable def wpS (T:Tab) (C:Cal):LS->Env->(Fl->Env->St->Prop)->St->Prop
 | .expr e,ρ,Q,σ=>wpE T C e ρ (fun _ σ₁=>Q .next ρ σ₁) σ
 | .asg t e,ρ,Q,σ=>wpE T C e ρ (fun v σ₁=>ZC (Z0 t v ρ) fun ρ₁=>Q .next ρ₁ σ₁) σ
 | .asgA o x e,ρ,Q,σ=>wpE T C e ρ (fun v σ₁=>wpE T C o ρ (fun ov σ₂=>match ov with
   | .ref a=>match σ₂ a with
    | some (.inst c d)=>match σ₂ d with
     | some (.ns fs)=>T.meth c x=.none/\fs.length<=1000/\Q .next ρ (upd σ₂ d (some (.ns (Zm fs x v))))
     | _=>False
    | _=>False
   | _=>False) σ₁) σ
 | .asgI o i e,ρ,Q,σ=>wpE T C e ρ (fun v σ₁=>wpE T C o ρ (fun ov σ₂=>wpE T C i ρ (fun iv σ₃=>match ov with
   | .ref a=>match σ₃ a with
    | some (.list vs)=>match iv with
     | .int k=>0<=k/\k < vs.length/\k<=1000000/\Q .next ρ (upd σ₃ a (some (.list (vs.set k.toNat v))))
     | _=>False
    | some (.dict es)=>ZaL iv=true/\es.length<=1000000/\Q .next ρ (upd σ₃ a (some (.dict (Zh6 iv v es))))
    | some (.idict es)=>match iv with
     | .int k=>es.length<=1000000/\Za3 k es=.none/\Q .next ρ (upd σ₃ a (some (.idict (Zhu k v es))))
     | _=>False
    | _=>False
   | _=>False) σ₂) σ₁) σ
 | .aug x o e,ρ,Q,σ=>ZC (Zo ρ x) fun a=>wpE T C e ρ (fun b σ₁=>ZC (asI a) fun _=>ZC (asI b) fun _=>ZC (ZdT o σ₁ a b) fun c=>Q .next (Zm ρ x c) σ₁) σ
 | .ret e,ρ,Q,σ=>wpE T C e ρ (fun v σ₁=>Q (.ret v) ρ σ₁) σ
 | .ifs t a b,ρ,Q,σ=>wpB T C t ρ (fun c σ₁=>(c=true->ZJ T C a ρ Q σ₁)/\(c=false->ZJ T C b ρ Q σ₁)) σ
 | .whl t b,ρ,Q,σ=>∃ n,Zpo (fun ρ Q σ=>wpB T C t ρ Q σ) (fun ρ Q σ=>ZJ T C b ρ Q σ) n ρ Q σ
 | .for_ t e b,ρ,Q,σ=>wpE T C e ρ (fun v σ₁=>ZC (ZaD v) fun xs=>Ze6 t (fun ρ Q σ=>ZJ T C b ρ Q σ) xs ρ Q σ₁) σ
 | .stuck,_,_,_=>False
noncomputable def ZJ (T:Tab) (C:Cal):List LS->Env->(Fl->Env->St->Prop)->St->Prop
 | [],ρ,Q,σ=>Q .next ρ σ
 | s::r,ρ,Q,σ=>wpS T C s ρ (fun fl ρ₁ σ₁=>match fl with
   | .next=>ZJ T C r ρ₁ Q σ₁
   | .ret v=>Q (.ret v) ρ₁ σ₁) σ
end
structure Fn where
 params:List Nat
 dflts:List LV
 body:List LS
noncomputable def Zjl (fd:Fn) (vs:List LV):Option Env :=
 if vs.length<=fd.params.length/\fd.params.length<=vs.length + fd.dflts.length then
  Zay fd.params (vs++fd.dflts.drop (fd.dflts.length - (fd.params.length - vs.length))) []
 else .none
noncomputable def Zhr (T:Tab) (fns:Nat->Option Fn):Nat->Cal
 | 0=>fun _ _ _ _=>False
 | n + 1=>fun f vs Q σ=>ZC (fns f) fun fd=>ZC (Zjl fd vs) fun ρ =>
   ZJ T (Zhr T fns n) fd.body ρ (fun fl _ σ₁=>match fl with
    | .ret v=>Q v σ₁
    | .next=>Q .none σ₁) σ
end
section
open PySem PySem.W PyProof.Rows PySem.Calls
set_option maxRecDepth 10000
structure Glo where
 prog:Program
 w:World
 h₁:Heap
 nm:Nat->Str
 nmInj:∀ i j,nm i=nm j->i=j
 nmOk:∀ k,PyData.strOk (nm k)=true
 T:Tab
 fns:Nat->Option Fn
 faddr:Nat->Addr
 caddr:Nat->Addr
noncomputable def Zpr (e:Int × Value):Prop:=∃ t,e.2=.int e.1 t
structure SetIn (es:Array (Int × Value)) (t:SetTable) (xs:List Int):Prop where
 ent:∀ e ∈ es.toList,Zpr e
 vals:(es.toList.map (·.1)).Perm xs
 nodup:xs.Nodup
 bnd:∀ i ∈ xs,0<=i/\i < 64
 fits:t.fits es.size=true
noncomputable def Zji (o:Obj) (xs:List Int):Prop :=
 o.cls=.type "frozenset"/\o.dict=none/\o.slots=#[]/\∃ es ep t,o.data=.set es ep t/\SetIn es t xs
noncomputable def Zhq (ws:Array Value) (n:Nat):Obj:={ cls:=.type "tuple",data:=.seq ws n }
noncomputable def Zdj (ws:Array Value) (n:Nat):Obj:={ cls:=.type "list",data:=.seq ws n }
mutual
noncomputable def Rep (G:Glo) (D:Addr->Prop) (h:Heap):LV->Value->Prop
 | .none,v=>v=.none
 | .bool b,v=>v=.bool b
 | .int i,v=>∃ t,v=.int i t
 | .w k,v=>∃ t,v=.str (G.nm k) t
 | .tup vs,v=>∃ a ws n,v=.ref a/\D a/\h.get? a=some (Zhq ws n)/\Zz G D h vs ws.toList
 | .lst vs,v=>∃ a ws n,v=.ref a/\D a/\h.get? a=some (Zdj ws n)/\Zz G D h vs ws.toList
 | .fset xs,v=>∃ a o,v=.ref a/\D a/\h.get? a=some o/\Zji o xs
 | .rng n,v=>∃ a t u k,v=.ref a/\D a/\IsRange h a 0 (n:Int) 1 t u k/\n<=1000000
 | .ref a,v=>v=.ref a
 | .rcd c vs,v=>∃ a d m,v=.ref a/\D a/\D d/\h.get? a=some (instObj (G.caddr c) d)/\(∃ es n,h.get? d=some { cls:=.type "dict",data:=.dict es n })/\h.Ns d m/\
   Zl2 G D h (G.T.fields c) vs m/\∀ y,(∀ x ∈ G.T.fields c,G.nm x ≠ y)->m y=none
 | .fn f,v=>v=.ref (G.faddr f)
 | .cls c,v=>v=.ref (G.caddr c)
 | .bm f u,v=>∃ a x,v=.ref a/\D a/\h.get? a=some { cls:=.type "method",data:=.fields #[.ref (G.faddr f),x] }/\Rep G D h u x
noncomputable def Zz (G:Glo) (D:Addr->Prop) (h:Heap):List LV->List Value->Prop
 | [],ws=>ws=[]
 | v::vs,ws=>∃ x r,ws=x::r/\Rep G D h v x/\Zz G D h vs r
noncomputable def Zl2 (G:Glo) (D:Addr->Prop) (h:Heap) (fs:List Nat):List LV->(Str->Option Value)->Prop
 | [],_=>fs=[]
 | v::vs,m=>∃ x r,fs=x::r/\(∃ u,m (G.nm x)=some u/\Rep G D h v u)/\Zl2 G D h r vs m
end
section
variable {G:Glo} {D D':Addr->Prop} {h h':Heap}
theorem Ns.moves {h h':Heap} {d:Addr} {m:Str->Option Value} (x:h.Ns d m) (k:∀ o,h.get? d=some o->h'.get? d=some o):h'.Ns d m:=by
 refine ZjU x fun o es ep ho r=>?_
 exact ⟨o,es,ep,k _ ho,r⟩
mutual
theorem Rep.mono (hk:∀ a o,h.get? a=some o->D a->D' a/\h'.get? a=some o):∀ {v:LV} {x:Value},Rep G D h v x->Rep G D' h' v x
 | .none,_,r=>by exact r
 | .bool _,_,r=>by exact r
 | .int _,_,r=>by exact r
 | .w _,_,r=>by exact r
 | .tup vs,_,r=>by
  refine ZnU r fun a ws n e d g q=>?_
  exact ⟨a,ws,n,e,(hk a _ g d).1,(hk a _ g d).2,Zz.mono hk q⟩
 | .lst vs,_,r=>by
  refine ZnU r fun a ws n e d g q=>?_
  exact ⟨a,ws,n,e,(hk a _ g d).1,(hk a _ g d).2,Zz.mono hk q⟩
 | .fset _,_,r=>by
  refine Zq4 r fun a o e d g q=>?_
  exact ⟨a,o,e,(hk a _ g d).1,(hk a _ g d).2,q⟩
 | .rng _,_,r=>by
  refine Zse r fun a t u k e d g b=>?_
  exact ⟨a,t,u,k,e,(hk a _ g d).1,(hk a _ g d).2,b⟩
 | .ref _,_,r=>by exact r
 | .rcd c vs,_,r=>by
  obtain ⟨a,d,m,e,da,dd,g,⟨es,n,hd⟩,ns,q,u⟩:=r
  exact ⟨a,d,m,e,(hk a _ g da).1,(hk d _ hd dd).1,(hk a _ g da).2,⟨es,n,(hk d _ hd dd).2⟩,Ns.moves ns fun o ho=>(hk d o ho dd).2,Zl2.mono hk q,u⟩
 | .fn _,_,r=>by exact r
 | .cls _,_,r=>by exact r
 | .bm f u,_,r=>by
  refine Zq4 r fun a x e da g q=>?_
  exact ⟨a,x,e,(hk a _ g da).1,(hk a _ g da).2,Rep.mono hk q⟩
theorem Zz.mono (hk:∀ a o,h.get? a=some o->D a->D' a/\h'.get? a=some o):∀ {vs:List LV} {xs:List Value},Zz G D h vs xs->Zz G D' h' vs xs
 | [],_,r=>by exact r
 | v::vs,_,r=>by
  refine ZaM r fun x q e r1 r2=>?_
  exact ⟨x,q,e,Rep.mono hk r1,Zz.mono hk r2⟩
theorem Zl2.mono (hk:∀ a o,h.get? a=some o->D a->D' a/\h'.get? a=some o):∀ {vs:List LV} {fs:List Nat} {m:Str->Option Value},Zl2 G D h fs vs m->Zl2 G D' h' fs vs m
 | [],_,_,r=>by exact r
 | v::vs,_,_,r=>by
  refine ZaM r fun x q e hN0_3 r2=>?_; obtain ⟨u,hu,r1⟩:=hN0_3
  exact ⟨x,q,e,⟨u,hu,Rep.mono hk r1⟩,Zl2.mono hk r2⟩
end
theorem Zz.length:∀ {vs:List LV} {xs:List Value},Zz G D h vs xs->xs.length=vs.length
 | [],_,r=>by subst r; rfl
 | v::vs,_,r=>by
  refine ZaM r fun x q eQ0_2 _ r2=>?_; subst eQ0_2
  rw [List.length_cons,List.length_cons,Zz.length r2]
theorem Zz.append:∀ {vs:List LV} {xs:List Value} {us:List LV} {ys:List Value},Zz G D h vs xs->Zz G D h us ys->Zz G D h (vs++us) (xs++ys)
 | [],_,_,_,r,q=>by subst r; exact q
 | v::vs,_,_,_,r,q=>by
  refine ZaM r fun x p eQ0_2 r1 r2=>?_; subst eQ0_2
  rw [List.cons_append,List.cons_append]
  exact ⟨x,_,rfl,r1,r2.append q⟩
theorem Zz.one {v:LV} {x:Value} (r:Rep G D h v x):Zz G D h [v] [x]:=by
 exact ⟨x,[],rfl,r,by rfl⟩
theorem Zz.cons {v:LV} {x:Value} {vs:List LV} {xs:List Value} (r:Rep G D h v x) (q:Zz G D h vs xs):Zz G D h (v::vs) (x::xs):=by
 exact ⟨x,xs,rfl,r,q⟩
theorem Zz.nil:Zz G D h [] []:=by rfl
theorem Zz.uncons {v:LV} {vs:List LV} {ws:List Value} (r:Zz G D h (v::vs) ws):∃ x xs,ws=x::xs/\Rep G D h v x/\Zz G D h vs xs:=by
 exact r
theorem Zz.nil_eq {ws:List Value} (r:Zz G D h [] ws):ws=[]:=by exact r
theorem Zz.at:∀ {vs:List LV} {xs:List Value} {i:Nat} {v:LV},Zz G D h vs xs->vs[i]?=some v->∃ x,xs[i]?=some x/\Rep G D h v x
 | [],_,_,_,_,e=>by simp at e
 | v::vs,_,0,_,r,e=>by
  refine ZaM r.uncons fun x p eQ0_2 r1 r2=>?_; subst eQ0_2
  simp at e; subst e
  exact ⟨x,rfl,r1⟩
 | v::vs,_,i + 1,_,r,e=>by
  refine ZaM r.uncons fun x p eQ0_2 r1 r2=>?_; subst eQ0_2
  simp at e
  refine Ze (r2.at e) fun y hy ry=>?_
  exact ⟨y,by simpa using hy,ry⟩
theorem Zz.take:∀ {vs:List LV} {xs:List Value} (n:Nat),Zz G D h vs xs->Zz G D h (vs.take n) (xs.take n)
 | _,_,0,_=>by simp; exact Zz.nil
 | [],_,n + 1,r=>by cases r.nil_eq; simp; exact Zz.nil
 | v::vs,_,n + 1,r=>by
  refine ZaM r.uncons fun x p eQ0_2 r1 r2=>?_; subst eQ0_2
  simp only [List.take_succ_cons]
  exact Zz.cons r1 (r2.take n)
theorem Zz.set:∀ {vs:List LV} {xs:List Value} (n:Nat) {v:LV} {x:Value},Zz G D h vs xs->Rep G D h v x->Zz G D h (vs.set n v) (xs.set n x)
 | [],_,n,_,_,r,_=>by cases r.nil_eq; simp; exact Zz.nil
 | v::vs,_,0,_,_,r,q=>by
  refine ZaM r.uncons fun x p eQ0_2 r1 r2=>?_; subst eQ0_2
  exact Zz.cons q r2
 | v::vs,_,n + 1,_,_,r,q=>by
  refine ZaM r.uncons fun x p eQ0_2 r1 r2=>?_; subst eQ0_2
  exact Zz.cons r1 (r2.set n q)
theorem Zz.unappend:∀ {vs us:List LV} {ws:List Value},Zz G D h (vs++us) ws->∃ xs ys,ws=xs++ys/\Zz G D h vs xs/\Zz G D h us ys
 | [],_,ws,r=>⟨[],ws,rfl,Zz.nil,r⟩
 | v::vs,us,ws,r=>by
  rw [List.cons_append] at r
  refine ZaM r.uncons fun x p eQ0_2 r1 r2=>?_; subst eQ0_2
  refine ZaM r2.unappend fun xs ys eQ0_2 q1 q2=>?_; subst eQ0_2
  exact ⟨x::xs,ys,rfl,Zz.cons r1 q1,q2⟩
theorem Zz.replicate {v:LV} {x:Value} (r:Rep G D h v x):∀ n,Zz G D h (List.replicate n v) (List.replicate n x)
 | 0=>Zz.nil
 | n + 1=>by rw [List.replicate_succ,List.replicate_succ]; exact Zz.cons r (Zz.replicate r n)
theorem Rep.grow {D:Addr->Prop} {h h':Heap} {v:LV} {x:Value} (r:Rep G D h v x) (k:∀ b o,h.get? b=some o->h'.get? b=some o):Rep G D h' v x:=r.mono fun a o g d=>⟨d,k _ _ g⟩
theorem Zz.grow {D:Addr->Prop} {h h':Heap} {v:List LV} {x:List Value} (r:Zz G D h v x) (k:∀ b o,h.get? b=some o->h'.get? b=some o):Zz G D h' v x:=r.mono fun a o g d=>⟨d,k _ _ g⟩
theorem Rep.int_inv {D:Addr->Prop} {h:Heap} {i:Int} {x:Value} (r:Rep G D h (.int i) x):∃ t,x=.int i t:=by exact r
theorem Rep.int {D:Addr->Prop} {h:Heap} {i:Int} {t:Tok}:Rep G D h (.int i) (.int i t):=by exact ⟨t,rfl⟩
theorem Rep.bool {D:Addr->Prop} {h:Heap} {b:Bool}:Rep G D h (.bool b) (.bool b):=by rfl
theorem Rep.bool_inv {D:Addr->Prop} {h:Heap} {b:Bool} {x:Value} (r:Rep G D h (.bool b) x):x=.bool b:=by exact r
theorem Rep.none {D:Addr->Prop} {h:Heap}:Rep G D h .none .none:=by rfl
theorem Rep.none_inv {D:Addr->Prop} {h:Heap} {x:Value} (r:Rep G D h .none x):x=.none:=by exact r
theorem Rep.tup_inv {D:Addr->Prop} {h:Heap} {vs:List LV} {x:Value} (r:Rep G D h (.tup vs) x):∃ a ws n,x=.ref a/\D a/\h.get? a=some (Zhq ws n)/\Zz G D h vs ws.toList:=by exact r
theorem Rep.lst_inv {D:Addr->Prop} {h:Heap} {vs:List LV} {x:Value} (r:Rep G D h (.lst vs) x):∃ a ws n,x=.ref a/\D a/\h.get? a=some (Zdj ws n)/\Zz G D h vs ws.toList:=by exact r
@[elab_as_elim] theorem Rep.tupE {D:Addr->Prop} {h:Heap} {vs:List LV} {x:Value} {X:Value->Prop} (r:Rep G D h (.tup vs) x) (k:∀ a ws n,D a->h.get? a=some (Zhq ws n)->Zz G D h vs ws.toList->X (.ref a)):X x:=by
 refine ZnU r.tup_inv fun a ws n e d g q=>?_
 subst e
 exact k a ws n d g q
@[elab_as_elim] theorem Rep.lstE {D:Addr->Prop} {h:Heap} {vs:List LV} {x:Value} {X:Value->Prop} (r:Rep G D h (.lst vs) x) (k:∀ a ws n,D a->h.get? a=some (Zdj ws n)->Zz G D h vs ws.toList->X (.ref a)):X x:=by
 refine ZnU r.lst_inv fun a ws n e d g q=>?_
 subst e
 exact k a ws n d g q
@[elab_as_elim] theorem Rep.intE {D:Addr->Prop} {h:Heap} {i:Int} {x:Value} {X:Value->Prop} (r:Rep G D h (.int i) x) (k:∀ t,X (.int i t)):X x:=by
 refine ZU r.int_inv fun t e=>?_
 subst e
 exact k t
@[elab_as_elim] theorem Zz.unE {D:Addr->Prop} {h:Heap} {v:LV} {vs:List LV} {xs:List Value} {X:List Value->Prop} (r:Zz G D h (v::vs) xs) (k:∀ x p,Rep G D h v x->Zz G D h vs p->X (x::p)):X xs:=by
 refine ZaM r.uncons fun x p e r1 q=>?_
 subst e
 exact k x p r1 q
@[elab_as_elim] theorem Zz.nilE {D:Addr->Prop} {h:Heap} {xs:List Value} {X:List Value->Prop} (r:Zz G D h [] xs) (k:X []):X xs:=by
 cases r.nil_eq
 exact k
@[elab_as_elim] theorem Zz.oneE {D:Addr->Prop} {h:Heap} {v:LV} {xs:List Value} {X:List Value->Prop} (r:Zz G D h [v] xs) (k:∀ x,Rep G D h v x->X [x]):X xs :=
 r.unE fun x p r q=>q.nilE (k x r)
theorem Rep.tup_mk {D:Addr->Prop} {h:Heap} {vs:List LV} {a:Addr} {ws:Array Value} {n:Nat} (d:D a) (g:h.get? a=some (Zhq ws n)) (q:Zz G D h vs ws.toList):Rep G D h (.tup vs) (.ref a):=by exact ⟨a,ws,n,rfl,d,g,q⟩
theorem Rep.lst_mk {D:Addr->Prop} {h:Heap} {vs:List LV} {a:Addr} {ws:Array Value} {n:Nat} (d:D a) (g:h.get? a=some (Zdj ws n)) (q:Zz G D h vs ws.toList):Rep G D h (.lst vs) (.ref a):=by exact ⟨a,ws,n,rfl,d,g,q⟩
end
end
section
open PySem PySem.W PyProof.Rows PySem.Calls PySem.SeqAt
set_option maxRecDepth 10000
mutual
noncomputable def ZlH (G:Glo):LV->PyData
 | .int i=>.int i
 | .w k=>.str (G.nm k)
 | .tup vs=>.tuple (Zbo G vs)
 | _=>.none
noncomputable def Zbo (G:Glo):List LV->List PyData
 | []=>[]
 | v::vs=>ZlH G v::Zbo G vs
end
section
variable {G:Glo} {A:Around} {P F:Addr->Prop} {σ:St} {s:Shared} {D:Addr->Prop} {h:Heap}
mutual
theorem Zap:∀ {v:LV} {x:Value},plain v=true->Rep G D h v x->∃ as,Reads h x (ZlH G v) as
 | .none,_,_,r=>by cases r.none_inv; exact ⟨_,.none⟩
 | .int i,_,_,r=>by obtain ⟨t,rfl⟩:=r.int_inv; exact ⟨_,.int i t⟩
 | .w k,_,_,r=>by obtain ⟨t,rfl⟩:=r; exact ⟨_,.str _ t⟩
 | .tup vs,_,p,r=>by
  refine r.tupE fun a ws n d g q=>?_
  refine ZU (Z4 p q) fun as ra=>?_
  exact ⟨as,.tuple g rfl rfl ra⟩
 | .bool _,_,p,_=>nob p
 | .lst _,_,p,_=>nob p
 | .fset _,_,p,_=>nob p
 | .rng _,_,p,_=>nob p
 | .ref _,_,p,_=>nob p
 | .rcd _ _,_,p,_=>nob p
 | .fn _,_,p,_=>nob p
 | .cls _,_,p,_=>nob p
 | .bm _ _,_,p,_=>nob p
theorem Z4:∀ {vs:List LV} {xs:List Value},Zam vs=true->Zz G D h vs xs->∃ as,ReadsAll h xs (Zbo G vs) as
 | [],_,_,r=>by cases r.nil_eq; exact ⟨_,.nil⟩
 | v::vs,_,p,r=>by
  refine r.unE fun x q r1 r2=>?_
  refine ZL (Bool.and_eq_true_iff.mp p) fun p1 p2=>?_
  refine ZU (Zap p1 r1) fun as q1=>?_
  refine ZU (Z4 p2 r2) fun bs q2=>?_
  exact ⟨_,.cons q1 q2⟩
end
theorem ZqH {G:Glo} {vs:List LV}:ZlH G (.tup vs)=.tuple (Zbo G vs):=rfl
theorem Zo9 (G v vs):Zbo G (v::vs)=ZlH G v::Zbo G vs:=rfl
mutual
theorem Zar:∀ {v:LV},plain v=true->(ZlH G v).canLay0=true/\(ZlH G v).depth=depth v
 | .none,_=>by exact ⟨rfl,rfl⟩
 | .int i,_=>by exact ⟨rfl,rfl⟩
 | .w k,_=>by exact ⟨G.nmOk k,rfl⟩
 | .tup vs,p=>by
  have q:=Zav p
  rw [ZqH,PyData.canLay0,PyData.depth,ZhG]
  exact ⟨q.1,by rw [q.2]⟩
 | .bool _,p=>nob p
 | .lst _,p=>nob p
 | .fset _,p=>nob p
 | .rng _,p=>nob p
 | .ref _,p=>nob p
 | .rcd _ _,p=>nob p
 | .fn _,p=>nob p
 | .cls _,p=>nob p
 | .bm _ _,p=>nob p
theorem Zav:∀ {vs:List LV},Zam vs=true->PyData.canLayAll0 (Zbo G vs)=true/\PyData.depthAll (Zbo G vs)=Z8 vs
 | [],_=>by exact ⟨rfl,rfl⟩
 | v::vs,p=>by
  obtain ⟨p1,p2⟩:=Bool.and_eq_true_iff.mp p
  have q1:=Zar p1
  have q2:=Zav p2
  rw [Zo9,PyData.canLayAll0,PyData.depthAll,Zfw]
  exact ⟨by rw [q1.1,q2.1]; rfl,by rw [q1.2,q2.2]⟩
end
mutual
theorem Zfy:∀ {v u:LV},plain v=true->plain u=true->(PyData.eqv (ZlH G v) (ZlH G u)=true ↔ v=u)
 | .none,u,_,q=>by cases u <;> first | exact nob q | exact ⟨fun _=>rfl,fun _=>rfl⟩ | exact ⟨fun e=>nob e,fun e=>LV.noConfusion e⟩
 | .int i,u,_,q=>by cases u <;> first | exact nob q | exact ⟨fun e=>nob e,fun e=>LV.noConfusion e⟩ | exact ⟨fun e=>congrArg LV.int (eq_of_beq e),fun e=>by injection e with e; rw [e]; exact beq_self_eq_true _⟩
 | .w k,u,_,q=>by
  cases u <;> first
   | exact nob q
   | exact ⟨fun e=>nob e,fun e=>LV.noConfusion e⟩
   | exact ⟨fun e=>(by rw [G.nmInj _ _ (eq_of_beq e)]),fun e=>(by injection e with e; rw [e]; exact beq_self_eq_true _)⟩
 | .tup vs,u,p,q=>by
  cases u with
  | tup us =>
   exact (Zcu p q).trans ⟨fun e=>congrArg LV.tup e,fun e=>LV.tup.inj e⟩
  | _=>first | exact nob q | exact ⟨fun e=>nob e,fun e=>LV.noConfusion e⟩
 | .bool _,_,p,_=>nob p
 | .lst _,_,p,_=>nob p
 | .fset _,_,p,_=>nob p
 | .rng _,_,p,_=>nob p
 | .ref _,_,p,_=>nob p
 | .rcd _ _,_,p,_=>nob p
 | .fn _,_,p,_=>nob p
 | .cls _,_,p,_=>nob p
 | .bm _ _,_,p,_=>nob p
theorem Zcu:∀ {vs us:List LV},Zam vs=true->Zam us=true->(PyData.eqvAll (Zbo G vs) (Zbo G us)=true ↔ vs=us)
 | [],[],_,_=>by simp [Zbo,PyData.eqvAll]
 | [],u::us,_,_=>by simp [Zbo,PyData.eqvAll]
 | v::vs,[],_,_=>by simp [Zbo,PyData.eqvAll]
 | v::vs,u::us,p,q=>by
  refine ZL (Bool.and_eq_true_iff.mp p) fun p1 p2=>?_
  refine ZL (Bool.and_eq_true_iff.mp q) fun q1 q2=>?_
  simp only [Zbo,PyData.eqvAll,Bool.and_eq_true,Zfy p1 q1,Zcu p2 q2,List.cons.injEq]
end
open Classical in
theorem Zfx {v u:LV} (p:plain v=true) (q:plain u=true):PyData.eqv (ZlH G v) (ZlH G u)=decide (v=u):=by
 by_cases h:v=u
 ·rw [decide_eq_true h]; exact (Zfy p q).mpr h
 ·rw [decide_eq_false h]; exact Bool.eq_false_iff.mpr fun e=>h ((Zfy p q).mp e)
open Classical in
theorem Ze4 {v u:List LV} (p:Zam v=true) (q:Zam u=true):PyData.eqvAll (Zbo G v) (Zbo G u)=decide (v=u):=by
 by_cases h:v=u
 ·rw [decide_eq_true h]; exact (Zcu p q).mpr h
 ·rw [decide_eq_false h]; exact Bool.eq_false_iff.mpr fun e=>h ((Zcu p q).mp e)
open Classical in
theorem Zd5 {v:LV} (q:plain v=true):∀ {vs:List LV},Zam vs=true->(Zbo G vs).any (fun y=>PyData.eqv y (ZlH G v))=decide (v ∈ vs)
 | [],_=>by simp [Zbo]
 | u::us,p=>by
  refine ZL (Bool.and_eq_true_iff.mp p) fun p1 p2=>?_
  rw [Zbo,List.any_cons,Zd5 q p2,Zfx p1 q]
  by_cases e:u=v
  ·subst e; simp
  ·have e':¬ v=u:=fun z=>e z.symm
   simp [e,e']
theorem Zx {v:LV} (k:Zak v=true):plain v=true/\depth v<=6:=by
 refine ZL (Bool.and_eq_true_iff.mp k) fun a b=>?_
 exact ⟨a,Nat.le_of_ble_eq_true b⟩
theorem Z3 {v:List LV} (k:ZA v=true):Zam v=true/\Z8 v<=6:=by
 refine ZL (Bool.and_eq_true_iff.mp k) fun a b=>?_
 exact ⟨a,Nat.le_of_ble_eq_true b⟩
theorem Zgr {a b:LV} {x y:Value} {E:Value->Shared->Prop} {Q:Value->Shared->Prop} (hu:A.units + 64 < cLine) (ka:Zak a=true) (kb:Zak b=true) (ra:Rep G D s.heap a x) (rb:Rep G D s.heap b y)
  (h:Q (.bool (open Classical in decide (a=b))) s):wpAny (model G.prog G.w) A (compareOp .Eq x y) Q E s:=by
 refine ZL (Zx ka) fun pa da=>?_
 refine ZL (Zx kb) fun pb db=>?_
 refine ZU (Zap pa ra) fun as qa=>?_
 refine ZU (Zap pb rb) fun bs qb=>?_
 have la:=Zar (G:=G) pa
 have lb:=Zar (G:=G) pb
 exact compareEq_reads qa qb la.1 lb.1 (by rw [la.2,lb.2]; have:=Nat.min_le_left (depth a) (depth b); exact o41 hu da) (by rw [Zfx pa pb]; exact h)
theorem Zgt {a b:LV} {x y:Value} {E:Value->Shared->Prop} {Q:Value->Shared->Prop} (hu:A.units + 64 < cLine) (ka:Zak a=true) (kb:Zak b=true) (ra:Rep G D s.heap a x) (rb:Rep G D s.heap b y)
  (h:Q (.bool (!(open Classical in decide (a=b)))) s):wpAny (model G.prog G.w) A (compareOp .NotEq x y) Q E s:=by
 refine ZL (Zx ka) fun pa da=>?_
 refine ZL (Zx kb) fun pb db=>?_
 refine ZU (Zap pa ra) fun as qa=>?_
 refine ZU (Zap pb rb) fun bs qb=>?_
 have la:=Zar (G:=G) pa
 have lb:=Zar (G:=G) pb
 exact compareNe_reads qa qb la.1 lb.1 (by rw [la.2,lb.2]; have:=Nat.min_le_left (depth a) (depth b); exact o41 hu da) (by rw [Zfx pa pb]; exact h)
theorem Zgq {vs us:List LV} {a b:Addr} {ws zs:Array Value} {n m:Nat} {E:Value->Shared->Prop} {Q:Value->Shared->Prop} (hu:A.units + 64 < cLine) (ka:ZA vs=true) (kb:ZA us=true)
  (ga:s.heap.get? a=some (Zdj ws n)) (gb:s.heap.get? b=some (Zdj zs m)) (ra:Zz G D s.heap vs ws.toList) (rb:Zz G D s.heap us zs.toList)
  (h:Q (.bool (open Classical in decide (vs=us))) s):wpAny (model G.prog G.w) A (compareOp .Eq (.ref a) (.ref b)) Q E s:=by
 refine ZL (Z3 ka) fun pa da=>?_
 refine ZL (Z3 kb) fun pb db=>?_
 refine ZU (Z4 pa ra) fun as qa=>?_
 refine ZU (Z4 pb rb) fun bs qb=>?_
 have la:=Zav (G:=G) pa
 have lb:=Zav (G:=G) pb
 refine compareEq_reads (da:=.list (Zbo G vs)) (db:=.list (Zbo G us)) (.list ga rfl rfl qa) (.list gb rfl rfl qb) (by exact la.1) (by exact lb.1) ?_ (by unfold PyData.eqv; rw [Ze4 pa pb]; exact h)
 rw [PyData.depth,PyData.depth]
 rw [la.2,lb.2]; have:=Nat.min_le_left (Z8 vs + 1) (Z8 us + 1); exact o85 hu da
theorem Zgs {vs us:List LV} {a b:Addr} {ws zs:Array Value} {n m:Nat} {E:Value->Shared->Prop} {Q:Value->Shared->Prop} (hu:A.units + 64 < cLine) (ka:ZA vs=true) (kb:ZA us=true)
  (ga:s.heap.get? a=some (Zdj ws n)) (gb:s.heap.get? b=some (Zdj zs m)) (ra:Zz G D s.heap vs ws.toList) (rb:Zz G D s.heap us zs.toList)
  (h:Q (.bool (!(open Classical in decide (vs=us)))) s):wpAny (model G.prog G.w) A (compareOp .NotEq (.ref a) (.ref b)) Q E s:=by
 refine ZL (Z3 ka) fun pa da=>?_
 refine ZL (Z3 kb) fun pb db=>?_
 refine ZU (Z4 pa ra) fun as qa=>?_
 refine ZU (Z4 pb rb) fun bs qb=>?_
 have la:=Zav (G:=G) pa
 have lb:=Zav (G:=G) pb
 refine compareNe_reads (da:=.list (Zbo G vs)) (db:=.list (Zbo G us)) (.list ga rfl rfl qa) (.list gb rfl rfl qb) (by exact la.1) (by exact lb.1) ?_ (by unfold PyData.eqv; rw [Ze4 pa pb]; exact h)
 rw [PyData.depth,PyData.depth]
 rw [la.2,lb.2]; have:=Nat.min_le_left (Z8 vs + 1) (Z8 us + 1); exact o85 hu da
theorem Zou {vs:List LV} {v:LV} {a:Addr} {x:Value} {ws:Array Value} {n:Nat} {E:Value->Shared->Prop} {Q:Value->Shared->Prop} (hu:A.units + 64 < cLine) (ka:ZA vs=true) (kv:Zak v=true)
  (ga:s.heap.get? a=some (Zdj ws n)) (ra:Zz G D s.heap vs ws.toList) (rv:Rep G D s.heap v x)
  (h:Q (.bool (open Classical in decide (v ∈ vs))) s):wpAny (model G.prog G.w) A (compareOp .In x (.ref a)) Q E s:=by
 refine ZL (Z3 ka) fun pa da=>?_
 refine ZL (Zx kv) fun pb db=>?_
 refine ZU (Z4 pa ra) fun as qa=>?_
 refine ZU (Zap pb rv) fun bs qb=>?_
 have la:=Zav (G:=G) pa
 have lb:=Zar (G:=G) pb
 exact in_list_reads (.list ga rfl rfl qa) qb la.1 lb.1 (by rw [la.2,lb.2]; have:=Nat.min_le_left (Z8 vs) (depth v); exact o25 hu da) (by rw [Zd5 pb pa]; exact h)
theorem ZjD {vs:List LV} {v:LV} {a:Addr} {x:Value} {ws:Array Value} {n:Nat} {E:Value->Shared->Prop} {Q:Value->Shared->Prop} (hu:A.units + 64 < cLine) (ka:ZA vs=true) (kv:Zak v=true)
  (ga:s.heap.get? a=some (Zdj ws n)) (ra:Zz G D s.heap vs ws.toList) (rv:Rep G D s.heap v x)
  (h:Q (.bool (!(open Classical in decide (v ∈ vs)))) s):wpAny (model G.prog G.w) A (compareOp .NotIn x (.ref a)) Q E s:=by
 refine ZL (Z3 ka) fun pa da=>?_
 refine ZL (Zx kv) fun pb db=>?_
 refine ZU (Z4 pa ra) fun as qa=>?_
 refine ZU (Zap pb rv) fun bs qb=>?_
 have la:=Zav (G:=G) pa
 have lb:=Zar (G:=G) pb
 exact notIn_list_reads (.list ga rfl rfl qa) qb la.1 lb.1 (by rw [la.2,lb.2]; have:=Nat.min_le_left (Z8 vs) (depth v); exact o25 hu da) (by rw [Zd5 pb pa]; exact h)
theorem Zp7 {vs:List LV} {v:LV} {a:Addr} {x:Value} {ws:Array Value} {n:Nat} {E:Value->Shared->Prop} {Q:Value->Shared->Prop} (hu:A.units + 64 < cLine) (ka:ZA vs=true) (kv:Zak v=true)
  (ga:s.heap.get? a=some (Zhq ws n)) (ra:Zz G D s.heap vs ws.toList) (rv:Rep G D s.heap v x)
  (h:Q (.bool (open Classical in decide (v ∈ vs))) s):wpAny (model G.prog G.w) A (compareOp .In x (.ref a)) Q E s:=by
 obtain ⟨pa,da⟩:=Z3 ka
 obtain ⟨pb,db⟩:=Zx kv
 obtain ⟨as,qa⟩:=Z4 pa ra
 obtain ⟨bs,qb⟩:=Zap pb rv
 have la:=Zav (G:=G) pa
 have lb:=Zar (G:=G) pb
 exact in_tuple_reads (.tuple ga rfl rfl qa) qb la.1 lb.1 (by rw [la.2,lb.2]; have:=Nat.min_le_left (Z8 vs) (depth v); exact o25 hu da) (by rw [Zd5 pb pa]; exact h)
theorem Zle {vs:List LV} {v:LV} {a:Addr} {x:Value} {ws:Array Value} {n:Nat} {E:Value->Shared->Prop} {Q:Value->Shared->Prop} (hu:A.units + 64 < cLine) (ka:ZA vs=true) (kv:Zak v=true)
  (ga:s.heap.get? a=some (Zhq ws n)) (ra:Zz G D s.heap vs ws.toList) (rv:Rep G D s.heap v x)
  (h:Q (.bool (!(open Classical in decide (v ∈ vs)))) s):wpAny (model G.prog G.w) A (compareOp .NotIn x (.ref a)) Q E s:=by
 obtain ⟨pa,da⟩:=Z3 ka
 obtain ⟨pb,db⟩:=Zx kv
 obtain ⟨as,qa⟩:=Z4 pa ra
 obtain ⟨bs,qb⟩:=Zap pb rv
 have la:=Zav (G:=G) pa
 have lb:=Zar (G:=G) pb
 exact notIn_tuple_reads (.tuple ga rfl rfl qa) qb la.1 lb.1 (by rw [la.2,lb.2]; have:=Nat.min_le_left (Z8 vs) (depth v); exact o25 hu da) (by rw [Zd5 pb pa]; exact h)
theorem Zku {a b:LV} {x y:Value} (hu:A.units + 64 < cLine) (ka:Zak a=true) (kb:Zak b=true) (ra:Rep G D s.heap a x) (rb:Rep G D s.heap b y):EqAt A s x y (open Classical in decide (a=b)):=by
 refine ZL (Zx ka) fun pa da=>?_
 refine ZL (Zx kb) fun pb db=>?_
 refine ZU (Zap pa ra) fun as qa=>?_
 refine ZU (Zap pb rb) fun bs qb=>?_
 have la:=Zar (G:=G) pa
 have lb:=Zar (G:=G) pb
 have:=eqAt_reads _ _ A s _ _ _ _ qa qb la.1 lb.1 (by rw [la.2,lb.2]; have:=Nat.min_le_left (depth a) (depth b); exact o41 hu da)
 rw [Zfx pa pb] at this
 exact this
end
mutual
noncomputable def ZhR (G:Glo):LV->Int
 | .int i=>hashInt i
 | .w k=>hashStr G.w (G.nm k)
 | .tup vs=>reduceHash (Builtin.Tuple.tupleHashOf (Zbi G vs))
 | _=>0
noncomputable def Zbi (G:Glo):List LV->List Int
 | []=>[]
 | v::vs=>ZhR G v::Zbi G vs
end
mutual
noncomputable def Zgy:LV->Nat
 | .tup vs=>Zdo vs + 1
 | _=>1
noncomputable def Zdo:List LV->Nat
 | []=>0
 | v::vs=>Zgy v + Zdo vs
end
section
variable {G:Glo} {D D':Addr->Prop} {h h':Heap} {s:Shared}
mutual
theorem Rep.monoP (hk:∀ a ws n,h.get? a=some (Zhq ws n)->D a->D' a/\h'.get? a=some (Zhq ws n)):∀ {v:LV} {x:Value},plain v=true->Rep G D h v x->Rep G D' h' v x
 | .none,_,_,r=>by exact r
 | .int _,_,_,r=>by exact r
 | .w _,_,_,r=>by exact r
 | .tup vs,_,p,r=>by
  refine r.tupE fun a ws n d g q=>?_
  exact Rep.tup_mk (hk a _ _ g d).1 (hk a _ _ g d).2 (Zz.monoP hk p q)
 | .bool _,_,p,_=>nob p
 | .lst _,_,p,_=>nob p
 | .fset _,_,p,_=>nob p
 | .rng _,_,p,_=>nob p
 | .ref _,_,p,_=>nob p
 | .rcd _ _,_,p,_=>nob p
 | .fn _,_,p,_=>nob p
 | .cls _,_,p,_=>nob p
 | .bm _ _,_,p,_=>nob p
theorem Zz.monoP (hk:∀ a ws n,h.get? a=some (Zhq ws n)->D a->D' a/\h'.get? a=some (Zhq ws n)):∀ {vs:List LV} {xs:List Value},Zam vs=true->Zz G D h vs xs->Zz G D' h' vs xs
 | [],_,_,r=>by cases r.nil_eq; exact Zz.nil
 | v::vs,_,p,r=>by
  refine r.unE fun x q r1 r2=>?_
  refine ZL (Bool.and_eq_true_iff.mp p) fun p1 p2=>?_
  exact Zz.cons (Rep.monoP hk p1 r1) (Zz.monoP hk p2 r2)
end
theorem Zfm {a b:LV} {x:Value} (pa:plain a=true) (pb:plain b=true) (ra:Rep G D h a x) (rb:Rep G D' h b x):a=b:=by
 obtain ⟨as,qa⟩:=Zap pa ra
 obtain ⟨bs,qb⟩:=Zap pb rb
 have e:=Reads.unique _ _ _ _ _ (Zar pa).1 qa qb
 refine (Zfy (G:=G) pa pb).mp ?_
 rw [<- e]
 exact eqv_refl _ (Zar pa).1
variable {A:Around} {E:Value->Shared->Prop}
theorem Zot {vs:List LV}:ZhR G (.tup vs)=reduceHash (Builtin.Tuple.tupleHashOf (Zbi G vs)):=rfl
theorem Zmw (v vs):Zbi G (v::vs)=ZhR G v::Zbi G vs:=rfl
theorem Zmk {vs:List LV}:Zgy (.tup vs)=Zdo vs + 1:=rfl
theorem Zkq (v vs):Zdo (v::vs)=Zgy v + Zdo vs:=rfl
mutual
theorem Zhf:∀ {A:Around} {v:LV} {x:Value} {s:Shared} {Q:Int->Shared->Prop},A.units + depth v < cLine->ZbQ v=true->Rep G D s.heap v x->Q (ZhR G v) { s with toks:=s.toks + Zgy v }->wpAny (model G.prog G.w) A (pyHash x) Q E s
 | _,.int i,_,s,Q,hu,_,r,q=>by obtain ⟨t,rfl⟩:=r.int_inv; exact wpAny_pyHash_int q
 | _,.w k,_,s,Q,hu,_,r,q=>by obtain ⟨t,rfl⟩:=r; exact wpAny_pyHash_str q
 | A,.tup vs,_,s,Q,hu,p,r,q=>by
  refine r.tupE fun a ws n d g r=>?_
  have hT:s.TypeIs (.ref a) "tuple":=⟨_,g,rfl⟩
  first | unfold pyHashByItsType | skip
  first | refine wpAny_bind (wpAny_cRoomFor_or (.inr (Zvw hu)) ?_) | skip
  refine wpAny_bind (wpAny_specialOf hT F.slot_tuple_hash.lookup ?_)
  show wpAny _ _ (if (some (Value.builtin "tuple.__hash__") == some Value.none)=true then _ else _) Q E s
  rw [if_neg (by rw [beq_builtin_none]; exact Bool.false_ne_true)]
  refine wpAny_bind (wpAny_specialOf hT F.slot_tuple_hash.lookup ?_)
  show wpAny _ _ (callSpecialIfBoundUnlessNone? (.ref a) "__hash__" _ >>= _) Q E s
  refine wpAny_bind (wpAny_callSpecialIfBoundUnlessNone?_slot hT F.slot_tuple_hash (wpAny_call_entry F.slot_tuple_hash hT F.entry_tuple_hash ?_ (F.args_tuple_hash_1 _)))
  show wpAny _ _ (Builtin.Tuple.tupleItemsOf (.ref a) >>= _) _ _ s
  refine wpAny_bind (wpAny_tupleItemsOf g rfl ?_)
  refine wpAny_bind ?_
  rw [<- Array.forIn_toList]
  refine ZeF (acc:=#[]) (by show A.units + 1 + Z8 vs < cLine; exact Zvx hu) p r (fun y b s' P hy=>?_) ?_
  ·refine wpAny_bind (wpAny_mono hy (fun i s'' hi=>?_) fun _ _ z=>z)
   first | exact wpAny_pure hi | exact wpAny_bind (wpAny_pure (wpAny_pure hi))
  ·show wpAny _ _ (retInt (Builtin.Tuple.tupleHashOf (#[]++(Zbi G vs).toArray).toList)) _ _ _
   refine wpAny_ret_mkInt ?_
   have e:(#[]++(Zbi G vs).toArray:Array Int).toList=Zbi G vs:=by simp
   rw [e]
   show wpAny _ _ (if (decide (-(2:Int) ^ 63<=Builtin.Tuple.tupleHashOf (Zbi G vs))&&decide (Builtin.Tuple.tupleHashOf (Zbi G vs) < 2 ^ 63))=true then _ else _) Q E _
   rw [Zot,reduceHash,Zmk] at q
   by_cases hr:(decide (-(2:Int) ^ 63<=Builtin.Tuple.tupleHashOf (Zbi G vs))&&decide (Builtin.Tuple.tupleHashOf (Zbi G vs) < 2 ^ 63))=true
   ·rw [if_pos hr]
    rw [if_pos hr] at q
    exact wpAny_pure (by simpa [Nat.add_assoc] using q)
   ·rw [if_neg hr]
    rw [if_neg hr] at q
    exact wpAny_bind (wpAny_rule (wpAny_pure (by simpa [Nat.add_assoc] using q)))
 | _,.none,_,_,_,_,p,_,_=>nob p
 | _,.bool _,_,_,_,_,p,_,_=>nob p
 | _,.lst _,_,_,_,_,p,_,_=>nob p
 | _,.fset _,_,_,_,_,p,_,_=>nob p
 | _,.rng _,_,_,_,_,p,_,_=>nob p
 | _,.ref _,_,_,_,_,p,_,_=>nob p
 | _,.rcd _ _,_,_,_,_,p,_,_=>nob p
 | _,.fn _,_,_,_,_,p,_,_=>nob p
 | _,.cls _,_,_,_,_,p,_,_=>nob p
 | _,.bm _ _,_,_,_,_,p,_,_=>nob p
theorem ZeF:∀ {A:Around} {vs:List LV} {xs:List Value} {s:Shared} {acc:Array Int} {f:Value->Array Int->Sem (ForInStep (Array Int))} {Q:Array Int->Shared->Prop},A.units + Z8 vs < cLine->Za0 vs=true->Zz G D s.heap vs xs->
  (∀ y b s' (P:ForInStep (Array Int)->Shared->Prop),wpAny (model G.prog G.w) A (pyHash y) (fun i s''=>P (.yield (b.push i)) s'') E s'->wpAny (model G.prog G.w) A (f y b) P E s')->
  Q (acc++(Zbi G vs).toArray) { s with toks:=s.toks + Zdo vs }->wpAny (model G.prog G.w) A (forIn xs acc f) Q E s
 | _,[],_,s,acc,f,Q,hu,_,r,hf,q=>by
  cases r.nil_eq
  rw [List.forIn_nil]
  change Q (acc++#[]) { s with toks:=s.toks + 0 } at q
  exact wpAny_pure (by simpa using q)
 | A,v::vs,_,s,acc,f,Q,hu,p,r,hf,q=>by
  refine r.unE fun x xs r1 r2=>?_
  refine ZL (Bool.and_eq_true_iff.mp p) fun p1 p2=>?_
  rw [Zmw,Zkq] at q
  rw [List.forIn_cons]
  refine wpAny_bind (hf x acc s _ (Zhf (Zvy hu) p1 r1 ?_))
  refine ZeF (Zvz hu) p2 r2 hf ?_
  have e:acc.push (ZhR G v)++(Zbi G vs).toArray=acc++(ZhR G v::Zbi G vs).toArray:=by simp
  rw [e]
  simpa [Nat.add_assoc] using q
end
mutual
theorem Zi9:∀ {A:Around} {v:LV} {x:Value} {s:Shared} {n:Nat} {Q:Bool->Shared->Prop},plain v=true->depth v<=n->Rep G D s.heap v x->Q true s->wpAny (model G.prog G.w) A (eqIsQuiet n x) Q E s
 | _,.none,_,s,n,Q,_,_,r,q=>by cases r.none_inv; rw [eqIsQuiet_byValue n rfl]; exact wpAny_pure q
 | _,.int i,_,s,n,Q,_,_,r,q=>by obtain ⟨t,rfl⟩:=r.int_inv; rw [eqIsQuiet_byValue n rfl]; exact wpAny_pure q
 | _,.w k,_,s,n,Q,_,_,r,q=>by obtain ⟨t,rfl⟩:=r; rw [eqIsQuiet_byValue n rfl]; exact wpAny_pure q
 | A,.tup vs,_,s,0,Q,p,hd,r,q=>by exact False.elim (ZvA hd)
 | A,.tup vs,_,s,n + 1,Q,p,hd,r,q=>by
  refine r.tupE fun a ws k d g r=>?_
  have hT:s.TypeIs (.ref a) "tuple":=⟨_,g,rfl⟩
  unfold eqIsQuiet
  refine wpAny_bind (wpAny_specialOf hT F.slot_tuple_eq.lookup ?_)
  show wpAny _ _ (isInstance (.ref a) (.type "tuple") >>= _) _ _ s
  refine wpAny_bind (wpAny_isInstance hT isSubtype_tuple_tuple ?_)
  simp only [Bool.not_true,Bool.false_eq_true,if_false]
  refine wpAny_bind (wpAny_seqItems g rfl ?_)
  refine wpAny_bind ?_
  show wpAny _ _ (forIn ws _ _) _ _ s
  rw [<- Array.forIn_toList]
  exact Zhh p (ZvB hd) r (fun y s' P hy=>wpAny_bind (wpAny_mono hy (fun b s'' hQ0=>ZL hQ0 fun e z=>by subst e; simp only [Bool.not_true,Bool.false_eq_true,if_false]; exact wpAny_pure z) fun _ _ z=>z)) (wpAny_pure q)
 | _,.bool _,_,_,_,_,p,_,_,_=>nob p
 | _,.lst _,_,_,_,_,p,_,_,_=>nob p
 | _,.fset _,_,_,_,_,p,_,_,_=>nob p
 | _,.rng _,_,_,_,_,p,_,_,_=>nob p
 | _,.ref _,_,_,_,_,p,_,_,_=>nob p
 | _,.rcd _ _,_,_,_,_,p,_,_,_=>nob p
 | _,.fn _,_,_,_,_,p,_,_,_=>nob p
 | _,.cls _,_,_,_,_,p,_,_,_=>nob p
 | _,.bm _ _,_,_,_,_,p,_,_,_=>nob p
theorem Zhh:∀ {A:Around} {vs:List LV} {xs:List Value} {s:Shared} {n:Nat} {β:Type} {b:β} {f:Value->β->Sem (ForInStep β)} {Q:β->Shared->Prop},Zam vs=true->Z8 vs<=n->Zz G D s.heap vs xs->
  (∀ y s' (P:ForInStep β->Shared->Prop),wpAny (model G.prog G.w) A (eqIsQuiet n y) (fun r s''=>r=true/\P (.yield b) s'') E s'->wpAny (model G.prog G.w) A (f y b) P E s')->
  Q b s->wpAny (model G.prog G.w) A (forIn xs b f) Q E s
 | _,[],_,s,n,_,b,f,Q,_,_,r,hf,q=>by cases r.nil_eq; rw [List.forIn_nil]; exact wpAny_pure q
 | A,v::vs,_,s,n,_,b,f,Q,p,hd,r,hf,q=>by
  refine r.unE fun x xs r1 r2=>?_
  refine ZL (Bool.and_eq_true_iff.mp p) fun p1 p2=>?_
  rw [List.forIn_cons]
  exact wpAny_bind (hf x s _ (Zi9 p1 (ZvC hd) r1 ⟨rfl,Zhh p2 (ZvD hd) r2 hf q⟩))
end
end
theorem ZK {v:LV} (k:ZaL v=true):Zov v=true/\ZbQ v=true/\Zak v=true:=by
 refine ZL (Bool.and_eq_true_iff.mp k) fun a c=>?_
 refine ZL (Bool.and_eq_true_iff.mp a) fun a b=>?_
 exact ⟨a,b,c⟩
noncomputable def Zpz:Addr->Prop:=fun _=>True
open Classical in
noncomputable def kind (G:Glo):HeapKind G.prog G.w LV where
 is h k a:=ZaL k=true/\Rep G Zpz h k (.ref a)
 hash:=ZhR G
 draws:=Zgy
 room A:=A.units + 64 < cLine
 inj:=fun hx hy=>Zfm (Zx (ZK hx.1).2.2).1 (Zx (ZK hy.1).2.2).1 hx.2 hy.2
 keeps:=fun {h h' k a d o es ep} x ho hd hs=>⟨x.1,Rep.monoP (fun b ws n g _=>⟨trivial,(hs.2 b (fun e=>by rw [e,ho] at g; cases g; cases hd)).trans g⟩) (Zx (ZK x.1).2.2).1 x.2⟩
 pyHash:=fun hu hk q=>Zhf (by have:=(Zx (ZK hk.1).2.2).2; exact ZvE hu this) (ZK hk.1).2.1 hk.2 q
 eqBool:=fun {A E s x y a b Q} hu hx hy q=>Zku hu (ZK hx.1).2.2 (ZK hy.1).2.2 hx.2 hy.2 G.prog G.w E Q q
 quiet:=fun hk q=>Zi9 (Zx (ZK hk.1).2.2).1 (Nat.le_trans (Zx (ZK hk.1).2.2).2 (by decide)) hk.2 q
end
section
open PySem PySem.W PyProof.Rows PySem.Calls
set_option maxRecDepth 10000
noncomputable def Zga (G:Glo) (D:Addr->Prop) (h:Heap):List (LV × LV)->List (LV × Addr × Value)->Prop
 | [],xs=>xs=[]
 | (k,v)::r,xs=>∃ a u q,xs=(k,a,u)::q/\ZaL k=true/\Rep G D h k (.ref a)/\Rep G D h v u/\Zga G D h r q
theorem Zga.mono {G:Glo} {D D':Addr->Prop} {h h':Heap} (hk:∀ a o,h.get? a=some o->D a->D' a/\h'.get? a=some o):∀ {es:List (LV × LV)} {xs:List (LV × Addr × Value)},Zga G D h es xs->Zga G D' h' es xs
 | [],_,r=>r
 | (k,v)::r,_,q=>by
  refine Zpp q fun a u p eQ0_3 d h1 h2 h3=>?_; subst eQ0_3
  exact ⟨a,u,p,rfl,d,h1.mono hk,h2.mono hk,Zga.mono hk h3⟩
theorem Rep.any {G:Glo} {D:Addr->Prop} {h:Heap} {v:LV} {x:Value} (r:Rep G D h v x):Rep G Zpz h v x:=r.mono fun a o g _=>⟨trivial,g⟩
theorem Zga.keys {G:Glo} {D:Addr->Prop} {h:Heap}:∀ {es:List (LV × LV)} {xs:List (LV × Addr × Value)},Zga G D h es xs->xs.map (·.1)=es.map (·.1)
 | [],_,r=>by cases r; rfl
 | (k,v)::r,_,q=>by
  refine Zpp q fun a u p eQ0_3 d h1 h2 h3=>?_; subst eQ0_3
  simp [h3.keys]
open Classical in
theorem Zga.are {G:Glo} {D:Addr->Prop} {h:Heap}:∀ {es:List (LV × LV)} {xs:List (LV × Addr × Value)},Zga G D h es xs->∀ x ∈ xs,(kind G).is h x.1 x.2.1
 | [],_,r,x,hx=>by cases r; cases hx
 | (k,v)::r,_,q,x,hx=>by
  refine Zpp q fun a u p eQ0_3 d h1 h2 h3=>?_; subst eQ0_3
  cases hx with
  | head=>exact ⟨d,h1.any⟩
  | tail _ hx=>exact h3.are x hx
open Classical in
noncomputable def ZjS (G:Glo) (D:Addr->Prop) (h:Heap) (a:Addr):LO->Prop
 | .list vs=>∃ ws n,h.get? a=some (Zdj ws n)/\Zz G D h vs ws.toList
 | .dict es=>∃ xs ds n,h.get? a=some { cls:=.type "dict",data:=.dict ds n }/\ds.toList=xs.map (entryOfKey (kind G))/\Zga G D h es xs/\(es.map (·.1)).Nodup
 | .idict es=>∃ f,h.IntMap a f/\h.DictLe a es.length/\∀ k,match Za3 k es with
   | some v=>∃ u,f k=some u/\Rep G D h v u
   | none=>f k=none
 | .inst c d=>h.get? a=some (instObj (G.caddr c) d)
 | .ns fs=>∃ m es n,h.get? a=some { cls:=.type "dict",data:=.dict es n }/\es.size<=fs.length/\h.Ns a m/\(∀ x v,Zo fs x=some v->∃ u,m (G.nm x)=some u/\Rep G D h v u)/\
   ∀ y,(∀ x,(Zo fs x).isSome=true->G.nm x ≠ y)->m y=none
theorem ZjS.mono {G:Glo} {D D':Addr->Prop} {h h':Heap} {a:Addr} {o:LO} (r:ZjS G D h a o) (ha:∀ x,h.get? a=some x->h'.get? a=some x)
  (hk:∀ a o,h.get? a=some o->D a->D' a/\h'.get? a=some o):ZjS G D' h' a o:=by
 cases o with
 | list vs=>obtain ⟨ws,n,g,q⟩:=r; exact ⟨ws,n,ha _ g,q.mono hk⟩
 | dict es=>obtain ⟨xs,ds,n,g,e,q,z⟩:=r; exact ⟨xs,ds,n,ha _ g,e,q.mono hk,z⟩
 | idict es =>
  refine Zdk r fun f im le q=>?_
  refine ZjU im fun o ds ep ho rest=>?_
  refine ⟨f,⟨o,ds,ep,ha _ ho,rest⟩,fun o' es' ep' ho' hd'=>?_,fun k=>?_⟩
  ·rw [ha _ ho] at ho'; cases ho'; exact le _ _ _ ho hd'
  ·have:=q k
   split at this
   ·obtain ⟨u,hu,ru⟩:=this; exact ⟨u,hu,ru.mono hk⟩
   ·exact this
 | inst c d=>exact ha _ r
 | ns fs =>
  refine Zpp r fun m es n g z ns q u=>?_
  exact ⟨m,es,n,ha _ g,z,Ns.moves ns ha,fun x v e=>by obtain ⟨w,hw,rw'⟩:=q x v e; exact ⟨w,hw,rw'.mono hk⟩,u⟩
open Classical in
theorem ZjS.dictOf {G:Glo} {D:Addr->Prop} {h:Heap} {a:Addr} {es:List (LV × LV)} (r:ZjS G D h a (.dict es)):∃ xs,h.DictOfH (kind G) a xs/\Zga G D h es xs:=by
 refine ZnU r fun xs ds n g e q z=>?_
 exact ⟨xs,⟨_,ds,n,g,⟨rfl,rfl,rfl⟩,rfl,e,q.are,by rw [q.keys]; exact z⟩,q⟩
theorem ZjS.there {G:Glo} {D:Addr->Prop} {h:Heap} {a:Addr} {o:LO} (r:ZjS G D h a o):∃ x,h.get? a=some x:=by
 cases o with
 | list vs=>obtain ⟨ws,n,g,q⟩:=r; exact ⟨_,g⟩
 | dict es=>obtain ⟨xs,ds,n,g,e,q,z⟩:=r; exact ⟨_,g⟩
 | idict es=>obtain ⟨f,⟨o,ds,ep,ho,rest⟩,_⟩:=r; exact ⟨_,ho⟩
 | inst c d=>exact ⟨_,r⟩
 | ns fs=>obtain ⟨m,es,n,g,_⟩:=r; exact ⟨_,g⟩
structure Base (G:Glo):Prop where
 sys:∃ o,G.h₁.get? sysModules=some o
 lim:G.h₁.NoLimit
structure Room (A:Around):Prop where
 units:A.units + 200 < cLine
 depth:A.depth + 20 < recursionLimit
 handled:A.handled=none
noncomputable def Dom (P:Addr->Prop) (σ:St):Addr->Prop:=fun a=>σ a=none/\¬ P a
structure Inv (G:Glo) (P:Addr->Prop) (σ:St) (h:Heap):Prop where
 base:∀ b o,G.h₁.get? b=some o->h.get? b=some o
 new:∀ a,σ a ≠ none->G.h₁.get? a=none
 dis:∀ a,P a->σ a=none/\G.h₁.get? a=none/\∃ o,h.get? a=some o
 tr:∀ a o,σ a=some o->ZjS G (Dom P σ) h a o
noncomputable def Evo (F:Addr->Prop) (σ:St) (h:Heap) (σ':St) (h':Heap):Prop :=
 ∀ a o,h.get? a=some o->σ a=none->¬ F a->h'.get? a=some o/\σ' a=none
noncomputable def noF:Addr->Prop:=fun _=>False
noncomputable def ZaF (s s':Shared):Prop:=s'.gens=s.gens/\s'.os=s.os
theorem ZaF.refl (s:Shared):ZaF s s:=⟨rfl,rfl⟩
theorem ZaF.trans {a b c:Shared} (x:ZaF a b) (y:ZaF b c):ZaF a c:=⟨y.1.trans x.1,y.2.trans x.2⟩
theorem Evo.refl (F:Addr->Prop) (σ:St) (h:Heap):Evo F σ h σ h:=fun _ _ e n _=>⟨e,n⟩
theorem Evo.trans {F:Addr->Prop} {σ₁ σ₂ σ₃:St} {h₁ h₂ h₃:Heap} (x:Evo F σ₁ h₁ σ₂ h₂) (y:Evo F σ₂ h₂ σ₃ h₃):Evo F σ₁ h₁ σ₃ h₃:=fun a o e n f=>y a o (x a o e n f).1 (x a o e n f).2 f
theorem Evo.weaken {F F':Addr->Prop} {σ₁ σ₂:St} {h₁ h₂:Heap} (x:Evo F σ₁ h₁ σ₂ h₂) (hf:∀ a,F a->F' a):Evo F' σ₁ h₁ σ₂ h₂:=fun a o e n f=>x a o e n fun q=>f (hf a q)
theorem Evo.outer {F F':Addr->Prop} {σ₀ σ₁ σ₂:St} {h₀ h₁ h₂:Heap} (x:Evo F σ₀ h₀ σ₁ h₁) (y:Evo F' σ₁ h₁ σ₂ h₂) (hn:∀ a,F' a->F a\/h₀.get? a=none):Evo F σ₀ h₀ σ₂ h₂:=fun a o e n f =>
 y a o (x a o e n f).1 (x a o e n f).2 fun q=>(hn a q).elim f fun z=>by rw [z] at e; exact nos e
theorem Rep.evo {G:Glo} {P:Addr->Prop} {F:Addr->Prop} {σ σ':St} {h h':Heap} {v:LV} {x:Value} (r:Rep G (Dom P σ) h v x) (e:Evo F σ h σ' h') (hf:∀ a,F a->P a):Rep G (Dom P σ') h' v x :=
 r.mono fun a o g d=>⟨⟨(e a o g d.1 fun f=>d.2 (hf a f)).2,d.2⟩,(e a o g d.1 fun f=>d.2 (hf a f)).1⟩
theorem Zz.evo {G:Glo} {P:Addr->Prop} {F:Addr->Prop} {σ σ':St} {h h':Heap} {v:List LV} {x:List Value} (r:Zz G (Dom P σ) h v x) (e:Evo F σ h σ' h') (hf:∀ a,F a->P a):Zz G (Dom P σ') h' v x :=
 r.mono fun a o g d=>⟨⟨(e a o g d.1 fun f=>d.2 (hf a f)).2,d.2⟩,(e a o g d.1 fun f=>d.2 (hf a f)).1⟩
noncomputable def TT {α:Type} (G:Glo) (A:Around) (P F:Addr->Prop) (t:Sem α) (Ψ:α->St->Shared->Prop) (σ:St) (s:Shared):Prop :=
 wpAny (model G.prog G.w) A t (fun v s'=>∃ σ',Inv G P σ' s'.heap/\Evo F σ s.heap σ' s'.heap/\ZaF s s'/\Ψ v σ' s') (fun _ _=>False) s
section
variable {α β:Type} {G:Glo} {A:Around} {P F:Addr->Prop} {σ:St} {s:Shared}
theorem TT.mono {t:Sem α} {Ψ Ψ':α->St->Shared->Prop} (h:TT G A P F t Ψ σ s) (k:∀ v σ' s',Inv G P σ' s'.heap->Evo F σ s.heap σ' s'.heap->ZaF s s'->Ψ v σ' s'->Ψ' v σ' s'):TT G A P F t Ψ' σ s :=
 wpAny_mono h (fun v s' hQ0=>Zgf hQ0 fun σ' i e q x=>⟨σ',i,e,q,k v σ' s' i e q x⟩) fun _ _ x=>x
theorem TT.pure {a:α} {Ψ:α->St->Shared->Prop} (i:Inv G P σ s.heap) (h:Ψ a σ s):TT G A P F (Pure.pure a) Ψ σ s:=wpAny_pure ⟨σ,i,Evo.refl _ _ _,.refl _,h⟩
theorem TT.bind {t:Sem α} {f:α->Sem β} {Ψ:β->St->Shared->Prop} (h:TT G A P F t (fun a σ₁ s₁=>TT G A P F (f a) Ψ σ₁ s₁) σ s):TT G A P F (t >>= f) Ψ σ s :=
 wpAny_bind (wpAny_mono h (fun v s₁ hQ0=>Zgf hQ0 fun σ₁ i e q x=>wpAny_mono x (fun b s₂ hQ1=>Zgf hQ1 fun σ₂ i₂ e₂ q₂ y=>⟨σ₂,i₂,e.trans e₂,q.trans q₂,y⟩) fun _ _ z=>z) fun _ _ z=>z)
theorem TT.weaken {t:Sem α} {F':Addr->Prop} {Ψ:α->St->Shared->Prop} (h:TT G A P F t Ψ σ s) (hf:∀ a,F a->F' a):TT G A P F' t Ψ σ s :=
 wpAny_mono h (fun v s' hQ0=>Zgf hQ0 fun σ' i e q x=>⟨σ',i,e.weaken hf,q,x⟩) fun _ _ x=>x
theorem TT.holding {vs:List Value} {t:Sem α} {Ψ:α->St->Shared->Prop} (h:TT G A P F t Ψ σ s):TT G A P F (PySem.holding vs t) Ψ σ s:=wpAny_holding h
theorem TT.at {pos:Pos} {f:Unit->Sem β} {Ψ:β->St->Shared->Prop} (h:TT G A P F (f ()) Ψ σ s):TT G A P F (standAt pos >>= f) Ψ σ s:=wpAny_bind (wpAny_standAt h)
end
theorem Inv.push {G:Glo} {P:Addr->Prop} {σ:St} {h:Heap} (i:Inv G P σ h) (o:Obj):Inv G P σ (h.push o) where
 base:=fun b x e=>Heap.get?_push_of_some _ (i.base b x e)
 new:=i.new
 dis:=fun a p=>⟨(i.dis a p).1,(i.dis a p).2.1,(i.dis a p).2.2.elim fun o ho=>⟨o,Heap.get?_push_of_some _ ho⟩⟩
 tr:=fun a x e=>(i.tr a x e).mono (fun y g=>Heap.get?_push_of_some _ g) fun b y g d=>⟨d,Heap.get?_push_of_some _ g⟩
theorem Evo.push {F:Addr->Prop} {σ:St} {h:Heap} (o:Obj):Evo F σ h σ (h.push o):=fun _ _ e n _=>⟨Heap.get?_push_of_some _ e,n⟩
theorem Inv.keeps {G:Glo} {P:Addr->Prop} {σ:St} {h h':Heap} (i:Inv G P σ h) (k:∀ b o,h.get? b=some o->h'.get? b=some o):Inv G P σ h' where
 base:=fun b x e=>k _ _ (i.base b x e)
 new:=i.new
 dis:=fun a p=>⟨(i.dis a p).1,(i.dis a p).2.1,(i.dis a p).2.2.elim fun o ho=>⟨o,k _ _ ho⟩⟩
 tr:=fun a x e=>(i.tr a x e).mono (fun y g=>k _ _ g) fun b y g d=>⟨d,k _ _ g⟩
theorem Evo.keeps {F:Addr->Prop} {σ:St} {h h':Heap} (k:∀ b o,h.get? b=some o->h'.get? b=some o):Evo F σ h σ h':=fun _ _ e n _=>⟨k _ _ e,n⟩
theorem Inv.size_free {G:Glo} {P:Addr->Prop} {σ:St} {h:Heap} (i:Inv G P σ h):σ h.objs.size=none:=by
 cases q:σ h.objs.size with
 | none=>rfl
 | some o =>
  refine ZU ((i.tr _ _ q).there) fun x hx=>?_
  exact absurd (Heap.lt_size hx) (Nat.lt_irrefl _)
theorem Inv.size_new {G:Glo} {P:Addr->Prop} {σ:St} {h:Heap} (i:Inv G P σ h):G.h₁.get? h.objs.size=none:=by
 cases q:G.h₁.get? h.objs.size with
 | none=>rfl
 | some o=>exact absurd (Heap.lt_size (i.base _ _ q)) (Nat.lt_irrefl _)
theorem Inv.size_pub {G:Glo} {P:Addr->Prop} {σ:St} {h:Heap} (i:Inv G P σ h):¬ P h.objs.size:=fun q=>by
 obtain ⟨o,ho⟩:=(i.dis _ q).2.2
 exact absurd (Heap.lt_size ho) (Nat.lt_irrefl _)
theorem Inv.size_dom {G:Glo} {P:Addr->Prop} {σ:St} {h:Heap} (i:Inv G P σ h):Dom P σ h.objs.size:=⟨i.size_free,i.size_pub⟩
theorem Inv.free_dom {G:Glo} {P:Addr->Prop} {σ:St} {h:Heap} (i:Inv G P σ h) {a:Addr} (n:h.get? a=none):Dom P σ a:=by
 refine ⟨?_,fun q=>?_⟩
 ·cases q:σ a with
  | none=>rfl
  | some o=>obtain ⟨x,hx⟩:=(i.tr _ _ q).there; rw [hx] at n; exact ns2 n
 ·obtain ⟨o,ho⟩:=(i.dis _ q).2.2; rw [ho] at n; exact ns2 n
theorem Zbz {h:Heap} {a:Addr} (l:h.objs.size<=a):h.get? a=none:=by
 cases q:h.get? a with
 | none=>rfl
 | some o=>exact absurd (Heap.lt_size q) (Nat.not_lt.mpr l)
theorem Zbv {σ:St} {a b:Addr} {o:Option LO} (h:b ≠ a) (n:σ b=none):upd σ a o b=none:=by rw [Zc _ _ h]; exact n
theorem Inv.track {G:Glo} {P:Addr->Prop} {σ:St} {h h':Heap} {a:Addr} {lo:LO} (i:Inv G P σ h) (hn:h.get? a=none) (k:∀ b o,h.get? b=some o->h'.get? b=some o)
  (r:ZjS G (Dom P (upd σ a (some lo))) h' a lo):Inv G P (upd σ a (some lo)) h' where
 base:=fun b x e=>k _ _ (i.base b x e)
 new:=fun b q=>by
  by_cases e:b=a
  ·subst e
   cases z:G.h₁.get? b with
   | none=>rfl
   | some o=>rw [i.base _ _ z] at hn; exact ns2 hn
  ·rw [Zc _ _ e] at q; exact i.new b q
 dis:=fun b p=>by
  refine Zbp (i.dis b p) fun x y hR0=>?_; refine ZU hR0 fun o ho=>?_
  exact ⟨Zbv (fun e=>by rw [e,hn] at ho; exact nos ho) x,y,o,k _ _ ho⟩
 tr:=fun b x e=>by
  by_cases q:b=a
  ·subst q; rw [Zb] at e; cases e; exact r
  ·rw [Zc _ _ q] at e
   refine (i.tr b x e).mono (fun y g=>k _ _ g) fun c o g d=>⟨⟨Zbv (fun z=>by rw [z,hn] at g; exact nos g) d.1,d.2⟩,k _ _ g⟩
theorem Evo.track {F:Addr->Prop} {σ:St} {h h':Heap} {a:Addr} {lo:Option LO} (hn:h.get? a=none) (k:∀ b o,h.get? b=some o->h'.get? b=some o):Evo F σ h (upd σ a lo) h' :=
 fun b o e n _=>⟨k _ _ e,Zbv (fun z=>by rw [z,hn] at e; exact nos e) n⟩
theorem Inv.change {G:Glo} {P:Addr->Prop} {σ:St} {h h':Heap} {a:Addr} {lo lo':LO} (i:Inv G P σ h) (ht:σ a=some lo) (hs:Heap.SameBut a h h')
  (r:ZjS G (Dom P (upd σ a (some lo'))) h' a lo'):Inv G P (upd σ a (some lo')) h' where
 base:=fun b x e=>(hs.2 b (fun q=>by subst q; rw [i.new b (by rw [ht]; simp)] at e; exact nos e)).trans (i.base b x e)
 new:=fun b q=>by
  by_cases e:b=a
  ·subst e; exact i.new b (by rw [ht]; simp)
  ·rw [Zc _ _ e] at q; exact i.new b q
 dis:=fun b p=>by
  refine Zbp (i.dis b p) fun x y hR0=>?_; refine ZU hR0 fun o ho=>?_
  have ne:b ≠ a:=fun e=>by rw [e,ht] at x; exact ns2 x
  exact ⟨Zbv ne x,y,o,(hs.2 b ne).trans ho⟩
 tr:=fun b x e=>by
  by_cases q:b=a
  ·subst q; rw [Zb] at e; cases e; exact r
  ·rw [Zc _ _ q] at e
   refine (i.tr b x e).mono (fun y g=>(hs.2 b q).trans g) fun c o g d=>?_
   have ne:c ≠ a:=fun z=>by rw [z] at d; have:=d.1; rw [ht] at this; exact ns2 this
   exact ⟨⟨Zbv ne d.1,d.2⟩,(hs.2 c ne).trans g⟩
theorem Evo.change {F:Addr->Prop} {σ:St} {h h':Heap} {a:Addr} {lo:LO} {lo':Option LO} (ht:σ a=some lo) (hs:Heap.SameBut a h h'):Evo F σ h (upd σ a lo') h':=fun b o e n _=>by
 have ne:b ≠ a:=fun z=>by rw [z,ht] at n; exact ns2 n
 exact ⟨(hs.2 b ne).trans e,Zbv ne n⟩
theorem Dom.change {P:Addr->Prop} {σ:St} {h h':Heap} {a:Addr} {lo:LO} {lo':Option LO} (ht:σ a=some lo) (hs:Heap.SameBut a h h'):∀ b o,h.get? b=some o->Dom P σ b->Dom P (upd σ a lo') b/\h'.get? b=some o:=fun b o e d=>by
 have ne:b ≠ a:=fun z=>by rw [z] at d; have:=d.1; rw [ht] at this; exact ns2 this
 exact ⟨⟨Zbv ne d.1,d.2⟩,(hs.2 b ne).trans e⟩
theorem Dom.track {P:Addr->Prop} {σ:St} {h h':Heap} {a:Addr} {lo:Option LO} (hn:h.get? a=none) (k:∀ b o,h.get? b=some o->h'.get? b=some o):∀ b o,h.get? b=some o->Dom P σ b->Dom P (upd σ a lo) b/\h'.get? b=some o:=fun b o e d=>by
 have ne:b ≠ a:=fun z=>by rw [z,hn] at e; exact nos e
 exact ⟨⟨Zbv ne d.1,d.2⟩,k _ _ e⟩
theorem Inv.loose {G:Glo} {P:Addr->Prop} {σ:St} {h:Heap} {a:Addr} (i:Inv G P σ h):Inv G P (upd σ a none) h where
 base:=i.base
 new:=fun b q=>by
  by_cases e:b=a
  ·subst e; rw [Zb] at q; exact absurd rfl q
  ·rw [Zc _ _ e] at q; exact i.new b q
 dis:=fun b p=>by
  obtain ⟨x,y⟩:=i.dis b p
  refine ⟨?_,y⟩
  by_cases e:b=a
  ·rw [e,Zb]
  ·rw [Zc _ _ e]; exact x
 tr:=fun b x e=>by
  by_cases q:b=a
  ·subst q; rw [Zb] at e; exact nos e
  ·rw [Zc _ _ q] at e
   refine (i.tr b x e).mono (fun y g=>g) fun c o g d=>⟨⟨?_,d.2⟩,g⟩
   by_cases z:c=a
   ·rw [z,Zb]
   ·rw [Zc _ _ z]; exact d.1
theorem Evo.loose {F:Addr->Prop} {σ:St} {h:Heap} {a:Addr}:Evo F σ h (upd σ a none) h:=fun b o e n _=>⟨e,by
 by_cases q:b=a
 ·rw [q,Zb]
 ·rw [Zc _ _ q]; exact n⟩
theorem Dom.loose {P:Addr->Prop} {σ:St} {h:Heap} {a:Addr}:∀ b o,h.get? b=some o->Dom P σ b->Dom P (upd σ a none) b/\h.get? b=some o:=fun b o e d=>⟨⟨by
 by_cases q:b=a
 ·rw [q,Zb]
 ·rw [Zc _ _ q]; exact d.1,d.2⟩,e⟩
end
section
open PySem PySem.W PyProof.Rows PySem.Calls PySem.SeqAt
set_option maxRecDepth 10000
section
variable {G:Glo} {A:Around} {P F:Addr->Prop} {σ:St} {s:Shared}
theorem Za5 {α:Type} {v:α} {Ψ:α->St->Shared->Prop} {h':Heap} {tk:Nat} (i:Inv G P σ s.heap) (k:∀ b o,s.heap.get? b=some o->h'.get? b=some o) (h:Ψ v σ { s with heap:=h',toks:=tk }) :
  ∃ σ',Inv G P σ' ({ s with heap:=h',toks:=tk }:Shared).heap/\Evo F σ s.heap σ' ({ s with heap:=h',toks:=tk }:Shared).heap/\ZaF s { s with heap:=h',toks:=tk }/\Ψ v σ' { s with heap:=h',toks:=tk } :=
 ⟨σ,i.keeps k,Evo.keeps k,⟨rfl,rfl⟩,h⟩
theorem Zp {α:Type} {v:α} {Ψ:α->St->Shared->Prop} {tk:Nat} (i:Inv G P σ s.heap) (h:Ψ v σ { s with toks:=tk }) :
  ∃ σ',Inv G P σ' ({ s with toks:=tk }:Shared).heap/\Evo F σ s.heap σ' ({ s with toks:=tk }:Shared).heap/\ZaF s { s with toks:=tk }/\Ψ v σ' { s with toks:=tk } :=
 ⟨σ,i,Evo.refl _ _ _,⟨rfl,rfl⟩,h⟩
theorem Zan {α:Type} {v:α} {Ψ:α->St->Shared->Prop} (i:Inv G P σ s.heap) (h:Ψ v σ s) :
  ∃ σ',Inv G P σ' s.heap/\Evo F σ s.heap σ' s.heap/\ZaF s s/\Ψ v σ' s :=
 ⟨σ,i,Evo.refl _ _ _,⟨rfl,rfl⟩,h⟩
theorem Zg {h:Heap} (o:Obj):∀ b x,h.get? b=some x->(h.push o).get? b=some x:=fun _ _ e=>Heap.get?_push_of_some _ e
theorem ZcW (i:Inv G P σ s.heap) {vs:List LV} {ws:Array Value} (r:Zz G (Dom P σ) s.heap vs ws.toList):Rep G (Dom P σ) (s.heap.push (Zhq ws 0)) (.tup vs) (.ref s.heap.objs.size):=by
 exact ⟨_,ws,0,rfl,i.size_dom,Heap.get?_push_size _ rfl,r.grow (Zg _)⟩
theorem ZeJ (i:Inv G P σ s.heap) {vs:List LV} {ws:Array Value} (r:Zz G (Dom P σ) s.heap vs ws.toList):Rep G (Dom P σ) (s.heap.push (Zdj ws 0)) (.lst vs) (.ref s.heap.objs.size):=by
 exact ⟨_,ws,0,rfl,i.size_dom,Heap.get?_push_size _ rfl,r.grow (Zg _)⟩
theorem ZaE {s:Shared} {a:Addr} {ws:Array Value} {n:Nat} (g:s.heap.get? a=some (Zhq ws n)):s.TypeIs (.ref a) "tuple":=⟨_,g,rfl⟩
theorem ZbD {s:Shared} {a:Addr} {ws:Array Value} {n:Nat} (g:s.heap.get? a=some (Zdj ws n)):s.TypeIs (.ref a) "list":=⟨_,g,rfl⟩
theorem Zn7 {o:Operator} {a b:Int} {t u:Tok} {c:LV} {Ψ:Value->St->Shared->Prop} (i:Inv G P σ s.heap) (hb:ZdT o σ (.int a) (.int b)=some c)
  (k:∀ v tk,Rep G (Dom P σ) s.heap c v->Ψ v σ { s with toks:=tk }):TT G A P F (binaryOp o (.int a t) (.int b u)) Ψ σ s:=by
 cases o with
 | Add=>obtain rfl:=Option.some.inj hb; exact PyProof.Rows.add_int (Zp i (k _ _ .int))
 | Sub=>obtain rfl:=Option.some.inj hb; exact PyProof.Rows.sub_int (Zp i (k _ _ .int))
 | Mult =>
  refine ifs hb (fun _ hb=>?_) fun _ hb=>?_
  ·rename_i hm
   obtain rfl:=Option.some.inj hb
   refine PyProof.Rows.mul_int (Zp i (k _ _ .int)) ?_
   refine Or.elim hm (fun h=>?_) fun h=>?_
   ·exact IntMulOk.of_left (intBits_le_64 (o79 h) (o80 h))
   ·exact IntMulOk.of_right (intBits_le_64 (o79 h) (o80 h))
  ·exact nos hb
 | Mod =>
  refine ifs hb (fun _ hb=>?_) fun _ hb=>?_
  ·obtain rfl:=Option.some.inj hb; exact PyProof.Rows.mod_int' (Zu9 ‹_›) (Zp i (k _ _ .int))
  ·exact nos hb
 | FloorDiv =>
  refine ifs hb (fun _ hb=>?_) fun _ hb=>?_
  ·rename_i h
   obtain rfl:=Option.some.inj hb; exact PyProof.Rows.floordiv_int (Zva h) (Zp i (k _ _ .int)) (Or.inl (PyProof.noPylong_small (Zvb h)))
  ·exact nos hb
 | Pow =>
  refine ifs hb (fun _ hb=>?_) fun _ hb=>?_
  ·rename_i h
   refine ZL h fun eQ0_0 eQ0_1=>?_; subst eQ0_0; subst eQ0_1
   obtain rfl:=Option.some.inj hb
   exact PyProof.Rows.pow_int_small (by decide) (by decide) (by decide) (Zp i (k _ _ .int))
  ·exact nos hb
 | _=>exact nos hb
theorem Zn5 {o:Operator} {a b:Int} {t u:Tok} {c:LV} {Ψ:Value->St->Shared->Prop} (i:Inv G P σ s.heap) (ho:o=.Sub\/o=.Add) (hb:ZdT o σ (.int a) (.int b)=some c)
  (k:∀ v tk,Rep G (Dom P σ) s.heap c v->Ψ v σ { s with toks:=tk }):TT G A P F (inplaceOp o (.int a t) (.int b u)) Ψ σ s:=by
 rcases ho with rfl | rfl
 ·obtain rfl:=Option.some.inj hb; exact PyProof.Rows.isub_int (Zp i (k _ _ .int))
 ·obtain rfl:=Option.some.inj hb; exact PyProof.Rows.iadd_int (Zp i (k _ _ .int))
theorem Zn9 {xs ys:List LV} {x y:Value} {c:LV} {Ψ:Value->St->Shared->Prop} (i:Inv G P σ s.heap) (hb:ZdT .Add σ (.tup xs) (.tup ys)=some c)
  (rx:Rep G (Dom P σ) s.heap (.tup xs) x) (ry:Rep G (Dom P σ) s.heap (.tup ys) y)
  (k:∀ v h',(∀ b o,s.heap.get? b=some o->h'.get? b=some o)->Rep G (Dom P σ) h' c v->Ψ v σ { s with heap:=h' }):TT G A P F (binaryOp .Add x y) Ψ σ s:=by
 refine rx.tupE fun a ws n da ga qa=>?_
 refine ry.tupE fun b us n' db gb qb=>?_
 refine ifs hb (fun _ hb=>?_) fun _ hb=>?_
 ·rename_i hl
  obtain rfl:=Option.some.inj hb
  have la:=qa.length
  have lb:=qb.length
  by_cases hv:ws.isEmpty=true
  ·refine concat_meets (ZaE ga) (ZaE gb) noFill_tuple_add seq_tuple_add PySem.F.slot_tuple_add PySem.F.entry_tuple_add (PySem.F.args_tuple_add_2 _ _)
    (tuple_addW0 a b ws us n n' none none #[] #[] hv) ⟨ga,gb,Zan i (k _ _ (fun _ _ e=>e) ?_)⟩
   have:xs=[]:=by
    cases xs with
    | nil=>rfl
    | cons z r=>rw [List.length_cons] at la; rw [Array.isEmpty_iff] at hv; subst hv; simp at la
   subst this
   exact Rep.tup_mk db gb qb
  ·by_cases hw:us.isEmpty=true
   ·refine concat_meets (ZaE ga) (ZaE gb) noFill_tuple_add seq_tuple_add PySem.F.slot_tuple_add PySem.F.entry_tuple_add (PySem.F.args_tuple_add_2 _ _)
     (tuple_addW1 a b ws us n n' none none #[] #[] hv hw) ⟨ga,gb,Zan i (k _ _ (fun _ _ e=>e) ?_)⟩
    have:ys=[]:=by
     cases ys with
     | nil=>rfl
     | cons z r=>rw [List.length_cons] at lb; rw [Array.isEmpty_iff] at hw; subst hw; simp at lb
    subst this
    rw [List.append_nil]
    exact Rep.tup_mk da ga qa
   ·refine concat_meets (ZaE ga) (ZaE gb) noFill_tuple_add seq_tuple_add PySem.F.slot_tuple_add PySem.F.entry_tuple_add (PySem.F.args_tuple_add_2 _ _)
     (tuple_addW2 a b ws us n n' none none #[] #[] hv hw (by rw [sizeLine_eq]; simp only [Array.length_toList] at la lb; exact o81 hl la lb)) ⟨ga,gb,Za5 i (Zg _) (k _ _ (Zg _) ?_)⟩
    exact ZcW i (by rw [Array.toList_append]; exact qa.append qb)
 ·exact nos hb
theorem Zn8 {xs ys:List LV} {x y:Value} {c:LV} {Ψ:Value->St->Shared->Prop} (i:Inv G P σ s.heap) (hb:ZdT .Add σ (.lst xs) (.lst ys)=some c)
  (rx:Rep G (Dom P σ) s.heap (.lst xs) x) (ry:Rep G (Dom P σ) s.heap (.lst ys) y)
  (k:∀ v h',(∀ b o,s.heap.get? b=some o->h'.get? b=some o)->Rep G (Dom P σ) h' c v->Ψ v σ { s with heap:=h' }):TT G A P F (binaryOp .Add x y) Ψ σ s:=by
 refine rx.lstE fun a ws n da ga qa=>?_
 refine ry.lstE fun b us n' db gb qb=>?_
 refine ifs hb (fun _ hb=>?_) fun _ hb=>?_
 ·rename_i hl
  obtain rfl:=Option.some.inj hb
  have la:=qa.length
  have lb:=qb.length
  refine concat_meets (ZbD ga) (ZbD gb) noFill_list_add seq_list_add PySem.F.slot_list_add PySem.F.entry_list_add (PySem.F.args_list_add_2 _ _)
   (list_addW a b ws us n n' none none #[] #[] (by rw [sizeLine_eq]; simp only [Array.length_toList] at la lb; exact o81 hl la lb)) ⟨ga,gb,Za5 i (Zg _) (k _ _ (Zg _) ?_)⟩
  exact ZeJ i (by rw [Array.toList_append]; exact qa.append qb)
 ·exact nos hb
end
noncomputable def ZdW:Expr->Bool
 | .Slice ..=>false
 | _=>true
theorem Zaq {slice:Expr} {o i:Value} (h:ZdW slice=true):subscripted slice false o i=operate [o,i] (getItem o i):=by
 cases slice <;> first | rfl | cases h
section
variable {G:Glo} {A:Around} {P F:Addr->Prop} {σ:St} {s:Shared}
theorem Zld (B:Base G) (i:Inv G P σ s.heap) {d:Addr} (h:σ d ≠ none):(d == sysModules)=false:=by
 refine ZU B.sys fun o ho=>?_
 cases e:(d == sysModules) with
 | false=>rfl
 | true=>rw [eq_of_beq e] at h; rw [i.new _ h] at ho; exact nos ho
open Classical in
theorem Zdm {D:Addr->Prop} {h:Heap} {k:LV}:∀ {es:List (LV × LV)} {xs:List (LV × Addr × Value)},Zga G D h es xs->
  match Zdt k es with
  | some v=>∃ p,atKey xs k=some p/\Rep G D h v p.2
  | none=>atKey xs k=none
 | [],_,r=>by cases r; rfl
 | (x,v)::r,_,q=>by
  refine Zpp q fun a u p eQ0_3 d h1 h2 h3=>?_; subst eQ0_3
  rw [ZcT]
  by_cases e:k=x
  ·subst e
   rw [if_pos rfl]
   exact ⟨(a,u),by simp [atKey],h2⟩
  ·rw [if_neg e]
   have e':¬ x=k:=fun z=>e z.symm
   have:=Zdm (k:=k) h3
   split at this
   ·rename_i w hw; obtain ⟨p',hp,rp⟩:=this; exact ⟨p',by simpa [atKey,e'] using hp,rp⟩
   ·rename_i hw; simpa [atKey,e'] using this
open Classical in
theorem ZdJ {k:LV}:∀ {es:List (LV × LV)},(Zdt k es).isSome=decide (k ∈ es.map (·.1))
 | []=>by simp [Zdt]
 | (x,v)::r=>by
  rw [ZcT]
  by_cases e:k=x
  ·subst e; simp
  ·rw [if_neg e,ZdJ]; simp [e]
theorem ZdK {k:Int}:∀ {es:List (Int × LV)},(Za3 k es).isSome=decide (k ∈ es.map (·.1))
 | []=>by simp [Za3]
 | (x,v)::r=>by
  rw [ZbR]
  by_cases e:k=x
  ·subst e; simp
  ·rw [if_neg e,ZdK]; simp [e]
theorem Zg8 {vs:List LV} {n:Int} {c:LV} (h:Zeu vs n=some c):0<=n/\n<=1000000/\vs[n.toNat]?=some c:=by
 refine ifs h (fun _ h=>?_) fun _ h=>?_
 ·rename_i q; exact ⟨q.1,q.2,h⟩
 ·exact nos h
theorem ZhX {D:Addr->Prop} {E:Value->Shared->Prop} {Q:Value->Shared->Prop} {vs:List LV} {n:Int} {t:Tok} {c:LV} {p:Addr} {ws:Array Value} {m:Nat} (hb:Zeu vs n=some c) (g:s.heap.get? p=some (Zhq ws m)) (q:Zz G D s.heap vs ws.toList)
  (k:∀ w,Rep G D s.heap c w->Q w s):wpAny (model G.prog G.w) A (getItem (.ref p) (.int n t)) Q E s:=by
 refine Zbp (Zg8 hb) fun h0 h1 hb=>?_
 refine Ze (q.at hb) fun w hw rw'=>?_
 have hlt:n.toNat < ws.size:=by obtain ⟨z,_⟩:=List.getElem?_eq_some_iff.mp hw; simpa using z
 exact getItem_tuple ⟨_,g,rfl,m,rfl⟩ (Zvc h0) (o38 h1) (seqIndex_of h0 (Zvd hlt)) (by simpa using hw) (k _ rw')
theorem ZhW {D:Addr->Prop} {E:Value->Shared->Prop} {Q:Value->Shared->Prop} {vs:List LV} {n:Int} {t:Tok} {c:LV} {p:Addr} {ws:Array Value} {m:Nat} (hb:Zeu vs n=some c) (g:s.heap.get? p=some (Zdj ws m)) (q:Zz G D s.heap vs ws.toList)
  (k:∀ w,Rep G D s.heap c w->Q w s):wpAny (model G.prog G.w) A (getItem (.ref p) (.int n t)) Q E s:=by
 refine Zbp (Zg8 hb) fun h0 h1 hb=>?_
 refine Ze (q.at hb) fun w hw rw'=>?_
 exact wpAny_getItem_list ⟨_,g,rfl,m,rfl⟩ h0 (o38 h1) (by simpa using hw) (k _ rw')
theorem Zeg {D:Addr->Prop} {h:Heap} {v:LV} {x:Value} (t:Zov v=true) (r:Rep G D h v x):∃ a,x=.ref a:=by
 cases v <;> first | cases t | skip
 refine ZjU r.tup_inv fun a _ _ e _=>?_
 exact ⟨a,e⟩
theorem Zk3 {σ:St} {v:LV} {vs:List LV} (e:Zaa σ v=some vs):v=.lst vs\/∃ a,v=.ref a/\σ a=some (.list vs):=by
 cases v with
 | lst us=>obtain rfl:=Option.some.inj e; exact .inl rfl
 | ref a =>
  refine .inr ⟨a,rfl,?_⟩
  revert e
  show (match σ a with | some (.list vs)=>some vs | _=>none)=some vs->_
  cases σ a with
  | none=>exact fun h=>nos h
  | some o=>cases o with
   | list us=>exact fun h=>by rw [Option.some.inj h]
   | _=>exact fun h=>nos h
 | _=>exact nos e
theorem Zbb (i:Inv G P σ s.heap) {v:LV} {x:Value} {vs:List LV} (r:Rep G (Dom P σ) s.heap v x) (e:Zaa σ v=some vs):∃ a ws n,x=.ref a/\s.heap.get? a=some (Zdj ws n)/\Zz G (Dom P σ) s.heap vs ws.toList:=by
 refine Or.elim (Zk3 e) (fun e=>?_) fun e=>Ze e fun a e hσ=>?_
 ·subst e
  exact r.lstE fun a ws n d g q=>⟨a,ws,n,rfl,g,q⟩
 ·subst e
  refine Zik (i.tr _ _ hσ) fun ws n g q=>⟨a,ws,n,r,g,q⟩
open Classical in
theorem ZqG (B:Base G) (R:Room A) {a b c:LV} {x y:Value} {value slice:Expr} {Ψ:Value->St->Shared->Prop} (hsl:ZdW slice=true) (i:Inv G P σ s.heap) (hb:Zge σ a b=some c)
  (ra:Rep G (Dom P σ) s.heap a x) (rb:Rep G (Dom P σ) s.heap b y) (k:∀ v tk,Rep G (Dom P σ) s.heap c v->Ψ v σ { s with toks:=tk }):TT G A P F (subscriptTail value slice x y) Ψ σ s:=by
 have hu:=R.units
 refine Zf3 hb (fun vs hv hb=>?_) fun _ hb=>Zf3 hb (fun es hd hb=>?_) fun _ hb=>?_
 ·refine Ze (bnd hb) fun n hn hb=>?_
  obtain rfl:=ZP hn
  refine rb.intE fun t=>?_
  refine Or.elim (ZbA hv) (fun hv=>?_) fun hv=>?_
  ·obtain rfl:=Zb7 hv
   exact ra.tupE fun p ws m d g q=>tail_any (ZaE g) slot_tuple_getitem.lookup (ZhX hb g q fun w rw'=>Zp i (k _ _ rw')) (Zaq hsl)
  ·refine ZlT (Zbb i ra hv) fun p ws m e g q=>?_
   subst e
   exact tail_any (ZbD g) slot_list_getitem.lookup (ZhW hb g q fun w rw'=>Zp i (k _ _ rw')) (Zaq hsl)
 ·refine ifs hb (fun tk hb3=>?_) fun _ hb=>nos hb
  refine Ze (Ziw hd) fun r e hσ=>?_
  subst e
  have ra:x=.ref r:=ra
  subst ra
  obtain ⟨z,rfl⟩:=Zeg (ZK tk).1 rb
  obtain ⟨xs,dx,rx⟩:=(i.tr _ _ hσ).dictOf
  have l:=Zdm (k:=b) rx
  rw [hb3] at l
  obtain ⟨p,hp,rp⟩:=l
  exact tail_any dx.typeIs slot_dict_getitem.lookup (wpAny_getItem_heap (knd:=kind G) (by show A.units + 1 + 64 < cLine; exact o23 hu) (show (kind G).is s.heap b z from (⟨tk,rb.any⟩:ZaL b=true/\Rep G Zpz s.heap b (.ref z))) dx hp (Zp i (k _ _ rp))) (Zaq hsl)
 ·refine Ze (bnd hb) fun es hd hb=>Ze (bnd hb) fun n hn hb3=>?_
  obtain rfl:=ZP hn
  refine Ze (ZgP hd) fun r e hσ=>?_
  subst e
  have ra:x=.ref r:=ra
  subst ra
  refine rb.intE fun t=>?_
  obtain ⟨f,im,le,q⟩:=i.tr _ _ hσ
  have l:=q n
  rw [hb3] at l
  obtain ⟨u,hu,ru⟩:=l
  exact tail_any im.typeIs slot_dict_getitem.lookup (wpAny_getItem_intMap im hu (Zp i (k _ _ ru))) (Zaq hsl)
end
end
section
open PySem
set_option maxRecDepth 10000
noncomputable def Zm2 (mask:Nat):Nat->Nat->Nat->List Nat
 | 0,_,_=>[]
 | n + 1,i,p=>i::Zm2 mask n (SetTable.leap mask i p).1 (SetTable.leap mask i p).2
theorem Zny (mask owner n i p):SetTable.layClean.free mask owner (n + 1) i p=((List.range (SetTable.runEnd mask i + 1 - i)).find? fun k=>(owner.getD (i + k) (some 0)).isNone).elim (SetTable.layClean.free mask owner n (SetTable.leap mask i p).1 (SetTable.leap mask i p).2) fun k=>some (i + k):=by kernel_rfl
theorem ZgH {mask:Nat} {owner:Array (Option Nat)}:∀ (n i p:Nat),(∃ x ∈ Zm2 mask n i p,(owner.getD x (some 0)).isNone=true)->∃ j,SetTable.layClean.free mask owner n i p=some j/\(owner.getD j (some 0)).isNone=true
 | 0,i,p,⟨x,hx,_⟩=>by cases hx
 | n + 1,i,p,⟨x,hx,hn⟩=>by
  rw [Zny]
  cases hf:(List.range (SetTable.runEnd mask i + 1 - i)).find? fun k=>(owner.getD (i + k) (some 0)).isNone with
  | some k =>
   have:=List.find?_some hf
   exact ⟨i + k,rfl,this⟩
  | none =>
   rcases List.mem_cons.mp hx with rfl | hx
   ·exfalso
    have h0:=List.find?_eq_none.mp hf 0 (List.mem_range.mpr (by
     unfold SetTable.runEnd
     split <;> omega))
    rw [Nat.add_zero] at h0
    exact h0 hn
   ·exact ZgH n _ _ ⟨x,hx,hn⟩
theorem Zmp {mask:Nat} {owner:Array (Option Nat)} {n i p:Nat} (h:(owner.getD i (some 0)).isNone=true):SetTable.layClean.free mask owner (n + 1) i p=some i:=by
 rw [Zny]
 have:(List.range (SetTable.runEnd mask i + 1 - i)).find? (fun k=>(owner.getD (i + k) (some 0)).isNone)=some 0:=by
  have hr:SetTable.runEnd mask i + 1 - i=(SetTable.runEnd mask i - i) + 1:=by
   unfold SetTable.runEnd
   split <;> omega
  rw [hr,List.range_succ_eq_map,List.find?_cons]
  rw [Nat.add_zero,h]
 rw [this]
 rfl
noncomputable def ZeK (m:Nat):Prop:=m=7\/m=15\/m=31
noncomputable def ZaW (m:Nat):Prop:=ZeK m\/63<=m
noncomputable def Zgw (m:Nat):Bool:=(List.range 64).all fun h=>(List.range (m + 1)).all fun s=>(Zm2 m (m + 15) (h % (m + 1)) h).contains s
theorem ZpJ:Zgw 7=true:=by decide +kernel
theorem Zog:Zgw 15=true:=by decide +kernel
theorem Zoh:Zgw 31=true:=by decide +kernel
theorem Zrn {m:Nat} (hm:ZeK m) {h s:Nat} (hh:h < 64) (hs:s<=m):s ∈ Zm2 m (m + 15) (h % (m + 1)) h:=by
 have:Zgw m=true:=by
  rcases hm with rfl | rfl | rfl
  ·exact ZpJ
  ·exact Zog
  ·exact Zoh
 unfold Zgw at this
 rw [List.all_eq_true] at this
 have:=this h (List.mem_range.mpr hh)
 rw [List.all_eq_true] at this
 have:=this s (List.mem_range.mpr (o19 hs))
 simpa using this
theorem Zjn {h:Nat} (hh:h < 64):SetTable.bits (h:Int)=h:=by
 unfold SetTable.bits
 have:((h:Nat):Int) % (2 ^ 64:Int)=(h:Int):=Int.emod_eq_of_lt o6 (Zwt hh)
 rw [this]
 rfl
structure Half (mask:Nat) (js:List Nat) (owner:Array (Option Nat)):Prop where
 size:owner.size=mask + 1
 nd:js.Nodup
 lt:∀ j ∈ js,j<=mask
 at_:∀ j,j<=mask->owner[j]?=some (if j ∈ js then some (js.idxOf j) else none)
theorem Half.free {mask:Nat} {js:List Nat} {owner:Array (Option Nat)} (H:Half mask js owner) {j:Nat}:(owner.getD j (some 0)).isNone=true ↔ j<=mask/\j ∉ js:=by
 rw [Array.getD_eq_getD_getElem?]
 by_cases hj:j<=mask
 ·rw [H.at_ j hj]
  by_cases hm:j ∈ js
  ·simp [hm]
  ·simp [hm,hj]
 ·rw [Array.getElem?_eq_none (by rw [H.size]; exact Zwu hj)]
  simp [hj]
theorem Half.put {mask:Nat} {js:List Nat} {owner:Array (Option Nat)} (H:Half mask js owner) {j:Nat} (h1:j<=mask) (h2:j ∉ js):Half mask (js++[j]) (owner.setIfInBounds j (some js.length)):=by
 refine ⟨by rw [Array.size_setIfInBounds,H.size],List.nodup_append.mpr ⟨H.nd,by simp,fun a ha b hb e=>h2 (by rw [List.mem_singleton] at hb; rw [<- hb,<- e]; exact ha)⟩,fun x hx=>?_,fun x hx=>?_⟩
 ·refine Or.elim (List.mem_append.mp hx) (fun hx=>?_) fun hx=>?_
  ·exact H.lt x hx
  ·rw [List.mem_singleton.mp hx]; exact h1
 ·rw [Array.getElem?_setIfInBounds]
  by_cases e:j=x
  ·subst e
   rw [if_pos rfl,if_pos (by rw [H.size]; exact o19 h1),if_pos (by simp),List.idxOf_append,if_neg h2]
   simp
  ·rw [if_neg e,H.at_ x hx]
   by_cases hm:x ∈ js
   ·rw [if_pos hm,if_pos (List.mem_append_left _ hm),List.idxOf_append,if_pos hm]
   ·rw [if_neg hm,if_neg]
    intro h
    refine Or.elim (List.mem_append.mp h) (fun h=>?_) fun h=>?_
    ·exact hm h
    ·exact e (List.mem_singleton.mp h).symm
theorem Zcl {α:Type} [DecidableEq α]:∀ {K U:List α},K.Nodup->(∀ p ∈ K,p ∈ U)->K.length<=U.length
 | [],U,_,_=>Nat.zero_le _
 | p::K,U,nd,h=>by
  obtain ⟨h1,h2⟩:=List.nodup_cons.mp nd
  have hp:=h p List.mem_cons_self
  have:=Zcl (K:=K) (U:=U.erase p) h2 fun q hq=>(List.mem_erase_of_ne (fun (e:q=p)=>h1 (e ▸ hq))).mpr (h q (List.mem_cons_of_mem _ hq))
  rw [List.length_erase_of_mem hp] at this
  rw [List.length_cons]
  exact Nat.add_le_of_le_sub (List.length_pos_of_mem hp) this
theorem Half.step {mask:Nat} (hm:ZaW mask) {js:List Nat} {owner:Array (Option Nat)} (H:Half mask js owner) (hl:js.length<=mask) {done:List Nat} (hd:63<=mask->js=done) {h:Nat} (hh:h < 64) (hn:h ∉ done) :
  ∃ j,SetTable.layClean.free mask owner (SetTable.turns mask) (SetTable.bits (h:Int) % (mask + 1)) (SetTable.bits (h:Int))=some j/\j<=mask/\j ∉ js/\(63<=mask->j=h):=by
 rw [Zjn hh]
 by_cases h63:63<=mask
 ·have hmod:h % (mask + 1)=h:=Nat.mod_eq_of_lt (Zwv hh h63)
  have hnj:h ∉ js:=by rw [hd h63]; exact hn
  refine ⟨h,?_,o93 hh h63,hnj,fun _=>rfl⟩
  rw [hmod]
  exact Zmp (n:=mask + 14) (H.free.mpr ⟨o93 hh h63,hnj⟩)
 ·have hsm:ZeK mask:=hm.resolve_right h63
  obtain ⟨s,hs1,hs2⟩:∃ s,s<=mask/\s ∉ js:=by
   apply Classical.byContradiction
   intro hc
   have:=Zcl (K:=List.range (mask + 1)) (U:=js) List.nodup_range fun p hp=>by
    apply Classical.byContradiction
    intro hpj
    exact hc ⟨p,by have:=List.mem_range.mp hp; exact o94 this,hpj⟩
   rw [List.length_range] at this
   exact Zww hl this
  obtain ⟨j,h1,h2⟩:=ZgH (mask:=mask) (owner:=owner) (mask + 15) (h % (mask + 1)) h ⟨s,Zrn hsm hh hs1,H.free.mpr ⟨hs1,hs2⟩⟩
  have:=H.free.mp h2
  exact ⟨j,h1,this.1,this.2,fun h=>absurd h h63⟩
theorem Zbh {α:Type} [DecidableEq α]:∀ {xs ys:List α},xs.Nodup->ys.Nodup->(∀ a,a ∈ xs ↔ a ∈ ys)->xs.Perm ys
 | [],ys,_,_,h=>by
  have:ys=[]:=List.eq_nil_iff_forall_not_mem.mpr fun a ha=>by cases (h a).mpr ha
  rw [this]
 | x::xs,ys,hx,hy,h=>by
  obtain ⟨h1,h2⟩:=List.nodup_cons.mp hx
  have hm:=(h x).mp List.mem_cons_self
  have hp:=List.perm_cons_erase hm
  have ih:=Zbh h2 (hy.erase x) fun a=>by
   constructor
   ·intro ha
    have hne:a ≠ x:=fun e=>h1 (e ▸ ha)
    exact (List.mem_erase_of_ne hne).mpr ((h a).mp (List.mem_cons_of_mem _ ha))
   ·intro ha
    have hne:a ≠ x:=fun e=>by
     subst e
     exact (List.Nodup.not_mem_erase hy) ha
    have:=(h a).mpr (List.mem_of_mem_erase ha)
    exact (List.mem_cons.mp this).resolve_left hne
  exact (List.Perm.cons x ih).trans hp.symm
theorem Zfz {α β:Type} {f g:α->Option β}:∀ {xs:List α},(∀ x ∈ xs,f x=g x)->xs.filterMap f=xs.filterMap g
 | [],_=>rfl
 | x::xs,h=>by
  rw [List.filterMap_cons,List.filterMap_cons,h x List.mem_cons_self,Zfz fun y hy=>h y (List.mem_cons_of_mem _ hy)]
noncomputable abbrev ZhY (mask:Nat) (acc:Option (Array (Option Nat) × Nat)) (h:Int):Option (Array (Option Nat) × Nat):=do
  let (owner,k) <- acc
  let j <- SetTable.layClean.free mask owner (SetTable.turns mask) (SetTable.bits h % (mask + 1)) (SetTable.bits h)
  pure (owner.setIfInBounds j (some k),k + 1)
theorem ZiO {mask:Nat} (hm:ZaW mask):∀ {hs:List Int} {done js:List Nat} {owner:Array (Option Nat)},Half mask js owner->(63<=mask->js=done)->(∀ x ∈ hs,0<=x/\x < 64)->hs.Nodup->(∀ x ∈ hs,x.toNat ∉ done)->js.length + hs.length<=mask->
  ∃ js' owner',hs.foldl (ZhY mask) (some (owner,js.length))=some (owner',js'.length)/\Half mask js' owner'/\js'.length=js.length + hs.length
 | [],done,js,owner,H,hd,hb,nd,hn,hl=>⟨js,owner,rfl,H,rfl⟩
 | x::hs,done,js,owner,H,hd,hb,nd,hn,hl=>by
  obtain ⟨n1,n2⟩:=List.nodup_cons.mp nd
  rw [List.length_cons] at hl
  obtain ⟨b0,b1⟩:=hb x List.mem_cons_self
  obtain ⟨h,rfl⟩:=Int.eq_ofNat_of_zero_le b0
  obtain ⟨j,hj1,hj2,hj3,hj4⟩:=H.step hm (ZwD hl) hd (h:=h) (o45 b1) (by simpa using hn _ List.mem_cons_self)
  have H':=H.put hj2 hj3
  have e1:ZhY mask (some (owner,js.length)) (h:Int)=some (owner.setIfInBounds j (some js.length),js.length + 1):=by
   show (SetTable.layClean.free mask owner (SetTable.turns mask) (SetTable.bits (h:Int) % (mask + 1)) (SetTable.bits (h:Int)) >>= fun j=>pure (owner.setIfInBounds j (some js.length),js.length + 1))=_
   rw [hj1]
   rfl
  have hlen:(js++[j]).length=js.length + 1:=by simp
  obtain ⟨js',owner',h1,h2,h3⟩:=ZiO hm (hs:=hs) (done:=done++[h]) H' (fun h63=>by rw [hd h63,hj4 h63]) (fun y hy=>hb y (List.mem_cons_of_mem _ hy)) n2 (fun y hy hc=>by
   refine Or.elim (List.mem_append.mp hc) (fun hc=>?_) fun hc=>?_
   ·exact hn y (List.mem_cons_of_mem _ hy) hc
   ·have e:=List.mem_singleton.mp hc
    have:=(hb y (List.mem_cons_of_mem _ hy)).1
    have:y=(h:Int):=ZwE e this
    subst this
    exact n1 hy) (by rw [hlen]; exact ZwF hl)
  refine ⟨js',owner',?_,h2,by rw [h3,hlen,List.length_cons]; exact o17⟩
  rw [List.foldl_cons,e1,<- hlen]
  exact h1
theorem Zmv (mask:Nat):Half mask [] (Array.replicate (mask + 1) none):=by
 refine ⟨Array.size_replicate,List.nodup_nil,(fun j h=>by cases h),fun j hj=>?_⟩
 rw [Array.getElem?_replicate,if_pos (o19 hj)]
 simp
theorem Zk1 {mask:Nat} (hm:ZaW mask) {hs:Array Int} (hb:∀ x ∈ hs.toList,0<=x/\x < 64) (nd:hs.toList.Nodup) (hl:hs.size<=mask):∃ js owner,SetTable.layClean mask hs=some owner/\Half mask js owner/\js.length=hs.size:=by
 obtain ⟨js,owner,h1,h2,h3⟩:=ZiO hm (hs:=hs.toList) (done:=[]) (Zmv mask) (fun _=>rfl) hb nd (fun x _=>by simp) (by simpa using hl)
 refine ⟨js,owner,?_,h2,by simpa using h3⟩
 unfold SetTable.layClean
 rw [<- Array.foldl_toList]
 have:hs.toList.foldl (ZhY mask) (some (Array.replicate (mask + 1) none,0))=some (owner,js.length):=h1
 have e:(hs.toList.foldl (fun acc h=>do
  let (owner,k) <- acc
  let j <- SetTable.layClean.free mask owner (SetTable.turns mask) (SetTable.bits h % (mask + 1)) (SetTable.bits h)
  pure (owner.setIfInBounds j (some k),k + 1)) (some (Array.replicate (mask + 1) none,0)))=some (owner,js.length):=this
 rw [e]
 rfl
theorem Zk0 {mask finger moves:Nat} {led plain:Bool} (hm:ZaW mask) {hs:Array Int} (hb:∀ x ∈ hs.toList,0<=x/\x < 64) (nd:hs.toList.Nodup) (hl:hs.size<=mask) :
  ∃ t order,SetTable.laid mask finger moves led plain hs=some (t,order)/\order.toList.Perm (List.range hs.size)/\t.fits hs.size=true/\t.mask=mask:=by
 obtain ⟨js,owner,h1,H,h3⟩:=Zk1 hm hb nd hl
 unfold SetTable.laid
 rw [h1]
 refine ⟨_,_,rfl,?_,?_,rfl⟩
 all_goals
  have hlive:(List.range (mask + 1)).filterMap (fun j=>(owner.getD j none).map (j,·))=(List.range (mask + 1)).filterMap (fun j=>if j ∈ js then some (j,js.idxOf j) else none):=by
   refine Zfz fun j hj=>?_
   have hj':j<=mask:=by have:=List.mem_range.mp hj; exact o94 this
   rw [Array.getD_eq_getD_getElem?,H.at_ j hj']
   by_cases hx:j ∈ js
   ·simp [hx]
   ·simp [hx]
  have hord:((List.range (mask + 1)).filterMap (fun j=>if j ∈ js then some (j,js.idxOf j) else none)).map (·.2)=(List.range (mask + 1)).filterMap (fun j=>if j ∈ js then some (js.idxOf j) else none):=by
   rw [List.map_filterMap]
   refine Zfz fun j _=>?_
   by_cases hx:j ∈ js <;> simp [hx]
  have hperm:((List.range (mask + 1)).filterMap (fun j=>if j ∈ js then some (js.idxOf j) else none)).Perm (List.range hs.size):=by
   refine Zbh ?_ List.nodup_range fun i=>?_
   ·refine List.Pairwise.filterMap _ (fun a a' hne b hb' b' hb''=>?_) List.nodup_range
    by_cases ha:a ∈ js
    ·by_cases ha':a' ∈ js
     ·rw [if_pos ha] at hb'
      rw [if_pos ha'] at hb''
      simp only [Option.mem_def,Option.some.injEq] at hb' hb''
      intro e
      rw [<- hb',<- hb''] at e
      have x1:js[js.idxOf a]?=some a:=by rw [List.getElem?_eq_getElem (List.idxOf_lt_length_iff.mpr ha)]; simp
      have x2:js[js.idxOf a']?=some a':=by rw [List.getElem?_eq_getElem (List.idxOf_lt_length_iff.mpr ha')]; simp
      rw [e,x2] at x1
      injection x1 with x1
      exact hne x1.symm
     ·rw [if_neg ha'] at hb''; cases hb''
    ·rw [if_neg ha] at hb'; cases hb'
   ·rw [List.mem_filterMap,List.mem_range,<- h3]
    constructor
    ·rintro ⟨j,hj,e⟩
     by_cases hx:j ∈ js
     ·rw [if_pos hx] at e
      injection e with e
      rw [<- e]
      exact List.idxOf_lt_length_iff.mpr hx
     ·rw [if_neg hx] at e; cases e
    ·intro hi
     have hx:js[i] ∈ js:=List.getElem_mem hi
     refine ⟨js[i],List.mem_range.mpr (by have:=H.lt _ hx; exact ZwG hi this),?_⟩
     rw [if_pos hx,List.Nodup.idxOf_getElem H.nd]
  try dsimp only
  rw [hlive]
 ·rw [hord]
  exact hperm
 ·have hlen:((List.range (mask + 1)).filterMap (fun j=>if j ∈ js then some (j,js.idxOf j) else none)).length=hs.size:=by
   have:=hperm.length_eq
   rw [<- hord,List.length_map,List.length_range] at this
   exact this
  unfold SetTable.fits SetTable.fill
  simp [hlen]
  exact hl
noncomputable def ZqC (w:Nat):Bool:=((SetTable.sizeAbove w - 1 == 7) || (SetTable.sizeAbove w - 1 == 15) || (SetTable.sizeAbove w - 1 == 31) || Nat.ble 63 (SetTable.sizeAbove w - 1))&&Nat.blt w (SetTable.sizeAbove w)&&Nat.ble (SetTable.sizeAbove w) 1024
theorem Zlz:(List.range 300).all ZqC=true:=by decide +kernel
theorem ZlA {w:Nat} (h:w < 300):ZaW (SetTable.sizeAbove w - 1)/\w < SetTable.sizeAbove w/\SetTable.sizeAbove w<=1024:=by
 have:=Zlz
 rw [List.all_eq_true] at this
 have:=this w (List.mem_range.mpr h)
 unfold ZqC at this
 simp only [Bool.and_eq_true,Bool.or_eq_true,beq_iff_eq,Nat.ble_eq,Nat.blt_eq] at this
 obtain ⟨⟨h1,h2⟩,h3⟩:=this
 refine ⟨?_,h2,h3⟩
 exact ZwH h1
end
section
open PySem PySem.W PyProof.Rows PySem.Calls
set_option maxRecDepth 10000
noncomputable def ZaI (es:Array (Int × Value)) (ep:Nat) (t:SetTable):Obj:={ cls:=.type "frozenset",dict:=none,data:=.set es ep t }
theorem Zji.eq {o:Obj} {xs:List Int} (h:Zji o xs):∃ es ep t,o=ZaI es ep t/\SetIn es t xs:=by
 obtain ⟨h1,h2,h3,es,ep,t,h4,h5⟩:=h
 refine ⟨es,ep,t,?_,h5⟩
 obtain ⟨c,d,dt,sl⟩:=o
 simp only at h1 h2 h3 h4
 subst h1 h2 h3 h4
 rfl
theorem Zji.mk' {es:Array (Int × Value)} {ep:Nat} {t:SetTable} {xs:List Int} (h:SetIn es t xs):Zji (ZaI es ep t) xs:=⟨rfl,rfl,rfl,es,ep,t,rfl,h⟩
theorem SetIn.perm {es:Array (Int × Value)} {t:SetTable} {xs ys:List Int} (h:SetIn es t xs) (p:xs.Perm ys):SetIn es t ys :=
 ⟨h.ent,h.vals.trans p,p.nodup_iff.mp h.nodup,fun i hi=>h.bnd i (p.mem_iff.mpr hi),h.fits⟩
theorem SetIn.mem {es:Array (Int × Value)} {t:SetTable} {xs:List Int} (h:SetIn es t xs) {i:Int}:i ∈ es.toList.map (·.1) ↔ i ∈ xs:=h.vals.mem_iff
theorem SetIn.size {es:Array (Int × Value)} {t:SetTable} {xs:List Int} (h:SetIn es t xs):es.size=xs.length:=by
 have:=h.vals.length_eq
 rw [List.length_map,Array.length_toList] at this
 exact this
theorem few {xs:List Int} (nd:xs.Nodup) (hb:∀ i ∈ xs,0<=i/\i < 64):xs.length<=64:=by
 have:=Zcl (K:=xs) (U:=(List.range 64).map fun (n:Nat)=>(n:Int)) nd fun i hi=>by
  refine ZL (hb i hi) fun h0 h1=>?_
  refine ZU (Int.eq_ofNat_of_zero_le h0) fun n eQ0_1=>?_; subst eQ0_1
  exact List.mem_map.mpr ⟨n,List.mem_range.mpr (o45 h1),rfl⟩
 rw [List.length_map,List.length_range] at this
 exact this
theorem SetIn.few {es:Array (Int × Value)} {t:SetTable} {xs:List Int} (h:SetIn es t xs):es.size<=64:=by rw [h.size]; exact Mine.few h.nodup h.bnd
theorem Zcw {i:Int} (h0:0<=i) (h1:i < 64):hashInt i=i:=by
 have:∀ n:Nat,n < 64->hashInt (n:Int)=(n:Int):=by
  have:(List.range 64).all (fun n=>hashInt (n:Int) == (n:Int))=true:=by decide +kernel
  intro n hn
  rw [List.all_eq_true] at this
  exact eq_of_beq (this n (List.mem_range.mpr hn))
 refine ZU (Int.eq_ofNat_of_zero_le h0) fun n eQ0_1=>?_; subst eQ0_1
 exact this n (o45 h1)
section
variable {prog:Program} {w:World} {A:Around} {E:Value->Shared->Prop} {s:Shared} {a:Addr} {es:Array (Int × Value)} {ep:Nat} {t:SetTable} {xs:List Int}
theorem SetIn.elems (h:SetIn es t xs):ElemsOf (intKind prog w) es.toList:=fun e he=>by
 refine ZU (h.ent e he) fun u hu=>?_
 have hm:e.1 ∈ xs:=h.mem.mp (List.mem_map_of_mem he)
 refine ZL (h.bnd _ hm) fun b0 b1=>?_
 refine ⟨⟨e.1,by rw [hu]; exact intKind_is ..,(Zcw b0 b1).symm⟩,by rw [hu]; rfl⟩
theorem SetIn.bound (h:SetIn es t xs):es.size < scanBound:=by have:=h.few; exact o97 this
theorem SetIn.find (h:SetIn es t xs) {n:Int} {u:Tok}:(∃ e ∈ es.toList,(intKind prog w).is n e.2=true) ↔ n ∈ xs:=by
 constructor
 ·rintro ⟨e,he,hn⟩
  refine ZU (h.ent e he) fun v hv=>?_
  have:n=e.1:=by
   rw [hv] at hn
   exact (intKind prog w).inj _ _ _ hn (intKind_is ..)
  rw [this]
  exact h.mem.mp (List.mem_map_of_mem he)
 ·intro hn
  refine Ze (List.mem_map.mp (h.mem.mpr hn)) fun e he eQ0_2=>?_; subst eQ0_2
  refine ZU (h.ent e he) fun v hv=>?_
  exact ⟨e,he,by rw [hv]; exact intKind_is ..⟩
theorem ZiB {n:Int} {u:Tok} {Q:Option Nat->Shared->Prop} (ho:s.heap.get? a=some (ZaI es ep t)) (h:SetIn es t xs)
  (k:∀ r:Option Nat,r.isSome=decide (n ∈ xs)->(∀ i,r=some i->∃ e,es[i]?=some e/\e.1=n)->Q r s):wpAny (model prog w) A (setFind a (.int n u) ((intKind prog w).hash n)) Q E s:=by
 refine wpAny_bind (wpAny_setState_of ho rfl h.fits ?_)
 dsimp only
 rw [byScan_of (knd:=intKind prog w) rfl h.bound h.elems]
 simp only [↓reduceIte]
 refine wpAny_bind (wpAny_rule ?_)
 have sc:=wpAny_setScan_of (prog:=prog) (w:=w) (knd:=intKind prog w) (A:=A) (E:=E) (s:=s) (a:=a) (x:=.int n u) (k:=n) (adding:=false) (intKind_is ..) ho rfl h.fits h.elems
  (Q:=fun m s'=>s'=s/\m=(match es.toList.findIdx? (fun e=>(intKind prog w).is n e.2) with | some j=>.found (0 + j) | none=>.absent)) ⟨rfl,rfl⟩
 refine wpAny_bind (wpAny_mono sc (fun m s' hQ0=>ZL hQ0 fun e1 e2=>?_) fun _ _ x=>x)
 subst e1
 have fi:=h.find (prog:=prog) (w:=w) (n:=n) (u:=u)
 cases hr:List.findIdx? (fun e=>(intKind prog w).is n e.2) es.toList with
 | none =>
  rw [hr] at e2
  subst e2
  refine wpAny_pure (k none ?_ (fun i e=>by cases e))
  have:¬ n ∈ xs:=fun hn=>by
   obtain ⟨e,he,hp⟩:=fi.mpr hn
   have:=List.findIdx?_eq_none_iff.mp hr e he
   rw [hp] at this
   exact ZqZ this
  simp [this]
 | some j =>
  rw [hr] at e2
  subst e2
  obtain ⟨hj,hpj,_⟩:=List.findIdx?_eq_some_iff_getElem.mp hr
  have hmem:es.toList[j] ∈ es.toList:=List.getElem_mem hj
  refine wpAny_pure (k (some (0 + j)) ?_ (fun i e=>?_))
  ·have:n ∈ xs:=fi.mp ⟨_,hmem,hpj⟩
   simp [this]
  ·injection e with e
   rw [Nat.zero_add] at e
   subst e
   refine ⟨es.toList[j],by rw [<- Array.getElem?_toList]; exact List.getElem?_eq_getElem hj,?_⟩
   obtain ⟨v,hv⟩:=h.ent _ hmem
   rw [hv] at hpj
   exact (intKind prog w).inj _ _ _ (intKind_is ..) hpj
theorem ZhI {n:Int} {u:Tok} {Q:Option Nat->Shared->Prop} (ho:s.heap.get? a=some (ZaI es ep t)) (h:SetIn es t xs) (h0:0<=n) (h1:n < 64)
  (k:∀ r:Option Nat,r.isSome=decide (n ∈ xs)->(∀ i,r=some i->∃ e,es[i]?=some e/\e.1=n)->Q r s):wpAny (model prog w) A (setFind a (.int n u) n) Q E s:=by
 have:=ZiB (prog:=prog) (w:=w) (A:=A) (E:=E) (u:=u) ho h k
 rw [show (intKind prog w).hash n=n from Zcw h0 h1] at this
 exact this
theorem ZcX {es':Array (Int × Value)} {t':SetTable} {Q:Unit->Shared->Prop} (ho:s.heap.get? a=some (ZaI es ep t)) (hz:es'.size<=64)
  (k:∀ h',Heap.SameBut a s.heap h'->h'.get? a=some (ZaI es' (ep + 1) t')->Q () { s with heap:=h' }):wpAny (model prog w) A (storeSet a es' t') Q E s:=by
 refine wpAny_storeSet_of ho rfl ?_ (fits_of_scanBound (by exact o97 hz))
 refine k _ (Heap.SameBut.update s.heap a (Obj.putSet es' t')) ?_
 have:=Heap.get?_update_self (Obj.putSet es' t') ho (by rw [putSet_of es' t' rfl]; rfl)
 rw [putSet_of es' t' rfl] at this
 exact this
end
section
variable {prog:Program} {w:World} {A:Around} {E:Value->Shared->Prop} {s:Shared} {a:Addr} {es:Array (Int × Value)} {ep:Nat} {t:SetTable} {xs:List Int}
theorem SetIn.perms {es':Array (Int × Value)} {t':SetTable} (h:SetIn es t xs) (p:es'.toList.Perm es.toList) (hf:t'.fits es'.size=true):SetIn es' t' xs :=
 ⟨fun e he=>h.ent e (p.mem_iff.mp he),(p.map _).trans h.vals,h.nodup,h.bnd,hf⟩
theorem SetIn.push {es':Array (Int × Value)} {t':SetTable} {n:Int} {u:Tok} (h:SetIn es t xs) (h0:0<=n) (h1:n < 64) (hn:n ∉ xs) (p:es'.toList.Perm (es.push (n,.int n u)).toList) (hf:t'.fits es'.size=true):SetIn es' t' (xs++[n]):=by
 refine ⟨fun e he=>?_,?_,?_,fun i hi=>?_,hf⟩
 ·have:=p.mem_iff.mp he
  rw [Array.toList_push] at this
  refine Or.elim (List.mem_append.mp this) (fun h'=>?_) fun h'=>?_
  ·exact h.ent e h'
  ·rw [List.mem_singleton.mp h']; exact ⟨u,rfl⟩
 ·refine (p.map _).trans ?_
  rw [Array.toList_push,List.map_append]
  exact h.vals.append (List.Perm.refl _)
 ·exact List.nodup_append.mpr ⟨h.nodup,by simp,fun a ha b hb e=>hn (by rw [List.mem_singleton] at hb; rw [<- hb,<- e]; exact ha)⟩
 ·refine Or.elim (List.mem_append.mp hi) (fun hi=>?_) fun hi=>?_
  ·exact h.bnd i hi
  ·rw [List.mem_singleton.mp hi]; exact ⟨h0,h1⟩
noncomputable def Now (h:Heap) (a:Addr) (h':Heap) (xs':List Int):Prop:=Heap.SameBut a h h'/\∃ es ep t,h'.get? a=some (ZaI es ep t)/\SetIn es t xs'
theorem Zgj {g:Bool->Sem Unit} (hg:∀ (b:Bool) (s₁:Shared) (Q':Unit->Shared->Prop),Q' () s₁->wpAny (model prog w) A (g b) Q' E s₁)
  (ho:s.heap.get? a=some (ZaI es ep t)) {es1:Array (Int × Value)} {t2:SetTable} (h1:SetIn es1 t2 xs) {wasDummy:Bool} {R:Option Bool->Shared->Prop}
  (k:∀ h',Now s.heap a h' xs->R (some true) { s with heap:=h' }) :
  wpAny (model prog w) A (do
    storeSet a es1 t2
    if (!wasDummy&&t2.tooFull)=true then do
      g (relayAll t2 es1 (SetTable.grown es1.size)).2.2
      storeSet a (relayAll t2 es1 (SetTable.grown es1.size)).1 (relayAll t2 es1 (SetTable.grown es1.size)).2.1
      pure (some true)
     else pure (some true)) R E s:=by
 refine wpAny_bind (ZcX ho h1.few fun h' sb ho1=>?_)
 split
 ·have hp:=relayAll_perm t2 es1 (SetTable.grown es1.size)
  have hfr:=relayAll_fits t2 es1 (SetTable.grown es1.size)
  generalize relayAll t2 es1 (SetTable.grown es1.size)=Rl at hp hfr ⊢
  obtain ⟨es2,t3,gave2⟩:=Rl
  dsimp only at hp hfr ⊢
  have h2:=h1.perms hp hfr
  refine wpAny_bind (hg _ _ _ ?_)
  refine wpAny_bind (ZcX (s:={ s with heap:=h' }) ho1 h2.few fun h'' sb2 ho2=>?_)
  exact wpAny_pure (k h'' ⟨sb.trans sb2,_,_,_,ho2,h2⟩)
 ·exact wpAny_pure (k h' ⟨sb,_,_,_,ho1,h1⟩)
theorem Zlq {es:Array (Int × Value)} (h:SetIn es t xs):SetIn es { t with plain:=false } xs:=⟨h.ent,h.vals,h.nodup,h.bnd,SetTable.fits_plain_off h.fits⟩
theorem Zhy {n:Int} {u:Tok} {Q:Bool->Shared->Prop} (ho:s.heap.get? a=some (ZaI es ep t)) (h:SetIn es t xs) (h0:0<=n) (h1:n < 64)
  (k:∀ b h' xs',Now s.heap a h' xs'->(∀ i,i ∈ xs' ↔ i ∈ xs\/i=n)->Q b { s with heap:=h' }):wpAny (model prog w) A (setAddHashed a (.int n u) n) Q E s:=by
 refine wpAny_holding (wpAny_bind (wpAny_setState_of ho rfl h.fits ?_))
 dsimp only
 rw [byScan_of (knd:=intKind prog w) rfl h.bound h.elems]
 simp only [↓reduceIte]
 refine wpAny_bind ?_
 refine wpAny_bind (wpAny_rule ?_)
 have hh:n=(intKind prog w).hash n:=(Zcw h0 h1).symm
 have sc:=wpAny_setScan_of (prog:=prog) (w:=w) (knd:=intKind prog w) (A:=A) (E:=E) (s:=s) (a:=a) (x:=.int n u) (k:=n) (adding:=true) (intKind_is ..) ho rfl h.fits h.elems
  (Q:=fun m s'=>s'=s/\m=(match es.toList.findIdx? (fun e=>(intKind prog w).is n e.2) with | some j=>.found (0 + j) | none=>.absent)) ⟨rfl,rfl⟩
 rw [<- hh] at sc
 refine wpAny_bind (wpAny_mono sc (fun m s' hQ0=>ZL hQ0 fun e1 e2=>?_) fun _ _ x=>x)
 subst e1
 have fi:=h.find (prog:=prog) (w:=w) (n:=n) (u:=u)
 cases hr:List.findIdx? (fun e=>(intKind prog w).is n e.2) es.toList with
 | some j =>
  rw [hr] at e2
  subst e2
  obtain ⟨hj,hpj,_⟩:=List.findIdx?_eq_some_iff_getElem.mp hr
  have hn:n ∈ xs:=fi.mp ⟨_,List.getElem_mem hj,hpj⟩
  refine wpAny_pure (wpAny_pure ?_)
  have e:s'={ s' with heap:=s'.heap }:=by cases s'; rfl
  rw [e]
  exact k _ _ xs ⟨Heap.SameBut.refl _ _,_,_,_,ho,h⟩ fun i=>⟨.inl,fun hi=>hi.elim id fun e=>e ▸ hn⟩
 | none =>
  rw [hr] at e2
  subst e2
  have hn:n ∉ xs:=fun hn=>by
   obtain ⟨e,he,hp⟩:=fi.mpr hn
   have:=List.findIdx?_eq_none_iff.mp hr e he
   rw [hp] at this
   exact ZqZ this
  have hgw:∀ (b:Bool) {s₁:Shared} {Q':Unit->Shared->Prop},Q' () s₁->wpAny (model prog w) A (match b with | true=>rule "set.scan.the-table-gave-way" | false=>pure ()) Q' E s₁ :=
   fun b s₁ Q' hq=>by cases b <;> first | exact wpAny_pure hq | exact wpAny_rule hq
  have hperm:=layNew_perm t es n (.int n u)
  have hfits:=layNew_fits t es n (.int n u)
  generalize layNew t es n (.int n u)=L at hperm hfits ⊢
  obtain ⟨es1,t1,wasDummy,gave⟩:=L
  have hS1:SetIn es1 t1 (xs++[n]):=h.push h0 h1 hn hperm hfits
  have hmem:∀ i,i ∈ xs++[n] ↔ i ∈ xs\/i=n:=fun i=>by simp
  refine wpAny_bind (hgw _ ?_)
  split
  ·refine wpAny_bind ?_
   rw [hashByValue_scannable 8 rfl]
   refine wpAny_pure ?_
   refine Zgj (xs:=xs++[n]) ?_ ho ?_ ?_
   ·intro b s₁ Q' hq; cases b <;> first | exact wpAny_pure hq | exact wpAny_rule hq
   ·split
    ·exact hS1
    ·exact Zlq hS1
   ·intro h' hN; exact wpAny_pure (k _ h' _ hN hmem)
  ·refine wpAny_bind (wpAny_pure ?_)
   simp only [↓reduceIte]
   refine Zgj (xs:=xs++[n]) ?_ ho hS1 ?_
   ·intro b s₁ Q' hq; cases b <;> first | exact wpAny_pure hq | exact wpAny_rule hq
   ·intro h' hN; exact wpAny_pure (k _ h' _ hN hmem)
theorem Zqw {order:Array Nat} (p:order.toList.Perm (List.range es.size)):(order.filterMap (es[·]?)).toList.Perm es.toList:=by
 rw [Array.toList_filterMap]
 exact (p.filterMap _).trans (by rw [filterMap_getElem?_range])
theorem SetIn.hashes (h:SetIn es t xs):(∀ x ∈ (es.map (·.1)).toList,0<=x/\x < 64)/\(es.map (·.1)).toList.Nodup:=by
 rw [Array.toList_map]
 exact ⟨fun x hx=>h.bnd x (h.mem.mp hx),h.vals.nodup_iff.mpr h.nodup⟩
theorem Zjb {wanted:Nat} {Q:Unit->Shared->Prop} (ho:s.heap.get? a=some (ZaI es ep t)) (h:SetIn es t xs) (hw:wanted < 300) (hs:es.size<=wanted)
  (k:∀ h' es' ep' t',Heap.SameBut a s.heap h'->h'.get? a=some (ZaI es' ep' t')->SetIn es' t' xs->t'.mask=SetTable.sizeAbove wanted - 1->Q () { s with heap:=h' }):wpAny (model prog w) A (setRelay a wanted) Q E s:=by
 refine Zbp (ZlA hw) fun g1 g2 g3=>?_
 refine ZL h.hashes fun hb nd=>?_
 have hsz:(es.map (·.1)).size=es.size:=Array.size_map
 obtain ⟨t',order,e1,e2,e3,e4⟩:=Zk0 (finger:=t.finger) (moves:=t.movedTo (SetTable.sizeAbove wanted - 1)) (led:=t.led) (plain:=t.plain) g1 hb nd (by rw [hsz]; exact ZwI hs g2)
 rw [hsz] at e2 e3
 refine wpAny_bind (wpAny_setState_of ho rfl h.fits ?_)
 dsimp only
 rw [if_neg (by rw [sizeLine_eq]; exact ZwJ g3)]
 have hr:SetTable.relaid t (es.map (·.1)) wanted=some (t',order):=e1
 have hp:=Zqw e2
 have hps:(order.filterMap (es[·]?)).size=es.size:=by rw [<- Array.length_toList,hp.length_eq,Array.length_toList]
 refine wpAny_bind ?_
 rw [hr]
 show wpAny _ _ (if ((order.filterMap (es[·]?)).size != es.size)=true then _ else _) _ _ _
 rw [if_neg (by simp [hps])]
 refine wpAny_pure ?_
 have hS:=h.perms hp (by rw [hps]; exact e3)
 exact ZcX ho hS.few fun h' sb ho'=>k h' _ _ _ sb ho' hS e4
end
theorem Zdp {α:Type}:∀ {xs:List α} {i:Nat} (h:i < xs.length),(xs[i]::xs.eraseIdx i).Perm xs
 | [],i,h=>absurd h (Nat.not_lt_zero _)
 | x::xs,0,h=>List.Perm.refl _
 | x::xs,i + 1,h=>by
  have ih:=Zdp (xs:=xs) (i:=i) (by simpa using h)
  rw [List.getElem_cons_succ,List.eraseIdx_cons_succ]
  exact (List.Perm.swap _ _ _).trans (List.Perm.cons x ih)
theorem Zqs {α:Type} (f n k) (l:List α) (o):pickOrder.go f (n + 1) k l o=l[f k % l.length]?.elim o fun x=>pickOrder.go f n (k + 1) (l.eraseIdx (f k % l.length)) (o.push x):=by kernel_rfl
theorem Zhe {α:Type} (next:Nat->Nat):∀ (n k:Nat) (left:List α) (out:Array α),left.length=n->(pickOrder.go next n k left out).toList.Perm (out.toList++left)
 | 0,k,left,out,h=>by
  show out.toList.Perm _
  rw [List.length_eq_zero_iff.mp h,List.append_nil]
 | n + 1,k,left,out,h=>by
  have hlt:next k % left.length < left.length:=Nat.mod_lt _ (ZwK h)
  rw [Zqs]
  rw [List.getElem?_eq_getElem hlt]
  refine (Zhe next n (k + 1) _ _ (by rw [List.length_eraseIdx,if_pos hlt]; exact ZwL h)).trans ?_
  rw [Array.toList_push,List.append_assoc]
  refine List.Perm.append_left _ ?_
  exact Zdp hlt
theorem ZeW {α:Type} (next:Nat->Nat) (xs:Array α):(pickOrder next xs).toList.Perm xs.toList:=by
 unfold pickOrder
 have:=Zhe next xs.size 0 xs.toList #[] (by simp)
 simpa using this
section
variable {prog:Program} {w:World} {A:Around} {E:Value->Shared->Prop} {s:Shared} {a:Addr} {es:Array (Int × Value)} {ep:Nat} {t:SetTable} {xs:List Int}
theorem ZfJ {α:Type} {f:α->PUnit->Sem (ForInStep PUnit)} (all:List α) (I:List α->Shared->Prop)
  (step:∀ done x rest s,all=done++x::rest->I done s->wpAny (model prog w) A (f x PUnit.unit) (fun r s'=>r=.yield PUnit.unit/\I (done++[x]) s') E s) {Q:PUnit->Shared->Prop} (fin:∀ s,I all s->Q PUnit.unit s) :
  ∀ (rest done:List α) (s:Shared),all=done++rest->I done s->wpAny (model prog w) A (forIn rest PUnit.unit f) Q E s
 | [],done,s,h,hI=>by
  rw [List.append_nil] at h
  rw [List.forIn_nil]
  exact wpAny_pure (fin s (h ▸ hI))
 | x::rest,done,s,h,hI=>by
  rw [List.forIn_cons]
  refine wpAny_bind (wpAny_mono (step done x rest s h hI) (fun r s' hQ0=>ZL hQ0 fun e h'=>?_) fun _ _ z=>z)
  subst e
  exact ZfJ all I step fin rest (done++[x]) s' (by rw [h]; simp) h'
theorem Zo0 {more:Nat} {Q:Unit->Shared->Prop} (ho:s.heap.get? a=some (ZaI es ep t)) (h:SetIn es t xs) (hm:more<=64)
  (k:∀ h' es' ep' t',Heap.SameBut a s.heap h'->h'.get? a=some (ZaI es' ep' t')->SetIn es' t' xs->more<=t'.mask->(ZaW t.mask->ZaW t'.mask)->Q () { s with heap:=h' }):wpAny (model prog w) A (setRoomFor a more) Q E s:=by
 have hf:=h.few
 have hp:t.place.size=es.size/\t.fill<=t.mask:=by
  have:=h.fits
  simp only [SetTable.fits,Bool.and_eq_true,beq_iff_eq,decide_eq_true_eq] at this
  exact this
 unfold setRoomFor
 refine wpAny_bind (wpAny_setState_of ho rfl h.fits ?_)
 dsimp only
 unfold SetTable.roomFor
 by_cases hc:(t.fill + more) * 5 ≥ t.mask * 3
 ·rw [if_pos hc]
  have hw:(t.place.size + more) * 2 < 300:=ZwM hm hf hp
  refine Zbp (ZlA hw) fun g1 g2 g3=>?_
  exact Zjb ho h hw (ZwN hp) fun h' es' ep' t' sb ho' hS' e=>k h' es' ep' t' sb ho' hS' (by rw [e]; exact ZwO g2) fun _=>by rw [e]; exact g1
 ·rw [if_neg hc]
  refine wpAny_pure ?_
  have e:s={ s with heap:=s.heap }:=by cases s; rfl
  rw [e]
  exact k _ es ep t (Heap.SameBut.refl _ _) ho h (ZwP hc) id
noncomputable def Zpv (h:Heap) (a:Addr):Prop:=∃ es ep t xs,h.get? a=some (ZaI es ep t)/\SetIn es t xs
theorem Zna:∀ {sets:List Addr},(∀ b ∈ sets,Zpv s.heap b)->∀ {Q:Bool->Shared->Prop},Q true s->wpAny (model prog w) A (setsQuiet sets) Q E s:=by
 intro sets hs Q k
 have inner:∀ (es:List (Int × Value)) (β:Type) (b:β) (f:Int × Value->β->Sem (ForInStep β)) (Q:β->Shared->Prop),(∀ e ∈ es,∀ Q':ForInStep β->Shared->Prop,Q' (.yield b) s->wpAny (model prog w) A (f e b) Q' E s)->Q b s->wpAny (model prog w) A (forIn es b f) Q E s:=by
  intro es β b f Q hf hQ
  induction es with
  | nil=>rw [List.forIn_nil]; exact wpAny_pure hQ
  | cons e es ih =>
   rw [List.forIn_cons]
   refine wpAny_bind (hf e List.mem_cons_self _ ?_)
   exact ih fun e he=>hf e (List.mem_cons_of_mem _ he)
 have outer:∀ (bs:List Addr) (β:Type) (b:β) (f:Addr->β->Sem (ForInStep β)) (Q:β->Shared->Prop),(∀ e ∈ bs,∀ Q':ForInStep β->Shared->Prop,Q' (.yield b) s->wpAny (model prog w) A (f e b) Q' E s)->Q b s->wpAny (model prog w) A (forIn bs b f) Q E s:=by
  intro es β b f Q hf hQ
  induction es with
  | nil=>rw [List.forIn_nil]; exact wpAny_pure hQ
  | cons e es ih =>
   rw [List.forIn_cons]
   refine wpAny_bind (hf e List.mem_cons_self _ ?_)
   exact ih fun e he=>hf e (List.mem_cons_of_mem _ he)
 refine wpAny_bind (outer _ _ _ _ _ (fun b hb Q' hQ'=>?_) ?_)
 ·refine Zw4 (hs b hb) fun es ep t xs ho hS=>?_
  refine wpAny_bind (wpAny_setEntries_of ho rfl hS.fits ?_)
  refine wpAny_bind ?_
  rw [<- Array.forIn_toList]
  refine inner _ _ _ _ _ (fun e he Q'' hQ''=>?_) ?_
  ·refine ZU (hS.ent e he) fun u hu=>?_
   obtain ⟨e1,e2⟩:=e
   dsimp only at hu
   subst hu
   exact wpAny_pure hQ''
  ·exact wpAny_pure hQ'
 ·exact wpAny_pure k
end
section
variable {prog:Program} {w:World} {A:Around} {E:Value->Shared->Prop} {s:Shared} {a:Addr} {es:Array (Int × Value)} {ep:Nat} {t:SetTable} {xs:List Int}
theorem Zgn {Q:Bool->Shared->Prop} (k:Q (w.params.followText "set-order") s):wpAny (model prog w) A setsByText Q E s:=by
 exact wpAny_bind (wpAny_askSetting (wpAny_pure k))
theorem ZjK {Q:Array (Int × Value)->Shared->Prop} (ho:s.heap.get? a=some (ZaI es ep t)) (h:SetIn es t xs) (hc:(w.params.followText "set-order" || (t.led&&t.plain) || decide (es.size<=1))=true)
  (k:∀ es',es'.toList.Perm es.toList->Q es' s):wpAny (model prog w) A (setWalk a) Q E s:=by
 refine wpAny_bind (wpAny_setState_of ho rfl h.fits ?_)
 refine wpAny_bind (Zgn ?_)
 cases hb:w.params.followText "set-order" with
 | true =>
  rw [if_pos rfl]
  refine wpAny_bind (wpAny_askSetting (wpAny_pure ?_))
  exact k _ (ZeW _ _)
 | false =>
  rw [if_neg (by simp)]
  rw [hb,Bool.false_or,Bool.or_eq_true,Bool.and_eq_true,decide_eq_true_eq] at hc
  have hd:(!t.plain&&decide (es.size > 1))=false:=by
   rcases hc with h | h
   ·simp [h.2]
   ·simp; omega
  show wpAny _ _ (if (!t.plain&&decide (es.size > 1))=true then _ else _) _ _ _
  rw [if_neg (by rw [hd]; simp)]
  refine wpAny_bind ?_
  show wpAny _ _ (if (!t.led&&decide (es.size > 1))=true then _ else _) _ _ _
  have hl:(!t.led&&decide (es.size > 1))=false:=by
   rcases hc with h | h
   ·simp [h.1]
   ·simp; omega
  rw [if_neg (by rw [hl]; simp)]
  exact wpAny_pure (wpAny_pure (k es (List.Perm.refl _)))
theorem Zij {others:List Addr} {filled:Option Addr} {Q:Array (Int × Value)->Shared->Prop} (ho:s.heap.get? a=some (ZaI es ep t)) (h:SetIn es t xs) (hoth:∀ b ∈ others,Zpv s.heap b)
  {zs:List Int} (hf:∀ f,filled=some f->f ≠ a/\∃ es ep t,s.heap.get? f=some (ZaI es ep t)/\SetIn es t zs)
  (k:∀ es' h',es'.toList.Perm es.toList->(h'=s.heap\/∃ f,filled=some f/\Now s.heap f h' zs)->Q es' { s with heap:=h' }):wpAny (model prog w) A (setWalkUnseen a others filled) Q E s:=by
 have es0:s={ s with heap:=s.heap }:=by cases s; rfl
 have k0:∀ es',es'.toList.Perm es.toList->Q es' s:=fun es' p=>by
  have:=k es' s.heap p (.inl rfl)
  exact this
 unfold setWalkUnseen
 refine wpAny_bind (wpAny_setState_of ho rfl h.fits ?_)
 dsimp only
 refine wpAny_bind (Zgn ?_)
 by_cases hc:(w.params.followText "set-order" || (t.led&&t.plain) || decide (es.size<=1))=true
 ·rw [if_pos hc]
  exact ZjK ho h hc k0
 ·rw [if_neg hc]
  refine wpAny_bind (Zna (fun b hb=>?_) ?_)
  ·rcases List.mem_cons.mp hb with rfl | hb
   ·exact ⟨es,ep,t,xs,ho,h⟩
   ·exact hoth b hb
  ·simp only [Bool.not_true,Bool.false_eq_true,↓reduceIte]
   refine wpAny_bind (wpAny_rule ?_)
   cases filled with
   | none=>exact wpAny_pure (k0 es (List.Perm.refl _))
   | some f =>
    refine ZL (hf f rfl) fun hfa hR0=>?_; refine ZjU hR0 fun esf epf tf hof hSf=>?_
    dsimp only
    refine wpAny_bind (wpAny_setState_of hof rfl hSf.fits ?_)
    dsimp only
    split
    ·have hS2:SetIn esf { tf with led:=tf.led&&t.led,plain:=tf.plain&&t.plain } zs:=⟨hSf.ent,hSf.vals,hSf.nodup,hSf.bnd,by have:=hSf.fits; cases tf; exact this⟩
     refine wpAny_bind (ZcX hof hSf.few fun h' sb ho'=>?_)
     exact wpAny_pure (k es h' (List.Perm.refl _) (.inr ⟨f,rfl,sb,_,_,_,ho',hS2⟩))
    ·exact wpAny_pure (k0 es (List.Perm.refl _))
theorem SetIn.walked (h:SetIn es t xs) {es':Array (Int × Value)} (p:es'.toList.Perm es.toList) {e:Int × Value} (he:e ∈ es'.toList):(∃ u,e.2=.int e.1 u)/\0<=e.1/\e.1 < 64/\e.1 ∈ xs:=by
 have he':=p.mem_iff.mp he
 have hm:e.1 ∈ xs:=h.mem.mp (List.mem_map_of_mem he')
 exact ⟨h.ent e he',(h.bnd _ hm).1,(h.bnd _ hm).2,hm⟩
theorem SameBut.get {h h':Heap} {b:Addr} {o:Option Obj} (x:Heap.SameBut a h h') (hb:b ≠ a) (e:h.get? b=o):h'.get? b=o:=by rw [x.2 b hb]; exact e
theorem ZiP {r o:Addr} {each:Sem Unit} {esr:Array (Int × Value)} {epr:Nat} {tr:SetTable} {xr:List Int} {Q:Unit->Shared->Prop} (hro:r ≠ o)
  (hr:s.heap.get? r=some (ZaI esr epr tr)) (hSr:SetIn esr tr xr) (hgood:esr.size=0->ZaW tr.mask) (ho:s.heap.get? o=some (ZaI es ep t)) (h:SetIn es t xs)
  (heach:∀ s':Shared,s'.heap.get? o=some (ZaI es ep t)->∀ Q':Unit->Shared->Prop,Q' () s'->wpAny (model prog w) A each Q' E s')
  (k:∀ h' zs,Now s.heap r h' zs->(∀ i,i ∈ zs ↔ i ∈ xr\/i ∈ xs)->Q () { s with heap:=h' }):wpAny (model prog w) A (setMerge r o each) Q E s:=by
 have es0:s={ s with heap:=s.heap }:=by cases s; rfl
 unfold setMerge
 rw [if_neg (by simpa using hro)]
 refine wpAny_bind (wpAny_setState_of ho rfl h.fits ?_)
 dsimp only
 by_cases he:es.isEmpty=true
 ·rw [if_pos he]
  refine wpAny_pure ?_
  rw [es0]
  refine k _ xr ⟨Heap.SameBut.refl _ _,_,_,_,hr,hSr⟩ fun i=>⟨.inl,fun hi=>hi.elim id fun hi=>?_⟩
  have hz:es.size=0:=by simpa [Array.isEmpty] using he
  have:=h.size
  rw [hz] at this
  rw [List.length_eq_zero_iff.mp this.symm] at hi
  cases hi
 ·rw [if_neg he]
  have hfew:=h.few
  refine wpAny_bind (Zo0 hr hSr (ZwQ hfew) fun h1 es1 ep1 t1 sb1 hr1 hS1 hmask hg1=>?_)
  have ho1:h1.get? o=some (ZaI es ep t):=SameBut.get sb1 (fun e=>hro e.symm) ho
  refine wpAny_bind (wpAny_setState_of (s:={ s with heap:=h1 }) hr1 rfl hS1.fits ?_)
  dsimp only
  have hfit1:t1.place.size=es1.size/\t1.fill<=t1.mask:=by
   have:=hS1.fits
   simp only [SetTable.fits,Bool.and_eq_true,beq_iff_eq,decide_eq_true_eq] at this
   exact this
  have hsz:esr.size=es1.size:=by rw [hSr.size,hS1.size]
  have empty:t1.fill=0->xr=[]/\ZaW t1.mask:=fun hf=>by
   have h0:es1.size=0:=by
    unfold SetTable.fill at hf
    exact ZwR hfit1 hf
   refine ⟨?_,hg1 (hgood (ZwS hsz h0))⟩
   have:=hS1.size
   rw [h0] at this
   exact List.length_eq_zero_iff.mp this.symm
  unfold SetTable.road
  by_cases hf:t1.fill=0
  ·refine ZL (empty hf) fun hx hgm=>?_
   rw [if_neg (by simp [hf])]
   by_cases hm:(t1.mask == t.mask&&t.dummies.isEmpty)=true
   ·rw [if_pos hm]
    dsimp only
    have hS2:SetIn es { t with finger:=t1.finger,led:=t1.led&&t.led,moves:=t1.moves,plain:=t1.plain&&t.plain } xs:=⟨h.ent,h.vals,h.nodup,h.bnd,by have:=h.fits; cases t; exact this⟩
    refine ZcX (s:={ s with heap:=h1 }) hr1 h.few fun h2 sb2 hr2=>?_
    exact k h2 xs ⟨sb1.trans sb2,_,_,_,hr2,hS2⟩ fun i=>by rw [hx]; simp
   ·rw [if_neg hm]
    dsimp only
    refine ZL h.hashes fun hb nd=>?_
    have hms:(es.map (·.1)).size=es.size:=Array.size_map
    obtain ⟨t',order,e1,e2,e3,e4⟩:=Zk0 (finger:=t1.finger) (moves:=t1.moves) (led:=t1.led&&t.led) (plain:=t1.plain&&t.plain) hgm hb nd (by rw [hms]; exact hmask)
    rw [hms] at e2 e3
    have hp:=Zqw e2
    have hps:(order.filterMap (es[·]?)).size=es.size:=by rw [<- Array.length_toList,hp.length_eq,Array.length_toList]
    refine wpAny_bind ?_
    rw [e1]
    show wpAny _ _ (if ((order.filterMap (es[·]?)).size != es.size)=true then _ else _) _ _ _
    rw [if_neg (by simp [hps])]
    refine wpAny_pure ?_
    have hS2:=h.perms hp (by rw [hps]; exact e3)
    refine ZcX (s:={ s with heap:=h1 }) hr1 hS2.few fun h2 sb2 hr2=>?_
    exact k h2 xs ⟨sb1.trans sb2,_,_,_,hr2,hS2⟩ fun i=>by rw [hx]; simp
  ·rw [if_pos (by simp [hf])]
   dsimp only
   refine wpAny_bind (Zij (s:={ s with heap:=h1 }) (others:=[r]) (filled:=some r) (zs:=xr) ho1 h (fun b hb=>by rw [List.mem_singleton.mp hb]; exact ⟨_,_,_,_,hr1,hS1⟩) (fun f e=>by cases e; exact ⟨hro,_,_,_,hr1,hS1⟩) fun es' h2 hp hh2=>?_)
   have hN2:Now s.heap r h2 xr:=by
    rcases hh2 with e | ⟨f,e,hN⟩
    ·rw [e]; exact ⟨sb1,_,_,_,hr1,hS1⟩
    ·obtain rfl:=Option.some.inj e
     exact ⟨sb1.trans hN.1,hN.2⟩
   rw [<- Array.forIn_toList]
   refine wpAny_bind (ZfJ es'.toList (fun (done:List (Int × Value)) s'=>∃ h' zs,s'={ s with heap:=h' }/\Now s.heap r h' zs/\∀ i,i ∈ zs ↔ i ∈ xr\/i ∈ done.map (fun (x:Int × Value)=>x.1)) (fun done e rest s' hall hI=>?_) (fun s' hI=>?_) es'.toList [] _ rfl ⟨h2,xr,rfl,hN2,fun i=>by simp⟩)
   ·refine ZaM hI fun h' zs eQ0_2 hN hz=>?_; subst eQ0_2
    obtain ⟨⟨u,hu⟩,b0,b1,hex⟩:=h.walked hp (e:=e) (by rw [hall]; simp)
    obtain ⟨e1,e2⟩:=e
    dsimp only at hu b0 b1 hex
    subst hu
    refine ZL hN fun sb hR0=>?_; refine ZjU hR0 fun es3 ep3 t3 ho3 hS3=>?_
    dsimp only
    refine wpAny_bind (wpAny_holding (Zhy (s:={ s with heap:=h' }) ho3 hS3 b0 b1 fun b h'' xs' hN' hx'=>?_))
    have ho'':h''.get? o=some (ZaI es ep t):=SameBut.get (sb.trans hN'.1) (fun e=>hro e.symm) ho
    refine wpAny_bind (heach _ ho'' _ ?_)
    refine wpAny_bind (wpAny_setState_of (s:={ s with heap:=h'' }) ho'' rfl h.fits ?_)
    dsimp only
    simp only [bne_self_eq_false,Bool.false_eq_true,↓reduceIte]
    refine wpAny_pure ⟨rfl,h'',xs',rfl,⟨sb.trans hN'.1,hN'.2⟩,fun i=>?_⟩
    rw [hx',hz,List.map_append,List.mem_append]
    simp [or_assoc]
   ·refine ZaM hI fun h' zs eQ0_2 hN hz=>?_; subst eQ0_2
    refine wpAny_pure (k h' zs hN fun i=>?_)
    rw [hz]
    have:i ∈ es'.toList.map (·.1) ↔ i ∈ xs:=((hp.map _).mem_iff).trans h.mem
    rw [this]
end
end
section
open PySem
set_option maxRecDepth 10000
theorem Zc2:Manifest.owners.lookup (String.ofList ['t','e','s','n','e','z','o','r','f'].reverse)=some Manifest.sig_frozenset:=by kernel_rfl
theorem ZcQ:isSubtype (.type "frozenset") (.type "frozenset")=pure true:=by rw [isSubtype_type]; kernel_rfl
theorem ZnA:isSubtype (.type "frozenset") (.type "set")=pure false:=by rw [isSubtype_type]; kernel_rfl
theorem Zp3:Slot "frozenset" (dunder "or") "frozenset.__or__" :=
 .of (owner:="frozenset") (n:="__or__") (by rw [typeLookup_type,builtinLookup_eq_fast]; kernel_rfl) (by decide +kernel) (by decide +kernel) (by decide +kernel)
  (by first | exact .inl (by decide +kernel) | exact .inr (by decide +kernel)) (by rw [isSubtype_type]; kernel_rfl)
theorem ZhO:fillsNumberSlot (.type "frozenset") "or" = pure true :=
 fillsNumberSlot_of (id:="frozenset.__or__") (r:=some (.builtin "frozenset.__ror__")) (by rw [typeLookup_type,builtinLookup_eq_fast]; kernel_rfl) (by decide +kernel) (by rw [typeLookup_type,builtinLookup_eq_fast]; kernel_rfl)
theorem Zjy (a b:Value):argsOk "frozenset.__or__" ⟨[a,b],[]⟩:=by
 unfold argsOk; rw [signature?_of (id:="frozenset.__or__") (n:=['_','_','r','o','_','_']) (o:=['t','e','s','n','e','z','o','r','f']) (by kernel_rfl) Zc2]; kernel_rfl
theorem ZhN:entryFor table "frozenset.__or__" = some Builtin.«frozenset.__or__»:=entryFor_of_tree (by kernel_rfl)
theorem ZnB:Slot "frozenset" (dunder "sub") "frozenset.__sub__" :=
 .of (owner:="frozenset") (n:="__sub__") (by rw [typeLookup_type,builtinLookup_eq_fast]; kernel_rfl) (by decide +kernel) (by decide +kernel) (by decide +kernel)
  (by first | exact .inl (by decide +kernel) | exact .inr (by decide +kernel)) (by rw [isSubtype_type]; kernel_rfl)
theorem ZgK:fillsNumberSlot (.type "frozenset") "sub" = pure true :=
 fillsNumberSlot_of (id:="frozenset.__sub__") (r:=some (.builtin "frozenset.__rsub__")) (by rw [typeLookup_type,builtinLookup_eq_fast]; kernel_rfl) (by decide +kernel) (by rw [typeLookup_type,builtinLookup_eq_fast]; kernel_rfl)
theorem ZhP (a b:Value):argsOk "frozenset.__sub__" ⟨[a,b],[]⟩:=by
 unfold argsOk; rw [signature?_of (id:="frozenset.__sub__") (n:=['_','_','b','u','s','_','_']) (o:=['t','e','s','n','e','z','o','r','f']) (by kernel_rfl) Zc2]; kernel_rfl
theorem ZgJ:entryFor table "frozenset.__sub__" = some Builtin.«frozenset.__sub__»:=entryFor_of_tree (by kernel_rfl)
theorem ZcP:Slot "frozenset" "__contains__" "frozenset.__contains__" :=
 .of (owner:="frozenset") (n:="__contains__") (by rw [typeLookup_type,builtinLookup_eq_fast]; kernel_rfl) (by decide +kernel) (by decide +kernel) (by decide +kernel)
  (by first | exact .inl (by decide +kernel) | exact .inr (by decide +kernel)) (by rw [isSubtype_type]; kernel_rfl)
theorem ZdQ (a b:Value):argsOk "frozenset.__contains__" ⟨[a,b],[]⟩:=by
 unfold argsOk; rw [signature?_of (id:="frozenset.__contains__") (n:=['_','_','s','n','i','a','t','n','o','c','_','_']) (o:=['t','e','s','n','e','z','o','r','f']) (by kernel_rfl) Zc2]; kernel_rfl
theorem Zdq:entryFor table "frozenset.__contains__" = some Builtin.«frozenset.__contains__»:=entryFor_of_tree (by kernel_rfl)
theorem Zp0:Slot "frozenset" (cmpInfo .Eq).2.1 "frozenset.__eq__" :=
 .of (owner:="frozenset") (n:="__eq__") (by rw [typeLookup_type,builtinLookup_eq_fast]; kernel_rfl) (by decide +kernel) (by decide +kernel) (by decide +kernel)
  (by first | exact .inl (by decide +kernel) | exact .inr (by decide +kernel)) (by rw [isSubtype_type]; kernel_rfl)
theorem Zjw (a b:Value):argsOk "frozenset.__eq__" ⟨[a,b],[]⟩:=by
 unfold argsOk; rw [signature?_of (id:="frozenset.__eq__") (n:=['_','_','q','e','_','_']) (o:=['t','e','s','n','e','z','o','r','f']) (by kernel_rfl) Zc2]; kernel_rfl
theorem ZhL:entryFor table "frozenset.__eq__" = some Builtin.«frozenset.__eq__»:=entryFor_of_tree (by kernel_rfl)
theorem Zp1:Slot "frozenset" (cmpInfo .NotEq).2.1 "frozenset.__ne__" :=
 .of (owner:="frozenset") (n:="__ne__") (by rw [typeLookup_type,builtinLookup_eq_fast]; kernel_rfl) (by decide +kernel) (by decide +kernel) (by decide +kernel)
  (by first | exact .inl (by decide +kernel) | exact .inr (by decide +kernel)) (by rw [isSubtype_type]; kernel_rfl)
theorem Zjx (a b:Value):argsOk "frozenset.__ne__" ⟨[a,b],[]⟩:=by
 unfold argsOk; rw [signature?_of (id:="frozenset.__ne__") (n:=['_','_','e','n','_','_']) (o:=['t','e','s','n','e','z','o','r','f']) (by kernel_rfl) Zc2]; kernel_rfl
theorem ZhM:entryFor table "frozenset.__ne__" = some Builtin.«frozenset.__ne__»:=entryFor_of_tree (by kernel_rfl)
end
section
open PySem PySem.W PyProof.Rows PySem.Calls
set_option maxRecDepth 10000
noncomputable def ZqQ (h:Heap) (r:Addr) (h':Heap) (zs:List Int):Prop:=(∀ b o,h.get? b=some o->h'.get? b=some o)/\h.get? r=none/\∃ es ep t,h'.get? r=some (ZaI es ep t)/\SetIn es t zs/\(es.size=0->ZaW t.mask)
noncomputable def Mad (h:Heap) (r:Addr) (h':Heap) (zs:List Int):Prop:=(∀ b o,h.get? b=some o->h'.get? b=some o)/\h.get? r=none/\∃ es ep t,h'.get? r=some (ZaI es ep t)/\SetIn es t zs
theorem Mad.now {h h' h'':Heap} {r:Addr} {xs ys:List Int} (x:Mad h r h' xs) (y:Now h' r h'' ys):Mad h r h'' ys :=
 ⟨fun b o e=>by rw [y.1.2 b (fun e'=>by rw [e',x.2.1] at e; exact nos e)]; exact x.1 b o e,x.2.1,y.2⟩
theorem ZqQ.mad {h h':Heap} {r:Addr} {xs:List Int} (x:ZqQ h r h' xs):Mad h r h' xs:=by
 refine Zbp x fun h1 h2 hR0=>?_; refine ZlT hR0 fun es ep t h3 h4 _=>?_
 exact ⟨h1,h2,es,ep,t,h3,h4⟩
section
variable {prog:Program} {w:World} {A:Around} {E:Value->Shared->Prop} {s:Shared} {a:Addr} {es:Array (Int × Value)} {ep:Nat} {t:SetTable} {xs:List Int}
theorem Z1 (ho:s.heap.get? a=some (ZaI es ep t)):s.TypeIs (.ref a) "frozenset":=⟨_,ho,rfl⟩
theorem Zml (led:Bool):SetIn #[] (.fresh 0 0 led) []:=⟨(fun e he=>by simp at he),(by simp),List.nodup_nil,(fun i hi=>by cases hi),(by rfl)⟩
theorem Zc8 {Q:Value->Shared->Prop} (k:∀ r h',r=s.heap.objs.size->ZqQ s.heap r h' []->Q (.ref r) { s with heap:=h' }):wpAny (model prog w) A (newSet (.type "frozenset")) Q E s:=by
 unfold newSet setsByText
 refine wpAny_bind (wpAny_bind (wpAny_askSetting (wpAny_pure ?_)))
 dsimp only
 simp only [newObj]
 refine wpAny_bind (wpAny_alloc (wpAny_pure (k _ _ rfl ⟨fun b o e=>Heap.get?_push_of_some _ e,?_,_,_,_,Heap.get?_push_size _ rfl,Zml _,fun _=>.inl (.inl rfl)⟩)))
 cases hq:s.heap.get? s.heap.objs.size with
 | none=>rfl
 | some o=>exact absurd (Heap.lt_size hq) (Nat.lt_irrefl _)
theorem Zgk (ho:s.heap.get? a=some (ZaI es ep t)) {Q:Value->Shared->Prop} (k:Q (.type "frozenset") s):wpAny (model prog w) A (Builtin.Frozenset.baseOf a) Q E s:=by
 refine wpAny_bind (wpAny_isInstance (Z1 ho) ZnA ?_)
 exact wpAny_pure k
theorem ZaK (ho:s.heap.get? a=some (ZaI es ep t)) {Q:Bool->Shared->Prop} (k:Q true s):wpAny (model prog w) A (Builtin.Frozenset.isAnySet (.ref a)) Q E s:=by
 refine wpAny_bind (wpAny_isInstance (Z1 ho) ZnA ?_)
 exact wpAny_isInstance (Z1 ho) ZcQ k
theorem Zk7 {r o:Addr} {each:Sem Unit} {Q:Unit->Shared->Prop} (ho:s.heap.get? o=some (ZaI es ep t)) (h:SetIn es t xs) (he:es.isEmpty=true) (hro:r ≠ o) (k:Q () s):wpAny (model prog w) A (setMerge r o each) Q E s:=by
 unfold setMerge
 rw [if_neg (by simpa using hro)]
 refine wpAny_bind (wpAny_setState_of ho rfl h.fits ?_)
 dsimp only
 rw [if_pos he]
 exact wpAny_pure k
theorem Zkk (ho:s.heap.get? a=some (ZaI es ep t)) (h:SetIn es t xs) {Q:Value->Shared->Prop} (k:∀ r h' zs,ZqQ s.heap r h' zs->(∀ i,i ∈ zs ↔ i ∈ xs)->Q (.ref r) { s with heap:=h' }):wpAny (model prog w) A (Builtin.Frozenset.copyOf a) Q E s:=by
 refine wpAny_bind (Zgk ho ?_)
 refine wpAny_bind (Zc8 fun r h1 er hM=>?_)
 refine wpAny_bind (wpAny_pure ?_)
 have hra:r ≠ a:=fun e=>by
  have:=hM.2.1
  rw [e,ho] at this
  cases this
 have ho1:=hM.1 _ _ ho
 by_cases he:es.isEmpty=true
 ·have hx:xs=[]:=by
   have hz:es.size=0:=by simpa [Array.isEmpty] using he
   have:=h.size
   rw [hz] at this
   exact List.length_eq_zero_iff.mp this.symm
  refine wpAny_bind (Zk7 (s:={ s with heap:=h1 }) ho1 h he hra ?_)
  exact wpAny_pure (k r h1 [] hM fun i=>by rw [hx])
 ·obtain ⟨h2,h3,es1,ep1,t1,h4,h5,h6⟩:=hM
  refine wpAny_bind (ZiP (s:={ s with heap:=h1 }) hra h4 h5 h6 ho1 h (fun s' _ Q' hq=>wpAny_pure hq) fun h' zs hN hz=>?_)
  have hz':∀ i,i ∈ zs ↔ i ∈ xs:=fun i=>by rw [hz]; simp
  refine wpAny_pure (k r h' zs ⟨fun b o e=>?_,h3,?_⟩ hz')
  ·rw [hN.1.2 b (fun e'=>by rw [e',h3] at e; exact nos e)]; exact h2 b o e
  ·obtain ⟨es2,ep2,t2,g1,g2⟩:=hN.2
   refine ⟨es2,ep2,t2,g1,g2,fun h0=>?_⟩
   exfalso
   have hz0:zs=[]:=by
    have:=g2.size
    rw [h0] at this
    exact List.length_eq_zero_iff.mp this.symm
   have hx:xs=[]:=List.eq_nil_iff_forall_not_mem.mpr fun i hi=>by
    have:=(hz' i).mpr hi
    rw [hz0] at this
    cases this
   have:=h.size
   rw [hx] at this
   exact he (by simpa [Array.isEmpty] using this)
theorem ZoQ {b:Addr} {esb:Array (Int × Value)} {epb:Nat} {tb:SetTable} {ys:List Int} (ho:s.heap.get? a=some (ZaI es ep t)) (h:SetIn es t xs) (hb:s.heap.get? b=some (ZaI esb epb tb)) (h':SetIn esb tb ys) {Q:Value->Shared->Prop}
  (k:∀ r h1 zs,Mad s.heap r h1 zs->(∀ i,i ∈ zs ↔ i ∈ xs\/i ∈ ys)->Q (.ref r) { s with heap:=h1 }):wpAny (model prog w) A (binaryOp .BitOr (.ref a) (.ref b)) Q E s:=by
 refine wpAny_binaryOp_same (op:=.BitOr) (Z1 ho) (Z1 hb) ZhO Zp3 ?_
 refine wpAny_call_entry Zp3 (Z1 ho) ZhN ?_ (Zjy _ _)
 have hslot:Builtin.Frozenset.slot1 "__or__" ⟨[.ref a,.ref b],[]⟩=pure (.ref a,.ref b):=rfl
 show wpAny _ _ (do
  let (self,other) <- Builtin.Frozenset.slot1 "__or__" ⟨[.ref a,.ref b],[]⟩
  let (l,r):=if false then (other,self) else (self,other)
  if !(<- Builtin.Frozenset.isAnySet l <&&> Builtin.Frozenset.isAnySet r) then rule s!"frozenset.{"__or__"}.declined"; return <- ret .notImplemented
  let l' <- Builtin.Frozenset.addrOf l
  let v <- (do
   let result <- Builtin.Frozenset.copyOf l'
   if r != .ref l' then holding [result] (Builtin.Frozenset.updateFrom s!"frozenset.{"__or__"}" (<- Builtin.Frozenset.addrOf result) r)
   return result)
  ret v) _ _ _
 rw [hslot]
 refine wpAny_bind (wpAny_pure ?_)
 dsimp only
 rw [if_neg (by simp)]
 dsimp only
 have both:∀ {Q':Bool->Shared->Prop},Q' true s->wpAny (model prog w) A.in1 (Builtin.Frozenset.isAnySet (.ref a) <&&> Builtin.Frozenset.isAnySet (.ref b)) Q' E s:=fun q=>by
  unfold andM
  exact wpAny_bind (ZaK ho (ZaK hb q))
 refine wpAny_bind (both ?_)
 simp only [Bool.not_true,Bool.false_eq_true,↓reduceIte]
 refine wpAny_bind (m:=Builtin.Frozenset.addrOf (.ref a)) (wpAny_pure ?_)
 refine wpAny_bind ?_
 refine wpAny_bind (Zkk ho h fun r h1 zs hM hz=>?_)
 have fin:∀ r h1 zs,Mad s.heap r h1 zs->(∀ i,i ∈ zs ↔ i ∈ xs\/i ∈ ys)->wpAny (model prog w) A.in1 (pure (.ref r)) (fun v s'=>wpAny (model prog w) A.in1 (ret v) (fun fin s'=>∃ v,fin=.done (.ret v)/\v ≠ .notImplemented/\Q v s') E s') E { s with heap:=h1 }:=fun r h1 zs hM hz=>by
  refine wpAny_pure ?_
  show wpAny _ _ (ret _) _ _ _
  exact wpAny_pure ⟨_,rfl,(by simp),k r h1 zs hM hz⟩
 have hM':=hM.mad
 by_cases hab:b=a
 ·subst hab
  rw [hb] at ho
  have e1:ZaI esb epb tb=ZaI es ep t:=by injection ho
  have:(Value.ref b != Value.ref b)=false:=by simp
  rw [this]
  simp only [Bool.false_eq_true,↓reduceIte]
  refine wpAny_bind (wpAny_pure ?_)
  refine fin r h1 zs hM' fun i=>?_
  have hes:esb=es:=by
   have:=congrArg Obj.data e1
   simp only [ZaI,Data.set.injEq] at this
   exact this.1
  subst hes
  rw [hz]
  have:i ∈ ys ↔ i ∈ xs:=h'.mem.symm.trans h.mem
  rw [this]
  simp
 ·have:(Value.ref b != Value.ref a)=true:=by simp [hab]
  rw [this]
  simp only [↓reduceIte]
  have hb1:=hM.1 _ _ hb
  have hrb:r ≠ b:=fun e=>by
   have:=hM.2.1
   rw [e,hb] at this
   exact ns2 this
  obtain ⟨g1,g2,es1,ep1,t1,g3,g4,g5⟩:=hM
  refine wpAny_bind (m:=Builtin.Frozenset.addrOf (.ref r)) (wpAny_pure ?_)
  refine wpAny_bind (wpAny_holding ?_)
  unfold Builtin.Frozenset.updateFrom
  refine wpAny_bind (ZaK (s:={ s with heap:=h1 }) hb1 ?_)
  simp only [↓reduceIte]
  refine wpAny_bind (m:=Builtin.Frozenset.addrOf (.ref b)) (wpAny_pure ?_)
  unfold Builtin.Frozenset.merge
  refine wpAny_bind (wpAny_setEpoch_of (s:={ s with heap:=h1 }) hb1 rfl h'.fits ?_)
  refine ZiP (s:={ s with heap:=h1 }) hrb g3 g4 g5 hb1 h' (fun s' hs' Q' hq=>?_) fun h2 zs' hN hz'=>?_
  ·unfold Builtin.Frozenset.unchanged
   refine wpAny_bind (wpAny_setEpoch_of hs' rfl h'.fits ?_)
   simp only [bne_self_eq_false,Bool.false_eq_true,↓reduceIte]
   exact wpAny_pure hq
  ·exact fin r h2 zs' (hM'.now hN) fun i=>by rw [hz',hz]
end
theorem Zca {α:Type} (xs:Array α) (p:Nat):(SetTable.eraseAt xs p).toList=xs.toList.eraseIdx p:=by
 rw [List.eraseIdx_eq_take_drop_succ]
 simp [SetTable.eraseAt,List.extract_eq_take_drop,List.take_of_length_le]
theorem Zkr {t:SetTable} {n i:Nat} (h:t.fits n=true) (hi:i < n):(t.drop i).fits (n - 1)=true:=by
 have hp:t.place.size=n/\t.fill<=t.mask:=by
  simp only [SetTable.fits,Bool.and_eq_true,beq_iff_eq,decide_eq_true_eq] at h
  exact h
 have hpi:t.place[i]?=some (t.place[i]'(by rw [hp.1]; exact hi)):=Array.getElem?_eq_getElem _
 unfold SetTable.drop
 rw [hpi]
 dsimp only
 have h1:∀ (xs:Array Nat) (p:Nat),p < xs.size->(SetTable.eraseAt xs p).size=xs.size - 1:=fun xs p hp=>by
  rw [<- Array.length_toList,Zca,List.length_eraseIdx,Array.length_toList,if_pos hp]
 have h2:∀ (xs:Array Nat) (p x:Nat),(SetTable.insertAt xs p x).size=xs.size + 1:=fun xs p x=>by
  rw [<- Array.length_toList,(SetTable.insertAt_perm xs p x).length_eq]
  simp
 have hps:i < t.place.size:=by rw [hp.1]; exact hi
 unfold SetTable.fits SetTable.fill
 simp only [Bool.and_eq_true,beq_iff_eq,decide_eq_true_eq]
 rw [h1 _ _ hps,h2]
 have:=hp.2
 unfold SetTable.fill at this
 exact ZwT hi hp this
section
variable {prog:Program} {w:World} {A:Around} {E:Value->Shared->Prop} {s:Shared} {a:Addr} {es:Array (Int × Value)} {ep:Nat} {t:SetTable} {xs:List Int}
theorem Zjt {n:Int} {u:Tok} {Q:Bool->Shared->Prop} (ho:s.heap.get? a=some (ZaI es ep t)) (h:SetIn es t xs) (h0:0<=n) (h1:n < 64)
  (k:∀ b h' zs,Now s.heap a h' zs->(∀ i,i ∈ zs ↔ i ∈ xs/\i ≠ n)->Q b { s with heap:=h' }):wpAny (model prog w) A (setDiscardHashed a (.int n u) n) Q E s:=by
 have es0:s={ s with heap:=s.heap }:=by cases s; rfl
 refine wpAny_bind (ZhI ho h h0 h1 fun r hr hri=>?_)
 cases r with
 | none =>
  refine wpAny_pure ?_
  rw [es0]
  refine k _ _ xs ⟨Heap.SameBut.refl _ _,_,_,_,ho,h⟩ fun i=>⟨fun hi=>⟨hi,fun e=>?_⟩,fun hi=>hi.1⟩
  subst e
  simp [hi] at hr
 | some i =>
  refine Ze (hri i rfl) fun e he hen=>?_
  have hlt:i < es.size:=by
   refine Or.elim (Nat.lt_or_ge i es.size) (fun h=>?_) fun h=>?_
   ·exact h
   ·rw [Array.getElem?_eq_none h] at he; exact nos he
  refine wpAny_bind (wpAny_setState_of ho rfl h.fits ?_)
  have hl:i < es.toList.length:=by simpa using hlt
  have hei:es.toList[i]=e:=by
   rw [<- Array.getElem?_toList,List.getElem?_eq_getElem hl] at he
   injection he
  have hp:=Zdp hl
  rw [hei,<- Zca] at hp
  have hk:(n::(SetTable.eraseAt es i).toList.map (·.1)).Perm xs:=by
   have:=(hp.map (·.1)).trans h.vals
   rw [List.map_cons,hen] at this
   exact this
  have hnd:=hk.nodup_iff.mpr h.nodup
  refine ZL (List.nodup_cons.mp hnd) fun n1 n2=>?_
  have hsz:(SetTable.eraseAt es i).size=es.size - 1:=by
   rw [<- Array.length_toList,Zca,List.length_eraseIdx,Array.length_toList,if_pos hlt]
  have hS2:SetIn (SetTable.eraseAt es i) (t.drop i) ((SetTable.eraseAt es i).toList.map (·.1)):=by
   refine ⟨fun e he=>h.ent e (hp.mem_iff.mp (List.mem_cons_of_mem _ he)),List.Perm.refl _,n2,fun j hj=>h.bnd j (hk.mem_iff.mp (List.mem_cons_of_mem _ hj)),?_⟩
   rw [hsz]
   exact Zkr h.fits hlt
  refine wpAny_bind (ZcX ho hS2.few fun h' sb ho'=>?_)
  refine wpAny_bind (wpAny_point ?_)
  refine wpAny_pure (k _ h' _ ⟨sb,_,_,_,ho',hS2⟩ fun j=>?_)
  rw [<- hk.mem_iff,List.mem_cons]
  constructor
  ·intro hj
   exact ⟨.inr hj,fun e=>n1 (e ▸ hj)⟩
  ·rintro ⟨hj,hne⟩
   exact hj.resolve_left hne
theorem Zo8 {Q:Unit->Shared->Prop} (ho:s.heap.get? a=some (ZaI es ep t)) (h:SetIn es t xs) (k:∀ h',Now s.heap a h' xs->Q () { s with heap:=h' }):wpAny (model prog w) A (setTidy a) Q E s:=by
 have es0:s={ s with heap:=s.heap }:=by cases s; rfl
 refine wpAny_bind (wpAny_setState_of ho rfl h.fits ?_)
 dsimp only
 split
 ·have hf:=h.few
  have hg:SetTable.grown es.size=es.size * 4:=by
   unfold SetTable.grown
   rw [if_neg (ZwU hf)]
  rw [hg]
  exact Zjb ho h (ZwV hf) ZwW fun h' es' ep' t' sb ho' hS' _=>k h' ⟨sb,_,_,_,ho',hS'⟩
 ·refine wpAny_pure ?_
  rw [es0]
  exact k _ ⟨Heap.SameBut.refl _ _,_,_,_,ho,h⟩
theorem Zat {Q:Nat->Shared->Prop} (ho:s.heap.get? a=some (ZaI es ep t)) (h:SetIn es t xs) (k:Q es.size s):wpAny (model prog w) A (Builtin.Frozenset.sizeOf a) Q E s:=by
 exact wpAny_bind (wpAny_setEntries_of ho rfl h.fits (wpAny_pure k))
theorem Zcr {id:String} {Q:Unit->Shared->Prop} (ho:s.heap.get? a=some (ZaI es ep t)) (h:SetIn es t xs) (k:Q () s):wpAny (model prog w) A (Builtin.Frozenset.unchanged id a ep) Q E s:=by
 refine wpAny_bind (wpAny_setEpoch_of ho rfl h.fits ?_)
 simp only [bne_self_eq_false,Bool.false_eq_true,↓reduceIte]
 exact wpAny_pure k
theorem Zkp {r b:Addr} {id:String} {esr:Array (Int × Value)} {epr:Nat} {tr:SetTable} {xr:List Int} (hrb:r ≠ b) (hr:s.heap.get? r=some (ZaI esr epr tr)) (hSr:SetIn esr tr xr) (hb:s.heap.get? b=some (ZaI es ep t)) (h:SetIn es t xs) (hsz:¬ es.size / 8 > esr.size) {Q:Unit->Shared->Prop}
  (k:∀ h' zs,Now s.heap r h' zs->(∀ i,i ∈ zs ↔ i ∈ xr/\i ∉ xs)->Q () { s with heap:=h' }):wpAny (model prog w) A (Builtin.Frozenset.differenceUpdate id r (.ref b)) Q E s:=by
 unfold Builtin.Frozenset.differenceUpdate
 have hne:(Value.ref b == Value.ref r)=false:=by simp; exact fun e=>hrb e.symm
 rw [hne]
 simp only [Bool.false_eq_true,↓reduceIte]
 refine wpAny_bind (ZaK hb ?_)
 simp only [↓reduceIte]
 refine wpAny_bind (m:=Builtin.Frozenset.addrOf (.ref b)) (wpAny_pure ?_)
 refine wpAny_bind (Zat hb h (wpAny_bind (Zat hr hSr ?_)))
 rw [if_neg hsz]
 refine wpAny_bind (wpAny_setEpoch_of hb rfl h.fits ?_)
 refine wpAny_bind (wpAny_holding ?_)
 refine wpAny_bind (Zij (others:=[r]) (filled:=none) (zs:=[]) hb h (fun c hc=>by rw [List.mem_singleton.mp hc]; exact ⟨_,_,_,_,hr,hSr⟩) (fun f e=>by cases e) fun es' h1 hp hh=>?_)
 have e1:h1=s.heap:=hh.resolve_right fun hQ0=>Ze hQ0 fun f e _=>nos e
 subst e1
 rw [<- Array.forIn_toList]
 refine wpAny_bind (ZfJ es'.toList (fun (done:List (Int × Value)) s'=>∃ h' zs,s'={ s with heap:=h' }/\Now s.heap r h' zs/\∀ i,i ∈ zs ↔ i ∈ xr/\i ∉ done.map (fun (x:Int × Value)=>x.1)) (fun done e rest s' hall hI=>?_) (fun s' hI=>?_) es'.toList [] _ rfl ⟨s.heap,xr,rfl,⟨Heap.SameBut.refl _ _,_,_,_,hr,hSr⟩,fun i=>by simp⟩)
 ·refine ZaM hI fun h' zs eQ0_2 hN hz=>?_; subst eQ0_2
  obtain ⟨⟨u,hu⟩,b0,b1,hex⟩:=h.walked hp (e:=e) (by rw [hall]; simp)
  obtain ⟨e1,e2⟩:=e
  dsimp only at hu b0 b1 hex
  subst hu
  refine ZL hN fun sb hR0=>?_; refine ZjU hR0 fun es3 ep3 t3 ho3 hS3=>?_
  refine wpAny_bind (wpAny_holding (Zjt (s:={ s with heap:=h' }) ho3 hS3 b0 b1 fun b' h'' xs' hN' hx'=>?_))
  have ho'':h''.get? b=some (ZaI es ep t):=SameBut.get (sb.trans hN'.1) (fun e=>hrb e.symm) hb
  refine wpAny_bind (Zcr (s:={ s with heap:=h'' }) ho'' h ?_)
  refine wpAny_pure ⟨rfl,h'',xs',rfl,⟨sb.trans hN'.1,hN'.2⟩,fun i=>?_⟩
  rw [hx',hz,List.map_append,List.mem_append]
  simp only [List.map_cons,List.map_nil,List.mem_singleton,not_or]
  exact and_assoc
 ·refine ZaM hI fun h' zs eQ0_2 hN0_3 hz=>?_; subst eQ0_2; obtain ⟨sb,es3,ep3,t3,ho3,hS3⟩:=hN0_3
  refine wpAny_pure ?_
  refine Zo8 (s:={ s with heap:=h' }) ho3 hS3 fun h2 hN2=>?_
  refine k h2 zs ⟨sb.trans hN2.1,hN2.2⟩ fun i=>?_
  rw [hz]
  have:i ∈ es'.toList.map (fun (x:Int × Value)=>x.1) ↔ i ∈ xs:=((hp.map _).mem_iff).trans h.mem
  rw [this]
end
section
variable {prog:Program} {w:World} {A:Around} {E:Value->Shared->Prop} {s:Shared} {a b:Addr} {es esb:Array (Int × Value)} {ep epb:Nat} {t tb:SetTable} {xs ys:List Int}
theorem Zok {id:String} (ho:s.heap.get? a=some (ZaI es ep t)) (h:SetIn es t xs) (hb:s.heap.get? b=some (ZaI esb epb tb)) (h':SetIn esb tb ys) {Q:Value->Shared->Prop}
  (k:∀ r h1 zs,Mad s.heap r h1 zs->(∀ i,i ∈ zs ↔ i ∈ xs/\i ∉ ys)->Q (.ref r) { s with heap:=h1 }):wpAny (model prog w) A (Builtin.Frozenset.difference id a (.ref b)) Q E s:=by
 refine wpAny_bind (ZaK hb ?_)
 simp only [Bool.not_true,Bool.false_eq_true,↓reduceIte,Bool.false_and]
 refine wpAny_bind (m:=Builtin.Frozenset.addrOf (.ref b)) (wpAny_pure ?_)
 refine wpAny_bind (Zat hb h' (wpAny_bind (Zat ho h ?_)))
 by_cases hc:es.size / 4 > esb.size
 ·rw [if_pos hc]
  refine wpAny_bind (wpAny_rule ?_)
  refine wpAny_bind (Zkk ho h fun r h1 zs hM hz=>?_)
  refine wpAny_bind (m:=Builtin.Frozenset.addrOf (.ref r)) (wpAny_pure ?_)
  refine wpAny_bind (wpAny_holding ?_)
  have hb1:=hM.1 _ _ hb
  have hrb:r ≠ b:=fun e=>by
   have:=hM.2.1
   rw [e,hb] at this
   exact ns2 this
  have hM':=hM.mad
  obtain ⟨g1,g2,es1,ep1,t1,g3,g4,g5⟩:=hM
  have hsz:es1.size=es.size:=by
   rw [g4.size,h.size]
   exact (Zbh g4.nodup h.nodup hz).length_eq
  refine Zkp (s:={ s with heap:=h1 }) hrb g3 g4 hb1 h' (by rw [hsz]; exact Zwx hc) fun h2 zs' hN hz'=>?_
  exact wpAny_pure (k r h2 zs' (hM'.now hN) fun i=>by rw [hz',hz])
 ·rw [if_neg hc]
  refine wpAny_bind (Zgk ho ?_)
  refine wpAny_bind (Zc8 fun r h1 er hM=>?_)
  refine wpAny_bind (m:=Builtin.Frozenset.addrOf (.ref r)) (wpAny_pure ?_)
  have ho1:=hM.1 _ _ ho
  have hb1:=hM.1 _ _ hb
  have hra:r ≠ a:=fun e=>by
   have:=hM.2.1
   rw [e,ho] at this
   exact ns2 this
  have hrb:r ≠ b:=fun e=>by
   have:=hM.2.1
   rw [e,hb] at this
   exact ns2 this
  have hM':=hM.mad
  obtain ⟨g1,g2,es1,ep1,t1,g3,g4,g5⟩:=hM
  refine wpAny_bind (wpAny_setEpoch_of (s:={ s with heap:=h1 }) ho1 rfl h.fits ?_)
  refine wpAny_bind (wpAny_holding ?_)
  refine wpAny_bind (Zij (s:={ s with heap:=h1 }) (others:=[b,r]) (filled:=some r) (zs:=[]) ho1 h (fun c hc=>?_) (fun f e=>by cases e; exact ⟨hra,_,_,_,g3,g4⟩) fun es' h2 hp hh2=>?_)
  ·rcases List.mem_cons.mp hc with rfl | hc
   ·exact ⟨_,_,_,_,hb1,h'⟩
   ·rw [List.mem_singleton.mp hc]
    exact ⟨_,_,_,_,g3,g4⟩
  ·have hN2:Now h1 r h2 []:=by
    rcases hh2 with e | ⟨f,e,hN⟩
    ·rw [e]; exact ⟨Heap.SameBut.refl _ _,_,_,_,g3,g4⟩
    ·obtain rfl:=Option.some.inj e
     exact hN
   rw [<- Array.forIn_toList]
   refine wpAny_bind (ZfJ es'.toList (fun (done:List (Int × Value)) s'=>∃ h'' zs,s'={ s with heap:=h'' }/\Now h1 r h'' zs/\∀ i,i ∈ zs ↔ i ∈ done.map (fun (x:Int × Value)=>x.1)/\i ∉ ys) (fun done e rest s' hall hI=>?_) (fun s' hI=>?_) es'.toList [] _ rfl ⟨h2,[],rfl,hN2,fun i=>by simp⟩)
   ·obtain ⟨h3,zs,rfl,hN,hz⟩:=hI
    obtain ⟨⟨u,hu⟩,b0,b1,hex⟩:=h.walked hp (e:=e) (by rw [hall]; simp)
    obtain ⟨e1,e2⟩:=e
    dsimp only at hu b0 b1 hex
    subst hu
    obtain ⟨sb,es3,ep3,t3,ho3,hS3⟩:=hN
    have hb3:h3.get? b=some (ZaI esb epb tb):=SameBut.get sb (fun e=>hrb e.symm) hb1
    have fin:∀ h4 zs',Now h1 r h4 zs'->(∀ i,i ∈ zs' ↔ i ∈ (done++[(e1,Value.int e1 u)]).map (fun (x:Int × Value)=>x.1)/\i ∉ ys)->wpAny (model prog w) A (do Builtin.Frozenset.unchanged id a ep; pure (ForInStep.yield PUnit.unit)) (fun r_1 s'=>r_1=ForInStep.yield PUnit.unit/\∃ h'' zs,s'={ s with heap:=h'' }/\Now h1 r h'' zs/\∀ i,i ∈ zs ↔ i ∈ (done++[(e1,Value.int e1 u)]).map (fun (x:Int × Value)=>x.1)/\i ∉ ys) E { s with heap:=h4 }:=fun h4 zs' hN4 hz4=>by
     have ho4:h4.get? a=some (ZaI es ep t):=SameBut.get hN4.1 (fun e=>hra e.symm) ho1
     refine wpAny_bind (Zcr (s:={ s with heap:=h4 }) ho4 h ?_)
     exact wpAny_pure ⟨rfl,h4,zs',rfl,hN4,hz4⟩
    refine wpAny_bind (wpAny_holding ?_)
    refine wpAny_bind (ZhI (s:={ s with heap:=h3 }) hb3 h' b0 b1 fun r' hr' _=>?_)
    refine wpAny_bind (wpAny_pure ?_)
    rw [hr']
    by_cases hy:e1 ∈ ys
    ·rw [decide_eq_true hy]
     simp only [Bool.not_true,Bool.false_eq_true,↓reduceIte]
     refine wpAny_pure ?_
     refine fin h3 zs ⟨sb,es3,ep3,t3,ho3,hS3⟩ fun i=>?_
     rw [hz,List.map_append,List.mem_append]
     simp only [List.map_cons,List.map_nil,List.mem_singleton]
     constructor
     ·rintro ⟨p1,p2⟩; exact ⟨.inl p1,p2⟩
     ·rintro ⟨p1 | p1,p2⟩
      ·exact ⟨p1,p2⟩
      ·exact absurd (p1 ▸ hy) p2
    ·rw [decide_eq_false hy]
     simp only [Bool.not_false,↓reduceIte]
     refine wpAny_bind (Zhy (s:={ s with heap:=h3 }) ho3 hS3 b0 b1 fun b' h4 xs' hN4 hx4=>?_)
     refine wpAny_pure ?_
     refine fin h4 xs' ⟨sb.trans hN4.1,hN4.2⟩ fun i=>?_
     rw [hx4,hz,List.map_append,List.mem_append]
     simp only [List.map_cons,List.map_nil,List.mem_singleton]
     constructor
     ·rintro (⟨p1,p2⟩ | p1)
      ·exact ⟨.inl p1,p2⟩
      ·subst p1; exact ⟨.inr rfl,hy⟩
     ·rintro ⟨p1 | p1,p2⟩
      ·exact .inl ⟨p1,p2⟩
      ·exact .inr p1
   ·obtain ⟨h3,zs,rfl,hN,hz⟩:=hI
    refine wpAny_pure ?_
    refine wpAny_pure (k r h3 zs (hM'.now hN) fun i=>?_)
    rw [hz]
    have:i ∈ es'.toList.map (fun (x:Int × Value)=>x.1) ↔ i ∈ xs:=((hp.map _).mem_iff).trans h.mem
    rw [this]
theorem Zoc (ho:s.heap.get? a=some (ZaI es ep t)) (hb:s.heap.get? b=some (ZaI esb epb tb)) {Q':Bool->Shared->Prop} (q:Q' true s):wpAny (model prog w) A (Builtin.Frozenset.isAnySet (.ref a) <&&> Builtin.Frozenset.isAnySet (.ref b)) Q' E s:=by
 exact wpAny_bind (ZaK ho (ZaK hb q))
theorem Znj (ho:s.heap.get? a=some (ZaI es ep t)) (h:SetIn es t xs) (hb:s.heap.get? b=some (ZaI esb epb tb)) (h':SetIn esb tb ys) {Q:Value->Shared->Prop}
  (k:∀ r h1 zs,Mad s.heap r h1 zs->(∀ i,i ∈ zs ↔ i ∈ xs/\i ∉ ys)->Q (.ref r) { s with heap:=h1 }):wpAny (model prog w) A (binaryOp .Sub (.ref a) (.ref b)) Q E s:=by
 refine wpAny_binaryOp_same (op:=.Sub) (Z1 ho) (Z1 hb) ZgK ZnB ?_
 refine wpAny_call_entry ZnB (Z1 ho) ZgJ ?_ (ZhP _ _)
 have hslot:Builtin.Frozenset.slot1 "__sub__" ⟨[.ref a,.ref b],[]⟩=pure (.ref a,.ref b):=rfl
 show wpAny _ _ (do
  let (self,other) <- Builtin.Frozenset.slot1 "__sub__" ⟨[.ref a,.ref b],[]⟩
  let (l,r):=if false then (other,self) else (self,other)
  if !(<- Builtin.Frozenset.isAnySet l <&&> Builtin.Frozenset.isAnySet r) then rule s!"frozenset.{"__sub__"}.declined"; return <- ret .notImplemented
  let l' <- Builtin.Frozenset.addrOf l
  let v <- Builtin.Frozenset.difference s!"frozenset.{"__sub__"}" l' r
  ret v) _ _ _
 rw [hslot]
 refine wpAny_bind (wpAny_pure ?_)
 dsimp only
 rw [if_neg (by simp)]
 dsimp only
 refine wpAny_bind (Zoc ho hb ?_)
 simp only [Bool.not_true,Bool.false_eq_true,↓reduceIte]
 refine wpAny_bind (m:=Builtin.Frozenset.addrOf (.ref a)) (wpAny_pure ?_)
 refine wpAny_bind (Zok ho h hb h' fun r h1 zs hM hz=>?_)
 show wpAny _ _ (ret _) _ _ _
 exact wpAny_pure ⟨_,rfl,(by simp),k r h1 zs hM hz⟩
theorem ZkM {n:Int} {u:Tok} (ho:s.heap.get? a=some (ZaI es ep t)) (h:SetIn es t xs) {Q:Value->Shared->Prop}
  (k:∀ tk,Q (.bool (decide (n ∈ xs))) { s with toks:=tk }):wpAny (model prog w) A (compareOp .In (.int n u) (.ref a)) Q E s:=by
 show wpAny _ _ (do return .bool (<- contains (.ref a) (.int n u))) Q E s
 refine wpAny_bind ?_
 unfold contains
 try with_reducible refine wpAny_holding ?_
 refine wpAny_bind (wpAny_specialOf (Z1 ho) ZcP.lookup ?_)
 show wpAny _ _ (if (some (Value.builtin "frozenset.__contains__") == some Value.none)=true then _ else _) _ E s
 rw [if_neg (by rw [beq_builtin_none]; exact Bool.false_ne_true)]
 refine wpAny_bind (wpAny_callSpecialUnlessNone?_slot (name:=Str.ofString "__contains__") (Z1 ho) ZcP
  (wpAny_call_entry ZcP (Z1 ho) Zdq ?_ (ZdQ _ _)))
 unfold Builtin.«frozenset.__contains__» Builtin.Frozenset.oneOther
 simp only [List.isEmpty_nil,bind_assoc]
 refine wpAny_bind (wpAny_pure ?_)
 try dsimp only
 refine wpAny_bind (wpAny_pure ?_)
 try dsimp only
 refine wpAny_bind (wpAny_tryCatch ?_)
 refine wpAny_holding ?_
 refine wpAny_bind ((intKind prog w).pyHash (k:=n) (intKind_is ..) ?_)
 refine wpAny_bind (ZiB (s:={ s with toks:=s.toks + 1 }) ho h fun r hr _=>?_)
 refine wpAny_pure ?_
 show wpAny _ _ (ret (Value.bool r.isSome)) _ _ _
 rw [hr]
 exact wpAny_pure ⟨_,rfl,wpAny_truthy_bool (wpAny_pure (k _))⟩
end
section
variable {prog:Program} {w:World} {A:Around} {E:Value->Shared->Prop} {s:Shared} {a b:Addr} {es esb:Array (Int × Value)} {ep epb:Nat} {t tb:SetTable} {xs ys:List Int}
theorem Zbf {α β:Type} {β0:β} {f:α->β->Sem (ForInStep β)} {Q:β->Shared->Prop}:∀ {l:List α},(∀ e ∈ l,∀ Q':ForInStep β->Shared->Prop,Q' (.yield β0) s->wpAny (model prog w) A (f e β0) Q' E s)->Q β0 s->wpAny (model prog w) A (forIn l β0 f) Q E s
 | [],hf,hQ=>by rw [List.forIn_nil]; exact wpAny_pure hQ
 | e::l,hf,hQ=>by
  rw [List.forIn_cons]
  refine wpAny_bind (hf e List.mem_cons_self _ ?_)
  exact Zbf (fun e he=>hf e (List.mem_cons_of_mem _ he)) hQ
theorem Zbl {n:Int} {u:Tok} {Q:Bool->Shared->Prop} (k:Q true s):wpAny (model prog w) A (Builtin.Frozenset.quietEq (.int n u)) Q E s:=wpAny_pure k
theorem Zhn {id:String} (ho:s.heap.get? a=some (ZaI es ep t)) (h:SetIn es t xs) (hb:s.heap.get? b=some (ZaI esb epb tb)) (h':SetIn esb tb ys) {Q:Bool->Shared->Prop}
  (hsz:¬ es.size > esb.size) (k:∀ c:Bool,(c=true ↔ ∀ i ∈ xs,i ∈ ys)->Q c s):wpAny (model prog w) A (Builtin.Frozenset.subsetOf id a b) Q E s:=by
 refine wpAny_bind (Zat ho h (wpAny_bind (Zat hb h' ?_)))
 rw [if_neg hsz]
 refine wpAny_bind (wpAny_setEpoch_of ho rfl h.fits ?_)
 have walk:∀ {Q':List (Int × Value)->Shared->Prop},Q' es.toList s->wpAny (model prog w) A (Builtin.Frozenset.walkUnseen a b) Q' E s:=by
  intro Q' q
  refine wpAny_bind (wpAny_setEntries_of ho rfl h.fits ?_)
  refine wpAny_bind (wpAny_setEntries_of hb rfl h'.fits ?_)
  refine wpAny_bind (Zbf (fun e he Q'' hq=>?_) ?_)
  ·have hint:∃ u,e.2=.int e.1 u:=by
    refine Or.elim (List.mem_append.mp he) (fun he=>?_) fun he=>?_
    ·exact h.ent e he
    ·exact h'.ent e he
   obtain ⟨e1,e2⟩:=e
   refine ZU hint fun u hu=>?_
   dsimp only at hu
   subst hu
   refine wpAny_bind (Zbl ?_)
   exact wpAny_pure hq
  ·exact wpAny_pure q
 refine wpAny_bind (walk ?_)
 have loop:∀ {f:Int × Value->Option Bool × Unit->Sem (ForInStep (Option Bool × Unit))},(∀ e ∈ es.toList,∀ st,∀ Q':ForInStep (Option Bool × Unit)->Shared->Prop,Q' (if e.1 ∈ ys then .yield (none,()) else .done (some false,())) s->wpAny (model prog w) A (f e st) Q' E s)->
   ∀ (l:List (Int × Value)),(∀ e ∈ l,e ∈ es.toList)->∀ {Q':Option Bool × Unit->Shared->Prop},(∀ c:Bool,(c=true ↔ ∀ e ∈ l,e.1 ∈ ys)->Q' (if c=true then (none,()) else (some false,())) s)->wpAny (model prog w) A (forIn l (none,()) f) Q' E s:=by
  intro f hf l
  induction l with
  | nil =>
   intro hl Q' kk
   rw [List.forIn_nil]
   exact wpAny_pure (kk true (by simp))
  | cons e l ih =>
   intro hl Q' kk
   rw [List.forIn_cons]
   refine wpAny_bind (hf e (hl e List.mem_cons_self) _ _ ?_)
   by_cases he:e.1 ∈ ys
   ·rw [if_pos he]
    refine ih (fun x hx=>hl x (List.mem_cons_of_mem _ hx)) fun c hc=>kk c ?_
    rw [hc]
    constructor
    ·intro hh x hx
     rcases List.mem_cons.mp hx with rfl | hx
     ·exact he
     ·exact hh x hx
    ·intro hh x hx
     exact hh x (List.mem_cons_of_mem _ hx)
   ·rw [if_neg he]
    refine wpAny_pure ?_
    have:=kk false ⟨(fun hh=>by cases hh),fun hh=>absurd (hh e List.mem_cons_self) he⟩
    exact this
 refine wpAny_bind (loop (fun e he st Q' hq=>?_) es.toList (fun e he=>he) fun c hc=>?_)
 ·refine ZlP (h.walked (List.Perm.refl _) he) fun hN0_0 b0 b1 hex=>?_; obtain ⟨u,hu⟩:=hN0_0
  obtain ⟨e1,e2⟩:=e
  dsimp only at hu b0 b1 hex
  subst hu
  refine wpAny_bind (wpAny_holding (ZhI hb h' b0 b1 fun r hr _=>?_))
  by_cases hy:e1 ∈ ys
  ·rw [if_pos hy] at hq
   rw [decide_eq_true hy] at hr
   have:r.isNone=false:=by rw [Option.isSome_iff_exists] at hr; obtain ⟨x,rfl⟩:=hr; rfl
   rw [this]
   simp only [Bool.false_eq_true,↓reduceIte]
   refine wpAny_bind (Zcr ho h ?_)
   exact wpAny_pure hq
  ·rw [if_neg hy] at hq
   rw [decide_eq_false hy] at hr
   have:r.isNone=true:=by cases r with
    | none=>rfl
    | some x=>exact ZqZ hr
   rw [this]
   simp only [↓reduceIte]
   exact wpAny_pure hq
 ·have hc':c=true ↔ ∀ i ∈ xs,i ∈ ys:=by
   rw [hc]
   constructor
   ·intro hh i hi
    refine Ze (List.mem_map.mp (h.mem.mpr hi)) fun e he eQ0_2=>?_; subst eQ0_2
    exact hh e he
   ·intro hh e he
    exact hh e.1 (h.mem.mp (List.mem_map_of_mem he))
  cases c with
  | true=>exact wpAny_pure (k true hc')
  | false=>exact wpAny_pure (k false hc')
theorem ZkA {α β:Type} {f:β->α->β} (hc:∀ z x y,f (f z x) y=f (f z y) x):∀ {l l':List α},l.Perm l'->∀ z,l.foldl f z=l'.foldl f z:=by
 intro l l' p
 induction p with
 | nil=>intro z; rfl
 | cons x _ ih=>intro z; exact ih _
 | swap x y l=>intro z; rw [List.foldl_cons,List.foldl_cons,List.foldl_cons,List.foldl_cons,hc]
 | trans _ _ ih1 ih2=>intro z; rw [ih1,ih2]
theorem ZqP (x y z:Nat):x ^^^ y ^^^ z=x ^^^ z ^^^ y:=by rw [Nat.xor_assoc,Nat.xor_comm y z,<- Nat.xor_assoc]
theorem ZgM {l l':List Int} (p:l.Perm l'):Builtin.Frozenset.hashOf l=Builtin.Frozenset.hashOf l':=by
 unfold Builtin.Frozenset.hashOf
 dsimp only
 have key:∀ F:Nat->Int->Nat,(∀ z x y,F (F z x) y=F (F z y) x)->l.foldl F 0=l'.foldl F 0:=fun F hF=>ZkA hF p 0
 rw [p.length_eq,key]
 intro z x y
 exact ZqP _ _ _
theorem Zon (ho:s.heap.get? a=some (ZaI es ep t)) (h:SetIn es t xs) (hb:s.heap.get? b=some (ZaI esb epb tb)) (h':SetIn esb tb ys) {Q:Value->Shared->Prop}
  (k:∀ c:Bool,(c=true ↔ ∀ i,i ∈ xs ↔ i ∈ ys)->Q (.bool c) s):wpAny (model prog w) A (Builtin.«frozenset.__eq__» ⟨[.ref a,.ref b],[]⟩) (fun fin s'=>∃ v,fin=.done (.ret v)/\Q v s') E s:=by
 refine wpAny_bind (m:=Builtin.Frozenset.slot1 "__eq__" ⟨[.ref a,.ref b],[]⟩) (wpAny_pure ?_)
 dsimp only
 refine wpAny_bind (ZaK hb ?_)
 simp only [Bool.not_true,Bool.false_eq_true,↓reduceIte]
 refine wpAny_bind (m:=Builtin.Frozenset.addrOf (.ref a)) (wpAny_pure ?_)
 refine wpAny_bind (m:=Builtin.Frozenset.addrOf (.ref b)) (wpAny_pure ?_)
 refine wpAny_bind (Zat ho h (wpAny_bind (Zat hb h' ?_)))
 have fin:∀ c:Bool,(c=true ↔ ∀ i,i ∈ xs ↔ i ∈ ys)->wpAny (model prog w) A (ret (.bool c)) (fun fin s'=>∃ v,fin=.done (.ret v)/\Q v s') E s:=fun c hc=>wpAny_pure ⟨_,rfl,k c hc⟩
 refine wpAny_bind ?_
 have perm:(∀ i,i ∈ xs ↔ i ∈ ys)->(es.toList.map (·.1)).Perm (esb.toList.map (·.1)):=fun hh=>(h.vals.trans (Zbh h.nodup h'.nodup hh)).trans h'.vals.symm
 by_cases hn:es.size=esb.size
 ·rw [if_neg (by simp [hn])]
  refine wpAny_bind ?_
  unfold andM
  refine wpAny_bind (wpAny_isInstance (Z1 ho) ZcQ (wpAny_isInstance (Z1 hb) ZcQ ?_))
  simp only [↓reduceIte]
  refine wpAny_bind (wpAny_setEntries_of ho rfl h.fits ?_)
  refine wpAny_bind (wpAny_setEntries_of hb rfl h'.fits ?_)
  have hperm:=fun hs=>ZgM (perm hs)
  generalize Builtin.Frozenset.hashOf (es.toList.map (fun x=>x.1))=H1 at hperm ⊢
  generalize Builtin.Frozenset.hashOf (esb.toList.map (fun x=>x.1))=H2 at hperm ⊢
  by_cases hh:H1=H2
  ·rw [if_neg (by simp [hh])]
   refine Zhn ho h hb h' (o95 hn) fun c hc=>fin c (hc.trans ⟨fun hs i=>⟨hs i,fun hi=>?_⟩,fun hs i hi=>(hs i).mp hi⟩)
   apply Classical.byContradiction
   intro hx
   have h1:=Zcl (K:=i::xs) (U:=ys) (List.nodup_cons.mpr ⟨hx,h.nodup⟩) fun j hj=>by
    rcases List.mem_cons.mp hj with rfl | hj
    ·exact hi
    ·exact hs j hj
   rw [List.length_cons,<- h.size,<- h'.size] at h1
   exact o96 hn h1
  ·rw [if_pos (by simp [hh])]
   rw [<- Array.forIn_toList,<- Array.forIn_toList]
   refine wpAny_bind (Zbf (fun e he Q'' hq=>?_) ?_)
   ·refine ZU (h.ent e he) fun u hu=>?_
    rw [hu]
    refine wpAny_bind (Zbl ?_)
    exact wpAny_pure hq
   ·refine wpAny_bind (Zbf (fun e he Q'' hq=>?_) ?_)
    ·refine ZU (h'.ent e he) fun u hu=>?_
     rw [hu]
     refine wpAny_bind (Zbl ?_)
     exact wpAny_pure hq
    ·refine wpAny_bind (wpAny_rule (wpAny_pure ?_))
     exact fin false ⟨(fun z=>by cases z),fun hs=>absurd (hperm hs) hh⟩
 ·rw [if_pos (by simp [hn])]
  refine wpAny_pure ?_
  refine fin false ⟨(fun z=>by cases z),fun hs=>absurd ?_ hn⟩
  have:=(perm hs).length_eq
  rw [List.length_map,List.length_map,Array.length_toList,Array.length_toList] at this
  exact this
theorem ZoH (ho:s.heap.get? a=some (ZaI es ep t)) (h:SetIn es t xs) (hb:s.heap.get? b=some (ZaI esb epb tb)) (h':SetIn esb tb ys) {Q:Value->Shared->Prop}
  (k:∀ c:Bool,(c=true ↔ ∀ i,i ∈ xs ↔ i ∈ ys)->Q (.bool (!c)) s):wpAny (model prog w) A (Builtin.«frozenset.__ne__» ⟨[.ref a,.ref b],[]⟩) (fun fin s'=>∃ v,fin=.done (.ret v)/\Q v s') E s:=by
 refine wpAny_bind (m:=Builtin.Frozenset.slot1 "__ne__" ⟨[.ref a,.ref b],[]⟩) (wpAny_pure ?_)
 dsimp only
 refine wpAny_bind (ZaK hb ?_)
 simp only [Bool.not_true,Bool.false_eq_true,↓reduceIte]
 refine wpAny_bind (m:=Builtin.Frozenset.addrOf (.ref a)) (wpAny_pure ?_)
 refine wpAny_bind (m:=Builtin.Frozenset.addrOf (.ref b)) (wpAny_pure ?_)
 refine wpAny_bind (Zat ho h (wpAny_bind (Zat hb h' ?_)))
 have fin:∀ c:Bool,(c=true ↔ ∀ i,i ∈ xs ↔ i ∈ ys)->wpAny (model prog w) A (ret (.bool (!c))) (fun fin s'=>∃ v,fin=.done (.ret v)/\Q v s') E s:=fun c hc=>wpAny_pure ⟨_,rfl,k c hc⟩
 refine wpAny_bind ?_
 have perm:(∀ i,i ∈ xs ↔ i ∈ ys)->(es.toList.map (·.1)).Perm (esb.toList.map (·.1)):=fun hh=>(h.vals.trans (Zbh h.nodup h'.nodup hh)).trans h'.vals.symm
 by_cases hn:es.size=esb.size
 ·rw [if_neg (by simp [hn])]
  refine wpAny_bind ?_
  unfold andM
  refine wpAny_bind (wpAny_isInstance (Z1 ho) ZcQ (wpAny_isInstance (Z1 hb) ZcQ ?_))
  simp only [↓reduceIte]
  refine wpAny_bind (wpAny_setEntries_of ho rfl h.fits ?_)
  refine wpAny_bind (wpAny_setEntries_of hb rfl h'.fits ?_)
  have hperm:=fun hs=>ZgM (perm hs)
  generalize Builtin.Frozenset.hashOf (es.toList.map (fun x=>x.1))=H1 at hperm ⊢
  generalize Builtin.Frozenset.hashOf (esb.toList.map (fun x=>x.1))=H2 at hperm ⊢
  by_cases hh:H1=H2
  ·rw [if_neg (by simp [hh])]
   refine Zhn ho h hb h' (o95 hn) fun c hc=>fin c (hc.trans ⟨fun hs i=>⟨hs i,fun hi=>?_⟩,fun hs i hi=>(hs i).mp hi⟩)
   apply Classical.byContradiction
   intro hx
   have h1:=Zcl (K:=i::xs) (U:=ys) (List.nodup_cons.mpr ⟨hx,h.nodup⟩) fun j hj=>by
    rcases List.mem_cons.mp hj with rfl | hj
    ·exact hi
    ·exact hs j hj
   rw [List.length_cons,<- h.size,<- h'.size] at h1
   exact o96 hn h1
  ·rw [if_pos (by simp [hh])]
   rw [<- Array.forIn_toList,<- Array.forIn_toList]
   refine wpAny_bind (Zbf (fun e he Q'' hq=>?_) ?_)
   ·refine ZU (h.ent e he) fun u hu=>?_
    rw [hu]
    refine wpAny_bind (Zbl ?_)
    exact wpAny_pure hq
   ·refine wpAny_bind (Zbf (fun e he Q'' hq=>?_) ?_)
    ·refine ZU (h'.ent e he) fun u hu=>?_
     rw [hu]
     refine wpAny_bind (Zbl ?_)
     exact wpAny_pure hq
    ·refine wpAny_bind (wpAny_rule (wpAny_pure ?_))
     exact fin false ⟨(fun z=>by cases z),fun hs=>absurd (hperm hs) hh⟩
 ·rw [if_pos (by simp [hn])]
  refine wpAny_pure ?_
  refine fin false ⟨(fun z=>by cases z),fun hs=>absurd ?_ hn⟩
  have:=(perm hs).length_eq
  rw [List.length_map,List.length_map,Array.length_toList,Array.length_toList] at this
  exact this
open Classical in
theorem Zmc (hu:A.units < cLine) (ho:s.heap.get? a=some (ZaI es ep t)) (h:SetIn es t xs) (hb:s.heap.get? b=some (ZaI esb epb tb)) (h':SetIn esb tb ys) (ne:Bool) {Q:Value->Shared->Prop}
  (k:Q (.bool (ne ^^ decide (∀ i,i ∈ xs ↔ i ∈ ys))) s):wpAny (model prog w) A (compareOp (if ne then .NotEq else .Eq) (.ref a) (.ref b)) Q E s:=by
 have hd:∀ c:Bool,(c=true ↔ ∀ i,i ∈ xs ↔ i ∈ ys)->c=decide (∀ i,i ∈ xs ↔ i ∈ ys):=fun c hc=>by
  cases c with
  | true=>exact (decide_eq_true (hc.mp rfl)).symm
  | false=>exact (decide_eq_false fun e=>by have:=hc.mpr e; exact nob this).symm
 cases ne with
 | false =>
  refine wpAny_richCompare_same_room (op:=.Eq) (Z1 ho) (Z1 hb) Zp0 ?_ hu
  refine wpAny_call_entry Zp0 (Z1 ho) ZhL ?_ (Zjw _ _)
  refine Zon ho h hb h' fun c hc=>⟨by simp,?_⟩
  rw [hd c hc]
  simpa using k
 | true =>
  refine wpAny_richCompare_same_room (op:=.NotEq) (Z1 ho) (Z1 hb) Zp1 ?_ hu
  refine wpAny_call_entry Zp1 (Z1 ho) ZhM ?_ (Zjx _ _)
  refine ZoH ho h hb h' fun c hc=>⟨by simp,?_⟩
  rw [hd c hc]
  simpa using k
end
theorem Znz:mroOf (.type "frozenset")=pure [.type "frozenset",.type "object"]:=by rw [mroOf_type]; kernel_rfl
theorem Zp2:typeLookup (.type "frozenset") "__new__" = pure (some (.builtin "frozenset.__new__")):=by rw [typeLookup_type,builtinLookup_eq_fast]; kernel_rfl
theorem ZkH:Slot "frozenset" "__init__" "object.__init__" :=
 .of (owner:="object") (n:="__init__") (by rw [typeLookup_type,builtinLookup_eq_fast]; kernel_rfl) (by decide +kernel) (by decide +kernel) (by decide +kernel)
  (by first | exact .inl (by decide +kernel) | exact .inr (by decide +kernel)) (by rw [isSubtype_type]; kernel_rfl)
theorem ZgI:TypeCalled "frozenset" "frozenset.__new__" "object.__init__" :=
 ⟨by decide +kernel,by decide +kernel,⟨_,_,Znz⟩,madeBy_type Znz Zp2 (by decide +kernel),by decide +kernel,by rw [isSubtype_type]; kernel_rfl,ZkH⟩
theorem ZkF:checkTypeCall "frozenset" ⟨[],[]⟩=pure ():=by kernel_rfl
theorem ZkG (a:Value):checkTypeCall "frozenset" ⟨[a],[]⟩=pure ():=by kernel_rfl
theorem Zms:checkBuiltinCall "frozenset.__new__" ⟨[.type "frozenset"],[]⟩=pure ():=by kernel_rfl
theorem Zmt (a:Value):checkBuiltinCall "frozenset.__new__" ⟨[.type "frozenset",a],[]⟩=pure ():=by kernel_rfl
theorem ZdE:entryFor table "frozenset.__new__" = some Builtin.«frozenset.__new__»:=entryFor_of_tree (by kernel_rfl)
theorem ZcD:typeLookup (.type "frozenset") "__init__" = pure (some (.builtin "object.__init__")):=ZkH.lookup
theorem ZjA:Meets (Builtin.«frozenset.__new__» ⟨[.type "frozenset"],[]⟩) (fun _ R s=>∀ r h',Mad s.heap r h' []->R (.ok (.ret (.ref r))) { s with heap:=h' }) :=
 .of_wp fun prog w A R s h=>by
  have hsub:=ZcQ
  have hinit:=ZcD
  unfold Builtin.«frozenset.__new__» Builtin.Frozenset.newClass
  generalize hns:newSet=NS
  wp_walk
  subst hns
  refine Zc8 fun r h' _ hM=>?_
  show wpAny _ _ (ret _) _ _ _
  exact wpAny_pure ⟨_,rfl,h r h' hM.mad⟩
section
variable {prog:Program} {w:World} {A:Around} {E:Value->Shared->Prop} {s:Shared}
theorem Zkd {Q:Value->Shared->Prop} (k:∀ r h',Mad s.heap r h' []->Q (.ref r) { s with heap:=h' }):wpAny (model prog w) A (call (.type "frozenset") []) Q E s :=
 callType_new ZgI (by decide) ZkF Zms (fun obj=>F.args_object_init_1 obj) ZdE ZjA fun r h' hM=>by
  have hM':=hM
  refine Zbp hM fun _ _ hR0=>?_; refine ZjU hR0 fun es ep t h1 _=>?_
  exact ⟨⟨_,h1,rfl⟩,k r h' hM'⟩
end
noncomputable def Has (h:Heap) (a:Addr) (p:Int->Prop):Prop:=∃ es ep t xs,h.get? a=some (ZaI es ep t)/\SetIn es t xs/\∀ j,j ∈ xs ↔ p j
theorem Has.congr {h h':Heap} {a:Addr} {p p':Int->Prop} (x:Has h a p) (hh:∀ o,h.get? a=some o->h'.get? a=some o) (hp:∀ j,p j ↔ p' j):Has h' a p':=by
 refine ZlU x fun es ep t xs h1 h2 h3=>?_
 exact ⟨es,ep,t,xs,hh _ h1,h2,fun j=>(h3 j).trans (hp j)⟩
section
variable {prog:Program} {w:World} {A:Around} {R:Result->Shared->Prop} {I:Addr} {fp wr:List Addr} {G:Array GenState->Array GenState->Prop} {n:Nat} {P:Nat->Value->Prop} {St:Nat->Shared->Prop}
theorem Znm (W:WalksS prog w A.in1 I fp wr G n P St) (S:Addr) (hSf:S ∉ fp) (val:Nat->Int) (hval:∀ i v,P i v->∃ t,v=.int (val i) t) (hb:∀ i,i < n->0<=val i/\val i < 64) :
  ∀ (k i:Nat) (s:Shared),n - i=k->i<=n->St i s->Has s.heap S (fun j=>∃ m,m < i/\val m=j)->
   (∀ s',Moved (S::wr) G s s'->Has s'.heap S (fun j=>∃ m,m < n/\val m=j)->R (.ok (.ret .none)) s')->
   codeAny (model prog w) A (.builtin "set.update.loop" ⟨[.ref S,.ref I],[]⟩) R s:=by
 have hSw:S ∉ wr:=fun h=>hSf (W.sub _ h)
 have hsub:∀ b ∈ wr,b ∈ S::wr:=fun b hb=>List.mem_cons_of_mem _ hb
 intro k
 induction k with
 | zero =>
  intro i s hk hi hst hS hR
  have hin:i=n:=Zwy hk hi
  subst hin
  refine codeAny_builtin PyProof.Rows.F.entry_set_update_loop ?_
  rw [Around.under_plainId PyProof.Rows.F.plain_set_update_loop _]
  show wpAny _ A.in1 (pyNext (.ref I) >>= _) _ _ s
  refine wpAny_bind (W.done s _ _ hst fun s' hm=>?_)
  show wpAny _ A.in1 (ret Value.none) _ _ s'
  exact wpAny_pure (hR s' (hm.mono hsub) (hS.congr (fun o e=>hm.heap S o hSw e) fun j=>Iff.rfl))
 | succ k ih =>
  intro i s hk hi hst hS hR
  have hlt:i < n:=Zwz hk
  refine codeAny_builtin PyProof.Rows.F.entry_set_update_loop ?_
  rw [Around.under_plainId PyProof.Rows.F.plain_set_update_loop _]
  show wpAny _ A.in1 (pyNext (.ref I) >>= _) _ _ s
  refine wpAny_bind (W.item i s _ _ hlt hst fun v s' hP hst' hm=>?_)
  refine ZU (hval i v hP) fun t eQ0_1=>?_; subst eQ0_1
  refine ZL (hb i hlt) fun b0 b1=>?_
  refine ZlU (hS.congr (h':=s'.heap) (fun o e=>hm.heap S o hSw e) fun j=>Iff.rfl) fun es ep tb xs ho hS' hx=>?_
  show wpAny _ A.in1 (holding [Value.int (val i) t] (setAdd S (.int (val i) t)) >>= _) _ _ s'
  refine wpAny_bind (wpAny_holding ?_)
  refine wpAny_holding ?_
  refine wpAny_bind ((intKind prog w).pyHash (k:=val i) (intKind_is _ _ _ _) ?_)
  rw [show (intKind prog w).hash (val i)=val i from Zcw b0 b1]
  refine Zhy (s:={ s' with toks:=s'.toks + 1 }) ho hS' b0 b1 fun bb h' xs' hN hx'=>?_
  have hSi:Has h' S (fun j=>∃ m,m < i + 1/\val m=j):=by
   refine ZL hN fun hsb hR0=>?_; refine ZjU hR0 fun es' ep' t' g1 g2=>?_
   refine ⟨es',ep',t',xs',g1,g2,fun j=>?_⟩
   rw [hx',hx]
   constructor
   ·rintro (⟨m,h1,h2⟩ | h)
    ·exact ⟨m,o29 h1,h2⟩
    ·exact ⟨i,o52,h.symm⟩
   ·rintro ⟨m,h1,h2⟩
    by_cases e:m=i
    ·subst e; exact .inr h2.symm
    ·exact .inl ⟨m,ZwA h1 e,h2⟩
  have hsb:=hN.1
  refine wpAny_pure ⟨plainId_quiet PyProof.Rows.F.plain_set_update_loop _,ih (i + 1) _ (ZwB hk) hlt (W.frame _ s' _ _ hst' (Nat.le_succ _) fun b hb o e=>?_) hSi fun s'' hm'' hS''=>?_⟩
  ·rw [hsb.2 b (fun h:b=S=>hSf (by rw [<- h]; exact hb))]; exact e
  ·refine hR s'' (Moved.trans W.gtrans ((hm.mono hsub).then_heap (Nat.le_succ _) fun b o hb e=>?_) hm'') hS''
   rw [hsb.2 b (fun h:b=S=>hb (by rw [h]; exact List.mem_cons_self))]; exact e
end
section
variable {prog:Program} {w:World} {A:Around} {E:Value->Shared->Prop} {s:Shared}
theorem ZkC {l:Addr} {items:Array Value} {val:Nat->Int} {Q:Value->Shared->Prop} (hh:A.handled=none) (hl:s.heap.IsList l items) (hval:∀ (i:Nat) (v:Value),items[i]?=some v->∃ t,v=Value.int (val i) t) (hb:∀ i:Nat,i < items.size->0<=val i/\val i < 64)
  (k:∀ r h' tk zs,Mad s.heap r h' zs->(∀ j,j ∈ zs ↔ ∃ m,m < items.size/\val m=j)->Q (.ref r) { s with heap:=h',toks:=tk }):wpAny (model prog w) A (Builtin.Frozenset.newFrom "frozenset.__new__" (.type "frozenset") (.ref l)) Q E s:=by
 refine Zdk hl fun ol hol hcl hR0=>?_; refine ZU hR0 fun nl hdl=>?_
 have hl:s.heap.IsList l items:=⟨ol,hol,hcl,nl,hdl⟩
 refine wpAny_bind (Zc8 fun r h1 er hM=>?_)
 refine wpAny_bind (m:=Builtin.Frozenset.addrOf (.ref r)) (wpAny_pure ?_)
 have hol1:=hM.1 _ _ hol
 have hl1:h1.IsList l items:=⟨ol,hol1,hcl,nl,hdl⟩
 have hT:Shared.TypeIs { s with heap:=h1 } (.ref l) "list":=⟨ol,hol1,hcl⟩
 refine Zbp hM fun g1 g2 hR0=>?_; refine ZlT hR0 fun es ep t g3 g4 _=>?_
 refine wpAny_bind (wpAny_holding ?_)
 refine wpAny_bind ?_
 refine wpAny_bind (wpAny_isInstance hT PySem.F.sub_list_set ?_)
 refine wpAny_isInstance hT PySem.F.sub_list_frozenset ?_
 simp only [Bool.false_eq_true,↓reduceIte]
 refine wpAny_bind (wpAny_typeOf hT ?_)
 rw [if_neg (by decide)]
 refine wpAny_bind (wpAny_pyIter_list (s:={ s with heap:=h1 }) hl1 ?_)
 refine wpAny_bind (wpAny_runValue ?_)
 have hlr:l ≠ r:=fun e=>by rw [e,g2] at hol; exact nos hol
 have hI:l ≠ h1.objs.size:=Nat.ne_of_lt (Heap.lt_size hol1)
 have hrI:r ≠ h1.objs.size:=Nat.ne_of_lt (Heap.lt_size g3)
 have hSf:r ∉ [h1.objs.size,l]:=by
  simp only [List.mem_cons,List.not_mem_nil,or_false,not_or]
  exact ⟨hrI,fun e=>hlr e.symm⟩
 have hh3:A.in1.handled=none:=by simp [hh]
 have hS0:Has (h1.push { cls:=.type "list_iterator",data:=.fields #[.ref l,.int 0 0] }) r (fun j=>∃ m,m < 0/\val m=j):=⟨es,ep,t,[],Heap.get?_push_of_some _ g3,g4,fun j=>by simp⟩
 refine Znm ((Walks.list hh3 _ l hI items).toS) r hSf val hval hb (items.size - 0) 0 { s with heap:=h1.push { cls:=.type "list_iterator",data:=.fields #[.ref l,.int 0 0] } } ZwC (Nat.zero_le _) ⟨⟨_,Heap.get?_push_size _ rfl,rfl,rfl⟩,hl1.push _⟩ hS0 fun s' hm hS'=>?_
 obtain ⟨h',g',d',tk',os'⟩:=s'
 have eg:g'=s.gens:=hm.gens
 have ed:d'=s.drawn:=hm.drawn
 have eo:os'=s.os:=hm.os
 subst eg; subst ed; subst eo
 show wpAny _ _ _ _ _ _
 refine wpAny_pure ?_
 refine ZlU hS' fun es' ep' t' xs' q1 q2 q3=>?_
 refine wpAny_pure (k r h' tk' xs' ⟨fun b o e=>?_,g2,_,_,_,q1,q2⟩ q3)
 have hb1:b ≠ r:=fun e'=>by rw [e',g2] at e; exact nos e
 have hb2:b ≠ h1.objs.size:=Nat.ne_of_lt (Heap.lt_size (g1 b o e))
 exact hm.heap b o (by simp only [List.mem_cons,List.not_mem_nil,or_false,not_or]; exact ⟨hb1,hb2⟩) (Heap.get?_push_of_some _ (g1 b o e))
end
theorem ZjB {l:Addr} {items:Array Value} {val:Nat->Int} (hval:∀ (i:Nat) (v:Value),items[i]?=some v->∃ t,v=Value.int (val i) t) (hb:∀ i:Nat,i < items.size->0<=val i/\val i < 64) :
  Meets (Builtin.«frozenset.__new__» ⟨[.type "frozenset",.ref l],[]⟩) (fun A R s=>A.handled=none/\s.heap.IsList l items/\∀ r h' tk zs,Mad s.heap r h' zs->(∀ j,j ∈ zs ↔ ∃ m,m < items.size/\val m=j)->R (.ok (.ret (.ref r))) { s with heap:=h',toks:=tk }) :=
 .of_wp fun prog w A R s hQ0=>Zbp hQ0 fun hh hl h=>by
  have hsub:=ZcQ
  have hinit:=ZcD
  have hT:s.TypeIs (.ref l) "list":=hl.typeIs
  unfold Builtin.«frozenset.__new__» Builtin.Frozenset.newClass
  generalize hns:Builtin.Frozenset.newFrom=NF
  wp_walk using wpAny_typeOf hT
  subst hns
  refine ZkC (by simp [hh]) hl hval hb fun r h' tk zs hM hz=>?_
  show wpAny _ _ (ret _) _ _ _
  exact wpAny_pure ⟨_,rfl,h r h' tk zs hM hz⟩
section
variable {prog:Program} {w:World} {A:Around} {E:Value->Shared->Prop} {s:Shared}
theorem Zgo {l:Addr} {items:Array Value} {val:Nat->Int} {Q:Value->Shared->Prop} (hh:A.handled=none) (hl:s.heap.IsList l items) (hval:∀ (i:Nat) (v:Value),items[i]?=some v->∃ t,v=Value.int (val i) t) (hb:∀ i:Nat,i < items.size->0<=val i/\val i < 64)
  (k:∀ r h' tk zs,Mad s.heap r h' zs->(∀ j,j ∈ zs ↔ ∃ m,m < items.size/\val m=j)->Q (.ref r) { s with heap:=h',toks:=tk }):wpAny (model prog w) A (call (.type "frozenset") [.ref l]) Q E s :=
 callType_new ZgI (by decide) (ZkG _) (Zmt _) (fun obj=>F.args_object_init_2 obj _) ZdE (ZjB hval hb) ⟨by simp [hh],hl,fun r h' tk zs hM hz=>by
  have hM':=hM
  refine Zbp hM fun _ _ hR0=>?_; refine ZjU hR0 fun es ep t h1 _=>?_
  exact ⟨⟨_,h1,rfl⟩,k r h' tk zs hM' hz⟩⟩
end
end
section
open PySem PySem.W PyProof.Rows PySem.Calls PySem.SeqAt
set_option maxRecDepth 10000
section
variable {G:Glo} {A:Around} {P F:Addr->Prop} {σ:St} {s:Shared}
noncomputable abbrev ZlX (G:Glo) (P:Addr->Prop) (σ:St) (s:Shared) (zs:List Int) (Ψ:Value->St->Shared->Prop):Prop :=
 ∀ v h' tk,(∀ b o,s.heap.get? b=some o->h'.get? b=some o)->Rep G (Dom P σ) h' (.fset zs) v->Ψ v σ { s with heap:=h',toks:=tk }
theorem ZoI (i:Inv G P σ s.heap) {r:Addr} (h:s.heap.get? r=none):Dom P σ r:=by
 refine ⟨?_,fun hp=>?_⟩
 ·cases hs:σ r with
  | none=>rfl
  | some o =>
   refine ZU ((i.tr r o hs).there) fun x hx=>?_
   rw [h] at hx
   exact nos hx
 ·refine Zbp (i.dis r hp) fun _ _ hR0=>?_; refine ZU hR0 fun o ho=>?_
  rw [h] at ho
  exact nos ho
theorem ZaU {xs:List Int} {x:Value} {D:Addr->Prop} (r:Rep G D s.heap (.fset xs) x):∃ a es ep t,x=.ref a/\s.heap.get? a=some (ZaI es ep t)/\SetIn es t xs:=by
 refine Zq4 r fun a o eQ0_2 _ ho hf=>?_; subst eQ0_2
 refine ZjU hf.eq fun es ep t eQ0_3 hS=>?_; subst eQ0_3
 exact ⟨a,es,ep,t,rfl,ho,hS⟩
theorem ZfK (i:Inv G P σ s.heap) {r:Addr} {h':Heap} {zs zs':List Int} (hM:Mad s.heap r h' zs) (nd:zs'.Nodup) (hz:∀ j,j ∈ zs ↔ j ∈ zs'):Rep G (Dom P σ) h' (.fset zs') (.ref r):=by
 refine Zbp hM fun h1 h2 hR0=>?_; refine ZjU hR0 fun es ep t h3 h4=>?_
 exact ⟨r,_,rfl,ZoI i h2,h3,Zji.mk' (h4.perm (Zbh h4.nodup nd hz))⟩
theorem Zos (R:Room A) {xs ys:List Int} {x y:Value} {Ψ:Value->St->Shared->Prop} (i:Inv G P σ s.heap) (ra:Rep G (Dom P σ) s.heap (.fset xs) x) (rb:Rep G (Dom P σ) s.heap (.fset ys) y)
  (k:ZlX G P σ s (xs++ys.filter fun y=>!xs.contains y) Ψ):TT G A P F (binaryOp .BitOr x y) Ψ σ s:=by
 refine ZlU (ZaU ra) fun a es ep t eQ0_4 ho hS=>?_; subst eQ0_4
 refine ZlU (ZaU rb) fun b es' ep' t' eQ0_4 ho' hS'=>?_; subst eQ0_4
 refine ZoQ ho hS ho' hS' fun r h1 zs hM hz=>?_
 have hk:=hM.1
 refine Za5 i hk ?_
 refine k _ h1 s.toks hk (ZfK i hM ?_ fun j=>?_)
 ·refine List.nodup_append.mpr ⟨hS.nodup,List.Nodup.sublist List.filter_sublist hS'.nodup,fun a ha b hb e=>?_⟩
  subst e
  have:=(List.mem_filter.mp hb).2
  simp [ha] at this
 ·rw [hz,List.mem_append,List.mem_filter]
  constructor
  ·rintro (h | h)
   ·exact .inl h
   ·by_cases hx:j ∈ xs
    ·exact .inl hx
    ·exact .inr ⟨h,by simp [hx]⟩
  ·rintro (h | h)
   ·exact .inl h
   ·exact .inr h.1
theorem Zmr (R:Room A) {xs ys:List Int} {x y:Value} {Ψ:Value->St->Shared->Prop} (i:Inv G P σ s.heap) (ra:Rep G (Dom P σ) s.heap (.fset xs) x) (rb:Rep G (Dom P σ) s.heap (.fset ys) y)
  (k:ZlX G P σ s (xs.filter fun x=>!ys.contains x) Ψ):TT G A P F (binaryOp .Sub x y) Ψ σ s:=by
 refine ZlU (ZaU ra) fun a es ep t eQ0_4 ho hS=>?_; subst eQ0_4
 refine ZlU (ZaU rb) fun b es' ep' t' eQ0_4 ho' hS'=>?_; subst eQ0_4
 refine Znj ho hS ho' hS' fun r h1 zs hM hz=>?_
 have hk:=hM.1
 refine Za5 i hk ?_
 refine k _ h1 s.toks hk (ZfK i hM (List.Nodup.sublist List.filter_sublist hS.nodup) fun j=>?_)
 rw [hz,List.mem_filter]
 simp
theorem Zmq (R:Room A) {xs ys:List Int} {x y:Value} {Ψ:Value->St->Shared->Prop} (i:Inv G P σ s.heap) (ra:Rep G (Dom P σ) s.heap (.fset xs) x) (rb:Rep G (Dom P σ) s.heap (.fset ys) y) (ne:Bool)
  (k:∀ tk,Ψ (.bool (ne ^^ (open Classical in decide (∀ x,x ∈ xs ↔ x ∈ ys)))) σ { s with toks:=tk }):TT G A P F (compareOp (if ne then .NotEq else .Eq) x y) Ψ σ s:=by
 refine ZlU (ZaU ra) fun a es ep t eQ0_4 ho hS=>?_; subst eQ0_4
 refine ZlU (ZaU rb) fun b es' ep' t' eQ0_4 ho' hS'=>?_; subst eQ0_4
 have hu:=R.units
 exact Zmc (ZvF hu) ho hS ho' hS' ne (Zp i (by simpa using k s.toks))
theorem ZiE {x y:Value} {M:Model} {E:Value->Shared->Prop} {Q:Value->Shared->Prop} (h:wpAny M A (compareOp .In x y) (fun v s'=>∀ c,v=.bool c->Q (.bool (!c)) s') E s):wpAny M A (compareOp .NotIn x y) Q E s:=fun Γ p hΓ=>by
 have z:=h Γ p hΓ
 have e1:compareOp .In x y=(contains y x >>= fun b=>pure (.bool b)):=rfl
 have e2:compareOp .NotIn x y=(contains y x >>= fun b=>pure (.bool (!b))):=rfl
 rw [e1,Sem.wp_bind'] at z
 rw [e2,Sem.wp_bind']
 exact Sem.wp_mono M Γ _ (fun c p' s' q=>q c rfl) (fun _ _ _ q=>q) p s z
theorem Zor (R:Room A) {xs:List Int} {x y:Value} {n:Int} {Ψ:Value->St->Shared->Prop} (i:Inv G P σ s.heap) (ra:Rep G (Dom P σ) s.heap (.fset xs) y) (rb:Rep G (Dom P σ) s.heap (.int n) x) (ni:Bool)
  (k:∀ tk,Ψ (.bool (ni ^^ (open Classical in decide (n ∈ xs)))) σ { s with toks:=tk }):TT G A P F (compareOp (if ni then .NotIn else .In) x y) Ψ σ s:=by
 refine ZlU (ZaU ra) fun a es ep t eQ0_4 ho hS=>?_; subst eQ0_4
 refine rb.intE fun u=>?_
 cases ni with
 | false=>exact ZkM ho hS fun tk=>Zp i (by simpa using k tk)
 | true=>exact ZiE (ZkM ho hS fun tk c e=>by
   injection e with e
   subst e
   exact Zp i (by simpa using k tk))
theorem ZkD (R:Room A) {Ψ:Value->St->Shared->Prop} (i:Inv G P σ s.heap) (k:ZlX G P σ s [] Ψ):TT G A P F (call (.type "frozenset") []) Ψ σ s:=by
 refine Zkd fun r h1 hM=>?_
 have hk:=hM.1
 exact Za5 i hk (k _ h1 s.toks hk (ZfK i hM List.nodup_nil fun j=>Iff.rfl))
theorem ddm:∀ {xs:List Int} {x:Int},x ∈ Zed xs ↔ x ∈ xs
 | [],x=>Iff.rfl
 | y::ys,x=>by
  have ih:=ddm (xs:=ys) (x:=x)
  rw [ZhF]
  split
  ·rename_i h
   rw [ih,List.mem_cons]
   constructor
   ·exact .inr
   ·rintro (rfl | h')
    ·exact ddm.mp (by simpa using h)
    ·exact h'
  ·rw [List.mem_cons,List.mem_cons,ih]
theorem ddn:∀ (xs:List Int),(Zed xs).Nodup
 | []=>List.nodup_nil
 | y::ys=>by
  have ih:=ddn ys
  rw [ZhF]
  split
  ·exact ih
  ·rename_i h
   exact List.nodup_cons.mpr ⟨by simpa using h,ih⟩
theorem ZkS {D:Addr->Prop} {h:Heap}:∀ {vs:List LV} {is:List Int} {ws:List Value},ZbC vs=some is->Zz G D h vs ws->vs.length=is.length/\∀ (j:Nat) (v:Value),ws[j]?=some v->∃ t,v=Value.int (is.getD j 0) t
 | [],is,ws,hi,r=>by
  obtain rfl:=Option.some.inj hi
  rw [r.nil_eq]
  exact ⟨rfl,fun j v e=>by simp at e⟩
 | v::vs,is,ws,hi,r=>by
  refine r.unE fun x q r1 r2=>?_
  obtain ⟨n,hn,hi⟩:=bnd hi
  obtain rfl:=ZP hn
  obtain ⟨is',hi',rfl⟩:=Option.map_eq_some_iff.mp hi
  obtain ⟨hl,ha⟩:=ZkS hi' r2
  refine r1.intE fun u=>?_
  refine ⟨by rw [List.length_cons,List.length_cons,hl],fun j w e=>?_⟩
  cases j with
  | zero=>simp at e; exact ⟨u,e.symm⟩
  | succ j=>simpa using ha j w (by simpa using e)
theorem ZkE (R:Room A) {vs:List LV} {is:List Int} {x:Value} {Ψ:Value->St->Shared->Prop} (i:Inv G P σ s.heap) (ra:Rep G (Dom P σ) s.heap (.lst vs) x) (hi:ZbC vs=some is) (hl:is.length<=1000)
  (hb:(is.all fun i=>decide (0<=i)&&decide (i < 64))=true) (k:ZlX G P σ s (Zed is) Ψ):TT G A P F (call (.type "frozenset") [x]) Ψ σ s:=by
 refine ra.lstE fun a ws n d g q=>?_
 refine ZL (ZkS hi q) fun hvl hat=>?_
 have hws:=q.length
 rw [Array.length_toList] at hws
 have hsz:ws.size=is.length:=by rw [hws,hvl]
 have hbd:∀ x ∈ is,0<=x/\x < 64:=fun x hx=>by
  have:=List.all_eq_true.mp hb x hx
  simpa using this
 refine Zgo (l:=a) (items:=ws) (val:=fun j=>is.getD j 0) R.handled ⟨_,g,rfl,n,rfl⟩ (fun j v e=>hat j v (by rw [Array.getElem?_toList]; exact e)) (fun j hj=>?_) fun r h1 tk zs hM hz=>?_
 ·have hj':j < is.length:=by rw [<- hsz]; exact hj
  have:is.getD j 0=is[j]:=by simp [List.getD_eq_getElem?_getD,List.getElem?_eq_getElem hj']
  rw [this]
  exact hbd _ (List.getElem_mem hj')
 ·have hk:=hM.1
  refine Za5 i hk (k _ h1 tk hk (ZfK i hM (ddn is) fun j=>?_))
  rw [hz,ddm]
  constructor
  ·rintro ⟨m,hm,rfl⟩
   have hm':m < is.length:=by rw [<- hsz]; exact hm
   have:is.getD m 0=is[m]:=by simp [List.getD_eq_getElem?_getD,List.getElem?_eq_getElem hm']
   rw [this]
   exact List.getElem_mem hm'
  ·intro hj
   refine ZU (List.getElem_of_mem hj) fun m hR0=>?_; obtain ⟨hm,e⟩:=hR0
   refine ⟨m,by rw [hsz]; exact hm,?_⟩
   have:is.getD m 0=is[m]:=by simp [List.getD_eq_getElem?_getD,List.getElem?_eq_getElem hm]
   rw [this,e]
end
section
variable {G:Glo} {A:Around} {P F:Addr->Prop} {σ:St} {s:Shared}
open Classical in
theorem ZpW (R:Room A) {a b:LV} {x y:Value} {c:Bool} (ne:Bool) {Ψ:Value->St->Shared->Prop} (i:Inv G P σ s.heap) (hb:eqL σ a b=some c) (ra:Rep G (Dom P σ) s.heap a x) (rb:Rep G (Dom P σ) s.heap b y)
  (k:∀ tk,Ψ (.bool (ne ^^ c)) σ { s with toks:=tk }):TT G A P F (compareOp (if ne then .NotEq else .Eq) x y) Ψ σ s:=by
 have hu:=R.units
 have key:eqK σ a b=some c->TT G A P F (compareOp (if ne then .NotEq else .Eq) x y) Ψ σ s:=fun hb=>by
  refine ifs hb (fun hk hb=>?_) fun _ hb=>?_
  ·have ka:=Zac hk
   have kb:=ZeS hk
   obtain rfl:=Option.some.inj hb
   cases ne with
   | true=>exact Zgt (o2 hu) ka kb ra rb (Zp i (by simpa using k s.toks))
   | false=>exact Zgr (o2 hu) ka kb ra rb (Zp i (by simpa using k s.toks))
  ·refine Ze (bnd hb) fun xs hx hb=>Ze (bnd hb) fun ys hy hb=>ifs hb (fun hk hb=>?_) fun _ hb=>nos hb
   have ka:=Zac hk
   have kb:=ZeS hk
   obtain rfl:=Option.some.inj hb
   refine ZlT (Zbb i ra hx) fun p ws n e g q=>?_
   subst e
   refine ZlT (Zbb i rb hy) fun p' ws' n' e g' q'=>?_
   subst e
   cases ne with
   | true=>exact Zgs (o2 hu) ka kb g g' q q' (Zp i (by simpa using k s.toks))
   | false=>exact Zgq (o2 hu) ka kb g g' q q' (Zp i (by simpa using k s.toks))
 refine Zf3 hb (fun xs hx hb=>Zf3 hb (fun ys hy hb=>?_) fun _ hb=>key hb) fun _ hb=>key hb
 obtain rfl:=Zd7 hx
 obtain rfl:=Zd7 hy
 obtain rfl:=Option.some.inj hb
 exact Zmq R i ra rb ne k
open Classical in
theorem Zp6 (B:Base G) (R:Room A) {a b:LV} {x y:Value} {c:Bool} (ni:Bool) {Ψ:Value->St->Shared->Prop} (i:Inv G P σ s.heap) (hb:inL σ a b=some c) (ra:Rep G (Dom P σ) s.heap a x) (rb:Rep G (Dom P σ) s.heap b y)
  (k:∀ tk,Ψ (.bool (ni ^^ c)) σ { s with toks:=tk }):TT G A P F (compareOp (if ni then .NotIn else .In) x y) Ψ σ s:=by
 have hu:=R.units
 refine Or.elim (ZbA hb) (fun hb=>?_) fun hb=>Or.elim (ZbA hb) (fun hb=>?_) fun hb=>Or.elim (ZbA hb) (fun hb=>?_) fun hb=>?_
 ·refine Ze (bnd hb) fun vs hv hb=>?_
  refine ifs hb (fun hk hb=>?_) fun _ hb=>nos hb
  have ka:=Zac hk
  have kb:=ZeS hk
  obtain rfl:=Option.some.inj hb
  refine Or.elim (ZbA hv) (fun hv=>?_) fun hv=>?_
  ·obtain rfl:=Zb7 hv
   refine rb.tupE fun p ws n d g q=>?_
   cases ni with
   | true=>exact Zle (o2 hu) kb ka g q ra (Zp i (by simpa using k s.toks))
   | false=>exact Zp7 (o2 hu) kb ka g q ra (Zp i (by simpa using k s.toks))
  ·refine ZlT (Zbb i rb hv) fun p ws n e g q=>?_
   subst e
   cases ni with
   | true=>exact ZjD (o2 hu) kb ka g q ra (Zp i (by simpa using k s.toks))
   | false=>exact Zou (o2 hu) kb ka g q ra (Zp i (by simpa using k s.toks))
 ·refine Ze (bnd hb) fun xs hx hb=>?_
  refine Ze (bnd hb) fun n hn hb=>?_
  obtain rfl:=Zd7 hx
  obtain rfl:=ZP hn
  obtain rfl:=Option.some.inj hb
  exact Zor R i rb ra ni k
 ·refine Ze (bnd hb) fun es hd hb=>?_
  refine ifs hb (fun tk hb=>?_) fun _ hb=>nos hb
  obtain rfl:=Option.some.inj hb
  refine Ze (Ziw hd) fun r e hσ=>?_
  subst e
  have rb:y=.ref r:=rb
  subst rb
  obtain ⟨z,rfl⟩:=Zeg (ZK tk).1 ra
  obtain ⟨xs,dx,rx⟩:=(i.tr _ _ hσ).dictOf
  have l:=Zdm (k:=a) rx
  have e:(atKey xs a).isSome=decide (a ∈ es.map (·.1)):=by
   rw [<- ZdJ]
   split at l
   ·rename_i v hv; obtain ⟨p,hp,_⟩:=l; rw [hp,hv]; rfl
   ·rename_i hv; rw [l,hv]; rfl
  have hk:(kind G).is s.heap a z:=(⟨tk,ra.any⟩:ZaL a=true/\Rep G Zpz s.heap a (.ref z))
  cases ni with
  | true=>exact wpAny_notIn_heap (knd:=kind G) (by show A.units + 1 + 64 < cLine; exact o23 hu) hk (Zld B i (by rw [hσ]; simp)) dx (Zp i (by rw [e]; simpa using k _))
  | false=>exact wpAny_in_heap (knd:=kind G) (by show A.units + 1 + 64 < cLine; exact o23 hu) hk (Zld B i (by rw [hσ]; simp)) dx (Zp i (by rw [e]; simpa using k _))
 ·refine Ze (bnd hb) fun es hd hb=>?_
  refine Ze (bnd hb) fun n hn hb=>?_
  obtain rfl:=ZP hn
  obtain rfl:=Option.some.inj hb
  refine Ze (ZgP hd) fun r e hσ=>?_
  subst e
  have rb:y=.ref r:=rb
  subst rb
  refine ra.intE fun t=>?_
  obtain ⟨f,im,le,q⟩:=i.tr _ _ hσ
  have l:=q n
  have e:(f n).isSome=decide (n ∈ es.map (·.1)):=by
   rw [<- ZdK]
   split at l
   ·rename_i v hv; obtain ⟨p,hp,_⟩:=l; rw [hp,hv]; rfl
   ·rename_i hv; rw [l,hv]; rfl
  cases ni with
  | true=>exact ZiE (wpAny_in_intMap im (fun c hc=>by cases hc; exact Zp i (by rw [e]; simpa using k _)))
  | false=>exact wpAny_in_intMap im (Zp i (by rw [e]; simpa using k _))
theorem Zfc {D:Addr->Prop} {h:Heap} {v:LV} {x:Value} (r:Rep G D h v x):(x == .none)=isNone v:=by
 cases v with
 | none=>cases r.none_inv; rfl
 | bool b=>cases r.bool_inv; rfl
 | int n=>obtain ⟨t,rfl⟩:=r.int_inv; rfl
 | w k=>obtain ⟨t,rfl⟩:=r; rfl
 | tup vs=>obtain ⟨a,_,_,rfl,_⟩:=r.tup_inv; rfl
 | lst vs=>obtain ⟨a,_,_,rfl,_⟩:=r.lst_inv; rfl
 | fset xs=>obtain ⟨a,_,rfl,_⟩:=r; rfl
 | rng n=>obtain ⟨a,_,_,_,rfl,_⟩:=r; rfl
 | ref a=>subst r; rfl
 | rcd c vs=>obtain ⟨a,_,_,rfl,_⟩:=r; rfl
 | fn f=>subst r; rfl
 | cls c=>subst r; rfl
 | bm f u=>obtain ⟨a,_,rfl,_⟩:=r; rfl
theorem Ze2 (B:Base G) (R:Room A) {o:CmpOp} {a b:LV} {x y:Value} {c:Bool} {Ψ:Value->St->Shared->Prop} (i:Inv G P σ s.heap) (hb:ZbN o σ a b=some c) (ra:Rep G (Dom P σ) s.heap a x) (rb:Rep G (Dom P σ) s.heap b y)
  (k:∀ tk,Ψ (.bool c) σ { s with toks:=tk }):TT G A P F (compareOp o x y) Ψ σ s:=by
 cases o with
 | Eq=>exact ZpW R false i hb ra rb (by simpa using k)
 | NotEq =>
  refine Ze (Option.map_eq_some_iff.mp hb) fun d hd eQ0_2=>?_; subst eQ0_2
  exact ZpW R true i hd ra rb (by simpa using k)
 | In=>exact Zp6 B R false i hb ra rb (by simpa using k)
 | NotIn =>
  refine Ze (Option.map_eq_some_iff.mp hb) fun d hd eQ0_2=>?_; subst eQ0_2
  exact Zp6 B R true i hd ra rb (by simpa using k)
 | Is =>
  obtain ⟨rfl,hb⟩:=ZiX hb
  obtain rfl:=Option.some.inj hb; cases rb.none_inv; exact is_none_gen (Zp i (by rw [Zfc ra]; exact k s.toks))
 | IsNot =>
  obtain ⟨rfl,hb⟩:=ZiX hb
  obtain rfl:=Option.some.inj hb; cases rb.none_inv; exact isnot_none_gen (Zp i (by rw [Zfc ra]; exact k s.toks))
 | Lt =>
  refine ZaM (Za6 hb) fun m n h1 h2 hb=>?_
  obtain rfl:=ZP h1
  obtain rfl:=ZP h2
  obtain rfl:=Option.some.inj hb
  exact ra.intE fun t=>rb.intE fun u=>PyProof.Rows.lt_int (Zp i (k s.toks))
 | LtE =>
  refine ZaM (Za6 hb) fun m n h1 h2 hb=>?_
  obtain rfl:=ZP h1
  obtain rfl:=ZP h2
  obtain rfl:=Option.some.inj hb
  exact ra.intE fun t=>rb.intE fun u=>PyProof.Rows.le_int (Zp i (k s.toks))
 | Gt =>
  refine ZaM (Za6 hb) fun m n h1 h2 hb=>?_
  obtain rfl:=ZP h1
  obtain rfl:=ZP h2
  obtain rfl:=Option.some.inj hb
  exact ra.intE fun t=>rb.intE fun u=>PyProof.Rows.gt_int (Zp i (k s.toks))
 | GtE =>
  refine ZaM (Za6 hb) fun m n h1 h2 hb=>?_
  obtain rfl:=ZP h1
  obtain rfl:=ZP h2
  obtain rfl:=Option.some.inj hb
  exact ra.intE fun t=>rb.intE fun u=>PyProof.Rows.ge_int (Zp i (k s.toks))
end
noncomputable def biV:Bi->Value
 | .len_=>.builtin "len"
 | .range_=>.type "range"
 | .list_=>.type "list"
 | .tuple_=>.type "tuple"
 | .frozenset_=>.type "frozenset"
 | .max_=>.builtin "max"
 | .int_=>.type "int"
 | .sorted_=>.builtin "sorted"
theorem Zdd:∀ {xs ys:List Int},xs.Perm ys->xs.Pairwise (·<=·)->ys.Pairwise (·<=·)->xs=ys:=fun p a b=>List.Perm.eq_of_pairwise (fun _ _ _ _ h1 h2=>Int.le_antisymm h1 h2) a b p
theorem ZcS (i:Int):∀ xs:List Int,(ZdF i xs).Perm (i::xs)
 | []=>List.Perm.refl _
 | j::r=>by
  rw [ZfC]
  split
  ·exact List.Perm.refl _
  ·exact ((ZcS i r).cons j).trans (List.Perm.swap i j r)
theorem Zdg:∀ xs:List Int,(ZbX xs).Perm xs
 | []=>List.Perm.refl _
 | i::r=>(ZcS i _).trans ((Zdg r).cons i)
theorem Zc4 (i:Int):∀ {xs:List Int},xs.Pairwise (·<=·)->(ZdF i xs).Pairwise (·<=·)
 | [],_=>List.pairwise_singleton _ _
 | j::r,h=>by
  obtain ⟨h1,h2⟩:=List.pairwise_cons.mp h
  rw [ZfC]
  split
  ·rename_i hlt
   refine List.pairwise_cons.mpr ⟨fun a ha=>?_,h⟩
   rcases List.mem_cons.mp ha with rfl | ha
   ·exact Zve hlt
   ·have:=h1 a ha; exact Zvf hlt this
  ·rename_i hle
   refine List.pairwise_cons.mpr ⟨fun a ha=>?_,Zc4 i h2⟩
   rcases List.mem_cons.mp ((ZcS i r).mem_iff.mp ha) with rfl | ha
   ·exact Zvg hle
   ·exact h1 a ha
theorem Zcn:∀ xs:List Int,(ZbX xs).Pairwise (·<=·)
 | []=>List.Pairwise.nil
 | i::r=>Zc4 i (Zcn r)
section
variable {G:Glo} {A:Around} {P F:Addr->Prop} {σ:St} {s:Shared} {D:Addr->Prop} {h:Heap}
theorem ZkU:∀ {vs:List LV} {is:List Int} {ws:List Value},ZbC vs=some is->Zz G D h vs ws->IntsAre ws is
 | [],_,_,e,r=>by cases e; cases r.nil_eq; exact .nil
 | v::vs,_,_,e,r=>by
  refine r.unE fun x q r1 r2=>?_
  refine Ze (bnd e) fun n hn e=>?_
  obtain rfl:=ZP hn
  refine Ze (Option.map_eq_some_iff.mp e) fun js hj eQ0_2=>?_; subst eQ0_2
  refine r1.intE fun t=>?_
  exact .cons n t (ZkU hj r2)
theorem Zfb:∀ {vs:List LV} {is:List Int},ZbC vs=some is->is.length=vs.length
 | [],_,e=>by cases e; rfl
 | v::vs,_,e=>by
  refine Ze (bnd e) fun n hn e=>?_
  refine Ze (Option.map_eq_some_iff.mp e) fun js hj eQ0_2=>?_; subst eQ0_2
  rw [List.length_cons,List.length_cons,Zfb hj]
theorem Zhj:∀ {is:List Int} {ws:List Value},IntsAre ws is->Zz G D h (is.map .int) ws
 | _,_,.nil=>Zz.nil
 | _,_,.cons n t r=>Zz.cons .int (Zhj r)
noncomputable def BiK (G:Glo) (P:Addr->Prop) (σ:St) (s:Shared) (c:LV) (Ψ:Value->St->Shared->Prop):Prop:=∀ v h' tk,(∀ b o,s.heap.get? b=some o->h'.get? b=some o)->Rep G (Dom P σ) h' c v->Ψ v σ { s with heap:=h',toks:=tk }
theorem Zj3 (i:Inv G P σ s.heap) {xs:List LV} {T:String} {a:Addr} {ws:Array Value} {n:Nat} {Ψ:Value->St->Shared->Prop} (hT:T = "list"\/T = "tuple") (hl:xs.length<=1000000) (g:s.heap.get? a=some { cls:=.type T,dict:=none,data:=.seq ws n,slots:=#[] }) (r:Zz G (Dom P σ) s.heap xs ws.toList) (k:BiK G P σ s (.lst xs) Ψ) :
  TT G A P F (call (.type "list") [.ref a]) Ψ σ s:=by
 have:=r.length
 rw [Array.length_toList] at this
 refine call_list_seq a hT g rfl rfl (fun h' c' hk hn=>Za5 i hk (k _ _ _ hk ?_)) (by rw [sizeLine_eq]; exact o24 hl this)
 exact Rep.lst_mk i.size_dom hn (r.grow hk)
theorem Zrf (B:Base G) (R:Room A) {b:Bi} {vs:List LV} {xs:List Value} {c:LV} {Ψ:Value->St->Shared->Prop} (i:Inv G P σ s.heap) (hb:biL b σ vs=some c) (ra:Zz G (Dom P σ) s.heap vs xs)
  (k:∀ v h' tk,(∀ b o,s.heap.get? b=some o->h'.get? b=some o)->Rep G (Dom P σ) h' c v->Ψ v σ { s with heap:=h',toks:=tk }):TT G A P F (call (biV b) xs) Ψ σ s:=by
 have same:∀ b o,s.heap.get? b=some o->s.heap.get? b=some o:=fun _ _ e=>e
 cases b with
 | len_ =>
  refine Ze (bnd hb) fun v e hb=>?_
  obtain rfl:=Za4 e
  refine Ze (bnd hb) fun ys hy hb=>?_
  refine ifs hb (fun hl hb=>?_) fun _ hb=>nos hb
  obtain rfl:=Option.some.inj hb
  refine ra.oneE fun x r1=>?_
  refine Or.elim (ZbA hy) (fun hy=>?_) fun hy=>?_
  ·obtain rfl:=Zb7 hy
   refine r1.tupE fun a ws n d g r=>?_
   have:=r.length
   rw [Array.length_toList] at this
   refine PyProof.Rows.len_tuple ⟨_,g,rfl,n,rfl⟩ (by exact o82 hl this) (Zp i (k _ _ _ same ?_))
   rw [this]; exact .int
  ·refine ZlT (Zbb i r1 hy) fun a ws n e g r=>?_
   subst e
   have:=r.length
   rw [Array.length_toList] at this
   refine call_len_list ⟨_,g,rfl,n,rfl⟩ (by exact o82 hl this) (Zp i (k _ _ _ same ?_))
   rw [this]; exact .int
 | range_ =>
  refine Ze (bnd hb) fun v e hb=>?_
  obtain rfl:=Za4 e
  refine Ze (bnd hb) fun n hn hb=>?_
  obtain rfl:=ZP hn
  refine ifs hb (fun hn hb=>?_) fun _ hb=>nos hb
  obtain rfl:=Option.some.inj hb
  refine ra.oneE fun x r1=>?_
  refine r1.intE fun t=>?_
  refine call_range_1 (Za5 i (Zg _) (k _ _ _ (Zg _) ?_))
  refine ⟨_,s.toks,t,s.toks + 1,rfl,i.size_dom,?_,by exact Zvh hn⟩
  rw [show ((n.toNat:Nat):Int)=n by exact Zvi hn]
  exact IsRange.new _ _ _ _ _ _ _
 | list_ =>
  refine Ze (bnd hb) fun v e hb=>?_
  obtain rfl:=Za4 e
  refine Ze (bnd hb) fun ys hy hb=>?_
  refine ifs hb (fun hl hb=>?_) fun _ hb=>nos hb
  obtain rfl:=Option.some.inj hb
  refine ra.oneE fun x r1=>?_
  refine Or.elim (ZbA hy) (fun hy=>?_) fun hy=>?_
  ·obtain rfl:=Zb7 hy
   exact r1.tupE fun a ws n d g r=>Zj3 i (.inr rfl) hl g r k
  ·obtain rfl:=ZdB hy
   exact r1.lstE fun a ws n d g r=>Zj3 i (.inl rfl) hl g r k
 | tuple_ =>
  refine Ze (bnd hb) fun v e hb=>?_
  obtain rfl:=Za4 e
  refine Ze (bnd hb) fun ys hy hb=>?_
  obtain rfl:=Zb7 hy
  obtain rfl:=Option.some.inj hb
  refine ra.oneE fun x r1=>?_
  exact r1.tupE fun a ws n d g r=>call_tuple_same ⟨_,g,rfl,n,rfl⟩ (Zp i (k _ _ s.toks same (Rep.tup_mk d g r)))
 | frozenset_ =>
  cases vs with
  | nil =>
   obtain rfl:=Option.some.inj hb
   exact ra.nilE (ZkD R i k)
  | cons v r =>
   refine Ze (bnd hb) fun v' e hb=>?_
   refine Ze (bnd hb) fun ys hy hb=>?_
   refine Ze (bnd hb) fun is hi hb=>?_
   refine ifs hb (fun hl hb=>?_) fun _ hb=>nos hb
   obtain rfl:=Option.some.inj hb
   rw [Za4 e] at ra
   obtain rfl:=ZdB hy
   exact ra.oneE fun x r1=>ZkE R i r1 hi hl.1 hl.2 k
 | max_ =>
  refine Ze (bnd hb) fun p e hb=>?_
  obtain rfl:=Zqt e
  refine ZaM (Za6 hb) fun m n h1 h2 hb=>?_
  rw [ZP h1,ZP h2] at ra
  obtain rfl:=Option.some.inj hb
  refine ra.unE fun x q r1 rr=>?_
  refine rr.oneE fun y r2=>?_
  refine r1.intE fun t=>?_
  refine r2.intE fun u=>?_
  refine max_two_ints R.handled fun h' tk hk=>Za5 i hk (k _ _ _ hk ?_)
  split
  ·rename_i hgt
   rw [show max m n=n by exact Zvj hgt]; exact .int
  ·rename_i hgt
   rw [show max m n=m by exact Zvk hgt]; exact .int
 | int_ =>
  refine Ze (bnd hb) fun v e hb=>?_
  obtain rfl:=Za4 e
  refine Ze (bnd hb) fun b hy hb=>?_
  obtain rfl:=ZeZ hy
  obtain rfl:=Option.some.inj hb
  refine ra.oneE fun x r1=>?_
  cases r1.bool_inv
  exact call_int_bool (Zp i (k _ _ _ same .int))
 | sorted_ =>
  refine Ze (bnd hb) fun v e hb=>?_
  obtain rfl:=Za4 e
  refine Ze (bnd hb) fun ys hy hb=>?_
  refine Ze (bnd hb) fun is hi hb=>?_
  refine ifs hb (fun hl hb=>?_) fun _ hb=>nos hb
  obtain rfl:=Option.some.inj hb
  refine ra.oneE fun x r1=>?_
  refine ZlT (Zbb i r1 hy) fun a ws n e g r=>?_
  subst e
  have hI:=ZkU hi r
  have:=r.length
  have hil:=Zfb hi
  refine sorted_ints (vs:=ws.toList) (ns:=is) ⟨_,g,rfl,n,rfl⟩ hI (by exact Zvl hl this hil) fun out ns' ho hp hs=>?_
  obtain ⟨e,he⟩:=sortedAll_at s.heap ws.toList out
  refine Za5 (tk:=s.toks) i (fun _ _ q=>sortedAll_old q) (k _ _ _ (fun _ _ q=>sortedAll_old q) ?_)
  rw [<- Zdd (hp.trans (Zdg is).symm) hs (Zcn is)]
  exact Rep.lst_mk (i.free_dom (Zbz (by exact o39))) he (Zhj ho)
end
noncomputable def Res (G:Glo) (P:Addr->Prop) (Q:LV->St->Prop):Value->St->Shared->Prop:=fun v σ s=>∃ lv,Rep G (Dom P σ) s.heap lv v/\Q lv σ
noncomputable def Zk4:LM->Str
 | .append=>"append"
 | .extend=>"extend"
 | .pop=>"pop"
 | .index=>"index"
noncomputable def Zr7:LM->String
 | .append=>"list.append"
 | .extend=>"list.extend"
 | .pop=>"list.pop"
 | .index=>"list.index"
section
variable {G:Glo} {A:Around} {P F:Addr->Prop} {σ:St} {s:Shared}
theorem Zqf {M:Model} {E:Value->Shared->Prop} {m:LM} {a:Addr} {ws:Array Value} {n:Nat} {pl:Sem Bool} {Q:Value × List Value->Shared->Prop} (g:s.heap.get? a=some (Zdj ws n)) (h:Q (.builtin (Zr7 m),[.ref a]) s) :
  wpAny M A (getMethod (.ref a) (Zk4 m) pl) Q E s:=by
 cases m with
 | append=>exact getMethod_builtin ⟨_,g,rfl⟩ PySem.F.plainAttrs_list PySem.F.slot_list_append PySem.F.type_list_append (fun a e=>by cases e; exact ⟨_,g,rfl⟩) h
 | extend=>exact getMethod_builtin ⟨_,g,rfl⟩ PySem.F.plainAttrs_list PySem.F.slot_list_extend PySem.F.type_list_extend (fun a e=>by cases e; exact ⟨_,g,rfl⟩) h
 | pop=>exact getMethod_builtin ⟨_,g,rfl⟩ PySem.F.plainAttrs_list PySem.F.slot_list_pop PySem.F.type_list_pop (fun a e=>by cases e; exact ⟨_,g,rfl⟩) h
 | index=>exact getMethod_builtin ⟨_,g,rfl⟩ PySem.F.plainAttrs_list PySem.F.slot_list_index PySem.F.type_list_index (fun a e=>by cases e; exact ⟨_,g,rfl⟩) h
theorem ZeN {a:Addr} {lo lo':LO} {v:Value} {h':Heap} {tk:Nat} {Ψ:Value->St->Shared->Prop} (i:Inv G P σ s.heap) (ht:σ a=some lo) (hs:Heap.SameBut a s.heap h') (r:ZjS G (Dom P (upd σ a (some lo'))) h' a lo')
  (h:Ψ v (upd σ a (some lo')) { s with heap:=h',toks:=tk }) :
  ∃ σ',Inv G P σ' ({ s with heap:=h',toks:=tk }:Shared).heap/\Evo F σ s.heap σ' ({ s with heap:=h',toks:=tk }:Shared).heap/\ZaF s { s with heap:=h',toks:=tk }/\Ψ v σ' { s with heap:=h',toks:=tk } :=
 ⟨_,i.change ht hs r,Evo.change ht hs,⟨rfl,rfl⟩,h⟩
open Classical in
theorem ZgQ {v:LV}:∀ {xs:List LV} {i:Nat},Zmx v xs=some i->∃ hi:i < xs.length,xs[i]=v/\∀ m (hm:m < xs.length),m < i->xs[m] ≠ v
 | [],_,e=>nos e
 | x::r,i,e=>by
  rw [ZnC] at e
  by_cases q:x=v
  ·rw [if_pos q] at e; cases e
   exact ⟨by simp,q,fun m _ hm=>False.elim (Zvm ‹_› hm)⟩
  ·rw [if_neg q] at e
   refine Ze (Option.map_eq_some_iff.mp e) fun j hj eQ0_2=>?_; subst eQ0_2
   obtain ⟨h1,h2,h3⟩:=ZgQ hj
   refine ⟨by simpa using h1,by simpa using h2,fun m hm hlt=>?_⟩
   cases m with
   | zero=>simpa using q
   | succ m=>simpa using h3 m (by simpa using hm) (Zvn h1 hlt)
theorem Zeh {vs:List LV} (k:ZA vs=true) {v:LV} (h:v ∈ vs):Zak v=true:=by
 refine ZL (Z3 k) fun p d=>?_
 induction vs with
 | nil=>cases h
 | cons u us ih =>
  refine ZL (Bool.and_eq_true_iff.mp p) fun p1 p2=>?_
  have d1:depth u<=6:=Zvo d
  have d2:Z8 us<=6:=Zvp d
  have bl:∀ n m:Nat,n<=m->Nat.ble n m=true:=fun n m h=>Nat.ble_eq_true_of_le h
  rcases List.mem_cons.mp h with rfl | h
  ·unfold Zak; rw [p1,bl _ _ d1]; rfl
  ·exact ih (by unfold ZA; rw [p2,bl _ _ d2]; rfl) h p2 d2
open Classical in
theorem ZrA (B:Base G) (R:Room A) {m:LM} {ov:LV} {x:Value} {vs:List LV} {xs:List Value} {Q:LV->St->Prop} (i:Inv G P σ s.heap) (hb:lmL m ov vs Q σ)
  (ro:Rep G (Dom P σ) s.heap ov x) (ra:Zz G (Dom P σ) s.heap vs xs):TT G A P F (call (.builtin (Zr7 m)) (x::xs)) (Res G P Q) σ s:=by
 have hu:=R.units
 cases m with
 | append =>
  refine Ze (Zi.mp hb) fun v e hb=>?_
  obtain rfl:=Za4 e
  refine Zdk (Zi.mp hb) fun p hp hl hq=>?_
  obtain ⟨rfl,hσ⟩:=Zh9 hp
  have ro:x=.ref p.1:=ro
  subst ro
  refine ra.oneE fun y rv=>?_
  obtain ⟨ws,n,g,r⟩:=i.tr _ _ hσ
  have:=r.length
  rw [Array.length_toList] at this
  refine append_at g (fun h' hs ho=>?_) (by rw [sizeLine_eq]; exact o24 hl this)
  refine ZeN (tk:=s.toks) i hσ hs ?_ ⟨.none,.none,hq⟩
  refine ⟨_,_,ho,?_⟩
  rw [Array.toList_push]
  exact (r.mono (Dom.change hσ hs)).append (Zz.one (rv.mono (Dom.change hσ hs)))
 | extend =>
  refine Ze (Zi.mp hb) fun v e hb=>?_
  obtain rfl:=Za4 e
  refine Ze (Zi.mp hb) fun p hp hb=>?_
  refine Zgf (Zi.mp hb) fun ys hy hl hne hq=>?_
  obtain ⟨rfl,hσ⟩:=Zh9 hp
  have ro:x=.ref p.1:=ro
  subst ro
  refine ra.oneE fun y rv=>?_
  obtain ⟨ws,n,g,r⟩:=i.tr _ _ hσ
  refine ZlT (Zbb i rv hy) fun b zs k e g' r'=>?_
  subst e
  have l1:=r.length
  have l2:=r'.length
  rw [Array.length_toList] at l1 l2
  have g2:s.heap.get? p.1=some { cls:=.type "list",dict:=none,data:=.seq ws n,slots:=#[] }:=g
  have g3:s.heap.get? b=some { cls:=.type "list",dict:=none,data:=.seq zs k,slots:=#[] }:=g'
  refine call_meets PySem.F.slot_list_extend (ZbD g) PySem.F.entry_list_extend (PySem.F.args_list_extend_2 _ _)
   (AutoSeq1.list_extend_list_list_0 p.1 ws n b zs k ?_ (by rw [sizeLine_eq]; exact Zvq hl l1) (by rw [sizeLine_eq]; exact Zvr hl l1 l2)) ⟨g2,g3,?_⟩
  ·simp only [Builtin.List.listTooLong,Bool.and_eq_true,Bool.not_eq_true',decide_eq_true_eq,not_and]
   intro _
   rw [sizeLine_eq]; exact Zvs hl l1 l2
  ·have hs:Heap.SameBut p.1 s.heap (s.heap.update p.1 (Obj.mapSeq fun x=>x++zs)):=Heap.SameBut.update ..
   refine ZeN (tk:=s.toks) i hσ hs ?_ ⟨.none,.none,hq⟩
   refine ⟨ws++zs,if (ws++zs).size == ws.size then n else n + 1,?_,?_⟩
   ·rw [Heap.get?_update_self _ g rfl]; rfl
   ·rw [Array.toList_append]
    exact (r.mono (Dom.change hσ hs)).append (r'.mono (Dom.change hσ hs))
 | pop =>
  obtain ⟨rfl,hb⟩:=hb
  obtain ⟨⟨a,us0⟩,hp,hl,ys,y,e,hq⟩:=Zi.mp hb
  obtain ⟨rfl,hσ⟩:=Zh9 hp
  obtain rfl:us0=_:=e
  have ro:x=.ref a:=ro
  subst ro
  refine ra.nilE ?_
  obtain ⟨ws,n,g,r⟩:=i.tr _ _ hσ
  have l1:=r.length
  rw [Array.length_toList] at l1
  obtain ⟨us,zs,e,r1,r2⟩:=r.unappend
  obtain ⟨z,q,rfl,rz,rr⟩:=r2.uncons
  cases rr.nil_eq
  have ee:ws=(us++[z]).toArray:=by rw [<- e]
  subst ee
  refine Copied.pop_at g (y:=z) (by simp) (fun h' hs ho=>?_) (by rw [sizeLine_eq]; exact o24 hl l1)
  refine ZeN (tk:=s.toks) i hσ hs ?_ ⟨y,rz.mono (Dom.change hσ hs),hq⟩
  refine ⟨_,_,ho,?_⟩
  simp only [List.pop_toArray,List.dropLast_concat]
  exact r1.mono (Dom.change hσ hs)
 | index =>
  refine Ze (Zi.mp hb) fun v e hb=>?_
  obtain rfl:=Za4 e
  refine ra.oneE fun y rv=>?_
  obtain ⟨us,hus,kv,ku,hl,hb⟩:=Zi.mp hb
  obtain ⟨j,hj,hq⟩:=Zi.mp hb
  obtain ⟨a,ws,n,rfl,g,r⟩:=Zbb i ro hus
  obtain ⟨h1,h2,h3⟩:=ZgQ hj
  have l1:=r.length
  rw [Array.length_toList] at l1
  have at':∀ m (hm:m < us.length),∃ hw:m < ws.size,Rep G (Dom P σ) s.heap us[m] ws[m]:=fun m hm=>by
   obtain ⟨z,hz,rz⟩:=r.at (List.getElem?_eq_getElem hm)
   obtain ⟨hlt,e⟩:=List.getElem?_eq_some_iff.mp hz
   refine ⟨by simpa using hlt,?_⟩
   simp only [Array.getElem_toList] at e
   rw [e]; exact rz
  let e:Value->Bool:=fun z=>decide (∃ u,u ∈ us/\Rep G (Dom P σ) s.heap u z/\u=v)
  have he:∀ m (hm:m < us.length) (hw:m < ws.size),e ws[m]=decide (us[m]=v):=fun m hm hw=>by
   obtain ⟨hw',rm⟩:=at' m hm
   by_cases q:us[m]=v
   ·rw [decide_eq_true q]
    exact decide_eq_true ⟨us[m],List.getElem_mem hm,rm,q⟩
   ·rw [decide_eq_false q]
    refine decide_eq_false fun hQ0=>Zdk hQ0 fun u hu ru e=>q ?_
    rw [<- e]
    exact Zfm (Zx (Zeh ku (List.getElem_mem hm))).1 (Zx (Zeh ku hu)).1 rm ru
  have g2:s.heap.get? a=some { cls:=.type "list",dict:=none,data:=.seq ws n,slots:=#[] }:=g
  refine call_meets PySem.F.slot_list_index (ZbD g) PySem.F.entry_list_index (PySem.F.args_list_index_2 _ _)
   (list_indexAt a ws n none #[] y e j (o83 h1 l1) (Zvt hl h1) (by rw [he j h1 (o83 h1 l1)]; exact decide_eq_true h2)
    (fun m hm hlt=>by rw [he m (o40 h1 l1 hm) hm]; exact decide_eq_false (h3 m (o40 h1 l1 hm) hlt))) ⟨g2,fun z hz=>?_,Zp i ⟨.int j,.int,hq⟩⟩
  obtain ⟨m,hm,rfl⟩:=Array.mem_iff_getElem.mp hz
  obtain ⟨hw',rm⟩:=at' m (o40 h1 l1 hm)
  rw [he m (o84 h1 l1 hm hw') hm]
  exact Zku (by show A.units + 1 + 64 < cLine; exact Zvu hu h1 l1 hm hw') (Zeh ku (List.getElem_mem (o84 h1 l1 hm hw'))) kv rm rv
end
theorem Inv.conv {G:Glo} {P P' N:Addr->Prop} {σ:St} {h h':Heap} (i:Inv G P σ h) (hN:∀ a,N a->P a) (k:∀ b o,h.get? b=some o->¬ N b->h'.get? b=some o)
  (hp:∀ a,P' a->σ a=none/\G.h₁.get? a=none/\∃ o,h'.get? a=some o) (hd:∀ a o,h.get? a=some o->¬ P a->¬ P' a):Inv G P' σ h' where
 base:=fun b x e=>k _ _ (i.base b x e) fun n=>by have:=(i.dis b (hN b n)).2.1; rw [e] at this; exact ns2 this
 new:=i.new
 dis:=hp
 tr:=fun a x e=>(i.tr a x e).mono (fun y g=>k _ _ g fun n=>by rw [(i.dis a (hN a n)).1] at e; exact nos e)
  fun b y g d=>⟨⟨d.1,hd b y g d.2⟩,k _ _ g fun n=>d.2 (hN b n)⟩
theorem Zz.conv {G:Glo} {P P' N:Addr->Prop} {σ:St} {h h':Heap} {v:List LV} {x:List Value} (r:Zz G (Dom P σ) h v x) (hN:∀ a,N a->P a) (k:∀ b o,h.get? b=some o->¬ N b->h'.get? b=some o)
  (hd:∀ a o,h.get? a=some o->¬ P a->¬ P' a):Zz G (Dom P' σ) h' v x:=r.mono fun b y g d=>⟨⟨d.1,hd b y g d.2⟩,k _ _ g fun n=>d.2 (hN b n)⟩
structure EnvRel (G:Glo) (P:Addr->Prop) (σ:St) (h:Heap) (env:PySem.Env) (ρ:Env):Prop where
 kind:env.scope.kind=.function
 glob:env.globals=mainGlobals
 bns:env.builtins=builtinsNs
 pL:P env.locals
 pC:∀ n c,env.cells.lookup n=some c->P c/\c ≠ env.locals
 apart:∀ n n' c,env.cells.lookup n=some c->env.cells.lookup n'=some c->n=n'
 ns:∃ m,h.Ns env.locals m/\∀ x v,Zo ρ x=some v->env.kindOf (G.nm x)=some .local->∃ u,m (G.nm x)=some u/\Rep G (Dom P σ) h v u
 cell:∀ x,env.kindOf (G.nm x)=some .cell\/env.kindOf (G.nm x)=some .free->∃ c o,env.cells.lookup (G.nm x)=some c/\h.IsCell c o/\∀ v,Zo ρ x=some v->∃ u,o=some u/\Rep G (Dom P σ) h v u
theorem IsCell.moves {h h':Heap} {c:Addr} {o:Option Value} (x:h.IsCell c o) (k:∀ o,h.get? c=some o->h'.get? c=some o):h'.IsCell c o:=by
 refine Ze x fun ob ho r=>?_
 exact ⟨ob,k _ ho,r⟩
theorem EnvRel.conv {G:Glo} {P P' N:Addr->Prop} {σ σ':St} {h h':Heap} {env:PySem.Env} {ρ:Env} (x:EnvRel G P σ h env ρ) (pL:P' env.locals) (pC:∀ n c,env.cells.lookup n=some c->P' c)
  (kp:∀ a o,h.get? a=some o->(a=env.locals\/∃ n,env.cells.lookup n=some a)->h'.get? a=some o)
  (kd:∀ a o,h.get? a=some o->Dom P σ a->Dom P' σ' a/\h'.get? a=some o):EnvRel G P' σ' h' env ρ where
 kind:=x.kind
 glob:=x.glob
 bns:=x.bns
 pL:=pL
 pC:=fun n c e=>⟨pC n c e,(x.pC n c e).2⟩
 apart:=x.apart
 ns:=by
  refine Ze x.ns fun m hm q=>?_
  exact ⟨m,Ns.moves hm fun o ho=>kp _ o ho (.inl rfl),fun y v e k=>by obtain ⟨u,hu,ru⟩:=q y v e k; exact ⟨u,hu,ru.mono kd⟩⟩
 cell:=fun y k=>by
  refine ZaM (x.cell y k) fun c o hc hi q=>?_
  exact ⟨c,o,hc,IsCell.moves hi fun o ho=>kp _ o ho (.inr ⟨_,hc⟩),fun v e=>by obtain ⟨u,hu,ru⟩:=q v e; exact ⟨u,hu,ru.mono kd⟩⟩
theorem EnvRel.evo {G:Glo} {P:Addr->Prop} {σ σ':St} {h h':Heap} {env:PySem.Env} {ρ:Env} (x:EnvRel G P σ h env ρ) (i:Inv G P σ h) (e:Evo noF σ h σ' h'):EnvRel G P σ' h' env ρ :=
 x.conv (N:=noF) x.pL (fun n c q=>(x.pC n c q).1) (fun a o g q=>(e a o g (by
  rcases q with rfl | ⟨n,q⟩
  ·exact (i.dis _ x.pL).1
  ·exact (i.dis _ (x.pC n a q).1).1) fun z=>z).1) fun a o g d=>⟨⟨(e a o g d.1 fun z=>z).2,d.2⟩,(e a o g d.1 fun z=>z).1⟩
theorem EnvRel.keeps {G:Glo} {P:Addr->Prop} {σ:St} {h h':Heap} {env:PySem.Env} {ρ:Env} (x:EnvRel G P σ h env ρ) (k:∀ b o,h.get? b=some o->h'.get? b=some o):EnvRel G P σ h' env ρ :=
 x.conv (N:=noF) x.pL (fun n c q=>(x.pC n c q).1) (fun a o g _=>k _ _ g) fun a o g d=>⟨d,k _ _ g⟩
noncomputable def Z6 (env:PySem.Env):Addr->Prop:=fun a=>a=env.locals\/∃ n,env.kindOf n=some .cell/\env.cells.lookup n=some a
section
variable {G:Glo} {A:Around} {P F:Addr->Prop} {σ:St} {s:Shared} {env:PySem.Env} {ρ:Env}
noncomputable def ZfI (k:Option NameKind):Bool:=k == some .local || k == some .cell || k == some .free
theorem Zk5 {x:Nat} {v:LV} {Q:LV->St->Prop} (i:Inv G P σ s.heap) (E:EnvRel G P σ s.heap env ρ) (hv:Zo ρ x=some v) (hl:ZfI (env.kindOf (G.nm x))=true) (hcd:(G.nm x == ("__classdict__" : Str))=false)
  (q:Q v σ):TT G A P F (loadName env (G.nm x)) (Res G P Q) σ s:=by
 cases hk:env.kindOf (G.nm x) with
 | none=>rw [hk] at hl; exact nob hl
 | some k =>
  cases k with
  | «local» =>
   refine Ze E.ns fun m hm r=>?_
   refine Ze (r x v hv hk) fun u hu ru=>?_
   exact wpAny_loadName_local E.kind hk hm hu (Zan i ⟨v,ru,q⟩)
  | cell =>
   refine ZaM (E.cell x (.inl hk)) fun c o hc hi r=>?_
   refine Ze (r v hv) fun u eQ0_1 ru=>?_; subst eQ0_1
   exact wpAny_loadName_cell E.kind hk hc hi (Zan i ⟨v,ru,q⟩)
  | free =>
   refine ZaM (E.cell x (.inr hk)) fun c o hc hi r=>?_
   refine Ze (r v hv) fun u eQ0_1 ru=>?_; subst eQ0_1
   exact wpAny_loadName_free E.kind hk hc hi (Zan i ⟨v,ru,q⟩) hcd
  | _=>rw [hk] at hl; exact nob hl
theorem Inv.priv {h h':Heap} {a:Addr} (i:Inv G P σ h) (p:P a) (hs:Heap.SameBut a h h') (t:∃ o,h'.get? a=some o):Inv G P σ h' :=
 i.conv (N:=fun b=>b=a) (fun b e=>e ▸ p) (fun b o g n=>(hs.2 b n).trans g) (fun b q=>⟨(i.dis b q).1,(i.dis b q).2.1,by
  by_cases e:b=a
  ·subst e; exact t
  ·obtain ⟨o,ho⟩:=(i.dis b q).2.2; exact ⟨o,(hs.2 b e).trans ho⟩⟩) fun _ _ _ z=>z
theorem Evo.priv {h h':Heap} {a:Addr} (hs:Heap.SameBut a h h') (f:F a):Evo F σ h σ h':=fun b o g n nf=>⟨(hs.2 b fun e=>nf (e ▸ f)).trans g,n⟩
theorem Dom.priv {h h':Heap} {a:Addr} (p:P a) (hs:Heap.SameBut a h h'):∀ b o,h.get? b=some o->Dom P σ b->Dom P σ b/\h'.get? b=some o:=fun b o g d=>⟨d,(hs.2 b fun e=>d.2 (e ▸ p)).trans g⟩
theorem ZdZ {x:Nat} {v:LV} {u:Value} {Ψ:Unit->St->Shared->Prop} (i:Inv G P σ s.heap) (E:EnvRel G P σ s.heap env ρ) (hl:env.kindOf (G.nm x)=some .local\/(env.kindOf (G.nm x)=some .cell/\∀ a,Z6 env a->F a))
  (hF:F env.locals) (r:Rep G (Dom P σ) s.heap v u) (q:∀ h' tk,EnvRel G P σ h' env (Zm ρ x v)->Inv G P σ h'->(∀ b o,s.heap.get? b=some o->Dom P σ b->h'.get? b=some o)->Ψ () σ { s with heap:=h',toks:=tk }):TT G A P F (storeName env (G.nm x) u) Ψ σ s:=by
 rcases hl with hk | ⟨hk,hf⟩
 ·refine Ze E.ns fun m hm rm=>?_
  refine wpAny_storeName_local hk hm (fun h' hn hs=>?_) (by rw [E.kind]; rfl)
  have t:∃ o,h'.get? env.locals=some o:=by obtain ⟨o,_,_,ho,_⟩:=hn; exact ⟨o,ho⟩
  refine ⟨σ,i.priv E.pL hs t,Evo.priv hs hF,⟨rfl,rfl⟩,q _ _ ?_ (i.priv E.pL hs t) fun b o g d=>(Dom.priv E.pL hs b o g d).2⟩
  refine ⟨E.kind,E.glob,E.bns,E.pL,E.pC,E.apart,⟨_,hn,fun y w e k=>?_⟩,fun y k=>?_⟩
  ·rw [ZM] at e
   by_cases z:y=x
   ·subst z
    rw [if_pos rfl] at e; cases e
    exact ⟨u,by simp,r.mono (Dom.priv E.pL hs)⟩
   ·rw [if_neg z] at e
    refine Ze (rm y w e k) fun w' hw rw'=>?_
    exact ⟨w',by rw [if_neg fun z'=>z (G.nmInj _ _ z')]; exact hw,rw'.mono (Dom.priv E.pL hs)⟩
  ·refine ZaM (E.cell y k) fun c o hc hi rc=>?_
   refine ⟨c,o,hc,IsCell.moves hi fun o ho=>(hs.2 c (E.pC _ c hc).2).trans ho,fun w e=>?_⟩
   rw [ZM] at e
   by_cases z:y=x
   ·subst z
    rw [hk] at k
    rcases k with k | k <;> cases k
   ·rw [if_neg z] at e
    refine Ze (rc w e) fun w' hw rw'=>?_
    exact ⟨w',hw,rw'.mono (Dom.priv E.pL hs)⟩
 ·refine ZaM (E.cell x (.inl hk)) fun c o hc hi rc=>?_
  have hFc:F c:=hf c (.inr ⟨_,hk,hc⟩)
  have hpc:=E.pC _ c hc
  refine wpAny_storeName_cell E.kind hk hc hi fun h' hn hs=>?_
  have t:∃ o,h'.get? c=some o:=by obtain ⟨o,ho,_⟩:=hn; exact ⟨o,ho⟩
  refine ⟨σ,i.priv hpc.1 hs t,Evo.priv hs hFc,⟨rfl,rfl⟩,q _ s.toks ?_ (i.priv hpc.1 hs t) fun b o g d=>(Dom.priv hpc.1 hs b o g d).2⟩
  refine Ze E.ns fun m hm rm=>?_
  refine ⟨E.kind,E.glob,E.bns,E.pL,E.pC,E.apart,⟨m,Ns.moves hm fun o ho=>(hs.2 _ hpc.2.symm).trans ho,fun y w e k=>?_⟩,fun y k=>?_⟩
  ·rw [ZM] at e
   by_cases z:y=x
   ·subst z; rw [hk] at k; cases k
   ·rw [if_neg z] at e
    refine Ze (rm y w e k) fun w' hw rw'=>?_
    exact ⟨w',hw,rw'.mono (Dom.priv hpc.1 hs)⟩
  ·refine ZaM (E.cell y k) fun c' o' hc' hi' rc'=>?_
   by_cases z:y=x
   ·subst z
    rw [hc] at hc'; cases hc'
    exact ⟨c,some u,hc,hn,fun w e=>by rw [ZM,if_pos rfl] at e; cases e; exact ⟨u,rfl,r.mono (Dom.priv hpc.1 hs)⟩⟩
   ·have ne:c' ≠ c:=fun e=>z (G.nmInj _ _ (E.apart _ _ c (e ▸ hc') hc))
    refine ⟨c',o',hc',IsCell.moves hi' fun o ho=>(hs.2 c' ne).trans ho,fun w e=>?_⟩
    rw [ZM,if_neg z] at e
    refine Ze (rc' w e) fun w' hw rw'=>?_
    exact ⟨w',hw,rw'.mono (Dom.priv hpc.1 hs)⟩
end
noncomputable def ZeQ (G:Glo):List Nat->List Expr->Prop
 | [],es=>es=[]
 | x::xs,es=>∃ p r,es=.Name (G.nm x) p::r/\ZeQ G xs r
noncomputable def Zhs (G:Glo):Tg->Expr->Prop
 | .nm x,e=>∃ p,e=.Name (G.nm x) p
 | .tp xs,e=>∃ es c p,e=.Tuple es c p/\ZeQ G xs es
noncomputable def ZW:Tg->List Nat
 | .nm x=>[x]
 | .tp xs=>xs
section
variable {G:Glo} {A:Around} {P F:Addr->Prop} {σ:St} {s:Shared} {env:PySem.Env} {ρ:Env}
noncomputable def Zgg (G:Glo) (F:Addr->Prop) (env:PySem.Env) (x:Nat):Prop:=env.kindOf (G.nm x)=some .local\/(env.kindOf (G.nm x)=some .cell/\∀ a,Z6 env a->F a)
theorem ZeQ.len:∀ {xs:List Nat} {es:List Expr},ZeQ G xs es->(assignEach es env).length=xs.length/\(assignEach es env).findIdx? (·.1)=none
 | [],_,r=>by cases r; exact ⟨rfl,rfl⟩
 | x::xs,_,r=>by
  refine Zik r fun p q eQ0_2 r2=>?_; subst eQ0_2
  refine ZL (ZeQ.len r2) fun h1 h2=>?_
  rw [show assignEach (.Name (G.nm x) p::q) env=(false,assign (.Name (G.nm x) p) env)::assignEach q env by rfl]
  refine ⟨by rw [List.length_cons,List.length_cons,h1],?_⟩
  rw [List.findIdx?_cons,h2]; rfl
theorem Zlv (hP:P env.locals) (hF:F env.locals) (k:∀ a,Z6 env a->P a):∀ {xs:List Nat} {es:List Expr} {vs:List LV} {us:List Value} {ρ ρ₁:Env} {s:Shared} {Ψ:Unit->St->Shared->Prop},ZeQ G xs es->(∀ x ∈ xs,Zgg G F env x)->
  Zay xs vs ρ=some ρ₁->Zz G (Dom P σ) s.heap vs us->Inv G P σ s.heap->EnvRel G P σ s.heap env ρ->
  (∀ h' tk,EnvRel G P σ h' env ρ₁->Inv G P σ h'->(∀ b o,s.heap.get? b=some o->Dom P σ b->h'.get? b=some o)->Ψ () σ { s with heap:=h',toks:=tk })->
  TT G A P F (assignInOrder ((assignEach es env).map (·.2)) us) Ψ σ s
 | [],_,vs,us,ρ,ρ₁,s,Ψ,r,_,hb,ru,i,E,q=>by
  cases r
  cases vs with
  | nil=>cases hb; cases ru.nil_eq; exact wpAny_pure (Zan i (q s.heap s.toks E i fun _ _ e _=>e))
  | cons v vs=>cases hb
 | x::xs,_,vs,us,ρ,ρ₁,s,Ψ,r,hc,hb,ru,i,E,q=>by
  obtain ⟨p,es,rfl,r2⟩:=r
  cases vs with
  | nil=>cases hb
  | cons v vs =>
   refine ru.unE fun u us rv rvs=>?_
   show TT G A P F (holding us (assign (.Name (G.nm x) p) env u) >>= fun _=>assignInOrder ((assignEach es env).map (·.2)) us) Ψ σ s
   refine TT.bind (TT.holding ?_)
   rw [PySem.assign_Name]
   refine TT.at (wpAny_bindName (ZdZ i E (hc x List.mem_cons_self) hF rv fun h' tk E' i' kd=>?_))
   refine Zlv hP hF k r2 (fun y hy=>hc y (List.mem_cons_of_mem _ hy)) hb (rvs.mono fun b o g d=>⟨d,kd b o g d⟩) i' E' fun h'' tk' E'' i'' kd'=>?_
   exact q h'' tk' E'' i'' fun b o g d=>kd' b o (kd b o g d) d
theorem IsTup.ofO {h:Heap} {a:Addr} {ws:Array Value} {n:Nat} (g:h.get? a=some (Zhq ws n)):IsTup h a ws:=⟨_,g,rfl,n,rfl⟩
theorem IsList.ofO {h:Heap} {a:Addr} {ws:Array Value} {n:Nat} (g:h.get? a=some (Zdj ws n)):h.IsList a ws:=⟨_,g,rfl,n,rfl⟩
theorem ZbJ:∀ {xs:List Nat} {vs:List LV} {ρ ρ₁:Env},Zay xs vs ρ=some ρ₁->xs.length=vs.length
 | [],[],_,_,_=>rfl
 | [],_::_,_,_,h=>nos h
 | _::_,[],_,_,h=>nos h
 | x::xs,v::vs,ρ,ρ₁,h=>by rw [List.length_cons,List.length_cons,ZbJ (xs:=xs) (vs:=vs) h]
theorem grown (i:Inv G P σ s.heap) {h':Heap} (he:Heap.ExtBut s.heap.objs.size s.heap h'):∀ b o,s.heap.get? b=some o->h'.get? b=some o:=fun b o e=>he b o (fun z=>by subst z; exact absurd (Heap.lt_size e) (Nat.lt_irrefl _)) e
theorem ZcH (R:Room A) {v:LV} {vs:List LV} {u:Value} {Ψ:List Value->St->Shared->Prop} (i:Inv G P σ s.heap) (r:Rep G (Dom P σ) s.heap v u) (hv:v=.tup vs\/v=.lst vs)
  (q:∀ us h',(∀ b o,s.heap.get? b=some o->h'.get? b=some o)->Zz G (Dom P σ) h' vs us->Ψ us σ { s with heap:=h' }):TT G A P F (unpackItems u vs.length none) Ψ σ s:=by
 rcases hv with rfl | rfl
 ·refine r.tupE fun a ws n d g q'=>?_
  have l:=q'.length
  rw [Array.length_toList] at l
  rw [<- l]
  exact PyProof.Rows.unpackItems_tuple R.handled (IsTup.ofO g) fun h' he=>Za5 (tk:=s.toks) i (grown i he) (q _ _ (grown i he) (q'.grow (grown i he)))
 ·refine r.lstE fun a ws n d g q'=>?_
  have l:=q'.length
  rw [Array.length_toList] at l
  rw [<- l]
  exact kun_itemsOf R.handled (IsList.ofO g) fun h' he=>Za5 (tk:=s.toks) i (grown i he) (q _ _ (grown i he) (q'.grow (grown i he)))
theorem Zfs {xs:List Nat} {v:LV} {ρ₁:Env} (h:Z0 (.tp xs) v ρ=some ρ₁):∃ vs,(v=.tup vs\/v=.lst vs)/\Zay xs vs ρ=some ρ₁:=by
 cases v with
 | tup vs=>exact ⟨vs,.inl rfl,h⟩
 | lst vs=>exact ⟨vs,.inr rfl,h⟩
 | _=>exact nos h
theorem ZcZ (R:Room A) {t:Tg} {te:Expr} {v:LV} {u:Value} {ρ₁:Env} {Ψ:Unit->St->Shared->Prop} (ht:Zhs G t te) (hc:∀ x ∈ ZW t,Zgg G F env x) (hb:Z0 t v ρ=some ρ₁)
  (i:Inv G P σ s.heap) (E:EnvRel G P σ s.heap env ρ) (hF:F env.locals) (r:Rep G (Dom P σ) s.heap v u)
  (q:∀ h' tk,EnvRel G P σ h' env ρ₁->Inv G P σ h'->(∀ b o,s.heap.get? b=some o->Dom P σ b->h'.get? b=some o)->Ψ () σ { s with heap:=h',toks:=tk }):TT G A P F (assign te env u) Ψ σ s:=by
 have hfr:∀ a,Z6 env a->P a:=fun a f=>by
  rcases f with rfl | ⟨n,_,f⟩
  ·exact E.pL
  ·exact (E.pC n a f).1
 cases t with
 | nm x =>
  refine ZU ht fun p eQ0_1=>?_; subst eQ0_1
  obtain rfl:=Option.some.inj hb
  rw [PySem.assign_Name]
  exact TT.at (wpAny_bindName (ZdZ i E (hc x List.mem_cons_self) hF r q))
 | tp xs =>
  refine ZjU ht fun es c p eQ0_3 hn=>?_; subst eQ0_3
  refine Ze (Zfs hb) fun vs hv hb=>?_
  refine ZL (hn.len (env:=env)) fun l hs=>?_
  rw [PyProof.Rows.assign_Tuple]
  refine TT.at ?_
  unfold unpack
  rw [l,hs,ZbJ hb]
  refine TT.bind (TT.holding (ZcH R i r hv fun us h' k ru=>?_))
  exact Zlv E.pL hF hfr hn hc hb ru (i.keeps k) (E.keeps k) fun h'' tk E' i' kd=>q h'' tk E' i' fun b o g d=>kd b o (k _ _ g) d
end
noncomputable def ZaQ (G:Glo) (D:Addr->Prop) (h:Heap) (I:Addr) (rest:List LV):Prop :=
 (∃ l j ws n,h.IsListIter I l j/\D l/\h.get? l=some (Zdj ws n)/\Zz G D h rest (ws.toList.drop j))\/
 (∃ l j ws n,h.IsTupleIter I l j/\D l/\h.get? l=some (Zhq ws n)/\Zz G D h rest (ws.toList.drop j))\/
 (∃ x left:Nat,IsRangeIter h I (x:Int) (left:Int) 1/\rest=(List.range left).map fun j=>LV.int ((x + j:Nat):Int))
theorem ZaQ.mono {G:Glo} {D D':Addr->Prop} {h h':Heap} {I:Addr} {rest:List LV} (x:ZaQ G D h I rest) (ki:∀ o,h.get? I=some o->h'.get? I=some o) (hk:∀ a o,h.get? a=some o->D a->D' a/\h'.get? a=some o):ZaQ G D' h' I rest:=by
 rcases x with ⟨l,j,ws,n,⟨o,ho,hr⟩,d,g,r⟩ | ⟨l,j,ws,n,⟨o,ho,hr⟩,d,g,r⟩ | ⟨x,left,hi,e⟩
 ·exact .inl ⟨l,j,ws,n,⟨o,ki _ ho,hr⟩,(hk _ _ g d).1,(hk _ _ g d).2,r.mono hk⟩
 ·exact .inr (.inl ⟨l,j,ws,n,⟨o,ki _ ho,hr⟩,(hk _ _ g d).1,(hk _ _ g d).2,r.mono hk⟩)
 ·exact .inr (.inr ⟨x,left,ki _ hi,e⟩)
theorem Zh8 (n:Nat) (h:n<=1000000):Builtin.Range.small 0 (n:Int) 1=true/\Builtin.Range.rangeSize 0 (n:Int) 1=(n:Int):=by
 have e:Builtin.Range.rangeSize 0 (n:Int) 1=(n:Int):=by
  unfold Builtin.Range.rangeSize
  simp <;> exact ZvL
 refine ⟨?_,e⟩
 unfold Builtin.Range.small
 rw [e]
 simp [Builtin.Range.rangeFitsLong]
 exact ZvM h
section
variable {G:Glo} {A:Around} {P F:Addr->Prop} {σ:St} {s:Shared}
theorem ZgS {v:LV} {xs:List LV} (h:ZaD v=some xs):v=.lst xs\/v=.tup xs\/∃ n,v=.rng n/\xs=(List.range n).map fun (i:Nat)=>LV.int (Int.ofNat i):=by
 cases v with
 | lst vs=>cases h; exact .inl rfl
 | tup vs=>cases h; exact .inr (.inl rfl)
 | rng n=>cases h; exact .inr (.inr ⟨n,rfl,rfl⟩)
 | _=>exact nos h
theorem ZeG {M:Value->Shared->Prop} {E:Value->Shared->Prop} {v:LV} {x:Value} {xs:List LV} (i:Inv G P σ s.heap) (r:Rep G (Dom P σ) s.heap v x) (hx:ZaD v=some xs)
  (q:∀ o,ZaQ G (fun b=>Dom P σ b/\b ≠ s.heap.objs.size) (s.heap.push o) s.heap.objs.size xs->M (.ref s.heap.objs.size) { s with heap:=s.heap.push o }):wpAny (model G.prog G.w) A (pyIter x) M E s:=by
 have up:∀ b o' o,s.heap.get? b=some o'->Dom P σ b->(Dom P σ b/\b ≠ s.heap.objs.size)/\(s.heap.push o).get? b=some o':=fun b o' o g d=>⟨⟨d,Nat.ne_of_lt (Heap.lt_size g)⟩,Zg _ _ _ g⟩
 rcases ZgS hx with rfl | rfl | ⟨n,rfl,rfl⟩
 ·refine r.lstE fun a ws n d g q'=>?_
  refine wpAny_pyIter_list (IsList.ofO g) (q _ (.inl ⟨a,0,ws,n,⟨_,Heap.get?_push_size _ rfl,rfl,rfl⟩,⟨d,Nat.ne_of_lt (Heap.lt_size g)⟩,Zg _ _ _ g,?_⟩))
  exact q'.mono fun b o g d=>up _ _ _ g d
 ·refine r.tupE fun a ws n d g q'=>?_
  refine wpAny_pyIter_tuple ⟨_,g,rfl,n,rfl⟩ (q _ (.inr (.inl ⟨a,0,ws,n,⟨_,Heap.get?_push_size _ rfl,rfl,rfl⟩,⟨d,Nat.ne_of_lt (Heap.lt_size g)⟩,Zg _ _ _ g,?_⟩)))
  exact q'.mono fun b o g d=>up _ _ _ g d
 ·skip
  refine Zse r fun a t u k eQ0_4 d g hn=>?_; subst eQ0_4
  refine ZL (Zh8 n hn) fun h1 h2=>?_
  refine wpAny_pyIter_range g h1 (q _ (.inr (.inr ⟨0,n,?_,?_⟩)))
  ·rw [h2]; exact Heap.get?_push_size _ rfl
  ·simp
theorem ZeH {M:Value->Shared->Prop} {E:Value->Shared->Prop} {I:Addr} {D:Addr->Prop} {xs:List LV} (it:ZaQ G D s.heap I xs) (q:M (.ref I) s):wpAny (model G.prog G.w) A (pyIter (.ref I)) M E s:=by
 rcases it with ⟨l,j,ws,n,hi,d,g,r⟩ | ⟨l,j,ws,n,hi,d,g,r⟩ | ⟨x,left,hi,e⟩
 ·exact wpAny_pyIter_listiter hi q
 ·exact wpAny_pyIter_tupleiter hi q
 ·exact wpAny_pyIter_rangeiter hi q
theorem ZdC {α:Type} {xs:List α} {j:Nat} {x:α} {r:List α} (h:xs.drop j=x::r):xs[j]?=some x/\xs.drop (j + 1)=r:=by
 have h1:(xs.drop j)[0]?=some x:=by rw [h]; rfl
 rw [List.getElem?_drop] at h1
 refine ⟨by simpa using h1,?_⟩
 rw [show xs.drop (j + 1)=(xs.drop j).drop 1 by rw [List.drop_drop],h]; rfl
theorem Zhg {M:Option Value->Shared->Prop} {E:Value->Shared->Prop} {I:Addr} {v:LV} {xs:List LV} (p:P I) (it:ZaQ G (Dom P σ) s.heap I (v::xs))
  (q:∀ u h' tk,Rep G (Dom P σ) h' v u->ZaQ G (Dom P σ) h' I xs->Heap.SameBut I s.heap h'->M (some u) { s with heap:=h',toks:=tk }):wpAny (model G.prog G.w) A (pyNext (.ref I)) M E s:=by
 have hd:∀ (h':Heap),Heap.SameBut I s.heap h'->∀ b o,s.heap.get? b=some o->Dom P σ b->Dom P σ b/\h'.get? b=some o:=fun h' hs=>Dom.priv p hs
 rcases it with ⟨l,j,ws,n,hi,d,g,r⟩ | ⟨l,j,ws,n,hi,d,g,r⟩ | ⟨x,left,hi,e⟩
 ·refine ZaM r.uncons fun u us e ru rus=>?_
  refine ZL (ZdC e) fun e1 e2=>?_
  refine wpAny_pyNext_list_item hi (IsList.ofO g) (by simpa using e1) fun h' hi' hs=>q u h' s.toks (ru.mono (hd h' hs)) (.inl ⟨l,j + 1,ws,n,hi',d,(hd h' hs _ _ g d).2,?_⟩) hs
  rw [e2]; exact rus.mono (hd h' hs)
 ·refine ZaM r.uncons fun u us e ru rus=>?_
  refine ZL (ZdC e) fun e1 e2=>?_
  refine wpAny_pyNext_tuple_item hi ⟨_,g,rfl,n,rfl⟩ (by simpa using e1) fun h' hi' hs=>q u h' s.toks (ru.mono (hd h' hs)) (.inr (.inl ⟨l,j + 1,ws,n,hi',d,(hd h' hs _ _ g d).2,?_⟩)) hs
  rw [e2]; exact rus.mono (hd h' hs)
 ·cases left with
  | zero=>cases e
  | succ left =>
   rw [List.range_succ_eq_map,List.map_cons,List.map_map] at e
   injection e with e1 e2
   subst e1
   refine wpAny_pyNext_range_item hi ZvN fun h' hi' hs=>q _ h' (s.toks + 1) (by simpa using Rep.int) (.inr (.inr ⟨x + 1,left,?_,?_⟩)) hs
   ·have e3:((left + 1:Nat):Int) - 1=(left:Int):=ZvO
    have e4:((x + 1:Nat):Int)=(x:Int) + 1:=ZvP
    rw [e4,<- e3]; exact hi'
   ·rw [e2]
    refine List.map_congr_left fun a _=>?_
    simp only [Function.comp]
    congr 1
    exact ZvQ
theorem ZeI {M:Option Value->Shared->Prop} {E:Value->Shared->Prop} {I:Addr} {D:Addr->Prop} (R:Room A) (it:ZaQ G D s.heap I []) (q:∀ h',Heap.ExtBut I s.heap h'->M none { s with heap:=h' }):wpAny (model G.prog G.w) A (pyNext (.ref I)) M E s:=by
 have nil:∀ {ws:Array Value} {j:Nat},ws.toList.drop j=[]->ws[j]?=none:=fun {ws j} h=>by
  have:=List.drop_eq_nil_iff.mp h
  rw [Array.length_toList] at this
  exact Array.getElem?_eq_none this
 rcases it with ⟨l,j,ws,n,hi,d,g,r⟩ | ⟨l,j,ws,n,hi,d,g,r⟩ | ⟨x,left,hi,e⟩
 ·exact wpAny_pyNext_list_end R.handled hi (IsList.ofO g) (nil r.nil_eq) q
 ·exact wpAny_pyNext_tuple_end R.handled hi ⟨_,g,rfl,n,rfl⟩ (nil r.nil_eq) q
 ·cases left with
  | zero=>exact wpAny_pyNext_range_end R.handled hi ZvR q
  | succ left=>rw [List.range_succ_eq_map] at e; cases e
theorem ZdI {M:Unit->Shared->Prop} {E:Value->Shared->Prop} {I:Addr} {es:List Expr} {c:Nat} {p:Pos} {u:Value} {o:Obj} {n:String} {vs:Array Value} (ho:s.heap.get? I=some o) (hc:o.cls=.type n) (hd:o.data=.fields vs)
  (hn:["enumerate","zip","dict_itemiterator","dict_reverseitemiterator","odict_iterator","itertools.zip_longest","itertools.pairwise"].contains n=false) (q:M () s):wpAny (model G.prog G.w) A (letOwnedTupleGo (.Tuple es c p) (.ref I) u) M E s:=by
 cases u with
 | ref a=>refine wpAny_bind (wpAny_load ho ?_); rw [hc,hd]; dsimp only; rw [hn]; exact wpAny_pure q
 | _=>exact wpAny_pure q
theorem ZgW {M:Unit->Shared->Prop} {E:Value->Shared->Prop} {I:Addr} {D:Addr->Prop} {xs:List LV} {te:Expr} {u:Value} (it:ZaQ G D s.heap I xs) (q:M () s):wpAny (model G.prog G.w) A (letOwnedTupleGo te (.ref I) u) M E s:=by
 have key:∀ (o:Obj) (n:String) (vs:Array Value),s.heap.get? I=some o->o.cls=.type n->o.data=.fields vs->["enumerate","zip","dict_itemiterator","dict_reverseitemiterator","odict_iterator","itertools.zip_longest","itertools.pairwise"].contains n=false->
   wpAny (model G.prog G.w) A (letOwnedTupleGo te (.ref I) u) M E s:=fun o n vs ho hc hd hn=>by
  cases te with
  | Tuple es c p=>exact ZdI ho hc hd hn q
  | List es p=>exact ZdI (es:=es) (c:=0) (p:=p) ho hc hd hn q
  | _=>exact wpAny_pure q
 rcases it with ⟨l,j,ws,n,⟨o,ho,hc,hd⟩,d,g,r⟩ | ⟨l,j,ws,n,⟨o,ho,hc,hd⟩,d,g,r⟩ | ⟨x,left,hi,e⟩
 ·exact key o _ _ ho hc hd (by decide)
 ·exact key o _ _ ho hc hd (by decide)
 ·exact key _ _ _ hi rfl rfl (by decide)
end
theorem ZjY (y:Int) (n m:Nat) (h:(m:Int)=if y < 0 then max (y + n) 0 else min y n):Builtin.Slice.sliceAdjust none (some y) 1 (n:Int)=(0,(m:Int)):=by
 unfold Builtin.Slice.sliceAdjust
 have h1:¬ ((1:Int) < 0):=by decide
 simp only [h1,if_false]
 rw [h]
theorem Zlp (m:Nat):Builtin.Slice.slicePlaces 0 (m:Int) 1=m:=by
 unfold Builtin.Slice.slicePlaces
 have h1:(1:Int) > 0:=by decide
 simp only [h1,if_true,Int.ediv_one]
 split <;> omega
theorem ZoR (xs:Array Value) (m:Nat) (h:m<=xs.size):((List.range m).filterMap fun (k:Nat)=>xs[((0:Int) + (k:Int) * 1).toNat]?).toArray=(xs.toList.take m).toArray:=by
 have e:(fun (k:Nat)=>xs[((0:Int) + (k:Int) * 1).toNat]?)=fun k=>xs.toList[k]?:=by
  funext k
  have:((0:Int) + (k:Int) * 1).toNat=k:=ZvS
  rw [this,Array.getElem?_toList]
 rw [e]
 congr 1
 have:∀ (l:List Value) (m:Nat),m<=l.length->(List.range m).filterMap (fun k=>l[k]?)=l.take m:=by
  intro l m
  induction m with
  | zero=>intro _; rfl
  | succ m ih =>
   intro hm
   rw [List.range_succ,List.filterMap_append,ih (ZvT hm),List.take_add_one]
   congr 1
 exact this _ _ (by simpa using h)
section
variable {prog:Program} {w:World} {A:Around} {E:Value->Shared->Prop} {s:Shared}
theorem Zjk {sl:Addr} {y:Int} {n m:Nat} {u:Tok} {Q:Int × Int × Nat->Shared->Prop} (hs:s.heap.IsSliceOf sl .none (.int y u) .none) (hm:(m:Int)=if y < 0 then max (y + n) 0 else min y n) (h:Q ((0:Int),1,m) s) :
  wpAny (model prog w) A (Builtin.Slice.sliceApplied (.ref sl) (pure (n:Int))) Q E s:=by
 refine Zdk (id hs) fun os hos hcs hds=>?_
 refine wpAny_bind (wpAny_bind (wpAny_field hos hds (x:=.none) rfl (wpAny_bind (wpAny_field hos hds (x:=.int y u) rfl (wpAny_bind (wpAny_field hos hds (x:=.none) rfl (wpAny_pure ?_)))))))
 refine wpAny_bind (slicePart_none ?_)
 show wpAny _ _ (if ((1:Int) == 0)=true then _ else _) _ _ s
 rw [if_neg (by decide)]
 refine wpAny_bind (slicePart_none (wpAny_bind (slicePart_int (wpAny_bind (wpAny_pure ?_)))))
 show wpAny _ _ (match Builtin.Slice.sliceAdjust none (some y) 1 (n:Int) with | (lo,hi)=>pure (lo,(1:Int),Builtin.Slice.slicePlaces lo hi 1)) _ _ s
 rw [ZjY y n m hm]
 show wpAny _ _ (pure ((0:Int),(1:Int),Builtin.Slice.slicePlaces 0 (m:Int) 1)) _ _ s
 rw [Zlp]
 exact wpAny_pure h
theorem Zkx {t:Addr} {o:Obj} {Q:Bool->Shared->Prop} (ho:s.heap.get? t=some o) (hc:o.cls=.type "tuple") (h:Q true s):wpAny (model prog w) A (Builtin.Tuple.tupleIsExact (.ref t)) Q E s:=by
 first
  | exact wpAny_bind (wpAny_typeOf ⟨o,ho,hc⟩ (wpAny_pure h))
  | exact wpAny_bind (wpAny_load ho (by rw [hc]; exact wpAny_pure h))
theorem ZeT {t sl:Addr} {items:Array Value} {k:Nat} {m:Nat} {y:Int} {u:Tok} {Q:Value->Shared->Prop} (ho:s.heap.get? t=some (Zhq items k)) (hs:s.heap.IsSliceOf sl .none (.int y u) .none)
  (hm:(m:Int)=if y < 0 then max (y + items.size) 0 else min y items.size) (hmn:m<=items.size) (hms:m<=sizeLine)
  (h1:m=items.size->Q (.ref t) s) (h:m ≠ items.size->Q (.ref s.heap.objs.size) { s with heap:=s.heap.push (Zhq (items.toList.take m).toArray 0) }):wpAny (model prog w) A (getItem (.ref t) (.ref sl)) Q E s:=by
 have ht:IsTup s.heap t items:=IsTup.ofO ho
 have hdrop:sizeOk (.seq (items.toList.take m).toArray):=by
  show (items.toList.take m).toArray.size<=sizeLine
  rw [List.size_toArray,List.length_take,Array.length_toList]
  exact ZvU hms
 refine Zdk (id hs) fun os hos hcs hds=>?_
 have hTs:s.TypeIs (.ref sl) "slice":=⟨os,hos,hcs⟩
 unfold getItem
 try with_reducible refine wpAny_holding ?_
 first | refine wpAny_bind (wpAny_pure ?_) | skip
 refine wpAny_bind (wpAny_sequenceKey ht.typeIs (by decide) ?_)
 refine wpAny_bind (wpAny_callSpecial?_slot (name:=Str.ofString "__getitem__") ht.typeIs slot_tuple_getitem
  (wpAny_call_entry slot_tuple_getitem ht.typeIs entry_tuple_getitem ?_ (args_tuple_getitem _ _)))
 show wpAny _ _ (Builtin.Tuple.tupleItemsOf (.ref t) >>= _) _ _ s
 refine wpAny_bind (tupleItemsOf_ ht ?_)
 refine wpAny_bind (wpAny_typeOf hTs ?_)
 rw [if_pos (by decide)]
 refine wpAny_bind (Zjk hs hm ?_)
 show wpAny _ _ (if ((0:Int) == 0&&(1:Int) == 1&&m == items.size)=true then _ else _) _ _ s
 by_cases e:m=items.size
 ·rw [if_pos (by simp [e])]
  refine wpAny_bind (Zkx ho rfl ?_)
  rw [if_pos rfl]
  first
   | exact wpAny_bind (wpAny_rule (wpAny_bind (wpAny_pure (wpAny_pure ⟨_,rfl,wpAny_pure (h1 e)⟩))))
   | exact wpAny_bind (wpAny_rule (wpAny_pure ⟨_,rfl,wpAny_pure (h1 e)⟩))
   | exact wpAny_bind (wpAny_rule (wpAny_bind (wpAny_pure ⟨_,rfl,wpAny_pure (h1 e)⟩)))
 ·rw [if_neg (by simp [e]),ZoR items m hmn]
  first
   | exact wpAny_bind (m:=Builtin.Tuple.tupleExact _) (wpAny_newObj_type (wpAny_pure ⟨_,rfl,wpAny_pure (h e)⟩) hdrop)
   | exact wpAny_bind (m:=Builtin.Tuple.tupleExact _) (wpAny_newObj_type (wpAny_bind (wpAny_pure (wpAny_pure ⟨_,rfl,wpAny_pure (h e)⟩))) hdrop)
   | exact wpAny_bind (wpAny_bind (m:=Builtin.Tuple.tupleExact _) (wpAny_newObj_type (wpAny_pure (wpAny_pure ⟨_,rfl,wpAny_pure (h e)⟩)) hdrop))
end
section
variable {G:Glo} {A:Around} {P F:Addr->Prop} {σ:St} {s:Shared} {env:PySem.Env}
theorem ZlB {a i c:LV} (h:Zid a i=some c):∃ vs y,a=.tup vs/\i=.int y/\vs.length<=1000000/\((0<=y/\y<=1000000/\c=.tup (vs.take y.toNat))\/(y=-1/\c=.tup (vs.take (vs.length - 1)))):=by
 refine Ze (bnd h) fun vs hv h=>Ze (bnd h) fun y hy h=>ifs h (fun z h=>?_) fun _ h=>nos h
 refine ⟨vs,y,Zb7 hv,ZP hy,z,?_⟩
 exact ifs h (fun q h=>.inl ⟨q.1,q.2,(Option.some.inj h).symm⟩) fun _ h=>ifs h (fun q h=>.inr ⟨q,(Option.some.inj h).symm⟩) fun _ h=>nos h
theorem ZqD {a b c:LV} {x y:Value} {value up:Expr} {p:Pos} {sl:Addr} {Ψ:Value->St->Shared->Prop} (i:Inv G P σ s.heap) (hb:Zid a b=some c)
  (ra:Rep G (Dom P σ) s.heap a x) (rb:Rep G (Dom P σ) s.heap b y) (hs:s.heap.IsSliceOf sl .none y .none)
  (k:∀ v h',(∀ b o,s.heap.get? b=some o->h'.get? b=some o)->Rep G (Dom P σ) h' c v->Ψ v σ { s with heap:=h' }) :
  TT G A P F (subscriptTail value (.Slice none (some up) none p) x (.ref sl)) Ψ σ s:=by
 refine Zq4 (ZlB hb) fun vs n eQ0_2 eQ0_3 hline hc=>?_; subst eQ0_2; subst eQ0_3
 refine ZU rb.int_inv fun t eQ0_1=>?_; subst eQ0_1
 refine ra.tupE fun l ws m d g q=>?_
 have len:=q.length
 rw [Array.length_toList] at len
 refine tail_any (ops:=[.ref sl,.ref l]) (ZaE g) slot_tuple_getitem.lookup ?_ rfl
 have key:∀ mm:Nat,c=.tup (vs.take mm)->mm<=ws.size->(mm:Int)=(if n < 0 then max (n + ws.size) 0 else min n ws.size)->
   wpAny (model G.prog G.w) A (getItem (.ref l) (.ref sl)) (fun v s'=>∃ σ',Inv G P σ' s'.heap/\Evo F σ s.heap σ' s'.heap/\ZaF s s'/\Ψ v σ' s') (fun _ _=>False) s:=by
  intro mm hcc hle hm
  subst hcc
  refine ZeT g hs hm hle ?_ (fun e=>?_) fun _=>?_
  ·rw [sizeLine_eq]
   exact ZvV hline len hle
  ·refine Zan i (k _ _ (fun _ _ e=>e) ?_)
   rw [e,List.take_of_length_le (o87 len)]
   exact Rep.tup_mk d g q
  ·exact Za5 (tk:=s.toks) i (Zg _) (k _ _ (Zg _) (ZcW i (by simpa using q.take mm)))
 rcases hc with ⟨h0,h1,rfl⟩ | ⟨rfl,rfl⟩
 ·by_cases z:n.toNat<=ws.size
  ·exact key n.toNat rfl z (by rw [if_neg (o88 h0)]; exact ZvW h0 z)
  ·refine key ws.size ?_ (Nat.le_refl _) (by rw [if_neg (o88 h0)]; exact ZvX z)
   rw [List.take_of_length_le (ZvY len z),List.take_of_length_le (o87 len)]
 ·exact key (ws.size - 1) (by rw [len]) o89 (by rw [if_pos ZvZ]; exact Zv0)
end
noncomputable def EO (G:Glo) (A:Around) (C:Cal) (sc:Scope) (le:LE) (e:Expr):Prop :=
 ∀ (P:Addr->Prop) (σ:St) (s:Shared) (env:PySem.Env) (ρ:Env) (Q:LV->St->Prop),env.scope=sc->Inv G P σ s.heap->EnvRel G P σ s.heap env ρ->
  wpE G.T C le ρ Q σ->TT G A P noF (eval e env) (Res G P Q) σ s
noncomputable def Zsg (G:Glo) (P:Addr->Prop) (Q:List LV->St->Prop):List Value->St->Shared->Prop:=fun vs σ s=>∃ lvs,Zz G (Dom P σ) s.heap lvs vs/\Q lvs σ
noncomputable def EsO (G:Glo) (A:Around) (C:Cal) (sc:Scope) (les:List LE) (es:List Expr):Prop :=
 ∀ (P:Addr->Prop) (σ:St) (s:Shared) (env:PySem.Env) (ρ:Env) (Q:List LV->St->Prop) (pos:Pos),env.scope=sc->Inv G P σ s.heap->EnvRel G P σ s.heap env ρ->
  Zcs G.T C les ρ Q σ->TT G A P noF (spliced (backTo pos (starEach es env))) (Zsg G P fun lvs σ'=>lvs.length=les.length/\Q lvs σ') σ s
noncomputable def BO (G:Glo) (A:Around) (C:Cal) (sc:Scope) (le:LE) (e:Expr):Prop :=
 ∀ (P:Addr->Prop) (σ:St) (s:Shared) (env:PySem.Env) (ρ:Env) (Q:Bool->St->Prop),env.scope=sc->Inv G P σ s.heap->EnvRel G P σ s.heap env ρ->
  wpB G.T C le ρ Q σ->TT G A P noF (isTrue e env (eval e env)) (fun b σ' _=>Q b σ') σ s
noncomputable def ZbU:Expr->Bool
 | .Starred ..=>false
 | _=>true
theorem Zdh {e:Expr} {r:List Expr} {env:PySem.Env} (h:ZbU e=true):starEach (e::r) env=(false,eval e env)::starEach r env:=by cases e <;> first | rfl | cases h
noncomputable def Zdf:Expr->Bool
 | .UnaryOp .Not _ _=>false
 | .BoolOp _ _ _=>false
 | .IfExp _ _ _ _=>false
 | .Compare _ _ _ _=>false
 | _=>true
theorem ZdR {e:Expr} {env:PySem.Env} {whole:Sem Value} (h:Zdf e=true):isTrue e env whole=(do let v <- whole; standAt e.pos; holding [v] (truthy v)):=by
 cases e <;> first
  | rfl
  | cases h
  | (rename_i op _ _; cases op <;> first | rfl | cases h)
theorem TT.operate {G:Glo} {A:Around} {P F:Addr->Prop} {σ:St} {s:Shared} {vs:List Value} {t:Sem Value} {Ψ:Value->St->Shared->Prop} (h:TT G A P F t Ψ σ s):TT G A P F (PySem.operate vs t) Ψ σ s:=wpAny_operating h
theorem TT.truthy {G:Glo} {A:Around} {P F:Addr->Prop} {σ:St} {s:Shared} {b:Bool} {Ψ:Bool->St->Shared->Prop} (i:Inv G P σ s.heap) (h:Ψ b σ s):TT G A P F (PySem.truthy (.bool b)) Ψ σ s:=wpAny_truthy_bool (Zan i h)
theorem TT.release {G:Glo} {A:Around} {P F:Addr->Prop} {σ:St} {s:Shared} {vs ks:List Value} {Ψ:Unit->St->Shared->Prop} (i:Inv G P σ s.heap) (h:Ψ () σ s):TT G A P F (PySem.release vs ks) Ψ σ s:=wpAny_release' (Zan i h)
section
variable {G:Glo} {A:Around} {C:Cal} {sc:Scope}
theorem EsO.nil:EsO G A C sc [] []:=fun P σ s env ρ Q pos hs i E h=>by
 show TT G A P noF (pure []) _ σ s
 exact TT.pure i ⟨[],.nil,rfl,h⟩
theorem EsO.cons {le:LE} {les:List LE} {e:Expr} {es:List Expr} (hs:ZbU e=true) (h1:EO G A C sc le e) (h2:EsO G A C sc les es):EsO G A C sc (le::les) (e::es):=fun P σ s env ρ Q pos hsc i E h=>by
 rw [Zdh hs]
 show TT G A P noF (eval e env >>= fun v=>(pure [v]:Sem (List Value)) >>= fun here=>holding here (spliced (backTo pos (starEach es env))) >>= fun r=>pure (here++r)) _ σ s
 refine TT.bind (TT.mono (h1 P σ s env ρ _ hsc i E h) fun v σ₁ s₁ i₁ e₁ _ hQ0=>Ze hQ0 fun lv r q=>?_)
 refine TT.bind (TT.pure i₁ (TT.bind (TT.holding (TT.mono (h2 P σ₁ s₁ env ρ _ pos hsc i₁ (E.evo i e₁) q) fun vs σ₂ s₂ i₂ e₂ _ hQ0=>Zdk hQ0 fun lvs rs ln q₂=>?_))))
 exact TT.pure i₂ ⟨lv::lvs,.cons (r.evo e₂ fun _ z=>z.elim) rs,by rw [List.length_cons,List.length_cons,ln],q₂⟩
noncomputable def Zkj (nm:Nat->Str) (v:LV) (c:Const):Bool:=match c with
 | .none=>isNone v
 | .bool b=>asB v == some b
 | .int j=>asI v == some j
 | .str x=>(asW v).elim false fun k=>nm k == x
 | _=>false
theorem ZkV {v:LV} (h:isNone v=true):v=.none:=by cases v <;> first | exact nob h | rfl
theorem EO.const {v:LV} {c:Const} {k:Nat} {pos:Pos} (h:Zkj G.nm v c=true):EO G A C sc (.k v) (.Constant c k pos):=fun P σ s env ρ Q hs i E q=>by
 cases c with
 | none =>
  obtain rfl:=ZkV h
  exact wpAny_Constant_none (Zan i ⟨.none,.none,q⟩)
 | bool b =>
  obtain rfl:=ZeZ (eq_of_beq h)
  exact wpAny_Constant_bool (Zan i ⟨_,.bool,q⟩)
 | int j =>
  obtain rfl:=ZP (eq_of_beq h)
  exact wpAny_Constant_int (Zp i ⟨_,.int,q⟩)
 | str x =>
  have h:(asW v).elim false (fun k=>G.nm k == x)=true:=h
  revert h
  cases e:asW v with
  | none=>exact fun h=>nob h
  | some z =>
   intro h
   obtain rfl:=Zj2 e
   exact wpAny_Constant_str (Zp i ⟨.w z,(⟨_,by rw [eq_of_beq h]⟩:∃ t,Value.str x s.toks=.str (G.nm z) t),q⟩)
 | _=>exact nob h
theorem EO.var {x:Nat} {n:Str} {pos:Pos} (h:G.nm x=n) (hd:(n == ("__debug__" : Str))=false) (hcd:(n == ("__classdict__" : Str))=false) (hl:ZfI (sc.names.lookup n)=true):EO G A C sc (.v x) (.Name n pos):=fun P σ s env ρ Q hs i E q=>by
 subst h
 refine Ze (Zi.mp q) fun u hu q=>?_
 rw [PySem.eval_Name _ _ _ hd]
 exact TT.at (Zk5 i E hu (by unfold Env.kindOf; rw [hs]; exact hl) hcd q)
theorem EO.bin {o:Operator} {l r:LE} {l' r':Expr} {pos:Pos} (h1:EO G A C sc l l') (h2:EO G A C sc r r')
  (hop:∀ (P:Addr->Prop) (σ:St) (s:Shared) (a b c:LV) (x y:Value) (Q:LV->St->Prop),Inv G P σ s.heap->ZdT o σ a b=some c->Rep G (Dom P σ) s.heap a x->Rep G (Dom P σ) s.heap b y->Q c σ->TT G A P noF (binaryOp o x y) (Res G P Q) σ s) :
  EO G A C sc (.bin o l r) (.BinOp l' o r' pos):=fun P σ s env ρ Q hs i E q=>by
 rw [arm_eval_BinOp]
 refine TT.bind (TT.mono (h1 P σ s env ρ _ hs i E q) fun x σ₁ s₁ i₁ e₁ _ hQ0=>Ze hQ0 fun a ra q₁=>?_)
 refine TT.bind (TT.holding (TT.mono (h2 P σ₁ s₁ env ρ _ hs i₁ (E.evo i e₁) q₁) fun y σ₂ s₂ i₂ e₂ _ hQ0=>Ze hQ0 fun b rb q₂=>?_))
 refine Ze (Zi.mp q₂) fun c hc q₃=>?_
 exact TT.at (wpAny_operating (hop P σ₂ s₂ a b c x y Q i₂ hc (ra.evo e₂ fun _ z=>z.elim) rb q₃))
theorem ZpE (R:Room A) {o:Operator} {P:Addr->Prop} {σ:St} {s:Shared} {a b c:LV} {x y:Value} {Q:LV->St->Prop} (i:Inv G P σ s.heap) (hb:ZdT o σ a b=some c) (ra:Rep G (Dom P σ) s.heap a x) (rb:Rep G (Dom P σ) s.heap b y) (q:Q c σ) :
  TT G A P noF (binaryOp o x y) (Res G P Q) σ s:=by
 have nums:∀ (n m:Int),a=.int n->b=.int m->TT G A P noF (binaryOp o x y) (Res G P Q) σ s:=fun n m ea eb=>by
  subst ea eb
  refine ra.intE fun t=>?_
  refine rb.intE fun u=>?_
  exact Zn7 i hb fun v tk r=>⟨c,r,q⟩
 have two':∀ {g:Int->Int->Option LV},two asI a b g=some c->TT G A P noF (binaryOp o x y) (Res G P Q) σ s:=fun h=>ZaM (Za6 h) fun m n h1 h2 _=>nums _ _ (ZP h1) (ZP h2)
 cases o with
 | Add =>
  refine Or.elim (ZbA hb) two' fun h=>Or.elim (ZqA h) (fun h=>?_) fun h=>?_
  ·refine Ze h fun m h1 h=>?_
   refine Ze (bnd h) fun n h2 h3=>?_
   obtain rfl:=Zb7 h1
   obtain rfl:=Zb7 h2
   exact Zn9 i h3 ra rb fun v h' k r=>⟨c,r,q⟩
  ·refine ZaM (Za6 h) fun m n h1 h2 h3=>?_
   obtain rfl:=ZdB h1
   obtain rfl:=ZdB h2
   exact Zn8 i h3 ra rb fun v h' k r=>⟨c,r,q⟩
 | Sub =>
  refine Or.elim (ZbA hb) two' fun h=>ZaM (Za6 h) fun m n h1 h2 h3=>?_
  obtain rfl:=Zd7 h1
  obtain rfl:=Zd7 h2
  obtain rfl:=Option.some.inj h3
  exact Zmr R i ra rb fun v h' tk k r=>⟨_,r,q⟩
 | BitOr =>
  refine ZaM (Za6 hb) fun m n h1 h2 h3=>?_
  obtain rfl:=Zd7 h1
  obtain rfl:=Zd7 h2
  obtain rfl:=Option.some.inj h3
  exact Zos R i ra rb fun v h' tk k r=>⟨_,r,q⟩
 | Mult=>exact two' hb
 | Mod=>exact two' hb
 | FloorDiv=>exact two' hb
 | Pow=>exact two' hb
 | _=>exact nos hb
theorem EO.neg {n:Nat} {k:Nat} {p pos:Pos}:EO G A C sc (.neg n) (.UnaryOp .USub (.Constant (.int n) k p) pos):=fun P σ s env ρ Q hs i E q=>by
 rw [arm_eval_UnaryOp]
 refine TT.bind (wpAny_Constant_int (Zp i ?_))
 exact TT.at (TT.holding (PyProof.Rows.neg_int (Zp (s:={ s with toks:=s.toks + 1 }) i ⟨.int (-(n:Int)),.int,q⟩)))
theorem EO.cmp (B:Base G) (R:Room A) {o:CmpOp} {l r:LE} {l' r':Expr} {pos:Pos} (h1:EO G A C sc l l') (h2:EO G A C sc r r') (hm:behindInMarks o r'=false):EO G A C sc (.cmp o l r) (.Compare l' [o] [r'] pos):=fun P σ s env ρ Q hs i E q=>by
 rw [eval_Compare1,markedBehindIn_of_false hm]
 refine TT.bind (TT.mono (h1 P σ s env ρ _ hs i E q) fun x σ₁ s₁ i₁ e₁ _ hQ0=>Ze hQ0 fun a ra q₁=>?_)
 refine TT.bind (TT.holding (TT.mono (h2 P σ₁ s₁ env ρ _ hs i₁ (E.evo i e₁) q₁) fun y σ₂ s₂ i₂ e₂ _ hQ0=>Ze hQ0 fun b rb q₂=>?_))
 refine Ze (Zi.mp q₂) fun c hc q₃=>?_
 exact TT.at (TT.operate (Ze2 B R i₂ hc (ra.evo e₂ fun _ z=>z.elim) rb fun tk=>⟨.bool c,.bool,q₃⟩))
theorem BO.cmp (B:Base G) (R:Room A) {o:CmpOp} {l r:LE} {l' r':Expr} {pos:Pos} (h1:EO G A C sc l l') (h2:EO G A C sc r r') (hm:behindInMarks o r'=false):BO G A C sc (.cmp o l r) (.Compare l' [o] [r'] pos):=fun P σ s env ρ Q hs i E q=>by
 rw [isTrue_Compare1,markedBehindIn_of_false hm]
 refine TT.bind (TT.mono (h1 P σ s env ρ _ hs i E q) fun x σ₁ s₁ i₁ e₁ _ hQ0=>Ze hQ0 fun a ra q₁=>?_)
 refine TT.bind (TT.holding (TT.mono (h2 P σ₁ s₁ env ρ _ hs i₁ (E.evo i e₁) q₁) fun y σ₂ s₂ i₂ e₂ _ hQ0=>Ze hQ0 fun b rb q₂=>?_))
 refine Ze (Zi.mp q₂) fun c hc q₃=>?_
 refine TT.at (TT.bind (TT.operate (TT.mono (Ψ:=fun v σ' _=>v=.bool c/\σ'=σ₂) (Ze2 B R i₂ hc (ra.evo e₂ fun _ z=>z.elim) rb fun tk=>⟨rfl,rfl⟩) fun v σ₃ s₃ i₃ _ _ hQ0=>ZL hQ0 fun hv hσ=>?_)))
 subst hσ hv
 exact TT.holding (TT.truthy i₃ q₃)
theorem BO.plain {le:LE} {e:Expr} (hp:Zdf e=true) (h:EO G A C sc le e):BO G A C sc le e:=fun P σ s env ρ Q hs i E q=>by
 rw [ZdR hp]
 refine TT.bind (TT.mono (h P σ s env ρ _ hs i E q) fun x σ₁ s₁ i₁ e₁ _ hQ0=>Ze hQ0 fun a ra q₁=>?_)
 refine TT.at (TT.holding ?_)
 obtain ⟨b,rfl⟩:∃ b,a=.bool b:=by cases a <;> first | exact ⟨_,rfl⟩ | exact q₁.elim
 cases ra.bool_inv
 exact TT.truthy i₁ q₁
theorem EO.chain (B:Base G) (R:Room A) {o₁ o₂:CmpOp} {l m r:LE} {l' m' r':Expr} {pos:Pos} (h1:EO G A C sc l l') (h2:EO G A C sc m m') (h3:EO G A C sc r r') (hm:lastMarks [o₁,o₂] [m',r']=false) :
  EO G A C sc (.chain l o₁ m o₂ r) (.Compare l' [o₁,o₂] [m',r'] pos):=fun P σ s env ρ Q hs i E q=>by
 show TT G A P noF (eval l' env >>= fun v=>compareChain pos v [o₁,o₂] (markedEach [o₁,o₂] [m',r'] (evalEach [m',r'] env))) _ σ s
 rw [markedEach_of_false _ _ _ hm]
 refine TT.bind (TT.mono (h1 P σ s env ρ _ hs i E q) fun x σ₁ s₁ i₁ e₁ _ hQ0=>Ze hQ0 fun a ra q₁=>?_)
 show TT G A P noF (do
  let rv <- holding [x] (eval m' env)
  standAt pos
  let c <- holding [x,rv] (compareOp o₁ x rv)
  release [x,rv] [c]
  if <- holding [c,rv] (truthy c) then compareChain pos rv [o₂] [eval r' env] else pure c) _ σ₁ s₁
 have E₁:=E.evo i e₁
 refine TT.bind (TT.holding (TT.mono (h2 P σ₁ s₁ env ρ _ hs i₁ E₁ q₁) fun y σ₂ s₂ i₂ e₂ _ hQ0=>Ze hQ0 fun b rb q₂=>?_))
 have E₂:=E₁.evo i₁ e₂
 refine Ze (Zi.mp q₂) fun c hc q₃=>?_
 refine TT.at (TT.bind (TT.holding (TT.mono (Ψ:=fun v σ' _=>v=.bool c/\σ'=σ₂) (Ze2 B R i₂ hc (ra.evo e₂ fun _ z=>z.elim) rb fun tk=>⟨rfl,rfl⟩) fun v σ₃ s₃ i₃ e₃ _ hQ0=>ZL hQ0 fun hv hσ=>?_)))
 subst hσ hv
 refine TT.bind (TT.release i₃ (TT.bind (TT.holding (TT.truthy i₃ ?_))))
 cases c with
 | false=>exact TT.pure i₃ ⟨.bool false,.bool,q₃⟩
 | true =>
  show TT G A P noF (do
   let rv <- holding [y] (eval r' env)
   standAt pos
   operate [y,rv] (compareOp o₂ y rv)) _ _ _
  refine TT.bind (TT.holding (TT.mono (h3 P _ s₃ env ρ _ hs i₃ (E₂.evo i₂ e₃) q₃) fun z σ₄ s₄ i₄ e₄ _ hQ0=>Ze hQ0 fun d rd q₄=>?_))
  refine Ze (Zi.mp q₄) fun c₂ hc₂ q₅=>?_
  exact TT.at (TT.operate (Ze2 B R i₄ hc₂ ((rb.evo e₃ fun _ z=>z.elim).evo e₄ fun _ z=>z.elim) rd fun tk=>⟨.bool c₂,.bool,q₅⟩))
theorem BO.chain (B:Base G) (R:Room A) {o₁ o₂:CmpOp} {l m r:LE} {l' m' r':Expr} {pos:Pos} (h1:EO G A C sc l l') (h2:EO G A C sc m m') (h3:EO G A C sc r r') (hm:lastMarks [o₁,o₂] [m',r']=false) :
  BO G A C sc (.chain l o₁ m o₂ r) (.Compare l' [o₁,o₂] [m',r'] pos):=fun P σ s env ρ Q hs i E q=>by
 show TT G A P noF (eval l' env >>= fun v=>testChain pos v [o₁,o₂] (markedEach [o₁,o₂] [m',r'] (evalEach [m',r'] env))) _ σ s
 rw [markedEach_of_false _ _ _ hm]
 refine TT.bind (TT.mono (h1 P σ s env ρ _ hs i E q) fun x σ₁ s₁ i₁ e₁ _ hQ0=>Ze hQ0 fun a ra q₁=>?_)
 show TT G A P noF (do
  let rv <- holding [x] (eval m' env)
  standAt pos
  let c <- holding [x,rv] (compareOp o₁ x rv)
  release [x,rv] [c]
  if <- holding [c,rv] (PySem.truthy c) then testChain pos rv [o₂] [eval r' env] else Pure.pure false) _ σ₁ s₁
 have E₁:=E.evo i e₁
 refine TT.bind (TT.holding (TT.mono (h2 P σ₁ s₁ env ρ _ hs i₁ E₁ q₁) fun y σ₂ s₂ i₂ e₂ _ hQ0=>Ze hQ0 fun b rb q₂=>?_))
 have E₂:=E₁.evo i₁ e₂
 refine Ze (Zi.mp q₂) fun c hc q₃=>?_
 refine TT.at (TT.bind (TT.holding (TT.mono (Ψ:=fun v σ' _=>v=.bool c/\σ'=σ₂) (Ze2 B R i₂ hc (ra.evo e₂ fun _ z=>z.elim) rb fun tk=>⟨rfl,rfl⟩) fun v σ₃ s₃ i₃ e₃ _ hQ0=>ZL hQ0 fun hv hσ=>?_)))
 subst hσ hv
 refine TT.bind (TT.release i₃ (TT.bind (TT.holding (TT.truthy i₃ ?_))))
 cases c with
 | false=>exact TT.pure i₃ q₃
 | true =>
  show TT G A P noF (do
   let rv <- holding [y] (eval r' env)
   standAt pos
   let c <- operate [y,rv] (compareOp o₂ y rv)
   holding [c] (PySem.truthy c)) _ _ _
  refine TT.bind (TT.holding (TT.mono (h3 P _ s₃ env ρ _ hs i₃ (E₂.evo i₂ e₃) q₃) fun z σ₄ s₄ i₄ e₄ _ hQ0=>Ze hQ0 fun d rd q₄=>?_))
  refine Ze (Zi.mp q₄) fun c₂ hc₂ q₅=>?_
  refine TT.at (TT.bind (TT.operate (TT.mono (Ψ:=fun v σ' _=>v=.bool c₂/\σ'=σ₄) (Ze2 B R i₄ hc₂ ((rb.evo e₃ fun _ z=>z.elim).evo e₄ fun _ z=>z.elim) rd fun tk=>⟨rfl,rfl⟩) fun v σ₅ s₅ i₅ _ _ hQ0=>ZL hQ0 fun hv hσ=>?_)))
  subst hσ hv
  exact TT.holding (TT.truthy i₅ q₅)
theorem EO.ite {t a b:LE} {t' a' b':Expr} {pos:Pos} (h1:BO G A C sc t t') (h2:EO G A C sc a a') (h3:EO G A C sc b b'):EO G A C sc (.ite t a b) (.IfExp t' a' b' pos):=fun P σ s env ρ Q hs i E q=>by
 rw [arm_eval_IfExp]
 refine TT.bind (TT.mono (h1 P σ s env ρ (fun c σ₁=>(c=true->wpE G.T C a ρ Q σ₁)/\(c=false->wpE G.T C b ρ Q σ₁)) hs i E q) fun c σ₁ s₁ i₁ e₁ _ q₁=>?_)
 cases c with
 | true=>exact h2 P σ₁ s₁ env ρ Q hs i₁ (E.evo i e₁) (q₁.1 rfl)
 | false=>exact h3 P σ₁ s₁ env ρ Q hs i₁ (E.evo i e₁) (q₁.2 rfl)
theorem BO.ite {t a b:LE} {t' a' b':Expr} {pos:Pos} (h1:BO G A C sc t t') (h2:BO G A C sc a a') (h3:BO G A C sc b b'):BO G A C sc (.ite t a b) (.IfExp t' a' b' pos):=fun P σ s env ρ Q hs i E q=>by
 rw [arm_isTrue_IfExp]
 refine TT.bind (TT.mono (h1 P σ s env ρ (fun c σ₁=>(c=true->wpB G.T C a ρ Q σ₁)/\(c=false->wpB G.T C b ρ Q σ₁)) hs i E q) fun c σ₁ s₁ i₁ e₁ _ q₁=>?_)
 cases c with
 | true=>exact h2 P σ₁ s₁ env ρ Q hs i₁ (E.evo i e₁) (q₁.1 rfl)
 | false=>exact h3 P σ₁ s₁ env ρ Q hs i₁ (E.evo i e₁) (q₁.2 rfl)
theorem EO.not {e:LE} {e':Expr} {pos:Pos} (h:EO G A C sc e e'):EO G A C sc (.not e) (.UnaryOp .Not e' pos):=fun P σ s env ρ Q hs i E q=>by
 rw [arm_eval_UnaryOp]
 refine TT.bind (TT.mono (h P σ s env ρ _ hs i E q) fun x σ₁ s₁ i₁ e₁ _ hQ0=>Ze hQ0 fun a ra q₁=>?_)
 refine TT.at (TT.holding ?_)
 obtain ⟨b,rfl⟩:∃ b,a=.bool b:=by cases a <;> first | exact ⟨_,rfl⟩ | exact q₁.elim
 cases ra.bool_inv
 exact TT.holding (TT.bind (TT.truthy i₁ (TT.pure i₁ ⟨.bool (!b),.bool,q₁⟩)))
theorem BO.not {e:LE} {e':Expr} {pos:Pos} (h:BO G A C sc e e'):BO G A C sc (.not e) (.UnaryOp .Not e' pos):=fun P σ s env ρ Q hs i E q=>by
 rw [arm_isTrue_UnaryOp]
 have q':wpB G.T C e ρ (fun b σ₁=>Q (!b) σ₁) σ:=q
 refine TT.bind (TT.mono (h P σ s env ρ _ hs i E q') fun b σ₁ s₁ i₁ e₁ _ q₁=>TT.pure i₁ q₁)
noncomputable def ZbM:Bool->BoolOp
 | true=>.And
 | false=>.Or
set_option backward.match.sparseCases true in
theorem EO.bool {an:Bool} {l r:LE} {l' r':Expr} {pos:Pos} (h1:EO G A C sc l l') (h2:EO G A C sc r r'):EO G A C sc (.bool an l r) (.BoolOp (ZbM an) [l',r'] pos):=fun P σ s env ρ Q hs i E q=>by
 have key:TT G A P noF (do
  let v <- eval l' env
  standAt pos
  let c <- holding [v] (PySem.truthy v)
  match ZbM an,c with
  | .And,false | .Or,true=>Pure.pure v
  | _,_=>boolOp pos (ZbM an) [eval r' env]) (Res G P Q) σ s:=by
  refine TT.bind (TT.mono (h1 P σ s env ρ _ hs i E q) fun x σ₁ s₁ i₁ e₁ _ hQ0=>Ze hQ0 fun a ra q₁=>?_)
  refine TT.at ?_
  obtain ⟨b,rfl⟩:∃ b,a=.bool b:=by cases a <;> first | exact ⟨_,rfl⟩ | exact q₁.elim
  cases ra.bool_inv
  dsimp only at q₁
  refine TT.bind (TT.holding (TT.truthy i₁ ?_))
  have more:b=an->TT G A P noF (eval r' env) (Res G P Q) σ₁ s₁:=fun e=>by
   refine TT.mono (h2 P σ₁ s₁ env ρ _ hs i₁ (E.evo i e₁) (q₁.1 e)) fun y σ₂ s₂ i₂ e₂ _ hQ0=>Ze hQ0 fun c rc q₂=>?_
   obtain ⟨c,rfl⟩:∃ b,c=.bool b:=by cases c <;> first | exact ⟨_,rfl⟩ | exact q₂.elim
   exact ⟨_,rc,q₂⟩
  cases an <;> cases b
  ·exact more rfl
  ·exact TT.pure i₁ ⟨_,.bool,q₁.2 (by decide)⟩
  ·exact TT.pure i₁ ⟨_,.bool,q₁.2 (by decide)⟩
  ·exact more rfl
 exact key
theorem BO.bool {an:Bool} {l r:LE} {l' r':Expr} {pos:Pos} (h1:BO G A C sc l l') (h2:BO G A C sc r r'):BO G A C sc (.bool an l r) (.BoolOp (ZbM an) [l',r'] pos):=fun P σ s env ρ Q hs i E q=>by
 rw [arm_isTrue_BoolOp,arm_allTrue_cons]
 have q':wpB G.T C l ρ (fun b σ₁=>(b=an->wpB G.T C r ρ Q σ₁)/\(b ≠ an->Q b σ₁)) σ:=q
 refine TT.bind (TT.mono (h1 P σ s env ρ _ hs i E q') fun b σ₁ s₁ i₁ e₁ _ q₁=>?_)
 have more:b=an->TT G A P noF (allTrue (ZbM an) [r'] env) (fun b σ' _=>Q b σ') σ₁ s₁:=fun e=>by
  rw [arm_allTrue_cons]
  refine TT.bind (TT.mono (h2 P σ₁ s₁ env ρ _ hs i₁ (E.evo i e₁) (q₁.1 e)) fun c σ₂ s₂ i₂ e₂ _ q₂=>?_)
  cases an <;> cases c <;> exact TT.pure i₂ q₂
 cases an <;> cases b
 ·exact more rfl
 ·exact TT.pure i₁ (q₁.2 (by decide))
 ·exact TT.pure i₁ (q₁.2 (by decide))
 ·exact more rfl
end
noncomputable def Zb0:Bi->Str
 | .len_=>"len"
 | .range_=>"range"
 | .list_=>"list"
 | .tuple_=>"tuple"
 | .frozenset_=>"frozenset"
 | .max_=>"max"
 | .int_=>"int"
 | .sorted_=>"sorted"
noncomputable def NN:Nat:=200
structure Facts (G:Glo) (K:Frag):Prop where
 base:Base G
 kin:K.In G.h₁
 mg:∃ m,G.h₁.Ns mainGlobals m/\(∀ x v,G.T.glob x=some v->∃ u,m (G.nm x)=some u/\∀ D h,Rep G D h v u)/\∀ b,m (Zb0 b)=none
 mb:∃ m,G.h₁.Ns builtinsNs m/\∀ b,m (Zb0 b)=some (biV b)
 cGet:∀ c,findIn K (.ref (G.caddr c)) "__getattribute__" = some (some (.builtin "object.__getattribute__"))
 cAtt:∀ c,findIn K (.ref (G.caddr c)) "__getattr__" = some none
 cSet:∀ c,findIn K (.ref (G.caddr c)) "__setattr__" = some (some (.builtin "object.__setattr__"))
 cDict:∀ c,(clsIn K (G.caddr c)).any (·.hasDict)=true
 cOver:∀ c,plainOver K (G.caddr c)=true
 cNone:∀ c x,x < NN->G.T.meth c x=none->findIn K (.ref (G.caddr c)) (G.nm x)=some none/\copiedNames.contains (G.nm x)=false
 cMeth:∀ c x f,G.T.meth c x=some f->findIn K (.ref (G.caddr c)) (G.nm x)=some (some (.ref (G.faddr f)))/\typeIn K (.ref (G.faddr f))=some (.type "function")/\fnIn K (G.faddr f)=true/\copiedNames.contains (G.nm x)=false/\
  takesIn K (.ref (G.faddr f))=some false/\specialIn K (.ref (G.faddr f)) "__get__" = some (some (.builtin "function.__get__"))
 cInit:∀ c f,G.T.init c=some f->findIn K (.ref (G.caddr c)) "__init__" = some (some (.ref (G.faddr f)))/\typeIn K (.ref (G.faddr f))=some (.type "function")/\makesIn K (G.caddr c)=true/\keepIn K (.ref (G.caddr c))=true
 fKeep:∀ f,fnIn K (G.faddr f)=true
section
variable {G:Glo} {K:Frag} {A:Around} {C:Cal} {sc:Scope}
theorem Inv.kin {P:Addr->Prop} {σ:St} {h:Heap} (X:Facts G K) (i:Inv G P σ h):K.In h:=fun a o e=>i.base _ _ (X.kin a o e)
theorem EO.glob (X:Facts G K) {x:Nat} {n:Str} {pos:Pos} (h:G.nm x=n) (hd:(n == ("__debug__" : Str))=false) (hl:sc.names.lookup n=some .globalImplicit):EO G A C sc (.g x) (.Name n pos):=fun P σ s env ρ Q hs i E q=>by
 subst h
 refine Ze (Zi.mp q) fun u hu q=>?_
 refine Zdk X.mg fun m hm hg _=>?_
 refine Ze (hg x u hu) fun w hw r=>?_
 refine Calls.Name_function_global E.kind (by unfold Env.kindOf; rw [hs]; exact hl) (Calls.loadGlobal_global (mg:=m) (by rw [E.glob]; exact Ns.moves hm fun o ho=>i.base _ _ ho) hw ?_) hd
 exact Zan i ⟨u,r _ _,q⟩
theorem Zj4 (X:Facts G K) {P:Addr->Prop} {σ:St} {s:Shared} {env:PySem.Env} {ρ:Env} {b:Bi} {pos:Pos} {Ψ:Value->St->Shared->Prop} (hl:env.kindOf (Zb0 b)=some .globalImplicit) (i:Inv G P σ s.heap) (E:EnvRel G P σ s.heap env ρ) (q:Ψ (biV b) σ s) :
  TT G A P noF (eval (.Name (Zb0 b) pos) env) Ψ σ s:=by
 refine Zdk X.mg fun m hm _ hg=>?_
 refine Ze X.mb fun m' hm' hb=>?_
 refine Calls.Name_function_global E.kind hl (Calls.loadGlobal_builtin (mg:=m) (mb:=m') (by rw [E.glob]; exact Ns.moves hm fun o ho=>i.base _ _ ho) (hg b) (by rw [E.bns]; exact Ns.moves hm' fun o ho=>i.base _ _ ho) (hb b) ?_) (by cases b <;> decide)
 exact Zan i q
theorem ZhZ {n:Nat} {vs:List Value} {lvs:List LV} {D:Addr->Prop} {h:Heap} (r:Zz G D h lvs vs) (e:lvs.length=n) (hn:n<=1000000):vs.toArray.size<=sizeLine:=by
 rw [List.size_toArray,r.length,e,sizeLine_eq]; exact o43 hn
theorem EO.tup {les:List LE} {es:List Expr} {k:Nat} {pos:Pos} (hlen:les.length<=1000000) (h:EsO G A C sc les es):EO G A C sc (.tup les) (.Tuple es k pos):=fun P σ s env ρ Q hs i E q=>by
 rw [arm_eval_Tuple]
 refine TT.at (TT.bind (TT.mono (h P σ s env ρ _ pos hs i E q) fun vs σ₁ s₁ i₁ e₁ _ hQ0=>Zdk hQ0 fun lvs r ln q₁=>?_))
 exact wpAny_newObj_type (Za5 (tk:=s₁.toks) i₁ (Zg _) ⟨_,ZcW i₁ (by simpa using r),q₁⟩) (ZhZ r ln hlen)
theorem EO.lst {les:List LE} {es:List Expr} {pos:Pos} (hlen:les.length<=1000000) (h:EsO G A C sc les es):EO G A C sc (.lst les) (.List es pos):=fun P σ s env ρ Q hs i E q=>by
 rw [arm_eval_List]
 refine TT.at (TT.bind (TT.mono (h P σ s env ρ _ pos hs i E q) fun vs σ₁ s₁ i₁ e₁ _ hQ0=>Zdk hQ0 fun lvs r ln q₁=>?_))
 exact wpAny_newObj_type (Za5 (tk:=s₁.toks) i₁ (Zg _) ⟨_,ZeJ i₁ (by simpa using r),q₁⟩) (ZhZ r ln hlen)
theorem Zf7 {P F:Addr->Prop} {σ:St} {s:Shared} {a:Addr} {lo:LO} {v:Value} {h':Heap} {tk:Nat} {Ψ:Value->St->Shared->Prop} (i:Inv G P σ s.heap) (hn:s.heap.get? a=none) (k:∀ b o,s.heap.get? b=some o->h'.get? b=some o)
  (r:ZjS G (Dom P (upd σ a (some lo))) h' a lo) (h:Ψ v (upd σ a (some lo)) { s with heap:=h',toks:=tk }) :
  ∃ σ',Inv G P σ' ({ s with heap:=h',toks:=tk }:Shared).heap/\Evo F σ s.heap σ' ({ s with heap:=h',toks:=tk }:Shared).heap/\ZaF s { s with heap:=h',toks:=tk }/\Ψ v σ' { s with heap:=h',toks:=tk } :=
 ⟨_,i.track hn k r,Evo.track hn k,⟨rfl,rfl⟩,h⟩
theorem Zau {h:Heap}:h.get? h.objs.size=none:=Zbz (Nat.le_refl _)
theorem ZiS {P F:Addr->Prop} {σ:St} {s:Shared} {lvs:List LV} {ws:Array Value} {Q:LV->St->Prop} (i:Inv G P σ s.heap) (r:Zz G (Dom P σ) s.heap lvs ws.toList) (q:ZeV true Q lvs σ) :
  ∃ σ',Inv G P σ' ({ s with heap:=s.heap.push (Zdj ws 0) }:Shared).heap/\Evo F σ s.heap σ' ({ s with heap:=s.heap.push (Zdj ws 0) }:Shared).heap/\ZaF s { s with heap:=s.heap.push (Zdj ws 0) }/\
   Res G P Q (.ref s.heap.objs.size) σ' { s with heap:=s.heap.push (Zdj ws 0) } :=
 Zf7 (lo:=.list lvs) (tk:=s.toks) i Zau (Zg _) ⟨ws,0,Heap.get?_push_size _ rfl,r.mono (Dom.track Zau (Zg _))⟩ ⟨.ref _,by rfl,q _ i.size_free⟩
theorem EO.lstR {les:List LE} {es:List Expr} {pos:Pos} (hlen:les.length<=1000000) (h:EsO G A C sc les es):EO G A C sc (.lstR les) (.List es pos):=fun P σ s env ρ Q hs i E q=>by
 rw [arm_eval_List]
 refine TT.at (TT.bind (TT.mono (h P σ s env ρ _ pos hs i E q) fun vs σ₁ s₁ i₁ e₁ _ hQ0=>Zdk hQ0 fun lvs r ln q₁=>?_))
 exact wpAny_newObj_type (ZiS i₁ (by simpa using r) q₁) (ZhZ r ln hlen)
theorem EO.dictR {byInt:Bool} {pos:Pos}:EO G A C sc (.dictR byInt) (.Dict [] [] pos):=fun P σ s env ρ Q hs i E q=>by
 refine wpAny_Dict_empty ?_
 cases byInt with
 | true =>
  refine Zf7 (lo:=.idict []) (tk:=s.toks) i Zau (Zg _) ⟨fun _=>none,Heap.IntMap.new _,fun o es ep ho hd=>?_,fun k=>rfl⟩ ⟨.ref _,by rfl,q _ i.size_free⟩
  rw [Heap.get?_push_size _ rfl] at ho
  obtain rfl:=Option.some.inj ho; cases hd; exact Nat.le_refl _
 | false =>
  exact Zf7 (lo:=.dict []) (tk:=s.toks) i Zau (Zg _) ⟨[],_,_,Heap.get?_push_size _ rfl,rfl,rfl,List.nodup_nil⟩ ⟨.ref _,by rfl,q _ i.size_free⟩
theorem EO.sub (B:Base G) (R:Room A) {e j:LE} {e' j':Expr} {pos:Pos} (hsl:ZdW j'=true) (h1:EO G A C sc e e') (h2:EO G A C sc j j'):EO G A C sc (.sub e j) (.Subscript e' j' pos):=fun P σ s env ρ Q hs i E q=>by
 rw [arm_eval_Subscript]
 refine TT.bind (TT.mono (h1 P σ s env ρ _ hs i E q) fun x σ₁ s₁ i₁ e₁ _ hQ0=>Ze hQ0 fun a ra q₁=>?_)
 refine TT.bind (TT.holding (TT.mono (h2 P σ₁ s₁ env ρ _ hs i₁ (E.evo i e₁) q₁) fun y σ₂ s₂ i₂ e₂ _ hQ0=>Ze hQ0 fun b rb q₂=>?_))
 refine Ze (Zi.mp q₂) fun c hc q₃=>?_
 exact TT.at (ZqG (value:=e') B R hsl i₂ hc (ra.evo e₂ fun _ z=>z.elim) rb fun v tk r=>⟨c,r,q₃⟩)
theorem EO.slc {e j:LE} {e' j':Expr} {p pos:Pos} (h1:EO G A C sc e e') (h2:EO G A C sc j j'):EO G A C sc (.slc e j) (.Subscript e' (.Slice none (some j') none p) pos):=fun P σ s env ρ Q hs i E q=>by
 rw [arm_eval_Subscript]
 refine TT.bind (TT.mono (h1 P σ s env ρ _ hs i E q) fun x σ₁ s₁ i₁ e₁ _ hQ0=>Ze hQ0 fun a ra q₁=>?_)
 have E₁:=E.evo i e₁
 have hsl:TT G A P noF (eval (.Slice none (some j') none p) env) (fun iv σ₂ s₂=>∃ b y sl,iv=.ref sl/\Rep G (Dom P σ₂) s₂.heap b y/\s₂.heap.IsSliceOf sl .none y .none/\ZC (Zid a b) fun c=>Q c σ₂) σ₁ s₁:=by
  refine wpAny_Slice ?_
  rw [evalPart_none,evalPart_some]
  refine wpAny_pure (wpAny_mono (h2 P σ₁ s₁ env ρ _ hs i₁ E₁ q₁) (fun y s₂ ⟨σ₂,i₂,e₂,k₂,b,rb,q₂⟩=>?_) fun _ _ z=>z)
  refine wpAny_pure ⟨σ₂,i₂.push _,e₂.trans (Evo.push _),k₂,b,y,_,rfl,rb.grow (Zg _),Heap.IsSliceOf.new ..,q₂⟩
 refine TT.bind (TT.holding (TT.mono hsl fun iv σ₂ s₂ i₂ e₂ _ hQ0=>ZnU hQ0 fun b y sl hiv rb hsl q₂=>?_))
 subst hiv
 refine Ze (Zi.mp q₂) fun c hc q₃=>?_
 exact TT.at (ZqD (value:=e') i₂ hc (ra.evo e₂ fun _ z=>z.elim) rb hsl fun v h' k r=>⟨c,r,q₃⟩)
end
noncomputable def ZaJ (G:Glo) (C:Cal) (u d:Nat):Prop:=∀ (A:Around),A.units<=u->A.depth<=d->A.handled=none->
 ∀ (P:Addr->Prop) (σ:St) (s:Shared) (f:Nat) (vs:List LV) (us:List Value) (Q:LV->St->Prop),C f vs Q σ->Inv G P σ s.heap->Zz G (Dom P σ) s.heap vs us->
  codeAny (model G.prog G.w) A (.call (.ref (G.faddr f)) ⟨us,[]⟩) (fun r s'=>match r with
   | .ok (.ret v)=>∃ σ',Inv G P σ' s'.heap/\Evo noF σ s.heap σ' s'.heap/\ZaF s s'/\Res G P Q v σ' s'
   | _=>False) s
noncomputable def ZaV:List Expr->Bool
 | []=>true
 | e::r=>ZbU e&&ZaV r
theorem ZbT {pos:Pos} {env:PySem.Env}:∀ {es:List Expr},ZaV es=true->(backTo pos (starEach es env)).any (·.1)=false/\(backTo pos (starEach es env)).all (fun x=>!x.1)=true
 | [],_=>⟨rfl,rfl⟩
 | e::r,h=>by
  refine ZL (Bool.and_eq_true_iff.mp h) fun h1 h2=>?_
  refine ZL (ZbT (pos:=pos) (env:=env) h2) fun a b=>?_
  rw [Zdh h1]
  exact ⟨a,b⟩
section
variable {M:Model} {A:Around} {E:Value->Shared->Prop} {s:Shared}
theorem ZhH {f:Value} {env:PySem.Env} {pos:Pos} {es:List Expr} {Q:Args->Shared->Prop} (hns:ZaV es=true) (h:wpAny M A (spliced (backTo pos (starEach es env))) (fun vs s'=>Q ⟨vs,[]⟩ s') E s) :
  wpAny M A (evalArgs f true (backTo pos (starEach es env)) []) Q E s:=by
 cases es with
 | nil =>
  show wpAny M A (spliced [] >>= _) Q E s
  refine wpAny_bind (wpAny_mono h (fun vs s' h'=>?_) fun _ _ x=>x)
  exact wpAny_holding (wpAny_bind (wpAny_pure (wpAny_bind (wpAny_pure (wpAny_pure h')))))
 | cons e r =>
  rw [Zdh (Bool.and_eq_true_iff.mp hns).1] at h ⊢
  exact Calls.evalArgs_plain h
end
section
variable {G:Glo} {K:Frag} {A:Around} {C:Cal} {sc:Scope} {P F:Addr->Prop} {σ:St} {s:Shared} {env:PySem.Env} {ρ:Env}
theorem Zmh {pos:Pos} {f:Value} {first:List Value} {es:List Expr} {Pk:Heap->Prop} {Ψ:Value->St->Shared->Prop} (hns:ZaV es=true)
  (hk:∀ h,Pk h->∃ k,(k=Keeper.frame\/k=Keeper.machine\/k=Keeper.boundFrame)/\Looks (model G.prog G.w) h (keeperOf f) k)
  (h:TT G A P F (spliced (backTo pos (starEach es env))) (fun vs σ₁ s₁=>Pk s₁.heap/\TT G A P F (call f (first++vs)) Ψ σ₁ s₁) σ s):TT G A P F (callWith pos f first (backTo pos (starEach es env)) []) Ψ σ s:=by
 refine ZL (ZbT (pos:=pos) (env:=env) hns) fun h1 h2=>?_
 refine callWith_of (P:=Pk) (by rw [h1]; rfl) hk (ZhH hns (wpAny_mono h (fun vs s₁ hQ0=>Zq3 hQ0 fun σ₁ i₁ e₁ k₁ hp ht=>⟨hp,?_⟩) fun _ _ z=>z.elim))
 exact wpAny_mono ht (fun v s₂ hQ0=>Zgf hQ0 fun σ₂ i₂ e₂ k₂ y=>⟨σ₂,i₂,e₁.trans e₂,k₁.trans k₂,y⟩) fun _ _ z=>z
theorem Zox {M:Model} (b:Bi) (h:Heap) (_:True):∃ k,(k=Keeper.frame\/k=Keeper.machine\/k=Keeper.boundFrame)/\Looks M h (keeperOf (biV b)) k :=
 ⟨.machine,.inr (.inl rfl),Looks.of_pure (by cases b <;> rfl)⟩
theorem ZgU {M:Model} (i:String) (h:Heap) (_:True):∃ k,(k=Keeper.frame\/k=Keeper.machine\/k=Keeper.boundFrame)/\Looks M h (keeperOf (.builtin i)) k :=
 ⟨.machine,.inr (.inl rfl),Looks.of_pure rfl⟩
theorem EO.bi (X:Facts G K) (R:Room A) {b:Bi} {les:List LE} {es:List Expr} {p pos:Pos} (hns:ZaV es=true) (hl:sc.names.lookup (Zb0 b)=some .globalImplicit) (h:EsO G A C sc les es) :
  EO G A C sc (.bi b les) (.Call (.Name (Zb0 b) p) es [] pos):=fun P σ s env ρ Q hs i E q=>by
 rw [arm_eval_Call_Name']
 refine TT.bind (Zj4 X (by unfold Env.kindOf; rw [hs]; exact hl) i E ?_)
 refine Zmh (Pk:=fun _=>True) hns (Zox b) (TT.mono (h P σ s env ρ _ pos hs i E q) fun vs σ₁ s₁ i₁ e₁ _ hQ0=>Zdk hQ0 fun lvs r ln q₁=>⟨trivial,?_⟩)
 refine Ze (Zi.mp q₁) fun c hc q₂=>?_
 exact Zrf X.base R i₁ hc r fun v h' tk k rc=>⟨c,rc,q₂⟩
noncomputable def ZbV:Expr->Bool
 | .Call ..=>false
 | _=>true
theorem Za2 {o:Expr} {attr:Str} {env:PySem.Env} {whole:Sem Value} (h:ZbV o=true):attributeBase o attr env whole=whole:=by
 cases o <;> first | exact nob h | rfl
theorem Zc7 {M:Model} {A:Around} {E:Value->Shared->Prop} {s:Shared} {o:Expr} {name:Str} {apos pos:Pos} {ov:Value} {es:List Expr} {env:PySem.Env} {Q:Value->Shared->Prop} (hns:ZaV es=true) (hlen:es.length < 30) (hline:(apos.endLine == pos.line)=true)
  (h:∀ pl,wpAny M A (getMethod ov name pl) (fun r s'=>wpAny M A (callWith pos r.1 r.2 (backTo pos (starEach es env)) []) Q E s') E s) :
  wpAny M A (methodCall o name apos pos env ov (es.length + ([]:List Keyword).length) (backTo pos (starEach es env)) (backToKw pos (keywordEach [] env))) Q E s:=by
 have hform:methodCallForm (es.length + ([]:List Keyword).length) (backTo pos (starEach es env)) (backToKw pos (keywordEach [] env))=true:=by
  unfold methodCallForm
  rw [(ZbT (pos:=pos) (env:=env) hns).2]
  simp [backToKw,arm_keywordEach_nil]
  omega
 have hpos:methodCallPos true o env apos pos=pure pos:=by unfold methodCallPos; simp [hline]
 unfold methodCall
 rw [hform]
 refine wpAny_bind (wpAny_holding (wpAny_mono (h _) (fun r s' h'=>?_) fun _ _ z=>z))
 exact wpAny_bind (wpAny_of_eq hpos h')
theorem EO.lm (X:Facts G K) (R:Room A) {o:LE} {m:LM} {les:List LE} {o':Expr} {es:List Expr} {apos pos:Pos} (hns:ZaV es=true) (hlen:es.length < 30) (hline:(apos.endLine == pos.line)=true) (hsup:ZbV o'=true)
  (h1:EO G A C sc o o') (h2:EsO G A C sc les es):EO G A C sc (.lm o m les) (.Call (.Attribute o' (Zk4 m) apos) es [] pos):=fun P σ s env ρ Q hs i E q=>by
 rw [arm_eval_Call,Za2 hsup]
 refine TT.bind (TT.mono (h1 P σ s env ρ _ hs i E q) fun x σ₁ s₁ i₁ e₁ _ hQ0=>Ze hQ0 fun a ra q₁=>?_)
 refine Ze (Zi.mp q₁) fun xs hxs q₂=>?_
 refine ZlT (Zbb i₁ ra hxs) fun l ws n eQ0_3 g r=>?_; subst eQ0_3
 refine TT.at (Zc7 hns hlen hline fun pl=>Zqf g ?_)
 refine Zmh (Pk:=fun _=>True) hns (ZgU _) (TT.mono (h2 P σ₁ s₁ env ρ _ pos hs i₁ (E.evo i e₁) q₂) fun vs σ₂ s₂ i₂ e₂ _ hQ0=>Zdk hQ0 fun lvs rs ln q₃=>⟨trivial,?_⟩)
 exact ZrA X.base R i₂ q₃ (ra.evo e₂ fun _ z=>z.elim) rs
theorem Zae {h:Heap} {a:Addr} {o:Obj} {m:Str->Option Value} {name:Str} (hn:h.Ns a m) (ho:h.get? a=some o):lookIn name o=some (m name):=by
 refine ZnU hn fun o' es ep ho' hd hk hm=>?_
 rw [ho] at ho'; cases ho'
 unfold lookIn
 rw [hd]
 dsimp only
 have hany:es.toList.any (·.refKey)=false:=by
  rw [List.any_eq_false]; intro e he; obtain ⟨n,t,h⟩:=hk e (by simpa using he); simp [DictEntry.refKey,h]
 rw [<- hm name]
 simp only [nsFind,findBy]
 rw [<- Array.find?_toList]
 split
 ·rename_i e he; rw [he]; rfl
 ·rename_i he; rw [he,hany]; rfl
theorem Zdr {h:Heap} {a d:Addr} {c:Nat} {es:Array DictEntry} {n:Nat} (g:h.get? a=some (instObj (G.caddr c) d)) (gd:h.get? d=some { cls:=.type "dict",data:=.dict es n }) :
  InstAt h a (instObj (G.caddr c) d) (G.caddr c) (some { cls:=.type "dict",data:=.dict es n }):=⟨g,rfl,rfl,gd⟩
theorem ZiC (X:Facts G K) {c x:Nat} {od:Obj} {u:Value} (hx:x < NN) (hm:G.T.meth c x=none) (hl:lookIn (G.nm x) od=some (some u)):findObj K (G.caddr c) (some od) (G.nm x)=some (.value u):=by
 refine Ze (any_some (X.cDict c)) fun cd hc hd=>?_
 unfold findObj
 rw [hc,Option.bind_some,(X.cNone c x hx hm).1,Option.bind_some]
 show ((some false).bind fun data=>_)=_
 rw [Option.bind_some]
 unfold W.ownOf
 rw [if_pos hd]
 show ((lookIn (G.nm x) od).bind _)=_
 rw [hl]
 rfl
theorem Zky (X:Facts G K) {c x f:Nat} {od:Obj} (hm:G.T.meth c x=some f) (hl:lookIn (G.nm x) od=some none):findObj K (G.caddr c) (some od) (G.nm x)=some (.bind (.builtin "function.__get__") (.ref (G.faddr f))):=by
 refine Ze (any_some (X.cDict c)) fun cd hc hd=>?_
 refine ZwZ (X.cMeth c x f hm) fun h1 h2 h3 h4 h5 h6=>?_
 unfold findObj
 rw [hc,Option.bind_some,h1,Option.bind_some]
 dsimp only
 rw [h6,Option.bind_some]
 dsimp only
 rw [h5,Option.bind_some]
 dsimp only
 unfold W.ownOf
 rw [if_pos hd]
 show ((lookIn (G.nm x) od).bind _)=_
 rw [hl,Option.bind_some,h4]
 rfl
theorem Ze9 {D:Addr->Prop} {h:Heap} {v:LV} {u:Value} (r:Rep G D h v u):handedIn u=true:=by
 cases v with
 | none=>cases r.none_inv; rfl
 | bool b=>cases r.bool_inv; rfl
 | int n=>obtain ⟨t,rfl⟩:=r.int_inv; rfl
 | w k=>obtain ⟨t,rfl⟩:=r; rfl
 | tup vs=>obtain ⟨a,_,_,rfl,_⟩:=r.tup_inv; rfl
 | lst vs=>obtain ⟨a,_,_,rfl,_⟩:=r.lst_inv; rfl
 | fset xs=>obtain ⟨a,_,rfl,_⟩:=r; rfl
 | rng n=>obtain ⟨a,_,_,_,rfl,_⟩:=r; rfl
 | ref a=>subst r; rfl
 | rcd c vs=>obtain ⟨a,_,_,rfl,_⟩:=r; rfl
 | fn f=>subst r; rfl
 | cls c=>subst r; rfl
 | bm f u=>obtain ⟨a,_,rfl,_⟩:=r; rfl
theorem Zfl {D:Addr->Prop} {h:Heap} {m:Str->Option Value} {x:Nat} {v:LV}:∀ {vs:List LV} {fs:List Nat},Zl2 G D h fs vs m->Zja fs vs x=some v->∃ u,m (G.nm x)=some u/\Rep G D h v u
 | [],_,r,e=>by subst r; exact nos e
 | w::vs,_,r,e=>by
  obtain ⟨y,fs,rfl,⟨u,hu,ru⟩,r2⟩:=r
  refine ifs (show (if x=y then some w else Zja fs vs x)=some v from e) (fun h e2=>?_) fun _ e2=>Zfl r2 e2
  subst h; cases e2; exact ⟨u,hu,ru⟩
theorem Zn4 (X:Facts G K) (R:Room A) {o c:LV} {x:Nat} {v:Value} {expr:Bool} {Ψ:Value->St->Shared->Prop} (hx:x < NN) (i:Inv G P σ s.heap) (hb:ZdO G.T σ o x=some c) (ro:Rep G (Dom P σ) s.heap o v)
  (k:∀ u h' tk,(∀ b o,s.heap.get? b=some o->h'.get? b=some o)->Rep G (Dom P σ) h' c u->Ψ u σ { s with heap:=h',toks:=tk }):TT G A P F (getAttr v (G.nm x) expr) Ψ σ s:=by
 have kin:=i.kin X
 refine ZnP hb (fun c' vs eo hb2=>?_) fun hb=>ZkR hb fun a c' d fs eo hσ hd hb2=>?_
 ·subst eo
  refine Zf3 hb2 (fun _ _ h=>nos h) fun hm hb=>?_
  obtain ⟨a,d,m,rfl,da,dd,g,⟨es,n,gd⟩,ns,rf,ru⟩:=ro
  obtain ⟨u,hu,rc⟩:=Zfl rf hb
  exact get_value kin (Zdr g gd) (X.cGet c') (ZiC X hx hm (by rw [Zae ns gd,hu])) (Ze9 rc) (Zp i (k u s.heap _ (fun _ _ e=>e) rc))
 ·subst eo
  have ro:v=.ref a:=ro
  subst ro
  have g:=i.tr _ _ hσ
  obtain ⟨m,es,n,gd,hz,ns,h1,h2⟩:=i.tr _ _ hd
  refine Zf3 hb2 (fun f hm hb=>?_) fun hm hb=>?_
  ·refine Zf3 hb (fun _ _ h=>nos h) fun hg hb=>?_
   obtain rfl:=Option.some.inj hb
   have hmn:m (G.nm x)=none:=h2 _ fun y hy e=>by
    have:=G.nmInj _ _ e
    subst this
    rw [hg] at hy; exact nob hy
   obtain ⟨m1,m2,m3,m4,m5,m6⟩:=X.cMeth c' x f hm
   refine get_bind kin (Zdr g gd) (X.cGet c') (Zky X hm (by rw [Zae ns gd,hmn])) (X.cAtt c') (wpAny_call (fn_get (s:={ s with toks:=s.toks + 1 }) kin m2 ?_))
   refine wpAny_pure (Za5 i (Zg _) (k _ _ _ (Zg _) ?_))
   exact ⟨_,.ref a,rfl,i.size_dom,Heap.get?_push_size _ rfl,by rfl⟩
  ·obtain ⟨u,hu,rc⟩:=h1 x c hb
   exact get_value kin (Zdr g gd) (X.cGet c') (ZiC X hx hm (by rw [Zae ns gd,hu])) (Ze9 rc) (Zp i (k u s.heap _ (fun _ _ e=>e) rc))
theorem EO.attr (X:Facts G K) (R:Room A) {e:LE} {e':Expr} {x:Nat} {n:Str} {pos:Pos} (hn:G.nm x=n) (hx:x < NN) (hsup:ZbV e'=true) (h:EO G A C sc e e'):EO G A C sc (.attr e x) (.Attribute e' n pos):=fun P σ s env ρ Q hs i E q=>by
 subst hn
 rw [arm_eval_Attribute,Za2 hsup]
 refine TT.bind (TT.mono (h P σ s env ρ _ hs i E q) fun v σ₁ s₁ i₁ e₁ _ hQ0=>Ze hQ0 fun a ra q₁=>?_)
 refine Ze (Zi.mp q₁) fun c hc q₂=>?_
 refine TT.at (TT.bind (TT.holding (Zn4 X R hx i₁ hc ra fun u h' tk k rc=>?_)))
 exact wpAny_bind (wpAny_letTemporaryGo (wpAny_pure (Zan (i₁.keeps k) ⟨c,rc,q₂⟩)))
theorem ZgT {f:Addr} (h:fnIn K f=true):keepIn K (.ref f)=true:=by
 unfold fnIn at h
 unfold keepIn
 dsimp only
 revert h
 cases K.lookup f with
 | none=>exact nob
 | some o =>
  obtain ⟨_,_,d,_⟩:=o
  cases d with
  | func _=>exact fun _=>rfl
  | _=>exact fun h=>nob h
theorem ZkX (X:Facts G K) {M:Model} (f:Nat) (h:Heap) (x:K.In h):∃ k,(k=Keeper.frame\/k=Keeper.machine\/k=Keeper.boundFrame)/\Looks M h (keeperOf (.ref (G.faddr f))) k :=
 keeps_K (ZgT (X.fKeep f)) h x
theorem Zkc (HC:ZaJ G C (A.units + 5) (A.depth + 1)) (R:Room A) {f:Nat} {vs:List LV} {us:List Value} {Q:LV->St->Prop} (q:C f vs Q σ) (i:Inv G P σ s.heap) (r:Zz G (Dom P σ) s.heap vs us) :
  TT G A P noF (call (.ref (G.faddr f)) us) (Res G P Q) σ s:=by
 refine wpAny_call (codeAny_mono (HC A o90 o39 R.handled P σ s f vs us Q q i r) fun r s' z=>?_)
 rcases r with e | (v | _ | _ | _) <;> first | exact z | exact z.elim
theorem ZmI (X:Facts G K) {o:LV} {x f:Nat} {v:Value} {pl:Sem Bool} {M:Value × List Value->Shared->Prop} {E:Value->Shared->Prop} (i:Inv G P σ s.heap) (hb:Zao G.T σ o x=some f) (ro:Rep G (Dom P σ) s.heap o v)
  (q:M (.ref (G.faddr f),[v]) s):wpAny (model G.prog G.w) A (getMethod v (G.nm x) pl) M E s:=by
 have kin:=i.kin X
 refine ZnP hb (fun c vs eo hb2=>?_) fun hb=>ZkR hb fun a c d fs eo hσ hd hb2=>?_
 ·subst eo
  refine ifs hb2 (fun _ hb=>nos hb) fun hf hb=>?_
  obtain ⟨a,d,m,rfl,da,dd,g,⟨es,n,gd⟩,ns,rf,ru⟩:=ro
  obtain ⟨m1,m2,m3,m4,m5,m6⟩:=X.cMeth c x f hb
  have hmn:m (G.nm x)=none:=ru _ fun y hy e=>by
   have:=G.nmInj _ _ e
   subst this
   exact hf (List.contains_iff_mem.mpr hy)
  refine method_fn kin (Zdr g gd) (X.cGet c) (X.cAtt c) m1 m2 ?_ q
  show (lookIn _ _).map _=_
  rw [Zae ns gd,hmn]; rfl
 ·subst eo
  have ro:v=.ref a:=ro
  subst ro
  have g:=i.tr _ _ hσ
  obtain ⟨m,es,n,gd,hz,ns,h1,h2⟩:=i.tr _ _ hd
  refine Zf3 hb2 (fun _ _ h=>nos h) fun hg hb=>?_
  obtain ⟨m1,m2,m3,m4,m5,m6⟩:=X.cMeth c x f hb
  have hmn:m (G.nm x)=none:=h2 _ fun y hy e=>by
   have:=G.nmInj _ _ e
   subst this
   rw [hg] at hy; exact nob hy
  refine method_fn kin (Zdr g gd) (X.cGet c) (X.cAtt c) m1 m2 ?_ q
  show (lookIn _ _).map _=_
  rw [Zae ns gd,hmn]; rfl
theorem EO.meth (X:Facts G K) (R:Room A) (HC:ZaJ G C (A.units + 5) (A.depth + 1)) {o:LE} {x:Nat} {n:Str} {les:List LE} {o':Expr} {es:List Expr} {apos pos:Pos} (hn:G.nm x=n) (hns:ZaV es=true) (hlen:es.length < 30) (hline:(apos.endLine == pos.line)=true) (hsup:ZbV o'=true)
  (h1:EO G A C sc o o') (h2:EsO G A C sc les es):EO G A C sc (.meth o x les) (.Call (.Attribute o' n apos) es [] pos):=fun P σ s env ρ Q hs i E q=>by
 subst hn
 rw [arm_eval_Call,Za2 hsup]
 refine TT.bind (TT.mono (h1 P σ s env ρ _ hs i E q) fun v σ₁ s₁ i₁ e₁ _ hQ0=>Ze hQ0 fun a ra q₁=>?_)
 refine Ze (Zi.mp q₁) fun f hf q₂=>?_
 refine TT.at (Zc7 hns hlen hline fun pl=>ZmI X i₁ hf ra ?_)
 refine Zmh (Pk:=K.In) hns (ZkX X f) (TT.mono (h2 P σ₁ s₁ env ρ _ pos hs i₁ (E.evo i e₁) q₂) fun vs σ₂ s₂ i₂ e₂ _ hQ0=>Zdk hQ0 fun lvs rs ln q₃=>⟨i₂.kin X,?_⟩)
 exact Zkc HC R q₃ i₂ (.cons (ra.evo e₂ fun _ z=>z.elim) rs)
theorem Zmb (X:Facts G K) (R:Room A) (HC:ZaJ G C (A.units + 5) (A.depth + 1)) {fv:LV} {u:Value} {vs:List LV} {us:List Value} {Q:LV->St->Prop} (q:Zeb G.T C fv vs Q σ) (i:Inv G P σ s.heap) (ru:Rep G (Dom P σ) s.heap fv u) (r:Zz G (Dom P σ) s.heap vs us) :
  TT G A P noF (call u us) (Res G P Q) σ s:=by
 cases fv with
 | fn f =>
  have ru:u=_:=ru
  subst ru
  exact Zkc HC R q i r
 | bm f self =>
  obtain ⟨a,x,rfl,da,g,rx⟩:=ru
  refine wpAny_call (method_call g (codeAny_mono (HC A (by exact o90) (by exact o39) R.handled P σ s f _ _ Q q i (.cons rx r)) fun r s' z=>?_))
  rcases r with e | (v | _ | _ | _) <;> first | exact z | exact z.elim
 | cls c =>
  have ru:u=_:=ru
  subst ru
  obtain ⟨f,hf,q⟩:=Zi.mp q
  obtain ⟨m1,m2,m3,m4⟩:=X.cInit c f hf
  have kin:=i.kin X
  obtain ⟨hh,g,dr,t,os⟩:=s
  refine wpAny_call (make_core (makes_of kin m3) (looks_findIn kin m1) (fun self=>bind_fn kin self m2) (.inl rfl) ?_)
  have d0:hh.get? hh.objs.size=none:=Zau
  have i1:Inv G P (upd σ hh.objs.size (some (.ns []))) (hh.push emptyDict):=i.track d0 (Zg _) ⟨fun _=>none,#[],_,Heap.get?_push_size _ rfl,Nat.le_refl _,⟨_,_,_,Heap.get?_push_size _ rfl,rfl,fun e he=>by simp at he,fun _=>rfl⟩,(fun x v e=>by cases e),fun _ _=>rfl⟩
  have d1:(hh.push emptyDict).get? (hh.objs.size + 1)=none:=by
   have:=@Zau (hh.push emptyDict)
   rwa [Heap.size_push] at this
  have sz:(hh.push emptyDict).objs.size=hh.objs.size + 1:=Heap.size_push ..
  have i2:Inv G P (upd (upd σ hh.objs.size (some (.ns []))) (hh.objs.size + 1) (some (.inst c hh.objs.size))) ((hh.push emptyDict).push (instObj (G.caddr c) hh.objs.size)):=i1.track d1 (Zg _) (by
   show _=_
   rw [<- sz]
   exact Heap.get?_push_size _ rfl)
  have e2:Evo noF σ hh (upd (upd σ hh.objs.size (some (.ns []))) (hh.objs.size + 1) (some (.inst c hh.objs.size))) ((hh.push emptyDict).push (instObj (G.caddr c) hh.objs.size)):=(Evo.track d0 (Zg _)).trans (Evo.track d1 (Zg _))
  have free1:σ (hh.objs.size + 1)=none:=(i.free_dom (Zbz (Nat.le_succ _))).1
  have q2:=q (hh.objs.size + 1) hh.objs.size free1 i.size_free (Nat.succ_ne_self _)
  refine codeAny_mono (HC (A.under (.builtin "type.__call__" ⟨.ref (G.caddr c)::us,[]⟩)) (show A.units + 1<=A.units + 5 by exact Zv6) (show A.depth + 1<=A.depth + 1 by exact Zv7) R.handled P _ ⟨(hh.push emptyDict).push (instObj (G.caddr c) hh.objs.size),g,dr,t,os⟩ f _ (.ref (hh.objs.size + 1)::us) _ q2 i2 (.cons (show Rep G _ _ (.ref _) _ from rfl) (r.evo e2 fun _ z=>z.elim))) fun r s' z=>?_
  rcases r with e | (v | _ | _ | _) <;> first | exact z.elim | skip
  obtain ⟨σ',i',e',k',lv,rv,rfl,qq⟩:=z
  cases rv.none_inv
  exact ⟨rfl,σ',i',e2.trans e',k',.ref (hh.objs.size + 1),rfl,qq⟩
 | _=>exact False.elim q
theorem ZmD (X:Facts G K) {fv:LV} {u:Value} {vs:List LV} {Q:LV->St->Prop} {σ₁:St} (q:Zeb G.T C fv vs Q σ₁) (D:Addr->Prop) (h:Heap) (x:K.In h/\Rep G D h fv u):∃ k,(k=Keeper.frame\/k=Keeper.machine\/k=Keeper.boundFrame)/\Looks (model G.prog G.w) h (keeperOf u) k:=by
 obtain ⟨kin,ru⟩:=x
 cases fv with
 | fn f =>
  have ru:u=_:=ru
  subst ru
  exact ZkX X _ h kin
 | bm f self =>
  obtain ⟨a,x,rfl,da,g,rx⟩:=ru
  exact keeps_M (X.fKeep _) h ⟨g,kin⟩
 | cls c =>
  have ru:u=_:=ru
  subst ru
  obtain ⟨f,hf,q⟩:=Zi.mp q
  exact keeps_K (X.cInit _ f hf).2.2.2 h kin
 | _=>exact False.elim q
noncomputable def Zh1:Expr->Bool
 | .Attribute ..=>false
 | _=>true
theorem Zef {f:Expr} {es:List Expr} {pos:Pos} {env:PySem.Env} (h:Zh1 f=true):eval (.Call f es [] pos) env=(do callWith pos (<- eval f env) [] (backTo pos (starEach es env)) []):=by
 cases f <;> first | rfl | cases h
theorem EO.call (X:Facts G K) (R:Room A) (HC:ZaJ G C (A.units + 5) (A.depth + 1)) {f:LE} {les:List LE} {f':Expr} {es:List Expr} {pos:Pos} (hns:ZaV es=true) (hna:Zh1 f'=true)
  (h1:EO G A C sc f f') (h2:EsO G A C sc les es):EO G A C sc (.call f les) (.Call f' es [] pos):=fun P σ s env ρ Q hs i E q=>by
 rw [Zef hna]
 refine TT.bind (TT.mono (h1 P σ s env ρ _ hs i E q) fun u σ₁ s₁ i₁ e₁ _ hQ0=>Ze hQ0 fun fv ru q₁=>?_)
 refine Zmh (Pk:=fun h=>K.In h/\∃ vs σ₂ D,Zeb G.T C fv vs Q σ₂/\Rep G D h fv u) hns (fun h ⟨kin,vs,σ₂,D,q₂,r₂⟩=>ZmD X q₂ D h ⟨kin,r₂⟩)
  (TT.mono (h2 P σ₁ s₁ env ρ _ pos hs i₁ (E.evo i e₁) q₁) fun vs σ₂ s₂ i₂ e₂ _ hQ0=>Zdk hQ0 fun lvs rs ln q₃=>⟨⟨i₂.kin X,lvs,σ₂,_,q₃,ru.evo e₂ fun _ z=>z.elim⟩,?_⟩)
 exact Zmb X R HC q₃ i₂ (ru.evo e₂ fun _ z=>z.elim) rs
theorem Zhi {D:Addr->Prop} {h:Heap} {m:Str->Option Value} {fs:Env} (hf:∀ x v,Zo fs x=some v->∃ u,m (G.nm x)=some u/\Rep G D h v u):∀ {xs:List Nat} {vs:List LV},ZoW xs fs=some vs->Zl2 G D h xs vs m
 | [],vs,e=>by cases e; rfl
 | x::xs,vs,e=>by
  refine Ze (Option.bind_eq_some_iff.mp e) fun v hv e=>?_
  refine Ze (Option.map_eq_some_iff.mp e) fun ws hw eQ0_2=>?_; subst eQ0_2
  refine Ze (hf x v hv) fun u hu ru=>?_
  exact ⟨x,xs,rfl,⟨u,hu,ru⟩,Zhi hf hw⟩
theorem ZiF {x:Nat}:∀ {fs:Env},(Zo fs x).isSome=true->x ∈ fs.map (·.1)
 | [],h=>nob h
 | (y,v)::r,h=>by
  rw [ZkI] at h
  split at h
  ·rename_i e; subst e; simp
  ·simp [ZiF h]
theorem EO.frz {e:LE} {e':Expr} (h:EO G A C sc e e'):EO G A C sc (.frz e) e':=fun P σ s env ρ Q hs i E q=>by
 refine wpAny_mono (h P σ s env ρ _ hs i E q) (fun v s₁ ⟨σ₁,i₁,e₁,k₁,lv,r,q₁⟩=>?_) fun _ _ z=>z
 unfold Zgb at q₁
 dsimp only at q₁
 split at q₁
 ·rename_i a
  have r:v=.ref a:=r
  subst r
  split at q₁
  ·rename_i vs hσ
   obtain ⟨ws,n,g,rs⟩:=i₁.tr _ _ hσ
   refine ⟨upd σ₁ a none,i₁.loose,e₁.trans Evo.loose,k₁,.lst vs,Rep.lst_mk ⟨Zb ..,?_⟩ g (rs.mono Dom.loose),q₁⟩
   exact fun p=>by have:=(i₁.dis a p).1; rw [hσ] at this; exact ns2 this
  ·rename_i c d hσ
   split at q₁
   ·rename_i fs hd
    obtain ⟨hnames,q₁⟩:=q₁
    obtain ⟨vs,hvs,q₂⟩:=Zi.mp q₁
    have g:=i₁.tr _ _ hσ
    obtain ⟨m,es,n,gd,hz,ns,h1,h2⟩:=i₁.tr _ _ hd
    have na:¬ P a:=fun p=>by have:=(i₁.dis a p).1; rw [hσ] at this; exact ns2 this
    have nd:¬ P d:=fun p=>by have:=(i₁.dis d p).1; rw [hd] at this; exact ns2 this
    have dom:∀ b o,s₁.heap.get? b=some o->Dom P σ₁ b->Dom P (upd (upd σ₁ a none) d none) b/\s₁.heap.get? b=some o:=fun b o e d'=>Dom.loose b o e (Dom.loose b o e d').1
    refine ⟨upd (upd σ₁ a none) d none,i₁.loose.loose,(e₁.trans Evo.loose).trans Evo.loose,k₁,.rcd c vs,?_,q₂⟩
    refine ⟨a,d,m,rfl,⟨?_,na⟩,⟨Zb ..,nd⟩,g,⟨es,n,gd⟩,ns,(Zhi h1 hvs).mono dom,fun y hy=>h2 y fun x hx=>hy x (by rw [<- hnames]; exact ZiF hx)⟩
    by_cases e:a=d
    ·rw [e,Zb]
    ·rw [Zc _ _ e,Zb]
   ·exact False.elim q₁
  ·exact False.elim q₁
 ·exact False.elim q₁
theorem EO.repR {l n:LE} {l' n':Expr} {pos:Pos} (h1:EO G A C sc l l') (h2:EO G A C sc n n'):EO G A C sc (.repR l n) (.BinOp l' .Mult n' pos):=fun P σ s env ρ Q hs i E q=>by
 rw [arm_eval_BinOp]
 refine TT.bind (TT.mono (h1 P σ s env ρ _ hs i E q) fun x σ₁ s₁ i₁ e₁ _ hQ0=>Ze hQ0 fun a ra q₁=>?_)
 refine TT.bind (TT.holding (TT.mono (h2 P σ₁ s₁ env ρ _ hs i₁ (E.evo i e₁) q₁) fun y σ₂ s₂ i₂ e₂ _ hQ0=>Ze hQ0 fun b rb q₂=>?_))
 have ra:=ra.evo e₂ fun _ z=>z.elim
 refine TT.at (TT.operate ?_)
 obtain ⟨z,k,rfl,rfl,h0,h1,q₃⟩:∃ z k,a=.lst [z]/\b=.int k/\0<=k/\k<=1000000/\ZeV true Q (List.replicate k.toNat z) σ₂:=by
  refine Ze (Zi.mp q₂) fun xs e1 q₂=>?_
  refine Ze (Zi.mp q₂) fun z e2 q₂=>?_
  refine Ze (Zi.mp q₂) fun k e3 q₂=>?_
  exact ⟨z,k,(ZdB e1).trans (congrArg LV.lst (Za4 e2)),ZP e3,q₂⟩
 refine rb.intE fun t=>?_
 refine ra.lstE fun p ws m d g rs=>?_
 obtain ⟨w,ws',e,rw',rn⟩:=rs.uncons
 cases rn.nil_eq
 have ews:ws=#[w]:=by
  have:=congrArg List.toArray e
  simpa using this
 subst ews
 have g2:s₂.heap.get? p=some { cls:=.type "list",dict:=none,data:=.seq #[w] m,slots:=#[] }:=g
 refine wpAny_binaryOp_repeat_ref (T:="list") (U:="int") (by decide) ⟨_,g,rfl⟩ (fun s'=>typeIs_int s' k t) noFill_list_mul PySem.F.fills_int_mul PySem.F.slot_int_rmul repeat_list PySem.F.slot_int_index.lookup
  (call_meets PySem.F.slot_int_rmul (typeIs_int s₂ k t) PySem.F.entry_int_rmul (PySem.F.args_int_rmul_2 _ _) (lm_int_rmul_list_any k t p #[w] m none #[])
   ⟨g2,rfl,⟨_,g,rfl⟩,call_meets PySem.F.slot_list_mul ⟨_,g,rfl⟩ PySem.F.entry_list_mul (PySem.F.args_list_mul_2 _ _)
    (lm_list_mul_any p #[w] m none #[] k t (by simp [Builtin.List.listFitsIndex]; omega) (by simp; omega) (by simp [Builtin.List.listTooLong,sizeLine]; omega))
    ⟨g2,?_⟩⟩)
 have:List.foldl (fun x1 x2=>x1++x2) #[] (List.replicate (if (#[w]:Array Value).isEmpty=true then 0 else k.toNat) #[w])=(List.replicate k.toNat w).toArray:=by
  rw [listMul_foldl_if]
  congr 1
  exact lm_rep_flat_one w _
 rw [this]
 exact ZiS i₂ (by simpa using Zz.replicate rw' k.toNat) q₃
end
noncomputable def Zb4 (G:Glo) (P:Addr->Prop) (σ:St) (h:Heap) (a:Addr) (vs:List LV):Prop:=∃ ws n,h.get? a=some (Zdj ws n)/\Zz G (Dom P σ) h vs ws.toList
theorem Zb4.mono {G:Glo} {P P':Addr->Prop} {σ σ':St} {h h':Heap} {a:Addr} {vs:List LV} (x:Zb4 G P σ h a vs) (ka:∀ o,h.get? a=some o->h'.get? a=some o) (kd:∀ b o,h.get? b=some o->Dom P σ b->Dom P' σ' b/\h'.get? b=some o):Zb4 G P' σ' h' a vs:=by
 refine Zik x fun ws n g r=>?_
 exact ⟨ws,n,ka _ g,r.mono kd⟩
theorem EnvRel.sub {G:Glo} {P:Addr->Prop} {σ:St} {h:Heap} {env:PySem.Env} {ρ ρ':Env} (E:EnvRel G P σ h env ρ) (k:∀ x v,Zo ρ' x=some v->Zo ρ x=some v):EnvRel G P σ h env ρ' where
 kind:=E.kind
 glob:=E.glob
 bns:=E.bns
 pL:=E.pL
 pC:=E.pC
 apart:=E.apart
 ns:=by
  refine Ze E.ns fun m hm q=>?_
  exact ⟨m,hm,fun x v e kk=>q x v (k x v e) kk⟩
 cell:=fun x kk=>by
  refine ZaM (E.cell x kk) fun c o hc hi q=>?_
  exact ⟨c,o,hc,hi,fun v e=>q v (k x v e)⟩
theorem EnvRel.priv {G:Glo} {P:Addr->Prop} {σ:St} {h h':Heap} {a:Addr} {env:PySem.Env} {ρ:Env} (E:EnvRel G P σ h env ρ) (p:P a) (hs:Heap.SameBut a h h') (hne:∀ b,(b=env.locals\/∃ n,env.cells.lookup n=some b)->b ≠ a):EnvRel G P σ h' env ρ :=
 E.conv (N:=noF) E.pL (fun n c q=>(E.pC n c q).1) (fun b o g q=>(hs.2 b (hne b q)).trans g) fun b o g d=>⟨d,(hs.2 b fun e=>d.2 (e ▸ p)).trans g⟩
theorem Zd9:∀ {xs:List Nat} {vs:List LV} {ρ ρ₁:Env},Zay xs vs ρ=some ρ₁->∀ y,y ∉ xs->Zo ρ₁ y=Zo ρ y
 | [],[],ρ,ρ₁,h,y,_=>by cases h; rfl
 | [],_::_,_,_,h,_,_=>nos h
 | _::_,[],_,_,h,_,_=>nos h
 | x::xs,v::vs,ρ,ρ₁,h,y,hy=>by
  rw [Zd9 (xs:=xs) (vs:=vs) h y fun q=>hy (List.mem_cons_of_mem _ q),ZM,if_neg fun e=>hy (by rw [e]; exact List.mem_cons_self)]
theorem Zgl {t:Tg} {v:LV} {ρ ρ₁:Env} (h:Z0 t v ρ=some ρ₁) (y:Nat) (hy:y ∉ ZW t):Zo ρ₁ y=Zo ρ y:=by
 cases t with
 | nm x=>cases h; rw [ZM,if_neg fun e=>hy (by rw [e]; exact List.mem_cons_self)]
 | tp xs =>
  refine Ze (Zfs h) fun vs _ hb=>?_
  exact Zd9 hb y hy
section
variable {G:Glo} {K:Frag} {A:Around} {C:Cal} {sc:Scope} {P₀ P F:Addr->Prop} {σ:St} {s:Shared} {env:PySem.Env} {ρ:Env}
noncomputable def ZX (P₀:Addr->Prop) (I:Addr):Addr->Prop:=fun b=>P₀ b\/b=I
noncomputable def Zl0 (G:Glo) (A:Around) (P F:Addr->Prop) (env:PySem.Env) (a:Addr) (mid:Sem Unit) (B:Nat) (W:Env->Prop) (body:Env->(List LV->St->Prop)->St->Prop):Prop :=
 ∀ (σ:St) (s:Shared) (ρ:Env) (vs:List LV) (Q:List LV->St->Prop),W ρ->Inv G P σ s.heap->EnvRel G P σ s.heap env ρ->Zb4 G P σ s.heap a vs->vs.length + B<=1000000->body ρ Q σ->
  TT G A P F mid (fun _ σ' s'=>∃ ys,ys.length<=B/\Zb4 G P σ' s'.heap a (vs++ys)/\EnvRel G P σ' s'.heap env ρ/\Q ys σ') σ s
noncomputable def Zfr (G:Glo) (P₀ F:Addr->Prop) (I a:Addr) (env:PySem.Env) (ρc:Env) (pre:List LV) (M:Nat) (Q:List LV->St->Prop) (σ₀:St) (s₀:Shared):Result->Shared->Prop:=fun r s'=>match r with
 | .ok .next=>∃ σ' us,us.length<=M/\Inv G P₀ σ' s'.heap/\EnvRel G P₀ σ' s'.heap env ρc/\Zb4 G P₀ σ' s'.heap a (pre++us)/\Evo (ZX F I) σ₀ s₀.heap σ' s'.heap/\ZaF s₀ s'/\Q us σ'
 | _=>False
theorem Zgv {elt:Expr} {gens:List Comprehension} {scope:Scope} {cpos:Pos} {depth:Nat} {I a:Addr} {mid:Sem Unit} {te:Expr} {t:Tg} {p:Pos} {ρc:Env} {B:Nat} {W:Env->Prop} {body:Env->(List LV->St->Prop)->St->Prop} {Q:List LV->St->Prop}
  (hEq:compTurn (.ListComp elt gens scope cpos) depth (.ref I) (.ref a) env=(standAt p >>= fun _=>pyNext (.ref I) >>= fun r=>match r with
   | none=>pure (.done .next)
   | some v=>letOwnedTupleGo te (.ref I) v >>= fun _=>assign te env v >>= fun _=>mid >>= fun _=>again (.compLoop (.ListComp elt gens scope cpos) depth (.ref I) (.ref a) env)))
  (R:Room A) (ht:Zhs G t te) (hc:∀ x ∈ ZW t,Zgg G (fun b=>b=env.locals) env x) (hF:F env.locals) (hFP:∀ b,F b->P₀ b) (hI:¬ P₀ I) (hPa:P₀ a) (hL:P₀ env.locals) (hC:∀ n c,env.cells.lookup n=some c->P₀ c) (hal:a ≠ env.locals)
  (hsub:∀ x ∈ ZW t,Zo ρc x=none) (hW:∀ v ρx,Z0 t v ρc=some ρx->W ρx) (hbody:Zl0 G A (ZX P₀ I) F env a mid B W body) (s₀:Shared) (σ₀:St) (pre:List LV) (M:Nat) (hM:pre.length + M<=1000000)
  (xs vs:List LV) (σ:St) (s:Shared) (i:Inv G (ZX P₀ I) σ s.heap) (E:EnvRel G (ZX P₀ I) σ s.heap env ρc) (acc:Zb4 G (ZX P₀ I) σ s.heap a (pre++vs)) (it:ZaQ G (Dom (ZX P₀ I) σ) s.heap I xs) (hl:vs.length + B * xs.length<=M)
  (ev:Evo (ZX F I) σ₀ s₀.heap σ s.heap) (ks:ZaF s₀ s) (q:ZaH (fun x K σ=>ZC (Z0 t x ρc) fun ρx=>body ρx K σ) xs vs Q σ) :
  codeAny (model G.prog G.w) A (.compLoop (.ListComp elt gens scope cpos) depth (.ref I) (.ref a) env) (Zfr G P₀ F I a env ρc pre M Q σ₀ s₀) s:=by
 refine codeAny_loop rfl (fun n s=>∃ (xs vs:List LV) (σ:St),n=xs.length/\Inv G (ZX P₀ I) σ s.heap/\EnvRel G (ZX P₀ I) σ s.heap env ρc/\Zb4 G (ZX P₀ I) σ s.heap a (pre++vs)/\ZaQ G (Dom (ZX P₀ I) σ) s.heap I xs/\vs.length + B * xs.length<=M/\
   Evo (ZX F I) σ₀ s₀.heap σ s.heap/\ZaF s₀ s/\ZaH (fun x K σ=>ZC (Z0 t x ρc) fun ρx=>body ρx K σ) xs vs Q σ) (fun n s hI'=>?_) xs.length ⟨xs,vs,σ,rfl,i,E,acc,it,hl,ev,ks,q⟩
 obtain ⟨xs,vs,σ,rfl,i,E,acc,it,hl,ev,ks,q⟩:=hI'
 show wpAny _ A ((compTurn (.ListComp elt gens scope cpos) depth (.ref I) (.ref a) env).onRaise (fun x=>do noteFrame x env; theTreesLotGoes x)) _ _ s
 refine wpAny_noted ?_
 rw [hEq]
 have pI:ZX P₀ I I:=.inr rfl
 have hIl:env.locals ≠ I:=fun e=>hI (e ▸ hL)
 have hIa:a ≠ I:=fun e=>hI (e ▸ hPa)
 have hIc:∀ b,(b=env.locals\/∃ n,env.cells.lookup n=some b)->b ≠ I:=fun b hb e=>by
  subst e
  rcases hb with rfl | ⟨n,hb⟩
  ·exact hI hL
  ·exact hI (hC n b hb)
 refine wpAny_bind (wpAny_standAt (wpAny_bind ?_))
 cases xs with
 | nil =>
  refine ZeI R it fun h' hs=>wpAny_pure ?_
  have conv:∀ b o,s.heap.get? b=some o->¬ b=I->h'.get? b=some o:=fun b o g n=>hs b o n g
  have dom:∀ b o,s.heap.get? b=some o->Dom (ZX P₀ I) σ b->Dom P₀ σ b/\h'.get? b=some o:=fun b o g d=>⟨⟨d.1,fun z=>d.2 (.inl z)⟩,conv b o g fun e=>d.2 (.inr e)⟩
  refine ⟨σ,vs,Nat.le_trans (Nat.le_add_right _ _) hl,i.conv (N:=fun b=>b=I) (fun b e=>.inr e) conv (fun b pb=>⟨(i.dis b (.inl pb)).1,(i.dis b (.inl pb)).2.1,?_⟩) (fun b o g n z=>n (.inl z)),?_,acc.mono (fun o g=>conv _ _ g hIa) dom,ev.trans (fun b o g n nf=>⟨conv b o g fun e=>nf (.inr e),n⟩),ks,q⟩
  ·refine ZU ((i.dis b (.inl pb)).2.2) fun o ho=>?_
   exact ⟨o,conv b o ho fun e=>hI (e ▸ pb)⟩
  ·exact E.conv (N:=noF) hL hC (fun b o g hb=>conv b o g (hIc b hb)) dom
 | cons x xs =>
  refine Ze (Zi.mp q) fun ρx hρ q=>?_
  rw [List.length_cons,Nat.mul_succ] at hl
  refine Zhg pI it fun u h' tk ru it' hs=>?_
  have t':∃ o,h'.get? I=some o:=by
   rcases it' with ⟨l,j,ws,n,⟨o,ho,_⟩,_⟩ | ⟨l,j,ws,n,⟨o,ho,_⟩,_⟩ | ⟨x,left,hi,e⟩
   ·exact ⟨o,ho⟩
   ·exact ⟨o,ho⟩
   ·exact ⟨_,hi⟩
  have i':=i.priv pI hs t'
  have E':=E.priv pI hs hIc
  have acc':Zb4 G (ZX P₀ I) σ h' a (pre++vs):=acc.mono (fun o g=>(hs.2 a hIa).trans g) (Dom.priv pI hs)
  have ev':Evo (ZX F I) σ₀ s₀.heap σ h':=ev.trans (Evo.priv hs (.inr rfl))
  refine wpAny_bind (ZgW (s:={ s with heap:=h',toks:=tk }) it' ?_)
  refine wpAny_bind (wpAny_mono (ZcZ (F:=fun b=>b=env.locals) (Ψ:=fun _ σ' s'=>σ'=σ/\EnvRel G (ZX P₀ I) σ s'.heap env ρx) R ht hc hρ i' E' rfl ru fun h₂ tk₂ E₂ i₂ kd=>⟨rfl,E₂⟩) (fun _ s₂ hx=>?_) fun _ _ z=>z.elim)
  refine Zq3 hx fun σ₂ i₂ e₂ k₂ eQ0_4 E₂=>?_; subst eQ0_4
  have frame:∀ b o,h'.get? b=some o->σ₂ b=none->b ≠ env.locals->s₂.heap.get? b=some o:=fun b o g n ne=>(e₂ b o g n ne).1
  have dom₂:∀ b o,h'.get? b=some o->Dom (ZX P₀ I) σ₂ b->Dom (ZX P₀ I) σ₂ b/\s₂.heap.get? b=some o:=fun b o g d=>⟨d,frame b o g d.1 fun e=>d.2 (.inl (e ▸ hL))⟩
  have acc₂:Zb4 G (ZX P₀ I) σ₂ s₂.heap a (pre++vs):=acc'.mono (fun o g=>frame a o g (i'.dis a (.inl hPa)).1 hal) dom₂
  have it₂:ZaQ G (Dom (ZX P₀ I) σ₂) s₂.heap I xs:=it'.mono (fun o g=>frame I o g (i'.dis I pI).1 hIl.symm) dom₂
  have ev₂:Evo (ZX F I) σ₀ s₀.heap σ₂ s₂.heap:=ev'.trans (e₂.weaken fun b e=>.inl (e ▸ hF))
  refine wpAny_bind (wpAny_mono (hbody σ₂ s₂ ρx (pre++vs) _ (hW _ _ hρ) i₂ E₂ acc₂ (by rw [List.length_append]; exact Zv8 hM hl) q) (fun _ s₃ hx=>?_) fun _ _ z=>z.elim)
  refine Zgf hx fun σ₃ i₃ e₃ k₃ hR0=>?_; refine Zgf hR0 fun ys hy acc₃ E₃ q₃=>?_
  refine wpAny_pure ⟨rfl,xs.length,Nat.lt_succ_self _,xs,vs++ys,σ₃,rfl,i₃,E₃.sub ?_,by rw [<- List.append_assoc]; exact acc₃,it₂.mono ?_ ?_,?_,ev₂.trans (e₃.weaken fun b f=>.inl f),ks.trans (ZaF.trans ⟨rfl,rfl⟩ (k₂.trans k₃)),q₃⟩
  ·intro y v hy'
   rw [Zgl hρ y fun hm=>by rw [hsub y hm] at hy'; cases hy']
   exact hy'
  ·intro o g
   exact (e₃ I o g (i₂.dis I pI).1 fun f=>hI (hFP I f)).1
  ·intro b o g d
   exact ⟨⟨(e₃ b o g d.1 fun f=>d.2 (.inl (hFP b f))).2,d.2⟩,(e₃ b o g d.1 fun f=>d.2 (.inl (hFP b f))).1⟩
  ·rw [List.length_append]; exact Zv9 hl hy
end
noncomputable def Zju (elt:Expr) (acc:Value) (env:PySem.Env):Sem Unit:=do let _ <- call (.builtin "list.append") [acc,<- eval elt env]
noncomputable def Zjg (ifs:List Expr) (env:PySem.Env):Sem Bool:=forIn ifs true fun c r=>if r=true then do let ok <- isTrue c env (eval c env); pure (ForInStep.yield ok) else pure (ForInStep.yield r)
theorem Znl (elt target iter:Expr) (ifs:List Expr) (scope:Scope) (pos:Pos) (it acc:Value) (env:PySem.Env) :
  compTurn (.ListComp elt [⟨target,iter,ifs,0⟩] scope pos) 0 it acc env=(standAt iter.pos >>= fun _=>pyNext it >>= fun r=>match r with
   | none=>pure (.done .next)
   | some v=>letOwnedTupleGo target it v >>= fun _=>assign target env v >>= fun _=>(Zjg ifs env >>= fun ok=>if ok=true then Zju elt acc env else pure ()) >>= fun _=>again (.compLoop (.ListComp elt [⟨target,iter,ifs,0⟩] scope pos) 0 it acc env)):=by
 rw [compTurn_list]
 congr 1; funext _
 congr 1; funext r
 cases r with
 | none=>rfl
 | some v =>
  dsimp only
  congr 1; funext _
  congr 1; funext _
  refine Eq.trans ?_ (bind_assoc _ _ _).symm
  congr 1; funext ok
  cases ok <;> rfl
noncomputable def ZiI (elt:Expr) (gens:List Comprehension) (scope:Scope) (cpos:Pos) (it2:Expr) (acc:Value) (env:PySem.Env):Sem Unit:=do
 let x <- eval it2 env
 standAt it2.pos
 let x <- foldedSetIterable it2 env x
 let _ <- runOwn (.compStart (.ListComp elt gens scope cpos) 1 (<- holding [x] (pyIter x)) acc env) env
theorem ZlK (elt t1 it1 t2 it2:Expr) (scope:Scope) (pos:Pos) (it acc:Value) (env:PySem.Env) :
  compTurn (.ListComp elt [⟨t1,it1,[],0⟩,⟨t2,it2,[],0⟩] scope pos) 0 it acc env=(standAt it1.pos >>= fun _=>pyNext it >>= fun r=>match r with
   | none=>pure (.done .next)
   | some v=>letOwnedTupleGo t1 it v >>= fun _=>assign t1 env v >>= fun _=>ZiI elt [⟨t1,it1,[],0⟩,⟨t2,it2,[],0⟩] scope pos it2 acc env >>= fun _=>again (.compLoop (.ListComp elt [⟨t1,it1,[],0⟩,⟨t2,it2,[],0⟩] scope pos) 0 it acc env)):=by
 unfold ZiI
 simp only [bind_assoc]
 rfl
theorem ZlL (elt t1 it1 t2 it2:Expr) (scope:Scope) (pos:Pos) (it acc:Value) (env:PySem.Env) :
  compTurn (.ListComp elt [⟨t1,it1,[],0⟩,⟨t2,it2,[],0⟩] scope pos) 1 it acc env=(standAt it2.pos >>= fun _=>pyNext it >>= fun r=>match r with
   | none=>pure (.done .next)
   | some v=>letOwnedTupleGo t2 it v >>= fun _=>assign t2 env v >>= fun _=>Zju elt acc env >>= fun _=>again (.compLoop (.ListComp elt [⟨t1,it1,[],0⟩,⟨t2,it2,[],0⟩] scope pos) 1 it acc env)):=by
 rfl
section
variable {G:Glo} {K:Frag} {A:Around} {C:Cal} {sc:Scope} {P₀ P F:Addr->Prop} {σ:St} {s:Shared} {env:PySem.Env} {ρ:Env}
theorem Evo.acc {h h':Heap} {σ':St} {a:Addr} {vs:List LV} (acc:Zb4 G P σ h a vs) (i:Inv G P σ h) (p:P a) (e:Evo noF σ h σ' h'):Zb4 G P σ' h' a vs :=
 acc.mono (fun o g=>(e a o g (i.dis a p).1 fun z=>z).1) fun b o g d=>⟨⟨(e b o g d.1 fun z=>z).2,d.2⟩,(e b o g d.1 fun z=>z).1⟩
theorem Zkt {elt:LE} {elt':Expr} {a:Addr} (he:EO G A C sc elt elt') (hs:env.scope=sc) (pa:P a) (hfa:F a) (hne:∀ b,(b=env.locals\/∃ n,env.cells.lookup n=some b)->b ≠ a)
  {vs:List LV} {Q:List LV->St->Prop} (i:Inv G P σ s.heap) (E:EnvRel G P σ s.heap env ρ) (acc:Zb4 G P σ s.heap a vs) (hl:vs.length + 1<=1000000) (q:wpE G.T C elt ρ (fun u σ₁=>Q [u] σ₁) σ) :
  TT G A P F (Zju elt' (.ref a) env) (fun _ σ' s'=>∃ ys,ys.length<=1/\Zb4 G P σ' s'.heap a (vs++ys)/\EnvRel G P σ' s'.heap env ρ/\Q ys σ') σ s:=by
 refine TT.bind (TT.weaken (TT.mono (he P σ s env ρ _ hs i E q) fun v σ₁ s₁ i₁ e₁ _ hQ0=>Ze hQ0 fun u ru q₁=>?_) fun _ z=>z.elim)
 have acc₁:=Evo.acc acc i pa e₁
 refine Zik acc₁ fun ws n g r=>?_
 have len:=r.length
 rw [Array.length_toList] at len
 refine wpAny_bind (append_at g (fun h' hs' ho=>?_) (by rw [sizeLine_eq]; exact Zwa hl len))
 refine wpAny_pure ⟨σ₁,i₁.priv pa hs' ⟨_,ho⟩,Evo.priv hs' hfa,⟨rfl,rfl⟩,[u],Nat.le_refl _,⟨_,_,ho,?_⟩,(E.evo i e₁).priv pa hs' hne,q₁⟩
 rw [Array.toList_push]
 exact (r.mono (Dom.priv pa hs')).append (Zz.one (ru.mono (Dom.priv pa hs')))
noncomputable def Zdx (G:Glo) (A:Around) (C:Cal) (sc:Scope):Option LE->List Expr->Prop
 | none,ifs=>ifs=[]
 | some c,ifs=>∃ c',ifs=[c']/\BO G A C sc c c'
theorem Znk {c:Option LE} {ifs:List Expr} (hc:Zdx G A C sc c ifs) (hs:env.scope=sc) {Q:Bool->St->Prop} (i:Inv G P σ s.heap) (E:EnvRel G P σ s.heap env ρ) (q:wpC G.T C c ρ Q σ) :
  TT G A P noF (Zjg ifs env) (fun b σ' _=>Q b σ') σ s:=by
 cases c with
 | none =>
  cases hc
  exact wpAny_tests_nil (Zan (Ψ:=fun b σ' _=>Q b σ') i q)
 | some c =>
  refine Ze hc fun c' eQ0_1 hb=>?_; subst eQ0_1
  exact wpAny_tests_one (hb P σ s env ρ Q hs i E q)
theorem ZoD {W:Env->Prop} {c:Option LE} {elt:LE} {ifs:List Expr} {elt':Expr} {a:Addr} (he:EO G A C sc elt elt') (hc:Zdx G A C sc c ifs) (hs:env.scope=sc) (pa:P a) (hfa:F a) (hne:∀ b,(b=env.locals\/∃ n,env.cells.lookup n=some b)->b ≠ a) :
  Zl0 G A P F env a (Zjg ifs env >>= fun ok=>if ok=true then Zju elt' (.ref a) env else pure ()) 1 W (fun ρx K σ₂=>wpC G.T C c ρx (fun b σ₃ =>
    match b with
    | true=>wpE G.T C elt ρx (fun u σ₄=>K [u] σ₄) σ₃
    | false=>K [] σ₃) σ₂):=fun σ s ρ vs Q _ i E acc hl q=>by
 refine TT.bind (TT.weaken (TT.mono (Znk hc hs i E q) fun b σ₁ s₁ i₁ e₁ _ q₁=>?_) fun _ z=>z.elim)
 have acc₁:=Evo.acc acc i pa e₁
 have E₁:=E.evo i e₁
 cases b with
 | true =>
  rw [if_pos rfl]
  exact Zkt he hs pa hfa hne i₁ E₁ acc₁ hl q₁
 | false =>
  rw [if_neg (by decide)]
  exact TT.pure i₁ ⟨[],Nat.zero_le _,by rw [List.append_nil]; exact acc₁,E₁,q₁⟩
noncomputable def Zaj (scope sc:Scope):Scope :=
 { scope with names:=scope.names.map fun (n,k)=>if (k == .free&&sc.kind == .function&&sc.names.lookup n == some .cell) then (n,.cell) else (n,k) }
noncomputable def Zf2 (nm:Nat->Str) (scope sc:Scope) (fv:List Nat) (tgs:List Nat):Bool :=
 (scope.kind == .function)&&(sc.kind == .function)&&scope.names.all (fun x=>x.2 != .cell&&(x.2 != .local || scope.names.lookup x.1 == some .local) &&
  (x.2 != .free || (fv.any fun y=>nm y == x.1)&&(sc.names.lookup x.1 == some .cell || sc.names.lookup x.1 == some .free))) &&
 fv.all (fun y=>scope.names.lookup (nm y) == some .free)&&tgs.all fun y=>scope.names.lookup (nm y) == some .local
structure ScopeOk (nm:Nat->Str) (scope sc:Scope) (fv:List Nat) (tgs:List Nat):Prop where
 kind:scope.kind=.function
 skind:sc.kind=.function
 nocell:∀ x ∈ scope.names,x.2 ≠ .cell
 names:∀ x ∈ scope.names,x.2=.local->scope.names.lookup x.1=some .local
 free:∀ x ∈ scope.names,x.2=.free->(∃ y ∈ fv,nm y=x.1)/\(sc.names.lookup x.1=some .cell\/sc.names.lookup x.1=some .free)
 fvs:∀ y ∈ fv,scope.names.lookup (nm y)=some .free
 tgs:∀ y ∈ tgs,scope.names.lookup (nm y)=some .local
theorem ZdN {nm:Nat->Str} {scope sc:Scope} {fv tgs:List Nat} (h:Zf2 nm scope sc fv tgs=true):ScopeOk nm scope sc fv tgs:=by
 unfold Zf2 at h
 simp only [Bool.and_eq_true,beq_iff_eq,List.all_eq_true,Bool.or_eq_true,bne_iff_ne,ne_eq,List.any_eq_true] at h
 obtain ⟨⟨⟨⟨h1,h2⟩,h3⟩,h4⟩,h5⟩:=h
 refine ⟨h1,h2,fun x hx=>(h3 x hx).1.1,fun x hx hl=>?_,fun x hx hf=>?_,h4,h5⟩
 ·rcases (h3 x hx).1.2 with z | z
  ·exact absurd hl z
  ·exact z
 ·rcases (h3 x hx).2 with z | z
  ·exact absurd hf z
  ·exact z
theorem Zjp {scope sc:Scope} {fv tgs:List Nat} (S:ScopeOk G.nm scope sc fv tgs) {σ:St} {h:Heap} (hs:env.scope=sc) (E:EnvRel G P σ h env ρ):∃ cl,closureFor scope env=pure cl/\(∀ n c,cl.lookup n=some c->env.cells.lookup n=some c)/\
  ∀ x ∈ scope.names,x.2=.free->cl.lookup x.1=env.cells.lookup x.1:=by
 have key:∀ (ns:List (Str × NameKind)) (cs:List (Str × Addr)),(∀ x ∈ ns,x ∈ scope.names)->(∀ n c,cs.lookup n=some c->env.cells.lookup n=some c)->
   ∃ cl,(forIn ns cs (fun x r=>match x with
    | (name,kind)=>if (kind == NameKind.free)=true then do let a <- cellOf env name; pure (ForInStep.yield ((name,a)::r)) else pure (ForInStep.yield r)):Sem (List (Str × Addr)))=pure cl/\(∀ n c,cl.lookup n=some c->env.cells.lookup n=some c)/\
    (∀ n c,cs.lookup n=some c->cl.lookup n=some c)/\∀ x ∈ ns,x.2=.free->cl.lookup x.1=env.cells.lookup x.1:=by
  intro ns
  induction ns with
  | nil=>intro cs _ hcs; exact ⟨cs,rfl,hcs,fun _ _ e=>e,fun x hx=>by cases hx⟩
  | cons x ns ih =>
   intro cs hns hcs
   obtain ⟨n,k⟩:=x
   rw [List.forIn_cons]
   by_cases hk:k=.free
   ·subst hk
    obtain ⟨⟨y,hy,hyn⟩,hloc⟩:=S.free (n,.free) (hns _ List.mem_cons_self) rfl
    dsimp only at hyn hloc
    subst hyn
    obtain ⟨c,o,hc,hi,_⟩:=E.cell y (by unfold Env.kindOf; rw [hs]; exact hloc)
    have hcell:cellOf env (G.nm y)=pure c:=by unfold cellOf; rw [hc]
    have hcs':∀ n c',((G.nm y,c)::cs).lookup n=some c'->env.cells.lookup n=some c':=fun n c' e=>by
     rw [List.lookup_cons] at e
     split at e
     ·rename_i z; rw [eq_of_beq z]; cases e; exact hc
     ·exact hcs n c' e
    refine Zgf (ih ((G.nm y,c)::cs) (fun z hz=>hns z (List.mem_cons_of_mem _ hz)) hcs') fun cl e1 e2 e3 e4=>?_
    refine ⟨cl,?_,e2,fun n c' e=>?_,fun z hz hf=>?_⟩
    ·simp only [beq_self_eq_true,if_true,hcell,pure_bind]
     exact e1
    ·by_cases z:n=G.nm y
     ·subst z
      rw [hcs _ _ e] at hc; cases hc
      exact e3 _ _ (by simp [List.lookup_cons])
     ·exact e3 _ _ (by rw [List.lookup_cons,show (n == G.nm y)=false from by simpa using z]; exact e)
    ·rcases List.mem_cons.mp hz with rfl | hz
     ·rw [hc]; exact e3 _ _ (by simp [List.lookup_cons])
     ·exact e4 z hz hf
   ·refine Zgf (ih cs (fun z hz=>hns z (List.mem_cons_of_mem _ hz)) hcs) fun cl e1 e2 e3 e4=>?_
    refine ⟨cl,?_,e2,e3,fun z hz hf=>?_⟩
    ·have:(k == NameKind.free)=false:=by simpa using hk
     simp only [this,Bool.false_eq_true,if_false,pure_bind]
     exact e1
    ·rcases List.mem_cons.mp hz with rfl | hz
     ·exact absurd hf hk
     ·exact e4 z hz hf
 refine Zgf (key scope.names [] (fun x hx=>hx) (fun n c e=>by cases e)) fun cl e1 e2 e3 e4=>?_
 refine ⟨cl,?_,e2,e4⟩
 unfold closureFor
 rw [show (do
  let mut cs:=[]
  for (name,kind) in scope.names do
   if kind == .free then cs:=(name,<- cellOf env name)::cs
  return cs:Sem (List (Str × Addr)))=(forIn scope.names ([]:List (Str × Addr)) (fun x r=>match x with
    | (name,kind)=>if (kind == NameKind.free)=true then do let a <- cellOf env name; pure (ForInStep.yield ((name,a)::r)) else pure (ForInStep.yield r)) >>= fun r=>pure r) from rfl,e1]
 rfl
end
section
variable {G:Glo} {K:Frag} {A:Around} {C:Cal} {sc:Scope} {P₀ P F:Addr->Prop} {σ:St} {s:Shared} {env:PySem.Env} {ρ:Env}
theorem Zcc:∀ {fv:List Nat} {ρ ρc:Env},ZcO fv ρ=some ρc->∀ x v,Zo ρc x=some v->x ∈ fv/\Zo ρ x=some v
 | [],ρ,ρc,h,x,v,e=>by cases h; exact nos e
 | y::ys,ρ,ρc,h,x,v,e=>by
  refine Ze (Option.bind_eq_some_iff.mp h) fun u hu h=>?_
  refine Ze (Option.map_eq_some_iff.mp h) fun ρ' h' eQ0_2=>?_; subst eQ0_2
  rw [ZkI] at e
  split at e
  ·rename_i z; subst z; cases e; exact ⟨List.mem_cons_self,hu⟩
  ·obtain ⟨a,b⟩:=Zcc h' x v e; exact ⟨List.mem_cons_of_mem _ a,b⟩
theorem Zce {f:Str->NameKind->NameKind}:∀ {l:List (Str × NameKind)} {n:Str},(l.map fun (n,k)=>(n,f n k)).lookup n=(l.lookup n).map (f n)
 | [],n=>rfl
 | (m,k)::r,n=>by
  rw [List.map_cons]
  by_cases h:n=m
  ·subst h; simp [List.lookup_cons]
  ·have:(n == m)=false:=by simpa using h
   simp only [List.lookup_cons,this]
   exact Zce
theorem Zcm (scope sc:Scope) (n:Str):(Zaj scope sc).names.lookup n=(scope.names.lookup n).map fun k=>if (k == NameKind.free&&sc.kind == .function&&sc.names.lookup n == some .cell)=true then .cell else k:=by
 rw [<- Zce (f:=fun n k=>if (k == NameKind.free&&sc.kind == .function&&sc.names.lookup n == some .cell)=true then .cell else k)]
 congr 1
 refine List.map_congr_left fun x hx=>?_
 obtain ⟨n,k⟩:=x
 dsimp only
 split <;> rfl
theorem Zby {scope sc:Scope} {n:Str}:(Zaj scope sc).names.lookup n=some .local ↔ scope.names.lookup n=some .local:=by
 rw [Zcm]
 constructor
 ·intro h
  refine Ze (Option.map_eq_some_iff.mp h) fun k hk e=>?_
  refine ifs e (fun _ e=>?_) fun _ e=>?_
  ·cases e
  ·rw [hk,e]
 ·intro h
  rw [h]; rfl
theorem Zf0 {scope sc:Scope} {n:Str} (hc:∀ x ∈ scope.names,x.2 ≠ .cell) (h:(Zaj scope sc).names.lookup n=some .cell\/(Zaj scope sc).names.lookup n=some .free):scope.names.lookup n=some .free:=by
 rw [Zcm] at h
 have key:∀ k',(k'=.cell\/k'=.free)->(scope.names.lookup n).map (fun k=>if (k == NameKind.free&&sc.kind == .function&&sc.names.lookup n == some .cell)=true then .cell else k)=some k'->scope.names.lookup n=some .free:=fun k' hk' e=>by
  refine Ze (Option.map_eq_some_iff.mp e) fun k hk e=>?_
  by_cases z:k=.free
  ·rw [hk,z]
  ·have:(k == NameKind.free)=false:=by simpa using z
   simp only [this,Bool.false_and,Bool.false_eq_true,if_false] at e
   subst e
   rcases hk' with rfl | rfl
   ·exact absurd rfl (hc _ (mem_of_lookup hk))
   ·exact absurd rfl z
 refine Or.elim h (fun h=>?_) fun h=>?_
 ·exact key _ (.inl rfl) h
 ·exact key _ (.inr rfl) h
theorem ZaQ.there {D:Addr->Prop} {h:Heap} {I:Addr} {xs:List LV} (it:ZaQ G D h I xs):∃ o,h.get? I=some o:=by
 rcases it with ⟨l,j,ws,n,⟨o,ho,_⟩,_⟩ | ⟨l,j,ws,n,⟨o,ho,_⟩,_⟩ | ⟨x,left,hi,e⟩
 ·exact ⟨o,ho⟩
 ·exact ⟨o,ho⟩
 ·exact ⟨_,hi⟩
theorem Zme {scope:Scope} {fv tgs:List Nat} {cl:List (Str × Addr)} {ρc:Env} {L:Addr} {P':Addr->Prop} {h:Heap} (S:ScopeOk G.nm scope sc fv tgs) (hs:env.scope=sc) (E:EnvRel G P' σ h env ρ)
  (hcl:∀ n c,cl.lookup n=some c->env.cells.lookup n=some c) (hcl2:∀ x ∈ scope.names,x.2=.free->cl.lookup x.1=env.cells.lookup x.1) (hfv:ZcO fv ρ=some ρc) (pL:P' L) (hn:h.Ns L fun _=>none) (hL:∀ n c,env.cells.lookup n=some c->c ≠ L) :
  EnvRel G P' σ h (compEnvC scope cl L env) ρc where
 kind:=S.kind
 glob:=E.glob
 bns:=E.bns
 pL:=pL
 pC:=fun n c e=>⟨(E.pC n c (hcl n c e)).1,hL n c (hcl n c e)⟩
 apart:=fun n n' c e e'=>E.apart n n' c (hcl _ _ e) (hcl _ _ e')
 ns:=⟨_,hn,fun x v e k=>by
  have a:=(Zcc hfv x v e).1
  have b:=S.fvs x a
  have c:scope.names.lookup (G.nm x)=some .local:=Zby.mp k
  rw [b] at c; cases c⟩
 cell:=fun x k=>by
  have hf:scope.names.lookup (G.nm x)=some .free:=Zf0 (sc:=env.scope) S.nocell k
  have hmem:=mem_of_lookup hf
  obtain ⟨_,hloc⟩:=S.free _ hmem rfl
  obtain ⟨c,o,hc,hi,q⟩:=E.cell x (by unfold Env.kindOf; rw [hs]; exact hloc)
  refine ⟨c,o,?_,hi,fun v e=>q v (Zcc hfv x v e).2⟩
  rw [show (compEnvC scope cl L env).cells=cl from rfl,hcl2 _ hmem rfl]
  exact hc
theorem Zmg {tr:Bool} {a:Addr} {h:Heap} {us:List LV} {Q:LV->St->Prop} (i:Inv G (ZX P a) σ h) (hPa:¬ P a) (acc:Zb4 G (ZX P a) σ h a us) (q:ZeV tr Q us σ) :
  ∃ σ',Inv G P σ' h/\(∀ b,b ≠ a->σ' b=σ b)/\∃ lv,Rep G (Dom P σ') h lv (.ref a)/\Q lv σ':=by
 have pa:ZX P a a:=.inr rfl
 refine Zik acc fun ws n g r=>?_
 cases tr with
 | true =>
  have dom:∀ b o,h.get? b=some o->Dom (ZX P a) σ b->Dom P (upd σ a (some (.list us))) b/\h.get? b=some o:=fun b o gb d=>⟨⟨by rw [Zc _ _ fun e=>d.2 (.inr e)]; exact d.1,fun z=>d.2 (.inl z)⟩,gb⟩
  refine ⟨upd σ a (some (.list us)),⟨i.base,fun b q=>?_,fun b p=>?_,fun b o e=>?_⟩,fun b ne=>Zc _ _ ne,.ref a,by rfl,q a (i.dis a pa).1⟩
  ·by_cases e:b=a
   ·subst e; exact (i.dis b pa).2.1
   ·rw [Zc _ _ e] at q; exact i.new b q
  ·refine ZL (i.dis b (.inl p)) fun x y=>?_
   exact ⟨by rw [Zc _ _ fun e=>hPa (by rw [<- e]; exact p)]; exact x,y⟩
  ·by_cases z:b=a
   ·subst z
    rw [Zb] at e; cases e
    exact ⟨ws,n,g,r.mono dom⟩
   ·rw [Zc _ _ z] at e
    exact (i.tr b o e).mono (fun _ gg=>gg) dom
 | false =>
  have dom:∀ b o,h.get? b=some o->Dom (ZX P a) σ b->Dom P σ b/\h.get? b=some o:=fun b o gb d=>⟨⟨d.1,fun z=>d.2 (.inl z)⟩,gb⟩
  refine ⟨σ,⟨i.base,i.new,fun b p=>i.dis b (.inl p),fun b o e=>(i.tr b o e).mono (fun _ gg=>gg) dom⟩,fun _ _=>rfl,.lst us,Rep.lst_mk ⟨(i.dis a pa).1,hPa⟩ g (r.mono dom),q⟩
theorem Zgu {elt iter:Expr} {gens rest:List Comprehension} {ifs:List Expr} {scope:Scope} {cpos pos:Pos} {use:Option (Value->Sem Unit)} {te:Expr} {t:Tg} {p:Pos} {fv tgs:List Nat} {B:Nat} {N:List LV->Prop} {W:Env->Prop} {tr:Bool} {lit:LE}
  {mid:Value->PySem.Env->Sem Unit} {body:Env->(List LV->St->Prop)->St->Prop} {Q:LV->St->Prop} {Qp:Value->Shared->Prop} {E':Value->Shared->Prop}
  (hgens:gens=⟨te,iter,ifs,0⟩::rest)
  (hEq:∀ it acc cenv,compTurn (.ListComp elt gens scope cpos) 0 it acc cenv=(standAt p >>= fun _=>pyNext it >>= fun r=>match r with
   | none=>pure (.done .next)
   | some v=>letOwnedTupleGo te it v >>= fun _=>assign te cenv v >>= fun _=>mid acc cenv >>= fun _=>again (.compLoop (.ListComp elt gens scope cpos) 0 it acc cenv)))
  (R:Room A) (ht:Zhs G t te) (S:ScopeOk G.nm scope sc fv tgs) (htg:∀ x ∈ ZW t,x ∈ tgs) (hfold:∀ x,foldedSetIterable iter env x=pure x) (hs:env.scope=sc)
  (hit:EO G A C sc lit iter)
  (hmid:∀ (P':Addr->Prop) (L a:Addr) (cl:List (Str × Addr)),P' a->P' L->(∀ b,(b=L\/∃ n,cl.lookup n=some b)->b ≠ a)->Zl0 G A P' (fun b=>b=L\/b=a) (compEnvC scope cl L env) a (mid (.ref a) (compEnvC scope cl L env)) B W body)
  (hW:∀ ρc v ρx,(∀ x v,Zo ρc x=some v->x ∈ fv)->Z0 t v ρc=some ρx->W ρx)
  (i:Inv G P σ s.heap) (E:EnvRel G P σ s.heap env ρ)
  (q:wpE G.T C lit ρ (fun iv σ₁=>ZC (ZaD iv) fun xs=>ZC (ZcO fv ρ) fun ρc=>N xs/\ZaH (fun x K σ₂=>ZC (Z0 t x ρc) fun ρx=>body ρx K σ₂) xs [] (ZeV tr Q) σ₁) σ)
  (hN:∀ xs,N xs->B * xs.length<=1000000) (hpost:∀ (a L:Addr) (σ':St) (s':Shared),(∀ b o,s.heap.get? b=some o->σ b=none->b ≠ L)->Inv G (ZX P L) σ' s'.heap->(∃ m,s'.heap.Ns L m)->Evo noF σ s.heap σ' s'.heap->ZaF s s'->Res G (ZX P L) Q (.ref a) σ' s'->compPost (model G.prog G.w) A E' use Qp (.ref a) L (.ok .next) s') :
  wpAny (model G.prog G.w) A (comprehension (.ListComp elt gens scope cpos) scope env pos (newList []) false (eval iter env) use) Qp E' s:=by
 refine Zdk (Zjp S hs E) fun cl hclos hcl hcl2=>?_
 subst hgens
 refine wpAny_comprehension_free rfl hfold hclos S.kind S.names (wpAny_mono (hit P σ s env ρ _ hs i E q) (fun x s₁ ⟨σ₁,i₁,e₁,k₁,iv,riv,q₁⟩=>?_) fun _ _ z=>z.elim)
 refine Ze (Zi.mp q₁) fun xs hxs q₁=>?_
 refine Zdk (Zi.mp q₁) fun ρc hρc hlen q₂=>?_
 replace hlen:=hN xs hlen
 have E₁:=E.evo i e₁
 refine ZeG i₁ riv hxs fun oI itI=>?_
 refine wpAny_newObj_type (wpAny_newFunctionEnv S.nocell (by intro y hy; simp at hy) (fun h₄ hns hsb=>?_) S.kind)
 dsimp only at hns hsb itI ⊢
 generalize hI:s₁.heap.objs.size=I at itI ⊢
 generalize hH1:s₁.heap.push oI=H1 at hns hsb itI ⊢
 generalize ha:H1.objs.size=a at ⊢
 generalize hH2:H1.push { cls:=Value.type "list",dict:=none,data:=Data.seq ([]:List Value).toArray }=H2 at hns hsb ⊢
 generalize hL:H2.objs.size=L at hns hsb ⊢
 have eI:a=I + 1:=by rw [<- ha,<- hH1,Heap.size_push,hI]
 have eL:L=I + 2:=by rw [<- hL,<- hH2,Heap.size_push,ha,eI]
 have k1:∀ b o,s₁.heap.get? b=some o->b < I:=fun b o g=>hI ▸ Heap.lt_size g
 have kH1:∀ b o,s₁.heap.get? b=some o->H1.get? b=some o:=fun b o g=>hH1 ▸ Zg _ _ _ g
 have kH2:∀ b o,H1.get? b=some o->H2.get? b=some o:=fun b o g=>hH2 ▸ Zg _ _ _ g
 have k4:∀ b o,H2.get? b=some o->h₄.get? b=some o:=fun b o g=>hsb.extBut b o (by rw [<- hL]; exact Nat.ne_of_lt (Heap.lt_size g)) (Zg _ _ _ g)
 have kk:∀ b o,s₁.heap.get? b=some o->h₄.get? b=some o:=fun b o g=>k4 _ _ (kH2 _ _ (kH1 _ _ g))
 have none1:∀ b,I<=b->s₁.heap.get? b=none:=fun b hb=>Zbz (by rw [hI]; exact hb)
 have nlt:∀ b o,I<=b->s₁.heap.get? b=some o->False:=fun b o hb g=>by rw [none1 b hb] at g; exact nos g
 have new1:∀ b,I<=b->σ₁ b=none/\G.h₁.get? b=none:=fun b hb=>⟨(i₁.free_dom (none1 b hb)).1,by
  cases z:G.h₁.get? b with
  | none=>rfl
  | some o=>have:=i₁.base _ _ z; rw [none1 b hb] at this; cases this⟩
 have gI:∃ o,h₄.get? I=some o:=by
  refine ZU itI.there fun o ho=>?_
  exact ⟨o,k4 _ _ (kH2 _ _ ho)⟩
 have ga:h₄.get? a=some (Zdj #[] 0):=k4 _ _ (by rw [<- hH2,<- ha]; exact Heap.get?_push_size _ rfl)
 have gL:∃ o,h₄.get? L=some o:=by obtain ⟨o,_,_,ho,_⟩:=hns; exact ⟨o,ho⟩
 have i₄:Inv G (ZX (ZX (ZX P L) a) I) σ₁ h₄:=i₁.conv (N:=noF) (fun _ z=>z.elim) (fun b o g _=>kk b o g) (fun b hb=>by
   rcases hb with ((pb | rfl) | rfl) | rfl
   ·refine Zbp (i₁.dis b pb) fun x y hR0=>?_; refine ZU hR0 fun o ho=>?_
    exact ⟨x,y,o,kk _ _ ho⟩
   ·exact ⟨(new1 b (by exact o7 eL)).1,(new1 b (by exact o7 eL)).2,gL⟩
   ·exact ⟨(new1 b (by exact o5 eI)).1,(new1 b (by exact o5 eI)).2,_,ga⟩
   ·exact ⟨(new1 b (Nat.le_refl _)).1,(new1 b (Nat.le_refl _)).2,gI⟩)
  fun b o g n hb=>by
   rcases hb with ((pb | e) | e) | e
   ·exact n pb
   ·exact nlt b o (by rw [e]; exact o7 eL) g
   ·exact nlt b o (by rw [e]; exact o5 eI) g
   ·exact nlt b o (by rw [e]; exact o44) g
 have dom4:∀ b o,s₁.heap.get? b=some o->Dom P σ₁ b->Dom (ZX (ZX (ZX P L) a) I) σ₁ b/\h₄.get? b=some o:=fun b o g d=>⟨⟨d.1,fun hb=>by
   rcases hb with ((pb | e) | e) | e
   ·exact d.2 pb
   ·exact nlt b o (by rw [e]; exact o7 eL) g
   ·exact nlt b o (by rw [e]; exact o5 eI) g
   ·exact nlt b o (by rw [e]; exact o44) g⟩,kk b o g⟩
 have E₄:EnvRel G (ZX (ZX (ZX P L) a) I) σ₁ h₄ env ρ:=E₁.conv (N:=noF) (.inl (.inl (.inl E₁.pL))) (fun n c e=>.inl (.inl (.inl (E₁.pC n c e).1))) (fun b o g _=>kk b o g) dom4
 have ltc:∀ n c,env.cells.lookup n=some c->∀ b,I<=b->c ≠ b:=fun n c e b hb z=>by
  refine Zbp (i₁.dis c (E₁.pC n c e).1) fun _ _ hR0=>?_; refine ZU hR0 fun o ho=>?_
  exact nlt c o (z ▸ hb) ho
 have Ec:EnvRel G (ZX (ZX (ZX P L) a) I) σ₁ h₄ (compEnvC scope cl L env) ρc:=Zme S hs E₄ hcl hcl2 hρc (.inl (.inl (.inr rfl))) (by simpa using hns) fun n c e=>ltc n c e L (by exact o7 eL)
 have it₄:ZaQ G (Dom (ZX (ZX (ZX P L) a) I) σ₁) h₄ I xs:=by
  refine itI.mono (fun o g=>k4 _ _ (kH2 _ _ g)) fun b o g d=>⟨⟨d.1.1,fun hb=>?_⟩,k4 _ _ (kH2 _ _ g)⟩
  rcases hb with ((pb | e) | e) | e
  ·exact d.1.2 pb
  ·have hlt:b < a:=ha ▸ Heap.lt_size g
   rw [e] at hlt; exact absurd hlt (Nat.not_lt.mpr (by exact Zwb eI eL))
  ·have hlt:b < a:=ha ▸ Heap.lt_size g
   rw [e] at hlt; exact absurd hlt (Nat.lt_irrefl _)
  ·exact d.2 e
 have acc₄:Zb4 G (ZX (ZX (ZX P L) a) I) σ₁ h₄ a []:=⟨#[],0,ga,.nil⟩
 have loop:=Zgv (G:=G) (A:=A) (P₀:=ZX (ZX P L) a) (F:=fun b=>b=L\/b=a) (env:=compEnvC scope cl L env) (I:=I) (a:=a) (Q:=ZeV tr Q) (hEq _ _ _) R ht (fun x hx=>.inl (Zby.mpr (S.tgs x (htg x hx)))) (.inl rfl) (fun b hb=>hb.elim (fun e=>.inl (.inr e)) .inr)
  (fun hb=>by
   rcases hb with (pb | e) | e
   ·refine Zbp (i₁.dis I pb) fun _ _ hR0=>?_; refine ZU hR0 fun o ho=>?_
    exact nlt I o (Nat.le_refl _) ho
   ·exact absurd e (show I ≠ L by exact Zwc eL)
   ·exact absurd e (show I ≠ a by exact Zwd eI)) (.inr rfl) (.inl (.inr rfl)) (fun n c e=>.inl (.inl (E₁.pC n c (hcl n c e)).1)) (show a ≠ L by exact o91 eI eL)
  (fun x hx=>by
   cases z:Zo ρc x with
   | none=>rfl
   | some v =>
    have b:=S.fvs x (Zcc hρc x v z).1
    rw [S.tgs x (htg x hx)] at b; cases b)
  (fun v ρx h=>hW ρc v ρx (fun x v e=>(Zcc hρc x v e).1) h)
  (hmid _ L a cl (.inl (.inr rfl)) (.inl (.inl (.inr rfl))) fun b hb=>by
   rcases hb with rfl | ⟨n,hb⟩
   ·exact Nat.ne_of_gt (show a < b by exact Zwe eI eL)
   ·exact ltc n b (hcl n b hb) a (by exact o5 eI)) { s₁ with heap:=h₄,toks:=s₁.toks + ([]:List (Str × Value)).length } σ₁ [] 1000000 (by simp) xs [] σ₁ { s₁ with heap:=h₄,toks:=s₁.toks + ([]:List (Str × Value)).length } i₄ Ec acc₄ it₄ (by simpa using hlen) (Evo.refl _ _ _) (.refl _) q₂
 have fin:∀ r s',Zfr G (ZX (ZX P L) a) (fun b=>b=L\/b=a) I a (compEnvC scope cl L env) ρc [] 1000000 (ZeV tr Q) σ₁ { s₁ with heap:=h₄,toks:=s₁.toks + ([]:List (Str × Value)).length } r s'->compPost (model G.prog G.w) A E' use Qp (.ref a) L r s':=fun r s' hr=>by
  rcases r with e | (v | _ | _ | _) <;> first | exact hr.elim | skip
  refine Zsd hr fun σ' us hum i' Ef acc' ev ks qq=>?_
  have hPa:¬ ZX P L a:=fun hb=>by
   refine Or.elim hb (fun pb=>?_) fun e=>?_
   ·refine Zbp (i₁.dis a pb) fun _ _ hR0=>?_; refine ZU hR0 fun o ho=>?_
    exact nlt a o (by exact o5 eI) ho
   ·exact absurd e (show a ≠ L by exact o91 eI eL)
  refine Zdk (Zmg i' hPa acc' qq) fun σ'' i'' same hR0=>?_; refine Ze hR0 fun lv rlv q''=>?_
  have ev1:Evo noF σ₁ s₁.heap σ' s'.heap:=(Evo.keeps (F:=noF) kk).outer ev fun b hb=>by
   rcases hb with (e | e) | e
   ·exact .inr (none1 b (by rw [e]; exact o7 eL))
   ·exact .inr (none1 b (by rw [e]; exact o5 eI))
   ·exact .inr (none1 b (by rw [e]; exact o44))
  have ev2:Evo noF σ₁ s₁.heap σ'' s'.heap:=fun b o g n f=>⟨(ev1 b o g n f).1,by rw [same b fun e=>nlt b o (by rw [e]; exact o5 eI) g]; exact (ev1 b o g n f).2⟩
  refine hpost a L σ'' s' (fun b o g n e=>?_) i'' ?_ (e₁.trans ev2) (k₁.trans ks) ⟨lv,rlv,q''⟩
  ·exact nlt b o (by rw [e]; exact o7 eL) (e₁ b o g n fun z=>z).1
  ·refine Ze Ef.ns fun m hm _=>?_
   exact ⟨m,hm⟩
 exact codeAny_compStart_list (codeAny_mono loop fin) (ZeH it₄ (codeAny_mono loop fin))
end
section
variable {G:Glo} {K:Frag} {A:Around} {C:Cal} {sc:Scope} {P₀ P F:Addr->Prop} {σ:St} {s:Shared} {env:PySem.Env} {ρ:Env}
theorem Inv.drop {h h':Heap} {L:Addr} (i:Inv G (ZX P L) σ h) (hs:Heap.SameBut L h h') (hL:¬ P L):Inv G P σ h' :=
 i.conv (N:=fun b=>b=L) (fun b e=>.inr e) (fun b o g n=>(hs.2 b n).trans g) (fun b p=>⟨(i.dis b (.inl p)).1,(i.dis b (.inl p)).2.1,by
  refine ZU ((i.dis b (.inl p)).2.2) fun o ho=>?_
  exact ⟨o,(hs.2 b fun e=>hL (e ▸ p)).trans ho⟩⟩) fun b o g n p=>n (.inl p)
theorem Zix {h h':Heap} {L:Addr} (hs:Heap.SameBut L h h'):∀ b o,h.get? b=some o->Dom (ZX P L) σ b->Dom P σ b/\h'.get? b=some o:=fun b o g d=>⟨⟨d.1,fun p=>d.2 (.inl p)⟩,(hs.2 b fun e=>d.2 (.inr e)).trans g⟩
structure CompOk (G:Glo) (A:Around) (C:Cal) (sc:Scope) (fv:List Nat) (elt:LE) (t:Tg) (lit:LE) (c:Option LE) (elt' te iter:Expr) (ifs:List Expr) (scope:Scope):Prop where
 s:ScopeOk G.nm scope sc fv (ZW t)
 t:Zhs G t te
 fold:∀ env x,foldedSetIterable iter env x=pure x
 it:EO G A C sc lit iter
 c:Zdx G A C (Zaj scope sc) c ifs
 e:EO G A C (Zaj scope sc) elt elt'
theorem Zmf (R:Room A) {fv:List Nat} {elt lit:LE} {t:Tg} {c:Option LE} {elt' te iter:Expr} {ifs:List Expr} {scope:Scope} {cpos pos:Pos} {tr:Bool} {use:Option (Value->Sem Unit)} {Q:LV->St->Prop} {Qp:Value->Shared->Prop} {E':Value->Shared->Prop}
  (X:CompOk G A C sc fv elt t lit c elt' te iter ifs scope) (hs:env.scope=sc) (i:Inv G P σ s.heap) (E:EnvRel G P σ s.heap env ρ) (q:wpE G.T C (.comp tr fv elt t lit c) ρ Q σ)
  (hpost:∀ (a L:Addr) (σ':St) (s':Shared),(∀ b o,s.heap.get? b=some o->σ b=none->b ≠ L)->Inv G (ZX P L) σ' s'.heap->(∃ m,s'.heap.Ns L m)->Evo noF σ s.heap σ' s'.heap->ZaF s s'->Res G (ZX P L) Q (.ref a) σ' s'->compPost (model G.prog G.w) A E' use Qp (.ref a) L (.ok .next) s') :
  wpAny (model G.prog G.w) A (comprehension (.ListComp elt' [⟨te,iter,ifs,0⟩] scope cpos) scope env pos (newList []) false (eval iter env) use) Qp E' s:=by
 refine Zgu (te:=te) (ifs:=ifs) (iter:=iter) (rest:=[]) (p:=iter.pos) (t:=t) (B:=1) (N:=fun xs=>xs.length<=100000) (W:=fun _=>True) (mid:=fun acc cenv=>Zjg ifs cenv >>= fun ok=>if ok=true then Zju elt' acc cenv else pure ()) rfl (fun it acc cenv=>Znl elt' te iter ifs scope cpos it acc cenv)
  R X.t X.s (fun x hx=>hx) (fun x=>X.fold env x) hs X.it (fun P' L a cl pa pL hne=>?_) (fun _ _ _ _ _=>trivial) i E q (fun xs h=>Zwf h) hpost
 exact ZoD (sc:=Zaj scope sc) X.e X.c (by rw [<- hs]; rfl) pa (.inr rfl) hne
structure Comp2Ok (G:Glo) (A:Around) (C:Cal) (sc:Scope) (fv:List Nat) (elt:LE) (t:Tg) (lit:LE) (t₂:Tg) (lit₂:LE) (elt' te iter te₂ iter₂:Expr) (scope:Scope):Prop where
 s:ScopeOk G.nm scope sc fv (ZW t++ZW t₂)
 tok:Zhs G t te
 tok₂:Zhs G t₂ te₂
 apart:∀ x ∈ ZW t₂,x ∉ ZW t
 fold:∀ env x,foldedSetIterable iter env x=pure x
 fold₂:∀ env x,foldedSetIterable iter₂ env x=pure x
 it:EO G A C sc lit iter
 it₂:EO G A C (Zaj scope sc) lit₂ iter₂
 e:EO G A C (Zaj scope sc) elt elt'
theorem Zb8 {elt:Expr} {gens:List Comprehension} {scope:Scope} {pos:Pos} {depth:Nat} {target iter:Expr} {ifs:List Expr} {it acc:Value} {R:Result->Shared->Prop} (hg:gens[depth]?=some ⟨target,iter,ifs,0⟩)
  (h0:codeAny (model G.prog G.w) A (.compLoop (.ListComp elt gens scope pos) depth it acc env) R s)
  (h:wpAny (model G.prog G.w) A (pyIter it) (fun it' s'=>codeAny (model G.prog G.w) A (.compLoop (.ListComp elt gens scope pos) depth it' acc env) R s')
   (notedBy (model G.prog G.w) A env fun x s'=>R (.error x) s') s) :
  codeAny (model G.prog G.w) A (.compStart (.ListComp elt gens scope pos) depth it acc env) R s:=by
 refine codeAny_of_tree ?_
 show wpAny _ A ((compStart (.ListComp elt gens scope pos) depth it acc env).onRaise (fun x=>do noteFrame x env; standAt theWindowsPlace)) _ _ s
 refine wpAny_notedAt ?_
 unfold compStart
 have hcl:(clausesOf (.ListComp elt gens scope pos))[depth]?=some ⟨target,iter,ifs,0⟩:=hg
 rw [hcl]
 show wpAny _ A (ask >>= _) _ _ s
 refine wpAny_bind (wpAny_askSetting (wpAny_ite ?_))
 split
 ·first
   | exact wpAny_bind (wpAny_pure (wpAny_pure (And.intro rfl h0)))
   | exact wpAny_pure (And.intro rfl h0)
 ·first
   | exact wpAny_bind (wpAny_rule (wpAny_bind (wpAny_standAt (wpAny_bind (wpAny_mono h (fun it' s' h'=>wpAny_pure (And.intro rfl h')) fun _ _ x=>x)))))
   | (refine wpAny_bind (wpAny_rule ?_); show wpAny _ _ (standAt iter.pos >>= _) _ _ s; exact wpAny_bind (wpAny_standAt (wpAny_bind (wpAny_mono h (fun it' s' h'=>wpAny_pure (And.intro rfl h')) fun _ _ x=>x))))
theorem Inv.addI {h:Heap} {o:Obj} (i:Inv G P σ h) (g:∃ x,(h.push o).get? h.objs.size=some x):Inv G (ZX P h.objs.size) σ (h.push o) :=
 i.conv (N:=noF) (fun _ z=>z.elim) (fun b x gb _=>Zg _ _ _ gb) (fun b hb=>by
  refine Or.elim hb (fun p=>?_) fun e=>?_
  ·refine Zbp (i.dis b p) fun x y hR0=>?_; refine ZU hR0 fun z hz=>?_
   exact ⟨x,y,z,Zg _ _ _ hz⟩
  ·rw [e]; exact ⟨i.size_free,i.size_new,g⟩) fun b x gb n hb=>by
  refine Or.elim hb (fun p=>?_) fun e=>?_
  ·exact n p
  ·rw [e,Zau] at gb; exact nos gb
theorem ZoE (R:Room A) {fv:List Nat} {elt lit lit₂:LE} {t t₂:Tg} {elt' te iter te₂ iter₂:Expr} {scope:Scope} {cpos:Pos} (X:Comp2Ok G A C sc fv elt t lit t₂ lit₂ elt' te iter te₂ iter₂ scope) (hs:env.scope=sc)
  (P':Addr->Prop) (L a:Addr) (cl:List (Str × Addr)) (pa:P' a) (pL:P' L) (hne:∀ b,(b=L\/∃ n,cl.lookup n=some b)->b ≠ a) :
  Zl0 G A P' (fun b=>b=L\/b=a) (compEnvC scope cl L env) a (ZiI elt' [⟨te,iter,[],0⟩,⟨te₂,iter₂,[],0⟩] scope cpos iter₂ (.ref a) (compEnvC scope cl L env)) 1000 (fun ρ=>∀ x ∈ ZW t₂,Zo ρ x=none)
   (fun ρx K σ₂=>wpE G.T C lit₂ ρx (fun jv σ₃=>ZC (ZaD jv) fun ys =>
    ys.length<=1000/\ZaH (fun y K₂ σ₄=>ZC (Z0 t₂ y ρx) fun ρy=>wpE G.T C elt ρy (fun u σ₅=>K₂ [u] σ₅) σ₄) ys [] K σ₃) σ₂):=fun σ s ρ vs Q hW i E acc hl q=>by
 have hsc:(compEnvC scope cl L env).scope=Zaj scope sc:=by rw [<- hs]; rfl
 refine TT.bind (TT.weaken (TT.mono (X.it₂ P' σ s _ ρ _ hsc i E q) fun x σ₁ s₁ i₁ e₁ _ hQ0=>Ze hQ0 fun jv rj q₁=>?_) fun _ z=>z.elim)
 refine Zdk (Zi.mp q₁) fun ys hys hlen q₂=>?_
 have acc₁:=Evo.acc acc i pa e₁
 have E₁:=E.evo i e₁
 refine TT.at ?_
 rw [X.fold₂]
 refine wpAny_bind (wpAny_pure (wpAny_bind (wpAny_holding (ZeG i₁ rj hys fun oI itI=>wpAny_bind ?_))))
 have i₂:Inv G (ZX P' s₁.heap.objs.size) σ₁ (s₁.heap.push oI):=i₁.addI itI.there
 have nI:¬ P' s₁.heap.objs.size:=i₁.size_pub
 have dom2:∀ b o,s₁.heap.get? b=some o->Dom P' σ₁ b->Dom (ZX P' s₁.heap.objs.size) σ₁ b/\(s₁.heap.push oI).get? b=some o:=fun b o g d=>⟨⟨d.1,fun hb=>hb.elim d.2 fun e=>by rw [e,Zau] at g; cases g⟩,Zg _ _ _ g⟩
 have E₂:EnvRel G (ZX P' s₁.heap.objs.size) σ₁ (s₁.heap.push oI) (compEnvC scope cl L env) ρ:=E₁.conv (N:=noF) (.inl E₁.pL) (fun n c e=>.inl (E₁.pC n c e).1) (fun b o g _=>Zg _ _ _ g) dom2
 have acc₂:Zb4 G (ZX P' s₁.heap.objs.size) σ₁ (s₁.heap.push oI) a (vs++[]):=by rw [List.append_nil]; exact acc₁.mono (fun o g=>Zg _ _ _ g) dom2
 have it₂:ZaQ G (Dom (ZX P' s₁.heap.objs.size) σ₁) (s₁.heap.push oI) s₁.heap.objs.size ys:=itI.mono (fun _ g=>g) fun b o g d=>⟨⟨d.1.1,fun hb=>hb.elim d.1.2 d.2⟩,g⟩
 have loop:=Zgv (G:=G) (A:=A) (P₀:=P') (F:=fun b=>b=L\/b=a) (env:=compEnvC scope cl L env) (I:=s₁.heap.objs.size) (a:=a) (Q:=Q) (B:=1) (W:=fun _=>True)
  (body:=fun ρy K₂ σ₄=>wpE G.T C elt ρy (fun u σ₅=>K₂ [u] σ₅) σ₄) (mid:=Zju elt' (.ref a) (compEnvC scope cl L env)) (ZlL elt' te iter te₂ iter₂ scope cpos _ _ _) R X.tok₂ (fun x hx=>.inl (Zby.mpr (X.s.tgs x (List.mem_append_right _ hx)))) (.inl rfl) (fun b hb=>hb.elim (fun e=>e ▸ pL) fun e=>e ▸ pa)
  nI pa pL (fun n c e=>(E.pC n c e).1) (hne L (.inl rfl)).symm hW (fun _ _ _=>trivial)
  (fun σ s ρ vs Q _ i E acc hl q=>Zkt X.e hsc (.inl pa) (.inr rfl) hne i E acc hl q) { s₁ with heap:=s₁.heap.push oI } σ₁ vs 1000 hl ys [] σ₁ { s₁ with heap:=s₁.heap.push oI } i₂ E₂ acc₂ it₂ (by simpa using hlen) (Evo.refl _ _ _) (.refl _) q₂
 have fin:∀ r s',Zfr G P' (fun b=>b=L\/b=a) s₁.heap.objs.size a (compEnvC scope cl L env) ρ vs 1000 Q σ₁ { s₁ with heap:=s₁.heap.push oI } r s'->(match r with
   | .ok f=>wpAny (model G.prog G.w) A (pure ()) (fun v s'=>∃ σ',Inv G P' σ' s'.heap/\Evo (fun b=>b=L\/b=a) σ₁ s₁.heap σ' s'.heap/\ZaF s₁ s'/\∃ ys,ys.length<=1000/\Zb4 G P' σ' s'.heap a (vs++ys)/\EnvRel G P' σ' s'.heap (compEnvC scope cl L env) ρ/\Q ys σ') (fun _ _=>False) s'
   | .error e=>cameBackBy (model G.prog G.w) A (compEnvC scope cl L env) (fun _ _=>False) e s'):=fun r s' hr=>by
  rcases r with e | (v | _ | _ | _) <;> first | exact hr.elim | skip
  refine Zsd hr fun σ' us hum i' Ef acc' ev ks qq=>?_
  exact wpAny_pure ⟨σ',i',(Evo.push (F:=fun b=>b=L\/b=a) oI).outer ev fun b hb=>hb.elim .inl fun e=>.inr (by rw [e]; exact Zau),ks,us,hum,acc',Ef,qq⟩
 refine wpAny_runOwn (h:=none) ?_
 have key:=Zb8 (elt:=elt') (scope:=scope) (pos:=cpos) (env:=compEnvC scope cl L env) (gens:=[⟨te,iter,[],0⟩,⟨te₂,iter₂,[],0⟩]) (depth:=1) (target:=te₂) (iter:=iter₂) (ifs:=[]) rfl (codeAny_mono loop fin) (ZeH it₂ (codeAny_mono loop fin))
 exact key
noncomputable def Zki (e:Expr) (env:PySem.Env) (use:Option (Value->Sem Unit)):Sem Value:=match e with
 | .ListComp elt gens scope pos=>comprehension (.ListComp elt gens scope pos) scope env (firstIterPos gens pos) (newList []) (firstAsync gens) (firstIter gens env) use
 | _=>pure .none
noncomputable def CO (G:Glo) (A:Around) (C:Cal) (sc:Scope) (le:LE) (e:Expr):Prop :=
 ∀ (P:Addr->Prop) (σ:St) (s:Shared) (env:PySem.Env) (ρ:Env) (Q:LV->St->Prop) (use:Option (Value->Sem Unit)) (Qp:Value->Shared->Prop) (E':Value->Shared->Prop),env.scope=sc->Inv G P σ s.heap->EnvRel G P σ s.heap env ρ->wpE G.T C le ρ Q σ->
  (∀ (a L:Addr) (σ':St) (s':Shared),(∀ b o,s.heap.get? b=some o->σ b=none->b ≠ L)->Inv G (ZX P L) σ' s'.heap->(∃ m,s'.heap.Ns L m)->Evo noF σ s.heap σ' s'.heap->ZaF s s'->Res G (ZX P L) Q (.ref a) σ' s'->compPost (model G.prog G.w) A E' use Qp (.ref a) L (.ok .next) s')->
  wpAny (model G.prog G.w) A (Zki e env use) Qp E' s
noncomputable def ZnD:Expr->Bool
 | .ListComp ..=>true
 | _=>false
theorem CO.eo {le:LE} {e:Expr} (h:CO G A C sc le e) (hl:ZnD e=true):EO G A C sc le e:=fun P σ s env ρ Q hs i E q=>by
 have:eval e env=Zki e env none:=by cases e <;> first | rfl | cases hl
 rw [this]
 refine h P σ s env ρ Q none _ _ hs i E q fun a L σ' s' hL i' ⟨m,hm⟩ ev ks ⟨lv,r,qq⟩=>⟨m,hm,fun h' hsb=>?_⟩
 have hPL:¬ P L:=fun p=>by
  refine Zbp (i.dis L p) fun x y hR0=>?_; refine ZU hR0 fun o ho=>?_
  exact hL L o ho x rfl
 exact ⟨σ',i'.drop hsb hPL,fun b o g n f=>⟨(hsb.2 b (hL b o g n)).trans (ev b o g n f).1,(ev b o g n f).2⟩,ks,lv,r.mono (Zix hsb),qq⟩
theorem CO.one (R:Room A) {fv:List Nat} {elt lit:LE} {t:Tg} {c:Option LE} {elt' te iter:Expr} {ifs:List Expr} {scope:Scope} {cpos:Pos} {tr:Bool} (X:CompOk G A C sc fv elt t lit c elt' te iter ifs scope) :
  CO G A C sc (.comp tr fv elt t lit c) (.ListComp elt' [⟨te,iter,ifs,0⟩] scope cpos):=fun P σ s env ρ Q use Qp E' hs i E q hpost=>Zmf R X hs i E q hpost
theorem CO.two (R:Room A) {fv:List Nat} {elt lit lit₂:LE} {t t₂:Tg} {elt' te iter te₂ iter₂:Expr} {scope:Scope} {cpos:Pos} {tr:Bool} (X:Comp2Ok G A C sc fv elt t lit t₂ lit₂ elt' te iter te₂ iter₂ scope) :
  CO G A C sc (.comp2 tr fv elt t lit t₂ lit₂) (.ListComp elt' [⟨te,iter,[],0⟩,⟨te₂,iter₂,[],0⟩] scope cpos):=fun P σ s env ρ Q use Qp E' hs i E q hpost=>by
 refine Zgu (te:=te) (ifs:=[]) (iter:=iter) (rest:=[⟨te₂,iter₂,[],0⟩]) (p:=iter.pos) (t:=t) (B:=1000) (N:=fun xs=>xs.length<=1000) (W:=fun ρ=>∀ x ∈ ZW t₂,Zo ρ x=none) (mid:=fun acc cenv=>ZiI elt' [⟨te,iter,[],0⟩,⟨te₂,iter₂,[],0⟩] scope cpos iter₂ acc cenv) rfl (fun it acc cenv=>ZlK elt' te iter te₂ iter₂ scope cpos it acc cenv)
  R X.tok X.s (fun x hx=>List.mem_append_left _ hx) (fun x=>X.fold env x) hs X.it (fun P' L a cl pa pL hne=>ZoE R X hs P' L a cl pa pL hne) (fun ρc v ρx hfv hb x hx=>?_) i E q (fun xs h=>Zwg h) hpost
 rw [Zgl hb x (X.apart x hx)]
 cases z:Zo ρc x with
 | none=>rfl
 | some v =>
  have b:=X.s.fvs x (hfv x v z)
  rw [X.s.tgs x (List.mem_append_right _ hx)] at b; cases b
end
section
variable {prog:Program} {w:World} {A:Around} {E:Value->Shared->Prop} {s:Shared}
theorem Zic {l:Addr} {items:Array Value} {n:Nat} {k:Int} {t:Tok} {v:Value} {Q:Unit->Shared->Prop} (ho:s.heap.get? l=some (Zdj items n))
  (h0:0<=k) (hfit:k < 2 ^ 63) (hn:k < items.size)
  (hQ:∀ h' n',h'.get? l=some (Zdj (items.setIfInBounds k.toNat v) n')->Heap.SameBut l s.heap h'->Q () { s with heap:=h' }) :
  wpAny (model prog w) A (setItem (.ref l) (.int k t) v) Q E s:=by
 have hl:s.heap.IsList l items:=IsList.ofO ho
 unfold setItem
 try with_reducible refine wpAny_holding ?_
 first | refine wpAny_bind (wpAny_pure ?_) | skip
 refine wpAny_bind (wpAny_sequenceKey hl.typeIs (by decide) ?_)
 refine wpAny_bind (wpAny_callSpecial?_slot (name:=Str.ofString "__setitem__") hl.typeIs slot_list_setitem
  (wpAny_call_entry slot_list_setitem hl.typeIs entry_list_setitem ?_ (args_list_setitem _ _ _)))
 show wpAny _ _ (Builtin.List.listSubscript? (.int k t) >>= _) _ _ s
 refine wpAny_bind (wpAny_listSubscript_int (fitsIndex_of h0 hfit) ?_)
 clear hfit
 obtain ⟨j,rfl⟩:=Int.eq_ofNat_of_zero_le h0
 have hj:j < items.size:=o36 hn
 have hx':items[j]?=some items[j]:=Array.getElem?_eq_getElem hj
 show wpAny _ _ ((seqItemAt l j >>= fun r=>pure (r.map (j,·))) >>= _) _ _ s
 refine wpAny_bind (wpAny_bind (wpAny_seqItemAt ho rfl (wpAny_pure ?_)))
 rw [hx']
 show wpAny _ _ (setSeqItemAt l j v >>= _) _ _ s
 have hfin:(s.heap.update l (Obj.mapSeq (·.setIfInBounds j v))).get? l=some (Zdj (items.setIfInBounds j v) (if (items.setIfInBounds j v).size == items.size then n else n + 1)):=by
  rw [Heap.get?_update_self _ ho rfl]; rfl
 refine wpAny_bind (wpAny_setSeqItemAt ho rfl ?_)
 first
  | exact wpAny_bind (wpAny_pure (wpAny_pure ⟨.none,rfl,wpAny_pure (hQ _ _ hfin (Heap.SameBut.update ..))⟩))
  | exact wpAny_pure ⟨.none,rfl,wpAny_pure (hQ _ _ hfin (Heap.SameBut.update ..))⟩
end
section
variable {G:Glo} {K:Frag} {A:Around} {C:Cal} {sc:Scope} {P F:Addr->Prop} {σ:St} {s:Shared} {env:PySem.Env} {ρ:Env}
open Classical in
theorem Zga.put {D:Addr->Prop} {h:Heap} {k u:LV} {a:Addr} {w:Value} (tk:ZaL k=true) (rk:Rep G D h k (.ref a)) (ru:Rep G D h u w):∀ {es:List (LV × LV)} {xs:List (LV × Addr × Value)},Zga G D h es xs->(es.map (·.1)).Nodup->
  ((∃ p,atKey xs k=some p)/\Zga G D h (Zh6 k u es) (xs.map (putAt k w)))\/(atKey xs k=none/\Zga G D h (Zh6 k u es) (xs++[(k,a,w)]))
 | [],_,r,_=>by
  cases r
  exact .inr ⟨rfl,a,w,[],rfl,tk,rk,ru,rfl⟩
 | (x,v)::r,_,q,nd=>by
  obtain ⟨b,z,p,rfl,d,h1,h2,h3⟩:=q
  rw [List.map_cons,List.nodup_cons] at nd
  rw [Zi8]
  by_cases e:k=x
  ·subst e
   rw [if_pos rfl]
   refine .inl ⟨⟨(b,z),by simp [atKey]⟩,b,w,p,?_,d,h1,ru,h3⟩
   rw [List.map_cons]
   have tail:p.map (putAt k w)=p:=by
    have hk:=h3.keys
    have:∀ y ∈ p,putAt k w y=y:=fun y hy=>by
     have:y.1 ∈ r.map (·.1):=by rw [<- hk]; exact List.mem_map_of_mem hy
     have ne:¬ y.1=k:=fun e=>nd.1 (e ▸ this)
     simp [putAt,ne]
    rw [List.map_congr_left this,List.map_id']
   rw [tail]
   simp [putAt]
  ·rw [if_neg e]
   have e':¬ x=k:=fun z=>e z.symm
   rcases Zga.put tk rk ru h3 nd.2 with ⟨⟨p',hp'⟩,hr⟩ | ⟨hn,hr⟩
   ·refine .inl ⟨⟨p',by simpa [atKey,e'] using hp'⟩,b,z,_,?_,d,h1,h2,hr⟩
    rw [List.map_cons]; simp [putAt,e']
   ·exact .inr ⟨by simpa [atKey,e'] using hn,b,z,_,rfl,d,h1,h2,hr⟩
theorem Zcd {k:Int} {u:LV}:∀ {es:List (Int × LV)},Za3 k es=none->Zhu k u es=es++[(k,u)]
 | [],_=>rfl
 | (x,v)::r,h=>by
  refine ifs h (fun _ h=>?_) fun _ h=>?_
  ·exact ns2 h
  ·rename_i e
   rw [Zlt]
   rw [if_neg e,Zcd h]; rfl
theorem Zg0 {k j:Int} {u:LV}:∀ {es:List (Int × LV)},Za3 k es=none->Za3 j (es++[(k,u)])=if j=k then some u else Za3 j es
 | [],_=>by simp [Za3]
 | (x,v)::r,h=>by
  refine ifs h (fun _ h=>?_) fun _ h=>?_
  ·exact ns2 h
  ·rename_i e
   rw [List.cons_append]
   rw [ZbR,ZbR]
   by_cases z:j=x
   ·rw [if_pos z,if_pos z,if_neg fun q=>e (by rw [<- q,z])]
   ·rw [if_neg z,if_neg z,Zg0 h]
noncomputable def Zq1 (ov iv v:LV) (Q:St->Prop) (σ₃:St):Prop:=match ov with
 | .ref a=>match σ₃ a with
  | some (.list vs)=>match iv with
   | .int k=>0<=k/\k < vs.length/\k<=1000000/\Q (upd σ₃ a (some (.list (vs.set k.toNat v))))
   | _=>False
  | some (.dict es)=>ZaL iv=true/\es.length<=1000000/\Q (upd σ₃ a (some (.dict (Zh6 iv v es))))
  | some (.idict es)=>match iv with
   | .int k=>es.length<=1000000/\Za3 k es=.none/\Q (upd σ₃ a (some (.idict (Zhu k v es))))
   | _=>False
  | _=>False
 | _=>False
open Classical in
theorem Zqv (B:Base G) (R:Room A) {ov iv v:LV} {x y u:Value} {Q:St->Prop} (i:Inv G P σ s.heap) (q:Zq1 ov iv v Q σ) (ro:Rep G (Dom P σ) s.heap ov x) (ri:Rep G (Dom P σ) s.heap iv y) (rv:Rep G (Dom P σ) s.heap v u) :
  TT G A P F (setItem x y u) (fun _ σ' _=>Q σ') σ s:=by
 have hu:=R.units
 unfold Zq1 at q
 split at q
 ·rename_i a
  have ro:x=.ref _:=ro
  subst ro
  split at q
  ·rename_i vs hσ
   obtain ⟨ws,n,g,r⟩:=i.tr _ _ hσ
   split at q
   ·rename_i k
    obtain ⟨h0,h1,h2,q⟩:=q
    refine ri.intE fun t=>?_
    have l:=r.length
    rw [Array.length_toList] at l
    refine Zic g h0 (o38 h2) (Zwh h1 l) fun h' n' ho hs=>⟨_,i.change hσ hs ?_,Evo.change hσ hs,⟨rfl,rfl⟩,q⟩
    refine ⟨_,_,ho,?_⟩
    rw [Array.toList_setIfInBounds]
    exact (r.mono (Dom.change hσ hs)).set _ (rv.mono (Dom.change hσ hs))
   ·exact False.elim q
  ·rename_i es hσ
   obtain ⟨tk,hl,q⟩:=q
   obtain ⟨z,rfl⟩:=Zeg (ZK tk).1 ri
   have ro:=i.tr _ _ hσ
   obtain ⟨xs,ds,n,g,e,rx,nd⟩:=ro
   have dx:s.heap.DictOfH (kind G) a xs:=⟨_,ds,n,g,⟨rfl,rfl,rfl⟩,rfl,e,rx.are,by rw [rx.keys]; exact nd⟩
   have len:xs.length=es.length:=by have:=congrArg List.length rx.keys; simpa using this
   refine wpAny_setItem_heap (knd:=kind G) (k:=iv) (by show A.units + 1 + 64 < cLine; exact o23 hu) (show (kind G).is s.heap iv z from (⟨tk,ri.any⟩:ZaL iv=true/\Rep G Zpz s.heap iv (.ref z))) dx (fun h' hd hs=>?_) (by rw [sizeLine_eq,len]; exact o43 hl)
   refine ⟨_,i.change hσ hs ?_,Evo.change hσ hs,⟨rfl,rfl⟩,q⟩
   obtain ⟨o,es',ep,ho,⟨c1,c2,c3⟩,hd',he',ar,nd'⟩:=hd
   have ob:o={ cls:=.type "dict",data:=.dict es' ep }:=by
    obtain ⟨oc,od,oda,osl⟩:=o
    simp only at c1 c2 c3 hd'
    subst c1 c2 c3 hd'
    rfl
   rw [ob] at ho
   have rx':=Zga.put (u:=v) (w:=u) tk (ri.mono (Dom.change hσ hs)) (rv.mono (Dom.change hσ hs)) (rx.mono (Dom.change (lo':=some (.dict (Zh6 iv v es))) hσ hs)) nd
   rcases rx' with ⟨⟨p,hp⟩,r'⟩ | ⟨hn,r'⟩
   ·rw [storedH_old hp] at he' nd'
    exact ⟨_,es',ep,ho,he',r',by rw [<- r'.keys]; exact nd'⟩
   ·rw [storedH_new hn] at he' nd'
    exact ⟨_,es',ep,ho,he',r',by rw [<- r'.keys]; exact nd'⟩
  ·rename_i es hσ
   split at q
   ·rename_i k
    obtain ⟨hl,hn,q⟩:=q
    refine ri.intE fun t=>?_
    obtain ⟨f,im,le,rf⟩:=i.tr _ _ hσ
    refine wpAny_setItem_intMap_le im le (by rw [sizeLine_eq]; exact o43 hl) fun h' im' le' hs=>?_
    refine ⟨_,i.change hσ hs ?_,Evo.change hσ hs,⟨rfl,rfl⟩,q⟩
    refine ⟨_,im',?_,fun j=>?_⟩
    ·rw [Zcd hn,List.length_append]; exact le'
    ·rw [Zcd hn,Zg0 hn]
     have rj:=rf j
     by_cases e:j=k
     ·subst e
      rw [if_pos rfl]
      exact ⟨u,by simp,rv.mono (Dom.change (lo':=some (.idict (Zhu j v es))) hσ hs) |> fun z=>by rw [Zcd hn] at z; exact z⟩
     ·rw [if_neg e]
      split at rj
      ·rename_i w hw
       obtain ⟨u',hu',ru'⟩:=rj
       refine ⟨u',by rw [if_neg e]; exact hu',?_⟩
       have:=ru'.mono (Dom.change (lo':=some (.idict (Zhu k v es))) hσ hs)
       rwa [Zcd hn] at this
      ·rename_i hw
       rw [if_neg e]; exact rj
   ·exact False.elim q
  ·exact False.elim q
 ·exact False.elim q
end
end
section
open PySem PySem.W PyProof.Rows PySem.Calls PySem.SeqAt Builtin.ObjectAttr
set_option maxRecDepth 10000
section
variable {M:Model} {A:Around} {E:Value->Shared->Prop} {s:Shared}
theorem ZmL {a:Addr} {m:Str->Option Value} {name:Str} {v:Value} {es:Array DictEntry} {n:Nat} {Q:Unit->Shared->Prop} (ho:s.heap.get? a=some { cls:=.type "dict",data:=.dict es n }) (hn:s.heap.Ns a m)
  (hQ:∀ h' es' n',h'.get? a=some { cls:=.type "dict",data:=.dict es' n' }->es'.size<=(if (m name).isSome=true then es.size else es.size + 1)->h'.Ns a (fun x=>if x=name then some v else m x)->Heap.SameBut a s.heap h'->Q () { s with heap:=h',toks:=s.toks + 1 }) :
  wpAny M A (nsSet a name v) Q E s:=by
 refine wpAny_mono (Q:=fun _ s'=>∃ h',s'={ s with heap:=h',toks:=s.toks + 1 }/\h'.Ns a (fun x=>if x=name then some v else m x)/\Heap.SameBut a s.heap h'/\∃ es' n',h'.get? a=some { cls:=.type "dict",data:=.dict es' n' }/\es'.size<=(if (m name).isSome=true then es.size else es.size + 1)) ?_ (fun _ s' hx=>?_) fun _ _ z=>z
 ·refine ZnU hn fun o es₁ ep ho₁ hd hk hm=>?_
  rw [ho] at ho₁; cases ho₁; cases hd
  have hany:es.any (·.refKey)=false:=by
   rw [Array.any_eq_false']; intro e he; obtain ⟨n,t,h⟩:=hk e he; simp [DictEntry.refKey,h]
  refine wpAny_bind (wpAny_bind (wpAny_askSetting (wpAny_pure (wpAny_bind (wpAny_mkText (wpAny_bind (wpAny_loadPart ho ?_)))))))
  simp only [aRefKeyMayBeTheName_eq,aRefKeyMayBeTheNameByArray,hany,Bool.and_false,Bool.false_eq_true,if_false]
  refine wpAny_updatePart ho ⟨_,rfl,?_,Heap.SameBut.update ..,?_⟩
  ·cases hi:es.findIdx? (·.key.isStr name) with
   | some i =>
    refine ⟨_,_,n,Heap.get?_update_self _ ho (by simp only [Obj.putName_eq,Obj.putNameByArray,hi]; rfl),by simp only [Obj.putName_eq,Obj.putNameByArray,hi]; rfl,hk.modify _ _,fun x=>?_⟩
    show _=if x=name then some v else m x
    rw [<- hm]; exact findBy_modify (fun n v=>v.isStr n) Value.isStr_inj es name x v i hi
   | none =>
    refine ⟨_,_,n + 1,Heap.get?_update_self _ ho (by simp only [Obj.putName_eq,Obj.putNameByArray,hi]; rfl),by simp only [Obj.putName_eq,Obj.putNameByArray,hi]; rfl,hk.push _ _ _ _,fun x=>?_⟩
    show _=if x=name then some v else m x
    rw [<- hm]
    exact findBy_push (fun n v=>v.isStr n) es name x _ _ v (fun y=>by
     show (name == y)=decide (y=name)
     by_cases h:y=name
     ·subst h; simp
     ·have:¬ name=y:=fun e=>h e.symm
      simp [h,this]) hi
  ·cases hi:es.findIdx? (·.key.isStr name) with
   | some i =>
    refine ⟨_,n,Heap.get?_update_self _ ho (by simp only [Obj.putName_eq,Obj.putNameByArray,hi]; rfl) |>.trans (by simp only [Obj.putName_eq,Obj.putNameByArray,hi]; rfl),?_⟩
    rw [Array.size_modify]
    split <;> omega
   | none =>
    refine ⟨_,n + 1,Heap.get?_update_self _ ho (by simp only [Obj.putName_eq,Obj.putNameByArray,hi]; rfl) |>.trans (by simp only [Obj.putName_eq,Obj.putNameByArray,hi]; rfl),?_⟩
    have hmn:m name=none:=by
     rw [<- hm]
     simp only [nsFind,findBy,Option.map_eq_none_iff]
     rw [Array.findIdx?_eq_none_iff] at hi
     rw [Array.find?_eq_none]
     intro x hx
     have:=hi x hx
     simp only [this,Bool.false_eq_true,not_false_eq_true]
    rw [hmn,Array.size_push]
    simp
 ·refine Zgf hx fun h' eQ0_1 h1 h2 hR0=>?_; subst eQ0_1; refine Zik hR0 fun es' n' h3 h4=>?_
  exact hQ h' es' n' h3 h4 h1 h2
end
section
variable {G:Glo} {K:Frag} {A:Around} {C:Cal} {sc:Scope} {P F:Addr->Prop} {σ:St} {s:Shared} {env:PySem.Env} {ρ:Env}
theorem Zf4:∀ (fs:Env) (x:Nat) (v:LV),(Zm fs x v).length=if (Zo fs x).isSome=true then fs.length else fs.length + 1
 | [],x,v=>by simp [Zm,Zo]
 | (y,u)::r,x,v=>by
  rw [ZqB,ZkI]
  by_cases e:x=y
  ·simp [e]
  ·rw [if_neg e,if_neg e,List.length_cons,Zf4 r x v,List.length_cons]
   split <;> rfl
theorem ZjJ (X:Facts G K) (R:Room A) {a d:Addr} {c x:Nat} {fs:Env} {v:LV} {u:Value} {Q:St->Prop} (hx:x < NN) (hm:G.T.meth c x=none) (hl:fs.length<=1000) (i:Inv G P σ s.heap) (hσ:σ a=some (.inst c d)) (hd:σ d=some (.ns fs)) (rv:Rep G (Dom P σ) s.heap v u)
  (q:Q (upd σ d (some (.ns (Zm fs x v))))):TT G A P F (setAttr (.ref a) (G.nm x) u) (fun _ σ' _=>Q σ') σ s:=by
 have kin:=i.kin X
 have g:=i.tr _ _ hσ
 refine Zpp (i.tr _ _ hd) fun m es n gd hz ns h1 h2=>?_
 have I:=Zdr (c:=c) g gd
 refine Ze (any_some (X.cDict c)) fun cd hcl hcd=>?_
 refine set_plain kin I (X.cSet c) (osa_open (s:={ s with toks:=s.toks + 1 }) (r:=none) kin I (X.cOver c) (by unfold takerIn; rw [(X.cNone c x hx hm).1]; rfl) fun b=>?_)
 refine wpAny_bind (wpAny_pure (wpAny_bind (wpAny_bind (wpAny_loadPart g (wpAny_bind (looks_clsIn kin hcl _ _ _ _ (fun _ _ e=>e) ?_))))))
 rw [hcd]
 refine wpAny_pure (a:=some d) (wpAny_bind (wpAny_pure (wpAny_bind ?_)))
 refine ZmL (s:={ s with toks:=s.toks + 1 }) gd ns fun h' es' n' go hsz hn hs=>?_
 have hiss:(m (G.nm x)).isSome=(Zo fs x).isSome:=by
  cases z:Zo fs x with
  | some w=>obtain ⟨u',hu',_⟩:=h1 x w z; rw [hu']; rfl
  | none =>
   rw [h2 (G.nm x) fun y hy e=>by
    have:=G.nmInj _ _ e
    subst this
    rw [z] at hy; cases hy]
   rfl
 have hsz':es'.size<=(Zm fs x v).length:=by
  rw [Zf4,<- hiss]
  split at hsz <;> rename_i w <;> simp only [w,if_true,Bool.false_eq_true,if_false] <;> omega
 refine wpAny_bind (wpAny_lookBehind go (pastItsLine_dict (by have:=Zf4 fs x v; rw [sizeLine_eq]; split at this <;> omega)) ?_)
 refine wpAny_pure ⟨_,i.change hd hs ?_,Evo.change hd hs,⟨rfl,rfl⟩,q⟩
 refine ⟨_,es',n',go,hsz',hn,fun y w e=>?_,fun y hy=>?_⟩
 ·rw [ZM] at e
  by_cases z:y=x
  ·subst z
   rw [if_pos rfl] at e; cases e
   exact ⟨u,by simp,rv.mono (Dom.change hd hs)⟩
  ·rw [if_neg z] at e
   refine Ze (h1 y w e) fun w' hw rw'=>?_
   exact ⟨w',by rw [if_neg fun z'=>z (G.nmInj _ _ z')]; exact hw,rw'.mono (Dom.change hd hs)⟩
 ·have ny:¬ y=G.nm x:=fun e=>hy x (by rw [ZM,if_pos rfl]; rfl) e.symm
  rw [if_neg ny]
  refine h2 y fun z hz=>hy z ?_
  rw [ZM]
  split
  ·rfl
  ·exact hz
end
end
section
open PySem PySem.W PyProof.Rows PySem.Calls PySem.SeqAt
set_option maxRecDepth 10000
noncomputable def Zpt (G:Glo) (P:Addr->Prop) (env:PySem.Env) (Q:Fl->Env->St->Prop):Flow->St->Shared->Prop:=fun fl σ s=>match fl with
 | .next=>∃ ρ,EnvRel G P σ s.heap env ρ/\Q .next ρ σ
 | .ret v=>∃ lv ρ,EnvRel G P σ s.heap env ρ/\Rep G (Dom P σ) s.heap lv v/\Q (.ret lv) ρ σ
 | _=>False
noncomputable def SO (G:Glo) (A:Around) (C:Cal) (sc:Scope) (ls:LS) (st:Stmt):Prop :=
 ∀ (P:Addr->Prop) (σ:St) (s:Shared) (env:PySem.Env) (ρ:Env) (Q:Fl->Env->St->Prop),env.scope=sc->Inv G P σ s.heap->EnvRel G P σ s.heap env ρ->wpS G.T C ls ρ Q σ->TT G A P (Z6 env) (exec st env) (Zpt G P env Q) σ s
noncomputable def SsO (G:Glo) (A:Around) (C:Cal) (sc:Scope) (ls:List LS) (sts:List Stmt):Prop :=
 ∀ (P:Addr->Prop) (σ:St) (s:Shared) (env:PySem.Env) (ρ:Env) (Q:Fl->Env->St->Prop),env.scope=sc->Inv G P σ s.heap->EnvRel G P σ s.heap env ρ->ZJ G.T C ls ρ Q σ->TT G A P (Z6 env) (execs sts env) (Zpt G P env Q) σ s
noncomputable def Zdi (sc:Scope):PySem.Env:={ scope:=sc,locals:=0,globals:=0,cells:=[],qual:="",func:=none,code:=.none,frame:=none,builtins:=0 }
theorem Zbn (ts:List Expr) (v:Expr) (l:Nat) (env:PySem.Env):swapsWithSole ts v l env=swapsWithSole ts v l (Zdi env.scope):=by cases ts with | nil=>rfl | cons t r=>cases r <;> rfl
theorem Zcp (ts:List Expr) (v:Expr) (env:PySem.Env):swappedStores ts v env=swappedStores ts v (Zdi env.scope):=rfl
theorem Zig (v:Expr) (t:Option Expr) (l:Nat) (env:PySem.Env):swapsWith v t l env=swapsWith v t l (Zdi env.scope):=rfl
section
variable {G:Glo} {K:Frag} {A:Around} {C:Cal} {sc:Scope} {P F:Addr->Prop} {σ:St} {s:Shared} {env:PySem.Env} {ρ:Env}
theorem SsO.nil:SsO G A C sc [] []:=fun P σ s env ρ Q hs i E q=>by
 exact TT.pure i ⟨ρ,E,q⟩
set_option backward.match.sparseCases true in
theorem SsO.cons {l:LS} {ls:List LS} {st:Stmt} {sts:List Stmt} (h1:SO G A C sc l st) (h2:SsO G A C sc ls sts):SsO G A C sc (l::ls) (st::sts):=fun P σ s env ρ Q hs i E q=>by
 show TT G A P (Z6 env) (exec st env >>= fun f=>match f with | .next=>execs sts env | f=>pure f) _ σ s
 refine TT.bind (TT.mono (h1 P σ s env ρ _ hs i E q) fun fl σ₁ s₁ i₁ e₁ _ x=>?_)
 cases fl with
 | next =>
  refine Ze x fun ρ₁ E₁ q₁=>?_
  exact h2 P σ₁ s₁ env ρ₁ Q hs i₁ E₁ q₁
 | ret v =>
  refine ZaM x fun lv ρ₁ E₁ r q₁=>?_
  exact TT.pure i₁ ⟨lv,ρ₁,E₁,r,q₁⟩
 | brk=>exact x.elim
 | cont=>exact x.elim
theorem SO.expr {e:LE} {e':Expr} {pos:Pos} (hk:sc.kind=.function) (hs':swapsWith e' none pos.line (Zdi sc)=pure false) (h:EO G A C sc e e'):SO G A C sc (.expr e) (.Expr e' pos):=fun P σ s env ρ Q hs i E q=>by
 have hi:interactive env=false:=by unfold interactive; rw [hs,hk]; rfl
 rw [exec_Expr env e' pos hi (by rw [Zig,hs]; exact hs')]
 refine TT.at (TT.bind (TT.weaken (TT.mono (h P σ s env ρ _ hs i E q) fun v σ₁ s₁ i₁ e₁ _ hQ0=>Ze hQ0 fun lv r q₁=>?_) fun _ z=>z.elim))
 exact wpAny_dropValue (Zan i₁ ⟨ρ,E.evo i e₁,q₁⟩)
theorem SO.ret {e:LE} {e':Expr} {pos:Pos} (h:EO G A C sc e e'):SO G A C sc (.ret e) (.Return (some e') pos):=fun P σ s env ρ Q hs i E q=>by
 rw [exec_Return_some]
 refine TT.at (TT.bind (TT.weaken (TT.mono (h P σ s env ρ _ hs i E q) fun v σ₁ s₁ i₁ e₁ _ hQ0=>Ze hQ0 fun lv r q₁=>?_) fun _ z=>z.elim))
 exact TT.pure i₁ ⟨lv,ρ,E.evo i e₁,r,q₁⟩
theorem SO.ifs {t:LE} {a b:List LS} {t':Expr} {a' b':List Stmt} {pos:Pos} (ht:BO G A C sc t t') (ha:SsO G A C sc a a') (hb:SsO G A C sc b b'):SO G A C sc (.ifs t a b) (.If t' a' b' pos):=fun P σ s env ρ Q hs i E q=>by
 rw [exec_If]
 refine TT.at (TT.bind (TT.weaken (TT.mono (ht P σ s env ρ _ hs i E q) fun c σ₁ s₁ i₁ e₁ _ q₁=>?_) fun _ z=>z.elim))
 cases c with
 | true=>exact ha P σ₁ s₁ env ρ Q hs i₁ (E.evo i e₁) (q₁.1 rfl)
 | false=>exact hb P σ₁ s₁ env ρ Q hs i₁ (E.evo i e₁) (q₁.2 rfl)
noncomputable def Zaz (nm:Nat->Str) (sc:Scope) (x:Nat):Bool:=sc.names.lookup (nm x) == some .local || sc.names.lookup (nm x) == some .cell
theorem ZbB {x:Nat} (h:Zaz G.nm sc x=true) (hs:env.scope=sc):Zgg G (Z6 env) env x:=by
 unfold Zaz at h
 simp only [Bool.or_eq_true,beq_iff_eq] at h
 refine Or.elim h (fun h=>?_) fun h=>?_
 ·exact .inl (by unfold Env.kindOf; rw [hs]; exact h)
 ·exact .inr ⟨by unfold Env.kindOf; rw [hs]; exact h,fun _ f=>f⟩
theorem Zcb (targets:List Expr) (value:Expr) (pos:Pos):exec (.Assign targets value pos) env=(do
  standAt pos
  if <- swapsWithSole targets value pos.line env then do
   evalThenUse value env fun v=>assignAll v ((assignEach targets env).map (·.2))
   pure .next
  else do
   let v <- eval value env
   assignStores env v (<- swappedStores targets value env) ((assignEach targets env).map (·.2))):=rfl
theorem SO.asg_any {te:Expr} {value:Expr} {pos:Pos} {ls:LS} (hst:ZbU te=true) (hs1:swapsWithSole [te] value pos.line (Zdi sc)=pure false) (hs2:swappedStores [te] value (Zdi sc)=pure none)
  (h:∀ (P:Addr->Prop) (σ:St) (s:Shared) (env:PySem.Env) (ρ:Env) (Q:Fl->Env->St->Prop),env.scope=sc->Inv G P σ s.heap->EnvRel G P σ s.heap env ρ->wpS G.T C ls ρ Q σ->
   TT G A P (Z6 env) (eval value env >>= fun v=>assign te env v) (fun _ σ' s'=>∃ ρ',EnvRel G P σ' s'.heap env ρ'/\Q .next ρ' σ') σ s):SO G A C sc ls (.Assign [te] value pos):=fun P σ s env ρ Q hs i E q=>by
 rw [Zcb,Zbn,hs,hs1]
 refine TT.at (wpAny_bind (wpAny_pure ?_))
 rw [if_neg (by decide)]
 have hae:(assignEach [te] env).map (·.2)=[assign te env]:=by cases te <;> first | rfl | cases hst
 have key:(eval value env >>= fun v=>swappedStores [te] value env >>= fun r=>assignStores env v r ((assignEach [te] env).map (·.2)))=((eval value env >>= fun v=>assign te env v) >>= fun _=>pure .next):=by
  rw [Zcp,hs,hs2,hae,bind_assoc]
  rfl
 show wpAny _ _ (eval value env >>= fun v=>swappedStores [te] value env >>= fun r=>assignStores env v r ((assignEach [te] env).map (·.2))) _ _ _
 rw [key]
 exact TT.bind (TT.mono (h P σ s env ρ Q hs i E q) fun _ σ₁ s₁ i₁ e₁ _ x=>TT.pure i₁ x)
theorem ZcG {t:Tg} {te:Expr} (h:Zhs G t te):ZbU te=true:=by
 cases t with
 | nm x=>obtain ⟨p,rfl⟩:=h; rfl
 | tp xs=>obtain ⟨es,c,p,rfl,_⟩:=h; rfl
theorem SO.asg (R:Room A) {t:Tg} {te:Expr} {e:LE} {e':Expr} {pos:Pos} (ht:Zhs G t te) (hc:∀ x ∈ ZW t,Zaz G.nm sc x=true) (hs1:swapsWithSole [te] e' pos.line (Zdi sc)=pure false) (hs2:swappedStores [te] e' (Zdi sc)=pure none) (h:EO G A C sc e e') :
  SO G A C sc (.asg t e) (.Assign [te] e' pos):=SO.asg_any (ZcG ht) hs1 hs2 fun P σ s env ρ Q hs i E q=>by
 refine TT.bind (TT.weaken (TT.mono (h P σ s env ρ _ hs i E q) fun v σ₁ s₁ i₁ e₁ _ hQ0=>Ze hQ0 fun lv r q₁=>?_) fun _ z=>z.elim)
 refine Ze (Zi.mp q₁) fun ρ₁ hρ q₂=>?_
 exact ZcZ R ht (fun x hx=>ZbB (hc x hx) hs) hρ i₁ (E.evo i e₁) (.inl rfl) r fun h' tk E' i' kd=>⟨ρ₁,E',q₂⟩
theorem SO.asgA (X:Facts G K) (R:Room A) {o:LE} {x:Nat} {n:Str} {e:LE} {o' e':Expr} {tpos pos:Pos} (hn:G.nm x=n) (hx:x < NN) (hs1:swapsWithSole [.Attribute o' n tpos] e' pos.line (Zdi sc)=pure false) (hs2:swappedStores [.Attribute o' n tpos] e' (Zdi sc)=pure none)
  (h:EO G A C sc e e') (ho:EO G A C sc o o'):SO G A C sc (.asgA o x e) (.Assign [.Attribute o' n tpos] e' pos):=SO.asg_any rfl hs1 hs2 fun P σ s env ρ Q hs i E q=>by
 subst hn
 refine TT.bind (TT.weaken (TT.mono (h P σ s env ρ _ hs i E q) fun v σ₁ s₁ i₁ e₁ _ hQ0=>Ze hQ0 fun lv r q₁=>?_) fun _ z=>z.elim)
 have E₁:=E.evo i e₁
 rw [arm_assign_Attribute]
 refine TT.bind (TT.holding (TT.weaken (TT.mono (ho P σ₁ s₁ env ρ _ hs i₁ E₁ q₁) fun ov σ₂ s₂ i₂ e₂ _ hQ0=>Ze hQ0 fun olv ro q₂=>?_) fun _ z=>z.elim))
 have E₂:=E₁.evo i₁ e₂
 refine TT.at ?_
 dsimp only at q₂
 split at q₂
 ·rename_i a
  subst ro
  split at q₂
  ·rename_i c d hσ
   split at q₂
   ·rename_i fs hd
    refine Zbp q₂ fun hm hl q₃=>?_
    refine TT.bind (TT.holding (TT.weaken (TT.mono (ZjJ (F:=noF) (Q:=fun σ'=>σ'=upd σ₂ d (some (.ns (Zm fs x lv)))) X R hx hm hl i₂ hσ hd (r.evo e₂ fun _ z=>z.elim) rfl) fun _ σ₃ s₃ i₃ e₃ _ hσ₃=>?_) fun _ z=>z.elim))
    subst hσ₃
    exact TT.release i₃ ⟨ρ,E₂.evo i₂ e₃,q₃⟩
   ·exact False.elim q₂
  ·exact False.elim q₂
 ·exact False.elim q₂
theorem SO.asgI (X:Facts G K) (R:Room A) {o j e:LE} {o' j' e':Expr} {tpos pos:Pos} (hs1:swapsWithSole [.Subscript o' j' tpos] e' pos.line (Zdi sc)=pure false) (hs2:swappedStores [.Subscript o' j' tpos] e' (Zdi sc)=pure none)
  (h:EO G A C sc e e') (ho:EO G A C sc o o') (hj:EO G A C sc j j'):SO G A C sc (.asgI o j e) (.Assign [.Subscript o' j' tpos] e' pos):=SO.asg_any rfl hs1 hs2 fun P σ s env ρ Q hs i E q=>by
 refine TT.bind (TT.weaken (TT.mono (h P σ s env ρ _ hs i E q) fun v σ₁ s₁ i₁ e₁ _ hQ0=>Ze hQ0 fun lv r q₁=>?_) fun _ z=>z.elim)
 have E₁:=E.evo i e₁
 rw [arm_assign_Subscript]
 refine TT.bind (TT.holding (TT.weaken (TT.mono (ho P σ₁ s₁ env ρ _ hs i₁ E₁ q₁) fun ov σ₂ s₂ i₂ e₂ _ hQ0=>Ze hQ0 fun olv ro q₂=>?_) fun _ z=>z.elim))
 have E₂:=E₁.evo i₁ e₂
 refine TT.bind (TT.holding (TT.weaken (TT.mono (hj P σ₂ s₂ env ρ _ hs i₂ E₂ q₂) fun iv σ₃ s₃ i₃ e₃ _ hQ0=>Ze hQ0 fun ilv ri q₃=>?_) fun _ z=>z.elim))
 have E₃:=E₂.evo i₂ e₃
 refine TT.at ?_
 have q₄:Zq1 olv ilv lv (fun σ'=>Q .next ρ σ') σ₃:=by unfold Zq1; exact q₃
 refine TT.bind (TT.holding (TT.weaken (TT.mono (Zqv (F:=noF) X.base R i₃ q₄ (ro.evo e₃ fun _ z=>z.elim) ri ((r.evo e₂ fun _ z=>z.elim).evo e₃ fun _ z=>z.elim)) fun _ σ₄ s₄ i₄ e₄ _ q₅=>?_) fun _ z=>z.elim))
 exact TT.release i₄ ⟨ρ,E₃.evo i₃ e₄,q₅⟩
noncomputable def ZrX (o:Operator) (ρ:Env) (x:Nat) (Q:Fl->Env->St->Prop) (a b:LV) (σ₁:St):Prop:=ZC (asI a) fun _=>ZC (asI b) fun _=>ZC (ZdT o σ₁ a b) fun c=>Q .next (Zm ρ x c) σ₁
set_option maxHeartbeats 4000000 in
theorem SO.aug (R:Room A) {x:Nat} {n:Str} {o:Operator} {e:LE} {e':Expr} {npos pos:Pos} (hn:G.nm x=n) (ho:o=.Sub\/o=.Add) (hc:Zaz G.nm sc x=true) (hcd:(n == ("__classdict__" : Str))=false) (h:EO G A C sc e e') :
  SO G A C sc (.aug x o e) (.AugAssign (.Name n npos) o e' pos):=fun P σ s env ρ Q hs i E q=>by
 subst hn
 refine Ze (Zi.mp q) fun a ha q=>?_
 replace q:wpE G.T C e ρ (fun b σ₁=>ZrX o ρ x Q a b σ₁) σ:=q
 rw [exec_AugAssign_Name]
 have hcan:=ZbB (env:=env) hc hs
 have hloc:ZfI (env.kindOf (G.nm x))=true:=by
  rcases hcan with h | ⟨h,_⟩ <;> rw [h] <;> rfl
 refine TT.at (TT.bind (TT.weaken (TT.mono (Zk5 (F:=noF) (Q:=fun lv σ'=>lv=a/\wpE G.T C e ρ (fun b σ₁=>ZrX o ρ x Q a b σ₁) σ') i E ha hloc hcd ⟨rfl,q⟩) fun old σ₁ s₁ i₁ e₁ _ hQ0=>Zdk hQ0 fun lv ra hlv q₁=>?_) fun _ z=>z.elim))
 subst hlv
 have E₁:=E.evo i e₁
 refine TT.bind (TT.holding (TT.weaken (TT.mono (h P σ₁ s₁ env ρ _ hs i₁ E₁ q₁) fun v σ₂ s₂ i₂ e₂ _ hQ0=>Ze hQ0 fun b rb q₂=>?_) fun _ z=>z.elim))
 have E₂:=E₁.evo i₁ e₂
 have ra:=ra.evo e₂ fun _ z=>z.elim
 obtain ⟨n,m,hn,hm,q₃⟩:∃ n m,lv=.int n/\b=.int m/\ZC (ZdT o σ₂ lv b) fun c=>Q .next (Zm ρ x c) σ₂:=by
  refine Ze (Zi.mp q₂) fun n e1 q₂=>?_
  refine Ze (Zi.mp q₂) fun m e2 q₂=>?_
  exact ⟨n,m,ZP e1,ZP e2,q₂⟩
 subst hn hm
 refine Ze (Zi.mp q₃) fun c hc' q₄=>?_
 refine ra.intE fun t=>?_
 refine rb.intE fun u=>?_
 refine TT.at (TT.bind (TT.operate (TT.weaken (TT.mono (Ψ:=fun v σ' s'=>σ'=σ₂/\Rep G (Dom P σ₂) s'.heap c v) (Zn5 (F:=noF) i₂ ho hc' fun v tk r=>⟨rfl,r⟩) fun v σ₃ s₃ i₃ e₃ _ hQ0=>ZL hQ0 fun hσ rc=>?_) fun _ z=>z.elim)))
 subst hσ
 exact TT.at (TT.bind (wpAny_bindName (ZdZ (Ψ:=fun _ σ' s'=>TT G A P (Z6 env) (pure Flow.next) (Zpt G P env Q) σ' s') i₃ (E₂.evo i₂ e₃) (ZbB hc hs) (.inl rfl) rc fun h' tk E' i' kd=>TT.pure (a:=Flow.next) (Ψ:=Zpt G P env Q) (s:={ s₃ with heap:=h',toks:=tk }) i' ⟨_,E',q₄⟩)))
theorem SO.whl {t:LE} {b:List LS} {t':Expr} {b':List Stmt} {pos:Pos} (ht:BO G A C sc t t') (hb:SsO G A C sc b b'):SO G A C sc (.whl t b) (.While t' b' [] pos):=fun P σ s env ρ Q hs i E q=>by
 refine ZU q fun n q=>?_
 refine wpAny_While ?_
 refine codeAny_whileLoop (fun k s'=>∃ ρ' σ',Inv G P σ' s'.heap/\EnvRel G P σ' s'.heap env ρ'/\Evo (Z6 env) σ s.heap σ' s'.heap/\ZaF s s'/\Zpo (fun ρ Q σ=>wpB G.T C t ρ Q σ) (fun ρ Q σ=>ZJ G.T C b ρ Q σ) k ρ' Q σ') (fun k s' hI=>?_) n ⟨ρ,σ,i,E,Evo.refl _ _ _,.refl _,q⟩
 refine Zw1 hI fun ρ' σ' i' E' ev ks q'=>?_
 cases k with
 | zero=>exact q'.elim
 | succ k =>
  refine wpAny_mono (ht P σ' s' env ρ' _ hs i' E' q') (fun c s₂ hQ0=>Zgf hQ0 fun σ₂ i₂ e₂ k₂ q₂=>?_) fun _ _ z=>z.elim
  have E₂:=E'.evo i' e₂
  have ev₂:=ev.trans (e₂.weaken (F':=Z6 env) fun _ z=>z.elim)
  cases c with
  | false =>
   rw [if_neg (by decide)]
   exact wpAny_pure ⟨σ₂,i₂,ev₂,ks.trans k₂,ρ',E₂,q₂⟩
  | true =>
   rw [if_pos rfl]
   refine wpAny_mono (hb P σ₂ s₂ env ρ' _ hs i₂ E₂ q₂) (fun fl s₃ hQ0=>Zgf hQ0 fun σ₃ i₃ e₃ k₃ x=>?_) fun _ _ z=>z.elim
   cases fl with
   | next =>
    refine Ze x fun ρ₃ E₃ q₃=>?_
    exact ⟨k,Nat.lt_succ_self _,ρ₃,σ₃,i₃,E₃,ev₂.trans e₃,ks.trans (k₂.trans k₃),q₃⟩
   | ret v =>
    refine ZaM x fun lv ρ₃ E₃ r q₃=>?_
    exact ⟨σ₃,i₃,ev₂.trans e₃,ks.trans (k₂.trans k₃),lv,ρ₃,E₃,r,q₃⟩
   | brk=>exact x.elim
   | cont=>exact x.elim
theorem Inv.outI {h h':Heap} {I:Addr} (i:Inv G (ZX P I) σ h) (hI:¬ P I) (hs:∀ b o,b ≠ I->h.get? b=some o->h'.get? b=some o):Inv G P σ h' :=
 i.conv (N:=fun b=>b=I) (fun b e=>.inr e) (fun b o g n=>hs b o n g) (fun b p=>⟨(i.dis b (.inl p)).1,(i.dis b (.inl p)).2.1,by
  refine ZU ((i.dis b (.inl p)).2.2) fun o ho=>?_
  exact ⟨o,hs b o (fun e=>hI (e ▸ p)) ho⟩⟩) fun b o g n p=>n (.inl p)
theorem Zrp {h h':Heap} {I:Addr} (hs:∀ b o,b ≠ I->h.get? b=some o->h'.get? b=some o):∀ b o,h.get? b=some o->Dom (ZX P I) σ b->Dom P σ b/\h'.get? b=some o:=fun b o g d=>⟨⟨d.1,fun p=>d.2 (.inl p)⟩,hs b o (fun e=>d.2 (.inr e)) g⟩
theorem SO.for_ (R:Room A) {t:Tg} {te:Expr} {e:LE} {e':Expr} {b:List LS} {b':List Stmt} {pos:Pos} (ht:Zhs G t te) (hc:∀ x ∈ ZW t,Zaz G.nm sc x=true) (hfold:∀ env x,foldedSetIterable e' env x=pure x) (h:EO G A C sc e e') (hb:SsO G A C sc b b') :
  SO G A C sc (.for_ t e b) (.For te e' b' [] pos):=fun P σ s env ρ Q hs i E q=>by
 refine wpAny_For (wpAny_mono (h P σ s env ρ _ hs i E q) (fun x s₁ ⟨σ₁,i₁,e₁,k₁,iv,riv,q₁⟩=>?_) fun _ _ z=>z.elim) (fun x=>hfold env x)
 refine Ze (Zi.mp q₁) fun xs hxs q₂=>?_
 have E₁:=E.evo i e₁
 refine ZeG i₁ riv hxs fun oI itI=>?_
 generalize hI:s₁.heap.objs.size=I at itI ⊢
 have i₂:Inv G (ZX P I) σ₁ (s₁.heap.push oI):=by rw [<- hI] at itI ⊢; exact i₁.addI itI.there
 have nI:¬ P I:=by rw [<- hI]; exact i₁.size_pub
 have nothere:s₁.heap.get? I=none:=by rw [<- hI]; exact Zau
 have pI:ZX P I I:=.inr rfl
 have dom2:∀ b o,s₁.heap.get? b=some o->Dom P σ₁ b->Dom (ZX P I) σ₁ b/\(s₁.heap.push oI).get? b=some o:=fun b o g d=>⟨⟨d.1,fun hb=>hb.elim d.2 fun e=>by rw [e,nothere] at g; cases g⟩,Zg _ _ _ g⟩
 have E₂:EnvRel G (ZX P I) σ₁ (s₁.heap.push oI) env ρ:=E₁.conv (N:=noF) (.inl E₁.pL) (fun n c e=>.inl (E₁.pC n c e).1) (fun b o g _=>Zg _ _ _ g) dom2
 have it₂:ZaQ G (Dom (ZX P I) σ₁) (s₁.heap.push oI) I xs:=itI.mono (fun _ g=>g) fun b o g d=>⟨⟨d.1.1,fun hb=>hb.elim d.1.2 d.2⟩,g⟩
 have hIl:∀ env':PySem.Env,env'=env->∀ b,(b=env.locals\/∃ n,env.cells.lookup n=some b)->b ≠ I:=fun _ _ b hb e=>by
  subst e
  rcases hb with rfl | ⟨n,hb⟩
  ·exact nI E₁.pL
  ·exact nI (E₁.pC n b hb).1
 have hfrI:¬ Z6 env I:=fun f=>by
  rcases f with e | ⟨n,_,hb⟩
  ·exact hIl env rfl _ (.inl rfl) e.symm
  ·exact hIl env rfl _ (.inr ⟨n,hb⟩) rfl
 refine codeAny_forLoop_any (fun k s'=>∃ (xs:List LV) (ρ':Env) (σ':St),k=xs.length/\Inv G (ZX P I) σ' s'.heap/\EnvRel G (ZX P I) σ' s'.heap env ρ'/\ZaQ G (Dom (ZX P I) σ') s'.heap I xs/\Evo (ZX (Z6 env) I) σ₁ s₁.heap σ' s'.heap/\ZaF s₁ s'/\
   Ze6 t (fun ρ Q σ=>ZJ G.T C b ρ Q σ) xs ρ' Q σ') (fun k s' hI'=>?_) xs.length ⟨xs,ρ,σ₁,rfl,i₂,E₂,it₂,Evo.push _,⟨rfl,rfl⟩,q₂⟩
 refine Zw3 hI' fun xs ρ' σ' eQ0_3 i' E' it' ev ks q'=>?_; subst eQ0_3
 have evo_out:∀ {σ'':St} {h'':Heap},Evo (ZX (Z6 env) I) σ₁ s₁.heap σ'' h''->Evo (Z6 env) σ s.heap σ'' h'':=fun ev=>((e₁.weaken (F':=Z6 env) fun _ z=>z.elim).trans (Evo.refl _ _ _)).trans ((Evo.refl (Z6 env) σ₁ s₁.heap).outer ev fun b hb=>hb.elim .inl fun e=>.inr (by rw [e]; exact nothere))
 cases xs with
 | nil =>
  refine ZeI R it' fun h' hs'=>wpAny_pure ?_
  have out:=fun b o (n:b ≠ I) (g:s'.heap.get? b=some o)=>hs' b o n g
  refine ⟨σ',i'.outI nI out,evo_out (ev.trans fun b o g n f=>⟨out b o (fun e=>f (.inr e)) g,n⟩),k₁.trans ks,ρ',?_,q'⟩
  exact E'.conv (N:=noF) E₁.pL (fun n c e=>(E₁.pC n c e).1) (fun b o g hb=>out b o (hIl env rfl b hb) g) (Zrp out)
 | cons x xs =>
  refine Ze (Zi.mp q') fun ρx hρ q'=>?_
  refine Zhg pI it' fun u h' tk ru it'' hs'=>?_
  have t':∃ o,h'.get? I=some o:=it''.there
  have i'':=i'.priv pI hs' t'
  have E'':=E'.priv pI hs' (hIl env rfl)
  have ev'':Evo (ZX (Z6 env) I) σ₁ s₁.heap σ' h':=ev.trans (Evo.priv hs' (.inr rfl))
  refine ZgW (s:={ s' with heap:=h',toks:=tk }) it'' ?_
  refine wpAny_mono (ZcZ (F:=Z6 env) (s:={ s' with heap:=h',toks:=tk }) (Ψ:=fun _ σ₂ s₂=>σ₂=σ'/\EnvRel G (ZX P I) σ₂ s₂.heap env ρx) R ht (fun y hy=>ZbB (hc y hy) hs) hρ i'' E'' (.inl rfl) ru fun h₂ tk₂ E₂ i₂ kd=>⟨rfl,E₂⟩) (fun _ s₂ hx=>?_) fun _ _ z=>z.elim
  refine Zq3 hx fun σ₂ i₂ e₂ k₂ hσ₂ E₂=>?_
  refine wpAny_mono (hb (ZX P I) σ₂ s₂ env ρx _ hs i₂ E₂ (hσ₂ ▸ q')) (fun fl s₃ hQ0=>Zgf hQ0 fun σ₃ i₃ e₃ k₃ x=>?_) fun _ _ z=>z.elim
  have ev₃:Evo (ZX (Z6 env) I) σ₁ s₁.heap σ₃ s₃.heap:=ev''.trans ((e₂.trans e₃).weaken fun b f=>.inl f)
  have ks₃:ZaF s₁ s₃:=ks.trans (ZaF.trans ⟨rfl,rfl⟩ (k₂.trans k₃))
  have hFP:∀ b,Z6 env b->ZX P I b:=fun b f=>by
   rcases f with e | ⟨n,_,hb⟩
   ·exact .inl (e ▸ E₁.pL)
   ·exact .inl (E₁.pC n b hb).1
  cases fl with
  | next =>
   refine Ze x fun ρ₃ E₃ q₃=>?_
   refine ⟨xs.length,Nat.lt_succ_self _,xs,ρ₃,σ₃,rfl,i₃,E₃,?_,ev₃,ks₃,q₃⟩
   have e₂₃:=e₂.trans e₃
   refine it''.mono (fun o g=>(e₂₃ I o g (i''.dis I pI).1 hfrI).1) fun b o g d=>?_
   have z:=e₂₃ b o g d.1 fun f=>d.2 (hFP b f)
   exact ⟨⟨z.2,d.2⟩,z.1⟩
  | ret v =>
   refine ZaM x fun lv ρ₃ E₃ r q₃=>?_
   have out:∀ b o,b ≠ I->s₃.heap.get? b=some o->s₃.heap.get? b=some o:=fun b o n g=>g
   exact ⟨σ₃,i₃.outI nI out,evo_out ev₃,k₁.trans ks₃,lv,ρ₃,E₃.conv (N:=noF) E₁.pL (fun n c e=>(E₁.pC n c e).1) (fun b o g hb=>g) (Zrp out),r.mono (Zrp out),q₃⟩
  | brk=>exact x.elim
  | cont=>exact x.elim
end
section
variable {G:Glo} {K:Frag} {A:Around} {C:Cal} {sc:Scope} {P F:Addr->Prop} {σ:St} {s:Shared} {env:PySem.Env} {ρ:Env}
theorem Zio (hP:P env.locals) (hF:F env.locals):∀ {xs:List Nat} {vs:List LV} {us:List Value} {ρ ρ₁:Env} {s:Shared} {Ψ:Unit->St->Shared->Prop},(∀ x ∈ xs,Zgg G F env x)->
  Zay xs vs ρ=some ρ₁->Zz G (Dom P σ) s.heap vs us->Inv G P σ s.heap->EnvRel G P σ s.heap env ρ->
  (∀ h' tk,EnvRel G P σ h' env ρ₁->Inv G P σ h'->(∀ b o,s.heap.get? b=some o->Dom P σ b->h'.get? b=some o)->Ψ () σ { s with heap:=h',toks:=tk })->
  TT G A P F (assignInOrder (xs.map fun x=>bindName env (G.nm x)) us) Ψ σ s
 | [],vs,us,ρ,ρ₁,s,Ψ,_,hb,ru,i,E,q=>by
  cases vs with
  | nil=>cases hb; cases ru.nil_eq; exact wpAny_pure (Zan i (q s.heap s.toks E i fun _ _ e _=>e))
  | cons v vs=>exact nos hb
 | x::xs,vs,us,ρ,ρ₁,s,Ψ,hc,hb,ru,i,E,q=>by
  cases vs with
  | nil=>exact nos hb
  | cons v vs =>
   refine ru.unE fun u us rv rvs=>?_
   show TT G A P F (holding us (bindName env (G.nm x) u) >>= fun _=>assignInOrder (xs.map fun x=>bindName env (G.nm x)) us) Ψ σ s
   refine TT.bind (TT.holding ?_)
   refine wpAny_bindName (ZdZ i E (hc x List.mem_cons_self) hF rv fun h' tk E' i' kd=>?_)
   refine Zio hP hF (fun y hy=>hc y (List.mem_cons_of_mem _ hy)) hb (rvs.mono fun b o g d=>⟨d,kd b o g d⟩) i' E' fun h'' tk' E'' i'' kd'=>?_
   exact q h'' tk' E'' i'' fun b o g d=>kd' b o (kd b o g d) d
theorem Zz.reverse {D:Addr->Prop} {h:Heap}:∀ {vs:List LV} {us:List Value},Zz G D h vs us->Zz G D h vs.reverse us.reverse
 | [],us,r=>by cases r.nil_eq; exact .nil
 | v::vs,us,r=>by
  refine r.unE fun x xs r1 r2=>?_
  rw [List.reverse_cons,List.reverse_cons]
  exact (Zz.reverse r2).append (.one r1)
theorem Zl7 {xs:List Nat} {vs:List LV} {ρ ρ₁:Env} (hn:xs.Nodup) (hl:xs.length=2\/xs.length=3) (h:Zay xs vs ρ=some ρ₁):∃ ρ₂,Zay xs.reverse vs.reverse ρ=some ρ₂/\∀ y,Zo ρ₁ y=Zo ρ₂ y:=by
 have hv:=ZbJ h
 rcases hl with hl | hl
 ·obtain ⟨a,b,rfl⟩:=Zr5 hl
  obtain ⟨u,v,rfl⟩:=Zr5 hv.symm
  cases h
  simp at hn
  refine ⟨_,rfl,fun y=>?_⟩
  simp only [ZM]
  by_cases e1:y=a
  ·subst e1; simp [hn]
  ·by_cases e2:y=b
   ·subst e2; simp [e1]
   ·simp [e1,e2]
 ·obtain ⟨a,b,c,rfl⟩:=Zr6 hl
  obtain ⟨u,v,w,rfl⟩:=Zr6 hv.symm
  cases h
  simp at hn
  obtain ⟨⟨h1,h2⟩,h3⟩:=hn
  refine ⟨_,rfl,fun y=>?_⟩
  simp only [ZM]
  by_cases e1:y=a
  ·subst e1; simp [h1,h2]
  ·by_cases e2:y=b
   ·subst e2; simp [e1,h3]
   ·by_cases e3:y=c
    ·subst e3; simp [e1,e2]
    ·simp [e1,e2,e3]
theorem SO.asg_swap (R:Room A) {xs:List Nat} {te:Expr} {e:LE} {e':Expr} {pos:Pos} (ht:Zhs G (.tp xs) te) (hn:xs.Nodup) (hl:xs.length=2\/xs.length=3) (hc:∀ x ∈ xs,Zaz G.nm sc x=true) (hs1:swapsWithSole [te] e' pos.line (Zdi sc)=pure false)
  (hs2:swappedStores [te] e' (Zdi sc)=pure (some (xs.map G.nm))) (h:EO G A C sc e e'):SO G A C sc (.asg (.tp xs) e) (.Assign [te] e' pos):=fun P σ s env ρ Q hs i E q=>by
 rw [Zcb,Zbn,hs,hs1]
 refine TT.at (wpAny_bind (wpAny_pure ?_))
 rw [if_neg (by decide)]
 show TT G A P (Z6 env) (eval e' env >>= fun v=>swappedStores [te] e' env >>= fun r=>assignStores env v r ((assignEach [te] env).map (·.2))) _ σ s
 refine TT.bind (TT.weaken (TT.mono (h P σ s env ρ _ hs i E q) fun v σ₁ s₁ i₁ e₁ _ hQ0=>Ze hQ0 fun lv r q₁=>?_) fun _ z=>z.elim)
 have E₁:=E.evo i e₁
 refine Ze (Zi.mp q₁) fun ρ₁ hρ q₂=>?_
 refine Ze (Zfs hρ) fun vs hv hb=>?_
 rw [Zcp,hs,hs2]
 refine wpAny_bind (wpAny_pure ?_)
 show TT G A P (Z6 env) (rule "assign.swapped-stores" >>= fun _=>unpackItems v (xs.map G.nm).length none >>= fun items=>assignInOrder ((xs.map G.nm).reverse.map fun n=>bindName env n) items.reverse >>= fun _=>pure Flow.next) _ σ₁ s₁
 refine wpAny_bind (wpAny_rule ?_)
 rw [List.length_map,ZbJ hb]
 refine Ze (Zl7 hn hl hb) fun ρ₂ hb₂ same=>?_
 refine TT.bind (ZcH R i₁ r hv fun us h' k ru=>?_)
 have hmap:(xs.map G.nm).reverse.map (fun n=>bindName env n)=xs.reverse.map fun x=>bindName env (G.nm x):=by rw [<- List.map_reverse,List.map_map]; rfl
 rw [hmap]
 refine TT.bind (Zio (F:=Z6 env) E₁.pL (.inl rfl) (fun x hx=>ZbB (hc x (List.mem_reverse.mp hx)) hs) hb₂ ru.reverse (i₁.keeps k) (E₁.keeps k) fun h'' tk E' i' kd=>?_)
 exact TT.pure (a:=Flow.next) (Ψ:=Zpt G P env Q) (s:={ s₁ with heap:=h'',toks:=tk }) i' ⟨ρ₁,E'.sub fun y v e=>by rw [<- same]; exact e,q₂⟩
theorem SO.asg_use (R:Room A) {t:Tg} {te:Expr} {e:LE} {e':Expr} {pos:Pos} (ht:Zhs G t te) (hc:∀ x ∈ ZW t,Zaz G.nm sc x=true) (hlc:ZnD e'=true) (hs1:swapsWithSole [te] e' pos.line (Zdi sc)=pure true) (h:CO G A C sc e e') :
  SO G A C sc (.asg t e) (.Assign [te] e' pos):=fun P σ s env ρ Q hs i E q=>by
 rw [Zcb,Zbn,hs,hs1]
 refine TT.at (wpAny_bind (wpAny_pure ?_))
 rw [if_pos rfl]
 have hst:=ZcG ht
 have hae:(assignEach [te] env).map (·.2)=[assign te env]:=by cases te <;> first | rfl | cases hst
 rw [hae]
 have key:evalThenUse e' env (fun v=>assignAll v [assign te env])=(Zki e' env (some fun v=>assign te env v) >>= fun _=>pure ()):=by cases e' <;> first | rfl | cases hlc
 rw [key]
 refine wpAny_bind (wpAny_bind ?_)
 refine h P σ s env ρ _ (some fun v=>assign te env v) _ _ hs i E q fun a L σ' s' hL i' ⟨m,hm⟩ ev ks ⟨lv,r,qq⟩=>?_
 refine Ze (Zi.mp qq) fun ρ₁ hρ q₂=>?_
 have hPL:¬ P L:=fun p=>by
  refine Zbp (i.dis L p) fun x y hR0=>?_; refine ZU hR0 fun o ho=>?_
  exact hL L o ho x rfl
 have neL:∀ b,(b=env.locals\/∃ n,env.cells.lookup n=some b)->b ≠ L:=fun b hb e=>by
  subst e
  rcases hb with rfl | ⟨n,hb⟩
  ·exact hPL E.pL
  ·exact hPL (E.pC n b hb).1
 have E':EnvRel G (ZX P L) σ' s'.heap env ρ:=E.conv (N:=noF) (.inl E.pL) (fun n c e=>.inl (E.pC n c e).1) (fun b o g hb=>by
   have nb:σ b=none:=by
    rcases hb with rfl | ⟨n,hb⟩
    ·exact (i.dis _ E.pL).1
    ·exact (i.dis _ (E.pC n b hb).1).1
   exact (ev b o g nb fun z=>z).1) fun b o g d=>⟨⟨(ev b o g d.1 fun z=>z).2,fun hb=>hb.elim d.2 (hL b o g d.1)⟩,(ev b o g d.1 fun z=>z).1⟩
 show wpAny _ A (assign te env (.ref a)) _ _ s'
 refine wpAny_mono (ZcZ (F:=Z6 env) (Ψ:=fun _ σ₂ s₂=>σ₂=σ'/\EnvRel G (ZX P L) σ₂ s₂.heap env ρ₁) R ht (fun x hx=>ZbB (hc x hx) hs) hρ i' E' (.inl rfl) r fun h' tk E'' i'' kd=>⟨rfl,E''⟩) (fun _ s₂ hQ0=>Zq3 hQ0 fun σ₂ i₂ e₂ k₂ hσ₂ E₂=>?_) fun _ _ z=>z.elim
 subst hσ₂
 have hfL:¬ Z6 env L:=fun f=>by
  rcases f with e | ⟨n,_,hb⟩
  ·exact neL _ (.inl rfl) e.symm
  ·exact neL L (.inr ⟨n,hb⟩) rfl
 refine ⟨m,Ns.moves hm fun o ho=>(e₂ L o ho (i'.dis L (.inr rfl)).1 hfL).1,fun h' hsb=>wpAny_pure (wpAny_pure ⟨σ₂,i₂.drop hsb hPL,?_,ks.trans k₂,ρ₁,?_,q₂⟩)⟩
 ·intro b o g n f
  refine ZL (ev b o g n fun z=>z) fun g1 n1=>?_
  refine ZL (e₂ b o g1 n1 f) fun g2 n2=>?_
  exact ⟨(hsb.2 b (hL b o g n)).trans g2,n2⟩
 ·exact E₂.conv (N:=noF) E.pL (fun n c e=>(E.pC n c e).1) (fun b o g hb=>(hsb.2 b (neL b hb)).trans g) (Zix hsb)
end
structure RoomN (n:Nat) (A:Around):Prop where
 units:A.units + 10 * n + 200 < cLine
 depth:A.depth + 2 * n + 20 < recursionLimit
 handled:A.handled=none
structure FnOk (G:Glo) (K:Frag) (f:Nat) (fd:Fn) (o:Obj) (fdata:FuncData) (body:List Stmt):Prop where
 obj:G.h₁.get? (G.faddr f)=some o
 data:o.data=.func fdata
 code:G.h₁.CodeRec fdata.code fdata.qualname
 bodyIs:fdata.body=.stmts body
 clo:fdata.closure=[]
 co:fdata.scope.isCoroutine=false
 gen:fdata.scope.isGenerator=false
 kind:fdata.scope.kind=.function
 glob:fdata.globals=mainGlobals
 bns:fdata.builtins=builtinsNs
 nofree:∀ x ∈ fdata.scope.names,x.2 ≠ .free
 pars:∀ x ∈ fd.params,Zaz G.nm fdata.scope x=true
 binds:∀ (vs:List LV) (ρ:Env),Zjl fd vs=some ρ->∀ (P:Addr->Prop) (σ:St) (s:Shared) (us:List Value),Inv G P σ s.heap->Zz G (Dom P σ) s.heap vs us->
  ∃ vs' us',Zay fd.params vs' []=some ρ/\Zz G (Dom P σ) s.heap vs' us'/\BindsTo s fdata ⟨us,[]⟩ ((fd.params.map G.nm).zip us')
 runs:∀ (A:Around) (C:Cal),Room A->ZaJ G C (A.units + 5) (A.depth + 1)->SsO G A C fdata.scope fd.body body
theorem Za9:∀ (names:List (Str × NameKind)) (n:Nat) (acc:List (Str × Addr)) (x:Str),((x,NameKind.cell) ∈ names\/(acc.lookup x).isSome=true)->((cellsFrom n names acc).lookup x).isSome=true
 | [],n,acc,x,h=>by
  rcases h with h | h
  ·cases h
  ·exact h
 | (m,k)::r,n,acc,x,h=>by
  unfold cellsFrom
  split
  ·rename_i hk
   refine Za9 r _ _ x ?_
   rcases h with h | h
   ·rcases List.mem_cons.mp h with e | h
    ·cases e; exact .inr (by simp [List.lookup_cons])
    ·exact .inl h
   ·refine .inr ?_
    rw [List.lookup_cons]
    split
    ·rfl
    ·exact h
  ·rename_i hk
   refine Za9 r _ _ x ?_
   rcases h with h | h
   ·rcases List.mem_cons.mp h with e | h
    ·cases e; exact absurd rfl hk
    ·exact .inl h
   ·exact .inr h
section
variable {G:Glo} {K:Frag}
theorem Zgm {D:Addr->Prop} {h:Heap} {kindOf:Str->Option NameKind}:∀ {xs:List Nat} {vs:List LV} {us:List Value} {ρ ρ₁:Env} {m cm:Str->Option Value},Zay xs vs ρ=some ρ₁->Zz G D h vs us->
  (∀ x v,Zo ρ x=some v->(kindOf (G.nm x)=some .local->∃ u,m (G.nm x)=some u/\Rep G D h v u)/\(kindOf (G.nm x) ≠ some .local->∃ u,cm (G.nm x)=some u/\Rep G D h v u))->
  ∀ x v,Zo ρ₁ x=some v->(kindOf (G.nm x)=some .local->∃ u,bindL kindOf ((xs.map G.nm).zip us) m (G.nm x)=some u/\Rep G D h v u)/\(kindOf (G.nm x) ≠ some .local->∃ u,bindC kindOf ((xs.map G.nm).zip us) cm (G.nm x)=some u/\Rep G D h v u)
 | [],[],us,ρ,ρ₁,m,cm,hb,r,hρ=>by cases hb; exact hρ
 | [],_::_,_,_,_,_,_,hb,_,_=>nos hb
 | _::_,[],_,_,_,_,_,hb,_,_=>nos hb
 | x::xs,v::vs,us,ρ,ρ₁,m,cm,hb,r,hρ=>by
  refine r.unE fun u us ru rus=>?_
  rw [List.map_cons,List.zip_cons_cons]
  refine Zgm (xs:=xs) (vs:=vs) hb rus fun y w e=>?_
  rw [ZM] at e
  by_cases z:y=x
  ·subst z
   rw [if_pos rfl] at e; cases e
   exact ⟨fun k=>⟨u,by rw [if_pos k]; simp,ru⟩,fun k=>⟨u,by rw [if_neg k]; simp,ru⟩⟩
  ·rw [if_neg z] at e
   have ne:¬ G.nm y=G.nm x:=fun q=>z (G.nmInj _ _ q)
   refine ZL (hρ y w e) fun h1 h2=>?_
   refine ⟨fun k=>?_,fun k=>?_⟩
   ·refine Ze (h1 k) fun u' hu r'=>?_
    refine ⟨u',?_,r'⟩
    split
    ·simp [ne,hu]
    ·exact hu
   ·refine Ze (h2 k) fun u' hu r'=>?_
    refine ⟨u',?_,r'⟩
    split
    ·exact hu
    ·simp [ne,hu]
theorem Zke (X:Facts G K) (hfn:∀ f fd,G.fns f=some fd->∃ o fdata body,FnOk G K f fd o fdata body):∀ n,∀ A,RoomN n A->ZaJ G (Zhr G.T G.fns n) A.units A.depth
 | 0=>fun A R A' _ _ _ P σ s f vs us Q q i r=>q.elim
 | n + 1=>fun A R A' hu hd hh P σ s f vs us Q q i r=>by
  refine Ze (Zi.mp q) fun fd hfd q=>?_
  refine Ze (Zi.mp q) fun ρ hρ q=>?_
  refine Zw2 (hfn f fd hfd) fun o fdata body H=>?_
  refine ZaM (H.binds vs ρ hρ P σ s us i r) fun vs' us' hb r' bt=>?_
  have Ru:=R.units
  have Rd:=R.depth
  refine codeAny_call_function (Zv1 hd Rd) (i.base _ _ H.obj) H.data H.co H.gen H.bodyIs (H.code.keeps i.base) (bt _ _ _ _ ?_)
  rw [H.clo]
  have hmemk:∀ x ∈ (fd.params.map G.nm).zip us',fdata.scope.names.lookup x.1=some .local\/(fdata.scope.names.lookup x.1=some .cell/\((cellsFrom (s.heap.objs.size + 1) fdata.scope.names []).lookup x.1).isSome=true):=fun x hx=>by
   refine Ze (List.mem_map.mp (List.of_mem_zip hx).1) fun y hy e=>?_
   rw [<- e]
   have:=H.pars y hy
   unfold Zaz at this
   simp only [Bool.or_eq_true,beq_iff_eq] at this
   refine Or.elim this (fun h=>?_) fun h=>?_
   ·exact .inl h
   ·exact .inr ⟨h,Za9 _ _ _ _ (.inl (mem_of_lookup h))⟩
  refine wpAny_newFunctionEnv_cells H.kind hmemk fun env he s' x=>⟨X.base.lim.keeps fun b o g=>x.toInCall.keep b o (i.base b o g),codeAny_func ?_⟩
  have hkeep:=x.toInCall.keep
  have hfr:=x.toInCall.fresh
  have hcellsE:env.cells=cellsFrom (s.heap.objs.size + 1) fdata.scope.names []:=by rw [he]; rfl
  have hscope:env.scope=fdata.scope:=by rw [he]; rfl
  have hL:env.locals=s.heap.objs.size:=by rw [he]; rfl
  have above:∀ n c,env.cells.lookup n=some c->s.heap.objs.size < c:=fun n c e=>by rw [<- hL]; exact x.above n c (mem_of_lookup e)
  let P':Addr->Prop:=fun b=>P b\/b=env.locals\/∃ n,env.cells.lookup n=some b
  have newb:∀ b,(b=env.locals\/∃ n,env.cells.lookup n=some b)->s.heap.get? b=none:=fun b hb=>Zbz (by
   rcases hb with rfl | ⟨n,hb⟩
   ·rw [hL]; exact Nat.le_refl _
   ·exact Nat.le_of_lt (above n b hb))
  have i':Inv G P' σ s'.heap:=i.conv (N:=noF) (fun _ z=>z.elim) (fun b o g _=>hkeep b o g) (fun b hb=>by
    refine Or.elim hb (fun p=>?_) fun hb=>?_
    ·refine Zbp (i.dis b p) fun a1 a2 hR0=>?_; refine ZU hR0 fun o ho=>?_
     exact ⟨a1,a2,o,hkeep _ _ ho⟩
    ·refine ⟨(i.free_dom (newb b hb)).1,?_,?_⟩
     ·cases z:G.h₁.get? b with
      | none=>rfl
      | some o=>have:=i.base _ _ z; rw [newb b hb] at this; exact nos this
     ·rcases hb with rfl | ⟨n,hb⟩
      ·obtain ⟨o,_,_,ho,_⟩:=x.toInCall.ns; exact ⟨o,ho⟩
      ·obtain ⟨o,ho,_⟩:=x.cell n b hb; exact ⟨o,ho⟩) fun b o g np hb=>by
    refine Or.elim hb (fun p=>?_) fun hb=>?_
    ·exact np p
    ·rw [newb b hb] at g; exact nos g
  have dom':∀ b o,s.heap.get? b=some o->Dom P σ b->Dom P' σ b/\s'.heap.get? b=some o:=fun b o g d=>⟨⟨d.1,fun hb=>by
   refine Or.elim hb (fun p=>?_) fun hb=>?_
   ·exact d.2 p
   ·rw [newb b hb] at g; cases g⟩,hkeep b o g⟩
  have spec:=Zgm (G:=G) (D:=Dom P' σ) (h:=s'.heap) (kindOf:=env.kindOf) (m:=fun _=>none) (cm:=fun _=>none) hb (r'.mono dom') (fun x v e=>by cases e)
  have hlk:∀ n,env.kindOf n=some .cell->(env.cells.lookup n).isSome=true:=fun n k=>by
   rw [hcellsE]
   refine Za9 _ _ _ _ (.inl (mem_of_lookup ?_))
   unfold Env.kindOf at k
   rw [hscope] at k
   exact k
  have E':EnvRel G P' σ s'.heap env ρ:={
   kind:=by rw [hscope]; exact H.kind
   glob:=by rw [he]; exact H.glob
   bns:=by rw [he]; exact H.bns
   pL:=.inr (.inl rfl)
   pC:=fun n c e=>⟨.inr (.inr ⟨n,e⟩),fun z=>by have:=above n c e; rw [z,hL] at this; exact Nat.lt_irrefl _ this⟩
   apart:=fun n n' c e e'=>name_of_addr x.apart (mem_of_lookup e) (mem_of_lookup e')
   ns:=⟨_,x.toInCall.ns,fun y v e k=>(spec y v e).1 k⟩
   cell:=fun y k=>by
    refine Or.elim k (fun k=>?_) fun k=>?_
    ·refine ZU (Option.isSome_iff_exists.mp (hlk _ k)) fun c hc=>?_
     refine ⟨c,_,hc,x.cell _ _ hc,fun v e=>?_⟩
     obtain ⟨u,hu,ru⟩:=(spec y v e).2 (by rw [k]; intro z; cases z)
     exact ⟨u,hu,ru⟩
    ·unfold Env.kindOf at k
     rw [hscope] at k
     exact absurd rfl (H.nofree _ (mem_of_lookup k)) }
  have RA:Room (A'.deeper env):=⟨by show A'.units + 3 + 200 < cLine; exact Zv2 hu Ru,by show A'.depth + 1 + 20 < recursionLimit; exact Zv3 hd Rd,hh⟩
  have HC:ZaJ G (Zhr G.T G.fns n) ((A'.deeper env).units + 5) ((A'.deeper env).depth + 1):=by
   have:=Zke X hfn n { A' with units:=A'.units + 8,depth:=A'.depth + 2 } ⟨by show A'.units + 8 + 10 * n + 200 < cLine; exact Zv4 hu Ru,by show A'.depth + 2 + 2 * n + 20 < recursionLimit; exact Zv5 hd Rd,hh⟩
   exact this
  refine wpAny_mono (H.runs (A'.deeper env) _ RA HC P' σ s' env ρ _ hscope i' E' q) (fun fl s₂ hQ0=>Zgf hQ0 fun σ₂ i₂ e₂ k₂ z=>?_) fun _ _ z=>z.elim
  have iP:Inv G P σ₂ s₂.heap:=i₂.conv (N:=noF) (fun _ z=>z.elim) (fun b o g _=>g) (fun b p=>i₂.dis b (.inl p)) fun b o g np p=>np (.inl p)
  have dP:∀ b o,s₂.heap.get? b=some o->Dom P' σ₂ b->Dom P σ₂ b/\s₂.heap.get? b=some o:=fun b o g d=>⟨⟨d.1,fun p=>d.2 (.inl p)⟩,g⟩
  have ev:Evo noF σ s.heap σ₂ s₂.heap:=(Evo.keeps (F:=noF) hkeep).outer e₂ fun b hb=>.inr (newb b (by
   rcases hb with e | ⟨n,_,e⟩
   ·exact .inl e
   ·exact .inr ⟨n,e⟩))
  have ks:ZaF s s₂:=by
   refine Zw0 x.toInCall.same fun hh' tk e=>?_
   rw [e] at k₂
   exact k₂
  cases fl with
  | next =>
   refine Ze z fun ρ₂ _ q₂=>?_
   exact ⟨σ₂,iP,ev,ks,.none,.none,q₂⟩
  | ret v =>
   refine ZaM z fun lv ρ₂ _ rv q₂=>?_
   exact ⟨σ₂,iP,ev,ks,lv,rv.mono dP,q₂⟩
  | brk=>exact z.elim
  | cont=>exact z.elim
end
noncomputable def Zep (e:Expr):Bool:=e.ctorIdx != 7
theorem ZbP {e:Expr} (h:Zep e=true) (env:PySem.Env) (x:Value):foldedSetIterable e env x=pure x:=by cases e <;> first | rfl | cases h
noncomputable def Zex (x:Expr) (k:(Const->Bool)):Bool:=if q:x.ctorIdx=19 then Expr.Constant.elim (motive_1:=fun _=>Bool) x q fun c a p=>k c else false
theorem Zfk {k:(Const->Bool)} {M:Expr->Prop} {x:Expr} (h:Zex x k=true) (f:∀ c a p,k c=true->M (.Constant c a p)):M x:=by
 by_cases q:x.ctorIdx=19
 ·exact Expr.Constant.elim (motive_1:=fun x=>Zex x k=true->M x) x q f h
 ·unfold Zex at h
  rw [dif_neg q] at h
  exact Bool.noConfusion h
noncomputable def ZcF (x:Expr) (k:(Str->Bool)):Bool:=if q:x.ctorIdx=23 then Expr.Name.elim (motive_1:=fun _=>Bool) x q fun n p=>k n else false
theorem Zbk {k:(Str->Bool)} {M:Expr->Prop} {x:Expr} (h:ZcF x k=true) (f:∀ n p,k n=true->M (.Name n p)):M x:=by
 by_cases q:x.ctorIdx=23
 ·exact Expr.Name.elim (motive_1:=fun x=>ZcF x k=true->M x) x q f h
 ·unfold ZcF at h
  rw [dif_neg q] at h
  exact Bool.noConfusion h
noncomputable def Zlf (x:Expr) (k:(Expr->Operator->Expr->Bool)):Bool:=if q:x.ctorIdx=2 then Expr.BinOp.elim (motive_1:=fun _=>Bool) x q fun l o r p=>k l o r else false
theorem Zi0 {k:(Expr->Operator->Expr->Bool)} {M:Expr->Prop} {x:Expr} (h:Zlf x k=true) (f:∀ l o r p,k l o r=true->M (.BinOp l o r p)):M x:=by
 by_cases q:x.ctorIdx=2
 ·exact Expr.BinOp.elim (motive_1:=fun x=>Zlf x k=true->M x) x q f h
 ·unfold Zlf at h
  rw [dif_neg q] at h
  exact Bool.noConfusion h
noncomputable def Zqp (x:Expr) (k:(UnaryOp->Expr->Bool)):Bool:=if q:x.ctorIdx=3 then Expr.UnaryOp.elim (motive_1:=fun _=>Bool) x q fun o e p=>k o e else false
theorem Zlm {k:(UnaryOp->Expr->Bool)} {M:Expr->Prop} {x:Expr} (h:Zqp x k=true) (f:∀ o e p,k o e=true->M (.UnaryOp o e p)):M x:=by
 by_cases q:x.ctorIdx=3
 ·exact Expr.UnaryOp.elim (motive_1:=fun x=>Zqp x k=true->M x) x q f h
 ·unfold Zqp at h
  rw [dif_neg q] at h
  exact Bool.noConfusion h
noncomputable def Zlh (x:Expr) (k:(Expr->List CmpOp->List Expr->Bool)):Bool:=if q:x.ctorIdx=15 then Expr.Compare.elim (motive_1:=fun _=>Bool) x q fun l o r p=>k l o r else false
theorem Zi2 {k:(Expr->List CmpOp->List Expr->Bool)} {M:Expr->Prop} {x:Expr} (h:Zlh x k=true) (f:∀ l o r p,k l o r=true->M (.Compare l o r p)):M x:=by
 by_cases q:x.ctorIdx=15
 ·exact Expr.Compare.elim (motive_1:=fun x=>Zlh x k=true->M x) x q f h
 ·unfold Zlh at h
  rw [dif_neg q] at h
  exact Bool.noConfusion h
noncomputable def Zi1 (x:Expr) (k:(BoolOp->List Expr->Bool)):Bool:=if q:x.ctorIdx=0 then Expr.BoolOp.elim (motive_1:=fun _=>Bool) x q fun o l p=>k o l else false
theorem Zlg {k:(BoolOp->List Expr->Bool)} {M:Expr->Prop} {x:Expr} (h:Zi1 x k=true) (f:∀ o l p,k o l=true->M (.BoolOp o l p)):M x:=by
 by_cases q:x.ctorIdx=0
 ·exact Expr.BoolOp.elim (motive_1:=fun x=>Zi1 x k=true->M x) x q f h
 ·unfold Zi1 at h
  rw [dif_neg q] at h
  exact Bool.noConfusion h
noncomputable def ZmS (x:Expr) (k:(Expr->Expr->Expr->Bool)):Bool:=if q:x.ctorIdx=5 then Expr.IfExp.elim (motive_1:=fun _=>Bool) x q fun t a b p=>k t a b else false
theorem ZmT {k:(Expr->Expr->Expr->Bool)} {M:Expr->Prop} {x:Expr} (h:ZmS x k=true) (f:∀ t a b p,k t a b=true->M (.IfExp t a b p)):M x:=by
 by_cases q:x.ctorIdx=5
 ·exact Expr.IfExp.elim (motive_1:=fun x=>ZmS x k=true->M x) x q f h
 ·unfold ZmS at h
  rw [dif_neg q] at h
  exact Bool.noConfusion h
noncomputable def Zll (x:Expr) (k:(List Expr->Bool)):Bool:=if q:x.ctorIdx=25 then Expr.Tuple.elim (motive_1:=fun _=>Bool) x q fun l a p=>k l else false
theorem Zi5 {k:(List Expr->Bool)} {M:Expr->Prop} {x:Expr} (h:Zll x k=true) (f:∀ l a p,k l=true->M (.Tuple l a p)):M x:=by
 by_cases q:x.ctorIdx=25
 ·exact Expr.Tuple.elim (motive_1:=fun x=>Zll x k=true->M x) x q f h
 ·unfold Zll at h
  rw [dif_neg q] at h
  exact Bool.noConfusion h
noncomputable def Zlj (x:Expr) (k:(List Expr->Bool)):Bool:=if q:x.ctorIdx=24 then Expr.List.elim (motive_1:=fun _=>Bool) x q fun l p=>k l else false
theorem Zi4 {k:(List Expr->Bool)} {M:Expr->Prop} {x:Expr} (h:Zlj x k=true) (f:∀ l p,k l=true->M (.List l p)):M x:=by
 by_cases q:x.ctorIdx=24
 ·exact Expr.List.elim (motive_1:=fun x=>Zlj x k=true->M x) x q f h
 ·unfold Zlj at h
  rw [dif_neg q] at h
  exact Bool.noConfusion h
noncomputable def Zi3 (x:Expr) (k:(List (Option Expr)->List Expr->Bool)):Bool:=if q:x.ctorIdx=6 then Expr.Dict.elim (motive_1:=fun _=>Bool) x q fun l r p=>k l r else false
theorem Zli {k:(List (Option Expr)->List Expr->Bool)} {M:Expr->Prop} {x:Expr} (h:Zi3 x k=true) (f:∀ l r p,k l r=true->M (.Dict l r p)):M x:=by
 by_cases q:x.ctorIdx=6
 ·exact Expr.Dict.elim (motive_1:=fun x=>Zi3 x k=true->M x) x q f h
 ·unfold Zi3 at h
  rw [dif_neg q] at h
  exact Bool.noConfusion h
noncomputable def Zew (x:Expr) (k:(Expr->Str->Pos->Bool)):Bool:=if q:x.ctorIdx=20 then Expr.Attribute.elim (motive_1:=fun _=>Bool) x q fun e n p=>k e n p else false
theorem Zdb {k:(Expr->Str->Pos->Bool)} {M:Expr->Prop} {x:Expr} (h:Zew x k=true) (f:∀ e n p,k e n p=true->M (.Attribute e n p)):M x:=by
 by_cases q:x.ctorIdx=20
 ·exact Expr.Attribute.elim (motive_1:=fun x=>Zew x k=true->M x) x q f h
 ·unfold Zew at h
  rw [dif_neg q] at h
  exact Bool.noConfusion h
noncomputable def ZjG (x:Expr) (k:(Expr->Expr->Bool)):Bool:=if q:x.ctorIdx=21 then Expr.Subscript.elim (motive_1:=fun _=>Bool) x q fun e i p=>k e i else false
theorem ZfR {k:(Expr->Expr->Bool)} {M:Expr->Prop} {x:Expr} (h:ZjG x k=true) (f:∀ e i p,k e i=true->M (.Subscript e i p)):M x:=by
 by_cases q:x.ctorIdx=21
 ·exact Expr.Subscript.elim (motive_1:=fun x=>ZjG x k=true->M x) x q f h
 ·unfold ZjG at h
  rw [dif_neg q] at h
  exact Bool.noConfusion h
noncomputable def ZmW (x:Expr) (k:(Option Expr->Option Expr->Option Expr->Bool)):Bool:=if q:x.ctorIdx=26 then Expr.Slice.elim (motive_1:=fun _=>Bool) x q fun a b c p=>k a b c else false
theorem ZmX {k:(Option Expr->Option Expr->Option Expr->Bool)} {M:Expr->Prop} {x:Expr} (h:ZmW x k=true) (f:∀ a b c p,k a b c=true->M (.Slice a b c p)):M x:=by
 by_cases q:x.ctorIdx=26
 ·exact Expr.Slice.elim (motive_1:=fun x=>ZmW x k=true->M x) x q f h
 ·unfold ZmW at h
  rw [dif_neg q] at h
  exact Bool.noConfusion h
noncomputable def ZdM (x:Expr) (k:(Expr->List Expr->List Keyword->Pos->Bool)):Bool:=if q:x.ctorIdx=16 then Expr.Call.elim (motive_1:=fun _=>Bool) x q fun f l ks p=>k f l ks p else false
theorem Zck {k:(Expr->List Expr->List Keyword->Pos->Bool)} {M:Expr->Prop} {x:Expr} (h:ZdM x k=true) (f:∀ f l ks p,k f l ks p=true->M (.Call f l ks p)):M x:=by
 by_cases q:x.ctorIdx=16
 ·exact Expr.Call.elim (motive_1:=fun x=>ZdM x k=true->M x) x q f h
 ·unfold ZdM at h
  rw [dif_neg q] at h
  exact Bool.noConfusion h
noncomputable def Zhb (x:Expr) (k:(Expr->List Comprehension->Scope->Bool)):Bool:=if q:x.ctorIdx=8 then Expr.ListComp.elim (motive_1:=fun _=>Bool) x q fun e gs sc p=>k e gs sc else false
theorem Zhc {k:(Expr->List Comprehension->Scope->Bool)} {M:Expr->Prop} {x:Expr} (h:Zhb x k=true) (f:∀ e gs sc p,k e gs sc=true->M (.ListComp e gs sc p)):M x:=by
 by_cases q:x.ctorIdx=8
 ·exact Expr.ListComp.elim (motive_1:=fun x=>Zhb x k=true->M x) x q f h
 ·unfold Zhb at h
  rw [dif_neg q] at h
  exact Bool.noConfusion h
noncomputable def on1 {α:Type} (l:List α) (k:α->Bool):Bool:=match l with
 | [x]=>k x
 | _=>false
theorem Zda {α:Type} {k:α->Bool} {M:List α->Prop} {l:List α} (h:on1 l k=true) (f:∀ x,k x=true->M [x]):M l:=match l,h with
 | [],h=>Bool.noConfusion h
 | [_],h=>f _ h
 | _::_::_,h=>Bool.noConfusion h
noncomputable def on2 {α:Type} (l:List α) (k:α->α->Bool):Bool:=match l with
 | [x,y]=>k x y
 | _=>false
theorem ZiZ {α:Type} {k:α->α->Bool} {M:List α->Prop} {l:List α} (h:on2 l k=true) (f:∀ x y,k x y=true->M [x,y]):M l:=match l,h with
 | [],h=>Bool.noConfusion h
 | [_],h=>Bool.noConfusion h
 | [_,_],h=>f _ _ h
 | _::_::_::_,h=>Bool.noConfusion h
noncomputable def onO {α:Type} (l:Option α) (k:α->Bool):Bool:=match l with
 | some x=>k x
 | none=>false
theorem Zlk {α:Type} {k:α->Bool} {M:Option α->Prop} {l:Option α} (h:onO l k=true) (f:∀ x,k x=true->M (some x)):M l:=match l,h with
 | none,h=>Bool.noConfusion h
 | some _,h=>f _ h
noncomputable def Zqo (c:Const) (k:Int->Bool):Bool:=match c with
 | .int i=>k i
 | _=>false
theorem ZmR {k:Int->Bool} {M:Const->Prop} {c:Const} (h:Zqo c k=true) (f:∀ i,k i=true->M (.int i)):M c:=by
 cases c <;> first | exact Bool.noConfusion h | exact f _ h
theorem Zbs {α:Type} {M:List α->Prop} {l:List α} (h:l.isEmpty=true) (f:M []):M l:=match l,h with
 | [],_=>f
 | _::_,h=>Bool.noConfusion h
theorem a2 {a b:Bool} {M:Prop} (h:(a&&b)=true) (f:a=true->b=true->M):M:=match a,b,h with
 | true,true,_=>f rfl rfl
theorem a3 {a b c:Bool} {M:Prop} (h:(a&&b&&c)=true) (f:a=true->b=true->c=true->M):M:=a2 h fun h z=>a2 h fun x y=>f x y z
theorem a4 {a b c d:Bool} {M:Prop} (h:(a&&b&&c&&d)=true) (f:a=true->b=true->c=true->d=true->M):M:=a2 h fun h w=>a3 h fun x y z=>f x y z w
theorem a5 {a b c d e:Bool} {M:Prop} (h:(a&&b&&c&&d&&e)=true) (f:a=true->b=true->c=true->d=true->e=true->M):M:=a2 h fun h v=>a4 h fun x y z w=>f x y z w v
theorem a6 {a b c d e g:Bool} {M:Prop} (h:(a&&b&&c&&d&&e&&g)=true) (f:a=true->b=true->c=true->d=true->e=true->g=true->M):M:=a2 h fun h u=>a5 h fun x y z w v=>f x y z w v u
theorem ZqS {a b:Str} (h:(a == b)=true):a=b:=eq_of_beq h
theorem be {α:Type} [BEq α] [LawfulBEq α] {a b:α} {M:α->Prop} (h:(a == b)=true) (f:M a):M b:=eq_of_beq h ▸ f
noncomputable def ZoK (nm:Nat->Str):List Nat->List Expr->Bool
 | [],es=>es.isEmpty
 | x::xs,es=>match es with
  | e::es=>ZcF e (fun n=>nm x == n)&&ZoK nm xs es
  | []=>false
noncomputable def Zpn (nm:Nat->Str) (t:Tg) (e:Expr):Bool:=match t with
 | .nm x=>ZcF e fun n=>nm x == n
 | .tp xs=>Zll e fun es=>ZoK nm xs es
theorem Zfi {G:Glo}:∀ {xs:List Nat} {es:List Expr},ZoK G.nm xs es=true->ZeQ G xs es
 | [],es,h=>by
  exact Zbs (M:=ZeQ G []) h rfl
 | x::xs,[],h=>Bool.noConfusion h
 | x::xs,e::es,h=>by
  exact a2 h fun h1 h2=>Zbk (M:=fun e=>ZeQ G (x::xs) (e::es)) h1 fun n p h1=>be (M:=fun n=>ZeQ G (x::xs) (.Name n p::es)) h1 ⟨p,es,rfl,Zfi h2⟩
theorem Zcq {G:Glo} {t:Tg} {e:Expr} (h:Zpn G.nm t e=true):Zhs G t e:=by
 cases t with
 | nm x =>
  exact Zbk (M:=Zhs G (.nm x)) h fun n p h=>be (M:=fun n=>Zhs G (.nm x) (.Name n p)) h ⟨p,rfl⟩
 | tp xs =>
  exact Zi5 (M:=Zhs G (.tp xs)) h fun es c p h=>⟨es,c,p,rfl,Zfi h⟩
noncomputable def Zj0:List Nat->List Nat->Bool
 | [],_=>true
 | x::xs,ys=>!ys.contains x&&Zj0 xs ys
theorem Zd6:∀ {xs ys:List Nat},Zj0 xs ys=true->∀ x ∈ xs,x ∉ ys
 | x::xs,ys,h,y,hy,hm=>by
  refine ZL (Bool.and_eq_true_iff.mp h) fun h1 h2=>?_
  rcases List.mem_cons.mp hy with rfl | hy
  ·rw [List.contains_iff_mem.mpr hm] at h1; exact nob h1
  ·exact Zd6 h2 y hy hm
mutual
noncomputable def mE (nm:Nat->Str):LE->Scope->Expr->Bool
 | .k v,_,ex=>Zex ex fun c=>Zkj nm v c
 | .v x,sc,ex=>ZcF ex fun n=>nm x == n&&!(n == ("__debug__" : Str))&&!(n == ("__classdict__" : Str))&&ZfI (sc.names.lookup n)
 | .g x,sc,ex=>ZcF ex fun n=>nm x == n&&!(n == ("__debug__" : Str))&&sc.names.lookup n == some .globalImplicit
 | .bin o l r,sc,ex=>Zlf ex fun l' o' r'=>o == o'&&mE nm l sc l'&&mE nm r sc r'
 | .neg n,_,ex=>Zqp ex fun o e'=>o == .USub&&Zex e' fun c=>Zqo c fun i=>i == (n:Int)
 | .cmp o l r,sc,ex=>Zlh ex fun l' os rs=>on1 os fun o'=>on1 rs fun r'=>o == o'&&!behindInMarks o r'&&mE nm l sc l'&&mE nm r sc r'
 | .chain l o₁ m o₂ r,sc,ex=>Zlh ex fun l' os rs=>on2 os fun p₁ p₂=>on2 rs fun m' r'=>o₁ == p₁&&o₂ == p₂&&!lastMarks [o₁,o₂] [m',r']&&mE nm l sc l'&&mE nm m sc m'&&mE nm r sc r'
 | .bool an l r,sc,ex=>Zi1 ex fun op vs=>on2 vs fun l' r'=>op == ZbM an&&mE nm l sc l'&&mE nm r sc r'
 | .not e,sc,ex=>Zqp ex fun o e'=>o == .Not&&mE nm e sc e'
 | .ite t a b,sc,ex=>ZmS ex fun t' a' b'=>mE nm t sc t'&&mE nm a sc a'&&mE nm b sc b'
 | .tup es,sc,ex=>Zll ex fun es'=>decide (es.length<=1000)&&mEs nm es sc es'
 | .lst es,sc,ex=>Zlj ex fun es'=>decide (es.length<=1000)&&mEs nm es sc es'
 | .lstR es,sc,ex=>Zlj ex fun es'=>decide (es.length<=1000)&&mEs nm es sc es'
 | .dictR _,_,ex=>Zi3 ex fun a b=>a.isEmpty&&b.isEmpty
 | .repR l n,sc,ex=>Zlf ex fun l' o n'=>o == .Mult&&mE nm l sc l'&&mE nm n sc n'
 | .attr e x,sc,ex=>Zew ex fun e' n _=>nm x == n&&decide (x < NN)&&ZbV e'&&mE nm e sc e'
 | .sub e i,sc,ex=>ZjG ex fun e' i'=>ZdW i'&&mE nm e sc e'&&mE nm i sc i'
 | .slc e i,sc,ex=>ZjG ex fun e' j=>ZmW j fun a b c=>a.isNone&&c.isNone&&onO b fun i'=>mE nm e sc e'&&mE nm i sc i'
 | .call f es,sc,ex=>ZdM ex fun f' es' ks _=>ks.isEmpty&&ZaV es'&&Zh1 f'&&mE nm f sc f'&&mEs nm es sc es'
 | .meth o x es,sc,ex=>ZdM ex fun f' es' ks pos=>ks.isEmpty&&Zew f' fun o' n apos=>(nm x == n&&ZaV es'&&decide (es'.length < 30))&&(apos.endLine == pos.line)&&ZbV o'&&mE nm o sc o'&&mEs nm es sc es'
 | .lm o m es,sc,ex=>ZdM ex fun f' es' ks pos=>ks.isEmpty&&Zew f' fun o' n apos=>(Zk4 m == n&&ZaV es'&&decide (es'.length < 30))&&(apos.endLine == pos.line)&&ZbV o'&&mE nm o sc o'&&mEs nm es sc es'
 | .bi b es,sc,ex=>ZdM ex fun f' es' ks _=>ks.isEmpty&&ZcF f' fun n=>Zb0 b == n&&ZaV es'&&sc.names.lookup (Zb0 b) == some .globalImplicit&&mEs nm es sc es'
 | .srt e f,sc,ex=>ZdM ex fun f' es' ks _=>on1 ks fun kw=>on1 es' fun e'=>onO kw.arg fun a=>ZcF f' fun n=>n == ("sorted" : Str)&&a == ("key" : Str)&&ZbU e'&&sc.names.lookup ("sorted" : Str) == some .globalImplicit&&mE nm e sc e'&&mE nm f sc kw.value
 | .comp _ fv elt t it c,sc,ex=>Zhb ex fun elt' gs scope=>on1 gs fun g=>g.is_async == 0&&(Zf2 nm scope sc fv (ZW t)&&Zpn nm t g.target&&Zep g.iter&&mE nm it sc g.iter&&mE nm elt (Zaj scope sc) elt'&&mC nm c (Zaj scope sc) g.ifs)
 | .comp2 _ fv elt t it t₂ it₂,sc,ex=>Zhb ex fun elt' gs scope=>on2 gs fun g g₂=>(g.is_async == 0&&g.ifs.isEmpty&&g₂.is_async == 0&&g₂.ifs.isEmpty)&&(Zf2 nm scope sc fv (ZW t++ZW t₂)&&Zpn nm t g.target&&Zpn nm t₂ g₂.target&&Zj0 (ZW t₂) (ZW t)&&Zep g.iter&&Zep g₂.iter&&mE nm it sc g.iter&&mE nm it₂ (Zaj scope sc) g₂.iter&&mE nm elt (Zaj scope sc) elt')
 | .frz e,sc,e'=>Zdf e'&&!ZnD e'&&mE nm e sc e'
 | .stuck,_,_=>true
noncomputable def mEs (nm:Nat->Str):List LE->Scope->List Expr->Bool
 | [],_,es'=>es'.isEmpty
 | e::es,sc,ex=>match ex with
  | e'::es'=>ZbU e'&&mE nm e sc e'&&mEs nm es sc es'
  | []=>false
noncomputable def mC (nm:Nat->Str):Option LE->Scope->List Expr->Bool
 | none,_,cs=>cs.isEmpty
 | some c,sc,cx=>on1 cx fun c'=>mE nm c sc c'
end
end
section
open PySem PySem.W PyProof.Rows PySem.Calls
set_option maxRecDepth 10000
section
variable {prog:Program} {w:World} {A:Around} {E:Value->Shared->Prop} {s:Shared} {a₀:Array Keyed}
theorem ZjI {st:SortSt} {Q:Option Nat->SortSt->Prop} (h0:IntKeys a₀) (h1:1<=a₀.size) (hB:SBase a₀ st) (hs:SortedTo (arrOf st) a₀.size) (h:Q (some a₀.size) st) :
  PyProof.Rows.wpS (model prog w) A E s (countRun' 0 a₀.size) Q st:=by
 rw [countRun0_eq]
 refine wpS_bind (wpS_ascLoop h0 (Nat.le_refl _) (Nat.le_refl 1) h1 hB (fun i j hij hj=>(by obtain rfl:i=j:=(Zwi hij hj); exact Int.le_refl _)) fun n hn1 hn2 hsn hor=>?_)
 dsimp only
 have hn:n=a₀.size:=by
  refine Or.elim hor (fun h=>?_) fun h=>?_
  ·exact h
  ·by_cases e:n=a₀.size
   ·exact e
   ·have:=hs (n - 1) n o89 (o30 hn2 e)
    exact Zwj hor this
 subst hn
 rw [if_pos (by simp)]
 exact wpS_pure h
theorem Zib {st:SortSt} {Q:Unit->SortSt->Prop} (h0:IntKeys a₀) (hB:SBase a₀ st) (h2:2<=a₀.size) (h64:a₀.size < 64) (hs:SortedTo (arrOf st) a₀.size)
  (h:∀ st',arrOf st'=arrOf st->failedOf st'=none->Q () st'):PyProof.Rows.wpS (model prog w) A E s sortRuns' Q st:=by
 rw [sortRuns'_eq]
 refine wpS_bind (wpS_get ?_)
 have hmr:minRun' a₀.size a₀.size 0=a₀.size:=by
  obtain ⟨f,hf⟩:∃ f,a₀.size=f + 1:=⟨a₀.size - 1,Zwk h2⟩
  have:minRun' (f + 1) a₀.size 0=a₀.size:=by rw [minRun'_succ,if_pos h64]; rfl
  rwa [<- hf] at this
 simp only [hB.size,hmr]
 refine wpS_bind (wpS_mono (wpS_forRange
  (I:=fun x c st'=>(x=0/\c=(none,0)/\st'=st)\/(1<=x/\c=(none,a₀.size)/\arrOf st'=arrOf st/\failedOf st'=none/\pendingOf st'=#[(0,a₀.size,0)]))
  (Q:=fun c st'=>c=(none,a₀.size)/\arrOf st'=arrOf st/\failedOf st'=none/\pendingOf st'=#[(0,a₀.size,0)]) ?step ?fin (.inl ⟨rfl,rfl,rfl⟩)) ?post)
 case fin =>
  rintro c st' (⟨hx,_,_⟩ | ⟨_,hc,hD⟩)
  ·exact False.elim (Zwl h2 hx)
  ·exact ⟨hc,hD⟩
 case step =>
  rintro x c st' _ hx (⟨rfl,rfl,rfl⟩ | ⟨hx1,rfl,hD⟩)
  ·skip
   rw [if_neg (Zwm h2)]
   simp only [Nat.sub_zero,Nat.min_self,Nat.zero_add]
   refine wpS_bind (ZjI h0 (o4 h2) hB hs ?_)
   dsimp only
   rw [if_neg (Nat.lt_irrefl _)]
   refine wpS_bind (wpS_get ?_)
   have hb:(pendingOf st').back?=none:=by rw [hB.pend]; rfl
   rw [hb]
   refine wpS_bind (wpS_modify (wpS_pure (.inr ⟨Zwn,rfl,rfl,hB.failed,?_⟩)))
   show (pendingOf st').push _=_
   rw [hB.pend]; rfl
  ·skip
   rw [if_pos (Nat.le_refl _)]
   exact wpS_pure ⟨rfl,hD⟩
 case post =>
  rintro c st' ⟨rfl,hD1,hD2,hD3⟩
  refine wpS_bind (wpS_mono (wpS_forRange (I:=fun _ c st''=>st''=st'/\c=(none,())) (Q:=fun c st''=>st''=st'/\c=(none,())) ?_ (fun _ _ hh=>hh) ⟨rfl,rfl⟩) ?_)
  ·rintro x c st'' _ _ ⟨rfl,rfl⟩
   refine wpS_bind (wpS_get ?_)
   rw [if_pos (by rw [hD3]; exact Nat.le_refl 1)]
   exact wpS_pure ⟨rfl,rfl⟩
  ·rintro c st'' ⟨rfl,rfl⟩
   exact wpS_pure (h _ hD1 hD2)
variable {a kS:Addr} {vs:List Value} {kz:List Int} {keys:Array Value} {e e1:Nat} {P:PySem.Fin->Shared->Prop}
theorem Ziy {st:SortSt} (hkS:s.heap.get? kS=some (seqObj "list" keys e)) (ha:s.heap.get? a=some (seqObj "list" #[] e1)) (hka:kS ≠ a) (hsz:keys.size=vs.length) (h64:vs.length < 64) (harr:arrOf st=keys.zip vs.toArray) (hfl:failedOf st=none)
  (h:∀ h' c,(∀ b,b ≠ kS->b ≠ a->h'.get? b=s.heap.get? b)->(∃ o,h'.get? kS=some o)->h'.get? a=some (seqObj "list" vs.toArray c)->P (.done (.ret .none)) { s with heap:=h' }) :
  wpAny (model prog w) A (ksk_tail a false e1 (.ref kS) st) P E s:=by
 have hout:(arrOf st).map (·.2)=vs.toArray:=by
  rw [harr]
  apply Array.toList_inj.mp
  rw [Array.toList_map,ksk_zip]
  show (keys.toList.zip vs).map Prod.snd=vs
  exact List.map_snd_zip (by simp [hsz])
 have s1:=Heap.SameBut.update s.heap kS (Obj.mapSeq fun _=>(#[]:Array Value))
 have na1:(s.heap.update kS (Obj.mapSeq fun _=>(#[]:Array Value))).get? a=some (seqObj "list" #[] e1):=(s1.2 a hka.symm).trans ha
 have hk1:∃ o,(s.heap.update kS (Obj.mapSeq fun _=>(#[]:Array Value))).get? kS=some o:=⟨_,get?_update_seq hkS fun _=>#[]⟩
 have s2:=Heap.SameBut.update (s.heap.update kS (Obj.mapSeq fun _=>(#[]:Array Value))) a (Obj.mapSeq fun _=>vs.toArray)
 have hc2:=get?_update_seq na1 fun _=>vs.toArray
 unfold ksk_tail
 simp only [hout,hfl,Bool.false_eq_true,if_false]
 refine wpAny_bind (listUpdate_at hkS rfl ?_ (by rw [hsz,sizeLine_eq]; exact o16 h64) (Nat.zero_le _))
 refine wpAny_bind (wpAny_letGo ?_)
 refine wpAny_bind (seqEpoch_at na1 rfl ?_)
 refine wpAny_bind (listUpdate_at na1 rfl ?_ (Nat.zero_le _) (by show vs.toArray.size<=_; rw [List.size_toArray,sizeLine_eq]; exact Zwo h64))
 simp only [bne_self_eq_false,Bool.false_eq_true,if_false]
 refine wpAny_pure (h _ _ (fun b hb1 hb2=>(s2.2 b hb2).trans (s1.2 b hb1)) ?_ hc2)
 obtain ⟨o,ho⟩:=hk1
 exact ⟨o,(s2.2 kS hka).trans ho⟩
theorem Zjv (hkS:s.heap.get? kS=some (seqObj "list" keys e)) (ha:s.heap.get? a=some (seqObj "list" #[] e1)) (hka:kS ≠ a) (hk:IntsAre keys.toList kz) (hlen:kz.length=vs.length) (h64:vs.length < 64) (ho:kz.Pairwise (·<=·))
  (h:∀ h' c,(∀ b,b ≠ kS->b ≠ a->h'.get? b=s.heap.get? b)->(∃ o,h'.get? kS=some o)->h'.get? a=some (seqObj "list" vs.toArray c)->P (.done (.ret .none)) { s with heap:=h' }) :
  wpAny (model prog w) A (ksk_end a false vs.toArray e1 (.ref kS) keys) P E s:=by
 have hsz:keys.size=vs.length:=by
  have h1:=hk.length
  rw [Array.length_toList] at h1
  exact Zwp hlen h1
 have hzs:(keys.zip vs.toArray).size=vs.length:=by rw [Array.size_zip,hsz,List.size_toArray,Nat.min_self]
 unfold ksk_end
 try dsimp only
 rw [if_neg (by simp)]
 by_cases h2:vs.toArray.size < 2
 ·rw [if_pos h2,if_pos h2]
  refine wpAny_bind (wpAny_pure ?_)
  rw [StateT.run_pure]
  refine wpAny_bind (wpAny_pure ?_)
  try dsimp only
  exact Ziy (st:=SortSt.mk' general' (if false=true then (keys.zip vs.toArray).reverse else keys.zip vs.toArray) #[] 7 none) hkS ha hka hsz h64 rfl rfl h
 ·rw [if_neg h2,if_neg h2]
  rw [List.size_toArray] at h2
  rw [ksk_kind hk (by rw [hsz]; exact o92 h2)]
  refine wpAny_bind (wpAny_pure ?_)
  have hst:SortedTo (keys.zip vs.toArray) (keys.zip vs.toArray).size:=by
   intro i j hij hj
   rw [hzs] at hj
   have key:∀ m,m < vs.length->K (keys.zip vs.toArray) m=kz.getD m 0:=by
    intro m hm
    unfold K
    have hm':m < (keys.zip vs.toArray).size:=by rw [hzs]; exact hm
    rw [getElem?_pos _ m hm']
    have e3:((keys.zip vs.toArray)[m]'hm').1=keys[m]'(by rw [hsz]; exact hm):=by simp
    show numOf ((keys.zip vs.toArray)[m]'hm').1=_
    rw [e3,<- hk.nums]
    rw [List.getD_eq_getElem?_getD,List.getElem?_map]
    have:keys.toList[m]?=some (keys[m]'(by rw [hsz]; exact hm)):=by
     rw [Array.getElem?_toList]
     exact getElem?_pos _ _ _
    rw [this]
    rfl
   rw [key i (Zwq hij hj),key j hj]
   by_cases hij':i=j
   ·subst hij'; exact Int.le_refl _
   ·have hi':i < kz.length:=Zwr hlen hij hj
    have hj':j < kz.length:=Zws hlen hj
    have:=List.pairwise_iff_getElem.mp ho i j hi' hj' (o30 hij hij')
    rw [List.getD_eq_getElem?_getD,List.getD_eq_getElem?_getD,List.getElem?_eq_getElem hi',List.getElem?_eq_getElem hj']
    exact this
  refine wpAny_bind (wpAny_mono (Zib (a₀:=keys.zip vs.toArray) (st:=SortSt.mk' oneType' (if false=true then (keys.zip vs.toArray).reverse else keys.zip vs.toArray) #[] 7 none)
   (Q:=fun _ st'=>arrOf st'=keys.zip vs.toArray/\failedOf st'=none)
   (ksk_intKeys hk) ⟨Array.Perm.refl _,rfl,rfl,rfl⟩ (by rw [hzs]; exact o92 h2) (by rw [hzs]; exact h64) hst fun st' a1 a2=>⟨a1,a2⟩) ?_ fun _ _ e=>e)
  rintro ⟨⟨⟩,st'⟩ s' ⟨rfl,hp,hf⟩
  try dsimp only
  exact Ziy hkS ha hka hsz h64 hp hf h
end
end
section
open PySem PySem.W PyProof.Rows PySem.Calls PySem.SeqAt
set_option maxRecDepth 10000
section
variable {G:Glo} {K:Frag} {A:Around} {C:Cal} {sc:Scope} {P:Addr->Prop} {σ:St} {s:Shared}
structure KeySt (G:Glo) (P':Addr->Prop) (a kS:Addr) (e1:Nat) (σ₀:St) (s₀:Shared) (done:List Int) (σ:St) (s:Shared):Prop where
 i:Inv G P' σ s.heap
 la:s.heap.get? a=some (seqObj "list" #[] e1)
 lk:∃ kA e,s.heap.get? kS=some (seqObj "list" kA e)/\IntsAre kA.toList done
 ev:Evo (fun b=>b=kS) σ₀ s₀.heap σ s.heap
 ks:ZaF s₀ s
theorem ZiK {A2:Around} (HC:ZaJ G C A2.units A2.depth) (hh:A2.handled=none) {P':Addr->Prop} {a kS:Addr} {e1:Nat} (pk:P' kS) (hka:kS ≠ a) {f:Nat} {body:Value->PUnit->Sem (ForInStep PUnit)}
  (hbody:∀ (v:Value) (u:PUnit) (s':Shared) (Q':ForInStep PUnit->Shared->Prop) (E':Value->Shared->Prop),wpAny (model G.prog G.w) A2 (call (.ref (G.faddr f)) [v]) (fun k s''=>wpAny (model G.prog G.w) A2 (Builtin.List.listUpdate (.ref kS) (·.push k)) (fun _ s3=>Q' (.yield PUnit.unit) s3) E' s'') (fun _ _=>False) s'->wpAny (model G.prog G.w) A2 (body v u) Q' E' s') (σ₀:St) (s₀:Shared) :
  ∀ (xs:List LV) (vs:List Value) (done:List Int) (σ:St) (s:Shared) (Q:List Int->St->Prop) {E:Value->Shared->Prop} {Ψ:PUnit->Shared->Prop},KeySt G P' a kS e1 σ₀ s₀ done σ s->Zz G (Dom P' σ) s.heap xs vs->done.length + xs.length<=1000->(P' a)->ZgV C f xs Q σ->
   (∀ is σ' s',KeySt G P' a kS e1 σ₀ s₀ (done++is) σ' s'->is.length=xs.length->Q is σ'->Ψ PUnit.unit s')->wpAny (model G.prog G.w) A2 (forIn vs PUnit.unit body) Ψ E s
 | [],vs,done,σ,s,Q,E,Ψ,K,r,hl,pa,q,k=>by
  rw [r.nil_eq,List.forIn_nil]
  exact wpAny_pure (k [] σ s (by rw [List.append_nil]; exact K) rfl q)
 | x::xs,vs,done,σ,s,Q,E,Ψ,KS,r,hl,pa,q,k=>by
  refine r.unE fun v us rv rs=>?_
  rw [List.length_cons] at hl
  rw [List.forIn_cons]
  refine wpAny_bind (hbody v _ s _ _ ?_)
  refine wpAny_call (codeAny_mono (HC A2 (Nat.le_refl _) (Nat.le_refl _) hh P' σ s f [x] [v] _ q KS.i (.one rv)) fun res s' z=>?_)
  rcases res with e | (w | _ | _ | _) <;> first | exact z.elim | skip
  refine Zgf z fun σ₁ i₁ ev₁ ks₁ hR0=>?_; refine Ze hR0 fun lv rl q₁=>?_
  cases lv with
  | int n =>
   refine rl.intE fun t=>?_
   dsimp only at q₁
   refine Zik KS.lk fun kA e hkA hints=>?_
   have kept:∀ b o,s.heap.get? b=some o->P' b->s'.heap.get? b=some o:=fun b o g p=>(ev₁ b o g (KS.i.dis b p).1 fun z=>z).1
   have hk1:=kept _ _ hkA pk
   have ha1:=kept _ _ KS.la pa
   have hlenA:kA.size=done.length:=by
    have:=hints.length
    rw [Array.length_toList] at this
    exact this
   have s2:=Heap.SameBut.update s'.heap kS (Obj.mapSeq (·.push (.int n t)))
   refine listUpdate_at hk1 rfl ?_ (by rw [hlenA,sizeLine_eq]; exact ZvG hl) (Nat.le_trans (Nat.le_of_eq (Array.size_push ..)) (by rw [hlenA,sizeLine_eq]; exact ZvH hl))
   refine ZU (show ∃ c2,(s'.heap.update kS (Obj.mapSeq (·.push (.int n t)))).get? kS=some (seqObj "list" (kA.push (.int n t)) c2) from ⟨_,get?_update_seq hk1 (·.push (.int n t))⟩) fun c2 hc2=>?_
   have i₂:Inv G P' σ₁ (s'.heap.update kS (Obj.mapSeq (·.push (.int n t)))):=i₁.priv pk s2 ⟨_,hc2⟩
   have KS':KeySt G P' a kS e1 σ₀ s₀ (done++[n]) σ₁ { s' with heap:=s'.heap.update kS (Obj.mapSeq (·.push (.int n t))) }:=by
    refine ⟨i₂,(s2.2 a hka.symm).trans ha1,⟨_,_,hc2,?_⟩,(KS.ev.trans (ev₁.weaken fun b z=>z.elim)).trans (Evo.priv s2 rfl),KS.ks.trans ks₁⟩
    rw [Array.toList_push]
    exact ksk_snoc hints
   have rs':Zz G (Dom P' σ₁) (s'.heap.update kS (Obj.mapSeq (·.push (.int n t)))) xs us:=(rs.evo ev₁ fun b z=>z.elim).mono (Dom.priv pk s2)
   refine ZiK HC hh pk hka hbody σ₀ s₀ xs us (done++[n]) σ₁ _ _ KS' rs' (by rw [List.length_append,List.length_singleton]; exact ZvI hl) pa q₁ fun is σ' s'' K'' hl' q'=>?_
   refine k (n::is) σ' s'' ?_ (by rw [List.length_cons,List.length_cons,hl']) q'
   rw [List.append_assoc] at K''
   exact K''
  | _=>exact q₁.elim
theorem ZlC (HC:ZaJ G C (A.units + 5) (A.depth + 1)) (R:Room A) {f:Nat} {xs:List LV} {x:Value} {Q:LV->St->Prop} (i:Inv G P σ s.heap) (rx:Rep G (Dom P σ) s.heap (.lst xs) x) (h64:xs.length < 64)
  (q:ZgV C f xs (fun is σ₃=>is.Pairwise (·<=·)/\Q (.lst xs) σ₃) σ):TT G A P noF (call (.builtin "sorted") [x] [(Str.ofString "key",.ref (G.faddr f))]) (Res G P Q) σ s:=by
 refine rx.lstE fun l0 ws n0 d0 g0 rws=>?_
 have hlen:=rws.length
 have hws:ws.size=xs.length:=by rw [Array.length_toList] at hlen; exact hlen
 unfold TT
 refine call_function_entry_kw PyProof.Rows.kind_sorted PyProof.Rows.plain_sorted PyProof.Rows.entry_sorted (ksk_s1 _ _) ?_
 unfold Builtin.«sorted»
 refine wpAny_bind (m:=checkCount "sorted" 1 1 _) (wpAny_pure ?_)
 refine wpAny_bind (wpAny_collect_seq l0 (.inl rfl) g0 rfl rfl (fun h1 k1=>?_) (by rw [hws,sizeLine_eq]; exact o16 h64))
 refine wpAny_bind (wpAny_newList ?_ (by rw [Array.length_toList,hws,sizeLine_eq]; exact o16 h64))
 have hvs:ws.toList.toArray=ws:=by simp
 generalize hL:h1.objs.size=L
 have gL:(h1.push (seqObj "list" ws.toList.toArray 0)).get? L=some (seqObj "list" ws.toList.toArray 0):=by rw [<- hL]; exact Heap.get?_push_size _ rfl
 have new1:∀ b,s.heap.get? b ≠ none->b < L:=fun b hb=>by
  cases hq:s.heap.get? b with
  | none=>exact absurd hq hb
  | some o=>rw [<- hL]; exact Heap.lt_size (k1 b o hq)
 have kL:∀ b o,s.heap.get? b=some o->(h1.push (seqObj "list" ws.toList.toArray 0)).get? b=some o:=fun b o g=>Heap.get?_push_of_some _ (k1 b o g)
 show wpAny _ _ _ _ _ { s with heap:=h1.push (seqObj "list" ws.toList.toArray 0) }
 generalize hH2:h1.push (seqObj "list" ws.toList.toArray 0)=H2 at gL kL ⊢
 have sz2:H2.objs.size=L + 1:=by rw [<- hH2,size_push',hL]
 refine wpAny_bind (wpAny_holding (wpAny_call_entry_kw PyProof.Rows.slot_list_sort ⟨_,gL,rfl⟩ PyProof.Rows.entry_list_sort ?_ (ksk_l1 _ _)))
 rw [ksk_t1]
 unfold ksk_tree
 have s1:=Heap.SameBut.update H2 L (Obj.mapSeq fun _=>(#[]:Array Value))
 refine ZU (show ∃ e1,(H2.update L (Obj.mapSeq fun _=>(#[]:Array Value))).get? L=some (seqObj "list" #[] e1) from ⟨_,get?_update_seq gL fun _=>#[]⟩) fun e1 ho1=>?_
 refine wpAny_bind (listItems_at gL rfl ?_)
 refine wpAny_bind (listUpdate_at gL rfl ?_ (by rw [List.size_toArray,Array.length_toList,hws,sizeLine_eq]; exact o16 h64) (Nat.zero_le _))
 refine wpAny_bind (seqEpoch_at ho1 rfl ?_)
 refine wpAny_bind (wpAny_newTuple ?_ (by show ws.toList.length<=_; rw [Array.length_toList,hws,sizeLine_eq]; exact o16 h64))
 refine wpAny_bind (wpAny_newList ?_ (Nat.zero_le _))
 refine wpAny_holding ?_
 generalize hT:(H2.update L (Obj.mapSeq fun _=>(#[]:Array Value))).push { cls:=Value.type "tuple",data:=Data.seq ws.toList.toArray.toList.toArray }=H3
 have kT:∀ b o,(H2.update L (Obj.mapSeq fun _=>(#[]:Array Value))).get? b=some o->H3.get? b=some o:=fun b o g=>by rw [<- hT]; exact Heap.get?_push_of_some _ g
 have sz3:H3.objs.size=L + 2:=by rw [<- hT,Heap.size_push,Heap.size_update,sz2]
 dsimp only
 rw [sz3]
 generalize hK:H3.push { cls:=Value.type "list",data:=Data.seq ([]:List Value).toArray }=H4
 have kK:∀ b o,H3.get? b=some o->H4.get? b=some o:=fun b o g=>by rw [<- hK]; exact Heap.get?_push_of_some _ g
 have gK:H4.get? (L + 2)=some (seqObj "list" #[] 0):=by rw [<- hK,<- sz3]; exact Heap.get?_push_size _ rfl
 have gL4:H4.get? L=some (seqObj "list" #[] e1):=kK _ _ (kT _ _ ho1)
 have k4:∀ b o,s.heap.get? b=some o->H4.get? b=some o:=fun b o g=>by
  have hb:b ≠ L:=Nat.ne_of_lt (new1 b (by rw [g]; simp))
  exact kK _ _ (kT _ _ ((s1.2 b hb).trans (kL b o g)))
 have none0:∀ b,L<=b->s.heap.get? b=none:=fun b hb=>by
  cases hq:s.heap.get? b with
  | none=>rfl
  | some o =>
   exact absurd (new1 b (by rw [hq]; simp)) (Nat.not_lt.mpr hb)
 have newb:∀ b,L<=b->σ b=none/\G.h₁.get? b=none:=fun b hb=>⟨(i.free_dom (none0 b hb)).1,by
  cases z:G.h₁.get? b with
  | none=>rfl
  | some o=>have:=i.base _ _ z; rw [none0 b hb] at this; cases this⟩
 have pubb:∀ b o,s.heap.get? b=some o->¬ P b->¬ ZX (ZX P L) (L + 2) b:=fun b o g n hb=>by
  rcases hb with (pb | e) | e
  ·exact n pb
  ·rw [e,none0 L (Nat.le_refl _)] at g; exact nos g
  ·rw [e,none0 (L + 2) o42] at g; exact nos g
 have i4:Inv G (ZX (ZX P L) (L + 2)) σ H4:=i.conv (N:=noF) (fun _ z=>z.elim) (fun b o g _=>k4 b o g) (fun b hb=>by
  rcases hb with (pb | e) | e
  ·refine Zbp (i.dis b pb) fun x y hR0=>?_; refine ZU hR0 fun o ho=>?_
   exact ⟨x,y,o,k4 _ _ ho⟩
  ·rw [e]; exact ⟨(newb L (Nat.le_refl _)).1,(newb L (Nat.le_refl _)).2,_,gL4⟩
  ·rw [e]; exact ⟨(newb (L + 2) o42).1,(newb (L + 2) o42).2,_,gK⟩) pubb
 have r4:Zz G (Dom (ZX (ZX P L) (L + 2)) σ) H4 xs ws.toList:=rws.conv (N:=noF) (fun _ z=>z.elim) (fun b o g _=>k4 b o g) pubb
 unfold ksk_rest
 refine wpAny_bind (wpAny_rule ?_)
 rw [List.forIn_toArray]
 have hh2:A.in1.in1.handled=none:=by simp [R.handled]
 have HC2:ZaJ G C A.in1.in1.units A.in1.in1.depth:=fun B hu hd hB=>HC B (by simp at hu; exact ZvJ hu) (by simp at hd; exact o64 hd) hB
 refine wpAny_bind (ZiK (f:=f) HC2 hh2 (P':=ZX (ZX P L) (L + 2)) (a:=L) (kS:=L + 2) (e1:=e1) (.inr rfl) (Nat.ne_of_gt (show L < L + 2 by exact o86)) (fun v u s' Q' E' h=>?_) σ { s with heap:=H4 } xs ws.toList [] σ { s with heap:=H4 } _ ⟨i4,gL4,⟨#[],0,gK,.nil⟩,Evo.refl _ _ _,.refl _⟩ r4 (by simp; exact ZvK h64) (.inl (.inr rfl)) q fun is σ' s' KS hil hq=>?_)
 ·refine wpAny_bind (wpAny_attempt (wpAny_mono h (fun k s'' hk=>?_) fun _ _ z=>z.elim))
  dsimp only
  exact wpAny_bind (wpAny_mono hk (fun _ s3 h3=>wpAny_pure h3) fun _ _ z=>z)
 ·refine ZL hq fun hsort hQ=>?_
  refine Zik KS.lk fun kA e hkA hints=>?_
  refine wpAny_bind (listItems_at hkA rfl ?_)
  refine Zjv hkA KS.la (Nat.ne_of_gt (show L < L + 2 by exact o86)) hints (by rw [List.nil_append,hil,hlen]) (by rw [Array.length_toList,hws]; exact h64) (by rw [List.nil_append]; exact hsort) fun h' c same hk' hl'=>?_
  refine ⟨_,rfl,?_⟩
  have np:∀ b,L<=b->¬ P b:=fun b hb hp=>by
   refine Zbp (i.dis b hp) fun _ _ hR0=>?_; refine ZU hR0 fun o ho=>?_
   rw [none0 b hb] at ho; exact nos ho
  have pub':∀ b,¬ ZX (ZX P L) (L + 2) b->¬ P b:=fun b hb hp=>hb (.inl (.inl hp))
  have sameN:∀ b o,s'.heap.get? b=some o->¬ (b=L\/b=L + 2)->h'.get? b=some o:=fun b o g n=>(same b (fun e=>n (.inr e)) (fun e=>n (.inl e))).trans g
  have i5:Inv G P σ' h':=KS.i.conv (N:=fun b=>b=L\/b=L + 2) (fun b hb=>hb.elim (fun e=>.inl (.inr e)) .inr) sameN (fun b hp=>by
   refine Zbp (KS.i.dis b (.inl (.inl hp))) fun x y hR0=>?_; refine ZU hR0 fun o ho=>?_
   refine ⟨x,y,o,sameN b o ho fun hb=>?_⟩
   refine Or.elim hb (fun e=>?_) fun e=>?_
   ·exact np b (Nat.le_of_eq e.symm) hp
   ·exact np b (by rw [e]; exact Nat.le_add_right L 2) hp) (fun b o g n hp=>n (.inl (.inl hp)))
  have ev5:Evo noF σ s.heap σ' h':=fun b o g n _=>by
   have hbL:b < L:=new1 b (by rw [g]; simp)
   have n2:¬ b=L + 2:=fun e=>absurd hbL (by rw [e]; exact Nat.not_lt.mpr (Nat.le_add_right L 2))
   have n1:¬ b=L:=fun e=>absurd hbL (by rw [e]; exact Nat.lt_irrefl _)
   have:=KS.ev b o (k4 b o g) n n2
   exact ⟨sameN b o this.1 (fun hb=>hb.elim n1 n2),this.2⟩
  show wpAny _ _ (ret (Value.ref L)) _ _ _
  refine wpAny_pure ⟨_,rfl,σ',i5,ev5,KS.ks.trans ⟨rfl,rfl⟩,.lst xs,?_,hQ⟩
  have hLd:Dom P σ' L:=⟨(KS.i.dis L (.inl (.inr rfl))).1,np L (Nat.le_refl _)⟩
  refine Rep.lst_mk (n:=c) (ws:=ws.toList.toArray) hLd hl' ?_
  rw [hvs]
  exact rws.evo ev5 fun _ z=>z.elim
noncomputable def Zq2 (G:Glo) (C:Cal) (f:LE) (ρ:Env) (Q:LV->St->Prop) (a:LV) (σ₁:St):Prop:=wpE G.T C f ρ (fun fv σ₂=>match a,fv with
   | .lst xs,.fn g=>xs.length < 64/\ZgV C g xs (fun is σ₃=>is.Pairwise (·<=·)/\Q (.lst xs) σ₃) σ₂
   | _,_=>False) σ₁
theorem EO.srt (X:Facts G K) (R:Room A) (HC:ZaJ G C (A.units + 5) (A.depth + 1)) {e f:LE} {e' f':Expr} {p p2 pos:Pos} (hns:ZbU e'=true) (hl:sc.names.lookup ("sorted" : Str)=some .globalImplicit) (h1:EO G A C sc e e') (h2:EO G A C sc f f') :
  EO G A C sc (.srt e f) (.Call (.Name ("sorted" : Str) p) [e'] [⟨some ("key" : Str),f',p2⟩] pos):=fun P σ s env ρ Q hs i E q=>by
 have q0:wpE G.T C e ρ (Zq2 G C f ρ Q) σ:=q
 clear q
 rw [arm_eval_Call_Name']
 refine TT.bind (Zj4 (b:=.sorted_) X (by unfold Env.kindOf; rw [hs]; exact hl) i E ?_)
 have hstar:=Zdh (r:=[]) (env:=env) hns
 have hb:=ZbT (pos:=pos) (env:=env) (es:=[e']) (by show (ZbU e'&&true)=true; rw [hns]; rfl)
 refine callWith_kw ?_ (by rw [hstar]; rfl) hb.1
 have hq:Zcs G.T C [e] ρ (fun lvs σ₁=>∃ a,lvs=[a]/\Zq2 G C f ρ Q a σ₁) σ:=by
  have hfun:(fun v σ₁=>Zcs G.T C [] ρ (fun vs σ₂=>∃ a,v::vs=[a]/\Zq2 G C f ρ Q a σ₂) σ₁)=Zq2 G C f ρ Q:=by
   funext v σ₁
   apply propext
   constructor
   ·rintro ⟨a,e,h⟩
    injection e with e _
    subst e
    exact h
   ·intro h
    exact ⟨v,rfl,h⟩
  exact (congrArg (wpE G.T C e ρ · σ) hfun).mpr q0
 have hsp:=(EsO.cons (G:=G) (A:=A) (C:=C) (sc:=sc) hns h1 EsO.nil) P σ s env ρ _ pos hs i E hq
 refine wpAny_mono hsp (fun us s₁ ⟨σ₁,i₁,ev₁,ks₁,lvs,rl,_,a,ea,q₁⟩=>?_) fun _ _ z=>z.elim
 subst ea
 refine rl.unE fun x r0 rx rn=>?_
 rw [rn.nil_eq]
 refine kws_cons ?_
 refine wpAny_mono (h2 P σ₁ s₁ env ρ _ hs i₁ (E.evo i ev₁) q₁) (fun fv s₂ ⟨σ₂,i₂,ev₂,ks₂,lf,rf,q₂⟩=>?_) fun _ _ z=>z.elim
 refine kws_nil ?_
 have rx₂:=rx.evo ev₂ fun _ z=>z.elim
 cases a with
 | lst xs =>
  cases lf with
  | fn g =>
   refine ZL q₂ fun h64 q₃=>?_
   subst rf
   have:=ZlC (σ:=σ₂) (s:=s₂) HC R i₂ rx₂ h64 q₃
   refine wpAny_mono this (fun v s₃ hQ0=>Zgf hQ0 fun σ₃ i₃ ev₃ ks₃ y=>⟨σ₃,i₃,(ev₁.trans ev₂).trans ev₃,(ks₁.trans ks₂).trans ks₃,y⟩) fun _ _ z=>z
  | _=>exact q₂.elim
 | _=>exact q₂.elim
end
section
variable {G:Glo} {K:Frag} {A:Around} {C:Cal}
noncomputable def EBC (G:Glo) (A:Around) (C:Cal) (sc:Scope) (le:LE) (e:Expr):Prop:=EO G A C sc le e/\BO G A C sc le e/\(ZnD e=true->CO G A C sc le e)
theorem EBC.of {sc:Scope} {le:LE} {e:Expr} (h:EO G A C sc le e) (hp:Zdf e=true) (hl:ZnD e=false):EBC G A C sc le e:=⟨h,BO.plain hp h,fun z=>by rw [hl] at z; cases z⟩
theorem EBC.two {sc:Scope} {le:LE} {e:Expr} (h:EO G A C sc le e) (hb:BO G A C sc le e) (hl:ZnD e=false):EBC G A C sc le e:=⟨h,hb,fun z=>by rw [hl] at z; cases z⟩
theorem Zk2 {n:Nat} (h:decide (n<=1000)=true):n<=1000000:=Nat.le_trans (of_decide_eq_true h) (by decide)
theorem Zlc {α:Type} {M:Option α->Prop} {o:Option α} (h:o.isNone=true) (f:M none):M o:=match o,h with
 | none,_=>f
theorem eb {α:Type} [BEq α] [LawfulBEq α] {a b:α} (h:(a == b)=true):(b == a)=true:=by rw [eq_of_beq h]; exact beq_self_eq_true b
theorem not_true {b:Bool} (h:(!b)=true):b=false:=by cases b <;> first | rfl | cases h
theorem Zsx (X:Facts G K) (R:Room A) {sc:Scope} {o:CmpOp} {l r:LE} {l' r':Expr} {p:Pos} (a:EO G A C sc l l') (b:EO G A C sc r r') (h:behindInMarks o r'=false):EBC G A C sc (.cmp o l r) (.Compare l' [o] [r'] p):=.two (.cmp X.base R a b h) (.cmp X.base R a b h) rfl
theorem ZpI (X:Facts G K) (R:Room A) {sc:Scope} {o₁ o₂:CmpOp} {l m r:LE} {l' m' r':Expr} {p:Pos} (a:EO G A C sc l l') (b:EO G A C sc m m') (c:EO G A C sc r r') (h:lastMarks [o₁,o₂] [m',r']=false):EBC G A C sc (.chain l o₁ m o₂ r) (.Compare l' [o₁,o₂] [m',r'] p) :=
 .two (.chain X.base R a b c h) (.chain X.base R a b c h) rfl
theorem Zrh {sc:Scope} {an:Bool} {l r:LE} {l' r':Expr} {p:Pos} (a:EBC G A C sc l l') (b:EBC G A C sc r r'):EBC G A C sc (.bool an l r) (.BoolOp (ZbM an) [l',r'] p):=.two (.bool a.1 b.1) (.bool a.2.1 b.2.1) rfl
theorem ZsC {sc:Scope} {e:LE} {e':Expr} {p:Pos} (a:EBC G A C sc e e'):EBC G A C sc (.not e) (.UnaryOp .Not e' p):=.two (.not a.1) (.not a.2.1) rfl
theorem ZsA {sc:Scope} {t a b:LE} {t' a' b':Expr} {p:Pos} (x:EBC G A C sc t t') (y:EBC G A C sc a a') (z:EBC G A C sc b b'):EBC G A C sc (.ite t a b) (.IfExp t' a' b' p):=.two (.ite x.2.1 y.1 z.1) (.ite x.2.1 y.2.1 z.2.1) rfl
theorem ZwX (R:Room A) {sc:Scope} {fv:List Nat} {elt lit:LE} {t:Tg} {c:Option LE} {elt' te iter:Expr} {ifs:List Expr} {scope:Scope} {cpos:Pos} {tr:Bool} (Y:CompOk G A C sc fv elt t lit c elt' te iter ifs scope) :
  EBC G A C sc (.comp tr fv elt t lit c) (.ListComp elt' [⟨te,iter,ifs,0⟩] scope cpos):=⟨(CO.one R Y).eo rfl,BO.plain rfl ((CO.one R Y).eo rfl),fun _=>CO.one R Y⟩
theorem ZwY (R:Room A) {sc:Scope} {fv:List Nat} {elt lit lit₂:LE} {t t₂:Tg} {elt' te iter te₂ iter₂:Expr} {scope:Scope} {cpos:Pos} {tr:Bool} (Y:Comp2Ok G A C sc fv elt t lit t₂ lit₂ elt' te iter te₂ iter₂ scope) :
  EBC G A C sc (.comp2 tr fv elt t lit t₂ lit₂) (.ListComp elt' [⟨te,iter,[],0⟩,⟨te₂,iter₂,[],0⟩] scope cpos):=⟨(CO.two R Y).eo rfl,BO.plain rfl ((CO.two R Y).eo rfl),fun _=>CO.two R Y⟩
variable (X:Facts G K) (R:Room A) (HC:ZaJ G C (A.units + 5) (A.depth + 1))
include X R HC
mutual
theorem Z2:∀ (le:LE) (sc:Scope) (e:Expr),mE G.nm le sc e=true->EBC G A C sc le e
 | .k v,sc,e,h=>Zfk (M:=EBC G A C sc _) h fun c a p h=>.of (.const h) rfl rfl
 | .v x,sc,e,h=>Zbk (M:=EBC G A C sc _) h fun n p h=>a4 h fun h1 h2 h3 h4=>.of (.var (ZqS h1) (not_true h2) (not_true h3) h4) rfl rfl
 | .g x,sc,e,h=>Zbk (M:=EBC G A C sc _) h fun n p h=>a3 h fun h1 h2 h3=>.of (.glob X (ZqS h1) (not_true h2) (eq_of_beq h3)) rfl rfl
 | .bin o l r,sc,e,h=>Zi0 (M:=EBC G A C sc _) h fun l' o' r' p h=>a3 h fun h1 h2 h3=>be (M:=fun o'=>EBC G A C sc _ (.BinOp _ o' _ _)) h1 (.of (.bin (Z2 l sc _ h2).1 (Z2 r sc _ h3).1 fun P σ s a b c x y Q i hb ra rb q=>ZpE R i hb ra rb q) rfl rfl)
 | .neg n,sc,e,h=>Zlm (M:=EBC G A C sc _) h fun o e' p h=>a2 h fun h1 h=>be (M:=fun o=>EBC G A C sc _ (.UnaryOp o _ _)) (eb h1) (Zfk (M:=fun e=>EBC G A C sc _ (.UnaryOp _ e _)) h fun c a p' h =>
   ZmR (M:=fun c=>EBC G A C sc _ (.UnaryOp _ (.Constant c _ _) _)) h fun i h=>be (M:=fun i=>EBC G A C sc _ (.UnaryOp _ (.Constant (.int i) _ _) _)) (eb h) (.of .neg rfl rfl))
 | .cmp o l r,sc,e,h=>Zi2 (M:=EBC G A C sc _) h fun l' os rs p h=>Zda (M:=fun os=>EBC G A C sc _ (.Compare _ os _ _)) h fun o' h=>Zda (M:=fun rs=>EBC G A C sc _ (.Compare _ _ rs _)) h fun r' h =>
   a4 h fun h1 h2 h3 h4=>be (M:=fun o'=>EBC G A C sc _ (.Compare _ [o'] _ _)) h1 (Zsx X R (Z2 l sc _ h3).1 (Z2 r sc _ h4).1 (not_true h2))
 | .chain l o₁ m o₂ r,sc,e,h=>Zi2 (M:=EBC G A C sc _) h fun l' os rs p h=>ZiZ (M:=fun os=>EBC G A C sc _ (.Compare _ os _ _)) h fun p₁ p₂ h=>ZiZ (M:=fun rs=>EBC G A C sc _ (.Compare _ _ rs _)) h fun m' r' h =>
   a6 h fun h1 h1' h2 h3 h4 h5=>be (M:=fun p₁=>EBC G A C sc _ (.Compare _ [p₁,_] _ _)) h1 (be (M:=fun p₂=>EBC G A C sc _ (.Compare _ [_,p₂] _ _)) h1' (ZpI X R (Z2 l sc _ h3).1 (Z2 m sc _ h4).1 (Z2 r sc _ h5).1 (not_true h2)))
 | .bool an l r,sc,e,h=>Zlg (M:=EBC G A C sc _) h fun op vs p h=>ZiZ (M:=fun vs=>EBC G A C sc _ (.BoolOp _ vs _)) h fun l' r' h=>a3 h fun h1 h2 h3=>be (M:=fun op=>EBC G A C sc _ (.BoolOp op _ _)) (eb h1)
   (Zrh (Z2 l sc _ h2) (Z2 r sc _ h3))
 | .not e,sc,ex,h=>Zlm (M:=EBC G A C sc _) h fun o e' p h=>a2 h fun h1 h=>be (M:=fun o=>EBC G A C sc _ (.UnaryOp o _ _)) (eb h1) (ZsC (Z2 e sc _ h))
 | .ite t a b,sc,e,h=>ZmT (M:=EBC G A C sc _) h fun t' a' b' p h=>a3 h fun h1 h2 h3=>ZsA (Z2 t sc _ h1) (Z2 a sc _ h2) (Z2 b sc _ h3)
 | .tup es,sc,e,h=>Zi5 (M:=EBC G A C sc _) h fun es' a p h=>a2 h fun h1 h2=>.of (.tup (Zk2 h1) (ZdL es sc _ h2)) rfl rfl
 | .lst es,sc,e,h=>Zi4 (M:=EBC G A C sc _) h fun es' p h=>a2 h fun h1 h2=>.of (.lst (Zk2 h1) (ZdL es sc _ h2)) rfl rfl
 | .lstR es,sc,e,h=>Zi4 (M:=EBC G A C sc _) h fun es' p h=>a2 h fun h1 h2=>.of (.lstR (Zk2 h1) (ZdL es sc _ h2)) rfl rfl
 | .dictR _,sc,e,h=>Zli (M:=EBC G A C sc _) h fun a b p h=>a2 h fun h1 h2=>Zbs (M:=fun a=>EBC G A C sc _ (.Dict a _ _)) h1 (Zbs (M:=fun b=>EBC G A C sc _ (.Dict _ b _)) h2 (.of .dictR rfl rfl))
 | .repR l n,sc,e,h=>Zi0 (M:=EBC G A C sc _) h fun l' o n' p h=>a3 h fun h1 h2 h3=>be (M:=fun o=>EBC G A C sc _ (.BinOp _ o _ _)) (eb h1) (.of (.repR (Z2 l sc _ h2).1 (Z2 n sc _ h3).1) rfl rfl)
 | .attr e x,sc,ex,h=>Zdb (M:=EBC G A C sc _) h fun e' n p h=>a4 h fun h1 h2 h3 h4=>.of (.attr X R (ZqS h1) (of_decide_eq_true h2) h3 (Z2 e sc _ h4).1) rfl rfl
 | .sub e i,sc,ex,h=>ZfR (M:=EBC G A C sc _) h fun e' i' p h=>a3 h fun h1 h2 h3=>.of (.sub X.base R h1 (Z2 e sc _ h2).1 (Z2 i sc _ h3).1) rfl rfl
 | .slc e i,sc,ex,h=>ZfR (M:=EBC G A C sc _) h fun e' j p h=>ZmX (M:=fun j=>EBC G A C sc _ (.Subscript _ j _)) h fun a b c p' h=>a3 h fun h1 h2 h =>
   Zlk (M:=fun b=>EBC G A C sc _ (.Subscript _ (.Slice _ b _ _) _)) h fun i' h=>Zlc (M:=fun a=>EBC G A C sc _ (.Subscript _ (.Slice a _ _ _) _)) h1 (Zlc (M:=fun c=>EBC G A C sc _ (.Subscript _ (.Slice _ _ c _) _)) h2
    (a2 h fun h3 h4=>.of (.slc (Z2 e sc _ h3).1 (Z2 i sc _ h4).1) rfl rfl))
 | .call f es,sc,ex,h=>Zck (M:=EBC G A C sc _) h fun f' es' ks p h=>a5 h fun h0 h1 h2 h3 h4=>Zbs (M:=fun ks=>EBC G A C sc _ (.Call _ _ ks _)) h0 (.of (.call X R HC h1 h2 (Z2 f sc _ h3).1 (ZdL es sc _ h4)) rfl rfl)
 | .meth o x es,sc,ex,h=>Zck (M:=EBC G A C sc _) h fun f' es' ks p h=>a2 h fun h0 h=>Zbs (M:=fun ks=>EBC G A C sc _ (.Call _ _ ks _)) h0 (Zdb (M:=fun f=>EBC G A C sc _ (.Call f _ _ _)) h fun o' n apos h =>
   a5 h fun h1 h4 h5 h6 h7=>a3 h1 fun h1 h2 h3=>.of (.meth X R HC (ZqS h1) h2 (of_decide_eq_true h3) h4 h5 (Z2 o sc _ h6).1 (ZdL es sc _ h7)) rfl rfl)
 | .lm o m es,sc,ex,h=>Zck (M:=EBC G A C sc _) h fun f' es' ks p h=>a2 h fun h0 h=>Zbs (M:=fun ks=>EBC G A C sc _ (.Call _ _ ks _)) h0 (Zdb (M:=fun f=>EBC G A C sc _ (.Call f _ _ _)) h fun o' n apos h =>
   a5 h fun h1 h4 h5 h6 h7=>a3 h1 fun h1 h2 h3=>be (M:=fun n=>EBC G A C sc _ (.Call (.Attribute _ n _) _ _ _)) h1 (.of (.lm X R h2 (of_decide_eq_true h3) h4 h5 (Z2 o sc _ h6).1 (ZdL es sc _ h7)) rfl rfl))
 | .bi b es,sc,ex,h=>Zck (M:=EBC G A C sc _) h fun f' es' ks p h=>a2 h fun h0 h=>Zbs (M:=fun ks=>EBC G A C sc _ (.Call _ _ ks _)) h0 (Zbk (M:=fun f=>EBC G A C sc _ (.Call f _ _ _)) h fun n p' h =>
   a4 h fun h1 h2 h3 h4=>be (M:=fun n=>EBC G A C sc _ (.Call (.Name n _) _ _ _)) h1 (.of (.bi X R h2 (eq_of_beq h3) (ZdL es sc _ h4)) rfl rfl))
 | .srt e f,sc,ex,h=>Zck (M:=EBC G A C sc _) h fun f' es' ks p h=>Zda (M:=fun ks=>EBC G A C sc _ (.Call _ _ ks _)) h fun ⟨a,v,kp⟩ h=>Zda (M:=fun es=>EBC G A C sc _ (.Call _ es _ _)) h fun e' h =>
   Zlk (M:=fun a=>EBC G A C sc _ (.Call _ _ [⟨a,_,_⟩] _)) h fun a' h=>Zbk (M:=fun f=>EBC G A C sc _ (.Call f _ _ _)) h fun n p' h=>a6 h fun h1 h2 h3 h4 h5 h6 =>
   be (M:=fun n=>EBC G A C sc _ (.Call (.Name n _) _ _ _)) (eb h1) (be (M:=fun a=>EBC G A C sc _ (.Call _ _ [⟨some a,_,_⟩] _)) (eb h2) (.of (.srt X R HC h3 (eq_of_beq h4) (Z2 e sc _ h5).1 (Z2 f sc _ h6).1) rfl rfl))
 | .comp tr fv elt t it c,sc,ex,h=>Zhc (M:=EBC G A C sc _) h fun elt' gs scope p h=>Zda (M:=fun gs=>EBC G A C sc _ (.ListComp _ gs _ _)) h fun ⟨te,iter,ifs,as⟩ h=>a2 h fun h0 h =>
   be (M:=fun as=>EBC G A C sc _ (.ListComp _ [⟨_,_,_,as⟩] _ _)) (eb h0) (a6 h fun h1 h2 h3 h4 h5 h6=>ZwX R ⟨ZdN h1,Zcq h2,fun env x=>ZbP h3 env x,(Z2 it sc _ h4).1,ZrB c _ _ h6,(Z2 elt _ _ h5).1⟩)
 | .comp2 tr fv elt t it t₂ it₂,sc,ex,h=>Zhc (M:=EBC G A C sc _) h fun elt' gs scope p h=>ZiZ (M:=fun gs=>EBC G A C sc _ (.ListComp _ gs _ _)) h fun ⟨te,iter,ifs,as⟩ ⟨te₂,iter₂,ifs₂,as₂⟩ h=>a2 h fun h0 h=>a4 h0 fun z1 z2 z3 z4 =>
   be (M:=fun as=>EBC G A C sc _ (.ListComp _ [⟨_,_,_,as⟩,_] _ _)) (eb z1) (Zbs (M:=fun ifs=>EBC G A C sc _ (.ListComp _ [⟨_,_,ifs,_⟩,_] _ _)) z2 (be (M:=fun as=>EBC G A C sc _ (.ListComp _ [_,⟨_,_,_,as⟩] _ _)) (eb z3)
    (Zbs (M:=fun ifs=>EBC G A C sc _ (.ListComp _ [_,⟨_,_,ifs,_⟩] _ _)) z4 (a4 h fun h h7 h8 h9=>a6 h fun h1 h2 h3 h4 h5 h6 =>
     ZwY R ⟨ZdN h1,Zcq h2,Zcq h3,Zd6 h4,fun env x=>ZbP h5 env x,fun env x=>ZbP h6 env x,(Z2 it sc _ h7).1,(Z2 it₂ _ _ h8).1,(Z2 elt _ _ h9).1⟩))))
 | .frz e,sc,ex,h=>a3 h fun h1 h2 h3=>.of (.frz (Z2 e sc _ h3).1) h1 (not_true h2)
 | .stuck,sc,ex,h=>⟨fun P σ s env ρ Q hs i E q=>(q:False).elim,fun P σ s env ρ Q hs i E q=>(q:False).elim,fun _ P σ s env ρ Q use Qp E' hs i E q hp=>(q:False).elim⟩
theorem ZdL:∀ (les:List LE) (sc:Scope) (es:List Expr),mEs G.nm les sc es=true->EsO G A C sc les es
 | [],sc,es,h=>Zbs (M:=EsO G A C sc []) h .nil
 | e::les,sc,[],h=>Bool.noConfusion h
 | e::les,sc,e'::es,h=>a3 h fun h1 h2 h3=>.cons h1 (Z2 e sc _ h2).1 (ZdL les sc _ h3)
theorem ZrB:∀ (c:Option LE) (sc:Scope) (ifs:List Expr),mC G.nm c sc ifs=true->Zdx G A C sc c ifs
 | none,sc,ifs,h=>Zbs (M:=Zdx G A C sc none) h rfl
 | some c,sc,ifs,h=>Zda (M:=Zdx G A C sc (some c)) h fun c' h=>⟨_,rfl,(Z2 c sc _ h).2.1⟩
end
end
noncomputable def Zb3 {α:Type} (p:α->Bool) (t:Sem α):Bool:=if q:t.ctorIdx=0 then Sem.pure.elim (motive:=fun _=>Bool) t q p else false
theorem ZhV {α:Type} {p:α->Bool} {t:Sem α} (h:Zb3 p t=true):∃ a,t=pure a/\p a=true:=by
 by_cases q:t.ctorIdx=0
 ·exact Sem.pure.elim (motive:=fun t=>Zb3 p t=true->∃ a,t=pure a/\p a=true) t q (fun a h=>⟨a,rfl,h⟩) h
 ·unfold Zb3 at h
  rw [dif_neg q] at h
  exact Bool.noConfusion h
noncomputable def Zlb:List Nat->Bool
 | []=>true
 | x::xs=>!xs.contains x&&Zlb xs
theorem Zeo:∀ {xs:List Nat},Zlb xs=true->xs.Nodup
 | [],_=>List.nodup_nil
 | x::xs,h=>by
  refine ZL (Bool.and_eq_true_iff.mp h) fun h1 h2=>?_
  refine List.nodup_cons.mpr ⟨fun hm=>?_,Zeo h2⟩
  rw [List.contains_iff_mem.mpr hm] at h1; exact nob h1
noncomputable def ZnR (nm:Nat->Str) (t:Tg) (o:Option (List Str)):Bool:=match o with
 | none=>true
 | some ns=>match t with
  | .tp xs=>ns == xs.map nm&&Zlb xs&&(xs.length == 2 || xs.length == 3)
  | _=>false
noncomputable def ZmY (x:Stmt) (k:(Expr->Pos->Bool)):Bool:=if q:x.ctorIdx=24 then Stmt.Expr.elim (motive_2:=fun _=>Bool) x q fun e p=>k e p else false
theorem ZmZ {k:(Expr->Pos->Bool)} {M:Stmt->Prop} {x:Stmt} (h:ZmY x k=true) (f:∀ e p,k e p=true->M (.Expr e p)):M x:=by
 by_cases q:x.ctorIdx=24
 ·exact Stmt.Expr.elim (motive_2:=fun x=>ZmY x k=true->M x) x q f h
 ·unfold ZmY at h
  rw [dif_neg q] at h
  exact Bool.noConfusion h
noncomputable def ZjF (x:Stmt) (k:(List Expr->Expr->Pos->Bool)):Bool:=if q:x.ctorIdx=5 then Stmt.Assign.elim (motive_2:=fun _=>Bool) x q fun l e p=>k l e p else false
theorem ZfQ {k:(List Expr->Expr->Pos->Bool)} {M:Stmt->Prop} {x:Stmt} (h:ZjF x k=true) (f:∀ l e p,k l e p=true->M (.Assign l e p)):M x:=by
 by_cases q:x.ctorIdx=5
 ·exact Stmt.Assign.elim (motive_2:=fun x=>ZjF x k=true->M x) x q f h
 ·unfold ZjF at h
  rw [dif_neg q] at h
  exact Bool.noConfusion h
noncomputable def ZmN (x:Stmt) (k:(Expr->Operator->Expr->Bool)):Bool:=if q:x.ctorIdx=7 then Stmt.AugAssign.elim (motive_2:=fun _=>Bool) x q fun t o e p=>k t o e else false
theorem ZmO {k:(Expr->Operator->Expr->Bool)} {M:Stmt->Prop} {x:Stmt} (h:ZmN x k=true) (f:∀ t o e p,k t o e=true->M (.AugAssign t o e p)):M x:=by
 by_cases q:x.ctorIdx=7
 ·exact Stmt.AugAssign.elim (motive_2:=fun x=>ZmN x k=true->M x) x q f h
 ·unfold ZmN at h
  rw [dif_neg q] at h
  exact Bool.noConfusion h
noncomputable def ZmU (x:Stmt) (k:(Option Expr->Bool)):Bool:=if q:x.ctorIdx=3 then Stmt.Return.elim (motive_2:=fun _=>Bool) x q fun e p=>k e else false
theorem ZmV {k:(Option Expr->Bool)} {M:Stmt->Prop} {x:Stmt} (h:ZmU x k=true) (f:∀ e p,k e=true->M (.Return e p)):M x:=by
 by_cases q:x.ctorIdx=3
 ·exact Stmt.Return.elim (motive_2:=fun x=>ZmU x k=true->M x) x q f h
 ·unfold ZmU at h
  rw [dif_neg q] at h
  exact Bool.noConfusion h
noncomputable def Zq0 (x:Stmt) (k:(Expr->List Stmt->List Stmt->Bool)):Bool:=if q:x.ctorIdx=12 then Stmt.If.elim (motive_2:=fun _=>Bool) x q fun t a b p=>k t a b else false
theorem ZoL {k:(Expr->List Stmt->List Stmt->Bool)} {M:Stmt->Prop} {x:Stmt} (h:Zq0 x k=true) (f:∀ t a b p,k t a b=true->M (.If t a b p)):M x:=by
 by_cases q:x.ctorIdx=12
 ·exact Stmt.If.elim (motive_2:=fun x=>Zq0 x k=true->M x) x q f h
 ·unfold Zq0 at h
  rw [dif_neg q] at h
  exact Bool.noConfusion h
noncomputable def Zm0 (x:Stmt) (k:(Expr->List Stmt->List Stmt->Bool)):Bool:=if q:x.ctorIdx=11 then Stmt.While.elim (motive_2:=fun _=>Bool) x q fun t a b p=>k t a b else false
theorem Zm1 {k:(Expr->List Stmt->List Stmt->Bool)} {M:Stmt->Prop} {x:Stmt} (h:Zm0 x k=true) (f:∀ t a b p,k t a b=true->M (.While t a b p)):M x:=by
 by_cases q:x.ctorIdx=11
 ·exact Stmt.While.elim (motive_2:=fun x=>Zm0 x k=true->M x) x q f h
 ·unfold Zm0 at h
  rw [dif_neg q] at h
  exact Bool.noConfusion h
noncomputable def ZmP (x:Stmt) (k:(Expr->Expr->List Stmt->List Stmt->Bool)):Bool:=if q:x.ctorIdx=9 then Stmt.For.elim (motive_2:=fun _=>Bool) x q fun t e a b p=>k t e a b else false
theorem ZmQ {k:(Expr->Expr->List Stmt->List Stmt->Bool)} {M:Stmt->Prop} {x:Stmt} (h:ZmP x k=true) (f:∀ t e a b p,k t e a b=true->M (.For t e a b p)):M x:=by
 by_cases q:x.ctorIdx=9
 ·exact Stmt.For.elim (motive_2:=fun x=>ZmP x k=true->M x) x q f h
 ·unfold ZmP at h
  rw [dif_neg q] at h
  exact Bool.noConfusion h
mutual
noncomputable def mS (nm:Nat->Str):LS->Scope->Stmt->Bool
 | .expr e,sc,st=>ZmY st fun e' pos=>sc.kind == .function&&Zb3 (fun b=>!b) (swapsWith e' none pos.line (Zdi sc))&&mE nm e sc e'
 | .asg t e,sc,st=>ZjF st fun ts e' pos=>on1 ts fun te=>Zpn nm t te&&(ZW t).all (Zaz nm sc)&&mE nm e sc e' &&
    Zb3 (fun b=>if b then ZnD e' else Zb3 (ZnR nm t) (swappedStores [te] e' (Zdi sc))) (swapsWithSole [te] e' pos.line (Zdi sc))
 | .asgA o x e,sc,st=>ZjF st fun ts e' pos=>on1 ts fun te=>Zb3 (fun b=>!b) (swapsWithSole [te] e' pos.line (Zdi sc))&&Zb3 (fun b=>b.isNone) (swappedStores [te] e' (Zdi sc))&&mE nm e sc e' &&
    Zew te fun o' n tpos=>nm x == n&&decide (x < NN)&&mE nm o sc o'
 | .asgI o j e,sc,st=>ZjF st fun ts e' pos=>on1 ts fun te=>Zb3 (fun b=>!b) (swapsWithSole [te] e' pos.line (Zdi sc))&&Zb3 (fun b=>b.isNone) (swappedStores [te] e' (Zdi sc))&&mE nm e sc e' &&
    ZjG te fun o' j'=>mE nm o sc o'&&mE nm j sc j'
 | .aug x o e,sc,st=>ZmN st fun te o' e'=>ZcF te fun n=>nm x == n&&o == o'&&(o == .Sub || o == .Add)&&Zaz nm sc x&&!(n == ("__classdict__" : Str))&&mE nm e sc e'
 | .ret e,sc,st=>ZmU st fun v=>onO v fun e'=>mE nm e sc e'
 | .ifs t a b,sc,st=>Zq0 st fun t' a' b'=>mE nm t sc t'&&mSs nm a sc a'&&mSs nm b sc b'
 | .whl t b,sc,st=>Zm0 st fun t' b' r=>r.isEmpty&&mE nm t sc t'&&mSs nm b sc b'
 | .for_ t e b,sc,st=>ZmP st fun te e' b' r=>r.isEmpty&&Zpn nm t te&&(ZW t).all (Zaz nm sc)&&Zep e'&&mE nm e sc e'&&mSs nm b sc b'
 | .stuck,_,_=>true
noncomputable def mSs (nm:Nat->Str):List LS->Scope->List Stmt->Bool
 | [],_,sts=>sts.isEmpty
 | l::ls,sc,sx=>match sx with
  | st::sts=>mS nm l sc st&&mSs nm ls sc sts
  | []=>false
end
section
variable {G:Glo} {K:Frag} {A:Around} {C:Cal}
theorem Zbj {α:Type} {p:α->Bool} {t:Sem α} {M:Prop} (h:Zb3 p t=true) (f:∀ a,t=pure a->p a=true->M):M:=let ⟨a,x,y⟩:=ZhV h; f a x y
theorem ZpB {o:Operator} (h:(o == .Sub || o == .Add)=true):o=.Sub\/o=.Add:=(Bool.or_eq_true_iff.mp h).imp eq_of_beq eq_of_beq
theorem Zss (R:Room A) {sc:Scope} {t:Tg} {te e':Expr} {e:LE} {p:Pos} (h1:Zhs G t te) (hc:∀ x ∈ ZW t,Zaz G.nm sc x=true) (he:EBC G A C sc e e') {b:Bool} (hb:swapsWithSole [te] e' p.line (Zdi sc)=pure b)
  (hp:(if b then ZnD e' else Zb3 (ZnR G.nm t) (swappedStores [te] e' (Zdi sc)))=true):SO G A C sc (.asg t e) (.Assign [te] e' p):=by
 cases b with
 | true=>exact .asg_use R h1 hc hp hb (he.2.2 hp)
 | false =>
  refine Zbj (M:=_) hp fun o ho hso=>?_
  cases o with
  | none=>exact .asg R h1 hc hb ho he.1
  | some ns =>
   cases t with
   | nm x=>exact Bool.noConfusion hso
   | tp xs =>
    exact a3 hso fun e1 e2 e3=>.asg_swap R h1 (Zeo e2) ((Bool.or_eq_true_iff.mp e3).imp eq_of_beq eq_of_beq) hc hb (by rw [ho,eq_of_beq e1]) he.1
variable (X:Facts G K) (R:Room A) (HC:ZaJ G C (A.units + 5) (A.depth + 1))
include X R HC
mutual
theorem ZrC:∀ (ls:LS) (sc:Scope) (st:Stmt),mS G.nm ls sc st=true->SO G A C sc ls st
 | .expr e,sc,st,h=>ZmZ (M:=SO G A C sc _) h fun e' p h=>a3 h fun h1 h2 h3=>Zbj h2 fun b hb hp=>.expr (eq_of_beq h1) (hb.trans (by rw [not_true hp])) (Z2 X R HC e sc _ h3).1
 | .asg t e,sc,st,h=>ZfQ (M:=SO G A C sc _) h fun ts e' p h=>Zda (M:=fun ts=>SO G A C sc _ (.Assign ts _ _)) h fun te h=>a4 h fun h1 h2 h3 h4=>Zbj h4 fun b hb hp =>
   Zss R (Zcq h1) (fun x hx=>List.all_eq_true.mp h2 x hx) (Z2 X R HC e sc _ h3) hb hp
 | .asgA o x e,sc,st,h=>ZfQ (M:=SO G A C sc _) h fun ts e' p h=>Zda (M:=fun ts=>SO G A C sc _ (.Assign ts _ _)) h fun te h=>a4 h fun h3 h4 h5 h=>Zbj h3 fun b hb hp=>Zbj h4 fun b' hb' hp' =>
   Zdb (M:=fun te=>swapsWithSole [te] e' p.line (Zdi sc)=pure b->swappedStores [te] e' (Zdi sc)=pure b'->SO G A C sc _ (.Assign [te] _ _)) h (fun o' n tpos h hb hb'=>a3 h fun h1 h2 h6 =>
    .asgA X R (eq_of_beq h1) (of_decide_eq_true h2) (hb.trans (by rw [not_true hp])) (hb'.trans (by rw [Option.isNone_iff_eq_none.mp hp'])) (Z2 X R HC e sc _ h5).1 (Z2 X R HC o sc _ h6).1) hb hb'
 | .asgI o j e,sc,st,h=>ZfQ (M:=SO G A C sc _) h fun ts e' p h=>Zda (M:=fun ts=>SO G A C sc _ (.Assign ts _ _)) h fun te h=>a4 h fun h3 h4 h5 h=>Zbj h3 fun b hb hp=>Zbj h4 fun b' hb' hp' =>
   ZfR (M:=fun te=>swapsWithSole [te] e' p.line (Zdi sc)=pure b->swappedStores [te] e' (Zdi sc)=pure b'->SO G A C sc _ (.Assign [te] _ _)) h (fun o' j' tpos h hb hb'=>a2 h fun h6 h7 =>
    .asgI X R (hb.trans (by rw [not_true hp])) (hb'.trans (by rw [Option.isNone_iff_eq_none.mp hp'])) (Z2 X R HC e sc _ h5).1 (Z2 X R HC o sc _ h6).1 (Z2 X R HC j sc _ h7).1) hb hb'
 | .aug x o e,sc,st,h=>ZmO (M:=SO G A C sc _) h fun te o' e' p h=>Zbk (M:=fun te=>SO G A C sc _ (.AugAssign te _ _ _)) h fun n p' h=>a6 h fun h1 h2 h3 h4 h5 h6 =>
   be (M:=fun o'=>SO G A C sc _ (.AugAssign _ o' _ _)) h2 (.aug R (eq_of_beq h1) (ZpB h3) h4 (not_true h5) (Z2 X R HC e sc _ h6).1)
 | .ret e,sc,st,h=>ZmV (M:=SO G A C sc _) h fun v p h=>Zlk (M:=fun v=>SO G A C sc _ (.Return v _)) h fun e' h=>.ret (Z2 X R HC e sc _ h).1
 | .ifs t a b,sc,st,h=>ZoL (M:=SO G A C sc _) h fun t' a' b' p h=>a3 h fun h1 h2 h3=>.ifs (Z2 X R HC t sc _ h1).2.1 (Zfg a sc _ h2) (Zfg b sc _ h3)
 | .whl t b,sc,st,h=>Zm1 (M:=SO G A C sc _) h fun t' b' r p h=>a3 h fun h0 h1 h2=>Zbs (M:=fun r=>SO G A C sc _ (.While _ _ r _)) h0 (.whl (Z2 X R HC t sc _ h1).2.1 (Zfg b sc _ h2))
 | .for_ t e b,sc,st,h=>ZmQ (M:=SO G A C sc _) h fun te e' b' r p h=>a6 h fun h0 h1 h2 h3 h4 h5=>Zbs (M:=fun r=>SO G A C sc _ (.For _ _ _ r _)) h0
   (.for_ R (Zcq h1) (fun x hx=>List.all_eq_true.mp h2 x hx) (fun env x=>ZbP h3 env x) (Z2 X R HC e sc _ h4).1 (Zfg b sc _ h5))
 | .stuck,sc,st,h=>fun P σ s env ρ Q hs i E q=>(q:False).elim
theorem Zfg:∀ (ls:List LS) (sc:Scope) (sts:List Stmt),mSs G.nm ls sc sts=true->SsO G A C sc ls sts
 | [],sc,sts,h=>Zbs (M:=SsO G A C sc []) h .nil
 | l::ls,sc,[],h=>Bool.noConfusion h
 | l::ls,sc,st::sts,h=>a2 h fun h1 h2=>.cons (ZrC l sc _ h1) (Zfg ls sc _ h2)
end
end
theorem ZcI:∀ {names:List Str} {us:List Value} (f:Str->Option Value),names.Nodup->us.length=names.length->(∀ x ∈ names,f x=(names.zip us).lookup x)->names.filterMap (fun n=>(f n).map fun v=>(n,v))=names.zip us
 | [],us,_,_,_,_=>rfl
 | n::ns,[],_,_,h,_=>by cases h
 | n::ns,u::us,f,nd,h,hf=>by
  refine ZL (List.nodup_cons.mp nd) fun h1 h2=>?_
  rw [List.zip_cons_cons,List.filterMap_cons,hf n List.mem_cons_self,List.zip_cons_cons]
  simp only [List.lookup_cons,beq_self_eq_true,Option.map_some]
  congr 1
  refine ZcI f h2 (by simpa using h) fun x hx=>?_
  rw [hf x (List.mem_cons_of_mem _ hx),List.zip_cons_cons,List.lookup_cons]
  have:(x == n)=false:=by simpa using fun e=>h1 (by rw [<- e]; exact hx)
  rw [this]
theorem Zf9 {names:List Str} {us:List Value} (nd:names.Nodup) (h:us.length=names.length):names.filterMap (fun n=>((names.zip us).lookup n).map fun v=>(n,v))=names.zip us:=ZcI _ nd h fun _ _=>rfl
theorem Zct:∀ {names:List Str} {us:List Value} {x:Str},us.length=names.length->x ∈ names->((names.zip us).lookup x).isNone=false
 | [],us,x,_,h=>by cases h
 | n::ns,[],x,h,_=>by cases h
 | n::ns,u::us,x,hl,h=>by
  rw [List.zip_cons_cons,List.lookup_cons]
  split
  ·rfl
  ·rename_i e
   rcases List.mem_cons.mp h with rfl | h
   ·simp at e
   ·exact Zct (by simpa using hl) h
theorem ZpZ {α β:Type} {l:List α} {s:β} {f:α->β->Sem (ForInStep β)} {γ:Type} {g:β->Sem γ} {r:Sem γ} (h:l=[]) (k:g s=r):(forIn l s f >>= g)=r:=by subst h; exact k
theorem Zhz {fd:FuncData} {us:List Value} {ns:List Str} (h1:fd.params.posonlyargs=[]) (h2:fd.params.args.map (·.arg)=ns) (h3:fd.params.kwonlyargs=[]) (h4:fd.params.vararg=none) (h5:fd.params.kwarg=none)
  (h6:fd.defaults=.none) (nd:ns.Nodup) (hl:us.length=ns.length):bindArgs fd ⟨us,[]⟩=pure (ns.zip us):=by
 have hm:(ns.filter fun n=>((ns.zip us).lookup n).isNone)=[]:=by
  rw [List.filter_eq_nil_iff]
  intro x hx
  rw [Zct hl hx]; exact Bool.noConfusion
 have hz:=Zf9 nd hl
 obtain ⟨_,q,⟨_,l,_,_,_,_,_⟩,_,_,_,_,_,kd,_,_,_,_,_,_⟩:=fd
 obtain rfl:=h1; obtain rfl:=h3; obtain rfl:=h4; obtain rfl:=h5; obtain rfl:=h6; subst h2
 have hd:∀ n,List.drop n ([]:List Value)=[]:=fun n=>List.drop_nil
 refine (if_neg ?_).trans ((if_neg ?_).trans (ZpZ ?_ ?_))
 ·show ¬ (decide (us.length > (l.map (·.arg)).length)&&true)=true
  rw [hl,decide_eq_false (Nat.lt_irrefl _)]; exact Bool.noConfusion
 ·show ¬ (!(((l.map (·.arg)).take ((l.map (·.arg)).length - (List.drop (0 - (l.map (·.arg)).length) ([]:List Value)).length)).filter fun n=>(((l.map (·.arg)).zip us).lookup n).isNone).isEmpty)=true
  rw [hd]
  show ¬ (!(((l.map (·.arg)).take (l.map (·.arg)).length).filter fun n=>(((l.map (·.arg)).zip us).lookup n).isNone).isEmpty)=true
  rw [List.take_length,hm]
  exact Bool.noConfusion
 ·show List.zip _ (List.drop _ ([]:List Value))=[]
  rw [hd]; exact List.zip_nil_right
 ·show (pure (List.filterMap (fun n=>(((l.map (·.arg)).zip us).lookup n).map fun v=>(n,v)) (l.map (·.arg)++[])):Sem _)=_
  rw [List.append_nil,hz]
noncomputable def ZrQ (c:Value):Option Addr:=match c with
 | .ref a=>some a
 | _=>none
noncomputable def Zsb (c:Value):Option Str:=match c with
 | .str n _=>some n
 | _=>none
theorem ZlO {c:Value} {a:Addr} (h:ZrQ c=some a):c=.ref a:=by cases c <;> first | exact nos h | rw [Option.some.inj h]
theorem Zpd {c:Value} {n:Str} (h:Zsb c=some n):∃ t,c=.str n t:=by cases c <;> first | exact nos h | exact ⟨_,by rw [Option.some.inj h]⟩
noncomputable def Zkl (d:Data):Option (Array Value):=match d with
 | .fields vs=>some vs
 | _=>none
noncomputable def Zr2 (d:Data):Option (Array Value):=match d with
 | .seq vs _=>some vs
 | _=>none
noncomputable def ZpK (d:Data):Option FuncData:=match d with
 | .func f=>some f
 | _=>none
theorem Zjr {d:Data} {vs:Array Value} (h:Zkl d=some vs):d=.fields vs:=by cases d <;> first | exact nos h | rw [Option.some.inj h]
theorem Zoi {d:Data} {vs:Array Value} (h:Zr2 d=some vs):∃ n,d=.seq vs n:=by cases d <;> first | exact nos h | exact ⟨_,by rw [Option.some.inj h]⟩
theorem Zmi {d:Data} {f:FuncData} (h:ZpK d=some f):d=.func f:=by cases d <;> first | exact nos h | rw [Option.some.inj h]
noncomputable def Zkh (K:Frag) (c:Value) (q:Str):Bool:=((ZrQ c).bind fun a=>(K.lookup a).bind fun o=>(Zkl o.data).bind fun vs=>(vs[1]?:Option Value).bind fun v=>Zsb v) == some q
noncomputable def ZrG (p:Arguments):Bool:=p.posonlyargs.isEmpty&&p.kwonlyargs.isEmpty&&p.vararg.isNone&&p.kwarg.isNone
noncomputable def ZiU:List Str->Bool
 | []=>true
 | x::xs=>!xs.contains x&&ZiU xs
theorem ZcU:∀ {xs:List Str},ZiU xs=true->xs.Nodup
 | [],_=>List.nodup_nil
 | x::xs,h=>by
  refine ZL (Bool.and_eq_true_iff.mp h) fun h1 h2=>?_
  refine List.nodup_cons.mpr ⟨fun hm=>?_,ZcU h2⟩
  rw [List.contains_iff_mem.mpr hm] at h1; exact nob h1
noncomputable def Zln (nm:Nat->Str):List Nat->List Arg->Bool
 | [],as=>as.isEmpty
 | x::xs,ax=>match ax with
  | a::as=>a.arg == nm x&&Zln nm xs as
  | []=>false
theorem ZeB {nm:Nat->Str}:∀ {xs:List Nat} {as:List Arg},Zln nm xs as=true->as.map (·.arg)=xs.map nm
 | [],[],_=>rfl
 | [],_::_,h=>nob h
 | _::_,[],h=>nob h
 | x::xs,a::as,h=>by
  refine ZL (Bool.and_eq_true_iff.mp h) fun h1 h2=>?_
  rw [List.map_cons,List.map_cons,eq_of_beq h1,ZeB h2]
noncomputable def ZgF (nm:Nat->Str) (K:Frag) (fd:Fn) (d:FuncData):Bool :=
 Zkh K d.code d.qualname&&d.closure.isEmpty&&!d.scope.isCoroutine&&!d.scope.isGenerator&&d.scope.kind == .function&&d.globals == mainGlobals&&d.builtins == builtinsNs &&
 d.scope.names.all (fun x=>x.2 != .free)&&fd.params.all (Zaz nm d.scope)&&ZrG d.params&&Zln nm fd.params d.params.args&&ZiU (fd.params.map nm)
noncomputable def Ze5 (nm:Nat->Str) (fd:Fn) (d:FuncData):Bool:=match d.body with
 | .stmts body=>mSs nm fd.body d.scope body
 | _=>false
noncomputable def Zba (K:Frag) (a:Addr) (p:FuncData->Bool):Bool:=((K.lookup a).bind fun o=>(ZpK o.data).bind fun d=>if p d then some true else none) == some true
theorem Zc1 {K:Frag} {a:Addr} {p:FuncData->Bool} (h:Zba K a p=true):∃ o d,K.lookup a=some o/\o.data=.func d/\p d=true:=by
 refine Ze (bnd (eq_of_beq h)) fun o ho h=>Ze (bnd h) fun d hd h=>?_
 exact ⟨o,d,ho,Zmi hd,ifs h (fun q _=>q) fun _ h=>nos h⟩
section
variable {G:Glo} {K:Frag}
theorem ZhD {c:Value} {q:Str} {h:Heap} (X:K.In h) (e:Zkh K c q=true):h.CodeRec c q:=by
 refine Ze (bnd (eq_of_beq e)) fun a ha e=>Ze (bnd e) fun o ho e=>Ze (bnd e) fun vs hv e=>Ze (bnd e) fun v h1 e=>ZU (Zpd e) fun t ht=>?_
 exact ⟨a,o,vs,t,ZlO ha,X _ _ ho,Zjr hv,h1.trans (congrArg some ht)⟩
theorem Zj5 {fd:Fn} {vs:List LV} {ρ:Env} (h:Zjl fd vs=some ρ) (hd:fd.dflts=[]):vs.length=fd.params.length/\Zay fd.params vs []=some ρ:=by
 unfold Zjl at h
 rw [hd] at h
 refine ifs h (fun _ h=>?_) fun _ h=>?_
 ·rename_i q
  refine ⟨by simp only [List.length_nil] at q; exact Zvv q,?_⟩
  simpa using h
 ·exact nos h
structure FnHead (nm:Nat->Str) (K:Frag) (fd:Fn) (d:FuncData):Prop where
 code:Zkh K d.code d.qualname=true
 clo:d.closure=[]
 co:d.scope.isCoroutine=false
 gen:d.scope.isGenerator=false
 kind:d.scope.kind=.function
 glob:d.globals=mainGlobals
 bns:d.builtins=builtinsNs
 nofree:∀ x ∈ d.scope.names,x.2 ≠ .free
 pars:∀ x ∈ fd.params,Zaz nm d.scope x=true
 po:d.params.posonlyargs=[]
 ko:d.params.kwonlyargs=[]
 va:d.params.vararg=none
 kw:d.params.kwarg=none
 args:d.params.args.map (·.arg)=fd.params.map nm
 nd:(fd.params.map nm).Nodup
theorem ZhK {nm:Nat->Str} {fd:Fn} {d:FuncData} (h:ZgF nm K fd d=true):FnHead nm K fd d where
 code:=Zac (Zac (Zac (Zac (Zac (Zac (Zac (Zac (Zac (Zac (Zac h))))))))))
 clo:=List.isEmpty_iff.mp (ZeS (Zac (Zac (Zac (Zac (Zac (Zac (Zac (Zac (Zac (Zac h)))))))))))
 co:=not_true (ZeS (Zac (Zac (Zac (Zac (Zac (Zac (Zac (Zac (Zac h))))))))))
 gen:=not_true (ZeS (Zac (Zac (Zac (Zac (Zac (Zac (Zac (Zac h)))))))))
 kind:=eq_of_beq (ZeS (Zac (Zac (Zac (Zac (Zac (Zac (Zac h))))))))
 glob:=eq_of_beq (ZeS (Zac (Zac (Zac (Zac (Zac (Zac h)))))))
 bns:=eq_of_beq (ZeS (Zac (Zac (Zac (Zac (Zac h))))))
 nofree:=fun x hx=>bne_iff_ne.mp (List.all_eq_true.mp (ZeS (Zac (Zac (Zac (Zac h))))) x hx)
 pars:=List.all_eq_true.mp (ZeS (Zac (Zac (Zac h))))
 po:=List.isEmpty_iff.mp (Zac (Zac (Zac (ZeS (Zac (Zac h))))))
 ko:=List.isEmpty_iff.mp (ZeS (Zac (Zac (ZeS (Zac (Zac h))))))
 va:=Option.isNone_iff_eq_none.mp (ZeS (Zac (ZeS (Zac (Zac h)))))
 kw:=Option.isNone_iff_eq_none.mp (ZeS (ZeS (Zac (Zac h))))
 args:=ZeB (ZeS (Zac h))
 nd:=ZcU (ZeS h)
theorem ZhJ {nm:Nat->Str} {fd:Fn} {d:FuncData} (h:Ze5 nm fd d=true):∃ body,d.body=.stmts body/\mSs nm fd.body d.scope body=true:=by
 unfold Ze5 at h
 revert h
 cases d.body with
 | stmts body=>exact fun h=>⟨body,rfl,h⟩
 | _=>exact fun h=>nob h
theorem Zkz (X:Facts G K) {f:Nat} {fd:Fn} {p:FuncData->Bool} (h1:Zba K (G.faddr f) (fun d=>ZgF G.nm K fd d&&p d)=true) (h2:Zba K (G.faddr f) (Ze5 G.nm fd)=true)
  (hb:∀ d,FnHead G.nm K fd d->p d=true->∀ (vs:List LV) (ρ:Env),Zjl fd vs=some ρ->∀ (P:Addr->Prop) (σ:St) (s:Shared) (us:List Value),Inv G P σ s.heap->Zz G (Dom P σ) s.heap vs us->
   ∃ vs' us',Zay fd.params vs' []=some ρ/\Zz G (Dom P σ) s.heap vs' us'/\BindsTo s d ⟨us,[]⟩ ((fd.params.map G.nm).zip us')):∃ o fdata body,FnOk G K f fd o fdata body:=by
 refine ZaM (Zc1 h1) fun o d ho hod hp=>?_
 refine ZaM (Zc1 h2) fun o' d' ho' hod' hq=>?_
 obtain rfl:=Option.some.inj (ho.symm.trans ho')
 rw [hod] at hod'
 injection hod' with e
 subst e
 refine Ze (ZhJ hq) fun body hbody hq=>?_
 have H:=ZhK (Zac hp)
 exact ⟨o,d,body,X.kin _ _ ho,hod,ZhD X.kin H.code,hbody,H.clo,H.co,H.gen,H.kind,H.glob,H.bns,H.nofree,H.pars,hb d H (ZeS hp),fun A C R HC=>Zfg X R HC fd.body d.scope body hq⟩
theorem Zoq (X:Facts G K) {f:Nat} {fd:Fn} (hd:fd.dflts=[]) (h1:Zba K (G.faddr f) (fun d=>ZgF G.nm K fd d&&d.defaults == .none)=true) (h2:Zba K (G.faddr f) (Ze5 G.nm fd)=true):∃ o fdata body,FnOk G K f fd o fdata body :=
 Zkz X h1 h2 fun d H hp vs ρ hρ P σ s us i r=>by
  refine ZL (Zj5 hρ hd) fun hl hbn=>?_
  exact ⟨vs,us,hbn,r,.of_eq (Zhz H.po H.args H.ko H.va H.kw (eq_of_beq hp) H.nd (by rw [r.length,hl,List.length_map]))⟩
end
end
section
open PySem
set_option maxRecDepth 10000
noncomputable def f0:Fn:=⟨[0,1,2,3,4,5],[.none],
 [.asgA (.v 0) 1 (.v 1),
  .asgA (.v 0) 2 (.v 2),
  .asgA (.v 0) 6 (.bi .list_ [(.v 3)]),
  .asgA (.v 0) 4 (.ite (.cmp .Is (.v 4) (.k .none)) (.lst []) (.v 4)),
  .asgA (.v 0) 5 (.ite (.cmp .Is (.v 5) (.k .none)) (.dictR false) (.v 5))]⟩
noncomputable def f1:Fn:=⟨[0,7],[],
 [.ret (.sub (.sub (.attr (.v 0) 6) (.v 7)) (.k (.int 0)))]⟩
noncomputable def f2:Fn:=⟨[0,8],[],
 [.ret (.sub (.sub (.attr (.v 0) 4) (.v 8)) (.k (.int 0)))]⟩
noncomputable def f3:Fn:=⟨[0,8],[],
 [.ret (.sub (.sub (.attr (.v 0) 4) (.v 8)) (.k (.int 1)))]⟩
noncomputable def f4:Fn:=⟨[9],[],
 [.asg (.nm 10) (.lstR []),
  .for_ (.nm 8) (.bi .range_ [(.bi .len_ [(.attr (.v 9) 4)])]) [.expr (.lm (.v 10) .extend [(.comp false [8] (.tup [(.v 8),(.v 12)]) (.nm 12) (.bi .range_ [(.bin .Add (.bi .len_ [(.meth (.v 9) 11 [(.v 8)])]) (.k (.int 1)))]) none)])],
  .ret (.frz (.v 10))]⟩
noncomputable def f5:Fn:=⟨[13],[],
 [.asg (.nm 14) (.sub (.v 13) (.k (.int 0))),
  .ifs (.cmp .Eq (.v 14) (.k (.w 15))) [.asg (.nm 16) (.lst [(.sub (.v 13) (.k (.int 1)))])] [.ifs (.cmp .Eq (.v 14) (.k (.w 17))) [.asg (.nm 16) (.bin .Add (.comp false [] (.v 8) (.tp [18,8]) (.sub (.v 13) (.k (.int 2))) none) (.lst [(.sub (.v 13) (.k (.int 3)))]))] [.ifs (.cmp .Eq (.v 14) (.k (.w 19))) [.asg (.nm 16) (.lst [(.sub (.v 13) (.k (.int 4)))])] [.ifs (.cmp .Eq (.v 14) (.k (.w 20))) [.asg (.nm 16) (.lst [(.sub (.v 13) (.k (.int 2)))])] [.ifs (.cmp .Eq (.v 14) (.k (.w 21))) [.asg (.nm 16) (.lst [(.sub (.v 13) (.k (.int 4)))])] [.asg (.nm 16) (.lst [])]]]]],
  .asg (.nm 10) (.lstR []),
  .for_ (.nm 8) (.v 16) [.ifs (.bool true (.cmp .IsNot (.v 8) (.k .none)) (.cmp .NotIn (.v 8) (.v 10))) [.expr (.lm (.v 10) .append [(.v 8)])] []],
  .ret (.frz (.v 10))]⟩
noncomputable def f6:Fn:=⟨[16,22,23,24],[],
 [.ifs (.cmp .Eq (.sub (.v 16) (.k (.int 0))) (.k (.w 25))) [.ret (.sub (.sub (.v 16) (.k (.int 1))) (.v 23))] [],
  .ifs (.cmp .Eq (.sub (.v 16) (.k (.int 0))) (.k (.w 26))) [.ret (.sub (.sub (.call (.g 27) [(.v 16),(.v 22),(.v 24)]) (.v 23)) (.k (.int 1)))] [],
  .stuck]⟩
noncomputable def f7:Fn:=⟨[16,22,28,24],[],
 [.asg (.nm 14) (.sub (.v 28) (.k (.int 0))),
  .ifs (.cmp .Eq (.v 14) (.k (.w 29))) [.ret (.tup [(.v 16),(.sub (.v 28) (.k (.int 1)))])] [],
  .ifs (.cmp .Eq (.v 14) (.k (.w 30))) [.ret (.tup [(.call (.g 31) [(.v 16),(.v 22),(.sub (.v 28) (.k (.int 1))),(.v 24)]),(.k (.int 0))])] [],
  .ifs (.bool true (.cmp .Eq (.v 14) (.k (.w 32))) (.cmp .Eq (.sub (.v 16) (.k (.int 0))) (.k (.w 33)))) [.ret (.tup [(.sub (.v 16) (.k (.int 3))),(.k (.int 0))])] [],
  .ifs (.bool false (.bool true (.cmp .Eq (.v 14) (.k (.w 32))) (.cmp .Eq (.sub (.v 16) (.k (.int 0))) (.k (.w 34)))) (.bool true (.cmp .Eq (.v 14) (.k (.w 12))) (.cmp .Eq (.sub (.v 16) (.k (.int 0))) (.k (.w 35))))) [.ret (.tup [(.sub (.v 16) (.k (.int 1))),(.k (.int 0))])] [],
  .stuck]⟩
noncomputable def f8:Fn:=⟨[9,36,24],[],
 [.asg (.tp [16,22]) (.tup [(.meth (.v 9) 37 [(.sub (.v 36) (.k (.int 0)))]),(.k (.int 0))]),
  .for_ (.nm 28) (.sub (.v 36) (.k (.int 1))) [.asg (.tp [16,22]) (.call (.g 38) [(.v 16),(.v 22),(.v 28),(.v 24)])],
  .ret (.v 16)]⟩
noncomputable def f9:Fn:=⟨[39],[],
 [.asg (.nm 14) (.sub (.v 39) (.k (.int 0))),
  .ifs (.cmp .In (.v 14) (.tup [(.k (.w 40)),(.k (.w 34))])) [.ret (.lst [(.sub (.v 39) (.k (.int 1)))])] [],
  .ifs (.cmp .In (.v 14) (.tup [(.k (.w 41)),(.k (.w 42))])) [.ret (.lst [(.sub (.v 39) (.k (.int 2))),(.sub (.v 39) (.k (.int 3)))])] [],
  .ifs (.cmp .Eq (.v 14) (.k (.w 43))) [.ret (.lst [(.sub (.v 39) (.k (.int 2)))])] [],
  .ifs (.cmp .Eq (.v 14) (.k (.w 44))) [.ret (.lst [(.sub (.v 39) (.k (.int 1)))])] [],
  .ifs (.cmp .In (.v 14) (.tup [(.k (.w 25)),(.k (.w 35))])) [.ret (.bi .list_ [(.sub (.v 39) (.k (.int 1)))])] [],
  .ret (.ite (.cmp .Eq (.v 14) (.k (.w 26))) (.bi .list_ [(.sub (.v 39) (.k (.int 3)))]) (.lst []))]⟩
noncomputable def f10:Fn:=⟨[9,45],[],
 [.asg (.tp [8,12]) (.v 45),
  .ifs (.cmp .Lt (.v 12) (.bi .len_ [(.meth (.v 9) 11 [(.v 8)])])) [.asg (.nm 46) (.sub (.meth (.v 9) 11 [(.v 8)]) (.v 12)),.ifs (.cmp .Eq (.sub (.v 46) (.k (.int 0))) (.k (.w 47))) [.ret (.call (.g 48) [(.sub (.v 46) (.k (.int 2)))])] [],.ret (.ite (.cmp .Eq (.sub (.v 46) (.k (.int 0))) (.k (.w 49))) (.lst [(.sub (.v 46) (.k (.int 1)))]) (.lst []))] [],
  .asg (.nm 13) (.meth (.v 9) 13 [(.v 8)]),
  .ifs (.cmp .Eq (.sub (.v 13) (.k (.int 0))) (.k (.w 19))) [.ret (.bi .list_ [(.sub (.v 13) (.k (.int 2)))])] [],
  .ret (.ite (.cmp .In (.sub (.v 13) (.k (.int 0))) (.tup [(.k (.w 17)),(.k (.w 21))])) (.lst [(.sub (.v 13) (.k (.int 1)))]) (.lst []))]⟩
noncomputable def f11:Fn:=⟨[50,51],[],
 [.ret (.bin .BitOr (.v 50) (.v 51))]⟩
noncomputable def f12:Fn:=⟨[9,52,8,53],[],
 [.for_ (.nm 12) (.bi .range_ [(.bin .Add (.bi .len_ [(.sub (.sub (.attr (.v 9) 4) (.v 8)) (.k (.int 0)))]) (.k (.int 1)))]) [.asg (.nm 52) (.call (.v 53) [(.v 52),(.v 8),(.v 12)])],
  .ret (.v 52)]⟩
noncomputable def f13:Fn:=⟨[9,54,53,55],[],
 [.asg (.nm 52) (.repR (.lst [(.k .none)]) (.bi .len_ [(.attr (.v 9) 4)])),
  .asgI (.v 52) (.k (.int 0)) (.v 54),
  .asg (.nm 56) (.lstR [(.k (.int 0))]),
  .whl (.cmp .NotEq (.v 56) (.lst [])) [.asg (.nm 8) (.lm (.v 56) .pop []),.asg (.nm 58) (.call (.g 57) [(.v 9),(.sub (.v 52) (.v 8)),(.v 8),(.v 53)]),.for_ (.nm 59) (.call (.g 60) [(.sub (.sub (.attr (.v 9) 4) (.v 8)) (.k (.int 1)))]) [.asg (.nm 61) (.sub (.v 52) (.v 59)),.asg (.nm 62) (.ite (.cmp .Is (.v 61) (.k .none)) (.v 58) (.call (.v 55) [(.v 61),(.v 58)])),.ifs (.bool false (.cmp .Is (.v 61) (.k .none)) (.cmp .NotEq (.v 62) (.v 61))) [.asgI (.v 52) (.v 59) (.v 62),.ifs (.cmp .NotIn (.v 59) (.v 56)) [.expr (.lm (.v 56) .append [(.v 59)])] []] []]],
  .ret (.frz (.v 52))]⟩
noncomputable def f14:Fn:=⟨[9,52,53],[],
 [.asg (.nm 10) (.dictR false),
  .for_ (.nm 8) (.bi .range_ [(.bi .len_ [(.attr (.v 9) 4)])]) [.asg (.nm 63) (.sub (.v 52) (.v 8)),.ifs (.cmp .IsNot (.v 63) (.k .none)) [.for_ (.nm 12) (.bi .range_ [(.bin .Add (.bi .len_ [(.sub (.sub (.attr (.v 9) 4) (.v 8)) (.k (.int 0)))]) (.k (.int 1)))]) [.asgI (.v 10) (.tup [(.v 8),(.v 12)]) (.v 63),.asg (.nm 63) (.call (.v 53) [(.v 63),(.v 8),(.v 12)])]] []],
  .ret (.v 10)]⟩
noncomputable def f15:Fn:=⟨[9,45],[],
 [.asg (.tp [8,12]) (.v 45),
  .asg (.tp [11,13]) (.sub (.attr (.v 9) 4) (.v 8)),
  .ifs (.cmp .Lt (.v 12) (.bi .len_ [(.v 11)])) [.ret (.ite (.cmp .Eq (.sub (.sub (.v 11) (.v 12)) (.k (.int 0))) (.k (.w 47))) (.sub (.sub (.v 11) (.v 12)) (.k (.int 1))) (.k .none))] [],
  .ret (.ite (.cmp .Eq (.sub (.v 13) (.k (.int 0))) (.k (.w 19))) (.sub (.v 13) (.k (.int 3))) (.k .none))]⟩
noncomputable def f16:Fn:=⟨[9,45],[],
 [.asg (.tp [8,12]) (.v 45),
  .asg (.tp [11,13]) (.sub (.attr (.v 9) 4) (.v 8)),
  .ret (.ite (.bool true (.cmp .Eq (.v 12) (.bi .len_ [(.v 11)])) (.cmp .Eq (.sub (.v 13) (.k (.int 0))) (.k (.w 20)))) (.sub (.v 13) (.k (.int 1))) (.k .none))]⟩
noncomputable def f17:Fn:=⟨[9,45],[],
 [.asg (.tp [8,12]) (.v 45),
  .asg (.nm 11) (.sub (.sub (.attr (.v 9) 4) (.v 8)) (.k (.int 0))),
  .ifs (.bool true (.cmp .Lt (.v 12) (.bi .len_ [(.v 11)])) (.cmp .In (.sub (.sub (.v 11) (.v 12)) (.k (.int 0))) (.tup [(.k (.w 64)),(.k (.w 65))]))) [.ret (.sub (.sub (.v 11) (.v 12)) (.k (.int 1)))] [],
  .ret (.k .none)]⟩
noncomputable def f18:Fn:=⟨[0,9,24],[],
 [.asgA (.v 0) 9 (.v 9),
  .asgA (.v 0) 24 (.v 24),
  .asgA (.v 0) 66 (.lstR []),
  .asgA (.v 0) 67 (.lstR []),
  .asgA (.v 0) 68 (.lstR []),
  .asgA (.v 0) 69 (.dictR false),
  .asgA (.v 0) 70 (.dictR true),
  .for_ (.nm 7) (.bi .range_ [(.bi .len_ [(.attr (.v 9) 6)])]) [.expr (.meth (.v 0) 71 [(.tup [(.v 7),(.tup [])])])],
  .for_ (.nm 45) (.call (.g 72) [(.v 9)]) [.for_ (.nm 73) (.call (.g 74) [(.v 9),(.v 45)]) [.ifs (.cmp .Eq (.sub (.v 73) (.k (.int 0))) (.k (.w 75))) [.expr (.meth (.v 0) 71 [(.meth (.v 0) 76 [(.sub (.v 73) (.k (.int 1)))])])] []],.for_ (.nm 36) (.tup [(.call (.g 77) [(.v 9),(.v 45)]),(.call (.g 78) [(.v 9),(.v 45)])]) [.ifs (.cmp .IsNot (.v 36) (.k .none)) [.expr (.meth (.v 0) 71 [(.meth (.v 0) 76 [(.v 36)])])] []]]]⟩
noncomputable def f19:Fn:=⟨[0,36],[],
 [.ifs (.cmp .In (.v 36) (.attr (.v 0) 69)) [.ret (.sub (.attr (.v 0) 69) (.v 36))] [],
  .asg (.tp [7,79]) (.v 36),
  .asg (.nm 80) (.ite (.cmp .NotEq (.v 79) (.tup [])) (.meth (.v 0) 71 [(.tup [(.v 7),(.slc (.v 79) (.neg 1))])]) (.neg 1)),
  .asg (.nm 81) (.bi .len_ [(.attr (.v 0) 66)]),
  .asgI (.attr (.v 0) 69) (.v 36) (.v 81),
  .expr (.lm (.attr (.v 0) 66) .append [(.v 36)]),
  .expr (.lm (.attr (.v 0) 67) .append [(.v 80)]),
  .expr (.lm (.attr (.v 0) 68) .append [(.lstR [])]),
  .ifs (.cmp .GtE (.v 80) (.k (.int 0))) [.expr (.lm (.sub (.attr (.v 0) 68) (.v 80)) .append [(.v 81)])] [],
  .ret (.v 81)]⟩
noncomputable def f20:Fn:=⟨[0,36],[],
 [.asg (.tp [7,79]) (.v 36),
  .for_ (.nm 82) (.bi .range_ [(.bi .len_ [(.v 79)])]) [.ifs (.cmp .Eq (.sub (.sub (.v 79) (.v 82)) (.k (.int 0))) (.k (.w 12))) [.ret (.v 82)] [],.ifs (.cmp .Eq (.sub (.sub (.v 79) (.v 82)) (.k (.int 0))) (.k (.w 32))) [.ifs (.cmp .Eq (.sub (.call (.g 83) [(.attr (.v 0) 9),(.tup [(.v 7),(.slc (.v 79) (.v 82))]),(.attr (.v 0) 24)]) (.k (.int 0))) (.k (.w 33))) [.ret (.v 82)] []] []],
  .ret (.bi .len_ [(.v 79)])]⟩
noncomputable def f21:Fn:=⟨[0,36],[],
 [.ret (.tup [(.sub (.v 36) (.k (.int 0))),(.bi .tuple_ [(.slc (.sub (.v 36) (.k (.int 1))) (.meth (.v 0) 84 [(.v 36)]))])])]⟩
noncomputable def f22:Fn:=⟨[0,36],[],
 [.ret (.cmp .Lt (.meth (.v 0) 84 [(.v 36)]) (.bi .len_ [(.sub (.v 36) (.k (.int 1)))]))]⟩
noncomputable def f23:Fn:=⟨[0,36],[],
 [.asg (.tp [7,79]) (.meth (.v 0) 76 [(.v 36)]),
  .asg (.nm 85) (.bi .len_ [(.v 79)]),
  .whl (.cmp .NotIn (.tup [(.v 7),(.slc (.v 79) (.v 85))]) (.attr (.v 0) 69)) [.aug 85 .Sub (.k (.int 1))],
  .ret (.sub (.attr (.v 0) 69) (.tup [(.v 7),(.slc (.v 79) (.v 85))]))]⟩
noncomputable def f24:Fn:=⟨[0,36],[],
 [.ret (.bool true (.not (.meth (.v 0) 86 [(.v 36)])) (.cmp .In (.tup [(.sub (.v 36) (.k (.int 0))),(.bi .tuple_ [(.sub (.v 36) (.k (.int 1)))])]) (.attr (.v 0) 69)))]⟩
noncomputable def f25:Fn:=⟨[0,81],[],
 [.ifs (.cmp .NotIn (.v 81) (.attr (.v 0) 70)) [.asg (.tp [10,56]) (.tup [(.lstR []),(.lstR [(.v 81)])]),.whl (.cmp .NotEq (.v 56) (.lst [])) [.asg (.nm 63) (.lm (.v 56) .pop []),.expr (.lm (.v 10) .append [(.v 63)]),.expr (.lm (.v 56) .extend [(.sub (.attr (.v 0) 68) (.v 63))])],.asgI (.attr (.v 0) 70) (.v 81) (.bi .sorted_ [(.v 10)])] [],
  .ret (.sub (.attr (.v 0) 70) (.v 81))]⟩
noncomputable def f26:Fn:=⟨[0,9,24],[],
 [.asgA (.v 0) 9 (.v 9),
  .asgA (.v 0) 88 (.call (.g 87) [(.v 9),(.v 24)]),
  .asgA (.v 0) 89 (.dictR false),
  .for_ (.nm 45) (.call (.g 72) [(.v 9)]) [.asgI (.attr (.v 0) 89) (.v 45) (.meth (.v 0) 90 [(.v 45)])],
  .asgA (.v 0) 52 (.call (.g 91) [(.v 9),(.call (.g 92) [(.v 9),(.meth (.v 0) 93 []),(.attr (.v 0) 53),(.g 94)]),(.attr (.v 0) 53)])]⟩
noncomputable def f27:Fn:=⟨[0],[],
 [.asg (.nm 52) (.bi .frozenset_ []),
  .for_ (.nm 7) (.bi .range_ [(.bi .len_ [(.attr (.attr (.v 0) 9) 6)])]) [.asg (.nm 95) (.chain (.k (.int 0)) .Lt (.v 7) .LtE (.attr (.attr (.v 0) 9) 2)),.asg (.nm 52) (.meth (.v 0) 96 [(.v 52),(.meth (.attr (.v 0) 88) 97 [(.tup [(.v 7),(.tup [])])]),(.ite (.v 95) (.g 98) (.g 99))])],
  .ret (.v 52)]⟩
noncomputable def f28:Fn:=⟨[0,52,81,100],[],
 [.asg (.nm 101) (.meth (.attr (.v 0) 88) 101 [(.v 81)]),
  .ifs (.cmp .Eq (.v 100) (.g 102)) [.asg (.nm 104) (.comp false [52] (.v 103) (.nm 103) (.v 101) (some (.cmp .In (.bin .Add (.bin .Mult (.k (.int 3)) (.v 103)) (.g 98)) (.v 52)))),.asg (.nm 105) (.bi .frozenset_ [(.comp false [] (.bin .Add (.bin .Mult (.k (.int 3)) (.v 103)) (.g 98)) (.nm 103) (.v 104) none)]),.ret (.bin .BitOr (.bin .Sub (.v 52) (.v 105)) (.bi .frozenset_ [(.comp false [] (.bin .Add (.bin .Mult (.k (.int 3)) (.v 103)) (.g 106)) (.nm 103) (.v 104) none)]))] [],
  .asg (.nm 105) (.bi .frozenset_ [(.comp2 false [] (.bin .Add (.bin .Mult (.k (.int 3)) (.v 103)) (.v 51)) (.nm 103) (.v 101) (.nm 51) (.tup [(.g 98),(.g 106),(.g 99)]))]),
  .ret (.bin .BitOr (.bin .Sub (.v 52) (.v 105)) (.bi .frozenset_ [(.comp false [100] (.bin .Add (.bin .Mult (.k (.int 3)) (.v 103)) (.v 100)) (.nm 103) (.v 101) none)]))]⟩
noncomputable def f29:Fn:=⟨[0,45],[],
 [.ret (.sub (.attr (.v 0) 89) (.v 45))]⟩
noncomputable def f30:Fn:=⟨[0,45],[],
 [.asg (.nm 10) (.lstR []),
  .for_ (.nm 73) (.call (.g 74) [(.attr (.v 0) 9),(.v 45)]) [.ifs (.bool true (.cmp .Eq (.sub (.v 73) (.k (.int 0))) (.k (.w 75))) (.meth (.attr (.v 0) 88) 107 [(.sub (.v 73) (.k (.int 1)))])) [.expr (.lm (.v 10) .append [(.tup [(.meth (.attr (.v 0) 88) 97 [(.sub (.v 73) (.k (.int 1)))]),(.g 106)])])] []],
  .asg (.tp [109,7]) (.tup [(.call (.g 78) [(.attr (.v 0) 9),(.v 45)]),(.call (.g 108) [(.attr (.v 0) 9),(.v 45)])]),
  .asg (.nm 110) (.call (.g 77) [(.attr (.v 0) 9),(.v 45)]),
  .ifs (.bool true (.cmp .IsNot (.v 109) (.k .none)) (.meth (.attr (.v 0) 88) 107 [(.v 109)])) [.expr (.lm (.v 10) .append [(.tup [(.meth (.attr (.v 0) 88) 97 [(.v 109)]),(.g 102)])])] [],
  .ifs (.cmp .IsNot (.v 7) (.k .none)) [.expr (.lm (.v 10) .append [(.tup [(.meth (.attr (.v 0) 88) 97 [(.tup [(.v 7),(.tup [])])]),(.g 99)])])] [],
  .ifs (.bool true (.cmp .IsNot (.v 110) (.k .none)) (.meth (.attr (.v 0) 88) 107 [(.v 110)])) [.expr (.lm (.v 10) .append [(.tup [(.meth (.attr (.v 0) 88) 97 [(.v 110)]),(.g 98)])])] [],
  .ret (.frz (.v 10))]⟩
noncomputable def f31:Fn:=⟨[0,52,8,12],[],
 [.for_ (.tp [81,100]) (.meth (.v 0) 111 [(.tup [(.v 8),(.v 12)])]) [.asg (.nm 52) (.meth (.v 0) 96 [(.v 52),(.v 81),(.v 100)])],
  .ret (.v 52)]⟩
noncomputable def f32:Fn:=⟨[0,9,24],[],
 [.asgA (.v 0) 9 (.v 9),
  .asgA (.v 0) 24 (.v 24),
  .asgA (.v 0) 113 (.call (.g 112) [(.v 9),(.v 24)]),
  .asgA (.v 0) 10 (.lst [])]⟩
noncomputable def f33:Fn:=⟨[0,69,100],[],
 [.asg (.nm 10) (.lstR []),
  .for_ (.nm 45) (.call (.g 72) [(.attr (.v 0) 9)]) [.for_ (.tp [81,16]) (.meth (.attr (.v 0) 113) 111 [(.v 45)]) [.asg (.nm 114) (.bool false (.cmp .Eq (.v 16) (.v 100)) (.bool true (.cmp .Eq (.v 16) (.g 102)) (.cmp .Eq (.v 100) (.g 106)))),.ifs (.bool true (.v 114) (.cmp .NotEq (.comp false [81,0] (.v 50) (.nm 50) (.v 69) (some (.cmp .In (.v 50) (.meth (.attr (.attr (.v 0) 113) 88) 101 [(.v 81)])))) (.lst []))) [.expr (.lm (.v 10) .append [(.v 45)])] []]],
  .ret (.frz (.v 10))]⟩
noncomputable def f34:Fn:=⟨[115],[],
 [.asg (.nm 116) (.ite (.cmp .Gt (.bi .len_ [(.v 115)]) (.k (.int 0))) (.sub (.v 115) (.k (.int 0))) (.k (.int 0))),
  .asg (.nm 117) (.bi .max_ [(.v 116),(.bin .Sub (.neg 1) (.v 116))]),
  .ret (.lstR [(.bin .Mult (.v 117) (.bi .int_ [(.cmp .GtE (.v 117) (.bin .Pow (.k (.int 10)) (.k (.int 18))))])),(.bin .Mod (.bin .Mult (.bin .Add (.bin .Mod (.v 117) (.k (.int 2147483629))) (.k (.int 17))) (.k (.int 48271))) (.k (.int 2147483647)))])]⟩
noncomputable def f35:Fn:=⟨[118,119],[],
 [.ifs (.cmp .Gt (.sub (.v 118) (.k (.int 0))) (.k (.int 0))) [.asg (.nm 120) (.bin .Mod (.sub (.v 118) (.k (.int 0))) (.v 119)),.asgI (.v 118) (.k (.int 0)) (.bin .FloorDiv (.sub (.v 118) (.k (.int 0))) (.v 119)),.ret (.v 120)] [],
  .asgI (.v 118) (.k (.int 1)) (.bin .Mod (.bin .Add (.bin .Mult (.sub (.v 118) (.k (.int 1))) (.k (.int 39373))) (.k (.int 7))) (.k (.int 2147483647))),
  .ret (.bin .Mod (.bin .FloorDiv (.bin .Mod (.bin .Mult (.sub (.v 118) (.k (.int 1))) (.sub (.v 118) (.k (.int 1)))) (.k (.int 2147483629))) (.k (.int 32))) (.v 119))]⟩
noncomputable def f36:Fn:=⟨[118,121],[],
 [.ret (.sub (.v 121) (.call (.g 122) [(.v 118),(.bi .len_ [(.v 121)])]))]⟩
noncomputable def f37:Fn:=⟨[],[],
 [.asg (.nm 81) (.tup [(.k (.w 123)),(.k (.w 124))]),
  .asg (.nm 125) (.tup [(.k (.w 25)),(.tup [(.v 81),(.tup [(.k (.w 34)),(.v 81)])])]),
  .ret (.lst [(.v 81),(.tup [(.k (.w 25)),(.tup [(.v 125),(.tup [(.k (.w 34)),(.v 81)])])]),(.tup [(.k (.w 34)),(.v 125)]),(.tup [(.k (.w 33)),(.k .none),(.k (.bool true)),(.v 125)]),(.v 81)])]⟩
noncomputable def f38:Fn:=⟨[118],[],
 [.asg (.tp [126,127,128]) (.tup [(.tup [(.k (.w 30)),(.k (.int 0))]),(.tup [(.k (.w 30)),(.k (.int 1))]),(.tup [(.k (.w 32))])]),
  .asg (.nm 129) (.lst [(.tup [(.tup [(.k (.int 0)),(.tup [])]),(.k (.int 0))]),(.tup [(.tup [(.k (.int 1)),(.tup [])]),(.k (.int 0))]),(.tup [(.tup [(.k (.int 1)),(.tup [(.v 126)])]),(.k (.int 1))]),(.tup [(.tup [(.k (.int 1)),(.tup [(.v 126),(.v 127)])]),(.k (.int 2))]),(.tup [(.tup [(.k (.int 1)),(.tup [(.v 126),(.v 127),(.v 128)])]),(.k (.int 3))])]),
  .asg (.nm 129) (.bin .Add (.v 129) (.lst [(.tup [(.tup [(.k (.int 1)),(.tup [(.v 127)])]),(.k (.int 1))]),(.tup [(.tup [(.k (.int 2)),(.tup [])]),(.k (.int 0))]),(.tup [(.tup [(.k (.int 2)),(.tup [(.v 128)])]),(.k (.int 1))]),(.tup [(.tup [(.k (.int 2)),(.tup [(.v 128),(.v 127)])]),(.k (.int 2))]),(.tup [(.tup [(.k (.int 3)),(.tup [])]),(.k (.int 0))])])),
  .ret (.call (.g 130) [(.v 118),(.bin .Add (.v 129) (.lst [(.tup [(.tup [(.k (.int 3)),(.tup [(.v 128),(.v 126)])]),(.k (.int 0))]),(.tup [(.tup [(.k (.int 3)),(.tup [(.v 128)])]),(.k (.int 0))]),(.tup [(.tup [(.k (.int 1)),(.tup [(.v 127),(.v 128)])]),(.k (.int 2))])]))])]⟩
noncomputable def f39:Fn:=⟨[118],[],
 [.asg (.tp [132,50,51]) (.tup [(.call (.g 122) [(.v 118),(.k (.int 8))]),(.call (.g 131) [(.v 118)]),(.call (.g 131) [(.v 118)])]),
  .asg (.tp [81,7]) (.tup [(.tup [(.k (.w 133)),(.tup [(.k (.w 123)),(.k (.w 124))]),(.k (.int 5))]),(.call (.g 122) [(.v 118),(.k (.int 5))])]),
  .ifs (.cmp .Lt (.v 132) (.k (.int 2))) [.ret (.tup [(.tup [(.k (.w 47)),(.sub (.v 51) (.k (.int 0))),(.tup [(.k (.w 40)),(.tup [(.k (.w 75)),(.sub (.v 50) (.k (.int 0)))])])]),(.lst [(.bin .Add (.v 50) (.tup [(.g 106)])),(.bin .Add (.v 51) (.tup [(.g 98)]))])])] [],
  .ifs (.cmp .Eq (.v 132) (.k (.int 2))) [.asg (.nm 135) (.tup [(.k (.w 41)),(.k (.w 134)),(.tup [(.k (.w 75)),(.sub (.v 50) (.k (.int 0)))]),(.tup [(.k (.w 75)),(.sub (.v 51) (.k (.int 0)))])]),.ret (.tup [(.tup [(.k (.w 47)),(.tup [(.k (.int 0)),(.tup [])]),(.v 135)]),(.lst [(.bin .Add (.v 50) (.tup [(.g 106)])),(.bin .Add (.v 51) (.tup [(.g 106)])),(.tup [(.tup [(.k (.int 0)),(.tup [])]),(.k (.int 0)),(.g 98)])])])] [],
  .ifs (.cmp .Eq (.v 132) (.k (.int 3))) [.ret (.tup [(.tup [(.k (.w 47)),(.sub (.v 50) (.k (.int 0))),(.tup [(.k (.w 40)),(.v 81)])]),(.lst [(.bin .Add (.v 50) (.tup [(.g 98)]))])])] [],
  .ifs (.cmp .Eq (.v 132) (.k (.int 4))) [.ret (.tup [(.tup [(.k (.w 47)),(.tup [(.k (.int 4)),(.tup [])]),(.tup [(.k (.w 40)),(.tup [(.k (.w 136)),(.sub (.v 50) (.k (.int 0)))])])]),(.lst [(.tup [(.tup [(.k (.int 4)),(.tup [])]),(.k (.int 0)),(.g 98)])])])] [],
  .ifs (.cmp .Eq (.v 132) (.k (.int 5))) [.ret (.tup [(.tup [(.k (.w 49)),(.tup [(.k (.w 75)),(.sub (.v 50) (.k (.int 0)))])]),(.lst [(.bin .Add (.v 50) (.tup [(.g 106)]))])])] [],
  .ret (.tup [(.tup [(.ite (.cmp .Eq (.v 132) (.k (.int 6))) (.k (.w 64)) (.k (.w 65))),(.v 7)]),(.lst [(.tup [(.tup [(.v 7),(.tup [])]),(.k (.int 0)),(.g 99)])])])]⟩
noncomputable def f40:Fn:=⟨[118,137],[],
 [.asg (.tp [132,50,51]) (.tup [(.call (.g 122) [(.v 118),(.k (.int 5))]),(.call (.g 131) [(.v 118)]),(.call (.g 131) [(.v 118)])]),
  .ifs (.cmp .Eq (.v 132) (.k (.int 0))) [.ret (.tup [(.tup [(.k (.w 15)),(.v 137)]),(.lst [])])] [],
  .ifs (.cmp .Lt (.v 132) (.k (.int 3))) [.ret (.tup [(.tup [(.k (.w 20)),(.sub (.v 50) (.k (.int 0))),(.v 137)]),(.lst [(.bin .Add (.v 50) (.tup [(.g 102)]))])])] [],
  .ifs (.cmp .Eq (.v 132) (.k (.int 3))) [.asg (.nm 139) (.tup [(.k (.w 19)),(.tup [(.k (.w 138)),(.tup [])]),(.tup [(.tup [(.k (.w 75)),(.sub (.v 50) (.k (.int 0)))]),(.tup [(.k (.w 136)),(.sub (.v 51) (.k (.int 0)))])]),(.sub (.v 51) (.k (.int 0))),(.v 137)]),.ret (.tup [(.v 139),(.lst [(.bin .Add (.v 50) (.tup [(.g 106)])),(.bin .Add (.v 51) (.tup [(.g 98)]))])])] [],
  .ret (.tup [(.tup [(.k (.w 140))]),(.lst [])])]⟩
noncomputable def f41:Fn:=⟨[118],[],
 [.asg (.tp [4,111]) (.tup [(.lstR []),(.lst [])]),
  .asg (.nm 141) (.bin .Add (.k (.int 1)) (.call (.g 122) [(.v 118),(.k (.int 3))])),
  .for_ (.nm 8) (.bi .range_ [(.v 141)]) [.asg (.nm 144) (.comp false [118] (.call (.g 142) [(.v 118)]) (.nm 143) (.bi .range_ [(.call (.g 122) [(.v 118),(.k (.int 4))])]) none),.asg (.nm 146) (.call (.g 145) [(.v 118),(.call (.g 122) [(.v 118),(.v 141)])]),.expr (.lm (.v 4) .append [(.lst [(.comp false [] (.sub (.v 147) (.k (.int 0))) (.nm 147) (.v 144) none),(.sub (.v 146) (.k (.int 0)))])]),.asg (.nm 111) (.bin .Add (.bin .Add (.v 111) (.comp false [] (.sub (.v 147) (.k (.int 1))) (.nm 147) (.v 144) none)) (.lst [(.sub (.v 146) (.k (.int 1)))]))],
  .ret (.tup [(.frz (.v 4)),(.v 111)])]⟩
noncomputable def f42:Fn:=⟨[148,36],[],
 [.for_ (.nm 85) (.bi .range_ [(.bin .Add (.bi .len_ [(.sub (.v 36) (.k (.int 1)))]) (.k (.int 1)))]) [.ifs (.cmp .NotIn (.tup [(.sub (.v 36) (.k (.int 0))),(.slc (.sub (.v 36) (.k (.int 1))) (.v 85))]) (.v 148)) [.expr (.lm (.v 148) .append [(.tup [(.sub (.v 36) (.k (.int 0))),(.slc (.sub (.v 36) (.k (.int 1))) (.v 85))])])] []]]⟩
noncomputable def f43:Fn:=⟨[144],[],
 [.ret (.comp false [] (.tup [(.v 36),(.v 100)]) (.tp [36,85,100]) (.v 144) (some (.cmp .Eq (.v 85) (.bi .len_ [(.sub (.v 36) (.k (.int 1)))]))))]⟩
noncomputable def f44:Fn:=⟨[147],[],
 [.ret (.lm (.lst [(.g 106),(.g 102),(.g 99),(.g 98)]) .index [(.sub (.v 147) (.k (.int 1)))])]⟩
noncomputable def f45:Fn:=⟨[148,5,111,69,100],[],
 [.asg (.nm 10) (.lstR []),
  .for_ (.nm 82) (.bi .range_ [(.bi .len_ [(.v 5)])]) [.for_ (.tp [36,16]) (.call (.g 149) [(.sub (.v 111) (.v 82))]) [.asg (.nm 85) (.bi .len_ [(.sub (.v 36) (.k (.int 1)))]),.asg (.nm 129) (.comp false [148] (.sub (.v 148) (.v 81)) (.nm 81) (.v 69) none),.asg (.nm 150) (.comp false [36,85] (.v 50) (.nm 50) (.v 129) (some (.bool true (.cmp .Eq (.sub (.v 50) (.k (.int 0))) (.sub (.v 36) (.k (.int 0)))) (.cmp .Eq (.slc (.sub (.v 50) (.k (.int 1))) (.v 85)) (.sub (.v 36) (.k (.int 1))))))),.ifs (.bool true (.cmp .NotEq (.v 150) (.lst [])) (.bool false (.cmp .Eq (.v 16) (.v 100)) (.cmp .Eq (.tup [(.v 16),(.v 100)]) (.tup [(.g 102),(.g 106)])))) [.expr (.lm (.v 10) .append [(.sub (.v 5) (.v 82))])] []]],
  .ret (.frz (.v 10))]⟩
noncomputable def f46:Fn:=⟨[118,4,111],[],
 [.asg (.nm 9) (.frz (.call (.g 151) [(.k (.w 152)),(.k (.int 0)),(.comp false [] (.tup [(.v 154),(.k (.bool true)),(.k .none)]) (.nm 154) (.call (.g 153) []) none),(.v 4)])),
  .asg (.tp [156,148]) (.tup [(.call (.g 155) [(.v 9),(.k .none)]),(.comp true [] (.tup [(.v 7),(.tup [])]) (.nm 7) (.bi .range_ [(.k (.int 5))]) none)]),
  .asg (.nm 5) (.comp2 false [4] (.tup [(.v 8),(.v 12)]) (.nm 8) (.bi .range_ [(.bi .len_ [(.v 4)])]) (.nm 12) (.bi .range_ [(.bin .Add (.bi .len_ [(.sub (.sub (.v 4) (.v 8)) (.k (.int 0)))]) (.k (.int 1)))])),
  .for_ (.nm 144) (.v 111) [.for_ (.tp [36,85,100]) (.v 144) [.expr (.call (.g 157) [(.v 148),(.tup [(.sub (.v 36) (.k (.int 0))),(.slc (.sub (.v 36) (.k (.int 1))) (.v 85))])])]],
  .ifs (.cmp .NotEq (.attr (.attr (.attr (.v 156) 113) 88) 66) (.v 148)) [.ret (.k (.bool false))] [],
  .for_ (.nm 82) (.bi .range_ [(.bi .len_ [(.v 5)])]) [.asg (.nm 159) (.comp false [148] (.tup [(.lm (.v 148) .index [(.v 36)]),(.v 100)]) (.tp [36,100]) (.srt (.call (.g 149) [(.sub (.v 111) (.v 82))]) (.g 158)) none),.ifs (.cmp .NotEq (.meth (.attr (.v 156) 113) 90 [(.sub (.v 5) (.v 82))]) (.v 159)) [.ret (.k (.bool false))] []],
  .for_ (.nm 143) (.bi .range_ [(.k (.int 2))]) [.asg (.nm 69) (.comp false [118,148] (.call (.g 122) [(.v 118),(.bi .len_ [(.v 148)])]) (.nm 132) (.bi .range_ [(.bin .Add (.k (.int 1)) (.call (.g 122) [(.v 118),(.k (.int 2))]))]) none),.asg (.nm 100) (.call (.g 130) [(.v 118),(.lst [(.g 98),(.g 106),(.g 106),(.g 99),(.g 102)])]),.ifs (.cmp .NotEq (.meth (.v 156) 160 [(.v 69),(.v 100)]) (.call (.g 161) [(.v 148),(.v 5),(.v 111),(.v 69),(.v 100)])) [.ret (.k (.bool false))] []],
  .ret (.k (.bool true))]⟩
noncomputable def f47:Fn:=⟨[118],[],
 [.asg (.nm 88) (.call (.g 87) [(.frz (.call (.g 151) [(.k (.w 152)),(.k (.int 0)),(.comp false [] (.tup [(.v 154),(.k (.bool true)),(.k .none)]) (.nm 154) (.call (.g 153) []) none),(.lst [(.lst [(.lst []),(.tup [(.k (.w 140))])])])])),(.k .none)]),
  .asg (.nm 148) (.comp true [] (.tup [(.v 7),(.tup [])]) (.nm 7) (.bi .range_ [(.k (.int 5))]) none),
  .for_ (.nm 143) (.bi .range_ [(.bin .Add (.k (.int 1)) (.call (.g 122) [(.v 118),(.k (.int 5))]))]) [.asg (.tp [36,85]) (.call (.g 131) [(.v 118)]),.expr (.call (.g 157) [(.v 148),(.v 36)]),.ifs (.bool false (.cmp .NotEq (.meth (.v 88) 71 [(.v 36)]) (.lm (.v 148) .index [(.v 36)])) (.cmp .NotEq (.attr (.v 88) 66) (.v 148))) [.ret (.k (.bool false))] []],
  .ret (.k (.bool true))]⟩
noncomputable def f48:Fn:=⟨[115],[],
 [.ifs (.cmp .NotEq (.bi .sorted_ [(.lst [(.g 98),(.g 106),(.g 99),(.g 102)])]) (.lst [(.k (.int 0)),(.k (.int 1)),(.k (.int 2)),(.k (.int 3))])) [.ret (.k (.bool false))] [],
  .asg (.nm 4) (.lst [(.lst [(.lst []),(.tup [(.k (.w 20)),(.tup [(.k (.int 2)),(.tup [])]),(.k (.int 1))])]),(.lst [(.lst []),(.tup [(.k (.w 140))])])]),
  .asg (.nm 16) (.call (.g 155) [(.frz (.call (.g 151) [(.k (.w 152)),(.k (.int 0)),(.comp false [] (.tup [(.v 154),(.k (.bool true)),(.k .none)]) (.nm 154) (.call (.g 153) []) none),(.v 4)])),(.k .none)]),
  .ifs (.bool false (.cmp .NotEq (.meth (.v 16) 160 [(.lst [(.k (.int 2))]),(.g 106)]) (.lst [(.tup [(.k (.int 0)),(.k (.int 0))])])) (.cmp .NotEq (.meth (.v 16) 160 [(.lst [(.k (.int 2))]),(.g 98)]) (.lst []))) [.ret (.k (.bool false))] [],
  .asg (.nm 118) (.call (.g 162) [(.v 115)]),
  .asg (.tp [4,111]) (.call (.g 163) [(.v 118)]),
  .ret (.bool true (.call (.g 164) [(.v 118),(.v 4),(.v 111)]) (.call (.g 165) [(.v 118)]))]⟩
noncomputable def fnL:List Fn:=[f0,f1,f2,f3,f4,f5,f6,f7,f8,f9,f10,f11,f12,f13,f14,f15,f16,f17,f18,f19,f20,f21,f22,f23,f24,f25,f26,f27,f28,f29,f30,f31,f32,f33,f34,f35,f36,f37,f38,f39,f40,f41,f42,f43,f44,f45,f46,f47,f48]
noncomputable def ZdS:List String:=["self","name","arg_count","locals_told","blocks","spots","locals","local","block","body","found","statements","index","terminator","word","goto","told","switch","value","call","drop","assert","variant","k","world","tuple","adt","fields_of","projection","downcast","field","field_type","deref","ref","box","array","place","type_of","projected","rvalue","use","binary","checked","unary","cast","point","statement","assign","operands_of","print","one","other","facts","step","start","join","left","through","behind","target","successors","ahead","merged","here","live","dead","places","parents","kids","numbers","lots","add","points","operand","operands_at","move","cut","written_at","dropped_at","projections","parent","number","at","place_type","depth_of","size","is_cut","MovePaths","paths","done","deeds_of","all_facts","solve_forward","begin","joined","is_argument","turned","number_of","READY","UNSET","state","below","DROPPED","path","ready","gone","MOVED","is_exact","turned_at","dropped","written","deeds","Moves","moves","is_so","script","cell","great","source","top","drawn","things","_law_take","int","i32","pair","first","second","led","some","_law_one","_law_place","way","const","+","made","copy","goal","f","ended","return","many","_law_statement","turn","rows","_law_end","end","row","known","_law_exact","lies","Body","g","_law_kinds","kind","MoveChecker","checker","_law_noted","_law_order","due","makers","_law_made","_law_pool","_law_body","_law_right","_law_added_right","law"]
noncomputable def ZiA:List Nat:=[142,149,163,170,197,202,209,216,223,230,237,249,256,263,270,284,291,298,319,326,333,340,347,354,361,382,410,417,422,429,436,443,499,513,574,581,588,595,602,609,616,621,628,633,640,645,650,655,660,368,450,518,539]
noncomputable def Zmu:List (Nat × LV):=[(72,.fn 4),(60,.fn 5),(31,.fn 6),(38,.fn 7),(83,.fn 8),(48,.fn 9),(74,.fn 10),(94,.fn 11),(57,.fn 12),(92,.fn 13),(91,.fn 14),(77,.fn 15),(78,.fn 16),(108,.fn 17),(162,.fn 34),(122,.fn 35),(130,.fn 36),(153,.fn 37),(131,.fn 38),(142,.fn 39),(145,.fn 40),(163,.fn 41),(157,.fn 42),(149,.fn 43),(158,.fn 44),(161,.fn 45),(164,.fn 46),(165,.fn 47),(166,.fn 48),(151,.cls 0),(87,.cls 1),(112,.cls 2),(155,.cls 3),(98,.int 0),(106,.int 1),(99,.int 2),(102,.int 3)]
noncomputable def Zk9:List (Nat × Nat × Nat):=[(0,37,1),(0,11,2),(0,13,3),(1,71,19),(1,84,20),(1,76,21),(1,86,22),(1,97,23),(1,107,24),(1,101,25),(2,93,27),(2,96,28),(2,111,29),(2,90,30),(2,53,31),(3,160,33),(1,80,49),(2,82,50),(3,40,51),(3,110,52)]
noncomputable def Znq (k:Nat):Str:=⟨(List.replicate (k + 1) 33).toArray⟩
noncomputable def nmT (k:Nat):Str:=match ZdS[k]? with
 | some s=>Str.ofString s
 | none=>Znq k
noncomputable def Znr (c:Nat):Nat:=match c with | 0=>0 | 1=>1 | 2=>2 | _=>3
noncomputable def Zg4:List (Nat × Nat × Nat)->Nat->Nat->Option Nat
 | [],_,_=>none
 | (c,x,f)::r,c',x'=>if c=c'/\x=x' then some f else Zg4 r c' x'
noncomputable def ZkJ:List (Nat × LV)->Nat->Option LV
 | [],_=>none
 | (x,v)::r,y=>if x=y then some v else ZkJ r y
noncomputable def TT0:Tab where
 glob:=ZkJ Zmu
 meth:=fun c x=>Zg4 Zk9 (Znr c) x
 init:=fun c=>match c with | 0=>some 0 | 1=>some 18 | 2=>some 26 | 3=>some 32 | _=>none
 fields:=fun c=>match c with | 0=>[1,2,6,4,5] | _=>[]
noncomputable def ZqV (f:Nat):Option Fn:=fnL[f]?
noncomputable def ZaZ (f:Nat):Addr:=(ZiA[f]?).getD 660
noncomputable def Zb1 (c:Nat):Addr:=match c with | 0=>188 | 1=>385 | 2=>481 | _=>563
end
section
open PySem PySem.W PyProof.Rows PySem.Calls PySem.SeqAt
set_option maxRecDepth 100000
set_option maxHeartbeats 8000000
noncomputable def mkQ (l:List Arg) (p:Str × Nat):Arg:=⟨p.1,(l.getD p.2 default).annotation,(l.getD p.2 default).pos⟩
theorem Zj1 {l:List Arg} {ns:List Str} (h:l.map (·.arg)=ns):l=ns.zipIdx.map (mkQ l):=by
 subst h
 refine List.ext_getElem (by rw [List.length_map,List.length_zipIdx,List.length_map]) fun i h1 h2=>?_
 rw [List.getElem_map,List.getElem_zipIdx,List.getElem_map]
 unfold mkQ
 dsimp only
 rw [Nat.zero_add,List.getD_eq_getElem?_getD,List.getElem?_eq_getElem h1]
 show l[i]=⟨l[i].arg,l[i].annotation,l[i].pos⟩
 generalize l[i]=x
 cases x; rfl
theorem Zj6 {s:Shared} {fd:FuncData} {T:Addr} {o:Obj} {n:Nat} (h1:fd.params.posonlyargs=[]) (h2:fd.params.args.map (·.arg)=f0.params.map nmT) (h3:fd.params.kwonlyargs=[]) (h4:fd.params.vararg=none) (h5:fd.params.kwarg=none)
  (h6:fd.defaults=.ref T) (ho:s.heap.get? T=some o) (hs:o.data=.seq #[.none,.none] n) (a b c d e:Value):BindsTo s fd ⟨[a,b,c,d,e],[]⟩ ((f0.params.map nmT).zip [a,b,c,d,e,.none]):=by
 obtain ⟨_,q,⟨_,l,_,_,_,_,_⟩,_,_,_,_,_,kd,_,_,_,_,_,_⟩:=fd
 obtain rfl:=h1; obtain rfl:=h3; obtain rfl:=h4; obtain rfl:=h5; obtain rfl:=h6
 obtain ⟨l',e⟩:∃ l',l=(f0.params.map nmT).zipIdx.map (mkQ l'):=⟨l,Zj1 h2⟩
 subst e
 refine BindsTo.of_defaults rfl ho hs rfl (by kernel_rfl)
theorem Zjm {s:Shared} {fd:FuncData} {T:Addr} {o:Obj} {n:Nat} (h1:fd.params.posonlyargs=[]) (h2:fd.params.args.map (·.arg)=f0.params.map nmT) (h3:fd.params.kwonlyargs=[]) (h4:fd.params.vararg=none) (h5:fd.params.kwarg=none)
  (h6:fd.defaults=.ref T) (ho:s.heap.get? T=some o) (hs:o.data=.seq #[.none,.none] n) (a b c d e f:Value):BindsTo s fd ⟨[a,b,c,d,e,f],[]⟩ ((f0.params.map nmT).zip [a,b,c,d,e,f]):=by
 obtain ⟨_,q,⟨_,l,_,_,_,_,_⟩,_,_,_,_,_,kd,_,_,_,_,_,_⟩:=fd
 obtain rfl:=h1; obtain rfl:=h3; obtain rfl:=h4; obtain rfl:=h5; obtain rfl:=h6
 obtain ⟨l',e⟩:∃ l',l=(f0.params.map nmT).zipIdx.map (mkQ l'):=⟨l,Zj1 h2⟩
 subst e
 refine BindsTo.of_defaults rfl ho hs rfl (by kernel_rfl)
noncomputable def ZqT:List Addr:=[188,385,481,563]
theorem Zgp (c:Nat):Zb1 c ∈ ZqT:=by
 unfold Zb1 ZqT
 split <;> simp
noncomputable def ZhC (K:Frag) (a:Addr):Bool :=
 findIn K (.ref a) "__getattribute__" == some (some (.builtin "object.__getattribute__"))&&findIn K (.ref a) "__getattr__" == some none&&findIn K (.ref a) "__setattr__" == some (some (.builtin "object.__setattr__")) &&
 (clsIn K a).any (·.hasDict)&&plainOver K a
noncomputable def ZcE (K:Frag) (c x:Nat):Bool:=(Zg4 Zk9 c x).isSome || (findIn K (.ref (Zb1 c)) (nmT x) == some none&&!copiedNames.contains (nmT x))
noncomputable def Zk8 (K:Frag) (e:Nat × Nat × Nat):Bool :=
 findIn K (.ref (Zb1 e.1)) (nmT e.2.1) == some (some (.ref (ZaZ e.2.2)))&&typeIn K (.ref (ZaZ e.2.2)) == some (.type "function")&&fnIn K (ZaZ e.2.2)&&!copiedNames.contains (nmT e.2.1) &&
 takesIn K (.ref (ZaZ e.2.2)) == some false&&specialIn K (.ref (ZaZ e.2.2)) "__get__" == some (some (.builtin "function.__get__"))
noncomputable def Zc3 (K:Frag) (c f:Nat):Bool :=
 findIn K (.ref (Zb1 c)) "__init__" == some (some (.ref (ZaZ f)))&&typeIn K (.ref (ZaZ f)) == some (.type "function")&&makesIn K (Zb1 c)&&keepIn K (.ref (Zb1 c))
noncomputable def ZjE (K:Frag) (a:Addr) (p:Obj->Bool):Bool:=match K.lookup a with | some o=>p o | none=>false
noncomputable def Zsa (c:Value):Option Int:=match c with
 | .int n _=>some n
 | _=>none
theorem Zpb {c:Value} {n:Int} (h:Zsa c=some n):∃ t,c=.int n t:=by cases c <;> first | exact nos h | exact ⟨_,by rw [Option.some.inj h]⟩
noncomputable def vOf (v:LV):Option Value:=match v with
 | .fn f=>some (.ref (ZaZ f))
 | .cls c=>some (.ref (Zb1 c))
 | _=>none
noncomputable def Zrs (v:LV) (u:Option (Option Value)):Bool:=(u.bind fun u=>u.bind fun w=>sel (vOf v) (fun x=>if w == x then some true else none) ((asI v).bind fun i=>(Zsa w).bind fun j=>if i == j then some true else none)) == some true
theorem ZgL {v:LV} {u:Option (Option Value)} (h:Zrs v u=true):∃ w,u=some (some w)/\((∃ x,vOf v=some x/\w=x)\/∃ i t,v=.int i/\w=.int i t):=by
 refine Ze (bnd (eq_of_beq h)) fun u' e h=>Ze (bnd h) fun w e' h=>⟨w,by rw [e,e'],?_⟩
 refine Zf3 h (fun x hx h=>.inl ⟨x,hx,ifs h (fun q _=>eq_of_beq q) fun _ h=>nos h⟩) fun _ h=>?_
 refine Ze (bnd h) fun i hi h=>Ze (bnd h) fun j hj h=>ifs h (fun q _=>ZU (Zpb hj) fun t ht=>?_) fun _ h=>nos h
 exact .inr ⟨i,t,ZP hi,by rw [ht,eq_of_beq q]⟩
theorem Zpc {G:Glo} (hf:G.faddr=ZaZ) (hc:G.caddr=Zb1) {v:LV} {x:Value} (h:vOf v=some x) (D:Addr->Prop) (hp:Heap):Rep G D hp v x:=by
 cases v with
 | fn f=>obtain rfl:=Option.some.inj h; show _=_; rw [hf]
 | cls c=>obtain rfl:=Option.some.inj h; show _=_; rw [hc]
 | _=>exact nos h
noncomputable def ZjZ:List Bi:=[.len_,.range_,.list_,.tuple_,.frozenset_,.max_,.int_,.sorted_]
theorem Zp9:(ZjZ.all fun b=>bootBuiltins (Zb0 b) == some (biV b)&&!(Zb0 b == ("__name__" : Str)))=true:=by kernel_rfl
theorem Zow:ZiU (ZdS.map Str.ofString)=true:=by kernel_rfl
theorem Zp8:((ZdS.map Str.ofString).all fun s=>s.cps[0]? != some 33&&PyData.strOk s)=true:=by kernel_rfl
theorem ZiT {k:Nat} {s:String} (h:ZdS[k]?=some s):nmT k=Str.ofString s:=by unfold nmT; rw [h]
theorem Zcg {k:Nat} (h:ZdS[k]?=none):nmT k=Znq k:=by unfold nmT; rw [h]
theorem Zl5 {i j:Nat} (h:Znq i=Znq j):i=j:=by
 have:=congrArg (fun s:Str=>s.cps.size) h
 simp [Znq] at this
 exact this
theorem Ze0 (k:Nat):(Znq k).cps[0]?=some 33:=by simp [Znq]
theorem ZeM {k:Nat} {s:String} (h:ZdS[k]?=some s):(nmT k).cps[0]? ≠ some 33/\PyData.strOk (nmT k)=true:=by
 rw [ZiT h]
 have:=List.all_eq_true.mp Zp8 (Str.ofString s) (List.mem_map_of_mem (List.mem_of_getElem? h))
 simp only [Bool.and_eq_true,bne_iff_ne,ne_eq] at this
 exact this
theorem ZoJ:∀ i j,nmT i=nmT j->i=j:=fun i j e=>by
 cases hi:ZdS[i]? with
 | none =>
  cases hj:ZdS[j]? with
  | none=>rw [Zcg hi,Zcg hj] at e; exact Zl5 e
  | some t =>
   exact absurd (by rw [<- e,Zcg hi,Ze0]) (ZeM hj).1
 | some s =>
  cases hj:ZdS[j]? with
  | none=>exact absurd (by rw [e,Zcg hj,Ze0]) (ZeM hi).1
  | some t =>
   have nd:=ZcU Zow
   rw [ZiT hi,ZiT hj] at e
   have h1:(ZdS.map Str.ofString)[i]?=some (Str.ofString s):=by rw [List.getElem?_map,hi]; rfl
   have h2:(ZdS.map Str.ofString)[j]?=some (Str.ofString s):=by rw [List.getElem?_map,hj,e]; rfl
   obtain ⟨l1,_⟩:=List.getElem?_eq_some_iff.mp h1
   exact (List.getElem?_inj l1 nd).mp (h1.trans h2.symm)
theorem Zqn (k:Nat):PyData.strOk (nmT k)=true:=by
 cases h:ZdS[k]? with
 | some s=>exact (ZeM h).2
 | none =>
  rw [Zcg h]
  unfold PyData.strOk Znq
  rw [Array.all_eq_true_iff_forall_mem]
  intro x hx
  have:x=33:=by simpa using hx
  subst this
  decide
theorem Zfh:∀ {l:List (Nat × Nat × Nat)} {c x f:Nat},Zg4 l c x=some f->(c,x,f) ∈ l
 | [],c,x,f,h=>nos h
 | (c',x',f')::r,c,x,f,h=>by
  refine ifs h (fun q h2=>?_) fun _ h2=>List.mem_cons_of_mem _ (Zfh h2)
  obtain ⟨rfl,rfl⟩:=q
  cases h2
  exact List.mem_cons_self
theorem Ze8:∀ {l:List (Nat × LV)} {x:Nat} {v:LV},ZkJ l x=some v->(x,v) ∈ l
 | [],x,v,h=>nos h
 | (y,w)::r,x,v,h=>by
  refine ifs h (fun q h2=>?_) fun _ h2=>List.mem_cons_of_mem _ (Ze8 h2)
  subst q
  cases h2
  exact List.mem_cons_self
theorem Ze1 (c:Nat):Zb1 (Znr c)=Zb1 c:=match c with | 0=>rfl | 1=>rfl | 2=>rfl | _ + 3=>rfl
theorem Zod (c:Nat):Znr c=0\/Znr c=1\/Znr c=2\/Znr c=3:=match c with | 0=>.inl rfl | 1=>.inr (.inl rfl) | 2=>.inr (.inr (.inl rfl)) | _ + 3=>.inr (.inr (.inr rfl))
noncomputable def ZpP (K:Frag) (d:Value):Bool:=((ZrQ d).bind fun T=>(K.lookup T).bind fun o=>Zr2 o.data) == some #[.none,.none]
noncomputable def Zko (K:Frag) (i:Nat) (v:Value):Bool:=match i with | 0=>ZpP K v | _ + 1=>v == .none
noncomputable def ZnH (i:Nat) (f:Fn):Bool:=match i with | 0=>true | _ + 1=>f.dflts.isEmpty
noncomputable def Zop (K:Frag) (i:Nat):Bool:=match fnL[i]? with
 | some f=>Zba K (ZaZ i) (Ze5 nmT f)&&Zba K (ZaZ i) (fun d=>ZgF nmT K f d&&Zko K i d.defaults) &&
   ZnH i f
 | none=>false
structure Checks (K:Frag):Prop where
 cls:(ZqT.all fun a=>ZhC K a)=true
 non:((List.range NN).all fun x=>ZcE K 0 x&&ZcE K 1 x&&ZcE K 2 x&&ZcE K 3 x)=true
 meth:(Zk9.all fun e=>Zk8 K e)=true
 init:(Zc3 K 0 0&&Zc3 K 1 18&&Zc3 K 2 26&&Zc3 K 3 32)=true
 fn:((660::ZiA).all fun a=>fnIn K a)=true
 glob:ZjE K mainGlobals (fun o=>Zmu.all fun e=>Zrs e.2 (lookIn (nmT e.1) o))=true
 bi:ZjE K mainGlobals (fun o=>ZjZ.all fun b=>lookIn (Zb0 b) o == some none)=true
 fns:((List.range 49).all fun i=>Zop K i)=true
noncomputable def Zkf (K:Frag):Bool:=(ZqT.all fun a=>ZhC K a)&&(((List.range NN).all fun x=>ZcE K 0 x&&ZcE K 1 x&&ZcE K 2 x&&ZcE K 3 x)&&((Zk9.all fun e=>Zk8 K e) &&
 ((Zc3 K 0 0&&Zc3 K 1 18&&Zc3 K 2 26&&Zc3 K 3 32)&&(((660::ZiA).all fun a=>fnIn K a)&&(ZjE K mainGlobals (fun o=>Zmu.all fun e=>Zrs e.2 (lookIn (nmT e.1) o)) &&
 ZjE K mainGlobals (fun o=>ZjZ.all fun b=>lookIn (Zb0 b) o == some none))))))
noncomputable def Zkg (K:Frag):Bool:=(List.range 49).all fun i=>Zop K i
theorem ZhB {K:Frag} (h:(Zkf K&&Zkg K)=true):Checks K:=by
 refine ZL (Bool.and_eq_true_iff.mp h) fun h f'=>?_
 refine ZL (Bool.and_eq_true_iff.mp h) fun a h=>?_
 refine ZL (Bool.and_eq_true_iff.mp h) fun b h=>?_
 refine ZL (Bool.and_eq_true_iff.mp h) fun c h=>?_
 refine ZL (Bool.and_eq_true_iff.mp h) fun d h=>?_
 refine ZL (Bool.and_eq_true_iff.mp h) fun e h=>?_
 refine ZL (Bool.and_eq_true_iff.mp h) fun f g=>?_
 exact ⟨a,b,c,d,e,f,g,f'⟩
theorem Zrr {K:Frag} (C:Checks K) (f:Nat):fnIn K (ZaZ f)=true:=by
 have h:=List.all_eq_true.mp C.fn
 unfold ZaZ
 cases e:ZiA[f]? with
 | none=>exact h 660 List.mem_cons_self
 | some a=>exact h a (List.mem_cons_of_mem _ (List.mem_of_getElem? e))
noncomputable def GG (w:World) (h:Heap):Glo:={ prog:=PySem.Challenge.rw_xm0610_01.row.prog,w,h₁:=h,nm:=nmT,nmInj:=ZoJ,nmOk:=Zqn,T:=TT0,fns:=ZqV,faddr:=ZaZ,caddr:=Zb1 }
theorem Zdv {K:Frag} {a:Addr} {p:Obj->Bool} (h:ZjE K a p=true):∃ o,K.lookup a=some o/\p o=true:=by
 unfold ZjE at h
 split at h
 ·rename_i e; exact ⟨_,e,h⟩
 ·exact nob h
theorem Zrq {K:Frag} (C:Checks K) {w:World} {h:Heap} {mg mb:Str->Option Value} (kin:K.In h) (tg:h.Ns mainGlobals mg) (tb:h.Ns builtinsNs mb) (hb:∀ x:Str,x ≠ "__name__"->mb x=bootBuiltins x) (lim:h.NoLimit) (sys:∃ o,h.get? sysModules=some o) :
  Facts (GG w h) K where
 base:=⟨sys,lim⟩
 kin:=kin
 mg:=by
  refine ⟨mg,tg,fun x v hx=>?_,fun b=>?_⟩
  ·refine Ze (Zdv C.glob) fun o ho hp=>?_
   have:=List.all_eq_true.mp hp (x,v) (Ze8 hx)
   rw [Zae tg (kin _ _ ho)] at this
   refine Ze (ZgL this) fun u hu hv=>⟨u,Option.some.inj hu,fun D h=>?_⟩
   refine Or.elim hv (fun hv=>Ze hv fun x hx e=>?_) fun hv=>Zik hv fun i t e e'=>?_
   ·rw [e]; exact Zpc (G:=GG w _) rfl rfl hx D h
   ·rw [e']; have e:v=_:=e; rw [e]; exact .int
  ·refine Ze (Zdv C.bi) fun o ho hp=>?_
   have:=List.all_eq_true.mp hp b (by cases b <;> simp [ZjZ])
   rw [Zae tg (kin _ _ ho)] at this
   simpa using this
 mb:=by
  refine ⟨mb,tb,fun b=>?_⟩
  have:=List.all_eq_true.mp Zp9 b (by cases b <;> simp [ZjZ])
  simp only [Bool.and_eq_true,beq_iff_eq] at this
  rw [hb _ fun e=>by rw [e] at this; simp at this]
  exact this.1
 cGet:=fun c=>by
  have:=List.all_eq_true.mp C.cls _ (Zgp c)
  simp only [ZhC,Bool.and_eq_true,beq_iff_eq] at this
  exact this.1.1.1.1
 cAtt:=fun c=>by
  have:=List.all_eq_true.mp C.cls _ (Zgp c)
  simp only [ZhC,Bool.and_eq_true,beq_iff_eq] at this
  exact this.1.1.1.2
 cSet:=fun c=>by
  have:=List.all_eq_true.mp C.cls _ (Zgp c)
  simp only [ZhC,Bool.and_eq_true,beq_iff_eq] at this
  exact this.1.1.2
 cDict:=fun c=>by
  have:=List.all_eq_true.mp C.cls _ (Zgp c)
  simp only [ZhC,Bool.and_eq_true,beq_iff_eq] at this
  exact this.1.2
 cOver:=fun c=>by
  have:=List.all_eq_true.mp C.cls _ (Zgp c)
  simp only [ZhC,Bool.and_eq_true,beq_iff_eq] at this
  exact this.2
 cNone:=fun c x hx hm=>by
  have h:=List.all_eq_true.mp C.non x (List.mem_range.mpr hx)
  simp only [Bool.and_eq_true] at h
  refine ZL h fun hN0_0 h3=>?_; obtain ⟨⟨h0,h1⟩,h2⟩:=hN0_0
  have key:ZcE (K) (Znr c) x=true:=by
   rcases Zod c with e | e | e | e <;> rw [e] <;> assumption
  unfold ZcE at key
  have hm':Zg4 Zk9 (Znr c) x=none:=hm
  rw [hm',Ze1] at key
  simp only [Option.isSome_none,Bool.false_or,Bool.and_eq_true,beq_iff_eq] at key
  exact ⟨key.1,not_true key.2⟩
 cMeth:=fun c x f hm=>by
  have:=List.all_eq_true.mp C.meth _ (Zfh hm)
  simp only [Zk8,Bool.and_eq_true,beq_iff_eq,Ze1] at this
  refine ZL this fun hN0_0 a6=>?_; obtain ⟨⟨⟨⟨a1,a2⟩,a3⟩,a4⟩,a5⟩:=hN0_0
  exact ⟨a1,a2,a3,not_true a4,a5,a6⟩
 cInit:=fun c f hm=>by
  have:=C.init
  simp only [Zc3,Bool.and_eq_true,beq_iff_eq] at this
  refine Zbp this fun hN0_0 hN0_1 d4=>?_; obtain ⟨⟨⟨⟨⟨a1,a2⟩,a3⟩,a4⟩,⟨⟨b1,b2⟩,b3⟩,b4⟩,⟨⟨c1,c2⟩,c3⟩,c4⟩:=hN0_0; obtain ⟨⟨d1,d2⟩,d3⟩:=hN0_1
  match c,hm with
  | 0,hm=>cases hm; exact ⟨a1,a2,a3,a4⟩
  | 1,hm=>cases hm; exact ⟨b1,b2,b3,b4⟩
  | 2,hm=>cases hm; exact ⟨c1,c2,c3,c4⟩
  | 3,hm=>cases hm; exact ⟨d1,d2,d3,d4⟩
  | _ + 4,hm=>exact nos hm
 fKeep:=fun f=>Zrr C f
theorem Zjs {K:Frag} {d:Value} (h:ZpP K d=true):∃ T o n,d=.ref T/\K.lookup T=some o/\o.data=.seq #[.none,.none] n:=by
 refine Ze (bnd (eq_of_beq h)) fun T hT h=>Ze (bnd h) fun o ho h=>ZU (Zoi h) fun n hn=>?_
 exact ⟨T,o,n,ZlO hT,ho,hn⟩
theorem ZiD {K:Frag} (C:Checks K) {f:Nat} {fd:Fn} (h:fnL[f]?=some fd):Zba K (ZaZ f) (Ze5 nmT fd)=true/\Zba K (ZaZ f) (fun d=>ZgF nmT K fd d&&Zko K f d.defaults)=true/\
  ZnH f fd=true:=by
 have lt:f < 49:=(List.getElem?_eq_some_iff.mp h).1
 have c:=List.all_eq_true.mp C.fns f (List.mem_range.mpr lt)
 unfold Zop at c
 rw [h] at c
 refine ZL (Bool.and_eq_true_iff.mp c) fun c c3=>?_
 refine ZL (Bool.and_eq_true_iff.mp c) fun c1 c2=>?_
 exact ⟨c1,c2,c3⟩
theorem ZqX {α:Type} {l:List α} (h:l.length=5):∃ a b c d e,l=[a,b,c,d,e] :=
 ZjT h fun a t e1 h=>ZjT h fun b t2 e2 h=>ZjT h fun c t3 e3 h=>ZjT h fun d t4 e4 h=>ZjT h fun e t5 e5 h=>⟨a,b,c,d,e,by rw [e1,e2,e3,e4,e5,List.length_eq_zero_iff.mp h]⟩
theorem fn0 {K:Frag} (C:Checks K) {w:World} {hp:Heap} (X:Facts (GG w hp) K):∃ o fdata body,FnOk (GG w hp) K 0 f0 o fdata body:=by
 refine Zbp (ZiD C (f:=0) rfl) fun q1 q2 _=>?_
 refine Zkz (G:=GG w hp) (f:=0) X q2 q1 fun d H hp vs ρ hρ P σ s us i r=>?_
 obtain ⟨Td,od,nd,hT,hoT,hdT⟩:=Zjs hp
 have hlen:=r.length
 refine ifs hρ (fun q e0=>?_) fun _ e0=>nos e0
 have q1:vs.length<=6:=q.1
 have q2:6<=vs.length + 1:=q.2
 refine Or.elim (Nat.lt_or_ge vs.length 6) (fun hq=>?_) fun hq=>?_
 ·have hq:vs.length=5:=Nat.le_antisymm (Nat.le_of_lt_succ hq) (Nat.le_of_succ_le_succ q2)
  obtain ⟨a,b,c,e,f,rfl⟩:=ZqX (hlen.trans hq)
  obtain ⟨a',b',c',e',f',rfl⟩:=ZqX hq
  exact ⟨[a',b',c',e',f',.none],[a,b,c,e,f,Value.none],e0,Zz.append r (Zz.one Rep.none),Zj6 H.po H.args H.ko H.va H.kw hT (i.base _ _ (X.kin _ _ hoT)) hdT a b c e f⟩
 ·have hq:vs.length=6:=Nat.le_antisymm q1 hq
  refine ZjT (hlen.trans hq) fun g t eu h=>?_
  obtain ⟨a,b,c,e,f,rfl⟩:=ZqX h
  refine ZjT hq fun g' t' ev h'=>?_
  obtain ⟨a',b',c',e',f',rfl⟩:=ZqX h'
  subst eu ev
  exact ⟨[g',a',b',c',e',f'],[g,a,b,c,e,f],e0,r,Zjm H.po H.args H.ko H.va H.kw hT (i.base _ _ (X.kin _ _ hoT)) hdT g a b c e f⟩
theorem ZpY {K:Frag} (C:Checks K) {w:World} {hp:Heap} (X:Facts (GG w hp) K):∀ f fd,(GG w hp).fns f=some fd->∃ o fdata body,FnOk (GG w hp) K f fd o fdata body
 | 0,fd,h=>by cases h; exact fn0 C X
 | n + 1,fd,h=>by
  refine Zbp (ZiD C h) fun q1 q2 q3=>?_
  exact Zoq (G:=GG w hp) X (List.isEmpty_iff.mp q3) q2 q1
theorem Zrm {K:Frag} (C:Checks K) {w:World} {hp:Heap} (X:Facts (GG w hp) K) (n:Nat) (A:Around) (R:RoomN n A):ZaJ (GG w hp) (Zhr TT0 ZqV n) A.units A.depth:=Zke X (ZpY C X) n A R
end
section
open PySem
set_option maxRecDepth 10000
theorem WE0 {T:Tab} {C:Cal}:∀ {v z1 Q σ},wpE T C (.k v) z1 Q σ=(Q v σ):=rfl
theorem WE1 {T:Tab} {C:Cal}:∀ {x ρ Q σ},wpE T C (.v x) ρ Q σ=(ZC (Zo ρ x) fun u=>Q u σ):=rfl
theorem WE3 {T:Tab} {C:Cal}:∀ {o l r ρ Q σ},wpE T C (.bin o l r) ρ Q σ=(wpE T C l ρ (fun a σ₁=>wpE T C r ρ (fun b σ₂=>ZC (ZdT o σ₂ a b) fun c=>Q c σ₂) σ₁) σ):=rfl
theorem WE5 {T:Tab} {C:Cal}:∀ {o l r ρ Q σ},wpE T C (.cmp o l r) ρ Q σ=(wpE T C l ρ (fun a σ₁=>wpE T C r ρ (fun b σ₂=>ZC (ZbN o σ₂ a b) fun c=>Q (.bool c) σ₂) σ₁) σ):=rfl
theorem WE6 {T:Tab} {C:Cal}:∀ {l o₁ m o₂ r ρ Q σ},wpE T C (.chain l o₁ m o₂ r) ρ Q σ=(wpE T C l ρ (fun a σ₁=>wpE T C m ρ (fun b σ₂=>ZC (ZbN o₁ σ₂ a b) fun c =>
   match c with
   | true=>wpE T C r ρ (fun d σ₃=>ZC (ZbN o₂ σ₃ b d) fun c₂=>Q (.bool c₂) σ₃) σ₂
   | false=>Q (.bool false) σ₂) σ₁) σ):=rfl
theorem WE7 {T:Tab} {C:Cal}:∀ {an l r ρ Q σ},wpE T C (.bool an l r) ρ Q σ=(wpE T C l ρ (fun a σ₁=>match a with
   | .bool b=>(b=an->wpE T C r ρ (fun c σ₂=>match c with | .bool c=>Q (.bool c) σ₂ | _=>False) σ₁)/\(b ≠ an->Q (.bool b) σ₁)
   | _=>False) σ):=rfl
theorem WE8 {T:Tab} {C:Cal}:∀ {e ρ Q σ},wpE T C (.not e) ρ Q σ=(wpE T C e ρ (fun a σ₁=>match a with | .bool b=>Q (.bool (!b)) σ₁ | _=>False) σ):=rfl
theorem WE9 {T:Tab} {C:Cal}:∀ {t a b ρ Q σ},wpE T C (.ite t a b) ρ Q σ=(wpE T C t ρ (fun c σ₁=>match c with
   | .bool x=>(x=true->wpE T C a ρ Q σ₁)/\(x=false->wpE T C b ρ Q σ₁)
   | _=>False) σ):=rfl
theorem Zsh {T:Tab} {C:Cal}:∀ {es ρ Q σ},wpE T C (.tup es) ρ Q σ=(Zcs T C es ρ (fun vs σ₁=>Q (.tup vs) σ₁) σ):=rfl
theorem Zsi {T:Tab} {C:Cal}:∀ {es ρ Q σ},wpE T C (.lst es) ρ Q σ=(Zcs T C es ρ (fun vs σ₁=>Q (.lst vs) σ₁) σ):=rfl
theorem ZrS {T:Tab} {C:Cal}:∀ {es ρ Q σ},wpE T C (.lstR es) ρ Q σ=(Zcs T C es ρ (fun vs σ₁=>ZeV true Q vs σ₁) σ):=rfl
theorem Zsj {T:Tab} {C:Cal}:∀ {byInt z1 Q σ},wpE T C (.dictR byInt) z1 Q σ=(∀ a,σ a=.none->Q (.ref a) (upd σ a (some (match byInt with | true=>.idict [] | false=>.dict [])))):=rfl
theorem Zsk {T:Tab} {C:Cal}:∀ {l n ρ Q σ},wpE T C (.repR l n) ρ Q σ=(wpE T C l ρ (fun a σ₁=>wpE T C n ρ (fun b σ₂=>ZC (asL a) fun l=>ZC (Zie l) fun x=>ZC (asI b) fun i=>0<=i/\i<=1000000/\ZeV true Q (List.replicate i.toNat x) σ₂) σ₁) σ):=rfl
theorem ZrT {T:Tab} {C:Cal}:∀ {e x ρ Q σ},wpE T C (.attr e x) ρ Q σ=(wpE T C e ρ (fun o σ₁=>ZC (ZdO T σ₁ o x) fun u=>Q u σ₁) σ):=rfl
theorem Zsl {T:Tab} {C:Cal}:∀ {e i ρ Q σ},wpE T C (.sub e i) ρ Q σ=(wpE T C e ρ (fun a σ₁=>wpE T C i ρ (fun b σ₂=>ZC (Zge σ₂ a b) fun c=>Q c σ₂) σ₁) σ):=rfl
theorem Zsm {T:Tab} {C:Cal}:∀ {e i ρ Q σ},wpE T C (.slc e i) ρ Q σ=(wpE T C e ρ (fun a σ₁=>wpE T C i ρ (fun b σ₂=>ZC (Zid a b) fun c=>Q c σ₂) σ₁) σ):=rfl
theorem ZqR {T:Tab} {C:Cal}:∀ {f as ρ Q σ},wpE T C (.call f as) ρ Q σ=(wpE T C f ρ (fun fv σ₁=>Zcs T C as ρ (fun vs σ₂=>Zeb T C fv vs Q σ₂) σ₁) σ):=rfl
theorem Zra {T:Tab} {C:Cal}:∀ {o x as ρ Q σ},wpE T C (.meth o x as) ρ Q σ=(wpE T C o ρ (fun ov σ₁=>ZC (Zao T σ₁ ov x) fun f=>Zcs T C as ρ (fun vs σ₂=>C f (ov::vs) Q σ₂) σ₁) σ):=rfl
theorem Zsn {T:Tab} {C:Cal}:∀ {o m as ρ Q σ},wpE T C (.lm o m as) ρ Q σ=(wpE T C o ρ (fun ov σ₁=>ZC (Zaa σ₁ ov) fun _=>Zcs T C as ρ (fun vs σ₂=>lmL m ov vs Q σ₂) σ₁) σ):=rfl
theorem ZrU {T:Tab} {C:Cal}:∀ {b as ρ Q σ},wpE T C (.bi b as) ρ Q σ=(Zcs T C as ρ (fun vs σ₁=>ZC (biL b σ₁ vs) fun c=>Q c σ₁) σ):=rfl
theorem Zso {T:Tab} {C:Cal}:∀ {e f ρ Q σ},wpE T C (.srt e f) ρ Q σ=(wpE T C e ρ (fun a σ₁=>wpE T C f ρ (fun fv σ₂=>match a,fv with
   | .lst xs,.fn g=>xs.length < 64/\ZgV C g xs (fun is σ₃=>is.Pairwise (·<=·)/\Q (.lst xs) σ₃) σ₂
   | _,_=>False) σ₁) σ):=rfl
theorem Zsp {T:Tab} {C:Cal}:∀ {tr fv elt t it c ρ Q σ},wpE T C (.comp tr fv elt t it c) ρ Q σ=(wpE T C it ρ (fun iv σ₁=>ZC (ZaD iv) fun xs=>ZC (ZcO fv ρ) fun ρc =>
   xs.length<=100000/\ZaH (fun x K σ₂=>ZC (Z0 t x ρc) fun ρx=>wpC T C c ρx (fun b σ₃ =>
    match b with
    | true=>wpE T C elt ρx (fun u σ₄=>K [u] σ₄) σ₃
    | false=>K [] σ₃) σ₂) xs [] (ZeV tr Q) σ₁) σ):=rfl
theorem ZrV {T:Tab} {C:Cal}:∀ {tr fv elt t it t₂ it₂ ρ Q σ},wpE T C (.comp2 tr fv elt t it t₂ it₂) ρ Q σ=(wpE T C it ρ (fun iv σ₁=>ZC (ZaD iv) fun xs=>ZC (ZcO fv ρ) fun ρc =>
   xs.length<=1000/\ZaH (fun x K σ₂=>ZC (Z0 t x ρc) fun ρx=>wpE T C it₂ ρx (fun jv σ₃=>ZC (ZaD jv) fun ys =>
    ys.length<=1000/\ZaH (fun y K₂ σ₄=>ZC (Z0 t₂ y ρx) fun ρy=>wpE T C elt ρy (fun u σ₅=>K₂ [u] σ₅) σ₄) ys [] K σ₃) σ₂) xs [] (ZeV tr Q) σ₁) σ):=rfl
theorem Zsq {T:Tab} {C:Cal}:∀ {e ρ Q σ},wpE T C (.frz e) ρ Q σ=(wpE T C e ρ (fun v σ₁=>Zgb T v Q σ₁) σ):=rfl
theorem WL0 {T:Tab} {C:Cal}:∀ {z1 Q σ},Zcs T C [] z1 Q σ=(Q [] σ):=rfl
theorem WL1 {T:Tab} {C:Cal}:∀ {e es ρ Q σ},Zcs T C (e::es) ρ Q σ=(wpE T C e ρ (fun v σ₁=>Zcs T C es ρ (fun vs σ₂=>Q (v::vs) σ₂) σ₁) σ):=rfl
theorem WC0 {T:Tab} {C:Cal}:∀ {z1 Q σ},wpC T C .none z1 Q σ=(Q true σ):=rfl
theorem WC1 {T:Tab} {C:Cal}:∀ {e ρ Q σ},wpC T C (some e) ρ Q σ=(wpE T C e ρ (fun v σ₁=>match v with | .bool b=>Q b σ₁ | _=>False) σ):=rfl
theorem WS0 {T:Tab} {C:Cal}:∀ {e ρ Q σ},wpS T C (.expr e) ρ Q σ=(wpE T C e ρ (fun _ σ₁=>Q .next ρ σ₁) σ):=rfl
theorem WS1 {T:Tab} {C:Cal}:∀ {t e ρ Q σ},wpS T C (.asg t e) ρ Q σ=(wpE T C e ρ (fun v σ₁=>ZC (Z0 t v ρ) fun ρ₁=>Q .next ρ₁ σ₁) σ):=rfl
theorem WS2 {T:Tab} {C:Cal}:∀ {o x e ρ Q σ},wpS T C (.asgA o x e) ρ Q σ=(wpE T C e ρ (fun v σ₁=>wpE T C o ρ (fun ov σ₂=>match ov with
   | .ref a=>match σ₂ a with
    | some (.inst c d)=>match σ₂ d with
     | some (.ns fs)=>T.meth c x=.none/\fs.length<=1000/\Q .next ρ (upd σ₂ d (some (.ns (Zm fs x v))))
     | _=>False
    | _=>False
   | _=>False) σ₁) σ):=rfl
theorem WS3 {T:Tab} {C:Cal}:∀ {o i e ρ Q σ},wpS T C (.asgI o i e) ρ Q σ=(wpE T C e ρ (fun v σ₁=>wpE T C o ρ (fun ov σ₂=>wpE T C i ρ (fun iv σ₃=>match ov with
   | .ref a=>match σ₃ a with
    | some (.list vs)=>match iv with
     | .int k=>0<=k/\k < vs.length/\k<=1000000/\Q .next ρ (upd σ₃ a (some (.list (vs.set k.toNat v))))
     | _=>False
    | some (.dict es)=>ZaL iv=true/\es.length<=1000000/\Q .next ρ (upd σ₃ a (some (.dict (Zh6 iv v es))))
    | some (.idict es)=>match iv with
     | .int k=>es.length<=1000000/\Za3 k es=.none/\Q .next ρ (upd σ₃ a (some (.idict (Zhu k v es))))
     | _=>False
    | _=>False
   | _=>False) σ₂) σ₁) σ):=rfl
theorem WS5 {T:Tab} {C:Cal}:∀ {e ρ Q σ},wpS T C (.ret e) ρ Q σ=(wpE T C e ρ (fun v σ₁=>Q (.ret v) ρ σ₁) σ):=rfl
theorem WS6 {T:Tab} {C:Cal}:∀ {t a b ρ Q σ},wpS T C (.ifs t a b) ρ Q σ=(wpB T C t ρ (fun c σ₁=>(c=true->ZJ T C a ρ Q σ₁)/\(c=false->ZJ T C b ρ Q σ₁)) σ):=rfl
theorem WS7 {T:Tab} {C:Cal}:∀ {t b ρ Q σ},wpS T C (.whl t b) ρ Q σ=(∃ n,Zpo (fun ρ Q σ=>wpB T C t ρ Q σ) (fun ρ Q σ=>ZJ T C b ρ Q σ) n ρ Q σ):=rfl
theorem WS8 {T:Tab} {C:Cal}:∀ {t e b ρ Q σ},wpS T C (.for_ t e b) ρ Q σ=(wpE T C e ρ (fun v σ₁=>ZC (ZaD v) fun xs=>Ze6 t (fun ρ Q σ=>ZJ T C b ρ Q σ) xs ρ Q σ₁) σ):=rfl
theorem WT0 {T:Tab} {C:Cal}:∀ {ρ Q σ},ZJ T C [] ρ Q σ=(Q .next ρ σ):=rfl
theorem WT1 {T:Tab} {C:Cal}:∀ {s r ρ Q σ},ZJ T C (s::r) ρ Q σ=(wpS T C s ρ (fun fl ρ₁ σ₁=>match fl with
   | .next=>ZJ T C r ρ₁ Q σ₁
   | .ret v=>Q (.ret v) ρ₁ σ₁) σ):=rfl
theorem IN {α:Type} {o:Option α} {a:α} {F:α->Prop} (h:o=some a) (k:F a):ZC o F:=by rw [h]; exact k
theorem ZcR {c:Bool} {X Y:Prop} (h:c=true) (k:X):(c=true->X)/\(c=false->Y):=⟨fun _=>k,(fun z=>by rw [h] at z; exact ZqZ z)⟩
theorem Zbg {c:Bool} {X Y:Prop} (h:c=false) (k:Y):(c=true->X)/\(c=false->Y):=⟨(fun z=>by rw [h] at z; exact nob z),fun _=>k⟩
theorem ZbL {b an:Bool} {X Y:Prop} (h:b=an) (k:X):(b=an->X)/\(b ≠ an->Y):=⟨fun _=>k,fun z=>absurd h z⟩
theorem ZdP {b an:Bool} {X Y:Prop} (h:b=!an) (k:Y):(b=an->X)/\(b ≠ an->Y):=⟨(fun z=>by rw [h] at z; cases an <;> cases z),fun _=>k⟩
theorem Zqa (i:Int):Zak (.int i)=true:=rfl
open Classical in
theorem ZdU {σ:St} {a b:LV} (ha:Zak a=true) (hb:Zak b=true) {c:Bool} (h:c=true ↔ a=b):eqL σ a b=some c:=by
 have e:asF a=none:=by cases a <;> first | exact nob ha | rfl
 unfold eqL
 rw [e]
 show eqK σ a b=_
 unfold eqK
 rw [ha,hb]
 refine (if_pos rfl).trans (congrArg some ?_)
 cases c with
 | true=>exact decide_eq_true (h.mp rfl)
 | false=>exact decide_eq_false fun e=>nob (h.mpr e)
theorem Zns {σ:St} {i j:Nat}:ZbN .Eq σ (.w i) (.w j)=some (Nat.beq i j):=by
 show eqL σ (.w i) (.w j)=_
 refine ZdU rfl rfl ⟨fun h=>by rw [Nat.eq_of_beq_eq_true h],fun h=>?_⟩
 injection h with h
 subst h
 exact Nat.beq_refl i
theorem ZlR {σ:St} {i j:Int}:ZbN .Eq σ (.int i) (.int j)=some (decide (i=j)):=by
 show eqL σ (.int i) (.int j)=_
 refine ZdU rfl rfl ⟨fun h=>by rw [of_decide_eq_true h],fun h=>?_⟩
 injection h with h
 exact decide_eq_true h
theorem c_k {σ:St} {a b:LV} (ha:Zak a=true) (hb:Zak b=true) {c:Bool} (h:c=true ↔ a=b):ZbN .Eq σ a b=some c:=ZdU ha hb h
theorem Zrk {σ:St} {a b:LV} (ha:Zak a=true) (hb:Zak b=true) {c:Bool} (h:c=true ↔ a ≠ b):ZbN .NotEq σ a b=some c:=by
 have:=ZdU (σ:=σ) (c:=!c) ha hb (by
  cases c with
  | true=>simp only [Bool.not_true,Bool.false_eq_true,false_iff]; exact h.mp rfl
  | false =>
   simp only [Bool.not_false,true_iff]
   exact Classical.byContradiction fun z=>by have:=h.mpr z; exact nob this)
 show (eqL σ a b).map (!·)=some c
 rw [this]; simp
open Classical in
theorem Zsv {σ:St} {a:LV} {vs:List LV} (ha:Zak a=true) (hv:ZA vs=true) {c:Bool} (h:c=true ↔ a ∈ vs):ZbN .In σ a (.tup vs)=some c:=by
 show inL σ a (.tup vs)=some c
 refine Zl4 ?_
 show (if (Zak a&&ZA vs)=true then some (decide (a ∈ vs)) else none)=_
 rw [ha,hv]
 refine congrArg some ?_
 cases c with
 | true=>exact decide_eq_true (h.mp rfl)
 | false=>exact decide_eq_false fun e=>by have:=h.mpr e; exact nob this
theorem ZhA {σ:St} {i:Nat} {js:List Nat}:ZbN .In σ (.w i) (.tup (js.map .w))=some (js.contains i):=by
 have hk:∀ js:List Nat,Zam (js.map .w)=true/\Z8 (js.map .w)=0:=fun js=>by
  induction js with
  | nil=>exact ⟨rfl,rfl⟩
  | cons j js ih=>exact ⟨by rw [List.map_cons]; rw [Zcy]; rw [ih.1]; rfl,by rw [List.map_cons]; rw [Zfw]; rw [ih.2]; rfl⟩
 refine Zsv rfl (by unfold ZA; rw [(hk js).1,(hk js).2]; rfl) ?_
 rw [List.contains_iff_mem,List.mem_map]
 exact ⟨fun h=>⟨i,h,rfl⟩,fun hQ0=>Ze hQ0 fun j hj e=>by cases e; exact hj⟩
theorem Zpf {σ:St} {i j:Int}:ZdT .Add σ (.int i) (.int j)=some (.int (i + j)):=rfl
theorem Zrc {σ:St} {xs ys:List LV}:ZdT .Add σ (.lst xs) (.lst ys)=if xs.length + ys.length<=1000000 then some (.lst (xs++ys)) else none:=rfl
theorem Zst {σ:St} {xs ys:List LV}:ZdT .Add σ (.tup xs) (.tup ys)=if xs.length + ys.length<=1000000 then some (.tup (xs++ys)) else none:=rfl
theorem ZrZ {σ:St} {xs ys:List Int}:ZdT .Sub σ (.fset xs) (.fset ys)=some (.fset (xs.filter fun x=>!ys.contains x)):=rfl
theorem Zrd {σ:St} {xs ys:List Int}:ZdT .BitOr σ (.fset xs) (.fset ys)=some (.fset (xs++ys.filter fun y=>!xs.contains y)):=rfl
theorem ZpC {σ:St} {i j:Int}:ZdT .Mult σ (.int i) (.int j)=if i.natAbs < 2 ^ 62\/j.natAbs < 2 ^ 62 then some (.int (i * j)) else none:=rfl
theorem ZrY {σ:St} {i j:Int}:ZdT .FloorDiv σ (.int i) (.int j)=if 0 < j/\j < 2 ^ 30 then some (.int (i.fdiv j)) else none:=rfl
theorem Zpg {σ:St} {i j:Int}:ZdT .Mod σ (.int i) (.int j)=if 0 < j then some (.int (i.fmod j)) else none:=rfl
theorem Zsu {σ:St}:ZdT .Pow σ (.int 10) (.int 18)=some (.int (10 ^ 18)):=rfl
theorem Zph {σ:St} {i j:Int}:ZbN .Lt σ (.int i) (.int j)=some (decide (i < j)):=rfl
theorem Zsw {σ:St} {i j:Int}:ZbN .LtE σ (.int i) (.int j)=some (decide (i<=j)):=rfl
theorem Zr1 {σ:St} {i j:Int}:ZbN .Gt σ (.int i) (.int j)=some (decide (j < i)):=rfl
theorem Zri {σ:St} {i j:Int}:ZbN .GtE σ (.int i) (.int j)=some (decide (j<=i)):=rfl
theorem Zoe {σ:St} {a:LV}:ZbN .Is σ a .none=some (isNone a):=rfl
theorem Zma {σ:St} {a:LV}:ZbN .IsNot σ a .none=some (!isNone a):=rfl
theorem s_l {σ:St} {vs:List LV} {i:Int}:Zge σ (.lst vs) (.int i)=Zeu vs i:=rfl
theorem s_r {σ:St} {r:Addr} {vs:List LV} {i:Int} (h:σ r=some (.list vs)):Zge σ (.ref r) (.int i)=Zeu vs i:=by show sel (Zaa σ (.ref r)) _ _=_; rw [Zek h]; rfl
theorem l_t {σ:St} {xs:List LV}:biL .len_ σ [.tup xs]=if xs.length<=1000000 then some (.int xs.length) else none:=rfl
theorem l_l {σ:St} {xs:List LV}:biL .len_ σ [.lst xs]=if xs.length<=1000000 then some (.int xs.length) else none:=rfl
theorem l_r {σ:St} {r:Addr} {xs:List LV} (h:σ r=some (.list xs)):biL .len_ σ [.ref r]=if xs.length<=1000000 then some (.int xs.length) else none:=by show (Zaa σ (.ref r)).bind _=_; rw [Zek h]; rfl
theorem Zrx {σ:St} {n:Int}:biL .range_ σ [.int n]=if 0<=n/\n<=1000000 then some (.rng n.toNat) else none:=rfl
theorem Zrv {σ:St} {xs:List LV}:biL .list_ σ [.lst xs]=if xs.length<=1000000 then some (.lst xs) else none:=rfl
theorem Zqd {σ:St} {xs:List LV}:biL .tuple_ σ [.tup xs]=some (.tup xs):=rfl
theorem ZsB {σ:St}:biL .frozenset_ σ []=some (.fset []):=rfl
theorem Zrw {σ:St} {i j:Int}:biL .max_ σ [.int i,.int j]=some (.int (max i j)):=rfl
theorem Zru {σ:St} {b:Bool}:biL .int_ σ [.bool b]=some (.int (if b then 1 else 0)):=rfl
theorem o_l {σ:St} {vs:List LV}:Zaa σ (.lst vs)=some vs:=rfl
theorem o_r {σ:St} {r:Addr} {vs:List LV} (h:σ r=some (.list vs)):Zaa σ (.ref r)=some vs:=by unfold Zaa; dsimp only; rw [h]
noncomputable def Zsr (a b:LV):Option LV:=alt (two asI a b fun i j=>some (.int (i + j))) (alt (two asT a b fun xs ys=>if Nat.ble (xs.length + ys.length) 1000000 then some (.tup (xs++ys)) else none)
 (two asL a b fun xs ys=>if Nat.ble (xs.length + ys.length) 1000000 then some (.lst (xs++ys)) else none))
noncomputable def Zr0 (o:Operator) (a b:LV):Option LV:=match o with
 | .Add=>Zsr a b
 | .Sub=>two asI a b fun i j=>some (.int (i - j))
 | _=>none
theorem ZnE {α:Type} {b:Bool} {x c:α} (h:(if b=true then some x else none)=some c):b=true/\x=c:=by
 cases b with
 | true=>exact ⟨rfl,Option.some.inj h⟩
 | false=>exact nos h
theorem Zn6 {o:Operator} {a b c:LV} {σ:St} (h:Zr0 o a b=some c):ZdT o σ a b=some c:=by
 cases o with
 | Add =>
  refine Or.elim (ZbA h) (fun h=>?_) fun h=>?_
  ·refine ZaM (Za6 h) fun i j x y h=>?_
   cases ZP x; cases ZP y
   exact h
  refine Or.elim (ZbA h) (fun h=>?_) fun h=>?_
  ·refine ZaM (Za6 h) fun i j x y h=>?_
   cases Zb7 x; cases Zb7 y
   refine ZL (ZnE h) fun q eQ0_1=>?_; subst eQ0_1
   exact Zst.trans (if_pos (Nat.le_of_ble_eq_true q))
  ·refine ZaM (Za6 h) fun i j x y h=>?_
   cases ZdB x; cases ZdB y
   refine ZL (ZnE h) fun q eQ0_1=>?_; subst eQ0_1
   exact Zrc.trans (if_pos (Nat.le_of_ble_eq_true q))
 | Sub =>
  refine ZaM (Za6 h) fun i j x y h=>?_
  cases ZP x; cases ZP y
  exact h
 | _=>exact nos h
noncomputable def Zo2 (a:LV):Option Bool:=match a with
 | .none=>some true
 | .tup _=>some false
 | .int _=>some false
 | .lst _=>some false
 | .ref _=>some false
 | _=>none
theorem Zjd {a:LV} {c:Bool} (h:Zo2 a=some c):c=isNone a:=by cases a <;> first | exact nos h | exact (Option.some.inj h).symm
noncomputable def ZqU (o:CmpOp) (a b:LV):Option Bool:=match o with
 | .Eq=>alt (two asW a b fun i j=>some (Nat.beq i j)) (two asI a b fun i j=>some (decide (i=j)))
 | .Lt=>two asI a b fun i j=>some (decide (i < j))
 | .Is=>nul b (Zo2 a)
 | .IsNot=>nul b ((Zo2 a).bind fun c=>some !c)
 | _=>none
theorem Zof {o:CmpOp} {a b:LV} {c:Bool} {σ:St} (h:ZqU o a b=some c):ZbN o σ a b=some c:=by
 cases o with
 | Eq =>
  refine Or.elim (ZbA h) (fun h=>?_) fun h=>?_
  ·refine ZaM (Za6 h) fun i j x y h=>?_
   cases Zj2 x; cases Zj2 y; cases h
   exact Zns
  ·refine ZaM (Za6 h) fun i j x y h=>?_
   cases ZP x; cases ZP y; cases h
   exact ZlR
 | Lt =>
  refine ZaM (Za6 h) fun i j x y h=>?_
  cases ZP x; cases ZP y; cases h
  exact Zph
 | Is =>
  refine ZL (ZiX h) fun eQ0_0 h=>?_; subst eQ0_0
  cases Zjd h
  exact Zoe
 | IsNot =>
  refine ZL (ZiX h) fun eQ0_0 h=>?_; subst eQ0_0
  refine Ze (bnd h) fun x y h=>?_
  cases Zjd y; cases h
  exact Zma
 | _=>exact nos h
noncomputable def Zpm (a b:LV):Option LV:=(alt (asT a) (asL a)).bind fun vs=>(asI b).bind fun i=>Zeu vs i
theorem ZlE {a b c:LV} {σ:St} (h:Zpm a b=some c):Zge σ a b=some c:=by
 refine Ze (bnd h) fun vs x h=>?_
 refine Ze (bnd h) fun i y h=>?_
 cases ZP y
 refine Or.elim (ZbA x) (fun x=>?_) fun x=>?_
 ·cases Zb7 x; exact h
 ·cases ZdB x; exact h
mutual
noncomputable def evp (T:Tab) (ρ:Env):LE->Option LV
 | .k v=>some v
 | .v x=>Zo ρ x
 | .g x=>T.glob x
 | .neg i=>some (.int (-(i:Int)))
 | .bin o l r=>(evp T ρ l).bind fun a=>(evp T ρ r).bind fun b=>Zr0 o a b
 | .cmp o l r=>(evp T ρ l).bind fun a=>(evp T ρ r).bind fun b=>(ZqU o a b).bind fun c=>some (.bool c)
 | .bool an l r=>(evp T ρ l).bind fun a=>(asB a).bind fun b=>if b == an then ((evp T ρ r).bind fun c=>(asB c).bind fun c=>some (.bool c)) else some (.bool b)
 | .not e=>(evp T ρ e).bind fun a=>(asB a).bind fun b=>some (.bool (!b))
 | .ite t a b=>(evp T ρ t).bind fun c=>(asB c).bind fun c=>if c then evp T ρ a else evp T ρ b
 | .tup es=>(ZlS T ρ es).bind fun vs=>some (.tup vs)
 | .lst es=>(ZlS T ρ es).bind fun vs=>some (.lst vs)
 | .sub e i=>(evp T ρ e).bind fun a=>(evp T ρ i).bind fun b=>Zpm a b
 | .slc e i=>(evp T ρ e).bind fun a=>(evp T ρ i).bind fun b=>Zid a b
 | _=>none
noncomputable def ZlS (T:Tab) (ρ:Env):List LE->Option (List LV)
 | []=>some []
 | e::es=>(evp T ρ e).bind fun v=>(ZlS T ρ es).bind fun vs=>some (v::vs)
end
mutual
theorem ZV {T:Tab} {C:Cal} {ρ:Env} {σ:St}:∀ (e:LE) {v:LV} {Q:LV->St->Prop},evp T ρ e=some v->Q v σ->wpE T C e ρ Q σ
 | .k u,v,Q,h,q=>by cases Option.some.inj h; exact q
 | .v x,v,Q,h,q=>IN h q
 | .g x,v,Q,h,q=>IN h q
 | .neg i,v,Q,h,q=>by cases Option.some.inj h; exact q
 | .bin o l r,v,Q,h,q=>by
  refine Ze (bnd h) fun a ha h=>?_
  refine Ze (bnd h) fun b hb h=>?_
  exact ZV l ha (ZV r hb (IN (Zn6 h) q))
 | .cmp o l r,v,Q,h,q=>by
  refine Ze (bnd h) fun a ha h=>?_
  refine Ze (bnd h) fun b hb h=>?_
  refine Ze (bnd h) fun c hc h=>?_
  cases Option.some.inj h
  exact ZV l ha (ZV r hb (IN (Zof hc) q))
 | .bool an l r,v,Q,h,q=>by
  refine Ze (bnd h) fun a ha h=>?_
  refine Ze (bnd h) fun b hb h2=>?_
  obtain rfl:=ZeZ hb
  refine ZV l ha ?_
  by_cases e:(b == an)=true
  ·rw [if_pos e] at h2
   refine Ze (bnd h2) fun c hc h2=>?_
   refine Ze (bnd h2) fun d hd h2=>?_
   obtain rfl:=ZeZ hd
   obtain rfl:=Option.some.inj h2
   exact ZbL (eq_of_beq e) (ZV r hc q)
  ·rw [if_neg e] at h2
   obtain rfl:=Option.some.inj h2
   exact ZdP (by cases b <;> cases an <;> first | rfl | exact absurd rfl e) q
 | .not e,v,Q,h,q=>by
  refine Ze (bnd h) fun a ha h=>?_
  refine Ze (bnd h) fun b hb h=>?_
  cases ZeZ hb
  cases Option.some.inj h
  exact ZV e ha q
 | .ite t a b,v,Q,h,q=>by
  refine Ze (bnd h) fun c hc h=>?_
  refine Ze (bnd h) fun d hd h=>?_
  cases ZeZ hd
  refine ZV t hc ?_
  cases d with
  | true=>exact ZcR rfl (ZV a h q)
  | false=>exact Zbg rfl (ZV b h q)
 | .tup es,v,Q,h,q=>by
  refine Ze (bnd h) fun vs hv h=>?_
  cases Option.some.inj h
  exact ZcN es hv q
 | .lst es,v,Q,h,q=>by
  refine Ze (bnd h) fun vs hv h=>?_
  cases Option.some.inj h
  exact ZcN es hv q
 | .sub e i,v,Q,h,q=>by
  refine Ze (bnd h) fun a ha h=>?_
  refine Ze (bnd h) fun b hb h=>?_
  exact ZV e ha (ZV i hb (IN (ZlE h) q))
 | .slc e i,v,Q,h,q=>by
  refine Ze (bnd h) fun a ha h=>?_
  refine Ze (bnd h) fun b hb h=>?_
  exact ZV e ha (ZV i hb (IN h q))
 | .chain ..,v,Q,h,q=>nos h
 | .lstR ..,v,Q,h,q=>nos h
 | .dictR ..,v,Q,h,q=>nos h
 | .repR ..,v,Q,h,q=>nos h
 | .attr ..,v,Q,h,q=>nos h
 | .call ..,v,Q,h,q=>nos h
 | .meth ..,v,Q,h,q=>nos h
 | .lm ..,v,Q,h,q=>nos h
 | .bi ..,v,Q,h,q=>nos h
 | .srt ..,v,Q,h,q=>nos h
 | .comp ..,v,Q,h,q=>nos h
 | .comp2 ..,v,Q,h,q=>nos h
 | .frz ..,v,Q,h,q=>nos h
 | .stuck,v,Q,h,q=>nos h
theorem ZcN {T:Tab} {C:Cal} {ρ:Env} {σ:St}:∀ (es:List LE) {vs:List LV} {Q:List LV->St->Prop},ZlS T ρ es=some vs->Q vs σ->Zcs T C es ρ Q σ
 | [],vs,Q,h,q=>by cases Option.some.inj h; exact q
 | e::es,vs,Q,h,q=>by
  refine Ze (bnd h) fun v hv h=>?_
  refine Ze (bnd h) fun vs' hvs h=>?_
  cases Option.some.inj h
  exact ZV e hv (ZcN es hvs q)
end
section
variable {T:Tab} {C:Cal} {ρ ρ₁:Env} {σ:St}
theorem Zh {Q:Fl->Env->St->Prop} (h:Q .next ρ σ):ZJ T C [] ρ Q σ:=by rw [WT0]; exact h
theorem Z7 {t:Tg} {e:LE} {r:List LS} {v:LV} {Q:Fl->Env->St->Prop} (h1:evp T ρ e=some v) (h2:Z0 t v ρ=some ρ₁) (h:ZJ T C r ρ₁ Q σ):ZJ T C (.asg t e::r) ρ Q σ:=by
 rw [WT1,WS1]
 exact ZV e h1 (IN h2 h)
theorem Zk {t:Tg} {e:LE} {r:List LS} {Q:Fl->Env->St->Prop} (h:wpE T C e ρ (fun v σ₁=>ZC (Z0 t v ρ) fun ρ₁=>ZJ T C r ρ₁ Q σ₁) σ):ZJ T C (.asg t e::r) ρ Q σ:=by
 rw [WT1,WS1]
 exact h
theorem ZaR {e:LE} {r:List LS} {Q:Fl->Env->St->Prop} (h:wpE T C e ρ (fun _ σ₁=>ZJ T C r ρ Q σ₁) σ):ZJ T C (.expr e::r) ρ Q σ:=by
 rw [WT1,WS0]
 exact h
theorem ZE {e:LE} {r:List LS} {v:LV} {Q:Fl->Env->St->Prop} (h1:evp T ρ e=some v) (h:Q (.ret v) ρ σ):ZJ T C (.ret e::r) ρ Q σ:=by
 rw [WT1,WS5]
 exact ZV e h1 h
theorem ZI {e:LE} {r:List LS} {Q:Fl->Env->St->Prop} (h:wpE T C e ρ (fun v σ₁=>Q (.ret v) ρ σ₁) σ):ZJ T C (.ret e::r) ρ Q σ:=by
 rw [WT1,WS5]
 exact h
noncomputable abbrev aft (T:Tab) (C:Cal) (r:List LS) (Q:Fl->Env->St->Prop):Fl->Env->St->Prop:=fun fl ρ₁ σ₁=>match fl with
 | .next=>ZJ T C r ρ₁ Q σ₁
 | .ret v=>Q (.ret v) ρ₁ σ₁
theorem Zb6 {t:LE} {a b r:List LS} {Q:Fl->Env->St->Prop} (h:wpB T C t ρ (fun c σ₁=>(c=true->ZJ T C a ρ (aft T C r Q) σ₁)/\(c=false->ZJ T C b ρ (aft T C r Q) σ₁)) σ):ZJ T C (.ifs t a b::r) ρ Q σ:=by
 rw [WT1,WS6]
 exact h
theorem Za7 {t:LE} {a b r:List LS} {Q:Fl->Env->St->Prop} (h1:evp T ρ t=some (.bool true)) (h:ZJ T C a ρ (aft T C r Q) σ):ZJ T C (.ifs t a b::r) ρ Q σ:=by
 rw [WT1,WS6]
 exact ZV t h1 (ZcR rfl h)
theorem Zd4 {t:LE} {a b r:List LS} {Q:Fl->Env->St->Prop} (h1:evp T ρ t=some (.bool false)) (h:ZJ T C b ρ (aft T C r Q) σ):ZJ T C (.ifs t a b::r) ρ Q σ:=by
 rw [WT1,WS6]
 exact ZV t h1 (Zbg rfl h)
theorem Zgi {t:Tg} {e:LE} {b r:List LS} {xs:List LV} {v:LV} {Q:Fl->Env->St->Prop} (h1:evp T ρ e=some v) (h2:ZaD v=some xs) (h:Ze6 t (fun ρ Q σ=>ZJ T C b ρ Q σ) xs ρ (aft T C r Q) σ):ZJ T C (.for_ t e b::r) ρ Q σ:=by
 rw [WT1,WS8]
 exact ZV e h1 (IN h2 h)
theorem ZO {t:Tg} {e:LE} {b r:List LS} {Q:Fl->Env->St->Prop} (h:wpE T C e ρ (fun v σ₁=>ZC (ZaD v) fun xs=>Ze6 t (fun ρ Q σ=>ZJ T C b ρ Q σ) xs ρ (aft T C r Q) σ₁) σ):ZJ T C (.for_ t e b::r) ρ Q σ:=by
 rw [WT1,WS8]
 exact h
theorem E_p {e:LE} {v:LV} {Q:LV->St->Prop} (h:evp T ρ e=some v) (k:Q v σ):wpE T C e ρ Q σ:=ZV e h k
theorem ZaA {f:LE} {as:List LE} {g:Nat} {vs:List LV} {Q:LV->St->Prop} (h1:evp T ρ f=some (.fn g)) (h2:ZlS T ρ as=some vs) (h:C g vs Q σ):wpE T C (.call f as) ρ Q σ:=by
 rw [ZqR]
 exact ZV f h1 (ZcN as h2 h)
theorem ZD {f:LE} {as:List LE} {g:Nat} {Q:LV->St->Prop} (h1:evp T ρ f=some (.fn g)) (h:Zcs T C as ρ (fun vs σ₁=>C g vs Q σ₁) σ):wpE T C (.call f as) ρ Q σ:=by
 rw [ZqR]
 exact ZV f h1 h
theorem ZbZ {o:LE} {x f:Nat} {as:List LE} {u:LV} {vs:List LV} {Q:LV->St->Prop} (h1:evp T ρ o=some u) (hm:Zao T σ u x=some f) (h2:ZlS T ρ as=some vs) (h:C f (u::vs) Q σ):wpE T C (.meth o x as) ρ Q σ:=by
 rw [Zra]
 exact ZV o h1 (IN hm (ZcN as h2 h))
theorem ZaT {o:LE} {x f:Nat} {as:List LE} {u:LV} {Q:LV->St->Prop} (h1:evp T ρ o=some u) (hm:Zao T σ u x=some f) (h:Zcs T C as ρ (fun vs σ₁=>C f (u::vs) Q σ₁) σ):wpE T C (.meth o x as) ρ Q σ:=by
 rw [Zra]
 exact ZV o h1 (IN hm h)
theorem ZlV {b:Bi} {as:List LE} {vs:List LV} {v:LV} {Q:LV->St->Prop} (h1:ZlS T ρ as=some vs) (h2:biL b σ vs=some v) (h:Q v σ):wpE T C (.bi b as) ρ Q σ:=by
 rw [ZrU]
 exact ZcN as h1 (IN h2 h)
theorem Zt {e:LE} {x:Nat} {u v:LV} {Q:LV->St->Prop} (h1:evp T ρ e=some u) (h2:ZdO T σ u x=some v) (h:Q v σ):wpE T C (.attr e x) ρ Q σ:=by
 rw [ZrT]
 exact ZV e h1 (IN h2 h)
theorem Zd1 {e:LE} {x:Nat} {Q:LV->St->Prop} (h:wpE T C e ρ (fun o σ₁=>ZC (ZdO T σ₁ o x) fun u=>Q u σ₁) σ):wpE T C (.attr e x) ρ Q σ:=by
 rw [ZrT]; exact h
theorem ZaN {o:Operator} {l r:LE} {Q:LV->St->Prop} (h:wpE T C l ρ (fun a σ₁=>wpE T C r ρ (fun b σ₂=>ZC (ZdT o σ₂ a b) fun c=>Q c σ₂) σ₁) σ):wpE T C (.bin o l r) ρ Q σ:=by rw [WE3]; exact h
theorem ZG {e i:LE} {Q:LV->St->Prop} (h:wpE T C e ρ (fun a σ₁=>wpE T C i ρ (fun b σ₂=>ZC (Zge σ₂ a b) fun c=>Q c σ₂) σ₁) σ):wpE T C (.sub e i) ρ Q σ:=by rw [Zsl]; exact h
theorem Zfq {e i:LE} {Q:LV->St->Prop} (h:wpE T C e ρ (fun a σ₁=>wpE T C i ρ (fun b σ₂=>ZC (Zid a b) fun c=>Q c σ₂) σ₁) σ):wpE T C (.slc e i) ρ Q σ:=by rw [Zsm]; exact h
theorem ZF {o:CmpOp} {l r:LE} {Q:LV->St->Prop} (h:wpE T C l ρ (fun a σ₁=>wpE T C r ρ (fun b σ₂=>ZC (ZbN o σ₂ a b) fun c=>Q (.bool c) σ₂) σ₁) σ):wpE T C (.cmp o l r) ρ Q σ:=by rw [WE5]; exact h
theorem Zax {es:List LE} {Q:LV->St->Prop} (h:Zcs T C es ρ (fun vs σ₁=>Q (.tup vs) σ₁) σ):wpE T C (.tup es) ρ Q σ:=by rw [Zsh]; exact h
theorem Zq5 {es:List LE} {Q:LV->St->Prop} (h:Zcs T C es ρ (fun vs σ₁=>Q (.lst vs) σ₁) σ):wpE T C (.lst es) ρ Q σ:=by rw [Zsi]; exact h
theorem Zbq {es:List LE} {vs:List LV} {Q:LV->St->Prop} (h1:ZlS T ρ es=some vs) (h:ZeV true Q vs σ):wpE T C (.lstR es) ρ Q σ:=by rw [ZrS]; exact ZcN es h1 h
theorem Zj {Q:List LV->St->Prop} (h:Q [] σ):Zcs T C [] ρ Q σ:=by rw [WL0]; exact h
theorem Za {e:LE} {es:List LE} {Q:List LV->St->Prop} (h:wpE T C e ρ (fun v σ₁=>Zcs T C es ρ (fun vs σ₂=>Q (v::vs) σ₂) σ₁) σ):Zcs T C (e::es) ρ Q σ:=by rw [WL1]; exact h
theorem Zq6 {e:LE} {Q:LV->St->Prop} (h:wpE T C e ρ (fun a σ₁=>match a with | .bool b=>Q (.bool (!b)) σ₁ | _=>False) σ):wpE T C (.not e) ρ Q σ:=by rw [WE8]; exact h
theorem ZaP {an:Bool} {l r:LE} {Q:LV->St->Prop} (h:wpE T C l ρ (fun a σ₁=>match a with
   | .bool b=>(b=an->wpE T C r ρ (fun c σ₂=>match c with | .bool c=>Q (.bool c) σ₂ | _=>False) σ₁)/\(b ≠ an->Q (.bool b) σ₁)
   | _=>False) σ):wpE T C (.bool an l r) ρ Q σ:=by rw [WE7]; exact h
theorem Zdl {t a b:LE} {Q:LV->St->Prop} (h:wpE T C t ρ (fun c σ₁=>match c with
   | .bool x=>(x=true->wpE T C a ρ Q σ₁)/\(x=false->wpE T C b ρ Q σ₁)
   | _=>False) σ):wpE T C (.ite t a b) ρ Q σ:=by rw [WE9]; exact h
theorem Zd3 {e:LE} {Q:LV->St->Prop} (h:wpE T C e ρ (fun v σ₁=>Zgb T v Q σ₁) σ):wpE T C (.frz e) ρ Q σ:=by rw [Zsq]; exact h
theorem ZbH {o:LE} {m:LM} {as:List LE} {Q:LV->St->Prop} (h:wpE T C o ρ (fun ov σ₁=>ZC (Zaa σ₁ ov) fun _=>Zcs T C as ρ (fun vs σ₂=>lmL m ov vs Q σ₂) σ₁) σ):wpE T C (.lm o m as) ρ Q σ:=by
 rw [Zsn]; exact h
theorem ZaY {tr:Bool} {fv:List Nat} {elt:LE} {t:Tg} {it:LE} {c:Option LE} {Q:LV->St->Prop} (h:wpE T C it ρ (fun iv σ₁=>ZC (ZaD iv) fun xs=>ZC (ZcO fv ρ) fun ρc =>
   xs.length<=100000/\ZaH (fun x K σ₂=>ZC (Z0 t x ρc) fun ρx=>wpC T C c ρx (fun b σ₃ =>
    match b with
    | true=>wpE T C elt ρx (fun u σ₄=>K [u] σ₄) σ₃
    | false=>K [] σ₃) σ₂) xs [] (ZeV tr Q) σ₁) σ):wpE T C (.comp tr fv elt t it c) ρ Q σ:=by rw [Zsp]; exact h
end
theorem CLc {b:LV->(List LV->St->Prop)->St->Prop} {x:LV} {xs acc:List LV} {Q:List LV->St->Prop} {σ:St} (h:b x (fun ys σ₁=>ZaH b xs (acc++ys) Q σ₁) σ):ZaH b (x::xs) acc Q σ:=h
noncomputable abbrev CC (n:Nat):Cal:=Zhr TT0 ZqV n
theorem Zd {n f:Nat} {vs:List LV} {Q:LV->St->Prop} {σ:St} {fd:Fn} {ρ:Env} (hf:ZqV f=some fd) (hb:Zjl fd vs=some ρ)
  (h:ZJ TT0 (CC n) fd.body ρ (fun fl _ σ₁=>match fl with
    | .ret v=>Q v σ₁
    | .next=>Q .none σ₁) σ):CC (n + 1) f vs Q σ:=by
 exact IN hf (IN hb h)
theorem lvl {k n:Nat} (h:k + 1<=n):∃ m,n=m + 1/\k<=m:=⟨n - 1,ZuK h,ZuL h⟩
set_option genCtorIdx true in
inductive Pr where
 | f0 | f1 | dr
 deriving DecidableEq
noncomputable def Zcz:Pr->LV
 | .f0=>.tup [.w 30,.int 0]
 | .f1=>.tup [.w 30,.int 1]
 | .dr=>.tup [.w 32]
noncomputable abbrev Pl:=Nat × List Pr
noncomputable def ZB (p:Pl):LV:=.tup [.int p.1,.tup (p.2.map Zcz)]
noncomputable def Zbe:List (Pl × Nat):=[((0,[]),0),((1,[]),0),((1,[.f0]),1),((1,[.f0,.f1]),2),((1,[.f0,.f1,.dr]),3),((1,[.f1]),1),((2,[]),0),((2,[.dr]),1),((2,[.dr,.f1]),2),((3,[]),0),((3,[.dr,.f0]),0),((3,[.dr]),0),((1,[.f1,.dr]),2)]
noncomputable def ZpV (e:Pl × Nat):LV:=.tup [ZB e.1,.int e.2]
theorem Zlo {n:Nat} {Q:LV->St->Prop} {σ:St} {r:Addr} (h:CC n 36 [.ref r,.lst (Zbe.map ZpV)] Q σ):CC (n + 1) 38 [.ref r] Q σ:=by
 refine Zd (fd:=f38) rfl rfl ?_
 refine Z7 rfl rfl (Z7 rfl rfl (Z7 rfl rfl (ZI (ZaA rfl rfl ?_))))
 exact h
noncomputable def Zw (X:Addr->Prop) (σ σ':St):Prop:=∀ a,σ a ≠ none->¬ X a->σ' a=σ a
theorem Zw.refl (X:Addr->Prop) (σ:St):Zw X σ σ:=fun _ _ _=>rfl
theorem Zw.trans {X:Addr->Prop} {σ₁ σ₂ σ₃:St} (h:Zw X σ₁ σ₂) (h':Zw X σ₂ σ₃):Zw X σ₁ σ₃:=fun a n x=>by
 rw [h' a (by rw [h a n x]; exact n) x,h a n x]
theorem Zw.some {X:Addr->Prop} {σ σ':St} (h:Zw X σ σ') {a:Addr} {o:LO} (e:σ a=some o) (x:¬ X a):σ' a=some o:=by
 rw [h a (by rw [e]; simp) x,e]
theorem Zw.weaken {X Y:Addr->Prop} {σ σ':St} (h:Zw X σ σ') (hx:∀ a,X a->Y a):Zw Y σ σ':=fun a n y=>h a n fun x=>y (hx a x)
theorem Zw.upd {X:Addr->Prop} {σ:St} {a:Addr} {o:Option LO} (h:X a):Zw X σ (upd σ a o):=fun b n x=>Zc _ _ fun e=>x (e ▸ h)
theorem Zw.new {X:Addr->Prop} {σ:St} {a:Addr} {o:Option LO} (h:σ a=none):Zw X σ (Mine.upd σ a o):=fun b n x=>Zc _ _ fun e=>n (e ▸ h)
noncomputable def only (r:Addr):Addr->Prop:=fun a=>a=r
noncomputable def Zr:Addr->Prop:=fun _=>False
noncomputable def ZaG (r:Addr) (σ:St):Prop:=∃ a b:Int,σ r=some (.list [.int a,.int b])/\0<=b/\b < 2147483647
theorem ZaX {n:Nat} (hn:1<=n) {Q:LV->St->Prop} {σ:St} {r:Addr} {t:Int} (S:ZaG r σ) (ht:0 < t) (ht2:t < 1073741824)
  (k:∀ (x:Int) (σ':St),0<=x->x < t->ZaG r σ'->Zw (only r) σ σ'->Q (.int x) σ'):CC n 35 [.ref r,.int t] Q σ:=by
 refine Ze (lvl hn) fun m eQ0_1 _=>?_; subst eQ0_1
 refine ZaM S fun a b hr hb hb2=>?_
 refine Zd (fd:=f35) rfl rfl ?_
 have hup:∀ (o o':Option LO),upd (upd σ r o) r o'=upd σ r o':=fun o o'=>by funext x; unfold upd; split <;> rfl
 have s0:Zge σ (.ref r) (.int 0)=some (.int a):=by rw [s_r hr]; rfl
 have s1:Zge σ (.ref r) (.int 1)=some (.int b):=by rw [s_r hr]; rfl
 refine Zb6 (ZF (ZG (E_p rfl (E_p rfl (IN s0 (E_p rfl (IN Zr1 ?_)))))))
 by_cases ha:0 < a
 ·refine ZcR (decide_eq_true ha) ?_
  refine Zk (ZaN (ZG (E_p rfl (E_p rfl (IN s0 (E_p rfl (IN (Zpg.trans (if_pos ht)) (IN rfl ?_))))))))
  rw [WT1,WS3]
  refine ZaN (ZG (E_p rfl (E_p rfl (IN s0 (E_p rfl (IN (ZrY.trans (if_pos ⟨ht,by simpa using ht2⟩)) (E_p rfl (E_p rfl ?_))))))))
  dsimp only
  rw [hr]
  refine ⟨by decide,by simp,by decide,ZE rfl ?_⟩
  exact k _ _ (Int.fmod_nonneg_of_pos _ ht) (Int.fmod_lt_of_pos _ ht) ⟨_,b,Zb ..,hb,hb2⟩ (Zw.upd rfl)
 ·refine Zbg (decide_eq_false ha) (Zh ?_)
  have p1:(0:Int) < 2147483647:=by decide
  have c0:=Int.fmod_nonneg_of_pos (b * 39373 + 7) p1
  have c1:=Int.fmod_lt_of_pos (b * 39373 + 7) p1
  show ZJ TT0 (CC m) (_::_) _ _ _
  rw [WT1,WS3]
  refine ZaN (ZaN (ZaN (ZG (E_p rfl (E_p rfl (IN s1 (E_p rfl (IN (ZpC.trans (if_pos (.inr (by decide)))) (E_p rfl (IN Zpf (E_p rfl (IN (Zpg.trans (if_pos p1)) (E_p rfl (E_p rfl ?_))))))))))))))
  dsimp only
  rw [hr]
  refine ⟨by decide,by simp,by decide,?_⟩
  generalize (b * 39373 + 7).fmod 2147483647=c at c0 c1
  have hs:(upd σ r (some (.list ([LV.int a,LV.int b].set (Int.toNat 1) (.int c))))) r=some (.list [.int a,.int c]):=Zb ..
  have t1:Zge (upd σ r (some (.list ([LV.int a,LV.int b].set (Int.toNat 1) (.int c))))) (.ref r) (.int 1)=some (.int c):=by rw [s_r hs]; rfl
  refine ZI (ZaN (ZaN (ZaN (ZaN (ZG (E_p rfl (E_p rfl (IN t1 (ZG (E_p rfl (E_p rfl (IN t1 (IN (ZpC.trans (if_pos (.inl (ZuM c0 c1)))) (E_p rfl (IN (Zpg.trans (if_pos (by decide))) (E_p rfl (IN (ZrY.trans (if_pos (by decide))) (E_p rfl (IN (Zpg.trans (if_pos ht)) ?_)))))))))))))))))))
  exact k _ _ (Int.fmod_nonneg_of_pos _ ht) (Int.fmod_lt_of_pos _ ht) ⟨_,_,hs,c0,c1⟩ (Zw.upd rfl)
theorem ZnJ {n:Nat} (hn:2<=n) {Q:LV->St->Prop} {σ:St} {r:Addr} {vs:List LV} (S:ZaG r σ) (hv:vs ≠ []) (hl:vs.length<=1000)
  (k:∀ (v:LV) (σ':St),v ∈ vs->ZaG r σ'->Zw (only r) σ σ'->Q v σ'):CC n 36 [.ref r,.lst vs] Q σ:=by
 refine Ze (lvl hn) fun m eQ0_1 hm=>?_; subst eQ0_1
 refine Zd (fd:=f36) rfl rfl ?_
 have hlen:0 < vs.length:=List.length_pos_iff.mpr hv
 refine ZI (ZG (E_p rfl (ZD rfl (Za (E_p rfl (Za (ZlV rfl (l_l.trans (if_pos (o8 hl))) (Zj ?_))))))))
 refine ZaX hm S (o20 hlen) (ZuN hl) fun x σ' h0 h1 S' hs=>?_
 have hx:x.toNat < vs.length:=ZuO hlen h1
 exact IN (by rw [s_l]; unfold Zeu; rw [if_pos ⟨h0,ZuP hl h1⟩,List.getElem?_eq_getElem hx]) (k _ σ' (List.getElem_mem hx) S' hs)
theorem Zde {n:Nat} (hn:3<=n) {Q:LV->St->Prop} {σ:St} {r:Addr} (S:ZaG r σ)
  (k:∀ (e:Pl × Nat) (σ':St),e ∈ Zbe->ZaG r σ'->Zw (only r) σ σ'->Q (ZpV e) σ'):CC n 38 [.ref r] Q σ:=by
 refine Ze (lvl hn) fun m eQ0_1 hm=>?_; subst eQ0_1
 refine Zlo (ZnJ hm S (by decide) (by decide) fun v σ' hv S' hs=>?_)
 refine Ze (List.mem_map.mp hv) fun e he eQ0_2=>?_; subst eQ0_2
 exact k e σ' he S' hs
noncomputable def Zev:LV:=.tup [.w 123,.w 124]
noncomputable def Zhd:LV:=.tup [.w 25,.tup [Zev,.tup [.w 34,Zev]]]
noncomputable def ZdH:List LV:=[Zev,.tup [.w 25,.tup [Zhd,.tup [.w 34,Zev]]],.tup [.w 34,Zhd],.tup [.w 33,.none,.bool true,Zhd],Zev]
theorem ZmE {n:Nat} (hn:1<=n) {Q:LV->St->Prop} {σ:St} (k:Q (.lst ZdH) σ):CC n 37 [] Q σ:=by
 refine Ze (lvl hn) fun m eQ0_1 _=>?_; subst eQ0_1
 refine Zd (fd:=f37) rfl rfl ?_
 exact Z7 rfl rfl (Z7 rfl rfl (ZE rfl k))
theorem Zv {T:Tab} {C:Cal} {ρ:Env} {σ:St} {t:LE} {a r:List LS} {Q:Fl->Env->St->Prop} (h1:evp T ρ t=some (.bool false)) (h:ZJ T C r ρ Q σ):ZJ T C (.ifs t a []::r) ρ Q σ:=Zd4 h1 (Zh h)
noncomputable abbrev Ent:=Pl × Nat
inductive Stm where
 | mv (a b:Ent)
 | bin (a b:Ent)
 | num (a:Ent)
 | cpy (a:Ent)
 | prt (a:Ent)
 | lv (live:Bool) (l:Nat)
inductive End where
 | goto (g:Nat)
 | drop (a:Ent) (g:Nat)
 | call (a b:Ent) (g:Nat)
 | ret
noncomputable abbrev Row:=Ent × Nat
noncomputable def Zne (r:Row):LV:=.tup [ZB r.1.1,.int r.1.2,.int r.2]
noncomputable def ZeL:Stm->LV
 | .mv a b=>.tup [.w 47,ZB b.1,.tup [.w 40,.tup [.w 75,ZB a.1]]]
 | .bin a b=>.tup [.w 47,ZB (0,[]),.tup [.w 41,.w 134,.tup [.w 75,ZB a.1],.tup [.w 75,ZB b.1]]]
 | .num a=>.tup [.w 47,ZB a.1,.tup [.w 40,.tup [.w 133,Zev,.int 5]]]
 | .cpy a=>.tup [.w 47,ZB (4,[]),.tup [.w 40,.tup [.w 136,ZB a.1]]]
 | .prt a=>.tup [.w 49,.tup [.w 75,ZB a.1]]
 | .lv b l=>.tup [.w (if b then 64 else 65),.int l]
noncomputable def Zbu:Stm->List Row
 | .mv a b=>[(a,1),(b,0)]
 | .bin a b=>[(a,1),(b,1),(((0,[]),0),0)]
 | .num a=>[(a,0)]
 | .cpy a=>[(((4,[]),0),0)]
 | .prt a=>[(a,1)]
 | .lv _ l=>[(((l,[]),0),2)]
noncomputable def Zgz:End->LV
 | .goto g=>.tup [.w 15,.int g]
 | .drop a g=>.tup [.w 20,ZB a.1,.int g]
 | .call a b g=>.tup [.w 19,.tup [.w 138,.tup []],.tup [.tup [.w 75,ZB a.1],.tup [.w 136,ZB b.1]],ZB b.1,.int g]
 | .ret=>.tup [.w 140]
noncomputable def ZbO:End->List Row
 | .goto _=>[]
 | .drop a _=>[(a,3)]
 | .call a b _=>[(a,1),(b,0)]
 | .ret=>[]
noncomputable def Stm.ok:Stm->Prop
 | .mv a b=>a ∈ Zbe/\b ∈ Zbe
 | .bin a b=>a ∈ Zbe/\b ∈ Zbe
 | .num a=>a ∈ Zbe
 | .cpy a=>a ∈ Zbe
 | .prt a=>a ∈ Zbe
 | .lv _ l=>l < 5
noncomputable def End.ok (m:Nat):End->Prop
 | .goto g=>g < m
 | .drop a g=>a ∈ Zbe/\g < m
 | .call a b g=>a ∈ Zbe/\b ∈ Zbe/\g < m
 | .ret=>True
noncomputable def ZaS (rs:List Row):LV:=.lst (rs.map Zne)
theorem ZqE {n:Nat} (hn:4<=n) {Q:LV->St->Prop} {σ:St} {r:Addr} (S:ZaG r σ)
  (k:∀ (s:Stm) (σ':St),s.ok->ZaG r σ'->Zw (only r) σ σ'->Q (.tup [ZeL s,ZaS (Zbu s)]) σ'):CC n 39 [.ref r] Q σ:=by
 refine Ze (lvl hn) fun m eQ0_1 hm=>?_; subst eQ0_1
 refine Zd (fd:=f39) rfl rfl ?_
 refine Zk (Zax (Za (ZaA rfl rfl (ZaX (o37 hm) S (by decide) (by decide) fun x σ₁ x0 x1 S₁ h₁=>?_))))
 refine Za (ZaA rfl rfl (Zde hm S₁ fun a σ₂ ha S₂ h₂=>Za (ZaA rfl rfl (Zde hm S₂ fun b σ₃ hb S₃ h₃=>Zj (IN rfl ?_)))))
 refine Zk (Zax (Za (E_p rfl (Za (ZaA rfl rfl (ZaX (o37 hm) S₃ (by decide) (by decide) fun l σ₄ l0 l1 S₄ h₄=>Zj (IN rfl ?_)))))))
 have hs:Zw (only r) σ σ₄:=((h₁.trans h₂).trans h₃).trans h₄
 refine ZU (Int.eq_ofNat_of_zero_le l0) fun l eQ0_1=>?_; subst eQ0_1
 have hl:l < 5:=ZuQ l1
 have hx:x=0\/x=1\/x=2\/x=3\/x=4\/x=5\/x=6\/x=7:=ZuR x0 x1
 rcases hx with rfl | rfl | rfl | rfl | rfl | rfl | rfl | rfl
 ·exact Za7 rfl (ZE rfl (k (.mv a b) σ₄ ⟨ha,hb⟩ S₄ hs))
 ·exact Za7 rfl (ZE rfl (k (.mv a b) σ₄ ⟨ha,hb⟩ S₄ hs))
 ·exact Zv rfl (Za7 rfl (Z7 rfl rfl (ZE rfl (k (.bin a b) σ₄ ⟨ha,hb⟩ S₄ hs))))
 ·exact Zv rfl (Zv rfl (Za7 rfl (ZE rfl (k (.num a) σ₄ ha S₄ hs))))
 ·exact Zv rfl (Zv rfl (Zv rfl (Za7 rfl (ZE rfl (k (.cpy a) σ₄ ha S₄ hs)))))
 ·exact Zv rfl (Zv rfl (Zv rfl (Zv rfl (Za7 rfl (ZE rfl (k (.prt a) σ₄ ha S₄ hs))))))
 ·exact Zv rfl (Zv rfl (Zv rfl (Zv rfl (Zv rfl (ZE rfl (k (.lv true l) σ₄ hl S₄ hs))))))
 ·exact Zv rfl (Zv rfl (Zv rfl (Zv rfl (Zv rfl (ZE rfl (k (.lv false l) σ₄ hl S₄ hs))))))
theorem ZpU {n:Nat} (hn:4<=n) {Q:LV->St->Prop} {σ:St} {r:Addr} {g M:Nat} (S:ZaG r σ) (hg:g < M)
  (k:∀ (e:End) (σ':St),e.ok M->ZaG r σ'->Zw (only r) σ σ'->Q (.tup [Zgz e,ZaS (ZbO e)]) σ'):CC n 40 [.ref r,.int g] Q σ:=by
 refine Ze (lvl hn) fun m eQ0_1 hm=>?_; subst eQ0_1
 refine Zd (fd:=f40) rfl rfl ?_
 refine Zk (Zax (Za (ZaA rfl rfl (ZaX (o37 hm) S (by decide) (by decide) fun x σ₁ x0 x1 S₁ h₁=>?_))))
 refine Za (ZaA rfl rfl (Zde hm S₁ fun a σ₂ ha S₂ h₂=>Za (ZaA rfl rfl (Zde hm S₂ fun b σ₃ hb S₃ h₃=>Zj (IN rfl ?_)))))
 have hs:Zw (only r) σ σ₃:=(h₁.trans h₂).trans h₃
 have hx:x=0\/x=1\/x=2\/x=3\/x=4:=ZuS x0 x1
 rcases hx with rfl | rfl | rfl | rfl | rfl
 ·exact Za7 rfl (ZE rfl (k (.goto g) σ₃ hg S₃ hs))
 ·exact Zv rfl (Za7 rfl (ZE rfl (k (.drop a g) σ₃ ⟨ha,hg⟩ S₃ hs)))
 ·exact Zv rfl (Za7 rfl (ZE rfl (k (.drop a g) σ₃ ⟨ha,hg⟩ S₃ hs)))
 ·exact Zv rfl (Zv rfl (Za7 rfl (Z7 rfl rfl (ZE rfl (k (.call a b g) σ₃ ⟨ha,hb,hg⟩ S₃ hs)))))
 ·exact Zv rfl (Zv rfl (Zv rfl (ZE rfl (k .ret σ₃ trivial S₃ hs))))
noncomputable abbrev Blk:=List Stm × End
noncomputable def Za8 (b:Blk):LV:=.lst [.lst (b.1.map ZeL),Zgz b.2]
noncomputable def Zft (b:Blk):List LV:=b.1.map (fun s=>ZaS (Zbu s))++[ZaS (ZbO b.2)]
noncomputable def Zj7 (M:Nat) (b:Blk):Prop:=(∀ s ∈ b.1,s.ok)/\b.1.length<=3/\b.2.ok M
noncomputable def Zy (bs:List Blk):List LV:=bs.flatMap Zft
noncomputable def ZdG (s:Stm):LV:=.tup [ZeL s,ZaS (Zbu s)]
theorem Zs {T:Tab} {C:Cal} {ρ:Env} {σ:St} {b:Bi} {e:LE} {Q:LV->St->Prop} (h:wpE T C e ρ (fun v σ₁=>ZC (biL b σ₁ [v]) fun c=>Q c σ₁) σ):wpE T C (.bi b [e]) ρ Q σ:=by
 rw [ZrU]
 exact Za (by
  have:(fun v σ₁=>Zcs T C [] ρ (fun vs σ₂=>ZC (biL b σ₂ (v::vs)) fun c=>Q c σ₂) σ₁)=(fun v σ₁=>ZC (biL b σ₁ [v]) fun c=>Q c σ₁):=by
   funext v σ₁
   rw [WL0]
  rw [this]; exact h)
theorem Zly {n:Nat} (hn:4<=n) {r:Addr} {ρc:Env} (h118:∀ x,Zo (Zm ρc 143 x) 118=some (.ref r)) {Q:List LV->St->Prop} {σ₀:St} :
  ∀ (xs:List LV) (ss:List Stm) (σ:St),ZaG r σ->Zw (only r) σ₀ σ->(∀ s ∈ ss,s.ok)->
  (∀ (ss':List Stm) (σ':St),ss'.length=ss.length + xs.length->(∀ s ∈ ss',s.ok)->ZaG r σ'->Zw (only r) σ₀ σ'->Q (ss'.map ZdG) σ')->
  ZaH (fun x K σ₂=>ZC (Z0 (.nm 143) x ρc) fun ρx=>wpC TT0 (CC n) none ρx (fun b σ₃ =>
    match b with
    | true=>wpE TT0 (CC n) (.call (.g 142) [.v 118]) ρx (fun u σ₄=>K [u] σ₄) σ₃
    | false=>K [] σ₃) σ₂) xs (ss.map ZdG) Q σ
 | [],ss,σ,S,hs,ok,k=>by
  exact k ss σ (by simp) ok S hs
 | x::xs,ss,σ,S,hs,ok,k=>by
  refine CLc (IN rfl ?_)
  rw [WC0]
  refine ZD rfl (Za (E_p (h118 x) (Zj ?_)))
  refine ZqE hn S fun s σ₁ hs₁ S₁ h₁=>?_
  have:=Zly hn h118 (Q:=Q) xs (ss++[s]) σ₁ S₁ (hs.trans h₁) (fun t ht=>by
   refine Or.elim (List.mem_append.mp ht) (fun ht=>?_) fun ht=>?_
   ·exact ok t ht
   ·rw [List.mem_singleton.mp ht]; exact hs₁) fun ss' σ' hl hok S' hs'=>k ss' σ' (by rw [hl]; simp; exact o17) hok S' hs'
  rw [List.map_append] at this
  exact this
theorem ZcV {T:Tab} {C:Cal} {t:Tg} {elt:LE} {ρc:Env} {Q:List LV->St->Prop} {f:LV->LV}:∀ (xs acc:List LV) (σ:St),(∀ x ∈ xs,∃ ρx,Z0 t x ρc=some ρx/\evp T ρx elt=some (f x))->Q (acc++xs.map f) σ->
  ZaH (fun x K σ₂=>ZC (Z0 t x ρc) fun ρx=>wpC T C none ρx (fun b σ₃ =>
    match b with
    | true=>wpE T C elt ρx (fun u σ₄=>K [u] σ₄) σ₃
    | false=>K [] σ₃) σ₂) xs acc Q σ
 | [],acc,σ,h,q=>by
  rw [List.map_nil,List.append_nil] at q
  exact q
 | x::xs,acc,σ,h,q=>by
  refine Ze (h x List.mem_cons_self) fun ρx h1 h2=>?_
  refine IN h1 ?_
  rw [WC0]
  refine ZV elt h2 (ZcV xs (acc++[f x]) σ (fun y hy=>h y (List.mem_cons_of_mem _ hy)) ?_)
  rw [List.append_assoc]
  exact q
theorem Zaw {a:Addr} {xs:List LV} {v:LV} {Q:LV->St->Prop} {σ:St} (h:σ a=some (.list xs)) (hl:xs.length<=1000000) (k:Q .none (upd σ a (some (.list (xs++[v]))))):lmL .append (.ref a) [v] Q σ:=by
 show ZC (Znb σ (.ref a)) _
 exact IN (ZfZ h) ⟨hl,k⟩
theorem Zag {σ:St} {n:Nat} (h:n<=1000000):biL .range_ σ [.int (n:Int)]=some (.rng n):=by
 rw [Zrx,if_pos ⟨o6,o47 h⟩]
 simp
noncomputable def Zgd (n:Nat):List LV:=(List.range n).map fun (i:Nat)=>LV.int (Int.ofNat i)
theorem ZS (n:Nat):ZaD (.rng n)=some (Zgd n):=rfl
theorem ZbW (n:Nat):(Zgd n).length=n:=by simp [Zgd]
theorem ZcA {Q:LV->St->Prop} {vs:List LV} {σ:St} (h:Q (.lst vs) σ):ZeV false Q vs σ:=h
theorem Zb5 {Q:LV->St->Prop} {vs:List LV} {σ:St} (h:∀ a,σ a=none->Q (.ref a) (upd σ a (some (.list vs)))):ZeV true Q vs σ:=h
noncomputable def at0 (v:LV):LV:=(((asT v).bind pr2).map Prod.fst).getD .none
noncomputable def at1 (v:LV):LV:=(((asT v).bind pr2).map Prod.snd).getD .none
theorem Zl8 {n:Nat} (hn:4<=n) {r b:Addr} {M:Nat} (hM:0 < M) (hM3:M<=3) (hrb:r ≠ b) {tl:Env} (htl:tl=[]\/∃ x y z,tl=[(8,x),(144,y),(146,z)]) {bs:List Blk} (hbs:bs.length<=10) (hlen:(Zy bs).length<=1000) {i:LV} {σ σ₀:St}
  (S:ZaG r σ) (hb:σ b=some (.list (bs.map Za8))) (hs:Zw (fun a=>a=r\/a=b) σ₀ σ) {Q:Fl->Env->St->Prop}
  (k:∀ (B:Blk) (x y z:LV) (σ':St),Zj7 M B->ZaG r σ'->σ' b=some (.list ((bs++[B]).map Za8))->Zw (fun a=>a=r\/a=b) σ₀ σ'->
   Q .next [(118,.ref r),(4,.ref b),(111,.lst (Zy (bs++[B]))),(141,.int M),(8,x),(144,y),(146,z)] σ') :
  ZC (Z0 (.nm 8) i ([(118,.ref r),(4,.ref b),(111,.lst (Zy bs)),(141,.int M)]++tl)) fun ρ₁ =>
   ZJ TT0 (CC n) [.asg (.nm 144) (.comp false [118] (.call (.g 142) [(.v 118)]) (.nm 143) (.bi .range_ [(.call (.g 122) [(.v 118),(.k (.int 4))])]) none),.asg (.nm 146) (.call (.g 145) [(.v 118),(.call (.g 122) [(.v 118),(.v 141)])]),.expr (.lm (.v 4) .append [(.lst [(.comp false [] (.sub (.v 147) (.k (.int 0))) (.nm 147) (.v 144) none),(.sub (.v 146) (.k (.int 0)))])]),.asg (.nm 111) (.bin .Add (.bin .Add (.v 111) (.comp false [] (.sub (.v 147) (.k (.int 1))) (.nm 147) (.v 144) none)) (.lst [(.sub (.v 146) (.k (.int 1)))]))] ρ₁ Q σ:=by
 rcases htl with rfl | ⟨x,y,z,rfl⟩
 all_goals
  refine IN rfl ?_
  refine Zk (ZaY (Zs (ZaA rfl rfl (ZaX (o15 hn) S (by decide) (by decide) fun t σ₁ t0 t1 S₁ h₁=>?_))))
  refine ZU (Int.eq_ofNat_of_zero_le t0) fun t eQ0_1=>?_; subst eQ0_1
  refine IN (Zag (ZuT t1)) (IN (ZS t) (IN rfl ⟨by rw [ZbW]; exact ZuU t1,?_⟩))
  refine Zly hn (fun _=>rfl) (σ₀:=σ₁) (Zgd t) [] σ₁ S₁ (Zw.refl _ _) (fun _ h=>by cases h) fun ss σ₂ hl hok S₂ h₂=>?_
  rw [ZbW] at hl
  simp only [List.length_nil,Nat.zero_add] at hl
  refine IN rfl ?_
  refine Zk (ZD rfl (Za (E_p rfl (Za (ZaA rfl rfl ?_)))))
  refine ZaX (t:=(M:Int)) (o15 hn) S₂ (o20 hM) (ZuV hM3) fun g σ₃ g0 g1 S₃ h₃=>Zj ?_
  refine ZU (Int.eq_ofNat_of_zero_le g0) fun g eQ0_1=>?_; subst eQ0_1
  refine ZpU hn S₃ (M:=M) (o36 g1) fun e σ₄ he S₄ h₄=>IN rfl ?_
  have hrow:Zw (only r) σ σ₄:=((h₁.trans h₂).trans h₃).trans h₄
  have hb₄:σ₄ b=some (.list (bs.map Za8)):=hrow.some hb fun e=>hrb e.symm
  have pick0:∀ x ∈ ss.map ZdG,∃ ρx,Z0 (.nm 147) x []=some ρx/\evp TT0 ρx (.sub (.v 147) (.k (.int 0)))=some (at0 x):=fun x hx=>by
   refine Ze (List.mem_map.mp hx) fun s _ eQ0_2=>?_; subst eQ0_2
   exact ⟨_,rfl,rfl⟩
  have pick1:∀ x ∈ ss.map ZdG,∃ ρx,Z0 (.nm 147) x []=some ρx/\evp TT0 ρx (.sub (.v 147) (.k (.int 1)))=some (at1 x):=fun x hx=>by
   refine Ze (List.mem_map.mp hx) fun s _ eQ0_2=>?_; subst eQ0_2
   exact ⟨_,rfl,rfl⟩
  have lenss:(ss.map ZdG).length<=100000:=by rw [List.length_map]; exact ZuW t1 hl
  refine ZaR (ZbH (E_p rfl (IN (o_r hb₄) (Za (Zq5 (Za (ZaY (E_p rfl (IN rfl (IN rfl ⟨lenss,?_⟩))))))))))
  refine ZcV _ [] σ₄ pick0 (ZcA (Za (E_p rfl (Zj (Zj ?_)))))
  refine Zaw hb₄ (by rw [List.length_map]; exact o0 hbs) ?_
  refine Zk (ZaN (ZaN (E_p rfl (ZaY (E_p rfl (IN rfl (IN rfl ⟨lenss,?_⟩)))))))
  refine ZcV _ [] _ pick1 (ZcA (IN (Zrc.trans (if_pos ?_)) (E_p rfl (IN (Zrc.trans (if_pos ?_)) (IN rfl (Zh ?_))))))
  ·simp only [List.nil_append,List.length_map]; exact ZuX hlen t1 hl
  ·simp only [List.nil_append,List.length_append,List.length_map,List.length_cons,List.length_nil]; exact ZuY hlen t1 hl
  ·have e1:(ss.map ZdG).map at1=ss.map fun s=>ZaS (Zbu s):=by rw [List.map_map]; rfl
   have e0:(ss.map ZdG).map at0=ss.map ZeL:=by rw [List.map_map]; rfl
   have eb:Zy (bs++[(ss,e)])=(Zy bs++ss.map fun s=>ZaS (Zbu s))++[ZaS (ZbO e)]:=by
    unfold Zy Zft
    rw [List.flatMap_append]
    simp
   have el:(bs++[(ss,e)]).map Za8=bs.map Za8++[.lst [.lst (ss.map ZeL),Zgz e]]:=by rw [List.map_append]; rfl
   have fin:=k (ss,e) i (.lst (ss.map ZdG)) (.tup [Zgz e,ZaS (ZbO e)]) (upd σ₄ b (some (.list (bs.map Za8++[.lst [.lst (ss.map ZeL),Zgz e]])))) ⟨hok,by show ss.length<=3; exact ZuZ t1 hl,he⟩
    (by obtain ⟨a₁,b₁,hr,q₁⟩:=S₄; exact ⟨a₁,b₁,by rw [Zc _ _ hrb]; exact hr,q₁⟩) (by rw [el]; exact Zb ..) ((hs.trans (hrow.weaken fun a e=>.inl e)).trans (Zw.upd (.inr rfl)))
   rw [eb] at fin
   rw [List.nil_append,List.nil_append,e1,e0]
   exact fin
noncomputable def Zoa:List LS:=[.asg (.nm 144) (.comp false [118] (.call (.g 142) [(.v 118)]) (.nm 143) (.bi .range_ [(.call (.g 122) [(.v 118),(.k (.int 4))])]) none),.asg (.nm 146) (.call (.g 145) [(.v 118),(.call (.g 122) [(.v 118),(.v 141)])]),.expr (.lm (.v 4) .append [(.lst [(.comp false [] (.sub (.v 147) (.k (.int 0))) (.nm 147) (.v 144) none),(.sub (.v 146) (.k (.int 0)))])]),.asg (.nm 111) (.bin .Add (.bin .Add (.v 111) (.comp false [] (.sub (.v 147) (.k (.int 1))) (.nm 147) (.v 144) none)) (.lst [(.sub (.v 146) (.k (.int 1)))]))]
theorem Zf1 {M:Nat}:∀ {bs:List Blk},(∀ B ∈ bs,Zj7 M B)->(Zy bs).length<=4 * bs.length
 | [],_=>by simp [Zy]
 | B::bs,h=>by
  have ih:=Zf1 (bs:=bs) fun B hB=>h B (List.mem_cons_of_mem _ hB)
  have hB:=(h B List.mem_cons_self).2.1
  have e:Zy (B::bs)=Zft B++Zy bs:=by unfold Zy; rw [List.flatMap_cons]
  rw [e,List.length_append,List.length_cons]
  unfold Zft
  rw [List.length_append,List.length_map,List.length_cons,List.length_nil]
  exact Zu0 ih hB
structure BodyOk (bs:List Blk):Prop where
 some:bs ≠ []
 few:bs.length<=3
 ok:∀ B ∈ bs,Zj7 bs.length B
theorem Zip {n:Nat} (hn:4<=n) {r b:Addr} {M:Nat} (hM:0 < M) (hM3:M<=3) (hrb:r ≠ b) {σ₀:St} {Q:Fl->Env->St->Prop} :
  ∀ (xs:List LV) (tl:Env) (bs:List Blk) (σ:St),(tl=[]\/∃ x y z,tl=[(8,x),(144,y),(146,z)])->bs.length + xs.length=M->(∀ B ∈ bs,Zj7 M B)->ZaG r σ->σ b=some (.list (bs.map Za8))->Zw (fun a=>a=r\/a=b) σ₀ σ->
  (∀ (bs':List Blk) (tl':Env) (σ':St),(tl'=[]\/∃ x y z,tl'=[(8,x),(144,y),(146,z)])->bs'.length=M->(∀ B ∈ bs',Zj7 M B)->ZaG r σ'->σ' b=some (.list (bs'.map Za8))->Zw (fun a=>a=r\/a=b) σ₀ σ'->
   Q .next ([(118,.ref r),(4,.ref b),(111,.lst (Zy bs')),(141,.int M)]++tl') σ')->
  Ze6 (.nm 8) (fun ρ Q σ=>ZJ TT0 (CC n) Zoa ρ Q σ) xs ([(118,.ref r),(4,.ref b),(111,.lst (Zy bs)),(141,.int M)]++tl) Q σ
 | [],tl,bs,σ,htl,hl,ok,S,hb,hs,k=>by
  exact k bs tl σ htl (by simpa using hl) ok S hb hs
 | x::xs,tl,bs,σ,htl,hl,ok,S,hb,hs,k=>by
  rw [List.length_cons] at hl
  have hrl:=Zf1 ok
  refine Zl8 hn hM hM3 hrb htl (Zu1 hM3 hl) (Zu2 hM3 hl hrl) S hb hs fun B u v w σ' hB S' hb' hs'=>?_
  exact Zip hn hM hM3 hrb xs [(8,u),(144,v),(146,w)] (bs++[B]) σ' (.inr ⟨u,v,w,rfl⟩) (by rw [List.length_append,List.length_cons,List.length_nil]; exact Zu3 hl)
   (fun B' h=>by
    rcases List.mem_append.mp h with h | h
    ·exact ok B' h
    ·rw [List.mem_singleton.mp h]; exact hB) S' hb' hs' k
theorem Zob {n:Nat} (hn:5<=n) {Q:LV->St->Prop} {σ:St} {r:Addr} (S:ZaG r σ)
  (k:∀ (bs:List Blk) (σ':St),BodyOk bs->ZaG r σ'->Zw (only r) σ σ'->Q (.tup [.lst (bs.map Za8),.lst (Zy bs)]) σ'):CC n 41 [.ref r] Q σ:=by
 refine Ze (lvl hn) fun m eQ0_1 hm=>?_; subst eQ0_1
 refine Zd (fd:=f41) rfl rfl ?_
 refine Zk (Zax (Za (Zbq rfl (Zb5 fun b hbn=>Za (E_p rfl (Zj (IN rfl ?_)))))))
 have hrb:r ≠ b:=fun e=>by
  refine Zik S fun a c hr _=>?_
  rw [e,hbn] at hr; exact nos hr
 have S₁:ZaG r (upd σ b (some (.list []))):=by
  refine Zik S fun a c hr q=>?_
  exact ⟨a,c,by rw [Zc _ _ hrb]; exact hr,q⟩
 refine Zk (ZaN (E_p rfl (ZaA rfl rfl (ZaX (o15 hm) S₁ (by decide) (by decide) fun M0 σ₂ m0 m1 S₂ h₂=>IN Zpf (IN rfl ?_)))))
 refine ZU (Int.eq_ofNat_of_zero_le m0) fun M0 eQ0_1=>?_; subst eQ0_1
 have hM:(1:Int) + ((M0:Nat):Int)=((M0 + 1:Nat):Int):=Zu4
 rw [hM]
 generalize hMM:M0 + 1=MM
 have hM1:0 < MM/\MM<=3:=Zu5 m1 hMM
 clear hM
 refine ZO (Zs (E_p rfl (IN (Zag (n:=MM) (Zu6 m1 hMM)) (IN (ZS MM) ?_))))
 refine Zip (r:=r) (b:=b) (M:=MM) (σ₀:=σ₂) hm hM1.1 hM1.2 hrb (Zgd MM) [] [] σ₂ (.inl rfl) (by rw [ZbW]; simp) (fun _ h=>by cases h) S₂ (h₂.some (Zb ..) fun e=>hrb e.symm) (Zw.refl _ _) fun bs tl σ₃ htl hl ok S₃ hb₃ hs₃=>?_
 have fin:Zgb TT0 (.ref b) (fun v σ₁=>Q (.tup [v,.lst (Zy bs)]) σ₁) σ₃:=by
  unfold Zgb
  dsimp only
  rw [hb₃]
  refine k bs _ ⟨(fun e=>by rw [e] at hl; simp at hl; exact Zu7 hMM hl),Zu8 m1 hMM hl,fun B hB=>hl ▸ ok B hB⟩ ?_ ?_
  ·refine Zik S₃ fun a c hr q=>?_
   exact ⟨a,c,by rw [Zc _ _ hrb]; exact hr,q⟩
  ·intro a ha hn'
   have hab:a ≠ b:=fun e=>ha (by rw [e,hbn])
   have x1:upd σ b (some (.list [])) a=σ a:=Zc _ _ hab
   have x2:σ₂ a=σ a:=by rw [h₂ a (by rw [x1]; exact ha) hn',x1]
   have x3:σ₃ a=σ a:=by rw [hs₃ a (by rw [x2]; exact ha) fun z=>z.elim hn' hab,x2]
   rw [Zc _ _ hab]; exact x3
 rcases htl with rfl | ⟨x,y,z,rfl⟩
 ·exact ZI (Zax (Za (Zd3 (E_p rfl (by
   unfold Zgb at fin ⊢
   dsimp only at fin ⊢
   rw [hb₃] at fin ⊢
   exact Za (E_p rfl (Zj fin)))))))
 ·exact ZI (Zax (Za (Zd3 (E_p rfl (by
   unfold Zgb at fin ⊢
   dsimp only at fin ⊢
   rw [hb₃] at fin ⊢
   exact Za (E_p rfl (Zj fin)))))))
noncomputable def ZrI (T:Tab) (x:Nat) (v:LV) (ov:LV) (K:St->Prop) (σ₂:St):Prop:=match ov with
   | .ref a=>match σ₂ a with
    | some (.inst c d)=>match σ₂ d with
     | some (.ns fs)=>T.meth c x=.none/\fs.length<=1000/\K (upd σ₂ d (some (.ns (Zm fs x v))))
     | _=>False
    | _=>False
   | _=>False
noncomputable def Zh7 (iv v ov:LV) (K:St->Prop) (σ₃:St):Prop:=match ov with
   | .ref a=>match σ₃ a with
    | some (.list vs)=>match iv with
     | .int k=>0<=k/\k < vs.length/\k<=1000000/\K (upd σ₃ a (some (.list (vs.set k.toNat v))))
     | _=>False
    | some (.dict es)=>ZaL iv=true/\es.length<=1000000/\K (upd σ₃ a (some (.dict (Zh6 iv v es))))
    | some (.idict es)=>match iv with
     | .int k=>es.length<=1000000/\Za3 k es=.none/\K (upd σ₃ a (some (.idict (Zhu k v es))))
     | _=>False
    | _=>False
   | _=>False
section
variable {T:Tab} {C:Cal} {ρ:Env} {σ:St}
theorem ZaB {o:LE} {x:Nat} {e:LE} {r:List LS} {Q:Fl->Env->St->Prop} (h:wpE T C e ρ (fun v σ₁=>wpE T C o ρ (fun ov σ₂=>ZrI T x v ov (fun σ₃=>ZJ T C r ρ Q σ₃) σ₂) σ₁) σ):ZJ T C (.asgA o x e::r) ρ Q σ:=by
 rw [WT1,WS2]; exact h
theorem ZeX {o i:LE} {e:LE} {r:List LS} {Q:Fl->Env->St->Prop} (h:wpE T C e ρ (fun v σ₁=>wpE T C o ρ (fun ov σ₂=>wpE T C i ρ (fun iv σ₃=>Zh7 iv v ov (fun σ₄=>ZJ T C r ρ Q σ₄) σ₃) σ₂) σ₁) σ):ZJ T C (.asgI o i e::r) ρ Q σ:=by
 rw [WT1,WS3]; exact h
theorem Zab {x c:Nat} {v:LV} {a d:Addr} {fs:Env} {K:St->Prop} (ha:σ a=some (.inst c d)) (hd:σ d=some (.ns fs)) (hm:T.meth c x=none) (hl:fs.length<=1000) (k:K (upd σ d (some (.ns (Zm fs x v))))):ZrI T x v (.ref a) K σ:=by
 unfold ZrI
 dsimp only
 rw [ha]
 dsimp only
 rw [hd]
 exact ⟨hm,hl,k⟩
theorem ZnO {i:Int} {v:LV} {a:Addr} {vs:List LV} {K:St->Prop} (ha:σ a=some (.list vs)) (h0:0<=i) (h1:i < vs.length) (h2:i<=1000000) (k:K (upd σ a (some (.list (vs.set i.toNat v))))):Zh7 (.int i) v (.ref a) K σ:=by
 unfold Zh7
 dsimp only
 rw [ha]
 exact ⟨h0,h1,h2,k⟩
theorem Zlu {iv v:LV} {a:Addr} {es:List (LV × LV)} {K:St->Prop} (ha:σ a=some (.dict es)) (h0:ZaL iv=true) (h1:es.length<=1000000) (k:K (upd σ a (some (.dict (Zh6 iv v es))))):Zh7 iv v (.ref a) K σ:=by
 unfold Zh7
 dsimp only
 rw [ha]
 exact ⟨h0,h1,k⟩
theorem Zqu {i:Int} {v:LV} {a:Addr} {es:List (Int × LV)} {K:St->Prop} (ha:σ a=some (.idict es)) (h1:es.length<=1000000) (h2:Za3 i es=none) (k:K (upd σ a (some (.idict (Zhu i v es))))):Zh7 (.int i) v (.ref a) K σ:=by
 unfold Zh7
 dsimp only
 rw [ha]
 exact ⟨h1,h2,k⟩
theorem Zd2 {b:Bool} {Q:LV->St->Prop} (h:∀ a,σ a=none->Q (.ref a) (upd σ a (some (match b with | true=>.idict [] | false=>.dict [])))):wpE T C (.dictR b) ρ Q σ:=by rw [Zsj]; exact h
end
noncomputable def Zj8 (bl:LV) (sp:Addr):LV:=.rcd 0 [.w 152,.int 0,.lst (ZdH.map fun t=>.tup [t,.bool true,.none]),bl,.ref sp]
theorem Zqj {n:Nat} (hn:1<=n) {bl:LV} (hbl:bl ≠ .none) (hbn:isNone bl=false) {Q:LV->St->Prop} {σ:St}
  (k:∀ sp σ',Zw Zr σ σ'->Q (Zj8 bl sp) σ'):Zeb TT0 (CC n) (.cls 0) [.w 152,.int 0,.lst (ZdH.map fun t=>.tup [t,.bool true,.none]),bl] (fun v σ₁=>Zgb TT0 v Q σ₁) σ:=by
 refine Ze (lvl hn) fun m eQ0_1 _=>?_; subst eQ0_1
 refine IN rfl fun a d ha hd had=>?_
 refine Zd (fd:=f0) rfl rfl ?_
 have e1:∀ fs,(upd (upd σ d (some (.ns fs))) a (some (.inst 0 d))) a=some (.inst 0 d):=fun fs=>Zb ..
 have e2:∀ fs,(upd (upd σ d (some (.ns fs))) a (some (.inst 0 d))) d=some (.ns fs):=fun fs=>by rw [Zc _ _ had.symm,Zb]
 have e3:∀ fs fs',upd (upd (upd σ d (some (.ns fs))) a (some (.inst 0 d))) d (some (.ns fs'))=upd (upd σ d (some (.ns fs'))) a (some (.inst 0 d)):=fun fs fs'=>by
  funext x
  by_cases h1:x=d
  ·subst h1; rw [Zb,Zc _ _ had.symm,Zb]
  ·rw [Zc _ _ h1]
   by_cases h2:x=a
   ·subst h2; rw [Zb,Zb]
   ·rw [Zc _ _ h2,Zc _ _ h2,Zc _ _ h1,Zc _ _ h1]
 refine ZaB (E_p rfl (E_p rfl (Zab (e1 _) (e2 _) rfl (by decide) ?_)))
 rw [e3]
 refine ZaB (E_p rfl (E_p rfl (Zab (e1 _) (e2 _) rfl (by decide) ?_)))
 rw [e3]
 refine ZaB (ZlV rfl (Zrv.trans (if_pos (by decide))) (E_p rfl (Zab (e1 _) (e2 _) rfl (by decide) ?_)))
 rw [e3]
 refine ZaB (Zdl (ZF (E_p rfl (E_p rfl (IN (Zoe.trans (congrArg some hbn)) (Zbg rfl (E_p rfl (E_p rfl (Zab (e1 _) (e2 _) rfl (by decide) ?_)))))))))
 rw [e3]
 refine ZaB (Zdl (ZF (E_p rfl (E_p rfl (IN Zoe (ZcR rfl (Zd2 fun sp hsp=>?_)))))))
 have hsa:sp ≠ a:=fun e=>by rw [e,e1] at hsp; exact ns2 hsp
 have hsd:sp ≠ d:=fun e=>by rw [e,e2] at hsp; exact ns2 hsp
 refine E_p rfl (Zab ((Zc _ _ hsa.symm).trans (e1 _)) ((Zc _ _ hsd.symm).trans (e2 _)) rfl (show (4:Nat)<=1000 by decide) (Zh ⟨rfl,?_⟩))
 unfold Zgb
 dsimp only
 rw [Zc _ _ had,Zc _ _ hsa.symm,e1]
 dsimp only
 rw [Zb]
 refine ⟨rfl,IN rfl (k sp _ ?_)⟩
 intro x hx _
 have hxa:x ≠ a:=fun e=>hx (by rw [e,ha])
 have hxd:x ≠ d:=fun e=>hx (by rw [e,hd])
 have hxs:x ≠ sp:=fun e=>by
  rw [Zc _ _ hsa,Zc _ _ hsd] at hsp
  exact hx (by rw [e,hsp])
 rw [Zc _ _ hxd,Zc _ _ hxa,Zc _ _ hxd,Zc _ _ hxs,Zc _ _ hxa,Zc _ _ hxd]
theorem ZgG {α:Type} {t:Tg} {body:Env->(Fl->Env->St->Prop)->St->Prop} {Q:Fl->Env->St->Prop} (f:α->LV) (all:List α) (I:List α->Env->St->Prop)
  (step:∀ done x rest ρ σ (K:Fl->Env->St->Prop),all=done++x::rest->I done ρ σ->(∀ ρ' σ',I (done++[x]) ρ' σ'->K .next ρ' σ')->(∀ v ρ' σ',Q (.ret v) ρ' σ'->K (.ret v) ρ' σ')->ZC (Z0 t (f x) ρ) fun ρ₁=>body ρ₁ K σ)
  (fin:∀ ρ σ,I all ρ σ->Q .next ρ σ):∀ (rest done:List α) ρ σ,all=done++rest->I done ρ σ->Ze6 t body (rest.map f) ρ Q σ
 | [],done,ρ,σ,e,h=>by
  rw [List.append_nil] at e
  exact fin ρ σ (e ▸ h)
 | x::rest,done,ρ,σ,e,h=>by
  rw [List.map_cons]
  exact step done x rest ρ σ _ e h (fun ρ' σ' h'=>ZgG f all I step fin rest (done++[x]) ρ' σ' (by rw [e]; simp) h') (fun v ρ' σ' q=>q)
theorem Zbx {t:Tg} {body:Env->(Fl->Env->St->Prop)->St->Prop} {Q:Fl->Env->St->Prop} {n:Nat} (I:Nat->Env->St->Prop)
  (step:∀ i ρ σ (K:Fl->Env->St->Prop),i < n->I i ρ σ->(∀ ρ' σ',I (i + 1) ρ' σ'->K .next ρ' σ')->(∀ v ρ' σ',Q (.ret v) ρ' σ'->K (.ret v) ρ' σ')->ZC (Z0 t (.int (i:Int)) ρ) fun ρ₁=>body ρ₁ K σ)
  (fin:∀ ρ σ,I n ρ σ->Q .next ρ σ) {ρ:Env} {σ:St} (h:I 0 ρ σ):Ze6 t body (Zgd n) ρ Q σ:=by
 have key:∀ k i ρ σ,i + k=n->I i ρ σ->Ze6 t body ((List.range' i k).map fun (i:Nat)=>LV.int (Int.ofNat i)) ρ Q σ:=by
  intro k
  induction k with
  | zero=>intro i ρ σ e h; exact fin ρ σ (by rw [<- e]; exact h)
  | succ k ih =>
   intro i ρ σ e h
   rw [List.range'_succ,List.map_cons]
   exact step i ρ σ _ (ZsE e) h (fun ρ' σ' h'=>ih (i + 1) ρ' σ' (ZsF e) h') (fun v ρ' σ' q=>q)
 have:=key n 0 ρ σ ZsG h
 unfold Zgd
 rw [List.range_eq_range']
 exact this
theorem ZcC {α:Type} {body:LV->(List LV->St->Prop)->St->Prop} {Q:List LV->St->Prop} (f:α->LV) (all:List α) (I:List α->List LV->St->Prop)
  (step:∀ done x rest acc σ (K:List LV->St->Prop),all=done++x::rest->I done acc σ->(∀ ys σ',I (done++[x]) (acc++ys) σ'->K ys σ')->body (f x) K σ)
  (fin:∀ acc σ,I all acc σ->Q acc σ):∀ (rest done:List α) acc σ,all=done++rest->I done acc σ->ZaH body (rest.map f) acc Q σ
 | [],done,acc,σ,e,h=>by
  rw [List.append_nil] at e
  exact fin acc σ (e ▸ h)
 | x::rest,done,acc,σ,e,h=>by
  rw [List.map_cons]
  exact step done x rest acc σ _ e h (fun ys σ' h'=>ZcC f all I step fin rest (done++[x]) (acc++ys) σ' (by rw [e]; simp) h')
theorem ZnT {test:Env->(Bool->St->Prop)->St->Prop} {body:Env->(Fl->Env->St->Prop)->St->Prop} {Q:Fl->Env->St->Prop} (I:Nat->Env->St->Prop)
  (step:∀ m ρ σ (K:Fl->Env->St->Prop),I m ρ σ->(∀ m' ρ' σ',m' < m->I m' ρ' σ'->K .next ρ' σ')->(∀ v ρ' σ',Q (.ret v) ρ' σ'->K (.ret v) ρ' σ')->
   test ρ (fun b σ₁=>match b with
    | true=>body ρ (fun fl ρ₂ σ₂=>match fl with
     | .next=>K .next ρ₂ σ₂
     | .ret v=>K (.ret v) ρ₂ σ₂) σ₁
    | false=>Q .next ρ σ₁) σ):∀ (n m:Nat) ρ σ,m < n->I m ρ σ->Zpo test body n ρ Q σ
 | 0,m,ρ,σ,h,_=>absurd h (Nat.not_lt_zero _)
 | n + 1,m,ρ,σ,h,hI=>by
  exact step m ρ σ (fun fl ρ₂ σ₂=>match fl with
     | .next=>Zpo test body n ρ₂ Q σ₂
     | .ret v=>Q (.ret v) ρ₂ σ₂) hI (fun m' ρ' σ' hm hI'=>ZnT I step n m' ρ' σ' (ZsH h hm) hI') (fun v ρ' σ' q=>q)
theorem ZnZ {T:Tab} {C:Cal} {ρ:Env} {σ:St} {t:LE} {b r:List LS} {Q:Fl->Env->St->Prop} (I:Nat->Env->St->Prop) (m:Nat) (h0:I m ρ σ)
  (step:∀ m ρ σ (K:Fl->Env->St->Prop),I m ρ σ->(∀ m' ρ' σ',m' < m->I m' ρ' σ'->K .next ρ' σ')->(∀ v ρ' σ',aft T C r Q (.ret v) ρ' σ'->K (.ret v) ρ' σ')->
   wpB T C t ρ (fun b' σ₁=>match b' with
    | true=>ZJ T C b ρ (fun fl ρ₂ σ₂=>match fl with
     | .next=>K .next ρ₂ σ₂
     | .ret v=>K (.ret v) ρ₂ σ₂) σ₁
    | false=>aft T C r Q .next ρ σ₁) σ):ZJ T C (.whl t b::r) ρ Q σ:=by
 rw [WT1,WS7]
 exact ⟨m + 1,ZnT (test:=fun ρ Q σ=>wpB T C t ρ Q σ) (body:=fun ρ Q σ=>ZJ T C b ρ Q σ) (Q:=aft T C r Q) I step (m + 1) m ρ σ (Nat.lt_succ_self m) h0⟩
theorem Zbw {σ:St} {a d:Addr} {c x:Nat} {fs:Env} {v:LV} (ha:σ a=some (.inst c d)) (hd:σ d=some (.ns fs)) (hm:TT0.meth c x=none) (hv:Zo fs x=some v):ZdO TT0 σ (.ref a) x=some v:=by
 unfold ZdO
 rw [ZfD ha hd,hm]
 exact hv
theorem ZrW {σ:St} {a d:Addr} {c x f:Nat} {fs:Env} (ha:σ a=some (.inst c d)) (hd:σ d=some (.ns fs)) (hm:TT0.meth c x=some f) (hv:Zo fs x=none):ZdO TT0 σ (.ref a) x=some (.bm f (.ref a)):=by
 unfold ZdO
 rw [ZfD ha hd,hm,hv]; rfl
theorem Zem {σ:St} {a d:Addr} {c x f:Nat} {fs:Env} (ha:σ a=some (.inst c d)) (hd:σ d=some (.ns fs)) (hm:TT0.meth c x=some f) (hv:Zo fs x=none):Zao TT0 σ (.ref a) x=some f:=by
 unfold Zao
 rw [ZfD ha hd,hv]
 exact hm
theorem Z5 {vs:List LV} {i:Nat} {v:LV} (h:vs[i]?=some v) (hl:vs.length<=1000000):Zeu vs (i:Int)=some v:=by
 have:i < vs.length:=by
  refine Or.elim (Nat.lt_or_ge i vs.length) (fun h'=>?_) fun h'=>?_
  ·exact h'
  ·rw [List.getElem?_eq_none h'] at h; exact nos h
 unfold Zeu
 rw [if_pos ⟨o6,ZsI hl this⟩]
 exact h
noncomputable abbrev Act:=Stm ⊕ End
noncomputable abbrev Pt:=Nat × Nat
noncomputable def ZaO (p:Pt):LV:=.tup [.int p.1,.int p.2]
noncomputable def Zf:Act->List Row
 | .inl s=>Zbu s
 | .inr e=>ZbO e
noncomputable def ZbK (B:Blk):List Act:=B.1.map .inl++[.inr B.2]
noncomputable def ZfW (b n:Nat):List Pt:=(List.range n).map fun i=>(b,i)
noncomputable def Zbt (b:Nat) (B:Blk):List (Pt × Act):=(ZfW b (B.1.length + 1)).zip (ZbK B)
noncomputable def Zn:Nat->List Blk->List (Pt × Act)
 | _,[]=>[]
 | b,B::r=>Zbt b B++Zn (b + 1) r
theorem Zni (b B r):Zn b (B::r)=Zbt b B++Zn (b + 1) r:=rfl
noncomputable def ZeP (bs:List Blk) (p:Pt) (a:Act):Prop:=∃ B,bs[p.1]?=some B/\((∃ s,B.1[p.2]?=some s/\a=.inl s)\/(p.2=B.1.length/\a=.inr B.2))
theorem Zfn (b:Nat) (B:Blk):(Zbt b B).map (·.1)=ZfW b (B.1.length + 1):=by
 exact List.map_fst_zip (by simp [ZfW,ZbK])
theorem ZjM (b:Nat) (B:Blk):(Zbt b B).map (·.2)=ZbK B:=by
 exact List.map_snd_zip (by simp [ZfW,ZbK])
theorem Zbm:∀ (b:Nat) (bs:List Blk),(Zn b bs).map (fun x=>ZaS (Zf x.2))=Zy bs
 | b,[]=>rfl
 | b,B::r=>by
  have h1:(Zbt b B).map (fun x=>ZaS (Zf x.2))=((Zbt b B).map (·.2)).map fun a=>ZaS (Zf a):=by rw [List.map_map]; rfl
  rw [Zni]
  rw [List.map_append,Zbm (b + 1) r,h1,ZjM]
  unfold Zy ZbK
  rw [List.flatMap_cons]
  congr 1
  rw [List.map_append,List.map_map]
  rfl
theorem ZjN (b:Nat) (bs:List Blk):(Zn b bs).length=(Zy bs).length:=by
 rw [<- Zbm b bs,List.length_map]
theorem Zhl:∀ (bs pre:List Blk) (x:Pt × Act),x ∈ Zn pre.length bs->ZeP (pre++bs) x.1 x.2
 | [],pre,x,h=>by cases h
 | B::r,pre,x,h=>by
  refine Or.elim (List.mem_append.mp h) (fun h=>?_) fun h=>?_
  ·unfold Zbt at h
   refine ZU (List.getElem_of_mem h) fun i hR0=>?_; obtain ⟨hi,e⟩:=hR0
   rw [List.getElem_zip] at e
   have hi':i < B.1.length + 1:=by
    rw [List.length_zip] at hi
    simp [ZfW,ZbK] at hi
    exact hi
   have e1:x.1=(pre.length,i):=by rw [<- e]; simp [ZfW]
   refine ⟨B,by rw [e1]; simp,?_⟩
   refine Or.elim (Nat.lt_or_ge i B.1.length) (fun h'=>?_) fun h'=>?_
   ·refine .inl ⟨B.1[i],by rw [e1]; exact List.getElem?_eq_getElem h',?_⟩
    rw [<- e]
    simp [ZbK,List.getElem_append_left,h']
   ·have:i=B.1.length:=ZsJ hi hi' h'
    subst this
    refine .inr ⟨by rw [e1],?_⟩
    rw [<- e]
    simp [ZbK]
  ·have:=Zhl r (pre++[B]) x (by rw [List.length_append]; exact h)
   rw [List.append_assoc] at this
   exact this
theorem Zbd {bs:List Blk} {x:Pt × Act} (h:x ∈ Zn 0 bs):ZeP bs x.1 x.2:=Zhl bs [] x h
noncomputable abbrev BDY (bs:List Blk) (sp:Addr):LV:=Zj8 (.lst (bs.map Za8)) sp
theorem Zal {σ:St} {bs:List Blk} {sp:Addr}:ZdO TT0 σ (BDY bs sp) 4=some (.lst (bs.map Za8)):=rfl
theorem Zd8 {σ:St} {bs:List Blk} {sp:Addr}:ZdO TT0 σ (BDY bs sp) 6=some (.lst (ZdH.map fun t=>.tup [t,.bool true,.none])):=rfl
theorem ZoC {σ:St} {bs:List Blk} {sp:Addr}:Zao TT0 σ (BDY bs sp) 11=some 2:=rfl
theorem ZrE {σ:St} {bs:List Blk} {sp:Addr}:Zao TT0 σ (BDY bs sp) 13=some 3:=rfl
theorem ZmH {σ:St} {bs:List Blk} {sp:Addr}:Zao TT0 σ (BDY bs sp) 37=some 1:=rfl
theorem Zn3 {σ:St} {bs:List Blk} {sp:Addr}:ZdO TT0 σ (BDY bs sp) 2=some (.int 0):=rfl
theorem ZfO {bs:List Blk} {b:Nat} {B:Blk} (h:bs[b]?=some B) (hl:bs.length<=1000000):Zeu (bs.map Za8) (b:Int)=some (Za8 B) :=
 Z5 (by rw [List.getElem?_map,h]; rfl) (by rw [List.length_map]; exact hl)
theorem Zf8 {n:Nat} (hn:1<=n) {bs:List Blk} {sp:Addr} {Q:LV->St->Prop} {σ:St} {l:Nat} {t:LV} (h:ZdH[l]?=some t) (k:Q t σ):CC n 1 [BDY bs sp,.int l] Q σ:=by
 refine Ze (lvl hn) fun m eQ0_1 _=>?_; subst eQ0_1
 refine Zd (fd:=f1) rfl rfl ?_
 have:Zeu (ZdH.map fun t=>.tup [t,.bool true,.none]) (l:Int)=some (.tup [t,.bool true,.none]):=Z5 (by rw [List.getElem?_map,h]; rfl) (by decide)
 exact ZI (ZG (ZG (Zt rfl Zd8 (E_p rfl (IN (s_l.trans this) (E_p rfl (IN rfl k)))))))
theorem Zif {n:Nat} (hn:1<=n) {bs:List Blk} {sp:Addr} {Q:LV->St->Prop} {σ:St} {b:Nat} {B:Blk} (h:bs[b]?=some B) (hl:bs.length<=1000000) (k:Q (.lst (B.1.map ZeL)) σ):CC n 2 [BDY bs sp,.int b] Q σ:=by
 refine Ze (lvl hn) fun m eQ0_1 _=>?_; subst eQ0_1
 refine Zd (fd:=f2) rfl rfl ?_
 exact ZI (ZG (ZG (Zt rfl Zal (E_p rfl (IN (s_l.trans (ZfO h hl)) (E_p rfl (IN rfl k)))))))
theorem Zo5 {n:Nat} (hn:1<=n) {bs:List Blk} {sp:Addr} {Q:LV->St->Prop} {σ:St} {b:Nat} {B:Blk} (h:bs[b]?=some B) (hl:bs.length<=1000000) (k:Q (Zgz B.2) σ):CC n 3 [BDY bs sp,.int b] Q σ:=by
 refine Ze (lvl hn) fun m eQ0_1 _=>?_; subst eQ0_1
 refine Zd (fd:=f3) rfl rfl ?_
 exact ZI (ZG (ZG (Zt rfl Zal (E_p rfl (IN (s_l.trans (ZfO h hl)) (E_p rfl (IN rfl k)))))))
noncomputable def ZfX (bs:List Blk):List LV:=(Zn 0 bs).map fun x=>ZaO x.1
theorem Zfo (b:Nat) (bs:List Blk) (B:Blk):Zn b (bs++[B])=Zn b bs++Zbt (b + bs.length) B:=by
 induction bs generalizing b with
 | nil=>simp [Zn]
 | cons C r ih =>
  simp only [List.cons_append,Zn,ih,List.append_assoc,List.length_cons]
  rw [show b + 1 + r.length=b + (r.length + 1) by exact o17]
structure Small (bs:List Blk):Prop where
 n:bs.length<=10
 b:∀ B ∈ bs,B.1.length<=10
theorem Zht {σ:St} {xs:List LV} {n:Nat} (h:xs.length=n) (hn:n<=1000000):biL .len_ σ [.lst xs]=some (.int (n:Int)):=by
 subst h; exact l_l.trans (if_pos hn)
theorem Zqc {σ:St} {xs:List LV} {n:Nat} (h:xs.length=n) (hn:n<=1000000):biL .len_ σ [.tup xs]=some (.int (n:Int)):=by
 subst h; exact l_t.trans (if_pos hn)
theorem Zr4 {σ:St} {r:Addr} {xs:List LV} {n:Nat} (hr:σ r=some (.list xs)) (h:xs.length=n) (hn:n<=1000000):biL .len_ σ [.ref r]=some (.int (n:Int)):=by
 subst h; exact (l_r hr).trans (if_pos hn)
noncomputable def Zrb (c:LV) (K:LV->Prop):Prop:=match c with
 | .int i=>∀ k,i + 1=k->K (.int k)
 | _=>False
theorem Zn2 {σ:St} {c:LV} {K:LV->Prop}:ZC (ZdT .Add σ c (.int 1)) K=Zrb c K:=by
 cases c with
 | int i =>
  apply propext
  constructor
  ·intro h k e
   subst e
   exact h
  ·intro h
   exact h (i + 1) rfl
 | _=>rfl
theorem Zgh {T:Tab} {C:Cal} {ρ:Env} {σ:St} {e:LE} {Q:LV->St->Prop} (h:wpE T C e ρ (fun v σ₁=>ZC (biL .len_ σ₁ [v]) fun c=>Zrb c fun u=>Q u σ₁) σ):wpE T C (.bin .Add (.bi .len_ [e]) (.k (.int 1))) ρ Q σ:=by
 refine ZaN (Zs ?_)
 have:(fun v σ₁=>ZC (biL .len_ σ₁ [v]) fun c=>Zrb c fun u=>Q u σ₁)=(fun v σ₁=>ZC (biL .len_ σ₁ [v]) fun c=>wpE T C (.k (.int 1)) ρ (fun b σ₂=>ZC (ZdT .Add σ₂ c b) fun c=>Q c σ₂) σ₁):=by
  funext v σ₁
  congr 1
  funext c
  rw [WE0,Zn2]
 rw [this] at h
 exact h
theorem ZeO {σ:St} {a:Addr} {o o':Option LO}:upd (upd σ a o) a o'=upd σ a o':=by funext x; unfold upd; split <;> rfl
noncomputable def Zq8 (bs:List Blk) (sp b:Addr) (σ:St) (i:Nat) (ρ:Env) (σ₁:St):Prop :=
 (ρ=[(9,BDY bs sp),(10,.ref b)]\/∃ x,ρ=[(9,BDY bs sp),(10,.ref b),(8,x)])/\∃ p:List LV,p.length<=11 * i/\p=(Zn 0 (bs.take i)).map (fun x=>ZaO x.1)/\σ₁=upd σ b (some (.list p))
theorem Zh5 {m:Nat} (hm:1<=m) {bs:List Blk} {sp b:Addr} {σ:St} (hs:Small bs) (i:Nat) (ρ:Env) (σ₁:St) (K:Fl->Env->St->Prop) (hi:i < bs.length) (hI:Zq8 bs sp b σ i ρ σ₁)
  (kn:∀ ρ' σ',Zq8 bs sp b σ (i + 1) ρ' σ'->K .next ρ' σ'):ZC (Z0 (.nm 8) (.int (i:Int)) ρ) fun ρ₁=>ZJ TT0 (CC m) [.expr (.lm (.v 10) .extend [(.comp false [8] (.tup [(.v 8),(.v 12)]) (.nm 12) (.bi .range_ [(.bin .Add (.bi .len_ [(.meth (.v 9) 11 [(.v 8)])]) (.k (.int 1)))]) none)])] ρ₁ K σ₁:=by
 obtain ⟨hρ,p,hpl,hp,rfl⟩:=hI
 have hl:=hs.n
 have hbl:bs.length<=1000000:=o0 hl
 have hb₁:(upd σ b (some (.list p))) b=some (.list p):=Zb ..
 have hB:bs[i]?=some bs[i]:=List.getElem?_eq_getElem hi
 have hBl:bs[i].1.length<=10:=hs.b _ (List.getElem_mem hi)
 generalize bs[i]=B at hB hBl
 obtain ⟨L,hLL⟩:∃ L,(B.1.map ZeL).length=L:=⟨_,rfl⟩
 obtain ⟨N,hN⟩:∃ N,B.1.length + 1=N:=⟨_,rfl⟩
 have hN1:(L:Int) + 1=(N:Int):=by rw [List.length_map] at hLL; exact ZsK hLL hN
 have hLl:L<=1000000:=by rw [List.length_map] at hLL; exact ZsL hBl hLL
 have hup:upd (upd σ b (some (.list p))) b (some (.list (p++(ZfW i N).map ZaO)))=upd σ b (some (.list (p++(ZfW i N).map ZaO))):=ZeO
 have hpp:p++(ZfW i N).map ZaO=(Zn 0 (bs.take (i + 1))).map (fun x=>ZaO x.1):=by
  rw [hp,List.take_succ,hB,<- hN]
  show _=((Zn 0 (bs.take i++[B])).map _)
  rw [Zfo,List.map_append,<- Zfn,List.map_map,List.length_take,Nat.min_eq_left (o46 hi),Nat.zero_add]
  rfl
 have hpl2:(p++(ZfW i N).map ZaO).length<=11 * (i + 1):=by simp [ZfW]; exact ZsM hpl hBl hN
 have he:(Zgd N).map (fun v=>.tup [.int i,v])=(ZfW i N).map ZaO:=by
  unfold Zgd ZfW
  rw [List.map_map,List.map_map]
  rfl
 have hNl:N<=11:=o26 hBl hN
 have hlen:p.length + ((ZfW i N).map ZaO).length<=1000000:=by rw [List.length_append] at hpl2; exact ZsN hi hl hpl2
 have mono:∀ x,K .next [(9,BDY bs sp),(10,.ref b),(8,x)] (upd σ b (some (.list (p++(ZfW i N).map ZaO)))):=fun x=>kn _ _ ⟨.inr ⟨_,rfl⟩,_,hpl2,hpp,rfl⟩
 clear kn hpp hpl2 hp
 rcases hρ with rfl | ⟨x,rfl⟩
 all_goals
  refine IN rfl (ZaR (ZbH (E_p rfl (IN (o_r hb₁) (Za (ZaY (Zs (Zgh (ZbZ rfl ZoC rfl (Zif hm hB hbl (IN (Zht hLL hLl) ?_)))))))))))
  intro N' hN'
  have:N'=(N:Int):=ZsO hN1 hN'
  subst this
  refine IN (Zag (o11 hBl hN)) (IN (ZS _) (IN rfl ⟨by rw [ZbW]; exact ZsP hBl hN,?_⟩))
  refine ZcV (f:=fun v=>.tup [.int i,v]) _ [] _ (fun y hy=>⟨_,rfl,rfl⟩) (ZcA (Zj ?_))
  rw [List.nil_append,he]
  show ZC (Znb _ _) _
  refine IN (ZfZ hb₁) (IN rfl ⟨hlen,by simp,Zh ?_⟩)
  rw [hup]
  exact mono _
theorem ZeC {n:Nat} (hn:2<=n) {bs:List Blk} {sp:Addr} {Q:LV->St->Prop} {σ:St} (hs:Small bs)
  (k:∀ σ',Zw Zr σ σ'->Q (.lst (ZfX bs)) σ'):CC n 4 [BDY bs sp] Q σ:=by
 refine Ze (lvl hn) fun m eQ0_1 hm=>?_; subst eQ0_1
 have hl:=hs.n
 have hl':(bs.map Za8).length<=1000000:=by rw [List.length_map]; exact o0 hl
 refine Zd (fd:=f4) rfl rfl ?_
 refine Zk (Zbq rfl (Zb5 fun b hb=>IN rfl ?_))
 refine ZO (Zs (Zs (Zt rfl Zal (IN (l_l.trans (if_pos hl')) ?_))))
 refine IN (Zag hl') (IN (ZS _) ?_)
 rw [List.length_map]
 refine Zbx (Zq8 bs sp b σ) (fun i ρ σ₁ K hi hI kn kr=>Zh5 hm hs i ρ σ₁ K hi hI kn) (fun ρ σ₁ hI=>?_) ⟨.inl rfl,[],by simp,rfl,rfl⟩
 refine ZL hI fun hρ hR0=>?_; refine Zdk hR0 fun p hpl hp eQ1_3=>?_; subst eQ1_3
 have hb₁:(upd σ b (some (.list p))) b=some (.list p):=Zb ..
 rw [List.take_length] at hp
 have fin:Zgb TT0 (.ref b) Q (upd σ b (some (.list p))):=by
  unfold Zgb
  dsimp only
  rw [hb₁,hp]
  refine k _ ?_
  rw [ZeO]
  exact Zw.new hb
 rcases hρ with rfl | ⟨x,rfl⟩
 ·exact ZI (Zd3 (E_p rfl fin))
 ·exact ZI (Zd3 (E_p rfl fin))
noncomputable def ZmJ (p:Pl):LV:=.tup [.w 75,ZB p]
noncomputable def Zro (p:Pl):LV:=.tup [.w 136,ZB p]
noncomputable def ZoP:Act->List LV
 | .inl (.mv a b)=>[ZmJ a.1]
 | .inl (.bin a b)=>[ZmJ a.1,ZmJ b.1]
 | .inl (.num a)=>[.tup [.w 133,Zev,.int 5]]
 | .inl (.cpy a)=>[Zro a.1]
 | .inl (.prt a)=>[ZmJ a.1]
 | .inl (.lv _ _)=>[]
 | .inr (.goto _)=>[]
 | .inr (.drop _ _)=>[]
 | .inr (.call a b _)=>[ZmJ a.1,Zro b.1]
 | .inr .ret=>[]
noncomputable def Zsc:Act->Option Pl
 | .inl (.mv a b)=>some b.1
 | .inl (.bin a b)=>some (0,[])
 | .inl (.num a)=>some a.1
 | .inl (.cpy a)=>some (4,[])
 | .inr (.call a b _)=>some b.1
 | _=>none
noncomputable def Zr3:Act->Option Pl
 | .inr (.drop a _)=>some a.1
 | _=>none
noncomputable def Zr9:Act->Option Nat
 | .inl (.lv _ l)=>some l
 | _=>none
noncomputable def ZbF:Option Pl->LV
 | some p=>ZB p
 | none=>.none
noncomputable def Zdc:Option Nat->LV
 | some p=>.int p
 | none=>.none
noncomputable def Zpl:Stm->LV
 | .mv a b=>.tup [.w 40,ZmJ a.1]
 | .bin a b=>.tup [.w 41,.w 134,ZmJ a.1,ZmJ b.1]
 | .num a=>.tup [.w 40,.tup [.w 133,Zev,.int 5]]
 | .cpy a=>.tup [.w 40,Zro a.1]
 | _=>.none
theorem ZbG {bs:List Blk} (hs:Small bs) {b:Nat} {B:Blk} (h:bs[b]?=some B):B.1.length<=10:=hs.b B (List.mem_of_getElem? h)
theorem ZR {α:Type} {xs:List α} {i:Nat} {x:α} (h:xs[i]?=some x):i < xs.length:=by
 refine Or.elim (Nat.lt_or_ge i xs.length) (fun h'=>?_) fun h'=>?_
 ·exact h'
 ·rw [List.getElem?_eq_none h'] at h; exact nos h
theorem ZjV {T:Tab} {C:Cal} {ρ:Env} {σ:St} {e t:LE} {i:Nat} (js:List Nat) {Q:LV->St->Prop} (h1:evp T ρ e=some (.w i)) (h2:evp T ρ t=some (.tup (js.map .w))) (k:Q (.bool (js.contains i)) σ):wpE T C (.cmp .In e t) ρ Q σ :=
 ZF (E_p h1 (E_p h2 (IN ZhA k)))
theorem Zl1 {T:Tab} {C:Cal} {ρ:Env} {σ:St} {e t:LE} {i:Nat} {a b r:List LS} (js:List Nat) {Q:Fl->Env->St->Prop} (h1:evp T ρ e=some (.w i)) (h2:evp T ρ t=some (.tup (js.map .w))) (h3:js.contains i=true) (k:ZJ T C a ρ (aft T C r Q) σ):ZJ T C (.ifs (.cmp .In e t) a b::r) ρ Q σ :=
 Zb6 (ZjV js h1 h2 (ZcR h3 k))
theorem Zq9 {T:Tab} {C:Cal} {ρ:Env} {σ:St} {e t:LE} {i:Nat} {a r:List LS} (js:List Nat) {Q:Fl->Env->St->Prop} (h1:evp T ρ e=some (.w i)) (h2:evp T ρ t=some (.tup (js.map .w))) (h3:js.contains i=false) (k:ZJ T C r ρ Q σ):ZJ T C (.ifs (.cmp .In e t) a []::r) ρ Q σ :=
 Zb6 (ZjV js h1 h2 (Zbg h3 (Zh k)))
theorem ZfS {n:Nat} (hn:1<=n) {Q:LV->St->Prop} {σ:St} {s:Stm} (hs:Zpl s ≠ .none) (k:Q (.lst (ZoP (.inl s))) σ):CC n 9 [Zpl s] Q σ:=by
 refine Ze (lvl hn) fun m eQ0_1 _=>?_; subst eQ0_1
 refine Zd (fd:=f9) rfl rfl ?_
 cases s with
 | mv a b=>exact Z7 rfl rfl (Zl1 [40,34] rfl rfl rfl (ZE rfl k))
 | bin a b=>exact Z7 rfl rfl (Zq9 [40,34] rfl rfl rfl (Zl1 [41,42] rfl rfl rfl (ZE rfl k)))
 | num a=>exact Z7 rfl rfl (Zl1 [40,34] rfl rfl rfl (ZE rfl k))
 | cpy a=>exact Z7 rfl rfl (Zl1 [40,34] rfl rfl rfl (ZE rfl k))
 | prt a=>exact absurd rfl hs
 | lv b l=>exact absurd rfl hs
theorem Zez {n:Nat} (hn:2<=n) {bs:List Blk} {sp:Addr} {Q:LV->St->Prop} {σ:St} (hs:Small bs) {p:Pt} {a:Act} (h:ZeP bs p a)
  (k:Q (.lst (ZoP a)) σ):CC n 10 [BDY bs sp,ZaO p] Q σ:=by
 obtain ⟨m,rfl,hm⟩:=lvl hn
 obtain ⟨B,hB,h⟩:=h
 have hb:=ZbG hs hB
 have hbl:bs.length<=1000000:=by have:=hs.n; exact o0 this
 have hL:(B.1.map ZeL).length=B.1.length:=List.length_map ..
 obtain ⟨b,i⟩:=p
 dsimp only at hB h
 refine Zd (fd:=f10) rfl rfl ?_
 refine Z7 rfl rfl ?_
 refine Zb6 (ZF (E_p rfl (Zs (ZbZ rfl ZoC rfl (Zif hm hB hbl (IN (Zht hL (o0 hb)) (IN Zph ?_)))))))
 rcases h with ⟨s,hi,rfl⟩ | ⟨rfl,rfl⟩
 ·have hlt:=ZR hi
  refine ZcR (decide_eq_true (o12 hlt)) ?_
  have hn:Zeu (B.1.map ZeL) (i:Int)=some (ZeL s):=Z5 (by rw [List.getElem?_map,hi]; rfl) (o27 hb hL)
  refine Zk (ZG (ZbZ rfl ZoC rfl (Zif hm hB hbl (E_p rfl (IN (s_l.trans hn) (IN rfl ?_))))))
  clear hn hL hi hlt
  cases s with
  | mv a b=>exact Za7 rfl (ZI (ZaA rfl rfl (ZfS (s:=.mv a b) hm (by simp [Zpl]) k)))
  | bin a b=>exact Za7 rfl (ZI (ZaA rfl rfl (ZfS (s:=.bin a b) hm (by simp [Zpl]) k)))
  | num a=>exact Za7 rfl (ZI (ZaA rfl rfl (ZfS (s:=.num a) hm (by simp [Zpl]) k)))
  | cpy a=>exact Za7 rfl (ZI (ZaA rfl rfl (ZfS (s:=.cpy a) hm (by simp [Zpl]) k)))
  | prt a=>exact Zv rfl (ZE rfl k)
  | lv b l=>cases b <;> exact Zv rfl (ZE rfl k)
 ·refine Zbg (decide_eq_false o28) (Zh ?_)
  show ZJ TT0 (CC m) (_::_) _ _ _
  refine Zk (ZbZ rfl ZrE rfl (Zo5 hm hB hbl (IN rfl ?_)))
  clear hL hb hB
  obtain ⟨ss,e⟩:=B
  dsimp only at k ⊢
  generalize ss.length=L
  cases e with
  | goto g=>exact Zv rfl (ZI (Zdl (ZjV [17,21] rfl rfl (Zbg rfl (E_p rfl k)))))
  | drop a g=>exact Zv rfl (ZI (Zdl (ZjV [17,21] rfl rfl (Zbg rfl (E_p rfl k)))))
  | call a b g=>exact Za7 rfl (ZI (ZlV rfl rfl k))
  | ret=>exact Zv rfl (ZI (Zdl (ZjV [17,21] rfl rfl (Zbg rfl (E_p rfl k)))))
theorem Zjo {bs:List Blk} (hs:Small bs) {b:Nat} {B:Blk} (h:bs[b]?=some B):Zeu (bs.map Za8) (b:Int)=some (.lst [.lst (B.1.map ZeL),Zgz B.2]):=ZfO h (by have:=hs.n; exact o0 this)
theorem Zfp {n:Nat} (hn:1<=n) {bs:List Blk} {sp:Addr} {Q:LV->St->Prop} {σ:St} (hs:Small bs) {p:Pt} {a:Act} (h:ZeP bs p a)
  (k:Q (ZbF (Zsc a)) σ):CC n 15 [BDY bs sp,ZaO p] Q σ:=by
 obtain ⟨m,rfl,hm⟩:=lvl hn
 obtain ⟨B,hB,h⟩:=h
 have hb:=ZbG hs hB
 have hL:(B.1.map ZeL).length=B.1.length:=List.length_map ..
 obtain ⟨b,i⟩:=p
 dsimp only at hB h
 refine Zd (fd:=f15) rfl rfl ?_
 refine Z7 rfl rfl ?_
 refine Zk (ZG (Zt rfl Zal (E_p rfl (IN (s_l.trans (Zjo hs hB)) (IN rfl ?_)))))
 refine Zb6 (ZF (E_p rfl (Zs (E_p rfl (IN (Zht hL (o0 hb)) (IN Zph ?_))))))
 rcases h with ⟨s,hi,rfl⟩ | ⟨rfl,rfl⟩
 ·have hlt:=ZR hi
  refine ZcR (decide_eq_true (o12 hlt)) ?_
  have hn:Zeu (B.1.map ZeL) (i:Int)=some (ZeL s):=Z5 (by rw [List.getElem?_map,hi]; rfl) (o27 hb hL)
  refine ZI (Zdl (ZF (ZG (ZG (E_p rfl (E_p rfl (IN (s_l.trans hn) (E_p rfl ?_))))))))
  cases s with
  | mv a b=>exact IN rfl (E_p rfl (IN Zns (ZcR rfl (ZG (ZG (E_p rfl (E_p rfl (IN (s_l.trans hn) (E_p rfl (IN rfl k))))))))))
  | bin a b=>exact IN rfl (E_p rfl (IN Zns (ZcR rfl (ZG (ZG (E_p rfl (E_p rfl (IN (s_l.trans hn) (E_p rfl (IN rfl k))))))))))
  | num a=>exact IN rfl (E_p rfl (IN Zns (ZcR rfl (ZG (ZG (E_p rfl (E_p rfl (IN (s_l.trans hn) (E_p rfl (IN rfl k))))))))))
  | cpy a=>exact IN rfl (E_p rfl (IN Zns (ZcR rfl (ZG (ZG (E_p rfl (E_p rfl (IN (s_l.trans hn) (E_p rfl (IN rfl k))))))))))
  | prt a=>exact IN rfl (E_p rfl (IN Zns (Zbg rfl (E_p rfl k))))
  | lv b l=>cases b <;> exact IN rfl (E_p rfl (IN Zns (Zbg rfl (E_p rfl k))))
 ·refine Zbg (decide_eq_false o28) (Zh ?_)
  show ZJ TT0 (CC m) (_::_) _ _ _
  clear hL hb hB
  obtain ⟨ss,e⟩:=B
  dsimp only at k ⊢
  generalize ss.length=L
  cases e with
  | goto g=>exact ZE rfl k
  | drop a g=>exact ZE rfl k
  | call a b g=>exact ZE rfl k
  | ret=>exact ZE rfl k
theorem Ze3 {n:Nat} (hn:1<=n) {bs:List Blk} {sp:Addr} {Q:LV->St->Prop} {σ:St} (hs:Small bs) {p:Pt} {a:Act} (h:ZeP bs p a)
  (k:Q (ZbF (Zr3 a)) σ):CC n 16 [BDY bs sp,ZaO p] Q σ:=by
 obtain ⟨m,rfl,hm⟩:=lvl hn
 obtain ⟨B,hB,h⟩:=h
 have hb:=ZbG hs hB
 have hL:(B.1.map ZeL).length=B.1.length:=List.length_map ..
 obtain ⟨b,i⟩:=p
 dsimp only at hB h
 refine Zd (fd:=f16) rfl rfl ?_
 refine Z7 rfl rfl ?_
 refine Zk (ZG (Zt rfl Zal (E_p rfl (IN (s_l.trans (Zjo hs hB)) (IN rfl ?_)))))
 refine ZI (Zdl (ZaP (ZF (E_p rfl (Zs (E_p rfl (IN (Zht hL (o0 hb)) (IN ZlR ?_))))))))
 rcases h with ⟨s,hi,rfl⟩ | ⟨rfl,rfl⟩
 ·have hlt:=ZR hi
  have hne:decide ((i:Int)=(B.1.length:Int))=false:=decide_eq_false (ZsQ hlt)
  dsimp only
  rw [hne]
  have k':Q .none σ:=by cases s <;> exact k
  exact ZdP rfl (Zbg rfl (E_p rfl k'))
 ·have hne:decide (((B.1.length:Nat):Int)=(B.1.length:Int))=true:=decide_eq_true rfl
  dsimp only
  rw [hne]
  clear hL hb hB hne
  obtain ⟨ss,e⟩:=B
  dsimp only at k ⊢
  generalize ss.length=L
  cases e with
  | goto g=>exact ZbL rfl (E_p rfl (Zbg rfl (E_p rfl k)))
  | drop a g=>exact ZbL rfl (E_p rfl (ZcR rfl (E_p rfl k)))
  | call a b g=>exact ZbL rfl (E_p rfl (Zbg rfl (E_p rfl k)))
  | ret=>exact ZbL rfl (E_p rfl (Zbg rfl (E_p rfl k)))
theorem ZlM {n:Nat} (hn:1<=n) {bs:List Blk} {sp:Addr} {Q:LV->St->Prop} {σ:St} (hs:Small bs) {p:Pt} {a:Act} (h:ZeP bs p a)
  (k:Q (Zdc (Zr9 a)) σ):CC n 17 [BDY bs sp,ZaO p] Q σ:=by
 obtain ⟨m,rfl,hm⟩:=lvl hn
 obtain ⟨B,hB,h⟩:=h
 have hb:=ZbG hs hB
 have hL:(B.1.map ZeL).length=B.1.length:=List.length_map ..
 obtain ⟨b,i⟩:=p
 dsimp only at hB h
 refine Zd (fd:=f17) rfl rfl ?_
 refine Z7 rfl rfl ?_
 refine Zk (ZG (ZG (Zt rfl Zal (E_p rfl (IN (s_l.trans (Zjo hs hB)) (E_p rfl (IN rfl (IN rfl ?_))))))))
 refine Zb6 (ZaP (ZF (E_p rfl (Zs (E_p rfl (IN (Zht hL (o0 hb)) (IN Zph ?_)))))))
 rcases h with ⟨s,hi,rfl⟩ | ⟨rfl,rfl⟩
 ·have hlt:=ZR hi
  have hn:Zeu (B.1.map ZeL) (i:Int)=some (ZeL s):=Z5 (by rw [List.getElem?_map,hi]; rfl) (o27 hb hL)
  have hne:decide ((i:Int) < (B.1.length:Int))=true:=decide_eq_true (o12 hlt)
  dsimp only
  rw [hne]
  refine ZbL rfl (ZF (ZG (ZG (E_p rfl (E_p rfl (IN (s_l.trans hn) (E_p rfl ?_)))))))
  cases s with
  | mv a b=>exact IN rfl (E_p rfl (IN (ZhA (js:=[64,65])) (Zbg rfl (Zh (ZE rfl k)))))
  | bin a b=>exact IN rfl (E_p rfl (IN (ZhA (js:=[64,65])) (Zbg rfl (Zh (ZE rfl k)))))
  | num a=>exact IN rfl (E_p rfl (IN (ZhA (js:=[64,65])) (Zbg rfl (Zh (ZE rfl k)))))
  | cpy a=>exact IN rfl (E_p rfl (IN (ZhA (js:=[64,65])) (Zbg rfl (Zh (ZE rfl k)))))
  | prt a=>exact IN rfl (E_p rfl (IN (ZhA (js:=[64,65])) (Zbg rfl (Zh (ZE rfl k)))))
  | lv b l=>cases b <;> exact IN rfl (E_p rfl (IN (ZhA (js:=[64,65])) (ZcR rfl (ZI (ZG (ZG (E_p rfl (E_p rfl (IN (s_l.trans hn) (E_p rfl (IN rfl k)))))))))))
 ·have hne:decide (((B.1.length:Nat):Int) < (B.1.length:Int))=false:=decide_eq_false o28
  dsimp only
  rw [hne]
  have k':Q .none σ:=by cases hB':B.2 <;> (rw [hB'] at k; exact k)
  exact ZdP rfl (Zbg rfl (Zh (ZE rfl k')))
theorem Zah {t:Tg} {body:Env->(Fl->Env->St->Prop)->St->Prop} {x:LV} {xs:List LV} {ρ ρ₁:Env} {Q:Fl->Env->St->Prop} {σ:St} (h:Z0 t x ρ=some ρ₁) (k:body ρ₁ (fun fl ρ₂ σ₂=>match fl with
   | .next=>Ze6 t body xs ρ₂ Q σ₂
   | .ret v=>Q (.ret v) ρ₂ σ₂) σ):Ze6 t body (x::xs) ρ Q σ:=by
 exact IN h k
theorem Za1 {t:Tg} {body:Env->(Fl->Env->St->Prop)->St->Prop} {ρ:Env} {Q:Fl->Env->St->Prop} {σ:St} (k:Q .next ρ σ):Ze6 t body [] ρ Q σ:=k
theorem Zmo {n:Nat} (hn:1<=n) {Q:LV->St->Prop} {σ:St} {ts:List LV} {i:Int} {t:LV} (h:Zpm (.tup ts) (.int i)=some t) (k:Q t σ):CC n 6 [.tup [.w 25,.tup ts],.int 0,.int i,.none] Q σ:=by
 refine Ze (lvl hn) fun m eQ0_1 _=>?_; subst eQ0_1
 refine Zd (fd:=f6) rfl rfl ?_
 exact Za7 rfl (ZE h k)
theorem ZfV {n:Nat} (hn:2<=n) {Q:LV->St->Prop} {σ:St} {ts:List LV} {i:Int} {t:LV} (h:Zpm (.tup ts) (.int i)=some t) (k:Q (.tup [t,.int 0]) σ):CC n 7 [.tup [.w 25,.tup ts],.int 0,.tup [.w 30,.int i],.none] Q σ:=by
 refine Ze (lvl hn) fun m eQ0_1 hm=>?_; subst eQ0_1
 refine Zd (fd:=f7) rfl rfl ?_
 refine Z7 rfl rfl (Zv rfl (Za7 rfl (ZI (Zax (Za (ZaA rfl rfl (Zmo hm h (Za (E_p rfl (Zj k))))))))))
noncomputable def ZqK (p:Pl):Option LV :=
 if p=(1,[.f0,.f1]) then some (.tup [.w 34,Zev]) else if p=(1,[.f1]) then some (.tup [.w 34,Zev]) else
 if p=(2,[]) then some (.tup [.w 34,Zhd]) else if p=(3,[]) then some (.tup [.w 33,.none,.bool true,Zhd]) else none
theorem Zm9 {n:Nat} (hn:3<=n) {bs:List Blk} {sp:Addr} {Q:LV->St->Prop} {σ:St} {p:Pl} {t:LV} (h:ZqK p=some t) (k:Q t σ):CC n 8 [BDY bs sp,ZB p,.none] Q σ:=by
 obtain ⟨m,rfl,hm⟩:=lvl hn
 refine Zd (fd:=f8) rfl rfl ?_
 refine ifs h (fun e h=>?_) fun _ h=>ifs h (fun e h=>?_) fun _ h=>ifs h (fun e h=>?_) fun _ h=>ifs h (fun e h=>?_) fun _ h=>nos h
 ·subst e
  obtain rfl:=Option.some.inj h
  refine Zk (Zax (Za (ZbZ rfl ZmH rfl (Zf8 (l:=1) (o4 hm) rfl (Za (E_p rfl (Zj (IN rfl ?_))))))))
  refine Zgi rfl rfl (Zah rfl (Zk (ZaA rfl rfl (ZfV hm rfl (IN rfl (Zh (Zah rfl (Zk (ZaA rfl rfl (ZfV hm rfl (IN rfl (Zh (Za1 ?_)))))))))))))
  exact ZE rfl k
 ·subst e
  obtain rfl:=Option.some.inj h
  refine Zk (Zax (Za (ZbZ rfl ZmH rfl (Zf8 (l:=1) (o4 hm) rfl (Za (E_p rfl (Zj (IN rfl ?_))))))))
  refine Zgi rfl rfl (Zah rfl (Zk (ZaA rfl rfl (ZfV hm rfl (IN rfl (Zh (Za1 ?_)))))))
  exact ZE rfl k
 ·subst e
  obtain rfl:=Option.some.inj h
  refine Zk (Zax (Za (ZbZ rfl ZmH rfl (Zf8 (l:=2) (o4 hm) rfl (Za (E_p rfl (Zj (IN rfl ?_))))))))
  exact Zgi rfl rfl (Za1 (ZE rfl k))
 ·subst e
  obtain rfl:=Option.some.inj h
  refine Zk (Zax (Za (ZbZ rfl ZmH rfl (Zf8 (l:=3) (o4 hm) rfl (Za (E_p rfl (Zj (IN rfl ?_))))))))
  exact Zgi rfl rfl (Za1 (ZE rfl k))
structure PS where
 a:Addr
 d:Addr
 pl:Addr
 pa:Addr
 ki:Addr
 nu:Addr
 lo:Addr
 bs:List Blk
 sp:Addr
noncomputable abbrev PS.fs (g:PS):Env:=[(9,BDY g.bs g.sp),(24,.none),(66,.ref g.pl),(67,.ref g.pa),(68,.ref g.ki),(69,.ref g.nu),(70,.ref g.lo)]
structure IsP (g:PS) (σ:St):Prop where
 a:σ g.a=some (.inst 1 g.d)
 d:σ g.d=some (.ns g.fs)
theorem IsP.same {g:PS} {σ σ':St} {X:Addr->Prop} (h:IsP g σ) (s:Zw X σ σ') (ha:¬ X g.a) (hd:¬ X g.d):IsP g σ':=⟨s.some h.a ha,s.some h.d hd⟩
noncomputable def ZcL (e:Ent):Prop:=e ∈ Zbe\/∃ l,e=((l,[]),0)
noncomputable def Zad (e:Ent):Pl:=(e.1.1,e.1.2.take e.2)
section
variable {m:Nat} {g:PS} {σ:St}
noncomputable def ZpQ:List LS:=[.ifs (.cmp .Eq (.sub (.sub (.v 79) (.v 82)) (.k (.int 0))) (.k (.w 12))) [.ret (.v 82)] [],.ifs (.cmp .Eq (.sub (.sub (.v 79) (.v 82)) (.k (.int 0))) (.k (.w 32))) [.ifs (.cmp .Eq (.sub (.call (.g 83) [(.attr (.v 0) 9),(.tup [(.v 7),(.slc (.v 79) (.v 82))]),(.attr (.v 0) 24)]) (.k (.int 0))) (.k (.w 33))) [.ret (.v 82)] []] []]
theorem Zpi (hm:3<=m) (P:IsP g σ) {ρ:Env} {p:Pl} {t:LV} {x:Nat} {Q:Fl->Env->St->Prop} (h0:evp TT0 ρ (.v 0)=some (.ref g.a)) (hp:evp TT0 ρ (.tup [(.v 7),(.slc (.v 79) (.v 82))])=some (ZB p)) (ht:ZqK p=some t) (hx:Zpm t (.int 0)=some (.w x))
  (h1:evp TT0 ρ (.cmp .Eq (.sub (.sub (.v 79) (.v 82)) (.k (.int 0))) (.k (.w 12)))=some (.bool false)) (h2:evp TT0 ρ (.cmp .Eq (.sub (.sub (.v 79) (.v 82)) (.k (.int 0))) (.k (.w 32)))=some (.bool true))
  (k:ZJ TT0 (CC m) (if Nat.beq x 33 then [.ret (.v 82)] else []) ρ Q σ):ZJ TT0 (CC m) ZpQ ρ Q σ:=by
 refine Zv h1 <| Za7 h2 <| Zb6 <| ZF <| ZG <| ZD rfl <| Za <| Zt h0 (Zbw P.a P.d rfl rfl) <| Za <| E_p hp <| Za <| Zt h0 (Zbw P.a P.d rfl rfl) <| Zj <| Zm9 hm ht <| E_p rfl <| IN (ZlE hx) <| E_p rfl <| IN Zns ?_
 cases hb:Nat.beq x 33 with
 | true =>
  rw [hb] at k
  rw [if_pos rfl,WT1,WS5] at k
  refine ZcR rfl ?_
  rw [WT1,WS5]
  rw [WE1] at k ⊢
  exact k
 | false =>
  rw [hb] at k
  rw [if_neg (by simp),WT0] at k
  exact Zbg rfl (Zh (Zh k))
end
theorem Ziu {n:Nat} (hn:4<=n) {g:PS} {σ:St} (P:IsP g σ) {e:Ent} (he:ZcL e) {Q:LV->St->Prop} (k:Q (.int e.2) σ):CC n 20 [.ref g.a,ZB e.1] Q σ:=by
 refine Ze (lvl hn) fun m eQ0_1 hm=>?_; subst eQ0_1
 refine Zd (fd:=f20) rfl rfl ?_
 rcases he with he | ⟨l,rfl⟩
 ·have he':=he
  unfold Zbe at he'
  simp only [List.mem_cons,List.not_mem_nil,or_false] at he'
  rcases he' with rfl | rfl | rfl | rfl | rfl | rfl | rfl | rfl | rfl | rfl | rfl | rfl | rfl
  ·exact Z7 rfl rfl <| ZO <| Zs <| Zs <| E_p rfl <| IN rfl <| IN rfl <| IN (a:=([]:List LV)) rfl <| Za1 <| ZI <| Zs <| E_p rfl <| IN rfl k
  ·exact Z7 rfl rfl <| ZO <| Zs <| Zs <| E_p rfl <| IN rfl <| IN rfl <| IN (a:=([]:List LV)) rfl <| Za1 <| ZI <| Zs <| E_p rfl <| IN rfl k
  ·exact Z7 rfl rfl <| ZO <| Zs <| Zs <| E_p rfl <| IN rfl <| IN rfl <| IN (a:=([.int 0]:List LV)) rfl <| Zah rfl <| Zv rfl <| Zv rfl <| Zh <| Za1 <| ZI <| Zs <| E_p rfl <| IN rfl k
  ·exact Z7 rfl rfl <| ZO <| Zs <| Zs <| E_p rfl <| IN rfl <| IN rfl <| IN (a:=([.int 0,.int 1]:List LV)) rfl <| Zah rfl <| Zv rfl <| Zv rfl <| Zh <| Zah rfl <| Zv rfl <| Zv rfl <| Zh <| Za1 <| ZI <| Zs <| E_p rfl <| IN rfl k
  ·exact Z7 rfl rfl <| ZO <| Zs <| Zs <| E_p rfl <| IN rfl <| IN rfl <| IN (a:=([.int 0,.int 1,.int 2]:List LV)) rfl <| Zah rfl <| Zv rfl <| Zv rfl <| Zh <| Zah rfl <| Zv rfl <| Zv rfl <| Zh <| Zah rfl <| Zpi (p:=(1,[.f0,.f1])) hm P rfl rfl rfl rfl rfl rfl <| Zh <| Za1 <| ZI <| Zs <| E_p rfl <| IN rfl k
  ·exact Z7 rfl rfl <| ZO <| Zs <| Zs <| E_p rfl <| IN rfl <| IN rfl <| IN (a:=([.int 0]:List LV)) rfl <| Zah rfl <| Zv rfl <| Zv rfl <| Zh <| Za1 <| ZI <| Zs <| E_p rfl <| IN rfl k
  ·exact Z7 rfl rfl <| ZO <| Zs <| Zs <| E_p rfl <| IN rfl <| IN rfl <| IN (a:=([]:List LV)) rfl <| Za1 <| ZI <| Zs <| E_p rfl <| IN rfl k
  ·exact Z7 rfl rfl <| ZO <| Zs <| Zs <| E_p rfl <| IN rfl <| IN rfl <| IN (a:=([.int 0]:List LV)) rfl <| Zah rfl <| Zpi (p:=(2,[])) hm P rfl rfl rfl rfl rfl rfl <| Zh <| Za1 <| ZI <| Zs <| E_p rfl <| IN rfl k
  ·exact Z7 rfl rfl <| ZO <| Zs <| Zs <| E_p rfl <| IN rfl <| IN rfl <| IN (a:=([.int 0,.int 1]:List LV)) rfl <| Zah rfl <| Zpi (p:=(2,[])) hm P rfl rfl rfl rfl rfl rfl <| Zh <| Zah rfl <| Zv rfl <| Zv rfl <| Zh <| Za1 <| ZI <| Zs <| E_p rfl <| IN rfl k
  ·exact Z7 rfl rfl <| ZO <| Zs <| Zs <| E_p rfl <| IN rfl <| IN rfl <| IN (a:=([]:List LV)) rfl <| Za1 <| ZI <| Zs <| E_p rfl <| IN rfl k
  ·exact Z7 rfl rfl <| ZO <| Zs <| Zs <| E_p rfl <| IN rfl <| IN rfl <| IN (a:=([.int 0,.int 1]:List LV)) rfl <| Zah rfl <| Zpi (p:=(3,[])) hm P rfl rfl rfl rfl rfl rfl <| ZE rfl k
  ·exact Z7 rfl rfl <| ZO <| Zs <| Zs <| E_p rfl <| IN rfl <| IN rfl <| IN (a:=([.int 0]:List LV)) rfl <| Zah rfl <| Zpi (p:=(3,[])) hm P rfl rfl rfl rfl rfl rfl <| ZE rfl k
  ·exact Z7 rfl rfl <| ZO <| Zs <| Zs <| E_p rfl <| IN rfl <| IN rfl <| IN (a:=([.int 0,.int 1]:List LV)) rfl <| Zah rfl <| Zv rfl <| Zv rfl <| Zh <| Zah rfl <| Zpi (p:=(1,[.f1])) hm P rfl rfl rfl rfl rfl rfl <| Zh <| Za1 <| ZI <| Zs <| E_p rfl <| IN rfl k
 ·exact Z7 rfl rfl <| ZO <| Zs <| Zs <| E_p rfl <| IN rfl <| IN rfl <| IN (a:=([]:List LV)) rfl <| Za1 <| ZI <| Zs <| E_p rfl <| IN rfl k
theorem ZcM {e:Ent} (he:ZcL e):e.2<=e.1.2.length/\e.1.2.length<=3:=by
 rcases he with he | ⟨l,rfl⟩
 ·have:∀ e ∈ Zbe,e.2<=e.1.2.length/\e.1.2.length<=3:=by decide
  exact this e he
 ·exact ⟨Nat.le_refl _,Nat.zero_le _⟩
theorem Zhk {vs:List LV} {i:Nat} (h:vs.length<=1000000) (hi:i<=1000000):Zid (.tup vs) (.int (i:Int))=some (.tup (vs.take i)):=by
 exact (if_pos h).trans (if_pos ⟨o6,o47 hi⟩)
theorem Zng {vs:List LV} (h:vs.length<=1000000):Zid (.tup vs) (.int (-1))=some (.tup (vs.take (vs.length - 1))):=by
 exact (if_pos h).trans ((if_neg ZsR).trans (if_pos rfl))
theorem Znt {n:Nat} (hn:5<=n) {g:PS} {σ:St} (P:IsP g σ) {e:Ent} (he:ZcL e) {Q:LV->St->Prop} (k:Q (ZB (Zad e)) σ):CC n 21 [.ref g.a,ZB e.1] Q σ:=by
 refine Ze (lvl hn) fun m eQ0_1 hm=>?_; subst eQ0_1
 refine ZL (ZcM he) fun h1 h2=>?_
 have hm84:Zao TT0 σ (.ref g.a) 84=some 20:=Zem P.a P.d rfl rfl
 have hs:Zid (.tup (e.1.2.map Zcz)) (.int (e.2:Int))=some (.tup ((e.1.2.take e.2).map Zcz)):=by
  rw [Zhk (by rw [List.length_map]; exact o1 h2) (o48 h1 h2),List.map_take]
 refine Zd (fd:=f21) rfl rfl ?_
 exact ZI <| Zax <| Za <| E_p rfl <| Za <| Zs <| Zfq <| E_p rfl <| ZbZ rfl hm84 rfl <| Ziu hm P he <| IN hs <| IN Zqd <| Zj k
theorem ZmC {n:Nat} (hn:5<=n) {g:PS} {σ:St} (P:IsP g σ) {e:Ent} (he:ZcL e) {Q:LV->St->Prop} (k:Q (.bool (decide (e.2 < e.1.2.length))) σ):CC n 22 [.ref g.a,ZB e.1] Q σ:=by
 refine Ze (lvl hn) fun m eQ0_1 hm=>?_; subst eQ0_1
 refine ZL (ZcM he) fun h1 h2=>?_
 have hm84:Zao TT0 σ (.ref g.a) 84=some 20:=Zem P.a P.d rfl rfl
 have hd:decide ((e.2:Int) < ((e.1.2.length:Nat):Int))=decide (e.2 < e.1.2.length):=by
  by_cases h:e.2 < e.1.2.length
  ·rw [decide_eq_true h,decide_eq_true (o12 h)]
  ·rw [decide_eq_false h,decide_eq_false (ZsS h)]
 rw [<- hd] at k
 refine Zd (fd:=f22) rfl rfl ?_
 exact ZI <| ZF <| ZbZ rfl hm84 rfl <| Ziu hm P he <| Zs <| E_p rfl <| IN (Zqc (n:=e.1.2.length) (List.length_map ..) (o1 h2)) <| IN Zph k
theorem Zm6:∀ {x y:Pr},Zcz x=Zcz y->x=y
 | .f0,.f0,_=>rfl
 | .f1,.f1,_=>rfl
 | .dr,.dr,_=>rfl
 | .f0,.f1,h=>by cases h
 | .f0,.dr,h=>by cases h
 | .f1,.f0,h=>by cases h
 | .f1,.dr,h=>by cases h
 | .dr,.f0,h=>by cases h
 | .dr,.f1,h=>by cases h
theorem Zk6 {α β:Type} {f:α->β} (hf:∀ {x y},f x=f y->x=y):∀ {xs ys:List α},xs.map f=ys.map f->xs=ys
 | [],[],_=>rfl
 | [],_::_,h=>by cases h
 | _::_,[],h=>by cases h
 | x::xs,y::ys,h=>by
  rw [List.map_cons,List.map_cons] at h
  injection h with h1 h2
  rw [hf h1,Zk6 hf h2]
theorem Zls {ps qs:List Pr} (h:LV.tup (ps.map Zcz)=LV.tup (qs.map Zcz)):ps=qs:=by
 injection h with h
 exact Zk6 Zm6 h
theorem ZdY {p q:Pl} (h:ZB p=ZB q):p=q:=by
 obtain ⟨l,ps⟩:=p
 obtain ⟨m,qs⟩:=q
 unfold ZB at h
 injection h with h
 injection h with h1 h2
 injection h1 with h1
 injection h2 with h2
 have:l=m:=by exact_mod_cast h1
 have h3:ps=qs:=Zls h2
 rw [this,h3]
theorem ZdV {p:Pl} {K:List Pl}:ZB p ∈ K.map ZB ↔ p ∈ K:=by
 constructor
 ·intro h
  refine Ze (List.mem_map.mp h) fun q hq e=>?_
  rw [<- ZdY e]; exact hq
 ·exact fun h=>List.mem_map_of_mem h
noncomputable def idx (K:List Pl) (p:Pl):Nat:=K.idxOf p
theorem ZfB {K:List Pl} {p:Pl} (h:p ∈ K):K[idx K p]?=some p:=by
 unfold idx
 rw [List.getElem?_eq_getElem (List.idxOf_lt_length_iff.mpr h)]
 simp
theorem ZiH {K:List Pl} {p:Pl} (h:p ∈ K):idx K p < K.length:=List.idxOf_lt_length_iff.mpr h
theorem ZkK {K:List Pl} {p:Pl} (h:p ∉ K):idx (K++[p]) p=K.length:=by
 unfold idx
 rw [List.idxOf_append,if_neg h]
 simp
noncomputable def ZT:Nat->List Pl->List (LV × LV)
 | _,[]=>[]
 | i,p::K=>(ZB p,.int (i:Int))::ZT (i + 1) K
theorem Zcx (i p K):ZT i (p::K)=(ZB p,.int (i:Int))::ZT (i + 1) K:=rfl
theorem ZfP:∀ (i:Nat) (K:List Pl),(ZT i K).map (·.1)=K.map ZB
 | _,[]=>rfl
 | i,p::K=>by
  rw [Zcx]
  rw [List.map_cons,List.map_cons,ZfP (i + 1) K]
theorem ZmM (i:Nat) (K:List Pl):(ZT i K).length=K.length:=by
 rw [<- List.length_map (f:=(·.1)),ZfP,List.length_map]
theorem Zha:∀ (i:Nat) (K:List Pl) {p:Pl},p ∈ K->Zdt (ZB p) (ZT i K)=some (.int ((i + idx K p:Nat):Int))
 | _,[],p,h=>by cases h
 | i,q::K,p,h=>by
  rw [Zcx,ZcT]
  by_cases e:p=q
  ·subst e
   rw [if_pos rfl]
   simp [idx]
  ·rw [if_neg (fun h=>e (ZdY h)),Zha (i + 1) K (List.mem_of_ne_of_mem e h)]
   have:idx (q::K) p=idx K p + 1:=by
    unfold idx
    rw [List.idxOf_cons,show (q == p)=false from beq_eq_false_iff_ne.mpr (fun h=>e h.symm)]; rfl
   rw [this]
   congr 3
   exact o17
theorem ZiY:∀ (i:Nat) (K:List Pl) {p:Pl},p ∉ K->Zh6 (ZB p) (.int ((i + K.length:Nat):Int)) (ZT i K)=ZT i (K++[p])
 | i,[],p,h=>rfl
 | i,q::K,p,h=>by
  have e:p ≠ q:=fun e=>h (e ▸ List.mem_cons_self)
  rw [List.cons_append]
  rw [Zcx,Zcx,Zi8]
  rw [if_neg (fun h=>e (ZdY h)),<- ZiY (i + 1) K (fun h'=>h (List.mem_cons_of_mem _ h'))]
  rw [List.length_cons,show i + (K.length + 1)=i + 1 + K.length by exact o49]
noncomputable def par (p:Pl):Option Pl:=if p.2=[] then none else some (p.1,p.2.dropLast)
noncomputable def Z9 (K:List Pl) (i:Nat):List Nat:=(List.range K.length).filter fun j=>match K[j]? with
 | some q=>par q == K[i]?&&(par q).isSome
 | none=>false
theorem Zc6 {K:List Pl} {i j:Nat}:j ∈ Z9 K i ↔ ∃ q p,K[j]?=some q/\K[i]?=some p/\par q=some p:=by
 unfold Z9
 rw [List.mem_filter]
 constructor
 ·rintro ⟨h1,h2⟩
  cases hq:K[j]? with
  | none=>rw [hq] at h2; exact nob h2
  | some q =>
   rw [hq] at h2
   simp only [Bool.and_eq_true,beq_iff_eq] at h2
   obtain ⟨h3,h4⟩:=h2
   obtain ⟨p,hp⟩:=Option.isSome_iff_exists.mp h4
   exact ⟨q,p,rfl,by rw [<- h3,hp],hp⟩
 ·rintro ⟨q,p,hq,hp,e⟩
  refine ⟨List.mem_range.mpr (ZR hq),?_⟩
  rw [hq]
  simp [e,hp]
theorem Zjz (K:List Pl) (i:Nat):(Z9 K i).Nodup:=List.Nodup.sublist List.filter_sublist List.nodup_range
theorem ZfG {K:List Pl} {p:Pl} {i:Nat} (hi:i < K.length):Z9 (K++[p]) i=if par p=K[i]? then Z9 K i++[K.length] else Z9 K i:=by
 have h1:∀ j,j < K.length->(K++[p])[j]?=K[j]?:=fun j h=>List.getElem?_append_left h
 have h2:(K++[p])[K.length]?=some p:=by simp
 unfold Z9
 rw [List.length_append,List.length_singleton,List.range_succ,List.filter_append]
 have h3:(List.range K.length).filter (fun j=>match (K++[p])[j]? with
   | some q=>par q == (K++[p])[i]?&&(par q).isSome
   | none=>false)=(List.range K.length).filter (fun j=>match K[j]? with
   | some q=>par q == K[i]?&&(par q).isSome
   | none=>false):=by
  refine List.filter_congr fun j hj=>?_
  rw [h1 j (List.mem_range.mp hj),h1 i hi]
 rw [h3,List.filter_cons,List.filter_nil]
 simp only [h2,h1 i hi]
 refine ZU (show ∃ q,K[i]?=some q from ⟨K[i],List.getElem?_eq_getElem hi⟩) fun q hq=>?_
 rw [hq]
 by_cases e:par p=some q
 ·simp [e]
 ·simp [e]
structure PC (K:List Pl):Prop where
 nd:K.Nodup
 cl:∀ p ∈ K,∀ q,par p=some q->q ∈ K
 u:∀ p ∈ K,p.2.length<=3
theorem ZiN {K:List Pl} {p:Pl} (h:PC K) (hp:p ∉ K):Z9 (K++[p]) K.length=[]:=by
 apply List.eq_nil_iff_forall_not_mem.mpr
 intro j hj
 refine ZaM (Zc6.mp hj) fun q r hq hr e=>?_
 have hr':r=p:=by simpa using hr.symm
 subst hr'
 refine Or.elim (Nat.lt_or_ge j K.length) (fun h1=>?_) fun h1=>?_
 ·rw [List.getElem?_append_left h1] at hq
  exact hp (h.cl q (List.mem_of_getElem? hq) _ e)
 ·have h2:j < (K++[r]).length:=ZR hq
  rw [List.length_append,List.length_singleton] at h2
  have:j=K.length:=Nat.le_antisymm (Nat.le_of_lt_succ h2) h1
  subst this
  have:q=r:=by simpa using hq.symm
  subst this
  unfold par at e
  refine ifs e (fun _ e=>?_) fun _ e=>?_
  ·exact nos e
  ·rename_i hne
   injection e with e
   have:=congrArg (fun x=>x.2.length) e
   simp only [List.length_dropLast] at this
   exact absurd this (Nat.ne_of_lt (Nat.sub_lt (List.length_pos_iff.mpr hne) Nat.one_pos))
noncomputable def uni:List Pl:=[(0,[]),(1,[]),(2,[]),(3,[]),(4,[]),(1,[.f0]),(1,[.f0,.f1]),(1,[.f0,.f1,.dr]),(1,[.f1]),(1,[.f1,.dr]),(2,[.dr]),(2,[.dr,.f1]),(3,[.dr]),(3,[.dr,.f0])]
theorem ZlN:∀ {p q:Pl},p ∈ uni->par p=some q->q ∈ uni:=by
 have:∀ p ∈ uni,((par p).all fun q=>uni.contains q)=true:=by decide
 intro p q hp hq
 have:=this p hp
 rw [hq] at this
 simpa using this
theorem ZcY {p:Pl} (h:p ∈ uni):p.2.length<=3:=by
 have:∀ p ∈ uni,p.2.length<=3:=by decide
 exact this p h
structure PK (K:List Pl):Prop where
 nd:K.Nodup
 cl:∀ p ∈ K,∀ q,par p=some q->q ∈ K
 u:∀ p ∈ K,p ∈ uni
theorem PK.pc {K:List Pl} (h:PK K):PC K:=⟨h.nd,h.cl,fun p hp=>ZcY (h.u p hp)⟩
theorem PK.len {K:List Pl} (h:PK K):K.length<=14:=Zcl h.nd h.u
noncomputable def ZeU (K:List Pl) (p:Pl):List Pl:=if p ∈ K then K else K++[p]
noncomputable def Zch (K:List Pl) (l:Nat) (ps:List Pr):Nat->List Pl
 | 0=>K
 | i + 1=>ZeU (Zch K l ps i) (l,ps.take i)
theorem Zeq (K l ps i):Zch K l ps (i + 1)=ZeU (Zch K l ps i) (l,ps.take i):=rfl
noncomputable def Zaf (K:List Pl) (p:Pl):List Pl:=Zch K p.1 p.2 (p.2.length + 1)
theorem Zjf {K:List Pl} (h:PK K) {l:Nat} {ps:List Pr} (hp:(l,ps) ∈ K):∀ k,(l,ps.take (ps.length - k)) ∈ K
 | 0=>by rw [Nat.sub_zero,List.take_length]; exact hp
 | k + 1=>by
  have ih:=Zjf h hp k
  by_cases e:ps.length - k=0
  ·rw [show ps.length - (k + 1)=ps.length - k by exact ZsT e]; exact ih
  ·have hn:ps.take (ps.length - k) ≠ []:=fun e'=>by
    have:=congrArg List.length e'
    simp only [List.length_take,List.length_nil] at this
    exact ZsU e this
   have:=h.cl _ ih (l,(ps.take (ps.length - k)).dropLast) (by unfold par; rw [if_neg hn])
   rw [List.dropLast_eq_take,List.length_take,List.take_take] at this
   rw [show min (min (ps.length - k) ps.length - 1) (ps.length - k)=ps.length - (k + 1) by exact ZsV] at this
   exact this
theorem ZlG {K:List Pl} (h:PK K) {l:Nat} {ps:List Pr} (hp:(l,ps) ∈ K) (i:Nat):(l,ps.take i) ∈ K:=by
 by_cases hi:i<=ps.length
 ·have:=Zjf h hp (ps.length - i)
  rw [show ps.length - (ps.length - i)=i by exact ZsW hi] at this
  exact this
 ·rw [List.take_of_length_le (by exact ZsX hi)]; exact hp
theorem ZiV {K:List Pl} (h:PK K) {l:Nat} {ps:List Pr} (hp:(l,ps) ∈ K):∀ i,Zch K l ps i=K
 | 0=>rfl
 | i + 1=>by
  rw [Zeq]
  rw [ZiV h hp i]
  unfold ZeU
  rw [if_pos (ZlG h hp i)]
theorem Zci {K:List Pl} (h:PK K) {p:Pl} (hp:p ∈ K):Zaf K p=K:=ZiV h (l:=p.1) (ps:=p.2) hp _
theorem Zer {K:List Pl} {l:Nat} {ps qs:List Pr}:∀ {i:Nat},(∀ j,j < i->ps.take j=qs.take j)->Zch K l ps i=Zch K l qs i
 | 0,_=>rfl
 | i + 1,h=>by
  rw [Zeq,Zeq]
  rw [Zer (fun j hj=>h j (o29 hj)),h i o52]
theorem Zes {K:List Pl} {l:Nat} {ps:List Pr} {x:Pl}:∀ {i:Nat},x ∈ Zch K l ps i->x ∈ K\/∃ j,x=(l,ps.take j)
 | 0,h=>.inl h
 | i + 1,h=>by
  rw [Zeq,ZeU] at h
  split at h
  ·exact Zes h
  ·rcases List.mem_append.mp h with h | h
   ·exact Zes h
   ·exact .inr ⟨i,List.mem_singleton.mp h⟩
theorem Zfj {K:List Pl} {p:Pl} (h:par p=none) (hp:p ∉ K):Zaf K p=K++[p]:=by
 refine ifs h (fun _ h=>?_) fun _ h=>?_
 ·rename_i e
  obtain ⟨l,ps⟩:=p
  subst e
  show ZeU K (l,[])=_
  unfold ZeU
  rw [if_neg hp]
 ·exact ns2 h
theorem ZeA {p q:Pl} (h:par p=some q):p.2 ≠ []/\q=(p.1,p.2.dropLast):=by
 refine ifs h (fun _ h=>?_) fun _ h=>?_
 ·exact nos h
 ·rename_i e
  injection h with h
  exact ⟨e,h.symm⟩
theorem Zg7 {K:List Pl} {p q:Pl} (h:par p=some q):Zaf K p=ZeU (Zaf K q) p:=by
 refine ZL (ZeA h) fun hne eQ0_1=>?_; subst eQ0_1
 obtain ⟨l,ps⟩:=p
 dsimp only at hne ⊢
 have hl:0 < ps.length:=List.length_pos_iff.mpr hne
 have e1:(ps.dropLast).length + 1=ps.length:=by rw [List.length_dropLast]; exact ZsY hl
 unfold Zaf
 dsimp only
 rw [e1]
 show ZeU (Zch K l ps ps.length) (l,ps.take ps.length)=_
 rw [List.take_length]
 congr 1
 refine Zer fun j hj=>?_
 rw [List.dropLast_eq_take,List.take_take,Nat.min_eq_left (o53 hj)]
theorem Zdu {K:List Pl} {p q:Pl} (h:par p=some q) (hp:p ∉ K):p ∉ Zaf K q:=fun hm=>by
 refine ZL (ZeA h) fun hne eQ0_1=>?_; subst eQ0_1
 rcases Zes hm with hm | ⟨j,e⟩
 ·exact hp hm
 ·have:=congrArg (fun x=>x.2.length) e
  have hl:0 < p.2.length:=List.length_pos_iff.mpr hne
  simp only [List.length_take,List.length_dropLast] at this
  exact ZsZ hl this
theorem Zet {K:List Pl} {p q:Pl} (h:par p=some q) (hp:p ∉ K):Zaf K p=Zaf K q++[p]:=by
 rw [Zg7 h]
 unfold ZeU
 rw [if_neg (Zdu h hp)]
theorem PK.add {K:List Pl} {p:Pl} (h:PK K) (hp:p ∉ K) (hu:p ∈ uni) (hq:∀ q,par p=some q->q ∈ K):PK (K++[p]):=by
 refine ⟨List.nodup_append.mpr ⟨h.nd,(by simp),fun a ha b hb e=>hp (by rw [List.mem_singleton] at hb; rw [<- hb,<- e]; exact ha)⟩,fun x hx q e=>?_,fun x hx=>?_⟩
 ·refine Or.elim (List.mem_append.mp hx) (fun hx=>?_) fun hx=>?_
  ·exact List.mem_append_left _ (h.cl x hx q e)
  ·rw [List.mem_singleton] at hx
   subst hx
   exact List.mem_append_left _ (hq q e)
 ·refine Or.elim (List.mem_append.mp hx) (fun hx=>?_) fun hx=>?_
  ·exact h.u x hx
  ·rw [List.mem_singleton] at hx
   rw [hx]; exact hu
theorem ZdX:∀ (k:Nat) {K:List Pl} {p:Pl},PK K->p ∈ uni->p.2.length=k->PK (Zaf K p)/\p ∈ Zaf K p/\∃ L,Zaf K p=K++L
 | 0,K,p,h,hu,hk=>by
  have hn:par p=none:=by unfold par; rw [if_pos (List.length_eq_zero_iff.mp hk)]
  by_cases hp:p ∈ K
  ·rw [Zci h hp]; exact ⟨h,hp,[],(List.append_nil _).symm⟩
  ·rw [Zfj hn hp]
   exact ⟨h.add hp hu (fun q e=>by rw [hn] at e; exact nos e),by simp,_,rfl⟩
 | k + 1,K,p,h,hu,hk=>by
  by_cases hp:p ∈ K
  ·rw [Zci h hp]; exact ⟨h,hp,[],(List.append_nil _).symm⟩
  ·have hne:p.2 ≠ []:=fun e=>by rw [e] at hk; cases hk
   have hq:par p=some (p.1,p.2.dropLast):=by unfold par; rw [if_neg hne]
   obtain ⟨h1,h2,L,h3⟩:=ZdX k (K:=K) (p:=(p.1,p.2.dropLast)) h (ZlN hu hq) (by rw [List.length_dropLast,hk]; rfl)
   rw [Zet hq hp]
   refine ⟨h1.add (Zdu hq hp) hu (fun q e=>?_),by simp,L++[p],by rw [h3,List.append_assoc]⟩
   rw [hq] at e
   obtain rfl:=Option.some.inj e
   exact h2
theorem PK.note {K:List Pl} {p:Pl} (h:PK K) (hu:p ∈ uni):PK (Zaf K p):=(ZdX _ h hu rfl).1
theorem ZfN {K:List Pl} {p:Pl} (h:PK K) (hu:p ∈ uni):p ∈ Zaf K p:=(ZdX _ h hu rfl).2.1
theorem ZmK {K:List Pl} {p:Pl} (h:PK K) (hu:p ∈ uni):∃ L,Zaf K p=K++L:=(ZdX _ h hu rfl).2.2
theorem Zdw:∀ ps:List Pr,Zam (ps.map Zcz)=true/\Za0 (ps.map Zcz)=true/\Z8 (ps.map Zcz)<=1
 | []=>⟨rfl,rfl,by decide⟩
 | p::ps=>by
  refine Zbp (Zdw ps) fun h1 h2 h3=>?_
  rw [List.map_cons]
  refine ⟨?_,?_,?_⟩
  ·rw [Zcy]
   rw [h1]
   cases p <;> rfl
  ·rw [ZhS]
   rw [h2]
   cases p <;> rfl
  ·skip
   have:depth (Zcz p)=1:=by cases p <;> rfl
   exact Zs0 h3 this
theorem ZfF (ps:List Pr):Zak (.tup (ps.map Zcz))=true:=by
 refine Zbp (Zdw ps) fun h1 h2 h3=>?_
 rw [Zak,Zlr,ZhG]
 rw [h1,Bool.true_and]
 exact Nat.ble_eq_true_of_le (Zs1 h3)
theorem ZfT (p:Pl):plain (ZB p)=true/\ZbQ (ZB p)=true/\depth (ZB p)<=3:=by
 refine Zbp (Zdw p.2) fun h1 h2 h3=>?_
 unfold ZB
 refine ⟨?_,?_,?_⟩
 ·simp [Zlr,Zam,h1]; rfl
 ·simp [Zp4,Za0,h2]; rfl
 ·simp only [ZhG,Z8]
  exact Zs2 h3
theorem ZiL (p:Pl):Zak (ZB p)=true:=by
 refine Zbp (ZfT p) fun h1 h2 h3=>?_
 unfold Zak
 rw [h1,Bool.true_and]
 exact Nat.ble_eq_true_of_le (o54 h3)
theorem Zih (p:Pl):ZaL (ZB p)=true:=by
 unfold ZaL
 rw [ZiL,(ZfT p).2.1]
 rfl
theorem Zds (K:List Pl):ZA (K.map ZB)=true:=by
 have:∀ K:List Pl,Zam (K.map ZB)=true/\Z8 (K.map ZB)<=3:=by
  intro K
  induction K with
  | nil=>exact ⟨rfl,by decide⟩
  | cons p K ih =>
   refine Zbp (ZfT p) fun h1 h2 h3=>?_
   rw [List.map_cons]
   refine ⟨?_,?_⟩
   ·rw [Zcy]; rw [h1,ih.1]; rfl
   ·exact Nat.max_le.mpr ⟨h3,ih.2⟩
 unfold ZA
 rw [(this K).1,Bool.true_and]
 exact Nat.ble_eq_true_of_le (Nat.le_trans (this K).2 (by decide))
noncomputable def nL (xs:List Nat):List LV:=xs.map fun (j:Nat)=>LV.int (j:Int)
theorem Zcf (xs:List Nat):(nL xs).length=xs.length:=List.length_map ..
open Classical in
theorem ZkN {σ:St} {nu:Addr} {K:List Pl} {p:Pl} (h:σ nu=some (.dict (ZT 0 K))):inL σ (ZB p) (.ref nu)=some (decide (p ∈ K)):=by
 rw [Zmz h (Zih p),ZfP]
 congr 1
 by_cases e:p ∈ K
 ·rw [decide_eq_true e,decide_eq_true (ZdV.mpr e)]
 ·rw [decide_eq_false e,decide_eq_false (fun h=>e (ZdV.mp h))]
theorem Zka {σ:St} {nu:Addr} {K:List Pl} {p:Pl} (h:σ nu=some (.dict (ZT 0 K))):ZbN .In σ (ZB p) (.ref nu)=some (decide (p ∈ K)):=ZkN h
theorem Zrl {σ:St} {nu:Addr} {K:List Pl} {p:Pl} (h:σ nu=some (.dict (ZT 0 K))):ZbN .NotIn σ (ZB p) (.ref nu)=some (!decide (p ∈ K)):=by
 show (inL σ (ZB p) (.ref nu)).map (!·)=_
 rw [ZkN h]; rfl
theorem Zf6 {σ:St} {nu:Addr} {K:List Pl} {p:Pl} (h:σ nu=some (.dict (ZT 0 K))) (hp:p ∈ K):Zge σ (.ref nu) (ZB p)=some (.int ((idx K p:Nat):Int)):=by
 rw [Zhm h (Zih p),Zha 0 K hp,Nat.zero_add]
structure Fix (g:PS) (kr:List Addr) (K:List Pl) (σ:St):Prop where
 p:IsP g σ
 pl:σ g.pl=some (.list (K.map ZB))
 pa:∃ v,v.length=K.length/\σ g.pa=some (.list v)
 ki:σ g.ki=some (.list (kr.map .ref))
 krl:kr.length=K.length
 kid:∀ i r,kr[i]?=some r->σ r=some (.list (nL (Z9 K i)))
 nu:σ g.nu=some (.dict (ZT 0 K))
 nd:(g.pl::g.pa::g.ki::kr).Nodup
noncomputable def fp (g:PS) (kr:List Addr):Addr->Prop:=fun x=>x=g.pl\/x=g.pa\/x=g.ki\/x=g.nu\/x ∈ kr
theorem Zas {σ:St} {a b:Addr} {o:LO} {o':Option LO} (h:σ a=some o) (hb:a ≠ b):upd σ b o' a=some o:=by rw [Zc _ _ hb]; exact h
theorem ZQ {σ:St} {a b:Addr} {o o':LO} (ha:σ a=some o) (hb:σ b=some o') (h:o ≠ o'):a ≠ b:=fun e=>by
 rw [e,hb] at ha
 injection ha with ha
 exact h ha.symm
theorem Zu {σ:St} {a b:Addr} {o:LO} (ha:σ a=some o) (hb:σ b=none):a ≠ b:=fun e=>by
 rw [e,hb] at ha; exact nos ha
noncomputable def ZjX:List LS:=[.asg (.nm 81) (.bi .len_ [(.attr (.v 0) 66)]),
  .asgI (.attr (.v 0) 69) (.v 36) (.v 81),
  .expr (.lm (.attr (.v 0) 66) .append [(.v 36)]),
  .expr (.lm (.attr (.v 0) 67) .append [(.v 80)]),
  .expr (.lm (.attr (.v 0) 68) .append [(.lstR [])]),
  .ifs (.cmp .GtE (.v 80) (.k (.int 0))) [.expr (.lm (.sub (.attr (.v 0) 68) (.v 80)) .append [(.v 81)])] [],
  .ret (.v 81)]
noncomputable def ZjH (K:List Pl) (p:Pl):Int:=match par p with
 | some q=>((idx K q:Nat):Int)
 | none=>-1
theorem Zim {m:Nat} {g:PS} {kr:List Addr} {K:List Pl} {σ:St} {p:Pl} (F:Fix g kr K σ) (P:PK K) (hp:p ∉ K) (hq:∀ q,par p=some q->q ∈ K) {ρ:Env} (hρ:ρ=[(0,.ref g.a),(36,ZB p),(7,.int p.1),(79,.tup (p.2.map Zcz)),(80,.int (ZjH K p))]) {Q:Fl->Env->St->Prop}
  (k:∀ r ρ' σ',Fix g (kr++[r]) (K++[p]) σ'->Zw (fp g kr) σ σ'->σ r=none->Q (.ret (.int (K.length:Int))) ρ' σ'):ZJ TT0 (CC m) ZjX ρ Q σ:=by
 subst hρ
 have hl:=P.len
 refine Ze F.pa fun v hv hpa=>?_
 have hA:=F.p.a
 have hD:=F.p.d
 refine ZL (List.nodup_cons.mp F.nd) fun nd1 nd=>?_
 refine ZL (List.nodup_cons.mp nd) fun nd2 nd=>?_
 refine ZL (List.nodup_cons.mp nd) fun nd3 nd4=>?_
 have n12:g.pl ≠ g.pa:=fun e=>nd1 (by rw [e]; exact List.mem_cons_self)
 have n13:g.pl ≠ g.ki:=fun e=>nd1 (by rw [e]; exact List.mem_cons_of_mem _ List.mem_cons_self)
 have n23:g.pa ≠ g.ki:=fun e=>nd2 (by rw [e]; exact List.mem_cons_self)
 have n14:g.pl ≠ g.nu:=ZQ F.pl F.nu (by simp)
 have n24:g.pa ≠ g.nu:=ZQ hpa F.nu (by simp)
 have n34:g.ki ≠ g.nu:=ZQ F.ki F.nu (by simp)
 have a1:g.a ≠ g.pl:=ZQ hA F.pl (by simp)
 have a2:g.a ≠ g.pa:=ZQ hA hpa (by simp)
 have a3:g.a ≠ g.ki:=ZQ hA F.ki (by simp)
 have a4:g.a ≠ g.nu:=ZQ hA F.nu (by simp)
 have d1:g.d ≠ g.pl:=ZQ hD F.pl (by simp)
 have d2:g.d ≠ g.pa:=ZQ hD hpa (by simp)
 have d3:g.d ≠ g.ki:=ZQ hD F.ki (by simp)
 have d4:g.d ≠ g.nu:=ZQ hD F.nu (by simp)
 refine Zk <| Zs <| Zt rfl (Zbw hA hD rfl rfl) <| IN (Zr4 F.pl (List.length_map ..) (o3 hl)) <| IN rfl ?_
 refine ZeX <| E_p rfl <| Zt rfl (Zbw hA hD rfl rfl) <| E_p rfl <| Zlu F.nu (Zih p) (by rw [ZmM]; exact o3 hl) ?_
 have hput:=ZiY 0 K hp
 rw [Nat.zero_add] at hput
 rw [hput]
 generalize hσ1:upd σ g.nu (some (.dict (ZT 0 (K++[p]))))=σ1
 have u1:∀ x,x ≠ g.nu->σ1 x=σ x:=fun x h=>by rw [<- hσ1]; exact Zc _ _ h
 have u1':σ1 g.nu=some (.dict (ZT 0 (K++[p]))):=by rw [<- hσ1]; exact Zb ..
 refine ZaR <| ZbH <| Zt rfl (Zbw ((u1 _ a4).trans hA) ((u1 _ d4).trans hD) rfl rfl) <| IN (o_r ((u1 _ n14).trans F.pl)) <| Za <| E_p rfl <| Zj <| Zaw ((u1 _ n14).trans F.pl) (by rw [List.length_map]; exact o3 hl) ?_
 rw [show K.map ZB++[ZB p]=(K++[p]).map ZB by simp]
 generalize hσ2:upd σ1 g.pl (some (.list ((K++[p]).map ZB)))=σ2
 have u2:∀ x,x ≠ g.nu->x ≠ g.pl->σ2 x=σ x:=fun x h h'=>by rw [<- hσ2,Zc _ _ h',u1 x h]
 have u2n:σ2 g.nu=some (.dict (ZT 0 (K++[p]))):=by rw [<- hσ2,Zc _ _ n14.symm,u1']
 have u2p:σ2 g.pl=some (.list ((K++[p]).map ZB)):=by rw [<- hσ2]; exact Zb ..
 refine ZaR <| ZbH <| Zt rfl (Zbw ((u2 _ a4 a1).trans hA) ((u2 _ d4 d1).trans hD) rfl rfl) <| IN (o_r ((u2 _ n24 n12.symm).trans hpa)) <| Za <| E_p rfl <| Zj <| Zaw ((u2 _ n24 n12.symm).trans hpa) (Zs3 hl hv) ?_
 generalize hσ3:upd σ2 g.pa (some (.list (v++[.int (ZjH K p)])))=σ3
 have u3:∀ x,x ≠ g.nu->x ≠ g.pl->x ≠ g.pa->σ3 x=σ x:=fun x h h' h''=>by rw [<- hσ3,Zc _ _ h'',u2 x h h']
 have u3n:σ3 g.nu=some (.dict (ZT 0 (K++[p]))):=by rw [<- hσ3,Zc _ _ n24.symm,u2n]
 have u3p:σ3 g.pl=some (.list ((K++[p]).map ZB)):=by rw [<- hσ3,Zc _ _ n12,u2p]
 have u3a:σ3 g.pa=some (.list (v++[.int (ZjH K p)])):=by rw [<- hσ3]; exact Zb ..
 have hki3:σ3 g.ki=some (.list (kr.map .ref)):=(u3 _ n34 n13.symm n23.symm).trans F.ki
 refine ZaR <| ZbH <| Zt rfl (Zbw ((u3 _ a4 a1 a2).trans hA) ((u3 _ d4 d1 d2).trans hD) rfl rfl) <| IN (o_r hki3) <| Za <| Zbq rfl <| Zb5 fun r hr=>Zj ?_
 have rp:r ≠ g.pl:=(Zu u3p hr).symm
 have ra:r ≠ g.pa:=(Zu u3a hr).symm
 have rn:r ≠ g.nu:=(Zu u3n hr).symm
 have rk:r ≠ g.ki:=(Zu hki3 hr).symm
 have hr0:σ r=none:=by rw [<- u3 r rn rp ra]; exact hr
 have rA:g.a ≠ r:=Zu hA hr0
 have rD:g.d ≠ r:=Zu hD hr0
 refine Zaw ((Zc _ _ rk.symm).trans hki3) (by rw [List.length_map,F.krl]; exact o3 hl) ?_
 rw [show kr.map LV.ref++[LV.ref r]=(kr++[r]).map LV.ref by simp]
 generalize hσ4:upd (upd σ3 r (some (.list []))) g.ki (some (.list ((kr++[r]).map .ref)))=σ4
 have u4:∀ x,x ≠ g.nu->x ≠ g.pl->x ≠ g.pa->x ≠ g.ki->x ≠ r->σ4 x=σ x:=fun x h h' h'' h3 h4=>by rw [<- hσ4,Zc _ _ h3,Zc _ _ h4,u3 x h h' h'']
 have u4n:σ4 g.nu=some (.dict (ZT 0 (K++[p]))):=by rw [<- hσ4,Zc _ _ n34.symm,Zc _ _ rn.symm,u3n]
 have u4p:σ4 g.pl=some (.list ((K++[p]).map ZB)):=by rw [<- hσ4,Zc _ _ n13,Zc _ _ rp.symm,u3p]
 have u4a:σ4 g.pa=some (.list (v++[.int (ZjH K p)])):=by rw [<- hσ4,Zc _ _ n23,Zc _ _ ra.symm,u3a]
 have u4k:σ4 g.ki=some (.list ((kr++[r]).map .ref)):=by rw [<- hσ4]; exact Zb ..
 have u4r:σ4 r=some (.list []):=by rw [<- hσ4,Zc _ _ rk]; exact Zb ..
 have kne:∀ x,x ∈ kr->x ≠ g.nu/\x ≠ g.pl/\x ≠ g.pa/\x ≠ g.ki/\x ≠ r:=fun x hx=>by
  refine ZU (List.mem_iff_getElem?.mp hx) fun i hi=>?_
  have:=F.kid i x hi
  exact ⟨ZQ this F.nu (by simp),(fun e=>nd1 (by rw [<- e]; exact List.mem_cons_of_mem _ (List.mem_cons_of_mem _ hx))),(fun e=>nd2 (by rw [<- e]; exact List.mem_cons_of_mem _ hx)),(fun e=>nd3 (by rw [<- e]; exact hx)),Zu this hr0⟩
 have rkr:r ∉ kr:=fun h=>(kne r h).2.2.2.2 rfl
 have hnd:(g.pl::g.pa::g.ki::(kr++[r])).Nodup:=by
  have:(g.pl::g.pa::g.ki::(kr++[r]))=(g.pl::g.pa::g.ki::kr)++[r]:=rfl
  rw [this]
  refine List.nodup_append.mpr ⟨F.nd,(by simp),fun a ha b hb e=>?_⟩
  rw [List.mem_singleton] at hb
  rw [hb] at e
  subst e
  simp only [List.mem_cons] at ha
  rcases ha with ha | ha | ha | ha
  ·exact rp ha
  ·exact ra ha
  ·exact rk ha
  ·exact rkr ha
 have hk':∀ i x,(kr++[r])[i]?=some x->(i < kr.length/\kr[i]?=some x)\/(i=kr.length/\x=r):=fun i x h=>by
  refine Or.elim (Nat.lt_or_ge i kr.length) (fun h'=>?_) fun h'=>?_
  ·rw [List.getElem?_append_left h'] at h
   exact .inl ⟨h',h⟩
  ·have h2:=ZR h
   rw [List.length_append,List.length_singleton] at h2
   have:i=kr.length:=o50 h' h2
   subst this
   exact .inr ⟨rfl,by simpa using h.symm⟩
 have finish:∀ σ',(∀ x,x ≠ g.nu->x ≠ g.pl->x ≠ g.pa->x ≠ g.ki->x ∉ kr->x ≠ r->σ' x=σ x)->σ' g.nu=some (.dict (ZT 0 (K++[p])))->σ' g.pl=some (.list ((K++[p]).map ZB))->σ' g.pa=some (.list (v++[.int (ZjH K p)]))->σ' g.ki=some (.list ((kr++[r]).map .ref))->(∀ i x,(kr++[r])[i]?=some x->σ' x=some (.list (nL (Z9 (K++[p]) i))))->∀ ρ',Q (.ret (.int (K.length:Int))) ρ' σ':=by
  intro σ' h1 h2 h3 h4 h5 h6 ρ'
  have akr:g.a ∉ kr:=fun h=>(by
   refine ZU (List.mem_iff_getElem?.mp h) fun i hi=>?_
   exact ZQ hA (F.kid i _ hi) (by simp) rfl)
  have dkr:g.d ∉ kr:=fun h=>(by
   refine ZU (List.mem_iff_getElem?.mp h) fun i hi=>?_
   exact ZQ hD (F.kid i _ hi) (by simp) rfl)
  refine k r ρ' σ' ⟨⟨(h1 _ a4 a1 a2 a3 akr rA).trans hA,(h1 _ d4 d1 d2 d3 dkr rD).trans hD⟩,h3,⟨_,by simp [hv],h4⟩,h5,by simp [F.krl],h6,h2,hnd⟩ ?_ hr0
  intro x hx hf
  refine h1 x (fun e=>hf (.inr (.inr (.inr (.inl e))))) (fun e=>hf (.inl e)) (fun e=>hf (.inr (.inl e))) (fun e=>hf (.inr (.inr (.inl e)))) (fun e=>hf (.inr (.inr (.inr (.inr e))))) (fun e=>hx (by rw [e,hr0]))
 cases hpp:par p with
 | none =>
  have hpi:ZjH K p=-1:=by unfold ZjH; rw [hpp]
  rw [hpi]
  refine Zb6 <| ZF <| E_p rfl <| E_p rfl <| IN Zri <| Zbg rfl <| Zh <| ZE rfl ?_
  refine finish σ4 (fun x h1 h2 h3 h4 h5 h6=>u4 x h1 h2 h3 h4 h6) u4n u4p (by rw [u4a,hpi]) u4k (fun i x hi=>?_) _
  rcases hk' i x hi with ⟨h1,h2⟩ | ⟨h1,h2⟩
  ·refine ZqO (kne x (List.mem_of_getElem? h2)) fun e1 e2 e3 e4 e5=>?_
   rw [u4 x e1 e2 e3 e4 e5,F.kid i x h2,ZfG (by rw [<- F.krl]; exact h1),hpp,if_neg]
   have h3:i < K.length:=by rw [<- F.krl]; exact h1
   rw [List.getElem?_eq_getElem h3]
   exact fun e=>nos e
  ·subst h2
   rw [u4r,h1,F.krl,ZiN P.pc hp]
   rfl
 | some q =>
  have hqK:=hq q hpp
  have hi:=ZiH hqK
  have hpi:ZjH K p=((idx K q:Nat):Int):=by unfold ZjH; rw [hpp]
  have hig:=ZfB hqK
  rw [hpi]
  generalize idx K q=i0 at hi hpi hig
  obtain ⟨r0,hr0'⟩:∃ r0,kr[i0]?=some r0:=⟨kr[i0]'(by rw [F.krl]; exact hi),List.getElem?_eq_getElem _⟩
  refine ZqO (kne r0 (List.mem_of_getElem? hr0')) fun e1 e2 e3 e4 e5=>?_
  have hr0v:=(u4 r0 e1 e2 e3 e4 e5).trans (F.kid i0 r0 hr0')
  have hnth:Zeu ((kr++[r]).map LV.ref) (i0:Int)=some (.ref r0):=Z5 (by rw [List.getElem?_map,List.getElem?_append_left (by rw [F.krl]; exact hi),hr0']; rfl) (by simp [F.krl]; exact Zs4 hl)
  have aKr:g.a ≠ r0:=ZQ hA (F.kid i0 r0 hr0') (by simp)
  refine Zb6 <| ZF <| E_p rfl <| E_p rfl <| IN Zri <| ZcR (decide_eq_true o6) ?_
  have hkl:(Z9 K i0).length<=K.length:=by
   have:=List.length_filter_le (fun j=>match K[j]? with
    | some q=>par q == K[i0]?&&(par q).isSome
    | none=>false) (List.range K.length)
   rw [List.length_range] at this
   exact this
  refine ZaR <| ZbH <| ZG <| Zt rfl (Zbw ((u4 _ a4 a1 a2 a3 rA).trans hA) ((u4 _ d4 d1 d2 d3 rD).trans hD) rfl rfl) <| E_p rfl <| IN ((s_r u4k).trans hnth) <| IN (o_r hr0v) <| Za <| E_p rfl <| Zj <| Zaw hr0v (by rw [Zcf]; exact o55 hl hkl) ?_
  refine Zh ?_
  show ZJ TT0 (CC m) (_::_) _ _ _
  refine ZE rfl ?_
  refine finish _ (fun x h1 h2 h3 h4 h5 h6=>?_) ?_ ?_ ?_ ?_ (fun i x hi'=>?_) _
  ·rw [Zc _ _ (fun e=>h5 (by rw [e]; exact List.mem_of_getElem? hr0')),u4 x h1 h2 h3 h4 h6]
  ·rw [Zc _ _ e1.symm,u4n]
  ·rw [Zc _ _ e2.symm,u4p]
  ·rw [Zc _ _ e3.symm,u4a,hpi]
  ·rw [Zc _ _ e4.symm,u4k]
  ·rcases hk' i x hi' with ⟨h1,h2⟩ | ⟨h1,h2⟩
   ·have h3:i < K.length:=by rw [<- F.krl]; exact h1
    by_cases hii:i=i0
    ·subst hii
     have:x=r0:=by rw [hr0'] at h2; injection h2 with h2; exact h2.symm
     subst this
     rw [Zb,ZfG h3,hpp,if_pos hig.symm]
     unfold nL
     rw [List.map_append]
     rfl
    ·have hxr:x ≠ r0:=fun e=>by
      subst e
      have hn:=nd4
      have:=(List.getElem?_inj (h₀:=h1) hn).mp (h2.trans hr0'.symm)
      exact hii this
     refine ZqO (kne x (List.mem_of_getElem? h2)) fun e1 e2 e3 e4 e5=>?_
     rw [Zc _ _ hxr,u4 x e1 e2 e3 e4 e5,F.kid i x h2,ZfG h3,hpp,if_neg]
     intro e
     have:=(List.getElem?_inj (h₀:=h3) P.nd).mp (e.symm.trans hig.symm)
     exact hii this
   ·subst h2
    rw [Zc _ _ e5.symm,u4r,h1,F.krl,ZiN P.pc hp]
    rfl
theorem ZlF {l:Nat} {ps:List Pr}:LV.tup ((ps.map Zcz).take ((ps.map Zcz).length - 1))=.tup (ps.dropLast.map Zcz):=by
 rw [List.length_map,<- List.map_take,List.dropLast_eq_take]
theorem Zno:∀ (c:Nat) {n:Nat} {g:PS} {kr:List Addr} {K:List Pl} {σ:St} {p:Pl} {Q:LV->St->Prop},c + 1<=n->p.2.length=c->Fix g kr K σ->PK K->p ∈ uni->
  (∀ kr' σ',Fix g kr' (Zaf K p) σ'->Zw (fp g kr) σ σ'->(∀ x ∈ kr',x ∈ kr\/σ x=none)->(∀ x ∈ kr,x ∈ kr')->Q (.int ((idx (Zaf K p) p:Nat):Int)) σ')->CC n 19 [.ref g.a,ZB p] Q σ:=by
 intro c
 induction c with
 | zero =>
  intro n g kr K σ p Q hn hc F P hu k
  refine Ze (lvl hn) fun m eQ0_1 hm=>?_; subst eQ0_1
  refine Zd (fd:=f19) rfl rfl ?_
  have hps:p.2=[]:=List.length_eq_zero_iff.mp hc
  by_cases hp:p ∈ K
  ·rw [Zci P hp] at k
   refine Zb6 <| ZF <| E_p rfl <| Zt rfl (Zbw F.p.a F.p.d rfl rfl) <| IN (Zka F.nu) <| ZcR (decide_eq_true hp) ?_
   exact ZI <| ZG <| Zt rfl (Zbw F.p.a F.p.d rfl rfl) <| E_p rfl <| IN (Zf6 F.nu hp) <| k kr σ F (Zw.refl _ _) (fun x h=>.inl h) (fun x h=>h)
  ·have hpar:par p=none:=by unfold par; rw [if_pos hps]
   refine Zb6 <| ZF <| E_p rfl <| Zt rfl (Zbw F.p.a F.p.d rfl rfl) <| IN (Zka F.nu) <| Zbg (decide_eq_false hp) <| Zh ?_
   show ZJ TT0 (CC m) (_::_) _ _ _
   refine Z7 (v:=ZB p) rfl rfl ?_
   have hpi:ZjH K p=-1:=by unfold ZjH; rw [hpar]
   have hnil:ZbN .NotEq σ (.tup (p.2.map Zcz)) (.tup [])=some false:=by
    refine Zrk (ZfF _) rfl ?_
    rw [hps]
    simp
   refine Zk <| Zdl <| ZF <| E_p rfl <| E_p rfl <| IN hnil <| Zbg rfl <| E_p rfl <| IN rfl ?_
   refine Zim F P hp (fun q h=>by rw [hpar] at h; exact nos h) (by rw [hpi]; rfl) fun r ρ' σ' F' S' hr=>?_
   rw [Zfj hpar hp,ZkK hp] at k
   exact k _ σ' F' S' (fun x h=>(List.mem_append.mp h).elim .inl fun h=>.inr (by rw [List.mem_singleton.mp h]; exact hr)) (fun x h=>List.mem_append_left _ h)
 | succ c ih =>
  intro n g kr K σ p Q hn hc F P hu k
  refine Ze (lvl hn) fun m eQ0_1 hm=>?_; subst eQ0_1
  refine Zd (fd:=f19) rfl rfl ?_
  have hne:p.2 ≠ []:=fun e=>by rw [e] at hc; cases hc
  by_cases hp:p ∈ K
  ·rw [Zci P hp] at k
   refine Zb6 <| ZF <| E_p rfl <| Zt rfl (Zbw F.p.a F.p.d rfl rfl) <| IN (Zka F.nu) <| ZcR (decide_eq_true hp) ?_
   exact ZI <| ZG <| Zt rfl (Zbw F.p.a F.p.d rfl rfl) <| E_p rfl <| IN (Zf6 F.nu hp) <| k kr σ F (Zw.refl _ _) (fun x h=>.inl h) (fun x h=>h)
  ·obtain ⟨q,hpar⟩:∃ q,par p=some q:=⟨_,by unfold par; rw [if_neg hne]⟩
   refine Zb6 <| ZF <| E_p rfl <| Zt rfl (Zbw F.p.a F.p.d rfl rfl) <| IN (Zka F.nu) <| Zbg (decide_eq_false hp) <| Zh ?_
   show ZJ TT0 (CC m) (_::_) _ _ _
   refine Z7 (v:=ZB p) rfl rfl ?_
   have hnil:ZbN .NotEq σ (.tup (p.2.map Zcz)) (.tup [])=some true:=by
    refine Zrk (ZfF _) rfl ?_
    simp [hne]
   have hlen:=ZcY hu
   have hsl:Zid (.tup (p.2.map Zcz)) (.int (-1))=some (.tup (p.2.dropLast.map Zcz)):=by
    rw [Zng (by rw [List.length_map]; exact o1 hlen),<- ZlF (l:=0)]
   have hm71:Zao TT0 σ (.ref g.a) 71=some 19:=Zem F.p.a F.p.d rfl rfl
   refine ZL (ZeA hpar) fun _ hqe=>?_
   have hql:q.2.length=c:=by rw [hqe]; simp [hc]
   have hqu:=ZlN hu hpar
   refine Zk <| Zdl <| ZF <| E_p rfl <| E_p rfl <| IN hnil <| ZcR rfl <| ZaT rfl hm71 <| Za <| Zax <| Za <| E_p rfl <| Za <| Zfq <| E_p rfl <| E_p rfl <| IN hsl <| Zj <| Zj ?_
   have key:CC m 19 [.ref g.a,ZB q] (fun v σ₁=>ZC (Z0 (.nm 80) v [(0,.ref g.a),(36,ZB p),(7,.int p.1),(79,.tup (p.2.map Zcz))]) fun ρ₁=>ZJ TT0 (CC m) ZjX ρ₁ (fun fl _ σ₁=>match fl with
    | .ret v=>Q v σ₁
    | .next=>Q .none σ₁) σ₁) σ:=by
    refine ih hm hql F P hqu fun kr1 σ1 F1 S1 h1 h1'=>IN rfl ?_
    have hp1:=Zdu hpar hp
    have hq1:=ZfN P hqu
    have hpi:ZjH (Zaf K q) p=((idx (Zaf K q) q:Nat):Int):=by unfold ZjH; rw [hpar]
    refine Zim F1 (P.note hqu) hp1 (fun q' h=>by rw [hpar] at h; cases h; exact hq1) (by rw [hpi]; rfl) fun r ρ' σ' F' S' hr=>?_
    rw [Zet hpar hp,ZkK hp1] at k
    have back:∀ x,σ1 x=none->σ x=none\/fp g kr x:=fun x hx=>by
     by_cases h:σ x=none
     ·exact .inl h
     ·by_cases hf:fp g kr x
      ·exact .inr hf
      ·exact absurd hx (by rw [S1 x h hf]; exact h)
    refine k _ σ' F' ?_ (fun x h=>?_) (fun x h=>List.mem_append_left _ (h1' x h))
    ·intro x hx hf
     have e1:=S1 x hx hf
     rw [S' x (by rw [e1]; exact hx) (fun h=>?_),e1]
     rcases h with h | h | h | h | h
     ·exact hf (.inl h)
     ·exact hf (.inr (.inl h))
     ·exact hf (.inr (.inr (.inl h)))
     ·exact hf (.inr (.inr (.inr (.inl h))))
     ·refine Or.elim (h1 x h) (fun h=>?_) fun h=>?_
      ·exact hf (.inr (.inr (.inr (.inr h))))
      ·exact hx h
    ·refine Or.elim (List.mem_append.mp h) (fun h=>?_) fun h=>?_
     ·exact h1 x h
     ·rw [List.mem_singleton.mp h]
      refine Or.elim (back r hr) (fun h=>?_) fun h=>?_
      ·exact .inr h
      ·exfalso
       rcases h with h | h | h | h | h
       ·rw [h,F1.pl] at hr; exact ns2 hr
       ·refine Ze F1.pa fun _ _ h'=>?_
        rw [h,h'] at hr; exact ns2 hr
       ·rw [h,F1.ki] at hr; exact ns2 hr
       ·rw [h,F1.nu] at hr; exact ns2 hr
       ·refine ZU (List.mem_iff_getElem?.mp (h1' r h)) fun i hi=>?_
        rw [F1.kid i r hi] at hr; exact ns2 hr
   rw [hqe] at key
   exact key
open Classical in
theorem Zkb {σ:St} {r:Addr} {K:List Pl} {p:Pl} (h:σ r=some (.list (K.map ZB))):ZbN .NotIn σ (ZB p) (.ref r)=some (!decide (p ∈ K)):=by
 show (inL σ (ZB p) (.ref r)).map (!·)=_
 rw [ZhU h (by rw [ZiL,Zds]; rfl)]
 show some _=some _
 congr 2
 by_cases e:p ∈ K
 ·rw [decide_eq_true e]; exact decide_eq_true (ZdV.mpr e)
 ·rw [decide_eq_false e]; exact decide_eq_false (fun h=>e (ZdV.mp h))
noncomputable def NoI (r:Addr) (σ:St) (K:List Pl) (p:Pl) (i:Nat) (ρ:Env) (σ₁:St):Prop :=
 (ρ=[(148,.ref r),(36,ZB p)]\/∃ x,ρ=[(148,.ref r),(36,ZB p),(85,x)])/\σ₁ r=some (.list ((Zch K p.1 p.2 i).map ZB))/\Zw (only r) σ σ₁
theorem Zg6 (K:List Pl) (l:Nat) (ps:List Pr):∀ i,(Zch K l ps i).length<=K.length + i
 | 0=>Nat.le_refl _
 | i + 1=>by
  have:=Zg6 K l ps i
  rw [Zeq,ZeU]
  split
  ·exact Zs5 this
  ·rw [List.length_append,List.length_singleton]; exact Zs6 this
theorem ZiW {n:Nat} (hn:1<=n) {r:Addr} {K:List Pl} {σ:St} {p:Pl} {Q:LV->St->Prop} (hr:σ r=some (.list (K.map ZB))) (hK:K.length<=1000) (hp:p.2.length<=10)
  (k:∀ σ',σ' r=some (.list ((Zaf K p).map ZB))->Zw (only r) σ σ'->Q .none σ'):CC n 42 [.ref r,ZB p] Q σ:=by
 refine Ze (lvl hn) fun m eQ0_1 hm=>?_; subst eQ0_1
 refine Zd (fd:=f42) rfl rfl ?_
 have hsl:∀ i:Nat,i<=11->Zid (.tup (p.2.map Zcz)) (.int (i:Int))=some (.tup ((p.2.take i).map Zcz)):=fun i hi=>by
  rw [Zhk (by rw [List.length_map]; exact o0 hp) (Zs7 hi),List.map_take]
 refine ZU (show ∃ L,p.2.length + 1=L from ⟨_,rfl⟩) fun L hL=>?_
 have hLL:L<=11:=o26 hp hL
 refine ZO <| Zs <| Zgh <| E_p rfl <| IN (Zqc (n:=p.2.length) (List.length_map ..) (o0 hp)) ?_
 intro c hc
 have:c=(L:Int):=o18 hL hc
 subst this
 refine IN (Zag (o11 hp hL)) (IN (ZS _) ?_)
 refine Zbx (NoI r σ K p) (fun i ρ σ₁ Kk hi hI kn kr=>?_) (fun ρ σ₁ hI=>?_) ⟨.inl rfl,hr,Zw.refl _ _⟩
 ·refine Zbp hI fun hρ h1 h2=>?_
  have hlen:=Zg6 K p.1 p.2 i
  have hs:=hsl i (Zs8 hp hL hi)
  have hcm:=Zkb (p:=(p.1,p.2.take i)) h1
  have step:∀ x:Nat,(Zch K p.1 p.2 (i + 1)=if (p.1,p.2.take i) ∈ Zch K p.1 p.2 i then Zch K p.1 p.2 i else Zch K p.1 p.2 i++[(p.1,p.2.take i)]):=fun _=>rfl
  have kn':∀ (x:LV) σ',σ' r=some (.list ((Zch K p.1 p.2 (i + 1)).map ZB))->Zw (only r) σ σ'->Kk .next [(148,.ref r),(36,ZB p),(85,x)] σ':=fun x σ' h h'=>kn _ _ ⟨.inr ⟨_,rfl⟩,h,h'⟩
  rw [step 0] at kn'
  generalize Zch K p.1 p.2 i=K1 at *
  clear kn kr step
  by_cases hm':(p.1,p.2.take i) ∈ K1
  ·rw [if_pos hm'] at kn'
   rw [decide_eq_true hm'] at hcm
   rcases hρ with rfl | ⟨x,rfl⟩
   all_goals
    refine IN rfl <| Zb6 <| ZF <| Zax <| Za <| E_p rfl <| Za <| Zfq <| E_p rfl <| E_p rfl <| IN hs <| Zj <| E_p rfl <| IN hcm <| Zbg rfl <| Zh <| Zh <| kn' _ σ₁ h1 h2
  ·rw [if_neg hm'] at kn'
   rw [decide_eq_false hm'] at hcm
   have happ:K1.map ZB++[ZB (p.1,p.2.take i)]=(K1++[(p.1,p.2.take i)]).map ZB:=by simp
   rw [<- happ] at kn'
   rcases hρ with rfl | ⟨x,rfl⟩
   all_goals
    refine IN rfl <| Zb6 <| ZF <| Zax <| Za <| E_p rfl <| Za <| Zfq <| E_p rfl <| E_p rfl <| IN hs <| Zj <| E_p rfl <| IN hcm <| ZcR rfl <| ZaR <| ZbH <| E_p rfl <| IN (o_r h1) <| Za <| Zax <| Za <| E_p rfl <| Za <| Zfq <| E_p rfl <| E_p rfl <| IN hs <| Zj <| Zj <| Zaw h1 (by rw [List.length_map]; exact Zs9 hK hp hL hi hlen) ?_
    refine Zh <| Zh ?_
    exact kn' _ _ (Zb ..) (h2.trans (Zw.upd rfl))
 ·refine Zbp hI fun hρ h1 h2=>?_
  rw [<- hL] at h1
  rcases hρ with rfl | ⟨x,rfl⟩
  all_goals exact Zh (k σ₁ h1 h2)
theorem Zg9 {n:Nat} (hn:6<=n) {g:PS} {kr:List Addr} {K:List Pl} {σ:St} (F:Fix g kr K σ) {e:Ent} (he:ZcL e) (hc:Zad e ∈ K) {Q:LV->St->Prop} (k:Q (.int ((idx K (Zad e):Nat):Int)) σ):CC n 23 [.ref g.a,ZB e.1] Q σ:=by
 obtain ⟨m,rfl,hm⟩:=lvl hn
 obtain ⟨h1,h2⟩:=ZcM he
 have hm76:Zao TT0 σ (.ref g.a) 76=some 21:=Zem F.p.a F.p.d rfl rfl
 refine Zd (fd:=f23) rfl rfl ?_
 refine Zk <| ZbZ rfl hm76 rfl <| Znt hm F.p he ?_
 obtain ⟨⟨l,ps⟩,hcut⟩:∃ c,Zad e=c:=⟨_,rfl⟩
 rw [hcut] at hc k
 rw [hcut]
 refine IN rfl ?_
 have hl:ps.length<=3:=by
  have:ps=e.1.2.take e.2:=by
   have:=congrArg (·.2) hcut
   exact this.symm
  rw [this,List.length_take]; exact Zta h2
 have hs:Zid (.tup (ps.map Zcz)) (.int ((ps.length:Nat):Int))=some (.tup (ps.map Zcz)):=by
  rw [Zhk (by rw [List.length_map]; exact o1 hl) (o1 hl),<- List.map_take,List.take_length]
 refine Zk <| Zs <| E_p rfl <| IN (Zqc (n:=ps.length) (List.length_map ..) (o1 hl)) <| IN rfl ?_
 refine ZnZ (fun _ ρ σ₁=>ρ=[(0,.ref g.a),(36,ZB e.1),(7,.int l),(79,.tup (ps.map Zcz)),(85,.int ((ps.length:Nat):Int))]/\σ₁=σ) 0 ⟨rfl,rfl⟩ fun m' ρ σ₁ Kk hI kn kr=>?_
 obtain ⟨rfl,rfl⟩:=hI
 have hnin:=Zrl (p:=(l,ps)) F.nu
 rw [decide_eq_true hc] at hnin
 refine ZF <| Zax <| Za <| E_p rfl <| Za <| Zfq <| E_p rfl <| E_p rfl <| IN hs <| Zj <| Zt rfl (Zbw F.p.a F.p.d rfl rfl) <| IN hnin ?_
 show ZJ TT0 (CC m) _ _ _ _
 refine ZI <| ZG <| Zt rfl (Zbw F.p.a F.p.d rfl rfl) <| Zax <| Za <| E_p rfl <| Za <| Zfq <| E_p rfl <| E_p rfl <| IN hs <| Zj <| IN (Zf6 (p:=(l,ps)) F.nu hc) k
theorem Zmm {n:Nat} (hn:6<=n) {g:PS} {kr:List Addr} {K:List Pl} {σ:St} (F:Fix g kr K σ) {e:Ent} (he:ZcL e) (hc:Zad e ∈ K) {Q:LV->St->Prop} (k:Q (.bool (decide (e.2=e.1.2.length))) σ):CC n 24 [.ref g.a,ZB e.1] Q σ:=by
 refine Ze (lvl hn) fun m eQ0_1 hm=>?_; subst eQ0_1
 refine ZL (ZcM he) fun h1 h2=>?_
 have hm86:Zao TT0 σ (.ref g.a) 86=some 22:=Zem F.p.a F.p.d rfl rfl
 refine Zd (fd:=f24) rfl rfl ?_
 refine ZI <| ZaP <| Zq6 <| ZbZ rfl hm86 rfl <| ZmC hm F.p he ?_
 by_cases hlt:e.2=e.1.2.length
 ·rw [decide_eq_true hlt] at k
  rw [decide_eq_false (show ¬ e.2 < e.1.2.length by exact Ztb hlt)]
  have hce:Zad e=e.1:=by unfold Zad; rw [hlt,List.take_length]
  rw [hce] at hc
  have hin:=Zka (p:=e.1) F.nu
  rw [decide_eq_true hc] at hin
  refine ZbL rfl <| ZF <| Zax <| Za <| E_p rfl <| Za <| Zs <| E_p rfl <| IN Zqd <| Zj <| Zt rfl (Zbw F.p.a F.p.d rfl rfl) <| IN hin k
 ·rw [decide_eq_false hlt] at k
  rw [decide_eq_true (show e.2 < e.1.2.length by exact o30 h1 hlt)]
  exact ZdP rfl k
noncomputable def pre (p q:Pl):Prop:=p.1=q.1/\q.2.take p.2.length=p.2
noncomputable def ZeR (K:List Pl) (i j:Nat):Prop:=∃ p q,K[i]?=some p/\K[j]?=some q/\pre p q
noncomputable def Zd0 (K:List Pl) (i:Nat) (js:List Nat):Prop:=(∀ j,j ∈ js ↔ ZeR K i j)/\js.length<=14
theorem ZfU {p q:Pl} (h:pre p q):p.2.length<=q.2.length:=by
 have:=congrArg List.length h.2
 rw [List.length_take] at this
 exact Ztc this
theorem Zi6 (p:Pl):pre p p:=⟨rfl,List.take_length⟩
theorem ZoU {p q r:Pl} (h:pre p q) (hr:par q=some r) (hne:p ≠ q):pre p r:=by
 refine ZL (ZeA hr) fun h1 eQ0_1=>?_; subst eQ0_1
 have hl:=ZfU h
 have hlt:p.2.length < q.2.length:=by
  refine Or.elim (Nat.lt_or_ge p.2.length q.2.length) (fun h'=>?_) fun h'=>?_
  ·exact h'
  ·exfalso
   have e:p.2.length=q.2.length:=Ztd hl h'
   have:=h.2
   rw [e,List.take_length] at this
   exact hne (Prod.ext h.1 this.symm)
 refine ⟨h.1,?_⟩
 dsimp only
 rw [List.dropLast_eq_take,List.take_take,Nat.min_eq_left (o53 hlt)]
 exact h.2
theorem ZoT {p q r:Pl} (h:pre p q) (hr:par r=some q):pre p r:=by
 refine ZL (ZeA hr) fun h1 eQ0_1=>?_; subst eQ0_1
 have hl:=ZfU h
 have h2:=h.2
 refine ⟨h.1,?_⟩
 dsimp only at h2 hl
 rw [List.dropLast_eq_take,List.take_take,Nat.min_eq_left (by rw [List.length_dropLast] at hl; exact hl)] at h2
 exact h2
theorem Zh3 (q:Pl):par q=none\/∃ r,par q=some r:=by
 cases par q with
 | none=>exact .inl rfl
 | some r=>exact .inr ⟨r,rfl⟩
theorem Zi7 {p q:Pl} (h:pre p q) (hq:par q=none):p=q:=by
 refine ifs hq (fun _ hq=>?_) fun _ hq=>?_
 ·rename_i e
  have hl:=ZfU h
  rw [e] at hl
  have:p.2=[]:=List.length_eq_zero_iff.mp (by simpa using hl)
  exact Prod.ext h.1 (by rw [this,e])
 ·exact ns2 hq
theorem ZhQ {K:List Pl} (h:PK K) {i j:Nat} {p:Pl} (hi:K[i]?=some p) (hj:K[j]?=some p):i=j :=
 (List.getElem?_inj (h₀:=ZR hi) h.nd).mp (hi.trans hj.symm)
structure Dfs (K:List Pl) (i:Nat) (fnd left:List Nat):Prop where
 nd:(fnd++left).Nodup
 un:∀ j,j ∈ fnd++left->ZeR K i j
 root:i ∈ fnd++left
 par:∀ j,j ∈ fnd++left->j=i\/∃ h ∈ fnd,j ∈ Z9 K h
 kid:∀ h ∈ fnd,∀ j ∈ Z9 K h,j ∈ fnd++left
theorem Dfs.start {K:List Pl} {i:Nat} (hi:i < K.length):Dfs K i [] [i] :=
 ⟨by simp,fun j h=>by
  have:j=i:=by simpa using h
  subst this
  exact ⟨_,_,List.getElem?_eq_getElem hi,List.getElem?_eq_getElem hi,Zi6 _⟩,by simp,fun j h=>.inl (by simpa using h),fun h hh=>by cases hh⟩
theorem Dfs.step {K:List Pl} (P:PK K) {i h:Nat} {fnd left:List Nat} (D:Dfs K i fnd (left++[h])):Dfs K i (fnd++[h]) (left++Z9 K h):=by
 have hh:h ∈ fnd++(left++[h]):=by simp
 have sub:∀ j,j ∈ fnd++(left++[h])->j ∈ fnd++[h]++(left++Z9 K h):=fun j hj=>by
  simp only [List.mem_append,List.mem_singleton] at hj ⊢
  rcases hj with a | a | a
  ·exact .inl (.inl a)
  ·exact .inr (.inl a)
  ·exact .inl (.inr a)
 have back:∀ j,j ∈ fnd++[h]++(left++Z9 K h)->j ∈ fnd++(left++[h])\/j ∈ Z9 K h:=fun j hj=>by
  simp only [List.mem_append,List.mem_singleton] at hj ⊢
  rcases hj with (a | a) | a | a
  ·exact .inl (.inl a)
  ·exact .inl (.inr (.inr a))
  ·exact .inl (.inr (.inl a))
  ·exact .inr a
 refine ZaM (D.un h hh) fun p0 ph hp0 hph hpre=>?_
 have hnf:h ∉ fnd:=fun hf=>by
  have:=(List.nodup_append.mp D.nd).2.2 h hf h (by simp)
  exact this rfl
 refine ⟨?_,?_,sub i D.root,?_,?_⟩
 ·have perm:(fnd++[h]++(left++Z9 K h)).Perm (fnd++(left++[h])++Z9 K h):=by
   have e1:fnd++[h]++(left++Z9 K h)=fnd++(([h]++left)++Z9 K h):=by simp
   have e2:fnd++(left++[h])++Z9 K h=fnd++((left++[h])++Z9 K h):=by simp
   rw [e1,e2]
   exact List.Perm.append_left _ (List.Perm.append_right _ List.perm_append_comm)
  rw [perm.nodup_iff]
  refine List.nodup_append.mpr ⟨D.nd,Zjz K h,fun a ha b hb e=>?_⟩
  subst e
  refine ZaM (Zc6.mp hb) fun q p hq hp e=>?_
  rw [hph] at hp
  injection hp with hp
  subst hp
  rcases D.par a ha with rfl | ⟨h',hf,hk⟩
  ·rw [hp0] at hq
   injection hq with hq
   subst hq
   have h1:=ZfU hpre
   refine ZL (ZeA e) fun h2 eQ0_1=>?_; subst eQ0_1
   have:0 < p0.2.length:=List.length_pos_iff.mpr h2
   simp only [List.length_dropLast] at h1
   exact Zte this h1
  ·refine ZaM (Zc6.mp hk) fun q' p' hq' hp' e'=>?_
   rw [hq] at hq'
   injection hq' with hq'
   subst hq'
   rw [e] at e'
   injection e' with e'
   subst e'
   exact hnf (ZhQ P hp' hph ▸ hf)
 ·intro j hj
  refine Or.elim (back j hj) (fun hj=>?_) fun hj=>?_
  ·exact D.un j hj
  ·refine ZaM (Zc6.mp hj) fun q p hq hp e=>?_
   rw [hph] at hp
   injection hp with hp
   subst hp
   exact ⟨p0,q,hp0,hq,ZoT hpre e⟩
 ·intro j hj
  refine Or.elim (back j hj) (fun hj=>?_) fun hj=>?_
  ·rcases D.par j hj with e | ⟨h',hf,hk⟩
   ·exact .inl e
   ·exact .inr ⟨h',List.mem_append_left _ hf,hk⟩
  ·exact .inr ⟨h,by simp,hj⟩
 ·intro h' hh' j hj
  refine Or.elim (List.mem_append.mp hh') (fun hh'=>?_) fun hh'=>?_
  ·exact sub j (D.kid h' hh' j hj)
  ·rw [List.mem_singleton] at hh'
   subst hh'
   simp [hj]
theorem Dfs.len {K:List Pl} {i:Nat} {fnd left:List Nat} (D:Dfs K i fnd left):fnd.length + left.length<=K.length:=by
 have:=Zcl (K:=fnd++left) (U:=List.range K.length) D.nd fun j hj=>by
  refine ZaM (D.un j hj) fun p q h1 h2 h3=>?_
  exact List.mem_range.mpr (ZR h2)
 rw [List.length_append,List.length_range] at this
 exact this
theorem ZnV {K:List Pl} (P:PK K) {i:Nat} {fnd:List Nat} (D:Dfs K i fnd []):∀ (c:Nat) {j:Nat} {p q:Pl},q.2.length<=c->K[i]?=some p->K[j]?=some q->pre p q->j ∈ fnd:=by
 have hroot:i ∈ fnd:=by have:=D.root; rw [List.append_nil] at this; exact this
 have hkid:∀ h ∈ fnd,∀ j ∈ Z9 K h,j ∈ fnd:=fun h hh j hj=>by have:=D.kid h hh j hj; rw [List.append_nil] at this; exact this
 intro c
 induction c with
 | zero =>
  intro j p q hc hi hj hpre
  have hp:par q=none:=by unfold par; rw [if_pos (List.length_eq_zero_iff.mp (Ztf hc))]
  have:=Zi7 hpre hp
  subst this
  exact ZhQ P hi hj ▸ hroot
 | succ c ih =>
  intro j p q hc hi hj hpre
  by_cases e:p=q
  ·subst e
   exact ZhQ P hi hj ▸ hroot
  ·rcases Zh3 q with hp | ⟨r,hr⟩
   ·exact absurd (Zi7 hpre hp) e
   ·have hrK:=P.cl q (List.mem_of_getElem? hj) r hr
    have hrg:=ZfB hrK
    have hm:=ih (j:=idx K r) (by obtain ⟨h1,rfl⟩:=ZeA hr; simp only [List.length_dropLast]; exact Ztg hc) hi hrg (ZoU hpre hr e)
    exact hkid _ hm j (Zc6.mpr ⟨q,r,hj,hrg,hr⟩)
theorem Dfs.below {K:List Pl} (P:PK K) {i:Nat} {fnd:List Nat} (D:Dfs K i fnd []):Zd0 K i fnd:=by
 refine ⟨fun j=>⟨fun h=>D.un j (by simpa using h),fun hQ0=>ZaM hQ0 fun p q h1 h2 h3=>ZnV P D _ (Nat.le_refl _) h1 h2 h3⟩,?_⟩
 have:=D.len
 have:=P.len
 simp at *
 omega
theorem ZkQ (i:Nat):∀ xs:List Nat,∃ js:List Nat,ZdF (i:Int) (xs.map fun (j:Nat)=>(j:Int))=js.map (fun (j:Nat)=>(j:Int))/\(∀ j,j ∈ js ↔ j=i\/j ∈ xs)/\js.length=xs.length + 1
 | []=>⟨[i],rfl,fun j=>by simp,rfl⟩
 | x::xs=>by
  refine Zdk (ZkQ i xs) fun js h1 h2 h3=>?_
  rw [List.map_cons]
  rw [ZfC]
  by_cases h:(i:Int) < (x:Int)
  ·rw [if_pos h]
   exact ⟨i::x::xs,rfl,fun j=>by simp,rfl⟩
  ·rw [if_neg h,h1]
   refine ⟨x::js,rfl,fun j=>?_,by simp [h3]⟩
   simp only [List.mem_cons,h2]
   constructor
   ·rintro (h | h | h)
    ·exact .inr (.inl h)
    ·exact .inl h
    ·exact .inr (.inr h)
   ·rintro (h | h | h)
    ·exact .inr (.inl h)
    ·exact .inl h
    ·exact .inr (.inr h)
theorem Zje:∀ xs:List Nat,∃ js:List Nat,ZbX (xs.map fun (j:Nat)=>(j:Int))=js.map (fun (j:Nat)=>(j:Int))/\(∀ j,j ∈ js ↔ j ∈ xs)/\js.length=xs.length
 | []=>⟨[],rfl,fun j=>by simp,rfl⟩
 | x::xs=>by
  refine Zdk (Zje xs) fun js h1 h2 h3=>?_
  refine Zdk (ZkQ x js) fun ks h4 h5 h6=>?_
  rw [List.map_cons]
  rw [ZjL]
  rw [h1,h4]
  exact ⟨ks,rfl,fun j=>by rw [h5,h2,List.mem_cons],by rw [h6,h3]; rfl⟩
theorem ZkT:∀ xs:List Nat,ZbC (nL xs)=some (xs.map fun (j:Nat)=>(j:Int))
 | []=>rfl
 | x::xs=>by
  have:=ZkT xs
  unfold nL at this ⊢
  rw [List.map_cons]
  show Option.map _ (ZbC (xs.map _))=_
  rw [this]
  rfl
theorem Zqb {σ:St} {r:Addr} {xs:List Nat} (h:σ r=some (.list (nL xs))) (hl:xs.length < 64):∃ js,biL .sorted_ σ [.ref r]=some (.lst (nL js))/\(∀ j,j ∈ js ↔ j ∈ xs)/\js.length=xs.length:=by
 refine Zdk (Zje xs) fun js h1 h2 h3=>?_
 refine ⟨js,?_,h2,h3⟩
 show (Zaa σ (.ref r)).bind _=_
 rw [o_r h]
 show (ZbC (nL xs)).bind _=_
 rw [ZkT,Option.bind_some,List.length_map,if_pos hl,h1]
 rw [List.map_map]
 rfl
theorem Zei:∀ xs:List Nat,ZA (nL xs)=true:=by
 have:∀ xs:List Nat,Zam (nL xs)=true/\Z8 (nL xs)=0:=by
  intro xs
  unfold nL
  induction xs with
  | nil=>exact ⟨rfl,rfl⟩
  | cons x xs ih =>
   rw [List.map_cons]
   rw [Zcy,Zfw]
   rw [ih.1,ih.2]
   exact ⟨rfl,rfl⟩
 intro xs
 unfold ZA
 rw [(this xs).1,(this xs).2]
 rfl
open Classical in
theorem ZiR {σ:St} {r:Addr} {xs:List LV} (h:σ r=some (.list xs)) (hk:ZA xs=true) (hx:xs ≠ []):ZbN .NotEq σ (.ref r) (.lst [])=some true:=by
 show (eqL σ (.ref r) (.lst [])).map (!·)=_
 show (eqK σ (.ref r) (.lst [])).map (!·)=_
 unfold eqK
 rw [if_neg (by exact fun h=>nob h),o_r h,o_l]
 show (if (ZA xs&&ZA [])=true then some (decide (xs=[])) else none).map _=_
 rw [hk,if_pos (by rfl)]
 simp [hx]
open Classical in
theorem ZiQ {σ:St} {r:Addr} (h:σ r=some (.list [])):ZbN .NotEq σ (.ref r) (.lst [])=some false:=by
 show (eqL σ (.ref r) (.lst [])).map (!·)=_
 show (eqK σ (.ref r) (.lst [])).map (!·)=_
 unfold eqK
 rw [if_neg (by exact fun h=>nob h),o_r h,o_l]
 show (if (ZA []&&ZA [])=true then some (decide (([]:List LV)=[])) else none).map _=_
 rw [if_pos (by rfl)]
 simp
theorem Zfd:∀ {ls:List (Int × LV)} {k:Int},k ∉ ls.map (·.1)->Za3 k ls=none
 | [],k,_=>rfl
 | (x,v)::r,k,h=>by
  have h1:k ≠ x:=fun e=>h (by rw [e]; exact List.mem_cons_self)
  rw [ZbR]
  rw [if_neg h1]
  exact Zfd fun h'=>h (List.mem_cons_of_mem _ h')
theorem Zfe:∀ {ls:List (Int × LV)} {k:Int},k ∈ ls.map (·.1)->∃ v,Za3 k ls=some v
 | [],k,h=>by cases h
 | (x,v)::r,k,h=>by
  rw [ZbR]
  by_cases e:k=x
  ·rw [if_pos e]; exact ⟨v,rfl⟩
  ·rw [if_neg e]
   exact Zfe ((List.mem_cons.mp h).resolve_left e)
theorem ZeD:∀ {ls:List (Int × LV)} {k:Int} {u:LV},k ∉ ls.map (·.1)->(Zhu k u ls).map (·.1)=ls.map (·.1)++[k]
 | [],k,u,_=>rfl
 | (x,v)::r,k,u,h=>by
  have h1:k ≠ x:=fun e=>h (by rw [e]; exact List.mem_cons_self)
  rw [Zlt]
  rw [if_neg h1,List.map_cons,ZeD fun h'=>h (List.mem_cons_of_mem _ h')]
  rfl
theorem ZeE:∀ {ls:List (Int × LV)} {k:Int} {u:LV} {y:Int},Za3 y (Zhu k u ls)=if y=k then some u else Za3 y ls
 | [],k,u,y=>by
  rfl
 | (x,v)::r,k,u,y=>by
  rw [Zlt]
  by_cases e:k=x
  ·subst e
   rw [if_pos rfl]
   rw [ZbR,ZbR]
   by_cases h:y=k
   ·rw [if_pos h,if_pos h]
   ·rw [if_neg h,if_neg h,if_neg h]
  ·rw [if_neg e]
   rw [ZbR,ZbR]
   rw [ZeE]
   by_cases h:y=x
   ·rw [if_pos h,if_pos h,if_neg (fun h'=>e (h'.symm.trans h))]
   ·rw [if_neg h,if_neg h]
structure Lots (K:List Pl) (ls:List (Int × LV)):Prop where
 nd:(ls.map (·.1)).Nodup
 ks:∀ x ∈ ls.map (·.1),x ∈ (List.range K.length).map fun (j:Nat)=>(j:Int)
 v:∀ (i:Nat) v,Za3 i ls=some v->∃ js,v=.lst (nL js)/\Zd0 K i js
theorem Lots.len {K:List Pl} {ls:List (Int × LV)} (L:Lots K ls):ls.length<=K.length:=by
 have:=Zcl L.nd L.ks
 rw [List.length_map,List.length_map,List.length_range] at this
 exact this
theorem Lots.nil (K:List Pl):Lots K []:=⟨List.nodup_nil,fun x h=>(by cases h),fun i v h=>(nos h)⟩
theorem Lots.put {K:List Pl} {ls:List (Int × LV)} (L:Lots K ls) {i:Nat} (hi:i < K.length) (hn:((i:Nat):Int) ∉ ls.map (·.1)) {js:List Nat} (B:Zd0 K i js):Lots K (Zhu i (.lst (nL js)) ls):=by
 refine ⟨?_,?_,?_⟩
 ·rw [ZeD hn]
  exact List.nodup_append.mpr ⟨L.nd,(by simp),fun a ha b hb e=>hn (by rw [List.mem_singleton] at hb; rw [<- hb,<- e]; exact ha)⟩
 ·rw [ZeD hn]
  intro x hx
  refine Or.elim (List.mem_append.mp hx) (fun hx=>?_) fun hx=>?_
  ·exact L.ks x hx
  ·rw [List.mem_singleton.mp hx]
   exact List.mem_map.mpr ⟨i,List.mem_range.mpr hi,rfl⟩
 ·intro y v h
  rw [ZeE] at h
  split at h
  ·rename_i e
   have:y=i:=by exact_mod_cast e
   subst this
   injection h with h
   exact ⟨js,h.symm,B⟩
  ·exact L.v y v h
noncomputable def ZN (g:PS) (K:List Pl) (σ:St):Prop:=∃ ls,σ g.lo=some (.idict ls)/\Lots K ls
open Classical in
theorem ZpH {σ:St} {r:Addr} {ls:List (Int × LV)} {i:Int} (h:σ r=some (.idict ls)):ZbN .NotIn σ (.int i) (.ref r)=some (!decide (i ∈ ls.map (·.1))):=by
 show (inL σ (.int i) (.ref r)).map (!·)=_
 rw [ZkL h]; rfl
theorem ZqF {σ:St} {r:Addr} {ls:List (Int × LV)} {i:Int} (h:σ r=some (.idict ls)):Zge σ (.ref r) (.int i)=Za3 i ls:=by
 exact ZjO h
theorem Zps {a:Addr} {xs:List LV} {y:LV} {Q:LV->St->Prop} {σ:St} (h:σ a=some (.list (xs++[y]))) (hl:(xs++[y]).length<=1000000) (k:Q y (upd σ a (some (.list xs)))):lmL .pop (.ref a) [] Q σ:=by
 refine ⟨rfl,?_⟩
 show ZC (Znb σ (.ref a)) _
 exact IN (ZfZ h) ⟨hl,xs,y,rfl,k⟩
theorem ZlZ {a b:Addr} {xs ys:List LV} {Q:LV->St->Prop} {σ:St} (h:σ a=some (.list xs)) (h':σ b=some (.list ys)) (hne:b ≠ a) (hl:xs.length + ys.length<=1000000) (k:Q .none (upd σ a (some (.list (xs++ys))))):lmL .extend (.ref a) [.ref b] Q σ:=by
 show ZC (Znb σ (.ref a)) _
 exact IN (ZfZ h) (IN (o_r h') ⟨hl,fun e=>hne (by injection e),k⟩)
theorem Zen (xs ys:List Nat):nL (xs++ys)=nL xs++nL ys:=List.map_append
theorem ZgX {α:Type} {xs:List α} (h:xs ≠ []):∃ ys y,xs=ys++[y]:=⟨xs.dropLast,xs.getLast h,(List.dropLast_concat_getLast h).symm⟩
noncomputable def Zoj:List LS:=[.asg (.nm 63) (.lm (.v 56) .pop []),.expr (.lm (.v 10) .append [(.v 63)]),.expr (.lm (.v 56) .extend [(.sub (.attr (.v 0) 68) (.v 63))])]
noncomputable def ZrR (g:PS) (K:List Pl) (i:Nat) (fo le:Addr) (σ₀:St) (m:Nat) (ρ:Env) (σ:St):Prop :=
 (ρ=[(0,.ref g.a),(81,.int i),(10,.ref fo),(56,.ref le)]\/∃ x,ρ=[(0,.ref g.a),(81,.int i),(10,.ref fo),(56,.ref le),(63,x)])/\
 ∃ fnd left,Dfs K i fnd left/\m + fnd.length=K.length/\σ fo=some (.list (nL fnd))/\σ le=some (.list (nL left))/\Zw Zr σ₀ σ
theorem Zmj {mm:Nat} {g:PS} {kr:List Addr} {K:List Pl} {σ₀:St} (F:Fix g kr K σ₀) (P:PK K) {i:Nat} {fo le:Addr} (hne:fo ≠ le) (hfo:σ₀ fo=none) (hle:σ₀ le=none) {m:Nat} {ρ:Env} {σ:St} {fnd left:List Nat} {h:Nat}
  (hρ:ρ=[(0,.ref g.a),(81,.int i),(10,.ref fo),(56,.ref le)]\/∃ x,ρ=[(0,.ref g.a),(81,.int i),(10,.ref fo),(56,.ref le),(63,x)])
  (D:Dfs K i fnd (left++[h])) (hm:m + fnd.length=K.length) (h1:σ fo=some (.list (nL fnd))) (h2:σ le=some (.list (nL (left++[h])))) (hs:Zw Zr σ₀ σ) {Q:Fl->Env->St->Prop}
  (k:∀ m' ρ' σ',m' < m->ZrR g K i fo le σ₀ m' ρ' σ'->Q .next ρ' σ'):ZJ TT0 (CC mm) Zoj ρ Q σ:=by
 have hlen:=D.len
 have hKl:=P.len
 have hh:h < K.length:=by
  refine ZaM (D.un h (by simp)) fun p q _ h3 _=>?_
  exact ZR h3
 rw [Zen] at h2
 have h2':σ le=some (.list (nL left++[.int (h:Int)])):=h2
 rw [List.length_append,List.length_singleton] at hlen
 have e1:upd σ le (some (.list (nL left))) fo=some (.list (nL fnd)):=(Zc _ _ hne).trans h1
 have e2:∀ o,upd (upd σ le (some (.list (nL left)))) fo o le=some (.list (nL left)):=fun o=>by rw [Zc _ _ hne.symm,Zb]
 have old:∀ {x:Addr} {o:LO} {o':Option LO},σ₀ x=some o->upd (upd σ le (some (.list (nL left)))) fo o' x=some o:=fun {x o o'} hx=>by
  rw [Zc _ _ (Zu hx hfo),Zc _ _ (Zu hx hle)]
  exact hs.some hx fun h=>h
 obtain ⟨r,hr⟩:∃ r,kr[h]?=some r:=⟨kr[h]'(by rw [F.krl]; exact hh),List.getElem?_eq_getElem _⟩
 have hkid:=F.kid h r hr
 have hnth:Zeu (kr.map LV.ref) (h:Int)=some (.ref r):=Z5 (by rw [List.getElem?_map,hr]; rfl) (by rw [List.length_map,F.krl]; exact o3 hKl)
 have hkl:(Z9 K h).length<=K.length:=by
  have:=List.length_filter_le (fun j=>match K[j]? with
   | some q=>par q == K[h]?&&(par q).isSome
   | none=>false) (List.range K.length)
  rw [List.length_range] at this
  exact this
 have fin:∀ (x:LV),Q .next [(0,.ref g.a),(81,.int i),(10,.ref fo),(56,.ref le),(63,.int h)] (upd (upd (upd σ le (some (.list (nL left)))) fo (some (.list (nL fnd++[.int h])))) le (some (.list (nL left++nL (Z9 K h))))):=fun _=>by
  refine k (m - 1) _ _ (Zth hm hlen) ⟨.inr ⟨_,rfl⟩,fnd++[h],left++Z9 K h,D.step P,by rw [List.length_append,List.length_singleton]; exact Zti hm hlen,?_,?_,?_⟩
  ·rw [Zc _ _ hne,Zb,Zen]; rfl
  ·rw [Zb,Zen]
  ·intro x hx hn
   have hf:x ≠ fo:=fun e=>hx (by rw [e,hfo])
   have hl:x ≠ le:=fun e=>hx (by rw [e,hle])
   rw [Zc _ _ hl,Zc _ _ hf,Zc _ _ hl]
   exact hs x hx hn
 clear k
 rcases hρ with rfl | ⟨x,rfl⟩
 all_goals
  refine Zk <| ZbH <| E_p rfl <| IN (o_r h2') <| Zj <| Zps h2' (by rw [List.length_append,Zcf]; simp; exact Ztj hlen hKl) <| IN rfl ?_
  refine ZaR <| ZbH <| E_p rfl <| IN (o_r e1) <| Za <| E_p rfl <| Zj <| Zaw e1 (by rw [Zcf]; exact Ztk hm hKl) ?_
  refine ZaR <| ZbH <| E_p rfl <| IN (o_r (e2 _)) <| Za <| ZG <| Zt rfl (Zbw (old F.p.a) (old F.p.d) rfl rfl) <| E_p rfl <| IN ((s_r (old F.ki)).trans hnth) <| Zj <| ZlZ (e2 _) (old hkid) (Zu hkid hle) (by rw [Zcf,Zcf]; exact Ztl hlen hKl hkl) ?_
  exact Zh (fin .none)
theorem Zin {n:Nat} (hn:1<=n) {g:PS} {kr:List Addr} {K:List Pl} {σ:St} (F:Fix g kr K σ) (P:PK K) (L:ZN g K σ) {i:Nat} (hi:i < K.length) {Q:LV->St->Prop}
  (k:∀ js σ',Zd0 K i js->Zw (only g.lo) σ σ'->ZN g K σ'->Q (.lst (nL js)) σ'):CC n 25 [.ref g.a,.int (i:Int)] Q σ:=by
 obtain ⟨m,rfl,hm⟩:=lvl hn
 obtain ⟨ls,hlo,L⟩:=L
 have hKl:=P.len
 have hll:=L.len
 refine Zd (fd:=f25) rfl rfl ?_
 refine Zb6 <| ZF <| E_p rfl <| Zt rfl (Zbw F.p.a F.p.d rfl rfl) <| IN (ZpH hlo) ?_
 by_cases hin:((i:Nat):Int) ∈ ls.map (·.1)
 ·obtain ⟨v,hv⟩:=Zfe hin
  obtain ⟨js,rfl,hB⟩:=L.v i v hv
  refine Zbg (by simp [hin]) <| Zh ?_
  show ZJ TT0 (CC m) (_::_) _ _ _
  exact ZI <| ZG <| Zt rfl (Zbw F.p.a F.p.d rfl rfl) <| E_p rfl <| IN ((ZqF hlo).trans hv) <| k js σ hB (Zw.refl _ _) ⟨ls,hlo,L⟩
 ·refine ZcR (by simp [hin]) ?_
  refine Zk <| Zax <| Za <| Zbq rfl <| Zb5 fun fo hfo=>Za <| Zbq rfl <| Zb5 fun le hle=>Zj <| IN rfl ?_
  have hne:fo ≠ le:=Zu (Zb ..) hle
  have hle0:σ le=none:=by rw [<- hle,Zc _ _ hne.symm]
  refine ZnZ (ZrR g K i fo le σ) K.length ⟨.inl rfl,[],[i],Dfs.start hi,by simp,by rw [Zc _ _ hne,Zb]; rfl,by rw [Zb]; rfl,?_⟩ fun m' ρ σ₁ Kk hI kn kr=>?_
  ·exact (Zw.new hfo).trans (Zw.new hle)
  ·obtain ⟨hρ,fnd,left,D,hm',h1,h2,hs⟩:=hI
   have hlen:=D.len
   have hgA:=hs.some F.p.a fun h=>h
   have hgD:=hs.some F.p.d fun h=>h
   have hglo:=hs.some hlo fun h=>h
   by_cases hleft:left=[]
   ·subst hleft
    obtain ⟨js,hj1,hj2,hj3⟩:=Zqb h1 (by simp at hlen; exact Ztm hKl hm')
    have hB0:=D.below P
    have hB:Zd0 K i js:=⟨fun j=>(hj2 j).trans (hB0.1 j),by rw [hj3]; exact hB0.2⟩
    have hlook:Za3 (i:Int) (Zhu (i:Int) (.lst (nL js)) ls)=some (.lst (nL js)):=by rw [ZeE,if_pos rfl]
    have dlo:g.d ≠ g.lo:=ZQ F.p.d hlo (by simp)
    have alo:g.a ≠ g.lo:=ZQ F.p.a hlo (by simp)
    have fin:Q (.lst (nL js)) (upd σ₁ g.lo (some (.idict (Zhu (i:Int) (.lst (nL js)) ls)))):=by
     refine k js _ hB ?_ ⟨_,Zb ..,L.put hi hin hB⟩
     exact (hs.weaken fun a h=>h.elim).trans (Zw.upd rfl)
    clear k kn kr
    rcases hρ with rfl | ⟨x,rfl⟩
    all_goals
     refine ZF <| E_p rfl <| E_p rfl <| IN (ZiQ h2) ?_
     show ZJ TT0 (CC m) (_::_) _ _ _
     refine ZeX <| ZlV rfl hj1 <| Zt rfl (Zbw hgA hgD rfl rfl) <| E_p rfl <| Zqu hglo (o55 hKl hll) (Zfd hin) <| Zh ?_
     show ZJ TT0 (CC m) (_::_) _ _ _
     exact ZI <| ZG <| Zt rfl (Zbw ((Zc _ _ alo).trans hgA) ((Zc _ _ dlo).trans hgD) rfl rfl) <| E_p rfl <| IN ((ZqF (Zb ..)).trans hlook) fin
   ·obtain ⟨left',h,rfl⟩:=ZgX hleft
    have ht:=ZiR h2 (Zei _) (by unfold nL; simp)
    have step:=Zmj (mm:=m) F P hne hfo hle0 hρ D hm' h1 h2 hs (Q:=fun fl ρ₂ σ₂=>match fl with
     | .next=>Kk .next ρ₂ σ₂
     | .ret v=>Kk (.ret v) ρ₂ σ₂) fun m'' ρ' σ' hlt hI=>kn m'' ρ' σ' hlt hI
    clear k kn kr
    rcases hρ with rfl | ⟨x,rfl⟩
    all_goals
     refine ZF <| E_p rfl <| E_p rfl <| IN ht ?_
     exact step
section
variable {T:Tab} {ρ:Env}
theorem Zq {x:Nat} {v:LV} (h:Zo ρ x=some v):evp T ρ (.v x)=some v:=h
theorem Zbr {v:LV}:evp T ρ (.k v)=some v:=rfl
theorem Zsy {x:Nat}:evp T ρ (.g x)=T.glob x:=rfl
theorem ZdD {e i:LE} {a b c:LV} (h1:evp T ρ e=some a) (h2:evp T ρ i=some b) (h3:Zpm a b=some c):evp T ρ (.sub e i)=some c:=by
 show Option.bind (evp T ρ e) _=_
 rw [h1]; show Option.bind (evp T ρ i) _=_; rw [h2]; exact h3
theorem Zb2 {o:CmpOp} {l r:LE} {a b:LV} {c:Bool} (h1:evp T ρ l=some a) (h2:evp T ρ r=some b) (h3:ZqU o a b=some c):evp T ρ (.cmp o l r)=some (.bool c):=by
 show Option.bind (evp T ρ l) _=_
 rw [h1]; show Option.bind (evp T ρ r) _=_; rw [h2]; show Option.bind (ZqU o a b) _=_; rw [h3]; rfl
theorem ZH {x:Nat} {v:LV}:Zo (Zm ρ x v) x=some v:=by rw [ZM,if_pos rfl]
theorem Zl {x y:Nat} {v w:LV} (h:Zo ρ y=some w) (hn:y ≠ x):Zo (Zm ρ x v) y=some w:=by rw [ZM,if_neg hn]; exact h
theorem ZZ {x:Nat} {v:LV}:Z0 (.nm x) v ρ=some (Zm ρ x v):=rfl
end
noncomputable def opE:Act->List (Ent ⊕ (Nat × List LV))
 | .inl (.mv a b)=>[.inl a]
 | .inl (.bin a b)=>[.inl a,.inl b]
 | .inl (.num a)=>[.inr (133,[Zev,.int 5])]
 | .inl (.cpy a)=>[.inr (136,[ZB a.1])]
 | .inl (.prt a)=>[.inl a]
 | .inl (.lv _ _)=>[]
 | .inr (.goto _)=>[]
 | .inr (.drop _ _)=>[]
 | .inr (.call a b _)=>[.inl a,.inr (136,[ZB b.1])]
 | .inr .ret=>[]
noncomputable def Zpk:Ent ⊕ (Nat × List LV)->LV
 | .inl e=>ZmJ e.1
 | .inr (x,vs)=>.tup (.w x::vs)
noncomputable def Zqq:Ent ⊕ (Nat × List LV)->Prop
 | .inl e=>e ∈ Zbe
 | .inr (x,_)=>Nat.beq x 75=false
noncomputable def ZoM:Ent ⊕ (Nat × List LV)->List Ent
 | .inl e=>[e]
 | .inr _=>[]
noncomputable def wrE:Act->Option Ent
 | .inl (.mv a b)=>some b
 | .inl (.bin a b)=>some ((0,[]),0)
 | .inl (.num a)=>some a
 | .inl (.cpy a)=>some ((4,[]),0)
 | .inr (.call a b _)=>some b
 | _=>none
noncomputable def drE:Act->Option Ent
 | .inr (.drop a _)=>some a
 | _=>none
noncomputable def Zhv:Act->Prop
 | .inl s=>s.ok
 | .inr e=>∃ M,e.ok M
theorem ZnL (a:Act):ZoP a=(opE a).map Zpk:=by
 rcases a with s | e
 ·cases s <;> rfl
 ·cases e <;> rfl
theorem ZqM (a:Act):Zsc a=(wrE a).map (·.1):=by
 rcases a with s | e
 ·cases s <;> rfl
 ·cases e <;> rfl
theorem ZpR (a:Act):Zr3 a=(drE a).map (·.1):=by
 rcases a with s | e
 ·cases s <;> rfl
 ·cases e <;> rfl
theorem ZoN {a:Act} (h:Zhv a):∀ o ∈ opE a,Zqq o:=by
 rcases a with s | e
 ·cases s with
  | mv a b=>exact List.forall_mem_singleton.mpr h.1
  | bin a b=>exact List.forall_mem_cons.mpr ⟨h.1,List.forall_mem_singleton.mpr h.2⟩
  | num a=>exact List.forall_mem_singleton.mpr rfl
  | cpy a=>exact List.forall_mem_singleton.mpr rfl
  | prt a=>exact List.forall_mem_singleton.mpr h
  | lv b l=>intro o ho; cases ho
 ·obtain ⟨M,h⟩:=h
  cases e with
  | call a b g=>exact List.forall_mem_cons.mpr ⟨h.1,List.forall_mem_singleton.mpr rfl⟩
  | _=>intro o ho; cases ho
theorem ZqN {a:Act} (h:Zhv a):∀ e,wrE a=some e->e ∈ Zbe\/e=((4,[]),0):=by
 rcases a with s | e
 ·cases s with
  | mv a b=>intro e he; cases he; exact .inl h.2
  | bin a b=>intro e he; cases he; exact .inl (by decide)
  | num a=>intro e he; cases he; exact .inl h
  | cpy a=>intro e he; cases he; exact .inr rfl
  | prt a=>intro e he; exact nos he
  | lv b l=>intro e he; exact nos he
 ·obtain ⟨M,h⟩:=h
  cases e with
  | call a b g=>intro e he; cases he; exact .inl h.2.1
  | goto g=>intro e he; exact nos he
  | drop a g=>intro e he; exact nos he
  | ret=>intro e he; exact nos he
theorem ZpS {a:Act} (h:Zhv a):∀ e,drE a=some e->e ∈ Zbe:=by
 rcases a with s | e
 ·cases s <;> intro e he <;> cases he
 ·obtain ⟨M,h⟩:=h
  cases e with
  | drop a g=>intro e he; cases he; exact h.1
  | call a b g=>intro e he; exact nos he
  | goto g=>intro e he; exact nos he
  | ret=>intro e he; exact nos he
theorem Zdn {e:Ent} (h:e ∈ Zbe\/e=((4,[]),0)):Zad e ∈ uni/\ZcL e:=by
 rcases h with h | rfl
 ·have:∀ e ∈ Zbe,Zad e ∈ uni:=by decide
  exact ⟨this e h,.inl h⟩
 ·exact ⟨by decide,.inr ⟨4,rfl⟩⟩
noncomputable def ZcB (a:Act):List Ent:=(opE a).flatMap ZoM++((wrE a).toList++(drE a).toList)
noncomputable def ZbE (K:List Pl) (es:List Ent):List Pl:=es.foldl (fun K e=>Zaf K (Zad e)) K
theorem Zcj (K:List Pl) (xs ys:List Ent):ZbE K (xs++ys)=ZbE (ZbE K xs) ys:=List.foldl_append ..
theorem ZaC {bs:List Blk} (h:BodyOk bs):Small bs:=⟨by have:=h.few; exact o13 this,fun B hB=>by have:=(h.ok B hB).2.1; exact o13 this⟩
theorem ZeY {bs:List Blk} (h:BodyOk bs) {p:Pt} {a:Act} (ha:ZeP bs p a):Zhv a:=by
 refine Ze ha fun B hB h'=>?_
 have hb:=h.ok B (List.mem_of_getElem? hB)
 rcases h' with ⟨s,hs,rfl⟩ | ⟨_,rfl⟩
 ·exact hb.1 s (List.mem_of_getElem? hs)
 ·exact ⟨_,hb.2.2⟩
structure Ini (σ₀:St) (g:PS) (K:List Pl) (σ:St):Prop where
 pk:PK K
 fix:∃ kr,Fix g kr K σ/\∀ x,fp g kr x->σ₀ x=none
 lo:σ g.lo=some (.idict [])
 same:Zw (only g.d) σ₀ σ
theorem Zqg {g:PS} {kr:List Addr} {K:List Pl} {σ:St} {ls:List (Int × LV)} (F:Fix g kr K σ) (h:σ g.lo=some (.idict ls)):¬ fp g kr g.lo:=by
 rintro (e | e | e | e | e)
 ·exact ZQ h F.pl (by simp) e
 ·refine Ze F.pa fun _ _ h'=>?_
  exact ZQ h h' (by simp) e
 ·exact ZQ h F.ki (by simp) e
 ·exact ZQ h F.nu (by simp) e
 ·refine ZU (List.mem_iff_getElem?.mp e) fun i hi=>?_
  exact ZQ h (F.kid i _ hi) (by simp) rfl
theorem Ini.add {n:Nat} (hn:4<=n) {σ₀:St} {g:PS} {K:List Pl} {σ:St} (I:Ini σ₀ g K σ) (hd0:σ₀ g.d ≠ none) {p:Pl} (hu:p ∈ uni) {Q:LV->St->Prop} (k:∀ v σ',Ini σ₀ g (Zaf K p) σ'->Q v σ'):CC n 19 [.ref g.a,ZB p] Q σ:=by
 refine Ze I.fix fun kr F hf=>?_
 have hl:=ZcY hu
 refine Zno p.2.length (Ztn hn hl) rfl F I.pk hu fun kr' σ' F' S' h1 h2=>k _ σ' ⟨I.pk.note hu,⟨kr',F',fun x hx=>?_⟩,S'.some I.lo (Zqg F I.lo),?_⟩
 ·rcases hx with h | h | h | h | h
  ·exact hf x (.inl h)
  ·exact hf x (.inr (.inl h))
  ·exact hf x (.inr (.inr (.inl h)))
  ·exact hf x (.inr (.inr (.inr (.inl h))))
  ·refine Or.elim (h1 x h) (fun h=>?_) fun h=>?_
   ·exact hf x (.inr (.inr (.inr (.inr h))))
   ·apply Classical.byContradiction
    intro hx
    by_cases hxd:x=g.d
    ·rw [hxd,F.p.d] at h; exact ns2 h
    ·rw [I.same x hx hxd] at h; exact hx h
 ·intro x hx hxd
  have e1:=I.same x hx hxd
  rw [S' x (by rw [e1]; exact hx) (fun h=>hx (hf x h)),e1]
noncomputable def ZjR (g:PS) (ρ:Env):Prop:=Zo ρ 0=some (.ref g.a)/\Zo ρ 9=some (BDY g.bs g.sp)
theorem ZjR.set {g:PS} {ρ:Env} (h:ZjR g ρ) {x:Nat} {v:LV} (h0:0 ≠ x) (h9:9 ≠ x):ZjR g (Zm ρ x v):=⟨Zl h.1 h0,Zl h.2 h9⟩
theorem Znp {n:Nat} (hn:5<=n) {σ₀:St} {g:PS} {K:List Pl} {σ:St} (I:Ini σ₀ g K σ) (hd0:σ₀ g.d ≠ none) {ρ:Env} (hρ:Zo ρ 0=some (.ref g.a)) {e:Ent} (he:ZcL e) (hu:Zad e ∈ uni) {X:LE} (hX:evp TT0 ρ X=some (ZB e.1)) {r:List LS} {Q:Fl->Env->St->Prop}
  (k:∀ σ',Ini σ₀ g (Zaf K (Zad e)) σ'->ZJ TT0 (CC n) r ρ Q σ'):ZJ TT0 (CC n) (.expr (.meth (.v 0) 71 [(.meth (.v 0) 76 [X])])::r) ρ Q σ:=by
 refine Ze I.fix fun kr F hf=>?_
 have hm71:Zao TT0 σ (.ref g.a) 71=some 19:=Zem F.p.a F.p.d rfl rfl
 have hm76:Zao TT0 σ (.ref g.a) 76=some 21:=Zem F.p.a F.p.d rfl rfl
 refine ZaR <| ZaT (Zq hρ) hm71 <| Za <| ZaT (Zq hρ) hm76 <| Za <| E_p hX <| Zj <| Znt hn F.p he <| Zj <| I.add (o56 hn) hd0 hu fun v σ' I'=>k σ' I'
noncomputable def ZnK:List LS:=[.ifs (.cmp .Eq (.sub (.v 73) (.k (.int 0))) (.k (.w 75))) [.expr (.meth (.v 0) 71 [(.meth (.v 0) 76 [(.sub (.v 73) (.k (.int 1)))])])] []]
theorem Zh2 {n:Nat} (hn:5<=n) {σ₀:St} {g:PS} (hd0:σ₀ g.d ≠ none):∀ {os:List (Ent ⊕ (Nat × List LV))} {K:List Pl} {σ:St} {ρ:Env} {Q:Fl->Env->St->Prop},Ini σ₀ g K σ->ZjR g ρ->(∀ o ∈ os,Zqq o)->
  (∀ ρ' σ',ZjR g ρ'->Ini σ₀ g (ZbE K (os.flatMap ZoM)) σ'->(∀ x,x ≠ 73->Zo ρ' x=Zo ρ x)->Q .next ρ' σ')->Ze6 (.nm 73) (fun ρ Q σ=>ZJ TT0 (CC n) ZnK ρ Q σ) (os.map Zpk) ρ Q σ
 | [],K,σ,ρ,Q,I,E,h,k=>Za1 (k ρ σ E I (fun x _=>rfl))
 | o::os,K,σ,ρ,Q,I,E,h,k=>by
  rw [List.map_cons]
  refine Zah ZZ ?_
  have ho:=h o List.mem_cons_self
  have hrest:∀ o ∈ os,Zqq o:=fun o ho=>h o (List.mem_cons_of_mem _ ho)
  have E':ZjR g (Zm ρ 73 (Zpk o)):=E.set (by decide) (by decide)
  have hget:∀ x,x ≠ 73->Zo (Zm ρ 73 (Zpk o)) x=Zo ρ x:=fun x hx=>by rw [ZM,if_neg hx]
  rcases o with e | ⟨x,vs⟩
  ·have hc:=Zdn (.inl ho)
   refine Za7 (Zb2 (ZdD (Zq ZH) Zbr rfl) Zbr rfl) <| Znp hn I hd0 E'.1 hc.2 hc.1 (ZdD (Zq ZH) Zbr rfl) fun σ' I'=>Zh <| Zh ?_
   exact Zh2 hn hd0 I' E' hrest fun ρ' σ'' E'' I'' h''=>k ρ' σ'' E'' I'' fun x hx=>(h'' x hx).trans (hget x hx)
  ·refine Zv (Zb2 (c:=Nat.beq x 75) (ZdD (Zq ZH) Zbr rfl) Zbr rfl |>.trans (by rw [show Nat.beq x 75=false from ho])) <| Zh ?_
   exact Zh2 hn hd0 I E' hrest fun ρ' σ'' E'' I'' h''=>k ρ' σ'' E'' I'' fun x hx=>(h'' x hx).trans (hget x hx)
noncomputable def ZnM:List LS:=[.ifs (.cmp .IsNot (.v 36) (.k .none)) [.expr (.meth (.v 0) 71 [(.meth (.v 0) 76 [(.v 36)])])] []]
theorem Zh4 {n:Nat} (hn:5<=n) {σ₀:St} {g:PS} (hd0:σ₀ g.d ≠ none):∀ {os:List (Option Ent)} {K:List Pl} {σ:St} {ρ:Env} {Q:Fl->Env->St->Prop},Ini σ₀ g K σ->ZjR g ρ->(∀ o ∈ os,∀ e,o=some e->e ∈ Zbe\/e=((4,[]),0))->
  (∀ ρ' σ',ZjR g ρ'->Ini σ₀ g (ZbE K (os.flatMap Option.toList)) σ'->(∀ x,x ≠ 36->Zo ρ' x=Zo ρ x)->Q .next ρ' σ')->Ze6 (.nm 36) (fun ρ Q σ=>ZJ TT0 (CC n) ZnM ρ Q σ) (os.map fun o=>ZbF (o.map (·.1))) ρ Q σ
 | [],K,σ,ρ,Q,I,E,h,k=>Za1 (k ρ σ E I (fun x _=>rfl))
 | o::os,K,σ,ρ,Q,I,E,h,k=>by
  rw [List.map_cons]
  refine Zah ZZ ?_
  have ho:=h o List.mem_cons_self
  have hrest:∀ o ∈ os,∀ e,o=some e->e ∈ Zbe\/e=((4,[]),0):=fun o ho=>h o (List.mem_cons_of_mem _ ho)
  have E':ZjR g (Zm ρ 36 (ZbF (o.map (·.1)))):=E.set (by decide) (by decide)
  have hget:∀ x,x ≠ 36->Zo (Zm ρ 36 (ZbF (o.map (·.1)))) x=Zo ρ x:=fun x hx=>by rw [ZM,if_neg hx]
  cases o with
  | some e =>
   have hc:=Zdn (ho e rfl)
   refine Za7 (Zb2 (Zq ZH) Zbr rfl) <| Znp hn I hd0 E'.1 hc.2 hc.1 (Zq ZH) fun σ' I'=>Zh <| Zh ?_
   exact Zh4 hn hd0 I' E' hrest fun ρ' σ'' E'' I'' h''=>k ρ' σ'' E'' I'' fun x hx=>(h'' x hx).trans (hget x hx)
  | none =>
   refine Zv (Zb2 (Zq ZH) Zbr rfl) <| Zh ?_
   exact Zh4 hn hd0 I E' hrest fun ρ' σ'' E'' I'' h''=>k ρ' σ'' E'' I'' fun x hx=>(h'' x hx).trans (hget x hx)
noncomputable def Zgc:List Pl:=[(0,[]),(1,[]),(2,[]),(3,[]),(4,[])]
noncomputable def ZY (bs:List Blk):List Pl:=ZbE Zgc ((Zn 0 bs).flatMap fun x=>ZcB x.2)
noncomputable def ZnN:List LS:=[.for_ (.nm 73) (.call (.g 74) [(.v 9),(.v 45)]) ZnK,.for_ (.nm 36) (.tup [(.call (.g 77) [(.v 9),(.v 45)]),(.call (.g 78) [(.v 9),(.v 45)])]) ZnM]
theorem ZoV {n:Nat} (hn:5<=n) {σ₀:St} {g:PS} (hB:BodyOk g.bs) (hd0:σ₀ g.d ≠ none) {K:List Pl} {σ:St} {ρ:Env} {Q:Fl->Env->St->Prop} {x:Pt × Act} (hx:x ∈ Zn 0 g.bs) (I:Ini σ₀ g K σ) (E:ZjR g ρ) (h45:Zo ρ 45=some (ZaO x.1))
  (k:∀ ρ' σ',ZjR g ρ'->Ini σ₀ g (ZbE K (ZcB x.2)) σ'->Q .next ρ' σ'):ZJ TT0 (CC n) ZnN ρ Q σ:=by
 have hat:=Zbd hx
 have hok:=ZeY hB hat
 have hsm:=ZaC hB
 obtain ⟨p,a⟩:=x
 dsimp only at hat hok h45 k
 unfold ZnN
 refine ZO <| ZD rfl <| Za <| E_p (Zq E.2) <| Za <| E_p (Zq h45) <| Zj <| Zez (o57 hn) hsm hat ?_
 rw [ZnL]
 refine IN rfl <| Zh2 hn hd0 I E (ZoN hok) fun ρ₁ σ₁ E₁ I₁ h₁=>?_
 have h45':Zo ρ₁ 45=some (ZaO p):=(h₁ 45 (by decide)).trans h45
 show ZJ TT0 (CC n) (_::_) _ _ _
 refine ZO <| Zax <| Za <| ZD rfl <| Za <| E_p (Zq E₁.2) <| Za <| E_p (Zq h45') <| Zj <| Zfp (o31 hn) hsm hat <| Za <| ZD rfl <| Za <| E_p (Zq E₁.2) <| Za <| E_p (Zq h45') <| Zj <| Ze3 (o31 hn) hsm hat <| Zj ?_
 rw [ZqM,ZpR]
 refine IN (a:=[wrE a,drE a].map fun o=>ZbF (o.map (·.1))) rfl <| Zh4 hn hd0 I₁ E₁ (fun o ho e he=>?_) fun ρ₂ σ₂ E₂ I₂ h₂=>?_
 ·simp only [List.mem_cons,List.not_mem_nil,or_false] at ho
  rcases ho with rfl | rfl
  ·exact ZqN hok e he
  ·exact .inl (ZpS hok e he)
 ·refine Zh (k ρ₂ σ₂ E₂ ?_)
  have:[wrE a,drE a].flatMap Option.toList=(wrE a).toList++(drE a).toList:=by simp
  rw [this,<- Zcj] at I₂
  exact I₂
theorem PK.nil:PK []:=⟨List.nodup_nil,fun p h=>(by cases h),fun p h=>(by cases h)⟩
theorem Zm5 {n:Nat} (hn:6<=n) {bs:List Blk} {sp:Addr} (hB:BodyOk bs) {σ:St} {a d:Addr} (ha:σ a=some (.inst 1 d)) (hd:σ d=some (.ns [])) {Q:LV->St->Prop}
  (k:∀ g σ',g.a=a->g.d=d->g.bs=bs->g.sp=sp->Ini σ g (ZY bs) σ'->σ g.lo=none->Q .none σ'):CC n 18 [.ref a,BDY bs sp,.none] Q σ:=by
 refine Ze (lvl hn) fun m eQ0_1 hm=>?_; subst eQ0_1
 have had:a ≠ d:=ZQ ha hd (by simp)
 refine Zd (fd:=f18) rfl rfl ?_
 refine ZaB <| E_p rfl <| E_p rfl <| Zab ha hd rfl (show (0:Nat)<=1000 by decide) ?_
 refine ZaB <| E_p rfl <| E_p rfl <| Zab ((Zc _ _ had).trans ha) (Zb ..) rfl (show (1:Nat)<=1000 by decide) ?_
 rw [ZeO]
 generalize hσ1:upd σ d (some (.ns (Zm (Zm [] 9 (BDY bs sp)) 24 .none)))=σ1
 have old1:∀ x,x ≠ d->σ1 x=σ x:=fun x h=>by rw [<- hσ1]; exact Zc _ _ h
 have a1:σ1 a=some (.inst 1 d):=(old1 a had).trans ha
 have d1:σ1 d=some (.ns [(9,BDY bs sp),(24,.none)]):=by rw [<- hσ1]; exact Zb ..
 refine ZaB <| Zbq rfl <| Zb5 fun pl hpl=>E_p rfl <| Zab (Zas a1 (Zu a1 hpl)) (Zas d1 (Zu d1 hpl)) rfl (show (2:Nat)<=1000 by decide) ?_
 have plD:pl ≠ d:=(Zu d1 hpl).symm
 have hpl0:σ pl=none:=by rw [<- old1 pl plD]; exact hpl
 generalize hσ2:upd (upd σ1 pl (some (.list []))) d (some (.ns (Zm [(9,BDY bs sp),(24,.none)] 66 (.ref pl))))=σ2
 have old2:∀ x,x ≠ d->x ≠ pl->σ2 x=σ x:=fun x h h'=>by rw [<- hσ2,Zc _ _ h,Zc _ _ h',old1 x h]
 have a2:σ2 a=some (.inst 1 d):=(old2 a had (Zu ha hpl0)).trans ha
 have d2:σ2 d=some (.ns [(9,BDY bs sp),(24,.none),(66,.ref pl)]):=by rw [<- hσ2]; exact Zb ..
 have pl2:σ2 pl=some (.list []):=by rw [<- hσ2,Zc _ _ plD]; exact Zb ..
 refine ZaB <| Zbq rfl <| Zb5 fun pa hpa=>E_p rfl <| Zab (Zas a2 (Zu a2 hpa)) (Zas d2 (Zu d2 hpa)) rfl (show (3:Nat)<=1000 by decide) ?_
 have paD:pa ≠ d:=(Zu d2 hpa).symm
 have paP:pa ≠ pl:=(Zu pl2 hpa).symm
 have hpa0:σ pa=none:=by rw [<- old2 pa paD paP]; exact hpa
 generalize hσ3:upd (upd σ2 pa (some (.list []))) d (some (.ns (Zm [(9,BDY bs sp),(24,.none),(66,.ref pl)] 67 (.ref pa))))=σ3
 have old3:∀ x,x ≠ d->x ≠ pl->x ≠ pa->σ3 x=σ x:=fun x h h' h''=>by rw [<- hσ3,Zc _ _ h,Zc _ _ h'',old2 x h h']
 have a3:σ3 a=some (.inst 1 d):=(old3 a had (Zu ha hpl0) (Zu ha hpa0)).trans ha
 have d3:σ3 d=some (.ns [(9,BDY bs sp),(24,.none),(66,.ref pl),(67,.ref pa)]):=by rw [<- hσ3]; exact Zb ..
 have pl3:σ3 pl=some (.list []):=by rw [<- hσ3,Zc _ _ plD,Zc _ _ paP.symm]; exact pl2
 have pa3:σ3 pa=some (.list []):=by rw [<- hσ3,Zc _ _ paD]; exact Zb ..
 refine ZaB <| Zbq rfl <| Zb5 fun ki hki=>E_p rfl <| Zab (Zas a3 (Zu a3 hki)) (Zas d3 (Zu d3 hki)) rfl (show (4:Nat)<=1000 by decide) ?_
 have kiD:ki ≠ d:=(Zu d3 hki).symm
 have kiP:ki ≠ pl:=(Zu pl3 hki).symm
 have kiA:ki ≠ pa:=(Zu pa3 hki).symm
 have hki0:σ ki=none:=by rw [<- old3 ki kiD kiP kiA]; exact hki
 generalize hσ4:upd (upd σ3 ki (some (.list []))) d (some (.ns (Zm [(9,BDY bs sp),(24,.none),(66,.ref pl),(67,.ref pa)] 68 (.ref ki))))=σ4
 have old4:∀ x,x ≠ d->x ≠ pl->x ≠ pa->x ≠ ki->σ4 x=σ x:=fun x h h' h'' h3=>by rw [<- hσ4,Zc _ _ h,Zc _ _ h3,old3 x h h' h'']
 have a4:σ4 a=some (.inst 1 d):=(old4 a had (Zu ha hpl0) (Zu ha hpa0) (Zu ha hki0)).trans ha
 have d4:σ4 d=some (.ns [(9,BDY bs sp),(24,.none),(66,.ref pl),(67,.ref pa),(68,.ref ki)]):=by rw [<- hσ4]; exact Zb ..
 have pl4:σ4 pl=some (.list []):=by rw [<- hσ4,Zc _ _ plD,Zc _ _ kiP.symm]; exact pl3
 have pa4:σ4 pa=some (.list []):=by rw [<- hσ4,Zc _ _ paD,Zc _ _ kiA.symm]; exact pa3
 have ki4:σ4 ki=some (.list []):=by rw [<- hσ4,Zc _ _ kiD]; exact Zb ..
 refine ZaB <| Zd2 fun nu hnu=>E_p rfl <| Zab (Zas a4 (Zu a4 hnu)) (Zas d4 (Zu d4 hnu)) rfl (show (5:Nat)<=1000 by decide) ?_
 have nuD:nu ≠ d:=(Zu d4 hnu).symm
 have nuP:nu ≠ pl:=(Zu pl4 hnu).symm
 have nuA:nu ≠ pa:=(Zu pa4 hnu).symm
 have nuK:nu ≠ ki:=(Zu ki4 hnu).symm
 have hnu0:σ nu=none:=by rw [<- old4 nu nuD nuP nuA nuK]; exact hnu
 generalize hσ5:upd (upd σ4 nu (some (.dict []))) d (some (.ns (Zm [(9,BDY bs sp),(24,.none),(66,.ref pl),(67,.ref pa),(68,.ref ki)] 69 (.ref nu))))=σ5
 have old5:∀ x,x ≠ d->x ≠ pl->x ≠ pa->x ≠ ki->x ≠ nu->σ5 x=σ x:=fun x h h' h'' h3 h4=>by rw [<- hσ5,Zc _ _ h,Zc _ _ h4,old4 x h h' h'' h3]
 have a5:σ5 a=some (.inst 1 d):=(old5 a had (Zu ha hpl0) (Zu ha hpa0) (Zu ha hki0) (Zu ha hnu0)).trans ha
 have d5:σ5 d=some (.ns [(9,BDY bs sp),(24,.none),(66,.ref pl),(67,.ref pa),(68,.ref ki),(69,.ref nu)]):=by rw [<- hσ5]; exact Zb ..
 have pl5:σ5 pl=some (.list []):=by rw [<- hσ5,Zc _ _ plD,Zc _ _ nuP.symm]; exact pl4
 have pa5:σ5 pa=some (.list []):=by rw [<- hσ5,Zc _ _ paD,Zc _ _ nuA.symm]; exact pa4
 have ki5:σ5 ki=some (.list []):=by rw [<- hσ5,Zc _ _ kiD,Zc _ _ nuK.symm]; exact ki4
 have nu5:σ5 nu=some (.dict []):=by rw [<- hσ5,Zc _ _ nuD]; exact Zb ..
 refine ZaB <| Zd2 fun lo hlo=>E_p rfl <| Zab (Zas a5 (Zu a5 hlo)) (Zas d5 (Zu d5 hlo)) rfl (show (6:Nat)<=1000 by decide) ?_
 have loD:lo ≠ d:=(Zu d5 hlo).symm
 have loP:lo ≠ pl:=(Zu pl5 hlo).symm
 have loA:lo ≠ pa:=(Zu pa5 hlo).symm
 have loK:lo ≠ ki:=(Zu ki5 hlo).symm
 have loN:lo ≠ nu:=(Zu nu5 hlo).symm
 have hlo0:σ lo=none:=by rw [<- old5 lo loD loP loA loK loN]; exact hlo
 let g:PS:=⟨a,d,pl,pa,ki,nu,lo,bs,sp⟩
 generalize hσ6:upd (upd σ5 lo (some (.idict []))) d (some (.ns (Zm [(9,BDY bs sp),(24,.none),(66,.ref pl),(67,.ref pa),(68,.ref ki),(69,.ref nu)] 70 (.ref lo))))=σ6
 have I0:Ini σ g [] σ6:=by
  refine ⟨PK.nil,⟨[],⟨⟨?_,?_⟩,?_,⟨[],rfl,?_⟩,?_,rfl,(fun i r h=>by cases h),?_,?_⟩,?_⟩,?_,?_⟩
  ·show σ6 a=_
   rw [<- hσ6]; exact Zas (Zas a5 (Zu a5 hlo)) had
  ·show σ6 d=_
   rw [<- hσ6]; exact Zb ..
  ·show σ6 pl=_
   rw [<- hσ6]; exact Zas (Zas pl5 loP.symm) plD
  ·show σ6 pa=_
   rw [<- hσ6]; exact Zas (Zas pa5 loA.symm) paD
  ·show σ6 ki=_
   rw [<- hσ6]; exact Zas (Zas ki5 loK.symm) kiD
  ·show σ6 nu=_
   rw [<- hσ6]; exact Zas (Zas nu5 loN.symm) nuD
  ·show [pl,pa,ki].Nodup
   simp [paP.symm,kiP.symm,kiA.symm]
  ·rintro x (h | h | h | h | h)
   ·rw [h]; exact hpl0
   ·rw [h]; exact hpa0
   ·rw [h]; exact hki0
   ·rw [h]; exact hnu0
   ·cases h
  ·show σ6 lo=_
   rw [<- hσ6,Zc _ _ loD]; exact Zb ..
  ·intro x hx hxd
   have hxd':x ≠ d:=hxd
   rw [<- hσ6,Zc _ _ hxd',Zc _ _ (fun e=>hx (by rw [e,hlo0]))]
   exact old5 x hxd' (fun e=>hx (by rw [e,hpl0])) (fun e=>hx (by rw [e,hpa0])) (fun e=>hx (by rw [e,hki0])) (fun e=>hx (by rw [e,hnu0]))
 have hd0:σ g.d ≠ none:=by show σ d ≠ none; rw [hd]; simp
 have hk:∀ σ',Ini σ g (ZY bs) σ'->Q .none σ':=fun σ' I=>k g σ' rfl rfl rfl rfl I hlo0
 have hgB:BodyOk g.bs:=hB
 have hga:a=g.a:=rfl
 have hgb:BDY bs sp=BDY g.bs g.sp:=rfl
 rw [show bs=g.bs from rfl] at hk
 clear k
 rw [hga,hgb]
 clear_value g
 have hm71:∀ {K σ'},Ini σ g K σ'->Zao TT0 σ' (.ref g.a) 71=some 19:=fun {K σ'} I=>by
  refine Ze I.fix fun kr F _=>?_
  exact Zem F.p.a F.p.d rfl rfl
 refine ZO <| Zs <| Zs <| Zt rfl Zd8 <| IN (Zht (n:=5) rfl (by decide)) <| IN (Zag (by decide)) <| IN (ZS 5) ?_
 have step:∀ {K σ' ρ} {l:Nat} {vs:List LV} {Q':Fl->Env->St->Prop},Ini σ g K σ'->Zo ρ 0=some (.ref g.a)->(l,[]) ∈ uni->
   (∀ σ'',Ini σ g (Zaf K (l,[])) σ''->Ze6 (.nm 7) (fun ρ Q σ=>ZJ TT0 (CC m) [.expr (.meth (.v 0) 71 [(.tup [(.v 7),(.tup [])])])] ρ Q σ) vs (Zm ρ 7 (.int l)) Q' σ'')->
   Ze6 (.nm 7) (fun ρ Q σ=>ZJ TT0 (CC m) [.expr (.meth (.v 0) 71 [(.tup [(.v 7),(.tup [])])])] ρ Q σ) (.int l::vs) ρ Q' σ':=by
  intro K σ' ρ l vs Q' I h0 hu kk
  refine Zah ZZ <| ZaR <| ZaT (Zq (Zl h0 (by decide))) (hm71 I) <| Za <| Zax <| Za <| E_p (Zq ZH) <| Za <| E_p (v:=.tup []) rfl <| Zj <| Zj <| ?_
  exact I.add (p:=(l,[])) (o56 hm) hd0 hu fun v σ'' I'=>Zh (kk σ'' I')
 refine step (l:=0) I0 rfl (by decide) fun σ7 I7=>step (l:=1) I7 rfl (by decide) fun σ8 I8=>step (l:=2) I8 rfl (by decide) fun σ9 I9=>step (l:=3) I9 rfl (by decide) fun σ10 I10=>step (l:=4) I10 rfl (by decide) fun σ11 I11=>Za1 ?_
 have I11':Ini σ g Zgc σ11:=I11
 clear I7 I8 I9 I10 I11
 show ZJ TT0 (CC m) (_::_) _ _ _
 refine ZO <| ZD rfl <| Za <| E_p rfl <| Zj <| ZeC (o57 hm) (ZaC hgB) fun σ12 hs=>?_
 have I12:Ini σ g Zgc σ12:=by
  refine Ze I11'.fix fun kr F hf=>?_
  refine ⟨I11'.pk,⟨kr,⟨F.p.same hs (fun h=>h) (fun h=>h),hs.some F.pl fun h=>h,?_,hs.some F.ki fun h=>h,F.krl,fun i r h=>hs.some (F.kid i r h) fun h=>h,hs.some F.nu fun h=>h,F.nd⟩,hf⟩,hs.some I11'.lo fun h=>h,I11'.same.trans (hs.weaken fun _ h=>h.elim)⟩
  refine Ze F.pa fun v h1 h2=>?_
  exact ⟨v,h1,hs.some h2 fun h=>h⟩
 refine IN (a:=(Zn 0 g.bs).map fun x=>ZaO x.1) rfl ?_
 refine ZgG (fun x:Pt × Act=>ZaO x.1) (Zn 0 g.bs) (fun (done:List (Pt × Act)) ρ σ'=>ZjR g ρ/\Ini σ g (ZbE Zgc (done.flatMap fun (x:Pt × Act)=>ZcB x.2)) σ') (fun done (x:Pt × Act) rest ρ σ' Kk hall hI kn kr=>?_) (fun ρ σ' hI=>Zh (T:=TT0) (C:=CC m) (hk σ' hI.2)) _ [] _ σ12 rfl ⟨⟨rfl,rfl⟩,I12⟩
 refine ZL hI fun hE hI=>?_
 refine IN ZZ <| ZoV (x:=x) hm hgB hd0 (by rw [hall]; simp) hI (hE.set (by decide) (by decide)) ZH fun ρ' σ' E' I'=>kn ρ' σ' ⟨E',?_⟩
 rw [List.flatMap_append,Zcj]
 have:[x].flatMap (fun (x:Pt × Act)=>ZcB x.2)=ZcB x.2:=by simp
 rw [this]
 exact I'
section
variable {T:Tab} {C:Cal} {ρ:Env} {σ:St}
theorem ZcK {o:LE} {x:Nat} {as:List LE} {Q:LV->St->Prop} (h:wpE T C o ρ (fun ov σ₁=>ZC (Zao T σ₁ ov x) fun f=>Zcs T C as ρ (fun vs σ₂=>C f (ov::vs) Q σ₂) σ₁) σ):wpE T C (.meth o x as) ρ Q σ:=by rw [Zra]; exact h
theorem ZcJ {f:LE} {as:List LE} {fv:LV} {Q:LV->St->Prop} (h1:evp T ρ f=some fv) (h:Zcs T C as ρ (fun vs σ₁=>Zeb T C fv vs Q σ₁) σ):wpE T C (.call f as) ρ Q σ:=by
 rw [ZqR]
 exact ZV f h1 h
end
theorem Zw.upn {σ₀ σ:St} {b:Addr} {o:Option LO} (hs:Zw Zr σ₀ σ) (hb:σ₀ b=none):Zw Zr σ₀ (Mine.upd σ b o):=fun x hx hn=>by
 rw [Zc _ _ (fun e=>hx (by rw [e,hb]))]
 exact hs x hx hn
noncomputable def own (g:PS) (kr:List Addr):Addr->Prop:=fun x=>x=g.a\/x=g.d\/fp g kr x
theorem Fix.same {g:PS} {kr:List Addr} {K:List Pl} {σ σ':St} {X:Addr->Prop} (F:Fix g kr K σ) (s:Zw X σ σ') (h:∀ x,own g kr x->¬ X x):Fix g kr K σ':=by
 refine Ze F.pa fun v h1 h2=>?_
 exact ⟨F.p.same s (h _ (.inl rfl)) (h _ (.inr (.inl rfl))),s.some F.pl (h _ (.inr (.inr (.inl rfl)))),⟨v,h1,s.some h2 (h _ (.inr (.inr (.inr (.inl rfl)))))⟩,s.some F.ki (h _ (.inr (.inr (.inr (.inr (.inl rfl)))))),F.krl,fun i r hr=>s.some (F.kid i r hr) (h _ (.inr (.inr (.inr (.inr (.inr (.inr (List.mem_of_getElem? hr)))))))),s.some F.nu (h _ (.inr (.inr (.inr (.inr (.inr (.inl rfl))))))),F.nd⟩
theorem ZN.same {g:PS} {K:List Pl} {σ σ':St} {X:Addr->Prop} (L:ZN g K σ) (s:Zw X σ σ') (h:¬ X g.lo):ZN g K σ':=by
 refine Ze L fun ls h1 h2=>?_
 exact ⟨ls,s.some h1 h,h2⟩
theorem Fix.lo {g:PS} {kr:List Addr} {K:List Pl} {σ:St} (F:Fix g kr K σ) (L:ZN g K σ):∀ x,own g kr x->¬ (only g.lo) x:=by
 refine Ze L fun ls h1 h2=>?_
 rintro x (h | h | h) e
 ·exact ZQ F.p.a h1 (by simp) (h ▸ e)
 ·exact ZQ F.p.d h1 (by simp) (h ▸ e)
 ·exact Zqg F h1 (by have e':x=g.lo:=e; rw [<- e']; exact h)
theorem Zla {n:Nat} (hn:6<=n) {bs:List Blk} {sp:Addr} (hB:BodyOk bs) {σ:St} {Q:LV->St->Prop}
  (k:∀ g kr σ',g.bs=bs->g.sp=sp->Fix g kr (ZY bs) σ'->PK (ZY bs)->ZN g (ZY bs) σ'->Zw Zr σ σ'->(∀ x,own g kr x\/x=g.lo->σ x=none)->Q (.ref g.a) σ'):Zeb TT0 (CC n) (.cls 1) [BDY bs sp,.none] Q σ:=by
 unfold Zeb
 refine IN rfl fun a d ha hd had=>?_
 have e1:(upd (upd σ d (some (.ns []))) a (some (.inst 1 d))) a=some (.inst 1 d):=Zb ..
 have e2:(upd (upd σ d (some (.ns []))) a (some (.inst 1 d))) d=some (.ns []):=by rw [Zc _ _ had.symm,Zb]
 have e3:∀ x,σ x ≠ none->(upd (upd σ d (some (.ns []))) a (some (.inst 1 d))) x=σ x:=fun x hx=>by
  rw [Zc _ _ (fun e=>hx (by rw [e,ha])),Zc _ _ (fun e=>hx (by rw [e,hd]))]
 refine Zm5 hn hB e1 e2 fun g σ' h1 h2 h3 h4 I hlo=>⟨rfl,?_⟩
 refine Ze I.fix fun kr F hf=>?_
 rw [<- h1]
 have back:∀ x,(upd (upd σ d (some (.ns []))) a (some (.inst 1 d))) x=none->σ x=none:=fun x hx=>by
  apply Classical.byContradiction
  intro h
  rw [e3 x h] at hx
  exact h hx
 refine k g kr σ' h3 h4 F I.pk ⟨[],I.lo,Lots.nil _⟩ ?_ ?_
 ·intro x hx _
  have hxd:x ≠ g.d:=fun e=>hx (by rw [e,h2,hd])
  rw [I.same x (by rw [e3 x hx]; exact hx) hxd,e3 x hx]
 ·rintro x ((h | h | h) | h)
  ·rw [h,h1,ha]
  ·rw [h,h2,hd]
  ·exact back x (hf x h)
  ·rw [h]; exact back _ hlo
noncomputable def Zai (rs:List Row):List Row:=rs.filter fun r=>decide (r.1.2=r.1.1.2.length)
noncomputable def Zb9 (K:List Pl) (rs:List Row):List LV:=(Zai rs).map fun r=>.tup [.int ((idx K r.1.1:Nat):Int),.int r.2]
theorem Zc0 (K:List Pl) (xs ys:List Row):Zb9 K (xs++ys)=Zb9 K xs++Zb9 K ys:=by
 unfold Zb9 Zai
 rw [List.filter_append,List.map_append]
noncomputable def Zey (os:List (Ent ⊕ (Nat × List LV))):List Row:=(os.flatMap ZoM).map fun e=>(e,1)
noncomputable def tuE:Act->Option Ent
 | .inl (.lv _ l)=>some ((l,[]),0)
 | _=>none
theorem Zo1 (a:Act):Zf a=Zey (opE a)++((drE a).toList.map (fun e=>(e,3))++((tuE a).toList.map (fun e=>(e,2))++(wrE a).toList.map (fun e=>(e,0)))):=by
 rcases a with s | e
 ·cases s <;> rfl
 ·cases e <;> rfl
structure Mv (g:PS) (mv md:Addr) (fs:Env) (σ:St):Prop where
 a:σ mv=some (.inst 2 md)
 d:σ md=some (.ns fs)
 b:Zo fs 9=some (BDY g.bs g.sp)
 p:Zo fs 88=some (.ref g.a)
 n:Zo fs 93=none/\Zo fs 96=none/\Zo fs 111=none/\Zo fs 90=none/\Zo fs 53=none
theorem Mv.same {g:PS} {mv md:Addr} {fs:Env} {σ σ':St} {X:Addr->Prop} (h:Mv g mv md fs σ) (s:Zw X σ σ') (ha:¬ X mv) (hd:¬ X md):Mv g mv md fs σ':=⟨s.some h.a ha,s.some h.d hd,h.b,h.p,h.n⟩
noncomputable def Znn (K:List Pl) (e:Ent):Prop:=ZcL e/\Zad e ∈ K
section
variable {m:Nat} {g:PS} {kr:List Addr} {K:List Pl} {σ₀ σ:St} {mv md b:Addr} {fs:Env} {ρ:Env}
theorem Zkm (hm:6<=m) (F:Fix g kr K σ₀) (hK:K.length<=1000) (M:Mv g mv md fs σ₀) (hb0:σ₀ b=none) (hs:Zw Zr σ₀ σ) (h0:Zo ρ 0=some (.ref mv)) (h10:Zo ρ 10=some (.ref b)) {acc:List LV} (hb:σ b=some (.list acc)) (hacc:acc.length<=1000) {e:Ent} (he:Znn K e) (hx:e.2=e.1.2.length) {X:LE} (hX:evp TT0 ρ X=some (ZB e.1)) {c:Nat} {s:Nat} (hc:TT0.glob c=some (.int s)) {r:List LS} {Q:Fl->Env->St->Prop}
  (k:∀ σ',Zw Zr σ₀ σ'->σ' b=some (.list (acc++[.tup [.int ((idx K e.1:Nat):Int),.int s]]))->ZJ TT0 (CC m) r ρ Q σ') :
  ZJ TT0 (CC m) (.expr (.lm (.v 10) .append [(.tup [(.meth (.attr (.v 0) 88) 97 [X]),(.g c)])])::r) ρ Q σ:=by
 have F':=F.same hs fun _ _ h=>h
 have M':=M.same hs (fun h=>h) fun h=>h
 have hm97:Zao TT0 σ (.ref g.a) 97=some 23:=Zem F'.p.a F'.p.d rfl rfl
 have hce:Zad e=e.1:=by unfold Zad; rw [hx,List.take_length]
 refine ZaR <| ZbH <| E_p (Zq h10) <| IN (o_r hb) <| Za <| Zax <| Za <| ZcK <| Zt (Zq h0) (Zbw M'.a M'.d rfl M'.p) <| IN hm97 <| Za <| E_p hX <| Zj <| Zg9 hm F' he.1 he.2 <| Za <| E_p (Zsy.trans hc) <| Zj <| Zj <| Zaw hb (o8 hacc) ?_
 rw [hce]
 exact k _ (hs.upn hb0) (Zb ..)
theorem Zkn (hm:6<=m) (F:Fix g kr K σ₀) (hK:K.length<=1000) (M:Mv g mv md fs σ₀) (hb0:σ₀ b=none) (hs:Zw Zr σ₀ σ) (h0:Zo ρ 0=some (.ref mv)) (h10:Zo ρ 10=some (.ref b)) {acc:List LV} (hb:σ b=some (.list acc)) (hacc:acc.length<=1000) {e:Ent} (he:Znn K e) {X C1:LE} (hX:evp TT0 ρ X=some (ZB e.1)) (hC:evp TT0 ρ C1=some (.bool true)) {c:Nat} {s:Nat} (hc:TT0.glob c=some (.int s)) {r:List LS} {Q:Fl->Env->St->Prop}
  (k:∀ σ',Zw Zr σ₀ σ'->σ' b=some (.list (acc++Zb9 K [(e,s)]))->ZJ TT0 (CC m) r ρ Q σ') :
  ZJ TT0 (CC m) (.ifs (.bool true C1 (.meth (.attr (.v 0) 88) 107 [X])) [.expr (.lm (.v 10) .append [(.tup [(.meth (.attr (.v 0) 88) 97 [X]),(.g c)])])] []::r) ρ Q σ:=by
 have F':=F.same hs fun _ _ h=>h
 have M':=M.same hs (fun h=>h) fun h=>h
 have hm107:Zao TT0 σ (.ref g.a) 107=some 24:=Zem F'.p.a F'.p.d rfl rfl
 refine Zb6 <| ZaP <| E_p hC <| ZbL rfl <| ZcK <| Zt (Zq h0) (Zbw M'.a M'.d rfl M'.p) <| IN hm107 <| Za <| E_p hX <| Zj <| Zmm hm F' he.1 he.2 ?_
 by_cases hx:e.2=e.1.2.length
 ·have hd:Zb9 K [(e,s)]=[.tup [.int ((idx K e.1:Nat):Int),.int s]]:=by
   unfold Zb9 Zai
   rw [List.filter_cons,if_pos (decide_eq_true hx)]
   rfl
  rw [hd] at k
  refine ZcR (decide_eq_true hx) <| Zkm hm F hK M hb0 hs h0 h10 hb hacc he hx hX hc fun σ' s' h'=>Zh (k σ' s' h')
 ·have hd:Zb9 K [(e,s)]=[]:=by
   unfold Zb9 Zai
   rw [List.filter_cons,if_neg (by simp [hx])]
   rfl
  rw [hd,List.append_nil] at k
  exact Zbg (decide_eq_false hx) <| Zh (k σ hs hb)
theorem Zfv {X C1:LE} (hC:evp TT0 ρ C1=some (.bool false)) {a r:List LS} {Q:Fl->Env->St->Prop} (k:ZJ TT0 (CC m) r ρ Q σ):ZJ TT0 (CC m) (.ifs (.bool true C1 X) a []::r) ρ Q σ :=
 Zb6 <| ZaP <| E_p hC <| ZdP rfl <| Zbg rfl <| Zh k
noncomputable def ZpL:List LS:=[.ifs (.bool true (.cmp .Eq (.sub (.v 73) (.k (.int 0))) (.k (.w 75))) (.meth (.attr (.v 0) 88) 107 [(.sub (.v 73) (.k (.int 1)))])) [.expr (.lm (.v 10) .append [(.tup [(.meth (.attr (.v 0) 88) 97 [(.sub (.v 73) (.k (.int 1)))]),(.g 106)])])] []]
noncomputable def ZlW (mv b:Addr) (pt:LV) (ρ:Env):Prop:=Zo ρ 0=some (.ref mv)/\Zo ρ 45=some pt/\Zo ρ 10=some (.ref b)
theorem ZlW.set {pt:LV} (h:ZlW mv b pt ρ) {x:Nat} {v:LV} (h0:0 ≠ x) (h1:45 ≠ x) (h2:10 ≠ x):ZlW mv b pt (Zm ρ x v):=⟨Zl h.1 h0,Zl h.2.1 h1,Zl h.2.2 h2⟩
end
theorem Zks (K:List Pl) (rs:List Row):(Zb9 K rs).length<=rs.length:=by
 unfold Zb9 Zai
 rw [List.length_map]
 exact List.length_filter_le ..
theorem ZhE {m:Nat} {g:PS} {kr:List Addr} {K:List Pl} {σ₀:St} {mv md b:Addr} {fs:Env} (hm:6<=m) (F:Fix g kr K σ₀) (hK:K.length<=1000) (M:Mv g mv md fs σ₀) (hb0:σ₀ b=none) {pt:LV}:∀ {os:List (Ent ⊕ (Nat × List LV))} {acc:List LV} {σ:St} {ρ:Env} {Q:Fl->Env->St->Prop},Zw Zr σ₀ σ->ZlW mv b pt ρ->σ b=some (.list acc)->acc.length + os.length<=1000->(∀ o ∈ os,Zqq o)->(∀ e,.inl e ∈ os->Znn K e)->
  (∀ ρ' σ',Zw Zr σ₀ σ'->ZlW mv b pt ρ'->σ' b=some (.list (acc++Zb9 K (Zey os)))->Q .next ρ' σ')->Ze6 (.nm 73) (fun ρ Q σ=>ZJ TT0 (CC m) ZpL ρ Q σ) (os.map Zpk) ρ Q σ
 | [],acc,σ,ρ,Q,hs,E,hb,hl,h,hk,k=>Za1 (k ρ σ hs E (by rw [show Zb9 K (Zey [])=[] from rfl,List.append_nil]; exact hb))
 | o::os,acc,σ,ρ,Q,hs,E,hb,hl,h,hk,k=>by
  rw [List.map_cons]
  rw [List.length_cons] at hl
  refine Zah ZZ ?_
  have ho:=h o List.mem_cons_self
  have hrest:∀ o ∈ os,Zqq o:=fun o ho=>h o (List.mem_cons_of_mem _ ho)
  have hkrest:∀ e,.inl e ∈ os->Znn K e:=fun o ho=>hk o (List.mem_cons_of_mem _ ho)
  have E':ZlW mv b pt (Zm ρ 73 (Zpk o)):=E.set (by decide) (by decide) (by decide)
  rcases o with e | ⟨x,vs⟩
  ·have heK:=hk e List.mem_cons_self
   refine Zkn hm F hK M hb0 hs E'.1 E'.2.2 hb (Zto hl) heK (ZdD (Zq ZH) Zbr rfl) (Zb2 (ZdD (Zq ZH) Zbr rfl) Zbr rfl) (s:=1) rfl fun σ' s' h'=>Zh ?_
   have hle:=Zks K [(e,1)]
   rw [List.length_singleton] at hle
   refine ZhE hm F hK M hb0 s' E' h' (by rw [List.length_append]; exact Ztp hl hle) hrest hkrest fun ρ' σ'' s'' E'' h''=>k ρ' σ'' s'' E'' ?_
   rw [h'',List.append_assoc,<- Zc0]
   rfl
  ·refine Zfv (Zb2 (c:=Nat.beq x 75) (ZdD (Zq ZH) Zbr rfl) Zbr rfl |>.trans (by rw [show Nat.beq x 75=false from ho])) <| Zh ?_
   exact ZhE hm F hK M hb0 hs E' hb (Ztq hl) hrest hkrest fun ρ' σ'' s'' E'' h''=>k ρ' σ'' s'' E'' h''
theorem ZrP (a:Act):Zr9 a=(tuE a).map (·.1.1):=by
 rcases a with s | e
 ·cases s <;> rfl
 ·cases e <;> rfl
theorem ZqJ (a:Act):∀ e,tuE a=some e->∃ l,e=((l,[]),0):=by
 rcases a with s | e
 ·cases s with
  | lv b l=>intro e he; cases he; exact ⟨l,rfl⟩
  | _=>intro e he; exact nos he
 ·cases e <;> intro e he <;> cases he
theorem Zqr (a:Act):(opE a).length<=2:=by
 rcases a with s | e
 ·cases s <;> exact Nat.le_of_ble_eq_true rfl
 ·cases e <;> exact Nat.le_of_ble_eq_true rfl
theorem Zis {n:Nat} (hn:7<=n) {g:PS} {kr:List Addr} {K:List Pl} {σ:St} {mv md:Addr} {fs:Env} (F:Fix g kr K σ) (hK:K.length<=1000) (M:Mv g mv md fs σ) (hB:BodyOk g.bs) {p:Pt} {a:Act} (hat:ZeP g.bs p a) (hE:∀ r ∈ Zf a,Znn K r.1) {Q:LV->St->Prop}
  (k:∀ σ',Zw Zr σ σ'->Q (.lst (Zb9 K (Zf a))) σ'):CC n 30 [.ref mv,ZaO p] Q σ:=by
 refine Ze (lvl hn) fun m eQ0_1 hm=>?_; subst eQ0_1
 have hok:=ZeY hB hat
 have hsm:=ZaC hB
 have hre:=Zo1 a
 have hol:=Zqr a
 refine Zd (fd:=f30) rfl rfl ?_
 refine Zk <| Zbq rfl <| Zb5 fun b hb0=>IN rfl ?_
 have hs0:Zw Zr σ (upd σ b (some (.list []))):=Zw.new hb0
 have hb:(upd σ b (some (.list []))) b=some (.list []):=Zb ..
 generalize upd σ b (some (.list []))=σ1 at hs0 hb
 have M1:=M.same hs0 (fun h=>h) fun h=>h
 refine ZO <| ZD rfl <| Za <| Zt rfl (Zbw M1.a M1.d rfl M1.b) <| Za <| E_p rfl <| Zj <| Zez (o58 hm) hsm hat ?_
 rw [ZnL]
 have hE0:ZlW mv b (ZaO p) [(0,.ref mv),(45,ZaO p),(10,.ref b)]:=⟨rfl,rfl,rfl⟩
 refine IN rfl <| ZhE hm F hK M hb0 hs0 hE0 hb (by simp; exact Ztr hol) (ZoN hok) (fun e he=>?_) fun ρ σ2 hs2 E2 hb2=>?_
 ·exact hE (e,1) (by
   rw [hre]
   refine List.mem_append_left _ ?_
   exact List.mem_map.mpr ⟨e,List.mem_flatMap.mpr ⟨_,he,by simp [ZoM]⟩,rfl⟩)
 ·rw [List.nil_append] at hb2
  show ZJ TT0 (CC m) (_::_) _ _ _
  have M2:=M.same hs2 (fun h=>h) fun h=>h
  have hL2:(Zb9 K (Zey (opE a))).length<=10:=by
   have h1:=Zks K (Zey (opE a))
   have h2:(Zey (opE a)).length<=(opE a).length:=by
    unfold Zey
    rw [List.length_map]
    generalize opE a=os
    induction os with
    | nil=>simp
    | cons o os ih =>
     rw [List.flatMap_cons,List.length_append,List.length_cons]
     have:(ZoM o).length<=1:=by rcases o with e | x <;> simp [ZoM]
     exact Zts ih this
   exact Ztt hol h1 h2
  refine Zk <| Zax <| Za <| ZD rfl <| Za <| Zt (Zq E2.1) (Zbw M2.a M2.d rfl M2.b) <| Za <| E_p (Zq E2.2.1) <| Zj <| Ze3 (o14 hm) hsm hat <| Za <| ZD rfl <| Za <| Zt (Zq E2.1) (Zbw M2.a M2.d rfl M2.b) <| Za <| E_p (Zq E2.2.1) <| Zj <| ZlM (o14 hm) hsm hat <| Zj ?_
  rw [ZpR,ZrP]
  refine IN (a:=Zm (Zm ρ 109 (ZbF ((drE a).map (·.1)))) 7 (Zdc ((tuE a).map (·.1.1)))) rfl ?_
  have E3:ZlW mv b (ZaO p) (Zm (Zm ρ 109 (ZbF ((drE a).map (·.1)))) 7 (Zdc ((tuE a).map (·.1.1)))):=(E2.set (by decide) (by decide) (by decide)).set (by decide) (by decide) (by decide)
  refine Zk <| ZD rfl <| Za <| Zt (Zq E3.1) (Zbw M2.a M2.d rfl M2.b) <| Za <| E_p (Zq E3.2.1) <| Zj <| Zfp (o14 hm) hsm hat ?_
  rw [ZqM]
  refine IN ZZ ?_
  have E4:ZlW mv b (ZaO p) (Zm (Zm (Zm ρ 109 (ZbF ((drE a).map (·.1)))) 7 (Zdc ((tuE a).map (·.1.1)))) 110 (ZbF ((wrE a).map (·.1)))):=E3.set (by decide) (by decide) (by decide)
  have h109:Zo (Zm (Zm (Zm ρ 109 (ZbF ((drE a).map (·.1)))) 7 (Zdc ((tuE a).map (·.1.1)))) 110 (ZbF ((wrE a).map (·.1)))) 109=some (ZbF ((drE a).map (·.1))):=Zl (Zl ZH (by decide)) (by decide)
  have h7:Zo (Zm (Zm (Zm ρ 109 (ZbF ((drE a).map (·.1)))) 7 (Zdc ((tuE a).map (·.1.1)))) 110 (ZbF ((wrE a).map (·.1)))) 7=some (Zdc ((tuE a).map (·.1.1))):=Zl ZH (by decide)
  have h110:Zo (Zm (Zm (Zm ρ 109 (ZbF ((drE a).map (·.1)))) 7 (Zdc ((tuE a).map (·.1.1)))) 110 (ZbF ((wrE a).map (·.1)))) 110=some (ZbF ((wrE a).map (·.1))):=ZH
  generalize Zm (Zm (Zm ρ 109 (ZbF ((drE a).map (·.1)))) 7 (Zdc ((tuE a).map (·.1.1)))) 110 (ZbF ((wrE a).map (·.1)))=ρ4 at E4 h109 h7 h110
  have hmem:∀ r,r ∈ (drE a).toList.map (fun e=>(e,3))++((tuE a).toList.map (fun e=>(e,2))++(wrE a).toList.map (fun e=>(e,0)))->Znn K r.1:=fun r hr=>hE r (by rw [hre]; exact List.mem_append_right _ hr)
  have third:∀ acc σ',acc.length<=30->Zw Zr σ σ'->σ' b=some (.list acc)->(acc++Zb9 K ((wrE a).toList.map (fun e=>(e,0)))=Zb9 K (Zf a))->ZJ TT0 (CC m) [.ifs (.bool true (.cmp .IsNot (.v 110) (.k .none)) (.meth (.attr (.v 0) 88) 107 [(.v 110)])) [.expr (.lm (.v 10) .append [(.tup [(.meth (.attr (.v 0) 88) 97 [(.v 110)]),(.g 98)])])] [],
  .ret (.frz (.v 10))] ρ4 (fun fl _ σ₁=>match fl with
    | .ret v=>Q v σ₁
    | .next=>Q .none σ₁) σ':=by
   intro acc σ' hacc hs' hb' heq
   have fin:∀ σ'',Zw Zr σ σ''->σ'' b=some (.list (Zb9 K (Zf a)))->ZJ TT0 (CC m) [.ret (.frz (.v 10))] ρ4 (fun fl _ σ₁=>match fl with
    | .ret v=>Q v σ₁
    | .next=>Q .none σ₁) σ'':=by
    intro σ'' hs'' hb''
    refine ZI <| Zd3 <| E_p (Zq E4.2.2) ?_
    unfold Zgb
    dsimp only
    rw [hb'']
    exact k _ (hs''.upn hb0)
   cases hw:wrE a with
   | none =>
    rw [hw] at h110 heq
    rw [show Zb9 K ((none:Option Ent).toList.map (fun e=>(e,0)))=[] from rfl,List.append_nil] at heq
    rw [heq] at hb'
    exact Zfv (Zb2 (Zq h110) Zbr rfl) (fin σ' hs' hb')
   | some e =>
    rw [hw] at h110 heq
    refine Zkn hm F hK M hb0 hs' E4.1 E4.2.2 hb' (Ztu hacc) (hmem (e,0) (by rw [hw]; simp)) (Zq h110) (Zb2 (Zq h110) Zbr rfl) (s:=0) rfl fun σ'' hs'' hb''=>fin σ'' hs'' ?_
    rw [hb'',<- heq]; rfl
  have second:∀ acc σ',acc.length<=20->Zw Zr σ σ'->σ' b=some (.list acc)->(acc++Zb9 K ((tuE a).toList.map (fun e=>(e,2))++(wrE a).toList.map (fun e=>(e,0)))=Zb9 K (Zf a))->ZJ TT0 (CC m) [.ifs (.cmp .IsNot (.v 7) (.k .none)) [.expr (.lm (.v 10) .append [(.tup [(.meth (.attr (.v 0) 88) 97 [(.tup [(.v 7),(.tup [])])]),(.g 99)])])] [],.ifs (.bool true (.cmp .IsNot (.v 110) (.k .none)) (.meth (.attr (.v 0) 88) 107 [(.v 110)])) [.expr (.lm (.v 10) .append [(.tup [(.meth (.attr (.v 0) 88) 97 [(.v 110)]),(.g 98)])])] [],
  .ret (.frz (.v 10))] ρ4 (fun fl _ σ₁=>match fl with
    | .ret v=>Q v σ₁
    | .next=>Q .none σ₁) σ':=by
   intro acc σ' hacc hs' hb' heq
   cases ht:tuE a with
   | none =>
    rw [ht] at h7 heq
    refine Zv (Zb2 (Zq h7) Zbr rfl) (third acc σ' (Ztv hacc) hs' hb' heq)
   | some e =>
    rw [ht] at h7 heq
    have heK:=hmem (e,2) (by rw [ht]; simp)
    refine ZU (ZqJ a e ht) fun l eQ0_1=>?_; subst eQ0_1
    refine Za7 (Zb2 (Zq h7) Zbr rfl) <| Zkm (X:=.tup [(.v 7),(.tup [])]) hm F hK M hb0 hs' E4.1 E4.2.2 hb' (Ztw hacc) heK rfl (by show Option.bind (ZlS TT0 ρ4 [.v 7,.tup []]) _=_; rw [show ZlS TT0 ρ4 [.v 7,.tup []]=some [.int l,.tup []] from by show Option.bind (evp TT0 ρ4 (.v 7)) _=_; rw [Zq h7]; rfl]; rfl) (s:=2) rfl fun σ'' hs'' hb''=>Zh ?_
    refine third _ σ'' ?_ hs'' hb'' ?_
    ·rw [List.length_append,List.length_singleton]; exact Ztx hacc
    ·rw [<- heq,Zc0,<- List.append_assoc]; rfl
  refine (?_:ZJ TT0 (CC m) (_::_) _ _ _)
  cases hd:drE a with
  | none =>
   rw [hd] at h109 hre
   refine Zfv (Zb2 (Zq h109) Zbr rfl) (second _ σ2 (Zty hL2) hs2 hb2 ?_)
   rw [hre,<- Zc0]; rfl
  | some e =>
   rw [hd] at h109 hre
   refine Zkn hm F hK M hb0 hs2 E4.1 E4.2.2 hb2 (o59 hL2) (hmem (e,3) (by rw [hd]; simp)) (Zq h109) (Zb2 (Zq h109) Zbr rfl) (s:=3) rfl fun σ'' hs'' hb''=>second _ σ'' ?_ hs'' hb'' ?_
   ·have:=Zks K [(e,3)]
    rw [List.length_append]
    rw [List.length_singleton] at this
    exact Ztz hL2 this
   ·rw [hre,List.append_assoc,<- Zc0,<- Zc0]
    rfl
noncomputable def Fs (xs:List Int):Prop:=∀ x ∈ xs,0<=x/\x < 45
theorem Zee:∀ {xs:List Int} {x:Int},x ∈ Zed xs ↔ x ∈ xs
 | [],x=>Iff.rfl
 | y::ys,x=>by
  have ih:=Zee (xs:=ys) (x:=x)
  rw [ZhF]
  split
  ·rename_i h
   rw [ih,List.mem_cons]
   constructor
   ·exact .inr
   ·rintro (rfl | h')
    ·exact Zee.mp (by simpa using h)
    ·exact h'
  ·rw [List.mem_cons,List.mem_cons,ih]
theorem ZiJ {α:Type} (f:α->Int):∀ xs:List α,ZbC (xs.map fun x=>.int (f x))=some (xs.map f)
 | []=>rfl
 | x::xs=>by
  show Option.map _ (ZbC (xs.map fun x=>.int (f x)))=_
  rw [ZiJ f xs]
  rfl
theorem ZqW {α:Type} {σ:St} (f:α->Int) {xs:List α} (hl:xs.length<=1000) (h:∀ x ∈ xs,0<=f x/\f x < 45):∃ ys,biL .frozenset_ σ [.lst (xs.map fun x=>.int (f x))]=some (.fset ys)/\Fs ys:=by
 refine ⟨Zed (xs.map f),?_,fun y hy=>?_⟩
 ·show (ZbC (xs.map fun x=>.int (f x))).bind _=_
  rw [ZiJ]
  show (if _ then _ else _)=_
  rw [if_pos]
  refine ⟨by rw [List.length_map]; exact hl,?_⟩
  rw [List.all_eq_true]
  intro y hy
  refine Ze (List.mem_map.mp hy) fun x hx eQ0_2=>?_; subst eQ0_2
  have:=h x hx
  simp
  exact ZtA this
 ·refine Ze (List.mem_map.mp (Zee.mp hy)) fun x hx eQ0_2=>?_; subst eQ0_2
  exact h x hx
theorem Fs.sub {xs ys:List Int} (h:Fs xs):Fs (xs.filter fun x=>!ys.contains x):=fun x hx=>h x (List.mem_filter.mp hx).1
theorem Fs.or {xs ys:List Int} (h:Fs xs) (h':Fs ys):Fs (xs++ys.filter fun y=>!xs.contains y):=fun x hx=>(List.mem_append.mp hx).elim (h x) fun hx=>h' x (List.mem_filter.mp hx).1
theorem Zrt {σ:St} {i:Int} {xs:List Int}:∃ c,ZbN .In σ (.int i) (.fset xs)=some c:=⟨_,rfl⟩
noncomputable def ZqY (S:LE):LE:=.bin .Add (.bin .Mult (.k (.int 3)) (.v 103)) S
theorem ZjW {C:Cal} {ρ:Env} {σ:St} {S:LE} {j:Nat} {s:Int} (hj:Zo ρ 103=some (.int (j:Int))) (hS:evp TT0 ρ S=some (.int s)) {Q:LV->St->Prop} (h:Q (.int (3 * (j:Int) + s)) σ):wpE TT0 C (ZqY S) ρ Q σ:=by
 exact ZaN <| ZaN <| E_p Zbr <| E_p (Zq hj) <| IN (ZpC.trans (if_pos (.inl (by decide)))) <| E_p hS <| IN Zpf h
theorem Zfu {C:Cal} {ρc:Env} {σ:St} {S:LE} {s:Int} (hS:∀ x,evp TT0 (Zm ρc 103 x) S=some (.int s)) {js:List Nat} {Q:List LV->St->Prop} (h:Q (js.map fun (j:Nat)=>LV.int (3 * (j:Int) + s)) σ) :
  ZaH (fun x K σ₂=>ZC (Z0 (.nm 103) x ρc) fun ρx=>wpC TT0 C none ρx (fun b σ₃=>match b with
   | true=>wpE TT0 C (ZqY S) ρx (fun u σ₄=>K [u] σ₄) σ₃
   | false=>K [] σ₃) σ₂) (nL js) [] Q σ:=by
 refine ZcC (fun (j:Nat)=>LV.int (j:Int)) js (fun done acc σ'=>acc=done.map (fun (j:Nat)=>LV.int (3 * (j:Int) + s))/\σ'=σ) (fun done x rest acc σ' K hall hI kn=>?_) (fun acc σ' hI=>?_) js [] [] σ rfl ⟨rfl,rfl⟩
 ·obtain ⟨rfl,rfl⟩:=hI
  refine IN ZZ ?_
  rw [WC0]
  exact ZjW ZH (hS _) (kn _ _ ⟨by rw [List.map_append]; rfl,rfl⟩)
 ·obtain ⟨rfl,rfl⟩:=hI
  exact h
theorem Zjq {C:Cal} {ρc:Env} {σ:St} {xs:List Int} (h52:∀ x,Zo (Zm ρc 103 x) 52=some (.fset xs)) {js:List Nat} {Q:List LV->St->Prop} (h:∀ ks:List Nat,(∀ k ∈ ks,k ∈ js)->ks.length<=js.length->Q (nL ks) σ) :
  ZaH (fun x K σ₂=>ZC (Z0 (.nm 103) x ρc) fun ρx=>wpC TT0 C (some (.cmp .In (ZqY (.g 98)) (.v 52))) ρx (fun b σ₃=>match b with
   | true=>wpE TT0 C (.v 103) ρx (fun u σ₄=>K [u] σ₄) σ₃
   | false=>K [] σ₃) σ₂) (nL js) [] Q σ:=by
 show ZaH _ (js.map fun (j:Nat)=>LV.int (j:Int)) [] Q σ
 refine ZcC (fun (j:Nat)=>LV.int (j:Int)) js (fun done acc σ'=>(∃ ks:List Nat,acc=nL ks/\(∀ k ∈ ks,k ∈ done)/\ks.length<=done.length)/\σ'=σ) (fun done x rest acc σ' K hall hI kn=>?_) (fun acc σ' hI=>?_) js [] [] σ rfl ⟨⟨[],rfl,(fun k h=>by cases h),Nat.le_refl _⟩,rfl⟩
 ·obtain ⟨⟨ks,rfl,hk,hl⟩,rfl⟩:=hI
  refine IN ZZ ?_
  rw [WC1]
  obtain ⟨c,hc⟩:=Zrt (σ:=σ') (i:=3 * (x:Int) + 0) (xs:=xs)
  refine ZF <| ZjW ZH rfl <| E_p (Zq (h52 _)) <| IN hc ?_
  cases c with
  | true =>
   refine E_p (Zq ZH) (kn _ _ ⟨⟨ks++[x],by rw [Zen]; rfl,fun k h=>?_,by rw [List.length_append,List.length_append]; simpa using hl⟩,rfl⟩)
   rcases List.mem_append.mp h with h | h
   ·exact List.mem_append_left _ (hk k h)
   ·exact List.mem_append_right _ h
  | false =>
   refine kn _ _ ⟨⟨ks,by rw [List.append_nil],fun k h=>List.mem_append_left _ (hk k h),by rw [List.length_append]; exact ZtB hl⟩,rfl⟩
 ·obtain ⟨⟨ks,rfl,hk,hl⟩,rfl⟩:=hI
  exact h ks hk hl
theorem Zmd {C:Cal} {σ:St} {js:List Nat} (hj:∀ j ∈ js,j < 14) {Q:List LV->St->Prop} (h:∀ zs:List Int,zs.length=3 * js.length->Fs zs->Q (zs.map .int) σ) :
  ZaH (fun x K σ₂=>ZC (Z0 (.nm 103) x []) fun ρx=>wpE TT0 C (.tup [(.g 98),(.g 106),(.g 99)]) ρx (fun jv σ₃=>ZC (ZaD jv) fun ys =>
    ys.length<=1000/\ZaH (fun y K₂ σ₄=>ZC (Z0 (.nm 51) y ρx) fun ρy=>wpE TT0 C (ZqY (.v 51)) ρy (fun u σ₅=>K₂ [u] σ₅) σ₄) ys [] K σ₃) σ₂) (nL js) [] Q σ:=by
 show ZaH _ (js.map fun (j:Nat)=>LV.int (j:Int)) [] Q σ
 refine ZcC (fun (j:Nat)=>LV.int (j:Int)) js (fun done acc σ'=>(∃ zs:List Int,acc=zs.map .int/\zs.length=3 * done.length/\Fs zs)/\σ'=σ) (fun done x rest acc σ' K hall hI kn=>?_) (fun acc σ' hI=>?_) js [] [] σ rfl ⟨⟨[],rfl,rfl,(fun k h=>by cases h)⟩,rfl⟩
 ·obtain ⟨⟨zs,rfl,hl,hz⟩,rfl⟩:=hI
  have hx:=hj x (by rw [hall]; simp)
  refine IN ZZ <| E_p (v:=.tup [.int 0,.int 1,.int 2]) rfl <| IN rfl ⟨by decide,?_⟩
  refine CLc ?_
  refine IN ZZ <| ZjW (Zl ZH (by decide)) (Zq ZH) ?_
  refine CLc ?_
  refine IN ZZ <| ZjW (Zl ZH (by decide)) (Zq ZH) ?_
  refine CLc ?_
  refine IN ZZ <| ZjW (Zl ZH (by decide)) (Zq ZH) ?_
  refine kn _ _ ⟨⟨zs++[3 * (x:Int) + 0,3 * (x:Int) + 1,3 * (x:Int) + 2],by rw [List.map_append]; rfl,by rw [List.length_append,List.length_append,hl]; simp; exact ZtC,fun z h=>?_⟩,rfl⟩
  rcases List.mem_append.mp h with h | h
  ·exact hz z h
  ·simp only [List.mem_cons,List.not_mem_nil,or_false] at h
   exact ZtD hx h
 ·obtain ⟨⟨zs,rfl,hl,hz⟩,rfl⟩:=hI
  exact h zs hl hz
structure Cx (g:PS) (kr:List Addr) (K:List Pl) (mv md:Addr) (fs:Env) (σ:St):Prop where
 F:Fix g kr K σ
 P:PK K
 L:ZN g K σ
 M:Mv g mv md fs σ
theorem Cx.go {g:PS} {kr:List Addr} {K:List Pl} {mv md:Addr} {fs:Env} {σ σ':St} (c:Cx g kr K mv md fs σ) (s:Zw (only g.lo) σ σ') (L:ZN g K σ'):Cx g kr K mv md fs σ':=by
 refine ⟨c.F.same s (c.F.lo c.L),c.P,L,c.M.same s ?_ ?_⟩
 ·refine Ze c.L fun ls h _=>?_
  exact ZQ c.M.a h (by simp)
 ·refine Ze c.L fun ls h _=>?_
  exact ZQ c.M.d h (by simp)
theorem Cx.same {g:PS} {kr:List Addr} {K:List Pl} {mv md:Addr} {fs:Env} {σ σ':St} (c:Cx g kr K mv md fs σ) (s:Zw Zr σ σ'):Cx g kr K mv md fs σ' :=
 ⟨c.F.same s fun _ _ h=>h,c.P,c.L.same s fun h=>h,c.M.same s (fun h=>h) fun h=>h⟩
theorem ZpD {K:List Pl} {i:Nat} {js:List Nat} (B:Zd0 K i js) (P:PK K):∀ j ∈ js,j < 14:=fun j hj=>by
 refine ZaM ((B.1 j).mp hj) fun p q _ h _=>?_
 exact Nat.lt_of_lt_of_le (ZR h) P.len
theorem ZlJ {n:Nat} (hn:2<=n) {g:PS} {kr:List Addr} {K:List Pl} {mv md:Addr} {fs:Env} {σ:St} (c:Cx g kr K mv md fs σ) {xs:List Int} (hx:Fs xs) {i:Nat} (hi:i < K.length) {s:Nat} (hs:s<=3) {Q:LV->St->Prop}
  (k:∀ ys σ',Fs ys->Zw (only g.lo) σ σ'->ZN g K σ'->Q (.fset ys) σ'):CC n 28 [.ref mv,.fset xs,.int (i:Int),.int (s:Int)] Q σ:=by
 obtain ⟨m,rfl,hm⟩:=lvl hn
 have hm101:Zao TT0 σ (.ref g.a) 101=some 25:=Zem c.F.p.a c.F.p.d rfl rfl
 refine Zd (fd:=f28) rfl rfl ?_
 refine Zk <| ZcK <| Zt rfl (Zbw c.M.a c.M.d rfl c.M.p) <| IN hm101 <| Za <| E_p rfl <| Zj <| Zin hm c.F c.P c.L hi fun js σ1 hB hs1 L1=>IN rfl ?_
 have hlt:=ZpD hB c.P
 have hjl:js.length<=14:=hB.2
 have hlen:∀ ks:List Nat,ks.length<=14->(nL ks).length<=100000:=fun ks h=>by rw [Zcf]; exact ZtE h
 have fin:∀ ys,Fs ys->Q (.fset ys) σ1:=fun ys h=>k ys σ1 h hs1 L1
 by_cases h3:(s:Int)=3
 ·refine Zb6 <| ZF <| E_p rfl <| E_p rfl <| IN ZlR <| ZcR (decide_eq_true h3) ?_
  refine Zk <| ZaY <| E_p rfl <| IN rfl <| IN rfl ⟨hlen js hjl,Zjq (fun _=>rfl) fun ks hk hkl=>ZcA <| IN rfl ?_⟩
  obtain ⟨y1,hy1,hf1⟩:=ZqW (σ:=σ1) (fun j:Nat=>3 * (j:Int) + 0) (xs:=ks) (o60 hjl hkl) (fun x hx=>by have:=hlt x (hk x hx); exact ZtF this)
  obtain ⟨y2,hy2,hf2⟩:=ZqW (σ:=σ1) (fun j:Nat=>3 * (j:Int) + 1) (xs:=ks) (o60 hjl hkl) (fun x hx=>by have:=hlt x (hk x hx); exact ZtG this)
  refine Zk <| Zs <| ZaY <| E_p rfl <| IN rfl <| IN rfl ⟨hlen ks (o61 hjl hkl),Zfu (S:=.g 98) (s:=0) (fun _=>rfl) <| ZcA <| IN hy1 <| IN rfl ?_⟩
  refine ZI <| ZaN <| ZaN <| E_p rfl <| E_p rfl <| IN ZrZ <| Zs <| ZaY <| E_p rfl <| IN rfl <| IN rfl ⟨hlen ks (o61 hjl hkl),Zfu (S:=.g 106) (s:=1) (fun _=>rfl) <| ZcA <| IN hy2 <| IN Zrd ?_⟩
  exact fin _ (hx.sub.or hf2)
 ·refine Zb6 <| ZF <| E_p rfl <| E_p rfl <| IN ZlR <| Zbg (decide_eq_false h3) <| Zh ?_
  show ZJ TT0 (CC m) (_::_) _ _ _
  refine Zk <| Zs ?_
  rw [ZrV]
  refine E_p rfl <| IN rfl <| IN rfl ⟨by rw [Zcf]; exact o9 hjl,Zmd hlt fun zs hl hz=>ZcA ?_⟩
  obtain ⟨y1,hy1,hf1⟩:=ZqW (σ:=σ1) (fun z:Int=>z) (xs:=zs) (ZtH hjl hl) hz
  refine IN hy1 <| IN rfl ?_
  obtain ⟨y2,hy2,hf2⟩:=ZqW (σ:=σ1) (fun j:Nat=>3 * (j:Int) + (s:Int)) (xs:=js) (o9 hjl) (fun x hx=>by have:=hlt x hx; exact ZtI hs this)
  refine ZI <| ZaN <| ZaN <| E_p rfl <| E_p rfl <| IN ZrZ <| Zs <| ZaY <| E_p rfl <| IN rfl <| IN rfl ⟨hlen js (ZtJ hjl),Zfu (S:=.v 100) (s:=(s:Int)) (fun _=>rfl) <| ZcA <| IN hy2 <| IN Zrd ?_⟩
  exact fin _ (hx.sub.or hf2)
noncomputable def ZdA (g:PS) (K:List Pl) (fs:Env) (dn:Addr) (σ:St):Prop:=Zo fs 89=some (.ref dn)/\∃ es,σ dn=some (.dict es)/\∀ x ∈ Zn 0 g.bs,Zdt (ZaO x.1) es=some (.lst (Zb9 K (Zf x.2)))
theorem ZdA.same {g:PS} {K:List Pl} {fs:Env} {dn:Addr} {σ σ':St} {X:Addr->Prop} (h:ZdA g K fs dn σ) (s:Zw X σ σ') (hx:¬ X dn):ZdA g K fs dn σ':=by
 refine ZL h fun h1 hR0=>?_; refine Ze hR0 fun es h2 h3=>?_
 exact ⟨h1,es,s.some h2 hx,h3⟩
theorem ZdA.lo {g:PS} {kr:List Addr} {K:List Pl} {mv md dn:Addr} {fs:Env} {σ:St} (h:ZdA g K fs dn σ) (c:Cx g kr K mv md fs σ):¬ (only g.lo) dn:=by
 refine ZL h fun h1 hR0=>?_; refine Ze hR0 fun es h2 h3=>?_
 refine Ze c.L fun ls h4 _=>?_
 exact ZQ h2 h4 (by simp)
theorem Zii (p:Pt):ZaL (ZaO p)=true:=rfl
theorem Zir {n:Nat} (hn:1<=n) {g:PS} {kr:List Addr} {K:List Pl} {mv md dn:Addr} {fs:Env} {σ:St} (c:Cx g kr K mv md fs σ) (D:ZdA g K fs dn σ) {x:Pt × Act} (hx:x ∈ Zn 0 g.bs) {Q:LV->St->Prop} (k:Q (.lst (Zb9 K (Zf x.2))) σ):CC n 29 [.ref mv,ZaO x.1] Q σ:=by
 refine Ze (lvl hn) fun m eQ0_1 hm=>?_; subst eQ0_1
 refine ZL D fun h1 hR0=>?_; refine Ze hR0 fun es h2 h3=>?_
 refine Zd (fd:=f29) rfl rfl ?_
 refine ZI <| ZG <| Zt rfl (Zbw c.M.a c.M.d rfl h1) <| E_p rfl <| IN ?_ k
 rw [Zhm h2 (Zii _)]
 exact h3 x hx
noncomputable def Zpu (K:List Pl) (rs:List Row):Prop:=∀ r ∈ rs,Znn K r.1/\r.2<=3
theorem ZlD {n:Nat} (hn:3<=n) {g:PS} {kr:List Addr} {K:List Pl} {mv md dn:Addr} {fs:Env} {σ:St} (c:Cx g kr K mv md fs σ) (D:ZdA g K fs dn σ) {x:Pt × Act} (hx:x ∈ Zn 0 g.bs) (hr:Zpu K (Zf x.2)) {xs:List Int} (hxs:Fs xs) {Q:LV->St->Prop}
  (k:∀ ys σ',Fs ys->Zw (only g.lo) σ σ'->ZN g K σ'->Q (.fset ys) σ'):CC n 31 [.ref mv,.fset xs,.int x.1.1,.int x.1.2] Q σ:=by
 refine Ze (lvl hn) fun m eQ0_1 hm=>?_; subst eQ0_1
 have hm111:Zao TT0 σ (.ref mv) 111=some 29:=Zem c.M.a c.M.d rfl c.M.n.2.2.1
 refine Zd (fd:=f31) rfl rfl ?_
 refine ZO <| ZaT rfl hm111 <| Za <| E_p rfl <| Zj <| Zir (x:=x) (o4 hm) c D hx <| IN (a:=Zb9 K (Zf x.2)) rfl ?_
 refine ZgG (fun r:Row=>LV.tup [.int ((idx K r.1.1:Nat):Int),.int r.2]) (Zai (Zf x.2)) (fun done ρ σ'=>Zo ρ 0=some (.ref mv)/\(∃ ys,Fs ys/\Zo ρ 52=some (.fset ys))/\Zw (only g.lo) σ σ'/\ZN g K σ') (fun done r rest ρ σ' Kk hall hI kn kr=>?_) (fun ρ σ' hI=>?_) _ [] _ σ rfl ⟨rfl,⟨xs,hxs,rfl⟩,Zw.refl _ _,c.L⟩
 ·refine ZlP hI fun h0 hN0_1 hs hL=>?_; obtain ⟨ys,hy,h52⟩:=hN0_1
  have hrm:r ∈ Zai (Zf x.2):=by rw [hall]; simp
  have hrm':=List.mem_filter.mp hrm
  have hex:r.1.2=r.1.1.2.length:=of_decide_eq_true hrm'.2
  refine ZL (hr r hrm'.1) fun hrE hr3=>?_
  have hce:Zad r.1=r.1.1:=by unfold Zad; rw [hex,List.take_length]
  have hlt:idx K r.1.1 < K.length:=ZiH (hce ▸ hrE.2)
  have c':=c.go hs hL
  have hm96:Zao TT0 σ' (.ref mv) 96=some 28:=Zem c'.M.a c'.M.d rfl c'.M.n.2.1
  refine IN (a:=Zm (Zm ρ 81 (.int ((idx K r.1.1:Nat):Int))) 100 (.int r.2)) rfl <| Zk <| ZaT (Zq (Zl (Zl h0 (by decide)) (by decide))) hm96 <| Za <| E_p (Zq (Zl (Zl h52 (by decide)) (by decide))) <| Za <| E_p (Zq (Zl ZH (by decide))) <| Za <| E_p (Zq ZH) <| Zj <| ZlJ (o62 hm) c' hy hlt hr3 fun zs σ'' hz hs' hL'=>IN ZZ <| Zh <| kn _ _ ?_
  exact ⟨Zl (Zl (Zl h0 (by decide)) (by decide)) (by decide),⟨zs,hz,ZH⟩,hs.trans hs',hL'⟩
 ·refine ZlP hI fun h0 hN0_1 hs hL=>?_; obtain ⟨ys,hy,h52⟩:=hN0_1
  show ZJ TT0 (CC m) (_::_) _ _ _
  exact ZI <| E_p (Zq h52) <| k ys σ' hy hs hL
section
variable {T:Tab} {C:Cal} {ρ:Env} {σ:St}
theorem Zil {f:LE} {as:List LE} {g:Nat} {u:LV} {Q:LV->St->Prop} (h1:evp T ρ f=some (.bm g u)) (h:Zcs T C as ρ (fun vs σ₁=>C g (u::vs) Q σ₁) σ):wpE T C (.call f as) ρ Q σ:=by
 rw [ZqR]
 exact ZV f h1 h
end
theorem Zf5:∀ (bs:List Blk) (p b:Nat) {B:Blk} {i:Nat},bs[b]?=some B->i < B.1.length + 1->∃ a,((p + b,i),a) ∈ Zn p bs
 | [],p,b,B,i,h,hi=>nos h
 | C::r,p,0,B,i,h,hi=>by
  have:C=B:=by simpa using h
  subst this
  have hl:i < (Zbt p C).length:=by simp [Zbt,ZfW,ZbK]; exact hi
  refine ⟨((Zbt p C)[i]).2,?_⟩
  refine List.mem_append_left _ ?_
  have e:(Zbt p C)[i]=((p + 0,i),((Zbt p C)[i]).2):=by
   refine Prod.ext ?_ rfl
   simp [Zbt,ZfW]
  rw [<- e]
  exact List.getElem_mem hl
 | C::r,p,b + 1,B,i,h,hi=>by
  obtain ⟨a,ha⟩:=Zf5 r (p + 1) b (B:=B) (i:=i) (by simpa using h) hi
  refine ⟨a,?_⟩
  refine List.mem_append_right _ ?_
  rw [show p + (b + 1)=p + 1 + b by exact o49]
  exact ha
theorem ZkW {n:Nat} (hn:1<=n) {xs ys:List Int} {σ:St} {Q:LV->St->Prop} (k:Q (.fset (xs++ys.filter fun y=>!xs.contains y)) σ):CC n 11 [.fset xs,.fset ys] Q σ:=by
 refine Ze (lvl hn) fun m eQ0_1 hm=>?_; subst eQ0_1
 refine Zd (fd:=f11) rfl rfl ?_
 exact ZI <| ZaN <| E_p rfl <| E_p rfl <| IN Zrd k
noncomputable def ZjP:End->List Nat
 | .goto g=>[g]
 | .drop _ g=>[g]
 | .call _ _ g=>[g]
 | .ret=>[]
theorem ZjC {σ:St} {r:Addr} {i:Int} (h:σ r=some (.list [])):ZbN .NotIn σ (.int i) (.ref r)=some true:=by
 show (inL σ (.int i) (.ref r)).map (!·)=_
 rw [ZhU h rfl]
 simp
theorem Zo4 {n:Nat} (hn:1<=n) {e:End} {σ:St} {Q:LV->St->Prop} (k:∀ σ',Zw Zr σ σ'->Q (.lst (nL (ZjP e))) σ'):CC n 5 [Zgz e] Q σ:=by
 refine Ze (lvl hn) fun m eQ0_1 hm=>?_; subst eQ0_1
 refine Zd (fd:=f5) rfl rfl ?_
 have one:∀ (t w:LV) (i:Int),(∀ σ',Zw Zr σ σ'->Q (.lst [.int i]) σ')->ZJ TT0 (CC m) [.asg (.nm 10) (.lstR []),.for_ (.nm 8) (.v 16) [.ifs (.bool true (.cmp .IsNot (.v 8) (.k .none)) (.cmp .NotIn (.v 8) (.v 10))) [.expr (.lm (.v 10) .append [(.v 8)])] []],
  .ret (.frz (.v 10))] [(13,t),(14,w),(16,.lst [.int i])] (fun fl _ σ₁=>match fl with
    | .ret v=>Q v σ₁
    | .next=>Q .none σ₁) σ:=by
  intro t w i kk
  refine Zk <| Zbq rfl <| Zb5 fun b hb=>IN rfl ?_
  have hb1:(upd σ b (some (.list []))) b=some (.list []):=Zb ..
  refine Zgi (v:=.lst [.int i]) rfl rfl <| Zah rfl <| Zb6 <| ZaP <| ZF <| E_p rfl <| E_p rfl <| IN Zma <| ZbL rfl <| ZF <| E_p rfl <| E_p rfl <| IN (ZjC hb1) <| ZcR rfl <| ZaR <| ZbH <| E_p rfl <| IN (o_r hb1) <| Za <| E_p rfl <| Zj <| Zaw hb1 (by simp) <| Zh <| Zh <| Za1 ?_
  refine ZI <| Zd3 <| E_p rfl ?_
  unfold Zgb
  dsimp only
  rw [Zb]
  exact kk _ (((Zw.new hb).upn hb).upn hb)
 cases e with
 | goto g=>exact Z7 rfl rfl <| Za7 rfl <| Z7 rfl rfl <| Zh <| one _ _ _ k
 | drop a g=>exact Z7 rfl rfl <| Zd4 rfl <| Zd4 rfl <| Zd4 rfl <| Za7 rfl <| Z7 rfl rfl <| Zh <| Zh <| Zh <| Zh <| one _ _ _ k
 | call a b g=>exact Z7 rfl rfl <| Zd4 rfl <| Zd4 rfl <| Za7 rfl <| Z7 rfl rfl <| Zh <| Zh <| Zh <| one _ _ _ k
 | ret =>
  refine Z7 rfl rfl <| Zd4 rfl <| Zd4 rfl <| Zd4 rfl <| Zd4 rfl <| Zd4 rfl <| Z7 rfl rfl <| Zh <| Zh <| Zh <| Zh <| Zh <| Zk <| Zbq rfl <| Zb5 fun b hb=>IN rfl ?_
  refine Zgi (v:=.lst []) rfl rfl <| Za1 <| ZI <| Zd3 <| E_p rfl ?_
  unfold Zgb
  dsimp only
  rw [Zb]
  exact k _ ((Zw.new hb).upn hb)
structure Sx (g:PS) (kr:List Addr) (K:List Pl) (mv md dn:Addr) (fs:Env) (σ:St):Prop where
 c:Cx g kr K mv md fs σ
 D:ZdA g K fs dn σ
theorem Sx.go {g:PS} {kr:List Addr} {K:List Pl} {mv md dn:Addr} {fs:Env} {σ σ':St} (x:Sx g kr K mv md dn fs σ) (s:Zw (only g.lo) σ σ') (L:ZN g K σ'):Sx g kr K mv md dn fs σ':=⟨x.c.go s L,x.D.same s (x.D.lo x.c)⟩
theorem Sx.same {g:PS} {kr:List Addr} {K:List Pl} {mv md dn:Addr} {fs:Env} {σ σ':St} (x:Sx g kr K mv md dn fs σ) (s:Zw Zr σ σ'):Sx g kr K mv md dn fs σ':=⟨x.c.same s,x.D.same s fun h=>h⟩
noncomputable def ZbI (K:List Pl) (bs:List Blk):Prop:=∀ x ∈ Zn 0 bs,Zpu K (Zf x.2)
theorem ZjQ {n:Nat} (hn:4<=n) {g:PS} {kr:List Addr} {K:List Pl} {mv md dn:Addr} {fs:Env} {σ:St} (S:Sx g kr K mv md dn fs σ) (hR:ZbI K g.bs) (hS:Small g.bs) {b:Nat} {B:Blk} (hB:g.bs[b]?=some B) {xs:List Int} (hxs:Fs xs) {Q:LV->St->Prop}
  (k:∀ ys σ',Fs ys->Zw (only g.lo) σ σ'->ZN g K σ'->Q (.fset ys) σ'):CC n 12 [BDY g.bs g.sp,.fset xs,.int b,.bm 31 (.ref mv)] Q σ:=by
 refine Ze (lvl hn) fun m eQ0_1 hm=>?_; subst eQ0_1
 have hb:=ZbG hS hB
 refine ZU (show ∃ L,(B.1.map ZeL).length=L from ⟨_,rfl⟩) fun L hLL=>?_
 refine ZU (show ∃ N,B.1.length + 1=N from ⟨_,rfl⟩) fun N hN=>?_
 have hL':L + 1=N:=by rw [List.length_map] at hLL; exact o32 hLL hN
 have hsp:∀ i,i < N->∃ a,((b,i),a) ∈ Zn 0 g.bs:=fun i hi=>by
  have:=Zf5 g.bs 0 b (i:=i) hB (o63 hN hi)
  rw [Nat.zero_add] at this
  exact this
 refine Zd (fd:=f12) rfl rfl ?_
 refine ZO <| Zs <| Zgh <| ZG <| ZG <| Zt rfl Zal <| E_p rfl <| IN (s_l.trans (Zjo hS hB)) <| E_p rfl <| IN rfl <| IN (Zht hLL (o33 hb hN hL')) ?_
 intro N' hN'
 have:N'=(N:Int):=o18 hL' hN'
 subst this
 refine IN (Zag (o11 hb hN)) <| IN (ZS _) ?_
 clear hN' hL' hLL hN
 refine Zbx (fun i ρ σ'=>(∃ ys,Fs ys/\Zo ρ 52=some (.fset ys))/\Zo ρ 8=some (.int (b:Int))/\Zo ρ 53=some (.bm 31 (.ref mv))/\Zw (only g.lo) σ σ'/\ZN g K σ') (fun i ρ σ' Kk hi hI kn kr=>?_) (fun ρ σ' hI=>?_) ⟨⟨xs,hxs,rfl⟩,rfl,rfl,Zw.refl _ _,S.c.L⟩
 ·refine ZqO hI fun hN0_0 h8 h53 hs hL=>?_; obtain ⟨ys,hy,h52⟩:=hN0_0
  refine ZU (hsp i hi) fun a ha=>?_
  have S':=S.go hs hL
  refine IN ZZ <| Zk <| Zil (Zq (Zl h53 (by decide))) <| Za <| E_p (Zq (Zl h52 (by decide))) <| Za <| E_p (Zq (Zl h8 (by decide))) <| Za <| E_p (Zq ZH) <| Zj <| ZlD (x:=((b,i),a)) hm S'.c S'.D ha (hR _ ha) hy fun zs σ'' hz hs' hL'=>IN ZZ <| Zh <| kn _ _ ?_
  exact ⟨⟨zs,hz,ZH⟩,Zl (Zl h8 (by decide)) (by decide),Zl (Zl h53 (by decide)) (by decide),hs.trans hs',hL'⟩
 ·refine ZqO hI fun hN0_0 h8 h53 hs hL=>?_; obtain ⟨ys,hy,h52⟩:=hN0_0
  show ZJ TT0 (CC m) (_::_) _ _ _
  exact ZI <| E_p (Zq h52) <| k ys σ' hy hs hL
theorem ZgD {α:Type} {p q:α->Bool}:∀ {xs:List α},(∀ x ∈ xs,q x=true->p x=true)->(xs.filter q).length<=(xs.filter p).length
 | [],_=>Nat.le_refl _
 | x::xs,h=>by
  have ih:=ZgD (xs:=xs) fun y hy=>h y (List.mem_cons_of_mem _ hy)
  rw [List.filter_cons,List.filter_cons]
  cases hq:q x with
  | true =>
   rw [h x List.mem_cons_self hq,if_pos rfl,if_pos rfl,List.length_cons,List.length_cons]
   exact ZtK ih
  | false =>
   rw [if_neg (by simp)]
   split
   ·rw [List.length_cons]; exact o64 ih
   ·exact ih
theorem ZgE {α:Type} {p q:α->Bool}:∀ {xs:List α},(∀ x ∈ xs,q x=true->p x=true)->(∃ x ∈ xs,p x=true/\q x=false)->(xs.filter q).length < (xs.filter p).length
 | [],_,⟨x,hx,_⟩=>by cases hx
 | x::xs,h,⟨y,hy,hp,hq⟩=>by
  have hr:∀ x ∈ xs,q x=true->p x=true:=fun y hy=>h y (List.mem_cons_of_mem _ hy)
  rw [List.filter_cons,List.filter_cons]
  rcases List.mem_cons.mp hy with rfl | hy
  ·rw [hp,hq,if_neg (by simp),if_pos rfl,List.length_cons]
   have:=ZgD hr
   exact o19 this
  ·have ih:=ZgE hr ⟨y,hy,hp,hq⟩
   cases hq':q x with
   | true =>
    rw [h x List.mem_cons_self hq',if_pos rfl,if_pos rfl,List.length_cons,List.length_cons]
    exact ZtL ih
   | false =>
    rw [if_neg (by simp)]
    split
    ·rw [List.length_cons]; exact o29 ih
    ·exact ih
noncomputable def room:LV->Nat
 | .fset xs=>((List.range 45).filter fun (i:Nat)=>!xs.contains (i:Int)).length
 | _=>46
theorem Zlw (xs:List Int):room (.fset xs)<=45:=by
 have:=List.length_filter_le (fun (i:Nat)=>!xs.contains (i:Int)) (List.range 45)
 rw [List.length_range] at this
 exact this
theorem ZoY (v:LV):room v<=46:=by
 cases v with
 | fset xs=>exact Nat.le_succ_of_le (Zlw xs)
 | _=>exact Nat.le_refl _
theorem ZoZ {xs ys:List Int} (hy:Fs ys) {y:Int} (h1:y ∈ ys) (h2:y ∉ xs):room (.fset (xs++ys.filter fun y=>!xs.contains y)) < room (.fset xs):=by
 refine ZL (hy y h1) fun h3 h4=>?_
 refine ZU (Int.eq_ofNat_of_zero_le h3) fun i eQ0_1=>?_; subst eQ0_1
 refine ZgE (fun x hx h=>?_) ⟨i,List.mem_range.mpr (ZtM h4),by simp [h2],by simp [h1,h2]⟩
 simp at h ⊢
 exact h.1
noncomputable def Zdz (vs:List LV):Nat:=(vs.map room).sum
theorem Zhp:∀ {vs:List LV} {t:Nat} {u v:LV},vs[t]?=some u->Zdz (vs.set t v) + room u=Zdz vs + room v
 | [],t,u,v,h=>nos h
 | w::vs,0,u,v,h=>by
  have:w=u:=by simpa using h
  subst this
  unfold Zdz
  rw [List.set_cons_zero,List.map_cons,List.map_cons,List.sum_cons,List.sum_cons]
  exact ZtN
 | w::vs,t + 1,u,v,h=>by
  have:=Zhp (vs:=vs) (t:=t) (u:=u) (v:=v) (by simpa using h)
  unfold Zdz at this ⊢
  rw [List.set_cons_succ,List.map_cons,List.map_cons,List.sum_cons,List.sum_cons]
  exact ZtO this
theorem Zjh:∀ (vs:List LV),Zdz vs<=46 * vs.length
 | []=>Nat.le_refl _
 | v::vs=>by
  unfold Zdz
  rw [List.map_cons,List.sum_cons,List.length_cons]
  exact Nat.le_trans (Nat.add_le_add (ZoY v) (Zjh vs)) (Nat.le_of_eq (Nat.add_comm _ _))
noncomputable def ZlY (v:LV):Prop:=v=.none\/∃ xs,v=.fset xs/\Fs xs
noncomputable def Zsf (v:LV):Prop:=∃ xs,v=.fset xs/\Fs xs
structure EnvS (g:PS) (mv fa le:Addr) (ρ:Env):Prop where
 h9:Zo ρ 9=some (BDY g.bs g.sp)
 h52:Zo ρ 52=some (.ref fa)
 h53:Zo ρ 53=some (.bm 31 (.ref mv))
 h55:Zo ρ 55=some (.fn 11)
 h56:Zo ρ 56=some (.ref le)
theorem EnvS.set {g:PS} {mv fa le:Addr} {ρ:Env} (h:EnvS g mv fa le ρ) {x:Nat} {v:LV} (h9:9 ≠ x) (h52:52 ≠ x) (h53:53 ≠ x) (h55:55 ≠ x) (h56:56 ≠ x):EnvS g mv fa le (Zm ρ x v):=⟨Zl h.h9 h9,Zl h.h52 h52,Zl h.h53 h53,Zl h.h55 h55,Zl h.h56 h56⟩
structure SolS (g:PS) (K:List Pl) (fa le:Addr) (σ₀:St) (vals:List LV) (ls:List Nat) (σ:St):Prop where
 fa:σ fa=some (.list vals)
 n:vals.length=g.bs.length
 ok:∀ v ∈ vals,ZlY v
 le:σ le=some (.list (nL ls))
 go:∀ l ∈ ls,∃ v,vals[l]?=some v/\Zsf v
 s:Zw (only g.lo) σ₀ σ
 L:ZN g K σ
noncomputable def ZnS:List LS:=[.asg (.nm 61) (.sub (.v 52) (.v 59)),.asg (.nm 62) (.ite (.cmp .Is (.v 61) (.k .none)) (.v 58) (.call (.v 55) [(.v 61),(.v 58)])),.ifs (.bool false (.cmp .Is (.v 61) (.k .none)) (.cmp .NotEq (.v 62) (.v 61))) [.asgI (.v 52) (.v 59) (.v 62),.ifs (.cmp .NotIn (.v 59) (.v 56)) [.expr (.lm (.v 56) .append [(.v 59)])] []] []]
theorem Zsz {σ:St} {r:Addr} {ls:List Nat} {i:Int} (h:σ r=some (.list (nL ls))):∃ c,ZbN .NotIn σ (.int i) (.ref r)=some c:=by
 show ∃ c,(inL σ (.int i) (.ref r)).map (!·)=some c
 rw [ZhU h (by rw [Zei]; rfl)]
 exact ⟨_,rfl⟩
theorem ZrF {σ:St} {xs ys:List Int}:∃ c,ZbN .NotEq σ (.fset xs) (.fset ys)=some c/\(c=true->∃ x,x ∈ xs/\x ∉ ys\/x ∉ xs/\x ∈ ys):=by
 refine ⟨_,rfl,fun h=>?_⟩
 apply Classical.byContradiction
 intro hn
 simp only [Bool.not_eq_true',decide_eq_false_iff_not] at h
 refine h fun x=>?_
 constructor
 ·intro hx
  apply Classical.byContradiction
  intro hy
  exact hn ⟨x,.inl ⟨hx,hy⟩⟩
 ·intro hy
  apply Classical.byContradiction
  intro hx
  exact hn ⟨x,.inr ⟨hx,hy⟩⟩
theorem Zo7 {m:Nat} (hm:1<=m) {g:PS} {K:List Pl} {mv fa le:Addr} {σ₀ σ:St} (hfa:σ₀ fa=none) (hle:σ₀ le=none) (hne:fa ≠ le) (hnl:∀ ls,ZN g K σ->σ g.lo ≠ some (.list ls)) {ρ:Env} (E:EnvS g mv fa le ρ) {vals:List LV} {ls:List Nat} (S:SolS g K fa le σ₀ vals ls σ) (hN:g.bs.length<=10) (hls:ls.length<=2000) {t:Nat} (ht:t < g.bs.length) (h59:Zo ρ 59=some (.int (t:Int))) {bs:List Int} (h58:Zo ρ 58=some (.fset bs)) (hbs:Fs bs) {Q:Fl->Env->St->Prop}
  (k:∀ ρ' σ' vals' ls',EnvS g mv fa le ρ'->SolS g K fa le σ₀ vals' ls' σ'->2 * Zdz vals' + ls'.length<=2 * Zdz vals + ls.length->Q .next ρ' σ'):ZJ TT0 (CC m) ZnS ρ Q σ:=by
 obtain ⟨u,hu⟩:∃ u,vals[t]?=some u:=⟨vals[t]'(by rw [S.n]; exact ht),List.getElem?_eq_getElem _⟩
 have hsub:Zge σ (.ref fa) (.int (t:Int))=some u:=(s_r S.fa).trans (Z5 hu (by rw [S.n]; exact o0 hN))
 have hlo1:fa ≠ g.lo:=fun e=>hnl vals S.L (by rw [<- e]; exact S.fa)
 have hlo2:le ≠ g.lo:=fun e=>hnl _ S.L (by rw [<- e]; exact S.le)
 refine Zk <| ZG <| E_p (Zq E.h52) <| E_p (Zq h59) <| IN hsub <| IN ZZ ?_
 have E1:EnvS g mv fa le (Zm ρ 61 u):=E.set (by decide) (by decide) (by decide) (by decide) (by decide)
 have h61:Zo (Zm ρ 61 u) 61=some u:=ZH
 have h59a:Zo (Zm ρ 61 u) 59=some (.int (t:Int)):=Zl h59 (by decide)
 have h58a:Zo (Zm ρ 61 u) 58=some (.fset bs):=Zl h58 (by decide)
 generalize Zm ρ 61 u=ρ1 at E1 h61 h59a h58a
 have put:∀ (ms:List Int) (ρ2:Env),Fs ms->EnvS g mv fa le ρ2->Zo ρ2 59=some (.int (t:Int))->Zo ρ2 62=some (.fset ms)->room (.fset ms) < room u->ZJ TT0 (CC m) [.asgI (.v 52) (.v 59) (.v 62),.ifs (.cmp .NotIn (.v 59) (.v 56)) [.expr (.lm (.v 56) .append [(.v 59)])] []] ρ2 (aft TT0 (CC m) [] Q) σ:=by
  intro ms ρ2 hms E2 h59b h62 hroom
  refine ZeX <| E_p (Zq h62) <| E_p (Zq E2.h52) <| E_p (Zq h59b) <| ZnO S.fa (by exact o6) (by rw [S.n]; exact o12 ht) (by exact ZtP hN ht) ?_
  rw [show ((t:Int)).toNat=t by exact o65]
  have hle1:(upd σ fa (some (.list (vals.set t (.fset ms))))) le=some (.list (nL ls)):=(Zc _ _ hne.symm).trans S.le
  have htot:=Zhp (v:=.fset ms) hu
  have S1:SolS g K fa le σ₀ (vals.set t (.fset ms)) ls (upd σ fa (some (.list (vals.set t (.fset ms))))):=by
   refine ⟨Zb ..,by rw [List.length_set]; exact S.n,fun v hv=>?_,hle1,fun l hl=>?_,?_,?_⟩
   ·refine Or.elim (List.mem_or_eq_of_mem_set hv) (fun h=>?_) fun h=>?_
    ·exact S.ok v h
    ·exact .inr ⟨ms,h,hms⟩
   ·by_cases e:l=t
    ·subst e
     exact ⟨.fset ms,by rw [List.getElem?_set_self (ZR hu)],ms,rfl,hms⟩
    ·refine Ze (S.go l hl) fun v hv hf=>?_
     exact ⟨v,by rw [List.getElem?_set_ne (fun h=>e h.symm)]; exact hv,hf⟩
   ·intro x hx hxl
    rw [Zc _ _ (fun e=>hx (by rw [e,hfa]))]
    exact S.s x hx hxl
   ·refine Ze S.L fun lo h1 h2=>?_
    exact ⟨lo,(Zc _ _ hlo1.symm).trans h1,h2⟩
  refine ZU (Zsz (i:=(t:Int)) hle1) fun c hc=>?_
  refine Zb6 <| ZF <| E_p (Zq h59b) <| E_p (Zq E2.h56) <| IN hc ?_
  cases c with
  | false=>exact Zbg rfl <| Zh <| Zh (T:=TT0) (C:=CC m) <| Zh (T:=TT0) (C:=CC m) <| k ρ2 _ _ ls E2 S1 (by exact ZtQ hroom htot)
  | true =>
   refine ZcR rfl <| ZaR <| ZbH <| E_p (Zq E2.h56) <| IN (o_r hle1) <| Za <| E_p (Zq h59b) <| Zj <| Zaw hle1 (by rw [Zcf]; exact ZtR hls) ?_
   refine Zh <| Zh (T:=TT0) (C:=CC m) <| Zh (T:=TT0) (C:=CC m) <| k ρ2 _ (vals.set t (.fset ms)) (ls++[t]) E2 ?_ (by rw [List.length_append,List.length_singleton]; exact ZtS hroom htot)
   refine ⟨(Zc _ _ hne).trans S1.fa,S1.n,S1.ok,by rw [Zb,Zen]; rfl,fun l hl=>?_,?_,?_⟩
   ·refine Or.elim (List.mem_append.mp hl) (fun h=>?_) fun h=>?_
    ·exact S1.go l h
    ·rw [List.mem_singleton.mp h]
     exact ⟨.fset ms,by rw [List.getElem?_set_self (ZR hu)],ms,rfl,hms⟩
   ·intro x hx hxl
    rw [Zc _ _ (fun e=>hx (by rw [e,hle]))]
    exact S1.s x hx hxl
   ·refine Ze S1.L fun lo h1 h2=>?_
    exact ⟨lo,(Zc _ _ hlo2.symm).trans h1,h2⟩
 rcases S.ok u (List.mem_of_getElem? hu) with rfl | ⟨as,rfl,has⟩
 ·refine Zk <| Zdl <| ZF <| E_p (Zq h61) <| E_p Zbr <| IN Zoe <| ZcR rfl <| E_p (Zq h58a) <| IN ZZ ?_
  refine Zb6 <| ZaP <| ZF <| E_p (Zq (Zl h61 (by decide))) <| E_p Zbr <| IN Zoe <| ZdP rfl <| ZcR rfl ?_
  exact put bs _ hbs (E1.set (by decide) (by decide) (by decide) (by decide) (by decide)) (Zl h59a (by decide)) ZH (by have:=Zlw bs; show room (.fset bs) < 46; exact ZtT this)
 ·refine Zk <| Zdl <| ZF <| E_p (Zq h61) <| E_p Zbr <| IN Zoe <| Zbg rfl <| ZcJ (Zq E1.h55) <| Za <| E_p (Zq h61) <| Za <| E_p (Zq h58a) <| Zj ?_
  show CC m 11 [.fset as,.fset bs] _ σ
  refine ZkW hm <| IN ZZ ?_
  refine Ze (ZrF (σ:=σ) (xs:=as++bs.filter fun y=>!as.contains y) (ys:=as)) fun c hc hcc=>?_
  refine Zb6 <| ZaP <| ZF <| E_p (Zq (Zl h61 (by decide))) <| E_p Zbr <| IN Zoe <| ZbL rfl <| ZF <| E_p (Zq ZH) <| E_p (Zq (Zl h61 (by decide))) <| IN hc ?_
  have E2:EnvS g mv fa le (Zm ρ1 62 (.fset (as++bs.filter fun y=>!as.contains y))):=E1.set (by decide) (by decide) (by decide) (by decide) (by decide)
  cases c with
  | false=>exact Zbg rfl <| Zh <| Zh (T:=TT0) (C:=CC m) <| k _ σ vals ls E2 S (Nat.le_refl _)
  | true =>
   refine ZcR rfl (put _ _ (has.or hbs) E2 (Zl h59a (by decide)) ZH ?_)
   obtain ⟨x,hx | hx⟩:=hcc rfl
   ·refine Or.elim (List.mem_append.mp hx.1) (fun h=>?_) fun h=>?_
    ·exact absurd h hx.2
    ·exact ZoZ hbs (List.mem_filter.mp h).1 hx.2
   ·exact absurd (List.mem_append_left _ hx.2) hx.1
theorem Zo3 {M:Nat} {e:End} (h:e.ok M):∀ t ∈ ZjP e,t < M:=by
 cases e with
 | goto g=>intro t ht; rw [show t=g from by simpa [ZjP] using ht]; exact h
 | drop a g=>intro t ht; rw [show t=g from by simpa [ZjP] using ht]; exact h.2
 | call a b g=>intro t ht; rw [show t=g from by simpa [ZjP] using ht]; exact h.2.2
 | ret=>intro t ht; cases ht
theorem ZoA {g:PS} {K:List Pl} {σ:St} {ls:List LV} (L:ZN g K σ):σ g.lo ≠ some (.list ls):=fun e=>by
 obtain ⟨_,h,_⟩:=L
 rw [h] at e
 cases e
theorem Zo6 {m:Nat} (hm:1<=m) {g:PS} {K:List Pl} {mv fa le:Addr} {σ₀:St} (hfa:σ₀ fa=none) (hle:σ₀ le=none) (hne:fa ≠ le) (hN:g.bs.length<=10) {bs:List Int} (hbs:Fs bs):∀ {ts:List Nat} {ρ:Env} {σ:St} {vals:List LV} {ls:List Nat} {Q:Fl->Env->St->Prop},EnvS g mv fa le ρ->SolS g K fa le σ₀ vals ls σ->2 * Zdz vals + ls.length<=2000->(∀ t ∈ ts,t < g.bs.length)->Zo ρ 58=some (.fset bs)->
  (∀ ρ' σ' vals' ls',EnvS g mv fa le ρ'->SolS g K fa le σ₀ vals' ls' σ'->2 * Zdz vals' + ls'.length<=2 * Zdz vals + ls.length->Q .next ρ' σ')->ts.length<=1->Ze6 (.nm 59) (fun ρ Q σ=>ZJ TT0 (CC m) ZnS ρ Q σ) (nL ts) ρ Q σ
 | [],ρ,σ,vals,ls,Q,E,S,hl,ht,h58,k,h1=>Za1 (k ρ σ vals ls E S (Nat.le_refl _))
 | t::t2::ts,ρ,σ,vals,ls,Q,E,S,hl,ht,h58,k,h1=>by simp at h1
 | [t],ρ,σ,vals,ls,Q,E,S,hl,ht,h58,k,h1=>by
  refine Zah ZZ ?_
  have E1:EnvS g mv fa le (Zm ρ 59 (.int (t:Int))):=E.set (by decide) (by decide) (by decide) (by decide) (by decide)
  exact Zo7 hm hfa hle hne (fun ls L=>ZoA L) E1 S hN (ZtU hl) (ht t List.mem_cons_self) ZH (Zl h58 (by decide)) hbs fun ρ' σ' vals' ls' E' S' h'=>Za1 (k ρ' σ' vals' ls' E' S' h')
theorem Zpq {T:Tab} {C:Cal} {ρ:Env} {σ:St} {l n:LE} {Q:LV->St->Prop} (h:wpE T C l ρ (fun a σ₁=>wpE T C n ρ (fun b σ₂=>ZC (asL a) fun l=>ZC (Zie l) fun x=>ZC (asI b) fun i=>0<=i/\i<=1000000/\ZeV true Q (List.replicate i.toNat x) σ₂) σ₁) σ):wpE T C (.repR l n) ρ Q σ:=by rw [Zsk]; exact h
theorem Znh {n:Nat} (hn:5<=n) {g:PS} {kr:List Addr} {K:List Pl} {mv md dn:Addr} {fs:Env} {σ:St} (S:Sx g kr K mv md dn fs σ) (hR:ZbI K g.bs) (hB:BodyOk g.bs) {xs:List Int} (hxs:Fs xs) {Q:LV->St->Prop}
  (k:∀ vals σ',vals.length=g.bs.length->(∀ v ∈ vals,ZlY v)->Zw (only g.lo) σ σ'->ZN g K σ'->Q (.lst vals) σ'):CC n 13 [BDY g.bs g.sp,.fset xs,.bm 31 (.ref mv),.fn 11] Q σ:=by
 obtain ⟨m,rfl,hm⟩:=lvl hn
 have hS:=ZaC hB
 have hN:=hB.few
 have hN0:0 < g.bs.length:=List.length_pos_iff.mpr hB.some
 refine Zd (fd:=f13) rfl rfl ?_
 refine Zk <| Zpq <| E_p rfl <| Zs <| Zt rfl Zal <| IN (Zht (List.length_map ..) (by exact o1 hN)) <| IN rfl <| IN rfl <| IN rfl ⟨by exact o6,by exact ZtV hN,Zb5 fun fa hfa=>IN rfl ?_⟩
 rw [show ((g.bs.length:Nat):Int).toNat=g.bs.length by exact o65]
 have hf1:(upd σ fa (some (.list (List.replicate g.bs.length .none)))) fa=some (.list (List.replicate g.bs.length .none)):=Zb ..
 refine ZeX <| E_p rfl <| E_p rfl <| E_p rfl <| ZnO hf1 (by decide) (by rw [List.length_replicate]; exact o20 hN0) (by decide) ?_
 rw [ZeO]
 have hvl:((List.replicate g.bs.length LV.none).set (0:Int).toNat (.fset xs)).length=g.bs.length:=by simp
 have hv0:((List.replicate g.bs.length LV.none).set (0:Int).toNat (.fset xs))[0]?=some (.fset xs):=by
  show ((List.replicate g.bs.length LV.none).set 0 (.fset xs))[0]?=_
  rw [List.getElem?_set_self (by simp; exact hN0)]
 have hvo:∀ v ∈ (List.replicate g.bs.length LV.none).set (0:Int).toNat (.fset xs),ZlY v:=fun v hv=>by
  rcases List.mem_or_eq_of_mem_set hv with h | h
  ·exact .inl (List.eq_of_mem_replicate h)
  ·exact .inr ⟨xs,h,hxs⟩
 generalize (List.replicate g.bs.length LV.none).set (0:Int).toNat (.fset xs)=vals0 at hvl hv0 hvo
 refine Zk <| Zbq rfl <| Zb5 fun le hle=>IN rfl ?_
 have hne:fa ≠ le:=Zu (Zb ..) hle
 have hle0:σ le=none:=by rw [<- hle,Zc _ _ hne.symm]
 have S0:SolS g K fa le σ vals0 [0] (upd (upd σ fa (some (.list vals0))) le (some (.list [.int 0]))):=by
  obtain ⟨lo,h1,h2⟩:=S.c.L
  refine ⟨(Zc _ _ hne).trans (Zb ..),hvl,hvo,Zb ..,fun l hl=>?_,?_,⟨lo,?_,h2⟩⟩
  ·rw [show l=0 by simpa using hl]
   exact ⟨_,hv0,xs,rfl,hxs⟩
  ·intro x hx hxl
   rw [Zc _ _ (fun e=>hx (by rw [e,hle0])),Zc _ _ (fun e=>hx (by rw [e,hfa]))]
  ·rw [Zc _ _ (Zu h1 hle0),Zc _ _ (Zu h1 hfa),h1]
 have ht0:=Zjh vals0
 refine ZnZ (fun mm ρ σ'=>EnvS g mv fa le ρ/\mm<=2000/\∃ vals ls,SolS g K fa le σ vals ls σ'/\mm=2 * Zdz vals + ls.length) (2 * Zdz vals0 + 1) ⟨⟨rfl,rfl,rfl,rfl,rfl⟩,by exact ZtW hN hvl ht0,vals0,[0],S0,rfl⟩ fun mm ρ σ' Kk hI kn kr=>?_
 obtain ⟨E,hmm,vals,ls,SS,rfl⟩:=hI
 by_cases hls:ls=[]
 ·subst hls
  refine ZF <| E_p (Zq E.h56) <| E_p (v:=.lst []) rfl <| IN (ZiQ SS.le) ?_
  show ZJ TT0 (CC m) (_::_) _ _ _
  refine ZI <| Zd3 <| E_p (Zq E.h52) ?_
  unfold Zgb
  dsimp only
  rw [SS.fa]
  refine k vals _ SS.n SS.ok ?_ ?_
  ·intro x hx hxl
   rw [Zc _ _ (fun e=>hx (by rw [e,hfa]))]
   exact SS.s x hx hxl
  ·obtain ⟨lo,h1,h2⟩:=SS.L
   exact ⟨lo,(Zc _ _ (ZQ h1 SS.fa (by simp))).trans h1,h2⟩
 ·obtain ⟨ls',b,rfl⟩:=ZgX hls
  refine ZF <| E_p (Zq E.h56) <| E_p (v:=.lst []) rfl <| IN (ZiR SS.le (Zei _) (by unfold nL; simp)) ?_
  obtain ⟨v,hv,⟨as,rfl,has⟩⟩:=SS.go b (by simp)
  have hb:b < g.bs.length:=by rw [<- SS.n]; exact ZR hv
  obtain ⟨B,hBB⟩:∃ B,g.bs[b]?=some B:=⟨g.bs[b],List.getElem?_eq_getElem hb⟩
  have hBok:=hB.ok B (List.mem_of_getElem? hBB)
  rw [List.length_append,List.length_singleton] at hmm kn
  have hle1:=SS.le
  rw [Zen] at hle1
  have hle2:σ' le=some (.list (nL ls'++[.int (b:Int)])):=hle1
  refine Zk <| ZbH <| E_p (Zq E.h56) <| IN (o_r hle2) <| Zj <| Zps hle2 (by rw [List.length_append,Zcf]; simp; exact ZtX hmm) <| IN ZZ ?_
  have E1:EnvS g mv fa le (Zm ρ 8 (.int (b:Int))):=E.set (by decide) (by decide) (by decide) (by decide) (by decide)
  have h8:Zo (Zm ρ 8 (.int (b:Int))) 8=some (.int (b:Int)):=ZH
  generalize Zm ρ 8 (.int (b:Int))=ρ1 at E1 h8
  have S1:SolS g K fa le σ vals ls' (upd σ' le (some (.list (nL ls')))):=by
   obtain ⟨lo,h1,h2⟩:=SS.L
   refine ⟨(Zc _ _ hne).trans SS.fa,SS.n,SS.ok,Zb ..,fun l hl=>SS.go l (List.mem_append_left _ hl),?_,⟨lo,(Zc _ _ (ZQ h1 SS.le (by simp))).trans h1,h2⟩⟩
   intro x hx hxl
   rw [Zc _ _ (fun e=>hx (by rw [e,hle0]))]
   exact SS.s x hx hxl
  generalize upd σ' le (some (.list (nL ls')))=σ1 at S1
  have hsub:Zge σ1 (.ref fa) (.int (b:Int))=some (.fset as):=(s_r S1.fa).trans (Z5 hv (by rw [S1.n]; exact o1 hN))
  have Sx1:=S.go S1.s S1.L
  refine Zk <| ZD rfl <| Za <| E_p (Zq E1.h9) <| Za <| ZG <| E_p (Zq E1.h52) <| E_p (Zq h8) <| IN hsub <| Za <| E_p (Zq h8) <| Za <| E_p (Zq E1.h53) <| Zj <| ZjQ hm Sx1 hR hS hBB has fun ys σ2 hy hs2 L2=>IN ZZ ?_
  have E2:EnvS g mv fa le (Zm ρ1 58 (.fset ys)):=E1.set (by decide) (by decide) (by decide) (by decide) (by decide)
  have h8':Zo (Zm ρ1 58 (.fset ys)) 8=some (.int (b:Int)):=Zl h8 (by decide)
  have h58:Zo (Zm ρ1 58 (.fset ys)) 58=some (.fset ys):=ZH
  generalize Zm ρ1 58 (.fset ys)=ρ2 at E2 h8' h58
  have S2:SolS g K fa le σ vals ls' σ2:=by
   obtain ⟨lo,h1,h2⟩:=S1.L
   exact ⟨hs2.some S1.fa (ZQ S1.fa h1 (by simp)),S1.n,S1.ok,hs2.some S1.le (ZQ S1.le h1 (by simp)),S1.go,S1.s.trans hs2,L2⟩
  refine ZO <| ZD rfl <| Za <| ZG <| ZG <| Zt (Zq E2.h9) Zal <| E_p (Zq h8') <| IN (s_l.trans (Zjo hS hBB)) <| E_p Zbr <| IN rfl <| Zj <| Zo4 (by exact o15 hm) fun σ3 hs3=>IN rfl ?_
  have S3:SolS g K fa le σ vals ls' σ3:=⟨hs3.some S2.fa fun h=>h,S2.n,S2.ok,hs3.some S2.le fun h=>h,S2.go,S2.s.trans (hs3.weaken fun _ h=>h.elim),S2.L.same hs3 fun h=>h⟩
  refine Zo6 (by exact o15 hm) hfa hle0 hne (by exact o13 hN) hy E2 S3 (by exact ZtY hmm) (Zo3 hBok.2.2) h58 (fun ρ' σ'' vals' ls'' E' S' h'=>Zh (T:=TT0) (C:=CC m) <| kn _ ρ' σ'' (by exact ZtZ h') ⟨E',by exact Zt0 hmm h',vals',ls'',S',rfl⟩) ?_
  cases B.2 <;> simp [ZjP]
theorem ZfY:∀ (es:List (LV × LV)) (a u:LV),(Zh6 a u es).length<=es.length + 1
 | [],a,u=>Nat.le_refl 1
 | (x,v)::r,a,u=>by
  rw [Zi8]
  have:=ZfY r a u
  split
  ·simp
  ·rw [List.length_cons,List.length_cons]; exact Zt1 this
open Classical in
theorem ZgZ:∀ (es:List (LV × LV)) (a u y:LV),Zdt y (Zh6 a u es)=if y=a then some u else Zdt y es
 | [],a,u,y=>by
  rfl
 | (x,v)::r,a,u,y=>by
  rw [Zi8]
  by_cases e:a=x
  ·subst e
   rw [if_pos rfl]
   rw [ZcT,ZcT]
   by_cases h:y=a
   ·rw [if_pos h,if_pos h]
   ·rw [if_neg h,if_neg h,if_neg h]
  ·rw [if_neg e]
   rw [ZcT,ZcT]
   rw [ZgZ r]
   by_cases h:y=x
   ·rw [if_pos h,if_pos h,if_neg (fun h'=>e (h'.symm.trans h))]
   ·rw [if_neg h,if_neg h]
structure EnvF (g:PS) (mv fo:Addr) (vals:List LV) (ρ:Env):Prop where
 h9:Zo ρ 9=some (BDY g.bs g.sp)
 h52:Zo ρ 52=some (.lst vals)
 h53:Zo ρ 53=some (.bm 31 (.ref mv))
 h10:Zo ρ 10=some (.ref fo)
theorem EnvF.set {g:PS} {mv fo:Addr} {vals:List LV} {ρ:Env} (h:EnvF g mv fo vals ρ) {x:Nat} {v:LV} (h9:9 ≠ x) (h52:52 ≠ x) (h53:53 ≠ x) (h10:10 ≠ x):EnvF g mv fo vals (Zm ρ x v):=⟨Zl h.h9 h9,Zl h.h52 h52,Zl h.h53 h53,Zl h.h10 h10⟩
noncomputable def Zpx:List LS:=[.for_ (.nm 12) (.bi .range_ [(.bin .Add (.bi .len_ [(.sub (.sub (.attr (.v 9) 4) (.v 8)) (.k (.int 0)))]) (.k (.int 1)))]) [.asgI (.v 10) (.tup [(.v 8),(.v 12)]) (.v 63),.asg (.nm 63) (.call (.v 53) [(.v 63),(.v 8),(.v 12)])]]
theorem Zpy {m:Nat} (hm:3<=m) {g:PS} {kr:List Addr} {K:List Pl} {mv md dn fo:Addr} {fs:Env} {σ₀ σ:St} (S:Sx g kr K mv md dn fs σ₀) (hfo:σ₀ fo=none) (hs:Zw (only g.lo) σ₀ σ) (L:ZN g K σ) (hR:ZbI K g.bs) (hS:Small g.bs) {b:Nat} {B:Blk} (hB:g.bs[b]?=some B) {vals:List LV} {ρ:Env} (E:EnvF g mv fo vals ρ) (h8:Zo ρ 8=some (.int (b:Int))) {xs:List Int} (hxs:Fs xs) (h63:Zo ρ 63=some (.fset xs)) {es:List (LV × LV)} (he:σ fo=some (.dict es)) (hes:es.length<=1000) {Q:Fl->Env->St->Prop}
  (k:∀ ρ' σ' es',EnvF g mv fo vals ρ'->σ' fo=some (.dict es')->es'.length<=es.length + 11->Zw (only g.lo) σ₀ σ'->ZN g K σ'->Q .next ρ' σ'):ZJ TT0 (CC m) Zpx ρ Q σ:=by
 have hb:=ZbG hS hB
 obtain ⟨Ln,hLL⟩:∃ L,(B.1.map ZeL).length=L:=⟨_,rfl⟩
 obtain ⟨N,hN⟩:∃ N,B.1.length + 1=N:=⟨_,rfl⟩
 have hL':Ln + 1=N:=by rw [List.length_map] at hLL; exact o32 hLL hN
 have hN11:N<=11:=o26 hb hN
 have hsp:∀ i,i < N->∃ a,((b,i),a) ∈ Zn 0 g.bs:=fun i hi=>by
  have:=Zf5 g.bs 0 b (i:=i) hB (o63 hN hi)
  rw [Nat.zero_add] at this
  exact this
 refine ZO <| Zs <| Zgh <| ZG <| ZG <| Zt (Zq E.h9) Zal <| E_p (Zq h8) <| IN (s_l.trans (Zjo hS hB)) <| E_p Zbr <| IN rfl <| IN (Zht hLL (o33 hb hN hL')) ?_
 intro N' hN'
 have:N'=(N:Int):=o18 hL' hN'
 subst this
 refine IN (Zag (o11 hb hN)) <| IN (ZS _) ?_
 clear hN' hL' hLL hN
 refine Zbx (fun i ρ σ'=>EnvF g mv fo vals ρ/\Zo ρ 8=some (.int (b:Int))/\(∃ ys,Fs ys/\Zo ρ 63=some (.fset ys))/\(∃ es',σ' fo=some (.dict es')/\es'.length<=es.length + i)/\Zw (only g.lo) σ₀ σ'/\ZN g K σ') (fun i ρ σ' Kk hi hI kn kr=>?_) (fun ρ σ' hI=>?_) ⟨E,h8,⟨xs,hxs,h63⟩,⟨es,he,Nat.le_refl _⟩,hs,L⟩
 ·obtain ⟨E',h8',⟨ys,hy,h63'⟩,⟨es',he',hl'⟩,hs',L'⟩:=hI
  obtain ⟨a,ha⟩:=hsp i hi
  have E1:EnvF g mv fo vals (Zm ρ 12 (.int (i:Int))):=E'.set (by decide) (by decide) (by decide) (by decide)
  have h81:Zo (Zm ρ 12 (.int (i:Int))) 8=some (.int (b:Int)):=Zl h8' (by decide)
  have h631:Zo (Zm ρ 12 (.int (i:Int))) 63=some (.fset ys):=Zl h63' (by decide)
  have h121:Zo (Zm ρ 12 (.int (i:Int))) 12=some (.int (i:Int)):=ZH
  refine IN ZZ ?_
  generalize Zm ρ 12 (.int (i:Int))=ρ1 at E1 h81 h631 h121
  have flo:g.lo ≠ fo:=by
   obtain ⟨lo,h1,h2⟩:=L'
   exact ZQ h1 he' (by simp)
  refine ZeX <| E_p (Zq h631) <| E_p (Zq E1.h10) <| Zax <| Za <| E_p (Zq h81) <| Za <| E_p (Zq h121) <| Zj <| Zlu he' (Zii (b,i)) (Zt2 hes hN11 hi hl') ?_
  have hpl:=ZfY es' (LV.tup [.int (b:Int),.int (i:Int)]) (.fset ys)
  generalize hes2:Zh6 (LV.tup [.int (b:Int),.int (i:Int)]) (.fset ys) es'=es2 at hpl
  have hs2:Zw (only g.lo) σ₀ (upd σ' fo (some (.dict es2))):=fun x hx hxl=>by
   rw [Zc _ _ (fun e=>hx (by rw [e,hfo]))]
   exact hs' x hx hxl
  have L2:ZN g K (upd σ' fo (some (.dict es2))):=by
   obtain ⟨lo,h1,h2⟩:=L'
   exact ⟨lo,(Zc _ _ flo).trans h1,h2⟩
  have he2:(upd σ' fo (some (.dict es2))) fo=some (.dict es2):=Zb ..
  generalize upd σ' fo (some (.dict es2))=σ2 at hs2 L2 he2
  have S2:=S.go hs2 L2
  refine Zk <| Zil (Zq E1.h53) <| Za <| E_p (Zq h631) <| Za <| E_p (Zq h81) <| Za <| E_p (Zq h121) <| Zj <| ZlD (x:=((b,i),a)) hm S2.c S2.D ha (hR _ ha) hy fun zs σ'' hz hs'' hL''=>IN ZZ <| Zh <| kn _ _ ?_
  exact ⟨E1.set (by decide) (by decide) (by decide) (by decide),Zl h81 (by decide),⟨zs,hz,ZH⟩,⟨es2,hs''.some he2 (fun e=>flo e.symm),Zt3 hl' hpl⟩,hs2.trans hs'',hL''⟩
 ·obtain ⟨E',h8',_,⟨es',he',hl'⟩,hs',L'⟩:=hI
  exact Zh (T:=TT0) (C:=CC m) <| k ρ σ' es' E' he' (Zt4 hN11 hl') hs' L'
theorem Zmn {n:Nat} (hn:4<=n) {g:PS} {kr:List Addr} {K:List Pl} {mv md dn:Addr} {fs:Env} {σ:St} (S:Sx g kr K mv md dn fs σ) (hR:ZbI K g.bs) (hB:BodyOk g.bs) {vals:List LV} (hv:vals.length=g.bs.length) (hvo:∀ v ∈ vals,ZlY v) {Q:LV->St->Prop}
  (k:∀ v σ',Zw (only g.lo) σ σ'->ZN g K σ'->Q v σ'):CC n 14 [BDY g.bs g.sp,.lst vals,.bm 31 (.ref mv)] Q σ:=by
 refine Ze (lvl hn) fun m eQ0_1 hm=>?_; subst eQ0_1
 have hS:=ZaC hB
 have hN:=hB.few
 refine Zd (fd:=f14) rfl rfl ?_
 refine Zk <| Zd2 fun fo hfo=>IN rfl ?_
 refine ZO <| Zs <| Zs <| Zt rfl Zal <| IN (Zht (List.length_map ..) (o1 hN)) <| IN (Zag (o1 hN)) <| IN (ZS _) ?_
 refine Zbx (fun b ρ σ'=>EnvF g mv fo vals ρ/\(∃ es,σ' fo=some (.dict es)/\es.length<=11 * b)/\Zw (only g.lo) σ σ'/\ZN g K σ') (fun b ρ σ' Kk hi hI kn kr=>?_) (fun ρ σ' hI=>?_) ⟨⟨rfl,rfl,rfl,rfl⟩,⟨[],Zb ..,Nat.zero_le _⟩,Zw.new hfo,?_⟩
 ·refine ZlP hI fun E hN0_1 hs L=>?_; obtain ⟨es,he,hl⟩:=hN0_1
  refine ZU (show ∃ B,g.bs[b]?=some B from ⟨g.bs[b],List.getElem?_eq_getElem hi⟩) fun B hBB=>?_
  obtain ⟨v,hvb⟩:∃ v,vals[b]?=some v:=⟨vals[b]'(by rw [hv]; exact hi),List.getElem?_eq_getElem _⟩
  refine IN ZZ ?_
  have E1:EnvF g mv fo vals (Zm ρ 8 (.int (b:Int))):=E.set (by decide) (by decide) (by decide) (by decide)
  refine Zk <| ZG <| E_p (Zq E1.h52) <| E_p (Zq ZH) <| IN (s_l.trans (Z5 hvb (by rw [hv]; exact o1 hN))) <| IN ZZ ?_
  have E2:EnvF g mv fo vals (Zm (Zm ρ 8 (.int (b:Int))) 63 v):=E1.set (by decide) (by decide) (by decide) (by decide)
  have h8:Zo (Zm (Zm ρ 8 (.int (b:Int))) 63 v) 8=some (.int (b:Int)):=Zl ZH (by decide)
  have h63:Zo (Zm (Zm ρ 8 (.int (b:Int))) 63 v) 63=some v:=ZH
  generalize Zm (Zm ρ 8 (.int (b:Int))) 63 v=ρ2 at E2 h8 h63
  rcases hvo v (List.mem_of_getElem? hvb) with rfl | ⟨xs,rfl,hxs⟩
  ·refine Zb6 <| ZF <| E_p (Zq h63) <| E_p Zbr <| IN Zma <| Zbg rfl <| Zh <| Zh (T:=TT0) (C:=CC m) <| kn _ _ ⟨E2,⟨es,he,Zt5 hl⟩,hs,L⟩
  ·refine Zb6 <| ZF <| E_p (Zq h63) <| E_p Zbr <| IN Zma <| ZcR rfl ?_
   exact Zpy hm S hfo hs L hR hS hBB E2 h8 hxs h63 he (Zt6 hN hi hl) fun ρ' σ'' es' E' he' hl' hs' L'=>Zh (T:=TT0) (C:=CC m) <| kn _ _ ⟨E',⟨es',he',Zt7 hl hl'⟩,hs',L'⟩
 ·refine ZlP hI fun E _ hs L=>?_
  show ZJ TT0 (CC m) (_::_) _ _ _
  exact ZI <| E_p (Zq E.h10) <| k _ σ' hs L
 ·refine Ze S.c.L fun lo h1 h2=>?_
  exact ⟨lo,(Zc _ _ (Zu h1 hfo)).trans h1,h2⟩
theorem ZnW {T:Tab} {C:Cal} {ρ:Env} {σ:St} {l m r:LE} {o₁ o₂:CmpOp} {a b d:LV} {c₁ c₂:Bool} {Q:LV->St->Prop} (h1:evp T ρ l=some a) (h2:evp T ρ m=some b) (hc:ZbN o₁ σ a b=some c₁) (h:if c₁=true then wpE T C r ρ (fun d σ₃=>ZC (ZbN o₂ σ₃ b d) fun c₂=>Q (.bool c₂) σ₃) σ else Q (.bool false) σ):wpE T C (.chain l o₁ m o₂ r) ρ Q σ:=by
 rw [WE6]
 refine ZV l h1 (ZV m h2 (IN hc ?_))
 cases c₁ with
 | true=>exact h
 | false=>exact h
theorem Zl6 {n:Nat} (hn:7<=n) {g:PS} {kr:List Addr} {K:List Pl} {mv md:Addr} {fs:Env} {σ:St} (c:Cx g kr K mv md fs σ) (hloc:∀ l,l < 5->(l,[]) ∈ K) {Q:LV->St->Prop}
  (k:∀ ys σ',Fs ys->Zw (only g.lo) σ σ'->ZN g K σ'->Q (.fset ys) σ'):CC n 27 [.ref mv] Q σ:=by
 refine Ze (lvl hn) fun m eQ0_1 hm=>?_; subst eQ0_1
 refine Zd (fd:=f27) rfl rfl ?_
 refine Zk <| ZlV (vs:=[]) rfl ZsB <| IN rfl ?_
 refine ZO <| Zs <| Zs <| Zd1 <| Zt rfl (Zbw c.M.a c.M.d rfl c.M.b) <| IN Zd8 <| IN (Zht (n:=5) rfl (by decide)) <| IN (Zag (by decide)) <| IN (ZS 5) ?_
 refine Zbx (fun l ρ σ'=>Zo ρ 0=some (.ref mv)/\(∃ ys,Fs ys/\Zo ρ 52=some (.fset ys))/\Zw (only g.lo) σ σ'/\ZN g K σ') (fun l ρ σ' Kk hi hI kn kr=>?_) (fun ρ σ' hI=>?_) ⟨rfl,⟨[],(fun x h=>by cases h),rfl⟩,Zw.refl _ _,c.L⟩
 ·refine ZlP hI fun h0 hN0_1 hs L=>?_; obtain ⟨ys,hy,h52⟩:=hN0_1
  have c':=c.go hs L
  have hEK:Znn K ((l,[]),0):=⟨.inr ⟨l,rfl⟩,hloc l hi⟩
  have hlt:idx K (Zad ((l,[]),0)) < K.length:=ZiH hEK.2
  have hm96:Zao TT0 σ' (.ref mv) 96=some 28:=Zem c'.M.a c'.M.d rfl c'.M.n.2.1
  have hm97:Zao TT0 σ' (.ref g.a) 97=some 23:=Zem c'.F.p.a c'.F.p.d rfl rfl
  refine IN ZZ ?_
  have h01:Zo (Zm ρ 7 (.int (l:Int))) 0=some (.ref mv):=Zl h0 (by decide)
  have h521:Zo (Zm ρ 7 (.int (l:Int))) 52=some (.fset ys):=Zl h52 (by decide)
  have h71:Zo (Zm ρ 7 (.int (l:Int))) 7=some (.int (l:Int)):=ZH
  generalize Zm ρ 7 (.int (l:Int))=ρ1 at h01 h521 h71
  refine Zk <| ZnW (d:=.none) (c₂:=false) Zbr (Zq h71) Zph ?_
  have tail:ZC (Z0 (.nm 95) (.bool false) ρ1) fun ρ₁=>ZJ TT0 (CC m) [.asg (.nm 52) (.meth (.v 0) 96 [(.v 52),(.meth (.attr (.v 0) 88) 97 [(.tup [(.v 7),(.tup [])])]),(.ite (.v 95) (.g 98) (.g 99))])] ρ₁ Kk σ':=by
   refine IN ZZ <| Zk <| ZaT (Zq (Zl h01 (by decide))) hm96 <| Za <| E_p (Zq (Zl h521 (by decide))) <| Za <| ZcK <| Zt (Zq (Zl h01 (by decide))) (Zbw c'.M.a c'.M.d rfl c'.M.p) <| IN hm97 <| Za <| Zax <| Za <| E_p (Zq (Zl h71 (by decide))) <| Za <| E_p (v:=.tup []) rfl <| Zj <| Zj <| ?_
   refine Zg9 (e:=((l,[]),0)) (Zt8 hm) c'.F hEK.1 hEK.2 <| Za <| Zdl <| E_p (Zq ZH) <| Zbg rfl <| E_p (v:=.int 2) rfl <| Zj <| ?_
   refine ZlJ (s:=2) (o58 hm) c' hy hlt (by decide) fun zs σ'' hz hs' hL'=>IN ZZ <| Zh <| kn _ _ ⟨Zl (Zl h01 (by decide)) (by decide),⟨zs,hz,ZH⟩,hs.trans hs',hL'⟩
  by_cases hl0:(0:Int) < (l:Int)
  ·rw [decide_eq_true hl0,if_pos rfl]
   refine Zd1 <| Zt (Zq h01) (Zbw c'.M.a c'.M.d rfl c'.M.b) <| IN Zn3 <| IN Zsw ?_
   rw [decide_eq_false (Zt9 hl0)]
   exact tail
  ·rw [decide_eq_false hl0,if_neg (by simp)]
   exact tail
 ·refine ZlP hI fun h0 hN0_1 hs L=>?_; obtain ⟨ys,hy,h52⟩:=hN0_1
  show ZJ TT0 (CC m) (_::_) _ _ _
  exact ZI <| E_p (Zq h52) <| k ys σ' hy hs L
theorem Zc9:∀ {es:List Ent} {K:List Pl},PK K->(∀ e ∈ es,Zad e ∈ uni)->PK (ZbE K es)/\(∃ L,ZbE K es=K++L)/\∀ e ∈ es,Zad e ∈ ZbE K es
 | [],K,P,h=>⟨P,⟨[],(List.append_nil _).symm⟩,fun e he=>by cases he⟩
 | e::es,K,P,h=>by
  have hu:=h e List.mem_cons_self
  refine ZU (ZmK P hu) fun L0 h0=>?_
  refine Zbp (Zc9 (es:=es) (P.note hu) fun x hx=>h x (List.mem_cons_of_mem _ hx)) fun h1 hN0_1 h3=>?_; obtain ⟨L1,h2⟩:=hN0_1
  have e1:ZbE K (e::es)=ZbE (Zaf K (Zad e)) es:=rfl
  rw [e1]
  refine ⟨h1,⟨L0++L1,by rw [h2,h0,List.append_assoc]⟩,fun x hx=>?_⟩
  rcases List.mem_cons.mp hx with rfl | hx
  ·rw [h2]
   exact List.mem_append_left _ (ZfN P hu)
  ·exact h3 x hx
theorem PK.loc:PK Zgc:=⟨by decide,by decide +kernel,by decide⟩
theorem Zia {a:Act} (h:Zhv a):∀ r ∈ Zf a,ZcL r.1/\Zad r.1 ∈ uni/\r.2<=3:=by
 have t:∀ e ∈ Zbe,ZcL e/\Zad e ∈ uni:=fun e he=>⟨.inl he,(Zdn (.inl he)).1⟩
 have t4:ZcL ((4,[]),0)/\Zad ((4,[]),0) ∈ uni:=⟨.inr ⟨4,rfl⟩,by decide⟩
 have t0:ZcL ((0,[]),0)/\Zad ((0,[]),0) ∈ uni:=⟨.inr ⟨0,rfl⟩,by decide⟩
 intro r hr
 rcases a with s | e
 ·cases s with
  | mv a b =>
   simp only [Zf,Zbu,List.mem_cons,List.not_mem_nil,or_false] at hr
   rcases hr with rfl | rfl
   ·exact ⟨(t _ h.1).1,(t _ h.1).2,by simp⟩
   ·exact ⟨(t _ h.2).1,(t _ h.2).2,by simp⟩
  | bin a b =>
   simp only [Zf,Zbu,List.mem_cons,List.not_mem_nil,or_false] at hr
   rcases hr with rfl | rfl | rfl
   ·exact ⟨(t _ h.1).1,(t _ h.1).2,by simp⟩
   ·exact ⟨(t _ h.2).1,(t _ h.2).2,by simp⟩
   ·exact ⟨t0.1,t0.2,by simp⟩
  | num a =>
   simp only [Zf,Zbu,List.mem_cons,List.not_mem_nil,or_false] at hr
   subst hr
   exact ⟨(t _ h).1,(t _ h).2,by simp⟩
  | cpy a =>
   simp only [Zf,Zbu,List.mem_cons,List.not_mem_nil,or_false] at hr
   subst hr
   exact ⟨t4.1,t4.2,by simp⟩
  | prt a =>
   simp only [Zf,Zbu,List.mem_cons,List.not_mem_nil,or_false] at hr
   subst hr
   exact ⟨(t _ h).1,(t _ h).2,by simp⟩
  | lv b l =>
   simp only [Zf,Zbu,List.mem_cons,List.not_mem_nil,or_false] at hr
   subst hr
   have hl:l < 5:=h
   refine ⟨.inr ⟨l,rfl⟩,?_,by simp⟩
   have:l=0\/l=1\/l=2\/l=3\/l=4:=o66 hl
   rcases this with rfl | rfl | rfl | rfl | rfl <;> decide
 ·obtain ⟨M,h⟩:=h
  cases e with
  | goto g=>cases hr
  | drop a g =>
   simp only [Zf,ZbO,List.mem_cons,List.not_mem_nil,or_false] at hr
   subst hr
   exact ⟨(t _ h.1).1,(t _ h.1).2,by simp⟩
  | call a b g =>
   simp only [Zf,ZbO,List.mem_cons,List.not_mem_nil,or_false] at hr
   rcases hr with rfl | rfl
   ·exact ⟨(t _ h.1).1,(t _ h.1).2,by simp⟩
   ·exact ⟨(t _ h.2.1).1,(t _ h.2.1).2,by simp⟩
  | ret=>cases hr
theorem Zlx {K:List Pl} (P:PK K) (hloc:∀ l,l < 5->(l,[]) ∈ K) {a:Act} (h:Zhv a):ZbE K ((Zf a).map (·.1))=ZbE K (ZcB a):=by
 rcases a with s | e
 ·cases s with
  | lv b l =>
   show Zaf K (l,[])=K
   exact Zci P (hloc l h)
  | _=>rfl
 ·cases e <;> rfl
theorem Zjc:∀ {as:List Act} {K:List Pl},PK K->(∀ l,l < 5->(l,[]) ∈ K)->(∀ a ∈ as,Zhv a)->ZbE K (as.flatMap fun a=>(Zf a).map (·.1))=ZbE K (as.flatMap ZcB)
 | [],K,P,hl,h=>rfl
 | a::as,K,P,hl,h=>by
  have ha:=h a List.mem_cons_self
  rw [List.flatMap_cons,List.flatMap_cons,Zcj,Zcj,Zlx P hl ha]
  have hu:∀ e ∈ ZcB a,Zad e ∈ uni:=by
   intro e he
   refine Or.elim (List.mem_append.mp he) (fun he=>?_) fun he=>?_
   ·refine Ze (List.mem_flatMap.mp he) fun o ho he=>?_
    have:=ZoN ha o ho
    rcases o with e' | x
    ·rw [show e=e' from by simpa [ZoM] using he]
     exact (Zdn (.inl this)).1
    ·cases he
   ·refine Or.elim (List.mem_append.mp he) (fun he=>?_) fun he=>?_
    ·exact (Zdn (ZqN ha e (by simpa using he))).1
    ·exact (Zdn (.inl (ZpS ha e (by simpa using he)))).1
  refine Zbp (Zc9 P hu) fun h1 hN0_1 _=>?_; obtain ⟨L,h2⟩:=hN0_1
  exact Zjc h1 (fun l h=>by rw [h2]; exact List.mem_append_left _ (hl l h)) fun x hx=>h x (List.mem_cons_of_mem _ hx)
theorem ZnF (l:Nat) (h:l < 5):(l,[]) ∈ Zgc:=by
 have:l=0\/l=1\/l=2\/l=3\/l=4:=o66 h
 rcases this with rfl | rfl | rfl | rfl | rfl <;> decide
noncomputable def ZkZ (bs:List Blk):List Pl:=ZbE Zgc ((Zn 0 bs).flatMap fun x=>(Zf x.2).map (·.1))
theorem ZfH {bs:List Blk} (hB:BodyOk bs):ZkZ bs=ZY bs:=by
 unfold ZkZ ZY
 have h1:(Zn 0 bs).flatMap (fun x:Pt × Act=>(Zf x.2).map (·.1))=((Zn 0 bs).map (·.2)).flatMap fun a=>(Zf a).map (·.1):=by rw [List.flatMap_map]
 have h2:(Zn 0 bs).flatMap (fun x:Pt × Act=>ZcB x.2)=((Zn 0 bs).map (·.2)).flatMap ZcB:=by rw [List.flatMap_map]
 rw [h1,h2]
 refine Zjc PK.loc ZnF fun a ha=>?_
 refine Ze (List.mem_map.mp ha) fun x hx eQ0_2=>?_; subst eQ0_2
 exact ZeY hB (Zbd hx)
theorem Zej {bs:List Blk} (hB:BodyOk bs):PK (ZY bs)/\(∀ l,l < 5->(l,[]) ∈ ZY bs)/\ZbI (ZY bs) bs:=by
 rw [<- ZfH hB]
 have hu:∀ e ∈ (Zn 0 bs).flatMap (fun x:Pt × Act=>(Zf x.2).map (·.1)),Zad e ∈ uni:=by
  intro e he
  refine Ze (List.mem_flatMap.mp he) fun x hx he=>?_
  refine Ze (List.mem_map.mp he) fun r hr eQ0_2=>?_; subst eQ0_2
  exact (Zia (ZeY hB (Zbd hx)) r hr).2.1
 refine Zbp (Zc9 PK.loc hu) fun h1 hN0_1 h3=>?_; obtain ⟨L,h2⟩:=hN0_1
 refine ⟨h1,fun l hl=>?_,fun x hx r hr=>?_⟩
 ·unfold ZkZ
  rw [h2]
  exact List.mem_append_left _ (ZnF l hl)
 ·have:=Zia (ZeY hB (Zbd hx)) r hr
  exact ⟨⟨this.1,h3 _ (List.mem_flatMap.mpr ⟨x,hx,List.mem_map.mpr ⟨r,hr,rfl⟩⟩)⟩,this.2.2⟩
theorem Zn0 {bs:List Blk} {p:Pt} {a a':Act} (h:ZeP bs p a) (h':ZeP bs p a'):a=a':=by
 refine Ze h fun B hB h=>?_
 refine Ze h' fun B' hB' h'=>?_
 rw [hB] at hB'
 injection hB' with hB'
 subst hB'
 rcases h with ⟨s,hs,rfl⟩ | ⟨h1,rfl⟩ <;> rcases h' with ⟨s',hs',rfl⟩ | ⟨h1',rfl⟩
 ·rw [hs] at hs'
  injection hs' with hs'
  rw [hs']
 ·have:=ZR hs
  exact False.elim (o67 h1' this)
 ·have:=ZR hs'
  exact False.elim (o67 h1 this)
 ·rfl
theorem Zm7 {p q:Pt} (h:ZaO p=ZaO q):p=q:=by
 injection h with h
 injection h with h1 h2
 injection h1 with h1
 injection h2 with h2
 injection h2 with h2
 exact Prod.ext (by exact_mod_cast h1) (by exact_mod_cast h2)
theorem Zco {bs:List Blk} (hB:BodyOk bs):(Zn 0 bs).length<=12:=by
 rw [ZjN]
 exact Nat.le_trans (Zf1 hB.ok) (Nat.mul_le_mul_left 4 hB.few)
theorem Fix.ne {g:PS} {kr:List Addr} {K:List Pl} {σ:St} (F:Fix g kr K σ) {y:Addr} (hy:own g kr y):σ y ≠ none:=by
 rcases hy with h | h | h | h | h | h | h
 ·rw [h,F.p.a]; simp
 ·rw [h,F.p.d]; simp
 ·rw [h,F.pl]; simp
 ·refine Ze F.pa fun _ _ h'=>?_
  rw [h,h']; simp
 ·rw [h,F.ki]; simp
 ·rw [h,F.nu]; simp
 ·refine ZU (List.mem_iff_getElem?.mp h) fun i hi=>?_
  rw [F.kid i _ hi]; simp
theorem ZoG {n:Nat} (hn:8<=n) {bs:List Blk} {sp:Addr} (hB:BodyOk bs) {σ:St} {Q:LV->St->Prop}
  (k:∀ g kr mv md dn fs σ',g.bs=bs->g.sp=sp->Sx g kr (ZY bs) mv md dn fs σ'->Zw Zr σ σ'->(∀ x,own g kr x\/x=g.lo->σ x=none)->Q (.ref mv) σ'):Zeb TT0 (CC n) (.cls 2) [BDY bs sp,.none] Q σ:=by
 obtain ⟨m,rfl,hm⟩:=lvl hn
 obtain ⟨hPK,hloc,hR⟩:=Zej hB
 refine IN rfl fun a d ha hd had=>?_
 refine Zd (fd:=f26) rfl rfl ?_
 have a1:(upd (upd σ d (some (.ns []))) a (some (.inst 2 d))) a=some (.inst 2 d):=Zb ..
 have d1:(upd (upd σ d (some (.ns []))) a (some (.inst 2 d))) d=some (.ns []):=by rw [Zc _ _ had.symm,Zb]
 have s1:Zw Zr σ (upd (upd σ d (some (.ns []))) a (some (.inst 2 d))):=(Zw.refl _ _ |>.upn hd).upn ha
 refine ZaB <| E_p rfl <| E_p rfl <| Zab a1 d1 rfl (show (0:Nat)<=1000 by decide) ?_
 have s2:Zw Zr σ (upd (upd (upd σ d (some (.ns []))) a (some (.inst 2 d))) d (some (.ns (Zm [] 9 (BDY bs sp))))):=s1.upn hd
 have a2:(upd (upd (upd σ d (some (.ns []))) a (some (.inst 2 d))) d (some (.ns (Zm [] 9 (BDY bs sp))))) a=some (.inst 2 d):=(Zc _ _ had).trans a1
 have d2:(upd (upd (upd σ d (some (.ns []))) a (some (.inst 2 d))) d (some (.ns (Zm [] 9 (BDY bs sp))))) d=some (.ns [(9,BDY bs sp)]):=Zb ..
 generalize upd (upd (upd σ d (some (.ns []))) a (some (.inst 2 d))) d (some (.ns (Zm [] 9 (BDY bs sp))))=σ2 at s2 a2 d2
 refine ZaB <| ZcJ rfl <| Za <| E_p rfl <| Za <| E_p rfl <| Zj <| Zla (Zua hm) hB fun g kr0 σ3 hgb hgs F3 P3 L3 s3 hnew=>?_
 subst hgb hgs
 have a3:=s3.some a2 fun h=>h
 have d3:=s3.some d2 fun h=>h
 have ho:∀ x,own g kr0 x\/x=g.lo->x ≠ d:=fun x hx e=>by
  have:=hnew x hx
  rw [e,d2] at this; exact ns2 this
 have hoa:∀ x,own g kr0 x\/x=g.lo->x ≠ a:=fun x hx e=>by
  have:=hnew x hx
  rw [e,a2] at this; exact ns2 this
 refine E_p rfl <| Zab a3 d3 rfl (show (1:Nat)<=1000 by decide) ?_
 have s4:Zw (only d) σ3 (upd σ3 d (some (.ns (Zm [(9,BDY g.bs g.sp)] 88 (.ref g.a))))):=Zw.upd rfl
 have a4:=s4.some a3 had
 have d4:(upd σ3 d (some (.ns (Zm [(9,BDY g.bs g.sp)] 88 (.ref g.a))))) d=some (.ns [(9,BDY g.bs g.sp),(88,.ref g.a)]):=Zb ..
 have F4:=F3.same s4 fun x hx=>ho x (.inl hx)
 have L4:=L3.same s4 (ho _ (.inr rfl))
 have t4:Zw Zr σ (upd σ3 d (some (.ns (Zm [(9,BDY g.bs g.sp)] 88 (.ref g.a))))):=(s2.trans s3).upn hd
 generalize upd σ3 d (some (.ns (Zm [(9,BDY g.bs g.sp)] 88 (.ref g.a))))=σ4 at s4 a4 d4 F4 L4 t4
 refine ZaB <| Zd2 fun dn hdn=>E_p rfl <| Zab (Zas a4 (Zu a4 hdn)) (Zas d4 (Zu d4 hdn)) rfl (show (2:Nat)<=1000 by decide) ?_
 have hdd:dn ≠ d:=(Zu d4 hdn).symm
 have hda:dn ≠ a:=(Zu a4 hdn).symm
 have s5:Zw (only d) σ4 (upd (upd σ4 dn (some (.dict []))) d (some (.ns (Zm [(9,BDY g.bs g.sp),(88,.ref g.a)] 89 (.ref dn))))):=(Zw.new hdn).trans (Zw.upd rfl)
 have a5:=s5.some a4 had
 have d5:(upd (upd σ4 dn (some (.dict []))) d (some (.ns (Zm [(9,BDY g.bs g.sp),(88,.ref g.a)] 89 (.ref dn))))) d=some (.ns [(9,BDY g.bs g.sp),(88,.ref g.a),(89,.ref dn)]):=Zb ..
 have n5:(upd (upd σ4 dn (some (.dict []))) d (some (.ns (Zm [(9,BDY g.bs g.sp),(88,.ref g.a)] 89 (.ref dn))))) dn=some (.dict []):=(Zc _ _ hdd).trans (Zb ..)
 have F5:=F4.same s5 fun x hx=>ho x (.inl hx)
 have L5:=L4.same s5 (ho _ (.inr rfl))
 have t5:Zw Zr σ (upd (upd σ4 dn (some (.dict []))) d (some (.ns (Zm [(9,BDY g.bs g.sp),(88,.ref g.a)] 89 (.ref dn))))):=by
  intro x hx hn
  have e4:=t4 x hx hn
  rw [Zc _ _ (fun e=>hx (by rw [e,hd])),Zc _ _ (fun e=>hx (by rw [<- e4,e,hdn])),e4]
 generalize upd (upd σ4 dn (some (.dict []))) d (some (.ns (Zm [(9,BDY g.bs g.sp),(88,.ref g.a)] 89 (.ref dn))))=σ5 at s5 a5 d5 n5 F5 L5 t5
 have hKl:(ZY g.bs).length<=1000:=by have:=hPK.len; exact o9 this
 refine ZO <| ZD rfl <| Za <| E_p rfl <| Zj <| ZeC (o34 hm) (ZaC hB) fun σ6 s6=>?_
 refine IN (a:=(Zn 0 g.bs).map fun x=>ZaO x.1) rfl ?_
 have old6:∀ x,σ5 x ≠ none->σ6 x=σ5 x:=fun x hx=>s6 x hx fun h=>h
 have hsp:=Zco hB
 refine ZgG (fun x:Pt × Act=>ZaO x.1) (Zn 0 g.bs) (fun (done:List (Pt × Act)) ρ σ'=>(Zo ρ 0=some (.ref a)/\Zo ρ 9=some (BDY g.bs g.sp))/\Zw (only dn) σ5 σ'/\∃ es,σ' dn=some (.dict es)/\es.length<=done.length/\∀ x ∈ done,Zdt (ZaO x.1) es=some (.lst (Zb9 (ZY g.bs) (Zf x.2)))) (fun done (x:Pt × Act) rest ρ σ' Kk hall hI kn kr=>?_) (fun ρ σ' hI=>?_) _ [] _ σ6 rfl ⟨⟨rfl,rfl⟩,s6.weaken fun _ h=>h.elim,[],s6.some n5 (fun h=>h),Nat.le_refl _,fun x hx=>by cases hx⟩
 ·obtain ⟨⟨h0,h9⟩,hs,es,hes,hel,hed⟩:=hI
  have hx:x ∈ Zn 0 g.bs:=by rw [hall]; simp
  have hdl:done.length<=12:=by
   have:=congrArg List.length hall
   rw [List.length_append] at this
   exact o68 hsp this
  have nod:∀ y,own g kr0 y->¬ only dn y:=fun y hy e=>F4.ne hy (by rw [show y=dn from e]; exact hdn)
  have F':=F5.same hs nod
  have M':Mv g a d [(9,BDY g.bs g.sp),(88,.ref g.a),(89,.ref dn)] σ':=⟨hs.some a5 hda.symm,hs.some d5 hdd.symm,rfl,rfl,rfl,rfl,rfl,rfl,rfl⟩
  have hm90:Zao TT0 σ' (.ref a) 90=some 30:=Zem M'.a M'.d rfl M'.n.2.2.2.1
  refine IN ZZ <| ZeX <| ZaT (Zq (Zl h0 (by decide))) hm90 <| Za <| E_p (Zq ZH) <| Zj <| Zis hm F' hKl M' hB (Zbd hx) (fun r hr=>(hR x hx r hr).1) fun σ'' hs'=>?_
  have hes':=hs'.some hes fun h=>h
  have M'':=M'.same hs' (fun h=>h) fun h=>h
  refine Zt (Zq (Zl h0 (by decide))) (Zbw M''.a M''.d rfl rfl) <| E_p (Zq ZH) <| Zlu hes' (Zii _) (Zub hel hdl) <| Zh <| kn _ _ ?_
  have hpl:=ZfY es (ZaO x.1) (.lst (Zb9 (ZY g.bs) (Zf x.2)))
  refine ⟨⟨Zl h0 (by decide),Zl h9 (by decide)⟩,(hs.trans (hs'.weaken fun _ h=>h.elim)).trans (Zw.upd rfl),_,Zb ..,by rw [List.length_append,List.length_singleton]; exact Zuc hel hpl,fun y hy=>?_⟩
  rw [ZgZ]
  have hyall:y ∈ Zn 0 g.bs:=by
   rw [hall]
   rcases List.mem_append.mp hy with h | h
   ·exact List.mem_append_left _ h
   ·rw [List.mem_singleton.mp h]; simp
  by_cases e:ZaO y.1=ZaO x.1
  ·rw [if_pos e]
   have h1:=Zbd hyall
   rw [Zm7 e] at h1
   rw [Zn0 h1 (Zbd hx)]
  ·rw [if_neg e]
   rcases List.mem_append.mp hy with h | h
   ·exact hed y h
   ·exact absurd (by rw [List.mem_singleton.mp h]) e
 ·obtain ⟨⟨h0,h9⟩,hs,es,hes,hel,hed⟩:=hI
  have nod:∀ y,(own g kr0 y\/y=g.lo)->¬ only dn y:=fun y hy e=>by
   have e':y=dn:=e
   rcases hy with hy | h
   ·exact F4.ne hy (by rw [e']; exact hdn)
   ·obtain ⟨lo,h1,h2⟩:=L4
    rw [<- h,e',hdn] at h1; exact nos h1
  have F':=F5.same hs fun y hy=>nod y (.inl hy)
  have L':=L5.same hs (nod _ (.inr rfl))
  have M':Mv g a d [(9,BDY g.bs g.sp),(88,.ref g.a),(89,.ref dn)] σ':=⟨hs.some a5 hda.symm,hs.some d5 hdd.symm,rfl,rfl,rfl,rfl,rfl,rfl,rfl⟩
  have C':Cx g kr0 (ZY g.bs) a d [(9,BDY g.bs g.sp),(88,.ref g.a),(89,.ref dn)] σ':=⟨F',hPK,L',M'⟩
  have S':Sx g kr0 (ZY g.bs) a d dn [(9,BDY g.bs g.sp),(88,.ref g.a),(89,.ref dn)] σ':=⟨C',rfl,es,hes,hed⟩
  have hm93:Zao TT0 σ' (.ref a) 93=some 27:=Zem M'.a M'.d rfl M'.n.1
  have t':Zw Zr σ σ':=by
   intro x hx hn
   have e5:=t5 x hx hn
   rw [hs x (by rw [e5]; exact hx) (fun e=>?_),e5]
   have e':x=dn:=e
   exact hx (by rw [<- t4 x hx hn,e',hdn])
  have hall0:∀ x,own g kr0 x\/x=g.lo->σ x=none:=fun x hx=>by
   apply Classical.byContradiction
   intro h
   have:=hnew x hx
   rw [s2 _ h fun z=>z] at this
   exact h this
  have hlo0:σ g.lo=none:=hall0 _ (.inr rfl)
  show ZJ TT0 (CC m) (_::_) _ _ _
  refine ZaB <| ZD rfl <| Za <| E_p (Zq h9) <| Za <| ZD rfl <| Za <| E_p (Zq h9) <| Za <| ZaT (Zq h0) hm93 <| Zj <| Zl6 hm C' hloc fun ys σ7 hy s7 L7=>?_
  have S7:=S'.go s7 L7
  refine Za <| Zt (Zq h0) (ZrW S7.c.M.a S7.c.M.d rfl rfl) <| Za <| E_p rfl <| Zj <| Znh (Zud hm) S7 hR hB hy fun vals σ8 hvl hvo s8 L8=>?_
  have S8:=S7.go s8 L8
  refine Za <| Zt (Zq h0) (ZrW S8.c.M.a S8.c.M.d rfl rfl) <| Zj <| Zmn (Zue hm) S8 hR hB hvl hvo fun v σ9 s9 L9=>?_
  have S9:=S8.go s9 L9
  refine E_p (Zq h0) <| Zab S9.c.M.a S9.c.M.d rfl (show (3:Nat)<=1000 by decide) <| Zh ⟨rfl,?_⟩
  have s10:Zw (only d) σ9 (upd σ9 d (some (.ns (Zm [(9,BDY g.bs g.sp),(88,.ref g.a),(89,.ref dn)] 52 v)))):=Zw.upd rfl
  refine k g kr0 a d dn _ _ rfl rfl ⟨⟨S9.c.F.same s10 fun x hx=>ho x (.inl hx),hPK,S9.c.L.same s10 (ho _ (.inr rfl)),⟨s10.some S9.c.M.a had,Zb ..,rfl,rfl,rfl,rfl,rfl,rfl,rfl⟩⟩,rfl,?_⟩ ?_ hall0
  ·obtain ⟨_,es9,h9',h9''⟩:=S9.D
   exact ⟨es9,s10.some h9' hdd,h9''⟩
  ·intro x hx hn
   have hxlo:x ≠ g.lo:=fun e=>hx (by rw [e,hlo0])
   rw [Zc _ _ (fun e=>hx (by rw [e,hd]))]
   have e':=t' x hx hn
   have e7:=s7 x (by rw [e']; exact hx) hxlo
   have e8:=s8 x (by rw [e7,e']; exact hx) hxlo
   rw [s9 x (by rw [e8,e7,e']; exact hx) hxlo,e8,e7,e']
structure Kx (g:PS) (kr:List Addr) (K:List Pl) (mv md dn:Addr) (fs:Env) (ck cd:Addr) (σ:St):Prop where
 S:Sx g kr K mv md dn fs σ
 a:σ ck=some (.inst 3 cd)
 d:σ cd=some (.ns [(9,BDY g.bs g.sp),(24,.none),(113,.ref mv),(10,.lst [])])
theorem Kx.go {g:PS} {kr:List Addr} {K:List Pl} {mv md dn ck cd:Addr} {fs:Env} {σ σ':St} (x:Kx g kr K mv md dn fs ck cd σ) (s:Zw (only g.lo) σ σ') (L:ZN g K σ'):Kx g kr K mv md dn fs ck cd σ':=by
 refine Ze x.S.c.L fun lo h1 _=>?_
 exact ⟨x.S.go s L,s.some x.a (ZQ x.a h1 (by simp)),s.some x.d (ZQ x.d h1 (by simp))⟩
theorem Kx.same {g:PS} {kr:List Addr} {K:List Pl} {mv md dn ck cd:Addr} {fs:Env} {σ σ':St} (x:Kx g kr K mv md dn fs ck cd σ) (s:Zw Zr σ σ'):Kx g kr K mv md dn fs ck cd σ' :=
 ⟨x.S.same s,s.some x.a fun h=>h,s.some x.d fun h=>h⟩
theorem Zg5 {n:Nat} (hn:9<=n) {bs:List Blk} {sp:Addr} (hB:BodyOk bs) {σ:St} {Q:LV->St->Prop}
  (k:∀ g kr mv md dn fs ck cd σ',g.bs=bs->g.sp=sp->Kx g kr (ZY bs) mv md dn fs ck cd σ'->Zw Zr σ σ'->(∀ x,own g kr x\/x=g.lo->σ x=none)->Q (.ref ck) σ'):Zeb TT0 (CC n) (.cls 3) [BDY bs sp,.none] Q σ:=by
 refine Ze (lvl hn) fun m eQ0_1 hm=>?_; subst eQ0_1
 refine IN rfl fun a d ha hd had=>?_
 refine Zd (fd:=f32) rfl rfl ?_
 have a1:(upd (upd σ d (some (.ns []))) a (some (.inst 3 d))) a=some (.inst 3 d):=Zb ..
 have d1:(upd (upd σ d (some (.ns []))) a (some (.inst 3 d))) d=some (.ns []):=by rw [Zc _ _ had.symm,Zb]
 have s1:Zw Zr σ (upd (upd σ d (some (.ns []))) a (some (.inst 3 d))):=(Zw.refl _ _ |>.upn hd).upn ha
 refine ZaB <| E_p rfl <| E_p rfl <| Zab a1 d1 rfl (show (0:Nat)<=1000 by decide) ?_
 refine ZaB <| E_p rfl <| E_p rfl <| Zab ((Zc _ _ had).trans a1) (Zb ..) rfl (show (1:Nat)<=1000 by decide) ?_
 have s2:=(s1.upn hd (o:=some (.ns (Zm [] 9 (BDY bs sp))))).upn hd (o:=some (.ns (Zm (Zm [] 9 (BDY bs sp)) 24 .none)))
 have a2:(upd (upd (upd (upd σ d (some (.ns []))) a (some (.inst 3 d))) d (some (.ns (Zm [] 9 (BDY bs sp))))) d (some (.ns (Zm (Zm [] 9 (BDY bs sp)) 24 .none)))) a=some (.inst 3 d):=(Zc _ _ had).trans ((Zc _ _ had).trans a1)
 have d2:(upd (upd (upd (upd σ d (some (.ns []))) a (some (.inst 3 d))) d (some (.ns (Zm [] 9 (BDY bs sp))))) d (some (.ns (Zm (Zm [] 9 (BDY bs sp)) 24 .none)))) d=some (.ns [(9,BDY bs sp),(24,.none)]):=Zb ..
 generalize upd (upd (upd (upd σ d (some (.ns []))) a (some (.inst 3 d))) d (some (.ns (Zm [] 9 (BDY bs sp))))) d (some (.ns (Zm (Zm [] 9 (BDY bs sp)) 24 .none)))=σ2 at s2 a2 d2
 refine ZaB <| ZcJ rfl <| Za <| E_p rfl <| Za <| E_p rfl <| Zj <| ZoG hm hB fun g kr mv md dn fs σ3 hgb hgs S3 s3 hlo=>?_
 subst hgb hgs
 have a3:=s3.some a2 fun h=>h
 have d3:=s3.some d2 fun h=>h
 refine E_p rfl <| Zab a3 d3 rfl (show (2:Nat)<=1000 by decide) ?_
 refine ZaB <| E_p rfl <| E_p rfl <| Zab ((Zc _ _ had).trans a3) (Zb ..) rfl (show (3:Nat)<=1000 by decide) <| Zh ⟨rfl,?_⟩
 rw [ZeO]
 have s4:Zw (only d) σ3 (upd σ3 d (some (.ns (Zm (Zm [(9,BDY g.bs g.sp),(24,.none)] 113 (.ref mv)) 10 (.lst []))))):=Zw.upd rfl
 have nd:∀ {x:Addr} {o:LO},σ3 x=some o->o ≠ .ns [(9,BDY g.bs g.sp),(24,.none)]->¬ only d x:=fun {x o} h hne e=>ZQ h d3 hne e
 have c:=S3.c
 have F4:=c.F.same s4 fun x hx e=>by
  have e':x=d:=e
  rcases hx with h | h | h
  ·rw [e'] at h; exact ZQ c.F.p.a d3 (by simp) h.symm
  ·rw [e'] at h; exact ZQ c.F.p.d d3 (by simp) h.symm
  ·rcases h with h | h | h | h | h
   ·rw [e'] at h; exact ZQ c.F.pl d3 (by simp) h.symm
   ·refine Ze c.F.pa fun _ _ h'=>?_
    rw [e'] at h; exact ZQ h' d3 (by simp) h.symm
   ·rw [e'] at h; exact ZQ c.F.ki d3 (by simp) h.symm
   ·rw [e'] at h; exact ZQ c.F.nu d3 (by simp) h.symm
   ·refine ZU (List.mem_iff_getElem?.mp h) fun i hi=>?_
    exact ZQ (c.F.kid i _ hi) d3 (by simp) e'
 refine Ze c.L fun lo hl1 hl2=>?_
 have hmd:md ≠ d:=fun e=>by
  have h1:=c.M.d
  rw [e,d3] at h1
  injection h1 with h1
  injection h1 with h1
  have:=c.M.p
  rw [<- h1] at this
  exact nos this
 refine ZL S3.D fun hd1 hR0=>?_; refine Ze hR0 fun es hd2 hd3=>?_
 refine k g kr mv md dn fs a d _ rfl rfl ⟨⟨⟨F4,c.P,⟨lo,s4.some hl1 (nd hl1 (by simp)),hl2⟩,c.M.same s4 (nd c.M.a (by simp)) hmd⟩,hd1,es,s4.some hd2 (nd hd2 (by simp)),hd3⟩,s4.some a3 had,Zb ..⟩ ((s2.trans s3).upn hd) ?_
 intro x hx
 apply Classical.byContradiction
 intro h
 have hlo:=hlo x hx
 rw [s2 _ h fun z=>z] at hlo
 exact h hlo
theorem Zec {α:Type} {C:Cal} {t:Tg} {elt te:LE} {ρc:Env} {Q:List LV->St->Prop} (f h:α->LV) (c:α->Bool) (J:St->Prop) {xs:List α} {σ:St} (hJ:J σ)
  (step:∀ x ∈ xs,∃ ρx,Z0 t (f x) ρc=some ρx/\evp TT0 ρx elt=some (h x)/\∀ σ' (K:LV->St->Prop),J σ'->(∀ σ'',J σ''->K (.bool (c x)) σ'')->wpE TT0 C te ρx K σ')
  (fin:∀ σ',J σ'->Q ((xs.filter c).map h) σ'):ZaH (fun x K σ₂=>ZC (Z0 t x ρc) fun ρx=>wpC TT0 C (some te) ρx (fun b σ₃=>match b with
   | true=>wpE TT0 C elt ρx (fun u σ₄=>K [u] σ₄) σ₃
   | false=>K [] σ₃) σ₂) (xs.map f) [] Q σ:=by
 refine ZcC f xs (fun done acc σ'=>acc=(done.filter c).map h/\J σ') (fun done x rest acc σ' K hall hI kn=>?_) (fun acc σ' hI=>?_) xs [] [] σ rfl ⟨rfl,hJ⟩
 ·obtain ⟨rfl,hJ'⟩:=hI
  obtain ⟨ρx,h1,h2,h3⟩:=step x (by rw [hall]; simp)
  refine IN h1 ?_
  rw [WC1]
  refine h3 σ' _ hJ' fun σ'' hJ''=>?_
  cases hc:c x with
  | true=>exact E_p h2 <| kn _ _ ⟨by rw [List.filter_append,List.map_append,List.filter_cons,hc]; rfl,hJ''⟩
  | false=>exact kn _ _ ⟨by rw [List.filter_append,List.filter_cons,hc]; simp,hJ''⟩
 ·obtain ⟨rfl,hJ'⟩:=hI
  exact fin σ' hJ'
open Classical in
noncomputable def ZgN (K:List Pl) (nums:List Nat) (st:Nat) (r:Row):Bool:=decide ((r.2=st\/(r.2=3/\st=1))/\∃ i ∈ nums,ZeR K (idx K r.1.1) i)
noncomputable def Zbc (K:List Pl) (nums:List Nat) (st:Nat) (p:Pt) (rs:List Row):List LV:=(rs.filter (ZgN K nums st)).map fun _=>ZaO p
noncomputable def ZbS (K:List Pl) (nums:List Nat) (st:Nat) (sps:List (Pt × Act)):List LV:=sps.flatMap fun x=>Zbc K nums st x.1 (Zai (Zf x.2))
open Classical in
theorem Zoo {σ:St} {xs ys:List LV} (h1:ZA xs=true) (h2:ZA ys=true) {c:Bool} (h:c=true ↔ xs ≠ ys):ZbN .NotEq σ (.lst xs) (.lst ys)=some c:=by
 show (eqL σ (.lst xs) (.lst ys)).map (!·)=_
 show (eqK σ (.lst xs) (.lst ys)).map (!·)=_
 unfold eqK
 rw [if_neg (by exact fun h=>nob h),o_l,o_l]
 show (if (ZA xs&&ZA ys)=true then some (decide (xs=ys)) else none).map _=_
 rw [h1,h2,if_pos (by rfl)]
 cases c with
 | true=>simp [h.mp rfl]
 | false =>
  have:xs=ys:=Classical.byContradiction fun e=>by have:=h.mpr e; exact nob this
  simp [this]
open Classical in
theorem Zrj {σ:St} {a:LV} {vs:List LV} (ha:Zak a=true) (hv:ZA vs=true) {c:Bool} (h:c=true ↔ a ∈ vs):ZbN .In σ a (.lst vs)=some c:=by
 show inL σ a (.lst vs)=some c
 refine Zl4 ?_
 show (if (Zak a&&ZA vs)=true then some (decide (a ∈ vs)) else none)=_
 rw [ha,hv]
 refine (if_pos rfl).trans ?_
 have hn:c=false->¬ a ∈ vs:=fun hc e=>by
  have:=h.mpr e
  rw [hc] at this
  exact nob this
 cases c with
 | true=>simpa using h.mp rfl
 | false=>simpa using hn rfl
theorem Zp5 {σ:St} {js:List Nat} {i:Nat}:ZbN .In σ (.int (i:Int)) (.lst (nL js))=some (decide (i ∈ js)):=by
 refine Zrj rfl (Zei js) ?_
 rw [decide_eq_true_iff]
 unfold nL
 rw [List.mem_map]
 constructor
 ·intro h
  exact ⟨i,h,rfl⟩
 ·rintro ⟨j,hj,e⟩
  injection e with e
  have:j=i:=by exact_mod_cast e
  rw [<- this]; exact hj
structure EnvM (ck b:Addr) (nums:List Nat) (st:Nat) (p:Pt) (ρ:Env):Prop where
 h0:Zo ρ 0=some (.ref ck)
 h69:Zo ρ 69=some (.lst (nL nums))
 h100:Zo ρ 100=some (.int (st:Int))
 h10:Zo ρ 10=some (.ref b)
 h45:Zo ρ 45=some (ZaO p)
theorem EnvM.set {ck b:Addr} {nums:List Nat} {st:Nat} {p:Pt} {ρ:Env} (h:EnvM ck b nums st p ρ) {x:Nat} {v:LV} (h0:0 ≠ x) (h69:69 ≠ x) (h100:100 ≠ x) (h10:10 ≠ x) (h45:45 ≠ x):EnvM ck b nums st p (Zm ρ x v):=⟨Zl h.h0 h0,Zl h.h69 h69,Zl h.h100 h100,Zl h.h10 h10,Zl h.h45 h45⟩
theorem ZrN {C:Cal} {ρ:Env} {σ:St} {s st:Nat} (h16:Zo ρ 16=some (.int (s:Int))) (h100:Zo ρ 100=some (.int (st:Int))) {Q:LV->St->Prop} (k:Q (.bool (decide (s=st\/(s=3/\st=1)))) σ) :
  wpE TT0 C (.bool false (.cmp .Eq (.v 16) (.v 100)) (.bool true (.cmp .Eq (.v 16) (.g 102)) (.cmp .Eq (.v 100) (.g 106)))) ρ Q σ:=by
 have hg2:evp TT0 ρ (.g 102)=some (.int 3):=rfl
 have hg6:evp TT0 ρ (.g 106)=some (.int 1):=rfl
 refine ZaP <| ZF <| E_p (Zq h16) <| E_p (Zq h100) <| IN ZlR ?_
 by_cases h1:s=st
 ·rw [decide_eq_true (by rw [h1])]
  rw [decide_eq_true (.inl h1)] at k
  exact ZdP rfl k
 ·rw [decide_eq_false (o35 h1)]
  refine ZbL rfl <| ZaP <| ZF <| E_p (Zq h16) <| E_p hg2 <| IN ZlR ?_
  by_cases h3:s=3
  ·rw [decide_eq_true (by rw [h3]; rfl)]
   refine ZbL rfl <| ZF <| E_p (Zq h100) <| E_p hg6 <| IN ZlR ?_
   by_cases h5:st=1
   ·rw [decide_eq_true (.inr ⟨h3,h5⟩)] at k
    rw [decide_eq_true (by rw [h5]; rfl)]
    exact k
   ·rw [decide_eq_false (Zuf h1 h5)] at k
    rw [decide_eq_false (Zug h5)]
    exact k
  ·rw [decide_eq_false (Zuh h1 h3)] at k
   rw [decide_eq_false (Zui h3)]
   exact ZdP rfl k
noncomputable def ZoF:List LS:=[.asg (.nm 114) (.bool false (.cmp .Eq (.v 16) (.v 100)) (.bool true (.cmp .Eq (.v 16) (.g 102)) (.cmp .Eq (.v 100) (.g 106)))),.ifs (.bool true (.v 114) (.cmp .NotEq (.comp false [81,0] (.v 50) (.nm 50) (.v 69) (some (.cmp .In (.v 50) (.meth (.attr (.attr (.v 0) 113) 88) 101 [(.v 81)])))) (.lst []))) [.expr (.lm (.v 10) .append [(.v 45)])] []]
section
variable {m:Nat} {g:PS} {kr:List Addr} {K:List Pl} {mv md dn ck cd:Addr} {fs:Env} {σ₀ σ:St} {b:Addr} {nums:List Nat} {st:Nat} {p:Pt} {ρ:Env}
open Classical in
theorem Zqk (hm:1<=m) (X:Kx g kr K mv md dn fs ck cd σ₀) (hb0:σ₀ b=none) (hs:Zw (only g.lo) σ₀ σ) (L:ZN g K σ) (hnl:nums.length<=100) (E:EnvM ck b nums st p ρ) {r:Row} (hr:Zad r.1 ∈ K) (hex:r.1.2=r.1.1.2.length) (h81:Zo ρ 81=some (.int ((idx K r.1.1:Nat):Int))) (h16:Zo ρ 16=some (.int (r.2:Int))) {acc:List LV} (hacc:σ b=some (.list acc)) (hal:acc.length<=1000) {Q:Fl->Env->St->Prop}
  (k:∀ ρ' σ',EnvM ck b nums st p ρ'->Zw (only g.lo) σ₀ σ'->ZN g K σ'->σ' b=some (.list (acc++Zbc K nums st p [r]))->Q .next ρ' σ'):ZJ TT0 (CC m) ZoF ρ Q σ:=by
 have hce:Zad r.1=r.1.1:=by unfold Zad; rw [hex,List.take_length]
 have hi:idx K r.1.1 < K.length:=ZiH (hce ▸ hr)
 refine Zk <| ZrN h16 E.h100 <| IN ZZ ?_
 generalize hso:decide (r.2=st\/(r.2=3/\st=1))=so
 have E1:EnvM ck b nums st p (Zm ρ 114 (.bool so)):=E.set (by decide) (by decide) (by decide) (by decide) (by decide)
 have h81':Zo (Zm ρ 114 (.bool so)) 81=some (.int ((idx K r.1.1:Nat):Int)):=Zl h81 (by decide)
 have h114:Zo (Zm ρ 114 (.bool so)) 114=some (.bool so):=ZH
 generalize Zm ρ 114 (.bool so)=ρ1 at E1 h81' h114
 cases so with
 | false =>
  have hno:Zbc K nums st p [r]=[]:=by
   have:ZgN K nums st r=false:=by
    unfold ZgN
    rw [decide_eq_false]
    exact fun h=>of_decide_eq_false hso h.1
   unfold Zbc
   rw [List.filter_cons,this]
   rfl
  rw [hno,List.append_nil] at k
  exact Zb6 <| ZaP <| E_p (Zq h114) <| ZdP rfl <| Zbg rfl <| Zh <| Zh <| k ρ1 σ E1 hs L hacc
 | true =>
  have hso':=of_decide_eq_true hso
  refine Zb6 <| ZaP <| E_p (Zq h114) <| ZbL rfl <| ZF <| ZaY <| E_p (Zq E1.h69) <| IN rfl ?_
  have hfv:ZcO [81,0] ρ1=some [(81,.int ((idx K r.1.1:Nat):Int)),(0,.ref ck)]:=by
   rw [ZfA]
   rw [h81']
   rw [ZfA]
   rw [E1.h0]
   rfl
  refine IN hfv ⟨by rw [Zcf]; exact o21 hnl,?_⟩
  have dec:∀ js:List Nat,Zd0 K (idx K r.1.1) js->∀ x:Nat,decide (x ∈ js)=@decide (ZeR K (idx K r.1.1) x) (Classical.propDecidable _):=fun js B x=>by
   by_cases h:ZeR K (idx K r.1.1) x
   ·rw [decide_eq_true h,decide_eq_true ((B.1 x).mpr h)]
   ·rw [decide_eq_false h,decide_eq_false (fun h'=>h ((B.1 x).mp h'))]
  refine Zec (fun (j:Nat)=>LV.int (j:Int)) (fun (j:Nat)=>LV.int (j:Int)) (fun x=>@decide (ZeR K (idx K r.1.1) x) (Classical.propDecidable _)) (fun σ'=>Zw (only g.lo) σ₀ σ'/\ZN g K σ'/\σ' b=some (.list acc)) ⟨hs,L,hacc⟩ (fun x hx=>⟨_,rfl,rfl,fun σ' Kk hJ kk=>?_⟩) (fun σ' hJ=>?_)
  ·refine Zbp hJ fun hs' L' ha'=>?_
   have X':=X.go hs' L'
   have hm101:Zao TT0 σ' (.ref g.a) 101=some 25:=Zem X'.S.c.F.p.a X'.S.c.F.p.d rfl rfl
   refine ZF <| E_p rfl <| ZcK <| Zd1 <| Zt rfl (Zbw X'.a X'.d rfl rfl) <| IN (Zbw X'.S.c.M.a X'.S.c.M.d rfl X'.S.c.M.p) <| IN hm101 <| Za <| E_p rfl <| Zj <| Zin hm X'.S.c.F X'.S.c.P X'.S.c.L hi fun js σ'' B hs'' L''=>IN Zp5 ?_
   rw [dec js B x]
   refine kk σ'' ⟨hs'.trans hs'',L'',hs''.some ha' ?_⟩
   refine Ze L' fun lo h1 _=>?_
   exact ZQ ha' h1 (by simp)
  ·refine Zbp hJ fun hs' L' ha'=>?_
   have X':=X.go hs' L'
   refine ZcA <| E_p (v:=.lst []) rfl ?_
   generalize hflt:nums.filter (fun x=>@decide (ZeR K (idx K r.1.1) x) (Classical.propDecidable _))=fl
   have hfl:(fl ≠ []) ↔ ∃ i ∈ nums,ZeR K (idx K r.1.1) i:=by
    rw [<- hflt]
    constructor
    ·intro h
     refine ZU (List.exists_mem_of_ne_nil _ h) fun y hy=>?_
     refine ZL (List.mem_filter.mp hy) fun h1 h2=>?_
     exact ⟨y,h1,of_decide_eq_true h2⟩
    ·rintro ⟨i,h1,h2⟩ e
     have:i ∈ nums.filter (fun x=>@decide (ZeR K (idx K r.1.1) x) (Classical.propDecidable _)):=List.mem_filter.mpr ⟨h1,decide_eq_true h2⟩
     rw [e] at this
     cases this
   have hcm:=fun (c:Bool)=>@Zoo σ' (nL fl) [] (Zei fl) (show ZA []=true from rfl) c
   by_cases hh:fl=[]
   ·have hno:Zbc K nums st p [r]=[]:=by
     have:ZgN K nums st r=false:=by
      unfold ZgN
      rw [decide_eq_false]
      exact fun h=>hfl.mpr h.2 hh
     unfold Zbc
     rw [List.filter_cons,this]
     rfl
    rw [hno,List.append_nil] at k
    refine IN (hcm false (by rw [hh]; simp [nL])) <| Zbg rfl <| Zh <| Zh <| k ρ1 σ' E1 hs' L' ha'
   ·have hyes:Zbc K nums st p [r]=[ZaO p]:=by
     have:ZgN K nums st r=true:=by
      unfold ZgN
      rw [decide_eq_true]
      exact ⟨hso',hfl.mp hh⟩
     unfold Zbc
     rw [List.filter_cons,this]
     rfl
    rw [hyes] at k
    refine IN (hcm true (by simp [nL,hh])) <| ZcR rfl <| ZaR <| ZbH <| E_p (Zq E1.h10) <| IN (o_r ha') <| Za <| E_p (Zq E1.h45) <| Zj <| Zaw ha' (o8 hal) <| Zh <| Zh (T:=TT0) (C:=CC m) <| k ρ1 _ E1 ?_ ?_ (Zb ..)
    ·intro x hx hn
     rw [Zc _ _ (fun e=>hx (by rw [e,hb0]))]
     exact hs' x hx hn
    ·refine Ze L' fun lo h1 h2=>?_
     exact ⟨lo,(Zc _ _ (ZQ h1 ha' (by simp))).trans h1,h2⟩
end
theorem Zg3 (K:List Pl) (nums:List Nat) (st:Nat) (p:Pt) (xs ys:List Row):Zbc K nums st p (xs++ys)=Zbc K nums st p xs++Zbc K nums st p ys:=by
 unfold Zbc
 rw [List.filter_append,List.map_append]
theorem ZfM (K:List Pl) (nums:List Nat) (st:Nat) (p:Pt) (xs:List Row):(Zbc K nums st p xs).length<=xs.length:=by
 unfold Zbc
 rw [List.length_map]
 exact List.length_filter_le ..
theorem Zhx (a:Act):(Zf a).length<=3:=by
 rcases a with s | e
 ·cases s <;> simp [Zf,Zbu]
 ·cases e <;> simp [Zf,ZbO]
theorem Zcv (a:Act):(Zai (Zf a)).length<=3:=Nat.le_trans (List.length_filter_le ..) (Zhx a)
theorem Zg1 (K:List Pl) (nums:List Nat) (st:Nat) (xs ys:List (Pt × Act)):ZbS K nums st (xs++ys)=ZbS K nums st xs++ZbS K nums st ys:=List.flatMap_append
theorem ZfL (K:List Pl) (nums:List Nat) (st:Nat):∀ (xs:List (Pt × Act)),(ZbS K nums st xs).length<=3 * xs.length
 | []=>Nat.le_refl _
 | x::xs=>by
  have:=ZfL K nums st xs
  have h1:=ZfM K nums st x.1 (Zai (Zf x.2))
  have h2:=Zcv x.2
  unfold ZbS at *
  rw [List.flatMap_cons,List.length_append,List.length_cons]
  exact Zuj this h1 h2
theorem Zel {n:Nat} (hn:3<=n) {g:PS} {kr:List Addr} {K:List Pl} {mv md dn ck cd:Addr} {fs:Env} {σ:St} (X:Kx g kr K mv md dn fs ck cd σ) (hB:BodyOk g.bs) (hR:ZbI K g.bs) {nums:List Nat} (hnl:nums.length<=100) {st:Nat} {Q:LV->St->Prop}
  (k:∀ σ',Zw (only g.lo) σ σ'->ZN g K σ'->Q (.lst (ZbS K nums st (Zn 0 g.bs))) σ'):CC n 33 [.ref ck,.lst (nL nums),.int (st:Int)] Q σ:=by
 refine Ze (lvl hn) fun m eQ0_1 hm=>?_; subst eQ0_1
 have hsp:=Zco hB
 refine Zd (fd:=f33) rfl rfl ?_
 refine Zk <| Zbq rfl <| Zb5 fun b hb0=>IN rfl ?_
 have hs0:Zw Zr σ (upd σ b (some (.list []))):=Zw.new hb0
 have hb:(upd σ b (some (.list []))) b=some (.list []):=Zb ..
 generalize upd σ b (some (.list []))=σ1 at hs0 hb
 have X1:=X.same hs0
 refine ZO <| ZD rfl <| Za <| Zt rfl (Zbw X1.a X1.d rfl rfl) <| Zj <| ZeC (o62 hm) (ZaC hB) fun σ2 s2=>?_
 have hs2:Zw (only g.lo) σ σ2:=(hs0.trans s2).weaken fun _ h=>h.elim
 have L2:=(X1.same s2).S.c.L
 refine IN (a:=(Zn 0 g.bs).map fun x=>ZaO x.1) rfl ?_
 refine ZgG (fun x:Pt × Act=>ZaO x.1) (Zn 0 g.bs) (fun (done:List (Pt × Act)) ρ σ'=>(Zo ρ 0=some (.ref ck)/\Zo ρ 69=some (.lst (nL nums))/\Zo ρ 100=some (.int (st:Int))/\Zo ρ 10=some (.ref b))/\Zw (only g.lo) σ σ'/\ZN g K σ'/\σ' b=some (.list (ZbS K nums st done))) (fun done (x:Pt × Act) rest ρ σ' Kk hall hI kn _=>?_) (fun ρ σ' hI=>?_) _ [] _ σ2 rfl ⟨⟨rfl,rfl,rfl,rfl⟩,hs2,L2,s2.some hb fun h=>h⟩
 ·refine ZlP hI fun hN0_0 hs L hacc=>?_; obtain ⟨h0,h69,h100,h10⟩:=hN0_0
  have hx:x ∈ Zn 0 g.bs:=by rw [hall]; simp
  have hdl:done.length<=12:=by
   have:=congrArg List.length hall
   rw [List.length_append] at this
   exact o68 hsp this
  have hml:=ZfL K nums st done
  have X':=X.go hs L
  have E:EnvM ck b nums st x.1 (Zm ρ 45 (ZaO x.1)):=⟨Zl h0 (by decide),Zl h69 (by decide),Zl h100 (by decide),Zl h10 (by decide),ZH⟩
  refine IN ZZ ?_
  generalize Zm ρ 45 (ZaO x.1)=ρ1 at E
  have hm111:Zao TT0 σ' (.ref mv) 111=some 29:=Zem X'.S.c.M.a X'.S.c.M.d rfl X'.S.c.M.n.2.2.1
  refine ZO <| ZcK <| Zt (Zq E.h0) (Zbw X'.a X'.d rfl rfl) <| IN hm111 <| Za <| E_p (Zq E.h45) <| Zj <| Zir (x:=x) (o4 hm) X'.S.c X'.S.D hx <| IN (a:=Zb9 K (Zf x.2)) rfl ?_
  refine ZgG (fun r:Row=>LV.tup [.int ((idx K r.1.1:Nat):Int),.int r.2]) (Zai (Zf x.2)) (fun (dr:List Row) ρ σ'=>EnvM ck b nums st x.1 ρ/\Zw (only g.lo) σ σ'/\ZN g K σ'/\σ' b=some (.list (ZbS K nums st done++Zbc K nums st x.1 dr))) (fun dr (r:Row) rest' ρ σ' Kk' hall' hI kn' _=>?_) (fun ρ σ' hI=>?_) _ [] _ σ' rfl ⟨E,hs,L,by rw [show Zbc K nums st x.1 []=[] from rfl,List.append_nil]; exact hacc⟩
  ·refine ZlP hI fun E' hs' L' hacc'=>?_
   have hrm:r ∈ Zai (Zf x.2):=by rw [hall']; simp
   have hrm':=List.mem_filter.mp hrm
   have hdr:dr.length<=3:=by
    have:=congrArg List.length hall'
    have h3:=Zcv x.2
    rw [List.length_append] at this
    exact o69 this h3
   have hml':=ZfM K nums st x.1 dr
   refine IN (a:=Zm (Zm ρ 81 (.int ((idx K r.1.1:Nat):Int))) 16 (.int r.2)) rfl ?_
   have E'':EnvM ck b nums st x.1 (Zm (Zm ρ 81 (.int ((idx K r.1.1:Nat):Int))) 16 (.int r.2)):=(E'.set (by decide) (by decide) (by decide) (by decide) (by decide)).set (by decide) (by decide) (by decide) (by decide) (by decide)
   refine Zqk (o4 hm) X hb0 hs' L' hnl E'' ((hR x hx r hrm'.1).1.2) (of_decide_eq_true hrm'.2) (Zl ZH (by decide)) ZH hacc' (by rw [List.length_append]; exact Zuk hdl hml hdr hml') fun ρ' σ'' E3 hs3 L3 hacc3=>kn' ρ' σ'' ⟨E3,hs3,L3,?_⟩
   rw [hacc3,Zg3,List.append_assoc]
  ·refine ZlP hI fun E' hs' L' hacc'=>?_
   refine Zh (T:=TT0) (C:=CC m) <| kn _ _ ⟨⟨E'.h0,E'.h69,E'.h100,E'.h10⟩,hs',L',?_⟩
   rw [hacc',Zg1]
   unfold ZbS
   rw [List.flatMap_singleton]
 ·refine ZlP hI fun hN0_0 hs L hacc=>?_; obtain ⟨h0,h69,h100,h10⟩:=hN0_0
  show ZJ TT0 (CC m) (_::_) _ _ _
  refine ZI <| Zd3 <| E_p (Zq h10) ?_
  unfold Zgb
  dsimp only
  rw [hacc]
  refine k _ ?_ ?_
  ·intro x hx hn
   rw [Zc _ _ (fun e=>hx (by rw [e,hb0]))]
   exact hs x hx hn
  ·refine Ze L fun lo h1 h2=>?_
   exact ⟨lo,(Zc _ _ (ZQ h1 hacc (by simp))).trans h1,h2⟩
noncomputable def Znw (r:Row):LV:=.tup [ZB r.1.1,.int r.2]
theorem Ziz {n:Nat} (hn:1<=n) {rs:List Row} (hl:rs.length<=100) (hp:∀ r ∈ rs,r.1.1.2.length<=10) {σ:St} {Q:LV->St->Prop} (k:Q (.lst ((Zai rs).map Znw)) σ):CC n 43 [ZaS rs] Q σ:=by
 refine Ze (lvl hn) fun m eQ0_1 hm=>?_; subst eQ0_1
 refine Zd (fd:=f43) rfl rfl ?_
 refine ZI <| ZaY <| E_p rfl <| IN (a:=rs.map Zne) rfl <| IN rfl ⟨by rw [List.length_map]; exact o21 hl,?_⟩
 refine Zec Zne Znw (fun r=>decide (r.1.2=r.1.1.2.length)) (fun σ'=>σ'=σ) rfl (fun r hr=>⟨_,rfl,rfl,fun σ' Kk hJ kk=>?_⟩) (fun σ' hJ=>by rw [hJ]; exact ZcA k)
 have hlen:=hp r hr
 refine ZF <| E_p rfl <| Zs <| E_p rfl <| IN (Zqc (n:=r.1.1.2.length) (List.length_map ..) (o0 hlen)) <| IN ZlR ?_
 have:decide (((r.1.2:Nat):Int)=((r.1.1.2.length:Nat):Int))=decide (r.1.2=r.1.1.2.length):=by
  by_cases h:r.1.2=r.1.1.2.length
  ·rw [decide_eq_true h,decide_eq_true (Zul h)]
  ·rw [decide_eq_false h,decide_eq_false (o35 h)]
 rw [this]
 exact kk σ' hJ
theorem Zhw {ov v:LV} {xs:List LV} {i:Nat} {Q:LV->St->Prop} {σ:St} (h:Zaa σ ov=some xs) (hv:Zak v=true) (hx:ZA xs=true) (hl:xs.length<=1000000) (hi:Zmx v xs=some i) (k:Q (.int (i:Int)) σ):lmL .index ov [v] Q σ:=by
 exact IN h ⟨hv,hx,hl,IN hi k⟩
theorem ZhT:∀ {K:List Pl} {p:Pl},p ∈ K->Zmx (ZB p) (K.map ZB)=some (idx K p)
 | [],p,h=>by cases h
 | q::K,p,h=>by
  rw [List.map_cons]
  rw [ZnC]
  by_cases e:q=p
  ·subst e
   rw [if_pos rfl]
   simp [idx]
  ·rw [if_neg (fun h=>e (ZdY h)),ZhT ((List.mem_cons.mp h).resolve_left fun h=>e h.symm)]
   unfold idx
   rw [List.idxOf_cons,show (q == p)=false from beq_eq_false_iff_ne.mpr e]
   rfl
noncomputable def Zm3 (s:Nat):Nat:=match s with | 1=>0 | 3=>1 | 2=>2 | _=>3
theorem Zmy {s:Nat} (h:s<=3):Zmx (.int (s:Int)) [.int 1,.int 3,.int 2,.int 0]=some (Zm3 s):=by
 have:s=0\/s=1\/s=2\/s=3:=Zum h
 rcases this with rfl | rfl | rfl | rfl <;> simp [Zmx,Zm3]
theorem Zm4 {n:Nat} (hn:1<=n) {r:Row} (hr:r.2<=3) {σ:St} {Q:LV->St->Prop} (k:Q (.int ((Zm3 r.2:Nat):Int)) σ):CC n 44 [Znw r] Q σ:=by
 refine Ze (lvl hn) fun m eQ0_1 hm=>?_; subst eQ0_1
 refine Zd (fd:=f44) rfl rfl ?_
 exact ZI <| ZbH <| E_p (v:=.lst [.int 1,.int 3,.int 2,.int 0]) rfl <| IN o_l <| Za <| E_p rfl <| Zj <| Zhw o_l rfl rfl (by decide) (Zmy hr) k
theorem ZkY {n:Nat} (hn:1<=n):∀ {rs:List Row} {σ:St} {Q:List Int->St->Prop},(∀ r ∈ rs,r.2<=3)->Q (rs.map fun r=>((Zm3 r.2:Nat):Int)) σ->ZgV (CC n) 44 (rs.map Znw) Q σ
 | [],σ,Q,h,k=>by exact k
 | r::rs,σ,Q,h,k=>by
  rw [List.map_cons]
  refine Zm4 hn (h r List.mem_cons_self) ?_
  exact ZkY hn (fun x hx=>h x (List.mem_cons_of_mem _ hx)) k
theorem Zjj (a:Act):(Zf a).Pairwise fun x y=>Zm3 x.2<=Zm3 y.2:=by
 rcases a with s | e
 ·cases s <;> simp [Zf,Zbu,Zm3]
 ·cases e <;> simp [Zf,ZbO,Zm3]
theorem Zkw (a:Act):((Zai (Zf a)).map fun r=>((Zm3 r.2:Nat):Int)).Pairwise (·<=·):=by
 rw [List.pairwise_map]
 refine List.Pairwise.sublist List.filter_sublist ((Zjj a).imp fun {x y} h=>?_)
 exact_mod_cast h
noncomputable def kAt (K:List Pl) (i:Nat):Pl:=(K[i]?).getD (0,[])
theorem ZfE {K:List Pl} {i:Nat} (h:i < K.length):K[i]?=some (kAt K i):=by
 unfold kAt
 rw [List.getElem?_eq_getElem h]
 rfl
noncomputable def ZnG:List LS:=[.asg (.nm 85) (.bi .len_ [(.sub (.v 36) (.k (.int 1)))]),.asg (.nm 129) (.comp false [148] (.sub (.v 148) (.v 81)) (.nm 81) (.v 69) none),.asg (.nm 150) (.comp false [36,85] (.v 50) (.nm 50) (.v 129) (some (.bool true (.cmp .Eq (.sub (.v 50) (.k (.int 0))) (.sub (.v 36) (.k (.int 0)))) (.cmp .Eq (.slc (.sub (.v 50) (.k (.int 1))) (.v 85)) (.sub (.v 36) (.k (.int 1))))))),.ifs (.bool true (.cmp .NotEq (.v 150) (.lst [])) (.bool false (.cmp .Eq (.v 16) (.v 100)) (.cmp .Eq (.tup [(.v 16),(.v 100)]) (.tup [(.g 102),(.g 106)])))) [.expr (.lm (.v 10) .append [(.sub (.v 5) (.v 82))])] []]
structure EnvW (kn b:Addr) (sl dl:List LV) (nums:List Nat) (st:Nat) (ρ:Env):Prop where
 h148:Zo ρ 148=some (.ref kn)
 h5:Zo ρ 5=some (.lst sl)
 h111:Zo ρ 111=some (.lst dl)
 h69:Zo ρ 69=some (.lst (nL nums))
 h100:Zo ρ 100=some (.int (st:Int))
 h10:Zo ρ 10=some (.ref b)
theorem EnvW.set {kn b:Addr} {sl dl:List LV} {nums:List Nat} {st:Nat} {ρ:Env} (h:EnvW kn b sl dl nums st ρ) {x:Nat} {v:LV} (h0:148 ≠ x) (h1:5 ≠ x) (h2:111 ≠ x) (h3:69 ≠ x) (h4:100 ≠ x) (h5:10 ≠ x):EnvW kn b sl dl nums st (Zm ρ x v):=⟨Zl h.h148 h0,Zl h.h5 h1,Zl h.h111 h2,Zl h.h69 h3,Zl h.h100 h4,Zl h.h10 h5⟩
theorem fv1 {ρ:Env} {x:Nat} {v:LV} (h:Zo ρ x=some v):ZcO [x] ρ=some [(x,v)]:=by
 rw [ZfA]
 rw [h]
 rfl
theorem fv2 {ρ:Env} {x y:Nat} {v w:LV} (h:Zo ρ x=some v) (h':Zo ρ y=some w):ZcO [x,y] ρ=some [(x,v),(y,w)]:=by
 rw [ZfA]
 rw [h,fv1 h']
 rfl
open Classical in
theorem Zqi {m:Nat} {K:List Pl} {nums:List Nat} {st:Nat} {σ₀ σ:St} {kn b:Addr} {sl dl:List LV} {ρ:Env} (P:PK K) (hkn:σ₀ kn=some (.list (K.map ZB))) (hb0:σ₀ b=none) (hs:Zw Zr σ₀ σ) (hn:∀ i ∈ nums,i < K.length) (hnl:nums.length<=100) (E:EnvW kn b sl dl nums st ρ) {r:Row} (hr:r.1.1 ∈ K) (h36:Zo ρ 36=some (ZB r.1.1)) (h16:Zo ρ 16=some (.int (r.2:Int))) {p:Pt} {at_:Nat} (h82:Zo ρ 82=some (.int (at_:Int))) (hat:Zeu sl (at_:Int)=some (ZaO p)) {acc:List LV} (hacc:σ b=some (.list acc)) (hal:acc.length<=1000) {Q:Fl->Env->St->Prop}
  (k:∀ ρ' σ',EnvW kn b sl dl nums st ρ'->Zo ρ' 82=some (.int (at_:Int))->Zw Zr σ₀ σ'->σ' b=some (.list (acc++Zbc K nums st p [r]))->Q .next ρ' σ'):ZJ TT0 (CC m) ZnG ρ Q σ:=by
 have hKl:=P.len
 have hlen3:=ZcY (P.u _ hr)
 have hkn':=hs.some hkn fun h=>h
 unfold ZnG
 refine Zk <| Zs <| ZG <| E_p (Zq h36) <| E_p Zbr <| IN (a:=.tup (r.1.1.2.map Zcz)) rfl <| IN (Zqc (n:=r.1.1.2.length) (List.length_map ..) (o1 hlen3)) <| IN ZZ ?_
 have E1:EnvW kn b sl dl nums st (Zm ρ 85 (.int ((r.1.1.2.length:Nat):Int))):=E.set (by decide) (by decide) (by decide) (by decide) (by decide) (by decide)
 have h361:Zo (Zm ρ 85 (.int ((r.1.1.2.length:Nat):Int))) 36=some (ZB r.1.1):=Zl h36 (by decide)
 have h161:Zo (Zm ρ 85 (.int ((r.1.1.2.length:Nat):Int))) 16=some (.int (r.2:Int)):=Zl h16 (by decide)
 have h821:Zo (Zm ρ 85 (.int ((r.1.1.2.length:Nat):Int))) 82=some (.int (at_:Int)):=Zl h82 (by decide)
 have h851:Zo (Zm ρ 85 (.int ((r.1.1.2.length:Nat):Int))) 85=some (.int ((r.1.1.2.length:Nat):Int)):=ZH
 generalize Zm ρ 85 (.int ((r.1.1.2.length:Nat):Int))=ρ1 at E1 h361 h161 h821 h851
 refine Zk <| ZaY <| E_p (Zq E1.h69) <| IN rfl <| IN (fv1 E1.h148) ⟨by rw [Zcf]; exact o21 hnl,?_⟩
 have c1:∀ {Q':List LV->St->Prop},Q' ((nums.map (kAt K)).map ZB) σ->ZaH (fun x K' σ₂=>ZC (Z0 (.nm 81) x [(148,.ref kn)]) fun ρx=>wpC TT0 (CC m) none ρx (fun b σ₃=>match b with
   | true=>wpE TT0 (CC m) (.sub (.v 148) (.v 81)) ρx (fun u σ₄=>K' [u] σ₄) σ₃
   | false=>K' [] σ₃) σ₂) (nL nums) [] Q' σ:=by
  intro Q' h
  show ZaH _ (nums.map fun (j:Nat)=>LV.int (j:Int)) [] Q' σ
  refine ZcC (fun (j:Nat)=>LV.int (j:Int)) nums (fun done acc σ'=>acc=(done.map (kAt K)).map ZB/\σ'=σ) (fun done x rest acc σ' K' hall hI kn'=>?_) (fun acc σ' hI=>?_) nums [] [] σ rfl ⟨rfl,rfl⟩
  ·obtain ⟨rfl,rfl⟩:=hI
   have hx:=hn x (by rw [hall]; simp)
   refine IN ZZ ?_
   rw [WC0]
   refine ZG <| E_p (v:=.ref kn) rfl <| E_p (v:=.int (x:Int)) rfl <| IN ((s_r hkn').trans (Z5 (v:=ZB (kAt K x)) (by rw [List.getElem?_map,ZfE hx]; rfl) (by rw [List.length_map]; exact o3 hKl))) <| kn' _ _ ⟨?_,rfl⟩
   rw [List.map_append,List.map_append]
   rfl
  ·obtain ⟨rfl,rfl⟩:=hI
   exact h
 refine c1 <| ZcA <| IN ZZ ?_
 have E2:EnvW kn b sl dl nums st (Zm ρ1 129 (.lst ((nums.map (kAt K)).map ZB))):=E1.set (by decide) (by decide) (by decide) (by decide) (by decide) (by decide)
 have h362:Zo (Zm ρ1 129 (.lst ((nums.map (kAt K)).map ZB))) 36=some (ZB r.1.1):=Zl h361 (by decide)
 have h162:Zo (Zm ρ1 129 (.lst ((nums.map (kAt K)).map ZB))) 16=some (.int (r.2:Int)):=Zl h161 (by decide)
 have h822:Zo (Zm ρ1 129 (.lst ((nums.map (kAt K)).map ZB))) 82=some (.int (at_:Int)):=Zl h821 (by decide)
 have h852:Zo (Zm ρ1 129 (.lst ((nums.map (kAt K)).map ZB))) 85=some (.int ((r.1.1.2.length:Nat):Int)):=Zl h851 (by decide)
 have h129:Zo (Zm ρ1 129 (.lst ((nums.map (kAt K)).map ZB))) 129=some (.lst ((nums.map (kAt K)).map ZB)):=ZH
 generalize Zm ρ1 129 (.lst ((nums.map (kAt K)).map ZB))=ρ2 at E2 h362 h162 h822 h852 h129
 refine Zk <| ZaY <| E_p (Zq h129) <| IN rfl <| IN (fv2 h362 h852) ⟨by rw [List.length_map,List.length_map]; exact o21 hnl,?_⟩
 refine Zec ZB ZB (fun q=>decide (pre r.1.1 q)) (fun σ'=>σ'=σ) rfl (fun q hq=>⟨_,rfl,rfl,fun σ' Kk hJ kk=>?_⟩) (fun σ' hJ=>?_)
 ·subst hJ
  obtain ⟨i,hi,rfl⟩:=List.mem_map.mp hq
  have hq3:=ZcY (P.u _ (List.mem_of_getElem? (ZfE (hn i hi))))
  generalize kAt K i=q at hq3 kk ⊢
  refine ZaP <| ZF <| ZG <| E_p rfl <| E_p rfl <| IN (a:=.int (q.1:Int)) rfl <| ZG <| E_p rfl <| E_p rfl <| IN (a:=.int (r.1.1.1:Int)) rfl <| IN ZlR ?_
  by_cases h1:r.1.1.1=q.1
  ·rw [decide_eq_true (by rw [h1])]
   have hsl:Zid (.tup (q.2.map Zcz)) (.int ((r.1.1.2.length:Nat):Int))=some (.tup ((q.2.take r.1.1.2.length).map Zcz)):=by
    rw [Zhk (by rw [List.length_map]; exact o1 hq3) (o1 hlen3),List.map_take]
   refine ZbL rfl <| ZF <| Zfq <| ZG <| E_p rfl <| E_p rfl <| IN (a:=.tup (q.2.map Zcz)) rfl <| E_p rfl <| IN hsl <| ZG <| E_p rfl <| E_p rfl <| IN (a:=.tup (r.1.1.2.map Zcz)) rfl <| IN (c_k (c:=decide (pre r.1.1 q)) (ZfF _) (ZfF _) ?_) (kk _ rfl)
   rw [decide_eq_true_iff]
   constructor
   ·intro h; rw [h.2]
   ·intro h; exact ⟨h1,Zls h⟩
  ·rw [decide_eq_false (Zun h1)]
   have:decide (pre r.1.1 q)=false:=decide_eq_false fun h=>h1 h.1
   rw [this] at kk
   exact ZdP rfl (kk _ rfl)
 ·subst hJ
  refine ZcA <| IN ZZ ?_
  generalize hflt:(nums.map (kAt K)).filter (fun q=>decide (pre r.1.1 q))=fl
  have hfl:(fl ≠ []) ↔ ∃ i ∈ nums,ZeR K (idx K r.1.1) i:=by
   rw [<- hflt]
   constructor
   ·intro h
    obtain ⟨y,hy⟩:=List.exists_mem_of_ne_nil _ h
    obtain ⟨h1,h2⟩:=List.mem_filter.mp hy
    obtain ⟨i,hi,rfl⟩:=List.mem_map.mp h1
    exact ⟨i,hi,r.1.1,kAt K i,ZfB hr,ZfE (hn i hi),of_decide_eq_true h2⟩
   ·rintro ⟨i,h1,p',q',h2,h3,h4⟩ e
    rw [ZfB hr] at h2
    injection h2 with h2
    subst h2
    rw [ZfE (hn i h1)] at h3
    injection h3 with h3
    subst h3
    have:kAt K i ∈ (nums.map (kAt K)).filter (fun q=>decide (pre r.1.1 q)):=List.mem_filter.mpr ⟨List.mem_map_of_mem h1,decide_eq_true h4⟩
    rw [e] at this
    cases this
  have E3:EnvW kn b sl dl nums st (Zm ρ2 150 (.lst (fl.map ZB))):=E2.set (by decide) (by decide) (by decide) (by decide) (by decide) (by decide)
  have h163:Zo (Zm ρ2 150 (.lst (fl.map ZB))) 16=some (.int (r.2:Int)):=Zl h162 (by decide)
  have h823:Zo (Zm ρ2 150 (.lst (fl.map ZB))) 82=some (.int (at_:Int)):=Zl h822 (by decide)
  have h150:Zo (Zm ρ2 150 (.lst (fl.map ZB))) 150=some (.lst (fl.map ZB)):=ZH
  generalize Zm ρ2 150 (.lst (fl.map ZB))=ρ3 at E3 h163 h823 h150
  have hcm:=fun (c:Bool)=>@Zoo σ' (fl.map ZB) [] (Zds fl) (show ZA []=true from rfl) c
  have no:ZgN K nums st r=false->ZJ TT0 (CC m) [] ρ3 Q σ':=fun hh=>by
   have:Zbc K nums st p [r]=[]:=by
    unfold Zbc
    rw [List.filter_cons,hh]
    rfl
   rw [this,List.append_nil] at k
   exact Zh (k ρ3 σ' E3 h823 hs hacc)
  refine Zb6 <| ZaP <| ZF <| E_p (Zq h150) <| E_p (v:=.lst []) rfl ?_
  by_cases hh:fl=[]
  ·refine IN (hcm false (by rw [hh]; simp)) <| ZdP rfl <| Zbg rfl <| Zh <| no ?_
   unfold ZgN
   rw [decide_eq_false]
   exact fun h=>hfl.mpr h.2 hh
  ·refine IN (hcm true (by simp [hh])) <| ZbL rfl ?_
   have so:∀ {Q':LV->St->Prop},Q' (.bool (decide (r.2=st\/(r.2=3/\st=1)))) σ'->wpE TT0 (CC m) (.bool false (.cmp .Eq (.v 16) (.v 100)) (.cmp .Eq (.tup [(.v 16),(.v 100)]) (.tup [(.g 102),(.g 106)]))) ρ3 Q' σ':=by
    intro Q' kk
    refine ZaP <| ZF <| E_p (Zq h163) <| E_p (Zq E3.h100) <| IN ZlR ?_
    by_cases h1:r.2=st
    ·rw [decide_eq_true (by rw [h1])]
     rw [decide_eq_true (.inl h1)] at kk
     exact ZdP rfl kk
    ·rw [decide_eq_false (o35 h1)]
     refine ZbL rfl <| ZF <| Zax <| Za <| E_p (Zq h163) <| Za <| E_p (Zq E3.h100) <| Zj <| E_p (v:=.tup [.int 3,.int 1]) rfl <| IN (c_k (c:=decide (r.2=st\/(r.2=3/\st=1))) rfl rfl ?_) kk
     rw [decide_eq_true_iff]
     constructor
     ·rintro (h | ⟨h2,h3⟩)
      ·exact absurd h h1
      ·rw [h2,h3]; rfl
     ·intro h
      injection h with h
      injection h with ha hb
      injection ha with ha
      injection hb with hb
      injection hb with hb
      exact .inr ⟨by exact_mod_cast ha,by exact_mod_cast hb⟩
   refine so ?_
   by_cases hso:r.2=st\/(r.2=3/\st=1)
   ·rw [decide_eq_true hso]
    have:Zbc K nums st p [r]=[ZaO p]:=by
     have:ZgN K nums st r=true:=by
      unfold ZgN
      rw [decide_eq_true]
      exact ⟨hso,hfl.mp hh⟩
     unfold Zbc
     rw [List.filter_cons,this]
     rfl
    rw [this] at k
    refine ZcR rfl <| ZaR <| ZbH <| E_p (Zq E3.h10) <| IN (o_r hacc) <| Za <| ZG <| E_p (Zq E3.h5) <| E_p (Zq h823) <| IN (s_l.trans hat) <| Zj <| Zaw hacc (o8 hal) <| Zh <| Zh (T:=TT0) (C:=CC m) <| k ρ3 _ E3 h823 (hs.upn hb0) (Zb ..)
   ·rw [decide_eq_false hso]
    refine Zbg rfl <| Zh <| no ?_
    unfold ZgN
    rw [decide_eq_false]
    exact fun h=>hso h.1
theorem ZoB {n:Nat} (hn:2<=n) {K:List Pl} {nums:List Nat} {st:Nat} {σ:St} {kn:Addr} {bs:List Blk} (P:PK K) (hB:BodyOk bs) (hR:ZbI K bs) (hkn:σ kn=some (.list (K.map ZB))) (hnu:∀ i ∈ nums,i < K.length) (hnl:nums.length<=100) {Q:LV->St->Prop}
  (k:∀ σ',Zw Zr σ σ'->Q (.lst (ZbS K nums st (Zn 0 bs))) σ'):CC n 45 [.ref kn,.lst (ZfX bs),.lst (Zy bs),.lst (nL nums),.int (st:Int)] Q σ:=by
 refine Ze (lvl hn) fun m eQ0_1 hm=>?_; subst eQ0_1
 have hsp:=Zco hB
 have hrows:=Zbm 0 bs
 refine Zd (fd:=f45) rfl rfl ?_
 refine Zk <| Zbq rfl <| Zb5 fun b hb0=>IN rfl ?_
 have hpl:(ZfX bs).length=(Zn 0 bs).length:=by unfold ZfX; rw [List.length_map]
 refine ZO <| Zs <| Zs <| E_p rfl <| IN (Zht hpl (o10 hsp)) <| IN (Zag (o10 hsp)) <| IN (ZS _) ?_
 refine Zbx (fun i ρ σ'=>EnvW kn b (ZfX bs) (Zy bs) nums st ρ/\Zw Zr σ σ'/\σ' b=some (.list (ZbS K nums st ((Zn 0 bs).take i)))) (fun i ρ σ' Kk hi hI kn' _=>?_) (fun ρ σ' hI=>?_) ⟨⟨rfl,rfl,rfl,rfl,rfl,rfl⟩,Zw.new hb0,by rw [Zb,List.take_zero]; rfl⟩
 ·refine Zbp hI fun E hs hacc=>?_
  refine ZU (show ∃ x,(Zn 0 bs)[i]?=some x from ⟨(Zn 0 bs)[i],List.getElem?_eq_getElem hi⟩) fun x hxi=>?_
  have hx:x ∈ Zn 0 bs:=List.mem_of_getElem? hxi
  have hpt:Zeu (ZfX bs) (i:Int)=some (ZaO x.1):=Z5 (by unfold ZfX; rw [List.getElem?_map,hxi]; rfl) (o70 hsp hpl)
  have hrw:Zeu (Zy bs) (i:Int)=some (ZaS (Zf x.2)):=Z5 (by rw [<- hrows,List.getElem?_map,hxi]; rfl) (by rw [<- hrows,List.length_map]; exact o10 hsp)
  have htake:(Zn 0 bs).take (i + 1)=(Zn 0 bs).take i++[x]:=by rw [List.take_succ,hxi]; rfl
  have hml:=ZfL K nums st ((Zn 0 bs).take i)
  rw [List.length_take] at hml
  refine IN ZZ ?_
  have E1:EnvW kn b (ZfX bs) (Zy bs) nums st (Zm ρ 82 (.int (i:Int))):=E.set (by decide) (by decide) (by decide) (by decide) (by decide) (by decide)
  have h82:Zo (Zm ρ 82 (.int (i:Int))) 82=some (.int (i:Int)):=ZH
  generalize Zm ρ 82 (.int (i:Int))=ρ1 at E1 h82
  have h3:=Zhx x.2
  refine ZO <| ZD rfl <| Za <| ZG <| E_p (Zq E1.h111) <| E_p (Zq h82) <| IN (s_l.trans hrw) <| Zj <| Ziz (Zuo hm) (o71 h3) (fun r hr=>by have:=ZcM (hR x hx r hr).1.1; exact o72 this) <| IN (a:=(Zai (Zf x.2)).map Znw) rfl ?_
  refine ZgG Znw (Zai (Zf x.2)) (fun (dr:List Row) ρ σ'=>(EnvW kn b (ZfX bs) (Zy bs) nums st ρ/\Zo ρ 82=some (.int (i:Int)))/\Zw Zr σ σ'/\σ' b=some (.list (ZbS K nums st ((Zn 0 bs).take i)++Zbc K nums st x.1 dr))) (fun dr (r:Row) rest' ρ σ' Kk' hall' hI kn'' _=>?_) (fun ρ σ' hI=>?_) _ [] _ σ' rfl ⟨⟨E1,h82⟩,hs,by rw [show Zbc K nums st x.1 []=[] from rfl,List.append_nil]; exact hacc⟩
  ·refine Zbp hI fun hN0_0 hs' hacc'=>?_; obtain ⟨E',h82'⟩:=hN0_0
   have hrm:r ∈ Zai (Zf x.2):=by rw [hall']; simp
   have hrm':=List.mem_filter.mp hrm
   have hdr:dr.length<=3:=by
    have:=congrArg List.length hall'
    have h3:=Zcv x.2
    rw [List.length_append] at this
    exact o69 this h3
   have hml':=ZfM K nums st x.1 dr
   have hrK:=(hR x hx r hrm'.1).1
   have hce:Zad r.1=r.1.1:=by unfold Zad; rw [of_decide_eq_true hrm'.2,List.take_length]
   refine IN (a:=Zm (Zm ρ 36 (ZB r.1.1)) 16 (.int r.2)) rfl ?_
   have E'':EnvW kn b (ZfX bs) (Zy bs) nums st (Zm (Zm ρ 36 (ZB r.1.1)) 16 (.int r.2)):=(E'.set (by decide) (by decide) (by decide) (by decide) (by decide) (by decide)).set (by decide) (by decide) (by decide) (by decide) (by decide) (by decide)
   refine Zqi P hkn hb0 hs' hnu hnl E'' (hce ▸ hrK.2) (Zl ZH (by decide)) ZH (Zl (Zl h82' (by decide)) (by decide)) hpt hacc' (by rw [List.length_append]; exact Zup hsp hml hdr hml') fun ρ' σ'' E3 h83 hs3 hacc3=>kn'' ρ' σ'' ⟨⟨E3,h83⟩,hs3,?_⟩
   rw [hacc3,Zg3,List.append_assoc]
  ·refine Zbp hI fun hN0_0 hs' hacc'=>?_; obtain ⟨E',_⟩:=hN0_0
   refine Zh (T:=TT0) (C:=CC m) <| kn' _ _ ⟨E',hs',?_⟩
   rw [hacc',htake,Zg1]
   unfold ZbS
   rw [List.flatMap_singleton]
 ·refine Zbp hI fun E hs hacc=>?_
  rw [List.take_length] at hacc
  show ZJ TT0 (CC m) (_::_) _ _ _
  refine ZI <| Zd3 <| E_p (Zq E.h10) ?_
  unfold Zgb
  dsimp only
  rw [hacc]
  exact k _ (hs.upn hb0)
theorem Zoy (ps:List Pt):ZA (ps.map ZaO)=true:=by
 have:∀ ps:List Pt,Zam (ps.map ZaO)=true/\Z8 (ps.map ZaO)<=1:=by
  intro ps
  induction ps with
  | nil=>exact ⟨rfl,by decide⟩
  | cons p ps ih =>
   rw [List.map_cons]
   refine ⟨?_,?_⟩
   ·rw [Zcy]; rw [ih.1]; rfl
   ·exact Nat.max_le.mpr ⟨Nat.le_of_eq (show depth (ZaO p)=1 from rfl),ih.2⟩
 unfold ZA
 rw [(this ps).1,Bool.true_and]
 exact Nat.ble_eq_true_of_le (by have:=(this ps).2; exact Zuq this)
theorem Zg2 (K:List Pl) (nums:List Nat) (st:Nat):∀ sps:List (Pt × Act),∃ ps:List Pt,ZbS K nums st sps=ps.map ZaO
 | []=>⟨[],rfl⟩
 | x::sps=>by
  obtain ⟨ps,h⟩:=Zg2 K nums st sps
  refine ⟨((Zai (Zf x.2)).filter (ZgN K nums st)).map (fun _=>x.1)++ps,?_⟩
  unfold ZbS at h ⊢
  rw [List.flatMap_cons,h,List.map_append]
  rw [List.map_map]
  rfl
theorem ZiM (K:List Pl) (rs:List Row):ZA (Zb9 K rs)=true:=by
 unfold Zb9
 generalize Zai rs=rs
 have:Zam (rs.map fun r:Row=>LV.tup [.int ((idx K r.1.1:Nat):Int),.int r.2])=true/\Z8 (rs.map fun r:Row=>LV.tup [.int ((idx K r.1.1:Nat):Int),.int r.2])<=1:=by
  induction rs with
  | nil=>exact ⟨rfl,Nat.zero_le _⟩
  | cons p ps ih =>
   rw [List.map_cons]
   refine ⟨?_,?_⟩
   ·rw [Zcy]; rw [ih.1]; rfl
   ·exact Nat.max_le.mpr ⟨Nat.le_of_eq (show depth (LV.tup [.int ((idx K p.1.1:Nat):Int),.int p.2])=1 from rfl),ih.2⟩
 unfold ZA
 rw [this.1,Bool.true_and]
 exact Nat.ble_eq_true_of_le (Nat.le_trans this.2 (by decide))
theorem Kx.keep {g:PS} {kr:List Addr} {K:List Pl} {mv md dn ck cd:Addr} {fs:Env} {σ σ':St} {Y:Addr->Prop} (x:Kx g kr K mv md dn fs ck cd σ) (s:Zw Y σ σ') (L:ZN g K σ') (hY:∀ y,Y y->y=g.lo\/((∃ vs,σ y=some (.list vs))/\¬ own g kr y)):Kx g kr K mv md dn fs ck cd σ':=by
 refine Ze x.S.c.L fun lo hl1 hl2=>?_
 refine ZL x.S.D fun hd1 hR0=>?_; refine Ze hR0 fun es hd2 hd3=>?_
 have no:∀ {a:Addr} {o:LO},σ a=some o->(∀ vs,o ≠ .list vs)->(∀ ls,o ≠ .idict ls)->¬ Y a:=fun {a o} h h1 h2 hy=>by
  rcases hY a hy with e | ⟨⟨vs,e⟩,_⟩
  ·exact ZQ h hl1 (h2 lo) e
  ·rw [h] at e
   injection e with e
   exact h1 vs e
 refine ⟨⟨⟨x.S.c.F.same s fun a ha hy=>?_,x.S.c.P,L,x.S.c.M.same s (no x.S.c.M.a (by simp) (by simp)) (no x.S.c.M.d (by simp) (by simp))⟩,hd1,es,s.some hd2 (no hd2 (by simp) (by simp)),hd3⟩,s.some x.a (no x.a (by simp) (by simp)),s.some x.d (no x.d (by simp) (by simp))⟩
 rcases hY a hy with e | ⟨_,e⟩
 ·exact x.S.c.F.lo x.S.c.L a ha e
 ·exact e ha
noncomputable def Zrg (bl:LE):LE:=.frz (.call (.g 151) [(.k (.w 152)),(.k (.int 0)),(.comp false [] (.tup [(.v 154),(.k (.bool true)),(.k .none)]) (.nm 154) (.call (.g 153) []) none),bl])
theorem Zea {n:Nat} (hn:1<=n) {ρ:Env} {σ:St} {blE:LE} {bl:List LV} (hb:evp TT0 ρ blE=some (.lst bl)) {Q:LV->St->Prop} (k:∀ sp σ',Zw Zr σ σ'->Q (Zj8 (.lst bl) sp) σ'):wpE TT0 (CC n) (Zrg blE) ρ Q σ:=by
 refine Zd3 <| ZcJ (fv:=.cls 0) rfl <| Za <| E_p Zbr <| Za <| E_p Zbr <| Za <| ZaY <| ZaA (g:=37) (vs:=[]) rfl rfl <| ZmE hn <| IN (a:=ZdH) rfl <| IN (a:=[]) rfl ⟨by decide,?_⟩
 refine ZcV (f:=fun t=>LV.tup [t,.bool true,.none]) ZdH [] σ (fun x hx=>⟨_,rfl,rfl⟩) <| ZcA <| Za <| E_p hb <| Zj ?_
 exact Zqj hn (by simp) rfl k
theorem ZoX {n:Nat} {done rest:List Nat} {x:Nat} (h:List.range n=done++x::rest):x=done.length/\x < n:=by
 have h1:done.length < n:=by
  have:=congrArg List.length h
  rw [List.length_range,List.length_append,List.length_cons] at this
  exact Zur this
 have h2:(List.range n)[done.length]?=some x:=by rw [h]; simp
 rw [List.getElem?_range h1] at h2
 injection h2 with h2
 exact ⟨h2.symm,Zus h1 h2⟩
theorem Zm8 {C:Cal} {σ:St} {bs:List Blk} (hS:Small bs) {Q:List LV->St->Prop} (k:Q (ZfX bs) σ) :
  ZaH (fun x K σ₂=>ZC (Z0 (.nm 8) x [(4,.lst (bs.map Za8))]) fun ρx=>wpE TT0 C (.bi .range_ [(.bin .Add (.bi .len_ [(.sub (.sub (.v 4) (.v 8)) (.k (.int 0)))]) (.k (.int 1)))]) ρx (fun jv σ₃=>ZC (ZaD jv) fun ys =>
    ys.length<=1000/\ZaH (fun y K₂ σ₄=>ZC (Z0 (.nm 12) y ρx) fun ρy=>wpE TT0 C (.tup [(.v 8),(.v 12)]) ρy (fun u σ₅=>K₂ [u] σ₅) σ₄) ys [] K σ₃) σ₂) (Zgd bs.length) [] Q σ:=by
 have hn:=hS.n
 refine ZcC (fun (i:Nat)=>LV.int (Int.ofNat i)) (List.range bs.length) (fun done acc σ'=>acc=(Zn 0 (bs.take done.length)).map (fun x=>ZaO x.1)/\σ'=σ) (fun done i rest acc σ' K hall hI kn=>?_) (fun acc σ' hI=>?_) _ [] [] σ rfl ⟨rfl,rfl⟩
 ·obtain ⟨rfl,rfl⟩:=hI
  obtain ⟨hi,hlt⟩:=ZoX hall
  rw [List.length_append,List.length_singleton] at kn
  rw [<- hi] at kn
  clear hall hi
  have hB:bs[i]?=some bs[i]:=List.getElem?_eq_getElem hlt
  have hBl:=hS.b _ (List.getElem_mem hlt)
  generalize bs[i]=B at hB hBl
  obtain ⟨Ln,hLL⟩:∃ L,(B.1.map ZeL).length=L:=⟨_,rfl⟩
  obtain ⟨N,hN⟩:∃ N,B.1.length + 1=N:=⟨_,rfl⟩
  have hL':Ln + 1=N:=by rw [List.length_map] at hLL; exact o32 hLL hN
  have hpp:(Zn 0 (bs.take i)).map (fun x=>ZaO x.1)++(ZfW i N).map ZaO=(Zn 0 (bs.take (i + 1))).map (fun x=>ZaO x.1):=by
   rw [List.take_succ,hB,<- hN]
   show _=((Zn 0 (bs.take i++[B])).map _)
   rw [Zfo,List.map_append,<- Zfn,List.map_map,List.length_take,Nat.min_eq_left (o46 hlt),Nat.zero_add]
   rfl
  refine IN ZZ <| Zs <| Zgh <| ZG <| ZG <| E_p (v:=.lst (bs.map Za8)) rfl <| E_p (v:=.int (i:Int)) rfl <| IN (s_l.trans (ZfO hB (o0 hn))) <| E_p Zbr <| IN (a:=.lst (B.1.map ZeL)) rfl <| IN (Zht hLL (o33 hBl hN hL')) ?_
  intro N' hN'
  have:N'=(N:Int):=o18 hL' hN'
  subst this
  refine IN (Zag (o11 hBl hN)) <| IN (ZS _) ⟨by rw [ZbW]; exact Zut hBl hN,?_⟩
  clear hN' hL' hLL
  refine ZcC (fun (j:Nat)=>LV.int (Int.ofNat j)) (List.range N) (fun done' acc σ''=>acc=done'.map (fun j=>ZaO (i,j))/\σ''=σ') (fun done' j rest' acc σ'' K' hall' hI kn'=>?_) (fun acc σ'' hI=>?_) _ [] [] σ' rfl ⟨rfl,rfl⟩
  ·obtain ⟨rfl,rfl⟩:=hI
   refine IN ZZ <| Zax <| Za <| E_p (v:=.int (i:Int)) rfl <| Za <| E_p (v:=.int (j:Int)) rfl <| Zj <| kn' _ _ ⟨?_,rfl⟩
   rw [List.map_append]
   rfl
  ·obtain ⟨rfl,rfl⟩:=hI
   refine kn _ _ ⟨?_,rfl⟩
   rw [<- hpp]
   unfold ZfW
   rw [List.map_map]
   rfl
 ·obtain ⟨rfl,rfl⟩:=hI
  rw [List.length_range,List.take_length]
  exact k
structure Rt (g:PS) (kr:List Addr) (K:List Pl) (mv md dn:Addr) (fs:Env) (ck cd r kn:Addr) (Kn:List Pl) (σ:St):Prop where
 X:Kx g kr K mv md dn fs ck cd σ
 src:ZaG r σ
 kv:σ kn=some (.list (Kn.map ZB))
 ro:¬ own g kr r
 ko:¬ own g kr kn
 ne:kn ≠ r
section
variable {g:PS} {kr:List Addr} {K:List Pl} {mv md dn ck cd r kn:Addr} {fs:Env} {Kn:List Pl} {σ σ':St}
theorem ZbY {r:Addr} {σ:St} (S:ZaG r σ):∃ vs,σ r=some (.list vs):=by
 refine Zik S fun a b h _=>?_
 exact ⟨_,h⟩
theorem ZaG.same {r:Addr} {σ σ':St} {X:Addr->Prop} (S:ZaG r σ) (s:Zw X σ σ') (h:¬ X r):ZaG r σ':=by
 refine Zik S fun a b h1 h2=>?_
 exact ⟨a,b,s.some h1 h,h2⟩
theorem Rt.lo (R:Rt g kr K mv md dn fs ck cd r kn Kn σ) (s:Zw (only g.lo) σ σ') (L:ZN g K σ'):Rt g kr K mv md dn fs ck cd r kn Kn σ':=by
 refine Ze R.X.S.c.L fun lo hl _=>?_
 refine ZU (ZbY R.src) fun vs hr=>?_
 exact ⟨R.X.go s L,R.src.same s (ZQ hr hl (by simp)),s.some R.kv (ZQ R.kv hl (by simp)),R.ro,R.ko,R.ne⟩
theorem Rt.same (R:Rt g kr K mv md dn fs ck cd r kn Kn σ) (s:Zw Zr σ σ'):Rt g kr K mv md dn fs ck cd r kn Kn σ' :=
 ⟨R.X.same s,R.src.same s fun h=>h,s.some R.kv fun h=>h,R.ro,R.ko,R.ne⟩
theorem Rt.take (R:Rt g kr K mv md dn fs ck cd r kn Kn σ) (s:Zw (only r) σ σ') (S:ZaG r σ'):Rt g kr K mv md dn fs ck cd r kn Kn σ':=by
 refine Ze R.X.S.c.L fun lo hl hl2=>?_
 refine ZU (ZbY R.src) fun vs hr=>?_
 refine ⟨R.X.keep s ⟨lo,s.some hl (fun e=>ZQ hr hl (by simp) e.symm),hl2⟩ fun y hy=>.inr ⟨⟨vs,by rw [show y=r from hy]; exact hr⟩,by rw [show y=r from hy]; exact R.ro⟩,S,s.some R.kv R.ne,R.ro,R.ko,R.ne⟩
theorem Rt.known {Kn':List Pl} (R:Rt g kr K mv md dn fs ck cd r kn Kn σ) (s:Zw (only kn) σ σ') (h:σ' kn=some (.list (Kn'.map ZB))):Rt g kr K mv md dn fs ck cd r kn Kn' σ':=by
 refine Ze R.X.S.c.L fun lo hl hl2=>?_
 refine ⟨R.X.keep s ⟨lo,s.some hl (fun e=>ZQ R.kv hl (by simp) e.symm),hl2⟩ fun y hy=>.inr ⟨⟨Kn.map ZB,by rw [show y=kn from hy]; exact R.kv⟩,by rw [show y=kn from hy]; exact R.ko⟩,R.src.same s (fun e=>R.ne e.symm),h,R.ro,R.ko,R.ne⟩
end
structure EnvR (r ck kn:Addr) (bs:List Blk) (ρ:Env):Prop where
 h118:Zo ρ 118=some (.ref r)
 h111:Zo ρ 111=some (.lst (Zy bs))
 h156:Zo ρ 156=some (.ref ck)
 h148:Zo ρ 148=some (.ref kn)
 h5:Zo ρ 5=some (.lst (ZfX bs))
theorem EnvR.set {r ck kn:Addr} {bs:List Blk} {ρ:Env} (h:EnvR r ck kn bs ρ) {x:Nat} {v:LV} (h0:118 ≠ x) (h1:111 ≠ x) (h2:156 ≠ x) (h3:148 ≠ x) (h4:5 ≠ x):EnvR r ck kn bs (Zm ρ x v):=⟨Zl h.h118 h0,Zl h.h111 h1,Zl h.h156 h2,Zl h.h148 h3,Zl h.h5 h4⟩
theorem ZnI {m:Nat} (hm:1<=m) {g:PS} {kr:List Addr} {K:List Pl} {mv md dn ck cd r kn:Addr} {fs:Env} {bs:List Blk}:∀ {rs:List Row} {Kn:List Pl} {σ:St} {ρ:Env} {Q:Fl->Env->St->Prop},Rt g kr K mv md dn fs ck cd r kn Kn σ->PK Kn->(∀ e ∈ rs,ZcL e.1/\Zad e.1 ∈ uni)->EnvR r ck kn bs ρ->
  (∀ ρ' σ',EnvR r ck kn bs ρ'->Rt g kr K mv md dn fs ck cd r kn (ZbE Kn (rs.map (·.1))) σ'->Q .next ρ' σ')->Ze6 (.tp [36,85,100]) (fun ρ Q σ=>ZJ TT0 (CC m) [.expr (.call (.g 157) [(.v 148),(.tup [(.sub (.v 36) (.k (.int 0))),(.slc (.sub (.v 36) (.k (.int 1))) (.v 85))])])] ρ Q σ) (rs.map Zne) ρ Q σ
 | [],Kn,σ,ρ,Q,R,P,h,E,k=>Za1 (k ρ σ E R)
 | e::rs,Kn,σ,ρ,Q,R,P,h,E,k=>by
  rw [List.map_cons]
  refine ZL (h e List.mem_cons_self) fun he hu=>?_
  refine ZL (ZcM he) fun hl1 hl2=>?_
  have hPl:=P.len
  have E1:EnvR r ck kn bs (Zm (Zm (Zm ρ 36 (ZB e.1.1)) 85 (.int e.1.2)) 100 (.int e.2)):=((E.set (by decide) (by decide) (by decide) (by decide) (by decide)).set (by decide) (by decide) (by decide) (by decide) (by decide)).set (by decide) (by decide) (by decide) (by decide) (by decide)
  have h36:Zo (Zm (Zm (Zm ρ 36 (ZB e.1.1)) 85 (.int e.1.2)) 100 (.int e.2)) 36=some (ZB e.1.1):=Zl (Zl ZH (by decide)) (by decide)
  have h85:Zo (Zm (Zm (Zm ρ 36 (ZB e.1.1)) 85 (.int e.1.2)) 100 (.int e.2)) 85=some (.int e.1.2):=Zl ZH (by decide)
  refine Zah (ρ₁:=Zm (Zm (Zm ρ 36 (ZB e.1.1)) 85 (.int e.1.2)) 100 (.int e.2)) rfl ?_
  generalize Zm (Zm (Zm ρ 36 (ZB e.1.1)) 85 (.int e.1.2)) 100 (.int e.2)=ρ1 at E1 h36 h85
  have hs:Zid (.tup (e.1.1.2.map Zcz)) (.int (e.1.2:Int))=some (.tup ((Zad e.1).2.map Zcz)):=by
   rw [Zhk (by rw [List.length_map]; exact o1 hl2) (o48 hl1 hl2)]
   unfold Zad
   rw [List.map_take]
  refine ZaR <| ZD rfl <| Za <| E_p (Zq E1.h148) <| Za <| Zax <| Za <| E_p (v:=.int e.1.1.1) (ZdD (Zq h36) Zbr rfl) <| Za <| Zfq <| E_p (v:=.tup (e.1.1.2.map Zcz)) (ZdD (Zq h36) Zbr rfl) <| E_p (Zq h85) <| IN hs <| Zj <| Zj ?_
  refine ZiW (p:=Zad e.1) hm R.kv (o9 hPl) (by have:=ZcY hu; exact o13 this) fun σ' h1 h2=>Zh ?_
  exact ZnI hm (R.known h2 h1) (P.note hu) (fun x hx=>h x (List.mem_cons_of_mem _ hx)) E1 k
theorem Zq7 {T:Tab} {C:Cal} {ρ:Env} {σ:St} {e f:LE} {Q:LV->St->Prop} (h:wpE T C e ρ (fun a σ₁=>wpE T C f ρ (fun fv σ₂=>match a,fv with
   | .lst xs,.fn g=>xs.length < 64/\ZgV C g xs (fun is σ₃=>is.Pairwise (·<=·)/\Q (.lst xs) σ₃) σ₂
   | _,_=>False) σ₁) σ):wpE T C (.srt e f) ρ Q σ:=by rw [Zso]; exact h
theorem ZnX {T:Tab} {C:Cal} {ρ:Env} {σ:St} {tr:Bool} {fv:List Nat} {elt it it₂:LE} {t t₂:Tg} {Q:LV->St->Prop} (h:wpE T C it ρ (fun iv σ₁=>ZC (ZaD iv) fun xs=>ZC (ZcO fv ρ) fun ρc =>
   xs.length<=1000/\ZaH (fun x K σ₂=>ZC (Z0 t x ρc) fun ρx=>wpE T C it₂ ρx (fun jv σ₃=>ZC (ZaD jv) fun ys =>
    ys.length<=1000/\ZaH (fun y K₂ σ₄=>ZC (Z0 t₂ y ρx) fun ρy=>wpE T C elt ρy (fun u σ₅=>K₂ [u] σ₅) σ₄) ys [] K σ₃) σ₂) xs [] (ZeV tr Q) σ₁) σ):wpE T C (.comp2 tr fv elt t it t₂ it₂) ρ Q σ:=by rw [ZrV]; exact h
open Classical in
theorem ZpX {σ:St} {a b:Addr} {xs:List LV} (ha:σ a=some (.list xs)) (hb:σ b=some (.list xs)) (hk:ZA xs=true):ZbN .NotEq σ (.ref a) (.ref b)=some false:=by
 show (eqL σ (.ref a) (.ref b)).map (!·)=_
 show (eqK σ (.ref a) (.ref b)).map (!·)=_
 unfold eqK
 rw [if_neg (by exact fun h=>nob h),o_r ha,o_r hb]
 show (if (ZA xs&&ZA xs)=true then some (decide (xs=xs)) else none).map _=_
 rw [hk,if_pos (by rfl)]
 simp
section
variable {m:Nat} {g:PS} {kr:List Addr} {K:List Pl} {mv md dn ck cd r kn:Addr} {fs:Env} {σ:St} {ρ:Env}
noncomputable def ZpT:List LS:=[.asg (.nm 159) (.comp false [148] (.tup [(.lm (.v 148) .index [(.v 36)]),(.v 100)]) (.tp [36,100]) (.srt (.call (.g 149) [(.sub (.v 111) (.v 82))]) (.g 158)) none),.ifs (.cmp .NotEq (.meth (.attr (.v 156) 113) 90 [(.sub (.v 5) (.v 82))]) (.v 159)) [.ret (.k (.bool false))] []]
theorem Zol (hm:7<=m) (R:Rt g kr K mv md dn fs ck cd r kn K σ) (hB:BodyOk g.bs) (hR:ZbI K g.bs) (E:EnvR r ck kn g.bs ρ) {i:Nat} {x:Pt × Act} (hxi:(Zn 0 g.bs)[i]?=some x) (h82:Zo ρ 82=some (.int (i:Int))) {Q:Fl->Env->St->Prop}
  (k:∀ ρ' σ',EnvR r ck kn g.bs ρ'->Rt g kr K mv md dn fs ck cd r kn K σ'->Q .next ρ' σ'):ZJ TT0 (CC m) ZpT ρ Q σ:=by
 have hsp:=Zco hB
 have hx:x ∈ Zn 0 g.bs:=List.mem_of_getElem? hxi
 have hKl:=R.X.S.c.P.len
 have hpl:(ZfX g.bs).length=(Zn 0 g.bs).length:=by unfold ZfX; rw [List.length_map]
 have hpt:Zeu (ZfX g.bs) (i:Int)=some (ZaO x.1):=Z5 (by unfold ZfX; rw [List.getElem?_map,hxi]; rfl) (o70 hsp hpl)
 have hrows:=Zbm 0 g.bs
 have hrw:Zeu (Zy g.bs) (i:Int)=some (ZaS (Zf x.2)):=Z5 (by rw [<- hrows,List.getElem?_map,hxi]; rfl) (by rw [<- hrows,List.length_map]; exact o10 hsp)
 have h3:=Zhx x.2
 have he3:=Zcv x.2
 refine Zk <| ZaY <| Zq7 <| ZD rfl <| Za <| ZG <| E_p (Zq E.h111) <| E_p (Zq h82) <| IN (s_l.trans hrw) <| Zj <| Ziz (o22 hm) (o71 h3) (fun e he=>by have:=ZcM (hR x hx e he).1.1; exact o72 this) <| E_p (v:=.fn 44) rfl ⟨by rw [List.length_map]; exact Zuu he3,?_⟩
 refine ZkY (o22 hm) (fun e he=>(hR x hx e (List.mem_filter.mp he).1).2) ⟨Zkw x.2,?_⟩
 refine IN (a:=(Zai (Zf x.2)).map Znw) rfl <| IN (fv1 E.h148) ⟨by rw [List.length_map]; exact Zuv he3,?_⟩
 refine ZcC Znw (Zai (Zf x.2)) (fun (done:List Row) acc σ'=>acc=done.map (fun e=>LV.tup [.int ((idx K e.1.1:Nat):Int),.int e.2])/\σ'=σ) (fun done (e:Row) rest acc σ' K' hall hI kn'=>?_) (fun acc σ' hI=>?_) _ [] [] σ rfl ⟨rfl,rfl⟩
 ·obtain ⟨rfl,rfl⟩:=hI
  have hem:=List.mem_filter.mp (show e ∈ Zai (Zf x.2) by rw [hall]; simp)
  have heK:=(hR x hx e hem.1).1
  have hce:Zad e.1=e.1.1:=by unfold Zad; rw [of_decide_eq_true hem.2,List.take_length]
  have hin:e.1.1 ∈ K:=hce ▸ heK.2
  refine IN (a:=Zm (Zm [(148,.ref kn)] 36 (ZB e.1.1)) 100 (.int e.2)) rfl ?_
  rw [WC0]
  refine Zax <| Za <| ZbH <| E_p (v:=.ref kn) rfl <| IN (o_r R.kv) <| Za <| E_p (v:=ZB e.1.1) rfl <| Zj <| Zhw (o_r R.kv) (ZiL _) (Zds _) (by rw [List.length_map]; exact o3 hKl) (ZhT hin) <| Za <| E_p (v:=.int e.2) rfl <| Zj <| kn' _ _ ⟨?_,rfl⟩
  rw [List.map_append]
  rfl
 ·obtain ⟨rfl,rfl⟩:=hI
  refine ZcA <| IN (a:=Zm ρ 159 (.lst (Zb9 K (Zf x.2)))) rfl ?_
  have E1:EnvR r ck kn g.bs (Zm ρ 159 (.lst (Zb9 K (Zf x.2)))):=E.set (by decide) (by decide) (by decide) (by decide) (by decide)
  have h821:Zo (Zm ρ 159 (.lst (Zb9 K (Zf x.2)))) 82=some (.int (i:Int)):=Zl h82 (by decide)
  have h159:Zo (Zm ρ 159 (.lst (Zb9 K (Zf x.2)))) 159=some (.lst (Zb9 K (Zf x.2))):=ZH
  generalize Zm ρ 159 (.lst (Zb9 K (Zf x.2)))=ρ1 at E1 h821 h159
  have hm90:Zao TT0 σ' (.ref mv) 90=some 30:=Zem R.X.S.c.M.a R.X.S.c.M.d rfl R.X.S.c.M.n.2.2.2.1
  refine Zb6 <| ZF <| ZcK <| Zt (Zq E1.h156) (Zbw R.X.a R.X.d rfl rfl) <| IN hm90 <| Za <| ZG <| E_p (Zq E1.h5) <| E_p (Zq h821) <| IN (s_l.trans hpt) <| Zj <| Zis hm R.X.S.c.F (o9 hKl) R.X.S.c.M hB (Zbd hx) (fun e he=>(hR x hx e he).1) fun σ'' hs=>E_p (Zq h159) <| IN (Zoo (c:=false) (ZiM _ _) (ZiM _ _) (by simp)) <| Zbg rfl <| Zh <| Zh <| k ρ1 σ'' E1 (R.same hs)
noncomputable def ZqI:List LS:=[.asg (.nm 69) (.comp false [118,148] (.call (.g 122) [(.v 118),(.bi .len_ [(.v 148)])]) (.nm 132) (.bi .range_ [(.bin .Add (.k (.int 1)) (.call (.g 122) [(.v 118),(.k (.int 2))]))]) none),.asg (.nm 100) (.call (.g 130) [(.v 118),(.lst [(.g 98),(.g 106),(.g 106),(.g 99),(.g 102)])]),.ifs (.cmp .NotEq (.meth (.v 156) 160 [(.v 69),(.v 100)]) (.call (.g 161) [(.v 148),(.v 5),(.v 111),(.v 69),(.v 100)])) [.ret (.k (.bool false))] []]
theorem Zpa (hm:7<=m) (R:Rt g kr K mv md dn fs ck cd r kn K σ) (hK:0 < K.length) (hB:BodyOk g.bs) (hR:ZbI K g.bs) (E:EnvR r ck kn g.bs ρ) {Q:Fl->Env->St->Prop}
  (k:∀ ρ' σ',EnvR r ck kn g.bs ρ'->Rt g kr K mv md dn fs ck cd r kn K σ'->Q .next ρ' σ'):ZJ TT0 (CC m) ZqI ρ Q σ:=by
 have hKl:=R.X.S.c.P.len
 refine Zk <| ZaY <| Zs <| ZaN <| E_p Zbr <| ZD rfl <| Za <| E_p (Zq E.h118) <| Za <| E_p Zbr <| Zj <| ZaX (o22 hm) R.src (by decide) (by decide) fun t σ1 t0 t1 S1 s1=>IN Zpf ?_
 obtain ⟨t,rfl⟩:=Int.eq_ofNat_of_zero_le t0
 obtain ⟨N,hN⟩:∃ N:Nat,1 + t=N:=⟨_,rfl⟩
 have hN2:(1:Int) + ((t:Nat):Int)=(N:Int):=o73 hN
 rw [hN2]
 have hN3:N<=2:=Zuw t1 hN
 clear hN hN2 t0 t1
 have R1:=R.take s1 S1
 refine IN (Zag (Zux hN3)) <| IN (ZS _) <| IN (fv2 E.h118 E.h148) ⟨by rw [ZbW]; exact Zuy hN3,?_⟩
 refine ZcC (fun (j:Nat)=>LV.int (Int.ofNat j)) (List.range N) (fun done acc σ'=>Rt g kr K mv md dn fs ck cd r kn K σ'/\∃ ns:List Nat,acc=nL ns/\(∀ i ∈ ns,i < K.length)/\ns.length=done.length) (fun done j rest acc σ' K' hall hI kn'=>?_) (fun acc σ' hI=>?_) _ [] [] σ1 rfl ⟨R1,[],rfl,(fun i h=>by cases h),rfl⟩
 ·obtain ⟨R2,ns,rfl,hns,hnl⟩:=hI
  refine IN ZZ ?_
  rw [WC0]
  refine ZD rfl <| Za <| E_p (v:=.ref r) rfl <| Za <| Zs <| E_p (v:=.ref kn) rfl <| IN (Zr4 R2.kv (n:=K.length) (List.length_map ..) (o3 hKl)) <| Zj <| ZaX (o22 hm) R2.src (o20 hK) (Zuz hKl) fun y σ'' y0 y1 S2 s2=>?_
  obtain ⟨y,rfl⟩:=Int.eq_ofNat_of_zero_le y0
  refine kn' _ _ ⟨R2.take s2 S2,ns++[y],by rw [Zen]; rfl,fun i hi=>?_,by rw [List.length_append,List.length_append,hnl]; rfl⟩
  rcases List.mem_append.mp hi with h | h
  ·exact hns i h
  ·rw [List.mem_singleton.mp h]; exact o36 y1
 ·obtain ⟨R2,ns,rfl,hns,hnl⟩:=hI
  rw [List.length_range] at hnl
  refine ZcA <| IN ZZ ?_
  have E1:EnvR r ck kn g.bs (Zm ρ 69 (.lst (nL ns))):=E.set (by decide) (by decide) (by decide) (by decide) (by decide)
  have h69:Zo (Zm ρ 69 (.lst (nL ns))) 69=some (.lst (nL ns)):=ZH
  generalize Zm ρ 69 (.lst (nL ns))=ρ1 at E1 h69
  refine Zk <| ZD rfl <| Za <| E_p (Zq E1.h118) <| Za <| E_p (v:=.lst [.int 0,.int 1,.int 1,.int 2,.int 3]) rfl <| Zj <| ZnJ (o34 hm) R2.src (by simp) (by simp) fun v σ'' hv S3 s3=>?_
  have R3:=R2.take s3 S3
  obtain ⟨st,rfl⟩:∃ st:Nat,v=.int (st:Int):=by
   simp only [List.mem_cons,List.not_mem_nil,or_false] at hv
   rcases hv with rfl | rfl | rfl | rfl | rfl
   ·exact ⟨0,rfl⟩
   ·exact ⟨1,rfl⟩
   ·exact ⟨1,rfl⟩
   ·exact ⟨2,rfl⟩
   ·exact ⟨3,rfl⟩
  refine IN ZZ ?_
  have E2:EnvR r ck kn g.bs (Zm ρ1 100 (.int (st:Int))):=E1.set (by decide) (by decide) (by decide) (by decide) (by decide)
  have h691:Zo (Zm ρ1 100 (.int (st:Int))) 69=some (.lst (nL ns)):=Zl h69 (by decide)
  have h100:Zo (Zm ρ1 100 (.int (st:Int))) 100=some (.int (st:Int)):=ZH
  generalize Zm ρ1 100 (.int (st:Int))=ρ2 at E2 h691 h100
  have hm160:Zao TT0 σ'' (.ref ck) 160=some 33:=Zem R3.X.a R3.X.d rfl rfl
  refine Zb6 <| ZF <| ZaT (Zq E2.h156) hm160 <| Za <| E_p (Zq h691) <| Za <| E_p (Zq h100) <| Zj <| Zel (ZuA hm) R3.X hB hR (o74 hN3 hnl) fun σ4 s4 L4=>?_
  have R4:=R3.lo s4 L4
  refine ZD rfl <| Za <| E_p (Zq E2.h148) <| Za <| E_p (Zq E2.h5) <| Za <| E_p (Zq E2.h111) <| Za <| E_p (Zq h691) <| Za <| E_p (Zq h100) <| Zj <| ZoB (o34 hm) R.X.S.c.P hB hR R4.kv hns (o74 hN3 hnl) fun σ5 s5=>?_
  obtain ⟨ps,hps⟩:=Zg2 K ns st (Zn 0 g.bs)
  have hk:ZA (ZbS K ns st (Zn 0 g.bs))=true:=by rw [hps]; exact Zoy ps
  exact IN (Zoo (c:=false) hk hk (by simp)) <| Zbg rfl <| Zh <| Zh <| k ρ2 σ5 E2 (R4.same s5)
end
theorem Znc {n:Nat} (hn:10<=n) {bs:List Blk} (hB:BodyOk bs) {r:Addr} {σ:St} (S:ZaG r σ) {Q:LV->St->Prop} (k:∀ σ',ZaG r σ'->Q (.bool true) σ'):CC n 46 [.ref r,.lst (bs.map Za8),.lst (Zy bs)] Q σ:=by
 refine Ze (lvl hn) fun m eQ0_1 hm=>?_; subst eQ0_1
 refine Zbp (Zej hB) fun hPK hloc hR=>?_
 have hS:=ZaC hB
 have hSn:=hS.n
 have hsp:=Zco hB
 refine Zd (fd:=f46) rfl rfl ?_
 refine Zk <| Zea (blE:=.v 4) (bl:=bs.map Za8) (o75 hm) rfl fun sp σ1 s1=>IN rfl ?_
 have S1:=S.same s1 fun h=>h
 refine Zk <| Zax <| Za <| ZcJ (fv:=.cls 3) rfl <| Za <| E_p rfl <| Za <| E_p rfl <| Zj <| Zg5 hm hB fun g kr mv md dn fs ck cd σ2 hgb hgs X2 s2 hnew=>?_
 subst hgb hgs
 have S2:=S1.same s2 fun h=>h
 obtain ⟨vs,hr1⟩:=ZbY S1
 have hro:¬ own g kr r:=fun h=>by
  have:=hnew r (.inl h)
  rw [hr1] at this
  exact ns2 this
 refine Za <| ZaY <| ZlV (vs:=[.int 5]) rfl (Zag (n:=5) (by decide)) <| IN (ZS 5) <| IN (a:=[]) rfl ⟨by decide,?_⟩
 refine ZcV (f:=fun v=>LV.tup [v,.tup []]) (Zgd 5) [] σ2 (fun x hx=>⟨_,rfl,rfl⟩) <| Zb5 fun kn hkn=>Zj <| IN rfl ?_
 have s3:Zw Zr σ2 (upd σ2 kn (some (.list ([]++(Zgd 5).map fun v=>LV.tup [v,.tup []])))):=Zw.new hkn
 have hkv:(upd σ2 kn (some (.list ([]++(Zgd 5).map fun v=>LV.tup [v,.tup []])))) kn=some (.list (Zgc.map ZB)):=Zb ..
 generalize upd σ2 kn (some (.list ([]++(Zgd 5).map fun v=>LV.tup [v,.tup []])))=σ3 at s3 hkv
 refine ZU (ZbY S2) fun vs2 hr2=>?_
 have R3:Rt g kr (ZY g.bs) mv md dn fs ck cd r kn Zgc σ3:=⟨X2.same s3,S2.same s3 fun h=>h,hkv,hro,fun h=>X2.S.c.F.ne h hkn,fun e=>by rw [e,hr2] at hkn; cases hkn⟩
 refine Zk <| ZnX <| Zs <| Zs <| E_p rfl <| IN (Zht (List.length_map ..) (o0 hSn)) <| IN (Zag (o0 hSn)) <| IN (ZS _) <| IN (a:=[(4,.lst (g.bs.map Za8))]) rfl ⟨by rw [ZbW]; exact o59 hSn,?_⟩
 refine Zm8 hS <| ZcA <| IN rfl ?_
 have E3:EnvR r ck kn g.bs [(118,.ref r),(4,.lst (g.bs.map Za8)),(111,.lst (Zy g.bs)),(9,BDY g.bs g.sp),(156,.ref ck),(148,.ref kn),(5,.lst (ZfX g.bs))]:=⟨rfl,rfl,rfl,rfl,rfl⟩
 have hrows:=Zbm 0 g.bs
 refine Zgi (v:=.lst (Zy g.bs)) (xs:=(Zn 0 g.bs).map fun x=>ZaS (Zf x.2)) rfl (by rw [hrows]; rfl) ?_
 have hent:∀ x ∈ Zn 0 g.bs,∀ e ∈ Zf x.2,ZcL e.1/\Zad e.1 ∈ uni:=fun x hx e he=>by
  have:=Zia (ZeY hB (Zbd hx)) e he
  exact ⟨this.1,this.2.1⟩
 refine ZgG (fun x:Pt × Act=>ZaS (Zf x.2)) (Zn 0 g.bs) (fun (done:List (Pt × Act)) ρ σ'=>EnvR r ck kn g.bs ρ/\Rt g kr (ZY g.bs) mv md dn fs ck cd r kn (ZbE Zgc (done.flatMap fun (x:Pt × Act)=>(Zf x.2).map (·.1))) σ') (fun done (x:Pt × Act) rest ρ σ' Kk hall hI kk _=>?_) (fun ρ σ' hI=>?_) _ [] _ σ3 rfl ⟨E3,R3⟩
 ·refine ZL hI fun E R=>?_
  have hu:∀ e ∈ done.flatMap (fun (x:Pt × Act)=>(Zf x.2).map (·.1)),Zad e ∈ uni:=fun e he=>by
   refine Ze (List.mem_flatMap.mp he) fun y hy he=>?_
   refine Ze (List.mem_map.mp he) fun w hw eQ0_2=>?_; subst eQ0_2
   exact (hent y (by rw [hall]; exact List.mem_append_left _ hy) w hw).2
  refine IN ZZ <| Zgi (v:=ZaS (Zf x.2)) (Zq ZH) rfl ?_
  refine ZnI (rs:=Zf x.2) (o75 hm) R (Zc9 PK.loc hu).1 (hent x (by rw [hall]; simp)) (E.set (by decide) (by decide) (by decide) (by decide) (by decide)) fun ρ' σ'' E' R'=>Zh (T:=TT0) (C:=CC m) <| kk ρ' σ'' ⟨E',?_⟩
  rw [List.flatMap_append,Zcj]
  have:[x].flatMap (fun (x:Pt × Act)=>(Zf x.2).map (·.1))=(Zf x.2).map (·.1):=by simp
  rw [this]
  exact R'
 ·refine ZL hI fun E R=>?_
  have R4:Rt g kr (ZY g.bs) mv md dn fs ck cd r kn (ZY g.bs) σ':=by
   rw [<- ZfH hB]
   rw [<- ZfH hB] at R
   exact R
  clear R
  show ZJ TT0 (CC m) (_::_) _ _ _
  refine Zb6 <| ZF <| Zd1 <| Zd1 <| Zt (Zq E.h156) (Zbw R4.X.a R4.X.d rfl rfl) <| IN (Zbw R4.X.S.c.M.a R4.X.S.c.M.d rfl R4.X.S.c.M.p) <| IN (Zbw R4.X.S.c.F.p.a R4.X.S.c.F.p.d rfl rfl) <| E_p (Zq E.h148) <| IN (ZpX R4.X.S.c.F.pl R4.kv (Zds _)) <| Zbg rfl <| Zh ?_
  have hpl:(ZfX g.bs).length=(Zn 0 g.bs).length:=by unfold ZfX; rw [List.length_map]
  show ZJ TT0 (CC m) (_::_) _ _ _
  refine ZO <| Zs <| Zs <| E_p (Zq E.h5) <| IN (Zht hpl (o10 hsp)) <| IN (Zag (o10 hsp)) <| IN (ZS _) ?_
  refine Zbx (fun i ρ σ'=>EnvR r ck kn g.bs ρ/\Rt g kr (ZY g.bs) mv md dn fs ck cd r kn (ZY g.bs) σ') (fun i ρ σ' Kk hi hI kk _=>?_) (fun ρ σ' hI=>?_) ⟨E,R4⟩
  ·refine ZL hI fun E' R'=>?_
   refine IN ZZ <| Zol (o76 hm) R' hB hR (E'.set (by decide) (by decide) (by decide) (by decide) (by decide)) (List.getElem?_eq_getElem hi) ZH fun ρ' σ'' E'' R''=>kk ρ' σ'' ⟨E'',R''⟩
  ·refine ZL hI fun E' R'=>?_
   show ZJ TT0 (CC m) (_::_) _ _ _
   refine ZO <| Zs <| E_p Zbr <| IN (Zag (n:=2) (by decide)) <| IN (ZS 2) ?_
   refine Zbx (fun i ρ σ'=>EnvR r ck kn g.bs ρ/\Rt g kr (ZY g.bs) mv md dn fs ck cd r kn (ZY g.bs) σ') (fun i ρ σ' Kk hi hI kk _=>?_) (fun ρ σ' hI=>?_) ⟨E',R'⟩
   ·refine ZL hI fun E5 R5=>?_
    refine IN ZZ <| Zpa (o76 hm) R5 (List.length_pos_of_mem (hloc 0 (by decide))) hB hR (E5.set (by decide) (by decide) (by decide) (by decide) (by decide)) fun ρ' σ'' E'' R''=>kk ρ' σ'' ⟨E'',R''⟩
   ·refine ZL hI fun E5 R5=>?_
    show ZJ TT0 (CC m) (_::_) _ _ _
    exact ZE Zbr (k σ' R5.src)
noncomputable def bs1:List Blk:=[([],End.ret)]
theorem ZpG:BodyOk bs1:=⟨by simp [bs1],by simp [bs1],fun B hB=>by
 simp only [bs1,List.mem_singleton] at hB
 subst hB
 exact ⟨(fun s hs=>by cases hs),(by simp),trivial⟩⟩
structure Ad (g:PS) (r kn:Addr) (K:List Pl) (σ:St):Prop where
 pk:PK K
 fix:∃ kr,Fix g kr K σ/\¬ own g kr r/\¬ own g kr kn
 kv:σ kn=some (.list (K.map ZB))
 src:ZaG r σ
 ne:kn ≠ r
noncomputable def Zpw:List LS:=[.asg (.tp [36,85]) (.call (.g 131) [(.v 118)]),.expr (.call (.g 157) [(.v 148),(.v 36)]),.ifs (.bool false (.cmp .NotEq (.meth (.v 88) 71 [(.v 36)]) (.lm (.v 148) .index [(.v 36)])) (.cmp .NotEq (.attr (.v 88) 66) (.v 148))) [.ret (.k (.bool false))] []]
structure EnvA (g:PS) (r kn:Addr) (ρ:Env):Prop where
 h118:Zo ρ 118=some (.ref r)
 h88:Zo ρ 88=some (.ref g.a)
 h148:Zo ρ 148=some (.ref kn)
theorem EnvA.set {g:PS} {r kn:Addr} {ρ:Env} (h:EnvA g r kn ρ) {x:Nat} {v:LV} (h0:118 ≠ x) (h1:88 ≠ x) (h2:148 ≠ x):EnvA g r kn (Zm ρ x v):=⟨Zl h.h118 h0,Zl h.h88 h1,Zl h.h148 h2⟩
theorem Zn1 {m:Nat} (hm:5<=m) {g:PS} {r kn:Addr} {K:List Pl} {σ:St} {ρ:Env} (A:Ad g r kn K σ) (E:EnvA g r kn ρ) {Q:Fl->Env->St->Prop} (k:∀ ρ' σ' K',EnvA g r kn ρ'->Ad g r kn K' σ'->Q .next ρ' σ'):ZJ TT0 (CC m) Zpw ρ Q σ:=by
 have hPl:=A.pk.len
 refine Zk <| ZD rfl <| Za <| E_p (Zq E.h118) <| Zj <| Zde (ZuB hm) A.src fun e σ1 he S1 s1=>?_
 refine IN (a:=Zm (Zm ρ 36 (ZB e.1)) 85 (.int e.2)) rfl ?_
 have hu:e.1 ∈ uni:=by
  have:∀ e ∈ Zbe,e.1 ∈ uni:=by decide
  exact this e he
 have hul:=ZcY hu
 have E1:EnvA g r kn (Zm (Zm ρ 36 (ZB e.1)) 85 (.int e.2)):=(E.set (by decide) (by decide) (by decide)).set (by decide) (by decide) (by decide)
 have h36:Zo (Zm (Zm ρ 36 (ZB e.1)) 85 (.int e.2)) 36=some (ZB e.1):=Zl ZH (by decide)
 generalize Zm (Zm ρ 36 (ZB e.1)) 85 (.int e.2)=ρ1 at E1 h36
 have kv1:=s1.some A.kv A.ne
 refine ZaR <| ZD rfl <| Za <| E_p (Zq E1.h148) <| Za <| E_p (Zq h36) <| Zj <| ZiW (o31 hm) kv1 (o9 hPl) (o13 hul) fun σ2 kv2 s2=>?_
 refine Zdk A.fix fun kr F hro hko=>?_
 have F1:=F.same s1 fun x hx e=>hro (by rw [<- show x=r from e]; exact hx)
 have F2:=F1.same s2 fun x hx e=>hko (by rw [<- show x=kn from e]; exact hx)
 have S2:=S1.same s2 fun e=>A.ne (show r=kn from e).symm
 have hm71:Zao TT0 σ2 (.ref g.a) 71=some 19:=Zem F2.p.a F2.p.d rfl rfl
 refine Zb6 <| ZaP <| ZF <| ZaT (Zq E1.h88) hm71 <| Za <| E_p (Zq h36) <| Zj <| Zno e.1.2.length (ZuC hm hul) rfl F2 A.pk hu fun kr' σ3 F3 s3 hk1 hk2=>?_
 have kv3:=s3.some kv2 fun h=>hko (.inr (.inr h))
 have S3:=S2.same s3 fun h=>hro (.inr (.inr h))
 have hP':=A.pk.note hu
 have hPl':=hP'.len
 refine ZU (ZbY S2) fun vs hr2=>?_
 have grow:∀ x,σ2 x ≠ none->¬ own g kr x->¬ own g kr' x:=fun x hx hn h=>by
  rcases h with h | h | h | h | h | h | h
  ·exact hn (.inl h)
  ·exact hn (.inr (.inl h))
  ·exact hn (.inr (.inr (.inl h)))
  ·exact hn (.inr (.inr (.inr (.inl h))))
  ·exact hn (.inr (.inr (.inr (.inr (.inl h)))))
  ·exact hn (.inr (.inr (.inr (.inr (.inr (.inl h))))))
  ·refine Or.elim (hk1 x h) (fun h=>?_) fun h=>?_
   ·exact hn (.inr (.inr (.inr (.inr (.inr (.inr h))))))
   ·exact hx h
 have A3:Ad g r kn (Zaf K e.1) σ3:=⟨hP',⟨kr',F3,grow r (by rw [hr2]; simp) hro,grow kn (by rw [kv2]; simp) hko⟩,kv3,S3,A.ne⟩
 refine ZbH <| E_p (Zq E1.h148) <| IN (o_r kv3) <| Za <| E_p (Zq h36) <| Zj <| Zhw (o_r kv3) (ZiL _) (Zds _) (by rw [List.length_map]; exact o3 hPl') (ZhT (ZfN A.pk hu)) ?_
 refine IN (Zrk (c:=false) (Zqa _) (Zqa _) (by simp)) <| ZbL rfl <| ZF <| Zt (Zq E1.h88) (Zbw F3.p.a F3.p.d rfl rfl) <| E_p (Zq E1.h148) <| IN (ZpX F3.pl kv3 (Zds _)) <| Zbg rfl <| Zh <| Zh <| k ρ1 σ3 _ E1 A3
theorem Zl3 {n:Nat} (hn:7<=n) {r:Addr} {σ:St} (S:ZaG r σ) {Q:LV->St->Prop} (k:∀ σ',Q (.bool true) σ'):CC n 47 [.ref r] Q σ:=by
 refine Ze (lvl hn) fun m eQ0_1 hm=>?_; subst eQ0_1
 refine Zd (fd:=f47) rfl rfl ?_
 refine Zk <| ZcJ (fv:=.cls 1) rfl <| Za <| Zea (blE:=.lst [(.lst [(.lst []),(.tup [(.k (.w 140))])])]) (bl:=bs1.map Za8) (o14 hm) rfl fun sp σ1 s1=>Za <| E_p rfl <| Zj <| Zla hm ZpG fun g kr σ2 hgb hgs F2 P2 L2 s2 hnew=>IN rfl ?_
 have S1:=S.same s1 fun h=>h
 have S2:=S1.same s2 fun h=>h
 refine ZU (ZbY S1) fun vs hr1=>?_
 refine ZU (ZbY S2) fun vs2 hr2=>?_
 refine Zk <| ZaY <| ZlV (vs:=[.int 5]) rfl (Zag (n:=5) (by decide)) <| IN (ZS 5) <| IN (a:=[]) rfl ⟨by decide,?_⟩
 refine ZcV (f:=fun v=>LV.tup [v,.tup []]) (Zgd 5) [] σ2 (fun x hx=>⟨_,rfl,rfl⟩) <| Zb5 fun kn hkn=>IN rfl ?_
 have s3:Zw Zr σ2 (upd σ2 kn (some (.list ([]++(Zgd 5).map fun v=>LV.tup [v,.tup []])))):=Zw.new hkn
 have hkv:(upd σ2 kn (some (.list ([]++(Zgd 5).map fun v=>LV.tup [v,.tup []])))) kn=some (.list (Zgc.map ZB)):=Zb ..
 generalize upd σ2 kn (some (.list ([]++(Zgd 5).map fun v=>LV.tup [v,.tup []])))=σ3 at s3 hkv
 have hfin:ZY bs1=Zgc:=rfl
 rw [hfin] at F2 P2
 have A3:Ad g r kn Zgc σ3:=⟨P2,⟨kr,F2.same s3 fun _ _ h=>h,(fun h=>by
  have:=hnew r (.inl h)
  rw [hr1] at this
  cases this),fun h=>F2.ne h hkn⟩,hkv,S2.same s3 fun h=>h,fun e=>by rw [e,hr2] at hkn; cases hkn⟩
 refine ZO <| Zs <| ZaN <| E_p Zbr <| ZD rfl <| Za <| E_p rfl <| Za <| E_p Zbr <| Zj <| ZaX (o14 hm) A3.src (by decide) (by decide) fun t σ4 t0 t1 S4 s4=>IN Zpf ?_
 refine ZU (Int.eq_ofNat_of_zero_le t0) fun t eQ0_1=>?_; subst eQ0_1
 refine ZU (show ∃ N:Nat,1 + t=N from ⟨_,rfl⟩) fun N hN=>?_
 have hN2:(1:Int) + ((t:Nat):Int)=(N:Int):=o73 hN
 rw [hN2]
 have hN3:N<=5:=ZuD t1 hN
 clear hN hN2 t0 t1
 have A4:Ad g r kn Zgc σ4:=by
  refine Zdk A3.fix fun kr F hro hko=>?_
  exact ⟨A3.pk,⟨kr,F.same s4 fun x hx e=>hro (by rw [<- show x=r from e]; exact hx),hro,hko⟩,s4.some A3.kv A3.ne,S4,A3.ne⟩
 refine IN (Zag (ZuE hN3)) <| IN (ZS _) ?_
 refine Zbx (fun i ρ σ'=>EnvA g r kn ρ/\∃ K,Ad g r kn K σ') (fun i ρ σ' Kk hi hI kk _=>?_) (fun ρ σ' hI=>?_) ⟨⟨rfl,rfl,rfl⟩,Zgc,A4⟩
 ·refine ZL hI fun E hR0=>?_; refine ZU hR0 fun K A=>?_
  exact IN ZZ <| Zn1 (ZuF hm) A (E.set (by decide) (by decide) (by decide)) fun ρ' σ'' K' E' A'=>kk ρ' σ'' ⟨E',K',A'⟩
 ·show ZJ TT0 (CC m) (_::_) _ _ _
  exact ZE Zbr (k σ')
theorem ZnY {T:Tab} {C:Cal} {ρ:Env} {σ:St} {es:List LE} {Q:LV->St->Prop} (h:Zcs T C es ρ (fun vs σ₁=>ZeV true Q vs σ₁) σ):wpE T C (.lstR es) ρ Q σ:=by rw [ZrS]; exact h
theorem Zql (c:Bool):(if c=true then (1:Int) else 0).natAbs < 2 ^ 62:=by cases c <;> decide
theorem ZoS {n:Nat} (hn:1<=n) {xs:List Int} (hl:xs.length<=1000) {σ:St} {Q:LV->St->Prop} (k:∀ r σ',ZaG r σ'->Zw Zr σ σ'->Q (.ref r) σ'):CC n 34 [.lst (xs.map .int)] Q σ:=by
 refine Ze (lvl hn) fun m eQ0_1 hm=>?_; subst eQ0_1
 refine Zd (fd:=f34) rfl rfl ?_
 have tail:∀ c:Int,ZJ TT0 (CC m) [.asg (.nm 117) (.bi .max_ [(.v 116),(.bin .Sub (.neg 1) (.v 116))]),
  .ret (.lstR [(.bin .Mult (.v 117) (.bi .int_ [(.cmp .GtE (.v 117) (.bin .Pow (.k (.int 10)) (.k (.int 18))))])),(.bin .Mod (.bin .Mult (.bin .Add (.bin .Mod (.v 117) (.k (.int 2147483629))) (.k (.int 17))) (.k (.int 48271))) (.k (.int 2147483647)))])] [(115,.lst (xs.map .int)),(116,.int c)] (fun fl _ σ₁=>match fl with
    | .ret v=>Q v σ₁
    | .next=>Q .none σ₁) σ:=by
  intro c
  refine Zk <| ZlV (vs:=[.int c,.int (-1 - c)]) rfl Zrw <| IN rfl ?_
  generalize max c (-1 - c)=G
  refine ZI <| ZnY <| Za <| ZaN <| E_p rfl <| Zs <| ZF <| E_p rfl <| ZaN <| E_p rfl <| E_p rfl <| IN Zsu <| IN Zri <| IN Zru <| IN (ZpC.trans (if_pos (.inr (Zql _)))) <| Za <| ZaN <| ZaN <| ZaN <| ZaN <| E_p rfl <| E_p rfl <| IN (Zpg.trans (if_pos (by decide))) <| E_p rfl <| IN Zpf <| E_p rfl <| IN (ZpC.trans (if_pos (.inr (by decide)))) <| E_p rfl <| IN (Zpg.trans (if_pos (by decide))) <| Zj <| Zb5 fun r hr=>?_
  exact k r _ ⟨_,_,Zb ..,Int.fmod_nonneg_of_pos _ (by decide),Int.fmod_lt_of_pos _ (by decide)⟩ (Zw.new hr)
 refine Zk <| Zdl <| ZF <| Zs <| E_p rfl <| IN (Zht (n:=xs.length) (List.length_map ..) (o8 hl)) <| E_p Zbr <| IN Zr1 ?_
 by_cases h:(0:Int) < ((xs.length:Nat):Int)
 ·refine ZcR (decide_eq_true h) ?_
  refine ZU (show ∃ x,xs[0]?=some x from ⟨xs[0]'(ZuG h),List.getElem?_eq_getElem _⟩) fun x hx=>?_
  refine ZG <| E_p rfl <| E_p Zbr <| IN (s_l.trans (Z5 (i:=0) (v:=.int x) (by rw [List.getElem?_map,hx]; rfl) (by rw [List.length_map]; exact o8 hl))) <| IN rfl (tail x)
 ·exact Zbg (decide_eq_false h) <| E_p Zbr <| IN rfl (tail 0)
noncomputable def bs0:List Blk:=[([],End.drop ((2,[]),0) 1),([],End.ret)]
theorem Zj9:BodyOk bs0:=⟨by simp [bs0],by simp [bs0],fun B hB=>by
 simp only [bs0,List.mem_cons,List.not_mem_nil,or_false] at hB
 rcases hB with rfl | rfl
 ·exact ⟨(fun s hs=>by cases hs),(by simp),(by decide),(by decide)⟩
 ·exact ⟨(fun s hs=>by cases hs),(by simp),trivial⟩⟩
open Classical in
theorem ZrD:ZbS (ZY bs0) [2] 1 (Zn 0 bs0)=[ZaO (0,0)]/\ZbS (ZY bs0) [2] 0 (Zn 0 bs0)=[]:=by
 have hK:ZY bs0=Zgc:=rfl
 have hs:Zn 0 bs0=[((0,0),.inr (.drop ((2,[]),0) 1)),((1,0),.inr .ret)]:=rfl
 have e1:Zai (Zf (.inr (.drop ((2,[]),0) 1)))=[(((2,[]),0),3)]:=rfl
 have e2:Zai (Zf (.inr .ret))=[]:=rfl
 rw [hK,hs]
 unfold ZbS
 simp only [List.flatMap_cons,List.flatMap_nil,e1,e2]
 unfold Zbc
 have h1:ZgN Zgc [2] 1 (((2,[]),0),3)=true:=by
  unfold ZgN
  rw [decide_eq_true]
  exact ⟨.inr ⟨rfl,rfl⟩,2,by simp,(2,[]),(2,[]),rfl,rfl,Zi6 _⟩
 have h2:ZgN Zgc [2] 0 (((2,[]),0),3)=false:=by
  unfold ZgN
  rw [decide_eq_false]
  rintro ⟨h,_⟩
  rcases h with h | ⟨_,h⟩ <;> cases h
 simp [h1,h2]
theorem Zqe {n:Nat} (hn:11<=n) {xs:List Int} (hl:xs.length<=1000) {σ:St}:CC n 48 [.lst (xs.map .int)] (fun v _=>v=.bool true) σ:=by
 refine Ze (lvl hn) fun m eQ0_1 hm=>?_; subst eQ0_1
 refine Zd (fd:=f48) rfl rfl ?_
 refine Zb6 <| ZF <| ZlV (vs:=[.lst [.int 0,.int 1,.int 2,.int 3]]) (v:=.lst [.int 0,.int 1,.int 2,.int 3]) rfl rfl <| E_p rfl <| IN (Zoo (c:=false) rfl rfl (by simp)) <| Zbg rfl <| Zh ?_
 show ZJ TT0 (CC m) (_::_) _ _ _
 refine Z7 (v:=.lst (bs0.map Za8)) rfl rfl ?_
 refine Zk <| ZcJ (fv:=.cls 3) rfl <| Za <| Zea (blE:=.v 4) (bl:=bs0.map Za8) (o77 hm) rfl fun sp σ1 s1=>Za <| E_p rfl <| Zj <| Zg5 (ZuH hm) Zj9 fun g kr mv md dn fs ck cd σ2 hgb hgs X2 s2 hnew=>IN rfl ?_
 refine Zbp (Zej Zj9) fun hPK hloc hR=>?_
 refine ZL ZrD fun hm1 hm2=>?_
 rw [<- hgb] at X2 hR hm1 hm2
 have hB:BodyOk g.bs:=by rw [hgb]; exact Zj9
 have hm160:∀ {σ'},Kx g kr (ZY g.bs) mv md dn fs ck cd σ'->Zao TT0 σ' (.ref ck) 160=some 33:=fun X=>Zem X.a X.d rfl rfl
 refine Zb6 <| ZaP <| ZF <| ZaT (u:=.ref ck) rfl (hm160 X2) <| Za <| E_p (v:=.lst (nL [2])) rfl <| Za <| E_p (v:=.int ((1:Nat):Int)) rfl <| Zj <| Zel (o78 hm) X2 hB hR (by simp) fun σ3 s3 L3=>?_
 rw [hm1]
 have X3:=X2.go s3 L3
 refine E_p (v:=.lst [ZaO (0,0)]) rfl <| IN (Zoo (c:=false) rfl rfl (by simp)) <| ZbL rfl <| ZF <| ZaT (u:=.ref ck) rfl (hm160 X3) <| Za <| E_p (v:=.lst (nL [2])) rfl <| Za <| E_p (v:=.int ((0:Nat):Int)) rfl <| Zj <| Zel (o78 hm) X3 hB hR (by simp) fun σ4 s4 L4=>?_
 rw [hm2]
 refine E_p (v:=.lst []) rfl <| IN (Zoo (c:=false) rfl rfl (by simp)) <| Zbg rfl <| Zh ?_
 show ZJ TT0 (CC m) (_::_) _ _ _
 refine Zk <| ZD rfl <| Za <| E_p rfl <| Zj <| ZoS (o77 hm) hl fun r σ5 S5 s5=>IN rfl ?_
 refine Zk <| ZD rfl <| Za <| E_p rfl <| Zj <| Zob (ZuI hm) S5 fun bs σ6 hBs S6 s6=>IN rfl ?_
 refine ZI <| ZaP <| ZD rfl <| Za <| E_p rfl <| Za <| E_p rfl <| Za <| E_p rfl <| Zj <| Znc hm hBs S6 fun σ7 S7=>ZbL rfl <| ZD rfl <| Za <| E_p rfl <| Zj <| Zl3 (ZuJ hm) S7 fun σ8=>rfl
end
section
open PySem PySem.W PyProof.Rows PySem.Calls
set_option maxRecDepth 10000
noncomputable abbrev pw:Program:=PySem.Challenge.pw_xm0610_01
noncomputable def Zdy (st:Nat->Option Value->Thread->Bool) (go:SharedT->Thread->Option (SharedT × Thread)) (n₀:Nat) (ann:Option Value):Nat->SharedT->Thread->Option SharedT
 | 0,_,_=>none
 | n + 1,s,t=>match through t with
  | true=>some s
  | false=>match st n₀ ann t with
   | false=>none
   | true=>match go s t with
    | some (s',t')=>Zdy st go n₀ ann n s' t'
    | none=>none
theorem ZlI (st go n₀ ann n s t):Zdy st go n₀ ann (n + 1) s t=match through t with | true=>some s | false=>match st n₀ ann t with | false=>none | true=>match go s t with | some (s',t')=>Zdy st go n₀ ann n s' t' | none=>none:=rfl
theorem Zho {tb:String->Option Builtin} {p:Program} {w:World} {n₀:Nat} {ann:Option Value}:∀ {n:Nat} {s s':SharedT} {t:Thread},Zdy stepOk (stepT (denote tb) p w) n₀ ann n s t=some s'->topRun tb p w n₀ ann n s.abs t=some s'.abs
 | 0,_,_,_,h=>by cases h
 | n + 1,s,s',t,h=>by
  rw [ZlI] at h
  unfold topRun
  cases he:through t with
  | true=>rw [he] at h; cases h; rfl
  | false =>
   rw [he] at h
   cases hk:stepOk n₀ ann t with
   | false=>rw [hk] at h; cases h
   | true =>
    rw [hk] at h
    cases hs:stepT (denote tb) p w s t with
    | none=>rw [hs] at h; cases h
    | some r=>obtain ⟨s₂,t₂⟩:=r; rw [hs] at h; rw [stepT_spec hs]; exact Zho h
noncomputable def ZkO:List Obj->Nat->BT->BT
 | [],_,t=>t
 | o::r,n,t=>ZkO r (n + 1) (t.ins n o)
noncomputable def ZkP:List Obj->Nat->BT->Bool
 | [],_,_=>true
 | o::r,n,t=>((t.ins n o).get n).isSome&&ZkP r (n + 1) (t.ins n o)
theorem Zfa {life:Life}:∀ (l:List Obj) (n:Nat) (t:BT),ZkP l n t=true->absHeap (ZkO l n t) (n + l.length) life=⟨((absHeap t n life).objs.toList++l).toArray,life⟩
 | [],n,t,_=>by
  show absHeap t n life=_
  rw [List.append_nil]
  exact rfl
 | o::r,n,t,h=>by
  obtain ⟨h1,h2⟩:=Bool.and_eq_true_iff.mp h
  have e:=Zfa (life:=life) r (n + 1) (t.ins n o) h2
  rw [absHeap_ins h1,Nat.add_assoc,Nat.add_comm 1] at e
  refine Eq.trans e ?_
  show Heap.mk ((((absHeap t n life).objs.push o).toList++r).toArray) life=_
  rw [Array.toList_push,List.append_assoc]
  rfl
noncomputable def ZpF (P:Params):BT:=ZkO (boot_heap P).objs.toList 0 .nil
theorem Ziq (P:Params):(ZkP (boot_heap P).objs.toList 0 .nil&&Nat.beq (boot_heap P).objs.toList.length 11&&((boot_heap P).isNs mainGlobals&&(#[]:Array GenState).size == 0) &&
  Nat.beq (boot_heap P).objs.size 11&&(match (boot_heap P).nsMap mainGlobals "__annotations__" with | some (.ref a)=>Nat.beq a 6 | _=>false))=true:=by kernel_rfl
theorem Zl9 (P:Params):absHeap (ZpF P) 11 (boot_heap P).life=boot_heap P:=by
 have c:=Bool.and_eq_true_iff.mp (Bool.and_eq_true_iff.mp (Bool.and_eq_true_iff.mp (Bool.and_eq_true_iff.mp (Ziq P)).1).1).1
 have e:=Zfa (life:=(boot_heap P).life) _ 0 .nil c.1
 rw [Nat.zero_add,Nat.eq_of_beq_eq_true c.2] at e
 exact e
noncomputable def S0T (P:Params) (os:OsState):SharedT:=⟨ZpF P,11,(boot_heap P).life,#[],boot_drawn,boot_toks,os⟩
noncomputable def Zry:List Stmt:=pw.main.body.filter fun s=>match s with | .FunctionDef n ..=>n == "law" | _=>false
noncomputable def qV:Program:={ pw with main:={ pw.main with body:=Zry } }
noncomputable def Zff:List Str:=(pw.main.scope.names.map (·.1)).filter fun n=>n != "law"
noncomputable def XtV (s:Shared):Bool:=recOk (RowW.records PySem.Challenge.rw_xm0610_01.row.toRowW) s
noncomputable abbrev Zh0:List Str:=importedModules pw.main.body
theorem Zoz {α:Type} {q:Program} {loose:List Str} {Xt:Shared->Bool} {Yf:Shared->α} {Ya:World->α} {N M:Nat} (hM:M<=N)
  (e:opening pw=plainProg pw.main.scope.names) (hN:Nat.ble 600 N=true) (f:∀ s,fenceModules? pw s=some s)
  (run:∀ (w:World) (os:OsState),(Zdy stepOk (stepT (denote treeTable) pw w) 11 (some (.ref 6)) M (S0T w.params os) (topStub pw)).map (fun s =>
   (staticsOk Zh0 (boot_heap w.params) s.abs.heap&&namesBound pw s.abs.heap&&gensDone s.abs&&laidKept (boot_heap w.params) s.abs.heap,openSeen q loose Zh0 Xt true s.abs,Yf s.abs))=some (true,openGood q loose,Ya w)) :
  LeftO pw q loose Xt Yf Ya N:=fun w=>by
 obtain ⟨⟨h,gs,d,k,os⟩,e1,e2⟩:=Option.map_eq_some_iff.mp (boot_open e hN f w)
 obtain ⟨rfl,rfl,rfl,rfl⟩:h=boot_heap w.params/\gs=#[]/\d=boot_drawn/\k=boot_toks:=by simpa using e2
 obtain ⟨r,r1,r2⟩:=Option.map_eq_some_iff.mp (run w os)
 obtain ⟨l1,l2,l3⟩:_/\_/\_:=by simpa only [Prod.mk.injEq] using r2
 have c:=Ziq w.params
 simp only [Bool.and_eq_true] at c
 obtain ⟨⟨⟨_,z1⟩,z2⟩,z3⟩:=c
 have z2:=Nat.eq_of_beq_eq_true z2
 have z3:(boot_heap w.params).nsMap mainGlobals "__annotations__" = some (.ref 6):=by
  revert z3
  cases (boot_heap w.params).nsMap mainGlobals "__annotations__" with
  | none=>intro h; cases h
  | some v=>cases v <;> intro h <;> first | (rw [Nat.eq_of_beq_eq_true h]) | cases h
 have z1:((boot_heap w.params).isNs mainGlobals&&(#[]:Array GenState).size == 0)=true:=by simpa using z1
 have t:=topRun_mono (N - M) _ _ _ _ (Zho r1)
 rw [show M + (N - M)=N by exact o99 hM] at t
 have ab:(S0T w.params os).abs=⟨boot_heap w.params,#[],boot_drawn,boot_toks,os⟩:=by
  show Shared.mk _ _ _ _ _=_
  rw [show absHeap (S0T w.params os).tree (S0T w.params os).n (S0T w.params os).life=boot_heap w.params from Zl9 w.params]
  rfl
 rw [ab] at t
 unfold openEnds
 rw [e1]
 show ((topFrom treeTable pw w N ⟨boot_heap w.params,#[],boot_drawn,boot_toks,os⟩)).map _=_
 have T:topFrom treeTable pw w N ⟨boot_heap w.params,#[],boot_drawn,boot_toks,os⟩=some r.abs:=by
  unfold topFrom
  rw [z1,z2,z3,t]
  show (match staticsOk Zh0 (boot_heap w.params) r.abs.heap&&namesBound pw r.abs.heap&&gensDone r.abs&&laidKept (boot_heap w.params) r.abs.heap with | true=>_ | false=>_)=_
  rw [l1]
 rw [T]
 show some (openSeen q loose Zh0 Xt true r.abs,Yf r.abs)=some _
 rw [l2,l3]
end
section
open PySem PySem.W PyProof.Rows PySem.Calls
set_option maxRecDepth 1000000
set_option maxHeartbeats 0
theorem op1:opening pw=plainProg pw.main.scope.names:=by kernel_rfl
theorem op2:∀ s,fenceModules? pw s=some s:=fun s=>by kernel_rfl
noncomputable def ZgA:Nat->List Obj->Frag
 | _,[]=>[]
 | n,o::r=>match alive o with
  | some o=>(n,o)::ZgA (n + 1) r
  | none=>ZgA (n + 1) r
theorem Zom (n o r):ZgA n (o::r)=match alive o with | some o=>(n,o)::ZgA (n + 1) r | none=>ZgA (n + 1) r:=rfl
theorem ZgB:∀ {l:List Obj} {n a:Nat} {o:Obj},(ZgA n l).lookup a=some o->∃ i x,a=n + i/\l[i]?=some x/\alive x=some o
 | [],n,a,o,h=>by cases h
 | x::r,n,a,o,h=>by
  have rest:(ZgA (n + 1) r).lookup a=some o->∃ i x',a=n + i/\(x::r)[i]?=some x'/\alive x'=some o:=fun q=>by
   obtain ⟨i,x',e,g,al⟩:=ZgB q
   exact ⟨i + 1,x',ZsD e,g,al⟩
  rw [Zom] at h
  cases al:alive x with
  | none=>rw [al] at h; exact rest h
  | some y =>
   rw [al] at h
   rw [List.lookup_cons] at h
   cases e:a == n with
   | false=>rw [e] at h; exact rest h
   | true=>rw [e] at h; cases h; exact ⟨0,x,eq_of_beq e,rfl,al⟩
noncomputable def Ze7 (h:Heap):Frag:=ZgA 0 h.objs.toList
set_option backward.match.sparseCases true in
theorem ZkB (h:Heap):(Ze7 h).In h:=fun a o e=>by
 obtain ⟨i,x,ei,g,al⟩:=ZgB e
 rw [Nat.zero_add] at ei
 subst ei
 have g':h.objs[a]?=some x:=by rw [<- Array.getElem?_toList]; exact g
 unfold Heap.get?
 rw [g']
 exact (show (match some x with | some ⟨_,_,.freed,_⟩=>none | o=>o)=alive x by obtain ⟨c,d,dt,sl⟩:=x; cases dt <;> rfl).trans al
noncomputable def Zr8 (s:Shared):Bool:=Zkf (Ze7 s.heap)&&Zkg (Ze7 s.heap)
noncomputable abbrev Zpe {β:Type} (st:Nat->Option Value->Thread->Bool) (go:Program->World->SharedT->Thread->Option (SharedT × Thread)) (X:World->Shared->β) (Zpj:β):Prop:=∀ (w:World) (os:OsState),
 (Zdy st (go pw w) 11 (some (.ref 6)) 4000 (S0T w.params os) (topStub pw)).map (fun s=>X w s.abs)=some Zpj
noncomputable abbrev Zqh (w:World) (s:Shared):Bool:=staticsOk Zh0 (boot_heap w.params) s.heap&&namesBound pw s.heap&&gensDone s&&laidKept (boot_heap w.params) s.heap
theorem ZrK:Zpe Fast.tw6613529449190102663 (Fast.tw10156331382660048174 (Fast.tw11892475500146522536 Fast.tw14364793385576792824)) (fun w s=>(Zqh w s,Fast.tw4187177175401517315 qV Zff Zh0 XtV true s,Zkg (Ze7 s.heap))) (true,openGood qV Zff,true):=fun w os=>by kernel_rfl
theorem ZrL:Zpe Fast.tw6613529449190102663 (Fast.tw10156331382660048174 (Fast.tw11892475500146522536 Fast.tw14364793385576792824)) (fun w s=>Zkf (Ze7 s.heap)) true:=fun w os=>by kernel_rfl
theorem Znf {st:Nat->Option Value->Thread->Bool} {go:Program->World->SharedT->Thread->Option (SharedT × Thread)} {β:Type} {l:World->Shared->Bool} {f:Shared->β} {g h:Shared->Bool} {Zpj:β} (a:Zpe st go (fun w s=>(l w s,f s,h s)) (true,Zpj,true)) (b:Zpe st go (fun w s=>g s) true) :
  Zpe st go (fun w s=>(l w s,f s,g s&&h s)) (true,Zpj,true):=fun w os=>by
 obtain ⟨s,e,q⟩:=Option.map_eq_some_iff.mp (a w os)
 have b':=b w os
 rw [e] at b' ⊢
 obtain ⟨q1,q2⟩:=Prod.mk.inj q
 obtain ⟨q2,q3⟩:=Prod.mk.inj q2
 exact congrArg some (Prod.ext q1 (Prod.ext q2 (Bool.and_eq_true_iff.mpr ⟨Option.some.inj b',q3⟩)))
theorem Zqx:Zpe stepOk (stepT (denote treeTable)) (fun w s=>(Zqh w s,openSeen qV Zff Zh0 XtV true s,Zr8 s)) (true,openGood qV Zff,true):=by
 rw [Fast.te6613529449190102663,Fast.te10156331382660048174,Fast.te11892475500146522536,Fast.te14364793385576792824,Fast.te4187177175401517315]
 exact Znf ZrK ZrL
noncomputable abbrev rwV:OpenLaw:=PySem.Challenge.rw_xm0610_01
theorem Zrz:LeftO pw qV Zff XtV Zr8 (fun _=>true) 4000:=Zoz (M:=4000) (Nat.le_refl _) op1 (by decide) op2 Zqx
theorem Zqy:Fast.tw9446332074065402090 rwV=true:=by kernel_rfl
theorem ZrM:rwV.wellSaid=true:=by rw [Fast.te9446332074065402090]; exact Zqy
theorem Zit:(defOf qV "law").isSome=true:=by kernel_rfl
noncomputable def dV:DefRec × List (Str × Expr):=(defOf qV "law").get Zit
theorem ZpM:defOf qV "law" = some (dV.1,dV.2):=(Option.some_get Zit).symm
theorem ZpN:pw.theDef "law" = some (dV.1.params,dV.1.body,dV.1.scope):=by kernel_rfl
theorem ZpO:kwWritten? dV.1.params.kwonlyargs dV.1.params.kw_defaults=some dV.2:=by kernel_rfl
theorem ZoO:(chainsOk qV&&opensWell pw&&(frees rwV.row.toRowW&&rwV.row.toRowW.within.isEmpty))=true:=by kernel_rfl
theorem Zre:rwV.prog.bare:=⟨rfl,rfl,rfl,rfl,rfl,by decide +kernel⟩
theorem ZrH:rwV.row.toRowW.promised:=⟨[.list []],by decide +kernel,by decide +kernel⟩
noncomputable def YPV (_:World) (h:Heap):Prop:=∃ K:Frag,K.In h/\Checks K
theorem head (call:WalkO qV Zff (fun _ _=>True) YPV rwV.row.toRowW dV.1 dV.2 fun f vs=>PySem.call f vs):rwV.Holds :=
 holds_law ZrM fun said=>holds_open (r:=rwV.row) Zrz (fun _ s e=>⟨Ze7 s.heap,ZkB _,ZhB e⟩) (fun _ _ _ ⟨K,k,c⟩ q=>⟨K,fun a o e=>q _ _ (k a o e),c⟩) (fun _ _=>trivial) (fun _ _ _ _ _=>trivial)
  ZpM ZpN ZpO (fun s e=>recFacts_of e) rfl said ZoO Zre ZrH call
end
section
open PySem PySem.W PyProof.Rows PySem.Calls
set_option maxRecDepth 100000
set_option maxHeartbeats 8000000
theorem Znd:RoomN 12 callerA:=⟨(by decide +kernel),(by decide +kernel),rfl⟩
theorem ZgR {G:Glo} {D:Addr->Prop} {P:Params} {h:Heap}:∀ {vs:List Value} {ns:List Int},WellAll P h vs (ofPys (ns.map PyData.int))->Zz G D h (ns.map .int) vs
 | vs,[],x=>by
  cases x
  show Zz G D h [] []
  rfl
 | vs,n::ns,x=>by
  change WellAll P h vs (ofPy (.int n)::ofPys (ns.map PyData.int)) at x
  cases x with
  | cons a b =>
   change Well P h _ (.int n) at a
   cases a
   show Zz G D h (.int n::ns.map .int) _
   exact ⟨_,_,rfl,.int,ZgR b⟩
theorem ZgY {P:Params} {h:Heap} {v:Value} {ns:List Int} (x:Well P h v (ofPy (PyData.list (ns.map PyData.int)))):∃ a vs,v=.ref a/\h.get? a=some (Zdj (vs:List Value).toArray 0)/\WellAll P h vs (ofPys (ns.map PyData.int)):=by
 change Well P h v (.list (ofPys (ns.map PyData.int))) at x
 cases x with
 | list g q=>exact ⟨_,_,rfl,g,q⟩
theorem ZmB {w:World} {h:Heap}:Inv (GG w h) noF (fun _=>none) h where
 base:=fun _ _ e=>e
 new:=fun _ e=>absurd rfl e
 dis:=fun _ e=>e.elim
 tr:=fun _ _ e=>nomatch e
theorem ZmF {K:Frag} (C:Checks K) {h:Heap} {mg:Str->Option Value} {fa:Addr} (kin:K.In h) (tg:h.Ns mainGlobals mg) (e:mg (Str.ofString "law")=some (.ref fa)):fa=ZaZ 48:=by
 obtain ⟨o,ho,hp⟩:=Zdv C.glob
 have:=List.all_eq_true.mp hp (166,.fn 48) (by simp [Zmu])
 rw [Zae tg (kin _ _ ho)] at this
 have hn:nmT 166=Str.ofString "law":=ZiT (s:="law") (by decide +kernel)
 refine Ze (ZgL this) fun w hw hv=>?_
 have hw:mg (nmT 166)=some w:=Option.some.inj hw
 rw [hn,e] at hw
 refine Or.elim hv (fun hv=>Ze hv fun x hx ex=>?_) fun hv=>Zik hv fun i t e e'=>nomatch e
 have hx:=(congrArg some ex).trans hx.symm
 injection hw.trans hx with q
 injection q
theorem law_name:dV.1.name=Str.ofString "law":=by kernel_rfl
theorem Zqz:importsNone qV=true:=by kernel_rfl
theorem ZmG {args:List WData}:PySem.Challenge.rw_xm0610_01.row.claim.post args (.bool true) args=true:=by
 show (WShape.has [] (.bool true) .bool&&WTm.holds [] (.eq .res (.lit (.bool true))) { args:=args,res:=some (.bool true),after:=args })=true
 rw [Bool.and_eq_true]
 refine ⟨(by decide +kernel),?_⟩
 kernel_rfl
theorem law_walk {w:World} {s₀ s₁:Shared} {mg mb:Str->Option Value} {fa l:Addr} {ns:List Int} {K:Frag} (C:Checks K) (KX:K.In s₁.heap)
  {loose:List Str} {mean:ExcName->Option Value} (T:Top qV loose mean mg mb s₁.heap) (hg:s₁.gens=#[]) (hm:mg (Str.ofString "law")=some (.ref fa)) (hl:ns.length<=1000)
  (x:Well w.params s₁.heap (.ref l) (ofPy (PyData.list (ns.map PyData.int)))) :
  codeAny (model PySem.Challenge.rw_xm0610_01.row.prog w) callerA (.call (.ref fa) ⟨[.ref l],[]⟩)
   (GoodWG PySem.Challenge.rw_xm0610_01.row.claim (classAt s₀.heap) (ExcName.means s₀.heap) [ofPy (PyData.list (ns.map PyData.int))] s₁) s₁:=by
 obtain rfl:=ZmF C KX T.g hm
 have sys:∃ o,s₁.heap.get? sysModules=some o:=by
  obtain ⟨mm,⟨o,_,_,e,_⟩,_⟩:=(T.seer Zqz).mods
  exact ⟨o,e⟩
 have X:Facts (GG w s₁.heap) K:=Zrq C KX T.g T.b T.builtins T.nolimit sys
 obtain ⟨a,vs,ea,ga,wa⟩:=ZgY x
 cases ea
 have D:=Zrm C X 12 callerA Znd callerA (Nat.le_refl _) (Nat.le_refl _) rfl noF (fun _=>none) s₁ 48 [.lst (ns.map .int)] [.ref l] _ (Zqe (n:=12) (by decide) hl) ZmB
  (by exact ⟨_,_,rfl,(by exact ⟨l,_,_,rfl,⟨rfl,fun q=>q⟩,ga,ZgR (by simpa using wa)⟩),(by rfl)⟩)
 refine codeAny_mono D fun res s' q=>?_
 split at q
 ·obtain ⟨σ',i,e,k,lv,r,rfl⟩:=q
  obtain rfl:=r.bool_inv
  exact ⟨.inl ⟨_,.bool true,[],rfl,fun cls=>rfl,.bool _,ZmG,fun _=>⟨List.nodup_nil,fun _ h=>nomatch h⟩⟩,.of_keep fun b o g=>(e b o g rfl fun z=>z).1,k.2,.of_eq (k.1.trans hg)⟩
 ·exact q.elim
end
end Mine
set_option maxRecDepth 100000
set_option maxHeartbeats 8000000
open PySem PySem.W PyProof.Rows
theorem PySem.Challenge.cw_xm0610_01_holds : PySem.Challenge.rw_xm0610_01.Holds :=
  Mine.head (by
  intro w s₀ s₁ mg mb G Y fa o pm cd doc dV kV ho hd' hcd hD hmg hg args vals as hpre hlay hrd hwl hlo
  obtain ⟨K, KX, C⟩ := Y
  have T := G.T
  clear hcd hD G
  have hmg':mg (Str.ofString "law")=some (.ref fa) := (congrArg mg Mine.law_name).symm.trans hmg
  clear hmg hd'
  wrow_args hpre hlay hrd hwl hlo
  rename_i ns _ _ _ _ _ _ l vs _ _ _ x _ _ _ hc _
  exact enter_call (Mine.law_walk C KX T hg hmg' (by omega) x))
