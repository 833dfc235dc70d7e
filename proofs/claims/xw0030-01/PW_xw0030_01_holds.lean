import PyProof.Rows.All
import Wide.All
import OpenK.AllK
import Wide.FinOn
import PySem.Challenge.RW_xw0030_01
open PySem PySem.W PyProof.Rows
set_option Elab.async false
namespace Mine
theorem waste (_:Hook) (_:True) {p:Prop} (h:p):p:=h
def asK:List Addr:=[2,3,15,17,18,20,21,29,31,32,34,35,36,39,40,41,43,44,46,47,48,51,52,53,55,56,58,59,60,62,63,65,66,67,69,70,72,73,74,77,78,79,81,82,84,85,86,88,89,91,92,93,94,95,96,97,100,103,108,109,111,112,114,115,116,118,119,121,122,123,124,125,126,129,136,137,138,141,144,145,153,155,156,158,159,160,162,163,165,166,167,170,171,172,174,175,177,178,179,181,182,184,185,186,188,189,191,192,193,195,196,198,199,200,202,203,205,206,207,209,210,212,213,214,216,217,219,220,221,224,225,226,228,229,231,232,233,235,236,238,239,240,242,243,245,246,247,248,249,250,251,261,263,264,266,267,268,270,271,273,274,275,277,278,280,281,282,284,285,287,288,289,291,292,294,295,296,298,299,301,302,303,306,307,308,310,311,313,314,315,317,318,320,321,322,324,325,327,328,329,330,331,332,333,343,345,346,348,349,350,352,353,355,356,357,360,361,362,365,366,367,369,370,372,373,374,376,377,379,380,381,383,384,386,387,388,390,391,393,394,395,397,398,400,401,402,404,405,407,408,409,411,412,414,415,416,418,419,421,422,423,425,426,428,429,430,432,433,435,436,437,440,441,442,444,445,447,448,449,452,453,454,456,457,459,460,461,462,463,464,465,468,470,471,473,474,475,478,479,480,482,483,485,486,487,490,491,492,495,496]
section
local macro_rules | `(tactic| o_law)=>`(tactic| refine holds_law (by kernel_rfl) fun _=>?_)
local macro_rules | `(tactic| w_witness2)=>`(tactic| trivial)
set_option hygiene false in
local macro_rules | `(tactic| o_head $H)=>`(tactic| refine waste $H ?hw ?hc)
set_option maxRecDepth 100000 in
set_option maxHeartbeats 80000000 in
open_top hd for PySem.Challenge.rw_xw0030_01
end
end Mine
set_option tactic.hygienic false
set_option genSizeOf false
set_option genInjectivity false
namespace Mine
theorem zf0 (x:Nat.Internal.Linear.Context) (l r:Nat.Internal.Linear.Expr) (h:(Nat.Internal.Linear.ExprCnstr.mk false l r).toNormPoly.isValid = true):l.denote x≤r.denote x:=of_eq_true (Nat.Internal.Linear.ExprCnstr.eq_true_of_isValid x _ h)
theorem zf1 (x:Nat.Internal.Linear.Context) (l r a b:Nat.Internal.Linear.Expr) (h:(Nat.Internal.Linear.ExprCnstr.mk false (b.add l) (a.add r)).toNormPoly.isValid = true) (h0:a.denote x≤b.denote x):l.denote x≤r.denote x:=Nat.le_of_add_le_add_left (Nat.le_trans (Nat.add_le_add_right h0 _) (zf0 x _ _ h))
theorem zf2 (x:Nat.Internal.Linear.Context) (l r a b c d:Nat.Internal.Linear.Expr) (h:(Nat.Internal.Linear.ExprCnstr.mk false ((b.add d).add l) ((a.add c).add r)).toNormPoly.isValid = true) (h0:a.denote x≤b.denote x) (h1:c.denote x≤d.denote x):l.denote x≤r.denote x:=zf1 x l r (a.add c) (b.add d) h (Nat.add_le_add h0 h1)
theorem zf3 (x:Nat.Internal.Linear.Context) (l r a b c d e f:Nat.Internal.Linear.Expr) (h:(Nat.Internal.Linear.ExprCnstr.mk false (((b.add d).add f).add l) (((a.add c).add e).add r)).toNormPoly.isValid = true) (h0:a.denote x≤b.denote x) (h1:c.denote x≤d.denote x) (h2:e.denote x≤f.denote x):l.denote x≤r.denote x:=zf2 x l r (a.add c) (b.add d) e f h (Nat.add_le_add h0 h1) h2
theorem zoe {p q r:Prop} (f:p→r) (g:q→r):p∨q→r:=fun h=>h.elim f g
def zcl (a:Nat):Nat:=bif Nat.ble 100 a then a%2 else 91539276436 / 4^a % 4
theorem zclh {a k:Nat} (h:100≤a∧a%2=k):zcl a = k:=(congrArg (fun b=>bif b then a%2 else 91539276436 / 4^a % 4) (Nat.ble_eq_true_of_le h.1)).trans h.2
theorem zka {a:Nat}:(a=1)∨((a=2)∨((a=14)∨((a=15)∨((a=16)∨((a=17)∨((a=18)∨((100≤a)∧((a%2)=1))))))))→zcl a = 1:=zoe (congrArg zcl) (zoe (congrArg zcl) (zoe (congrArg zcl) (zoe (congrArg zcl) (zoe (congrArg zcl) (zoe (congrArg zcl) (zoe (congrArg zcl) zclh))))))
theorem zkb {a:Nat}:(a=3)∨((a=4)∨((a=7)∨((a=8)∨((a=9)∨(a=10)))))→zcl a = 2:=zoe (congrArg zcl) (zoe (congrArg zcl) (zoe (congrArg zcl) (zoe (congrArg zcl) (zoe (congrArg zcl) (congrArg zcl)))))
theorem zkc {a:Nat}:(a=5)∨((a=6)∨((a=11)∨((a=12)∨((a=13)∨((100≤a)∧((a%2)=0))))))→zcl a = 0:=zoe (congrArg zcl) (zoe (congrArg zcl) (zoe (congrArg zcl) (zoe (congrArg zcl) (zoe (congrArg zcl) zclh))))
theorem znn {a c i j:Nat} (h:zcl a = i) (g:zcl c = j) (d:Nat.beq i j = false):a≠c:=fun e=>Nat.ne_of_beq_eq_false d (h.symm.trans ((congrArg zcl e).trans g))
theorem zce {b:Nat}:zcl (100+(2*b)) = 0:=zclh ⟨Nat.le_add_right _ _,Nat.add_mul_mod_self_left 100 2 b⟩
theorem zmo {a:Nat}:(100≤(101+(2*a)))∧(((101+(2*a))%2)=1):=⟨Nat.le_trans (by decide) (Nat.le_add_right 101 _),Nat.add_mul_mod_self_left 101 2 a⟩
theorem zco {b:Nat}:zcl (101+(2*b)) = 1:=zclh zmo
theorem zmm {a b:Nat} (h:max a b≤min a b):a = b:=Nat.le_antisymm (Nat.le_trans (Nat.le_max_left _ _) (Nat.le_trans h (Nat.min_le_right _ _))) (Nat.le_trans (Nat.le_max_right _ _) (Nat.le_trans h (Nat.min_le_left _ _)))
theorem zml {a b c d:Nat} (h:a = min c d) (g:b = max c d):a≤b:=Nat.le_trans (Nat.le_of_eq h) (Nat.le_trans (Nat.min_le_left _ _) (Nat.le_trans (Nat.le_max_left _ _) (Nat.le_of_eq g.symm)))
theorem z1 {a b c:Nat} (h0:a≤b) (h1:(c+b)≤960):(c+a)≤960:=Nat.le_trans (Nat.add_le_add_left h0 _) h1
theorem z2 {a b c:Nat} (h0:a≤b) (h1:(c+(20*b))≤9600):(c+(20*a))≤9600:=zf2 (.branch 2 (.branch 1 (.leaf a) (.leaf b)) (.leaf c)) (.add (.var 2) (.mulL 20 (.var 0))) (.num 9600) (.mulL 20 (.var 0)) (.mulL 20 (.var 1)) (.add (.var 2) (.mulL 20 (.var 1))) (.num 9600) rfl (Nat.mul_le_mul_left 20 h0) h1
theorem z3 {a b:Nat} (h0:(a+(b+1))≤960):((a+1)+b)≤960:=Nat.le_trans (Nat.le_of_eq (Nat.add_right_comm _ _ _)) h0
theorem z4 {a b:Nat} (h0:(a+(20*(b+1)))≤9600):((a+3)+(20*b))≤9600:=zf1 (.branch 1 (.leaf a) (.leaf b)) (.add (.add (.var 0) (.num 3)) (.mulL 20 (.var 1))) (.num 9600) (.add (.var 0) (.mulL 20 (.add (.var 1) (.num 1)))) (.num 9600) rfl h0
theorem z5 {a b:Nat} (h0:(a+b)≤960):a<1000:=Nat.lt_of_le_of_lt (Nat.le_trans (Nat.le_add_right _ _) h0) (by decide)
theorem z6 {a b:Nat} (h0:(a+(20*b))≤9600):a<9900:=Nat.lt_of_le_of_lt (Nat.le_trans (Nat.le_add_right _ _) h0) (by decide)
theorem z7 {a:Nat}:(0:Int)≤((a:Nat):Int):=Int.ofNat_nonneg _
theorem z8:(-(1:Int))<(0:Int):=by decide
theorem z9 {a:Nat}:(-(((a+1):Nat):Int))≤(-(1:Int)):=by grind
theorem z10 {a b:Nat} (h0:((a:Nat):Int)<((b:Nat):Int)):a<b:=Int.ofNat_lt.mp h0
theorem z11 {a:Nat} (h0:a≤1000000):a≤16777216:=Nat.le_trans h0 (by decide)
theorem z12 {a b:Nat} (h0:(a+b)≤1000000):a≤16777216:=Nat.le_trans (Nat.le_trans (Nat.le_add_right _ _) h0) (by decide)
theorem z13 {a b:Nat} (h0:(a+b)≤1000000):(a+b)≤(16777216+1):=Nat.le_trans h0 (Nat.le_add_left _ _)
theorem z14 {a b c:Nat} (h0:(a+b)≤1000000) (h1:c=16777216):¬(c<(a+b)):=Nat.not_lt_of_le (zf2 (.branch 2 (.branch 1 (.leaf a) (.leaf b)) (.leaf c)) (.add (.var 0) (.var 1)) (.var 2) (.add (.var 0) (.var 1)) (.num 1000000) (.num 16777216) (.var 2) rfl h0 (Nat.le_of_eq h1.symm))
theorem z15 {a:Nat} (h0:a≤1000000):(a+1)≤16777216:=Nat.lt_of_le_of_lt h0 (by decide)
theorem z16 {a b:Nat} (h0:a<b):((a:Nat):Int)<((b:Nat):Int):=Int.ofNat_lt.mpr h0
theorem z17 {a b:Nat} (h0:(a+b)≤1000000):(a+b)≤16777216:=Nat.le_trans h0 (Nat.le_add_left _ _)
theorem z18 {a b:Nat} (h0:(a+b)≤1000000):((a+1)+b)≤16777216:=zf1 (.branch 1 (.leaf a) (.leaf b)) (.add (.add (.var 0) (.num 1)) (.var 1)) (.num 16777216) (.add (.var 0) (.var 1)) (.num 1000000) rfl h0
theorem z19 {a:Nat}:(max (0:Int) (min (0:Int) ((a:Nat):Int)))=(0:Int):=rfl
theorem z20 {a:Nat}:¬(((a:Nat):Int)<(0:Int)):=by simp
theorem z21 {a b:Nat} (h0:¬(a≤b)):(min ((a:Nat):Int) ((b:Nat):Int))=((b:Nat):Int):=Int.min_eq_right (Int.ofNat_le.mpr (Nat.le_of_not_le h0))
theorem z22 {a:Nat}:(max (0:Int) ((a:Nat):Int))=((a:Nat):Int):=rfl
theorem z23 {a b:Nat} (h0:¬(a≤b)):b≤a:=Nat.le_of_not_le h0
theorem z24 {a b:Nat} (h0:a<b) (h1:b≤100):a≤1000000:=Nat.le_trans (Nat.le_of_lt h0) (Nat.le_trans h1 (by decide))
theorem z25 {a b:Nat} (h0:a≤b) (h1:a≠b):a<b:=Nat.lt_of_le_of_ne h0 h1
theorem z26 {a b c:Nat} (h0:a<b) (h1:c≤a):c<b:=Nat.lt_of_le_of_lt h1 h0
theorem z27 {a b:Nat} (h0:((a:Nat):Int)=((b:Nat):Int)):a=b:=Int.ofNat.inj h0
theorem z28 {a:Nat}:(a+1)≠a:=Nat.ne_of_gt (Nat.lt_succ_self _)
theorem z29 {a b:Nat}:(min a b)≤b:=Nat.min_le_right _ _
theorem z30 {a b:Nat} (h0:¬(a=b)):¬(((a:Nat):Int)=((b:Nat):Int)):=fun h=>h0 (Int.ofNat.inj h)
theorem z31 {a b c:Nat} (h0:a≤b) (h1:c=a):c≤b:=h1 ▸ h0
theorem z34 {a:Nat} (h0:(a+(20*1))≤9600):(a+1)<9900:=zf1 (.leaf a) (.add (.add (.var 0) (.num 1)) (.num 1)) (.num 9900) (.add (.var 0) (.mulL 20 (.num 1))) (.num 9600) rfl h0
theorem z35 {a:Nat} (h0:a<64):a≤16777216:=Nat.le_trans (Nat.le_of_lt h0) (by decide)
theorem z36 {a b c:Nat} (h0:(a+(b+1))≤c):a<c:=Nat.succ_le_of_lt (Nat.lt_of_le_of_lt (Nat.le_add_right _ _) h0)
theorem z37 {a b c:Nat} (h0:(a+(b+1))≤c):((a+1)+b)≤c:=Nat.le_trans (Nat.le_of_eq (Nat.add_right_comm _ _ _)) h0
theorem z38 {a b:Nat}:(a+(b+1))=((a+1)+b):=(Nat.succ_add _ _).symm
theorem z39 {a:Nat}:(0+a)≤a:=Nat.le_of_eq (Nat.add_comm _ _)
theorem z40 {a b:Nat} (h0:a<b):¬(a=b):=Nat.ne_of_lt h0
theorem z41 {a b:Nat} (h0:a<b):a≤b:=Nat.le_of_lt h0
theorem z42 {a b c:Nat} (h0:a<b) (h1:a=b):c=b:=absurd h1 (Nat.ne_of_lt h0)
theorem z43 {a b c d:Nat} (h0:¬(a=b)) (h1:(c=a)→(d=a)) (h2:c=a):¬(d=b):=by grind
theorem z44 {a b c:Nat} (h0:a<0):(b+1)=c:=absurd h0 (Nat.not_lt_zero _)
theorem z45 {a b:Nat} (h0:a<b):a≠b:=Nat.ne_of_lt h0
theorem z46 {a b:Nat} (h0:a<(b+1)) (h1:¬(a=b)):a<b:=Nat.lt_of_le_of_ne (Nat.le_of_lt_succ h0) h1
theorem z47 {a b c:Nat} (h0:(a+1)=b):((a+(0+c))+1)=(b+(0+c)):=by subst h0; grind
theorem z48 {a b c:Nat} (h0:a<b) (h1:c=a) (h2:c=b):False:=Nat.lt_irrefl _ (Nat.lt_of_lt_of_eq h0 (h2.symm.trans h1))
theorem z49 {a b:Nat} (h0:a<(b+1)) (h1:a≠b):a<b:=Nat.lt_of_le_of_ne (Nat.le_of_lt_succ h0) h1
theorem z50 {a b:Nat} (h0:(a-1)≤b):a≤(b+1):=Nat.le_add_of_sub_le h0
theorem z51 {a b:Nat} (h0:a≤b):a≤(b+1):=Nat.le_succ_of_le h0
theorem z52:(5=5)∨((5=6)∨((5=11)∨((5=12)∨((5=13)∨((100≤5)∧((5%2)=0)))))):=by decide
theorem z53:(6=5)∨((6=6)∨((6=11)∨((6=12)∨((6=13)∨((100≤6)∧((6%2)=0)))))):=by decide
theorem z54:(11=5)∨((11=6)∨((11=11)∨((11=12)∨((11=13)∨((100≤11)∧((11%2)=0)))))):=by decide
theorem z55:(12=5)∨((12=6)∨((12=11)∨((12=12)∨((12=13)∨((100≤12)∧((12%2)=0)))))):=by decide
theorem z56 {a:Nat}:((100+(2*a))=5)∨(((100+(2*a))=6)∨(((100+(2*a))=11)∨(((100+(2*a))=12)∨(((100+(2*a))=13)∨((100≤(100+(2*a)))∧(((100+(2*a))%2)=0)))))):=by simp
theorem z57:(13=5)∨((13=6)∨((13=11)∨((13=12)∨((13=13)∨((100≤13)∧((13%2)=0)))))):=by decide
theorem z58 {a:Nat} (h0:a≤100):a≤1000000:=Nat.le_trans h0 (by decide)
theorem z59 {a b c d:Nat} (h0:a≤b) (h1:(a=c)∨(a=d)) (h2:(c=a)∨(c=b)) (h3:(d=a)∨(d=b)):a=(min c d):=Nat.le_antisymm (Nat.le_min.mpr ⟨h2.elim (fun e=>Nat.le_of_eq e.symm) (fun e=>Nat.le_trans h0 (Nat.le_of_eq e.symm)),h3.elim (fun e=>Nat.le_of_eq e.symm) (fun e=>Nat.le_trans h0 (Nat.le_of_eq e.symm))⟩) (h1.elim (fun e=>Nat.le_trans (Nat.min_le_left _ _) (Nat.le_of_eq e.symm)) (fun e=>Nat.le_trans (Nat.min_le_right _ _) (Nat.le_of_eq e.symm)))
theorem z60 {a b c d:Nat} (h0:a≤b) (h1:(b=c)∨(b=d)) (h2:(c=a)∨(c=b)) (h3:(d=a)∨(d=b)):b=(max c d):=Nat.le_antisymm (h1.elim (fun e=>Nat.le_trans (Nat.le_of_eq e) (Nat.le_max_left _ _)) (fun e=>Nat.le_trans (Nat.le_of_eq e) (Nat.le_max_right _ _))) (Nat.max_le.mpr ⟨h2.elim (fun e=>Nat.le_trans (Nat.le_of_eq e) h0) Nat.le_of_eq,h3.elim (fun e=>Nat.le_trans (Nat.le_of_eq e) h0) Nat.le_of_eq⟩)
theorem z61:4≤7:=by decide
theorem z62 {a b c d:Nat} (h0:(min a b)=c) (h1:(max a b)=d) (h2:((c:Nat):Int)=((d:Nat):Int)):a=b:=zmm (Nat.le_of_eq (h1.trans ((Int.ofNat.inj h2).symm.trans h0.symm)))
theorem z63 {a b c d:Nat} (h0:(min a b)=c) (h1:(max a b)=d) (h2:c≠d):c<d:=Nat.lt_of_le_of_ne (zml h0.symm h1.symm) h2
theorem z64 {a b c:Nat} (h0:a<b) (h1:b<c):a<c:=Nat.lt_trans h0 h1
theorem z65 {a:Nat}:(100+(2*a))≠11:=Nat.ne_of_gt (Nat.lt_of_lt_of_le (by decide) (Nat.le_add_right _ _))
theorem z66 {a b c:Nat} (h0:a<b) (h1:b<c) (h2:c≤100):a≤1000000:=Nat.le_trans (Nat.le_of_lt (Nat.lt_trans h0 (Nat.lt_of_lt_of_le h1 h2))) (by decide)
theorem z67 {a:Nat}:5≠(100+(2*a)):=Nat.ne_of_lt (Nat.lt_of_lt_of_le (by decide) (Nat.le_add_right _ _))
theorem z68 {a:Nat}:6≠(100+(2*a)):=Nat.ne_of_lt (Nat.lt_of_lt_of_le (by decide) (Nat.le_add_right _ _))
theorem z69 {a:Nat}:13≠(100+(2*a)):=Nat.ne_of_lt (Nat.lt_of_lt_of_le (by decide) (Nat.le_add_right _ _))
theorem z70 {a b c:Nat} (h0:(a+b)≤c) (h1:c≤100):a≤1000000:=Nat.le_trans (Nat.le_trans (Nat.le_add_right _ _) h0) (Nat.le_trans h1 (by decide))
theorem z71 {a:Nat}:11≠(100+(2*a)):=Nat.ne_of_lt (Nat.lt_of_lt_of_le (by decide) (Nat.le_add_right _ _))
theorem z72 {a:Nat}:(100+(2*a))≠13:=Nat.ne_of_gt (Nat.lt_of_lt_of_le (by decide) (Nat.le_add_right _ _))
theorem z73 {a:Nat}:12≠(100+(2*a)):=Nat.ne_of_lt (Nat.lt_of_lt_of_le (by decide) (Nat.le_add_right _ _))
theorem z74 {a b:Nat} (h0:¬(a=b)):(100+(2*a))≠(100+(2*b)):=fun h=>h0 (Nat.eq_of_mul_eq_mul_left (by decide) (Nat.add_left_cancel h))
theorem z75 {a b c d:Nat} (h0:(a+b)≤c) (h1:(d+1)=b):((a+1)+d)≤c:=zf2 (.branch 2 (.branch 1 (.leaf a) (.leaf b)) (.branch 3 (.leaf c) (.leaf d))) (.add (.add (.var 0) (.num 1)) (.var 3)) (.var 2) (.add (.var 0) (.var 1)) (.var 2) (.add (.var 3) (.num 1)) (.var 1) rfl h0 (Nat.le_of_eq h1)
theorem z76 {a b:Nat} (h0:a≤60) (h1:b<a):b≤1000000:=Nat.le_trans (Nat.le_of_lt h1) (Nat.le_trans h0 (by decide))
theorem z77 {a b:Nat} (h0:a≤60) (h1:b≤a):b<64:=Nat.lt_of_le_of_lt h1 (Nat.lt_of_le_of_lt h0 (by decide))
theorem z78 {a b:Nat} (h0:a<60) (h1:b=a):b≤1000000:=Nat.le_trans (Nat.le_of_eq h1) (Nat.le_trans (Nat.le_of_lt h0) (by decide))
theorem z79 {a b:Nat} (h0:a<60) (h1:b=a):(b+1)≤1000000:=Nat.lt_of_le_of_lt (Nat.le_of_eq h1) (Nat.lt_of_lt_of_le h0 (by decide))
theorem z80 {a:Nat}:((((a+1):Nat):Int)-(1:Int))=((a:Nat):Int):=by simp
theorem z81 {a:Nat} (h0:a<60):(a+1)≤100:=Nat.lt_of_lt_of_le h0 (by decide)
theorem z82 {a b:Nat} (h0:¬(a<b)):b≤a:=Nat.le_of_not_lt h0
theorem z83 {a b:Nat} (h0:¬(a<b)) (h1:(a-b)<1):a=b:=Nat.le_antisymm (Nat.le_of_sub_eq_zero (Nat.lt_one_iff.mp h1)) (Nat.le_of_not_lt h0)
theorem z84 {a b:Nat} (h0:a<(b+1)) (h1:a≥b):a=b:=Nat.le_antisymm (Nat.le_of_lt_succ h0) h1
theorem z85 {a b:Nat} (h0:a=b):a≤b:=Nat.le_of_eq h0
theorem z86 {a:Nat}:a<(a+1):=Nat.le_refl _
theorem z87 {a b c:Nat} (h0:a=b) (h1:a<b):c=b:=absurd h0 (Nat.ne_of_lt h1)
theorem z88 {a:Nat}:(100+(2*a))≠12:=Nat.ne_of_gt (Nat.lt_of_lt_of_le (by decide) (Nat.le_add_right _ _))
theorem z89 {a b c:Nat} (h0:a=b) (h1:c<(b+1)) (h2:¬(c=b)):c<a:=Nat.lt_of_lt_of_eq (Nat.lt_of_le_of_ne (Nat.le_of_lt_succ h1) h2) h0.symm
theorem z90 {a:Nat}:(100+(2*a))≠0:=Nat.ne_of_gt (Nat.lt_of_lt_of_le (by decide) (Nat.le_add_right _ _))
theorem z91 {a b c:Nat} (h0:(a+b)≤c):(a+(b+1))≤(c+1):=Nat.le_add_of_sub_le h0
theorem z92:1≤3:=by decide
theorem z93:(3=3)∨((3=4)∨((3=7)∨((3=8)∨((3=9)∨(3=10))))):=by decide
theorem z94:(4=3)∨((4=4)∨((4=7)∨((4=8)∨((4=9)∨(4=10))))):=by decide
theorem z95:(7=3)∨((7=4)∨((7=7)∨((7=8)∨((7=9)∨(7=10))))):=by decide
theorem z96:(10=3)∨((10=4)∨((10=7)∨((10=8)∨((10=9)∨(10=10))))):=by decide
theorem z97:(8=3)∨((8=4)∨((8=7)∨((8=8)∨((8=9)∨(8=10))))):=by decide
theorem z98:(9=3)∨((9=4)∨((9=7)∨((9=8)∨((9=9)∨(9=10))))):=by decide
theorem z99 {a:Nat} (h0:a≤50):a≤1000000:=Nat.le_trans h0 (by decide)
theorem z100 {a b:Nat} (h0:a<b) (h1:b≤50):a≤1000000:=Nat.le_trans (Nat.le_of_lt h0) (Nat.le_trans h1 (by decide))
theorem z101:0≤1000000:=by decide
theorem z102 {a:Nat} (h0:a≤10):a≤1000000:=Nat.le_trans h0 (by decide)
theorem z103:4≤5:=by decide
theorem z104 {a:Nat} (h0:a≤10):(0+a)≤1000000:=Nat.le_trans (Nat.add_le_add_left h0 _) (by decide)
theorem z105:1≤9:=by decide
theorem z106:6≤9:=by decide
theorem z107 {a b:Nat} (h0:a<50) (h1:b=a):b≤1000000:=Nat.le_trans (Nat.le_of_eq h1) (Nat.le_trans (Nat.le_of_lt h0) (by decide))
theorem z108 {a b c:Nat} (h0:a=b) (h1:c<b):c<a:=Nat.lt_of_lt_of_eq h1 h0.symm
theorem z109 {a b:Nat} (h0:a<50) (h1:b<a):b≤1000000:=Nat.le_trans (Nat.le_of_lt (Nat.lt_trans h1 h0)) (by decide)
theorem z110 {a:Nat} (h0:a≤10):(a+1)≤1000000:=Nat.lt_of_le_of_lt h0 (by decide)
theorem z111 {a b:Nat} (h0:a<50) (h1:b=a):(b+1)≤1000000:=Nat.lt_of_le_of_lt (Nat.le_of_eq h1) (Nat.lt_of_lt_of_le h0 (by decide))
theorem z112 {a b:Nat} (h0:(a-b)<1):(a-b)=0:=Nat.lt_one_iff.mp h0
theorem z113:(1=1)∨((1=2)∨((1=14)∨((1=15)∨((1=16)∨((1=17)∨((1=18)∨((100≤1)∧((1%2)=1)))))))):=by decide
theorem z114:(2=1)∨((2=2)∨((2=14)∨((2=15)∨((2=16)∨((2=17)∨((2=18)∨((100≤2)∧((2%2)=1)))))))):=by decide
theorem z115:(14=1)∨((14=2)∨((14=14)∨((14=15)∨((14=16)∨((14=17)∨((14=18)∨((100≤14)∧((14%2)=1)))))))):=by decide
theorem z116:(15=1)∨((15=2)∨((15=14)∨((15=15)∨((15=16)∨((15=17)∨((15=18)∨((100≤15)∧((15%2)=1)))))))):=by decide
theorem z117:(16=1)∨((16=2)∨((16=14)∨((16=15)∨((16=16)∨((16=17)∨((16=18)∨((100≤16)∧((16%2)=1)))))))):=by decide
theorem z118:(17=1)∨((17=2)∨((17=14)∨((17=15)∨((17=16)∨((17=17)∨((17=18)∨((100≤17)∧((17%2)=1)))))))):=by decide
theorem z119 {a:Nat}:((101+(2*a))=1)∨(((101+(2*a))=2)∨(((101+(2*a))=14)∨(((101+(2*a))=15)∨(((101+(2*a))=16)∨(((101+(2*a))=17)∨(((101+(2*a))=18)∨((100≤(101+(2*a)))∧(((101+(2*a))%2)=1)))))))):=.inr (.inr (.inr (.inr (.inr (.inr (.inr zmo))))))
theorem z120:(18=1)∨((18=2)∨((18=14)∨((18=15)∨((18=16)∨((18=17)∨((18=18)∨((100≤18)∧((18%2)=1)))))))):=by decide
theorem z121 {a:Nat} (h0:(a=3)∨((a=4)∨((a=7)∨((a=8)∨((a=9)∨(a=10)))))):a≠0:=by rintro rfl; revert h0; decide
theorem z122 {a:Nat} (h0:(a=5)∨((a=6)∨((a=11)∨((a=12)∨((a=13)∨((100≤a)∧((a%2)=0))))))):a≠0:=by rintro rfl; revert h0; decide
theorem z123 {a:Nat} (h0:(a=1)∨((a=2)∨((a=14)∨((a=15)∨((a=16)∨((a=17)∨((a=18)∨((100≤a)∧((a%2)=1))))))))):a≠0:=by rintro rfl; revert h0; decide
theorem z124:8≤9:=by decide
theorem z125 {a:Nat} (h0:a≤50):a≤60:=Nat.le_trans h0 (by decide)
theorem z126:4≤9:=by decide
theorem z127 {a b:Nat} (h0:a≤b):(a+1)≤(b+1):=Nat.le_add_of_sub_le h0
theorem z128 {a b:Nat} (h0:(a+1)≤b):((a+1)+1)≤(b+1):=Nat.le_add_of_sub_le h0
theorem z129 {a:Nat}:a≤(a+1):=Nat.le_add_right _ _
theorem z130 {a:Nat}:((101+(2*a))=17)∨((100≤(101+(2*a)))∧(((101+(2*a))%2)=1)):=.inr zmo
theorem z131 {a b:Nat} (h0:a≤1000) (h1:b≤a):b≤1000000:=Nat.le_trans h1 (Nat.le_trans h0 (by decide))
theorem z132 {a:Nat} (h0:(a=3)∨((a=4)∨((a=7)∨((a=8)∨((a=9)∨(a=10)))))):a≠14:=by rintro rfl; revert h0; decide
theorem z133 {a:Nat} (h0:(a=5)∨((a=6)∨((a=11)∨((a=12)∨((a=13)∨((100≤a)∧((a%2)=0))))))):a≠14:=by rintro rfl; revert h0; decide
theorem z134 {a:Nat} (h0:(a=1)∨(a=2)):a≠14:=by rintro rfl; revert h0; decide
theorem z135 {a:Nat} (h0:a=16):a≠14:=by subst h0; decide
theorem z136 {a:Nat} (h0:(a=17)∨((100≤a)∧((a%2)=1))):a≠14:=by rintro rfl; revert h0; decide
theorem z137 {a:Nat} (h0:a=18):a≠14:=by subst h0; decide
theorem z138 {a:Nat} (h0:a=15):a≠14:=by subst h0; decide
theorem z139 {a:Nat} (h0:a=0):a≠14:=by subst h0; decide
theorem z140:8≤11:=by decide
theorem z141 {a b:Nat} (h0:(a=3)∨((a=4)∨((a=7)∨((a=8)∨((a=9)∨(a=10)))))):(a≠11)∧((a≠13)∧(a≠(100+(2*b)))):=⟨znn (zkb h0) rfl rfl,znn (zkb h0) rfl rfl,znn (zkb h0) zce rfl⟩
theorem z142 {a b:Nat} (h0:a=0):(a≠11)∧((a≠13)∧(a≠(100+(2*b)))):=by subst h0; grind
theorem z143 {a b:Nat} (h0:(a=1)∨((a=2)∨((a=14)∨((a=15)∨((a=16)∨((a=17)∨((a=18)∨((100≤a)∧((a%2)=1))))))))):(a≠11)∧((a≠13)∧(a≠(100+(2*b)))):=⟨znn (zka h0) rfl rfl,znn (zka h0) rfl rfl,znn (zka h0) zce rfl⟩
theorem z144 {a b:Nat} (h0:a≤1000) (h1:b≤(a+1)):b≤1000000:=zf2 (.branch 1 (.leaf a) (.leaf b)) (.var 1) (.num 1000000) (.var 0) (.num 1000) (.var 1) (.add (.var 0) (.num 1)) rfl h0 h1
theorem z145 {a b c:Nat} (h0:(a+b)≤c) (h1:c≤50):a≤1000000:=Nat.le_trans (Nat.le_trans (Nat.le_add_right _ _) h0) (Nat.le_trans h1 (by decide))
theorem z146 {a:Nat} (h0:(a=1)∨(a=2)):a≠15:=by rintro rfl; revert h0; decide
theorem z147 {a:Nat} (h0:a=18):a≠15:=by subst h0; decide
theorem z148 {a:Nat} (h0:(a=17)∨((100≤a)∧((a%2)=1))):a≠15:=by rintro rfl; revert h0; decide
theorem z149 {a b c d e:Nat} (h0:a=(min b c)) (h1:d=(max b c)) (h2:d<e):a<e:=Nat.lt_of_le_of_lt (zml h0 h1) h2
theorem z150 {a b c d:Nat} (h0:(a+b)≤100000) (h1:c=b) (h2:d=a):(d+c)≤1000000:=zf3 (.branch 2 (.branch 1 (.leaf a) (.leaf b)) (.branch 3 (.leaf c) (.leaf d))) (.add (.var 3) (.var 2)) (.num 1000000) (.add (.var 0) (.var 1)) (.num 100000) (.var 2) (.var 1) (.var 3) (.var 0) rfl h0 (Nat.le_of_eq h1) (Nat.le_of_eq h2)
theorem z151 {a:Nat} (h0:(a=1)∨(a=2)):(a≠15)∧(a≠18):=by rcases h0 with rfl | rfl <;> decide
theorem z152:17≠18:=by decide
theorem z153 {a:Nat}:(101+(2*a))≠18:=Nat.ne_of_gt (Nat.lt_of_lt_of_le (by decide) (Nat.le_add_right _ _))
theorem z154 {a:Nat}:(101+(2*a))≠17:=Nat.ne_of_gt (Nat.lt_of_lt_of_le (by decide) (Nat.le_add_right _ _))
theorem z155 {a b c d:Nat} (h0:(a+b)≤100000) (h1:c=a) (h2:d=b):(c+d)≤1000000:=zf3 (.branch 2 (.branch 1 (.leaf a) (.leaf b)) (.branch 3 (.leaf c) (.leaf d))) (.add (.var 2) (.var 3)) (.num 1000000) (.add (.var 0) (.var 1)) (.num 100000) (.var 2) (.var 0) (.var 3) (.var 1) rfl h0 (Nat.le_of_eq h1) (Nat.le_of_eq h2)
theorem z156 {a:Nat} (h0:(a=1)∨(a=2)):(a≠15)∧((a≠18)∧(a≠17)):=by rcases h0 with rfl | rfl <;> decide
theorem z157 {a b:Nat} (h0:a≤50) (h1:b≤a):b≤1000000:=Nat.le_trans h1 (Nat.le_trans h0 (by decide))
theorem z158 {a:Nat} (h0:a=0):(a≠15)∧((a≠18)∧(a≠17)):=by subst h0; decide
theorem z159 {a:Nat} (h0:(a=3)∨((a=4)∨((a=7)∨((a=8)∨((a=9)∨(a=10)))))):(a≠15)∧((a≠18)∧(a≠17)):=⟨znn (zkb h0) rfl rfl,znn (zkb h0) rfl rfl,znn (zkb h0) rfl rfl⟩
theorem z160 {a:Nat} (h0:(a=5)∨((a=6)∨((a=11)∨((a=12)∨((a=13)∨((100≤a)∧((a%2)=0))))))):(a≠15)∧((a≠18)∧(a≠17)):=⟨znn (zkc h0) rfl rfl,znn (zkc h0) rfl rfl,znn (zkc h0) rfl rfl⟩
theorem z161 {a:Nat} (h0:a=14):(a≠15)∧((a≠18)∧(a≠17)):=by subst h0; decide
theorem z162 {a:Nat} (h0:a=16):(a≠15)∧((a≠18)∧(a≠17)):=by subst h0; decide
theorem z163 {a b c:Nat} (h0:a≤(b+1)) (h1:(b+1)≤c):a≤c:=Nat.le_trans h0 h1
theorem z164 {a b:Nat} (h0:a<b) (h1:a=b):False:=Nat.lt_irrefl _ (Nat.lt_of_lt_of_eq h0 h1.symm)
theorem z165:12≤13:=by decide
theorem z166 {a b:Nat} (h0:a≤50000) (h1:b≤50000):(b+a)≤100000:=Nat.add_le_add h1 h0
theorem z167 {a b c d:Nat} (h0:a=(min b c)) (h1:d=(max b c)) (h2:a<d):¬(b=c):=fun e=>Nat.lt_irrefl _ (Nat.lt_of_lt_of_le h2 (Nat.le_trans (Nat.le_of_eq h1) (Nat.le_trans (Nat.max_le.mpr ⟨Nat.le_min.mpr ⟨Nat.le_refl _,Nat.le_of_eq e⟩,Nat.le_min.mpr ⟨Nat.le_of_eq e.symm,Nat.le_refl _⟩⟩) (Nat.le_of_eq h0.symm))))
theorem z168:10≤15:=by decide
theorem z169:1≤15:=by decide
theorem z170 {a:Nat} (h0:a≤100000):a≤1000000:=Nat.le_trans h0 (by decide)
theorem z171:6≤15:=by decide
theorem z172:12≤15:=by decide
theorem z173 {a:Nat} (h0:(a=3)∨((a=4)∨((a=7)∨((a=8)∨((a=9)∨(a=10)))))):a≠16:=by rintro rfl; revert h0; decide
theorem z174 {a:Nat} (h0:(a=5)∨((a=6)∨((a=11)∨((a=12)∨((a=13)∨((100≤a)∧((a%2)=0))))))):a≠16:=by rintro rfl; revert h0; decide
theorem z175 {a:Nat} (h0:(a=1)∨(a=2)):a≠16:=by rintro rfl; revert h0; decide
theorem z176 {a:Nat} (h0:a=14):a≠16:=by subst h0; decide
theorem z177 {a:Nat} (h0:a=15):a≠16:=by subst h0; decide
theorem z178 {a:Nat} (h0:(a=17)∨((100≤a)∧((a%2)=1))):a≠16:=by rintro rfl; revert h0; decide
theorem z179 {a:Nat} (h0:a=18):a≠16:=by subst h0; decide
theorem z180 {a:Nat} (h0:a=0):a≠16:=by subst h0; decide
theorem z181 {a:Nat} (h0:a≤50000):a≤1000000:=Nat.le_trans h0 (by decide)
theorem z182 {a b c:Nat} (h0:a≤50000) (h1:b=c) (h2:a=(c+1)):b≤1000000:=zf3 (.branch 2 (.branch 1 (.leaf a) (.leaf b)) (.leaf c)) (.var 1) (.num 1000000) (.var 0) (.num 50000) (.var 1) (.var 2) (.add (.var 2) (.num 1)) (.var 0) rfl h0 (Nat.le_of_eq h1) (Nat.le_of_eq h2.symm)
theorem z183 {a:Nat} (h0:(a=3)∨((a=4)∨((a=7)∨((a=8)∨((a=9)∨(a=10)))))):a≠18:=by rintro rfl; revert h0; decide
theorem z184 {a:Nat} (h0:(a=5)∨((a=6)∨((a=11)∨((a=12)∨((a=13)∨((100≤a)∧((a%2)=0))))))):a≠18:=by rintro rfl; revert h0; decide
theorem z185 {a:Nat} (h0:(a=1)∨(a=2)):a≠18:=by rintro rfl; revert h0; decide
theorem z186 {a:Nat} (h0:a=14):a≠18:=by subst h0; decide
theorem z187 {a:Nat} (h0:a=15):a≠18:=by subst h0; decide
theorem z188 {a:Nat} (h0:a=16):a≠18:=by subst h0; decide
theorem z189 {a:Nat} (h0:(a=17)∨((100≤a)∧((a%2)=1))):a≠18:=by rintro rfl; revert h0; decide
theorem z190:16≤17:=by decide
theorem z191 {a:Nat} (h0:a=0):a≠18:=by subst h0; decide
theorem z192 {a:Nat} (h0:a≤1000):a≤1000000:=Nat.le_trans h0 (by decide)
theorem z193 {a:Nat} (h0:a≤1000):(0+a)≤1000000:=Nat.le_trans (Nat.add_le_add_left h0 _) (by decide)
theorem z194 {a:Nat} (h0:a≤1000):a≤1000:=h0
theorem z195 {a:Nat} (h0:a≤60):a<64:=Nat.lt_of_le_of_lt h0 (by decide)
theorem z196 {a b:Nat} (h0:(a=3)∨((a=4)∨((a=7)∨((a=8)∨((a=9)∨(a=10)))))):a≠(101+(2*b)):=znn (zkb h0) zco rfl
theorem z197 {a b:Nat} (h0:(a=5)∨((a=6)∨((a=11)∨((a=12)∨((a=13)∨((100≤a)∧((a%2)=0))))))):a≠(101+(2*b)):=znn (zkc h0) zco rfl
theorem z198 {a b:Nat} (h0:(a=1)∨(a=2)):a≠(101+(2*b)):=Nat.ne_of_lt (zf1 (.branch 1 (.leaf a) (.leaf b)) (.add (.var 0) (.num 1)) (.add (.num 101) (.mulL 2 (.var 1))) (.var 0) (.num 2) rfl (h0.elim (fun e=>Nat.le_succ_of_le (Nat.le_of_eq e)) Nat.le_of_eq))
theorem z199 {a b:Nat} (h0:a=14):a≠(101+(2*b)):=by subst h0; grind
theorem z200 {a b:Nat} (h0:a=15):a≠(101+(2*b)):=by subst h0; grind
theorem z201 {a b:Nat} (h0:a=16):a≠(101+(2*b)):=by subst h0; grind
theorem z202 {a b:Nat} (h0:a=18):a≠(101+(2*b)):=by subst h0; grind
theorem z203 {a:Nat}:17≠(101+(2*a)):=Nat.ne_of_lt (Nat.lt_of_lt_of_le (by decide) (Nat.le_add_right _ _))
theorem z204 {a b:Nat} (h0:¬(a=b)):(101+(2*a))≠(101+(2*b)):=fun h=>h0 (Nat.eq_of_mul_eq_mul_left (by decide) (Nat.add_left_cancel h))
theorem z205:10≤23:=by decide
theorem z206 {a:Nat} (h0:(a=5)∨((a=6)∨((a=11)∨((a=12)∨((a=13)∨((100≤a)∧((a%2)=0))))))):(a≠7)∧((a≠8)∧((a≠9)∧(a≠10))):=⟨znn (zkc h0) rfl rfl,znn (zkc h0) rfl rfl,znn (zkc h0) rfl rfl,znn (zkc h0) rfl rfl⟩
theorem z207 {a:Nat} (h0:(a=1)∨((a=2)∨((a=14)∨((a=15)∨((a=16)∨((a=17)∨((a=18)∨((100≤a)∧((a%2)=1))))))))):(a≠7)∧((a≠8)∧((a≠9)∧(a≠10))):=⟨znn (zka h0) rfl rfl,znn (zka h0) rfl rfl,znn (zka h0) rfl rfl,znn (zka h0) rfl rfl⟩
theorem z208 {a:Nat} (h0:a=0):(a≠7)∧((a≠8)∧((a≠9)∧(a≠10))):=by subst h0; decide
theorem z209:4≤23:=by decide
theorem z210:8≤23:=by decide
theorem z211 {a:Nat} (h0:a<50):a<60:=Nat.le_trans h0 (by decide)
theorem z212 {a:Nat} (h0:(a=3)∨((a=4)∨((a=7)∨((a=8)∨((a=9)∨(a=10)))))):(a≠11)∧(a≠12):=⟨znn (zkb h0) rfl rfl,znn (zkb h0) rfl rfl⟩
theorem z213 {a:Nat} (h0:(a=1)∨((a=2)∨((a=14)∨((a=15)∨((a=16)∨((a=17)∨((a=18)∨((100≤a)∧((a%2)=1))))))))):(a≠11)∧(a≠12):=⟨znn (zka h0) rfl rfl,znn (zka h0) rfl rfl⟩
theorem z214 {a:Nat} (h0:a=0):(a≠11)∧(a≠12):=by subst h0; decide
theorem z215 {a b:Nat} (h0:a<50) (h1:b≤a):b≤1000000:=zf2 (.branch 1 (.leaf a) (.leaf b)) (.var 1) (.num 1000000) (.add (.var 0) (.num 1)) (.num 50) (.var 1) (.var 0) rfl h0 h1
theorem z216 {a:Nat} (h0:(a=3)∨((a=4)∨((a=7)∨((a=8)∨((a=9)∨(a=10)))))):a≠17:=by rintro rfl; revert h0; decide
theorem z217 {a:Nat} (h0:(a=1)∨(a=2)):a≠17:=by rintro rfl; revert h0; decide
theorem z218 {a:Nat} (h0:a=14):a≠17:=by subst h0; decide
theorem z219 {a:Nat} (h0:a=16):a≠17:=by subst h0; decide
theorem z220 {a:Nat} (h0:a=18):a≠17:=by subst h0; decide
theorem z221 {a:Nat} (h0:(a=5)∨((a=6)∨((a=11)∨((a=12)∨((a=13)∨((100≤a)∧((a%2)=0))))))):a≠17:=by rintro rfl; revert h0; decide
theorem z222 {a:Nat} (h0:a=15):a≠17:=by subst h0; decide
theorem z223 {a:Nat} (h0:a=0):a≠17:=by subst h0; decide
theorem z224:6≤23:=by decide
theorem z225 {a b:Nat} (h0:a<b):a<(b+1):=Nat.lt_succ_of_lt h0
theorem z226 {a:Nat} (h0:a≤10):a≤1000:=Nat.le_trans h0 (by decide)
theorem z227 {a b:Nat} (h0:a<50) (h1:b<a):b<60:=Nat.lt_trans h1 (Nat.lt_of_lt_of_le h0 (by decide))
theorem z228 {a b c:Nat} (h0:a<(min b c)):a<b:=Nat.lt_of_lt_of_le h0 (Nat.min_le_left _ _)
theorem z229 {a b c:Nat} (h0:(a+b)≤50000) (h1:c=a):c≤1000000:=zf2 (.branch 2 (.branch 1 (.leaf a) (.leaf b)) (.leaf c)) (.var 2) (.num 1000000) (.add (.var 0) (.var 1)) (.num 50000) (.var 2) (.var 0) rfl h0 (Nat.le_of_eq h1)
theorem z230 {a b:Nat} (h0:a=0):a≠(101+(2*b)):=by subst h0; grind
theorem z231 {a:Nat} (h0:(101+(2*a))=0):False:=by grind
theorem z232:16≤23:=by decide
theorem z233:10≤13:=by decide
theorem z234 {a b:Nat} (h0:a≤7) (h1:b≤a):b≤1000000:=Nat.le_trans h1 (Nat.le_trans h0 (by decide))
theorem z235:4≤13:=by decide
theorem z236 {a b:Nat} (h0:a≤7) (h1:b≤a):b≤7:=Nat.le_trans h1 h0
theorem z237 {a b:Nat} (h0:a≤b) (h1:b≤7):a<64:=Nat.lt_of_le_of_lt h0 (Nat.lt_of_le_of_lt h1 (by decide))
theorem z238 {a b:Nat} (h0:a≤b) (h1:b≤7):a≤7:=Nat.le_trans h0 h1
theorem z239 {a b c:Nat} (h0:(a+b)≤100000) (h1:c≤b):(a+c)≤1000000:=zf2 (.branch 2 (.branch 1 (.leaf a) (.leaf b)) (.leaf c)) (.add (.var 0) (.var 2)) (.num 1000000) (.add (.var 0) (.var 1)) (.num 100000) (.var 2) (.var 1) rfl h0 h1
theorem z240 {a b:Nat} (h0:a≤(100*b)):(a+0)≤(100*(b+1)):=Nat.le_trans h0 (Nat.le_add_right _ _)
theorem z241 {a b c:Nat} (h0:a≤(100*b)) (h1:c≤100):(a+c)≤(100*(b+1)):=Nat.add_le_add h0 h1
theorem z242 {a b:Nat} (h0:a≤100) (h1:b<a):(100*b)≤10000:=zf2 (.branch 1 (.leaf a) (.leaf b)) (.mulL 100 (.var 1)) (.num 10000) (.mulL 100 (.var 0)) (.mulL 100 (.num 100)) (.mulL 100 (.add (.var 1) (.num 1))) (.mulL 100 (.var 0)) rfl (Nat.mul_le_mul_left 100 h0) (Nat.mul_le_mul_left 100 h1)
theorem z243 {a b:Nat} (h0:a≤10000) (h1:b≤100):(a+b)≤100000:=zf2 (.branch 1 (.leaf a) (.leaf b)) (.add (.var 0) (.var 1)) (.num 100000) (.var 0) (.num 10000) (.var 1) (.num 100) rfl h0 h1
theorem z244:4≤17:=by decide
theorem z245:14≤17:=by decide
theorem z246 {a:Nat} (h0:a≤7):a≤100:=Nat.le_trans h0 (by decide)
theorem z247 {a:Nat} (h0:a≤10):a≤100:=Nat.le_trans h0 (by decide)
theorem z248 {a b c:Nat} (h0:a≤10) (h1:b≤(10*c)):(a+b)≤(10*(c+1)):=zf2 (.branch 2 (.branch 1 (.leaf a) (.leaf b)) (.leaf c)) (.add (.var 0) (.var 1)) (.mulL 10 (.add (.var 2) (.num 1))) (.var 0) (.num 10) (.var 1) (.mulL 10 (.var 2)) rfl h0 h1
theorem z249 {a b:Nat} (h0:a≤7) (h1:b≤(10*a)):b≤1000:=zf2 (.branch 1 (.leaf a) (.leaf b)) (.var 1) (.num 1000) (.mulL 10 (.var 0)) (.mulL 10 (.num 7)) (.var 1) (.mulL 10 (.var 0)) rfl (Nat.mul_le_mul_left 10 h0) h1
theorem z250 {a b:Nat} (h0:a≤7) (h1:b<a):b<60:=Nat.lt_of_lt_of_le h1 (Nat.le_trans h0 (by decide))
theorem z251 {a b c:Nat} (h0:a=b) (h1:¬(c<a)):b≤c:=zf2 (.branch 2 (.branch 1 (.leaf a) (.leaf b)) (.leaf c)) (.var 1) (.var 2) (.var 1) (.var 0) (.var 0) (.var 2) rfl (Nat.le_of_eq h0.symm) (Nat.le_of_not_lt h1)
theorem z252:6≤21:=by decide
theorem z253:2≤21:=by decide
theorem z254 {a b c:Nat} (h0:a≤7) (h1:b≤a) (h2:(c+1)≤(1+(7*b))):c≤1000:=zf3 (.branch 2 (.branch 1 (.leaf a) (.leaf b)) (.leaf c)) (.var 2) (.num 1000) (.mulL 7 (.var 0)) (.mulL 7 (.num 7)) (.mulL 7 (.var 1)) (.mulL 7 (.var 0)) (.add (.var 2) (.num 1)) (.add (.num 1) (.mulL 7 (.var 1))) rfl (Nat.mul_le_mul_left 7 h0) (Nat.mul_le_mul_left 7 h1) h2
theorem z255 {a b:Nat} (h0:a≤7) (h1:(b+1)≤a):b≤1000000:=Nat.le_trans (Nat.le_of_lt h1) (Nat.le_trans h0 (by decide))
theorem z256:18≤21:=by decide
theorem z257 {a b c:Nat} (h0:a≤1000) (h1:b≤7) (h2:c=b):(a+c)≤1000000:=zf3 (.branch 2 (.branch 1 (.leaf a) (.leaf b)) (.leaf c)) (.add (.var 0) (.var 2)) (.num 1000000) (.var 0) (.num 1000) (.var 1) (.num 7) (.var 2) (.var 1) rfl h0 h1 (Nat.le_of_eq h2)
theorem z258 {a b c d:Nat} (h0:(a+1)≤b) (h1:c≤7):(((b-(a+1))*10)+(d+c))<(((b-a)*10)+(d+1)):=zf2 (.branch 2 (.branch 1 (.leaf (b-a)) (.leaf c)) (.branch 3 (.leaf d) (.leaf (b-(a+1))))) (.add (.add (.mulR (.var 3) 10) (.add (.var 2) (.var 1))) (.num 1)) (.add (.mulR (.var 0) 10) (.add (.var 2) (.num 1))) (.var 1) (.num 7) (.mulL 10 (.add (.var 3) (.num 1))) (.mulL 10 (.var 0)) rfl h1 (Nat.mul_le_mul_left 10 (Nat.sub_succ_lt_self _ _ h0))
theorem z259 {a b c:Nat} (h0:(a+1)≤(1+(7*b))) (h1:c≤7):(a+c)≤(1+(7*(b+1))):=zf2 (.branch 2 (.branch 1 (.leaf a) (.leaf b)) (.leaf c)) (.add (.var 0) (.var 2)) (.add (.num 1) (.mulL 7 (.add (.var 1) (.num 1)))) (.add (.var 0) (.num 1)) (.add (.num 1) (.mulL 7 (.var 1))) (.var 2) (.num 7) rfl h0 h1
theorem z260 {a b:Nat} (h0:(a+1)≤(1+(7*b))):a≤(1+(7*b)):=Nat.le_of_lt h0
theorem z261 {a b c:Nat}:(((a-b)*10)+c)<(((a-b)*10)+(c+1)):=Nat.le_refl _
theorem z262 {a b:Nat} (h0:a≤7) (h1:b≤a):b<64:=Nat.lt_of_le_of_lt h1 (Nat.lt_of_le_of_lt h0 (by decide))
theorem z263 {a:Nat} (h0:a≤2):a≤1000000:=Nat.le_trans h0 (by decide)
theorem z264 {a b c:Nat} (h0:a≤(b+1)) (h1:(c+1)≤a):c≤b:=Nat.le_of_lt_succ (Nat.lt_of_lt_of_le h1 h0)
theorem z265 {a b:Nat} (h0:(a+1)≤b):(a+14)≤(b+13):=Nat.le_add_of_sub_le h0
theorem z266 {a b:Nat} (h0:a≤2) (h1:a=b):b≤2:=h1 ▸ h0
theorem z267 {a:Nat}:10≤(a+13):=Nat.le_add_left _ _
theorem z268 {a:Nat} (h0:a≤2):a≤1000:=Nat.le_trans h0 (by decide)
theorem z269 {a b c:Nat} (h0:a<(b+1)) (h1:c<a):c<b:=Nat.le_of_lt_succ (Nat.lt_of_le_of_lt h1 h0)
theorem z270 {a b:Nat} (h0:a≤(b+1)):(a+1)≤((b+1)+1):=Nat.le_add_of_sub_le h0
theorem z271 {a b c:Nat} (h0:a≤50) (h1:b≤c) (h2:c≤a):b≤1000000:=zf3 (.branch 2 (.branch 1 (.leaf a) (.leaf b)) (.leaf c)) (.var 1) (.num 1000000) (.var 0) (.num 50) (.var 1) (.var 2) (.var 2) (.var 0) rfl h0 h1 h2
theorem z272 {a b c:Nat} (h0:a≤50) (h1:b≤a) (h2:(c+1)≤b):c≤1000000:=zf3 (.branch 2 (.branch 1 (.leaf a) (.leaf b)) (.leaf c)) (.var 2) (.num 1000000) (.var 0) (.num 50) (.var 1) (.var 0) (.add (.var 2) (.num 1)) (.var 1) rfl h0 h1 h2
theorem z273 {a b:Nat} (h0:(a+1)≤b):(a+1)≤b:=h0
theorem z274 {a b:Nat} (h0:a≤50) (h1:(b+1)≤a):b≤1000000:=Nat.le_trans (Nat.le_of_lt h1) (Nat.le_trans h0 (by decide))
theorem z275 {a b c:Nat} (h0:a≤50) (h1:(b+1)≤c) (h2:(c+1)≤a):b≤1000000:=Nat.le_trans (Nat.le_of_lt (Nat.lt_trans h1 (Nat.lt_of_lt_of_le h2 h0))) (by decide)
theorem z276 {a b c d e:Nat} (h0:(((a-b)*2)+c)≤(((a-d)*2)+e)) (h1:(b+1)≤a):(((a-(b+1))*2)+(c+1))≤(((a-d)*2)+e):=zf2 (.branch 2 (.branch 1 (.leaf (a-b)) (.leaf c)) (.branch 3 (.leaf (((a-d)*2)+e)) (.leaf (a-(b+1))))) (.add (.mulR (.var 3) 2) (.add (.var 1) (.num 1))) (.var 2) (.add (.mulR (.var 0) 2) (.var 1)) (.var 2) (.mulL 2 (.add (.var 3) (.num 1))) (.mulL 2 (.var 0)) rfl h0 (Nat.mul_le_mul_left 2 (Nat.sub_succ_lt_self _ _ h1))
theorem z277 {a b:Nat} (h0:(a+1)≤b):a≤b:=Nat.le_of_lt h0
theorem z278 {a b c d e:Nat} (h0:(((a-b)*2)+c)≤(((a-d)*2)+e)):(((a-b)*2)+c)<(((a-d)*2)+(e+1)):=Nat.lt_succ_of_le h0
theorem z279 {a b:Nat} (h0:a≤50) (h1:b≤a):b<64:=Nat.lt_of_le_of_lt h1 (Nat.lt_of_le_of_lt h0 (by decide))
theorem z280 {a:Nat} (h0:a≤2):(0+a)≤1000000:=Nat.le_trans (Nat.add_le_add_left h0 _) (by decide)
theorem z281 {a b c d:Nat} (h0:a≤50) (h1:b≤a) (h2:c≤d) (h3:d<b):c≤1000000:=zf3 (.branch 2 (.branch 1 (.leaf a) (.leaf b)) (.branch 3 (.leaf c) (.leaf d))) (.var 2) (.num 1000000) (.add (.var 0) (.var 1)) (.add (.num 50) (.var 0)) (.var 2) (.var 3) (.add (.var 3) (.num 1)) (.var 1) rfl (Nat.add_le_add h0 h1) h2 h3
theorem z282 {a:Nat} (h0:1≤a):(0:Int)<((a:Nat):Int):=Int.ofNat_lt.mpr h0
theorem z283 {a:Nat} (h0:1≤a):((a:Nat):Int)≠(0:Int):=by grind
theorem z284 {a:Nat} (h0:a≤63):a≤1000000:=Nat.le_trans h0 (by decide)
theorem z285 {a b:Nat} (h0:a≤100000) (h1:b≤a):b≤1000000:=Nat.le_trans h1 (Nat.le_trans h0 (by decide))
theorem z286 {a:Nat} (h0:1≤a):¬(a=0):=Nat.ne_of_gt h0
theorem z287 {a:Nat}:6≤((a*2)+9):=Nat.le_add_left _ _
theorem z288 {a b c:Nat} (h0:(a+b)≤(c+1)) (h1:c≤100000) (h2:1≤b):a≤100000:=zf3 (.branch 2 (.branch 1 (.leaf a) (.leaf b)) (.leaf c)) (.var 0) (.num 100000) (.add (.var 0) (.var 1)) (.add (.var 2) (.num 1)) (.var 2) (.num 100000) (.num 1) (.var 1) rfl h0 h1 h2
theorem z289 {a:Nat} (h0:a<2):(a=0)∨(a=1):=Nat.le_one_iff_eq_zero_or_eq_one.mp (Nat.le_of_lt_succ h0)
theorem z290:1≤1000000:=by decide
theorem z291 {a:Nat} (h0:0<a):a=((a-1)+1):=(Nat.succ_pred_eq_of_pos h0).symm
theorem z292 {a:Nat}:(a*2)=(2*a):=Nat.mul_comm _ _
theorem z293 {a:Nat}:((a*2)+10)≤(((a+1)*2)+9):=by grind
theorem z294 {a:Nat}:((min 1 a)+1)≤(a+1):=Nat.succ_le_succ (Nat.min_le_right _ _)
theorem z295 {a b:Nat}:((a+1)+b)≤((a+b)+1):=by grind
theorem z296 {a:Nat} (h0:a<1):((((a+1):Nat):Int)-(1:Int))<(1:Int):=by rcases h0 with rfl | rfl | rfl | rfl | rfl | rfl <;> decide
theorem z297 {a:Nat} (h0:a<1):((((a+1):Nat):Int)-(1:Int))=(((min 1 a):Nat):Int):=by rcases h0 with rfl | rfl | rfl | rfl | rfl | rfl <;> decide
theorem z298 {a:Nat} (h0:¬(a<1)):¬(((((a+1):Nat):Int)-(1:Int))<(1:Int)):=fun h=>h0 (Int.ofNat_lt.mp (Int.lt_of_le_of_lt (Int.le_of_eq (Int.add_sub_cancel (a:Int) 1).symm) h))
theorem z299 {a:Nat} (h0:¬(a<1)):(1:Int)=(((min 1 a):Nat):Int):=congrArg Int.ofNat (Nat.min_eq_left (Nat.le_of_not_lt h0)).symm
theorem z300 {a:Nat}:(min 1 a)<(a+1):=Nat.lt_succ_of_le (Nat.min_le_right _ _)
theorem z301 {a:Nat}:(((min 1 a)*2)+10)≤(((a+1)*2)+9):=zf1 (.branch 1 (.leaf (min 1 a)) (.leaf a)) (.add (.mulR (.var 0) 2) (.num 10)) (.add (.mulR (.add (.var 1) (.num 1)) 2) (.num 9)) (.mulL 2 (.var 0)) (.mulL 2 (.var 1)) rfl (Nat.mul_le_mul_left 2 (Nat.min_le_right 1 a))
theorem z302 {a b c:Nat} (h0:a≤(b+1)) (h1:c≤((min 1 b)+1)):((max a c)+1)≤((b+1)+1):=Nat.succ_le_succ (Nat.max_le.mpr ⟨h0,Nat.le_trans h1 (Nat.succ_le_succ (Nat.min_le_right _ _))⟩)
theorem z303 {a:Nat} (h0:a=0):a=0:=h0
theorem z304 {a:Nat} (h0:a<2):a<2:=h0
theorem z305 {a b:Nat} (h0:(a+1)≤b):(a+10)≤(b+9):=Nat.le_add_of_sub_le h0
theorem z306 {a:Nat} (h0:((a:Nat):Int)=(-(1:Int))):False:=by rcases h0 with rfl | h0 <;> grind
theorem z307 {a b c d:Nat} (h0:a=b) (h1:c<b) (h2:d<c):d<a:=zf3 (.branch 2 (.branch 1 (.leaf a) (.leaf b)) (.branch 3 (.leaf c) (.leaf d))) (.add (.var 3) (.num 1)) (.var 0) (.var 1) (.var 0) (.add (.var 2) (.num 1)) (.var 1) (.add (.var 3) (.num 1)) (.var 2) rfl (Nat.le_of_eq h0.symm) h1 h2
theorem z308 {a b c:Nat} (h0:a=b) (h1:b≤50) (h2:c<a):c≤1000000:=zf3 (.branch 2 (.branch 1 (.leaf a) (.leaf b)) (.leaf c)) (.var 2) (.num 1000000) (.var 0) (.var 1) (.var 1) (.num 50) (.add (.var 2) (.num 1)) (.var 0) rfl (Nat.le_of_eq h0) h1 h2
theorem z309 {a:Nat}:2≤(a+9):=Nat.le_add_left _ _
theorem z310 {a b:Nat} (h0:a≤50) (h1:b<a):b≤1000000:=Nat.le_trans (Nat.le_of_lt h1) (Nat.le_trans h0 (by decide))
theorem z311:(0:Int)≤(0:Int):=by decide
theorem z312:(0:Int)≤(1000001:Int):=by decide
theorem z313 {a:Nat} (h0:a≤1000000):((a:Nat):Int)≤(1000001:Int):=Int.ofNat_le.mpr (Nat.le_trans h0 (by decide):a≤1000001)
theorem z314:(0:Int)≤(1:Int):=by decide
theorem z315:(1:Int)≤(1000001:Int):=by decide
theorem z316 {a:Nat}:(0:Int)≤(((a:Nat):Int)+((1:Int)-(1:Int))):=Int.ofNat_nonneg _
theorem z317 {a:Nat} (h0:a≤1000000):(((a:Nat):Int)+((1:Int)-(1:Int)))≤(1000001:Int):=z313 h0
theorem z318 {a:Nat}:((0:Int)+(((a:Nat):Int)*(1:Int)))=((a:Nat):Int):=by simp
theorem z319 {a b:Nat} (h0:a<b):¬(0=b):=by rcases h0 with rfl | h0 <;> grind
theorem z320 {a b c:Nat} (h0:a<b) (h1:c<b):(max a c)<b:=Nat.max_lt.mpr ⟨h0,h1⟩
theorem z321 {a:Nat} (h0:a≤100):a≤(100+(50*0)):=Nat.le_add_of_sub_le h0
theorem z322 {a b c:Nat} (h0:a≤50) (h1:b=a) (h2:c<b):c≤1000000:=zf3 (.branch 2 (.branch 1 (.leaf a) (.leaf b)) (.leaf c)) (.var 2) (.num 1000000) (.var 0) (.num 50) (.var 1) (.var 0) (.add (.var 2) (.num 1)) (.var 1) rfl h0 (Nat.le_of_eq h1) h2
theorem z323 {a b c:Nat} (h0:a<b) (h1:c<a):c<b:=Nat.lt_trans h1 h0
theorem z324 {a b c d e:Nat} (h0:a=b) (h1:c<b) (h2:d<c) (h3:e<d):e<a:=zf3 (.branch 3 (.branch 2 (.branch 1 (.leaf a) (.leaf b)) (.leaf c)) (.branch 4 (.leaf d) (.leaf e))) (.add (.var 4) (.num 1)) (.var 0) (.add (.var 1) (.add (.var 2) (.num 1))) (.add (.var 0) (.var 1)) (.add (.var 3) (.num 1)) (.var 2) (.add (.var 4) (.num 1)) (.var 3) rfl (Nat.add_le_add (Nat.le_of_eq h0.symm) h1) h2 h3
theorem z325:2≤9:=by decide
theorem z326 {a b c d:Nat} (h0:a≤50) (h1:b≤(100+(50*c))) (h2:c<a) (h3:d≤c):(b+d)≤1000000:=zf3 (.branch 2 (.branch 1 (.leaf a) (.leaf b)) (.branch 3 (.leaf c) (.leaf d))) (.add (.var 1) (.var 3)) (.num 1000000) (.add (.mulL 2500 (.var 0)) (.var 1)) (.add (.mulL 2500 (.num 50)) (.add (.num 100) (.mulL 50 (.var 2)))) (.mulL 2500 (.add (.var 2) (.num 1))) (.mulL 2500 (.var 0)) (.var 3) (.var 2) rfl (Nat.add_le_add (Nat.mul_le_mul_left 2500 h0) h1) (Nat.mul_le_mul_left 2500 h2) h3
theorem z327 {a b c d:Nat} (h0:a≤50) (h1:b≤(100+(50*c))) (h2:c<a) (h3:d≤c):(b+d)≤(100+(50*(c+1))):=zf3 (.branch 2 (.branch 1 (.leaf a) (.leaf b)) (.branch 3 (.leaf c) (.leaf d))) (.add (.var 1) (.var 3)) (.add (.num 100) (.mulL 50 (.add (.var 2) (.num 1)))) (.add (.var 0) (.var 1)) (.add (.num 50) (.add (.num 100) (.mulL 50 (.var 2)))) (.add (.var 2) (.num 1)) (.var 0) (.var 3) (.var 2) rfl (Nat.add_le_add h0 h1) h2 h3
theorem z328 {a b c:Nat} (h0:a<b) (h1:c=b):a<c:=Nat.lt_of_lt_of_eq h0 h1.symm
theorem z329 {a b:Nat}:(¬((min a b)<(max a b)))→(a=b):=fun h=>zmm (Nat.le_of_not_lt h)
theorem z330 {a b:Nat} (h0:a≤50) (h1:b=a):b≤1000000:=Nat.le_trans (Nat.le_of_eq h1) (Nat.le_trans h0 (by decide))
theorem z331 {a b c:Nat} (h0:(a+1)=b) (h1:(b+1)≤c):(a+1)≤c:=zf2 (.branch 2 (.branch 1 (.leaf a) (.leaf b)) (.leaf c)) (.add (.var 0) (.num 1)) (.var 2) (.add (.var 0) (.num 1)) (.var 1) (.add (.var 1) (.num 1)) (.var 2) rfl (Nat.le_of_eq h0) h1
theorem z332 {a b:Nat} (h0:(a+1)=b):(a+1)≤b:=Nat.le_of_eq h0
theorem z333 {a b:Nat} (h0:(a+1)≤b):a<b:=h0
theorem z334:2>0:=by decide
theorem z335 {a b:Nat} (h0:a≤7):(a-b)≤7:=Nat.le_trans (Nat.sub_le _ _) h0
theorem z336 {a b:Nat} (h0:(a+b)≤20):a≤1000:=Nat.le_trans (Nat.le_trans (Nat.le_add_right _ _) h0) (by decide)
theorem z337 {a b c:Nat} (h0:(a+(b+(2100*c)))≤20000):a≤100000:=Nat.le_trans (Nat.le_trans (Nat.le_add_right _ _) h0) (by decide)
theorem z338 {a b c:Nat} (h0:(a+(b+(2100*c)))≤20000):b≤50000:=zf1 (.branch 2 (.branch 1 (.leaf a) (.leaf b)) (.leaf c)) (.var 1) (.num 50000) (.add (.var 0) (.add (.var 1) (.mulL 2100 (.var 2)))) (.num 20000) rfl h0
theorem z339 {a:Nat} (h0:a≤2048):a≤50000:=Nat.le_trans h0 (by decide)
theorem z340 {a b c d:Nat} (h0:(a+1)=b) (h1:c≤2048):((d+c)+(2100*a))<(d+(2100*b)):=zf2 (.branch 2 (.branch 1 (.leaf a) (.leaf b)) (.branch 3 (.leaf c) (.leaf d))) (.add (.add (.add (.var 3) (.var 2)) (.mulL 2100 (.var 0))) (.num 1)) (.add (.var 3) (.mulL 2100 (.var 1))) (.mulL 2100 (.add (.var 0) (.num 1))) (.mulL 2100 (.var 1)) (.var 2) (.num 2048) rfl (Nat.mul_le_mul_left 2100 (Nat.le_of_eq h0)) h1
theorem z341 {a b c:Nat} (h0:(a+1)=b) (h1:b≤c):(c-a)=((c-b)+1):=by subst h0; exact (Nat.succ_pred_eq_of_pos (Nat.sub_pos_of_lt h1)).symm
theorem z342 {a:Nat}:(16*(a*2))=((16*a)+(16*a)):=by grind
theorem z343 {a b c:Nat} (h0:a≤(16*b)) (h1:c≤(16*b)):(a+c)≤((16*b)+(16*b)):=Nat.add_le_add h0 h1
theorem z344 {a b:Nat} (h0:a≤(16*b)):a≤((16*b)+(16*b)):=Nat.le_trans h0 (Nat.le_add_right _ _)
theorem z345 {a b c:Nat} (h0:(a+1)=b) (h1:(c+b)≤20):((c+1)+a)≤20:=zf2 (.branch 2 (.branch 1 (.leaf a) (.leaf b)) (.leaf c)) (.add (.add (.var 2) (.num 1)) (.var 0)) (.num 20) (.add (.var 0) (.num 1)) (.var 1) (.add (.var 2) (.var 1)) (.num 20) rfl (Nat.le_of_eq h0) h1
theorem z346 {a b c d e:Nat} (h0:(a+(2100*b))<(c+(2100*d))) (h1:(e+(c+(2100*d)))≤20000):(e+(a+(2100*b)))≤20000:=zf2 (.branch 3 (.branch 2 (.branch 1 (.leaf a) (.leaf b)) (.leaf c)) (.branch 4 (.leaf d) (.leaf e))) (.add (.var 4) (.add (.var 0) (.mulL 2100 (.var 1)))) (.num 20000) (.add (.add (.var 0) (.mulL 2100 (.var 1))) (.num 1)) (.add (.var 2) (.mulL 2100 (.var 3))) (.add (.var 4) (.add (.var 2) (.mulL 2100 (.var 3)))) (.num 20000) rfl h0 h1
theorem z347 {a b:Nat} (h0:¬(a=b)):(min a b)<(max a b):=Nat.lt_of_not_le fun h=>h0 (zmm h)
theorem z348 {a b c d:Nat} (h0:(a+(2100*b))<(c+(2100*d))):(a+(2100*b))≤(c+(2100*d)):=Nat.le_of_lt h0
theorem z349 {a b:Nat} (h0:¬(a=b)):¬(a=b):=h0
theorem z350 {a b:Nat} (h0:a>b):¬(b=a):=Nat.ne_of_lt h0
theorem z351 {a:Nat} (h0:a≤100):(a+(0+1))≤(16777216+1):=Nat.lt_of_le_of_lt h0 (by decide)
theorem z352 {a b:Nat} (h0:(a+(20*(b+1)))≤9600):((a+1)+(20*b))≤9600:=zf1 (.branch 1 (.leaf a) (.leaf b)) (.add (.add (.var 0) (.num 1)) (.mulL 20 (.var 1))) (.num 9600) (.add (.var 0) (.mulL 20 (.add (.var 1) (.num 1)))) (.num 9600) rfl h0
theorem z353 {a b c d:Nat} (h0:a=(b+1)) (h1:(c+(a+(2100*d)))≤20000):(c+(b+(2100*d)))≤20000:=zf2 (.branch 2 (.branch 1 (.leaf a) (.leaf b)) (.branch 3 (.leaf c) (.leaf d))) (.add (.var 2) (.add (.var 1) (.mulL 2100 (.var 3)))) (.num 20000) (.add (.var 1) (.num 1)) (.var 0) (.add (.var 2) (.add (.var 0) (.mulL 2100 (.var 3)))) (.num 20000) rfl (Nat.le_of_eq h0.symm) h1
theorem z354 {a b c d:Nat} (h0:a=(b+1)) (h1:(c+(a+(2100*d)))≤20000):((c+1)+(b+(2100*d)))≤20000:=zf2 (.branch 2 (.branch 1 (.leaf a) (.leaf b)) (.branch 3 (.leaf c) (.leaf d))) (.add (.add (.var 2) (.num 1)) (.add (.var 1) (.mulL 2100 (.var 3)))) (.num 20000) (.add (.var 1) (.num 1)) (.var 0) (.add (.var 2) (.add (.var 0) (.mulL 2100 (.var 3)))) (.num 20000) rfl (Nat.le_of_eq h0.symm) h1
theorem z355 {a b c d e:Nat} (h0:a=(b+1)) (h1:(c+(2100*d))≤(b+(2100*e))):(c+(2100*d))<(a+(2100*e)):=zf2 (.branch 3 (.branch 2 (.branch 1 (.leaf a) (.leaf b)) (.leaf c)) (.branch 4 (.leaf d) (.leaf e))) (.add (.add (.var 2) (.mulL 2100 (.var 3))) (.num 1)) (.add (.var 0) (.mulL 2100 (.var 4))) (.add (.var 1) (.num 1)) (.var 0) (.add (.var 2) (.mulL 2100 (.var 3))) (.add (.var 1) (.mulL 2100 (.var 4))) rfl (Nat.le_of_eq h0.symm) h1
theorem z356 {a b:Nat} (h0:(a+b)≤19):((a+1)+b)≤20:=zf1 (.branch 1 (.leaf a) (.leaf b)) (.add (.add (.var 0) (.num 1)) (.var 1)) (.num 20) (.add (.var 0) (.var 1)) (.num 19) rfl h0
theorem z357 {a b c:Nat} (h0:(a+1)=b):((c+1)+a)≤((c+b)+1):=by subst h0; grind
theorem z358 {a:Nat} (h0:a≤7):(0+a)≤20:=Nat.le_trans (Nat.add_le_add_left h0 _) (by decide)
theorem z359 {a b c:Nat} (h0:a≤7) (h1:b≤a) (h2:1≤c):b≤(16*c):=zf3 (.branch 2 (.branch 1 (.leaf a) (.leaf b)) (.leaf c)) (.var 1) (.mulL 16 (.var 2)) (.var 0) (.num 7) (.var 1) (.var 0) (.mulL 16 (.num 1)) (.mulL 16 (.var 2)) rfl h0 h1 (Nat.mul_le_mul_left 16 h2)
theorem z360 {a:Nat} (h0:a≤7):(a+(2100*a))≤20000:=zf1 (.leaf a) (.add (.var 0) (.mulL 2100 (.var 0))) (.num 20000) (.mulL 2101 (.var 0)) (.mulL 2101 (.num 7)) rfl (Nat.mul_le_mul_left 2101 h0)
theorem z361 {a b c:Nat} (h0:a≥b) (h1:c<b):c<a:=Nat.lt_of_lt_of_le h1 h0
theorem z362 {a b c:Nat} (h0:a=(b+1)) (h1:c<b):c<a:=zf2 (.branch 2 (.branch 1 (.leaf a) (.leaf b)) (.leaf c)) (.add (.var 2) (.num 1)) (.var 0) (.add (.var 1) (.num 1)) (.var 0) (.add (.var 2) (.num 1)) (.var 1) rfl (Nat.le_of_eq h0.symm) h1
theorem z363 {a b:Nat} (h0:a=(b+1)):b<a:=Nat.le_of_eq h0.symm
theorem z364 {a b c:Nat} (h0:a=(b+1)) (h1:c<a) (h2:c≥b):c=b:=Nat.le_antisymm (zf2 (.branch 2 (.branch 1 (.leaf a) (.leaf b)) (.leaf c)) (.var 2) (.var 1) (.var 0) (.add (.var 1) (.num 1)) (.add (.var 2) (.num 1)) (.var 0) rfl (Nat.le_of_eq h0) h1) (zf1 (.branch 2 (.branch 1 (.leaf a) (.leaf b)) (.leaf c)) (.var 1) (.var 2) (.var 1) (.var 2) rfl h2)
theorem z365 {a b c:Nat} (h0:a<b) (h1:c<a):¬(c=b):=Nat.ne_of_lt (zf2 (.branch 2 (.branch 1 (.leaf a) (.leaf b)) (.leaf c)) (.add (.var 2) (.num 1)) (.var 1) (.add (.var 0) (.num 1)) (.var 1) (.add (.var 2) (.num 1)) (.var 0) rfl h0 h1)
theorem z366 {a b c:Nat} (h0:a=(b+1)) (h1:c=b):c<a:=zf2 (.branch 2 (.branch 1 (.leaf a) (.leaf b)) (.leaf c)) (.add (.var 2) (.num 1)) (.var 0) (.add (.var 1) (.num 1)) (.var 0) (.var 2) (.var 1) rfl (Nat.le_of_eq h0.symm) (Nat.le_of_eq h1)
theorem z367 {a b c:Nat} (h0:a=(b+1)) (h1:c≤b):c≤a:=zf2 (.branch 2 (.branch 1 (.leaf a) (.leaf b)) (.leaf c)) (.var 2) (.var 0) (.add (.var 1) (.num 1)) (.var 0) (.var 2) (.var 1) rfl (Nat.le_of_eq h0.symm) h1
theorem z368 {a b c:Nat} (h0:a=b) (h1:a≤c):b≤c:=Nat.le_trans (Nat.le_of_eq h0.symm) h1
theorem z369 {a b c d:Nat} (h0:a=b) (h1:c=d) (h2:b≤c) (h3:d≤a):a=c:=Nat.le_antisymm (zf2 (.branch 2 (.branch 1 (.leaf a) (.leaf b)) (.branch 3 (.leaf c) (.leaf d))) (.var 0) (.var 2) (.var 0) (.var 1) (.var 1) (.var 2) rfl (Nat.le_of_eq h0) h2) (zf2 (.branch 2 (.branch 1 (.leaf a) (.leaf b)) (.branch 3 (.leaf c) (.leaf d))) (.var 2) (.var 0) (.var 2) (.var 3) (.var 3) (.var 0) rfl (Nat.le_of_eq h1) h3)
theorem z370 {a b:Nat} (h0:a<b):(b-(a+1))<(b-a):=Nat.sub_succ_lt_self _ _ h0
theorem z371 {a b:Nat} (h0:a≤b) (h1:¬(a<b)):a=b:=Nat.le_antisymm h0 (Nat.le_of_not_lt h1)
theorem z372 {a:Nat}:(a+2)≠a:=by simp
theorem z373 {a:Nat}:(a+2)≠(a+1):=Nat.ne_of_gt (Nat.lt_succ_self _)
theorem z374 {a b c:Nat} (h0:a≤1000) (h1:b<a) (h2:c≤b):c≤1000000:=zf3 (.branch 2 (.branch 1 (.leaf a) (.leaf b)) (.leaf c)) (.var 2) (.num 1000000) (.var 0) (.num 1000) (.add (.var 1) (.num 1)) (.var 0) (.var 2) (.var 1) rfl h0 h1 h2
theorem z375 {a b c:Nat} (h0:a≤b) (h1:c≤(a+1)):c≤(b+1):=zf2 (.branch 2 (.branch 1 (.leaf a) (.leaf b)) (.leaf c)) (.var 2) (.add (.var 1) (.num 1)) (.var 0) (.var 1) (.var 2) (.add (.var 0) (.num 1)) rfl h0 h1
theorem z376 {a b c d e:Nat} (h0:a≤100) (h1:b<c) (h2:d≤(100*b)) (h3:a=c) (h4:e≤100):(d+e)≤100000:=zf3 (.branch 3 (.branch 2 (.branch 1 (.leaf a) (.leaf b)) (.leaf c)) (.branch 4 (.leaf d) (.leaf e))) (.add (.var 3) (.var 4)) (.num 100000) (.add (.add (.mulL 100 (.var 0)) (.mulL 100 (.add (.var 1) (.num 1)))) (.var 3)) (.add (.add (.mulL 100 (.num 100)) (.mulL 100 (.var 2))) (.mulL 100 (.var 1))) (.mulL 100 (.var 2)) (.mulL 100 (.var 0)) (.var 4) (.num 100) rfl (Nat.add_le_add (Nat.add_le_add (Nat.mul_le_mul_left 100 h0) (Nat.mul_le_mul_left 100 h1)) h2) (Nat.mul_le_mul_left 100 (Nat.le_of_eq h3.symm)) h4
theorem z377 {a b:Nat} (h0:a≤(100*b)):a≤(100*(b+1)):=Nat.le_trans h0 (Nat.le_add_right _ _)
theorem z378 {a b c:Nat} (h0:a≤(100*b)) (h1:c=b):a≤(100*c):=h1 ▸ h0
theorem z379 {a b c:Nat} (h0:a=b) (h1:c<a):c<b:=Nat.lt_of_lt_of_eq h1 h0
theorem z380 {a b c:Nat} (h0:a≤b) (h1:c<a):((b+1)-(c+1))<((b+1)-c):=Nat.sub_succ_lt_self _ _ (Nat.lt_succ_of_lt (Nat.lt_of_lt_of_le h1 h0))
theorem z381 {a:Nat} (h0:(a+(20*2))≤9600):(a+1)<9900:=zf1 (.leaf a) (.add (.add (.var 0) (.num 1)) (.num 1)) (.num 9900) (.add (.var 0) (.mulL 20 (.num 2))) (.num 9600) rfl h0
theorem z382:2≤4:=by decide
theorem z383 {a:Nat} (h0:a<10):a<1920:=Nat.le_trans h0 (by decide)
theorem z384 {a b:Nat} (h0:(a+b)≤100000):(a+b)≤16777216:=Nat.le_trans h0 (Nat.le_add_left _ _)
theorem z385 {a:Nat}:(min 50 a)≤1000000:=Nat.le_trans (Nat.min_le_left _ _) (by decide)
theorem z386:10≤40:=by decide
theorem z387 {a:Nat}:(min 50 a)≤63:=Nat.le_trans (Nat.min_le_left _ _) (by decide)
theorem z388:0≤1000:=by decide
theorem z389 {a:Nat} (h0:a≤50):a≤100000:=Nat.le_trans h0 (by decide)
theorem z390 {a b:Nat} (h0:a≤50) (h1:b≤a):(b+1)≤50000:=Nat.lt_of_le_of_lt h1 (Nat.lt_of_le_of_lt h0 (by decide))
theorem z391 {a b:Nat} (h0:a≤50) (h1:b≤a):b≤50000:=Nat.le_trans h1 (Nat.le_trans h0 (by decide))
theorem z392 {a:Nat} (h0:a<2):(min a 2)=a:=Nat.min_eq_left (Nat.le_of_lt h0)
theorem z393:24≤40:=by decide
theorem z394 {a b:Nat} (h0:a<2) (h1:b=a):b<50:=Nat.lt_of_le_of_lt (Nat.le_of_eq h1) (Nat.lt_of_lt_of_le h0 (by decide))
theorem z395 {a b:Nat} (h0:a<2) (h1:b=a):b≤50:=Nat.le_trans (Nat.le_of_eq h1) (Nat.le_trans (Nat.le_of_lt h0) (by decide))
theorem z396:6≤40:=by decide
theorem z397 {a:Nat} (h0:a≤1000):a≤100000:=Nat.le_trans h0 (by decide)
theorem z398 {a:Nat}:((2:Int)+((a:Nat):Int))=(((2+a):Nat):Int):=rfl
theorem z399 {a:Nat} (h0:a<4):(2+a)≤1000000:=zf1 (.leaf a) (.add (.num 2) (.var 0)) (.num 1000000) (.add (.var 0) (.num 1)) (.num 4) rfl h0
theorem z400 {a:Nat} (h0:a=2):2≤a:=Nat.le_of_eq h0.symm
theorem z401 {a:Nat} (h0:a=2):a≤(2+0):=Nat.le_of_eq h0
theorem z402:1≤(1+(3*0)):=Nat.le_refl _
theorem z403 {a b:Nat} (h0:a<4) (h1:b<(2+a)):b<5:=zf2 (.branch 1 (.leaf a) (.leaf b)) (.add (.var 1) (.num 1)) (.num 5) (.add (.var 0) (.num 1)) (.num 4) (.add (.var 1) (.num 1)) (.add (.num 2) (.var 0)) rfl h0 h1
theorem z404 {a b:Nat} (h0:a≤(1+(3*b))) (h1:b<5):a≤1000:=zf2 (.branch 1 (.leaf a) (.leaf b)) (.var 0) (.num 1000) (.var 0) (.add (.num 1) (.mulL 3 (.var 1))) (.mulL 3 (.add (.var 1) (.num 1))) (.mulL 3 (.num 5)) rfl h0 (Nat.mul_le_mul_left 3 h1)
theorem z405 {a:Nat} (h0:a<2):a≤1000000:=Nat.le_trans (Nat.le_of_lt h0) (by decide)
theorem z406 {a b:Nat} (h0:a≤(1+(3*b))) (h1:b<5):(a+1)≤1000:=zf2 (.branch 1 (.leaf a) (.leaf b)) (.add (.var 0) (.num 1)) (.num 1000) (.var 0) (.add (.num 1) (.mulL 3 (.var 1))) (.mulL 3 (.add (.var 1) (.num 1))) (.mulL 3 (.num 5)) rfl h0 (Nat.mul_le_mul_left 3 h1)
theorem z407 {a b:Nat} (h0:2≤a) (h1:b=a):1≤b:=by subst h1; grind
theorem z408 {a b c:Nat} (h0:a≤(2+b)) (h1:b<5) (h2:c=a):c≤1000:=zf3 (.branch 2 (.branch 1 (.leaf a) (.leaf b)) (.leaf c)) (.var 2) (.num 1000) (.var 0) (.add (.num 2) (.var 1)) (.add (.var 1) (.num 1)) (.num 5) (.var 2) (.var 0) rfl h0 h1 (Nat.le_of_eq h2)
theorem z409 {a b:Nat} (h0:a≤(1+(3*b))) (h1:b<5):((a+1)+1)≤1000:=zf2 (.branch 1 (.leaf a) (.leaf b)) (.add (.add (.var 0) (.num 1)) (.num 1)) (.num 1000) (.var 0) (.add (.num 1) (.mulL 3 (.var 1))) (.mulL 3 (.add (.var 1) (.num 1))) (.mulL 3 (.num 5)) rfl h0 (Nat.mul_le_mul_left 3 h1)
theorem z410 {a b:Nat} (h0:a≤(1+(3*b))):(((a+1)+1)+1)≤(1+(3*(b+1))):=zf1 (.branch 1 (.leaf a) (.leaf b)) (.add (.add (.add (.var 0) (.num 1)) (.num 1)) (.num 1)) (.add (.num 1) (.mulL 3 (.add (.var 1) (.num 1)))) (.var 0) (.add (.num 1) (.mulL 3 (.var 1))) rfl h0
theorem z411 {a b:Nat} (h0:a≤(1+(3*b))):((a+1)+1)≤(1+(3*(b+1))):=zf1 (.branch 1 (.leaf a) (.leaf b)) (.add (.add (.var 0) (.num 1)) (.num 1)) (.add (.num 1) (.mulL 3 (.add (.var 1) (.num 1)))) (.var 0) (.add (.num 1) (.mulL 3 (.var 1))) rfl h0
theorem z412:4≤40:=by decide
theorem z413 {a b c:Nat} (h0:a≤(2+b)) (h1:b<5) (h2:c=a):c≤1000000:=zf3 (.branch 2 (.branch 1 (.leaf a) (.leaf b)) (.leaf c)) (.var 2) (.num 1000000) (.var 0) (.add (.num 2) (.var 1)) (.add (.var 1) (.num 1)) (.num 5) (.var 2) (.var 0) rfl h0 h1 (Nat.le_of_eq h2)
theorem z414 {a:Nat} (h0:a≤2):a≤10:=Nat.le_trans h0 (by decide)
theorem z415 {a b:Nat} (h0:a≤(2+b)) (h1:b<5):a<50:=zf2 (.branch 1 (.leaf a) (.leaf b)) (.add (.var 0) (.num 1)) (.num 50) (.var 0) (.add (.num 2) (.var 1)) (.add (.var 1) (.num 1)) (.num 5) rfl h0 h1
theorem z416 {a b:Nat} (h0:a≤(2+b)) (h1:b<5):a≤50:=zf2 (.branch 1 (.leaf a) (.leaf b)) (.var 0) (.num 50) (.var 0) (.add (.num 2) (.var 1)) (.add (.var 1) (.num 1)) (.num 5) rfl h0 h1
theorem z417 {a b c:Nat} (h0:2≤a) (h1:b=a):2≤(b+c):=zf2 (.branch 2 (.branch 1 (.leaf a) (.leaf b)) (.leaf c)) (.num 2) (.add (.var 1) (.var 2)) (.num 2) (.var 0) (.var 0) (.var 1) rfl h0 (Nat.le_of_eq h1.symm)
theorem z418 {a b c:Nat} (h0:a≤(2+b)) (h1:c=a):(c+1)≤(2+(b+1)):=zf2 (.branch 2 (.branch 1 (.leaf a) (.leaf b)) (.leaf c)) (.add (.var 2) (.num 1)) (.add (.num 2) (.add (.var 1) (.num 1))) (.var 0) (.add (.num 2) (.var 1)) (.var 2) (.var 0) rfl h0 (Nat.le_of_eq h1)
theorem z419 {a b:Nat} (h0:a≤(2+b)):a≤(2+(b+1)):=Nat.le_succ_of_le h0
theorem z420 {a b:Nat} (h0:a<4) (h1:b≤(1+(3*(2+a)))):b≤16:=zf2 (.branch 1 (.leaf a) (.leaf b)) (.var 1) (.num 16) (.mulL 3 (.add (.var 0) (.num 1))) (.mulL 3 (.num 4)) (.var 1) (.add (.num 1) (.mulL 3 (.add (.num 2) (.var 0)))) rfl (Nat.mul_le_mul_left 3 h0) h1
theorem z421 {a b:Nat} (h0:a<4) (h1:b≤(2+(2+a))):b≤7:=zf2 (.branch 1 (.leaf a) (.leaf b)) (.var 1) (.num 7) (.add (.var 0) (.num 1)) (.num 4) (.var 1) (.add (.num 2) (.add (.num 2) (.var 0))) rfl h0 h1
theorem z422 {a:Nat} (h0:a≤16):a≤1000:=Nat.le_trans h0 (by decide)
theorem z423 {a:Nat} (h0:a<4):a≤1000000:=Nat.le_trans (Nat.le_of_lt h0) (by decide)
theorem z424 {a b:Nat} (h0:a≤7) (h1:b≤a):(0+b)≤(7+0):=zf2 (.branch 1 (.leaf a) (.leaf b)) (.add (.num 0) (.var 1)) (.add (.num 7) (.num 0)) (.var 0) (.num 7) (.var 1) (.var 0) rfl h0 h1
theorem z425 {a:Nat} (h0:a≤16):(a+1)≤(17+(2*0)):=Nat.lt_succ_of_le h0
theorem z426 {a b:Nat} (h0:a<4) (h1:b<a):b<3:=Nat.le_of_lt_succ (Nat.lt_of_le_of_lt h1 h0)
theorem z427 {a b:Nat} (h0:a<4) (h1:b<a):b<4:=Nat.lt_trans h1 h0
theorem z428 {a b:Nat} (h0:a≤(17+(2*b))) (h1:b<3):a≤1000:=zf2 (.branch 1 (.leaf a) (.leaf b)) (.var 0) (.num 1000) (.var 0) (.add (.num 17) (.mulL 2 (.var 1))) (.mulL 2 (.add (.var 1) (.num 1))) (.mulL 2 (.num 3)) rfl h0 (Nat.mul_le_mul_left 2 h1)
theorem z429 {a b:Nat} (h0:a≤7) (h1:b=a):b≤1000:=Nat.le_trans (Nat.le_of_eq h1) (Nat.le_trans h0 (by decide))
theorem z430 {a b:Nat} (h0:a≤(17+(2*b))) (h1:b<3):(a+1)≤1000:=zf2 (.branch 1 (.leaf a) (.leaf b)) (.add (.var 0) (.num 1)) (.num 1000) (.var 0) (.add (.num 17) (.mulL 2 (.var 1))) (.mulL 2 (.add (.var 1) (.num 1))) (.mulL 2 (.num 3)) rfl h0 (Nat.mul_le_mul_left 2 h1)
theorem z431 {a b:Nat} (h0:a≤b) (h1:b<3):a≤1000000:=zf2 (.branch 1 (.leaf a) (.leaf b)) (.var 0) (.num 1000000) (.var 0) (.var 1) (.add (.var 1) (.num 1)) (.num 3) rfl h0 h1
theorem z432 {a:Nat} (h0:a<4):a≤1000:=Nat.le_trans (Nat.le_of_lt h0) (by decide)
theorem z433 {a b:Nat} (h0:a≤2000) (h1:b=1):(b+a)≤100000:=zf2 (.branch 1 (.leaf a) (.leaf b)) (.add (.var 1) (.var 0)) (.num 100000) (.var 0) (.num 2000) (.var 1) (.num 1) rfl h0 (Nat.le_of_eq h1)
theorem z434 {a b c d:Nat} (h0:a=b) (h1:c=b) (h2:d<a):d<c:=zf3 (.branch 2 (.branch 1 (.leaf a) (.leaf b)) (.branch 3 (.leaf c) (.leaf d))) (.add (.var 3) (.num 1)) (.var 2) (.var 0) (.var 1) (.var 1) (.var 2) (.add (.var 3) (.num 1)) (.var 0) rfl (Nat.le_of_eq h0) (Nat.le_of_eq h1.symm) h2
theorem z435 {a b c:Nat} (h0:(a+b)≤(7+c)) (h1:c<3):(a+b)≤19:=zf2 (.branch 2 (.branch 1 (.leaf a) (.leaf b)) (.leaf c)) (.add (.var 0) (.var 1)) (.num 19) (.add (.var 0) (.var 1)) (.add (.num 7) (.var 2)) (.add (.var 2) (.num 1)) (.num 3) rfl h0 h1
theorem z436:14≤40:=by decide
theorem z437 {a b:Nat} (h0:a≤(17+(2*b))):((a+1)+1)≤(17+(2*(b+1))):=zf1 (.branch 1 (.leaf a) (.leaf b)) (.add (.add (.var 0) (.num 1)) (.num 1)) (.add (.num 17) (.mulL 2 (.add (.var 1) (.num 1)))) (.var 0) (.add (.num 17) (.mulL 2 (.var 1))) rfl h0
theorem z438 {a b c d e:Nat} (h0:(a+b)≤(7+c)) (h1:(d+e)≤((a+b)+1)):(d+e)≤(7+(c+1)):=zf2 (.branch 3 (.branch 2 (.branch 1 (.leaf a) (.leaf b)) (.leaf c)) (.branch 4 (.leaf d) (.leaf e))) (.add (.var 3) (.var 4)) (.add (.num 7) (.add (.var 2) (.num 1))) (.add (.var 0) (.var 1)) (.add (.num 7) (.var 2)) (.add (.var 3) (.var 4)) (.add (.add (.var 0) (.var 1)) (.num 1)) rfl h0 h1
theorem z439 {a b:Nat} (h0:a<4) (h1:b≤(17+(2*a))):b≤30:=zf2 (.branch 1 (.leaf a) (.leaf b)) (.var 1) (.num 30) (.mulL 2 (.add (.var 0) (.num 1))) (.mulL 2 (.num 4)) (.var 1) (.add (.num 17) (.mulL 2 (.var 0))) rfl (Nat.mul_le_mul_left 2 h0) h1
theorem z440 {a b:Nat} (h0:a<4) (h1:b≤a):b≤3:=Nat.le_of_lt_succ (Nat.lt_of_le_of_lt h1 h0)
theorem z441:18≤40:=by decide
theorem z442 {a b:Nat} (h0:a=b) (h1:b≤7):a≤50:=Nat.le_trans (Nat.le_of_eq h0) (Nat.le_trans h1 (by decide))
theorem z443 {a:Nat} (h0:a≤3):a≤100:=Nat.le_trans h0 (by decide)
theorem z444:5≤40:=by decide
theorem z445 {a b:Nat} (h0:a=b) (h1:b≤7):a≤100:=Nat.le_trans (Nat.le_of_eq h0) (Nat.le_trans h1 (by decide))
theorem z446 {a:Nat} (h0:a≤2):a≤100:=Nat.le_trans h0 (by decide)
theorem z447 {a b:Nat} (h0:a≤7) (h1:b<a):b≤1000000:=Nat.le_trans (Nat.le_of_lt h1) (Nat.le_trans h0 (by decide))
theorem z448 {a b c:Nat} (h0:a=b) (h1:b≤7) (h2:c≤(100*a)):c≤1000:=zf3 (.branch 2 (.branch 1 (.leaf a) (.leaf b)) (.leaf c)) (.var 2) (.num 1000) (.mulL 100 (.var 0)) (.mulL 100 (.var 1)) (.mulL 100 (.var 1)) (.mulL 100 (.num 7)) (.var 2) (.mulL 100 (.var 0)) rfl (Nat.mul_le_mul_left 100 (Nat.le_of_eq h0)) (Nat.mul_le_mul_left 100 h1) h2
theorem z449 {a b c:Nat} (h0:a<(b+1)) (h1:b<c):a<c:=Nat.lt_of_lt_of_le h0 h1
theorem z450 {a:Nat} (h0:a≤7):a≤1000000:=Nat.le_trans h0 (by decide)
theorem z451 {a b c:Nat} (h0:a≤7) (h1:b≤7) (h2:c≤b):(a+c)≤1000000:=zf3 (.branch 2 (.branch 1 (.leaf a) (.leaf b)) (.leaf c)) (.add (.var 0) (.var 2)) (.num 1000000) (.var 0) (.num 7) (.var 1) (.num 7) (.var 2) (.var 1) rfl h0 h1 h2
theorem z452 {a b:Nat} (h0:a<b) (h1:b≤7):a≤1000000:=Nat.le_trans (Nat.le_of_lt h0) (Nat.le_trans h1 (by decide))
theorem z453:2≤40:=by decide
theorem z454:22≤40:=by decide
theorem z455 {a:Nat} (h0:a≤7):a<64:=Nat.lt_of_le_of_lt h0 (by decide)
theorem z456 {a b c:Nat} (h0:a<b) (h1:b≤7) (h2:c≤((a+1)+1)):(c+14)≤40:=zf3 (.branch 2 (.branch 1 (.leaf a) (.leaf b)) (.leaf c)) (.add (.var 2) (.num 14)) (.num 40) (.add (.var 0) (.num 1)) (.var 1) (.var 1) (.num 7) (.var 2) (.add (.add (.var 0) (.num 1)) (.num 1)) rfl h0 h1 h2
theorem z457 {a b:Nat} (h0:a≤7) (h1:b=a):b≤1000000:=Nat.le_trans (Nat.le_of_eq h1) (Nat.le_trans h0 (by decide))
theorem z458:5≤1000000:=by decide
theorem z459 {a:Nat} (h0:a<5):a<5:=h0
theorem z460:((3*2)+10)≤40:=Nat.le_add_left _ _
theorem z461 {a b:Nat} (h0:a≤100) (h1:b<5):(a+(15*(b+1)))≤100000:=zf2 (.branch 1 (.leaf a) (.leaf b)) (.add (.var 0) (.mulL 15 (.add (.var 1) (.num 1)))) (.num 100000) (.var 0) (.num 100) (.mulL 15 (.add (.var 1) (.num 1))) (.mulL 15 (.num 5)) rfl h0 (Nat.mul_le_mul_left 15 h1)
theorem z462 {a:Nat} (h0:a≤(3+1)):(a+14)≤40:=Nat.le_trans (Nat.add_le_add_right h0 _) (by decide)
theorem z463 {a b:Nat} (h0:a≤7) (h1:b=a):b≤50:=Nat.le_trans (Nat.le_of_eq h1) (Nat.le_trans h0 (by decide))
theorem z464 {a:Nat} (h0:a≤(3+1)):(a+10)≤40:=Nat.le_trans (Nat.add_le_add_right h0 _) (by decide)
theorem z465 {a b:Nat} (h0:2≤a) (h1:b=a):2≤b:=Nat.lt_of_lt_of_eq h0 h1.symm
theorem z466 {a:Nat} (h0:a≤30):a≤100:=Nat.le_trans h0 (by decide)
theorem z467 {a b:Nat} (h0:¬(((63:Nat):Int)<((a:Nat):Int))) (h1:b=a):b≤63:=Nat.le_trans (Nat.le_of_eq h1) (Nat.le_of_not_lt fun h=>h0 (Int.ofNat_lt.mpr h))
theorem z468 {a:Nat}:(((a:Nat):Int)-((0:Nat):Int))=((a:Nat):Int):=rfl
theorem z470 {a b c d:Nat} (h0:a=b) (h1:¬(c<d)) (h2:d=b):a≤c:=zf3 (.branch 2 (.branch 1 (.leaf a) (.leaf b)) (.branch 3 (.leaf c) (.leaf d))) (.var 0) (.var 2) (.var 0) (.var 1) (.var 3) (.var 2) (.var 1) (.var 3) rfl (Nat.le_of_eq h0) (Nat.le_of_not_lt h1) (Nat.le_of_eq h2.symm)
theorem z471 {a:Nat} (h0:a<64):a≤(16777216+1):=Nat.le_trans (Nat.le_of_lt h0) (by decide)
theorem z472 {a b:Nat} (h0:a=b) (h1:¬(a<2)):2≤b:=zf2 (.branch 1 (.leaf a) (.leaf b)) (.num 2) (.var 1) (.var 0) (.var 1) (.num 2) (.var 0) rfl (Nat.le_of_eq h0) (Nat.le_of_not_lt h1)
theorem z473 {a b c:Nat} (h0:a=b) (h1:¬(a<2)) (h2:c=b):0<c:=zf3 (.branch 2 (.branch 1 (.leaf a) (.leaf b)) (.leaf c)) (.add (.num 0) (.num 1)) (.var 2) (.var 0) (.var 1) (.num 2) (.var 0) (.var 1) (.var 2) rfl (Nat.le_of_eq h0) (Nat.le_of_not_lt h1) (Nat.le_of_eq h2.symm)
theorem z474 {a b:Nat} (h0:a=b) (h1:¬(a<2)):0<b:=zf2 (.branch 1 (.leaf a) (.leaf b)) (.add (.num 0) (.num 1)) (.var 1) (.var 0) (.var 1) (.num 2) (.var 0) rfl (Nat.le_of_eq h0) (Nat.le_of_not_lt h1)
theorem z475 {a b:Nat}:((a+1)+b)=((a+b)+1):=Nat.add_right_comm _ _ _
theorem z476 {a b:Nat} (h0:a≤b):(13+a)≤(13+b):=Nat.add_le_add_left h0 _
theorem z477 {a b:Nat} (h0:a<b) (h1:b≤a):False:=absurd h0 (Nat.not_lt_of_le h1)
theorem z478 {a b c:Nat} (h0:a≤(13+b)) (h1:c≤(10*a)):c<(10*(b+15)):=zf2 (.branch 2 (.branch 1 (.leaf a) (.leaf b)) (.leaf c)) (.add (.var 2) (.num 1)) (.mulL 10 (.add (.var 1) (.num 15))) (.mulL 10 (.var 0)) (.mulL 10 (.add (.num 13) (.var 1))) (.var 2) (.mulL 10 (.var 0)) rfl (Nat.mul_le_mul_left 10 h0) h1
theorem z479 {a b:Nat} (h0:(a+1)<(b+1)):a<b:=Nat.le_of_succ_le_succ h0
theorem z480 {a:Nat} (h0:a<32) (h1:a=32):False:=Nat.lt_irrefl _ (Nat.lt_of_lt_of_eq h0 h1.symm)
theorem z481 {a:Nat} (h0:a≤(13+31)):a<(31+15):=Nat.succ_le_succ (Nat.le_succ_of_le h0)
theorem z482 {a b:Nat} (h0:a=32) (h1:b<32):b<a:=Nat.lt_of_lt_of_eq h1 h0.symm
theorem z483 {a b:Nat} (h0:a=32) (h1:b<a):b<32:=Nat.lt_of_lt_of_eq h1 h0
theorem z484 {a b:Nat} (h0:(a+(b+1))≤32):a<32:=Nat.succ_le_of_lt (Nat.lt_of_le_of_lt (Nat.le_add_right _ _) h0)
theorem z485 {a b:Nat} (h0:(a+(b+1))≤32):((a+1)+b)≤32:=Nat.le_trans (Nat.le_of_eq (Nat.add_right_comm _ _ _)) h0
theorem z486 {a b:Nat}:((a+1)+b)=(a+(b+1)):=Nat.add_right_comm _ _ _
theorem z487 {a b c:Nat} (h0:a=b) (h1:c<a):c<(min a b):=Nat.lt_min.mpr ⟨h1,Nat.lt_of_lt_of_eq h1 h0⟩
theorem z488 {a b:Nat} (h0:a<b):b=((b-1)+1):=by rcases h0 with rfl | h0 <;> grind
theorem z489 {a b c:Nat} (h0:a<b) (h1:b=c):a<c:=Nat.lt_of_lt_of_eq h0 h1
theorem z490:¬(32>16777216):=by decide
theorem z491 {a:Nat} (h0:a=5):a≤32:=by subst h0; decide
theorem z492 {a:Nat} (h0:a=5):a≤16777216:=by subst h0; decide
theorem z493 {a:Nat} (h0:a=5):a≤7:=by subst h0; decide
theorem z494 {a:Nat} (h0:a=5):a≤31:=by subst h0; decide
theorem z495 {a b:Nat} (h0:a=(b+1)) (h1:b≤4) (h2:a≠5):(a*5)<21:=Nat.lt_succ_of_le (Nat.mul_le_mul_right 5 (Nat.le_of_lt_succ (Nat.lt_of_le_of_ne (Nat.le_trans (Nat.le_of_eq h0) (Nat.succ_le_succ h1)) h2)))
theorem z496 {a b:Nat} (h0:a=(b+1)) (h1:b≤6):(a*5)<93:=zf2 (.branch 1 (.leaf a) (.leaf b)) (.add (.mulR (.var 0) 5) (.num 1)) (.num 93) (.mulL 5 (.var 0)) (.mulL 5 (.add (.var 1) (.num 1))) (.mulL 5 (.var 1)) (.mulL 5 (.num 6)) rfl (Nat.mul_le_mul_left 5 (Nat.le_of_eq h0)) (Nat.mul_le_mul_left 5 h1)
theorem z497 {a b:Nat} (h0:a=(b+1)) (h1:b≤4) (h2:a≠5):a≤4:=Nat.le_of_lt_succ (Nat.lt_of_le_of_ne (Nat.le_trans (Nat.le_of_eq h0) (Nat.succ_le_succ h1)) h2)
theorem z498 {a b:Nat} (h0:a=(b+1)) (h1:b≤6):a≤7:=zf2 (.branch 1 (.leaf a) (.leaf b)) (.var 0) (.num 7) (.var 0) (.add (.var 1) (.num 1)) (.var 1) (.num 6) rfl (Nat.le_of_eq h0) h1
theorem z499 {a b:Nat} (h0:a<(10*b)) (h1:(10*b)≤460):a<100000:=Nat.lt_of_lt_of_le (Nat.lt_of_lt_of_le h0 h1) (by decide)
theorem z500 {a b:Nat} (h0:a≤(b+10)) (h1:(b+(20*4))≤9600):a<9900:=zf2 (.branch 1 (.leaf a) (.leaf b)) (.add (.var 0) (.num 1)) (.num 9900) (.var 0) (.add (.var 1) (.num 10)) (.add (.var 1) (.mulL 20 (.num 4))) (.num 9600) rfl h0 h1
theorem z501 {a b c d:Nat} (h0:a≤7) (h1:a=b) (h2:c≤d) (h3:d<b):c≤6:=zf3 (.branch 2 (.branch 1 (.leaf a) (.leaf b)) (.branch 3 (.leaf c) (.leaf d))) (.var 2) (.num 6) (.add (.var 0) (.var 1)) (.add (.num 7) (.var 0)) (.var 2) (.var 3) (.add (.var 3) (.num 1)) (.var 1) rfl (Nat.add_le_add h0 (Nat.le_of_eq h1.symm)) h2 h3
theorem z502 {a b:Nat} (h0:a≤b) (h1:(b-a)≤0):a=b:=Nat.le_antisymm h0 (Nat.le_of_sub_eq_zero (Nat.eq_zero_of_le_zero h1))
theorem z503 {a b c:Nat} (h0:a≤b) (h1:c<a):((c+a)/2)<b:=Nat.div_lt_of_lt_mul (zf2 (.branch 1 (.leaf a) (.branch 2 (.leaf b) (.leaf c))) (.add (.add (.var 2) (.var 0)) (.num 1)) (.mulL 2 (.var 1)) (.mulL 2 (.var 0)) (.mulL 2 (.var 1)) (.add (.var 2) (.num 1)) (.var 0) rfl (Nat.mul_le_mul_left 2 h0) h1)
theorem z504 {a b:Nat} (h0:a<b):(((a+b)/2)+1)≤b:=Nat.div_lt_of_lt_mul (zf1 (.branch 1 (.leaf a) (.leaf b)) (.add (.add (.var 0) (.var 1)) (.num 1)) (.mulL 2 (.var 1)) (.add (.var 0) (.num 1)) (.var 1) rfl h0)
theorem z505 {a b c:Nat} (h0:(a-b)≤(c+1)):(a-(((b+a)/2)+1))≤c:=Nat.sub_le_iff_le_add.mpr (Nat.le_of_mul_le_mul_left (zf2 (.branch 2 (.branch 1 (.leaf a) (.leaf b)) (.branch 3 (.leaf c) (.leaf ((b+a)/2)))) (.mulL 2 (.var 0)) (.mulL 2 (.add (.var 2) (.add (.var 3) (.num 1)))) (.var 0) (.add (.add (.var 2) (.num 1)) (.var 1)) (.add (.add (.var 1) (.var 0)) (.num 1)) (.mulL 2 (.add (.var 3) (.num 1))) rfl (Nat.sub_le_iff_le_add.mp h0) (Nat.lt_mul_div_succ _ (by decide))) (by decide:0 < 2))
theorem z506 {a b c:Nat} (h0:a<(((b+c)/2)+1)) (h1:¬(a=((b+c)/2))):a<((b+c)/2):=Nat.lt_of_le_of_ne (Nat.le_of_lt_succ h0) h1
theorem z507 {a b:Nat} (h0:a<b):a≤((a+b)/2):=(Nat.le_div_iff_mul_le (by decide)).mpr (zf1 (.branch 1 (.leaf a) (.leaf b)) (.mulR (.var 0) 2) (.add (.var 0) (.var 1)) (.add (.var 0) (.num 1)) (.var 1) rfl h0)
theorem z508 {a b c:Nat} (h0:((a+b)/2)<c):((a+b)/2)≤c:=Nat.le_of_lt h0
theorem z509 {a b c:Nat} (h0:(a-b)≤(c+1)):(((b+a)/2)-b)≤c:=Nat.sub_le_iff_le_add.mpr (Nat.le_of_lt_succ (Nat.div_lt_of_lt_mul (zf1 (.branch 1 (.leaf a) (.branch 2 (.leaf b) (.leaf c))) (.add (.add (.var 1) (.var 0)) (.num 1)) (.mulL 2 (.add (.add (.var 2) (.var 1)) (.num 1))) (.var 0) (.add (.add (.var 2) (.num 1)) (.var 1)) rfl (Nat.sub_le_iff_le_add.mp h0))))
theorem z510 {a b c:Nat} (h0:((a+b)/2)≤c) (h1:¬(c=((a+b)/2))):((a+b)/2)<c:=(Nat.lt_or_gt_of_ne h1).resolve_left (Nat.not_lt_of_le h0)
theorem z511 {a:Nat}:(a-0)≤a:=Nat.le_refl _
theorem z512 {a b c d:Nat} (h0:a<b) (h1:b≤a):c≤d:=absurd h0 (Nat.not_lt_of_le h1)
theorem z513 {a b:Nat} (h0:a≤b) (h1:¬(b=a)):a<b:=(Nat.lt_or_gt_of_ne h1).resolve_left (Nat.not_lt_of_le h0)
theorem z514 {a b:Nat} (h0:(a+1)<b):a<b:=Nat.succ_le_of_lt (Nat.lt_of_le_of_lt (Nat.le_add_right _ _) h0)
theorem z515 {a b:Nat} (h0:(a-b)=0) (h1:b≤a):b=a:=Nat.le_antisymm h1 (Nat.le_of_sub_eq_zero h0)
theorem z516 {a b c:Nat} (h0:(a-b)=(c+1)):b<a:=Nat.lt_of_sub_eq_succ h0
theorem z517 {a b c:Nat} (h0:(a-b)=(c+1)):(a-(b+1))=c:=congrArg Nat.pred h0
theorem z518 {a:Nat}:(a-0)=(a-0):=rfl
theorem z519 {a b c:Nat} (h0:a≤1000) (h1:b≤a) (h2:c=b):(c+1)<4096:=zf3 (.branch 2 (.branch 1 (.leaf a) (.leaf b)) (.leaf c)) (.add (.add (.var 2) (.num 1)) (.num 1)) (.num 4096) (.var 0) (.num 1000) (.var 1) (.var 0) (.var 2) (.var 1) rfl h0 h1 (Nat.le_of_eq h2)
theorem z520 {a b:Nat} (h0:a=(b+1)):0<a:=by simp [h0]
theorem z521 {a b:Nat} (h0:a=(b+1)):(a-1)=b:=by simp [h0]
theorem z522 {a:Nat} (h0:a<0):False:=Nat.not_lt_zero _ h0
theorem z523 {a b c:Nat} (h0:(a+1)≤b) (h1:c<(a+1)):c<b:=Nat.lt_of_lt_of_le h1 h0
theorem z524 {a b c:Nat} (h0:a≤b) (h1:c<a):c<b:=Nat.lt_of_lt_of_le h1 h0
theorem z525 {a b c:Nat} (h0:a<b) (h1:c=b):a≤c:=zf2 (.branch 2 (.branch 1 (.leaf a) (.leaf b)) (.leaf c)) (.var 0) (.var 2) (.add (.var 0) (.num 1)) (.var 1) (.var 1) (.var 2) rfl h0 (Nat.le_of_eq h1.symm)
theorem z526 {a b:Nat} (h0:a=b):b≤a:=Nat.le_of_eq h0.symm
universe u1 u2 u3 u4 u5 u6 u7 u8
inductive N3 (p1 p2 p3:Prop):Prop
 | mk:p1→p2→p3→N3 p1 p2 p3
inductive N4 (p1 p2 p3 p4:Prop):Prop
 | mk:p1→p2→p3→p4→N4 p1 p2 p3 p4
inductive N5 (p1 p2 p3 p4 p5:Prop):Prop
 | mk:p1→p2→p3→p4→p5→N5 p1 p2 p3 p4 p5
inductive N6 (p1 p2 p3 p4 p5 p6:Prop):Prop
 | mk:p1→p2→p3→p4→p5→p6→N6 p1 p2 p3 p4 p5 p6
inductive N7 (p1 p2 p3 p4 p5 p6 p7:Prop):Prop
 | mk:p1→p2→p3→p4→p5→p6→p7→N7 p1 p2 p3 p4 p5 p6 p7
inductive N8 (p1 p2 p3 p4 p5 p6 p7 p8:Prop):Prop
 | mk:p1→p2→p3→p4→p5→p6→p7→p8→N8 p1 p2 p3 p4 p5 p6 p7 p8
inductive N9 (p1 p2 p3 p4 p5 p6 p7 p8 p9:Prop):Prop
 | mk:p1→p2→p3→p4→p5→p6→p7→p8→p9→N9 p1 p2 p3 p4 p5 p6 p7 p8 p9
inductive N10 (p1 p2 p3 p4 p5 p6 p7 p8 p9 p10:Prop):Prop
 | mk:p1→p2→p3→p4→p5→p6→p7→p8→p9→p10→N10 p1 p2 p3 p4 p5 p6 p7 p8 p9 p10
inductive N12 (p1 p2 p3 p4 p5 p6 p7 p8 p9 p10 p11 p12:Prop):Prop
 | mk:p1→p2→p3→p4→p5→p6→p7→p8→p9→p10→p11→p12→N12 p1 p2 p3 p4 p5 p6 p7 p8 p9 p10 p11 p12
inductive N14 (p1 p2 p3 p4 p5 p6 p7 p8 p9 p10 p11 p12 p13 p14:Prop):Prop
 | mk:p1→p2→p3→p4→p5→p6→p7→p8→p9→p10→p11→p12→p13→p14→N14 p1 p2 p3 p4 p5 p6 p7 p8 p9 p10 p11 p12 p13 p14
inductive N16 (p1 p2 p3 p4 p5 p6 p7 p8 p9 p10 p11 p12 p13 p14 p15 p16:Prop):Prop
 | mk:p1→p2→p3→p4→p5→p6→p7→p8→p9→p10→p11→p12→p13→p14→p15→p16→N16 p1 p2 p3 p4 p5 p6 p7 p8 p9 p10 p11 p12 p13 p14 p15 p16
inductive X2 {α1:Sort u1} {α2:Sort u2} (p:α1→α2→Prop):Prop
 | mk (a1:α1) (a2:α2) (h:p a1 a2):X2 p
inductive X3 {α1:Sort u1} {α2:Sort u2} {α3:Sort u3} (p:α1→α2→α3→Prop):Prop
 | mk (a1:α1) (a2:α2) (a3:α3) (h:p a1 a2 a3):X3 p
inductive X4 {α1:Sort u1} {α2:Sort u2} {α3:Sort u3} {α4:Sort u4} (p:α1→α2→α3→α4→Prop):Prop
 | mk (a1:α1) (a2:α2) (a3:α3) (a4:α4) (h:p a1 a2 a3 a4):X4 p
inductive X5 {α1:Sort u1} {α2:Sort u2} {α3:Sort u3} {α4:Sort u4} {α5:Sort u5} (p:α1→α2→α3→α4→α5→Prop):Prop
 | mk (a1:α1) (a2:α2) (a3:α3) (a4:α4) (a5:α5) (h:p a1 a2 a3 a4 a5):X5 p
inductive X6 {α1:Sort u1} {α2:Sort u2} {α3:Sort u3} {α4:Sort u4} {α5:Sort u5} {α6:Sort u6} (p:α1→α2→α3→α4→α5→α6→Prop):Prop
 | mk (a1:α1) (a2:α2) (a3:α3) (a4:α4) (a5:α5) (a6:α6) (h:p a1 a2 a3 a4 a5 a6):X6 p
abbrev Store:=Addr→Option Obj
abbrev Vars:=Str→Option Value
structure Par where
 prog:Program
 w:World
 g:Heap
 mg:Str→Option Value
 mb:Str→Option Value
 os:OsState
 wit:∃ a o,g.get? a = some o∧@LT.lt Nat _ sysModules a
noncomputable def Par.K (P:Par):Frag:=Mine.hd.heap_1 P.w.params
abbrev Par.M (P:Par):Model:=model P.prog P.w
structure Par.Ok (P:Par):Prop where
 kin:P.K.In P.g
 gl:P.g.Ns mainGlobals P.mg
 bl:P.g.Ns builtinsNs P.mb
 lim:P.g.NoLimit
 bs:∀ x:Str,x≠"__name__"→P.mb x = bootBuiltins x
structure Good (P:Par) (σ:Store) (s:Shared):Prop where
 has:∀ a o,σ a = some o→s.heap.get? a = some o
 base:∀ a o,P.g.get? a = some o→s.heap.get? a = some o
 own:∀ a o,σ a = some o→P.g.get? a = none
 gens:s.gens = #[]
 os:s.os = P.os
 low:∀ a o,σ a = some o→a≠sysModules
structure Tr (P:Par) (W:List Addr) (σ:Store) (s:Shared) (σ':Store) (s':Shared):Prop where
 good:Good P σ' s'
 keep:∀ a o,σ a = none→a ∉ W→s.heap.get? a = some o→s'.heap.get? a = some o
 fresh:∀ a,σ' a≠none→σ a = none→s.heap.get? a = none
 alive:∀ a,s'.heap.get? a = none→s.heap.get? a = none
theorem none_of {h:Heap} {a:Addr} (hle:h.objs.size≤a):h.get? a = none:=Heap.get?_none_of_le hle
theorem big_of {P:Par} {h:Heap} (k:∀ a o,P.g.get? a = some o→h.get? a = some o):h.objs.size≠sysModules:=by
 obtain ⟨a,o,e,hl⟩:=P.wit
 exact Nat.ne_of_gt (Nat.lt_trans hl (Heap.lt_size (k a o e)))
theorem ne_none {α:Type} {x:Option α} {a:α} (e:x = some a):x≠none:=fun h=>by rw [h] at e; cases e
theorem Tr.refl {P:Par} {W:List Addr} {σ:Store} {s:Shared} (G:Good P σ s):Tr P W σ s σ s :=
 ⟨G,fun _ _ _ _ e=>e,fun _ h h'=>absurd h' h,fun _ h=>h⟩
theorem Tr.gone {P:Par} {W:List Addr} {σ σ':Store} {s s':Shared} (T:Tr P W σ s σ' s') {a:Addr} {o:Obj} (hn:σ a = none) (e:s.heap.get? a = some o):σ' a = none :=
 Classical.byContradiction fun hne=>ne_none e (T.fresh a hne hn)
theorem Tr.trans {P:Par} {W:List Addr} {σ σ₁ σ₂:Store} {s s₁ s₂:Shared} (x:Tr P W σ s σ₁ s₁) (y:Tr P W σ₁ s₁ σ₂ s₂):Tr P W σ s σ₂ s₂ :=
 ⟨y.good,fun a o hn hW e=>y.keep a o (x.gone hn e) hW (x.keep a o hn hW e),
  fun a h h'=>by
  by_cases h1:σ₁ a = none
  ·exact x.alive a (y.fresh a h h1)
  ·exact x.fresh a h1 h',fun a h=>x.alive a (y.alive a h)⟩
theorem Tr.wider {P:Par} {W W':List Addr} {σ σ':Store} {s s':Shared} (x:Tr P W σ s σ' s') (h:∀ a ∈ W,a ∈ W'):Tr P W' σ s σ' s' :=
 ⟨x.good,fun a o hn hW e=>x.keep a o hn (fun hm=>hW (h a hm)) e,x.fresh,x.alive⟩
theorem Good.toks {P:Par} {σ:Store} {s:Shared} (G:Good P σ s) (t:Nat):Good P σ { s with toks:=t }:=⟨G.has,G.base,G.own,G.gens,G.os,G.low⟩
theorem Tr.toks {P:Par} {W:List Addr} {σ:Store} {s:Shared} (G:Good P σ s) (t:Nat):Tr P W σ s σ { s with toks:=t } :=
 ⟨G.toks t,fun _ _ _ _ e=>e,fun _ h h'=>absurd h' h,fun _ h=>h⟩
theorem Good.less {P:Par} {σ σ':Store} {s:Shared} (x:Good P σ s) (h:∀ a o,σ' a = some o→σ a = some o):Good P σ' s :=
 ⟨fun a o e=>x.has a o (h a o e),x.base,fun a o e=>x.own a o (h a o e),x.gens,x.os,fun a o e=>x.low a o (h a o e)⟩
theorem Tr.less {P:Par} {W:List Addr} {σ σ' σ'':Store} {s s':Shared} (x:Tr P W σ s σ' s') (h:∀ a o,σ'' a = some o→σ' a = some o):Tr P W σ s σ'' s' :=
 ⟨x.good.less h,x.keep,fun a hne=>x.fresh a fun hn=>hne (by cases q:σ'' a with | none=>rfl | some o=>rw [h a o q] at hn; cases hn),x.alive⟩
structure Rm (A:Around) (n:Nat):Prop where
 handled:A.handled = none
 depth:A.depth + n≤960
 units:A.units + 20 * n≤9600
theorem Rm.mono {A:Around} {n k:Nat} (h:Rm A n) (hk:k≤n):Rm A k:=⟨h.handled,by have:=h.depth; exact z1 hk this,by have:=h.units; exact z2 hk this⟩
theorem Rm.deeper {A:Around} {n:Nat} {env:Env} (h:Rm A (n + 1)):Rm (A.deeper env) n :=
 ⟨h.handled,by have:=h.depth; show A.depth + 1 + n≤_; exact z3 this,by have:=h.units; show A.units + 3 + _≤_; exact z4 this⟩
theorem Rm.lim {A:Around} {n:Nat} (h:Rm A n):A.depth < recursionLimit:=by have:=h.depth; show A.depth < 1000; exact z5 this
theorem Rm.line {A:Around} {n:Nat} (h:Rm A n):A.units < cLine:=by have:=h.units; show A.units < 9900; exact z6 this
def Op (P:Par) (A:Around) {α:Type} (t:Sem α) (σ:Store) (Q:α→Store→Prop):Prop :=
 ∀ s,Good P σ s→wpAny P.M A t (fun a s'=>∃ σ',Q a σ'∧Tr P [] σ s σ' s') (fun _ _=>False) s
structure Fm (P:Par) (env:Env) (W:List Addr) (σ:Store) (h:Heap) (m:Vars):Prop where
 ns:∃ mm,h.Ns env.locals mm∧∀ x,env.kindOf x = some .local→mm x = m x
 cell:∀ x a,env.cells.lookup x = some a→h.IsCell a (m x)
 un:∀ a,a = env.locals∨(∃ x,env.cells.lookup x = some a)→σ a = none∧P.g.get? a = none
 apart:∀ x,env.cells.lookup x≠some env.locals
 inj:∀ x y a,env.cells.lookup x = some a→env.cells.lookup y = some a→x = y
 wr:∀ a ∈ W,P.g.get? a = none∧σ a = none∧∃ o,h.get? a = some o
theorem ns_of_get {h h':Heap} {a:Addr} {m:Vars} (hn:h.Ns a m) (k:∀ o,h.get? a = some o→h'.get? a = some o):h'.Ns a m :=
 let ⟨o,es,ep,e,r⟩:=hn; ⟨o,es,ep,k _ e,r⟩
theorem cell_of_get {h h':Heap} {a:Addr} {v:Option Value} (hn:h.IsCell a v) (k:∀ o,h.get? a = some o→h'.get? a = some o):h'.IsCell a v :=
 let ⟨o,e,r⟩:=hn; ⟨o,k _ e,r⟩
theorem Fm.tr {P:Par} {env:Env} {W:List Addr} {σ σ':Store} {s s':Shared} {m:Vars} (F:Fm P env W σ s.heap m) (T:Tr P [] σ s σ' s'):Fm P env W σ' s'.heap m:=by
 obtain ⟨mm,hn,hm⟩:=F.ns
 refine ⟨⟨mm,ns_of_get hn fun o e=>T.keep _ _ (F.un _ (.inl rfl)).1 (by simp) e,hm⟩,fun x a hc=>cell_of_get (F.cell x a hc) fun o e=>T.keep _ _ (F.un _ (.inr ⟨x,hc⟩)).1 (by simp) e,fun a ha=>?_,F.apart,F.inj,fun a ha=>?_⟩
 ·obtain ⟨h1,h2⟩:=F.un a ha
  refine ⟨?_,h2⟩
  rcases ha with rfl | ⟨x,hx⟩
  ·obtain ⟨o,_,_,e,_⟩:=hn
   exact T.gone h1 e
  ·obtain ⟨o,e,_⟩:=F.cell x a hx
   exact T.gone h1 e
 ·obtain ⟨h1,h2,o,e⟩:=F.wr a ha
  exact ⟨h1,T.gone h2 e,o,T.keep _ _ h2 (by simp) e⟩
theorem Fm.wide {P:Par} {env:Env} {W W':List Addr} {σ:Store} {h:Heap} {m:Vars} (F:Fm P env W σ h m) (hw:∀ a ∈ W',P.g.get? a = none∧σ a = none∧∃ o,h.get? a = some o):Fm P env W' σ h m:=⟨F.ns,F.cell,F.un,F.apart,F.inj,hw⟩
theorem Tr.same {P:Par} {W:List Addr} {σ:Store} {s:Shared} {a:Addr} {h':Heap} (G:Good P σ s) (hs:Heap.SameBut a s.heap h') (ha:a ∈ W) (hn:σ a = none) (hb:P.g.get? a = none) (ho:∃ o,h'.get? a = some o) (t:Nat) :
  Tr P W σ s σ { s with heap:=h',toks:=t } :=
 ⟨⟨fun b o e=>(hs.2 b (fun q=>by rw [q,hn] at e; cases e)).trans (G.has b o e),fun b o e=>(hs.2 b (fun q=>by rw [q,hb] at e; cases e)).trans (G.base b o e),G.own,G.gens,G.os,G.low⟩,
  fun b o _ hW e=>(hs.2 b (fun q=>hW (q ▸ ha))).trans e,fun _ h h'=>absurd h' h,fun b h=>by
  by_cases q:b = a
  ·subst q; obtain ⟨o,ho⟩:=ho; exact absurd h (ne_none ho)
  ·exact (hs.2 b q) ▸ h⟩
theorem got_same {h h':Heap} {a b:Addr} {o:Obj} (hs:Heap.SameBut a h h') (hn:∃ o',h'.get? a = some o') (e:h.get? b = some o):∃ o',h'.get? b = some o':=by
 by_cases q:b = a
 ·subst q; exact hn
 ·exact ⟨o,(hs.2 b q).trans e⟩
def Vars.set (m:Vars) (x:Str) (v:Value):Vars:=fun y=>if y = x then some v else m y
theorem Fm.local {P:Par} {env:Env} {W:List Addr} {σ:Store} {h h':Heap} {m:Vars} {x:Str} {v:Value} {mm:Vars} (F:Fm P env W σ h m) (hc:env.cells.lookup x = none) (hmm:∀ y,env.kindOf y = some .local→mm y = m y)
  (hn:h'.Ns env.locals (fun y=>if y = x then some v else mm y)) (hs:Heap.SameBut env.locals h h'):Fm P env W σ h' (m.set x v):=by
 refine ⟨⟨_,hn,fun y hy=>?_⟩,fun y a ha=>?_,F.un,F.apart,F.inj,fun a ha=>?_⟩
 ·show (if y = x then some v else mm y) = if y = x then some v else m y
  rw [hmm y hy]
 ·obtain hne:y≠x:=fun q=>by rw [q,hc] at ha; cases ha
  show h'.IsCell a (if y = x then some v else m y)
  rw [if_neg hne]
  exact (F.cell y a ha).sameBut hs fun q=>F.apart y (q ▸ ha)
 ·obtain ⟨h1,h2,o,e⟩:=F.wr a ha
  exact ⟨h1,h2,got_same hs (by obtain ⟨o,_,_,e,_⟩:=hn; exact ⟨o,e⟩) e⟩
theorem Fm.cellSet {P:Par} {env:Env} {W:List Addr} {σ:Store} {h h':Heap} {m:Vars} {x:Str} {v:Value} {c:Addr} (F:Fm P env W σ h m) (hx:env.kindOf x≠some .local) (hc:env.cells.lookup x = some c)
  (hn:h'.IsCell c (some v)) (hs:Heap.SameBut c h h'):Fm P env W σ h' (m.set x v):=by
 obtain ⟨mm,hns,hmm⟩:=F.ns
 refine ⟨⟨mm,hns.sameBut hs (fun q=>F.apart x (q ▸ hc)),fun y hy=>?_⟩,fun y a ha=>?_,F.un,F.apart,F.inj,fun a ha=>?_⟩
 ·obtain hne:y≠x:=fun q=>hx (q ▸ hy)
  show mm y = if y = x then some v else m y
  rw [if_neg hne,hmm y hy]
 ·show h'.IsCell a (if y = x then some v else m y)
  by_cases q:y = x
  ·subst q; rw [hc] at ha; cases ha; rw [if_pos rfl]; exact hn
  ·rw [if_neg q]
   exact (F.cell y a ha).sameBut hs fun e=>q (F.inj y x a ha (e ▸ hc))
 ·obtain ⟨h1,h2,o,e⟩:=F.wr a ha
  exact ⟨h1,h2,got_same hs (by obtain ⟨o,e,_⟩:=hn; exact ⟨o,e⟩) e⟩
inductive Post (P:Par) (env:Env) (W:List Addr) (σ:Store) (s:Shared) {α:Type} (Q:α→Store→Vars→Prop) (a:α) (s':Shared):Prop
 | mk (σ':Store) (m':Vars) (q:Q a σ' m') (F:Fm P env W σ' s'.heap m') (T:Tr P W σ s σ' s'):Post P env W σ s Q a s'
theorem Post.re {P:Par} {env:Env} {W:List Addr} {σ:Store} {s s':Shared} {α β:Type} {Q:α→Store→Vars→Prop} {Q':β→Store→Vars→Prop} {a:α} {b:β} (h:Post P env W σ s Q a s') (hq:∀ σ m,Q a σ m→Q' b σ m:=by exact fun _ _ h=>h):Post P env W σ s Q' b s':=by
 obtain ⟨σ',m',q,F,T⟩:=h
 exact ⟨σ',m',hq _ _ q,F,T⟩
def WP (P:Par) (A:Around) (env:Env) (W:List Addr) {α:Type} (t:Sem α) (σ:Store) (m:Vars) (Q:α→Store→Vars→Prop):Prop :=
 ∀ s,Good P σ s→Fm P env W σ s.heap m→wpAny P.M A t (Post P env W σ s Q) (fun _ _=>False) s
section
variable {P:Par} {A:Around} {env:Env} {W:List Addr} {α β:Type} {σ:Store} {m:Vars}
theorem WP.chain {t:Sem α} {σ₁:Store} {m₁:Vars} {s s₁:Shared} {Q:α→Store→Vars→Prop} {E:Value→Shared→Prop} (h:WP P A env W t σ₁ m₁ Q) (T:Tr P W σ s σ₁ s₁) (F:Fm P env W σ₁ s₁.heap m₁) :
  wpAny P.M A t (Post P env W σ s Q) E s₁ :=
 wpAny_mono (h s₁ T.good F) (fun _ _ ⟨σ₂,m₂,q,F₂,T₂⟩=>⟨σ₂,m₂,q,F₂,T.trans T₂⟩) fun _ _ f=>f.elim
theorem xPure {a:α} {Q:α→Store→Vars→Prop} (h:Q a σ m):WP P A env W (pure a) σ m Q:=fun _ G F=>wpAny_pure ⟨σ,m,h,F,Tr.refl G⟩
theorem xBind {t:Sem α} {f:α→Sem β} {Q:β→Store→Vars→Prop} (h:WP P A env W t σ m (fun a σ m=>WP P A env W (f a) σ m Q)):WP P A env W (t >>= f) σ m Q :=
 fun s G F=>wpAny_bind (wpAny_mono (h s G F) (fun _ _ ⟨_,_,q,F₁,T₁⟩=>q.chain T₁ F₁) fun _ _ f=>f)
theorem WP.mono {t:Sem α} {Q Q':α→Store→Vars→Prop} (h:WP P A env W t σ m Q) (hq:∀ a σ m,Q a σ m→Q' a σ m):WP P A env W t σ m Q' :=
 fun s G F=>wpAny_mono (h s G F) (fun _ _ ⟨σ₁,m₁,q,F₁,T₁⟩=>⟨σ₁,m₁,hq _ _ _ q,F₁,T₁⟩) fun _ _ f=>f
theorem xOp {t:Sem α} {Q:α→Store→Vars→Prop} (h:Op P A t σ (fun a σ'=>Q a σ' m)):WP P A env W t σ m Q :=
 fun s G F=>wpAny_mono (h s G) (fun _ _ ⟨σ₁,q,T₁⟩=>⟨σ₁,m,q,F.tr T₁,T₁.wider (by simp)⟩) fun _ _ f=>f
theorem Op.mono {t:Sem α} {Q Q':α→Store→Prop} (h:Op P A t σ Q) (hq:∀ a σ,Q a σ→Q' a σ):Op P A t σ Q' :=
 fun s G=>wpAny_mono (h s G) (fun _ _ ⟨σ₁,q,T₁⟩=>⟨σ₁,hq _ _ q,T₁⟩) fun _ _ f=>f
theorem lq {t:Sem α} {Q:α→Store→Vars→Prop} (h:let K:=Q; WP P A env W t σ m K):WP P A env W t σ m Q:=h
theorem lo {t:Sem α} {Q:α→Store→Prop} (h:let K:=Q; Op P A t σ K):Op P A t σ Q:=h
theorem lG {p:Prop} (h:let G:=p; G):p:=h
theorem nn {a:α} {p:Prop} (h:none = some a):p:=nomatch h
theorem ns {a:α} {p:Prop} (h:some a = none):p:=nomatch h
theorem keep {p:Prop} (h:p):p:=h
end
section
variable {P:Par} {A:Around} {env:Env} {W:List Addr} {α β:Type} {σ:Store} {m:Vars}
theorem xStandAt {pos:Pos} {Q:Unit→Store→Vars→Prop} (h:Q () σ m):WP P A env W (standAt pos) σ m Q:=fun _ G F=>wpAny_standAt ⟨σ,m,h,F,Tr.refl G⟩
theorem xPoint {Q:Unit→Store→Vars→Prop} (h:Q () σ m):WP P A env W PySem.point σ m Q:=fun _ G F=>wpAny_point ⟨σ,m,h,F,Tr.refl G⟩
theorem xHolding {vs:List Value} {t:Sem α} {Q:α→Store→Vars→Prop} (h:WP P A env W t σ m Q):WP P A env W (PySem.holding vs t) σ m Q:=fun s G F=>wpAny_holding (h s G F)
theorem xRelease {vs keep:List Value} {Q:Unit→Store→Vars→Prop} (h:Q () σ m):WP P A env W (PySem.release vs keep) σ m Q:=fun s G F Γ p _=>by
 rw [Sem.wp_release]; exact ⟨σ,m,h,F,Tr.refl G⟩
theorem xOperate {vs:List Value} {t:Sem Value} {Q:Value→Store→Vars→Prop} (h:WP P A env W t σ m Q):WP P A env W (PySem.operate vs t) σ m Q:=fun s G F Γ p hΓ=>by
 rw [Sem.wp_operate]; exact h s G F Γ p hΓ
theorem xLetTemporaryGo {base:PySem.Expr} {o r:Value} {Q:Unit→Store→Vars→Prop} (h:Q () σ m):WP P A env W (PySem.letTemporaryGo base o r) σ m Q:=fun _ G F=>wpAny_letTemporaryGo ⟨σ,m,h,F,Tr.refl G⟩
theorem xDropValue {e:PySem.Expr} {pos:Pos} {v:Value} {Q:Flow→Store→Vars→Prop} (h:Q .next σ m):WP P A env W (PySem.dropValue e pos v) σ m Q:=fun _ G F=>wpAny_dropValue ⟨σ,m,h,F,Tr.refl G⟩
def Then (k:Store→Vars→Prop) (Q:Flow→Store→Vars→Prop):Flow→Store→Vars→Prop
 | .next=>k
 | f=>Q f
theorem xNil {Q:Flow→Store→Vars→Prop} (h:Q .next σ m):WP P A env W (execs [] env) σ m Q:=xPure h
theorem xCons {st:Stmt} {rest:List Stmt} {Q:Flow→Store→Vars→Prop} (h:WP P A env W (exec st env) σ m (Then (fun σ m=>WP P A env W (execs rest env) σ m Q) Q)):WP P A env W (execs (st :: rest) env) σ m Q:=by
 rw [execs_cons]
 refine xBind (h.mono fun f σ m q=>?_)
 cases f <;> first | exact q | exact xPure q
theorem xLast {st:Stmt} {Q:Flow→Store→Vars→Prop} (h:WP P A env W (exec st env) σ m Q):WP P A env W (execs [st] env) σ m Q :=
 xCons (h.mono fun f σ m q=>by cases f <;> first | exact xNil q | exact q)
theorem xIf {test:PySem.Expr} {body orelse:List Stmt} {pos:Pos} {Q:Flow→Store→Vars→Prop}
  (h:WP P A env W (isTrue test env (eval test env)) σ m (fun b σ m=>(b = true→WP P A env W (execs body env) σ m Q)∧(b = false→WP P A env W (execs orelse env) σ m Q))) :
  WP P A env W (exec (.If test body orelse pos) env) σ m Q:=by
 rw [exec_If]
 refine xBind (xStandAt (xBind (h.mono fun b σ m q=>?_)))
 cases b
 ·exact q.2 rfl
 ·exact q.1 rfl
theorem xReturn {e:PySem.Expr} {pos:Pos} {Q:Flow→Store→Vars→Prop} (h:WP P A env W (eval e env) σ m (fun v σ m=>Q (.ret v) σ m)):WP P A env W (exec (.Return (some e) pos) env) σ m Q:=by
 rw [exec_Return_some]
 exact xBind (xStandAt (xBind (h.mono fun _ _ _ q=>xPure q)))
theorem xExpr {e:PySem.Expr} {pos:Pos} {Q:Flow→Store→Vars→Prop} (h:WP P A env W (eval e env) σ m (fun _ σ m=>Q .next σ m))
  (hi:interactive env = false:=by rfl) (hs:swapsWith e none pos.line env = pure false:=by rfl):WP P A env W (exec (.Expr e pos) env) σ m Q:=by
 rw [exec_Expr env e pos hi hs]
 exact xBind (xStandAt (xBind (h.mono fun _ _ _ q=>xDropValue q)))
theorem xLoad {x:Str} {v:Value} {Q:Value→Store→Vars→Prop} (hl:env.kindOf x = some .local) (hv:m x = some v) (h:Q v σ m) (hk:env.scope.kind = .function:=by rfl) :
  WP P A env W (loadName env x) σ m Q:=fun _ G F=>by
 obtain ⟨mm,hn,hm⟩:=F.ns
 exact wpAny_loadName_local hk hl hn ((hm x hl).trans hv) ⟨σ,m,h,F,Tr.refl G⟩
theorem xLoadCell {x:Str} {v:Value} {Q:Value→Store→Vars→Prop} (hl:env.kindOf x = some .cell) (hc:(env.cells.lookup x).isSome = true) (hv:m x = some v) (h:Q v σ m) (hk:env.scope.kind = .function:=by rfl) :
  WP P A env W (loadName env x) σ m Q:=fun _ G F=>by
 obtain ⟨c,hc⟩:=Option.isSome_iff_exists.mp hc
 exact wpAny_loadName_cell hk hl hc (hv ▸ F.cell x c hc) ⟨σ,m,h,F,Tr.refl G⟩
theorem xName {x:Str} {pos:Pos} {Q:Value→Store→Vars→Prop} (h:WP P A env W (loadName env x) σ m Q) (hd:(x == ("__debug__":Str)) = false:=by decide):WP P A env W (eval (.Name x pos) env) σ m Q :=
 fun s G F=>wpAny_Name (h s G F) hd
theorem xLoadGlobal {x:Str} {v:Value} {Q:Value→Store→Vars→Prop} (O:P.Ok) (hx:env.kindOf x = some .globalImplicit) (e:nsIn P.K mainGlobals x = some (some v)) (h:Q v σ m)
  (hk:env.scope.kind = .function:=by rfl) (hg:env.globals = mainGlobals:=by rfl):WP P A env W (loadName env x) σ m Q:=fun s G F=>by
 obtain hmg:P.mg x = some v:=by
  exact mg_of O.kin O.gl e
 unfold loadName
 simp only [Env.blockKind,hk,hx,ScopeKind.isAnnotationScope,Bool.false_and,Bool.false_eq_true,if_false]
 exact Calls.loadGlobal_global (env:=env) (by rw [hg]; exact O.gl.keeps G.base) hmg ⟨σ,m,h,F,Tr.refl G⟩
theorem xLoadBuiltin {x:Str} {v:Value} {Q:Value→Store→Vars→Prop} (O:P.Ok) (hx:env.kindOf x = some .globalImplicit) (e:nsIn P.K mainGlobals x = some none) (hn:x≠"__name__") (hb:bootBuiltins x = some v) (h:Q v σ m)
  (hk:env.scope.kind = .function:=by rfl) (hg:env.globals = mainGlobals:=by rfl) (hbn:env.builtins = builtinsNs:=by rfl):WP P A env W (loadName env x) σ m Q:=fun s G F=>by
 obtain hmg:P.mg x = none:=mg_none_of O.kin O.gl e
 unfold loadName
 simp only [Env.blockKind,hk,hx,ScopeKind.isAnnotationScope,Bool.false_and,Bool.false_eq_true,if_false]
 exact Calls.loadGlobal_builtin (env:=env) (by rw [hg]; exact O.gl.keeps G.base) hmg (by rw [hbn]; exact O.bl.keeps G.base) ((O.bs x hn).trans hb) ⟨σ,m,h,F,Tr.refl G⟩
theorem xStore {x:Str} {v:Value} {Q:Unit→Store→Vars→Prop} (hl:env.kindOf x = some .local) (hc:env.cells.lookup x = none) (hW:env.locals ∈ W) (h:Q () σ (m.set x v)) (hk:env.scope.kind = .function:=by rfl) :
  WP P A env W (storeName env x v) σ m Q:=fun s G F=>by
 obtain ⟨mm,hn,hm⟩:=F.ns
 refine wpAny_storeName_local hl hn (fun h' hn' hs=>?_) (by rw [hk]; rfl)
 exact ⟨σ,_,h,F.local hc hm hn' hs,Tr.same G hs hW (F.un _ (.inl rfl)).1 (F.un _ (.inl rfl)).2 (let ⟨o,_,_,e,_⟩:=hn'; ⟨o,e⟩) _⟩
theorem xStoreCell {x:Str} {v:Value} {Q:Unit→Store→Vars→Prop} (hl:env.kindOf x = some .cell) (hc:(env.cells.lookup x).isSome = true) (hW:∀ c,env.cells.lookup x = some c→c ∈ W) (h:Q () σ (m.set x v)) (hk:env.scope.kind = .function:=by rfl) :
  WP P A env W (storeName env x v) σ m Q:=fun s G F=>by
 obtain ⟨c,hc⟩:=Option.isSome_iff_exists.mp hc
 refine wpAny_storeName_cell hk hl hc (F.cell x c hc) fun h' hc' hs=>?_
 exact ⟨σ,_,h,F.cellSet (by rw [hl]; decide) hc hc' hs,Tr.same G hs (hW c hc) (F.un _ (.inr ⟨x,hc⟩)).1 (F.un _ (.inr ⟨x,hc⟩)).2 (let ⟨o,e,_⟩:=hc'; ⟨o,e⟩) _⟩
theorem xBindName {x:Str} {v:Value} {Q:Unit→Store→Vars→Prop} (h:WP P A env W (storeName env x v) σ m Q):WP P A env W (bindName env x v) σ m Q:=fun s G F=>wpAny_bindName (h s G F)
theorem xAssignName {x:Str} {pos':Pos} {value:PySem.Expr} {pos:Pos} {Q:Flow→Store→Vars→Prop} (h:WP P A env W (eval value env) σ m (fun v σ m=>WP P A env W (storeName env x v) σ m (fun _ σ m=>Q .next σ m)))
  (hs:swapsWith value (some (.Name x pos')) pos.line env = pure false:=by rfl):WP P A env W (exec (.Assign [.Name x pos'] value pos) env) σ m Q:=by
 rw [exec_Assign_Name env x pos' value pos hs]
 exact xBind (xStandAt (xBind (h.mono fun _ _ _ q=>xBind (xStandAt (xBind (xBindName (q.mono fun _ _ _ q=>xPure q)))))))
theorem xAssignAttr {o:PySem.Expr} {attr:Str} {pos':Pos} {value:PySem.Expr} {pos:Pos} {Q:Flow→Store→Vars→Prop}
  (h:WP P A env W (eval value env) σ m (fun v σ m=>WP P A env W (eval o env) σ m (fun ov σ m=>WP P A env W (setAttr ov attr v) σ m (fun _ σ m=>Q .next σ m))))
  (hs:swapsWith value (some (.Attribute o attr pos')) pos.line env = pure false:=by rfl):WP P A env W (exec (.Assign [.Attribute o attr pos'] value pos) env) σ m Q :=
 fun s G F=>plainObj_wpAny_Assign_Attribute (wpAny_mono (h s G F) (fun _ _ ⟨_,_,q,F₁,T₁⟩=>wpAny_mono (q.chain T₁ F₁) (fun _ _ ⟨_,_,q,F₂,T₂⟩=>wpAny_mono (q.chain T₂ F₂) (fun _ _ q=>q.re) fun _ _ f=>f) fun _ _ f=>f) fun _ _ f=>f) hs
theorem xAssignSub {o i:PySem.Expr} {pos':Pos} {value:PySem.Expr} {pos:Pos} {Q:Flow→Store→Vars→Prop}
  (h:WP P A env W (eval value env) σ m (fun v σ m=>WP P A env W (eval o env) σ m (fun ov σ m=>WP P A env W (eval i env) σ m (fun iv σ m=>WP P A env W (setItem ov iv v) σ m (fun _ σ m=>Q .next σ m)))))
  (hs:swapsWith value (some (.Subscript o i pos')) pos.line env = pure false:=by rfl):WP P A env W (exec (.Assign [.Subscript o i pos'] value pos) env) σ m Q :=
 fun s G F=>wpAny_Assign_Subscript (wpAny_mono (h s G F) (fun _ _ ⟨_,_,q,F₁,T₁⟩=>wpAny_mono (q.chain T₁ F₁) (fun _ _ ⟨_,_,q,F₂,T₂⟩=>wpAny_mono (q.chain T₂ F₂) (fun _ _ ⟨_,_,q,F₃,T₃⟩=>wpAny_mono (q.chain T₃ F₃) (fun _ _ q=>q.re) fun _ _ f=>f) fun _ _ f=>f) fun _ _ f=>f) fun _ _ f=>f) hs
theorem xAsName {x:Str} {pos:Pos} {v:Value} {Q:Unit→Store→Vars→Prop} (h:WP P A env W (storeName env x v) σ m Q):WP P A env W (assign (.Name x pos) env v) σ m Q:=by
 show WP P A env W (do standAt pos; bindName env x v) σ m Q
 exact xBind (xStandAt (xBindName h))
theorem xNone {k:Nat} {pos:Pos} {Q:Value→Store→Vars→Prop} (h:Q .none σ m):WP P A env W (eval (.Constant .none k pos) env) σ m Q:=fun _ G F=>wpAny_Constant_none ⟨σ,m,h,F,Tr.refl G⟩
theorem xBool {b:Bool} {k:Nat} {pos:Pos} {Q:Value→Store→Vars→Prop} (h:Q (.bool b) σ m):WP P A env W (eval (.Constant (.bool b) k pos) env) σ m Q:=fun _ G F=>wpAny_Constant_bool ⟨σ,m,h,F,Tr.refl G⟩
theorem xInt {i:Int} {k:Nat} {pos:Pos} {Q:Value→Store→Vars→Prop} (h:∀ t,Q (.int i t) σ m):WP P A env W (eval (.Constant (.int i) k pos) env) σ m Q:=fun _ G F=>wpAny_Constant_int ⟨σ,m,h _,F,Tr.toks G _⟩
theorem xStr {x:Str} {k:Nat} {pos:Pos} {Q:Value→Store→Vars→Prop} (h:∀ t,Q (.str x t) σ m):WP P A env W (eval (.Constant (.str x) k pos) env) σ m Q:=fun _ G F=>wpAny_Constant_str ⟨σ,m,h _,F,Tr.toks G _⟩
theorem xBinOp {l r:PySem.Expr} {op:Operator} {pos:Pos} {Q:Value→Store→Vars→Prop}
  (h:WP P A env W (eval l env) σ m (fun a σ m=>WP P A env W (eval r env) σ m (fun b σ m=>WP P A env W (binaryOp op a b) σ m Q))):WP P A env W (eval (.BinOp l op r pos) env) σ m Q:=by
 rw [eval_BinOp]
 exact xBind (h.mono fun _ _ _ q=>xBind (xHolding (q.mono fun _ _ _ q=>xBind (xStandAt (xOperate q)))))
theorem xCompare {l r:PySem.Expr} {op:CmpOp} {pos:Pos} {Q:Value→Store→Vars→Prop}
  (h:WP P A env W (eval l env) σ m (fun a σ m=>WP P A env W (eval r env) σ m (fun b σ m=>WP P A env W (compareOp op a b) σ m Q))) (hm:behindInMarks op r = false:=by with_unfolding_all rfl) :
  WP P A env W (eval (.Compare l [op] [r] pos) env) σ m Q:=by
 rw [eval_Compare1,markedBehindIn_of_false hm]
 exact xBind (h.mono fun _ _ _ q=>xBind (xHolding (q.mono fun _ _ _ q=>xBind (xStandAt (xOperate q)))))
theorem xTrueCompare {l r:PySem.Expr} {op:CmpOp} {pos:Pos} {whole:Sem Value} {Q:Bool→Store→Vars→Prop}
  (h:WP P A env W (eval l env) σ m (fun a σ m=>WP P A env W (eval r env) σ m (fun b σ m=>WP P A env W (compareOp op a b) σ m (fun c σ m=>WP P A env W (truthy c) σ m Q)))) (hm:behindInMarks op r = false:=by with_unfolding_all rfl) :
  WP P A env W (isTrue (.Compare l [op] [r] pos) env whole) σ m Q:=by
 rw [isTrue_Compare1,markedBehindIn_of_false hm]
 exact xBind (h.mono fun _ _ _ q=>xBind (xHolding (q.mono fun _ _ _ q=>xBind (xStandAt (xBind (xOperate (q.mono fun _ _ _ q=>xHolding q)))))))
theorem xTrueNot {x:PySem.Expr} {pos:Pos} {whole:Sem Value} {Q:Bool→Store→Vars→Prop} (h:WP P A env W (isTrue x env (eval x env)) σ m (fun b σ m=>Q (!b) σ m)):WP P A env W (isTrue (.UnaryOp .Not x pos) env whole) σ m Q:=by
 rw [arm_isTrue_UnaryOp]
 exact xBind (h.mono fun _ _ _ q=>xPure q)
theorem xTrueValue {e:PySem.Expr} {whole:Sem Value} {Q:Bool→Store→Vars→Prop} (h:WP P A env W whole σ m (fun v σ m=>WP P A env W (truthy v) σ m Q))
  (he:isTrue e env whole = (do let v ← whole; standAt e.pos; holding [v] (truthy v)):=by rfl):WP P A env W (isTrue e env whole) σ m Q:=by
 rw [he]
 exact xBind (h.mono fun _ _ _ q=>xBind (xStandAt (xHolding q)))
theorem xTrueOr2 {x y:PySem.Expr} {pos:Pos} {whole:Sem Value} {Q:Bool→Store→Vars→Prop}
  (h:WP P A env W (isTrue x env (eval x env)) σ m (fun b σ m=>(b = true→Q true σ m)∧(b = false→WP P A env W (isTrue y env (eval y env)) σ m Q))):WP P A env W (isTrue (.BoolOp .Or [x,y] pos) env whole) σ m Q:=by
 rw [arm_isTrue_BoolOp]
 refine xBind (h.mono fun b σ m q=>?_)
 cases b
 ·refine xBind ((q.2 rfl).mono fun b σ m q=>?_)
  cases b <;> exact xPure q
 ·exact xPure (q.1 rfl)
theorem xTrueAnd2 {x y:PySem.Expr} {pos:Pos} {whole:Sem Value} {Q:Bool→Store→Vars→Prop}
  (h:WP P A env W (isTrue x env (eval x env)) σ m (fun b σ m=>(b = false→Q false σ m)∧(b = true→WP P A env W (isTrue y env (eval y env)) σ m Q))):WP P A env W (isTrue (.BoolOp .And [x,y] pos) env whole) σ m Q:=by
 rw [arm_isTrue_BoolOp]
 refine xBind (h.mono fun b σ m q=>?_)
 cases b
 ·exact xPure (q.1 rfl)
 ·refine xBind ((q.2 rfl).mono fun b σ m q=>?_)
  cases b <;> exact xPure q
theorem xTruthyBool {b:Bool} {Q:Bool→Store→Vars→Prop} (h:Q b σ m):WP P A env W (truthy (.bool b)) σ m Q:=fun _ G F=>wpAny_truthy_bool ⟨σ,m,h,F,Tr.refl G⟩
theorem xIfExp {test body orelse:PySem.Expr} {pos:Pos} {Q:Value→Store→Vars→Prop}
  (h:WP P A env W (isTrue test env (eval test env)) σ m (fun b σ m=>(b = true→WP P A env W (eval body env) σ m Q)∧(b = false→WP P A env W (eval orelse env) σ m Q))):WP P A env W (eval (.IfExp test body orelse pos) env) σ m Q:=by
 rw [arm_eval_IfExp]
 refine xBind (h.mono fun b σ m q=>?_)
 cases b
 ·exact q.2 rfl
 ·exact q.1 rfl
theorem xAnd2 {x y:PySem.Expr} {pos:Pos} {Q:Value→Store→Vars→Prop}
  (h:WP P A env W (eval x env) σ m (fun v σ m=>WP P A env W (truthy v) σ m (fun t σ m=>(t = true→WP P A env W (eval y env) σ m Q)∧(t = false→Q v σ m)))):WP P A env W (eval (.BoolOp .And [x,y] pos) env) σ m Q:=by
 show WP P A env W (do
  let v ← eval x env
  standAt pos
  let t ← holding [v] (truthy v)
  match BoolOp.And,t with
  | .And,false | .Or,true=>Pure.pure v
  | _,_=>boolOp pos .And [eval y env]) σ m Q
 refine xBind (h.mono fun v σ m q=>xBind (xStandAt (xBind (xHolding (q.mono fun t σ m q=>?_)))))
 cases t with
 | false=>exact xPure (q.2 rfl)
 | true=>exact q.1 rfl
theorem xUnary {op:UnaryOp} {x:PySem.Expr} {pos:Pos} {Q:Value→Store→Vars→Prop} (h:WP P A env W (eval x env) σ m (fun v σ m=>WP P A env W (unaryOp op v) σ m Q)):WP P A env W (eval (.UnaryOp op x pos) env) σ m Q:=by
 rw [arm_eval_UnaryOp]
 exact xBind (h.mono fun _ _ _ q=>xBind (xStandAt (xHolding q)))
theorem xSplicedNil {Q:List Value→Store→Vars→Prop} (h:Q [] σ m):WP P A env W (spliced []) σ m Q:=xPure h
theorem xSplicedCons {x:Sem Value} {rest:List (Bool × Sem Value)} {Q:List Value→Store→Vars→Prop}
  (h:WP P A env W x σ m (fun v σ m=>WP P A env W (spliced rest) σ m (fun vs σ m=>Q (v :: vs) σ m))):WP P A env W (spliced ((false,x) :: rest)) σ m Q :=
 fun s G F=>Calls.spliced_cons (wpAny_mono (h s G F) (fun _ _ ⟨_,_,q,F₁,T₁⟩=>wpAny_mono (q.chain T₁ F₁) (fun _ _ q=>q.re) fun _ _ f=>f) fun _ _ f=>f)
end
def Store.set (σ:Store) (a:Addr) (o:Obj):Store:=fun x=>if x = a then some o else σ x
theorem Store.set_same (σ:Store) (a:Addr) (o:Obj):σ.set a o a = some o:=if_pos rfl
theorem Store.set_ne {σ:Store} {a b:Addr} {o:Obj} (h:b≠a):σ.set a o b = σ b:=if_neg h
theorem Store.set_new {σ:Store} {a b:Addr} {o o':Obj} (h:σ a = none) (e:σ b = some o'):σ.set a o b = some o':=by
 rw [Store.set_ne,e]; rintro rfl; rw [h] at e; cases e
abbrev lst (vs:List Value) (n:Nat):Obj:=seqObj "list" vs.toArray n
abbrev tup (vs:List Value) (n:Nat):Obj:=seqObj "tuple" vs.toArray n
section
variable {P:Par} {A:Around} {env:Env} {W:List Addr} {α β:Type} {σ:Store} {m:Vars}
theorem Tr.push {s:Shared} (G:Good P σ s) (o:Obj) (hf:o.isFreed = false) (t:Nat):Tr P [] σ s (σ.set s.heap.objs.size o) { s with heap:=s.heap.push o,toks:=t }:=by
 obtain hnew:s.heap.get? s.heap.objs.size = none:=none_of (Nat.le_refl _)
 refine ⟨⟨fun a o' e=>?_,fun a o' e=>Heap.get?_push_of_some _ (G.base a o' e),fun a o' e=>?_,G.gens,G.os,fun a o' e=>?_⟩,fun a o' _ _ e=>Heap.get?_push_of_some _ e,fun a h h'=>?_,fun a h=>?_⟩
 ·unfold Store.set at e
  split at e
  ·rename_i q; cases e; rw [q]; exact Heap.get?_push_size _ hf
  ·exact Heap.get?_push_of_some _ (G.has a o' e)
 ·unfold Store.set at e
  split at e
  ·rename_i q
   cases hq:P.g.get? a with
   | none=>rfl
   | some o₀=>have:=G.base a o₀ hq; rw [q,hnew] at this; exact nn this
  ·exact G.own a o' e
 ·unfold Store.set at e
  split at e
  ·rename_i q; rw [q]; exact big_of G.base
  ·exact G.low a o' e
 ·unfold Store.set at h
  split at h
  ·rename_i q; rw [q]; exact hnew
  ·exact absurd h' h
 ·cases q:s.heap.get? a with
  | none=>rfl
  | some o'=>have:=Heap.get?_push_of_some o q; rw [h] at this; exact nn this
theorem Tr.upd {s:Shared} {a:Addr} {o o':Obj} {h':Heap} (G:Good P σ s) (e:σ a = some o) (hs:Heap.SameBut a s.heap h') (e':h'.get? a = some o') (t:Nat):Tr P [] σ s (σ.set a o') { s with heap:=h',toks:=t }:=by
 refine ⟨⟨fun b o₁ e₁=>?_,fun b o₁ e₁=>?_,fun b o₁ e₁=>?_,G.gens,G.os,fun b o₁ e₁=>?_⟩,fun b o₁ hn _ e₁=>?_,fun b h h₁=>?_,fun b h=>?_⟩
 ·unfold Store.set at e₁
  split at e₁
  ·rename_i q; cases e₁; rw [q]; exact e'
  ·rename_i q; exact (hs.2 b q).trans (G.has b o₁ e₁)
 ·refine (hs.2 b fun q=>?_).trans (G.base b o₁ e₁)
  rw [q,G.own a o e] at e₁; exact nn e₁
 ·unfold Store.set at e₁
  split at e₁
  ·rename_i q; rw [q]; exact G.own a o e
  ·exact G.own b o₁ e₁
 ·unfold Store.set at e₁
  split at e₁
  ·rename_i q; rw [q]; exact G.low a o e
  ·exact G.low b o₁ e₁
 ·exact (hs.2 b fun q=>by rw [q,e] at hn; exact ns hn).trans e₁
 ·unfold Store.set at h
  split at h
  ·rename_i q; rw [q,e] at h₁; exact ns h₁
  ·exact absurd h₁ h
 ·by_cases q:b = a
  ·subst q; exact absurd h (ne_none e')
  ·exact (hs.2 b q) ▸ h
theorem oAlloc {t:Sem α} {o:Obj} {f:Addr→α} {Q:α→Store→Prop} (ht:∀ (s:Shared) (R:α→Shared→Prop) (E:Value→Shared→Prop),R (f s.heap.objs.size) { s with heap:=s.heap.push o }→wpAny P.M A t R E s)
  (h:∀ a,σ a = none→Q (f a) (σ.set a o)) (hf:o.isFreed = false:=by rfl):Op P A t σ Q:=fun s G=>by
 refine ht s _ _ ⟨_,h s.heap.objs.size ?_,Tr.push G o hf s.toks⟩
 cases q:σ s.heap.objs.size with
 | none=>rfl
 | some o'=>have:=G.has _ _ q; rw [none_of (Nat.le_refl _)] at this; cases this
theorem oStill {t:Sem α} {a:α} {Q:α→Store→Prop} (ht:∀ (s:Shared) (R:α→Shared→Prop) (E:Value→Shared→Prop),Good P σ s→R a s→wpAny P.M A t R E s) (h:Q a σ):Op P A t σ Q :=
 fun s G=>ht s _ _ G ⟨σ,h,Tr.refl G⟩
theorem oNewTuple {vs:List Value} {Q:Value→Store→Prop} (h:∀ a,σ a = none→Q (.ref a) (σ.set a (tup vs 0))) (hsz:vs.length≤sizeLine):Op P A (newTuple vs) σ Q :=
 oAlloc (o:=tup vs 0) (f:=.ref) (fun _ _ _ r=>wpAny_newTuple r hsz) h
theorem oNewList {vs:List Value} {Q:Value→Store→Prop} (h:∀ a,σ a = none→Q (.ref a) (σ.set a (lst vs 0))) (hsz:vs.length≤sizeLine):Op P A (newList vs) σ Q :=
 oAlloc (o:=lst vs 0) (f:=.ref) (fun _ _ _ r=>wpAny_newList r hsz) h
def plainE:PySem.Expr→Bool
 | .Starred ..=>false
 | _=>true
noncomputable def Evs (P:Par) (A:Around) (env:Env) (W:List Addr):List PySem.Expr→Store→Vars→(List Value→Store→Vars→Prop)→Prop
 | [],σ,m,Q=>Q [] σ m
 | e :: r,σ,m,Q=>WP P A env W (eval e env) σ m (fun v σ m=>Evs P A env W r σ m (fun vs=>Q (v :: vs)))
theorem Evs.mono:∀ {es:List PySem.Expr} {σ:Store} {m:Vars} {Q Q':List Value→Store→Vars→Prop},Evs P A env W es σ m Q→(∀ vs σ m,Q vs σ m→Q' vs σ m)→Evs P A env W es σ m Q'
 | [],_,_,_,_,h,hq=>hq _ _ _ h
 | _ :: _,_,_,_,_,h,hq=>WP.mono h fun _ _ _ h=>Evs.mono h fun _=>hq _
theorem lqE {es:List PySem.Expr} {Q:List Value→Store→Vars→Prop} (h:let K:=Q; Evs P A env W es σ m K):Evs P A env W es σ m Q:=h
theorem evNil {Q:List Value→Store→Vars→Prop} (h:Q [] σ m):Evs P A env W [] σ m Q:=h
theorem evCons {e:PySem.Expr} {r:List PySem.Expr} {Q:List Value→Store→Vars→Prop} (h:WP P A env W (eval e env) σ m (fun v σ m=>Evs P A env W r σ m (fun vs=>Q (v :: vs)))):Evs P A env W (e :: r) σ m Q:=h
theorem starEach_plain (env:Env):∀ {e:PySem.Expr} {r:List PySem.Expr},plainE e = true→starEach (e :: r) env = (false,eval e env) :: starEach r env
 | e,r,h=>by cases e <;> first | rfl | cases h
theorem xSpliced {pos:Pos}:∀ {es:List PySem.Expr} {σ:Store} {m:Vars} {Q:List Value→Store→Vars→Prop},es.all plainE = true→Evs P A env W es σ m Q→WP P A env W (spliced (backTo pos (starEach es env))) σ m Q
 | [],_,_,_,_,h=>xSplicedNil h
 | e :: r,_,_,_,hp,h=>by
  rw [List.all_cons,Bool.and_eq_true] at hp
  rw [starEach_plain env hp.1]
  exact xSplicedCons (WP.mono h fun _ _ _ h=>xSpliced hp.2 h)
theorem noStars (pos:Pos):∀ {es:List PySem.Expr},es.all plainE = true→(backTo pos (starEach es env)).any (·.1) = false
 | [],_=>rfl
 | e :: r,hp=>by
  rw [List.all_cons,Bool.and_eq_true] at hp
  rw [starEach_plain env hp.1]
  exact noStars pos hp.2
theorem allPlain (pos:Pos):∀ {es:List PySem.Expr},es.all plainE = true→(backTo pos (starEach es env)).all (!·.1) = true
 | [],_=>rfl
 | e :: r,hp=>by
  rw [List.all_cons,Bool.and_eq_true] at hp
  rw [starEach_plain env hp.1]
  exact allPlain pos hp.2
theorem xTuple {elts:List PySem.Expr} {k:Nat} {pos:Pos} {Q:Value→Store→Vars→Prop} (h:Evs P A env W elts σ m (fun vs σ m=>∀ a,σ a = none→Q (.ref a) (σ.set a (tup vs 0)) m)) (hp:elts.all plainE = true:=by rfl) (hz:elts.length≤100:=by decide) :
  WP P A env W (eval (.Tuple elts k pos) env) σ m Q:=by
 show WP P A env W (do standAt pos; newTuple (← spliced (backTo pos (starEach elts env)))) σ m Q
 have hl:∀ {es:List PySem.Expr} {σ:Store} {m:Vars} {Q:List Value→Store→Vars→Prop},Evs P A env W es σ m Q→Evs P A env W es σ m (fun vs σ m=>vs.length = es.length∧Q vs σ m):=fun {es}=>by
  induction es with
  | nil=>intro σ m Q h; exact ⟨rfl,h⟩
  | cons e r ih=>intro σ m Q h; exact WP.mono h fun v σ m h=>(ih h).mono fun vs σ m h=>⟨by rw [List.length_cons,List.length_cons,h.1],h.2⟩
 exact xBind (xStandAt (xBind ((xSpliced hp (hl h)).mono fun vs σ m q=>xOp (oNewTuple q.2 (by rw [q.1,sizeLine_eq]; omega)))))
theorem xList {elts:List PySem.Expr} {pos:Pos} {Q:Value→Store→Vars→Prop} (h:Evs P A env W elts σ m (fun vs σ m=>∀ a,σ a = none→Q (.ref a) (σ.set a (lst vs 0)) m)) (hp:elts.all plainE = true:=by rfl) (hz:elts.length≤100:=by decide) :
  WP P A env W (eval (.List elts pos) env) σ m Q:=by
 show WP P A env W (do standAt pos; newList (← spliced (backTo pos (starEach elts env)))) σ m Q
 obtain hl:∀ {es:List PySem.Expr} {σ:Store} {m:Vars} {Q:List Value→Store→Vars→Prop},Evs P A env W es σ m Q→Evs P A env W es σ m (fun vs σ m=>vs.length = es.length∧Q vs σ m):=fun {es}=>by
  induction es with
  | nil=>intro σ m Q h; exact ⟨rfl,h⟩
  | cons e r ih=>intro σ m Q h; exact WP.mono h fun v σ m h=>(ih h).mono fun vs σ m h=>⟨by rw [List.length_cons,List.length_cons,h.1],h.2⟩
 exact xBind (xStandAt (xBind ((xSpliced hp (hl h)).mono fun vs σ m q=>xOp (oNewList q.2 (by rw [q.1,sizeLine_eq]; omega)))))
def Kept (P:Par) (f:Value):Prop:=∀ (A:Around) (s:Shared) (R:Keeper→Shared→Prop) (E:Value→Shared→Prop),(∀ b o,P.g.get? b = some o→s.heap.get? b = some o)→(∀ k,R k s)→wpAny P.M A (keeperOf f) R E s
theorem kept_builtin (i:String):Kept P (.builtin i):=fun _ _ _ _ _ h=>wpAny_pure (h _)
theorem kept_type (i:String):Kept P (.type i):=fun _ _ _ _ _ h=>wpAny_pure (h _)
def fdIn (K:Frag) (f:Addr):Option FuncData:=match K.lookup f with
 | some ⟨_,_,.func fd,_⟩=>some fd
 | _=>none
theorem fdIn_obj {K:Frag} {f:Addr} {fd:FuncData} (h:fdIn K f = some fd):∃ o,K.lookup f = some o∧o.data = .func fd:=by
 unfold fdIn at h
 split at h
 ·rename_i q; cases h; exact ⟨_,q,rfl⟩
 ·cases h
theorem kept_fn {f:Addr} {fd:FuncData} (O:P.Ok) (h:fdIn P.K f = some fd):Kept P (.ref f):=fun A s R E k h'=>by
 obtain ⟨o,ho,hd⟩:=fdIn_obj h
 refine wpAny_bind (wpAny_load (k _ _ (O.kin _ _ ho)) ?_)
 rw [hd]
 exact wpAny_pure (h' _)
def clsCallIn (K:Frag) (C:Addr):Bool:=(clsIn K C).isSome && specialIn K (.ref C) "__call__" == some (some (.builtin "type.__call__"))
theorem kept_cls {C:Addr} (O:P.Ok) (h:clsCallIn P.K C = true):Kept P (.ref C):=fun A s R E k h'=>by
 refine lG ?_; intro G
 obtain ⟨h1,h2⟩:=Bool.and_eq_true_iff.mp h
 refine lG ?_; intro G
 obtain ⟨cd,h1⟩:=Option.isSome_iff_exists.mp h1
 unfold clsIn at h1
 split at h1
 ·rename_i ho
  refine wpAny_bind (wpAny_load (k _ _ (O.kin _ _ ho)) ?_)
  refine wpAny_bind ((looks_specialIn (O.kin.keeps k) (beq_iff_eq.mp h2)).here ?_)
  exact wpAny_pure (h' _)
 ·refine lG ?_; intro G
  exact nn h1
theorem xCallWith {pos pos':Pos} {f:Value} {first:List Value} {elts:List PySem.Expr} {Q:Value→Store→Vars→Prop} (hk:Kept P f) (h:Evs P A env W elts σ m (fun vs σ m=>WP P A env W (call f (first ++ vs)) σ m Q)) (hp:elts.all plainE = true) :
  WP P A env W (callWith pos f first (backTo pos' (starEach elts env)) []) σ m Q:=by
 obtain gen:∀ l:List (Bool × Sem Value),l.any (·.1) = false→∀ {Q':List Value→Store→Vars→Prop},WP P A env W (spliced l) σ m Q'→WP P A env W (evalArgs f true l []) σ m (fun a σ m=>a.kw = []∧Q' a.pos σ m):=fun l hl Q' hq=>by
  unfold evalArgs
  cases l with
  | nil=>exact xBind (hq.mono fun vs σ m q=>xHolding (xBind (xPure (xBind (xPure (xPure ⟨rfl,q⟩))))))
  | cons x r =>
   obtain ⟨b,t⟩:=x
   cases b with
   | true=>simp at hl
   | false=>exact xBind (hq.mono fun vs σ m q=>xHolding (xBind (xPure (xBind (xPure (xPure ⟨rfl,q⟩))))))
 obtain ev:=gen _ (noStars (env:=env) pos' hp) (xSpliced (pos:=pos') hp h)
 obtain hs:=noStars (env:=env) pos' hp
 unfold callWith
 refine xBind (xHolding (ev.mono fun a σ m q=>xBind (xStandAt ?_)))
 obtain tail:∀ {t:Sem Value},WP P A env W t σ m Q→WP P A env W (t >>= fun r=>holding [r] point >>= fun _=>Pure.pure r) σ m Q :=
  fun ht=>xBind (ht.mono fun r σ m q=>xBind (xHolding (xPoint (xPure q))))
 obtain ⟨hkw,q⟩:=q
 obtain kp:∀ {vs:List Value} {t:Sem Value},WP P A env W t σ m Q→WP P A env W (t.keep vs) σ m Q:=fun ht s G F=>Calls.wpAny_keep (ht s G F)
 simp only [hs,List.any_nil,Bool.or_false,hkw,List.map_nil,List.append_nil]
 refine xBind (fun s G F=>hk _ s _ _ G.base fun k=>⟨σ,m,?_,F,Tr.refl G⟩)
 cases k
 ·dsimp only
  split
  ·exact tail q
  ·exact tail (kp q)
 ·dsimp only
  split
  ·exact tail q
  ·exact tail (kp q)
 ·exact tail q
 ·exact tail (xOperate q)
theorem xCallName {x:Str} {np pos:Pos} {elts:List PySem.Expr} {Q:Value→Store→Vars→Prop}
  (h:WP P A env W (eval (.Name x np) env) σ m (fun f σ m=>Kept P f∧Evs P A env W elts σ m (fun vs σ m=>WP P A env W (call f vs) σ m Q))) (hp:elts.all plainE = true:=by rfl) :
  WP P A env W (eval (.Call (.Name x np) elts [] pos) env) σ m Q:=by
 exact xBind (h.mono fun f σ m q=>xCallWith q.1 q.2 hp)
theorem xCallMeth {o:PySem.Expr} {name:Str} {apos pos:Pos} {elts:List PySem.Expr} {Q:Value→Store→Vars→Prop}
  (h:WP P A env W (eval o env) σ m (fun ov σ m=>∀ pl,WP P A env W (getMethod ov name pl) σ m (fun r σ m=>Kept P r.1∧Evs P A env W elts σ m (fun vs σ m=>WP P A env W (call r.1 (r.2 ++ vs)) σ m Q))))
  (hbase:attributeBase o name env (eval o env) = eval o env:=by rfl) (hp:elts.all plainE = true:=by rfl) (hz:decide (elts.length + 0 + 0 < 30) = true:=by rfl) (hline:(apos.endLine == pos.line) = true:=by rfl) :
  WP P A env W (eval (.Call (.Attribute o name apos) elts [] pos) env) σ m Q:=by
 rw [arm_eval_Call,hbase]
 refine xBind (h.mono fun ov σ m q=>xBind (xStandAt ?_))
 obtain hfew:methodCallForm (elts.length + ([]:List Keyword).length) (backTo pos (starEach elts env)) (backToKw pos (keywordEach [] env)) = true:=by
  unfold methodCallForm
  rw [allPlain pos hp]
  exact hz
 unfold methodCall
 rw [hfew]
 refine xBind (xHolding ((q _).mono fun r σ m q=>?_))
 obtain ⟨f,first⟩:=r
 unfold methodCallPos
 rw [if_pos (by rw [hline]; rfl)]
 exact xBind (xPure (xCallWith q.1 q.2 hp))
theorem xAttribute {value:PySem.Expr} {attr:Str} {pos:Pos} {Q:Value→Store→Vars→Prop} (h:WP P A env W (eval value env) σ m (fun o σ m=>WP P A env W (getAttr o attr true) σ m Q))
  (hbase:attributeBase value attr env (eval value env) = eval value env:=by rfl):WP P A env W (eval (.Attribute value attr pos) env) σ m Q:=by
 rw [arm_eval_Attribute,hbase]
 exact xBind (h.mono fun o σ m q=>xBind (xStandAt (xBind (xHolding (q.mono fun r σ m q=>xBind (xLetTemporaryGo (xPure q)))))))
def Ty (P:Par) (σ:Store) (v:Value) (T:String):Prop:=∀ s,Good P σ s→s.TypeIs v T
theorem Ty.ref {a:Addr} {o:Obj} {T:String} (e:σ a = some o) (hc:o.cls = .type T):Ty P σ (.ref a) T:=fun _ G=>⟨o,G.has _ _ e,hc⟩
theorem xSubscript {value slice:PySem.Expr} {pos:Pos} {T i₀:String} {Q:Value→Store→Vars→Prop} (hl:typeLookup (.type T) "__getitem__" = Pure.pure (some (.builtin i₀)))
  (h:WP P A env W (eval value env) σ m (fun o σ m=>WP P A env W (eval slice env) σ m (fun i σ m=>Ty P σ o T∧WP P A env W (getItem o i) σ m Q))):WP P A env W (eval (.Subscript value slice pos) env) σ m Q:=by
 rw [eval_Subscript]
 refine xBind (h.mono fun o σ m q=>xBind (xHolding (q.mono fun i σ m q2=>xBind (xStandAt ?_))))
 refine xBind (t:=getitemInPython o) fun s G F=>?_
 refine wpAny_bind (wpAny_specialOf (q2.1 s G) hl (wpAny_pure ⟨σ,m,?_,F,Tr.refl G⟩))
 have:WP P A env W (subscripted slice false o i) σ m Q:=by
  unfold subscripted
  split
  ·exact xOperate q2.2
  ·rename_i hb; cases hb
  ·exact xOperate q2.2
 exact xBind (this.mono fun r σ m q=>xBind (xLetTemporaryGo (xPure q)))
end
def COp (P:Par) (A:Around) (c:Code) (σ:Store) (Q:Value→Store→Prop):Prop :=
 ∀ s,Good P σ s→codeAny P.M A c (fun r s'=>(X2 fun v σ'=>N3 (r = .ok (.ret v)) (Q v σ') (Tr P [] σ s σ' s'))) s
def wrOf (env:Env):List Addr:=env.locals :: env.cells.filterMap fun c=>env.cells.lookup c.1
theorem mem_wrOf {env:Env} {x:Str} {c:Addr} (h:env.cells.lookup x = some c):c ∈ wrOf env:=List.mem_cons_of_mem _ (List.mem_filterMap.mpr ⟨(x,c),mem_of_lookup h,h⟩)
theorem of_wrOf {env:Env} {a:Addr} (h:a ∈ wrOf env):a = env.locals∨∃ x,env.cells.lookup x = some a:=by
 rcases List.mem_cons.mp h with h | h
 ·exact .inl h
 ·obtain ⟨⟨x,c⟩,_,e⟩:=List.mem_filterMap.mp h
  exact .inr ⟨x,e⟩
noncomputable def bindAll:List (Str × Value)→Vars→Vars
 | [],m=>m
 | (n,v) :: r,m=>bindAll r (m.set n v)
theorem bindL_all {k:Str→Option NameKind} {x:Str} (hx:k x = some .local):∀ {binds:List (Str × Value)} {m m':Vars},m x = m' x→bindL k binds m x = bindAll binds m' x
 | [],_,_,h=>h
 | (n,v) :: r,m,m',h=>by
  unfold bindL bindAll
  refine bindL_all hx ?_
  by_cases hn:k n = some .local
  ·rw [if_pos hn]
   show (if x = n then some v else m x) = if x = n then some v else m' x
   rw [h]
  ·rw [if_neg hn]
   show m x = if x = n then some v else m' x
   rw [if_neg (by rintro rfl; exact hn hx)]; exact h
theorem bindC_all {k:Str→Option NameKind} {x:Str} (hx:k x≠some .local):∀ {binds:List (Str × Value)} {m m':Vars},m x = m' x→bindC k binds m x = bindAll binds m' x
 | [],_,_,h=>h
 | (n,v) :: r,m,m',h=>by
  unfold bindC bindAll
  refine bindC_all hx ?_
  by_cases hn:k n = some .local
  ·rw [if_pos hn]
   show m x = if x = n then some v else m' x
   rw [if_neg (by rintro rfl; exact hx hn)]; exact h
  ·rw [if_neg hn]
   show (if x = n then some v else m x) = if x = n then some v else m' x
   rw [h]
theorem cellsFrom_names {x:Str} {a:Addr}:∀ {names:List (Str × NameKind)} {n:Nat} {acc:List (Str × Addr)},(x,a) ∈ cellsFrom n names acc→(x,a) ∈ acc∨(x,NameKind.cell) ∈ names
 | [],_,_,h=>.inl h
 | (y,k) :: r,n,acc,h=>by
  unfold cellsFrom at h
  split at h
  ·rename_i hk
   rcases cellsFrom_names h with h | h
   ·rcases List.mem_cons.mp h with h | h
    ·cases h; exact .inr (by rw [beq_iff_eq.mp hk]; exact List.mem_cons_self)
    ·exact .inl h
   ·exact .inr (List.mem_cons_of_mem _ h)
  ·rcases cellsFrom_names h with h | h
   ·exact .inl h
   ·exact .inr (List.mem_cons_of_mem _ h)
def cellNames (names:List (Str × NameKind)):Bool:=names.all fun y=>y.2 != .cell || names.lookup y.1 == some .cell
section
variable {P:Par} {A:Around} {env:Env} {W:List Addr} {α β:Type} {σ:Store} {m:Vars}
theorem Tr.close {W':List Addr} {σ₁ σ₂:Store} {s s₁ s₂:Shared} (x:Tr P W' σ s σ₁ s₁) (y:Tr P W σ₁ s₁ σ₂ s₂) (hW:∀ a ∈ W,a ∈ W'∨s.heap.get? a = none):Tr P W' σ s σ₂ s₂ :=
 ⟨y.good,fun a o hn hw e=>y.keep a o (x.gone hn e) (fun hm=>(hW a hm).elim hw fun h=>ne_none e h) (x.keep a o hn hw e),
  fun a h h'=>by
  by_cases h1:σ₁ a = none
  ·exact x.alive a (y.fresh a h h1)
  ·exact x.fresh a h1 h',fun a h=>x.alive a (y.alive a h)⟩
theorem Tr.kept {s:Shared} {h':Heap} {tk:Nat} (G:Good P σ s) (k:∀ b o,s.heap.get? b = some o→h'.get? b = some o):Tr P W σ s σ { s with heap:=h',toks:=tk } :=
 ⟨⟨fun a o e=>k a o (G.has a o e),fun a o e=>k a o (G.base a o e),G.own,G.gens,G.os,G.low⟩,fun a o _ _ e=>k a o e,fun _ h h'=>absurd h' h,fun a h=>by
  cases q:s.heap.get? a with
  | none=>rfl
  | some o=>exact absurd h (ne_none (k a o q))⟩
theorem oOf {f:Value} {vs:List Value} {Q:Value→Store→Prop} (h:COp P A (.call f ⟨vs,[]⟩) σ Q):Op P A (call f vs) σ Q:=fun s G =>
 wpAny_call (codeAny_mono (h s G) fun r s' ⟨v,σ',e,q,T⟩=>by subst e; exact ⟨σ',q,T⟩)
theorem σnone {s:Shared} (G:Good P σ s) {a:Addr} (h:s.heap.get? a = none):σ a = none:=by
 cases q:σ a with
 | none=>rfl
 | some o=>have:=G.has _ _ q; rw [h] at this; cases this
theorem gnone {s:Shared} (G:Good P σ s) {a:Addr} (h:s.heap.get? a = none):P.g.get? a = none:=by
 cases q:P.g.get? a with
 | none=>rfl
 | some o=>have:=G.base _ _ q; rw [h] at this; cases this
theorem oCallA {f:Addr} {fd:FuncData} {body:List Stmt} {vals:List Value} {binds:List (Str × Value)} {n:Nat} {Q:Value→Store→Prop} (O:P.Ok) (hf:fdIn P.K f = some fd) (hR:Rm A n)
  (hcd:codeIn P.K fd.code fd.qualname = true) (hbody:fd.body = .stmts body) (hbind:bindArgs fd ⟨vals,[]⟩ = pure binds) (hclo:fd.closure = [])
  (hkind:(binds.all fun y=>fd.scope.names.lookup y.1 == some .local || fd.scope.names.lookup y.1 == some .cell) = true) (hcn:cellNames fd.scope.names = true)
  (h:∀ L,WP P (A.deeper (callEnvC fd L f)) (callEnvC fd L f) (wrOf (callEnvC fd L f)) (execs body (callEnvC fd L f)) σ (bindAll binds fun _=>none) (fun fl σ' _=>Q (match fl with | .ret v=>v | _=>.none) σ'))
  (hco:fd.scope.isCoroutine = false:=by rfl) (hgen:fd.scope.isGenerator = false:=by rfl) (hk:fd.scope.kind = .function:=by rfl):COp P A (.call (.ref f) ⟨vals,[]⟩) σ Q:=fun s G=>by
 obtain ⟨o,ho,hd⟩:=fdIn_obj hf
 obtain X:P.K.In s.heap:=O.kin.keeps G.base
 refine codeAny_call_cells hR.lim (X _ _ ho) hd (O.lim.keeps G.base) (codeRec_of X hcd) hbody hbind hclo (kindsX hkind _) (fun s₁ x=>?_) hco hgen hk
 obtain hL:s.heap.get? s.heap.objs.size = none:=none_of (Nat.le_refl _)
 obtain ⟨⟨h₁,tk₁,rfl⟩,hns,hkeep,hfr⟩:=x.toInCall
 obtain T₁:Tr P [] σ s σ { s with heap:=h₁,toks:=tk₁ }:=Tr.kept G hkeep
 obtain hcells:∀ x' a,(callEnvC fd s.heap.objs.size f).cells.lookup x' = some a→s.heap.get? a = none:=fun x' a e=>none_of (Nat.le_of_lt (x.above x' a (mem_of_lookup e)))
 obtain hkc:∀ x' a,(callEnvC fd s.heap.objs.size f).cells.lookup x' = some a→(callEnvC fd s.heap.objs.size f).kindOf x'≠some .local:=fun x' a e=>by
  refine lG ?_; intro G
  rcases cellsFrom_names (mem_of_lookup e) with h' | h'
  ·cases h'
  ·have:=List.all_eq_true.mp hcn _ h'
   obtain h2:fd.scope.names.lookup x' = some .cell:=by simpa using this
   show fd.scope.names.lookup x'≠some .local
   rw [h2]; decide
 obtain F:Fm P (callEnvC fd s.heap.objs.size f) (wrOf (callEnvC fd s.heap.objs.size f)) σ h₁ (bindAll binds fun _=>none):=by
  refine ⟨⟨_,hns,fun x' hx=>bindL_all hx rfl⟩,fun x' a e=>?_,fun a ha=>?_,fun x' e=>?_,fun x' y a e e'=>name_of_addr x.apart (mem_of_lookup e) (mem_of_lookup e'),fun a ha=>?_⟩
  ·have:=x.cell x' a e
   rwa [bindC_all (hkc x' a e) rfl] at this
  ·have:s.heap.get? a = none:=by
    rcases ha with rfl | ⟨x',e⟩
    ·exact hL
    ·exact hcells x' a e
   exact ⟨σnone G this,gnone G this⟩
  ·exact Nat.lt_irrefl _ (x.above x' _ (mem_of_lookup e))
  ·rcases of_wrOf ha with rfl | ⟨x',e⟩
   ·exact ⟨gnone G hL,σnone G hL,let ⟨o,_,_,e,_⟩:=hns; ⟨o,e⟩⟩
   ·exact ⟨gnone G (hcells x' a e),σnone G (hcells x' a e),let ⟨o,e,_⟩:=x.cell x' _ e; ⟨o,e⟩⟩
 refine wpAny_mono (h _ _ T₁.good F) (fun fl s' ⟨σ',m',q,F',T'⟩=>⟨_,σ',rfl,q,T₁.close T' fun a ha=>.inr ?_⟩) fun _ _ f=>f.elim
 rcases of_wrOf ha with rfl | ⟨x',e⟩
 ·exact hL
 ·exact hcells x' a e
theorem oCall {f:Addr} {fd:FuncData} {body:List Stmt} {vals:List Value} {binds:List (Str × Value)} {n:Nat} {Q:Value→Store→Prop} (O:P.Ok) (hf:fdIn P.K f = some fd) (hR:Rm A n)
  (hcd:codeIn P.K fd.code fd.qualname = true) (hbody:fd.body = .stmts body) (hbind:bindArgs fd ⟨vals,[]⟩ = pure binds) (hclo:fd.closure = [])
  (hkind:(binds.all fun y=>fd.scope.names.lookup y.1 == some .local || fd.scope.names.lookup y.1 == some .cell) = true) (hcn:cellNames fd.scope.names = true)
  (h:∀ L,let env:=callEnvC fd L f; let A':=A.deeper env; let W:=wrOf env; let m:=(bindAll binds fun _=>none); let Q':Flow→Store→Vars→Prop:=(fun fl σ' _=>Q (match fl with | .ret v=>v | _=>.none) σ'); WP P A' env W (execs body env) σ m Q')
  (hco:fd.scope.isCoroutine = false:=by rfl) (hgen:fd.scope.isGenerator = false:=by rfl) (hk:fd.scope.kind = .function:=by rfl):COp P A (.call (.ref f) ⟨vals,[]⟩) σ Q:=oCallA O hf hR hcd hbody hbind hclo hkind hcn h hco hgen hk
end
inductive Attrs:List DictEntry→List (Str × Value)→Prop
 | nil:Attrs [] []
 | cons {h:Int} {x:Str} {t:Tok} {v:Value} {es:List DictEntry} {l:List (Str × Value)}:Attrs es l→Attrs (⟨h,.str x t,v⟩ :: es) ((x,v) :: l)
theorem Attrs.get {name:Str}:∀ {es:List DictEntry} {l:List (Str × Value)},Attrs es l→getL name es = some (l.lookup name)
 | _,_,.nil=>rfl
 | _,_,.cons (h:=h) (x:=x) (t:=t) (v:=v) (es:=es) (l:=l) r=>by
  obtain ih:=Attrs.get (name:=name) r
  obtain hs:Value.isStr (.str x t) name = (name == x):=by
   show (x == name) = (name == x)
   by_cases q:x = name
   ·subst q; rfl
   ·rw [beq_eq_false_iff_ne.mpr q,beq_eq_false_iff_ne.mpr (Ne.symm q)]
  unfold getL at ih ⊢
  rw [List.lookup_cons]
  cases q:name == x with
  | true=>rw [List.find?_cons_of_pos (by show Value.isStr (.str x t) name = true; rw [hs,q])]
  | false =>
   rw [List.find?_cons_of_neg (by show ¬ Value.isStr (.str x t) name = true; rw [hs,q]; decide)]
   exact ih
theorem Attrs.put {name:Str} {h:Int} {t:Tok} {v:Value}:∀ {es:List DictEntry} {l:List (Str × Value)},Attrs es l→l.lookup name = none→Attrs (putL name h (.str name t) v es) (l ++ [(name,v)])
 | _,_,.nil,_=>.cons .nil
 | _,_,.cons (h:=h') (x:=x) (t:=t') (v:=v') (es:=es) (l:=l) r,hl=>by
  rw [List.lookup_cons] at hl
  cases q:name == x with
  | true=>rw [q] at hl; exact ns hl
  | false =>
   rw [q] at hl
   unfold putL
   obtain hs:Value.isStr (.str x t') name = false:=by
    exact beq_eq_false_iff_ne.mpr fun e=>(beq_eq_false_iff_ne.mp q) e.symm
   rw [if_neg (by rw [hs]; decide)]
   exact .cons (Attrs.put r hl)
theorem Attrs.length:∀ {es:List DictEntry} {l:List (Str × Value)},Attrs es l→es.length = l.length
 | _,_,.nil=>rfl
 | _,_,.cons r=>by rw [List.length_cons,List.length_cons,r.length]
structure IsI (σ:Store) (x d C:Addr) (l:List (Str × Value)):Prop where
 obj:σ x = some (instObj C d)
 dict:(X2 fun es n=>σ d = some (dictOf es n)∧Attrs es l)
theorem IsI.ext {σ σ':Store} {x d C:Addr} {l:List (Str × Value)} (I:IsI σ x d C l) (hx:∀ o,σ x = some o→σ' x = some o) (hd:∀ o,σ d = some o→σ' d = some o):IsI σ' x d C l :=
 ⟨hx _ I.obj,let ⟨es,n,e,a⟩:=I.dict; ⟨es,n,hd _ e,a⟩⟩
section
variable {P:Par} {A:Around} {env:Env} {W:List Addr} {α β:Type} {σ:Store} {m:Vars} {x d C:Addr} {l:List (Str × Value)}
theorem IsI.at {s:Shared} (I:IsI σ x d C l) (G:Good P σ s):(X2 fun es n=>Attrs es l∧InstAt s.heap x (instObj C d) C (some (dictOf es n))):=by
 obtain ⟨h1,es,n,h2,a⟩:=I
 exact ⟨es,n,a,G.has _ _ h1,rfl,rfl,G.has _ _ h2⟩
def attrOk (K:Frag) (C:Addr) (name:Str):Bool:=plainGet K C name && hasDictIn K C && (match findIn K (.ref C) name with | some attr=>noGet K attr | none=>false)
set_option tactic.hygienic true in
theorem oGetAttr {name:Str} {v:Value} {expr:Bool} {Q:Value→Store→Prop} (O:P.Ok) (I:IsI σ x d C l) (hl:l.lookup name = some v) (hk:attrOk P.K C name = true) (hv:handedIn v = true) (h:Q v σ):Op P A (getAttr (.ref x) name expr) σ Q:=fun s G=>by
 obtain ⟨es,n,a,I'⟩:=I.at G
 obtain ⟨h12,h3⟩:=Bool.and_eq_true_iff.mp hk
 obtain ⟨h1,h2⟩:=Bool.and_eq_true_iff.mp h12
 split at h3
 ·rename_i attr ha
  exact get_value (O.kin.keeps G.base) I' (plainGet_of h1).1 (findObj_own h2 ha h3 (by rw [lookIn_dict,a.get,hl])) hv ⟨σ,h,Tr.toks G _⟩
 ·refine lG ?_; intro G
  cases h3
def methOk (K:Frag) (C:Addr) (name:Str) (f:Addr):Bool:=plainGet K C name && findIn K (.ref C) name == some (some (.ref f)) && typeIn K (.ref f) == some (.type "function")
theorem oGetMethod {name:Str} {f:Addr} {pl:Sem Bool} {Q:Value × List Value→Store→Prop} (O:P.Ok) (I:IsI σ x d C l) (hl:l.lookup name = none) (hk:methOk P.K C name f = true) (h:Q (.ref f,[.ref x]) σ):Op P A (getMethod (.ref x) name pl) σ Q:=fun s G=>by
 obtain ⟨es,n,a,I'⟩:=I.at G
 obtain ⟨h12,h3⟩:=Bool.and_eq_true_iff.mp hk
 obtain ⟨h1,h2⟩:=Bool.and_eq_true_iff.mp h12
 exact method_fn (O.kin.keeps G.base) I' (plainGet_of h1).1 (plainGet_of h1).2 (beq_iff_eq.mp h2) (beq_iff_eq.mp h3) (by show (lookIn name (dictOf es n)).map _ = _; rw [lookIn_dict,a.get,hl]; rfl) ⟨σ,h,Tr.refl G⟩
def setOk (K:Frag) (C:Addr) (name:Str):Bool:=findIn K (.ref C) "__setattr__" == some (some (.builtin "object.__setattr__")) && plainOver K C && (takerIn K C name == some none) && hasDictIn K C
theorem oSetAttr {name:Str} {v:Value} {Q:Unit→Store→Prop} (O:P.Ok) (I:IsI σ x d C l) (hl:l.lookup name = none) (hk:setOk P.K C name = true) (hz:l.length≤100)
  (h:∀ o,IsI (σ.set d o) x d C (l ++ [(name,v)])→Q () (σ.set d o)):Op P A (setAttr (.ref x) name v) σ Q:=fun s G=>by
 obtain ⟨hx,es,n,hd,a⟩:=I
 obtain ⟨h123,h4⟩:=Bool.and_eq_true_iff.mp hk
 obtain ⟨h12,h3⟩:=Bool.and_eq_true_iff.mp h123
 obtain ⟨h1,h2⟩:=Bool.and_eq_true_iff.mp h12
 obtain X:=O.kin.keeps G.base
 obtain I':InstAt s.heap x (instObj C d) C (some (dictOf es n)):=⟨G.has _ _ hx,rfl,rfl,G.has _ _ hd⟩
 refine set_plain X I' (beq_iff_eq.mp h1) (osa_open (s:={ s with toks:=s.toks + 1 }) X I' h2 (beq_iff_eq.mp h3) fun b=>?_)
 obtain ⟨cd,hc,hd'⟩:=any_some h4
 obtain D:=G.has _ _ hd
 refine wpAny_bind (wpAny_pure (wpAny_bind (wpAny_bind (wpAny_loadPart (G.has _ _ hx) (wpAny_bind (Looks.here (s:={ s with toks:=s.toks + 1 }) (looks_clsIn (M:=P.M) X hc) ?_))))))
 rw [hd']
 refine wpAny_pure (a:=some d) (wpAny_bind (wpAny_pure (wpAny_bind ?_)))
 unfold nsSet
 refine wpAny_bind (wpAny_bind (wpAny_askSetting (wpAny_pure (wpAny_bind (wpAny_mkText (wpAny_bind (wpAny_loadPart D ?_)))))))
 dsimp only
 obtain c:(!es.toArray.any (·.key.isStr name) && es.toArray.any (·.refKey)) = false:=by
  obtain hr:∀ {es:List DictEntry} {l:List (Str × Value)},Attrs es l→es.any (·.refKey) = false:=fun {es l} a=>by
   induction a with
   | nil=>rfl
   | cons _ ih=>exact ih
  simp [hr a]
 rw [aRefKeyMayBeTheName_at,c]
 refine wpAny_updatePart D ?_
 obtain e1:Obj.putName name (PyData.keyHash P.w.params name) (.str name (s.toks + 1)) v (dictOf es n) = dictOf (putL name (PyData.keyHash P.w.params name) (.str name (s.toks + 1)) v es) (putN name es n):=putName_dict ..
 obtain D':(s.heap.update d (Obj.putName name (PyData.keyHash P.w.params name) (.str name (s.toks + 1)) v)).get? d = some (dictOf (putL name (PyData.keyHash P.w.params name) (.str name (s.toks + 1)) v es) (putN name es n)):=by
  rw [← e1]; exact Heap.get?_update_self _ D (by rw [e1]; rfl)
 obtain a':=a.put (h:=PyData.keyHash P.w.params name) (t:=s.toks + 1) (v:=v) hl
 refine wpAny_bind (wpAny_lookBehind D' (pastItsLine_dict (by rw [List.size_toArray,a'.length,List.length_append,sizeLine_eq]; simp only [List.length_cons,List.length_nil]; exact z351 hz)) ?_)
 obtain hne:x≠d:=by rintro rfl; rw [hx] at hd; cases hd
 exact wpAny_pure ⟨_,h _ ⟨by rw [Store.set_ne hne]; exact hx,_,_,Store.set_same ..,a'⟩,Tr.upd G hd (Heap.SameBut.update ..) D' _⟩
def makeOk (K:Frag) (C fI:Addr):Bool:=makesIn K C && findIn K (.ref C) "__init__" == some (some (.ref fI)) && typeIn K (.ref fI) == some (.type "function")
theorem rm_make {C:Addr} {rest:List Value} {kw:List (Str × Value)} {n:Nat} (h:Rm A (n + 1)):Rm (A.under (.builtin "type.__call__" ⟨.ref C :: rest,kw⟩)) n :=
 ⟨h.handled,by have:=h.depth; exact z3 this,by have:=h.units; show A.units + 1 + _≤_; exact z352 this⟩
theorem oMake {fI:Addr} {vals:List Value} {Q:Value→Store→Prop} (O:P.Ok) (hk:makeOk P.K C fI = true)
  (h:∀ x d,σ x = none→σ d = none→x≠d→IsI ((σ.set d emptyDict).set x (instObj C d)) x d C []→COp P (A.under (.builtin "type.__call__" ⟨.ref C :: vals,[]⟩)) (.call (.ref fI) ⟨.ref x :: vals,[]⟩) ((σ.set d emptyDict).set x (instObj C d)) (fun v σ'=>v = .none∧Q (.ref x) σ')) :
  COp P A (.call (.ref C) ⟨vals,[]⟩) σ Q:=fun s G=>by
 obtain ⟨h12,h3⟩:=Bool.and_eq_true_iff.mp hk
 obtain ⟨h1,h2⟩:=Bool.and_eq_true_iff.mp h12
 obtain X:=O.kin.keeps G.base
 obtain ⟨hh,g,dr,t,os⟩:=s
 obtain T₁:=Tr.push G emptyDict rfl t
 obtain T₂:=Tr.push T₁.good (instObj C hh.objs.size) rfl t
 obtain hsz:(hh.push emptyDict).objs.size = hh.objs.size + 1:=Heap.size_push ..
 obtain n1:hh.get? hh.objs.size = none:=none_of (Nat.le_refl _)
 obtain n2:hh.get? (hh.objs.size + 1) = none:=none_of (Nat.le_succ _)
 obtain hne:hh.objs.size + 1≠hh.objs.size:=Nat.succ_ne_self _
 dsimp only at T₁ T₂
 rw [hsz] at T₂
 refine make_core (makes_of X h1) (looks_findIn X (beq_iff_eq.mp h2)) (fun self=>bind_fn X self (beq_iff_eq.mp h3)) (.inl rfl) ?_
 obtain I:IsI ((σ.set hh.objs.size emptyDict).set (hh.objs.size + 1) (instObj C hh.objs.size)) (hh.objs.size + 1) hh.objs.size C [] :=
  ⟨Store.set_same ..,[],0,by rw [Store.set_ne hne.symm]; exact Store.set_same ..,.nil⟩
 refine codeAny_mono (h _ _ (σnone G n2) (σnone G n1) hne I _ T₂.good) fun r s' ⟨v,σ',e,q,T⟩=>?_
 subst e
 exact ⟨q.1,_,σ',rfl,q.2,(T₁.trans T₂).trans T⟩
end
section
variable {P:Par} {A:Around} {env:Env} {W:List Addr} {α β:Type} {σ:Store} {m:Vars}
def Turn (again:Store→Vars→Prop) (Q:Flow→Store→Vars→Prop):Flow→Store→Vars→Prop
 | .next=>again
 | .cont=>again
 | .brk=>Q .next
 | .ret v=>Q (.ret v)
theorem xWhile {test:PySem.Expr} {body:List Stmt} {pos:Pos} {Q:Flow→Store→Vars→Prop} (I:Nat→Store→Vars→Prop) (n:Nat) (h0:I n σ m)
  (turn:∀ n σ m,I n σ m→WP P A env W (isTrue test env (eval test env)) σ m (fun b σ m=>(b = true→WP P A env W (execs body env) σ m (Turn (fun σ m=>∃ k,k < n∧I k σ m) Q))∧(b = false→Q .next σ m))) :
  WP P A env W (exec (.While test body [] pos) env) σ m Q:=fun s G F=>by
 refine wpAny_While (codeAny_whileLoop (fun n s'=>(X2 fun σ' m'=>N3 (I n σ' m') (Fm P env W σ' s'.heap m') (Tr P W σ s σ' s'))) ?_ n ⟨σ,m,h0,F,Tr.refl G⟩)
 rintro n s' ⟨σ',m',hI,F',T'⟩
 refine wpAny_mono ((turn n σ' m' hI).chain (E:=fun _ _=>False) T' F') (fun b s₁ ⟨σ₁,m₁,q,F₁,T₁⟩=>?_) fun _ _ f=>f.elim
 cases b with
 | true =>
  refine wpAny_mono ((q.1 rfl).chain (E:=fun _ _=>False) T₁ F₁) (fun f s₂ ⟨σ₂,m₂,q,F₂,T₂⟩=>?_) fun _ _ f=>f.elim
  cases f with
  | next=>obtain ⟨k,hk,q⟩:=q; exact ⟨k,hk,σ₂,m₂,q,F₂,T₂⟩
  | cont=>obtain ⟨k,hk,q⟩:=q; exact ⟨k,hk,σ₂,m₂,q,F₂,T₂⟩
  | brk=>exact ⟨σ₂,m₂,q,F₂,T₂⟩
  | ret v=>exact ⟨σ₂,m₂,q,F₂,T₂⟩
 | false=>exact wpAny_execs_nil ⟨σ₁,m₁,q.2 rfl,F₁,T₁⟩
structure Its (P:Par) (env:Env) (W wr:List Addr) (σ:Store) (s₀ s:Shared):Prop where
 un:∀ b ∈ wr,σ b = none
 new:∀ b ∈ wr,s₀.heap.get? b = none
 g:∀ b ∈ wr,P.g.get? b = none
 off:∀ b ∈ wr,b ∉ W∧b≠env.locals∧∀ x,env.cells.lookup x≠some b
 alive:∀ b ∈ wr,∃ o,s.heap.get? b = some o
theorem Its.step {W₀ wr:List Addr} {σ₀:Store} {s₀ s:Shared} {h':Heap} (J:Its P env W wr σ s₀ s) (T:Tr P W₀ σ₀ s₀ σ s) (F:Fm P env W σ s.heap m) (hk:∀ b o,b ∉ wr→s.heap.get? b = some o→h'.get? b = some o) (tk:Nat) :
  Fm P env W σ h' m∧Tr P W₀ σ₀ s₀ σ { s with heap:=h',toks:=tk }:=by
 obtain G:=T.good
 refine ⟨?_,⟨⟨fun a o e=>hk a o (fun hm=>by rw [J.un a hm] at e; cases e) (G.has a o e),fun a o e=>hk a o (fun hm=>by rw [J.g a hm] at e; exact nn e) (G.base a o e),G.own,G.gens,G.os,G.low⟩,
  fun a o hn hW e=>hk a o (fun hm=>ne_none e (J.new a hm)) (T.keep a o hn hW e),T.fresh,fun a ha=>?_⟩⟩
 ·refine lG ?_; intro G
  obtain ⟨mm,hn,hm⟩:=F.ns
  obtain hL:env.locals ∉ wr:=fun h=>(J.off _ h).2.1 rfl
  refine ⟨⟨mm,ns_of_get hn fun o e=>hk _ _ hL e,hm⟩,fun x a hc=>cell_of_get (F.cell x a hc) fun o e=>hk _ _ (fun h=>(J.off _ h).2.2 x hc) e,F.un,F.apart,F.inj,fun a ha=>?_⟩
  refine lG ?_; intro G
  obtain ⟨h1,h2,o,e⟩:=F.wr a ha
  exact ⟨h1,h2,o,hk _ _ (fun h=>(J.off _ h).1 ha) e⟩
 ·cases q:s₀.heap.get? a with
  | none=>rfl
  | some o =>
   obtain hnw:a ∉ wr:=fun hm=>ne_none q (J.new a hm)
   refine lG ?_; intro G
   cases q':s.heap.get? a with
   | none=>exact absurd (T.alive a q') (ne_none q)
   | some o'=>exact absurd ha (ne_none (hk a o' hnw q'))
theorem Its.body {wr:List Addr} {σ':Store} {s₀ s s':Shared} (J:Its P env W wr σ s₀ s) (T:Tr P W σ s σ' s'):Its P env W wr σ' s₀ s' :=
 ⟨fun b hb=>let ⟨_,e⟩:=J.alive b hb; T.gone (J.un b hb) e,J.new,J.g,J.off,fun b hb=>let ⟨o,e⟩:=J.alive b hb; ⟨o,T.keep b o (J.un b hb) (J.off b hb).1 e⟩⟩
theorem forLoop {target:PySem.Expr} {body:List Stmt} {I:Addr} {fp wr:List Addr} {n:Nat} {Pi Md:Nat→Value→Heap→Prop} {St:Nat→Heap→Prop} {Q:Flow→Store→Vars→Prop} {σ₀:Store} {s₀ s:Shared} {R:Result→Shared→Prop}
  (KT:KTurns P.prog P.w A target I fp wr n Pi Md St) (hal:∀ i h,St i h→∀ b ∈ wr,∃ o,h.get? b = some o) (fix:Addr→Obj)
  (J:Nat→Store→Vars→Prop) (hfix:∀ i σ m,J i σ m→∀ b ∈ fp,b ∉ wr→σ b = some (fix b))
  (h0:J 0 σ m) (hst:St 0 s.heap) (its:Its P env W wr σ s₀ s) (F:Fm P env W σ s.heap m) (T:Tr P W σ₀ s₀ σ s)
  (turn:∀ i v σ m s,i < n→J i σ m→Pi i v s.heap→Good P σ s→Fm P env W σ s.heap m→wpAny P.M A (assign target env v) (Post P env W σ s (fun _ σ m=>WP P A env W (execs body env) σ m (Turn (J (i + 1)) Q))) (fun _ _=>False) s)
  (fin:∀ σ m,J n σ m→Q .next σ m)
  (hR:∀ f s',Post P env W σ₀ s₀ Q f s'→R (.ok f) s'):codeAny P.M A (.forLoop target (.ref I) body [] env) R s:=by
 refine codeAny_forLoop_any
  (fun k s'=>(X3 fun i σ' m'=>N7 (k = n - i) (i≤n) (J i σ' m') (St i s'.heap) (Its P env W wr σ' s₀ s') (Fm P env W σ' s'.heap m') (Tr P W σ₀ s₀ σ' s'))) ?_ n ⟨0,σ,m,rfl,Nat.zero_le _,h0,hst,its,F,T⟩
 rintro k s' ⟨i,σ',m',rfl,hi,hJ,hst',its',F',T'⟩
 by_cases hlt:i < n
 ·refine KT.item i s' _ _ hlt hst' fun v h₁ tk₁ hMd hk₁=>?_
  refine KT.go i v _ _ _ hMd fun h₂ hP hst₂ hk₂=>?_
  obtain ⟨F₂,T₂⟩:=its'.step T' F' (fun b o hb e=>hk₂ b o hb (hk₁ b o hb e)) tk₁
  have its₂:Its P env W wr σ' s₀ { s' with heap:=h₂,toks:=tk₁ }:=⟨its'.un,its'.new,its'.g,its'.off,fun b hb=>hal _ _ hst₂ b hb⟩
  refine wpAny_mono (turn i v σ' m' _ hlt hJ hP T₂.good F₂) (fun _ s₃ ⟨σ₃,m₃,q,F₃,T₃⟩=>?_) fun _ _ f=>f.elim
  refine wpAny_mono (q s₃ T₃.good F₃) (fun f s₄ ⟨σ₄,m₄,q,F₄,T₄⟩=>?_) fun _ _ f=>f.elim
  have T₂₄:=T₃.trans T₄
  have again:J (i + 1) σ₄ m₄→∃ k,k < n - i∧(X3 fun i σ' m'=>N7 (k = n - i) (i≤n) (J i σ' m') (St i s₄.heap) (Its P env W wr σ' s₀ s₄) (Fm P env W σ' s₄.heap m') (Tr P W σ₀ s₀ σ' s₄)):=fun hJ' =>
   ⟨n - (i + 1),(z370 hlt),i + 1,σ₄,m₄,rfl,hlt,hJ',KT.frame _ _ _ hst₂ (fun b hb o e=>by
    by_cases hw:b ∈ wr
    ·exact T₂₄.keep b o (its₂.un b hw) (its₂.off b hw).1 e
    ·have e1:=T₂.good.has _ _ (hfix i σ' m' hJ b hb hw)
     rw [e] at e1
     cases e1
     exact T₄.good.has _ _ (hfix (i + 1) σ₄ m₄ hJ' b hb hw)),its₂.body T₂₄,F₄,T₂.trans T₂₄⟩
  cases f with
  | next=>exact again q
  | cont=>exact again q
  | brk=>exact hR _ _ ⟨σ₄,m₄,q,F₄,T₂.trans T₂₄⟩
  | ret v=>exact hR _ _ ⟨σ₄,m₄,q,F₄,T₂.trans T₂₄⟩
 ·have:i = n:=(z371 hi hlt)
  subst this
  refine KT.done s' _ _ hst' fun h₁ tk₁ hk₁=>wpAny_execs_nil ?_
  obtain ⟨F₁,T₁⟩:=its'.step T' F' hk₁ tk₁
  exact hR _ _ ⟨σ',m',fin _ _ hJ,F₁,T₁⟩
end
theorem isList_of {h:Heap} {l:Addr} {vs:List Value} {k:Nat} (e:h.get? l = some (lst vs k)):h.IsList l vs.toArray:=⟨_,e,rfl,k,rfl⟩
theorem isTuple_of {h:Heap} {l:Addr} {vs:List Value} {k:Nat} (e:h.get? l = some (tup vs k)):h.IsTuple l vs.toArray:=⟨_,e,rfl,k,rfl⟩
section
variable {P:Par} {A:Around} {env:Env} {W:List Addr} {α β:Type} {σ:Store} {m:Vars}
theorem its_new {s:Shared} {o:Obj} (hf:o.isFreed = false) (G:Good P σ s) (F:Fm P env W σ s.heap m):Its P env W [s.heap.objs.size] σ s { s with heap:=s.heap.push o }:=by
 have hn:s.heap.get? s.heap.objs.size = none:=none_of (Nat.le_refl _)
 refine ⟨fun b hb=>?_,fun b hb=>?_,fun b hb=>?_,fun b hb=>?_,fun b hb=>?_⟩ <;> (rw [List.mem_singleton] at hb; subst hb)
 ·exact σnone G hn
 ·exact hn
 ·exact gnone G hn
 ·refine ⟨fun h=>?_,fun h=>?_,fun x h=>?_⟩
  ·obtain ⟨_,_,o,e⟩:=F.wr _ h; rw [hn] at e; exact nn e
  ·obtain ⟨_,⟨o,_,_,e,_⟩,_⟩:=F.ns; rw [← h,hn] at e; exact nn e
  ·obtain ⟨o,e,_⟩:=F.cell x _ h; rw [hn] at e; exact nn e
 ·exact ⟨o,Heap.get?_push_size _ hf⟩
theorem Tr.push0 {s:Shared} (G:Good P σ s) (o:Obj):Tr P W σ s σ { s with heap:=s.heap.push o }:=Tr.kept (tk:=s.toks) G fun _ _ e=>Heap.get?_push_of_some _ e
theorem Fm.kept {s:Shared} {h':Heap} (F:Fm P env W σ s.heap m) (k:∀ b o,s.heap.get? b = some o→h'.get? b = some o):Fm P env W σ h' m:=by
 obtain ⟨mm,hn,hm⟩:=F.ns
 exact ⟨⟨mm,hn.keeps k,hm⟩,fun x a h=>(F.cell x a h).keeps k,F.un,F.apart,F.inj,fun a h=>let ⟨h1,h2,o,e⟩:=F.wr a h; ⟨h1,h2,o,k _ _ e⟩⟩
abbrev rng (a b c:Int) (t u v:Tok):Obj:={ cls:=.type "range",dict:=none,data:=.fields #[.int a t,.int b u,.int c v],slots:=#[] }
end
section
variable {P:Par} {A:Around} {env:Env} {W:List Addr} {α β:Type} {σ:Store} {m:Vars}
def compTests (ifs:List PySem.Expr) (env:Env):Sem Bool:=forIn ifs true fun c r=>if r = true then do let ok ← isTrue c env (eval c env); pure (ForInStep.yield ok) else pure (ForInStep.yield r)
def compInner (e elt:PySem.Expr) (gens:List Comprehension) (depth:Nat) (acc:Value) (env:Env):Sem Unit :=
 match gens[depth + 1]? with
 | some g'=>do
  let x ← eval g'.iter env
  standAt g'.iter.pos
  let x ← foldedSetIterable g'.iter env x
  let it ← holding [x] (pyIter x)
  let _ ← runOwn (.compStart e (depth + 1) it acc env) env
 | none=>do let _ ← call (.builtin "list.append") [acc,← eval elt env]
theorem compTurn_list {elt:PySem.Expr} {gens:List Comprehension} {scope:Scope} {pos:Pos} {depth:Nat} {it acc:Value} {env:Env} {target iter:PySem.Expr} {ifs:List PySem.Expr} {M:Model} {Q:PySem.Fin→Shared→Prop} {E:Value→Shared→Prop} {s:Shared}
  (hg:gens[depth]? = some ⟨target,iter,ifs,0⟩) (hsync:∀ g',gens[depth + 1]? = some g'→g'.is_async = 0)
  (h:wpAny M A (pyNext it) (fun r s₁=>match r with
   | none=>Q (.done .next) s₁
   | some v=>wpAny M A (letOwnedTupleGo target it v) (fun _ s₂=>wpAny M A (assign target env v) (fun _ s₃=>wpAny M A (compTests ifs env) (fun ok s₄ =>
     (ok = true→wpAny M A (compInner (.ListComp elt gens scope pos) elt gens depth acc env) (fun _ s₅=>Q (.again (.compLoop (.ListComp elt gens scope pos) depth it acc env)) s₅) E s₄) ∧
     (ok = false→Q (.again (.compLoop (.ListComp elt gens scope pos) depth it acc env)) s₄)) E s₃) E s₂) E s₁) E s) :
  wpAny M A (compTurn (.ListComp elt gens scope pos) depth it acc env) Q E s:=by
 unfold compTurn
 dsimp only
 rw [hg]
 dsimp only
 refine wpAny_bind (wpAny_standAt (wpAny_bind (wpAny_mono h (fun r s₁ h₁=>?_) fun _ _ x=>x)))
 cases r with
 | none=>exact wpAny_pure h₁
 | some v =>
  refine wpAny_bind (wpAny_mono h₁ (fun _ s₂ h₂=>wpAny_bind (wpAny_mono h₂ (fun _ s₃ h₃=>wpAny_bind (wpAny_mono h₃ (fun ok s₄ h₄=>?_) fun _ _ x=>x)) fun _ _ x=>x)) fun _ _ x=>x)
  cases ok with
  | false=>exact wpAny_pure (h₄.2 rfl)
  | true =>
   obtain hq:=wpAny_bind (f:=fun _=>again (.compLoop (.ListComp elt gens scope pos) depth it acc env)) (wpAny_mono (h₄.1 rfl) (fun _ _ q=>wpAny_pure q) fun _ _ x=>x)
   unfold compInner at hq
   rw [if_pos rfl]
   split
   ·rename_i g' q
    rw [q] at hq
    obtain ha:(g'.is_async != 0) = false:=by rw [hsync g' q]; rfl
    simp only [bind_assoc,pure_bind,ha,Bool.false_eq_true,if_false] at hq ⊢
    exact hq
   ·rename_i q
    rw [q] at hq
    exact hq
theorem compLoop {W₀:List Addr} {elt:PySem.Expr} {gens:List Comprehension} {scope:Scope} {pos:Pos} {depth:Nat} {target iter:PySem.Expr} {ifs:List PySem.Expr} {acc:Value} {I:Addr} {fp wr:List Addr} {n:Nat} {Pi Md:Nat→Value→Heap→Prop} {St:Nat→Heap→Prop}
  {K:Store→Vars→Prop} {σ₀:Store} {s₀ s:Shared} {R:Result→Shared→Prop}
  (hg:gens[depth]? = some ⟨target,iter,ifs,0⟩) (hsync:∀ g',gens[depth + 1]? = some g'→g'.is_async = 0)
  (KT:KTurns P.prog P.w A target I fp wr n Pi Md St) (hal:∀ i h,St i h→∀ b ∈ wr,∃ o,h.get? b = some o) (fix:Addr→Obj)
  (J:Nat→Store→Vars→Prop) (hfix:∀ i σ m,J i σ m→∀ b ∈ fp,b ∉ wr→σ b = some (fix b))
  (h0:J 0 σ m) (hst:St 0 s.heap) (its:Its P env W wr σ s₀ s) (F:Fm P env W σ s.heap m) (T:Tr P W₀ σ₀ s₀ σ s)
  (turn:∀ i v σ m s,i < n→J i σ m→Pi i v s.heap→Good P σ s→Fm P env W σ s.heap m→wpAny P.M A (assign target env v) (Post P env W σ s (fun _ σ m=>WP P A env W (compTests ifs env) σ m (fun ok σ m =>
   (ok = true→WP P A env W (compInner (.ListComp elt gens scope pos) elt gens depth acc env) σ m (fun _ σ m=>J (i + 1) σ m))∧(ok = false→J (i + 1) σ m)))) (fun _ _=>False) s)
  (fin:∀ σ m,J n σ m→K σ m)
  (hR:∀ σ' m' s',K σ' m'→Fm P env W σ' s'.heap m'→Tr P W₀ σ₀ s₀ σ' s'→R (.ok .next) s') (hW₀:∀ a ∈ W,a ∈ W₀:=by exact fun _ h=>h):codeAny P.M A (.compLoop (.ListComp elt gens scope pos) depth (.ref I) acc env) R s:=by
 refine codeAny_loop rfl
  (fun k s'=>(X3 fun i σ' m'=>N7 (k = n - i) (i≤n) (J i σ' m') (St i s'.heap) (Its P env W wr σ' s₀ s') (Fm P env W σ' s'.heap m') (Tr P W₀ σ₀ s₀ σ' s'))) ?_ n ⟨0,σ,m,rfl,Nat.zero_le _,h0,hst,its,F,T⟩
 rintro k s' ⟨i,σ',m',rfl,hi,hJ,hst',its',F',T'⟩
 show wpAny _ A ((compTurn (.ListComp elt gens scope pos) depth (.ref I) acc env).onRaise (fun x=>do noteFrame x env; theTreesLotGoes x)) _ _ s'
 refine wpAny_noted (compTurn_list hg hsync ?_)
 by_cases hlt:i < n
 ·refine KT.item i s' _ _ hlt hst' fun v h₁ tk₁ hMd hk₁=>?_
  refine KT.go i v _ _ _ hMd fun h₂ hP hst₂ hk₂=>?_
  obtain ⟨F₂,T₂⟩:=its'.step T' F' (fun b o hb e=>hk₂ b o hb (hk₁ b o hb e)) tk₁
  have its₂:Its P env W wr σ' s₀ { s' with heap:=h₂,toks:=tk₁ }:=⟨its'.un,its'.new,its'.g,its'.off,fun b hb=>hal _ _ hst₂ b hb⟩
  refine wpAny_mono (turn i v σ' m' _ hlt hJ hP T₂.good F₂) (fun _ s₃ ⟨σ₃,m₃,q,F₃,T₃⟩=>?_) fun _ _ f=>f.elim
  have again:∀ {σ₄ m₄ s₄},J (i + 1) σ₄ m₄→Fm P env W σ₄ s₄.heap m₄→Tr P W σ' { s' with heap:=h₂,toks:=tk₁ } σ₄ s₄→∃ k,k < n - i∧(X3 fun i σ' m'=>N7 (k = n - i) (i≤n) (J i σ' m') (St i s₄.heap) (Its P env W wr σ' s₀ s₄) (Fm P env W σ' s₄.heap m') (Tr P W₀ σ₀ s₀ σ' s₄)):=fun {σ₄ m₄ s₄} hJ' F₄ T₂₄ =>
   ⟨n - (i + 1),(z370 hlt),i + 1,σ₄,m₄,rfl,hlt,hJ',KT.frame _ _ _ hst₂ (fun b hb o e=>by
    refine lG ?_; intro G
    by_cases hw:b ∈ wr
    ·exact T₂₄.keep b o (its₂.un b hw) (its₂.off b hw).1 e
    ·have e1:=T₂.good.has _ _ (hfix i σ' m' hJ b hb hw)
     rw [e] at e1
     refine lG ?_; intro G
     cases e1
     exact T₂₄.good.has _ _ (hfix (i + 1) σ₄ m₄ hJ' b hb hw)),its₂.body T₂₄,F₄,T₂.trans (T₂₄.wider hW₀)⟩
  refine wpAny_mono (q s₃ T₃.good F₃) (fun ok s₄ ⟨σ₄,m₄,q,F₄,T₄⟩=>⟨fun hok=>?_,fun hok=>⟨rfl,again (q.2 hok) F₄ (T₃.trans T₄)⟩⟩) fun _ _ f=>f.elim
  exact wpAny_mono (q.1 hok s₄ T₄.good F₄) (fun _ s₅ ⟨σ₅,m₅,q,F₅,T₅⟩=>⟨rfl,again q F₅ ((T₃.trans T₄).trans T₅)⟩) fun _ _ f=>f.elim
 ·have:i = n:=(z371 hi hlt)
  subst this
  refine KT.done s' _ _ hst' fun h₁ tk₁ hk₁=>?_
  refine lG ?_; intro G
  obtain ⟨F₁,T₁⟩:=its'.step T' F' hk₁ tk₁
  exact hR _ _ _ (fin _ _ hJ) F₁ T₁
theorem compStart_any {elt:PySem.Expr} {gens:List Comprehension} {scope:Scope} {pos:Pos} {depth:Nat} {target iter:PySem.Expr} {ifs:List PySem.Expr} {acc it:Value} {R:Result→Shared→Prop} {s:Shared}
  (hg:gens[depth]? = some ⟨target,iter,ifs,0⟩) (hself:∀ (Q:Value→Shared→Prop) (E:Value→Shared→Prop),Q it s→wpAny P.M A (pyIter it) Q E s)
  (h:codeAny P.M A (.compLoop (.ListComp elt gens scope pos) depth it acc env) R s):codeAny P.M A (.compStart (.ListComp elt gens scope pos) depth it acc env) R s:=by
 refine codeAny_of_tree ?_
 show wpAny _ A ((compStart (.ListComp elt gens scope pos) depth it acc env).onRaise (fun x=>do noteFrame x env; standAt theWindowsPlace)) _ _ s
 refine wpAny_notedAt ?_
 unfold compStart
 obtain e1:(((clausesOf (.ListComp elt gens scope pos))[depth]?).elim false (·.is_async != 0)) = false:=by show (gens[depth]?).elim false _ = false; rw [hg]; rfl
 rw [e1,if_neg (by decide)]
 have e2:(clausesOf (.ListComp elt gens scope pos))[depth]? = some ⟨target,iter,ifs,0⟩:=hg
 rw [e2]
 refine wpAny_bind (wpAny_askSetting (wpAny_ite ?_))
 split
 ·exact wpAny_bind (wpAny_pure (wpAny_pure (And.intro rfl h)))
 ·exact wpAny_bind (wpAny_rule (wpAny_bind (wpAny_standAt (wpAny_bind (hself _ _ (wpAny_pure (And.intro rfl h)))))))
end
section
variable {P:Par} {A:Around} {env:Env} {W:List Addr} {α β:Type} {σ:Store} {m:Vars}
structure IterAt (P:Par) (A:Around) (I:Addr) (n:Nat) (Pi:Nat→Value→Prop) (fx:List (Addr × Obj)) (St:Nat→Heap→Prop):Prop where
 kt:∀ target,KTurns P.prog P.w A target I (I :: fx.map (·.1)) [I] n (fun i v _=>Pi i v) (fun i v h=>Pi i v∧St (i + 1) h) St
 alive:∀ i h,St i h→∃ o,h.get? I = some o
 self:∀ i (s:Shared) (Q:Value→Shared→Prop) (E:Value→Shared→Prop),St i s.heap→Q (.ref I) s→wpAny P.M A (pyIter (.ref I)) Q E s
def Src (P:Par) (A:Around) (x:Value) (n:Nat) (Pi:Nat→Value→Prop) (fx:List (Addr × Obj)):Prop :=
 ∀ (s:Shared) (R:Value→Shared→Prop) (E:Value→Shared→Prop),(∀ p ∈ fx,s.heap.get? p.1 = some p.2) →
  (∀ o St,o.isFreed = false→IterAt P A s.heap.objs.size n Pi fx St→St 0 (s.heap.push o)→R (.ref s.heap.objs.size) { s with heap:=s.heap.push o })→wpAny P.M A (pyIter x) R E s
def ownedIters:List String:=["enumerate","zip","dict_itemiterator","dict_reverseitemiterator","odict_iterator","itertools.zip_longest","itertools.pairwise"]
theorem notOwned {s:Shared} {E:Value→Shared→Prop} {target:PySem.Expr} {I:Addr} {v:Value} {Q:Unit→Shared→Prop} {o:Obj} {c:String} {vs:Array Value} (ho:s.heap.get? I = some o) (hc:o.cls = .type c) (hd:o.data = .fields vs) (hn:ownedIters.contains c = false)
  (hQ:Q () s):wpAny P.M A (letOwnedTupleGo target (.ref I) v) Q E s:=by
 have key:∀ a,wpAny P.M A (do
   let o ← load I
   match o.cls,o.data with
   | .type n,.fields vs =>
    if ["enumerate","zip","dict_itemiterator","dict_reverseitemiterator","odict_iterator","itertools.zip_longest","itertools.pairwise"].contains n && vs[0]? == some (rawInt a) then
     rule "for.unpacks-the-owned-tuple"
     updateField I 0 .none
   | _,_=>pure ()) Q E s:=fun a=>by
  refine wpAny_bind (wpAny_load ho ?_)
  rw [hc,hd]
  show wpAny _ A (if (ownedIters.contains c && vs[0]? == some (rawInt a)) = true then _ else _) Q E s
  rw [hn,Bool.false_and,if_neg (by decide)]
  exact wpAny_pure hQ
 unfold letOwnedTupleGo
 split
 ·cases v <;> first | exact key _ | exact wpAny_pure hQ
 ·cases v <;> first | exact key _ | exact wpAny_pure hQ
 ·exact wpAny_pure hQ
theorem src_list {l:Addr} {vs:List Value} {k:Nat} (hh:A.handled = none):Src P A (.ref l) vs.length (fun i v=>vs[i]? = some v) [(l,lst vs k)]:=fun s R E hfx hR=>by
 obtain el:=hfx _ (.head _)
 obtain hlt:l≠s.heap.objs.size:=Nat.ne_of_lt (Heap.lt_size el)
 obtain KW:=Walks.list (prog:=P.prog) (w:=P.w) hh s.heap.objs.size l hlt vs.toArray
 rw [List.size_toArray] at KW
 simp only [List.getElem?_toArray] at KW
 refine wpAny_pyIter_list (isList_of el) (hR _ (fun i h=>h.IsListIter s.heap.objs.size l i∧h.IsList l vs.toArray) rfl ⟨fun target=>KTurns.ofWalks KW fun i v s' R E st r=>?_,fun i h st=>let ⟨o,e,_⟩:=st.1; ⟨o,e⟩,fun i s Q E st q=>wpAny_pyIter_listiter st.1 q⟩ ⟨⟨_,Heap.get?_push_size _ rfl,rfl,rfl⟩,isList_of (Heap.get?_push_of_some _ el)⟩)
 refine lG ?_; intro G
 obtain ⟨o,ho,hc,hd⟩:=st.1
 exact notOwned ho hc hd (by decide) r
theorem src_tuple {l:Addr} {vs:List Value} {k:Nat} (hh:A.handled = none):Src P A (.ref l) vs.length (fun i v=>vs[i]? = some v) [(l,tup vs k)]:=fun s R E hfx hR=>by
 have el:=hfx _ (.head _)
 have hlt:l≠s.heap.objs.size:=Nat.ne_of_lt (Heap.lt_size el)
 have KW:=Walks.tuple (prog:=P.prog) (w:=P.w) hh s.heap.objs.size l hlt vs.toArray
 rw [List.size_toArray] at KW
 simp only [List.getElem?_toArray] at KW
 refine wpAny_pyIter_tuple (isTuple_of el) (hR _ (fun i h=>h.IsTupleIter s.heap.objs.size l i∧h.IsTuple l vs.toArray) rfl ⟨fun target=>KTurns.ofWalks KW fun i v s' R E st r=>?_,fun i h st=>let ⟨o,e,_⟩:=st.1; ⟨o,e⟩,fun i s Q E st q=>wpAny_pyIter_tupleiter st.1 q⟩ ⟨⟨_,Heap.get?_push_size _ rfl,rfl,rfl⟩,isTuple_of (Heap.get?_push_of_some _ el)⟩)
 obtain ⟨o,ho,hc,hd⟩:=st.1
 exact notOwned ho hc hd (by decide) r
theorem src_range {r:Addr} {n:Nat} {t u v:Tok} (hh:A.handled = none) (hn:n≤1000000):Src P A (.ref r) n (fun i v=>∃ t,v = .int i t) [(r,rng 0 n 1 t u v)]:=fun s R E hfx hR=>by
 obtain el:=hfx _ (.head _)
 obtain hsz:Builtin.Range.rangeSize 0 n 1 = (n:Int):=by rw [rangeSize_one]; split <;> omega
 obtain hsm:Builtin.Range.small 0 n 1 = true:=by
  unfold Builtin.Range.small
  rw [hsz]
  have f:∀ k:Int,0≤k→k≤1000001→Builtin.Range.rangeFitsLong k = true:=fun k h1 h2=>by
   unfold Builtin.Range.rangeFitsLong
   rw [Bool.and_eq_true,decide_eq_true_eq,decide_eq_true_eq]; omega
  rw [f 0 z311 z312,f n z7 (z313 hn),f 1 z314 z315,if_pos (by decide),f (n + (1 - 1)) z316 (z317 hn)]
  simp
 have KW:=Walks.range (prog:=P.prog) (w:=P.w) hh s.heap.objs.size 0 1 n
 simp only [Int.mul_one,Int.zero_add] at KW
 have KW':Walks P.prog P.w A s.heap.objs.size [s.heap.objs.size,r] [s.heap.objs.size] n (fun i v=>∃ t,v = .int i t) (fun i h=>IsRangeIter h s.heap.objs.size (i:Nat) ((n:Int) - (i:Nat)) 1) :=
  ⟨fun b hb=>by rw [List.mem_singleton] at hb; subst hb; exact .head _,fun i h h' st hk=>hk _ (.head _) _ st,KW.item,KW.done,KW.self⟩
 refine wpAny_pyIter_range (t:=t) (u:=u) (v:=v) el hsm (hR _ (fun i h=>IsRangeIter h s.heap.objs.size (i:Nat) ((n:Int) - (i:Nat)) 1) rfl ⟨fun target=>KTurns.ofWalks KW' fun i v s' R E st r=>?_,fun i h st=>⟨_,st⟩,KW'.self⟩ ?_)
 ·exact notOwned st rfl rfl (by decide) r
 ·rw [hsz,show ((n:Int) - ((0:Nat):Int)) = n by exact z468]
  exact Heap.get?_push_size _ rfl
def fixOf (fx:List (Addr × Obj)) (a:Addr):Obj:=(fx.lookup a).getD default
theorem fixOf_mem {σ:Store}:∀ {fx:List (Addr × Obj)},(∀ p ∈ fx,σ p.1 = some p.2)→∀ b ∈ fx.map (·.1),σ b = some (fixOf fx b)
 | [],_,b,hb=>by cases hb
 | (a,o) :: r,h,b,hb=>by
  unfold fixOf
  rw [List.lookup_cons]
  by_cases q:b = a
  ·subst q; rw [beq_self_eq_true]; exact h _ (.head _)
  ·rw [beq_eq_false_iff_ne.mpr q]
   rcases List.mem_cons.mp hb with rfl | hb
   ·exact absurd rfl q
   ·exact fixOf_mem (fun p hp=>h p (.tail _ hp)) b hb
noncomputable def Tests (P:Par) (A:Around) (env:Env) (W:List Addr):List PySem.Expr→Store→Vars→(Bool→Store→Vars→Prop)→Prop
 | [],σ,m,Q=>Q true σ m
 | c :: r,σ,m,Q=>WP P A env W (isTrue c env (eval c env)) σ m (fun b σ m=>(b = true→Tests P A env W r σ m Q)∧(b = false→Q false σ m))
theorem tests_false:∀ {ifs:List PySem.Expr} {σ:Store} {m:Vars} {Q:Bool→Store→Vars→Prop},Q false σ m→WP P A env W (forIn ifs false fun c r=>if r = true then do let ok ← isTrue c env (eval c env); pure (ForInStep.yield ok) else pure (ForInStep.yield r)) σ m Q
 | [],_,_,_,h=>by rw [List.forIn_nil]; exact xPure h
 | c :: r,_,_,_,h=>by
  rw [List.forIn_cons]
  exact xBind (xPure (tests_false h))
theorem xTests:∀ {ifs:List PySem.Expr} {σ:Store} {m:Vars} {Q:Bool→Store→Vars→Prop},Tests P A env W ifs σ m Q→WP P A env W (compTests ifs env) σ m Q
 | [],_,_,_,h=>by unfold compTests; rw [List.forIn_nil]; exact xPure h
 | c :: r,σ,m,Q,h=>by
  unfold compTests
  rw [List.forIn_cons]
  refine xBind (xBind (WP.mono h fun b σ m q=>xPure ?_))
  cases b with
  | true=>exact xTests (q.1 rfl)
  | false=>exact tests_false (q.2 rfl)
theorem closure_cells {scope:Scope} {env:Env} {cl:List (Str × Addr)} (h:closureFor scope env = pure cl):∀ p ∈ cl,env.cells.lookup p.1 = some p.2:=by
 unfold closureFor at h
 obtain gen:∀ (names:List (Str × NameKind)) (acc cl:List (Str × Addr)),(∀ p ∈ acc,env.cells.lookup p.1 = some p.2) →
   (forIn names acc (fun (x:Str × NameKind) (cs:List (Str × Addr))=>(if (x.2 == .free) = true then (do let a ← cellOf env x.1; pure (.yield ((x.1,a) :: cs))) else pure (.yield cs):Sem (ForInStep (List (Str × Addr)))))) = (pure cl:Sem _)→∀ p ∈ cl,env.cells.lookup p.1 = some p.2:=by
  intro names
  induction names with
  | nil=>intro acc cl ha e; rw [List.forIn_nil] at e; cases e; exact ha
  | cons x r ih =>
   intro acc cl ha e
   rw [List.forIn_cons] at e
   by_cases hk:(x.2 == NameKind.free) = true
   ·rw [if_pos hk] at e
    unfold cellOf at e
    cases q:env.cells.lookup x.1 with
    | none=>rw [q] at e; cases e
    | some a =>
     rw [q] at e
     exact ih ((x.1,a) :: acc) cl (fun p hp=>by rcases List.mem_cons.mp hp with rfl | hp; exact q; exact ha p hp) e
   ·rw [if_neg hk] at e
    exact ih acc cl ha e
 refine gen scope.names [] cl (fun p hp=>by cases hp) ?_
 have e:=h
 simp only [bind_pure] at e
 exact e
end
def compVars (cl:List (Str × Addr)) (m:Vars):Vars:=fun x=>if (cl.lookup x).isSome = true then m x else none
structure CompOk (env:Env) (scope:Scope) (cl:List (Str × Addr)):Prop where
 clos:closureFor scope env = pure cl
 cell:(scope.names.all fun y=>y.2 != .cell) = true
 kind:scope.kind = .function
 names:(scope.names.all fun y=>y.2 != .local || scope.names.lookup y.1 == some .local) = true
 apart:(scope.names.all fun y=>y.2 != .local || (cl.lookup y.1).isNone) = true
section
variable {P:Par} {A:Around} {env:Env} {W:List Addr} {α β:Type} {σ:Store} {m:Vars}
theorem Tr.tail {W':List Addr} {σ':Store} {s s':Shared} {C:Addr} {h':Heap} (T:Tr P W' σ s σ' s') (hs:Heap.SameBut C s'.heap h') (hC:s.heap.get? C = none) (hσ:σ' C = none) (hg:P.g.get? C = none:=by first | exact gnone ‹_› ‹_› | assumption):Tr P W' σ s σ' { s' with heap:=h' } :=
 ⟨⟨fun a o e=>(hs.2 a fun q=>by rw [q,hσ] at e; cases e).trans (T.good.has a o e),fun a o e=>(hs.2 a fun q=>by rw [q,hg] at e; cases e).trans (T.good.base a o e),T.good.own,T.good.gens,T.good.os,T.good.low⟩,
  fun a o hn hw e=>(hs.2 a fun q=>by rw [q,hC] at e; cases e).trans (T.keep a o hn hw e),T.fresh,fun a ha=>by
  by_cases q:a = C
  ·rw [q]; exact hC
  ·exact T.alive a ((hs.2 a q) ▸ ha)⟩
theorem relabel_local {names:List (Str × NameKind)} {f:Str→Bool} {x:Str}:(names.map fun (y:Str × NameKind)=>if (y.2 == NameKind.free && f y.1) = true then (y.1,NameKind.cell) else (y.1,y.2)).lookup x = some .local→(x,NameKind.local) ∈ names:=by
 intro h
 have:=mem_of_lookup h
 refine lG ?_; intro G
 obtain ⟨⟨y,k⟩,hm,e⟩:=List.mem_map.mp this
 dsimp only at e
 split at e
 ·cases e
 ·cases e; exact hm
theorem comp_frame {scope:Scope} {cl:List (Str × Addr)} {C:Addr} {h':Heap} {s:Shared} (ok:CompOk env scope cl) (G:Good P σ s) (F:Fm P env W σ s.heap m) (hC:s.heap.get? C = none) {σ':Store} (hσ:∀ a,σ a = none→s.heap.get? a≠none→σ' a = none) (hσC:σ' C = none)
  (hn:h'.Ns C (fun _=>none)) (k:∀ b o,s.heap.get? b = some o→h'.get? b = some o):Fm P (compEnvC scope cl C env) [C] σ' h' (compVars cl m):=by
 obtain hcl:=closure_cells ok.clos
 obtain hin:∀ x a,cl.lookup x = some a→env.cells.lookup x = some a:=fun x a e=>hcl (x,a) (mem_of_lookup e)
 refine ⟨⟨_,hn,fun x hx=>?_⟩,fun x a e=>?_,fun a ha=>?_,fun x e=>?_,fun x y a e e'=>F.inj x y a (hin x a e) (hin y a e'),fun a ha=>?_⟩
 ·obtain hx':(x,NameKind.local) ∈ scope.names:=by
   have:(scope.names.map fun (y:Str × NameKind)=>if (y.2 == NameKind.free && (env.scope.kind == .function && env.kindOf y.1 == some .cell)) = true then (y.1,NameKind.cell) else (y.1,y.2)).lookup x = some .local:=by
    obtain e:(compEnvC scope cl C env).kindOf x = (scope.names.map fun (n,k)=>if (k == NameKind.free && env.scope.kind == .function && env.kindOf n == some .cell) = true then (n,NameKind.cell) else (n,k)).lookup x:=rfl
    rw [e] at hx
    simpa only [Bool.and_assoc] using hx
   exact relabel_local (f:=fun z=>env.scope.kind == .function && env.kindOf z == some .cell) this
  have:=List.all_eq_true.mp ok.apart _ hx'
  obtain h2:(cl.lookup x).isNone = true:=by simpa using this
  show none = if (cl.lookup x).isSome = true then m x else none
  rw [if_neg]
  rw [Option.isNone_iff_eq_none] at h2
  rw [h2]; decide
 ·show h'.IsCell a (if (cl.lookup x).isSome = true then m x else none)
  rw [show cl.lookup x = some a from e]
  exact (F.cell x a (hin x a e)).keeps k
 ·rcases ha with rfl | ⟨x,e⟩
  ·exact ⟨hσC,gnone G hC⟩
  ·obtain u:=F.un a (.inr ⟨x,hin x a e⟩)
   refine lG ?_; intro G
   obtain ⟨o,e',_⟩:=F.cell x a (hin x a e)
   exact ⟨hσ a u.1 (ne_none e'),u.2⟩
 ·obtain ⟨o,e',_⟩:=F.cell x _ (hin x _ e)
  rw [show s.heap.get? (compEnvC scope cl C env).locals = none from hC] at e'; cases e'
 ·rw [List.mem_singleton] at ha; subst ha
  exact ⟨gnone G hC,hσC,let ⟨o,_,_,e,_⟩:=hn; ⟨o,e⟩⟩
theorem namesOk {scope:Scope} (h:(scope.names.all fun y=>y.2 != .local || scope.names.lookup y.1 == some .local) = true):∀ x ∈ scope.names,x.2 = .local→scope.names.lookup x.1 = some .local:=fun x hx hl=>by
 have:=List.all_eq_true.mp h x hx
 rw [hl] at this
 simpa using this
end
section
variable {P:Par} {A:Around} {env:Env} {W:List Addr} {α β:Type} {σ:Store} {m:Vars}
theorem oLt {a b:Int} {t u:Tok} {Q:Value→Store→Prop} (h:Q (.bool (decide (a < b))) σ):Op P A (compareOp .Lt (.int a t) (.int b u)) σ Q:=oStill (fun _ _ _ _ r=>PySem.P.lt_int r) h
theorem oEq {a b:Int} {t u:Tok} {Q:Value→Store→Prop} (h:Q (.bool (a == b)) σ):Op P A (compareOp .Eq (.int a t) (.int b u)) σ Q:=oStill (fun _ _ _ _ r=>PySem.P.eq_int r) h
theorem oNe {a b:Int} {t u:Tok} {Q:Value→Store→Prop} (h:Q (.bool (a != b)) σ):Op P A (compareOp .NotEq (.int a t) (.int b u)) σ Q:=oStill (fun _ _ _ _ r=>PySem.P.ne_int r) h
theorem oGt {a b:Int} {t u:Tok} {Q:Value→Store→Prop} (h:Q (.bool (decide (a > b))) σ):Op P A (compareOp .Gt (.int a t) (.int b u)) σ Q:=oStill (fun _ _ _ _ r=>PySem.P.gt_int r) h
theorem oLe {a b:Int} {t u:Tok} {Q:Value→Store→Prop} (h:Q (.bool (decide (a≤b))) σ):Op P A (compareOp .LtE (.int a t) (.int b u)) σ Q:=oStill (fun _ _ _ _ r=>PySem.P.le_int r) h
theorem oAdd {a b:Int} {t u:Tok} {Q:Value→Store→Prop} (h:∀ t,Q (.int (a + b) t) σ):Op P A (binaryOp .Add (.int a t) (.int b u)) σ Q:=fun _ G=>PySem.P.add_int ⟨σ,h _,Tr.toks G _⟩
theorem oSub {a b:Int} {t u:Tok} {Q:Value→Store→Prop} (h:∀ t,Q (.int (a - b) t) σ):Op P A (binaryOp .Sub (.int a t) (.int b u)) σ Q:=fun _ G=>PySem.P.sub_int ⟨σ,h _,Tr.toks G _⟩
theorem oMul {a b:Int} {t u:Tok} {Q:Value→Store→Prop} (hm:-(2 ^ 64) < a∧a < 2 ^ 64) (h:∀ t,Q (.int (a * b) t) σ):Op P A (binaryOp .Mult (.int a t) (.int b u)) σ Q:=fun _ G=>PySem.P.mul_int ⟨σ,h _,Tr.toks G _⟩ (IntMulOk.of_left (intBits_le_64 hm.1 hm.2))
theorem oMod {a b:Int} {t u:Tok} {Q:Value→Store→Prop} (hb:¬(b == 0) = true) (h:∀ t,Q (.int (a.fmod b) t) σ):Op P A (binaryOp .Mod (.int a t) (.int b u)) σ Q:=fun _ G=>AutoIntOps.mod_1 hb ⟨σ,h _,Tr.toks G _⟩
theorem oNeg {a:Int} {t:Tok} {Q:Value→Store→Prop} (h:∀ t,Q (.int (-a) t) σ):Op P A (unaryOp .USub (.int a t)) σ Q:=fun _ G=>PySem.P.neg_int ⟨σ,h _,Tr.toks G _⟩
theorem xNeg1 {k:Nat} {p pos:Pos} {Q:Value→Store→Vars→Prop} (h:∀ t,Q (.int (-1) t) σ m):WP P A env W (eval (.UnaryOp .USub (.Constant (.int 1) k p) pos) env) σ m Q:=xUnary (xInt fun _=>xOp (oNeg h))
theorem oLen {l:Addr} {vs:List Value} {n:Nat} {Q:Value→Store→Prop} (e:σ l = some (lst vs n)) (hz:vs.length≤1000000) (h:∀ t,Q (.int (vs.length:Nat) t) σ):Op P A (call (.builtin "len") [.ref l]) σ Q:=fun _ G =>
 Calls.call_len_list (isList_of (G.has _ _ e)) (by rw [List.size_toArray]; omega) ⟨σ,by rw [List.size_toArray]; exact h _,Tr.toks G _⟩
theorem oItem {l:Addr} {vs:List Value} {n i:Nat} {t:Tok} {v:Value} {Q:Value→Store→Prop} (e:σ l = some (lst vs n)) (hi:vs[i]? = some v) (hz:i≤1000000) (h:Q v σ):Op P A (getItem (.ref l) (.int (i:Int) t)) σ Q:=fun _ G =>
 wpAny_getItem_list (isList_of (G.has _ _ e)) z7 (by omega) (by simpa using hi) ⟨σ,h,Tr.refl G⟩
theorem oItemLast {l:Addr} {vs:List Value} {n:Nat} {t:Tok} {v:Value} {Q:Value→Store→Prop} (e:σ l = some (lst (vs ++ [v]) n)) (h:Q v σ):Op P A (getItem (.ref l) (.int (-1) t)) σ Q:=fun _ G =>
 wpAny_getItem_list_neg (isList_of (G.has _ _ e)) z8 (by rw [List.size_toArray,List.length_append,List.length_singleton]; exact z9) (by omega) (by
  rw [List.size_toArray,List.length_append,List.length_singleton,show ((-1:Int) + ((vs.length + 1:Nat):Int)).toNat = vs.length by omega]
  simp) ⟨σ,h,Tr.refl G⟩
theorem oItemT {l:Addr} {vs:List Value} {n i:Nat} {t:Tok} {v:Value} {Q:Value→Store→Prop} (e:σ l = some (tup vs n)) (hi:vs[i]? = some v) (hz:i≤1000000) (h:Q v σ):Op P A (getItem (.ref l) (.int (i:Int) t)) σ Q:=fun _ G =>
 PySem.P.getItem_tuple (k:=i) (G.has _ _ e) (by omega) (by omega) (by
  have:i < vs.length:=(List.getElem?_eq_some_iff.mp hi).1
  rw [List.size_toArray]; unfold seqIndex?; simp; omega) (by simpa using hi) ⟨σ,h,Tr.refl G⟩
end
section
variable {prog:Program} {w:World} {A:Around} {E:Value→Shared→Prop} {s:Shared}
theorem setItem_exact {l:Addr} {items:Array Value} {n:Nat} {k:Int} {t:Tok} {v:Value} {Q:Unit→Shared→Prop} (el:s.heap.get? l = some (seqObj "list" items n)) (h0:0≤k) (hfit:k < 2 ^ 63) (hn:k < items.size)
  (h:Q () { s with heap:=s.heap.update l (Obj.mapSeq (·.setIfInBounds k.toNat v)) }):wpAny (model prog w) A (setItem (.ref l) (.int k t) v) Q E s:=by
 obtain hl:s.heap.IsList l items:=⟨_,el,rfl,n,rfl⟩
 unfold setItem
 try with_reducible refine wpAny_holding ?_
 first | refine wpAny_bind (wpAny_pure ?_) | skip
 refine wpAny_bind (wpAny_sequenceKey hl.typeIs (by decide) ?_)
 refine wpAny_bind (wpAny_callSpecial?_slot (name:=Str.ofString "__setitem__") hl.typeIs slot_list_setitem
  (wpAny_call_entry slot_list_setitem hl.typeIs entry_list_setitem ?_ (args_list_setitem _ _ _)))
 show wpAny _ _ (Builtin.List.listSubscript? (.int k t) >>= _) _ _ s
 refine wpAny_bind (wpAny_listSubscript_int (fitsIndex_of h0 hfit) ?_)
 clear hfit
 obtain ⟨j,rfl⟩:=Int.eq_ofNat_of_zero_le h0
 obtain hj:j < items.size:=(z10 hn)
 obtain hx':items[j]? = some items[j]:=Array.getElem?_eq_getElem hj
 refine wpAny_bind (wpAny_bind (wpAny_seqItemAt el rfl (wpAny_pure ?_)))
 rw [hx']
 refine wpAny_bind (wpAny_setSeqItemAt el rfl ?_)
 first
  | exact wpAny_bind (wpAny_pure (wpAny_pure ⟨.none,rfl,wpAny_pure h⟩))
  | exact wpAny_pure ⟨.none,rfl,wpAny_pure h⟩
end
section
variable {P:Par} {A:Around} {env:Env} {W:List Addr} {α β:Type} {σ:Store} {m:Vars}
theorem oMethB {l:Addr} {o:Obj} {T:String} {name:Str} {id:String} {pl:Sem Bool} {Q:Value × List Value→Store→Prop} (e:σ l = some o) (hc:o.cls = .type T) (hd:o.dict = none) (pa:PlainAttrs T)
  (slot:Slot T name id) (hty:typeOf (.builtin id) = pure (.type "method_descriptor")) (h:Q (.builtin id,[.ref l]) σ):Op P A (getMethod (.ref l) name pl) σ Q:=fun _ G =>
 getMethod_builtin ⟨o,G.has _ _ e,hc⟩ pa slot hty (fun a q=>by cases q; exact ⟨o,G.has _ _ e,hd⟩) ⟨σ,h,Tr.refl G⟩
theorem oMethAppend {l:Addr} {vs:List Value} {n:Nat} {pl:Sem Bool} {Q:Value × List Value→Store→Prop} (e:σ l = some (lst vs n)) (h:Q (.builtin "list.append",[.ref l]) σ):Op P A (getMethod (.ref l) "append" pl) σ Q :=
 oMethB e rfl rfl F.plainAttrs_list F.slot_list_append F.type_list_append h
theorem oMethExtend {l:Addr} {vs:List Value} {n:Nat} {pl:Sem Bool} {Q:Value × List Value→Store→Prop} (e:σ l = some (lst vs n)) (h:Q (.builtin "list.extend",[.ref l]) σ):Op P A (getMethod (.ref l) "extend" pl) σ Q :=
 oMethB e rfl rfl F.plainAttrs_list F.slot_list_extend F.type_list_extend h
theorem oMethPop {l:Addr} {vs:List Value} {n:Nat} {pl:Sem Bool} {Q:Value × List Value→Store→Prop} (e:σ l = some (lst vs n)) (h:Q (.builtin "list.pop",[.ref l]) σ):Op P A (getMethod (.ref l) "pop" pl) σ Q :=
 oMethB e rfl rfl F.plainAttrs_list F.slot_list_pop F.type_list_pop h
theorem lst_mapSeq {h:Heap} {l:Addr} {vs ws:List Value} {n:Nat} {f:Array Value→Array Value} (e:h.get? l = some (lst vs n)) (hf:f vs.toArray = ws.toArray):∃ n',(h.update l (Obj.mapSeq f)).get? l = some (lst ws n'):=by
 have:=Heap.get?_update_self (Obj.mapSeq f) e rfl
 refine ⟨if ((f vs.toArray).size == vs.toArray.size) = true then n else n + 1,?_⟩
 rw [this]
 show some (Obj.mk _ _ (.seq (f vs.toArray) _) _) = some (Obj.mk _ _ (.seq ws.toArray _) _)
 rw [← hf]
theorem oAppend {l:Addr} {vs:List Value} {n:Nat} {v:Value} {Q:Value→Store→Prop} (e:σ l = some (lst vs n)) (hz:vs.length≤1000000) (h:∀ n',Q .none (σ.set l (lst (vs ++ [v]) n'))):Op P A (call (.builtin "list.append") [.ref l,v]) σ Q:=fun s G=>by
 have el:=G.has _ _ e
 obtain ⟨n',e'⟩:=lst_mapSeq (ws:=vs ++ [v]) (f:=fun x=>x.push v) el (by simp)
 exact call_meets F.slot_list_append ⟨_,el,rfl⟩ F.entry_list_append (F.args_list_append_2 _ _) (list_append l vs.toArray n v (by rw [List.size_toArray,sizeLine_eq]; exact z11 hz)) ⟨el,_,h n',Tr.upd G e (Heap.SameBut.update ..) e' s.toks⟩
theorem oExtend {l l2:Addr} {vs ws:List Value} {n n2:Nat} {Q:Value→Store→Prop} (e:σ l = some (lst vs n)) (e2:σ l2 = some (lst ws n2)) (hz:vs.length + ws.length≤1000000) (h:∀ n',Q .none (σ.set l (lst (vs ++ ws) n'))):Op P A (call (.builtin "list.extend") [.ref l,.ref l2]) σ Q:=fun s G=>by
 obtain el:=G.has _ _ e
 obtain ⟨n',e'⟩:=lst_mapSeq (ws:=vs ++ ws) (f:=fun x=>x ++ ws.toArray) el (by simp)
 refine call_meets F.slot_list_extend ⟨_,el,rfl⟩ F.entry_list_extend (F.args_list_extend_2 _ _) (AutoSeq1.list_extend_list_list_0 l vs.toArray n l2 ws.toArray n2 ?_ (by rw [List.size_toArray,sizeLine_eq]; exact z12 hz) (by rw [List.size_toArray,List.size_toArray,sizeLine_eq]; exact z13 hz)) ⟨el,G.has _ _ e2,_,h n',Tr.upd G e (Heap.SameBut.update ..) e' s.toks⟩
 unfold Builtin.List.listTooLong
 rw [List.size_toArray,List.size_toArray]
 have:sizeLine = 16777216:=sizeLine_eq
 simp only [Bool.and_eq_true,decide_eq_true_eq,not_and]
 intro _
 exact z14 hz this
theorem oPop {l:Addr} {vs:List Value} {n:Nat} {v:Value} {Q:Value→Store→Prop} (e:σ l = some (lst (vs ++ [v]) n)) (hz:vs.length≤1000000) (h:∀ n',Q v (σ.set l (lst vs n'))):Op P A (call (.builtin "list.pop") [.ref l]) σ Q:=fun s G=>by
 have el:=G.has _ _ e
 have hsz:(vs ++ [v]).toArray.size = vs.length + 1:=by rw [List.size_toArray,List.length_append,List.length_singleton]
 obtain ⟨n',e'⟩:=lst_mapSeq (ws:=vs) (f:=fun xs=>xs.eraseIdxIfInBounds ((vs ++ [v]).toArray.size - 1)) el (by
  rw [hsz]
  simp [List.eraseIdx_append_of_length_le])
 exact call_meets F.slot_list_pop ⟨_,el,rfl⟩ F.entry_list_pop (F.args_list_pop_1 _) (MeetsSeq.list_pop_last l (vs ++ [v]).toArray n v (by rw [hsz]; simp) (by rw [hsz,sizeLine_eq]; exact z15 hz)) ⟨el,_,h n',Tr.upd G e (Heap.SameBut.update ..) e' s.toks⟩
theorem oSetItem {l:Addr} {vs:List Value} {n i:Nat} {t:Tok} {v:Value} {Q:Unit→Store→Prop} (e:σ l = some (lst vs n)) (hi:i < vs.length) (hz:i≤1000000) (h:∀ n',Q () (σ.set l (lst (vs.set i v) n'))):Op P A (setItem (.ref l) (.int (i:Int) t) v) σ Q:=fun s G=>by
 have el:=G.has _ _ e
 obtain ⟨n',e'⟩:=lst_mapSeq (ws:=vs.set i v) (f:=fun x=>x.setIfInBounds i v) el (by simp)
 exact setItem_exact el z7 (by omega) (by rw [List.size_toArray]; exact z16 hi) ⟨_,h n',Tr.upd G e (Heap.SameBut.update ..) e' s.toks⟩
theorem oAddList {l b:Addr} {vs ws:List Value} {n n2:Nat} {Q:Value→Store→Prop} (e:σ l = some (lst vs n)) (e2:σ b = some (lst ws n2)) (hz:vs.length + ws.length≤1000000) (h:∀ a,σ a = none→Q (.ref a) (σ.set a (lst (vs ++ ws) 0))):Op P A (binaryOp .Add (.ref l) (.ref b)) σ Q:=fun s G=>by
 refine PySem.P.add_list (G.has _ _ e) (G.has _ _ e2) ?_ (by rw [List.size_toArray,List.size_toArray,sizeLine_eq]; exact z17 hz)
 have ea:vs.toArray ++ ws.toArray = (vs ++ ws).toArray:=by simp
 rw [ea]
 exact ⟨_,h _ (σnone G (none_of (Nat.le_refl _))),Tr.push G (lst (vs ++ ws) 0) rfl s.toks⟩
theorem oAddTuple {l b:Addr} {v:Value} {vs ws:List Value} {n n2:Nat} {Q:Value→Store→Prop} (e:σ l = some (tup (v :: vs) n)) (e2:σ b = some (tup ws n2)) (hz:vs.length + ws.length≤1000000)
  (h:∀ a σ',(∀ c o,σ c = some o→σ' c = some o)→(∃ k,σ' a = some (tup (v :: vs ++ ws) k))→Q (.ref a) σ'):Op P A (binaryOp .Add (.ref l) (.ref b)) σ Q:=fun s G=>by
 by_cases hw:ws = []
 ·subst hw
  exact concat_meets ⟨_,G.has _ _ e,rfl⟩ ⟨_,G.has _ _ e2,rfl⟩ noFill_tuple_add seq_tuple_add F.slot_tuple_add F.entry_tuple_add (F.args_tuple_add_2 _ _) (AutoSeq1.tuple___add___tuple_tuple_1 l (v :: vs).toArray n b [].toArray n2 (by simp) (by simp))
   ⟨G.has _ _ e,G.has _ _ e2,σ,h l σ (fun _ _ q=>q) ⟨n,by rw [List.append_nil]; exact e⟩,Tr.refl G⟩
 ·refine PySem.P.add_tuple (G.has _ _ e) (G.has _ _ e2) (by simp) (by simpa using hw) ?_ (by rw [List.size_toArray,List.size_toArray,sizeLine_eq,List.length_cons]; exact z18 hz)
  obtain ea:(v :: vs).toArray ++ ws.toArray = (v :: vs ++ ws).toArray:=by simp
  rw [ea]
  obtain hn:=σnone G (none_of (Nat.le_refl s.heap.objs.size))
  exact ⟨_,h _ _ (fun c o q=>Store.set_new hn q) ⟨0,Store.set_same ..⟩,Tr.push G (tup (v :: vs ++ ws) 0) rfl s.toks⟩
theorem Tr.grown {s:Shared} {h':Heap} {a:Addr} {o:Obj} (G:Good P σ s) (k:∀ b o',s.heap.get? b = some o'→h'.get? b = some o') (hn:s.heap.get? a = none) (e:h'.get? a = some o) (t:Nat) (hlow:a≠sysModules):Tr P [] σ s (σ.set a o) { s with heap:=h',toks:=t }:=by
 refine ⟨⟨fun b o₁ e₁=>?_,fun b o₁ e₁=>k _ _ (G.base b o₁ e₁),fun b o₁ e₁=>?_,G.gens,G.os,fun b o₁ e₁=>?_⟩,fun b o₁ _ _ e₁=>k _ _ e₁,fun b h h₁=>?_,fun b h=>?_⟩
 ·unfold Store.set at e₁
  split at e₁
  ·rename_i q; cases e₁; rw [q]; exact e
  ·exact k _ _ (G.has b o₁ e₁)
 ·unfold Store.set at e₁
  split at e₁
  ·rename_i q; rw [q]; exact gnone G hn
  ·exact G.own b o₁ e₁
 ·unfold Store.set at e₁
  split at e₁
  ·rename_i q; rw [q]; exact hlow
  ·exact G.low b o₁ e₁
 ·unfold Store.set at h
  split at h
  ·rename_i q; rw [q]; exact hn
  ·exact absurd h₁ h
 ·cases q:s.heap.get? b with
  | none=>rfl
  | some o'=>exact absurd h (ne_none (k _ _ q))
theorem oTupleOf {l:Addr} {vs:List Value} {n:Nat} {Q:Value→Store→Prop} (e:σ l = some (lst vs n)) (hz:vs.length≤1000000) (h:∀ a,σ a = none→Q (.ref a) (σ.set a (tup vs 0))):Op P A (call (.type "tuple") [.ref l]) σ Q:=fun s G=>by
 refine call_tuple_list (isList_of (G.has _ _ e)) (fun h' hk=>?_) (by rw [List.size_toArray,sizeLine_eq]; exact z11 hz)
 have T₁:Tr P [] σ s σ { s with heap:=h' }:=Tr.kept (tk:=s.toks) G hk
 exact ⟨_,h _ (σnone T₁.good (none_of (Nat.le_refl _))),T₁.trans (Tr.push T₁.good (tup vs 0) rfl s.toks)⟩
theorem oTupleSame {l:Addr} {vs:List Value} {n:Nat} {Q:Value→Store→Prop} (e:σ l = some (tup vs n)) (h:Q (.ref l) σ):Op P A (call (.type "tuple") [.ref l]) σ Q:=fun _ G =>
 call_tuple_same (isTuple_of (G.has _ _ e)) ⟨σ,h,Tr.refl G⟩
theorem oListOf {l:Addr} {vs:List Value} {n:Nat} {Q:Value→Store→Prop} (e:σ l = some (lst vs n)) (hz:vs.length≤1000000) (h:∀ a c,σ a = none→Q (.ref a) (σ.set a (lst vs c))):Op P A (call (.type "list") [.ref l]) σ Q:=fun s G=>by
 refine call_list_seq l (.inl rfl) (G.has _ _ e) rfl rfl (fun h' c' hk hn=>?_) (by rw [List.size_toArray,sizeLine_eq]; exact z11 hz)
 have nn:=none_of (h:=s.heap) (Nat.le_refl _)
 exact ⟨_,h _ c' (σnone G nn),Tr.grown G hk nn hn s.toks (big_of G.base)⟩
end
section
variable {P:Par} {A:Around} {env:Env} {W:List Addr} {α β:Type} {σ:Store} {m:Vars}
theorem xSlice {lower upper:Option PySem.Expr} {p:Pos} {Q:Value→Store→Vars→Prop}
  (h:WP P A env W (evalPart lower env) σ m (fun l σ m=>WP P A env W (evalPart upper env) σ m (fun u σ m=>∀ a,σ a = none→Q (.ref a) (σ.set a { cls:=.type "slice",data:=.fields #[l,u,.none] }) m))) :
  WP P A env W (eval (.Slice lower upper none p) env) σ m Q:=fun s G F=>by
 refine wpAny_Slice (wpAny_mono (h s G F) (fun l s₁ ⟨σ₁,m₁,q,F₁,T₁⟩=>wpAny_mono (q.chain T₁ F₁) (fun u s₂ ⟨σ₂,m₂,q,F₂,T₂⟩=>?_) fun _ _ f=>f) fun _ _ f=>f)
 rw [evalPart_none]
 obtain T₃:=Tr.push T₂.good { cls:=.type "slice",data:=.fields #[l,u,.none] } rfl s₂.toks
 exact wpAny_pure ⟨_,m₂,q _ (σnone T₂.good (none_of (Nat.le_refl _))),F₂.tr T₃,T₂.trans (T₃.wider (by simp))⟩
theorem slicePick_head (vs:List Value) (n:Nat):slicePick vs.toArray none (some (n:Int)) none = (vs.take n).toArray:=by
 by_cases hn:n≤vs.length
 ·obtain e:slicePick vs.toArray none (some (n:Int)) none = slicePick vs.toArray (some ((0:Nat):Int)) (some (n:Int)) none:=by
   unfold slicePick sliceBounds
   obtain a3:max (0:Int) (min 0 (vs.length:Int)) = 0:=z19
   simp [a3]
  rw [e,slicePick_run _ _ _ (by simpa using hn) (Nat.zero_le _)]
  simp
 ·obtain e:slicePick vs.toArray none (some (n:Int)) none = slicePick vs.toArray (some ((0:Nat):Int)) (some ((vs.length:Nat):Int)) none:=by
   unfold slicePick sliceBounds
   obtain h1:¬ ((n:Int) < 0):=z20
   obtain h2:¬ ((vs.length:Int) < 0):=z20
   simp only [List.size_toArray,Option.getD_none,h1,h2,if_false,show (1:Int) > 0 by decide,if_true]
   obtain a1:min (n:Int) (vs.length:Int) = vs.length:=(z21 hn)
   obtain a2:max (0:Int) (vs.length:Int) = vs.length:=z22
   obtain a3:max (0:Int) (min 0 (vs.length:Int)) = 0:=z19
   simp [a1,a2,a3]
  rw [e,slicePick_run _ _ _ (by simp) (Nat.zero_le _)]
  simp only [List.drop_zero,Nat.sub_zero,List.take_length]
  rw [List.take_of_length_le (z23 hn)]
theorem xSliceTail {value lo:PySem.Expr} {p pos:Pos} {Q:Value→Store→Vars→Prop}
  (h:WP P A env W (eval value env) σ m (fun o σ m=>WP P A env W (eval lo env) σ m (fun u σ m=>(X5 fun l v vs k t=>N5 (o = .ref l) (u = .int 1 t) (σ l = some (tup (v :: vs) k)) (vs.length≤1000000) (∀ a σ',(∀ b o,σ b = some o→σ' b = some o)→σ a = none→σ' a = some (tup vs 0)→Q (.ref a) σ' m))))) :
  WP P A env W (eval (.Subscript value (.Slice (some lo) none none p) pos) env) σ m Q :=
 xSubscript (T:="tuple") F.slot_tuple_getitem.lookup (h.mono fun o σ m q=>xSlice (by
  rw [evalPart_none,evalPart_some]
  refine q.mono fun u σ m q=>xPure ?_
  obtain ⟨l,v,vs,k,t,rfl,rfl,e,hz,hQ⟩:=q
  intro a ha
  obtain e':(σ.set a { cls:=.type "slice",data:=.fields #[.int 1 t,.none,.none] }) l = some (tup (v :: vs) k):=Store.set_new ha e
  refine ⟨Ty.ref e' rfl,xOp fun s G=>?_⟩
  obtain el:=G.has _ _ e'
  obtain es:=G.has a _ (Store.set_same ..)
  refine getItem_tuple_from (a:=1) (isTuple_of el) ⟨_,es,rfl,rfl⟩ (Nat.le_refl _) (by simp) ?_ (by rw [List.size_toArray,sizeLine_eq,List.length_cons]; exact z15 hz)
  obtain T:=Tr.push G (tup vs 0) rfl s.toks
  obtain hn:=σnone G (none_of (Nat.le_refl s.heap.objs.size))
  refine ⟨_,hQ s.heap.objs.size _ (fun b o q=>Store.set_new hn (Store.set_new ha q)) ?_ (Store.set_same ..),T⟩
  unfold Store.set at hn
  split at hn
  ·exact ns hn
  ·exact hn))
theorem xItem {value slice:PySem.Expr} {pos:Pos} {Q:Value→Store→Vars→Prop}
  (h:WP P A env W (eval value env) σ m (fun o σ m=>WP P A env W (eval slice env) σ m (fun u σ m=>(X6 fun l vs k i t v=>N6 (o = .ref l) (u = .int ((i:Nat):Int) t) ((σ l = some (lst vs k)∨σ l = some (tup vs k))) (i≤1000000) (vs[i]? = some v) (Q v σ m))))) :
  WP P A env W (eval (.Subscript value slice pos) env) σ m Q:=by
 rw [eval_Subscript]
 refine xBind (h.mono fun o σ m q=>xBind (xHolding (q.mono fun i σ m q2=>xBind (xStandAt ?_))))
 obtain ⟨l,vs,k,i,t,v,rfl,rfl,e,hi,hv,hQ⟩:=q2
 obtain key:∀ T i₀,Ty P σ (.ref l) T→typeLookup (.type T) "__getitem__" = Pure.pure (some (.builtin i₀))→Op P A (getItem (.ref l) (.int (i:Int) t)) σ (fun r σ=>r = v∧Q r σ m) →
   WP P A env W (do let r ← subscripted slice (← getitemInPython (.ref l)) (.ref l) (.int (i:Int) t); letTemporaryGo value (.ref l) r; pure r) σ m Q:=fun T i₀ ty hl op=>by
  refine xBind (t:=getitemInPython (.ref l)) fun s G F=>?_
  refine wpAny_bind (wpAny_specialOf (ty s G) hl (wpAny_pure ⟨σ,m,?_,F,Tr.refl G⟩))
  have:WP P A env W (subscripted slice false (.ref l) (.int (i:Int) t)) σ m Q:=by
   unfold subscripted
   split
   ·exact xOperate (xOp (op.mono fun _ _ q=>q.2))
   ·rename_i hb; cases hb
   ·exact xOperate (xOp (op.mono fun _ _ q=>q.2))
  exact xBind (this.mono fun r σ m q=>xBind (xLetTemporaryGo (xPure q)))
 rcases e with e | e
 ·exact key "list" _ (Ty.ref e rfl) list_getitem_lookup (oItem e hv hi ⟨rfl,hQ⟩)
 ·exact key "tuple" _ (Ty.ref e rfl) F.slot_tuple_getitem.lookup (oItemT e hv hi ⟨rfl,hQ⟩)
end
def natOf:Value→Option Nat
 | .int (.ofNat n) _=>some n
 | _=>none
theorem natOf_int (n:Nat) (t:Tok):natOf (.int (n:Int) t) = some n:=rfl
theorem of_natOf {v:Value} {n:Nat} (h:natOf v = some n):∃ t,v = .int (n:Int) t:=by
 unfold natOf at h
 split at h
 ·cases h; exact ⟨_,rfl⟩
 ·cases h
def Ns (vs:List Value) (ns:List Nat):Prop:=vs.map natOf = ns.map some
theorem Ns.nil:Ns [] []:=rfl
theorem Ns.length {vs:List Value} {ns:List Nat} (h:Ns vs ns):vs.length = ns.length:=by have:=congrArg List.length h; simpa using this
theorem Ns.append {vs ws:List Value} {ns ms:List Nat} (h:Ns vs ns) (h':Ns ws ms):Ns (vs ++ ws) (ns ++ ms):=by unfold Ns at *; rw [List.map_append,List.map_append,h,h']
theorem Ns.one (n:Nat) (t:Tok):Ns [.int (n:Int) t] [n]:=rfl
theorem Ns.cons {vs:List Value} {ns:List Nat} (n:Nat) (t:Tok) (h:Ns vs ns):Ns (.int (n:Int) t :: vs) (n :: ns):=by unfold Ns at *; rw [List.map_cons,List.map_cons,h,natOf_int]
theorem Ns.get {vs:List Value} {ns:List Nat} (h:Ns vs ns) {i n:Nat} (e:ns[i]? = some n):∃ t,vs[i]? = some (.int (n:Int) t):=by
 have:(vs.map natOf)[i]? = some (some n):=by rw [h,List.getElem?_map,e]; rfl
 rw [List.getElem?_map] at this
 obtain ⟨v,hv,hn⟩:=Option.map_eq_some_iff.mp this
 obtain ⟨t,rfl⟩:=of_natOf hn
 exact ⟨t,hv⟩
theorem Ns.of {vs:List Value} {ns:List Nat} (h:Ns vs ns) {i:Nat} {v:Value} (e:vs[i]? = some v):(X2 fun n t=>ns[i]? = some n∧v = .int (n:Int) t):=by
 have:(ns.map some)[i]? = some (natOf v):=by rw [← h,List.getElem?_map,e]; rfl
 rw [List.getElem?_map] at this
 obtain ⟨n,hv,hn⟩:=Option.map_eq_some_iff.mp this
 obtain ⟨t,rfl⟩:=of_natOf hn.symm
 exact ⟨n,t,hv,rfl⟩
theorem Ns.set {vs:List Value} {ns:List Nat} (h:Ns vs ns) (i n:Nat) (t:Tok):Ns (vs.set i (.int (n:Int) t)) (ns.set i n):=by unfold Ns at *; rw [List.map_set,List.map_set,h,natOf_int]
theorem Ns.snoc {vs:List Value} {ns:List Nat} {n:Nat} (h:Ns vs (ns ++ [n])):(X2 fun ws t=>vs = ws ++ [.int (n:Int) t]∧Ns ws ns):=by
 unfold Ns at h
 rw [List.map_append] at h
 refine lG ?_; intro G
 obtain ⟨ws,us,rfl,h1,h2⟩:=List.map_eq_append_iff.mp h
 refine lG ?_; intro G
 obtain ⟨u,us',rfl,h3,h4⟩:=List.map_eq_cons_iff.mp h2
 obtain ⟨t,rfl⟩:=of_natOf h3
 cases us' with
 | nil=>exact ⟨ws,t,rfl,h1⟩
 | cons _ _=>cases h4
structure HA where
 h:Addr
 hd:Addr
 b:Addr
 bd:Addr
 u:Addr
 ud:Addr
 nl:Addr
 wl:Addr
 dl:Addr
 nu:Addr
 ab:Addr
 lo:Addr
 me:Addr
 ed:Addr
 fo:Addr
 kn:Addr
 av:Addr
 wt:Addr
structure Wf (n:Nat) (r:Nat→Nat):Prop where
 le:∀ x,x < n→r x≤x
 idem:∀ x,x < n→r (r x) = r x
structure Links (par:List Nat) (n:Nat) (r:Nat→Nat):Prop where
 len:par.length = n
 up:∀ x p,par[x]? = some p→p≤x∧r p = r x∧(p = x→r x = x)
def uInst (X:HA):List (Str × Value):=[("above",.ref X.ab),("lots",.ref X.lo),("merged",.ref X.me)]
structure UFind (X:HA) (σ:Store) (n:Nat) (r:Nat→Nat):Prop where
 inst:IsI σ X.u X.ud 331 (uInst X)
 ab:(X3 fun vs k par=>N3 (σ X.ab = some (lst vs k)) (Ns vs par) (Links par n r))
 wf:Wf n r
 small:n≤100
section
variable {P:Par} {A:Around} {env:Env} {W:List Addr} {α β:Type} {σ:Store} {m:Vars} {X:HA} {n:Nat} {r:Nat→Nat}
noncomputable def fdFind (p:Params):{fd:FuncData // fdIn (Mine.hd.heap_1 p) 288 = some fd}:=⟨_,rfl⟩
theorem cFind (O:P.Ok) {a:Nat} {t:Tok} {Q:Value→Store→Prop} (hR:Rm A 4) (U:UFind X σ n r) (ha:a < n) (h:∀ t,Q (.int (r a:Nat) t) σ):COp P A (.call (.ref 288) ⟨[.ref X.u,.int (a:Int) t],[]⟩) σ Q:=by
 refine oCall O (fdFind _).2 hR rfl rfl rfl rfl rfl rfl (fun L=>?_) rfl rfl rfl
 intro env A' W m0 Q'
 refine lG ?_; intro G
 obtain ⟨vs,k,par,e,hN,hL⟩:=U.ab
 refine lG ?_; intro G
 obtain look:∀ (A':Around) (m:Vars) (x:Nat) (t:Tok) (p0 p1 p2 p3:Pos) (Q':Value→Store→Vars→Prop),x < n→m "self" = some (.ref X.u)→m "a" = some (.int (x:Int) t)→(∀ p t,par[x]? = some p→Q' (.int (p:Int) t) σ m) →
   WP P A' (callEnvC (fdFind P.w.params).1 L 288) (wrOf (callEnvC (fdFind P.w.params).1 L 288)) (eval (.Subscript (.Attribute (.Name "self" p0) "above" p1) (.Name "a" p2) p3) (callEnvC (fdFind P.w.params).1 L 288)) σ m Q':=fun A' m x t _ _ _ _ Q' hx hs ha' hQ=>by
  refine xItem (lq ?_); intro K
  refine xAttribute (xName (xLoad rfl hs (xOp (oGetAttr O U.inst rfl rfl rfl ?_))))
  refine xName (lq ?_); intro K
  refine xLoad rfl ha' ?_
  refine lG ?_; intro G
  obtain ⟨p,hp⟩:∃ p,par[x]? = some p:=⟨par[x]'(by rw [hL.len]; exact hx),List.getElem?_eq_getElem _⟩
  obtain ⟨t',ht⟩:=hN.get hp
  exact ⟨_,vs,k,x,t,_,rfl,rfl,.inl e,by have:=U.small; exact z24 hx this,ht,hQ p t' hp⟩
 refine xCons (lq ?_); intro K
 refine xWhile (fun k σ' m=>σ' = σ∧k < n∧r k = r a∧m "self" = some (.ref X.u)∧∃ t,m "a" = some (.int (k:Int) t)) a ⟨rfl,ha,rfl,rfl,t,rfl⟩ ?_
 rintro x _ m ⟨rfl,hx,hr,hs,t,ha'⟩
 refine xTrueCompare (look _ m x t _ _ _ _ _ hx hs ha' fun p t' hp=>xName (xLoad rfl ha' (xOp (oNe (xTruthyBool ⟨fun hb=>?_,fun hb=>?_⟩)))))
 ·refine xLast (lq ?_); intro K
  refine xAssignName (look _ m x t _ _ _ _ _ hx hs ha' fun p' t' hp'=>?_)
  rw [hp] at hp'; cases hp'
  obtain ⟨h1,h2,_⟩:=hL.up x p hp
  have hne:p≠x:=fun q=>by subst q; simp at hb
  refine xStore rfl rfl (List.mem_cons_self ..) ⟨p,(z25 h1 hne),rfl,(z26 hx h1),h2.trans hr,hs,t',rfl⟩
 ·obtain ⟨h1,h2,h3⟩:=hL.up x p hp
  have hpx:p = x:=by
   have:(p:Int) = x:=by simpa using hb
   exact z27 this
  refine xLast (lq ?_); intro K
  refine xReturn (xName (xLoad rfl ha' ?_))
  have:x = r a:=(h3 hpx).symm.trans hr
  subst this
  exact h t
end
inductive All2 {α β:Type} (R:α→β→Prop):List α→List β→Prop
 | nil:All2 R [] []
 | cons {a b as bs}:R a b→All2 R as bs→All2 R (a :: as) (b :: bs)
namespace All2
variable {α β:Type} {R S:α→β→Prop}
theorem length {xs:List α} {ys:List β} (h:All2 R xs ys):xs.length = ys.length:=by induction h <;> simp_all
theorem mono {xs:List α} {ys:List β} (h:All2 R xs ys) (hm:∀ a b,R a b→S a b):All2 S xs ys:=by
 induction h with
 | nil=>exact .nil
 | cons h _ ih=>exact .cons (hm _ _ h) ih
theorem append {xs xs':List α} {ys ys':List β} (h:All2 R xs ys) (h':All2 R xs' ys'):All2 R (xs ++ xs') (ys ++ ys'):=by
 induction h with
 | nil=>exact h'
 | cons h _ ih=>exact .cons h ih
theorem get {xs:List α} {ys:List β} (h:All2 R xs ys):∀ {i:Nat} {a:α},xs[i]? = some a→∃ b,ys[i]? = some b∧R a b:=by
 induction h with
 | nil=>intro i a e; simp at e
 | cons h _ ih =>
  intro i a e
  cases i with
  | zero=>simp only [List.getElem?_cons_zero,Option.some.injEq] at e; subst e; exact ⟨_,rfl,h⟩
  | succ j=>simp only [List.getElem?_cons_succ] at e ⊢; exact ih e
theorem get' {xs:List α} {ys:List β} (h:All2 R xs ys):∀ {i:Nat} {b:β},ys[i]? = some b→∃ a,xs[i]? = some a∧R a b:=by
 induction h with
 | nil=>intro i a e; simp at e
 | cons h _ ih =>
  intro i a e
  cases i with
  | zero=>simp only [List.getElem?_cons_zero,Option.some.injEq] at e; subst e; exact ⟨_,rfl,h⟩
  | succ j=>simp only [List.getElem?_cons_succ] at e ⊢; exact ih e
theorem map_left {γ:Type} {f:γ→α} {xs:List γ} {ys:List β}:All2 R (xs.map f) ys ↔ All2 (fun a b=>R (f a) b) xs ys:=by
 constructor
 ·intro h
  generalize e:xs.map f = zs at h
  induction h generalizing xs with
  | nil=>cases xs with
   | nil=>exact .nil
   | cons _ _=>cases e
  | cons h _ ih=>cases xs with
   | nil=>cases e
   | cons _ _=>cases e; exact .cons h (ih rfl)
 ·intro h
  induction h with
  | nil=>exact .nil
  | cons h _ ih=>exact .cons h ih
theorem mem {xs:List α} {ys:List β} (h:All2 R xs ys) {b:β} (hb:b ∈ ys):∃ a,a ∈ xs∧R a b:=by
 obtain ⟨i,hi⟩:=List.mem_iff_getElem?.mp hb
 obtain ⟨a,ha,hr⟩:=h.get' hi
 exact ⟨a,List.mem_of_getElem? ha,hr⟩
end All2
theorem Ns.all2 {vs:List Value} {ns:List Nat}:Ns vs ns ↔ All2 (fun n v=>∃ t,v = .int (n:Nat) t) ns vs:=by
 constructor
 ·intro h
  induction ns generalizing vs with
  | nil=>cases vs with
   | nil=>exact .nil
   | cons _ _=>cases h
  | cons n ns ih=>cases vs with
   | nil=>cases h
   | cons v vs =>
    unfold Ns at h
    rw [List.map_cons,List.map_cons,List.cons.injEq] at h
    exact .cons (of_natOf h.1) (ih h.2)
 ·intro h
  induction h with
  | nil=>rfl
  | cons h _ ih=>obtain ⟨t,rfl⟩:=h; exact Ns.cons _ _ ih
def Le (σ σ':Store):Prop:=∀ a o,σ a = some o→σ' a = some o
theorem Le.refl (σ:Store):Le σ σ:=fun _ _ e=>e
theorem Le.trans {a b c:Store} (h:Le a b) (h':Le b c):Le a c:=fun x o e=>h' x o (h x o e)
theorem Le.new {σ:Store} {a:Addr} {o:Obj} (h:σ a = none):Le σ (σ.set a o):=fun _ _ e=>Store.set_new h e
theorem Le.set {σ σ':Store} {a:Addr} {o:Obj} (h:Le σ σ') (hn:σ a = none):Le σ (σ'.set a o):=fun b o' e=>by
 rw [Store.set_ne]
 ·exact h b o' e
 ·rintro rfl; rw [hn] at e; cases e
def isLst (o:Obj):Bool:=o.cls == .type "list"
def Stay (R:Store→Prop):Prop:=∀ σ σ',R σ→(∀ a o,isLst o = false→σ a = some o→σ' a = some o)→R σ'
theorem KTurns.weaken {prog:Program} {w:World} {A:Around} {target:PySem.Expr} {I:Addr} {fp wr:List Addr} {n:Nat} {Pi Pi' Md:Nat→Value→Heap→Prop} {St:Nat→Heap→Prop} (K:KTurns prog w A target I fp wr n Pi Md St) (hp:∀ i v h,Pi i v h→Pi' i v h):KTurns prog w A target I fp wr n Pi' Md St :=
 ⟨K.sub,K.frame,K.item,fun i v s Q E md q=>K.go i v s Q E md fun h' p st k=>q h' (hp _ _ _ p) st k,K.done⟩
section
variable {P:Par} {A:Around} {env:Env} {W:List Addr} {α β:Type} {σ:Store} {m:Vars} {ξ:Type}
def Sr (P:Par) (A:Around) (target:PySem.Expr) (x:Value) (n:Nat) (Pi:Nat→Value→Heap→Prop) (fx ow:List (Addr × Obj)):Prop :=
 ∀ (s:Shared) (R:Value→Shared→Prop) (E:Value→Shared→Prop),(∀ p ∈ fx ++ ow,s.heap.get? p.1 = some p.2) →
  (∀ (h':Heap) (I:Addr) (wr:List Addr) (Md:Nat→Value→Heap→Prop) (St:Nat→Heap→Prop),(∀ b o,s.heap.get? b = some o→h'.get? b = some o)→(∀ b ∈ wr,s.heap.get? b = none∨b ∈ ow.map (·.1)) →
   KTurns P.prog P.w A target I (wr ++ fx.map (·.1)) wr n Pi Md St→(∀ i h,St i h→∀ b ∈ wr,∃ o,h.get? b = some o) →
   (∀ (s:Shared) (Q:Value→Shared→Prop) (E:Value→Shared→Prop),St 0 s.heap→Q (.ref I) s→wpAny P.M A (pyIter (.ref I)) Q E s)→St 0 h'→h'.objs.size≤s.heap.objs.size + 1→R (.ref I) { s with heap:=h' })→wpAny P.M A (pyIter x) R E s
theorem Sr.of {target:PySem.Expr} {x:Value} {n:Nat} {Pi:Nat→Value→Prop} {fx:List (Addr × Obj)} (h:Src P A x n Pi fx):Sr P A target x n (fun i v _=>Pi i v) fx []:=fun s R E hf k =>
 h s R E (fun p hp=>hf p (List.mem_append_left _ hp)) fun o St hfr IA hst=>k _ _ [s.heap.objs.size] _ St (fun _ _ e=>Heap.get?_push_of_some _ e) (fun b hb=>.inl (by rw [List.mem_singleton.mp hb]; exact none_of (Nat.le_refl _))) (IA.kt target)
  (fun i h st b hb=>by rw [List.mem_singleton.mp hb]; exact IA.alive i h st) (fun s Q E st q=>IA.self 0 s Q E st q) hst (by rw [Heap.size_push]; exact Nat.le_refl _)
theorem sr_enum {e it l:Addr} {vs:List Value} {k:Nat} {elts:List PySem.Expr} {kk:Nat} {tp:Pos} (hh:A.handled = none) (hei:e≠it) (hle:l≠e) (hli:l≠it) {oe oi:Obj} (he:∀ h:Heap,h.get? e = some oe→∃ old,IsEnum h e it ((0:Nat):Int) old) (hi:∀ h:Heap,h.get? it = some oi→h.IsListIter it l 0) :
  Sr P A (.Tuple elts kk tp) (.ref e) vs.length (fun i v h=>(X3 fun T t x=>N3 (v = .ref T) (vs[i]? = some x) (h.IsTuple T #[.int (i:Int) t,x]))) [(l,lst vs k)] [(e,oe),(it,oi)]:=fun s R E hf kont=>by
 obtain ⟨old,h1⟩:=he _ (hf (e,oe) (by simp))
 obtain h2:=hi _ (hf (it,oi) (by simp))
 obtain h3:=hf (l,lst vs k) (by simp)
 obtain W:=KTurns.ofWalksU (elts:=elts) (k:=kk) (pos:=tp) (WalksT.enumerate (prog:=P.prog) (w:=P.w) hh e it l hei hle hli vs.toArray).toU
 rw [List.size_toArray] at W
 refine wpAny_pyIter_enum h1 ?_
 refine kont s.heap e [e,it] _ _ (fun _ _ x=>x) (fun b hb=>.inr (by simpa using hb)) (KTurns.weaken W ?_) (fun i h st b hb=>?_) (fun s Q E st q=>?_) ⟨⟨old,h1⟩,h2,isList_of h3⟩ (Nat.le_succ _)
 ·rintro i v h ⟨T,vals,rfl,⟨t,x,hx,rfl⟩,hT⟩
  exact ⟨T,t,x,rfl,by simpa using hx,hT⟩
 ·obtain ⟨⟨old,he⟩,⟨o,ho,_⟩,_⟩:=st
  rcases List.mem_cons.mp hb with rfl | hb
  ·exact ⟨_,he⟩
  ·rw [List.mem_singleton.mp hb]; exact ⟨o,ho⟩
 ·obtain ⟨⟨old,he⟩,_⟩:=st
  exact wpAny_pyIter_enum he q
theorem Fm.less {σ':Store} {h:Heap} (F:Fm P env W σ h m) (hl:∀ a,σ a = none→σ' a = none):Fm P env W σ' h m :=
 ⟨F.ns,F.cell,fun a ha=>⟨hl a (F.un a ha).1,(F.un a ha).2⟩,F.apart,F.inj,fun a ha=>⟨(F.wr a ha).1,hl a (F.wr a ha).2.1,(F.wr a ha).2.2⟩⟩
theorem none_less {σ σ':Store} (h:Le σ' σ) {a:Addr} (e:σ a = none):σ' a = none:=by
 cases q:σ' a with
 | none=>rfl
 | some o=>rw [h a o q] at e; cases e
theorem its_src {σ₁ σ₂:Store} {s s₁:Shared} {h':Heap} {wr:List Addr} {ow:List (Addr × Obj)} (F:Fm P env W σ s.heap m) (T₁:Tr P W σ s σ₁ s₁) (hle:Le σ₂ σ₁) (how:∀ p ∈ ow,σ₁ p.1 = some p.2∧σ p.1 = none∧σ₂ p.1 = none)
  (hnew:∀ b ∈ wr,s₁.heap.get? b = none∨b ∈ ow.map (·.1)) (hal:∀ b ∈ wr,∃ o,h'.get? b = some o):Its P env W wr σ₂ s { s₁ with heap:=h' }:=by
 have gone:∀ b ∈ wr,s.heap.get? b = none:=fun b hb=>by
  rcases hnew b hb with h | h
  ·exact T₁.alive b h
  ·obtain ⟨p,hp,rfl⟩:=List.mem_map.mp h
   exact T₁.fresh p.1 (by rw [(how p hp).1]; intro q; exact ns q) (how p hp).2.1
 refine ⟨fun b hb=>?_,gone,fun b hb=>?_,fun b hb=>⟨fun h=>?_,fun h=>?_,fun x h=>?_⟩,hal⟩
 ·rcases hnew b hb with h | h
  ·exact none_less hle (σnone T₁.good h)
  ·obtain ⟨p,hp,rfl⟩:=List.mem_map.mp h
   exact (how p hp).2.2
 ·rcases hnew b hb with h | h
  ·exact gnone T₁.good h
  ·obtain ⟨p,hp,rfl⟩:=List.mem_map.mp h
   exact T₁.good.own _ _ (how p hp).1
 ·obtain ⟨_,_,o,e⟩:=F.wr b h; rw [gone b hb] at e; exact nn e
 ·obtain ⟨_,⟨o,_,_,e,_⟩,_⟩:=F.ns; rw [← h,gone b hb] at e; exact nn e
 ·obtain ⟨o,e,_⟩:=F.cell x b h; rw [gone b hb] at e; exact nn e
theorem xForG {target iter:PySem.Expr} {body:List Stmt} {pos:Pos} {Q:Flow→Store→Vars→Prop}
  (h:WP P A env W (eval iter env) σ m (fun x σ₁ m₁=>(X6 fun (n:Nat) (Pi:Nat→Value→Heap→Prop) (fx ow:List (Addr × Obj)) (σ₂:Store) (J:Nat→Store→Vars→Prop)=>N7 (Sr P A target x n Pi fx ow) (Le σ₂ σ₁) ((∀ p ∈ ow,σ₁ p.1 = some p.2∧σ p.1 = none∧σ₂ p.1 = none)) ((∀ i σ m,J i σ m→∀ p ∈ fx,σ p.1 = some p.2)) (J 0 σ₂ m₁) ((∀ i v σ m s,i < n→J i σ m→Pi i v s.heap→Good P σ s→Fm P env W σ s.heap m→wpAny P.M A (assign target env v) (Post P env W σ s (fun _ σ m=>WP P A env W (execs body env) σ m (Turn (J (i + 1)) Q))) (fun _ _=>False) s)) (∀ σ m,J n σ m→Q .next σ m))))
  (hs:∀ x,foldedSetIterable iter env x = pure x:=by intro _; rfl):WP P A env W (exec (.For target iter body [] pos) env) σ m Q:=fun s G F=>by
 refine wpAny_For (wpAny_mono (h s G F) (fun x s₁ ⟨σ₁,m₁,q,F₁,T₁⟩=>?_) fun _ _ f=>f) hs
 refine lG ?_; intro G
 obtain ⟨n,Pi,fx,ow,σ₂,J,src,hle,how,hfix,h0,turn,fin⟩:=q
 obtain G₁:=T₁.good
 refine src s₁ _ _ (fun p hp=>?_) fun h' I wr Md St hk hnew KT hal _ hst _=>?_
 ·refine lG ?_; intro G
  rcases List.mem_append.mp hp with hp | hp
  ·exact G₁.has _ _ (hle _ _ (hfix 0 _ _ h0 p hp))
  ·exact G₁.has _ _ (how p hp).1
 obtain T₂:Tr P W σ s σ₂ s₁:=T₁.less hle
 refine forLoop KT hal (fixOf fx) J
  (fun i σ m hJ b hb hw=>by
   refine lG ?_; intro G
   rcases List.mem_append.mp hb with hb | hb
   ·exact absurd hb hw
   ·exact fixOf_mem (hfix i σ m hJ) b hb)
  h0 hst (its_src F T₁ hle how hnew (hal 0 h' hst)) ((F₁.less fun a e=>none_less hle e).kept hk) (T₂.trans (Tr.kept (tk:=s₁.toks) T₂.good hk)) turn fin ?_
 rintro f s' ⟨σ',m',q,F',T'⟩
 exact ⟨σ',m',q,F',T'⟩
end
section
variable {P:Par} {A:Around} {env:Env} {W:List Addr} {α β:Type} {σ:Store} {m:Vars} {ξ:Type}
def CompGo (P:Par) (A:Around) (env:Env) (elt target:PySem.Expr) (ifs:List PySem.Expr) (gens:List Comprehension) (scope:Scope) (pos:Pos) (cl:List (Str × Addr)) (Fin:Addr→Store→Prop) (σ:Store) (x:Value) (σ₁:Store) (m:Vars):Prop :=
 (X5 fun (n:Nat) (Pi:Nat→Value→Heap→Prop) (fx ow:List (Addr × Obj)) (σ₂:Store)=>N5 (Sr P A target x n Pi fx ow) (Le σ₂ σ₁) ((∀ p ∈ ow,σ₁ p.1 = some p.2∧σ p.1 = none∧σ₂ p.1 = none)) ((∀ p ∈ fx,σ₂ p.1 = some p.2)) (∀ D C,σ₁ D = none→(∃ J:Nat→Store→Vars→Prop,N4 (J 0 (σ₂.set D (lst [] 0)) (compVars cl m)) ((∀ i σ m,J i σ m→∀ p ∈ fx,σ p.1 = some p.2)) ((∀ i v σ m s,i < n→Pi i v s.heap→J i σ m→Good P σ s→Fm P (compEnvC scope cl C env) [C] σ s.heap m→wpAny P.M A (assign target (compEnvC scope cl C env) v) (Post P (compEnvC scope cl C env) [C] σ s (fun _ σ m=>Tests P A (compEnvC scope cl C env) [C] ifs σ m (fun ok σ m =>
   (ok = true→WP P A (compEnvC scope cl C env) [C] (compInner (.ListComp elt gens scope pos) elt gens 0 (.ref D) (compEnvC scope cl C env)) σ m (fun _ σ m=>J (i + 1) σ m))∧(ok = false→J (i + 1) σ m)))) (fun _ _=>False) s)) (∀ σ m,J n σ m→Fin D σ))))
theorem compBlockG {elt target iter:PySem.Expr} {ifs:List PySem.Expr} {gens rest:List Comprehension} {scope:Scope} {pos:Pos} {cl:List (Str × Addr)} {Fin:Addr→Store→Prop} {x:Value} {s₀ s:Shared} {σ₁:Store} {E:Value→Shared→Prop} {RR:Value→Addr→Result→Shared→Prop}
  (hgens:gens = ⟨target,iter,ifs,0⟩ :: rest) (hsync:∀ g',gens[0 + 1]? = some g'→g'.is_async = 0) (ok:CompOk env scope cl) (G₀:Good P σ s₀) (F₀:Fm P env W σ s₀.heap m) (T₀:Tr P [] σ s₀ σ₁ s) (h:CompGo P A env elt target ifs gens scope pos cl Fin σ x σ₁ m)
  (hRR:∀ D C σ' s',Fin D σ'→Tr P [] σ s₀ σ' s'→s₀.heap.get? C = none→σ' C = none→P.g.get? C = none→(∃ mm,s'.heap.Ns C mm)→RR (.ref D) C (.ok .next) s') :
  wpAny P.M A (pyIter x) (fun it s₂=>wpAny P.M A (newList []) (fun acc s₃=>wpAny P.M A (newFunctionEnv scope env.globals cl [] env.qual none .none (some env)) (fun cenv s₄ =>
   codeAny P.M A (.compStart (.ListComp elt gens scope pos) 0 it acc { cenv with scope:=relabel scope env }) (RR acc cenv.locals) s₄) E s₃) E s₂) E s:=by
 subst hgens
 refine lG ?_; intro G
 obtain G:=T₀.good
 obtain F:=F₀.tr T₀
 obtain ⟨n,Pi,fx,ow,σ₂,src,hle,how,hfx,h⟩:=h
 refine src s _ _ (fun p hp=>?_) fun h₀ I wr Md St hk hnew KT hal hself hst hbig=>?_
 ·rcases List.mem_append.mp hp with hp | hp
  ·exact G.has _ _ (hle _ _ (hfx p hp))
  ·exact G.has _ _ (how p hp).1
 refine wpAny_newList ?_ (Nat.zero_le _)
 obtain hcell:∀ y ∈ scope.names,y.2≠.cell:=fun y hy=>by simpa using List.all_eq_true.mp ok.cell y hy
 refine wpAny_newFunctionEnv hcell (fun y hy=>by cases hy) (fun h₁ hns hsb=>?_) ok.kind
 dsimp only at hns hsb ⊢
 obtain hlow:h₀.objs.size≠sysModules:=big_of fun a o e=>hk _ _ (G.base a o e)
 generalize hD:h₀.objs.size = D at *
 revert D; refine keep ?_; intro D; set_option tactic.hygienic false in intros
 have hC:((h₀.push (lst [] 0))).objs.size = D + 1:=by rw [Heap.size_push,hD]
 rw [hC] at hns hsb ⊢
 have nD₀:h₀.get? D = none:=none_of (by rw [hD]; exact Nat.le_refl _)
 have nC₀:h₀.get? (D + 1) = none:=none_of (by rw [hD]; exact Nat.le_succ _)
 have back:∀ a,h₀.get? a = none→s.heap.get? a = none:=fun a e=>by
  cases q:s.heap.get? a with
  | none=>rfl
  | some o=>rw [hk a o q] at e; exact ns e
 obtain nD:=back _ nD₀
 obtain nC:=back _ nC₀
 have hne:D + 1≠D:=neN z28
 have old₀:∀ b o',h₀.get? b = some o'→h₁.get? b = some o':=fun b o' e =>
  hsb.extBut b o' (fun q=>by rw [q,nC₀] at e; exact nn e) (Heap.get?_push_of_some _ (Heap.get?_push_of_some _ e))
 have old:∀ b o',s.heap.get? b = some o'→h₁.get? b = some o':=fun b o' e=>old₀ b o' (hk b o' e)
 have acc₁:h₁.get? D = some (lst [] 0):=hsb.extBut _ _ hne.symm (Heap.get?_push_of_some _ (by
  have:=Heap.get?_push_size h₀ (o:=lst [] 0) rfl
  rwa [hD] at this))
 obtain ⟨J,h0,hfix,turn,fin⟩:=h D (D + 1) (σnone G nD)
 obtain σD:σ₂ D = none:=none_less hle (σnone G nD)
 obtain σC:σ₂ (D + 1) = none:=none_less hle (σnone G nC)
 obtain G₂:Good P σ₂ s:=G.less hle
 obtain T₁:Tr P [] σ s₀ (σ₂.set D (lst [] 0)) { s with heap:=h₁,toks:=s.toks + 0 }:=(T₀.less hle).trans (Tr.grown G₂ old nD acc₁ _ hlow)
 obtain σ₁C:(σ₂.set D (lst [] 0)) (D + 1) = none:=by rw [Store.set_ne hne]; exact σC
 obtain F₁:Fm P (compEnvC scope cl (D + 1) env) [D + 1] (σ₂.set D (lst [] 0)) h₁ (compVars cl m) :=
  comp_frame ok G₂ (F.less fun a e=>none_less hle e) nC (fun a ha hne'=>by
   rw [Store.set_ne]
   ·exact ha
   ·rintro rfl; exact hne' nD) σ₁C hns old
 have its:Its P (compEnvC scope cl (D + 1) env) [D + 1] wr (σ₂.set D (lst [] 0)) s₀ { s with heap:=h₁,toks:=s.toks + 0 }:=by
  have I:=its_src (h':=h₀) F₀ (T₀.wider (by simp)) hle how hnew (hal 0 h₀ hst)
  have alive:∀ b ∈ wr,b≠D∧b≠D + 1:=fun b hb=>by
   obtain ⟨o,e⟩:=hal 0 h₀ hst b hb
   exact And.intro (fun q=>by rw [q,nD₀] at e; cases e) (fun q=>by rw [q,nC₀] at e; exact nn e)
  refine ⟨fun b hb=>?_,I.new,I.g,fun b hb=>⟨fun h=>?_,fun h=>?_,fun x h=>?_⟩,fun b hb=>?_⟩
  ·rw [Store.set_ne (alive b hb).1]; exact I.un b hb
  ·exact (alive b hb).2 (List.mem_singleton.mp h)
  ·exact (alive b hb).2 h
  ·exact (I.off b hb).2.2 x (closure_cells ok.clos (x,b) (mem_of_lookup h))
  ·obtain ⟨o,e⟩:=hal 0 h₀ hst b hb; exact ⟨o,old₀ _ _ e⟩
 have hst₁:St 0 h₁:=KT.frame _ _ _ hst fun b hb o' e=>old₀ _ _ e
 refine compStart_any (target:=target) (iter:=iter) (ifs:=ifs) rfl (fun Q E q=>hself _ Q E hst₁ q) ?_
 refine compLoop (env:=compEnvC scope cl (D + 1) env) (W:=[D + 1]) (K:=fun σ _=>Fin D σ) (s₀:=s₀) (σ₀:=σ) rfl hsync KT hal (fixOf fx) J
  (fun i σ m hJ b hb hw=>by
   rcases List.mem_append.mp hb with hb | hb
   ·exact absurd hb hw
   ·exact fixOf_mem (hfix i σ m hJ) b hb)
  h0 hst₁ its F₁ (T₁.wider (W':=[D + 1]) (by simp))
  (fun i v σ m s hi hJ hv G F=>wpAny_mono (turn i v σ m s hi hv hJ G F) (fun _ s' ⟨σ',m',q,F',T'⟩=>⟨σ',m',xTests q,F',T'⟩) fun _ _ f=>f) fin ?_
 intro σ' m' s' q F' T'
 refine hRR _ (D + 1) σ' s' q ((Tr.refl G₀).close T' fun a ha=>.inr (by rw [List.mem_singleton] at ha; subst ha; exact T₀.alive _ nC)) (T₀.alive _ nC) (F'.un _ (.inl rfl)).1 (gnone G nC) ?_
 obtain ⟨mm,hn,_⟩:=F'.ns
 exact ⟨mm,hn⟩
theorem xListCompG {elt target iter:PySem.Expr} {ifs:List PySem.Expr} {rest:List Comprehension} {scope:Scope} {pos:Pos} {Q:Value→Store→Vars→Prop} {cl:List (Str × Addr)} (ok:CompOk env scope cl)
  (h:WP P A env [] (eval iter env) σ m (fun x σ₁ _=>CompGo P A env elt target ifs (⟨target,iter,ifs,0⟩ :: rest) scope pos cl (fun D σ'=>Q (.ref D) σ' m) σ x σ₁ m))
  (hsync:∀ g',(⟨target,iter,ifs,0⟩ :: rest)[0 + 1]? = some g'→g'.is_async = 0:=by intro g' h; cases h <;> rfl)
  (hs:∀ x,foldedSetIterable iter env x = pure x:=by intro _; rfl):WP P A env W (eval (.ListComp elt (⟨target,iter,ifs,0⟩ :: rest) scope pos) env) σ m Q:=fun s G F=>by
 rw [eval_ListComp]
 refine wpAny_comprehension_free (use:=none) rfl hs ok.clos ok.kind (namesOk ok.names) (wpAny_mono (h s G (F.wide (by simp))) (fun x s₁ ⟨σ₁,m₁,q,F₁,T₁⟩=>?_) fun _ _ f=>f)
 refine compBlockG rfl hsync ok G F T₁ q fun D C σ' s' hF T hC hσC hg hn=>?_
 obtain ⟨mm,hn⟩:=hn
 refine ⟨mm,hn,fun h' hs'=>?_⟩
 obtain T₃:=T.tail hs' hC hσC hg
 exact ⟨σ',m,hF,F.tr T₃,T₃.wider (by simp)⟩
theorem xAssignCompG {elt target iter:PySem.Expr} {ifs:List PySem.Expr} {rest:List Comprehension} {scope:Scope} {pos spos py:Pos} {y:Str} {Q:Flow→Store→Vars→Prop} {cl:List (Str × Addr)} (ok:CompOk env scope cl)
  (h:WP P A env [] (eval iter env) σ m (fun x σ₁ _=>CompGo P A env elt target ifs (⟨target,iter,ifs,0⟩ :: rest) scope pos cl (fun D σ'=>WP P A env W (storeName env y (.ref D)) σ' m (fun _ σ m=>Q .next σ m)) σ x σ₁ m))
  (hsw:swapsWith (.ListComp elt (⟨target,iter,ifs,0⟩ :: rest) scope pos) (some (.Name y py)) spos.line env = pure true:=by rfl)
  (hsync:∀ g',(⟨target,iter,ifs,0⟩ :: rest)[0 + 1]? = some g'→g'.is_async = 0:=by intro g' h; cases h <;> rfl)
  (hs:∀ x,foldedSetIterable iter env x = pure x:=by intro _; rfl):WP P A env W (exec (.Assign [.Name y py] (.ListComp elt (⟨target,iter,ifs,0⟩ :: rest) scope pos) spos) env) σ m Q:=fun s G F=>by
 rw [exec_Assign_Name_used _ _ _ _ hsw]
 refine wpAny_bind (wpAny_standAt (wpAny_bind ?_))
 refine wpAny_bind (wpAny_mono (wpAny_comprehension_free (use:=some (assign (.Name y py) env)) (Q:=fun _ s'=>Post P env W σ s Q .next s') rfl hs ok.clos ok.kind (namesOk ok.names)
  (wpAny_mono (h s G (F.wide (by simp))) (fun x s₁ ⟨σ₁,m₁,q,F₁,T₁⟩=>?_) fun _ _ f=>f)) (fun _ s' hq=>wpAny_pure (wpAny_pure hq)) fun _ _ e=>e)
 refine compBlockG rfl hsync ok G F T₁ q fun D C σ' s' hF T hC hσC hg hn=>?_
 refine lG ?_; intro G
 obtain ⟨mm,hn⟩:=hn
 refine wpAny_mono (xAsName hF s' T.good (F.tr T)) (fun _ s'' ⟨σ'',m'',q,F'',T''⟩=>?_) fun _ _ f=>f
 have hCW:C ∉ W:=fun hm=>by obtain ⟨_,_,o,e⟩:=F.wr C hm; rw [hC] at e; exact nn e
 have hn':s''.heap.Ns C mm:=ns_of_get hn fun o e=>T''.keep _ _ hσC hCW e
 refine ⟨mm,hn',fun h' hs'=>?_⟩
 refine lG ?_; intro G
 obtain TT:Tr P W σ s σ'' s'':=(T.wider (by simp)).trans T''
 refine lG ?_; intro G
 obtain ⟨o,_,_,eo,_⟩:=hn
 refine lG ?_; intro G
 obtain T₃:=TT.tail hs' hC (T''.gone hσC eo) hg
 refine ⟨σ'',m'',q,?_,T₃⟩
 refine lG ?_; intro G
 obtain hCL:env.locals≠C:=fun q=>by obtain ⟨_,⟨o,_,_,e,_⟩,_⟩:=F.ns; rw [q,hC] at e; exact nn e
 refine lG ?_; intro G
 obtain ⟨mm',hns,hmm⟩:=F''.ns
 refine ⟨⟨mm',hns.sameBut hs' hCL,hmm⟩,fun x a hc=>(F''.cell x a hc).sameBut hs' fun q=>?_,F''.un,F''.apart,F''.inj,fun a ha=>?_⟩
 ·refine lG ?_; intro G
  obtain ⟨o,e,_⟩:=F.cell x a hc; rw [q,hC] at e; exact nn e
 ·refine lG ?_; intro G
  obtain ⟨h1,h2,o,e⟩:=F''.wr a ha
  exact ⟨h1,h2,o,(hs'.2 a fun q=>hCW (q ▸ ha)).trans e⟩
end
section
variable {P:Par} {A:Around} {env:Env} {W:List Addr} {α β:Type} {σ:Store} {m:Vars} {ξ:Type}
theorem xEmit {e elt:PySem.Expr} {gens:List Comprehension} {depth:Nat} {D:Addr} {Q:Unit→Store→Vars→Prop} (hg:gens[depth + 1]? = none)
  (h:WP P A env W (eval elt env) σ m (fun v σ m=>(X2 fun vs k=>N3 (σ D = some (lst vs k)) (vs.length≤1000000) (∀ n',Q () (σ.set D (lst (vs ++ [v]) n')) m)))):WP P A env W (compInner e elt gens depth (.ref D) env) σ m Q:=by
 unfold compInner
 rw [hg]
 refine xBind (h.mono fun v σ m q=>?_)
 obtain ⟨vs,k,e,hz,q⟩:=q
 exact xBind (xOp (oAppend e hz fun n'=>xPure (q n')))
theorem xInner {elt target iter:PySem.Expr} {ifs:List PySem.Expr} {gens:List Comprehension} {scope:Scope} {pos:Pos} {depth:Nat} {D:Value} {Q:Unit→Store→Vars→Prop} (hg:gens[depth + 1]? = some ⟨target,iter,ifs,0⟩) (hsync:∀ g',gens[depth + 1 + 1]? = some g'→g'.is_async = 0)
  (h:WP P A env W (eval iter env) σ m (fun x σ₁ m₁=>(X4 fun (n:Nat) (Pi:Nat→Value→Heap→Prop) (fx:List (Addr × Obj)) (J:Nat→Store→Vars→Prop)=>N5 (Sr P A target x n Pi fx []) ((∀ i σ m,J i σ m→∀ p ∈ fx,σ p.1 = some p.2)) (J 0 σ₁ m₁) ((∀ i v σ m s,i < n→Pi i v s.heap→J i σ m→Good P σ s→Fm P env W σ s.heap m→wpAny P.M A (assign target env v) (Post P env W σ s (fun _ σ m=>Tests P A env W ifs σ m (fun ok σ m =>
    (ok = true→WP P A env W (compInner (.ListComp elt gens scope pos) elt gens (depth + 1) D env) σ m (fun _ σ m=>J (i + 1) σ m))∧(ok = false→J (i + 1) σ m)))) (fun _ _=>False) s)) (∀ σ m,J n σ m→Q () σ m))))
  (hs:∀ x,foldedSetIterable iter env x = pure x:=by intro _; rfl):WP P A env W (compInner (.ListComp elt gens scope pos) elt gens depth D env) σ m Q:=by
 unfold compInner
 rw [hg]
 refine xBind (h.mono fun x σ₁ m₁ q=>xBind (xStandAt (xBind ?_)))
 rw [hs x]
 refine xPure ?_
 intro s G F
 obtain ⟨n,Pi,fx,J,src,hfix,h0,turn,fin⟩:=q
 refine wpAny_bind (wpAny_holding (src s _ _ (fun p hp=>?_) fun h' I wr Md St hk hnew KT hal hself hst _=>?_))
 ·rw [List.append_nil] at hp; exact G.has _ _ (hfix 0 _ _ h0 p hp)
 obtain T₁:Tr P W σ₁ s σ₁ { s with heap:=h' }:=Tr.kept (tk:=s.toks) G hk
 refine wpAny_bind (wpAny_runOwn ?_)
 refine compStart_any (target:=target) (iter:=iter) (ifs:=ifs) hg (fun Q E q=>hself _ Q E hst q) ?_
 refine compLoop (K:=Q ()) hg hsync KT hal (fixOf fx) J
  (fun i σ m hJ b hb hw=>by
   rcases List.mem_append.mp hb with hb | hb
   ·exact absurd hb hw
   ·exact fixOf_mem (hfix i σ m hJ) b hb)
  h0 hst (its_src F (Tr.refl G) (Le.refl _) (fun p hp=>by cases hp) hnew (hal 0 h' hst)) (F.kept hk) T₁
  (fun i v σ m s hi hJ hv G F=>wpAny_mono (turn i v σ m s hi hv hJ G F) (fun _ s' ⟨σ',m',q,F',T'⟩=>⟨σ',m',xTests q,F',T'⟩) fun _ _ f=>f) fin ?_
 intro σ' m' s' q F' T'
 exact wpAny_pure ⟨σ',m',q,F',T'⟩
end
section
variable {P:Par} {A:Around} {env:Env} {W:List Addr} {α β:Type} {σ:Store} {m:Vars} {ξ:Type}
theorem Sr.weaken {target:PySem.Expr} {x:Value} {n:Nat} {Pi Pi':Nat→Value→Heap→Prop} {fx ow:List (Addr × Obj)} (h:Sr P A target x n Pi fx ow) (hp:∀ i v h,Pi i v h→Pi' i v h):Sr P A target x n Pi' fx ow:=fun s R E hf k =>
 h s R E hf fun h' I wr Md St h1 h2 KT h3 h4 h5 h6=>k h' I wr Md St h1 h2 (KTurns.weaken KT hp) h3 h4 h5 h6
def SrX (P:Par) (A:Around) (x:Value) (xs:List ξ) (E:ξ→Value→Prop) (fx:List (Addr × Obj)):Prop:=∀ target,Sr P A target x xs.length (fun i v _=>∃ y,xs[i]? = some y∧E y v) fx []
theorem srx_list {l:Addr} {vs:List Value} {k:Nat} {xs:List ξ} {E:ξ→Value→Prop} (hh:A.handled = none) (hE:All2 E xs vs):SrX P A (.ref l) xs E [(l,lst vs k)]:=fun target=>by
 have:=Sr.weaken (Sr.of (target:=target) (src_list (P:=P) (l:=l) (vs:=vs) (k:=k) hh)) (Pi':=fun i v _=>∃ y,xs[i]? = some y∧E y v) fun i v _ e=>hE.get' e
 rwa [← hE.length] at this
theorem srx_tuple {l:Addr} {vs:List Value} {k:Nat} {xs:List ξ} {E:ξ→Value→Prop} (hh:A.handled = none) (hE:All2 E xs vs):SrX P A (.ref l) xs E [(l,tup vs k)]:=fun target=>by
 have:=Sr.weaken (Sr.of (target:=target) (src_tuple (P:=P) (l:=l) (vs:=vs) (k:=k) hh)) (Pi':=fun i v _=>∃ y,xs[i]? = some y∧E y v) fun i v _ e=>hE.get' e
 rwa [← hE.length] at this
theorem kturns_bound {target:PySem.Expr} {I:Addr} {fp wr:List Addr} {n:Nat} {Pi Md:Nat→Value→Heap→Prop} {St:Nat→Heap→Prop} (KT:KTurns P.prog P.w A target I fp wr n Pi Md St):KTurns P.prog P.w A target I fp wr n (fun i v h=>i < n∧Pi i v h) (fun i v h=>i < n∧Md i v h) St :=
 ⟨KT.sub,KT.frame,fun i s Q E hi hst q=>KT.item i s Q E hi hst fun v h' tk md k=>q v h' tk ⟨hi,md⟩ k,fun i v s Q E md q=>KT.go i v s Q E md.2 fun h' p st k=>q h' ⟨md.1,p⟩ st k,KT.done⟩
theorem srx_range {r:Addr} {n:Nat} {t u v:Tok} (hh:A.handled = none) (hn:n≤1000000):SrX P A (.ref r) (List.range n) (fun i v=>∃ t,v = .int (i:Nat) t) [(r,rng 0 n 1 t u v)]:=fun target=>by
 rw [List.length_range]
 have:=Sr.of (target:=target) (src_range (P:=P) (r:=r) (t:=t) (u:=u) (v:=v) hh hn)
 intro s R E hf k
 refine this s R E hf fun h' I wr Md St h1 h2 KT h3 h4 h5 h6=>k h' I wr _ St h1 h2 (KTurns.weaken (kturns_bound KT) ?_) h3 h4 h5 h6
 rintro i v h ⟨hi,t,rfl⟩
 exact ⟨i,List.getElem?_range hi,t,rfl⟩
theorem xForX {x:Str} {px:Pos} {iter:PySem.Expr} {body:List Stmt} {pos:Pos} {Q:Flow→Store→Vars→Prop}
  (h:WP P A env W (eval iter env) σ m (fun v σ m=>(X4 fun (xs:List ξ) (E:ξ→Value→Prop) (fx:List (Addr × Obj)) (J:Nat→Store→Vars→Prop)=>N5 (SrX P A v xs E fx) ((∀ i σ m,J i σ m→∀ p ∈ fx,σ p.1 = some p.2)) (J 0 σ m) ((∀ i y v σ m,xs[i]? = some y→E y v→J i σ m→WP P A env W (storeName env x v) σ m (fun _ σ m=>WP P A env W (execs body env) σ m (Turn (J (i + 1)) Q)))) (∀ σ m,J xs.length σ m→Q .next σ m))))
  (hs:∀ x,foldedSetIterable iter env x = pure x:=by intro _; rfl):WP P A env W (exec (.For (.Name x px) iter body [] pos) env) σ m Q :=
 xForG (h.mono fun v σ m q=>by
  refine lG ?_; intro G
  obtain ⟨xs,E,fx,J,S,hfix,h0,turn,fin⟩:=q
  exact ⟨xs.length,_,fx,[],σ,J,S _,Le.refl _,fun p hp=>(by cases hp),hfix,h0,fun i v σ m s hi hJ ⟨y,hy,hE⟩ G F=>(xAsName (turn i y v σ m hy hE hJ)) s G F,fin⟩) hs
theorem Tests.mono:∀ {ifs:List PySem.Expr} {σ:Store} {m:Vars} {Q Q':Bool→Store→Vars→Prop},Tests P A env W ifs σ m Q→(∀ b σ m,Q b σ m→Q' b σ m)→Tests P A env W ifs σ m Q'
 | [],_,_,_,_,h,hq=>hq _ _ _ h
 | _ :: _,_,_,_,_,h,hq=>WP.mono h fun _ _ _ q=>⟨fun hb=>Tests.mono (q.1 hb) hq,fun hb=>hq _ _ _ (q.2 hb)⟩
theorem filter_take_succ {xs:List ξ} {i:Nat} {y:ξ} (h:xs[i]? = some y) (p:ξ→Bool):(xs.take (i + 1)).filter p = (xs.take i).filter p ++ if p y = true then [y] else []:=by
 rw [List.take_add_one,h,List.filter_append]
 simp only [Option.toList_some]
 congr 1
 cases q:p y <;> simp [q]
theorem compGo_map {elt:PySem.Expr} {x:Str} {px:Pos} {ifs:List PySem.Expr} {iter:PySem.Expr} {scope:Scope} {pos:Pos} {cl:List (Str × Addr)} {Fin:Addr→Store→Prop} {xv:Value} {σ₁:Store}
  (xs:List ξ) (E:ξ→Value→Prop) (fx:List (Addr × Obj)) (p:ξ→Bool) (R:ξ→Value→Store→Prop) (S:SrX P A xv xs E fx) (hfx:∀ p ∈ fx,σ₁ p.1 = some p.2) (hz:xs.length≤1000000) (hR:∀ y v,Stay (R y v))
  (hl:∀ C,(compEnvC scope cl C env).kindOf x = some .local) (hc:cl.lookup x = none) (hk:scope.kind = .function)
  (turn:∀ C y v σ' m',y ∈ xs→E y v→Le σ₁ σ'→(∀ z,z≠x→m' z = compVars cl m z)→m' x = some v →
   Tests P A (compEnvC scope cl C env) [C] ifs σ' m' (fun ok σ'' m''=>ok = p y∧σ'' = σ'∧m'' = m') ∧
   (p y = true→WP P A (compEnvC scope cl C env) [C] (eval elt (compEnvC scope cl C env)) σ' m' (fun w σ'' m''=>Le σ' σ''∧m'' = m'∧R y w σ'')))
  (fin:∀ D ws k σ',Le σ₁ σ'→σ₁ D = none→σ' D = some (lst ws k)→All2 (fun y w=>R y w σ') (xs.filter p) ws→Fin D σ') :
  CompGo P A env elt (.Name x px) ifs [⟨.Name x px,iter,ifs,0⟩] scope pos cl Fin σ xv σ₁ m:=by
 refine ⟨xs.length,_,fx,[],σ₁,S _,Le.refl _,fun p hp=>(by cases hp),hfx,fun D C hD=>⟨fun i σ' m'=>(X2 fun ws k=>N4 (σ' D = some (lst ws k)) (Le σ₁ σ') (All2 (fun y w=>R y w σ') ((xs.take i).filter p) ws) ((∀ z,z≠x→m' z = compVars cl m z))),?_,?_,?_,?_⟩⟩
 ·exact ⟨[],0,Store.set_same ..,Le.new hD,.nil,fun _ _=>rfl⟩
 ·rintro i σ m ⟨_,_,_,h,_⟩ p hp
  exact h _ _ (hfx p hp)
 ·rintro i v σ' m' s hi ⟨y,hy,hE⟩ ⟨ws,k,e,hle,h2,hm⟩ G F
  have hlen:ws.length≤1000000:=by rw [← h2.length]; exact Nat.le_trans (List.length_filter_le _ _) (Nat.le_trans (by rw [List.length_take]; exact z29) hz)
  refine (xAsName (xStore (hl C) hc (by exact .head _) ?_ hk)) s G F
  obtain ⟨t1,t2⟩:=turn C y v σ' (m'.set x v) (List.mem_of_getElem? hy) hE hle (fun z hz=>by show (if z = x then _ else _) = _; rw [if_neg hz]; exact hm z hz) (if_pos rfl)
  refine t1.mono ?_
  rintro ok _ _ ⟨rfl,rfl,rfl⟩
  refine ⟨fun ht=>xEmit rfl ((t2 ht).mono ?_),fun hf=>?_⟩
  ·rintro w σ'' _ ⟨hle',rfl,hw⟩
   refine ⟨ws,k,hle' _ _ e,hlen,fun n'=>⟨ws ++ [w],n',Store.set_same ..,?_,?_,fun z hz=>by show (if z = x then _ else _) = _; rw [if_neg hz]; exact hm z hz⟩⟩
   ·exact (hle.trans hle').set hD
   ·rw [filter_take_succ hy,if_pos ht]
    have stay:∀ a o,isLst o = false→σ'' a = some o→(σ''.set D (lst (ws ++ [w]) n')) a = some o:=fun a o hl ea=>by
     rw [Store.set_ne]
     ·exact ea
     ·rintro rfl; rw [hle' _ _ e] at ea; cases ea; exact absurd hl (by unfold isLst; simp)
    exact (h2.mono fun y w h=>hR y w _ _ (hR y w _ _ h fun a o _ ea=>hle' a o ea) stay).append (.cons (hR _ _ _ _ hw stay) .nil)
  ·refine ⟨ws,k,e,hle,?_,fun z hz=>by show (if z = x then _ else _) = _; rw [if_neg hz]; exact hm z hz⟩
   rw [filter_take_succ hy,if_neg (by rw [hf]; decide),List.append_nil]
   exact h2
 ·rintro σ' m' ⟨ws,k,e,hle,h2,_⟩
  rw [List.take_length] at h2
  exact fin D ws k σ' hle hD e h2
end
abbrev NKV:=List (Nat × Value)
def castL (l:NKV):List (Int × Value):=l.map fun p=>((p.1:Int),p.2)
def dput (l:NKV) (k:Nat) (v:Value):NKV:=if (l.lookup k).isSome = true then l.map (fun p=>if p.1 = k then (p.1,v) else p) else l ++ [(k,v)]
def ddel (l:NKV) (k:Nat):NKV:=l.filter fun p=>decide (p.1≠k)
theorem valueAt_cast:∀ (l:NKV) (k:Nat),valueAt (castL l) (k:Int) = l.lookup k
 | [],_=>rfl
 | (k',v) :: l,k=>by
  have ih:=valueAt_cast l k
  unfold valueAt castL at *
  rw [List.map_cons,List.find?_cons,List.lookup_cons]
  by_cases h:k' = k
  ·subst h; simp
  ·have h1:((k':Int) = (k:Int)) = False:=by simp; exact z30 h
   have h2:(k == k') = false:=beq_eq_false_iff_ne.mpr (Ne.symm h)
   simp only [h1,decide_false,h2]
   exact ih
theorem any_cast (l:NKV) (k:Nat):(castL l).any (fun kv=>decide (kv.1 = (k:Int))) = (l.lookup k).isSome:=by
 induction l with
 | nil=>rfl
 | cons p l ih =>
  unfold castL at *
  rw [List.map_cons,List.any_cons,List.lookup_cons,ih]
  by_cases h:p.1 = k
  ·rw [h]; simp
  ·obtain h1:((p.1:Int) = (k:Int)) = False:=by simp; exact z30 h
   obtain h2:(k == p.1) = false:=beq_eq_false_iff_ne.mpr (Ne.symm h)
   simp [h1,h2]
theorem stored_cast (l:NKV) (k:Nat) (v:Value):stored (castL l) (k:Int) v = castL (dput l k v):=by
 unfold stored dput
 rw [any_cast]
 split
 ·unfold castL
  rw [List.map_map,List.map_map]
  apply List.map_congr_left
  intro p _
  by_cases h:p.1 = k
  ·simp [h]
  ·obtain h1:¬ ((p.1:Int) = (k:Int)):=(z30 h)
   simp [h,h1]
 ·unfold castL; simp
theorem without_cast (l:NKV) (k:Nat):without (castL l) (k:Int) = castL (ddel l k):=by
 unfold without ddel castL
 rw [List.filter_map]
 congr 1
 apply List.filter_congr
 intro p _
 simp only [Function.comp]
 by_cases h:p.1 = k
 ·simp [h]
 ·have h1:¬ ((p.1:Int) = (k:Int)):=(z30 h)
  simp [h,h1]
section
variable {prog:Program} {w:World} {K:Type} [DecidableEq K] {knd:HeapKind prog w K} {A:Around} {E:Value→Shared→Prop} {s:Shared}
theorem dictSetDefault_heap {d a:Addr} {xs:List (K × Addr × Value)} {k:K} {v:Value} {Q:Value→Shared→Prop} (hu:knd.room A) (hkey:knd.is s.heap k a) (hm:s.heap.DictOfH knd d xs)
  (hsome:∀ p,atKey xs k = some p→Q p.2 { s with toks:=s.toks + knd.draws k })
  (hQ:atKey xs k = none→∀ h',h'.DictOfH knd d (storedH xs k a v)→Heap.SameBut d s.heap h'→Q v { s with heap:=h',toks:=s.toks + knd.draws k })
  (hsz:xs.length≤sizeLine):wpAny (model prog w) A (dictSetDefault d (.ref a) v) Q E s:=by
 obtain ⟨o,es,ep,ho,hc,hd,he,his,hn⟩:=hm
 unfold dictSetDefault
 try with_reducible refine wpAny_holding ?_
 refine wpAny_bind (knd.pyHash hu hkey ?_)
 refine wpAny_bind (wpAny_dictFind_heap (s:={ s with toks:=s.toks + knd.draws k }) hu hkey ho hd he his hn ?_ ?_)
 ·intro hno
  obtain hnot:k ∉ xs.map (·.1):=not_mem_keys_of_get hno
  refine wpAny_bind (wpAny_rule (wpAny_bind (wpAny_updateDictKeys (hz:=by have e:=size_of_entries he; exact z31 hsz e) (s:={ s with toks:=s.toks + knd.draws k }) ho hd (wpAny_pure (hQ (atKey_none_of_get hno) _ ⟨_,_,ep + 1,Heap.get?_update_self _ ho (Obj.isFreed_of_dict (Obj.data_mapDictKeys hd _)),
   hc.mapDictKeys _,Obj.data_mapDictKeys hd _,?_,?_,?_⟩ (Heap.SameBut.update ..))))))
  ·rw [storedH_new (atKey_none_of_get hno)]
   simp [he,entryOfKey]
  ·rw [storedH_new (atKey_none_of_get hno)]
   intro x hx
   rcases List.mem_append.mp hx with hx | hx
   ·exact knd.keeps (his x hx) ho hd (Heap.SameBut.update ..)
   ·simp only [List.mem_singleton] at hx
    subst hx
    exact knd.keeps hkey ho hd (Heap.SameBut.update ..)
  ·rw [storedH_new (atKey_none_of_get hno)]
   rw [List.map_append,List.nodup_append]
   refine ⟨hn,by simp,?_⟩
   intro x hx y hy
   simp only [List.map_cons,List.map_nil,List.mem_singleton] at hy
   subst hy
   exact fun e=>hnot (e ▸ hx)
 ·intro j p hj
  refine wpAny_bind (wpAny_dictEntries (s:={ s with toks:=s.toks + knd.draws k }) ho hd ?_)
  rw [entry_at he j,hj]
  exact wpAny_bind (wpAny_rule (wpAny_pure (hsome p (atKey_of_get hn hj))))
end
section
variable {P:Par} {A:Around} {env:Env} {W:List Addr} {α β:Type} {σ:Store} {m:Vars} {ξ:Type}
def DN (P:Par) (σ:Store) (d:Addr) (l:NKV):Prop:=∃ o,σ d = some o∧o.IsDictOf (intKind P.prog P.w) (castL l)
theorem DN.heap {d:Addr} {l:NKV} {s:Shared} (D:DN P σ d l) (G:Good P σ s):s.heap.DictOf (intKind P.prog P.w) d (castL l):=let ⟨o,e,h⟩:=D; Heap.dictOf_iff.mpr ⟨o,G.has _ _ e,h⟩
theorem DN.keep {σ':Store} {d:Addr} {l:NKV} (D:DN P σ d l) (h:∀ o,o.cls = .type "dict"→σ d = some o→σ' d = some o):DN P σ' d l:=let ⟨o,e,x⟩:=D; ⟨o,h o (let ⟨_,_,y,_⟩:=x; y.1) e,x⟩
theorem DN.low {d:Addr} {l:NKV} {s:Shared} (D:DN P σ d l) (G:Good P σ s):(d == sysModules) = false:=let ⟨o,e,_⟩:=D; beq_eq_false_iff_ne.mpr (G.low d o e)
theorem castL_length (l:NKV):(castL l).length = l.length:=by unfold castL; simp
theorem oDNotIn {d:Addr} {l:NKV} {k:Nat} {t:Tok} {Q:Value→Store→Prop} (D:DN P σ d l) (h:Q (.bool (!(l.lookup k).isSome)) σ):Op P A (compareOp .NotIn (.int (k:Int) t) (.ref d)) σ Q:=fun s G =>
 wpAny_notIn_of (intKind_is _ _ _ _) (D.low G) (D.heap G).mapOf ⟨σ,by rw [valueAt_cast]; exact h,Tr.toks G _⟩
theorem oDGet {d:Addr} {l:NKV} {k:Nat} {t:Tok} {v:Value} {Q:Value→Store→Prop} (D:DN P σ d l) (hv:l.lookup k = some v) (h:Q v σ):Op P A (getItem (.ref d) (.int (k:Int) t)) σ Q:=fun _ G =>
 wpAny_getItem_of (intKind_is _ _ _ _) (D.heap G).mapOf ((valueAt_cast l k).trans hv) ⟨σ,h,Tr.toks G _⟩
theorem oDSet {d:Addr} {l:NKV} {k:Nat} {t:Tok} {v:Value} {Q:Unit→Store→Prop} (D:DN P σ d l) (hz:l.length≤1000000) (h:∀ o,DN P (σ.set d o) d (dput l k v)→Q () (σ.set d o)):Op P A (setItem (.ref d) (.int (k:Int) t) v) σ Q:=fun s G=>by
 refine wpAny_setItem_pairs (intKind_is _ _ _ _) (D.heap G) (fun h' hd hs=>?_) (by rw [castL_length,sizeLine_eq]; exact z11 hz)
 rw [stored_cast] at hd
 obtain ⟨o₀,e₀,_⟩:=D
 obtain ⟨o,e,hd⟩:=Heap.dictOf_iff.mp hd
 exact ⟨_,h o ⟨o,Store.set_same ..,hd⟩,Tr.upd G e₀ hs e _⟩
theorem oDPop {d:Addr} {l:NKV} {k:Nat} {t:Tok} {v:Value} {Q:Value→Store→Prop} (D:DN P σ d l) (hz:l.length≤1000000) (hv:l.lookup k = some v) (h:∀ o,DN P (σ.set d o) d (ddel l k)→Q v (σ.set d o)):Op P A (call (.builtin "dict.pop") [.ref d,.int (k:Int) t]) σ Q:=fun s G=>by
 obtain x:=D.heap G
 refine call_meetsIn F.slot_dict_pop x.typeIs F.entry_dict_pop (F.args_dict_pop_2 _ _) (meets_dict_pop_there (intKind P.prog P.w) (k:=(k:Int)) d (intKind_is _ _ _ _) [] (.inl rfl) rfl) ⟨castL l,v,x,by rw [castL_length,sizeLine_eq]; exact z11 hz,(valueAt_cast l k).trans hv,fun h' hd hs=>?_⟩
 rw [without_cast] at hd
 obtain ⟨o₀,e₀,_⟩:=D
 obtain ⟨o,e,hd⟩:=Heap.dictOf_iff.mp hd
 exact ⟨_,h o ⟨o,Store.set_same ..,hd⟩,Tr.upd G e₀ hs e _⟩
theorem oMethDPop {d:Addr} {l:NKV} {pl:Sem Bool} {Q:Value × List Value→Store→Prop} (D:DN P σ d l) (h:Q (.builtin "dict.pop",[.ref d]) σ):Op P A (getMethod (.ref d) "pop" pl) σ Q :=
 let ⟨_,e,_,_,x,_⟩:=D
 oMethB e x.1 x.2.1 F.plainAttrs_dict F.slot_dict_pop F.type_dict_pop h
theorem dn_new:({ cls:=.type "dict",data:=.dict #[] }:Obj).IsDictOf (intKind P.prog P.w) (castL []):=⟨#[],0,⟨rfl,rfl,rfl⟩,rfl,fun _ he=>by simp at he,Pairs.nil,List.nodup_nil⟩
theorem xDict0 {pos:Pos} {Q:Value→Store→Vars→Prop} (h:∀ a,σ a = none→Q (.ref a) (σ.set a { cls:=.type "dict",data:=.dict #[] }) m):WP P A env W (eval (.Dict [] [] pos) env) σ m Q:=by
 rw [arm_eval_Dict]
 refine xBind (xStandAt (xOp fun s G=>?_))
 obtain e1:dictDisplay ((evalEachOpt [] env).zip ((evalEach [] env).map fun v=>do let x ← v; standAt pos; pure x)) = dictDisplay []:=rfl
 rw [e1]
 unfold dictDisplay
 simp only [List.forIn_nil,pure_bind]
 refine wpAny_bind (wpAny_pure (wpAny_newObj_type ?_))
 exact ⟨_,h _ (σnone G (none_of (Nat.le_refl _))),Tr.push G _ rfl s.toks⟩
abbrev Node:=Str × List Nat
def mixKind (prog:Program) (w:World):KeyKind prog w (Str ⊕ Int) where
 is:=fun k v=>match k with | .inl s=>v.isStrOf s | .inr i=>v.isInt i
 hash:=fun k=>match k with | .inl s=>hashStr w s | .inr i=>hashInt i
 inj:=fun v a b ha hb=>by
  cases a <;> cases b <;> dsimp only at ha hb
  ·rw [Value.isStrOf_inj _ _ _ ha hb]
  ·obtain ⟨t,rfl⟩:=Value.isStrOf_shape ha; cases hb
  ·obtain ⟨t,rfl⟩:=Value.isStrOf_shape hb; cases ha
  ·rw [Value.isInt_inj _ _ _ ha hb]
 byValue:=fun k v h=>by
  cases k <;> dsimp only at h
  ·obtain ⟨t,rfl⟩:=Value.isStrOf_shape h; rfl
  ·obtain ⟨t,rfl⟩:=Value.isInt_shape h; rfl
 pyHash:=fun {A E s k v Q} hv h=>by
  cases k <;> dsimp only at hv h
  ·obtain ⟨t,rfl⟩:=Value.isStrOf_shape hv; exact wpAny_pyHash_str h
  ·obtain ⟨t,rfl⟩:=Value.isInt_shape hv; exact wpAny_pyHash_int h
 eqBool:=fun {A E s a b u v Q} hu hv h=>by
  rcases a with a | a <;> rcases b with b | b <;> dsimp only at hu hv
  ·obtain ⟨t,rfl⟩:=Value.isStrOf_shape hu
   obtain ⟨t,rfl⟩:=Value.isStrOf_shape hv
   exact wpAny_eqBool_str (by simpa using h)
  ·obtain ⟨t,rfl⟩:=Value.isStrOf_shape hu
   obtain ⟨t,rfl⟩:=Value.isInt_shape hv
   exact PySem.SeqAt.EqAt.str_int _ _ _ _ prog w E _ (by simpa using h)
  ·obtain ⟨t,rfl⟩:=Value.isInt_shape hu
   obtain ⟨t,rfl⟩:=Value.isStrOf_shape hv
   exact PySem.SeqAt.EqAt.int_str _ _ _ _ prog w E _ (by simpa using h)
  ·obtain ⟨t,rfl⟩:=Value.isInt_shape hu
   obtain ⟨t,rfl⟩:=Value.isInt_shape hv
   refine wpAny_eqBool_int ?_
   have e:decide ((Sum.inr a:Str ⊕ Int) = Sum.inr b) = (a == b):=by
    rw [Bool.eq_iff_iff]; simp
   rwa [← e]
 «strs»:=fun k x t v h=>by
  cases k <;> dsimp only at h ⊢
  ·obtain ⟨u,hu⟩:=Value.isStrOf_shape h
   injection hu with hx
   subst hx
   cases v <;> rfl
  ·cases h
theorem mix_str (prog:Program) (w:World) (x:Str) (t:Tok):(mixKind prog w).is (.inl x) (.str x t) = true:=by simp [mixKind,Value.isStrOf]
theorem mix_int (prog:Program) (w:World) (i:Int) (t:Tok):(mixKind prog w).is (.inr i) (.int i t) = true:=by simp [mixKind,Value.isInt]
abbrev nodeKind (P:Par):HeapKind P.prog P.w (List (Str ⊕ Int)):=tupleKind (mixKind P.prog P.w)
def nk (nd:Node):List (Str ⊕ Int):=.inl nd.1 :: nd.2.map fun (k:Nat)=>.inr (k:Int)
theorem nk_inj {a b:Node} (h:nk a = nk b):a = b:=by
 obtain ⟨x,ks⟩:=a
 obtain ⟨y,ls⟩:=b
 unfold nk at h
 rw [List.cons.injEq] at h
 obtain ⟨h1,h2⟩:=h
 cases h1
 have:ks = ls:=List.map_inj_right (f:=fun k:Nat=>(Sum.inr (k:Int):Str ⊕ Int)) (fun a b e=>by injection e with e; exact Int.ofNat.inj e) |>.mp h2
 rw [this]
def NodeAt (σ:Store) (v:Value) (nd:Node):Prop:=(X4 fun a k t vs=>N3 (v = .ref a) (σ a = some (tup (.str nd.1 t :: vs) k)) (Ns vs nd.2))
theorem items_ns:∀ {vs:List Value} {ns:List Nat},Ns vs ns→PySem.ItemsAre (mixKind P.prog P.w) (ns.map fun (k:Nat)=>.inr (k:Int)) vs
 | [],[],_=>.nil
 | [],_ :: _,h=>by cases h
 | _ :: _,[],h=>by cases h
 | v :: vs,n :: ns,h=>by
  unfold Ns at h
  rw [List.map_cons,List.map_cons,List.cons.injEq] at h
  obtain ⟨t,e⟩:=of_natOf h.1
  subst e
  exact .cons (mix_int _ _ _ _) (items_ns h.2)
theorem NodeAt.key {a:Addr} {nd:Node} {s:Shared} (h:NodeAt σ (.ref a) nd) (G:Good P σ s):(nodeKind P).is s.heap (nk nd) a:=by
 obtain ⟨a',k,t,vs,e,h,hn⟩:=h
 cases e
 exact ⟨_,_,k,G.has _ _ h,rfl,rfl,.cons (mix_str _ _ _ _) (items_ns hn)⟩
theorem NodeAt.mono {σ σ':Store} {v:Value} {nd:Node} (h:NodeAt σ v nd) (k:∀ a o,o.cls = .type "tuple"→σ a = some o→σ' a = some o):NodeAt σ' v nd:=let ⟨a,n,t,vs,e,x,y⟩:=h; ⟨a,n,t,vs,e,k _ _ rfl x,y⟩
theorem all2_keys {l:List (Node × Nat)} {xs:List (List (Str ⊕ Int) × Addr × Value)} {R:Addr→Node→Prop} {S:Nat→Value→Prop} (h:All2 (fun (p:Node × Nat) (x:List (Str ⊕ Int) × Addr × Value)=>x.1 = nk p.1∧R x.2.1 p.1∧S p.2 x.2.2) l xs):xs.map (·.1) = l.map fun p=>nk p.1:=by
 induction h with
 | nil=>rfl
 | cons h _ ih=>rw [List.map_cons,List.map_cons,ih,h.1]
theorem nodup_nk {l:List (Node × Nat)} (h:(l.map (·.1)).Nodup):(l.map fun p=>nk p.1).Nodup:=by
 have:(l.map fun p=>nk p.1) = (l.map (·.1)).map nk:=by rw [List.map_map]; rfl
 rw [this]
 exact List.Pairwise.map nk (fun a b hab e=>hab (nk_inj e)) h
theorem atKey_nk {l:List (Node × Nat)} {xs:List (List (Str ⊕ Int) × Addr × Value)} {R:Addr→Node→Prop} {S:Nat→Value→Prop} (h:All2 (fun (p:Node × Nat) (x:List (Str ⊕ Int) × Addr × Value)=>x.1 = nk p.1∧R x.2.1 p.1∧S p.2 x.2.2) l xs) (nd:Node) :
  (l.lookup nd = none∧atKey xs (nk nd) = none)∨∃ n a v,l.lookup nd = some n∧atKey xs (nk nd) = some (a,v)∧R a nd∧S n v:=by
 induction h with
 | nil=>exact .inl ⟨rfl,rfl⟩
 | @cons p x ps xs h _ ih =>
  obtain ⟨pk,pn⟩:=p
  unfold atKey at ih ⊢
  rw [List.lookup_cons,List.find?_cons]
  by_cases q:nd = pk
  ·subst q
   rw [beq_self_eq_true,h.1,decide_eq_true rfl]
   exact .inr ⟨_,_,_,rfl,rfl,h.2.1,h.2.2⟩
  ·rw [beq_eq_false_iff_ne.mpr q,decide_eq_false fun e=>q (nk_inj (h.1.symm.trans e).symm)]
   exact ih
def DT (P:Par) (σ:Store) (d:Addr) (l:List (Node × Nat)):Prop :=
 (X4 fun o es ep xs=>N6 (σ d = some o) (o.ExactDict) (o.data = .dict es ep) (es.toList = List.map (entryOfKey (nodeKind P)) xs) (All2 (fun (p:Node × Nat) (x:List (Str ⊕ Int) × Addr × Value)=>x.1 = nk p.1∧NodeAt σ (.ref x.2.1) p.1∧∃ t,x.2.2 = .int (p.2:Nat) t) l xs) ((l.map (·.1)).Nodup))
theorem DT.heap {d:Addr} {l:List (Node × Nat)} {s:Shared} (D:DT P σ d l) (G:Good P σ s):∃ xs,s.heap.DictOfH (nodeKind P) d xs∧All2 (fun (p:Node × Nat) (x:List (Str ⊕ Int) × Addr × Value)=>x.1 = nk p.1∧NodeAt σ (.ref x.2.1) p.1∧∃ t,x.2.2 = .int (p.2:Nat) t) l xs:=by
 obtain ⟨o,es,ep,xs,e,ho,hd,he,h2,hn⟩:=D
 refine ⟨xs,⟨o,es,ep,G.has _ _ e,ho,hd,he,fun x hx=>?_,?_⟩,h2⟩
 ·obtain ⟨p,_,h1,h3,_⟩:=h2.mem hx
  rw [h1]; exact h3.key G
 ·rw [all2_keys (R:=fun a nd=>NodeAt σ (.ref a) nd) (S:=fun n v=>∃ t,v = .int (n:Nat) t) h2]; exact nodup_nk hn
theorem DT.low {d:Addr} {l:List (Node × Nat)} {s:Shared} (D:DT P σ d l) (G:Good P σ s):(d == sysModules) = false:=let ⟨o,_,_,_,e,_,_,_,_,_⟩:=D; beq_eq_false_iff_ne.mpr (G.low d o e)
theorem DT.keep {σ':Store} {d:Addr} {l:List (Node × Nat)} (D:DT P σ d l) (hd:∀ o,σ d = some o→σ' d = some o) (h:∀ a o,o.cls = .type "tuple"→σ a = some o→σ' a = some o):DT P σ' d l :=
 let ⟨o,es,ep,xs,e,ho,hda,he,h2,hn⟩:=D; ⟨o,es,ep,xs,hd _ e,ho,hda,he,h2.mono fun _ _ x=>⟨x.1,x.2.1.mono h,x.2.2⟩,hn⟩
theorem oTIn {d a:Addr} {l:List (Node × Nat)} {nd:Node} {Q:Value→Store→Prop} (hR:Rm A 1) (D:DT P σ d l) (N:NodeAt σ (.ref a) nd) (h:Q (.bool (l.lookup nd).isSome) σ):Op P A (compareOp .In (.ref a) (.ref d)) σ Q:=fun s G=>by
 obtain ⟨xs,hm,h2⟩:=D.heap G
 refine wpAny_in_heap (tupleKind_room_in1 (by have:=hR.units; exact z34 this)) (N.key G) (D.low G) hm ⟨σ,?_,Tr.toks G _⟩
 rcases atKey_nk (R:=fun a nd=>NodeAt σ (.ref a) nd) (S:=fun n v=>∃ t,v = .int (n:Nat) t) h2 nd with ⟨h1,h3⟩ | ⟨n,b,v,h1,h3,_⟩ <;> (rw [h3]; rw [h1] at h; exact h)
theorem oTGet {d a:Addr} {l:List (Node × Nat)} {nd:Node} {dflt:Value} {Q:Value→Store→Prop} (hR:Rm A 1) (D:DT P σ d l) (N:NodeAt σ (.ref a) nd) (h0:l.lookup nd = none→Q dflt σ) (h1:∀ n t,l.lookup nd = some n→Q (.int (n:Nat) t) σ):Op P A (call (.builtin "dict.get") [.ref d,.ref a,dflt]) σ Q:=fun s G=>by
 obtain ⟨xs,hm,h2⟩:=D.heap G
 refine call_meetsIn F.slot_dict_get hm.typeIs F.entry_dict_get (F.args_dict_get_3 _ _ _) (meetsH_dict_get_default (nodeKind P) d a (D.low G) dflt) ⟨tupleKind_room_in1 (by have:=hR.units; exact z34 this),nk nd,xs,N.key G,hm,?_⟩
 rcases atKey_nk (R:=fun a nd=>NodeAt σ (.ref a) nd) (S:=fun n v=>∃ t,v = .int (n:Nat) t) h2 nd with ⟨q1,q3⟩ | ⟨n,b,v,q1,q3,_,t,rfl⟩
 ·rw [q3]; exact ⟨σ,h0 q1,Tr.toks G _⟩
 ·rw [q3]; exact ⟨σ,h1 n t q1,Tr.toks G _⟩
theorem DT.put {d a:Addr} {l:List (Node × Nat)} {nd:Node} {n:Nat} {t:Tok} {xs:List (List (Str ⊕ Int) × Addr × Value)} {s:Shared} {h':Heap} (G:Good P σ s) (D:DT P σ d l) (N:NodeAt σ (.ref a) nd) (hnew:l.lookup nd = none)
  (h2:All2 (fun (p:Node × Nat) (x:List (Str ⊕ Int) × Addr × Value)=>x.1 = nk p.1∧NodeAt σ (.ref x.2.1) p.1∧∃ t,x.2.2 = .int (p.2:Nat) t) l xs) (hd:h'.DictOfH (nodeKind P) d (storedH xs (nk nd) a (.int (n:Nat) t))) (hs:Heap.SameBut d s.heap h') (tk:Nat) :
  ∃ o,DT P (σ.set d o) d (l ++ [(nd,n)])∧Tr P [] σ s (σ.set d o) { s with heap:=h',toks:=tk }:=by
 obtain ⟨o₀,_,_,_,e₀,ho₀,hd₀,_,_,hn⟩:=D
 rcases atKey_nk (R:=fun a nd=>NodeAt σ (.ref a) nd) (S:=fun n v=>∃ t,v = .int (n:Nat) t) h2 nd with ⟨_,q3⟩ | ⟨_,_,_,q1,_⟩
 ·rw [storedH_new q3] at hd
  obtain ⟨o,es,ep,e,ho,hda,he,_,_⟩:=hd
  have stay:∀ b nd,NodeAt σ (.ref b) nd→NodeAt (σ.set d o) (.ref b) nd:=fun b nd ⟨a',k,t,vs,e1,e2,e3⟩=>by
   refine ⟨a',k,t,vs,e1,?_,e3⟩
   rw [Store.set_ne]
   ·exact e2
   ·rintro rfl; rw [e₀] at e2; cases e2; exact absurd ho₀.1 (by intro h; injection h with h; revert h; decide)
  refine ⟨o,⟨o,es,ep,_,Store.set_same ..,ho,hda,he,(h2.mono fun _ _ x=>⟨x.1,stay _ _ x.2.1,x.2.2⟩).append (.cons ⟨rfl,stay _ _ N,t,rfl⟩ .nil),?_⟩,Tr.upd G e₀ hs e tk⟩
  rw [List.map_append,List.nodup_append]
  refine ⟨hn,by simp,fun x hx y hy=>?_⟩
  simp only [List.map_cons,List.map_nil,List.mem_singleton] at hy
  subst hy
  rintro rfl
  have:=List.lookup_eq_none_iff.mp hnew
  obtain ⟨p,hp,rfl⟩:=List.mem_map.mp hx
  have:=this p hp
  simp at this
 ·rw [hnew] at q1; exact nn q1
theorem oTSet {d a:Addr} {l:List (Node × Nat)} {nd:Node} {n:Nat} {t:Tok} {Q:Unit→Store→Prop} (hR:Rm A 1) (D:DT P σ d l) (N:NodeAt σ (.ref a) nd) (hnew:l.lookup nd = none) (hz:l.length≤1000000) (h:∀ o,DT P (σ.set d o) d (l ++ [(nd,n)])→Q () (σ.set d o)) :
  Op P A (setItem (.ref d) (.ref a) (.int (n:Nat) t)) σ Q:=fun s G=>by
 obtain ⟨xs,hm,h2⟩:=D.heap G
 refine wpAny_setItem_heap (tupleKind_room_in1 (by have:=hR.units; exact z34 this)) (N.key G) hm (fun h' hd hs=>?_) (by rw [← h2.length,sizeLine_eq]; exact z11 hz)
 obtain ⟨o,D',T⟩:=DT.put G D N hnew h2 hd hs _
 exact ⟨_,h o D',T⟩
theorem oTSetDefault {d a:Addr} {l:List (Node × Nat)} {nd:Node} {n:Nat} {t:Tok} {Q:Value→Store→Prop} (hR:Rm A 1) (D:DT P σ d l) (N:NodeAt σ (.ref a) nd) (hz:l.length≤1000000) (h1:∀ n t,l.lookup nd = some n→Q (.int (n:Nat) t) σ) (h0:l.lookup nd = none→∀ o,DT P (σ.set d o) d (l ++ [(nd,n)])→Q (.int (n:Nat) t) (σ.set d o)) :
  Op P A (call (.builtin "dict.setdefault") [.ref d,.ref a,.int (n:Nat) t]) σ Q:=fun s G=>by
 obtain ⟨xs,hm,h2⟩:=D.heap G
 refine wpAny_call_entry F.slot_dict_setdefault hm.typeIs F.entry_dict_setdefault ?_ (F.args_dict_setdefault_3 _ _ _)
 refine wpAny_bind ?_
 refine wpAny_bind (wpAny_notOrdered_dict hm.typeIs ?_)
 refine wpAny_pure ?_
 show wpAny _ _ (if (d == sysModules) = true then _ else (dictSetDefault d (.ref a) (.int (n:Nat) t) >>= _)) _ _ s
 rw [if_neg (by rw [D.low G]; exact Bool.false_ne_true)]
 obtain hu:(nodeKind P).room A.in1:=tupleKind_room_in1 (by have:=hR.units; exact z34 this)
 refine wpAny_bind (dictSetDefault_heap hu (N.key G) hm (fun p hp=>?_) (fun hp h' hd hs=>?_) (by rw [← h2.length,sizeLine_eq]; exact z11 hz))
 ·rcases atKey_nk (R:=fun a nd=>NodeAt σ (.ref a) nd) (S:=fun n v=>∃ t,v = .int (n:Nat) t) h2 nd with ⟨q1,q3⟩ | ⟨n',b,v,q1,q3,_,t',rfl⟩
  ·rw [hp] at q3; exact ns q3
  ·rw [hp] at q3; cases q3
   exact wpAny_pure ⟨_,rfl,σ,h1 n' t' q1,Tr.toks G _⟩
 ·rcases atKey_nk (R:=fun a nd=>NodeAt σ (.ref a) nd) (S:=fun n v=>∃ t,v = .int (n:Nat) t) h2 nd with ⟨q1,q3⟩ | ⟨n',b,v,q1,q3,_⟩
  ·obtain ⟨o,D',T⟩:=DT.put G D N q1 h2 hd hs _
   exact wpAny_pure ⟨_,rfl,_,h0 q1 o D',T⟩
  ·rw [hp] at q3; exact nn q3
theorem oMethT {d:Addr} {l:List (Node × Nat)} {name:Str} {id:String} {pl:Sem Bool} {Q:Value × List Value→Store→Prop} (D:DT P σ d l) (slot:Slot "dict" name id) (hty:typeOf (.builtin id) = pure (.type "method_descriptor")) (h:Q (.builtin id,[.ref d]) σ):Op P A (getMethod (.ref d) name pl) σ Q :=
 let ⟨_,_,_,_,e,x,_,_,_,_⟩:=D
 oMethB e x.1 x.2.1 F.plainAttrs_dict slot hty h
end
theorem Ns.ints {vs:List Value} {ns:List Nat} (h:Ns vs ns):IntsAre vs (ns.map fun (n:Nat)=>(n:Int)):=by
 induction ns generalizing vs with
 | nil=>cases vs with
  | nil=>exact .nil
  | cons _ _=>cases h
 | cons n ns ih=>cases vs with
  | nil=>cases h
  | cons v vs =>
   unfold Ns at h
   rw [List.map_cons,List.map_cons,List.cons.injEq] at h
   obtain ⟨t,e⟩:=of_natOf h.1
   subst e
   exact .cons _ _ (ih h.2)
theorem Ns.of_ints:∀ {vs:List Value} {is:List Int} {ns:List Nat},IntsAre vs is→is = (ns.map fun (n:Nat)=>(n:Int))→Ns vs ns
 | _,_,[],.nil,_=>rfl
 | _,_,_ :: _,.nil,e=>by cases e
 | _,_,[],.cons _ _ _,e=>by cases e
 | _,_,n :: ns,.cons _ _ h,e=>by
  rw [List.map_cons,List.cons.injEq] at e
  obtain ⟨rfl,e⟩:=e
  exact Ns.cons _ _ (Ns.of_ints h e)
theorem perm_cast {is:List Int} {ns:List Nat} (h:is.Perm (ns.map fun (n:Nat)=>(n:Int))):∃ ms:List Nat,is = (ms.map fun (n:Nat)=>(n:Int))∧ms.Perm ns:=by
 refine ⟨is.map Int.toNat,?_,?_⟩
 ·rw [List.map_map]
  refine (List.map_id' is).symm.trans (List.map_congr_left fun i hi=>?_)
  obtain ⟨n,_,rfl⟩:=List.mem_map.mp (h.mem_iff.mp hi)
  simp
 ·have:=h.map Int.toNat
  rw [List.map_map] at this
  have e:(Int.toNat ∘ fun (n:Nat)=>(n:Int)) = id:=by funext n; simp
  rwa [e,List.map_id] at this
section
variable {P:Par} {A:Around} {env:Env} {W:List Addr} {α β:Type} {σ:Store} {m:Vars} {ξ:Type}
theorem oSortedOf {x:Value} {C:List Nat→Prop} {Q:Value→Store→Prop}
  (hc:∀ s,Good P σ s→wpAny P.M A.in1 (collect x) (fun vs s'=>Tr P [] σ s σ s'∧(∃ ns,N3 (Ns vs ns) (ns.length < 64) (C ns))) (fun _ _=>False) s)
  (h:∀ ns ms a ws k,C ns→ms.Perm ns→ms.Pairwise (·≤·)→σ a = none→Ns ws ms→Q (.ref a) (σ.set a (lst ws k))):Op P A (call (.builtin "sorted") [x]) σ Q:=fun s G=>by
 refine Calls.call_function_entry kind_sorted plain_sorted entry_sorted (args_sorted1 _) ?_
 refine wpAny_bind (m:=checkCount "sorted" 1 1 _) (wpAny_pure ?_)
 refine wpAny_bind (wpAny_mono (hc s G) (fun vs s₁ ⟨T₁,ns,hN,h64,hC⟩=>?_) fun _ _ f=>f.elim)
 obtain hz:vs.length < 64:=by rw [hN.length]; exact h64
 refine wpAny_bind (wpAny_newList ?_ (by rw [sizeLine_eq]; exact z35 hz))
 obtain hoL:(s₁.heap.push (seqObj "list" vs.toArray 0)).get? s₁.heap.objs.size = some (seqObj "list" vs.toArray 0):=Heap.get?_push_size _ rfl
 refine wpAny_bind (wpAny_holding (wpAny_call_entry (s:={ s₁ with heap:=s₁.heap.push (seqObj "list" vs.toArray 0) }) slot_list_sort ⟨_,hoL,rfl⟩ entry_list_sort (list_sort_tree (s:={ s₁ with heap:=s₁.heap.push (seqObj "list" vs.toArray 0) }) hoL hN.ints hz fun out ns' a1 a2 a3=>⟨_,rfl,?_⟩) (args_list_sort _)))
 refine wpAny_pure ⟨_,rfl,?_⟩
 refine lG ?_; intro G
 obtain ⟨ms,rfl,hp⟩:=perm_cast a2
 obtain hw:Ns out.toList ms:=Ns.of_ints a1 rfl
 obtain hs:ms.Pairwise (·≤·):=by
  have:=List.pairwise_map.mp a3
  exact this.imp fun h=>Int.ofNat_le.mp h
 obtain nn:=none_of (h:=s₁.heap) (Nat.le_refl _)
 refine lG ?_; intro G
 obtain ⟨e,he⟩:=sortedHeap_at (vs:=vs) (out:=out) hoL
 obtain hk:∀ b o,s₁.heap.get? b = some o→(sortedHeap (s₁.heap.push (seqObj "list" vs.toArray 0)) s₁.heap.objs.size vs out).get? b = some o:=fun b o hb=>by
  obtain hlt:@LT.lt Nat _ b s₁.heap.objs.size:=Heap.lt_size hb
  rw [sortedHeap_old (Nat.ne_of_lt hlt) (by rw [Heap.size_push]; exact Nat.lt_succ_of_lt hlt)]
  exact Heap.get?_push_of_some _ hb
 have:(lst out.toList e) = seqObj "list" out e:=by simp
 exact ⟨_,h ns ms _ out.toList e hC hp hs (σnone T₁.good nn) hw,T₁.trans (Tr.grown T₁.good hk nn (by rw [this]; exact he) _ (big_of T₁.good.base))⟩
theorem oSortedL {l:Addr} {vs:List Value} {ns:List Nat} {n:Nat} {Q:Value→Store→Prop} (e:σ l = some (lst vs n)) (hN:Ns vs ns) (h64:ns.length < 64)
  (h:∀ ms a ws k,ms.Perm ns→ms.Pairwise (·≤·)→σ a = none→Ns ws ms→Q (.ref a) (σ.set a (lst ws k))):Op P A (call (.builtin "sorted") [.ref l]) σ Q :=
 oSortedOf (C:=fun x=>x = ns) (fun s G=>by
  refine collect_list (isList_of (G.has _ _ e)) ⟨?_,ns,hN,h64,rfl⟩ (by rw [hN.length,sizeLine_eq]; exact z35 h64)
  refine Tr.kept (tk:=s.toks) G fun b o hb=>?_
  rw [Heap.get?_update_other _ _ (Ne.symm (Nat.ne_of_lt (Heap.lt_size hb)))]
  exact Heap.get?_push_of_some _ hb) fun ns' ms a ws k hC=>by subst hC; exact h ms a ws k
end
section
variable {prog:Program} {w:World} {A:Around} {E:Value→Shared→Prop} {s:Shared}
theorem draw_list {it t:Addr} {items:Array Value} (hne:t≠it):∀ (n i:Nat) (s:Shared) (Q:List Value→Shared→Prop),s.heap.IsListIter it t i→s.heap.IsList t items→i + n≤items.size →
  (∀ h',h'.IsListIter it t (i + n)→Heap.SameBut it s.heap h'→Q ((items.toList.drop i).take n) { s with heap:=h' })→wpAny (model prog w) A (draw (.ref it) n) Q E s
 | 0,i,s,Q,hit,_,_,hQ=>by
  exact wpAny_pure (by simpa using hQ s.heap hit (Heap.SameBut.refl ..))
 | n + 1,i,s,Q,hit,ht,hle,hQ=>by
  have hlt:i < items.size:=(z36 hle)
  refine wpAny_bind (wpAny_pyNext_list_item hit ht (x:=items[i]) (by simp [hlt]) fun h₁ hit₁ hs₁=>?_)
  refine wpAny_bind (wpAny_holding (draw_list hne n (i + 1) _ _ hit₁ (ht.extBut hs₁.extBut hne) (z37 hle) fun h₂ hit₂ hs₂=>wpAny_pure ?_))
  have hd:items.toList.drop i = items[i] :: items.toList.drop (i + 1):=by simp [List.drop_eq_getElem_cons,hlt]
  have:=hQ h₂ (by rw [show i + (n + 1) = i + 1 + n by exact z38]; exact hit₂) (hs₁.trans hs₂)
  rw [hd,List.take_succ_cons] at this
  exact this
theorem unpackItems_list {t:Addr} {items:Array Value} {Q:List Value→Shared→Prop} (hh:A.handled = none) (ht:s.heap.IsList t items)
  (hQ:∀ h',Heap.ExtBut s.heap.objs.size s.heap h'→Q items.toList { s with heap:=h' }):wpAny (model prog w) A (unpackItems (.ref t) items.size none) Q E s:=by
 obtain hlt:t≠s.heap.objs.size:=by obtain ⟨o,ho,_⟩:=ht; exact Nat.ne_of_lt (Heap.lt_size ho)
 refine wpAny_bind ?_
 ·refine wpAny_bind (wpAny_specialOf ht.typeIs F.slot_list_iter.lookup ?_)
  refine wpAny_pure ?_
  refine wpAny_bind (wpAny_holding (wpAny_pyIter_list ht ?_))
  refine wpAny_bind (wpAny_holding (draw_list hlt items.size 0 _ _ ⟨_,Heap.get?_push_size _ rfl,rfl,rfl⟩ (ht.push _) z39 fun h₁ hit₁ hs₁=>?_))
  obtain hall:List.take items.size (List.drop 0 items.toList) = items.toList:=by
   rw [List.drop_zero]; exact List.take_of_length_le (by simp)
  rw [hall]
  rw [if_neg (by simp)]
  obtain ht₁:h₁.IsList t items:=(ht.push _).extBut hs₁.extBut hlt
  refine wpAny_bind (wpAny_holding (wpAny_pyNext_list_end hh hit₁ ht₁ (by simp) fun h₂ he₂=>?_))
  refine wpAny_pure (hQ h₂ fun b o hb e=>he₂ b o hb (hs₁.extBut b o hb (Heap.get?_push_of_some _ e)))
end
section
variable {P:Par} {A:Around} {env:Env} {W:List Addr} {α β:Type} {σ:Store} {m:Vars} {ξ:Type}
theorem oUnpack {l:Addr} {vs:List Value} {n k:Nat} {Q:List Value→Store→Prop} (hh:A.handled = none) (e:σ l = some (lst vs k)∨σ l = some (tup vs k)) (hn:n = vs.length) (h:Q vs σ):Op P A (unpackItems (.ref l) n none) σ Q:=fun s G=>by
 subst hn
 have kept:∀ h',Heap.ExtBut s.heap.objs.size s.heap h'→Tr P [] σ s σ { s with heap:=h' }:=fun h' he=>Tr.kept (tk:=s.toks) G fun b o eb=>he b o (Nat.ne_of_lt (Heap.lt_size eb)) eb
 rcases e with e | e
 ·have:=unpackItems_list (prog:=P.prog) (w:=P.w) (A:=A) (E:=fun _ _=>False) (Q:=fun a s'=>∃ σ',Q a σ'∧Tr P [] σ s σ' s') hh (isList_of (G.has _ _ e)) fun h' he=>⟨σ,by simpa using h,kept h' he⟩
  simpa using this
 ·have:=wpAny_unpackItems_tuple (prog:=P.prog) (w:=P.w) (A:=A) (E:=fun _ _=>False) (Q:=fun a s'=>∃ σ',Q a σ'∧Tr P [] σ s σ' s') hh (isTuple_of (G.has _ _ e)) fun h' he=>⟨σ,by simpa using h,kept h' he⟩
  simpa using this
noncomputable def StoreAll (P:Par) (A:Around) (env:Env) (W:List Addr):List Str→List Value→Store→Vars→(Store→Vars→Prop)→Prop
 | x :: xs,v :: vs,σ,m,Q=>WP P A env W (storeName env x v) σ m (fun _ σ m=>StoreAll P A env W xs vs σ m Q)
 | _,_,σ,m,Q=>Q σ m
theorem xAssignInOrder:∀ {xs:List Str} {vs:List Value} {σ:Store} {m:Vars} {Q:Unit→Store→Vars→Prop},StoreAll P A env W xs vs σ m (fun σ m=>Q () σ m)→WP P A env W (assignInOrder (xs.map fun n=>bindName env n) vs) σ m Q
 | [],_,_,_,_,h=>xPure h
 | _ :: _,[],_,_,_,h=>xPure h
 | x :: xs,v :: vs,_,_,_,h=>by
  show WP P A env W (do holding vs (bindName env x v); assignInOrder (xs.map fun n=>bindName env n) vs) _ _ _
  exact xBind (xHolding (xBindName (WP.mono h fun _ σ m h=>xAssignInOrder h)))
theorem xAssignSwap {elts:List PySem.Expr} {k:Nat} {tpos:Pos} {value:PySem.Expr} {pos:Pos} {names:List Str} {Q:Flow→Store→Vars→Prop} (hh:A.handled = none)
  (h:WP P A env W (eval value env) σ m (fun v σ m=>(X3 fun l vs k=>N4 (v = .ref l) ((σ l = some (lst vs k)∨σ l = some (tup vs k))) (names.length = vs.length) (StoreAll P A env W names.reverse vs.reverse σ m (fun σ m=>Q .next σ m)))))
  (hs:swapsWithSole [.Tuple elts k tpos] value pos.line env = pure false:=by rfl) (hw:swappedStores [.Tuple elts k tpos] value env = pure (some names):=by rfl):WP P A env W (exec (.Assign [.Tuple elts k tpos] value pos) env) σ m Q:=fun s G F=>by
 refine Assign_Tuple_swapped (names:=names) (wpAny_mono (h s G F) (fun v s₁ ⟨σ₁,m₁,q,F₁,T₁⟩=>?_) fun _ _ f=>f) hs hw
 obtain ⟨l,vs,k,rfl,e,hn,q⟩:=q
 obtain step:WP P A env W (unpackItems (.ref l) names.length none) σ₁ m₁ (fun items σ m=>WP P A env W (assignInOrder (names.reverse.map fun n=>bindName env n) items.reverse) σ m (fun _ σ m=>Q .next σ m)) :=
  xOp (oUnpack hh e hn (xAssignInOrder q))
 exact wpAny_mono (step.chain (E:=fun _ _=>False) T₁ F₁) (fun items s₂ ⟨σ₂,m₂,q,F₂,T₂⟩=>wpAny_mono (WP.chain (E:=fun _ _=>False) q T₂ F₂) (fun _ _ q=>q.re) fun _ _ f=>f) fun _ _ f=>f.elim
theorem xAssignTuple2 {x y:Str} {px py:Pos} {k:Nat} {tpos:Pos} {value:PySem.Expr} {pos:Pos} {Q:Flow→Store→Vars→Prop} (hh:A.handled = none)
  (h:WP P A env W (eval value env) σ m (fun v σ m=>(X4 fun l a b k=>N3 (v = .ref l) ((σ l = some (lst [a,b] k)∨σ l = some (tup [a,b] k))) (WP P A env W (storeName env x a) σ m (fun _ σ m=>WP P A env W (storeName env y b) σ m (fun _ σ m=>Q .next σ m))))))
  (hs:swapsWithSole [.Tuple [.Name x px,.Name y py] k tpos] value pos.line env = pure false:=by rfl) (hw:swappedStores [.Tuple [.Name x px,.Name y py] k tpos] value env = pure none:=by rfl) :
  WP P A env W (exec (.Assign [.Tuple [.Name x px,.Name y py] k tpos] value pos) env) σ m Q:=fun s G F=>by
 refine Assign_Tuple (wpAny_mono (h s G F) (fun v s₁ ⟨σ₁,m₁,q,F₁,T₁⟩=>?_) fun _ _ f=>f) hs hw
 obtain ⟨l,a,b,k,rfl,e,q⟩:=q
 obtain step:WP P A env W (assign (.Tuple [.Name x px,.Name y py] k tpos) env (.ref l)) σ₁ m₁ (fun _ σ m=>Q .next σ m):=by
  rw [arm_assign_Tuple]
  refine xBind (xStandAt ?_)
  refine xBind (xHolding (xOp (oUnpack (n:=2) hh e rfl ?_)))
  show WP P A env W (do holding [b] (assign (.Name x px) env a); do holding [] (assign (.Name y py) env b); pure ()) _ _ _
  exact xBind (xHolding (xAsName (q.mono fun _ _ _ q=>xBind (xHolding (xAsName (q.mono fun _ _ _ q=>xPure q))))))
 exact wpAny_mono (step.chain (E:=fun _ _=>False) T₁ F₁) (fun _ s₂ q=>q.re) fun _ _ f=>f.elim
theorem asgPair {x y:Str} {px py:Pos} {k:Nat} {tpos:Pos} {T:Addr} {a b:Value} {Q:Unit→Store→Vars→Prop} {s:Shared} (hh:A.handled = none) (hT:s.heap.IsTuple T #[a,b]) (G:Good P σ s) (F:Fm P env W σ s.heap m)
  (h:WP P A env W (storeName env x a) σ m (fun _ σ m=>WP P A env W (storeName env y b) σ m Q)):wpAny P.M A (assign (.Tuple [.Name x px,.Name y py] k tpos) env (.ref T)) (Post P env W σ s Q) (fun _ _=>False) s:=by
 refine wpAny_assign_Tuple hh hT rfl rfl fun h' he=>?_
 have hk:∀ b o,s.heap.get? b = some o→h'.get? b = some o:=fun b o eb=>he b o (Nat.ne_of_lt (Heap.lt_size eb)) eb
 have T₁:Tr P W σ s σ { s with heap:=h' }:=Tr.kept (tk:=s.toks) G hk
 have step:WP P A env W (do holding [b] (assign (.Name x px) env a); do holding [] (assign (.Name y py) env b); pure ()) σ m Q :=
  xBind (xHolding (xAsName (h.mono fun _ _ _ q=>xBind (xHolding (xAsName (q.mono fun _ _ _ q=>xPure q))))))
 exact step.chain (E:=fun _ _=>False) T₁ (F.kept hk)
end
section
variable {P:Par} {A:Around} {env:Env} {W:List Addr} {α β:Type} {σ:Store} {m:Vars} {ξ:Type}
theorem xCallB {x:Str} {id:String} {np pos:Pos} {elts:List PySem.Expr} {Q:Value→Store→Vars→Prop} (O:P.Ok) (hb:bootBuiltins x = some (.builtin id)) (hx:env.kindOf x = some .globalImplicit) (e:nsIn P.K mainGlobals x = some none)
  (h:Evs P A env W elts σ m (fun vs σ m=>WP P A env W (call (.builtin id) vs) σ m Q)) (hn:x≠"__name__":=by decide) (hk:env.scope.kind = .function:=by rfl) (hg:env.globals = mainGlobals:=by rfl) (hbn:env.builtins = builtinsNs:=by rfl) (hd:(x == ("__debug__":Str)) = false:=by decide) (hp:elts.all plainE = true:=by rfl) :
  WP P A env W (eval (.Call (.Name x np) elts [] pos) env) σ m Q :=
 xCallName (xName (xLoadBuiltin O hx e hn hb ⟨kept_builtin _,h⟩ hk hg hbn) hd) hp
theorem xCallT {x:Str} {id:String} {np pos:Pos} {elts:List PySem.Expr} {Q:Value→Store→Vars→Prop} (O:P.Ok) (hb:bootBuiltins x = some (.type id)) (hx:env.kindOf x = some .globalImplicit) (e:nsIn P.K mainGlobals x = some none)
  (h:Evs P A env W elts σ m (fun vs σ m=>WP P A env W (call (.type id) vs) σ m Q)) (hn:x≠"__name__":=by decide) (hk:env.scope.kind = .function:=by rfl) (hg:env.globals = mainGlobals:=by rfl) (hbn:env.builtins = builtinsNs:=by rfl) (hd:(x == ("__debug__":Str)) = false:=by decide) (hp:elts.all plainE = true:=by rfl) :
  WP P A env W (eval (.Call (.Name x np) elts [] pos) env) σ m Q :=
 xCallName (xName (xLoadBuiltin O hx e hn hb ⟨kept_type _,h⟩ hk hg hbn) hd) hp
theorem boot_len:bootBuiltins "len" = some (.builtin "len"):=by decide +kernel
theorem boot_sorted':bootBuiltins "sorted" = some (.builtin "sorted"):=by decide +kernel
theorem boot_tuple:bootBuiltins "tuple" = some (.type "tuple"):=by decide +kernel
theorem boot_set:bootBuiltins "set" = some (.type "set"):=by decide +kernel
theorem boot_list:bootBuiltins "list" = some (.type "list"):=by decide +kernel
theorem boot_range:bootBuiltins "range" = some (.type "range"):=by decide +kernel
theorem boot_enumerate:bootBuiltins "enumerate" = some (.type "enumerate"):=by decide +kernel
theorem boot_sum:bootBuiltins "sum" = some (.builtin "sum"):=by decide +kernel
theorem boot_max:bootBuiltins "max" = some (.builtin "max"):=by decide +kernel
theorem boot_min:bootBuiltins "min" = some (.builtin "min"):=by decide +kernel
theorem boot_str:bootBuiltins "str" = some (.type "str"):=by decide +kernel
end
structure Roles (X:HA) (ρ:Addr→Nat) (σ:Store):Prop where
 h:ρ X.h = 1
 hd:ρ X.hd = 2
 b:ρ X.b = 3
 bd:ρ X.bd = 4
 u:ρ X.u = 5
 ud:ρ X.ud = 6
 nl:ρ X.nl = 7
 wl:ρ X.wl = 8
 dl:ρ X.dl = 9
 nu:ρ X.nu = 10
 ab:ρ X.ab = 11
 lo:ρ X.lo = 12
 me:ρ X.me = 13
 ed:ρ X.ed = 14
 fo:ρ X.fo = 15
 kn:ρ X.kn = 16
 av:ρ X.av = 17
 wt:ρ X.wt = 18
 free:∀ a,σ a = none→ρ a = 0
def uRole (c:Nat):Prop:=c = 5∨c = 6∨c = 11∨c = 12∨c = 13∨(100≤c∧c % 2 = 0)
def cls (n:Nat) (r:Nat→Nat):Nat:=(List.range n).countP fun x=>r x == x
def Mem (n:Nat) (r:Nat→Nat) (i:Nat) (ms:List Nat):Prop:=ms.Nodup∧∀ x,x ∈ ms ↔ x < n∧r x = i
structure UInv (X:HA) (ρ:Addr→Nat) (σ:Store) (n:Nat) (r:Nat→Nat):Prop where
 find:UFind X σ n r
 lo:(X2 fun (as:List Addr) (k:Nat)=>N3 (σ X.lo = some (lst (as.map Value.ref) k)) (as.length = n) (∀ i,i < n→r i = i→(X4 fun a vs k ms=>N5 (as[i]? = some a) (ρ a = 100 + 2 * i) (σ a = some (lst vs k)) (Ns vs ms) (Mem n r i ms))))
 me:(X2 fun vs k=>σ X.me = some (lst vs k)∧vs.length + cls n r≤n)
def mrg (r:Nat→Nat) (kept gone:Nat):Nat→Nat:=fun x=>if r x = gone then kept else r x
theorem Wf.lt {n:Nat} {r:Nat→Nat} (w:Wf n r) {x:Nat} (h:x < n):r x < n:=Nat.lt_of_le_of_lt (w.le x h) h
theorem Wf.mrg {n:Nat} {r:Nat→Nat} (w:Wf n r) {kept gone:Nat} (hk:kept < gone) (_hg:gone < n) (rk:r kept = kept) (_rg:r gone = gone):Wf n (mrg r kept gone):=by
 refine ⟨fun x hx=>?_,fun x hx=>?_⟩
 ·unfold Mine.mrg
  have:=w.le x hx
  split <;> omega
 ·unfold Mine.mrg
  have:=w.idem x hx
  by_cases h:r x = gone
  ·rw [if_pos h,rk,if_neg (z40 hk)]
  ·rw [if_neg h,this,if_neg h]
theorem Links.mrg {par:List Nat} {n:Nat} {r:Nat→Nat} (l:Links par n r) {kept gone:Nat} (hk:kept < gone) (rk:r kept = kept) (rg:r gone = gone):Links (par.set gone kept) n (Mine.mrg r kept gone):=by
 refine ⟨by rw [List.length_set]; exact l.len,fun x p hp=>?_⟩
 unfold Mine.mrg
 by_cases h:x = gone
 ·subst h
  have hl:x < par.length:=by
   have:=(List.getElem?_eq_some_iff.mp hp).1
   rwa [List.length_set] at this
  rw [List.getElem?_set_self hl] at hp
  cases hp
  refine ⟨(z41 hk),?_,fun q=>(z42 hk q)⟩
  rw [rk,rg,if_neg (z40 hk),if_pos rfl]
 ·rw [List.getElem?_set_ne (Ne.symm h)] at hp
  obtain ⟨h1,h2,h3⟩:=l.up x p hp
  refine ⟨h1,by rw [h2],fun q=>?_⟩
  have:=h3 q
  rw [if_neg (z43 h h3 q)]; exact this
theorem countP_split {p q:Nat→Bool} {g:Nat}:∀ {n:Nat},g < n→p g = true→q g = false→(∀ x,x≠g→q x = p x)→(List.range n).countP q + 1 = (List.range n).countP p
 | 0,h,_,_,_=>(z44 h)
 | n + 1,h,hp,hq,he=>by
  rw [List.range_succ,List.countP_append,List.countP_append]
  by_cases e:g = n
  ·subst e
   have:(List.range g).countP q = (List.range g).countP p:=List.countP_congr fun x hx=>by rw [he x (by have:=List.mem_range.mp hx; exact z45 this)]
   rw [this]
   simp [hp,hq]
  ·have:=countP_split (n:=n) (z46 h e) hp hq he
   have h2:q n = p n:=he n (Ne.symm e)
   simp only [List.countP_cons,List.countP_nil,h2]
   exact z47 this
theorem cls_mrg {n:Nat} {r:Nat→Nat} {kept gone:Nat} (hk:kept < gone) (hg:gone < n) (_rk:r kept = kept) (rg:r gone = gone):cls n (mrg r kept gone) + 1 = cls n r:=by
 refine countP_split hg (by simp [rg]) ?_ fun x hx=>?_
 ·unfold mrg; rw [if_pos rg]; simp; exact z40 hk
 ·unfold mrg
  by_cases h:r x = gone
  ·rw [if_pos h,h]
   have h1:(gone == x) = false:=beq_eq_false_iff_ne.mpr (Ne.symm hx)
   rw [h1]
   refine beq_eq_false_iff_ne.mpr fun e=>?_
   subst e
   exact z48 hk _rk h
  ·rw [if_neg h]
theorem mem_mrg {n:Nat} {r:Nat→Nat} {kept gone:Nat} {ms ls:List Nat} (hne:kept≠gone) (hm:Mem n r kept ms) (hl:Mem n r gone ls):Mem n (mrg r kept gone) kept (ms ++ ls):=by
 refine ⟨?_,fun x=>?_⟩
 ·rw [List.nodup_append]
  refine ⟨hm.1,hl.1,fun x hx y hy=>?_⟩
  rintro rfl
  exact hne (((hm.2 x).mp hx).2.symm.trans ((hl.2 x).mp hy).2)
 ·rw [List.mem_append,hm.2,hl.2]
  unfold mrg
  by_cases h:r x = gone
  ·rw [if_pos h]; constructor
   ·rintro (⟨a,b⟩ | ⟨a,_⟩) <;> exact ⟨a,rfl⟩
   ·rintro ⟨a,_⟩; exact .inr ⟨a,h⟩
  ·rw [if_neg h]; constructor
   ·rintro (h' | ⟨a,b⟩)
    ·exact h'
    ·exact absurd b h
   ·exact .inl
theorem mem_other {n:Nat} {r:Nat→Nat} {kept gone i:Nat} {ms:List Nat} (h1:i≠kept) (h2:i≠gone) (hm:Mem n r i ms):Mem n (mrg r kept gone) i ms:=by
 refine ⟨hm.1,fun x=>?_⟩
 rw [hm.2]
 unfold mrg
 by_cases h:r x = gone
 ·rw [if_pos h,h]; constructor <;> (rintro ⟨a,b⟩; exfalso; omega)
 ·rw [if_neg h]
theorem nodup_le:∀ {n:Nat} {l:List Nat},l.Nodup→(∀ x ∈ l,x < n)→l.length≤n
 | 0,[],_,_=>Nat.le_refl _
 | 0,x :: _,_,h=>absurd (h x (.head _)) (Nat.not_lt_zero _)
 | n + 1,l,hn,h=>by
  have h1:(l.erase n).length≤n:=nodup_le (hn.erase n) fun x hx=>by
   have:=h x (List.mem_of_mem_erase hx)
   have hne:x≠n:=fun e=>by subst e; exact (List.Nodup.not_mem_erase hn) hx
   exact z49 this hne
  have:=List.length_erase_le (a:=n) (l:=l)
  by_cases hm:n ∈ l
  ·rw [List.length_erase_of_mem hm] at h1; exact z50 h1
  ·rw [List.erase_of_not_mem hm] at h1; exact z51 h1
theorem Mem.len {n:Nat} {r:Nat→Nat} {i:Nat} {ms:List Nat} (h:Mem n r i ms):ms.length≤n:=nodup_le h.1 fun x hx=>((h.2 x).mp hx).1
end Mine
section
set_option maxRecDepth 10000
namespace Mine
theorem ne_role {ρ:Addr→Nat} {a b:Addr} {c d:Nat} (h1:ρ a = c) (h2:ρ b = d) (hn:c≠d):a≠b:=fun e=>hn (by rw [← h1,← h2,e])
section
variable {P:Par} {A:Around} {env:Env} {W:List Addr} {α β:Type} {σ σ':Store} {m:Vars} {X:HA} {ρ:Addr→Nat} {n:Nat} {r:Nat→Nat}
theorem Tr.from {s s':Shared} {σ₀ σ₁:Store} (T:Tr P W σ s σ₁ s') (h:Le σ σ₀):Tr P W σ₀ s σ₁ s' :=
 ⟨T.good,fun a o hn=>T.keep a o (none_less h hn),fun a h1 hn=>T.fresh a h1 (none_less h hn),T.alive⟩
theorem xForget {t:Sem α} {σ₀:Store} {Q:α→Store→Vars→Prop} (hle:Le σ σ₀) (h:WP P A env W t σ m Q):WP P A env W t σ₀ m Q:=fun s G F =>
 wpAny_mono (h s (G.less hle) (F.less fun _ e=>none_less hle e)) (fun _ _ ⟨σ₁,m₁,q,F₁,T₁⟩=>⟨σ₁,m₁,q,F₁,T₁.from hle⟩) fun _ _ f=>f
def KpR (C:Nat→Prop) (ρ:Addr→Nat) (σ σ':Store):Prop:=∀ a o,C (ρ a)∨o.cls = .type "tuple"→σ a = some o→σ' a = some o
theorem lst_tup {vs:List Value} {k:Nat} (h:(lst vs k).cls = .type "tuple"):False:=by injection h with h; revert h; decide
theorem KpR.le {C:Nat→Prop} (h:Le σ σ'):KpR C ρ σ σ':=fun a o _ e=>h a o e
theorem KpR.trans {C:Nat→Prop} {σ₂:Store} (h:KpR C ρ σ σ') (h':KpR C ρ σ' σ₂):KpR C ρ σ σ₂:=fun a o c e=>h' a o c (h a o c e)
theorem KpR.mono {C D:Nat→Prop} (h:KpR C ρ σ σ') (hc:∀ c,D c→C c):KpR D ρ σ σ':=fun a o c e=>h a o (c.imp (hc _) id) e
theorem UFind.keep (U:UFind X σ n r) (R:Roles X ρ σ) (k:KpR uRole ρ σ σ'):UFind X σ' n r :=
 ⟨U.inst.ext (fun o e=>k _ o (.inl (by rw [R.u]; exact z52)) e) (fun o e=>k _ o (.inl (by rw [R.ud]; unfold uRole; exact z53)) e),let ⟨vs,kk,par,e,h,h'⟩:=U.ab; ⟨vs,kk,par,k _ _ (.inl (by rw [R.ab]; unfold uRole; exact z54)) e,h,h'⟩,U.wf,U.small⟩
theorem UInv.keep (U:UInv X ρ σ n r) (R:Roles X ρ σ) (k:KpR uRole ρ σ σ') {ρ':Addr→Nat} (hρ:∀ a,σ a≠none→ρ' a = ρ a):UInv X ρ' σ' n r:=by
 refine ⟨U.find.keep R k,?_,?_⟩
 ·refine lG ?_; intro G
  obtain ⟨as,kk,e,hl,h⟩:=U.lo
  refine ⟨as,kk,k _ _ (.inl (by rw [R.lo]; exact z55)) e,hl,fun i hi hr=>?_⟩
  refine lG ?_; intro G
  obtain ⟨a,vs,k',ms,h1,h2,h3,h4,h5⟩:=h i hi hr
  exact ⟨a,vs,k',ms,h1,by rw [hρ a (ne_none h3)]; exact h2,k _ _ (.inl (by rw [h2]; exact z56)) h3,h4,h5⟩
 ·refine lG ?_; intro G
  obtain ⟨vs,kk,e,h⟩:=U.me
  exact ⟨vs,kk,k _ _ (.inl (by rw [R.me]; exact z57)) e,h⟩
theorem Roles.keep (R:Roles X ρ σ) (k:∀ a,ρ a≠0→σ a≠none→σ' a≠none):Roles X ρ σ' :=
 ⟨R.h,R.hd,R.b,R.bd,R.u,R.ud,R.nl,R.wl,R.dl,R.nu,R.ab,R.lo,R.me,R.ed,R.fo,R.kn,R.av,R.wt,fun a ha=>Classical.byContradiction fun h0=>k a h0 (fun e=>h0 (R.free a e)) ha⟩
noncomputable def fdUSize (p:Params):{fd:FuncData // fdIn (Mine.hd.heap_1 p) 281 = some fd}:=⟨_,rfl⟩
theorem cUSize (O:P.Ok) {Q:Value→Store→Prop} (hR:Rm A 4) (U:UFind X σ n r) (h:∀ t,Q (.int (n:Nat) t) σ):COp P A (.call (.ref 281) ⟨[.ref X.u],[]⟩) σ Q:=by
 refine oCall O (fdUSize _).2 hR rfl rfl rfl rfl rfl rfl (fun L=>?_) rfl rfl rfl
 intro env A' W m0 Q'
 obtain ⟨vs,k,par,e,hN,hL⟩:=U.ab
 refine xLast (xReturn (xCallB O boot_len rfl rfl ?_))
 refine xAttribute (xName (xLoad rfl rfl ?_))
 refine xOp (oGetAttr O U.inst rfl rfl rfl ?_)
 refine (xOp (oLen e ?_ fun t=>?_))
 ·rw [hN.length,hL.len]; have:=U.small; exact z58 this
 ·rw [hN.length,hL.len]; exact h t
theorem two_of {α:Type} {l:List α} (h:l.length = 2):∃ x y,l = [x,y]:=by
 cases l with
 | nil=>cases h
 | cons x l =>
  cases l with
  | nil=>cases h
  | cons y l =>
   cases l with
   | nil=>exact ⟨x,y,rfl⟩
   | cons z l=>cases h
theorem pair_sorted {a b:Nat} {ms:List Nat} (hp:ms.Perm [a,b]) (hs:ms.Pairwise (·≤·)):ms = [min a b,max a b]:=by
 obtain ⟨x,y,rfl⟩:=two_of hp.length_eq
 obtain hxy:x≤y:=by simpa using hs
 obtain h1:x ∈ [a,b]:=hp.mem_iff.mp (by simp)
 obtain h2:y ∈ [a,b]:=hp.mem_iff.mp (by simp)
 obtain h3:a ∈ [x,y]:=hp.mem_iff.mpr (by simp)
 obtain h4:b ∈ [x,y]:=hp.mem_iff.mpr (by simp)
 simp only [List.mem_cons,List.not_mem_nil,or_false] at h1 h2 h3 h4
 obtain e1:x = min a b:=by clear hp hs; exact z59 hxy h1 h3 h4
 obtain e2:y = max a b:=by clear hp hs e1; exact z60 hxy h2 h3 h4
 rw [e1,e2]
theorem pair_vals {x y:Nat} {ws:List Value} (hN:Ns ws [x,y]):∃ t u,ws = [.int (x:Nat) t,.int (y:Nat) u]:=by
 refine lG ?_; intro G
 obtain ⟨u,v,rfl⟩:=two_of hN.length
 refine lG ?_; intro G
 obtain ⟨t1,e1⟩:=hN.get (i:=0) rfl
 obtain ⟨t2,e2⟩:=hN.get (i:=1) rfl
 cases e1; cases e2
 exact ⟨t1,t2,rfl⟩
theorem oSortedPair {l:Addr} {a b:Nat} {ta tb:Tok} {n:Nat} {Q:Value→Store→Prop} (e:σ l = some (lst [.int (a:Nat) ta,.int (b:Nat) tb] n)) (h:∀ l2 t u k,σ l2 = none→Q (.ref l2) (σ.set l2 (lst [.int ((min a b:Nat):Int) t,.int ((max a b:Nat):Int) u] k))):Op P A (call (.builtin "sorted") [.ref l]) σ Q :=
 oSortedL e (ns:=[a,b]) (Ns.cons _ _ (Ns.one _ _)) (by simp) fun ms l2 ws k hp hs hl2 hN=>by
  cases pair_sorted hp hs
  obtain ⟨t,u,rfl⟩:=pair_vals hN
  exact h l2 t u k hl2
noncomputable def fdUMerge (p:Params):{fd:FuncData // fdIn (Mine.hd.heap_1 p) 295 = some fd}:=⟨_,rfl⟩
theorem cUMerge (O:P.Ok) {a b:Nat} {t u:Tok} {Q:Value→Store→Prop} (hR:Rm A 8) (R:Roles X ρ σ) (U:UInv X ρ σ n r) (ha:a < n) (hb:b < n) (h0:r a = r b→Q .none σ)
  (h1:∀ kept gone T σ',kept = min (r a) (r b)→gone = max (r a) (r b)→kept < gone→r kept = kept→r gone = gone→gone < n→(∃ t u k,σ' T = some (tup [.int (kept:Nat) t,.int (gone:Nat) u] k))→(∀ a,σ a≠none→σ' a≠none) →
   KpR (fun c=>c≠11∧c≠13∧c≠100 + 2 * kept) ρ σ σ'→UInv X ρ σ' n (mrg r kept gone)→Q (.ref T) σ'):COp P A (.call (.ref 295) ⟨[.ref X.u,.int (a:Nat) t,.int (b:Nat) u],[]⟩) σ Q:=by
 refine oCall O (fdUMerge _).2 hR rfl rfl rfl rfl rfl rfl (fun L=>?_) rfl rfl rfl
 intro env A' W m0 Q'
 obtain hR':Rm A' 7:=hR.deeper
 obtain hh:=hR'.handled
 refine lq ?_; intro K
 refine xCons ?_
 refine lq ?_; intro K
 refine xAssignTuple2 hh ?_
 refine lq ?_; intro K
 refine xCallB O boot_sorted' rfl rfl ?_
 refine lqE ?_; intro K
 refine (xList ?_)
 refine lqE ?_; intro K
 refine (xCallMeth ?_)
 refine xName (xLoad rfl rfl fun pl=>?_)
 refine xOp (oGetMethod O U.find.inst rfl rfl ⟨kept_fn O (fdFind _).2,?_⟩)
 refine (xName (xLoad rfl rfl (evNil ?_)))
 refine xOp (oOf (cFind O (hR'.mono z61) U.find ha fun ta=>?_))
 refine (xCallMeth ?_)
 refine xName (xLoad rfl rfl fun pl=>?_)
 refine xOp (oGetMethod O U.find.inst rfl rfl ⟨kept_fn O (fdFind _).2,?_⟩)
 refine (xName (xLoad rfl rfl (evNil ?_)))
 refine xOp (oOf (cFind O (hR'.mono z61) U.find hb fun tb=>?_))
 refine fun l1 hl1=>?_
 refine (xOp (oSortedPair (Store.set_same ..) fun l2 kt gt k hl2=>?_))
 generalize hkept:min (r a) (r b) = kept
 generalize hgone:max (r a) (r b) = gone
 have le1:Le σ ((σ.set l1 (lst [.int (r a:Nat) ta,.int (r b:Nat) tb] 0)).set l2 (lst [.int (kept:Nat) kt,.int (gone:Nat) gt] k)):=(Le.new hl1).trans (Le.new (by rw [hkept,hgone] at *; exact hl2))
 refine ⟨l2,_,_,k,rfl,.inl (by rw [← hkept,← hgone]; exact Store.set_same ..),?_⟩
 rw [hkept,hgone]
 refine xForget le1 ?_
 refine xStore rfl rfl (List.mem_cons_self ..) ?_
 refine xStore rfl rfl (List.mem_cons_self ..) ?_
 refine xCons (lq ?_); intro K
 refine xIf (xTrueCompare ?_)
 refine xName (xLoad rfl rfl ?_)
 refine xName (xLoad rfl rfl ?_)
 refine xOp (oEq (xTruthyBool ⟨fun hb=>?_,fun hb=>?_⟩))
 ·refine xLast (lq ?_); intro K
  refine xReturn (xNone ?_)
  have:(kept:Int) = gone:=by simpa using hb
  exact h0 (z62 hkept hgone this)
 refine xNil ?_
 have hne:kept≠gone:=fun e=>by subst e; simp at hb
 have hlt:kept < gone:=(z63 hkept hgone hne)
 have wf:=U.find.wf
 have hgn:gone < n:=by have:=wf.lt ha; have:=wf.lt ‹b < n›; omega
 have rk:r kept = kept:=by
  rcases Nat.le_total (r a) (r b) with q | q
  ·rw [← hkept,Nat.min_eq_left q]; exact wf.idem a ha
  ·rw [← hkept,Nat.min_eq_right q]; exact wf.idem b ‹b < n›
 have rg:r gone = gone:=by
  rcases Nat.le_total (r a) (r b) with q | q
  ·rw [← hgone,Nat.max_eq_right q]; exact wf.idem b ‹b < n›
  ·rw [← hgone,Nat.max_eq_left q]; exact wf.idem a ha
 refine lG ?_; intro G
 obtain ⟨vs,kv,par,e,hN,hL⟩:=U.find.ab
 refine lG ?_; intro G
 obtain ⟨as,ka,ea,hal,hlot⟩:=U.lo
 refine lG ?_; intro G
 obtain ⟨mv,km,em,hme⟩:=U.me
 have hsm:=U.find.small
 refine xCons (lq ?_); intro K
 refine xAssignSub ?_
 refine xName (xLoad rfl rfl ?_)
 refine xAttribute (xName (xLoad rfl rfl ?_))
 refine xOp (oGetAttr O U.find.inst rfl rfl rfl ?_)
 refine xName (xLoad rfl rfl ?_)
 refine xOp (oSetItem e (by rw [hN.length,hL.len]; exact hgn) (z24 hgn hsm) fun n1=>?_)
 have I1:IsI (σ.set X.ab (lst (vs.set gone (.int (kept:Nat) kt)) n1)) X.u X.ud 331 (uInst X):=U.find.inst.ext
  (fun o eo=>(Store.set_ne (ne_role R.u R.ab (by decide))).trans eo) (fun o eo=>(Store.set_ne (ne_role R.ud R.ab (by decide))).trans eo)
 generalize hσ1:σ.set X.ab (lst (vs.set gone (.int (kept:Nat) kt)) n1) = σ1 at *
 revert σ1; refine keep ?_; intro σ1; set_option tactic.hygienic false in intros
 have k1:∀ x,x≠X.ab→σ1 x = σ x:=fun x hx=>by rw [← hσ1]; exact Store.set_ne hx
 refine lG ?_; intro G
 obtain ⟨ak,vk,kk,msk,gk1,gk2,gk3,gk4,gk5⟩:=hlot kept (z64 hlt hgn) rk
 refine lG ?_; intro G
 obtain ⟨ag,vg,kg,msg,gg1,gg2,gg3,gg4,gg5⟩:=hlot gone hgn rg
 have e1:σ1 X.lo = some (lst (as.map Value.ref) ka):=(k1 _ (ne_role R.lo R.ab (by decide))).trans ea
 have ek:σ1 ak = some (lst vk kk):=(k1 _ (ne_role gk2 R.ab z65)).trans gk3
 obtain eg:σ1 ag = some (lst vg kg):=(k1 _ (ne_role gg2 R.ab z65)).trans gg3
 refine lq ?_; intro K
 refine xCons (lq ?_); intro K
 refine xExpr (xCallMeth ?_)
 refine lq ?_; intro K
 refine xItem (xAttribute (xName (xLoad rfl rfl ?_)))
 refine lq ?_; intro K
 refine xOp (oGetAttr O I1 rfl rfl rfl ?_)
 refine xName (xLoad rfl rfl ?_)
 refine ⟨_,_,ka,kept,_,.ref ak,rfl,rfl,.inl e1,(z66 hlt hgn hsm),by rw [List.getElem?_map,gk1]; rfl,fun pl=>?_⟩
 refine xOp (oMethExtend ek ⟨kept_builtin _,?_⟩)
 refine lqE ?_; intro K
 refine (xItem (xAttribute (xName (xLoad rfl rfl ?_))))
 refine lq ?_; intro K
 refine xOp (oGetAttr O I1 rfl rfl rfl ?_)
 refine xName (xLoad rfl rfl ?_)
 refine ⟨_,_,ka,gone,_,.ref ag,rfl,rfl,.inl e1,(z24 hgn hsm),by rw [List.getElem?_map,gg1]; rfl,?_⟩
 refine (xOp (oExtend ek eg (by have:=gk5.len; have:=gg5.len; rw [gk4.length,gg4.length]; omega) fun n2=>?_))
 obtain I2:IsI (σ1.set ak (lst (vk ++ vg) n2)) X.u X.ud 331 (uInst X):=I1.ext
  (fun o eo=>(Store.set_ne (ne_role R.u gk2 z67)).trans eo) (fun o eo=>(Store.set_ne (ne_role R.ud gk2 z68)).trans eo)
 have ak2:(σ1.set ak (lst (vk ++ vg) n2)) ak = some (lst (vk ++ vg) n2):=Store.set_same ..
 generalize hσ2:σ1.set ak (lst (vk ++ vg) n2) = σ2 at *
 revert σ2; refine keep ?_; intro σ2; set_option tactic.hygienic false in intros
 have k2:∀ x,x≠ak→σ2 x = σ1 x:=fun x hx=>by rw [← hσ2]; exact Store.set_ne hx
 have em2:σ2 X.me = some (lst mv km):=(k2 _ (ne_role R.me gk2 z69)).trans ((k1 _ (ne_role R.me R.ab (by decide))).trans em)
 refine xCons (lq ?_); intro K
 refine xExpr (xCallMeth ?_)
 refine xAttribute (xName (xLoad rfl rfl ?_))
 refine xOp (oGetAttr O I2 rfl rfl rfl fun pl=>?_)
 refine xOp (oMethAppend em2 ⟨kept_builtin _,?_⟩)
 refine (xTuple ?_)
 refine (xName (xLoad rfl rfl ?_))
 refine (xName (xLoad rfl rfl ?_))
 refine fun tp htp=>?_
 have hcl:=cls_mrg hlt hgn rk rg
 refine (xOp (oAppend (Store.set_new htp em2) (z70 hme hsm) fun n3=>?_))
 refine xLast (lq ?_); intro K
 refine xReturn (xTuple ?_)
 refine (xName (xLoad rfl rfl ?_))
 refine (xName (xLoad rfl rfl ?_))
 refine fun T hT=>?_
 have hne3:tp≠X.me:=fun q=>by rw [q,em2] at htp; exact ns htp
 generalize hσ3:((σ2.set tp (tup [.int (kept:Nat) kt,.int (gone:Nat) gt] 0)).set X.me (lst (mv ++ [.ref tp]) n3)) = σ3 at *
 revert σ3; refine keep ?_; intro σ3; set_option tactic.hygienic false in intros
 have k3:∀ x,x≠X.me→σ2 x≠none→σ3 x = σ2 x:=fun x hx h0=>by
  rw [← hσ3,Store.set_ne hx,Store.set_ne]
  rintro rfl; exact h0 htp
 have me3:σ3 X.me = some (lst (mv ++ [.ref tp]) n3):=by rw [← hσ3]; exact Store.set_same ..
 have all:∀ x o,x≠X.ab→x≠ak→x≠X.me→σ x = some o→(σ3.set T (tup [.int (kept:Nat) kt,.int (gone:Nat) gt] 0)) x = some o:=fun x o h1 h2 h3 h=>by
  have q2:σ2 x = some o:=(k2 x h2).trans ((k1 x h1).trans h)
  exact Store.set_new hT ((k3 x h3 (ne_none q2)).trans q2)
 have ab3:(σ3.set T (tup [.int (kept:Nat) kt,.int (gone:Nat) gt] 0)) X.ab = some (lst (vs.set gone (.int (kept:Nat) kt)) n1):=by
  obtain q1:σ1 X.ab = some (lst (vs.set gone (.int (kept:Nat) kt)) n1):=by rw [← hσ1]; exact Store.set_same ..
  obtain q2:=(k2 X.ab (ne_role R.ab gk2 z71)).trans q1
  exact Store.set_new hT ((k3 _ (ne_role R.ab R.me (by decide)) (ne_none q2)).trans q2)
 have ak3:(σ3.set T (tup [.int (kept:Nat) kt,.int (gone:Nat) gt] 0)) ak = some (lst (vk ++ vg) n2) :=
  Store.set_new hT ((k3 _ (ne_role gk2 R.me z72) (ne_none ak2)).trans ak2)
 have me4:(σ3.set T (tup [.int (kept:Nat) kt,.int (gone:Nat) gt] 0)) X.me = some (lst (mv ++ [.ref tp]) n3):=Store.set_new hT me3
 refine h1 kept gone T _ hkept.symm hgone.symm hlt rk rg hgn ⟨_,_,_,Store.set_same ..⟩ ?_ ?_ ?_
 ·intro x hx
  obtain ⟨o,ho⟩:=Option.ne_none_iff_exists'.mp hx
  by_cases q1:x = X.ab
  ·rw [q1,ab3]; intro h; exact ns h
  by_cases q2:x = ak
  ·rw [q2,ak3]; intro h; exact ns h
  by_cases q3:x = X.me
  ·rw [q3,me4]; intro h; exact ns h
  rw [all x o q1 q2 q3 ho]; intro h; exact ns h
 ·rintro x o (⟨c1,c2,c3⟩ | ht) h
  ·exact all x o (fun q=>c1 (q ▸ R.ab)) (fun q=>c3 (q ▸ gk2)) (fun q=>c2 (q ▸ R.me)) h
  ·exact all x o (fun q=>by subst q; rw [e] at h; cases h; exact lst_tup ht) (fun q=>by subst q; rw [gk3] at h; cases h; exact lst_tup ht) (fun q=>by subst q; rw [em] at h; cases h; exact lst_tup ht) h
 ·refine ⟨⟨?_,⟨_,_,_,ab3,hN.set gone kept kt,hL.mrg hlt rk rg⟩,wf.mrg hlt hgn rk rg,hsm⟩,⟨as,ka,?_,hal,fun i hi hr=>?_⟩,⟨_,_,me4,?_⟩⟩
  ·exact U.find.inst.ext (fun o ho=>all _ _ (ne_role R.u R.ab (by decide)) (ne_role R.u gk2 z67) (ne_role R.u R.me (by decide)) ho)
    (fun o ho=>all _ _ (ne_role R.ud R.ab (by decide)) (ne_role R.ud gk2 z68) (ne_role R.ud R.me (by decide)) ho)
  ·exact all _ _ (ne_role R.lo R.ab (by decide)) (ne_role R.lo gk2 z73) (ne_role R.lo R.me (by decide)) ea
  ·refine lG ?_; intro G
   by_cases q:i = kept
   ·subst q
    exact ⟨ak,_,_,_,gk1,gk2,ak3,gk4.append gg4,mem_mrg hne gk5 gg5⟩
   ·have hri:r i = i:=by
     unfold mrg at hr
     refine lG ?_; intro G
     by_cases q2:r i = gone
     ·rw [if_pos q2] at hr; exact absurd hr.symm q
     ·rw [if_neg q2] at hr; exact hr
    have hig:i≠gone:=by
     rintro rfl
     unfold mrg at hr; rw [if_pos rg] at hr; exact hne hr
    refine lG ?_; intro G
    obtain ⟨a',v',k',ms',z1,z2,z3,z4,z5⟩:=hlot i hi hri
    exact ⟨a',v',k',ms',z1,z2,all _ _ (ne_role z2 R.ab z65) (ne_role z2 gk2 (z74 q)) (ne_role z2 R.me z72) z3,z4,mem_other q hig z5⟩
  ·rw [List.length_append,List.length_singleton]; exact z75 hme hcl
end
end Mine
end
section
set_option maxRecDepth 10000
namespace Mine
section
variable {P:Par} {A:Around} {env:Env} {W:List Addr} {α β:Type} {σ σ':Store} {m:Vars} {X:HA} {ρ:Addr→Nat} {n:Nat} {r:Nat→Nat}
noncomputable def fdUMem (p:Params):{fd:FuncData // fdIn (Mine.hd.heap_1 p) 302 = some fd}:=⟨_,rfl⟩
theorem cUMem (O:P.Ok) {a:Nat} {t:Tok} {Q:Value→Store→Prop} (hR:Rm A 8) (U:UInv X ρ σ n r) (h60:n≤60) (ha:a < n) (h:∀ ms l ws k,Mem n r (r a) ms→σ l = none→Ns ws ms→Q (.ref l) (σ.set l (lst ws k))) :
  COp P A (.call (.ref 302) ⟨[.ref X.u,.int (a:Nat) t],[]⟩) σ Q:=by
 refine oCall O (fdUMem _).2 hR rfl rfl rfl rfl rfl rfl (fun L=>?_) rfl rfl rfl
 intro env A' W m0 Q'
 obtain hR':Rm A' 7:=hR.deeper
 refine lG ?_; intro G
 obtain ⟨as,ka,ea,hal,hlot⟩:=U.lo
 obtain wf:=U.find.wf
 refine lG ?_; intro G
 obtain ⟨al,vs,k,ms,g1,g2,g3,g4,g5⟩:=hlot (r a) (wf.lt ha) (wf.idem a ha)
 refine xLast (xReturn (xCallB O boot_sorted' rfl rfl ?_))
 refine lqE ?_; intro K
 refine (lq ?_); intro K
 refine xItem (xAttribute (xName (xLoad rfl rfl ?_)))
 refine lq ?_; intro K
 refine xOp (oGetAttr O U.find.inst rfl rfl rfl ?_)
 refine lq ?_; intro K
 refine xCallMeth (xName (xLoad rfl rfl fun pl=>?_))
 refine lq ?_; intro K
 refine xOp (oGetMethod O U.find.inst rfl rfl ⟨kept_fn O (fdFind _).2,?_⟩)
 refine lqE ?_; intro K
 refine (xName (xLoad rfl rfl (evNil ?_)))
 refine lq ?_; intro K
 refine xOp (oOf (cFind O (hR'.mono z61) U.find ha fun ta=>?_))
 obtain hlt:=wf.lt ha
 refine ⟨_,_,ka,r a,_,.ref al,rfl,rfl,.inl ea,(z76 h60 hlt),by rw [List.getElem?_map,g1]; rfl,?_⟩
 refine lqE ?_; intro K
 refine (xOp (oSortedL g3 g4 (by have:=g5.len; exact z77 h60 this) fun ms' l ws k hp hs hl hN=>?_))
 exact h ms' l ws k ⟨hp.symm.nodup g5.1,fun x=>(hp.mem_iff).trans (g5.2 x)⟩ hl hN
theorem Mem.old {n i:Nat} {r:Nat→Nat} {ms:List Nat} (h:Mem n r i ms) (hr:r n≠i):Mem (n + 1) r i ms :=
 ⟨h.1,fun x=>(h.2 x).trans ⟨fun ⟨a,b⟩=>⟨by omega,b⟩,fun ⟨a,b⟩=>⟨by rcases Nat.lt_or_ge x n with q | q; exact q; exact absurd ((show x = n by omega) ▸ b) hr,b⟩⟩⟩
theorem cls_id (n:Nat) (r:Nat→Nat) (h:r n = n):cls (n + 1) r = cls n r + 1:=by
 unfold cls
 rw [List.range_succ,List.countP_append]
 simp [h]
noncomputable def fdUMake (p:Params):{fd:FuncData // fdIn (Mine.hd.heap_1 p) 274 = some fd}:=⟨_,rfl⟩
theorem cUMake (O:P.Ok) {Q:Value→Store→Prop} (hR:Rm A 8) (R:Roles X ρ σ) (U:UInv X ρ σ n r) (hrn:r n = n) (hold:∀ x,x < n→r x < n) (h60:n < 60)
  (h:∀ t σ' ρ',(∀ a,σ a≠none→ρ' a = ρ a)→(∀ a,ρ' a≠0→σ' a≠none)→(∀ a,σ a≠none→σ' a≠none)→KpR (fun c=>c≠11∧c≠12) ρ σ σ'→UInv X ρ' σ' (n + 1) r→Q (.int ((n:Nat):Int) t) σ') :
  COp P A (.call (.ref 274) ⟨[.ref X.u],[]⟩) σ Q:=by
 refine oCall O (fdUMake _).2 hR rfl rfl rfl rfl rfl rfl (fun L=>?_) rfl rfl rfl
 intro env A' W m0 Q'
 have hR':Rm A' 7:=hR.deeper
 refine lG ?_; intro G
 obtain ⟨vs,kv,par,e,hN,hL⟩:=U.find.ab
 refine lG ?_; intro G
 obtain ⟨as,ka,ea,hal,hlot⟩:=U.lo
 obtain ⟨mv,km,em,hme⟩:=U.me
 refine lq ?_; intro K
 refine xCons (lq ?_); intro K
 refine xExpr (xCallMeth ?_)
 refine lq ?_; intro K
 refine xAttribute (xName (xLoad rfl rfl ?_))
 refine lq ?_; intro K
 refine xOp (oGetAttr O U.find.inst rfl rfl rfl fun pl=>?_)
 refine lq ?_; intro K
 refine xOp (oMethAppend e ⟨kept_builtin _,?_⟩)
 refine lqE ?_; intro K
 refine (xCallB O boot_len rfl rfl ?_)
 refine lqE ?_; intro K
 refine (xAttribute (xName (xLoad rfl rfl ?_)))
 refine lq ?_; intro K
 refine xOp (oGetAttr O U.find.inst rfl rfl rfl ?_)
 have hlen:vs.length = n:=by rw [hN.length,hL.len]
 refine lqE ?_; intro K
 refine (xOp (oLen e (z78 h60 hlen) fun t1=>?_))
 refine lqE ?_; intro K
 refine (xOp (oAppend e (z78 h60 hlen) fun n1=>?_))
 rw [hlen]
 have I1:IsI (σ.set X.ab (lst (vs ++ [.int (n:Nat) t1]) n1)) X.u X.ud 331 (uInst X):=U.find.inst.ext
  (fun o eo=>(Store.set_ne (ne_role R.u R.ab (by decide))).trans eo) (fun o eo=>(Store.set_ne (ne_role R.ud R.ab (by decide))).trans eo)
 have ab1:(σ.set X.ab (lst (vs ++ [.int (n:Nat) t1]) n1)) X.ab = some (lst (vs ++ [.int (n:Nat) t1]) n1):=Store.set_same ..
 generalize hσ1:σ.set X.ab (lst (vs ++ [.int (n:Nat) t1]) n1) = σ1 at *
 revert σ1; refine keep ?_; intro σ1; set_option tactic.hygienic false in intros
 have k1:∀ x,x≠X.ab→σ1 x = σ x:=fun x hx=>by rw [← hσ1]; exact Store.set_ne hx
 have e1:σ1 X.lo = some (lst (as.map Value.ref) ka):=(k1 _ (ne_role R.lo R.ab (by decide))).trans ea
 refine lq ?_; intro K
 refine xCons (lq ?_); intro K
 refine xExpr (xCallMeth ?_)
 refine lq ?_; intro K
 refine xAttribute (xName (xLoad rfl rfl ?_))
 refine lq ?_; intro K
 refine xOp (oGetAttr O I1 rfl rfl rfl fun pl=>?_)
 refine lq ?_; intro K
 refine xOp (oMethAppend e1 ⟨kept_builtin _,?_⟩)
 refine lqE ?_; intro K
 refine (xList ?_)
 refine lqE ?_; intro K
 refine (xCallB O boot_len rfl rfl ?_)
 refine lqE ?_; intro K
 refine (xAttribute (xName (xLoad rfl rfl ?_)))
 refine lq ?_; intro K
 refine xOp (oGetAttr O I1 rfl rfl rfl ?_)
 refine lqE ?_; intro K
 refine (xOp (oLen e1 (by rw [List.length_map]; exact z78 h60 hal) fun t2=>?_))
 refine fun g hg=>?_
 rw [List.length_map,hal]
 refine lqE ?_; intro K
 refine (xOp (oAppend (Store.set_new hg e1) (by rw [List.length_map]; exact z78 h60 hal) fun n2=>?_))
 have hgl:g≠X.lo:=fun q=>by rw [q,e1] at hg; exact ns hg
 have hga:g≠X.ab:=fun q=>by rw [q,ab1] at hg; exact ns hg
 have hgσ:σ g = none:=by rw [← k1 g hga]; exact hg
 generalize hσ2:((σ1.set g (lst [.int (n:Nat) t2] 0)).set X.lo (lst (as.map Value.ref ++ [.ref g]) n2)) = σ2 at *
 revert σ2; refine keep ?_; intro σ2; set_option tactic.hygienic false in intros
 have k2:∀ x,x≠X.lo→σ1 x≠none→σ2 x = σ1 x:=fun x hx h0=>by
  rw [← hσ2,Store.set_ne hx,Store.set_ne]
  rintro rfl; exact h0 hg
 have lo2:σ2 X.lo = some (lst ((as ++ [g]).map Value.ref) n2):=by rw [← hσ2,List.map_append]; exact Store.set_same ..
 have g2:σ2 g = some (lst [.int (n:Nat) t2] 0):=by rw [← hσ2,Store.set_ne hgl]; exact Store.set_same ..
 have all:∀ x o,x≠X.ab→x≠X.lo→σ x = some o→σ2 x = some o:=fun x o h1 h2 h=>by
  have q1:σ1 x = some o:=(k1 x h1).trans h
  exact (k2 x h2 (ne_none q1)).trans q1
 have ab2:σ2 X.ab = some (lst (vs ++ [.int (n:Nat) t1]) n1):=(k2 _ (ne_role R.ab R.lo (by decide)) (ne_none ab1)).trans ab1
 obtain I2:IsI σ2 X.u X.ud 331 (uInst X):=U.find.inst.ext (fun o ho=>all _ _ (ne_role R.u R.ab (by decide)) (ne_role R.u R.lo (by decide)) ho) (fun o ho=>all _ _ (ne_role R.ud R.ab (by decide)) (ne_role R.ud R.lo (by decide)) ho)
 refine lq ?_; intro K
 refine xLast (lq ?_); intro K
 refine xReturn (xBinOp ?_)
 refine lq ?_; intro K
 refine xCallB O boot_len rfl rfl ?_
 refine lqE ?_; intro K
 refine (xAttribute (xName (xLoad rfl rfl ?_)))
 refine lq ?_; intro K
 refine xOp (oGetAttr O I2 rfl rfl rfl ?_)
 refine lqE ?_; intro K
 refine (xOp (oLen ab2 (by rw [List.length_append,List.length_singleton]; exact z79 h60 hlen) fun t3=>?_))
 refine lq ?_; intro K
 refine xInt fun t4=>?_
 refine lq ?_; intro K
 refine xOp (oSub fun t5=>?_)
 rw [List.length_append,List.length_singleton,hlen,show (((n + 1:Nat):Int) - 1) = (n:Int) by exact z80]
 obtain wf:=U.find.wf
 refine h t5 σ2 (fun x=>if x = g then 100 + 2 * n else ρ x) ?_ ?_ ?_ ?_ ?_
 ·intro x hx
  show (if x = g then 100 + 2 * n else ρ x) = ρ x
  exact if_neg (fun (q:x = g)=>hx (q ▸ hgσ))
 ·intro x hx
  by_cases q:x = g
  ·rw [q,g2]; intro h; exact ns h
  ·rw [if_neg q] at hx
   obtain hs:σ x≠none:=fun q=>hx (R.free x q)
   obtain ⟨o,ho⟩:=Option.ne_none_iff_exists'.mp hs
   by_cases q1:x = X.ab
   ·rw [q1,ab2]; intro h; exact ns h
   by_cases q2:x = X.lo
   ·rw [q2,lo2]; intro h; exact ns h
   rw [all x o q1 q2 ho]; intro h; exact ns h
 ·intro x hx
  obtain ⟨o,ho⟩:=Option.ne_none_iff_exists'.mp hx
  by_cases q1:x = X.ab
  ·rw [q1,ab2]; intro h; exact ns h
  by_cases q2:x = X.lo
  ·rw [q2,lo2]; intro h; exact ns h
  rw [all x o q1 q2 ho]; intro h; exact ns h
 ·rintro x o (⟨c1,c2⟩ | ht) hx
  ·exact all x o (fun q=>c1 (q ▸ R.ab)) (fun q=>c2 (q ▸ R.lo)) hx
  ·exact all x o (fun q=>by subst q; rw [e] at hx; cases hx; exact lst_tup ht) (fun q=>by subst q; rw [ea] at hx; cases hx; exact lst_tup ht) hx
 ·obtain gne:∀ x,ρ x≠0→x≠g:=fun x hx q=>hx (q ▸ R.free g hgσ)
  refine ⟨⟨I2,⟨_,_,par ++ [n],ab2,hN.append (Ns.one _ _),⟨by rw [List.length_append,List.length_singleton,hL.len],fun x p hp=>?_⟩⟩,⟨fun x hx=>?_,fun x hx=>?_⟩,by have:=U.find.small; exact z81 h60⟩,⟨as ++ [g],n2,lo2,by rw [List.length_append,List.length_singleton,hal],fun i hi hr=>?_⟩,⟨mv,km,all _ _ (ne_role R.me R.ab (by decide)) (ne_role R.me R.lo (by decide)) em,?_⟩⟩
  ·by_cases q:x < par.length
   ·rw [List.getElem?_append_left q] at hp; exact hL.up x p hp
   ·rw [List.getElem?_append_right (z82 q)] at hp
    have:=(List.getElem?_eq_some_iff.mp hp).1
    simp only [List.length_singleton] at this
    obtain hxn:x = n:=by rw [← hL.len]; exact z83 q this
    rw [hxn,hL.len,Nat.sub_self] at hp
    simp only [List.getElem?_cons_zero,Option.some.injEq] at hp
    subst hp; subst hxn
    exact ⟨Nat.le_refl _,rfl,fun _=>hrn⟩
  ·rcases Nat.lt_or_ge x n with q | q
   ·exact wf.le x q
   ·have:x = n:=(z84 hx q)
    rw [this,hrn]; exact Nat.le_refl _
  ·rcases Nat.lt_or_ge x n with q | q
   ·exact wf.idem x q
   ·have:x = n:=(z84 hx q)
    rw [this,hrn,hrn]
  ·refine lG ?_; intro G
   by_cases q:i = n
   ·subst q
    refine ⟨g,_,0,[i],?_,if_pos rfl,g2,Ns.one _ _,by simp,fun x=>?_⟩
    ·rw [List.getElem?_append_right (z85 hal),hal,Nat.sub_self]; rfl
    ·rw [List.mem_singleton]
     constructor
     ·rintro rfl; exact ⟨z86,hrn⟩
     ·rintro ⟨a,b⟩
      rcases Nat.lt_or_ge x i with q | q
      ·have:=hold x q; exact z87 b this
      ·exact z84 a q
   ·refine lG ?_; intro G
    obtain ⟨a',v',k',ms',z1,z2,z3,z4,z5⟩:=hlot i (z46 hi q) hr
    refine ⟨a',v',k',ms',?_,?_,all _ _ (ne_role z2 R.ab z65) (ne_role z2 R.lo z88) z3,z4,z5.old (by rw [hrn]; exact Ne.symm q)⟩
    ·rw [List.getElem?_append_left (z89 hal hi q)]; exact z1
    ·show (if a' = g then _ else _) = _
     rw [if_neg (gne a' (by rw [z2]; exact z90))]; exact z2
  ·rw [cls_id n r hrn]; exact z91 hme
end
end Mine
end
namespace Mine
def AllI (vs:List Value):Prop:=AllInts vs.toArray
theorem AllI.nil:AllI []:=fun v hv=>by simp at hv
theorem AllI.snoc {vs:List Value} (h:AllI vs) (i:Int) (t:Tok):AllI (vs ++ [.int i t]):=fun v hv=>by
 rw [List.mem_toArray,List.mem_append] at hv
 rcases hv with hv | hv
 ·exact h v (by simpa using hv)
 ·rw [List.mem_singleton] at hv; exact ⟨i,t,hv⟩
theorem AllI.get {vs:List Value} (h:AllI vs) {i:Nat} {v:Value} (e:vs[i]? = some v):∃ i t,v = .int i t:=h v (by rw [List.mem_toArray]; exact List.mem_of_getElem? e)
section
variable {P:Par} {A:Around} {env:Env} {W:List Addr} {α β:Type} {σ:Store} {m:Vars} {ξ:Type}
theorem oSum {l:Addr} {vs:List Value} {n:Nat} {Q:Value→Store→Prop} (hh:A.handled = none) (e:σ l = some (lst vs n)) (hv:AllI vs) (h:∀ i t,Q (.int i t) σ):Op P A (call (.builtin "sum") [.ref l]) σ Q:=fun s G=>by
 obtain ⟨xs,hx⟩:=AllInts.items hv
 have el:=G.has _ _ e
 exact sum_intListG hh (xs:=xs) (by rw [← hx]; exact isList_of el) fun h' tk t' hk=>⟨σ,h _ _,Tr.kept G hk⟩
theorem oMax {l:Addr} {vs:List Value} {n:Nat} {Q:Value→Store→Prop} (hh:A.handled = none) (e:σ l = some (lst vs n)) (hv:AllI vs) (hne:vs≠[]) (h:∀ i t,Q (.int i t) σ):Op P A (call (.builtin "max") [.ref l]) σ Q:=fun s G=>by
 obtain ⟨xs,hx⟩:=AllInts.items hv
 have el:=G.has _ _ e
 have hsz:0 < xs.size:=by
  have:vs.toArray.size = xs.size:=by rw [hx]; simp [intItems]
  rw [← this,List.size_toArray]
  exact List.length_pos_iff.mpr hne
 refine max_intList hh (xs:=xs) (by rw [← hx]; exact isList_of el) hsz fun v h' tk hv hk=>?_
 obtain ⟨t,rfl⟩:=intItems_at hv
 exact ⟨σ,h _ _,Tr.kept G hk⟩
theorem xTrueChain2 {l r₁ r₂:PySem.Expr} {op₁ op₂:CmpOp} {pos:Pos} {whole:Sem Value} {Q:Bool→Store→Vars→Prop}
  (h:WP P A env W (eval l env) σ m (fun a σ m=>WP P A env W (eval r₁ env) σ m (fun b σ m=>WP P A env W (compareOp op₁ a b) σ m (fun c σ m=>WP P A env W (truthy c) σ m (fun t σ m=>(t = false→Q false σ m)∧(t = true →
   WP P A env W (eval r₂ env) σ m (fun b' σ m=>WP P A env W (compareOp op₂ b b') σ m (fun c σ m=>WP P A env W (truthy c) σ m Q)))))))) (hm:lastMarks [op₁,op₂] [r₁,r₂] = false:=by with_unfolding_all rfl) :
  WP P A env W (isTrue (.Compare l [op₁,op₂] [r₁,r₂] pos) env whole) σ m Q:=by
 show WP P A env W (do testChain pos (← eval l env) [op₁,op₂] (markedEach [op₁,op₂] [r₁,r₂] (evalEach [r₁,r₂] env))) σ m Q
 rw [markedEach_of_false _ _ _ hm]
 refine xBind (h.mono fun a σ m q=>?_)
 show WP P A env W (do
  let rv ← holding [a] (eval r₁ env)
  standAt pos
  let c ← holding [a,rv] (compareOp op₁ a rv)
  release [a,rv] [c]
  if ← holding [c,rv] (truthy c) then testChain pos rv [op₂] [eval r₂ env] else pure false) σ m Q
 refine xBind (xHolding (q.mono fun b σ m q=>xBind (xStandAt (xBind (xHolding (q.mono fun c σ m q=>xBind (xRelease (xBind (xHolding (q.mono fun t σ m q=>?_))))))))))
 cases t with
 | false=>exact xPure (q.1 rfl)
 | true =>
  show WP P A env W (do
   let rv ← holding [b] (eval r₂ env)
   standAt pos
   let c ← operate [b,rv] (compareOp op₂ b rv)
   holding [c] (truthy c)) σ m Q
  exact xBind (xHolding ((q.2 rfl).mono fun b' σ m q=>xBind (xStandAt (xBind (xOperate (q.mono fun c σ m q=>xHolding q))))))
theorem oEqS {x y:Str} {t u:Tok} {Q:Value→Store→Prop} (h:Q (.bool (x == y)) σ):Op P A (compareOp .Eq (.str x t) (.str y u)) σ Q:=oStill (fun _ _ _ _ r=>PyProof.Rows.eq_str r) h
theorem oNeS {x y:Str} {t u:Tok} {Q:Value→Store→Prop} (h:Q (.bool (x != y)) σ):Op P A (compareOp .NotEq (.str x t) (.str y u)) σ Q:=oStill (fun _ _ _ _ r=>PyProof.Rows.ne_str r) h
theorem oInS {x y:Str} {t u:Tok} {Q:Value→Store→Prop} (h:Q (.bool (!(Builtin.Str.occurrences x y 0 x.length 1).isEmpty)) σ):Op P A (compareOp .In (.str y u) (.str x t)) σ Q:=oStill (fun _ _ _ _ r=>PySem.P.in_str r) h
theorem oItemS {x:Str} {i c:Nat} {t u:Tok} {Q:Value→Store→Prop} (hi:x.cps[i]? = some c) (hz:i≤1000000) (h:∀ t,Q (.str ⟨#[c]⟩ t) σ):Op P A (getItem (.str x t) (.int (i:Nat) u)) σ Q:=fun _ G =>
 PyProof.Rows.getItem_str (c:=c) (by rw [Bool.or_eq_false_iff,decide_eq_false_iff_not,decide_eq_false_iff_not]; omega) (by
  have:i < x.cps.size:=(Array.getElem?_eq_some_iff.mp hi).1
  rw [seqIndex_of z7 (by show (i:Int) < ((x.cps.size:Nat):Int); exact z16 this)]
  simpa using hi) ⟨σ,h _,Tr.toks G _⟩
theorem srx_str {x:Str} {t:Tok} (hh:A.handled = none) (ha:x.cps.all (· < 128) = true):SrX P A (.str x t) x.cps.toList (fun c v=>∃ u,v = .str ⟨#[c]⟩ u) []:=fun target=>by
 refine Sr.of fun s R E hf k=>?_
 rw [Array.length_toList] at k
 have W:=Walks.strAscii (prog:=P.prog) (w:=P.w) hh s.heap.objs.size x t
 have W':Walks P.prog P.w A s.heap.objs.size [s.heap.objs.size] [s.heap.objs.size] x.cps.size (fun i v=>∃ y,x.cps.toList[i]? = some y∧∃ u,v = .str ⟨#[y]⟩ u) (fun i h=>h.IsStrIter s.heap.objs.size "str_ascii_iterator" x t i) :=
  ⟨W.sub,W.frame,fun i s Q E hi st q=>W.item i s Q E hi st fun v h' tk ⟨c,u,e1,e2⟩=>q v h' tk ⟨c,by simpa using e1,u,e2⟩,W.done,W.self⟩
 refine wpAny_pyIter_ascii ha (k _ (fun i h=>h.IsStrIter s.heap.objs.size "str_ascii_iterator" x t i) rfl ⟨fun target=>KTurns.ofWalks W' fun i v s' R E st r=>?_,fun i h st=>let ⟨o,e,_⟩:=st; ⟨o,e⟩,W'.self⟩ ⟨_,Heap.get?_push_size _ rfl,rfl,rfl⟩)
 refine lG ?_; intro G
 obtain ⟨o,ho,hc,hd⟩:=st
 exact notOwned ho hc hd (by decide) r
set_option maxRecDepth 100000 in
theorem oMethIsspace {x:Str} {t:Tok} {pl:Sem Bool} {Q:Value × List Value→Store→Prop} (h:Q (.builtin "str.isspace",[.str x t]) σ):Op P A (getMethod (.str x t) "isspace" pl) σ Q:=oStill (fun _ _ _ _ r=>PySem.GM.isspace r) h
theorem oIsspace {x:Str} {t:Tok} {Q:Value→Store→Prop} (h:Q (.bool (PySem.Txt.isspace x)) σ):Op P A (call (.builtin "str.isspace") [.str x t]) σ Q:=oStill (fun _ _ _ _ r=>PySem.SC.isspace r) h
end
end Mine
section
set_option maxRecDepth 10000
namespace Mine
def opOk (x:Str):Prop:=x = "a"∨x = "b"∨x = "f"∨x = "g"
section
variable {P:Par} {A:Around} {env:Env} {W:List Addr} {α β:Type} {σ σ':Store} {m:Vars} {X:HA} {ρ:Addr→Nat} {n:Nat} {r:Nat→Nat}
theorem Op.less' {t:Sem α} {Q Q':α→Store→Prop} (h:Op P A t σ Q') (hq:∀ a σ',Q' a σ'→∃ σ'',Q a σ''∧Le σ'' σ'):Op P A t σ Q :=
 fun s G=>wpAny_mono (h s G) (fun _ _ ⟨σ₁,q,T₁⟩=>by obtain ⟨σ₂,q₂,l⟩:=hq _ _ q; exact ⟨σ₂,q₂,T₁.less l⟩) fun _ _ f=>f
theorem Op.to {t:Sem α} {σ₀:Store} {R:α→Prop} {Q:α→Store→Prop} (hle:Le σ₀ σ) (h:Op P A t σ (fun v σ'=>σ' = σ∧R v)) (hq:∀ v,R v→Q v σ₀):Op P A t σ Q :=
 (h.mono (Q':=fun v σ'=>Le σ₀ σ'∧R v) fun v σ' ⟨e,r⟩=>⟨e ▸ hle,r⟩).less' fun v σ' ⟨l,r⟩=>⟨σ₀,hq v r,l⟩
theorem oEqNil {l b:Addr} {n k:Nat} {Q:Value→Store→Prop} (hR:Rm A 1) (e:σ l = some (lst [] n)) (e2:σ b = some (lst [] k)) (h:Q (.bool true) σ):Op P A (compareOp .Eq (.ref l) (.ref b)) σ Q:=fun s G=>by
 refine PySem.P.eq_list (e:=fun _=>true) (G.has _ _ e) (G.has _ _ e2) rfl (fun j h1=>by simp at h1) hR.line ⟨σ,?_,Tr.refl G⟩
 simpa using h
noncomputable def fdIsOp (p:Params):{fd:FuncData // fdIn (Mine.hd.heap_1 p) 145 = some fd}:=⟨_,rfl⟩
theorem cIsOp (O:P.Ok) {x:Str} {t:Tok} {Q:Value→Store→Prop} (hR:Rm A 4) (hx:opOk x) (h:Q (.bool true) σ):COp P A (.call (.ref 145) ⟨[.str x t],[]⟩) σ Q:=by
 refine oCall O (fdIsOp _).2 hR rfl rfl rfl rfl rfl rfl (fun L=>?_) rfl rfl rfl
 intro env A' W m0 Q'
 have hR':Rm A' 3:=hR.deeper
 have hh:=hR'.handled
 have x1:(x != "") = true:=by rcases hx with rfl | rfl | rfl | rfl <;> decide +kernel
 have x2:x.cps.all (· < 128) = true:=by rcases hx with rfl | rfl | rfl | rfl <;> decide +kernel
 have x3:∀ c ∈ x.cps.toList,PySem.Txt.isspace ⟨#[c]⟩ = false∧(Builtin.Str.occurrences "()[]{},:" ⟨#[c]⟩ 0 (Str.length "()[]{},:") 1).isEmpty = true:=by rcases hx with rfl | rfl | rfl | rfl <;> decide +kernel
 refine xLast (lq ?_); intro K
 refine xReturn (lq ?_); intro K
 refine xAnd2 (xCompare ?_)
 refine xName (lq ?_); intro K
 refine xLoad rfl rfl ?_
 refine xStr fun t1=>?_
 refine lq ?_; intro K
 refine xOp (lo ?_); intro K
 refine oNeS ?_
 rw [x1]
 refine xTruthyBool ⟨fun _=>?_,fun hf=>by cases hf⟩
 refine xCompare (lq ?_); intro K
 refine xListCompG (cl:=[]) ⟨rfl,rfl,rfl,rfl,rfl⟩ ?_
 refine xName (xLoad rfl rfl ?_)
 refine compGo_map x.cps.toList _ [] (fun _=>false) (fun _ _ _=>True) (srx_str hh x2) (fun p hp=>by cases hp) ?_ (fun _ _ _ _ _ _=>trivial) (fun _=>rfl) rfl rfl ?_ ?_
 ·rcases hx with rfl | rfl | rfl | rfl <;> decide +kernel
 ·rintro C c v σ' m' hc ⟨u,rfl⟩ hle hm hmx
  refine ⟨?_,fun hf=>by cases hf⟩
  show WP P _ _ _ _ _ _ _
  obtain ⟨y1,y2⟩:=x3 c hc
  refine lq ?_; intro K
  refine xTrueOr2 (lq ?_); intro K
  refine xTrueValue (xCallMeth ?_)
  refine lq ?_; intro K
  refine xName (xLoad rfl hmx fun pl=>?_)
  refine lq ?_; intro K
  refine xOp (oMethIsspace ⟨kept_builtin _,(xOp (oIsspace ?_))⟩)
  rw [y1]
  refine lq ?_; intro K
  refine xTruthyBool ⟨fun hf=>(by cases hf),fun _=>?_⟩
  refine lq ?_; intro K
  refine xTrueCompare (lq ?_); intro K
  refine xName (xLoad rfl hmx (xStr fun t2=>xOp (oInS ?_)))
  rw [y2]
  refine lq ?_; intro K
  exact xTruthyBool ⟨fun hf=>(by cases hf),fun _=>⟨rfl,rfl,rfl⟩⟩
 ·intro D ws k σ' hle hD hDl h2
  have hw:ws = []:=by
   have:=h2.length
   rw [show (x.cps.toList.filter fun _=>false) = [] from by simp] at this
   exact List.length_eq_zero_iff.mp this.symm
  subst hw
  refine lq ?_; intro K
  refine xList (fun b hb=>?_)
  refine lq ?_; intro K
  refine xOp (Op.to (hle.trans (Le.new hb)) (R:=fun v=>v = .bool true) (oEqNil (hR'.mono z92) (Store.set_new hb hDl) (Store.set_same ..) ⟨rfl,rfl⟩) fun v e=>?_)
  subst e; exact h
end
end Mine
end
section
set_option maxRecDepth 10000
namespace Mine
def bInst (X:HA):List (Str × Value):=[("nodes",.ref X.nl),("numbers",.ref X.nu),("weights",.ref X.wl),("depths",.ref X.dl)]
def bRole (c:Nat):Prop:=c = 3∨c = 4∨c = 7∨c = 8∨c = 9∨c = 10
structure BInv (P:Par) (X:HA) (σ:Store) (nodes:List Node):Prop where
 inst:IsI σ X.b X.bd 249 (bInst X)
 nl:(X2 fun vs k=>σ X.nl = some (lst vs k)∧All2 (fun nd v=>NodeAt σ v nd) nodes vs)
 nu:∃ l,DT P σ X.nu l∧l.map (·.1) = nodes
 wl:(X2 fun vs k=>N3 (σ X.wl = some (lst vs k)) (AllI vs) (vs.length = nodes.length))
 dl:(X2 fun vs k=>N3 (σ X.dl = some (lst vs k)) (AllI vs) (vs.length = nodes.length))
 wf:∀ (i:Nat) (nd:Node),nodes[i]? = some nd→∀ k ∈ nd.2,k < i
 ar:∀ nd ∈ nodes,nd.2.length≤10
 small:nodes.length≤50
section
variable {P:Par} {A:Around} {env:Env} {W:List Addr} {α β:Type} {σ σ':Store} {m:Vars} {X:HA} {ρ:Addr→Nat} {n:Nat} {r:Nat→Nat} {nodes:List Node}
theorem BInv.keep (B:BInv P X σ nodes) (R:Roles X ρ σ) (k:KpR bRole ρ σ σ'):BInv P X σ' nodes:=by
 have kt:∀ a o,o.cls = .type "tuple"→σ a = some o→σ' a = some o:=fun a o ht e=>k a o (.inr ht) e
 refine ⟨B.inst.ext (fun o e=>k _ o (.inl (by rw [R.b]; exact z93)) e) (fun o e=>k _ o (.inl (by rw [R.bd]; unfold bRole; exact z94)) e),?_,?_,?_,?_,B.wf,B.ar,B.small⟩
 ·refine lG ?_; intro G
  obtain ⟨vs,kk,e,h⟩:=B.nl
  exact ⟨vs,kk,k _ _ (.inl (by rw [R.nl]; exact z95)) e,h.mono fun _ _ x=>x.mono kt⟩
 ·refine lG ?_; intro G
  obtain ⟨l,D,h⟩:=B.nu
  exact ⟨l,D.keep (fun o e=>k _ o (.inl (by rw [R.nu]; exact z96)) e) kt,h⟩
 ·refine lG ?_; intro G
  obtain ⟨vs,kk,e,h,h'⟩:=B.wl
  exact ⟨vs,kk,k _ _ (.inl (by rw [R.wl]; exact z97)) e,h,h'⟩
 ·refine lG ?_; intro G
  obtain ⟨vs,kk,e,h,h'⟩:=B.dl
  exact ⟨vs,kk,k _ _ (.inl (by rw [R.dl]; exact z98)) e,h,h'⟩
noncomputable def fdBSize (p:Params):{fd:FuncData // fdIn (Mine.hd.heap_1 p) 166 = some fd}:=⟨_,rfl⟩
theorem cBSize (O:P.Ok) {Q:Value→Store→Prop} (hR:Rm A 4) (B:BInv P X σ nodes) (h:∀ t,Q (.int (nodes.length:Nat) t) σ):COp P A (.call (.ref 166) ⟨[.ref X.b],[]⟩) σ Q:=by
 refine oCall O (fdBSize _).2 hR rfl rfl rfl rfl rfl rfl (fun L=>?_) rfl rfl rfl
 intro env A' W m0 Q'
 obtain ⟨vs,k,e,h2⟩:=B.nl
 refine xLast (xReturn (xCallB O boot_len rfl rfl ?_))
 refine xAttribute (xName (xLoad rfl rfl ?_))
 refine xOp (oGetAttr O B.inst rfl rfl rfl ?_)
 refine (xOp (oLen e ?_ fun t=>?_))
 ·rw [← h2.length]; have:=B.small; exact z99 this
 ·rw [← h2.length]; exact h t
noncomputable def fdBOp (p:Params):{fd:FuncData // fdIn (Mine.hd.heap_1 p) 206 = some fd}:=⟨_,rfl⟩
theorem cBOp (O:P.Ok) {a:Nat} {t:Tok} {nd:Node} {Q:Value→Store→Prop} (hR:Rm A 4) (B:BInv P X σ nodes) (hn:nodes[a]? = some nd) (h:∀ t,Q (.str nd.1 t) σ):COp P A (.call (.ref 206) ⟨[.ref X.b,.int (a:Nat) t],[]⟩) σ Q:=by
 refine oCall O (fdBOp _).2 hR rfl rfl rfl rfl rfl rfl (fun L=>?_) rfl rfl rfl
 intro env A' W m0 Q'
 refine lG ?_; intro G
 obtain ⟨vs,k,e,h2⟩:=B.nl
 refine lG ?_; intro G
 obtain ⟨v,hv,T,k',u,ks,rfl,eT,hN⟩:=h2.get hn
 obtain hlt:a < nodes.length:=(List.getElem?_eq_some_iff.mp hn).1
 have:=B.small
 refine xLast (xReturn (xItem (xItem (xAttribute (xName (xLoad rfl rfl ?_))))))
 refine xOp (oGetAttr O B.inst rfl rfl rfl ?_)
 refine xName (xLoad rfl rfl ?_)
 refine ⟨_,vs,k,a,t,_,rfl,rfl,.inl e,(z100 hlt this),hv,?_⟩
 refine xInt fun t'=>⟨_,_,k',0,t',_,rfl,rfl,.inr eT,z101,rfl,?_⟩
 exact h u
noncomputable def fdBKids (p:Params):{fd:FuncData // fdIn (Mine.hd.heap_1 p) 213 = some fd}:=⟨_,rfl⟩
theorem cBKids (O:P.Ok) {a:Nat} {t:Tok} {nd:Node} {Q:Value→Store→Prop} (hR:Rm A 4) (B:BInv P X σ nodes) (hn:nodes[a]? = some nd) (h:∀ l vs σ',Le σ σ'→σ l = none→Ns vs nd.2→σ' l = some (tup vs 0)→Q (.ref l) σ'):COp P A (.call (.ref 213) ⟨[.ref X.b,.int (a:Nat) t],[]⟩) σ Q:=by
 refine oCall O (fdBKids _).2 hR rfl rfl rfl rfl rfl rfl (fun L=>?_) rfl rfl rfl
 intro env A' W m0 Q'
 refine lG ?_; intro G
 obtain ⟨vs,k,e,h2⟩:=B.nl
 refine lG ?_; intro G
 obtain ⟨v,hv,T,k',u,ks,rfl,eT,hN⟩:=h2.get hn
 obtain hlt:a < nodes.length:=(List.getElem?_eq_some_iff.mp hn).1
 have:=B.small
 refine xLast (xReturn (xSliceTail (xItem (xAttribute (xName (xLoad rfl rfl ?_))))))
 refine lq ?_; intro K
 refine xOp (oGetAttr O B.inst rfl rfl rfl ?_)
 refine lq ?_; intro K
 refine xName (xLoad rfl rfl ?_)
 refine ⟨_,vs,k,a,t,_,rfl,rfl,.inl e,(z100 hlt this),hv,?_⟩
 refine xInt fun t'=>⟨T,_,ks,k',t',rfl,rfl,eT,?_,fun l σ' hle hl el=>h l ks σ' hle hl hN el⟩
 have:=B.ar nd (List.mem_of_getElem? hn)
 rw [hN.length]; exact z102 this
noncomputable def fdReq (p:Params):{fd:FuncData // fdIn (Mine.hd.heap_1 p) 178 = some fd}:=⟨_,rfl⟩
theorem cReq (O:P.Ok) {x:Str} {t:Tok} {s:Value} {Q:Value→Store→Prop} (hR:Rm A 6) (hx:opOk x) (h:Q .none σ):COp P A (.call (.ref 178) ⟨[s,.str x t],[]⟩) σ Q:=by
 refine oCall O (fdReq _).2 hR rfl rfl rfl rfl rfl rfl (fun L=>?_) rfl rfl rfl
 intro env A' W m0 Q'
 obtain hR':Rm A' 5:=hR.deeper
 obtain ⟨c,hc,hq⟩:∃ c,x.cps[0]? = some c∧((⟨#[c]⟩:Str) == "?") = false:=by rcases hx with rfl | rfl | rfl | rfl <;> exact ⟨_,rfl,by decide +kernel⟩
 refine xLast (lq ?_); intro K
 refine xIf (lq ?_); intro K
 refine xTrueOr2 (xTrueNot (xTrueValue ?_))
 refine lq ?_; intro K
 refine xCallName (lq ?_); intro K
 refine xName (xLoadGlobal O rfl rfl ⟨kept_fn O (fdIsOp _).2,evCons (xName (xLoad rfl rfl (evNil ?_)))⟩)
 refine lq ?_; intro K
 refine xOp (lo ?_); intro K
 refine oOf (cIsOp O (hR'.mono z103) hx ?_)
 refine xTruthyBool ⟨fun hf=>(by cases hf),fun _=>?_⟩
 refine xTrueCompare (lq ?_); intro K
 refine xSubscript (T:="str") F.slot_str_getitem.lookup (lq ?_); intro K
 refine xName (xLoad rfl rfl (xInt fun t'=>⟨fun s _=>typeIs_str s x t,xOp (oItemS (i:=0) hc z101 fun t2=>?_)⟩))
 refine xStr fun t3=>xOp (lo ?_); intro K
 refine oEqS ?_
 rw [hq]
 exact xTruthyBool ⟨fun hf=>(by cases hf),fun _=>xNil h⟩
end
end Mine
end
section
set_option maxRecDepth 10000
namespace Mine
theorem tup_lst {σ:Store} {a:Addr} {vs ws:List Value} {k j:Nat} (h1:σ a = some (tup vs k)) (h2:σ a = some (lst ws j)):False:=lst_tup (congrArg Obj.cls (Option.some.inj (h1.symm.trans h2))).symm
theorem tup_dict {σ:Store} {a:Addr} {vs:List Value} {k:Nat} {o:Obj} (h1:σ a = some (tup vs k)) (h2:σ a = some o) (hc:o.cls = .type "dict"):False:=by
 have:=congrArg Obj.cls (Option.some.inj (h1.symm.trans h2))
 rw [hc] at this
 injection this with this
 revert this; decide
theorem lst_dict {σ:Store} {a:Addr} {vs:List Value} {k:Nat} {o:Obj} (h1:σ a = some (lst vs k)) (h2:σ a = some o) (hc:o.cls = .type "dict"):False:=by
 have:=congrArg Obj.cls (Option.some.inj (h1.symm.trans h2))
 rw [hc] at this
 injection this with this
 revert this; decide
theorem all2_allI {xs:List Nat} {ws:List Value} (h:All2 (fun _ v=>∃ i t,v = .int i t) xs ws):AllI ws:=fun v hv=>by
 obtain ⟨_,_,i,t,e⟩:=h.mem (by simpa using hv)
 exact ⟨i,t,e⟩
section
variable {P:Par} {A:Around} {env:Env} {W:List Addr} {α β:Type} {σ σ':Store} {m:Vars} {X:HA} {ρ:Addr→Nat} {n:Nat} {r:Nat→Nat} {nodes:List Node}
noncomputable def fdTake (p:Params):{fd:FuncData // fdIn (Mine.hd.heap_1 p) 171 = some fd}:=⟨_,rfl⟩
theorem cTake (O:P.Ok) {x:Str} {ka:Addr} {kv:List Value} {kk:Nat} {ks:List Nat} {t:Tok} {Q:Value→Store→Prop} (hR:Rm A 10) (R:Roles X ρ σ) (B:BInv P X σ nodes) (hx:opOk x) (ek:σ ka = some (tup kv kk)) (hN:Ns kv ks) (hnew:(x,ks) ∉ nodes) (hks:∀ k ∈ ks,k < nodes.length) (h10:ks.length≤10) (h50:nodes.length < 50)
  (h:∀ t σ',(∀ a,σ a≠none→σ' a≠none)→KpR (fun c=>c≠7∧c≠8∧c≠9∧c≠10) ρ σ σ'→BInv P X σ' (nodes ++ [(x,ks)])→Q (.int (nodes.length:Nat) t) σ') :
  COp P A (.call (.ref 171) ⟨[.ref X.b,.str x t,.ref ka],[]⟩) σ Q:=by
 refine oCall O (fdTake _).2 hR rfl rfl rfl rfl rfl rfl (fun L=>?_) rfl rfl rfl
 intro env A' W m0 Q'
 have hR':Rm A' 9:=hR.deeper
 have hh:=hR'.handled
 refine xCons (lq ?_); intro K
 refine xAssignName (xBinOp (xTuple ?_))
 refine lqE ?_; intro K
 refine (xName (xLoad rfl rfl ?_))
 refine lqE ?_; intro K
 refine fun t1 ht1=>?_
 refine lq ?_; intro K
 refine xCallT O boot_tuple rfl rfl (xName (xLoad rfl rfl (evNil ?_)))
 refine xOp (oTupleSame (Store.set_new ht1 ek) ?_)
 refine xOp (oAddTuple (Store.set_same ..) (Store.set_new ht1 ek) (by rw [List.length_nil,hN.length]; exact z104 h10) fun nt σ₁ le₁ ⟨k₁,e₁⟩=>?_)
 replace le₁:Le σ σ₁:=(Le.new ht1).trans le₁
 have N:NodeAt σ₁ (.ref nt) (x,ks):=⟨nt,k₁,t,kv,rfl,e₁,hN⟩
 have B₁:BInv P X σ₁ nodes:=B.keep R (KpR.le le₁)
 refine xStore rfl rfl (List.mem_cons_self ..) ?_
 obtain ⟨l,D,hl⟩:=B₁.nu
 have hno:l.lookup (x,ks) = none:=by
  rw [List.lookup_eq_none_iff]
  intro p hp
  rw [bne_iff_ne]
  intro q
  exact hnew (hl ▸ List.mem_map.mpr ⟨p,hp,q.symm⟩)
 refine xCons (lq ?_); intro K
 refine xIf (xTrueCompare ?_)
 refine xName (xLoad rfl rfl ?_)
 refine xAttribute (xName (xLoadCell rfl rfl rfl ?_))
 refine xOp (oGetAttr O B₁.inst rfl rfl rfl ?_)
 refine xOp (oTIn (hR'.mono z105) D N ?_)
 rw [hno]
 refine xTruthyBool ⟨fun hf=>(by cases hf),fun _=>xNil ?_⟩
 refine xCons (lq ?_); intro K
 refine xExpr (xCallMeth ?_)
 refine xName (xLoadCell rfl rfl rfl fun pl=>?_)
 refine xOp (oGetMethod O B₁.inst rfl rfl ⟨kept_fn O (fdReq _).2,?_⟩)
 refine (xName (xLoad rfl rfl (evNil ?_)))
 refine xOp (oOf (cReq O (hR'.mono z106) hx ?_))
 refine xCons (lq ?_); intro K
 refine xForX (ξ:=Nat) (xSliceTail ?_)
 refine lq ?_; intro K
 refine xName (xLoad rfl rfl (xInt fun t2=>?_))
 refine ⟨nt,_,kv,k₁,t2,rfl,rfl,e₁,by rw [hN.length]; exact z102 h10,fun s1 σ₂ le₂ hs1 es1=>?_⟩
 have B₂:BInv P X σ₂ nodes:=B₁.keep (R.keep fun a _ h0 q=>h0 (none_less le₁ q)) (KpR.le le₂)
 obtain ⟨nv,nk,en,h2n⟩:=B₂.nl
 have hnl:nv.length = nodes.length:=h2n.length.symm
 generalize hm₀:Vars.set _ "node" (Value.ref nt) = m₀
 have m₀s:m₀ "self" = some (.ref X.b):=by rw [← hm₀]; rfl
 have m₀n:m₀ "node" = some (.ref nt):=by rw [← hm₀]; rfl
 refine ⟨ks,_,_,fun _ σ' m'=>σ' = σ₂∧∀ z:Str,z≠"kid"→m' z = m₀ z,srx_tuple (k:=0) hh (Ns.all2.mp hN),?_,⟨rfl,fun _ _=>rfl⟩,?_,?_⟩
 ·rintro i _ m' ⟨rfl,_⟩ p hp
  rw [List.mem_singleton] at hp; subst hp; exact es1
 ·rintro i y v _ m' hy ⟨tv,rfl⟩ ⟨rfl,hm⟩
  have hlt:=hks y (List.mem_of_getElem? hy)
  refine lq ?_; intro K
  refine xStore rfl rfl (List.mem_cons_self ..) ?_
  refine lq ?_; intro K
  refine xLast (lq ?_); intro K
  refine xIf (xTrueNot (xTrueChain2 ?_))
  refine lq ?_; intro K
  refine xInt fun t3=>xName (xLoad rfl rfl ?_)
  refine lq ?_; intro K
  refine xOp (oLe ?_)
  rw [show decide ((0:Int)≤(y:Int)) = true from by simp]
  refine lq ?_; intro K
  refine xTruthyBool ⟨fun hf=>(by cases hf),fun _=>?_⟩
  refine lq ?_; intro K
  refine xCallB O boot_len rfl rfl (xAttribute (xName (xLoadCell rfl rfl ((hm _ (by decide)).trans m₀s) ?_)))
  refine lq ?_; intro K
  refine xOp (oGetAttr O B₂.inst rfl rfl rfl ?_)
  refine lqE ?_; intro K
  refine (xOp (oLen en (z107 h50 hnl) fun t4=>?_))
  refine lq ?_; intro K
  refine xOp (oLt ?_)
  rw [show decide ((y:Int) < (nv.length:Nat)) = true from by simp; exact z108 hnl hlt]
  refine lq ?_; intro K
  refine xTruthyBool ⟨fun hf=>(by cases hf),fun _=>xNil ⟨rfl,fun z hz=>?_⟩⟩
  show (if z = "kid" then _ else _) = _
  rw [if_neg hz]; exact hm z hz
 rintro σq m' ⟨hq,hm⟩
 rw [hq]; clear hq σq
 have ms:m' "self" = some (.ref X.b):=(hm _ (by decide)).trans m₀s
 have mn:m' "node" = some (.ref nt):=(hm _ (by decide)).trans m₀n
 have N₂:NodeAt σ₂ (.ref nt) (x,ks):=N.mono fun a o _ e=>le₂ a o e
 obtain ⟨l₂,D₂,hl₂⟩:=B₂.nu
 have hno₂:l₂.lookup (x,ks) = none:=by
  rw [List.lookup_eq_none_iff]
  intro p hp
  rw [bne_iff_ne]
  intro q
  exact hnew (hl₂ ▸ List.mem_map.mpr ⟨p,hp,q.symm⟩)
 have hll:l₂.length = nodes.length:=by rw [← hl₂,List.length_map]
 refine lq ?_; intro K
 refine xCons (lq ?_); intro K
 refine xAssignSub ?_
 refine lq ?_; intro K
 refine xCallB O boot_len rfl rfl (xAttribute (xName (xLoadCell rfl rfl ms ?_)))
 refine lq ?_; intro K
 refine xOp (oGetAttr O B₂.inst rfl rfl rfl ?_)
 refine lqE ?_; intro K
 refine (xOp (oLen en (z107 h50 hnl) fun t5=>?_))
 refine lq ?_; intro K
 refine xAttribute (xName (xLoadCell rfl rfl ms ?_))
 refine lq ?_; intro K
 refine xOp (oGetAttr O B₂.inst rfl rfl rfl ?_)
 refine lq ?_; intro K
 refine xName (xLoad rfl mn ?_)
 refine lq ?_; intro K
 refine xOp (oTSet (hR'.mono z105) D₂ N₂ hno₂ (z107 h50 hll) fun o D₃=>?_)
 generalize hσ3:σ₂.set X.nu o = σ₃ at *
 revert σ₃; refine keep ?_; intro σ₃; set_option tactic.hygienic false in intros
 have k3:∀ a,a≠X.nu→σ₃ a = σ₂ a:=fun a ha=>by rw [← hσ3]; exact Store.set_ne ha
 obtain R₂:Roles X ρ σ₂:=(R.keep fun a _ h0 q=>h0 (none_less le₁ q)).keep fun a _ h0 q=>h0 (none_less le₂ q)
 obtain nu3:∃ o,σ₃ X.nu = some o∧o.cls = .type "dict":=by obtain ⟨o,_,_,_,e,ho,_⟩:=D₃; exact ⟨o,e,ho.1⟩
 obtain I3:IsI σ₃ X.b X.bd 249 (bInst X):=B₂.inst.ext (fun o eo=>(k3 _ (ne_role R.b R.nu (by decide))).trans eo) (fun o eo=>(k3 _ (ne_role R.bd R.nu (by decide))).trans eo)
 have en3:σ₃ X.nl = some (lst nv nk):=(k3 _ (ne_role R.nl R.nu (by decide))).trans en
 refine lq ?_; intro K
 refine xCons (lq ?_); intro K
 refine xExpr (xCallMeth ?_)
 refine lq ?_; intro K
 refine xAttribute (xName (xLoadCell rfl rfl ms ?_))
 refine lq ?_; intro K
 refine xOp (oGetAttr O I3 rfl rfl rfl fun pl=>?_)
 refine lq ?_; intro K
 refine xOp (oMethAppend en3 ⟨kept_builtin _,?_⟩)
 refine lqE ?_; intro K
 refine (xName (xLoad rfl mn (evNil ?_)))
 refine lq ?_; intro K
 refine xOp (oAppend en3 (z107 h50 hnl) fun n4=>?_)
 generalize hσ4:σ₃.set X.nl (lst (nv ++ [.ref nt]) n4) = σ₄ at *
 revert σ₄; refine keep ?_; intro σ₄; set_option tactic.hygienic false in intros
 have k4:∀ a,a≠X.nl→σ₄ a = σ₃ a:=fun a ha=>by rw [← hσ4]; exact Store.set_ne ha
 have I4:IsI σ₄ X.b X.bd 249 (bInst X):=I3.ext (fun o eo=>(k4 _ (ne_role R.b R.nl (by decide))).trans eo) (fun o eo=>(k4 _ (ne_role R.bd R.nl (by decide))).trans eo)
 refine lG ?_; intro G
 obtain ⟨wv,wk,ew,hwI,hwl⟩:=B₂.wl
 refine lG ?_; intro G
 obtain ⟨dv,dk,ed,hdI,hdl⟩:=B₂.dl
 have ew4:σ₄ X.wl = some (lst wv wk):=(k4 _ (ne_role R.wl R.nl (by decide))).trans ((k3 _ (ne_role R.wl R.nu (by decide))).trans ew)
 have en4:σ₄ X.nl = some (lst (nv ++ [.ref nt]) n4):=by rw [← hσ4]; exact Store.set_same ..
 have e14:σ₄ nt = some (tup (.str x t :: kv) k₁):=by
  have q2:=le₂ _ _ e₁
  have h3:nt≠X.nu:=fun q=>by subst q; obtain ⟨o',_,_,_,e',ho,_⟩:=D₂; exact tup_dict q2 e' ho.1
  have h4:nt≠X.nl:=fun q=>by subst q; exact tup_lst q2 en
  exact (k4 _ h4).trans ((k3 _ h3).trans q2)
 refine lq ?_; intro K
 refine xCons (lq ?_); intro K
 refine xExpr (xCallMeth ?_)
 refine lq ?_; intro K
 refine xAttribute (xName (xLoadCell rfl rfl ms ?_))
 refine lq ?_; intro K
 refine xOp (oGetAttr O I4 rfl rfl rfl fun pl=>?_)
 refine lq ?_; intro K
 refine xOp (oMethAppend ew4 ⟨kept_builtin _,?_⟩)
 refine lqE ?_; intro K
 refine (xBinOp (xInt fun t6=>?_))
 refine lq ?_; intro K
 refine xCallB O boot_sum rfl rfl ?_
 refine lq ?_; intro K
 refine xListCompG ⟨rfl,rfl,rfl,rfl,rfl⟩ ?_
 refine lq ?_; intro K
 refine xSliceTail (xName (xLoad rfl mn (xInt fun t7=>?_)))
 refine ⟨nt,_,kv,k₁,t7,rfl,rfl,e14,by rw [hN.length]; exact z102 h10,fun s2 σ₅ le₅ hs2 es2=>?_⟩
 refine compGo_map ks _ _ (fun _=>true) (fun _ v _=>∃ i t,v = .int i t) (srx_tuple (k:=0) hh (Ns.all2.mp hN)) (fun p hp=>by rw [List.mem_singleton] at hp; subst hp; exact es2) (z102 h10) (fun _ _ _ _ h _=>h) (fun _=>rfl) rfl rfl ?_ ?_
 ·rintro C y v σ' m'' hy ⟨u,rfl⟩ hle hm' hmx
  refine ⟨⟨rfl,rfl,rfl⟩,fun _=>?_⟩
  have I5:=I4.ext (fun o e=>hle _ _ (le₅ _ _ e)) (fun o e=>hle _ _ (le₅ _ _ e))
  have hlt:=hks y hy
  have hself:m'' "self" = some (.ref X.b):=(hm' _ (by decide)).trans ms
  refine lq ?_; intro K
  refine xItem (xAttribute (xName (xLoadCell rfl rfl hself ?_)))
  refine lq ?_; intro K
  refine xOp (oGetAttr O I5 rfl rfl rfl ?_)
  refine lq ?_; intro K
  refine xName (xLoad rfl hmx ?_)
  refine lG ?_; intro G
  obtain ⟨wi,hwi⟩:∃ v,wv[y]? = some v:=⟨wv[y]'(z108 hwl hlt),List.getElem?_eq_getElem _⟩
  exact ⟨_,wv,wk,y,u,wi,rfl,rfl,.inl (hle _ _ (le₅ _ _ ew4)),(z109 h50 hlt),hwi,Le.refl _,rfl,hwI.get hwi⟩
 intro D' ws kw σ₆ le₆ hD' eD' h2w
 refine lqE ?_; intro K
 refine (xOp (Op.to (Le.trans (a:=σ₄) (b:=σ₅) le₅ le₆) (R:=fun v=>∃ i t,v = .int i t) (oSum hh eD' (all2_allI h2w) fun i t=>⟨rfl,i,t,rfl⟩) ?_))
 rintro _ ⟨i8,t8,rfl⟩
 refine lq ?_; intro K
 refine xOp (oAdd fun t9=>?_)
 refine lqE ?_; intro K
 refine (xOp (oAppend ew4 (z107 h50 hwl) fun n7=>?_))
 clear le₆ hD' eD' h2w le₅ hs2 es2
 generalize hσ7:σ₄.set X.wl (lst (wv ++ [.int (1 + i8) t9]) n7) = σ₇ at *
 revert σ₇; refine keep ?_; intro σ₇; set_option tactic.hygienic false in intros
 have k7:∀ a,a≠X.wl→σ₇ a = σ₄ a:=fun a ha=>by rw [← hσ7]; exact Store.set_ne ha
 have I7:IsI σ₇ X.b X.bd 249 (bInst X):=I4.ext (fun o eo=>(k7 _ (ne_role R.b R.wl (by decide))).trans eo) (fun o eo=>(k7 _ (ne_role R.bd R.wl (by decide))).trans eo)
 have ed7:σ₇ X.dl = some (lst dv dk):=(k7 _ (ne_role R.dl R.wl (by decide))).trans ((k4 _ (ne_role R.dl R.nl (by decide))).trans ((k3 _ (ne_role R.dl R.nu (by decide))).trans ed))
 have ew7:σ₇ X.wl = some (lst (wv ++ [.int (1 + i8) t9]) n7):=by rw [← hσ7]; exact Store.set_same ..
 obtain e17:σ₇ nt = some (tup (.str x t :: kv) k₁):=(k7 _ fun q=>by subst q; exact tup_lst e14 ew4).trans e14
 obtain en7:σ₇ X.nl = some (lst (nv ++ [.ref nt]) n4):=(k7 _ (ne_role R.nl R.wl (by decide))).trans en4
 refine lq ?_; intro K
 refine xCons (lq ?_); intro K
 refine xExpr (xCallMeth ?_)
 refine lq ?_; intro K
 refine xAttribute (xName (xLoadCell rfl rfl ms ?_))
 refine lq ?_; intro K
 refine xOp (oGetAttr O I7 rfl rfl rfl fun pl=>?_)
 refine lq ?_; intro K
 refine xOp (oMethAppend ed7 ⟨kept_builtin _,?_⟩)
 refine lqE ?_; intro K
 refine (xBinOp (xInt fun t10=>?_))
 refine lq ?_; intro K
 refine xCallB O boot_max rfl rfl (xBinOp ?_)
 refine lq ?_; intro K
 refine xListCompG ⟨rfl,rfl,rfl,rfl,rfl⟩ ?_
 refine lq ?_; intro K
 refine xSliceTail (xName (xLoad rfl mn (xInt fun t11=>?_)))
 refine ⟨nt,_,kv,k₁,t11,rfl,rfl,e17,by rw [hN.length]; exact z102 h10,fun s3 σ₈ le₈ hs3 es3=>?_⟩
 refine compGo_map ks _ _ (fun _=>true) (fun _ v _=>∃ i t,v = .int i t) (srx_tuple (k:=0) hh (Ns.all2.mp hN)) (fun p hp=>by rw [List.mem_singleton] at hp; subst hp; exact es3) (z102 h10) (fun _ _ _ _ h _=>h) (fun _=>rfl) rfl rfl ?_ ?_
 ·rintro C y v σ' m'' hy ⟨u,rfl⟩ hle hm' hmx
  refine ⟨⟨rfl,rfl,rfl⟩,fun _=>?_⟩
  have I8:=I7.ext (fun o e=>hle _ _ (le₈ _ _ e)) (fun o e=>hle _ _ (le₈ _ _ e))
  have hlt:=hks y hy
  have hself:m'' "self" = some (.ref X.b):=(hm' _ (by decide)).trans ms
  refine lq ?_; intro K
  refine xItem (xAttribute (xName (xLoadCell rfl rfl hself ?_)))
  refine lq ?_; intro K
  refine xOp (oGetAttr O I8 rfl rfl rfl ?_)
  refine lq ?_; intro K
  refine xName (xLoad rfl hmx ?_)
  refine lG ?_; intro G
  obtain ⟨wi,hwi⟩:∃ v,dv[y]? = some v:=⟨dv[y]'(z108 hdl hlt),List.getElem?_eq_getElem _⟩
  exact ⟨_,dv,dk,y,u,wi,rfl,rfl,.inl (hle _ _ (le₈ _ _ ed7)),(z109 h50 hlt),hwi,Le.refl _,rfl,hdI.get hwi⟩
 intro D' ws kw σ₉ le₉ hD' eD' h2w
 have hws:ws.length≤10:=by rw [← h2w.length]; exact Nat.le_trans (List.length_filter_le _ _) h10
 refine lq ?_; intro K
 refine xList (xInt fun t12=>evNil fun zl hzl=>?_)
 refine lq ?_; intro K
 refine xOp (oAddList (Store.set_new hzl eD') (Store.set_same ..) (by simp only [List.length_singleton]; exact z110 hws) fun ml hml=>?_)
 refine lqE ?_; intro K
 refine (xOp (Op.to (((Le.trans (a:=σ₇) (b:=σ₈) le₈ le₉).trans (Le.new hzl)).trans (Le.new hml)) (R:=fun v=>∃ i t,v = .int i t) (oMax hh (Store.set_same ..) ((all2_allI h2w).snoc 0 t12) (by simp) fun i t=>⟨rfl,i,t,rfl⟩) ?_))
 rintro _ ⟨i13,t13,rfl⟩
 refine lq ?_; intro K
 refine xOp (oAdd fun t14=>?_)
 refine lqE ?_; intro K
 refine (xOp (oAppend ed7 (z107 h50 hdl) fun n10=>?_))
 generalize hσ10:σ₇.set X.dl (lst (dv ++ [.int (1 + i13) t14]) n10) = σ₁₀ at *
 revert σ₁₀; refine keep ?_; intro σ₁₀; set_option tactic.hygienic false in intros
 have k10:∀ a,a≠X.dl→σ₁₀ a = σ₇ a:=fun a ha=>by rw [← hσ10]; exact Store.set_ne ha
 have I10:IsI σ₁₀ X.b X.bd 249 (bInst X):=I7.ext (fun o eo=>(k10 _ (ne_role R.b R.dl (by decide))).trans eo) (fun o eo=>(k10 _ (ne_role R.bd R.dl (by decide))).trans eo)
 have en10:σ₁₀ X.nl = some (lst (nv ++ [.ref nt]) n4):=(k10 _ (ne_role R.nl R.dl (by decide))).trans en7
 have ew10:σ₁₀ X.wl = some (lst (wv ++ [.int (1 + i8) t9]) n7):=(k10 _ (ne_role R.wl R.dl (by decide))).trans ew7
 have ed10:σ₁₀ X.dl = some (lst (dv ++ [.int (1 + i13) t14]) n10):=by rw [← hσ10]; exact Store.set_same ..
 refine lq ?_; intro K
 refine xLast (lq ?_); intro K
 refine xReturn (xBinOp ?_)
 refine lq ?_; intro K
 refine xCallB O boot_len rfl rfl (xAttribute (xName (xLoadCell rfl rfl ms ?_)))
 refine lq ?_; intro K
 refine xOp (oGetAttr O I10 rfl rfl rfl ?_)
 refine lqE ?_; intro K
 refine (xOp (oLen en10 (by rw [List.length_append,List.length_singleton]; exact z111 h50 hnl) fun t15=>?_))
 refine lq ?_; intro K
 refine xInt fun t16=>xOp (oSub fun t17=>?_)
 rw [List.length_append,List.length_singleton,hnl,show (((nodes.length + 1:Nat):Int) - 1) = (nodes.length:Int) by exact z80]
 have all:∀ a o,a≠X.nu→a≠X.nl→a≠X.wl→a≠X.dl→σ₂ a = some o→σ₁₀ a = some o:=fun a o h1 h2 h3 h4 e=>(k10 a h4).trans ((k7 a h3).trans ((k4 a h2).trans ((k3 a h1).trans e)))
 have fromσ:∀ a o,σ a = some o→σ₂ a = some o:=fun a o e=>le₂ _ _ (le₁ _ _ e)
 refine lG ?_; intro G
 obtain ⟨lnu,Dnu,hlnu⟩:=B.nu
 refine lG ?_; intro G
 obtain ⟨onu,_,_,_,enu,honu,_⟩:=Dnu
 refine lG ?_; intro G
 obtain ⟨vnl,knl,enl,_⟩:=B.nl
 refine lG ?_; intro G
 obtain ⟨vwl,kwl,ewl,_⟩:=B.wl
 obtain ⟨vdl,kdl,edl,_⟩:=B.dl
 have tupk:∀ a o,o.cls = .type "tuple"→σ₂ a = some o→σ₁₀ a = some o:=fun a o ht e=>by
  obtain ⟨o₂,_,_,_,e2,ho2,_⟩:=D₂
  have dt:∀ {o':Obj},o'.cls = .type "dict"→o'.cls = .type "tuple"→False:=fun h1 h2=>by rw [h1] at h2; injection h2 with h2; revert h2; decide
  refine all a o (fun q=>?_) (fun q=>?_) (fun q=>?_) (fun q=>?_) e
  ·subst q; rw [e2] at e; cases e; exact dt ho2.1 ht
  ·subst q; rw [en] at e; cases e; exact lst_tup ht
  ·subst q; rw [ew] at e; cases e; exact lst_tup ht
  ·subst q; rw [ed] at e; cases e; exact lst_tup ht
 have D10:DT P σ₁₀ X.nu (l₂ ++ [((x,ks),nodes.length)]):=by
  rw [hnl] at D₃
  refine (D₃.keep (σ':=σ₁₀) (fun o e=>?_) fun a o ht e=>?_)
  ·exact (k10 _ (ne_role R.nu R.dl (by decide))).trans ((k7 _ (ne_role R.nu R.wl (by decide))).trans ((k4 _ (ne_role R.nu R.nl (by decide))).trans e))
  ·have:a≠X.nu:=fun q=>by
    obtain ⟨o',e',ho'⟩:=nu3
    subst q; rw [e'] at e; cases e; rw [ho'] at ht; injection ht with ht; revert ht; decide
   exact tupk a o ht ((k3 a this) ▸ e)
 refine h t17 σ₁₀ (fun a ha=>?_) (fun a o hc e=>?_) ?_
 ·obtain ⟨o,ho⟩:=Option.ne_none_iff_exists'.mp ha
  by_cases q1:a = X.nu
  ·subst q1; obtain ⟨o,_,_,_,e,_⟩:=D10; rw [e]; intro h; exact ns h
  by_cases q2:a = X.nl
  ·subst q2; rw [en10]; intro h; exact ns h
  by_cases q3:a = X.wl
  ·subst q3; rw [ew10]; intro h; exact ns h
  by_cases q4:a = X.dl
  ·subst q4; rw [ed10]; intro h; exact ns h
  rw [all a o q1 q2 q3 q4 (fromσ a o ho)]; intro h; exact ns h
 ·rcases hc with ⟨c1,c2,c3,c4⟩ | ht
  ·exact all a o (fun q=>c4 (q ▸ R.nu)) (fun q=>c1 (q ▸ R.nl)) (fun q=>c2 (q ▸ R.wl)) (fun q=>c3 (q ▸ R.dl)) (fromσ a o e)
  ·exact tupk a o ht (fromσ a o e)
 ·refine ⟨I10,⟨_,_,en10,(h2n.mono fun _ _ z=>z.mono tupk).append (.cons (N₂.mono tupk) .nil)⟩,⟨_,D10,by rw [List.map_append,hl₂]; rfl⟩,⟨_,_,ew10,hwI.snoc _ _,by rw [List.length_append,List.length_append,hwl]; rfl⟩,⟨_,_,ed10,hdI.snoc _ _,by rw [List.length_append,List.length_append,hdl]; rfl⟩,fun i nd hi k hk=>?_,fun nd hnd=>?_,by rw [List.length_append,List.length_singleton]; omega⟩
  ·by_cases q:i < nodes.length
   ·rw [List.getElem?_append_left q] at hi; exact B.wf i nd hi k hk
   ·rw [List.getElem?_append_right (by omega)] at hi
    have:=(List.getElem?_eq_some_iff.mp hi).1
    simp only [List.length_singleton] at this
    have hi0:i - nodes.length = 0:=(z112 this)
    rw [hi0] at hi
    simp only [List.getElem?_cons_zero,Option.some.injEq] at hi
    subst hi
    have:=hks k hk
    omega
  ·rcases List.mem_append.mp hnd with q | q
   ·exact B.ar nd q
   ·rw [List.mem_singleton] at q; subst q; exact h10
end
end Mine
end
section
set_option maxRecDepth 10000
namespace Mine
structure St where
 nodes:List Node
 r:Nat→Nat
 known:List (Node × Nat)
 abv:Nat→List Nat
 waiting:List Nat
 ne:Nat
abbrev St.n (s:St):Nat:=s.nodes.length
def hInst (X:HA) (t:Tok):List (Str × Value):=[("bank",.ref X.b),("unions",.ref X.u),("edges",.ref X.ed),("forest",.ref X.fo),("known",.ref X.kn),("above",.ref X.av),("waiting",.ref X.wt),("backs",.int 0 t)]
def hRole (c:Nat):Prop:=c = 1∨c = 2∨c = 14∨c = 15∨c = 16∨c = 17∨c = 18∨(100≤c∧c % 2 = 1)
def sig (r:Nat→Nat) (nd:Node):Node:=(nd.1,nd.2.map r)
structure HPart (P:Par) (X:HA) (ρ:Addr→Nat) (σ:Store) (s:St):Prop where
 inst:∃ t,IsI σ X.h X.hd 463 (hInst X t)
 ed:(X2 fun vs k=>σ X.ed = some (lst vs k)∧vs.length≤s.ne)
 fo:(X2 fun vs k=>σ X.fo = some (lst vs k)∧vs.length + cls s.n s.r≤s.n)
 kn:DT P σ X.kn s.known
 av:(∃ l,N3 (DN P σ X.av l) (l.length≤s.n) (∀ i,i < s.n→s.r i = i→(X3 fun a vs k=>N4 (l.lookup i = some (.ref a)) (ρ a = 101 + 2 * i) (σ a = some (lst vs k)) (Ns vs (s.abv i)))))
 wt:(X2 fun vs k=>σ X.wt = some (lst vs k)∧Ns vs s.waiting)
structure HInv (P:Par) (X:HA) (ρ:Addr→Nat) (σ:Store) (s:St):Prop where
 R:Roles X ρ σ
 B:BInv P X σ s.nodes
 U:UInv X ρ σ s.n s.r
 H:HPart P X ρ σ s
theorem dn_tup {o:Obj} (hd:o.cls = .type "dict") (ht:o.cls = .type "tuple"):False:=by rw [hd] at ht; injection ht with ht; revert ht; decide
section
variable {P:Par} {A:Around} {env:Env} {W:List Addr} {α β:Type} {σ σ':Store} {m:Vars} {X:HA} {ρ:Addr→Nat} {s:St}
theorem HPart.keep (H:HPart P X ρ σ s) (R:Roles X ρ σ) (k:KpR hRole ρ σ σ') {ρ':Addr→Nat} (hρ:∀ a,σ a≠none→ρ' a = ρ a):HPart P X ρ' σ' s:=by
 refine lG ?_; intro G
 obtain kt:∀ a o,o.cls = .type "tuple"→σ a = some o→σ' a = some o:=fun a o ht e=>k a o (.inr ht) e
 refine ⟨?_,?_,?_,?_,?_,?_⟩
 ·refine lG ?_; intro G
  obtain ⟨t,I⟩:=H.inst
  exact ⟨t,I.ext (fun o e=>k _ o (.inl (by rw [R.h]; exact z113)) e) (fun o e=>k _ o (.inl (by rw [R.hd]; unfold hRole; exact z114)) e)⟩
 ·refine lG ?_; intro G
  obtain ⟨vs,kk,e,h⟩:=H.ed
  exact ⟨vs,kk,k _ _ (.inl (by rw [R.ed]; exact z115)) e,h⟩
 ·refine lG ?_; intro G
  obtain ⟨vs,kk,e,h⟩:=H.fo
  exact ⟨vs,kk,k _ _ (.inl (by rw [R.fo]; exact z116)) e,h⟩
 ·exact H.kn.keep (fun o e=>k _ o (.inl (by rw [R.kn]; exact z117)) e) kt
 ·refine lG ?_; intro G
  obtain ⟨l,D,hl,h⟩:=H.av
  refine ⟨l,D.keep fun o _ e=>k _ o (.inl (by rw [R.av]; exact z118)) e,hl,fun i hi hr=>?_⟩
  refine lG ?_; intro G
  obtain ⟨a,vs,k',h1,h2,h3,h4⟩:=h i hi hr
  exact ⟨a,vs,k',h1,by rw [hρ a (ne_none h3)]; exact h2,k _ _ (.inl (by rw [h2]; exact z119)) h3,h4⟩
 ·refine lG ?_; intro G
  obtain ⟨vs,kk,e,h⟩:=H.wt
  exact ⟨vs,kk,k _ _ (.inl (by rw [R.wt]; exact z120)) e,h⟩
theorem HInv.keep (I:HInv P X ρ σ s) (k:KpR (fun c=>c≠0) ρ σ σ'):HInv P X ρ σ' s :=
 ⟨I.R.keep (fun a h0 h1 q=>by obtain ⟨o,e⟩:=Option.ne_none_iff_exists'.mp h1; rw [k a o (.inl h0) e] at q; exact ns q),
  I.B.keep I.R (k.mono fun c h=>by unfold bRole at h; exact z121 h),I.U.keep I.R (k.mono fun c h=>by unfold uRole at h; exact z122 h) (fun _ _=>rfl),I.H.keep I.R (k.mono fun c h=>by unfold hRole at h; exact z123 h) (fun _ _=>rfl)⟩
theorem HInv.le (I:HInv P X ρ σ s) (h:Le σ σ'):HInv P X ρ σ' s:=I.keep (KpR.le h)
noncomputable def fdHSize (p:Params):{fd:FuncData // fdIn (Mine.hd.heap_1 p) 356 = some fd}:=⟨_,rfl⟩
theorem cHSize (O:P.Ok) {Q:Value→Store→Prop} (hR:Rm A 6) (I:HInv P X ρ σ s) (h:∀ t,Q (.int (s.n:Nat) t) σ):COp P A (.call (.ref 356) ⟨[.ref X.h],[]⟩) σ Q:=by
 refine oCall O (fdHSize _).2 hR rfl rfl rfl rfl rfl rfl (fun L=>?_) rfl rfl rfl
 intro env A' W m0 Q'
 obtain hR':Rm A' 5:=hR.deeper
 obtain ⟨t,Ih⟩:=I.H.inst
 refine lq ?_; intro K
 refine xLast (xReturn (xCallMeth ?_))
 refine lq ?_; intro K
 refine xAttribute (xName (xLoad rfl rfl ?_))
 refine xOp (oGetAttr O Ih rfl rfl rfl fun pl=>?_)
 refine xOp (oGetMethod O I.B.inst rfl rfl ⟨kept_fn O (fdBSize _).2,evNil ?_⟩)
 exact xOp (oOf (cBSize O (hR'.mono z103) I.B h))
noncomputable def fdHFind (p:Params):{fd:FuncData // fdIn (Mine.hd.heap_1 p) 387 = some fd}:=⟨_,rfl⟩
theorem cHFind (O:P.Ok) {a:Nat} {t:Tok} {Q:Value→Store→Prop} (hR:Rm A 6) (I:HInv P X ρ σ s) (ha:a < s.n) (h:∀ t,Q (.int (s.r a:Nat) t) σ):COp P A (.call (.ref 387) ⟨[.ref X.h,.int (a:Nat) t],[]⟩) σ Q:=by
 refine oCall O (fdHFind _).2 hR rfl rfl rfl rfl rfl rfl (fun L=>?_) rfl rfl rfl
 intro env A' W m0 Q'
 obtain hR':Rm A' 5:=hR.deeper
 obtain ⟨t',Ih⟩:=I.H.inst
 refine lq ?_; intro K
 refine xLast (xReturn (xCallMeth ?_))
 refine lq ?_; intro K
 refine xAttribute (xName (xLoad rfl rfl ?_))
 refine lq ?_; intro K
 refine xOp (oGetAttr O Ih rfl rfl rfl fun pl=>?_)
 refine lq ?_; intro K
 refine xOp (oGetMethod O I.U.find.inst rfl rfl ⟨kept_fn O (fdFind _).2,?_⟩)
 refine evCons (xName (xLoad rfl rfl (evNil ?_)))
 exact xOp (oOf (cFind O (hR'.mono z103) I.U.find ha h))
noncomputable def fdHMem (p:Params):{fd:FuncData // fdIn (Mine.hd.heap_1 p) 436 = some fd}:=⟨_,rfl⟩
theorem cHMem (O:P.Ok) {a:Nat} {t:Tok} {Q:Value→Store→Prop} (hR:Rm A 10) (I:HInv P X ρ σ s) (ha:a < s.n) (h:∀ ms l ws k,Mem s.n s.r (s.r a) ms→σ l = none→Ns ws ms→Q (.ref l) (σ.set l (lst ws k))):COp P A (.call (.ref 436) ⟨[.ref X.h,.int (a:Nat) t],[]⟩) σ Q:=by
 refine oCall O (fdHMem _).2 hR rfl rfl rfl rfl rfl rfl (fun L=>?_) rfl rfl rfl
 intro env A' W m0 Q'
 obtain hR':Rm A' 9:=hR.deeper
 obtain ⟨t',Ih⟩:=I.H.inst
 refine lq ?_; intro K
 refine xLast (xReturn (xCallMeth ?_))
 refine lq ?_; intro K
 refine xAttribute (xName (xLoad rfl rfl ?_))
 refine lq ?_; intro K
 refine xOp (oGetAttr O Ih rfl rfl rfl fun pl=>?_)
 refine lq ?_; intro K
 refine xOp (oGetMethod O I.U.find.inst rfl rfl ⟨kept_fn O (fdUMem _).2,?_⟩)
 refine evCons (xName (xLoad rfl rfl (evNil ?_)))
 exact xOp (oOf (cUMem O (hR'.mono z124) I.U (by have:=I.B.small; exact z125 this) ha h))
noncomputable def fdHNode (p:Params):{fd:FuncData // fdIn (Mine.hd.heap_1 p) 361 = some fd}:=⟨_,rfl⟩
theorem cHNode (O:P.Ok) {a:Nat} {t:Tok} {nd:Node} {Q:Value→Store→Prop} (hR:Rm A 10) (I:HInv P X ρ σ s) (ha:s.nodes[a]? = some nd) (h:∀ T σ',Le σ σ'→NodeAt σ' (.ref T) (sig s.r nd)→Q (.ref T) σ'):COp P A (.call (.ref 361) ⟨[.ref X.h,.int (a:Nat) t],[]⟩) σ Q:=by
 refine oCall O (fdHNode _).2 hR rfl rfl rfl rfl rfl rfl (fun L=>?_) rfl rfl rfl
 intro env A' W m0 Q'
 obtain hR':Rm A' 9:=hR.deeper
 obtain hh:=hR'.handled
 obtain ⟨t',Ih⟩:=I.H.inst
 obtain hkid:∀ k ∈ nd.2,k < s.n:=fun k hk=>Nat.lt_trans (I.B.wf a nd ha k hk) (List.getElem?_eq_some_iff.mp ha).1
 obtain h10:=I.B.ar nd (List.mem_of_getElem? ha)
 refine xLast (lq ?_); intro K
 refine xReturn (xBinOp (xTuple ?_))
 refine lqE ?_; intro K
 refine evCons (lq ?_); intro K
 refine xCallMeth ?_
 refine lq ?_; intro K
 refine xAttribute (lq ?_); intro K
 refine xName (xLoadCell rfl rfl rfl ?_)
 refine xOp (lo ?_); intro K
 refine oGetAttr O Ih rfl rfl rfl fun pl=>?_
 refine xOp (oGetMethod O I.B.inst rfl rfl ⟨kept_fn O (fdBOp _).2,?_⟩)
 refine evCons (xName (xLoad rfl rfl (evNil ?_)))
 refine xOp (oOf (cBOp O (hR'.mono z126) I.B ha fun to=>?_))
 refine evNil fun t1 ht1=>?_
 obtain le1:Le σ (σ.set t1 (tup [.str nd.1 to] 0)):=Le.new ht1
 obtain et1:(σ.set t1 (tup [.str nd.1 to] 0)) t1 = some (tup [.str nd.1 to] 0):=Store.set_same ..
 generalize (σ.set t1 (tup [.str nd.1 to] 0)) = σ₁ at *
 revert σ₁; refine keep ?_; intro σ₁; set_option tactic.hygienic false in intros
 refine lG ?_; intro G
 obtain I1:=I.le le1
 refine lq ?_; intro K
 refine xCallT O boot_tuple rfl rfl (evCons ?_)
 refine lq ?_; intro K
 refine xListCompG ⟨rfl,rfl,rfl,rfl,rfl⟩ ?_
 refine lq ?_; intro K
 refine xCallMeth (lq ?_); intro K
 refine xAttribute (xName (xLoadCell rfl rfl rfl ?_))
 refine lG ?_; intro G
 obtain ⟨t'',Ih1⟩:=I1.H.inst
 refine lq ?_; intro K
 refine xOp (lo ?_); intro K
 refine oGetAttr O Ih1 rfl rfl rfl fun pl=>?_
 refine lq ?_; intro K
 refine xOp (oGetMethod O I1.B.inst rfl rfl ⟨kept_fn O (fdBKids _).2,?_⟩)
 refine lqE ?_; intro K
 refine evCons (xName (xLoad rfl rfl (evNil ?_)))
 refine lq ?_; intro K
 refine xOp (oOf (cBKids O (hR'.mono z126) I1.B ha fun l vs σ₂ le2 hl hN el=>?_))
 have I2:=I1.le le2
 refine compGo_map nd.2 _ _ (fun _=>true) (fun y v _=>∃ t,v = .int (s.r y:Nat) t) (srx_tuple (k:=0) hh (Ns.all2.mp hN)) (fun p hp=>by rw [List.mem_singleton] at hp; subst hp; exact el) (z102 h10) (fun _ _ _ _ h _=>h) (fun _=>rfl) rfl rfl ?_ ?_
 ·rintro C y v σ' m'' hy ⟨u,rfl⟩ hle hm' hmx
  refine ⟨⟨rfl,rfl,rfl⟩,fun _=>?_⟩
  have I3:=I2.le hle
  refine lG ?_; intro G
  obtain ⟨_,Ih3⟩:=I3.H.inst
  refine lq ?_; intro K
  refine xCallMeth (xName (xLoadCell rfl rfl (hm' _ (by decide)) fun pl=>?_))
  refine xOp (oGetMethod O Ih3 rfl rfl ⟨kept_fn O (fdHFind _).2,?_⟩)
  refine evCons (xName (xLoad rfl hmx (evNil ?_)))
  exact xOp (oOf (cHFind O (hR'.mono z106) I3 (hkid y hy) fun t=>⟨Le.refl _,rfl,t,rfl⟩))
 intro D ws k σ₃ le3 hD eD h2
 have hNs:Ns ws (nd.2.map s.r):=by
  rw [Ns.all2,All2.map_left]
  rwa [show (nd.2.filter fun _=>true) = nd.2 from by simp] at h2
 refine evNil (xOp (oTupleOf eD (by rw [hNs.length,List.length_map]; exact z102 h10) fun T hT=>?_))
 refine xOp (oAddTuple (Store.set_new hT (le3 _ _ (le2 _ _ et1))) (Store.set_same ..) (by rw [List.length_nil,hNs.length,List.length_map]; exact z104 h10) fun T2 σ₄ le4 ⟨k4,e4⟩=>?_)
 exact h T2 σ₄ (((le1.trans (Le.trans le2 le3)).trans (Le.new hT)).trans le4) ⟨T2,k4,to,ws,rfl,e4,hNs⟩
end
end Mine
end
section
set_option maxRecDepth 10000
namespace Mine
structure Ext (ρ:Addr→Nat) (σ:Store) (ρ':Addr→Nat) (σ':Store):Prop where
 rol:∀ a,σ a≠none→ρ' a = ρ a
 kp:KpR (fun c=>c = 0) ρ σ σ'
 al:∀ a,σ a≠none→σ' a≠none
theorem Ext.refl (ρ:Addr→Nat) (σ:Store):Ext ρ σ ρ σ:=⟨fun _ _=>rfl,fun _ _ _ e=>e,fun _ h=>h⟩
theorem Ext.trans {ρ ρ₁ ρ₂:Addr→Nat} {σ σ₁ σ₂:Store} (h:Ext ρ σ ρ₁ σ₁) (h':Ext ρ₁ σ₁ ρ₂ σ₂):Ext ρ σ ρ₂ σ₂ :=
 ⟨fun a ha=>(h'.rol a (h.al a ha)).trans (h.rol a ha),fun a o c e=>h'.kp _ o (c.imp (fun c=>(h.rol a (ne_none e)).trans c) id) (h.kp a o c e),fun a ha=>h'.al a (h.al a ha)⟩
theorem Ext.le {ρ:Addr→Nat} {σ σ':Store} (h:Le σ σ'):Ext ρ σ ρ σ':=⟨fun _ _=>rfl,KpR.le h,fun a ha q=>ha (none_less h q)⟩
theorem lookup_ddel (l:NKV) (k i:Nat):(ddel l k).lookup i = if i = k then none else l.lookup i:=by
 unfold ddel
 induction l with
 | nil=>simp
 | cons p l ih =>
  obtain ⟨a,v⟩:=p
  rw [List.filter_cons,List.lookup_cons]
  by_cases h:a = k
  ·subst h
   simp only [ne_eq,not_true_eq_false,decide_false,Bool.false_eq_true,if_false]
   rw [ih]
   by_cases h2:i = a
   ·simp [h2]
   ·simp [h2,beq_eq_false_iff_ne.mpr h2]
  ·simp only [ne_eq,h,not_false_eq_true,decide_true,if_true]
   rw [List.lookup_cons,ih]
   by_cases h2:i = a
   ·subst h2; simp [h]
   ·simp [beq_eq_false_iff_ne.mpr h2]
theorem lookup_map_put (l:NKV) (k i:Nat) (v:Value):(l.map (fun p=>if p.1 = k then (p.1,v) else p)).lookup i = if i = k then (l.lookup k).map (fun _=>v) else l.lookup i:=by
 induction l with
 | nil=>simp
 | cons p l ih =>
  obtain ⟨a,w⟩:=p
  rw [List.map_cons]
  by_cases h:a = k
  ·subst h
   rw [if_pos rfl,List.lookup_cons,ih,List.lookup_cons,List.lookup_cons]
   by_cases h2:i = a
   ·subst h2; simp
   ·simp [beq_eq_false_iff_ne.mpr h2,h2]
  ·rw [if_neg h,List.lookup_cons,ih,List.lookup_cons,List.lookup_cons]
   by_cases h2:i = a
   ·subst h2; simp [h]
   ·by_cases h3:i = k
    ·subst h3; simp [beq_eq_false_iff_ne.mpr h2]
    ·simp [beq_eq_false_iff_ne.mpr h2,h3]
theorem lookup_snoc (l:NKV) (k i:Nat) (v:Value) (h:l.lookup k = none):(l ++ [(k,v)]).lookup i = if i = k then some v else l.lookup i:=by
 induction l with
 | nil=>by_cases h2:i = k <;> simp [List.lookup_cons,h2,beq_eq_false_iff_ne.mpr]
 | cons p l ih =>
  obtain ⟨a,w⟩:=p
  rw [List.lookup_cons] at h
  by_cases h1:k = a
  ·rw [h1,beq_self_eq_true] at h; exact ns h
  ·rw [beq_eq_false_iff_ne.mpr h1] at h
   rw [List.cons_append,List.lookup_cons,List.lookup_cons,ih h]
   by_cases h2:i = a
   ·subst h2; simp [Ne.symm h1]
   ·simp [beq_eq_false_iff_ne.mpr h2]
theorem lookup_dput (l:NKV) (k i:Nat) (v:Value):(dput l k v).lookup i = if i = k then some v else l.lookup i:=by
 unfold dput
 split
 ·rename_i h
  obtain ⟨w,hw⟩:=Option.isSome_iff_exists.mp h
  rw [lookup_map_put,hw]; rfl
 ·rename_i h
  exact lookup_snoc l k i v (by cases q:l.lookup k with | none=>rfl | some w=>rw [q] at h; exact absurd rfl h)
theorem length_ddel (l:NKV) (k:Nat):(ddel l k).length≤l.length:=List.length_filter_le _ _
theorem length_ddel_lt {l:NKV} {k:Nat} (h:(l.lookup k).isSome = true):(ddel l k).length + 1≤l.length:=by
 induction l with
 | nil=>cases h
 | cons p l ih =>
  obtain ⟨a,v⟩:=p
  unfold ddel at *
  rw [List.filter_cons]
  by_cases q:a = k
  ·simp only [q,ne_eq,not_true_eq_false,decide_false,Bool.false_eq_true,if_false,List.length_cons]
   have:=List.length_filter_le (fun p:Nat × Value=>decide (p.1≠k)) l
   simp only [ne_eq] at this
   exact z127 this
  ·rw [List.lookup_cons,beq_eq_false_iff_ne.mpr (Ne.symm q)] at h
   simp only [ne_eq,q,not_false_eq_true,decide_true,if_true,List.length_cons]
   have:=ih h
   simp only [ne_eq] at this
   exact z128 this
theorem length_dput (l:NKV) (k:Nat) (v:Value):(dput l k v).length≤l.length + 1:=by
 unfold dput
 split
 ·rw [List.length_map]; exact z129
 ·rw [List.length_append]; simp
def jn (s:St) (kept gone:Nat):St:={ s with r:=mrg s.r kept gone,waiting:=s.waiting ++ s.abv gone,abv:=fun i=>if i = kept then s.abv kept ++ s.abv gone else s.abv i,ne:=s.ne + 1 }
section
variable {P:Par} {A:Around} {env:Env} {W:List Addr} {α β:Type} {σ σ':Store} {m:Vars} {X:HA} {ρ:Addr→Nat} {s:St}
theorem kpr_set {c:Nat} {a:Addr} {vs:List Value} {k:Nat} {o:Obj} (e:σ a = some (lst vs k)) (hr:ρ a = c):KpR (fun d=>d≠c) ρ σ (σ.set a o):=fun b o' h eb=>by
 rw [Store.set_ne]
 ·exact eb
 ·rintro rfl
  rcases h with h | h
  ·exact h hr
  ·rw [e] at eb; cases eb; exact lst_tup h
theorem kpr_setD {c:Nat} {a:Addr} {o₀ o:Obj} (e:σ a = some o₀) (hd:o₀.cls = .type "dict") (hr:ρ a = c):KpR (fun d=>d≠c) ρ σ (σ.set a o):=fun b o' h eb=>by
 rw [Store.set_ne]
 ·exact eb
 ·rintro rfl
  rcases h with h | h
  ·exact h hr
  ·rw [e] at eb; cases eb; exact dn_tup hd h
theorem alive_set {a:Addr} {o:Obj}:∀ b,σ b≠none→(σ.set a o) b≠none:=fun b hb=>by
 unfold Store.set
 split
 ·intro q; cases q
 ·exact hb
theorem Roles.al (R:Roles X ρ σ) (h:∀ b,σ b≠none→σ' b≠none):Roles X ρ σ':=R.keep fun a _ h0=>h a h0
theorem HPart.instK (H:HPart P X ρ σ s) (R:Roles X ρ σ) (k:KpR (fun c=>c = 1∨c = 2) ρ σ σ'):∃ t,IsI σ' X.h X.hd 463 (hInst X t) :=
 let ⟨t,I⟩:=H.inst; ⟨t,I.ext (fun o e=>k _ o (.inl (.inl R.h)) e) (fun o e=>k _ o (.inl (.inr R.hd)) e)⟩
theorem HPart.edK (H:HPart P X ρ σ s) (R:Roles X ρ σ) (k:KpR (fun c=>c = 14) ρ σ σ'):(X2 fun vs k=>σ' X.ed = some (lst vs k)∧vs.length≤s.ne):=let ⟨vs,kk,e,h⟩:=H.ed; ⟨vs,kk,k _ _ (.inl R.ed) e,h⟩
theorem HPart.foK (H:HPart P X ρ σ s) (R:Roles X ρ σ) (k:KpR (fun c=>c = 15) ρ σ σ'):(X2 fun vs k=>σ' X.fo = some (lst vs k)∧vs.length + cls s.n s.r≤s.n):=let ⟨vs,kk,e,h⟩:=H.fo; ⟨vs,kk,k _ _ (.inl R.fo) e,h⟩
theorem HPart.knK (H:HPart P X ρ σ s) (R:Roles X ρ σ) (k:KpR (fun c=>c = 16) ρ σ σ'):DT P σ' X.kn s.known:=H.kn.keep (fun o e=>k _ o (.inl R.kn) e) fun a o ht e=>k a o (.inr ht) e
theorem HPart.avK (H:HPart P X ρ σ s) (R:Roles X ρ σ) (k:KpR (fun c=>c = 17∨(100≤c∧c % 2 = 1)) ρ σ σ') {ρ':Addr→Nat} (hρ:∀ a,σ a≠none→ρ' a = ρ a) :
  (∃ l,N3 (DN P σ' X.av l) (l.length≤s.n) (∀ i,i < s.n→s.r i = i→(X3 fun a vs k=>N4 (l.lookup i = some (.ref a)) (ρ' a = 101 + 2 * i) (σ' a = some (lst vs k)) (Ns vs (s.abv i))))):=by
 obtain ⟨l,D,hl,h⟩:=H.av
 refine ⟨l,D.keep fun o _ e=>k _ o (.inl (.inl R.av)) e,hl,fun i hi hr=>?_⟩
 obtain ⟨a,vs,k',h1,h2,h3,h4⟩:=h i hi hr
 exact ⟨a,vs,k',h1,by rw [hρ a (ne_none h3)]; exact h2,k _ _ (.inl (by rw [h2]; exact z130)) h3,h4⟩
theorem HPart.wtK (H:HPart P X ρ σ s) (R:Roles X ρ σ) (k:KpR (fun c=>c = 18) ρ σ σ'):(X2 fun vs k=>σ' X.wt = some (lst vs k)∧Ns vs s.waiting):=let ⟨vs,kk,e,h⟩:=H.wt; ⟨vs,kk,k _ _ (.inl R.wt) e,h⟩
theorem DN.ty {d:Addr} {l:NKV} (D:DN P σ d l):Ty P σ (.ref d) "dict":=let ⟨_,e,_,_,x,_⟩:=D; Ty.ref e x.1
theorem oIsNone {v:Value} {b:Bool} {Q:Value→Store→Prop} (hb:isSame v .none = pure b) (h:Q (.bool b) σ):Op P A (compareOp .Is v .none) σ Q:=oStill (fun s R E _ r=>by
 show wpAny P.M A (isSame v .none >>= fun b=>pure (.bool b)) R E s
 rw [hb]; exact wpAny_bind (wpAny_pure (wpAny_pure r))) h
noncomputable def fdJoin (p:Params):{fd:FuncData // fdIn (Mine.hd.heap_1 p) 408 = some fd}:=⟨_,rfl⟩
theorem cJoin (O:P.Ok) {a b:Nat} {t u:Tok} {rv:Value} {Q:Value→Store→Prop} (hR:Rm A 12) (I:HInv P X ρ σ s) (ha:a < s.n) (hb:b < s.n) (hne:s.ne≤1000) (hw:s.waiting.length + (s.abv (max (s.r a) (s.r b))).length≤100000) (hw2:(s.abv (min (s.r a) (s.r b))).length + (s.abv (max (s.r a) (s.r b))).length≤100000)
  (h0:s.r a = s.r b→∀ σ' ρ',Ext ρ σ ρ' σ'→HInv P X ρ' σ' { s with ne:=s.ne + 1 }→Q (.bool false) σ')
  (h1:∀ kept gone,kept = min (s.r a) (s.r b)→gone = max (s.r a) (s.r b)→kept < gone→gone < s.n→s.r kept = kept→s.r gone = gone→∀ σ' ρ',Ext ρ σ ρ' σ'→HInv P X ρ' σ' (jn s kept gone)→Q (.bool true) σ') :
  COp P A (.call (.ref 408) ⟨[.ref X.h,.int (a:Nat) t,.int (b:Nat) u,rv],[]⟩) σ Q:=by
 refine oCall O (fdJoin _).2 hR rfl rfl rfl rfl rfl rfl (fun L=>?_) rfl rfl rfl
 intro env A' W m0 Q'
 obtain hR':Rm A' 11:=hR.deeper
 obtain hh:=hR'.handled
 refine lG ?_; intro G
 obtain ⟨t',Ih⟩:=I.H.inst
 refine lG ?_; intro G
 obtain ⟨ev,ek,ee,hel⟩:=I.H.ed
 refine lq ?_; intro K
 refine xCons (lq ?_); intro K
 refine xExpr (xCallMeth ?_)
 refine lq ?_; intro K
 refine xAttribute (xName (xLoad rfl rfl ?_))
 refine lq ?_; intro K
 refine xOp (oGetAttr O Ih rfl rfl rfl fun pl=>?_)
 refine lq ?_; intro K
 refine xOp (oMethAppend ee ⟨kept_builtin _,?_⟩)
 refine lqE ?_; intro K
 refine (xTuple ?_)
 refine lqE ?_; intro K
 refine (xName (xLoad rfl rfl ?_))
 refine (xName (xLoad rfl rfl ?_))
 refine (xName (xLoad rfl rfl ?_))
 refine fun tp htp=>?_
 obtain htne:tp≠X.ed:=fun q=>by rw [q,ee] at htp; cases htp
 refine (xOp (oAppend (Store.set_new htp ee) (z131 hne hel) fun n1=>?_))
 obtain le0:Le σ (σ.set tp (tup [.int (a:Nat) t,.int (b:Nat) u,rv] 0)):=Le.new htp
 obtain I0:=I.le le0
 obtain ee0:=le0 _ _ ee
 generalize (σ.set tp (tup [.int (a:Nat) t,.int (b:Nat) u,rv] 0)) = σ₀ at *
 revert σ₀; refine keep ?_; intro σ₀; set_option tactic.hygienic false in intros
 obtain kE:KpR (fun d=>d≠14) ρ σ₀ (σ₀.set X.ed (lst (ev ++ [.ref tp]) n1)):=kpr_set ee0 I.R.ed
 obtain alE:=alive_set (σ:=σ₀) (a:=X.ed) (o:=lst (ev ++ [.ref tp]) n1)
 have eE:(σ₀.set X.ed (lst (ev ++ [.ref tp]) n1)) X.ed = some (lst (ev ++ [.ref tp]) n1):=Store.set_same ..
 generalize (σ₀.set X.ed (lst (ev ++ [.ref tp]) n1)) = σ₁ at *
 revert σ₁; refine keep ?_; intro σ₁; set_option tactic.hygienic false in intros
 have I1:HInv P X ρ σ₁ { s with ne:=s.ne + 1 }:=by
  refine ⟨I0.R.al alE,I0.B.keep I0.R (kE.mono fun c h=>by unfold bRole at h; exact z132 h),I0.U.keep I0.R (kE.mono fun c h=>by unfold uRole at h; exact z133 h) (fun _ _=>rfl),⟨I0.H.instK I0.R (kE.mono fun c h=>(z134 h)),⟨_,_,eE,?_⟩,?_,I0.H.knK I0.R (kE.mono fun c h=>(z135 h)),I0.H.avK I0.R (kE.mono fun c h=>(z136 h)) (fun _ _=>rfl),I0.H.wtK I0.R (kE.mono fun c h=>(z137 h))⟩⟩
  ·rw [List.length_append,List.length_singleton]; show ev.length + 1≤s.ne + 1; exact z127 hel
  ·refine lG ?_; intro G
   obtain ⟨fv,fk,ef,hf⟩:=I0.H.foK I0.R (kE.mono fun c h=>(z138 h))
   exact ⟨fv,fk,ef,hf⟩
 have X1:Ext ρ σ ρ σ₁:=(Ext.le le0).trans ⟨fun _ _=>rfl,kE.mono fun c h=>(z139 h),alE⟩
 clear kE alE le0 I0 ee0
 refine lG ?_; intro G
 obtain ⟨t1,Ih1⟩:=I1.H.inst
 refine lq ?_; intro K
 refine xCons (lq ?_); intro K
 refine xAssignName (xCallMeth ?_)
 refine lq ?_; intro K
 refine xAttribute (xName (xLoad rfl rfl ?_))
 refine lq ?_; intro K
 refine xOp (oGetAttr O Ih1 rfl rfl rfl fun pl=>?_)
 refine lq ?_; intro K
 refine xOp (oGetMethod O I1.U.find.inst rfl rfl ⟨kept_fn O (fdUMerge _).2,?_⟩)
 refine lqE ?_; intro K
 refine (xName (xLoad rfl rfl ?_))
 refine (xName (xLoad rfl rfl (evNil ?_)))
 refine xOp (oOf (cUMerge O (hR'.mono z140) I1.R I1.U ha hb (fun heq=>?_) fun kept gone T σ₂ hk hg hlt rk rg hgn hT hal kp U2=>?_))
 ·refine xStore rfl rfl (List.mem_cons_self ..) ?_
  refine xCons (lq ?_); intro K
  refine xIf (xTrueCompare (xName (xLoad rfl rfl (xNone ?_))))
  refine xOp (oIsNone rfl (xTruthyBool ⟨fun _=>?_,fun hf=>by cases hf⟩))
  refine xLast (lq ?_); intro K
  refine xReturn (xBool ?_)
  exact h0 heq σ₁ ρ X1 I1
 have hk':kept = min (s.r a) (s.r b):=hk
 have hg':gone = max (s.r a) (s.r b):=hg
 have rk':s.r kept = kept:=rk
 have rg':s.r gone = gone:=rg
 have hgn':gone < s.n:=hgn
 have R2:Roles X ρ σ₂:=I1.R.al hal
 obtain B2:BInv P X σ₂ s.nodes:=I1.B.keep I1.R (kp.mono fun c h=>by unfold bRole at h; exact z141 h)
 obtain X2:Ext ρ σ ρ σ₂:=X1.trans ⟨fun _ _=>rfl,kp.mono fun c h=>(z142 h),hal⟩
 have H2:HPart P X ρ σ₂ { s with ne:=s.ne + 1 }:=I1.H.keep I1.R (kp.mono fun c h=>by unfold hRole at h; exact z143 h) fun _ _=>rfl
 refine lG ?_; intro G
 obtain ⟨tk,tg,kT,eT⟩:=hT
 refine xStore rfl rfl (List.mem_cons_self ..) ?_
 refine xCons (lq ?_); intro K
 refine xIf (xTrueCompare (xName (xLoad rfl rfl (xNone ?_))))
 refine xOp (oIsNone rfl (xTruthyBool ⟨fun hf=>(by cases hf),fun _=>xNil ?_⟩))
 refine xCons (lq ?_); intro K
 refine xAssignTuple2 hh (xName (xLoad rfl rfl ⟨T,_,_,kT,rfl,.inr eT,?_⟩))
 refine xStore rfl rfl (List.mem_cons_self ..) ?_
 refine xStore rfl rfl (List.mem_cons_self ..) ?_
 refine lG ?_; intro G
 obtain ⟨t2,Ih2⟩:=H2.inst
 refine lG ?_; intro G
 obtain ⟨fv,fk,ef,hfl⟩:=H2.fo
 refine lG ?_; intro G
 obtain ⟨ev2,ek2,ee2,hel2⟩:=H2.ed
 have hfl':fv.length + cls s.n s.r≤s.n:=hfl
 obtain hn50:s.n≤50:=I.B.small
 obtain hel2':ev2.length≤s.ne + 1:=hel2
 refine xCons (lq ?_); intro K
 refine xExpr (xCallMeth ?_)
 refine xAttribute (xName (xLoad rfl rfl ?_))
 refine lq ?_; intro K
 refine xOp (oGetAttr O Ih2 rfl rfl rfl fun pl=>?_)
 refine lq ?_; intro K
 refine xOp (oMethAppend ef ⟨kept_builtin _,?_⟩)
 refine lqE ?_; intro K
 refine (xBinOp ?_)
 refine lq ?_; intro K
 refine xCallB O boot_len rfl rfl (xAttribute (xName (xLoad rfl rfl ?_)))
 refine lq ?_; intro K
 refine xOp (oGetAttr O Ih2 rfl rfl rfl ?_)
 refine lqE ?_; intro K
 refine (xOp (oLen ee2 (z144 hne hel2) fun t3=>?_))
 refine lq ?_; intro K
 refine xInt fun t4=>xOp (oSub fun t5=>evNil ?_)
 refine lq ?_; intro K
 refine xOp (oAppend ef (z145 hfl' hn50) fun n3=>?_)
 obtain kF:KpR (fun d=>d≠15) ρ σ₂ (σ₂.set X.fo (lst (fv ++ [.int ((ev2.length:Nat) - 1:Int) t5]) n3)):=kpr_set ef R2.fo
 obtain alF:=alive_set (σ:=σ₂) (a:=X.fo) (o:=lst (fv ++ [.int ((ev2.length:Nat) - 1:Int) t5]) n3)
 obtain eF:(σ₂.set X.fo (lst (fv ++ [.int ((ev2.length:Nat) - 1:Int) t5]) n3)) X.fo = some (lst (fv ++ [.int ((ev2.length:Nat) - 1:Int) t5]) n3):=Store.set_same ..
 generalize (σ₂.set X.fo (lst (fv ++ [.int ((ev2.length:Nat) - 1:Int) t5]) n3)) = σ₃ at *
 revert σ₃; refine keep ?_; intro σ₃; set_option tactic.hygienic false in intros
 obtain R3:Roles X ρ σ₃:=R2.al alF
 refine lG ?_; intro G
 obtain ⟨t6,Ih3⟩:=H2.instK R2 (kF.mono fun c h=>(z146 h))
 refine lG ?_; intro G
 obtain ⟨wv,wk,ew,hwN⟩:=H2.wtK R2 (kF.mono fun c h=>(z147 h))
 obtain ⟨al,Dl,hal3,hav⟩:=H2.avK R2 (kF.mono fun c h=>(z148 h)) (fun _ _=>rfl)
 have rk2:mrg s.r kept gone kept = kept:=by unfold mrg; rw [rk',if_neg (z40 hlt)]
 obtain ⟨ag,gv,gk,hg1,hg2,hg3,hg4⟩:(X3 fun a vs k=>N4 (al.lookup gone = some (.ref a)) (ρ a = 101 + 2 * gone) (σ₃ a = some (lst vs k)) (Ns vs (s.abv gone))):=hav gone hgn' rg'
 obtain ⟨ak,kv,kk,hk1,hk2,hk3,hk4⟩:(X3 fun a vs k=>N4 (al.lookup kept = some (.ref a)) (ρ a = 101 + 2 * kept) (σ₃ a = some (lst vs k)) (Ns vs (s.abv kept))):=hav kept (z149 hk hg hgn) rk'
 rw [← hg'] at hw hw2; rw [← hk'] at hw2
 refine lq ?_; intro K
 refine xCons (lq ?_); intro K
 refine xExpr (xCallMeth ?_)
 refine lq ?_; intro K
 refine xAttribute (xName (xLoad rfl rfl ?_))
 refine lq ?_; intro K
 refine xOp (oGetAttr O Ih3 rfl rfl rfl fun pl=>?_)
 refine lq ?_; intro K
 refine xOp (oMethExtend ew ⟨kept_builtin _,?_⟩)
 refine lqE ?_; intro K
 refine (xSubscript (T:="dict") slot_dict_getitem.lookup (xAttribute (xName (xLoad rfl rfl ?_))))
 refine lq ?_; intro K
 refine xOp (oGetAttr O Ih3 rfl rfl rfl ?_)
 refine lq ?_; intro K
 refine xName (xLoad rfl rfl ⟨Dl.ty,xOp (oDGet Dl hg1 ?_)⟩)
 refine lq ?_; intro K
 refine xOp (oExtend ew hg3 (by have h1:=hwN.length; have h2:=hg4.length; have h1':wv.length = s.waiting.length:=h1; exact z150 hw h2 h1') fun n4=>?_)
 have kW:KpR (fun d=>d≠18) ρ σ₃ (σ₃.set X.wt (lst (wv ++ gv) n4)):=kpr_set ew R3.wt
 obtain alW:=alive_set (σ:=σ₃) (a:=X.wt) (o:=lst (wv ++ gv) n4)
 obtain eW:(σ₃.set X.wt (lst (wv ++ gv) n4)) X.wt = some (lst (wv ++ gv) n4):=Store.set_same ..
 generalize (σ₃.set X.wt (lst (wv ++ gv) n4)) = σ₄ at *
 revert σ₄; refine keep ?_; intro σ₄; set_option tactic.hygienic false in intros
 have R4:Roles X ρ σ₄:=R3.al alW
 have k24:KpR (fun d=>d≠15∧d≠18) ρ σ₂ σ₄:=(kF.mono fun c h=>h.1).trans (kW.mono fun c h=>h.2)
 obtain ⟨t7,Ih4⟩:=H2.instK R2 (k24.mono fun c h=>(z151 h))
 have Dl4:DN P σ₄ X.av al:=Dl.keep fun o _ e=>kW _ o (.inl (by rw [R3.av]; exact z152)) e
 obtain hk34:σ₄ ak = some (lst kv kk):=kW _ _ (.inl (by rw [hk2]; exact z153)) hk3
 obtain hg34:σ₄ ag = some (lst gv gk):=kW _ _ (.inl (by rw [hg2]; exact z153)) hg3
 obtain hall:al.length≤50:=Nat.le_trans hal3 I.B.small
 refine lq ?_; intro K
 refine xCons (lq ?_); intro K
 refine xAssignSub (xBinOp ?_)
 refine lq ?_; intro K
 refine xSubscript (T:="dict") slot_dict_getitem.lookup (xAttribute (xName (xLoad rfl rfl ?_)))
 refine lq ?_; intro K
 refine xOp (oGetAttr O Ih4 rfl rfl rfl ?_)
 refine lq ?_; intro K
 refine xName (xLoad rfl rfl ⟨Dl4.ty,xOp (oDGet Dl4 hk1 ?_)⟩)
 refine lq ?_; intro K
 refine xCallMeth (xAttribute (xName (xLoad rfl rfl ?_)))
 refine lq ?_; intro K
 refine xOp (oGetAttr O Ih4 rfl rfl rfl fun pl=>?_)
 refine lq ?_; intro K
 refine xOp (oMethDPop Dl4 ⟨kept_builtin _,(xName (xLoad rfl rfl (evNil ?_)))⟩)
 refine lq ?_; intro K
 refine xOp (oDPop Dl4 (z99 hall) hg1 fun o5 D5=>?_)
 obtain ⟨oav,eav,hav4⟩:=Dl4
 obtain hdav:oav.cls = .type "dict":=by obtain ⟨_,_,z,_⟩:=hav4; exact z.1
 obtain kA:KpR (fun d=>d≠17) ρ σ₄ (σ₄.set X.av o5):=kpr_setD eav hdav R4.av
 obtain alA:=alive_set (σ:=σ₄) (a:=X.av) (o:=o5)
 generalize (σ₄.set X.av o5) = σ₅ at *
 revert σ₅; refine keep ?_; intro σ₅; set_option tactic.hygienic false in intros
 obtain R5:Roles X ρ σ₅:=R4.al alA
 obtain hk5:σ₅ ak = some (lst kv kk):=kA _ _ (.inl (by rw [hk2]; exact z154)) hk34
 obtain hg5:σ₅ ag = some (lst gv gk):=kA _ _ (.inl (by rw [hg2]; exact z154)) hg34
 refine lq ?_; intro K
 refine xOp (oAddList hk5 hg5 (by have h1:=hk4.length; have h2:=hg4.length; exact z155 hw2 h1 h2) fun na hna=>?_)
 obtain le5:Le σ₅ (σ₅.set na (lst (kv ++ gv) 0)):=Le.new hna
 obtain ena:(σ₅.set na (lst (kv ++ gv) 0)) na = some (lst (kv ++ gv) 0):=Store.set_same ..
 generalize (σ₅.set na (lst (kv ++ gv) 0)) = σ₆ at *
 revert σ₆; refine keep ?_; intro σ₆; set_option tactic.hygienic false in intros
 obtain D6:DN P σ₆ X.av (ddel al gone):=D5.keep fun o _ e=>le5 _ _ e
 have k26:KpR (fun d=>d≠15∧d≠18∧d≠17) ρ σ₂ σ₆:=((k24.mono fun c h=>⟨h.1,h.2.1⟩).trans (kA.mono fun c h=>h.2.2)).trans (KpR.le le5)
 obtain ⟨t8,Ih6⟩:=H2.instK R2 (k26.mono fun c h=>(z156 h))
 refine lq ?_; intro K
 refine xAttribute (xName (xLoad rfl rfl ?_))
 refine lq ?_; intro K
 refine xOp (oGetAttr O Ih6 rfl rfl rfl ?_)
 refine lq ?_; intro K
 refine xName (xLoad rfl rfl ?_)
 have hdl:=length_ddel al gone
 refine lq ?_; intro K
 refine xOp (oDSet D6 (z157 hall hdl) fun o7 D7=>?_)
 obtain ⟨oav6,eav6,hav6⟩:=D6
 have hdav6:oav6.cls = .type "dict":=by obtain ⟨_,_,z,_⟩:=hav6; exact z.1
 have kA2:KpR (fun d=>d≠17) ρ σ₆ (σ₆.set X.av o7):=kpr_setD eav6 hdav6 R5.av
 have alA2:=alive_set (σ:=σ₆) (a:=X.av) (o:=o7)
 have nane:na≠X.av:=fun q=>by
  subst q
  exact lst_dict ena eav6 hdav6
 have ena7:(σ₆.set X.av o7) na = some (lst (kv ++ gv) 0):=(Store.set_ne nane).trans ena
 generalize (σ₆.set X.av o7) = σ₇ at *
 revert σ₇; refine keep ?_; intro σ₇; set_option tactic.hygienic false in intros
 refine lq ?_; intro K
 refine xLast (lq ?_); intro K
 refine xReturn (xBool ?_)
 have k27:KpR (fun d=>d≠15∧d≠18∧d≠17) ρ σ₂ σ₇:=k26.trans (kA2.mono fun c h=>h.2.2)
 have al27:∀ x,σ₂ x≠none→σ₇ x≠none:=fun x hx=>alA2 x fun q=>alA x (alW x (alF x hx)) (none_less le5 q)
 have hna2:σ₂ na = none:=Classical.byContradiction fun q=>alA na (alW na (alF na q)) hna
 have hρ:∀ x,σ₂ x≠none→(fun x=>if x = na then 101 + 2 * kept else ρ x) x = ρ x:=fun x hx=>by
  show (if x = na then _ else _) = _
  exact if_neg (fun (q:x = na)=>hx (q ▸ hna2))
 have X7:Ext ρ σ₂ (fun x=>if x = na then 101 + 2 * kept else ρ x) σ₇:=⟨hρ,k27.mono fun c h=>(z158 h),al27⟩
 refine h1 kept gone hk' hg' hlt hgn' rk' rg' σ₇ _ (X2.trans X7) ?_
 have Rn:Roles X (fun x=>if x = na then 101 + 2 * kept else ρ x) σ₇:=by
  have hf:∀ x,ρ x≠0→(if x = na then 101 + 2 * kept else ρ x) = ρ x:=fun x hx=>if_neg (fun (q:x = na)=>hx (q ▸ R2.free na hna2))
  refine ⟨?_,?_,?_,?_,?_,?_,?_,?_,?_,?_,?_,?_,?_,?_,?_,?_,?_,?_,fun x hx=>?_⟩
  ·exact (hf _ (by rw [R2.h]; decide)).trans R2.h
  ·exact (hf _ (by rw [R2.hd]; decide)).trans R2.hd
  ·exact (hf _ (by rw [R2.b]; decide)).trans R2.b
  ·exact (hf _ (by rw [R2.bd]; decide)).trans R2.bd
  ·exact (hf _ (by rw [R2.u]; decide)).trans R2.u
  ·exact (hf _ (by rw [R2.ud]; decide)).trans R2.ud
  ·exact (hf _ (by rw [R2.nl]; decide)).trans R2.nl
  ·exact (hf _ (by rw [R2.wl]; decide)).trans R2.wl
  ·exact (hf _ (by rw [R2.dl]; decide)).trans R2.dl
  ·exact (hf _ (by rw [R2.nu]; decide)).trans R2.nu
  ·exact (hf _ (by rw [R2.ab]; decide)).trans R2.ab
  ·exact (hf _ (by rw [R2.lo]; decide)).trans R2.lo
  ·exact (hf _ (by rw [R2.me]; decide)).trans R2.me
  ·exact (hf _ (by rw [R2.ed]; decide)).trans R2.ed
  ·exact (hf _ (by rw [R2.fo]; decide)).trans R2.fo
  ·exact (hf _ (by rw [R2.kn]; decide)).trans R2.kn
  ·exact (hf _ (by rw [R2.av]; decide)).trans R2.av
  ·exact (hf _ (by rw [R2.wt]; decide)).trans R2.wt
  ·have hxn:x≠na:=fun q=>by subst q; rw [ena7] at hx; exact ns hx
   show (if x = na then _ else ρ x) = 0
   rw [if_neg hxn]
   exact R2.free x (Classical.byContradiction fun q=>al27 x q hx)
 refine ⟨Rn,B2.keep R2 (k27.mono fun c h=>by unfold bRole at h; exact z159 h),U2.keep R2 (k27.mono fun c h=>by unfold uRole at h; exact z160 h) hρ,⟨H2.instK R2 (k27.mono fun c h=>(z156 h)),H2.edK R2 (k27.mono fun c h=>(z161 h)),⟨fv ++ [.int ((ev2.length:Nat) - 1:Int) t5],n3,?_,?_⟩,H2.knK R2 (k27.mono fun c h=>(z162 h)),⟨_,D7,?_,fun i hi hr=>?_⟩,⟨wv ++ gv,n4,?_,?_⟩⟩⟩
 ·exact kA2 _ _ (.inl (by rw [R5.fo]; decide)) (le5 _ _ (kA _ _ (.inl (by rw [R4.fo]; decide)) (kW _ _ (.inl (by rw [R3.fo]; decide)) eF)))
 ·have:=cls_mrg hlt hgn' rk' rg'
  rw [List.length_append,List.length_singleton]; show fv.length + 1 + cls s.n (mrg s.r kept gone)≤s.n; exact z75 hfl' this
 ·obtain h1:=length_dput (ddel al gone) kept (.ref na)
  obtain h2:=length_ddel_lt (l:=al) (k:=gone) (by rw [hg1]; rfl)
  exact Nat.le_trans (z163 h1 h2) hal3
 ·show (X3 fun a vs k=>N4 ((dput (ddel al gone) kept (.ref na)).lookup i = some (.ref a)) ((if a = na then 101 + 2 * kept else ρ a) = 101 + 2 * i) (σ₇ a = some (lst vs k)) (Ns vs (if i = kept then s.abv kept ++ s.abv gone else s.abv i)))
  refine lG ?_; intro G
  by_cases q:i = kept
  ·subst q
   exact ⟨na,_,_,by rw [lookup_dput,if_pos rfl],if_pos rfl,ena7,by rw [if_pos rfl]; exact hk4.append hg4⟩
  ·have hr':mrg s.r kept gone i = i:=hr
   have hri:s.r i = i:=by
    unfold mrg at hr'
    by_cases q2:s.r i = gone
    ·rw [if_pos q2] at hr'; exact absurd hr'.symm q
    ·rw [if_neg q2] at hr'; exact hr'
   have hig:i≠gone:=by
    rintro rfl
    unfold mrg at hr'; rw [if_pos rg'] at hr'; exact z164 hlt hr'
   obtain ⟨a',v',k',z1,z2,z3,z4⟩:=hav i hi hri
   have z3':σ₇ a' = some (lst v' k'):=kA2 _ _ (.inl (by rw [z2]; exact z154)) (le5 _ _ (kA _ _ (.inl (by rw [z2]; exact z154)) (kW _ _ (.inl (by rw [z2]; exact z153)) z3)))
   have hne':a'≠na:=fun q=>by
    subst q
    exact alA (_:Addr) (alW _ (ne_none z3)) hna
   exact ⟨a',v',k',by rw [lookup_dput,if_neg q,lookup_ddel,if_neg hig]; exact z1,by rw [if_neg hne']; exact z2,z3',by rw [if_neg q]; exact z4⟩
 ·exact kA2 _ _ (.inl (by rw [R5.wt]; decide)) (le5 _ _ (kA _ _ (.inl (by rw [R4.wt]; decide)) eW))
 ·exact hwN.append hg4
end
end Mine
end
section
set_option maxRecDepth 10000
namespace Mine
def lk (s:St) (n:Nat):St:=match s.nodes[n]? with
 | none=>s
 | some nd=>match s.known.lookup (sig s.r nd) with
  | none=>{ s with known:=s.known ++ [(sig s.r nd,n)] }
  | some m=>if s.r m = s.r n then s else jn s (min (s.r m) (s.r n)) (max (s.r m) (s.r n))
structure Bd (s:St):Prop where
 ne:s.ne≤1000
 kn:s.known.length≤100000
 wt:s.waiting.length≤50000
 ab:∀ i,i < s.n→s.r i = i→(s.abv i).length≤50000
 kv:∀ p ∈ s.known,p.2 < s.n
theorem mem_of_lk {l:List (Node × Nat)} {k:Node} {m:Nat} (h:l.lookup k = some m):(k,m) ∈ l:=by
 induction l with
 | nil=>cases h
 | cons p l ih =>
  obtain ⟨a,b⟩:=p
  rw [List.lookup_cons] at h
  by_cases q:k = a
  ·subst q; rw [beq_self_eq_true] at h; cases h; exact .head _
  ·rw [beq_eq_false_iff_ne.mpr q] at h; exact .tail _ (ih h)
section
variable {P:Par} {A:Around} {env:Env} {W:List Addr} {α β:Type} {σ σ':Store} {m:Vars} {X:HA} {ρ:Addr→Nat} {s:St}
noncomputable def fdHMerge (p:Params):{fd:FuncData // fdIn (Mine.hd.heap_1 p) 401 = some fd}:=⟨_,rfl⟩
theorem cHMerge (O:P.Ok) {a b:Nat} {t u:Tok} {rv:Value} {Q:Value→Store→Prop} (hR:Rm A 14) (I:HInv P X ρ σ s) (ha:a < s.n) (hb:b < s.n) (bd:Bd s)
  (h:∀ v σ' ρ',Ext ρ σ ρ' σ'→HInv P X ρ' σ' (if s.r a = s.r b then { s with ne:=s.ne + 1 } else jn s (min (s.r a) (s.r b)) (max (s.r a) (s.r b)))→Q v σ') :
  COp P A (.call (.ref 401) ⟨[.ref X.h,.int (a:Nat) t,.int (b:Nat) u,rv],[]⟩) σ Q:=by
 refine oCall O (fdHMerge _).2 hR rfl rfl rfl rfl rfl rfl (fun L=>?_) rfl rfl rfl
 intro env A' W m0 Q'
 have hR':Rm A' 13:=hR.deeper
 obtain ⟨t1,Ih⟩:=I.H.inst
 have wf:=I.U.find.wf
 obtain l1:=wf.lt ha
 obtain l2:=wf.lt hb
 obtain i1:=wf.idem a ha
 obtain i2:=wf.idem b hb
 have b1:=bd.ab _ l1 i1
 have b2:=bd.ab _ l2 i2
 have bmax:(s.abv (max (s.r a) (s.r b))).length≤50000:=by rcases Nat.le_total (s.r a) (s.r b) with q | q <;> simp [Nat.max_eq_left,Nat.max_eq_right,q,b1,b2]
 have bmin:(s.abv (min (s.r a) (s.r b))).length≤50000:=by rcases Nat.le_total (s.r a) (s.r b) with q | q <;> simp [Nat.min_eq_left,Nat.min_eq_right,q,b1,b2]
 refine xLast (xReturn (xCallMeth ?_))
 refine xName (xLoad rfl rfl fun pl=>?_)
 refine xOp (oGetMethod O Ih rfl rfl ⟨kept_fn O (fdJoin _).2,?_⟩)
 refine lqE ?_; intro K
 refine (xName (xLoad rfl rfl ?_))
 refine lqE ?_; intro K
 refine (xName (xLoad rfl rfl ?_))
 refine (xName (xLoad rfl rfl ?_))
 refine xOp (oOf (cJoin O (hR'.mono z165) I ha hb bd.ne (by have:=bd.wt; exact z166 bmax this) (z166 bmax bmin) (fun heq σ' ρ' X' I'=>?_) fun kept gone hk hg hlt hgn rk rg σ' ρ' X' I'=>?_))
 ·exact h _ σ' ρ' X' (by rw [if_pos heq]; exact I')
 ·exact h _ σ' ρ' X' (by rw [if_neg (z167 hk hg hlt),← hk,← hg]; exact I')
noncomputable def fdLook (p:Params):{fd:FuncData // fdIn (Mine.hd.heap_1 p) 380 = some fd}:=⟨_,rfl⟩
theorem lk_none {s:St} {a:Nat} {nd} (h:s.nodes[a]? = some nd) (g:s.known.lookup (sig s.r nd) = none):lk s a = { s with known:=s.known ++ [(sig s.r nd,a)] }:=by unfold lk; rw [h]; dsimp only; rw [g]
theorem lk_some {s:St} {a m:Nat} {nd} (h:s.nodes[a]? = some nd) (g:s.known.lookup (sig s.r nd) = some m):lk s a = if s.r m = s.r a then s else jn s (min (s.r m) (s.r a)) (max (s.r m) (s.r a)):=by unfold lk; rw [h]; dsimp only; rw [g]
theorem cLook (O:P.Ok) {a:Nat} {t:Tok} {Q:Value→Store→Prop} (hR:Rm A 16) (I:HInv P X ρ σ s) (ha:a < s.n) (bd:Bd s)
  (h:∀ σ' ρ',Ext ρ σ ρ' σ'→HInv P X ρ' σ' (lk s a)→Q .none σ'):COp P A (.call (.ref 380) ⟨[.ref X.h,.int (a:Nat) t],[]⟩) σ Q:=by
 refine oCall O (fdLook _).2 hR rfl rfl rfl rfl rfl rfl (fun L=>?_) rfl rfl rfl
 intro env A' W m0 Q'
 have hR':Rm A' 15:=hR.deeper
 obtain ⟨t1,Ih⟩:=I.H.inst
 obtain ⟨nd,hnd⟩:∃ nd,s.nodes[a]? = some nd:=⟨s.nodes[a],List.getElem?_eq_getElem ha⟩
 refine xCons (lq ?_); intro K
 refine xAssignName (lq ?_); intro K
 refine xCallMeth ?_
 refine lq ?_; intro K
 refine xAttribute (lq ?_); intro K
 refine xName (xLoad rfl rfl ?_)
 refine lq ?_; intro K
 refine xOp (lo ?_); intro K
 refine oGetAttr O Ih rfl rfl rfl fun pl=>?_
 refine lq ?_; intro K
 refine xOp (lo ?_); intro K
 refine oMethT I.H.kn F.slot_dict_setdefault F.type_dict_setdefault ⟨kept_builtin _,?_⟩
 refine lqE ?_; intro K
 refine (lq ?_); intro K
 refine xCallMeth ?_
 refine lq ?_; intro K
 refine xName (lq ?_); intro K
 refine xLoad rfl rfl fun pl=>?_
 refine lq ?_; intro K
 refine xOp (oGetMethod O Ih rfl rfl ⟨kept_fn O (fdHNode _).2,?_⟩)
 refine lqE ?_; intro K
 refine (xName (xLoad rfl rfl (evNil ?_)))
 refine lq ?_; intro K
 refine xOp (oOf (cHNode O (hR'.mono z168) I hnd fun T σ₁ le1 N=>?_))
 have I1:=I.le le1
 refine lqE ?_; intro K
 refine (xName (xLoad rfl rfl (evNil ?_)))
 refine lq ?_; intro K
 refine xOp (oTSetDefault (hR'.mono z169) I1.H.kn N (by have:=bd.kn; exact z170 this) (fun m tm hm=>?_) fun hno o D2=>?_)
 ·-- it is there
  have hmn:m < s.n:=bd.kv _ (mem_of_lk hm)
  obtain ⟨t2,Ih2⟩:=I1.H.inst
  refine lq ?_; intro K
  refine xStore rfl rfl (List.mem_cons_self ..) ?_
  refine lq ?_; intro K
  refine xLast (lq ?_); intro K
  refine xIf (xTrueCompare ?_)
  refine lq ?_; intro K
  refine xCallMeth (xName (xLoad rfl rfl fun pl=>?_))
  refine lq ?_; intro K
  refine xOp (oGetMethod O Ih2 rfl rfl ⟨kept_fn O (fdHFind _).2,?_⟩)
  refine lqE ?_; intro K
  refine (xName (xLoad rfl rfl (evNil ?_)))
  refine lq ?_; intro K
  refine xOp (oOf (cHFind O (hR'.mono z171) I1 hmn fun t3=>?_))
  refine lq ?_; intro K
  refine xCallMeth (xName (xLoad rfl rfl fun pl=>?_))
  refine lq ?_; intro K
  refine xOp (oGetMethod O Ih2 rfl rfl ⟨kept_fn O (fdHFind _).2,?_⟩)
  refine lqE ?_; intro K
  refine (xName (xLoad rfl rfl (evNil ?_)))
  refine lq ?_; intro K
  refine xOp (oOf (cHFind O (hR'.mono z171) I1 ha fun t4=>?_))
  refine lq ?_; intro K
  refine xOp (oNe (xTruthyBool ⟨fun hb=>?_,fun hb=>xNil ?_⟩))
  ·have hne:s.r m≠s.r a:=fun q=>by rw [q] at hb; simp at hb
   have wf:=I.U.find.wf
   have b1:=bd.ab _ (wf.lt hmn) (wf.idem m hmn)
   have b2:=bd.ab _ (wf.lt ha) (wf.idem a ha)
   have bmax:(s.abv (max (s.r m) (s.r a))).length≤50000:=by rcases Nat.le_total (s.r m) (s.r a) with q | q <;> simp [Nat.max_eq_left,Nat.max_eq_right,q,b1,b2]
   have bmin:(s.abv (min (s.r m) (s.r a))).length≤50000:=by rcases Nat.le_total (s.r m) (s.r a) with q | q <;> simp [Nat.min_eq_left,Nat.min_eq_right,q,b1,b2]
   refine lq ?_; intro K
   refine xLast (lq ?_); intro K
   refine xExpr (xCallMeth ?_)
   refine lq ?_; intro K
   refine xName (xLoad rfl rfl fun pl=>?_)
   refine lq ?_; intro K
   refine xOp (oGetMethod O Ih2 rfl rfl ⟨kept_fn O (fdJoin _).2,?_⟩)
   refine lqE ?_; intro K
   refine (xName (xLoad rfl rfl ?_))
   refine lqE ?_; intro K
   refine (xName (xLoad rfl rfl ?_))
   refine lqE ?_; intro K
   refine (xTuple (evCons (xStr fun t5=>evNil fun tp htp=>evNil ?_)))
   have le2:Le σ₁ (σ₁.set tp (tup [.str "like" t5] 0)):=Le.new htp
   refine lq ?_; intro K
   refine xOp (oOf (cJoin O (hR'.mono z172) (I1.le le2) hmn ha bd.ne (by have:=bd.wt; exact z166 bmax this) (z166 bmax bmin) (fun heq=>absurd heq hne) fun kept gone hk hg hlt hgn rk rg σ' ρ' X' I'=>?_))
   refine h σ' ρ' ((Ext.le (le1.trans le2)).trans X') ?_
   rw [lk_some hnd hm,if_neg hne,← hk,← hg]; exact I'
  ·have heq:s.r m = s.r a:=by
    have:(s.r m:Int) = s.r a:=by simpa using hb
    exact z27 this
   refine h σ₁ ρ (Ext.le le1) ?_
   rw [lk_some hnd hm,if_pos heq]; exact I1
 ·-- it is new
  obtain ⟨oK,_,_,_,eK,hoK,_⟩:=I1.H.kn
  have kK:KpR (fun d=>d≠16) ρ σ₁ (σ₁.set X.kn o):=kpr_setD eK hoK.1 I1.R.kn
  have alK:=alive_set (σ:=σ₁) (a:=X.kn) (o:=o)
  generalize (σ₁.set X.kn o) = σ₂ at *
  have I2:HInv P X ρ σ₂ { s with known:=s.known ++ [(sig s.r nd,a)] } :=
   ⟨I1.R.al alK,I1.B.keep I1.R (kK.mono fun c h=>by unfold bRole at h; exact z173 h),I1.U.keep I1.R (kK.mono fun c h=>by unfold uRole at h; exact z174 h) (fun _ _=>rfl),
    ⟨I1.H.instK I1.R (kK.mono fun c h=>(z175 h)),I1.H.edK I1.R (kK.mono fun c h=>(z176 h)),I1.H.foK I1.R (kK.mono fun c h=>(z177 h)),D2,I1.H.avK I1.R (kK.mono fun c h=>(z178 h)) (fun _ _=>rfl),I1.H.wtK I1.R (kK.mono fun c h=>(z179 h))⟩⟩
  obtain ⟨t2,Ih2⟩:=I2.H.inst
  refine lq ?_; intro K
  refine xStore rfl rfl (List.mem_cons_self ..) ?_
  refine lq ?_; intro K
  refine xLast (lq ?_); intro K
  refine xIf (lq ?_); intro K
  refine xTrueCompare ?_
  refine lq ?_; intro K
  refine xCallMeth (lq ?_); intro K
  refine xName (xLoad rfl rfl fun pl=>?_)
  refine lq ?_; intro K
  refine xOp (oGetMethod O Ih2 rfl rfl ⟨kept_fn O (fdHFind _).2,?_⟩)
  refine lqE ?_; intro K
  refine (xName (xLoad rfl rfl (evNil ?_)))
  refine lq ?_; intro K
  refine xOp (oOf (cHFind O (hR'.mono z171) I2 ha fun t3=>?_))
  refine lq ?_; intro K
  refine xCallMeth (lq ?_); intro K
  refine xName (xLoad rfl rfl fun pl=>?_)
  refine lq ?_; intro K
  refine xOp (lo ?_); intro K
  refine oGetMethod O Ih2 rfl rfl ⟨kept_fn O (fdHFind _).2,?_⟩
  refine lqE ?_; intro K
  refine (xName (xLoad rfl rfl (evNil ?_)))
  refine lq ?_; intro K
  refine xOp (oOf (cHFind O (hR'.mono z171) I2 ha fun t4=>?_))
  refine lq ?_; intro K
  refine xOp (oNe (xTruthyBool ⟨fun hb=>?_,fun hb=>xNil ?_⟩))
  ·simp at hb
  ·refine h σ₂ ρ ((Ext.le le1).trans ⟨fun _ _=>rfl,kK.mono fun c h=>(z180 h),alK⟩) ?_
   rw [lk_none hnd hno]; exact I2
noncomputable def fdSettle (p:Params):{fd:FuncData // fdIn (Mine.hd.heap_1 p) 415 = some fd}:=⟨_,rfl⟩
theorem cSettle (O:P.Ok) {Q:Value→Store→Prop} (hR:Rm A 18) (I:HInv P X ρ σ s) (Inv:St→Prop) (μ:St→Nat) (hI:Inv s) (bd:∀ s ws n,Inv s→s.waiting = ws ++ [n]→n < s.n∧Bd { s with waiting:=ws }) (bw:∀ s,Inv s→s.waiting.length≤50000)
  (step:∀ s ws n,Inv s→s.waiting = ws ++ [n]→Inv (lk { s with waiting:=ws } n)∧μ (lk { s with waiting:=ws } n) < μ s)
  (h:∀ s' σ' ρ',Inv s'→s'.waiting = []→Ext ρ σ ρ' σ'→HInv P X ρ' σ' s'→Q .none σ'):COp P A (.call (.ref 415) ⟨[.ref X.h],[]⟩) σ Q:=by
 refine oCall O (fdSettle _).2 hR rfl rfl rfl rfl rfl rfl (fun L=>?_) rfl rfl rfl
 intro env A' W m0 Q'
 refine lG ?_; intro G
 obtain hR':Rm A' 17:=hR.deeper
 refine lq ?_; intro K
 refine xLast (lq ?_); intro K
 refine xWhile (fun k σ' m'=>(X2 fun s' ρ'=>N5 (k = μ s') (Inv s') (Ext ρ σ ρ' σ') (HInv P X ρ' σ' s') (m' "self" = some (.ref X.h)))) (μ s) ⟨s,ρ,rfl,hI,Ext.refl _ _,I,rfl⟩ ?_
 rintro k σ' m' ⟨s',ρ',rfl,hI',X',I',hs⟩
 refine lG ?_; intro G
 obtain ⟨t1,Ih⟩:=I'.H.inst
 refine lG ?_; intro G
 obtain ⟨wv,wk,ew,hw⟩:=I'.H.wt
 refine lG ?_; intro G
 obtain hwl:=bw s' hI'
 refine lq ?_; intro K
 refine xTrueCompare (lq ?_); intro K
 refine xCallB O boot_len rfl rfl (lq ?_); intro K
 refine xAttribute (xName (xLoad rfl hs ?_))
 refine xOp (oGetAttr O Ih rfl rfl rfl ?_)
 refine (xOp (oLen ew (by rw [hw.length]; exact z181 hwl) fun t2=>?_))
 refine xInt fun t3=>xOp (oGt (xTruthyBool ⟨fun hb=>?_,fun hb=>?_⟩))
 ·refine lG ?_; intro G
  obtain hne:s'.waiting≠[]:=fun q=>by
   have:=hw.length
   rw [q,List.length_nil] at this
   rw [this] at hb; simp at hb
  refine lG ?_; intro G
  obtain ⟨ws,n,hwn⟩:∃ ws n,s'.waiting = ws ++ [n]:=⟨s'.waiting.dropLast,s'.waiting.getLast hne,(List.dropLast_concat_getLast hne).symm⟩
  rw [hwn] at hw
  refine lG ?_; intro G
  obtain ⟨vs,tn,rfl,hvs⟩:=hw.snoc
  refine lG ?_; intro G
  obtain ⟨hn,hbd⟩:=bd s' ws n hI' hwn
  obtain ⟨hI2,hμ⟩:=step s' ws n hI' hwn
  refine lq ?_; intro K
  refine xLast (lq ?_); intro K
  refine xExpr (xCallMeth ?_)
  refine lq ?_; intro K
  refine xName (xLoad rfl hs fun pl=>?_)
  refine lq ?_; intro K
  refine xOp (oGetMethod O Ih rfl rfl ⟨kept_fn O (fdLook _).2,?_⟩)
  refine lq ?_; intro K
  refine (xCallMeth (xAttribute (xName (xLoad rfl hs ?_))))
  refine lq ?_; intro K
  refine xOp (oGetAttr O Ih rfl rfl rfl fun pl=>?_)
  obtain hvl:vs.length≤1000000:=by
   have:=hvs.length
   obtain h2:s'.waiting.length = ws.length + 1:=by rw [hwn]; simp
   exact z182 hwl this h2
  refine lq ?_; intro K
  refine xOp (oMethPop ew ⟨kept_builtin _,(xOp (oPop ew hvl fun n2=>?_))⟩)
  obtain kW:KpR (fun d=>d≠18) ρ' σ' (σ'.set X.wt (lst vs n2)):=kpr_set ew I'.R.wt
  obtain alW:=alive_set (σ:=σ') (a:=X.wt) (o:=lst vs n2)
  obtain eW:(σ'.set X.wt (lst vs n2)) X.wt = some (lst vs n2):=Store.set_same ..
  generalize (σ'.set X.wt (lst vs n2)) = σ₂ at *
  obtain I2:HInv P X ρ' σ₂ { s' with waiting:=ws } :=
   ⟨I'.R.al alW,I'.B.keep I'.R (kW.mono fun c h=>by unfold bRole at h; exact z183 h),I'.U.keep I'.R (kW.mono fun c h=>by unfold uRole at h; exact z184 h) (fun _ _=>rfl),
    ⟨I'.H.instK I'.R (kW.mono fun c h=>(z185 h)),I'.H.edK I'.R (kW.mono fun c h=>(z186 h)),I'.H.foK I'.R (kW.mono fun c h=>(z187 h)),I'.H.knK I'.R (kW.mono fun c h=>(z188 h)),I'.H.avK I'.R (kW.mono fun c h=>(z189 h)) (fun _ _=>rfl),⟨vs,n2,eW,hvs⟩⟩⟩
  refine lq ?_; intro K
  refine (xOp (oOf (cLook O (hR'.mono z190) I2 hn hbd fun σ₃ ρ₃ X3 I3=>?_)))
  exact ⟨_,hμ,_,ρ₃,rfl,hI2,(X'.trans ⟨fun _ _=>rfl,kW.mono fun c h=>(z191 h),alW⟩).trans X3,I3,hs⟩
 ·obtain hnil:s'.waiting = []:=by
   have:=hw.length
   cases q:s'.waiting with
   | nil=>rfl
   | cons x y=>rw [q,List.length_cons] at this; rw [this] at hb; simp at hb
  exact h s' σ' ρ' hI' hnil X' I'
noncomputable def fdHSeek (p:Params):{fd:FuncData // fdIn (Mine.hd.heap_1 p) 453 = some fd}:=⟨_,rfl⟩
theorem cHSeek (O:P.Ok) {x:Str} {t:Tok} {cl:Addr} {cv:List Value} {ck:Nat} {cs:List Nat} {Q:Value→Store→Prop} (hR:Rm A 10) (I:HInv P X ρ σ s) (ec:σ cl = some (lst cv ck)) (hN:Ns cv cs) (hc:∀ c ∈ cs,c < s.n) (hcl:cs.length≤1000) (kv:∀ p ∈ s.known,p.2 < s.n)
  (h0:s.known.lookup (x,cs.map s.r) = none→∀ t,Q (.int (-1) t) σ) (h1:∀ m t,s.known.lookup (x,cs.map s.r) = some m→Q (.int (s.r m:Nat) t) σ):COp P A (.call (.ref 453) ⟨[.ref X.h,.str x t,.ref cl],[]⟩) σ Q:=by
 refine oCall O (fdHSeek _).2 hR rfl rfl rfl rfl rfl rfl (fun L=>?_) rfl rfl rfl
 intro env A' W m0 Q'
 obtain hR':Rm A' 9:=hR.deeper
 obtain hh:=hR'.handled
 obtain ⟨t1,Ih⟩:=I.H.inst
 refine xCons (lq ?_); intro K
 refine xAssignName (lq ?_); intro K
 refine xCallMeth ?_
 refine lq ?_; intro K
 refine xAttribute (lq ?_); intro K
 refine xName (xLoadCell rfl rfl rfl ?_)
 refine lq ?_; intro K
 refine xOp (lo ?_); intro K
 refine oGetAttr O Ih rfl rfl rfl fun pl=>?_
 refine lq ?_; intro K
 refine xOp (lo ?_); intro K
 refine oMethT I.H.kn F.slot_dict_get F.type_dict_get ⟨kept_builtin _,?_⟩
 refine lq ?_; intro K
 refine (lq ?_); intro K
 refine xBinOp (xTuple ?_)
 refine lq ?_; intro K
 refine (lq ?_); intro K
 refine xName (xLoad rfl rfl ?_)
 refine fun t2 ht2=>?_
 obtain le1:Le σ (σ.set t2 (tup [.str x t] 0)):=Le.new ht2
 obtain et2:(σ.set t2 (tup [.str x t] 0)) t2 = some (tup [.str x t] 0):=Store.set_same ..
 generalize (σ.set t2 (tup [.str x t] 0)) = σ₁ at *
 obtain I1:=I.le le1
 refine lq ?_; intro K
 refine xCallT O boot_tuple rfl rfl ?_
 refine lq ?_; intro K
 refine xListCompG ⟨rfl,rfl,rfl,rfl,rfl⟩ ?_
 refine lq ?_; intro K
 refine xName (lq ?_); intro K
 refine xLoad rfl rfl ?_
 refine compGo_map cs _ _ (fun _=>true) (fun y v _=>∃ t,v = .int (s.r y:Nat) t) (srx_list (k:=ck) hh (Ns.all2.mp hN)) (fun p hp=>by rw [List.mem_singleton] at hp; subst hp; exact le1 _ _ ec) (z192 hcl) (fun _ _ _ _ h _=>h) (fun _=>rfl) rfl rfl ?_ ?_
 ·rintro C y v σ' m'' hy ⟨u,rfl⟩ hle hm' hmx
  refine ⟨⟨rfl,rfl,rfl⟩,fun _=>?_⟩
  have I3:=I1.le hle
  refine lG ?_; intro G
  obtain ⟨_,Ih3⟩:=I3.H.inst
  refine lq ?_; intro K
  refine xCallMeth (lq ?_); intro K
  refine xName (xLoadCell rfl rfl (hm' _ (by decide)) fun pl=>?_)
  refine lq ?_; intro K
  refine xOp (oGetMethod O Ih3 rfl rfl ⟨kept_fn O (fdHFind _).2,?_⟩)
  refine lq ?_; intro K
  refine (xName (xLoad rfl hmx (evNil ?_)))
  refine lq ?_; intro K
  exact xOp (oOf (cHFind O (hR'.mono z106) I3 (hc y hy) fun t=>⟨Le.refl _,rfl,t,rfl⟩))
 intro D ws k σ₃ le3 hD eD h2
 have hNs:Ns ws (cs.map s.r):=by
  rw [Ns.all2,All2.map_left]
  rwa [show (cs.filter fun _=>true) = cs from by simp] at h2
 refine lq ?_; intro K
 refine (xOp (oTupleOf eD (by rw [hNs.length,List.length_map]; exact z192 hcl) fun T hT=>?_))
 refine lq ?_; intro K
 refine xOp (oAddTuple (Store.set_new hT (le3 _ _ et2)) (Store.set_same ..) (by rw [List.length_nil,hNs.length,List.length_map]; exact z193 hcl) fun T2 σ₄ le4 ⟨k4,e4⟩=>?_)
 have leA:Le σ σ₄:=((le1.trans le3).trans (Le.new hT)).trans le4
 refine lG ?_; intro G
 obtain N:NodeAt σ₄ (.ref T2) (x,cs.map s.r):=⟨T2,k4,t,ws,rfl,e4,hNs⟩
 obtain I4:=I.le leA
 obtain ⟨t5,Ih4⟩:=I4.H.inst
 refine lq ?_; intro K
 refine (xNeg1 fun t6=>evNil ?_)
 refine lq ?_; intro K
 refine xOp (oTGet (hR'.mono z105) I4.H.kn N (fun hno=>?_) fun m tm hm=>?_)
 ·refine lq ?_; intro K
  refine xForget leA ?_
  refine lq ?_; intro K
  refine xStore rfl rfl (List.mem_cons_self ..) ?_
  refine lq ?_; intro K
  refine xLast (lq ?_); intro K
  refine xReturn (xIfExp (xTrueCompare (xName (xLoad rfl rfl (xInt fun t7=>?_)))))
  refine lq ?_; intro K
  refine xOp (oLt (xTruthyBool ⟨fun _=>?_,fun hf=>by simp at hf⟩))
  exact xNeg1 fun t8=>h0 hno t8
 ·obtain hmn:m < s.n:=kv _ (mem_of_lk hm)
  refine lq ?_; intro K
  refine xForget leA ?_
  refine xStore rfl rfl (List.mem_cons_self ..) ?_
  refine xLast (lq ?_); intro K
  refine xReturn (xIfExp (xTrueCompare (xName (xLoad rfl rfl (xInt fun t7=>?_)))))
  refine xOp (oLt (xTruthyBool ⟨fun hf=>by simp at hf; omega,fun _=>?_⟩))
  refine xCallMeth (xName (xLoadCell rfl rfl rfl fun pl=>?_))
  refine xOp (oGetMethod O Ih rfl rfl ⟨kept_fn O (fdHFind _).2,?_⟩)
  refine (xName (xLoad rfl rfl (evNil ?_)))
  exact xOp (oOf (cHFind O (hR'.mono z106) I hmn fun t=>h1 m t hm))
end
end Mine
end
namespace Mine
theorem slot_setit_next:Slot "set_iterator" "__next__" "set_iterator.__next__" :=
 .of (owner:="set_iterator") (n:="__next__") (by rw [typeLookup_type,builtinLookup_eq_fast]; kernel_rfl) (by decide +kernel) (by decide +kernel) (by decide +kernel)
  (by first | exact .inl (by decide +kernel) | exact .inr (by decide +kernel)) (by rw [isSubtype_type]; kernel_rfl)
theorem entry_setit_next:entryFor table "set_iterator.__next__" = some Builtin.«set_iterator.__next__»:=entryFor_of_tree (by kernel_rfl)
theorem owner_setit:Manifest.owners.lookup (String.ofList ['r','o','t','a','r','e','t','i','_','t','e','s'].reverse) = some Manifest.sig_set_iterator:=by kernel_rfl
theorem args_setit_next (a:Value):argsOk "set_iterator.__next__" ⟨[a],[]⟩:=by
 unfold argsOk; rw [signature?_of (id:="set_iterator.__next__") (n:=['_','_','t','x','e','n','_','_']) (o:=['r','o','t','a','r','e','t','i','_','t','e','s']) (by kernel_rfl) owner_setit]; kernel_rfl
theorem slot_setit_iter:Slot "set_iterator" "__iter__" "set_iterator.__iter__" :=
 .of (owner:="set_iterator") (n:="__iter__") (by rw [typeLookup_type,builtinLookup_eq_fast]; kernel_rfl) (by decide +kernel) (by decide +kernel) (by decide +kernel)
  (by first | exact .inl (by decide +kernel) | exact .inr (by decide +kernel)) (by rw [isSubtype_type]; kernel_rfl)
theorem entry_setit_iter:entryFor table "set_iterator.__iter__" = some Builtin.«dict_keyiterator.__iter__» :=
 entryFor_alias (id':="dict_keyiterator.__iter__") (by kernel_rfl) rfl (by decide +kernel) (by kernel_rfl)
theorem args_setit_iter (a:Value):argsOk "set_iterator.__iter__" ⟨[a],[]⟩:=by
 unfold argsOk; rw [signature?_of (id:="set_iterator.__iter__") (n:=['_','_','r','e','t','i','_','_']) (o:=['r','o','t','a','r','e','t','i','_','t','e','s']) (by kernel_rfl) owner_setit]; kernel_rfl
theorem entry_set_iter':entryFor table "set.__iter__" = some Builtin.«frozenset.__iter__» :=
 entryFor_alias (id':="frozenset.__iter__") (by kernel_rfl) rfl (by decide +kernel) (by kernel_rfl)
def setObj (es:Array (Int × Value)) (ep:Nat) (t:SetTable):Obj:=⟨.type "set",none,.set es ep t,#[]⟩
def SetIt (h:Heap) (it a:Addr) (first:Value) (i n ep:Nat):Prop:=(∃ o,N3 (h.get? it = some o) (o.cls = .type "set_iterator") (o.data = .fields #[first,.int i 0,.ref a,.int n 0,.int ep 0]))
theorem SetIt.ty {s:Shared} {it a:Addr} {first:Value} {i n ep:Nat} (x:SetIt s.heap it a first i n ep):s.TypeIs (.ref it) "set_iterator":=let ⟨o,ho,hc,_⟩:=x; ⟨o,ho,hc⟩
theorem SetIt.at {h h':Heap} {it a:Addr} {first:Value} {i n ep:Nat} (x:SetIt h it a first i n ep) (e:∀ o,h.get? it = some o→h'.get? it = some o):SetIt h' it a first i n ep:=let ⟨o,ho,r,r'⟩:=x; ⟨o,e _ ho,r,r'⟩
section
variable {prog:Program} {w:World} {A:Around} {E:Value→Shared→Prop} {s:Shared} {it a:Addr} {first:Value} {i n ep:Nat} {es:Array (Int × Value)} {t:SetTable}
theorem setit_self {Q:Value→Shared→Prop} (hit:SetIt s.heap it a first i n ep) (h:Q (.ref it) s):wpAny (model prog w) A (pyIter (.ref it)) Q E s:=by
 refine wpAny_pyIter_slot hit.ty slot_setit_iter (wpAny_call_entry slot_setit_iter hit.ty entry_setit_iter ?_ (args_setit_iter _))
 exact wpAny_pure ⟨_,rfl,"set_iterator",_,hit.ty,slot_setit_next.lookup,h⟩
theorem setit_item {slot next:Nat} {x:Value} {Q:Option Value→Shared→Prop} (hit:SetIt s.heap it a (.int slot 0) i n ep) (hs:s.heap.get? a = some (setObj es ep t)) (hf:t.fits es.size = true) (hn:es.size = n)
  (hstep:∀ (A:Around) (E:Value→Shared→Prop) (Q:Option (Value × Nat)→Shared→Prop),Q (some (x,next)) s→wpAny (model prog w) A (setNext a slot i ep) Q E s)
  (hQ:∀ h',SetIt h' it a (.int next 0) (i + 1) n ep→Heap.SameBut it s.heap h'→Q (some x) { s with heap:=h' }):wpAny (model prog w) A (pyNext (.ref it)) Q E s:=by
 refine lG ?_; intro G
 obtain ⟨o,ho,hc,hd⟩:=id hit
 refine wpAny_bind (wpAny_attempt (wpAny_callSpecial?_slot (name:=Str.ofString "__next__") hit.ty slot_setit_next (wpAny_call_entry slot_setit_next hit.ty entry_setit_next ?_ (args_setit_next _))))
 refine wpAny_bind (wpAny_pure ?_)
 refine wpAny_bind (wpAny_fieldsOf ho hd ?_)
 show wpAny _ _ (do
  if ((← setEntries a).size:Int) != (n:Int) then
   rule "set_iterator.__next__.size-changed"
   setField (.ref it) 3 (rawInt (-1))
   raiseError "RuntimeError" "Set changed size during iteration"
  match ← setNext a ((slot:Nat):Int).toNat ((i:Nat):Int).toNat ((ep:Nat):Int).toNat with
  | some (x,next) =>
   setField (.ref it) 0 (rawInt next)
   setField (.ref it) 1 (rawInt ((i:Nat) + 1))
   ret x
  | none=>setField (.ref it) 2 .none; raiseNew (← newExc (.type "StopIteration") [])) _ _ s
 refine wpAny_bind (wpAny_setEntries_of hs rfl hf ?_)
 rw [if_neg (by rw [hn]; simp)]
 refine wpAny_bind (hstep _ _ _ ?_)
 refine wpAny_bind (wpAny_setField ho hd (by simp) ?_)
 obtain d1:(Obj.mapFields (·.setIfInBounds 0 (rawInt next)) o).data = .fields #[.int next 0,.int i 0,.ref a,.int n 0,.int ep 0]:=by rw [Obj.data_mapFields hd]; simp [rawInt]
 obtain g1:=Heap.get?_update_self (Obj.mapFields (·.setIfInBounds 0 (rawInt next))) ho (Obj.isFreed_of_fields d1)
 refine wpAny_bind (wpAny_setField g1 d1 (by simp) ?_)
 obtain d2:(Obj.mapFields (·.setIfInBounds 1 (rawInt ((i:Int) + 1))) (Obj.mapFields (·.setIfInBounds 0 (rawInt next)) o)).data = .fields #[.int next 0,.int ((i + 1:Nat):Int) 0,.ref a,.int n 0,.int ep 0]:=by rw [Obj.data_mapFields d1]; simp [rawInt]
 obtain g2:=Heap.get?_update_self (Obj.mapFields (·.setIfInBounds 1 (rawInt ((i:Int) + 1)))) g1 (Obj.isFreed_of_fields d2)
 refine wpAny_pure ⟨_,rfl,wpAny_pure (hQ _ ⟨_,g2,?_,d2⟩ ((Heap.SameBut.update ..).trans (Heap.SameBut.update ..)))⟩
 exact (Obj.cls_mapFields ..).trans ((Obj.cls_mapFields ..).trans hc)
theorem setit_end {slot:Nat} {Q:Option Value→Shared→Prop} (hh:A.handled = none) (hit:SetIt s.heap it a (.int slot 0) i n ep) (hs:s.heap.get? a = some (setObj es ep t)) (hf:t.fits es.size = true) (hn:es.size = n)
  (hstep:∀ (A:Around) (E:Value→Shared→Prop) (Q:Option (Value × Nat)→Shared→Prop),Q none s→wpAny (model prog w) A (setNext a slot i ep) Q E s)
  (hQ:∀ h',Heap.ExtBut it s.heap h'→Q none { s with heap:=h' }):wpAny (model prog w) A (pyNext (.ref it)) Q E s:=by
 refine lG ?_; intro G
 obtain ⟨o,ho,hc,hd⟩:=id hit
 refine wpAny_bind (wpAny_attempt (wpAny_callSpecial?_slot (name:=Str.ofString "__next__") hit.ty slot_setit_next (wpAny_call_entry slot_setit_next hit.ty entry_setit_next ?_ (args_setit_next _))))
 refine wpAny_bind (wpAny_pure ?_)
 refine wpAny_bind (wpAny_fieldsOf ho hd ?_)
 show wpAny _ _ (do
  if ((← setEntries a).size:Int) != (n:Int) then
   rule "set_iterator.__next__.size-changed"
   setField (.ref it) 3 (rawInt (-1))
   raiseError "RuntimeError" "Set changed size during iteration"
  match ← setNext a ((slot:Nat):Int).toNat ((i:Nat):Int).toNat ((ep:Nat):Int).toNat with
  | some (x,next) =>
   setField (.ref it) 0 (rawInt next)
   setField (.ref it) 1 (rawInt ((i:Nat) + 1))
   ret x
  | none=>setField (.ref it) 2 .none; raiseNew (← newExc (.type "StopIteration") [])) _ _ s
 refine wpAny_bind (wpAny_setEntries_of hs rfl hf ?_)
 rw [if_neg (by rw [hn]; simp)]
 refine wpAny_bind (hstep _ _ _ ?_)
 refine wpAny_bind (wpAny_setField ho hd (by simp) ?_)
 refine wpAny_bind ?_
 refine wpAny_bind (wpAny_newObj_type ?_ (by size_fits))
 refine wpAny_bind (m:=firstArgMember _ _) (wpAny_of_eq (a:=Value.none) (by first | rfl | (simp only [firstArgMember]; rfl)) ?_)
 refine wpAny_newObj_type ?_ (by size_fits)
 refine wpAny_bind (wpAny_handled ?_)
 rw [show A.in1.handled = none from hh]
 refine wpAny_bind (wpAny_pure (wpAny_throw ?_))
 refine wpAny_bind (wpAny_isInstance (T:="StopIteration") (b:=true) ⟨_,Heap.get?_push_size _ rfl,rfl⟩ isSubtype_stop ?_)
 exact wpAny_pure (hQ _ (((Heap.SameBut.update ..).extBut.push _).push _))
theorem setit_drawn {T:Addr} {ps:List Value} {k p:Nat} {tk:Tok} {y:Int × Value} {Q:Option Value→Shared→Prop} (hit:SetIt s.heap it a (.ref T) i n ep) (hT:s.heap.get? T = some (tup ps k)) (hs:s.heap.get? a = some (setObj es ep t)) (hf:t.fits es.size = true) (hn:es.size = n)
  (hp:ps[i]? = some (.int p tk)) (hy:es[p]? = some y)
  (hQ:∀ h',SetIt h' it a (.ref T) (i + 1) n ep→Heap.SameBut it s.heap h'→Q (some y.2) { s with heap:=h' }):wpAny (model prog w) A (pyNext (.ref it)) Q E s:=by
 obtain ⟨o,ho,hc,hd⟩:=id hit
 refine wpAny_bind (wpAny_attempt (wpAny_callSpecial?_slot (name:=Str.ofString "__next__") hit.ty slot_setit_next (wpAny_call_entry slot_setit_next hit.ty entry_setit_next ?_ (args_setit_next _))))
 refine wpAny_bind (wpAny_pure ?_)
 refine wpAny_bind (wpAny_fieldsOf ho hd ?_)
 show wpAny _ _ (do
  if ((← setEntries a).size:Int) != (n:Int) then
   rule "set_iterator.__next__.size-changed"
   setField (.ref it) 3 (rawInt (-1))
   raiseError "RuntimeError" "Set changed size during iteration"
  let some places ← seqItems? (.ref T) | unsupported "internal:set_iterator"
  match places[((i:Nat):Int).toNat]? with
  | some (.int place _) =>
   let x ← setNextDrawn a place.toNat ((ep:Nat):Int).toNat
   setField (.ref it) 1 (rawInt ((i:Nat) + 1))
   ret x
  | some _=>unsupported "internal:set_iterator"
  | none=>setField (.ref it) 0 (rawInt 0); setField (.ref it) 2 .none; raiseNew (← newExc (.type "StopIteration") [])) _ _ s
 refine wpAny_bind (wpAny_setEntries_of hs rfl hf ?_)
 rw [if_neg (by rw [hn]; simp)]
 refine wpAny_bind (wpAny_seqItems hT rfl ?_)
 dsimp only
 rw [show (List.toArray ps)[((i:Nat):Int).toNat]? = some (.int p tk) from by simpa using hp]
 have hst:wpAny (model prog w) A.in1 (setNextDrawn a ((p:Nat):Int).toNat ((ep:Nat):Int).toNat) (fun x s'=>x = y.2∧s' = s) (fun _ _=>False) s:=by
  refine wpAny_bind (wpAny_setState_of hs rfl hf ?_)
  dsimp only
  rw [if_neg (by simp)]
  rw [show es[((p:Nat):Int).toNat]? = some y from by simpa using hy]
  exact wpAny_pure ⟨rfl,rfl⟩
 refine wpAny_bind (wpAny_mono hst (fun x s' ⟨h1,h2⟩=>?_) fun _ _ f=>f.elim)
 subst h1 h2
 refine wpAny_bind (wpAny_setField ho hd (by simp) ?_)
 have d1:(Obj.mapFields (·.setIfInBounds 1 (rawInt ((i:Int) + 1))) o).data = .fields #[.ref T,.int ((i + 1:Nat):Int) 0,.ref a,.int n 0,.int ep 0]:=by rw [Obj.data_mapFields hd]; simp [rawInt]
 have g1:=Heap.get?_update_self (Obj.mapFields (·.setIfInBounds 1 (rawInt ((i:Int) + 1)))) ho (Obj.isFreed_of_fields d1)
 exact wpAny_pure ⟨_,rfl,wpAny_pure (hQ _ ⟨_,g1,(Obj.cls_mapFields ..).trans hc,d1⟩ (Heap.SameBut.update ..))⟩
theorem setit_drawn_end {T:Addr} {ps:List Value} {k:Nat} {Q:Option Value→Shared→Prop} (hh:A.handled = none) (hit:SetIt s.heap it a (.ref T) i n ep) (hT:s.heap.get? T = some (tup ps k)) (hs:s.heap.get? a = some (setObj es ep t)) (hf:t.fits es.size = true) (hn:es.size = n)
  (hp:ps.length≤i)
  (hQ:∀ h',Heap.ExtBut it s.heap h'→Q none { s with heap:=h' }):wpAny (model prog w) A (pyNext (.ref it)) Q E s:=by
 refine lG ?_; intro G
 obtain ⟨o,ho,hc,hd⟩:=id hit
 refine wpAny_bind (wpAny_attempt (wpAny_callSpecial?_slot (name:=Str.ofString "__next__") hit.ty slot_setit_next (wpAny_call_entry slot_setit_next hit.ty entry_setit_next ?_ (args_setit_next _))))
 refine wpAny_bind (wpAny_pure ?_)
 refine wpAny_bind (wpAny_fieldsOf ho hd ?_)
 show wpAny _ _ (do
  if ((← setEntries a).size:Int) != (n:Int) then
   rule "set_iterator.__next__.size-changed"
   setField (.ref it) 3 (rawInt (-1))
   raiseError "RuntimeError" "Set changed size during iteration"
  let some places ← seqItems? (.ref T) | unsupported "internal:set_iterator"
  match places[((i:Nat):Int).toNat]? with
  | some (.int place _) =>
   let x ← setNextDrawn a place.toNat ((ep:Nat):Int).toNat
   setField (.ref it) 1 (rawInt ((i:Nat) + 1))
   ret x
  | some _=>unsupported "internal:set_iterator"
  | none=>setField (.ref it) 0 (rawInt 0); setField (.ref it) 2 .none; raiseNew (← newExc (.type "StopIteration") [])) _ _ s
 refine wpAny_bind (wpAny_setEntries_of hs rfl hf ?_)
 rw [if_neg (by rw [hn]; simp)]
 refine wpAny_bind (wpAny_seqItems hT rfl ?_)
 dsimp only
 rw [show (List.toArray ps)[((i:Nat):Int).toNat]? = none from by simpa using hp]
 refine wpAny_bind (wpAny_setField ho hd (by simp) ?_)
 obtain d1:(Obj.mapFields (·.setIfInBounds 0 (rawInt 0)) o).data = .fields #[.int 0 0,.int i 0,.ref a,.int n 0,.int ep 0]:=by rw [Obj.data_mapFields hd]; simp [rawInt]
 obtain g1:=Heap.get?_update_self (Obj.mapFields (·.setIfInBounds 0 (rawInt 0))) ho (Obj.isFreed_of_fields d1)
 refine wpAny_bind (wpAny_setField g1 d1 (by simp) ?_)
 refine wpAny_bind ?_
 refine wpAny_bind (wpAny_newObj_type ?_ (by size_fits))
 refine wpAny_bind (m:=firstArgMember _ _) (wpAny_of_eq (a:=Value.none) (by first | rfl | (simp only [firstArgMember]; rfl)) ?_)
 refine wpAny_newObj_type ?_ (by size_fits)
 refine wpAny_bind (wpAny_handled ?_)
 rw [show A.in1.handled = none from hh]
 refine wpAny_bind (wpAny_pure (wpAny_throw ?_))
 refine wpAny_bind (wpAny_isInstance (T:="StopIteration") (b:=true) ⟨_,Heap.get?_push_size _ rfl,rfl⟩ isSubtype_stop ?_)
 exact wpAny_pure (hQ _ ((((Heap.SameBut.update ..).trans (Heap.SameBut.update ..)).extBut.push _).push _))
end
def Rising (xs:Array Nat):Prop:=∀ i k (_:i < k) (hk:k < xs.size),xs[i] < xs[k]
theorem rising_iff {xs:Array Nat}:Rising xs ↔ xs.toList.Pairwise (· < ·):=by
 rw [List.pairwise_iff_getElem]
 constructor
 ·intro h i j hi hj hij
  simpa using h i j hij (by simpa using hj)
 ·intro h i k hik hk
  have:=h i k (by simp; exact z64 hik hk) (by simpa using hk) hik
  simpa using this
theorem below_go {xs:Array Nat} {j:Nat} (hr:Rising xs):∀ (fuel lo hi:Nat),lo≤hi→hi≤xs.size→hi - lo≤fuel→(∀ i (h:i < xs.size),i < lo→xs[i] < j)→(∀ i (h:i < xs.size),hi≤i→j≤xs[i]) →
  SetTable.below.go xs j fuel lo hi≤xs.size∧(∀ i (h:i < xs.size),i < SetTable.below.go xs j fuel lo hi→xs[i] < j)∧(∀ i (h:i < xs.size),SetTable.below.go xs j fuel lo hi≤i→j≤xs[i])
 | 0,lo,hi,h1,h2,h3,h4,h5=>by
  have:lo = hi:=(z502 h1 h3)
  subst this
  exact ⟨h2,h4,h5⟩
 | fuel + 1,lo,hi,h1,h2,h3,h4,h5=>by
  unfold SetTable.below.go
  by_cases hlt:lo < hi
  ·rw [if_pos hlt]
   dsimp only
   have hm:(lo + hi) / 2 < xs.size:=(z503 h2 hlt)
   have hg:xs.getD ((lo + hi) / 2) j = xs[(lo + hi) / 2]:=by simp [hm]
   rw [hg]
   by_cases hc:xs[(lo + hi) / 2] < j
   ·rw [if_pos hc]
    refine below_go hr fuel _ _ (z504 hlt) h2 (z505 h3) (fun i h hi'=>?_) h5
    by_cases q:i = (lo + hi) / 2
    ·subst q; exact hc
    ·exact Nat.lt_trans (hr i _ (z506 hi' q) hm) hc
   ·rw [if_neg hc]
    refine below_go hr fuel _ _ (z507 hlt) (z508 hm) (z509 h3) h4 (fun i h hi'=>?_)
    by_cases q:i = (lo + hi) / 2
    ·subst q; omega
    ·have:=hr ((lo + hi) / 2) i (z510 hi' q) h; omega
  ·rw [if_neg hlt]
   have:lo = hi:=(z371 h1 hlt)
   subst this
   exact ⟨h2,h4,h5⟩
theorem below_spec {xs:Array Nat} (j:Nat) (hr:Rising xs):SetTable.below xs j≤xs.size∧(∀ i (h:i < xs.size),i < SetTable.below xs j→xs[i] < j)∧(∀ i (h:i < xs.size),SetTable.below xs j≤i→j≤xs[i]) :=
 below_go hr xs.size 0 xs.size (Nat.zero_le _) (Nat.le_refl _) z511 (fun _ _ h=>(Nat.not_lt_zero _ h).elim) (fun i h h'=>(z512 h h'))
theorem insert_rising {xs:Array Nat} {j:Nat} (hr:Rising xs) (hn:xs[SetTable.below xs j]?≠some j):Rising (SetTable.insertAt xs (SetTable.below xs j) j):=by
 obtain ⟨h1,h2,h3⟩:=below_spec j hr
 have hr':=rising_iff.mp hr
 rw [rising_iff,SetTable.toList_insertAt]
 have hgt:∀ i (h:i < xs.size),SetTable.below xs j≤i→j < xs[i]:=fun i h hi=>by
  have:=h3 i h hi
  rcases Nat.lt_or_eq_of_le this with q | q
  ·exact q
  ·exfalso
   by_cases e:i = SetTable.below xs j
   ·subst e; exact hn (by rw [Array.getElem?_eq_getElem h,← q])
   ·obtain hb:SetTable.below xs j < xs.size:=(z26 h hi)
    obtain a1:=hr (SetTable.below xs j) i (z513 hi e) h
    obtain a2:=h3 _ hb (Nat.le_refl _)
    omega
 obtain lt1:∀ x ∈ xs.toList.take (SetTable.below xs j),x < j:=fun x hx=>by
  obtain ⟨i,hi⟩:=List.mem_iff_getElem?.mp hx
  obtain ⟨hl,e⟩:=List.getElem?_eq_some_iff.mp hi
  rw [List.length_take] at hl
  rw [List.getElem_take] at e
  have hs:i < xs.size:=by have:xs.toList.length = xs.size:=Array.length_toList; omega
  have:=h2 i hs (by omega)
  simpa [← e] using this
 have lt2:∀ x ∈ xs.toList.drop (SetTable.below xs j),j < x:=fun x hx=>by
  obtain ⟨i,hi⟩:=List.mem_iff_getElem?.mp hx
  obtain ⟨hl,e⟩:=List.getElem?_eq_some_iff.mp hi
  rw [List.length_drop] at hl
  rw [List.getElem_drop] at e
  have hs:SetTable.below xs j + i < xs.size:=by have:xs.toList.length = xs.size:=Array.length_toList; omega
  have:=hgt _ hs (by omega)
  simpa [← e] using this
 refine List.pairwise_append.mpr ⟨hr'.sublist (List.take_sublist ..),List.pairwise_cons.mpr ⟨lt2,hr'.sublist (List.drop_sublist ..)⟩,fun a ha b hb=>?_⟩
 rcases List.mem_cons.mp hb with rfl | hb
 ·exact lt1 a ha
 ·exact Nat.lt_trans (lt1 a ha) (lt2 b hb)
theorem has_none (j:Nat):SetTable.has #[] j = false:=rfl
theorem slot_nodummy {t:SetTable} (hd:t.dummies = #[]) {j:Nat}:(∃ i,t.slot j = .live i)∨(t.slot j = .empty∧t.place[SetTable.below t.place j]?≠some j):=by
 unfold SetTable.slot
 by_cases h:(t.place[SetTable.below t.place j]? == some j) = true
 ·rw [if_pos h]; exact .inl ⟨_,rfl⟩
 ·rw [if_neg h,hd,has_none]
  exact .inr ⟨rfl,fun q=>h (by rw [q]; simp)⟩
theorem adv_dummy (t:SetTable) (p:SetTable.Probe):(t.advance p).dummy = p.dummy:=by
 unfold SetTable.advance; split
 ·rfl
 ·rfl
theorem probe_empty {t:SetTable} (hd:t.dummies = #[]) {ha:Nat→Int} {h:Int}:∀ (fuel:Nat) (p:SetTable.Probe) {j:Nat} {d:Option Nat},p.dummy = none→SetTable.probe.go t ha h fuel p = some (.empty j d)→t.place[SetTable.below t.place j]?≠some j∧d = none
 | 0,p,j,d,_,h=>by cases h
 | fuel + 1,p,j,d,hp,h=>by
  unfold SetTable.probe.go at h
  rcases slot_nodummy hd (j:=p.j) with ⟨i,e⟩ | ⟨e,hn⟩
  ·rw [e] at h
   dsimp only at h
   split at h
   ·cases h
   ·exact probe_empty hd fuel _ (by rw [adv_dummy]; exact hp) h
  ·rw [e] at h
   dsimp only at h
   injection h with h
   injection h with h1 h2
   subst h1
   exact ⟨hn,by rw [← h2]; exact hp⟩
structure TOk (L:Bool) (t:SetTable) (n:Nat):Prop where
 fits:t.fits n = true
 nod:t.dummies = #[]
 led:t.led = L
 ris:t.plain = true→Rising t.place
theorem standIn_ok {L:Bool} {t:SetTable} (n:Nat) (hl:t.led = L):TOk L (t.standIn n) n:=⟨SetTable.standIn_fits ..,rfl,hl,fun h=>by cases h⟩
set_option tactic.hygienic true in
theorem layNew_ok {L:Bool} {t:SetTable} {es:Array (Int × Value)} (T:TOk L t es.size) (h:Int) (x:Value):TOk L (layNew t es h x).2.1 (layNew t es h x).1.size∧(layNew t es h x).2.2.1 = false:=by
 unfold layNew
 cases hf:t.freeSlot h with
 | none=>exact ⟨by rw [Array.size_push]; exact standIn_ok _ T.led,rfl⟩
 | some q =>
  refine lG ?_; intro G
  obtain ⟨slot,wd⟩:=q
  unfold SetTable.freeSlot at hf
  split at hf
  ·rename_i j d hp
   obtain ⟨hn,rfl⟩:=probe_empty T.nod _ _ rfl hp
   simp only [Option.getD_none,Option.isSome_none,Option.some.injEq,Prod.mk.injEq] at hf
   obtain ⟨rfl,rfl⟩:=hf
   refine ⟨?_,rfl⟩
   dsimp only
   unfold SetTable.orStandIn
   obtain e:((t.put j).1.dummies = #[]):=by
    unfold SetTable.put; dsimp only; rw [T.nod,has_none]; rfl
   split
   ·rename_i hfit
    exact ⟨hfit,e,T.led,fun hpl=>insert_rising (T.ris hpl) hn⟩
   ·exact standIn_ok _ T.led
  ·exact nn hf
theorem laid_rising {mask f m:Nat} {l p:Bool} {hs:Array Int} {t:SetTable} {o:Array Nat} (h:SetTable.laid mask f m l p hs = some (t,o)):Rising t.place∧t.dummies = #[]∧t.led = l∧t.plain = p:=by
 unfold SetTable.laid at h
 cases hl:SetTable.layClean mask hs with
 | none=>rw [hl] at h; exact nn h
 | some owner =>
  rw [hl] at h
  have h':some (({ mask,place:=(((List.range (mask + 1)).filterMap fun j=>(owner.getD j none).map (j,·)).map (·.1)).toArray,dummies:=#[],finger:=f,led:=l,moves:=m,plain:=p }:SetTable),(((List.range (mask + 1)).filterMap fun j=>(owner.getD j none).map (j,·)).map (·.2)).toArray) = some (t,o):=h
  injection h' with h'
  injection h' with h1 h2
  subst h1
  refine ⟨?_,rfl,rfl,rfl⟩
  rw [rising_iff]
  rw [List.pairwise_map,List.pairwise_filterMap]
  refine List.pairwise_lt_range.imp fun {a b} hab x hx y hy=>?_
  obtain ⟨_,_,rfl⟩:=Option.map_eq_some_iff.mp hx
  obtain ⟨_,_,rfl⟩:=Option.map_eq_some_iff.mp hy
  exact hab
set_option tactic.hygienic true in
theorem relayAll_ok {L:Bool} {t:SetTable} {es:Array (Int × Value)} (T:TOk L t es.size) (wanted:Nat):TOk L (relayAll t es wanted).2.1 (relayAll t es wanted).1.size:=by
 unfold relayAll
 split
 ·rename_i t' order hr
  obtain ⟨h1,h2,h3,h4⟩:=laid_rising hr
  dsimp only
  split
  ·rename_i hc
   exact ⟨(Bool.and_eq_true_iff.mp hc).2,h2,h3.trans T.led,fun _=>h1⟩
  ·exact standIn_ok _ T.led
 ·exact standIn_ok _ T.led
section
variable {prog:Program} {w:World} {K:Type} [DecidableEq K] {knd:PySem.KeyKind prog w K} {A:Around} {E:Value→Shared→Prop} {s:Shared} {L:Bool}
theorem setobj_put {es es':Array (Int × Value)} {ep:Nat} {t t':SetTable}:Obj.putSet es' t' (setObj es ep t) = setObj es' (ep + 1) t':=putSet_of es' t' rfl
theorem setobj_at {h:Heap} {a:Addr} {es es':Array (Int × Value)} {ep:Nat} {t t':SetTable} (hs:h.get? a = some (setObj es ep t)):(h.update a (Obj.putSet es' t')).get? a = some (setObj es' (ep + 1) t'):=by
 have:=Heap.get?_update_self (Obj.putSet es' t') hs (by rw [setobj_put]; rfl)
 rw [setobj_put] at this; exact this
theorem setAddTail {g:Bool→Sem Unit} (hg:∀ (b:Bool) (s₁:Shared) (Q':Unit→Shared→Prop),Q' () s₁→wpAny (model prog w) A (g b) Q' E s₁)
  {a:Addr} {es es1:Array (Int × Value)} {ep:Nat} {t t2:SetTable} (hs:s.heap.get? a = some (setObj es ep t)) (T:TOk L t2 es1.size) (hb1:es1.size < scanBound) {wasDummy:Bool} {R:Option Bool→Shared→Prop}
  (h:∀ es' t' ep' h',TOk L t' es'.size→es'.toList.Perm es1.toList→h'.get? a = some (setObj es' ep' t')→Heap.SameBut a s.heap h'→R (some true) { s with heap:=h' }) :
  wpAny (model prog w) A (do
    storeSet a es1 t2
    if (!wasDummy && t2.tooFull) = true then do
      g (relayAll t2 es1 (SetTable.grown es1.size)).2.2
      storeSet a (relayAll t2 es1 (SetTable.grown es1.size)).1 (relayAll t2 es1 (SetTable.grown es1.size)).2.1
      pure (some true)
     else pure (some true)) R E s:=by
 refine wpAny_bind (wpAny_storeSet_of hs rfl ?_ (fits_of_scanBound hb1))
 obtain ho1:=setobj_at (es':=es1) (t':=t2) hs
 obtain hsb1:=Heap.SameBut.update s.heap a (Obj.putSet es1 t2)
 split
 ·obtain hp:=relayAll_perm t2 es1 (SetTable.grown es1.size)
  obtain hT:=relayAll_ok T (SetTable.grown es1.size)
  generalize hRl:relayAll t2 es1 (SetTable.grown es1.size) = Rl at hp hT ⊢
  obtain ⟨es2,t3,gave2⟩:=Rl
  obtain hsz:es2.size = es1.size:=by rw [← Array.length_toList,hp.length_eq,Array.length_toList]
  obtain hb2:es2.size < scanBound:=by rw [hsz]; exact hb1
  refine wpAny_bind (hg _ _ _ ?_)
  refine wpAny_bind (wpAny_storeSet_of ho1 rfl ?_ (fits_of_scanBound hb2))
  exact wpAny_pure (h _ _ _ _ hT hp (setobj_at ho1) (hsb1.trans (Heap.SameBut.update _ a _)))
 ·exact wpAny_pure (h _ _ _ _ T (List.Perm.refl _) ho1 hsb1)
theorem setAddScan {a:Addr} {es:Array (Int × Value)} {ep:Nat} {t:SetTable} {k:K} {x:Value} {Q:Bool→Shared→Prop} (hkey:knd.is k x = true) (hsc:x.scannable = true) (hs:s.heap.get? a = some (setObj es ep t)) (T:TOk L t es.size)
  (hel:PySem.ElemsOf knd es.toList) (hb1:es.size + 1 < scanBound) (hpk:plainKind x = true)
  (h0:(∃ e ∈ es.toList,knd.is k e.2 = true)→Q false s)
  (h1:(∀ e ∈ es.toList,knd.is k e.2 = false)→∀ es' t' ep' h',TOk L t' es'.size→es'.toList.Perm (es.toList ++ [(knd.hash k,x)])→h'.get? a = some (setObj es' ep' t')→Heap.SameBut a s.heap h'→Q true { s with heap:=h' }) :
  wpAny (model prog w) A (setAddHashed a x (knd.hash k)) Q E s:=by
 obtain hb:es.size < scanBound:=(z514 hb1)
 unfold setAddHashed setAddHashedIn
 refine wpAny_holding (wpAny_bind (wpAny_setState_of hs rfl T.fits ?_))
 dsimp only
 rw [byScan_of hsc hb hel]
 simp only [↓reduceIte]
 unfold setAddByScan
 refine wpAny_bind ?_
 refine wpAny_bind (wpAny_rule ?_)
 refine wpAny_bind (wpAny_setScan_of hkey hs rfl T.fits hel ?_)
 cases hr:List.findIdx? (fun e=>knd.is k e.2) es.toList with
 | some j =>
  dsimp only
  obtain ⟨hj,hpj,_⟩:=List.findIdx?_eq_some_iff_getElem.mp hr
  exact wpAny_pure (wpAny_pure (h0 ⟨es.toList[j],List.getElem_mem hj,hpj⟩))
 | none =>
  dsimp only
  obtain hno:∀ e ∈ es.toList,knd.is k e.2 = false:=List.findIdx?_eq_none_iff.mp hr
  obtain hgw:∀ (b:Bool) {s₁:Shared} {Q':Unit→Shared→Prop},Q' () s₁→wpAny (model prog w) A (match b with | true=>rule "set.scan.the-table-gave-way" | false=>pure ()) Q' E s₁ :=
   fun b s₁ Q' hq=>by cases b <;> first | exact wpAny_pure hq | exact wpAny_rule hq
  obtain hperm:=layNew_perm t es (knd.hash k) x
  obtain hT:=(layNew_ok T (knd.hash k) x).1
  generalize hL:layNew t es (knd.hash k) x = LL at hperm hT ⊢
  obtain ⟨es1,t1,wasDummy,gave⟩:=LL
  dsimp only at hperm hT ⊢
  rw [Array.toList_push] at hperm
  obtain hb1':es1.size < scanBound:=by rw [← Array.length_toList,hperm.length_eq,List.length_append,Array.length_toList]; simpa using hb1
  refine wpAny_bind (hgw _ ?_)
  obtain hend:∀ es' t' ep' h',TOk L t' es'.size→es'.toList.Perm es1.toList→h'.get? a = some (setObj es' ep' t')→Heap.SameBut a s.heap h'→Q true { s with heap:=h' } :=
   fun es' t' ep' h' c1 c2 c3 c4=>h1 hno es' t' ep' h' c1 (c2.trans hperm) c3 c4
  split
  ·refine wpAny_bind ?_
   rw [hashByValue_scannable 8 hsc,hpk]
   refine wpAny_pure ?_
   refine setAddTail ?_ hs (t2:=t1) hT hb1' ?_
   ·intro b s₁ Q' hq; cases b <;> first | exact wpAny_pure hq | exact wpAny_rule hq
   ·intro es' t' ep' h' c1 c2 c3 c4; dsimp only; exact wpAny_pure (hend es' t' ep' h' c1 c2 c3 c4)
  ·refine wpAny_bind (wpAny_pure ?_)
   simp only [↓reduceIte]
   refine setAddTail ?_ hs (t2:=t1) hT hb1' ?_
   ·intro b s₁ Q' hq; cases b <;> first | exact wpAny_pure hq | exact wpAny_rule hq
   ·intro es' t' ep' h' c1 c2 c3 c4; dsimp only; exact wpAny_pure (hend es' t' ep' h' c1 c2 c3 c4)
end
end Mine
section
set_option maxRecDepth 100000
namespace Mine
section
variable {prog:Program} {w:World} {A:Around} {E:Value→Shared→Prop} {s:Shared}
theorem setUpdateLoop {R:Result→Shared→Prop} {I:Addr} {fp wr:List Addr} {G:Array GenState→Array GenState→Prop} {n:Nat} {P:Nat→Value→Prop} {St:Nat→Shared→Prop}
  (W:WalksS prog w A.in1 I fp wr G n P St) (S:Addr) (hSf:S ∉ fp) (Inv:Nat→Array (Int × Value)→SetTable→Prop) (s₀:Shared) (hnew:∀ b ∈ S :: wr,s₀.heap.get? b = none)
  (hadd:∀ i v (s:Shared) es ep t (Q:Bool→Shared→Prop) (E:Value→Shared→Prop),i < n→P i v→(∀ b o,s₀.heap.get? b = some o→s.heap.get? b = some o)→s.heap.get? S = some (setObj es ep t)→Inv i es t →
   (∀ es' t' ep' h' tk b,s.toks≤tk→Inv (i + 1) es' t'→h'.get? S = some (setObj es' ep' t')→Heap.SameBut S s.heap h'→Q b { s with heap:=h',toks:=tk })→wpAny (model prog w) A.in1 (setAdd S v) Q E s) :
  ∀ (k i:Nat) (s:Shared) (es:Array (Int × Value)) (ep:Nat) (t:SetTable),n - i = k→i≤n→St i s→(∀ b o,s₀.heap.get? b = some o→s.heap.get? b = some o) →
   s.heap.get? S = some (setObj es ep t)→Inv i es t →
   (∀ s' es' ep' t',Moved (S :: wr) G s s'→s'.heap.get? S = some (setObj es' ep' t')→Inv n es' t'→R (.ok (.ret .none)) s') →
   codeAny (model prog w) A (.builtin "set.update.loop" ⟨[.ref S,.ref I],[]⟩) R s:=by
 obtain hSw:S ∉ wr:=fun h=>hSf (W.sub _ h)
 obtain hsub:∀ b ∈ wr,b ∈ S :: wr:=fun b hb=>List.mem_cons_of_mem _ hb
 intro k
 induction k with
 | zero =>
  intro i s es ep t hk hi hst hB hS hI hR
  obtain hin:i = n:=(z515 hk hi)
  subst hin
  refine codeAny_builtin PyProof.Rows.F.entry_set_update_loop ?_
  rw [Around.under_plainId PyProof.Rows.F.plain_set_update_loop _]
  refine wpAny_bind (W.done s _ _ hst fun s' hm=>?_)
  exact wpAny_pure (hR s' es ep t (hm.mono hsub) (hm.heap S _ hSw hS) hI)
 | succ k ih =>
  intro i s es ep t hk hi hst hB hS hI hR
  obtain hlt:i < n:=(z516 hk)
  refine codeAny_builtin PyProof.Rows.F.entry_set_update_loop ?_
  rw [Around.under_plainId PyProof.Rows.F.plain_set_update_loop _]
  refine wpAny_bind (W.item i s _ _ hlt hst fun v s' hP hst' hm=>?_)
  obtain hS':=hm.heap S _ hSw hS
  obtain hB':∀ b o,s₀.heap.get? b = some o→s'.heap.get? b = some o:=fun b o e=>hm.heap b o (fun hb=>by rw [hnew b (hsub b hb)] at e; exact nn e) (hB b o e)
  refine wpAny_bind (wpAny_holding ?_)
  refine hadd i v s' es ep t _ _ hlt hP hB' hS' hI fun es' t' ep' h' tk b htk hI' hS2 hsb=>?_
  refine wpAny_pure ⟨plainId_quiet PyProof.Rows.F.plain_set_update_loop _,ih (i + 1) _ es' ep' t' (z517 hk) hlt (W.frame _ s' _ _ hst' htk fun b hb o e=>?_) (fun b o e=>?_) hS2 hI' fun s'' es'' ep'' t'' hm'' hS'' hI''=>?_⟩
  ·rw [hsb.2 b (fun h:b = S=>hSf (by rw [← h]; exact hb))]; exact e
  ·rw [hsb.2 b (fun h:b = S=>by subst h; rw [hnew b (List.mem_cons_self ..)] at e; exact nn e)]; exact hB' b o e
  ·refine hR s'' es'' ep'' t'' (Moved.trans W.gtrans ((hm.mono hsub).then_heap htk fun b o hb e=>?_) hm'') hS'' hI''
   rw [hsb.2 b (fun h:b = S=>hb (by rw [h]; exact List.mem_cons_self))]; exact e
def ledOf (w:World):Bool:=!(w.params.followText "set-order")
theorem code_set_new_led (a:Value) {Q₁:Value→Shared→Prop}
  (h:Q₁ (.ref s.heap.objs.size) { s with heap:=s.heap.push (setObj #[] 0 (.fresh 0 0 (ledOf w))) }) :
  codeAny (model prog w) A (.call (.builtin "set.__new__") ⟨[.type "set",a],[]⟩) (wants Q₁ E) s:=by
 refine codeAny_of_tree ?_
 show wpAny _ A.in1 (do checkBuiltinCall "set.__new__" ⟨[.type "set",a],[]⟩; again (.builtin "set.__new__" ⟨[.type "set",a],[]⟩)) _ _ s
 refine wpAny_bind (wpAny_of_eq (PySem.F.newCall_set_1 a) (wpAny_pure ⟨plainId_quiet PySem.F.plain_set_new _,codeAny_builtin PySem.F.entry_set_new ?_⟩))
 rw [Around.under_plainId PySem.F.plain_set_new _]
 obtain hsub:=PySem.sub_set_self
 obtain ⟨hp,g,d,tk,os⟩:=s
 wp_walk
 refine wpAny_askSetting (wpAny_pure ?_)
 refine wpAny_bind (wpAny_alloc (wpAny_pure ?_))
 exact wpAny_pure h
end
end Mine
end
section
set_option maxRecDepth 100000
namespace Mine
section
variable {prog:Program} {w:World} {A:Around} {E:Value→Shared→Prop} {s:Shared}
set_option maxHeartbeats 3200000 in
theorem callSetGen {l:Addr} {items:Array Value} {Q:Value→Shared→Prop} (hh:A.handled = none) (hl:s.heap.IsList l items) (Inv:Nat→Array (Int × Value)→SetTable→Prop) (h00:Inv 0 #[] (.fresh 0 0 (ledOf w)))
  (hadd:∀ (A':Around) S i v (s':Shared) es ep t (Q:Bool→Shared→Prop) (E:Value→Shared→Prop),A'.handled = none→A'.units≤A.units + 10→items[i]? = some v→(∀ b o,s.heap.get? b = some o→s'.heap.get? b = some o)→s.heap.get? S = none→s'.heap.get? S = some (setObj es ep t)→Inv i es t →
   (∀ es' t' ep' h' tk b,s'.toks≤tk→Inv (i + 1) es' t'→h'.get? S = some (setObj es' ep' t')→Heap.SameBut S s'.heap h'→Q b { s' with heap:=h',toks:=tk })→wpAny (model prog w) A' (setAdd S v) Q E s')
  (h:∀ h' tk es ep t,Inv items.size es t→h'.get? s.heap.objs.size = some (setObj es ep t)→(∀ b o,s.heap.get? b = some o→h'.get? b = some o)→Q (.ref s.heap.objs.size) { s with heap:=h',toks:=tk }) :
  wpAny (model prog w) A (call (.type "set") [.ref l]) Q E s:=by
 obtain ⟨c,tl,hmro⟩:=PySem.F.called_set.mro
 obtain hmade:=PySem.F.called_set.made
 obtain hsub:=PySem.F.called_set.sub
 refine wpAny_call (codeAny_of_tree ?_)
 show wpAny _ _ (callAny (.type "set") _) _ _ _
 refine wpAny_pure ⟨Code.quiet_builtin _ (by decide +kernel),codeAny_builtin PySem.F.entry_type_call ?_⟩
 rw [Around.under_plain (weight_type_call_type "set" [.ref l] []) rfl]
 obtain h1:=PySem.F.called_set.notType
 obtain h2:=PySem.F.called_set.canCreate
 obtain hct:=PySem.F.typeCall_set_1 (.ref l)
 repeat (any_goals (first | assumption | wp_step))
 refine codeAny_mono (code_set_new_led (.ref l) (E:=E) (Q₁:=fun obj s₁=>obj = .ref s.heap.objs.size∧s₁ = { s with heap:=s.heap.push (setObj #[] 0 (.fresh 0 0 (ledOf w))) }) ⟨rfl,rfl⟩) fun r s₁ hr=>?_
 cases r with
 | error e=>exact hr
 | ok fl =>
  cases fl with
  | ret obj =>
   obtain ⟨rfl,rfl⟩:=hr
   obtain hS:(s.heap.push (setObj #[] 0 (.fresh 0 0 (ledOf w)))).get? s.heap.objs.size = some (setObj #[] 0 (.fresh 0 0 (ledOf w))):=Heap.get?_push_size _ rfl
   obtain hT:Shared.TypeIs { s with heap:=s.heap.push (setObj #[] 0 (.fresh 0 0 (ledOf w))) } (.ref s.heap.objs.size) "set":=⟨_,hS,rfl⟩
   obtain hli:=PySem.F.called_set.init.lookup
   obtain hbi:=PySem.F.called_set.init.bind (.ref s.heap.objs.size)
   repeat (any_goals (first | assumption | wp_step))
   refine codeAny_mono (codeAny_call_builtin (R:=wants (fun r s₂=>r = .none∧(X5 fun h' tk es ep t=>N4 (s₂ = { s with heap:=h',toks:=tk }) (Inv items.size es t) (h'.get? s.heap.objs.size = some (setObj es ep t)) ((∀ b o,s.heap.get? b = some o→h'.get? b = some o)))) E) PySem.F.called_set.init.plain PySem.F.entry_set_init (PySem.check_set_init_1 hT ?_)) fun r₂ s₂ hr₂=>?_
   ·obtain ⟨ol,hol,hcl,nl,hdl⟩:=hl
    obtain ⟨ocls,odict,odata,oslots⟩:=ol
    simp only at hcl hdl
    subst hcl; subst hdl
    obtain hol':(s.heap.push (setObj #[] 0 (.fresh 0 0 (ledOf w)))).get? l = some { cls:=.type "list",dict:=odict,data:=.seq items nl,slots:=oslots }:=Heap.get?_push_of_some _ hol
    obtain hsls:=PySem.F.sub_list_set
    obtain hslf:=PySem.F.sub_list_frozenset
    obtain hne:(Value.type "list" == Value.type "dict") = false:=by decide
    obtain hl1:(s.heap.push (setObj #[] 0 (.fresh 0 0 (ledOf w)))).IsList l items:=⟨_,hol',rfl,nl,rfl⟩
    unfold Builtin.«set.__init__» noKeywords Builtin.Frozenset.updateFrom
    generalize hPI:pyIter = PI
    wp_walk
    subst hPI
    refine wpAny_pyIter_list hl1 ?_
    refine wpAny_bind (wpAny_runValue ?_)
    obtain hlS:l < s.heap.objs.size:=Heap.lt_size hol
    obtain hh3:A.in1.in1.in1.handled = none:=by simp [hh]
    obtain hneI:l≠(s.heap.push (setObj #[] 0 (.fresh 0 0 (ledOf w)))).objs.size:=by
     rw [Heap.size_push]; exact Nat.ne_of_lt (Nat.lt_succ_of_lt hlS)
    obtain hSf:s.heap.objs.size ∉ [(s.heap.push (setObj #[] 0 (.fresh 0 0 (ledOf w)))).objs.size,l]:=by
     rw [Heap.size_push]; simp only [List.mem_cons,List.mem_singleton,List.not_mem_nil,or_false,not_or]
     exact ⟨Nat.ne_of_lt (Nat.lt_succ_self _),Nat.ne_of_gt hlS⟩
    obtain hn0:s.heap.get? s.heap.objs.size = none:=none_of (Nat.le_refl _)
    obtain hn1:s.heap.get? (s.heap.push (setObj #[] 0 (.fresh 0 0 (ledOf w)))).objs.size = none:=by rw [Heap.size_push]; exact none_of (Nat.le_succ _)
    refine setUpdateLoop ((Walks.list hh3 _ l hneI items).toS) s.heap.objs.size hSf Inv s (fun b hb=>?_)
     (fun i v s' es ep t Q E hi hP hB hs hI hQ=>hadd _ s.heap.objs.size i v s' es ep t Q E (by simp [hh]) (by simp) hP hB hn0 hs hI hQ) (items.size - 0) 0 _ #[] 0 _ z518 (Nat.zero_le _)
     ⟨⟨_,Heap.get?_push_size _ rfl,rfl,rfl⟩,(hl1.push _)⟩ (fun b o e=>Heap.get?_push_of_some _ (Heap.get?_push_of_some _ e)) (Heap.get?_push_of_some _ hS) h00 ?hR
    case hR =>
     intro s' es ep t hm hS' hI'
     obtain ⟨h',g',d',tk',os'⟩:=s'
     obtain eg:g' = s.gens:=hm.gens
     obtain ed:d' = s.drawn:=hm.drawn
     obtain eo:os' = s.os:=hm.os
     subst eg; subst ed; subst eo
     show wpAny _ _ _ _ _ _
     refine wpAny_pure ?_
     show wpAny _ _ (ret Value.none) _ _ _
     refine wpAny_pure ⟨rfl,h',tk',es,ep,t,rfl,hI',hS',fun b o e=>?_⟩
     obtain hb:b < s.heap.objs.size:=Heap.lt_size e
     obtain hb1:b≠s.heap.objs.size:=Nat.ne_of_lt hb
     obtain hb2:b≠(s.heap.push (setObj #[] 0 (.fresh 0 0 (ledOf w)))).objs.size:=by
      rw [Heap.size_push]; exact Nat.ne_of_lt (Nat.lt_succ_of_lt hb)
     exact hm.heap b o (by simp only [List.mem_cons,List.mem_singleton,List.not_mem_nil,or_false,not_or]; exact ⟨hb1,hb2⟩) (Heap.get?_push_of_some _ (Heap.get?_push_of_some _ e))
    ·rcases List.mem_cons.mp hb with rfl | hb
     ·exact hn0
     ·rw [List.mem_singleton.mp hb]; exact hn1
   ·cases r₂ with
    | error e=>exact hr₂
    | ok fl₂ =>
     cases fl₂ with
     | ret r =>
      obtain ⟨rfl,h',tk,es,ep,t,rfl,hI',hS',hk'⟩:=hr₂
      repeat (any_goals (first | assumption | wp_step))
      exact h _ _ _ _ _ hI' hS' hk'
     | _=>exact hr₂.elim
  | _=>exact hr.elim
end
end Mine
end
namespace Mine
theorem All2.perm {α β:Type} {R:α→β→Prop} {ys ys':List β} (hp:ys'.Perm ys):∀ {xs:List α},All2 R xs ys→∃ xs',xs'.Perm xs∧All2 R xs' ys':=by
 induction hp with
 | nil=>intro xs h; cases h; exact ⟨[],.refl _,.nil⟩
 | cons y _ ih=>intro xs h; cases h with
  | cons h1 h2=>obtain ⟨xs',p,q⟩:=ih h2; exact ⟨_ :: xs',p.cons _,.cons h1 q⟩
 | swap a b l=>intro xs h; cases h with
  | cons h1 h2=>cases h2 with
   | cons h3 h4=>exact ⟨_,.swap ..,.cons h3 (.cons h1 h4)⟩
 | trans _ _ ih1 ih2=>intro xs h; obtain ⟨xs',p,q⟩:=ih2 h; obtain ⟨xs'',p',q'⟩:=ih1 q; exact ⟨xs'',p'.trans p,q'⟩
def IsSet (P:Par) (o:Obj) (vs:List Value):Prop:=(X3 fun es ep t=>N3 (o = setObj es ep t) (es.toList.map (·.2) = vs) (TOk (ledOf P.w) t es.size))
section
variable {P:Par} {A:Around} {env:Env} {W:List Addr} {α β:Type} {σ σ':Store} {m:Vars}
theorem nodup_sub_len':∀ {us ns:List Nat},us.Nodup→(∀ x ∈ us,x ∈ ns)→us.length≤ns.length
 | [],_,_,_=>Nat.zero_le _
 | x :: us,ns,hn,hs=>by
  obtain ⟨h1,h2⟩:=List.nodup_cons.mp hn
  have hx:=hs x (.head _)
  have:=nodup_sub_len' (us:=us) (ns:=ns.erase x) h2 fun y hy=>(List.mem_erase_of_ne (fun q:y = x=>h1 (q ▸ hy))).mpr (hs y (.tail _ hy))
  rw [List.length_erase_of_mem hx] at this
  have:=List.length_pos_of_mem hx
  rw [List.length_cons]; omega
def NsInv (w:World) (ns:List Nat) (i:Nat) (es:Array (Int × Value)) (t:SetTable):Prop :=
 TOk (ledOf w) t es.size∧(∃ us:List Nat,N3 (All2 (fun (n:Nat) (e:Int × Value)=>∃ tk,e = (hashInt (n:Int),.int (n:Int) tk)) us es.toList) (us.Nodup) (∀ x,x ∈ us ↔ x ∈ ns.take i))
theorem oSetNs {l:Addr} {vs:List Value} {ns:List Nat} {n:Nat} {Q:Value→Store→Prop} (hR:Rm A 4) (e:σ l = some (lst vs n)) (hN:Ns vs ns) (hz:ns.length≤1000)
  (h:∀ a o us uv,σ a = none→IsSet P o uv→Ns uv us→us.Nodup→(∀ x,x ∈ us ↔ x ∈ ns)→Q (.ref a) (σ.set a o)):Op P A (call (.type "set") [.ref l]) σ Q:=fun s G=>by
 refine callSetGen hR.handled (isList_of (G.has _ _ e)) (NsInv P.w ns) ⟨⟨rfl,rfl,rfl,fun _ i k _ hk=>(Nat.not_lt_zero _ hk).elim⟩,[],.nil,List.nodup_nil,by simp⟩ ?_ ?_
 ·intro A' S i v s' es ep t Q E hh' hu' hv hB hS0 hS hI hQ
  obtain ⟨T,us,h2,hnd,hmem⟩:=hI
  obtain ⟨k,tk,hk,rfl⟩:=hN.of (by simpa using hv:vs[i]? = some v)
  obtain hil:i < ns.length:=(List.getElem?_eq_some_iff.mp hk).1
  obtain hel:PySem.ElemsOf (intKind P.prog P.w) es.toList:=fun e he=>by
   refine lG ?_; intro G
   obtain ⟨j,hj⟩:=List.mem_iff_getElem?.mp he
   refine lG ?_; intro G
   obtain ⟨x,_,t',rfl⟩:=h2.get' hj
   exact ⟨⟨(x:Int),intKind_is _ _ _ _,rfl⟩,rfl⟩
  obtain hul:us.length≤ns.length:=by
   have:=nodup_sub_len' hnd (fun x hx=>List.mem_of_mem_take ((hmem x).mp hx))
   exact this
  obtain hel2:es.toList.length = us.length:=h2.length.symm
  refine wpAny_holding (wpAny_bind ((intKind P.prog P.w).pyHash (k:=(k:Int)) (intKind_is _ _ _ _) ?_))
  refine setAddScan (knd:=intKind P.prog P.w) (k:=(k:Int)) (s:={ s' with toks:=s'.toks + 1 }) (L:=ledOf P.w) (intKind_is _ _ _ _) rfl hS T hel (by rw [Array.length_toList] at hel2; exact z519 hz hul hel2) rfl ?_ ?_
  ·rintro ⟨e',he',hk'⟩
   obtain e1:s' = { s' with heap:=s'.heap }:=by cases s'; rfl
   refine hQ es t ep s'.heap (s'.toks + 1) false (Nat.le_succ _) ⟨T,us,h2,hnd,fun x=>?_⟩ hS (Heap.SameBut.refl ..)
   rw [List.take_add_one,hk,hmem]
   simp only [Option.toList_some,List.mem_append,List.mem_singleton]
   refine ⟨.inl,fun q=>q.elim id fun q=>?_⟩
   subst q
   obtain ⟨j,hj⟩:=List.mem_iff_getElem?.mp he'
   obtain ⟨y,hy,t',rfl⟩:=h2.get' hj
   have:(y:Int) = (x:Int):=by
    have:=hk'
    simpa [intKind,Value.isInt] using this
   rw [← Int.ofNat.inj this]
   exact (hmem y).mp (List.mem_of_getElem? hy)
  ·intro hno es' t' ep' h' T' hp hs' hsb
   refine hQ es' t' ep' h' (s'.toks + 1) true (Nat.le_succ _) ⟨T',?_⟩ hs' hsb
   obtain h3:All2 (fun (n:Nat) (e:Int × Value)=>∃ tk,e = (hashInt (n:Int),.int (n:Int) tk)) (us ++ [k]) (es.toList ++ [((intKind P.prog P.w).hash (k:Int),.int (k:Int) tk)]):=h2.append (.cons ⟨tk,rfl⟩ .nil)
   obtain ⟨us',p',h4⟩:=All2.perm hp h3
   refine ⟨us',h4,p'.symm.nodup (List.nodup_append.mpr ⟨hnd,by simp,fun x hx y hy=>?_⟩),fun x=>?_⟩
   ·rw [List.mem_singleton] at hy; subst hy
    rintro rfl
    obtain ⟨j,hj⟩:=List.mem_iff_getElem?.mp hx
    obtain ⟨e',he',t'',rfl⟩:=h2.get hj
    have:=hno _ (List.mem_of_getElem? he')
    rw [intKind_is] at this; cases this
   ·rw [p'.mem_iff,List.take_add_one,hk,List.mem_append,hmem]
    simp
 ·intro h' tk es ep t ⟨T,us,h2,hnd,hmem⟩ hs hk
  obtain nn:=none_of (h:=s.heap) (Nat.le_refl _)
  obtain hvs:vs.toArray.size = ns.length:=by simpa using hN.length
  refine ⟨_,h _ (setObj es ep t) us (es.toList.map (·.2)) (σnone G nn) ⟨es,ep,t,rfl,rfl,T⟩ ?_ hnd (fun x=>?_),Tr.grown G hk nn hs tk (big_of G.base)⟩
  ·rw [Ns.all2]
   obtain gen:∀ {us:List Nat} {l:List (Int × Value)},All2 (fun (n:Nat) (e:Int × Value)=>∃ tk,e = (hashInt (n:Int),.int (n:Int) tk)) us l→All2 (fun n v=>∃ t,v = .int (n:Nat) t) us (l.map (·.2)):=fun {us l} q=>by
    induction q with
    | nil=>exact .nil
    | cons hr _ ih=>obtain ⟨tk,rfl⟩:=hr; exact .cons ⟨tk,rfl⟩ ih
   exact gen h2
  ·rw [hmem,hvs,List.take_length]
end
end Mine
section
set_option maxRecDepth 100000
namespace Mine
theorem erase_perm {α:Type}:∀ {l:List α} {i:Nat} (h:i < l.length),(l[i] :: l.eraseIdx i).Perm l
 | x :: l,0,h=>.refl _
 | x :: l,i + 1,h=>by
  exact (List.Perm.swap ..).trans ((erase_perm (l:=l) (i:=i) (by simpa using h)).cons x)
theorem pick_go {α:Type} (next:Nat→Nat):∀ (fuel k:Nat) (left:List α) (out:Array α),left.length = fuel→(pickOrder.go next fuel k left out).toList.Perm (out.toList ++ left)
 | 0,k,left,out,h=>by
  have:left = []:=List.eq_nil_of_length_eq_zero h
  subst this
  unfold pickOrder.go; simp
 | fuel + 1,k,left,out,h=>by
  unfold pickOrder.go
  have hp:0 < left.length:=(z520 h)
  have hi:next k % left.length < left.length:=Nat.mod_lt _ hp
  rw [List.getElem?_eq_getElem hi]
  have ih:=pick_go next fuel (k + 1) (left.eraseIdx (next k % left.length)) (out.push left[next k % left.length]) (by rw [List.length_eraseIdx_of_lt hi]; exact z521 h)
  refine ih.trans ?_
  rw [Array.toList_push,List.append_assoc]
  exact (List.Perm.refl _).append (erase_perm hi)
theorem pick_perm {α:Type} (next:Nat→Nat) (xs:Array α):(pickOrder next xs).toList.Perm xs.toList:=by
 have:=pick_go next xs.size 0 xs.toList #[] (by simp)
 simpa [pickOrder] using this
section
variable {prog:Program} {w:World} {A:Around} {E:Value→Shared→Prop} {s:Shared} {a:Addr} {es:Array (Int × Value)} {ep:Nat} {t:SetTable}
theorem choose_of {M:Model} {src:Source} {n:Nat} {Q:Nat→Shared→Prop} (hn:n≠0) (h:∀ i dr,i < n→Q i { s with drawn:=dr }):wpAny M A (choose src n) Q E s:=fun Γ p _=>by
 exact ⟨hn,h _ _ (Nat.mod_lt _ (Nat.pos_of_ne_zero hn))⟩
theorem drawOrder_of {M:Model} {α:Type}:∀ (n:Nat) (xs:List α) {s:Shared} {Q:List α→Shared→Prop},xs.length = n→(∀ ys dr,ys.Perm xs→Q ys { s with drawn:=dr })→wpAny M A (drawOrder n xs) Q E s
 | 0,xs,s,Q,h,hQ=>by
  have:xs = []:=List.eq_nil_of_length_eq_zero h
  subst this
  exact wpAny_pure (hQ [] s.drawn (.refl _))
 | n + 1,[],s,Q,h,hQ=>by cases h
 | n + 1,x :: xs,s,Q,h,hQ=>by
  refine wpAny_bind (choose_of (by simp) fun i dr hi=>?_)
  rw [List.getElem?_eq_getElem hi]
  refine wpAny_bind (drawOrder_of n _ (by rw [List.length_eraseIdx_of_lt hi]; simpa using h) fun ys dr' hp=>?_)
  exact wpAny_pure (hQ _ _ ((hp.cons _).trans (erase_perm hi)))
theorem setDrawn_of {Q:Bool→Shared→Prop} (hs:s.heap.get? a = some (setObj es ep t)) (hf:t.fits es.size = true) (h:Q (!(w.params.followText "set-order") && (!t.plain && decide (es.size > 1))) s):wpAny (model prog w) A (setDrawn a) Q E s:=by
 refine wpAny_bind (wpAny_setState_of hs rfl hf ?_)
 refine wpAny_bind (wpAny_bind (wpAny_askSetting (wpAny_pure ?_)))
 exact wpAny_pure h
theorem setNext_text {slot i:Nat} {Q:Option (Value × Nat)→Shared→Prop} (hft:w.params.followText "set-order" = true) (hs:s.heap.get? a = some (setObj es ep t)) (hf:t.fits es.size = true)
  (h:Q (((pickOrder (w.params.setOrder a ep) es)[i]?).map fun e=>(e.2,slot)) s):wpAny (model prog w) A (setNext a slot i ep) Q E s:=by
 refine wpAny_bind (wpAny_setState_of hs rfl hf ?_)
 refine wpAny_bind (wpAny_bind (wpAny_askSetting (wpAny_pure ?_)))
 refine wpAny_ite_split (fun _=>?_) (fun hc=>absurd hft hc)
 rw [if_neg (by simp)]
 refine wpAny_bind (wpAny_bind (wpAny_setState_of hs rfl hf ?_))
 refine wpAny_bind (wpAny_bind (wpAny_askSetting (wpAny_pure ?_)))
 refine wpAny_ite_split (fun _=>?_) (fun hc=>absurd hft hc)
 refine wpAny_bind (wpAny_askSetting (wpAny_pure ?_))
 exact wpAny_pure h
theorem setNext_led {slot i:Nat} {Q:Option (Value × Nat)→Shared→Prop} (hft:w.params.followText "set-order" = false) (hs:s.heap.get? a = some (setObj es ep t)) (hf:t.fits es.size = true) (hl:t.led = true) (hd:(!t.plain && decide (es.size > 1)) = false)
  (h:Q (match es[SetTable.below t.place slot]?,t.place[SetTable.below t.place slot]? with | some (_,x),some j=>some (x,j + 1) | _,_=>none) s):wpAny (model prog w) A (setNext a slot i ep) Q E s:=by
 refine wpAny_bind (wpAny_setState_of hs rfl hf ?_)
 refine wpAny_bind (wpAny_bind (wpAny_askSetting (wpAny_pure ?_)))
 refine wpAny_ite_split (fun hc=>by have hc':w.params.followText "set-order" = true:=hc; rw [hft] at hc'; cases hc') (fun _=>?_)
 refine wpAny_ite_split (fun hc=>?_) (fun _=>?_)
 ·have:(!t.plain && decide (es.size > 1)) = true:=hc
  rw [hd] at this; cases this
 ·refine wpAny_bind ?_
  show wpAny _ _ (if (!t.led && !es.isEmpty) = true then unsupported "set:maker-not-led" else pure ()) _ _ _
  rw [if_neg (by rw [hl]; simp)]
  exact wpAny_pure (wpAny_pure h)
end
end Mine
end
section
set_option maxRecDepth 100000
namespace Mine
def slotAt (xs:Array Nat):Nat→Nat
 | 0=>0
 | i + 1=>xs.getD i 0 + 1
theorem below_at {xs:Array Nat} (hr:Rising xs):∀ {i:Nat},i≤xs.size→SetTable.below xs (slotAt xs i) = i:=by
 intro i hi
 obtain ⟨h1,h2,h3⟩:=below_spec (slotAt xs i) hr
 generalize SetTable.below xs (slotAt xs i) = b at *
 rcases Nat.lt_trichotomy b i with q | q | q
 ·exfalso
  cases i with
  | zero=>exact z522 q
  | succ i =>
   have hb:b < xs.size:=(z523 hi q)
   have:=h3 b hb (Nat.le_refl _)
   have e:slotAt xs (i + 1) = xs[i] + 1:=by show xs.getD i 0 + 1 = _; simp [show i < xs.size by exact z333 hi]
   rw [e] at this
   by_cases q2:b = i
   ·subst q2; omega
   ·have:=hr b i (z46 q q2) (z333 hi); omega
 ·exact q
 ·exfalso
  obtain hs:i < xs.size:=(z524 h1 q)
  have:=h2 i hs q
  cases i with
  | zero=>exact Nat.not_lt_zero _ this
  | succ i =>
   obtain e:slotAt xs (i + 1) = xs[i] + 1:=by show xs.getD i 0 + 1 = _; simp [show i < xs.size by exact z514 hs]
   rw [e] at this
   have:=hr i (i + 1) z86 hs; omega
section
variable {prog:Program} {w:World} {A:Around} {E:Value→Shared→Prop} {s:Shared} {a I:Addr} {es:Array (Int × Value)} {ep:Nat} {t:SetTable}
theorem fits_size {n:Nat} (h:t.fits n = true):t.place.size = n:=by
 simp only [SetTable.fits,Bool.and_eq_true,beq_iff_eq] at h; exact h.1
theorem walks_text (hh:A.handled = none) (hne:a≠I) (hft:w.params.followText "set-order" = true) (hf:t.fits es.size = true) :
  Walks prog w A I [I,a] [I] es.size (fun i v=>((pickOrder (w.params.setOrder a ep) es).toList.map (·.2))[i]? = some v) (fun i h=>SetIt h I a (.int ((0:Nat):Int) 0) i es.size ep∧h.get? a = some (setObj es ep t)) where
 sub:=fun b hb=>by simp at hb; simp [hb]
 frame:=fun _ _ _ st hk=>⟨st.1.at fun o e=>hk I (by simp) o e,hk a (by simp) _ st.2⟩
 item:=fun i s Q E hi st hQ=>by
  have hl:(pickOrder (w.params.setOrder a ep) es).toList.length = es.size:=by rw [(pick_perm _ _).length_eq,Array.length_toList]
  have hi':i < (pickOrder (w.params.setOrder a ep) es).size:=by rw [← Array.length_toList,hl]; exact hi
  refine setit_item (slot:=0) (next:=0) (x:=(pickOrder (w.params.setOrder a ep) es)[i].2) st.1 st.2 hf rfl (fun A E Q hq=>setNext_text hft st.2 hf ?_) fun h' hit hsb=>?_
  ·rw [Array.getElem?_eq_getElem hi']; exact hq
  ·refine hQ _ h' s.toks ?_ ⟨hit,(hsb.2 a hne).trans st.2⟩ fun b o hb e=>(hsb.2 b (fun q=>hb (by simp [q]))).trans e
   rw [List.getElem?_map,Array.getElem?_toList,Array.getElem?_eq_getElem hi']; rfl
 done:=fun s Q E st hQ=>by
  have hl:(pickOrder (w.params.setOrder a ep) es).size = es.size:=by rw [← Array.length_toList,(pick_perm _ _).length_eq,Array.length_toList]
  refine setit_end hh st.1 st.2 hf rfl (fun A E Q hq=>setNext_text hft st.2 hf ?_) fun h' he=>hQ h' s.toks fun b o hb e=>he b o (fun q=>hb (by simp [q])) e
  rw [Array.getElem?_eq_none (z85 hl)]; exact hq
 self:=fun i s Q E st hQ=>setit_self st.1 hQ
theorem walks_led (hh:A.handled = none) (hne:a≠I) (hft:w.params.followText "set-order" = false) (hf:t.fits es.size = true) (hl:t.led = true) (hd:(!t.plain && decide (es.size > 1)) = false) (hr:Rising t.place) :
  Walks prog w A I [I,a] [I] es.size (fun i v=>(es.toList.map (·.2))[i]? = some v) (fun i h=>SetIt h I a (.int (slotAt t.place i:Nat) 0) i es.size ep∧h.get? a = some (setObj es ep t)) where
 sub:=fun b hb=>by simp at hb; simp [hb]
 frame:=fun _ _ _ st hk=>⟨st.1.at fun o e=>hk I (by simp) o e,hk a (by simp) _ st.2⟩
 item:=fun i s Q E hi st hQ=>by
  obtain hps:=fits_size hf
  obtain hb:=below_at hr (i:=i) (z525 hi hps)
  obtain hpi:t.place[i]? = some (t.place.getD i 0):=by simp [show i < t.place.size by exact z328 hi hps]
  refine setit_item (slot:=slotAt t.place i) (next:=slotAt t.place (i + 1)) (x:=es[i].2) st.1 st.2 hf rfl (fun A E Q hq=>setNext_led hft st.2 hf hl hd ?_) fun h' hit hsb=>?_
  ·rw [hb,Array.getElem?_eq_getElem hi,hpi]; exact hq
  ·refine hQ _ h' s.toks ?_ ⟨hit,(hsb.2 a hne).trans st.2⟩ fun b o hb e=>(hsb.2 b (fun q=>hb (by simp [q]))).trans e
   rw [List.getElem?_map,Array.getElem?_toList,Array.getElem?_eq_getElem hi]; rfl
 done:=fun s Q E st hQ=>by
  obtain hps:=fits_size hf
  obtain hb:=below_at hr (i:=es.size) (z526 hps)
  refine setit_end hh st.1 st.2 hf rfl (fun A E Q hq=>setNext_led hft st.2 hf hl hd ?_) fun h' he=>hQ h' s.toks fun b o hb e=>he b o (fun q=>hb (by simp [q])) e
  rw [hb,Array.getElem?_eq_none (Nat.le_refl _)]; exact hq
 self:=fun i s Q E st hQ=>setit_self st.1 hQ
def valAt (es:Array (Int × Value)) (p:Nat):Value:=(es[p]?.map (·.2)).getD .none
theorem valAt_all (es:Array (Int × Value)):(List.range es.size).map (valAt es) = es.toList.map (·.2):=by
 apply List.ext_getElem?
 intro i
 rw [List.getElem?_map,List.getElem?_map]
 by_cases h:i < es.size
 ·rw [List.getElem?_range h,List.getElem?_eq_getElem (l:=es.toList) (by simpa using h)]
  simp [valAt,h]
 ·rw [List.getElem?_eq_none (l:=List.range es.size) (by simp; exact z82 h),List.getElem?_eq_none (l:=es.toList) (by simp; exact z82 h)]; rfl
theorem walks_drawn {T:Addr} {ys:List Nat} (hh:A.handled = none) (hne:a≠I) (hne2:T≠I) (hf:t.fits es.size = true) (hp:ys.Perm (List.range es.size)) :
  Walks prog w A I [I,T,a] [I] es.size (fun i v=>(ys.map (valAt es))[i]? = some v) (fun i h=>SetIt h I a (.ref T) i es.size ep∧h.get? T = some (tup (ys.map fun (i:Nat)=>rawInt i) 0)∧h.get? a = some (setObj es ep t)) where
 sub:=fun b hb=>by simp at hb; simp [hb]
 frame:=fun _ _ _ st hk=>⟨st.1.at fun o e=>hk I (by simp) o e,hk T (by simp) _ st.2.1,hk a (by simp) _ st.2.2⟩
 item:=fun i s Q E hi st hQ=>by
  have hl:ys.length = es.size:=by rw [hp.length_eq,List.length_range]
  have hi':i < ys.length:=(z328 hi hl)
  have hpi:ys[i] < es.size:=List.mem_range.mp (hp.mem_iff.mp (List.getElem_mem hi'))
  refine setit_drawn (p:=ys[i]) (tk:=0) (y:=es[ys[i]]) st.1 st.2.1 st.2.2 hf rfl ?_ (Array.getElem?_eq_getElem hpi) fun h' hit hsb=>?_
  ·rw [List.getElem?_map,List.getElem?_eq_getElem hi']; rfl
  ·refine hQ _ h' s.toks ?_ ⟨hit,(hsb.2 T hne2).trans st.2.1,(hsb.2 a hne).trans st.2.2⟩ fun b o hb e=>(hsb.2 b (fun q=>hb (by simp [q]))).trans e
   rw [List.getElem?_map,List.getElem?_eq_getElem hi']
   show some (valAt es ys[i]) = _
   unfold valAt; rw [Array.getElem?_eq_getElem hpi]; rfl
 done:=fun s Q E st hQ=>by
  have hl:ys.length = es.size:=by rw [hp.length_eq,List.length_range]
  exact setit_drawn_end hh st.1 st.2.1 st.2.2 hf rfl (by rw [List.length_map]; exact z85 hl) fun h' he=>hQ h' s.toks fun b o hb e=>he b o (fun q=>hb (by simp [q])) e
 self:=fun i s Q E st hQ=>setit_self st.1 hQ
end
end Mine
end
section
set_option maxRecDepth 100000
namespace Mine
section
variable {prog:Program} {w:World} {A:Around} {E:Value→Shared→Prop} {s:Shared} {a I:Addr} {es:Array (Int × Value)} {ep:Nat} {t:SetTable}
theorem setIter {Q:Value→Shared→Prop} (hs:s.heap.get? a = some (setObj es ep t)) (T:TOk (ledOf w) t es.size) (hz:es.size≤sizeLine)
  (hQ:∀ (I:Addr) (h':Heap) dr (fp:List Addr) (St:Nat→Heap→Prop) (items:List Value),(∀ A':Around,A'.handled = none→Walks prog w A' I fp [I] es.size (fun i v=>items[i]? = some v) St)→St 0 h'→items.Perm (es.toList.map (·.2)) →
   (∀ b ∈ fp,b≠a→s.heap.get? b = none)→(∀ b ∈ fp,b < h'.objs.size)→(∀ b o,s.heap.get? b = some o→h'.get? b = some o)→s.heap.get? I = none→Q (.ref I) { s with heap:=h',drawn:=dr }) :
  wpAny (model prog w) A (pyIter (.ref a)) Q E s:=by
 obtain hT:s.TypeIs (.ref a) "set":=⟨_,hs,rfl⟩
 obtain ha:a < s.heap.objs.size:=Heap.lt_size hs
 obtain hf:=T.fits
 obtain nn:=none_of (h:=s.heap) (Nat.le_refl _)
 refine wpAny_pyIter_slot hT PySem.F.slot_set_iter (wpAny_call_entry PySem.F.slot_set_iter hT entry_set_iter' ?_ (PySem.F.args_set_iter_1 _))
 unfold Builtin.«frozenset.__iter__» Builtin.Frozenset.slot0 slotArgs
 simp only [List.isEmpty_nil,Bool.not_true,Bool.false_eq_true,↓reduceIte,bind_assoc,List.length_nil,bne_self_eq_false]
 unfold Builtin.Frozenset.addrOf Builtin.Frozenset.sizeOf
 refine wpAny_bind (wpAny_pure ?_)
 try dsimp only
 refine wpAny_bind (wpAny_pure ?_)
 refine wpAny_bind (wpAny_bind (wpAny_setEntries_of hs rfl hf (wpAny_pure ?_)))
 refine wpAny_bind (setDrawn_of hs hf ?_)
 cases hft:w.params.followText "set-order" with
 | true =>
  simp only [Bool.not_true,Bool.false_and,Bool.false_eq_true,if_false]
  refine wpAny_bind (wpAny_pure ?_)
  refine wpAny_bind (wpAny_setEpoch_of hs rfl hf ?_)
  refine wpAny_bind (wpAny_newObj_type ?_)
  obtain g1:(s.heap.push { cls:=.type "set_iterator",data:=.fields #[.int 0 0,.int 0 0,.ref a,.int es.size 0,.int ep 0] }).get? s.heap.objs.size = some { cls:=.type "set_iterator",data:=.fields #[.int 0 0,.int 0 0,.ref a,.int es.size 0,.int ep 0] }:=Heap.get?_push_size _ rfl
  refine wpAny_pure ⟨_,rfl,"set_iterator",_,⟨_,g1,rfl⟩,slot_setit_next.lookup,?_⟩
  refine hQ s.heap.objs.size _ s.drawn [s.heap.objs.size,a] _ _ (fun A' hh=>walks_text hh (Nat.ne_of_lt ha) hft hf) ⟨⟨_,g1,rfl,rfl⟩,Heap.get?_push_of_some _ hs⟩ ((pick_perm _ _).map _) (fun b hb hba=>?_) (fun b hb=>?_) (fun b o e=>Heap.get?_push_of_some _ e) nn
  ·simp only [List.mem_cons,List.not_mem_nil,or_false] at hb
   rcases hb with rfl | rfl
   ·exact nn
   ·exact absurd rfl hba
  ·rw [Heap.size_push]
   simp only [List.mem_cons,List.not_mem_nil,or_false] at hb
   refine lG ?_; intro G
   rcases hb with rfl | rfl
   ·exact Nat.lt_succ_self _
   ·exact Nat.lt_succ_of_lt ha
 | false =>
  obtain hl:t.led = true:=by rw [T.led]; unfold ledOf; rw [hft]; rfl
  cases hd:(!t.plain && decide (es.size > 1)) with
  | false =>
   simp only [Bool.and_false,Bool.false_eq_true,if_false]
   refine wpAny_bind (wpAny_pure ?_)
   refine wpAny_bind (wpAny_setEpoch_of hs rfl hf ?_)
   refine wpAny_bind (wpAny_newObj_type ?_)
   obtain g1:(s.heap.push { cls:=.type "set_iterator",data:=.fields #[.int 0 0,.int 0 0,.ref a,.int es.size 0,.int ep 0] }).get? s.heap.objs.size = some { cls:=.type "set_iterator",data:=.fields #[.int 0 0,.int 0 0,.ref a,.int es.size 0,.int ep 0] }:=Heap.get?_push_size _ rfl
   refine wpAny_pure ⟨_,rfl,"set_iterator",_,⟨_,g1,rfl⟩,slot_setit_next.lookup,?_⟩
   obtain hr:Rising t.place:=by
    cases hpl:t.plain with
    | true=>exact T.ris hpl
    | false =>
     rw [hpl] at hd
     have:¬ es.size > 1:=by simpa using hd
     intro i k hik hk
     have:=fits_size hf; omega
   refine hQ s.heap.objs.size _ s.drawn [s.heap.objs.size,a] _ _ (fun A' hh=>walks_led hh (Nat.ne_of_lt ha) hft hf hl hd hr) ⟨⟨_,g1,rfl,rfl⟩,Heap.get?_push_of_some _ hs⟩ (.refl _) (fun b hb hba=>?_) (fun b hb=>?_) (fun b o e=>Heap.get?_push_of_some _ e) nn
   ·simp only [List.mem_cons,List.not_mem_nil,or_false] at hb
    rcases hb with rfl | rfl
    ·exact nn
    ·exact absurd rfl hba
   ·rw [Heap.size_push]
    simp only [List.mem_cons,List.not_mem_nil,or_false] at hb
    refine lG ?_; intro G
    rcases hb with rfl | rfl
    ·exact Nat.lt_succ_self _
    ·exact Nat.lt_succ_of_lt ha
  | true =>
   simp only [Bool.not_false,Bool.and_true,if_true]
   refine wpAny_bind (drawOrder_of es.size _ (List.length_range ..) fun ys dr hp=>?_)
   refine wpAny_bind (wpAny_newTuple (items:=ys.map fun (i:Nat)=>rawInt i) ?_ (by rw [List.length_map,hp.length_eq,List.length_range]; exact hz))
   obtain g0:(s.heap.push (tup (ys.map fun (i:Nat)=>rawInt i) 0)).get? s.heap.objs.size = some (tup (ys.map fun (i:Nat)=>rawInt i) 0):=Heap.get?_push_size _ rfl
   obtain gs:(s.heap.push (tup (ys.map fun (i:Nat)=>rawInt i) 0)).get? a = some (setObj es ep t):=Heap.get?_push_of_some _ hs
   refine wpAny_bind (wpAny_setEpoch_of (s:={ s with heap:=s.heap.push (tup (ys.map fun (i:Nat)=>rawInt i) 0),drawn:=dr }) gs rfl hf ?_)
   refine wpAny_bind (wpAny_newObj_type ?_)
   obtain g1:=Heap.get?_push_size (s.heap.push (tup (ys.map fun (i:Nat)=>rawInt i) 0)) (o:={ cls:=.type "set_iterator",data:=.fields #[.ref s.heap.objs.size,.int 0 0,.ref a,.int es.size 0,.int ep 0] }) rfl
   obtain hsz:(s.heap.push (tup (ys.map fun (i:Nat)=>rawInt i) 0)).objs.size = s.heap.objs.size + 1:=Heap.size_push ..
   refine wpAny_pure ⟨_,rfl,"set_iterator",_,⟨_,g1,rfl⟩,slot_setit_next.lookup,?_⟩
   refine hQ (s.heap.push (tup (ys.map fun (i:Nat)=>rawInt i) 0)).objs.size _ dr [(s.heap.push (tup (ys.map fun (i:Nat)=>rawInt i) 0)).objs.size,s.heap.objs.size,a] _ _ (fun A' hh=>walks_drawn hh ?_ ?_ hf hp) ⟨⟨_,g1,rfl,rfl⟩,Heap.get?_push_of_some _ g0,Heap.get?_push_of_some _ gs⟩ ?_ (fun b hb hba=>?_) (fun b hb=>?_) (fun b o e=>Heap.get?_push_of_some _ (Heap.get?_push_of_some _ e)) ?_
   ·rw [hsz]; exact Nat.ne_of_lt (Nat.lt_succ_of_lt ha)
   ·rw [hsz]; exact Nat.ne_of_lt (Nat.lt_succ_self _)
   ·rw [← valAt_all]; exact hp.map (valAt es)
   ·simp only [List.mem_cons,List.not_mem_nil,or_false] at hb
    rcases hb with rfl | rfl | rfl
    ·rw [hsz]; exact none_of (Nat.le_succ _)
    ·exact nn
    ·exact absurd rfl hba
   ·rw [Heap.size_push,hsz]
    simp only [List.mem_cons,List.not_mem_nil,or_false] at hb
    rcases hb with rfl | rfl | rfl
    ·rw [hsz]; exact Nat.lt_succ_self _
    ·exact Nat.lt_succ_of_lt (Nat.lt_succ_self _)
    ·exact Nat.lt_succ_of_lt (Nat.lt_succ_of_lt ha)
   ·rw [hsz]; exact none_of (Nat.le_succ _)
end
end Mine
end
section
set_option maxRecDepth 100000
namespace Mine
section
variable {prog:Program} {w:World} {A:Around} {E:Value→Shared→Prop} {s:Shared} {a I:Addr} {es:Array (Int × Value)} {ep:Nat} {t:SetTable}
theorem set_hint {r:Addr} {Q:Bool→Shared→Prop} (hT:s.TypeIs (.ref r) "set") (h:Q false s):wpAny (model prog w) A (Builtin.List.listLengthHint (.ref r)) Q E s:=by
 refine wpAny_bind (wpAny_specialOf hT PySem.F.slot_set_len.lookup ?_)
 generalize hid:("set.__len__":String) = id0
 wp_delta
 rw [show splitId id0 = some ("set","__len__") from by subst hid; decide +kernel]
 subst hid
 refine wpAny_bind (wpAny_isInstance (T:="set") (b:=true) hT (by rw [isSubtype_type]; kernel_rfl) ?_)
 refine wpAny_ite_split (fun hab=>absurd hab (by decide)) (fun _=>?_)
 refine wpAny_ite_split (fun _=>?_) (fun hab=>absurd (by decide +kernel) hab)
 refine wpAny_bind (wpAny_typeOf hT ?_)
 exact wpAny_pure h
theorem items_of {items:List Value} {n:Nat} {acc:Array Value} (hl:items.length = n) (h:ItemsOf (fun i v=>items[i]? = some v) acc n):acc.toList = items:=by
 apply List.ext_getElem?
 intro i
 by_cases hi:i < acc.size
 ·have:=h.2 i acc[i] (Array.getElem?_eq_getElem hi)
  rw [this,List.getElem?_eq_getElem (l:=acc.toList) (by simpa using hi)]; simp
 ·rw [List.getElem?_eq_none (l:=acc.toList) (by simpa using hi),List.getElem?_eq_none (l:=items) (by have:=h.1; exact z470 hl hi this)]
theorem setExtend {R:Result→Shared→Prop} (hh:A.handled = none) (hs:s.heap.get? a = some (setObj es ep t)) (T:TOk (ledOf w) t es.size) (hz:es.size≤sizeLine) (S:Addr) (hSa:S≠a) (res:Value) (hS:s.heap.get? S = some { cls:=.type "list",data:=.seq #[] })
  (hR:∀ h' tk dr acc' c',(∀ b o,b≠S→s.heap.get? b = some o→h'.get? b = some o)→h'.get? S = some { cls:=.type "list",dict:=none,data:=.seq acc' c',slots:=#[] }→acc'.toList.Perm (es.toList.map (·.2))→R (.ok (.ret res)) { s with heap:=h',toks:=tk,drawn:=dr }) :
  wpAny (model prog w) A.in1 (Builtin.List.listExtendWith (.ref S) (.ref a) res)
   (fun fin s'=>match fin with | .done f=>R (.ok f) s' | .again c'=>c'.quiet = true∧codeAny (model prog w) A c' R s') (fun e s'=>R (.error e) s') s:=by
 obtain hT:s.TypeIs (.ref a) "set":=⟨_,hs,rfl⟩
 refine wpAny_bind (wpAny_typeOf (T:="set") hT ?_)
 obtain h1:Builtin.List.listSameRef (.ref S) (.ref a) = false:=by simp [Builtin.List.listSameRef,hSa]
 obtain h2:(Value.type "set" == Value.type "list") = false:=by decide
 obtain h3:(Value.type "set" == Value.type "tuple") = false:=by decide
 simp only [h1,h2,h3,Bool.or_false,Bool.false_eq_true,if_false]
 refine wpAny_bind (setIter hs T hz fun I h₁ dr fp St items hW hst hperm hfn hfl hk hI=>?_)
 obtain hlen:items.length = es.size:=by rw [hperm.length_eq,List.length_map,Array.length_toList]
 obtain hSf:S ∉ fp:=fun hm=>by
  have:=hfn S hm hSa; rw [hS] at this; exact ns this
 obtain hS₁:=hk _ _ hS
 obtain W:=hW A.in1 hh
 obtain key:∀ (h:Heap) (c₁ tk:Nat),St 0 h→(∀ b o,b≠S→s.heap.get? b = some o→h.get? b = some o) →
   h.get? S = some { cls:=.type "list",data:=.seq #[] c₁ }→codeAny (model prog w) A (.builtin "list.extend.loop" ⟨[.ref S,.ref I,res],[]⟩) R { s with heap:=h,toks:=tk,drawn:=dr }:=by
  intro h c₁ tk hst hk hS₁
  refine codeAny_extend_loopS W.toS hz S hSf res es.size 0 _ #[] c₁ rfl (Nat.zero_le _) hst hS₁ (ItemsOf.nil _) fun s' acc' c' hm hS' hacc=>?_
  rw [Moved.eq_with hm]
  refine hR s'.heap s'.toks dr acc' c' (fun b o hb e=>hm.heap b o (fun hmem=>?_) (hk b o hb e)) hS' (by rw [items_of hlen hacc]; exact hperm)
  rcases List.mem_cons.mp hmem with e' | hmem
  ·exact hb e'
  ·rw [List.mem_singleton.mp hmem,hI] at e; exact nn e
 refine wpAny_bind (wpAny_holding (set_hint ⟨_,hk _ _ hs,rfl⟩ ?_))
 refine wpAny_ite_split (fun _=>?_) (fun _=>wpAny_pure ⟨plainId_quiet PySem.F.plain_extend_loop _,key _ 0 _ hst (fun b o _ e=>hk b o e) hS₁⟩)
 refine wpAny_bind (wpAny_rule ?_)
 refine wpAny_bind ?_
 refine wpAny_bind (wpAny_updateSeq hS₁ rfl ?_)
 obtain hS₂:=Heap.get?_update_self (Obj.mapSeq (·.push Value.none)) hS₁ rfl
 refine wpAny_updateSeq (hz:=by seq_fits) hS₂ rfl ?_
 obtain hS₃:=Heap.get?_update_self (Obj.mapSeq (·.pop)) hS₂ rfl
 refine wpAny_pure ⟨plainId_quiet PySem.F.plain_extend_loop _,key _ _ _ ?_ (fun b o hb e=>?_) hS₃⟩
 ·refine W.frame 0 _ _ hst fun b hb o e=>?_
  obtain hbS:b≠S:=fun h=>hSf (h ▸ hb)
  exact (Heap.get?_update_other _ _ (Ne.symm hbS)).trans ((Heap.get?_update_other _ _ (Ne.symm hbS)).trans e)
 ·exact (Heap.get?_update_other _ _ (Ne.symm hb)).trans ((Heap.get?_update_other _ _ (Ne.symm hb)).trans (hk b o e))
theorem setCollect {R:List Value→Shared→Prop} (hh:A.handled = none) (hs:s.heap.get? a = some (setObj es ep t)) (T:TOk (ledOf w) t es.size) (hz:es.size≤sizeLine)
  (h:∀ (h':Heap) (tk:Nat) dr (acc:List Value),(∀ b o,s.heap.get? b = some o→h'.get? b = some o)→acc.Perm (es.toList.map (·.2))→R acc { s with heap:=h',toks:=tk,drawn:=dr }) :
  wpAny (model prog w) A (collect (.ref a)) R E s:=by
 obtain hlt:a < s.heap.objs.size:=Heap.lt_size hs
 refine wpAny_bind (wpAny_runValue (codeAny_builtin entry_proto_collect' ?_))
 rw [Around.under_plainId PySem.F.plain_proto_collect _]
 refine wpAny_bind (wpAny_newObj_type ?_)
 refine wpAny_pure ⟨plainId_quiet PySem.F.plain_list_iadd _,codeAny_builtin PySem.F.entry_list_iadd ?_⟩
 rw [Around.under_plainId PySem.F.plain_list_iadd _]
 obtain hS₁:(s.heap.push { cls:=.type "list",data:=.seq ([]:List Value).toArray }).get? s.heap.objs.size = some { cls:=.type "list",data:=.seq #[] }:=Heap.get?_push_size _ rfl
 obtain key:=setExtend (prog:=prog) (w:=w) (A:=A) (s:={ s with heap:=s.heap.push { cls:=.type "list",data:=.seq ([]:List Value).toArray } })
  (R:=fun (q:Result) (s':Shared)=>(X5 fun (h':Heap) (tk:Nat) (dr:Drawn) (acc':Array Value) (c':Nat)=>N5 (q = .ok (.ret (.ref s.heap.objs.size))) (s' = { s with heap:=h',toks:=tk,drawn:=dr }) ((∀ b o,s.heap.get? b = some o→h'.get? b = some o)) (h'.get? s.heap.objs.size = some { cls:=.type "list",dict:=none,data:=.seq acc' c',slots:=#[] }) (acc'.toList.Perm (es.toList.map (·.2)))))
  hh (Heap.get?_push_of_some _ hs) T hz s.heap.objs.size (Nat.ne_of_gt hlt) (.ref s.heap.objs.size) hS₁
  (fun h' tk dr acc' c' hk hS' hacc=>⟨h',tk,dr,acc',c',rfl,rfl,fun b o e=>hk b o (Nat.ne_of_lt (Heap.lt_size e)) (Heap.get?_push_of_some _ e),hS',hacc⟩)
 refine wpAny_mono key (fun fin s' x=>?_) fun e s' x=>?_
 ·cases fin with
  | done f =>
   obtain ⟨h',tk,dr,acc',c',e,rfl,hk,hS',hacc⟩:=x
   cases e
   refine wpAny_bind (wpAny_load hS' ?_)
   exact wpAny_pure (h h' tk dr acc'.toList hk hacc)
  | again c₁ =>
   refine ⟨x.1,codeAny_mono x.2 fun q s₂ y=>?_⟩
   obtain ⟨h',tk,dr,acc',c',rfl,rfl,hk,hS',hacc⟩:=y
   refine wpAny_bind (wpAny_load hS' ?_)
   exact wpAny_pure (h h' tk dr acc'.toList hk hacc)
 ·obtain ⟨_,_,_,_,_,e',_⟩:=x
  cases e'
end
section
variable {P:Par} {A:Around} {env:Env} {W:List Addr} {α β:Type} {σ σ':Store} {m:Vars}
theorem Tr.keptD {s:Shared} {h':Heap} {tk:Nat} {dr:Drawn} (G:Good P σ s) (k:∀ b o,s.heap.get? b = some o→h'.get? b = some o):Tr P W σ s σ { s with heap:=h',toks:=tk,drawn:=dr } :=
 ⟨⟨fun a o e=>k a o (G.has a o e),fun a o e=>k a o (G.base a o e),G.own,G.gens,G.os,G.low⟩,fun a o _ _ e=>k a o e,fun _ h h'=>absurd h' h,fun a h=>by
  cases q:s.heap.get? a with
  | none=>rfl
  | some o=>exact absurd h (ne_none (k a o q))⟩
theorem oSortedNSet {a:Addr} {o:Obj} {uv:List Value} {us:List Nat} {Q:Value→Store→Prop} (hR:Rm A 4) (e:σ a = some o) (hS:IsSet P o uv) (hN:Ns uv us) (h64:us.length < 64)
  (h:∀ ms b ws k,ms.Perm us→ms.Pairwise (·≤·)→σ b = none→Ns ws ms→Q (.ref b) (σ.set b (lst ws k))):Op P A (call (.builtin "sorted") [.ref a]) σ Q:=by
 refine lG ?_; intro G
 obtain ⟨es,ep,t,rfl,hes,T⟩:=hS
 refine oSortedOf (C:=fun x=>x.Perm us) (fun s G=>?_) fun ns ms b ws k hC hp=>h ms b ws k (hp.trans hC)
 refine setCollect hR.handled (G.has _ _ e) T ?_ fun h' tk dr acc hk hacc=>⟨Tr.keptD G hk,?_⟩
 ·have:es.size = uv.length:=by rw [← hes,List.length_map,Array.length_toList]
  rw [this,hN.length,sizeLine_eq]; exact z35 h64
 ·rw [hes] at hacc
  refine lG ?_; intro G
  obtain ⟨us',p,q⟩:=All2.perm hacc (Ns.all2.mp hN)
  exact ⟨us',Ns.all2.mpr q,by rw [p.length_eq]; exact h64,p⟩
end
end Mine
end
section
set_option maxRecDepth 100000
namespace Mine
noncomputable def treeOk {α:Type} (n:Nat) (R:α→Prop):KasT α→Prop
 | .ret a=>R a
 | .ask i j k=>i < n∧j < n∧∀ b,treeOk n R (k b)
theorem treeOk_mono {α:Type} {n:Nat} {R S:α→Prop} (h:∀ a,R a→S a):∀ {t:KasT α},treeOk n R t→treeOk n S t
 | .ret _,q=>h _ q
 | .ask _ _ _,q=>⟨q.1,q.2.1,fun b=>treeOk_mono h (q.2.2 b)⟩
theorem treeOk_bind {α β:Type} {n:Nat} {R:β→Prop} {f:α→KasT β}:∀ {t:KasT α},treeOk n (fun a=>treeOk n R (f a)) t→treeOk n R (t.bind f)
 | .ret _,q=>q
 | .ask _ _ _,q=>⟨q.1,q.2.1,fun b=>treeOk_bind (q.2.2 b)⟩
theorem treeOk_wp {α:Type} {n:Nat} {R:α→Prop} {cmp:Nat→Nat→(Bool→Shared→Prop)→Shared→Prop} {Q:α→Shared→Prop} {s:Shared} (hc:∀ i j (C:Bool→Shared→Prop),i < n→j < n→(∀ b,C b s)→cmp i j C s) (hq:∀ a,R a→Q a s):∀ {t:KasT α},treeOk n R t→t.kasWp cmp Q s
 | .ret _,q=>hq _ q
 | .ask i j _,q=>hc i j _ q.1 q.2.1 fun b=>treeOk_wp hc hq (q.2.2 b)
def PermR (n:Nat) (p:Array Nat):Prop:=p.toList.Perm (List.range n)
theorem PermR.lt {n:Nat} {p:Array Nat} (h:PermR n p) (hn:0 < n) (i:Nat):p.getD i 0 < n:=by
 by_cases hi:i < p.size
 ·have e:p.getD i 0 = p[i]:=by simp [hi]
  rw [e]
  exact List.mem_range.mp (h.mem_iff.mp (by simp))
 ·have e:p.getD i 0 = 0:=by simp [hi]
  rw [e]; exact hn
theorem PermR.rev {n:Nat} {p:Array Nat} (h:PermR n p) (i j:Nat):PermR n (kas_rev p i j):=(Array.perm_iff_toList_perm.mp (mirror_perm p i j ((j - i) / 2))).trans h
theorem PermR.bub {n:Nat} {p:Array Nat} (h:PermR n p) (i j:Nat):PermR n (bubble p i j):=(Array.perm_iff_toList_perm.mp (bubble_perm p i j)).trans h
section
variable {n:Nat} (hn:0 < n)
include hn
theorem asc_ok {p:Array Nat} (h:PermR n p):∀ (f k:Nat),treeOk n (fun _=>True) (kas_asc p f k)
 | 0,k=>trivial
 | f + 1,k=>⟨h.lt hn _,h.lt hn _,fun b=>by
  cases b with
  | true=>exact trivial
  | false=>exact asc_ok h f (k + 1)⟩
theorem desc_ok:∀ (f:Nat) (p:Array Nat) (k q:Nat),PermR n p→treeOk n (fun r=>PermR n r.1) (kas_desc f p k q)
 | 0,p,k,q,h=>h
 | f + 1,p,k,q,h=>⟨h.lt hn _,h.lt hn _,fun b=>by
  cases b with
  | true =>
   dsimp only; rw [if_pos rfl]
   split
   ·exact desc_ok f _ _ _ (h.rev _ _)
   ·exact desc_ok f _ _ _ h
  | false =>
   dsimp only; rw [if_neg (by decide)]
   exact ⟨h.lt hn _,h.lt hn _,fun b=>by
    cases b with
    | true=>dsimp only; rw [if_pos rfl]; exact h
    | false=>dsimp only; rw [if_neg (by decide)]; exact desc_ok f _ _ _ h⟩⟩
theorem tail3_ok {p:Array Nat} (h:PermR n p) (k r:Nat):treeOk n (fun r=>PermR n r.2) (kas_tail3 k r p) :=
 treeOk_bind (treeOk_mono (fun _ _=>h.rev _ _) (asc_ok hn (h.rev _ _) _ _))
theorem descPart_ok {p:Array Nat} (h:PermR n p) (k r:Nat):treeOk n (fun r=>PermR n r.2) (kas_descPart k r p):=by
 refine treeOk_bind (treeOk_mono (fun a ha=>?_) (desc_ok hn _ _ _ _ h))
 split
 ·exact tail3_ok hn (ha.rev _ _) _ _
 ·exact tail3_ok hn ha _ _
theorem count_ok {p:Array Nat} (h:PermR n p) (r:Nat):treeOk n (fun r=>PermR n r.2) (kas_count r p):=by
 refine treeOk_bind (treeOk_mono (fun a _=>?_) (asc_ok hn h _ _))
 split
 ·exact h
 ·split
  ·exact ⟨h.lt hn _,h.lt hn _,fun b=>by
    cases b with
    | true=>dsimp only; rw [if_pos rfl]; exact h
    | false=>dsimp only; rw [if_neg (by decide)]; exact descPart_ok hn (h.rev _ _) _ _⟩
  ·exact descPart_ok hn h _ _
theorem place_ok {p:Array Nat} (h:PermR n p) (k:Nat):∀ (f l r:Nat),treeOk n (fun _=>True) (kas_place p k f l r)
 | 0,l,r=>trivial
 | f + 1,l,r=>by
  unfold kas_place
  split
  ·exact trivial
  ·exact ⟨h.lt hn _,h.lt hn _,fun b=>by
    cases b with
    | true=>dsimp only; rw [if_pos rfl]; exact place_ok h k f _ _
    | false=>dsimp only; rw [if_neg (by decide)]; exact place_ok h k f _ _⟩
theorem bin_ok:∀ (f:Nat) (p:Array Nat) (k:Nat),PermR n p→treeOk n (PermR n) (kas_bin f p k)
 | 0,p,k,h=>h
 | f + 1,p,k,h=>treeOk_bind (treeOk_mono (fun _ _=>bin_ok f _ _ (h.bub _ _)) (place_ok hn h k _ _ _))
theorem sort_ok:treeOk n (PermR n) (kas_sort n):=by
 refine treeOk_bind (treeOk_mono (fun a ha=>?_) (count_ok hn (p:=List.toArray (List.range n)) (List.Perm.refl _) n))
 split
 ·exact bin_ok hn _ _ _ ha
 ·exact ha
end
def NodeH (h:Heap) (v:Value) (nd:Node):Prop:=(X4 fun a k t ws=>N3 (v = .ref a) (h.get? a = some (tup (.str nd.1 t :: ws) k)) (Ns ws nd.2))
theorem NodeH.keep {h h':Heap} {v:Value} {nd:Node} (x:NodeH h v nd) (k:∀ b o,o.cls = .type "tuple"→h.get? b = some o→h'.get? b = some o):NodeH h' v nd:=by
 obtain ⟨a,kk,t,ws,e,g,hN⟩:=x
 exact ⟨a,kk,t,ws,e,k _ _ rfl g,hN⟩
section
variable {prog:Program} {w:World} {A:Around} {E:Value→Shared→Prop} {s:Shared}
theorem lex_ints {fin:Bool} {Q:Bool→Shared→Prop} (hQ:∀ b,Q b s):∀ {xs ys:List Value} {ns ms:List Nat} (i:Nat),Ns xs ns→Ns ys ms→KatLex prog w A true fin Q (xs.zip ys) (i + 1) s
 | [],_,_,_,i,_,_=>hQ _
 | _ :: _,[],_,_,i,_,_=>hQ _
 | x :: xs,y :: ys,ns,ms,i,hx,hy=>by
  obtain ⟨a,t,_,rfl⟩:=hx.of (i:=0) rfl
  obtain ⟨b,u,_,rfl⟩:=hy.of (i:=0) rfl
  have hx':Ns xs ns.tail:=by
   cases ns with
   | nil=>have:=hx.length; simp at this
   | cons n ns=>unfold Ns at hx ⊢; simp only [List.map_cons,List.cons.injEq] at hx; exact hx.2
  have hy':Ns ys ms.tail:=by
   cases ms with
   | nil=>have:=hy.length; simp at this
   | cons n ns=>unfold Ns at hy ⊢; simp only [List.map_cons,List.cons.injEq] at hy; exact hy.2
  rw [List.zip_cons_cons]
  refine kat_cons (wpAny_eqBool_int (kat_go (fun _=>kat_yes (lex_ints hQ (i + 1) hx' hy')) fun _=>kat_no ?_))
  have:(true && (i + 1 == 0)) = false:=by simp
  rw [this]
  exact kat_one _ _ (PySem.P.lt_int (hQ _))
theorem tupLt {x y:Value} {nx ny:Node} {Q:Bool→Shared→Prop} (hx:NodeH s.heap x nx) (hy:NodeH s.heap y ny) (hQ:∀ b,Q b s):wpAny (model prog w) A (keyLt' (tuples' true) x y) Q E s:=by
 obtain ⟨a,k,t,ws,rfl,g,hN⟩:=hx
 obtain ⟨b,j,u,zs,rfl,g',hN'⟩:=hy
 refine kat_lt g rfl g' rfl ?_
 refine kat_cons ?_
 have hw:wpAny (model prog w) A (eqBool (.str nx.1 t) (.str ny.1 u)) (KatGo prog w A true (decide ((List.toArray (Value.str nx.1 t :: ws)).size < (List.toArray (Value.str ny.1 u :: zs)).size)) Q (.str nx.1 t) (.str ny.1 u) (ws.zip zs) 0) (fun _ _=>False) s :=
  (mixKind prog w).eqBool (a:=.inl nx.1) (b:=.inl ny.1) (mix_str ..) (mix_str ..) (kat_go (fun _=>kat_yes (lex_ints hQ 0 hN hN')) fun _=>kat_no (oneLt_str (hQ _)))
 exact hw
theorem tupKats {h:Heap}:∀ {vs:List Value},(∀ v ∈ vs,∃ nd,NodeH h v nd)→(∃ fs,N3 (fs.length = vs.length) ((∀ f ∈ fs,∃ x t,f = .str x t)) (KatTups h vs fs))
 | [],_=>⟨[],rfl,fun _ h=>(by cases h),trivial⟩
 | v :: vs,hv=>by
  obtain ⟨fs,hl,hf,hk⟩:=tupKats (vs:=vs) fun v h=>hv v (.tail _ h)
  obtain ⟨nd,a,k,t,ws,rfl,g,hN⟩:=hv v (.head _)
  exact ⟨.str nd.1 t :: fs,by rw [List.length_cons,List.length_cons,hl],fun f h=>by
   rcases List.mem_cons.mp h with rfl | h
   ·exact ⟨_,_,rfl⟩
   ·exact hf f h,KatTups.cons g rfl rfl rfl hk⟩
theorem tupSort {a:Addr} {vs:List Value} {n:Nat} {P:PySem.Fin→Shared→Prop} (ho:s.heap.get? a = some (seqObj "list" vs.toArray n)) (hv:∀ v ∈ vs,∃ nd,NodeH s.heap v nd) (h64:vs.length < 64)
  (h:∀ out:Array Value,out.toList.Perm vs→P (.done (.ret .none)) { s with heap:=sortedHeap s.heap a vs out }) :
  wpAny (model prog w) A (Builtin.«list.sort» ⟨[.ref a],[]⟩) P E s:=by
 rw [list_sort_plain]
 have ha:a < s.heap.objs.size:=Heap.lt_size ho
 refine wpAny_bind (listItems_at ho rfl ?_)
 refine wpAny_bind (listUpdate_at ho rfl ?_ (by rw [List.size_toArray,sizeLine_eq]; exact z35 h64) (Nat.zero_le _))
 obtain ⟨e1,ho1⟩:∃ e1,(s.heap.update a (Obj.mapSeq fun _=>#[])).get? a = some (seqObj "list" #[] e1):=⟨_,get?_update_seq ho (fun _=>#[])⟩
 refine wpAny_bind (seqEpoch_at ho1 rfl ?_)
 refine wpAny_bind (wpAny_newTuple ?_ (by show vs.length≤_; rw [sizeLine_eq]; exact z35 h64))
 refine wpAny_bind (wpAny_newList ?_ (Nat.zero_le _))
 refine wpAny_holding ?_
 have ho6:(((s.heap.update a (Obj.mapSeq fun _=>#[])).push (seqObj "tuple" vs.toArray 0)).push (seqObj "list" #[] 0)).get? a = some (seqObj "list" #[] e1):=by
  rw [Heap.get?_push_ne _ _ _ (by rw [size_push',Heap.size_update]; exact Nat.ne_of_lt (Nat.lt_succ_of_lt ha)),Heap.get?_push_ne _ _ _ (by rw [Heap.size_update]; exact Nat.ne_of_lt ha)]
  exact ho1
 show wpAny (model prog w) A _ P E { s with heap:=((s.heap.update a (Obj.mapSeq fun _=>#[])).push (seqObj "tuple" vs.toArray 0)).push (seqObj "list" #[] 0) }
 dsimp only
 have hsz:vs.toArray.size = vs.length:=by simp
 by_cases h2:vs.toArray.size < 2
 ·rw [if_pos h2,if_pos h2]
  refine wpAny_bind (wpAny_pure ?_)
  rw [StateT.run_pure]
  refine wpAny_bind (wpAny_pure ?_)
  dsimp only
  refine wpAny_bind (seqEpoch_at ho6 rfl ?_)
  refine wpAny_bind (listUpdate_at ho6 rfl ?_ (hsz2:=by rw [Array.size_map]; show (pairsOf vs).size≤_; rw [pairsOf_size,sizeLine_eq]; exact z471 h64))
  simp only [bne_self_eq_false,Bool.false_eq_true,if_false]
  obtain e:(arrOf (SortSt.mk' general' (vs.toArray.zip vs.toArray) #[] 7 none)).map (fun p:Keyed=>p.2) = vs.toArray:=by
   show (vs.toArray.zip vs.toArray).map (fun p:Keyed=>p.2) = vs.toArray
   refine Array.ext (by simp) fun i h1 h2=>by simp
  have:=h ((arrOf (SortSt.mk' general' (vs.toArray.zip vs.toArray) #[] 7 none)).map (fun p:Keyed=>p.2)) (by rw [e])
  exact wpAny_pure this
 ·rw [if_neg h2,if_neg h2]
  obtain hv':∀ v ∈ vs,∃ nd,NodeH (((s.heap.update a (Obj.mapSeq fun _=>#[])).push (seqObj "tuple" vs.toArray 0)).push (seqObj "list" #[] 0)) v nd:=fun v hm=>by
   refine lG ?_; intro G
   obtain ⟨nd,x⟩:=hv v hm
   refine ⟨nd,x.keep fun b o hc g=>?_⟩
   obtain hb:b≠a:=fun q=>by subst q; rw [ho] at g; cases g; exact lst_tup (vs:=vs) (k:=n) hc
   obtain hlt:b < s.heap.objs.size:=Heap.lt_size g
   exact Heap.get?_push_of_some _ (Heap.get?_push_of_some _ ((Heap.get?_update_other _ _ (Ne.symm hb)).trans g))
  have h':∀ out:Array Value,out.toList.Perm vs→P (.done (.ret .none)) { s with heap:=(((s.heap.update a (Obj.mapSeq fun _=>#[])).push (seqObj "tuple" vs.toArray 0)).push (seqObj "list" #[] 0)).update a (Obj.mapSeq fun _=>out) }:=h
  generalize (((s.heap.update a (Obj.mapSeq fun _=>#[])).push (seqObj "tuple" vs.toArray 0)).push (seqObj "list" #[] 0)) = hp at *
  revert hp; refine keep ?_; intro hp; set_option tactic.hygienic false in intros
  obtain h2':2≤vs.length:=(z472 hsz h2)
  refine lG ?_; intro G
  obtain ⟨fs,hfl,hfs,hk⟩:=tupKats hv'
  refine wpAny_bind (kat_kind (s:={ s with heap:=hp }) (T:=.type "str") hk (z473 hsz h2 hfl) (fun f hf=>?_) (by decide) ?_)
  ·refine lG ?_; intro G
   obtain ⟨x,t,rfl⟩:=hfs f hf
   exact (Looks.now:Looks _ _ (pure (Value.type "str")) _)
  obtain ekind:(Value.type "str" != Value.type "tuple") = true:=by decide
  rw [ekind]
  obtain hn:0 < vs.length:=(z474 hsz h2)
  refine wpAny_bind (wpAny_mono (kat_run (ks:=vs) (vs:=vs) (s:={ s with heap:=hp }) (Q:=fun st' s'=>s' = { s with heap:=hp }∧failedOf st' = none∧∃ p:Array Nat,PermR vs.length p∧arrOf st' = p.map (kas_item (vs.toArray.zip vs.toArray)))
   (G:=fun p s'=>PermR vs.length p∧s' = { s with heap:=hp }) rfl h2' h64 (fun p st' s' a1 a2 a3 a4=>⟨a4.2,a3,p,a4.1,a2⟩)
   (treeOk_wp (R:=PermR vs.length) (fun i j C hi hj hC=>?_) (fun p hp'=>⟨hp',rfl⟩) (sort_ok hn))) ?_ fun _ _ e=>e)
  ·show wpAny _ _ (keyLt' _ (vs.getD i Value.none) (vs.getD j Value.none)) _ _ _
   obtain e1:vs.getD i Value.none = vs[i]:=by simp [hi]
   obtain e2:vs.getD j Value.none = vs[j]:=by simp [hj]
   rw [e1,e2]
   refine lG ?_; intro G
   obtain ⟨nx,hx⟩:=hv' vs[i] (List.getElem_mem hi)
   obtain ⟨ny,hy⟩:=hv' vs[j] (List.getElem_mem hj)
   exact tupLt (s:={ s with heap:=hp }) hx hy hC
  rintro ⟨⟨⟩,st'⟩ s' ⟨rfl,hf,p,hp',har⟩
  dsimp only
  obtain hout:=kat_snds rfl har
  obtain hpl:(p.toList.map fun i=>vs.getD i Value.none).Perm vs:=by
   refine (hp'.map _).trans (List.Perm.of_eq ?_)
   apply List.ext_getElem?
   intro i
   rw [List.getElem?_map]
   by_cases hi:i < vs.length
   ·rw [List.getElem?_range hi,List.getElem?_eq_getElem hi]; simp [hi]
   ·rw [List.getElem?_eq_none (l:=List.range vs.length) (by simp; exact z82 hi),List.getElem?_eq_none (l:=vs) (z82 hi)]; rfl
  refine wpAny_bind (seqEpoch_at ho6 rfl ?_)
  refine wpAny_bind (listUpdate_at ho6 rfl ?_ (Nat.zero_le _) (by rw [hout,List.size_toArray,hpl.length_eq,sizeLine_eq]; exact z471 h64))
  rw [hf]
  simp only [bne_self_eq_false,Bool.false_eq_true,if_false]
  have:=h' ((arrOf st').map (·.2)) (by rw [hout]; exact hpl)
  exact wpAny_pure this
end
end Mine
end
section
set_option maxRecDepth 100000
namespace Mine
section
variable {P:Par} {A:Around} {env:Env} {W:List Addr} {α β:Type} {σ σ':Store} {m:Vars}
theorem NodeAt.nodeH {v:Value} {nd:Node} {s:Shared} (h:NodeAt σ v nd) (G:Good P σ s):NodeH s.heap v nd:=by
 obtain ⟨a,k,t,vs,rfl,e,hN⟩:=h
 exact ⟨a,k,t,vs,rfl,G.has _ _ e,hN⟩
theorem oSortedTSet {a:Addr} {o:Obj} {uv:List Value} {Q:Value→Store→Prop} (hR:Rm A 4) (e:σ a = some o) (hS:IsSet P o uv) (hN:∀ v ∈ uv,∃ nd,NodeAt σ v nd) (h64:uv.length < 64)
  (h:∀ b ws k,ws.Perm uv→σ b = none→Q (.ref b) (σ.set b (lst ws k))):Op P A (call (.builtin "sorted") [.ref a]) σ Q:=fun s G=>by
 obtain ⟨es,ep,t,rfl,hes,T⟩:=hS
 refine Calls.call_function_entry kind_sorted plain_sorted entry_sorted (args_sorted1 _) ?_
 refine wpAny_bind (m:=checkCount "sorted" 1 1 _) (wpAny_pure ?_)
 obtain hz0:es.size = uv.length:=by rw [← hes,List.length_map,Array.length_toList]
 refine wpAny_bind (setCollect hR.handled (G.has _ _ e) T (by rw [hz0,sizeLine_eq]; exact z35 h64) fun h' tk dr acc hk hacc=>?_)
 rw [hes] at hacc
 obtain T₁:Tr P [] σ s σ { s with heap:=h',toks:=tk,drawn:=dr }:=Tr.keptD G hk
 obtain hz:acc.length < 64:=by rw [hacc.length_eq]; exact h64
 refine wpAny_bind (wpAny_newList ?_ (by rw [sizeLine_eq]; exact z35 hz))
 obtain hoL:(h'.push (seqObj "list" acc.toArray 0)).get? h'.objs.size = some (seqObj "list" acc.toArray 0):=Heap.get?_push_size _ rfl
 obtain hv:∀ v ∈ acc,∃ nd,NodeH (h'.push (seqObj "list" acc.toArray 0)) v nd:=fun v hm=>by
  refine lG ?_; intro G
  obtain ⟨nd,x⟩:=hN v (hacc.mem_iff.mp hm)
  exact ⟨nd,(x.nodeH T₁.good).keep fun b o _ g=>Heap.get?_push_of_some _ g⟩
 refine wpAny_bind (wpAny_holding (wpAny_call_entry (s:={ s with heap:=h'.push (seqObj "list" acc.toArray 0),toks:=tk,drawn:=dr }) slot_list_sort ⟨_,hoL,rfl⟩ entry_list_sort (tupSort (s:={ s with heap:=h'.push (seqObj "list" acc.toArray 0),toks:=tk,drawn:=dr }) hoL hv hz fun out hp=>⟨_,rfl,?_⟩) (args_list_sort _)))
 refine wpAny_pure ⟨_,rfl,?_⟩
 obtain nn:=none_of (h:=h') (Nat.le_refl _)
 refine lG ?_; intro G
 obtain ⟨c,hc⟩:=sortedHeap_at (vs:=acc) (out:=out) hoL
 obtain hk2:∀ b o,h'.get? b = some o→(sortedHeap (h'.push (seqObj "list" acc.toArray 0)) h'.objs.size acc out).get? b = some o:=fun b o hb=>by
  obtain hlt:@LT.lt Nat _ b h'.objs.size:=Heap.lt_size hb
  rw [sortedHeap_old (Nat.ne_of_lt hlt) (by rw [Heap.size_push]; exact Nat.lt_succ_of_lt hlt)]
  exact Heap.get?_push_of_some _ hb
 obtain eo:(lst out.toList c) = seqObj "list" out c:=by simp
 exact ⟨_,h _ out.toList c (hp.trans hacc) (σnone T₁.good nn),T₁.trans (Tr.grown T₁.good hk2 nn (by rw [eo]; exact hc) _ (big_of T₁.good.base))⟩
end
end Mine
end
section
set_option maxRecDepth 100000
namespace Mine
noncomputable def leapN (mask:Nat):Nat→Nat × Nat→Nat × Nat
 | 0,q=>q
 | n + 1,q=>leapN mask n (SetTable.leap mask q.1 q.2)
theorem leapN_succ (mask:Nat):∀ (n:Nat) (q:Nat × Nat),leapN mask (n + 1) q = SetTable.leap mask (leapN mask n q).1 (leapN mask n q).2
 | 0,q=>rfl
 | n + 1,q=>leapN_succ mask n (SetTable.leap mask q.1 q.2)
theorem leapN_add (mask:Nat):∀ (n m:Nat) (q:Nat × Nat),leapN mask (n + m) q = leapN mask m (leapN mask n q)
 | 0,m,q=>by rw [Nat.zero_add]; rfl
 | n + 1,m,q=>by
  rw [show n + 1 + m = (n + m) + 1 from z475]
  exact leapN_add mask n m (SetTable.leap mask q.1 q.2)
theorem leapN_pert (mask:Nat):∀ (n:Nat) (q:Nat × Nat),(leapN mask n q).2 = q.2 / 32 ^ n
 | 0,q=>by simp [leapN]
 | n + 1,q=>by
  rw [leapN_succ]
  show (leapN mask n q).2 / 32 = _
  rw [leapN_pert mask n q,Nat.div_div_eq_div_mul,Nat.pow_succ]
theorem leapN_lt (mask:Nat):∀ (n:Nat) (q:Nat × Nat),q.1 < mask + 1→(leapN mask n q).1 < mask + 1
 | 0,q,h=>h
 | n + 1,q,h=>leapN_lt mask n _ (Nat.mod_lt _ (Nat.succ_pos _))
noncomputable def orbit (mask:Nat):Nat→Nat→List Nat
 | 0,i=>[i]
 | n + 1,i=>i :: orbit mask n ((i * 5 + 1) % (mask + 1))
theorem orbit_mem (mask:Nat):∀ (n i c:Nat),c ∈ orbit mask n i→∃ m,m≤n∧(leapN mask m (i,0)).1 = c
 | 0,i,c,h=>⟨0,Nat.le_refl _,by rw [orbit,List.mem_singleton] at h; exact h.symm⟩
 | n + 1,i,c,h=>by
  rcases List.mem_cons.mp h with rfl | h
  ·exact ⟨0,Nat.zero_le _,rfl⟩
  ·obtain ⟨m,hm,e⟩:=orbit_mem mask n _ c h
   exact ⟨m + 1,(z127 hm),by simpa [leapN,SetTable.leap] using e⟩
theorem cover7:∀ i < 8,∀ c < 8,c ∈ orbit 7 7 i:=by decide
theorem cover31:∀ i < 32,∀ c < 32,c ∈ orbit 31 31 i:=by decide +kernel
theorem meet {mask:Nat} (hm:mask = 7∨mask = 31) {i p c:Nat} (hi:i < mask + 1) (hp:p < 2 ^ 64) (hc:c < mask + 1):∃ n,n≤13 + mask∧(leapN mask n (i,p)).1 = c:=by
 have h0:(leapN mask 13 (i,p)).2 = 0:=by
  rw [leapN_pert]
  exact Nat.div_eq_of_lt (Nat.lt_of_lt_of_le hp (by decide))
 have hlt:=leapN_lt mask 13 (i,p) hi
 have hq:leapN mask 13 (i,p) = ((leapN mask 13 (i,p)).1,0):=Prod.ext rfl h0
 have hc2:c ∈ orbit mask mask (leapN mask 13 (i,p)).1:=by
  rcases hm with rfl | rfl
  ·exact cover7 _ hlt c hc
  ·exact cover31 _ hlt c hc
 obtain ⟨m,hm',e⟩:=orbit_mem mask mask _ c hc2
 exact ⟨13 + m,(z476 hm'),by rw [leapN_add,hq]; exact e⟩
noncomputable def advN (t:SetTable):Nat→SetTable.Probe→SetTable.Probe
 | 0,p=>p
 | n + 1,p=>advN t n (t.advance p)
theorem advN_add (t:SetTable):∀ (n m:Nat) (p:SetTable.Probe),advN t (n + m) p = advN t m (advN t n p)
 | 0,m,p=>by rw [Nat.zero_add]; rfl
 | n + 1,m,p=>by rw [show n + 1 + m = (n + m) + 1 from z475]; exact advN_add t n m (t.advance p)
theorem adv_run (t:SetTable):∀ (m:Nat) (j i pt:Nat) (d:Option Nat),advN t (m + 1) ⟨j,m,i,pt,d⟩ = ⟨(SetTable.leap t.mask i pt).1,SetTable.runEnd t.mask (SetTable.leap t.mask i pt).1 - (SetTable.leap t.mask i pt).1,(SetTable.leap t.mask i pt).1,(SetTable.leap t.mask i pt).2,d⟩
 | 0,j,i,pt,d=>by
  simp only [advN]
  unfold SetTable.advance
  rw [if_neg (by simp)]
 | m + 1,j,i,pt,d=>by
  rw [advN]
  have:t.advance ⟨j,m + 1,i,pt,d⟩ = ⟨j + 1,m,i,pt,d⟩:=by
   unfold SetTable.advance; rw [if_pos (by simp)]; rfl
  rw [this]
  exact adv_run t m _ i pt d
def atLeap (t:SetTable) (q:Nat × Nat):SetTable.Probe:=⟨q.1,SetTable.runEnd t.mask q.1 - q.1,q.1,q.2,none⟩
theorem adv_leap (t:SetTable) (q:Nat × Nat):∃ k,k≤10∧advN t k (atLeap t q) = atLeap t (SetTable.leap t.mask q.1 q.2):=by
 refine ⟨SetTable.runEnd t.mask q.1 - q.1 + 1,?_,adv_run t _ q.1 q.1 q.2 none⟩
 unfold SetTable.runEnd; split <;> omega
theorem adv_leaps (t:SetTable):∀ (n:Nat) (q:Nat × Nat),∃ k,k≤10 * n∧advN t k (atLeap t q) = atLeap t (leapN t.mask n q)
 | 0,q=>⟨0,Nat.le_refl _,rfl⟩
 | n + 1,q=>by
  obtain ⟨k,hk,e⟩:=adv_leap t q
  obtain ⟨k',hk',e'⟩:=adv_leaps t n (SetTable.leap t.mask q.1 q.2)
  exact ⟨k + k',(z248 hk hk'),by rw [advN_add,e]; exact e'⟩
theorem bits_lt (h:Int):SetTable.bits h < 2 ^ 64:=by
 unfold SetTable.bits
 have h1:0≤h % (2 ^ 64:Int):=Int.emod_nonneg _ (by decide)
 have h2:h % (2 ^ 64:Int) < 2 ^ 64:=Int.emod_lt_of_pos _ (by decide)
 omega
theorem slot_free {t:SetTable} (hd:t.dummies = #[]) {c:Nat} (hc:c ∉ t.place.toList):t.slot c = .empty:=by
 rcases slot_nodummy hd (j:=c) with ⟨i,e⟩ | ⟨e,_⟩
 ·unfold SetTable.slot at e
  dsimp only at e
  split at e
  ·rename_i h
   exfalso
   have h':t.place[SetTable.below t.place c]? = some c:=by simpa using h
   exact hc (by have:=Array.mem_of_getElem? h'; simpa using this)
  ·rw [hd,has_none] at e; simp at e
 ·exact e
theorem free_ex {l:List Nat} {n:Nat} (h:l.length < n):∃ c,c < n∧c ∉ l:=by
 apply Classical.byContradiction
 intro hn
 have:∀ x ∈ List.range n,x ∈ l:=fun x hx=>Classical.byContradiction fun q=>hn ⟨x,List.mem_range.mp hx,q⟩
 have:=nodup_sub_len' (us:=List.range n) (ns:=l) List.nodup_range this
 rw [List.length_range] at this
 exact z477 h this
theorem probe_meets {t:SetTable} (hd:t.dummies = #[]) (hm:t.mask = 7∨t.mask = 31) (hs:t.place.size < t.mask + 1) (h:Int):∃ k,k < 10 * SetTable.turns t.mask∧t.slot (advN t k (t.probeStart h)).j = .empty:=by
 refine lG ?_; intro G
 obtain ⟨c,hc,hn⟩:=free_ex (l:=t.place.toList) (n:=t.mask + 1) (by simpa using hs)
 refine lG ?_; intro G
 obtain ⟨n,hn',e⟩:=meet hm (i:=SetTable.bits h % (t.mask + 1)) (p:=SetTable.bits h) (Nat.mod_lt _ (Nat.succ_pos _)) (bits_lt h) hc
 refine lG ?_; intro G
 obtain ⟨k,hk,e'⟩:=adv_leaps t n (SetTable.bits h % (t.mask + 1),SetTable.bits h)
 refine ⟨k,?_,?_⟩
 ·exact z478 hn' hk
 ·have:t.probeStart h = atLeap t (SetTable.bits h % (t.mask + 1),SetTable.bits h):=rfl
  rw [this,e']
  show t.slot (leapN t.mask n _).1 = _
  rw [e]; exact slot_free hd hn
theorem probe_step {t:SetTable} (hd:t.dummies = #[]) {ha:Nat→Int} {h:Int}:∀ (d fuel:Nat) (p:SetTable.Probe),p.dummy = none→d < fuel→t.slot (advN t d p).j = .empty →
  (∃ j,SetTable.probe.go t ha h fuel p = some (.empty j none)∧t.slot j = .empty) ∨
  ((X4 fun j i next e=>N5 (SetTable.probe.go t ha h fuel p = some (.candidate j i next)) (t.slot j = .live i) (e < d) (next.dummy = none) (t.slot (advN t e next).j = .empty)))
 | d,0,p,_,h1,_=>(Nat.not_lt_zero _ h1).elim
 | 0,fuel + 1,p,hp,_,he=>by
  have he':t.slot p.j = .empty:=he
  refine .inl ⟨p.j,?_,he'⟩
  unfold SetTable.probe.go
  rw [he',hp]
 | d + 1,fuel + 1,p,hp,hlt,he=>by
  unfold SetTable.probe.go
  rcases slot_nodummy hd (j:=p.j) with ⟨i,e⟩ | ⟨e,_⟩
  ·rw [e]
   dsimp only
   by_cases hh:(ha i == h) = true
   ·rw [if_pos hh]
    exact .inr ⟨p.j,i,t.advance p,d,rfl,e,Nat.lt_succ_self _,by rw [adv_dummy]; exact hp,he⟩
   ·rw [if_neg hh]
    refine lG ?_; intro G
    rcases probe_step hd d fuel (t.advance p) (by rw [adv_dummy]; exact hp) (z479 hlt) he with h1 | ⟨j,i',next,e',a1,a2,a3,a4,a5⟩
    ·exact .inl h1
    ·exact .inr ⟨j,i',next,e',a1,a2,(z225 a3),a4,a5⟩
  ·rw [e,hp]
   exact .inl ⟨p.j,rfl,e⟩
end Mine
end
section
set_option maxRecDepth 100000
namespace Mine
def occ (owner:Array (Option Nat)):List Nat:=(List.range 32).filterMap fun j=>owner.getD j none
theorem filterMap_congr' {f g:Nat→Option Nat}:∀ {l:List Nat},(∀ y ∈ l,g y = f y)→l.filterMap g = l.filterMap f
 | [],_=>rfl
 | x :: l,h=>by
  have ih:=filterMap_congr' (l:=l) fun y hy=>h y (.tail _ hy)
  have e:=h x (.head _)
  cases hf:f x with
  | none=>rw [List.filterMap_cons_none (e.trans hf),List.filterMap_cons_none hf,ih]
  | some y=>rw [List.filterMap_cons_some (e.trans hf),List.filterMap_cons_some hf,ih]
theorem filterMap_upd {f g:Nat→Option Nat} {j k:Nat} (hf:f j = none) (hg:g j = some k) (hne:∀ x,x≠j→g x = f x):∀ {l:List Nat},l.Nodup→j ∈ l→(l.filterMap g).Perm (k :: l.filterMap f)
 | [],_,h=>by cases h
 | x :: l,hn,h=>by
  obtain ⟨h1,h2⟩:=List.nodup_cons.mp hn
  by_cases hx:x = j
  ·subst hx
   have e:l.filterMap g = l.filterMap f:=filterMap_congr' fun y hy=>hne y fun q=>h1 (q ▸ hy)
   rw [List.filterMap_cons_some hg,List.filterMap_cons_none hf,e]
  ·have hj:j ∈ l:=(List.mem_cons.mp h).resolve_left (fun q=>hx q.symm)
   have ih:=filterMap_upd hf hg hne h2 hj
   have e:=hne x hx
   cases hfx:f x with
   | none=>rw [List.filterMap_cons_none (e.trans hfx),List.filterMap_cons_none hfx]; exact ih
   | some y=>rw [List.filterMap_cons_some (e.trans hfx),List.filterMap_cons_some hfx]; exact (ih.cons y).trans (.swap ..)
theorem free_none {mask:Nat} {owner:Array (Option Nat)}:∀ (fuel i p:Nat),SetTable.layClean.free mask owner fuel i p = none→∀ n,n < fuel→(owner.getD (leapN mask n (i,p)).1 (some 0)).isNone = false
 | 0,i,p,_,n,h=>(Nat.not_lt_zero _ h).elim
 | fuel + 1,i,p,h,n,hn=>by
  unfold SetTable.layClean.free at h
  cases hq:(List.range (SetTable.runEnd mask i + 1 - i)).find? fun k=>(owner.getD (i + k) (some 0)).isNone with
  | some k=>rw [hq] at h; cases h
  | none =>
   rw [hq] at h
   cases n with
   | zero =>
    have h0:0 ∈ List.range (SetTable.runEnd mask i + 1 - i):=List.mem_range.mpr (by unfold SetTable.runEnd; split <;> omega)
    have:=List.find?_eq_none.mp hq 0 h0
    cases q:(owner.getD (leapN mask 0 (i,p)).1 (some 0)).isNone with
    | false=>rfl
    | true=>exact absurd q this
   | succ n=>exact free_none fuel _ _ h n (z479 hn)
theorem free_some {mask:Nat} {owner:Array (Option Nat)}:∀ (fuel i p:Nat) {j:Nat},SetTable.layClean.free mask owner fuel i p = some j→(owner.getD j (some 0)).isNone = true
 | 0,i,p,j,h=>by cases h
 | fuel + 1,i,p,j,h=>by
  unfold SetTable.layClean.free at h
  cases hq:(List.range (SetTable.runEnd mask i + 1 - i)).find? fun k=>(owner.getD (i + k) (some 0)).isNone with
  | some k =>
   rw [hq] at h
   injection h with h
   subst h
   exact (List.find?_some (p:=fun k=>(owner.getD (i + k) (some 0)).isNone) hq:_)
  | none=>rw [hq] at h; exact free_some fuel _ _ h
theorem getD_isNone {owner:Array (Option Nat)} {j:Nat} (h:(owner.getD j (some 0)).isNone = true):j < owner.size∧owner.getD j none = none:=by
 by_cases hj:j < owner.size
 ·refine ⟨hj,?_⟩
  have e1:owner.getD j (some 0) = owner[j]:=by simp [hj]
  have e2:owner.getD j none = owner[j]:=by simp [hj]
  rw [e1] at h; rw [e2]; simpa using h
 ·have e1:owner.getD j (some 0) = some 0:=by simp [hj]
  rw [e1] at h; cases h
theorem lay_one {owner:Array (Option Nat)} (hs:owner.size = 32) {k:Nat} (hp:(occ owner).Perm (List.range k)) (hk:k < 32) (h:Int) :
  (∃ j,N3 (SetTable.layClean.free 31 owner (SetTable.turns 31) (SetTable.bits h % (31 + 1)) (SetTable.bits h) = some j) ((owner.setIfInBounds j (some k)).size = 32) ((occ (owner.setIfInBounds j (some k))).Perm (List.range (k + 1)))):=by
 obtain hex:∃ c,c < 32∧owner.getD c none = none:=by
  apply Classical.byContradiction
  intro hn
  obtain hall:∀ c ∈ List.range 32,(owner.getD c none).isSome = true:=fun c hc=>by
   cases q:owner.getD c none with
   | none=>exact absurd ⟨c,List.mem_range.mp hc,q⟩ hn
   | some x=>rfl
  obtain hlen:(occ owner).length = 32:=by
   have gen:∀ l:List Nat,(∀ c ∈ l,(owner.getD c none).isSome = true)→(l.filterMap fun j=>owner.getD j none).length = l.length:=fun l=>by
    induction l with
    | nil=>intro _; rfl
    | cons x l ih =>
     intro hl
     obtain ⟨y,hy⟩:=Option.isSome_iff_exists.mp (hl x (.head _))
     rw [List.filterMap_cons_some (f:=fun j=>owner.getD j none) hy,List.length_cons,List.length_cons,ih fun c hc=>hl c (.tail _ hc)]
   have:=gen (List.range 32) hall
   simpa [occ] using this
  rw [hp.length_eq,List.length_range] at hlen
  exact z480 hk hlen
 obtain ⟨c,hc,hcn⟩:=hex
 cases hf:SetTable.layClean.free 31 owner (SetTable.turns 31) (SetTable.bits h % (31 + 1)) (SetTable.bits h) with
 | none =>
  exfalso
  obtain ⟨n,hn,e⟩:=meet (mask:=31) (.inr rfl) (i:=SetTable.bits h % (31 + 1)) (p:=SetTable.bits h) (Nat.mod_lt _ (Nat.succ_pos _)) (bits_lt h) hc
  have:=free_none _ _ _ hf n (by exact z481 hn)
  rw [e] at this
  have e1:owner.getD c (some 0) = owner.getD c none:=by simp [show c < owner.size by exact z482 hs hc]
  rw [e1,hcn] at this; cases this
 | some j =>
  obtain ⟨hj,hjn⟩:=getD_isNone (free_some _ _ _ hf)
  refine ⟨j,rfl,by rw [Array.size_setIfInBounds]; exact hs,?_⟩
  have hu:(occ (owner.setIfInBounds j (some k))).Perm (k :: occ owner):=by
   refine filterMap_upd (j:=j) hjn ?_ (fun x hx=>?_) List.nodup_range (List.mem_range.mpr (z483 hs hj))
   ·simp [hj]
   ·by_cases hxs:x < owner.size
    ·simp [hxs,Array.getElem_setIfInBounds,Ne.symm hx]
    ·simp [hxs]
  refine hu.trans ((hp.cons k).trans ?_)
  rw [List.range_succ]
  exact (List.perm_append_singleton k (List.range k)).symm
theorem lay_fold:∀ (hs:List Int) (owner:Array (Option Nat)) (k:Nat),owner.size = 32→(occ owner).Perm (List.range k)→k + hs.length≤32 →
  (∃ owner',N3 (hs.foldl (fun acc h=>do
   let (owner,k) ← acc
   let j ← SetTable.layClean.free 31 owner (SetTable.turns 31) (SetTable.bits h % (31 + 1)) (SetTable.bits h)
   pure (owner.setIfInBounds j (some k),k + 1)) (some (owner,k)) = some (owner',k + hs.length)) (owner'.size = 32) ((occ owner').Perm (List.range (k + hs.length))))
 | [],owner,k,h1,h2,_=>⟨owner,rfl,h1,h2⟩
 | h :: hs,owner,k,h1,h2,h3=>by
  rw [List.length_cons] at h3
  obtain ⟨j,hj,s',p'⟩:=lay_one h1 h2 (z484 h3) h
  obtain ⟨owner',e,a,b⟩:=lay_fold hs (owner.setIfInBounds j (some k)) (k + 1) s' p' (z485 h3)
  refine ⟨owner',?_,a,?_⟩
  ·rw [List.foldl_cons]
   have:(do
     let (owner,k) ← (some (owner,k):Option (Array (Option Nat) × Nat))
     let j ← SetTable.layClean.free 31 owner (SetTable.turns 31) (SetTable.bits h % (31 + 1)) (SetTable.bits h)
     pure (owner.setIfInBounds j (some k),k + 1)) = some (owner.setIfInBounds j (some k),k + 1):=by
    show (SetTable.layClean.free 31 owner (SetTable.turns 31) (SetTable.bits h % (31 + 1)) (SetTable.bits h) >>= fun j=>pure (owner.setIfInBounds j (some k),k + 1)) = _
    rw [hj]; rfl
   rw [this,e,List.length_cons]
   congr 2; exact z486
  ·rw [List.length_cons,show k + (hs.length + 1) = k + 1 + hs.length from z38]; exact b
theorem live_snd (f:Nat→Option Nat):∀ l:List Nat,(l.filterMap fun j=>(f j).map fun x=>(j,x)).map (fun q=>q.2) = l.filterMap f
 | []=>rfl
 | x :: l=>by
  have ih:=live_snd f l
  cases hf:f x with
  | none=>rw [List.filterMap_cons_none (by rw [hf]; rfl),List.filterMap_cons_none hf,ih]
  | some y=>rw [List.filterMap_cons_some (b:=(x,y)) (by rw [hf]; rfl),List.filterMap_cons_some hf,List.map_cons,ih]
theorem laid31 {f m:Nat} {l p:Bool} {hashes:Array Int} (hn:hashes.size≤32):(X2 fun t o=>N7 (SetTable.laid 31 f m l p hashes = some (t,o)) (t.mask = 31) (t.place.size = hashes.size) (o.toList.Perm (List.range hashes.size)) (t.dummies = #[]) (t.led = l) (t.plain = p)):=by
 refine lG ?_; intro G
 obtain ⟨owner',e,hs,hp⟩:=lay_fold hashes.toList (Array.replicate (31 + 1) none) 0 (by simp) (by
  have:occ (Array.replicate (31 + 1) none) = []:=by decide
  rw [this]; exact .refl _) (by simpa using hn)
 rw [Nat.zero_add,Array.length_toList] at e hp
 obtain hc:SetTable.layClean 31 hashes = some owner':=by
  unfold SetTable.layClean
  rw [← Array.foldl_toList]
  rw [e]; rfl
 obtain hsnd:=live_snd (fun j=>owner'.getD j none) (List.range (31 + 1))
 obtain hperm:((((List.range (31 + 1)).filterMap fun j=>(owner'.getD j none).map fun x=>(j,x)).map (fun q=>q.2)).toArray).toList.Perm (List.range hashes.size):=by
  show (((List.range (31 + 1)).filterMap fun j=>(owner'.getD j none).map fun x=>(j,x)).map (fun q=>q.2)).Perm _
  rw [hsnd]; exact hp
 refine ⟨_,_,by unfold SetTable.laid; rw [hc]; rfl,rfl,?_,hperm,rfl,rfl,rfl⟩
 have:=hperm.length_eq
 simpa using this
end Mine
end
section
set_option maxRecDepth 100000
namespace Mine
theorem node_item {prog:Program} {w:World} {nd:Node} {t:Tok} {vs:List Value} (hN:Ns vs nd.2) {j:Nat} (hj:j < (Value.str nd.1 t :: vs).toArray.size) :
  ∃ x,(nk nd)[j]? = some x∧(mixKind prog w).is x (Value.str nd.1 t :: vs).toArray[j] = true:=by
 refine lG ?_; intro G
 cases j with
 | zero=>exact ⟨.inl nd.1,rfl,mix_str ..⟩
 | succ j =>
  have hj':j < vs.length:=by simpa using hj
  refine lG ?_; intro G
  obtain ⟨n,u,en,e⟩:=hN.of (List.getElem?_eq_getElem hj')
  refine ⟨.inr (n:Int),?_,?_⟩
  ·show (nd.2.map fun (k:Nat)=>(Sum.inr (k:Int):Str ⊕ Int))[j]? = _
   rw [List.getElem?_map,en]; rfl
  ·have:(Value.str nd.1 t :: vs).toArray[j + 1] = .int (n:Int) u:=by simpa using e
   rw [this]; exact mix_int ..
theorem nk_all {a b:Node}:((List.range (min (nk a).length (nk b).length)).all (fun j=>decide ((nk a)[j]? = (nk b)[j]?)) && (nk a).length == (nk b).length) = decide (a = b):=by
 rw [Bool.eq_iff_iff,Bool.and_eq_true,List.all_eq_true,decide_eq_true_eq,beq_iff_eq]
 constructor
 ·rintro ⟨hall,hl⟩
  refine nk_inj (List.ext_getElem? fun i=>?_)
  by_cases hi:i < (nk a).length
  ·simpa using hall i (List.mem_range.mpr (z487 hl hi))
  ·rw [List.getElem?_eq_none (z82 hi),List.getElem?_eq_none (z251 hl hi)]
 ·rintro rfl
  exact ⟨fun i _=>by simp,rfl⟩
theorem NodeH.inj {h:Heap} {v:Value} {a b:Node} (x:NodeH h v a) (y:NodeH h v b):a = b:=by
 refine lG ?_; intro G
 obtain ⟨x,k,t,vs,rfl,e,hN⟩:=x
 refine lG ?_; intro G
 obtain ⟨x',k',t',vs',e1,e',hN'⟩:=y
 cases e1
 have:=e.symm.trans e'
 injection this with this
 injection this with _ _ h3 _
 injection h3 with h3 _
 obtain h4:(Value.str a.1 t :: vs) = (Value.str b.1 t' :: vs'):=by
  have:=congrArg Array.toList h3
  simpa using this
 rw [List.cons.injEq] at h4
 obtain ⟨h5,rfl⟩:=h4
 injection h5 with h5 _
 obtain h6:a.2 = b.2:=by
  obtain h7:a.2.map some = b.2.map some:=hN.symm.trans hN'
  exact (List.map_inj_right (fun _ _ e=>Option.some.inj e)).mp h7
 exact Prod.ext h5 h6
theorem tupEqH {A:Around} {s:Shared} {u v:Value} {x y:Node} (hu:A.units < cLine) (hx:NodeH s.heap u x) (hy:NodeH s.heap v y):PySem.SeqAt.EqAt A s u v (decide (x = y)):=by
 by_cases hab:u = v
 ·subst hab
  rw [show decide (x = y) = true from decide_eq_true (hx.inj hy)]
  exact PySem.SeqAt.EqAt.same _
 ·obtain ⟨a,k,t,vs,rfl,e,hN⟩:=hx
  refine lG ?_; intro G
  obtain ⟨b,k',t',vs',rfl,e',hN'⟩:=hy
  refine PySem.SeqAt.EqAt.of_refs (fun q=>hab (by rw [q])) ?_
  have hsz:(Value.str x.1 t :: vs).toArray.size = (nk x).length:=by unfold nk; simp [hN.length]
  have hsz':(Value.str y.1 t' :: vs').toArray.size = (nk y).length:=by unfold nk; simp [hN'.length]
  have key:=PySem.SeqAt.RcAt.tuples (A:=A) (s:=s) (e:=fun j=>decide ((nk x)[j]? = (nk y)[j]?)) (isTuple_of e) (isTuple_of e') hu (fun j h1 h2=>fun prog w E Q hq=>?_)
  ·rw [hsz,hsz',nk_all] at key
   exact key
  ·refine lG ?_; intro G
   obtain ⟨u,eu,hu⟩:=node_item (prog:=prog) (w:=w) hN h1
   refine lG ?_; intro G
   obtain ⟨v,ev,hv⟩:=node_item (prog:=prog) (w:=w) hN' h2
   refine (mixKind prog w).eqBool hu hv ?_
   have:decide ((nk x)[j]? = (nk y)[j]?) = decide (u = v):=by rw [eu,ev]; simp
   rw [← this]; exact hq
section
variable {prog:Program} {w:World} {A:Around} {E:Value→Shared→Prop} {s:Shared}
theorem forIn_still {α β:Type} {b:β} {body:α→β→Sem (ForInStep β)} {R:β→Shared→Prop}:∀ {l:List α},(∀ y ∈ l,∀ (R':ForInStep β→Shared→Prop),R' (.yield b) s→wpAny (model prog w) A (body y b) R' E s)→R b s→wpAny (model prog w) A (forIn l b body) R E s
 | [],_,h=>by rw [List.forIn_nil]; exact wpAny_pure h
 | y :: l,hb,h=>by
  rw [List.forIn_cons]
  refine wpAny_bind (hb y (.head _) _ ?_)
  exact forIn_still (l:=l) (fun z hz=>hb z (.tail _ hz)) h
theorem node_items {v:Value} {nd:Node} (hx:NodeH s.heap v nd):(X3 fun a k ws=>N4 (v = .ref a) (s.heap.get? a = some (tup ws k)) (((X2 fun f r=>ws = f :: r∧∃ x t,f = .str x t))) (∀ y ∈ ws,carriedByValue y = true)):=by
 obtain ⟨a,k,t,ws,rfl,g,hN⟩:=hx
 refine ⟨a,k,_,rfl,g,⟨_,_,rfl,_,_,rfl⟩,fun y hy=>?_⟩
 rcases List.mem_cons.mp hy with rfl | hy
 ·rfl
 ·obtain ⟨i,hi⟩:=List.mem_iff_getElem?.mp hy
  obtain ⟨n,t,_,rfl⟩:=hN.of hi
  rfl
theorem quietTup {v:Value} {nd:Node} {Q:Bool→Shared→Prop} (hx:NodeH s.heap v nd) (h:Q true s):wpAny (model prog w) A (eqIsQuiet 8 v) Q E s:=by
 obtain ⟨a,k,ws,rfl,g,_,hc⟩:=node_items hx
 obtain hT:s.TypeIs (.ref a) "tuple":=⟨_,g,rfl⟩
 unfold eqIsQuiet
 refine wpAny_bind (wpAny_specialOf hT PySem.F.slot_tuple_eq.lookup ?_)
 refine wpAny_bind (wpAny_isInstance (T:="tuple") (b:=true) hT (by rw [isSubtype_type]; kernel_rfl) ?_)
 rw [if_neg (by decide)]
 refine wpAny_bind (wpAny_seqItems g rfl ?_)
 rw [← Array.forIn_toList]
 refine wpAny_bind (forIn_still (l:=ws) (fun y hy R' hR=>?_) ?_)
 ·obtain hq:eqIsQuiet 7 y = pure true:=by
   have:=hc y hy
   cases y <;> first | rfl | cases this
  rw [hq]
  exact wpAny_bind (wpAny_pure (wpAny_pure hR))
 ·exact wpAny_pure h
theorem classTup {v:Value} {nd:Node} {Q:Bool→Shared→Prop} (hx:NodeH s.heap v nd) (h:Q false s):wpAny (model prog w) A (ofAClassStatement 8 v) Q E s:=by
 obtain ⟨a,k,ws,rfl,g,_,hc⟩:=node_items hx
 obtain hT:s.TypeIs (.ref a) "tuple":=⟨_,g,rfl⟩
 unfold ofAClassStatement
 refine wpAny_bind (wpAny_typeOf hT ?_)
 dsimp only
 rw [if_pos (by decide)]
 refine wpAny_bind (wpAny_pure ?_)
 rw [if_neg (by decide)]
 refine wpAny_bind (wpAny_seqItems g rfl ?_)
 dsimp only
 rw [← Array.forIn_toList]
 refine wpAny_bind (forIn_still (l:=ws) (fun y hy R' hR=>?_) ?_)
 ·obtain hq:ofAClassStatement 7 y = pure false:=by
   have:=hc y hy
   cases y <;> first | rfl | cases this
  rw [hq]
  exact wpAny_bind (wpAny_pure (wpAny_pure hR))
 ·exact wpAny_pure h
theorem hashTup {v:Value} {nd:Node} {Q:Bool→Shared→Prop} (hx:NodeH s.heap v nd) (h:Q false s):wpAny (model prog w) A (hashByValue 8 v) Q E s:=by
 refine lG ?_; intro G
 obtain ⟨a,k,ws,rfl,g,⟨f,r,rfl,x,t,rfl⟩,hc⟩:=node_items hx
 obtain hT:s.TypeIs (.ref a) "tuple":=⟨_,g,rfl⟩
 refine wpAny_bind (wpAny_specialOf hT PySem.F.slot_tuple_hash.lookup ?_)
 refine wpAny_bind (wpAny_seqItems g rfl ?_)
 rw [← Array.forIn_toList]
 show wpAny _ _ (forIn (Value.str x t :: r) _ _ >>= _) _ _ _
 rw [List.forIn_cons]
 obtain hq:hashByValue 7 (Value.str x t) = pure false:=rfl
 rw [hq]
 exact wpAny_bind (wpAny_bind (wpAny_bind (wpAny_pure (wpAny_pure (wpAny_pure (wpAny_pure h))))))
theorem seenTup {v:Value} {nd:Node} {stored:List Value} {Q:Bool→Shared→Prop} (hx:NodeH s.heap v nd) (hs:∀ y ∈ stored,∃ nd,NodeH s.heap y nd) (h:Q false s):wpAny (model prog w) A (searchCouldBeSeen v stored) Q E s:=by
 refine wpAny_bind (forIn_still (fun y hy R' hR=>?_) ?_)
 ·obtain ⟨ny,hny⟩:=hs y hy
  refine wpAny_ite_split (fun _=>wpAny_pure hR) (fun _=>?_)
  refine wpAny_bind (quietTup hx ?_)
  rw [if_neg (by decide)]
  refine wpAny_bind (quietTup hny ?_)
  rw [if_neg (by decide)]
  refine wpAny_bind (classTup hx ?_)
  rw [if_neg (by decide)]
  refine wpAny_bind (classTup hny ?_)
  rw [if_neg (by decide)]
  exact wpAny_pure hR
 ·exact wpAny_pure h
structure TT (L:Bool) (t:SetTable) (n:Nat):Prop where
 ok:TOk L t n
 mas:(t.mask = 7∧n≤4)∨(t.mask = 31∧n≤7)
theorem slot_live {t:SetTable} {j i:Nat} (h:t.slot j = .live i):t.place[i]? = some j:=by
 unfold SetTable.slot at h
 dsimp only at h
 split at h
 ·rename_i q
  injection h with h
  subst h
  simpa using q
 ·split at h <;> cases h
theorem searchFrom {a:Addr} {es:Array (Int × Value)} {ep:Nat} {t:SetTable} {x:Value} {nd:Node} {h:Int} {L:Bool} {Q:SetFound→Shared→Prop} (hs:s.heap.get? a = some (setObj es ep t)) (T:TT L t es.size) (hu:A.units < cLine)
  (hx:NodeH s.heap x nd) (hes:∀ e ∈ es.toList,∃ nd',NodeH s.heap e.2 nd')
  (h0:(∃ e ∈ es.toList,NodeH s.heap e.2 nd)→Q (.there none) s) (h1:∀ slot,Q (.free slot false) s) :
  ∀ (d fuel:Nat) (stand:Option SetTable.Probe),d < fuel→d < 10 * SetTable.turns t.mask→(stand.getD (t.probeStart h)).dummy = none→t.slot (advN t d (stand.getD (t.probeStart h))).j = .empty →
   wpAny (model prog w) A (setSearchFrom a x h true fuel stand) Q E s:=by
 intro d
 induction d using Nat.strongRecOn with
 | ind d ih =>
 intro fuel stand hf hd hdum hemp
 obtain ⟨fuel,rfl⟩:∃ f,fuel = f + 1:=⟨fuel - 1,(z488 hf)⟩
 refine wpAny_bind (wpAny_setState_of hs rfl T.ok.fits ?_)
 dsimp only
 obtain hg:t.gaveWay = false:=by
  unfold SetTable.gaveWay
  rcases T.mas with ⟨q,_⟩ | ⟨q,_⟩ <;> (rw [q]; rfl)
 rw [if_neg (by rw [hg]; decide)]
 generalize hP:SetTable.probe t _ h (stand.getD (t.probeStart h)) = met
 obtain ⟨ha,hP⟩:∃ ha,SetTable.probe t ha h (stand.getD (t.probeStart h)) = met:=⟨_,hP⟩
 have hP':SetTable.probe.go t ha h (10 * SetTable.turns t.mask) (stand.getD (t.probeStart h)) = met:=hP
 rcases probe_step T.ok.nod (ha:=ha) (h:=h) d (10 * SetTable.turns t.mask) (stand.getD (t.probeStart h)) hdum hd hemp with ⟨j,e,he⟩ | ⟨j,i,next,d',e,hlive,hlt,hnd,hne⟩
 ·rw [e] at hP'
  subst hP'
  dsimp only
  exact wpAny_pure (h1 j)
 ·rw [e] at hP'
  subst hP'
  dsimp only
  have hpi:=slot_live hlive
  have hie:i < es.size:=by
   have h1:=(Array.getElem?_eq_some_iff.mp hpi).1
   obtain h2:=fits_size T.ok.fits
   exact z489 h1 h2
  obtain hmem:es[i] ∈ es.toList:=by simp
  obtain ⟨ny,hny⟩:=hes _ hmem
  obtain hsame:t.sameMemory t.moves t.mask = some true:=by unfold SetTable.sameMemory; rw [if_pos (by simp)]
  rw [Array.getElem?_eq_getElem hie]
  dsimp only
  obtain hst:∀ y ∈ (es.filter (fun x=>x.1 == h)).toList.map (·.2),∃ nd,NodeH s.heap y nd:=fun y hy=>by
   obtain ⟨e',he',rfl⟩:=List.mem_map.mp hy
   have:e' ∈ es.filter (fun x=>x.1 == h):=by simpa using he'
   exact hes e' (by have:=(Array.mem_filter.mp this).1; simpa using this)
  refine wpAny_ite_split (fun _=>wpAny_bind (seenTup hx hst (wpAny_ite_split (fun hab=>absurd hab (by decide)) (fun _=>?_)))) (fun _=>?_)
  all_goals
   refine wpAny_bind (wpAny_holding ((tupEqH hu hny hx) _ _ _ _ ?_))
   refine wpAny_bind (wpAny_setState_of hs rfl T.ok.fits ?_)
   dsimp only
   rw [hsame]
   refine wpAny_ite_split (fun heq=>?_) (fun hneq=>?_)
   ·have:ny = nd:=by simpa using heq
    subst this
    exact wpAny_pure (h0 ⟨es[i],hmem,hny⟩)
   ·dsimp only
    rw [if_pos rfl,hlive]
    dsimp only
    rw [Array.getElem?_eq_getElem hie]
    dsimp only
    obtain ⟨b,hb⟩:∃ b,es[i].2 = .ref b:=by obtain ⟨b,_,_,_,q,_⟩:=hny; exact ⟨b,q⟩
    rw [hb]
    refine wpAny_bind (wpAny_isSame_ref_self ?_)
    refine wpAny_bind (wpAny_pure ?_)
    rw [if_pos rfl]
    dsimp only
    obtain hdec:¬ decide (ny = nd) = true:=by simpa using hneq
    rw [if_neg hdec]
    exact ih d' hlt fuel (some next) (by omega) (by omega) hnd hne
end
end Mine
end
section
set_option maxRecDepth 100000
namespace Mine
theorem laid_perm {es:Array (Int × Value)} {o:Array Nat} (h:o.toList.Perm (List.range es.size)):(o.filterMap (es[·]?)).toList.Perm es.toList:=by
 have e:(o.filterMap (es[·]?)).toList = o.toList.filterMap (es[·]?):=by simp
 rw [e,← filterMap_getElem?_range es]
 exact h.filterMap _
section
variable {prog:Program} {w:World} {A:Around} {E:Value→Shared→Prop} {s:Shared}
theorem relay5 {a:Addr} {es:Array (Int × Value)} {ep:Nat} {t:SetTable} {L:Bool} {Q:Unit→Shared→Prop} (hs:s.heap.get? a = some (setObj es ep t)) (T:TOk L t es.size) (hn:es.size = 5) (hp:t.plain = false)
  (h:∀ es' t' ep' h',TT L t' es'.size→es'.toList.Perm es.toList→h'.get? a = some (setObj es' ep' t')→Heap.SameBut a s.heap h'→Q () { s with heap:=h' }):wpAny (model prog w) A (setRelay a (SetTable.grown 5)) Q E s:=by
 obtain e20:SetTable.grown 5 = 20:=rfl
 obtain e32:SetTable.sizeAbove 20 = 32:=by decide
 rw [e20]
 refine wpAny_bind (wpAny_setState_of hs rfl T.fits ?_)
 dsimp only
 rw [e32,if_neg (by rw [sizeLine_eq]; exact z490)]
 obtain ⟨t',o,hl,a1,a2,a3,a4,a5,a6⟩:=laid31 (f:=t.finger) (m:=t.movedTo (32 - 1)) (l:=t.led) (p:=t.plain) (hashes:=es.map (·.1)) (by rw [Array.size_map]; exact z491 hn)
 obtain hr:t.relaid (es.map (·.1)) 20 = some (t',o):=by
  unfold SetTable.relaid
  rw [e32]; exact hl
 rw [Array.size_map] at a2 a3
 obtain hperm:=laid_perm a3
 obtain hsz:(o.filterMap (es[·]?)).size = es.size:=by rw [← Array.length_toList,hperm.length_eq,Array.length_toList]
 rw [hr]
 refine wpAny_bind ?_
 show wpAny _ _ (do
  if (o.filterMap (es[·]?)).size != es.size then unsupported "internal:set-table-lost-an-element"
  pure (o.filterMap (es[·]?),t')) _ _ _
 rw [if_neg (by rw [hsz]; simp)]
 refine wpAny_pure ?_
 refine wpAny_storeSet_of hs rfl ?_ (by rw [hsz,sizeLine_eq]; exact z492 hn)
 refine h _ t' _ _ ⟨⟨?_,a4,by rw [a5]; exact T.led,fun q=>by rw [a6,hp] at q; cases q⟩,.inr ⟨a1,by rw [hsz]; exact z493 hn⟩⟩ hperm (setobj_at hs) (Heap.SameBut.update ..)
 unfold SetTable.fits SetTable.fill
 rw [a2,hsz,a4,a1]
 simp; exact z494 hn
theorem addTupTail {a:Addr} {es es1:Array (Int × Value)} {ep:Nat} {t t2:SetTable} {L:Bool} {Q:Bool→Shared→Prop} (hs:s.heap.get? a = some (setObj es ep t)) (T:TOk L t2 es1.size) (hp:t2.plain = false) (hsz:es1.size = es.size + 1)
  (hm:(t2.mask = 7∧es.size≤4)∨(t2.mask = 31∧es.size≤6))
  (h:∀ es' t' ep' h',TT L t' es'.size→es'.toList.Perm es1.toList→h'.get? a = some (setObj es' ep' t')→Heap.SameBut a s.heap h'→Q true { s with heap:=h' }) :
  wpAny (model prog w) A (do
   storeSet a es1 t2
   if (!false && t2.tooFull) = true then do
    setRelay a (SetTable.grown (es.size + 1))
    pure true
   else pure true) Q E s:=by
 have hfill:t2.fill = es1.size:=by unfold SetTable.fill; rw [fits_size T.fits,T.nod]; simp
 refine wpAny_bind (wpAny_storeSet_of hs rfl ?_ (by rw [hsz,sizeLine_eq]; rcases hm with ⟨_,q⟩ | ⟨_,q⟩ <;> omega))
 have ho1:=setobj_at (es':=es1) (t':=t2) hs
 obtain hsb1:=Heap.SameBut.update s.heap a (Obj.putSet es1 t2)
 by_cases h5:es1.size = 5∧t2.mask = 7
 ·obtain hfull:(!false && t2.tooFull) = true:=by
   unfold SetTable.tooFull
   rw [hfill,h5.1,h5.2]; decide
  rw [if_pos hfull,← hsz,h5.1]
  refine wpAny_bind (relay5 (s:={ s with heap:=s.heap.update a (Obj.putSet es1 t2) }) ho1 T h5.1 hp fun es' t' ep' h' c1 c2 c3 c4=>?_)
  exact wpAny_pure (h es' t' ep' h' c1 c2 c3 (hsb1.trans c4))
 ·obtain hnf:¬ (!false && t2.tooFull) = true:=by
   unfold SetTable.tooFull
   rw [hfill]
   rcases hm with ⟨q,q2⟩ | ⟨q,q2⟩
   ·rw [q]
    have:es1.size≠5:=fun q3=>h5 ⟨q3,q⟩
    simp; exact z495 hsz q2 this
   ·rw [q]; simp; exact z496 hsz q2
  rw [if_neg hnf]
  refine wpAny_pure (h es1 t2 _ _ ⟨T,?_⟩ (List.Perm.refl _) ho1 hsb1)
  rcases hm with ⟨q,q2⟩ | ⟨q,q2⟩
  ·have:es1.size≠5:=fun q3=>h5 ⟨q3,q⟩
   exact .inl ⟨q,(z497 hsz q2 this)⟩
  ·exact .inr ⟨q,(z498 hsz q2)⟩
theorem setAddTup {a:Addr} {es:Array (Int × Value)} {ep:Nat} {t:SetTable} {x:Value} {nd:Node} {h:Int} {L:Bool} {Q:Bool→Shared→Prop} (hs:s.heap.get? a = some (setObj es ep t)) (T:TT L t es.size) (hn:es.size≤6) (hu:A.units < cLine)
  (hx:NodeH s.heap x nd) (hes:∀ e ∈ es.toList,∃ nd',NodeH s.heap e.2 nd')
  (h0:(∃ e ∈ es.toList,NodeH s.heap e.2 nd)→Q false s)
  (h1:∀ es' t' ep' h',TT L t' es'.size→es'.toList.Perm (es.toList ++ [(h,x)])→h'.get? a = some (setObj es' ep' t')→Heap.SameBut a s.heap h'→Q true { s with heap:=h' }) :
  wpAny (model prog w) A (setAddHashed a x h) Q E s:=by
 have hsc:byScan x es = false:=by
  obtain ⟨b,_,_,_,rfl,_⟩:=hx
  rfl
 have hmask:t.mask = 7∨t.mask = 31:=by rcases T.mas with ⟨q,_⟩ | ⟨q,_⟩ <;> simp [q]
 have hps:=fits_size T.ok.fits
 unfold setAddHashed setAddHashedIn
 refine wpAny_holding (wpAny_bind (wpAny_setState_of hs rfl T.ok.fits ?_))
 dsimp only
 rw [hsc]
 simp only [Bool.false_eq_true,if_false]
 obtain ⟨d,hd,hemp⟩:=probe_meets T.ok.nod hmask (by rcases T.mas with ⟨q,_⟩ | ⟨q,_⟩ <;> omega) h
 have ht:10 * SetTable.turns t.mask≤460:=by unfold SetTable.turns; rcases hmask with q | q <;> omega
 have hsearch:wpAny (model prog w) A (setSearch a x h true) (fun r s'=>s' = s∧((∃ slot,r = .free slot false)∨(r = .there none∧∃ e ∈ es.toList,NodeH s.heap e.2 nd))) (fun _ _=>False) s :=
  searchFrom (Q:=fun r s'=>s' = s∧((∃ slot,r = .free slot false)∨(r = .there none∧∃ e ∈ es.toList,NodeH s.heap e.2 nd))) hs T hu hx hes (fun q=>⟨rfl,.inr ⟨rfl,q⟩⟩) (fun slot=>⟨rfl,.inl ⟨slot,rfl⟩⟩) d 100000 none (z499 hd ht) hd rfl hemp
 refine wpAny_bind (wpAny_mono hsearch (fun r s' hq=>?_) fun _ _ f=>f.elim)
 obtain ⟨rfl,hq⟩:=hq
 rcases hq with ⟨slot,rfl⟩ | ⟨rfl,hq⟩
 ·dsimp only
  refine wpAny_bind (wpAny_setState_of hs rfl T.ok.fits ?_)
  dsimp only
  have hperm:(SetTable.insertAt es (t.put slot).2 (h,x)).toList.Perm (es.toList ++ [(h,x)]):=by
   have:=SetTable.insertAt_perm es (t.put slot).2 (h,x)
   rwa [Array.toList_push] at this
  have hsz:(SetTable.insertAt es (t.put slot).2 (h,x)).size = es.size + 1:=by rw [← Array.length_toList,hperm.length_eq,List.length_append,Array.length_toList]; rfl
  have hpsz:(t.put slot).1.place.size = es.size + 1:=by
   show (SetTable.insertAt t.place _ slot).size = _
   have:=SetTable.insertAt_perm t.place (SetTable.below t.place slot) slot
   rw [← Array.length_toList,this.length_eq,Array.toList_push,List.length_append,Array.length_toList,hps]; rfl
  have hpd:(t.put slot).1.dummies = #[]:=by
   unfold SetTable.put; dsimp only; rw [T.ok.nod,has_none]; rfl
  have hmas:(t.mask = 7∧es.size≤4)∨(t.mask = 31∧es.size≤6):=by
   rcases T.mas with q | ⟨q,_⟩
   ·exact .inl q
   ·exact .inr ⟨q,hn⟩
  have hTok:∀ t2:SetTable,t2.place = (t.put slot).1.place→t2.dummies = (t.put slot).1.dummies→t2.mask = t.mask→t2.led = t.led→t2.plain = false→TOk L t2 (SetTable.insertAt es (t.put slot).2 (h,x)).size:=fun t2 b1 b2 b3 b4 b5=>by
   refine ⟨?_,b2.trans hpd,b4.trans T.ok.led,fun q=>by rw [b5] at q; cases q⟩
   unfold SetTable.fits SetTable.fill
   rw [b1,b2,hpsz,hpd,hsz,b3]
   rcases hmas with ⟨q,q2⟩ | ⟨q,q2⟩ <;> (rw [q]; simp; omega)
  obtain fin:∀ es' t' ep' h',TT L t' es'.size→es'.toList.Perm (SetTable.insertAt es (t.put slot).2 (h,x)).toList→h'.get? a = some (setObj es' ep' t')→Heap.SameBut a s'.heap h'→Q true { s' with heap:=h' } :=
   fun es' t' ep' h' c1 c2 c3 c4=>h1 es' t' ep' h' c1 (c2.trans hperm) c3 c4
  refine wpAny_ite_split (fun hpl=>?_) (fun hpl=>?_)
  ·refine wpAny_bind (hashTup hx ?_)
   exact addTupTail (t2:={ (t.put slot).1 with plain:=false }) hs (hTok _ rfl rfl rfl rfl rfl) rfl hsz hmas fin
  ·refine wpAny_bind (wpAny_pure ?_)
   obtain hpf:(t.put slot).1.plain = false:=by simpa using hpl
   exact addTupTail (t2:=(t.put slot).1) hs (hTok _ rfl rfl rfl rfl hpf) hpf hsz hmas fin
 ·exact wpAny_pure (h0 hq)
end
end Mine
end
section
set_option maxRecDepth 100000
namespace Mine
section
variable {P:Par} {A:Around} {env:Env} {W:List Addr} {α β:Type} {σ σ':Store} {m:Vars}
def NdInv (σ:Store) (w:World) (vs:List Value) (nds:List Node) (i:Nat) (es:Array (Int × Value)) (t:SetTable):Prop :=
 TT (ledOf w) t es.size∧es.size≤i∧(∀ e ∈ es.toList,e.2 ∈ vs)∧∀ j nd,j < i→nds[j]? = some nd→∃ e ∈ es.toList,NodeAt σ e.2 nd
theorem NodeAt.atH {v:Value} {nd:Node} {h:Heap} (x:NodeAt σ v nd) (k:∀ a o,σ a = some o→h.get? a = some o):NodeH h v nd:=by
 obtain ⟨a,kk,t,vs,rfl,e,hN⟩:=x
 exact ⟨a,kk,t,vs,rfl,k _ _ e,hN⟩
theorem oSetNd {l:Addr} {vs:List Value} {nds:List Node} {n:Nat} {Q:Value→Store→Prop} (hR:Rm A 4) (e:σ l = some (lst vs n)) (hN:All2 (fun nd v=>NodeAt σ v nd) nds vs) (hz:nds.length≤7)
  (h:∀ a o uv,σ a = none→IsSet P o uv→uv.length≤vs.length→(∀ v ∈ uv,v ∈ vs)→(∀ nd ∈ nds,∃ v ∈ uv,NodeAt σ v nd)→Q (.ref a) (σ.set a o)):Op P A (call (.type "set") [.ref l]) σ Q:=fun s G=>by
 have hlen:=hN.length
 refine callSetGen hR.handled (isList_of (G.has _ _ e)) (NdInv σ P.w vs nds) ⟨⟨⟨rfl,rfl,rfl,fun _ i k _ hk=>(Nat.not_lt_zero _ hk).elim⟩,.inl ⟨rfl,Nat.zero_le _⟩⟩,Nat.le_refl _,fun e h=>by simp at h,fun j nd hj=>(Nat.not_lt_zero _ hj).elim⟩ ?_ ?_
 ·intro A' S i v s' es ep t Q E hh' hu' hv hB hS0 hS hI hQ
  obtain ⟨T,hsz,hin,hall⟩:=hI
  have hv':vs[i]? = some v:=by simpa using hv
  have hil:i < vs.length:=(List.getElem?_eq_some_iff.mp hv').1
  obtain ⟨nd,hnd,hNd⟩:=hN.get' hv'
  have hk:∀ a o,σ a = some o→s'.heap.get? a = some o:=fun a o q=>hB a o (G.has a o q)
  have hxH:=hNd.atH hk
  obtain hes:∀ e ∈ es.toList,∃ nd',NodeH s'.heap e.2 nd':=fun e he=>by
   refine lG ?_; intro G
   obtain ⟨j,hj⟩:=List.mem_iff_getElem?.mp (hin e he)
   obtain ⟨nd',_,hN'⟩:=hN.get' hj
   exact ⟨nd',hN'.atH hk⟩
  obtain hu:A'.units < cLine:=by have:=hR.units; exact z500 hu' this
  obtain back:∀ {v:Value},v ∈ vs→NodeH s'.heap v nd→NodeAt σ v nd:=fun {v} hv hx=>by
   obtain ⟨j,hj⟩:=List.mem_iff_getElem?.mp hv
   obtain ⟨nd',_,hN'⟩:=hN.get' hj
   rw [hx.inj (hN'.atH hk)]; exact hN'
  obtain ⟨a,kk,tt,ws,rfl,g,hNw⟩:=id hxH
  refine wpAny_holding (wpAny_bind (wpAny_pyHash_tuple (knd:=mixKind P.prog P.w) (ks:=nk nd) hu ?_ ?_))
  ·exact ⟨_,_,kk,g,rfl,rfl,.cons (mix_str _ _ _ _) (items_ns hNw)⟩
  ·refine setAddTup (s:={ s' with toks:=s'.toks + ((nk nd).length + 1) }) hS T (z501 hz hlen hsz hil) hu hxH hes ?_ ?_
   ·rintro ⟨e',he',hx'⟩
    refine hQ es t ep s'.heap _ false (Nat.le_add_right ..) ⟨T,(z51 hsz),hin,fun j nd' hj hnd'=>?_⟩ hS (Heap.SameBut.refl ..)
    rcases Nat.lt_succ_iff_lt_or_eq.mp hj with hj | rfl
    ·exact hall j nd' hj hnd'
    ·rw [hnd] at hnd'; cases hnd'
     exact ⟨e',he',back (hin e' he') hx'⟩
   ·intro es' t' ep' h' T' hp hs' hsb
    refine hQ es' t' ep' h' _ true (Nat.le_add_right ..) ⟨T',?_,fun e' he'=>?_,fun j nd' hj hnd'=>?_⟩ hs' hsb
    ·rw [← Array.length_toList,hp.length_eq,List.length_append,Array.length_toList,List.length_singleton]; exact z127 hsz
    ·rcases List.mem_append.mp (hp.mem_iff.mp he') with he' | he'
     ·exact hin e' he'
     ·rw [List.mem_singleton] at he'; subst he'; exact List.mem_of_getElem? hv'
    ·rcases Nat.lt_succ_iff_lt_or_eq.mp hj with hj | rfl
     ·obtain ⟨e',he',hN'⟩:=hall j nd' hj hnd'
      exact ⟨e',hp.mem_iff.mpr (List.mem_append.mpr (.inl he')),hN'⟩
     ·rw [hnd] at hnd'; cases hnd'
      exact ⟨_,hp.mem_iff.mpr (List.mem_append.mpr (.inr (List.mem_singleton.mpr rfl))),hNd⟩
 ·intro h' tk es ep t ⟨T,hsz,hin,hall⟩ hs hk
  obtain nn:=none_of (h:=s.heap) (Nat.le_refl _)
  obtain hvs:vs.toArray.size = vs.length:=by simp
  refine ⟨_,h _ (setObj es ep t) (es.toList.map (·.2)) (σnone G nn) ⟨es,ep,t,rfl,rfl,T.ok⟩ ?_ (fun v hv=>?_) (fun nd hnd=>?_),Tr.grown G hk nn hs tk (big_of G.base)⟩
  ·rw [List.length_map,Array.length_toList,← hvs]; exact hsz
  ·obtain ⟨e',he',rfl⟩:=List.mem_map.mp hv
   exact hin e' he'
  ·refine lG ?_; intro G
   obtain ⟨j,hj⟩:=List.mem_iff_getElem?.mp hnd
   refine lG ?_; intro G
   obtain ⟨e',he',hN'⟩:=hall j nd (by rw [hvs,← hlen]; exact (List.getElem?_eq_some_iff.mp hj).1) hj
   exact ⟨e'.2,List.mem_map.mpr ⟨e',he',rfl⟩,hN'⟩
end
end Mine
end
section
set_option maxRecDepth 10000
namespace Mine
section
variable {P:Par} {A:Around} {env:Env} {W:List Addr} {α β:Type} {σ σ':Store} {m:Vars} {X:HA} {ρ:Addr→Nat} {s:St}
def Asc (l:List Nat):Prop:=l.Pairwise (· < ·)
theorem asc_of {ms us:List Nat} (hp:ms.Perm us) (hs:ms.Pairwise (·≤·)) (hn:us.Nodup):Asc ms :=
 (hs.and (hp.symm.nodup hn)).imp fun ⟨h1,h2⟩=>Nat.lt_of_le_of_ne h1 h2
theorem asc_ext:∀ {l l':List Nat},Asc l→Asc l'→(∀ x,x ∈ l ↔ x ∈ l')→l = l'
 | [],[],_,_,_=>rfl
 | [],y :: _,_,_,h=>absurd ((h y).mpr (.head _)) (by simp)
 | x :: _,[],_,_,h=>absurd ((h x).mp (.head _)) (by simp)
 | x :: l,y :: l',h1,h2,h=>by
  obtain ⟨a1,a2⟩:=List.pairwise_cons.mp h1
  obtain ⟨b1,b2⟩:=List.pairwise_cons.mp h2
  have hxy:x = y:=by
   rcases List.mem_cons.mp ((h x).mp (.head _)) with q | q
   ·exact q
   ·rcases List.mem_cons.mp ((h y).mpr (.head _)) with q' | q'
    ·exact q'.symm
    ·have:=a1 y q'; have:=b1 x q; omega
  subst hxy
  rw [asc_ext a2 b2 fun z=>⟨fun hz=>?_,fun hz=>?_⟩]
  ·rcases List.mem_cons.mp ((h z).mp (.tail _ hz)) with q | q
   ·have:=a1 z hz; omega
   ·exact q
  ·rcases List.mem_cons.mp ((h z).mpr (.tail _ hz)) with q | q
   ·have:=b1 z hz; omega
   ·exact q
theorem xSortedSet {pos pos' np np':Pos} {e:PySem.Expr} {Q:Value→Store→Vars→Prop} (O:P.Ok) (hR:Rm A 4) (hx:env.kindOf "sorted" = some .globalImplicit) (hx2:env.kindOf "set" = some .globalImplicit) (e1:nsIn P.K mainGlobals "sorted" = some none) (e2:nsIn P.K mainGlobals "set" = some none)
  (h:WP P A env W (eval e env) σ m (fun v σ m=>(X4 fun l vs n ns=>N6 (v = .ref l) (σ l = some (lst vs n)) (Ns vs ns) (ns.length≤1000) ((∀ x ∈ ns,x < 60)) (∀ ms b ws k σ',Asc ms→(∀ x,x ∈ ms ↔ x ∈ ns)→Le σ σ'→σ b = none→σ' b = some (lst ws k)→Ns ws ms→Q (.ref b) σ' m)))) (hp:plainE e = true:=by rfl)
  (hk:env.scope.kind = .function:=by rfl) (hg:env.globals = mainGlobals:=by rfl) (hbn:env.builtins = builtinsNs:=by rfl) :
  WP P A env W (eval (.Call (.Name "sorted" np) [.Call (.Name "set" np') [e] [] pos'] [] pos) env) σ m Q:=by
 refine lq ?_; intro K
 refine xCallB O boot_sorted' hx e1 ?_ (hk:=hk) (hg:=hg) (hbn:=hbn)
 refine lq ?_; intro K
 refine xCallT O boot_set hx2 e2 ?_ (hk:=hk) (hg:=hg) (hbn:=hbn) (hp:=by rw [List.all_cons,hp]; rfl)
 refine h.mono fun v σ m q=>?_
 obtain ⟨l,vs,n,ns,rfl,el,hN,hz,h60,hQ⟩:=q
 refine lqE ?_; intro K
 refine (xOp (oSetNs hR el hN (z194 hz) fun a o us uv ha hS hN' hnd hmem=>?_))
 obtain hul:us.length≤60:=nodup_le hnd fun x hx=>h60 x ((hmem x).mp hx)
 refine lqE ?_; intro K
 refine (xOp (oSortedNSet hR (Store.set_same ..) hS hN' (z195 hul) fun ms b ws k hp hs hb hw=>?_))
 obtain hab:σ b = none:=none_less (Le.new ha) hb
 exact hQ ms b ws k _ (asc_of hp hs hnd) (fun x=>(hp.mem_iff).trans (hmem x)) ((Le.new ha).trans (Le.new hb)) hab (Store.set_same ..) hw
end
end Mine
end
section
set_option maxRecDepth 10000
namespace Mine
def adp (s:St) (nd:Node):St:={ s with nodes:=s.nodes ++ [nd],abv:=fun i=>if i = s.n then [] else if i ∈ nd.2 then s.abv i ++ [s.n] else s.abv i }
section
variable {P:Par} {A:Around} {env:Env} {W:List Addr} {α β:Type} {σ σ':Store} {m:Vars} {X:HA} {ρ:Addr→Nat} {s:St}
theorem Roles.give {na:Addr} {c:Nat} {σ₂:Store} (R:Roles X ρ σ) (hna:σ na = none) (ena:σ₂ na≠none) (al:∀ x,σ x≠none→σ₂ x≠none):Roles X (fun x=>if x = na then c else ρ x) σ₂:=by
 have hf:∀ x,ρ x≠0→(if x = na then c else ρ x) = ρ x:=fun x hx=>if_neg (fun (q:x = na)=>hx (q ▸ R.free na hna))
 refine ⟨?_,?_,?_,?_,?_,?_,?_,?_,?_,?_,?_,?_,?_,?_,?_,?_,?_,?_,fun x hx=>?_⟩
 ·exact (hf _ (by rw [R.h]; decide)).trans R.h
 ·exact (hf _ (by rw [R.hd]; decide)).trans R.hd
 ·exact (hf _ (by rw [R.b]; decide)).trans R.b
 ·exact (hf _ (by rw [R.bd]; decide)).trans R.bd
 ·exact (hf _ (by rw [R.u]; decide)).trans R.u
 ·exact (hf _ (by rw [R.ud]; decide)).trans R.ud
 ·exact (hf _ (by rw [R.nl]; decide)).trans R.nl
 ·exact (hf _ (by rw [R.wl]; decide)).trans R.wl
 ·exact (hf _ (by rw [R.dl]; decide)).trans R.dl
 ·exact (hf _ (by rw [R.nu]; decide)).trans R.nu
 ·exact (hf _ (by rw [R.ab]; decide)).trans R.ab
 ·exact (hf _ (by rw [R.lo]; decide)).trans R.lo
 ·exact (hf _ (by rw [R.me]; decide)).trans R.me
 ·exact (hf _ (by rw [R.ed]; decide)).trans R.ed
 ·exact (hf _ (by rw [R.fo]; decide)).trans R.fo
 ·exact (hf _ (by rw [R.kn]; decide)).trans R.kn
 ·exact (hf _ (by rw [R.av]; decide)).trans R.av
 ·exact (hf _ (by rw [R.wt]; decide)).trans R.wt
 ·have hxn:x≠na:=fun q=>by subst q; exact ena hx
  show (if x = na then _ else ρ x) = 0
  rw [if_neg hxn]
  exact R.free x (Classical.byContradiction fun q=>al x q hx)
theorem Roles.re {ρ':Addr→Nat} (R:Roles X ρ σ) (h:∀ a,σ a≠none→ρ' a = ρ a) (h2:∀ a,ρ' a≠0→σ' a≠none):Roles X ρ' σ':=by
 obtain g:∀ a,ρ a≠0→ρ' a = ρ a:=fun a ha=>h a fun q=>ha (R.free a q)
 refine ⟨?_,?_,?_,?_,?_,?_,?_,?_,?_,?_,?_,?_,?_,?_,?_,?_,?_,?_,fun x hx=>Classical.byContradiction fun q=>h2 x q hx⟩
 ·exact (g _ (by rw [R.h]; decide)).trans R.h
 ·exact (g _ (by rw [R.hd]; decide)).trans R.hd
 ·exact (g _ (by rw [R.b]; decide)).trans R.b
 ·exact (g _ (by rw [R.bd]; decide)).trans R.bd
 ·exact (g _ (by rw [R.u]; decide)).trans R.u
 ·exact (g _ (by rw [R.ud]; decide)).trans R.ud
 ·exact (g _ (by rw [R.nl]; decide)).trans R.nl
 ·exact (g _ (by rw [R.wl]; decide)).trans R.wl
 ·exact (g _ (by rw [R.dl]; decide)).trans R.dl
 ·exact (g _ (by rw [R.nu]; decide)).trans R.nu
 ·exact (g _ (by rw [R.ab]; decide)).trans R.ab
 ·exact (g _ (by rw [R.lo]; decide)).trans R.lo
 ·exact (g _ (by rw [R.me]; decide)).trans R.me
 ·exact (g _ (by rw [R.ed]; decide)).trans R.ed
 ·exact (g _ (by rw [R.fo]; decide)).trans R.fo
 ·exact (g _ (by rw [R.kn]; decide)).trans R.kn
 ·exact (g _ (by rw [R.av]; decide)).trans R.av
 ·exact (g _ (by rw [R.wt]; decide)).trans R.wt
def up1 (s:St) (c n:Nat):St:={ s with abv:=fun i=>if i = c then s.abv c ++ [n] else s.abv i }
theorem HInv.up1 {c n:Nat} {t:Tok} {a:Addr} {vs:List Value} {k k2:Nat} (I:HInv P X ρ σ s) (_hc:c < s.n) (_rc:s.r c = c) (hρ:ρ a = 101 + 2 * c) (e:σ a = some (lst vs k)) (hN:Ns vs (s.abv c)) {l:NKV} (D:DN P σ X.av l) (hll:l.length≤s.n) (h:∀ i,i < s.n→s.r i = i→(X3 fun a vs k=>N4 (l.lookup i = some (.ref a)) (ρ a = 101 + 2 * i) (σ a = some (lst vs k)) (Ns vs (s.abv i)))) (hl:l.lookup c = some (.ref a)) :
  HInv P X ρ (σ.set a (lst (vs ++ [.int (n:Nat) t]) k2)) (up1 s c n):=by
 obtain kA:KpR (fun d=>d≠101 + 2 * c) ρ σ (σ.set a (lst (vs ++ [.int (n:Nat) t]) k2)):=kpr_set e hρ
 obtain al:=alive_set (σ:=σ) (a:=a) (o:=lst (vs ++ [.int (n:Nat) t]) k2)
 obtain ea:(σ.set a (lst (vs ++ [.int (n:Nat) t]) k2)) a = some (lst (vs ++ [.int (n:Nat) t]) k2):=Store.set_same ..
 generalize (σ.set a (lst (vs ++ [.int (n:Nat) t]) k2)) = σ₂ at *
 refine ⟨I.R.al al,I.B.keep I.R (kA.mono fun c h=>by unfold bRole at h; exact z196 h),I.U.keep I.R (kA.mono fun c h=>by unfold uRole at h; exact z197 h) (fun _ _=>rfl),
  ⟨I.H.instK I.R (kA.mono fun c h=>(z198 h)),I.H.edK I.R (kA.mono fun c h=>(z199 h)),I.H.foK I.R (kA.mono fun c h=>(z200 h)),I.H.knK I.R (kA.mono fun c h=>(z201 h)),?_,I.H.wtK I.R (kA.mono fun c h=>(z202 h))⟩⟩
 refine ⟨l,D.keep fun o _ e=>kA _ o (.inl (by rw [I.R.av]; exact z203)) e,hll,fun i hi hr=>?_⟩
 show (X3 fun a vs k=>N4 (l.lookup i = some (.ref a)) (ρ a = 101 + 2 * i) (σ₂ a = some (lst vs k)) (Ns vs (if i = c then s.abv c ++ [n] else s.abv i)))
 refine lG ?_; intro G
 by_cases q:i = c
 ·subst q
  exact ⟨a,_,_,hl,hρ,ea,by rw [if_pos rfl]; exact hN.append (Ns.one _ _)⟩
 ·refine lG ?_; intro G
  obtain ⟨a',v',k',z1,z2,z3,z4⟩:=h i hi hr
  exact ⟨a',v',k',z1,z2,kA _ _ (.inl (by rw [z2]; exact z204 q)) z3,by rw [if_neg q]; exact z4⟩
noncomputable def fdAdd (p:Params):{fd:FuncData // fdIn (Mine.hd.heap_1 p) 366 = some fd}:=⟨_,rfl⟩
theorem cAdd (O:P.Ok) {x:Str} {ka:Addr} {kv:List Value} {kk:Nat} {ks:List Nat} {t:Tok} {Q:Value→Store→Prop} (hR:Rm A 24) (I:HInv P X ρ σ s) (hid:∀ i,s.r i = i) (hx:opOk x) (ek:σ ka = some (tup kv kk)) (hN:Ns kv ks) (hnew:(x,ks) ∉ s.nodes) (hks:∀ k ∈ ks,k < s.n) (h10:ks.length≤10) (h50:s.n < 50)
  (bd:Bd (adp s (x,ks))) (h:∀ v σ' ρ',Ext ρ σ ρ' σ'→HInv P X ρ' σ' (lk (adp s (x,ks)) s.n)→Q v σ'):COp P A (.call (.ref 366) ⟨[.ref X.h,.str x t,.ref ka],[]⟩) σ Q:=by
 refine oCall O (fdAdd _).2 hR rfl rfl rfl rfl rfl rfl (fun L=>?_) rfl rfl rfl
 intro env A' W m0 Q'
 have hR':Rm A' 23:=hR.deeper
 have hh:=hR'.handled
 obtain ⟨t1,Ih⟩:=I.H.inst
 refine xCons (lq ?_); intro K
 refine xAssignName (xCallMeth ?_)
 refine lq ?_; intro K
 refine xAttribute (xName (xLoadCell rfl rfl rfl ?_))
 refine lq ?_; intro K
 refine xOp (oGetAttr O Ih rfl rfl rfl fun pl=>?_)
 refine lq ?_; intro K
 refine xOp (oGetMethod O I.B.inst rfl rfl ⟨kept_fn O (fdTake _).2,?_⟩)
 refine lqE ?_; intro K
 refine (xName (xLoad rfl rfl ?_))
 refine lqE ?_; intro K
 refine (xName (xLoad rfl rfl (evNil ?_)))
 refine lq ?_; intro K
 refine xOp (oOf (cTake O (hR'.mono z205) I.R I.B hx ek hN hnew hks h10 h50 fun tn σ₁ al1 kp1 B1=>?_))
 have R1:=I.R.al al1
 have U1:UInv X ρ σ₁ s.n s.r:=I.U.keep I.R (kp1.mono fun c h=>by unfold uRole at h; exact z206 h) fun _ _=>rfl
 have H1:HPart P X ρ σ₁ s:=I.H.keep I.R (kp1.mono fun c h=>by unfold hRole at h; exact z207 h) fun _ _=>rfl
 have X1:Ext ρ σ ρ σ₁:=⟨fun _ _=>rfl,kp1.mono fun c h=>(z208 h),al1⟩
 obtain ek1:σ₁ ka = some (tup kv kk):=kp1 _ _ (.inr rfl) ek
 obtain ⟨t2,Ih1⟩:=H1.inst
 refine lq ?_; intro K
 refine xStore rfl rfl (List.mem_cons_self ..) ?_
 refine lq ?_; intro K
 refine xCons (lq ?_); intro K
 refine xIf (xTrueCompare (xName (xLoad rfl rfl ?_)))
 refine lq ?_; intro K
 refine xCallMeth (xAttribute (xName (xLoadCell rfl rfl rfl ?_)))
 refine xOp (oGetAttr O Ih1 rfl rfl rfl fun pl=>?_)
 refine xOp (oGetMethod O U1.find.inst rfl rfl ⟨kept_fn O (fdUSize _).2,evNil ?_⟩)
 refine xOp (oOf (cUSize O (hR'.mono z209) U1.find fun t3=>?_))
 refine xOp (oLt (xTruthyBool ⟨fun hf=>by simp at hf,fun _=>xNil ?_⟩))
 refine xCons (lq ?_); intro K
 refine xExpr (xCallMeth ?_)
 refine xAttribute (xName (xLoadCell rfl rfl rfl ?_))
 refine xOp (oGetAttr O Ih1 rfl rfl rfl fun pl=>?_)
 refine xOp (oGetMethod O U1.find.inst rfl rfl ⟨kept_fn O (fdUMake _).2,evNil ?_⟩)
 refine xOp (oOf (cUMake O (hR'.mono z210) R1 U1 (hid _) (fun x hx=>by rw [hid]; exact hx) (z211 h50) fun t4 σ₂ ρ₂ hρ2 hf2 al2 kp2 U2=>?_))
 obtain R2:Roles X ρ₂ σ₂:=R1.re hρ2 hf2
 obtain B2:BInv P X σ₂ (s.nodes ++ [(x,ks)]):=B1.keep R1 (kp2.mono fun c h=>by unfold bRole at h; exact z212 h)
 obtain H2:HPart P X ρ₂ σ₂ s:=H1.keep R1 (kp2.mono fun c h=>by unfold hRole at h; exact z213 h) hρ2
 obtain X2:Ext ρ σ ρ₂ σ₂:=X1.trans ⟨hρ2,kp2.mono fun c h=>(z214 h),al2⟩
 obtain ek2:σ₂ ka = some (tup kv kk):=kp2 _ _ (.inr rfl) ek1
 refine lG ?_; intro G
 obtain ⟨t5,Ih2⟩:=H2.inst
 obtain ⟨al,Dl,hal,hav⟩:=H2.av
 refine xCons (lq ?_); intro K
 refine xAssignSub (xList (fun na hna=>?_))
 obtain le2:Le σ₂ (σ₂.set na (lst [] 0)):=Le.new hna
 obtain ena:(σ₂.set na (lst [] 0)) na = some (lst [] 0):=Store.set_same ..
 generalize (σ₂.set na (lst [] 0)) = σ₃ at *
 revert σ₃; refine keep ?_; intro σ₃; set_option tactic.hygienic false in intros
 obtain Ih3:=Ih2.ext (fun o e=>le2 _ _ e) (fun o e=>le2 _ _ e)
 refine xAttribute (xName (xLoadCell rfl rfl rfl ?_))
 refine xOp (oGetAttr O Ih3 rfl rfl rfl ?_)
 refine lq ?_; intro K
 refine xName (xLoad rfl rfl ?_)
 obtain Dl3:DN P σ₃ X.av al:=Dl.keep fun o _ e=>le2 _ _ e
 refine lq ?_; intro K
 refine xOp (oDSet Dl3 (z215 h50 hal) fun o4 D4=>?_)
 obtain ⟨oav,eav,hav4⟩:=Dl3
 have hdav:oav.cls = .type "dict":=by obtain ⟨_,_,z,_⟩:=hav4; exact z.1
 have kA:KpR (fun d=>d≠17) ρ₂ σ₃ (σ₃.set X.av o4):=kpr_setD eav hdav R2.av
 have alA:=alive_set (σ:=σ₃) (a:=X.av) (o:=o4)
 have nane:na≠X.av:=fun q=>by subst q; exact lst_dict ena eav hdav
 have ena4:(σ₃.set X.av o4) na = some (lst [] 0):=(Store.set_ne nane).trans ena
 generalize (σ₃.set X.av o4) = σ₄ at *
 revert σ₄; refine keep ?_; intro σ₄; set_option tactic.hygienic false in intros
 have k24:KpR (fun d=>d≠17) ρ₂ σ₂ σ₄:=(KpR.le le2).trans kA
 have al24:∀ x,σ₂ x≠none→σ₄ x≠none:=fun x hx=>alA x fun q=>hx (none_less le2 q)
 have ek4:σ₄ ka = some (tup kv kk):=k24 _ _ (.inr rfl) ek2
 have hρ3:∀ x,σ₂ x≠none→(fun x=>if x = na then 101 + 2 * s.n else ρ₂ x) x = ρ₂ x:=fun x hx=>by
  show (if x = na then _ else _) = _
  exact if_neg (fun (q:x = na)=>hx (q ▸ hna))
 have I4:HInv P X (fun x=>if x = na then 101 + 2 * s.n else ρ₂ x) σ₄ { s with nodes:=s.nodes ++ [(x,ks)],abv:=fun i=>if i = s.n then [] else s.abv i }:=by
  have hn1:(s.nodes ++ [(x,ks)]).length = s.n + 1:=by rw [List.length_append,List.length_singleton]
  have hn2:St.n { s with nodes:=s.nodes ++ [(x,ks)],abv:=fun i=>if i = s.n then [] else s.abv i } = s.n + 1:=hn1
  refine ⟨R2.give hna (by rw [ena4]; intro q; exact ns q) al24,B2.keep R2 (k24.mono fun c h=>by unfold bRole at h; exact z216 h),?_,
   ⟨H2.instK R2 (k24.mono fun c h=>(z217 h)),H2.edK R2 (k24.mono fun c h=>(z218 h)),?_,H2.knK R2 (k24.mono fun c h=>(z219 h)),⟨_,D4,?_,fun i hi hr=>?_⟩,H2.wtK R2 (k24.mono fun c h=>(z220 h))⟩⟩
  ·rw [hn2]; exact U2.keep R2 (k24.mono fun c h=>by unfold uRole at h; exact z221 h) hρ3
  ·obtain ⟨fv,fk,ef,hf⟩:=H2.foK R2 (k24.mono fun c h=>(z222 h))
   refine ⟨fv,fk,ef,?_⟩
   rw [hn2]
   show fv.length + cls (s.n + 1) s.r≤s.n + 1
   rw [cls_id _ _ (hid _)]; exact z91 hf
  ·show (dput al s.nodes.length (.ref na)).length≤(s.nodes ++ [(x,ks)]).length
   rw [hn1]; exact Nat.le_trans (length_dput al s.nodes.length (.ref na)) (Nat.succ_le_succ hal)
  ·rw [hn2] at hi
   show (X3 fun a vs k=>N4 ((dput al s.n (.ref na)).lookup i = some (.ref a)) ((if a = na then 101 + 2 * s.n else ρ₂ a) = 101 + 2 * i) (σ₄ a = some (lst vs k)) (Ns vs (if i = s.n then [] else s.abv i)))
   by_cases q:i = s.n
   ·rw [q]
    exact ⟨na,_,_,by rw [lookup_dput,if_pos rfl],if_pos rfl,ena4,by rw [if_pos rfl]; exact Ns.nil⟩
   ·refine lG ?_; intro G
    obtain ⟨a',v',k',z1,z2,z3,z4⟩:=hav i (z46 hi q) hr
    obtain hne':a'≠na:=fun q=>by subst q; rw [hna] at z3; exact nn z3
    exact ⟨a',v',k',by rw [lookup_dput,if_neg q]; exact z1,by rw [if_neg hne']; exact z2,k24 _ _ (.inl (by rw [z2]; exact z154)) z3,by rw [if_neg q]; exact z4⟩
 have X4:Ext ρ σ (fun x=>if x = na then 101 + 2 * s.n else ρ₂ x) σ₄:=X2.trans ⟨hρ3,k24.mono fun c h=>(z223 h),al24⟩
 generalize (fun x=>if x = na then 101 + 2 * s.n else ρ₂ x) = ρ₄ at *
 revert ρ₄; refine keep ?_; intro ρ₄; set_option tactic.hygienic false in intros
 have hn4:St.n { s with nodes:=s.nodes ++ [(x,ks)],abv:=fun i=>if i = s.n then [] else s.abv i } = s.n + 1:=by show (s.nodes ++ [(x,ks)]).length = _; rw [List.length_append,List.length_singleton]
 refine lq ?_; intro K
 refine xCons (lq ?_); intro K
 refine xForX (ξ:=Nat) ?_
 refine lq ?_; intro K
 refine xSortedSet O (hR'.mono z209) rfl rfl rfl rfl ?_
 refine lq ?_; intro K
 refine xListCompG ⟨rfl,rfl,rfl,rfl,rfl⟩ ?_
 refine lq ?_; intro K
 refine xName (xLoad rfl rfl ?_)
 refine compGo_map ks _ _ (fun _=>true) (fun y v _=>∃ t,v = .int (y:Nat) t) (srx_tuple (k:=kk) hh (Ns.all2.mp hN)) (fun p hp=>by rw [List.mem_singleton] at hp; subst hp; exact ek4) (z102 h10) (fun _ _ _ _ h _=>h) (fun _=>rfl) rfl rfl ?_ ?_
 ·rintro C y v σ' m'' hy ⟨u,rfl⟩ hle hm' hmx
  refine ⟨⟨rfl,rfl,rfl⟩,fun _=>?_⟩
  have I5:=I4.le hle
  refine lG ?_; intro G
  obtain ⟨_,Ih5⟩:=I5.H.inst
  obtain hyn:=hks y hy
  refine lq ?_; intro K
  refine xCallMeth (xName (xLoadCell rfl rfl (hm' _ (by decide)) fun pl=>?_))
  refine lq ?_; intro K
  refine xOp (oGetMethod O Ih5 rfl rfl ⟨kept_fn O (fdHFind _).2,?_⟩)
  refine lqE ?_; intro K
  refine (xName (xLoad rfl hmx (evNil ?_)))
  refine lq ?_; intro K
  exact xOp (oOf (cHFind O (hR'.mono z224) I5 (by rw [hn4]; exact z225 hyn) fun t=>⟨Le.refl _,rfl,t,by show Value.int (s.r y:Nat) t = _; rw [hid]⟩))
 intro D ws kw σ₅ le5 hD eD h2
 obtain hNs:Ns ws ks:=by
  rw [Ns.all2]
  rwa [show (ks.filter fun _=>true) = ks from by simp] at h2
 refine ⟨D,ws,kw,ks,rfl,eD,hNs,(z226 h10),fun x hx=>by have:=hks x hx; exact z227 h50 this,fun ms b bws bk σ₆ hasc hmem le6 hb eb hNb=>?_⟩
 generalize hm₀:Vars.set _ "n" (Value.int (s.nodes.length:Nat) tn) = m₀
 obtain m₀s:m₀ "self" = some (.ref X.h):=by rw [← hm₀]; rfl
 have m₀n:m₀ "n" = some (.int (s.n:Nat) tn):=by rw [← hm₀]; rfl
 have hbρ:ρ₄ b = 0:=I4.R.free b (none_less le5 hb)
 refine ⟨ms,_,_,fun i σ' m'=>σ' b = some (lst bws bk)∧Ext ρ σ ρ₄ σ'∧HInv P X ρ₄ σ' { s with nodes:=s.nodes ++ [(x,ks)],abv:=fun i'=>if i' = s.n then [] else if i' ∈ ms.take i then s.abv i' ++ [s.n] else s.abv i' }∧∀ z:Str,z≠"c"→m' z = m₀ z,srx_list (k:=bk) hh (Ns.all2.mp hNb),?_,?_,?_,?_⟩
 ·rintro i σ' m' ⟨h1,_⟩ p hp
  rw [List.mem_singleton] at hp; subst hp; exact h1
 ·refine ⟨eb,X4.trans (Ext.le (Le.trans le5 le6)),?_,fun _ _=>rfl⟩
  have:=(I4.le le5).le le6
  simpa using this
 ·rintro i c v σ' m' hc ⟨tc,rfl⟩ ⟨eb',X',I',hm⟩
  have hcm:c ∈ ms:=List.mem_of_getElem? hc
  have hck:c ∈ ks:=(hmem c).mp hcm
  have hcn:c < s.n:=hks c hck
  have hcne:c≠s.n:=(z45 hcn)
  have hnt:c ∉ ms.take i:=fun hm'=>by
   refine lG ?_; intro G
   obtain ⟨j,hj⟩:=List.mem_iff_getElem?.mp hm'
   have hji:j < i:=by
    have:=(List.getElem?_eq_some_iff.mp hj).1
    rw [List.length_take] at this; exact z228 this
   rw [List.getElem?_take_of_lt hji] at hj
   refine lG ?_; intro G
   obtain ⟨h1,h1'⟩:=List.getElem?_eq_some_iff.mp hj
   refine lG ?_; intro G
   obtain ⟨h2,h2'⟩:=List.getElem?_eq_some_iff.mp hc
   have:=List.pairwise_iff_getElem.mp hasc j i h1 h2 hji
   omega
  refine lG ?_; intro G
  obtain ⟨t7,Ih7⟩:=I'.H.inst
  refine lG ?_; intro G
  obtain ⟨al7,D7,hal7,hav7⟩:=I'.H.av
  refine lG ?_; intro G
  obtain ⟨a7,v7,k7,z1,z2,z3,z4⟩:=hav7 c (by show c < (s.nodes ++ [(x,ks)]).length; rw [List.length_append,List.length_singleton]; have:c < s.nodes.length:=hcn; exact z225 this) (hid c)
  have z4':Ns v7 (s.abv c):=by
   have:=z4
   dsimp only at this
   rwa [if_neg hcne,if_neg hnt] at this
  refine lq ?_; intro K
  refine xStore rfl rfl (List.mem_cons_self ..) ?_
  refine lq ?_; intro K
  refine xLast (lq ?_); intro K
  refine xExpr (xCallMeth ?_)
  refine lq ?_; intro K
  refine xSubscript (T:="dict") slot_dict_getitem.lookup (xAttribute (xName (xLoadCell rfl rfl ((hm _ (by decide)).trans m₀s) ?_)))
  refine lq ?_; intro K
  refine xOp (oGetAttr O Ih7 rfl rfl rfl ?_)
  refine lq ?_; intro K
  refine xName (xLoad rfl rfl ⟨D7.ty,xOp (oDGet D7 z1 fun pl=>?_)⟩)
  refine lq ?_; intro K
  refine xOp (oMethAppend z3 ⟨kept_builtin _,?_⟩)
  refine lqE ?_; intro K
  refine (xName (xLoad rfl ((hm _ (by decide)).trans m₀n) (evNil ?_)))
  obtain hab:=bd.ab
  obtain hv7:v7.length≤1000000:=by
   have h1:=bd.ab c (by show c < (s.nodes ++ [(x,ks)]).length; rw [List.length_append,List.length_singleton]; have:c < s.nodes.length:=hcn; exact z225 this) (hid c)
   have h2:(adp s (x,ks)).abv c = s.abv c ++ [s.n]:=by show (if c = s.n then _ else _) = _; rw [if_neg hcne,if_pos hck]
   rw [h2,List.length_append] at h1
   have:=z4'.length
   exact z229 h1 this
  refine lq ?_; intro K
  refine xOp (oAppend z3 hv7 fun n7=>?_)
  have I8:=I'.up1 (n:=s.n) (t:=tn) (k2:=n7) (c:=c) (by show c < (s.nodes ++ [(x,ks)]).length; rw [List.length_append,List.length_singleton]; have:c < s.nodes.length:=hcn; exact z225 this) (hid c) z2 z3 z4 D7 hal7 hav7 z1
  obtain kA7:KpR (fun d=>d≠101 + 2 * c) ρ₄ σ' (σ'.set a7 (lst (v7 ++ [.int (s.n:Nat) tn]) n7)):=kpr_set z3 z2
  obtain al7':=alive_set (σ:=σ') (a:=a7) (o:=lst (v7 ++ [.int (s.n:Nat) tn]) n7)
  refine ⟨?_,X'.trans ⟨fun _ _=>rfl,kA7.mono fun d h=>(z230 h),al7'⟩,?_,fun z hz=>?_⟩
  ·rw [Store.set_ne]
   ·exact eb'
   ·rintro rfl; rw [z2] at hbρ; exact z231 hbρ
  ·refine (congrArg (HInv P X ρ₄ _) ?_).mp I8
   unfold Mine.up1
   dsimp only
   congr 1
   funext i'
   rw [if_neg hcne,if_neg hnt]
   have htk:∀ y,y ∈ ms.take (i + 1) ↔ y ∈ ms.take i∨y = c:=fun y=>by
    rw [List.take_add_one,hc]; simp
   by_cases q:i' = c
   ·subst q
    rw [if_pos rfl,if_neg hcne,if_pos ((htk _).mpr (.inr rfl))]
   ·rw [if_neg q]
    by_cases q2:i' = s.n
    ·rw [if_pos q2,if_pos q2]
    ·rw [if_neg q2,if_neg q2]
     by_cases q3:i' ∈ ms.take i
     ·rw [if_pos q3,if_pos ((htk _).mpr (.inl q3))]
     ·rw [if_neg q3,if_neg fun h'=>((htk _).mp h').elim q3 q]
  ·show (if z = "c" then _ else _) = _
   rw [if_neg hz]; exact hm z hz
 ·rintro σ' m' ⟨_,X',I',hm⟩
  have I9:HInv P X ρ₄ σ' (adp s (x,ks)):=by
   refine (congrArg (HInv P X ρ₄ _) ?_).mp I'
   unfold adp
   congr 1
   funext i'
   rw [List.take_length]
   by_cases q2:i' = s.n
   ·rw [if_pos q2,if_pos q2]
   ·rw [if_neg q2,if_neg q2]
    by_cases q3:i' ∈ ms
    ·rw [if_pos q3,if_pos ((hmem _).mp q3)]
    ·rw [if_neg q3,if_neg fun h'=>q3 ((hmem _).mpr h')]
  refine lG ?_; intro G
  obtain ⟨t8,Ih8⟩:=I9.H.inst
  refine lq ?_; intro K
  refine xCons (lq ?_); intro K
  refine xExpr (xCallMeth ?_)
  refine lq ?_; intro K
  refine xName (xLoadCell rfl rfl ((hm _ (by decide)).trans m₀s) fun pl=>?_)
  refine lq ?_; intro K
  refine xOp (oGetMethod O Ih8 rfl rfl ⟨kept_fn O (fdLook _).2,?_⟩)
  refine lqE ?_; intro K
  refine (xName (xLoad rfl ((hm _ (by decide)).trans m₀n) (evNil ?_)))
  refine lq ?_; intro K
  refine xOp (oOf (cLook O (hR'.mono z232) I9 (by show s.nodes.length < (s.nodes ++ [(x,ks)]).length; rw [List.length_append,List.length_singleton]; exact z86) bd fun σ'' ρ'' X'' I''=>?_))
  refine lq ?_; intro K
  refine xLast (lq ?_); intro K
  refine xReturn (xName (xLoad rfl ((hm _ (by decide)).trans m₀n) ?_))
  exact h _ σ'' ρ'' (X'.trans X'') I''
end
end Mine
end
section
set_option maxRecDepth 10000
namespace Mine
def St.nd (s:St) (m:Nat):Node:=(s.nodes[m]?).getD ("",[])
theorem St.nd_get {s:St} {m:Nat} (h:m < s.n):s.nodes[m]? = some (s.nd m):=by unfold St.nd; rw [List.getElem?_eq_getElem h]; rfl
section
variable {P:Par} {A:Around} {env:Env} {W:List Addr} {α β:Type} {σ σ':Store} {m:Vars} {X:HA} {ρ:Addr→Nat} {s:St}
theorem node_stay (f:Nat→Node) (y:Nat) (v:Value):Stay (fun σ=>NodeAt σ v (f y)):=fun _ _ h k=>h.mono fun a o ht e=>k a o (by unfold isLst; rw [ht]; decide) e
noncomputable def fdNodesOf (p:Params):{fd:FuncData // fdIn (Mine.hd.heap_1 p) 441 = some fd}:=⟨_,rfl⟩
theorem cNodesOf (O:P.Ok) {c:Nat} {t:Tok} {Q:Value→Store→Prop} (hR:Rm A 14) (I:HInv P X ρ σ s) (hc:c < s.n) (h7:s.n≤7)
  (h:∀ b ws k σ',Le σ σ'→σ b = none→σ' b = some (lst ws k)→ws.length≤7→(∀ v ∈ ws,∃ m,m < s.n∧s.r m = s.r c∧NodeAt σ' v (sig s.r (s.nd m)))→(∀ m,m < s.n→s.r m = s.r c→∃ v ∈ ws,NodeAt σ' v (sig s.r (s.nd m)))→Q (.ref b) σ') :
  COp P A (.call (.ref 441) ⟨[.ref X.h,.int (c:Nat) t],[]⟩) σ Q:=by
 refine oCall O (fdNodesOf _).2 hR rfl rfl rfl rfl rfl rfl (fun L=>?_) rfl rfl rfl
 intro env A' W m0 Q'
 obtain hR':Rm A' 13:=hR.deeper
 obtain hh:=hR'.handled
 refine lG ?_; intro G
 obtain ⟨t1,Ih⟩:=I.H.inst
 refine lq ?_; intro K
 refine xLast (xReturn (xCallB O boot_sorted' rfl rfl ?_))
 refine lq ?_; intro K
 refine xCallT O boot_set rfl rfl ?_
 refine lq ?_; intro K
 refine xListCompG ⟨rfl,rfl,rfl,rfl,rfl⟩ ?_
 refine lq ?_; intro K
 refine xCallMeth (xName (xLoadCell rfl rfl rfl fun pl=>?_))
 refine lq ?_; intro K
 refine xOp (oGetMethod O Ih rfl rfl ⟨kept_fn O (fdHMem _).2,?_⟩)
 refine lqE ?_; intro K
 refine (xName (xLoad rfl rfl ?_))
 refine lq ?_; intro K
 refine xOp (oOf (cHMem O (hR'.mono z233) I hc fun ms l ws k hM hl hN=>?_))
 obtain le1:Le σ (σ.set l (lst ws k)):=Le.new hl
 obtain el:(σ.set l (lst ws k)) l = some (lst ws k):=Store.set_same ..
 generalize (σ.set l (lst ws k)) = σ₁ at *
 revert σ₁; refine keep ?_; intro σ₁; set_option tactic.hygienic false in intros
 obtain I1:=I.le le1
 obtain hml:=hM.len
 refine compGo_map ms _ _ (fun _=>true) (fun y v σ=>NodeAt σ v (sig s.r (s.nd y))) (srx_list (k:=k) hh (Ns.all2.mp hN)) (fun p hp=>by rw [List.mem_singleton] at hp; subst hp; exact el) (z234 h7 hml) (fun y v=>node_stay (fun y=>sig s.r (s.nd y)) y v) (fun _=>rfl) rfl rfl ?_ ?_
 ·rintro C y v σ' m'' hy ⟨u,rfl⟩ hle hm' hmx
  refine ⟨⟨rfl,rfl,rfl⟩,fun _=>?_⟩
  obtain I3:=I1.le hle
  refine lG ?_; intro G
  obtain ⟨_,Ih3⟩:=I3.H.inst
  obtain hyn:=((hM.2 y).mp hy).1
  refine lq ?_; intro K
  refine xCallMeth (xName (xLoadCell rfl rfl (hm' _ (by decide)) fun pl=>?_))
  refine lq ?_; intro K
  refine xOp (oGetMethod O Ih3 rfl rfl ⟨kept_fn O (fdHNode _).2,?_⟩)
  refine (xName (xLoad rfl hmx ?_))
  exact xOp (oOf (cHNode O (hR'.mono z233) I3 (St.nd_get hyn) fun T σ'' le N=>⟨le,rfl,N⟩))
 intro D ws' k' σ₂ le2 hD eD h2
 rw [show (ms.filter fun _=>true) = ms from by simp] at h2
 obtain h2':All2 (fun nd v=>NodeAt σ₂ v nd) (ms.map fun y=>sig s.r (s.nd y)) ws':=All2.map_left.mpr h2
 refine (xOp (oSetNd (hR'.mono z235) eD h2' (by rw [List.length_map]; exact z236 h7 hml) fun a o uv ha hS hul huv hall=>?_))
 obtain le3:Le σ₂ (σ₂.set a o):=Le.new ha
 have ea:(σ₂.set a o) a = some o:=Store.set_same ..
 generalize (σ₂.set a o) = σ₃ at *
 revert σ₃; refine keep ?_; intro σ₃; set_option tactic.hygienic false in intros
 have hwl:ws'.length≤7:=by rw [← h2.length]; exact z236 h7 hml
 refine (xOp (oSortedTSet (hR'.mono z235) ea hS (fun v hv=>?_) (z237 hul hwl) fun b ws'' k'' hp hb=>?_))
 ·refine lG ?_; intro G
  obtain ⟨y,_,hy⟩:=h2.mem (huv v hv)
  exact ⟨_,hy.mono fun a o _ e=>le3 a o e⟩
 obtain leA:Le σ (σ₃.set b (lst ws'' k'')):=((le1.trans le2).trans le3).trans (Le.new hb)
 obtain le23:Le σ₂ (σ₃.set b (lst ws'' k'')):=le3.trans (Le.new hb)
 refine h b ws'' k'' _ leA (none_less ((le1.trans le2).trans le3) hb) (Store.set_same ..) (by rw [hp.length_eq]; exact z238 hul hwl) (fun v hv=>?_) fun y hy hr=>?_
 ·refine lG ?_; intro G
  obtain ⟨y,hy,N⟩:=h2.mem (huv v (hp.mem_iff.mp hv))
  refine lG ?_; intro G
  obtain ⟨h1,h3⟩:=(hM.2 y).mp hy
  exact ⟨y,h1,h3,N.mono fun a o _ e=>le23 a o e⟩
 ·refine lG ?_; intro G
  obtain ⟨v,hv,N⟩:=hall _ (List.mem_map.mpr ⟨y,(hM.2 y).mpr ⟨hy,hr⟩,rfl⟩)
  exact ⟨v,hp.mem_iff.mpr hv,N.mono fun a o _ e=>le3.trans (Le.new hb) a o e⟩
end
end Mine
end
section
set_option maxRecDepth 10000
namespace Mine
section
variable {P:Par} {A:Around} {env:Env} {W:List Addr} {α β:Type} {σ σ':Store} {m:Vars} {X:HA} {ρ:Addr→Nat} {s:St} {ξ:Type}
theorem xInnerNs {elt iter:PySem.Expr} {x:Str} {px:Pos} {gens:List Comprehension} {scope:Scope} {pos:Pos} {D:Addr} {ws:List Value} {k:Nat} (fs:List Nat) (g:Nat→Nat) (hh:A.handled = none) (hg:gens[0 + 1]? = some ⟨.Name x px,iter,[],0⟩) (hg2:gens[0 + 1 + 1]? = none)
  (eD:σ D = some (lst ws k)) (hz:ws.length + fs.length≤100000) (hl:env.kindOf x = some .local) (hc:env.cells.lookup x = none) (hW:env.locals ∈ W) (hk:env.scope.kind = .function)
  (hi:WP P A env W (eval iter env) σ m (fun v σ₁ m₁=>m₁ = m∧Le σ σ₁∧(X2 fun a vs=>N3 (v = .ref a) (σ₁ a = some (tup vs 0)) (Ns vs fs))))
  (he:∀ y t σ' m',y ∈ fs→(∀ a o,a≠D→σ a = some o→σ' a = some o)→(∀ z,z≠x→m' z = m z)→m' x = some (.int (y:Nat) t)→WP P A env W (eval elt env) σ' m' (fun w σ'' m''=>σ'' = σ'∧m'' = m'∧∃ t,w = .int (g y:Nat) t))
  (hs:∀ x,foldedSetIterable iter env x = pure x:=by intro _; rfl) :
  WP P A env W (compInner (.ListComp elt gens scope pos) elt gens 0 (.ref D) env) σ m (fun _ σ' m'=>(X2 fun ws' k'=>N4 (σ' D = some (lst (ws ++ ws') k')) (Ns ws' (fs.map g)) ((∀ a o,a≠D→σ a = some o→σ' a = some o)) (∀ z,z≠x→m' z = m z))):=by
 refine lq ?_; intro K
 refine xInner hg (fun g' h=>by rw [hg2] at h; exact nn h) ?_ hs
 refine hi.mono fun v σ₁ m₁ q=>?_
 obtain ⟨rfl,hle,a,vs,rfl,ea,hN⟩:=q
 refine ⟨fs.length,_,_,fun i σ' m'=>(X2 fun ws' k'=>N4 (σ' D = some (lst (ws ++ ws') k')) (Ns ws' ((fs.take i).map g)) ((∀ a o,a≠D→σ₁ a = some o→σ' a = some o)) (∀ z,z≠x→m' z = m₁ z)),srx_tuple (k:=0) hh (Ns.all2.mp hN) _,?_,?_,?_,?_⟩
 ·rintro i σ' m' ⟨_,_,_,_,h,_⟩ p hp
  rw [List.mem_singleton] at hp; subst hp
  refine h _ _ (fun q=>?_) ea
  have:=hle _ _ eD
  subst q; exact tup_lst ea this
 ·exact ⟨[],k,by rw [List.append_nil]; exact hle _ _ eD,Ns.nil,fun _ _ _ e=>e,fun _ _=>rfl⟩
 ·rintro i v σ' m' s' hi' ⟨y,hy,t,rfl⟩ ⟨ws',k',eD',hN',hkeep,hm⟩ G F
  refine (xAsName (xStore hl hc hW ?_ hk)) s' G F
  refine ⟨fun _=>?_,fun hf=>by cases hf⟩
  refine xEmit hg2 ?_
  refine (he y t σ' (m'.set x (.int (y:Nat) t)) (List.mem_of_getElem? hy) (fun a o h1 h2=>hkeep a o h1 (hle a o h2)) (fun z hz'=>by show (if z = x then _ else _) = _; rw [if_neg hz']; exact hm z hz') (if_pos rfl)).mono ?_
  rintro w _ _ ⟨rfl,rfl,tw,rfl⟩
  have hl':ws'.length≤fs.length:=by rw [hN'.length,List.length_map,List.length_take]; exact z29
  refine ⟨_,k',eD',by rw [List.length_append]; exact z239 hz hl',fun n'=>⟨ws' ++ [.int (g y:Nat) tw],n',by rw [← List.append_assoc]; exact Store.set_same ..,?_,fun a o h1 h2=>(Store.set_ne h1).trans (hkeep a o h1 h2),fun z hz'=>by show (if z = x then _ else _) = _; rw [if_neg hz']; exact hm z hz'⟩⟩
  rw [List.take_add_one,hy,List.map_append]
  exact hN'.append (Ns.one _ _)
 ·rintro σ' m' ⟨ws',k',h1,h2,h3,h4⟩
  rw [List.take_length] at h2
  exact ⟨ws',k',h1,h2,fun a o h1 h2=>h3 a o h1 (hle a o h2),h4⟩
theorem compGo_flat {elt iter2:PySem.Expr} {x x2:Str} {px px2:Pos} {iter:PySem.Expr} {scope:Scope} {pos:Pos} {cl:List (Str × Addr)} {Fin:Addr→Store→Prop} {xv:Value} {σ₁:Store}
  (xs:List ξ) (E:ξ→Value→Prop) (fx:List (Addr × Obj)) (f:ξ→List Nat) (g:Nat→Nat) (hh:A.handled = none) (S:SrX P A xv xs E fx) (hfx:∀ p ∈ fx,σ₁ p.1 = some p.2) (hz:xs.length≤100) (hf:∀ y ∈ xs,(f y).length≤100)
  (hl:∀ C,(compEnvC scope cl C env).kindOf x = some .local) (hc:cl.lookup x = none) (hl2:∀ C,(compEnvC scope cl C env).kindOf x2 = some .local) (hc2:cl.lookup x2 = none) (hk:scope.kind = .function) (hxx:x≠x2)
  (inner:∀ C y v σ' m',y ∈ xs→E y v→Le σ₁ σ'→(∀ z,z≠x→z≠x2→m' z = compVars cl m z)→m' x = some v→WP P A (compEnvC scope cl C env) [C] (eval iter2 (compEnvC scope cl C env)) σ' m' (fun v σ'' m''=>m'' = m'∧Le σ' σ''∧(X2 fun a vs=>N3 (v = .ref a) (σ'' a = some (tup vs 0)) (Ns vs (f y)))))
  (he:∀ C y z t σ' m',y ∈ xs→z ∈ f y→Le σ₁ σ'→(∀ z,z≠x→z≠x2→m' z = compVars cl m z)→m' x2 = some (.int (z:Nat) t)→WP P A (compEnvC scope cl C env) [C] (eval elt (compEnvC scope cl C env)) σ' m' (fun w σ'' m''=>σ'' = σ'∧m'' = m'∧∃ t,w = .int (g z:Nat) t))
  (fin:∀ D ws k σ',Le σ₁ σ'→σ₁ D = none→σ' D = some (lst ws k)→Ns ws (xs.flatMap fun y=>(f y).map g)→Fin D σ')
  (hs:∀ C x,foldedSetIterable iter2 (compEnvC scope cl C env) x = pure x:=by intro _ _; rfl) :
  CompGo P A env elt (.Name x px) [] [⟨.Name x px,iter,[],0⟩,⟨.Name x2 px2,iter2,[],0⟩] scope pos cl Fin σ xv σ₁ m:=by
 have hfl:∀ i,((xs.take i).flatMap fun y=>(f y).map g).length≤100 * i:=fun i=>by
  induction i with
  | zero=>simp
  | succ i ih =>
   rw [List.take_add_one,List.flatMap_append,List.length_append]
   cases q:xs[i]? with
   | none=>simp only [Option.toList_none,List.flatMap_nil,List.length_nil]; exact z240 ih
   | some y =>
    have:=hf y (List.mem_of_getElem? q)
    simp only [Option.toList_some,List.flatMap_cons,List.flatMap_nil,List.append_nil,List.length_map]
    exact z241 ih this
 refine ⟨xs.length,_,fx,[],σ₁,S _,Le.refl _,fun p hp=>(by cases hp),hfx,fun D C hD=>⟨fun i σ' m'=>(X2 fun ws k=>N4 (σ' D = some (lst ws k)) (Le σ₁ σ') (Ns ws ((xs.take i).flatMap fun y=>(f y).map g)) ((∀ z,z≠x→z≠x2→m' z = compVars cl m z))),?_,?_,?_,?_⟩⟩
 ·exact ⟨[],0,Store.set_same ..,Le.new hD,Ns.nil,fun _ _ _=>rfl⟩
 ·rintro i σ m ⟨_,_,_,h,_⟩ p hp
  exact h _ _ (hfx p hp)
 ·rintro i v σ' m' s hi ⟨y,hy,hE⟩ ⟨ws,k,e,hle,hN,hm⟩ G F
  have hyx:=List.mem_of_getElem? hy
  have hlen:ws.length≤10000:=by rw [hN.length]; exact Nat.le_trans (hfl i) (z242 hz hi)
  refine (xAsName (xStore (hl C) hc (by exact .head _) ?_ hk)) s G F
  have hm1:∀ z,z≠x→z≠x2→(m'.set x v) z = compVars cl m z:=fun z hz hz2=>by show (if z = x then _ else _) = _; rw [if_neg hz]; exact hm z hz hz2
  refine ⟨fun _=>?_,fun hf=>by cases hf⟩
  refine (xInnerNs (f y) g hh rfl rfl e (by have:=hf y hyx; exact z243 hlen this) (hl2 C) hc2 (by exact .head _) hk (inner C y v σ' _ hyx hE hle hm1 (if_pos rfl)) (fun z t σ'' m'' hz hkeep hm'' hmx=>?_) (hs C)).mono ?_
  ·refine he C y z t σ'' m'' hyx hz (fun a o ea=>hkeep a o (fun q=>by subst q; rw [hD] at ea; exact nn ea) (hle a o ea)) (fun z' h1 h2=>(hm'' z' h2).trans (hm1 z' h1 h2)) hmx
  ·rintro _ σ'' m'' ⟨ws',k',e',hN',hkeep,hm''⟩
   refine ⟨ws ++ ws',k',e',fun a o ea=>hkeep a o (fun q=>by subst q; rw [hD] at ea; exact nn ea) (hle a o ea),?_,fun z h1 h2=>(hm'' z h2).trans (hm1 z h1 h2)⟩
   rw [List.take_add_one,hy,List.flatMap_append]
   refine hN.append ?_
   simpa using hN'
 ·rintro σ' m' ⟨ws,k,e,hle,hN,_⟩
  rw [List.take_length] at hN
  exact fin D ws k σ' hle hD e hN
end
end Mine
end
section
set_option maxRecDepth 10000
namespace Mine
def gInst (X:HA):List (Str × Value):=[("heap",.ref X.h)]
def Below (s:St) (c x:Nat):Prop:=(∃ m,N3 (m < s.n) (s.r m = s.r c) (∃ k,k ∈ (s.nd m).2∧x = s.r k))
theorem NodeAt.inj {σ:Store} {v:Value} {a b:Node} (h:NodeAt σ v a) (h':NodeAt σ v b):a = b:=by
 obtain ⟨x,k,t,vs,rfl,e,hN⟩:=h
 obtain ⟨x',k',t',vs',e1,e',hN'⟩:=h'
 cases e1
 have:=e.symm.trans e'
 injection this with this
 injection this with _ _ h3 _
 injection h3 with h3 _
 have h4:(Value.str a.1 t :: vs) = (Value.str b.1 t' :: vs'):=by
  have:=congrArg Array.toList h3
  simpa using this
 rw [List.cons.injEq] at h4
 obtain ⟨h5,rfl⟩:=h4
 injection h5 with h5 _
 have h6:a.2 = b.2:=by
  have h7:a.2.map some = b.2.map some:=hN.symm.trans hN'
  exact (List.map_inj_right (fun _ _ e=>Option.some.inj e)).mp h7
 exact Prod.ext h5 h6
theorem nodes_list {σ:Store}:∀ {ws:List Value},(∀ v ∈ ws,∃ nd,NodeAt σ v nd)→∃ nds,All2 (fun nd v=>NodeAt σ v nd) nds ws
 | [],_=>⟨[],.nil⟩
 | v :: ws,h=>by
  obtain ⟨nd,hn⟩:=h v (.head _)
  obtain ⟨nds,hs⟩:=nodes_list fun v hv=>h v (.tail _ hv)
  exact ⟨nd :: nds,.cons hn hs⟩
section
variable {P:Par} {A:Around} {env:Env} {W:List Addr} {α β:Type} {σ σ':Store} {m:Vars} {X:HA} {ρ:Addr→Nat} {s:St} {gi gd:Addr}
noncomputable def fdGKids (p:Params):{fd:FuncData // fdIn (Mine.hd.heap_1 p) 52 = some fd}:=⟨_,rfl⟩
theorem cGKids (O:P.Ok) {c:Nat} {t:Tok} {Q:Value→Store→Prop} (hR:Rm A 18) (Ig:IsI σ gi gd 95 (gInst X)) (I:HInv P X ρ σ s) (hc:c < s.n) (h7:s.n≤7)
  (h:∀ ms b ws k σ',Asc ms→(∀ x,x ∈ ms ↔ Below s c x)→Le σ σ'→σ b = none→σ' b = some (lst ws k)→Ns ws ms→Q (.ref b) σ') :
  COp P A (.call (.ref 52) ⟨[.ref gi,.int (c:Nat) t],[]⟩) σ Q:=by
 refine oCall O (fdGKids _).2 hR rfl rfl rfl rfl rfl rfl (fun L=>?_) rfl rfl rfl
 intro env A' W m0 Q'
 obtain hR':Rm A' 17:=hR.deeper
 obtain hh:=hR'.handled
 refine lG ?_; intro G
 obtain ⟨t1,Ih⟩:=I.H.inst
 obtain wf:=I.U.find.wf
 refine xLast (xReturn ?_)
 refine lq ?_; intro K
 refine xSortedSet O (hR'.mono z244) rfl rfl rfl rfl ?_
 refine lq ?_; intro K
 refine xListCompG ⟨rfl,rfl,rfl,rfl,rfl⟩ ?_
 refine lq ?_; intro K
 refine xCallMeth (xAttribute (xName (xLoad rfl rfl ?_)))
 refine lq ?_; intro K
 refine xOp (oGetAttr O Ig rfl rfl rfl fun pl=>?_)
 refine lq ?_; intro K
 refine xOp (oGetMethod O Ih rfl rfl ⟨kept_fn O (fdNodesOf _).2,?_⟩)
 refine lqE ?_; intro K
 refine (xName (xLoad rfl rfl (evNil ?_)))
 refine xOp (oOf (cNodesOf O (hR'.mono z245) I hc h7 fun l ws k σ₁ le1 hl el hwl hsub hall=>?_))
 refine lG ?_; intro G
 obtain ⟨nds,h2⟩:=nodes_list fun v hv=>let ⟨_,_,_,N⟩:=hsub v hv; ⟨_,N⟩
 have hnds:∀ nd ∈ nds,∃ m,m < s.n∧s.r m = s.r c∧nd = sig s.r (s.nd m):=fun nd hnd=>by
  refine lG ?_; intro G
  obtain ⟨i,hi⟩:=List.mem_iff_getElem?.mp hnd
  refine lG ?_; intro G
  obtain ⟨v,hv,N⟩:=h2.get hi
  obtain ⟨y,h1,h3,N'⟩:=hsub v (List.mem_of_getElem? hv)
  exact ⟨y,h1,h3,N.inj N'⟩
 have hnd2:∀ y,y < s.n→s.r y = s.r c→sig s.r (s.nd y) ∈ nds:=fun y hy hr=>by
  obtain ⟨v,hv,N⟩:=hall y hy hr
  obtain ⟨nd,hnd,N'⟩:=h2.mem hv
  rw [N.inj N']; exact hnd
 have kidlt:∀ nd ∈ nds,∀ z ∈ nd.2,z < s.n:=fun nd hnd z hz=>by
  obtain ⟨y,hy,_,rfl⟩:=hnds nd hnd
  refine lG ?_; intro G
  obtain ⟨k,hk,rfl⟩:=List.mem_map.mp hz
  have:=I.B.wf y _ (St.nd_get hy) k hk
  exact wf.lt (Nat.lt_trans this hy)
 have karl:∀ nd ∈ nds,nd.2.length≤10:=fun nd hnd=>by
  refine lG ?_; intro G
  obtain ⟨y,hy,_,rfl⟩:=hnds nd hnd
  have:=I.B.ar _ (List.mem_of_getElem? (St.nd_get hy))
  show ((s.nd y).2.map s.r).length≤10
  rw [List.length_map]; exact this
 have hnl:nds.length≤7:=by rw [h2.length]; exact hwl
 refine compGo_flat nds _ _ (fun nd=>nd.2) (fun z=>z) hh (srx_list (k:=k) hh h2) (fun p hp=>by rw [List.mem_singleton] at hp; subst hp; exact el) (z246 hnl) (fun y hy=>by have:=karl y hy; exact z247 this) (fun _=>rfl) rfl (fun _=>rfl) rfl rfl (by decide) ?_ ?_ ?_
 ·rintro C nd v σ' m' hnd N hle hm' hmx
  refine lG ?_; intro G
  obtain ⟨a,k',u,vs,rfl,ea,hN⟩:=N
  refine xSliceTail (xName (xLoad rfl hmx (xInt fun t3=>?_)))
  exact ⟨a,_,vs,k',t3,rfl,rfl,hle _ _ ea,by have:=karl nd hnd; rw [hN.length]; exact z102 this,fun a2 σ'' le2 h2' e2=>⟨rfl,le2,a2,vs,rfl,e2,hN⟩⟩
 ·rintro C nd z t σ' m' hnd hz hle hm' hmx
  exact xName (xLoad rfl hmx ⟨rfl,rfl,t,rfl⟩)
 ·intro D ws' k' σ₂ le2 hD eD hN
  have hmem:∀ x,x ∈ (nds.flatMap fun y=>y.2.map fun z=>z) ↔ Below s c x:=fun x=>by
   rw [List.mem_flatMap]
   constructor
   ·rintro ⟨nd,hnd,hx⟩
    refine lG ?_; intro G
    obtain ⟨z,hz,rfl⟩:=List.mem_map.mp hx
    refine lG ?_; intro G
    obtain ⟨y,h1,h3,rfl⟩:=hnds nd hnd
    refine lG ?_; intro G
    obtain ⟨k,hk,rfl⟩:=List.mem_map.mp hz
    exact ⟨y,h1,h3,k,hk,rfl⟩
   ·rintro ⟨y,h1,h3,k,hk,rfl⟩
    exact ⟨_,hnd2 y h1 h3,List.mem_map.mpr ⟨_,List.mem_map.mpr ⟨k,hk,rfl⟩,rfl⟩⟩
  obtain hlen:∀ (l:List Node),(∀ nd ∈ l,nd.2.length≤10)→(l.flatMap fun y=>y.2.map fun z=>z).length≤10 * l.length:=fun l=>by
   induction l with
   | nil=>intro _; simp
   | cons nd l ih =>
    intro hl
    obtain h1:=hl nd (.head _)
    obtain h2:=ih fun nd h=>hl nd (.tail _ h)
    rw [List.flatMap_cons,List.length_append,List.length_map,List.length_cons]; exact z248 h1 h2
  refine ⟨D,ws',k',_,rfl,eD,hN,by have:=hlen nds karl; exact z249 hnl this,fun x hx=>?_,fun ms b bws bk σ₃ hasc hmm le3 hb eb hNb=>?_⟩
  ·refine lG ?_; intro G
   obtain ⟨nd,hnd,hx⟩:=List.mem_flatMap.mp hx
   refine lG ?_; intro G
   obtain ⟨z,hz,rfl⟩:=List.mem_map.mp hx
   have:=kidlt nd hnd z hz
   show z < 60
   exact z250 h7 this
  ·exact h ms b bws bk σ₃ hasc (fun x=>(hmm x).trans (hmem x)) ((le1.trans le2).trans le3) (none_less (le1.trans le2) hb) eb hNb
end
end Mine
end
section
set_option maxRecDepth 10000
namespace Mine
def eqAt (ns ms:List Nat) (j:Nat):Bool:=ns[j]? == ms[j]?
theorem all_eqAt {ns ms:List Nat} (h:ns.length = ms.length):((List.range ns.length).all (eqAt ns ms)) = decide (ns = ms):=by
 rw [Bool.eq_iff_iff,List.all_eq_true,decide_eq_true_eq]
 constructor
 ·intro hall
  apply List.ext_getElem?
  intro i
  by_cases hi:i < ns.length
  ·have:=hall i (List.mem_range.mpr hi)
   unfold eqAt at this
   simpa using this
  ·rw [List.getElem?_eq_none (z82 hi),List.getElem?_eq_none (z251 h hi)]
 ·rintro rfl i _
  unfold eqAt; simp
section
variable {P:Par} {A:Around} {env:Env} {W:List Addr} {α β:Type} {σ σ':Store} {m:Vars} {X:HA} {ρ:Addr→Nat} {s:St} {gi gd:Addr}
theorem items_eq {vs ws:List Value} {ns ms:List Nat} (hN:Ns vs ns) (hM:Ns ws ms) {j:Nat} (h1:j < vs.toArray.size) (h2:j < ws.toArray.size):(X4 fun (a b:Nat) (t u:Tok)=>N3 (vs.toArray[j] = .int a t) (ws.toArray[j] = .int b u) (eqAt ns ms j = ((a:Int) == (b:Int)))):=by
 have h1':j < vs.length:=by simpa using h1
 have h2':j < ws.length:=by simpa using h2
 obtain ⟨a,t,ea,e1⟩:=hN.of (List.getElem?_eq_getElem h1')
 obtain ⟨b,u,eb,e2⟩:=hM.of (List.getElem?_eq_getElem h2')
 refine ⟨a,b,t,u,by simpa using e1,by simpa using e2,?_⟩
 unfold eqAt
 rw [ea,eb,Bool.eq_iff_iff]
 simp only [beq_iff_eq,Option.some.injEq]
 exact ⟨fun q=>by rw [q],fun q=>Int.ofNat.inj q⟩
theorem oNeNs {l b:Addr} {vs ws:List Value} {ns ms:List Nat} {n k:Nat} {Q:Value→Store→Prop} (hR:Rm A 2) (e:σ l = some (lst vs n)) (e2:σ b = some (lst ws k)) (hN:Ns vs ns) (hM:Ns ws ms) (h:Q (.bool (decide (ns≠ms))) σ):Op P A (compareOp .NotEq (.ref l) (.ref b)) σ Q:=fun s G=>by
 by_cases hl:ns.length = ms.length
 ·refine PySem.SeqAt.RcNeAt.lists (e:=eqAt ns ms) (isList_of (G.has _ _ e)) (isList_of (G.has _ _ e2)) (by rw [List.size_toArray,List.size_toArray,hN.length,hM.length,hl]) hR.line (fun j h1 h2=>?_) _ _ _ _ ⟨σ,?_,Tr.refl G⟩
  ·obtain ⟨a,b,t,u,q1,q2,q3⟩:=items_eq hN hM h1 h2
   rw [q1,q2,q3]
   exact fun prog w E Q h=>wpAny_eqBool_int h
  ·rw [List.size_toArray,hN.length,all_eqAt hl]
   have:(!decide (ns = ms)) = decide (ns≠ms):=by simp
   rw [this]; exact h
 ·refine PySem.SeqAt.RcNeAt.lists_lengths (isList_of (G.has _ _ e)) (isList_of (G.has _ _ e2)) (by rw [List.size_toArray,List.size_toArray,hN.length,hM.length]; simpa using hl) hR.line _ _ _ _ ⟨σ,?_,Tr.refl G⟩
  obtain hd:decide (ns≠ms) = true:=decide_eq_true fun q=>hl (by rw [q])
  rwa [hd] at h
theorem oEqNs {l b:Addr} {vs ws:List Value} {ns ms:List Nat} {n k:Nat} {Q:Value→Store→Prop} (hR:Rm A 2) (e:σ l = some (lst vs n)) (e2:σ b = some (lst ws k)) (hN:Ns vs ns) (hM:Ns ws ms) (h:Q (.bool (decide (ns = ms))) σ):Op P A (compareOp .Eq (.ref l) (.ref b)) σ Q:=fun s G=>by
 by_cases hl:ns.length = ms.length
 ·refine PySem.P.eq_list (e:=eqAt ns ms) (G.has _ _ e) (G.has _ _ e2) (by rw [List.size_toArray,List.size_toArray,hN.length,hM.length,hl]) (fun j h1 h2=>?_) hR.line ⟨σ,?_,Tr.refl G⟩
  ·obtain ⟨a,b,t,u,q1,q2,q3⟩:=items_eq hN hM h1 h2
   rw [q1,q2,q3]
   exact MeetsSeq.EqGives.int _ _ _ _
  ·rw [List.size_toArray,hN.length,all_eqAt hl]; exact h
 ·refine PySem.P.eq_list_lengths (G.has _ _ e) (G.has _ _ e2) (by rw [List.size_toArray,List.size_toArray,hN.length,hM.length]; simpa using hl) hR.line ⟨σ,?_,Tr.refl G⟩
  have hd:decide (ns = ms) = false:=decide_eq_false fun q=>hl (by rw [q])
  rwa [hd] at h
theorem oSortedD {d:Addr} {l:NKV} {Q:Value→Store→Prop} (hh:A.handled = none) (D:DN P σ d l) (h64:l.length < 64)
  (h:∀ ms b ws k,ms.Perm (l.map (·.1))→ms.Pairwise (·≤·)→σ b = none→Ns ws ms→Q (.ref b) (σ.set b (lst ws k))):Op P A (call (.builtin "sorted") [.ref d]) σ Q :=
 oSortedOf (C:=fun x=>x = l.map (·.1)) (fun s G=>by
  obtain ⟨ep,hat⟩:=(D.heap G).dictAt
  refine kdu_collect (kdl_dict (knd:=intKind P.prog P.w) (kvs:=castL l) (ep:=ep) (D.low G)) (by exact hh) hat (by rw [castL_length,sizeLine_eq]; exact z35 h64) fun h' tk acc hk hacc=>⟨Tr.kept G hk,l.map (·.1),?_,by rw [List.length_map]; exact h64,rfl⟩
  obtain ⟨h1,h2⟩:=hacc
  rw [Ns.all2]
  obtain h3:acc.toList.length = l.length:=by rw [Array.length_toList,h1,castL_length]
  obtain gen:∀ (ys:List Value) (l:NKV),ys.length = l.length→(∀ (j:Nat) (v:Value),ys[j]? = some v→∃ k x,(castL l)[j]? = some (k,x)∧(intKind P.prog P.w).is k v = true)→All2 (fun n v=>∃ t,v = .int (n:Nat) t) (l.map (·.1)) ys:=fun ys=>by
   induction ys with
   | nil=>intro l hl _; cases l with
    | nil=>exact .nil
    | cons _ _=>cases hl
   | cons y ys ih=>intro l hl hj; cases l with
    | nil=>cases hl
    | cons p l =>
     refine .cons ?_ (ih l (by simpa using hl) fun j v hv=>?_)
     ·refine lG ?_; intro G
      obtain ⟨k,x,e1,e2⟩:=hj 0 y rfl
      unfold castL at e1
      simp only [List.map_cons,List.getElem?_cons_zero,Option.some.injEq,Prod.mk.injEq] at e1
      obtain ⟨t,rfl⟩:=Value.isInt_shape e2
      exact ⟨t,by rw [e1.1]⟩
     ·have:=hj (j + 1) v (by simpa using hv)
      unfold castL at *
      simpa using this
  exact gen _ l h3 fun j v hv=>h2 j v (by simpa using hv)) fun ns' ms a ws k hC=>by subst hC; exact h ms a ws k
end
end Mine
end
section
set_option maxRecDepth 10000
namespace Mine
inductive Reach (s:St) (c:Nat):Nat→Prop
 | base:Reach s c (s.r c)
 | step {y x:Nat}:Reach s c y→Below s y x→Reach s c x
section
variable {P:Par} {A:Around} {env:Env} {W:List Addr} {α β:Type} {σ σ':Store} {m:Vars} {X:HA} {ρ:Addr→Nat} {s:St} {gi gd:Addr}
theorem Reach.lt {c x:Nat} (wf:Wf s.n s.r) (wfn:∀ (i:Nat) (nd:Node),s.nodes[i]? = some nd→∀ k ∈ nd.2,k < i) (hc:c < s.n) (h:Reach s c x):x < s.n:=by
 cases h with
 | base=>exact wf.lt hc
 | step _ hb =>
  obtain ⟨m,hm,_,k,hk,rfl⟩:=hb
  exact wf.lt (Nat.lt_trans (wfn m _ (St.nd_get hm) k hk) hm)
theorem lookup_isSome {l:NKV} {k:Nat}:(l.lookup k).isSome = true ↔ k ∈ l.map (·.1):=by
 induction l with
 | nil=>simp
 | cons p l ih =>
  obtain ⟨a,v⟩:=p
  rw [List.lookup_cons,List.map_cons,List.mem_cons]
  by_cases h:k = a
  ·subst h; simp
  ·rw [beq_eq_false_iff_ne.mpr h,ih]; simp [h]
theorem dput_new {l:NKV} {k:Nat} {v:Value} (h:l.lookup k = none):dput l k v = l ++ [(k,v)]:=by unfold dput; rw [h]; rfl
theorem DN.nodup {d:Addr} {l:NKV} (D:DN P σ d l):(l.map (·.1)).Nodup:=by
 obtain ⟨o,_,_,_,_,_,_,_,hn⟩:=D
 unfold castL at hn
 rw [List.map_map] at hn
 have:(l.map ((fun x:Int × Value=>x.1) ∘ fun p:Nat × Value=>((p.1:Int),p.2))) = (l.map (·.1)).map fun n:Nat=>(n:Int):=by rw [List.map_map]; rfl
 rw [this] at hn
 exact List.Pairwise.of_map _ (fun a b h q=>h (by rw [q])) hn
noncomputable def fdReached (p:Params):{fd:FuncData // fdIn (Mine.hd.heap_1 p) 59 = some fd}:=⟨_,rfl⟩
theorem cReached (O:P.Ok) {c:Nat} {t:Tok} {Q:Value→Store→Prop} (hR:Rm A 22) (Ig:IsI σ gi gd 95 (gInst X)) (I:HInv P X ρ σ s) (hc:c < s.n) (h7:s.n≤7)
  (h:∀ ms b ws k σ',Asc ms→(∀ x,x ∈ ms ↔ Reach s c x)→Le σ σ'→σ b = none→σ' b = some (lst ws k)→Ns ws ms→Q (.ref b) σ') :
  COp P A (.call (.ref 59) ⟨[.ref gi,.int (c:Nat) t],[]⟩) σ Q:=by
 refine oCall O (fdReached _).2 hR rfl rfl rfl rfl rfl rfl (fun L=>?_) rfl rfl rfl
 intro env A' W m0 Q'
 obtain hR':Rm A' 21:=hR.deeper
 obtain hh:=hR'.handled
 refine lG ?_; intro G
 obtain ⟨t1,Ih⟩:=I.H.inst
 obtain wf:=I.U.find.wf
 obtain hlt:∀ {x},Reach s c x→x < s.n:=fun h=>h.lt wf I.B.wf hc
 refine lq ?_; intro K
 refine xCons (lq ?_); intro K
 refine xAssignSwap (names:=["seen","waiting"]) hh (xTuple ?_)
 refine lqE ?_; intro K
 refine (xDict0 fun sd hsd=>?_)
 obtain le1:Le σ (σ.set sd { cls:=.type "dict",data:=.dict #[] }):=Le.new hsd
 obtain D1:DN P (σ.set sd { cls:=.type "dict",data:=.dict #[] }) sd []:=⟨_,Store.set_same ..,dn_new⟩
 generalize (σ.set sd { cls:=.type "dict",data:=.dict #[] }) = σ₁ at *
 obtain I1:=I.le le1
 obtain Ig1:=Ig.ext (fun o e=>le1 _ _ e) (fun o e=>le1 _ _ e)
 refine lG ?_; intro G
 obtain ⟨t2,Ih1⟩:=I1.H.inst
 refine lqE ?_; intro K
 refine (xList (evCons (xCallMeth ?_)))
 refine lq ?_; intro K
 refine xAttribute (xName (xLoad rfl rfl ?_))
 refine lq ?_; intro K
 refine xOp (oGetAttr O Ig1 rfl rfl rfl fun pl=>?_)
 refine lq ?_; intro K
 refine xOp (oGetMethod O Ih1 rfl rfl ⟨kept_fn O (fdHFind _).2,?_⟩)
 refine lqE ?_; intro K
 refine (xName (xLoad rfl rfl (evNil ?_)))
 refine lq ?_; intro K
 refine xOp (oOf (cHFind O (hR'.mono z252) I1 hc fun t3=>?_))
 refine fun wl hwl=>evNil fun tp htp=>?_
 obtain le2:Le σ₁ (σ₁.set wl (lst [.int (s.r c:Nat) t3] 0)):=Le.new hwl
 obtain ewl:(σ₁.set wl (lst [.int (s.r c:Nat) t3] 0)) wl = some (lst [.int (s.r c:Nat) t3] 0):=Store.set_same ..
 generalize (σ₁.set wl (lst [.int (s.r c:Nat) t3] 0)) = σ₂ at *
 obtain le3:Le σ₂ (σ₂.set tp (tup [.ref sd,.ref wl] 0)):=Le.new htp
 obtain etp:(σ₂.set tp (tup [.ref sd,.ref wl] 0)) tp = some (tup [.ref sd,.ref wl] 0):=Store.set_same ..
 refine ⟨tp,_,0,rfl,.inr etp,rfl,?_⟩
 refine xForget le3 ?_
 clear le3 etp htp
 refine lq ?_; intro K
 refine xStore rfl rfl (List.mem_cons_self ..) ?_
 refine lq ?_; intro K
 refine xStore rfl rfl (List.mem_cons_self ..) ?_
 have hne:sd≠wl:=fun q=>by subst q; obtain ⟨o,e,_⟩:=D1; rw [hwl] at e; exact nn e
 have D2:DN P σ₂ sd []:=D1.keep fun o _ e=>le2 _ _ e
 have leA:Le σ σ₂:=le1.trans le2
 have hwσ:σ wl = none:=none_less le1 hwl
 refine lq ?_; intro K
 refine xCons (lq ?_); intro K
 refine (xWhile (fun k σ' m'=>(X4 fun (l:NKV) (ns:List Nat) (vs:List Value) (kk:Nat)=>N12 (k = (s.n - l.length) * 10 + ns.length) (DN P σ' sd l) (σ' wl = some (lst vs kk)) (Ns vs ns) (Le σ σ') ((∀ x,(x ∈ l.map (·.1)∨x ∈ ns)→Reach s c x)) ((s.r c ∈ l.map (·.1)∨s.r c ∈ ns)) ((∀ y,y ∈ l.map (·.1)→∀ x,Below s y x→x ∈ l.map (·.1)∨x ∈ ns)) (ns.length≤1 + 7 * l.length) (m' "self" = some (.ref gi)) (m' "seen" = some (.ref sd)) (m' "waiting" = some (.ref wl)))) _
  ⟨[],[s.r c],_,0,rfl,D2,ewl,Ns.one _ _,leA,fun x h=>h.elim (fun h=>by cases h) (fun h=>by rw [List.mem_singleton] at h; subst h; exact .base),.inr (List.mem_singleton.mpr rfl),(fun y hy=>by cases hy),by simp,rfl,rfl,rfl⟩ ?_)
 rintro k σ' m' ⟨l,ns,vs,kk,rfl,D,ew,hN,hle,hre,hrc,hcl,hlen,ms1,ms2,ms3⟩
 have hnd:=D.nodup
 have hll:l.length≤s.n:=by
  have:=nodup_le (n:=s.n) hnd fun x hx=>hlt (hre x (.inl hx))
  rwa [List.length_map] at this
 obtain I':=I.le hle
 obtain Ig':=Ig.ext (fun o e=>hle _ _ e) (fun o e=>hle _ _ e)
 refine lq ?_; intro K
 refine xTrueCompare (lq ?_); intro K
 refine xName (xLoad rfl ms3 (xList (fun el hel=>?_)))
 refine lq ?_; intro K
 refine xOp (Op.to (Le.new hel) (R:=fun v=>v = .bool (decide (ns≠[]))) (oNeNs (hR'.mono z253) (Store.set_new hel ew) (Store.set_same ..) hN Ns.nil ⟨rfl,rfl⟩) ?_)
 rintro _ rfl
 refine xTruthyBool ⟨fun hb=>?_,fun hb=>?_⟩
 ·obtain hns:ns≠[]:=by simpa using hb
  refine lG ?_; intro G
  obtain ⟨ns',y,rfl⟩:∃ ns' y,ns = ns' ++ [y]:=⟨ns.dropLast,ns.getLast hns,(List.dropLast_concat_getLast hns).symm⟩
  refine lG ?_; intro G
  obtain ⟨vs',ty,rfl,hN'⟩:=hN.snoc
  have hyr:=hre y (.inr (by simp))
  have hyn:=hlt hyr
  simp only [List.length_append,List.length_singleton] at hlen
  have hvl:vs'.length≤1000:=by rw [hN'.length]; exact z254 h7 hll hlen
  refine lq ?_; intro K
  refine xCons (lq ?_); intro K
  refine xAssignName (xCallMeth (xName (xLoad rfl ms3 fun pl=>?_)))
  refine xOp (oMethPop ew ⟨kept_builtin _,(xOp (oPop ew (z192 hvl) fun n2=>?_))⟩)
  have D3:DN P (σ'.set wl (lst vs' n2)) sd l:=D.keep fun o _ e=>(Store.set_ne hne).trans e
  have ew3:(σ'.set wl (lst vs' n2)) wl = some (lst vs' n2):=Store.set_same ..
  have le3:Le σ (σ'.set wl (lst vs' n2)):=hle.set hwσ
  generalize (σ'.set wl (lst vs' n2)) = σ₃ at *
  obtain I3:=I.le le3
  obtain Ig3:=Ig.ext (fun o e=>le3 _ _ e) (fun o e=>le3 _ _ e)
  refine xStore rfl rfl (List.mem_cons_self ..) ?_
  have q1:(m'.set "here" (.int (y:Nat) ty)) "self" = some (.ref gi):=ms1
  have q2:(m'.set "here" (.int (y:Nat) ty)) "seen" = some (.ref sd):=ms2
  have q3:(m'.set "here" (.int (y:Nat) ty)) "waiting" = some (.ref wl):=ms3
  obtain q4:(m'.set "here" (.int (y:Nat) ty)) "here" = some (.int (y:Nat) ty):=rfl
  generalize (m'.set "here" (.int (y:Nat) ty)) = m₃ at *
  refine xLast (lq ?_); intro K
  refine xIf (xTrueCompare (xName (xLoad rfl q4 (xName (xLoad rfl q2 ?_)))))
  refine xOp (oDNotIn D3 (xTruthyBool ⟨fun hb2=>?_,fun hb2=>xNil ?_⟩))
  ·have hno:l.lookup y = none:=by cases q:l.lookup y with | none=>rfl | some v=>rw [q] at hb2; simp at hb2
   have hyl:y ∉ l.map (·.1):=fun hy=>by have:=lookup_isSome.mpr hy; rw [hno] at this; cases this
   have hll2:l.length + 1≤s.n:=by
    have:=nodup_le (n:=s.n) (l:=y :: l.map (·.1)) (List.nodup_cons.mpr ⟨hyl,hnd⟩) (fun x hx=>by
     refine lG ?_; intro G
     rcases List.mem_cons.mp hx with rfl | hx
     ·exact hyn
     ·exact hlt (hre x (.inl hx)))
    rw [List.length_cons,List.length_map] at this; exact this
   refine xCons (lq ?_); intro K
   refine xAssignSub (xBool (xName (xLoad rfl q2 (xName (xLoad rfl q4 ?_)))))
   refine xOp (oDSet D3 (z255 h7 hll2) fun o4 D4=>?_)
   rw [dput_new hno] at D4
   have hsσ:σ sd = none:=hsd
   obtain le4:Le σ (σ₃.set sd o4):=le3.set hsσ
   obtain ew4:(σ₃.set sd o4) wl = some (lst vs' n2):=(Store.set_ne hne.symm).trans ew3
   generalize (σ₃.set sd o4) = σ₄ at *
   have I4:=I.le le4
   have Ig4:=Ig.ext (fun o e=>le4 _ _ e) (fun o e=>le4 _ _ e)
   refine xLast (lq ?_); intro K
   refine xExpr (xCallMeth (xName (xLoad rfl q3 fun pl=>?_)))
   refine xOp (oMethExtend ew4 ⟨kept_builtin _,?_⟩)
   refine (xCallMeth (xName (xLoad rfl q1 fun pl=>?_)))
   refine xOp (oGetMethod O Ig4 rfl rfl ⟨kept_fn O (fdGKids _).2,?_⟩)
   refine (xName (xLoad rfl q4 (evNil ?_)))
   refine xOp (oOf (cGKids O (hR'.mono z256) Ig4 I4 hyn h7 fun ks b ws k5 σ₅ hasc hks le5 hb5 eb5 hN5=>?_))
   have hkl:ks.length≤7:=by
    obtain hnk:ks.Nodup:=hasc.imp fun h q=>(z164 h q)
    have:=nodup_le (n:=s.n) hnk fun x hx=>by
     refine lG ?_; intro G
     obtain ⟨m,hm,_,k,hk,rfl⟩:=(hks x).mp hx
     exact wf.lt (Nat.lt_trans (I.B.wf m _ (St.nd_get hm) k hk) hm)
    exact z236 h7 this
   obtain ew5:=le5 _ _ ew4
   refine (xOp (oExtend ew5 eb5 (by have:=hN5.length; exact z257 hvl hkl this) fun n6=>?_))
   obtain ew6:(σ₅.set wl (lst (vs' ++ ws) n6)) wl = some (lst (vs' ++ ws) n6):=Store.set_same ..
   have D6:DN P (σ₅.set wl (lst (vs' ++ ws) n6)) sd (l ++ [(y,.bool true)]):=D4.keep fun o _ e=>(Store.set_ne hne).trans (le5 _ _ e)
   have le6:Le σ (σ₅.set wl (lst (vs' ++ ws) n6)):=(le4.trans le5).set hwσ
   refine ⟨_,?_,l ++ [(y,.bool true)],ns' ++ ks,_,n6,rfl,D6,ew6,hN'.append hN5,le6,?_,?_,?_,?_,q1,q2,q3⟩
   ·simp only [List.length_append,List.length_singleton]; exact z258 hll2 hkl
   ·rintro x (hx | hx)
    ·rw [List.map_append,List.mem_append] at hx
     refine lG ?_; intro G
     rcases hx with hx | hx
     ·exact hre x (.inl hx)
     ·simp only [List.map_cons,List.map_nil,List.mem_singleton] at hx; subst hx; exact hyr
    ·refine lG ?_; intro G
     rcases List.mem_append.mp hx with hx | hx
     ·exact hre x (.inr (by simp [hx]))
     ·exact .step hyr ((hks x).mp hx)
   ·rcases hrc with hx | hx
    ·exact .inl (by simp only [List.map_append,List.mem_append]; exact .inl hx)
    ·rcases List.mem_append.mp hx with hx | hx
     ·exact .inr (List.mem_append.mpr (.inl hx))
     ·rw [List.mem_singleton] at hx
      exact .inl (by simp only [List.map_append,List.mem_append]; exact .inr (by simp [hx]))
   ·intro z hz x hx
    rw [List.map_append,List.mem_append] at hz
    rcases hz with hz | hz
    ·rcases hcl z hz x hx with h' | h'
     ·exact .inl (by simp only [List.map_append,List.mem_append]; exact .inl h')
     ·rcases List.mem_append.mp h' with h' | h'
      ·exact .inr (List.mem_append.mpr (.inl h'))
      ·rw [List.mem_singleton] at h'
       exact .inl (by simp only [List.map_append,List.mem_append]; exact .inr (by simp [h']))
    ·simp only [List.map_cons,List.map_nil,List.mem_singleton] at hz
     subst hz
     exact .inr (List.mem_append.mpr (.inr ((hks x).mpr hx)))
   ·simp only [List.length_append,List.length_singleton]; exact z259 hlen hkl
  ·have hyl:y ∈ l.map (·.1):=lookup_isSome.mp (by cases q:l.lookup y with | none=>rw [q] at hb2; simp at hb2 | some v=>rfl)
   refine ⟨_,?_,l,ns',vs',n2,rfl,D3,ew3,hN',le3,?_,?_,?_,(z260 hlen),q1,q2,q3⟩
   ·simp only [List.length_append,List.length_singleton]; exact z261
   ·rintro x (hx | hx)
    ·exact hre x (.inl hx)
    ·exact hre x (.inr (by simp [hx]))
   ·rcases hrc with hx | hx
    ·exact .inl hx
    ·rcases List.mem_append.mp hx with hx | hx
     ·exact .inr hx
     ·rw [List.mem_singleton] at hx; exact .inl (hx ▸ hyl)
   ·intro z hz x hx
    rcases hcl z hz x hx with h' | h'
    ·exact .inl h'
    ·rcases List.mem_append.mp h' with h' | h'
     ·exact .inr h'
     ·rw [List.mem_singleton] at h'; exact .inl (h' ▸ hyl)
 ·have hns:ns = []:=by simpa using hb
  subst hns
  refine xLast (lq ?_); intro K
  refine xReturn (xCallB O boot_sorted' rfl rfl (xName (xLoad rfl ms2 (evNil ?_))))
  refine xOp (oSortedD hh D (z262 h7 hll) fun ms b ws k hp hs hbn hNb=>?_)
  refine h ms b ws k _ (asc_of hp hs hnd) (fun x=>⟨fun hx=>hre x (.inl (hp.mem_iff.mp hx)),fun hx=>?_⟩) (hle.trans (Le.new hbn)) (none_less hle hbn) (Store.set_same ..) hNb
  refine hp.mem_iff.mpr ?_
  induction hx with
  | base=>rcases hrc with h | h; exact h; cases h
  | step _ hb ih=>rcases hcl _ ih _ hb with h | h; exact h; cases h
end
end Mine
end
section
set_option maxRecDepth 10000
namespace Mine
inductive Tree
 | lf (op:Str)
 | un (op:Str) (t:Tree)
 | bi (op:Str) (t u:Tree)
def Tree.op:Tree→Str
 | .lf o=>o
 | .un o _=>o
 | .bi o _ _=>o
def Tree.kids:Tree→List Tree
 | .lf _=>[]
 | .un _ t=>[t]
 | .bi _ t u=>[t,u]
noncomputable def Tree.dep:Tree→Nat
 | .lf _=>1
 | .un _ t=>t.dep + 1
 | .bi _ t u=>max t.dep u.dep + 1
noncomputable def TreeAt (σ:Store):Tree→Value→Prop
 | .lf o,v=>∃ a k t,v = .ref a∧σ a = some (tup [.str o t] k)
 | .un o x,v=>∃ a k t v1,v = .ref a∧σ a = some (tup [.str o t,v1] k)∧TreeAt σ x v1
 | .bi o x y,v=>∃ a k t v1 v2,v = .ref a∧σ a = some (tup [.str o t,v1,v2] k)∧TreeAt σ x v1∧TreeAt σ y v2
theorem TreeAt.open {σ:Store} {T:Tree} {v:Value} (h:TreeAt σ T v):(X4 fun a k t vs=>N3 (v = .ref a) (σ a = some (tup (.str T.op t :: vs) k)) (All2 (TreeAt σ) T.kids vs)):=by
 refine lG ?_; intro G
 cases T with
 | lf o=>obtain ⟨a,k,t,rfl,e⟩:=h; exact ⟨a,k,t,[],rfl,e,.nil⟩
 | un o x=>obtain ⟨a,k,t,v1,rfl,e,h1⟩:=h; exact ⟨a,k,t,[v1],rfl,e,.cons h1 .nil⟩
 | bi o x y=>obtain ⟨a,k,t,v1,v2,rfl,e,h1,h2⟩:=h; exact ⟨a,k,t,[v1,v2],rfl,e,.cons h1 (.cons h2 .nil)⟩
theorem TreeAt.mono {σ σ':Store}:∀ {T:Tree} {v:Value},TreeAt σ T v→(∀ a o,o.cls = .type "tuple"→σ a = some o→σ' a = some o)→TreeAt σ' T v
 | .lf _,_,⟨a,k,t,e1,e⟩,h=>⟨a,k,t,e1,h _ _ rfl e⟩
 | .un _ _,_,⟨a,k,t,v1,e1,e,h1⟩,h=>⟨a,k,t,v1,e1,h _ _ rfl e,h1.mono h⟩
 | .bi _ _ _,_,⟨a,k,t,v1,v2,e1,e,h1,h2⟩,h=>⟨a,k,t,v1,v2,e1,h _ _ rfl e,h1.mono h,h2.mono h⟩
def lookS (s:St) (op:Str) (cs:List Nat):Option Nat:=(s.known.lookup (op,cs.map s.r)).map s.r
noncomputable def allSome:List (Option Nat)→Option (List Nat)
 | []=>some []
 | none :: _=>none
 | some x :: r=>(allSome r).map (x :: ·)
noncomputable def clsT (s:St):Tree→Option Nat
 | .lf o=>lookS s o []
 | .un o t=>(allSome [clsT s t]).bind (lookS s o)
 | .bi o t u=>(allSome [clsT s t,clsT s u]).bind (lookS s o)
theorem clsT_eq (s:St) (T:Tree):clsT s T = (allSome (T.kids.map (clsT s))).bind (lookS s T.op):=by cases T <;> rfl
def oi:Option Nat→Int
 | none=>-1
 | some c=>c
theorem allSome_none {l:List (Option Nat)} (h:allSome l = none):none ∈ l:=by
 induction l with
 | nil=>cases h
 | cons x l ih =>
  cases x with
  | none=>exact .head _
  | some y =>
   unfold allSome at h
   cases q:allSome l with
   | none=>exact .tail _ (ih q)
   | some z=>rw [q] at h; cases h
theorem allSome_some {l:List (Option Nat)} {cs:List Nat} (h:allSome l = some cs):l = cs.map some:=by
 induction l generalizing cs with
 | nil=>cases h; rfl
 | cons x l ih =>
  cases x with
  | none=>exact nn h
  | some y =>
   unfold allSome at h
   cases q:allSome l with
   | none=>rw [q] at h; exact nn h
   | some z=>rw [q] at h; cases h; rw [ih q]; rfl
section
variable {P:Par} {A:Around} {env:Env} {W:List Addr} {α β:Type} {σ σ':Store} {m:Vars} {X:HA} {ρ:Addr→Nat} {s:St} {gi gd:Addr}
theorem all2_intsAre {is:List Int} {vs:List Value} (h:All2 (fun i v=>∃ t,v = .int i t) is vs):IntsAre vs is:=by
 induction h with
 | nil=>exact .nil
 | cons h _ ih=>obtain ⟨t,rfl⟩:=h; exact .cons _ _ ih
theorem oInI {l:Addr} {vs:List Value} {is:List Int} {n:Nat} {k:Int} {t:Tok} {Q:Value→Store→Prop} (e:σ l = some (lst vs n)) (hi:IntsAre vs is) (h:Q (.bool (is.any (· == k))) σ):Op P A (compareOp .In (.int k t) (.ref l)) σ Q:=fun s G =>
 in_list_ints (isList_of (G.has _ _ e)) hi ⟨σ,h,Tr.refl G⟩
theorem oNotInI {l:Addr} {vs:List Value} {is:List Int} {n:Nat} {k:Int} {t:Tok} {Q:Value→Store→Prop} (e:σ l = some (lst vs n)) (hi:IntsAre vs is) (h:Q (.bool (!is.any (· == k))) σ):Op P A (compareOp .NotIn (.int k t) (.ref l)) σ Q:=fun s G =>
 notin_list_ints (isList_of (G.has _ _ e)) hi ⟨σ,h,Tr.refl G⟩
noncomputable def fdClassOf (p:Params):{fd:FuncData // fdIn (Mine.hd.heap_1 p) 40 = some fd}:=⟨_,rfl⟩
theorem cClassOf (O:P.Ok) (kv:∀ p ∈ s.known,p.2 < s.n):∀ (T:Tree) {A:Around} {σ:Store} {v:Value} {Q:Value→Store→Prop},Rm A (T.dep + 14)→IsI σ gi gd 95 (gInst X)→HInv P X ρ σ s→TreeAt σ T v→(∀ t,Q (.int (oi (clsT s T)) t) σ)→COp P A (.call (.ref 40) ⟨[.ref gi,v],[]⟩) σ Q:=by
 suffices ∀ (n:Nat) (T:Tree),T.dep≤n→∀ {A:Around} {σ:Store} {v:Value} {Q:Value→Store→Prop},Rm A (T.dep + 14)→IsI σ gi gd 95 (gInst X)→HInv P X ρ σ s→TreeAt σ T v→(∀ t,Q (.int (oi (clsT s T)) t) σ)→COp P A (.call (.ref 40) ⟨[.ref gi,v],[]⟩) σ Q from
  fun T _ _ _ _=>this T.dep T (Nat.le_refl _)
 intro n
 induction n with
 | zero=>intro T hT; cases T <;> simp [Tree.dep] at hT
 | succ n ih =>
 intro T hT A σ v Q hR Ig I N h
 have kd:∀ U ∈ T.kids,U.dep + 1≤T.dep:=fun U hU=>by
  cases T with
  | lf o=>cases hU
  | un o x=>rw [Tree.kids,List.mem_singleton] at hU; subst hU; exact Nat.le_refl _
  | bi o x y =>
   simp only [Tree.kids,List.mem_cons,List.not_mem_nil,or_false] at hU
   rcases hU with rfl | rfl <;> (simp only [Tree.dep]; omega)
 have kl:T.kids.length≤2:=by cases T <;> simp [Tree.kids]
 refine lG ?_; intro G
 obtain ⟨a,k,t,vs,rfl,ea,h2⟩:=N.open
 refine oCall O (fdClassOf _).2 hR rfl rfl rfl rfl rfl rfl (fun L=>?_) rfl rfl rfl
 intro env A' W m0 Q'
 obtain hR':Rm A' (T.dep + 13):=hR.deeper
 obtain hh:=hR'.handled
 obtain ⟨t1,Ih⟩:=I.H.inst
 refine xCons (lq ?_); intro K
 refine xAssignCompG ⟨rfl,rfl,rfl,rfl,rfl⟩ ?_
 refine lq ?_; intro K
 refine xSliceTail (xName (xLoad rfl rfl (xInt fun t2=>?_)))
 refine ⟨a,_,vs,k,t2,rfl,rfl,ea,by rw [← h2.length]; exact z263 kl,fun l σ₁ le1 hl el=>?_⟩
 obtain le1:Le σ σ₁:=le1
 obtain I1:=I.le le1
 obtain Ig1:=Ig.ext (fun o e=>le1 _ _ e) (fun o e=>le1 _ _ e)
 refine compGo_map T.kids _ _ (fun _=>true) (fun U w _=>∃ t,w = .int (oi (clsT s U)) t) (srx_tuple (k:=0) hh h2) (fun p hp=>by rw [List.mem_singleton] at hp; subst hp; exact el) (z263 kl) (fun _ _ _ _ h _=>h) (fun _=>rfl) rfl rfl ?_ ?_
 ·rintro C U w σ' m'' hU hNU hle hm' hmx
  refine ⟨⟨rfl,rfl,rfl⟩,fun _=>?_⟩
  obtain I3:=I1.le hle
  obtain Ig3:=Ig1.ext (fun o e=>hle _ _ e) (fun o e=>hle _ _ e)
  refine lq ?_; intro K
  refine xCallMeth (xName (xLoadCell rfl rfl (hm' _ (by decide)) fun pl=>?_))
  refine xOp (oGetMethod O Ig3 rfl rfl ⟨kept_fn O (fdClassOf _).2,?_⟩)
  refine evCons (xName (xLoad rfl hmx (evNil ?_)))
  obtain hk:=kd U hU
  exact xOp (oOf (ih U (z264 hT hk) (hR'.mono (z265 hk)) Ig3 I3 (hNU.mono fun a o _ e=>hle _ _ (le1 _ _ e)) fun t=>⟨Le.refl _,rfl,t,rfl⟩))
 intro D ws k' σ₂ le2 hD eD h3
 rw [show (T.kids.filter fun _=>true) = T.kids from by simp] at h3
 refine xStore rfl rfl (List.mem_cons_self ..) ?_
 obtain leA:Le σ σ₂:=le1.trans le2
 obtain h3':All2 (fun i w=>∃ t,w = .int i t) (T.kids.map fun U=>oi (clsT s U)) ws:=All2.map_left.mpr h3
 refine lq ?_; intro K
 refine xLast (lq ?_); intro K
 refine xReturn (xIfExp (xTrueCompare (xNeg1 fun t3=>xName (xLoad rfl rfl ?_))))
 refine lq ?_; intro K
 refine xOp (oInI eD (all2_intsAre h3') (xTruthyBool ⟨fun hb=>?_,fun hb=>?_⟩))
 ·-- one of the parts is not there
  refine lq ?_; intro K
  refine xForget leA (xNeg1 fun t4=>?_)
  have:clsT s T = none:=by
   rw [clsT_eq]
   cases q:allSome (T.kids.map (clsT s)) with
   | none=>rfl
   | some cs =>
    exfalso
    obtain hq:=allSome_some q
    obtain ⟨i,hi,e⟩:=List.any_eq_true.mp hb
    obtain ⟨U,hU,rfl⟩:=List.mem_map.mp hi
    have:clsT s U ∈ cs.map some:=by rw [← hq]; exact List.mem_map.mpr ⟨U,hU,rfl⟩
    refine lG ?_; intro G
    obtain ⟨c,_,hc⟩:=List.mem_map.mp this
    rw [← hc] at e
    simp [oi] at e
  obtain h':=h t4
  rw [this] at h'
  exact h'
 ·refine lG ?_; intro G
  obtain ⟨cs,hcs⟩:∃ cs,allSome (T.kids.map (clsT s)) = some cs:=by
   cases q:allSome (T.kids.map (clsT s)) with
   | some cs=>exact ⟨cs,rfl⟩
   | none =>
    exfalso
    obtain ⟨U,hU,e⟩:=List.mem_map.mp (allSome_none q)
    have:(T.kids.map fun U=>oi (clsT s U)).any (· == -1) = true:=List.any_eq_true.mpr ⟨oi (clsT s U),List.mem_map.mpr ⟨U,hU,rfl⟩,by rw [e]; rfl⟩
    rw [hb] at this; cases this
  obtain hmap:=allSome_some hcs
  obtain hNs:Ns ws cs:=by
   rw [Ns.all2]
   obtain h4:All2 (fun (x:Option Nat) w=>∃ t,w = .int (oi x) t) (T.kids.map (clsT s)) ws:=All2.map_left.mpr h3
   rw [hmap] at h4
   exact (All2.map_left.mp h4).mono fun _ _ h=>h
  obtain hcl:clsT s T = lookS s T.op cs:=by rw [clsT_eq,hcs]; rfl
  obtain wf:=I.U.find.wf
  obtain hcn:∀ c ∈ cs,c < s.n:=fun c hc=>by
   have:some c ∈ T.kids.map (clsT s):=by rw [hmap]; exact List.mem_map.mpr ⟨c,hc,rfl⟩
   obtain ⟨U,_,e⟩:=List.mem_map.mp this
   rw [clsT_eq] at e
   cases q:allSome (U.kids.map (clsT s)) with
   | none=>rw [q] at e; exact nn e
   | some ds =>
    rw [q] at e
    unfold lookS at e
    obtain ⟨m,hm,rfl⟩:=Option.map_eq_some_iff.mp e
    exact wf.lt (kv _ (mem_of_lk hm))
  obtain hcl2:cs.length≤2:=by
   have:=congrArg List.length hmap
   rw [List.length_map,List.length_map] at this; exact z266 kl this
  obtain I2:=I.le leA
  obtain Ig2:=Ig.ext (fun o e=>leA _ _ e) (fun o e=>leA _ _ e)
  obtain ⟨t5,Ih2⟩:=I2.H.inst
  refine lq ?_; intro K
  refine xCallMeth (xAttribute (xName (xLoadCell rfl rfl rfl ?_)))
  refine lq ?_; intro K
  refine xOp (oGetAttr O Ig2 rfl rfl rfl fun pl=>?_)
  refine lq ?_; intro K
  refine xOp (oGetMethod O Ih2 rfl rfl ⟨kept_fn O (fdHSeek _).2,?_⟩)
  refine lqE ?_; intro K
  refine evCons (xItem (xName (xLoad rfl rfl (xInt fun t6=>⟨a,_,k,0,t6,_,rfl,rfl,.inr (leA _ _ ea),z101,rfl,?_⟩))))
  refine lqE ?_; intro K
  refine evCons (xName (xLoad rfl rfl (evNil ?_)))
  refine lq ?_; intro K
  refine xOp (Op.to leA (R:=fun v=>∃ t,v = .int (oi (clsT s T)) t) (oOf (cHSeek O (hR'.mono z267) I2 eD hNs hcn (z268 hcl2) kv (fun hno t=>⟨rfl,t,?_⟩) fun m t hm=>⟨rfl,t,?_⟩)) ?_)
  ·rw [hcl]; unfold lookS; rw [hno]; rfl
  ·rw [hcl]; unfold lookS; rw [hm]; rfl
  ·rintro _ ⟨t,rfl⟩; exact h t
end
end Mine
end
section
set_option maxRecDepth 10000
namespace Mine
noncomputable def treeF (nodes:List Node):Nat→Nat→Tree
 | 0,_=>.lf ""
 | f + 1,n=>match nodes[n]? with
  | none=>.lf ""
  | some (op,[])=>.lf op
  | some (op,[a])=>.un op (treeF nodes f a)
  | some (op,a :: b :: _)=>.bi op (treeF nodes f a) (treeF nodes f b)
noncomputable def treeOf (nodes:List Node) (n:Nat):Tree:=treeF nodes (n + 1) n
theorem treeF_any {nodes:List Node} (wf:∀ (i:Nat) (nd:Node),nodes[i]? = some nd→∀ k ∈ nd.2,k < i):∀ (f g n:Nat),n < f→n < g→treeF nodes f n = treeF nodes g n:=by
 intro f
 induction f with
 | zero=>intro g n h; omega
 | succ f ih =>
  intro g n h1 h2
  cases g with
  | zero=>omega
  | succ g =>
   unfold treeF
   cases q:nodes[n]? with
   | none=>rfl
   | some nd =>
    obtain ⟨op,ks⟩:=nd
    obtain hk:=wf n (op,ks) q
    match ks,hk with
    | [],_=>rfl
    | [a],hk =>
     have:=hk a (by simp)
     dsimp only
     rw [ih g a (z269 h1 this) (z269 h2 this)]
    | a :: b :: r,hk =>
     obtain h3:=hk a (by simp)
     obtain h4:=hk b (by simp)
     dsimp only
     rw [ih g a (z269 h1 h3) (z269 h2 h3),ih g b (z269 h1 h4) (z269 h2 h4)]
theorem treeOf_lf {nodes:List Node} {n:Nat} {op:Str} (h:nodes[n]? = some (op,[])):treeOf nodes n = .lf op:=by unfold treeOf treeF; rw [h]
theorem treeOf_un {nodes:List Node} (wf:∀ (i:Nat) (nd:Node),nodes[i]? = some nd→∀ k ∈ nd.2,k < i) {n a:Nat} {op:Str} (h:nodes[n]? = some (op,[a])):treeOf nodes n = .un op (treeOf nodes a):=by
 have:=wf n _ h a (by simp)
 unfold treeOf
 conv=>lhs; unfold treeF
 rw [h]
 dsimp only
 rw [treeF_any wf n (a + 1) a this (Nat.lt_succ_self _)]
theorem treeOf_bi {nodes:List Node} (wf:∀ (i:Nat) (nd:Node),nodes[i]? = some nd→∀ k ∈ nd.2,k < i) {n a b:Nat} {op:Str} (h:nodes[n]? = some (op,[a,b])):treeOf nodes n = .bi op (treeOf nodes a) (treeOf nodes b):=by
 have h1:=wf n _ h a (by simp)
 have h2:=wf n _ h b (by simp)
 unfold treeOf
 conv=>lhs; unfold treeF
 rw [h]
 dsimp only
 rw [treeF_any wf n (a + 1) a h1 (Nat.lt_succ_self _),treeF_any wf n (b + 1) b h2 (Nat.lt_succ_self _)]
theorem treeF_dep (nodes:List Node):∀ (f n:Nat),(treeF nodes f n).dep≤f + 1:=by
 intro f
 induction f with
 | zero=>intro n; unfold treeF; simp [Tree.dep]
 | succ f ih =>
  intro n
  unfold treeF
  cases q:nodes[n]? with
  | none=>simp [Tree.dep]
  | some nd =>
   obtain ⟨op,ks⟩:=nd
   match ks with
   | []=>simp [Tree.dep]
   | [a]=>have:=ih a; simp only [Tree.dep]; exact z270 this
   | a :: b :: r=>have:=ih a; have:=ih b; simp only [Tree.dep]; omega
section
variable {P:Par} {A:Around} {env:Env} {W:List Addr} {α β:Type} {σ σ':Store} {m:Vars} {X:HA} {ρ:Addr→Nat} {nodes:List Node}
theorem xDictN1 {x:Str} {n:Nat} {t:Tok} {px pc pos:Pos} {k:Nat} {Q:Value→Store→Vars→Prop} (hl:env.kindOf x = some .local) (hv:m x = some (.int (n:Nat) t)) (h:∀ a o,σ a = none→DN P (σ.set a o) a [(n,.bool true)]→Q (.ref a) (σ.set a o) m) (hk:env.scope.kind = .function:=by rfl) (hd:(x == ("__debug__":Str)) = false:=by decide) :
  WP P A env W (eval (.Dict [some (.Name x px)] [.Constant (.bool true) k pc] pos) env) σ m Q:=fun s G F=>by
 obtain T':Tr P W σ s σ { s with heap:=s.heap.push { cls:=.type "dict",data:=.dict #[] } }:=Tr.push0 G _
 obtain F':=F.kept (h':=s.heap.push { cls:=.type "dict",data:=.dict #[] }) fun _ _ e=>Heap.get?_push_of_some _ e
 refine wpAny_Dict_pairs (knd:=intKind P.prog P.w) (pairs:=[(eval (.Name x px) env,do let v ← eval (.Constant (.bool true) k pc) env; standAt pos; pure v)]) rfl (by simp) (by simp) ?_
 obtain ⟨mm,hn,hm⟩:=F'.ns
 refine evalPairs_cons (wpAny_Name (wpAny_loadName_local hk hl hn ((hm x hl).trans hv) ?_) hd)
 refine wpAny_bind (wpAny_Constant_bool (wpAny_bind (wpAny_standAt (wpAny_pure (evalPairs_nil ?_)))))
 obtain D0:(s.heap.push { cls:=.type "dict",data:=.dict #[] }).DictOf (intKind P.prog P.w) s.heap.objs.size []:=Heap.DictOf.new s.heap
 refine ⟨[((n:Int),.bool true)],⟨intKind_is _ _ _ _,rfl,trivial⟩,D0,fun h' hd hs=>?_⟩
 obtain ⟨o,e,hdo⟩:=Heap.dictOf_iff.mp hd
 obtain nn:=none_of (h:=s.heap) (Nat.le_refl _)
 obtain hk':∀ b o,s.heap.get? b = some o→h'.get? b = some o:=fun b o eb=>hs.extBut b o (Nat.ne_of_lt (Heap.lt_size eb)) (Heap.get?_push_of_some _ eb)
 obtain T:=Tr.grown G hk' nn e (s.toks + [((Value.int (n:Nat) t),Value.bool true)].length) (big_of G.base)
 exact ⟨_,m,h _ o (σnone G nn) ⟨o,Store.set_same ..,hdo⟩,F.tr T,T.wider (by simp)⟩
theorem treeAt_node (wf:∀ (i:Nat) (nd:Node),nodes[i]? = some nd→∀ k ∈ nd.2,k < i) {y:Nat} {nd:Node} (hnd:nodes[y]? = some nd) {ws:List Value} {T:Addr} {k:Nat} {t:Tok} (h2:nd.2.length≤2) (h3:All2 (fun z v=>TreeAt σ (treeOf nodes z) v) nd.2 ws)
  (e:σ T = some (tup ([.str nd.1 t] ++ ws) k)):TreeAt σ (treeOf nodes y) (.ref T):=by
 obtain ⟨op,ks⟩:=nd
 replace h3:All2 (fun z v=>TreeAt σ (treeOf nodes z) v) ks ws:=h3
 cases h3 with
 | nil=>rw [treeOf_lf hnd]; exact ⟨T,k,t,rfl,e⟩
 | cons h1 h3 =>
  cases h3 with
  | nil=>rw [treeOf_un wf hnd]; exact ⟨T,k,t,_,rfl,e,h1⟩
  | cons h4 h3 =>
   cases h3 with
   | nil=>rw [treeOf_bi wf hnd]; exact ⟨T,k,t,_,_,rfl,e,h1,h4⟩
   | cons _ _=>exact absurd h2 (by simp)
noncomputable def fdTerm (p:Params):{fd:FuncData // fdIn (Mine.hd.heap_1 p) 225 = some fd}:=⟨_,rfl⟩
set_option maxHeartbeats 4000000 in
theorem cTerm (O:P.Ok) {a:Nat} {t:Tok} {Q:Value→Store→Prop} (hR:Rm A 10) (B:BInv P X σ nodes) (R:Roles X ρ σ) (ar2:∀ nd ∈ nodes,nd.2.length≤2) (ha:a < nodes.length)
  (h:∀ v σ',Le σ σ'→TreeAt σ' (treeOf nodes a) v→Q v σ'):COp P A (.call (.ref 225) ⟨[.ref X.b,.int (a:Nat) t],[]⟩) σ Q:=by
 refine oCall O (fdTerm _).2 hR rfl rfl rfl rfl rfl rfl (fun L=>?_) rfl rfl rfl
 intro env A' W m0 Q'
 have hR':Rm A' 9:=hR.deeper
 have hh:=hR'.handled
 have hsm:=B.small
 refine xCons (lq ?_); intro K
 refine xAssignSwap (names:=["below","stack"]) hh (xTuple ?_)
 refine lqE ?_; intro K
 refine (xDictN1 rfl rfl fun bd od hbd D1=>?_)
 have le1:Le σ (σ.set bd od):=Le.new hbd
 generalize (σ.set bd od) = σ₁ at *
 refine lqE ?_; intro K
 refine (xList (evCons (xName (xLoad rfl rfl (evNil fun sl hsl=>evNil fun tp htp=>?_)))))
 have le2:Le σ₁ (σ₁.set sl (lst [.int (a:Nat) t] 0)):=Le.new hsl
 obtain esl:(σ₁.set sl (lst [.int (a:Nat) t] 0)) sl = some (lst [.int (a:Nat) t] 0):=Store.set_same ..
 generalize (σ₁.set sl (lst [.int (a:Nat) t] 0)) = σ₂ at *
 obtain le3:Le σ₂ (σ₂.set tp (tup [.ref bd,.ref sl] 0)):=Le.new htp
 have etp:(σ₂.set tp (tup [.ref bd,.ref sl] 0)) tp = some (tup [.ref bd,.ref sl] 0):=Store.set_same ..
 refine ⟨tp,_,0,rfl,.inr etp,rfl,?_⟩
 refine xForget le3 ?_
 clear le3 etp htp
 refine lq ?_; intro K
 refine xStore rfl rfl (List.mem_cons_self ..) ?_
 refine lq ?_; intro K
 refine xStore rfl rfl (List.mem_cons_self ..) ?_
 have hne:bd≠sl:=fun q=>by subst q; obtain ⟨o,e,_⟩:=D1; rw [hsl] at e; exact nn e
 have D2:DN P σ₂ bd [(a,.bool true)]:=D1.keep fun o _ e=>le2 _ _ e
 obtain leA:Le σ σ₂:=le1.trans le2
 obtain hsσ:σ sl = none:=none_less le1 hsl
 refine lq ?_; intro K
 refine xCons (lq ?_); intro K
 refine (xWhile (fun k σ' m'=>(X4 fun (l:NKV) (ns:List Nat) (vs:List Value) (kk:Nat)=>N14 (k = (nodes.length - l.length) * 2 + ns.length) (DN P σ' bd l) (σ' sl = some (lst vs kk)) (Ns vs ns) (Le σ σ') ((∀ x ∈ l.map (·.1),x < nodes.length)) ((∀ x ∈ ns,x ∈ l.map (·.1))) (a ∈ l.map (·.1)) ((∀ y ∈ l.map (·.1),y ∈ ns∨∀ nd,nodes[y]? = some nd→∀ z ∈ nd.2,z ∈ l.map (·.1))) (ns.length≤l.length) (m' "self" = some (.ref X.b)) (m' "below" = some (.ref bd)) (m' "stack" = some (.ref sl)) (m' "n" = some (.int (a:Nat) t)))) _
  ⟨[(a,.bool true)],[a],_,0,rfl,D2,esl,Ns.one _ _,leA,by simpa using ha,by simp,by simp,fun y hy=>.inl (by simpa using hy),by simp,rfl,rfl,rfl,rfl⟩ ?_)
 rintro k σ' m' ⟨l,ns,vs,kk,rfl,D,es,hN,hle,hlt,hsub,hal,hcl,hlen,ms1,ms2,ms3,ms4⟩
 obtain hnd:=D.nodup
 obtain hll:l.length≤nodes.length:=by
  have:=nodup_le (n:=nodes.length) hnd hlt
  rwa [List.length_map] at this
 obtain Rσ:Roles X ρ σ':=R.keep fun a _ h0 q=>h0 (none_less hle q)
 have B':BInv P X σ' nodes:=B.keep R (KpR.le hle)
 refine lq ?_; intro K
 refine xTrueCompare (lq ?_); intro K
 refine xCallB O boot_len rfl rfl (xName (xLoad rfl ms3 (evNil ?_)))
 refine lq ?_; intro K
 refine xOp (oLen es (by rw [hN.length]; exact z271 hsm hlen hll) fun t2=>?_)
 refine lq ?_; intro K
 refine xInt fun t3=>xOp (oGt (xTruthyBool ⟨fun hb=>?_,fun hb=>?_⟩))
 ·have hns:ns≠[]:=fun q=>by
   have:=hN.length
   rw [q,List.length_nil] at this
   rw [this] at hb; simp at hb
  obtain ⟨ns',y,rfl⟩:∃ ns' y,ns = ns' ++ [y]:=⟨ns.dropLast,ns.getLast hns,(List.dropLast_concat_getLast hns).symm⟩
  obtain ⟨vs',ty,rfl,hN'⟩:=hN.snoc
  have hyl:y ∈ l.map (·.1):=hsub y (by simp)
  obtain hyn:=hlt y hyl
  simp only [List.length_append,List.length_singleton] at hlen
  obtain ⟨nd,hnd'⟩:∃ nd,nodes[y]? = some nd:=⟨nodes[y],List.getElem?_eq_getElem hyn⟩
  obtain h2:=ar2 nd (List.mem_of_getElem? hnd')
  obtain hkl:∀ z ∈ nd.2,z < nodes.length:=fun z hz=>Nat.lt_trans (B.wf y nd hnd' z hz) hyn
  refine lq ?_; intro K
  refine xLast (lq ?_); intro K
  refine xForX (ξ:=Nat) (xCallMeth (xName (xLoad rfl ms1 fun pl=>?_)))
  refine xOp (oGetMethod O B'.inst rfl rfl ⟨kept_fn O (fdBKids _).2,?_⟩)
  refine evCons (xCallMeth (xName (xLoad rfl ms3 fun pl=>?_)))
  refine xOp (oMethPop es ⟨kept_builtin _,evNil (xOp (oPop es (by rw [hN'.length]; exact z272 hsm hll hlen) fun n2=>?_))⟩)
  have D3:DN P (σ'.set sl (lst vs' n2)) bd l:=D.keep fun o _ e=>(Store.set_ne hne).trans e
  have es3:(σ'.set sl (lst vs' n2)) sl = some (lst vs' n2):=Store.set_same ..
  have le3:Le σ (σ'.set sl (lst vs' n2)):=hle.set hsσ
  generalize (σ'.set sl (lst vs' n2)) = σ₃ at *
  have B3:BInv P X σ₃ nodes:=B.keep R (KpR.le le3)
  refine (xOp (oOf (cBKids O (hR'.mono z126) B3 hnd' fun kl kvs σ₄ le4 hkl4 hNk ekl=>?_)))
  have D4:DN P σ₄ bd l:=D3.keep fun o _ e=>le4 _ _ e
  have es4:=le4 _ _ es3
  have le4':Le σ σ₄:=le3.trans le4
  refine ⟨nd.2,_,_,fun i σ' m'=>(X4 fun (l':NKV) (ns₁:List Nat) (vs₁:List Value) (k₁:Nat)=>N16 ((nodes.length - l'.length) * 2 + ns₁.length≤(nodes.length - l.length) * 2 + ns'.length) (DN P σ' bd l') (σ' sl = some (lst vs₁ k₁)) (Ns vs₁ ns₁) (Le σ σ') (σ' kl = some (tup kvs 0)) ((∀ x ∈ l'.map (·.1),x < nodes.length)) ((∀ x ∈ ns₁,x ∈ l'.map (·.1))) ((∀ x ∈ l.map (·.1),x ∈ l'.map (·.1))) ((∀ z ∈ l'.map (·.1),z ∈ ns₁∨z = y∨∀ nd,nodes[z]? = some nd→∀ w ∈ nd.2,w ∈ l'.map (·.1))) ((∀ z ∈ nd.2.take i,z ∈ l'.map (·.1))) (ns₁.length + 1≤l'.length) (m' "self" = some (.ref X.b)) (m' "below" = some (.ref bd)) (m' "stack" = some (.ref sl)) (m' "n" = some (.int (a:Nat) t))),
   srx_tuple (k:=0) hh (Ns.all2.mp hNk),?_,?_,?_,?_⟩
  ·rintro i σ' m' ⟨_,_,_,_,_,_,_,_,_,h,_⟩ p hp
   rw [List.mem_singleton] at hp; subst hp; exact h
  ·refine ⟨l,ns',vs',n2,Nat.le_refl _,D4,es4,hN',le4',ekl,hlt,fun x hx=>hsub x (by simp [hx]),fun _ h=>h,fun z hz=>?_,by simp,(z273 hlen),ms1,ms2,ms3,ms4⟩
   rcases hcl z hz with h | h
   ·rcases List.mem_append.mp h with h | h
    ·exact .inl h
    ·rw [List.mem_singleton] at h; exact .inr (.inl h)
   ·exact .inr (.inr h)
  ·rintro i z v σ₅ m₅ hz ⟨tz,rfl⟩ ⟨l',ns₁,vs₁,k₁,hμ,D5,es5,hN5,le5,ekl5,hlt5,hsub5,hmono,hcl5,htk,hlen5,r1,r2,r3,r4⟩
   have hzn:=hkl z (List.mem_of_getElem? hz)
   have hnd5:=D5.nodup
   have hll5:l'.length≤nodes.length:=by
    have:=nodup_le (n:=nodes.length) hnd5 hlt5
    rwa [List.length_map] at this
   have htk':∀ x,x ∈ nd.2.take (i + 1)→x ∈ nd.2.take i∨x = z:=fun x hx=>by
    rw [List.take_add_one,hz] at hx; simpa using hx
   refine xStore rfl rfl (List.mem_cons_self ..) ?_
   have q1:(m₅.set "kid" (.int (z:Nat) tz)) "self" = some (.ref X.b):=r1
   have q2:(m₅.set "kid" (.int (z:Nat) tz)) "below" = some (.ref bd):=r2
   have q3:(m₅.set "kid" (.int (z:Nat) tz)) "stack" = some (.ref sl):=r3
   have q4:(m₅.set "kid" (.int (z:Nat) tz)) "n" = some (.int (a:Nat) t):=r4
   have q5:(m₅.set "kid" (.int (z:Nat) tz)) "kid" = some (.int (z:Nat) tz):=rfl
   generalize (m₅.set "kid" (.int (z:Nat) tz)) = m₆ at *
   refine xLast (lq ?_); intro K
   refine xIf (xTrueCompare (xName (xLoad rfl q5 (xName (xLoad rfl q2 ?_)))))
   refine xOp (oDNotIn D5 (xTruthyBool ⟨fun hb2=>?_,fun hb2=>xNil ?_⟩))
   ·have hno:l'.lookup z = none:=by cases q:l'.lookup z with | none=>rfl | some v=>rw [q] at hb2; simp at hb2
    have hzl:z ∉ l'.map (·.1):=fun hy=>by have:=lookup_isSome.mpr hy; rw [hno] at this; cases this
    have hll6:l'.length + 1≤nodes.length:=by
     have:=nodup_le (n:=nodes.length) (l:=z :: l'.map (·.1)) (List.nodup_cons.mpr ⟨hzl,hnd5⟩) (fun x hx=>by
      rcases List.mem_cons.mp hx with rfl | hx
      ·exact hzn
      ·exact hlt5 x hx)
     rw [List.length_cons,List.length_map] at this; exact this
    refine xCons (lq ?_); intro K
    refine xAssignSub (xBool (xName (xLoad rfl q2 (xName (xLoad rfl q5 ?_)))))
    refine xOp (oDSet D5 (z274 hsm hll6) fun o6 D6=>?_)
    rw [dput_new hno] at D6
    have le6:Le σ (σ₅.set bd o6):=le5.set hbd
    have es6:(σ₅.set bd o6) sl = some (lst vs₁ k₁):=(Store.set_ne hne.symm).trans es5
    have ekl6:(σ₅.set bd o6) kl = some (tup kvs 0):=by
     rw [Store.set_ne]
     ·exact ekl5
     ·rintro rfl; obtain ⟨o,e,_,_,x,_⟩:=D5; exact tup_dict ekl5 e x.1
    generalize (σ₅.set bd o6) = σ₆ at *
    refine xLast (lq ?_); intro K
    refine xExpr (xCallMeth (xName (xLoad rfl q3 fun pl=>?_)))
    refine xOp (oMethAppend es6 ⟨kept_builtin _,(xName (xLoad rfl q5 (evNil ?_)))⟩)
    refine xOp (oAppend es6 (by rw [hN5.length]; exact z275 hsm hlen5 hll6) fun n7=>?_)
    refine ⟨l' ++ [(z,.bool true)],ns₁ ++ [z],_,n7,?_,D6.keep (fun o _ e=>(Store.set_ne hne).trans e),Store.set_same ..,hN5.append (Ns.one _ _),le6.set hsσ,?_,?_,?_,?_,?_,?_,?_,q1,q2,q3,q4⟩
    ·simp only [List.length_append,List.length_singleton]; exact z276 hμ hll6
    ·rw [Store.set_ne]
     ·exact ekl6
     ·rintro rfl; exact tup_lst ekl6 es6
    ·intro x hx
     rw [List.map_append,List.mem_append] at hx
     rcases hx with hx | hx
     ·exact hlt5 x hx
     ·simp only [List.map_cons,List.map_nil,List.mem_singleton] at hx; subst hx; exact hzn
    ·intro x hx
     rw [List.map_append,List.mem_append]
     rcases List.mem_append.mp hx with hx | hx
     ·exact .inl (hsub5 x hx)
     ·exact .inr (by simpa using hx)
    ·intro x hx
     rw [List.map_append,List.mem_append]; exact .inl (hmono x hx)
    ·intro x hx
     rw [List.map_append,List.mem_append] at hx
     rcases hx with hx | hx
     ·rcases hcl5 x hx with h | h | h
      ·exact .inl (List.mem_append.mpr (.inl h))
      ·exact .inr (.inl h)
      ·exact .inr (.inr fun nd' hn w hw=>by rw [List.map_append,List.mem_append]; exact .inl (h nd' hn w hw))
     ·exact .inl (List.mem_append.mpr (.inr (by simpa using hx)))
    ·intro x hx
     rw [List.map_append,List.mem_append]
     rcases htk' x hx with h | h
     ·exact .inl (htk x h)
     ·exact .inr (by simp [h])
    ·simp only [List.length_append,List.length_singleton]; exact z128 hlen5
   ·have hzl:z ∈ l'.map (·.1):=lookup_isSome.mp (by cases q:l'.lookup z with | none=>rw [q] at hb2; simp at hb2 | some v=>rfl)
    exact ⟨l',ns₁,vs₁,k₁,hμ,D5,es5,hN5,le5,ekl5,hlt5,hsub5,hmono,hcl5,fun x hx=>(htk' x hx).elim (htk x) fun h=>h ▸ hzl,hlen5,q1,q2,q3,q4⟩
  ·rintro σ₅ m₅ ⟨l',ns₁,vs₁,k₁,hμ,D5,es5,hN5,le5,ekl5,hlt5,hsub5,hmono,hcl5,htk,hlen5,r1,r2,r3,r4⟩
   rw [List.take_length] at htk
   refine ⟨_,?_,l',ns₁,vs₁,k₁,rfl,D5,es5,hN5,le5,hlt5,hsub5,hmono _ hal,fun z hz=>?_,(z277 hlen5),r1,r2,r3,r4⟩
   ·simp only [List.length_append,List.length_singleton]; exact z278 hμ
   ·refine lG ?_; intro G
    rcases hcl5 z hz with h | h | h
    ·exact .inl h
    ·subst h
     exact .inr fun nd' hn w hw=>by rw [hnd'] at hn; cases hn; exact htk w hw
    ·exact .inr h
 ·have hns:ns = []:=by
   have:=hN.length
   cases q:ns with
   | nil=>rfl
   | cons x y=>rw [q,List.length_cons] at this; rw [this] at hb; simp at hb
  subst hns
  have hclosed:∀ y ∈ l.map (·.1),∀ nd,nodes[y]? = some nd→∀ z ∈ nd.2,z ∈ l.map (·.1):=fun y hy=>(hcl y hy).elim (fun h=>by cases h) id
  refine xCons (lq ?_); intro K
  refine xAssignName (xDict0 fun md hmd=>?_)
  have Dm:DN P (σ'.set md { cls:=.type "dict",data:=.dict #[] }) md []:=⟨_,Store.set_same ..,dn_new⟩
  have le6:Le σ' (σ'.set md { cls:=.type "dict",data:=.dict #[] }):=Le.new hmd
  generalize (σ'.set md { cls:=.type "dict",data:=.dict #[] }) = σ₆ at *
  have D6:DN P σ₆ bd l:=D.keep fun o _ e=>le6 _ _ e
  have hmσ:σ md = none:=none_less hle hmd
  refine xStoreCell rfl rfl (fun c hc=>mem_wrOf hc) ?_
  have q1:(m'.set "made" (.ref md)) "self" = some (.ref X.b):=ms1
  have q2:(m'.set "made" (.ref md)) "below" = some (.ref bd):=ms2
  have q3:(m'.set "made" (.ref md)) "n" = some (.int (a:Nat) t):=ms4
  have q4:(m'.set "made" (.ref md)) "made" = some (.ref md):=rfl
  generalize (m'.set "made" (.ref md)) = m₆ at *
  refine xCons (lq ?_); intro K
  refine xForX (ξ:=Nat) (xCallB O boot_sorted' rfl rfl (xName (xLoad rfl q2 (evNil ?_))))
  refine xOp (oSortedD hh D6 (z279 hsm hll) fun ks b ws k hp hs hb hNb=>?_)
  obtain hasc:=asc_of hp hs hnd
  obtain hmem:∀ x,x ∈ ks ↔ x ∈ l.map (·.1):=fun x=>hp.mem_iff
  obtain hkl:ks.length≤nodes.length:=by rw [hp.length_eq,List.length_map]; exact hll
  obtain le7:Le σ₆ (σ₆.set b (lst ws k)):=Le.new hb
  obtain eb7:(σ₆.set b (lst ws k)) b = some (lst ws k):=Store.set_same ..
  generalize (σ₆.set b (lst ws k)) = σ₇ at *
  have Dm7:DN P σ₇ md []:=Dm.keep fun o _ e=>le7 _ _ e
  have hbσ:σ b = none:=none_less (hle.trans le6) hb
  refine ⟨ks,_,_,fun i σ' m'=>(∃ l₂,N8 (DN P σ' md l₂) (l₂.length≤i) ((∀ x ∈ ks.take i,∃ v,l₂.lookup x = some v∧TreeAt σ' (treeOf nodes x) v)) (Le σ σ') (σ' b = some (lst ws k)) (m' "self" = some (.ref X.b)) (m' "made" = some (.ref md)) (m' "n" = some (.int (a:Nat) t))),
   srx_list (k:=k) hh (Ns.all2.mp hNb),?_,⟨[],Dm7,Nat.le_refl _,by simp,(hle.trans le6).trans le7,eb7,q1,q4,q3⟩,?_,?_⟩
  ·rintro i σ' m' ⟨_,_,_,_,_,h,_⟩ p hp
   rw [List.mem_singleton] at hp; subst hp; exact h
  ·rintro i y v σ₈ m₈ hy ⟨ty,rfl⟩ ⟨l₂,D8,hl8,htr,le8,eb8,r1,r2,r3⟩
   have hyk:=List.mem_of_getElem? hy
   have hyl:=(hmem y).mp hyk
   have hyn:=hlt y hyl
   obtain ⟨nd,hnd'⟩:∃ nd,nodes[y]? = some nd:=⟨nodes[y],List.getElem?_eq_getElem hyn⟩
   have h2:=ar2 nd (List.mem_of_getElem? hnd')
   obtain hilt:i < ks.length:=(List.getElem?_eq_some_iff.mp hy).1
   obtain hkt:∀ z ∈ nd.2,z ∈ ks.take i:=fun z hz=>by
    have hzy:=B.wf y nd hnd' z hz
    obtain ⟨j,hj⟩:=List.mem_iff_getElem?.mp ((hmem z).mpr (hclosed y hyl nd hnd' z hz))
    obtain ⟨h1,h1'⟩:=List.getElem?_eq_some_iff.mp hj
    obtain ⟨h3,h3'⟩:=List.getElem?_eq_some_iff.mp hy
    obtain hji:j < i:=by
     refine lG ?_; intro G
     rcases Nat.lt_trichotomy j i with q | q | q
     ·exact q
     ·subst q; omega
     ·have:=List.pairwise_iff_getElem.mp hasc i j h3 h1 q; omega
    exact List.mem_iff_getElem?.mpr ⟨j,by rw [List.getElem?_take_of_lt hji]; exact hj⟩
   refine xStore rfl rfl (List.mem_cons_self ..) ?_
   have s1:(m₈.set "k" (.int (y:Nat) ty)) "self" = some (.ref X.b):=r1
   have s2:(m₈.set "k" (.int (y:Nat) ty)) "made" = some (.ref md):=r2
   have s3:(m₈.set "k" (.int (y:Nat) ty)) "n" = some (.int (a:Nat) t):=r3
   have s4:(m₈.set "k" (.int (y:Nat) ty)) "k" = some (.int (y:Nat) ty):=rfl
   generalize (m₈.set "k" (.int (y:Nat) ty)) = m₉ at *
   have B8:BInv P X σ₈ nodes:=B.keep R (KpR.le le8)
   refine xLast (lq ?_); intro K
   refine xAssignSub (xBinOp (xTuple ?_))
   refine (xCallMeth (xName (xLoad rfl s1 fun pl=>?_)))
   refine xOp (oGetMethod O B8.inst rfl rfl ⟨kept_fn O (fdBOp _).2,?_⟩)
   refine (xName (xLoad rfl s4 (evNil ?_)))
   refine xOp (oOf (cBOp O (hR'.mono z126) B8 hnd' fun to=>?_))
   refine fun t1 ht1=>?_
   have le9:Le σ₈ (σ₈.set t1 (tup [.str nd.1 to] 0)):=Le.new ht1
   have et1:(σ₈.set t1 (tup [.str nd.1 to] 0)) t1 = some (tup [.str nd.1 to] 0):=Store.set_same ..
   generalize (σ₈.set t1 (tup [.str nd.1 to] 0)) = σ₉ at *
   obtain B9:BInv P X σ₉ nodes:=B.keep R (KpR.le (le8.trans le9))
   refine xCallT O boot_tuple rfl rfl ?_
   refine xListCompG ⟨rfl,rfl,rfl,rfl,rfl⟩ ?_
   refine xCallMeth (xName (xLoad rfl s1 fun pl=>?_))
   refine xOp (oGetMethod O B9.inst rfl rfl ⟨kept_fn O (fdBKids _).2,?_⟩)
   refine evCons (xName (xLoad rfl s4 (evNil ?_)))
   refine xOp (oOf (cBKids O (hR'.mono z126) B9 hnd' fun kl kvs σA leA' hkl4 hNk ekl=>?_))
   obtain DA:DN P σA md l₂:=D8.keep fun o _ e=>leA' _ _ (le9 _ _ e)
   have le8A:Le σ₈ σA:=Le.trans le9 leA'
   refine compGo_map nd.2 _ _ (fun _=>true) (fun z v σ=>TreeAt σ (treeOf nodes z) v) (srx_tuple (k:=0) hh (Ns.all2.mp hNk)) (fun p hp=>by rw [List.mem_singleton] at hp; subst hp; exact ekl) (z263 h2) (fun z v _ _ h k=>h.mono fun a o ht e=>k a o (by unfold isLst; rw [ht]; decide) e) (fun _=>rfl) rfl rfl ?_ ?_
   ·rintro C z v σ' m'' hz ⟨u,rfl⟩ hle' hm' hmx
    refine ⟨⟨rfl,rfl,rfl⟩,fun _=>?_⟩
    refine lG ?_; intro G
    obtain ⟨w,hw,hTw⟩:=htr z (hkt z hz)
    have DA':DN P σ' md l₂:=DA.keep fun o _ e=>hle' _ _ e
    refine xSubscript (T:="dict") slot_dict_getitem.lookup (xName (xLoadCell rfl rfl ((hm' _ (by decide)).trans s2) ?_))
    exact xName (xLoad rfl hmx ⟨DA'.ty,xOp (oDGet DA' hw ⟨Le.refl _,rfl,hTw.mono fun a o _ e=>hle' _ _ (le8A _ _ e)⟩)⟩)
   intro D ws' k' σB leB hD eD h3
   rw [show (nd.2.filter fun _=>true) = nd.2 from by simp] at h3
   refine evNil (xOp (oTupleOf eD (by rw [← h3.length]; exact z263 h2) fun T hT=>?_))
   refine xOp (oAddTuple (Store.set_new hT (leB _ _ (leA' _ _ et1))) (Store.set_same ..) (by rw [List.length_nil,← h3.length]; exact z280 h2) fun T2 σC leC ⟨kC,eC⟩=>?_)
   have leBC:Le σB σC:=(Le.new hT).trans leC
   have le8C:Le σ₈ σC:=(le8A.trans leB).trans leBC
   have h3C:All2 (fun z v=>TreeAt σC (treeOf nodes z) v) nd.2 ws':=h3.mono fun z v h=>h.mono fun a o _ e=>leBC _ _ e
   have hTree:TreeAt σC (treeOf nodes y) (.ref T2):=treeAt_node B.wf hnd' h2 h3C eC
   have DC:DN P σC md l₂:=D8.keep fun o _ e=>le8C _ _ e
   refine xName (xLoadCell rfl rfl s2 (xName (xLoad rfl s4 ?_)))
   refine xOp (oDSet DC (z281 hsm hkl hl8 hilt) fun oE DE=>?_)
   have leE:Le σ (σC.set md oE):=(le8.trans le8C).set hmσ
   have tupE:∀ a o,o.cls = .type "tuple"→σC a = some o→(σC.set md oE) a = some o:=fun a o ht e=>by
    rw [Store.set_ne]
    ·exact e
    ·rintro rfl; obtain ⟨o',e',_,_,x,_⟩:=DC; rw [e] at e'; cases e'; exact dn_tup x.1 ht
   refine ⟨dput l₂ y (.ref T2),DE,Nat.le_trans (length_dput _ _ _) (z127 hl8),fun x hx=>?_,leE,?_,s1,s2,s3⟩
   ·rw [List.take_add_one,hy] at hx
    refine lG ?_; intro G
    rcases List.mem_append.mp hx with hx | hx
    ·obtain ⟨w,hw,hTw⟩:=htr x hx
     by_cases q:x = y
     ·subst q; exact ⟨_,by rw [lookup_dput,if_pos rfl],hTree.mono tupE⟩
     ·exact ⟨w,by rw [lookup_dput,if_neg q]; exact hw,(hTw.mono fun a o _ e=>le8C _ _ e).mono tupE⟩
    ·have:x = y:=by simpa using hx
     subst this
     exact ⟨_,by rw [lookup_dput,if_pos rfl],hTree.mono tupE⟩
   ·rw [Store.set_ne]
    ·exact le8C _ _ eb8
    ·rintro rfl; obtain ⟨o',e',_,_,x,_⟩:=D8; exact lst_dict eb8 e' x.1
  ·rintro σ₈ m₈ ⟨l₂,D8,hl8,htr,le8,eb8,r1,r2,r3⟩
   rw [List.take_length] at htr
   obtain ⟨v,hv,hTv⟩:=htr a ((hmem a).mpr hal)
   refine xLast (lq ?_); intro K
   refine xReturn (xSubscript (T:="dict") slot_dict_getitem.lookup (xName (xLoadCell rfl rfl r2 ?_)))
   exact xName (xLoad rfl r3 ⟨D8.ty,xOp (oDGet D8 hv (h v σ₈ le8 hTv))⟩)
end
end Mine
end
section
set_option maxRecDepth 10000
namespace Mine
def Alv (σ:Store) (l:List Addr):Prop:=l.Nodup∧∀ a ∈ l,σ a≠none
theorem Alv.new {σ:Store} {l:List Addr} {x:Addr} {o:Obj} (h:Alv σ l) (hx:σ x = none):Alv (σ.set x o) (x :: l) :=
 ⟨List.nodup_cons.mpr ⟨fun hm=>h.2 x hm hx,h.1⟩,fun a ha=>by
  rcases List.mem_cons.mp ha with rfl | ha
  ·rw [Store.set_same]; intro q; cases q
  ·exact alive_set a (h.2 a ha)⟩
theorem Alv.set {σ:Store} {l:List Addr} {x:Addr} {o:Obj} (h:Alv σ l):Alv (σ.set x o) l:=⟨h.1,fun a ha=>alive_set a (h.2 a ha)⟩
theorem Alv.ne {σ:Store} {l:List Addr} {x a:Addr} (h:Alv σ l) (hx:σ x = none) (ha:a ∈ l):x≠a:=fun q=>h.2 a ha (q ▸ hx)
def LeB (d:Addr) (σ σ':Store):Prop:=∀ a o,a≠d→σ a = some o→σ' a = some o
theorem LeB.refl (d:Addr) (σ:Store):LeB d σ σ:=fun _ _ _ e=>e
theorem LeB.trans {d:Addr} {a b c:Store} (h:LeB d a b) (h':LeB d b c):LeB d a c:=fun x o hx e=>h' x o hx (h x o hx e)
theorem LeB.le {d:Addr} {a b:Store} (h:Le a b):LeB d a b:=fun x o _ e=>h x o e
theorem LeB.none {d x:Addr} {a b:Store} (h:LeB d a b) (hx:x≠d) (e:b x = none):a x = none:=by
 cases q:a x with
 | none=>rfl
 | some o=>rw [h x o hx q] at e; cases e
theorem LeB.set {d:Addr} {σ:Store} {o:Obj}:LeB d σ (σ.set d o):=fun _ _ hx e=>(Store.set_ne hx).trans e
structure Fld (σ S:Store) (x d C:Addr) (att:List (Str × Value)) (new l:List Addr) (own:List (Addr × Obj)):Prop where
 A:Alv S (new ++ l)
 D:d ∈ new ++ l
 I:IsI S x d C att
 B:LeB d σ S
 N:∀ a ∈ new,σ a = none
 K:∀ p ∈ own,p.1≠d∧S p.1 = some p.2
theorem Fld.start {σ:Store} {x d C:Addr} {l:List Addr} (A:Alv σ l) (D:d ∈ l) (I:IsI σ x d C []):Fld σ σ x d C [] [] l []:=⟨A,D,I,LeB.refl _ _,fun _ h=>absurd h List.not_mem_nil,fun _ h=>absurd h List.not_mem_nil⟩
abbrev dict0:Obj:={ cls:=.type "dict",data:=.dict #[] }
theorem Fld.k {σ S:Store} {x d C:Addr} {att:List (Str × Value)} {new l:List Addr} {own:List (Addr × Obj)} (F:Fld σ S x d C att new l own) (i:Nat) {p:Addr × Obj} (h:own[i]? = some p):S p.1 = some p.2:=(F.K p (List.mem_of_getElem? h)).2
theorem Fld.more {σ S T:Store} {x d C:Addr} {att:List (Str × Value)} {new l nw:List Addr} {own ow:List (Addr × Obj)} (F:Fld σ S x d C att new l own) (le:Le S T) (A:Alv T (nw ++ (new ++ l))) (hn:∀ a ∈ nw,S a = none) (hk:∀ p ∈ ow,p.1 ∈ nw∧T p.1 = some p.2):Fld σ T x d C att (nw ++ new) l (ow ++ own) :=
 have nd:∀ a ∈ nw,a≠d:=fun a ha q=>F.A.2 d F.D (q ▸ hn a ha)
 ⟨(List.append_assoc nw new l).symm ▸ A,(List.append_assoc nw new l).symm ▸ List.mem_append_right _ F.D,F.I.ext (le _) (le _),F.B.trans (LeB.le le),
  fun a ha=>(List.mem_append.mp ha).elim (fun h=>F.B.none (nd a h) (hn a h)) (F.N a),
  fun p hp=>(List.mem_append.mp hp).elim (fun h=>⟨nd _ (hk p h).1,(hk p h).2⟩) (fun h=>⟨(F.K p h).1,le _ _ (F.K p h).2⟩)⟩
theorem Fld.put {σ S:Store} {x d C:Addr} {att att':List (Str × Value)} {new l:List Addr} {own:List (Addr × Obj)} {o:Obj} (F:Fld σ S x d C att new l own) (I:IsI (S.set d o) x d C att'):Fld σ (S.set d o) x d C att' new l own :=
 ⟨F.A.set,F.D,I,F.B.trans LeB.set,F.N,fun p hp=>⟨(F.K p hp).1,(Store.set_ne (F.K p hp).1).trans (F.K p hp).2⟩⟩
section
variable {P:Par} {A:Around} {env:Env} {W:List Addr} {α β:Type} {σ σ':Store} {m:Vars} {X:HA} {ρ:Addr→Nat} {nodes:List Node} {x d:Addr} {l:List Addr}
theorem Fld.attr {S:Store} {C:Addr} {att:List (Str × Value)} {new:List Addr} {own:List (Addr × Obj)} {self attr:Str} {o:Obj} {e:PySem.Expr} {p1 p2 p4:Pos} {K:Flow→Store→Vars→Prop} (O:P.Ok) (F:Fld σ S x d C att new l own)
  (hv:∀ Q:Value→Store→Vars→Prop,(∀ a,S a = none→Q (.ref a) (S.set a o) m)→WP P A env W (eval e env) S m Q)
  (hx:env.kindOf self = some .local) (hm:m self = some (.ref x)) (hl:att.lookup attr = none) (hk:setOk P.K C attr = true) (hz:att.length≤100)
  (hd:(self == ("__debug__":Str)) = false) (hs:swapsWith e (some (.Attribute (.Name self p1) attr p2)) p4.line env = pure false) (hf:env.scope.kind = .function)
  (h:∀ a S',Fld σ S' x d C (att ++ [(attr,.ref a)]) (a :: new) l ((a,o) :: own)→K .next S' m) :
  WP P A env W (exec (.Assign [.Attribute (.Name self p1) attr p2] e p4) env) S m K :=
 xAssignAttr (hv _ fun a ha=>xName (xLoad hx hm (xOp (
  have F1:=F.more (nw:=[a]) (ow:=[(a,o)]) (Le.new ha) (F.A.new ha) (fun b hb=>List.mem_singleton.mp hb ▸ ha) (fun p hp=>List.mem_singleton.mp hp ▸ ⟨.head _,Store.set_same ..⟩)
  oSetAttr O F1.I hl hk hz fun o' I'=>h a _ (F1.put I'))) hf) hd) hs
theorem Fld.list {S:Store} {C:Addr} {att:List (Str × Value)} {new:List Addr} {own:List (Addr × Obj)} {self attr:Str} {p1 p2 p3 p4:Pos} {K:Flow→Store→Vars→Prop} (F:Fld σ S x d C att new l own) (O:P.Ok)
  (hx:env.kindOf self = some .local) (hm:m self = some (.ref x)) (hl:att.lookup attr = none) (hk:setOk P.K C attr = true) (hz:Nat.ble att.length 100 = true)
  (hd:(self == ("__debug__":Str)) = false) (hs:swapsWith (.List [] p3) (some (.Attribute (.Name self p1) attr p2)) p4.line env = pure false) (hf:env.scope.kind = .function)
  (h:∀ a S',Fld σ S' x d C (att ++ [(attr,.ref a)]) (a :: new) l ((a,lst [] 0) :: own)→K .next S' m) :
  WP P A env W (exec (.Assign [.Attribute (.Name self p1) attr p2] (.List [] p3) p4) env) S m K :=
 Fld.attr O F (fun _ q=>xList (evNil q)) hx hm hl hk (Nat.le_of_ble_eq_true hz) hd hs hf h
theorem Fld.dict {S:Store} {C:Addr} {att:List (Str × Value)} {new:List Addr} {own:List (Addr × Obj)} {self attr:Str} {p1 p2 p3 p4:Pos} {K:Flow→Store→Vars→Prop} (F:Fld σ S x d C att new l own) (O:P.Ok)
  (hx:env.kindOf self = some .local) (hm:m self = some (.ref x)) (hl:att.lookup attr = none) (hk:setOk P.K C attr = true) (hz:Nat.ble att.length 100 = true)
  (hd:(self == ("__debug__":Str)) = false) (hs:swapsWith (.Dict [] [] p3) (some (.Attribute (.Name self p1) attr p2)) p4.line env = pure false) (hf:env.scope.kind = .function)
  (h:∀ a S',Fld σ S' x d C (att ++ [(attr,.ref a)]) (a :: new) l ((a,dict0) :: own)→K .next S' m) :
  WP P A env W (exec (.Assign [.Attribute (.Name self p1) attr p2] (.Dict [] [] p3) p4) env) S m K :=
 Fld.attr O F (fun _ q=>xDict0 q) hx hm hl hk (Nat.le_of_ble_eq_true hz) hd hs hf h
noncomputable def fdUInit (p:Params):{fd:FuncData // fdIn (Mine.hd.heap_1 p) 267 = some fd}:=⟨_,rfl⟩
theorem cUInit (O:P.Ok) {Q:Value→Store→Prop} (hR:Rm A 4) (I:IsI σ x d 331 []) (hA:Alv σ l) (hdl:d ∈ l)
  (h:∀ ab lo me σ',(σ ab = none∧σ lo = none∧σ me = none)→Alv σ' (me :: lo :: ab :: l)→LeB d σ σ'→IsI σ' x d 331 [("above",.ref ab),("lots",.ref lo),("merged",.ref me)]→(∃ k,σ' ab = some (lst [] k))→(∃ k,σ' lo = some (lst [] k))→(∃ k,σ' me = some (lst [] k))→Q .none σ') :
  COp P A (.call (.ref 267) ⟨[.ref x],[]⟩) σ Q:=by
 refine oCall O (fdUInit _).2 hR rfl rfl rfl rfl rfl rfl (fun L=>?_) rfl rfl rfl
 intro env A' W m0 Q'
 have F:=Fld.start hA hdl I
 refine xCons (lq ?_); intro K
 refine F.list O rfl rfl rfl rfl rfl (by decide) rfl rfl fun ab S1 F=>?_
 refine xCons (lq ?_); intro K
 refine F.list O rfl rfl rfl rfl rfl (by decide) rfl rfl fun lo S2 F=>?_
 refine xLast (lq ?_); intro K
 refine F.list O rfl rfl rfl rfl rfl (by decide) rfl rfl fun me S3 F=>?_
 exact h ab lo me S3 ⟨F.N _ (.tail _ (.tail _ (.head _))),F.N _ (.tail _ (.head _)),F.N _ (.head _)⟩ F.A F.B F.I ⟨0,F.k 2 rfl⟩ ⟨0,F.k 1 rfl⟩ ⟨0,F.k 0 rfl⟩
noncomputable def fdBInit (p:Params):{fd:FuncData // fdIn (Mine.hd.heap_1 p) 159 = some fd}:=⟨_,rfl⟩
theorem cBInit (O:P.Ok) {Q:Value→Store→Prop} (hR:Rm A 4) (I:IsI σ x d 249 []) (hA:Alv σ l) (hdl:d ∈ l)
  (h:∀ nl nu wl dl σ',(σ nl = none∧σ nu = none∧σ wl = none∧σ dl = none)→Alv σ' (dl :: wl :: nu :: nl :: l)→LeB d σ σ'→IsI σ' x d 249 [("nodes",.ref nl),("numbers",.ref nu),("weights",.ref wl),("depths",.ref dl)]→(∃ k,σ' nl = some (lst [] k))→σ' nu = some { cls:=.type "dict",data:=.dict #[] }→(∃ k,σ' wl = some (lst [] k))→(∃ k,σ' dl = some (lst [] k))→Q .none σ') :
  COp P A (.call (.ref 159) ⟨[.ref x],[]⟩) σ Q:=by
 refine oCall O (fdBInit _).2 hR rfl rfl rfl rfl rfl rfl (fun L=>?_) rfl rfl rfl
 intro env A' W m0 Q'
 have F:=Fld.start hA hdl I
 refine xCons (lq ?_); intro K
 refine F.list O rfl rfl rfl rfl rfl (by decide) rfl rfl fun nl S1 F=>?_
 refine xCons (lq ?_); intro K
 refine F.dict O rfl rfl rfl rfl rfl (by decide) rfl rfl fun nu S2 F=>?_
 refine xCons (lq ?_); intro K
 refine F.list O rfl rfl rfl rfl rfl (by decide) rfl rfl fun wl S3 F=>?_
 refine xLast (lq ?_); intro K
 refine F.list O rfl rfl rfl rfl rfl (by decide) rfl rfl fun dl S4 F=>?_
 exact h nl nu wl dl S4 ⟨F.N _ (.tail _ (.tail _ (.tail _ (.head _)))),F.N _ (.tail _ (.tail _ (.head _))),F.N _ (.tail _ (.head _)),F.N _ (.head _)⟩ F.A F.B F.I ⟨0,F.k 3 rfl⟩ (F.k 2 rfl) ⟨0,F.k 1 rfl⟩ ⟨0,F.k 0 rfl⟩
noncomputable def fdGInit (p:Params):{fd:FuncData // fdIn (Mine.hd.heap_1 p) 35 = some fd}:=⟨_,rfl⟩
theorem cGInit (O:P.Ok) {hv:Value} {Q:Value→Store→Prop} (hR:Rm A 4) (I:IsI σ x d 95 []) (h:∀ σ',LeB d σ σ'→IsI σ' x d 95 [("heap",hv)]→Q .none σ'):COp P A (.call (.ref 35) ⟨[.ref x,hv],[]⟩) σ Q:=by
 refine oCall O (fdGInit _).2 hR rfl rfl rfl rfl rfl rfl (fun L=>?_) rfl rfl rfl
 intro env A' W m0 Q'
 refine xLast (xAssignAttr (xName (xLoad rfl rfl ?_)))
 refine xName (xLoad rfl rfl (xOp (oSetAttr O I rfl rfl (by simp) fun o2 I2=>?_)))
 exact h _ LeB.set I2
end
end Mine
end
section
set_option maxRecDepth 10000
namespace Mine
def s0:St:=⟨[],id,[],fun _=>[],[],0⟩
def HA.all (X:HA):List Addr:=[X.h,X.hd,X.b,X.bd,X.u,X.ud,X.nl,X.wl,X.dl,X.nu,X.ab,X.lo,X.me,X.ed,X.fo,X.kn,X.av,X.wt]
def role0 (X:HA) (a:Addr):Nat:=if a ∈ X.all then X.all.idxOf a + 1 else 0
theorem roles0 {X:HA} {σ:Store} (hn:X.all.Nodup) (ha:∀ a ∈ X.all,σ a≠none):Roles X (role0 X) σ:=by
 have g:∀ (i:Nat) (a:Addr),X.all[i]? = some a→role0 X a = i + 1:=fun i a e=>by
  obtain ⟨h1,h2⟩:=List.getElem?_eq_some_iff.mp e
  unfold role0
  rw [if_pos (List.mem_of_getElem? e),← h2,hn.idxOf_getElem i h1]
 exact ⟨g 0 _ rfl,g 1 _ rfl,g 2 _ rfl,g 3 _ rfl,g 4 _ rfl,g 5 _ rfl,g 6 _ rfl,g 7 _ rfl,g 8 _ rfl,g 9 _ rfl,g 10 _ rfl,g 11 _ rfl,g 12 _ rfl,g 13 _ rfl,g 14 _ rfl,g 15 _ rfl,g 16 _ rfl,g 17 _ rfl,
  fun a h0=>by unfold role0; rw [if_neg fun hm=>ha a hm h0]⟩
section
variable {P:Par} {A:Around} {env:Env} {W:List Addr} {α β:Type} {σ σ':Store} {m:Vars} {X:HA} {ρ:Addr→Nat} {nodes:List Node} {x d:Addr} {l:List Addr}
noncomputable def fdHInit (p:Params):{fd:FuncData // fdIn (Mine.hd.heap_1 p) 349 = some fd}:=⟨_,rfl⟩
theorem none_nil {α:Type} {i:Nat} {p:α} {r:Prop} (h:([]:List α)[i]? = some p):r:=by cases h
theorem Fld.inst {σ S:Store} {x d C x' d' C':Addr} {att att':List (Str × Value)} {new l:List Addr} {own:List (Addr × Obj)} {i j:Nat} (F:Fld σ S x d C att new l own) {es n} (ha:Attrs es att') (hi:own[i]? = some (x',instObj C' d')) (hj:own[j]? = some (d',dictOf es n)):IsI S x' d' C' att':=⟨F.k i hi,es,n,F.k j hj,ha⟩
theorem Fld.start2 {x d C:Addr} (hx:σ x = none) (hd:σ d = none) (hxd:x≠d) (I:IsI ((σ.set d emptyDict).set x (instObj C d)) x d C []):Fld σ ((σ.set d emptyDict).set x (instObj C d)) x d C [] [x,d] [] [] :=
 ⟨⟨by simp [hxd],fun a ha=>by
  simp only [List.append_nil,List.mem_cons,List.not_mem_nil,or_false] at ha
  rcases ha with rfl | rfl
  ·rw [Store.set_same]; intro q; exact ns q
  ·rw [Store.set_ne hxd.symm,Store.set_same]; intro q; cases q⟩,.tail _ (.head _),I,LeB.le ((Le.new hd).set hx),fun a ha=>by
  simp only [List.mem_cons,List.not_mem_nil,or_false] at ha
  rcases ha with rfl | rfl
  ·exact hx
  ·exact hd,fun _ h=>absurd h List.not_mem_nil⟩
theorem le_inst {σ S:Store} {b bd:Addr} {o o':Obj} (hbd:σ bd = none) (hb:σ b = none) (L:LeB bd ((σ.set bd o).set b o') S):Le σ S:=fun a _ e=>L a _ (fun q=>by rw [q,hbd] at e; exact nn e) (((Le.new hbd).set hb) a _ e)
theorem none_inst {σ:Store} {b bd a:Addr} {o o':Obj} (hbd:σ bd = none) (hb:σ b = none) (h:((σ.set bd o).set b o') a = none):σ a = none:=none_less ((Le.new hbd).set hb) h
theorem five {p:Addr→Prop} {a b c d e:Addr} (ha:p a) (hb:p b) (hc:p c) (hd:p d) (he:p e):∀ x ∈ [a,b,c,d,e],p x:=fun x h=>by
 simp only [List.mem_cons,List.not_mem_nil,or_false] at h
 rcases h with rfl | rfl | rfl | rfl | rfl <;> assumption
theorem six {p:Addr→Prop} {a b c d e f:Addr} (ha:p a) (hb:p b) (hc:p c) (hd:p d) (he:p e) (hf:p f):∀ x ∈ [a,b,c,d,e,f],p x:=fun x h=>(List.mem_cons.mp h).elim (fun q=>q ▸ ha) (five hb hc hd he hf x)
theorem five' {P:Addr × Obj→Prop} {a b c d e:Addr} {u v w x y:Obj} (ha:P (a,u)) (hb:P (b,v)) (hc:P (c,w)) (hd:P (d,x)) (he:P (e,y)):∀ p ∈ [(a,u),(b,v),(c,w),(d,x),(e,y)],p.1 ∈ [a,b,c,d,e]∧P p:=fun p h=>by
 simp only [List.mem_cons,List.not_mem_nil,or_false] at h
 rcases h with rfl | rfl | rfl | rfl | rfl <;> exact ⟨by simp,by assumption⟩
theorem six' {P:Addr × Obj→Prop} {a b c d e f:Addr} {u v w x y z:Obj} (ha:P (a,u)) (hb:P (b,v)) (hc:P (c,w)) (hd:P (d,x)) (he:P (e,y)) (hf:P (f,z)):∀ p ∈ [(a,u),(b,v),(c,w),(d,x),(e,y),(f,z)],p.1 ∈ [a,b,c,d,e,f]∧P p:=fun p h =>
 (List.mem_cons.mp h).elim (fun q=>q ▸ ⟨.head _,ha⟩) fun q=>⟨.tail _ (five' hb hc hd he hf p q).1,(five' hb hc hd he hf p q).2⟩
theorem cMkHeap (O:P.Ok) {Q:Value→Store→Prop} (hR:Rm A 10) (h:∀ X ρ σ',Le σ σ'→HInv P X ρ σ' s0→(∀ a,σ a≠none→ρ a = 0)→Q (.ref X.h) σ'):COp P A (.call (.ref 463) ⟨[],[]⟩) σ Q:=by
 refine oMake O (fI:=349) (by rfl) fun x d hx hd hxd I=>?_
 have hRu:Rm (A.under (.builtin "type.__call__" ⟨[.ref 463],[]⟩)) 9:=rm_make hR
 have F:=Fld.start2 hx hd hxd I
 generalize ((σ.set d emptyDict).set x (instObj 463 d)) = S0 at F ⊢
 refine oCall O (fdHInit _).2 hRu rfl rfl rfl rfl rfl rfl (fun L=>?_) rfl rfl rfl
 intro env A' W m0 Q'
 have hR':Rm A' 8:=hRu.deeper
 refine xCons (lq ?_); intro K
 refine xAssignAttr (lq ?_); intro K1
 refine xCallName (xName (xLoadGlobal O rfl rfl ⟨kept_cls O (by rfl),evNil ?_⟩))
 refine xOp (oOf (oMake O (fI:=159) (by rfl) fun b bd hb hbd hbbd Ib=>?_))
 refine cBInit O ((rm_make hR').mono z61) Ib ((F.A.new hbd).new ((Store.set_ne hbbd).trans hb)) (.tail _ (.head _)) fun nl nu wl dl S1 hn A1 Lb IB enl enu ewl edl=>⟨rfl,?_⟩
 have le1:=le_inst hbd hb Lb
 obtain ⟨hb1,es1,n1,hbd1,at1⟩:=IB
 obtain ⟨k1,enl⟩:=enl
 obtain ⟨k2,ewl⟩:=ewl
 obtain ⟨k3,edl⟩:=edl
 have F:=F.more (nw:=[dl,wl,nu,nl,b,bd]) (ow:=[(dl,lst [] k3),(wl,lst [] k2),(nu,dict0),(nl,lst [] k1),(b,instObj 249 bd),(bd,dictOf es1 n1)]) le1 A1
  (six (none_inst hbd hb hn.2.2.2) (none_inst hbd hb hn.2.2.1) (none_inst hbd hb hn.2.1) (none_inst hbd hb hn.1) hb hbd) (six' (P:=fun p=>S1 p.1 = some p.2) edl ewl enu enl hb1 hbd1)
 refine xName (xLoad rfl rfl (xOp (oSetAttr O F.I rfl rfl (Nat.le_of_ble_eq_true rfl) fun o2 I2=>?_)))
 have F:=F.put I2
 generalize (S1.set d o2) = S2 at F ⊢
 refine xCons (lq ?_); intro K
 refine xAssignAttr (lq ?_); intro K1
 refine xCallName (xName (xLoadGlobal O rfl rfl ⟨kept_cls O (by rfl),evNil ?_⟩))
 refine xOp (oOf (oMake O (fI:=267) (by rfl) fun u ud hu hud huud Iu=>?_))
 refine cUInit O ((rm_make hR').mono z61) Iu ((F.A.new hud).new ((Store.set_ne huud).trans hu)) (.tail _ (.head _)) fun ab lo me S3 hn A1 Lu IU eab elo eme=>⟨rfl,?_⟩
 have le3:=le_inst hud hu Lu
 obtain ⟨hu1,es2,n2,hud1,at2⟩:=IU
 obtain ⟨k4,eab⟩:=eab
 obtain ⟨k5,elo⟩:=elo
 obtain ⟨k6,eme⟩:=eme
 have F:=F.more (nw:=[me,lo,ab,u,ud]) (ow:=[(me,lst [] k6),(lo,lst [] k5),(ab,lst [] k4),(u,instObj 331 ud),(ud,dictOf es2 n2)]) le3 A1
  (five (none_inst hud hu hn.2.2) (none_inst hud hu hn.2.1) (none_inst hud hu hn.1) hu hud) (five' (P:=fun p=>S3 p.1 = some p.2) eme elo eab hu1 hud1)
 refine xName (xLoad rfl rfl (xOp (oSetAttr O F.I rfl rfl (Nat.le_of_ble_eq_true rfl) fun o4 I4=>?_)))
 have F:=F.put I4
 generalize (S3.set d o4) = S4 at F ⊢
 refine xCons (lq ?_); intro K
 refine F.list O rfl rfl rfl rfl rfl (by decide) rfl rfl fun ed S5 F=>?_
 refine xCons (lq ?_); intro K
 refine F.list O rfl rfl rfl rfl rfl (by decide) rfl rfl fun fo S6 F=>?_
 refine xCons (lq ?_); intro K
 refine F.dict O rfl rfl rfl rfl rfl (by decide) rfl rfl fun kn S7 F=>?_
 refine xCons (lq ?_); intro K
 refine F.dict O rfl rfl rfl rfl rfl (by decide) rfl rfl fun av S8 F=>?_
 refine xCons (lq ?_); intro K
 refine F.list O rfl rfl rfl rfl rfl (by decide) rfl rfl fun wt S9 F=>?_
 refine xLast (lq ?_); intro K
 refine xAssignAttr (xInt fun tb=>?_)
 refine xName (xLoad rfl rfl (xOp (oSetAttr O F.I rfl rfl (Nat.le_of_ble_eq_true rfl) fun oz Iz=>?_)))
 have F:=F.put Iz
 generalize (S9.set d oz) = Sz at F ⊢
 refine ⟨rfl,?_⟩
 have hper:(HA.all ⟨x,d,b,bd,u,ud,nl,wl,dl,nu,ab,lo,me,ed,fo,kn,av,wt⟩).Perm [wt,av,kn,fo,ed,me,lo,ab,u,ud,dl,wl,nu,nl,b,bd,x,d]:=by
  have hp:[16,17,14,15,8,9,13,11,10,12,7,6,5,4,3,2,1,0].Perm (List.range 18):=by decide
  exact hp.map fun i=>[wt,av,kn,fo,ed,me,lo,ab,u,ud,dl,wl,nu,nl,b,bd,x,d].getD i x
 have dt0:∀ {a:Addr},Sz a = some dict0→DT P Sz a []:=fun e=>⟨_,#[],0,[],e,⟨rfl,rfl,rfl⟩,rfl,rfl,.nil,List.nodup_nil⟩
 refine h ⟨x,d,b,bd,u,ud,nl,wl,dl,nu,ab,lo,me,ed,fo,kn,av,wt⟩ _ Sz (fun a o e=>F.B a o (fun q=>by rw [q,hd] at e; exact nn e) e) ⟨roles0 (hper.symm.nodup F.A.1) (fun a ha=>F.A.2 a (hper.mem_iff.mp ha)),?_,?_,?_⟩ fun a ha=>if_neg fun hm=>ha (F.N a (hper.mem_iff.mp hm))
 ·exact ⟨F.inst at1 (i:=14) (j:=15) rfl rfl,⟨[],k1,F.k 13 rfl,.nil⟩,⟨[],dt0 (F.k 12 rfl),rfl⟩,⟨[],k2,F.k 11 rfl,AllI.nil,rfl⟩,⟨[],k3,F.k 10 rfl,AllI.nil,rfl⟩,fun i nd h=>none_nil h,fun nd h=>absurd h List.not_mem_nil,Nat.zero_le _⟩
 ·exact ⟨⟨F.inst at2 (i:=8) (j:=9) rfl rfl,⟨[],k4,[],F.k 7 rfl,Ns.nil,⟨rfl,fun x p h=>none_nil h⟩⟩,⟨fun x h=>Nat.le_refl _,fun x h=>rfl⟩,Nat.zero_le _⟩,⟨[],k5,F.k 6 rfl,rfl,fun i h=>(Nat.not_lt_zero i h).elim⟩,⟨[],k6,F.k 5 rfl,Nat.le_refl 0⟩⟩
 ·exact ⟨⟨tb,F.I⟩,⟨[],0,F.k 4 rfl,Nat.zero_le _⟩,⟨[],0,F.k 3 rfl,Nat.le_refl 0⟩,dt0 (F.k 2 rfl),⟨[],⟨_,F.k 1 rfl,dn_new⟩,Nat.zero_le _,fun i h=>(Nat.not_lt_zero i h).elim⟩,⟨[],0,F.k 0 rfl,Ns.nil⟩⟩
end
end Mine
end
section
set_option maxRecDepth 10000
namespace Mine
section
variable {P:Par} {A:Around} {env:Env} {W:List Addr} {α β:Type} {σ σ':Store} {m:Vars} {X:HA} {ρ:Addr→Nat}
def DS (P:Par) (σ:Store) (d:Addr) (l:List (Str × Value)):Prop:=∃ o,σ d = some o∧o.IsDictOf (strKind P.prog P.w) l
theorem DS.heap {d:Addr} {l:List (Str × Value)} {s:Shared} (D:DS P σ d l) (G:Good P σ s):s.heap.DictOf (strKind P.prog P.w) d l:=let ⟨o,e,h⟩:=D; Heap.dictOf_iff.mpr ⟨o,G.has _ _ e,h⟩
theorem DS.keep {d:Addr} {l:List (Str × Value)} (D:DS P σ d l) (h:∀ o,o.cls = .type "dict"→σ d = some o→σ' d = some o):DS P σ' d l:=let ⟨o,e,x⟩:=D; ⟨o,h o (let ⟨_,_,y,_⟩:=x; y.1) e,x⟩
theorem DS.ty {d:Addr} {l:List (Str × Value)} (D:DS P σ d l):Ty P σ (.ref d) "dict":=let ⟨_,e,_,_,x,_⟩:=D; Ty.ref e x.1
theorem oSGet {d:Addr} {l:List (Str × Value)} {k:Str} {t:Tok} {v:Value} {Q:Value→Store→Prop} (D:DS P σ d l) (hv:valueAt l k = some v) (h:Q v σ):Op P A (getItem (.ref d) (.str k t)) σ Q:=fun _ G =>
 wpAny_getItem_of (strKind_is _ _ _ _) (D.heap G).mapOf hv ⟨σ,h,Tr.toks G _⟩
theorem oSSet {d:Addr} {l:List (Str × Value)} {k:Str} {t:Tok} {v:Value} {Q:Unit→Store→Prop} (D:DS P σ d l) (hz:l.length≤1000000) (h:∀ o,DS P (σ.set d o) d (stored l k v)→Q () (σ.set d o)):Op P A (setItem (.ref d) (.str k t) v) σ Q:=fun s G=>by
 refine wpAny_setItem_pairs (strKind_is _ _ _ _) (D.heap G) (fun h' hd hs=>?_) (by rw [sizeLine_eq]; exact z11 hz)
 obtain ⟨o₀,e₀,_⟩:=D
 obtain ⟨o,e,hd⟩:=Heap.dictOf_iff.mp hd
 exact ⟨_,h o ⟨o,Store.set_same ..,hd⟩,Tr.upd G e₀ hs e _⟩
def Tape (P:Par) (σ:Store) (tp cl:Addr) (b:Nat):Prop:=(X4 fun a t cvs ck=>N5 (a≤b) (DS P σ tp [("at",.int (a:Nat) t),("cells",.ref cl)]) (σ cl = some (lst cvs ck)) (AllI cvs) (cvs.length≤63))
theorem Tape.mono {tp cl:Addr} {b c:Nat} (T:Tape P σ tp cl b) (h:b≤c):Tape P σ tp cl c:=let ⟨a,t,v,k,h1,r1,r2,r3,r4⟩:=T; ⟨a,t,v,k,Nat.le_trans h1 h,r1,r2,r3,r4⟩
theorem Tape.keep {tp cl:Addr} {b:Nat} (T:Tape P σ tp cl b) (h1:∀ o,σ tp = some o→σ' tp = some o) (h2:∀ o,σ cl = some o→σ' cl = some o):Tape P σ' tp cl b :=
 let ⟨a,t,v,k,h,D,e,r1,r2⟩:=T; ⟨a,t,v,k,h,D.keep fun o _ e=>h1 o e,h2 _ e,r1,r2⟩
noncomputable def fdNext (p:Params):{fd:FuncData // fdIn (Mine.hd.heap_1 p) 474 = some fd}:=⟨_,rfl⟩
theorem cNext (O:P.Ok) {tp cl:Addr} {b k:Nat} {t:Tok} {Q:Value→Store→Prop} (hR:Rm A 6) (T:Tape P σ tp cl b) (hb:b≤100000) (hk:1≤k)
  (h:∀ v t σ',v < k→LeB tp σ σ'→Tape P σ' tp cl (b + 1)→Q (.int (v:Nat) t) σ'):COp P A (.call (.ref 474) ⟨[.ref tp,.int (k:Nat) t],[]⟩) σ Q:=by
 refine oCall O (fdNext _).2 hR rfl rfl rfl rfl rfl rfl (fun L=>?_) rfl rfl rfl
 intro env A' W m0 Q'
 obtain hR':Rm A' 5:=hR.deeper
 obtain hh:=hR'.handled
 refine lG ?_; intro G
 obtain ⟨a,ta,cvs,ck,hab,D,ecl,hI,hcl⟩:=T
 obtain hne:cl≠tp:=fun q=>by subst q; obtain ⟨o,e,_,_,x,_⟩:=D; exact lst_dict ecl e x.1
 refine lq ?_; intro K
 refine xCons (lq ?_); intro K
 refine xAssignSwap (names:=["at","cells"]) hh (xTuple ?_)
 refine lqE ?_; intro K
 refine (xSubscript (T:="dict") slot_dict_getitem.lookup (xName (xLoad rfl rfl (xStr fun t1=>⟨D.ty,xOp (oSGet D (by rfl) ?_)⟩))))
 refine (xSubscript (T:="dict") slot_dict_getitem.lookup (xName (xLoad rfl rfl (xStr fun t2=>⟨D.ty,xOp (oSGet D (by rfl) ?_)⟩))))
 refine fun tt htt=>?_
 refine ⟨tt,_,0,rfl,.inr (Store.set_same ..),rfl,?_⟩
 refine xForget (Le.new htt) ?_
 refine xStore rfl rfl (List.mem_cons_self ..) ?_
 refine xStore rfl rfl (List.mem_cons_self ..) ?_
 refine xCons (lq ?_); intro K
 refine xAssignSub (xBinOp (xName (xLoad rfl rfl (xInt fun t3=>xOp (oAdd fun t4=>?_)))))
 refine xName (xLoad rfl rfl (xStr fun t5=>?_))
 refine xOp (oSSet D (by simp) fun o6 D6=>?_)
 have D6':DS P (σ.set tp o6) tp [("at",.int ((a + 1:Nat):Int) t4),("cells",.ref cl)]:=D6
 have ecl6:(σ.set tp o6) cl = some (lst cvs ck):=(Store.set_ne hne).trans ecl
 have L6:LeB tp σ (σ.set tp o6):=LeB.set
 generalize (σ.set tp o6) = σ₆ at *
 have T6:Tape P σ₆ tp cl (b + 1):=⟨a + 1,t4,cvs,ck,(z127 hab),D6',ecl6,hI,hcl⟩
 have fin:∀ (i:Int) (t:Tok) (t':Tok),Q (.int ((i.fmod 997).fmod (k:Nat)) t') σ₆:=fun i t t'=>by
  have h1:0≤(i.fmod 997).fmod (k:Nat):=Int.fmod_nonneg_of_pos _ (z282 hk)
  have h2:(i.fmod 997).fmod (k:Nat) < (k:Nat):=Int.fmod_lt_of_pos _ (z282 hk)
  obtain ⟨v,hv⟩:=Int.eq_ofNat_of_zero_le h1
  rw [hv] at h2 ⊢
  exact h v t' σ₆ (z10 h2) L6 T6
 have modk:((k:Nat):Int)≠0:=(z283 hk)
 refine xLast (lq ?_); intro K
 refine xReturn (xBinOp (xBinOp (xIfExp (xTrueCompare (xName (xLoad rfl rfl ?_))))))
 refine lq ?_; intro K
 refine xCallB O boot_len rfl rfl (xName (xLoad rfl rfl (evNil ?_)))
 refine lq ?_; intro K
 refine xOp (oLen ecl6 (z284 hcl) fun t7=>?_)
 refine lq ?_; intro K
 refine xOp (oLt (xTruthyBool ⟨fun hlt=>?_,fun hge=>?_⟩))
 ·have ha:a < cvs.length:=by simpa using hlt
  obtain ⟨i,ti,hi⟩:=hI.get (List.getElem?_eq_getElem ha)
  refine lq ?_; intro K
  refine xItem (xName (xLoad rfl rfl (xName (xLoad rfl rfl ⟨cl,cvs,ck,a,ta,.int i ti,rfl,rfl,.inl ecl6,(z285 hb hab),?_,?_⟩))))
  ·rw [List.getElem?_eq_getElem ha,hi]
  ·refine lq ?_; intro K
   refine xInt fun t8=>xOp (oMod (by decide) fun t9=>?_)
   refine lq ?_; intro K
   refine xName (xLoad rfl rfl (xOp (oMod (by simp; exact z286 hk) fun t10=>fin i ti t10)))
 ·refine lq ?_; intro K
  refine xBinOp (xBinOp (xBinOp (xBinOp (xBinOp (xInt fun t8=>xName (xLoad rfl rfl (xOp (oMul (by decide) fun t9=>?_))))))))
  refine lq ?_; intro K
  refine xName (xLoad rfl rfl (xOp (oMul (by omega) fun t10=>?_)))
  refine lq ?_; intro K
  refine xBinOp (xInt fun t11=>xName (xLoad rfl rfl (xOp (oMul (by decide) fun t12=>xOp (oAdd fun t13=>?_)))))
  refine lq ?_; intro K
  refine xInt fun t14=>xOp (oAdd fun t15=>?_)
  refine lq ?_; intro K
  refine xBinOp (xInt fun t16=>?_)
  refine lq ?_; intro K
  refine xCallB O boot_len rfl rfl (xName (xLoad rfl rfl (evNil ?_)))
  refine lq ?_; intro K
  refine xOp (oLen ecl6 (z284 hcl) fun t17=>xOp (oMul (by decide) fun t18=>xOp (oAdd fun t19=>?_)))
  refine lq ?_; intro K
  refine xInt fun t20=>xOp (oMod (by decide) fun t21=>?_)
  refine lq ?_; intro K
  exact xName (xLoad rfl rfl (xOp (oMod (by simp; exact z286 hk) fun t22=>fin _ t22 t22)))
end
end Mine
end
section
set_option maxRecDepth 10000
namespace Mine
section
variable {P:Par} {A:Around} {env:Env} {W:List Addr} {α β:Type} {σ σ':Store} {m:Vars} {X:HA} {ρ:Addr→Nat}
theorem oMin2 {a b:Int} {t u:Tok} {Q:Value→Store→Prop} (hh:A.handled = none) (h:∀ t,Q (.int (if b < a then b else a) t) σ):Op P A (call (.builtin "min") [.int a t,.int b u]) σ Q:=fun s G=>by
 refine min_two_ints hh fun h' tk hk=>⟨σ,?_,Tr.kept G hk⟩
 by_cases q:b < a
 ·rw [if_pos q]; have:=h u; rwa [if_pos q] at this
 ·rw [if_neg q]; have:=h t; rwa [if_neg q] at this
theorem Tape.tup {tp cl:Addr} {b:Nat} (T:Tape P σ tp cl b) (L:LeB tp σ σ'):∀ a o,o.cls = .type "tuple"→σ a = some o→σ' a = some o:=fun a o ht e=>by
 refine lG ?_; intro G
 obtain ⟨_,_,_,_,_,⟨o',e',_,_,x,_⟩,_⟩:=T
 exact L a o (fun q=>by subst q; rw [e] at e'; cases e'; exact dn_tup x.1 ht) e
noncomputable def fdLTree (p:Params):{fd:FuncData // fdIn (Mine.hd.heap_1 p) 486 = some fd}:=⟨_,rfl⟩
set_option maxHeartbeats 4000000 in
theorem cLTree (O:P.Ok) {tp cl:Addr}:∀ (hN:Nat) {A:Around} {σ:Store} {b c:Nat} {t:Tok} {Q:Value→Store→Prop},Rm A (hN * 2 + 10)→Tape P σ tp cl b→b + 2 ^ (hN + 1)≤c + 1→c≤100000 →
  (∀ T v σ',T.dep≤hN + 1→LeB tp σ σ'→Tape P σ' tp cl c→TreeAt σ' T v→Q v σ')→COp P A (.call (.ref 486) ⟨[.ref tp,.int (hN:Nat) t],[]⟩) σ Q:=by
 intro hN
 induction hN using Nat.strongRecOn with
 | ind hN ih =>
 intro A σ b c t Q hR T hbc hc h
 refine oCall O (fdLTree _).2 hR rfl rfl rfl rfl rfl rfl (fun L=>?_) rfl rfl rfl
 intro env A' W m0 Q'
 obtain hR':Rm A' (hN * 2 + 9):=hR.deeper
 obtain hh:=hR'.handled
 have hpow:1≤2 ^ (hN + 1):=Nat.one_le_two_pow
 refine xCons (lq ?_); intro K
 refine xAssignName ?_
 refine lq ?_; intro K
 refine xCallName (xName (xLoadGlobal O rfl rfl ⟨kept_fn O (fdNext _).2,?_⟩))
 refine lqE ?_; intro K
 refine (xName (xLoad rfl rfl ?_))
 refine lqE ?_; intro K
 refine xIfExp (lq ?_); intro K
 refine xTrueCompare (xName (xLoad rfl rfl (xInt fun t1=>xOp (oGt (xTruthyBool ⟨fun hpos=>?_,fun hz=>?_⟩)))))
 ·have hpos:0 < hN:=by simpa using hpos
  refine xInt fun t2=>evNil ?_
  refine xOp (oOf (cNext O (k:=4) (hR'.mono z287) T (z288 hbc hc hpow) (by decide) fun w tw σ₁ hw L1 T1=>?_))
  refine xStore rfl rfl (List.mem_cons_self ..) ?_
  by_cases hw2:w < 2
  ·clear hw
   refine xCons (lq ?_); intro K
   refine xIf (xTrueCompare (xName (xLoad rfl rfl (xInt fun t3=>xOp (oLt (xTruthyBool ⟨fun _=>?_,fun hf=>by simp at hf; omega⟩))))))
   refine xLast (lq ?_); intro K
   refine xReturn (xItem (xList ?_))
   refine (xTuple (evCons (xStr fun ta=>evNil fun a1 ha1=>?_)))
   refine (xTuple (evCons (xStr fun tb=>evNil fun a2 ha2=>evNil fun l1 hl1=>?_)))
   have le1:Le σ₁ (((σ₁.set a1 (tup [.str "a" ta] 0)).set a2 (tup [.str "b" tb] 0)).set l1 (lst [.ref a1,.ref a2] 0)):=((Le.new ha1).trans (Le.new ha2)).trans (Le.new hl1)
   have x1:(((σ₁.set a1 (tup [.str "a" ta] 0)).set a2 (tup [.str "b" tb] 0)).set l1 (lst [.ref a1,.ref a2] 0)) a1 = some (tup [.str "a" ta] 0):=Store.set_new hl1 (Store.set_new ha2 (Store.set_same ..))
   have x2:(((σ₁.set a1 (tup [.str "a" ta] 0)).set a2 (tup [.str "b" tb] 0)).set l1 (lst [.ref a1,.ref a2] 0)) a2 = some (tup [.str "b" tb] 0):=Store.set_new hl1 (Store.set_same ..)
   have x3:(((σ₁.set a1 (tup [.str "a" ta] 0)).set a2 (tup [.str "b" tb] 0)).set l1 (lst [.ref a1,.ref a2] 0)) l1 = some (lst [.ref a1,.ref a2] 0):=Store.set_same ..
   generalize (((σ₁.set a1 (tup [.str "a" ta] 0)).set a2 (tup [.str "b" tb] 0)).set l1 (lst [.ref a1,.ref a2] 0)) = σ₂ at *
   revert σ₂; refine keep ?_; intro σ₂; set_option tactic.hygienic false in intros
   have T2:Tape P σ₂ tp cl c:=(T1.keep (fun o e=>le1 _ _ e) (fun o e=>le1 _ _ e)).mono (by omega)
   have L2:LeB tp σ σ₂:=L1.trans (LeB.le le1)
   refine xName (xLoad rfl rfl ?_)
   rcases (show w = 0∨w = 1 by exact z289 hw2) with rfl | rfl
   ·exact ⟨l1,_,0,0,tw,.ref a1,rfl,rfl,.inl x3,z101,rfl,h (.lf "a") _ _ (by simp [Tree.dep]) L2 T2 ⟨a1,0,ta,rfl,x1⟩⟩
   ·exact ⟨l1,_,0,1,tw,.ref a2,rfl,rfl,.inl x3,z290,rfl,h (.lf "b") _ _ (by simp [Tree.dep]) L2 T2 ⟨a2,0,tb,rfl,x2⟩⟩
  ·refine xCons (lq ?_); intro K
   refine xIf (xTrueCompare (xName (xLoad rfl rfl (xInt fun t3=>xOp (oLt (xTruthyBool ⟨fun hf=>by simp at hf; omega,fun _=>xNil ?_⟩))))))
   obtain ⟨g,rfl⟩:∃ g,hN = g + 1:=⟨hN - 1,(z291 hpos)⟩
   have p1:(2:Nat) ^ (g + 1 + 1) = 2 * 2 ^ (g + 1):=by rw [Nat.pow_succ]; exact z292
   have sub1:∀ t,Value.int (((g + 1:Nat):Int) - 1) t = .int (g:Nat) t:=fun t=>by rw [show (((g + 1:Nat):Int) - 1) = (g:Int) by exact z80]
   refine xLast (lq ?_); intro K
   refine xReturn (xIfExp (xTrueCompare (xName (xLoad rfl rfl (xInt fun t4=>xOp (oEq (xTruthyBool ⟨fun hb=>?_,fun hb=>?_⟩)))))))
   ·refine xTuple (xStr fun t5=>?_)
    refine (xCallName (xName (xLoadGlobal O rfl rfl ⟨kept_fn O (fdLTree _).2,?_⟩)))
    refine (xName (xLoad rfl rfl ?_))
    refine (xBinOp (xName (xLoad rfl rfl (xInt fun t6=>xOp (oSub fun t7=>evNil ?_)))))
    rw [sub1]
    refine lq ?_; intro K
    refine xOp (oOf (ih g z86 (hR'.mono z293) T1 (c:=c) (by omega) hc fun T v σ₂ hT L2 T2 N=>?_))
    refine fun a ha=>?_
    exact h (.un "f" T) _ _ (by simp only [Tree.dep]; exact z270 hT) ((L1.trans L2).trans (LeB.le (Le.new ha))) (T2.keep (fun o e=>Store.set_new ha e) (fun o e=>Store.set_new ha e)) ⟨a,0,t5,v,rfl,Store.set_same ..,N.mono fun b o _ e=>Store.set_new ha e⟩
   ·refine lq ?_; intro K
    refine xTuple (xStr fun t5=>?_)
    refine lqE ?_; intro K
    refine (xCallName (xName (xLoadGlobal O rfl rfl ⟨kept_fn O (fdLTree _).2,?_⟩)))
    refine lqE ?_; intro K
    refine (xName (xLoad rfl rfl ?_))
    refine lqE ?_; intro K
    refine (xBinOp (xName (xLoad rfl rfl (xInt fun t6=>xOp (oSub fun t7=>evNil ?_)))))
    rw [sub1]
    have hp1:1≤2 ^ (g + 1):=Nat.one_le_two_pow
    have hp2:2 ^ (min 1 g + 1)≤2 ^ (g + 1):=Nat.pow_le_pow_right (by decide) z294
    refine lq ?_; intro K
    refine xOp (oOf (ih g z86 (hR'.mono z293) T1 (c:=b + 2 ^ (g + 1)) z295 (by omega) fun U v σ₂ hU L2 T2 N=>?_))
    refine lqE ?_; intro K
    refine (xCallName (xName (xLoadGlobal O rfl rfl ⟨kept_fn O (fdLTree _).2,?_⟩)))
    refine lqE ?_; intro K
    refine (xName (xLoad rfl rfl ?_))
    refine lqE ?_; intro K
    refine (xCallB O boot_min rfl rfl ?_)
    refine lqE ?_; intro K
    refine (xInt fun t8=>?_)
    refine (xBinOp (xName (xLoad rfl rfl (xInt fun t9=>xOp (oSub fun t10=>evNil ?_)))))
    refine xOp (oMin2 hh fun t11=>evNil ?_)
    have hmin:(if (((g + 1:Nat):Int) - 1) < 1 then (((g + 1:Nat):Int) - 1) else 1) = ((min 1 g:Nat):Int):=by
     by_cases q:g < 1
     ·rw [if_pos (z296 q)]; exact z297 q
     ·rw [if_neg (z298 q)]; exact z299 q
    rw [hmin]
    refine xOp (oOf (ih (min 1 g) z300 (hR'.mono z301) T2 (c:=c) (by omega) hc fun V w2 σ₃ hV L3 T3 N2=>?_))
    refine fun a ha=>?_
    refine h (.bi "g" U V) _ _ (by simp only [Tree.dep]; exact z302 hU hV) (((L1.trans L2).trans L3).trans (LeB.le (Le.new ha))) (T3.keep (fun o e=>Store.set_new ha e) (fun o e=>Store.set_new ha e)) ⟨a,0,t5,v,w2,rfl,Store.set_same ..,?_,N2.mono fun b o _ e=>Store.set_new ha e⟩
    exact N.mono fun b o ht e=>Store.set_new ha (T2.tup L3 b o ht e)
 ·have hz:hN = 0:=by simp at hz; exact z303 hz
  refine xInt fun t2=>evNil ?_
  refine xOp (oOf (cNext O (k:=2) (hR'.mono z287) T (z288 hbc hc hpow) (by decide) fun w tw σ₁ hw L1 T1=>?_))
  refine xStore rfl rfl (List.mem_cons_self ..) ?_
  have hw2:w < 2:=(z304 hw)
  refine xCons (lq ?_); intro K
  refine xIf (xTrueCompare (xName (xLoad rfl rfl (xInt fun t3=>xOp (oLt (xTruthyBool ⟨fun _=>?_,fun hf=>by simp at hf; omega⟩))))))
  refine xLast (lq ?_); intro K
  refine xReturn (xItem (xList ?_))
  refine (xTuple (evCons (xStr fun ta=>evNil fun a1 ha1=>?_)))
  refine (xTuple (evCons (xStr fun tb=>evNil fun a2 ha2=>evNil fun l1 hl1=>?_)))
  have le1:Le σ₁ (((σ₁.set a1 (tup [.str "a" ta] 0)).set a2 (tup [.str "b" tb] 0)).set l1 (lst [.ref a1,.ref a2] 0)):=((Le.new ha1).trans (Le.new ha2)).trans (Le.new hl1)
  have x1:(((σ₁.set a1 (tup [.str "a" ta] 0)).set a2 (tup [.str "b" tb] 0)).set l1 (lst [.ref a1,.ref a2] 0)) a1 = some (tup [.str "a" ta] 0):=Store.set_new hl1 (Store.set_new ha2 (Store.set_same ..))
  have x2:(((σ₁.set a1 (tup [.str "a" ta] 0)).set a2 (tup [.str "b" tb] 0)).set l1 (lst [.ref a1,.ref a2] 0)) a2 = some (tup [.str "b" tb] 0):=Store.set_new hl1 (Store.set_same ..)
  have x3:(((σ₁.set a1 (tup [.str "a" ta] 0)).set a2 (tup [.str "b" tb] 0)).set l1 (lst [.ref a1,.ref a2] 0)) l1 = some (lst [.ref a1,.ref a2] 0):=Store.set_same ..
  generalize (((σ₁.set a1 (tup [.str "a" ta] 0)).set a2 (tup [.str "b" tb] 0)).set l1 (lst [.ref a1,.ref a2] 0)) = σ₂ at *
  revert σ₂; refine keep ?_; intro σ₂; set_option tactic.hygienic false in intros
  have T2:Tape P σ₂ tp cl c:=(T1.keep (fun o e=>le1 _ _ e) (fun o e=>le1 _ _ e)).mono (by omega)
  have L2:LeB tp σ σ₂:=L1.trans (LeB.le le1)
  refine xName (xLoad rfl rfl ?_)
  rcases (show w = 0∨w = 1 by exact z289 hw) with rfl | rfl
  ·exact ⟨l1,_,0,0,tw,.ref a1,rfl,rfl,.inl x3,z101,rfl,h (.lf "a") _ _ (by simp [Tree.dep]) L2 T2 ⟨a1,0,ta,rfl,x1⟩⟩
  ·exact ⟨l1,_,0,1,tw,.ref a2,rfl,rfl,.inl x3,z290,rfl,h (.lf "b") _ _ (by simp [Tree.dep]) L2 T2 ⟨a2,0,tb,rfl,x2⟩⟩
end
end Mine
end
section
set_option maxRecDepth 10000
namespace Mine
section
variable {P:Par} {A:Around} {env:Env} {W:List Addr} {α β:Type} {σ σ':Store} {m:Vars} {X:HA} {ρ:Addr→Nat} {ξ:Type}
theorem Tr.grown2 {s:Shared} {h':Heap} {a b:Addr} {o p:Obj} (G:Good P σ s) (k:∀ c o',s.heap.get? c = some o'→h'.get? c = some o') (ha:s.heap.get? a = none) (hb:s.heap.get? b = none) (ea:h'.get? a = some o) (eb:h'.get? b = some p) (t:Nat) (la:a≠sysModules) (lb:b≠sysModules):Tr P [] σ s ((σ.set a o).set b p) { s with heap:=h',toks:=t }:=by
 have get:∀ c o₁,((σ.set a o).set b p) c = some o₁→(c = b∧o₁ = p)∨(c = a∧o₁ = o)∨σ c = some o₁:=fun c o₁ e=>by
  unfold Store.set at e
  split at e
  ·rename_i q; cases e; exact .inl ⟨q,rfl⟩
  ·split at e
   ·rename_i q; cases e; exact .inr (.inl ⟨q,rfl⟩)
   ·exact .inr (.inr e)
 refine ⟨⟨fun c o₁ e=>?_,fun c o₁ e=>k _ _ (G.base c o₁ e),fun c o₁ e=>?_,G.gens,G.os,fun c o₁ e=>?_⟩,fun c o₁ _ _ e=>k _ _ e,fun c h h₁=>?_,fun c h=>?_⟩
 ·rcases get c o₁ e with ⟨rfl,rfl⟩ | ⟨rfl,rfl⟩ | h
  ·exact eb
  ·exact ea
  ·exact k _ _ (G.has c o₁ h)
 ·rcases get c o₁ e with ⟨rfl,rfl⟩ | ⟨rfl,rfl⟩ | h
  ·exact gnone G hb
  ·exact gnone G ha
  ·exact G.own c o₁ h
 ·rcases get c o₁ e with ⟨rfl,rfl⟩ | ⟨rfl,rfl⟩ | h
  ·exact lb
  ·exact la
  ·exact G.low c o₁ h
 ·refine lG ?_; intro G
  obtain ⟨o₁,e⟩:=Option.ne_none_iff_exists'.mp h
  rcases get c o₁ e with ⟨rfl,rfl⟩ | ⟨rfl,rfl⟩ | h
  ·exact hb
  ·exact ha
  ·rw [h₁] at h; exact nn h
 ·cases q:s.heap.get? c with
  | none=>rfl
  | some o'=>exact absurd h (ne_none (k _ _ q))
theorem oEnumerate {l:Addr} {vs:List Value} {n:Nat} {Q:Value→Store→Prop} (el:σ l = some (lst vs n))
  (h:∀ e it oe oi,σ e = none→σ it = none→e≠it→(∀ h:Heap,h.get? e = some oe→∃ old,IsEnum h e it ((0:Nat):Int) old)→(∀ h:Heap,h.get? it = some oi→h.IsListIter it l 0)→Q (.ref e) ((σ.set it oi).set e oe)):Op P A (call (.type "enumerate") [.ref l]) σ Q:=fun s G=>by
 refine call_enumerate_list (isList_of (G.has _ _ el)) fun h' hE hI hsz hk=>?_
 obtain ⟨oi,eoi,hc,hd⟩:=hI
 have n1:s.heap.get? s.heap.objs.size = none:=none_of (Nat.le_refl _)
 have n2:s.heap.get? (s.heap.objs.size + 1) = none:=none_of (Nat.le_succ _)
 have hb:s.heap.objs.size + 1≠sysModules:=by
  obtain ⟨a,o,e,hl⟩:=P.wit
  have:=Heap.lt_size (G.base a o e)
  exact Nat.ne_of_gt (Nat.lt_succ_of_lt (Nat.lt_trans hl this))
 exact ⟨_,h _ _ _ oi (σnone G n2) (σnone G n1) (Nat.succ_ne_self _) (fun h e=>⟨_,e⟩) (fun h e=>⟨oi,e,hc,hd⟩),Tr.grown2 G hk n1 n2 eoi hE s.toks (big_of G.base) hb⟩
theorem xForEnum {x y:Str} {px py np cp:Pos} {tk:Nat} {tp:Pos} {arg:PySem.Expr} {body:List Stmt} {pos:Pos} {Q:Flow→Store→Vars→Prop} (O:P.Ok) (hh:A.handled = none) (hx:env.kindOf "enumerate" = some .globalImplicit) (e1:nsIn P.K mainGlobals "enumerate" = some none)
  (h:WP P A env W (eval arg env) σ m (fun v σ₁ m=>σ₁ = σ∧(X6 fun (l:Addr) (vs:List Value) (k:Nat) (xs:List ξ) (E:ξ→Value→Prop) (J:Nat→Store→Vars→Prop)=>N6 (v = .ref l) (All2 E xs vs) ((∀ i σ m,J i σ m→σ l = some (lst vs k))) (J 0 σ m) ((∀ i z w t σ m,xs[i]? = some z→E z w→J i σ m→WP P A env W (storeName env x (.int (i:Nat) t)) σ m (fun _ σ m=>WP P A env W (storeName env y w) σ m (fun _ σ m=>WP P A env W (execs body env) σ m (Turn (J (i + 1)) Q))))) (∀ σ m,J xs.length σ m→Q .next σ m))))
  (hp:plainE arg = true:=by rfl) (hk:env.scope.kind = .function:=by rfl) (hg:env.globals = mainGlobals:=by rfl) (hbn:env.builtins = builtinsNs:=by rfl)
  (hs:∀ x,foldedSetIterable (.Call (.Name "enumerate" np) [arg] [] cp) env x = pure x:=by intro _; rfl) :
  WP P A env W (exec (.For (.Tuple [.Name x px,.Name y py] tk tp) (.Call (.Name "enumerate" np) [arg] [] cp) body [] pos) env) σ m Q:=by
 refine lq ?_; intro K
 refine xForG ?_ hs
 refine lq ?_; intro K
 refine xCallT O boot_enumerate hx e1 ?_ (hk:=hk) (hg:=hg) (hbn:=hbn) (hp:=by rw [List.all_cons,hp]; rfl)
 refine h.mono fun v σ' m q=>?_
 refine lG ?_; intro G
 obtain ⟨rfl,l,vs,k,xs,E,J,rfl,h2,hfix,h0,turn,fin⟩:=q
 obtain el:=hfix 0 _ _ h0
 refine lqE ?_; intro K
 refine (xOp (oEnumerate el fun e it oe oi he hit hne hE hI=>?_))
 refine ⟨vs.length,_,[(l,lst vs k)],[(e,oe),(it,oi)],σ',J,sr_enum hh hne (fun q=>by subst q; rw [he] at el; exact nn el) (fun q=>by subst q; rw [hit] at el; exact nn el) hE hI,?_,?_,?_,h0,?_,?_⟩
 ·exact fun a o ea=>Store.set_new (by rw [Store.set_ne hne]; exact he) (Store.set_new hit ea)
 ·intro p hp
  rcases List.mem_cons.mp hp with rfl | hp
  ·exact ⟨Store.set_same ..,he,he⟩
  ·rw [List.mem_singleton] at hp; subst hp
   exact ⟨(Store.set_ne hne.symm).trans (Store.set_same ..),hit,hit⟩
 ·intro i σ m hJ p hp
  rw [List.mem_singleton] at hp; subst hp; exact hfix i σ m hJ
 ·rintro i v σ m s hi hJ ⟨T,t,w,rfl,hw,hT⟩ G F
  obtain ⟨z,hz,hE'⟩:=h2.get' hw
  exact asgPair hh hT G F (turn i z w t σ m hz hE' hJ)
 ·intro σ m hJ
  rw [← h2.length] at hJ
  exact fin σ m hJ
end
end Mine
end
section
set_option maxRecDepth 10000
namespace Mine
def eqAtI (is js:List Int) (j:Nat):Bool:=is[j]? == js[j]?
theorem all_eqAtI {is js:List Int} (h:is.length = js.length):((List.range is.length).all (eqAtI is js)) = decide (is = js):=by
 rw [Bool.eq_iff_iff,List.all_eq_true,decide_eq_true_eq]
 constructor
 ·intro hall
  apply List.ext_getElem?
  intro i
  by_cases hi:i < is.length
  ·have:=hall i (List.mem_range.mpr hi)
   unfold eqAtI at this
   simpa using this
  ·rw [List.getElem?_eq_none (z82 hi),List.getElem?_eq_none (z251 h hi)]
 ·rintro rfl i _
  unfold eqAtI; simp
theorem intsAre_get {vs:List Value} {is:List Int} (h:IntsAre vs is) {j:Nat} (hj:j < vs.length):(X2 fun i t=>is[j]? = some i∧vs[j] = .int i t):=by
 induction h generalizing j with
 | nil=>simp at hj
 | cons i t _ ih =>
  cases j with
  | zero=>exact ⟨_,_,rfl,rfl⟩
  | succ j=>simpa using ih (by simpa using hj)
def rowAt (nodes:List Node) (i:Nat):Node:=(nodes[i]?).getD ("",[])
def hk (hs:List Nat) (i:Nat):Nat:=(hs[i]?).getD 0
def fits (nodes:List Node) (hs:List Nat) (op:Str) (cs:List Nat) (i:Nat):Bool:=(rowAt nodes i).1 == op && decide ((rowAt nodes i).2.map (hk hs) = cs)
def lookL (nodes:List Node) (hs:List Nat) (op:Str) (cs:List Nat):Option Nat:=((List.range nodes.length).find? (fits nodes hs op cs)).map (hk hs)
noncomputable def homeT (nodes:List Node) (hs:List Nat):Tree→Option Nat
 | .lf o=>lookL nodes hs o []
 | .un o t=>(allSome [homeT nodes hs t]).bind (lookL nodes hs o)
 | .bi o t u=>(allSome [homeT nodes hs t,homeT nodes hs u]).bind (lookL nodes hs o)
theorem homeT_eq (nodes:List Node) (hs:List Nat) (T:Tree):homeT nodes hs T = (allSome (T.kids.map (homeT nodes hs))).bind (lookL nodes hs T.op):=by cases T <;> rfl
def RowsAt (σ:Store) (rl:Addr) (nodes:List Node):Prop:=(X2 fun vs k=>σ rl = some (lst vs k)∧All2 (fun nd v=>NodeAt σ v nd) nodes vs)
def HomesAt (σ:Store) (hl:Addr) (hs:List Nat):Prop:=(X2 fun vs k=>σ hl = some (lst vs k)∧Ns vs hs)
theorem RowsAt.le {σ σ':Store} {rl:Addr} {nodes:List Node} (h:RowsAt σ rl nodes) (l:Le σ σ'):RowsAt σ' rl nodes:=let ⟨vs,k,e,h2⟩:=h; ⟨vs,k,l _ _ e,h2.mono fun _ _ x=>x.mono fun a o _ e=>l a o e⟩
theorem HomesAt.le {σ σ':Store} {hl:Addr} {hs:List Nat} (h:HomesAt σ hl hs) (l:Le σ σ'):HomesAt σ' hl hs:=let ⟨vs,k,e,h2⟩:=h; ⟨vs,k,l _ _ e,h2⟩
section
variable {P:Par} {A:Around} {env:Env} {W:List Addr} {α β:Type} {σ σ':Store} {m:Vars} {X:HA} {ρ:Addr→Nat} {ξ:Type}
theorem oEqI {l b:Addr} {vs ws:List Value} {is js:List Int} {n k:Nat} {Q:Value→Store→Prop} (hR:Rm A 2) (e:σ l = some (lst vs n)) (e2:σ b = some (lst ws k)) (hN:IntsAre vs is) (hM:IntsAre ws js) (h:Q (.bool (decide (is = js))) σ):Op P A (compareOp .Eq (.ref l) (.ref b)) σ Q:=fun s G=>by
 by_cases hl:is.length = js.length
 ·refine PySem.P.eq_list (e:=eqAtI is js) (G.has _ _ e) (G.has _ _ e2) (by rw [List.size_toArray,List.size_toArray,hN.length,hM.length,hl]) (fun j h1 h2=>?_) hR.line ⟨σ,?_,Tr.refl G⟩
  ·obtain ⟨a,t,ea,q1⟩:=intsAre_get hN (show j < vs.length by simpa using h1)
   obtain ⟨b,u,eb,q2⟩:=intsAre_get hM (show j < ws.length by simpa using h2)
   obtain x1:vs.toArray[j] = .int a t:=by simpa using q1
   obtain x2:ws.toArray[j] = .int b u:=by simpa using q2
   obtain x3:eqAtI is js j = (a == b):=by unfold eqAtI; rw [ea,eb,Bool.eq_iff_iff]; simp
   rw [x1,x2,x3]
   exact MeetsSeq.EqGives.int _ _ _ _
  ·rw [List.size_toArray,hN.length,all_eqAtI hl]; exact h
 ·refine PySem.P.eq_list_lengths (G.has _ _ e) (G.has _ _ e2) (by rw [List.size_toArray,List.size_toArray,hN.length,hM.length]; simpa using hl) hR.line ⟨σ,?_,Tr.refl G⟩
  obtain hd:decide (is = js) = false:=decide_eq_false fun q=>hl (by rw [q])
  rwa [hd] at h
noncomputable def fdLHome (p:Params):{fd:FuncData // fdIn (Mine.hd.heap_1 p) 491 = some fd}:=⟨_,rfl⟩
set_option maxHeartbeats 4000000 in
theorem cLHome (O:P.Ok) {rl hl:Addr} {nodes:List Node} {hs:List Nat} (hlen:hs.length = nodes.length) (h50:nodes.length≤50) (wf:∀ (i:Nat) (nd:Node),nodes[i]? = some nd→∀ k ∈ nd.2,k < i) (ar:∀ nd ∈ nodes,nd.2.length≤10) :
  ∀ (T:Tree) {A:Around} {σ:Store} {v:Value} {Q:Value→Store→Prop},Rm A (T.dep + 10)→RowsAt σ rl nodes→HomesAt σ hl hs→TreeAt σ T v→(∀ t,Q (.int (oi (homeT nodes hs T)) t) σ)→COp P A (.call (.ref 491) ⟨[.ref rl,.ref hl,v],[]⟩) σ Q:=by
 suffices ∀ (n:Nat) (T:Tree),T.dep≤n→∀ {A:Around} {σ:Store} {v:Value} {Q:Value→Store→Prop},Rm A (T.dep + 10)→RowsAt σ rl nodes→HomesAt σ hl hs→TreeAt σ T v→(∀ t,Q (.int (oi (homeT nodes hs T)) t) σ)→COp P A (.call (.ref 491) ⟨[.ref rl,.ref hl,v],[]⟩) σ Q from
  fun T _ _ _ _=>this T.dep T (Nat.le_refl _)
 intro n
 induction n with
 | zero=>intro T hT; cases T <;> simp [Tree.dep] at hT
 | succ n ih =>
 intro T hT A σ v Q hR RA HS N h
 have kd:∀ U ∈ T.kids,U.dep + 1≤T.dep:=fun U hU=>by
  cases T with
  | lf o=>cases hU
  | un o x=>rw [Tree.kids,List.mem_singleton] at hU; subst hU; exact Nat.le_refl _
  | bi o x y =>
   simp only [Tree.kids,List.mem_cons,List.not_mem_nil,or_false] at hU
   rcases hU with rfl | rfl <;> (simp only [Tree.dep]; omega)
 have kl:T.kids.length≤2:=by cases T <;> simp [Tree.kids]
 refine lG ?_; intro G
 obtain ⟨a,k,t,vs,rfl,ea,h2⟩:=N.open
 refine oCall O (fdLHome _).2 hR rfl rfl rfl rfl rfl rfl (fun L=>?_) rfl rfl rfl
 intro env A' W m0 Q'
 have hR':Rm A' (T.dep + 9):=hR.deeper
 have hh:=hR'.handled
 refine lq ?_; intro K
 refine xCons (lq ?_); intro K
 refine xAssignCompG ⟨rfl,rfl,rfl,rfl,rfl⟩ ?_
 refine lq ?_; intro K
 refine xSliceTail (xName (xLoad rfl rfl (xInt fun t2=>?_)))
 refine ⟨a,_,vs,k,t2,rfl,rfl,ea,by rw [← h2.length]; exact z263 kl,fun l σ₁ le1 hl' el=>?_⟩
 have le1:Le σ σ₁:=le1
 refine compGo_map T.kids _ _ (fun _=>true) (fun U w _=>∃ t,w = .int (oi (homeT nodes hs U)) t) (srx_tuple (k:=0) hh h2) (fun p hp=>by rw [List.mem_singleton] at hp; subst hp; exact el) (z263 kl) (fun _ _ _ _ h _=>h) (fun _=>rfl) rfl rfl ?_ ?_
 ·rintro C U w σ' m'' hU hNU hle hm' hmx
  refine ⟨⟨rfl,rfl,rfl⟩,fun _=>?_⟩
  refine lq ?_; intro K
  refine xCallName (xName (xLoadGlobal O rfl rfl ⟨kept_fn O (fdLHome _).2,?_⟩))
  refine lqE ?_; intro K
  refine (xName (xLoadCell rfl rfl (hm' _ (by decide)) ?_))
  refine lqE ?_; intro K
  refine (xName (xLoadCell rfl rfl (hm' _ (by decide)) ?_))
  refine (xName (xLoad rfl hmx (evNil ?_)))
  obtain hk:=kd U hU
  exact xOp (oOf (ih U (z264 hT hk) (hR'.mono (z305 hk)) (RA.le (le1.trans hle)) (HS.le (le1.trans hle)) (hNU.mono fun a o _ e=>hle _ _ (le1 _ _ e)) fun t=>⟨Le.refl _,rfl,t,rfl⟩))
 intro D ws k' σ₂ le2 hD eD h3
 rw [show (T.kids.filter fun _=>true) = T.kids from by simp] at h3
 refine xStore rfl rfl (List.mem_cons_self ..) ?_
 obtain leA:Le σ σ₂:=le1.trans le2
 obtain h3':IntsAre ws (T.kids.map fun U=>oi (homeT nodes hs U)):=all2_intsAre (All2.map_left.mpr h3)
 obtain ⟨rvs,rk,er,hr2⟩:=RA.le leA
 obtain ⟨hvs,hkk,eh,hhN⟩:=HS.le leA
 generalize hm₀:Vars.set _ "lot" (Value.ref D) = m₀
 obtain m1:m₀ "rows" = some (.ref rl):=by rw [← hm₀]; rfl
 obtain m2:m₀ "homes" = some (.ref hl):=by rw [← hm₀]; rfl
 obtain m3:m₀ "tree" = some (.ref a):=by rw [← hm₀]; rfl
 obtain m4:m₀ "lot" = some (.ref D):=by rw [← hm₀]; rfl
 have fit:∀ i,decide ((rowAt nodes i).2.map (fun x=>((hk hs x:Nat):Int)) = T.kids.map fun U=>oi (homeT nodes hs U)) = true ↔ ∃ cs,allSome (T.kids.map (homeT nodes hs)) = some cs∧(rowAt nodes i).2.map (hk hs) = cs:=fun i=>by
  rw [decide_eq_true_eq]
  constructor
  ·intro e
   cases q:allSome (T.kids.map (homeT nodes hs)) with
   | none =>
    exfalso
    obtain ⟨U,hU,e'⟩:=List.mem_map.mp (allSome_none q)
    have:oi (homeT nodes hs U) ∈ (rowAt nodes i).2.map (fun x=>((hk hs x:Nat):Int)):=by rw [e]; exact List.mem_map.mpr ⟨U,hU,rfl⟩
    rw [e'] at this
    obtain ⟨x,_,hx⟩:=List.mem_map.mp this
    simp only [oi] at hx
    exact z306 hx
   | some cs =>
    refine ⟨cs,rfl,?_⟩
    have hq:=allSome_some q
    have e2:(T.kids.map fun U=>oi (homeT nodes hs U)) = cs.map fun c:Nat=>(c:Int):=by
     have:(T.kids.map fun U=>oi (homeT nodes hs U)) = (T.kids.map (homeT nodes hs)).map oi:=by rw [List.map_map]; rfl
     rw [this,hq,List.map_map]; rfl
    rw [e2] at e
    obtain e3:((rowAt nodes i).2.map (hk hs)).map (fun c:Nat=>(c:Int)) = cs.map fun c:Nat=>(c:Int):=by rw [List.map_map]; exact e
    exact (List.map_inj_right (fun _ _ e=>Int.ofNat.inj e)).mp e3
  ·rintro ⟨cs,hcs,e⟩
   obtain hq:=allSome_some hcs
   obtain e2:(T.kids.map fun U=>oi (homeT nodes hs U)) = cs.map fun c:Nat=>(c:Int):=by
    have:(T.kids.map fun U=>oi (homeT nodes hs U)) = (T.kids.map (homeT nodes hs)).map oi:=by rw [List.map_map]; rfl
    rw [this,hq,List.map_map]; rfl
   rw [e2,← e,List.map_map]; rfl
 have key:homeT nodes hs T = ((List.range nodes.length).find? fun i=>(rowAt nodes i).1 == T.op && decide ((rowAt nodes i).2.map (fun x=>((hk hs x:Nat):Int)) = T.kids.map fun U=>oi (homeT nodes hs U))).map (hk hs):=by
  rw [homeT_eq]
  cases q:allSome (T.kids.map (homeT nodes hs)) with
  | none =>
   have:(List.range nodes.length).find? (fun i=>(rowAt nodes i).1 == T.op && decide ((rowAt nodes i).2.map (fun x=>((hk hs x:Nat):Int)) = T.kids.map fun U=>oi (homeT nodes hs U))) = none:=by
    rw [List.find?_eq_none]
    intro i _ hi
    rw [Bool.and_eq_true] at hi
    obtain ⟨cs,hcs,_⟩:=(fit i).mp hi.2
    rw [q] at hcs; exact nn hcs
   rw [this]; rfl
  | some cs =>
   show lookL nodes hs T.op cs = _
   unfold lookL
   congr 2
   funext i
   unfold fits
   congr 1
   rw [Bool.eq_iff_iff,decide_eq_true_eq,fit i,q]
   exact ⟨fun e=>⟨cs,rfl,e⟩,fun ⟨cs',e1,e2⟩=>by cases e1; exact e2⟩
 have hnl:nodes.length≤50:=h50
 refine xCons (lq ?_); intro K
 refine (xForEnum O hh rfl rfl (xName (xLoadCell rfl rfl m1 ⟨rfl,rl,rvs,rk,nodes,_,fun i σ' m'=>Le σ₂ σ'∧(∀ j,j < i→((rowAt nodes j).1 == T.op && decide ((rowAt nodes j).2.map (fun x=>((hk hs x:Nat):Int)) = T.kids.map fun U=>oi (homeT nodes hs U))) = false)∧∀ z:Str,z≠"n"→z≠"row"→m' z = m₀ z,
  rfl,hr2,?_,⟨Le.refl _,fun j hj=>(Nat.not_lt_zero _ hj).elim,fun _ _ _=>rfl⟩,?_,?_⟩)))
 ·rintro i σ' m' ⟨hle,_⟩
  exact hle _ _ er
 ·rintro i nd w tn σ' m' hi hNd ⟨hle,hno,hm⟩
  have hiN:i < nodes.length:=(List.getElem?_eq_some_iff.mp hi).1
  obtain hrow:rowAt nodes i = nd:=by unfold rowAt; rw [hi]; rfl
  refine xStore rfl rfl (List.mem_cons_self ..) ?_
  refine xStore rfl rfl (List.mem_cons_self ..) ?_
  obtain q1:((m'.set "n" (.int (i:Nat) tn)).set "row" w) "homes" = some (.ref hl):=(hm "homes" (by decide) (by decide)).trans m2
  obtain q2:((m'.set "n" (.int (i:Nat) tn)).set "row" w) "tree" = some (.ref a):=(hm "tree" (by decide) (by decide)).trans m3
  obtain q3:((m'.set "n" (.int (i:Nat) tn)).set "row" w) "lot" = some (.ref D):=(hm "lot" (by decide) (by decide)).trans m4
  obtain q4:((m'.set "n" (.int (i:Nat) tn)).set "row" w) "row" = some w:=rfl
  obtain q5:((m'.set "n" (.int (i:Nat) tn)).set "row" w) "n" = some (.int (i:Nat) tn):=rfl
  obtain q6:∀ z:Str,z≠"n"→z≠"row"→((m'.set "n" (.int (i:Nat) tn)).set "row" w) z = m₀ z:=fun z h1 h2=>by
   show (if z = "row" then _ else if z = "n" then _ else m' z) = _
   rw [if_neg h2,if_neg h1]; exact hm z h1 h2
  generalize ((m'.set "n" (.int (i:Nat) tn)).set "row" w) = m₅ at *
  revert m₅; refine keep ?_; intro m₅; set_option tactic.hygienic false in intros
  obtain N':=hNd.mono (σ':=σ') fun a o _ e=>hle a o e
  refine lG ?_; intro G
  obtain ⟨ra,rkk,tr,kvs,rfl,era,hNk⟩:=N'
  obtain ea':σ' a = some (tup (.str T.op t :: vs) k):=hle _ _ (leA _ _ ea)
  obtain hkids:=wf i nd hi
  obtain har:=ar nd (List.mem_of_getElem? hi)
  refine xLast (lq ?_); intro K
  refine xIf (xTrueAnd2 (xTrueCompare ?_))
  refine xItem (xName (xLoad rfl q4 (xInt fun t4=>⟨ra,_,rkk,0,t4,_,rfl,rfl,.inr era,z101,rfl,?_⟩)))
  refine xItem (xName (xLoad rfl q2 (xInt fun t5=>⟨a,_,k,0,t5,_,rfl,rfl,.inr ea',z101,rfl,?_⟩)))
  refine xOp (oEqS (xTruthyBool ⟨fun hb=>?_,fun hb=>?_⟩))
  ·refine ⟨fun hf=>(by cases hf),fun _=>xNil ⟨hle,fun j hj=>?_,q6⟩⟩
   rcases Nat.lt_succ_iff_lt_or_eq.mp hj with hj | rfl
   ·exact hno j hj
   ·rw [hrow,hb]; rfl
  ·refine xTrueCompare (lq ?_); intro K
   refine xListCompG ⟨rfl,rfl,rfl,rfl,rfl⟩ ?_
   refine xSliceTail (xName (xLoad rfl q4 (xInt fun t6=>?_)))
   refine ⟨ra,_,kvs,rkk,t6,rfl,rfl,era,by rw [hNk.length]; exact z102 har,fun l6 σ₆ le6 hl6 el6=>?_⟩
   obtain le6:Le σ' σ₆:=le6
   refine compGo_map nd.2 _ _ (fun _=>true) (fun y v _=>∃ t,v = .int (hk hs y:Nat) t) (srx_tuple (k:=0) hh (Ns.all2.mp hNk)) (fun p hp=>by rw [List.mem_singleton] at hp; subst hp; exact el6) (z102 har) (fun _ _ _ _ h _=>h) (fun _=>rfl) rfl rfl ?_ ?_
   ·rintro C y v σ'' m'' hy ⟨u,rfl⟩ hle' hm' hmx
    refine ⟨⟨rfl,rfl,rfl⟩,fun _=>?_⟩
    obtain hyl:y < hs.length:=by have:=hkids y hy; exact z307 hlen hiN this
    refine lG ?_; intro G
    obtain ⟨tv,htv⟩:=hhN.get (List.getElem?_eq_getElem hyl)
    refine xItem (xName (xLoadCell rfl rfl ((hm' _ (by decide)).trans q1) (xName (xLoad rfl hmx ⟨hl,hvs,hkk,y,u,_,rfl,rfl,.inl (hle' _ _ (le6 _ _ (hle _ _ eh))),(z308 hlen h50 hyl),htv,Le.refl _,rfl,tv,?_⟩))))
    unfold hk; rw [List.getElem?_eq_getElem hyl]; rfl
   intro D7 ws7 k7 σ₇ le7 hD7 eD7 h7
   rw [show (nd.2.filter fun _=>true) = nd.2 from by simp] at h7
   obtain h7':IntsAre ws7 (nd.2.map fun x=>((hk hs x:Nat):Int)):=all2_intsAre (All2.map_left.mpr h7)
   obtain leB:Le σ₂ σ₇:=hle.trans (le6.trans le7)
   refine xName (xLoad rfl q3 ?_)
   refine xOp (oEqI (hR'.mono z309) eD7 (leB _ _ eD) h7' h3' (xTruthyBool ⟨fun hb2=>?_,fun hb2=>?_⟩))
   ·obtain hfound:homeT nodes hs T = some (hk hs i):=by
     rw [key]
     have:(List.range nodes.length).find? (fun i=>(rowAt nodes i).1 == T.op && decide ((rowAt nodes i).2.map (fun x=>((hk hs x:Nat):Int)) = T.kids.map fun U=>oi (homeT nodes hs U))) = some i:=by
      rw [List.find?_range_eq_some]
      refine ⟨?_,List.mem_range.mpr hiN,fun j hj=>?_⟩
      ·rw [hrow,hb,hb2]; rfl
      ·rw [hno j hj]; rfl
     rw [this]; rfl
    obtain hil:i < hs.length:=(z108 hlen hiN)
    refine lG ?_; intro G
    obtain ⟨tv,htv⟩:=hhN.get (List.getElem?_eq_getElem hil)
    refine xForget (leA.trans leB) ?_
    refine lG ?_; intro G
    obtain ⟨hvs',hkk',eh',hhN'⟩:=HS
    obtain ⟨tv',htv'⟩:=hhN'.get (List.getElem?_eq_getElem hil)
    refine xLast (lq ?_); intro K
    refine xReturn (xItem (xName (xLoadCell rfl rfl q1 (xName (xLoad rfl q5 ⟨hl,hvs',hkk',i,tn,_,rfl,rfl,.inl eh',(z310 h50 hiN),htv',?_⟩)))))
    obtain h':=h tv'
    rw [hfound] at h'
    obtain e9:hk hs i = hs[i]:=by unfold hk; rw [List.getElem?_eq_getElem hil]; rfl
    rw [e9] at h'
    exact h'
   ·refine xNil ⟨leB,fun j hj=>?_,q6⟩
    rcases Nat.lt_succ_iff_lt_or_eq.mp hj with hj | rfl
    ·exact hno j hj
    ·rw [hrow,hb2,Bool.and_false]
 ·rintro σ' m' ⟨hle,hno,hm⟩
  refine xForget (leA.trans hle) (xLast (lq ?_)); intro K
  refine xReturn (xNeg1 fun t9=>?_)
  obtain hnone:homeT nodes hs T = none:=by
   rw [key]
   have:(List.range nodes.length).find? (fun i=>(rowAt nodes i).1 == T.op && decide ((rowAt nodes i).2.map (fun x=>((hk hs x:Nat):Int)) = T.kids.map fun U=>oi (homeT nodes hs U))) = none:=by
    rw [List.find?_eq_none]
    intro i hi hf
    rw [hno i (List.mem_range.mp hi)] at hf; cases hf
   rw [this]; rfl
  obtain h':=h t9
  rw [hnone] at h'
  exact h'
end
end Mine
end
section
set_option maxRecDepth 10000
namespace Mine
section
variable {P:Par} {A:Around} {env:Env} {W:List Addr} {α β:Type} {σ σ':Store} {m:Vars} {X:HA} {ρ:Addr→Nat} {ξ:Type}
def PairAt (σ:Store) (v:Value) (p:Nat × Nat):Prop:=(X4 fun T t u k=>v = .ref T∧σ T = some (tup [.int (p.1:Nat) t,.int (p.2:Nat) u] k))
theorem PairAt.mono {v:Value} {p:Nat × Nat} (h:PairAt σ v p) (k:∀ a o,o.cls = .type "tuple"→σ a = some o→σ' a = some o):PairAt σ' v p:=let ⟨T,t,u,n,e,x⟩:=h; ⟨T,t,u,n,e,k _ _ rfl x⟩
def PairsAt (σ:Store) (pl:Addr) (prs:List (Nat × Nat)):Prop:=(X2 fun vs k=>σ pl = some (lst vs k)∧All2 (fun p v=>PairAt σ v p) prs vs)
theorem xForPairs {x y:Str} {px py:Pos} {tk:Nat} {tp:Pos} {iter:PySem.Expr} {body:List Stmt} {pos:Pos} {Q:Flow→Store→Vars→Prop} (hh:A.handled = none)
  (h:WP P A env W (eval iter env) σ m (fun v σ₁ m₁=>(X5 fun (l:Addr) (vs:List Value) (k:Nat) (prs:List (Nat × Nat)) (J:Nat→Store→Vars→Prop)=>N6 (v = .ref l) (All2 (fun p v=>PairAt σ₁ v p) prs vs) ((∀ i σ m,J i σ m→σ l = some (lst vs k)∧∀ a o,o.cls = .type "tuple"→σ₁ a = some o→σ a = some o)) (J 0 σ₁ m₁) ((∀ i p t u σ m,prs[i]? = some p→J i σ m→WP P A env W (storeName env x (.int (p.1:Nat) t)) σ m (fun _ σ m=>WP P A env W (storeName env y (.int (p.2:Nat) u)) σ m (fun _ σ m=>WP P A env W (execs body env) σ m (Turn (J (i + 1)) Q))))) (∀ σ m,J prs.length σ m→Q .next σ m))))
  (hs:∀ x,foldedSetIterable iter env x = pure x:=by intro _; rfl):WP P A env W (exec (.For (.Tuple [.Name x px,.Name y py] tk tp) iter body [] pos) env) σ m Q :=
 xForG (h.mono fun v σ₁ m₁ q=>by
  refine lG ?_; intro G
  obtain ⟨l,vs,k,prs,J,rfl,h2,hfix,h0,turn,fin⟩:=q
  refine ⟨prs.length,_,_,[],σ₁,J,srx_list (k:=k) hh h2 _,Le.refl _,fun p hp=>(by cases hp),?_,h0,?_,fin⟩
  ·rintro i σ m hJ p hp
   rw [List.mem_singleton] at hp; subst hp; exact (hfix i σ m hJ).1
  ·rintro i v σ m s hi hJ ⟨p,hp,T,t,u,kk,rfl,eT⟩ G F
   exact asgPair hh (isTuple_of (G.has _ _ ((hfix i σ m hJ).2 _ _ rfl eT))) G F (turn i p t u σ m hp hJ)) hs
theorem oRange {n:Nat} {t:Tok} {Q:Value→Store→Prop} (h:∀ a t u v,σ a = none→Q (.ref a) (σ.set a (rng 0 n 1 t u v))):Op P A (call (.type "range") [.int (n:Nat) t]) σ Q:=fun s G=>by
 refine callType_new F.called_range (by decide) (F.typeCall_range_1 _) (F.newCall_range_1 _) (fun obj=>F.initArgs_range_1 obj _) F.entry_range_new
  (AutoRange.range___new___type_int_0 (n:Int) t F.called_range.sub) ⟨⟨_,Heap.get?_push_size _ rfl,rfl⟩,?_⟩
 exact ⟨_,h _ _ _ _ (σnone G (none_of (Nat.le_refl _))),Tr.push G (rng 0 n 1 s.toks t (s.toks + 1)) rfl _⟩
theorem rng_small {n:Nat} (hn:n≤1000000):Builtin.Range.small 0 n 1 = true:=by
 have hsz:Builtin.Range.rangeSize 0 n 1 = (n:Int):=by rw [rangeSize_one]; split <;> omega
 unfold Builtin.Range.small
 rw [hsz]
 have f:∀ k:Int,0≤k→k≤1000001→Builtin.Range.rangeFitsLong k = true:=fun k h1 h2=>by
  unfold Builtin.Range.rangeFitsLong
  rw [Bool.and_eq_true,decide_eq_true_eq,decide_eq_true_eq]; omega
 rw [f 0 z311 z312,f n z7 (z313 hn),f 1 z314 z315,if_pos (by decide),f (n + (1 - 1)) z316 (z317 hn)]
 simp
theorem oListRange {r:Addr} {n:Nat} {t u v:Tok} {Q:Value→Store→Prop} (hh:A.handled = none) (hn:n≤1000000) (e:σ r = some (rng 0 n 1 t u v)) (h:∀ a ws k,σ a = none→Ns ws (List.range n)→Q (.ref a) (σ.set a (lst ws k))):Op P A (call (.type "list") [.ref r]) σ Q:=fun s G=>by
 have hsz:Builtin.Range.rangeSize 0 n 1 = (n:Int):=by rw [rangeSize_one]; split <;> omega
 refine call_list_range hh (G.has _ _ e) (rng_small hn) hsz (by omega) fun h' tk acc c' hk ea hacc=>?_
 have nn:=none_of (h:=s.heap) (Nat.le_refl _)
 obtain ⟨h1,h2⟩:=hacc
 have hNs:Ns acc.toList (List.range n):=by
  apply List.ext_getElem?
  intro i
  rw [List.getElem?_map,List.getElem?_map]
  by_cases hi:i < n
  ·have hi':i < acc.toList.length:=by rw [Array.length_toList,h1]; exact hi
   rw [List.getElem?_range hi,List.getElem?_eq_getElem hi']
   obtain ⟨t,et⟩:=h2 i acc.toList[i] (by rw [← Array.getElem?_toList]; exact List.getElem?_eq_getElem hi')
   rw [et]
   rw [show ((0:Int) + (i:Int) * 1) = (i:Int) by exact z318]
   rfl
  ·rw [List.getElem?_eq_none (by rw [Array.length_toList,h1]; exact z82 hi),List.getElem?_eq_none (by simp; exact z82 hi)]; rfl
 exact ⟨_,h _ acc.toList c' (σnone G nn) hNs,Tr.grown G hk nn (by
  have:lst acc.toList c' = seqObj "list" acc c':=by simp
  rw [this]; exact ea) _ (big_of G.base)⟩
end
end Mine
end
section
set_option maxRecDepth 10000
namespace Mine
inductive Cong (nodes:List Node) (prs:List (Nat × Nat)):Nat→Nat→Prop
 | refl (x:Nat):Cong nodes prs x x
 | symm {x y:Nat}:Cong nodes prs x y→Cong nodes prs y x
 | trans {x y z:Nat}:Cong nodes prs x y→Cong nodes prs y z→Cong nodes prs x z
 | pair {p:Nat × Nat}:p ∈ prs→Cong nodes prs p.1 p.2
 | like {m n:Nat}:m < nodes.length→n < nodes.length→(rowAt nodes m).1 = (rowAt nodes n).1→(rowAt nodes m).2.length = (rowAt nodes n).2.length →
   (∀ (i a b:Nat),(rowAt nodes m).2[i]? = some a→(rowAt nodes n).2[i]? = some b→Cong nodes prs a b)→Cong nodes prs m n
def mapH (hs:List Nat) (low high:Nat):List Nat:=hs.map fun h=>if h = high then low else h
theorem hk_mapH (hs:List Nat) {low high:Nat} (h:low < high):hk (mapH hs low high) = mrg (hk hs) low high:=by
 funext x
 show ((hs.map _)[x]?).getD 0 = if (hs[x]?).getD 0 = high then low else (hs[x]?).getD 0
 rw [List.getElem?_map]
 generalize hs[x]? = ox
 cases ox with
 | none=>show 0 = if 0 = high then low else 0; rw [if_neg (z319 h)]
 | some v=>rfl
structure HomesOk (nodes:List Node) (prs:List (Nat × Nat)) (hs:List Nat):Prop where
 len:hs.length = nodes.length
 wf:Wf nodes.length (hk hs)
 snd:∀ x,x < nodes.length→Cong nodes prs x (hk hs x)
theorem HomesOk.cong {nodes:List Node} {prs:List (Nat × Nat)} {hs:List Nat} (H:HomesOk nodes prs hs) {x y:Nat} (hx:x < nodes.length) (hy:y < nodes.length) (e:hk hs x = hk hs y):Cong nodes prs x y :=
 (H.snd x hx).trans (e ▸ (H.snd y hy).symm)
def LikeH (nodes:List Node) (hs:List Nat) (m n:Nat):Prop:=(rowAt nodes m).1 = (rowAt nodes n).1∧(rowAt nodes m).2.map (hk hs) = (rowAt nodes n).2.map (hk hs)
theorem HomesOk.likeH {nodes:List Node} {prs:List (Nat × Nat)} {hs:List Nat} (H:HomesOk nodes prs hs) (wfn:∀ (i:Nat) (nd:Node),nodes[i]? = some nd→∀ k ∈ nd.2,k < i) {m n:Nat} (hm:m < nodes.length) (hn:n < nodes.length) (h:LikeH nodes hs m n):Cong nodes prs m n:=by
 have hl:(rowAt nodes m).2.length = (rowAt nodes n).2.length:=by have:=congrArg List.length h.2; simpa using this
 have row:∀ x,x < nodes.length→nodes[x]? = some (rowAt nodes x):=fun x hx=>by unfold rowAt; rw [List.getElem?_eq_getElem hx]; rfl
 refine .like hm hn h.1 hl fun i a b ha hb=>H.cong ?_ ?_ ?_
 ·exact Nat.lt_trans (wfn m _ (row m hm) a (List.mem_of_getElem? ha)) hm
 ·exact Nat.lt_trans (wfn n _ (row n hn) b (List.mem_of_getElem? hb)) hn
 ·have:=congrArg (·[i]?) h.2
  simp only [List.getElem?_map,ha,hb,Option.map_some,Option.some.injEq] at this
  exact this
theorem HomesOk.merge {nodes:List Node} {prs:List (Nat × Nat)} {hs:List Nat} (H:HomesOk nodes prs hs) {a b:Nat} (ha:a < nodes.length) (hb:b < nodes.length) (hc:Cong nodes prs a b) (hlt:min (hk hs a) (hk hs b) < max (hk hs a) (hk hs b)) :
  HomesOk nodes prs (mapH hs (min (hk hs a) (hk hs b)) (max (hk hs a) (hk hs b)))∧cls nodes.length (hk (mapH hs (min (hk hs a) (hk hs b)) (max (hk hs a) (hk hs b)))) + 1 = cls nodes.length (hk hs):=by
 obtain l1:=H.wf.lt ha
 obtain l2:=H.wf.lt hb
 obtain i1:=H.wf.idem a ha
 obtain i2:=H.wf.idem b hb
 obtain rk:hk hs (min (hk hs a) (hk hs b)) = min (hk hs a) (hk hs b):=by rcases Nat.le_total (hk hs a) (hk hs b) with q | q <;> simp [Nat.min_eq_left,Nat.min_eq_right,q,i1,i2]
 obtain rg:hk hs (max (hk hs a) (hk hs b)) = max (hk hs a) (hk hs b):=by rcases Nat.le_total (hk hs a) (hk hs b) with q | q <;> simp [Nat.max_eq_left,Nat.max_eq_right,q,i1,i2]
 obtain hg:max (hk hs a) (hk hs b) < nodes.length:=(z320 l1 l2)
 obtain hcm:Cong nodes prs (max (hk hs a) (hk hs b)) (min (hk hs a) (hk hs b)):=by
  obtain c1:Cong nodes prs (hk hs a) (hk hs b):=((H.snd a ha).symm.trans hc).trans (H.snd b hb)
  rcases Nat.le_total (hk hs a) (hk hs b) with q | q
  ·rw [Nat.max_eq_right q,Nat.min_eq_left q]; exact c1.symm
  ·rw [Nat.max_eq_left q,Nat.min_eq_right q]; exact c1
 refine ⟨⟨by unfold mapH; rw [List.length_map]; exact H.len,?_,fun x hx=>?_⟩,?_⟩
 ·rw [hk_mapH hs hlt]; exact H.wf.mrg hlt hg rk rg
 ·rw [hk_mapH hs hlt]
  unfold mrg
  by_cases q:hk hs x = max (hk hs a) (hk hs b)
  ·rw [if_pos q]; exact (H.snd x hx).trans (q ▸ hcm)
  ·rw [if_neg q]; exact H.snd x hx
 ·rw [hk_mapH hs hlt]; exact cls_mrg hlt hg rk rg
theorem homes0 (nodes:List Node) (prs:List (Nat × Nat)):HomesOk nodes prs (List.range nodes.length):=by
 have e:∀ x,x < nodes.length→hk (List.range nodes.length) x = x:=fun x hx=>by unfold hk; rw [List.getElem?_range hx]; rfl
 refine ⟨by simp,⟨fun x hx=>by rw [e x hx]; exact Nat.le_refl _,fun x hx=>by rw [e x hx,e x hx]⟩,fun x hx=>by rw [e x hx]; exact .refl x⟩
section
variable {P:Par} {A:Around} {env:Env} {W:List Addr} {α β:Type} {σ σ':Store} {m:Vars} {X:HA} {ρ:Addr→Nat} {ξ:Type}
noncomputable def fdLHomes (p:Params):{fd:FuncData // fdIn (Mine.hd.heap_1 p) 479 = some fd}:=⟨_,rfl⟩
set_option maxHeartbeats 4000000 in
theorem cLHomes (O:P.Ok) {rl pl:Addr} {nodes:List Node} {prs:List (Nat × Nat)} {Q:Value→Store→Prop} (hR:Rm A 10) (h50:nodes.length≤50) (wfn:∀ (i:Nat) (nd:Node),nodes[i]? = some nd→∀ k ∈ nd.2,k < i) (ar:∀ nd ∈ nodes,nd.2.length≤10)
  (RA:RowsAt σ rl nodes) (PA:PairsAt σ pl prs) (hp:∀ p ∈ prs,p.1 < nodes.length∧p.2 < nodes.length) (hpl:prs.length≤100)
  (h:∀ hs hl σ',Le σ σ'→HomesAt σ' hl hs→HomesOk nodes prs hs→(∀ p ∈ prs,hk hs p.1 = hk hs p.2)→(∀ m n,m < n→n < nodes.length→LikeH nodes hs m n→hk hs m = hk hs n)→Q (.ref hl) σ') :
  COp P A (.call (.ref 479) ⟨[.ref rl,.ref pl],[]⟩) σ Q:=by
 refine oCall O (fdLHomes _).2 hR rfl rfl rfl rfl rfl rfl (fun L=>?_) rfl rfl rfl
 intro env A' W m0 Q'
 have hR':Rm A' 9:=hR.deeper
 have hh:=hR'.handled
 refine lG ?_; intro G
 obtain ⟨rvs,rk,er,hr2⟩:=RA
 refine lG ?_; intro G
 obtain ⟨pvs,pk,ep,hp2⟩:=PA
 refine lq ?_; intro K
 refine xCons (lq ?_); intro K
 refine xAssignTuple2 hh (xTuple ?_)
 refine lqE ?_; intro K
 refine (xCallT O boot_list rfl rfl (evCons (xCallT O boot_range rfl rfl (evCons (xCallB O boot_len rfl rfl (evCons (xName (xLoadCell rfl rfl rfl (evNil ?_)))))))))
 refine lq ?_; intro K
 refine xOp (oLen er (by rw [← hr2.length]; exact z99 h50) fun t1=>evNil ?_)
 rw [← hr2.length]
 refine lq ?_; intro K
 refine xOp (oRange fun ra rt ru rv hra=>evNil ?_)
 refine lq ?_; intro K
 refine xOp (oListRange hh (z99 h50) (Store.set_same ..) fun hl hws hkk hhl hN0=>?_)
 refine lqE ?_; intro K
 refine (xBool (evNil fun tt htt=>?_))
 obtain le1:Le σ (((σ.set ra (rng 0 nodes.length 1 rt ru rv)).set hl (lst hws hkk)).set tt (tup [.ref hl,.bool true] 0)):=((Le.new hra).trans (Le.new hhl)).trans (Le.new htt)
 obtain ehl:(((σ.set ra (rng 0 nodes.length 1 rt ru rv)).set hl (lst hws hkk)).set tt (tup [.ref hl,.bool true] 0)) hl = some (lst hws hkk):=Store.set_new htt (Store.set_same ..)
 have ett:(((σ.set ra (rng 0 nodes.length 1 rt ru rv)).set hl (lst hws hkk)).set tt (tup [.ref hl,.bool true] 0)) tt = some (tup [.ref hl,.bool true] 0):=Store.set_same ..
 generalize (((σ.set ra (rng 0 nodes.length 1 rt ru rv)).set hl (lst hws hkk)).set tt (tup [.ref hl,.bool true] 0)) = σ₁ at *
 revert σ₁; refine keep ?_; intro σ₁; set_option tactic.hygienic false in intros
 refine ⟨tt,_,_,0,rfl,.inr ett,?_⟩
 refine lq ?_; intro K
 refine xStoreCell rfl rfl (fun c hc=>mem_wrOf hc) ?_
 refine lq ?_; intro K
 refine xStore rfl rfl (List.mem_cons_self ..) ?_
 refine lq ?_; intro K
 refine xCons (lq ?_); intro K
 refine (xWhile (fun k σ' m'=>(X3 fun (hs:List Nat) (hl:Addr) (on:Bool)=>N9 (k = 2 * cls nodes.length (hk hs) + (if on = true then 1 else 0)) (HomesAt σ' hl hs) (HomesOk nodes prs hs) (Le σ σ') ((on = false→(∀ p ∈ prs,hk hs p.1 = hk hs p.2)∧∀ m n,m < n→n < nodes.length→LikeH nodes hs m n→hk hs m = hk hs n)) (m' "homes" = some (.ref hl)) (m' "is_on" = some (.bool on)) (m' "rows" = some (.ref rl)) (m' "pairs" = some (.ref pl)))) _
  ⟨List.range nodes.length,hl,true,rfl,⟨hws,hkk,ehl,hN0⟩,homes0 nodes prs,le1,fun hf=>(by cases hf),rfl,rfl,rfl,rfl⟩ ?_)
 rintro k σ' m' ⟨hs,hl,on,rfl,HA',HO,hle,hcl,m1,m2,m3,m4⟩
 refine lq ?_; intro K
 refine xTrueValue (xName (xLoad rfl m2 (xTruthyBool ⟨fun hon=>?_,fun hoff=>?_⟩)))
 ·subst hon
  obtain ⟨hvs,hkk',ehl',hhN⟩:=HA'
  have hlen:=HO.len
  have rown:∀ x nd,nodes[x]? = some nd→rowAt nodes x = nd:=fun x nd q=>by unfold rowAt; rw [q]; rfl
  refine lq ?_; intro K
  refine xCons (lq ?_); intro K
  refine xAssignSwap (names:=["is_on","lot"]) hh (xTuple ?_)
  refine lqE ?_; intro K
  refine (xBool (evCons (xCallT O boot_list rfl rfl (evCons (xName (xLoad rfl m4 (evNil ?_)))))))
  refine lq ?_; intro K
  refine xOp (oListOf (hle _ _ ep) (by rw [← hp2.length]; exact z58 hpl) fun L c hL=>fun tt2 htt2=>?_)
  have le2:Le σ' ((σ'.set L (lst pvs c)).set tt2 (tup [.bool false,.ref L] 0)):=(Le.new hL).trans (Le.new htt2)
  have eL:((σ'.set L (lst pvs c)).set tt2 (tup [.bool false,.ref L] 0)) L = some (lst pvs c):=Store.set_new htt2 (Store.set_same ..)
  obtain ett2:((σ'.set L (lst pvs c)).set tt2 (tup [.bool false,.ref L] 0)) tt2 = some (tup [.bool false,.ref L] 0):=Store.set_same ..
  generalize ((σ'.set L (lst pvs c)).set tt2 (tup [.bool false,.ref L] 0)) = σ₂ at *
  revert σ₂; refine keep ?_; intro σ₂; set_option tactic.hygienic false in intros
  refine ⟨tt2,_,0,rfl,.inr ett2,rfl,?_⟩
  refine lq ?_; intro K
  refine xStore rfl rfl (List.mem_cons_self ..) ?_
  refine lq ?_; intro K
  refine xStore rfl rfl (List.mem_cons_self ..) ?_
  obtain leA:Le σ σ₂:=hle.trans le2
  have e1:((m'.set "lot" (.ref L)).set "is_on" (.bool false)) "homes" = some (.ref hl):=m1
  obtain e2:((m'.set "lot" (.ref L)).set "is_on" (.bool false)) "is_on" = some (.bool false):=rfl
  have e3:((m'.set "lot" (.ref L)).set "is_on" (.bool false)) "rows" = some (.ref rl):=m3
  have e4:((m'.set "lot" (.ref L)).set "is_on" (.bool false)) "pairs" = some (.ref pl):=m4
  obtain e5:((m'.set "lot" (.ref L)).set "is_on" (.bool false)) "lot" = some (.ref L):=rfl
  change WP _ _ _ _ _ _ ((m'.set "lot" (.ref L)).set "is_on" (.bool false)) _
  generalize ((m'.set "lot" (.ref L)).set "is_on" (.bool false)) = m₂ at *
  revert m₂; refine keep ?_; intro m₂; set_option tactic.hygienic false in intros
  refine lq ?_; intro K
  refine xCons (lq ?_); intro K
  refine (xForEnum O hh rfl rfl (xName (xLoadCell rfl rfl e3 ⟨rfl,rl,rvs,rk,nodes,_,fun i σ'' m''=>(X2 fun lps L=>N8 (PairsAt σ'' L lps) (Le σ₂ σ'') (lps.length≤100 + 50 * i) ((∀ p ∈ lps,p.1 < nodes.length∧p.2 < nodes.length∧Cong nodes prs p.1 p.2)) ((∀ p ∈ prs,p ∈ lps)) ((∀ a b,a < b→b < i→LikeH nodes hs a b→(a,b) ∈ lps)) (m'' "lot" = some (.ref L)) (∀ z:Str,z≠"n"→z≠"row"→z≠"parts_of_it"→z≠"lot"→m'' z = m₂ z)),
   rfl,hr2,?_,?_,?_,?_⟩)))
  ·rintro i σ'' m'' ⟨_,_,_,hle2,_⟩
   exact hle2 _ _ (leA _ _ er)
  ·refine ⟨prs,L,⟨pvs,c,eL,hp2.mono fun p v q=>q.mono fun a o _ e=>leA _ _ e⟩,Le.refl _,(z321 hpl),fun p hp'=>⟨(hp p hp').1,(hp p hp').2,.pair hp'⟩,fun _ q=>q,fun a b _ hb=>(Nat.not_lt_zero _ hb).elim,e5,fun _ _ _ _ _=>rfl⟩
  ·rintro i nd w tn σ'' m'' hi hNd ⟨lps,L',PL,hle2,hlen2,hc2,hin,hal,mL,hm⟩
   have hiN:i < nodes.length:=(List.getElem?_eq_some_iff.mp hi).1
   have hrow:=rown i nd hi
   refine lq ?_; intro K
   refine xStoreCell rfl rfl (fun c hc=>mem_wrOf hc) ?_
   refine lq ?_; intro K
   refine xStoreCell rfl rfl (fun c hc=>mem_wrOf hc) ?_
   have q1:((m''.set "n" (.int (i:Nat) tn)).set "row" w) "homes" = some (.ref hl):=(hm "homes" (by decide) (by decide) (by decide) (by decide)).trans e1
   have q2:((m''.set "n" (.int (i:Nat) tn)).set "row" w) "rows" = some (.ref rl):=(hm "rows" (by decide) (by decide) (by decide) (by decide)).trans e3
   have q3:((m''.set "n" (.int (i:Nat) tn)).set "row" w) "lot" = some (.ref L'):=mL
   obtain q4:((m''.set "n" (.int (i:Nat) tn)).set "row" w) "row" = some w:=rfl
   obtain q5:((m''.set "n" (.int (i:Nat) tn)).set "row" w) "n" = some (.int (i:Nat) tn):=rfl
   obtain q6:∀ z:Str,z≠"n"→z≠"row"→z≠"parts_of_it"→z≠"lot"→((m''.set "n" (.int (i:Nat) tn)).set "row" w) z = m₂ z:=fun z h1 h2 h3 h4=>by
    show (if z = "row" then _ else if z = "n" then _ else m'' z) = _
    rw [if_neg h2,if_neg h1]; exact hm z h1 h2 h3 h4
   generalize ((m''.set "n" (.int (i:Nat) tn)).set "row" w) = m₅ at *
   revert m₅; refine keep ?_; intro m₅; set_option tactic.hygienic false in intros
   have leB:Le σ σ'':=leA.trans hle2
   have N':=hNd.mono (σ':=σ'') fun a o _ e=>leB a o e
   obtain ⟨ra,rkk,tr,kvs,rfl,era,hNk⟩:=N'
   have hkids:=wfn i nd hi
   have har:=ar nd (List.mem_of_getElem? hi)
   have ehl2:σ'' hl = some (lst hvs hkk'):=hle2 _ _ (le2 _ _ ehl')
   refine lq ?_; intro K
   refine xCons (lq ?_); intro K
   refine xAssignName (xListCompG ⟨rfl,rfl,rfl,rfl,rfl⟩ ?_)
   refine lq ?_; intro K
   refine xSliceTail (xName (xLoadCell rfl rfl q4 (xInt fun t6=>?_)))
   refine ⟨ra,_,kvs,rkk,t6,rfl,rfl,era,by rw [hNk.length]; exact z102 har,fun l6 σ₆ le6 hl6 el6=>?_⟩
   have le6:Le σ'' σ₆:=le6
   refine compGo_map nd.2 _ _ (fun _=>true) (fun y v _=>∃ t,v = .int (hk hs y:Nat) t) (srx_tuple (k:=0) hh (Ns.all2.mp hNk)) (fun p hp=>by rw [List.mem_singleton] at hp; subst hp; exact el6) (z102 har) (fun _ _ _ _ h _=>h) (fun _=>rfl) rfl rfl ?_ ?_
   ·rintro C y v σ4 m4' hy ⟨u,rfl⟩ hle' hm' hmx
    refine ⟨⟨rfl,rfl,rfl⟩,fun _=>?_⟩
    have hyl:y < hs.length:=by have:=hkids y hy; exact z307 hlen hiN this
    obtain ⟨tv,htv⟩:=hhN.get (List.getElem?_eq_getElem hyl)
    refine lq ?_; intro K
    refine xItem (xName (xLoadCell rfl rfl ((hm' _ (by decide)).trans q1) (xName (xLoad rfl hmx ⟨hl,hvs,hkk',y,u,_,rfl,rfl,.inl (hle' _ _ (le6 _ _ ehl2)),(z322 h50 hlen hyl),htv,Le.refl _,rfl,tv,?_⟩))))
    unfold hk; rw [List.getElem?_eq_getElem hyl]; rfl
   intro D7 ws7 k7 σ₇ le7 hD7 eD7 h7
   rw [show (nd.2.filter fun _=>true) = nd.2 from by simp] at h7
   have h7':Ns ws7 (nd.2.map (hk hs)):=Ns.all2.mpr (All2.map_left.mpr h7)
   refine lq ?_; intro K
   refine xStoreCell rfl rfl (fun c hc=>mem_wrOf hc) ?_
   have leC:Le σ'' σ₇:=le6.trans le7
   have p1:(m₅.set "parts_of_it" (.ref D7)) "homes" = some (.ref hl):=q1
   have p2:(m₅.set "parts_of_it" (.ref D7)) "rows" = some (.ref rl):=q2
   have p3:(m₅.set "parts_of_it" (.ref D7)) "lot" = some (.ref L'):=q3
   have p4:(m₅.set "parts_of_it" (.ref D7)) "row" = some (.ref ra):=q4
   have p5:(m₅.set "parts_of_it" (.ref D7)) "n" = some (.int (i:Nat) tn):=q5
   have p7:(m₅.set "parts_of_it" (.ref D7)) "parts_of_it" = some (.ref D7):=rfl
   obtain p6:∀ z:Str,z≠"n"→z≠"row"→z≠"parts_of_it"→z≠"lot"→(m₅.set "parts_of_it" (.ref D7)) z = m₂ z:=fun z h1 h2 h3 h4=>by
    show (if z = "parts_of_it" then _ else m₅ z) = _
    rw [if_neg h3]; exact q6 z h1 h2 h3 h4
   generalize (m₅.set "parts_of_it" (.ref D7)) = m₆ at *
   revert m₆; refine keep ?_; intro m₆; set_option tactic.hygienic false in intros
   obtain ehl3:σ₇ hl = some (lst hvs hkk'):=leC _ _ ehl2
   obtain er3:σ₇ rl = some (lst rvs rk):=leC _ _ (leB _ _ er)
   obtain era3:σ₇ ra = some (tup (.str nd.1 tr :: kvs) rkk):=leC _ _ era
   refine lq ?_; intro K
   refine xLast (lq ?_); intro K
   refine xAssignName (xBinOp (xName (xLoad rfl p3 (xListCompG ⟨rfl,rfl,rfl,rfl,rfl⟩ ?_))))
   refine lq ?_; intro K
   refine xCallT O boot_range rfl rfl (xName (xLoadCell rfl rfl p5 (evNil ?_)))
   refine lq ?_; intro K
   refine xOp (oRange fun ra' rt ru rv hra'=>?_)
   obtain le8:Le σ₇ (σ₇.set ra' (rng 0 i 1 rt ru rv)):=Le.new hra'
   refine compGo_map (List.range i) _ _ (fun a=>(rowAt nodes a).1 == nd.1 && decide ((rowAt nodes a).2.map (hk hs) = nd.2.map (hk hs))) (fun a v σ=>PairAt σ v (a,i)) (srx_range hh (z310 h50 hiN)) (fun p hp=>by rw [List.mem_singleton] at hp; subst hp; exact Store.set_same ..) (by simp; exact z310 h50 hiN) (fun y v σ σ' h k=>h.mono fun a o ho e=>k a o (by unfold isLst; rw [ho]; rfl) e) (fun _=>rfl) rfl rfl ?_ ?_
   ·rintro C a v σ4 m4' ha ⟨u,rfl⟩ hle' hm' hmx
    obtain hai:a < i:=List.mem_range.mp ha
    have haN:a < nodes.length:=(z323 hiN hai)
    have hleD:Le σ₇ σ4:=le8.trans hle'
    obtain ⟨w2,hw2,hNd2⟩:=hr2.get (List.getElem?_eq_getElem haN)
    have hrow2:=rown a _ (List.getElem?_eq_getElem haN)
    obtain N2:=hNd2.mono (σ':=σ4) fun a o _ e=>hleD _ _ (leC _ _ (leB a o e))
    obtain ⟨sa,skk,ts,svs,rfl,esa,hNs⟩:=N2
    obtain hkids2:=wfn a _ (List.getElem?_eq_getElem haN)
    have har2:=ar _ (List.getElem_mem haN)
    rw [hrow2]
    refine ⟨?_,fun _=>?_⟩
    ·refine lq ?_; intro K
     refine xTrueAnd2 (lq ?_); intro K
     refine xTrueCompare ?_
     refine lq ?_; intro K
     refine xItem (xItem (xName (xLoadCell rfl rfl ((hm' _ (by decide)).trans p2) (xName (xLoad rfl hmx ⟨rl,rvs,rk,a,u,_,rfl,rfl,.inl (hleD _ _ er3),(z310 h50 haN),hw2,?_⟩)))))
     refine lq ?_; intro K
     refine xInt fun t8=>⟨sa,_,skk,0,t8,_,rfl,rfl,.inr esa,z101,rfl,?_⟩
     refine lq ?_; intro K
     refine xItem (xName (xLoadCell rfl rfl ((hm' _ (by decide)).trans p4) (xInt fun t9=>⟨ra,_,rkk,0,t9,_,rfl,rfl,.inr (hleD _ _ era3),z101,rfl,?_⟩)))
     refine lq ?_; intro K
     refine xOp (oEqS (xTruthyBool ⟨fun hb=>?_,fun hb=>?_⟩))
     ·exact ⟨fun hf=>(by cases hf),fun _=>⟨by show false = (_ && _); rw [hb]; rfl,rfl,rfl⟩⟩
     ·refine lq ?_; intro K
      refine xTrueCompare (lq ?_); intro K
      refine xListCompG ⟨rfl,rfl,rfl,rfl,rfl⟩ ?_
      refine lq ?_; intro K
      refine xSliceTail ?_
      refine lq ?_; intro K
      refine xItem (xName (xLoadCell rfl rfl ((hm' _ (by decide)).trans p2) (xName (xLoad rfl hmx ⟨rl,rvs,rk,a,u,_,rfl,rfl,.inl (hleD _ _ er3),(z310 h50 haN),hw2,?_⟩))))
      refine xInt fun t10=>⟨sa,_,svs,skk,t10,rfl,rfl,esa,by rw [hNs.length]; exact z102 har2,fun l9 σ₉ le9 hl9 el9=>?_⟩
      have le9:Le σ4 σ₉:=le9
      refine compGo_map nodes[a].2 _ _ (fun _=>true) (fun y v _=>∃ t,v = .int (hk hs y:Nat) t) (srx_tuple (k:=0) hh (Ns.all2.mp hNs)) (fun p hp=>by rw [List.mem_singleton] at hp; subst hp; exact el9) (z102 har2) (fun _ _ _ _ h _=>h) (fun _=>rfl) rfl rfl ?_ ?_
      ·rintro C2 y v σ5 m5' hy ⟨u2,rfl⟩ hle5 hm5 hmx5
       refine ⟨⟨rfl,rfl,rfl⟩,fun _=>?_⟩
       have hyl:y < hs.length:=by have:=hkids2 y hy; exact z324 hlen hiN hai this
       obtain ⟨tv,htv⟩:=hhN.get (List.getElem?_eq_getElem hyl)
       refine lq ?_; intro K
       refine xItem (xName (xLoadCell rfl rfl ((hm5 _ (by decide)).trans ((hm' _ (by decide)).trans p1)) (xName (xLoad rfl hmx5 ⟨hl,hvs,hkk',y,u2,_,rfl,rfl,.inl (hle5 _ _ (le9 _ _ (hleD _ _ ehl3))),(z322 h50 hlen hyl),htv,Le.refl _,rfl,tv,?_⟩))))
       unfold hk; rw [List.getElem?_eq_getElem hyl]; rfl
      intro D8 ws8 k8 σ8 le8' hD8 eD8 h8
      rw [show (nodes[a].2.filter fun _=>true) = nodes[a].2 from by simp] at h8
      have h8':Ns ws8 (nodes[a].2.map (hk hs)):=Ns.all2.mpr (All2.map_left.mpr h8)
      refine lq ?_; intro K
      refine xName (xLoadCell rfl rfl ((hm' _ (by decide)).trans p7) ?_)
      refine lq ?_; intro K
      refine xOp (oEqNs (hR'.mono z325) eD8 (le8' _ _ (le9 _ _ (hleD _ _ eD7))) h8' h7' (xForget (le9.trans le8') (xTruthyBool ⟨fun hb2=>?_,fun hb2=>?_⟩)))
      ·exact ⟨by show true = (_ && _); rw [hb,hb2]; rfl,rfl,rfl⟩
      ·exact ⟨by show false = (_ && _); rw [hb,hb2]; rfl,rfl,rfl⟩
    ·refine lq ?_; intro K
     refine xTuple (xName (xLoad rfl hmx (evCons (xName (xLoadCell rfl rfl ((hm' _ (by decide)).trans p5) (evNil fun b hb=>?_))))))
     exact ⟨Le.new hb,rfl,b,u,tn,0,rfl,Store.set_same ..⟩
   ·intro D9 ws9 k9 σ10 le10 hD9 eD9 h9
    have leD:Le σ'' σ10:=leC.trans (le8.trans le10)
    obtain ⟨ps,kp,ePL,h2p⟩:=PL
    have hfl:((List.range i).filter fun a=>(rowAt nodes a).1 == nd.1 && decide ((rowAt nodes a).2.map (hk hs) = nd.2.map (hk hs))).length≤i:=by have:=List.length_filter_le (fun a=>(rowAt nodes a).1 == nd.1 && decide ((rowAt nodes a).2.map (hk hs) = nd.2.map (hk hs))) (List.range i); simpa using this
    refine lq ?_; intro K
    refine xOp (oAddList (leD _ _ ePL) eD9 (by rw [← h2p.length,← h9.length]; exact z326 h50 hlen2 hiN hfl) fun a9 ha9=>?_)
    refine lq ?_; intro K
    refine xStore rfl rfl (List.mem_cons_self ..) ?_
    refine ⟨lps ++ ((List.range i).filter fun a=>(rowAt nodes a).1 == nd.1 && decide ((rowAt nodes a).2.map (hk hs) = nd.2.map (hk hs))).map (fun a=>(a,i)),a9,⟨ps ++ ws9,0,Store.set_same ..,?_⟩,(hle2.trans leD).trans (Le.new ha9),?_,?_,?_,?_,rfl,?_⟩
    ·exact All2.append (h2p.mono fun p v q=>q.mono fun a o _ e=>Store.set_new ha9 (leD _ _ e)) (All2.map_left.mpr (h9.mono fun p v q=>q.mono fun a o _ e=>Store.set_new ha9 e))
    ·rw [List.length_append,List.length_map]; exact z327 h50 hlen2 hiN hfl
    ·intro p hp'
     rcases List.mem_append.mp hp' with hp' | hp'
     ·exact hc2 p hp'
     ·obtain ⟨a,ha,rfl⟩:=List.mem_map.mp hp'
      rw [List.mem_filter,List.mem_range,Bool.and_eq_true,decide_eq_true_eq,beq_iff_eq,← hrow] at ha
      exact ⟨by show a < _; omega,hiN,HO.likeH wfn (by omega) hiN ⟨ha.2.1,ha.2.2⟩⟩
    ·exact fun p hp'=>List.mem_append.mpr (.inl (hin p hp'))
    ·intro a b hab hb hL'
     rcases Nat.lt_succ_iff_lt_or_eq.mp hb with hb | rfl
     ·exact List.mem_append.mpr (.inl (hal a b hab hb hL'))
     ·refine List.mem_append.mpr (.inr (List.mem_map.mpr ⟨a,?_,rfl⟩))
      rw [List.mem_filter,List.mem_range,Bool.and_eq_true,decide_eq_true_eq,beq_iff_eq,← hrow]
      exact ⟨hab,hL'.1,hL'.2⟩
    ·intro z h1 h2 h3 h4
     show (if z = "lot" then _ else m₆ z) = _
     rw [if_neg h4]; exact p6 z h1 h2 h3 h4
  ·rintro σ3 m3 ⟨lps,L3,⟨ps,kp,eL3,h2p⟩,hle3,hlen3,hc3,hin3,hal3,mL3,hm3⟩
   refine lq ?_; intro K
   refine xLast (lq ?_); intro K
   refine (xForPairs hh (xName (xLoad rfl mL3 ⟨L3,ps,kp,lps,fun i σ4 m4=>(X3 fun (hs4:List Nat) (hl4:Addr) (on4:Bool)=>N9 (HomesAt σ4 hl4 hs4) (HomesOk nodes prs hs4) (Le σ3 σ4) ((on4 = true→cls nodes.length (hk hs4) + 1≤cls nodes.length (hk hs))) ((on4 = false→hs4 = hs∧∀ j p,j < i→lps[j]? = some p→hk hs p.1 = hk hs p.2)) (m4 "homes" = some (.ref hl4)) (m4 "is_on" = some (.bool on4)) (m4 "rows" = some (.ref rl)) (m4 "pairs" = some (.ref pl))),
    rfl,h2p,?_,?_,?_,?_⟩)))
   ·rintro i σ4 m4 ⟨_,_,_,_,_,hle4,_⟩
    exact ⟨hle4 _ _ eL3,fun a o _ e=>hle4 _ _ e⟩
   ·refine ⟨hs,hl,false,⟨hvs,hkk',hle3 _ _ (le2 _ _ ehl'),hhN⟩,HO,Le.refl _,fun hf=>(by cases hf),fun _=>⟨rfl,fun j p hj=>(Nat.not_lt_zero _ hj).elim⟩,?_,?_,?_,?_⟩
    ·exact (hm3 _ (by decide) (by decide) (by decide) (by decide)).trans e1
    ·exact (hm3 _ (by decide) (by decide) (by decide) (by decide)).trans e2
    ·exact (hm3 _ (by decide) (by decide) (by decide) (by decide)).trans e3
    ·exact (hm3 _ (by decide) (by decide) (by decide) (by decide)).trans e4
   ·rintro i p t u σ4 m4 hp4 ⟨hs4,hl4,on4,⟨hv4,hk4,eh4,hN4⟩,HO4,hle4,hon4,hoff4,n1,n2,n3,n4⟩
    obtain ⟨hpa,hpb,hcong⟩:=hc3 p (List.mem_of_getElem? hp4)
    have hl4':=HO4.len
    refine lq ?_; intro K
    refine xStore rfl rfl (List.mem_cons_self ..) ?_
    refine lq ?_; intro K
    refine xStoreCell rfl rfl (fun c hc=>mem_wrOf hc) ?_
    have q1:((m4.set "m" (.int (p.1:Nat) t)).set "n" (.int (p.2:Nat) u)) "homes" = some (.ref hl4):=n1
    have q2:((m4.set "m" (.int (p.1:Nat) t)).set "n" (.int (p.2:Nat) u)) "is_on" = some (.bool on4):=n2
    have q3:((m4.set "m" (.int (p.1:Nat) t)).set "n" (.int (p.2:Nat) u)) "rows" = some (.ref rl):=n3
    have q4:((m4.set "m" (.int (p.1:Nat) t)).set "n" (.int (p.2:Nat) u)) "pairs" = some (.ref pl):=n4
    have q5:((m4.set "m" (.int (p.1:Nat) t)).set "n" (.int (p.2:Nat) u)) "m" = some (.int (p.1:Nat) t):=rfl
    have q6:((m4.set "m" (.int (p.1:Nat) t)).set "n" (.int (p.2:Nat) u)) "n" = some (.int (p.2:Nat) u):=rfl
    generalize ((m4.set "m" (.int (p.1:Nat) t)).set "n" (.int (p.2:Nat) u)) = m5 at *
    revert m5; refine keep ?_; intro m5; set_option tactic.hygienic false in intros
    have hga:hs4[p.1]? = some (hk hs4 p.1):=by unfold hk; rw [List.getElem?_eq_getElem (z328 hpa hl4')]; rfl
    have hgb:hs4[p.2]? = some (hk hs4 p.2):=by unfold hk; rw [List.getElem?_eq_getElem (z328 hpb hl4')]; rfl
    obtain ⟨ta,hta⟩:=hN4.get hga
    obtain ⟨tb,htb⟩:=hN4.get hgb
    refine lq ?_; intro K
    refine xCons (lq ?_); intro K
    refine xAssignTuple2 hh (xCallB O boot_sorted' rfl rfl (xList ?_))
    refine lqE ?_; intro K
    refine (xItem (xName (xLoadCell rfl rfl q1 (xName (xLoad rfl q5 ⟨hl4,hv4,hk4,p.1,t,_,rfl,rfl,.inl eh4,(z310 h50 hpa),hta,?_⟩)))))
    refine lqE ?_; intro K
    refine (xItem (xName (xLoadCell rfl rfl q1 (xName (xLoadCell rfl rfl q6 ⟨hl4,hv4,hk4,p.2,u,_,rfl,rfl,.inl eh4,(z310 h50 hpb),htb,?_⟩)))))
    refine lqE ?_; intro K
    refine fun l1 hl1=>evNil (xOp (oSortedPair (Store.set_same ..) fun l2 kt gt k hl2=>?_))
    refine ⟨l2,_,_,k,rfl,.inl (Store.set_same ..),?_⟩
    refine lq ?_; intro K
    refine xForget ((Le.new hl1).trans (Le.new hl2)) ?_
    refine lq ?_; intro K
    refine xStoreCell rfl rfl (fun c hc=>mem_wrOf hc) ?_
    refine lq ?_; intro K
    refine xStoreCell rfl rfl (fun c hc=>mem_wrOf hc) ?_
    obtain hM:=HO4.merge hpa hpb hcong
    have hEq:¬ min (hk hs4 p.1) (hk hs4 p.2) < max (hk hs4 p.1) (hk hs4 p.2)→hk hs4 p.1 = hk hs4 p.2:=z329
    generalize min (hk hs4 p.1) (hk hs4 p.2) = low at *
    revert low; refine keep ?_; intro low; set_option tactic.hygienic false in intros
    generalize max (hk hs4 p.1) (hk hs4 p.2) = high at *
    revert high; refine keep ?_; intro high; set_option tactic.hygienic false in intros
    have w1:((m5.set "low" (.int (low:Nat) kt)).set "high" (.int (high:Nat) gt)) "homes" = some (.ref hl4):=q1
    have w2:((m5.set "low" (.int (low:Nat) kt)).set "high" (.int (high:Nat) gt)) "is_on" = some (.bool on4):=q2
    have w3:((m5.set "low" (.int (low:Nat) kt)).set "high" (.int (high:Nat) gt)) "rows" = some (.ref rl):=q3
    have w4:((m5.set "low" (.int (low:Nat) kt)).set "high" (.int (high:Nat) gt)) "pairs" = some (.ref pl):=q4
    have w5:((m5.set "low" (.int (low:Nat) kt)).set "high" (.int (high:Nat) gt)) "low" = some (.int (low:Nat) kt):=rfl
    have w6:((m5.set "low" (.int (low:Nat) kt)).set "high" (.int (high:Nat) gt)) "high" = some (.int (high:Nat) gt):=rfl
    change WP _ _ _ _ _ _ ((m5.set "low" (.int (low:Nat) kt)).set "high" (.int (high:Nat) gt)) _
    generalize ((m5.set "low" (.int (low:Nat) kt)).set "high" (.int (high:Nat) gt)) = m6 at *
    revert m6; refine keep ?_; intro m6; set_option tactic.hygienic false in intros
    refine lq ?_; intro K
    refine xLast (lq ?_); intro K
    refine xIf (xTrueCompare (xName (xLoadCell rfl rfl w5 (xName (xLoadCell rfl rfl w6 (xOp (oLt (xTruthyBool ⟨fun hb=>?_,fun hb=>?_⟩))))))))
    ·have hlt:low < high:=by simpa using hb
     obtain ⟨HO5,hc5⟩:=hM hlt
     refine lq ?_; intro K
     refine xLast (lq ?_); intro K
     refine xAssignTuple2 hh (xTuple (xListCompG ⟨rfl,rfl,rfl,rfl,rfl⟩ (xName (xLoadCell rfl rfl w1 ?_))))
     refine compGo_map hs4 _ _ (fun _=>true) (fun y v _=>∃ t,v = .int ((if y = high then low else y:Nat)) t) (srx_list (k:=hk4) hh (Ns.all2.mp hN4)) (fun p hp=>by rw [List.mem_singleton] at hp; subst hp; exact eh4) (z330 h50 hl4') (fun _ _ _ _ h _=>h) (fun _=>rfl) rfl rfl ?_ ?_
     ·rintro C y v σ5 m5' hy ⟨uy,rfl⟩ hle5 hm5 hmx5
      refine ⟨⟨rfl,rfl,rfl⟩,fun _=>?_⟩
      refine lq ?_; intro K
      refine xIfExp (lq ?_); intro K
      refine xTrueCompare (xName (xLoad rfl hmx5 (xName (xLoadCell rfl rfl ((hm5 _ (by decide)).trans w6) (xOp (oEq (xTruthyBool ⟨fun hb2=>?_,fun hb2=>?_⟩)))))))
      ·refine lq ?_; intro K
       refine xName (xLoadCell rfl rfl ((hm5 _ (by decide)).trans w5) ⟨Le.refl _,rfl,kt,?_⟩)
       have q:(y:Int) = (high:Nat):=by simpa using hb2
       rw [if_pos (Int.ofNat.inj q)]
      ·refine lq ?_; intro K
       refine xName (xLoad rfl hmx5 ⟨Le.refl _,rfl,uy,?_⟩)
       have q:¬ (y:Int) = (high:Nat):=by simpa using hb2
       rw [if_neg (fun q'=>q (by rw [q']))]
     intro D5 ws5 k5 σ5 le5 hD5 eD5 h5
     rw [show (hs4.filter fun _=>true) = hs4 from by simp] at h5
     have h5':Ns ws5 (mapH hs4 low high):=Ns.all2.mpr (All2.map_left.mpr h5)
     refine lqE ?_; intro K
     refine (xBool (evNil fun t5 ht5=>⟨t5,_,_,0,rfl,.inr (Store.set_same ..),?_⟩))
     refine lq ?_; intro K
     refine xStoreCell rfl rfl (fun c hc=>mem_wrOf hc) ?_
     refine lq ?_; intro K
     refine xStore rfl rfl (List.mem_cons_self ..) ?_
     refine ⟨mapH hs4 low high,D5,true,⟨ws5,k5,Store.set_new ht5 eD5,h5'⟩,HO5,(hle4.trans le5).trans (Le.new ht5),fun _=>?_,fun hf=>(by cases hf),rfl,rfl,w3,w4⟩
     cases on4 with
     | true=>have:=hon4 rfl; exact z331 hc5 this
     | false=>rw [← (hoff4 rfl).1]; exact z332 hc5
    ·have hge:=hEq (by simpa using hb)
     refine xNil ⟨hs4,hl4,on4,⟨hv4,hk4,eh4,hN4⟩,HO4,hle4,hon4,fun hf=>?_,w1,w2,w3,w4⟩
     obtain ⟨rfl,hall⟩:=hoff4 hf
     refine ⟨rfl,fun j p' hj hp'=>?_⟩
     rcases Nat.lt_succ_iff_lt_or_eq.mp hj with hj | rfl
     ·exact hall j p' hj hp'
     ·rw [hp4] at hp'; cases hp'; exact hge
   ·rintro σ4 m4 ⟨hs4,hl4,on4,HA4,HO4,hle4,hon4,hoff4,n1,n2,n3,n4⟩
    refine ⟨2 * cls nodes.length (hk hs4) + (if on4 = true then 1 else 0),?_,hs4,hl4,on4,rfl,HA4,HO4,((leA.trans hle3).trans hle4),fun hf=>?_,n1,n2,n3,n4⟩
    ·cases on4 with
     | true=>have:=hon4 rfl; simp; exact z333 this
     | false=>rw [(hoff4 rfl).1]; simp
    ·refine lG ?_; intro G
     obtain ⟨rfl,hall⟩:=hoff4 hf
     refine ⟨fun p hp'=>?_,fun a b hab hb hL'=>?_⟩
     ·refine lG ?_; intro G
      obtain ⟨j,hj⟩:=List.mem_iff_getElem?.mp (hin3 p hp')
      exact hall j p (List.getElem?_eq_some_iff.mp hj).1 hj
     ·refine lG ?_; intro G
      obtain ⟨j,hj⟩:=List.mem_iff_getElem?.mp (hal3 a b hab hb hL')
      exact hall j _ (List.getElem?_eq_some_iff.mp hj).1 hj
 ·refine lq ?_; intro K
  refine xLast (lq ?_); intro K
  exact xReturn (xName (xLoadCell rfl rfl m1 (h hs hl σ' hle HA' HO (hcl hoff).1 (hcl hoff).2)))
end
end Mine
end
section
set_option maxRecDepth 10000
namespace Mine
theorem cls_le (n:Nat) (r:Nat→Nat):cls n r≤n:=by unfold cls; have:=List.countP_le_length (p:=fun x=>r x == x) (l:=List.range n); simpa using this
structure S0 (prs:List (Nat × Nat)) (s:St):Prop where
 n7:s.n≤7
 wfn:∀ (i:Nat) (nd:Node),s.nodes[i]? = some nd→∀ k ∈ nd.2,k < i
 wf:Wf s.n s.r
 kn:∀ p ∈ s.known,p.2 < s.n∧p.1.1 = (s.nd p.2).1∧p.1.2.map s.r = (s.nd p.2).2.map s.r
 i3:∀ m,m < s.n→∀ k ∈ (s.nd m).2,m ∈ s.abv (s.r k)
 abm:∀ i,∀ x ∈ s.abv i,x < s.n
 abl:∀ i,(s.abv i).length≤16 * 2 ^ (s.n - cls s.n s.r)
 wt:∀ x ∈ s.waiting,x < s.n
 snd:∀ x,x < s.n→Cong s.nodes prs x (s.r x)
 ne:s.ne + cls s.n s.r≤20
 mu:s.known.length + (s.waiting.length + 2100 * cls s.n s.r)≤20000
def I2 (s:St) (ex:Nat→Prop):Prop:=∀ m,m < s.n→m ∈ s.waiting∨ex m∨∃ m',s.known.lookup (sig s.r (s.nd m)) = some m'∧s.r m' = s.r m
theorem S0.kid {prs:List (Nat × Nat)} {s:St} (S:S0 prs s) {m k:Nat} (hm:m < s.n) (hk:k ∈ (s.nd m).2):k < s.n:=Nat.lt_trans (S.wfn m _ (St.nd_get hm) k hk) hm
theorem S0.abl' {prs:List (Nat × Nat)} {s:St} (S:S0 prs s) (i:Nat):(s.abv i).length≤2048:=by
 have h:=S.abl i
 have h2:2 ^ (s.n - cls s.n s.r)≤2 ^ 7:=Nat.pow_le_pow_right z334 (by have:=S.n7; exact z335 this)
 omega
theorem S0.bd {prs:List (Nat × Nat)} {s:St} (S:S0 prs s):Bd s:=by
 have h1:=S.ne
 have h2:=S.mu
 exact ⟨(z336 h1),(z337 h2),(z338 h2),fun i _ _=>by have:=S.abl' i; exact z339 this,fun p hp=>(S.kn p hp).1⟩
theorem mrg_comp {r:Nat→Nat} {kept gone:Nat} (l:List Nat):l.map (mrg r kept gone) = (l.map r).map fun x=>if x = gone then kept else x:=by rw [List.map_map]; rfl
theorem S0.jn {prs:List (Nat × Nat)} {s:St} {ex:Nat→Prop} (S:S0 prs s) (I:I2 s ex) {kept gone:Nat} (hlt:kept < gone) (hg:gone < s.n) (rk:s.r kept = kept) (rg:s.r gone = gone) (hc:Cong s.nodes prs kept gone) :
  S0 prs (jn s kept gone)∧I2 (jn s kept gone) ex∧(jn s kept gone).waiting.length + 2100 * cls s.n (jn s kept gone).r < s.waiting.length + 2100 * cls s.n s.r:=by
 obtain hcl:cls s.n (mrg s.r kept gone) + 1 = cls s.n s.r:=cls_mrg hlt hg rk rg
 obtain hle:=cls_le s.n s.r
 obtain ha:=S.abl' gone
 obtain hmu:(s.waiting ++ s.abv gone).length + 2100 * cls s.n (mrg s.r kept gone) < s.waiting.length + 2100 * cls s.n s.r:=by rw [List.length_append]; exact z340 hcl ha
 obtain hpow:16 * 2 ^ (s.n - cls s.n (mrg s.r kept gone)) = 16 * 2 ^ (s.n - cls s.n s.r) + 16 * 2 ^ (s.n - cls s.n s.r):=by
  rw [show s.n - cls s.n (mrg s.r kept gone) = (s.n - cls s.n s.r) + 1 by exact z341 hcl hle,Nat.pow_succ]; exact z342
 refine ⟨⟨S.n7,S.wfn,S.wf.mrg hlt hg rk rg,fun p hp=>?_,fun m hm k hk=>?_,fun i x hx=>?_,fun i=>?_,fun x hx=>?_,fun x hx=>?_,?_,?_⟩,fun m hm=>?_,hmu⟩
 ·refine lG ?_; intro G
  obtain ⟨h1,h2,h3⟩:=S.kn p hp
  exact ⟨h1,h2,by show p.1.2.map (mrg s.r kept gone) = _; rw [mrg_comp,h3]; exact (mrg_comp _).symm⟩
 ·refine lG ?_; intro G
  obtain h:=S.i3 m hm k hk
  show m ∈ (if mrg s.r kept gone k = kept then s.abv kept ++ s.abv gone else s.abv (mrg s.r kept gone k))
  unfold mrg
  by_cases q:s.r k = gone
  ·rw [if_pos q,if_pos rfl,List.mem_append]; rw [q] at h; exact .inr h
  ·rw [if_neg q]
   by_cases q2:s.r k = kept
   ·rw [if_pos q2,List.mem_append]; rw [q2] at h; exact .inl h
   ·rw [if_neg q2]; exact h
 ·obtain hx:x ∈ (if i = kept then s.abv kept ++ s.abv gone else s.abv i):=hx
  by_cases q:i = kept
  ·rw [if_pos q,List.mem_append] at hx
   exact hx.elim (S.abm _ x) (S.abm _ x)
  ·rw [if_neg q] at hx; exact S.abm i x hx
 ·show (if i = kept then s.abv kept ++ s.abv gone else s.abv i).length≤16 * 2 ^ (s.n - cls s.n (mrg s.r kept gone))
  rw [hpow]
  obtain h1:=S.abl i
  obtain h2:=S.abl kept
  obtain h3:=S.abl gone
  by_cases q:i = kept
  ·rw [if_pos q,List.length_append]; exact z343 h2 h3
  ·rw [if_neg q]; exact z344 h1
 ·rcases List.mem_append.mp (show x ∈ s.waiting ++ s.abv gone from hx) with h | h
  ·exact S.wt x h
  ·exact S.abm _ x h
 ·show Cong s.nodes prs x (mrg s.r kept gone x)
  unfold mrg
  by_cases q:s.r x = gone
  ·rw [if_pos q]; exact (S.snd x hx).trans (q ▸ hc.symm)
  ·rw [if_neg q]; exact S.snd x hx
 ·have:=S.ne; exact z345 hcl this
 ·have:=S.mu; exact z346 hmu this
 ·show m ∈ s.waiting ++ s.abv gone∨ex m∨∃ m',s.known.lookup (sig (mrg s.r kept gone) (s.nd m)) = some m'∧mrg s.r kept gone m' = mrg s.r kept gone m
  refine lG ?_; intro G
  by_cases q:∃ k,k ∈ (s.nd m).2∧s.r k = gone
  ·refine lG ?_; intro G
   obtain ⟨k,hk,e⟩:=q
   refine .inl (List.mem_append.mpr (.inr ?_))
   have:=S.i3 m hm k hk
   rwa [e] at this
  ·refine lG ?_; intro G
   rcases I m hm with h | h | ⟨m',h1,h2⟩
   ·exact .inl (List.mem_append.mpr (.inl h))
   ·exact .inr (.inl h)
   ·refine .inr (.inr ⟨m',?_,by unfold mrg; rw [h2]⟩)
    have:sig (mrg s.r kept gone) (s.nd m) = sig s.r (s.nd m):=by
     unfold sig
     congr 1
     refine List.map_congr_left fun k hk=>?_
     unfold mrg
     rw [if_neg fun e=>q ⟨k,hk,e⟩]
    rw [this]; exact h1
theorem lookup_append_none {l:List (Node × Nat)} {k:Node} {v:Nat} (h:l.lookup k = none):(l ++ [(k,v)]).lookup k = some v:=by
 induction l with
 | nil=>rw [List.nil_append,List.lookup_cons,beq_self_eq_true]
 | cons p l ih =>
  obtain ⟨a,b⟩:=p
  rw [List.lookup_cons] at h
  rw [List.cons_append,List.lookup_cons]
  cases q:(k == a) with
  | true=>rw [q] at h; cases h
  | false=>rw [q] at h; exact ih h
theorem lookup_append_some {l r:List (Node × Nat)} {k:Node} {v:Nat} (h:l.lookup k = some v):(l ++ r).lookup k = some v:=by
 induction l with
 | nil=>cases h
 | cons p l ih =>
  obtain ⟨a,b⟩:=p
  rw [List.lookup_cons] at h
  rw [List.cons_append,List.lookup_cons]
  cases q:(k == a) with
  | true=>rw [q] at h; exact h
  | false=>rw [q] at h; exact ih h
theorem S0.lk {prs:List (Nat × Nat)} {s:St} {a:Nat} (S:S0 prs s) (I:I2 s (· = a)) (ha:a < s.n) (hmu:s.known.length + 1 + (s.waiting.length + 2100 * cls s.n s.r)≤20000) :
  S0 prs (lk s a)∧I2 (lk s a) (fun _=>False)∧(lk s a).waiting.length + 2100 * cls s.n (lk s a).r≤s.waiting.length + 2100 * cls s.n s.r:=by
 obtain hnd:=St.nd_get ha
 unfold Mine.lk
 rw [hnd]
 dsimp only
 cases hl:s.known.lookup (sig s.r (s.nd a)) with
 | none =>
  dsimp only
  refine ⟨⟨S.n7,S.wfn,S.wf,fun p hp=>?_,S.i3,S.abm,S.abl,S.wt,S.snd,S.ne,?_⟩,fun m hm=>?_,Nat.le_refl _⟩
  ·rcases List.mem_append.mp hp with hp | hp
   ·exact S.kn p hp
   ·rw [List.mem_singleton] at hp; subst hp
    refine ⟨ha,rfl,?_⟩
    show ((s.nd a).2.map s.r).map s.r = (s.nd a).2.map s.r
    rw [List.map_map]
    exact List.map_congr_left fun k hk=>S.wf.idem k (S.kid ha hk)
  ·show (s.known ++ _).length + _≤_
   rw [List.length_append]; exact hmu
  ·rcases I m hm with h | h | ⟨m',h1,h2⟩
   ·exact .inl h
   ·subst h
    exact .inr (.inr ⟨m,lookup_append_none hl,rfl⟩)
   ·exact .inr (.inr ⟨m',lookup_append_some h1,h2⟩)
 | some m =>
  dsimp only
  obtain ⟨k1,k2,k3⟩:=S.kn _ (mem_of_lk hl)
  obtain k1:m < s.n:=k1
  by_cases q:s.r m = s.r a
  ·rw [if_pos q]
   refine ⟨S,fun m1 hm1=>?_,Nat.le_refl _⟩
   rcases I m1 hm1 with h | h | h
   ·exact .inl h
   ·subst h; exact .inr (.inr ⟨m,hl,q⟩)
   ·exact .inr (.inr h)
  ·rw [if_neg q]
   obtain l1:=S.wf.lt k1
   obtain l2:=S.wf.lt ha
   have i1:=S.wf.idem m k1
   have i2:=S.wf.idem a ha
   have hlt:min (s.r m) (s.r a) < max (s.r m) (s.r a):=(z347 q)
   have rk:s.r (min (s.r m) (s.r a)) = min (s.r m) (s.r a):=by rcases Nat.le_total (s.r m) (s.r a) with q | q <;> simp [Nat.min_eq_left,Nat.min_eq_right,q,i1,i2]
   have rg:s.r (max (s.r m) (s.r a)) = max (s.r m) (s.r a):=by rcases Nat.le_total (s.r m) (s.r a) with q | q <;> simp [Nat.max_eq_left,Nat.max_eq_right,q,i1,i2]
   have hlike:Cong s.nodes prs m a:=by
    obtain e1:(rowAt s.nodes m) = s.nd m:=rfl
    obtain e2:(rowAt s.nodes a) = s.nd a:=rfl
    have k3':(s.nd a).2.map s.r = (s.nd m).2.map s.r:=by
     rw [← k3]
     show _ = ((s.nd a).2.map s.r).map s.r
     rw [List.map_map]
     exact List.map_congr_left fun k hk=>(S.wf.idem k (S.kid ha hk)).symm
    refine .like k1 ha (by rw [e1,e2]; exact k2.symm) (by rw [e1,e2]; have:=congrArg List.length k3'; simpa using this.symm) fun i x y hx hy=>?_
    rw [e1] at hx; rw [e2] at hy
    have hxy:s.r x = s.r y:=by
     have:=congrArg (·[i]?) k3'
     simp only [List.getElem?_map,hx,hy,Option.map_some,Option.some.injEq] at this
     exact this.symm
    exact (S.snd x (S.kid k1 (List.mem_of_getElem? hx))).trans (hxy ▸ (S.snd y (S.kid ha (List.mem_of_getElem? hy))).symm)
   have hc:Cong s.nodes prs (min (s.r m) (s.r a)) (max (s.r m) (s.r a)):=by
    obtain c1:Cong s.nodes prs (s.r m) (s.r a):=((S.snd m k1).symm.trans hlike).trans (S.snd a ha)
    rcases Nat.le_total (s.r m) (s.r a) with q | q
    ·rw [Nat.max_eq_right q,Nat.min_eq_left q]; exact c1
    ·rw [Nat.max_eq_left q,Nat.min_eq_right q]; exact c1.symm
   have I':I2 s (fun x=>x = a):=I
   obtain ⟨S',J,hm⟩:=S.jn I' hlt (z320 l1 l2) rk rg hc
   refine ⟨S',fun m1 hm1=>?_,(z348 hm)⟩
   rcases J m1 hm1 with h | h | h
   ·exact .inl h
   ·subst h
    refine lG ?_; intro G
    by_cases q3:∃ k,k ∈ (s.nd m1).2∧s.r k = max (s.r m) (s.r m1)
    ·obtain ⟨k,hk,e⟩:=q3
     refine .inl (List.mem_append.mpr (.inr ?_))
     have:=S.i3 m1 hm1 k hk
     rwa [e] at this
    ·refine .inr (.inr ⟨m,?_,?_⟩)
     ·show s.known.lookup (sig (mrg s.r _ _) (s.nd m1)) = some m
      have:sig (mrg s.r (min (s.r m) (s.r m1)) (max (s.r m) (s.r m1))) (s.nd m1) = sig s.r (s.nd m1):=by
       unfold sig
       congr 1
       refine List.map_congr_left fun k hk=>?_
       unfold mrg
       rw [if_neg fun e=>q3 ⟨k,hk,e⟩]
      rw [this]; exact hl
     ·show mrg s.r _ _ m = mrg s.r _ _ m1
      unfold mrg
      rcases Nat.lt_or_gt_of_ne q with q4 | q4
      ·rw [Nat.max_eq_right (Nat.le_of_lt q4),Nat.min_eq_left (Nat.le_of_lt q4),if_neg (z349 q),if_pos rfl]
      ·rw [Nat.max_eq_left (Nat.le_of_lt q4),Nat.min_eq_right (Nat.le_of_lt q4),if_pos rfl,if_neg (z350 q4)]
   ·exact .inr (.inr h)
end Mine
end
section
set_option maxRecDepth 10000
namespace Mine
abbrev noOne:Nat→Prop:=fun _=>False
def mu (s:St):Nat:=s.waiting.length + 2100 * cls s.n s.r
theorem lk_nodes (s:St) (a:Nat):(lk s a).nodes = s.nodes:=by
 unfold lk
 split
 ·rfl
 ·split
  ·rfl
  ·split <;> rfl
theorem lk_r (s:St) (a:Nat):(lk s a).r = s.r∨∃ k g,(lk s a).r = mrg s.r k g:=by
 unfold lk
 split
 ·exact .inl rfl
 ·split
  ·exact .inl rfl
  ·split
   ·exact .inl rfl
   ·exact .inr ⟨_,_,rfl⟩
theorem lk_same {s:St} {a x y:Nat} (h:s.r x = s.r y):(lk s a).r x = (lk s a).r y:=by
 rcases lk_r s a with e | ⟨k,g,e⟩
 ·rw [e]; exact h
 ·rw [e]; unfold mrg; rw [h]
theorem s0_settle {prs:List (Nat × Nat)} {s:St} {ws:List Nat} {n:Nat} (S:S0 prs s) (I:I2 s noOne) (hw:s.waiting = ws ++ [n]) :
  n < s.n∧S0 prs { s with waiting:=ws }∧S0 prs (lk { s with waiting:=ws } n)∧I2 (lk { s with waiting:=ws } n) noOne∧mu (lk { s with waiting:=ws } n) < mu s:=by
 have hn:n < s.n:=S.wt n (by rw [hw]; simp)
 have hlen:s.waiting.length = ws.length + 1:=by rw [hw]; simp
 have hmu:=S.mu
 have S1:S0 prs { s with waiting:=ws }:=⟨S.n7,S.wfn,S.wf,S.kn,S.i3,S.abm,S.abl,fun x hx=>S.wt x (by rw [hw]; exact List.mem_append.mpr (.inl hx)),S.snd,S.ne,by show s.known.length + (ws.length + 2100 * cls s.n s.r)≤20000; exact z353 hlen hmu⟩
 obtain I1:I2 { s with waiting:=ws } (· = n):=fun m hm=>by
  rcases I m hm with h | h | h
  ·rw [hw,List.mem_append,List.mem_singleton] at h
   rcases h with h | h
   ·exact .inl h
   ·exact .inr (.inl h)
  ·exact h.elim
  ·exact .inr (.inr h)
 obtain ⟨S2,J,hm⟩:=S1.lk I1 hn (by show s.known.length + 1 + (ws.length + 2100 * cls s.n s.r)≤20000; exact z354 hlen hmu)
 refine ⟨hn,S1,S2,J,?_⟩
 obtain e:(lk { s with waiting:=ws } n).n = s.n:=by show List.length _ = _; rw [lk_nodes]
 unfold mu
 rw [e]
 obtain hm:_≤ws.length + 2100 * cls s.n s.r:=hm
 have hm':(lk { s with waiting:=ws } n).waiting.length + 2100 * cls s.n (lk { s with waiting:=ws } n).r≤ws.length + 2100 * cls s.n s.r:=hm
 exact z355 hlen hm'
theorem Cong.more {nodes:List Node} {prs qrs:List (Nat × Nat)} (h:∀ p ∈ prs,p ∈ qrs) {x y:Nat} (c:Cong nodes prs x y):Cong nodes qrs x y:=by
 induction c with
 | refl x=>exact .refl x
 | symm _ ih=>exact .symm ih
 | trans _ _ i1 i2=>exact .trans i1 i2
 | pair hp=>exact .pair (h _ hp)
 | like h1 h2 h3 h4 _ ih=>exact .like h1 h2 h3 h4 ih
theorem S0.more {prs qrs:List (Nat × Nat)} {s:St} (S:S0 prs s) (h:∀ p ∈ prs,p ∈ qrs):S0 qrs s :=
 ⟨S.n7,S.wfn,S.wf,S.kn,S.i3,S.abm,S.abl,S.wt,fun x hx=>(S.snd x hx).more h,S.ne,S.mu⟩
def mg (s:St) (a b:Nat):St:=if s.r a = s.r b then { s with ne:=s.ne + 1 } else jn s (min (s.r a) (s.r b)) (max (s.r a) (s.r b))
theorem mg_nodes (s:St) (a b:Nat):(mg s a b).nodes = s.nodes:=by unfold mg; split <;> rfl
theorem mg_same {s:St} {a b x y:Nat} (h:s.r x = s.r y):(mg s a b).r x = (mg s a b).r y:=by
 unfold mg
 split
 ·exact h
 ·show mrg s.r _ _ x = mrg s.r _ _ y
  unfold mrg; rw [h]
theorem mg_one {s:St} {a b:Nat}:(mg s a b).r a = (mg s a b).r b:=by
 unfold mg
 split
 ·assumption
 ·show mrg s.r _ _ a = mrg s.r _ _ b
  unfold mrg
  rename_i q
  rcases Nat.lt_or_gt_of_ne q with q4 | q4
  ·rw [Nat.max_eq_right (Nat.le_of_lt q4),Nat.min_eq_left (Nat.le_of_lt q4),if_neg (z349 q),if_pos rfl]
  ·rw [Nat.max_eq_left (Nat.le_of_lt q4),Nat.min_eq_right (Nat.le_of_lt q4),if_pos rfl,if_neg (z350 q4)]
theorem s0_mg {prs:List (Nat × Nat)} {s:St} {a b:Nat} (S:S0 prs s) (I:I2 s noOne) (ha:a < s.n) (hb:b < s.n) (hp:(a,b) ∈ prs) (hne:s.ne + cls s.n s.r≤19) :
  S0 prs (mg s a b)∧I2 (mg s a b) noOne∧(mg s a b).ne + cls s.n (mg s a b).r≤s.ne + cls s.n s.r + 1:=by
 unfold Mine.mg
 by_cases q:s.r a = s.r b
 ·rw [if_pos q]
  exact ⟨⟨S.n7,S.wfn,S.wf,S.kn,S.i3,S.abm,S.abl,S.wt,S.snd,by exact z356 hne,S.mu⟩,I,by show s.ne + 1 + cls s.n s.r≤_; exact z295⟩
 ·rw [if_neg q]
  refine lG ?_; intro G
  obtain l1:=S.wf.lt ha
  obtain l2:=S.wf.lt hb
  obtain i1:=S.wf.idem a ha
  obtain i2:=S.wf.idem b hb
  obtain hlt:min (s.r a) (s.r b) < max (s.r a) (s.r b):=(z347 q)
  have rk:s.r (min (s.r a) (s.r b)) = min (s.r a) (s.r b):=by rcases Nat.le_total (s.r a) (s.r b) with q | q <;> simp [Nat.min_eq_left,Nat.min_eq_right,q,i1,i2]
  have rg:s.r (max (s.r a) (s.r b)) = max (s.r a) (s.r b):=by rcases Nat.le_total (s.r a) (s.r b) with q | q <;> simp [Nat.max_eq_left,Nat.max_eq_right,q,i1,i2]
  obtain hc:Cong s.nodes prs (min (s.r a) (s.r b)) (max (s.r a) (s.r b)):=by
   obtain c1:Cong s.nodes prs (s.r a) (s.r b):=((S.snd a ha).symm.trans (.pair hp)).trans (S.snd b hb)
   rcases Nat.le_total (s.r a) (s.r b) with q | q
   ·rw [Nat.max_eq_right q,Nat.min_eq_left q]; exact c1
   ·rw [Nat.max_eq_left q,Nat.min_eq_right q]; exact c1.symm
  obtain ⟨S',J,_⟩:=S.jn I hlt (z320 l1 l2) rk rg hc
  refine ⟨S',J,?_⟩
  obtain hcl:cls s.n (mrg s.r (min (s.r a) (s.r b)) (max (s.r a) (s.r b))) + 1 = cls s.n s.r:=cls_mrg hlt (z320 l1 l2) rk rg
  exact z357 hcl
structure S1 (s:St):Prop where
 r:∀ x,s.r x = x
 wfn:∀ (i:Nat) (nd:Node),s.nodes[i]? = some nd→∀ k ∈ nd.2,k < i
 kn:∀ p ∈ s.known,p.2 < s.n∧p.1 = s.nd p.2
 kf:∀ m,m < s.n→s.known.lookup (s.nd m) = some m
 kl:s.known.length = s.n
 i3:∀ m,m < s.n→∀ k ∈ (s.nd m).2,m ∈ s.abv k
 abm:∀ i,∀ x ∈ s.abv i,x < s.n
 abl:∀ i,(s.abv i).length≤s.n
 wt:s.waiting = []
 ne:s.ne = 0
theorem S1.sig {s:St} (S:S1 s) (nd:Node):sig s.r nd = nd:=by
 unfold Mine.sig
 have:nd.2.map s.r = nd.2:=by
  have e:s.r = id:=funext S.r
  rw [e]; exact List.map_id _
 rw [this]
theorem cls_idf {n:Nat} {r:Nat→Nat} (h:∀ x,r x = x):cls n r = n:=by
 unfold cls
 have:∀ x ∈ List.range n,(r x == x) = true:=fun x _=>by rw [h]; exact beq_self_eq_true _
 rw [List.countP_eq_length.mpr this,List.length_range]
theorem S1.s0 {s:St} (S:S1 s) (h7:s.n≤7):S0 [] s∧I2 s noOne:=by
 obtain hc:=cls_idf (n:=s.n) S.r
 refine ⟨⟨h7,S.wfn,⟨fun x _=>by rw [S.r]; exact Nat.le_refl _,fun x _=>by rw [S.r (s.r x)]⟩,fun p hp=>?_,fun m hm k hk=>(by rw [S.r]; exact S.i3 m hm k hk),S.abm,fun i=>?_,fun x hx=>(by rw [S.wt] at hx; cases hx),fun x _=>(by rw [S.r]; exact .refl x),(by rw [S.ne,hc]; exact z358 h7),?_⟩,fun m hm=>.inr (.inr ⟨m,?_,rfl⟩)⟩
 ·obtain ⟨h1,h2⟩:=S.kn p hp
  exact ⟨h1,by rw [h2],by rw [h2]⟩
 ·have:=S.abl i
  obtain h2:1≤2 ^ (s.n - cls s.n s.r):=Nat.one_le_two_pow
  exact z359 h7 this h2
 ·rw [S.kl,S.wt,hc]; simp; exact z360 h7
 ·rw [S.sig]; exact S.kf m hm
theorem s1_add {s:St} {x:Str} {ks:List Nat} (S:S1 s) (hnew:(x,ks) ∉ s.nodes) (hks:∀ k ∈ ks,k < s.n) :
  S1 (lk (adp s (x,ks)) s.n)∧(lk (adp s (x,ks)) s.n).nodes = s.nodes ++ [(x,ks)]:=by
 obtain hget:(adp s (x,ks)).nodes[s.n]? = some (x,ks):=by show (s.nodes ++ [(x,ks)])[s.nodes.length]? = _; simp
 have hnone:s.known.lookup (x,ks) = none:=by
  cases q:s.known.lookup (x,ks) with
  | none=>rfl
  | some m =>
   obtain ⟨h1,h2⟩:=S.kn _ (mem_of_lk q)
   have h2':(x,ks) = s.nd m:=h2
   exact absurd (h2' ▸ List.mem_of_getElem? (St.nd_get h1)) hnew
 obtain hsig:Mine.sig (adp s (x,ks)).r (x,ks) = (x,ks):=S.sig (x,ks)
 obtain hlk:lk (adp s (x,ks)) s.n = { adp s (x,ks) with known:=s.known ++ [((x,ks),s.n)] }:=by
  unfold lk
  rw [hget]
  dsimp only
  rw [hsig]
  show (match s.known.lookup (x,ks) with | none=>_ | some m=>_) = _
  rw [hnone]
  rfl
 rw [hlk]
 have hn':(s.nodes ++ [(x,ks)]).length = s.n + 1:=by simp
 have ndold:∀ m,m < s.n→((s.nodes ++ [(x,ks)])[m]?).getD ("",[]) = s.nd m:=fun m hm=>by rw [List.getElem?_append_left hm]; rfl
 have ndnew:((s.nodes ++ [(x,ks)])[s.n]?).getD ("",[]) = (x,ks):=by simp
 refine ⟨⟨S.r,fun i nd hi k hk=>?_,fun p hp=>?_,fun m hm=>?_,?_,fun m hm k hk=>?_,fun i y hy=>?_,fun i=>?_,S.wt,S.ne⟩,rfl⟩
 ·have hi:(s.nodes ++ [(x,ks)])[i]? = some nd:=hi
  rcases Nat.lt_or_ge i s.n with h | h
  ·rw [List.getElem?_append_left h] at hi; exact S.wfn i nd hi k hk
  ·rw [List.getElem?_append_right h] at hi
   have:i - s.nodes.length = 0:=by
    have:=(List.getElem?_eq_some_iff.mp hi).1
    simpa using this
   rw [this] at hi; cases hi
   have:=hks k hk
   exact z361 h this
 ·show p.2 < (s.nodes ++ [(x,ks)]).length∧p.1 = ((s.nodes ++ [(x,ks)])[p.2]?).getD ("",[])
  rcases List.mem_append.mp (show p ∈ s.known ++ [((x,ks),s.n)] from hp) with hp | hp
  ·obtain ⟨h1,h2⟩:=S.kn p hp
   exact ⟨(z362 hn' h1),by rw [ndold _ h1]; exact h2⟩
  ·rw [List.mem_singleton] at hp; subst hp
   exact ⟨by exact z363 hn',ndnew.symm⟩
 ·obtain hm:m < (s.nodes ++ [(x,ks)]).length:=hm
  show (s.known ++ [((x,ks),s.n)]).lookup (((s.nodes ++ [(x,ks)])[m]?).getD ("",[])) = some m
  rcases Nat.lt_or_ge m s.n with h | h
  ·rw [ndold m h]; exact lookup_append_some (S.kf m h)
  ·have:m = s.n:=(z364 hn' hm h)
   subst this
   rw [ndnew]; exact lookup_append_none hnone
 ·show (s.known ++ [((x,ks),s.n)]).length = (s.nodes ++ [(x,ks)]).length
  rw [List.length_append,S.kl]; simp
 ·obtain hm:m < (s.nodes ++ [(x,ks)]).length:=hm
  obtain hk:k ∈ (((s.nodes ++ [(x,ks)])[m]?).getD ("",[])).2:=hk
  show m ∈ (if k = s.n then [] else if k ∈ ks then s.abv k ++ [s.n] else s.abv k)
  rcases Nat.lt_or_ge m s.n with h | h
  ·rw [ndold m h] at hk
   obtain hkm:k < m:=S.wfn m _ (St.nd_get h) k hk
   rw [if_neg (z365 h hkm)]
   have:=S.i3 m h k hk
   split
   ·exact List.mem_append.mpr (.inl this)
   ·exact this
  ·have:m = s.n:=(z364 hn' hm h)
   subst this
   rw [ndnew] at hk
   obtain hk:k ∈ ks:=hk
   have:=hks k hk
   rw [if_neg (z40 this),if_pos hk]
   simp
 ·obtain hy:y ∈ (if i = s.n then [] else if i ∈ ks then s.abv i ++ [s.n] else s.abv i):=hy
  show y < (s.nodes ++ [(x,ks)]).length
  split at hy
  ·cases hy
  ·split at hy
   ·rcases List.mem_append.mp hy with h | h
    ·have:=S.abm i y h; exact z362 hn' this
    ·rw [List.mem_singleton] at h; exact z366 hn' h
   ·have:=S.abm i y hy; exact z362 hn' this
 ·show (if i = s.n then [] else if i ∈ ks then s.abv i ++ [s.n] else s.abv i).length≤(s.nodes ++ [(x,ks)]).length
  have:=S.abl i
  split
  ·simp
  ·split
   ·rw [List.length_append]; simp; omega
   ·exact z367 hn' this
end Mine
end
section
set_option maxRecDepth 10000
namespace Mine
theorem cong_closed {nodes:List Node} {prs:List (Nat × Nat)} {f:Nat→Nat} (hp:∀ p ∈ prs,f p.1 = f p.2) (hl:∀ m n,m < nodes.length→n < nodes.length→(rowAt nodes m).1 = (rowAt nodes n).1→(rowAt nodes m).2.map f = (rowAt nodes n).2.map f→f m = f n) {x y:Nat} (c:Cong nodes prs x y):f x = f y:=by
 induction c with
 | refl x=>rfl
 | symm _ ih=>exact ih.symm
 | trans _ _ i1 i2=>exact i1.trans i2
 | pair h=>exact hp _ h
 | @like m n h1 h2 h3 h4 _ ih =>
  refine hl m n h1 h2 h3 (List.ext_getElem? fun i=>?_)
  rw [List.getElem?_map,List.getElem?_map]
  cases qa:(rowAt nodes m).2[i]? with
  | none =>
   have:(rowAt nodes n).2[i]? = none:=by
    rw [List.getElem?_eq_none_iff] at qa ⊢; exact z368 h4 qa
   rw [this]
  | some a =>
   cases qb:(rowAt nodes n).2[i]? with
   | none =>
    have:=(List.getElem?_eq_some_iff.mp qa).1
    rw [List.getElem?_eq_none_iff] at qb; omega
   | some b=>show some (f a) = some (f b); rw [ih i a b qa qb]
theorem settled_like {s:St} (I:I2 s noOne) (hw:s.waiting = []) {m n:Nat} (hm:m < s.n) (hn:n < s.n) (e:sig s.r (s.nd m) = sig s.r (s.nd n)):s.r m = s.r n:=by
 have known:∀ x,x < s.n→∃ m',s.known.lookup (sig s.r (s.nd x)) = some m'∧s.r m' = s.r x:=fun x hx=>by
  refine lG ?_; intro G
  rcases I x hx with h | h | h
  ·rw [hw] at h; cases h
  ·exact h.elim
  ·exact h
 obtain ⟨a,h1,h2⟩:=known m hm
 obtain ⟨b,h3,h4⟩:=known n hn
 rw [e,h3] at h1; cases h1
 rw [← h2,h4]
theorem same_homes {prs:List (Nat × Nat)} {s:St} {hs:List Nat} (S:S0 prs s) (I:I2 s noOne) (hw:s.waiting = []) (hp:∀ p ∈ prs,s.r p.1 = s.r p.2) (H:HomesOk s.nodes prs hs) (hpH:∀ p ∈ prs,hk hs p.1 = hk hs p.2)
  (hlH:∀ m n,m < n→n < s.nodes.length→LikeH s.nodes hs m n→hk hs m = hk hs n) {x:Nat} (hx:x < s.n):s.r x = hk hs x:=by
 have c1:∀ {x y},Cong s.nodes prs x y→s.r x = s.r y:=cong_closed hp fun m n hm hn h1 h2=>settled_like I hw hm hn (by
  show (_,_) = (_,_)
  exact Prod.ext h1 h2)
 have c2:∀ {x y},Cong s.nodes prs x y→hk hs x = hk hs y:=cong_closed hpH fun m n hm hn h1 h2=>by
  rcases Nat.lt_trichotomy m n with h | h | h
  ·exact hlH m n h hn ⟨h1,h2⟩
  ·rw [h]
  ·exact (hlH n m h hm ⟨h1.symm,h2.symm⟩).symm
 have a1:=c1 (H.snd x hx)
 have a2:=c2 (S.snd x hx)
 have b1:=S.wf.le (hk hs x) (H.wf.lt hx)
 have b2:=H.wf.le (s.r x) (S.wf.lt hx)
 exact z369 a1 a2 b1 b2
section
variable {prs:List (Nat × Nat)} {s:St} {hs:List Nat}
theorem kids_map (S:S0 prs s) (hr:∀ x,x < s.n→s.r x = hk hs x) {m:Nat} (hm:m < s.n):(s.nd m).2.map (hk hs) = (s.nd m).2.map s.r :=
 List.map_congr_left fun k hk'=>(hr k (S.kid hm hk')).symm
theorem look_same (S:S0 prs s) (I:I2 s noOne) (hw:s.waiting = []) (hr:∀ x,x < s.n→s.r x = hk hs x) (op:Str) {cs:List Nat} (hcs:∀ c ∈ cs,s.r c = c):lookS s op cs = lookL s.nodes hs op cs:=by
 obtain hcm:cs.map s.r = cs:=by
  have:cs.map s.r = cs.map id:=List.map_congr_left fun c hc=>hcs c hc
  rw [this,List.map_id]
 unfold lookS lookL
 rw [hcm]
 cases q:(List.range s.nodes.length).find? (fits s.nodes hs op cs) with
 | some i =>
  obtain hi:i < s.n:=List.mem_range.mp (List.mem_of_find?_eq_some q)
  obtain hf:=List.find?_some q
  unfold fits at hf
  rw [Bool.and_eq_true,beq_iff_eq,decide_eq_true_eq] at hf
  obtain e2:(s.nd i).2.map s.r = cs:=by rw [← kids_map S hr hi]; exact hf.2
  obtain e1:sig s.r (s.nd i) = (op,cs):=Prod.ext hf.1 e2
  rcases I i hi with h | h | ⟨m',h1,h2⟩
  ·rw [hw] at h; cases h
  ·exact h.elim
  ·rw [e1] at h1
   rw [h1]
   show some (s.r m') = some (hk hs i)
   rw [h2,hr i hi]
 | none =>
  cases q2:s.known.lookup (op,cs) with
  | none=>rfl
  | some m =>
   obtain ⟨h1,h2,h3⟩:=S.kn _ (mem_of_lk q2)
   obtain h1:m < s.n:=h1
   obtain h3:cs.map s.r = (s.nd m).2.map s.r:=h3
   rw [hcm,← kids_map S hr h1] at h3
   have:=List.find?_eq_none.mp q m (List.mem_range.mpr h1)
   unfold fits at this
   rw [Bool.and_eq_true,beq_iff_eq,decide_eq_true_eq] at this
   exact absurd ⟨h2.symm,h3.symm⟩ this
theorem lookS_root (S:S0 prs s) {op:Str} {cs:List Nat} {c:Nat} (h:lookS s op cs = some c):c < s.n∧s.r c = c:=by
 unfold lookS at h
 cases q:s.known.lookup (op,cs.map s.r) with
 | none=>rw [q] at h; cases h
 | some m =>
  rw [q] at h
  cases h
  have h1:m < s.n:=(S.kn _ (mem_of_lk q)).1
  exact ⟨S.wf.lt h1,S.wf.idem m h1⟩
theorem clsT_root (S:S0 prs s) {T:Tree} {c:Nat} (h:clsT s T = some c):c < s.n∧s.r c = c:=by
 rw [clsT_eq] at h
 cases q:allSome (T.kids.map (clsT s)) with
 | none=>rw [q] at h; cases h
 | some cs=>rw [q] at h; exact lookS_root S h
theorem bind_same (S:S0 prs s) (I:I2 s noOne) (hw:s.waiting = []) (hr:∀ x,x < s.n→s.r x = hk hs x) (op:Str) {l l':List (Option Nat)} (e:l = l') (hl:∀ c,some c ∈ l→s.r c = c):(allSome l).bind (lookS s op) = (allSome l').bind (lookL s.nodes hs op):=by
 subst e
 cases q:allSome l with
 | none=>rfl
 | some cs=>exact look_same S I hw hr op fun c hc=>hl c (by rw [allSome_some q]; exact List.mem_map.mpr ⟨c,hc,rfl⟩)
theorem tree_same (S:S0 prs s) (I:I2 s noOne) (hw:s.waiting = []) (hr:∀ x,x < s.n→s.r x = hk hs x):∀ T,clsT s T = homeT s.nodes hs T
 | .lf o=>look_same S I hw hr o fun c hc=>by cases hc
 | .un o t=>bind_same S I hw hr o (by rw [tree_same S I hw hr t]) fun c hc=>by
   rw [List.mem_singleton] at hc
   exact (clsT_root S hc.symm).2
 | .bi o t u=>bind_same S I hw hr o (by rw [tree_same S I hw hr t,tree_same S I hw hr u]) fun c hc=>by
   simp only [List.mem_cons,List.not_mem_nil,or_false] at hc
   rcases hc with hc | hc
   ·exact (clsT_root S hc.symm).2
   ·exact (clsT_root S hc.symm).2
theorem term_class (S:S0 prs s) (I:I2 s noOne) (hw:s.waiting = []) (ar2:∀ nd ∈ s.nodes,nd.2.length≤2):∀ (f n:Nat),n < f→n < s.n→clsT s (treeF s.nodes f n) = some (s.r n):=by
 intro f
 induction f with
 | zero=>intro n h; omega
 | succ f ih =>
  intro n hf hn
  have hnd:=St.nd_get hn
  have look:∀ op ks,s.nd n = (op,ks)→lookS s op (ks.map s.r) = some (s.r n):=fun op ks e=>by
   obtain hks:∀ k ∈ ks,k < s.n:=fun k hk'=>S.kid hn (by rw [e]; exact hk')
   obtain hcm:(ks.map s.r).map s.r = ks.map s.r:=by rw [List.map_map]; exact List.map_congr_left fun k hk'=>S.wf.idem k (hks k hk')
   rcases I n hn with h | h | ⟨m',h1,h2⟩
   ·rw [hw] at h; cases h
   ·exact h.elim
   ·unfold lookS
    rw [hcm]
    rw [e] at h1
    obtain h1:s.known.lookup (op,ks.map s.r) = some m':=h1
    rw [h1]
    show some (s.r m') = _
    rw [h2]
  unfold treeF
  rw [hnd]
  obtain har:=ar2 _ (List.mem_of_getElem? hnd)
  obtain hkid:=S.wfn n _ hnd
  rcases q:s.nd n with ⟨op,ks⟩
  rw [q] at har hkid
  match ks,q,har,hkid with
  | [],q,_,_=>exact look op [] q
  | [a],q,_,hkid =>
   obtain ha:=hkid a (by simp)
   show (allSome [clsT s (treeF s.nodes f a)]).bind (lookS s op) = _
   rw [ih a (z269 hf ha) (z323 hn ha)]
   exact look op [a] q
  | [a,b],q,_,hkid =>
   obtain ha:=hkid a (by simp)
   obtain hb:=hkid b (by simp)
   show (allSome [clsT s (treeF s.nodes f a),clsT s (treeF s.nodes f b)]).bind (lookS s op) = _
   rw [ih a (z269 hf ha) (z323 hn ha),ih b (z269 hf hb) (z323 hn hb)]
   exact look op [a,b] q
  | a :: b :: c :: r,_,har,_=>simp at har
theorem below_same (S:S0 prs s) (hr:∀ x,x < s.n→s.r x = hk hs x) {c x:Nat} (hc:c < s.n):Below s c x ↔ ∃ m,m < s.n∧hk hs m = hk hs c∧∃ k,k ∈ (s.nd m).2∧x = hk hs k:=by
 constructor
 ·rintro ⟨m,hm,e,k,hk',rfl⟩
  exact ⟨m,hm,by rw [← hr m hm,← hr c hc,e],k,hk',hr k (S.kid hm hk')⟩
 ·rintro ⟨m,hm,e,k,hk',rfl⟩
  exact ⟨m,hm,by rw [hr m hm,hr c hc,e],k,hk',(hr k (S.kid hm hk')).symm⟩
end
end Mine
end
section
set_option maxRecDepth 10000
namespace Mine
def emptyD:Obj:=⟨.type "dict",none,.dict #[],#[]⟩
theorem newDict_any {M:Model} {A:Around} {Q:Value→Shared→Prop} {E:Value→Shared→Prop} {s:Shared} (h:Q (.ref s.heap.objs.size) { s with heap:=s.heap.push emptyD }):wpAny M A newDict Q E s:=wpAny_newObj_type h (Nat.zero_le _)
section
variable {P:Par} {A:Around} {env:Env} {W:List Addr} {α β:Type} {σ:Store} {m:Vars} {ξ:Type}
def compEmitD (kx vx:PySem.Expr) (D:Addr) (env:Env):Sem Unit:=do
 let kv ← eval kx env
 let vv ← holding [kv] (eval vx env)
 standAt { kx.pos with endLine:=vx.pos.endLine,endCol:=vx.pos.endCol }
 holding [kv,vv] (dictSet D kv vv)
theorem compTurn_dict' {kx vx:PySem.Expr} {scope:Scope} {pos:Pos} {it:Value} {D:Addr} {env:Env} {target iter:PySem.Expr} {ifs:List PySem.Expr} {M:Model} {Q:PySem.Fin→Shared→Prop} {E:Value→Shared→Prop} {s:Shared}
  (h:wpAny M A (pyNext it) (fun r s₁=>match r with
   | none=>Q (.done .next) s₁
   | some v=>wpAny M A (letOwnedTupleGo target it v) (fun _ s₂=>wpAny M A (assign target env v) (fun _ s₃=>wpAny M A (compTests ifs env) (fun ok s₄ =>
     (ok = true→wpAny M A (compEmitD kx vx D env) (fun _ s₅=>Q (.again (.compLoop (.DictComp kx vx [⟨target,iter,ifs,0⟩] scope pos) 0 it (.ref D) env)) s₅) E s₄) ∧
     (ok = false→Q (.again (.compLoop (.DictComp kx vx [⟨target,iter,ifs,0⟩] scope pos) 0 it (.ref D) env)) s₄)) E s₃) E s₂) E s₁) E s) :
  wpAny M A (compTurn (.DictComp kx vx [⟨target,iter,ifs,0⟩] scope pos) 0 it (.ref D) env) Q E s:=by
 rw [compTurn_dict]
 refine wpAny_bind (wpAny_standAt (wpAny_bind (wpAny_mono h (fun r s₁ h₁=>?_) fun _ _ x=>x)))
 cases r with
 | none=>exact wpAny_pure h₁
 | some v =>
  refine wpAny_bind (wpAny_mono h₁ (fun _ s₂ h₂=>wpAny_bind (wpAny_mono h₂ (fun _ s₃ h₃=>wpAny_bind (wpAny_mono h₃ (fun ok s₄ h₄=>?_) fun _ _ x=>x)) fun _ _ x=>x)) fun _ _ x=>x)
  cases ok with
  | false=>exact wpAny_pure (h₄.2 rfl)
  | true =>
   obtain hq:=wpAny_bind (f:=fun _=>again (.compLoop (.DictComp kx vx [⟨target,iter,ifs,0⟩] scope pos) 0 it (.ref D) env)) (wpAny_mono (h₄.1 rfl) (fun _ _ q=>wpAny_pure q) fun _ _ x=>x)
   rw [if_pos rfl]
   exact hq
theorem compLoopD {W₀:List Addr} {kx vx:PySem.Expr} {scope:Scope} {pos:Pos} {target iter:PySem.Expr} {ifs:List PySem.Expr} {D:Addr} {I:Addr} {fp wr:List Addr} {n:Nat} {Pi Md:Nat→Value→Heap→Prop} {St:Nat→Heap→Prop}
  {K:Store→Vars→Prop} {σ₀:Store} {s₀ s:Shared} {R:Result→Shared→Prop}
  (KT:KTurns P.prog P.w A target I fp wr n Pi Md St) (hal:∀ i h,St i h→∀ b ∈ wr,∃ o,h.get? b = some o) (fix:Addr→Obj)
  (J:Nat→Store→Vars→Prop) (hfix:∀ i σ m,J i σ m→∀ b ∈ fp,b ∉ wr→σ b = some (fix b))
  (h0:J 0 σ m) (hst:St 0 s.heap) (its:Its P env W wr σ s₀ s) (F:Fm P env W σ s.heap m) (T:Tr P W₀ σ₀ s₀ σ s)
  (turn:∀ i v σ m s,i < n→J i σ m→Pi i v s.heap→Good P σ s→Fm P env W σ s.heap m→wpAny P.M A (assign target env v) (Post P env W σ s (fun _ σ m=>WP P A env W (compTests ifs env) σ m (fun ok σ m =>
   (ok = true→WP P A env W (compEmitD kx vx D env) σ m (fun _ σ m=>J (i + 1) σ m))∧(ok = false→J (i + 1) σ m)))) (fun _ _=>False) s)
  (fin:∀ σ m,J n σ m→K σ m)
  (hR:∀ σ' m' s',K σ' m'→Fm P env W σ' s'.heap m'→Tr P W₀ σ₀ s₀ σ' s'→R (.ok .next) s') (hW₀:∀ a ∈ W,a ∈ W₀:=by exact fun _ h=>h):codeAny P.M A (.compLoop (.DictComp kx vx [⟨target,iter,ifs,0⟩] scope pos) 0 (.ref I) (.ref D) env) R s:=by
 refine codeAny_loop rfl
  (fun k s'=>(X3 fun i σ' m'=>N7 (k = n - i) (i≤n) (J i σ' m') (St i s'.heap) (Its P env W wr σ' s₀ s') (Fm P env W σ' s'.heap m') (Tr P W₀ σ₀ s₀ σ' s'))) ?_ n ⟨0,σ,m,rfl,Nat.zero_le _,h0,hst,its,F,T⟩
 rintro k s' ⟨i,σ',m',rfl,hi,hJ,hst',its',F',T'⟩
 show wpAny _ A ((compTurn (.DictComp kx vx [⟨target,iter,ifs,0⟩] scope pos) 0 (.ref I) (.ref D) env).onRaise (fun x=>do noteFrame x env; theTreesLotGoes x)) _ _ s'
 refine wpAny_noted (compTurn_dict' ?_)
 by_cases hlt:i < n
 ·refine KT.item i s' _ _ hlt hst' fun v h₁ tk₁ hMd hk₁=>?_
  refine KT.go i v _ _ _ hMd fun h₂ hP hst₂ hk₂=>?_
  obtain ⟨F₂,T₂⟩:=its'.step T' F' (fun b o hb e=>hk₂ b o hb (hk₁ b o hb e)) tk₁
  have its₂:Its P env W wr σ' s₀ { s' with heap:=h₂,toks:=tk₁ }:=⟨its'.un,its'.new,its'.g,its'.off,fun b hb=>hal _ _ hst₂ b hb⟩
  refine wpAny_mono (turn i v σ' m' _ hlt hJ hP T₂.good F₂) (fun _ s₃ ⟨σ₃,m₃,q,F₃,T₃⟩=>?_) fun _ _ f=>f.elim
  have again:∀ {σ₄ m₄ s₄},J (i + 1) σ₄ m₄→Fm P env W σ₄ s₄.heap m₄→Tr P W σ' { s' with heap:=h₂,toks:=tk₁ } σ₄ s₄→∃ k,k < n - i∧(X3 fun i σ' m'=>N7 (k = n - i) (i≤n) (J i σ' m') (St i s₄.heap) (Its P env W wr σ' s₀ s₄) (Fm P env W σ' s₄.heap m') (Tr P W₀ σ₀ s₀ σ' s₄)):=fun {σ₄ m₄ s₄} hJ' F₄ T₂₄ =>
   ⟨n - (i + 1),(z370 hlt),i + 1,σ₄,m₄,rfl,hlt,hJ',KT.frame _ _ _ hst₂ (fun b hb o e=>by
    refine lG ?_; intro G
    by_cases hw:b ∈ wr
    ·exact T₂₄.keep b o (its₂.un b hw) (its₂.off b hw).1 e
    ·have e1:=T₂.good.has _ _ (hfix i σ' m' hJ b hb hw)
     rw [e] at e1
     refine lG ?_; intro G
     cases e1
     exact T₂₄.good.has _ _ (hfix (i + 1) σ₄ m₄ hJ' b hb hw)),its₂.body T₂₄,F₄,T₂.trans (T₂₄.wider hW₀)⟩
  refine wpAny_mono (q s₃ T₃.good F₃) (fun ok s₄ ⟨σ₄,m₄,q,F₄,T₄⟩=>⟨fun hok=>?_,fun hok=>⟨rfl,again (q.2 hok) F₄ (T₃.trans T₄)⟩⟩) fun _ _ f=>f.elim
  exact wpAny_mono (q.1 hok s₄ T₄.good F₄) (fun _ s₅ ⟨σ₅,m₅,q,F₅,T₅⟩=>⟨rfl,again q F₅ ((T₃.trans T₄).trans T₅)⟩) fun _ _ f=>f.elim
 ·have:i = n:=(z371 hi hlt)
  subst this
  refine KT.done s' _ _ hst' fun h₁ tk₁ hk₁=>?_
  refine lG ?_; intro G
  obtain ⟨F₁,T₁⟩:=its'.step T' F' hk₁ tk₁
  exact hR _ _ _ (fin _ _ hJ) F₁ T₁
theorem compStart_anyD {kx vx:PySem.Expr} {scope:Scope} {pos:Pos} {target iter:PySem.Expr} {ifs:List PySem.Expr} {acc it:Value} {R:Result→Shared→Prop} {s:Shared}
  (hself:∀ (Q:Value→Shared→Prop) (E:Value→Shared→Prop),Q it s→wpAny P.M A (pyIter it) Q E s)
  (h:codeAny P.M A (.compLoop (.DictComp kx vx [⟨target,iter,ifs,0⟩] scope pos) 0 it acc env) R s):codeAny P.M A (.compStart (.DictComp kx vx [⟨target,iter,ifs,0⟩] scope pos) 0 it acc env) R s:=by
 refine codeAny_of_tree ?_
 show wpAny _ A ((compStart (.DictComp kx vx [⟨target,iter,ifs,0⟩] scope pos) 0 it acc env).onRaise (fun x=>do noteFrame x env; standAt theWindowsPlace)) _ _ s
 refine wpAny_notedAt ?_
 unfold compStart
 obtain e1:(((clausesOf (.DictComp kx vx [⟨target,iter,ifs,0⟩] scope pos))[0]?).elim false (·.is_async != 0)) = false:=rfl
 rw [e1,if_neg (by decide)]
 obtain e2:(clausesOf (.DictComp kx vx [⟨target,iter,ifs,0⟩] scope pos))[0]? = some ⟨target,iter,ifs,0⟩:=rfl
 rw [e2]
 refine wpAny_bind (wpAny_askSetting (wpAny_ite ?_))
 split
 ·exact wpAny_bind (wpAny_pure (wpAny_pure (And.intro rfl h)))
 ·exact wpAny_bind (wpAny_rule (wpAny_bind (wpAny_standAt (wpAny_bind (hself _ _ (wpAny_pure (And.intro rfl h)))))))
end
end Mine
end
section
set_option maxRecDepth 10000
namespace Mine
theorem newCompEnv_cells {M:Model} {A:Around} {E:Value→Shared→Prop} {s:Shared} {scope:Scope} {globals builtins:Addr} {closure:List (Str × Addr)} {qual:Str} {func:Option Addr} {code:Value} {outer:Env} {Q:Env→Shared→Prop}
  (h:Q (newEnv scope s.heap.objs.size globals (cellsFrom (s.heap.objs.size + 1) scope.names closure) qual func code (some outer) builtins) { s with heap:=pushCells (s.heap.push { cls:=.type "dict",data:=.dict #[] }) scope.names }) :
  wpAny M A (newFunctionEnv scope globals closure [] qual func code (some outer) builtins) Q E s:=by
 simp only [newFunctionEnv,Option.isSome_some,if_true]
 refine wpAny_bind (wpAny_alloc ?_)
 refine wpAny_bind (wpAny_layCells _ (fun name kind cells=>by cases hkc:kind == NameKind.cell <;> simp) _ _ _ _ ?_)
 rw [show ({ s with heap:=s.heap.push { cls:=.type "dict",data:=.dict #[] } }:Shared).heap.objs.size = s.heap.objs.size + 1 from Heap.size_push ..]
 refine wpAny_bind ?_
 rw [List.forIn_nil]
 exact wpAny_pure (wpAny_pure h)
structure CompOk1 (env:Env) (scope:Scope) (cl:List (Str × Addr)) (cn:Str):Prop where
 clos:closureFor scope env = pure cl
 kind:scope.kind = .function
 names:(scope.names.all fun y=>y.2 != .local || scope.names.lookup y.1 == some .local) = true
 apart:(scope.names.all fun y=>y.2 != .local || (cl.lookup y.1).isNone) = true
 own:cl.lookup cn = none
 cells:∀ b,cellsFrom b scope.names cl = (cn,b) :: cl
 push:∀ h,pushCells h scope.names = h.push { cls:=.type "cell",data:=.cell none }
section
variable {P:Par} {A:Around} {env:Env} {W:List Addr} {α β:Type} {σ:Store} {m:Vars}
theorem comp_frame1 {scope:Scope} {cl:List (Str × Addr)} {cn:Str} {C B:Addr} {h':Heap} {s:Shared} (ok:CompOk1 env scope cl cn) (G:Good P σ s) (F:Fm P env W σ s.heap m) (hC:s.heap.get? C = none) (hB:s.heap.get? B = none) (hne:B≠C) {σ':Store} (hσ:∀ a,σ a = none→s.heap.get? a≠none→σ' a = none) (hσC:σ' C = none) (hσB:σ' B = none)
  (hn:h'.Ns C (fun _=>none)) (hb:h'.IsCell B none) (k:∀ b o,s.heap.get? b = some o→h'.get? b = some o):Fm P (compEnvC scope ((cn,B) :: cl) C env) [C,B] σ' h' (compVars cl m):=by
 have hcl:=closure_cells ok.clos
 have hin:∀ x a,cl.lookup x = some a→env.cells.lookup x = some a:=fun x a e=>hcl (x,a) (mem_of_lookup e)
 have old:∀ x a,cl.lookup x = some a→a≠B∧a≠C:=fun x a e=>by
  obtain ⟨o,e',_⟩:=F.cell x a (hin x a e)
  exact ⟨fun q=>(by rw [q,hB] at e'; cases e'),fun q=>(by rw [q,hC] at e'; cases e')⟩
 have look:∀ x a,((cn,B) :: cl).lookup x = some a→(x = cn∧a = B)∨(x≠cn∧cl.lookup x = some a):=fun x a e=>by
  rw [List.lookup_cons] at e
  cases q:(x == cn) with
  | true=>rw [q] at e; cases e; exact .inl ⟨beq_iff_eq.mp q,rfl⟩
  | false=>rw [q] at e; exact .inr ⟨beq_eq_false_iff_ne.mp q,e⟩
 refine ⟨⟨_,hn,fun x hx=>?_⟩,fun x a e=>?_,fun a ha=>?_,fun x e=>?_,fun x y a e e'=>?_,fun a ha=>?_⟩
 ·obtain hx':(x,NameKind.local) ∈ scope.names:=by
   have:(scope.names.map fun (y:Str × NameKind)=>if (y.2 == NameKind.free && (env.scope.kind == .function && env.kindOf y.1 == some .cell)) = true then (y.1,NameKind.cell) else (y.1,y.2)).lookup x = some .local:=by
    obtain e:(compEnvC scope ((cn,B) :: cl) C env).kindOf x = (scope.names.map fun (n,k)=>if (k == NameKind.free && env.scope.kind == .function && env.kindOf n == some .cell) = true then (n,NameKind.cell) else (n,k)).lookup x:=rfl
    rw [e] at hx
    simpa only [Bool.and_assoc] using hx
   exact relabel_local (f:=fun z=>env.scope.kind == .function && env.kindOf z == some .cell) this
  have:=List.all_eq_true.mp ok.apart _ hx'
  obtain h2:(cl.lookup x).isNone = true:=by simpa using this
  show none = if (cl.lookup x).isSome = true then m x else none
  rw [if_neg]
  rw [Option.isNone_iff_eq_none] at h2
  rw [h2]; decide
 ·show h'.IsCell a (if (cl.lookup x).isSome = true then m x else none)
  rcases look x a e with ⟨rfl,rfl⟩ | ⟨_,e⟩
  ·rw [ok.own]; exact hb
  ·rw [e]
   exact (F.cell x a (hin x a e)).keeps k
 ·rcases ha with rfl | ⟨x,e⟩
  ·exact ⟨hσC,gnone G hC⟩
  ·rcases look x a e with ⟨rfl,rfl⟩ | ⟨_,e⟩
   ·exact ⟨hσB,gnone G hB⟩
   ·obtain u:=F.un a (.inr ⟨x,hin x a e⟩)
    obtain ⟨o,e',_⟩:=F.cell x a (hin x a e)
    exact ⟨hσ a u.1 (ne_none e'),u.2⟩
 ·rcases look x _ e with ⟨_,q⟩ | ⟨_,e⟩
  ·exact hne q.symm
  ·exact (old x _ e).2 rfl
 ·rcases look x a e with ⟨q1,q2⟩ | ⟨_,e1⟩
  ·rcases look y a e' with ⟨q3,_⟩ | ⟨_,e2⟩
   ·rw [q1,q3]
   ·exact absurd q2 (old y _ e2).1
  ·rcases look y a e' with ⟨_,q⟩ | ⟨_,e2⟩
   ·exact absurd q (old x _ e1).1
   ·exact F.inj x y a (hin x a e1) (hin y a e2)
 ·rcases List.mem_cons.mp ha with rfl | ha
  ·exact ⟨gnone G hC,hσC,let ⟨o,_,_,e,_⟩:=hn; ⟨o,e⟩⟩
  ·rw [List.mem_singleton] at ha; subst ha
   exact ⟨gnone G hB,hσB,let ⟨o,e,_⟩:=hb; ⟨o,e⟩⟩
def CompGoD1 (P:Par) (A:Around) (env:Env) (kx vx target iter:PySem.Expr) (ifs:List PySem.Expr) (scope:Scope) (pos:Pos) (cl:List (Str × Addr)) (cn:Str) (Fin:Addr→Store→Prop) (σ:Store) (x:Value) (σ₁:Store) (m:Vars):Prop :=
 (X5 fun (n:Nat) (Pi:Nat→Value→Heap→Prop) (fx ow:List (Addr × Obj)) (σ₂:Store)=>N5 (Sr P A target x n Pi fx ow) (Le σ₂ σ₁) ((∀ p ∈ ow,σ₁ p.1 = some p.2∧σ p.1 = none∧σ₂ p.1 = none)) ((∀ p ∈ fx,σ₂ p.1 = some p.2)) (∀ D C B,σ₁ D = none→(∃ J:Nat→Store→Vars→Prop,N4 (J 0 (σ₂.set D (emptyD)) (compVars cl m)) ((∀ i σ m,J i σ m→∀ p ∈ fx,σ p.1 = some p.2)) ((∀ i v σ m s,i < n→Pi i v s.heap→J i σ m→Good P σ s→Fm P (compEnvC scope ((cn,B) :: cl) C env) [C,B] σ s.heap m→wpAny P.M A (assign target (compEnvC scope ((cn,B) :: cl) C env) v) (Post P (compEnvC scope ((cn,B) :: cl) C env) [C,B] σ s (fun _ σ m=>Tests P A (compEnvC scope ((cn,B) :: cl) C env) [C,B] ifs σ m (fun ok σ m =>
   (ok = true→WP P A (compEnvC scope ((cn,B) :: cl) C env) [C,B] (compEmitD kx vx D (compEnvC scope ((cn,B) :: cl) C env)) σ m (fun _ σ m=>J (i + 1) σ m))∧(ok = false→J (i + 1) σ m)))) (fun _ _=>False) s)) (∀ σ m,J n σ m→Fin D σ))))
theorem compBlockD1 {kx vx target iter:PySem.Expr} {ifs:List PySem.Expr} {scope:Scope} {pos:Pos} {cl:List (Str × Addr)} {cn:Str} {Fin:Addr→Store→Prop} {x:Value} {s₀ s:Shared} {σ₁:Store} {E:Value→Shared→Prop} {RR:Value→Addr→Result→Shared→Prop}
  (ok:CompOk1 env scope cl cn) (G₀:Good P σ s₀) (F₀:Fm P env W σ s₀.heap m) (T₀:Tr P [] σ s₀ σ₁ s) (h:CompGoD1 P A env kx vx target iter ifs scope pos cl cn Fin σ x σ₁ m)
  (hRR:∀ D C σ' s',Fin D σ'→Tr P [] σ s₀ σ' s'→s₀.heap.get? C = none→σ' C = none→P.g.get? C = none→(∃ mm,s'.heap.Ns C mm)→RR (.ref D) C (.ok .next) s') :
  wpAny P.M A (pyIter x) (fun it s₂=>wpAny P.M A (newDict) (fun acc s₃=>wpAny P.M A (newFunctionEnv scope env.globals cl [] env.qual none .none (some env)) (fun cenv s₄ =>
   codeAny P.M A (.compStart (.DictComp kx vx [⟨target,iter,ifs,0⟩] scope pos) 0 it acc { cenv with scope:=relabel scope env }) (RR acc cenv.locals) s₄) E s₃) E s₂) E s:=by
 have G:=T₀.good
 have F:=F₀.tr T₀
 obtain ⟨n,Pi,fx,ow,σ₂,src,hle,how,hfx,h⟩:=h
 refine src s _ _ (fun p hp=>?_) fun h₀ I wr Md St hk hnew KT hal hself hst hbig=>?_
 ·rcases List.mem_append.mp hp with hp | hp
  ·exact G.has _ _ (hle _ _ (hfx p hp))
  ·exact G.has _ _ (how p hp).1
 refine newDict_any ?_
 refine newCompEnv_cells ?_
 rw [ok.push,ok.cells]
 dsimp only
 have hlow:h₀.objs.size≠sysModules:=big_of fun a o e=>hk _ _ (G.base a o e)
 generalize hD:h₀.objs.size = D at *
 revert D; refine keep ?_; intro D; set_option tactic.hygienic false in intros
 have hC:((h₀.push emptyD)).objs.size = D + 1:=by rw [Heap.size_push,hD]
 have hB:((h₀.push emptyD).push { cls:=.type "dict",data:=.dict #[] }).objs.size = D + 2:=by rw [Heap.size_push,hC]
 rw [hC]
 have nD₀:h₀.get? D = none:=none_of (by rw [hD]; exact Nat.le_refl _)
 have nC₀:h₀.get? (D + 1) = none:=none_of (by rw [hD]; exact Nat.le_succ _)
 have back:∀ a,h₀.get? a = none→s.heap.get? a = none:=fun a e=>by
  cases q:s.heap.get? a with
  | none=>rfl
  | some o=>rw [hk a o q] at e; exact ns e
 obtain nD:=back _ nD₀
 obtain nC:=back _ nC₀
 have hne:D + 1≠D:=neN z28
 have nB₀:h₀.get? (D + 2) = none:=none_of (by rw [hD]; exact Nat.le_add_right _ 2)
 have nB:=back _ nB₀
 have hneB:D + 2≠D:=neN z372
 have hneC:D + 2≠D + 1:=neN z373
 have hns:(((h₀.push emptyD).push { cls:=.type "dict",data:=.dict #[] }).push { cls:=.type "cell",data:=.cell none }).Ns (D + 1) (fun _=>none):=by
  have:=Heap.Ns.new (h₀.push emptyD) (.type "dict")
  rw [hC] at this
  exact this.keeps fun b o e=>Heap.get?_push_of_some _ e
 have hbc:(((h₀.push emptyD).push { cls:=.type "dict",data:=.dict #[] }).push { cls:=.type "cell",data:=.cell none }).IsCell (D + 2) none:=by
  have:=Heap.get?_push_size ((h₀.push emptyD).push { cls:=.type "dict",data:=.dict #[] }) (o:={ cls:=.type "cell",data:=.cell none }) rfl
  rw [hB] at this
  exact ⟨_,this,rfl⟩
 have old₀:∀ b o',h₀.get? b = some o'→(((h₀.push emptyD).push { cls:=.type "dict",data:=.dict #[] }).push { cls:=.type "cell",data:=.cell none }).get? b = some o':=fun b o' e =>
  Heap.get?_push_of_some _ (Heap.get?_push_of_some _ (Heap.get?_push_of_some _ e))
 have acc₁:(((h₀.push emptyD).push { cls:=.type "dict",data:=.dict #[] }).push { cls:=.type "cell",data:=.cell none }).get? D = some emptyD:=Heap.get?_push_of_some _ (Heap.get?_push_of_some _ (by
  have:=Heap.get?_push_size h₀ (o:=emptyD) rfl
  rwa [hD] at this))
 show codeAny _ _ _ _ { s with heap:=(((h₀.push emptyD).push { cls:=.type "dict",data:=.dict #[] }).push { cls:=.type "cell",data:=.cell none }) }
 generalize (((h₀.push emptyD).push { cls:=.type "dict",data:=.dict #[] }).push { cls:=.type "cell",data:=.cell none }) = h₁ at *
 have old:∀ b o',s.heap.get? b = some o'→h₁.get? b = some o':=fun b o' e=>old₀ b o' (hk b o' e)
 obtain ⟨J,h0,hfix,turn,fin⟩:=h D (D + 1) (D + 2) (σnone G nD)
 obtain σD:σ₂ D = none:=none_less hle (σnone G nD)
 obtain σC:σ₂ (D + 1) = none:=none_less hle (σnone G nC)
 obtain σB:σ₂ (D + 2) = none:=none_less hle (σnone G nB)
 obtain G₂:Good P σ₂ s:=G.less hle
 have T₁:Tr P [] σ s₀ (σ₂.set D (emptyD)) { s with heap:=h₁ }:=(T₀.less hle).trans (Tr.grown G₂ old nD acc₁ _ hlow)
 have σ₁C:(σ₂.set D (emptyD)) (D + 1) = none:=by rw [Store.set_ne hne]; exact σC
 obtain σ₁B:(σ₂.set D (emptyD)) (D + 2) = none:=by rw [Store.set_ne hneB]; exact σB
 obtain F₁:Fm P (compEnvC scope ((cn,D + 2) :: cl) (D + 1) env) [D + 1,D + 2] (σ₂.set D (emptyD)) h₁ (compVars cl m) :=
  comp_frame1 ok G₂ (F.less fun a e=>none_less hle e) nC nB hneC (fun a ha hne'=>by
   rw [Store.set_ne]
   ·exact ha
   ·rintro rfl; exact hne' nD) σ₁C σ₁B hns hbc old
 have its:Its P (compEnvC scope ((cn,D + 2) :: cl) (D + 1) env) [D + 1,D + 2] wr (σ₂.set D (emptyD)) s₀ { s with heap:=h₁ }:=by
  have I:=its_src (h':=h₀) F₀ (T₀.wider (by simp)) hle how hnew (hal 0 h₀ hst)
  have alive:∀ b ∈ wr,b≠D∧b≠D + 1∧b≠D + 2:=fun b hb=>by
   obtain ⟨o,e⟩:=hal 0 h₀ hst b hb
   exact And.intro (fun q=>by rw [q,nD₀] at e; exact nn e) (And.intro (fun q=>by rw [q,nC₀] at e; cases e) (fun q=>by rw [q,nB₀] at e; cases e))
  refine ⟨fun b hb=>?_,I.new,I.g,fun b hb=>⟨fun h=>?_,fun h=>?_,fun x h=>?_⟩,fun b hb=>?_⟩
  ·rw [Store.set_ne (alive b hb).1]; exact I.un b hb
  ·rcases List.mem_cons.mp h with h | h
   ·exact (alive b hb).2.1 h
   ·exact (alive b hb).2.2 (List.mem_singleton.mp h)
  ·exact (alive b hb).2.1 h
  ·have h:((cn,D + 2) :: cl).lookup x = some b:=h
   rw [List.lookup_cons] at h
   refine lG ?_; intro G
   cases q:(x == cn) with
   | true=>rw [q] at h; cases h; exact (alive _ hb).2.2 rfl
   | false=>rw [q] at h; exact (I.off b hb).2.2 x (closure_cells ok.clos (x,b) (mem_of_lookup h))
  ·refine lG ?_; intro G
   obtain ⟨o,e⟩:=hal 0 h₀ hst b hb; exact ⟨o,old₀ _ _ e⟩
 have hst₁:St 0 h₁:=KT.frame _ _ _ hst fun b hb o' e=>old₀ _ _ e
 refine compStart_anyD (fun Q E q=>hself _ Q E hst₁ q) ?_
 refine compLoopD (env:=compEnvC scope ((cn,D + 2) :: cl) (D + 1) env) (W:=[D + 1,D + 2]) (K:=fun σ _=>Fin D σ) (s₀:=s₀) (σ₀:=σ) KT hal (fixOf fx) J
  (fun i σ m hJ b hb hw=>by
   rcases List.mem_append.mp hb with hb | hb
   ·exact absurd hb hw
   ·exact fixOf_mem (hfix i σ m hJ) b hb)
  h0 hst₁ its F₁ (T₁.wider (W':=[D + 1,D + 2]) (by simp))
  (fun i v σ m s hi hJ hv G F=>wpAny_mono (turn i v σ m s hi hv hJ G F) (fun _ s' ⟨σ',m',q,F',T'⟩=>⟨σ',m',xTests q,F',T'⟩) fun _ _ f=>f) fin ?_
 intro σ' m' s' q F' T'
 refine hRR _ (D + 1) σ' s' q ((Tr.refl G₀).close T' fun a ha=>.inr (by
  rcases List.mem_cons.mp ha with rfl | ha
  ·exact T₀.alive _ nC
  ·rw [List.mem_singleton] at ha; subst ha; exact T₀.alive _ nB)) (T₀.alive _ nC) (F'.un _ (.inl rfl)).1 (gnone G nC) ?_
 obtain ⟨mm,hn,_⟩:=F'.ns
 exact ⟨mm,hn⟩
theorem xAssignDictCompG1 {kx vx target iter:PySem.Expr} {ifs:List PySem.Expr} {scope:Scope} {pos spos py:Pos} {y:Str} {Q:Flow→Store→Vars→Prop} {cl:List (Str × Addr)} {cn:Str} (ok:CompOk1 env scope cl cn)
  (h:WP P A env [] (eval iter env) σ m (fun x σ₁ _=>CompGoD1 P A env kx vx target iter ifs scope pos cl cn (fun D σ'=>WP P A env W (storeName env y (.ref D)) σ' m (fun _ σ m=>Q .next σ m)) σ x σ₁ m))
  (hsw:swapsWith (.DictComp kx vx [⟨target,iter,ifs,0⟩] scope pos) (some (.Name y py)) spos.line env = pure true:=by rfl)
  (hs:∀ x,foldedSetIterable iter env x = pure x:=by intro _; rfl):WP P A env W (exec (.Assign [.Name y py] (.DictComp kx vx [⟨target,iter,ifs,0⟩] scope pos) spos) env) σ m Q:=fun s G F=>by
 rw [exec_Assign_Name_used _ _ _ _ hsw]
 refine wpAny_bind (wpAny_standAt (wpAny_bind ?_))
 refine wpAny_bind (wpAny_mono (wpAny_comprehension_free (use:=some (assign (.Name y py) env)) (Q:=fun _ s'=>Post P env W σ s Q .next s') rfl hs ok.clos ok.kind (namesOk ok.names)
  (wpAny_mono (h s G (F.wide (by simp))) (fun x s₁ ⟨σ₁,m₁,q,F₁,T₁⟩=>?_) fun _ _ f=>f)) (fun _ s' hq=>wpAny_pure (wpAny_pure hq)) fun _ _ e=>e)
 refine compBlockD1 ok G F T₁ q fun D C σ' s' hF T hC hσC hg hn=>?_
 refine lG ?_; intro G
 obtain ⟨mm,hn⟩:=hn
 refine wpAny_mono (xAsName hF s' T.good (F.tr T)) (fun _ s'' ⟨σ'',m'',q,F'',T''⟩=>?_) fun _ _ f=>f
 have hCW:C ∉ W:=fun hm=>by obtain ⟨_,_,o,e⟩:=F.wr C hm; rw [hC] at e; exact nn e
 have hn':s''.heap.Ns C mm:=ns_of_get hn fun o e=>T''.keep _ _ hσC hCW e
 refine ⟨mm,hn',fun h' hs'=>?_⟩
 obtain TT:Tr P W σ s σ'' s'':=(T.wider (by simp)).trans T''
 refine lG ?_; intro G
 obtain ⟨o,_,_,eo,_⟩:=hn
 obtain T₃:=TT.tail hs' hC (T''.gone hσC eo) hg
 refine ⟨σ'',m'',q,?_,T₃⟩
 obtain hCL:env.locals≠C:=fun q=>by obtain ⟨_,⟨o,_,_,e,_⟩,_⟩:=F.ns; rw [q,hC] at e; exact nn e
 refine lG ?_; intro G
 obtain ⟨mm',hns,hmm⟩:=F''.ns
 refine ⟨⟨mm',hns.sameBut hs' hCL,hmm⟩,fun x a hc=>(F''.cell x a hc).sameBut hs' fun q=>?_,F''.un,F''.apart,F''.inj,fun a ha=>?_⟩
 ·refine lG ?_; intro G
  obtain ⟨o,e,_⟩:=F.cell x a hc; rw [q,hC] at e; exact nn e
 ·refine lG ?_; intro G
  obtain ⟨h1,h2,o,e⟩:=F''.wr a ha
  exact ⟨h1,h2,o,(hs'.2 a fun q=>hCW (q ▸ ha)).trans e⟩
end
end Mine
end
section
set_option maxRecDepth 10000
namespace Mine
section
variable {P:Par} {A:Around} {env:Env} {W:List Addr} {α β:Type} {σ σ':Store} {m:Vars} {ξ:Type}
theorem oDictSet {d:Addr} {l:NKV} {k:Nat} {t:Tok} {v:Value} {Q:Unit→Store→Prop} (D:DN P σ d l) (hz:l.length≤1000000) (h:∀ o,DN P (σ.set d o) d (dput l k v)→Q () (σ.set d o)):Op P A (dictSet d (.int (k:Int) t) v) σ Q:=fun s G=>by
 refine wpAny_dictSet_pairs (intKind_is _ _ _ _) (D.heap G) (fun h' hd hs=>?_) (by rw [castL_length,sizeLine_eq]; exact z11 hz)
 rw [stored_cast] at hd
 obtain ⟨o₀,e₀,_⟩:=D
 obtain ⟨o,e,hd⟩:=Heap.dictOf_iff.mp hd
 exact ⟨_,h o ⟨o,Store.set_same ..,hd⟩,Tr.upd G e₀ hs e _⟩
theorem xEmitD {kx vx:PySem.Expr} {D:Addr} {Q:Unit→Store→Vars→Prop}
  (h:WP P A env W (eval kx env) σ m (fun kv σ m=>WP P A env W (eval vx env) σ m (fun vv σ m=>(X3 fun k t l=>N4 (kv = .int (k:Nat) t) (DN P σ D l) (l.length≤1000000) (∀ o,DN P (σ.set D o) D (dput l k vv)→Q () (σ.set D o) m))))):WP P A env W (compEmitD kx vx D env) σ m Q:=by
 refine xBind (h.mono fun kv σ m q=>xBind (xHolding (q.mono fun vv σ m q2=>xBind (xStandAt ?_))))
 obtain ⟨k,t,l,rfl,D,hz,hQ⟩:=q2
 exact xHolding (xOp (oDictSet D hz hQ))
theorem dn_emptyD {a:Addr}:DN P (σ.set a emptyD) a []:=⟨emptyD,Store.set_same ..,dn_new⟩
theorem compGoD1_n {vx:PySem.Expr} {x:Str} {px pk:Pos} {iter:PySem.Expr} {scope:Scope} {pos:Pos} {cl:List (Str × Addr)} {Fin:Addr→Store→Prop} {xv:Value} {σ₁:Store}
  (xs:List Nat) (fx:List (Addr × Obj)) (R:Nat→Value→Store→Prop) (S:SrX P A xv xs (fun n v=>∃ t,v = .int (n:Nat) t) fx) (hfx:∀ p ∈ fx,σ₁ p.1 = some p.2∧p.2.cls≠.type "dict") (hz:xs.length≤1000)
  (hR:∀ n v σ σ',R n v σ→(∀ a o,o.cls≠.type "dict"→σ a = some o→σ' a = some o)→R n v σ')
  (hl:∀ C B,(compEnvC scope ((x,B) :: cl) C env).kindOf x = some .cell) (hk:scope.kind = .function)
  (turn:∀ C B y t σ' m',y ∈ xs→Le σ₁ σ'→(∀ z,z≠x→m' z = compVars cl m z)→m' x = some (.int (y:Nat) t) →
   WP P A (compEnvC scope ((x,B) :: cl) C env) [C,B] (eval vx (compEnvC scope ((x,B) :: cl) C env)) σ' m' (fun w σ'' m''=>Le σ' σ''∧m'' = m'∧R y w σ''))
  (fin:∀ D l σ',Le σ₁ σ'→σ₁ D = none→DN P σ' D l→(∀ n ∈ xs,∃ v,l.lookup n = some v∧R n v σ')→Fin D σ')
  (hd:(x == ("__debug__":Str)) = false:=by decide) :
  CompGoD1 P A env (.Name x pk) vx (.Name x px) iter [] scope pos cl x Fin σ xv σ₁ m:=by
 refine ⟨xs.length,_,fx,[],σ₁,S _,Le.refl _,fun p hp=>(by cases hp),fun p hp=>(hfx p hp).1,fun D C B hD=>⟨fun i σ' m'=>(∃ l,N5 (DN P σ' D l) (Le σ₁ σ') (l.length≤i) ((∀ n ∈ xs.take i,∃ v,l.lookup n = some v∧R n v σ')) ((∀ z,z≠x→m' z = compVars cl m z))),?_,?_,?_,?_⟩⟩
 ·exact ⟨[],dn_emptyD,Le.new hD,Nat.zero_le _,fun n hn=>(by simp at hn),fun _ _=>rfl⟩
 ·rintro i σ m ⟨_,_,h,_⟩ p hp
  exact h _ _ (hfx p hp).1
 ·rintro i v σ' m' s hi ⟨y,hy,t,rfl⟩ ⟨l,Dn,hle,hll,hall,hm⟩ G F
  have lk:((x,B) :: cl).lookup x = some B:=by rw [List.lookup_cons,beq_self_eq_true]
  have hlook:((compEnvC scope ((x,B) :: cl) C env).cells.lookup x).isSome = true:=by show (((x,B) :: cl).lookup x).isSome = true; rw [lk]; rfl
  refine (xAsName (xStoreCell (hl C B) hlook (fun c hc=>?_) ?_ hk)) s G F
  ·have:some B = some c:=lk.symm.trans hc
   cases this; exact .tail _ (.head _)
  refine ⟨fun _=>?_,fun hf=>by cases hf⟩
  refine lq ?_; intro K
  refine xEmitD (xName (xLoadCell (hl C B) hlook (show (m'.set x (.int (y:Nat) t)) x = some (.int (y:Nat) t) from if_pos rfl) ?_ hk) hd)
  refine (turn C B y t σ' _ (List.mem_of_getElem? hy) hle (fun z hz'=>by show (if z = x then _ else _) = _; rw [if_neg hz']; exact hm z hz') (if_pos rfl)).mono ?_
  rintro w σ'' _ ⟨hle2,rfl,hRw⟩
  have hi':i < xs.length:=(List.getElem?_eq_some_iff.mp hy).1
  refine ⟨y,t,l,rfl,Dn.keep fun o _ e=>hle2 _ _ e,(z374 hz hi hll),fun o D2=>?_⟩
  have hDd:∃ o₀,σ'' D = some o₀∧o₀.cls = .type "dict":=by
   obtain ⟨o₀,e₀,hd₀⟩:=Dn
   exact ⟨o₀,hle2 _ _ e₀,let ⟨_,_,y,_⟩:=hd₀; y.1⟩
  have keep:∀ a o',o'.cls≠.type "dict"→σ'' a = some o'→(σ''.set D o) a = some o':=fun a o' hne e=>by
   rw [Store.set_ne]
   ·exact e
   ·rintro rfl
    obtain ⟨o₀,e₀,hc⟩:=hDd
    rw [e] at e₀; cases e₀; exact hne hc
  refine ⟨dput l y w,D2,fun a o' e=>?_,by have:=length_dput l y w; exact z375 hll this,fun n hn=>?_,fun z hz'=>by show (if z = x then _ else _) = _; rw [if_neg hz']; exact hm z hz'⟩
  ·rw [Store.set_ne]
   ·exact hle2 _ _ (hle _ _ e)
   ·rintro rfl; rw [hD] at e; exact nn e
  ·rw [lookup_dput]
   by_cases q:n = y
   ·rw [if_pos q]; exact ⟨w,rfl,q ▸ hR _ _ _ _ hRw keep⟩
   ·rw [if_neg q]
    rw [List.take_add_one,hy] at hn
    refine lG ?_; intro G
    rcases List.mem_append.mp hn with hn | hn
    ·refine lG ?_; intro G
     obtain ⟨v,h1,h2⟩:=hall n hn
     exact ⟨v,h1,hR _ _ _ _ h2 fun a o' hne e=>keep a o' hne (hle2 _ _ e)⟩
    ·simp only [Option.toList_some,List.mem_singleton] at hn
     exact absurd hn q
 ·rintro σ' m' ⟨l,Dn,hle,_,hall,_⟩
  rw [List.take_length] at hall
  exact fin D l σ' hle hD Dn hall
end
end Mine
end
section
set_option maxRecDepth 10000
namespace Mine
section
variable {P:Par} {A:Around} {env:Env} {W:List Addr} {α β:Type} {σ σ':Store} {m:Vars} {ξ:Type}
theorem compGo_enum {elt iter iter2:PySem.Expr} {x y x2:Str} {px py px2:Pos} {tk:Nat} {tp:Pos} {ifs:List PySem.Expr} {scope:Scope} {pos:Pos} {cl:List (Str × Addr)} {Fin:Addr→Store→Prop} {σ₁:Store}
  {e it l:Addr} {vs:List Value} {k₀:Nat} {oe oi:Obj} (xs:List ξ) (E:ξ→Value→Prop) (p:Nat→Bool) (f:ξ→List Nat) (g:Nat→Nat) (hh:A.handled = none)
  (hei:e≠it) (hle:l≠e) (hli:l≠it) (he:∀ h:Heap,h.get? e = some oe→∃ old,IsEnum h e it ((0:Nat):Int) old) (hi:∀ h:Heap,h.get? it = some oi→h.IsListIter it l 0)
  (hL:Le σ σ₁) (ee:σ₁ e = some oe) (eit:σ₁ it = some oi) (ne:σ e = none) (nit:σ it = none) (el:σ l = some (lst vs k₀)) (h2:All2 E xs vs) (hz:xs.length≤100) (hf:∀ z ∈ xs,(f z).length≤100)
  (hl:∀ C,(compEnvC scope cl C env).kindOf x = some .local) (hc:cl.lookup x = none) (hly:∀ C,(compEnvC scope cl C env).kindOf y = some .local) (hcy:cl.lookup y = none) (hl2:∀ C,(compEnvC scope cl C env).kindOf x2 = some .local) (hc2:cl.lookup x2 = none) (hk:scope.kind = .function) (hxy:x≠y)
  (tests:∀ C i z v t σ' m',xs[i]? = some z→E z v→Le σ σ'→(∀ z,z≠x→z≠y→z≠x2→m' z = compVars cl m z)→m' x = some (.int (i:Nat) t)→m' y = some v→Tests P A (compEnvC scope cl C env) [C] ifs σ' m' (fun ok σ'' m''=>ok = p i∧σ'' = σ'∧m'' = m'))
  (inner:∀ C i z v t σ' m',xs[i]? = some z→E z v→Le σ σ'→(∀ z,z≠x→z≠y→z≠x2→m' z = compVars cl m z)→m' x = some (.int (i:Nat) t)→m' y = some v→WP P A (compEnvC scope cl C env) [C] (eval iter2 (compEnvC scope cl C env)) σ' m' (fun v σ'' m''=>m'' = m'∧Le σ' σ''∧(X2 fun a vs=>N3 (v = .ref a) (σ'' a = some (tup vs 0)) (Ns vs (f z)))))
  (hel:∀ C z w t σ' m',z ∈ xs→w ∈ f z→Le σ σ'→(∀ z,z≠x→z≠y→z≠x2→m' z = compVars cl m z)→m' x2 = some (.int (w:Nat) t)→WP P A (compEnvC scope cl C env) [C] (eval elt (compEnvC scope cl C env)) σ' m' (fun r σ'' m''=>σ'' = σ'∧m'' = m'∧∃ t,r = .int (g w:Nat) t))
  (fin:∀ D ws k σ' ns,Le σ σ'→σ D = none→σ' D = some (lst ws k)→Ns ws ns→(∀ w,w ∈ ns ↔ ∃ i z,xs[i]? = some z∧p i = true∧w ∈ (f z).map g)→ns.length≤100 * xs.length→Fin D σ')
  (hs:∀ C x,foldedSetIterable iter2 (compEnvC scope cl C env) x = pure x:=by intro _ _; rfl) :
  CompGo P A env elt (.Tuple [.Name x px,.Name y py] tk tp) ifs [⟨.Tuple [.Name x px,.Name y py] tk tp,iter,ifs,0⟩,⟨.Name x2 px2,iter2,[],0⟩] scope pos cl Fin σ (.ref e) σ₁ m:=by
 refine ⟨vs.length,_,[(l,lst vs k₀)],[(e,oe),(it,oi)],σ,sr_enum hh hei hle hli he hi,hL,fun q hq=>?_,fun q hq=>?_,fun D C hD=>⟨fun i σ' m'=>(X3 fun ws k ns=>N6 (σ' D = some (lst ws k)) (Le σ σ') (Ns ws ns) ((∀ w,w ∈ ns ↔ ∃ j z,j < i∧xs[j]? = some z∧p j = true∧w ∈ (f z).map g)) (ns.length≤100 * i) ((∀ z,z≠x→z≠y→z≠x2→m' z = compVars cl m z))),?_,?_,?_,?_⟩⟩
 ·rcases List.mem_cons.mp hq with rfl | hq
  ·exact ⟨ee,ne,ne⟩
  ·rw [List.mem_singleton] at hq; subst hq; exact ⟨eit,nit,nit⟩
 ·rw [List.mem_singleton] at hq; subst hq; exact el
 ·exact ⟨[],0,[],Store.set_same ..,Le.new (none_less hL hD),Ns.nil,fun w=>⟨fun h=>(by cases h),fun ⟨j,_,h,_⟩=>(Nat.not_lt_zero _ h).elim⟩,Nat.zero_le _,fun _ _ _ _=>rfl⟩
 ·rintro i σ m ⟨_,_,_,_,h,_⟩ q hq
  rw [List.mem_singleton] at hq; subst hq; exact h _ _ el
 ·rintro i v σ' m' s hi' ⟨T,t,w,rfl,hw,hT⟩ ⟨ws,k,ns,eD,hle',hN,hmem,hlen,hm⟩ G F
  obtain ⟨z,hz',hE⟩:=h2.get' hw
  obtain hzm:=List.mem_of_getElem? hz'
  obtain hxl:xs.length = vs.length:=h2.length
  obtain hDn:σ D = none:=none_less hL hD
  refine asgPair hh hT G F (xStore (hl C) hc (by exact .head _) (xStore (hly C) hcy (by exact .head _) ?_ hk) hk)
  obtain hm1:∀ z',z'≠x→z'≠y→z'≠x2→((m'.set x (.int (i:Nat) t)).set y w) z' = compVars cl m z':=fun z' a b c=>by
   show (if z' = y then _ else if z' = x then _ else _) = _; rw [if_neg b,if_neg a]; exact hm z' a b c
  obtain hmx:((m'.set x (.int (i:Nat) t)).set y w) x = some (.int (i:Nat) t):=by
   show (if x = y then _ else if x = x then _ else _) = _; rw [if_neg hxy,if_pos rfl]
  obtain hmy:((m'.set x (.int (i:Nat) t)).set y w) y = some w:=if_pos rfl
  change Tests _ _ _ _ _ _ ((m'.set x (.int (i:Nat) t)).set y w) _
  generalize ((m'.set x (.int (i:Nat) t)).set y w) = m₂ at *
  refine (tests C i z w t σ' m₂ hz' hE hle' hm1 hmx hmy).mono ?_
  rintro ok _ _ ⟨rfl,rfl,rfl⟩
  refine ⟨fun hp=>?_,fun hp=>?_⟩
  ·refine (xInnerNs (f z) g hh rfl rfl eD (by rw [hN.length]; have:=hf z hzm; exact z376 hz hi' hlen hxl this) (hl2 C) hc2 (by exact .head _) hk (inner C i z w t _ _ hz' hE hle' hm1 hmx hmy) (fun u t σ'' m'' hu hkeep hm'' hmx2=>?_) (hs C)).mono ?_
   ·exact hel C z u t σ'' m'' hzm hu (fun a o ea=>hkeep a o (fun q=>by subst q; rw [hDn] at ea; exact nn ea) (hle' a o ea)) (fun z' a b c=>(hm'' z' c).trans (hm1 z' a b c)) hmx2
   ·rintro _ σ'' m'' ⟨ws',k',e',hN',hkeep,hm''⟩
    refine ⟨ws ++ ws',k',ns ++ (f z).map g,e',fun a o ea=>hkeep a o (fun q=>by subst q; rw [hDn] at ea; exact nn ea) (hle' a o ea),hN.append hN',fun u=>?_,?_,fun z' a b c=>(hm'' z' c).trans (hm1 z' a b c)⟩
    ·rw [List.mem_append,hmem]
     constructor
     ·rintro (⟨j,z',a,b⟩ | h)
      ·exact ⟨j,z',(z225 a),b⟩
      ·exact ⟨i,z,z86,hz',hp,h⟩
     ·rintro ⟨j,z',a,b,c,d⟩
      refine lG ?_; intro G
      rcases Nat.lt_succ_iff_lt_or_eq.mp a with a | rfl
      ·exact .inl ⟨j,z',a,b,c,d⟩
      ·rw [hz'] at b; cases b; exact .inr d
    ·rw [List.length_append,List.length_map]; have:=hf z hzm; exact z241 hlen this
  ·refine ⟨ws,k,ns,eD,hle',hN,fun u=>?_,(z377 hlen),hm1⟩
   rw [hmem]
   constructor
   ·rintro ⟨j,z',a,b⟩; exact ⟨j,z',(z225 a),b⟩
   ·rintro ⟨j,z',a,b,c,d⟩
    refine lG ?_; intro G
    rcases Nat.lt_succ_iff_lt_or_eq.mp a with a | rfl
    ·exact ⟨j,z',a,b,c,d⟩
    ·rw [hp] at c; cases c
 ·rintro σ' m' ⟨ws,k,ns,eD,hle',hN,hmem,hlen,_⟩
  obtain hxl:xs.length = vs.length:=h2.length
  refine fin D ws k σ' ns hle' (none_less hL hD) eD hN (fun w=>?_) (z378 hlen hxl)
  rw [hmem]
  constructor
  ·rintro ⟨j,z,_,b,c⟩; exact ⟨j,z,b,c⟩
  ·rintro ⟨j,z,b,c⟩; exact ⟨j,z,by have:=(List.getElem?_eq_some_iff.mp b).1; exact z379 hxl this,b,c⟩
end
end Mine
end
section
set_option maxRecDepth 10000
namespace Mine
section
variable {P:Par} {A:Around} {env:Env} {W:List Addr} {α β:Type} {σ σ':Store} {m:Vars} {ξ:Type}
theorem xForGrow {x:Str} {px:Pos} {iter:PySem.Expr} {body:List Stmt} {pos:Pos} {Q:Flow→Store→Vars→Prop} (hh:A.handled = none)
  (h:WP P A env W (eval iter env) σ m (fun v σ₁ m₁=>(X4 fun (l:Addr) (N:Nat) (vs:List Value) (J:Nat→List Value→Store→Vars→Prop)=>N5 (v = .ref l) (J 0 vs σ₁ m₁) ((∀ i vs σ m,J i vs σ m→vs.length≤N∧∃ k,σ l = some (lst vs k))) ((∀ i vs v σ m,vs[i]? = some v→J i vs σ m→WP P A env W (storeName env x v) σ m (fun _ σ m=>WP P A env W (execs body env) σ m (Turn (fun σ m=>∃ vs',J (i + 1) vs' σ m) Q)))) (∀ i vs σ m,vs.length≤i→J i vs σ m→Q .next σ m))))
  (hs:∀ x,foldedSetIterable iter env x = pure x:=by intro _; rfl):WP P A env W (exec (.For (.Name x px) iter body [] pos) env) σ m Q:=fun s G F=>by
 refine wpAny_For (wpAny_mono (h s G F) (fun v s₁ ⟨σ₁,m₁,q,F₁,T₁⟩=>?_) fun _ _ f=>f) hs
 obtain ⟨l,N,vs₀,J,rfl,h0,hfix,turn,fin⟩:=q
 obtain G₁:=T₁.good
 obtain ⟨_,k₀,el₀⟩:=hfix _ _ _ _ h0
 refine wpAny_pyIter_list (isList_of (G₁.has _ _ el₀)) ?_
 obtain its₀:=its_new (o:={ cls:=.type "list_iterator",data:=.fields #[.ref l,.int 0 0] }) rfl G₁ F₁
 obtain nI:s₁.heap.get? s₁.heap.objs.size = none:=none_of (Nat.le_refl _)
 obtain eI:=Heap.get?_push_size s₁.heap (o:={ cls:=.type "list_iterator",data:=.fields #[.ref l,.int 0 0] }) rfl
 obtain F₂:=F₁.kept (h':=s₁.heap.push { cls:=.type "list_iterator",data:=.fields #[.ref l,.int 0 0] }) fun _ _ e=>Heap.get?_push_of_some _ e
 obtain T₂:Tr P W σ₁ s₁ σ₁ { s₁ with heap:=s₁.heap.push { cls:=.type "list_iterator",data:=.fields #[.ref l,.int 0 0] } }:=Tr.push0 G₁ _
 generalize s₁.heap.objs.size = I at *
 obtain hit₀:(s₁.heap.push { cls:=.type "list_iterator",data:=.fields #[.ref l,.int 0 0] }).IsListIter I l 0:=⟨_,eI,rfl,rfl⟩
 generalize (s₁.heap.push { cls:=.type "list_iterator",data:=.fields #[.ref l,.int 0 0] }) = hp₀ at *
 refine codeAny_forLoop_any (fun k s'=>(X4 fun i vs σ' m'=>N6 (k = N + 1 - i) (J i vs σ' m') (s'.heap.IsListIter I l i) (Its P env W [I] σ' s₁ s') (Fm P env W σ' s'.heap m') (Tr P W σ₁ s₁ σ' s'))) ?_ (N + 1) ⟨0,vs₀,σ₁,m₁,rfl,h0,hit₀,its₀,F₂,T₂⟩
 rintro k s' ⟨i,vs,σ',m',rfl,hJ,hit,its',F',T'⟩
 obtain ⟨hN,k',el⟩:=hfix _ _ _ _ hJ
 obtain hL:=isList_of (T'.good.has _ _ el)
 by_cases hlt:i < vs.length
 ·refine wpAny_pyNext_list_item (x:=vs[i]) hit hL (by simp [List.getElem?_eq_getElem hlt]) fun h₁ hit₁ hsb=>?_
  obtain ⟨F₃,T₃⟩:=its'.step (h':=h₁) T' F' (fun b o hb e=>hsb.extBut b o (fun q=>hb (by rw [q]; exact .head _)) e) s'.toks
  obtain its₃:Its P env W [I] σ' s₁ { s' with heap:=h₁,toks:=s'.toks }:=⟨its'.un,its'.new,its'.g,its'.off,fun b hb=>by rw [List.mem_singleton] at hb; subst hb; obtain ⟨o,e,_⟩:=hit₁; exact ⟨o,e⟩⟩
  refine wpAny_pure ?_
  refine wpAny_mono ((xAsName (turn i vs vs[i] σ' m' (List.getElem?_eq_getElem hlt) hJ)) _ T₃.good F₃) (fun _ s₃ ⟨σ₃,m₃,q,F₄,T₄⟩=>?_) fun _ _ f=>f.elim
  refine wpAny_mono (q s₃ T₄.good F₄) (fun f s₄ ⟨σ₄,m₄,q,F₅,T₅⟩=>?_) fun _ _ f=>f.elim
  obtain T₂₄:=T₄.trans T₅
  obtain again:(∃ vs',J (i + 1) vs' σ₄ m₄)→∃ k,k < N + 1 - i∧(X4 fun i vs σ' m'=>N6 (k = N + 1 - i) (J i vs σ' m') (s₄.heap.IsListIter I l i) (Its P env W [I] σ' s₁ s₄) (Fm P env W σ' s₄.heap m') (Tr P W σ₁ s₁ σ' s₄)):=fun ⟨vs',hJ'⟩ =>
   ⟨N + 1 - (i + 1),(z380 hN hlt),i + 1,vs',σ₄,m₄,rfl,hJ',let ⟨o,e,r⟩:=hit₁; ⟨o,T₂₄.keep I o (its₃.un I (.head _)) (its₃.off I (.head _)).1 e,r⟩,its₃.body T₂₄,F₅,T₃.trans T₂₄⟩
  obtain TT:=T₁.trans (T₃.trans T₂₄)
  cases f with
  | next=>exact again q
  | cont=>exact again q
  | brk=>exact ⟨σ₄,m₄,q,F₅,TT⟩
  | ret v=>exact ⟨σ₄,m₄,q,F₅,TT⟩
 ·refine wpAny_pyNext_list_end hh hit hL (by simp; exact z82 hlt) fun h₁ hx=>wpAny_execs_nil ?_
  obtain ⟨F₃,T₃⟩:=its'.step (h':=h₁) T' F' (fun b o hb e=>hx b o (fun q=>hb (by rw [q]; exact .head _)) e) s'.toks
  exact ⟨σ',m',fin i vs σ' m' (z82 hlt) hJ,F₃,T₁.trans T₃⟩
end
end Mine
end
namespace Mine
section
variable {P:Par} {A:Around} {env:Env} {W:List Addr} {α β:Type} {σ σ':Store} {m:Vars}
theorem node_eqAt {s:Shared} {a b:Addr} {x y:Node} (hR:Rm A 2) (G:Good P σ s) (hx:NodeAt σ (.ref a) x) (hy:NodeAt σ (.ref b) y):PySem.SeqAt.EqAt A.in1 s (.ref a) (.ref b) (decide (x = y)) :=
 tupEqH (by have:=hR.units; exact z381 this) (hx.nodeH G) (hy.nodeH G)
open Classical in
theorem oNotInNode {a l:Addr} {vs:List Value} {k:Nat} {nds:List Node} {nd:Node} {Q:Value→Store→Prop} (hR:Rm A 4) (e:σ l = some (lst vs k)) (h2:All2 (fun nd v=>NodeAt σ v nd) nds vs) (N:NodeAt σ (.ref a) nd)
  (h:Q (.bool (decide (nd ∉ nds))) σ):Op P A (compareOp .NotIn (.ref a) (.ref l)) σ Q:=fun s G=>by
 refine PySem.SeqAt.notIn_listAt (fun y=>decide (NodeAt σ y nd)) (isList_of (G.has _ _ e)) (fun y hy=>?_) ⟨σ,?_,Tr.refl G⟩
 ·obtain hy':y ∈ vs:=by simpa using hy
  obtain ⟨i,hi⟩:=List.mem_iff_getElem?.mp hy'
  obtain ⟨nd',e',hN'⟩:=h2.get' hi
  obtain ⟨b,k',t',ws,rfl,eb,hb⟩:=id hN'
  have:=node_eqAt (hR.mono z382) G hN' N
  obtain e2:decide (NodeAt σ (.ref b) nd) = decide (nd' = nd):=by
   rw [decide_eq_decide]
   exact ⟨fun q=>hN'.inj q,fun q=>q ▸ hN'⟩
  rw [e2]; exact this
 ·obtain e3:(!vs.toArray.any fun y=>decide (NodeAt σ y nd)) = decide (nd ∉ nds):=by
   rw [Bool.eq_iff_iff]
   simp only [Bool.not_eq_true',decide_eq_true_eq]
   rw [← Array.any_toList,show vs.toArray.toList = vs from rfl,List.any_eq_false]
   simp only [decide_eq_true_eq]
   constructor
   ·intro hall hm
    obtain ⟨i,hi⟩:=List.mem_iff_getElem?.mp hm
    obtain ⟨v,hv,hNv⟩:=h2.get hi
    exact hall v (List.mem_of_getElem? hv) hNv
   ·intro hm v hv hNv
    obtain ⟨i,hi⟩:=List.mem_iff_getElem?.mp hv
    obtain ⟨nd',e',hN'⟩:=h2.get' hi
    exact hm (hNv.inj hN' ▸ List.mem_of_getElem? e')
  rw [e3]; exact h
theorem strKind_is' (prog:Program) (w:World) (x:Str) (t:Tok):(PySem.strKind prog w).is x (.str x t) = true:=mix_str prog w x t
theorem oStrNat {n:Nat} {t:Tok} {Q:Value→Store→Prop} (hn:n≤1000) (h:∀ (x:Str) t,x.length≤2000→Q (.str x t) σ):Op P A (call (.type "str") [.int (n:Nat) t]) σ Q:=fun s G=>by
 refine PySem.P.str_of_int ?_ ⟨σ,h _ _ (by have:=len_str_of_int (n:Int); omega),Tr.toks G _⟩
 have h1:(n:Int).natAbs = n:=Int.natAbs_natCast n
 rw [h1]
 by_cases h0:n = 0
 ·subst h0; decide
 ·have:n.log2 < 10:=(Nat.log2_lt h0).mpr (by omega)
  exact z383 this
theorem oAddStr {x y:Str} {t u:Tok} {Q:Value→Store→Prop} (hz:x.length + y.length≤100000) (h:∀ z t,Q (.str z t) σ):Op P A (binaryOp .Add (.str x t) (.str y u)) σ Q:=fun s G =>
 PyProof.Rows.add_str (fun t' tk=>⟨σ,h _ _,Tr.toks G _⟩) (by rw [sizeLine_eq]; exact z384 hz)
theorem xSliceHeadG {value hi:PySem.Expr} {p pos:Pos} {Q:Value→Store→Vars→Prop}
  (h:WP P A env W (eval value env) σ m (fun o σ m=>WP P A env W (eval hi env) σ m (fun u σ m=>(X4 fun l vs n t=>N5 (o = .ref l) (u = .int ((n:Nat):Int) t) (P.g.IsList l (List.toArray vs)) (vs.length≤1000000) (∀ a σ',(∀ b o,σ b = some o→σ' b = some o)→σ a = none→σ' a = some (lst (vs.take n) 0)→Q (.ref a) σ' m))))) :
  WP P A env W (eval (.Subscript value (.Slice none (some hi) none p) pos) env) σ m Q :=
 xSubscript (T:="list") list_getitem_lookup (h.mono fun o σ m q=>xSlice (by
  rw [evalPart_none,evalPart_some]
  refine xPure (q.mono fun u σ m q=>?_)
  obtain ⟨l,vs,n,t,rfl,rfl,e,hz,hQ⟩:=q
  intro a ha
  refine ⟨fun s G=>?_,xOp fun s G=>?_⟩
  ·obtain ⟨o,eo,ho⟩:=e
   exact ⟨o,G.base _ _ eo,ho.1⟩
  have el:s.heap.IsList l (List.toArray vs):=by
   obtain ⟨o,eo,ho⟩:=e
   exact ⟨o,G.base _ _ eo,ho⟩
  obtain es:=G.has a _ (Store.set_same ..)
  refine wpAny_getItem_list_slice (lo:=none) (hi:=some (n:Int)) (st:=none) el ⟨_,es,rfl,rfl⟩ .none (.int _ _) .none (by simp) ?_ (by rw [List.size_toArray,sizeLine_eq]; exact z11 hz)
  rw [slicePick_head]
  obtain T:=Tr.push G (lst (vs.take n) 0) rfl s.toks
  obtain hn:=σnone G (none_of (Nat.le_refl s.heap.objs.size))
  refine ⟨_,hQ s.heap.objs.size _ (fun b o q=>Store.set_new hn (Store.set_new ha q)) ?_ (Store.set_same ..),T⟩
  unfold Store.set at hn
  split at hn
  ·exact ns hn
  ·exact hn))
theorem xDict2 {x y:Str} {kx ky ki:Nat} {px py pi pos:Pos} {i:Int} {ve:PySem.Expr} {Q:Value→Store→Vars→Prop}
  (h:∀ d,σ d = none→∀ t,WP P A env W (eval ve env) (σ.set d emptyD) m (fun v σ₁ m₁=>σ₁ d = some emptyD∧∀ o,DS P (σ₁.set d o) d [(x,.int i t),(y,v)]→Q (.ref d) (σ₁.set d o) m₁)) (hxy:x≠y) :
  WP P A env W (eval (.Dict [some (.Constant (.str x) kx px),some (.Constant (.str y) ky py)] [.Constant (.int i) ki pi,ve] pos) env) σ m Q:=fun s G F=>by
 obtain T':=Tr.push G emptyD rfl s.toks
 obtain F':Fm P env W _ (s.heap.push emptyD) m:=F.tr T'
 obtain hn:σ s.heap.objs.size = none:=σnone G (none_of (Nat.le_refl _))
 refine wpAny_Dict_pairs (knd:=PySem.strKind P.prog P.w) (pairs:=[(eval (.Constant (.str x) kx px) env,do let v ← eval (.Constant (.int i) ki pi) env; standAt pos; pure v),(eval (.Constant (.str y) ky py) env,do let v ← eval ve env; standAt pos; pure v)]) rfl (by simp) (by simp) ?_
 refine evalPairs_cons (wpAny_Constant_str (wpAny_bind (wpAny_Constant_int (wpAny_bind (wpAny_standAt (wpAny_pure ?_))))))
 refine evalPairs_cons (wpAny_Constant_str (wpAny_bind ?_))
 obtain T2:=T'.trans (Tr.toks T'.good (s.toks + 1 + 1 + 1))
 obtain hw:=(h _ hn (s.toks + 1)).chain (E:=fun _ _=>False) (W:=W) (T2.wider (by simp)) F'
 refine wpAny_mono hw (fun v s₁ hq=>?_) fun _ _ f=>f.elim
 refine lG ?_; intro G
 obtain ⟨σ₁,m₁,⟨ed,q⟩,F₁,T₁⟩:=hq
 refine wpAny_bind (wpAny_standAt (wpAny_pure (evalPairs_nil ?_)))
 refine lG ?_; intro G
 obtain G₁:=T₁.good
 refine ⟨[(x,.int i (s.toks + 1)),(y,v)],⟨strKind_is' _ _ _ _,rfl,strKind_is' _ _ _ _,rfl,trivial⟩,⟨emptyD,#[],0,G₁.has _ _ ed,⟨rfl,rfl,rfl⟩,rfl,fun _ he=>by simp at he,Pairs.nil,List.nodup_nil⟩,fun h' hd hs=>?_⟩
 obtain em:merged [] [(x,.int i (s.toks + 1)),(y,v)] = [(x,.int i (s.toks + 1)),(y,v)]:=by
  unfold merged stored
  simp [hxy,stored]
 rw [em] at hd
 obtain ⟨o,e,hdo⟩:=Heap.dictOf_iff.mp hd
 obtain T:=Tr.upd G₁ ed hs e (s₁.toks + [(Value.str x s.toks,Value.int i (s.toks + 1)),(Value.str y (s.toks + 1 + 1),v)].length)
 exact ⟨_,m₁,q o ⟨o,Store.set_same ..,hdo⟩,F₁.tr T,T₁.trans (T.wider (by simp))⟩
end
section
variable {P:Par} {A:Around} {env:Env} {W:List Addr} {α β:Type} {σ σ':Store} {m:Vars} {X:HA} {ρ ρ':Addr→Nat}
theorem LeB.tup {d:Addr} {o₀:Obj} (L:LeB d σ σ') (e:σ d = some o₀) (hc:o₀.cls = .type "dict"):∀ a o,o.cls = .type "tuple"→σ a = some o→σ' a = some o:=fun a o ho ea =>
 L a o (fun q=>by subst q; rw [e] at ea; cases ea; exact dn_tup hc ho) ea
structure LW (P:Par) (X:HA) (ρ:Addr→Nat) (σ:Store) (m:Vars) (tp cl rl pl:Addr) (b:Nat) (s:St) (rws:List Node) (prs:List (Nat × Nat)):Prop where
 T:Tape P σ tp cl b
 I:HInv P X ρ σ s
 rw:RowsAt σ rl rws
 pr:PairsAt σ pl prs
 rt:ρ tp = 0
 rc:ρ cl = 0
 rr:ρ rl = 0
 rp:ρ pl = 0
 n1:rl≠pl
 n2:rl≠cl
 n3:pl≠cl
 mt:m "tape" = some (.ref tp)
 mh:m "heap" = some (.ref X.h)
 mr:m "rows" = some (.ref rl)
 mp:m "pairs" = some (.ref pl)
variable {tp cl rl pl:Addr} {b:Nat} {s:St} {rws:List Node} {prs:List (Nat × Nat)}
theorem Tape.dict (T:Tape P σ tp cl b):∃ o,σ tp = some o∧o.cls = .type "dict":=by
 obtain ⟨a,t,cvs,ck,_,⟨o,e,ho⟩,_⟩:=T
 exact ⟨o,e,by obtain ⟨_,_,z,_⟩:=ho; exact z.1⟩
theorem Tape.cells (T:Tape P σ tp cl b):∃ cvs ck,σ cl = some (lst cvs ck):=by
 obtain ⟨a,t,cvs,ck,_,_,e,_⟩:=T; exact ⟨_,_,e⟩
theorem Tape.le (T:Tape P σ tp cl b) (h:Le σ σ'):Tape P σ' tp cl b:=T.keep (fun o e=>h _ _ e) (fun o e=>h _ _ e)
theorem LW.le (L:LW P X ρ σ m tp cl rl pl b s rws prs) (h:Le σ σ'):LW P X ρ σ' m tp cl rl pl b s rws prs:=by
 obtain ⟨pvs,pk,ep,hp2⟩:=L.pr
 exact ⟨L.T.le h,L.I.le h,L.rw.le h,⟨pvs,pk,h _ _ ep,hp2.mono fun p v q=>q.mono fun a o _ e=>h _ _ e⟩,L.rt,L.rc,L.rr,L.rp,L.n1,L.n2,L.n3,L.mt,L.mh,L.mr,L.mp⟩
theorem LW.vars {m':Vars} (L:LW P X ρ σ m tp cl rl pl b s rws prs) (h1:m' "tape" = m "tape") (h2:m' "heap" = m "heap") (h3:m' "rows" = m "rows") (h4:m' "pairs" = m "pairs"):LW P X ρ σ m' tp cl rl pl b s rws prs :=
 ⟨L.T,L.I,L.rw,L.pr,L.rt,L.rc,L.rr,L.rp,L.n1,L.n2,L.n3,h1.trans L.mt,h2.trans L.mh,h3.trans L.mr,h4.trans L.mp⟩
theorem LW.tape {b':Nat} (L:LW P X ρ σ m tp cl rl pl b s rws prs) (h:LeB tp σ σ') (T':Tape P σ' tp cl b'):LW P X ρ σ' m tp cl rl pl b' s rws prs:=by
 refine lG ?_; intro G
 obtain ⟨o,et,hd⟩:=L.T.dict
 have ht:=h.tup et hd
 refine lG ?_; intro G
 obtain ⟨pvs,pk,ep,hp2⟩:=L.pr
 obtain ⟨rvs,rk,er,hr2⟩:=L.rw
 have n4:rl≠tp:=fun q=>by subst q; exact lst_dict er et hd
 have n5:pl≠tp:=fun q=>by subst q; exact lst_dict ep et hd
 refine ⟨T',L.I.keep (fun a o hC e=>?_),⟨rvs,rk,h _ _ n4 er,hr2.mono fun p v q=>q.mono ht⟩,⟨pvs,pk,h _ _ n5 ep,hp2.mono fun p v q=>q.mono ht⟩,L.rt,L.rc,L.rr,L.rp,L.n1,L.n2,L.n3,L.mt,L.mh,L.mr,L.mp⟩
 rcases hC with hC | hC
 ·exact h a o (fun q=>hC (q ▸ L.rt)) e
 ·exact ht a o hC e
theorem LW.heap {s':St} (L:LW P X ρ σ m tp cl rl pl b s rws prs) (h:Ext ρ σ ρ' σ') (I':HInv P X ρ' σ' s'):LW P X ρ' σ' m tp cl rl pl b s' rws prs:=by
 refine lG ?_; intro G
 obtain ⟨o,et,hd⟩:=L.T.dict
 refine lG ?_; intro G
 obtain ⟨cvs,ck,ec⟩:=L.T.cells
 refine lG ?_; intro G
 obtain ⟨pvs,pk,ep,hp2⟩:=L.pr
 refine lG ?_; intro G
 obtain ⟨rvs,rk,er,hr2⟩:=L.rw
 refine ⟨L.T.keep (fun o e=>h.kp _ _ (.inl L.rt) e) (fun o e=>h.kp _ _ (.inl L.rc) e),I',⟨rvs,rk,h.kp _ _ (.inl L.rr) er,hr2.mono fun p v q=>q.mono fun a o ho e=>h.kp _ _ (.inr ho) e⟩,
  ⟨pvs,pk,h.kp _ _ (.inl L.rp) ep,hp2.mono fun p v q=>q.mono fun a o ho e=>h.kp _ _ (.inr ho) e⟩,(h.rol _ (ne_none et)).trans L.rt,(h.rol _ (ne_none ec)).trans L.rc,(h.rol _ (ne_none er)).trans L.rr,(h.rol _ (ne_none ep)).trans L.rp,L.n1,L.n2,L.n3,L.mt,L.mh,L.mr,L.mp⟩
theorem LW.list0 {a:Addr} {vs ws:List Value} {k n:Nat} (e:σ a = some (lst vs k)) (ha:ρ a = 0):KpR (fun c=>c≠0) ρ σ (σ.set a (lst ws n)):=fun x o hC ex=>by
 rw [Store.set_ne]
 ·exact ex
 ·rintro rfl
  rcases hC with hC | hC
  ·exact hC ha
  ·rw [e] at ex; cases ex; exact lst_tup hC
theorem LW.row {vs:List Value} {k n:Nat} {v:Value} {nd:Node} (L:LW P X ρ σ m tp cl rl pl b s rws prs) (e:σ rl = some (lst vs k)) (h2:All2 (fun nd v=>NodeAt σ v nd) rws vs) (N:NodeAt σ v nd) :
  LW P X ρ (σ.set rl (lst (vs ++ [v]) n)) m tp cl rl pl b s (rws ++ [nd]) prs:=by
 refine lG ?_; intro G
 obtain ⟨o,et,hd⟩:=L.T.dict
 refine lG ?_; intro G
 obtain ⟨pvs,pk,ep,hp2⟩:=L.pr
 have n4:tp≠rl:=fun q=>by subst q; exact lst_dict e et hd
 have ht:∀ a o,o.cls = .type "tuple"→σ a = some o→(σ.set rl (lst (vs ++ [v]) n)) a = some o:=fun a o ho ea=>(LW.list0 (ρ:=ρ) e L.rr) a o (.inr ho) ea
 exact ⟨L.T.keep (fun o e=>(Store.set_ne n4).trans e) (fun o e=>(Store.set_ne L.n2.symm).trans e),L.I.keep (LW.list0 e L.rr),⟨_,n,Store.set_same ..,All2.append (h2.mono fun p v q=>q.mono ht) (.cons (N.mono ht) .nil)⟩,
  ⟨pvs,pk,(Store.set_ne L.n1.symm).trans ep,hp2.mono fun p v q=>q.mono ht⟩,L.rt,L.rc,L.rr,L.rp,L.n1,L.n2,L.n3,L.mt,L.mh,L.mr,L.mp⟩
theorem LW.pair {vs:List Value} {k n:Nat} {v:Value} {p:Nat × Nat} (L:LW P X ρ σ m tp cl rl pl b s rws prs) (e:σ pl = some (lst vs k)) (h2:All2 (fun p v=>PairAt σ v p) prs vs) (N:PairAt σ v p) :
  LW P X ρ (σ.set pl (lst (vs ++ [v]) n)) m tp cl rl pl b s rws (prs ++ [p]):=by
 refine lG ?_; intro G
 obtain ⟨o,et,hd⟩:=L.T.dict
 refine lG ?_; intro G
 obtain ⟨rvs,rk,er,hr2⟩:=L.rw
 have n4:tp≠pl:=fun q=>by subst q; exact lst_dict e et hd
 have ht:∀ a o,o.cls = .type "tuple"→σ a = some o→(σ.set pl (lst (vs ++ [v]) n)) a = some o:=fun a o ho ea=>(LW.list0 (ρ:=ρ) e L.rp) a o (.inr ho) ea
 exact ⟨L.T.keep (fun o e=>(Store.set_ne n4).trans e) (fun o e=>(Store.set_ne L.n3.symm).trans e),L.I.keep (LW.list0 e L.rp),⟨rvs,rk,(Store.set_ne L.n1).trans er,hr2.mono fun p v q=>q.mono ht⟩,
  ⟨_,n,Store.set_same ..,All2.append (h2.mono fun p v q=>q.mono ht) (.cons (N.mono ht) .nil)⟩,L.rt,L.rc,L.rr,L.rp,L.n1,L.n2,L.n3,L.mt,L.mh,L.mr,L.mp⟩
end
section
variable {P:Par} {A:Around} {env:Env} {W:List Addr} {α β:Type} {σ σ':Store} {m:Vars} {X:HA} {ρ ρ':Addr→Nat}
theorem xAssignTuple4 {x y z u:Str} {px py pz pu:Pos} {k:Nat} {tpos:Pos} {value:PySem.Expr} {pos:Pos} {Q:Flow→Store→Vars→Prop} (hh:A.handled = none)
  (h:WP P A env W (eval value env) σ m (fun v σ m=>(X6 fun l a b c d k=>N3 (v = .ref l) (σ l = some (tup [a,b,c,d] k)) (WP P A env W (storeName env x a) σ m (fun _ σ m=>WP P A env W (storeName env y b) σ m (fun _ σ m=>WP P A env W (storeName env z c) σ m (fun _ σ m=>WP P A env W (storeName env u d) σ m (fun _ σ m=>Q .next σ m))))))))
  (hs:swapsWithSole [.Tuple [.Name x px,.Name y py,.Name z pz,.Name u pu] k tpos] value pos.line env = pure false:=by rfl) (hw:swappedStores [.Tuple [.Name x px,.Name y py,.Name z pz,.Name u pu] k tpos] value env = pure none:=by rfl) :
  WP P A env W (exec (.Assign [.Tuple [.Name x px,.Name y py,.Name z pz,.Name u pu] k tpos] value pos) env) σ m Q:=fun s G F=>by
 refine Assign_Tuple (wpAny_mono (h s G F) (fun v s₁ ⟨σ₁,m₁,q,F₁,T₁⟩=>?_) fun _ _ f=>f) hs hw
 obtain ⟨l,a,b,c,d,k,rfl,e,q⟩:=q
 obtain step:WP P A env W (assign (.Tuple [.Name x px,.Name y py,.Name z pz,.Name u pu] k tpos) env (.ref l)) σ₁ m₁ (fun _ σ m=>Q .next σ m):=by
  rw [arm_assign_Tuple]
  refine xBind (xStandAt ?_)
  refine xBind (xHolding (xOp (oUnpack (n:=4) hh (.inr e) rfl ?_)))
  show WP P A env W (do holding [b,c,d] (assign (.Name x px) env a); do holding [c,d] (assign (.Name y py) env b); do holding [d] (assign (.Name z pz) env c); do holding [] (assign (.Name u pu) env d); pure ()) _ _ _
  exact xBind (xHolding (xAsName (q.mono fun _ _ _ q=>xBind (xHolding (xAsName (q.mono fun _ _ _ q=>xBind (xHolding (xAsName (q.mono fun _ _ _ q=>xBind (xHolding (xAsName (q.mono fun _ _ _ q=>xPure q))))))))))))
 exact wpAny_mono (step.chain (E:=fun _ _=>False) T₁ F₁) (fun _ s₂ q=>q.re) fun _ _ f=>f.elim
noncomputable def fdLaw (p:Params):{fd:FuncData // fdIn (Mine.hd.heap_1 p) 496 = some fd}:=⟨_,rfl⟩
noncomputable def lawB (p:Params):List Stmt:=match (fdLaw p).1.body with | .stmts b=>b | _=>[]
noncomputable def lawS (p:Params) (i:Nat):Stmt:=(lawB p).getD i (.Pass ⟨0,0,0,0⟩)
noncomputable abbrev lawE (P:Par) (L lf:Addr) (lc:Value):Env:=envOfC "law" (fdLaw P.w.params).1.scope L lf lc
set_option maxHeartbeats 1000000 in
theorem law0 (O:P.Ok) {L lf ax:Addr} {lc:Value} {vs:List Value} {Q:Flow→Store→Vars→Prop} (hR:Rm A 40) (hs:P.g.IsList ax (List.toArray vs)) (hI:AllI vs) (hl:vs.length≤63) (hm:m "script" = some (.ref ax))
  (h:∀ σ' m' X ρ tp cl rl pl,LW P X ρ σ' m' tp cl rl pl 0 s0 [("a",[]),("b",[])] []→Q .next σ' m') :
  WP P A (lawE P L lf lc) (wrOf (lawE P L lf lc)) (exec (lawS P.w.params 0) (lawE P L lf lc)) σ m Q:=by
 obtain hh:=hR.handled
 refine lq ?_; intro K
 refine xAssignTuple4 hh (lq ?_); intro K
 refine xTuple ?_
 refine lqE ?_; intro K
 refine (lq ?_); intro K
 refine xDict2 (fun d hd t=>?_) (by decide)
 refine lq ?_; intro K
 refine xCallT O boot_list rfl rfl (lqE ?_); intro K
 refine (xSliceHeadG ?_)
 refine lq ?_; intro K
 refine xName (lq ?_); intro K
 refine xLoad rfl hm (xInt fun t2=>⟨ax,vs,50,t2,rfl,rfl,hs,(z284 hl),fun a σ1 le1 ha e1=>evNil ?_⟩)
 obtain ed:σ1 d = some emptyD:=le1 _ _ (Store.set_same ..)
 refine lq ?_; intro K
 refine xOp (lo ?_); intro K
 refine oListOf e1 (by rw [List.length_take]; exact z385) fun cl c hcl=>⟨Store.set_new hcl ed,fun o D=>?_⟩
 obtain ndc:cl≠d:=fun q=>by rw [q,ed] at hcl; exact ns hcl
 obtain ec:((σ1.set cl (lst (vs.take 50) c)).set d o) cl = some (lst (vs.take 50) c):=(Store.set_ne ndc).trans (Store.set_same ..)
 generalize ((σ1.set cl (lst (vs.take 50) c)).set d o) = σ2 at *
 refine lqE ?_; intro K
 refine (lq ?_); intro K
 refine xCallName (xName (xLoadGlobal O rfl rfl ⟨kept_cls O (by rfl),evNil ?_⟩))
 refine lq ?_; intro K
 refine xOp (lo ?_); intro K
 refine oOf (cMkHeap O (hR.mono z386) fun X ρ σ3 le3 I3 hρ=>?_)
 refine lqE ?_; intro K
 refine (lq ?_); intro K
 refine xList ?_
 refine lqE ?_; intro K
 refine (lq ?_); intro K
 refine xTuple (xStr fun t3=>evNil fun r1 hr1=>?_)
 refine (lq ?_); intro K
 refine xTuple (xStr fun t4=>evNil fun r2 hr2=>evNil fun rl hrl=>?_)
 refine (lq ?_); intro K
 refine xList (fun pl hpl=>evNil fun tt htt=>?_)
 refine ⟨tt,_,_,_,_,0,rfl,Store.set_same ..,?_⟩
 obtain la:Le σ3 (σ3.set r1 (tup [Value.str "a" t3] 0)):=Le.new hr1
 obtain ea:(σ3.set r1 (tup [Value.str "a" t3] 0)) r1 = some (tup [Value.str "a" t3] 0):=Store.set_same ..
 generalize (σ3.set r1 (tup [Value.str "a" t3] 0)) = σ4 at *
 obtain lb:Le σ4 (σ4.set r2 (tup [Value.str "b" t4] 0)):=Le.new hr2
 obtain eb:(σ4.set r2 (tup [Value.str "b" t4] 0)) r2 = some (tup [Value.str "b" t4] 0):=Store.set_same ..
 generalize (σ4.set r2 (tup [Value.str "b" t4] 0)) = σ5 at *
 obtain lc:Le σ5 (σ5.set rl (lst [Value.ref r1,Value.ref r2] 0)):=Le.new hrl
 obtain erl:(σ5.set rl (lst [Value.ref r1,Value.ref r2] 0)) rl = some (lst [Value.ref r1,Value.ref r2] 0):=Store.set_same ..
 generalize (σ5.set rl (lst [Value.ref r1,Value.ref r2] 0)) = σ6 at *
 obtain ld:Le σ6 (σ6.set pl (lst [] 0)):=Le.new hpl
 obtain epl:(σ6.set pl (lst [] 0)) pl = some (lst [] 0):=Store.set_same ..
 generalize (σ6.set pl (lst [] 0)) = σ7 at *
 revert σ7; refine keep ?_; intro σ7; set_option tactic.hygienic false in intros
 obtain le:Le σ7 (σ7.set tt (tup [.ref d,.ref X.h,.ref rl,.ref pl] 0)):=Le.new htt
 generalize (σ7.set tt (tup [.ref d,.ref X.h,.ref rl,.ref pl] 0)) = σ8 at *
 revert σ8; refine keep ?_; intro σ8; set_option tactic.hygienic false in intros
 obtain l36:Le σ3 σ6:=(la.trans lb).trans lc
 obtain l38:Le σ3 σ8:=(l36.trans ld).trans le
 obtain l68:Le σ6 σ8:=ld.trans le
 obtain n5:σ3 rl = none:=none_less (la.trans lb) hrl
 obtain n6:σ3 pl = none:=none_less l36 hpl
 refine xStore rfl rfl (List.mem_cons_self ..) ?_
 refine xStore rfl rfl (List.mem_cons_self ..) ?_
 refine xStoreCell rfl rfl (fun c hc=>mem_wrOf hc) ?_
 refine xStore rfl rfl (List.mem_cons_self ..) ?_
 obtain e3:=le3 _ _ ec
 refine h σ8 _ X ρ d cl rl pl ⟨?_,I3.le l38,⟨_,0,l68 _ _ erl,.cons ⟨r1,0,t3,[],rfl,l68 _ _ (lc _ _ (lb _ _ ea)),Ns.nil⟩ (.cons ⟨r2,0,t4,[],rfl,l68 _ _ (lc _ _ eb),Ns.nil⟩ .nil)⟩,⟨[],0,le _ _ epl,.nil⟩,hρ _ ?_,hρ _ (ne_none ec),I3.R.free _ n5,I3.R.free _ n6,?_,?_,?_,rfl,rfl,rfl,rfl⟩
 ·obtain ⟨o,e,ho⟩:=D
  exact ⟨0,t,vs.take 50,c,Nat.zero_le _,⟨o,l38 _ _ (le3 _ _ e),ho⟩,l38 _ _ e3,fun i hi=>hI i (by simp only [List.mem_toArray] at hi ⊢; exact List.mem_of_mem_take hi),by rw [List.length_take]; exact z387⟩
 ·obtain ⟨o,e,_⟩:=D; exact ne_none e
 ·rintro rfl; rw [erl] at hpl; exact ns hpl
 ·rintro rfl; rw [n5] at e3; exact nn e3
 ·rintro rfl; rw [n6] at e3; exact nn e3
end
section
variable {P:Par} {A:Around} {env:Env} {W:List Addr} {α β:Type} {σ σ':Store} {m:Vars} {X:HA} {ρ ρ':Addr→Nat}
theorem s1_start:S1 s0 :=
 ⟨fun _=>rfl,fun i nd h=>by simp [s0] at h,fun p h=>by simp [s0] at h,fun m h=>(Nat.not_lt_zero _ h).elim,rfl,fun m h=>(Nat.not_lt_zero _ h).elim,fun i x h=>by simp [s0] at h,fun i=>by simp [s0],rfl,rfl⟩
theorem S1.bdAdd {s:St} {x:Str} {ks:List Nat} (S:S1 s) (h7:s.n≤50):Bd (adp s (x,ks)):=by
 have hn:(adp s (x,ks)).n = s.n + 1:=by show (s.nodes ++ [(x,ks)]).length = _; rw [List.length_append,List.length_singleton]
 refine ⟨by show s.ne≤1000; rw [S.ne]; exact z388,by show s.known.length≤_; rw [S.kl]; exact z389 h7,by show s.waiting.length≤_; rw [S.wt]; simp,fun i _ _=>?_,fun p hp=>?_⟩
 ·show (if i = s.n then [] else if i ∈ ks then s.abv i ++ [s.n] else s.abv i).length≤_
  have:=S.abl i
  split
  ·simp
  ·split
   ·rw [List.length_append,List.length_singleton]; exact z390 h7 this
   ·exact z391 h7 this
 ·rw [hn]; have:=(S.kn p hp).1; exact Nat.lt_succ_of_lt this
def Arn (nodes:List Node):Prop:=∀ nd ∈ nodes,nd.2.length≤2
set_option maxHeartbeats 1000000 in
theorem law1 (O:P.Ok) {L lf tp cl rl pl:Addr} {lc:Value} {Q:Flow→Store→Vars→Prop} (hR:Rm A 40) (hL:LW P X ρ σ m tp cl rl pl 0 s0 [("a",[]),("b",[])] [])
  (h:∀ σ' m' ρ' s,LW P X ρ' σ' m' tp cl rl pl 0 s s.nodes []→S1 s→s.n = 2→Arn s.nodes→Q .next σ' m') :
  WP P A (lawE P L lf lc) (wrOf (lawE P L lf lc)) (exec (lawS P.w.params 1) (lawE P L lf lc)) σ m Q:=by
 obtain hh:=hR.handled
 refine lG ?_; intro G
 obtain ⟨rvs,rk,er,hr2⟩:=hL.rw
 obtain lenr:=hr2.length
 refine xForX (ξ:=Node) (lq ?_); intro K
 refine xName (xLoadCell rfl rfl hL.mr ?_)
 refine ⟨_,_,_,fun i σ' m'=>(X2 fun ρ' s=>N5 (LW P X ρ' σ' m' tp cl rl pl 0 s [("a",[]),("b",[])] []) (σ' rl = some (lst rvs rk)) ((∀ a o,o.cls = .type "tuple"→σ a = some o→σ' a = some o)) (S1 s) (s.nodes = [(("a":Str),([]:List Nat)),("b",[])].take i)),srx_list (k:=rk) hh hr2,?_,?_,?_,?_⟩
 ·rintro i σ' m' ⟨ρ',s,_,e,_⟩ p hp
  rw [List.mem_singleton] at hp; subst hp; exact e
 ·exact ⟨ρ,s0,hL,er,fun _ _ _ q=>q,s1_start,rfl⟩
 ·rintro i nd v σ' m' hi hN ⟨ρ',s,L',e,hkt,S,hs⟩
  have hi2:i < 2:=by have:=(List.getElem?_eq_some_iff.mp hi).1; exact this
  refine lG ?_; intro G
  obtain ⟨t1,Ih⟩:=L'.I.H.inst
  refine lG ?_; intro G
  obtain ⟨ra,rkk,tr,kvs,rfl,era,hNk⟩:=hN.mono hkt
  have hni:s.n = i:=by unfold St.n; rw [hs,List.length_take]; simp; exact z392 hi2
  have hk0:nd.2 = []∧opOk nd.1∧(nd.1,[]) ∉ s.nodes:=by
   rw [hs]
   match i,hi2,hi with
   | 0,_,hi=>cases hi; exact ⟨rfl,.inl rfl,by simp⟩
   | 1,_,hi=>cases hi; exact ⟨rfl,.inr (.inl rfl),fun hm=>(by decide:("b":Str)≠"a") (by simpa using hm)⟩
  refine xStore rfl rfl (List.mem_cons_self ..) ?_
  refine xLast (lq ?_); intro K
  refine xExpr (xCallMeth (xName (xLoad rfl L'.mh fun pl=>?_)))
  refine lq ?_; intro K
  refine xOp (oGetMethod O Ih rfl rfl ⟨kept_fn O (fdAdd _).2,?_⟩)
  refine lqE ?_; intro K
  refine (xItem (xName (xLoad rfl rfl (xInt fun t8=>⟨ra,_,rkk,0,t8,_,rfl,rfl,.inr era,z101,rfl,?_⟩))))
  refine lqE ?_; intro K
  refine (xTuple (evNil fun ka hka=>evNil ?_))
  have L2:=L'.le (Le.new (o:=tup [] 0) hka)
  obtain er2:(σ'.set ka (tup [] 0)) rl = some (lst rvs rk):=Store.set_new hka e
  refine lq ?_; intro K
  refine xOp (oOf (cAdd O (hR.mono z393) L2.I S.r hk0.2.1 (Store.set_same ..) Ns.nil hk0.2.2 (fun _ h=>by cases h) (by simp) (z394 hi2 hni) (S.bdAdd (z395 hi2 hni)) fun v σ3 ρ3 X3 I3=>?_))
  obtain ⟨S3,n3⟩:=s1_add S hk0.2.2 (fun _ h=>by cases h)
  refine ⟨ρ3,_,(L2.heap X3 I3).vars rfl rfl rfl rfl,X3.kp _ _ (.inl L2.rr) er2,fun a o ho q=>X3.kp _ _ (.inr ho) (Store.set_new hka (hkt a o ho q)),S3,?_⟩
  rw [n3,hs,List.take_add_one,hi]
  obtain ⟨op,ks⟩:=nd
  cases hk0.1
  rfl
 ·rintro σ' m' ⟨ρ',s,L',e,hkt,S,hs⟩
  have hs':s.nodes = [(("a":Str),([]:List Nat)),("b",[])]:=hs
  exact h σ' m' ρ' s (hs' ▸ L') S (by unfold St.n; rw [hs']; rfl) (by rw [hs']; intro nd hnd; simp at hnd; rcases hnd with rfl | rfl <;> simp)
end
section
variable {P:Par} {A:Around} {env:Env} {W:List Addr} {α β:Type} {σ σ':Store} {m:Vars} {X:HA} {ρ ρ':Addr→Nat} {tp cl rl pl:Addr} {b:Nat} {s:St} {rws:List Node} {prs:List (Nat × Nat)}
theorem lNextK (O:P.Ok) {L lf:Addr} {lc:Value} {np p1 p2 pos:Pos} {kk:Nat} (k:Nat) {Q:Value→Store→Vars→Prop} (hR:Rm A 40) (hL:LW P X ρ σ m tp cl rl pl b s rws prs) (hb:b≤1000) (hk:1≤k)
  (h:∀ v t σ',v < k→LeB tp σ σ'→LW P X ρ σ' m tp cl rl pl (b + 1) s rws prs→Q (.int (v:Nat) t) σ' m) :
  WP P A (lawE P L lf lc) W (eval (.Call (.Name "_law_next" np) [.Name "tape" p1,.Constant (.int ((k:Nat):Int)) kk p2] [] pos) (lawE P L lf lc)) σ m Q:=by
 refine xCallName (xName (xLoadGlobal O rfl rfl ⟨kept_fn O (fdNext _).2,?_⟩))
 refine evCons (xName (xLoad rfl hL.mt (evCons (xInt fun t2=>evNil ?_))))
 exact xOp (oOf (cNext O (hR.mono z396) hL.T (z397 hb) hk fun v t σ1 hv le1 T1=>h v t σ1 hv le1 (hL.tape le1 T1)))
theorem lNextRows (O:P.Ok) {L lf:Addr} {lc:Value} {np p1 p2 p3 p4 pos:Pos} {Q:Value→Store→Vars→Prop} (hR:Rm A 40) (hL:LW P X ρ σ m tp cl rl pl b s rws prs) (hb:b≤1000) (hk:1≤rws.length) (hk2:rws.length≤1000)
  (h:∀ v t σ',v < rws.length→LeB tp σ σ'→LW P X ρ σ' m tp cl rl pl (b + 1) s rws prs→Q (.int (v:Nat) t) σ' m) :
  WP P A (lawE P L lf lc) W (eval (.Call (.Name "_law_next" np) [.Name "tape" p1,.Call (.Name "len" p2) [.Name "rows" p3] [] p4] [] pos) (lawE P L lf lc)) σ m Q:=by
 refine lG ?_; intro G
 obtain ⟨rvs,rk,er,hr2⟩:=hL.rw
 refine lq ?_; intro K
 refine xCallName (xName (xLoadGlobal O rfl rfl ⟨kept_fn O (fdNext _).2,?_⟩))
 refine lqE ?_; intro K
 refine (xName (xLoad rfl hL.mt (evCons (xCallB O boot_len rfl rfl (evCons (xName (xLoadCell rfl rfl hL.mr (evNil ?_))))))))
 refine xOp (lo ?_); intro K
 refine oLen er (by rw [← hr2.length]; exact z192 hk2) fun t2=>evNil ?_
 rw [← hr2.length]
 refine xOp (lo ?_); intro K
 exact oOf (cNext O (hR.mono z396) hL.T (z397 hb) hk fun v t σ1 hv le1 T1=>h v t σ1 hv le1 (hL.tape le1 T1))
theorem lst_rng {σ:Store} {a:Addr} {vs:List Value} {k n:Nat} {t u v:Tok} (h1:σ a = some (lst vs k)) (h2:σ a = some (rng 0 n 1 t u v)):False:=by
 rw [h1] at h2; injection h2 with h2; injection h2 with h2 _ _ _; injection h2 with h2; exact absurd h2 (by decide)
theorem LeB.rng {n:Nat} {t u v:Tok} {ra:Addr} {o₀:Obj} (L:LeB tp σ σ') (e:σ tp = some o₀) (hc:o₀.cls = .type "dict") (er:σ ra = some (rng 0 n 1 t u v)):σ' ra = some (rng 0 n 1 t u v) :=
 L _ _ (fun q=>by subst q; rw [e] at er; cases er; injection hc with hc; exact absurd hc (by decide)) er
def RowOk (n:Nat) (nd:Node):Prop:=(∃ a,a < n∧nd = (("f":Str),[a]))∨((X2 fun a c=>N3 (a < n) (c < n) (nd = (("g":Str),[a,c]))))
theorem RowOk.kids {n:Nat} {nd:Node} (h:RowOk n nd):(∀ k ∈ nd.2,k < n)∧nd.2.length≤2∧opOk nd.1:=by
 rcases h with ⟨a,ha,rfl⟩ | ⟨a,c,ha,hc,rfl⟩
 ·exact ⟨by simpa using ha,by simp,.inr (.inr (.inl rfl))⟩
 ·exact ⟨by simp [ha,hc],by simp,.inr (.inr (.inr rfl))⟩
set_option maxHeartbeats 4000000 in
theorem law2 (O:P.Ok) {L lf:Addr} {lc:Value} {Q:Flow→Store→Vars→Prop} (hR:Rm A 40) (hL:LW P X ρ σ m tp cl rl pl 0 s s.nodes []) (S:S1 s) (hn:s.n = 2) (har:Arn s.nodes)
  (h:∀ σ' m' ρ' s b,b≤16→LW P X ρ' σ' m' tp cl rl pl b s s.nodes []→S1 s→2≤s.n→s.n≤7→Arn s.nodes→Q .next σ' m') :
  WP P A (lawE P L lf lc) (wrOf (lawE P L lf lc)) (exec (lawS P.w.params 2) (lawE P L lf lc)) σ m Q:=by
 obtain hh:=hR.handled
 refine lq ?_; intro K
 refine xForX (ξ:=Nat) (lq ?_); intro K
 refine xCallT O boot_range rfl rfl (xBinOp (xInt fun t1=>?_))
 refine lNextK O 4 hR hL z388 (by decide) fun v tv σ1 hv le1 L1=>xOp (oAdd fun t3=>evNil ?_)
 rw [show (2:Int) + (v:Nat) = ((2 + v:Nat):Int) from z398]
 refine lq ?_; intro K
 refine xOp (oRange fun ra rt ru rv hra=>?_)
 obtain L2:=L1.le (Le.new (o:=rng 0 (2 + v:Nat) 1 rt ru rv) hra)
 obtain era:(σ1.set ra (rng 0 (2 + v:Nat) 1 rt ru rv)) ra = some (rng 0 (2 + v:Nat) 1 rt ru rv):=Store.set_same ..
 have rra:ρ ra = 0:=L1.I.R.free _ hra
 generalize (σ1.set ra (rng 0 (2 + v:Nat) 1 rt ru rv)) = σ2 at *
 refine ⟨List.range (2 + v),_,_,fun i σ' m'=>(X3 fun ρ' s b=>N8 (LW P X ρ' σ' m' tp cl rl pl b s s.nodes []) (σ' ra = some (rng 0 (2 + v:Nat) 1 rt ru rv)) (ρ' ra = 0) (S1 s) (2≤s.n) (s.n≤2 + i) (Arn s.nodes) (b≤1 + 3 * i)),srx_range (t:=rt) (u:=ru) (v:=rv) hh (z399 hv),?_,?_,?_,?_⟩
 ·rintro i σ' m' ⟨_,_,_,_,e,_⟩ p hp
  rw [List.mem_singleton] at hp; subst hp; exact e
 ·exact ⟨ρ,s,1,L2,era,rra,S,(z400 hn),(z401 hn),har,z402⟩
 ·rintro i y w σ' m' hi ⟨tw,rfl⟩ ⟨ρ',s',b',L',e',r',S',h2,hi2,ar',hb'⟩
  have hi5:i < 5:=by have:=(List.getElem?_eq_some_iff.mp hi).1; rw [List.length_range] at this; exact z403 hv this
  refine lq ?_; intro K
  refine xStore rfl rfl (List.mem_cons_self ..) ?_
  have L':=L'.vars (m':=m'.set "turn" (.int (y:Nat) tw)) rfl rfl rfl rfl
  generalize m'.set "turn" (.int (y:Nat) tw) = m1 at *
  have hsl:s'.nodes.length = s'.n:=rfl
  refine lq ?_; intro K
  refine xCons (lq ?_); intro K
  refine xAssignName (xTuple (xSubscript (T:="str") F.slot_str_getitem.lookup (xStr fun t5=>?_)))
  refine lNextK O 2 hR L' (z404 hb' hi5) (by decide) fun v1 tv1 σ3 hv1 le3 L3=>?_
  obtain ⟨o3,et3,hd3⟩:=L'.T.dict
  have e3:=le3.rng et3 hd3 e'
  refine ⟨fun s _=>typeIs_str s _ _,?_⟩
  obtain ⟨c,op,hc,hcs,hop⟩:(X2 fun (c:Nat) (op:Str)=>N3 (("fg":Str).cps[v1]? = some c) ((⟨#[c]⟩:Str) = op) ((op = "f"∨op = "g"))):=by
   rcases (show v1 = 0∨v1 = 1 by exact z289 hv1) with rfl | rfl
   ·exact ⟨102,"f",rfl,rfl,.inl rfl⟩
   ·exact ⟨103,"g",rfl,rfl,.inr rfl⟩
  refine lq ?_; intro K
  refine xOp (oItemS hc (z405 hv1) fun t6=>?_)
  rw [hcs]
  refine lqE ?_; intro K
  refine (lNextRows O hR L3 (z406 hb' hi5) (z407 h2 hsl) (z408 hi2 hi5 hsl) fun v2 tv2 σ4 hv2 le4 L4=>evNil fun row1 hrow1=>?_)
  have e4:=le4.rng (L3.T.dict.choose_spec.1) (L3.T.dict.choose_spec.2) e3
  obtain L5:=L4.le (Le.new (o:=tup [.str op t6,.int (v2:Nat) tv2] 0) hrow1)
  obtain e5:(σ4.set row1 (tup [.str op t6,.int (v2:Nat) tv2] 0)) ra = some (rng 0 (2 + v:Nat) 1 rt ru rv):=Store.set_new hrow1 e4
  have er1:(σ4.set row1 (tup [.str op t6,.int (v2:Nat) tv2] 0)) row1 = some (tup [.str op t6,.int (v2:Nat) tv2] 0):=Store.set_same ..
  generalize (σ4.set row1 (tup [.str op t6,.int (v2:Nat) tv2] 0)) = σ5 at *
  refine lq ?_; intro K
  refine xStore rfl rfl (List.mem_cons_self ..) ?_
  have L5:=L5.vars (m':=m1.set "row" (.ref row1)) rfl rfl rfl rfl
  have mrow:(m1.set "row" (.ref row1)) "row" = some (.ref row1):=rfl
  generalize m1.set "row" (.ref row1) = m2 at *
  refine lq ?_; intro K
  refine xCons (lq ?_); intro K
  refine xAssignName (WP.mono (Q:=fun w σ m=>(X3 fun a nd b=>N6 (w = Value.ref a) (LW P X ρ' σ m tp cl rl pl b s' s'.nodes []) (NodeAt σ (.ref a) nd) (RowOk s'.n nd) (σ ra = some (rng 0 (2 + v:Nat) 1 rt ru rv)) (b≤1 + 3 * (i + 1)))) ?_ ?_)
  ·refine lq ?_; intro K
   refine xIfExp (lq ?_); intro K
   refine xTrueCompare (xItem (xName (xLoad rfl mrow (xInt fun t7=>⟨row1,_,0,0,t7,_,rfl,rfl,.inr er1,z101,rfl,?_⟩))))
   refine lq ?_; intro K
   refine xStr fun t8=>xOp (oEqS (xTruthyBool ⟨fun hb=>?_,fun hb=>?_⟩))
   ·refine lq ?_; intro K
    refine xBinOp (xName (xLoad rfl mrow (xTuple ?_)))
    refine lNextRows O hR L5 (z409 hb' hi5) (z407 h2 hsl) (z408 hi2 hi5 hsl) fun v3 tv3 σ6 hv3 le6 L6=>fun r2 hr2=>?_
    have e6:=le6.rng (L5.T.dict.choose_spec.1) (L5.T.dict.choose_spec.2) e5
    have er6:=le6.tup (L5.T.dict.choose_spec.1) (L5.T.dict.choose_spec.2) _ _ rfl er1
    refine lq ?_; intro K
    refine xOp (oAddTuple (Store.set_new hr2 er6) (Store.set_same ..) (by simp) fun a σ7 le7 ⟨k7,e7⟩=>?_)
    obtain le67:Le σ6 σ7:=(Le.new hr2).trans le7
    obtain hv1:op = "g":=by simpa using hb
    subst hv1
    exact ⟨a,("g",[v2,v3]),b' + 1 + 1 + 1,rfl,L6.le le67,⟨a,k7,t6,_,rfl,e7,Ns.cons _ _ (Ns.one _ _)⟩,.inr ⟨v2,v3,hv2,hv3,rfl⟩,le67 _ _ e6,(z410 hb')⟩
   ·refine lq ?_; intro K
    refine xName (xLoad rfl mrow ?_)
    have hv1:op = "f":=hop.resolve_right fun q=>by subst q; exact absurd hb (by decide)
    subst hv1
    exact ⟨row1,("f",[v2]),b' + 1 + 1,rfl,L5,⟨row1,0,t6,_,rfl,er1,Ns.one _ _⟩,.inl ⟨v2,hv2,rfl⟩,e5,(z411 hb')⟩
  ·rintro w σ8 m8 ⟨a,nd,b8,rfl,L8,N8,hok,e8,hb8⟩
   obtain ⟨hk1,hk2,hk3⟩:=hok.kids
   refine lq ?_; intro K
   refine xStore rfl rfl (List.mem_cons_self ..) ?_
   have L8:=L8.vars (m':=m8.set "row" (.ref a)) rfl rfl rfl rfl
   have mrow8:(m8.set "row" (.ref a)) "row" = some (.ref a):=rfl
   generalize m8.set "row" (.ref a) = m9 at *
   obtain ⟨rvs,rk,er,hr2⟩:=L8.rw
   refine lq ?_; intro K
   refine xLast (lq ?_); intro K
   refine xIf (xTrueCompare (xName (xLoad rfl mrow8 (xName (xLoadCell rfl rfl L8.mr (xOp (oNotInNode (hR.mono z412) er hr2 N8 (xTruthyBool ⟨fun hb=>?_,fun hb=>?_⟩))))))))
   ·have hnew:nd ∉ s'.nodes:=by simpa using hb
    refine lq ?_; intro K
    refine xCons (lq ?_); intro K
    refine xExpr (xCallMeth (xName (xLoadCell rfl rfl L8.mr fun pl'=>?_)))
    refine lq ?_; intro K
    refine xOp (oMethAppend er ⟨kept_builtin _,(xName (xLoad rfl mrow8 (evNil ?_)))⟩)
    refine lq ?_; intro K
    refine xOp (oAppend er (by rw [← hr2.length]; exact z413 hi2 hi5 hsl) fun n'=>?_)
    have L9:=L8.row (n:=n') er hr2 N8
    have N9:NodeAt (σ8.set rl (lst (rvs ++ [.ref a]) n')) (.ref a) nd:=N8.mono fun x o ho e=>(LW.list0 (ρ:=ρ') er L8.rr) x o (.inr ho) e
    have e9:(σ8.set rl (lst (rvs ++ [.ref a]) n')) ra = some (rng 0 (2 + v:Nat) 1 rt ru rv):=(Store.set_ne (fun q=>by subst q; exact lst_rng er e8)).trans e8
    generalize (σ8.set rl (lst (rvs ++ [.ref a]) n')) = σ9 at *
    revert σ9; refine keep ?_; intro σ9; set_option tactic.hygienic false in intros
    refine lG ?_; intro G
    obtain ⟨_,kk,tt,kvs,q,ea,hNk⟩:=N9
    refine lG ?_; intro G
    cases q
    refine lq ?_; intro K
    refine xLast (lq ?_); intro K
    refine xExpr (xCallMeth (xName (xLoad rfl L9.mh fun pl'=>?_)))
    obtain ⟨t1',Ih⟩:=L9.I.H.inst
    refine lq ?_; intro K
    refine xOp (oGetMethod O Ih rfl rfl ⟨kept_fn O (fdAdd _).2,?_⟩)
    refine lqE ?_; intro K
    refine (xItem (xName (xLoad rfl mrow8 (xInt fun t9=>⟨a,_,kk,0,t9,_,rfl,rfl,.inr ea,z101,rfl,?_⟩))))
    refine lqE ?_; intro K
    refine (xSliceTail (xName (xLoad rfl mrow8 (xInt fun t10=>⟨a,_,kvs,kk,t10,rfl,rfl,ea,by rw [hNk.length]; exact z263 hk2,fun ka σ10 le10 hka eka=>evNil ?_⟩))))
    obtain le10:Le σ9 σ10:=le10
    obtain L10:=L9.le le10
    refine lq ?_; intro K
    refine xOp (oOf (cAdd O (hR.mono z393) L10.I S'.r hk3 eka hNk hnew hk1 (z414 hk2) (z415 hi2 hi5) (S'.bdAdd (z416 hi2 hi5)) fun w σ11 ρ11 X11 I11=>?_))
    obtain ⟨S11,n11⟩:=s1_add S' hnew hk1
    refine ⟨ρ11,_,b8,n11 ▸ (L10.heap X11 I11),X11.kp _ _ (.inl r') (le10 _ _ e9),(X11.rol _ (ne_none (le10 _ _ e9))).trans r',S11,?_,?_,?_,hb8⟩
    ·unfold St.n; rw [n11,List.length_append]; exact z417 h2 hsl
    ·unfold St.n; rw [n11,List.length_append,List.length_singleton]; exact z418 hi2 hsl
    ·rw [n11]; intro x hx
     rcases List.mem_append.mp hx with hx | hx
     ·exact ar' x hx
     ·rw [List.mem_singleton] at hx; subst hx; exact hk2
   ·exact xNil ⟨ρ',s',b8,L8,e8,r',S',h2,(z419 hi2),ar',hb8⟩
 ·rintro σ' m' ⟨ρ',s',b',L',e',r',S',h2,hi2,ar',hb'⟩
  rw [List.length_range] at hi2 hb'
  exact h σ' m' ρ' s' b' (z420 hv hb') L' S' h2 (z421 hv hi2) ar'
end
section
variable {P:Par} {A:Around} {env:Env} {W:List Addr} {α β:Type} {σ σ':Store} {m:Vars} {X:HA} {ρ ρ':Addr→Nat} {tp cl rl pl:Addr} {b:Nat} {s:St} {rws:List Node} {prs:List (Nat × Nat)}
set_option maxHeartbeats 4000000 in
theorem law3 (O:P.Ok) {L lf:Addr} {lc:Value} {Q:Flow→Store→Vars→Prop} (hR:Rm A 40) (hb:b≤16) (hL:LW P X ρ σ m tp cl rl pl b s s.nodes []) (S:S1 s) (hn:2≤s.n) (hn7:s.n≤7)
  (h:∀ σ' m' ρ' s' b prs,b≤30→LW P X ρ' σ' m' tp cl rl pl b s' s.nodes prs→S0 prs s'→I2 s' noOne→s'.nodes = s.nodes→prs.length≤3→(∀ p ∈ prs,p.1 < s.n∧p.2 < s.n∧s'.r p.1 = s'.r p.2)→Q .next σ' m') :
  WP P A (lawE P L lf lc) (wrOf (lawE P L lf lc)) (exec (lawS P.w.params 3) (lawE P L lf lc)) σ m Q:=by
 obtain hh:=hR.handled
 obtain hsl:s.nodes.length = s.n:=rfl
 refine lq ?_; intro K
 refine xForX (ξ:=Nat) (lq ?_); intro K
 refine xCallT O boot_range rfl rfl ?_
 refine lNextK O 4 hR hL (z422 hb) (by decide) fun v tv σ1 hv le1 L1=>evNil ?_
 refine lq ?_; intro K
 refine xOp (oRange fun ra rt ru rv hra=>?_)
 obtain L2:=L1.le (Le.new (o:=rng 0 (v:Nat) 1 rt ru rv) hra)
 have era:(σ1.set ra (rng 0 (v:Nat) 1 rt ru rv)) ra = some (rng 0 (v:Nat) 1 rt ru rv):=Store.set_same ..
 have rra:ρ ra = 0:=L1.I.R.free _ hra
 generalize (σ1.set ra (rng 0 (v:Nat) 1 rt ru rv)) = σ2 at *
 obtain ⟨S00,I20⟩:=S.s0 hn7
 refine ⟨List.range v,_,_,fun i σ' m'=>(X4 fun ρ' s' b' prs=>N10 (LW P X ρ' σ' m' tp cl rl pl b' s' s.nodes prs) (σ' ra = some (rng 0 (v:Nat) 1 rt ru rv)) (ρ' ra = 0) (S0 prs s') (I2 s' noOne) (s'.nodes = s.nodes) (s'.ne + cls s'.n s'.r≤7 + i) ((∀ p ∈ prs,p.1 < s.n∧p.2 < s.n∧s'.r p.1 = s'.r p.2)) (prs.length≤i) (b'≤17 + 2 * i)),srx_range (t:=rt) (u:=ru) (v:=rv) hh (z423 hv),?_,?_,?_,?_⟩
 ·rintro i σ' m' ⟨_,_,_,_,_,e,_⟩ p hp
  rw [List.mem_singleton] at hp; subst hp; exact e
 ·exact ⟨ρ,s,b + 1,[],L2,era,rra,S00,I20,rfl,by rw [S.ne]; have:=cls_le s.n s.r; exact z424 hn7 this,fun p hp=>(by cases hp),by simp,(z425 hb)⟩
 ·rintro i y w σ' m' hi ⟨tw,rfl⟩ ⟨ρ',s',b',prs,L',e',r',S',I',hnd,hcl,hpr,hpl,hb'⟩
  have hi3:i < 3:=by have:=(List.getElem?_eq_some_iff.mp hi).1; rw [List.length_range] at this; exact z426 hv this
  have hy:y < 4:=by have:=List.mem_range.mp (List.mem_of_getElem? hi); exact z427 hv this
  have hsn:s'.n = s.n:=by unfold St.n; rw [hnd]
  refine lq ?_; intro K
  refine xStore rfl rfl (List.mem_cons_self ..) ?_
  have L':=L'.vars (m':=m'.set "turn" (.int (y:Nat) tw)) rfl rfl rfl rfl
  obtain mturn:(m'.set "turn" (.int (y:Nat) tw)) "turn" = some (.int (y:Nat) tw):=rfl
  generalize m'.set "turn" (.int (y:Nat) tw) = m1 at *
  obtain ⟨pvs',pk',ep',_⟩:=L'.pr
  refine lq ?_; intro K
  refine xCons (lq ?_); intro K
  refine xExpr (xCallMeth (xName (xLoad rfl L'.mp fun pl'=>xOp (oMethAppend ep' ⟨kept_builtin _,(xTuple (evCons ?_))⟩))))
  refine lNextRows O hR L' (z428 hb' hi3) (z407 hn hsl) (z429 hn7 hsl) fun v1 tv1 σ3 hv1 le3 L3=>evCons ?_
  obtain e3:=le3.rng (L'.T.dict.choose_spec.1) (L'.T.dict.choose_spec.2) e'
  refine lNextRows O hR L3 (z430 hb' hi3) (z407 hn hsl) (z429 hn7 hsl) fun v2 tv2 σ4 hv2 le4 L4=>fun pr hpr'=>evNil ?_
  obtain e4:=le4.rng (L3.T.dict.choose_spec.1) (L3.T.dict.choose_spec.2) e3
  obtain L5:=L4.le (Le.new (o:=tup [.int (v1:Nat) tv1,.int (v2:Nat) tv2] 0) hpr')
  obtain e5:(σ4.set pr (tup [.int (v1:Nat) tv1,.int (v2:Nat) tv2] 0)) ra = some (rng 0 (v:Nat) 1 rt ru rv):=Store.set_new hpr' e4
  obtain N5:PairAt (σ4.set pr (tup [.int (v1:Nat) tv1,.int (v2:Nat) tv2] 0)) (.ref pr) (v1,v2):=⟨pr,tv1,tv2,0,rfl,Store.set_same ..⟩
  generalize (σ4.set pr (tup [.int (v1:Nat) tv1,.int (v2:Nat) tv2] 0)) = σ5 at *
  revert σ5; refine keep ?_; intro σ5; set_option tactic.hygienic false in intros
  refine lG ?_; intro G
  obtain ⟨pvs,pk,ep,hp2⟩:=L5.pr
  refine lq ?_; intro K
  refine xOp (oAppend ep (by rw [← hp2.length]; exact z431 hpl hi3) fun n'=>?_)
  obtain L6:=L5.pair (n:=n') ep hp2 N5
  obtain N6:PairAt (σ5.set pl (lst (pvs ++ [.ref pr]) n')) (.ref pr) (v1,v2):=N5.mono fun x o ho e=>(LW.list0 (ρ:=ρ') ep L5.rp) x o (.inr ho) e
  obtain e6:(σ5.set pl (lst (pvs ++ [.ref pr]) n')) ra = some (rng 0 (v:Nat) 1 rt ru rv):=(Store.set_ne (fun q=>by subst q; exact lst_rng ep e5)).trans e5
  obtain ep6:(σ5.set pl (lst (pvs ++ [.ref pr]) n')) pl = some (lst (pvs ++ [.ref pr]) n'):=Store.set_same ..
  generalize (σ5.set pl (lst (pvs ++ [.ref pr]) n')) = σ6 at *
  revert σ6; refine keep ?_; intro σ6; set_option tactic.hygienic false in intros
  refine lG ?_; intro G
  obtain ⟨_,t1,t2,k6,q,epr⟩:=N6
  refine lG ?_; intro G
  cases q
  dsimp only at epr
  refine lq ?_; intro K
  refine xLast (lq ?_); intro K
  refine xExpr (xCallMeth (xName (xLoad rfl L6.mh fun pl'=>?_)))
  refine lG ?_; intro G
  obtain ⟨th,Ih⟩:=L6.I.H.inst
  refine lq ?_; intro K
  refine xOp (oGetMethod O Ih rfl rfl ⟨kept_fn O (fdHMerge _).2,?_⟩)
  refine lqE ?_; intro K
  refine (xItem (xSubscript (T:="list") list_getitem_lookup (xName (xLoad rfl L6.mp (xNeg1 fun t7=>⟨Ty.ref ep6 rfl,xOp (oItemLast ep6 ?_)⟩)))))
  refine lq ?_; intro K
  refine xInt fun t8=>⟨pr,_,k6,0,t8,_,rfl,rfl,.inr epr,z101,rfl,?_⟩
  refine lqE ?_; intro K
  refine (xItem (xSubscript (T:="list") list_getitem_lookup (xName (xLoad rfl L6.mp (xNeg1 fun t7=>⟨Ty.ref ep6 rfl,xOp (oItemLast ep6 ?_)⟩)))))
  refine lq ?_; intro K
  refine xInt fun t9=>⟨pr,_,k6,1,t9,_,rfl,rfl,.inr epr,z290,rfl,?_⟩
  refine lqE ?_; intro K
  refine (xTuple (evCons (xStr fun t10=>evCons (xBinOp (xStr fun t11=>xCallT O boot_str rfl rfl (evCons (xName (xLoad rfl mturn (evNil ?_)))))))))
  refine lq ?_; intro K
  refine xOp (oStrNat (z432 hy) fun xs ts hxs=>xOp (oAddStr (by have:("m":Str).length = 1:=rfl; exact z433 hxs this) fun zs tz=>fun rv' hrv=>evNil ?_))
  obtain L7:=L6.le (Le.new (o:=tup [.str "told" t10,.str zs tz] 0) hrv)
  obtain e7:(σ6.set rv' (tup [.str "told" t10,.str zs tz] 0)) ra = some (rng 0 (v:Nat) 1 rt ru rv):=Store.set_new hrv e6
  generalize (σ6.set rv' (tup [.str "told" t10,.str zs tz] 0)) = σ7 at *
  revert σ7; refine keep ?_; intro σ7; set_option tactic.hygienic false in intros
  obtain hmore:∀ p ∈ prs,p ∈ prs ++ [(v1,v2)]:=fun p hp=>List.mem_append.mpr (.inl hp)
  obtain hv1':v1 < s'.n:=(z434 hsl hsn hv1)
  obtain hv2':v2 < s'.n:=(z434 hsl hsn hv2)
  refine lG ?_; intro G
  obtain ⟨S8,I8,c8⟩:=s0_mg (S'.more hmore) I' hv1' hv2' (List.mem_append.mpr (.inr (List.mem_singleton.mpr rfl))) (z435 hcl hi3)
  refine lq ?_; intro K
  refine xOp (oOf (cHMerge O (hR.mono z436) L7.I hv1' hv2' S'.bd fun v' σ8 ρ8 X8 I8'=>?_))
  obtain I8':HInv P X ρ8 σ8 (mg s' v1 v2):=I8'
  refine ⟨ρ8,mg s' v1 v2,b' + 1 + 1,prs ++ [(v1,v2)],L7.heap X8 I8',X8.kp _ _ (.inl r') e7,(X8.rol _ (ne_none e7)).trans r',S8,I8,(mg_nodes ..).trans hnd,?_,?_,?_,(z437 hb')⟩
  ·have:(mg s' v1 v2).n = s'.n:=by unfold St.n; rw [mg_nodes]
   rw [this]; exact z438 hcl c8
  ·intro p hp
   refine lG ?_; intro G
   rcases List.mem_append.mp hp with hp | hp
   ·exact ⟨(hpr p hp).1,(hpr p hp).2.1,mg_same (hpr p hp).2.2⟩
   ·rw [List.mem_singleton] at hp; subst hp; exact ⟨by omega,by omega,mg_one⟩
  ·rw [List.length_append,List.length_singleton]; exact z127 hpl
 ·rintro σ' m' ⟨ρ',s',b',prs,L',e',r',S',I',hnd,hcl,hpr,hpl,hb'⟩
  rw [List.length_range] at hpl hb'
  exact h σ' m' ρ' s' b' prs (z439 hv hb') L' S' I' hnd (z440 hv hpl) hpr
end
section
variable {P:Par} {A:Around} {env:Env} {W:List Addr} {α β:Type} {σ σ':Store} {m:Vars} {X:HA} {ρ ρ':Addr→Nat} {tp cl rl pl:Addr} {b:Nat} {s:St} {rws:List Node} {prs:List (Nat × Nat)}
theorem law4 (O:P.Ok) {L lf:Addr} {lc:Value} {Q:Flow→Store→Vars→Prop} (hR:Rm A 40) (hL:LW P X ρ σ m tp cl rl pl b s s.nodes prs) (S:S0 prs s) (I:I2 s noOne) (hpr:∀ p ∈ prs,s.r p.1 = s.r p.2)
  (h:∀ σ' m' ρ' s',LW P X ρ' σ' m' tp cl rl pl b s' s'.nodes prs→S0 prs s'→I2 s' noOne→s'.waiting = []→s'.nodes = s.nodes→(∀ p ∈ prs,s'.r p.1 = s'.r p.2)→Q .next σ' m') :
  WP P A (lawE P L lf lc) (wrOf (lawE P L lf lc)) (exec (lawS P.w.params 4) (lawE P L lf lc)) σ m Q:=by
 obtain hh:=hR.handled
 refine lG ?_; intro G
 obtain ⟨th,Ih⟩:=hL.I.H.inst
 refine xExpr (lq ?_); intro K
 refine xCallMeth (xName (xLoad rfl hL.mh fun pl'=>?_))
 refine xOp (oGetMethod O Ih rfl rfl ⟨kept_fn O (fdSettle _).2,evNil ?_⟩)
 refine xOp (oOf (cSettle O (hR.mono z441) hL.I (fun s'=>S0 prs s'∧I2 s' noOne∧s'.nodes = s.nodes∧∀ p ∈ prs,s'.r p.1 = s'.r p.2) mu ⟨S,I,rfl,hpr⟩ ?_ ?_ ?_ ?_))
 ·rintro s' ws n ⟨S',I',_,_⟩ hw
  refine lG ?_; intro G
  obtain ⟨h1,h2,_⟩:=s0_settle S' I' hw
  exact ⟨h1,h2.bd⟩
 ·rintro s' ⟨S',_⟩; have:=S'.mu; exact z338 this
 ·rintro s' ws n ⟨S',I',hn,hp⟩ hw
  refine lG ?_; intro G
  obtain ⟨h1,h2,h3,h4,h5⟩:=s0_settle S' I' hw
  exact ⟨⟨h3,h4,(lk_nodes ..).trans hn,fun p hp'=>lk_same (hp p hp')⟩,h5⟩
 ·rintro s' σ' ρ' ⟨S',I',hn,hp⟩ hw X' I3
  exact h σ' m ρ' s' (hn ▸ hL.heap X' I3) S' I' hw hn hp
structure LV (P:Par) (X:HA) (ρ:Addr→Nat) (σ:Store) (m:Vars) (tp cl rl hl gi gd:Addr) (b:Nat) (s:St) (hs:List Nat):Prop where
 T:Tape P σ tp cl b
 I:HInv P X ρ σ s
 rw:RowsAt σ rl s.nodes
 ho:HomesAt σ hl hs
 gr:IsI σ gi gd 95 (gInst X)
 rt:ρ tp = 0
 n1:gd≠tp
 n2:gi≠tp
 mt:m "tape" = some (.ref tp)
 mh:m "heap" = some (.ref X.h)
 mr:m "rows" = some (.ref rl)
 mo:m "homes" = some (.ref hl)
 mg:m "grammar" = some (.ref gi)
variable {hl gi gd:Addr} {hs:List Nat}
theorem LV.le (L:LV P X ρ σ m tp cl rl hl gi gd b s hs) (h:Le σ σ'):LV P X ρ σ' m tp cl rl hl gi gd b s hs :=
 ⟨L.T.le h,L.I.le h,L.rw.le h,L.ho.le h,L.gr.ext (fun o e=>h _ _ e) (fun o e=>h _ _ e),L.rt,L.n1,L.n2,L.mt,L.mh,L.mr,L.mo,L.mg⟩
theorem LV.vars {m':Vars} (L:LV P X ρ σ m tp cl rl hl gi gd b s hs) (h1:m' "tape" = m "tape") (h2:m' "heap" = m "heap") (h3:m' "rows" = m "rows") (h4:m' "homes" = m "homes") (h5:m' "grammar" = m "grammar"):LV P X ρ σ m' tp cl rl hl gi gd b s hs :=
 ⟨L.T,L.I,L.rw,L.ho,L.gr,L.rt,L.n1,L.n2,h1.trans L.mt,h2.trans L.mh,h3.trans L.mr,h4.trans L.mo,h5.trans L.mg⟩
theorem LV.tape {b':Nat} (L:LV P X ρ σ m tp cl rl hl gi gd b s hs) (h:LeB tp σ σ') (T':Tape P σ' tp cl b'):LV P X ρ σ' m tp cl rl hl gi gd b' s hs:=by
 refine lG ?_; intro G
 obtain ⟨o,et,hd⟩:=L.T.dict
 have ht:=h.tup et hd
 refine lG ?_; intro G
 obtain ⟨hvs,hk',eh,hN⟩:=L.ho
 obtain ⟨rvs,rk,er,hr2⟩:=L.rw
 have n4:rl≠tp:=fun q=>by subst q; exact lst_dict er et hd
 have n5:hl≠tp:=fun q=>by subst q; exact lst_dict eh et hd
 refine ⟨T',L.I.keep (fun a o hC e=>?_),⟨rvs,rk,h _ _ n4 er,hr2.mono fun p v q=>q.mono ht⟩,⟨hvs,hk',h _ _ n5 eh,hN⟩,L.gr.ext (fun o e=>h _ _ L.n2 e) (fun o e=>h _ _ L.n1 e),L.rt,L.n1,L.n2,L.mt,L.mh,L.mr,L.mo,L.mg⟩
 rcases hC with hC | hC
 ·exact h a o (fun q=>hC (q ▸ L.rt)) e
 ·exact ht a o hC e
structure Fin (prs:List (Nat × Nat)) (s:St) (hs:List Nat):Prop where
 S:S0 prs s
 I:I2 s noOne
 w:s.waiting = []
 ar:Arn s.nodes
 n2:2≤s.n
 len:hs.length = s.n
 hr:∀ x,x < s.n→s.r x = hk hs x
set_option maxHeartbeats 1000000 in
theorem law5 (O:P.Ok) {L lf:Addr} {lc:Value} {Q:Flow→Store→Vars→Prop} (hR:Rm A 40) (hL:LW P X ρ σ m tp cl rl pl b s s.nodes prs) (S:S0 prs s) (I:I2 s noOne) (hw:s.waiting = []) (har:Arn s.nodes) (h2:2≤s.n)
  (hpr:∀ p ∈ prs,p.1 < s.n∧p.2 < s.n∧s.r p.1 = s.r p.2) (hpl:prs.length≤3)
  (h:∀ σ' m' hl gi gd hs,LV P X ρ σ' m' tp cl rl hl gi gd b s hs→Fin prs s hs→Q .next σ' m') :
  WP P A (lawE P L lf lc) (wrOf (lawE P L lf lc)) (exec (lawS P.w.params 5) (lawE P L lf lc)) σ m Q:=by
 obtain hh:=hR.handled
 obtain hsl:s.nodes.length = s.n:=rfl
 obtain h7:=S.n7
 refine lq ?_; intro K
 refine xAssignTuple2 hh (lq ?_); intro K
 refine xTuple (xCallName (xName (xLoadGlobal O rfl rfl ⟨kept_fn O (fdLHomes _).2,evCons (xName (xLoadCell rfl rfl hL.mr (evCons (xName (xLoad rfl hL.mp (evNil ?_))))))⟩)))
 refine lq ?_; intro K
 refine xOp (oOf (cLHomes O (hR.mono z386) (z442 hsl h7) S.wfn (fun nd hnd=>by have:=har nd hnd; exact z414 this) hL.rw hL.pr (fun p hp=>⟨(hpr p hp).1,(hpr p hp).2.1⟩) (z443 hpl) fun hs hl σ1 le1 HA HO hcp hcl=>?_))
 obtain L1:=hL.le le1
 refine lqE ?_; intro K
 refine (lq ?_); intro K
 refine xCallName (xName (xLoadGlobal O rfl rfl ⟨kept_cls O (by rfl),evCons (xName (xLoad rfl L1.mh (evNil ?_)))⟩))
 refine xOp (lo ?_); intro K
 refine oOf (oMake O (by rfl) fun x d hx hd hxd Ix=>cGInit O (rm_make (hR.mono z444:Rm A 5)) Ix fun σ2 lb I2'=>⟨rfl,?_⟩)
 obtain le2:Le σ1 σ2:=fun a o e=>by
  obtain hax:a≠x:=fun q=>by subst q; rw [hx] at e; exact nn e
  obtain had:a≠d:=fun q=>by subst q; rw [hd] at e; exact nn e
  refine lb a o had ?_
  rw [Store.set_ne hax,Store.set_ne had]; exact e
 refine fun tt htt=>⟨tt,_,_,0,rfl,.inr (Store.set_same ..),?_⟩
 have le3:Le σ1 (σ2.set tt (tup [.ref hl,.ref x] 0)):=le2.trans (Le.new htt)
 have I3:=I2'.ext (σ':=σ2.set tt (tup [.ref hl,.ref x] 0)) (fun o e=>Store.set_new htt e) (fun o e=>Store.set_new htt e)
 generalize (σ2.set tt (tup [.ref hl,.ref x] 0)) = σ3 at *
 refine xStoreCell rfl rfl (fun c hc=>mem_wrOf hc) ?_
 refine xStore rfl rfl (List.mem_cons_self ..) ?_
 have L3:=L1.le le3
 refine lG ?_; intro G
 obtain ⟨o,et,_⟩:=L1.T.dict
 refine h σ3 _ hl x d hs ⟨L3.T,L3.I,L3.rw,HA.le le3,I3,L3.rt,fun q=>(by subst q; rw [hd] at et; exact nn et),fun q=>(by subst q; rw [hx] at et; exact nn et),L3.mt,L3.mh,L3.mr,rfl,rfl⟩
  ⟨S,I,hw,har,h2,HO.len,fun x hx=>same_homes S I hw (fun p hp=>(hpr p hp).2.2) HO hcp hcl hx⟩
end
section
variable {P:Par} {A:Around} {env:Env} {W:List Addr} {α β:Type} {σ σ':Store} {m:Vars} {X:HA} {ρ ρ':Addr→Nat} {tp cl rl pl:Addr} {b:Nat} {s:St} {rws:List Node} {prs:List (Nat × Nat)}
variable {hl gi gd:Addr} {hs:List Nat}
def BelowH (s:St) (hs:List Nat) (n x:Nat):Prop:=∃ i,i < s.n∧hk hs i = n∧∃ k,k ∈ (s.nd i).2∧x = hk hs k
def BelowAt (σ:Store) (s:St) (hs:List Nat) (n:Nat) (v:Value):Prop:=(X4 fun a ws k ms=>N5 (v = .ref a) (σ a = some (lst ws k)) (Ns ws ms) (Asc ms) (∀ x,x ∈ ms ↔ BelowH s hs n x))
theorem lst_nd {vs:List Value} {k:Nat}:(lst vs k).cls≠.type "dict":=fun q=>by injection q with q; exact absurd q (by decide)
theorem hk_lt (F:Fin prs s hs) {x:Nat} (hx:x < s.n):hk hs x < s.n:=by
 rw [← F.hr x hx]; exact F.S.wf.lt hx
set_option maxHeartbeats 4000000 in
theorem law6 (O:P.Ok) {L lf:Addr} {lc:Value} {Q:Flow→Store→Vars→Prop} (hR:Rm A 40) (hL:LV P X ρ σ m tp cl rl hl gi gd b s hs) (F:Fin prs s hs)
  (h:∀ σ' m' D l,LV P X ρ σ' m' tp cl rl hl gi gd b s hs→m' "below_it" = some (.ref D)→DN P σ' D l→D≠tp→(∀ n ∈ hs,∃ v,l.lookup n = some v∧BelowAt σ' s hs n v)→Q .next σ' m') :
  WP P A (lawE P L lf lc) (wrOf (lawE P L lf lc)) (exec (lawS P.w.params 6) (lawE P L lf lc)) σ m Q:=by
 obtain hh:=hR.handled
 have hsl:s.nodes.length = s.n:=rfl
 have h7:=F.S.n7
 have hlen:=F.len
 refine lG ?_; intro G
 obtain ⟨hvs,hkk,eh,hN⟩:=hL.ho
 refine lG ?_; intro G
 obtain ⟨rvs,rk,er,hr2⟩:=hL.rw
 refine lq ?_; intro K
 refine xAssignDictCompG1 (cn:="home") ⟨rfl,rfl,rfl,rfl,rfl,fun _=>rfl,fun _=>rfl⟩ (xName (xLoadCell rfl rfl hL.mo ?_))
 refine compGoD1_n hs [(hl,lst hvs hkk)] (fun n v σ=>BelowAt σ s hs n v) (srx_list hh (Ns.all2.mp hN)) (fun p hp=>by rw [List.mem_singleton] at hp; subst hp; exact ⟨eh,lst_nd⟩) (z429 h7 hlen) ?_ (fun _ _=>rfl) rfl ?_ ?_
 ·rintro n v σ1 σ2 ⟨a,ws,k,ms,rfl,ea,hx,hx2,hx3⟩ hkp
  exact ⟨a,ws,k,ms,rfl,hkp _ _ lst_nd ea,hx,hx2,hx3⟩
 ·intro C B y t σ1 m1 hy hle hm hmx
  refine lq ?_; intro K
  refine xSortedSet O (hR.mono z412) rfl rfl rfl rfl ?_
  refine lq ?_; intro K
  refine xListCompG ⟨rfl,rfl,rfl,rfl,rfl⟩ ?_
  refine lq ?_; intro K
  refine xCallT O boot_enumerate rfl rfl (xName (xLoadCell rfl rfl ((hm _ (by decide)).trans hL.mr) (evNil ?_)))
  obtain L1:=hL.le hle
  have er1:=hle _ _ er
  have eh1:=hle _ _ eh
  refine lq ?_; intro K
  refine xOp (oEnumerate er1 fun e it oe oi he hit hne hIe hIi=>?_)
  refine compGo_enum (k₀:=rk) s.nodes (fun nd v=>NodeAt σ1 v nd) (fun i=>decide (hk hs i = y)) (fun nd=>nd.2) (hk hs) hh hne (fun q=>?_) (fun q=>?_) hIe hIi ((Le.new hit).set (none_less (Le.refl _) he)) (Store.set_same ..) ((Store.set_ne hne.symm).trans (Store.set_same ..)) he hit er1 (hr2.mono fun nd v q=>q.mono fun a o _ e=>hle a o e) (z445 hsl h7) (fun nd hnd=>by have:=F.ar nd hnd; exact z446 this) (fun _=>rfl) rfl (fun _=>rfl) rfl (fun _=>rfl) rfl rfl (by decide) ?_ ?_ ?_ ?_
  ·subst q; rw [er1] at he; exact ns he
  ·subst q; rw [er1] at hit; exact ns hit
  ·intro C2 i nd v t2 σ2 m2 hi hNd hle2 hm2 hmn hmr
   have hiN:i < s.n:=(List.getElem?_eq_some_iff.mp hi).1
   obtain ehi:hs[i]? = some (hk hs i):=by unfold hk; rw [List.getElem?_eq_getElem (z108 hlen hiN)]; rfl
   refine lG ?_; intro G
   obtain ⟨tv,htv⟩:=hN.get ehi
   refine lq ?_; intro K
   refine xTrueCompare (lq ?_); intro K
   refine xItem (xName (xLoadCell rfl rfl ((hm2 _ (by decide) (by decide) (by decide)).trans ((hm _ (by decide)).trans hL.mo)) (xName (xLoad rfl hmn ⟨hl,hvs,hkk,i,t2,_,rfl,rfl,.inl (hle2 _ _ eh1),(z447 h7 hiN),htv,?_⟩))))
   refine lq ?_; intro K
   refine xName (xLoadCell rfl rfl ((hm2 _ (by decide) (by decide) (by decide)).trans hmx) (xOp (oEq (xTruthyBool ⟨fun hb=>?_,fun hb=>?_⟩))))
   ·have:hk hs i = y:=Int.ofNat.inj (by simpa using hb)
    exact ⟨(decide_eq_true this).symm,rfl,rfl⟩
   ·have:¬ hk hs i = y:=fun q=>(by simpa using hb:¬ ((hk hs i:Nat):Int) = (y:Nat)) (by rw [q])
    exact ⟨(decide_eq_false this).symm,rfl,rfl⟩
  ·intro C2 i nd v t2 σ2 m2 hi hNd hle2 hm2 hmn hmr
   refine lG ?_; intro G
   obtain ⟨ra,rkk,tr,kvs,rfl,era,hNk⟩:=hNd
   obtain har:=F.ar nd (List.mem_of_getElem? hi)
   refine lq ?_; intro K
   refine xSliceTail (xName (xLoad rfl hmr (xInt fun t6=>?_)))
   exact ⟨ra,_,kvs,rkk,t6,rfl,rfl,hle2 _ _ era,by rw [hNk.length]; exact z263 har,fun l6 σ₆ le6 hl6 el6=>⟨rfl,le6,l6,kvs,rfl,el6,hNk⟩⟩
  ·intro C2 nd w t2 σ2 m2 hnd hw hle2 hm2 hmk
   refine lG ?_; intro G
   obtain ⟨i,hi⟩:=List.mem_iff_getElem?.mp hnd
   obtain hiN:i < s.n:=(List.getElem?_eq_some_iff.mp hi).1
   obtain hwn:w < s.n:=Nat.lt_trans (F.S.wfn i nd hi w hw) hiN
   have ehi:hs[w]? = some (hk hs w):=by unfold hk; rw [List.getElem?_eq_getElem (z108 hlen hwn)]; rfl
   refine lG ?_; intro G
   obtain ⟨tv,htv⟩:=hN.get ehi
   refine lq ?_; intro K
   exact xItem (xName (xLoadCell rfl rfl ((hm2 _ (by decide) (by decide) (by decide)).trans ((hm _ (by decide)).trans hL.mo)) (xName (xLoad rfl hmk ⟨hl,hvs,hkk,w,t2,_,rfl,rfl,.inl (hle2 _ _ eh1),(z447 h7 hwn),htv,rfl,rfl,tv,rfl⟩))))
  ·intro D ws k σ2 ns hle2 hD eD hNs hmem hlen2
   have hmem':∀ w,w ∈ ns ↔ BelowH s hs y w:=fun w=>by
    rw [hmem]
    constructor
    ·rintro ⟨i,nd,hi,hp,hw⟩
     obtain hiN:i < s.n:=(List.getElem?_eq_some_iff.mp hi).1
     refine lG ?_; intro G
     obtain ⟨k',hk',rfl⟩:=List.mem_map.mp hw
     obtain hnd:s.nd i = nd:=Option.some.inj ((St.nd_get hiN).symm.trans hi)
     exact ⟨i,hiN,of_decide_eq_true hp,k',by rw [hnd]; exact hk',rfl⟩
    ·rintro ⟨i,hiN,hp,k',hk',rfl⟩
     exact ⟨i,s.nd i,St.nd_get hiN,decide_eq_true hp,List.mem_map.mpr ⟨k',hk',rfl⟩⟩
   refine ⟨D,ws,k,ns,rfl,eD,hNs,(z448 hsl h7 hlen2),fun x hx=>?_,fun ms b' ws' k' σ3 hasc hms le3 hb' eb' hN'=>?_⟩
   ·refine lG ?_; intro G
    obtain ⟨i,hiN,_,k',hk',rfl⟩:=(hmem' x).mp hx
    obtain hk2:k' < s.n:=F.S.kid hiN hk'
    have:=hk_lt F hk2; omega
   ·exact ⟨hle2.trans le3,rfl,b',ws',k',ms,rfl,eb',hN',hasc,fun x=>(hms x).trans (hmem' x)⟩
 ·intro D l σ1 le1 hD Dn hall
  refine lq ?_; intro K
  refine xStore rfl rfl (List.mem_cons_self ..) ?_
  refine lG ?_; intro G
  obtain ⟨o,et,_⟩:=hL.T.dict
  exact h σ1 _ D l ((hL.le le1).vars rfl rfl rfl rfl rfl) rfl Dn (fun q=>by subst q; rw [et] at hD; exact ns hD) hall
end
section
variable {P:Par} {A:Around} {env:Env} {W:List Addr} {α β:Type} {σ σ':Store} {m:Vars} {X:HA} {ρ ρ':Addr→Nat} {tp cl rl pl:Addr} {b:Nat} {s:St} {rws:List Node} {prs:List (Nat × Nat)}
variable {hl gi gd:Addr} {hs:List Nat}
theorem reach_root (S:S0 prs s) {c x:Nat} (hc:c < s.n) (h:Reach s c x):x < s.n∧s.r x = x:=by
 refine ⟨h.lt S.wf S.wfn hc,?_⟩
 cases h with
 | base=>exact S.wf.idem _ hc
 | step h1 h2 =>
  obtain ⟨m,hm,_,k,hk,rfl⟩:=h2
  exact S.wf.idem _ (S.kid hm hk)
structure FarOk (s:St) (c i:Nat) (fs:List Nat):Prop where
 nd:fs.Nodup
 re:∀ x ∈ fs,Reach s c x
 st:s.r c ∈ fs
 cl:∀ (j y:Nat),j < i→fs[j]? = some y→∀ x,Below s y x→x ∈ fs
theorem FarOk.start (s:St) (c:Nat):FarOk s c 0 [s.r c] :=
 ⟨by simp,fun x hx=>by rw [List.mem_singleton] at hx; subst hx; exact .base,by simp,fun j y h=>(Nat.not_lt_zero _ h).elim⟩
theorem FarOk.step {c i y:Nat} {fs ms:List Nat} (H:FarOk s c i fs) (hy:fs[i]? = some y) (ha:Asc ms) (hm:∀ x,x ∈ ms ↔ Below s y x):FarOk s c (i + 1) (fs ++ ms.filter fun x=>decide (x ∉ fs)):=by
 have hyr:=H.re y (List.mem_of_getElem? hy)
 refine ⟨?_,fun x hx=>?_,List.mem_append.mpr (.inl H.st),fun j z hj hz x hx=>?_⟩
 ·refine List.nodup_append.mpr ⟨H.nd,(ha.imp fun h=>Nat.ne_of_lt h).filter _,fun x hx z hz=>?_⟩
  rintro rfl
  have:=(List.mem_filter.mp hz).2
  exact (of_decide_eq_true this) hx
 ·rcases List.mem_append.mp hx with hx | hx
  ·exact H.re x hx
  ·exact .step hyr ((hm x).mp (List.mem_filter.mp hx).1)
 ·have hil:i < fs.length:=(List.getElem?_eq_some_iff.mp hy).1
  rw [List.getElem?_append_left (z449 hj hil)] at hz
  rcases Nat.lt_succ_iff_lt_or_eq.mp hj with hj | rfl
  ·exact List.mem_append.mpr (.inl (H.cl j z hj hz x hx))
  ·rw [hy] at hz; cases hz
   by_cases q:x ∈ fs
   ·exact List.mem_append.mpr (.inl q)
   ·exact List.mem_append.mpr (.inr (List.mem_filter.mpr ⟨(hm x).mpr hx,decide_eq_true q⟩))
theorem FarOk.fin {c i:Nat} {fs:List Nat} (H:FarOk s c i fs) (hi:fs.length≤i) (x:Nat):x ∈ fs ↔ Reach s c x:=by
 refine ⟨H.re x,fun h=>?_⟩
 induction h with
 | base=>exact H.st
 | step _ h2 ih =>
  obtain ⟨j,hj⟩:=List.mem_iff_getElem?.mp ih
  exact H.cl j _ (Nat.lt_of_lt_of_le (List.getElem?_eq_some_iff.mp hj).1 hi) hj _ h2
theorem FarOk.len (S:S0 prs s) {c i:Nat} {fs:List Nat} (hc:c < s.n) (H:FarOk s c i fs):fs.length≤7:=by
 have:=nodup_le (n:=s.n) H.nd fun x hx=>(reach_root S hc (H.re x hx)).1
 have:=S.n7; omega
theorem any_mem (fs:List Nat) (y:Nat):(fs.map fun (n:Nat)=>(n:Int)).any (· == (y:Int)) = decide (y ∈ fs):=by
 rw [Bool.eq_iff_iff,List.any_eq_true,decide_eq_true_eq]
 constructor
 ·rintro ⟨z,hz,e⟩
  obtain ⟨n,hn,rfl⟩:=List.mem_map.mp hz
  have:(n:Int) = (y:Int):=by simpa using e
  rwa [← Int.ofNat.inj this]
 ·intro h
  exact ⟨(y:Int),List.mem_map.mpr ⟨y,h,rfl⟩,by simp⟩
theorem belowH_iff (F:Fin prs s hs) {c x:Nat} (hc:c < s.n):BelowH s hs (hk hs c) x ↔ Below s c x:=(below_same F.S F.hr hc).symm
theorem root_home (F:Fin prs s hs) {y:Nat} (hy:y < s.n) (hr:s.r y = y):hk hs y = y∧y ∈ hs:=by
 have h1:hk hs y = y:=(F.hr y hy).symm.trans hr
 refine ⟨h1,?_⟩
 have hyl:y < hs.length:=by rw [F.len]; exact hy
 have:hs[y]? = some y:=by
  have:hk hs y = hs[y]:=by unfold hk; rw [List.getElem?_eq_getElem hyl]; rfl
  rw [List.getElem?_eq_getElem hyl,← this,h1]
 exact List.mem_of_getElem? this
theorem home_mem (F:Fin prs s hs) {y:Nat} (hy:y < s.n):hk hs y ∈ hs∧hs[y]? = some (hk hs y):=by
 have hyl:y < hs.length:=by rw [F.len]; exact hy
 have e:hs[y]? = some (hk hs y):=by unfold hk; rw [List.getElem?_eq_getElem hyl]; rfl
 exact ⟨List.mem_of_getElem? e,e⟩
end
section
variable {P:Par} {A:Around} {env:Env} {W:List Addr} {α β:Type} {σ σ':Store} {m:Vars} {X:HA} {ρ ρ':Addr→Nat} {tp cl rl pl:Addr} {b:Nat} {s:St} {rws:List Node} {prs:List (Nat × Nat)}
variable {hl gi gd:Addr} {hs:List Nat}
noncomputable def lawBd (p:Params) (i:Nat):List Stmt:=match lawS p i with | .For _ _ b _ _=>b | _=>[]
noncomputable def lawBS (p:Params) (i j:Nat):Stmt:=(lawBd p i).getD j (.Pass ⟨0,0,0,0⟩)
theorem Le.write {σb:Store} {a:Addr} {o:Obj} (h:Le σb σ) (hn:σb a = none):Le σb (σ.set a o):=fun x o' e=>by
 rw [Store.set_ne]
 ·exact h x o' e
 ·rintro rfl; rw [hn] at e; cases e
set_option maxHeartbeats 4000000 in
theorem lawFar (O:P.Ok) {L lf:Addr} {lc:Value} {Q:Flow→Store→Vars→Prop} (hR:Rm A 40) {σb:Store} (hL:LV P X ρ σb m tp cl rl hl gi gd b s hs) (F:Fin prs s hs) {D:Addr} {l:NKV} (mb:m "below_it" = some (.ref D)) (Dn:DN P σb D l)
  (hall:∀ n ∈ hs,∃ v,l.lookup n = some v∧BelowAt σb s hs n v) {c:Nat} (hc:c < s.n) {fa:Addr} {k₀:Nat} {t₀:Tok} (mf:m "far" = some (.ref fa)) (hb:Le σb σ) (hfb:σb fa = none) (ef:σ fa = some (lst [.int (s.r c:Nat) t₀] k₀))
  (h:∀ σ' m' ws k fs,Le σb σ'→(∀ z:Str,z≠"home"→m' z = m z)→σ' fa = some (lst ws k)→Ns ws fs→fs.Nodup→fs.length≤7→(∀ x,x ∈ fs ↔ Reach s c x)→Q .next σ' m') :
  WP P A (lawE P L lf lc) (wrOf (lawE P L lf lc)) (exec (lawBS P.w.params 7 1) (lawE P L lf lc)) σ m Q:=by
 obtain hh:=hR.handled
 obtain h7:=F.S.n7
 refine lq ?_; intro K
 refine xForGrow hh (lq ?_); intro K
 refine xName (xLoadCell rfl rfl mf ⟨fa,7,[.int (s.r c:Nat) t₀],fun i vs σ' m'=>(X2 fun fs k=>N5 (Le σb σ') (σ' fa = some (lst vs k)) (Ns vs fs) (FarOk s c i fs) (∀ z:Str,z≠"home"→m' z = m z)),rfl,?_,?_,?_,?_⟩)
 ·exact ⟨_,k₀,hb,ef,Ns.one _ _,FarOk.start s c,fun _ _=>rfl⟩
 ·rintro i vs σ' m' ⟨fs,k,hle,e,hN,H,hm⟩
  exact ⟨by rw [hN.length]; exact H.len F.S hc,k,e⟩
 ·rintro i vs v σ' m' hv ⟨fs,k,hle,e,hN,H,hm⟩
  refine lG ?_; intro G
  obtain ⟨y,ty,hy,rfl⟩:=hN.of hv
  have hl7:=H.len F.S hc
  refine lG ?_; intro G
  obtain ⟨hyn,hyr⟩:=reach_root F.S hc (H.re y (List.mem_of_getElem? hy))
  refine lG ?_; intro G
  obtain ⟨hyh,hym⟩:=root_home F hyn hyr
  refine lG ?_; intro G
  obtain ⟨w,hlk,a,ws,kk,ms,rfl,ea,hNs,hasc,hms⟩:=hall y hym
  have hms':∀ x,x ∈ ms ↔ Below s y x:=fun x=>(hms x).trans (by rw [← belowH_iff F hyn,hyh])
  refine lq ?_; intro K
  refine xStore rfl rfl (List.mem_cons_self ..) ?_
  have hm1:∀ z:Str,z≠"home"→(m'.set "home" (.int (y:Nat) ty)) z = m z:=fun z hz=>by
   show (if z = "home" then _ else m' z) = _
   rw [if_neg hz]; exact hm z hz
  have mho:(m'.set "home" (.int (y:Nat) ty)) "home" = some (.int (y:Nat) ty):=rfl
  generalize m'.set "home" (.int (y:Nat) ty) = m1 at *
  revert m1; refine keep ?_; intro m1; set_option tactic.hygienic false in intros
  refine lq ?_; intro K
  refine xLast (lq ?_); intro K
  refine xExpr (xCallMeth (xName (xLoadCell rfl rfl ((hm1 _ (by decide)).trans mf) fun pl=>xOp (oMethExtend e ⟨kept_builtin _,evCons (xListCompG ⟨rfl,rfl,rfl,rfl,rfl⟩ ?_)⟩))))
  have Dn1:DN P σ' D l:=Dn.keep fun o _ e=>hle _ _ e
  refine lq ?_; intro K
  refine xSubscript (T:="dict") slot_dict_getitem.lookup (xName (xLoad rfl ((hm1 _ (by decide)).trans mb) (xName (xLoad rfl mho ⟨Dn1.ty,xOp (oDGet Dn1 hlk ?_)⟩))))
  have hms7:ms.length≤7:=by
   have:=nodup_le (n:=s.n) (hasc.imp fun h=>Nat.ne_of_lt h) fun x hx=>by
    refine lG ?_; intro G
    obtain ⟨_,_,_,k',hk',rfl⟩:=(hms' x).mp hx
    exact F.S.wf.lt (F.S.kid ‹_› hk')
   exact z236 h7 this
  refine compGo_map ms _ _ (fun x=>decide (x ∉ fs)) (fun y v _=>∃ t,v = .int (y:Nat) t) (srx_list (k:=kk) hh (Ns.all2.mp hNs)) (fun p hp=>by rw [List.mem_singleton] at hp; subst hp; exact hle _ _ ea) (z450 hms7) (fun _ _ _ _ h _=>h) (fun _=>rfl) rfl rfl ?_ ?_
  ·rintro C x v σ2 m2 hx ⟨u,rfl⟩ hle2 hm2 hmx
   refine ⟨xTrueCompare (xName (xLoad rfl hmx (xName (xLoadCell rfl rfl ((hm2 _ (by decide)).trans ((hm1 _ (by decide)).trans mf)) (xOp (oNotInI (hle2 _ _ e) hN.ints (xTruthyBool ⟨fun hb=>?_,fun hb=>?_⟩))))))),fun _=>?_⟩
   ·rw [any_mem] at hb
    have:x ∉ fs:=by simpa using hb
    exact ⟨(decide_eq_true this).symm,rfl,rfl⟩
   ·rw [any_mem] at hb
    have:x ∈ fs:=by simpa using hb
    exact ⟨(decide_eq_false (fun q=>q this)).symm,rfl,rfl⟩
   ·refine lq ?_; intro K
    exact xName (xLoad rfl hmx ⟨Le.refl _,rfl,u,rfl⟩)
  ·intro D2 ws2 k2 σ2 le2 hD2 eD2 h2
   have hN2:Ns ws2 (ms.filter fun x=>decide (x ∉ fs)):=Ns.all2.mpr h2
   have hl2:(ms.filter fun x=>decide (x ∉ fs)).length≤ms.length:=List.length_filter_le ..
   refine lqE ?_; intro K
   refine evNil (xOp (oExtend (le2 _ _ e) eD2 (by rw [hN.length,hN2.length]; exact z451 hl7 hms7 hl2) fun n'=>?_))
   exact ⟨vs ++ ws2,_,n',Le.write (hle.trans le2) hfb,Store.set_same ..,hN.append hN2,H.step hy hasc hms',hm1⟩
 ·rintro i vs σ' m' hi ⟨fs,k,hle,e,hN,H,hm⟩
  exact h σ' m' vs k fs hle hm e hN H.nd (H.len F.S hc) (H.fin (by rw [← hN.length]; exact hi))
end
section
variable {P:Par} {A:Around} {env:Env} {W:List Addr} {α β:Type} {σ σ':Store} {m:Vars} {X:HA} {ρ ρ':Addr→Nat} {tp cl rl pl:Addr} {b:Nat} {s:St} {rws:List Node} {prs:List (Nat × Nat)}
variable {hl gi gd:Addr} {hs:List Nat}
theorem lawIf1 (O:P.Ok) {L lf:Addr} {lc:Value} {Q:Flow→Store→Vars→Prop} (hR:Rm A 40) (hL:LV P X ρ σ m tp cl rl hl gi gd b s hs) (F:Fin prs s hs) {D:Addr} {l:NKV} (mb:m "below_it" = some (.ref D)) (Dn:DN P σ D l)
  (hall:∀ n ∈ hs,∃ v,l.lookup n = some v∧BelowAt σ s hs n v) {c:Nat} {tc:Tok} (hc:c < s.n) (mn:m "n" = some (.int (c:Nat) tc)) {fa:Addr} {fs:List Nat} {fv:List Value} {fk:Nat} (mf:m "far" = some (.ref fa)) (ef:σ fa = some (lst fv fk)) (hNf:Ns fv fs) (hnd:fs.Nodup) (hf7:fs.length≤7)
  (hfs:∀ x,x ∈ fs ↔ Reach s c x) (h:∀ σ',Le σ σ'→Q .next σ' m) :
  WP P A (lawE P L lf lc) (wrOf (lawE P L lf lc)) (exec (lawBS P.w.params 7 2) (lawE P L lf lc)) σ m Q:=by
 obtain hh:=hR.handled
 obtain h7:=F.S.n7
 refine lG ?_; intro G
 obtain ⟨hmem,hget⟩:=home_mem F hc
 refine lG ?_; intro G
 obtain ⟨w,hlk,a,ws,kk,ms,rfl,ea,hNs,hasc,hms⟩:=hall _ hmem
 refine lG ?_; intro G
 obtain ⟨hvs,hkk,eh,hN⟩:=hL.ho
 refine lG ?_; intro G
 obtain ⟨tv,htv⟩:=hN.get hget
 refine lq ?_; intro K
 refine xIf (lq ?_); intro K
 refine xTrueOr2 (lq ?_); intro K
 refine xTrueCompare (xCallMeth (xName (xLoad rfl hL.mg fun pl=>xOp (oGetMethod O hL.gr rfl rfl ⟨kept_fn O (fdGKids _).2,evCons (xName (xLoad rfl mn (evNil ?_)))⟩))))
 refine lq ?_; intro K
 refine xOp (lo ?_); intro K
 refine oOf (cGKids O (hR.mono z441) hL.gr hL.I hc h7 fun ms1 b1 ws1 k1 σ1 ha1 hm1 le1 hb1 eb1 hN1=>?_)
 obtain Dn1:DN P σ1 D l:=Dn.keep fun o _ e=>le1 _ _ e
 refine lq ?_; intro K
 refine xSubscript (T:="dict") slot_dict_getitem.lookup (lq ?_); intro K
 refine xName (xLoad rfl mb (xItem (xName (xLoadCell rfl rfl hL.mo (xName (xLoad rfl mn ⟨hl,hvs,hkk,c,tc,_,rfl,rfl,.inl (le1 _ _ eh),(z452 hc h7),htv,⟨Dn1.ty,xOp (oDGet Dn1 hlk ?_)⟩⟩))))))
 obtain heq:ms1 = ms:=asc_ext ha1 hasc fun x=>(hm1 x).trans (((hms x).trans (belowH_iff F hc)).symm)
 refine lq ?_; intro K
 refine xOp (lo ?_); intro K
 refine oNeNs (hR.mono z453) eb1 (le1 _ _ ea) hN1 hNs (xTruthyBool ⟨fun hb=>?_,fun _=>?_⟩)
 ·exact absurd heq (of_decide_eq_true hb)
 refine lq ?_; intro K
 refine xTrueCompare (lq ?_); intro K
 refine xCallMeth (xName (xLoad rfl hL.mg fun pl=>xOp (oGetMethod O (hL.le le1).gr rfl rfl ⟨kept_fn O (fdReached _).2,evCons (xName (xLoad rfl mn (evNil ?_)))⟩)))
 refine lq ?_; intro K
 refine xOp (oOf (cReached O (hR.mono z454) (hL.le le1).gr (hL.le le1).I hc h7 fun ms2 b2 ws2 k2 σ2 ha2 hm2 le2 hb2 eb2 hN2=>?_))
 refine lq ?_; intro K
 refine xCallB O boot_sorted' rfl rfl (evCons (xName (xLoadCell rfl rfl mf (evNil ?_))))
 refine lq ?_; intro K
 refine xOp (oSortedL ((le1.trans le2) _ _ ef) hNf (z455 hf7) fun ms3 b3 ws3 k3 hp3 hs3 hb3 hN3=>?_)
 obtain heq2:ms2 = ms3:=asc_ext ha2 (asc_of hp3 hs3 hnd) fun x=>(hm2 x).trans (((hp3.mem_iff).trans (hfs x)).symm)
 refine lq ?_; intro K
 refine xOp (oNeNs (hR.mono z453) (Store.set_new hb3 eb2) (Store.set_same ..) hN2 hN3 (xTruthyBool ⟨fun hb=>?_,fun _=>?_⟩))
 ·exact absurd heq2 (of_decide_eq_true hb)
 exact xNil (h _ ((le1.trans le2).trans (Le.new hb3)))
theorem own_term (F:Fin prs s hs) {c:Nat} (hc:c < s.n):clsT s (treeOf s.nodes c) = some (hk hs c):=by
 rw [← F.hr c hc]
 exact term_class F.S F.I F.w F.ar _ _ (Nat.lt_succ_self _) hc
theorem lawIf2 (O:P.Ok) {L lf:Addr} {lc:Value} {Q:Flow→Store→Vars→Prop} (hR:Rm A 40) (hL:LV P X ρ σ m tp cl rl hl gi gd b s hs) (F:Fin prs s hs) {c:Nat} {tc:Tok} (hc:c < s.n) (mn:m "n" = some (.int (c:Nat) tc))
  (h:∀ σ',Le σ σ'→Q .next σ' m) :
  WP P A (lawE P L lf lc) (wrOf (lawE P L lf lc)) (exec (lawBS P.w.params 7 3) (lawE P L lf lc)) σ m Q:=by
 obtain hh:=hR.handled
 obtain h7:=F.S.n7
 refine lG ?_; intro G
 obtain ⟨hmem,hget⟩:=home_mem F hc
 refine lG ?_; intro G
 obtain ⟨hvs,hkk,eh,hN⟩:=hL.ho
 refine lG ?_; intro G
 obtain ⟨tv,htv⟩:=hN.get hget
 refine lG ?_; intro G
 obtain ⟨th,Ih⟩:=hL.I.H.inst
 refine lq ?_; intro K
 refine xIf (lq ?_); intro K
 refine xTrueCompare (lq ?_); intro K
 refine xCallMeth (xName (xLoad rfl hL.mg fun pl=>xOp (oGetMethod O hL.gr rfl rfl ⟨kept_fn O (fdClassOf _).2,evCons ?_⟩)))
 refine lq ?_; intro K
 refine xCallMeth (lq ?_); intro K
 refine xAttribute (xName (xLoad rfl hL.mh ?_))
 refine lq ?_; intro K
 refine xOp (lo ?_); intro K
 refine oGetAttr O Ih rfl rfl rfl fun pl=>?_
 refine lq ?_; intro K
 refine xOp (lo ?_); intro K
 refine oGetMethod O hL.I.B.inst rfl rfl ⟨kept_fn O (fdTerm _).2,(xName (xLoad rfl mn ?_))⟩
 refine lq ?_; intro K
 refine xOp (lo ?_); intro K
 refine oOf (cTerm O (hR.mono z386) hL.I.B hL.I.R F.ar hc fun v σ1 le1 hT=>evNil ?_)
 obtain L1:=hL.le le1
 obtain hd:(treeOf s.nodes c).dep≤c + 1 + 1:=treeF_dep ..
 refine lq ?_; intro K
 refine xOp (lo ?_); intro K
 refine oOf (cClassOf O F.S.bd.kv _ (hR.mono (z456 hc h7 hd)) L1.gr L1.I hT fun t=>?_)
 rw [own_term F hc]
 refine lq ?_; intro K
 refine xItem (lq ?_); intro K
 refine xName (xLoadCell rfl rfl hL.mo (xName (xLoad rfl mn ⟨hl,hvs,hkk,c,tc,_,rfl,rfl,.inl (le1 _ _ eh),(z452 hc h7),htv,?_⟩)))
 refine lq ?_; intro K
 refine xOp (lo ?_); intro K
 refine oNe (xTruthyBool ⟨fun hb=>?_,fun _=>xNil (h _ le1)⟩)
 simp [oi] at hb
end
section
variable {P:Par} {A:Around} {env:Env} {W:List Addr} {α β:Type} {σ σ':Store} {m:Vars} {X:HA} {ρ ρ':Addr→Nat} {tp cl rl pl:Addr} {b:Nat} {s:St} {rws:List Node} {prs:List (Nat × Nat)}
variable {hl gi gd:Addr} {hs:List Nat}
theorem BelowAt.le {n:Nat} {v:Value} (h:BelowAt σ s hs n v) (k:Le σ σ'):BelowAt σ' s hs n v:=by
 obtain ⟨a,ws,kk,ms,rfl,ea,hx,hx2,hx3⟩:=h
 exact ⟨a,ws,kk,ms,rfl,k _ _ ea,hx,hx2,hx3⟩
set_option maxHeartbeats 4000000 in
theorem law7 (O:P.Ok) {L lf:Addr} {lc:Value} {Q:Flow→Store→Vars→Prop} (hR:Rm A 40) (hL:LV P X ρ σ m tp cl rl hl gi gd b s hs) (F:Fin prs s hs) {D:Addr} {l:NKV} (mb:m "below_it" = some (.ref D)) (Dn:DN P σ D l)
  (hall:∀ n ∈ hs,∃ v,l.lookup n = some v∧BelowAt σ s hs n v) (h:∀ σ' m',LV P X ρ σ' m' tp cl rl hl gi gd b s hs→Q .next σ' m') :
  WP P A (lawE P L lf lc) (wrOf (lawE P L lf lc)) (exec (lawS P.w.params 7) (lawE P L lf lc)) σ m Q:=by
 obtain hh:=hR.handled
 obtain h7:=F.S.n7
 obtain hsl:s.nodes.length = s.n:=rfl
 refine lG ?_; intro G
 obtain ⟨rvs,rk,er,hr2⟩:=hL.rw
 refine lq ?_; intro K
 refine xForX (ξ:=Nat) (lq ?_); intro K
 refine xCallT O boot_range rfl rfl (xCallB O boot_len rfl rfl (evCons (xName (xLoadCell rfl rfl hL.mr (evNil ?_)))))
 refine lq ?_; intro K
 refine xOp (oLen er (by rw [← hr2.length]; exact z457 h7 hsl) fun t2=>evNil ?_)
 rw [← hr2.length]
 refine lq ?_; intro K
 refine xOp (oRange fun ra rt ru rv hra=>?_)
 obtain le1:Le σ (σ.set ra (rng 0 s.nodes.length 1 rt ru rv)):=Le.new hra
 obtain era:(σ.set ra (rng 0 s.nodes.length 1 rt ru rv)) ra = some (rng 0 s.nodes.length 1 rt ru rv):=Store.set_same ..
 generalize (σ.set ra (rng 0 s.nodes.length 1 rt ru rv)) = σ1 at *
 revert σ1; refine keep ?_; intro σ1; set_option tactic.hygienic false in intros
 obtain L1:=hL.le le1
 obtain Dn1:DN P σ1 D l:=Dn.keep fun o _ e=>le1 _ _ e
 obtain hall1:∀ n ∈ hs,∃ v,l.lookup n = some v∧BelowAt σ1 s hs n v:=fun n hn=>by obtain ⟨v,h1,h2⟩:=hall n hn; exact ⟨v,h1,h2.le le1⟩
 refine ⟨List.range s.nodes.length,_,_,fun i σ' m'=>Le σ1 σ'∧∀ z:Str,z≠"n"→z≠"far"→z≠"home"→m' z = m z,srx_range (t:=rt) (u:=ru) (v:=rv) hh (z457 h7 hsl),?_,?_,?_,?_⟩
 ·rintro i σ' m' ⟨hle,_⟩ p hp
  rw [List.mem_singleton] at hp; subst hp; exact hle _ _ era
 ·exact ⟨Le.refl _,fun _ _ _ _=>rfl⟩
 ·rintro i c w σ' m' hi ⟨tc,rfl⟩ ⟨hle,hm⟩
  obtain hc:c < s.n:=List.mem_range.mp (List.mem_of_getElem? hi)
  refine lq ?_; intro K
  refine xStore rfl rfl (List.mem_cons_self ..) ?_
  obtain hm1:∀ z:Str,z≠"n"→z≠"far"→z≠"home"→(m'.set "n" (.int (c:Nat) tc)) z = m z:=fun z h1 h2 h3=>by
   show (if z = "n" then _ else m' z) = _
   rw [if_neg h1]; exact hm z h1 h2 h3
  obtain mn:(m'.set "n" (.int (c:Nat) tc)) "n" = some (.int (c:Nat) tc):=rfl
  generalize m'.set "n" (.int (c:Nat) tc) = m1 at *
  revert m1; refine keep ?_; intro m1; set_option tactic.hygienic false in intros
  refine lG ?_; intro G
  obtain ⟨hvs,hkk,eh,hN⟩:=L1.ho
  refine lG ?_; intro G
  obtain ⟨hmem,hget⟩:=home_mem F hc
  refine lG ?_; intro G
  obtain ⟨tv,htv⟩:=hN.get hget
  refine lq ?_; intro K
  refine xCons (lq ?_); intro K
  refine xAssignName (xList (xItem (xName (xLoadCell rfl rfl ((hm1 _ (by decide) (by decide) (by decide)).trans L1.mo) (xName (xLoad rfl mn ⟨hl,hvs,hkk,c,tc,_,rfl,rfl,.inl (hle _ _ eh),(z447 h7 hc),htv,evNil fun fa hfa=>?_⟩))))))
  obtain le2:Le σ' (σ'.set fa (lst [.int (hk hs c:Nat) tv] 0)):=Le.new hfa
  have efa:(σ'.set fa (lst [.int (hk hs c:Nat) tv] 0)) fa = some (lst [.int (hk hs c:Nat) tv] 0):=Store.set_same ..
  generalize (σ'.set fa (lst [.int (hk hs c:Nat) tv] 0)) = σ2 at *
  revert σ2; refine keep ?_; intro σ2; set_option tactic.hygienic false in intros
  rw [← F.hr c hc] at efa
  refine lq ?_; intro K
  refine xStoreCell rfl rfl (fun c hc=>mem_wrOf hc) ?_
  obtain hm2:∀ z:Str,z≠"n"→z≠"far"→z≠"home"→(m1.set "far" (.ref fa)) z = m z:=fun z h1 h2 h3=>by
   show (if z = "far" then _ else m1 z) = _
   rw [if_neg h2]; exact hm1 z h1 h2 h3
  have mn2:(m1.set "far" (.ref fa)) "n" = some (.int (c:Nat) tc):=mn
  have mf2:(m1.set "far" (.ref fa)) "far" = some (.ref fa):=rfl
  generalize m1.set "far" (.ref fa) = m2 at *
  revert m2; refine keep ?_; intro m2; set_option tactic.hygienic false in intros
  have L2:LV P X ρ σ' m2 tp cl rl hl gi gd b s hs:=(L1.le hle).vars (hm2 _ (by decide) (by decide) (by decide)) (hm2 _ (by decide) (by decide) (by decide)) (hm2 _ (by decide) (by decide) (by decide)) (hm2 _ (by decide) (by decide) (by decide)) (hm2 _ (by decide) (by decide) (by decide))
  have hallz:∀ {σz:Store},Le σ1 σz→∀ n ∈ hs,∃ v,l.lookup n = some v∧BelowAt σz s hs n v:=fun hz n hn=>by obtain ⟨v,h1,h2⟩:=hall1 n hn; exact ⟨v,h1,h2.le hz⟩
  have Dnz:∀ {σz:Store},Le σ1 σz→DN P σz D l:=fun hz=>Dn1.keep fun o _ e=>hz _ _ e
  refine lq ?_; intro K
  refine xCons (lawFar O hR L2 F ((hm2 _ (by decide) (by decide) (by decide)).trans mb) (Dnz hle) (hallz hle) hc mf2 le2 hfa efa fun σ3 m3 ws k fs hle3 hm3 e3 hN3 hnd h7' hfs=>?_)
  have L3:LV P X ρ σ3 m3 tp cl rl hl gi gd b s hs:=(L2.le hle3).vars (hm3 _ (by decide)) (hm3 _ (by decide)) (hm3 _ (by decide)) (hm3 _ (by decide)) (hm3 _ (by decide))
  refine lq ?_; intro K
  refine xCons (lawIf1 O hR L3 F ((hm3 _ (by decide)).trans ((hm2 _ (by decide) (by decide) (by decide)).trans mb)) (Dnz (hle.trans hle3)) (hallz (hle.trans hle3)) hc ((hm3 _ (by decide)).trans mn2) ((hm3 _ (by decide)).trans mf2) e3 hN3 hnd h7' hfs fun σ4 le4=>?_)
  refine lq ?_; intro K
  refine xLast (lawIf2 O hR (L3.le le4) F hc ((hm3 _ (by decide)).trans mn2) fun σ5 le5=>?_)
  exact ⟨hle.trans (hle3.trans (le4.trans le5)),fun z h1 h2 h3=>(hm3 z h3).trans (hm2 z h1 h2 h3)⟩
 ·rintro σ' m' ⟨hle,hm⟩
  exact h σ' m' ((L1.le hle).vars (hm _ (by decide) (by decide) (by decide)) (hm _ (by decide) (by decide) (by decide)) (hm _ (by decide) (by decide) (by decide)) (hm _ (by decide) (by decide) (by decide)) (hm _ (by decide) (by decide) (by decide)))
set_option maxHeartbeats 4000000 in
theorem law8 (O:P.Ok) {L lf:Addr} {lc:Value} {Q:Flow→Store→Vars→Prop} (hR:Rm A 40) (hb:b≤100) (hL:LV P X ρ σ m tp cl rl hl gi gd b s hs) (F:Fin prs s hs)
  (h:∀ σ' m' b',LV P X ρ σ' m' tp cl rl hl gi gd b' s hs→Q .next σ' m') :
  WP P A (lawE P L lf lc) (wrOf (lawE P L lf lc)) (exec (lawS P.w.params 8) (lawE P L lf lc)) σ m Q:=by
 obtain hh:=hR.handled
 obtain h7:=F.S.n7
 obtain hsl:s.nodes.length = s.n:=rfl
 refine xForX (ξ:=Nat) (lq ?_); intro K
 refine xCallT O boot_range rfl rfl (xInt fun t1=>evNil ?_)
 refine xOp (oRange (n:=5) fun ra rt ru rv hra=>?_)
 obtain L1:=hL.le (Le.new (o:=rng 0 (5:Nat) 1 rt ru rv) hra)
 obtain era:(σ.set ra (rng 0 (5:Nat) 1 rt ru rv)) ra = some (rng 0 (5:Nat) 1 rt ru rv):=Store.set_same ..
 generalize (σ.set ra (rng 0 (5:Nat) 1 rt ru rv)) = σ1 at *
 refine ⟨List.range 5,_,_,fun i σ' m'=>LV P X ρ σ' m' tp cl rl hl gi gd (b + 15 * i) s hs∧σ' ra = some (rng 0 (5:Nat) 1 rt ru rv),srx_range (t:=rt) (u:=ru) (v:=rv) hh z458,?_,?_,?_,?_⟩
 ·rintro i σ' m' ⟨_,e⟩ p hp
  rw [List.mem_singleton] at hp; subst hp; exact e
 ·exact ⟨L1,era⟩
 ·rintro i y w σ' m' hi ⟨ty,rfl⟩ ⟨L',e'⟩
  have hi5:i < 5:=by have:=(List.getElem?_eq_some_iff.mp hi).1; rw [List.length_range] at this; exact z459 this
  refine xStore rfl rfl (List.mem_cons_self ..) ?_
  have L':=L'.vars (m':=m'.set "turn" (.int (y:Nat) ty)) rfl rfl rfl rfl rfl
  generalize m'.set "turn" (.int (y:Nat) ty) = m1 at *
  refine lq ?_; intro K
  refine xCons (lq ?_); intro K
  refine xAssignName (xCallName (xName (xLoadGlobal O rfl rfl ⟨kept_fn O (fdLTree _).2,?_⟩)))
  refine lqE ?_; intro K
  refine (xName (xLoad rfl L'.mt (evCons (xInt fun t2=>evNil ?_))))
  refine lq ?_; intro K
  refine xOp (oOf (cLTree O 3 (c:=b + 15 * (i + 1)) (hR.mono z460) L'.T (by omega) (z461 hb hi5) fun T v σ2 hT le2 T2 hTv=>?_))
  have L2:=L'.tape le2 T2
  have e2:=le2.rng (L'.T.dict.choose_spec.1) (L'.T.dict.choose_spec.2) e'
  refine xStore rfl rfl (List.mem_cons_self ..) ?_
  have L2:=L2.vars (m':=m1.set "tree" v) rfl rfl rfl rfl rfl
  have mt2:(m1.set "tree" v) "tree" = some v:=rfl
  generalize m1.set "tree" v = m2 at *
  refine xLast (lq ?_); intro K
  refine xIf (xTrueCompare (xCallMeth (xName (xLoad rfl L2.mg fun pl=>xOp (oGetMethod O L2.gr rfl rfl ⟨kept_fn O (fdClassOf _).2,evCons (xName (xLoad rfl mt2 (evNil ?_)))⟩)))))
  refine xOp (oOf (cClassOf O F.S.bd.kv T (hR.mono (z462 hT)) L2.gr L2.I hTv fun t3=>?_))
  refine xCallName (xName (xLoadGlobal O rfl rfl ⟨kept_fn O (fdLHome _).2,?_⟩))
  refine lqE ?_; intro K
  refine evCons (xName (xLoadCell rfl rfl L2.mr (evCons (xName (xLoadCell rfl rfl L2.mo (evCons (xName (xLoad rfl mt2 (evNil ?_)))))))))
  refine xOp (oOf (cLHome O F.len (z463 h7 hsl) F.S.wfn (fun nd hnd=>by have:=F.ar nd hnd; exact z414 this) T (hR.mono (z464 hT)) L2.rw L2.ho hTv fun t4=>?_))
  rw [tree_same F.S F.I F.w F.hr T]
  refine xOp (oNe (xTruthyBool ⟨fun hb=>?_,fun _=>xNil ⟨L2,e2⟩⟩))
  simp at hb
 ·rintro σ' m' ⟨L',_⟩
  exact h σ' m' _ L'
theorem law9 (O:P.Ok) {L lf:Addr} {lc:Value} {Q:Flow→Store→Vars→Prop} (hR:Rm A 40) (hL:LV P X ρ σ m tp cl rl hl gi gd b s hs) (F:Fin prs s hs)
  (h:∀ σ' m',Q (.ret (.bool true)) σ' m') :
  WP P A (lawE P L lf lc) (wrOf (lawE P L lf lc)) (exec (lawS P.w.params 9) (lawE P L lf lc)) σ m Q:=by
 obtain hh:=hR.handled
 obtain h7:=F.S.n7
 obtain hsl:s.nodes.length = s.n:=rfl
 refine lG ?_; intro G
 obtain ⟨th,Ih⟩:=hL.I.H.inst
 refine lG ?_; intro G
 obtain ⟨rvs,rk,er,hr2⟩:=hL.rw
 refine xReturn (lq ?_); intro K
 refine xCompare (lq ?_); intro K
 refine xCallMeth (xName (xLoad rfl hL.mh fun pl=>xOp (oGetMethod O Ih rfl rfl ⟨kept_fn O (fdHSize _).2,evNil ?_⟩)))
 refine xOp (lo ?_); intro K
 refine oOf (cHSize O (hR.mono z396) hL.I fun t=>?_)
 refine xCallB O boot_len rfl rfl (lqE ?_); intro K
 refine (xName (xLoadCell rfl rfl hL.mr (evNil ?_)))
 refine xOp (lo ?_); intro K
 refine oLen er (by rw [← hr2.length]; exact z457 h7 hsl) fun t2=>?_
 rw [← hr2.length]
 refine xOp (lo ?_); intro K
 refine oEq ?_
 have:((s.n:Int) == (s.nodes.length:Nat)) = true:=by rw [hsl]; exact beq_self_eq_true _
 rw [this]
 exact h _ _
end
section
variable {P:Par} {A:Around} {env:Env} {W:List Addr} {α β:Type} {σ σ':Store} {m:Vars}
theorem lawB_eq (p:Params):lawB p = [lawS p 0,lawS p 1,lawS p 2,lawS p 3,lawS p 4,lawS p 5,lawS p 6,lawS p 7,lawS p 8,lawS p 9]:=rfl
theorem xStep {st:Stmt} {rest:List Stmt} {Q:Flow→Store→Vars→Prop} (R:Store→Vars→Prop) (h:∀ Q:Flow→Store→Vars→Prop,(∀ σ' m',R σ' m'→Q .next σ' m')→WP P A env W (exec st env) σ m Q)
  (k:∀ σ' m',R σ' m'→WP P A env W (execs rest env) σ' m' Q):WP P A env W (execs (st :: rest) env) σ m Q:=xCons (h _ fun σ' m' r=>k σ' m' r)
theorem lawAll (O:P.Ok) {L lf ax:Addr} {lc:Value} {vs:List Value} (hR:Rm A 40) (hs:P.g.IsList ax (List.toArray vs)) (hI:AllI vs) (hl:vs.length≤63) (hm:m "script" = some (.ref ax)) :
  WP P A (lawE P L lf lc) (wrOf (lawE P L lf lc)) (execs (lawB P.w.params) (lawE P L lf lc)) σ m (fun fl _ _=>fl = .ret (.bool true)):=by
 rw [lawB_eq]
 refine @xStep _ _ _ _ _ _ _ _ _ (fun σ m=>∃ X ρ tp cl rl pl,LW P X ρ σ m tp cl rl pl 0 s0 [("a",[]),("b",[])] []) (fun Q h=>by with_reducible exact law0 O hR hs hI hl hm fun σ0 m0 X ρ0 tp cl rl pl L0=>h _ _ ⟨X,ρ0,tp,cl,rl,pl,L0⟩) ?_
 rintro σ0 m0 ⟨X,ρ0,tp,cl,rl,pl,L0⟩
 refine @xStep _ _ _ _ _ _ _ _ _ (fun σ m=>(X2 fun ρ s=>N4 (LW P X ρ σ m tp cl rl pl 0 s s.nodes []) (S1 s) (s.n = 2) (Arn s.nodes))) (fun Q h=>by with_reducible exact law1 O hR L0 fun σ1 m1 ρ1 s1 L1 S1 n1 a1=>h _ _ ⟨ρ1,s1,L1,S1,n1,a1⟩) ?_
 rintro σ1 m1 ⟨ρ1,s1,L1,S1',n1,a1⟩
 refine @xStep _ _ _ _ _ _ _ _ _ (fun σ m=>(X3 fun ρ s b=>N6 (b≤16) (LW P X ρ σ m tp cl rl pl b s s.nodes []) (S1 s) (2≤s.n) (s.n≤7) (Arn s.nodes))) (fun Q h=>by with_reducible exact law2 O hR L1 S1' n1 a1 fun σ2 m2 ρ2 s2 b2 hb2 L2 S2 h2 h7 a2=>h _ _ ⟨ρ2,s2,b2,hb2,L2,S2,h2,h7,a2⟩) ?_
 rintro σ2 m2 ⟨ρ2,s2,b2,hb2,L2,S2,h2,h7,a2⟩
 refine @xStep _ _ _ _ _ _ _ _ _ (fun σ m=>(X4 fun ρ s b prs=>N7 (b≤30) (LW P X ρ σ m tp cl rl pl b s s.nodes prs) (S0 prs s) (I2 s noOne) (s.nodes = s2.nodes) (prs.length≤3) (∀ p ∈ prs,p.1 < s2.n∧p.2 < s2.n∧s.r p.1 = s.r p.2))) (fun Q h=>by with_reducible exact law3 O hR hb2 L2 S2 h2 h7 fun σ3 m3 ρ3 s3 b3 prs hb3 L3 S3 I3 hn3 hp3 hpr3=>h _ _ ⟨ρ3,s3,b3,prs,hb3,by rw [hn3]; exact L3,S3,I3,hn3,hp3,hpr3⟩) ?_
 rintro σ3 m3 ⟨ρ3,s3,b3,prs,hb3,L3,S3,I3,hn3,hp3,hpr3⟩
 refine @xStep _ _ _ _ _ _ _ _ _ (fun σ m=>(X2 fun ρ s=>N6 (LW P X ρ σ m tp cl rl pl b3 s s.nodes prs) (S0 prs s) (I2 s noOne) (s.waiting = []) (s.nodes = s3.nodes) (∀ p ∈ prs,s.r p.1 = s.r p.2))) (fun Q h=>by with_reducible exact law4 O hR L3 S3 I3 (fun p hp=>(hpr3 p hp).2.2) fun σ4 m4 ρ4 s4 L4 S4 I4 hw4 hn4 hpr4=>h _ _ ⟨ρ4,s4,L4,S4,I4,hw4,hn4,hpr4⟩) ?_
 rintro σ4 m4 ⟨ρ4,s4,L4,S4,I4,hw4,hn4,hpr4⟩
 have hn:s4.nodes = s2.nodes:=hn4.trans hn3
 have hnn:s4.n = s2.n:=by unfold St.n; rw [hn]
 refine @xStep _ _ _ _ _ _ _ _ _ (fun σ m=>(X4 fun hl gi gd hs=>LV P X ρ4 σ m tp cl rl hl gi gd b3 s4 hs∧Fin prs s4 hs)) (fun Q h=>by with_reducible exact law5 O hR L4 S4 I4 hw4 (by rw [hn]; exact a2) (z465 h2 hnn) (fun p hp=>⟨by rw [hnn]; exact (hpr3 p hp).1,by rw [hnn]; exact (hpr3 p hp).2.1,hpr4 p hp⟩) hp3 fun σ5 m5 hl gi gd hs L5 F=>h _ _ ⟨hl,gi,gd,hs,L5,F⟩) ?_
 rintro σ5 m5 ⟨hl,gi,gd,hs,L5,F⟩
 refine @xStep _ _ _ _ _ _ _ _ _ (fun σ m=>(X2 fun D l=>N4 (LV P X ρ4 σ m tp cl rl hl gi gd b3 s4 hs) (m "below_it" = some (.ref D)) (DN P σ D l) (∀ n ∈ hs,∃ v,l.lookup n = some v∧BelowAt σ s4 hs n v))) (fun Q h=>by with_reducible exact law6 O hR L5 F fun σ6 m6 D l L6 mb Dn _ hall=>h _ _ ⟨D,l,L6,mb,Dn,hall⟩) ?_
 rintro σ6 m6 ⟨D,l,L6,mb,Dn,hall⟩
 refine @xStep _ _ _ _ _ _ _ _ _ (fun σ m=>LV P X ρ4 σ m tp cl rl hl gi gd b3 s4 hs) (fun Q h=>by with_reducible exact law7 O hR L6 F mb Dn hall fun σ7 m7 L7=>h _ _ L7) ?_
 rintro σ7 m7 L7
 refine @xStep _ _ _ _ _ _ _ _ _ (fun σ m=>∃ b,LV P X ρ4 σ m tp cl rl hl gi gd b s4 hs) (fun Q h=>by with_reducible exact law8 O hR (z466 hb3) L7 F fun σ8 m8 b8 L8=>h _ _ ⟨b8,L8⟩) ?_
 rintro σ8 m8 ⟨b8,L8⟩
 refine @xLast _ _ _ _ _ _ _ _ ?_
 with_reducible exact law9 O hR L8 F fun _ _=>rfl
end
def emptyσ:Store:=fun _=>none
theorem fmJoin {P:Par} {env:Env} {ax:Addr} {h₁:Heap} {mL:Vars} {o1 o2 o3:Obj}
  (hcells:env.cells = ([(("far":Str),P.g.objs.size + 1 + 1 + 1),("homes",P.g.objs.size + 1 + 1),("rows",P.g.objs.size + 1)]:List (Str × Addr))) (hloc:env.locals = P.g.objs.size)
  (F:Fr P.g P.g.objs.size h₁ mL) (hmL:∀ x,mL x = if x = "script" then some (.ref ax) else none)
  (N:News P.g P.g.objs.size h₁ [(P.g.objs.size + 1 + 1 + 1,o3),(P.g.objs.size + 1 + 1,o2),(P.g.objs.size + 1,o1)]) (d1:o1.data = .cell none) (d2:o2.data = .cell none) (d3:o3.data = .cell none) :
  Fm P env (wrOf env) emptyσ h₁ mL:=by
 have hL:P.g.get? P.g.objs.size = none:=none_of (Nat.le_refl _)
 have look:∀ x a,env.cells.lookup x = some a→(∃ o,N4 ((a,o) ∈ [(P.g.objs.size + 1 + 1 + 1,o3),(P.g.objs.size + 1 + 1,o2),(P.g.objs.size + 1,o1)]) (o.data = .cell none) (x≠"script") (((x = "far"∧a = P.g.objs.size + 1 + 1 + 1)∨(x = "homes"∧a = P.g.objs.size + 1 + 1)∨(x = "rows"∧a = P.g.objs.size + 1)))):=fun x a e=>by
  have hm:=mem_of_lookup e
  rw [hcells] at hm
  simp only [List.mem_cons,List.not_mem_nil,or_false,Prod.mk.injEq] at hm
  rcases hm with ⟨rfl,rfl⟩ | ⟨rfl,rfl⟩ | ⟨rfl,rfl⟩
  ·exact ⟨o3,by simp,d3,by decide,.inl ⟨rfl,rfl⟩⟩
  ·exact ⟨o2,by simp,d2,by decide,.inr (.inl ⟨rfl,rfl⟩)⟩
  ·exact ⟨o1,by simp,d1,by decide,.inr (.inr ⟨rfl,rfl⟩)⟩
 obtain hnew:∀ a,a = env.locals∨(∃ x,env.cells.lookup x = some a)→P.g.get? a = none∧∃ o,h₁.get? a = some o:=fun a ha=>by
  rcases ha with rfl | ⟨x,hx⟩
  ·refine lG ?_; intro G
   obtain ⟨o,_,_,e,_⟩:=F.ns; exact ⟨by rw [hloc]; exact hL,o,by rw [hloc]; exact e⟩
  ·refine lG ?_; intro G
   obtain ⟨o,hm,_⟩:=look x a hx
   have:=N _ hm
   exact ⟨this.2.2,o,this.1⟩
 refine ⟨⟨mL,by rw [hloc]; exact F.ns,fun _ _=>rfl⟩,fun x a e=>?_,fun a ha=>⟨rfl,(hnew a ha).1⟩,fun x e=>?_,fun x y a e e'=>?_,fun a ha=>?_⟩
 ·obtain ⟨o,hm,hd,hx,_⟩:=look x a e
  rw [hmL x,if_neg hx]
  exact ⟨o,(N _ hm).1,hd⟩
 ·refine lG ?_; intro G
  obtain ⟨o,hm,_⟩:=look x _ e
  exact (N _ hm).2.1 hloc
 ·refine lG ?_; intro G
  obtain ⟨_,_,_,_,h1⟩:=look x a e
  obtain ⟨_,_,_,_,h2⟩:=look y a e'
  obtain n1:@LT.lt Nat _ (P.g.objs.size + 1) (P.g.objs.size + 1 + 1):=Nat.lt_succ_self _
  obtain n2:@LT.lt Nat _ (P.g.objs.size + 1 + 1) (P.g.objs.size + 1 + 1 + 1):=Nat.lt_succ_self _
  rcases h1 with ⟨rfl,q1⟩ | ⟨rfl,q1⟩ | ⟨rfl,q1⟩ <;> rcases h2 with ⟨rfl,q2⟩ | ⟨rfl,q2⟩ | ⟨rfl,q2⟩ <;> first | rfl | (exfalso; have q3:@Eq Nat _ _:=q1.symm.trans q2; omega)
 ·obtain ⟨h1,h2⟩:=hnew a (of_wrOf ha)
  exact ⟨h1,rfl,h2⟩
theorem goodJoin {P:Par} {s:Shared} (hb:∀ a o,P.g.get? a = some o→s.heap.get? a = some o) (hsg:s.gens = #[]) (hso:s.os = P.os):Good P emptyσ s :=
 ⟨fun a o e=>(by cases e),hb,fun a o e=>(by cases e),hsg,hso,fun a o e=>(by cases e)⟩
theorem WP.run {P:Par} {A:Around} {env:Env} {W:List Addr} {t:Sem Flow} {σ:Store} {m:Vars} {s:Shared} {v:Value} (h:WP P A env W t σ m (fun fl _ _=>fl = .ret v)) (G:Good P σ s) (F:Fm P env W σ s.heap m) :
  wpAny P.M A t (fun fl s'=>fl = .ret v∧(∀ b o,P.g.get? b = some o→s'.heap.get? b = some o)∧s'.os = P.os∧s'.gens = #[]) (fun _ _=>False) s :=
 wpAny_mono (h s G F) (fun fl s' ⟨σ',m',q,_,T⟩=>⟨q,T.good.base,T.good.os,T.good.gens⟩) fun _ _ f=>f
theorem lawJoin (P:Par) (O:P.Ok) {A:Around} {lf ax:Addr} {lc:Value} {vs:List Value} {is:List Int} {h₁:Heap} {mL:Vars} {o1 o2 o3:Obj} {s:Shared} (hR:Rm A 40) (hs:P.g.IsList ax (List.toArray vs)) (hI:IntsAre vs is) (hl:¬ ((63:Nat):Int) < (is.length:Nat))
  (hsh:s.heap = h₁) (hsg:s.gens = #[]) (hso:s.os = P.os)
  (F:Fr P.g P.g.objs.size h₁ mL) (hmL:∀ x,mL x = if x = "script" then some (.ref ax) else none)
  (N:News P.g P.g.objs.size h₁ [(P.g.objs.size + 1 + 1 + 1,o3),(P.g.objs.size + 1 + 1,o2),(P.g.objs.size + 1,o1)]) (d1:o1.data = .cell none) (d2:o2.data = .cell none) (d3:o3.data = .cell none) :
  wpAny P.M A (execs (lawB P.w.params) (lawE P P.g.objs.size lf lc)) (fun fl s'=>fl = .ret (.bool true)∧(∀ b o,P.g.get? b = some o→s'.heap.get? b = some o)∧s'.os = P.os∧s'.gens = #[]) (fun _ _=>False) s:=by
 have hlen:vs.length≤63:=by have:=hI.length; exact z467 hl this
 have hAll:AllI vs:=fun v hv=>by
  obtain ⟨i,hi⟩:=List.mem_iff_getElem?.mp (by simpa using hv:v ∈ vs)
  obtain ⟨t,e⟩:=IntsAre.int_at hI i v hi
  exact ⟨_,t,e⟩
 have hm0:mL "script" = some (.ref ax):=by rw [hmL,if_pos rfl]
 have hw:=@lawAll P A emptyσ mL O P.g.objs.size lf ax lc vs hR hs hAll hlen hm0
 have G:Good P emptyσ s:=goodJoin (fun a o e=>by rw [hsh]; exact F.keep a o e) hsg hso
 have Fm':=@fmJoin P (lawE P P.g.objs.size lf lc) ax h₁ mL o1 o2 o3 rfl rfl F hmL N d1 d2 d3
 rw [← hsh] at Fm'
 exact @WP.run P A _ _ _ _ _ s _ @hw G Fm'
end Mine
section
set_option maxRecDepth 100000
set_option tactic.hygienic true
namespace Mine
theorem parOk {prog:Program} {w:World} {mg mb:Str→Option Value} {h:Heap} {os:OsState} {p:Program} {loose:List Str} {mean:ExcName→Option Value} (T:Top p loose mean mg mb h) (KX:(Mine.hd.heap_1 w.params).In h)
  (wit:∃ a o,h.get? a = some o∧@LT.lt Nat _ sysModules a):Par.Ok ⟨prog,w,h,mg,mb,os,wit⟩:=⟨KX,T.g,T.b,T.nolimit,T.builtins⟩
theorem witOf {mg:Str→Option Value} {h:Heap} (g:h.Ns mainGlobals mg):∃ a o,h.get? a = some o∧@LT.lt Nat _ sysModules a :=
 let ⟨o,_,_,e,_⟩:=g; ⟨mainGlobals,o,e,by decide⟩
theorem rmCaller {env:Env}:Rm (callerA.deeper env) 40:=⟨rfl,by show callerA.depth + 1 + 40≤960; decide,by show callerA.units + 3 + 20 * 40≤9600; decide⟩
theorem lawPost (args ds:List WData):PySem.Challenge.rw_xw0030_01.row.claim.post args (.bool true) ds = true :=
 postC_of (by show WShape.has _ (.bool true) WShape.bool = true; simp [WShape.has,WShape.arms]) (w_eq_bool (w_res rfl) w_lit) rfl
theorem lawEnd {M:Model} {A:Around} {t:Sem Flow} {Q Q':Flow→Shared→Prop} {E E':Value→Shared→Prop} {s:Shared} (h:wpAny M A t Q E s) (hQ:∀ a s,Q a s→Q' a s) (hE:∀ e s,E e s→E' e s):wpAny M A t Q' E' s:=wpAny_mono h hQ hE
end Mine
namespace Mine.whole
theorem tw357486453476387696:True:=⟨⟩
theorem tw2412972146837434115:True:=⟨⟩
theorem tw12598572606399187110:True:=⟨⟩
theorem tw11459245631466036986:True:=⟨⟩
theorem tw427333557424167660:True:=⟨⟩
theorem tw1509033169537457064:True:=⟨⟩
theorem tw953320151647667354:True:=⟨⟩
theorem tw10600204908392656549:True:=⟨⟩
theorem tw4934077235998201596:True:=⟨⟩
theorem tw4445204285082115520:True:=⟨⟩
theorem tw3733203681221829434:True:=⟨⟩
theorem tw978456291528864041:True:=⟨⟩
theorem tw16505068655815891843:True:=⟨⟩
theorem tw14516373977593815811:True:=⟨⟩
theorem tw5515949286892933951:True:=⟨⟩
theorem tw6711224856247384401:True:=⟨⟩
theorem tw2469003464257525574:True:=⟨⟩
theorem tw420889256603489644:True:=⟨⟩
theorem tw3909395182359919685:True:=⟨⟩
theorem tw803728761352460389:True:=⟨⟩
theorem tw11423436602419212718:True:=⟨⟩
theorem tw15761127226676153883:True:=⟨⟩
theorem tw10840090224303567227:True:=⟨⟩
theorem tw5938623499991607928:True:=⟨⟩
theorem tw5804886461390523402:True:=⟨⟩
theorem tw9685896690342822935:True:=⟨⟩
theorem tw843396670912023852:True:=⟨⟩
theorem tw1692622564874605650:True:=⟨⟩
theorem tw6525215580464160042:True:=⟨⟩
theorem tw8602141644225615130:True:=⟨⟩
theorem tw15539963934695697727:True:=⟨⟩
theorem tw7280849871689594849:True:=⟨⟩
theorem tw4479364801722962140:True:=⟨⟩
theorem tw11395692770084462984:True:=⟨⟩
theorem tw2665807779830099079:True:=⟨⟩
theorem tw14654356449610600485:True:=⟨⟩
theorem tw12111672374848980225:True:=⟨⟩
theorem tw2439357469168130064:True:=⟨⟩
theorem tw10838650209671834137:True:=⟨⟩
theorem tw11124209341801176217:True:=⟨⟩
theorem tw14381574177426341226:True:=⟨⟩
theorem tw18135788421098096370:True:=⟨⟩
theorem tw1350920760672359567:True:=⟨⟩
theorem tw12384909515848061526:True:=⟨⟩
theorem tw2760507500389793002:True:=⟨⟩
theorem tw14877643965249282964:True:=⟨⟩
theorem tw12928932934922122878:True:=⟨⟩
theorem tw11316320225543275868:True:=⟨⟩
theorem tw5682345275169407818:True:=⟨⟩
theorem tw17815571689547373951:True:=⟨⟩
theorem tw13447532951914335906:True:=⟨⟩
theorem tw3125283655325999989:True:=⟨⟩
theorem tw13823951767099335047:True:=⟨⟩
theorem tw5277582801102665213:True:=⟨⟩
theorem tw2380868127642377217:True:=⟨⟩
theorem tw5078443471013023264:True:=⟨⟩
theorem tw14390007995909808975:True:=⟨⟩
theorem tw9707250908836423824:True:=⟨⟩
theorem tw6067178945074143734:True:=⟨⟩
theorem tw6018008695308894833:True:=⟨⟩
theorem tw431044224361937856:True:=⟨⟩
theorem tw2580061231857448207:True:=⟨⟩
theorem tw7466904020207815869:True:=⟨⟩
theorem tw17175008800681467811:True:=⟨⟩
theorem tw7728773200315073681:True:=⟨⟩
theorem tw12484011378766964031:True:=⟨⟩
theorem tw12698311456782994138:True:=⟨⟩
theorem tw9775085227918541326:True:=⟨⟩
theorem tw18056553881098321084:True:=⟨⟩
theorem tw5408107943391738:True:=⟨⟩
theorem tw7564407027854533171:True:=⟨⟩
theorem tw17295703372945214271:True:=⟨⟩
theorem tw10692405288018296569:True:=⟨⟩
theorem tw29202618045891971:True:=⟨⟩
theorem tw1114806542021703131:True:=⟨⟩
theorem tw10438997657263567297:True:=⟨⟩
theorem tw3099485228618234346:True:=⟨⟩
theorem tw13018183266405097566:True:=⟨⟩
theorem tw543460287212350964:True:=⟨⟩
theorem tw675793542917168019:True:=⟨⟩
theorem tw18324492136986001645:True:=⟨⟩
theorem tw6915089677183239634:True:=⟨⟩
theorem tw3166543957339863982:True:=⟨⟩
theorem tw5942346508108547180:True:=⟨⟩
theorem tw16304597587823193687:True:=⟨⟩
theorem tw16026843855606243410:True:=⟨⟩
theorem tw2249504304506360813:True:=⟨⟩
theorem tw10565146586650446459:True:=⟨⟩
theorem tw16151222146762293071:True:=⟨⟩
theorem tw3162365515331879682:True:=⟨⟩
theorem tw6891315699540082446:True:=⟨⟩
theorem tw6095937858554715304:True:=⟨⟩
theorem tw14493418047887008292:True:=⟨⟩
theorem tw8454442166302862320:True:=⟨⟩
theorem tw12473419985498694175:True:=⟨⟩
theorem tw9787344453429475573:True:=⟨⟩
theorem tw16986973334993361146:True:=⟨⟩
theorem tw12620984872611610876:True:=⟨⟩
theorem tw3336266095096057487:True:=⟨⟩
theorem tw6290923202673413122:True:=⟨⟩
theorem tw17529894129228449367:True:=⟨⟩
theorem tw10654317064775040509:True:=⟨⟩
theorem tw3270133029678145397:True:=⟨⟩
theorem tw1897105925431849711:True:=⟨⟩
theorem tw17169624498616045403:True:=⟨⟩
theorem tw772474843232632690:True:=⟨⟩
theorem tw4918820536221260690:True:=⟨⟩
theorem tw6969183078174102538:True:=⟨⟩
theorem tw949743934663060849:True:=⟨⟩
theorem tw10000958634945066235:True:=⟨⟩
theorem tw14890280090424698046:True:=⟨⟩
theorem tw1699034841665187622:True:=⟨⟩
theorem tw9654072969724333583:True:=⟨⟩
theorem tw1349178898306187914:True:=⟨⟩
theorem tw6612613915786651340:True:=⟨⟩
theorem tw15001587830400145190:True:=⟨⟩
theorem tw3345510996311645767:True:=⟨⟩
theorem tw6472696656209681604:True:=⟨⟩
theorem tw11476502588441444683:True:=⟨⟩
theorem tw6872907005359335961:True:=⟨⟩
theorem tw8884531897199943920:True:=⟨⟩
theorem tw9994479494313819776:True:=⟨⟩
theorem tw1047630922221454212:True:=⟨⟩
theorem tw8983667203327932493:True:=⟨⟩
theorem tw15680802009173567957:True:=⟨⟩
theorem tw6823266097380344784:True:=⟨⟩
theorem tw203428145850139289:True:=⟨⟩
theorem tw7391549574342816922:True:=⟨⟩
theorem tw1199941493490885585:True:=⟨⟩
theorem tw16739781802365451968:True:=⟨⟩
theorem tw12785324505718176966:True:=⟨⟩
theorem tw13434065944014204811:True:=⟨⟩
theorem tw4492540453561467811:True:=⟨⟩
theorem tw2733790213765534055:True:=⟨⟩
theorem tw6774775609766916077:True:=⟨⟩
theorem tw9046693723037758376:True:=⟨⟩
theorem tw11670040512431834200:True:=⟨⟩
theorem tw6233461465355520292:True:=⟨⟩
theorem tw1058133836064258550:True:=⟨⟩
theorem tw4909349585908861296:True:=⟨⟩
theorem tw1329479340354266572:True:=⟨⟩
theorem tw1353902047762577225:True:=⟨⟩
theorem tw12047851899190119979:True:=⟨⟩
theorem tw9121730484126507938:True:=⟨⟩
theorem tw13153272211435905337:True:=⟨⟩
theorem tw4689585835679557668:True:=⟨⟩
theorem tw12180422818723984309:True:=⟨⟩
theorem tw9189751539129569556:True:=⟨⟩
theorem tw2028823117376367632:True:=⟨⟩
theorem tw14117439955800268797:True:=⟨⟩
theorem tw5171116725156735389:True:=⟨⟩
theorem tw7073311072910153293:True:=⟨⟩
theorem tw1469139166737108290:True:=⟨⟩
theorem tw2081632904089052959:True:=⟨⟩
theorem tw12742087137024979937:True:=⟨⟩
theorem tw3028004478679740547:True:=⟨⟩
theorem tw18162983195158539490:True:=⟨⟩
theorem tw13000713063990318526:True:=⟨⟩
theorem tw14628220171574447489:True:=⟨⟩
theorem tw17208036059388378932:True:=⟨⟩
theorem tw9725988738643398560:True:=⟨⟩
theorem tw6356627984389668255:True:=⟨⟩
theorem tw3945383572190744343:True:=⟨⟩
theorem tw13478315594510353802:True:=⟨⟩
theorem tw9242471422690250210:True:=⟨⟩
theorem tw4234479992401935053:True:=⟨⟩
theorem tw10795012362202508061:True:=⟨⟩
theorem tw3719516502379717212:True:=⟨⟩
theorem tw13962710524777386304:True:=⟨⟩
theorem tw14852934547574820571:True:=⟨⟩
theorem tw17395194986337826024:True:=⟨⟩
theorem tw6734874506966982255:True:=⟨⟩
theorem tw6421574377784992043:True:=⟨⟩
theorem tw16588625043399567139:True:=⟨⟩
theorem tw5081031077709457048:True:=⟨⟩
theorem tw1765076044715932963:True:=⟨⟩
theorem tw11690859581915506653:True:=⟨⟩
theorem tw2198523743367551842:True:=⟨⟩
theorem tw817909704231249520:True:=⟨⟩
theorem tw3802398583823018356:True:=⟨⟩
theorem tw10153838690179905649:True:=⟨⟩
theorem tw17768757769460313278:True:=⟨⟩
theorem tw17351461997606004466:True:=⟨⟩
theorem tw2151346155558304222:True:=⟨⟩
theorem tw17843127513448600897:True:=⟨⟩
theorem tw4221266100470226451:True:=⟨⟩
theorem tw7353088848153119453:True:=⟨⟩
theorem tw15338273372565686330:True:=⟨⟩
theorem tw8351164730277109312:True:=⟨⟩
theorem tw1832405729643820139:True:=⟨⟩
theorem tw10219327507634694686:True:=⟨⟩
theorem tw10887019763833697050:True:=⟨⟩
theorem tw4107823604484434990:True:=⟨⟩
theorem tw7452821578398259720:True:=⟨⟩
theorem tw9722750020625992282:True:=⟨⟩
theorem tw4447922135398794285:True:=⟨⟩
theorem tw13962616709173656972:True:=⟨⟩
theorem tw2536362301702204066:True:=⟨⟩
theorem tw7248877203947682478:True:=⟨⟩
theorem tw12442016628978143412:True:=⟨⟩
theorem tw15401142651479110994:True:=⟨⟩
theorem tw14756447051001558117:True:=⟨⟩
theorem tw5542149417468696053:True:=⟨⟩
theorem tw13518702907885339924:True:=⟨⟩
theorem tw113900542113845248:True:=⟨⟩
theorem tw9841425051670495895:True:=⟨⟩
theorem tw10879388597655286671:True:=⟨⟩
theorem tw6097748072631727781:True:=⟨⟩
theorem tw13142167418276237254:True:=⟨⟩
theorem tw9625973628771424018:True:=⟨⟩
theorem tw1661733767545588335:True:=⟨⟩
theorem tw4672207989499910625:True:=⟨⟩
theorem tw3926394806247470573:True:=⟨⟩
theorem tw16442795661328238356:True:=⟨⟩
theorem tw4180466227808675834:True:=⟨⟩
theorem tw2777902329107566167:True:=⟨⟩
theorem tw356215775963413058:True:=⟨⟩
theorem tw12077107353733055826:True:=⟨⟩
theorem tw8965215075514910880:True:=⟨⟩
theorem tw12063277863729348616:True:=⟨⟩
theorem tw17583434110615651305:True:=⟨⟩
theorem tw11841974853317911985:True:=⟨⟩
theorem tw15819564801051643881:True:=⟨⟩
theorem tw8101450032967502455:True:=⟨⟩
theorem tw6714927969197098277:True:=⟨⟩
theorem tw3099174332690161747:True:=⟨⟩
theorem tw11876454138822706389:True:=⟨⟩
theorem tw5833760311655045577:True:=⟨⟩
theorem tw14776171463994254414:True:=⟨⟩
theorem tw2404457027504551060:True:=⟨⟩
theorem tw8699793337390238261:True:=⟨⟩
theorem tw14031613983174702221:True:=⟨⟩
theorem tw10805158454514937742:True:=⟨⟩
theorem tw2649048575011448004:True:=⟨⟩
theorem tw12920395458479335663:True:=⟨⟩
theorem tw9055695317017464860:True:=⟨⟩
theorem tw7576292583959916747:True:=⟨⟩
theorem tw13960669724093699300:True:=⟨⟩
theorem tw17475311184863085016:True:=⟨⟩
theorem tw10344827342348678470:True:=⟨⟩
theorem tw5137022389394785357:True:=⟨⟩
theorem tw15285801702533195368:True:=⟨⟩
theorem tw10339747121181971505:True:=⟨⟩
theorem tw5532809562029925614:True:=⟨⟩
theorem tw17022761755405916213:True:=⟨⟩
theorem tw43722865635132848:True:=⟨⟩
theorem tw8309436690622926411:True:=⟨⟩
theorem tw254780913952180833:True:=⟨⟩
theorem tw11409993775148365219:True:=⟨⟩
theorem tw10488504414272976643:True:=⟨⟩
theorem tw18315055452531851272:True:=⟨⟩
theorem tw10007520593648235073:True:=⟨⟩
theorem tw13319988917098859738:True:=⟨⟩
theorem tw18314547241281667657:True:=⟨⟩
theorem tw16708263669468244151:True:=⟨⟩
theorem tw3024454215250084373:True:=⟨⟩
theorem tw17469375360275711045:True:=⟨⟩
theorem tw4357746044423742650:True:=⟨⟩
theorem tw13730376311393935369:True:=⟨⟩
theorem tw15105012252411618398:True:=⟨⟩
theorem tw1318554304652621475:True:=⟨⟩
theorem tw197767806040249225:True:=⟨⟩
theorem tw9142887217227649140:True:=⟨⟩
theorem tw14138553856905868755:True:=⟨⟩
theorem tw1900625413890197858:True:=⟨⟩
theorem tw15652777202477211125:True:=⟨⟩
theorem tw13675596732203519343:True:=⟨⟩
theorem tw10749463760870054271:True:=⟨⟩
theorem tw9521756469634577901:True:=⟨⟩
theorem tw9212966250080664162:True:=⟨⟩
theorem tw668774492082921180:True:=⟨⟩
theorem tw3467671131507365174:True:=⟨⟩
theorem tw1072497446573119103:True:=⟨⟩
theorem tw17044950167386977207:True:=⟨⟩
theorem tw2021854409746315462:True:=⟨⟩
theorem tw5460680643579594377:True:=⟨⟩
theorem tw13749801708979339770:True:=⟨⟩
theorem tw6330797023819526829:True:=⟨⟩
theorem tw6416634858453334624:True:=⟨⟩
theorem tw16845944245580146995:True:=⟨⟩
theorem tw2896436902973227457:True:=⟨⟩
theorem tw17659150536888882668:True:=⟨⟩
theorem tw16398205279857054297:True:=⟨⟩
theorem tw285988719286631819:True:=⟨⟩
theorem tw15013576625721048695:True:=⟨⟩
theorem tw17870853324313594786:True:=⟨⟩
theorem tw2685624786292725039:True:=⟨⟩
theorem tw9291207489156913572:True:=⟨⟩
theorem tw14407849266092530191:True:=⟨⟩
theorem tw9024608533772062355:True:=⟨⟩
theorem tw9449955787129754595:True:=⟨⟩
theorem tw5349422690488739272:True:=⟨⟩
theorem tw14173393766343599159:True:=⟨⟩
theorem tw7525632177321363660:True:=⟨⟩
theorem tw18354614867481654581:True:=⟨⟩
theorem tw397210227534267232:True:=⟨⟩
theorem tw2349701861695252166:True:=⟨⟩
theorem tw5477020428343274486:True:=⟨⟩
theorem tw8789054386453842027:True:=⟨⟩
theorem tw3384858237140249800:True:=⟨⟩
theorem tw15462414832971340256:True:=⟨⟩
theorem tw17092094596097150618:True:=⟨⟩
theorem tw5055955640874334904:True:=⟨⟩
theorem tw15274856360797078626:True:=⟨⟩
theorem tw1273583120585336579:True:=⟨⟩
theorem tw14916202748087371944:True:=⟨⟩
theorem tw1299319290729411920:True:=⟨⟩
theorem tw6396017553259284124:True:=⟨⟩
theorem tw5438831827131416888:True:=⟨⟩
theorem tw1902754551582867561:True:=⟨⟩
theorem tw4056270910917201831:True:=⟨⟩
theorem tw12219512705738599021:True:=⟨⟩
theorem tw5189780602208921310:True:=⟨⟩
theorem tw437534634077163847:True:=⟨⟩
theorem tw15505675129981166113:True:=⟨⟩
theorem tw7276013540153241084:True:=⟨⟩
theorem tw2201306404548609547:True:=⟨⟩
theorem tw13463558215457259582:True:=⟨⟩
theorem tw9464417701048127947:True:=⟨⟩
theorem tw7499365098147365621:True:=⟨⟩
theorem tw11975771152792504044:True:=⟨⟩
theorem tw10472183733418339316:True:=⟨⟩
theorem tw620233503781600244:True:=⟨⟩
theorem tw7856580471358416282:True:=⟨⟩
theorem tw17933440416606161858:True:=⟨⟩
theorem tw3162264621223815677:True:=⟨⟩
theorem tw11952309323241053379:True:=⟨⟩
theorem tw127423454215802840:True:=⟨⟩
theorem tw1733744953317856445:True:=⟨⟩
theorem tw17814491789457634051:True:=⟨⟩
theorem tw7910221479046277610:True:=⟨⟩
theorem tw14457598465852218886:True:=⟨⟩
theorem tw12066178620653064874:True:=⟨⟩
theorem tw9200330197067421115:True:=⟨⟩
theorem tw13468923340822585488:True:=⟨⟩
theorem tw12117460353608821864:True:=⟨⟩
theorem tw13329942582686594379:True:=⟨⟩
theorem tw4603890583814415204:True:=⟨⟩
theorem tw16800997667575721541:True:=⟨⟩
theorem tw15590627282705473993:True:=⟨⟩
theorem tw842793390314483620:True:=⟨⟩
theorem tw8529020170189433330:True:=⟨⟩
theorem tw17292469965957531478:True:=⟨⟩
theorem tw15469157617142141710:True:=⟨⟩
theorem tw16146633858663668739:True:=⟨⟩
theorem tw5099900934548537757:True:=⟨⟩
theorem tw15623214840700809903:True:=⟨⟩
theorem tw8184708281838074206:True:=⟨⟩
theorem tw12967805889597932581:True:=⟨⟩
theorem tw302538394102154784:True:=⟨⟩
theorem tw11836910150536664915:True:=⟨⟩
theorem tw113821698655799979:True:=⟨⟩
theorem tw10118140284582671090:True:=⟨⟩
theorem tw3604371722874584219:True:=⟨⟩
theorem tw11791088910183784695:True:=⟨⟩
theorem tw5033959223826794972:True:=⟨⟩
theorem tw2912573282932879776:True:=⟨⟩
theorem tw2290268214366725154:True:=⟨⟩
theorem tw10319702536984744784:True:=⟨⟩
theorem tw340442491454447764:True:=⟨⟩
theorem tw8868806382682364411:True:=⟨⟩
theorem tw14765760737338471991:True:=⟨⟩
theorem tw3016316376071577429:True:=⟨⟩
theorem tw10499325594661192776:True:=⟨⟩
theorem tw12179455670472476543:True:=⟨⟩
theorem tw16316554137538487329:True:=⟨⟩
theorem tw14302830165969023719:True:=⟨⟩
theorem tw5649241889958590350:True:=⟨⟩
theorem tw5879479702872096659:True:=⟨⟩
theorem tw12762855891700095494:True:=⟨⟩
theorem tw17819583843959417973:True:=⟨⟩
theorem tw15103685750691789098:True:=⟨⟩
theorem tw7545654013535254480:True:=⟨⟩
theorem tw7925426705801168976:True:=⟨⟩
theorem tw11775131333759173506:True:=⟨⟩
theorem tw4162360135600614074:True:=⟨⟩
theorem tw15695161780090201225:True:=⟨⟩
theorem tw17881794589497109145:True:=⟨⟩
theorem tw2558861820686608913:True:=⟨⟩
theorem tw13760198194640045919:True:=⟨⟩
theorem tw3479739002732855021:True:=⟨⟩
theorem tw7868544009499267292:True:=⟨⟩
theorem tw1335791156554467795:True:=⟨⟩
theorem tw12499812526503966003:True:=⟨⟩
theorem tw6960331851368153911:True:=⟨⟩
theorem tw15189915617685484396:True:=⟨⟩
theorem tw1579314106941295789:True:=⟨⟩
theorem tw242267411020056884:True:=⟨⟩
theorem tw5882343337706715899:True:=⟨⟩
theorem tw5997644934508616594:True:=⟨⟩
theorem tw8523286992835677893:True:=⟨⟩
theorem tw4444701892398472603:True:=⟨⟩
theorem tw2781955308351554444:True:=⟨⟩
theorem tw11793381155483064346:True:=⟨⟩
theorem tw6766658173562982576:True:=⟨⟩
theorem tw17781206938751360472:True:=⟨⟩
theorem tw8775572950483521906:True:=⟨⟩
theorem tw18350254838040925587:True:=⟨⟩
theorem tw5405151241437436114:True:=⟨⟩
theorem tw17355795232565534833:True:=⟨⟩
theorem tw707090093093636701:True:=⟨⟩
theorem tw11896201609302106115:True:=⟨⟩
theorem tw8444963059077079450:True:=⟨⟩
theorem tw8958452949930002773:True:=⟨⟩
theorem tw9838295914634562783:True:=⟨⟩
theorem tw1371446737807839366:True:=⟨⟩
theorem tw15848567645679474065:True:=⟨⟩
theorem tw13334927893685096626:True:=⟨⟩
theorem tw12044105500090777872:True:=⟨⟩
theorem tw5015864234111024480:True:=⟨⟩
theorem tw697334722855355308:True:=⟨⟩
theorem tw14875044017630859624:True:=⟨⟩
theorem tw11678933692714762019:True:=⟨⟩
theorem tw18145388855558949900:True:=⟨⟩
theorem tw1488662743745869538:True:=⟨⟩
theorem tw10335108021726791369:True:=⟨⟩
theorem tw13762013822233420738:True:=⟨⟩
theorem tw1601961968588287001:True:=⟨⟩
theorem tw3085902745639715626:True:=⟨⟩
theorem tw4337987958061720545:True:=⟨⟩
theorem tw12294887724330564330:True:=⟨⟩
theorem tw9851385603074314742:True:=⟨⟩
theorem tw9988426361468213469:True:=⟨⟩
theorem tw4516712372641221423:True:=⟨⟩
theorem tw6496092161831514541:True:=⟨⟩
theorem tw3947618128840659280:True:=⟨⟩
theorem tw12548274353314379123:True:=⟨⟩
theorem tw369943808078234791:True:=⟨⟩
theorem tw8341004590406740810:True:=⟨⟩
theorem tw16741440440132755172:True:=⟨⟩
theorem tw3388183141720772199:True:=⟨⟩
theorem tw11958728741117712003:True:=⟨⟩
theorem tw8465779003785688887:True:=⟨⟩
theorem tw2959683903145980101:True:=⟨⟩
theorem tw17333791097184162534:True:=⟨⟩
theorem tw11577658342963013345:True:=⟨⟩
theorem tw5798653541585068671:True:=⟨⟩
theorem tw6761874176595719354:True:=⟨⟩
theorem tw18186416632783805872:True:=⟨⟩
theorem tw5586392500970708615:True:=⟨⟩
theorem tw3742335343461010818:True:=⟨⟩
theorem tw1934810232205804993:True:=⟨⟩
theorem tw9261806104794426953:True:=⟨⟩
theorem tw3168900989282067249:True:=⟨⟩
theorem tw12852820008105578649:True:=⟨⟩
theorem tw9501391760213346845:True:=⟨⟩
theorem tw280920844665842053:True:=⟨⟩
theorem tw4535560162481520197:True:=⟨⟩
theorem tw7669669677095693358:True:=⟨⟩
theorem tw13061340530893119238:True:=⟨⟩
theorem tw7545590854473540767:True:=⟨⟩
theorem tw14863180981096415481:True:=⟨⟩
theorem tw17301649491993114969:True:=⟨⟩
theorem tw11792362355297244138:True:=⟨⟩
theorem tw6648197116569056673:True:=⟨⟩
theorem tw10967300191404684569:True:=⟨⟩
theorem tw17256302963761357986:True:=⟨⟩
theorem tw1469495571348798126:True:=⟨⟩
theorem tw13835169320686990480:True:=⟨⟩
theorem tw2401531773124529735:True:=⟨⟩
theorem tw1859146779660683823:True:=⟨⟩
theorem tw14492196311604417308:True:=⟨⟩
theorem tw6049599900894316688:True:=⟨⟩
theorem tw16738726308800667447:True:=⟨⟩
theorem tw12092817750456807627:True:=⟨⟩
theorem tw8443025263604155638:True:=⟨⟩
theorem tw4559885085590827626:True:=⟨⟩
theorem tw8243020233432551205:True:=⟨⟩
theorem tw14621228733418778453:True:=⟨⟩
theorem tw10951800313117414527:True:=⟨⟩
theorem tw1182916100746360932:True:=⟨⟩
theorem tw11862022474199680377:True:=⟨⟩
theorem tw15657491793718945610:True:=⟨⟩
theorem tw3860174431591174066:True:=⟨⟩
theorem tw12850242359631670003:True:=⟨⟩
theorem tw7185185305316088854:True:=⟨⟩
theorem tw17195952149560314771:True:=⟨⟩
theorem tw17992364426957274132:True:=⟨⟩
theorem tw18060336119277286115:True:=⟨⟩
theorem tw5214446914017263519:True:=⟨⟩
theorem tw7978788361824508945:True:=⟨⟩
theorem tw15716183405302250479:True:=⟨⟩
theorem tw1587768003098754325:True:=⟨⟩
theorem tw6772379921613518395:True:=⟨⟩
theorem tw590541238101311183:True:=⟨⟩
theorem tw17700112632457955127:True:=⟨⟩
theorem tw10602399703277881627:True:=⟨⟩
theorem tw1357757348178948127:True:=⟨⟩
theorem tw482805393138593929:True:=⟨⟩
theorem tw8615399842404961663:True:=⟨⟩
theorem tw3633373589777264862:True:=⟨⟩
theorem tw4772658413541480157:True:=⟨⟩
theorem tw16912792503757511054:True:=⟨⟩
theorem tw60084206612377972:True:=⟨⟩
theorem tw435229417069212923:True:=⟨⟩
theorem tw4024587099455181709:True:=⟨⟩
theorem tw4487652198498899664:True:=⟨⟩
theorem tw8011658993158656957:True:=⟨⟩
theorem tw17463027529269885953:True:=⟨⟩
theorem tw161333873384909080:True:=⟨⟩
theorem tw14592908492388784131:True:=⟨⟩
theorem tw7781976810680006178:True:=⟨⟩
theorem tw17789319016849944305:True:=⟨⟩
theorem tw1633898876240874773:True:=⟨⟩
theorem tw161632788893874429:True:=⟨⟩
theorem tw16731332320388202666:True:=⟨⟩
theorem tw12562849145585476731:True:=⟨⟩
theorem tw14725644924352215136:True:=⟨⟩
theorem tw8911001522857785143:True:=⟨⟩
theorem tw14239292526413980002:True:=⟨⟩
theorem tw12761472262123182041:True:=⟨⟩
theorem tw12808456870637180559:True:=⟨⟩
theorem tw16529046165737248422:True:=⟨⟩
theorem tw2989192609971925910:True:=⟨⟩
theorem tw3720110479823389818:True:=⟨⟩
theorem tw11116944545036436439:True:=⟨⟩
theorem tw9088682870026954680:True:=⟨⟩
theorem tw14395644662136614805:True:=⟨⟩
theorem tw3390907139478361160:True:=⟨⟩
theorem tw14857529406646634625:True:=⟨⟩
theorem tw16616245412964173377:True:=⟨⟩
theorem tw16564990636065421569:True:=⟨⟩
theorem tw3127163415804763599:True:=⟨⟩
theorem tw16986268789631483586:True:=⟨⟩
theorem tw6888942637506950926:True:=⟨⟩
theorem tw13155097880312403346:True:=⟨⟩
theorem tw1975147037884041520:True:=⟨⟩
theorem tw1217171336636241682:True:=⟨⟩
theorem tw6211587326476211309:True:=⟨⟩
theorem tw14998389939795375158:True:=⟨⟩
theorem tw8181180424491326830:True:=⟨⟩
theorem tw7056001396292377188:True:=⟨⟩
theorem tw14827147247131554333:True:=⟨⟩
theorem tw3150075250938504248:True:=⟨⟩
theorem tw3141554390599180669:True:=⟨⟩
theorem tw17841917278309519415:True:=⟨⟩
theorem tw974242676711936875:True:=⟨⟩
theorem tw13143666931850650640:True:=⟨⟩
theorem tw2448323844178294169:True:=⟨⟩
theorem tw10467399731503315703:True:=⟨⟩
theorem tw17075553230084287909:True:=⟨⟩
theorem tw6831798877050662096:True:=⟨⟩
theorem tw12098860561503762481:True:=⟨⟩
theorem tw16342273516520970692:True:=⟨⟩
theorem tw6453619897266653623:True:=⟨⟩
theorem tw12207685810698929643:True:=⟨⟩
theorem tw10025635815308576066:True:=⟨⟩
theorem tw5233578499609466721:True:=⟨⟩
theorem tw18174217711786252908:True:=⟨⟩
theorem tw6377287985247879410:True:=⟨⟩
theorem tw8894826161267586577:True:=⟨⟩
theorem tw13213058742666125385:True:=⟨⟩
theorem tw561600600097829391:True:=⟨⟩
theorem tw9446046918361872579:True:=⟨⟩
theorem tw3846472181373799198:True:=⟨⟩
theorem tw12976933641374925533:True:=⟨⟩
theorem tw4163455835068889971:True:=⟨⟩
theorem tw7101197657001211085:True:=⟨⟩
theorem tw1256279898242784606:True:=⟨⟩
theorem tw7078629122812257199:True:=⟨⟩
theorem tw16062187612904122858:True:=⟨⟩
theorem tw6531100040246800141:True:=⟨⟩
theorem tw3798757254938238448:True:=⟨⟩
theorem tw15089273742334493110:True:=⟨⟩
theorem tw4977384430496418070:True:=⟨⟩
theorem tw137721658169608169:True:=⟨⟩
theorem tw12478609949429157409:True:=⟨⟩
theorem tw3380921506998607145:True:=⟨⟩
theorem tw10379991877525085312:True:=⟨⟩
theorem tw3817958767811374121:True:=⟨⟩
theorem tw3687826684616867901:True:=⟨⟩
theorem tw10332575325313852403:True:=⟨⟩
theorem tw3869719713472690019:True:=⟨⟩
theorem tw12509332252045503800:True:=⟨⟩
theorem tw7509650053966640704:True:=⟨⟩
theorem tw16467933323881711526:True:=⟨⟩
theorem tw1021466310418864216:True:=⟨⟩
theorem tw11860497122814397755:True:=⟨⟩
theorem tw11501073197159204048:True:=⟨⟩
theorem tw13262402704330787269:True:=⟨⟩
theorem tw2891712166699250113:True:=⟨⟩
theorem tw11777355322855799659:True:=⟨⟩
theorem tw17756055853247313500:True:=⟨⟩
theorem tw7882899307092141335:True:=⟨⟩
theorem tw2608646628457097981:True:=⟨⟩
theorem tw213970696928864655:True:=⟨⟩
theorem tw11018331769982298155:True:=⟨⟩
theorem tw17128258169734466478:True:=⟨⟩
theorem tw6743021324641148519:True:=⟨⟩
theorem tw15930047269337530508:True:=⟨⟩
theorem tw10084071824679271942:True:=⟨⟩
theorem tw3590221896205082762:True:=⟨⟩
theorem tw16595449952281916149:True:=⟨⟩
theorem tw7582116766257987118:True:=⟨⟩
theorem tw9315315907157715723:True:=⟨⟩
theorem tw6084657873442493111:True:=⟨⟩
theorem tw3185835378763510077:True:=⟨⟩
end Mine.whole
set_option maxHeartbeats 80000000 in
set_option Elab.async true in
theorem Mine.whole:PySem.Challenge.rw_xw0030_01.row.Holds:=by
 o_head (kHook Mine.hd.heap_1 Mine.asK (fun _=>by kernel_rfl))
 case hw=>w_witness2
 k_go0
 rename_i w0 s₀ s₁ mg mb G Y fa o pm doc ho hg KX X V GL T B TE TW a1 a2 M lc a3 hcd is hs hlay0 hL hr hl2 a4 a5 ax vs a6 hL' ra w1 r0 hI hr2 hc1 hc2 K0 hD h₁ tk F o3 o2 o1 d3 d2 d1 N X0
 have wit:=Mine.witOf T.g
 have ok:Mine.Par.Ok ⟨PySem.Challenge.rw_xw0030_01.row.prog,w0,s₁.heap,mg,mb,s₁.os,wit⟩:=Mine.parOk T KX wit
 have hsc:∀ x,bindL (envOfC "law" (Mine.fdLaw w0.params).1.scope s₁.heap.objs.size fa (.ref lc)).kindOf [("script",.ref ax)] (fun _=>none) x = if x = "script" then some (.ref ax) else none:=fun x=>rfl
 have J:=@Mine.lawJoin ⟨PySem.Challenge.rw_xw0030_01.row.prog,w0,s₁.heap,mg,mb,s₁.os,wit⟩ ok _ fa ax (.ref lc) vs is h₁ _ o1 o2 o3 { heap:=h₁,gens:=s₁.gens,drawn:=s₁.drawn,toks:=tk,os:=s₁.os } (@Mine.rmCaller (envOfC "law" (Mine.fdLaw w0.params).1.scope s₁.heap.objs.size fa (.ref lc))) hL' hI (by simpa using hc1) rfl hg rfl F hsc N d1 d2 d3
 refine @Mine.lawEnd _ _ _ _ _ _ _ _ @J ?_ ?_
 ·rintro fl s' ⟨rfl,hk,ho',hg'⟩
  exact ⟨.inl ⟨.bool true,.bool true,[],rfl,fun _=>rfl,.bool _,Mine.lawPost _ _,fun _=>⟨List.nodup_nil,fun _ h=>nomatch h⟩⟩,hk,ho',hg'⟩
 ·exact fun _ _ f=>f.elim
theorem PySem.Challenge.cw_xw0030_01_holds : PySem.Challenge.rw_xw0030_01.Holds := by
 exact Mine.hd Mine.whole
end
