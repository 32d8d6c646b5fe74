import PyProof.Rows.All
import Wide.All
import OpenK.AllK
import Wide.FinOn
import Lean
import PySem.Challenge.RW_sa0597_01
set_option Elab.async false
set_option linter.all false
set_option maxRecDepth 100000
namespace Mine
section
open Nat.Internal.Linear
theorem fk_step {c:Context} {l r l1 r1:Expr} {k:Nat} (h1:l1.denote c<=r1.denote c) (h:(Expr.add l (.mulL k r1)).denote c<=(Expr.add r (.mulL k l1)).denote c):l.denote c<=r.denote c:=
 Nat.le_of_add_le_add_right (Nat.le_trans h (Nat.add_le_add_left (Nat.mul_le_mul_left k h1) _))
theorem fk0 (c:Context) (l r:Expr)  (h:(ExprCnstr.toNormPoly ⟨false,l,r⟩).isValid=true):l.denote c<=r.denote c:=of_eq_true (ExprCnstr.eq_true_of_isValid c ⟨false,l,r⟩ h)
theorem fk1 (c:Context) (l r:Expr) (l1 r1:Expr) (c1:Nat) (h1:l1.denote c<=r1.denote c) (h:(ExprCnstr.toNormPoly ⟨false,(.add l (.mulL c1 r1)),(.add r (.mulL c1 l1))⟩).isValid=true):l.denote c<=r.denote c:=fk_step h1 (fk0 c _ _  h)
theorem fk2 (c:Context) (l r:Expr) (l1 r1:Expr) (c1:Nat) (h1:l1.denote c<=r1.denote c) (l2 r2:Expr) (c2:Nat) (h2:l2.denote c<=r2.denote c) (h:(ExprCnstr.toNormPoly ⟨false,(.add (.add l (.mulL c1 r1)) (.mulL c2 r2)),(.add (.add r (.mulL c1 l1)) (.mulL c2 l2))⟩).isValid=true):l.denote c<=r.denote c:=fk_step h1 (fk1 c _ _ _ _ c2 h2 h)
theorem fk3 (c:Context) (l r:Expr) (l1 r1:Expr) (c1:Nat) (h1:l1.denote c<=r1.denote c) (l2 r2:Expr) (c2:Nat) (h2:l2.denote c<=r2.denote c) (l3 r3:Expr) (c3:Nat) (h3:l3.denote c<=r3.denote c) (h:(ExprCnstr.toNormPoly ⟨false,(.add (.add (.add l (.mulL c1 r1)) (.mulL c2 r2)) (.mulL c3 r3)),(.add (.add (.add r (.mulL c1 l1)) (.mulL c2 l2)) (.mulL c3 l3))⟩).isValid=true):l.denote c<=r.denote c:=fk_step h1 (fk2 c _ _ _ _ c2 h2 _ _ c3 h3 h)
theorem fk4 (c:Context) (l r:Expr) (l1 r1:Expr) (c1:Nat) (h1:l1.denote c<=r1.denote c) (l2 r2:Expr) (c2:Nat) (h2:l2.denote c<=r2.denote c) (l3 r3:Expr) (c3:Nat) (h3:l3.denote c<=r3.denote c) (l4 r4:Expr) (c4:Nat) (h4:l4.denote c<=r4.denote c) (h:(ExprCnstr.toNormPoly ⟨false,(.add (.add (.add (.add l (.mulL c1 r1)) (.mulL c2 r2)) (.mulL c3 r3)) (.mulL c4 r4)),(.add (.add (.add (.add r (.mulL c1 l1)) (.mulL c2 l2)) (.mulL c3 l3)) (.mulL c4 l4))⟩).isValid=true):l.denote c<=r.denote c:=fk_step h1 (fk3 c _ _ _ _ c2 h2 _ _ c3 h3 _ _ c4 h4 h)
end
section
open Nat.Internal.Linear
noncomputable abbrev X0:Nat.Internal.Linear.Expr:=.var 0
noncomputable abbrev X1:Nat.Internal.Linear.Expr:=.var 1
noncomputable abbrev X2:Nat.Internal.Linear.Expr:=.var 2
noncomputable abbrev X3:Nat.Internal.Linear.Expr:=.var 3
noncomputable abbrev X4:Nat.Internal.Linear.Expr:=.var 4
noncomputable abbrev X5:Nat.Internal.Linear.Expr:=.var 5
noncomputable abbrev C2 (a b:Nat):Context:=.branch 1 (.leaf a) (.leaf b)
noncomputable abbrev C3 (a b c:Nat):Context:=.branch 1 (.leaf a) (.branch 2 (.leaf b) (.leaf c))
noncomputable abbrev C4 (a b c d:Nat):Context:=.branch 2 (C2 a b) (.branch 3 (.leaf c) (.leaf d))
theorem le_ {a b:Nat} (h:a=b):a<=b:=Nat.le_of_eq h
end
section
variable {b0 b1 b2 b3 b4 b5:Nat}
theorem om1:3<=16777216:=(fk0 (.leaf 0) (.num 3) (.num 16777216) rfl)
theorem om2:(3+0)<=1000000:=(fk0 (.leaf 0) (.add (.num 3) (.num 0)) (.num 1000000) rfl)
theorem om3:(b0 % 3)<3:=Nat.mod_lt _ (by decide)
theorem om4:(b0+1)≠b0:=fun q=>Nat.not_succ_le_zero 0 (fk1 (.leaf b0) (.num 1) (.num 0) (.add X0 (.num 1)) X0 1 (le_ q) rfl)
theorem om5:b0<=(b0+1):=(fk0 (.leaf b0) X0 (.add X0 (.num 1)) rfl)
theorem om6:b0<=(b0+15):=(fk0 (.leaf b0) X0 (.add X0 (.num 15)) rfl)
theorem om8 (h0:b0=0):b0≠8:=fun q=>Nat.not_succ_le_zero 0 (fk2 (.leaf b0) (.num 1) (.num 0) X0 (.num 0) 1 (le_ h0) (.num 8) X0 1 (le_ q.symm) rfl)
theorem om9 (h0:b0=9):7<=b0:=(fk1 (.leaf b0) (.num 7) X0 (.num 9) X0 1 (le_ h0.symm) rfl)
theorem om10 (h0:b0=9):b0≠0:=fun q=>Nat.not_succ_le_zero 0 (fk2 (.leaf b0) (.num 1) (.num 0) (.num 9) X0 1 (le_ h0.symm) X0 (.num 0) 1 (le_ q) rfl)
theorem om11 (h0:b0=9):b0≠8:=fun q=>Nat.not_succ_le_zero 0 (fk2 (.leaf b0) (.num 1) (.num 0) (.num 9) X0 1 (le_ h0.symm) X0 (.num 8) 1 (le_ q) rfl)
theorem om12 (h0:b0=0):b0≠10:=fun q=>Nat.not_succ_le_zero 0 (fk2 (.leaf b0) (.num 1) (.num 0) X0 (.num 0) 1 (le_ h0) (.num 10) X0 1 (le_ q.symm) rfl)
theorem om13 (h0:b0=9):b0≠10:=fun q=>Nat.not_succ_le_zero 0 (fk2 (.leaf b0) (.num 1) (.num 0) X0 (.num 9) 1 (le_ h0) (.num 10) X0 1 (le_ q.symm) rfl)
theorem om14 (h0:b0<=15):b0<=20:=(fk1 (.leaf b0) X0 (.num 20) X0 (.num 15) 1 h0 rfl)
theorem om15 {b0:Int} (h0:¬(0<=b0)):b0<0:=Int.not_le.mp h0
theorem om16 (h0:0<b0):¬(b0=0):=fun q=>Nat.not_succ_le_zero 0 (fk2 (.leaf b0) (.num 1) (.num 0) (.add (.num 0) (.num 1)) X0 1 h0 X0 (.num 0) 1 (le_ q) rfl)
theorem om17 (h0:b0<=50):b0<=100:=(fk1 (.leaf b0) X0 (.num 100) X0 (.num 50) 1 h0 rfl)
theorem om18 (h0:(b0+1)<=b0):False:=Nat.not_succ_le_zero 0 (fk1 (.leaf b0) (.num 1) (.num 0) (.add X0 (.num 1)) X0 1 h0 rfl)
theorem om19 (h0:b0<=15):b0<=9000:=(fk1 (.leaf b0) X0 (.num 9000) X0 (.num 15) 1 h0 rfl)
theorem om20 (h0:b0<=20):b0<=9000:=(fk1 (.leaf b0) X0 (.num 9000) X0 (.num 20) 1 h0 rfl)
theorem om21 (h0:b0<=63):b0<=1000:=(fk1 (.leaf b0) X0 (.num 1000) X0 (.num 63) 1 h0 rfl)
theorem om22:(b0+0)≠(b0+1):=fun q=>Nat.not_succ_le_zero 0 (fk1 (.leaf b0) (.num 1) (.num 0) (.add X0 (.num 1)) (.add X0 (.num 0)) 1 (le_ q.symm) rfl)
theorem om23:(b0+1)≠(b0+0):=fun q=>Nat.not_succ_le_zero 0 (fk1 (.leaf b0) (.num 1) (.num 0) (.add X0 (.num 1)) (.add X0 (.num 0)) 1 (le_ q) rfl)
theorem om24:(b0+1)≠(b0+2):=fun q=>Nat.not_succ_le_zero 0 (fk1 (.leaf b0) (.num 1) (.num 0) (.add X0 (.num 2)) (.add X0 (.num 1)) 1 (le_ q.symm) rfl)
theorem om25:(b0+2)≠(b0+0):=fun q=>Nat.not_succ_le_zero 0 (fk1 (.leaf b0) (.num 1) (.num 0) (.add X0 (.num 2)) (.add X0 (.num 0)) 1 (le_ q) rfl)
theorem om26 (h0:b0<64):b0<=90000:=(fk1 (.leaf b0) X0 (.num 90000) (.add X0 (.num 1)) (.num 64) 1 h0 rfl)
theorem om27 (h0:b0=2):b0<=100000:=(fk1 (.leaf b0) X0 (.num 100000) X0 (.num 2) 1 (le_ h0) rfl)
theorem om28 (h0:b0<2):(1 - b0)<2:=Nat.lt_of_le_of_lt (Nat.sub_le _ _) (by decide)
theorem om29 (h0:b0<9):(b0 / 3)<3:=Nat.div_lt_of_lt_mul h0
theorem om30:b0<=(b0+b1):=(fk0 (C2 b0 b1) X0 (.add X0 X1) rfl)
theorem om31:(b0+16)≠(b0+15):=fun q=>Nat.not_succ_le_zero 0 (fk1 (.leaf b0) (.num 1) (.num 0) (.add X0 (.num 16)) (.add X0 (.num 15)) 1 (le_ q) rfl)
theorem om32 (h0:b0<64):b0<=1000000:=(fk1 (.leaf b0) X0 (.num 1000000) (.add X0 (.num 1)) (.num 64) 1 h0 rfl)
theorem om33 (h0:b0<=1000):b0<=90000:=(fk1 (.leaf b0) X0 (.num 90000) X0 (.num 1000) 1 h0 rfl)
theorem om34:0<=((b0:Nat):Int):=Int.natCast_nonneg _
theorem om35 (h0:b0<64):b0<=16777216:=(fk1 (.leaf b0) X0 (.num 16777216) (.add X0 (.num 1)) (.num 64) 1 h0 rfl)
theorem om36 {b0 b1:Int} (h0:b0<b1):b0<=b1:=Int.le_of_lt h0
theorem om37 (h0:b0<b1):b0≠b1:=fun q=>Nat.not_succ_le_zero 0 (fk2 (C2 b0 b1) (.num 1) (.num 0) (.add X0 (.num 1)) X1 1 h0 X1 X0 1 (le_ q.symm) rfl)
theorem om38 (h0:b0<=1000):b0<=1000000:=(fk1 (.leaf b0) X0 (.num 1000000) X0 (.num 1000) 1 h0 rfl)
theorem om39 (h0:b0<=90000):b0<100000:=(fk1 (.leaf b0) (.add X0 (.num 1)) (.num 100000) X0 (.num 90000) 1 h0 rfl)
theorem om40:¬((b0+b1)<b0):=fun q=>Nat.not_succ_le_zero 0 (fk1 (C2 b0 b1) (.num 1) (.num 0) (.add (.add X0 X1) (.num 1)) X0 1 q rfl)
theorem om41 (h0:b0<=1000):b0<=16777216:=(fk1 (.leaf b0) X0 (.num 16777216) X0 (.num 1000) 1 h0 rfl)
theorem om42 (h0:b0<=90000):b0<=1000000:=(fk1 (.leaf b0) X0 (.num 1000000) X0 (.num 90000) 1 h0 rfl)
theorem om43:¬(((b0:Nat):Int)<0):=Int.not_lt.mpr (Int.natCast_nonneg _)
theorem om44 (h0:b0<1000000):b0<=999999:=(fk1 (.leaf b0) X0 (.num 999999) (.add X0 (.num 1)) (.num 1000000) 1 h0 rfl)
theorem om45 (h0:b0<5):(7+b0)<100000:=(fk1 (.leaf b0) (.add (.add (.num 7) X0) (.num 1)) (.num 100000) (.add X0 (.num 1)) (.num 5) 1 h0 rfl)
theorem om46 (h0:b0<=100000):b0<=1000000:=(fk1 (.leaf b0) X0 (.num 1000000) X0 (.num 100000) 1 h0 rfl)
theorem om47 (h0:(b0+b1)<b0):False:=Nat.not_succ_le_zero 0 (fk1 (C2 b0 b1) (.num 1) (.num 0) (.add (.add X0 X1) (.num 1)) X0 1 h0 rfl)
theorem om48 (h0:¬(b0<b1)):b1<=b0:=(fk1 (C2 b0 b1) X1 X0 X1 X0 1 (Nat.le_of_not_lt h0) rfl)
theorem om49 (h0:(1<=b0)/\(b0<=7)):b0≠8:=fun q=>Nat.not_succ_le_zero 0 (fk2 (.leaf b0) (.num 1) (.num 0) X0 (.num 7) 1 h0.2 (.num 8) X0 1 (le_ q.symm) rfl)
theorem om50 (h0:(1<=b0)/\(b0<=7)):b0≠9:=fun q=>Nat.not_succ_le_zero 0 (fk2 (.leaf b0) (.num 1) (.num 0) X0 (.num 7) 1 h0.2 (.num 9) X0 1 (le_ q.symm) rfl)
theorem om51 (h0:b0<2):(b0=0)\/(b0=1):=Nat.le_one_iff_eq_zero_or_eq_one.mp (Nat.le_of_lt_succ h0)
theorem om52 (h0:b0<=1000000):b0<(2 ^ 62):=Nat.lt_of_le_of_lt h0 (by decide)
theorem om53 (h0:b0<=1000000):b0<=16777216:=(fk1 (.leaf b0) X0 (.num 16777216) X0 (.num 1000000) 1 h0 rfl)
theorem om54 (h0:b0<=63):(min 40 b0)<=1000:=Nat.le_trans (Nat.min_le_left _ _) (by decide)
theorem om55 (h0:b0<=9000):(b0+1)<=20000:=(fk1 (.leaf b0) (.add X0 (.num 1)) (.num 20000) X0 (.num 9000) 1 h0 rfl)
theorem om56 {b0 b1:Int}:(b0<=b1)\/(b1<=b0):=Int.le_total _ _
theorem om57 {b0:Int} (h0:0<=b0) (h1:b0<0):¬(b0<0):=Int.not_lt.mpr h0
theorem om58 (h0:(1<=b0)/\(b0<=7)):b0≠10:=fun q=>Nat.not_succ_le_zero 0 (fk2 (.leaf b0) (.num 1) (.num 0) X0 (.num 7) 1 h0.2 (.num 10) X0 1 (le_ q.symm) rfl)
theorem om59 (h0:(b0=8)\/(b0=10)):7<=b0:=h0.elim (fun z=>(fk1 (.leaf b0) (.num 7) X0 (.num 8) X0 1 (le_ z.symm) rfl)) (fun z=>(fk1 (.leaf b0) (.num 7) X0 (.num 10) X0 1 (le_ z.symm) rfl))
theorem om60 (h0:(b0=8)\/(b0=10)):b0≠0:=h0.elim (fun z=>fun q=>Nat.not_succ_le_zero 0 (fk2 (.leaf b0) (.num 1) (.num 0) (.num 8) X0 1 (le_ z.symm) X0 (.num 0) 1 (le_ q) rfl)) (fun z=>fun q=>Nat.not_succ_le_zero 0 (fk2 (.leaf b0) (.num 1) (.num 0) (.num 10) X0 1 (le_ z.symm) X0 (.num 0) 1 (le_ q) rfl))
theorem om61 (h0:(b0=8)\/(b0=10)):b0≠9:=h0.elim (fun z=>fun q=>Nat.not_succ_le_zero 0 (fk2 (.leaf b0) (.num 1) (.num 0) X0 (.num 8) 1 (le_ z) (.num 9) X0 1 (le_ q.symm) rfl)) (fun z=>fun q=>Nat.not_succ_le_zero 0 (fk2 (.leaf b0) (.num 1) (.num 0) (.num 10) X0 1 (le_ z.symm) X0 (.num 9) 1 (le_ q) rfl))
theorem om62 (h0:b0<=9000):(b0+1)<=100000:=(fk1 (.leaf b0) (.add X0 (.num 1)) (.num 100000) X0 (.num 9000) 1 h0 rfl)
theorem om63 (h0:(b0+1)<=b1):b0<=b1:=(fk1 (C2 b0 b1) X0 X1 (.add X0 (.num 1)) X1 1 h0 rfl)
theorem om64 (h0:b0<b1):(b0+1)<=b1:=(fk1 (C2 b0 b1) (.add X0 (.num 1)) X1 (.add X0 (.num 1)) X1 1 h0 rfl)
theorem om65 (h0:b0<=b1):b0<=(b1+1):=(fk1 (C2 b0 b1) X0 (.add X1 (.num 1)) X0 X1 1 h0 rfl)
theorem om66 (h0:b0<=20):((6 * b0)+6)<=126:=(fk1 (.leaf b0) (.add (.mulL 6 X0) (.num 6)) (.num 126) X0 (.num 20) 6 h0 rfl)
theorem om67 (h0:b0<=90000):(b0 - 0)<100000:=Nat.lt_of_le_of_lt h0 (by decide)
theorem om68 (h0:0<b0):0<((b0:Nat):Int):=Int.ofNat_lt.mpr h0
theorem om69 (h0:b0<100000):(b0 - 0)<100000:=h0
theorem om71 (h0:b0=((b0+1)+b1)):False:=Nat.not_succ_le_zero 0 (fk1 (C2 b0 b1) (.num 1) (.num 0) (.add (.add X0 (.num 1)) X1) X0 1 (le_ h0.symm) rfl)
theorem om72 (h0:b0<2) (h1:b1=2):b0<b1:=(fk2 (C2 b0 b1) (.add X0 (.num 1)) X1 (.add X0 (.num 1)) (.num 2) 1 h0 (.num 2) X1 1 (le_ h1.symm) rfl)
theorem om73 (h0:b0<3) (h1:b1=3):b0<b1:=(fk2 (C2 b0 b1) (.add X0 (.num 1)) X1 (.add X0 (.num 1)) (.num 3) 1 h0 (.num 3) X1 1 (le_ h1.symm) rfl)
theorem om74 (h0:b0<=60):(700 - (10 * b0))<1000:=Nat.lt_of_le_of_lt (Nat.sub_le _ _) (by decide)
theorem om75:((0+b0)+b1)=(b1+b0):=Nat.le_antisymm (fk0 (C2 b0 b1) (.add (.add (.num 0) X0) X1) (.add X1 X0) rfl) (fk0 (C2 b0 b1) (.add X1 X0) (.add (.add (.num 0) X0) X1) rfl)
theorem om76:(b0+b1)<((b0+1)+b1):=(fk0 (C2 b0 b1) (.add (.add X0 X1) (.num 1)) (.add (.add X0 (.num 1)) X1) rfl)
theorem om77 (h0:b0=2):b0<=((2 * b1)+2):=(fk1 (C2 b0 b1) X0 (.add (.mulL 2 X1) (.num 2)) X0 (.num 2) 1 (le_ h0) rfl)
theorem om78 (h0:b0=3) (h1:b1=b0):b1<64:=(fk2 (C2 b0 b1) (.add X1 (.num 1)) (.num 64) X0 (.num 3) 1 (le_ h0) X1 X0 1 (le_ h1) rfl)
theorem om79 {b0 b1:Int} (h0:b0<=b1) (h1:b1<=b0):b0=b1:=Int.le_antisymm h0 h1
theorem om80:b0<=((b0+b1)+b2):=(fk0 (C3 b0 b1 b2) X0 (.add (.add X0 X1) X2) rfl)
theorem om81 (h0:(b0+1)<=(b1+1)):b0<=b1:=(fk1 (C2 b0 b1) X0 X1 (.add X0 (.num 1)) (.add X1 (.num 1)) 1 h0 rfl)
theorem om82 (h0:b0<64) (h1:b1=b0):b1<64:=(fk2 (C2 b0 b1) (.add X1 (.num 1)) (.num 64) (.add X0 (.num 1)) (.num 64) 1 h0 X1 X0 1 (le_ h1) rfl)
theorem om83 (h0:b0<64) (h1:b1<=b0):b1<=64:=(fk2 (C2 b0 b1) X1 (.num 64) (.add X0 (.num 1)) (.num 64) 1 h0 X1 X0 1 h1 rfl)
theorem om84 (h0:b0=b1) (h1:b1<=15):b1<=20:=(fk1 (C2 b0 b1) X1 (.num 20) X1 (.num 15) 1 h1 rfl)
theorem om85 (h0:b0=b1) (h1:b1<=50):b0<=50:=(fk2 (C2 b0 b1) X0 (.num 50) X0 X1 1 (le_ h0) X1 (.num 50) 1 h1 rfl)
theorem om86 (h0:b0<=15) (h1:b1<=b0):b1<=20:=(fk2 (C2 b0 b1) X1 (.num 20) X0 (.num 15) 1 h0 X1 X0 1 h1 rfl)
theorem om87 (h0:b0<=20) (h1:b1<=b0):b1<64:=(fk2 (C2 b0 b1) (.add X1 (.num 1)) (.num 64) X0 (.num 20) 1 h0 X1 X0 1 h1 rfl)
theorem om88 (h0:b0<=20) (h1:b1<=b0):b1<=20:=(fk2 (C2 b0 b1) X1 (.num 20) X0 (.num 20) 1 h0 X1 X0 1 h1 rfl)
theorem om89 (h0:b0<=b1):(b0+1)<=(b1+1):=(fk1 (C2 b0 b1) (.add X0 (.num 1)) (.add X1 (.num 1)) X0 X1 1 h0 rfl)
theorem om90 (h0:b0<=90000):(0+(b0 - 0))<=999999:=(Nat.zero_add b0).symm▸Nat.le_trans h0 (by decide)
theorem om91 (h0:b0=b1) (h1:b1<=50):b1<=100:=(fk1 (C2 b0 b1) X1 (.num 100) X1 (.num 50) 1 h1 rfl)
theorem om92 (h0:(b0+b1)<=b2):b0<=b2:=(fk1 (C3 b0 b1 b2) X0 X2 (.add X0 X1) X2 1 h0 rfl)
theorem om93 (h0:b0<b1):b0<(b1+b2):=(fk1 (C3 b0 b1 b2) (.add X0 (.num 1)) (.add X1 X2) (.add X0 (.num 1)) X1 1 h0 rfl)
theorem om94 (h0:b0<b1):b0≠(b1+b2):=fun q=>Nat.not_succ_le_zero 0 (fk2 (C3 b0 b1 b2) (.num 1) (.num 0) (.add X0 (.num 1)) X1 1 h0 (.add X1 X2) X0 1 (le_ q.symm) rfl)
theorem om95 (h0:b0<=b1):b0<=(b1+b2):=(fk1 (C3 b0 b1 b2) X0 (.add X1 X2) X0 X1 1 h0 rfl)
theorem om96 (h0:b0<=b1):b2<=(b2+b1):=(fk0 (C3 b0 b1 b2) X2 (.add X2 X1) rfl)
theorem om97 (h0:(b0+19)<=(b0+b1)):19<=b1:=(fk1 (C2 b0 b1) (.num 19) X1 (.add X0 (.num 19)) (.add X0 X1) 1 h0 rfl)
theorem om98 (h0:b0=b1) (h1:b1<=15):b1<=9000:=(fk1 (C2 b0 b1) X1 (.num 9000) X1 (.num 15) 1 h1 rfl)
theorem om99 (h0:b0<=b1):b1=(b0+(b1 - b0)):=(Nat.add_sub_cancel' h0).symm
theorem om100:(((2 * b0)+1)+1)=(2 * (b0+1)):=Nat.le_antisymm (fk0 (.leaf b0) (.add (.add (.mulL 2 X0) (.num 1)) (.num 1)) (.mulL 2 (.add X0 (.num 1))) rfl) (fk0 (.leaf b0) (.mulL 2 (.add X0 (.num 1))) (.add (.add (.mulL 2 X0) (.num 1)) (.num 1)) rfl)
theorem om101:((b0+1)+1)<(((b0+1)+1)+1):=(fk0 (.leaf b0) (.add (.add (.add X0 (.num 1)) (.num 1)) (.num 1)) (.add (.add (.add X0 (.num 1)) (.num 1)) (.num 1)) rfl)
theorem om102 (h0:(b0 % 3)<3) (h1:b0<9):(b0 / 3)<3:=Nat.div_lt_of_lt_mul h1
theorem om104 (h0:b0<=b1) (h1:¬(b0=b1)):b0<b1:=Nat.lt_of_le_of_ne h0 h1
theorem om107 (h0:b0=2) (h1:b1=b0):b1<=1000000:=(fk2 (C2 b0 b1) X1 (.num 1000000) X0 (.num 2) 1 (le_ h0) X1 X0 1 (le_ h1) rfl)
theorem om108:((b0+1)+b1)<((b0+2)+b1):=(fk0 (C2 b0 b1) (.add (.add (.add X0 (.num 1)) X1) (.num 1)) (.add (.add X0 (.num 2)) X1) rfl)
theorem om109:((b0+1)+b1)=(b0+(b1+1)):=Nat.le_antisymm (fk0 (C2 b0 b1) (.add (.add X0 (.num 1)) X1) (.add X0 (.add X1 (.num 1))) rfl) (fk0 (C2 b0 b1) (.add X0 (.add X1 (.num 1))) (.add (.add X0 (.num 1)) X1) rfl)
theorem om110:((b0+2)+b1)<((b0+3)+b1):=(fk0 (C2 b0 b1) (.add (.add (.add X0 (.num 2)) X1) (.num 1)) (.add (.add X0 (.num 3)) X1) rfl)
theorem om111 (h0:b0<=1000) (h1:b1<=b0):b1<=90000:=(fk2 (C2 b0 b1) X1 (.num 90000) X0 (.num 1000) 1 h0 X1 X0 1 h1 rfl)
theorem om112 (h0:b0<=15) (h1:b1<=b0):b1<=1000000:=(fk2 (C2 b0 b1) X1 (.num 1000000) X0 (.num 15) 1 h0 X1 X0 1 h1 rfl)
theorem om113 (h0:b0<=9000) (h1:b1<=b0):b1<=10000:=(fk2 (C2 b0 b1) X1 (.num 10000) X0 (.num 9000) 1 h0 X1 X0 1 h1 rfl)
theorem om114 (h0:(b0+1)<=b1):b1=((b1 - 1)+1):=(Nat.sub_add_cancel (Nat.le_trans (Nat.succ_le_succ (Nat.zero_le _)) h0)).symm
theorem om115 (h0:b0=b1) (h1:b1<=1000):b1<100000:=(fk1 (C2 b0 b1) (.add X1 (.num 1)) (.num 100000) X1 (.num 1000) 1 h1 rfl)
theorem om116 (h0:b0=b1) (h1:b1<=90000):b0<=90000:=(fk2 (C2 b0 b1) X0 (.num 90000) X0 X1 1 (le_ h0) X1 (.num 90000) 1 h1 rfl)
theorem om117 (h0:b0<=9000) (h1:b1<=b0):b1<=100000:=(fk2 (C2 b0 b1) X1 (.num 100000) X0 (.num 9000) 1 h0 X1 X0 1 h1 rfl)
theorem om118 (h0:b0<=b1):(2 * b0)<=((2 * b1)+2):=(fk1 (C2 b0 b1) (.mulL 2 X0) (.add (.mulL 2 X1) (.num 2)) X0 X1 2 h0 rfl)
theorem om119 (h0:b0<=90000):(0+(2 * (b0 - 0)))<=999999:=(Nat.zero_add (2 * b0)).symm▸Nat.le_trans (Nat.mul_le_mul_left 2 h0) (by decide)
theorem om120 {b0 b1 b2:Int} (h0:b0<=b1) (h1:b1<=b2):b0<=b2:=Int.le_trans h0 h1
theorem om121 (h0:b0<b1) (h1:b1<=b2):b0<b2:=(fk2 (C3 b0 b1 b2) (.add X0 (.num 1)) X2 (.add X0 (.num 1)) X1 1 h0 X1 X2 1 h1 rfl)
theorem om122 (h0:b0<b1) (h1:b1<=b2):b0≠b2:=fun q=>Nat.not_succ_le_zero 0 (fk3 (C3 b0 b1 b2) (.num 1) (.num 0) (.add X0 (.num 1)) X1 1 h0 X1 X2 1 h1 X2 X0 1 (le_ q.symm) rfl)
theorem om123 (h0:b0<b1) (h1:b1<=b2):b2≠b0:=fun q=>Nat.not_succ_le_zero 0 (fk3 (C3 b0 b1 b2) (.num 1) (.num 0) (.add X0 (.num 1)) X1 1 h0 X1 X2 1 h1 X2 X0 1 (le_ q) rfl)
theorem om124 (h0:b0<b1) (h1:b2=b0):b0≠b1:=fun q=>Nat.not_succ_le_zero 0 (fk2 (C3 b0 b1 b2) (.num 1) (.num 0) (.add X0 (.num 1)) X1 1 h0 X1 X0 1 (le_ q.symm) rfl)
theorem om125 (h0:b0<b1) (h1:b2=b1):b0<b2:=(fk2 (C3 b0 b1 b2) (.add X0 (.num 1)) X2 (.add X0 (.num 1)) X1 1 h0 X1 X2 1 (le_ h1.symm) rfl)
theorem om126 (h0:b0=b1) (h1:b1<=b2):b0<=b2:=(fk2 (C3 b0 b1 b2) X0 X2 X0 X1 1 (le_ h0) X1 X2 1 h1 rfl)
theorem om127 (h0:b0<5) (h1:b1=(7+b0)):b1<=1000:=(fk2 (C2 b0 b1) X1 (.num 1000) (.add X0 (.num 1)) (.num 5) 1 h0 X1 (.add (.num 7) X0) 1 (le_ h1) rfl)
theorem om128 (h0:b0=b1) (h1:b1<=1000):b0<=1000000:=(fk2 (C2 b0 b1) X0 (.num 1000000) X0 X1 1 (le_ h0) X1 (.num 1000) 1 h1 rfl)
theorem om129 {b0:Int} {b1:Nat} (h0:(0<=b0)/\(b1<=1000000)):¬(b0<0):=Int.not_lt.mpr h0.1
theorem om130 {b0:Int} (h0:0<=b0):b0=(((Int.toNat b0):Nat):Int):=(Int.toNat_of_nonneg h0).symm
theorem om131 (h0:(b0+1)<b1):b0<=(b1+b2):=(fk1 (C3 b0 b1 b2) X0 (.add X1 X2) (.add (.add X0 (.num 1)) (.num 1)) X1 1 h0 rfl)
theorem om132 (h0:b0<b1) (h1:b2<=50):b2<=100:=(fk1 (C3 b0 b1 b2) X2 (.num 100) X2 (.num 50) 1 h1 rfl)
theorem om133 (h0:(b0+b1)<=90000):(b0+b1)<90001:=(fk1 (C2 b0 b1) (.add (.add X0 X1) (.num 1)) (.num 90001) (.add X0 X1) (.num 90000) 1 h0 rfl)
theorem om135 (h0:b0=b1) (h1:b1<=1000):b0<=16777216:=(fk2 (C2 b0 b1) X0 (.num 16777216) X0 X1 1 (le_ h0) X1 (.num 1000) 1 h1 rfl)
theorem om136 (h0:b0=b1) (h1:b1<=90000):b0<=1000000:=(fk2 (C2 b0 b1) X0 (.num 1000000) X0 X1 1 (le_ h0) X1 (.num 90000) 1 h1 rfl)
theorem om137 (h0:b0<=1000000):((b0:Nat):Int)<(2 ^ 63):=Int.lt_of_le_of_lt (Int.ofNat_le.mpr h0) (by decide)
theorem om138 {b0:Int} {b1:Nat} (h0:¬(b0<0)):(-((b1:Nat):Int))<=b0:=Int.le_trans (Int.neg_nonpos_of_nonneg (Int.natCast_nonneg _)) (Int.not_lt.mp h0)
theorem om139 (h0:(b0=b1)/\(b1<b2)):b1<=b0:=(fk1 (C3 b0 b1 b2) X1 X0 X1 X0 1 (le_ h0.1.symm) rfl)
theorem om140 (h0:(b0+b1)<=90000):(b0+b1)<100000:=(fk1 (C2 b0 b1) (.add (.add X0 X1) (.num 1)) (.num 100000) (.add X0 X1) (.num 90000) 1 h0 rfl)
theorem om141 (h0:b0<(b1+1)) (h1:¬(b0<b1)):b0=b1:=Nat.le_antisymm (fk1 (C2 b0 b1) X0 X1 (.add X0 (.num 1)) (.add X1 (.num 1)) 1 h0 rfl) (fk1 (C2 b0 b1) X1 X0 X1 X0 1 (Nat.le_of_not_lt h1) rfl)
theorem om142 (h0:b0<(b1+1)) (h1:¬(b0=b1)):b0<b1:=Nat.lt_of_le_of_ne (Nat.le_of_lt_succ h0) h1
theorem om143 (h0:b0=b1) (h1:b1<=100000):b0<=1000000:=(fk2 (C2 b0 b1) X0 (.num 1000000) X0 X1 1 (le_ h0) X1 (.num 100000) 1 h1 rfl)
theorem om144 (h0:b0<=b1) (h1:¬(b0=b1)):(b0+1)<=b1:=Nat.lt_of_le_of_ne h0 h1
theorem om145 (h0:b0=b1) (h1:b1<=1000000):b0<=1000000:=(fk2 (C2 b0 b1) X0 (.num 1000000) X0 X1 1 (le_ h0) X1 (.num 1000000) 1 h1 rfl)
theorem om146 (h0:b0=b1) (h1:b1<=1000000):b0<=16777216:=(fk2 (C2 b0 b1) X0 (.num 16777216) X0 X1 1 (le_ h0) X1 (.num 1000000) 1 h1 rfl)
theorem om147 (h0:b0<=20) (h1:b1<=64):(b0+b1)<=1000000:=(fk2 (C2 b0 b1) (.add X0 X1) (.num 1000000) X0 (.num 20) 1 h0 X1 (.num 64) 1 h1 rfl)
theorem om148 (h0:¬(b0<b1)) (h1:¬(b0=b1)):(b1+1)<=b0:=Nat.lt_of_le_of_ne (Nat.le_of_not_lt h0) (fun e=>h1 e.symm)
theorem om149 (h0:0<b0) (h1:b0<=1000000):0<((b0:Nat):Int):=Int.ofNat_lt.mpr h0
theorem om150 (h0:b0<(b1+1)) (h1:b2<b0):b2<b1:=(fk2 (C3 b0 b1 b2) (.add X2 (.num 1)) X1 (.add X0 (.num 1)) (.add X1 (.num 1)) 1 h0 (.add X2 (.num 1)) X0 1 h1 rfl)
theorem om151 (h0:b0<b1) (h1:b2=b0):(b0+1)<=b1:=(fk1 (C3 b0 b1 b2) (.add X0 (.num 1)) X1 (.add X0 (.num 1)) X1 1 h0 rfl)
theorem om152 (h0:b0<=20000) (h1:b1<=b0):(2 * b1)<=100000:=(fk2 (C2 b0 b1) (.mulL 2 X1) (.num 100000) X0 (.num 20000) 2 h0 X1 X0 2 h1 rfl)
theorem om153 (h0:(1<=b0)/\(b0<=6)) (h1:(b0=0)\/(7<=b0)):False:=h1.elim (fun z=>Nat.not_succ_le_zero 0 (fk2 (.leaf b0) (.num 1) (.num 0) (.num 1) X0 1 h0.1 X0 (.num 0) 1 (le_ z) rfl)) (fun z=>Nat.not_succ_le_zero 0 (fk2 (.leaf b0) (.num 1) (.num 0) X0 (.num 6) 1 h0.2 (.num 7) X0 1 z rfl))
theorem om154:((700 - (10 * b0))+1)<=((700 - (10 * b0))+5):=Nat.add_le_add_left (by decide) _
theorem om155 (h0:(b0+b1)<=b2):(b0+b1)<=(b2+1):=(fk1 (C3 b0 b1 b2) (.add X0 X1) (.add X2 (.num 1)) (.add X0 X1) X2 1 h0 rfl)
theorem om156 (h0:(b0=1)/\(b1<=1000)):(b1+2)<=16777216:=(fk1 (C2 b0 b1) (.add X1 (.num 2)) (.num 16777216) X1 (.num 1000) 1 h0.2 rfl)
theorem om157 {b0:Int} (h0:((-(2 ^ 60))<b0)/\(b0<(2 ^ 60))):b0<(2 ^ 64):=Int.lt_trans h0.2 (by decide)
theorem om158 (h0:(b0+b1)<=b2):b2=(b0+(b2 - b0)):=(Nat.add_sub_cancel' (Nat.le_of_add_right_le h0)).symm
theorem om159 (h0:b0<(min b1 b2)) (h1:b1<b2):b0<b2:=Nat.lt_of_lt_of_le h0 (Nat.min_le_right _ _)
theorem om160:(((b0:Nat):Int)+1)=(1+((b0:Nat):Int)):=Int.add_comm _ _
theorem om161:(1+((b0:Nat):Int))=(((b0:Nat):Int)+1):=Int.add_comm _ _
theorem om162 {b0 b2:Int} {b1:Nat} (h0:(b0+((b1:Nat):Int))<b2):b0<b2:=Int.lt_of_le_of_lt (Int.le_add_of_nonneg_right (Int.natCast_nonneg _)) h0
theorem om163 (h0:(b0+(b1 - b2))<=999999):b0<=1000000:=Nat.le_trans (Nat.le_of_add_right_le h0) (by decide)
theorem om164 {b0:Int} (h0:((-(2 ^ 60))<b0)/\(b0<(2 ^ 60))):(-(2 ^ 64))<b0:=Int.lt_trans (by decide) h0.1
theorem om165 (h0:1<=b0) (h1:b1<=b2):(b1+1)<=(b0+b2):=(fk2 (C3 b0 b1 b2) (.add X1 (.num 1)) (.add X0 X2) (.num 1) X0 1 h0 X1 X2 1 h1 rfl)
theorem om166 (h0:b0=b1) (h1:b1<=15) (h2:b2<=b1):b2<=20:=(fk2 (C3 b0 b1 b2) X2 (.num 20) X1 (.num 15) 1 h1 X2 X1 1 h2 rfl)
theorem om167 (h0:b0<=(b1+1)) (h1:b1<=b2):b0<=(b2+1):=(fk2 (C3 b0 b1 b2) X0 (.add X2 (.num 1)) X0 (.add X1 (.num 1)) 1 h0 X1 X2 1 h1 rfl)
theorem om168 (h0:(1<=b0)/\(b0<=6)) (h1:b1=7) (h2:b1=b0):False:=Nat.not_succ_le_zero 0 (fk3 (C2 b0 b1) (.num 1) (.num 0) X0 (.num 6) 1 h0.2 (.num 7) X1 1 (le_ h1.symm) X1 X0 1 (le_ h2) rfl)
theorem om169:((7000 - (100 * b0))+3)<=((7000 - (100 * b0))+50):=Nat.add_le_add_left (by decide) _
theorem om170 (h0:b0<b1):((b0:Nat):Int)<((b1:Nat):Int):=Int.ofNat_lt.mpr h0
theorem om171 (h0:b0<=((7000 - (100 * b1))+50)):(b0+1)<9900:=Nat.lt_of_le_of_lt (Nat.succ_le_succ (Nat.le_trans h0 (Nat.add_le_add_right (Nat.sub_le _ _) _))) (by decide)
theorem om172 {b0:Int} {b1:Nat} (h0:(0<=b0)/\((b0<=16)/\(b1<=16))):b0<(2 ^ 63):=Int.lt_of_le_of_lt h0.2.1 (by decide)
theorem om173 (h0:b0<b1) (h1:b2=(b1+b3)):b0<b2:=(fk2 (C4 b0 b1 b2 b3) (.add X0 (.num 1)) X2 (.add X0 (.num 1)) X1 1 h0 (.add X1 X3) X2 1 (le_ h1.symm) rfl)
theorem om174 (h0:b0<b1) (h1:b2=(b1+b3)):b0≠b2:=fun q=>Nat.not_succ_le_zero 0 (fk3 (C4 b0 b1 b2 b3) (.num 1) (.num 0) (.add X0 (.num 1)) X1 1 h0 (.add X1 X3) X2 1 (le_ h1.symm) X2 X0 1 (le_ q.symm) rfl)
theorem om175 (h0:b0<b1) (h1:b2=(b1+b3)):b2≠b0:=fun q=>Nat.not_succ_le_zero 0 (fk3 (C4 b0 b1 b2 b3) (.num 1) (.num 0) (.add X0 (.num 1)) X1 1 h0 (.add X1 X3) X2 1 (le_ h1.symm) X2 X0 1 (le_ q) rfl)
theorem om176 (h0:(b0+b1)=b2):((0+b0)+b1)=(0+b2):=Nat.le_antisymm (fk1 (C3 b0 b1 b2) (.add (.add (.num 0) X0) X1) (.add (.num 0) X2) (.add X0 X1) X2 1 (le_ h0) rfl) (fk1 (C3 b0 b1 b2) (.add (.num 0) X2) (.add (.add (.num 0) X0) X1) X2 (.add X0 X1) 1 (le_ h0.symm) rfl)
theorem om177 (h0:b0=((2 * b1)+1)) (h1:b0=(2 * b2)):False:=by omega
theorem om178 (h0:(b0+1)<b1):b0<=((b1+b2)+b3):=(fk1 (C4 b0 b1 b2 b3) X0 (.add (.add X1 X2) X3) (.add (.add X0 (.num 1)) (.num 1)) X1 1 h0 rfl)
theorem om179 (h0:b0=b1) (h1:b1<=b2) (h2:¬(b1=b2)):b1<b2:=Nat.lt_of_le_of_ne h1 h2
theorem om180 (h0:0<b0) (h1:b0=b1) (h2:b1<=1000000):(b0 - 1)<b0:=Nat.sub_lt h0 (by decide)
theorem om181 (h0:b0=b1) (h1:b1<=15) (h2:b2=b1):b1<100000:=(fk1 (C3 b0 b1 b2) (.add X1 (.num 1)) (.num 100000) X1 (.num 15) 1 h1 rfl)
theorem om182 (h0:b0<=15) (h1:b1<=b0) (h2:b2<=b1):b2<=100000:=(fk3 (C3 b0 b1 b2) X2 (.num 100000) X0 (.num 15) 1 h0 X1 X0 1 h1 X2 X1 1 h2 rfl)
theorem om183 {b0:Int} {b1:Nat} (h0:(0<=b0)/\((b0<=16)/\(b1<=16))):(-(2 ^ 63))<=b0:=Int.le_trans (by decide) h0.1
theorem om184 (h0:(b0+b1)<=b2) (h1:b3<=b1):¬(b2<b0):=fun q=>Nat.not_succ_le_zero 0 (fk2 (C4 b0 b1 b2 b3) (.num 1) (.num 0) (.add X0 X1) X2 1 h0 (.add X2 (.num 1)) X0 1 q rfl)
theorem om185 (h0:(b0+(2 * (b1 - b2)))<=999999):b0<=1000000:=Nat.le_trans (Nat.le_of_add_right_le h0) (by decide)
theorem om186 (h0:b0<(min b1 b2)) (h1:b0=b1) (h2:b1<b2):False:=Nat.lt_irrefl _ (Nat.lt_of_lt_of_le h0 (h1▸Nat.min_le_left _ _))
theorem om187 (h0:0<b0) (h1:b0=b1) (h2:b1<=1000000):¬((b0 - 1)=b0):=Nat.ne_of_lt (Nat.sub_lt h0 (by decide))
theorem om188 (h0:b0<b1) (h1:b1<=b2) (h2:b2<=b3):b0≠b3:=fun q=>Nat.not_succ_le_zero 0 (fk4 (C4 b0 b1 b2 b3) (.num 1) (.num 0) (.add X0 (.num 1)) X1 1 h0 X1 X2 1 h1 X2 X3 1 h2 X3 X0 1 (le_ q.symm) rfl)
theorem om189 (h0:b0<b1) (h1:b2=b1) (h2:b3=b1):b0<b2:=(fk2 (C4 b0 b1 b2 b3) (.add X0 (.num 1)) X2 (.add X0 (.num 1)) X1 1 h0 X1 X2 1 (le_ h1.symm) rfl)
theorem om190 (h0:b0=b1) (h1:b1=b2) (h2:b3=b2):b3=b1:=Nat.le_antisymm (fk2 (C4 b0 b1 b2 b3) X3 X1 X2 X1 1 (le_ h1.symm) X3 X2 1 (le_ h2) rfl) (fk2 (C4 b0 b1 b2 b3) X1 X3 X1 X2 1 (le_ h1) X2 X3 1 (le_ h2.symm) rfl)
theorem om191 (h0:b0=b1) (h1:b1<=10000) (h2:b2=b1):b1<100000:=(fk1 (C3 b0 b1 b2) (.add X1 (.num 1)) (.num 100000) X1 (.num 10000) 1 h1 rfl)
theorem om192 (h0:¬(b0<b1)):¬(((b0:Nat):Int)<((b1:Nat):Int)):=fun q=>h0 (Int.ofNat_lt.mp q)
theorem om193 (h0:¬(b0=b1)):¬(((b0:Nat):Int)=((b1:Nat):Int)):=fun q=>h0 (Int.ofNat.inj q)
theorem om194 {b0:Int} {b1:Nat} (h0:(0<=b0)/\((b0<=16)/\(b1<=16))):(Int.toNat b0)<=16:=Int.toNat_le.mpr h0.2.1
theorem om195 {b0:Int} {b1:Nat} (h0:0<=b0) (h1:b0<((b1:Nat):Int)):(Int.toNat b0)<b1:=(Int.toNat_lt h0).mpr h1
theorem om196 (h0:b0<b1) (h1:b1<=90000) (h2:b2=b0):b2<=1000000:=(fk3 (C3 b0 b1 b2) X2 (.num 1000000) (.add X0 (.num 1)) X1 1 h0 X1 (.num 90000) 1 h1 X2 X0 1 (le_ h2) rfl)
theorem om197 (h0:b0=(2 * b1)) (h1:b0=(2 * b2)) (h2:b1≠b2):False:=h2 (Nat.eq_of_mul_eq_mul_left (by decide) (h0.symm.trans h1))
theorem om198 (h0:b0<9):(0<=((b0:Nat):Int))/\(((b0:Nat):Int)<1000):=⟨Int.natCast_nonneg _,Int.lt_trans (Int.ofNat_lt.mpr h0) (by decide)⟩
theorem om199 (h0:(b0+b1)<=b2) (h1:b3<=b1):b3<=(b2 - b0):=Nat.le_sub_of_add_le' (Nat.le_trans (Nat.add_le_add_left h1 _) h0)
theorem om200 (h0:b0<=b1) (h1:b2<=b3):(b0+b2)<=(b3+b1):=(fk2 (C4 b0 b1 b2 b3) (.add X0 X2) (.add X3 X1) X0 X1 1 h0 X2 X3 1 h1 rfl)
theorem om201 (h0:b0<(b1+1)) (h1:b2=b1) (h2:¬(b0<b1)):b0=b1:=Nat.le_antisymm (fk1 (C3 b0 b1 b2) X0 X1 (.add X0 (.num 1)) (.add X1 (.num 1)) 1 h0 rfl) (fk1 (C3 b0 b1 b2) X1 X0 X1 X0 1 (Nat.le_of_not_lt h2) rfl)
theorem om202 (h0:b0=b1) (h1:b1<=100000) (h2:b2<=b1):b2<=1000000:=(fk2 (C3 b0 b1 b2) X2 (.num 1000000) X1 (.num 100000) 1 h1 X2 X1 1 h2 rfl)
theorem om203 (h0:((b0:Nat):Int)<1000) (h1:0<=((b0:Nat):Int)):b0<1000:=Int.ofNat_lt.mp h0
theorem om204 (h0:b0<=b1):b0<=(((b1+b2)+b3)+b4):=(fk1 (.branch 2 (C2 b0 b1) (.branch 3 (.leaf b2) (.branch 4 (.leaf b3) (.leaf b4)))) X0 (.add (.add (.add X1 X2) X3) X4) X0 X1 1 h0 rfl)
theorem om205 (h0:(b0+b1)=b2):((b3+b0)+b1)=(b3+b2):=Nat.le_antisymm (fk1 (C4 b0 b1 b2 b3) (.add (.add X3 X0) X1) (.add X3 X2) (.add X0 X1) X2 1 (le_ h0) rfl) (fk1 (C4 b0 b1 b2 b3) (.add X3 X2) (.add (.add X3 X0) X1) X2 (.add X0 X1) 1 (le_ h0.symm) rfl)
theorem om206 (h0:(b0+(2 * (b1 - b2)))<=999999):(b0+1)<=1000000:=Nat.succ_le_succ (Nat.le_of_add_right_le h0)
theorem om207 {b0:Int} {b1 b2:Nat} (h0:(0<=b0)/\(b1<=1000000)) (h1:b2=b1):b2<=16777216:=h1▸Nat.le_trans h0.2 (by decide)
theorem om208 (h0:b0<=(3 * b1)) (h1:b2<=3):(b2+b0)<=(3 * (b1+1)):=(fk2 (C3 b0 b1 b2) (.add X2 X0) (.mulL 3 (.add X1 (.num 1))) X0 (.mulL 3 X1) 1 h0 X2 (.num 3) 1 h1 rfl)
theorem om209 (h0:b0<b1) (h1:b2=b0) (h2:b3=b1):(b0+1)<=b1:=(fk1 (C4 b0 b1 b2 b3) (.add X0 (.num 1)) X1 (.add X0 (.num 1)) X1 1 h0 rfl)
theorem om210 (h0:b0<b1):(((b0:Nat):Int)+1)<(((b1:Nat):Int)+1):=Int.add_lt_add_right (Int.ofNat_lt.mpr h0) 1
theorem om211 (h0:b0<b1):(1+((b0:Nat):Int))<(((b1:Nat):Int)+1):=Int.add_comm _ 1▸Int.add_lt_add_right (Int.ofNat_lt.mpr h0) 1
theorem om212 {b0:Int} {b1:Nat} (h0:(0<=b0)/\(b0<((b1:Nat):Int))):b0<((b1:Nat):Int):=h0.2
theorem om213 (h0:b0<b1) (h1:b1<=b2) (h2:b3<b4):b0≠b2:=fun q=>Nat.not_succ_le_zero 0 (fk3 (.branch 2 (C2 b0 b1) (.branch 3 (.leaf b2) (.branch 4 (.leaf b3) (.leaf b4)))) (.num 1) (.num 0) (.add X0 (.num 1)) X1 1 h0 X1 X2 1 h1 X2 X0 1 (le_ q.symm) rfl)
theorem om214 (h0:(b0+1)<=b1) (h1:b1<=90000) (h2:b2=b0):b2<1000000:=(fk3 (C3 b0 b1 b2) (.add X2 (.num 1)) (.num 1000000) (.add X0 (.num 1)) X1 1 h0 X1 (.num 90000) 1 h1 X2 X0 1 (le_ h2) rfl)
theorem om215 (h0:b0<=((7000 - (100 * b1))+50)) (h1:b1<=60):(b0+64)<9900:=Nat.lt_of_le_of_lt (Nat.add_le_add_right (Nat.le_trans h0 (Nat.add_le_add_right (Nat.sub_le _ _) _)) 64) (by decide)
theorem om216 {b0:Int} {b1 b2:Nat} (h0:(0<=b0)/\((b0<=16)/\(b1<=16))) (h1:b2=b1):b2<=16:=h1▸h0.2.2
theorem om217 (h0:b0=(2 * b1)) (h1:b0<=100000) (h2:b2=b1):b2<=1000000:=(fk3 (C3 b0 b1 b2) X2 (.num 1000000) (.mulL 2 X1) X0 1 (le_ h0.symm) X0 (.num 100000) 1 h1 X2 X1 1 (le_ h2) rfl)
theorem om218 (h0:b0≠b1):¬((((b0:Nat):Int)+1)=(1+((b1:Nat):Int))):=fun q=>h0 (Int.ofNat.inj ((Int.add_left_inj 1).mp (q.trans (Int.add_comm _ _))))
theorem om219 (h0:(b0+b1)=b2):((b3+b1)+b0)<((b3+1)+b2):=(fk1 (C4 b0 b1 b2 b3) (.add (.add (.add X3 X1) X0) (.num 1)) (.add (.add X3 (.num 1)) X2) (.add X0 X1) X2 1 (le_ h0) rfl)
theorem om220 {b0:Int} {b1:Nat}:((b0+((b1:Nat):Int))+1)=(b0+(((b1:Nat):Int)+1)):=Int.add_assoc _ _ _
theorem om221 {b0:Int} {b1:Nat}:((b0 - ((b1:Nat):Int)) - 1)=(b0 - (((b1:Nat):Int)+1)):=Int.sub_sub _ _ _
theorem om222 (h0:b0<=((2 * b1)+2)) (h1:b2<=(3 * b0)):b2<=((6 * b1)+6):=(fk2 (C3 b0 b1 b2) X2 (.add (.mulL 6 X1) (.num 6)) X0 (.add (.mulL 2 X1) (.num 2)) 3 h0 X2 (.mulL 3 X0) 1 h1 rfl)
theorem om223:((((b0+1)+b1):Nat):Int)=(((b0+(b1+1)):Nat):Int):=congrArg _ (Nat.succ_add b0 b1)
theorem om224 (h0:b0<b1) (h1:b1<=15) (h2:b2=b1) (h3:b3=b1):b0<=15:=(fk2 (C4 b0 b1 b2 b3) X0 (.num 15) (.add X0 (.num 1)) X1 1 h0 X1 (.num 15) 1 h1 rfl)
theorem om225 (h0:b0=b1) (h1:b1<=15) (h2:b2<=b1) (h3:b3<=b2):b3<64:=(fk3 (C4 b0 b1 b2 b3) (.add X3 (.num 1)) (.num 64) X1 (.num 15) 1 h1 X2 X1 1 h2 X3 X2 1 h3 rfl)
theorem om226 (h0:b0=((2 * b1)+1)) (h1:b0=((2 * b2)+1)) (h2:b1≠b2):False:=h2 (Nat.eq_of_mul_eq_mul_left (by decide) (Nat.succ.inj (h0.symm.trans h1)))
theorem om227 (h0:b0<b1) (h1:b2=(b1+b3)) (h2:b4<=b0):b4<=b2:=(fk3 (.branch 2 (C2 b0 b1) (.branch 3 (.leaf b2) (.branch 4 (.leaf b3) (.leaf b4)))) X4 X2 (.add X0 (.num 1)) X1 1 h0 (.add X1 X3) X2 1 (le_ h1.symm) X4 X0 1 h2 rfl)
theorem om228 (h0:((b0+b1)+b2)<(b3+1)) (h1:1<=b1):(b0+b2)<b3:=(fk2 (C4 b0 b1 b2 b3) (.add (.add X0 X2) (.num 1)) X3 (.add (.add (.add X0 X1) X2) (.num 1)) (.add X3 (.num 1)) 1 h0 (.num 1) X1 1 h1 rfl)
theorem om229 (h0:b0<=(b1+1)) (h1:b2<=(b0+b3)):b2<=(b1+(b3+1)):=(fk2 (C4 b0 b1 b2 b3) X2 (.add X1 (.add X3 (.num 1))) X0 (.add X1 (.num 1)) 1 h0 X2 (.add X0 X3) 1 h1 rfl)
theorem om231 (h0:(b0+b1)<=90000) (h1:b2=b3) (h2:b3<=b0):b2<=1000000:=(fk3 (C4 b0 b1 b2 b3) X2 (.num 1000000) (.add X0 X1) (.num 90000) 1 h0 X2 X3 1 (le_ h1) X3 X0 1 h2 rfl)
theorem om232 (h0:b0=b1) (h1:b1<=15) (h2:b2<=b1) (h3:b3<=b2):b3<=90000:=(fk3 (C4 b0 b1 b2 b3) X3 (.num 90000) X1 (.num 15) 1 h1 X2 X1 1 h2 X3 X2 1 h3 rfl)
theorem om233 (h0:b0=b1) (h1:b1<=b2) (h2:b3=b2) (h3:¬(b1=b2)):b1<b2:=Nat.lt_of_le_of_ne h1 h3
theorem om234 (h0:b0=b1) (h1:b1<=1000):(min (min (Int.toNat 40) b0) b0)=(min 40 b0):=Nat.min_eq_left (Nat.min_le_right _ _)
theorem om235 (h0:b0<b1) (h1:b1<=15) (h2:b2=b1) (h3:b3=b1):b2<=100000:=(fk2 (C4 b0 b1 b2 b3) X2 (.num 100000) X1 (.num 15) 1 h1 X2 X1 1 (le_ h2) rfl)
theorem om236 (h0:b0<5) (h1:b1=(7+b0)) (h2:b2=b1) (h3:b3=b1):b1<=15:=(fk2 (C4 b0 b1 b2 b3) X1 (.num 15) (.add X0 (.num 1)) (.num 5) 1 h0 X1 (.add (.num 7) X0) 1 (le_ h1) rfl)
theorem om237 (h0:b0=b1) (h1:b1=b2) (h2:b2<=b3) (h3:b3<=9000):b0<=90000:=(fk4 (C4 b0 b1 b2 b3) X0 (.num 90000) X0 X1 1 (le_ h0) X1 X2 1 (le_ h1) X2 X3 1 h2 X3 (.num 9000) 1 h3 rfl)
theorem om238 {b0 b2:Int} {b1:Nat} (h0:(b0+((b1:Nat):Int))=b2):¬((b0+((b1:Nat):Int))<b2):=Int.not_lt.mpr (Int.le_of_eq h0.symm)
theorem om239 (h0:b0<5) (h1:b1=(7+b0)) (h2:b2=b1) (h3:b3=b1):b2<=1000:=(fk3 (C4 b0 b1 b2 b3) X2 (.num 1000) (.add X0 (.num 1)) (.num 5) 1 h0 X1 (.add (.num 7) X0) 1 (le_ h1) X2 X1 1 (le_ h2) rfl)
theorem om240 {b0:Int} {b1 b2:Nat} (h0:b0<((b1:Nat):Int)) (h1:b1<=1000000) (h2:b2=b1):b0<(2 ^ 63):=Int.lt_trans h0 (Int.lt_of_le_of_lt (Int.ofNat_le.mpr h1) (by decide))
theorem om241 (h0:b0<b1) (h1:b1<=90000) (h2:b2=b0) (h3:b3=b1):b2<=1000000:=(fk3 (C4 b0 b1 b2 b3) X2 (.num 1000000) (.add X0 (.num 1)) X1 1 h0 X1 (.num 90000) 1 h1 X2 X0 1 (le_ h2) rfl)
theorem om242 {b0 b2:Int} {b1:Nat} (h0:(b0+((b1:Nat):Int))<b2):0<((b2 - b0) - ((b1:Nat):Int)):=Int.sub_sub b2 b0 b1▸Int.sub_pos_of_lt h0
theorem om243 (h0:(b0 - b1)<(b2+1)) (h1:b1<b0) (h2:¬(b1=b0)):(b0 - (b1+1))<b2:=Nat.lt_of_lt_of_le (Nat.sub_succ_lt_self b0 b1 h1) (Nat.le_of_lt_succ h0)
theorem om244 (h0:(b0 - b1)<(b2+1)) (h1:b1<=b0) (h2:¬(b1=b0)):(b0 - (b1+1))<b2:=Nat.lt_of_lt_of_le (Nat.sub_succ_lt_self b0 b1 (Nat.lt_of_le_of_ne h1 h2)) (Nat.le_of_lt_succ h0)
theorem om245 {b0:Int} {b1:Nat} (h0:(0<=b0)/\((b0<((b1:Nat):Int))/\(b0<1000))):b0<((b1:Nat):Int):=h0.2.1
theorem om246 {b0 b1:Int} (h0:(0<=b0)/\((b0<=1000)/\(((-(2 ^ 60))<b1)/\(b1<(2 ^ 60))))):b0<=1000000:=Int.le_trans h0.2.1 (by decide)
theorem om247 (h0:(1<=b0)/\((b0<=6)/\(b1=b2))) (h1:b1=b3) (h2:¬(b3=b2)):False:=h2 (h1.symm.trans h0.2.2)
theorem om248 (h0:(b0+b1)<=1000000) (h1:b2=b0) (h2:b3=b1):(b2+b3)<=16777216:=(fk3 (C4 b0 b1 b2 b3) (.add X2 X3) (.num 16777216) (.add X0 X1) (.num 1000000) 1 h0 X2 X0 1 (le_ h1) X3 X1 1 (le_ h2) rfl)
theorem om249 (h0:b0<5):((-1000000)<=(7+((b0:Nat):Int)))/\((7+((b0:Nat):Int))<=1000000):=⟨Int.le_trans (by decide) (Int.le_add_of_nonneg_right (Int.natCast_nonneg _)),Int.le_trans (Int.add_le_add_left (Int.ofNat_le.mpr (Nat.le_of_lt h0)) 7) (by decide)⟩
theorem om250 {b0 b1:Int} (h0:(0<=b0)/\((b0<=1000)/\(((-(2 ^ 60))<b1)/\(b1<(2 ^ 60))))):b1<(2 ^ 64):=Int.lt_trans h0.2.2.2 (by decide)
theorem om251 {b0:Int} {b1:Nat} (h0:(0<=b0)/\((b0<((b1:Nat):Int))/\(b0<1000))):(-((b1:Nat):Int))<=b0:=Int.le_trans (Int.neg_nonpos_of_nonneg (Int.natCast_nonneg _)) h0.1
theorem om252 {b0 b2:Nat} {b1:Int} (h0:(-((b0:Nat):Int))<=b1) (h1:b0<=1000000) (h2:b2=b0):(-(2 ^ 63))<=b1:=Int.le_trans (Int.neg_le_neg (Int.le_trans (Int.ofNat_le.mpr h1) (by decide))) h0
theorem om253 (h0:b0<b1) (h1:b1<=10000) (h2:b2=b1) (h3:b3=b1):(min b0 b1)<=100000:=Nat.le_trans (Nat.min_le_right _ _) (Nat.le_trans h1 (by decide))
theorem om254 {b0 b1:Int} (h0:(0<=b0)/\((b0<=1000)/\(((-(2 ^ 60))<b1)/\(b1<(2 ^ 60))))):(-(2 ^ 64))<b1:=Int.lt_trans (by decide) h0.2.2.1
theorem om255 (h0:b0<b1) (h1:b1<=60) (h2:b2<=((700 - (10 * b1))+5)):b2<=(700 - (10 * b0)):=by omega
theorem om256 (h0:b0<b1) (h1:b1<=60) (h2:b2<=((7000 - (100 * b1))+50)):b2<=(7000 - (100 * b0)):=by omega
theorem om257 {b0:Int} {b1 b2:Nat} (h0:(0<=b0)/\((b0<((b1:Nat):Int))/\(b1<=1000000))) (h1:b2=b1):b0<(2 ^ 63):=Int.lt_trans h0.2.1 (Int.lt_of_le_of_lt (Int.ofNat_le.mpr h0.2.2) (by decide))
theorem om258 (h0:((b0+b1)+b2)<(b3+1)) (h1:(b4+1)=b1):((b0+b4)+b2)<b3:=(fk2 (.branch 2 (C2 b0 b1) (.branch 3 (.leaf b2) (.branch 4 (.leaf b3) (.leaf b4)))) (.add (.add (.add X0 X4) X2) (.num 1)) X3 (.add (.add (.add X0 X1) X2) (.num 1)) (.add X3 (.num 1)) 1 h0 (.add X4 (.num 1)) X1 1 (le_ h1) rfl)
theorem om259 (h0:b0=3) (h1:b1<=(126 * 20)) (h2:b2<=(3 * b0)) (h3:b3<=b1):(b2+b3)<=90000:=(fk4 (C4 b0 b1 b2 b3) (.add X2 X3) (.num 90000) X0 (.num 3) 3 (le_ h0) X1 (.mulL 126 (.num 20)) 1 h1 X2 (.mulL 3 X0) 1 h2 X3 X1 1 h3 rfl)
theorem om260 {b0 b1:Int} (h0:((-1000000)<=b0)/\((b0<=1000000)/\(((-1000000)<=b1)/\(b1<=1000000)))):b0<(2 ^ 62):=Int.lt_of_le_of_lt h0.2.1 (by decide)
theorem om261 {b0 b1:Int} (h0:((-1000000)<=b0)/\((b0<=1000000)/\(((-1000000)<=b1)/\(b1<=1000000)))):b1<(2 ^ 62):=Int.lt_of_le_of_lt h0.2.2.2 (by decide)
theorem om262 (h0:b0=b1) (h1:b1=b2) (h2:b2<=b3) (h3:b3<=9000) (h4:b4=b2):b0<=90000:=(fk4 (.branch 2 (C2 b0 b1) (.branch 3 (.leaf b2) (.branch 4 (.leaf b3) (.leaf b4)))) X0 (.num 90000) X0 X1 1 (le_ h0) X1 X2 1 (le_ h1) X2 X3 1 h2 X3 (.num 9000) 1 h3 rfl)
theorem om263 (h0:(b0+(b1 - b2))<=999999) (h1:b2<b1) (h2:¬(b2=b1)):(b0+(b1 - (b2+1)))<=999999:=Nat.le_trans (Nat.add_le_add_left (Nat.sub_le_sub_left (Nat.le_succ b2) b1) b0) h0
theorem om264 {b0 b1:Int} (h0:((-1000000)<=b0)/\((b0<=1000000)/\(((-1000000)<=b1)/\(b1<=1000000)))):(-(2 ^ 62))<=b0:=Int.le_trans (by decide) h0.1
theorem om265 {b0 b1:Int} (h0:((-1000000)<=b0)/\((b0<=1000000)/\(((-1000000)<=b1)/\(b1<=1000000)))):(-(2 ^ 62))<=b1:=Int.le_trans (by decide) h0.2.2.1
theorem om266 (h0:(b0+b1)<=b2) (h1:b2<=90000) (h2:b3=b0) (h3:b4=b1):(b3+b4)<=1000000:=(fk4 (.branch 2 (C2 b0 b1) (.branch 3 (.leaf b2) (.branch 4 (.leaf b3) (.leaf b4)))) (.add X3 X4) (.num 1000000) (.add X0 X1) X2 1 h0 X2 (.num 90000) 1 h1 X3 X0 1 (le_ h2) X4 X1 1 (le_ h3) rfl)
theorem om267 (h0:(b0 - b1)<(b2+1)) (h1:b1<b0) (h2:b3=b1) (h3:¬(b1=b0)):(b0 - (b1+1))<b2:=Nat.lt_of_lt_of_le (Nat.sub_succ_lt_self b0 b1 h1) (Nat.le_of_lt_succ h0)
theorem om268 (h0:(b0+(b1 - b2))<=999999) (h1:b2<b1) (h2:¬(b2=b1)):((b0+1)+(b1 - (b2+1)))<=999999:=by omega
theorem om269 {b0:Int} {b1 b2:Nat} (h0:(0<=b0)/\((b0<((b1:Nat):Int))/\(b1<=1000000))) (h1:b2=b1):b0<((b2:Nat):Int):=h1▸h0.2.1
theorem om271 {b0:Int} {b1 b2:Nat} (h0:(0<=b0)/\(b1<=1000000)) (h1:b2=b1):(min (min (Int.toNat b0) b2) b2)=(min (Int.toNat b0) b2):=Nat.min_eq_left (Nat.min_le_right _ _)
theorem om272 {b0:Int} {b1:Nat} (h0:(0<=(b0+((b1:Nat):Int)))/\((b0+((b1:Nat):Int))<((b1:Nat):Int))):b0<((b1:Nat):Int):=Int.lt_of_le_of_lt (Int.le_add_of_nonneg_right (Int.natCast_nonneg _)) h0.2
theorem om273 (h0:(b0+1)<=b1) (h1:(b0+b2)<=b3) (h2:b1<=90000) (h3:b3<=90000) (h4:b4=b0):b2<=90000:=(fk2 (.branch 2 (C2 b0 b1) (.branch 3 (.leaf b2) (.branch 4 (.leaf b3) (.leaf b4)))) X2 (.num 90000) (.add X0 X2) X3 1 h1 X3 (.num 90000) 1 h3 rfl)
theorem om274 (h0:((b0+b1)+b2)<(b3+1)) (h1:(b4+b5)=b2) (h2:b1=1):((b0+b5)+b4)<b3:=(fk3 (.branch 3 (C3 b0 b1 b2) (.branch 4 (.leaf b3) (.branch 5 (.leaf b4) (.leaf b5)))) (.add (.add (.add X0 X5) X4) (.num 1)) X3 (.add (.add (.add X0 X1) X2) (.num 1)) (.add X3 (.num 1)) 1 h0 (.add X4 X5) X2 1 (le_ h1) (.num 1) X1 1 (le_ h2.symm) rfl)
theorem om275 (h0:b0<b1) (h1:b1<=60) (h2:b2=1) (h3:b3<=((700 - (10 * b1))+5)):(b3+b2)<=(700 - (10 * b0)):=by omega
theorem om276 {b0:Int} {b1:Nat} (h0:(0<=(b0+((b1:Nat):Int)))/\((b0+((b1:Nat):Int))<((b1:Nat):Int))):(-((b1:Nat):Int))<=b0:=by omega
theorem om277 {b0:Int} {b1:Nat} (h0:(0<=b0)/\((b0<((b1:Nat):Int))/\(b0<1000))):((-9223372036854775808)<=b0)/\(b0<9223372036854775808):=⟨Int.le_trans (by decide) h0.1,Int.lt_trans h0.2.2 (by decide)⟩
theorem om278 (h0:b0<b1) (h1:b1<=60) (h2:b2<=((7000 - (100 * b1))+50)) (h3:b3<=5):(b2+b3)<=(7000 - (100 * b0)):=by omega
theorem om279 (h0:(b0 - b1)<(b2+1)) (h1:b1<b0) (h2:b3=b0) (h3:b4=b1) (h4:¬(b1=b0)):(b0 - (b1+1))<b2:=Nat.lt_of_lt_of_le (Nat.sub_succ_lt_self b0 b1 h1) (Nat.le_of_lt_succ h0)
theorem om280 (h0:(b0+(2 * (b1 - b2)))<=999999) (h1:b2<b1) (h2:¬(b2=b1)):(((b0+1)+1)+(2 * (b1 - (b2+1))))<=999999:=by omega
theorem om281 (h0:b0<5) (h1:b1=(7+b0)) (h2:b2=b1) (h3:b3=b1) (h4:b4<=(b5+b1)) (h5:b5=0):b4<=1000:=(fk4 (.branch 3 (C3 b0 b1 b2) (.branch 4 (.leaf b3) (.branch 5 (.leaf b4) (.leaf b5)))) X4 (.num 1000) (.add X0 (.num 1)) (.num 5) 1 h0 X1 (.add (.num 7) X0) 1 (le_ h1) X4 (.add X5 X1) 1 h4 X5 (.num 0) 1 (le_ h5) rfl)
end
theorem ex0_2 {p0 p1:Prop} {G:Prop} (h:p0/\p1) (k:p0->p1->G):G:=k  h.1 h.2
theorem ex0_3 {p0 p1 p2:Prop} {G:Prop} (h:p0/\p1/\p2) (k:p0->p1->p2->G):G:=k  h.1 h.2.1 h.2.2
theorem ex0_4 {p0 p1 p2 p3:Prop} {G:Prop} (h:p0/\p1/\p2/\p3) (k:p0->p1->p2->p3->G):G:=k  h.1 h.2.1 h.2.2.1 h.2.2.2
theorem ex0_5 {p0 p1 p2 p3 p4:Prop} {G:Prop} (h:p0/\p1/\p2/\p3/\p4) (k:p0->p1->p2->p3->p4->G):G:=k  h.1 h.2.1 h.2.2.1 h.2.2.2.1 h.2.2.2.2
theorem ex0_6 {p0 p1 p2 p3 p4 p5:Prop} {G:Prop} (h:p0/\p1/\p2/\p3/\p4/\p5) (k:p0->p1->p2->p3->p4->p5->G):G:=k  h.1 h.2.1 h.2.2.1 h.2.2.2.1 h.2.2.2.2.1 h.2.2.2.2.2
theorem ex1_1 {a0:Sort u0} {p0:a0->Prop} {G:Prop} (h:∃ x0,p0 x0) (k:∀ x0,p0 x0->G):G:=Exists.elim h fun x0 h=>k x0 h
theorem ex1_2 {a0:Sort u0} {p0 p1:a0->Prop} {G:Prop} (h:∃ x0,p0 x0/\p1 x0) (k:∀ x0,p0 x0->p1 x0->G):G:=Exists.elim h fun x0 h=>k x0 h.1 h.2
theorem ex1_3 {a0:Sort u0} {p0 p1 p2:a0->Prop} {G:Prop} (h:∃ x0,p0 x0/\p1 x0/\p2 x0) (k:∀ x0,p0 x0->p1 x0->p2 x0->G):G:=Exists.elim h fun x0 h=>k x0 h.1 h.2.1 h.2.2
theorem ex1_4 {a0:Sort u0} {p0 p1 p2 p3:a0->Prop} {G:Prop} (h:∃ x0,p0 x0/\p1 x0/\p2 x0/\p3 x0) (k:∀ x0,p0 x0->p1 x0->p2 x0->p3 x0->G):G:=Exists.elim h fun x0 h=>k x0 h.1 h.2.1 h.2.2.1 h.2.2.2
theorem ex1_5 {a0:Sort u0} {p0 p1 p2 p3 p4:a0->Prop} {G:Prop} (h:∃ x0,p0 x0/\p1 x0/\p2 x0/\p3 x0/\p4 x0) (k:∀ x0,p0 x0->p1 x0->p2 x0->p3 x0->p4 x0->G):G:=Exists.elim h fun x0 h=>k x0 h.1 h.2.1 h.2.2.1 h.2.2.2.1 h.2.2.2.2
theorem ex2_1 {a0:Sort u0} {a1:Sort u1} {p0:a0->a1->Prop} {G:Prop} (h:∃ x0 x1,p0 x0 x1) (k:∀ x0 x1,p0 x0 x1->G):G:=Exists.elim h fun x0 h=>Exists.elim h fun x1 h=>k x0 x1 h
theorem ex2_2 {a0:Sort u0} {a1:Sort u1} {p0 p1:a0->a1->Prop} {G:Prop} (h:∃ x0 x1,p0 x0 x1/\p1 x0 x1) (k:∀ x0 x1,p0 x0 x1->p1 x0 x1->G):G:=Exists.elim h fun x0 h=>Exists.elim h fun x1 h=>k x0 x1 h.1 h.2
theorem ex2_3 {a0:Sort u0} {a1:Sort u1} {p0 p1 p2:a0->a1->Prop} {G:Prop} (h:∃ x0 x1,p0 x0 x1/\p1 x0 x1/\p2 x0 x1) (k:∀ x0 x1,p0 x0 x1->p1 x0 x1->p2 x0 x1->G):G:=Exists.elim h fun x0 h=>Exists.elim h fun x1 h=>k x0 x1 h.1 h.2.1 h.2.2
theorem ex2_4 {a0:Sort u0} {a1:Sort u1} {p0 p1 p2 p3:a0->a1->Prop} {G:Prop} (h:∃ x0 x1,p0 x0 x1/\p1 x0 x1/\p2 x0 x1/\p3 x0 x1) (k:∀ x0 x1,p0 x0 x1->p1 x0 x1->p2 x0 x1->p3 x0 x1->G):G:=Exists.elim h fun x0 h=>Exists.elim h fun x1 h=>k x0 x1 h.1 h.2.1 h.2.2.1 h.2.2.2
theorem ex2_5 {a0:Sort u0} {a1:Sort u1} {p0 p1 p2 p3 p4:a0->a1->Prop} {G:Prop} (h:∃ x0 x1,p0 x0 x1/\p1 x0 x1/\p2 x0 x1/\p3 x0 x1/\p4 x0 x1) (k:∀ x0 x1,p0 x0 x1->p1 x0 x1->p2 x0 x1->p3 x0 x1->p4 x0 x1->G):G:=Exists.elim h fun x0 h=>Exists.elim h fun x1 h=>k x0 x1 h.1 h.2.1 h.2.2.1 h.2.2.2.1 h.2.2.2.2
theorem ex2_6 {a0:Sort u0} {a1:Sort u1} {p0 p1 p2 p3 p4 p5:a0->a1->Prop} {G:Prop} (h:∃ x0 x1,p0 x0 x1/\p1 x0 x1/\p2 x0 x1/\p3 x0 x1/\p4 x0 x1/\p5 x0 x1) (k:∀ x0 x1,p0 x0 x1->p1 x0 x1->p2 x0 x1->p3 x0 x1->p4 x0 x1->p5 x0 x1->G):G:=Exists.elim h fun x0 h=>Exists.elim h fun x1 h=>k x0 x1 h.1 h.2.1 h.2.2.1 h.2.2.2.1 h.2.2.2.2.1 h.2.2.2.2.2
theorem ex2_7 {a0:Sort u0} {a1:Sort u1} {p0 p1 p2 p3 p4 p5 p6:a0->a1->Prop} {G:Prop} (h:∃ x0 x1,p0 x0 x1/\p1 x0 x1/\p2 x0 x1/\p3 x0 x1/\p4 x0 x1/\p5 x0 x1/\p6 x0 x1) (k:∀ x0 x1,p0 x0 x1->p1 x0 x1->p2 x0 x1->p3 x0 x1->p4 x0 x1->p5 x0 x1->p6 x0 x1->G):G:=Exists.elim h fun x0 h=>Exists.elim h fun x1 h=>k x0 x1 h.1 h.2.1 h.2.2.1 h.2.2.2.1 h.2.2.2.2.1 h.2.2.2.2.2.1 h.2.2.2.2.2.2
theorem ex2_8 {a0:Sort u0} {a1:Sort u1} {p0 p1 p2 p3 p4 p5 p6 p7:a0->a1->Prop} {G:Prop} (h:∃ x0 x1,p0 x0 x1/\p1 x0 x1/\p2 x0 x1/\p3 x0 x1/\p4 x0 x1/\p5 x0 x1/\p6 x0 x1/\p7 x0 x1) (k:∀ x0 x1,p0 x0 x1->p1 x0 x1->p2 x0 x1->p3 x0 x1->p4 x0 x1->p5 x0 x1->p6 x0 x1->p7 x0 x1->G):G:=Exists.elim h fun x0 h=>Exists.elim h fun x1 h=>k x0 x1 h.1 h.2.1 h.2.2.1 h.2.2.2.1 h.2.2.2.2.1 h.2.2.2.2.2.1 h.2.2.2.2.2.2.1 h.2.2.2.2.2.2.2
theorem ex3_2 {a0:Sort u0} {a1:Sort u1} {a2:Sort u2} {p0 p1:a0->a1->a2->Prop} {G:Prop} (h:∃ x0 x1 x2,p0 x0 x1 x2/\p1 x0 x1 x2) (k:∀ x0 x1 x2,p0 x0 x1 x2->p1 x0 x1 x2->G):G:=Exists.elim h fun x0 h=>Exists.elim h fun x1 h=>Exists.elim h fun x2 h=>k x0 x1 x2 h.1 h.2
theorem ex3_3 {a0:Sort u0} {a1:Sort u1} {a2:Sort u2} {p0 p1 p2:a0->a1->a2->Prop} {G:Prop} (h:∃ x0 x1 x2,p0 x0 x1 x2/\p1 x0 x1 x2/\p2 x0 x1 x2) (k:∀ x0 x1 x2,p0 x0 x1 x2->p1 x0 x1 x2->p2 x0 x1 x2->G):G:=Exists.elim h fun x0 h=>Exists.elim h fun x1 h=>Exists.elim h fun x2 h=>k x0 x1 x2 h.1 h.2.1 h.2.2
theorem ex3_4 {a0:Sort u0} {a1:Sort u1} {a2:Sort u2} {p0 p1 p2 p3:a0->a1->a2->Prop} {G:Prop} (h:∃ x0 x1 x2,p0 x0 x1 x2/\p1 x0 x1 x2/\p2 x0 x1 x2/\p3 x0 x1 x2) (k:∀ x0 x1 x2,p0 x0 x1 x2->p1 x0 x1 x2->p2 x0 x1 x2->p3 x0 x1 x2->G):G:=Exists.elim h fun x0 h=>Exists.elim h fun x1 h=>Exists.elim h fun x2 h=>k x0 x1 x2 h.1 h.2.1 h.2.2.1 h.2.2.2
theorem ex3_5 {a0:Sort u0} {a1:Sort u1} {a2:Sort u2} {p0 p1 p2 p3 p4:a0->a1->a2->Prop} {G:Prop} (h:∃ x0 x1 x2,p0 x0 x1 x2/\p1 x0 x1 x2/\p2 x0 x1 x2/\p3 x0 x1 x2/\p4 x0 x1 x2) (k:∀ x0 x1 x2,p0 x0 x1 x2->p1 x0 x1 x2->p2 x0 x1 x2->p3 x0 x1 x2->p4 x0 x1 x2->G):G:=Exists.elim h fun x0 h=>Exists.elim h fun x1 h=>Exists.elim h fun x2 h=>k x0 x1 x2 h.1 h.2.1 h.2.2.1 h.2.2.2.1 h.2.2.2.2
theorem ex4_3 {a0:Sort u0} {a1:Sort u1} {a2:Sort u2} {a3:Sort u3} {p0 p1 p2:a0->a1->a2->a3->Prop} {G:Prop} (h:∃ x0 x1 x2 x3,p0 x0 x1 x2 x3/\p1 x0 x1 x2 x3/\p2 x0 x1 x2 x3) (k:∀ x0 x1 x2 x3,p0 x0 x1 x2 x3->p1 x0 x1 x2 x3->p2 x0 x1 x2 x3->G):G:=Exists.elim h fun x0 h=>Exists.elim h fun x1 h=>Exists.elim h fun x2 h=>Exists.elim h fun x3 h=>k x0 x1 x2 x3 h.1 h.2.1 h.2.2
theorem ex4_5 {a0:Sort u0} {a1:Sort u1} {a2:Sort u2} {a3:Sort u3} {p0 p1 p2 p3 p4:a0->a1->a2->a3->Prop} {G:Prop} (h:∃ x0 x1 x2 x3,p0 x0 x1 x2 x3/\p1 x0 x1 x2 x3/\p2 x0 x1 x2 x3/\p3 x0 x1 x2 x3/\p4 x0 x1 x2 x3) (k:∀ x0 x1 x2 x3,p0 x0 x1 x2 x3->p1 x0 x1 x2 x3->p2 x0 x1 x2 x3->p3 x0 x1 x2 x3->p4 x0 x1 x2 x3->G):G:=Exists.elim h fun x0 h=>Exists.elim h fun x1 h=>Exists.elim h fun x2 h=>Exists.elim h fun x3 h=>k x0 x1 x2 x3 h.1 h.2.1 h.2.2.1 h.2.2.2.1 h.2.2.2.2
theorem ex4_6 {a0:Sort u0} {a1:Sort u1} {a2:Sort u2} {a3:Sort u3} {p0 p1 p2 p3 p4 p5:a0->a1->a2->a3->Prop} {G:Prop} (h:∃ x0 x1 x2 x3,p0 x0 x1 x2 x3/\p1 x0 x1 x2 x3/\p2 x0 x1 x2 x3/\p3 x0 x1 x2 x3/\p4 x0 x1 x2 x3/\p5 x0 x1 x2 x3) (k:∀ x0 x1 x2 x3,p0 x0 x1 x2 x3->p1 x0 x1 x2 x3->p2 x0 x1 x2 x3->p3 x0 x1 x2 x3->p4 x0 x1 x2 x3->p5 x0 x1 x2 x3->G):G:=Exists.elim h fun x0 h=>Exists.elim h fun x1 h=>Exists.elim h fun x2 h=>Exists.elim h fun x3 h=>k x0 x1 x2 x3 h.1 h.2.1 h.2.2.1 h.2.2.2.1 h.2.2.2.2.1 h.2.2.2.2.2
theorem ex4_7 {a0:Sort u0} {a1:Sort u1} {a2:Sort u2} {a3:Sort u3} {p0 p1 p2 p3 p4 p5 p6:a0->a1->a2->a3->Prop} {G:Prop} (h:∃ x0 x1 x2 x3,p0 x0 x1 x2 x3/\p1 x0 x1 x2 x3/\p2 x0 x1 x2 x3/\p3 x0 x1 x2 x3/\p4 x0 x1 x2 x3/\p5 x0 x1 x2 x3/\p6 x0 x1 x2 x3) (k:∀ x0 x1 x2 x3,p0 x0 x1 x2 x3->p1 x0 x1 x2 x3->p2 x0 x1 x2 x3->p3 x0 x1 x2 x3->p4 x0 x1 x2 x3->p5 x0 x1 x2 x3->p6 x0 x1 x2 x3->G):G:=Exists.elim h fun x0 h=>Exists.elim h fun x1 h=>Exists.elim h fun x2 h=>Exists.elim h fun x3 h=>k x0 x1 x2 x3 h.1 h.2.1 h.2.2.1 h.2.2.2.1 h.2.2.2.2.1 h.2.2.2.2.2.1 h.2.2.2.2.2.2
theorem ex4_8 {a0:Sort u0} {a1:Sort u1} {a2:Sort u2} {a3:Sort u3} {p0 p1 p2 p3 p4 p5 p6 p7:a0->a1->a2->a3->Prop} {G:Prop} (h:∃ x0 x1 x2 x3,p0 x0 x1 x2 x3/\p1 x0 x1 x2 x3/\p2 x0 x1 x2 x3/\p3 x0 x1 x2 x3/\p4 x0 x1 x2 x3/\p5 x0 x1 x2 x3/\p6 x0 x1 x2 x3/\p7 x0 x1 x2 x3) (k:∀ x0 x1 x2 x3,p0 x0 x1 x2 x3->p1 x0 x1 x2 x3->p2 x0 x1 x2 x3->p3 x0 x1 x2 x3->p4 x0 x1 x2 x3->p5 x0 x1 x2 x3->p6 x0 x1 x2 x3->p7 x0 x1 x2 x3->G):G:=Exists.elim h fun x0 h=>Exists.elim h fun x1 h=>Exists.elim h fun x2 h=>Exists.elim h fun x3 h=>k x0 x1 x2 x3 h.1 h.2.1 h.2.2.1 h.2.2.2.1 h.2.2.2.2.1 h.2.2.2.2.2.1 h.2.2.2.2.2.2.1 h.2.2.2.2.2.2.2
theorem ex5_5 {a0:Sort u0} {a1:Sort u1} {a2:Sort u2} {a3:Sort u3} {a4:Sort u4} {p0 p1 p2 p3 p4:a0->a1->a2->a3->a4->Prop} {G:Prop} (h:∃ x0 x1 x2 x3 x4,p0 x0 x1 x2 x3 x4/\p1 x0 x1 x2 x3 x4/\p2 x0 x1 x2 x3 x4/\p3 x0 x1 x2 x3 x4/\p4 x0 x1 x2 x3 x4) (k:∀ x0 x1 x2 x3 x4,p0 x0 x1 x2 x3 x4->p1 x0 x1 x2 x3 x4->p2 x0 x1 x2 x3 x4->p3 x0 x1 x2 x3 x4->p4 x0 x1 x2 x3 x4->G):G:=Exists.elim h fun x0 h=>Exists.elim h fun x1 h=>Exists.elim h fun x2 h=>Exists.elim h fun x3 h=>Exists.elim h fun x4 h=>k x0 x1 x2 x3 x4 h.1 h.2.1 h.2.2.1 h.2.2.2.1 h.2.2.2.2
theorem ex6_5 {a0:Sort u0} {a1:Sort u1} {a2:Sort u2} {a3:Sort u3} {a4:Sort u4} {a5:Sort u5} {p0 p1 p2 p3 p4:a0->a1->a2->a3->a4->a5->Prop} {G:Prop} (h:∃ x0 x1 x2 x3 x4 x5,p0 x0 x1 x2 x3 x4 x5/\p1 x0 x1 x2 x3 x4 x5/\p2 x0 x1 x2 x3 x4 x5/\p3 x0 x1 x2 x3 x4 x5/\p4 x0 x1 x2 x3 x4 x5) (k:∀ x0 x1 x2 x3 x4 x5,p0 x0 x1 x2 x3 x4 x5->p1 x0 x1 x2 x3 x4 x5->p2 x0 x1 x2 x3 x4 x5->p3 x0 x1 x2 x3 x4 x5->p4 x0 x1 x2 x3 x4 x5->G):G:=Exists.elim h fun x0 h=>Exists.elim h fun x1 h=>Exists.elim h fun x2 h=>Exists.elim h fun x3 h=>Exists.elim h fun x4 h=>Exists.elim h fun x5 h=>k x0 x1 x2 x3 x4 x5 h.1 h.2.1 h.2.2.1 h.2.2.2.1 h.2.2.2.2
theorem lt_case {P:Nat->Prop} {n k:Nat} (h:n<k+1) (a:n<k->P n) (b:P k):P n:=(Nat.lt_or_eq_of_le (Nat.le_of_lt_succ h)).elim a fun e=>e▸b
theorem thr3 {P:Nat->Prop} {n:Nat} (h:n<3) (a:P 0) (b:P 1) (c:P 2):P n:=lt_case h (fun h=>lt_case h (fun h=>lt_case h (fun h=>(Nat.not_lt_zero _ h).elim) a) b) c
theorem nine {P:Nat->Prop} {n:Nat} (h:n<9) (p0:P 0) (p1:P 1) (p2:P 2) (p3:P 3) (p4:P 4) (p5:P 5) (p6:P 6) (p7:P 7) (p8:P 8):P n:=
 lt_case h (fun h=>lt_case h (fun h=>lt_case h (fun h=>lt_case h (fun h=>lt_case h (fun h=>lt_case h (fun h=>thr3 h p0 p1 p2) p3) p4) p5) p6) p7) p8
theorem elev {P:Nat->Prop} {n:Nat} (h:n<11) (p0:P 0) (p1:P 1) (p2:P 2) (p3:P 3) (p4:P 4) (p5:P 5) (p6:P 6) (p7:P 7) (p8:P 8) (p9:P 9) (pA:P 10):P n:=
 lt_case h (fun h=>lt_case h (fun h=>nine h p0 p1 p2 p3 p4 p5 p6 p7 p8) p9) pA
theorem ns {α:Type u0} {a:α} {P:Prop} (h:none=some a):P:=nomatch h
theorem sn {α:Type u0} {a:α} {P:Prop} (h:some a=none):P:=nomatch h
theorem ft {P:Prop} (h:false=true):P:=nomatch h
theorem tf {P:Prop} (h:true=false):P:=nomatch h
theorem so {α:Type u0} {a b:α} (h:some a=some b):a=b:=Option.some.inj h
theorem sp {α:Type u0} {β:Type u1} {a c:α} {b d:β} (h:some (a,b)=some (c,d)):a=c/\b=d:=Prod.mk.inj (so h)
open PySem PySem.W PyProof.Rows PySem.Calls
set_option maxHeartbeats 8000000
section
local macro_rules | `(tactic| o_head (kHook $_ $as $_)) => `(tactic| (contradiction; exact $as))
noncomputable def ka:List Nat:=by
 refine (fun (a:List Nat) (_:False->Challenge.rw_sa0597_01.row.Holds)=>a) ?a ?h
 rotate_left
 intro hF
 k_head
end
noncomputable def qv:Program:={ Challenge.rw_sa0597_01.prog with main:={ Challenge.rw_sa0597_01.prog.main with body:=[1,2,3,4,5,6,7,8,9,10,11,12,13,15,16,17,18,19,20,21,22,23,24,25,26,27,28,29,31,32,34,35,36,37,38,39,40,41,42,43,44,45,46,48,49,50,51,52,53,54].filterMap fun i=>Challenge.rw_sa0597_01.prog.main.body[i]? } }
set_option tactic.hygienic false
section
def Led (B h:Heap) (l:List (Addr×Obj)):Prop:=∀ q∈l,h.get? q.1=some q.2/\B.get? q.1=none
def Kept (h h':Heap) (l:List Addr):Prop:=∀ b o,h.get? b=some o->b∉l->h'.get? b=some o
variable {h:Heap} {l:List Addr}
variable {h':Heap}
noncomputable abbrev AF (n:Nat) (fs:List Env):Around:={ handled:=none,depth:=700 - 10 * n,frames:=some fs,guards:=none,units:=7000 - 100 * n }
structure Room (A:Around) (n:Nat):Prop where
 h:A.handled=none
 d:A.depth<=700 - 10 * n
 u:A.units<=7000 - 100 * n
variable {A:Around} {n:Nat} {s:Shared}
theorem codeAny_room {M:Model} {fs:List Env} {c:Code} {R:Result->Shared->Prop} (r:Room A n) (hA:A.frames=some fs) (h:codeAny M (AF n fs) c R s):codeAny M A c R s:=
 fun Γ p hc hΓ=>h Γ p hc ⟨hΓ.1.trans r.h,Nat.le_trans hΓ.2.1 r.d,fun l e=>hΓ.2.2.1 l (hA.trans e),fun l e=>(by exact ns e),Nat.le_trans hΓ.2.2.2.2 r.u⟩
section
variable {prog:Program} {w:World} {K:Frag} {p:Program} {loose:List Str} {mean:ExcName->Option Value} {mg mb:Str->Option Value}
def Spec (prog:Program) (w:World) (K:Frag) (p:Program) (loose:List Str) (mean:ExcName->Option Value) (mg mb:Str->Option Value)
  (n:Nat) (f:Addr) (args:List Value) (l:List (Addr×Obj)) (M:List Addr) (Post:Heap->Value->Heap->List (Addr×Obj)->Prop):Prop:=
 ∀ (fs:List Env) (base B:Heap) (s:Shared) (R:Result->Shared->Prop),Below (AF n fs) base fs B->K.In B->Top p loose mean mg mb B->(∀ b o,B.get? b=some o->s.heap.get? b=some o)->Led B s.heap l ->
  (∀ v l' h' tk,Kept s.heap h' M->Led B h' l'->(∀ q∈l',q.1∈l.map (·.1)\/s.heap.get? q.1=none)->Post s.heap v h' l'->R (.ok (.ret v)) { s with heap:=h',toks:=tk }) ->
  codeAny (model prog w) (AF n fs) (.call (.ref f) ⟨args,[]⟩) R s
def Fin (g:Heap) (L:Addr) (s:Shared) (P:Value->Heap->List (Addr×Obj)->Prop) (v:Value) (s':Shared):Prop:=
 ∃ h' tk m' l',s' = { s with heap:=h',toks:=tk }/\Fr g L h' m'/\News g L h' l'/\P v h' l'
variable {g:Heap} {L:Addr}
variable {f:Addr} {args:List Value} {l:List (Addr×Obj)} {M:List Addr} {Post:Heap->Value->Heap->List (Addr×Obj)->Prop}
end
end
set_option tactic.hygienic true
section
abbrev KE:=Sum Str Int
section
variable {prog:Program} {w:World} {A:Around} {E:Value->Shared->Prop} {s:Shared}
def isKE:KE->Value->Bool
 |.inl x,v=>Value.isStrOf x v
 |.inr i,v=>Value.isInt i v
def hashKE (w:World):KE->Int
 |.inl x=>hashStr w x
 |.inr i=>hashInt i
variable {a:Str} {t u:Tok} {Q:Bool->Shared->Prop}
theorem eqBool_str_int {b:Int} (h:Q false s):wpAny (model prog w) A (eqBool (.str a t) (.int b u)) Q E s:=by
 unfold eqBool
 refine wpAny_holding ?_
 by_cases hab:(Value.str a t == Value.int b u)=true
 ·have:=eq_of_beq hab; cases this
 ·rw [if_neg hab]
  exact wpAny_bind (show wpAny (model prog w) A (richCompare .Eq (.str a t) (.int b u)) _ E s from EqMixed.eq_str_int (wpAny_truthy_bool h))
variable {b:Str}
theorem eqBool_int_str {a:Int} (h:Q false s):wpAny (model prog w) A (eqBool (.int a t) (.str b u)) Q E s:=by
 unfold eqBool
 refine wpAny_holding ?_
 by_cases hab:(Value.int a t == Value.str b u)=true
 ·have:=eq_of_beq hab; cases this
 ·rw [if_neg hab]
  exact wpAny_bind (show wpAny (model prog w) A (richCompare .Eq (.int a t) (.str b u)) _ E s from EqMixed.eq_int_str (wpAny_truthy_bool h))
def mixKind (prog:Program) (w:World):KeyKind prog w KE where
 is:=isKE
 hash:=hashKE w
 inj:=fun v a b ha hb=>by
  cases a with
  |inl x=>
   obtain ⟨t,rfl⟩:=Value.isStrOf_shape ha
   cases b with
   |inl y=>exact congrArg _ (Value.isStrOf_inj (.str x t) x y ha hb)
   |inr y=>simp [isKE,Value.isInt] at hb
  |inr x=>
   obtain ⟨t,rfl⟩:=Value.isInt_shape ha
   cases b with
   |inl y=>simp [isKE,Value.isStrOf] at hb
   |inr y=>exact congrArg _ (Value.isInt_inj (.int x t) x y ha hb)
 byValue:=fun k v h=>by
  cases k with
  |inl x=>obtain ⟨t,rfl⟩:=Value.isStrOf_shape h; rfl
  |inr x=>obtain ⟨t,rfl⟩:=Value.isInt_shape h; rfl
 pyHash:=fun {A E s k v Q} hv h=>by
  cases k with
  |inl x=>obtain ⟨t,rfl⟩:=Value.isStrOf_shape hv; exact wpAny_pyHash_str h
  |inr x=>obtain ⟨t,rfl⟩:=Value.isInt_shape hv; exact wpAny_pyHash_int h
 eqBool:=fun {A E s a b u v Q} hu hv h=>by
  cases a with
  |inl x=>
   obtain ⟨t,rfl⟩:=Value.isStrOf_shape hu
   cases b with
   |inl y=>
    obtain ⟨t',rfl⟩:=Value.isStrOf_shape hv
    refine wpAny_eqBool_str ?_
    have e:decide ((Sum.inl x:KE)=Sum.inl y)=decide (x=y):=by by_cases q:x=y <;> simp [q]
    rw [e] at h; exact h
   |inr y=>
    obtain ⟨t',rfl⟩:=Value.isInt_shape hv
    refine eqBool_str_int ?_
    have e:decide ((Sum.inl x:KE)=Sum.inr y)=false:=by simp
    rw [e] at h; exact h
  |inr x=>
   obtain ⟨t,rfl⟩:=Value.isInt_shape hu
   cases b with
   |inl y=>
    obtain ⟨t',rfl⟩:=Value.isStrOf_shape hv
    refine eqBool_int_str ?_
    have e:decide ((Sum.inr x:KE)=Sum.inl y)=false:=by simp
    rw [e] at h; exact h
   |inr y=>
    obtain ⟨t',rfl⟩:=Value.isInt_shape hv
    refine wpAny_eqBool_int ?_
    have e:decide ((Sum.inr x:KE)=Sum.inr y)=(x == y):=by by_cases q:x=y <;> simp [q]
    rw [e] at h; exact h
 «strs»:=fun k x t v h=>by
  cases k with
  |inl y=>
   obtain ⟨u,hu⟩:=Value.isStrOf_shape (show Value.isStrOf y (.str x t)=true from h)
   injection hu with hx
   subst hx
   cases v <;> rfl
  |inr y=>simp [isKE,Value.isInt] at h
abbrev tk (prog:Program) (w:World):HeapKind prog w (List KE):=tupleKind (mixKind prog w)
abbrev tabEs (prog:Program) (w:World) (xs:List (List KE×Addr×Value)):List DictEntry:=xs.map (entryOfKey (tk prog w))
variable {h:Heap} {d:Addr} {xs:List (List KE×Addr×Value)} {n:Nat}
theorem dictOfH_of (ho:h.get? d=some (dictOf (tabEs prog w xs) n)) (hk:∀ x∈xs,(tk prog w).is h x.1 x.2.1) (hn:(xs.map (·.1)).Nodup):
  h.DictOfH (tk prog w) d xs:=⟨_,_,n,ho,⟨rfl,rfl,rfl⟩,rfl,rfl,hk,hn⟩
variable {a:Addr} {k:List KE} {Q:Value->Shared->Prop}
theorem notIn_tab (hu:A.units+1<cLine) (hkey:(tk prog w).is s.heap k a) (hd:(d == sysModules)=false)
  (ho:s.heap.get? d=some (dictOf (tabEs prog w xs) n)) (hk:∀ x∈xs,(tk prog w).is s.heap x.1 x.2.1) (hn:(xs.map (·.1)).Nodup)
  (h:∀ t,Q (.bool (!(atKey xs k).isSome)) { s with toks:=t }):wpAny (model prog w) A (compareOp .NotIn (.ref a) (.ref d)) Q E s:=by
 have hm:=dictOfH_of (prog:=prog) (w:=w) ho hk hn
 refine NotIn_slot hm.typeIs slot_dict_contains (wpAny_call_entry slot_dict_contains hm.typeIs entry_dict_contains ?_ (args_dict_contains _ _))
 show wpAny _ _ (dictGet d (.ref a) >>= _) _ _ s
 refine wpAny_bind (wpAny_dictGet_heap (tupleKind_room_in1 hu) hkey hm ?_)
 cases hf:atKey xs k with
 |some p=>
  rw [hf] at h
  show wpAny _ _ (ret (.bool true)) _ _ _
  exact wpAny_pure ⟨_,rfl,wpAny_truthy_bool (h _)⟩
 |none=>
  rw [hf] at h
  show wpAny _ _ (Builtin.Dict.pendingKey? d (.ref a) >>= _) _ _ _
  exact wpAny_bind (wpAny_pendingKey_other hd (wpAny_pure ⟨_,rfl,wpAny_truthy_bool (h _)⟩))
variable {value slice:PySem.Expr}
theorem get_tab {p:Addr×Value} (hu:A.units+1<cLine) (hkey:(tk prog w).is s.heap k a)
  (ho:s.heap.get? d=some (dictOf (tabEs prog w xs) n)) (hk:∀ x∈xs,(tk prog w).is s.heap x.1 x.2.1) (hn:(xs.map (·.1)).Nodup) (hp:atKey xs k=some p)
  (h:∀ t,Q p.2 { s with toks:=t })
  (hs:subscripted slice false (.ref d) (.ref a)=operate [.ref d,.ref a] (getItem (.ref d) (.ref a)):=by with_unfolding_all rfl):
  wpAny (model prog w) A (subscriptTail value slice (.ref d) (.ref a)) Q E s:=by
 have hm:=dictOfH_of (prog:=prog) (w:=w) ho hk hn
 exact tail_any hm.typeIs slot_dict_getitem.lookup (wpAny_getItem_heap (tupleKind_room_in1 hu) hkey hm hp (h _)) hs
variable {h₀:Heap} {L:Addr} {m:Str->Option Value} {news:List (Addr×Obj)} {v:Value} {Q:Unit->Shared->Prop}
variable {l:Addr} {vs:List Value} {k:Int}
theorem setItem_K {news':List (Addr×Obj)}
  (F:Fr h₀ L s.heap m) (N:News h₀ L s.heap news) (U:Upd l (listOf vs.toArray n) (listOf (vs.set k.toNat v).toArray n) news news') (h0:0<=k) (hfit:k<2 ^ 63) (hn:k<vs.length)
  (h:∀ h',Fr h₀ L h' m->News h₀ L h' news'->Q () { s with heap:=h' }):wpAny (model prog w) A (setItem (.ref l) (.int k t) v) Q E s:=by
 obtain ⟨pre,post,rfl,rfl,a1,a2⟩:=U.split
 have Z:=N (l,listOf vs.toArray n) (by simp)
 have hl:s.heap.IsList l vs.toArray:=⟨_,Z.1,rfl,n,rfl⟩
 unfold setItem
 refine wpAny_holding ?_
 refine wpAny_bind (wpAny_sequenceKey hl.typeIs (by decide) ?_)
 refine wpAny_bind (wpAny_callSpecial?_slot (name:=Str.ofString "__setitem__") hl.typeIs slot_list_setitem
  (wpAny_call_entry slot_list_setitem hl.typeIs entry_list_setitem ?_ (args_list_setitem _ _ _)))
 show wpAny _ _ (Builtin.List.listSubscript? (.int k t) >>= _) _ _ s
 refine wpAny_bind (wpAny_listSubscript_int (fitsIndex_of h0 hfit) ?_)
 clear hfit
 obtain ⟨j,rfl⟩:=Int.eq_ofNat_of_zero_le h0
 have hj:j<vs.toArray.size:=by simp only [List.size_toArray]; omega
 have hx':vs.toArray[j]? = some vs.toArray[j]:=Array.getElem?_eq_getElem hj
 show wpAny _ _ ((seqItemAt l j >>= fun r=>pure (r.map (j,·))) >>= _) _ _ s
 refine wpAny_bind (wpAny_bind (wpAny_seqItemAt Z.1 rfl (wpAny_pure ?_)))
 rw [hx']
 show wpAny _ _ (setSeqItemAt l j v >>= _) _ _ s
 have e:Obj.mapSeq (·.setIfInBounds j v) (listOf vs.toArray n)=listOf (vs.set j v).toArray n:=by
  show (⟨_,_,.seq _ (if _ then n else n+1),_⟩:Obj)=_
  simp
 obtain ⟨U1,U2⟩:=news_upd (f:=Obj.mapSeq (·.setIfInBounds j v)) F N a1 a2 e rfl
 refine wpAny_bind (wpAny_setSeqItemAt Z.1 rfl ?_)
 first
  |exact wpAny_bind (wpAny_pure (wpAny_pure ⟨.none,rfl,wpAny_pure (h _ U1 U2)⟩))
  |exact wpAny_pure ⟨.none,rfl,wpAny_pure (h _ U1 U2)⟩
variable {Q:Value->Shared->Prop}
theorem index_two {a x:Str} {t1 t2 t3:Tok} (ho:s.heap.get? l=some (listOf #[.str a t1,.str b t2] n)) (hx:x=a\/x=b)
  (h:Q (.int (if x=a then 0 else 1) s.toks) { s with toks:=s.toks+1 }):wpAny (model prog w) A (call (.builtin "list.index") [.ref l,.str x t3]) Q E s:=by
 have eqs:∀ y∈[Value.str a t1,Value.str b t2],MeetsSeq.EqGives y (.str x t3) (Value.isStrOf x y):=fun y hy=>by
  rcases List.mem_cons.mp hy with rfl|hy
  ·exact eqGives_str a x t1 t3
  ·obtain rfl:=List.mem_singleton.mp hy
   exact eqGives_str b x t2 t3
 by_cases e:x=a
 ·rw [if_pos e] at h
  refine call_meets PySem.F.slot_list_index ⟨_,ho,rfl⟩ PySem.F.entry_list_index (PySem.F.args_list_index_2 _ _)
   (SeqAt.list_indexAt l #[.str a t1,.str b t2] n none #[] (.str x t3) (Value.isStrOf x) 0 (by simp) (by omega) (by simp [Value.isStrOf,e]) (by omega)) ⟨ho,fun y hy=>(eqs y (by simpa using hy)).at _ _,h⟩
 ·have e':x=b:=hx.resolve_left e
  rw [if_neg e] at h
  refine call_meets PySem.F.slot_list_index ⟨_,ho,rfl⟩ PySem.F.entry_list_index (PySem.F.args_list_index_2 _ _)
   (SeqAt.list_indexAt l #[.str a t1,.str b t2] n none #[] (.str x t3) (Value.isStrOf x) 1 (by simp) (by omega) (by simp [Value.isStrOf,e']) ?_) ⟨ho,fun y hy=>(eqs y (by simpa using hy)).at _ _,h⟩
  intro j hj hlt
  obtain rfl:j=0:=by omega
  simp [Value.isStrOf]; exact fun q=>e q.symm
end
variable {name:Str} {es:List DictEntry}
theorem putL_len {name:Str} {hs:Int} {key v:Value}:∀ {es:List DictEntry},(putL name hs key v es).length<=es.length+1
 |[]=>Nat.le_refl _
 |e::r=>by
  unfold putL
  split
  ·simp
  ·simp only [List.length_cons]; have:=@putL_len name hs key v r; omega
variable {hs:Int} {v u:Value}
theorem putL_len_of {key:Value} {es:List DictEntry} (h:getL name es=some (some u)):(putL name hs key v es).length=es.length:=by
 induction es with
 |nil=>simp [getL] at h
 |cons e r ih=>
  unfold putL
  split
  ·rfl
  ·rename_i q
   have q':e.key.isStr name=false:=by simpa using q
   have:getL name r=some (some u):=by
    unfold getL at h ⊢
    rw [List.find?_cons,q'] at h
    dsimp only at h
    cases hf:r.find? (·.key.isStr name) with
    |some x=>rw [hf] at h; exact h
    |none=>rw [hf] at h; dsimp only at h; split at h <;> cases h
   simp only [List.length_cons,ih this]
theorem getL_of_find {e:DictEntry} (h:es.find? (·.key.isStr name)=some e):getL name es=some (some e.val):=by
 unfold getL; rw [h]
theorem isStr_ne {a b:Str} (h:v.isStr a=true) (hab:a≠b):v.isStr b=false:=by
 cases v with
 |str s t=>simp only [Value.isStr,beq_iff_eq] at h ⊢; subst h; simpa using hab
 |_=>exact ft h
variable {name':Str} {t:Tok}
theorem find_putL_ne (hne:name≠name'):∀ {es:List DictEntry},(putL name hs (.str name t) v es).find? (·.key.isStr name')=es.find? (·.key.isStr name')
 |[]=>by
  have:(Value.str name t).isStr name'=false:=isStr_ne (a:=name) (by simp [Value.isStr]) hne
  simp [putL,this]
 |e::r=>by
  unfold putL
  split
  ·rename_i q
   have q':=isStr_ne q hne
   simp [List.find?_cons,q']
  ·rw [List.find?_cons,List.find?_cons,find_putL_ne hne]
theorem find_putL_eq {name:Str} {hs:Int} {t:Tok} {v:Value}:∀ {es:List DictEntry},∃ e,(putL name hs (.str name t) v es).find? (·.key.isStr name)=some e/\e.val=v
 |[]=>⟨⟨hs,.str name t,v⟩,by simp [putL,Value.isStr],rfl⟩
 |e::r=>by
  unfold putL
  split
  ·rename_i q
   exact ⟨⟨e.hash,e.key,v⟩,by simp [List.find?_cons,q],rfl⟩
  ·rename_i q
   obtain ⟨x,hx,hv⟩:=@find_putL_eq name hs t v r
   exact ⟨x,by rw [List.find?_cons]; simp only [Bool.not_eq_true] at q; rw [q]; exact hx,hv⟩
theorem getL_putL_eq {name:Str} {hs:Int} {t:Tok} {v:Value} {es:List DictEntry}:getL name (putL name hs (.str name t) v es)=some (some v):=by
 obtain ⟨e,he,rfl⟩:=@find_putL_eq name hs t v es
 exact getL_of_find he
end
section
variable {prog:Program} {w:World} {A:Around} {E:Value->Shared->Prop} {s:Shared} {env:Env}
theorem while_J {test:PySem.Expr} {body:List Stmt} {pos:Pos} {Q:Flow->Shared->Prop} (J:Nat->Shared->Prop)
  (turn:∀ k s₁,J k s₁->wpAny (model prog w) A (isTrue test env (eval test env)) (fun b s₂=>
   if b then wpAny (model prog w) A (execs body env) (fun f s₃=>match f with
     |.next|.cont=>∃ m,m<k/\J m s₃
     |.brk=>Q .next s₃
     |.ret v=>Q (.ret v) s₃) (fun _ _=>False) s₂
   else Q .next s₂) (fun _ _=>False) s₁)
  (k:Nat) (h:J k s):wpAny (model prog w) A (exec (.While test body [] pos) env) Q E s:=by
 refine wpAny_While (codeAny_whileLoop J (fun n s₁ hJ=>?_) k h)
 refine wpAny_mono (turn n s₁ hJ) (fun b s₂ h₂=>?_) fun _ _ e=>e.elim
 cases b with
 |true=>
  simp only [if_true] at h₂ ⊢
  refine wpAny_mono h₂ (fun f s₃ h₃=>?_) fun _ _ e=>e.elim
  cases f <;> exact h₃
 |false=>
  simp only [Bool.false_eq_true,if_false] at h₂ ⊢
  exact wpAny_execs_nil h₂
abbrev iterObj (o:Obj) (l:Addr) (i:Nat):Prop:=o.cls = .type "list_iterator"/\o.data = .fields #[.ref l,.int i 0]
end
section
variable {prog:Program} {w:World} {A A₀:Around} {E:Value->Shared->Prop} {s:Shared} {env:Env}
end
set_option tactic.hygienic false
section
variable {prog:Program} {w:World} {A:Around} {E:Value->Shared->Prop} {s:Shared} {env:Env}
variable {h₀:Heap} {news:List (Addr×Obj)} {Q:Flow->Shared->Prop}
end
section
variable {prog:Program} {w:World} {K:Frag} {p:Program} {loose:List Str} {mean:ExcName->Option Value} {mg mb:Str->Option Value}
variable {scope:Scope} {binds:List (Str×Value)}
theorem kindsX' (h:(binds.all fun y=>scope.names.lookup y.1 == some .local||scope.names.lookup y.1 == some .cell)=true):
  ∀ n,∀ x∈binds,scope.names.lookup x.1=some .local\/(scope.names.lookup x.1=some .cell/\((cellsFrom n scope.names []).lookup x.1).isSome=true):=fun n x hx=>by
 have:=List.all_eq_true.mp h x hx
 rw [Bool.or_eq_true] at this
 rcases this with q|q
 ·exact .inl (by simpa using q)
 ·have q':scope.names.lookup x.1=some .cell:=by simpa using q
  exact .inr ⟨q',cellsFrom_some _ _ _ (.inl q')⟩
variable {n:Nat} {f:Addr} {args:List Value} {l:List (Addr×Obj)} {Post:Heap->Value->Heap->List (Addr×Obj)->Prop}
theorem spec_ofC {M:List Addr}
  {name qual:Str} {params:Arguments} {body:List Stmt} {dV kV doc pm cdv ct oc:Value} {an od:Option Addr} {osl:Array (Option Value)}
  (ho:K.lookup f=some ⟨oc,od,.func (fnOf name qual params body scope dV kV doc pm an cdv ct),osl⟩) (hcd:codeIn K cdv qual=true)
  (hbind:∀ s:Shared,K.In s.heap->BindsTo s (fnOf name qual params body scope dV kV doc pm an cdv ct) ⟨args,[]⟩ binds)
  (hkind:(binds.all fun y=>scope.names.lookup y.1 == some .local||scope.names.lookup y.1 == some .cell)=true)
  (hnd:((cellsFrom 0 scope.names []).map (·.1)).Nodup)
  (hco:scope.isCoroutine=false) (hgen:scope.isGenerator=false) (hk:scope.kind = .function) (hroom:700 - 10 * n<recursionLimit)
  (h:∀ fs base g L (s:Shared) cells,Below (AF n fs) base fs g->Fr g L s.heap (bindL (envOfC qual scope L f cdv).kindOf binds fun ZZ=>none)->News g L s.heap (cells++l)->K.In g->Top p loose mean mg mb g->(∀ q∈l,q.1<L) ->
   CellsAre (bindC (envOfC qual scope L f cdv).kindOf binds fun ZZ=>none) (cellsFrom (L+1) scope.names []) cells ->
   wpAny (model prog w) ((AF n fs).deeper (envOfC qual scope L f cdv)) (execs body (envOfC qual scope L f cdv))
    (fun fl s'=>Fin g L s (fun v h' l'=>(∀ q∈l,q.1∈M\/q∈l')/\∀ h₀,(∀ q∈l,h₀.get? q.1=some q.2)->Post h₀ v h' l') (match fl with|.ret v=>v|_=>.none) s') (fun ZZ ZZ=>False) s):
  Spec prog w K p loose mean mg mb n f args l M Post:=by
 intro fs base B s R Bl X T st hl ret
 have nB:∀ b o,B.get? b=some o->b∉l.map (·.1):=fun b o e q=>by
  obtain ⟨x,hx,rfl⟩:=List.mem_map.mp q
  rw [(hl x hx).2] at e; exact ns e
 have stg:∀ b o,B.get? b=some o->(hideAll s.heap (l.map (·.1))).get? b=some o:=fun b o e=>hideAll_get _ (st b o e) (nB b o e)
 have X':=X.keeps st
 have T':=T.keeps st
 refine codeAny_call_function (fd:=fnOf name qual params body scope dV kV doc pm an cdv ct) (body:=body) hroom (X' _ _ ho) rfl hco hgen rfl (codeRec_of X' hcd) (hbind s X' _ _ _ _ ?_)
 refine wpAny_newFunctionEnv_cells hk (kindsX' hkind _) fun env' he s' x=>?_
 subst he
 refine ⟨T'.nolimit.keeps x.toInCall.keep,codeAny_func ?_⟩
 obtain ⟨h₁,tk,rfl,_⟩:=x.done
 have hk₁:=x.toInCall.keep
 obtain ⟨cells,NC,Y⟩:=Cl.news (h₀:=s.heap) (Nat.le_refl _) fun n c hm=>⟨x.cell n c (lookup_of_mem_nodup (cellsFrom_names scope.names 0 (s.heap.objs.size+1) [] [] rfl▸hnd) hm),x.above n c hm⟩
 refine wpAny_mono (h fs base (hideAll s.heap (l.map (·.1))) s.heap.objs.size { s with heap:=h₁,toks:=tk } cells ⟨rfl,fun b o e=>stg b o (Bl.stays b o e),Bl.frames.of_keeps fun b o e ZZ=>⟨o,stg b o e,rfl⟩⟩ ⟨x.toInCall.ns,fun b o e=>hk₁ b o (of_hideAll _ e),Nat.le_of_eq (hideAll_size _ _)⟩
  (fun q hq=>?_) (X.keeps stg) (T.keeps stg) (fun q hq=>Heap.lt_size (hl q hq).1) Y) (fun fl s' hq=>?_) fun ZZ ZZ z=>z.elim
 ·rcases List.mem_append.mp hq with hq|hq
  ·refine ⟨(NC q hq).1,(NC q hq).2.1,?_⟩
   cases z:(hideAll s.heap (l.map (·.1))).get? q.1 with
   |none=>rfl
   |some o=>have:=of_hideAll _ z; rw [(NC q hq).2.2] at this; exact ns this
  ·exact ⟨hk₁ _ _ (hl q hq).1,Nat.ne_of_lt (Heap.lt_size (hl q hq).1),hideAll_none _ (List.mem_map_of_mem hq)⟩
 obtain ⟨h',tk,m',l',rfl,F',N',hM,hP⟩:=hq
 refine ret _ l' h' tk (fun b o e hb=>?_) (fun q hq=>⟨(N' q hq).1,?_⟩) (fun q hq=>?_) (hP _ fun q hq=>(hl q hq).1)
 ·by_cases hm:b∈l.map (·.1)
  ·obtain ⟨x,hx,rfl⟩:=List.mem_map.mp hm
   rcases hM x hx with q|q
   ·exact absurd q hb
   ·rw [(hl x hx).1] at e; obtain rfl:=so e; exact (N' x q).1
  ·exact F'.keep b o (hideAll_get _ e hm)
 ·cases q':B.get? q.1 with
  |none=>rfl
  |some o=>have:=(N' q hq).2.2; rw [stg _ _ q'] at this; exact sn this
 ·by_cases hm:q.1∈l.map (·.1)
  ·exact .inl hm
  ·refine .inr ?_
   cases q':s.heap.get? q.1 with
   |none=>rfl
   |some o=>have:=(N' q hq).2.2; rw [hideAll_get _ q' hm] at this; exact sn this
variable {g:Heap} {L:Addr} {news:List (Addr×Obj)}
variable {h:Heap} {l':List (Addr×Obj)}
end
section
variable {prog:Program} {w:World} {A A₀:Around} {E:Value->Shared->Prop} {s:Shared} {env:Env}
variable {news:List (Addr×Obj)}
end
section
variable {prog:Program} {w:World} {A:Around} {E:Value->Shared->Prop} {s:Shared}
theorem dict_nil {K:Type} [DecidableEq K] {knd:PySem.KeyKind prog w K} {o:Obj} (h:o.IsDictOf knd []):∃ n,o=dictOf [] n:=by
 obtain ⟨es,ep,⟨h1,h2,h3⟩,hd,_,hp,_⟩:=h
 have he:es = #[]:=by
  have:es.toList = []:=by
   cases h:es.toList with
   |nil=>rfl
   |cons a b=>rw [h] at hp; cases hp
  simpa using this
 subst he
 obtain ⟨c,d,dt,sl⟩:=o
 dsimp only at h1 h2 h3 hd
 subst h1; subst h2; subst h3; subst hd
 exact ⟨ep,rfl⟩
theorem list_copy {g:Heap} {L:Addr} {m:Str->Option Value} {news:List (Addr×Obj)} {l:Addr} {items:Array Value} {n:Nat} {Q:Value->Shared->Prop} (F:Fr g L s.heap m) (N:News g L s.heap news) (hl:(l,listOf items n)∈news) (hz:items.size<=sizeLine)
  (h:∀ D h' c,Fr g L h' m->News g L h' ((D,listOf items c)::news)->(∀ p∈news,p.1<D)->Q (.ref D) { s with heap:=h' }):wpAny (model prog w) A (call (.type "list") [.ref l]) Q E s:=by
 refine call_list_seq l (o:=listOf items n) (.inl rfl) (N _ hl).1 rfl rfl (fun h' c' hk hD=>h _ h' c' (F.keeps hk) (fun q hq=>?_) fun p hp=>Heap.lt_size (N p hp).1) hz
 rcases List.mem_cons.mp hq with rfl|hq
 ·refine ⟨hD,Nat.ne_of_gt F.ns.lt,?_⟩
  cases z:g.get? s.heap.objs.size with
  |none=>rfl
  |some o=>exact absurd (Heap.lt_size (F.keep _ _ z)) (Nat.lt_irrefl _)
 ·exact ⟨hk _ _ (N q hq).1,(N q hq).2⟩
end
set_option tactic.hygienic true
abbrev tupObj (vs:List Value):Obj:={ cls:=.type "tuple",data:=.seq vs.toArray }
abbrev Lg:=List (Addr×Obj)
set_option tactic.hygienic false
def matchKE:List KE->List Value->Prop
 |[],[]=>True
 |k::ks,v::vs=>isKE k v=true/\matchKE ks vs
 |_,_=>False
abbrev Tab:=List (List KE×Addr×Value)
section
variable {prog:Program} {w:World} {A:Around} {E:Value->Shared->Prop} {s:Shared}
def KT (l:Lg) (ks:List KE) (a:Addr):Prop:=∃ vs,(a,tupObj vs)∈l/\matchKE ks vs
def KTs (l:Lg) (xs:Tab):Prop:=∀ x∈xs,KT l x.1 x.2.1
theorem itemsAre_of {ks:List KE} {vs:List Value} (h:matchKE ks vs):ItemsAre (mixKind prog w) ks vs:=by
 induction ks generalizing vs with
 |nil=>cases vs with
  |nil=>exact .nil
  |cons _ _=>exact h.elim
 |cons _ _ ih=>cases vs with
  |nil=>exact h.elim
  |cons _ _=>exact .cons h.1 (ih h.2)
variable {l l':Lg} {ks:List KE} {a:Addr}
theorem KT.mono (x:KT l ks a) (h:∀ q∈l,q∈l'):KT l' ks a:=let ⟨vs,m,f⟩:=x; ⟨vs,h _ m,f⟩
variable {g h:Heap} {L:Addr}
theorem KT.is (x:KT l ks a) (N:News g L h l):(tk prog w).is h ks a:=by
 obtain ⟨vs,m,f⟩:=x
 exact ⟨_,vs.toArray,0,(N _ m).1,rfl,rfl,by simpa using itemsAre_of f⟩
variable {xs:Tab}
theorem KTs.mono (x:KTs l xs) (h:∀ q∈l,q∈l'):KTs l' xs:=fun q hq=>(x q hq).mono h
theorem KTs.is (x:KTs l xs) (N:News g L h l):∀ q∈xs,(tk prog w).is h q.1 q.2.1:=fun q hq=>(x q hq).is N
variable {v:Value}
theorem KTs.snoc (x:KTs l xs) (y:KT l ks a):KTs l (xs++[(ks,a,v)]):=fun q hq=>by
 rcases List.mem_append.mp hq with hq|hq
 ·exact x q hq
 ·rw [List.mem_singleton.mp hq]; exact y
theorem news_sub (N:News g L h l') (hs:∀ q∈l,q∈l'):News g L h l:=fun q hq=>N q (hs q hq)
variable {k:List KE}
theorem atKey_none:atKey xs k=none↔k∉xs.map (·.1):=by
 unfold atKey
 rw [Option.map_eq_none_iff,List.find?_eq_none]
 constructor
 ·intro h m
  obtain ⟨q,hq,e⟩:=List.mem_map.mp m
  exact h q hq (by simp [e])
 ·intro h q hq e
  exact h (List.mem_map.mpr ⟨q,hq,by simpa using e⟩)
variable {p:Addr×Value}
theorem atKey_of {i:Nat} (hn:(xs.map (·.1)).Nodup) (h:xs[i]? = some (k,p)):atKey xs k=some p:=by
 unfold atKey
 have hm:(k,p)∈xs:=List.mem_of_getElem? h
 cases hf:xs.find? (fun x=>decide (x.1=k)) with
 |none=>exact absurd (by simp) (List.find?_eq_none.mp hf _ hm)
 |some y=>
  have hy:=List.mem_of_find?_eq_some hf
  have ey:y.1=k:=by simpa using List.find?_some hf
  obtain ⟨j,hj⟩:=List.getElem?_of_mem hy
  have:=idxH_unique hn h (j:=j) (q:=y.2) (by rw [hj]; subst ey; rfl)
  subst this
  rw [h] at hj; obtain rfl:=so hj
  rfl
theorem nodup_snoc (hn:(xs.map (·.1)).Nodup) (h:atKey xs k=none):((xs++[(k,a,v)]).map (·.1)).Nodup:=by
 rw [List.map_append,List.nodup_append]
 refine ⟨hn,by simp,fun x hx y hy e=>?_⟩
 rw [List.map_singleton,List.mem_singleton] at hy
 subst hy; subst e
 exact atKey_none.mp h hx
variable {news:Lg} {vs:List Value} {Q:Value->Shared->Prop}
theorem len_L {D:Addr} {c:Nat} (N:News g L s.heap news) (hm:(D,listOf vs.toArray c)∈news) (hz:vs.length<=1000000) (h:Q (.int vs.length (s.toks+1)) { s with toks:=s.toks+1+1 }):
  wpAny (model prog w) A (call (.builtin "len") [.ref D]) Q E s:=KM.len_K N hm (by simp) (om52 hz) h
variable {n:Nat}
theorem tup_dict {es:List DictEntry}:tupObj vs≠dictOf es n:=fun h=>by injection h with h; exact absurd h (by decide)
theorem tup_list {ws:Array Value}:tupObj vs≠listOf ws n:=fun h=>by injection h with h; exact absurd h (by decide)
variable {h₀:Heap} {ml:Lg} {d:Addr}
end
section
variable {prog:Program} {w:World} {A A₀:Around} {E:Value->Shared->Prop} {s:Shared} {env:Env}
abbrev two (elt t1 i1 t2 i2:PySem.Expr) (scope:Scope) (pos:Pos):PySem.Expr:=.ListComp elt [⟨t1,i1,[],0⟩,⟨t2,i2,[],0⟩] scope pos
variable {elt t1 i1 t2 i2:PySem.Expr} {scope:Scope} {pos:Pos} {it acc:Value}
theorem start_two {R:Result->Shared->Prop} {k:Nat} {g:Comprehension} (hg:(clausesOf (two elt t1 i1 t2 i2 scope pos))[k]? = some g) (ha:g.is_async=0)
  (h0:codeAny (model prog w) A (.compLoop (two elt t1 i1 t2 i2 scope pos) k it acc env) R s)
  (h:wpAny (model prog w) A (pyIter it) (fun it' s'=>codeAny (model prog w) A (.compLoop (two elt t1 i1 t2 i2 scope pos) k it' acc env) R s') (notedBy (model prog w) A env fun x s'=>R (.error x) s') s):
  codeAny (model prog w) A (.compStart (two elt t1 i1 t2 i2 scope pos) k it acc env) R s:=by
 refine codeAny_of_tree ?_
 show wpAny _ _ ((compStart (two elt t1 i1 t2 i2 scope pos) k it acc env).onRaise (fun x=>do noteFrame x env; standAt theWindowsPlace)) _ _ s
 refine wpAny_notedAt ?_
 unfold compStart
 rw [hg]
 simp only [Option.elim,ha,bne_self_eq_false,Bool.false_eq_true,if_false]
 refine wpAny_bind (wpAny_askSetting (wpAny_ite ?_))
 split
 ·exact wpAny_pure ⟨rfl,h0⟩
 ·refine wpAny_bind (wpAny_rule (wpAny_bind (wpAny_standAt ?_)))
  exact wpAny_bind (wpAny_mono h (fun it' s' h'=>wpAny_pure ⟨rfl,h'⟩) fun ZZ ZZ x=>x)
theorem turn_in:
  compTurn (two elt t1 i1 t2 i2 scope pos) 1 it acc env=(standAt i2.pos >>= fun ZZ=>pyNext it >>= fun r=>match r with
   |none=>pure (.done .next)
   |some v=>letOwnedTupleGo t2 it v >>= fun ZZ=>assign t2 env v >>= fun ZZ=>
    (eval elt env >>= fun x=>call (.builtin "list.append") [acc,x] >>= fun ZZ=>pure ()) >>= fun ZZ=>
     again (.compLoop (two elt t1 i1 t2 i2 scope pos) 1 it acc env)):=by rfl
theorem turn_out:
  compTurn (two elt t1 i1 t2 i2 scope pos) 0 it acc env=(standAt i1.pos >>= fun ZZ=>pyNext it >>= fun r=>match r with
   |none=>pure (.done .next)
   |some v=>letOwnedTupleGo t1 it v >>= fun ZZ=>assign t1 env v >>= fun ZZ=>
    eval i2 env >>= fun x=>standAt i2.pos >>= fun ZZ=>foldedSetIterable i2 env x >>= fun x=>holding [x] (pyIter x) >>= fun it'=>runOwn (.compStart (two elt t1 i1 t2 i2 scope pos) 1 it' acc env) env >>= fun ZZ=>
     again (.compLoop (two elt t1 i1 t2 i2 scope pos) 0 it acc env)):=by rfl
variable {inner:Nat->List Value}
end
section
section
variable {prog:Program} {w:World} {A:Around} {E:Value->Shared->Prop} {s:Shared}
variable {d:Addr} {es:List DictEntry} {n:Nat} {Q:Value->Shared->Prop}
theorem raw_key_iter (hd:(d == sysModules)=false) (ho:s.heap.get? d=some (dictOf es n))
  (hQ:Q (.ref s.heap.objs.size) { s with heap:=s.heap.push { cls:=.type "dict_keyiterator",data:=.fields #[.ref d,.int 0 0,.int es.length 0,.int n 0] } }):
  wpAny (model prog w) A (pyIter (.ref d)) Q E s:=by
 have hT:s.TypeIs (.ref d) "dict":=⟨_,ho,rfl⟩
 refine wpAny_pyIter_slot hT F.slot_dict_iter (wpAny_call_entry F.slot_dict_iter hT F.entry_dict_iter ?_ (F.args_dict_iter_1 _))
 unfold Builtin.«dict.__iter__» Builtin.Dict.dictSlotNone
 refine wpAny_bind (wpAny_bind (wpAny_notOrdered_dict hT ?_))
 show wpAny _ _ (pure (Value.ref d)) _ _ s
 refine wpAny_pure ?_
 show wpAny _ _ (Builtin.Dict.showsAll d >>= _) _ _ s
 unfold Builtin.Dict.showsAll
 rw [hd]
 refine wpAny_bind (wpAny_pure (wpAny_bind (wpAny_dictEntries ho rfl (wpAny_bind (wpAny_dictEpoch ho rfl (wpAny_bind (wpAny_newObj_type (wpAny_pure ⟨_,rfl,"dict_keyiterator",_,⟨_,Heap.get?_push_size _ rfl,rfl⟩,F.slot_dict_keyiterator_next.lookup,?_⟩))))))))
 simpa [rawInt] using hQ
variable {it:Addr} {i:Nat} {e:DictEntry} {Q:Option Value->Shared->Prop}
theorem raw_key_item (hit:s.heap.IsKeyIter it d i es.length n) (hod:s.heap.get? d=some (dictOf es n)) (hx:es[i]? = some e)
  (hQ:∀ h',h'.IsKeyIter it d (i+1) es.length n->Heap.SameBut it s.heap h'->Q (some e.key) { s with heap:=h' }):wpAny (model prog w) A (pyNext (.ref it)) Q E s:=by
 obtain ⟨o,ho,hc,hd⟩:=id hit
 obtain ⟨hlt,rfl⟩:=List.getElem?_eq_some_iff.mp hx
 unfold pyNext
 refine wpAny_bind (wpAny_attempt (wpAny_callSpecial?_slot (name:=Str.ofString "__next__") hit.typeIs F.slot_dict_keyiterator_next
  (wpAny_call_entry F.slot_dict_keyiterator_next hit.typeIs F.entry_dict_keyiterator_next ?_ (F.args_dict_keyiterator_next_1 _))))
 refine wpAny_bind (wpAny_pure (wpAny_bind (wpAny_bind ?_)))
 first|refine wpAny_bind (wpAny_typeNameOfWhole_keyiter hit.typeIs (wpAny_pure ?_))|refine wpAny_bind (wpAny_typeNameOf_keyiter hit.typeIs (wpAny_pure ?_))
 refine wpAny_bind (wpAny_fieldsOf ho hd ?_)
 simp only [show Builtin.Dict_items.ownsTuple "dict_keyiterator" = false by decide,Bool.false_eq_true,if_false]
 show wpAny _ _ (if (Value.ref d == Value.none)=true then _ else _) _ _ s
 rw [if_neg (show ¬ ((Value.ref d == Value.none)=true) from Bool.false_ne_true)]
 refine wpAny_bind (wpAny_pure (wpAny_bind (wpAny_dictEntries hod rfl ?_)))
 rw [if_neg (by simp)]
 refine wpAny_bind (wpAny_pure (wpAny_bind (wpAny_dictEpoch hod rfl ?_)))
 rw [if_neg (by simp)]
 refine wpAny_pure ?_
 have hg:es.toArray[i]? = some es[i]:=by simp
 simp only [show ¬ ((i:Int)<0) from by exact om43,if_false,Int.toNat_natCast,hg]
 refine wpAny_bind ?_
 first|refine wpAny_bind (wpAny_typeNameOfWhole_keyiter hit.typeIs (wpAny_pure ?_))|refine wpAny_bind (wpAny_typeNameOf_keyiter hit.typeIs (wpAny_pure ?_))
 refine wpAny_bind (wpAny_isOneOf_keyiter hit.typeIs ?_)
 show wpAny _ _ (setField (.ref it) 1 (rawInt ((i:Int)+1)) >>= _) _ _ s
 refine wpAny_bind (wpAny_setField ho hd (by simp) ?_)
 have hit':(s.heap.update it (Obj.mapFields (·.setIfInBounds 1 (rawInt ((i:Int)+1))))).IsKeyIter it d (i+1) es.length n:=
  ⟨_,Heap.get?_update_self _ ho (Obj.isFreed_of_fields (Obj.data_mapFields hd _)),(Obj.cls_mapFields ..).trans hc,by rw [Obj.data_mapFields hd]; simp [rawInt]⟩
 refine wpAny_bind (wpAny_holding (wpAny_bind (wpAny_isOneOf_keyiter (s:={ s with heap:=s.heap.update it (Obj.mapFields (·.setIfInBounds 1 (rawInt ((i:Int)+1)))) }) hit'.typeIs ?_)))
 show wpAny _ _ (pure es[i].key) _ _ _
 exact wpAny_pure (wpAny_pure ⟨_,rfl,wpAny_pure (hQ _ hit' (Heap.SameBut.update ..))⟩)
theorem raw_key_end (hh:A.handled=none) (hit:s.heap.IsKeyIter it d es.length es.length n) (hod:s.heap.get? d=some (dictOf es n))
  (hQ:∀ h',Heap.ExtBut it s.heap h'->Q none { s with heap:=h' }):wpAny (model prog w) A (pyNext (.ref it)) Q E s:=by
 obtain ⟨o,ho,hc,hd⟩:=id hit
 unfold pyNext
 refine wpAny_bind (wpAny_attempt (wpAny_callSpecial?_slot (name:=Str.ofString "__next__") hit.typeIs F.slot_dict_keyiterator_next
  (wpAny_call_entry F.slot_dict_keyiterator_next hit.typeIs F.entry_dict_keyiterator_next ?_ (F.args_dict_keyiterator_next_1 _))))
 refine wpAny_bind (wpAny_pure (wpAny_bind (wpAny_bind ?_)))
 first|refine wpAny_bind (wpAny_typeNameOfWhole_keyiter hit.typeIs (wpAny_pure ?_))|refine wpAny_bind (wpAny_typeNameOf_keyiter hit.typeIs (wpAny_pure ?_))
 refine wpAny_bind (wpAny_fieldsOf ho hd ?_)
 simp only [show Builtin.Dict_items.ownsTuple "dict_keyiterator" = false by decide,Bool.false_eq_true,if_false]
 show wpAny _ _ (if (Value.ref d == Value.none)=true then _ else _) _ _ s
 rw [if_neg (show ¬ ((Value.ref d == Value.none)=true) from Bool.false_ne_true)]
 refine wpAny_bind (wpAny_pure (wpAny_bind (wpAny_dictEntries hod rfl ?_)))
 rw [if_neg (by simp)]
 refine wpAny_bind (wpAny_pure (wpAny_bind (wpAny_dictEpoch hod rfl ?_)))
 rw [if_neg (by simp)]
 refine wpAny_pure ?_
 have hg:es.toArray[es.length]? = none:=by simp
 simp only [show ¬ ((es.length:Int)<0) from by exact om43,if_false,Int.toNat_natCast,hg]
 refine wpAny_bind ?_
 first|refine wpAny_bind (wpAny_typeNameOfWhole_keyiter hit.typeIs (wpAny_pure ?_))|refine wpAny_bind (wpAny_typeNameOf_keyiter hit.typeIs (wpAny_pure ?_))
 show wpAny _ _ (setField (.ref it) 0 .none >>= _) _ _ s
 refine wpAny_bind (wpAny_setField ho hd (by simp) ?_)
 show wpAny _ _ (newExc (.type "StopIteration") [] >>= _) _ _ _
 refine wpAny_bind ?_
 simp only [newExc,newTuple]
 refine wpAny_bind (wpAny_newObj_type ?_ (by size_fits))
 refine wpAny_bind (m:=firstArgMember _ _) (wpAny_of_eq (a:=Value.none) (by first|rfl|(simp only [firstArgMember]; rfl)) ?_)
 refine wpAny_newObj_type ?_ (by size_fits)
 simp only [raiseNew]
 refine wpAny_bind (wpAny_handled ?_)
 rw [show A.in1.handled=none from hh]
 refine wpAny_bind (wpAny_pure (wpAny_throw ?_))
 refine wpAny_bind (wpAny_isInstance (T:="StopIteration") (b:=true) ⟨_,Heap.get?_push_size _ rfl,rfl⟩ isSubtype_stop ?_)
 exact wpAny_pure (hQ _ (((Heap.SameBut.update ..).extBut.push _).push _))
theorem raw_val_item (hit:s.heap.IsValIter it d i es.length n) (hod:s.heap.get? d=some (dictOf es n)) (hx:es[i]? = some e)
  (hQ:∀ h',h'.IsValIter it d (i+1) es.length n->Heap.SameBut it s.heap h'->Q (some e.val) { s with heap:=h' }):wpAny (model prog w) A (pyNext (.ref it)) Q E s:=by
 obtain ⟨o,ho,hc,hd⟩:=id hit
 obtain ⟨hlt,rfl⟩:=List.getElem?_eq_some_iff.mp hx
 unfold pyNext
 refine wpAny_bind (wpAny_attempt (wpAny_callSpecial?_slot (name:=Str.ofString "__next__") hit.typeIs F.slot_dict_valueiterator_next
  (wpAny_call_entry F.slot_dict_valueiterator_next hit.typeIs F.entry_dict_valueiterator_next ?_ (F.args_dict_valueiterator_next_1 _))))
 refine wpAny_bind (wpAny_pure (wpAny_bind (wpAny_bind ?_)))
 first|refine wpAny_bind (wpAny_typeNameOfWhole_valiter hit.typeIs (wpAny_pure ?_))|refine wpAny_bind (wpAny_typeNameOf_valiter hit.typeIs (wpAny_pure ?_))
 refine wpAny_bind (wpAny_fieldsOf ho hd ?_)
 simp only [show Builtin.Dict_items.ownsTuple "dict_valueiterator" = false by decide,Bool.false_eq_true,if_false]
 show wpAny _ _ (if (Value.ref d == Value.none)=true then _ else _) _ _ s
 rw [if_neg (show ¬ ((Value.ref d == Value.none)=true) from Bool.false_ne_true)]
 refine wpAny_bind (wpAny_pure (wpAny_bind (wpAny_dictEntries hod rfl ?_)))
 rw [if_neg (by simp)]
 refine wpAny_bind (wpAny_pure (wpAny_bind (wpAny_dictEpoch hod rfl ?_)))
 rw [if_neg (by simp)]
 refine wpAny_pure ?_
 have hg:es.toArray[i]? = some es[i]:=by simp
 simp only [show ¬ ((i:Int)<0) from by exact om43,if_false,Int.toNat_natCast,hg]
 refine wpAny_bind ?_
 first|refine wpAny_bind (wpAny_typeNameOfWhole_valiter hit.typeIs (wpAny_pure ?_))|refine wpAny_bind (wpAny_typeNameOf_valiter hit.typeIs (wpAny_pure ?_))
 refine wpAny_bind (wpAny_isOneOf_valiter hit.typeIs ?_)
 show wpAny _ _ (setField (.ref it) 1 (rawInt ((i:Int)+1)) >>= _) _ _ s
 refine wpAny_bind (wpAny_setField ho hd (by simp) ?_)
 have hit':(s.heap.update it (Obj.mapFields (·.setIfInBounds 1 (rawInt ((i:Int)+1))))).IsValIter it d (i+1) es.length n:=
  ⟨_,Heap.get?_update_self _ ho (Obj.isFreed_of_fields (Obj.data_mapFields hd _)),(Obj.cls_mapFields ..).trans hc,by rw [Obj.data_mapFields hd]; simp [rawInt]⟩
 refine wpAny_bind (wpAny_holding (wpAny_bind (wpAny_isOneOf_valiter (s:={ s with heap:=s.heap.update it (Obj.mapFields (·.setIfInBounds 1 (rawInt ((i:Int)+1)))) }) hit'.typeIs ?_)))
 refine wpAny_bind (wpAny_isOneOf_valiter (s:={ s with heap:=s.heap.update it (Obj.mapFields (·.setIfInBounds 1 (rawInt ((i:Int)+1)))) }) hit'.typeIs ?_)
 show wpAny _ _ (pure es[i].val) _ _ _
 exact wpAny_pure (wpAny_pure ⟨_,rfl,wpAny_pure (hQ _ hit' (Heap.SameBut.update ..))⟩)
theorem raw_val_end (hh:A.handled=none) (hit:s.heap.IsValIter it d es.length es.length n) (hod:s.heap.get? d=some (dictOf es n))
  (hQ:∀ h',Heap.ExtBut it s.heap h'->Q none { s with heap:=h' }):wpAny (model prog w) A (pyNext (.ref it)) Q E s:=by
 obtain ⟨o,ho,hc,hd⟩:=id hit
 unfold pyNext
 refine wpAny_bind (wpAny_attempt (wpAny_callSpecial?_slot (name:=Str.ofString "__next__") hit.typeIs F.slot_dict_valueiterator_next
  (wpAny_call_entry F.slot_dict_valueiterator_next hit.typeIs F.entry_dict_valueiterator_next ?_ (F.args_dict_valueiterator_next_1 _))))
 refine wpAny_bind (wpAny_pure (wpAny_bind (wpAny_bind ?_)))
 first|refine wpAny_bind (wpAny_typeNameOfWhole_valiter hit.typeIs (wpAny_pure ?_))|refine wpAny_bind (wpAny_typeNameOf_valiter hit.typeIs (wpAny_pure ?_))
 refine wpAny_bind (wpAny_fieldsOf ho hd ?_)
 simp only [show Builtin.Dict_items.ownsTuple "dict_valueiterator" = false by decide,Bool.false_eq_true,if_false]
 show wpAny _ _ (if (Value.ref d == Value.none)=true then _ else _) _ _ s
 rw [if_neg (show ¬ ((Value.ref d == Value.none)=true) from Bool.false_ne_true)]
 refine wpAny_bind (wpAny_pure (wpAny_bind (wpAny_dictEntries hod rfl ?_)))
 rw [if_neg (by simp)]
 refine wpAny_bind (wpAny_pure (wpAny_bind (wpAny_dictEpoch hod rfl ?_)))
 rw [if_neg (by simp)]
 refine wpAny_pure ?_
 have hg:es.toArray[es.length]? = none:=by simp
 simp only [show ¬ ((es.length:Int)<0) from by exact om43,if_false,Int.toNat_natCast,hg]
 refine wpAny_bind ?_
 first|refine wpAny_bind (wpAny_typeNameOfWhole_valiter hit.typeIs (wpAny_pure ?_))|refine wpAny_bind (wpAny_typeNameOf_valiter hit.typeIs (wpAny_pure ?_))
 show wpAny _ _ (setField (.ref it) 0 .none >>= _) _ _ s
 refine wpAny_bind (wpAny_setField ho hd (by simp) ?_)
 show wpAny _ _ (newExc (.type "StopIteration") [] >>= _) _ _ _
 refine wpAny_bind ?_
 simp only [newExc,newTuple]
 refine wpAny_bind (wpAny_newObj_type ?_ (by size_fits))
 refine wpAny_bind (m:=firstArgMember _ _) (wpAny_of_eq (a:=Value.none) (by first|rfl|(simp only [firstArgMember]; rfl)) ?_)
 refine wpAny_newObj_type ?_ (by size_fits)
 simp only [raiseNew]
 refine wpAny_bind (wpAny_handled ?_)
 rw [show A.in1.handled=none from hh]
 refine wpAny_bind (wpAny_pure (wpAny_throw ?_))
 refine wpAny_bind (wpAny_isInstance (T:="StopIteration") (b:=true) ⟨_,Heap.get?_push_size _ rfl,rfl⟩ isSubtype_stop ?_)
 exact wpAny_pure (hQ _ (((Heap.SameBut.update ..).extBut.push _).push _))
variable {v:Addr} {Q:Value->Shared->Prop}
theorem raw_val_iter (hv:s.heap.IsValuesView v d) (ho:s.heap.get? d=some (dictOf es n))
  (hQ:Q (.ref s.heap.objs.size) { s with heap:=s.heap.push { cls:=.type "dict_valueiterator",data:=.fields #[.ref d,.int 0 0,.int es.length 0,.int n 0] } }):
  wpAny (model prog w) A (pyIter (.ref v)) Q E s:=by
 obtain ⟨ov,hov,hcv,hdv⟩:=id hv
 refine wpAny_pyIter_slot hv.typeIs F.slot_dict_values_iter (wpAny_call_entry F.slot_dict_values_iter hv.typeIs F.entry_dict_values_iter ?_ (F.args_dict_values_iter_1 _))
 unfold Builtin.«dict_values.__iter__» Builtin.Dict_items.dictOf
 refine wpAny_bind (wpAny_pure (wpAny_bind (wpAny_bind (wpAny_field hov hdv (x:=.ref d) rfl (wpAny_pure (wpAny_bind ?_))))))
 unfold Builtin.Dict_items.newIterator
 refine wpAny_bind (wpAny_dictEntries ho rfl (wpAny_bind (wpAny_dictEpoch ho rfl ?_)))
 simp only [show Builtin.Dict_items.ownsTuple "dict_valueiterator" = false by decide,Bool.false_eq_true,if_false]
 refine wpAny_newObj_type (wpAny_pure ⟨_,rfl,"dict_valueiterator",_,⟨_,Heap.get?_push_size _ rfl,rfl⟩,F.slot_dict_valueiterator_next.lookup,?_⟩)
 simpa [rawInt] using hQ
theorem raw_values (d:Addr) (hd:(d == sysModules)=false):
  MeetsIn prog w (Builtin.«dict.values» ⟨[.ref d],[]⟩) (fun ZZ R s=>(∃ es n,s.heap.get? d=some (dictOf es n)) /\
   R (.ok (.ret (.ref s.heap.objs.size))) { s with heap:=s.heap.push { cls:=.type "dict_values",data:=.fields #[.ref d] } }):=
 .of_wp fun A R s ⟨⟨es,n,ho⟩,h⟩=>by
  have hT:s.TypeIs (.ref d) "dict":=⟨_,ho,rfl⟩
  refine wpAny_bind ?_
  unfold Builtin.Dict.noArgs
  refine wpAny_bind (wpAny_notOrdered_dict hT ?_)
  show wpAny _ _ (pure d) _ _ s
  refine wpAny_pure ?_
  show wpAny _ _ (Builtin.Dict.showsAll d >>= _) _ _ s
  unfold Builtin.Dict.showsAll
  rw [hd]
  exact wpAny_bind (wpAny_pure (wpAny_bind (wpAny_newObj_type (wpAny_pure ⟨_,rfl,h⟩))))
def keyObj (d:Addr) (len n:Nat) (i:Nat) (o:Obj):Prop:=o.cls = .type "dict_keyiterator"/\o.data = .fields #[.ref d,.int i 0,.int len 0,.int n 0]
def valObj (d:Addr) (len n:Nat) (i:Nat) (o:Obj):Prop:=o.cls = .type "dict_valueiterator"/\o.data = .fields #[.ref d,.int i 0,.int len 0,.int n 0]
variable {h₀:Heap} {L I:Addr} {m:Str->Option Value} {news:Lg}
def viewObj (d:Addr):Obj:={ cls:=.type "dict_values",data:=.fields #[.ref d] }
variable {g:Heap}
theorem dict_meth {name:Str} {id:String} {pl:Sem Bool} {Q:Value×List Value->Shared->Prop} (N:News g L s.heap news) (hm:(d,dictOf es n)∈news) (slot:Slot "dict" name id) (hty:typeOf (.builtin id)=pure (.type "method_descriptor"))
  (h:Q (.builtin id,[.ref d]) s):wpAny (model prog w) A (getMethod (.ref d) name pl) Q E s:=
 getMethod_builtin ⟨_,(N _ hm).1,rfl⟩ PySem.F.plainAttrs_dict slot hty (fun a e=>by cases e; exact ⟨_,(N _ hm).1,rfl⟩) h
end
variable {g h:Heap} {L:Addr} {rest:Lg}
variable {a:Addr} {l:Lg}
variable {xs:Tab}
end
section
set_option linter.unusedVariables false
inductive AV where
 |none|bool (b:Bool)|int (i:Int)|str (s:Str)|loc (i:Nat)|glob (v:Value)
inductive AO where
 |list (xs:List AV)
 |tup (xs:List AV)
 |inst (C:Addr) (es:List (Str×AV))
 |dstr (es:List (Str×AV))
 |dint (es:List (Int×AV))
 |dtup (es:List (List KE×Nat×AV))
 |dnil
structure St where
 ρ:List (Str×AV)
 H:List AO
structure Shp where
 φ:Nat->Addr
 δ:Nat->Addr
 ε:Nat->Nat
noncomputable def VRel (sh:Shp) (n:Nat):AV->Value->Prop
 |.none,v=>v = .none
 |.bool b,v=>v = .bool b
 |.int i,v=>∃ t,v = .int i t
 |.str s,v=>∃ t,v = .str s t
 |.loc i,v=>i<n/\v = .ref (sh.φ i)
 |.glob x,v=>v=x
noncomputable def VRels (sh:Shp) (n:Nat):List AV->List Value->Prop
 |[],[]=>True
 |x::xs,v::vs=>VRel sh n x v/\VRels sh n xs vs
 |_,_=>False
noncomputable def Grow (sh:Shp) (n:Nat) (sh':Shp) (n':Nat):Prop:=n<=n'/\∀ i,i<n->sh'.φ i=sh.φ i/\sh'.δ i=sh.δ i/\sh'.ε i=sh.ε i
variable {sh:Shp} {n:Nat}
theorem Grow.refl:Grow sh n sh n:=⟨Nat.le_refl _,fun ZZ ZZ=>⟨rfl,rfl,rfl⟩⟩
theorem Grow.trans {s1 s2 s3:Shp} {n1 n2 n3:Nat} (a:Grow s1 n1 s2 n2) (b:Grow s2 n2 s3 n3):Grow s1 n1 s3 n3:=
 ⟨Nat.le_trans a.1 b.1,fun i h=>⟨(b.2 i (Nat.lt_of_lt_of_le h a.1)).1.trans (a.2 i h).1,(b.2 i (Nat.lt_of_lt_of_le h a.1)).2.1.trans (a.2 i h).2.1,(b.2 i (Nat.lt_of_lt_of_le h a.1)).2.2.trans (a.2 i h).2.2⟩⟩
variable {sh':Shp} {n':Nat}
theorem VRel.grow (G:Grow sh n sh' n'):∀ {a:AV} {v:Value},VRel sh n a v->VRel sh' n' a v
 |.none,_,h|.bool _,_,h|.int _,_,h|.str _,_,h|.glob _,_,h=>h
 |.loc i,_,h=>⟨Nat.lt_of_lt_of_le h.1 G.1,by rw [(G.2 i h.1).1]; exact h.2⟩
theorem VRels.ind {P:List AV->List Value->Prop} (hn:P [] []) (hc:∀ a as v vs,VRel sh n a v->VRels sh n as vs->P as vs->P (a::as) (v::vs)):∀ {as:List AV} {vs:List Value},VRels sh n as vs->P as vs:=by
 intro as
 induction as with
 |nil=>intro vs h; cases vs with
  |nil=>exact hn
  |cons v vs=>exact h.elim
 |cons a as ih=>intro vs h; cases vs with
  |nil=>exact h.elim
  |cons v vs=>exact hc a as v vs h.1 h.2 (ih h.2)
variable {as:List AV} {vs:List Value}
theorem VRels.grow (G:Grow sh n sh' n') (h:VRels sh n as vs):VRels sh' n' as vs:=
 VRels.ind (P:=fun as vs=>VRels sh' n' as vs) trivial (fun ZZ ZZ ZZ ZZ r ZZ ih=>⟨r.grow G,ih⟩) h
theorem VRels.len (h:VRels sh n as vs):vs.length=as.length:=
 VRels.ind (P:=fun as vs=>vs.length=as.length) rfl (fun ZZ ZZ ZZ ZZ ZZ ZZ ih=>congrArg (· + 1) ih) h
variable {i:Nat} {a:AV}
theorem VRels.get (h:VRels sh n as vs) (e:as[i]? = some a):∃ v,vs[i]? = some v/\VRel sh n a v:=by
 refine VRels.ind (P:=fun as vs=>∀ i,as[i]? = some a->∃ v,vs[i]? = some v/\VRel sh n a v) (fun i e=>by exact ns e) (fun x xs v vs r ZZ ih i e=>?_) h i e
 cases i with
 |zero=>obtain rfl:=so e; exact ⟨v,rfl,r⟩
 |succ i=>exact ih i e
theorem VRels.append {bs:List AV} {ws:List Value} (h:VRels sh n as vs) (h':VRels sh n bs ws):VRels sh n (as++bs) (vs++ws):=
 VRels.ind (P:=fun as vs=>VRels sh n (as++bs) (vs++ws)) h' (fun ZZ ZZ ZZ ZZ r ZZ ih=>⟨r,ih⟩) h
theorem VRels.snoc {v:Value} (h:VRels sh n as vs) (x:VRel sh n a v):VRels sh n (as++[a]) (vs++[v]):=h.append ⟨x,trivial⟩
theorem VRels.set:∀ {vs:List Value} {i:Nat} {a:AV} {v:Value},VRels sh n as vs->VRel sh n a v->VRels sh n (as.set i a) (vs.set i v):=by
 induction as with
 |nil=>intro vs i a v h x; cases vs with
  |nil=>exact trivial
  |cons _ _=>exact h.elim
 |cons y ys ih=>intro vs i a v h x; cases vs with
  |nil=>exact h.elim
  |cons z zs=>cases i with
   |zero=>exact ⟨x,h.2⟩
   |succ i=>exact ⟨h.1,ih h.2 x⟩
theorem VRels.take (h:VRels sh n as vs):VRels sh n (as.take i) (vs.take i):=
 VRels.ind (P:=fun as vs=>∀ i,VRels sh n (as.take i) (vs.take i)) (fun i=>by rw [List.take_nil,List.take_nil]; trivial) (fun ZZ ZZ ZZ ZZ r ZZ ih i=>by
  cases i with
  |zero=>trivial
  |succ i=>exact ⟨r,ih i⟩) h i
theorem VRels.dropLast (h:VRels sh n as vs):VRels sh n as.dropLast vs.dropLast:=by
 rw [List.dropLast_eq_take,List.dropLast_eq_take,h.len]; exact h.take
noncomputable def repl (a:Addr) (o':Obj) (l:Lg):Lg:=l.map fun q=>if q.1=a then (a,o') else q
variable {a:Addr} {o':Obj} {l:Lg}
theorem repl_keys:(repl a o' l).map (·.1)=l.map (·.1):=by
 unfold repl
 rw [List.map_map]
 refine List.map_congr_left fun q ZZ=>?_
 show (if q.1=a then (a,o') else q).1=q.1
 split
 ·rename_i h; exact h.symm
 ·rfl
theorem repl_none (h:a∉l.map (·.1)):repl a o' l=l:=by
 unfold repl
 conv=>rhs; rw [<- List.map_id l]
 refine List.map_congr_left fun q hq=>?_
 rw [if_neg fun e=>h (by rw [<- e]; exact List.mem_map_of_mem (f:=(·.1)) hq)]; rfl
theorem repl_append {l':Lg}:repl a o' (l++l')=repl a o' l++repl a o' l':=by simp [repl]
variable {b:Addr} {ob:Obj}
theorem mem_repl_ne (h:(b,ob)∈l) (hne:b≠a):(b,ob)∈repl a o' l:=
 List.mem_map.mpr ⟨_,h,by rw [if_neg hne]⟩
variable {o:Obj}
theorem mem_repl_eq (h:(a,o)∈l):(a,o')∈repl a o' l:=
 List.mem_map.mpr ⟨_,h,by rw [if_pos rfl]⟩
theorem nodup_key (hn:(l.map (·.1)).Nodup) (h:(a,o)∈l) (h':(a,o')∈l):o=o':=by
 induction l with
 |nil=>cases h
 |cons q r ih=>
  rw [List.map_cons,List.nodup_cons] at hn
  rcases List.mem_cons.mp h with e|h
  ·rcases List.mem_cons.mp h' with e'|h'
   ·exact congrArg Prod.snd (e.trans e'.symm)
   ·exact absurd (List.mem_map_of_mem (f:=(·.1)) h') (by subst e; exact hn.1)
  ·rcases List.mem_cons.mp h' with e'|h'
   ·exact absurd (List.mem_map_of_mem (f:=(·.1)) h) (by subst e'; exact hn.1)
   ·exact ih hn.2 h h'
theorem mem_repl_obj (hn:(l.map (·.1)).Nodup) (ha:(a,o)∈l) (h:(b,ob)∈l) (hne:ob≠o):(b,ob)∈repl a o' l:=
 mem_repl_ne h fun e=>hne (by subst e; exact nodup_key hn h ha)
theorem upd_repl:∀ {l:Lg},(l.map (·.1)).Nodup->(a,o)∈l->Upd a o o' l (repl a o' l)
 |q::r,hn,h=>by
  rw [List.map_cons,List.nodup_cons] at hn
  by_cases e:q.1=a
  ·have hr:a∉r.map (·.1):=e▸hn.1
   have hq:q=(a,o):=by
    rcases List.mem_cons.mp h with h|h
    ·exact h.symm
    ·exact absurd (List.mem_map_of_mem (f:=(·.1)) h) hr
   subst hq
   have:repl a o' ((a,o)::r)=(a,o')::r:=by
    show (if (a,o).1=a then (a,o') else (a,o))::repl a o' r=_
    rw [if_pos rfl,repl_none hr]
   rw [this]
   exact .head fun p hp z=>hr (z▸List.mem_map_of_mem hp)
  ·have hm:(a,o)∈r:=by
    rcases List.mem_cons.mp h with h|h
    ·exact absurd (by rw [<- h]) e
    ·exact h
   have:repl a o' (q::r)=q::repl a o' r:=by
    show (if q.1=a then (a,o') else q)::repl a o' r=_
    rw [if_neg e]
   rw [this]
   exact .tail e (upd_repl hn.2 hm)
section
variable (prog:Program) (w:World)
noncomputable def DRel {K:Type} (sh:Shp) (n:Nat):List (K×AV)->List (K×Value)->Prop
 |[],[]=>True
 |e::es,x::xs=>e.1=x.1/\VRel sh n e.2 x.2/\DRel sh n es xs
 |_,_=>False
noncomputable def TRel (sh:Shp) (n:Nat):List (List KE×Nat×AV)->Tab->Prop
 |[],[]=>True
 |e::es,x::xs=>(e.1=x.1/\e.2.1<n/\sh.φ e.2.1=x.2.1)/\VRel sh n e.2.2 x.2.2/\TRel sh n es xs
 |_,_=>False
noncomputable def AttrRel (sh:Shp) (n:Nat) (es:List (Str×AV)) (ds:List DictEntry):Prop:=
 ds.length<=es.length/\∀ x,match es.lookup x with
  |some a=>∃ v,getL x ds=some (some v)/\VRel sh n a v
  |none=>getL x ds=some none
noncomputable def ORel (sh:Shp) (n:Nat) (i:Nat) (hl:Lg):AO->Prop
 |.list xs=>∃ vs k,(sh.φ i,listOf vs.toArray k)∈hl/\VRels sh n xs vs
 |.tup xs=>∃ vs,(sh.φ i,tupObj vs)∈hl/\VRels sh n xs vs
 |.inst C es=>(sh.φ i,instObj C (sh.δ i))∈hl/\∃ ds k,(sh.δ i,dictOf ds k)∈hl/\AttrRel sh n es ds
 |.dstr es=>(sh.φ i == sysModules)=false/\∃ o xs,(sh.φ i,o)∈hl/\o.IsDictOf (strKind prog w) xs/\DRel sh n es xs
 |.dint es=>(sh.φ i == sysModules)=false/\∃ o xs,(sh.φ i,o)∈hl/\o.IsDictOf (intKind prog w) xs/\DRel sh n es xs
 |.dtup es=>(sh.φ i == sysModules)=false/\∃ xs,(sh.φ i,dictOf (tabEs prog w xs) (sh.ε i+es.length))∈hl/\(xs.map (·.1)).Nodup/\KTs hl xs/\TRel sh n es xs
 |.dnil=>(sh.φ i == sysModules)=false/\(sh.φ i,dictOf [] (sh.ε i))∈hl
structure HR (sh:Shp) (H:List AO) (hl:Lg):Prop where
 obj:∀ i o,H[i]? = some o->ORel prog w sh H.length i hl o
 ow:∃ ow:Addr->Nat,(∀ i,i<H.length->ow (sh.φ i)=2 * i)/\∀ i C es,H[i]? = some (.inst C es)->ow (sh.δ i)=2 * i+1
end
variable {K:Type}
theorem DRel.ind {P:List (K×AV)->List (K×Value)->Prop} (hn:P [] []) (hc:∀ k a es v xs,VRel sh n a v->DRel sh n es xs->P es xs->P ((k,a)::es) ((k,v)::xs)):∀ {es:List (K×AV)} {xs:List (K×Value)},DRel sh n es xs->P es xs:=by
 intro es
 induction es with
 |nil=>intro xs h; cases xs with
  |nil=>exact hn
  |cons v vs=>exact h.elim
 |cons e es ih=>intro xs h; cases xs with
  |nil=>exact h.elim
  |cons x xs=>
   have h1:e.1=x.1:=h.1
   have r:=hc e.1 e.2 es x.2 xs h.2.1 h.2.2 (ih h.2.2)
   rw [show ((e.1,x.2)::xs:List (K×Value))=x::xs by rw [h1]] at r
   exact r
theorem TRel.ind {P:List (List KE×Nat×AV)->Tab->Prop} (hn:P [] []) (hc:∀ e es (x:List KE×Addr×Value) xs,e.1=x.1->e.2.1<n->sh.φ e.2.1=x.2.1->VRel sh n e.2.2 x.2.2->TRel sh n es xs->P es xs->P (e::es) (x::xs)):∀ {es:List (List KE×Nat×AV)} {xs:Tab},TRel sh n es xs->P es xs:=by
 intro es
 induction es with
 |nil=>intro xs h; cases xs with
  |nil=>exact hn
  |cons v vs=>exact h.elim
 |cons e es ih=>intro xs h; cases xs with
  |nil=>exact h.elim
  |cons x xs=>exact hc e es x xs h.1.1 h.1.2.1 h.1.2.2 h.2.1 h.2.2 (ih h.2.2)
theorem DRel.grow (G:Grow sh n sh' n') {es:List (K×AV)} {xs:List (K×Value)} (h:DRel sh n es xs):DRel sh' n' es xs:=
 DRel.ind (P:=fun es xs=>DRel sh' n' es xs) trivial (fun ZZ ZZ ZZ ZZ ZZ r ZZ ih=>⟨rfl,r.grow G,ih⟩) h
theorem TRel.grow (G:Grow sh n sh' n') {es:List (List KE×Nat×AV)} {xs:Tab} (h:TRel sh n es xs):TRel sh' n' es xs:=
 TRel.ind (P:=fun es xs=>TRel sh' n' es xs) trivial (fun ZZ ZZ ZZ ZZ e l p r ZZ ih=>⟨⟨e,Nat.lt_of_lt_of_le l G.1,(G.2 _ l).1.trans p⟩,r.grow G,ih⟩) h
theorem AttrRel.grow (G:Grow sh n sh' n') {es:List (Str×AV)} {ds:List DictEntry} (h:AttrRel sh n es ds):AttrRel sh' n' es ds:=
 ⟨h.1,fun x=>by
  have:=h.2 x
  split at this
  ·refine ex1_2 this fun v e r=>?_; try clear this
   exact ⟨v,e,r.grow G⟩
  ·exact this⟩
variable {prog:Program} {w:World}
variable {hl:Lg}
theorem ORel.grow {hl':Lg} (G:Grow sh n sh' n') (hi:i<n) (hs:∀ q∈hl,q∈hl'):∀ {o:AO},ORel prog w sh n i hl o->ORel prog w sh' n' i hl' o
 |.list xs,⟨vs,k,m,r⟩=>⟨vs,k,by rw [(G.2 i hi).1]; exact hs _ m,r.grow G⟩
 |.tup xs,⟨vs,m,r⟩=>⟨vs,by rw [(G.2 i hi).1]; exact hs _ m,r.grow G⟩
 |.inst C es,⟨m,ds,k,m',r⟩=>⟨by rw [(G.2 i hi).1,(G.2 i hi).2.1]; exact hs _ m,ds,k,by rw [(G.2 i hi).2.1]; exact hs _ m',r.grow G⟩
 |.dstr es,⟨lo,o,xs,m,d,r⟩=>⟨by rw [(G.2 i hi).1]; exact lo,o,xs,by rw [(G.2 i hi).1]; exact hs _ m,d,r.grow G⟩
 |.dint es,⟨lo,o,xs,m,d,r⟩=>⟨by rw [(G.2 i hi).1]; exact lo,o,xs,by rw [(G.2 i hi).1]; exact hs _ m,d,r.grow G⟩
 |.dtup es,⟨lo,xs,m,d,kt,r⟩=>⟨by rw [(G.2 i hi).1]; exact lo,xs,by rw [(G.2 i hi).1,(G.2 i hi).2.2]; exact hs _ m,d,kt.mono hs,r.grow G⟩
 |.dnil,⟨lo,m⟩=>⟨by rw [(G.2 i hi).1]; exact lo,by rw [(G.2 i hi).1,(G.2 i hi).2.2]; exact hs _ m⟩
theorem getElem?_lt {α:Type} {l:List α} {x:α} (h:l[i]? = some x):i<l.length:=(List.getElem?_eq_some_iff.mp h).1
theorem ORel.own {o:AO} (h:ORel prog w sh n i hl o):∃ ob,(sh.φ i,ob)∈hl:=by
 cases o with
 |list xs=>obtain ⟨vs,k,m,r⟩:=h; exact ⟨_,m⟩
 |tup xs=>obtain ⟨vs,m,r⟩:=h; exact ⟨_,m⟩
 |inst C es=>exact ⟨_,h.1⟩
 |dstr es=>obtain ⟨lo,o,xs,m,r⟩:=h; exact ⟨_,m⟩
 |dint es=>obtain ⟨lo,o,xs,m,r⟩:=h; exact ⟨_,m⟩
 |dtup es=>obtain ⟨lo,xs,m,r⟩:=h; exact ⟨_,m⟩
 |dnil=>exact ⟨_,h.2⟩
variable {H:List AO}
theorem HR.at (h:HR prog w sh H hl) (hi:i<H.length):∃ ob,(sh.φ i,ob)∈hl:=(h.obj i _ (List.getElem?_eq_getElem hi)).own
theorem HR.alloc (h:HR prog w sh H hl) {D:Addr} {ao:AO} (e0:Nat) (hD:∀ q∈hl,q.1≠D) (hni:∀ C es,ao≠.inst C es)
  (hr:∀ sh',sh'.φ H.length=D->sh'.ε H.length=e0->Grow sh H.length sh' (H.length+1)->ORel prog w sh' (H.length+1) H.length ((D,o)::hl) ao):
  ∃ sh',sh'.φ H.length=D/\Grow sh H.length sh' (H.length+1)/\HR prog w sh' (H++[ao]) ((D,o)::hl):=by
 refine ⟨⟨fun i=>if i=H.length then D else sh.φ i,sh.δ,fun i=>if i=H.length then e0 else sh.ε i⟩,by simp,?_,?_⟩
 ·exact ⟨Nat.le_succ _,fun i hi=>⟨if_neg (Nat.ne_of_lt hi),rfl,if_neg (Nat.ne_of_lt hi)⟩⟩
 ·have G:Grow sh H.length ⟨fun i=>if i=H.length then D else sh.φ i,sh.δ,fun i=>if i=H.length then e0 else sh.ε i⟩ (H.length+1):=⟨Nat.le_succ _,fun i hi=>⟨if_neg (Nat.ne_of_lt hi),rfl,if_neg (Nat.ne_of_lt hi)⟩⟩
  refine ⟨fun i x hx=>?_,?_⟩
  ·rw [List.length_append,List.length_singleton]
   by_cases hi:i<H.length
   ·rw [List.getElem?_append_left hi] at hx
    exact (h.obj i x hx).grow G hi fun q hq=>.tail _ hq
   ·have:i=H.length:=by
     have:=getElem?_lt hx
     rw [List.length_append,List.length_singleton] at this; exact om141 this hi
    subst this
    rw [List.getElem?_append_right (Nat.le_refl _),Nat.sub_self,List.getElem?_cons_zero,Option.some.injEq] at hx
    subst hx
    exact hr _ (by simp) (by simp) G
  ·refine ex1_2 (h.ow) fun ow h1 h2=>?_
   refine ⟨fun a=>if a=D then 2 * H.length else ow a,fun i hi=>?_,fun i C es hx=>?_⟩
   ·rw [List.length_append,List.length_singleton] at hi
    by_cases e:i=H.length
    ·subst e; simp
    ·have hi':i<H.length:=om142 hi e
     refine ex1_1 (h.at hi') fun ob hm=>?_
     have e2:sh.φ i≠D:=hD _ hm
     simp only [if_neg e,if_neg e2]; exact h1 i hi'
   ·by_cases hi:i<H.length
    ·rw [List.getElem?_append_left hi] at hx
     obtain ⟨_,ds,k,m',_⟩:=h.obj i _ hx
     show (if sh.δ i=D then _ else _)=_
     rw [if_neg (hD _ m'),h2 i C es hx]
    ·exfalso
     have:i=H.length:=by
      have:=getElem?_lt hx
      rw [List.length_append,List.length_singleton] at this; exact om141 this hi
     subst this
     rw [List.getElem?_append_right (Nat.le_refl _),Nat.sub_self,List.getElem?_cons_zero,Option.some.injEq] at hx
     exact hni _ _ hx
theorem HR.allocI (h:HR prog w sh H hl) {x dx C:Addr} (hx:∀ q∈hl,q.1≠x) (hdx:∀ q∈hl,q.1≠dx) (hne:dx≠x):
  ∃ sh',sh'.φ H.length=x/\Grow sh H.length sh' (H.length+1)/\HR prog w sh' (H++[.inst C []]) ((x,instObj C dx)::(dx,dictOf [] 0)::hl):=by
 refine ⟨⟨fun i=>if i=H.length then x else sh.φ i,fun i=>if i=H.length then dx else sh.δ i,sh.ε⟩,by simp,?_,?_⟩
 ·exact ⟨Nat.le_succ _,fun i hi=>⟨if_neg (Nat.ne_of_lt hi),if_neg (Nat.ne_of_lt hi),rfl⟩⟩
 ·have G:Grow sh H.length ⟨fun i=>if i=H.length then x else sh.φ i,fun i=>if i=H.length then dx else sh.δ i,sh.ε⟩ (H.length+1):=⟨Nat.le_succ _,fun i hi=>⟨if_neg (Nat.ne_of_lt hi),if_neg (Nat.ne_of_lt hi),rfl⟩⟩
  refine ⟨fun i y hy=>?_,?_⟩
  ·rw [List.length_append,List.length_singleton]
   by_cases hi:i<H.length
   ·rw [List.getElem?_append_left hi] at hy
    exact (h.obj i y hy).grow G hi fun q hq=>.tail _ (.tail _ hq)
   ·have:i=H.length:=by
     have:=getElem?_lt hy
     rw [List.length_append,List.length_singleton] at this; exact om141 this hi
    subst this
    rw [List.getElem?_append_right (Nat.le_refl _),Nat.sub_self,List.getElem?_cons_zero,Option.some.injEq] at hy
    subst hy
    refine ⟨by simp,[],0,by simp,by simp,fun x=>by simp [getL]⟩
  ·refine ex1_2 (h.ow) fun ow h1 h2=>?_
   refine ⟨fun a=>if a=x then 2 * H.length else if a=dx then 2 * H.length+1 else ow a,fun i hi=>?_,fun i C es hy=>?_⟩
   ·rw [List.length_append,List.length_singleton] at hi
    by_cases e:i=H.length
    ·subst e; simp
    ·have hi':i<H.length:=om142 hi e
     refine ex1_1 (h.at hi') fun ob hm=>?_
     have e2:sh.φ i≠x:=hx _ hm
     have e3:sh.φ i≠dx:=hdx _ hm
     simp only [if_neg e,if_neg e2,if_neg e3]; exact h1 i hi'
   ·by_cases hi:i<H.length
    ·rw [List.getElem?_append_left hi] at hy
     obtain ⟨_,ds,k,m',_⟩:=h.obj i _ hy
     have e1:i≠H.length:=Nat.ne_of_lt hi
     have e2:sh.δ i≠x:=hx _ m'
     have e3:sh.δ i≠dx:=hdx _ m'
     simp only [if_neg e1,if_neg e2,if_neg e3]; exact h2 i _ es hy
    ·have:i=H.length:=by
      have:=getElem?_lt hy
      rw [List.length_append,List.length_singleton] at this; exact om141 this hi
     subst this
     show (if (if H.length=H.length then dx else _)=x then _ else if (if H.length=H.length then dx else _)=dx then _ else _)=_
     rw [if_pos rfl,if_neg hne,if_pos rfl]
variable {ro ro':Obj}
theorem ORel.repl (hn:(hl.map (·.1)).Nodup) (ha:(a,ro)∈hl) (ht:∀ vs,tupObj vs≠ro) (h1:sh.φ i≠a) {o:AO} (h2:∀ C es,o = .inst C es->sh.δ i≠a) (h:ORel prog w sh n i hl o):ORel prog w sh n i (repl a ro' hl) o:=by
 cases o with
 |list xs=>obtain ⟨vs,k,m,r⟩:=h; exact ⟨vs,k,mem_repl_ne m h1,r⟩
 |tup xs=>obtain ⟨vs,m,r⟩:=h; exact ⟨vs,mem_repl_ne m h1,r⟩
 |inst C es=>obtain ⟨m,ds,k,m',r⟩:=h; exact ⟨mem_repl_ne m h1,ds,k,mem_repl_ne m' (h2 _ _ rfl),r⟩
 |dstr es=>obtain ⟨lo,o,xs,m,r⟩:=h; exact ⟨lo,o,xs,mem_repl_ne m h1,r⟩
 |dint es=>obtain ⟨lo,o,xs,m,r⟩:=h; exact ⟨lo,o,xs,mem_repl_ne m h1,r⟩
 |dtup es=>obtain ⟨lo,xs,m,d,kt,r⟩:=h; exact ⟨lo,xs,mem_repl_ne m h1,d,fun q hq=>Exists.elim (kt q hq) fun vs z=>⟨vs,mem_repl_obj hn ha z.1 (ht vs),z.2⟩,r⟩
 |dnil=>exact ⟨h.1,mem_repl_ne h.2 h1⟩
theorem HR.set (h:HR prog w sh H hl) (hn:(hl.map (·.1)).Nodup) {o o':AO} (hi:H[i]? = some o) (ha:(a,ro)∈hl) (ht:∀ vs,tupObj vs≠ro)
  (hk:(a=sh.φ i/\∀ C es,o'≠.inst C es)\/(a=sh.δ i/\∃ C es es',o = .inst C es/\o' = .inst C es'))
  (hr:ORel prog w sh H.length i (Mine.repl a ro' hl) o'):HR prog w sh (H.set i o') (Mine.repl a ro' hl):=by
 refine ex1_2 (h.ow) fun ow h1 h2=>?_
 have hil:=getElem?_lt hi
 have hne:∀ j y,j≠i->H[j]? = some y->sh.φ j≠a/\∀ C es,y = .inst C es->sh.δ j≠a:=fun j y hj hy=>by
  have e1:=h1 j (getElem?_lt hy)
  have e2:=h1 i hil
  refine ⟨fun e=>?_,fun C es hye e=>?_⟩
  ·rcases hk with ⟨rfl,_⟩|⟨rfl,C,es,es',rfl,_⟩
   ·rw [e] at e1; exact om197 e1 e2 hj
   ·have:=h2 i _ _ hi
    rw [e] at e1; exact om177 this e1
  ·subst hye
   have e3:=h2 j _ _ hy
   rcases hk with ⟨rfl,_⟩|⟨rfl,C,es,es',rfl,_⟩
   ·rw [e] at e3; exact om177 e3 e2
   ·have:=h2 i _ _ hi
    rw [e] at e3; exact om226 e3 this hj
 refine ⟨fun j y hy=>?_,ow,fun j hj=>h1 j (by simpa using hj),fun j C es hy=>?_⟩
 ·rw [List.length_set]
  by_cases e:j=i
  ·subst e
   rw [List.getElem?_set_self hil,Option.some.injEq] at hy
   subst hy; exact hr
  ·rw [List.getElem?_set_ne (Ne.symm e)] at hy
   exact (h.obj j y hy).repl hn ha ht (hne j y e hy).1 (hne j y e hy).2
 ·by_cases e:j=i
  ·subst e
   rw [List.getElem?_set_self hil,Option.some.injEq] at hy
   subst hy
   rcases hk with ⟨_,hk⟩|⟨_,C',es',es2,rfl,e2⟩
   ·exact absurd rfl (hk _ _)
   ·exact h2 j _ _ hi
  ·rw [List.getElem?_set_ne (Ne.symm e)] at hy
   exact h2 j _ _ hy
section
variable {sh:Shp} {n i j:Nat} {a b:AV} {x y:Int} {p q:Str} {vs:List Value} {C:List Value->Prop}
theorem vr1 (h:VRels sh n [a] vs) (k:∀ v,VRel sh n a v->C [v]):C vs:=by
 cases vs with
 |nil=>exact h.elim
 |cons v vs=>cases vs with
  |nil=>exact k v h.1
  |cons u vs=>exact h.2.elim
theorem vr2 (h:VRels sh n [a,b] vs) (k:∀ v u,VRel sh n a v->VRel sh n b u->C [v,u]):C vs:=by
 cases vs with
 |nil=>exact h.elim
 |cons v vs=>exact vr1 (C:=fun l=>C (v::l)) h.2 fun u r=>k v u h.1 r
theorem vrx (h:VRels sh n (a::as) vs):∃ u us,vs=u::us/\VRel sh n a u/\VRels sh n as us:=by
 cases vs with
 |nil=>exact h.elim
 |cons u us=>exact ⟨u,us,rfl,h.1,h.2⟩
theorem vrx0 (h:VRels sh n [] vs):vs = []:=by
 cases vs with
 |nil=>rfl
 |cons u us=>exact h.elim
theorem vrx2 (h:VRels sh n [a,b] vs):∃ u v,vs = [u,v]/\VRel sh n a u/\VRel sh n b v:=vr2 (C:=fun vs=>∃ u v,vs = [u,v]/\VRel sh n a u/\VRel sh n b v) h fun u v p q=>⟨u,v,rfl,p,q⟩
theorem vrx3 {c:AV} (h:VRels sh n [a,b,c] vs):∃ u v t,vs = [u,v,t]/\VRel sh n a u/\VRel sh n b v/\VRel sh n c t:=by
 refine ex2_3 (vrx h) fun u us e p h1=>?_
 refine ex2_3 (vrx2 h1) fun v t e1 q r=>?_
 exact ⟨u,v,t,by rw [e,e1],p,q,r⟩
theorem vr_l (h:VRels sh n [.loc i] vs) (k:i<n->C [.ref (sh.φ i)]):C vs:=vr1 h fun ZZ r=>r.2.symm▸k r.1
theorem vr_i (h:VRels sh n [.int x] vs) (k:∀ t,C [.int x t]):C vs:=vr1 h fun _ q=>Exists.elim q fun t e=>e▸k t
theorem vr_s (h:VRels sh n [.str p] vs) (k:∀ t,C [.str p t]):C vs:=vr1 h fun _ q=>Exists.elim q fun t e=>e▸k t
theorem vr_lb (h:VRels sh n [.loc i,b] vs) (k:∀ u,i<n->VRel sh n b u->C [.ref (sh.φ i),u]):C vs:=vr2 h fun ZZ u r r2=>r.2.symm▸k u r.1 r2
theorem vr_ll (h:VRels sh n [.loc i,.loc j] vs) (k:i<n->j<n->C [.ref (sh.φ i),.ref (sh.φ j)]):C vs:=vr_lb h fun ZZ l r=>r.2.symm▸k l r.1
theorem vr_ls (h:VRels sh n [.loc i,.str p] vs) (k:∀ t,i<n->C [.ref (sh.φ i),.str p t]):C vs:=vr_lb h fun _ l q=>Exists.elim q fun t e=>e▸k t l
theorem vr_ii (h:VRels sh n [.int x,.int y] vs) (k:∀ t u,C [.int x t,.int y u]):C vs:=vr2 h fun _ _ q q'=>Exists.elim q fun t e=>Exists.elim q' fun u e'=>e▸e'▸k t u
theorem vr_ss (h:VRels sh n [.str p,.str q] vs) (k:∀ t u,C [.str p t,.str q u]):C vs:=vr2 h fun _ _ q q'=>Exists.elim q fun t e=>Exists.elim q' fun u e'=>e▸e'▸k t u
end
end
section
structure Mdl where
 prog:Program
 w:World
 K:Frag
 p:Program
 loose:List Str
 mean:ExcName->Option Value
 mg:Str->Option Value
 mb:Str->Option Value
abbrev Names:=List (Str×NameKind)
noncomputable def LR (nms:Names) (cells:List (Str×Addr)) (m:Str->Option Value) (cl:Lg) (sh:Shp) (n:Nat) (ρ:List (Str×AV)):Prop:=
 ∀ x a,ρ.lookup x=some a->∃ v,VRel sh n a v /\
  ((nms.lookup x=some .local/\m x=some v)\/((nms.lookup x=some .cell\/nms.lookup x=some .free)/\∃ c o,cells.lookup x=some c/\(c,o)∈cl/\o.data = .cell (some v)))
variable {nms:Names} {cells:List (Str×Addr)} {m:Str->Option Value} {cl:Lg} {sh:Shp} {n:Nat} {ρ:List (Str×AV)}
theorem LR.grow {sh':Shp} {n':Nat} (G:Grow sh n sh' n') (h:LR nms cells m cl sh n ρ):LR nms cells m cl sh' n' ρ:=
 fun x a e=>let ⟨v,r,k⟩:=h x a e; ⟨v,r.grow G,k⟩
noncomputable def CR (cells:List (Str×Addr)) (cl:Lg):Prop:=∀ x c,cells.lookup x=some c->∃ o v₀,(c,o)∈cl/\o.data = .cell v₀
noncomputable def Rel (D:Mdl) (nms:Names) (cells:List (Str×Addr)) (g:Heap) (L:Addr) (rest:Lg) (sh:Shp) (ρ:List (Str×AV)) (H:List AO) (h:Heap):Prop:=
 ∃ m hl cl,Fr g L h m/\News g L h (hl++(cl++rest))/\((hl++(cl++rest)).map (·.1)).Nodup/\HR D.prog D.w sh H hl/\LR nms cells m cl sh H.length ρ/\CR cells cl
variable {g h:Heap} {L:Addr} {rest:Lg} {H:List AO} {P:Prop}
theorem Rel.elim {D:Mdl} (R:Rel D nms cells g L rest sh ρ H h)
  (k:∀ m hl cl,Fr g L h m->News g L h (hl++(cl++rest))->((hl++(cl++rest)).map (·.1)).Nodup->HR D.prog D.w sh H hl->LR nms cells m cl sh H.length ρ->CR cells cl->P):P:=by
 obtain ⟨m,hl,cl,F,N,nd,HH,lr,cr⟩:=R
 exact k m hl cl F N nd HH lr cr
structure Site (D:Mdl) (nms:Names) (lv:Nat) (env:Env) (A:Around) (g:Heap) (L:Addr):Prop where
 loc:env.locals=L
 kind:env.scope.kind = .function
 glob:env.globals=mainGlobals
 names:env.scope.names=nms
 hh:A.handled=none
 dep:A.depth<=700 - 10 * lv+5
 uni:A.units<=7000 - 100 * lv+50
 lvl:lv<=60
 X:D.K.In g
 T:Top D.p D.loose D.mean D.mg D.mb g
 ccell:∀ x,nms.lookup x=some .cell->∃ c,env.cells.lookup x=some c
 cinj:∀ x y c,env.cells.lookup x=some c->env.cells.lookup y=some c->x=y
 blt:env.builtins=builtinsNs
 call:∀ (s:Shared) m news,Fr g L s.heap m->News g L s.heap news->∃ base fs,A.frames=some fs/\Below A base fs (hideAll s.heap (news.map (·.1)))
abbrev Fn (β:Type):=List (Str×AV)->List AO->Option (β×List AO)
noncomputable def SimT (D:Mdl) (nms:Names) (env:Env) (A:Around) (g:Heap) (L:Addr) {α β:Type} (t:Sem α) (f:Fn β) (R:Shp->Nat->β->α->Prop):Prop:=
 ∀ rest sh ρ H s b H',Rel D nms env.cells g L rest sh ρ H s.heap->f ρ H=some (b,H')->∀ (Q:α->Shared->Prop) (E:Value->Shared->Prop),
  (∀ sh' h' tk a,Rel D nms env.cells g L rest sh' ρ H' h'->Grow sh H.length sh' H'.length->R sh' H'.length b a->Q a { s with heap:=h',toks:=tk }) ->
  wpAny (model D.prog D.w) A t Q E s
noncomputable def SimE (D:Mdl) (nms:Names) (lv:Nat) (e:PySem.Expr) (f:Fn AV):Prop:=∀ env A g L,Site D nms lv env A g L->SimT D nms env A g L (eval e env) f VRel
noncomputable def SimEs (D:Mdl) (nms:Names) (lv:Nat) (es:List PySem.Expr) (f:Fn (List AV)):Prop:=∀ env A g L pos,Site D nms lv env A g L->SimT D nms env A g L (spliced (backTo pos (starEach es env))) f VRels
noncomputable def SimB (D:Mdl) (nms:Names) (lv:Nat) (e:PySem.Expr) (f:Fn Bool):Prop:=∀ env A g L,Site D nms lv env A g L->SimT D nms env A g L (isTrue e env (eval e env)) f (fun ZZ ZZ b c=>c=b)
inductive AF' where
 |next|brk|cont|ret (a:AV)
noncomputable def FlRel (sh:Shp) (n:Nat):AF'->Flow->Prop
 |.next,f=>f = .next
 |.brk,f=>f = .brk
 |.cont,f=>f = .cont
 |.ret a,f=>∃ v,f = .ret v/\VRel sh n a v
abbrev FnS:=St->Option (AF'×St)
noncomputable def SimTS (D:Mdl) (nms:Names) (env:Env) (A:Around) (g:Heap) (L:Addr) (t:Sem Flow) (f:FnS):Prop:=
 ∀ rest sh σ s b σ',Rel D nms env.cells g L rest sh σ.ρ σ.H s.heap->f σ=some (b,σ')->∀ (Q:Flow->Shared->Prop) (E:Value->Shared->Prop),
  (∀ sh' h' tk a,Rel D nms env.cells g L rest sh' σ'.ρ σ'.H h'->Grow sh σ.H.length sh' σ'.H.length->FlRel sh' σ'.H.length b a->Q a { s with heap:=h',toks:=tk }) ->
  wpAny (model D.prog D.w) A t Q E s
noncomputable def SimS (D:Mdl) (nms:Names) (lv:Nat) (b:List Stmt) (f:FnS):Prop:=∀ env A g L,Site D nms lv env A g L->SimTS D nms env A g L (execs b env) f
noncomputable def SimS1 (D:Mdl) (nms:Names) (lv:Nat) (st:Stmt) (f:FnS):Prop:=∀ env A g L,Site D nms lv env A g L->SimTS D nms env A g L (exec st env) f
noncomputable def bnd {β S γ S':Type} (x:Option (β×S)) (k:β->S->Option (γ×S')):Option (γ×S'):=match x with
 |none=>none
 |some (b,σ)=>k b σ
variable {β S γ S':Type}
theorem bnd_some {x:Option (β×S)} {k:β->S->Option (γ×S')} {r:γ×S'} (h:bnd x k=some r):∃ b σ,x=some (b,σ)/\k b σ=some r:=by
 cases x with
 |none=>exact ns h
 |some p=>exact ⟨p.1,p.2,rfl,h⟩
theorem bnd_elim {x:Option (β×S)} {k:β->S->Option (γ×S')} {r:γ×S'} (h:bnd x k=some r) (f:∀ b σ,x=some (b,σ)->k b σ=some r->P):P:=let ⟨b,σ,e1,e2⟩:=bnd_some h; f b σ e1 e2
theorem bnd_mk {β S γ S':Type} {b:β} {σ:S} {k:β->S->Option (γ×S')}:bnd (some (b,σ)) k=k b σ:=rfl
section
variable {D:Mdl} {nms:Names} {lv:Nat}
noncomputable def rdL (x:Str):Fn AV:=fun ρ H=>match ρ.lookup x with|some a=>some (a,H)|none=>none
noncomputable def cst (a:AV):Fn AV:=fun ZZ H=>some (a,H)
variable {A:Around} {E:Value->Shared->Prop} {s:Shared} {env:Env} {x:Str} {pos:Pos} {v:Value}
theorem name_builtin {M:Model} {K:Frag} {h₀:Heap} {mg mb:Str->Option Value} {p:Program} {loose:List Str} {Q:Value->Shared->Prop}
  (F:Fr h₀ L s.heap m) (X:K.In h₀) (T:TopRead p loose mg mb h₀) (e:nsIn K mainGlobals x=some none) (hv:bootBuiltins x=some v) (hn:x≠"__name__") (h:Q v s)
  (hg:env.globals=mainGlobals) (hk:env.scope.kind = .function) (hx:env.kindOf x=some .globalImplicit) (hd:(x == ("__debug__":Str))=false) (hb:env.builtins=builtinsNs):
  wpAny M A (eval (.Name x pos) env) Q E s:=
 Name_function_global hk hx (loadGlobal_builtin (env:=env) (by rw [hg]; exact T.g.keeps F.keep) (mg_none_of X T.g e) (by rw [hb]; exact T.b.keeps F.keep) ((T.builtins x hn).trans hv) h) hd
theorem Site.kindOf (S:Site D nms lv env A g L):env.kindOf x=nms.lookup x:=by
 show env.scope.names.lookup x=_
 rw [S.names]
set_option tactic.hygienic true in
theorem SimE.loc (hx:nms.lookup x=some .local\/nms.lookup x=some .cell\/nms.lookup x=some .free) (hd:(x == ("__debug__":Str))=false) (hc:(x == ("__classdict__":Str))=false):
  SimE D nms lv (.Name x pos) (rdL x):=by
 intro env A g L S rest sh ρ H s b H' R e Q E k
 unfold rdL at e
 split at e
 ·rename_i a ha
  cases e
  refine Rel.elim R fun m hl cl F N nd HH lr cr=>?_
  refine ex1_2 (lr x b ha) fun v rv hv=>?_
  have q:Q v s:=k sh s.heap s.toks v R .refl rv
  rcases hv with ⟨h1,h2⟩|⟨h1,c,o,h2,h3,h4⟩
  ·exact ldG (S.loc▸F.ns) h2 q S.kind (S.names▸h1) hd
  ·have hcell:s.heap.IsCell c (some v):=⟨o,(N _ (List.mem_append_right _ (List.mem_append_left _ h3))).1,h4⟩
   rcases h1 with h1|h1
   ·exact wpAny_Name (wpAny_loadName_cell S.kind (S.kindOf.trans h1) h2 hcell q) hd
   ·exact wpAny_Name (wpAny_loadName_free S.kind (S.kindOf.trans h1) h2 hcell q hc) hd
 ·exact ns e
variable {a:AV}
theorem SimE.top (hx:nms.lookup x=some .globalImplicit) (hd:(x == ("__debug__":Str))=false) (hg:nsIn D.K mainGlobals x=some (some v)) (ha:∀ sh n,VRel sh n a v):
  SimE D nms lv (.Name x pos) (cst a):=by
 intro env A g L S rest sh ρ H s b H' R e Q E k
 cases e
 refine Rel.elim R fun m hl cl F N nd HH lr cr=>?_
 exact nameG_K F S.X (topRead_of S.T) hg (k sh s.heap s.toks v R .refl (ha _ _)) S.glob S.kind (S.kindOf.trans hx) hd
theorem SimE.blt (hx:nms.lookup x=some .globalImplicit) (hd:(x == ("__debug__":Str))=false) (hn:x≠"__name__") (hg:nsIn D.K mainGlobals x=some none) (hv:bootBuiltins x=some v):
  SimE D nms lv (.Name x pos) (cst (.glob v)):=by
 intro env A g L S rest sh ρ H s b H' R e Q E k
 cases e
 refine Rel.elim R fun m hl cl F N nd HH lr cr=>?_
 exact name_builtin F S.X (topRead_of S.T) hg hv hn (k sh s.heap s.toks v R .refl rfl) S.glob S.kind (S.kindOf.trans hx) hd S.blt
variable {k:Nat}
theorem SimE.str:SimE D nms lv (.Constant (.str x) k pos) (cst (.str x)):=by
 intro env A g L S rest sh ρ H s b H' R e Q E k
 cases e
 exact Constant_str (k sh s.heap _ _ R .refl ⟨_,rfl⟩)
theorem SimE.int {i:Int}:SimE D nms lv (.Constant (.int i) k pos) (cst (.int i)):=by
 intro env A g L S rest sh ρ H s b H' R e Q E k
 cases e
 exact wpAny_Constant_int (k sh s.heap _ _ R .refl ⟨_,rfl⟩)
theorem SimE.none:SimE D nms lv (.Constant .none k pos) (cst .none):=by
 intro env A g L S rest sh ρ H s b H' R e Q E k
 cases e
 exact wpAny_Constant_none (k sh s.heap s.toks _ R .refl rfl)
theorem SimE.bool {c:Bool}:SimE D nms lv (.Constant (.bool c) k pos) (cst (.bool c)):=by
 intro env A g L S rest sh ρ H s b H' R e Q E k
 cases e
 exact wpAny_Constant_bool (k sh s.heap s.toks _ R .refl rfl)
noncomputable def GetOk (K:Frag) (G:Addr->Str->Bool):Prop:=∀ C x,G C x=true->plainGet K C x=true/\hasDictIn K C=true/\∃ attr,findIn K (.ref C) x=some attr/\noGet K attr=true
noncomputable def attrA (x:Str) (a:AV) (H:List AO):Option AV:=match a with
 |.loc i=>match H[i]? with
  |some (.inst C es)=>es.lookup x
  |_=>Option.none
 |_=>Option.none
noncomputable def clsA (a:AV) (H:List AO):Option Addr:=match a with
 |.loc i=>match H[i]? with
  |some (.inst C es)=>some C
  |_=>Option.none
 |_=>Option.none
noncomputable def noGlob:AV->Bool|.glob _=>false|_=>true
noncomputable def getA (G:Addr->Str->Bool) (x:Str) (a:AV) (H:List AO):Option (AV×List AO):=match clsA a H with
 |some C=>if G C x=true then match attrA x a H with
  |some v=>if noGlob v=true then some (v,H) else Option.none
  |Option.none=>Option.none
  else Option.none
 |Option.none=>Option.none
theorem handed_of (h:noGlob a=true) (r:VRel sh n a v):handedIn v=true:=by
 cases a with
 |none=>cases r; rfl
 |bool b=>cases r; rfl
 |int i=>obtain ⟨t,rfl⟩:=r; rfl
 |str i=>obtain ⟨t,rfl⟩:=r; rfl
 |loc i=>obtain ⟨_,rfl⟩:=r; rfl
 |glob v=>exact ft h
variable {v:AV}
theorem attr_shape (h:attrA x a H=some v):∃ i C es,a = .loc i/\H[i]? = some (.inst C es)/\es.lookup x=some v:=by
 unfold attrA at h
 split at h
 ·split at h
  ·exact ⟨_,_,_,rfl,‹_›,h⟩
  ·exact ns h
 ·exact ns h
variable {C:Addr}
theorem cls_shape (h:clsA a H=some C):∃ i es,a = .loc i/\H[i]? = some (.inst C es):=by
 unfold clsA at h
 split at h
 ·split at h
  ·obtain rfl:=so h; exact ⟨_,_,rfl,‹_›⟩
  ·exact ns h
 ·exact ns h
variable {G:Addr->Str->Bool}
set_option tactic.hygienic true in
theorem getA_shape {H':List AO} (h:getA G x a H=some (v,H')):H'=H/\noGlob v=true/\∃ i C es,a = .loc i/\H[i]? = some (.inst C es)/\es.lookup x=some v/\G C x=true:=by
 unfold getA at h
 split at h
 ·rename_i C hC
  split at h
  ·split at h
   ·split at h
    ·obtain ⟨rfl,rfl⟩:=sp h
     refine ex3_3 (attr_shape ‹_›) fun i C' es zz3 h1 h2=>?_; subst zz3
     refine ex2_2 (cls_shape hC) fun i' es' e h3=>?_
     obtain rfl:=AV.loc.inj e
     rw [h1] at h3; obtain ⟨rfl,rfl⟩:=AO.inst.inj (so h3)
     exact ⟨rfl,‹_›,_,_,_,rfl,h1,h2,‹_›⟩
    ·exact ns h
   ·exact ns h
  ·exact ns h
 ·exact ns h
variable {es:List (Str×AV)}
theorem inst_at {prog:Program} {w:World} {hl:Lg} (h:HR prog w sh H hl) {i:Nat} (hi:H[i]? = some (.inst C es)):
  (sh.φ i,instObj C (sh.δ i))∈hl/\∃ ds k,(sh.δ i,dictOf ds k)∈hl/\AttrRel sh H.length es ds:=h.obj i _ hi
theorem AttrRel.get {ds:List DictEntry} (h:AttrRel sh n es ds) (e:es.lookup x=some a):∃ v,getL x ds=some (some v)/\VRel sh n a v:=by
 have:=h.2 x
 rw [e] at this; exact this
variable {e:PySem.Expr} {f:Fn AV}
theorem SimE.attr (hG:GetOk D.K G) (h:SimE D nms lv e f)
  (he:∀ env,eval (.Attribute e x pos) env=(do let o <- eval e env; standAt pos.atName; let r <- holding [o] (getAttr o x true); letTemporaryGo e o r; pure r):=by intro _; rfl):
  SimE D nms lv (.Attribute e x pos) (fun ρ H=>bnd (f ρ H) (getA G x)):=by
 intro env A g L S rest sh ρ H s b H' R e Q E k
 refine bnd_elim e fun a H₁ e1 e2=>?_
 refine Attribute_any_ (h env A g L S rest sh ρ H s a H₁ R e1 _ _ fun sh1 h1 tk1 v R1 G1 r1=>?_) (he env)
 obtain ⟨rfl,hng,i,C,es,rfl,hi,hx,hg⟩:=getA_shape e2
 refine Rel.elim R1 fun m hl cl F N nd HH lr cr=>?_
 obtain ⟨hlt,rfl⟩:=r1
 obtain ⟨m1,ds,kk,m2,ar⟩:=inst_at HH hi
 refine ex1_2 (ar.get hx) fun v hv rv=>?_
 obtain ⟨g1,g2,at_,g3,g4⟩:=hG C x hg
 exact get_own F S.X (InstAt.of_news N (List.mem_append_left _ m1) (List.mem_append_left _ m2)) g1 g2 g3 g4 hv (handed_of hng rv) (k sh1 h1 _ v R1 G1 rv)
noncomputable def notStar:PySem.Expr->Bool|.Starred _ _=>false|_=>true
theorem starEach_cons {rest:List PySem.Expr} (h:notStar e=true):starEach (e::rest) env=(false,eval e env)::starEach rest env:=by
 cases e <;> first|rfl|exact ft h
theorem noStars {env:Env} {pos:Pos}:∀ {es:List PySem.Expr},es.all notStar=true->((backTo pos (starEach es env)).any fun x=>x.fst)=false
 |[],_=>rfl
 |e::r,h=>by
  rw [List.all_cons,Bool.and_eq_true] at h
  rw [starEach_cons h.1]
  have:=noStars (env:=env) (pos:=pos) h.2
  simpa [backTo] using this
noncomputable def esNil:Fn (List AV):=fun ZZ H=>some ([],H)
noncomputable def esCons (f:Fn AV) (g:Fn (List AV)):Fn (List AV):=fun ρ H=>bnd (f ρ H) fun a H=>bnd (g ρ H) fun as H=>some (a::as,H)
theorem SimEs.nil:SimEs D nms lv [] esNil:=by
 intro env A g L pos S rest sh ρ H s b H' R e Q E k
 cases e
 exact args_nil (k sh s.heap s.toks [] R .refl trivial)
theorem SimEs.cons {es:List PySem.Expr} {fs:Fn (List AV)} (h:SimE D nms lv e f) (hs:SimEs D nms lv es fs) (hn:notStar e=true):SimEs D nms lv (e::es) (esCons f fs):=by
 intro env A g L pos S rest sh ρ H s b H' R e Q E k
 refine bnd_elim e fun a H₁ e1 e2=>?_
 refine bnd_elim e2 fun as H₂ e3 e4=>?_
 cases e4
 refine args_cons (h env A g L S rest sh ρ H s a H₁ R e1 _ _ fun sh1 h1 tk1 v R1 G1 r1=>?_) (starEach_cons hn)
 exact hs env A g L pos S rest sh1 ρ H₁ _ as H' R1 e3 _ _ fun sh2 h2 tk2 vs R2 G2 r2=>k sh2 h2 tk2 _ R2 (G1.trans G2) ⟨r1.grow G2,r2⟩
noncomputable def sSkip:FnS:=fun σ=>some (.next,σ)
noncomputable def sSeq (f g:FnS):FnS:=fun σ=>bnd (f σ) fun fl σ=>match fl with|.next=>g σ|fl=>some (fl,σ)
noncomputable def sIf (c:Fn Bool) (f g:FnS):FnS:=fun σ=>bnd (c σ.ρ σ.H) fun b H=>if b=true then f ⟨σ.ρ,H⟩ else g ⟨σ.ρ,H⟩
noncomputable def sRet (f:Fn AV):FnS:=fun σ=>bnd (f σ.ρ σ.H) fun a H=>some (.ret a,⟨σ.ρ,H⟩)
noncomputable def sExpr (f:Fn AV):FnS:=fun σ=>bnd (f σ.ρ σ.H) fun ZZ H=>some (.next,⟨σ.ρ,H⟩)
noncomputable def sAsg (x:Str) (f:Fn AV):FnS:=fun σ=>bnd (f σ.ρ σ.H) fun a H=>some (.next,⟨(x,a)::σ.ρ,H⟩)
theorem SimS.nil:SimS D nms lv [] sSkip:=by
 intro env A g L S rest sh σ s b σ' R e Q E k
 cases e
 exact wpAny_execs_nil (k sh s.heap s.toks _ R .refl rfl)
variable {f:FnS}
theorem SimS.cons {st:Stmt} {r:List Stmt} {fr:FnS} (h:SimS1 D nms lv st f) (hr:SimS D nms lv r fr):SimS D nms lv (st::r) (sSeq f fr):=by
 intro env A g L S rest sh σ s b σ' R e Q E k
 refine ex2_2 (bnd_some e) fun fl σ₁ e1 e2=>?_
 refine wpAny_execs_cons (h env A g L S rest sh σ s fl σ₁ R e1 _ _ fun sh1 h1 tk1 v R1 G1 r1=>?_)
 cases fl with
 |next=>cases r1; exact hr env A g L S rest sh1 σ₁ _ b σ' R1 e2 _ _ fun sh2 h2 tk2 vs R2 G2 r2=>k sh2 h2 tk2 _ R2 (G1.trans G2) r2
 |brk=>cases r1; cases e2; exact k sh1 h1 tk1 _ R1 G1 rfl
 |cont=>cases r1; cases e2; exact k sh1 h1 tk1 _ R1 G1 rfl
 |ret a=>obtain ⟨v,rfl,rv⟩:=r1; cases e2; exact k sh1 h1 tk1 _ R1 G1 ⟨v,rfl,rv⟩
theorem SimS1.if {t:PySem.Expr} {b o:List Stmt} {c:Fn Bool} {g:FnS} (hc:SimB D nms lv t c) (hb:SimS D nms lv b f) (ho:SimS D nms lv o g):SimS1 D nms lv (.If t b o pos) (sIf c f g):=by
 intro env A gg L S rest sh σ s r σ' R e Q E k
 refine bnd_elim e fun c1 H₁ e1 e2=>?_
 refine wpAny_If (hc env A gg L S rest sh σ.ρ σ.H s c1 H₁ R e1 _ _ fun sh1 h1 tk1 v R1 G1 r1=>?_)
 subst r1
 cases v with
 |true=>simp only [if_true] at e2 ⊢; exact hb env A gg L S rest sh1 ⟨σ.ρ,H₁⟩ _ r σ' R1 e2 _ _ fun sh2 h2 tk2 vs R2 G2 r2=>k sh2 h2 tk2 _ R2 (G1.trans G2) r2
 |false=>simp only [Bool.false_eq_true,if_false] at e2 ⊢; exact ho env A gg L S rest sh1 ⟨σ.ρ,H₁⟩ _ r σ' R1 e2 _ _ fun sh2 h2 tk2 vs R2 G2 r2=>k sh2 h2 tk2 _ R2 (G1.trans G2) r2
variable {f:Fn AV}
theorem SimS1.ret (h:SimE D nms lv e f):SimS1 D nms lv (.Return (some e) pos) (sRet f):=by
 intro env A g L S rest sh σ s b σ' R e Q E k
 refine bnd_elim e fun a H₁ e1 e2=>?_
 obtain ⟨rfl,rfl⟩:=sp e2
 exact wpAny_Return_some (h env A g L S rest sh σ.ρ σ.H s a H₁ R e1 _ _ fun sh1 h1 tk1 v R1 G1 r1=>k sh1 h1 tk1 _ R1 G1 ⟨v,rfl,r1⟩)
theorem SimS1.cont:SimS1 D nms lv (.Continue pos) (fun σ=>some (.cont,σ)):=by
 intro env A g L S rest sh σ s b σ' R e Q E k
 cases e
 exact wpAny_Continue (k sh s.heap s.toks _ R .refl rfl)
theorem SimS1.expr (h:SimE D nms lv e f) (h2:∀ env,swapsWith e Option.none pos.line env=pure false:=by intro _; rfl):SimS1 D nms lv (.Expr e pos) (sExpr f):=by
 intro env A g L S rest sh σ s b σ' R e Q E k
 refine bnd_elim e fun a H₁ e1 e2=>?_
 obtain ⟨rfl,rfl⟩:=sp e2
 exact wpAny_Expr_any (h env A g L S rest sh σ.ρ σ.H s a H₁ R e1 _ _ fun sh1 h1 tk1 v R1 G1 r1=>k sh1 h1 tk1 _ R1 G1 rfl) (by unfold interactive; rw [S.kind]; rfl) (h2 env)
variable {v:Value}
theorem lr_set (h:LR nms cells m cl sh n ρ) (hx:nms.lookup x=some .local) (r:VRel sh n a v):
  LR nms cells (fun y=>if y=x then some v else m y) cl sh n ((x,a)::ρ):=fun y b e=>by
 by_cases q:y=x
 ·subst q
  rw [List.lookup_cons_self] at e
  obtain rfl:=so e
  exact ⟨v,r,.inl ⟨hx,if_pos rfl⟩⟩
 ·have e':ρ.lookup y=some b:=by
   rw [List.lookup_cons] at e
   have:(y == x)=false:=by simpa using q
   rw [this] at e; exact e
  refine ex1_2 (h y b e') fun u ru hu=>?_
  exact ⟨u,ru,hu.imp (fun z=>⟨z.1,(if_neg q).trans z.2⟩) id⟩
variable {c:Addr} {o o':Obj}
theorem lr_setC (h:LR nms cells m cl sh n ρ) (hx:nms.lookup x=some .cell) (hc:cells.lookup x=some c) (hm:(c,o)∈cl) (ho:o'.data = .cell (some v))
  (inj:∀ x y c,cells.lookup x=some c->cells.lookup y=some c->x=y) (r:VRel sh n a v):
  LR nms cells m (repl c o' cl) sh n ((x,a)::ρ):=fun y b e=>by
 by_cases q:y=x
 ·subst q
  rw [List.lookup_cons_self] at e
  obtain rfl:=so e
  exact ⟨v,r,.inr ⟨.inl hx,c,o',hc,mem_repl_eq hm,ho⟩⟩
 ·have e':ρ.lookup y=some b:=by
   rw [List.lookup_cons] at e
   have:(y == x)=false:=by simpa using q
   rw [this] at e; exact e
  refine ex1_2 (h y b e') fun u ru hu=>?_
  refine ⟨u,ru,hu.imp id fun ⟨z,c',ob,z1,z2,z3⟩=>⟨z,c',ob,z1,mem_repl_ne z2 fun ec=>q ?_,z3⟩⟩
  subst ec
  exact inj _ _ _ z1 hc
theorem cr_set (h:CR cells cl) (ho:o'.data = .cell (some v)):CR cells (repl c o' cl):=fun x d e=>by
 refine ex2_2 (h x d e) fun o v₀ hm hd=>?_
 by_cases q:d=c
 ·subst q; exact ⟨o',_,mem_repl_eq hm,ho⟩
 ·exact ⟨o,v₀,mem_repl_ne hm q,hd⟩
theorem news_repl {h':Heap} {news:Lg} {a:Addr} (N:News g L h news) (hn:(news.map (·.1)).Nodup) (hm:(a,o)∈news) (hs:∀ b ob,b≠a->h.get? b=some ob->h'.get? b=some ob) (ho:h'.get? a=some o'):News g L h' (repl a o' news):=fun q hq=>by
 refine ex1_2 (List.mem_map.mp hq) fun p hp zz2=>?_; subst zz2
 by_cases e:p.1=a
 ·rw [if_pos e]
  refine ⟨ho,?_⟩
  have:=(N p hp).2
  rw [e] at this; exact this
 ·rw [if_neg e]
  exact ⟨hs _ _ e (N p hp).1,(N p hp).2⟩
theorem store_name (S:Site D nms lv env A g L) {Q:Unit->Shared->Prop}
  (R:Rel D nms env.cells g L rest sh ρ H s.heap) (hx:nms.lookup x=some .local\/nms.lookup x=some .cell) (r:VRel sh H.length a v)
  (k:∀ h' tk,Rel D nms env.cells g L rest sh ((x,a)::ρ) H h'->Q () { s with heap:=h',toks:=tk }):wpAny (model D.prog D.w) A (storeName env x v) Q E s:=by
 refine Rel.elim R fun m hl cl F N nd HH lr cr=>?_
 rcases hx with hx|hx
 ·refine wpAny_storeName_local (S.kindOf.trans hx) (S.loc▸F.ns) (fun h' hn hs=>?_) (by rw [S.kind]; rfl)
  rw [S.loc] at hn hs
  exact k h' _ ⟨_,hl,cl,F.set hn hs,N.set hs,nd,HH,lr_set lr hx r,cr⟩
 ·refine ex1_1 (S.ccell x hx) fun c hcc=>?_
  refine ex2_2 (cr x c hcc) fun o v₀ hm hd=>?_
  have hmem:=N (c,o) (List.mem_append_right _ (List.mem_append_left _ hm))
  refine wpAny_storeName_cell S.kind (S.kindOf.trans hx) hcc ⟨o,hmem.1,hd⟩ fun h' hv hs=>?_
  obtain ⟨o',ho',hd'⟩:=hv
  have ndc:c∉hl.map (·.1)/\c∉rest.map (·.1):=by
   simp only [List.map_append] at nd
   have h1:=List.nodup_append.mp nd
   have h2:=List.nodup_append.mp h1.2.1
   exact ⟨fun q=>h1.2.2 c q c (List.mem_append_left _ (List.mem_map_of_mem (f:=(·.1)) hm)) rfl,fun q=>h2.2.2 c (List.mem_map_of_mem (f:=(·.1)) hm) c q rfl⟩
  have N':=news_repl N nd (List.mem_append_right _ (List.mem_append_left _ hm)) (fun b ob e z=>(hs.2 b e).trans z) ho'
  rw [repl_append,repl_append,repl_none ndc.1,repl_none ndc.2] at N'
  refine k h' s.toks ⟨m,hl,repl c o' cl,⟨F.ns.sameBut hs (Ne.symm hmem.2.1),fun b ob e=>(hs.2 b fun q=>?_).trans (F.keep b ob e),F.above⟩,N',?_,HH,lr_setC lr hx hcc hm hd' S.cinj r,cr_set cr hd'⟩
  ·rw [q,hmem.2.2] at e; exact ns e
  ·rw [List.map_append,List.map_append,repl_keys,<- List.map_append,<- List.map_append]; exact nd
theorem SimS1.asg {p':Pos} (h:SimE D nms lv e f) (hx:nms.lookup x=some .local\/nms.lookup x=some .cell)
  (h2:∀ env:Env,env.scope.names=nms->env.scope.kind = .function->swapsWith e (some (.Name x p')) pos.line env=pure false:=by intros; rfl):SimS1 D nms lv (.Assign [.Name x p'] e pos) (sAsg x f):=by
 intro env A g L S rest sh σ s b σ' R e Q E k
 refine bnd_elim e fun a H₁ e1 e2=>?_
 obtain ⟨rfl,rfl⟩:=sp e2
 refine wpAny_Assign_Name (h env A g L S rest sh σ.ρ σ.H s a H₁ R e1 _ _ fun sh1 h1 tk1 v R1 G1 r1=>?_) (h2 env S.names S.kind)
 exact store_name S R1 hx r1 fun h2 tk2 R2=>k sh1 h2 tk2 _ R2 G1 rfl
end
end
section
variable {D:Mdl}
abbrev FnC:=List AV->List AO->Option (AV×List AO)
noncomputable def Con (D:Mdl) (n:Nat) (f:Addr) (F:FnC):Prop:=∀ sh H hl as vs r H',HR D.prog D.w sh H hl->(hl.map (·.1)).Nodup->VRels sh H.length as vs->F as H=some (r,H') ->
 Spec D.prog D.w D.K D.p D.loose D.mean D.mg D.mb n f vs hl (hl.map (·.1)) (fun ZZ v ZZ l'=>∃ sh',HR D.prog D.w sh' H' l'/\(l'.map (·.1)).Nodup/\Grow sh H.length sh' H'.length/\VRel sh' H'.length r v)
noncomputable def SimC (D:Mdl) (lv:Nat) (fv:Value) (F:FnC):Prop:=∀ nms env A g L,Site D nms lv env A g L->∀ rest sh ρ H s as vs r H',Rel D nms env.cells g L rest sh ρ H s.heap->VRels sh H.length as vs->F as H=some (r,H') ->
 ∀ (Q:Value->Shared->Prop) (E:Value->Shared->Prop),(∀ sh' h' tk v,Rel D nms env.cells g L rest sh' ρ H' h'->Grow sh H.length sh' H'.length->VRel sh' H'.length r v->Q v { s with heap:=h',toks:=tk }) ->
  wpAny (model D.prog D.w) A (call fv vs) Q E s
variable {n lv:Nat} {f:Addr} {F:FnC} {env:Env} {sh:Shp} {as:List AV} {vs:List Value} {a:AV}
theorem con_code (C:Con D n f F) {nms:Names} {A A':Around} {g:Heap} {L:Addr} (S:Site D nms lv env A g L) (hA:A'.frames=A.frames) (r:Room A' n) {rest:Lg} {ρ:List (Str×AV)} {H:List AO} {s:Shared} {H':List AO}
  (R:Rel D nms env.cells g L rest sh ρ H s.heap) (rv:VRels sh H.length as vs) (e:F as H=some (a,H')) {Q:Result->Shared->Prop}
  (k:∀ sh' h' tk v,Rel D nms env.cells g L rest sh' ρ H' h'->Grow sh H.length sh' H'.length->VRel sh' H'.length a v->Q (.ok (.ret v)) { s with heap:=h',toks:=tk }):
  codeAny (model D.prog D.w) A' (.call (.ref f) ⟨vs,[]⟩) Q s:=by
 refine Rel.elim R fun m hl cl F' N nd HH lr cr=>?_
 refine ex2_2 (S.call s m _ F' N) fun base fs hfs BG=>?_
 have gn:∀ b o,g.get? b=some o->b∉(hl++(cl++rest)).map (·.1):=fun b o e q=>by
  refine ex1_2 (List.mem_map.mp q) fun y hy zz2=>?_; subst zz2
  rw [(N y hy).2.2] at e; exact ns e
 have st:∀ b o,g.get? b=some o->(hideAll s.heap ((hl++(cl++rest)).map (·.1))).get? b=some o:=fun b o e=>hideAll_get _ (F'.keep b o e) (gn b o e)
 have BG':Below (Mine.AF n fs) base fs (hideAll s.heap ((hl++(cl++rest)).map (·.1))):=⟨rfl,BG.stays,BG.frames⟩
 have ndA:=nd
 rw [List.map_append] at ndA
 have nd1:=List.nodup_append.mp ndA
 refine codeAny_room r (hA.trans hfs) (C sh H hl as vs a H' HH nd1.1 rv e fs base _ s _ BG' (S.X.keeps st) (S.T.keeps st) (fun b o e=>of_hideAll _ e)
  (fun q hq=>⟨(N q (List.mem_append_left _ hq)).1,hideAll_none _ (List.mem_map_of_mem (List.mem_append_left _ hq))⟩) fun v l' h' tk hk hl' hf' hP=>?_)
 refine ex1_4 hP fun sh' H1 n1 G1 r1=>?_; try clear hP
 have inM:∀ b∈hl.map (·.1),g.get? b=none/\b≠L:=fun b hb=>by
  refine ex1_2 (List.mem_map.mp hb) fun q hq zz2=>?_; subst zz2
  exact ⟨(N q (List.mem_append_left _ hq)).2.2,(N q (List.mem_append_left _ hq)).2.1⟩
 obtain ⟨oL,es,ep,hL,hLd⟩:=F'.ns
 refine k sh' h' tk v ⟨m,l',cl,⟨⟨oL,es,ep,hk L oL hL fun q=>(inM L q).2 rfl,hLd⟩,fun b o e=>hk b o (F'.keep b o e) fun q=>(by rw [(inM b q).1] at e; exact ns e),F'.above⟩,fun q hq=>?_,?_,H1,lr.grow G1,cr⟩ G1 r1
 ·rcases List.mem_append.mp hq with hq|hq
  ·refine ⟨(hl' q hq).1,fun e=>?_,?_⟩
   ·rcases hf' q hq with z|z
    ·refine ex1_2 (List.mem_map.mp z) fun y hy ey=>?_
     exact (N y (List.mem_append_left _ hy)).2.1 (ey.trans e)
    ·rw [e,hL] at z; exact sn z
   ·cases z:g.get? q.1 with
    |none=>rfl
    |some o=>have:=(hl' q hq).2; rw [st _ _ z] at this; exact sn this
  ·have hq':=N q (List.mem_append_right _ hq)
   exact ⟨hk _ _ hq'.1 fun z=>nd1.2.2 q.1 z q.1 (List.mem_map_of_mem hq) rfl,hq'.2⟩
 ·rw [List.map_append]
  refine List.nodup_append.mpr ⟨n1,nd1.2.1,fun x hx y hy exy=>?_⟩
  subst exy
  refine ex1_2 (List.mem_map.mp hx) fun q hq zz2=>?_; subst zz2
  rcases hf' q hq with z|z
  ·exact nd1.2.2 q.1 z q.1 hy rfl
  ·refine ex1_2 (List.mem_map.mp hy) fun p hp ep=>?_
   have:=(N p (List.mem_append_right _ hp)).1
   rw [ep,z] at this; exact ns this
theorem SimC.fn (C:Con D n f F) (hn:n<lv):SimC D lv (.ref f) F:=by
 intro nms env A g L S rest sh ρ H s as vs r H' R rv e Q E k
 have h1:=S.dep
 have h2:=S.uni
 have h3:=S.lvl
 exact wpAny_call (con_code C S rfl ⟨S.hh,by exact om255 hn h3 h1,by exact om256 hn h3 h2⟩ R rv e fun sh' h' tk v R' G' r'=>k sh' h' tk v R' G' r')
noncomputable def clsF (C:Addr) (F:FnC):FnC:=fun as H=>match F (.loc H.length::as) (H++[.inst C []]) with
 |some (.none,H')=>some (.loc H.length,H')
 |_=>none
set_option tactic.hygienic true in
theorem SimC.cls {Cl:Addr} (C:Con D n f F) (hn:n<lv) (h1:makesIn D.K Cl=true) (h2:findIn D.K (.ref Cl) "__init__" = some (some (.ref f))) (h3:isFn D.K (.ref f)=true):SimC D lv (.ref Cl) (clsF Cl F):=by
 intro nms env A g L S rest sh ρ H s as vs r H' R rv e Q E k
 unfold clsF at e
 split at e
 ·rename_i H1 e1
  cases e
  refine Rel.elim R fun m hl cl F' N nd HH lr cr=>?_
  refine call_cls F' S.X N h1 h2 h3 fun x dx h' F1 N1 l1 l2=>?_
  have hx:∀ q∈hl++(cl++rest),q.1≠x:=fun q hq=>Nat.ne_of_lt (Nat.lt_trans (l1 q hq) l2)
  have hdx:∀ q∈hl++(cl++rest),q.1≠dx:=fun q hq=>Nat.ne_of_lt (l1 q hq)
  refine ex1_3 (HH.allocI (x:=x) (dx:=dx) (C:=Cl) (fun q hq=>hx q (List.mem_append_left _ hq)) (fun q hq=>hdx q (List.mem_append_left _ hq)) (Nat.ne_of_lt l2)) fun sh' e1' G1 HH1=>?_
  have R1:Rel D nms env.cells g L rest sh' ρ (H++[.inst Cl []]) h':=by
   refine ⟨m,_,cl,F1,N1,?_,HH1,?_,cr⟩
   ·simp only [List.cons_append,List.map_cons,List.nodup_cons]
    refine ⟨fun z=>?_,fun z=>?_,nd⟩
    ·rcases List.mem_cons.mp z with z|z
     ·exact absurd z (Nat.ne_of_gt l2)
     ·refine ex1_2 (List.mem_map.mp z) fun q hq e=>?_
      exact hx q hq e
    ·refine ex1_2 (List.mem_map.mp z) fun q hq e=>?_
     exact hdx q hq e
   ·rw [List.length_append,List.length_singleton]; exact lr.grow G1
  have h4:=S.dep
  have h5:=S.uni
  have h6:=S.lvl
  refine con_code (s:={ s with heap:=h',toks:=s.toks }) C S (A':=A.under (.builtin "type.__call__" ⟨.ref Cl::vs,[]⟩)) rfl ⟨S.hh,?_,?_⟩ R1 (as:=.loc H.length::as) (vs:=.ref x::vs) ⟨⟨by simp,by rw [e1']⟩,?_⟩ e1 fun sh2 h2 tk v R2 G2 r2=>?_
  ·show A.depth+_<=_
   have:(Code.builtin "type.__call__" ⟨.ref Cl::vs,[]⟩).weight=1:=by rfl
   exact om275 hn h6 this h4
  ·show A.units+_<=_
   have:(Code.builtin "type.__call__" ⟨.ref Cl::vs,[]⟩).cUnits<=5:=by
    have z:(Code.builtin "type.__call__" ⟨.ref Cl::vs,[]⟩).frames=0:=by rfl
    show 1+3 * _<=5
    rw [z]; decide
   exact om278 hn h6 h5 this
  ·rw [List.length_append,List.length_singleton]; exact rv.grow G1
  ·have G2:Grow sh' (H.length+1) sh2 H'.length:=by simpa using G2
   refine ⟨r2,k sh2 h2 tk _ R2 (G1.trans G2) ⟨Nat.lt_of_lt_of_le (Nat.lt_succ_self _) G2.1,?_⟩⟩
   rw [(G2.2 _ (Nat.lt_succ_self _)).1,e1']
 ·exact ns e
variable {K:Type}
theorem DRel.append {es es':List (K×AV)} {xs xs':List (K×Value)} (h:DRel sh n es xs) (h':DRel sh n es' xs'):DRel sh n (es++es') (xs++xs'):=
 DRel.ind (P:=fun es xs=>DRel sh n (es++es') (xs++xs')) h' (fun ZZ ZZ ZZ ZZ ZZ r ZZ ih=>by rw [List.cons_append,List.cons_append]; exact ⟨rfl,r,ih⟩) h
theorem DRel.reverse {es:List (K×AV)} {xs:List (K×Value)} (h:DRel sh n es xs):DRel sh n es.reverse xs.reverse:=
 DRel.ind (P:=fun es xs=>DRel sh n es.reverse xs.reverse) trivial (fun ZZ ZZ ZZ ZZ ZZ r ZZ ih=>by rw [List.reverse_cons,List.reverse_cons]; exact ih.append ⟨rfl,r,trivial⟩) h
theorem DRel.lookup [BEq K] {es:List (K×AV)} {xs:List (K×Value)} {x:K} (h:DRel sh n es xs) (q:es.lookup x=some a):∃ v,xs.lookup x=some v/\VRel sh n a v:=by
 refine DRel.ind (P:=fun es xs=>es.lookup x=some a->∃ v,xs.lookup x=some v/\VRel sh n a v) (fun q=>by exact ns q) (fun k b es v xs r ZZ ih q=>?_) h q
 rw [List.lookup_cons] at q ⊢
 cases hx:x == k with
 |true=>rw [hx] at q; obtain rfl:=so q; exact ⟨v,rfl,r⟩
 |false=>rw [hx] at q; exact ih q
variable {ps:List Str}
theorem DRel.zip (h:VRels sh n as vs):DRel sh n (ps.zip as) (ps.zip vs):=
 VRels.ind (P:=fun as vs=>∀ ps:List Str,DRel sh n (ps.zip as) (ps.zip vs)) (fun ps=>by rw [List.zip_nil_right,List.zip_nil_right]; trivial) (fun ZZ ZZ ZZ ZZ r ZZ ih ps=>by
  cases ps with
  |nil=>trivial
  |cons p ps=>rw [List.zip_cons_cons,List.zip_cons_cons]; exact ⟨rfl,r,ih ps⟩) h ps
variable {kindOf:Str->Option NameKind} {x:Str}
theorem bindL_get (hx:kindOf x=some .local):∀ {binds:List (Str×Value)} {m:Str->Option Value},bindL kindOf binds m x=(binds.reverse.lookup x).or (m x)
 |[],m=>by simp [bindL]
 |(n,v)::r,m=>by
  show bindL kindOf r (if kindOf n=some .local then fun y=>if y=n then some v else m y else m) x=_
  rw [bindL_get hx,List.reverse_cons,List.lookup_append,Option.or_assoc]
  congr 1
  by_cases e:x=n
  ·subst e; simp [hx]
  ·have:(x == n)=false:=by simpa using e
   rw [List.lookup_cons,this]
   split <;> simp [e]
theorem bindC_get (hx:kindOf x≠some .local):∀ {binds:List (Str×Value)} {m:Str->Option Value},bindC kindOf binds m x=(binds.reverse.lookup x).or (m x)
 |[],m=>by simp [bindC]
 |(n,v)::r,m=>by
  show bindC kindOf r (if kindOf n=some .local then m else fun y=>if y=n then some v else m y) x=_
  rw [bindC_get hx,List.reverse_cons,List.lookup_append,Option.or_assoc]
  congr 1
  by_cases e:x=n
  ·subst e; simp [hx]
  ·have:(x == n)=false:=by simpa using e
   rw [List.lookup_cons,this]
   split <;> simp [e]
theorem cellsFrom_inv:∀ (names:List (Str×NameKind)) (n lo:Nat) (acc:List (Str×Addr)),lo<=n->(∀ p∈acc,lo<=p.2/\@LT.lt Nat _ p.2 n)->(∀ p∈acc,∀ q∈acc,p.2=q.2->p.1=q.1)->(acc.map (·.2)).Nodup ->
  (∀ p∈cellsFrom n names acc,lo<=p.2)/\(∀ p∈cellsFrom n names acc,∀ q∈cellsFrom n names acc,p.2=q.2->p.1=q.1)/\((cellsFrom n names acc).map (·.2)).Nodup
 |[],n,lo,acc,_,h1,h2,h3=>⟨fun p hp=>(h1 p hp).1,h2,h3⟩
 |(x,kd)::r,n,lo,acc,h0,h1,h2,h3=>by
  show (∀ p∈(if kd == .cell then cellsFrom (n+1) r ((x,n)::acc) else cellsFrom n r acc),_)/\(∀ p∈(if kd == .cell then cellsFrom (n+1) r ((x,n)::acc) else cellsFrom n r acc),∀ q∈(if kd == .cell then cellsFrom (n+1) r ((x,n)::acc) else cellsFrom n r acc),_)/\((if kd == .cell then cellsFrom (n+1) r ((x,n)::acc) else cellsFrom n r acc).map (·.2)).Nodup
  split
  ·refine cellsFrom_inv r (n+1) lo _ (om65 h0) (fun p hp=>?_) (fun p hp q hq e=>?_) ?_
   ·rcases List.mem_cons.mp hp with rfl|hp
    ·exact ⟨h0,Nat.lt_succ_self _⟩
    ·have:=h1 p hp; exact ⟨this.1,Nat.lt_succ_of_lt this.2⟩
   ·rcases List.mem_cons.mp hp with rfl|hp
    ·rcases List.mem_cons.mp hq with rfl|hq
     ·rfl
     ·have:=(h1 q hq).2; exact absurd e (Nat.ne_of_gt this)
    ·rcases List.mem_cons.mp hq with rfl|hq
     ·have:=(h1 p hp).2; exact absurd e (Nat.ne_of_lt this)
     ·exact h2 p hp q hq e
   ·rw [List.map_cons,List.nodup_cons]
    refine ⟨fun z=>?_,h3⟩
    refine ex1_2 (List.mem_map.mp z) fun p hp e=>?_
    exact absurd e (Nat.ne_of_lt (h1 p hp).2)
  ·exact cellsFrom_inv r n lo acc h0 h1 h2 h3
variable {cm:Str->Option Value}
theorem cellsAre_keys {cs:List (Str×Addr)} {cells:List (Addr×Obj)} (h:CellsAre cm cs cells):cells.map (·.1)=cs.map (·.2):=by
 induction h with
 |nil=>rfl
 |cons _ _ ih=>rw [List.map_cons,List.map_cons,ih]
theorem cellsAre_get {c:Addr} {cs:List (Str×Addr)} {cells:List (Addr×Obj)} (h:CellsAre cm cs cells) (e:cs.lookup x=some c):∃ o,(c,o)∈cells/\o.data = .cell (cm x):=by
 induction h with
 |nil=>exact ns e
 |@cons n c' o cs cells h _ ih=>
  rw [List.lookup_cons] at e
  by_cases z:x=n
  ·subst z
   rw [beq_self_eq_true] at e
   obtain rfl:=so e
   exact ⟨_,.head _,h⟩
  ·rw [beq_false_of_ne z] at e
   exact ex1_2 (ih e) fun ob m d=>⟨ob,.tail _ m,d⟩
theorem lookup_mem {V:Type} [BEq K] [LawfulBEq K] {x:K} {v:V}:∀ {l:List (K×V)},l.lookup x=some v->(x,v)∈l
 |(k,u)::r,h=>by
  rw [List.lookup_cons] at h
  split at h
  ·rename_i z
   obtain rfl:=so h
   rw [eq_of_beq z]; exact .head _
  ·exact .tail _ (lookup_mem h)
noncomputable def runB (ps:List Str) (ds:List AV) (fb:FnS):FnC:=fun as H=>if (as++ds).length=ps.length then match fb ⟨(ps.zip (as++ds)).reverse,H⟩ with
  |some (.ret a,σ)=>some (a,σ.H)
  |some (.next,σ)=>some (.none,σ.H)
  |_=>none
 else none
set_option tactic.hygienic true in
theorem con_of {name qual:Str} {params:Arguments} {body:List Stmt} {scope:Scope} {dV kV doc pm cdv ct oc:Value} {an od:Option Addr} {osl:Array (Option Value)} {ds:List AV} {dv:List Value} {fb:FnS} (hds:∀ sh n,VRels sh n ds dv)
  (ho:D.K.lookup f=some ⟨oc,od,.func (fnOf name qual params body scope dV kV doc pm an cdv ct),osl⟩) (hcd:codeIn D.K cdv qual=true)
  (hbind:∀ vs:List Value,(vs++dv).length=ps.length->∀ s:Shared,D.K.In s.heap->BindsTo s (fnOf name qual params body scope dV kV doc pm an cdv ct) ⟨vs,[]⟩ (ps.zip (vs++dv)))
  (hkind:(ps.all fun y=>scope.names.lookup y == some .local||scope.names.lookup y == some .cell)=true)
  (hnd:((cellsFrom 0 scope.names []).map (·.1)).Nodup)
  (hco:scope.isCoroutine=false) (hgen:scope.isGenerator=false) (hk:scope.kind = .function) (hn:n<=60)
  (hb:SimS D scope.names n body fb):Con D n f (runB ps ds fb):=by
 intro sh H hl as vs r H' HH nd rv e
 unfold runB at e
 split at e
 ·rename_i hlen
  have rv2:=rv.append (hds sh H.length)
  have hvl:(vs++dv).length=ps.length:=rv2.len.trans hlen
  have hz:(ps.zip (vs++dv)).all (fun y=>scope.names.lookup y.1 == some .local||scope.names.lookup y.1 == some .cell)=true:=by
   refine List.all_eq_true.mpr fun y hy=>?_
   exact List.all_eq_true.mp hkind y.1 (List.of_mem_zip hy).1
  refine spec_ofC ho hcd (hbind vs hvl) hz hnd hco hgen hk (by show _<1000; exact om74 hn) fun fs base g L s cells Bl F N X T l1 Y=>?_
  have inv:=cellsFrom_inv scope.names (L+1) (L+1) [] (Nat.le_refl _) (fun ZZ h=>nomatch h) (fun ZZ h=>nomatch h) List.nodup_nil
  have S:Site D scope.names n (envOfC qual scope L f cdv) ((Mine.AF n fs).deeper (envOfC qual scope L f cdv)) g L:=by
   refine { loc:=rfl,kind:=hk,glob:=rfl,names:=rfl,hh:=rfl,dep:=?_,uni:=?_,lvl:=hn,X:=X,T:=T,ccell:=fun x hx=>?_,cinj:=fun x y c hx hy=>?_,blt:=rfl,call:=fun s m news F N=>?_ }
   ·show 700 - 10 * n+1<=_; exact om154
   ·show 7000 - 100 * n+3<=_; exact om169
   ·have:=cellsFrom_some scope.names (L+1) [] (.inl hx)
    exact Option.isSome_iff_exists.mp this
   ·exact inv.2.1 _ (lookup_mem hx) _ (lookup_mem hy) rfl
   ·exact ⟨base,_,rfl,(groundX (R:=fun ZZ ZZ=>True) Bl F N rfl rfl hk).2.1⟩
  have dr:DRel sh H.length (ps.zip (as++ds)).reverse (ps.zip (vs++dv)).reverse:=(DRel.zip rv2).reverse
  have R:Rel D scope.names (cellsFrom (L+1) scope.names []) g L [] sh (ps.zip (as++ds)).reverse H s.heap:=by
   refine ⟨_,hl,cells,F,fun q hq=>N q ?_,?_,HH,fun x a hx=>?_,fun x c hc=>?_⟩
   ·rw [List.append_nil] at hq
    rcases List.mem_append.mp hq with h|h
    ·exact List.mem_append_right _ h
    ·exact List.mem_append_left _ h
   ·rw [List.append_nil,List.map_append]
    refine List.nodup_append.mpr ⟨nd,by rw [cellsAre_keys Y]; exact inv.2.2,fun a ha b hb' eab=>?_⟩
    subst eab
    rw [cellsAre_keys Y] at hb'
    refine ex1_2 (List.mem_map.mp ha) fun q hq zz2=>?_; subst zz2
    refine ex1_2 (List.mem_map.mp hb') fun p hp ep=>?_
    have:=inv.1 p hp
    have:=l1 q hq
    rw [ep] at *
    exact absurd (Nat.lt_of_lt_of_le (Nat.lt_succ_of_lt this) ‹L+1<=q.1›) (Nat.lt_irrefl _)
   ·refine ex1_2 (dr.lookup hx) fun v hv rv'=>?_
    refine ⟨v,rv',?_⟩
    have hm:(x,v)∈ps.zip (vs++dv):=List.mem_reverse.mp (lookup_mem hv)
    have hkx:=List.all_eq_true.mp hkind x (List.of_mem_zip hm).1
    by_cases hl':scope.names.lookup x=some .local
    ·refine .inl ⟨hl',?_⟩
     rw [bindL_get (show (envOfC qual scope L f cdv).kindOf x=some .local from hl'),hv]; rfl
    ·have hc:scope.names.lookup x=some .cell:=by
      rw [Bool.or_eq_true] at hkx
      rcases hkx with h|h
      ·exact absurd (by simpa using h) hl'
      ·simpa using h
     refine ex1_1 (Option.isSome_iff_exists.mp (cellsFrom_some scope.names (L+1) [] (.inl hc))) fun c hcc=>?_
     refine ex1_2 (cellsAre_get Y hcc) fun o hmo hdo=>?_
     refine .inr ⟨.inl hc,c,o,hcc,hmo,?_⟩
     rw [hdo,bindC_get (show (envOfC qual scope L f cdv).kindOf x≠some .local from hl'),hv]; rfl
   ·refine ex1_2 (cellsAre_get Y hc) fun o hmo hdo=>?_
    exact ⟨o,_,hmo,hdo⟩
  have fin:∀ fl σ',fb ⟨(ps.zip (as++ds)).reverse,H⟩=some (fl,σ')->(∀ sh' n fl',FlRel sh' n fl fl'->VRel sh' n r (match fl' with|.ret v=>v|_=>.none))->σ'.H=H'->wpAny (model D.prog D.w) ((Mine.AF n fs).deeper (envOfC qual scope L f cdv)) (execs body (envOfC qual scope L f cdv))
    (fun fl s'=>Fin g L s (fun v h' l'=>(∀ q∈hl,q.1∈hl.map (·.1)\/q∈l')/\∀ h₀:Heap,(∀ q∈hl,h₀.get? q.1=some q.2)->∃ sh',HR D.prog D.w sh' H' l'/\(l'.map (·.1)).Nodup/\Grow sh H.length sh' H'.length/\VRel sh' H'.length r v) (match fl with|.ret v=>v|_=>.none) s') (fun ZZ ZZ=>False) s:=by
   intro fl σ' e1 hr hH
   refine hb _ _ g L S [] sh ⟨(ps.zip (as++ds)).reverse,H⟩ s fl σ' R e1 _ _ fun sh' h' tk fl' R' G' rf=>?_
   refine Rel.elim R' fun m' hl' cl' F' N' nd' HH' ZZ ZZ=>?_
   subst hH
   refine ⟨h',tk,m',hl',rfl,F',fun q hq=>N' q (List.mem_append_left _ hq),fun q hq=>.inl (List.mem_map_of_mem hq),fun ZZ ZZ=>⟨sh',HH',?_,G',hr _ _ _ rf⟩⟩
   rw [List.map_append] at nd'
   exact (List.nodup_append.mp nd').1
  split at e
  ·rename_i a σ' e1
   obtain ⟨rfl,rfl⟩:=sp e
   exact fin _ _ e1 (fun sh' n fl' h=>by obtain ⟨v,rfl,h⟩:=h; exact h) rfl
  ·rename_i σ' e1
   obtain ⟨rfl,rfl⟩:=sp e
   exact fin _ _ e1 (fun sh' n fl' h=>by cases h; rfl) rfl
  ·exact ns e
 ·exact ns e
section
variable {nms:Names} {lv:Nat}
noncomputable def callF (F:FnC) (fs:Fn (List AV)):Fn AV:=fun ρ H=>bnd (fs ρ H) F
variable {e:PySem.Expr} {es:List PySem.Expr}
theorem starEach_ne (h:(e::es).all notStar=true):starEach (e::es) env=(false,eval e env)::starEach es env:=starEach_cons (by
 rw [List.all_cons,Bool.and_eq_true] at h; exact h.1)
theorem tail_ne (h:(e::es).all notStar=true):es.all notStar=true:=by
 rw [List.all_cons,Bool.and_eq_true] at h; exact h.2
variable {xp pos:Pos} {fs:Fn (List AV)}
theorem SimE.callK (hf:SimE D nms lv (.Name x xp) (cst (.glob (.ref f)))) (hk:keepIn D.K (.ref f)=true) (C:SimC D lv (.ref f) F) (hs:SimEs D nms lv (e::es) fs) (hn:(e::es).all notStar=true):
  SimE D nms lv (.Call (.Name x xp) (e::es) [] pos) (callF F fs):=by
 intro env A g L S rest sh ρ H s b H' R q Q E k
 refine bnd_elim q fun as H₁ e1 e2=>?_
 refine Call_ (hf env A g L S rest sh ρ H s _ H R rfl _ _ fun sh1 h1 tk1 v R1 G1 r1=>?_)
 cases r1
 refine callWith_K S.X hk ?_ (starEach_ne hn) (noStars (tail_ne hn))
 refine hs env A g L pos S rest sh1 ρ H _ as H₁ R1 e1 _ _ fun sh2 h2 tk2 vs R2 G2 r2=>?_
 refine Rel.elim R2 fun m hl cl F' N nd HH lr cr=>?_
 exact ⟨S.X.keeps F'.keep,C nms env A g L S rest sh2 ρ H₁ _ as vs b H' R2 r2 e2 _ _ fun sh3 h3 tk3 v R3 G3 r3=>k sh3 h3 tk3 v R3 ((G1.trans G2).trans G3) r3⟩
theorem SimE.callK0 (hf:SimE D nms lv (.Name x xp) (cst (.glob (.ref f)))) (hk:keepIn D.K (.ref f)=true) (C:SimC D lv (.ref f) F):
  SimE D nms lv (.Call (.Name x xp) [] [] pos) (callF F esNil):=by
 intro env A g L S rest sh ρ H s b H' R q Q E k
 refine bnd_elim q fun as H₁ e1 e2=>?_
 cases e1
 refine Call_ (hf env A g L S rest sh ρ H s _ H R rfl _ _ fun sh1 h1 tk1 v R1 G1 r1=>?_)
 cases r1
 refine Rel.elim R1 fun m hl cl F' N nd HH lr cr=>?_
 exact callWith_K0 (S.X.keeps F'.keep) hk (C nms env A g L S rest sh1 ρ H _ [] [] b H' R1 trivial e2 _ _ fun sh3 h3 tk3 v R3 G3 r3=>k sh3 h3 tk3 v R3 (G1.trans G3) r3)
theorem SimE.callB {id:String} (hf:SimE D nms lv (.Name x xp) (cst (.glob (.builtin id)))) (C:SimC D lv (.builtin id) F) (hs:SimEs D nms lv (e::es) fs) (hn:(e::es).all notStar=true):
  SimE D nms lv (.Call (.Name x xp) (e::es) [] pos) (callF F fs):=by
 intro env A g L S rest sh ρ H s b H' R q Q E k
 refine bnd_elim q fun as H₁ e1 e2=>?_
 refine Call_ (hf env A g L S rest sh ρ H s _ H R rfl _ _ fun sh1 h1 tk1 v R1 G1 r1=>?_)
 cases r1
 refine callWith_builtin1 ?_ (starEach_ne hn) (noStars (tail_ne hn))
 exact hs env A g L pos S rest sh1 ρ H _ as H₁ R1 e1 _ _ fun sh2 h2 tk2 vs R2 G2 r2=>C nms env A g L S rest sh2 ρ H₁ _ as vs b H' R2 r2 e2 _ _ fun sh3 h3 tk3 v R3 G3 r3=>k sh3 h3 tk3 v R3 ((G1.trans G2).trans G3) r3
theorem SimE.callT {T:String} (hf:SimE D nms lv (.Name x xp) (cst (.glob (.type T)))) (C:SimC D lv (.type T) F) (hs:SimEs D nms lv (e::es) fs) (hn:(e::es).all notStar=true):
  SimE D nms lv (.Call (.Name x xp) (e::es) [] pos) (callF F fs):=by
 intro env A g L S rest sh ρ H s b H' R q Q E k
 refine bnd_elim q fun as H₁ e1 e2=>?_
 refine Call_ (hf env A g L S rest sh ρ H s _ H R rfl _ _ fun sh1 h1 tk1 v R1 G1 r1=>?_)
 cases r1
 refine PySem.Pv.callWith_type1 ?_ (starEach_ne hn) (noStars (tail_ne hn))
 exact hs env A g L pos S rest sh1 ρ H _ as H₁ R1 e1 _ _ fun sh2 h2 tk2 vs R2 G2 r2=>C nms env A g L S rest sh2 ρ H₁ _ as vs b H' R2 r2 e2 _ _ fun sh3 h3 tk3 v R3 G3 r3=>k sh3 h3 tk3 v R3 ((G1.trans G2).trans G3) r3
end
end
section
section
variable {D:Mdl} {nms:Names} {lv:Nat} {cells:List (Str×Addr)} {g:Heap} {L:Addr} {rest:Lg} {sh:Shp} {ρ:List (Str×AV)} {H:List AO} {h h':Heap} {m:Str->Option Value} {hl cl:Lg}
theorem rel_alloc (nd:((hl++(cl++rest)).map (·.1)).Nodup) (HH:HR D.prog D.w sh H hl) (lr:LR nms cells m cl sh H.length ρ) (cr:CR cells cl) {Da:Addr} {o:Obj} (F':Fr g L h' m) (N':News g L h' ((Da,o)::(hl++(cl++rest)))) (l1:∀ p∈hl++(cl++rest),p.1≠Da)
  {ao:AO} {e0:Nat} (hni:∀ C es,ao≠.inst C es) (hr:∀ sh',sh'.φ H.length=Da->sh'.ε H.length=e0->Grow sh H.length sh' (H.length+1)->ORel D.prog D.w sh' (H.length+1) H.length ((Da,o)::hl) ao):
  ∃ sh',Rel D nms cells g L rest sh' ρ (H++[ao]) h'/\Grow sh H.length sh' (H.length+1)/\sh'.φ H.length=Da:=by
 refine ex1_3 (HH.alloc e0 (fun q hq=>l1 q (List.mem_append_left _ hq)) hni hr) fun sh' e1 G1 H1=>?_
 refine ⟨sh',⟨m,_,cl,F',N',?_,H1,?_,cr⟩,G1,e1⟩
 ·simp only [List.cons_append,List.map_cons,List.nodup_cons]
  refine ⟨fun z=>?_,nd⟩
  refine ex1_2 (List.mem_map.mp z) fun q hq e=>?_
  exact l1 q hq e
 ·rw [List.length_append,List.length_singleton]; exact lr.grow G1
variable {a:Addr} {ro ro':Obj}
theorem repl_full (nd:((hl++(cl++rest)).map (·.1)).Nodup) (hm:(a,ro)∈hl):repl a ro' (hl++(cl++rest))=repl a ro' hl++(cl++rest):=by
 rw [repl_append]
 congr 1
 refine repl_none fun z=>?_
 rw [List.map_append] at nd
 exact (List.nodup_append.mp nd).2.2 a (List.mem_map_of_mem (f:=(·.1)) hm) a z rfl
theorem nd_left (nd:((hl++(cl++rest)).map (·.1)).Nodup):(hl.map (·.1)).Nodup:=by
 rw [List.map_append] at nd; exact (List.nodup_append.mp nd).1
theorem rel_set (nd:((hl++(cl++rest)).map (·.1)).Nodup) (HH:HR D.prog D.w sh H hl) (lr:LR nms cells m cl sh H.length ρ) (cr:CR cells cl) (F':Fr g L h' m) (N':News g L h' (repl a ro' (hl++(cl++rest))))
  {i:Nat} {o o':AO} (hi:H[i]? = some o) (ha:(a,ro)∈hl) (ht:∀ vs,tupObj vs≠ro)
  (hk:(a=sh.φ i/\∀ C es,o'≠.inst C es)\/(a=sh.δ i/\∃ C es es',o = .inst C es/\o' = .inst C es'))
  (hr:ORel D.prog D.w sh H.length i (repl a ro' hl) o'):Rel D nms cells g L rest sh ρ (H.set i o') h':=by
 refine ⟨m,repl a ro' hl,cl,F',by rw [<- repl_full nd ha]; exact N',?_,HH.set (nd_left nd) hi ha ht hk hr,by rw [List.length_set]; exact lr,cr⟩
 rw [<- repl_full nd ha,repl_keys]; exact nd
end
variable {es:List DictEntry} {n:Nat}
theorem dict_tup:∀ vs,tupObj vs≠dictOf es n:=fun vs h=>tup_dict h
theorem list_tup {ws:Array Value}:∀ vs,tupObj vs≠listOf ws n:=fun vs h=>tup_list h
noncomputable def putA (x:Str) (v:AV):List (Str×AV)->List (Str×AV)
 |[]=>[(x,v)]
 |(y,u)::r=>if y=x then (y,v)::r else (y,u)::putA x v r
variable {x:Str} {v:AV}
theorem putA_eq:∀ {es:List (Str×AV)},(putA x v es).lookup x=some v
 |[]=>by simp [putA]
 |(y,u)::r=>by
  unfold putA
  split
  ·rename_i h; subst h; simp
  ·rename_i h
   have:(x == y)=false:=by simpa using fun e:x=y=>h e.symm
   rw [List.lookup_cons,this]; exact putA_eq
theorem putA_ne {y:Str} (h:y≠x):∀ {es:List (Str×AV)},(putA x v es).lookup y=es.lookup y
 |[]=>by
  have:(y == x)=false:=by simpa using h
  simp [putA,List.lookup_cons,this]
 |(z,u)::r=>by
  unfold putA
  split
  ·rename_i e; subst e
   have:(y == z)=false:=by simpa using h
   simp [List.lookup_cons,this]
  ·rw [List.lookup_cons,List.lookup_cons,putA_ne h]
theorem putA_len:∀ {es:List (Str×AV)},(putA x v es).length=if (es.lookup x).isSome=true then es.length else es.length+1
 |[]=>by simp [putA]
 |(y,u)::r=>by
  unfold putA
  split
  ·rename_i e; subst e; simp
  ·rename_i h
   have:(x == y)=false:=by simpa using fun e:x=y=>h e.symm
   rw [List.lookup_cons,this,List.length_cons,putA_len]
   split <;> simp
variable {name:Str} {hs:Int} {t:Tok} {v:Value}
theorem anyRef_putL:∀ {es:List DictEntry},(putL name hs (.str name t) v es).any (·.refKey)=es.any (·.refKey)
 |[]=>by simp [putL,DictEntry.refKey]
 |e::r=>by
  unfold putL
  split
  ·simp [DictEntry.refKey]
  ·rw [List.any_cons,List.any_cons,anyRef_putL]
theorem getL_put_other {name':Str} (hne:name≠name'):getL name' (putL name hs (.str name t) v es)=getL name' es:=by
 unfold getL
 rw [find_putL_ne hne,anyRef_putL]
theorem putL_len2 {key:Value} {r:Option Value} (h:getL name es=some r):(putL name hs key v es).length=if r.isSome=true then es.length else es.length+1:=by
 cases r with
 |some u=>simpa using putL_len_of h
 |none=>
  simp only [Option.isSome_none,Bool.false_eq_true,if_false]
  unfold getL at h
  cases hf:es.find? (·.key.isStr name) with
  |some e=>rw [hf] at h; simp at h
  |none=>
   clear h
   induction es with
   |nil=>rfl
   |cons e r ih=>
    rw [List.find?_cons] at hf
    split at hf
    ·exact sn hf
    ·rename_i z
     unfold putL
     rw [if_neg (by simpa using z),List.length_cons,List.length_cons,ih hf]
variable {sh:Shp} {a:AV}
theorem AttrRel.put {es:List (Str×AV)} {ds:List DictEntry} (h:AttrRel sh n es ds) (r:VRel sh n a v):AttrRel sh n (putA x a es) (putL x hs (.str x t) v ds):=by
 refine ⟨?_,fun y=>?_⟩
 ·have hx:=h.2 x
  have hl:=h.1
  rw [putA_len]
  cases e:es.lookup x with
  |some b=>
   rw [e] at hx
   obtain ⟨u,hu,_⟩:=hx
   rw [putL_len2 hu]; simpa using hl
  |none=>
   rw [e] at hx
   rw [putL_len2 hx]; simpa using hl
 ·by_cases e:y=x
  ·subst e
   rw [putA_eq]
   exact ⟨v,getL_putL_eq,r⟩
  ·rw [putA_ne e,getL_put_other (Ne.symm e)]
   exact h.2 y
noncomputable def SetOk (K:Frag) (G:Addr->Str->Bool):Prop:=∀ C x,G C x=true->findIn K (.ref C) "__setattr__" = some (some (.builtin "object.__setattr__"))/\plainOver K C=true/\takerIn K C x=some none/\hasDictIn K C=true
noncomputable def setA (G:Addr->Str->Bool) (x:Str) (a v:AV) (H:List AO):Option (List AO):=match a with
 |.loc i=>match H[i]? with
  |some (.inst C es)=>if G C x=true/\es.length<=100 then some (H.set i (.inst C (putA x v es))) else none
  |_=>none
 |_=>none
section
variable {D:Mdl} {nms:Names} {lv:Nat}
variable {G:Addr->Str->Bool} {g:Heap} {L:Addr} {H:List AO}
set_option tactic.hygienic true in
theorem set_attr (hG:SetOk D.K G) {env:Env} {A:Around} (S:Site D nms lv env A g L) {rest:Lg} {ρ:List (Str×AV)} {H':List AO} {s:Shared} {b:AV} {va vb:Value} {Q:Unit->Shared->Prop} {E:Value->Shared->Prop}
  (R:Rel D nms env.cells g L rest sh ρ H s.heap) (ra:VRel sh H.length a va) (rb:VRel sh H.length b vb) (e:setA G x a b H=some H')
  (k:∀ h' tk,Rel D nms env.cells g L rest sh ρ H' h'->H'.length=H.length->Q () { s with heap:=h',toks:=tk }):wpAny (model D.prog D.w) A (setAttr va x vb) Q E s:=by
 unfold setA at e
 split at e
 ·rename_i i
  split at e
  ·rename_i C es hi
   split at e
   ·rename_i hg
    obtain rfl:=so e
    obtain ⟨hlt,rfl⟩:=ra
    refine Rel.elim R fun m hl cl F N nd HH lr cr=>?_
    obtain ⟨m1,ds,kk,m2,ar⟩:=inst_at HH hi
    refine ex0_4 (hG C x hg.1) fun g1 g2 g3 g4=>?_
    have hsome:(getL x ds).isSome=true:=by
     have:=ar.2 x
     split at this
     ·refine ex1_2 this fun v hv ZZ=>?_; try clear this; rw [hv]; rfl
     ·rw [this]; rfl
    refine set_dict F S.X N (InstAt.of_news N (List.mem_append_left _ m1) (List.mem_append_left _ m2)) rfl g1 g2 g3 g4 hsome rfl (upd_repl nd (List.mem_append_left _ m2)) ?_ fun h' F' N'=>?_
    ·have:=@putL_len x (PyData.keyHash D.w.params x) (.str x (s.toks+1)) vb ds
     have:=ar.1
     omega
    ·exact k h' _ (rel_set nd HH lr cr F' N' hi m2 dict_tup (.inr ⟨rfl,_,_,_,rfl,rfl⟩) ⟨mem_repl_obj (nd_left nd) m2 m1 (by intro q; injection q with q; cases q),_,_,mem_repl_eq m2,ar.put rb⟩) (by simp)
   ·exact ns e
  ·exact ns e
 ·exact ns e
noncomputable def sSetA (G:Addr->Str->Bool) (x:Str) (fv fo:Fn AV):FnS:=fun σ=>bnd (fv σ.ρ σ.H) fun v H=>bnd (fo σ.ρ H) fun o H=>match setA G x o v H with|some H'=>some (.next,⟨σ.ρ,H'⟩)|none=>none
theorem SimS1.setA (hG:SetOk D.K G) {o e:PySem.Expr} {p' pos:Pos} {fv fo:Fn AV} (hv:SimE D nms lv e fv) (ho:SimE D nms lv o fo)
  (h2:∀ env,swapsWith e (some (.Attribute o x p')) pos.line env=pure false:=by intro _; rfl):SimS1 D nms lv (.Assign [.Attribute o x p'] e pos) (sSetA G x fv fo):=by
 intro env A g L S rest sh σ s b σ' R q Q E k
 refine bnd_elim q fun v H₁ e1 q=>?_
 refine bnd_elim q fun oa H₂ e2 q=>?_
 split at q
 ·rename_i H3 e3
  obtain ⟨rfl,rfl⟩:=sp q
  refine plainObj_wpAny_Assign_Attribute (hv env A g L S rest sh σ.ρ σ.H s v H₁ R e1 _ _ fun sh1 h1 tk1 v1 R1 G1 r1=>?_) (h2 env)
  refine ho env A g L S rest sh1 σ.ρ H₁ _ oa H₂ R1 e2 _ _ fun sh2 h2 tk2 v2 R2 G2 r2=>?_
  refine set_attr hG S R2 r2 (r1.grow G2) e3 fun h3 tk3 R3 l3=>k sh2 h3 tk3 _ R3 ⟨?_,fun i hi=>(G1.trans G2).2 i hi⟩ rfl
  rw [l3]; exact (G1.trans G2).1
 ·exact ns q
noncomputable def IsiOk (K:Frag) (T:Value->Value->Option Bool):Prop:=(∀ t c b,T t c=some b->kitOne K t c=some b)/\∀ C c b,T (.ref C) c=some b->plainGet K C "__class__" = true/\hasDictIn K C=true/\findIn K (.ref C) "__class__" = some (some (.builtin "object.__class__")) /\
 specialIn K (.builtin "object.__class__") "__get__" = some (some (.builtin "getset_descriptor.__get__"))/\takesIn K (.builtin "object.__class__")=some true/\mroIn K C (.type "object")=some true
noncomputable def typA (a:AV) (H:List AO):Option Value:=match a with
 |.int _=>some (.type "int")
 |.str _=>some (.type "str")
 |.none=>some (.type "NoneType")
 |.loc i=>match H[i]? with
  |some (.inst C _)=>some (.ref C)
  |some (.list _)=>some (.type "list")
  |some (.tup _)=>some (.type "tuple")
  |_=>none
 |_=>none
noncomputable def isiAny (T:Value->Value->Option Bool) (t:Value):List AV->Option Bool
 |[]=>some false
 |.glob c::r=>match T t c with
  |some true=>some true
  |some false=>isiAny T t r
  |none=>none
 |_=>none
noncomputable def isiA (T:Value->Value->Option Bool):FnC:=fun as H=>match as with
 |[x,.glob c]=>match typA x H with
  |some t=>match T t c with
   |some b=>some (.bool b,H)
   |none=>none
  |none=>none
 |[x,.loc j]=>match H[j]? with
  |some (.tup (c₀::cs))=>match typA x H with
   |some t=>match T t (match c₀ with|.glob c=>c|_=>.none),isiAny T t (c₀::cs) with
    |some _,some b=>some (.bool b,H)
    |_,_=>none
   |none=>none
  |_=>none
 |_=>none
variable {T:Value->Value->Option Bool} {t:Value}
set_option tactic.hygienic true in
theorem isi_kit (hT:IsiOk D.K T) {h:Heap} {hl full:Lg} (N:News g L h full) (hs:∀ q∈hl,q∈full) (HH:HR D.prog D.w sh H hl) {x:AV} {c:Value} {b:Bool} (r:VRel sh H.length x v) (e:typA x H=some t) (ec:T t c=some b):
  ∃ P:Heap->Prop,KitX D.K v t P/\P h/\v≠.builtin "__main__.__loader__#opaque":=by
 cases x with
 |none=>cases r; obtain rfl:=so e; exact ⟨_,kitx_none,trivial,by intro z; cases z⟩
 |bool b=>exact ns e
 |int i=>obtain ⟨u,rfl⟩:=r; obtain rfl:=so e; exact ⟨_,kitx_int,trivial,by intro z; cases z⟩
 |str i=>obtain ⟨u,rfl⟩:=r; obtain rfl:=so e; exact ⟨_,kitx_str,trivial,by intro z; cases z⟩
 |glob v=>exact ns e
 |loc i=>
  obtain ⟨hlt,rfl⟩:=r
  unfold typA at e
  dsimp only at e
  split at e
  ·rename_i C es hi
   obtain rfl:=so e
   refine ex0_6 (hT.2 _ _ _ ec) fun g1 g2 g3 g4 g5 g6=>?_
   obtain ⟨m1,ds,kk,m2,ar⟩:=inst_at HH hi
   exact ⟨_,kitx_own g1 g2 g3 g4 g5 g6,InstAt.of_news N (hs _ m1) (hs _ m2),by intro z; cases z⟩
  ·rename_i xs hi
   obtain rfl:=so e
   obtain ⟨vs,k,m1,_⟩:=HH.obj i _ hi
   exact ⟨_,kitx_list,⟨_,(N _ (hs _ m1)).1,rfl⟩,by intro z; cases z⟩
  ·rename_i xs hi
   obtain rfl:=so e
   obtain ⟨vs,m1,_⟩:=HH.obj i _ hi
   exact ⟨_,kitx_tuple,⟨_,(N _ (hs _ m1)).1,rfl⟩,by intro z; cases z⟩
  ·exact ns e
theorem kitAny_of (hT:IsiOk D.K T) {cs:List AV} {vs:List Value} {b:Bool} (r:VRels sh n cs vs) (e:isiAny T t cs=some b):kitAny D.K t vs=some b:=by
 induction cs generalizing vs b with
 |nil=>rw [vrx0 r]; obtain rfl:=so e; rfl
 |cons c cs ih=>
  refine ex2_3 (vrx r) fun v vs ev r1 r2=>?_
  rw [ev]
  cases c with
  |glob c=>
   have:v=c:=r1
   subst this
   unfold isiAny at e
   unfold kitAny
   split at e
   ·rename_i q; obtain rfl:=so e; rw [hT.1 _ _ _ q]
   ·rename_i q; rw [hT.1 _ _ _ q]; exact ih r2 e
   ·exact ns e
  |_=>exact ns e
set_option tactic.hygienic true in
theorem SimC.isi (hT:IsiOk D.K T):SimC D lv (.builtin "isinstance") (isiA T):=by
 intro nms env A g L S rest sh ρ H s as vs r H' R rv e Q E k
 refine Rel.elim R fun m hl cl F N nd HH lr cr=>?_
 unfold isiA at e
 split at e
 ·rename_i x c
  refine vr2 (C:=fun vs=>wpAny (model D.prog D.w) A (call _ vs) Q E s) rv fun v u r1 r2=>?_
  cases r2
  split at e
  ·rename_i t et
   split at e
   ·rename_i b eb
    obtain ⟨rfl,rfl⟩:=sp e
    refine ex1_3 (isi_kit hT N (fun q hq=>List.mem_append_left _ hq) HH r1 et eb) fun P kx hp hb=>?_
    exact kia_one kx (S.X.keeps F.keep) hp (hT.1 _ _ _ eb) hb fun tk=>k sh s.heap tk _ R .refl rfl
   ·exact ns e
  ·exact ns e
 ·rename_i x j
  refine vr2 (C:=fun vs=>wpAny (model D.prog D.w) A (call _ vs) Q E s) rv fun v u r1 r2=>?_
  split at e
  ·rename_i c₀ cs hj
   split at e
   ·rename_i t et
    split at e
    ·rename_i b0 b eb0 eb
     obtain ⟨rfl,rfl⟩:=sp e
     refine ex1_3 (isi_kit hT N (fun q hq=>List.mem_append_left _ hq) HH r1 et eb0) fun P kx hp hb=>?_
     obtain ⟨ws,m1,rw1⟩:=HH.obj j _ hj
     obtain ⟨hlt,rfl⟩:=r2
     exact kia_tup kx (S.X.keeps F.keep) hp (N _ (List.mem_append_left _ m1)).1 (kitAny_of hT rw1 eb) hb fun tk=>k sh s.heap tk _ R .refl rfl
    ·exact ns e
   ·exact ns e
  ·exact ns e
 ·exact ns e
end
end
abbrev FnO:=AV->AV->List AO->Option (AV×List AO)
noncomputable def SimO (D:Mdl) (op:Operator) (G:FnO):Prop:=∀ nms lv env A g L,Site D nms lv env A g L->∀ rest sh ρ H s a b va vb r H',Rel D nms env.cells g L rest sh ρ H s.heap->VRel sh H.length a va->VRel sh H.length b vb->G a b H=some (r,H') ->
 ∀ (Q:Value->Shared->Prop) (E:Value->Shared->Prop),(∀ sh' h' tk v,Rel D nms env.cells g L rest sh' ρ H' h'->Grow sh H.length sh' H'.length->VRel sh' H'.length r v->Q v { s with heap:=h',toks:=tk }) ->
  wpAny (model D.prog D.w) A (binaryOp op va vb) Q E s
noncomputable def SimK (D:Mdl) (op:CmpOp) (G:AV->AV->List AO->Option Bool):Prop:=∀ nms lv env A g L,Site D nms lv env A g L->∀ rest sh ρ H s a b va vb r,Rel D nms env.cells g L rest sh ρ H s.heap->VRel sh H.length a va->VRel sh H.length b vb->G a b H=some r ->
 ∀ (Q:Value->Shared->Prop) (E:Value->Shared->Prop),(∀ h' tk,Rel D nms env.cells g L rest sh ρ H h'->Q (.bool r) { s with heap:=h',toks:=tk }) ->
  wpAny (model D.prog D.w) A (compareOp op va vb) Q E s
section
variable {D:Mdl} {nms:Names} {lv:Nat}
variable {l r:PySem.Expr} {pos:Pos} {f g:Fn AV}
theorem SimE.bin {op:Operator} {G:FnO} (hf:SimE D nms lv l f) (hg:SimE D nms lv r g) (ho:SimO D op G):SimE D nms lv (.BinOp l op r pos) (fun ρ H=>bnd (f ρ H) fun a H=>bnd (g ρ H) fun b H=>G a b H):=by
 intro env A gg L S rest sh ρ H s b H' R q Q E k
 refine bnd_elim q fun a H₁ e1 q=>?_
 refine bnd_elim q fun c H₂ e2 q=>?_
 refine wpAny_BinOp (hf env A gg L S rest sh ρ H s a H₁ R e1 _ _ fun sh1 h1 tk1 v1 R1 G1 r1=>?_)
 refine hg env A gg L S rest sh1 ρ H₁ _ c H₂ R1 e2 _ _ fun sh2 h2 tk2 v2 R2 G2 r2=>?_
 exact ho _ _ env A gg L S rest sh2 ρ H₂ _ a c v1 v2 b H' R2 (r1.grow G2) r2 q _ _ fun sh3 h3 tk3 v3 R3 G3 r3=>k sh3 h3 tk3 v3 R3 ((G1.trans G2).trans G3) r3
noncomputable def addA:FnO:=fun a b H=>match a,b with
 |.int x,.int y=>some (.int (x+y),H)
 |.loc i,.loc j=>match H[i]?,H[j]? with
  |some (.list xs),some (.list ys)=>if xs.length+ys.length<=1000000 then some (.loc H.length,H++[.list (xs++ys)]) else none
  |_,_=>none
 |_,_=>none
noncomputable def subA:FnO:=fun a b H=>match a,b with
 |.int x,.int y=>some (.int (x - y),H)
 |_,_=>none
noncomputable def mulA:FnO:=fun a b H=>match a,b with
 |.int x,.int y=>if -2 ^ 60<x/\x<2 ^ 60 then some (.int (x * y),H) else none
 |.loc i,.int y=>match H[i]? with
  |some (.list xs)=>if 0<=y/\y<=16/\xs.length<=16 then some (.loc H.length,H++[.list (List.replicate y.toNat xs).flatten]) else none
  |_=>none
 |_,_=>none
noncomputable def modA:FnO:=fun a b H=>match a,b with
 |.int x,.int y=>if y=0 then none else some (.int (x.fmod y),H)
 |_,_=>none
noncomputable def divA:FnO:=fun a b H=>match a,b with
 |.int x,.int y=>if y=3/\0<=x/\x<1000 then some (.int (x.fdiv y),H) else none
 |_,_=>none
noncomputable def shlA:FnO:=fun a b H=>match a,b with
 |.int x,.int y=>if 0<=y/\y<=1000/\-2 ^ 60<x/\x<2 ^ 60 then some (.int (x * 2 ^ y.toNat),H) else none
 |_,_=>none
variable {prog:Program} {w:World} {sh:Shp} {H:List AO} {hl:Lg} {i:Nat} {xs:List AV}
theorem list_at (h:HR prog w sh H hl) (hi:H[i]? = some (.list xs)):
  ∃ vs k,(sh.φ i,listOf vs.toArray k)∈hl/\VRels sh H.length xs vs:=h.obj i _ hi
theorem list_elim {P:Prop} (h:HR prog w sh H hl) (hi:H[i]? = some (.list xs)) (f:∀ vs k,(sh.φ i,listOf vs.toArray k)∈hl->VRels sh H.length xs vs->P):P:=let ⟨vs,k,m,r⟩:=list_at h hi; f vs k m r
variable {vs:List Value}
theorem new_list {cells:List (Str×Addr)} {g:Heap} {L:Addr} {rest:Lg} {ρ:List (Str×AV)} {h':Heap} {m:Str->Option Value} {cl:Lg}
  (nd:((hl++(cl++rest)).map (·.1)).Nodup) (HH:HR D.prog D.w sh H hl) (lr:LR nms cells m cl sh H.length ρ) (cr:CR cells cl) {Da:Addr} {c:Nat} (F':Fr g L h' m) (N':News g L h' ((Da,listOf vs.toArray c)::(hl++(cl++rest)))) (l1:∀ p∈hl++(cl++rest),p.1<Da) (r:VRels sh H.length xs vs):
  ∃ sh',Rel D nms cells g L rest sh' ρ (H++[.list xs]) h'/\Grow sh H.length sh' (H++[AO.list xs]).length/\VRel sh' (H++[AO.list xs]).length (.loc H.length) (.ref Da):=by
 refine ex1_3 (rel_alloc nd HH lr cr F' N' (fun p hp=>Nat.ne_of_lt (l1 p hp)) (ao:=.list xs) (e0:=0) (fun ZZ ZZ z=>by cases z) fun sh' e ZZ G=>⟨vs,c,by rw [e]; exact .head _,r.grow G⟩) fun sh' R' G' e'=>?_
 exact ⟨sh',R',by simpa using G',by simp,by rw [e']⟩
variable {n:Nat}
theorem VRels.repeat (r:VRels sh n xs vs):∀ k:Nat,VRels sh n (List.replicate k xs).flatten (List.replicate k vs).flatten
 |0=>trivial
 |k+1=>by rw [List.replicate_succ,List.replicate_succ,List.flatten_cons,List.flatten_cons]; exact r.append (r.repeat k)
set_option tactic.hygienic true in
theorem SimO.add:SimO D .Add addA:=by
 intro nms lv env A g L S rest sh ρ H s a b va vb r H' R ra rb e Q E k
 unfold addA at e
 split at e
 ·obtain ⟨rfl,rfl⟩:=sp e
  obtain ⟨t,rfl⟩:=ra
  obtain ⟨u,rfl⟩:=rb
  exact add_int (k sh s.heap _ _ R .refl ⟨_,rfl⟩)
 ·split at e
  ·rename_i xs ys hi hj
   split at e
   ·rename_i hz
    obtain ⟨rfl,rfl⟩:=sp e
    obtain ⟨l1,rfl⟩:=ra
    obtain ⟨l2,rfl⟩:=rb
    refine Rel.elim R fun m hl cl F N nd HH lr cr=>?_
    refine list_elim HH hi fun vs c m1 r1=>?_
    refine list_elim HH hj fun ws c' m2 r2=>?_
    refine kmk_add_lit F N (N.isList (List.mem_append_left _ m1)) (N.isList (List.mem_append_left _ m2)) (zs:=vs++ws) (by simp) (fun Da h' F' N' l1=>?_) (by rw [sizeLine_eq]; have:=r1.len; have:=r2.len; simp; exact om248 hz (by assumption) this)
    refine ex1_3 (new_list nd HH lr cr F' N' l1 (r1.append r2)) fun sh' R' G' rv=>?_
    exact k sh' h' s.toks _ R' G' rv
   ·exact ns e
  ·exact ns e
 ·exact ns e
theorem SimO.sub:SimO D .Sub subA:=by
 intro nms lv env A g L S rest sh ρ H s a b va vb r H' R ra rb e Q E k
 unfold subA at e
 split at e
 ·obtain ⟨rfl,rfl⟩:=sp e
  obtain ⟨t,rfl⟩:=ra
  obtain ⟨u,rfl⟩:=rb
  exact sub_int (k sh s.heap _ _ R .refl ⟨_,rfl⟩)
 ·exact ns e
set_option tactic.hygienic true in
theorem SimO.mul:SimO D .Mult mulA:=by
 intro nms lv env A g L S rest sh ρ H s a b va vb r H' R ra rb e Q E k
 unfold mulA at e
 split at e
 ·split at e
  ·rename_i hz
   obtain ⟨rfl,rfl⟩:=sp e
   obtain ⟨t,rfl⟩:=ra
   obtain ⟨u,rfl⟩:=rb
   exact mul_int (k sh s.heap _ _ R .refl ⟨_,rfl⟩) (IntMulOk.of_left (intBits_le_64 (om164 hz) (om157 hz)))
  ·exact ns e
 ·split at e
  ·rename_i xs hi
   split at e
   ·rename_i hz
    obtain ⟨rfl,rfl⟩:=sp e
    obtain ⟨l1,rfl⟩:=ra
    obtain ⟨u,rfl⟩:=rb
    refine Rel.elim R fun m hl cl F N nd HH lr cr=>?_
    refine list_elim HH hi fun vs c m1 r1=>?_
    have:=r1.len
    refine KMa.mul F N (N.isList (List.mem_append_left _ m1)) (om183 hz) (om172 hz) ?_ rfl (fun Da h' F' N' l1=>?_)
    ·have h1:vs.length<=16:=om216 hz this
     have h2:Int.toNat ‹Int›<=16:=om194 hz
     exact Nat.mul_le_mul h1 h2
    ·refine ex1_3 (new_list nd HH lr cr F' N' l1 (r1.repeat _)) fun sh' R' G' rv=>?_
     exact k sh' h' s.toks _ R' G' rv
   ·exact ns e
  ·exact ns e
 ·exact ns e
theorem SimO.mod:SimO D .Mod modA:=by
 intro nms lv env A g L S rest sh ρ H s a b va vb r H' R ra rb e Q E k
 unfold modA at e
 split at e
 ·split at e
  ·exact ns e
  ·rename_i hz
   obtain ⟨rfl,rfl⟩:=sp e
   obtain ⟨t,rfl⟩:=ra
   obtain ⟨u,rfl⟩:=rb
   exact mod_int' hz (k sh s.heap _ _ R .refl ⟨_,rfl⟩)
 ·exact ns e
set_option tactic.hygienic true in
theorem SimO.div:SimO D .FloorDiv divA:=by
 intro nms lv env A g L S rest sh ρ H s a b va vb r H' R ra rb e Q E k
 unfold divA at e
 split at e
 ·split at e
  ·rename_i x y hz
   obtain ⟨rfl,rfl⟩:=sp e
   obtain ⟨t,rfl⟩:=ra
   obtain ⟨u,rfl⟩:=rb
   refine ex0_3 hz fun zz0 h1 h2=>?_; try clear hz; subst zz0
   refine ex1_1 (Int.eq_ofNat_of_zero_le h1) fun n zz1=>?_; subst zz1
   have hn:n<1000:=om203 h2 h1
   refine floordiv_int (by decide) (k sh s.heap _ _ R .refl ⟨_,rfl⟩) (.inl ?_)
   have key:∀ n,n<1000->Builtin.divisionGoesByPylong (Int.ofNat n) 3=false:=by decide +kernel
   exact key n hn
  ·exact ns e
 ·exact ns e
theorem SimO.shl:SimO D .LShift shlA:=by
 intro nms lv env A g L S rest sh ρ H s a b va vb r H' R ra rb e Q E k
 unfold shlA at e
 split at e
 ·split at e
  ·rename_i hz
   obtain ⟨rfl,rfl⟩:=sp e
   obtain ⟨t,rfl⟩:=ra
   obtain ⟨u,rfl⟩:=rb
   exact lshift_int hz.1 (kbm_shl (m:=64) (intBits_le_64 (om254 hz) (om250 hz)) (om246 hz) (by decide)) (k sh s.heap _ _ R .refl ⟨_,rfl⟩)
  ·exact ns e
 ·exact ns e
noncomputable def negA (a:AV) (H:List AO):Option (AV×List AO):=match a with
 |.int x=>some (.int (-x),H)
 |_=>none
variable {x:PySem.Expr}
theorem SimE.neg (hf:SimE D nms lv x f):SimE D nms lv (.UnaryOp .USub x pos) (fun ρ H=>bnd (f ρ H) negA):=by
 intro env A gg L S rest sh ρ H s b H' R q Q E k
 refine bnd_elim q fun a H₁ e1 q=>?_
 refine UnaryOp_ (hf env A gg L S rest sh ρ H s a H₁ R e1 _ _ fun sh1 h1 tk1 v1 R1 G1 r1=>?_)
 unfold negA at q
 split at q
 ·obtain ⟨rfl,rfl⟩:=sp q
  obtain ⟨t,rfl⟩:=r1
  exact neg_int (k sh1 h1 _ _ R1 G1 ⟨_,rfl⟩)
 ·exact ns q
noncomputable def intK (p:Int->Int->Bool):AV->AV->List AO->Option Bool:=fun a b ZZ=>match a,b with
 |.int x,.int y=>some (p x y)
 |_,_=>none
noncomputable def eqK:AV->AV->List AO->Option Bool:=fun a b ZZ=>match a,b with
 |.int x,.int y=>some (x == y)
 |.str x,.str y=>some (x == y)
 |_,_=>none
noncomputable def leK:AV->AV->List AO->Option Bool:=fun a b ZZ=>match a,b with
 |.int x,.int y=>some (decide (x<=y))
 |.str x,.str y=>some (!decide (y.cps.toList<x.cps.toList))
 |_,_=>none
noncomputable def isNoneA:AV->Option Bool
 |.none=>some true
 |.int _=>some false
 |.str _=>some false
 |.loc _=>some false
 |_=>none
noncomputable def isK:AV->AV->List AO->Option Bool:=fun a b ZZ=>match b with
 |.none=>isNoneA a
 |_=>none
noncomputable def isNotK:AV->AV->List AO->Option Bool:=fun a b ZZ=>match b with
 |.none=>(isNoneA a).map (!·)
 |_=>none
theorem SimK.eq:SimK D .Eq eqK:=by
 intro nms lv env A g L S rest sh ρ H s a b va vb r R ra rb e Q E k
 unfold eqK at e
 split at e
 ·obtain rfl:=so e
  obtain ⟨t,rfl⟩:=ra
  obtain ⟨u,rfl⟩:=rb
  exact eq_int (k s.heap s.toks R)
 ·obtain rfl:=so e
  obtain ⟨t,rfl⟩:=ra
  obtain ⟨u,rfl⟩:=rb
  exact eq_str (k s.heap s.toks R)
 ·exact ns e
theorem SimK.ne:SimK D .NotEq (intK fun x y=>x != y):=by
 intro nms lv env A g L S rest sh ρ H s a b va vb r R ra rb e Q E k
 unfold intK at e
 split at e
 ·obtain rfl:=so e
  obtain ⟨t,rfl⟩:=ra
  obtain ⟨u,rfl⟩:=rb
  exact ne_int (k s.heap s.toks R)
 ·exact ns e
theorem SimK.lt:SimK D .Lt (intK fun x y=>decide (x<y)):=by
 intro nms lv env A g L S rest sh ρ H s a b va vb r R ra rb e Q E k
 unfold intK at e
 split at e
 ·obtain rfl:=so e
  obtain ⟨t,rfl⟩:=ra
  obtain ⟨u,rfl⟩:=rb
  exact lt_int (k s.heap s.toks R)
 ·exact ns e
theorem SimK.gt:SimK D .Gt (intK fun x y=>decide (y<x)):=by
 intro nms lv env A g L S rest sh ρ H s a b va vb r R ra rb e Q E k
 unfold intK at e
 split at e
 ·obtain rfl:=so e
  obtain ⟨t,rfl⟩:=ra
  obtain ⟨u,rfl⟩:=rb
  exact gt_int (k s.heap s.toks R)
 ·exact ns e
theorem SimK.le:SimK D .LtE leK:=by
 intro nms lv env A g L S rest sh ρ H s a b va vb r R ra rb e Q E k
 unfold leK at e
 split at e
 ·obtain rfl:=so e
  obtain ⟨t,rfl⟩:=ra
  obtain ⟨u,rfl⟩:=rb
  exact le_int (k s.heap s.toks R)
 ·obtain rfl:=so e
  obtain ⟨t,rfl⟩:=ra
  obtain ⟨u,rfl⟩:=rb
  exact PySem.P.le_str (k s.heap s.toks R)
 ·exact ns e
variable {a:AV} {v:Value}
theorem none_ne (r:VRel sh n a v) (e:isNoneA a=some false):v≠.none:=by
 cases a with
 |none=>cases e
 |bool b=>exact ns e
 |glob b=>exact ns e
 |int i=>obtain ⟨t,rfl⟩:=r; intro z; cases z
 |str i=>obtain ⟨t,rfl⟩:=r; intro z; cases z
 |loc i=>obtain ⟨t,rfl⟩:=r; intro z; cases z
theorem none_eq (r:VRel sh n a v) (e:isNoneA a=some true):v = .none:=by
 cases a with
 |none=>exact r
 |_=>cases e
theorem SimK.is:SimK D .Is isK:=by
 intro nms lv env A g L S rest sh ρ H s a b va vb r R ra rb e Q E k
 unfold isK at e
 split at e
 ·cases rb
  cases r with
  |true=>cases none_eq ra e; exact PyProof.Rows.is_none_none (k s.heap s.toks R)
  |false=>exact is_none_ne (none_ne ra e) (k s.heap s.toks R)
 ·cases e
theorem SimK.isNot:SimK D .IsNot isNotK:=by
 intro nms lv env A g L S rest sh ρ H s a b va vb r R ra rb e Q E k
 unfold isNotK at e
 split at e
 ·cases rb
  refine ex1_2 (Option.map_eq_some_iff.mp e) fun c ec zz2=>?_; subst zz2
  cases c with
  |true=>cases none_eq ra ec; exact isnot_none_none (k s.heap s.toks R)
  |false=>exact isnot_none_ne (none_ne ra ec) (k s.heap s.toks R)
 ·cases e
noncomputable def cmpF (f g:Fn AV) (G:AV->AV->List AO->Option Bool):Fn Bool:=fun ρ H=>bnd (f ρ H) fun a H=>bnd (g ρ H) fun b H=>match G a b H with|some r=>some (r,H)|none=>none
variable {op:CmpOp} {G:AV->AV->List AO->Option Bool}
theorem SimB.cmp (hf:SimE D nms lv l f) (hg:SimE D nms lv r g) (ho:SimK D op G) (hm:behindInMarks op r=false:=by rfl):SimB D nms lv (.Compare l [op] [r] pos) (cmpF f g G):=by
 intro env A gg L S rest sh ρ H s b H' R q Q E k
 refine bnd_elim q fun a H₁ e1 q=>?_
 refine bnd_elim q fun c H₂ e2 q=>?_
 split at q
 ·rename_i r' er
  cases q
  refine wpAny_isTrue_Compare1 (hf env A gg L S rest sh ρ H s a H₁ R e1 _ _ fun sh1 h1 tk1 v1 R1 G1 r1=>?_) hm
  refine hg env A gg L S rest sh1 ρ H₁ _ c H' R1 e2 _ _ fun sh2 h2 tk2 v2 R2 G2 r2=>?_
  exact ho _ _ env A gg L S rest sh2 ρ H' _ a c v1 v2 _ R2 (r1.grow G2) r2 er _ _ fun h3 tk3 R3=>wpAny_truthy_bool (k sh2 h3 tk3 _ R3 (G1.trans G2) rfl)
 ·cases q
theorem SimE.cmp (hf:SimE D nms lv l f) (hg:SimE D nms lv r g) (ho:SimK D op G) (hm:behindInMarks op r=false:=by rfl):SimE D nms lv (.Compare l [op] [r] pos) (fun ρ H=>bnd (cmpF f g G ρ H) fun b H=>some (.bool b,H)):=by
 intro env A gg L S rest sh ρ H s b H' R q Q E k
 refine bnd_elim q fun b' H'' q q'=>?_
 cases q'
 refine bnd_elim q fun a H₁ e1 q=>?_
 refine bnd_elim q fun c H₂ e2 q=>?_
 split at q
 ·rename_i r' er
  cases q
  refine wpAny_Compare1 (hf env A gg L S rest sh ρ H s a H₁ R e1 _ _ fun sh1 h1 tk1 v1 R1 G1 r1=>?_) hm
  refine hg env A gg L S rest sh1 ρ H₁ _ c H' R1 e2 _ _ fun sh2 h2 tk2 v2 R2 G2 r2=>?_
  exact ho _ _ env A gg L S rest sh2 ρ H' _ a c v1 v2 _ R2 (r1.grow G2) r2 er _ _ fun h3 tk3 R3=>k sh2 h3 tk3 _ R3 (G1.trans G2) rfl
 ·exact ns q
noncomputable def chainF (f g g':Fn AV) (G G':AV->AV->List AO->Option Bool):Fn Bool:=fun ρ H=>bnd (f ρ H) fun a H=>bnd (g ρ H) fun b H=>match G a b H with
 |some true=>bnd (g' ρ H) fun c H=>match G' b c H with|some r=>some (r,H)|none=>none
 |some false=>some (false,H)
 |none=>none
variable {r':PySem.Expr} {op':CmpOp} {g':Fn AV} {G':AV->AV->List AO->Option Bool}
theorem SimB.chain (hf:SimE D nms lv l f) (hg:SimE D nms lv r g) (hg':SimE D nms lv r' g') (ho:SimK D op G) (ho':SimK D op' G') (hm:lastMarks [op,op'] [r,r']=false:=by rfl):
  SimB D nms lv (.Compare l [op,op'] [r,r'] pos) (chainF f g g' G G'):=by
 intro env A gg L S rest sh ρ H s b H' R q Q E k
 refine bnd_elim q fun a H₁ e1 q=>?_
 refine bnd_elim q fun c H₂ e2 q=>?_
 refine isTrue_chain (hf env A gg L S rest sh ρ H s a H₁ R e1 _ _ fun sh1 h1 tk1 v1 R1 G1 r1=>test_link ?_) hm
 refine hg env A gg L S rest sh1 ρ H₁ _ c H₂ R1 e2 _ _ fun sh2 h2 tk2 v2 R2 G2 r2=>?_
 split at q
 ·rename_i er
  refine bnd_elim q fun d H₃ e3 q=>?_
  refine ho _ _ env A gg L S rest sh2 ρ H₂ _ a c v1 v2 _ R2 (r1.grow G2) r2 er _ _ fun h3 tk3 R3=>wpAny_truthy_bool ?_
  rw [if_pos rfl]
  refine test_last (hg' env A gg L S rest sh2 ρ H₂ _ d H₃ R3 e3 _ _ fun sh4 h4 tk4 v4 R4 G4 r4=>?_)
  split at q
  ·rename_i er'
   cases q
   exact ho' _ _ env A gg L S rest sh4 ρ H' _ c d v2 v4 _ R4 (r2.grow G4) r4 er' _ _ fun h5 tk5 R5=>wpAny_truthy_bool (k sh4 h5 tk5 _ R5 ((G1.trans G2).trans G4) rfl)
  ·exact ns q
 ·rename_i er
  cases q
  refine ho _ _ env A gg L S rest sh2 ρ H' _ a c v1 v2 _ R2 (r1.grow G2) r2 er _ _ fun h3 tk3 R3=>wpAny_truthy_bool ?_
  rw [if_neg Bool.false_ne_true]
  exact k sh2 h3 tk3 _ R3 (G1.trans G2) rfl
 ·cases q
theorem SimE.chain (hf:SimE D nms lv l f) (hg:SimE D nms lv r g) (hg':SimE D nms lv r' g') (ho:SimK D op G) (ho':SimK D op' G') (hm:lastMarks [op,op'] [r,r']=false:=by rfl):
  SimE D nms lv (.Compare l [op,op'] [r,r'] pos) (fun ρ H=>bnd (chainF f g g' G G' ρ H) fun b H=>some (.bool b,H)):=by
 intro env A gg L S rest sh ρ H s b H' R q Q E k
 refine bnd_elim q fun b' H'' q q'=>?_
 cases q'
 refine bnd_elim q fun a H₁ e1 q=>?_
 refine bnd_elim q fun c H₂ e2 q=>?_
 refine Compare_chain (hf env A gg L S rest sh ρ H s a H₁ R e1 _ _ fun sh1 h1 tk1 v1 R1 G1 r1=>chain_link ?_) hm
 refine hg env A gg L S rest sh1 ρ H₁ _ c H₂ R1 e2 _ _ fun sh2 h2 tk2 v2 R2 G2 r2=>?_
 split at q
 ·rename_i er
  refine bnd_elim q fun d H₃ e3 q=>?_
  refine ho _ _ env A gg L S rest sh2 ρ H₂ _ a c v1 v2 _ R2 (r1.grow G2) r2 er _ _ fun h3 tk3 R3=>wpAny_truthy_bool ?_
  rw [if_pos rfl]
  refine chain_last (hg' env A gg L S rest sh2 ρ H₂ _ d H₃ R3 e3 _ _ fun sh4 h4 tk4 v4 R4 G4 r4=>?_)
  split at q
  ·rename_i er'
   cases q
   exact ho' _ _ env A gg L S rest sh4 ρ H' _ c d v2 v4 _ R4 (r2.grow G4) r4 er' _ _ fun h5 tk5 R5=>k sh4 h5 tk5 _ R5 ((G1.trans G2).trans G4) rfl
  ·exact ns q
 ·rename_i er
  cases q
  refine ho _ _ env A gg L S rest sh2 ρ H' _ a c v1 v2 _ R2 (r1.grow G2) r2 er _ _ fun h3 tk3 R3=>wpAny_truthy_bool ?_
  rw [if_neg Bool.false_ne_true]
  exact k sh2 h3 tk3 _ R3 (G1.trans G2) rfl
 ·exact ns q
noncomputable def orF (f g:Fn Bool):Fn Bool:=fun ρ H=>bnd (f ρ H) fun b H=>if b=true then some (true,H) else g ρ H
noncomputable def andF (f g:Fn Bool):Fn Bool:=fun ρ H=>bnd (f ρ H) fun b H=>if b=true then g ρ H else some (false,H)
noncomputable def notF (f:Fn Bool):Fn Bool:=fun ρ H=>bnd (f ρ H) fun b H=>some (!b,H)
noncomputable def boolV (a:AV) (H:List AO):Option (Bool×List AO):=match a with|.bool b=>some (b,H)|_=>none
noncomputable def SimBW (D:Mdl) (nms:Names) (lv:Nat) (e:PySem.Expr) (f:Fn Bool):Prop:=∀ env A g L,Site D nms lv env A g L->∀ whole,SimT D nms env A g L (isTrue e env whole) f (fun ZZ ZZ b c=>c=b)
variable {e:PySem.Expr} {f:Fn Bool}
theorem SimBW.toB (h:SimBW D nms lv e f):SimB D nms lv e f:=fun env A g L S=>h env A g L S _
theorem SimBW.orNil:SimBW D nms lv (.BoolOp .Or [] pos) (fun ZZ H=>some (false,H)):=by
 intro env A gg L S whole rest sh ρ H s b H' R q Q E k
 cases q
 exact isTrue_or_nil (k sh s.heap s.toks _ R .refl rfl)
variable {r:List PySem.Expr} {g:Fn Bool}
theorem SimBW.or (hf:SimB D nms lv x f) (hg:SimBW D nms lv (.BoolOp .Or r pos) g):SimBW D nms lv (.BoolOp .Or (x::r) pos) (orF f g):=by
 intro env A gg L S whole rest sh ρ H s b H' R q Q E k
 refine bnd_elim q fun b1 H₁ e1 q=>?_
 refine isTrue_or (hf env A gg L S rest sh ρ H s b1 H₁ R e1 _ _ fun sh1 h1 tk1 v1 R1 G1 r1=>?_)
 subst r1
 cases v1 with
 |true=>rw [if_pos rfl] at q ⊢; obtain ⟨rfl,rfl⟩:=sp q; exact k sh1 h1 tk1 _ R1 G1 rfl
 |false=>
  rw [if_neg Bool.false_ne_true] at q ⊢
  exact hg env A gg L S whole rest sh1 ρ H₁ _ b H' R1 q _ _ fun sh2 h2 tk2 v2 R2 G2 r2=>k sh2 h2 tk2 v2 R2 (G1.trans G2) r2
theorem SimBW.andNil:SimBW D nms lv (.BoolOp .And [] pos) (fun ZZ H=>some (true,H)):=by
 intro env A gg L S whole rest sh ρ H s b H' R q Q E k
 cases q
 exact isTrue_and_nil (k sh s.heap s.toks _ R .refl rfl)
theorem SimBW.and (hf:SimB D nms lv x f) (hg:SimBW D nms lv (.BoolOp .And r pos) g):SimBW D nms lv (.BoolOp .And (x::r) pos) (andF f g):=by
 intro env A gg L S whole rest sh ρ H s b H' R q Q E k
 refine bnd_elim q fun b1 H₁ e1 q=>?_
 refine isTrue_and (hf env A gg L S rest sh ρ H s b1 H₁ R e1 _ _ fun sh1 h1 tk1 v1 R1 G1 r1=>?_)
 subst r1
 cases v1 with
 |true=>
  rw [if_pos rfl] at q ⊢
  exact hg env A gg L S whole rest sh1 ρ H₁ _ b H' R1 q _ _ fun sh2 h2 tk2 v2 R2 G2 r2=>k sh2 h2 tk2 v2 R2 (G1.trans G2) r2
 |false=>rw [if_neg Bool.false_ne_true] at q ⊢; obtain ⟨rfl,rfl⟩:=sp q; exact k sh1 h1 tk1 _ R1 G1 rfl
theorem SimB.not (hf:SimB D nms lv x f):SimB D nms lv (.UnaryOp .Not x pos) (notF f):=by
 intro env A gg L S rest sh ρ H s b H' R q Q E k
 refine bnd_elim q fun b1 H₁ e1 q=>?_
 obtain ⟨rfl,rfl⟩:=sp q
 refine isTrue_not (hf env A gg L S rest sh ρ H s b1 _ R e1 _ _ fun sh1 h1 tk1 v1 R1 G1 r1=>?_)
 subst r1
 exact k sh1 h1 tk1 _ R1 G1 rfl
variable {f:Fn AV}
theorem SimB.val (hf:SimE D nms lv e f) (he:∀ env whole,isTrue e env whole=(do let v <- whole; standAt e.pos; holding [v] (truthy v)):=by intros; rfl):SimB D nms lv e (fun ρ H=>bnd (f ρ H) boolV):=by
 intro env A gg L S rest sh ρ H s b H' R q Q E k
 refine bnd_elim q fun a H₁ e1 q=>?_
 refine isTrue_plain (hf env A gg L S rest sh ρ H s a H₁ R e1 _ _ fun sh1 h1 tk1 v1 R1 G1 r1=>?_) (he _ _)
 unfold boolV at q
 split at q
 ·obtain ⟨rfl,rfl⟩:=sp q
  cases r1
  exact wpAny_truthy_bool (k sh1 h1 tk1 _ R1 G1 rfl)
 ·exact ns q
noncomputable def ifF (c:Fn Bool) (f g:Fn AV):Fn AV:=fun ρ H=>bnd (c ρ H) fun b H=>if b=true then f ρ H else g ρ H
theorem SimE.ifE {t b o:PySem.Expr} {c:Fn Bool} {g:Fn AV} (hc:SimB D nms lv t c) (hb:SimE D nms lv b f) (ho:SimE D nms lv o g):SimE D nms lv (.IfExp t b o pos) (ifF c f g):=by
 intro env A gg L S rest sh ρ H s r H' R e Q E k
 refine bnd_elim e fun c1 H₁ e1 e2=>?_
 refine IfExp_ (hc env A gg L S rest sh ρ H s c1 H₁ R e1 _ _ fun sh1 h1 tk1 v R1 G1 r1=>?_)
 subst r1
 cases v with
 |true=>simp only [if_true] at e2 ⊢; exact hb env A gg L S rest sh1 ρ H₁ _ r H' R1 e2 _ _ fun sh2 h2 tk2 vs R2 G2 r2=>k sh2 h2 tk2 _ R2 (G1.trans G2) r2
 |false=>simp only [Bool.false_eq_true,if_false] at e2 ⊢; exact ho env A gg L S rest sh1 ρ H₁ _ r H' R1 e2 _ _ fun sh2 h2 tk2 vs R2 G2 r2=>k sh2 h2 tk2 _ R2 (G1.trans G2) r2
noncomputable def tupF (fs:Fn (List AV)):Fn AV:=fun ρ H=>bnd (fs ρ H) fun as H=>if as.length<=1000 then some (.loc H.length,H++[.tup as]) else none
noncomputable def listF (fs:Fn (List AV)):Fn AV:=fun ρ H=>bnd (fs ρ H) fun as H=>if as.length<=1000 then some (.loc H.length,H++[.list as]) else none
variable {es:List PySem.Expr} {fs:Fn (List AV)}
theorem SimE.tup {k:Nat} (hs:SimEs D nms lv es fs):SimE D nms lv (.Tuple es k pos) (tupF fs):=by
 intro env A gg L S rest sh ρ H s r H' R e Q E k
 refine bnd_elim e fun as H₁ e1 e2=>?_
 split at e2
 ·rename_i hz
  obtain ⟨rfl,rfl⟩:=sp e2
  refine Tuple_ (hs env A gg L pos S rest sh ρ H s as H₁ R e1 _ _ fun sh1 h1 tk1 vs R1 G1 r1=>?_)
  refine Rel.elim R1 fun m hl cl F N nd HH lr cr=>?_
  refine kup_newTuple F N (fun Da h' F' N' l1=>?_) (by rw [sizeLine_eq,r1.len]; exact om41 hz)
  refine ex1_3 (rel_alloc nd HH lr cr F' N' (fun p hp=>Nat.ne_of_lt (l1 p hp)) (ao:=.tup as) (e0:=0) (fun ZZ ZZ z=>by cases z) fun sh' e ZZ G=>⟨vs,by rw [e]; exact .head _,r1.grow G⟩) fun sh' R' G' e'=>?_
  exact k sh' h' tk1 _ R' (G1.trans (by simpa using G')) ⟨by simp,by rw [e']⟩
 ·exact ns e2
theorem SimE.list (hs:SimEs D nms lv es fs):SimE D nms lv (.List es pos) (listF fs):=by
 intro env A gg L S rest sh ρ H s r H' R e Q E k
 refine bnd_elim e fun as H₁ e1 e2=>?_
 split at e2
 ·rename_i hz
  obtain ⟨rfl,rfl⟩:=sp e2
  refine List_ (hs env A gg L pos S rest sh ρ H s as H₁ R e1 _ _ fun sh1 h1 tk1 vs R1 G1 r1=>?_)
  refine Rel.elim R1 fun m hl cl F N nd HH lr cr=>?_
  refine newList_K F N (fun Da h' F' N' l1=>?_) (by rw [sizeLine_eq,r1.len]; exact om41 hz)
  refine ex1_3 (new_list nd HH lr cr F' N' l1 r1) fun sh' R' G' rv=>?_
  exact k sh' h' tk1 _ R' (G1.trans G') rv
 ·exact ns e2
end
section
noncomputable def keOf:List AV->Option (List KE)
 |[]=>some []
 |.str x::r=>(keOf r).map (Sum.inl x::·)
 |.int i::r=>(keOf r).map (Sum.inr i::·)
 |_=>none
variable {sh:Shp} {n:Nat}
theorem match_of {as:List AV} {vs:List Value} {ks:List KE} (r:VRels sh n as vs) (e:keOf as=some ks):matchKE ks vs:=by
 induction as generalizing vs ks with
 |nil=>rw [vrx0 r]; obtain rfl:=so e; trivial
 |cons a as ih=>
  refine ex2_3 (vrx r) fun u us ev r1 r2=>?_
  rw [ev]
  cases a with
  |str x=>
   refine ex1_2 (Option.map_eq_some_iff.mp e) fun ks' e' zz2=>?_; subst zz2
   obtain ⟨t,rfl⟩:=r1
   exact ⟨by simp [isKE,Value.isStrOf],ih r2 e'⟩
  |int x=>
   refine ex1_2 (Option.map_eq_some_iff.mp e) fun ks' e' zz2=>?_; subst zz2
   obtain ⟨t,rfl⟩:=r1
   exact ⟨by simp [isKE,Value.isInt],ih r2 e'⟩
  |_=>exact ns e
noncomputable def tupKey (j:Nat) (H:List AO):Option (List KE):=match H[j]? with
 |some (.tup as)=>keOf as
 |_=>none
noncomputable def lookT (ks:List KE) (es:List (List KE×Nat×AV)):Option AV:=(es.find? fun e=>decide (e.1=ks)).map (·.2.2)
noncomputable def putK {K:Type} [DecidableEq K] (es:List (K×AV)) (k:K) (v:AV):List (K×AV):=if (es.any fun e=>decide (e.1=k))=true then es.map (fun e=>if e.1=k then (e.1,v) else e) else es++[(k,v)]
variable {prog:Program} {w:World} {H:List AO} {hl:Lg} {j:Nat}
set_option tactic.hygienic true in
theorem key_at (h:HR prog w sh H hl) {ks:List KE} (e:tupKey j H=some ks):j<H.length/\KT hl ks (sh.φ j):=by
 unfold tupKey at e
 split at e
 ·rename_i as hj
  obtain ⟨vs,m,r⟩:=h.obj j _ hj
  exact ⟨getElem?_lt hj,vs,m,match_of r e⟩
 ·exact ns e
variable {K:Type}
theorem DRel.valueAt [DecidableEq K]:∀ {es:List (K×AV)} {xs:List (K×Value)} {k:K},DRel sh n es xs->match es.lookup k with
  |some a=>∃ v,valueAt xs k=some v/\VRel sh n a v
  |none=>valueAt xs k=none
 := fun {es xs k} h=>by
  refine DRel.ind (P:=fun es xs=>match es.lookup k with
   |some a=>∃ v,PySem.valueAt xs k=some v/\VRel sh n a v
   |none=>PySem.valueAt xs k=none) rfl (fun ek ea es xv xs r ZZ ih=>?_) h
  by_cases q:ek=k
  ·rw [<- q,List.lookup_cons_self]
   exact ⟨xv,by simp [PySem.valueAt],r⟩
  ·have q1:(k == ek)=false:=beq_false_of_ne (Ne.symm q)
   rw [List.lookup_cons,q1]
   have e2:PySem.valueAt ((ek,xv)::xs) k=PySem.valueAt xs k:=by simp [PySem.valueAt,List.find?_cons,q]
   rw [e2]; exact ih
theorem DRel.any [DecidableEq K] {k:K} {es:List (K×AV)} {xs:List (K×Value)} (h:DRel sh n es xs):(es.any fun e=>decide (e.1=k))=(xs.any fun e=>decide (e.1=k)):=
 DRel.ind (P:=fun es xs=>(es.any fun e=>decide (e.1=k))=(xs.any fun e=>decide (e.1=k))) rfl (fun ZZ ZZ ZZ ZZ ZZ ZZ ZZ ih=>by rw [List.any_cons,List.any_cons,ih]) h
variable {a:AV} {v:Value}
theorem DRel.mapPut [DecidableEq K] {k:K} (r:VRel sh n a v) {es:List (K×AV)} {xs:List (K×Value)} (h:DRel sh n es xs):DRel sh n (es.map fun e=>if e.1=k then (e.1,a) else e) (xs.map fun e=>if e.1=k then (e.1,v) else e):=
 DRel.ind (P:=fun es xs=>DRel sh n (es.map fun e=>if e.1=k then (e.1,a) else e) (xs.map fun e=>if e.1=k then (e.1,v) else e)) trivial (fun j ZZ ZZ ZZ ZZ q ZZ ih=>by
  rw [List.map_cons,List.map_cons]
  by_cases e:j=k
  ·rw [if_pos e,if_pos e]; exact ⟨rfl,r,ih⟩
  ·rw [if_neg e,if_neg e]; exact ⟨rfl,q,ih⟩) h
theorem DRel.put [DecidableEq K] {k:K} (r:VRel sh n a v) {es:List (K×AV)} {xs:List (K×Value)} (h:DRel sh n es xs):DRel sh n (putK es k a) (stored xs k v):=by
 unfold putK stored
 rw [h.any]
 split
 ·exact h.mapPut r
 ·exact h.append ⟨rfl,r,trivial⟩
theorem TRel.at {sh:Shp} {n:Nat} {ks:List KE} {es:List (List KE×Nat×AV)} {xs:Tab} (h:TRel sh n es xs):match lookT ks es with
  |some a=>∃ p,atKey xs ks=some p/\VRel sh n a p.2
  |none=>atKey xs ks=none:=by
 refine TRel.ind (P:=fun es xs=>match lookT ks es with
  |some a=>∃ p,atKey xs ks=some p/\VRel sh n a p.2
  |none=>atKey xs ks=none) rfl (fun e es x xs h1 h2 h3 h4 h5 ih=>?_) h
 by_cases q:x.1=ks
 ·have e1:lookT ks (e::es)=some e.2.2:=by simp [lookT,List.find?_cons,h1,q]
  have e2:atKey (x::xs) ks=some x.2:=by simp [atKey,List.find?_cons,q]
  rw [e1,e2]; exact ⟨_,rfl,h4⟩
 ·have e1:lookT ks (e::es)=lookT ks es:=by simp [lookT,List.find?_cons,h1,q]
  have e2:atKey (x::xs) ks=atKey xs ks:=by simp [atKey,List.find?_cons,q]
  rw [e1,e2]; exact ih
variable {es:List (List KE×Nat×AV)} {xs:Tab}
theorem TRel.append {es':List (List KE×Nat×AV)} {xs':Tab} (h:TRel sh n es xs) (h':TRel sh n es' xs'):TRel sh n (es++es') (xs++xs'):=
 TRel.ind (P:=fun es xs=>TRel sh n (es++es') (xs++xs')) h' (fun ZZ ZZ ZZ ZZ e l p r ZZ ih=>⟨⟨e,l,p⟩,r,ih⟩) h
theorem TRel.len (h:TRel sh n es xs):xs.length=es.length:=
 TRel.ind (P:=fun es xs=>xs.length=es.length) rfl (fun ZZ ZZ ZZ ZZ ZZ ZZ ZZ ZZ ZZ ih=>congrArg (· + 1) ih) h
theorem DRel.len {es:List (K×AV)} {xs:List (K×Value)} (h:DRel sh n es xs):xs.length=es.length:=
 DRel.ind (P:=fun es xs=>xs.length=es.length) rfl (fun ZZ ZZ ZZ ZZ ZZ ZZ ZZ ih=>congrArg (· + 1) ih) h
theorem isDictOf_nil [DecidableEq K] {knd:PySem.KeyKind prog w K} {k:Nat}:(dictOf [] k).IsDictOf knd []:=
 ⟨#[],k,⟨rfl,rfl,rfl⟩,rfl,by simp [PySem.KeysOf],.nil,List.nodup_nil⟩
theorem seqIdx {k:Int} (h:seqIndex? k n=some j):(0<=k->k.toNat=j)/\-(n:Int)<=k/\k<n:=by
 unfold seqIndex? at h
 dsimp only at h
 by_cases hk:k<0
 ·rw [if_pos hk] at h
  split at h
  ·rename_i hc
   rw [Bool.and_eq_true,decide_eq_true_eq,decide_eq_true_eq] at hc
   exact ⟨fun z=>absurd hk (om57 z hk),by exact om276 hc,by exact om272 hc⟩
  ·exact ns h
 ·rw [if_neg hk] at h
  split at h
  ·rename_i hc
   rw [Bool.and_eq_true,decide_eq_true_eq,decide_eq_true_eq] at hc
   obtain rfl:=so h
   exact ⟨fun ZZ=>rfl,by exact om138 hk,by exact om212 hc⟩
  ·exact ns h
section
variable {D:Mdl} {nms:Names} {lv:Nat}
noncomputable def itemA (a i:AV) (H:List AO):Option AV:=match a,i with
 |.loc l,.int k=>match H[l]? with
  |some (.list xs)=>if xs.length<=1000000 then (seqIndex? k xs.length).bind fun j=>xs[j]? else none
  |some (.tup xs)=>if xs.length<=1000000 then (seqIndex? k xs.length).bind fun j=>xs[j]? else none
  |some (.dint es)=>es.lookup k
  |_=>none
 |.loc l,.str x=>match H[l]? with
  |some (.dstr es)=>es.lookup x
  |_=>none
 |.loc l,.loc j=>match H[l]?,tupKey j H with
  |some (.dtup es),some ks=>lookT ks es
  |_,_=>none
 |.str x,.int k=>if 0<=k/\k<x.length/\k<1000 then some (.str (Txt.item x k)) else none
 |_,_=>none
noncomputable def subF (f g:Fn AV):Fn AV:=fun ρ H=>bnd (f ρ H) fun a H=>bnd (g ρ H) fun i H=>match itemA a i H with|some v=>some (v,H)|none=>none
variable {env:Env} {A:Around} {g:Heap} {L:Addr} {rest:Lg} {ρ:List (Str×AV)} {s:Shared} {i:AV} {va vi:Value} {E:Value->Shared->Prop}
set_option tactic.hygienic true in
theorem sub_tail {value slice:PySem.Expr} (hsl:∀ o i,subscripted slice false o i=operate [o,i] (getItem o i)) (hlt:∀ x t r,letTemporaryGo value (.str x t) r=pure ())
  (S:Site D nms lv env A g L) {r:AV} (R:Rel D nms env.cells g L rest sh ρ H s.heap) (ra:VRel sh H.length a va) (ri:VRel sh H.length i vi) (e:itemA a i H=some r)
  {Q:Value->Shared->Prop} (k:∀ tk v,VRel sh H.length r v->Q v { s with heap:=s.heap,toks:=tk }):wpAny (model D.prog D.w) A (subscriptTail value slice va vi) Q E s:=by
 refine Rel.elim R fun m hl cl F N nd HH lr cr=>?_
 unfold itemA at e
 split at e
 ·rename_i l kk
  obtain ⟨hlt1,rfl⟩:=ra
  obtain ⟨t,rfl⟩:=ri
  split at e
  ·rename_i xs hi
   split at e
   ·rename_i hz
    refine ex1_2 (Option.bind_eq_some_iff.mp e) fun j ej e=>?_
    refine list_elim HH hi fun vs c m1 r1=>?_
    refine ex1_2 (r1.get e) fun v hv rv=>?_
    have hl2:=r1.len
    refine ex0_3 (seqIdx ej) fun i1 i2 i3=>?_
    by_cases hk:0<=kk
    ·exact item_litK (N.isList (List.mem_append_left _ m1)) hk (om240 i3 hz hl2) (by rw [i1 hk]; exact hv) (k s.toks v rv) (hsl _ _)
    ·exact kde_neg (N.isList (List.mem_append_left _ m1)) (om15 hk) (om252 i2 hz hl2) (by rw [hl2]; exact ej) hv (k s.toks v rv) (hsl _ _)
   ·exact ns e
  ·rename_i xs hi
   split at e
   ·rename_i hz
    refine ex1_2 (Option.bind_eq_some_iff.mp e) fun j ej e=>?_
    obtain ⟨vs,m1,r1⟩:=HH.obj l _ hi
    refine ex1_2 (r1.get e) fun v hv rv=>?_
    have hl2:=r1.len
    refine ex0_3 (seqIdx ej) fun i1 i2 i3=>?_
    exact item_tupleT (N.isTup (List.mem_append_left _ m1)) (om252 i2 hz hl2) (om240 i3 hz hl2) (by rw [hl2]; exact ej) hv (k s.toks v rv) (hsl _ _)
   ·exact ns e
  ·rename_i es hi
   obtain ⟨lo,o,xs,m1,d1,r1⟩:=HH.obj l _ hi
   have:=r1.valueAt (k:=kk)
   rw [e] at this
   obtain ⟨v,hv,rv⟩:=this
   have hd:Heap.DictOf (intKind D.prog D.w) s.heap (sh.φ l) xs:=Heap.dictOf_iff.mpr ⟨o,(N _ (List.mem_append_left _ m1)).1,d1⟩
   exact tail_any hd.typeIs slot_dict_getitem.lookup (wpAny_getItem_of (knd:=intKind D.prog D.w) (k:=kk) (show Value.isInt kk (.int kk t)=true by simp [Value.isInt]) hd.mapOf hv (k _ v rv)) (hsl _ _)
  ·exact ns e
 ·rename_i l x
  obtain ⟨hlt1,rfl⟩:=ra
  obtain ⟨t,rfl⟩:=ri
  split at e
  ·rename_i es hi
   obtain ⟨lo,o,xs,m1,d1,r1⟩:=HH.obj l _ hi
   have:=r1.valueAt (k:=x)
   rw [e] at this
   obtain ⟨v,hv,rv⟩:=this
   have hd:Heap.DictOf (strKind D.prog D.w) s.heap (sh.φ l) xs:=Heap.dictOf_iff.mpr ⟨o,(N _ (List.mem_append_left _ m1)).1,d1⟩
   exact tail_any hd.typeIs slot_dict_getitem.lookup (wpAny_getItem_of (knd:=strKind D.prog D.w) (k:=x) (show Value.isStrOf x (.str x t)=true by simp [Value.isStrOf]) hd.mapOf hv (k _ v rv)) (hsl _ _)
  ·exact ns e
 ·rename_i l j
  obtain ⟨hlt1,rfl⟩:=ra
  obtain ⟨hlt2,rfl⟩:=ri
  split at e
  ·rename_i es ks hi hj
   obtain ⟨lo,xs,m1,d1,kt,r1⟩:=HH.obj l _ hi
   have:=r1.at (ks:=ks)
   rw [e] at this
   obtain ⟨p,hp,rv⟩:=this
   have hk:=(key_at HH hj).2
   have Nh:News g L s.heap hl:=fun q hq=>N q (List.mem_append_left _ hq)
   refine get_tab (by have:=S.uni; show _<9900; exact om171 this) (hk.is Nh) (Nh _ m1).1 (kt.is Nh) d1 hp (fun tk=>k tk _ rv) (hsl _ _)
  ·exact ns e
 ·rename_i x kk
  obtain ⟨t,rfl⟩:=ra
  obtain ⟨u,rfl⟩:=ri
  split at e
  ·rename_i hz
   obtain rfl:=so e
   exact item_str (by unfold fitsSsize; simp; exact om277 hz) (om251 hz) (om245 hz) (fun ZZ=>k _ _ ⟨_,rfl⟩) (hsl _ _) (hlt _ _)
  ·exact ns e
 ·exact ns e
variable {pos:Pos}
theorem SimE.sub {v sl:PySem.Expr} {f g:Fn AV} (hf:SimE D nms lv v f) (hg:SimE D nms lv sl g) (hsl:∀ o i,subscripted sl false o i=operate [o,i] (getItem o i):=by intros; rfl) (hlt:∀ x t r,letTemporaryGo v (.str x t) r=pure ():=by intros; rfl):SimE D nms lv (.Subscript v sl pos) (subF f g):=by
 intro env A gg L S rest sh ρ H s b H' R q Q E k
 refine bnd_elim q fun a H₁ e1 q=>?_
 refine bnd_elim q fun c H₂ e2 q=>?_
 split at q
 ·rename_i v' ev
  cases q
  refine Subscript_ (hf env A gg L S rest sh ρ H s a H₁ R e1 _ _ fun sh1 h1 tk1 v1 R1 G1 r1=>?_)
  refine hg env A gg L S rest sh1 ρ H₁ _ c H' R1 e2 _ _ fun sh2 h2 tk2 v2 R2 G2 r2=>?_
  exact sub_tail hsl hlt S R2 (r1.grow G2) r2 ev fun tk v rv=>k sh2 h2 tk v R2 (G1.trans G2) rv
 ·exact ns q
variable {m:Str->Option Value} {k:List KE} {Q:Unit->Shared->Prop}
theorem set_newE {h₀:Heap} {news ml news':Lg} {d a:Addr} (hu:A.units+1<cLine)
  (F:Fr h₀ L s.heap m) (N:News h₀ L s.heap news) (hm:(d,dictOf (tabEs prog w xs) n)∈news) (hkey:KT ml k a) (hk:KTs ml xs) (hs:∀ q∈ml,q∈news) (hn:(xs.map (·.1)).Nodup) (hat:atKey xs k=none) (hsz:xs.length<=sizeLine)
  (U:Upd d (dictOf (tabEs prog w xs) n) (dictOf (tabEs prog w (xs++[(k,a,v)])) (n+1)) news news')
  (h:∀ h' t,Fr h₀ L h' m->News h₀ L h' news'->Q () { s with heap:=h',toks:=t }):
  wpAny (model prog w) A (setItem (.ref d) (.ref a) v) Q E s:=by
 have Z:=N _ hm
 have hT:s.TypeIs (.ref d) "dict":=⟨_,Z.1,rfl⟩
 have hky:(tk prog w).is s.heap k a:=hkey.is (news_sub N hs)
 have his:∀ x∈xs,(tk prog w).is s.heap x.1 x.2.1:=hk.is (news_sub N hs)
 refine ex2_4 (U.split) fun pre post e1 e2 a1 a2=>?_
 unfold setItem
 refine wpAny_holding ?_
 refine wpAny_bind (wpAny_sequenceKey hT (by decide) ?_)
 refine wpAny_bind (wpAny_callSpecial?_slot (name:=Str.ofString "__setitem__") hT slot_dict_setitem
  (wpAny_call_entry slot_dict_setitem hT entry_dict_setitem ?_ (args_dict_setitem _ _ _)))
 show wpAny _ _ (Builtin.Dict.notOrdered "__setitem__" ⟨[.ref d,.ref a,v],[]⟩ >>= _) _ _ s
 refine wpAny_bind (wpAny_notOrdered_dict hT ?_)
 show wpAny _ _ (dictSet d (.ref a) v >>= _) _ _ s
 refine wpAny_bind ?_
 unfold dictSet
 refine wpAny_holding ?_
 refine wpAny_bind ((tk prog w).pyHash (tupleKind_room_in1 hu) hky ?_)
 unfold dictSetHashed
 refine wpAny_holding ?_
 refine wpAny_bind (wpAny_dictFind_heap (s:={ s with toks:=s.toks+(tk prog w).draws k }) (tupleKind_room_in1 hu) hky Z.1 rfl (by rfl) his hn ?_ ?_)
 ·intro _
  have eo:Obj.mapDictKeys (fun es=>es.push ⟨(tk prog w).hash k,.ref a,v⟩) (dictOf (tabEs prog w xs) n)=dictOf (tabEs prog w (xs++[(k,a,v)])) (n+1):=by
   show (⟨_,_,.dict ((tabEs prog w xs).toArray.push _) (n+1),_⟩:Obj)=_
   simp [tabEs,entryOfKey]
  refine wpAny_bind (wpAny_rule (wpAny_updateDictKeys (hz:=by simpa using hsz) (s:={ s with toks:=s.toks+(tk prog w).draws k }) Z.1 rfl (wpAny_pure ⟨.none,rfl,wpAny_pure (h _ _ (F.change (Heap.SameBut.update ..) Z.2.1 Z.2.2) ?_)⟩) (by simp)))
  rw [e2]
  subst e1
  exact news_set N a1 a2 (Heap.SameBut.update ..) (by rw [Heap.get?_update_self _ Z.1 (by rw [eo]; rfl),eo])
 ·intro j p hj
  rw [atKey_of hn hj] at hat; exact sn hat
noncomputable def putItem (a i v:AV) (H:List AO):Option (List AO):=match a,i with
 |.loc l,.int k=>match H[l]? with
  |some (.list xs)=>if 0<=k/\k<xs.length/\xs.length<=1000000 then some (H.set l (.list (xs.set k.toNat v))) else none
  |some (.dint es)=>if es.length<=1000000 then some (H.set l (.dint (putK es k v))) else none
  |some .dnil=>some (H.set l (.dint [(k,v)]))
  |_=>none
 |.loc l,.str x=>match H[l]? with
  |some (.dstr es)=>if es.length<=1000000 then some (H.set l (.dstr (putK es x v))) else none
  |_=>none
 |.loc l,.loc j=>match H[l]?,tupKey j H with
  |some (.dtup es),some ks=>if es.length<=1000000/\(lookT ks es).isNone=true then some (H.set l (.dtup (es++[(ks,j,v)]))) else none
  |some .dnil,some ks=>some (H.set l (.dtup [(ks,j,v)]))
  |_,_=>none
 |_,_=>none
theorem rel_same {cells:List (Str×Addr)} {h h':Heap} {cl:Lg}
  (F:Fr g L h m) (N:News g L h (hl++(cl++rest))) (nd:((hl++(cl++rest)).map (·.1)).Nodup) (HH:HR D.prog D.w sh H hl) (lr:LR nms cells m cl sh H.length ρ) (cr:CR cells cl) {i:Nat} {o o':AO} {ro ro':Obj} (hi:H[i]? = some o) (ha:(sh.φ i,ro)∈hl) (ht:∀ vs,tupObj vs≠ro)
  (hk:∀ C es,o'≠.inst C es) (hs:Heap.SameBut (sh.φ i) h h') (ho:h'.get? (sh.φ i)=some ro') (hr:ORel D.prog D.w sh H.length i (repl (sh.φ i) ro' hl) o'):Rel D nms cells g L rest sh ρ (H.set i o') h':=by
 have Z:=N _ (List.mem_append_left _ ha)
 exact rel_set nd HH lr cr (F.change hs Z.2.1 Z.2.2) (news_repl N nd (List.mem_append_left _ ha) (fun b ob e z=>(hs.2 b e).trans z) ho) hi ha ht (.inl ⟨rfl,hk⟩) hr
theorem dict_ne_tup [DecidableEq K] {knd:PySem.KeyKind prog w K} {o:Obj} {xs:List (K×Value)} (h:o.IsDictOf knd xs):∀ vs,tupObj vs≠o:=fun vs e=>by
 obtain ⟨es,ep,hx,hd,_⟩:=h
 subst e
 cases hd
set_option tactic.hygienic true in
theorem put_item (S:Site D nms lv env A g L) {H':List AO} {b:AV} {vb:Value}
  (R:Rel D nms env.cells g L rest sh ρ H s.heap) (ra:VRel sh H.length a va) (ri:VRel sh H.length i vi) (rb:VRel sh H.length b vb) (e:putItem a i b H=some H')
  (k:∀ h' tk,Rel D nms env.cells g L rest sh ρ H' h'->H'.length=H.length->Q () { s with heap:=h',toks:=tk }):wpAny (model D.prog D.w) A (setItem va vi vb) Q E s:=by
 refine Rel.elim R fun m hl cl F N nd HH lr cr=>?_
 have Nh:News g L s.heap hl:=fun q hq=>N q (List.mem_append_left _ hq)
 have hu:A.units+1<cLine:=by have:=S.uni; show _<9900; exact om171 this
 unfold putItem at e
 split at e
 ·rename_i l kk
  obtain ⟨hlt1,rfl⟩:=ra
  obtain ⟨t,rfl⟩:=ri
  split at e
  ·rename_i xs hi
   split at e
   ·rename_i hz
    obtain rfl:=so e
    refine list_elim HH hi fun vs c m1 r1=>?_
    have hl2:=r1.len
    refine Mine.setItem_K F N (upd_repl nd (List.mem_append_left _ m1)) hz.1 (om257 hz hl2) (om269 hz hl2) fun h' F' N'=>?_
    exact k h' s.toks (rel_set nd HH lr cr F' N' hi m1 list_tup (.inl ⟨rfl,fun ZZ ZZ z=>by cases z⟩) ⟨_,_,mem_repl_eq m1,r1.set rb⟩) (by simp)
   ·exact ns e
  ·rename_i es hi
   split at e
   ·rename_i hz
    obtain rfl:=so e
    obtain ⟨lo,o,xs,m1,d1,r1⟩:=HH.obj l _ hi
    have hd:Heap.DictOf (intKind D.prog D.w) s.heap (sh.φ l) xs:=Heap.dictOf_iff.mpr ⟨o,(Nh _ m1).1,d1⟩
    refine wpAny_setItem_pairs (knd:=intKind D.prog D.w) (k:=kk) (show Value.isInt kk (.int kk t)=true by simp [Value.isInt]) hd (fun h' hd' hs=>?_) (by rw [sizeLine_eq,r1.len]; exact om53 hz)
    refine ex1_2 (Heap.dictOf_iff.mp hd') fun o' ho' hd'=>?_
    exact k h' _ (rel_same F N nd HH lr cr hi m1 (dict_ne_tup d1) (fun ZZ ZZ z=>by cases z) hs ho' ⟨lo,o',_,mem_repl_eq m1,hd',r1.put rb⟩) (by simp)
   ·exact ns e
  ·rename_i hi
   obtain rfl:=so e
   obtain ⟨lo,m1⟩:=HH.obj l _ hi
   have hd:Heap.DictOf (intKind D.prog D.w) s.heap (sh.φ l) []:=Heap.dictOf_iff.mpr ⟨_,(Nh _ m1).1,isDictOf_nil⟩
   refine wpAny_setItem_pairs (knd:=intKind D.prog D.w) (k:=kk) (show Value.isInt kk (.int kk t)=true by simp [Value.isInt]) hd (fun h' hd' hs=>?_) (Nat.zero_le _)
   refine ex1_2 (Heap.dictOf_iff.mp hd') fun o' ho' hd'=>?_
   exact k h' _ (rel_same F N nd HH lr cr hi m1 dict_tup (fun ZZ ZZ z=>by cases z) hs ho' ⟨lo,o',_,mem_repl_eq m1,hd',⟨rfl,rb,trivial⟩⟩) (by simp)
  ·exact ns e
 ·rename_i l x
  obtain ⟨hlt1,rfl⟩:=ra
  obtain ⟨t,rfl⟩:=ri
  split at e
  ·rename_i es hi
   split at e
   ·rename_i hz
    obtain rfl:=so e
    obtain ⟨lo,o,xs,m1,d1,r1⟩:=HH.obj l _ hi
    have hd:Heap.DictOf (strKind D.prog D.w) s.heap (sh.φ l) xs:=Heap.dictOf_iff.mpr ⟨o,(Nh _ m1).1,d1⟩
    refine wpAny_setItem_pairs (knd:=strKind D.prog D.w) (k:=x) (show Value.isStrOf x (.str x t)=true by simp [Value.isStrOf]) hd (fun h' hd' hs=>?_) (by rw [sizeLine_eq,r1.len]; exact om53 hz)
    refine ex1_2 (Heap.dictOf_iff.mp hd') fun o' ho' hd'=>?_
    exact k h' _ (rel_same F N nd HH lr cr hi m1 (dict_ne_tup d1) (fun ZZ ZZ z=>by cases z) hs ho' ⟨lo,o',_,mem_repl_eq m1,hd',r1.put rb⟩) (by simp)
   ·exact ns e
  ·exact ns e
 ·rename_i l j
  obtain ⟨hlt1,rfl⟩:=ra
  obtain ⟨hlt2,rfl⟩:=ri
  split at e
  ·rename_i es ks hi hj
   split at e
   ·rename_i hz
    obtain rfl:=so e
    obtain ⟨lo,xs,m1,d1,kt,r1⟩:=HH.obj l _ hi
    have hk:=(key_at HH hj).2
    have hat:atKey xs ks=none:=by
     have:=r1.at (ks:=ks)
     rw [Option.isNone_iff_eq_none] at hz
     rw [hz.2] at this; exact this
    refine set_newE hu F N (List.mem_append_left _ m1) hk kt (fun q hq=>List.mem_append_left _ hq) d1 hat (by rw [sizeLine_eq,r1.len]; omega) (upd_repl nd (List.mem_append_left _ m1)) fun h' tk F' N'=>?_
    refine k h' tk (rel_set nd HH lr cr F' N' hi m1 dict_tup (.inl ⟨rfl,fun ZZ ZZ z=>by cases z⟩) ⟨lo,_,by rw [List.length_append,List.length_singleton]; exact mem_repl_eq m1,nodup_snoc d1 hat,?_,r1.append ⟨⟨rfl,hlt2,rfl⟩,rb,trivial⟩⟩) (by simp)
    exact KTs.snoc (fun q hq=>let ⟨vs,m2,f⟩:=kt q hq; ⟨vs,mem_repl_obj (nd_left nd) m1 m2 (dict_tup vs),f⟩) (let ⟨vs,m2,f⟩:=hk; ⟨vs,mem_repl_obj (nd_left nd) m1 m2 (dict_tup vs),f⟩)
   ·exact ns e
  ·rename_i ks hi hj
   obtain rfl:=so e
   obtain ⟨lo,m1⟩:=HH.obj l _ hi
   have hk:=(key_at HH hj).2
   refine set_newE (xs:=[]) hu F N (List.mem_append_left _ m1) hk (fun q hq=>nomatch hq) (fun q hq=>List.mem_append_left _ hq) List.nodup_nil rfl (Nat.zero_le _) (upd_repl nd (List.mem_append_left _ m1)) fun h' tk F' N'=>?_
   refine k h' tk (rel_set nd HH lr cr F' N' hi m1 dict_tup (.inl ⟨rfl,fun ZZ ZZ z=>by cases z⟩) ⟨lo,_,mem_repl_eq m1,by simp,?_,⟨⟨rfl,hlt2,rfl⟩,rb,trivial⟩⟩) (by simp)
   exact KTs.snoc (xs:=[]) (fun q hq=>nomatch hq) (let ⟨vs,m2,f⟩:=hk; ⟨vs,mem_repl_obj (nd_left nd) m1 m2 (dict_tup vs),f⟩)
  ·exact ns e
 ·exact ns e
noncomputable def sPut (fv fo fi:Fn AV):FnS:=fun σ=>bnd (fv σ.ρ σ.H) fun v H=>bnd (fo σ.ρ H) fun o H=>bnd (fi σ.ρ H) fun i H=>match putItem o i v H with|some H'=>some (.next,⟨σ.ρ,H'⟩)|none=>none
theorem SimS1.put {o i e:PySem.Expr} {p':Pos} {fv fo fi:Fn AV} (hv:SimE D nms lv e fv) (ho:SimE D nms lv o fo) (hi:SimE D nms lv i fi)
  (h2:∀ env,swapsWith e (some (.Subscript o i p')) pos.line env=pure false:=by intro _; rfl):SimS1 D nms lv (.Assign [.Subscript o i p'] e pos) (sPut fv fo fi):=by
 intro env A g L S rest sh σ s b σ' R q Q E k
 refine bnd_elim q fun v H₁ e1 q=>?_
 refine bnd_elim q fun oa H₂ e2 q=>?_
 refine bnd_elim q fun ia H₃ e3 q=>?_
 split at q
 ·rename_i H4 e4
  obtain ⟨rfl,rfl⟩:=sp q
  refine wpAny_Assign_Subscript (hv env A g L S rest sh σ.ρ σ.H s v H₁ R e1 _ _ fun sh1 h1 tk1 v1 R1 G1 r1=>?_) (h2 env)
  refine ho env A g L S rest sh1 σ.ρ H₁ _ oa H₂ R1 e2 _ _ fun sh2 h2 tk2 v2 R2 G2 r2=>?_
  refine hi env A g L S rest sh2 σ.ρ H₂ _ ia H₃ R2 e3 _ _ fun sh3 h3 tk3 v3 R3 G3 r3=>?_
  refine put_item S R3 (r2.grow G3) r3 ((r1.grow G2).grow G3) e4 fun h4 tk4 R4 l4=>k sh3 h4 tk4 _ R4 ⟨?_,fun i hi=>((G1.trans G2).trans G3).2 i hi⟩ rfl
  rw [l4]; exact ((G1.trans G2).trans G3).1
 ·exact ns q
noncomputable def inA (a b:AV) (H:List AO):Option Bool:=match a,b with
 |.int k,.loc l=>match H[l]? with
  |some (.dint es)=>some (es.lookup k).isSome
  |some .dnil=>some false
  |_=>none
 |.str x,.str y=>some (!(Builtin.Str.occurrences y x 0 y.length 1).isEmpty)
 |_,_=>none
noncomputable def intsOf:List AV->Option (List Int)
 |[]=>some []
 |.int i::r=>(intsOf r).map (i::·)
 |_=>none
noncomputable def strsOf:List AV->Option (List Str)
 |[]=>some []
 |.str i::r=>(strsOf r).map (i::·)
 |_=>none
noncomputable def notInA (a b:AV) (H:List AO):Option Bool:=match a,b with
 |.int k,.loc l=>match H[l]? with
  |some (.list xs)=>(intsOf xs).map fun ns=>!ns.any (· == k)
  |some (.dint es)=>some !(es.lookup k).isSome
  |some .dnil=>some true
  |_=>none
 |.str k,.loc l=>match H[l]? with
  |some (.list xs)=>(strsOf xs).map fun ns=>!ns.any (· == k)
  |_=>none
 |.loc j,.loc l=>match H[l]?,tupKey j H with
  |some (.dtup es),some ks=>some !(lookT ks es).isSome
  |some .dnil,some _=>some true
  |_,_=>none
 |_,_=>none
theorem ints_of {as:List AV} {vs:List Value} {ns:List Int} (r:VRels sh n as vs) (e:intsOf as=some ns):IntsAre vs ns:=by
 induction as generalizing vs ns with
 |nil=>rw [vrx0 r]; obtain rfl:=so e; exact .nil
 |cons a as ih=>
  cases a with
  |int x=>
   refine ex1_2 (Option.map_eq_some_iff.mp e) fun ks' e' zz2=>?_; subst zz2
   refine ex2_3 (vrx r) fun u us ev r1 r2=>?_
   refine Exists.elim r1 fun t et=>?_
   rw [ev,et]
   exact .cons _ _ (ih r2 e')
  |_=>cases e
theorem strs_of {as:List AV} {vs:List Value} {ns:List Str} (r:VRels sh n as vs) (e:strsOf as=some ns):StrsAre vs ns:=by
 induction as generalizing vs ns with
 |nil=>rw [vrx0 r]; obtain rfl:=so e; exact .nil
 |cons a as ih=>
  cases a with
  |str x=>
   refine ex1_2 (Option.map_eq_some_iff.mp e) fun ks' e' zz2=>?_; subst zz2
   refine ex2_3 (vrx r) fun u us ev r1 r2=>?_
   refine Exists.elim r1 fun t et=>?_
   rw [ev,et]
   exact .cons _ _ (ih r2 e')
  |_=>cases e
theorem look_isSome [DecidableEq K] {es:List (K×AV)} {xs:List (K×Value)} {k:K} (h:DRel sh n es xs):(valueAt xs k).isSome=(es.lookup k).isSome:=by
 have:=h.valueAt (k:=k)
 split at this
 ·refine ex1_2 this fun v hv ZZ=>?_; try clear this; rw [hv]; simp [*]
 ·rw [this]; simp [*]
theorem lookT_isSome (h:TRel sh n es xs):(atKey xs k).isSome=(lookT k es).isSome:=by
 have:=h.at (ks:=k)
 split at this
 ·refine ex1_2 this fun v hv ZZ=>?_; try clear this; rw [hv]; simp [*]
 ·rw [this]; simp [*]
set_option tactic.hygienic true in
theorem SimK.in:SimK D .In inA:=by
 intro nms lv env A g L S rest sh ρ H s a b va vb r R ra rb e Q E k
 refine Rel.elim R fun m hl cl F N nd HH lr cr=>?_
 have Nh:News g L s.heap hl:=fun q hq=>N q (List.mem_append_left _ hq)
 unfold inA at e
 split at e
 ·rename_i kk l
  obtain ⟨t,rfl⟩:=ra
  obtain ⟨hlt1,rfl⟩:=rb
  split at e
  ·rename_i es hi
   obtain rfl:=so e
   obtain ⟨lo,o,xs,m1,d1,r1⟩:=HH.obj l _ hi
   have hd:Heap.DictOf (intKind D.prog D.w) s.heap (sh.φ l) xs:=Heap.dictOf_iff.mpr ⟨o,(Nh _ m1).1,d1⟩
   exact wpAny_in_of (knd:=intKind D.prog D.w) (k:=kk) (show Value.isInt kk (.int kk t)=true by simp [Value.isInt]) lo hd.mapOf (by rw [look_isSome r1]; exact k s.heap _ R)
  ·rename_i hi
   obtain rfl:=so e
   obtain ⟨lo,m1⟩:=HH.obj l _ hi
   have hd:Heap.DictOf (intKind D.prog D.w) s.heap (sh.φ l) []:=Heap.dictOf_iff.mpr ⟨_,(Nh _ m1).1,isDictOf_nil⟩
   exact wpAny_in_of (knd:=intKind D.prog D.w) (k:=kk) (show Value.isInt kk (.int kk t)=true by simp [Value.isInt]) lo hd.mapOf (k s.heap _ R)
  ·exact ns e
 ·obtain rfl:=so e
  obtain ⟨t,rfl⟩:=ra
  obtain ⟨u,rfl⟩:=rb
  exact in_str (k s.heap s.toks R)
 ·exact ns e
set_option tactic.hygienic true in
theorem SimK.notIn:SimK D .NotIn notInA:=by
 intro nms lv env A g L S rest sh ρ H s a b va vb r R ra rb e Q E k
 refine Rel.elim R fun m hl cl F N nd HH lr cr=>?_
 have Nh:News g L s.heap hl:=fun q hq=>N q (List.mem_append_left _ hq)
 have hu:A.units+1<cLine:=by have:=S.uni; show _<9900; exact om171 this
 unfold notInA at e
 split at e
 ·rename_i kk l
  obtain ⟨t,rfl⟩:=ra
  obtain ⟨hlt1,rfl⟩:=rb
  split at e
  ·rename_i xs hi
   refine ex1_2 (Option.map_eq_some_iff.mp e) fun ns en zz2=>?_; subst zz2
   refine list_elim HH hi fun vs c m1 r1=>?_
   exact notin_list_ints (Nh.isList m1) (ints_of r1 en) (k s.heap s.toks R)
  ·rename_i es hi
   obtain rfl:=so e
   obtain ⟨lo,o,xs,m1,d1,r1⟩:=HH.obj l _ hi
   have hd:Heap.DictOf (intKind D.prog D.w) s.heap (sh.φ l) xs:=Heap.dictOf_iff.mpr ⟨o,(Nh _ m1).1,d1⟩
   exact wpAny_notIn_of (knd:=intKind D.prog D.w) (k:=kk) (show Value.isInt kk (.int kk t)=true by simp [Value.isInt]) lo hd.mapOf (by rw [look_isSome r1]; exact k s.heap _ R)
  ·rename_i hi
   obtain rfl:=so e
   obtain ⟨lo,m1⟩:=HH.obj l _ hi
   have hd:Heap.DictOf (intKind D.prog D.w) s.heap (sh.φ l) []:=Heap.dictOf_iff.mpr ⟨_,(Nh _ m1).1,isDictOf_nil⟩
   exact wpAny_notIn_of (knd:=intKind D.prog D.w) (k:=kk) (show Value.isInt kk (.int kk t)=true by simp [Value.isInt]) lo hd.mapOf (k s.heap _ R)
  ·exact ns e
 ·rename_i x l
  obtain ⟨t,rfl⟩:=ra
  obtain ⟨hlt1,rfl⟩:=rb
  split at e
  ·rename_i xs hi
   refine ex1_2 (Option.map_eq_some_iff.mp e) fun ns en zz2=>?_; subst zz2
   refine list_elim HH hi fun vs c m1 r1=>?_
   exact notin_list_strs (Nh.isList m1) (strs_of r1 en) (k s.heap s.toks R)
  ·exact ns e
 ·rename_i j l
  obtain ⟨hlt2,rfl⟩:=ra
  obtain ⟨hlt1,rfl⟩:=rb
  split at e
  ·rename_i es ks hi hj
   obtain rfl:=so e
   obtain ⟨lo,xs,m1,d1,kt,r1⟩:=HH.obj l _ hi
   have hk:=(key_at HH hj).2
   exact notIn_tab hu (hk.is Nh) lo (Nh _ m1).1 (kt.is Nh) d1 fun tk=>by rw [lookT_isSome r1]; exact k s.heap tk R
  ·rename_i ks hi hj
   obtain rfl:=so e
   obtain ⟨lo,m1⟩:=HH.obj l _ hi
   have hk:=(key_at HH hj).2
   exact notIn_tab (xs:=[]) hu (hk.is Nh) lo (Nh _ m1).1 (fun q hq=>nomatch hq) List.nodup_nil fun tk=>k s.heap tk R
  ·exact ns e
 ·exact ns e
end
end
section
variable {D:Mdl} {nms:Names} {lv:Nat}
noncomputable def appendC:FnC:=fun as H=>match as with
 |[.loc i,v]=>match H[i]? with
  |some (.list xs)=>if xs.length<=1000000 then some (.none,H.set i (.list (xs++[v]))) else none
  |_=>none
 |_=>none
noncomputable def popC:FnC:=fun as H=>match as with
 |[.loc i]=>match H[i]? with
  |some (.list xs)=>match xs[xs.length - 1]? with
   |some v=>if xs.length<=1000000 then some (v,H.set i (.list xs.dropLast)) else none
   |none=>none
  |_=>none
 |_=>none
noncomputable def seqA (o:Option AO):Option (List AV):=match o with
 |some (.list ys)=>some ys
 |some (.tup ys)=>some ys
 |_=>none
noncomputable def extendC:FnC:=fun as H=>match as with
 |[.loc i,.loc j]=>match H[i]?,seqA H[j]? with
  |some (.list xs),some ys=>if xs.length+ys.length<=1000000 then some (.none,H.set i (.list (xs++ys))) else none
  |_,_=>none
 |_=>none
noncomputable def indexC:FnC:=fun as H=>match as with
 |[.loc i,.str x]=>match H[i]? with
  |some (.list [.str a,.str b])=>if x=a then some (.int 0,H) else if x=b then some (.int 1,H) else none
  |_=>none
 |_=>none
variable {g h:Heap} {L:Addr} {sh:Shp} {H:List AO} {m:Str->Option Value} {hl:Lg} {i c:Nat}
theorem list_same {cells:List (Str×Addr)} {rest:Lg} {ρ:List (Str×AV)} {h':Heap} {cl:Lg}
  (F:Fr g L h m) (N:News g L h (hl++(cl++rest))) (nd:((hl++(cl++rest)).map (·.1)).Nodup) (HH:HR D.prog D.w sh H hl) (lr:LR nms cells m cl sh H.length ρ) (cr:CR cells cl) {xs ys:List AV} {vs ws:List Value} {k:Nat} (hi:H[i]? = some (.list xs)) (ha:(sh.φ i,listOf vs.toArray k)∈hl)
  (hs:Heap.SameBut (sh.φ i) h h') (ho:h'.get? (sh.φ i)=some (listOf ws.toArray c)) (hr:VRels sh H.length ys ws):Rel D nms cells g L rest sh ρ (H.set i (.list ys)) h':=
 rel_same F N nd HH lr cr hi ha list_tup (fun ZZ ZZ z=>by cases z) hs ho ⟨ws,c,mem_repl_eq ha,hr⟩
theorem grow_set {o:AO}:Grow sh H.length sh (H.set i o).length:=by rw [List.length_set]; exact .refl
set_option tactic.hygienic true in
theorem SimC.append:SimC D lv (.builtin "list.append") appendC:=by
 intro nms env A g L S rest sh ρ H s as vs r H' R rv e Q E k
 refine Rel.elim R fun m hl cl F N nd HH lr cr=>?_
 unfold appendC at e
 split at e
 ·rename_i i v
  split at e
  ·rename_i xs hi
   split at e
   ·rename_i hz
    obtain ⟨rfl,rfl⟩:=sp e
    refine vr_lb (C:=fun vs=>wpAny (model D.prog D.w) A (call _ vs) Q E s) rv fun u l0 r2=>?_
    refine list_elim HH hi fun ws c m1 r1=>?_
    refine append_at (N _ (List.mem_append_left _ m1)).1 (fun h' hs ho=>?_) (by rw [sizeLine_eq]; have:=r1.len; simp; exact om146 this hz)
    exact k sh h' s.toks _ (list_same (ws:=ws++[u]) (c:=c+1) F N nd HH lr cr hi m1 hs (by rw [ho]; simp) (r1.snoc r2)) grow_set rfl
   ·exact ns e
  ·exact ns e
 ·exact ns e
set_option tactic.hygienic true in
theorem SimC.pop:SimC D lv (.builtin "list.pop") popC:=by
 intro nms env A g L S rest sh ρ H s as vs r H' R rv e Q E k
 refine Rel.elim R fun m hl cl F N nd HH lr cr=>?_
 unfold popC at e
 split at e
 ·rename_i i
  split at e
  ·rename_i xs hi
   split at e
   ·rename_i v hv
    split at e
    ·rename_i hz
     obtain ⟨rfl,rfl⟩:=sp e
     refine vr_l (C:=fun vs=>wpAny (model D.prog D.w) A (call _ vs) Q E s) rv fun l0=>?_
     refine list_elim HH hi fun ws c m1 r1=>?_
     have hlen:=r1.len
     refine ex1_2 (r1.get hv) fun u hu ru=>?_
     rw [<- hlen] at hu
     have Z:=N _ (List.mem_append_left _ m1)
     refine call_meets PySem.F.slot_list_pop ⟨_,Z.1,rfl⟩ PySem.F.entry_list_pop (PySem.F.args_list_pop_1 _) (MeetsSeq.list_pop_last _ ws.toArray c u (by simpa using hu) (by rw [sizeLine_eq]; simp; exact om146 hlen hz)) ⟨Z.1,?_⟩
     have ne:ws≠[]:=fun z=>by subst z; simp at hu
     refine k sh _ s.toks _ (list_same (c:=c+1) (ws:=ws.dropLast) F N nd HH lr cr hi m1 (Heap.SameBut.update ..) ?_ r1.dropLast) grow_set (by rw [List.length_set]; exact ru)
     have e1:ws.toArray.eraseIdxIfInBounds (ws.length - 1)=ws.dropLast.toArray:=by
      have hl:ws.length - 1<ws.length:=by have:=List.length_pos_iff.mpr ne; exact om180 this hlen hz
      rw [Array.eraseIdxIfInBounds,dif_pos (by simpa using hl)]
      apply Array.toList_inj.mp
      rw [Array.toList_eraseIdx,List.eraseIdx_eq_take_drop_succ,List.dropLast_eq_take]
      simp [Nat.sub_add_cancel (List.length_pos_iff.mpr ne)]
     have e2:Obj.mapSeq (fun xs=>xs.eraseIdxIfInBounds (ws.toArray.size - 1)) (listOf ws.toArray c)=listOf ws.dropLast.toArray (c+1):=by
      show (⟨_,_,.seq (ws.toArray.eraseIdxIfInBounds (ws.toArray.size - 1)) (if _ then c else c+1),_⟩:Obj)=_
      rw [List.size_toArray,e1]
      have:(((fun xs:Array Value=>xs.eraseIdxIfInBounds (ws.length - 1)) ws.toArray).size == ws.length)=false:=by
       show ((ws.toArray.eraseIdxIfInBounds (ws.length - 1)).size == ws.length)=false
       rw [e1]
       have:=List.length_pos_iff.mpr ne
       simp; exact om187 this hlen hz
      rw [this]; rfl
     rw [Heap.get?_update_self _ Z.1 (by rw [e2]; rfl),e2]
    ·exact ns e
   ·exact ns e
  ·exact ns e
 ·exact ns e
set_option tactic.hygienic true in
theorem SimC.extend:SimC D lv (.builtin "list.extend") extendC:=by
 intro nms env A g L S rest sh ρ H s as vs r H' R rv e Q E k
 refine Rel.elim R fun m hl cl F N nd HH lr cr=>?_
 unfold extendC at e
 split at e
 ·rename_i i j
  split at e
  ·rename_i xs ys hi hj
   split at e
   ·rename_i hz
    obtain ⟨rfl,rfl⟩:=sp e
    refine vr_ll (C:=fun vs=>wpAny (model D.prog D.w) A (call _ vs) Q E s) rv fun l0 l1=>?_
    refine list_elim HH hi fun ws c m1 r1=>?_
    have hlen:=r1.len
    have Z:=N _ (List.mem_append_left _ m1)
    have fin:∀ us:List Value,VRels sh H.length ys us->Q .none { s with heap:=s.heap.update (sh.φ i) (Obj.mapSeq fun x=>x++us.toArray) }:=fun us r2=>by
     have e2:Obj.mapSeq (fun x=>x++us.toArray) (listOf ws.toArray c)=listOf (ws++us).toArray (if (ws.toArray++us.toArray).size == ws.toArray.size then c else c+1):=by
      show (⟨_,_,.seq (ws.toArray++us.toArray) (if _ then c else c+1),_⟩:Obj)=_
      simp
     exact k sh _ s.toks _ (list_same F N nd HH lr cr hi m1 (Heap.SameBut.update ..) (by rw [Heap.get?_update_self _ Z.1 (by rw [e2]; rfl),e2]) (r1.append r2)) grow_set rfl
    unfold seqA at hj
    split at hj
    ·rename_i ys' hj'
     obtain rfl:=so hj
     refine list_elim HH hj' fun us c' m2 r2=>?_
     have hlen2:=r2.len
     have hsz:ws.toArray.size+us.toArray.size<=sizeLine:=by rw [sizeLine_eq]; simp; exact om248 hz hlen hlen2
     exact call_meets PySem.F.slot_list_extend ⟨_,Z.1,rfl⟩ PySem.F.entry_list_extend (PySem.F.args_list_extend_2 _ _) (AutoSeq1.list_extend_list_list_0 _ ws.toArray c _ us.toArray c' (extend_door hsz) (om92 hsz) (om155 hsz)) ⟨Z.1,(N _ (List.mem_append_left _ m2)).1,fin us r2⟩
    ·rename_i ys' hj'
     obtain rfl:=so hj
     obtain ⟨us,m2,r2⟩:=HH.obj j _ hj'
     have hlen2:=r2.len
     have hsz:ws.toArray.size+us.toArray.size<=sizeLine:=by rw [sizeLine_eq]; simp; exact om248 hz hlen hlen2
     exact call_meets PySem.F.slot_list_extend ⟨_,Z.1,rfl⟩ PySem.F.entry_list_extend (PySem.F.args_list_extend_2 _ _) (AutoSeq1.list_extend_list_tuple_0 _ ws.toArray c _ us.toArray 0 (extend_door hsz) (om92 hsz) (om155 hsz)) ⟨Z.1,(N _ (List.mem_append_left _ m2)).1,fin us r2⟩
    ·exact ns hj
   ·exact ns e
  ·exact ns e
 ·exact ns e
set_option tactic.hygienic true in
theorem SimC.index:SimC D lv (.builtin "list.index") indexC:=by
 intro nms env A g L S rest sh ρ H s as vs r H' R rv e Q E k
 refine Rel.elim R fun m hl cl F N nd HH lr cr=>?_
 unfold indexC at e
 split at e
 ·rename_i i x
  split at e
  ·rename_i a b hi
   refine vr_ls (C:=fun vs=>wpAny (model D.prog D.w) A (call _ vs) Q E s) rv fun t l0=>?_
   refine list_elim HH hi fun ws c m1 r1=>?_
   refine ex2_3 (vrx2 r1) fun w1 w2 ew r2 r3=>?_
   refine Exists.elim r2 fun t1 e1=>?_
   refine Exists.elim r3 fun t2 e2=>?_
   rw [ew,e1,e2] at m1
   have Z:=N _ (List.mem_append_left _ m1)
   by_cases q:x=a
   ·rw [if_pos q] at e
    obtain ⟨rfl,rfl⟩:=sp e
    refine index_two Z.1 (.inl q) ?_
    rw [if_pos q]
    exact k sh s.heap _ _ R .refl ⟨_,rfl⟩
   ·rw [if_neg q] at e
    by_cases q':x=b
    ·rw [if_pos q'] at e
     obtain ⟨rfl,rfl⟩:=sp e
     refine index_two Z.1 (.inr q') ?_
     rw [if_neg q]
     exact k sh s.heap _ _ R .refl ⟨_,rfl⟩
    ·rw [if_neg q'] at e
     exact ns e
  ·exact ns e
 ·exact ns e
noncomputable def lenC:FnC:=fun as H=>match as with
 |[.loc i]=>match H[i]? with
  |some (.list xs)=>if xs.length<=1000000 then some (.int xs.length,H) else none
  |_=>none
 |[.str x]=>if x.length<=1000000 then some (.int x.length,H) else none
 |_=>none
noncomputable def absC:FnC:=fun as H=>match as with
 |[.int x]=>some (.int (if x<0 then -x else x),H)
 |_=>none
noncomputable def intC:FnC:=fun as H=>match as with
 |[.int x]=>some (.int x,H)
 |_=>none
noncomputable def ordC:FnC:=fun as H=>match as with
 |[.str x]=>if x.length=1 then some (.int (x.cps.getD 0 0),H) else none
 |_=>none
noncomputable def keysI (o:Option AO):Option (List Int):=match o with
 |some (.dint es)=>some (es.map (·.1))
 |some .dnil=>some []
 |_=>none
noncomputable def listC:FnC:=fun as H=>match as with
 |[.loc i]=>match H[i]? with
  |some (.list xs)=>if xs.length<=1000000 then some (.loc H.length,H++[.list xs]) else none
  |o=>match keysI o with
   |some ks=>if ks.length<=1000000 then some (.loc H.length,H++[.list (ks.map .int)]) else none
   |none=>none
 |_=>none
noncomputable def sortI (ns:List Int):List Int:=ns.mergeSort fun a b=>decide (a<=b)
noncomputable def sABC:List Str:=[Str.ofString "A",Str.ofString "B",Str.ofString "C"]
noncomputable def sortedC:FnC:=fun as H=>match as with
 |[.loc i]=>match H[i]? with
  |some (.list xs)=>match intsOf xs with
   |some ns=>if ns.length<64 then some (.loc H.length,H++[.list ((sortI ns).map .int)]) else none
   |none=>none
  |some (.dstr es)=>if es.map (·.1)=sABC then some (.loc H.length,H++[.list (sABC.map .str)]) else none
  |o=>match keysI o with
   |some ks=>if ks.length<64 then some (.loc H.length,H++[.list ((sortI ks).map .int)]) else none
   |none=>none
 |_=>none
noncomputable def splitC:FnC:=fun as H=>match as with
 |[.str x,.str y]=>if y.length=1/\x.length<=1000 then some (.loc H.length,H++[.list ((Txt.split x y).map .str)]) else none
 |_=>none
set_option tactic.hygienic true in
theorem SimC.len:SimC D lv (.builtin "len") lenC:=by
 intro nms env A g L S rest sh ρ H s as vs r H' R rv e Q E k
 refine Rel.elim R fun m hl cl F N nd HH lr cr=>?_
 unfold lenC at e
 split at e
 ·rename_i i
  split at e
  ·rename_i xs hi
   split at e
   ·rename_i hz
    obtain ⟨rfl,rfl⟩:=sp e
    refine vr_l (C:=fun vs=>wpAny (model D.prog D.w) A (call _ vs) Q E s) rv fun l0=>?_
    refine list_elim HH hi fun ws c m1 r1=>?_
    have hlen:=r1.len
    refine len_L N (List.mem_append_left _ m1) (om145 hlen hz) ?_
    rw [hlen]
    exact k sh s.heap _ _ R .refl ⟨_,rfl⟩
   ·exact ns e
  ·exact ns e
 ·split at e
  ·rename_i x hz
   obtain ⟨rfl,rfl⟩:=sp e
   refine vr_s (C:=fun vs=>wpAny (model D.prog D.w) A (call _ vs) Q E s) rv fun t=>?_
   exact len_writK x.length rfl (om137 hz) (k sh s.heap _ _ R .refl ⟨_,rfl⟩)
  ·exact ns e
 ·exact ns e
theorem SimC.abs:SimC D lv (.builtin "abs") absC:=by
 intro nms env A g L S rest sh ρ H s as vs r H' R rv e Q E k
 unfold absC at e
 split at e
 ·obtain ⟨rfl,rfl⟩:=sp e
  refine vr_i (C:=fun vs=>wpAny (model D.prog D.w) A (call _ vs) Q E s) rv fun t=>?_
  exact call_abs_int fun u tk=>k sh s.heap tk _ R .refl ⟨_,rfl⟩
 ·exact ns e
theorem SimC.int:SimC D lv (.type "int") intC:=by
 intro nms env A g L S rest sh ρ H s as vs r H' R rv e Q E k
 unfold intC at e
 split at e
 ·obtain ⟨rfl,rfl⟩:=sp e
  refine vr_i (C:=fun vs=>wpAny (model D.prog D.w) A (call _ vs) Q E s) rv fun t=>?_
  exact call_int_int (k sh s.heap s.toks _ R .refl ⟨_,rfl⟩)
 ·exact ns e
theorem SimC.ord:SimC D lv (.builtin "ord") ordC:=by
 intro nms env A g L S rest sh ρ H s as vs r H' R rv e Q E k
 unfold ordC at e
 split at e
 ·split at e
  ·rename_i hz
   obtain ⟨rfl,rfl⟩:=sp e
   refine vr_s (C:=fun vs=>wpAny (model D.prog D.w) A (call _ vs) Q E s) rv fun t=>?_
   exact ord_of_one hz (k sh s.heap _ _ R .refl ⟨_,rfl⟩)
  ·exact ns e
 ·exact ns e
variable {n:Nat}
theorem ints_rel {ns:List Int} {vs:List Value} (h:IntsAre vs ns):VRels sh n (ns.map .int) vs:=by
 induction h with
 |nil=>trivial
 |cons _ _ _ ih=>exact ⟨⟨_,rfl⟩,ih⟩
theorem strs_rel {ns:List Str} {vs:List Value} (h:StrsAre vs ns):VRels sh n (ns.map .str) vs:=by
 induction h with
 |nil=>trivial
 |cons _ _ _ ih=>exact ⟨⟨_,rfl⟩,ih⟩
theorem sortI_uniq {ns ns':List Int} (p:ns'.Perm ns) (o:ns'.Pairwise (·<=·)):ns'=sortI ns:=by
 have o2:(sortI ns).Pairwise (fun a b=>decide (a<=b)=true):=List.pairwise_mergeSort (fun a b c h1 h2=>by simp at *; exact om120 h1 h2) (fun a b=>by simp; exact om56) ns
 exact List.Perm.eq_of_pairwise (le:=fun a b=>a<=b) (fun a b ZZ ZZ h1 h2=>Int.le_antisymm h1 h2) o (o2.imp fun h=>by simpa using h) (p.trans (List.mergeSort_perm _ _).symm)
variable {prog:Program} {w:World}
set_option tactic.hygienic true in
theorem keys_at (h:HR prog w sh H hl) {ks:List Int} (e:keysI H[i]? = some ks):
  i<H.length/\(sh.φ i == sysModules)=false/\∃ o xs,(sh.φ i,o)∈hl/\o.IsDictOf (intKind prog w) xs/\xs.map (·.1)=ks:=by
 unfold keysI at e
 split at e
 ·rename_i es hi
  cases e
  obtain ⟨lo,o,xs,m1,d1,r1⟩:=h.obj i _ hi
  refine ⟨getElem?_lt hi,lo,o,xs,m1,d1,?_⟩
  clear d1 hi m1
  induction es generalizing xs with
  |nil=>cases xs with
   |nil=>rfl
   |cons _ _=>exact r1.elim
  |cons a r ih=>cases xs with
   |nil=>exact r1.elim
   |cons b r'=>rw [List.map_cons,List.map_cons,r1.1,ih _ r1.2.2]
 ·rename_i hi
  obtain rfl:=so e
  obtain ⟨lo,m1⟩:=h.obj i _ hi
  exact ⟨getElem?_lt hi,lo,_,[],m1,isDictOf_nil,rfl⟩
 ·exact ns e
theorem ints_keys {xs:List (Int×Value)} {vs:List Value} (hl:vs.length=xs.length) (h:∀ (j:Nat) v,vs[j]? = some v->∃ k x,xs[j]? = some (k,x)/\(intKind prog w).is k v=true):IntsAre vs (xs.map (·.1)):=by
 induction xs generalizing vs with
 |nil=>rw [List.length_eq_zero_iff.mp hl]; exact .nil
 |cons p xs ih=>
  obtain ⟨k,x⟩:=p
  cases vs with
  |nil=>cases hl
  |cons v vs=>
  refine ex2_2 (h 0 v (by simp)) fun k' x' e hk=>?_
  simp only [List.getElem?_cons_zero,Option.some.injEq,Prod.mk.injEq] at e
  refine ex0_2 e fun zz0 zz1=>?_; try clear e; subst zz0; subst zz1
  refine ex1_1 (Value.isInt_shape hk) fun t zz1=>?_; subst zz1
  exact .cons _ _ (ih (by simpa using hl) fun j v e=>by
   refine ex2_2 (h (j+1) v (by simpa using e)) fun k' x' e2 hk=>?_
   exact ⟨k',x',by simpa using e2,hk⟩)
theorem strs_keys {xs:List (Str×Value)} {vs:List Value} (hl:vs.length=xs.length) (h:∀ (j:Nat) v,vs[j]? = some v->∃ k x,xs[j]? = some (k,x)/\(PySem.strKind prog w).is k v=true):StrsAre vs (xs.map (·.1)):=by
 induction xs generalizing vs with
 |nil=>rw [List.length_eq_zero_iff.mp hl]; exact .nil
 |cons p xs ih=>
  obtain ⟨k,x⟩:=p
  cases vs with
  |nil=>cases hl
  |cons v vs=>
  refine ex2_2 (h 0 v (by simp)) fun k' x' e hk=>?_
  simp only [List.getElem?_cons_zero,Option.some.injEq,Prod.mk.injEq] at e
  refine ex0_2 e fun zz0 zz1=>?_; try clear e; subst zz0; subst zz1
  refine ex1_1 (Value.isStrOf_shape hk) fun t zz1=>?_; subst zz1
  exact .cons _ _ (ih (by simpa using hl) fun j v e=>by
   refine ex2_2 (h (j+1) v (by simpa using e)) fun k' x' e2 hk=>?_
   exact ⟨k',x',by simpa using e2,hk⟩)
set_option tactic.hygienic true in
theorem SimC.list:SimC D lv (.type "list") listC:=by
 intro nms env A g L S rest sh ρ H s as vs r H' R rv e Q E k
 refine Rel.elim R fun m hl cl F N nd HH lr cr=>?_
 unfold listC at e
 split at e
 ·rename_i i
  refine vr_l (C:=fun vs=>wpAny (model D.prog D.w) A (call _ vs) Q E s) rv fun l0=>?_
  split at e
  ·rename_i xs hi
   split at e
   ·rename_i hz
    obtain ⟨rfl,rfl⟩:=sp e
    refine list_elim HH hi fun ws c m1 r1=>?_
    have hlen:=r1.len
    refine list_copy F N (List.mem_append_left _ m1) (by rw [sizeLine_eq]; simp; exact om146 hlen hz) fun Da h' c' F' N' l1=>?_
    refine ex1_3 (new_list nd HH lr cr F' N' l1 r1) fun sh' R' G' rv=>?_
    exact k sh' h' s.toks _ R' G' rv
   ·exact ns e
  ·split at e
   ·rename_i ks hk
    split at e
    ·rename_i hz
     obtain ⟨rfl,rfl⟩:=sp e
     obtain ⟨hlt,lo,o,xs,m1,d1,rfl⟩:=keys_at HH hk
     have hd:Heap.DictOf (intKind D.prog D.w) s.heap (sh.φ i) xs:=Heap.dictOf_iff.mpr ⟨o,(N _ (List.mem_append_left _ m1)).1,d1⟩
     refine ex1_1 (hd.dictAt) fun ep hat=>?_
     rw [List.length_map] at hz
     refine kdl_N (kdl_dict (knd:=intKind D.prog D.w) (ep:=ep) lo) S.hh F N hat (by rw [sizeLine_eq]; exact om53 hz) fun Da c h' tk us F' N' l1 hl1 hv=>?_
     refine ex1_3 (new_list nd HH lr cr F' N' l1 (ints_rel (ints_keys hl1 hv))) fun sh' R' G' rv=>?_
     exact k sh' h' tk _ R' G' rv
    ·exact ns e
   ·exact ns e
 ·exact ns e
theorem sort_end {news:Lg} {Da:Addr} {us:List Value} {out:Array Value} (F:Fr g L h m) (N:News g L h ((Da,listOf us.toArray c)::news)) (l1:∀ q∈news,q.1<Da):
  ∃ e,Fr g L (sortedHeap h Da us out) m/\News g L (sortedHeap h Da us out) ((Da,listOf out.toList.toArray e)::news):=by
 have Z:=N _ (.head _)
 refine ex1_1 (sortedHeap_at (out:=out) Z.1) fun e he=>?_
 obtain ⟨oL,es,ep,hL,hr⟩:=F.ns
 refine ⟨e,⟨⟨oL,es,ep,(sortedHeap_old (Ne.symm Z.2.1) (Heap.lt_size hL)).trans hL,hr⟩,fun b o q=>?_,F.above⟩,fun q hq=>?_⟩
 ·have hb:=F.keep b o q
  exact (sortedHeap_old (fun z=>by rw [z,Z.2.2] at q; exact ns q) (Heap.lt_size hb)).trans hb
 ·rcases List.mem_cons.mp hq with rfl|hq
  ·exact ⟨by simpa using he,Z.2⟩
  ·have hq':=N q (.tail _ hq)
   exact ⟨(sortedHeap_old (Nat.ne_of_lt (l1 q hq)) (Heap.lt_size hq'.1)).trans hq'.1,hq'.2⟩
theorem ln3 {α:Type} {l:List α} (h:l.length=3):∃ a b c,l = [a,b,c]:=by
 cases l with
 |nil=>cases h
 |cons a l=>cases l with
  |nil=>cases h
  |cons b l=>cases l with
   |nil=>cases h
   |cons c l=>cases l with
    |nil=>exact ⟨a,b,c,rfl⟩
    |cons d l=>cases h
theorem perm_abc {ss:List Str} (p:ss.Perm sABC) (h:sortedS ss=true):ss=sABC:=by
 have hl:=p.length_eq
 refine Exists.elim (ln3 hl) fun x h1=>Exists.elim h1 fun y h2=>Exists.elim h2 fun z e=>?_
 subst e
 ·have hx:x∈sABC:=p.mem_iff.mp (by simp)
  have hy:y∈sABC:=p.mem_iff.mp (by simp)
  have hz:z∈sABC:=p.mem_iff.mp (by simp)
  have p':=List.isPerm_iff.mpr p
  have key:∀ x∈sABC,∀ y∈sABC,∀ z∈sABC,[x,y,z].isPerm sABC=true->sortedS [x,y,z]=true->[x,y,z]=sABC:=by decide +kernel
  exact key x hx y hy z hz p' h
set_option tactic.hygienic true in
theorem SimC.sorted:SimC D lv (.builtin "sorted") sortedC:=by
 intro nms env A g L S rest sh ρ H s as vs r H' R rv e Q E k
 refine Rel.elim R fun m hl cl F N nd HH lr cr=>?_
 unfold sortedC at e
 split at e
 ·rename_i i
  refine vr_l (C:=fun vs=>wpAny (model D.prog D.w) A (call _ vs) Q E s) rv fun l0=>?_
  split at e
  ·rename_i xs hi
   split at e
   ·rename_i ns en
    split at e
    ·rename_i hz
     obtain ⟨rfl,rfl⟩:=sp e
     refine list_elim HH hi fun ws c m1 r1=>?_
     have hI:=ints_of r1 en
     refine kso_sorted F N (N.isList (List.mem_append_left _ m1)) hI hz fun Da vs' ns' c h' F' N' l1 hI' ZZ hp ho ZZ=>?_
     rw [sortI_uniq hp ho] at hI'
     refine ex1_3 (new_list nd HH lr cr F' N' l1 (ints_rel hI')) fun sh' R' G' rv=>?_
     exact k sh' h' s.toks _ R' G' rv
    ·cases e
   ·exact ns e
  ·rename_i es hi
   split at e
   ·rename_i hk
    obtain ⟨rfl,rfl⟩:=sp e
    obtain ⟨lo,o,xs,m1,d1,r1⟩:=HH.obj i _ hi
    have hd:Heap.DictOf (PySem.strKind D.prog D.w) s.heap (sh.φ i) xs:=Heap.dictOf_iff.mpr ⟨o,(N _ (List.mem_append_left _ m1)).1,d1⟩
    refine ex1_1 (hd.dictAt) fun ep hat=>?_
    have hx:xs.map (·.1)=sABC:=by
     rw [<- hk]
     clear hk hi d1 m1 hd hat R
     induction es generalizing xs with
     |nil=>cases xs with
      |nil=>rfl
      |cons _ _=>exact r1.elim
     |cons a r ih=>cases xs with
      |nil=>exact r1.elim
      |cons b r'=>rw [List.map_cons,List.map_cons,r1.1,ih _ r1.2.2]
    have hl3:xs.length=3:=by have:=congrArg List.length hx; simpa [sABC] using this
    refine kdu_sorted (kdl_dict (knd:=PySem.strKind D.prog D.w) (ep:=ep) lo) S.hh F N hat (by rw [hl3,sizeLine_eq]; exact om1) fun Da h' tk us F' N' l1 hl1 hv=>?_
    have hS:=strs_keys hl1 hv
    rw [hx] at hS
    have Z:=N' _ (.head _)
    refine wpAny_call_entry PyProof.Rows.slot_list_sort ⟨_,Z.1,rfl⟩ PyProof.Rows.entry_list_sort (list_sort_treeK (n:=0) (vs:=us) PyProof.Rows.strKind_oneLt Z.1 hS.keysOf (fun v₁ v₂ rest e=>keyKind_strs (by rw [<- e]; exact hS)) (om78 hl3 hl1) fun st' hp hs=>⟨.none,rfl,?_⟩) (PyProof.Rows.args_list_sort _)
    refine ex1_3 (sorted_out_str hS hp hs) fun ss' h1 h2 h3=>?_
    refine ex1_2 (sort_end (out:=(arrOf st').map (·.2)) F' N' l1) fun e9 F9 N9=>?_
    rw [perm_abc h2 h3] at h1
    refine ex1_3 (new_list nd HH lr cr F9 N9 l1 (strs_rel h1)) fun sh' R' G' rv=>?_
    exact k sh' _ tk _ R' G' rv
   ·exact ns e
  ·split at e
   ·rename_i ks hk
    split at e
    ·rename_i hz
     obtain ⟨rfl,rfl⟩:=sp e
     obtain ⟨hlt,lo,o,xs,m1,d1,rfl⟩:=keys_at HH hk
     have hd:Heap.DictOf (intKind D.prog D.w) s.heap (sh.φ i) xs:=Heap.dictOf_iff.mpr ⟨o,(N _ (List.mem_append_left _ m1)).1,d1⟩
     refine ex1_1 (hd.dictAt) fun ep hat=>?_
     rw [List.length_map] at hz
     refine kdu_sorted (kdl_dict (knd:=intKind D.prog D.w) (ep:=ep) lo) S.hh F N hat (by rw [sizeLine_eq]; exact om35 hz) fun Da h' tk us F' N' l1 hl1 hv=>?_
     have hI:=ints_keys hl1 hv
     have Z:=N' _ (.head _)
     refine wpAny_call_entry PyProof.Rows.slot_list_sort ⟨_,Z.1,rfl⟩ PyProof.Rows.entry_list_sort (list_sort_tree (n:=0) (vs:=us) Z.1 hI (om82 hz hl1) fun out ns' hI' hp ho=>⟨.none,rfl,?_⟩) (PyProof.Rows.args_list_sort _)
     refine ex1_2 (sort_end (out:=out) F' N' l1) fun e9 F9 N9=>?_
     rw [sortI_uniq hp ho] at hI'
     refine ex1_3 (new_list nd HH lr cr F9 N9 l1 (ints_rel hI')) fun sh' R' G' rv=>?_
     exact k sh' _ tk _ R' G' rv
    ·exact ns e
   ·exact ns e
 ·exact ns e
set_option tactic.hygienic true in
theorem SimC.split:SimC D lv (.builtin "str.split") splitC:=by
 intro nms env A g L S rest sh ρ H s as vs r H' R rv e Q E k
 refine Rel.elim R fun m hl cl F N nd HH lr cr=>?_
 unfold splitC at e
 split at e
 ·split at e
  ·rename_i x y hz
   obtain ⟨rfl,rfl⟩:=sp e
   refine vr_ss (C:=fun vs=>wpAny (model D.prog D.w) A (call _ vs) Q E s) rv fun t t'=>?_
   refine KSpl.split1 F N (by rw [hz.1]; rfl) (fun Da l h' kk he hS F' N' l1=>?_) (by rw [sizeLine_eq]; exact om156 hz)
   rw [he] at hS
   refine ex1_3 (new_list nd HH lr cr F' N' l1 (strs_rel hS)) fun sh' R' G' rv=>?_
   exact k sh' h' kk _ R' G' rv
  ·exact ns e
 ·exact ns e
noncomputable def isListA (a:AV) (H:List AO):Bool:=match a with
 |.loc i=>match H[i]? with|some (.list _)=>true|_=>false
 |_=>false
noncomputable def isStrA (a:AV):Bool:=match a with|.str _=>true|_=>false
noncomputable def methF (F:FnC) (f:Fn AV) (fs:Fn (List AV)):Fn AV:=fun ρ H=>bnd (f ρ H) fun a H=>if isListA a H=true then bnd (fs ρ H) fun as H=>F (a::as) H else none
noncomputable def methSF (F:FnC) (f:Fn AV) (fs:Fn (List AV)):Fn AV:=fun ρ H=>bnd (f ρ H) fun a H=>if isStrA a=true then bnd (fs ρ H) fun as H=>F (a::as) H else none
variable {name:Str} {bid:String} {o e:PySem.Expr} {es:List PySem.Expr} {apos pos:Pos} {f:Fn AV} {fs:Fn (List AV)} {F:FnC} {pl:Env->Sem Bool}
theorem SimE.methL (slot:Slot "list" name bid) (hty:typeOf (.builtin bid)=pure (.type "method_descriptor"))
  (hf:SimE D nms lv o f) (hs:SimEs D nms lv (e::es) fs) (C:SimC D lv (.builtin bid) F) (hn:(e::es).all notStar=true)
  (he:∀ env,eval (.Call (.Attribute o name apos) (e::es) [] pos) env=(do let ov <- eval o env; standAt apos.atName; let (g,first) <- holding [ov] (getMethod ov name (pl env)); callWith pos g first (backTo pos (starEach (e::es) env)) []):=by intro _; rfl):
  SimE D nms lv (.Call (.Attribute o name apos) (e::es) [] pos) (methF F f fs):=by
 intro env A g L S rest sh ρ H s b H' R q Q E k
 refine bnd_elim q fun a H₁ e1 q=>?_
 split at q
 ·rename_i hl
  refine bnd_elim q fun as H₂ e2 q=>?_
  refine MethodCall_ (pl:=pl env) (hf env A g L S rest sh ρ H s a H₁ R e1 _ _ fun sh1 h1 tk1 v1 R1 G1 r1=>?_) (he env)
  unfold isListA at hl
  split at hl
  ·rename_i i q
   split at hl
   ·rename_i xs hi
    refine Rel.elim R1 fun m hl' cl F' N nd HH lr cr=>?_
    refine list_elim HH hi fun ws c m1 rr=>?_
    obtain ⟨hlt,rfl⟩:=r1
    refine listMethod_K N (List.mem_append_left _ m1) slot hty ?_
    refine callWith_method1 ?_ (starEach_ne hn) (noStars (tail_ne hn))
    exact hs env A g L pos S rest sh1 ρ H₁ _ as H₂ R1 e2 _ _ fun sh2 h2 tk2 vs R2 G2 r2=>C nms env A g L S rest sh2 ρ H₂ _ (.loc i::as) (.ref (sh1.φ i)::vs) b H' R2 ⟨VRel.grow G2 (a:=.loc i) ⟨hlt,rfl⟩,r2⟩ q _ _ fun sh3 h3 tk3 v R3 G3 r3=>k sh3 h3 tk3 v R3 ((G1.trans G2).trans G3) r3
   ·exact ft hl
  ·exact ft hl
 ·exact ns q
theorem SimE.methL0 (slot:Slot "list" name bid) (hty:typeOf (.builtin bid)=pure (.type "method_descriptor"))
  (hf:SimE D nms lv o f) (C:SimC D lv (.builtin bid) F)
  (he:∀ env,eval (.Call (.Attribute o name apos) [] [] pos) env=(do let ov <- eval o env; standAt apos.atName; let (g,first) <- holding [ov] (getMethod ov name (pl env)); callWith pos g first (backTo pos (starEach [] env)) []):=by intro _; rfl):
  SimE D nms lv (.Call (.Attribute o name apos) [] [] pos) (methF F f esNil):=by
 intro env A g L S rest sh ρ H s b H' R q Q E k
 refine bnd_elim q fun a H₁ e1 q=>?_
 split at q
 ·rename_i hl
  refine bnd_elim q fun as H₂ e2 q=>?_
  cases e2
  refine MethodCall_ (pl:=pl env) (hf env A g L S rest sh ρ H s a H₁ R e1 _ _ fun sh1 h1 tk1 v1 R1 G1 r1=>?_) (he env)
  unfold isListA at hl
  split at hl
  ·rename_i i q
   split at hl
   ·rename_i xs hi
    refine Rel.elim R1 fun m hl' cl F' N nd HH lr cr=>?_
    refine list_elim HH hi fun ws c m1 rr=>?_
    obtain ⟨hlt,rfl⟩:=r1
    refine listMethod_K N (List.mem_append_left _ m1) slot hty ?_
    refine callWith_method0 ?_
    exact C nms env A g L S rest sh1 ρ H₁ _ [.loc i] [.ref (sh1.φ i)] b H' R1 ⟨⟨hlt,rfl⟩,trivial⟩ q _ _ fun sh3 h3 tk3 v R3 G3 r3=>k sh3 h3 tk3 v R3 (G1.trans G3) r3
   ·exact ft hl
  ·exact ft hl
 ·exact ns q
set_option tactic.hygienic true in
theorem SimE.methS
  (hf:SimE D nms lv o f) (hs:SimEs D nms lv (e::es) fs) (C:SimC D lv (.builtin "str.split") F) (hn:(e::es).all notStar=true)
  (he:∀ env,eval (.Call (.Attribute o "split" apos) (e::es) [] pos) env=(do let ov <- eval o env; standAt apos.atName; let (g,first) <- holding [ov] (getMethod ov "split" (pl env)); callWith pos g first (backTo pos (starEach (e::es) env)) []):=by intro _; rfl):
  SimE D nms lv (.Call (.Attribute o "split" apos) (e::es) [] pos) (methSF F f fs):=by
 intro env A g L S rest sh ρ H s b H' R q Q E k
 refine bnd_elim q fun a H₁ e1 q=>?_
 split at q
 ·rename_i hl
  refine bnd_elim q fun as H₂ e2 q=>?_
  refine MethodCall_ (pl:=pl env) (hf env A g L S rest sh ρ H s a H₁ R e1 _ _ fun sh1 h1 tk1 v1 R1 G1 r1=>?_) (he env)
  unfold isStrA at hl
  split at hl
  ·rename_i x q
   obtain ⟨t,rfl⟩:=r1
   refine GM.split ?_
   refine callWith_method1 ?_ (starEach_ne hn) (noStars (tail_ne hn))
   exact hs env A g L pos S rest sh1 ρ H₁ _ as H₂ R1 e2 _ _ fun sh2 h2 tk2 vs R2 G2 r2=>C nms env A g L S rest sh2 ρ H₂ _ (.str x::as) (.str x t::vs) b H' R2 ⟨⟨t,rfl⟩,r2⟩ q _ _ fun sh3 h3 tk3 v R3 G3 r3=>k sh3 h3 tk3 v R3 ((G1.trans G2).trans G3) r3
  ·exact ft hl
 ·exact ns q
end
abbrev Nx:=Nat->List AO->Option (Option (AV×List AO))
section
variable {D:Mdl} {nms:Names} {lv:Nat}
variable {g h h':Heap} {L:Addr} {hl its its' rest:Lg}
theorem its_parts {cl:Lg} {m:Str->Option Value} (F:Fr g L h m) (N:News g L h (hl++(cl++(its++rest)))) (nd:((hl++(cl++(its++rest))).map (·.1)).Nodup) (hk:(its'.map (·.1)).Sublist (its.map (·.1)))
  (hs:∀ b o,b∉its.map (·.1)->h.get? b=some o->h'.get? b=some o) (hi:∀ q∈its',h'.get? q.1=some q.2):Fr g L h' m/\News g L h' (hl++(cl++(its'++rest)))/\((hl++(cl++(its'++rest))).map (·.1)).Nodup:=by
 have at':∀ b∈its.map (·.1),b≠L/\g.get? b=none:=fun b hb=>by
  refine ex1_2 (List.mem_map.mp hb) fun p hp e=>?_
  rw [<- e]
  exact (N p (List.mem_append_right _ (List.mem_append_right _ (List.mem_append_left _ hp)))).2
 refine ⟨?_,fun q hq=>?_,?_⟩
 ·obtain ⟨oL,es,ep,hL,r⟩:=F.ns
  exact ⟨⟨oL,es,ep,hs _ _ (fun z=>(at' _ z).1 rfl) hL,r⟩,fun b o e=>hs b o (fun z=>by rw [(at' _ z).2] at e; exact ns e) (F.keep b o e),F.above⟩
 ·have old:∀ q,q∈hl++(cl++(its++rest))->q.1∉its.map (·.1)->h'.get? q.1=some q.2/\q.1≠L/\g.get? q.1=none:=fun q hq z=>⟨hs _ _ z (N q hq).1,(N q hq).2⟩
  simp only [List.map_append] at nd
  have n1:=List.nodup_append.mp nd
  have n2:=List.nodup_append.mp n1.2.1
  rcases List.mem_append.mp hq with hq|hq
  ·exact old q (List.mem_append_left _ hq) fun z=>n1.2.2 q.1 (List.mem_map_of_mem (f:=(·.1)) hq) q.1 (List.mem_append_right _ (List.mem_append_left _ z)) rfl
  ·rcases List.mem_append.mp hq with hq|hq
   ·exact old q (List.mem_append_right _ (List.mem_append_left _ hq)) fun z=>n2.2.2 q.1 (List.mem_map_of_mem (f:=(·.1)) hq) q.1 (List.mem_append_left _ z) rfl
   ·rcases List.mem_append.mp hq with hq|hq
    ·exact ⟨hi q hq,at' _ (hk.subset (List.mem_map_of_mem (f:=(·.1)) hq))⟩
    ·exact old q (List.mem_append_right _ (List.mem_append_right _ (List.mem_append_right _ hq))) fun z=>(List.nodup_append.mp n2.2.1).2.2 q.1 z q.1 (List.mem_map_of_mem (f:=(·.1)) hq) rfl
 ·simp only [List.map_append] at nd ⊢
  exact nd.sublist ((List.Sublist.refl _).append ((List.Sublist.refl _).append (hk.append (List.Sublist.refl _))))
variable {cells:List (Str×Addr)} {sh:Shp} {ρ:List (Str×AV)} {H:List AO}
theorem rel_sub (R:Rel D nms cells g L (its++rest) sh ρ H h) (hk:(its'.map (·.1)).Sublist (its.map (·.1)))
  (hs:∀ b o,b∉its.map (·.1)->h.get? b=some o->h'.get? b=some o) (hi:∀ q∈its',h'.get? q.1=some q.2):Rel D nms cells g L (its'++rest) sh ρ H h':=
 Rel.elim R fun m hl cl F N nd HH lr cr=>⟨m,hl,cl,(its_parts F N nd hk hs hi).1,(its_parts F N nd hk hs hi).2.1,(its_parts F N nd hk hs hi).2.2,HH,lr,cr⟩
theorem rel_its (R:Rel D nms cells g L (its++rest) sh ρ H h) (hk:its'.map (·.1)=its.map (·.1))
  (hs:∀ b o,b∉its.map (·.1)->h.get? b=some o->h'.get? b=some o) (hi:∀ q∈its',h'.get? q.1=some q.2):Rel D nms cells g L (its'++rest) sh ρ H h':=
 rel_sub R (by rw [hk]; exact List.Sublist.refl _) hs hi
theorem rel_gone (R:Rel D nms cells g L (its++rest) sh ρ H h)
  (hs:∀ b o,b∉its.map (·.1)->h.get? b=some o->h'.get? b=some o):Rel D nms cells g L rest sh ρ H h':=
 rel_sub (its':=[]) R (List.nil_sublist _) hs fun ZZ h=>absurd h List.not_mem_nil
theorem rel_drop (R:Rel D nms cells g L (its++rest) sh ρ H h):Rel D nms cells g L rest sh ρ H h:=
 rel_gone R fun ZZ ZZ ZZ e=>e
variable {a:Addr} {o:Obj}
theorem rel_push (R:Rel D nms cells g L rest sh ρ H h) (ha:h.objs.size<=a)
  (hs:∀ b o,h.get? b=some o->h'.get? b=some o) (ho:h'.get? a=some o):Rel D nms cells g L ((a,o)::rest) sh ρ H h':=by
 refine Rel.elim R fun m hl cl F N nd HH lr cr=>?_
 obtain ⟨oL,es,ep,hL,r⟩:=F.ns
 have fresh:∀ q∈hl++(cl++rest),q.1≠a:=fun q hq=>Nat.ne_of_lt (Nat.lt_of_lt_of_le (Heap.lt_size (N q hq).1) ha)
 refine ⟨m,hl,cl,⟨⟨oL,es,ep,hs _ _ hL,r⟩,fun b o e=>hs b o (F.keep b o e),F.above⟩,fun q hq=>?_,?_,HH,lr,cr⟩
 ·have new:h'.get? (a,o).1=some (a,o).2/\(a,o).1≠L/\g.get? (a,o).1=none:=by
   refine ⟨ho,Nat.ne_of_gt (Nat.lt_of_lt_of_le (Heap.lt_size hL) ha),?_⟩
   cases z:g.get? a with
   |none=>rfl
   |some o'=>exact absurd (Nat.lt_of_lt_of_le (Heap.lt_size (F.keep _ _ z)) ha) (Nat.lt_irrefl _)
  have old:∀ q∈hl++(cl++rest),h'.get? q.1=some q.2/\q.1≠L/\g.get? q.1=none:=fun q hq=>⟨hs _ _ (N q hq).1,(N q hq).2⟩
  rcases List.mem_append.mp hq with hq|hq
  ·exact old q (List.mem_append_left _ hq)
  ·rcases List.mem_append.mp hq with hq|hq
   ·exact old q (List.mem_append_right _ (List.mem_append_left _ hq))
   ·rcases List.mem_cons.mp hq with rfl|hq
    ·exact new
    ·exact old q (List.mem_append_right _ (List.mem_append_right _ hq))
 ·have p:((a,o)::(hl++(cl++rest))).Perm (hl++(cl++((a,o)::rest))):=by
   refine (List.perm_middle (l₁:=hl) (a:=(a,o)) (l₂:=cl++rest)).symm.trans (List.Perm.append_left _ ?_)
   exact (List.perm_middle (l₁:=cl) (a:=(a,o)) (l₂:=rest)).symm
  refine (p.map _).nodup ?_
  rw [List.map_cons,List.nodup_cons]
  refine ⟨fun z=>?_,nd⟩
  refine ex1_2 (List.mem_map.mp z) fun q hq e=>?_
  exact fresh q hq e
structure Src (D:Mdl) (target:PySem.Expr) (I:Addr) (nx:Nx) (fix:Shp->Nat->Prop) (St:Nat->Lg->Prop):Prop where
 grow:∀ {sh n sh' n'},fix sh n->Grow sh n sh' n'->fix sh' n'
 step:∀ {nms lv env A g L},Site D nms lv env A g L->∀ {rest sh ρ H s i its a H'},Rel D nms env.cells g L (its++rest) sh ρ H s.heap->fix sh H.length->St i its->nx i H=some (some (a,H')) ->
  wpAny (model D.prog D.w) A (pyNext (.ref I)) (fun r s4=>∃ v,r=some v/\wpAny (model D.prog D.w) A (letOwnedTupleGo target (.ref I) v) (fun ZZ s5=>∃ its' sh' h' tk,s5 = { s with heap:=h',toks:=tk }/\Rel D nms env.cells g L (its'++rest) sh' ρ H' h'/\Grow sh H.length sh' H'.length/\St (i+1) its'/\VRel sh' H'.length a v) (fun ZZ ZZ=>False) s4) (fun ZZ ZZ=>False) s
 stop:∀ {nms lv env A g L},Site D nms lv env A g L->∀ {rest sh ρ H s i its},Rel D nms env.cells g L (its++rest) sh ρ H s.heap->fix sh H.length->St i its->nx i H=some none ->
  wpAny (model D.prog D.w) A (pyNext (.ref I)) (fun r s4=>r=none/\∃ h' tk,s4 = { s with heap:=h',toks:=tk }/\Rel D nms env.cells g L rest sh ρ H h') (fun ZZ ZZ=>False) s
 again:∀ {A:Around} {E:Value->Shared->Prop} {s:Shared} {i its} {Q:Value->Shared->Prop},(∀ q∈its,s.heap.get? q.1=some q.2)->St i its->Q (.ref I) s->wpAny (model D.prog D.w) A (pyIter (.ref I)) Q E s
abbrev FnI:=List (Str×AV)->List AO->Option (Nx×List AO)
noncomputable def SimI (D:Mdl) (nms:Names) (lv:Nat) (iter target:PySem.Expr) (f:FnI):Prop:=∀ env A g L,Site D nms lv env A g L->∀ rest sh ρ H s nx H',Rel D nms env.cells g L rest sh ρ H s.heap->f ρ H=some (nx,H')->∀ (Q:Value->Shared->Prop) (E:Value->Shared->Prop),
 (∀ sh' h' tk I fix St its,Src D target I nx fix St->fix sh' H'.length->St 0 its->Rel D nms env.cells g L (its++rest) sh' ρ H' h'->Grow sh H.length sh' H'.length->Q (.ref I) { s with heap:=h',toks:=tk }) ->
 wpAny (model D.prog D.w) A (eval iter env) (fun xv s₁=>wpAny (model D.prog D.w) A (pyIter xv) Q E s₁) E s
noncomputable def SimA (D:Mdl) (nms:Names) (lv:Nat) (target:PySem.Expr) (f:AV->St->Option St):Prop:=∀ env A g L,Site D nms lv env A g L->∀ rest sh σ s a v σ',Rel D nms env.cells g L rest sh σ.ρ σ.H s.heap->VRel sh σ.H.length a v->f a σ=some σ'->∀ (Q:Unit->Shared->Prop) (E:Value->Shared->Prop),
 (∀ sh' h' tk,Rel D nms env.cells g L rest sh' σ'.ρ σ'.H h'->Grow sh σ.H.length sh' σ'.H.length->Q () { s with heap:=h',toks:=tk })->wpAny (model D.prog D.w) A (assign target env v) Q E s
variable {target:PySem.Expr} {I:Addr}
theorem lets_of {env:Env} {A:Around} {g:Heap} {L:Addr} {rest:Lg} {sh:Shp} {ρ:List (Str×AV)} {H:List AO} {s:Shared} {v:Value} {Q:Unit->Shared->Prop} {E:Value->Shared->Prop} (ho:s.heap.get? I=some o) (hc:o.cls = .type "list_iterator"\/o.cls = .type "range_iterator"\/o.cls = .type "str_ascii_iterator"\/o.cls = .type "dict_keyiterator"\/o.cls = .type "dict_valueiterator") (h:Q () s):
  wpAny (model D.prog D.w) A (letOwnedTupleGo target (.ref I) v) Q E s:=by
 unfold letOwnedTupleGo
 have inner:wpAny (model D.prog D.w) A (do
   let (.ref r,.ref a):=((.ref I:Value),v)|return
   let o <- load r
   match o.cls,o.data with
   |.type n,.fields vs=>
    if ["enumerate","zip","dict_itemiterator","dict_reverseitemiterator","odict_iterator","itertools.zip_longest","itertools.pairwise"].contains n&&vs[0]? == some (rawInt a) then
     rule "for.unpacks-the-owned-tuple"
     updateField r 0 .none
   |_,_=>pure ()) Q E s:=by
  cases v with
  |ref a=>
   refine wpAny_bind (wpAny_load ho ?_)
   obtain ⟨cls,dd,data,sl⟩:=o
   dsimp only at hc
   have key:∀ n,cls = .type n->["enumerate","zip","dict_itemiterator","dict_reverseitemiterator","odict_iterator","itertools.zip_longest","itertools.pairwise"].contains n=false->wpAny (model D.prog D.w) A (match cls,data with
     |.type n,.fields vs=>
      if (["enumerate","zip","dict_itemiterator","dict_reverseitemiterator","odict_iterator","itertools.zip_longest","itertools.pairwise"].contains n&&vs[0]? == some (rawInt a))=true then (do
       rule "for.unpacks-the-owned-tuple"
       updateField I 0 .none)
      else pure ()
     |_,_=>pure ()) Q E s:=by
    intro n e1 e2
    subst e1
    cases data with
    |fields vs=>dsimp only; rw [e2]; simp only [Bool.false_and,Bool.false_eq_true,if_false]; exact wpAny_pure h
    |_=>exact wpAny_pure h
   rcases hc with hc|hc|hc|hc|hc
   ·exact key _ hc (by decide)
   ·exact key _ hc (by decide)
   ·exact key _ hc (by decide)
   ·exact key _ hc (by decide)
   ·exact key _ hc (by decide)
  |_=>exact wpAny_pure h
 cases target with
 |Tuple es k p=>exact inner
 |List es p=>exact inner
 |_=>exact wpAny_pure h
theorem src_one {nx:Nx} {fix:Shp->Nat->Prop} {St:Nat->Obj->Prop}
  (grow:∀ {sh n sh' n'},fix sh n->Grow sh n sh' n'->fix sh' n')
  (again:∀ {A:Around} {E:Value->Shared->Prop} {s:Shared} {i o} {Q:Value->Shared->Prop},s.heap.get? I=some o->St i o->Q (.ref I) s->wpAny (model D.prog D.w) A (pyIter (.ref I)) Q E s)
  (cls:∀ {i o},St i o->o.cls = .type "list_iterator"\/o.cls = .type "range_iterator"\/o.cls = .type "str_ascii_iterator"\/o.cls = .type "dict_keyiterator"\/o.cls = .type "dict_valueiterator")
  (step:∀ {nms cells g L rest sh ρ H A s i o a H'},Rel D nms cells g L rest sh ρ H s.heap->fix sh H.length->s.heap.get? I=some o->St i o->nx i H=some (some (a,H')) ->
   H'=H/\∃ v,VRel sh H.length a v/\∀ {Q:Option Value->Shared->Prop},(∀ h' o' tk,h'.get? I=some o'->St (i+1) o'->Heap.SameBut I s.heap h'->Q (some v) { s with heap:=h',toks:=tk })->wpAny (model D.prog D.w) A (pyNext (.ref I)) Q (fun ZZ ZZ=>False) s)
  (stop:∀ {nms cells g L rest sh ρ H A s i o},Rel D nms cells g L rest sh ρ H s.heap->fix sh H.length->s.heap.get? I=some o->St i o->nx i H=some none->A.handled=none ->
   ∀ {Q:Option Value->Shared->Prop},(∀ h',Heap.ExtBut I s.heap h'->Q none { s with heap:=h' })->wpAny (model D.prog D.w) A (pyNext (.ref I)) Q (fun ZZ ZZ=>False) s):
  Src D target I nx fix (fun i its=>∃ o,its = [(I,o)]/\St i o) where
 grow:=grow
 again:=fun hi hst h=>ex1_2 hst fun o e ho=>again (hi (I,o) (by rw [e]; exact .head _)) ho h
 step:=by
  intro nms lv env A g L S rest sh ρ H s i its a' H' R hf hst e
  refine ex1_2 hst fun o ei ho=>?_
  rw [ei] at R
  have ZI:s.heap.get? I=some o:=Rel.elim R fun m hl cl F N nd HH lr cr=>(N (I,o) (List.mem_append_right _ (List.mem_append_right _ (.head _)))).1
  refine ex0_2 (step (A:=A) R hf ZI ho e) fun eH hv=>?_
  rw [eH]
  refine ex1_2 hv fun v rv run=>run fun h' o' tk hit st hs=>⟨v,rfl,?_⟩
  exact lets_of (rest:=rest) (sh:=sh) (ρ:=ρ) (H:=H) (env:=env) (g:=g) (L:=L) hit (cls st) ⟨_,sh,h',tk,rfl,rel_its (its:=[(I,o)]) (its':=[(I,o')]) R rfl (fun b o hb z=>(hs.2 b fun q=>hb (by rw [q]; exact .head _)).trans z) (fun q hq=>by rw [List.mem_singleton.mp hq]; exact hit),.refl,⟨o',rfl,st⟩,rv⟩
 stop:=by
  intro nms lv env A g L S rest sh ρ H s i its R hf hst e
  refine ex1_2 hst fun o ei ho=>?_
  rw [ei] at R
  have ZI:s.heap.get? I=some o:=Rel.elim R fun m hl cl F N nd HH lr cr=>(N (I,o) (List.mem_append_right _ (List.mem_append_right _ (.head _)))).1
  exact stop R hf ZI ho e S.hh fun h' hs=>⟨rfl,h',s.toks,rfl,rel_gone (its:=[(I,o)]) R fun b o hb z=>hs b o (fun q=>hb (by rw [q]; exact .head _)) z⟩
noncomputable def nxList (l:Nat):Nx:=fun i H=>match H[l]? with
 |some (.list xs)=>match xs[i]? with
  |some a=>some (some (a,H))
  |none=>if i=xs.length then some none else none
 |_=>none
variable {l i:Nat} {H':List AO} {a:AV}
set_option tactic.hygienic true in
theorem nxList_some (e:nxList l i H=some (some (a,H'))):H'=H/\∃ xs,H[l]? = some (.list xs)/\xs[i]? = some a:=by
 unfold nxList at e
 split at e
 ·rename_i xs hi
  split at e
  ·rename_i x hx
   obtain ⟨rfl,rfl⟩:=sp (so e)
   exact ⟨rfl,xs,hi,hx⟩
  ·split at e <;> cases e
 ·exact ns e
set_option tactic.hygienic true in
theorem nxList_none (e:nxList l i H=some none):∃ xs,H[l]? = some (.list xs)/\xs[i]? = none:=by
 unfold nxList at e
 split at e
 ·rename_i xs hi
  split at e
  ·exact sn (so e)
  ·exact ⟨xs,hi,by assumption⟩
 ·exact ns e
variable {a:Addr}
theorem src_list:Src D target I (nxList l) (fun sh n=>l<n/\sh.φ l=a) (fun i its=>∃ oI,its = [(I,oI)]/\iterObj oI a i):=
 src_one (fun f G=>⟨Nat.lt_of_lt_of_le f.1 G.1,(G.2 _ f.1).1.trans f.2⟩) (fun z st h=>wpAny_pyIter_listiter ⟨_,z,st⟩ h) (fun st=>.inl st.1)
  (fun R hf z st e=>by
   refine ex0_2 (nxList_some e) fun eH hx=>⟨eH,?_⟩
   refine ex1_2 hx fun xs hi hx=>?_
   refine Rel.elim R fun m hl cl F N nd HH lr cr=>?_
   refine list_elim HH hi fun vs c m1 r1=>?_
   rw [hf.2] at m1
   refine ex1_2 (r1.get hx) fun v hv rv=>⟨v,rv,fun k=>?_⟩
   exact wpAny_pyNext_list_item (x:=v) ⟨_,z,st⟩ (N.isList (List.mem_append_left _ m1)) (by simpa using hv) fun h' hit hs=>ex1_2 hit fun o' z' st'=>k h' o' _ z' st' hs)
  (by
   intro nms cells g L rest sh ρ H A s i o R hf z st e hh Q k
   refine ex1_2 (nxList_none e) fun xs hi hx=>?_
   refine Rel.elim R fun m hl cl F N nd HH lr cr=>?_
   refine list_elim HH hi fun vs c m1 r1=>?_
   rw [hf.2] at m1
   have hlen:=r1.len
   refine wpAny_pyNext_list_end hh ⟨_,z,st⟩ (N.isList (List.mem_append_left _ m1)) ?_ k
   have:vs[i]? = none:=by rw [List.getElem?_eq_none_iff] at hx ⊢; rw [hlen]; exact hx
   simpa using this)
noncomputable def iList (f:Fn AV):FnI:=fun ρ H=>bnd (f ρ H) fun a H=>match a with
 |.loc l=>match H[l]? with
  |some (.list _)=>some (nxList l,H)
  |_=>none
 |_=>none
variable {iter:PySem.Expr} {f:Fn AV}
set_option tactic.hygienic true in
theorem SimI.list (hf:SimE D nms lv iter f):SimI D nms lv iter target (iList f):=by
 intro env A g L S rest sh ρ H s nx H' R e Q E k
 refine bnd_elim e fun a H₁ e1 e=>?_
 refine hf env A g L S rest sh ρ H s a H₁ R e1 _ _ fun sh1 h1 tk1 v1 R1 G1 r1=>?_
 split at e
 ·rename_i l
  split at e
  ·rename_i xs hi
   obtain ⟨rfl,rfl⟩:=sp e
   refine Rel.elim R1 fun m hl cl F N nd HH lr cr=>?_
   refine list_elim HH hi fun vs c m1 rr=>?_
   obtain ⟨hlt,rfl⟩:=r1
   refine wpAny_pyIter_list (N.isList (List.mem_append_left _ m1)) ?_
   exact k sh1 _ tk1 _ _ _ [(h1.objs.size,_)] (src_list (a:=sh1.φ l)) ⟨hlt,rfl⟩ ⟨_,rfl,rfl,rfl⟩ (rel_push R1 (Nat.le_refl _) (fun b o z=>Heap.get?_push_of_some _ z) (Heap.get?_push_size _ rfl)) G1
  ·exact ns e
 ·exact ns e
variable {es:List (List KE×Nat×AV)}
theorem dtup_elim {G:Prop} (HH:HR D.prog D.w sh H hl) (hi:H[l]? = some (.dtup es)) (k:(sh.φ l == sysModules)=false->∀ xs:Tab,(sh.φ l,dictOf (tabEs D.prog D.w xs) (sh.ε l+es.length))∈hl->(xs.map (·.1)).Nodup->KTs hl xs->TRel sh H.length es xs->G):G:=by
 obtain ⟨lo,xs,m1,d1,kt,r1⟩:=HH.obj l _ hi
 exact k lo xs m1 d1 kt r1
noncomputable def nxKeys (l n:Nat):Nx:=fun i H=>match H[l]? with
 |some (.dtup es)=>if es.length=n then match es[i]? with
  |some e=>some (some (.loc e.2.1,H))
  |none=>if i=n then some none else none
  else none
 |some .dnil=>if n=0/\i=0 then some none else none
 |_=>none
variable {n:Nat} {xs:Tab} {e:List KE×Nat×AV}
theorem TRel.get (h:TRel sh n es xs) (q:es[i]? = some e):∃ x,xs[i]? = some x/\e.2.1<n/\x.2.1=sh.φ e.2.1:=by
 refine TRel.ind (P:=fun es xs=>∀ i,es[i]? = some e->∃ x,xs[i]? = some x/\e.2.1<n/\x.2.1=sh.φ e.2.1) (fun i q=>by exact ns q) (fun e' es x xs ZZ l p r ZZ ih i q=>?_) h i q
 cases i with
 |zero=>obtain rfl:=so q; exact ⟨x,rfl,l,p.symm⟩
 |succ i=>exact ih i q
variable {a:AV}
set_option tactic.hygienic true in
theorem nxKeys_some (h:nxKeys l n i H=some (some (a,H'))):H'=H/\∃ es e,H[l]? = some (.dtup es)/\es.length=n/\es[i]? = some e/\a = .loc e.2.1:=by
 unfold nxKeys at h
 split at h
 ·rename_i es hi
  split at h
  ·rename_i hn
   split at h
   ·rename_i x hx
    obtain ⟨rfl,rfl⟩:=sp (so h)
    exact ⟨rfl,es,x,hi,hn,hx,rfl⟩
   ·split at h <;> cases h
  ·exact ns h
 ·split at h <;> cases h
 ·exact ns h
set_option tactic.hygienic true in
theorem nxKeys_none (h:nxKeys l n i H=some none):i=n/\((∃ es,H[l]? = some (.dtup es)/\es.length=n)\/H[l]? = some .dnil/\n=0):=by
 unfold nxKeys at h
 split at h
 ·rename_i es hi
  split at h
  ·rename_i hn
   split at h
   ·exact sn (so h)
   ·split at h
    ·rename_i hin
     exact ⟨hin,.inl ⟨es,hi,hn⟩⟩
    ·exact ns h
  ·exact ns h
 ·rename_i hi
  split at h
  ·rename_i hn
   exact ⟨hn.2.trans hn.1.symm,.inr ⟨hi,hn.1⟩⟩
  ·exact ns h
 ·exact ns h
variable {a:Addr} {ep:Nat}
theorem src_keys:Src D target I (nxKeys l n) (fun sh k=>l<k/\sh.φ l=a/\sh.ε l=ep) (fun i its=>∃ oI,its = [(I,oI)]/\keyObj a n (ep+n) i oI):=
 src_one (fun f G=>⟨Nat.lt_of_lt_of_le f.1 G.1,(G.2 _ f.1).1.trans f.2.1,(G.2 _ f.1).2.2.trans f.2.2⟩) (fun z st h=>wpAny_pyIter_keyiter ⟨_,z,st⟩ h) (fun st=>.inr (.inr (.inr (.inl st.1))))
  (fun R hf z st h=>by
   refine ex0_2 (nxKeys_some h) fun eH hx=>⟨eH,?_⟩
   refine ex2_4 hx fun es x hi hn hx ea=>?_
   refine Rel.elim R fun m hl cl F N nd HH lr cr=>?_
   refine dtup_elim HH hi fun lo xs m1 d1 kt r1=>?_
   rw [hn,hf.2.1,hf.2.2] at m1
   have hxl:(tabEs D.prog D.w xs).length=n:=(List.length_map _).trans (r1.len.trans hn)
   rw [ea]
   refine ex1_3 (r1.get hx) fun y hy hylt hya=>⟨.ref y.2.1,⟨hylt,by rw [hya]⟩,fun k=>?_⟩
   exact raw_key_item (e:=entryOfKey (tk D.prog D.w) y) ⟨_,z,by rw [hxl]; exact st⟩ (N _ (List.mem_append_left _ m1)).1 (by rw [List.getElem?_map,hy]; rfl) fun h' hit hs=>ex1_2 hit fun o' z' st'=>k h' o' _ z' (by rw [hxl] at st'; exact st') hs)
  (fun R hf z st h hh=>by
   intro Q k
   refine ex0_2 (nxKeys_none h) fun ei hx=>?_
   rw [ei] at st
   refine Rel.elim R fun m hl cl F N nd HH lr cr=>?_
   rcases hx with hx|hx
   ·refine ex1_2 hx fun es hi hn=>?_
    refine dtup_elim HH hi fun lo xs m1 d1 kt r1=>?_
    rw [hn,hf.2.1,hf.2.2] at m1
    have hxl:(tabEs D.prog D.w xs).length=n:=(List.length_map _).trans (r1.len.trans hn)
    exact raw_key_end hh ⟨_,z,by rw [hxl]; exact st⟩ (N _ (List.mem_append_left _ m1)).1 k
   ·have lm:=HH.obj _ _ hx.1
    obtain ⟨lo,m1⟩:=lm
    rw [hf.2.1,hf.2.2] at m1
    rw [hx.2] at st
    exact raw_key_end (es:=[]) hh ⟨_,z,st⟩ (N _ (List.mem_append_left _ m1)).1 k)
noncomputable def iKeys (f:Fn AV):FnI:=fun ρ H=>bnd (f ρ H) fun a H=>match a with
 |.loc l=>match H[l]? with
  |some (.dtup es)=>some (nxKeys l es.length,H)
  |some .dnil=>some (nxKeys l 0,H)
  |_=>none
 |_=>none
set_option tactic.hygienic true in
theorem SimI.keys (hf:SimE D nms lv iter f):SimI D nms lv iter target (iKeys f):=by
 intro env A g L S rest sh ρ H s nx H' R e Q E k
 refine bnd_elim e fun a H₁ e1 e=>?_
 refine hf env A g L S rest sh ρ H s a H₁ R e1 _ _ fun sh1 h1 tk1 v1 R1 G1 r1=>?_
 refine Rel.elim R1 fun m hl cl F N nd HH lr cr=>?_
 split at e
 ·rename_i l
  obtain ⟨hlt,rfl⟩:=r1
  split at e
  ·rename_i es hi
   obtain ⟨rfl,rfl⟩:=sp e
   obtain ⟨lo,xs,m1,d1,kt,rr⟩:=HH.obj l _ hi
   refine raw_key_iter lo (N _ (List.mem_append_left _ m1)).1 ?_
   exact k sh1 _ tk1 _ _ _ [(h1.objs.size,_)] (src_keys (a:=sh1.φ l) (ep:=sh1.ε l)) ⟨hlt,rfl,rfl⟩ ⟨_,rfl,rfl,by rw [List.length_map,rr.len]; rfl⟩ (rel_push R1 (Nat.le_refl _) (fun b o z=>Heap.get?_push_of_some _ z) (Heap.get?_push_size _ rfl)) G1
  ·rename_i hi
   obtain ⟨rfl,rfl⟩:=sp e
   obtain ⟨lo,m1⟩:=HH.obj l _ hi
   refine raw_key_iter lo (N _ (List.mem_append_left _ m1)).1 ?_
   exact k sh1 _ tk1 _ _ _ [(h1.objs.size,_)] (src_keys (a:=sh1.φ l) (ep:=sh1.ε l)) ⟨hlt,rfl,rfl⟩ ⟨_,rfl,rfl,rfl⟩ (rel_push R1 (Nat.le_refl _) (fun b o z=>Heap.get?_push_of_some _ z) (Heap.get?_push_size _ rfl)) G1
  ·exact ns e
 ·exact ns e
theorem TRel.getV (h:TRel sh n es xs) (q:es[i]? = some e):∃ x,xs[i]? = some x/\VRel sh n e.2.2 x.2.2:=by
 refine TRel.ind (P:=fun es xs=>∀ i,es[i]? = some e->∃ x,xs[i]? = some x/\VRel sh n e.2.2 x.2.2) (fun i q=>by exact ns q) (fun e' es x xs ZZ l p r ZZ ih i q=>?_) h i q
 cases i with
 |zero=>obtain rfl:=so q; exact ⟨x,rfl,r⟩
 |succ i=>exact ih i q
noncomputable def nxVals (l n:Nat):Nx:=fun i H=>match H[l]? with
 |some (.dtup es)=>if es.length=n then match es[i]? with
  |some e=>some (some (e.2.2,H))
  |none=>if i=n then some none else none
  else none
 |some .dnil=>if n=0/\i=0 then some none else none
 |_=>none
set_option tactic.hygienic true in
theorem nxVals_some {a:AV} (h:nxVals l n i H=some (some (a,H'))):H'=H/\∃ es e,H[l]? = some (.dtup es)/\es.length=n/\es[i]? = some e/\a=e.2.2:=by
 unfold nxVals at h
 split at h
 ·rename_i es hi
  split at h
  ·rename_i hn
   split at h
   ·rename_i x hx
    obtain ⟨rfl,rfl⟩:=sp (so h)
    exact ⟨rfl,es,x,hi,hn,hx,rfl⟩
   ·split at h <;> cases h
  ·exact ns h
 ·split at h <;> cases h
 ·exact ns h
set_option tactic.hygienic true in
theorem nxVals_none (h:nxVals l n i H=some none):i=n/\((∃ es,H[l]? = some (.dtup es)/\es.length=n)\/H[l]? = some .dnil/\n=0):=by
 unfold nxVals at h
 split at h
 ·rename_i es hi
  split at h
  ·rename_i hn
   split at h
   ·exact sn (so h)
   ·split at h
    ·rename_i hin
     exact ⟨hin,.inl ⟨es,hi,hn⟩⟩
    ·exact ns h
  ·exact ns h
 ·rename_i hi
  split at h
  ·rename_i hn
   exact ⟨hn.2.trans hn.1.symm,.inr ⟨hi,hn.1⟩⟩
  ·exact ns h
 ·exact ns h
theorem src_vals:Src D target I (nxVals l n) (fun sh k=>l<k/\sh.φ l=a/\sh.ε l=ep) (fun i its=>∃ oI,its = [(I,oI)]/\valObj a n (ep+n) i oI):=
 src_one (fun f G=>⟨Nat.lt_of_lt_of_le f.1 G.1,(G.2 _ f.1).1.trans f.2.1,(G.2 _ f.1).2.2.trans f.2.2⟩) (fun z st h=>wpAny_pyIter_valiter ⟨_,z,st⟩ h) (fun st=>.inr (.inr (.inr (.inr st.1))))
  (fun R hf z st h=>by
   refine ex0_2 (nxVals_some h) fun eH hx=>⟨eH,?_⟩
   refine ex2_4 hx fun es x hi hn hx ea=>?_
   refine Rel.elim R fun m hl cl F N nd HH lr cr=>?_
   refine dtup_elim HH hi fun lo xs m1 d1 kt r1=>?_
   rw [hn,hf.2.1,hf.2.2] at m1
   have hxl:(tabEs D.prog D.w xs).length=n:=(List.length_map _).trans (r1.len.trans hn)
   rw [ea]
   refine ex1_2 (r1.getV hx) fun y hy rvy=>⟨y.2.2,rvy,fun k=>?_⟩
   exact raw_val_item (e:=entryOfKey (tk D.prog D.w) y) ⟨_,z,by rw [hxl]; exact st⟩ (N _ (List.mem_append_left _ m1)).1 (by rw [List.getElem?_map,hy]; rfl) fun h' hit hs=>ex1_2 hit fun o' z' st'=>k h' o' _ z' (by rw [hxl] at st'; exact st') hs)
  (fun R hf z st h hh=>by
   intro Q k
   refine ex0_2 (nxVals_none h) fun ei hx=>?_
   rw [ei] at st
   refine Rel.elim R fun m hl cl F N nd HH lr cr=>?_
   rcases hx with hx|hx
   ·refine ex1_2 hx fun es hi hn=>?_
    refine dtup_elim HH hi fun lo xs m1 d1 kt r1=>?_
    rw [hn,hf.2.1,hf.2.2] at m1
    have hxl:(tabEs D.prog D.w xs).length=n:=(List.length_map _).trans (r1.len.trans hn)
    exact raw_val_end hh ⟨_,z,by rw [hxl]; exact st⟩ (N _ (List.mem_append_left _ m1)).1 k
   ·have lm:=HH.obj _ _ hx.1
    obtain ⟨lo,m1⟩:=lm
    rw [hf.2.1,hf.2.2] at m1
    rw [hx.2] at st
    exact raw_val_end (es:=[]) hh ⟨_,z,st⟩ (N _ (List.mem_append_left _ m1)).1 k)
noncomputable def iVals (f:Fn AV):FnI:=fun ρ H=>bnd (f ρ H) fun a H=>match a with
 |.loc l=>match H[l]? with
  |some (.dtup es)=>some (nxVals l es.length,H)
  |some .dnil=>some (nxVals l 0,H)
  |_=>none
 |_=>none
set_option tactic.hygienic true in
theorem SimI.vals {o:PySem.Expr} {apos pos:Pos} (hf:SimE D nms lv o f) {pl:Env->Sem Bool}
  (he:∀ env,eval (.Call (.Attribute o "values" apos) [] [] pos) env=(do let ov <- eval o env; standAt apos.atName; let (g,first) <- holding [ov] (getMethod ov "values" (pl env)); callWith pos g first (backTo pos (starEach [] env)) []):=by intro _; rfl):
  SimI D nms lv (.Call (.Attribute o "values" apos) [] [] pos) target (iVals f):=by
 intro env A g L S rest sh ρ H s nx H' R e Q E k
 refine bnd_elim e fun a H₁ e1 e=>?_
 refine MethodCall_ (pl:=pl env) (hf env A g L S rest sh ρ H s a H₁ R e1 _ _ fun sh1 h1 tk1 v1 R1 G1 r1=>?_) (he env)
 have fin:∀ (l n:Nat) (es:List DictEntry),a = .loc l->(sh1.φ l == sysModules)=false->(∃ hl m,Fr g L h1 m/\News g L h1 hl/\(sh1.φ l,dictOf es (sh1.ε l+n))∈hl)->es.length=n->nx=nxVals l n->H'=H₁ ->
   wpAny (model D.prog D.w) A (getMethod v1 "values" (pl env)) (fun fx s₂=>wpAny (model D.prog D.w) A (callWith pos fx.1 fx.2 (backTo pos (starEach [] env)) []) (fun xv s₁=>wpAny (model D.prog D.w) A (pyIter xv) Q E s₁) E s₂) E { s with heap:=h1,toks:=tk1 }:=by
  intro l n es ea lo hex hn enx eH
  subst ea; subst enx; subst eH
  refine ex2_3 hex fun hl m F N hm=>?_; try clear hex
  obtain ⟨hlt,rfl⟩:=r1
  refine dict_meth N hm PySem.F.slot_dict_values PySem.F.type_dict_values (callWith_method0 ?_)
  refine call_meetsIn PySem.F.slot_dict_values ⟨_,(N _ hm).1,rfl⟩ PySem.F.entry_dict_values (PySem.F.args_dict_values_1 _) (raw_values _ lo) ⟨⟨es,_,(N _ hm).1⟩,?_⟩
  have h2:(h1.push (viewObj (sh1.φ l))).get? h1.objs.size=some (viewObj (sh1.φ l)):=Heap.get?_push_size _ rfl
  refine raw_val_iter (d:=sh1.φ l) (es:=es) (n:=sh1.ε l+n) ⟨_,h2,rfl,rfl⟩ (Heap.get?_push_of_some _ (N _ hm).1) ?_
  have hz:(h1.push (viewObj (sh1.φ l))).objs.size=h1.objs.size+1:=Heap.size_push ..
  refine k sh1 _ tk1 _ _ _ [(_,_)] (src_vals (a:=sh1.φ l) (ep:=sh1.ε l)) ⟨hlt,rfl,rfl⟩ ⟨_,rfl,rfl,by rw [hn]; rfl⟩ (rel_push R1 (by show h1.objs.size<=(h1.push (viewObj (sh1.φ l))).objs.size; rw [hz]; exact Nat.le_succ _) (fun b o z=>Heap.get?_push_of_some _ (Heap.get?_push_of_some _ z)) (Heap.get?_push_size _ rfl)) G1
 refine Rel.elim R1 fun m hl cl F N nd HH lr cr=>?_
 split at e
 ·rename_i l
  split at e
  ·rename_i es hi
   obtain ⟨rfl,rfl⟩:=sp e
   obtain ⟨lo,xs,m1,d1,kt,rr⟩:=HH.obj l _ hi
   exact fin l es.length _ rfl lo ⟨_,m,F,N,List.mem_append_left _ m1⟩ (by rw [List.length_map,rr.len]) rfl rfl
  ·rename_i hi
   obtain ⟨rfl,rfl⟩:=sp e
   obtain ⟨lo,m1⟩:=HH.obj l _ hi
   exact fin l 0 [] rfl lo ⟨_,m,F,N,List.mem_append_left _ m1⟩ rfl rfl rfl
  ·exact ns e
 ·exact ns e
noncomputable def nxStr (x:Str):Nx:=fun i H=>match x.cps[i]? with
 |some c=>some (some (.str ⟨#[c]⟩,H))
 |none=>some none
theorem src_str {x:Str} {t:Tok}:Src D target I (nxStr x) (fun ZZ ZZ=>True) (fun i its=>∃ oI,its = [(I,oI)]/\oI.cls = .type "str_ascii_iterator"/\oI.data = .fields #[.str x t,.int i 0]):=
 src_one (fun ZZ ZZ=>trivial) (fun z st h=>wpAny_pyIter_striter_ascii ⟨_,z,st⟩ h) (fun st=>.inr (.inr (.inl st.1)))
  (fun R hf z st e=>by
   unfold nxStr at e
   split at e
   ·rename_i c hc
    obtain ⟨rfl,rfl⟩:=sp (so e)
    exact ⟨rfl,_,⟨_,rfl⟩,fun k=>wpAny_pyNext_ascii_item (x:=x) (t:=t) ⟨_,z,st⟩ hc fun h' hit hs=>ex1_2 hit fun o' z' st'=>k h' o' _ z' st' hs⟩
   ·exact ns (so e))
  (fun R hf z st e hh=>by
   intro Q k
   unfold nxStr at e
   split at e
   ·exact sn (so e)
   ·rename_i hc
    exact wpAny_pyNext_ascii_end hh (x:=x) (t:=t) ⟨_,z,st⟩ hc k)
noncomputable def iStr (f:Fn AV):FnI:=fun ρ H=>bnd (f ρ H) fun a H=>match a with
 |.str x=>if (x.cps.all fun c=>decide (c<128))=true then some (nxStr x,H) else none
 |_=>none
theorem SimI.str (hf:SimE D nms lv iter f):SimI D nms lv iter target (iStr f):=by
 intro env A g L S rest sh ρ H s nx H' R e Q E k
 refine bnd_elim e fun a H₁ e1 e=>?_
 refine hf env A g L S rest sh ρ H s a H₁ R e1 _ _ fun sh1 h1 tk1 v1 R1 G1 r1=>?_
 split at e
 ·split at e
  ·rename_i x hx
   obtain ⟨rfl,rfl⟩:=sp e
   obtain ⟨t,rfl⟩:=r1
   refine wpAny_pyIter_ascii hx ?_
   exact k sh1 _ tk1 _ _ _ [(h1.objs.size,_)] (src_str (t:=t)) trivial ⟨_,rfl,rfl,rfl⟩ (rel_push R1 (Nat.le_refl _) (fun b o z=>Heap.get?_push_of_some _ z) (Heap.get?_push_size _ rfl)) G1
  ·exact ns e
 ·exact ns e
end
section
variable {D:Mdl} {nms:Names} {lv:Nat}
variable {cells:List (Str×Addr)} {g h h':Heap} {L:Addr} {its rest:Lg} {sh:Shp} {ρ:List (Str×AV)} {H:List AO}
theorem rel_hand {its':Lg} {T:Addr} {vs:List Value} {as:List AV} (R:Rel D nms cells g L (its++rest) sh ρ H h) (hk:its'.map (·.1)=its.map (·.1))
  (hs:∀ b o,b∉its.map (·.1)->h.get? b=some o->h'.get? b=some o) (hi:∀ q∈its',h'.get? q.1=some q.2) (hT:h.objs.size<=T) (ho:h'.get? T=some (tupObj vs)) (rv:VRels sh H.length as vs):
  ∃ sh',Rel D nms cells g L (its'++rest) sh' ρ (H++[.tup as]) h'/\Grow sh H.length sh' (H.length+1)/\VRel sh' (H.length+1) (.loc H.length) (.ref T):=by
 refine Rel.elim R fun m hl cl F N nd HH lr cr=>?_
 have P:=its_parts (its':=its') F N nd (by rw [hk]; exact List.Sublist.refl _) hs hi
 have big:∀ b o,h.get? b=some o->b≠T:=fun b o z=>Nat.ne_of_lt (Nat.lt_of_lt_of_le (Heap.lt_size z) hT)
 have fresh:∀ q∈hl++(cl++(its'++rest)),q.1≠T:=fun q hq=>by
  have hq':q.1∈(hl++(cl++(its++rest))).map (·.1):=by
   have:=List.mem_map_of_mem (f:=(·.1)) hq
   simp only [List.map_append,hk] at this ⊢; exact this
  refine ex1_2 (List.mem_map.mp hq') fun p hp e=>?_
  rw [<- e]
  exact big _ _ (N p hp).1
 have NT:News g L h' ((T,tupObj vs)::(hl++(cl++(its'++rest)))):=fun q hq=>by
  rcases List.mem_cons.mp hq with e|hq
  ·rw [e]
   refine ⟨ho,Nat.ne_of_gt (Nat.lt_of_lt_of_le F.ns.lt hT),?_⟩
   cases z:g.get? T with
   |none=>rfl
   |some o=>exact absurd rfl (big T o (F.keep _ _ z))
  ·exact P.2.1 q hq
 refine ex1_3 (rel_alloc P.2.2 HH lr cr P.1 NT fresh (ao:=.tup as) (e0:=0) (fun ZZ ZZ z=>by cases z) fun sh' e ZZ G=>⟨vs,by rw [e]; exact .head _,rv.grow G⟩) fun sh' R2 G2 e2=>?_
 exact ⟨sh',R2,G2,Nat.lt_succ_self _,by rw [e2]⟩
theorem rel_new (R:Rel D nms cells g L rest sh ρ H h) (ha:∀ q∈its,h.objs.size<=q.1) (hn:(its.map (·.1)).Nodup)
  (hs:∀ b o,h.get? b=some o->h'.get? b=some o) (ho:∀ q∈its,h'.get? q.1=some q.2):Rel D nms cells g L (its++rest) sh ρ H h':=by
 refine Rel.elim R fun m hl cl F N nd HH lr cr=>?_
 obtain ⟨oL,es,ep,hL,r⟩:=F.ns
 have fresh:∀ q∈hl++(cl++rest),∀ p∈its,q.1≠p.1:=fun q hq p hp=>Nat.ne_of_lt (Nat.lt_of_lt_of_le (Heap.lt_size (N q hq).1) (ha p hp))
 have new:∀ q∈its,h'.get? q.1=some q.2/\q.1≠L/\g.get? q.1=none:=fun q hq=>by
  refine ⟨ho q hq,Nat.ne_of_gt (Nat.lt_of_lt_of_le (Heap.lt_size hL) (ha q hq)),?_⟩
  cases z:g.get? q.1 with
  |none=>rfl
  |some o'=>exact absurd (Nat.lt_of_lt_of_le (Heap.lt_size (F.keep _ _ z)) (ha q hq)) (Nat.lt_irrefl _)
 have old:∀ q∈hl++(cl++rest),h'.get? q.1=some q.2/\q.1≠L/\g.get? q.1=none:=fun q hq=>⟨hs _ _ (N q hq).1,(N q hq).2⟩
 have p:(its++(hl++(cl++rest))).Perm (hl++(cl++(its++rest))):=by
  have e1:(its++(hl++(cl++rest))).Perm (hl++(its++(cl++rest))):=List.perm_append_comm_assoc _ _ _
  have e2:(its++(cl++rest)).Perm (cl++(its++rest)):=List.perm_append_comm_assoc _ _ _
  exact e1.trans (List.Perm.append_left _ e2)
 refine ⟨m,hl,cl,⟨⟨oL,es,ep,hs _ _ hL,r⟩,fun b o e=>hs b o (F.keep b o e),F.above⟩,fun q hq=>?_,?_,HH,lr,cr⟩
 ·rcases List.mem_append.mp (p.mem_iff.mpr hq) with hq|hq
  ·exact new q hq
  ·exact old q hq
 ·refine (p.map _).nodup ?_
  rw [List.map_append]
  refine List.nodup_append.mpr ⟨hn,nd,fun a ha b hb e=>?_⟩
  subst e
  refine ex1_2 (List.mem_map.mp ha) fun q hq zz2=>?_; subst zz2
  refine ex1_2 (List.mem_map.mp hb) fun q' hq' e=>?_
  exact fresh q' hq' q hq e
abbrev rangeObj (a b:Int) (i:Nat):Obj:={ cls:=.type "range_iterator",data:=.fields #[rawInt (a+i),rawInt ((if a<b then b - a else 0) - i),rawInt 1] }
noncomputable def nxRange (a b:Int):Nx:=fun i H=>if a+i<b then some (some (.int (a+i),H)) else if a+i=b\/(i=0/\b<=a) then some none else none
variable {target:PySem.Expr}
theorem src_range {I:Addr} {a b:Int}:Src D target I (nxRange a b) (fun ZZ ZZ=>True) (fun i its=>∃ o,its = [(I,o)]/\o=rangeObj a b i):=
 src_one (fun ZZ ZZ=>trivial) (fun z st h=>wpAny_pyIter_rangeiter (st▸z) h) (fun st=>.inr (.inl (by rw [st])))
  (by
   intro nms cells g L rest sh ρ H A s i o a' H' R hf z st e
   rw [st] at z
   unfold nxRange at e
   split at e
   ·rename_i hlt
    obtain ⟨rfl,rfl⟩:=sp (so e)
    refine ⟨rfl,.int (a+i) s.toks,⟨_,rfl⟩,fun k=>?_⟩
    refine wpAny_pyNext_range_item (x:=a+i) (left:=(if a<b then b - a else 0) - i) (step:=1) z (by rw [if_pos (om162 hlt)]; exact om242 hlt) fun h' hit hs=>k h' _ _ hit ?_ hs
    have e1:a+(i:Int)+1=a+((i+1:Nat):Int):=by push_cast; exact om220
    have e2:(if a<b then b - a else 0) - (i:Int) - 1=(if a<b then b - a else 0) - ((i+1:Nat):Int):=by push_cast; exact om221
    rw [e1,e2]
   ·split at e
    ·exact ns (so e)
    ·exact ns e)
  (by
   intro nms cells g L rest sh ρ H A s i o R hf z st e hh Q k
   rw [st] at z
   unfold nxRange at e
   split at e
   ·exact sn (so e)
   ·rename_i h1
    split at e
    ·rename_i h2
     exact wpAny_pyNext_range_end hh (x:=a+i) (left:=(if a<b then b - a else 0) - i) (step:=1) z (by split <;> omega) k
    ·exact ns e)
noncomputable def SimCI (D:Mdl) (lv:Nat) (T:String) (target:PySem.Expr) (G:List AV->List AO->Option Nx):Prop:=∀ nms env A g L,Site D nms lv env A g L->∀ rest sh ρ H s as vs nx,Rel D nms env.cells g L rest sh ρ H s.heap->VRels sh H.length as vs->G as H=some nx->∀ (Q:Value->Shared->Prop) (E:Value->Shared->Prop),
 (∀ sh' h' tk I fix St its,Src D target I nx fix St->fix sh' H.length->St 0 its->Rel D nms env.cells g L (its++rest) sh' ρ H h'->Grow sh H.length sh' H.length->Q (.ref I) { s with heap:=h',toks:=tk }) ->
 wpAny (model D.prog D.w) A (call (.type T) vs) (fun xv s₁=>wpAny (model D.prog D.w) A (pyIter xv) Q E s₁) E s
noncomputable def iCall (G:List AV->List AO->Option Nx) (fs:Fn (List AV)):FnI:=fun ρ H=>bnd (fs ρ H) fun as H=>match G as H with|some nx=>some (nx,H)|none=>none
set_option tactic.hygienic true in
theorem SimI.call {x:Str} {xp pos:Pos} {T:String} {G:List AV->List AO->Option Nx} {e:PySem.Expr} {es:List PySem.Expr} {fs:Fn (List AV)} (hf:SimE D nms lv (.Name x xp) (cst (.glob (.type T)))) (C:SimCI D lv T target G) (hs:SimEs D nms lv (e::es) fs) (hn:(e::es).all notStar=true):
  SimI D nms lv (.Call (.Name x xp) (e::es) [] pos) target (iCall G fs):=by
 intro env A g L S rest sh ρ H s nx H' R q Q E k
 refine bnd_elim q fun as H₁ e1 e2=>?_
 split at e2
 ·rename_i nx' en
  obtain ⟨rfl,rfl⟩:=sp e2
  refine Call_ (hf env A g L S rest sh ρ H s _ H R rfl _ _ fun sh1 h1 tk1 v R1 G1 r1=>?_)
  cases r1
  refine PySem.Pv.callWith_type1 ?_ (starEach_ne hn) (noStars (tail_ne hn))
  exact hs env A g L pos S rest sh1 ρ H _ as _ R1 e1 _ _ fun sh2 h2 tk2 vs R2 G2 r2=>C nms env A g L S rest sh2 ρ _ _ as vs _ R2 r2 en _ _ fun sh3 h3 tk3 I fix St its a b c R3 G3=>k sh3 h3 tk3 I fix St its a b c R3 ((G1.trans G2).trans G3)
 ·exact ns e2
noncomputable def rangeG (as:List AV) (H:List AO):Option Nx:=match as with
 |[.int n]=>if -1000000<=n/\n<=1000000 then some (nxRange 0 n) else none
 |[.int a,.int b]=>if -1000000<=a/\a<=1000000/\-1000000<=b/\b<=1000000 then some (nxRange a b) else none
 |_=>none
set_option tactic.hygienic true in
theorem SimCI.range:SimCI D lv "range" target rangeG:=by
 intro nms env A g L S rest sh ρ H s as vs nx R rv e Q E k
 have fin:∀ (a b:Int) (t u v:Tok) (tk:Nat),-1000000<=a/\a<=1000000/\-1000000<=b/\b<=1000000->nx=nxRange a b->wpAny (model D.prog D.w) A (pyIter (.ref s.heap.objs.size)) Q E { s with heap:=s.heap.push { cls:=.type "range",data:=.fields #[.int a t,.int b u,.int 1 v] },toks:=tk }:=by
  intro a b t u v tk hz e
  subst e
  refine wpAny_pyIter_range (IsRange.new s.heap a b 1 t u v) (small_one (om264 hz) (om260 hz) (om265 hz) (om261 hz)) ?_
  refine k sh _ tk _ _ _ [(_,_)] (src_range (a:=a) (b:=b)) trivial ⟨_,rfl,rfl⟩ (rel_push R (a:=(s.heap.push _).objs.size) (by rw [Heap.size_push]; exact Nat.le_succ _) (fun b o z=>Heap.get?_push_of_some _ (Heap.get?_push_of_some _ z)) (by rw [Heap.get?_push_size _ rfl,rangeSize_one]; simp)) .refl
 unfold rangeG at e
 split at e
 ·split at e
  ·rename_i n hz
   obtain rfl:=so e
   refine vr_i (C:=fun vs=>wpAny (model D.prog D.w) A (call _ vs) (fun xv s₁=>wpAny (model D.prog D.w) A (pyIter xv) Q E s₁) E s) rv fun t=>?_
   exact call_range_1 (fin 0 n _ _ _ _ (by omega) rfl)
  ·exact ns e
 ·split at e
  ·rename_i a b hz
   obtain rfl:=so e
   refine vr_ii (C:=fun vs=>wpAny (model D.prog D.w) A (call _ vs) (fun xv s₁=>wpAny (model D.prog D.w) A (pyIter xv) Q E s₁) E s) rv fun t u=>?_
   exact call_range_2 (fin a b _ _ _ _ hz rfl)
  ·exact ns e
 ·exact ns e
noncomputable def nxEnum (l:Nat):Nx:=fun i H=>match H[l]? with
 |some (.list xs)=>match xs[i]? with
  |some a=>some (some (.loc H.length,H++[.tup [.int i,a]]))
  |none=>if i=xs.length then some none else none
 |_=>none
abbrev enumObj (it:Addr) (i:Int) (old:Value):Obj:={ cls:=.type "enumerate",data:=.fields #[.none,.bool false,.ref it,rawInt i,.none,old] }
variable {elts:List PySem.Expr} {tk0:Nat} {tp:Pos}
set_option tactic.hygienic true in
theorem src_enum {e a:Addr} {l:Nat}:Src D (.Tuple elts tk0 tp) e (nxEnum l) (fun sh n=>l<n/\sh.φ l=a) (fun i its=>∃ it oI old,its = [(e,enumObj it i old),(it,oI)]/\iterObj oI a i/\e≠it) where
 grow:=fun f G=>⟨Nat.lt_of_lt_of_le f.1 G.1,(G.2 _ f.1).1.trans f.2⟩
 again:=fun hi hst h=>by
  refine ex3_3 hst fun it oI old zz3 hI hne=>?_; try clear hst; subst zz3
  exact wpAny_pyIter_enum (hi _ (.head _)) h
 step:=by
  intro nms lv env A g L S rest sh ρ H s i its a' H' R hf hst q
  refine ex3_3 hst fun it oI old zz3 hI hne=>?_; try clear hst; subst zz3
  refine ex0_2 hf fun hlt zz1=>?_; try clear hf; subst zz1
  unfold nxEnum at q
  split at q
  ·rename_i xs hi
   split at q
   ·rename_i x hx
    obtain ⟨rfl,rfl⟩:=sp (so q)
    refine Rel.elim R fun m hl cl F N nd HH lr cr=>?_
    refine list_elim HH hi fun vs c m1 r1=>?_
    refine ex1_2 (r1.get hx) fun v hv rv=>?_
    have Ze:=N (e,enumObj it i old) (List.mem_append_right _ (List.mem_append_right _ (.head _)))
    have ZI:=N (it,oI) (List.mem_append_right _ (List.mem_append_right _ (.tail _ (.head _))))
    refine wpAny_pyNext_enum_item (l:=sh.φ l) (x:=v) Ze.1 ⟨oI,ZI.1,hI⟩ (N.isList (List.mem_append_left _ m1)) (by simpa using hv) hne fun h' ho hit hT hsz hk=>⟨_,rfl,?_⟩
    refine wpAny_letOwnedTupleGo_enum ho fun h'' he hs=>?_
    obtain ⟨oI',hI',hc',hd'⟩:=hit
    have hTe:s.heap.objs.size≠e:=Nat.ne_of_gt (Heap.lt_size Ze.1)
    refine ex1_3 (rel_hand (its:=[(e,enumObj it i old),(it,oI)]) (its':=[(e,enumObj it ((i:Int)+1) v),(it,oI')]) (vs:=[.int i s.toks,v]) (as:=[.int i,x]) (h':=h'') (T:=s.heap.objs.size) R rfl
     (fun b o hb z=>by
      simp only [List.map_cons,List.map_nil,List.mem_cons,List.not_mem_nil,or_false,not_or] at hb
      exact (hs.2 b hb.1).trans (hk b o hb.1 hb.2 z))
     (fun q hq=>by
      rcases List.mem_cons.mp hq with rfl|hq
      ·exact he
      ·rw [List.mem_singleton.mp hq]; exact (hs.2 it (Ne.symm hne)).trans hI')
     (Nat.le_refl _) ((hs.2 _ hTe).trans hT) ⟨⟨_,rfl⟩,rv,trivial⟩) fun sh' R' G' rT=>?_
    refine ⟨_,sh',h'',_,rfl,R',by simpa using G',⟨it,oI',v,?_,⟨hc',hd'⟩,hne⟩,by simpa using rT⟩
    push_cast; rfl
   ·split at q
    ·exact ns (so q)
    ·exact ns q
  ·exact ns q
 stop:=by
  intro nms lv env A g L S rest sh ρ H s i its R hf hst q
  refine ex3_3 hst fun it oI old zz3 hI hne=>?_; try clear hst; subst zz3
  refine ex0_2 hf fun hlt zz1=>?_; try clear hf; subst zz1
  unfold nxEnum at q
  split at q
  ·rename_i xs hi
   split at q
   ·exact sn (so q)
   ·rename_i hx
    refine Rel.elim R fun m hl cl F N nd HH lr cr=>?_
    refine list_elim HH hi fun vs c m1 r1=>?_
    have Ze:=N (e,enumObj it i old) (List.mem_append_right _ (List.mem_append_right _ (.head _)))
    have ZI:=N (it,oI) (List.mem_append_right _ (List.mem_append_right _ (.tail _ (.head _))))
    have hlen:=r1.len
    refine wpAny_pyNext_enum_end S.hh (l:=sh.φ l) Ze.1 ⟨oI,ZI.1,hI⟩ (N.isList (List.mem_append_left _ m1)) ?_ fun h' hs=>⟨rfl,h',s.toks,rfl,rel_gone (its:=[(e,enumObj it i old),(it,oI)]) R fun b o hb z=>hs b o (by simp at hb; exact hb.2) z⟩
    have:vs[i]? = none:=by rw [List.getElem?_eq_none_iff] at hx ⊢; exact om126 hlen hx
    simpa using this
  ·exact ns q
noncomputable def enumG (as:List AV) (H:List AO):Option Nx:=match as with
 |[.loc l]=>match H[l]? with
  |some (.list _)=>some (nxEnum l)
  |_=>none
 |_=>none
set_option tactic.hygienic true in
theorem SimCI.enum:SimCI D lv "enumerate" (.Tuple elts tk0 tp) enumG:=by
 intro nms env A g L S rest sh ρ H s as vs nx R rv q Q E k
 refine Rel.elim R fun m hl cl F N nd HH lr cr=>?_
 unfold enumG at q
 split at q
 ·rename_i l
  refine vr_l (C:=fun vs=>wpAny (model D.prog D.w) A (call _ vs) (fun xv s₁=>wpAny (model D.prog D.w) A (pyIter xv) Q E s₁) E s) rv fun l0=>?_
  split at q
  ·rename_i xs hi
   obtain rfl:=so q
   refine list_elim HH hi fun vs c m1 r1=>?_
   refine call_enumerate_1 (N _ (List.mem_append_left _ m1)).1 fun h' he hit hsz hk=>wpAny_pyIter_enum he ?_
   obtain ⟨oI,hI,hc,hd⟩:=hit
   have R2:Rel D nms env.cells g L ([(s.heap.objs.size+1,enumObj s.heap.objs.size 0 .none),(s.heap.objs.size,oI)]++rest) sh ρ H h':=rel_new R (fun q hq=>by
     rcases List.mem_cons.mp hq with rfl|hq
     ·exact Nat.le_succ _
     ·rw [List.mem_singleton.mp hq]; exact Nat.le_refl _) (by simp) hk (fun q hq=>by
     rcases List.mem_cons.mp hq with rfl|hq
     ·exact he
     ·rw [List.mem_singleton.mp hq]; exact hI)
   exact k sh h' s.toks _ _ _ _ (src_enum (a:=sh.φ l)) ⟨l0,rfl⟩ ⟨_,oI,.none,rfl,⟨hc,hd⟩,Nat.succ_ne_self _⟩ R2 .refl
  ·exact ns q
 ·exact ns q
end
section
variable {D:Mdl} {nms:Names} {lv:Nat}
noncomputable def nxZip (l1 l2:Nat):Nx:=fun i H=>match H[l1]?,H[l2]? with
 |some (.list xs),some (.list ys)=>match xs[i]?,ys[i]? with
  |some a,some b=>some (some (.loc H.length,H++[.tup [a,b]]))
  |_,_=>some none
 |_,_=>none
abbrev zipObj (TI TO:Addr):Obj:={ cls:=.type "zip",data:=.fields #[.none,.bool false,.bool false,.ref TI,.ref TO] }
def zipIts (z TI TO i1 i2:Addr) (o1 o2:Obj) (u v:Value):Lg:=[(z,zipObj TI TO),(TI,tupObj [.ref i1,.ref i2]),(TO,tupObj [u,v]),(i1,o1),(i2,o2)]
inductive ZipSt (z a1 a2:Addr) (i:Nat) (its:Lg):Prop
 |mk (TI TO i1 i2:Addr) (o1 o2:Obj) (u v:Value) (e:its=zipIts z TI TO i1 i2 o1 o2 u v) (h1:iterObj o1 a1 i) (h2:iterObj o2 a2 i):ZipSt z a1 a2 i its
variable {z TI TO i1 i2 a1 a2:Addr} {o1 o2:Obj} {u v:Value}
theorem zip_facts {g:Heap} {L:Addr} {hl cl rest:Lg} {h:Heap} {x1 x2:Obj} (N:News g L h (hl++(cl++(zipIts z TI TO i1 i2 o1 o2 u v++rest)))) (nd:((hl++(cl++(zipIts z TI TO i1 i2 o1 o2 u v++rest))).map (·.1)).Nodup) (m1:(a1,x1)∈hl) (m2:(a2,x2)∈hl):
  ZipApart z TI TO i1 i2 a1 a2/\h.get? z=some (zipObj TI TO)/\h.get? TI=some (tupObj [.ref i1,.ref i2])/\h.get? TO=some (tupObj [u,v])/\h.get? i1=some o1/\h.get? i2=some o2:=by
 have inI:∀ q∈zipIts z TI TO i1 i2 o1 o2 u v,h.get? q.1=some q.2:=fun q hq=>(N q (List.mem_append_right _ (List.mem_append_right _ (List.mem_append_left _ hq)))).1
 simp only [List.map_append] at nd
 have offI:∀ b ob,(b,ob)∈hl->b∉(zipIts z TI TO i1 i2 o1 o2 u v).map (·.1):=fun b ob hb hz=>
  (List.nodup_append.mp nd).2.2 b (List.mem_map_of_mem (f:=(·.1)) hb) b (List.mem_append_right _ (List.mem_append_left _ hz)) rfl
 have ndI:=(List.nodup_append.mp (List.nodup_append.mp (List.nodup_append.mp nd).2.1).2.1).1
 have off1:=offI _ _ m1
 have off2:=offI _ _ m2
 clear N nd offI
 simp only [zipIts,List.map_cons,List.map_nil,List.nodup_cons,List.mem_cons,List.not_mem_nil,or_false,not_or,List.nodup_nil,and_true,not_false_eq_true] at ndI off1 off2
 exact ⟨⟨Ne.symm ndI.1.1,Ne.symm ndI.1.2.1,Ne.symm ndI.1.2.2.1,Ne.symm ndI.1.2.2.2,ndI.2.1.1,ndI.2.1.2.1,ndI.2.1.2.2,ndI.2.2.1.1,ndI.2.2.1.2,ndI.2.2.2,off1.1,off1.2.2.1,off1.2.2.2.1,off1.2.2.2.2,off2.1,off2.2.2.1,off2.2.2.2.1,off2.2.2.2.2⟩,inI _ (.head _),inI _ (.tail _ (.head _)),inI _ (.tail _ (.tail _ (.head _))),inI _ (.tail _ (.tail _ (.tail _ (.head _)))),inI _ (.tail _ (.tail _ (.tail _ (.tail _ (.head _)))))⟩
theorem zip_off {b:Addr} (hb:b∉(zipIts z TI TO i1 i2 o1 o2 u v).map (·.1)):b≠z/\b≠TI/\b≠TO/\b≠i1/\b≠i2:=by
 simpa only [zipIts,List.map_cons,List.map_nil,List.mem_cons,List.not_mem_nil,or_false,not_or] using hb
theorem zip_all {P:Addr->Obj->Prop} (h1:P z (zipObj TI TO)) (h2:P TI (tupObj [.ref i1,.ref i2])) (h3:P TO (tupObj [u,v])) (h4:P i1 o1) (h5:P i2 o2):∀ q∈zipIts z TI TO i1 i2 o1 o2 u v,P q.1 q.2:=
 List.forall_mem_cons.mpr ⟨h1,List.forall_mem_cons.mpr ⟨h2,List.forall_mem_cons.mpr ⟨h3,List.forall_mem_cons.mpr ⟨h4,List.forall_mem_cons.mpr ⟨h5,fun ZZ h=>absurd h List.not_mem_nil⟩⟩⟩⟩⟩
variable {l1 l2 i:Nat} {H:List AO}
set_option tactic.hygienic true in
theorem nxZip_some {H':List AO} {a:AV} (q:nxZip l1 l2 i H=some (some (a,H'))):∃ xs ys x y,H[l1]? = some (.list xs)/\H[l2]? = some (.list ys)/\xs[i]? = some x/\ys[i]? = some y/\a = .loc H.length/\H'=H++[.tup [x,y]]:=by
 unfold nxZip at q
 split at q
 ·rename_i xs ys hi1 hi2
  split at q
  ·rename_i x y hx hy
   obtain ⟨rfl,rfl⟩:=sp (so q)
   exact ⟨xs,ys,x,y,hi1,hi2,hx,hy,rfl,rfl⟩
  ·exact ns (so q)
 ·exact ns q
set_option tactic.hygienic true in
theorem nxZip_none (q:nxZip l1 l2 i H=some none):∃ xs ys,H[l1]? = some (.list xs)/\H[l2]? = some (.list ys)/\(xs[i]? = none\/ys[i]? = none):=by
 unfold nxZip at q
 split at q
 ·rename_i xs ys hi1 hi2
  refine ⟨xs,ys,hi1,hi2,?_⟩
  cases e1:xs[i]? with
  |none=>exact .inl rfl
  |some a=>cases e2:ys[i]? with
   |none=>exact .inr rfl
   |some b=>rw [e1,e2] at q; exact sn (so q)
 ·exact ns q
variable {elts:List PySem.Expr} {tk0:Nat} {tp:Pos}
theorem src_zip:Src D (.Tuple elts tk0 tp) z (nxZip l1 l2) (fun sh n=>(l1<n/\sh.φ l1=a1)/\l2<n/\sh.φ l2=a2) (fun i its=>ZipSt z a1 a2 i its) where
 grow:=fun f G=>⟨⟨Nat.lt_of_lt_of_le f.1.1 G.1,(G.2 _ f.1.1).1.trans f.1.2⟩,Nat.lt_of_lt_of_le f.2.1 G.1,(G.2 _ f.2.1).1.trans f.2.2⟩
 again:=fun hi hst h=>by
  obtain ⟨TI,TO,i1,i2,o1,o2,u,v,rfl,hI1,hI2⟩:=hst
  exact wpAny_pyIter_zip (hi _ (.head _)) h
 step:=by
  intro nms lv env A g L S rest sh ρ H s i its a' H' R hf hst q
  obtain ⟨TI,TO,i1,i2,o1,o2,u,v,ei,hI1,hI2⟩:=hst
  rw [ei] at R
  refine ex4_6 (nxZip_some q) fun xs ys x y hi1 hi2 hx hy ea eH=>?_
  rw [ea,eH]
  refine Rel.elim R fun m hl cl F N nd HH lr cr=>?_
  refine list_elim HH hi1 fun vs1 c1 m1 r1=>?_
  refine list_elim HH hi2 fun vs2 c2 m2 r2=>?_
  rw [hf.1.2] at m1
  rw [hf.2.2] at m2
  refine ex1_2 (r1.get hx) fun v1 hv1 rv1=>?_
  refine ex1_2 (r2.get hy) fun v2 hv2 rv2=>?_
  have Z:=zip_facts N nd m1 m2
  refine wpAny_pyNext_zip_item (x:=v1) (y:=v2) Z.1 Z.2.1 Z.2.2.1 Z.2.2.2.1 ⟨o1,Z.2.2.2.2.1,hI1⟩ ⟨o2,Z.2.2.2.2.2,hI2⟩
   (N.isList (List.mem_append_left _ m1)) (N.isList (List.mem_append_left _ m2)) (by simpa using hv1) (by simpa using hv2) fun h' ho hTO hit1 hit2 hT hsz hk=>⟨_,rfl,?_⟩
  refine wpAny_letOwnedTupleGo_zip ho fun h'' he hs=>?_
  refine ex1_2 hit1 fun o1' hI1' st1=>?_
  refine ex1_2 hit2 fun o2' hI2' st2=>?_
  have hTz:s.heap.objs.size≠z:=Nat.ne_of_gt (Heap.lt_size Z.2.1)
  refine ex1_3 (rel_hand (its':=zipIts z TI TO i1 i2 o1' o2' v1 v2) (vs:=[v1,v2]) (as:=[x,y]) (h':=h'') (T:=s.heap.objs.size) R rfl
   (fun b o hb hz=>(hs.2 b (zip_off hb).1).trans (hk b o (zip_off hb).1 (zip_off hb).2.2.1 (zip_off hb).2.2.2.1 (zip_off hb).2.2.2.2 hz))
   (zip_all (P:=fun a o=>h''.get? a=some o) he ((hs.2 _ Z.1.TIz).trans (hk _ _ Z.1.TIz Z.1.TITO Z.1.TIi1 Z.1.TIi2 Z.2.2.1)) ((hs.2 _ Z.1.TOz).trans hTO) ((hs.2 _ Z.1.i1z).trans hI1') ((hs.2 _ Z.1.i2z).trans hI2'))
   (Nat.le_refl _) ((hs.2 _ hTz).trans hT) ⟨rv1,rv2,trivial⟩) fun sh' R' G' rT=>?_
  exact ⟨_,sh',h'',_,rfl,R',by simpa using G',⟨TI,TO,i1,i2,o1',o2',v1,v2,rfl,st1,st2⟩,by simpa using rT⟩
 stop:=by
  intro nms lv env A g L S rest sh ρ H s i its R hf hst q
  obtain ⟨TI,TO,i1,i2,o1,o2,u,v,ei,hI1,hI2⟩:=hst
  rw [ei] at R
  refine ex2_3 (nxZip_none q) fun xs ys hi1 hi2 hno=>?_
  refine Rel.elim R fun m hl cl F N nd HH lr cr=>?_
  refine list_elim HH hi1 fun vs1 c1 m1 r1=>?_
  refine list_elim HH hi2 fun vs2 c2 m2 r2=>?_
  rw [hf.1.2] at m1
  rw [hf.2.2] at m2
  have Z:=zip_facts N nd m1 m2
  refine wpAny_pyNext_zip_end S.hh Z.1 Z.2.1 Z.2.2.1 Z.2.2.2.1 ⟨o1,Z.2.2.2.2.1,hI1⟩ ⟨o2,Z.2.2.2.2.2,hI2⟩
   (N.isList (List.mem_append_left _ m1)) (N.isList (List.mem_append_left _ m2)) ?_ fun h' hs=>⟨rfl,h',s.toks,rfl,rel_gone R fun b o hb hz=>hs b o (zip_off hb).1 (zip_off hb).2.2.1 (zip_off hb).2.2.2.1 (zip_off hb).2.2.2.2 hz⟩
  have h1:=r1.len
  have h2:=r2.len
  rw [List.getElem?_eq_none_iff,List.getElem?_eq_none_iff,<- h1,<- h2] at hno
  simpa using hno
noncomputable def zipG (as:List AV) (H:List AO):Option Nx:=match as with
 |[.loc l1,.loc l2]=>match H[l1]?,H[l2]? with
  |some (.list _),some (.list _)=>some (nxZip l1 l2)
  |_,_=>none
 |_=>none
set_option tactic.hygienic true in
theorem SimCI.zip:SimCI D lv "zip" (.Tuple elts tk0 tp) zipG:=by
 intro nms env A g L S rest sh ρ H s as vs nx R rv q Q E k
 refine Rel.elim R fun m hl cl F N nd HH lr cr=>?_
 unfold zipG at q
 split at q
 ·rename_i l1 l2
  refine vr_ll (C:=fun vs=>wpAny (model D.prog D.w) A (call _ vs) (fun xv s₁=>wpAny (model D.prog D.w) A (pyIter xv) Q E s₁) E s) rv fun k0 k1=>?_
  split at q
  ·rename_i xs ys hi1 hi2
   obtain rfl:=so q
   refine list_elim HH hi1 fun vs1 c1 m1 r1=>?_
   refine list_elim HH hi2 fun vs2 c2 m2 r2=>?_
   refine call_zip_2 (N.isList (List.mem_append_left _ m1)) (N.isList (List.mem_append_left _ m2)) fun h' hz hTI hTO hit1 hit2 hsz hk=>wpAny_pyIter_zip hz ?_
   obtain ⟨o1,hI1,hc1,hd1⟩:=hit1
   obtain ⟨o2,hI2,hc2,hd2⟩:=hit2
   have R2:Rel D nms env.cells g L ([(s.heap.objs.size+4,zipObj (s.heap.objs.size+2) (s.heap.objs.size+3)),(s.heap.objs.size+2,tupObj [.ref s.heap.objs.size,.ref (s.heap.objs.size+1)]),(s.heap.objs.size+3,tupObj [.none,.none]),(s.heap.objs.size,o1),(s.heap.objs.size+1,o2)]++rest) sh ρ H h':=rel_new R (fun q hq=>by
     simp only [List.mem_cons,List.not_mem_nil,or_false] at hq
     rcases hq with rfl|rfl|rfl|rfl|rfl <;> first|exact Nat.le_refl _|exact Nat.le_add_right _ _) (by simp) hk (fun q hq=>by
     simp only [List.mem_cons,List.not_mem_nil,or_false] at hq
     rcases hq with rfl|rfl|rfl|rfl|rfl
     ·exact hz
     ·exact hTI
     ·exact hTO
     ·exact hI1
     ·exact hI2)
   exact k sh h' s.toks _ _ _ _ (src_zip (a1:=sh.φ l1) (a2:=sh.φ l2)) ⟨⟨k0,rfl⟩,k1,rfl⟩ ⟨_,_,_,_,o1,o2,_,_,rfl,⟨hc1,hd1⟩,hc2,hd2⟩ R2 .refl
  ·exact ns q
 ·exact ns q
noncomputable def aName (x:Str):AV->St->Option St:=fun a σ=>some ⟨(x,a)::σ.ρ,σ.H⟩
variable {x:Str} {p:Pos}
theorem SimA.name (hx:nms.lookup x=some .local\/nms.lookup x=some .cell):SimA D nms lv (.Name x p) (aName x):=by
 intro env A g L S rest sh σ s a v σ' R rv e Q E k
 obtain rfl:=so e
 exact PyProof.Rows.assign_Name (store_name S R hx rv fun h2 tk2 R2=>k sh h2 tk2 R2 .refl)
noncomputable def aPair (f g:AV->St->Option St):AV->St->Option St:=fun a σ=>match a with
 |.loc l=>match seqA σ.H[l]? with
  |some [x,y]=>match f x σ with
   |some σ1=>g y σ1
   |none=>none
  |_=>none
 |_=>none
variable {k:Nat}
set_option tactic.hygienic true in
theorem SimA.pair {e1 e2:PySem.Expr} {f1 f2:AV->St->Option St} (h1:SimA D nms lv e1 f1) (h2:SimA D nms lv e2 f2)
  (ha:∀ env,assignEach [e1,e2] env = [(false,assign e1 env),(false,assign e2 env)]:=by intro _; rfl):SimA D nms lv (.Tuple [e1,e2] k p) (aPair f1 f2):=by
 intro env A g L S rest sh σ s a v σ' R rv e Q E kk
 unfold aPair at e
 split at e
 ·rename_i l
  obtain ⟨hlt,rfl⟩:=rv
  split at e
  ·rename_i x y hi
   split at e
   ·rename_i σ1 es1
    refine Rel.elim R fun m hl cl F N nd HH lr cr=>?_
    have fin:∀ (us:List Value) (h':Heap),VRels sh σ.H.length [x,y] us->(∀ m',Fr g L h' m'->News g L h' (hl++(cl++rest))->m'=m->wpAny (model D.prog D.w) A (assignInOrder (((assignEach [e1,e2] env)).map (·.2)) us) Q E { s with heap:=h' }):=by
     intro us h' ru m' F' N' em
     subst em
     have R':Rel D nms env.cells g L rest sh σ.ρ σ.H h':=⟨m',hl,cl,F',N',nd,HH,lr,cr⟩
     refine ex2_3 (vrx2 ru) fun u1 u2 eu r1 r2=>?_
     ·rw [ha,eu]
      refine assignInOrder_cons (h1 env A g L S rest sh σ _ x u1 σ1 R' r1 es1 _ _ fun sh1 hp1 tk1 R1 G1=>?_)
      exact assignInOrder_cons (h2 env A g L S rest sh1 σ1 _ y u2 σ' R1 (r2.grow G1) e _ _ fun sh2 hp2 tk2 R2 G2=>assignInOrder_nil (kk sh2 hp2 tk2 R2 (G1.trans G2)))
    unfold seqA at hi
    split at hi
    ·rename_i ys hi'
     obtain rfl:=so hi
     refine list_elim HH hi' fun us c m1 r1=>?_
     refine kun_list F N (N.isList (List.mem_append_left _ m1)) S.hh (by rw [ha]; have:=r1.len; simpa using this.symm) (by rw [ha]; rfl) fun h' F' N'=>?_
     simpa using fin us h' r1 m F' N' rfl
    ·rename_i ys hi'
     obtain rfl:=so hi
     obtain ⟨us,m1,r1⟩:=HH.obj l _ hi'
     refine unpackN_ F N (N.isTup (List.mem_append_left _ m1)) S.hh (by rw [ha]; have:=r1.len; simpa using this.symm) (by rw [ha]; rfl) fun h' F' N'=>?_
     simpa using fin us h' r1 m F' N' rfl
    ·exact ns hi
   ·exact ns e
  ·exact ns e
 ·exact ns e
noncomputable def loopA (nx:Nx) (fa:AV->St->Option St) (fb:FnS):Nat->Nat->St->Option (AF'×St)
 |0,_,_=>none
 |k+1,i,σ=>match nx i σ.H with
  |some none=>some (.next,σ)
  |some (some (a,H'))=>match fa a ⟨σ.ρ,H'⟩ with
   |some σ1=>match fb σ1 with
    |some (.next,σ2)=>loopA nx fa fb k (i+1) σ2
    |some (.cont,σ2)=>loopA nx fa fb k (i+1) σ2
    |some (.brk,σ2)=>some (.next,σ2)
    |some (.ret v,σ2)=>some (.ret v,σ2)
    |none=>none
   |none=>none
  |none=>none
noncomputable def sFor (N:Nat) (fi:FnI) (fa:AV->St->Option St) (fb:FnS):FnS:=fun σ=>match fi σ.ρ σ.H with
 |some (nx,H')=>loopA nx fa fb N 0 ⟨σ.ρ,H'⟩
 |none=>none
inductive ForI (D:Mdl) (nms:Names) (cells:List (Str×Addr)) (g:Heap) (L:Addr) (rest:Lg) (C:Nat->Nat->Mine.St->Prop) (fix:Shp->Nat->Prop) (St:Nat->Lg->Prop) (sh:Shp) (k:Nat) (s:Shared) (n:Nat) (s':Shared):Prop
 |mk (i:Nat) (sh1:Shp) (σ:Mine.St) (its:Lg) (h:Heap) (tk:Nat) (e:s' = { s with heap:=h,toks:=tk }) (c:C n i σ) (R:Rel D nms cells g L (its++rest) sh1 σ.ρ σ.H h) (f:fix sh1 σ.H.length) (st:St i its) (G:Grow sh k sh1 σ.H.length):ForI D nms cells g L rest C fix St sh k s n s'
inductive WhileI (D:Mdl) (nms:Names) (cells:List (Str×Addr)) (g:Heap) (L:Addr) (rest:Lg) (C:Nat->Mine.St->Prop) (sh:Shp) (k:Nat) (s:Shared) (n:Nat) (s':Shared):Prop
 |mk (sh1:Shp) (σ:Mine.St) (h:Heap) (tk:Nat) (e:s' = { s with heap:=h,toks:=tk }) (c:C n σ) (R:Rel D nms cells g L rest sh1 σ.ρ σ.H h) (G:Grow sh k sh1 σ.H.length):WhileI D nms cells g L rest C sh k s n s'
variable {body:List Stmt} {pos:Pos} {N:Nat} {fa:AV->St->Option St} {fb:FnS}
set_option tactic.hygienic true in
theorem SimS1.for {target iter:PySem.Expr} {fi:FnI} (hi:SimI D nms lv iter target fi) (ha:SimA D nms lv target fa) (hb:SimS D nms lv body fb)
  (hs:∀ env x,foldedSetIterable iter env x=pure x:=by intros; rfl):SimS1 D nms lv (.For target iter body [] pos) (sFor N fi fa fb):=by
 intro env A g L S rest sh σ s fl σ' R e Q E k
 unfold sFor at e
 split at e
 ·rename_i nx H1 e1
  refine wpAny_For (hi env A g L S rest sh σ.ρ σ.H s nx H1 R e1 _ _ fun sh1 h1 tk1 I fix St its W hf hst R1 G1=>?_) (hs env)
  refine codeAny_forLoop_any (ForI D nms env.cells g L rest (fun kk i σ1=>loopA nx fa fb kk i σ1=some (fl,σ')) fix St sh1 H1.length s) (fun kk s' hI=>?_) N
   ⟨0,sh1,⟨σ.ρ,H1⟩,its,h1,tk1,rfl,e,R1,hf,hst,.refl⟩
  obtain ⟨i,sh2,σ2,its2,h2,tk2,es,e2,R2,hf2,hst2,G2⟩:=hI
  rw [es]
  cases kk with
  |zero=>exact ns e2
  |succ kk=>
   unfold loopA at e2
   split at e2
   ·rename_i en
    obtain ⟨rfl,rfl⟩:=sp e2
    refine wpAny_mono (W.stop (s:={ s with heap:=h2,toks:=tk2 }) S R2 hf2 hst2 en) (fun r s4 hr=>?_) fun ZZ ZZ z=>z.elim
    obtain ⟨rfl,h4,tk4,rfl,R4⟩:=hr
    exact wpAny_execs_nil (k sh2 h4 tk4 _ R4 (G1.trans G2) rfl)
   ·rename_i a H3 en
    split at e2
    ·rename_i σ3 ea
     refine wpAny_mono (W.step (s:={ s with heap:=h2,toks:=tk2 }) S R2 hf2 hst2 en) (fun r s4 hr=>?_) fun ZZ ZZ z=>z.elim
     refine ex1_2 hr fun v er hr=>?_
     rw [er]
     refine wpAny_mono hr (fun ZZ s5 h5=>?_) fun ZZ ZZ z=>z.elim
     refine ex4_5 h5 fun its5 sh5 hp5 tk5 e5 R5 G5 hst5 rv5=>?_
     rw [e5]
     refine ha env A g L S (its5++rest) sh5 ⟨σ2.ρ,H3⟩ _ a v σ3 R5 rv5 ea _ _ fun sh6 hp6 tk6 R6 G6=>?_
     have hf6:=W.grow (W.grow hf2 G5) G6
     have GG:=((G2.trans G5).trans G6)
     cases eb:fb σ3 with
     |none=>rw [eb] at e2; exact ns e2
     |some p=>
      obtain ⟨fl7,σ7⟩:=p
      rw [eb] at e2
      refine hb env A g L S (its5++rest) sh6 σ3 _ fl7 σ7 R6 eb _ _ fun sh7 hp7 tk7 fv R7 G7 rf=>?_
      cases fl7 with
      |next=>cases rf; exact ⟨kk,Nat.lt_succ_self _,i+1,sh7,σ7,its5,hp7,tk7,rfl,e2,R7,W.grow hf6 G7,hst5,GG.trans G7⟩
      |cont=>cases rf; exact ⟨kk,Nat.lt_succ_self _,i+1,sh7,σ7,its5,hp7,tk7,rfl,e2,R7,W.grow hf6 G7,hst5,GG.trans G7⟩
      |brk=>cases rf; cases e2; exact k sh7 hp7 tk7 _ (rel_drop R7) (G1.trans (GG.trans G7)) rfl
      |ret a=>obtain ⟨u,rfl,ru⟩:=rf; cases e2; exact k sh7 hp7 tk7 _ (rel_drop R7) (G1.trans (GG.trans G7)) ⟨u,rfl,ru⟩
    ·exact ns e2
   ·exact ns e2
 ·exact ns e
noncomputable def whileA (t:Fn Bool) (fb:FnS):Nat->St->Option (AF'×St)
 |0,_=>none
 |k+1,σ=>match t σ.ρ σ.H with
  |some (false,H)=>some (.next,⟨σ.ρ,H⟩)
  |some (true,H)=>match fb ⟨σ.ρ,H⟩ with
   |some (.next,σ2)=>whileA t fb k σ2
   |some (.cont,σ2)=>whileA t fb k σ2
   |some (.brk,σ2)=>some (.next,σ2)
   |some (.ret v,σ2)=>some (.ret v,σ2)
   |none=>none
  |none=>none
set_option tactic.hygienic true in
theorem SimS1.while {test:PySem.Expr} {t:Fn Bool} (ht:SimB D nms lv test t) (hb:SimS D nms lv body fb):SimS1 D nms lv (.While test body [] pos) (whileA t fb N):=by
 intro env A g L S rest sh σ s fl σ' R e Q E k
 refine while_J (WhileI D nms env.cells g L rest (fun kk σ1=>whileA t fb kk σ1=some (fl,σ')) sh σ.H.length s) (fun kk s' hI=>?_) N ⟨sh,σ,s.heap,s.toks,rfl,e,R,.refl⟩
 obtain ⟨sh2,σ2,h2,tk2,es,e2,R2,G2⟩:=hI
 rw [es]
 cases kk with
 |zero=>exact ns e2
 |succ kk=>
  unfold whileA at e2
  split at e2
  ·rename_i H et
   obtain ⟨rfl,rfl⟩:=sp e2
   refine ht env A g L S rest sh2 σ2.ρ σ2.H _ false H R2 et _ _ fun sh3 h3 tk3 b R3 G3 r3=>?_
   subst r3
   rw [if_neg Bool.false_ne_true]
   exact k sh3 h3 tk3 _ R3 (G2.trans G3) rfl
  ·rename_i H et
   refine ht env A g L S rest sh2 σ2.ρ σ2.H _ true H R2 et _ _ fun sh3 h3 tk3 b R3 G3 r3=>?_
   subst r3
   rw [if_pos rfl]
   cases eb:fb ⟨σ2.ρ,H⟩ with
   |none=>rw [eb] at e2; exact ns e2
   |some p=>
    obtain ⟨fl7,σ7⟩:=p
    rw [eb] at e2
    refine hb env A g L S rest sh3 ⟨σ2.ρ,H⟩ _ fl7 σ7 R3 eb _ _ fun sh7 hp7 tk7 fv R7 G7 rf=>?_
    have GG:=(G2.trans G3).trans G7
    cases fl7 with
    |next=>cases rf; exact ⟨kk,Nat.lt_succ_self _,sh7,σ7,hp7,tk7,rfl,e2,R7,GG⟩
    |cont=>cases rf; exact ⟨kk,Nat.lt_succ_self _,sh7,σ7,hp7,tk7,rfl,e2,R7,GG⟩
    |brk=>cases rf; cases e2; exact k sh7 hp7 tk7 _ R7 GG rfl
    |ret a=>obtain ⟨u,rfl,ru⟩:=rf; cases e2; exact k sh7 hp7 tk7 _ R7 GG ⟨u,rfl,ru⟩
  ·exact ns e2
noncomputable def sSwap (x y:Str) (f:Fn AV):FnS:=fun σ=>bnd (f σ.ρ σ.H) fun a H=>match a with
 |.loc l=>match H[l]? with
  |some (.tup [b,c])=>some (.next,⟨(x,b)::(y,c)::σ.ρ,H⟩)
  |_=>none
 |_=>none
variable {es:List PySem.Expr} {y:Str} {value:PySem.Expr} {f:Fn AV}
set_option tactic.hygienic true in
theorem SimS1.swap (hf:SimE D nms lv value f) (hx:nms.lookup x=some .local\/nms.lookup x=some .cell) (hy:nms.lookup y=some .local\/nms.lookup y=some .cell)
  (h1:∀ env,swapsWithSole [.Tuple es k tp] value pos.line env=pure false:=by intros; rfl) (h2:∀ env:Env,env.scope.names=nms->env.scope.kind = .function->swappedStores [.Tuple es k tp] value env=pure (some [x,y])):
  SimS1 D nms lv (.Assign [.Tuple es k tp] value pos) (sSwap x y f):=by
 intro env A g L S rest sh σ s fl σ' R e Q E kk
 refine bnd_elim e fun a H₁ e1 e=>?_
 refine Assign_Tuple_swapped (hf env A g L S rest sh σ.ρ σ.H s a H₁ R e1 _ _ fun sh1 h1 tk1 v1 R1 G1 r1=>?_) (h1 env) (h2 env S.names S.kind)
 split at e
 ·rename_i l
  split at e
  ·rename_i b c hi
   obtain ⟨rfl,rfl⟩:=sp e
   obtain ⟨hlt,rfl⟩:=r1
   refine Rel.elim R1 fun m hl cl F N nd HH lr cr=>?_
   obtain ⟨us,m1,r1⟩:=HH.obj l _ hi
   refine ex2_3 (vrx2 r1) fun u1 u2 eu ru1 ru2=>?_
   rw [eu] at m1
   ·refine unpackItemsN_ F N (N.isTup (List.mem_append_left _ m1)) S.hh rfl fun h' F' N'=>?_
    have R':Rel D nms env.cells g L rest sh1 σ.ρ H₁ h':=⟨m,hl,cl,F',N',nd,HH,lr,cr⟩
    refine assignInOrder_cons (bindName_ (store_name (s:={ s with heap:=h',toks:=tk1 }) S R' hy ru2 fun h2 tk2 R2=>?_))
    exact assignInOrder_cons (bindName_ (store_name (s:={ s with heap:=h2,toks:=tk2 }) S R2 hx ru1 fun h3 tk3 R3=>assignInOrder_nil (kk sh1 h3 tk3 _ R3 G1 rfl)))
  ·exact ns e
 ·exact ns e
noncomputable def sSwap3 (x y z:Str) (f:Fn AV):FnS:=fun σ=>bnd (f σ.ρ σ.H) fun a H=>match a with
 |.loc l=>match H[l]? with
  |some (.tup [b,c,d])=>some (.next,⟨(x,b)::(y,c)::(z,d)::σ.ρ,H⟩)
  |_=>none
 |_=>none
set_option tactic.hygienic true in
theorem SimS1.swap3 {z:Str} (hf:SimE D nms lv value f) (hx:nms.lookup x=some .local\/nms.lookup x=some .cell) (hy:nms.lookup y=some .local\/nms.lookup y=some .cell) (hz:nms.lookup z=some .local\/nms.lookup z=some .cell)
  (h1:∀ env,swapsWithSole [.Tuple es k tp] value pos.line env=pure false:=by intros; rfl) (h2:∀ env:Env,env.scope.names=nms->env.scope.kind = .function->swappedStores [.Tuple es k tp] value env=pure (some [x,y,z])):
  SimS1 D nms lv (.Assign [.Tuple es k tp] value pos) (sSwap3 x y z f):=by
 intro env A g L S rest sh σ s fl σ' R e Q E kk
 refine bnd_elim e fun a H₁ e1 e=>?_
 refine Assign_Tuple_swapped (hf env A g L S rest sh σ.ρ σ.H s a H₁ R e1 _ _ fun sh1 h1 tk1 v1 R1 G1 r1=>?_) (h1 env) (h2 env S.names S.kind)
 split at e
 ·rename_i l
  split at e
  ·rename_i b c d hi
   obtain ⟨rfl,rfl⟩:=sp e
   obtain ⟨hlt,rfl⟩:=r1
   refine Rel.elim R1 fun m hl cl F N nd HH lr cr=>?_
   obtain ⟨us,m1,r1⟩:=HH.obj l _ hi
   refine ex3_4 (vrx3 r1) fun u1 u2 u3 eu ru1 ru2 ru3=>?_
   rw [eu] at m1
   ·refine unpackItemsN_ F N (N.isTup (List.mem_append_left _ m1)) S.hh rfl fun h' F' N'=>?_
    have R':Rel D nms env.cells g L rest sh1 σ.ρ H₁ h':=⟨m,hl,cl,F',N',nd,HH,lr,cr⟩
    refine assignInOrder_cons (bindName_ (store_name (s:={ s with heap:=h',toks:=tk1 }) S R' hz ru3 fun h2 tk2 R2=>?_))
    refine assignInOrder_cons (bindName_ (store_name (s:={ s with heap:=h2,toks:=tk2 }) S R2 hy ru2 fun h3 tk3 R3=>?_))
    exact assignInOrder_cons (bindName_ (store_name (s:={ s with heap:=h3,toks:=tk3 }) S R3 hx ru1 fun h4 tk4 R4=>assignInOrder_nil (kk sh1 h4 tk4 _ R4 G1 rfl)))
  ·exact ns e
 ·exact ns e
noncomputable def sUnp (fa:AV->St->Option St) (f:Fn AV):FnS:=fun σ=>bnd (f σ.ρ σ.H) fun a H=>match fa a ⟨σ.ρ,H⟩ with
 |some σ'=>some (.next,σ')
 |none=>none
theorem SimS1.unp (hf:SimE D nms lv value f) (ha:SimA D nms lv (.Tuple es k tp) fa)
  (h1:∀ env,swapsWithSole [.Tuple es k tp] value pos.line env=pure false:=by intros; rfl) (h2:∀ env:Env,env.scope.names=nms->env.scope.kind = .function->swappedStores [.Tuple es k tp] value env=pure none):
  SimS1 D nms lv (.Assign [.Tuple es k tp] value pos) (sUnp fa f):=by
 intro env A g L S rest sh σ s fl σ' R e Q E kk
 refine bnd_elim e fun a H₁ e1 e=>?_
 split at e
 ·rename_i σ1 ea
  cases e
  refine Assign_Tuple (hf env A g L S rest sh σ.ρ σ.H s a H₁ R e1 _ _ fun sh1 h1 tk1 v1 R1 G1 r1=>?_) (h1 env) (h2 env S.names S.kind)
  exact ha env A g L S rest sh1 ⟨σ.ρ,H₁⟩ _ a v1 σ' R1 r1 ea _ _ fun sh2 h2 tk2 R2 G2=>kk sh2 h2 tk2 _ R2 (G1.trans G2) rfl
 ·exact ns e
noncomputable def sAug (G SG:Addr->Str->Bool) (x:Str) (fo fv:Fn AV):FnS:=fun σ=>bnd (fo σ.ρ σ.H) fun o H=>bnd (getA G x o H) fun old H=>bnd (fv σ.ρ H) fun v H=>match old,v with
 |.int a,.int b=>match setA SG x o (.int (a+b)) H with
  |some H'=>some (.next,⟨σ.ρ,H'⟩)
  |none=>none
 |_,_=>none
set_option tactic.hygienic true in
theorem SimS1.aug {G SG:Addr->Str->Bool} (hG:GetOk D.K G) (hSG:SetOk D.K SG) {o v:PySem.Expr} {fo fv:Fn AV} (ho:SimE D nms lv o fo) (hv:SimE D nms lv v fv):SimS1 D nms lv (.AugAssign (.Attribute o x tp) .Add v pos) (sAug G SG x fo fv):=by
 intro env A g L S rest sh σ s fl σ' R e Q E kk
 refine bnd_elim e fun oa H₁ e1 e=>?_
 refine bnd_elim e fun old H₂ e2 e=>?_
 refine bnd_elim e fun va H₃ e3 e=>?_
 split at e
 ·rename_i a b _
  split at e
  ·rename_i H4 e4
   obtain ⟨rfl,rfl⟩:=sp e
   refine wpAny_AugAssign_AttributeAny (ho env A g L S rest sh σ.ρ σ.H s oa H₁ R e1 _ _ fun sh1 h1 tk1 v1 R1 G1 r1=>?_)
   obtain ⟨rfl,hng,i,C,es,rfl,hi,hx,hg⟩:=getA_shape e2
   refine Rel.elim R1 fun m hl cl F N nd HH lr cr=>?_
   obtain ⟨hlt,rfl⟩:=r1
   obtain ⟨m1,ds,kd,m2,ar⟩:=inst_at HH hi
   refine ex1_2 (ar.get hx) fun u hu zz2=>?_; obtain ⟨t,rfl⟩:=zz2
   obtain ⟨g1,g2,at_,g3,g4⟩:=hG C x hg
   refine get_own F S.X (InstAt.of_news N (List.mem_append_left _ m1) (List.mem_append_left _ m2)) g1 g2 g3 g4 hu rfl ?_
   refine hv env A g L S rest sh1 σ.ρ H₂ _ (.int b) H₃ R1 e3 _ _ fun sh2 h2 tk2 v2 R2 G2 r2=>?_
   obtain ⟨t2,rfl⟩:=r2
   refine iadd_int ?_
   refine set_attr (a:=.loc i) (b:=.int (a+b)) (s:={ s with heap:=h2,toks:=tk2+1 }) hSG S R2 (VRel.grow G2 (a:=.loc i) ⟨hlt,rfl⟩) ⟨_,rfl⟩ e4 fun h3 tk3 R3 l3=>kk sh2 h3 tk3 _ R3 ⟨?_,fun i hi=>(G1.trans G2).2 i hi⟩ rfl
   rw [l3]; exact (G1.trans G2).1
  ·exact ns e
 ·exact ns e
theorem SimE.stop {e:PySem.Expr}:SimE D nms lv e (fun ZZ ZZ=>Option.none):=fun env A g L S rest sh ρ H s b H' R q=>by exact ns q
end
noncomputable def relN (nms:Names) (names:Names):Names:=names.map fun x=>match x with
 |(n,k)=>if (k == NameKind.free&&nms.lookup n == some NameKind.cell)=true then (n,NameKind.cell) else (n,k)
noncomputable def resK (xs:List Str) (ρ:List (Str×AV)):List (Str×AV):=ρ.filter fun p=>xs.contains p.1
theorem resK_get {xs:List Str} {y:Str} {a:AV} {ρ:List (Str×AV)} (h:(resK xs ρ).lookup y=some a):y∈xs/\ρ.lookup y=some a:=by
 induction ρ with
 |nil=>exact ns h
 |cons p r ih=>
  obtain ⟨z,b⟩:=p
  unfold resK at h
  rw [List.filter_cons] at h
  split at h
  ·rename_i hz
   rw [List.lookup_cons] at h ⊢
   split at h
   ·rename_i e
    have:y=z:=by simpa using e
    subst this
    exact ⟨by simpa using hz,h⟩
   ·exact ih h
  ·rename_i hz
   refine ex0_2 (ih h) fun h1 h2=>?_
   refine ⟨h1,?_⟩
   have:(y == z)=false:=by
    cases e:y == z with
    |false=>rfl
    |true=>
     have:y=z:=by simpa using e
     subst this
     exact absurd (by simpa using h1) hz
   rw [List.lookup_cons,this]; exact h2
noncomputable def compA (nx:Nx) (fa:AV->St->Option St) (fc:Fn Bool) (fe:Fn AV) (ρ:List (Str×AV)) (d:Nat):Nat->Nat->List AO->Option (List AO)
 |0,_,_=>none
 |k+1,i,H=>match nx i H with
  |some none=>some H
  |some (some (a,H1))=>match fa a ⟨ρ,H1⟩ with
   |some σ1=>match fc σ1.ρ σ1.H with
    |some (true,H2)=>match fe σ1.ρ H2 with
     |some (v,H3)=>match H3[d]? with
      |some (.list ys)=>if ys.length<=1000000 then compA nx fa fc fe ρ d k (i+1) (H3.set d (.list (ys++[v]))) else none
      |_=>none
     |none=>none
    |some (false,H2)=>compA nx fa fc fe ρ d k (i+1) H2
    |none=>none
   |none=>none
  |none=>none
noncomputable def compF (N:Nat) (fi:FnI) (xs:List Str) (fa:AV->St->Option St) (fc:Fn Bool) (fe:Fn AV):Fn AV:=fun ρ H=>match fi ρ H with
 |some (nx,H1)=>match compA nx fa fc fe (resK xs ρ) H1.length N 0 (H1++[.list []]) with
  |some H2=>some (.loc H1.length,H2)
  |none=>none
 |none=>none
section
variable {D:Mdl} {nms:Names} {lv:Nat}
variable {cells:List (Str×Addr)} {sh:Shp} {n:Nat} {ρ ρ':List (Str×AV)}
theorem LR.weaken {m:Str->Option Value} {cl:Lg} (h:LR nms cells m cl sh n ρ') (hw:∀ y a,ρ.lookup y=some a->ρ'.lookup y=some a):LR nms cells m cl sh n ρ:=fun x a e=>h x a (hw x a e)
variable {g:Heap} {L:Addr} {rest:Lg} {H:List AO}
theorem Rel.weaken {h:Heap} (R:Rel D nms cells g L rest sh ρ' H h) (hw:∀ y a,ρ.lookup y=some a->ρ'.lookup y=some a):Rel D nms cells g L rest sh ρ H h:=by
 refine Rel.elim R fun m hl cl F N nd HH lr cr=>?_
 exact ⟨m,hl,cl,F,N,nd,HH,lr.weaken hw,cr⟩
noncomputable def SimF (D:Mdl) (nms:Names) (lv:Nat) (ifs:List PySem.Expr) (f:Fn Bool):Prop:=∀ env A g L,Site D nms lv env A g L->SimT D nms env A g L (forIn ifs true fun c r=>if r=true then do let ok <- isTrue c env (eval c env); pure (ForInStep.yield ok) else pure (ForInStep.yield r)) f (fun ZZ ZZ b c=>c=b)
theorem SimF.nil:SimF D nms lv [] (fun ZZ H=>some (true,H)):=by
 intro env A g L S rest sh ρ H s b H' R e Q E k
 cases e
 exact wpAny_pure (k sh s.heap s.toks _ R .refl rfl)
theorem SimF.one {c:PySem.Expr} {f:Fn Bool} (h:SimB D nms lv c f):SimF D nms lv [c] f:=by
 intro env A g L S rest sh ρ H s b H' R e Q E k
 rw [List.forIn_cons]
 refine wpAny_bind ?_
 simp only [if_true]
 refine wpAny_bind (h env A g L S rest sh ρ H s b H' R e _ _ fun sh1 h1 tk1 v R1 G1 r1=>wpAny_pure ?_)
 exact wpAny_pure (k sh1 h1 tk1 v R1 G1 r1)
variable {env:Env} {A:Around}
theorem Site.mark (S:Site D nms lv env A g L):Site D nms lv env (A.mark none) g L:=
 { S with hh:=by show (none:Option Value).or A.handled=none; simpa using S.hh }
noncomputable def TurnOk (D:Mdl) (A:Around) (env:Env) (e:PySem.Expr) (kk:Nat) (target:PySem.Expr) (ifs:List PySem.Expr) (elt:PySem.Expr):Prop:=∀ (it acc:Value) (s:Shared) (Q:PySem.Fin->Shared->Prop),
 wpAny (model D.prog D.w) A (pyNext it) (fun r s1=>match r with
  |none=>Q (.done .next) s1
  |some v=>wpAny (model D.prog D.w) A (letOwnedTupleGo target it v) (fun ZZ s2=>wpAny (model D.prog D.w) A (assign target env v) (fun ZZ s3=>
    wpAny (model D.prog D.w) A (forIn ifs true fun c r=>if r=true then do let ok <- isTrue c env (eval c env); pure (ForInStep.yield ok) else pure (ForInStep.yield r)) (fun ok s4=>
     if ok=true then wpAny (model D.prog D.w) A (eval elt env) (fun x s5=>wpAny (model D.prog D.w) A (call (.builtin "list.append") [acc,x]) (fun ZZ s6=>Q (.again (.compLoop e kk it acc env)) s6) (fun ZZ ZZ=>False) s5) (fun ZZ ZZ=>False) s4
     else Q (.again (.compLoop e kk it acc env)) s4) (fun ZZ ZZ=>False) s3) (fun ZZ ZZ=>False) s2) (fun ZZ ZZ=>False) s1) (fun ZZ ZZ=>False) s ->
 wpAny (model D.prog D.w) A (compTurn e kk it acc env) Q (fun ZZ ZZ=>False) s
variable {elt target:PySem.Expr} {ifs:List PySem.Expr} {scope:Scope} {pos:Pos}
theorem turnOk_list {iter:PySem.Expr}:TurnOk D A env (.ListComp elt [⟨target,iter,ifs,0⟩] scope pos) 0 target ifs elt:=by
 intro it acc s Q h
 rw [compTurn_list]
 refine wpAny_bind (wpAny_standAt (wpAny_bind (wpAny_mono h (fun r s₁ h₁=>?_) fun ZZ ZZ h'=>h')))
 cases r with
 |none=>exact wpAny_pure h₁
 |some v=>
  refine wpAny_bind (wpAny_mono h₁ (fun ZZ s₂ h₂=>wpAny_bind (wpAny_mono h₂ (fun ZZ s₃ h₃=>wpAny_bind (wpAny_mono h₃ (fun ok s₄ h₄=>?_) fun ZZ ZZ h'=>h')) fun ZZ ZZ h'=>h')) fun ZZ ZZ h'=>h')
  cases ok with
  |false=>exact wpAny_pure h₄
  |true=>exact wpAny_bind (wpAny_bind (wpAny_mono h₄ (fun x s₅ h₅=>wpAny_bind (wpAny_mono h₅ (fun ZZ s₆ h₆=>wpAny_pure (wpAny_pure h₆)) fun ZZ ZZ h'=>h')) fun ZZ ZZ h'=>h'))
theorem turnOk_two {t1 i1 t2 i2:PySem.Expr}:TurnOk D A env (two elt t1 i1 t2 i2 scope pos) 1 t2 [] elt:=by
 intro it acc s Q h
 rw [turn_in]
 refine wpAny_bind (wpAny_standAt (wpAny_bind (wpAny_mono h (fun r s₁ h₁=>?_) fun ZZ ZZ h'=>h')))
 cases r with
 |none=>exact wpAny_pure h₁
 |some v=>
  refine wpAny_bind (wpAny_mono h₁ (fun ZZ s₂ h₂=>wpAny_bind (wpAny_mono h₂ (fun ZZ s₃ h₃=>?_) fun ZZ ZZ h'=>h')) fun ZZ ZZ h'=>h')
  have h4:=h₃
  rw [List.forIn_nil] at h4
  have h5:wpAny (model D.prog D.w) A (pure true:Sem Bool) _ _ s₃:=h4
  refine wpAny_bind (wpAny_bind ?_)
  have h6:=fun Γ p hΓ=>h5 Γ p hΓ
  have h7:wpAny (model D.prog D.w) A (eval elt env) (fun x s5=>wpAny (model D.prog D.w) A (call (.builtin "list.append") [acc,x]) (fun ZZ s6=>Q (.again (.compLoop (two elt t1 i1 t2 i2 scope pos) 1 it acc env)) s6) (fun ZZ ZZ=>False) s5) (fun ZZ ZZ=>False) s₃:=fun Γ p hΓ=>by
   have:=h5 Γ p hΓ
   exact this Γ p hΓ
  exact wpAny_mono h7 (fun x s₅ h₅=>wpAny_bind (wpAny_mono h₅ (fun ZZ s₆ h₆=>wpAny_pure (wpAny_pure h₆)) fun ZZ ZZ h'=>h')) fun ZZ ZZ h'=>h'
variable {I:Addr} {nx:Nx} {fix:Shp->Nat->Prop} {St:Nat->Lg->Prop} {fa:AV->Mine.St->Option Mine.St} {fc:Fn Bool} {fe:Fn AV} {e:PySem.Expr} {kk i d:Nat} {H':List AO} {s:Shared} {its:Lg}
set_option tactic.hygienic true in
theorem comp_turn (S:Site D nms lv env A g L) {ad:Addr} (W:Src D target I nx fix St)
  (ha:SimA D nms lv target fa) (hc:SimF D nms lv ifs fc) (he:SimE D nms lv elt fe) (ht:TurnOk D A env e kk target ifs elt) (hw:∀ a H σ',fa a ⟨ρ,H⟩=some σ'->∀ z c,ρ.lookup z=some c->σ'.ρ.lookup z=some c)
  (R:Rel D nms env.cells g L (its++rest) sh ρ H s.heap) (hf:fix sh H.length) (hst:St i its) (hd:d<H.length) (hφ:sh.φ d=ad) (ec:compA nx fa fc fe ρ d n i H=some H') {Q:PySem.Fin->Shared->Prop}
  (kd:∀ sh' h' tk,Rel D nms env.cells g L rest sh' ρ H' h'->Grow sh H.length sh' H'.length->Q (.done .next) { s with heap:=h',toks:=tk })
  (ka:∀ m,m<n->∀ sh' H1 its' h' tk,compA nx fa fc fe ρ d m (i+1) H1=some H'->Rel D nms env.cells g L (its'++rest) sh' ρ H1 h'->fix sh' H1.length->St (i+1) its'->Grow sh H.length sh' H1.length->Q (.again (.compLoop e kk (.ref I) (.ref ad) env)) { s with heap:=h',toks:=tk }):
  wpAny (model D.prog D.w) A (compTurn e kk (.ref I) (.ref ad) env) Q (fun ZZ ZZ=>False) s:=by
 refine ht (.ref I) (.ref ad) s Q ?_
 cases n with
 |zero=>exact ns ec
 |succ n=>
  have ka:=ka n (Nat.lt_succ_self _)
  unfold compA at ec
  split at ec
  ·rename_i en
   obtain rfl:=so ec
   refine wpAny_mono (W.stop S R hf hst en) (fun r s4 hr=>?_) fun ZZ ZZ z=>z.elim
   obtain ⟨rfl,h4,tk4,rfl,R4⟩:=hr
   exact kd sh h4 tk4 R4 .refl
  ·rename_i a H2 en
   split at ec
   ·rename_i σ2 ea
    refine wpAny_mono (W.step S R hf hst en) (fun r s4 hr=>?_) fun ZZ ZZ z=>z.elim
    refine ex1_2 hr fun v er hr=>?_
    rw [er]
    refine wpAny_mono hr (fun ZZ s5 h5=>?_) fun ZZ ZZ z=>z.elim
    refine ex4_5 h5 fun its5 sh5 hp5 tk5 e5 R5 G5 hst5 rv5=>?_
    rw [e5]
    refine ha env A g L S (its5++rest) sh5 ⟨ρ,H2⟩ _ a v σ2 R5 rv5 ea _ _ fun sh6 hp6 tk6 R6 G6=>?_
    have hf6:=W.grow (W.grow hf G5) G6
    have GG:=G5.trans G6
    have ka:=fun sh' H1 h' tk e R=>ka sh' H1 its5 h' tk e (Rel.weaken R (hw _ _ _ ea))
    cases et:fc σ2.ρ σ2.H with
    |none=>rw [et] at ec; exact ns ec
    |some p=>
     obtain ⟨b,H7⟩:=p
     rw [et] at ec
     refine hc env A g L S (its5++rest) sh6 σ2.ρ σ2.H _ b H7 R6 et _ _ fun sh7 hp7 tk7 ok R7 G7 r7=>?_
     subst r7
     have hf7:=W.grow hf6 G7
     cases ok with
     |false=>
      rw [if_neg Bool.false_ne_true]
      exact ka sh7 H7 hp7 tk7 ec R7 hf7 hst5 (GG.trans G7)
     |true=>
      rw [if_pos rfl]
      dsimp only at ec
      cases ev:fe σ2.ρ H7 with
      |none=>rw [ev] at ec; exact ns ec
      |some p=>
       obtain ⟨y,H8⟩:=p
       rw [ev] at ec
       refine he env A g L S (its5++rest) sh7 σ2.ρ H7 _ y H8 R7 ev _ _ fun sh8 hp8 tk8 u R8 G8 r8=>?_
       have G9:=(GG.trans G7).trans G8
       have ed:sh8.φ d=ad:=(G9.2 d hd).1.trans hφ
       dsimp only at ec
       split at ec
       ·rename_i ys hd8
        split at ec
        ·rename_i hz
         refine Rel.elim R8 fun m hl cl F N nd HH lr cr=>?_
         refine list_elim HH hd8 fun ws c m1 r1=>?_
         rw [<- ed]
         refine append_at (N _ (List.mem_append_left _ m1)).1 (fun h9 hs9 ho9=>?_) (by rw [sizeLine_eq]; have:=r1.len; simp; exact om146 this hz)
         rw [ed]
         exact ka sh8 (H8.set d (.list (ys++[y]))) h9 tk8 ec (list_same (ws:=ws++[u]) (c:=c+1) F N nd HH lr cr hd8 m1 hs9 (by rw [ho9]; simp) (r1.snoc r8)) (by rw [List.length_set]; exact W.grow hf7 G8) hst5 (by rw [List.length_set]; exact G9)
        ·exact ns ec
       ·exact ns ec
   ·exact ns ec
  ·exact ns ec
inductive CompI (D:Mdl) (nms:Names) (cells:List (Str×Addr)) (g:Heap) (L:Addr) (rest:Lg) (ρ:List (Str×AV)) (C:Nat->Nat->List AO->Prop) (fix:Shp->Nat->Prop) (St:Nat->Lg->Prop) (sh:Shp) (k:Nat) (s:Shared) (n:Nat) (s':Shared):Prop
 |mk (i:Nat) (sh1:Shp) (H1:List AO) (its:Lg) (h:Heap) (tk:Nat) (e:s' = { s with heap:=h,toks:=tk }) (c:C n i H1) (R:Rel D nms cells g L (its++rest) sh1 ρ H1 h) (f:fix sh1 H1.length) (st:St i its) (G:Grow sh k sh1 H1.length):CompI D nms cells g L rest ρ C fix St sh k s n s'
theorem comp_loop (S:Site D nms lv env A g L) (W:Src D target I nx fix St)
  (ha:SimA D nms lv target fa) (hc:SimF D nms lv ifs fc) (he:SimE D nms lv elt fe) (ht:TurnOk D A env e kk target ifs elt)
  (hden:∀ it acc,(model D.prog D.w).den (.compLoop e kk it acc env)=(compTurn e kk it acc env).onRaise (fun x=>do noteFrame x env; theTreesLotGoes x)) (hu:∀ it acc,A.under (.compLoop e kk it acc env)=A) (hw:∀ a H σ',fa a ⟨ρ,H⟩=some σ'->∀ z c,ρ.lookup z=some c->σ'.ρ.lookup z=some c)
  {N:Nat} (R:Rel D nms env.cells g L (its++rest) sh ρ H s.heap) (hf:fix sh H.length) (hst:St i its) (hd:d<H.length) (ec:compA nx fa fc fe ρ d N i H=some H') {Q:Result->Shared->Prop}
  (k:∀ sh' h' tk,Rel D nms env.cells g L rest sh' ρ H' h'->Grow sh H.length sh' H'.length->Q (.ok .next) { s with heap:=h',toks:=tk }):
  codeAny (model D.prog D.w) A (.compLoop e kk (.ref I) (.ref (sh.φ d)) env) Q s:=by
 refine codeAny_loop rfl (CompI D nms env.cells g L rest ρ (fun n i H1=>compA nx fa fc fe ρ d n i H1=some H') fix St sh H.length s) (fun n s' hI=>?_) N
  ⟨i,sh,H,its,s.heap,s.toks,rfl,ec,R,hf,hst,.refl⟩
 obtain ⟨i,sh1,H1,its1,h1,tk1,e6,e1,R1,hf1,hst1,G1⟩:=hI
 rw [hden,hu,e6]
 refine wpAny_noted (wpAny_mono (comp_turn S W ha hc he ht hw (s:={ s with heap:=h1,toks:=tk1 }) R1 hf1 hst1 (Nat.lt_of_lt_of_le hd G1.1) (G1.2 d hd).1 e1 (fun sh' h' tk R' G'=>?_) (fun m hm sh' H1 its' h' tk e R' f' st' G'=>?_)) (fun ZZ ZZ z=>z) fun ZZ ZZ z=>z.elim)
 ·exact k sh' h' tk R' (G1.trans G')
 ·exact ⟨rfl,m,hm,⟨_,sh',H1,its',h',tk,rfl,e,R',f',st',G1.trans G'⟩⟩
end
section
variable {D:Mdl} {nms:Names} {lv:Nat}
variable {g:Heap} {L:Addr} {rest:Lg} {sh:Shp} {ρ:List (Str×AV)} {H:List AO}
theorem rel_list0 {cells:List (Str×Addr)} {h:Heap} (R:Rel D nms cells g L rest sh ρ H h):
  ∃ sh',Rel D nms cells g L rest sh' ρ (H++[.list []]) (h.push { cls:=.type "list",dict:=none,data:=.seq ([]:List Value).toArray })/\Grow sh H.length sh' (H.length+1)/\sh'.φ H.length=h.objs.size:=by
 refine Rel.elim R fun m hl cl F N nd HH lr cr=>?_
 obtain ⟨oL,es,ep,hL,r⟩:=F.ns
 have ps:∀ b o,h.get? b=some o->(h.push { cls:=.type "list",dict:=none,data:=.seq ([]:List Value).toArray }).get? b=some o:=fun b o z=>Heap.get?_push_of_some _ z
 refine rel_alloc nd HH lr cr (o:=listOf ([]:List Value).toArray 0) (Da:=h.objs.size) ⟨⟨oL,es,ep,ps _ _ hL,r⟩,fun b o e=>ps b o (F.keep b o e),F.above⟩ (fun q hq=>?_) (fun p hp=>Nat.ne_of_lt (Heap.lt_size (N p hp).1)) (ao:=.list []) (e0:=0) (fun ZZ ZZ z=>by cases z) fun sh' e ZZ G=>⟨[],0,by rw [e]; exact .head _,trivial⟩
 rcases List.mem_cons.mp hq with rfl|hq
 ·refine ⟨Heap.get?_push_size _ rfl,Nat.ne_of_gt (Heap.lt_size hL),?_⟩
  cases z:g.get? h.objs.size with
  |none=>rfl
  |some o=>exact absurd (Heap.lt_size (F.keep _ _ z)) (Nat.lt_irrefl _)
 ·exact ⟨ps _ _ (N q hq).1,(N q hq).2⟩
variable {xs:List Str} {x:Str}
theorem resK_in {a:AV} (hxx:x∈xs) {ρ:List (Str×AV)} (hx:ρ.lookup x=some a):(resK xs ρ).lookup x=some a:=by
 induction ρ with
 |nil=>exact ns hx
 |cons p r ih=>
  obtain ⟨z,b'⟩:=p
  unfold resK
  rw [List.filter_cons]
  rw [List.lookup_cons] at hx
  split at hx
  ·rename_i e
   have:x=z:=by simpa using e
   subst this
   rw [if_pos (by simpa using hxx),List.lookup_cons,beq_self_eq_true]
   exact hx
  ·rename_i e
   split
   ·rw [List.lookup_cons,e]; exact ih hx
   ·exact ih hx
variable {scope:Scope} {env:Env} {A:Around} {s:Shared}
theorem rel_block (S:Site D nms lv env A g L) {its:Lg} (R:Rel D nms env.cells g L (its++rest) sh ρ H s.heap)
  {h₁:Heap} (hns:h₁.Ns s.heap.objs.size (fun ZZ=>none)) (hsb:Heap.SameBut s.heap.objs.size (s.heap.push { cls:=.type "dict",data:=.dict #[] }) h₁) {cc:List (Str×Addr)} (hkind:scope.kind = .function)
  (hX:∀ x∈xs,nms.lookup x=some .cell/\((relN nms scope.names).lookup x=some .cell\/(relN nms scope.names).lookup x=some .free)) (hX':∀ x,(relN nms scope.names).lookup x=some .cell->x∈xs)
  (hcc:∀ x c,cc.lookup x=some c↔x∈xs/\env.cells.lookup x=some c):
  ∃ b rest',Site D (relN nms scope.names) lv (compEnvC scope cc s.heap.objs.size env) A b s.heap.objs.size/\Rel D (relN nms scope.names) cc b s.heap.objs.size (its++rest') sh (resK xs ρ) H h₁ /\
   ∀ sh' H' h3,Rel D (relN nms scope.names) cc b s.heap.objs.size rest' sh' (resK xs ρ) H' h3->Grow sh H.length sh' H'.length->∃ oC m,h3.Ns s.heap.objs.size m/\h3.get? s.heap.objs.size=some oC/\Rel D nms env.cells g L ([(s.heap.objs.size,oC)]++rest) sh' ρ H' h3:=by
 refine Rel.elim R fun m hl cl F N nd HH lr cr=>?_
 refine ex2_2 (S.call s m _ F N) fun base fs hfs BG=>?_
 generalize hb:hideAll s.heap ((hl++(cl++(its++rest))).map (·.1))=b at BG
 have bh:∀ c o,b.get? c=some o->s.heap.get? c=some o:=fun c o e=>by rw [<- hb] at e; exact of_hideAll _ e
 have bn:∀ q∈hl++(cl++(its++rest)),b.get? q.1=none:=fun q hq=>by rw [<- hb]; exact hideAll_none _ (List.mem_map_of_mem hq)
 have bl:∀ c o,s.heap.get? c=some o->c∉(hl++(cl++(its++rest))).map (·.1)->b.get? c=some o:=fun c o e n=>by rw [<- hb]; exact hideAll_get _ e n
 have bsz:b.objs.size=s.heap.objs.size:=by rw [<- hb]; exact hideAll_size _ _
 have gn:∀ c o,g.get? c=some o->c∉(hl++(cl++(its++rest))).map (·.1):=fun c o e q=>by
  refine ex1_2 (List.mem_map.mp q) fun y hy zz2=>?_; subst zz2
  rw [(N y hy).2.2] at e; exact ns e
 have gb:∀ c o,g.get? c=some o->b.get? c=some o:=fun c o e=>bl c o (F.keep c o e) (gn c o e)
 generalize hC:s.heap.objs.size=C at hns hsb
 have lo:∀ c o,s.heap.get? c=some o->c≠C:=fun c o e=>by have:=Heap.lt_size e; rw [hC] at this; exact Nat.ne_of_lt this
 have old:∀ c o,s.heap.get? c=some o->h₁.get? c=some o:=fun c o e=>hsb.extBut c o (lo c o e) (Heap.get?_push_of_some _ e)
 have bC:b.get? C=none:=by
  cases q:b.get? C with
  |none=>rfl
  |some o=>exact absurd rfl (lo _ _ (bh _ _ q))
 obtain ⟨oL,esL,epL,hLg,hLr⟩:=F.ns
 have bL:b.get? L=some oL:=bl _ _ hLg fun q=>by
  refine ex1_2 (List.mem_map.mp q) fun p hp e=>?_
  exact (N p hp).2.1 e
 let P:Addr×Obj->Bool:=fun q=>xs.any fun y=>cc.lookup y == some q.1
 have pc:(hl++(cl.filter P++(its++(cl.filter (fun q=>!P q)++rest)))).Perm (hl++(cl++(its++rest))):=by
  refine List.Perm.append_left _ ?_
  have e1:(cl.filter P++(its++(cl.filter (fun q=>!P q)++rest))).Perm (cl.filter P++(cl.filter (fun q=>!P q)++(its++rest))):=List.Perm.append_left _ (List.perm_append_comm_assoc _ _ _)
  refine e1.trans ?_
  rw [<- List.append_assoc]
  exact List.Perm.append_right _ (List.filter_append_perm P cl)
 have hP:∀ {x c o},cc.lookup x=some c->P (c,o)=true:=fun {x c o} e=>List.any_eq_true.mpr ⟨x,((hcc x c).mp e).1,by simpa using e⟩
 have nP:∀ {x c o},env.cells.lookup x=some c->x∉xs->(!P (c,o))=true:=fun {x c o} e n=>by
  cases hp:P (c,o) with
  |false=>rfl
  |true=>
   refine ex1_2 (List.any_eq_true.mp hp) fun y hy e'=>?_
   have e':cc.lookup y=some c:=by simpa using e'
   exact absurd (S.cinj y x c ((hcc y c).mp e').2 e▸hy) n
 refine ⟨b,cl.filter (fun q=>!P q)++rest,?_,?_,fun sh' H' h3 R3 G=>?_⟩
 ·refine { loc:=hC.symm▸rfl,kind:=by simp [compEnvC,relabel,hkind],glob:=S.glob,names:=?_,hh:=S.hh,dep:=S.dep,uni:=S.uni,lvl:=S.lvl,X:=S.X.keeps gb,T:=S.T.keeps gb,ccell:=fun x hx=>?_,cinj:=fun x y c hx hy=>?_,blt:=S.blt,call:=fun s' m' news' F' N'=>?_ }
  ·show scope.names.map _=_
   unfold relN
   refine List.map_congr_left fun p ZZ=>?_
   obtain ⟨n,k⟩:=p
   have:(env.scope.kind == ScopeKind.function)=true:=by rw [S.kind]; rfl
   simp only [this,Bool.and_true,S.kindOf]
  ·refine ex1_1 (S.ccell x (hX x (hX' x hx)).1) fun c hc=>?_
   exact ⟨c,(hcc x c).mpr ⟨hX' x hx,hc⟩⟩
  ·exact S.cinj x y c ((hcc x c).mp hx).2 ((hcc y c).mp hy).2
  ·have st:∀ c o,b.get? c=some o->(hideAll s'.heap (news'.map (·.1))).get? c=some o:=fun c o e=>hideAll_get _ (F'.keep c o e) fun q=>by
    refine ex1_2 (List.mem_map.mp q) fun y hy zz2=>?_; subst zz2
    rw [(N' y hy).2.2] at e; exact ns e
   exact ⟨base,fs,hfs,BG.stack,fun c o e=>st c o (BG.stays c o e),BG.frames.of_keeps fun c o e ZZ=>⟨o,st c o e,rfl⟩⟩
 ·refine ⟨fun ZZ=>none,hl,cl.filter P,⟨hns,fun c o e=>old c o (bh c o e),by rw [bsz,hC]; exact Nat.le_refl _⟩,fun q hq=>?_,(pc.map _).nodup_iff.mpr nd,HH,fun x a hx=>?_,fun x c hc=>?_⟩
  ·have hq:=pc.mem_iff.mp hq
   exact ⟨old _ _ (N q hq).1,lo _ _ (N q hq).1,bn q hq⟩
  ·refine ex0_2 (resK_get hx) fun hx1 hx2=>?_
   refine ex1_2 (lr x a hx2) fun v rv hv=>?_
   refine ⟨v,rv,.inr ⟨(hX x hx1).2,?_⟩⟩
   rcases hv with ⟨h1,_⟩|⟨_,c,o,h2,h3,h4⟩
   ·rw [(hX x hx1).1] at h1; cases h1
   ·have:=(hcc x c).mpr ⟨hx1,h2⟩
    exact ⟨c,o,this,List.mem_filter.mpr ⟨h3,hP this⟩,h4⟩
  ·refine ex2_2 (cr x c ((hcc x c).mp hc).2) fun o v0 h1 h2=>?_
   exact ⟨o,v0,List.mem_filter.mpr ⟨h1,hP hc⟩,h2⟩
 ·refine Rel.elim R3 fun m3 hl3 cl3 F3 N3 nd3 HH3 lr3 cr3=>?_
  obtain ⟨oC,esC,epC,hCg,hCr⟩:=id F3.ns
  refine ⟨oC,m3,F3.ns,hCg,?_⟩
  have keep:∀ c o,b.get? c=some o->h3.get? c=some o:=F3.keep
  have off:∀ q∈hl3++(cl3++(cl.filter (fun q=>!P q)++rest)),q.1≠C:=fun q hq=>(N3 q hq).2.1
  have p3:((C,oC)::(hl3++(cl3++(cl.filter (fun q=>!P q)++rest)))).Perm (hl3++((cl3++cl.filter (fun q=>!P q))++([(C,oC)]++rest))):=by
   rw [List.append_assoc]
   refine (List.perm_middle (l₁:=hl3) (a:=(C,oC)) (l₂:=cl3++(cl.filter (fun q=>!P q)++rest))).symm.trans (List.Perm.append_left _ ?_)
   refine (List.perm_middle (l₁:=cl3) (a:=(C,oC)) (l₂:=cl.filter (fun q=>!P q)++rest)).symm.trans (List.Perm.append_left _ ?_)
   exact (List.perm_middle (l₁:=cl.filter (fun q=>!P q)) (a:=(C,oC)) (l₂:=rest)).symm
  refine ⟨m,hl3,cl3++cl.filter (fun q=>!P q),⟨⟨oL,esL,epL,keep _ _ bL,hLr⟩,fun c o e=>keep c o (gb c o e),F.above⟩,fun q hq=>?_,(p3.map _).nodup_iff.mp ?_,HH3,fun x a hx=>?_,fun x c hc=>?_⟩
  ·rcases List.mem_cons.mp (p3.mem_iff.mpr hq) with rfl|hq
   ·refine ⟨hCg,fun e=>absurd e.symm (lo _ _ hLg),?_⟩
    cases z:g.get? C with
    |none=>rfl
    |some o=>exact absurd rfl (lo _ _ (bh _ _ (gb _ _ z)))
   ·have hq':=N3 q hq
    refine ⟨hq'.1,fun e=>?_,?_⟩
    ·have:=hq'.2.2; rw [e,bL] at this; exact sn this
    ·cases z:g.get? q.1 with
     |none=>rfl
     |some o=>have:=hq'.2.2; rw [gb _ _ z] at this; exact sn this
  ·rw [List.map_cons,List.nodup_cons]
   refine ⟨fun z=>?_,nd3⟩
   refine ex1_2 (List.mem_map.mp z) fun q hq e=>?_
   exact off q hq e
  ·refine ex1_2 (lr x a hx) fun v rv hv=>?_
   by_cases hxx:x∈xs
   ·have hx':=resK_in hxx hx
    refine ex1_2 (lr3 x a hx') fun v' rv' hv'=>?_
    refine ⟨v',rv',.inr ⟨.inl (hX x hxx).1,?_⟩⟩
    rcases hv' with ⟨h1,_⟩|⟨_,c,o,h2,h3,h4⟩
    ·rcases (hX x hxx).2 with z|z <;> (rw [z] at h1; cases h1)
    ·exact ⟨c,o,((hcc x c).mp h2).2,List.mem_append_left _ h3,h4⟩
   ·refine ⟨v,rv.grow G,?_⟩
    rcases hv with h1|⟨h1,c,o,h2,h3,h4⟩
    ·exact .inl h1
    ·refine .inr ⟨h1,c,o,h2,List.mem_append_right _ (List.mem_filter.mpr ⟨h3,?_⟩),h4⟩
     exact nP h2 hxx
  ·by_cases hxx:x∈xs
   ·refine ex2_2 (cr3 x c ((hcc x c).mpr ⟨hxx,hc⟩)) fun o v0 h1 h2=>?_
    exact ⟨o,v0,List.mem_append_left _ h1,h2⟩
   ·refine ex2_2 (cr x c hc) fun o v0 h1 h2=>?_
    refine ⟨o,v0,List.mem_append_right _ (List.mem_filter.mpr ⟨h1,?_⟩),h2⟩
    exact nP hc hxx
noncomputable def ClosOk (D:Mdl) (nms:Names) (scope:Scope) (xs:List Str):Prop:=∀ {lv env A g L},Site D nms lv env A g L->∃ cc,closureFor scope env=pure cc/\∀ x c,cc.lookup x=some c↔x∈xs/\env.cells.lookup x=some c
theorem clos_nil:∀ (l:Names) (cs:List (Str×Addr)),(l.all fun p=>p.2 != .free)=true->(forIn l cs fun x r=>match x with|(name,kind)=>if (kind == NameKind.free)=true then do let a <- cellOf env name; pure (ForInStep.yield ((name,a)::r)) else pure (ForInStep.yield r):Sem (List (Str×Addr)))=pure cs:=by
 intro l
 induction l with
 |nil=>intro cs _; rfl
 |cons p r ih=>
  intro cs h
  rw [List.all_cons,Bool.and_eq_true] at h
  rw [List.forIn_cons]
  obtain ⟨n,k⟩:=p
  have:(k == NameKind.free)=false:=by simpa using h.1
  simp only [this,Bool.false_eq_true,if_false,pure_bind]
  exact ih cs h.2
theorem clos_one {c:Addr} (hc:env.cells.lookup x=some c):∀ (l:Names) (cs:List (Str×Addr)),l.filter (fun p=>p.2 == .free) = [(x,.free)]->(forIn l cs fun x r=>match x with|(name,kind)=>if (kind == NameKind.free)=true then do let a <- cellOf env name; pure (ForInStep.yield ((name,a)::r)) else pure (ForInStep.yield r):Sem (List (Str×Addr)))=pure ((x,c)::cs):=by
 intro l
 induction l with
 |nil=>intro cs h; cases h
 |cons p r ih=>
  intro cs h
  rw [List.filter_cons] at h
  rw [List.forIn_cons]
  obtain ⟨n,k⟩:=p
  by_cases hk:(k == NameKind.free)=true
  ·rw [if_pos hk] at h
   injection h with h1 h2
   cases h1
   have:cellOf env x=pure c:=by unfold cellOf; rw [hc]
   simp only [this,hk,if_true,pure_bind]
   refine clos_nil r _ (List.all_eq_true.mpr fun q hq=>?_)
   have:=List.filter_eq_nil_iff.mp h2 q hq
   simpa using this
  ·rw [if_neg hk] at h
   simp only [hk,if_false,pure_bind]
   exact ih cs h
theorem ClosOk.nil (h:(scope.names.all fun p=>p.2 != .free)=true):ClosOk D nms scope []:=by
 intro lv env A g L S
 refine ⟨[],?_,fun x c=>Iff.intro (fun z=>nomatch z) (fun z=>absurd z.1 List.not_mem_nil)⟩
 unfold closureFor
 have:=clos_nil (env:=env) _ [] h
 simp only [this,pure_bind]
theorem ClosOk.one (h:scope.names.filter (fun p=>p.2 == .free) = [(x,.free)]) (hx:nms.lookup x=some .cell):ClosOk D nms scope [x]:=by
 intro lv env A g L S
 refine ex1_1 (S.ccell x hx) fun c hc=>?_
 refine ⟨[(x,c)],?_,fun y d=>?_⟩
 ·unfold closureFor
  have:=clos_one hc _ [] h
  simp only [this,pure_bind]
 ·rw [List.lookup_cons,List.mem_singleton]
  split
  ·rename_i e
   have:y=x:=by simpa using e
   subst this
   rw [hc]; simp
  ·rename_i e
   constructor
   ·intro z; exact ns z
   ·intro z; refine ex0_2 z fun zz0 ZZ=>?_; try clear z; subst zz0; simp at e
noncomputable def SimL (D:Mdl) (nms:Names) (lv:Nat) (elt:PySem.Expr) (gens:List Comprehension) (scope:Scope) (pos:Pos) (f:Fn AV):Prop:=∀ env A g L,Site D nms lv env A g L->∀ rest sh ρ H s b H' (use:Option (Value->Sem Unit)),Rel D nms env.cells g L rest sh ρ H s.heap->f ρ H=some (b,H')->∀ (Q:Value->Shared->Prop) (E:Value->Shared->Prop),
 (∀ sh' h' tk a C oC m,Rel D nms env.cells g L ([(C,oC)]++rest) sh' ρ H' h'->h'.Ns C m->h'.get? C=some oC->Grow sh H.length sh' H'.length->VRel sh' H'.length b a->compPost (model D.prog D.w) A E use Q a C (.ok .next) { s with heap:=h',toks:=tk }) ->
 wpAny (model D.prog D.w) A (comprehension (.ListComp elt gens scope pos) scope env (firstIterPos gens pos) (newList []) (firstAsync gens) (firstIter gens env) use) Q E s
variable {elt:PySem.Expr} {gens:List Comprehension} {pos:Pos} {f:Fn AV}
theorem SimE.ofL (h:SimL D nms lv elt gens scope pos f):SimE D nms lv (.ListComp elt gens scope pos) f:=by
 intro env A g L S rest sh ρ H s b H' R e Q E k
 rw [eval_ListComp]
 exact h env A g L S rest sh ρ H s b H' Option.none R e Q E fun sh' h' tk a C oC m R' hn ZZ G r=>⟨m,hn,fun h4 hs4=>k sh' h4 tk a (rel_gone R' fun b o hb z=>(hs4.2 b (by simpa using hb)).trans z) G r⟩
theorem SimS1.asgL {p' pos':Pos} (h:SimL D nms lv elt gens scope pos f) (hx:nms.lookup x=some .local)
  (h2:∀ env:Env,env.scope.names=nms->env.scope.kind = .function->swapsWith (.ListComp elt gens scope pos) (some (.Name x p')) pos'.line env=pure true):SimS1 D nms lv (.Assign [.Name x p'] (.ListComp elt gens scope pos) pos') (sAsg x f):=by
 intro env A g L S rest sh σ s b σ' R e Q E k
 refine bnd_elim e fun a H₁ e1 e2=>?_
 obtain ⟨rfl,rfl⟩:=sp e2
 rw [exec_Assign_Name_used _ _ _ _ (h2 env S.names S.kind)]
 refine wpAny_bind (wpAny_standAt (wpAny_bind ?_))
 show wpAny _ _ (comprehension (.ListComp elt gens scope pos) scope env (firstIterPos gens pos) (newList []) (firstAsync gens) (firstIter gens env) (some (assign (.Name x p') env)) >>= fun ZZ=>pure ()) _ _ _
 refine wpAny_bind (h env A g L S rest sh σ.ρ σ.H s a H₁ (some (assign (.Name x p') env)) R e1 _ _ fun sh' h' tk v C oC m R' hn hC G r=>?_)
 show wpAny _ _ (assign (.Name x p') env v) _ _ _
 refine wpAny_assign_Name (store_name (s:={ s with heap:=h',toks:=tk }) S R' (.inl hx) r fun h2 tk2 R2=>?_)
 obtain ⟨o,es,ep,ho,hr⟩:=hn
 obtain ⟨m2,hl2,cl2,F2,N2,_⟩:=id R2
 have hC2:h2.get? C=some oC:=(N2 (C,oC) (List.mem_append_right _ (List.mem_append_right _ (.head _)))).1
 rw [hC] at ho; obtain rfl:=so ho
 exact ⟨m,⟨oC,es,ep,hC2,hr⟩,fun h4 hs4=>wpAny_pure (wpAny_pure (k sh' h4 tk2 _ (rel_gone R2 fun b o hb z=>(hs4.2 b (by simpa using hb)).trans z) G rfl))⟩
variable {target iter:PySem.Expr} {ifs:List PySem.Expr} {fi:FnI}
theorem comp_in {gs:List Comprehension} (hi:SimI D nms lv iter target fi)
  (hcl:ClosOk D nms scope xs) (hkind:scope.kind = .function) (hcell:∀ y∈scope.names,y.2≠.cell) (hnames:∀ y∈scope.names,y.2 = .local->scope.names.lookup y.1=some .local)
  (hX:∀ x∈xs,nms.lookup x=some .cell/\((relN nms scope.names).lookup x=some .cell\/(relN nms scope.names).lookup x=some .free)) (hX':∀ x,(relN nms scope.names).lookup x=some .cell->x∈xs)
  (S:Site D nms lv env A g L) {H1 H':List AO} {nx:Nx} (R:Rel D nms env.cells g L rest sh ρ H s.heap) (e:fi ρ H=some (nx,H1)) {Q:Value->Shared->Prop} {E:Value->Shared->Prop}
  (loop:∀ env' b C sh1 h1 tk1 I fix St its rest' R',Site D (relN nms scope.names) lv env' A b C->Src D target I nx fix St->fix sh1 (H1++[AO.list []]).length->St 0 its->Rel D (relN nms scope.names) env'.cells b C (its++rest') sh1 (resK xs ρ) (H1++[AO.list []]) h1 ->
   (∀ sh2 h2 tk2,Rel D (relN nms scope.names) env'.cells b C rest' sh2 (resK xs ρ) H' h2->Grow sh1 (H1++[AO.list []]).length sh2 H'.length->R' (.ok .next) { s with heap:=h2,toks:=tk2 }) ->
   codeAny (model D.prog D.w) A (.compLoop (.ListComp elt (⟨target,iter,ifs,0⟩::gs) scope pos) 0 (.ref I) (.ref (sh1.φ H1.length)) env') R' { s with heap:=h1,toks:=tk1 })
  (hs:∀ x,foldedSetIterable iter env x=pure x)
  {use:Option (Value->Sem Unit)} (k:∀ sh' h' tk a C oC m,Rel D nms env.cells g L ([(C,oC)]++rest) sh' ρ H' h'->h'.Ns C m->h'.get? C=some oC->Grow sh H.length sh' H'.length->VRel sh' H'.length (.loc H1.length) a->compPost (model D.prog D.w) A E use Q a C (.ok .next) { s with heap:=h',toks:=tk }):
  wpAny (model D.prog D.w) A (comprehension (.ListComp elt (⟨target,iter,ifs,0⟩::gs) scope pos) scope env (firstIterPos (⟨target,iter,ifs,0⟩::gs) pos) (newList []) (firstAsync (⟨target,iter,ifs,0⟩::gs)) (firstIter (⟨target,iter,ifs,0⟩::gs) env) use) Q E s:=by
 refine ex1_2 (hcl S) fun cc hclos hcc=>?_
 refine wpAny_comprehension_free (use:=use) rfl hs hclos hkind hnames ?_
 refine hi env A g L S rest sh ρ H s nx H1 R e _ _ fun sh1 h1 tk1 I fix St its W hf hst R1 G1=>?_
 refine wpAny_newObj_type (wpAny_newFunctionEnv hcell (by intro y hy; simp at hy) (fun h₁ hns₁ hsb₁=>?_) hkind)
 dsimp only at hns₁ hsb₁ ⊢
 refine ex1_3 (rel_list0 R1) fun sh2 R2 G2 e2=>?_
 refine ex2_3 (rel_block (s:={ s with heap:=h1.push { cls:=.type "list",dict:=none,data:=.seq ([]:List Value).toArray },toks:=tk1 }) S R2 hns₁ hsb₁ hkind hX hX' hcc) fun b rest' S' R3 back=>?_
 dsimp only at S' R3 back
 rw [show (h1.objs.size:Addr)=sh2.φ H1.length from e2.symm]
 have hlen:(H1++[AO.list []]).length=H1.length+1:=by simp
 have go:∀ tk,codeAny (model D.prog D.w) A (.compLoop (.ListComp elt (⟨target,iter,ifs,0⟩::gs) scope pos) 0 (.ref I) (.ref (sh2.φ H1.length)) (compEnvC scope cc (h1.push { cls:=.type "list",dict:=none,data:=.seq ([]:List Value).toArray }).objs.size env))
   (compPost (model D.prog D.w) A E use Q (.ref (sh2.φ H1.length)) (h1.push { cls:=.type "list",dict:=none,data:=.seq ([]:List Value).toArray }).objs.size) { s with heap:=h₁,toks:=tk }:=fun tk=>by
  refine loop _ b _ sh2 h₁ tk I fix St its rest' _ S' W (by rw [hlen]; exact W.grow hf G2) hst R3 fun sh3 h3 tk3 R4 G4=>?_
  refine ex2_3 (back _ _ _ R4 G4) fun oC m hn hC R5=>?_
  refine k sh3 h3 tk3 _ _ oC m R5 hn hC ((G1.trans G2).trans (by rw [<- hlen]; exact G4)) ⟨?_,?_⟩
  ·have:=G4.1; rw [hlen] at this; exact this
  ·rw [(G4.2 H1.length (by rw [hlen]; exact Nat.lt_succ_self _)).1]
 refine codeAny_compStart_list (go _) (W.again (fun q hq=>?_) hst (go _))
 obtain ⟨m,hl,cl,F,N,_⟩:=id R3
 exact (N q (List.mem_append_right _ (List.mem_append_right _ (List.mem_append_left _ hq)))).1
set_option tactic.hygienic true in
theorem SimL.comp (xs:List Str) (N:Nat) {fa:AV->Mine.St->Option Mine.St} {fc:Fn Bool} {fe:Fn AV} (hi:SimI D nms lv iter target fi)
  (ha:SimA D (relN nms scope.names) lv target fa) (hc:SimF D (relN nms scope.names) lv ifs fc) (he:SimE D (relN nms scope.names) lv elt fe)
  (hw:∀ ρ a H σ',fa a ⟨resK xs ρ,H⟩=some σ'->∀ z c,(resK xs ρ).lookup z=some c->σ'.ρ.lookup z=some c)
  (hcl:ClosOk D nms scope xs) (hkind:scope.kind = .function) (hcell:∀ y∈scope.names,y.2≠.cell) (hnames:∀ y∈scope.names,y.2 = .local->scope.names.lookup y.1=some .local)
  (hX:∀ x∈xs,nms.lookup x=some .cell/\((relN nms scope.names).lookup x=some .cell\/(relN nms scope.names).lookup x=some .free)) (hX':∀ x,(relN nms scope.names).lookup x=some .cell->x∈xs)
  (hs:∀ env x,foldedSetIterable iter env x=pure x):
  SimL D nms lv elt [⟨target,iter,ifs,0⟩] scope pos (compF N fi xs fa fc fe):=by
 intro env A g L S rest sh ρ H s b H' use R e Q E k
 unfold compF at e
 split at e
 ·rename_i nx H1 e1
  split at e
  ·rename_i H2 e2
   cases e
   refine comp_in hi hcl hkind hcell hnames hX hX' S R e1 (H':=H') (fun env' b C sh1 h1 tk1 I fix St its rest' R' S' W hf hst R1 fin=>?_) (hs env) k
   exact comp_loop S' W ha hc he turnOk_list (fun ZZ ZZ=>rfl) (fun ZZ ZZ=>rfl) (hw ρ) R1 hf hst (by simp) e2 fin
  ·exact ns e
 ·exact ns e
end
section
variable {D:Mdl} {nms:Names} {lv:Nat}
noncomputable def compA2 (nx:Nx) (fa:AV->St->Option St) (fi:FnI) (fa':AV->St->Option St) (fe:Fn AV) (N:Nat) (ρ:List (Str×AV)) (d:Nat):Nat->Nat->List AO->Option (List AO)
 |0,_,_=>none
 |k+1,i,H=>match nx i H with
  |some none=>some H
  |some (some (a,H1))=>match fa a ⟨ρ,H1⟩ with
   |some σ1=>match fi σ1.ρ σ1.H with
    |some (nx',H2)=>match compA nx' fa' (fun ZZ H=>some (true,H)) fe σ1.ρ d N 0 H2 with
     |some H3=>compA2 nx fa fi fa' fe N ρ d k (i+1) H3
     |none=>none
    |none=>none
   |none=>none
  |none=>none
noncomputable def compF2 (N:Nat) (fi:FnI) (fa:AV->St->Option St) (fi':FnI) (fa':AV->St->Option St) (fe:Fn AV):Fn AV:=fun ρ H=>match fi ρ H with
 |some (nx,H1)=>match compA2 nx fa fi' fa' fe N (resK [] ρ) H1.length N 0 (H1++[.list []]) with
  |some H2=>some (.loc H1.length,H2)
  |none=>none
 |none=>none
variable {elt t1 i1 t2 i2:PySem.Expr} {scope:Scope} {pos:Pos} {fa fa':AV->Mine.St->Option Mine.St} {fi:FnI} {fe:Fn AV}
set_option tactic.hygienic true in
theorem comp_loop2 {env:Env} {A:Around} {g:Heap} {L:Addr} (S:Site D nms lv env A g L) {I:Addr} {nx:Nx} {fix:Shp->Nat->Prop} {St:Nat->Lg->Prop} (W:Src D t1 I nx fix St)
  (ha:SimA D nms lv t1 fa) (hi:SimI D nms lv i2 t2 fi) (ha':SimA D nms lv t2 fa') (he:SimE D nms lv elt fe) {ρ:List (Str×AV)} (hw:∀ a H σ',fa a ⟨ρ,H⟩=some σ'->∀ z c,ρ.lookup z=some c->σ'.ρ.lookup z=some c)
  (hw':∀ a H σ',fa a ⟨ρ,H⟩=some σ'->∀ a' H' σ'',fa' a' ⟨σ'.ρ,H'⟩=some σ''->∀ z c,σ'.ρ.lookup z=some c->σ''.ρ.lookup z=some c) (hs:∀ env x,foldedSetIterable i2 env x=pure x)
  {rest:Lg} {sh:Shp} {H H':List AO} {s:Shared} {i d N M:Nat} {its:Lg} (R:Rel D nms env.cells g L (its++rest) sh ρ H s.heap) (hf:fix sh H.length) (hst:St i its) (hd:d<H.length) (ec:compA2 nx fa fi fa' fe M ρ d N i H=some H') {Q:Result->Shared->Prop}
  (k:∀ sh' h' tk,Rel D nms env.cells g L rest sh' ρ H' h'->Grow sh H.length sh' H'.length->Q (.ok .next) { s with heap:=h',toks:=tk }):
  codeAny (model D.prog D.w) A (.compLoop (two elt t1 i1 t2 i2 scope pos) 0 (.ref I) (.ref (sh.φ d)) env) Q s:=by
 refine codeAny_loop rfl (CompI D nms env.cells g L rest ρ (fun n i H1=>compA2 nx fa fi fa' fe M ρ d n i H1=some H') fix St sh H.length s) (fun n s' hI=>?_) N
  ⟨i,sh,H,its,s.heap,s.toks,rfl,ec,R,hf,hst,.refl⟩
 obtain ⟨i,sh1,H1,its1,h1,tk1,es,e1,R1,hf1,hst1,G1⟩:=hI
 rw [es]
 show wpAny _ A ((compTurn (two elt t1 i1 t2 i2 scope pos) 0 (.ref I) (.ref (sh.φ d)) env).onRaise (fun x=>do noteFrame x env; theTreesLotGoes x)) _ _ _
 refine wpAny_noted ?_
 rw [turn_out]
 refine wpAny_bind (wpAny_standAt (wpAny_bind ?_))
 cases n with
 |zero=>exact ns e1
 |succ n=>
  unfold compA2 at e1
  split at e1
  ·rename_i en
   obtain rfl:=so e1
   refine wpAny_mono (W.stop (s:={ s with heap:=h1,toks:=tk1 }) S R1 hf1 hst1 en) (fun r s4 hr=>?_) fun ZZ ZZ z=>z.elim
   obtain ⟨rfl,h4,tk4,rfl,R4⟩:=hr
   exact wpAny_pure (k sh1 h4 tk4 R4 G1)
  ·rename_i a H2 en
   split at e1
   ·rename_i σ2 ea
    split at e1
    ·rename_i nx' H3 e3
     split at e1
     ·rename_i H4 e4
      refine wpAny_mono (W.step (s:={ s with heap:=h1,toks:=tk1 }) S R1 hf1 hst1 en) (fun r s4 hr=>?_) fun ZZ ZZ z=>z.elim
      obtain ⟨v,rfl,hr⟩:=hr
      refine wpAny_bind (wpAny_mono hr (fun ZZ s5 h5=>?_) fun ZZ ZZ z=>z.elim)
      refine ex4_5 h5 fun its5 sh5 hp5 tk5 zz4 R5 G5 hst5 rv5=>?_; try clear h5; subst zz4
      refine wpAny_bind (ha env A g L S (its5++rest) sh5 ⟨ρ,H2⟩ _ a v σ2 R5 rv5 ea _ _ fun sh6 hp6 tk6 R6 G6=>?_)
      refine wpAny_bind (wpAny_mono (hi env A g L S (its5++rest) sh6 σ2.ρ σ2.H { s with heap:=hp6,toks:=tk6 } nx' H3 R6 e3 (fun it' s'=>wpAny (model D.prog D.w) A (runOwn (.compStart (two elt t1 i1 t2 i2 scope pos) 1 it' (.ref (sh.φ d)) env) env >>= fun ZZ=>again (.compLoop (two elt t1 i1 t2 i2 scope pos) 0 (.ref I) (.ref (sh.φ d)) env)) (fun fin s'=>match fin with
       |.done f=>Q (.ok f) s'
       |.again c'=>c' = .compLoop (two elt t1 i1 t2 i2 scope pos) 0 (.ref I) (.ref (sh.φ d)) env/\∃ m,m<n+1/\CompI D nms env.cells g L rest ρ (fun n i H1=>compA2 nx fa fi fa' fe M ρ d n i H1=some H') fix St sh H.length s m s') (fun ZZ ZZ=>False) s') (fun ZZ ZZ=>False)
       fun sh7 hp7 tk7 I7 fix7 St7 its7 W7 hf7 hst7 R7 G7=>?_)
       (fun x s6 h6=>wpAny_bind (wpAny_standAt (wpAny_bind (wpAny_of_eq (hs _ _) (wpAny_bind (wpAny_holding (wpAny_mono h6 (fun it' s7 h7=>?_) fun ZZ ZZ z=>z.elim))))))) fun ZZ ZZ z=>z.elim)
      ·have GG:=((G1.trans G5).trans G6).trans G7
       have hd7:d<H3.length:=Nat.lt_of_lt_of_le hd GG.1
       have ed:sh7.φ d=sh.φ d:=(GG.2 d hd).1
       have go:∀ tk,codeAny (model D.prog D.w) (A.mark none) (.compLoop (two elt t1 i1 t2 i2 scope pos) 1 (.ref I7) (.ref (sh.φ d)) env)
         (fun r s'=>∃ f,r = .ok f/\∃ sh8 hp8 tk8,s' = { s with heap:=hp8,toks:=tk8 }/\Rel D nms env.cells g L (its5++rest) sh8 σ2.ρ H4 hp8/\Grow sh7 H3.length sh8 H4.length) { s with heap:=hp7,toks:=tk }:=fun tk=>by
        rw [<- ed]
        exact comp_loop S.mark W7 ha' SimF.nil he turnOk_two (fun ZZ ZZ=>rfl) (fun ZZ ZZ=>rfl) (hw' _ _ _ ea) (s:={ s with heap:=hp7,toks:=tk }) R7 hf7 hst7 hd7 e4 fun sh8 hp8 tk8 R8 G8=>⟨_,rfl,sh8,hp8,tk8,rfl,R8,G8⟩
       refine wpAny_bind (wpAny_runOwn (codeAny_mono (start_two rfl rfl (go _) (W7.again (fun q hq=>?_) hst7 (go _))) fun r s' hr=>?_))
       ·obtain ⟨m,hl,cl,F,N,_⟩:=id R7
        exact (N q (List.mem_append_right _ (List.mem_append_right _ (List.mem_append_left _ hq)))).1
       ·obtain ⟨f,rfl,sh8,hp8,tk8,rfl,R8,G8⟩:=hr
        refine wpAny_pure ⟨rfl,n,Nat.lt_succ_self _,i+1,sh8,H4,its5,hp8,tk8,rfl,e1,R8.weaken (hw _ _ _ ea),W.grow (W.grow (W.grow (W.grow hf1 G5) G6) G7) G8,hst5,GG.trans G8⟩
      ·exact wpAny_mono h7 (fun ZZ ZZ z=>z) fun ZZ ZZ z=>z.elim
     ·exact ns e1
    ·exact ns e1
   ·exact ns e1
  ·exact ns e1
set_option tactic.hygienic true in
theorem SimL.comp2 (N:Nat) {fi':FnI} (hi:SimI D nms lv i1 t1 fi)
  (ha:SimA D (relN nms scope.names) lv t1 fa) (hi':SimI D (relN nms scope.names) lv i2 t2 fi') (ha':SimA D (relN nms scope.names) lv t2 fa') (he:SimE D (relN nms scope.names) lv elt fe)
  (hw':∀ a H σ',fa a ⟨[],H⟩=some σ'->∀ a' H' σ'',fa' a' ⟨σ'.ρ,H'⟩=some σ''->∀ z c,σ'.ρ.lookup z=some c->σ''.ρ.lookup z=some c)
  (hcl:ClosOk D nms scope []) (hkind:scope.kind = .function) (hcell:∀ y∈scope.names,y.2≠.cell) (hnames:∀ y∈scope.names,y.2 = .local->scope.names.lookup y.1=some .local)
  (hX':∀ x,(relN nms scope.names).lookup x≠some .cell) (hs:∀ env x,foldedSetIterable i1 env x=pure x) (hs':∀ env x,foldedSetIterable i2 env x=pure x):
  SimL D nms lv elt [⟨t1,i1,[],0⟩,⟨t2,i2,[],0⟩] scope pos (compF2 N fi fa fi' fa' fe):=by
 intro env A g L S rest sh ρ H s b H' use R e Q E k
 unfold compF2 at e
 have er:resK [] ρ = []:=List.filter_eq_nil_iff.mpr fun ZZ ZZ z=>by simp at z
 split at e
 ·rename_i nx H1 e1
  split at e
  ·rename_i H2 e2
   cases e
   refine comp_in (xs:=[]) hi hcl hkind hcell hnames (fun ZZ z=>absurd z List.not_mem_nil) (fun x z=>absurd z (hX' x)) S R e1 (H':=H') (fun env' b C sh1 h1 tk1 I fix St its rest' R' S' W hf hst R1 fin=>?_) (hs env) k
   exact comp_loop2 S' W ha hi' ha' he (fun ZZ ZZ ZZ ZZ z c q=>by rw [er] at q; exact ns q) (by rw [er]; exact hw') hs' R1 hf hst (by simp) e2 fin
  ·exact ns e
 ·exact ns e
end
section
variable {D:Mdl} {nms:Names} {lv:Nat}
noncomputable def dataA:Nat->AV->List AO->Option PyData
 |_,.none,_=>some .none
 |_,.int i,_=>some (.int i)
 |_,.str x,_=>some (.str x)
 |k+1,.loc i,H=>match H[i]? with
  |some (.list xs)=>(xs.mapM fun a=>dataA k a H).map .list
  |some (.tup xs)=>(xs.mapM fun a=>dataA k a H).map .tuple
  |_=>none
 |_,_,_=>none
noncomputable def eqD (a b:AV) (H:List AO):Option Bool:=match dataA 8 a H,dataA 8 b H with
 |some x,some y=>if (SeqAt.shaped x&&SeqAt.shaped y)=true then some (PyData.eqv x y) else none
 |_,_=>none
variable {h:Heap} {sh:Shp}
theorem reads_all {n:Nat} {f:AV->Option PyData} (ih:∀ a v d,f a=some d->VRel sh n a v->∃ as,Reads h v d as) {xs:List AV} {vs:List Value} {ds:List PyData} (e:xs.mapM f=some ds) (r:VRels sh n xs vs):∃ as,ReadsAll h vs ds as:=by
 induction xs generalizing vs ds with
 |nil=>rw [List.mapM_nil] at e; obtain rfl:=so e; rw [vrx0 r]; exact ⟨[],.nil⟩
 |cons x xs hi=>
  refine ex2_3 (vrx r) fun v us ev r1 r2=>?_
  rw [ev]
  rw [List.mapM_cons] at e
  cases e1:f x with
  |none=>rw [e1] at e; exact ns e
  |some d=>
   rw [e1] at e
   cases e2:xs.mapM f with
   |none=>
    have e:(xs.mapM f >>= fun ys=>pure (d::ys))=some ds:=e
    rw [e2] at e; exact ns e
   |some dr=>
    have e:(xs.mapM f >>= fun ys=>pure (d::ys))=some ds:=e
    rw [e2] at e; obtain rfl:=so e
    refine ex1_1 (ih x v d e1 r1) fun a1 h1=>?_
    refine ex1_1 (hi e2 r2) fun a2 h2=>?_
    exact ⟨_,.cons h1 h2⟩
variable {H:List AO} {hl:Lg}
set_option tactic.hygienic true in
theorem dataA_reads {prog:Program} {w:World} (HH:HR prog w sh H hl) (N:∀ q∈hl,h.get? q.1=some q.2):∀ (k:Nat) (a:AV) (v:Value) (d:PyData),dataA k a H=some d->VRel sh H.length a v->∃ as,Reads h v d as:=by
 intro k
 induction k with
 |zero=>
  intro a v d e r
  cases a with
  |none=>obtain rfl:=so e; cases r; exact ⟨_,.none⟩
  |int i=>obtain rfl:=so e; obtain ⟨t,rfl⟩:=r; exact ⟨_,.int _ _⟩
  |str x=>obtain rfl:=so e; obtain ⟨t,rfl⟩:=r; exact ⟨_,.str _ _⟩
  |_=>exact ns e
 |succ k ih=>
  intro a v d e r
  cases a with
  |none=>obtain rfl:=so e; cases r; exact ⟨_,.none⟩
  |int i=>obtain rfl:=so e; obtain ⟨t,rfl⟩:=r; exact ⟨_,.int _ _⟩
  |str x=>obtain rfl:=so e; obtain ⟨t,rfl⟩:=r; exact ⟨_,.str _ _⟩
  |loc i=>
   obtain ⟨hlt,rfl⟩:=r
   unfold dataA at e
   split at e
   ·rename_i xs hi
    refine ex1_2 (Option.map_eq_some_iff.mp e) fun ds e1 e2=>?_
    subst e2
    refine list_elim HH hi fun vs c m1 r1=>?_
    refine ex1_1 (reads_all ih e1 r1) fun as hr=>?_
    exact ⟨_,reads_list_at (N _ m1) rfl rfl hr⟩
   ·rename_i xs hi
    refine ex1_2 (Option.map_eq_some_iff.mp e) fun ds e1 e2=>?_
    subst e2
    obtain ⟨vs,m1,r1⟩:=HH.obj i _ hi
    refine ex1_1 (reads_all ih e1 r1) fun as hr=>?_
    exact ⟨_,reads_tuple_at (N _ m1) rfl rfl hr⟩
   ·exact ns e
  |_=>exact ns e
set_option tactic.hygienic true in
theorem eqD_of (HH:HR D.prog D.w sh H hl) (N:∀ q∈hl,h.get? q.1=some q.2) {a b:AV} {va vb:Value} {r:Bool} (e:eqD a b H=some r) (ra:VRel sh H.length a va) (rb:VRel sh H.length b vb):
  ∃ x y as bs,Reads h va x as/\Reads h vb y bs/\SeqAt.shaped x=true/\SeqAt.shaped y=true/\PyData.eqv x y=r:=by
 unfold eqD at e
 split at e
 ·rename_i x y e1 e2
  split at e
  ·rename_i hs
   rw [Bool.and_eq_true] at hs
   obtain rfl:=so e
   refine ex1_1 (dataA_reads HH N _ _ _ _ e1 ra) fun as h1=>?_
   refine ex1_1 (dataA_reads HH N _ _ _ _ e2 rb) fun bs h2=>?_
   exact ⟨x,y,as,bs,h1,h2,hs.1,hs.2,rfl⟩
  ·exact ns e
 ·exact ns e
theorem SimK.eqD:SimK D .Eq eqD:=by
 intro nms lv env A g L S rest sh ρ H s a b va vb r R ra rb e Q E k
 refine Rel.elim R fun m hl cl F N nd HH lr cr=>?_
 refine ex4_5 (eqD_of HH (fun q hq=>(N q (List.mem_append_left _ hq)).1) e ra rb) fun x y as bs h1 h2 h3 h4 zz8=>?_; subst zz8
 have:=S.uni
 have:=S.lvl
 exact eq_dataH h1 h2 h3 h4 (by show _<9900; exact om215 (by assumption) this) (k s.heap s.toks R)
theorem SimK.neD:SimK D .NotEq (fun a b H=>(Mine.eqD a b H).map (!·)):=by
 intro nms lv env A g L S rest sh ρ H s a b va vb r R ra rb e Q E k
 refine Rel.elim R fun m hl cl F N nd HH lr cr=>?_
 refine ex1_2 (Option.map_eq_some_iff.mp (show (Mine.eqD a b H).map (!·)=some r from e)) fun r' e' zz2=>?_; subst zz2
 refine ex4_5 (eqD_of HH (fun q hq=>(N q (List.mem_append_left _ hq)).1) e' ra rb) fun x y as bs h1 h2 h3 h4 zz8=>?_; subst zz8
 have:=S.uni
 have:=S.lvl
 exact ne_dataH h1 h2 h3 h4 (by show _<9900; exact om215 (by assumption) this) (k s.heap s.toks R)
noncomputable def sliceF (f g:Fn AV):Fn AV:=fun ρ H=>bnd (f ρ H) fun a H=>bnd (g ρ H) fun i H=>match a,i with
 |.loc l,.int k=>match H[l]? with
  |some (.list xs)=>if 0<=k/\xs.length<=1000000 then some (.loc H.length,H++[.list (xs.take k.toNat)]) else none
  |_=>none
 |_,_=>none
set_option tactic.hygienic true in
theorem SimE.slice {v e:PySem.Expr} {p pos:Pos} {f g:Fn AV} (hf:SimE D nms lv v f) (hg:SimE D nms lv e g)
  (hsl:∀ o i,subscripted (.Slice Option.none (some e) Option.none p) false (.ref o) (.ref i)=operate [.ref i,.ref o] (getItem (.ref o) (.ref i)):=by intros; rfl):SimE D nms lv (.Subscript v (.Slice Option.none (some e) Option.none p) pos) (sliceF f g):=by
 intro env A gg L S rest sh ρ H s b H' R q Q E k
 refine bnd_elim q fun a H₁ e1 q=>?_
 refine bnd_elim q fun c H₂ e2 q=>?_
 split at q
 ·rename_i l kk _
  split at q
  ·rename_i xs hi
   split at q
   ·rename_i hz
    obtain ⟨rfl,rfl⟩:=sp q
    refine Subscript_ (hf env A gg L S rest sh ρ H s _ H₁ R e1 _ _ fun sh1 h1 tk1 v1 R1 G1 r1=>?_)
    refine wpAny_Slice (evalPart_none_step (evalPart_some_step (hg env A gg L S rest sh1 ρ H₁ _ _ H₂ R1 e2 _ _ fun sh2 h2 tk2 v2 R2 G2 r2=>evalPart_none_step ?_)))
    obtain ⟨t,rfl⟩:=r2
    obtain ⟨hlt',rfl⟩:=r1.grow G2
    refine Rel.elim R2 fun m hl cl F N nd HH lr cr=>?_
    refine list_elim HH hi fun vs c' m1 rr=>?_
    have hlen:=rr.len
    refine kba_turn (value':=.Name (Str.ofString "_") ⟨0,0,0,0⟩) (fun ZZ=>rfl) ?_
    refine kms_slice_lit (s:={ s with heap:=h2,toks:=tk2 }) F N (N.isList (List.mem_append_left _ m1)) .none (.int kk t) (zs:=vs.take kk.toNat) ?_ (fun Da h' F' N' l1=>?_) (hsl _ _) (fun ZZ=>rfl) (by rw [sizeLine_eq]; simp; exact om207 hz hlen)
    ·unfold kms_pick kms_lo kms_hi
     simp only [List.drop_zero,Nat.sub_zero]
     rw [if_neg (om129 hz)]
     show List.take (min kk.toNat vs.length) vs=_
     rw [List.take_eq_take_iff]; exact om271 hz hlen
    ·refine ex1_3 (new_list nd HH lr cr F' N' l1 (rr.take (i:=kk.toNat))) fun sh' R' G' r'=>?_
     exact k sh' h' tk2 _ R' ((G1.trans G2).trans G') r'
   ·exact ns q
  ·exact ns q
 ·exact ns q
end
section
variable {D:Mdl} {nms:Names} {lv:Nat}
variable {sh:Shp}
theorem rel_mk {cells:List (Str×Addr)} {g:Heap} {L:Addr} {rest:Lg} {ρ:List (Str×AV)} {H:List AO} {h h':Heap} (R:Rel D nms cells g L rest sh ρ H h) {a:Addr} {o:Obj} (ha:h.objs.size<=a) (hs:∀ b o,h.get? b=some o->h'.get? b=some o) (ho:h'.get? a=some o)
  {ao:AO} {e0:Nat} (hni:∀ C es,ao≠.inst C es) (hr:∀ sh' hl,sh'.φ H.length=a->sh'.ε H.length=e0->(a,o)∈hl->ORel D.prog D.w sh' (H.length+1) H.length hl ao):
  ∃ sh',Rel D nms cells g L rest sh' ρ (H++[ao]) h'/\Grow sh H.length sh' (H++[ao]).length/\VRel sh' (H++[ao]).length (.loc H.length) (.ref a):=by
 refine Rel.elim R fun m hl cl F N nd HH lr cr=>?_
 obtain ⟨oL,es,ep,hL,r⟩:=F.ns
 have N':News g L h' ((a,o)::(hl++(cl++rest))):=fun q hq=>by
  rcases List.mem_cons.mp hq with rfl|hq
  ·refine ⟨ho,Nat.ne_of_gt (Nat.lt_of_lt_of_le (Heap.lt_size hL) ha),?_⟩
   cases z:g.get? a with
   |none=>rfl
   |some o=>exact absurd (Nat.lt_of_lt_of_le (Heap.lt_size (F.keep _ _ z)) ha) (Nat.lt_irrefl _)
  ·exact ⟨hs _ _ (N q hq).1,(N q hq).2⟩
 refine ex1_3 (rel_alloc nd HH lr cr (o:=o) (Da:=a) (h':=h') ⟨⟨oL,es,ep,hs _ _ hL,r⟩,fun b o e=>hs b o (F.keep b o e),F.above⟩ N' (fun p hp=>Nat.ne_of_lt (Nat.lt_of_lt_of_le (Heap.lt_size (N p hp).1) ha)) hni (e0:=e0) fun sh' e1 e2 G=>hr sh' _ e1 e2 (.head _)) fun sh' R' G' e'=>?_
 exact ⟨sh',R',by simpa using G',by simp,by rw [e']⟩
variable {pos:Pos}
theorem SimE.dict0:SimE D nms lv (.Dict [] [] pos) (fun ZZ H=>some (.loc H.length,H++[.dnil])):=by
 intro env A g L S rest sh ρ H s b H' R e Q E k
 cases e
 refine Rel.elim R fun m hl cl F N nd HH lr cr=>?_
 refine newDict_K F N S.T.nolimit fun d h' o F' N' l1 hm hd ZZ ZZ ZZ=>?_
 refine ex1_1 (dict_nil hd) fun n zz1=>?_; subst zz1
 refine ex1_3 (rel_alloc nd HH lr cr (ao:=.dnil) (e0:=n) F' N' (fun p hp=>Nat.ne_of_lt (l1 p hp)) (fun ZZ ZZ z=>by cases z) fun sh' e1 e2 G=>⟨by rw [e1]; exact hm,by rw [e1,e2]; exact .head _⟩) fun sh' R' G' e'=>?_
 exact k sh' h' s.toks _ R' (by simpa using G') ⟨by simp,by rw [e']⟩
noncomputable def pairsA:List (PyData×PyData)->Option (List (Str×AV))
 |[]=>some []
 |(.str x,.str y)::r=>(pairsA r).map ((x,.str y)::·)
 |_=>none
theorem pairsA_rel {n:Nat}:∀ {DD:List (PyData×PyData)} {kvs:List (Str×Value)} {es:List (Str×AV)},pairsA DD=some es->PyProof.V.FlatPairs PyData.str kvs DD->DRel sh n es kvs
 |_,_,es,e,h=>by
  induction h generalizing es with
  |nil=>obtain rfl:=so e; trivial
  |@cons k v d kvs r fv fr ih=>
   cases d with
   |str y=>
    refine ex1_2 (Option.map_eq_some_iff.mp (show (pairsA r).map ((k,AV.str y)::·)=some es from e)) fun es' e1 zz2=>?_
    rw [<- zz2]
    exact ⟨rfl,fv.str_inv,ih _ e1⟩
   |_=>exact ns e
theorem SimE.dictS {keys:List (Option PySem.Expr)} {values:List PySem.Expr} {DD:List (PyData×PyData)} {es:List (Str×AV)} (hD:litPairs keys values=some DD) (hs:strKeyed DD=true) (hn:(strKeysOf DD).Nodup) (he:pairsA DD=some es)
  (hall:keys.all (·.isSome)=true) (hl:keys.length=values.length) (h0:keys≠[]) (hlen:keys.length<=15):SimE D nms lv (.Dict keys values pos) (fun ZZ H=>some (.loc H.length,H++[.dstr es])):=by
 intro env A g L S rest sh ρ H s b H' R e Q E k
 cases e
 refine Dict_lits_str hD hs hn hall hl h0 hlen fun a o h₁ tk ha ho hT hk=>?_
 obtain ⟨kvs,hd,hf⟩:=hT
 have hm:(a == sysModules)=false:=by
  refine Rel.elim R fun m hl cl F N nd HH lr cr=>?_
  have h1:=modules_low S.T.nolimit
  have h2:g.objs.size<=L:=F.above
  have h3:L<s.heap.objs.size:=F.ns.lt
  have:a≠sysModules:=Nat.ne_of_gt (Nat.lt_of_lt_of_le (Nat.lt_trans (Nat.lt_of_lt_of_le h1 h2) h3) ha)
  simpa using this
 refine ex1_3 (rel_mk R ha hk ho (ao:=.dstr es) (e0:=0) (fun ZZ ZZ z=>by cases z) fun sh' hl e1 e2 hm'=>⟨by rw [e1]; exact hm,o,kvs,by rw [e1]; exact hm',hd,pairsA_rel he hf⟩) fun sh' R' G' e'=>?_
 exact k sh' h₁ tk _ R' G' e'
theorem SimE.callU {o:PySem.Expr} {name:Str} {apos:Pos} {Cl f:Addr} {F:FnC} {e:PySem.Expr} {es:List PySem.Expr} {fs:Fn (List AV)} {mc:Value} (hf:SimE D nms lv o (cst (.glob (.ref Cl)))) (C:SimC D lv (.ref f) F) (hs:SimEs D nms lv (e::es) fs) (hn:(e::es).all notStar=true) (hk:keepIn D.K (.ref f)=true)
  (hg:specialIn D.K (.ref Cl) "__getattribute__" = some (some (.builtin "type.__getattribute__"))) (hm:typeIn D.K (.ref Cl)=some mc) (hr:readsIn D.K Cl mc=true) (hfc:findCls D.K (.ref Cl) mc name=some (.val (.ref f))) (hh:handedIn (.ref f)=true) {pl:Env->Sem Bool}
  (he:∀ env,eval (.Call (.Attribute o name apos) (e::es) [] pos) env=(do let ov <- eval o env; standAt apos.atName; let (g,first) <- holding [ov] (getMethod ov name (pl env)); callWith pos g first (backTo pos (starEach (e::es) env)) [])):
  SimE D nms lv (.Call (.Attribute o name apos) (e::es) [] pos) (callF F fs):=by
 intro env A g L S rest sh ρ H s b H' R q Q E k
 refine bnd_elim q fun as H₁ e1 e2=>?_
 refine MethodCall_ (hf env A g L S rest sh ρ H s _ H R rfl _ _ fun sh1 h1 tk1 v R1 G1 r1=>?_) (he env)
 cases r1
 refine Rel.elim R1 fun m hl cl F' N nd HH lr cr=>?_
 refine method_of_cls F' S.X hg (cls_val F' S.X hm hr hfc hh ?_)
 refine callWith_K S.X hk ?_ (starEach_ne hn) (noStars (tail_ne hn))
 refine hs env A g L pos S rest sh1 ρ H _ as H₁ R1 e1 _ _ fun sh2 h2 tk2 vs R2 G2 r2=>?_
 refine Rel.elim R2 fun m hl cl F' N nd HH lr cr=>?_
 exact ⟨S.X.keeps F'.keep,C nms env A g L S rest sh2 ρ H₁ _ as vs b H' R2 r2 e2 _ _ fun sh3 h3 tk3 v R3 G3 r3=>k sh3 h3 tk3 v R3 ((G1.trans G2).trans G3) r3⟩
end
section
noncomputable abbrev mdl (w:World) (mean:ExcName->Option Value) (mg mb:Str->Option Value):Mdl:=⟨Challenge.rw_sa0597_01.row.prog,w,ka.heap_1 w.params,qv,looseW qv [Str.ofString "SnobolError"],mean,mg,mb⟩
noncomputable def sL (l:List String):List Str:=l.map Str.ofString
noncomputable def tG:List (Addr×List Str):=[(54,sL ["node"]),(117,sL ["kind","owner","key"]),(208,sL ["word","number","mark","told","bounds","items"]),(227,sL ["word","number","mark","entries","places","rows"]),(246,sL ["word","number","mark","fields","values"]),(348,sL ["width","most_items","store","made","holders"])]
noncomputable def tS:List (Addr×List Str):=[(54,sL ["node"]),(117,sL ["kind","owner","key"]),(208,sL ["word","number","mark","told","bounds","items"]),(227,sL ["word","number","mark","entries","places","rows"]),(246,sL ["word","number","mark","fields","values"]),
 (348,sL ["width","most_steps","most_depth","most_length","most_items","store","functions","labels","keywords","opsyns","inputs","outputs","traces","read_names","write_names","traced","steps","depth","nested","aside","made","holders","evaluate","make_code","matcher","kept_names"])]
noncomputable def inT (t:List (Addr×List Str)) (C:Addr) (x:Str):Bool:=t.any fun p=>p.1 == C&&p.2.contains x
variable {t:List (Addr×List Str)}
theorem inT_mem {C:Addr} {x:Str} (h:inT t C x=true):∃ p∈t,p.1=C/\x∈p.2:=by
 obtain ⟨p,hp,e⟩:=List.any_eq_true.mp h
 rw [Bool.and_eq_true] at e
 exact ⟨p,hp,by simpa using e.1,by simpa using e.2⟩
noncomputable def getOne (K:Frag) (C:Addr) (x:Str):Bool:=plainGet K C x&&(hasDictIn K C&&(match findIn K (.ref C) x with|some attr=>noGet K attr|none=>false))
noncomputable def allT (f:Addr->Str->Bool) (t:List (Addr×List Str)):Bool:=t.all fun p=>p.2.all fun x=>f p.1 x
variable {K:Frag}
theorem getOk_of (h:allT (getOne K) t=true):GetOk K (inT t):=by
 intro C x e
 obtain ⟨p,hp,rfl,hx⟩:=inT_mem e
 have:=List.all_eq_true.mp (List.all_eq_true.mp h p hp) x hx
 unfold getOne at this
 rw [Bool.and_eq_true,Bool.and_eq_true] at this
 refine ⟨this.1,this.2.1,?_⟩
 have:=this.2.2
 cases e:findIn K (.ref p.1) x with
 |none=>rw [e] at this; cases this
 |some attr=>rw [e] at this; exact ⟨attr,rfl,this⟩
variable {w:World}
theorem gOk:GetOk (ka.heap_1 w.params) (inT tG):=getOk_of (by kernel_rfl)
noncomputable def setOne (K:Frag) (C:Addr) (x:Str):Bool:=findIn K (.ref C) "__setattr__" == some (some (.builtin "object.__setattr__"))&&(plainOver K C&&((match takerIn K C x with|some none=>true|_=>false)&&hasDictIn K C))
theorem setOk_of (h:allT (setOne K) t=true):SetOk K (inT t):=by
 intro C x e
 obtain ⟨p,hp,rfl,hx⟩:=inT_mem e
 have:=List.all_eq_true.mp (List.all_eq_true.mp h p hp) x hx
 unfold setOne at this
 rw [Bool.and_eq_true,Bool.and_eq_true,Bool.and_eq_true,beq_iff_eq] at this
 obtain ⟨a,b,c,d⟩:=this
 refine ⟨a,b,?_,d⟩
 cases e:takerIn K p.1 x with
 |none=>rw [e] at c; cases c
 |some o=>
  cases o with
  |none=>rfl
  |some _=>rw [e] at c; cases c
theorem sOk:SetOk (ka.heap_1 w.params) (inT tS):=setOk_of (by kernel_rfl)
noncomputable def tyT:List Value:=[.type "int",.type "str",.type "NoneType",.type "list",.type "tuple",.ref 54,.ref 117,.ref 208,.ref 227,.ref 246]
noncomputable def clT:List Value:=[.type "int",.type "str",.type "list",.type "tuple",.ref 54,.ref 75,.ref 96,.ref 117,.ref 138,.ref 208,.ref 227,.ref 246]
noncomputable def hoT:List Value:=[.ref 208,.ref 227,.ref 246]
noncomputable def isT (t c:Value):Option Bool:=if (tyT.contains t&&clT.contains c)=true then some (t == c||(c == .ref 138&&hoT.contains t)) else none
noncomputable def isiOne (K:Frag) (t c:Value):Bool:=kitOne K t c == isT t c
noncomputable def clsOne (K:Frag) (t:Value):Bool:=match t with
 |.ref C=>plainGet K C "__class__"&&(hasDictIn K C&&(findIn K (.ref C) "__class__" == some (some (.builtin "object.__class__")) &&
   (specialIn K (.builtin "object.__class__") "__get__" == some (some (.builtin "getset_descriptor.__get__"))&&(takesIn K (.builtin "object.__class__") == some true&&mroIn K C (.type "object") == some true))))
 |_=>true
theorem isT_mem {t c:Value} {b:Bool} (h:isT t c=some b):t∈tyT/\c∈clT:=by
 unfold isT at h
 split at h
 ·rename_i e
  rw [Bool.and_eq_true] at e
  exact ⟨by simpa using e.1,by simpa using e.2⟩
 ·cases h
theorem isiOk_of (h:(tyT.all fun t=>clT.all fun c=>isiOne K t c)=true) (h2:(tyT.all fun t=>clsOne K t)=true):IsiOk K isT:=by
 refine ⟨fun t c b e=>?_,fun C c b e=>?_⟩
 ·have:=List.all_eq_true.mp (List.all_eq_true.mp h t (isT_mem e).1) c (isT_mem e).2
  unfold isiOne at this
  rw [beq_iff_eq] at this
  rw [this,e]
 ·have:=List.all_eq_true.mp h2 _ (isT_mem e).1
  unfold clsOne at this
  simp only [Bool.and_eq_true,beq_iff_eq] at this
  exact this
theorem iOk:IsiOk (ka.heap_1 w.params) isT:=isiOk_of (by kernel_rfl) (by kernel_rfl)
end
section
variable {w:World} {mean:ExcName->Option Value} {mg mb:Str->Option Value} {nms:Names} {lv:Nat}
noncomputable def NN:Nat:=100000
variable {n:Nat}
theorem con_at {f:Addr} {name qual:Str} {params:Arguments} {body:List Stmt} {scope:Scope} {dV kV doc pm cdv ct oc:Value} {an od:Option Addr} {osl:Array (Option Value)} {ps:List Str} {fb:FnS}
  (ho:(ka.heap_1 w.params).lookup f=some ⟨oc,od,.func (fnOf name qual params body scope dV kV doc pm an cdv ct),osl⟩) (hcd:codeIn (ka.heap_1 w.params) cdv qual=true)
  (hbind:∀ vs:List Value,vs.length=ps.length->∀ s:Shared,bindArgs (fnOf name qual params body scope dV kV doc pm an cdv ct) ⟨vs,[]⟩=pure (ps.zip vs))
  (hkind:(ps.all fun y=>scope.names.lookup y == some .local||scope.names.lookup y == some .cell)=true)
  (hnd:((cellsFrom 0 scope.names []).map (·.1)).Nodup)
  (hco:scope.isCoroutine=false) (hgen:scope.isGenerator=false) (hk:scope.kind = .function) (hn:n<=60)
  (hb:SimS (mdl w mean mg mb) scope.names n body fb):Con (mdl w mean mg mb) n f (runB ps [] fb):=
 con_of (D:=mdl w mean mg mb) (ds:=[]) (dv:=[]) (fun ZZ ZZ=>trivial) ho hcd (fun vs hv s ZZ=>by
  rw [List.append_nil] at hv ⊢
  exact BindsTo.of_eq (hbind vs hv s)) hkind hnd hco hgen hk hn hb
variable {P:List Value->Prop}
theorem len_cons (vs:List Value) (h:vs.length=n+1) (k:∀ a l,l.length=n->P (a::l)):P vs:=by
 cases vs with
 |nil=>cases h
 |cons a l=>exact k a l (Nat.succ.inj h)
theorem bind1 (h:∀ a,P [a]) (vs:List Value) (hv:vs.length=1):P vs:=len_cons vs hv fun a ZZ e=>List.length_eq_zero_iff.mp e▸h a
theorem bind2 (h:∀ a b,P [a,b]) (vs:List Value) (hv:vs.length=2):P vs:=len_cons vs hv fun a=>bind1 (P:=fun l=>P (a::l)) (h a)
theorem bind3 (h:∀ a b c,P [a,b,c]) (vs:List Value) (hv:vs.length=3):P vs:=len_cons vs hv fun a=>bind2 (P:=fun l=>P (a::l)) (h a)
theorem bind4 (h:∀ a b c d,P [a,b,c,d]) (vs:List Value) (hv:vs.length=4):P vs:=len_cons vs hv fun a=>bind3 (P:=fun l=>P (a::l)) (h a)
theorem bind5 (h:∀ a b c d e,P [a,b,c,d,e]) (vs:List Value) (hv:vs.length=5):P vs:=len_cons vs hv fun a=>bind4 (P:=fun l=>P (a::l)) (h a)
variable {x:Str} {pos:Pos}
theorem eTop {v:Addr} (hx:nms.lookup x=some .globalImplicit) (hg:nsIn (ka.heap_1 w.params) mainGlobals x=some (some (.ref v))) (hd:(x == ("__debug__":Str))=false):SimE (mdl w mean mg mb) nms lv (.Name x pos) (cst (.glob (.ref v))):=SimE.top hx hd hg fun ZZ ZZ=>rfl
theorem eTopI {i:Int} {t:Tok} (hx:nms.lookup x=some .globalImplicit) (hg:nsIn (ka.heap_1 w.params) mainGlobals x=some (some (.int i t))) (hd:(x == ("__debug__":Str))=false):SimE (mdl w mean mg mb) nms lv (.Name x pos) (cst (.int i)):=SimE.top hx hd hg fun ZZ ZZ=>⟨t,rfl⟩
theorem eBlt {v:Value} (hx:nms.lookup x=some .globalImplicit) (hg:nsIn (ka.heap_1 w.params) mainGlobals x=some none) (hv:bootBuiltins x=some v) (hd:(x == ("__debug__":Str))=false) (hn:(x == ("__name__":Str))=false):SimE (mdl w mean mg mb) nms lv (.Name x pos) (cst (.glob v)):=
 SimE.blt hx hd (fun e=>by subst e; simp at hn) hg hv
theorem SimS1.raise {e c:Option PySem.Expr} {D:Mdl}:SimS1 D nms lv (.Raise e c pos) (fun ZZ=>Option.none):=fun env A g L S rest sh σ s fl σ' R q=>by cases q
end
section
variable {nms:Names} {lv:Nat}
noncomputable def okC (nms:Names) (scope:Scope) (xs:List Str):Bool:=(scope.kind == .function)&&(scope.names.all (fun p=>p.2 != .cell&&(p.2 != .local||scope.names.lookup p.1 == some .local))&&((relN nms scope.names).all (fun p=>p.2 != .cell||xs.contains p.1) &&
 xs.all fun x=>nms.lookup x == some .cell&&(relN nms scope.names).lookup x == some .cell))
variable {scope:Scope}
theorem okC_of {xs:List Str} (h:okC nms scope xs=true):scope.kind = .function/\(∀ y∈scope.names,y.2≠.cell)/\(∀ y∈scope.names,y.2 = .local->scope.names.lookup y.1=some .local) /\
  (∀ x∈xs,nms.lookup x=some .cell/\((relN nms scope.names).lookup x=some .cell\/(relN nms scope.names).lookup x=some .free))/\∀ x,(relN nms scope.names).lookup x=some .cell->x∈xs:=by
 unfold okC at h
 rw [Bool.and_eq_true,Bool.and_eq_true,Bool.and_eq_true] at h
 refine ex0_4 h fun h1 h2 h3 h4=>?_; try clear h
 refine ⟨by simpa using h1,fun y hy=>?_,fun y hy hl=>?_,fun x hx=>?_,fun x hx=>?_⟩
 ·have:=List.all_eq_true.mp h2 y hy
  rw [Bool.and_eq_true] at this
  simpa using this.1
 ·have:=List.all_eq_true.mp h2 y hy
  rw [Bool.and_eq_true] at this
  have:=this.2
  rw [hl] at this
  simpa using this
 ·have:=List.all_eq_true.mp h4 x hx
  rw [Bool.and_eq_true] at this
  exact ⟨by simpa using this.1,.inl (by simpa using this.2)⟩
 ·have:=List.all_eq_true.mp h3 _ (lookup_mem hx)
  simpa using this
variable {D:Mdl}
variable {elt iter:PySem.Expr} {ifs:List PySem.Expr} {pos:Pos} {fi:FnI} {fc:Fn Bool} {fe:Fn AV}
theorem compo0 {target:PySem.Expr} {fa:AV->Mine.St->Option Mine.St} (hi:SimI D nms lv iter target fi)
  (ha:SimA D (relN nms scope.names) lv target fa) (hc:SimF D (relN nms scope.names) lv ifs fc) (he:SimE D (relN nms scope.names) lv elt fe) (hcl:(scope.names.all fun p=>p.2 != .free)=true) (ok:okC nms scope []=true)
  (hs:∀ env x,foldedSetIterable iter env x=pure x:=by intros; rfl):
  SimL D nms lv elt [⟨target,iter,ifs,0⟩] scope pos (compF NN fi [] fa fc fe):=
 let ⟨a,b,c,d,e⟩:=okC_of ok
 SimL.comp [] NN hi ha hc he (fun ρ ZZ ZZ ZZ ZZ z c q=>by
  have er:resK [] ρ = []:=List.filter_eq_nil_iff.mpr fun ZZ ZZ z=>by simp at z
  rw [er] at q; cases q) (ClosOk.nil hcl) a b c d e hs
variable {y x:Str} {py:Pos}
theorem compo1 (hi:SimI D nms lv iter (.Name y py) fi)
  (ha:SimA D (relN nms scope.names) lv (.Name y py) (aName y)) (hc:SimF D (relN nms scope.names) lv ifs fc) (he:SimE D (relN nms scope.names) lv elt fe) (hcl:scope.names.filter (fun p=>p.2 == .free) = [(x,.free)]) (ok:okC nms scope [x]=true) (hxy:(x == y)=false)
  (hs:∀ env x,foldedSetIterable iter env x=pure x:=by intros; rfl):
  SimL D nms lv elt [⟨.Name y py,iter,ifs,0⟩] scope pos (compF NN fi [x] (aName y) fc fe):=
 let ⟨a,b,c,d,e⟩:=okC_of ok
 SimL.comp [x] NN hi ha hc he (fun ρ v H σ' hσ z c q=>by
  cases hσ
  refine ex0_2 (resK_get q) fun hz hq=>?_
  rw [List.mem_singleton] at hz
  subst hz
  show List.lookup z ((y,v)::resK [z] ρ)=some c
  rw [List.lookup_cons,hxy]; exact q) (ClosOk.one hcl (d x (.head _)).1) a b c d e hs
theorem compo2 {i1 i2:PySem.Expr} {px:Pos} {fi':FnI} (hi:SimI D nms lv i1 (.Name x px) fi)
  (ha:SimA D (relN nms scope.names) lv (.Name x px) (aName x)) (hi':SimI D (relN nms scope.names) lv i2 (.Name y py) fi') (ha':SimA D (relN nms scope.names) lv (.Name y py) (aName y)) (he:SimE D (relN nms scope.names) lv elt fe)
  (hcl:(scope.names.all fun p=>p.2 != .free)=true) (ok:okC nms scope []=true) (hxy:(x == y)=false) (hs:∀ env x,foldedSetIterable i1 env x=pure x:=by intros; rfl) (hs':∀ env x,foldedSetIterable i2 env x=pure x:=by intros; rfl):
  SimL D nms lv elt [⟨.Name x px,i1,[],0⟩,⟨.Name y py,i2,[],0⟩] scope pos (compF2 NN fi (aName x) fi' (aName y) fe):=
 let ⟨a,b,c,d,e⟩:=okC_of ok
 SimL.comp2 NN hi ha hi' ha' he (fun v H σ' hσ v' H' σ'' hσ' z c q=>by
  cases hσ
  cases hσ'
  show List.lookup z ((y,v')::[(x,v)])=some c
  have q:List.lookup z [(x,v)]=some c:=q
  by_cases e:z=x
  ·subst e
   rw [List.lookup_cons,hxy]; exact q
  ·have e:(z == x)=false:=by simpa using e
   rw [List.lookup_cons,e] at q; cases q) (ClosOk.nil hcl) a b c (fun x hx=>absurd (e x hx) List.not_mem_nil) hs hs'
end
noncomputable def neK:=intK fun x y=>x != y
noncomputable def ltK:=intK fun x y=>decide (x<y)
noncomputable def gtK:=intK fun x y=>decide (y<x)
noncomputable def neD:AV->AV->List AO->Option Bool:=fun a b H=>(eqD a b H).map (!·)
section
variable {w:World} {mean:ExcName->Option Value} {mg mb:Str->Option Value} {nms:Names} {lv:Nat} {D:Mdl}
noncomputable def aF (x:Str) (f:Fn AV):Fn AV:=fun ρ H=>bnd (f ρ H) (getA (inT tG) x)
variable {e:PySem.Expr} {f:Fn AV} {pos:Pos}
theorem xAttr {x:Str} (h:SimE (mdl w mean mg mb) nms lv e f)
  (he:∀ env,eval (.Attribute e x pos) env=(do let o <- eval e env; standAt pos.atName; let r <- holding [o] (getAttr o x true); letTemporaryGo e o r; pure r):=by intro _; rfl):SimE (mdl w mean mg mb) nms lv (.Attribute e x pos) (aF x f):=SimE.attr gOk h he
noncomputable def binF (f g:Fn AV) (G:FnO):Fn AV:=fun ρ H=>bnd (f ρ H) fun a H=>bnd (g ρ H) fun b H=>G a b H
variable {l r:PySem.Expr} {g:Fn AV}
theorem xBin {op:Operator} {G:FnO} (hf:SimE D nms lv l f) (hg:SimE D nms lv r g) (ho:SimO D op G):SimE D nms lv (.BinOp l op r pos) (binF f g G):=SimE.bin hf hg ho
noncomputable def negF (f:Fn AV):Fn AV:=fun ρ H=>bnd (f ρ H) negA
theorem xNeg {x:PySem.Expr} (hf:SimE D nms lv x f):SimE D nms lv (.UnaryOp .USub x pos) (negF f):=SimE.neg hf
noncomputable def bV (f:Fn Bool):Fn AV:=fun ρ H=>bnd (f ρ H) fun b H=>some (.bool b,H)
variable {op:CmpOp} {G:AV->AV->List AO->Option Bool}
theorem xCmp (hf:SimE D nms lv l f) (hg:SimE D nms lv r g) (ho:SimK D op G) (hm:behindInMarks op r=false:=by rfl):SimE D nms lv (.Compare l [op] [r] pos) (bV (cmpF f g G)):=SimE.cmp hf hg ho hm
theorem xChain {r':PySem.Expr} {op':CmpOp} {g':Fn AV} {G':AV->AV->List AO->Option Bool} (hf:SimE D nms lv l f) (hg:SimE D nms lv r g) (hg':SimE D nms lv r' g') (ho:SimK D op G) (ho':SimK D op' G') (hm:lastMarks [op,op'] [r,r']=false:=by rfl):
  SimE D nms lv (.Compare l [op,op'] [r,r'] pos) (bV (chainF f g g' G G')):=SimE.chain hf hg hg' ho ho' hm
noncomputable def vB (f:Fn AV):Fn Bool:=fun ρ H=>bnd (f ρ H) boolV
theorem xVal (hf:SimE D nms lv e f) (he:∀ env whole,isTrue e env whole=(do let v <- whole; standAt e.pos; holding [v] (truthy v)):=by intros; rfl):SimB D nms lv e (vB f):=SimB.val hf he
noncomputable def tT:Fn Bool:=fun ZZ H=>some (true,H)
noncomputable def tF:Fn Bool:=fun ZZ H=>some (false,H)
noncomputable def dict0F:Fn AV:=fun ZZ H=>some (.loc H.length,H++[.dnil])
noncomputable def dictSF (es:List (Str×AV)):Fn AV:=fun ZZ H=>some (.loc H.length,H++[.dstr es])
noncomputable def eNo:Fn AV:=fun ZZ ZZ=>none
noncomputable def sNo:FnS:=fun ZZ=>none
noncomputable def sCont:FnS:=fun σ=>some (.cont,σ)
end
section
variable {D:Mdl} {nms:Names} {lv:Nat}
variable {x:Str} {pos:Pos}
theorem eL (hx:nms.lookup x=some .local:=by rfl) (hd:(x == ("__debug__":Str))=false:=by rfl) (hc:(x == ("__classdict__":Str))=false:=by rfl):SimE D nms lv (.Name x pos) (rdL x):=SimE.loc (.inl hx) hd hc
theorem eK (hx:nms.lookup x=some .cell:=by rfl) (hd:(x == ("__debug__":Str))=false:=by rfl) (hc:(x == ("__classdict__":Str))=false:=by rfl):SimE D nms lv (.Name x pos) (rdL x):=SimE.loc (.inr (.inl hx)) hd hc
variable {e:PySem.Expr} {es:List PySem.Expr} {fs:Fn (List AV)}
theorem eC {f:Fn AV} (h:SimE D nms lv e f) (hs:SimEs D nms lv es fs) (hn:notStar e=true:=by rfl):SimEs D nms lv (e::es) (esCons f fs):=SimEs.cons h hs hn
theorem eN:SimEs D nms lv [] esNil:=SimEs.nil
theorem sC {st:Stmt} {r:List Stmt} {f fr:FnS} (h:SimS1 D nms lv st f) (hr:SimS D nms lv r fr):SimS D nms lv (st::r) (sSeq f fr):=SimS.cons h hr
theorem sN:SimS D nms lv [] sSkip:=SimS.nil
variable {xp:Pos} {f:Addr} {F:FnC}
theorem cK (hf:SimE D nms lv (.Name x xp) (cst (.glob (.ref f)))) (hk:keepIn D.K (.ref f)=true) (C:SimC D lv (.ref f) F) (hs:SimEs D nms lv (e::es) fs) (hn:(e::es).all notStar=true:=by rfl):
  SimE D nms lv (.Call (.Name x xp) (e::es) [] pos) (callF F fs):=SimE.callK hf hk C hs hn
theorem cB {id:String} (hf:SimE D nms lv (.Name x xp) (cst (.glob (.builtin id)))) (C:SimC D lv (.builtin id) F) (hs:SimEs D nms lv (e::es) fs) (hn:(e::es).all notStar=true:=by rfl):
  SimE D nms lv (.Call (.Name x xp) (e::es) [] pos) (callF F fs):=SimE.callB hf C hs hn
theorem fN {n:Nat} (C:Con D n f F) (hn:n<lv:=by decide):SimC D lv (.ref f) F:=SimC.fn C hn
end
def GN (w:World) (mean:ExcName->Option Value) (mg mb:Str->Option Value) (x:Str) (a:AV):Prop:=∀ {nms:Names} {lv:Nat} {pos:Pos},nms.lookup x=some .globalImplicit->SimE (mdl w mean mg mb) nms lv (.Name x pos) (cst a)
set_option tactic.hygienic true
section
variable {w:World} {mean:ExcName->Option Value} {mg mb:Str->Option Value} {nms:Names} {lv:Nat} {pos:Pos}
theorem kf2:Challenge.rw_sa0597_01.row.prog=Challenge.rw_sa0597_01.row.prog/\ka.heap_1=ka.heap_1:=by
 k_fill
 exact ⟨rfl,rfl⟩
theorem g_Pattern:GN w mean mg mb "Pattern" (.glob (.ref 54)):=fun hx=>eTop hx (by k_is) rfl
theorem k_Pattern:keepIn (ka.heap_1 w.params) (.ref 54)=true:=by k_is
theorem g_Delayed:GN w mean mg mb "Delayed" (.glob (.ref 75)):=fun hx=>eTop hx (by k_is) rfl
theorem g_Code:GN w mean mg mb "Code" (.glob (.ref 96)):=fun hx=>eTop hx (by k_is) rfl
theorem g_NameRef:GN w mean mg mb "NameRef" (.glob (.ref 117)):=fun hx=>eTop hx (by k_is) rfl
theorem k_NameRef:keepIn (ka.heap_1 w.params) (.ref 117)=true:=by k_is
theorem g_Holder:GN w mean mg mb "Holder" (.glob (.ref 138)):=fun hx=>eTop hx (by k_is) rfl
theorem g_kind_of:GN w mean mg mb "kind_of" (.glob (.ref 149)):=fun hx=>eTop hx (by k_is) rfl
theorem k_kind_of:keepIn (ka.heap_1 w.params) (.ref 149)=true:=by k_is
theorem g_is_plain:GN w mean mg mb "is_plain" (.glob (.ref 156)):=fun hx=>eTop hx (by k_is) rfl
theorem k_is_plain:keepIn (ka.heap_1 w.params) (.ref 156)=true:=by k_is
theorem g_fits:GN w mean mg mb "fits" (.glob (.ref 163)):=fun hx=>eTop hx (by k_is) rfl
theorem k_fits:keepIn (ka.heap_1 w.params) (.ref 163)=true:=by k_is
theorem g_whole_of_text:GN w mean mg mb "whole_of_text" (.glob (.ref 170)):=fun hx=>eTop hx (by k_is) rfl
theorem k_whole_of_text:keepIn (ka.heap_1 w.params) (.ref 170)=true:=by k_is
theorem g_to_whole:GN w mean mg mb "to_whole" (.glob (.ref 177)):=fun hx=>eTop hx (by k_is) rfl
theorem k_to_whole:keepIn (ka.heap_1 w.params) (.ref 177)=true:=by k_is
theorem g_need_whole:GN w mean mg mb "need_whole" (.glob (.ref 184)):=fun hx=>eTop hx (by k_is) rfl
theorem k_need_whole:keepIn (ka.heap_1 w.params) (.ref 184)=true:=by k_is
theorem g_table_key:GN w mean mg mb "table_key" (.glob (.ref 191)):=fun hx=>eTop hx (by k_is) rfl
theorem k_table_key:keepIn (ka.heap_1 w.params) (.ref 191)=true:=by k_is
theorem g_Array:GN w mean mg mb "Array" (.glob (.ref 208)):=fun hx=>eTop hx (by k_is) rfl
theorem k_Array:keepIn (ka.heap_1 w.params) (.ref 208)=true:=by k_is
theorem g_Table:GN w mean mg mb "Table" (.glob (.ref 227)):=fun hx=>eTop hx (by k_is) rfl
theorem k_Table:keepIn (ka.heap_1 w.params) (.ref 227)=true:=by k_is
theorem g_Data:GN w mean mg mb "Data" (.glob (.ref 246)):=fun hx=>eTop hx (by k_is) rfl
theorem k_Data:keepIn (ka.heap_1 w.params) (.ref 246)=true:=by k_is
theorem g_whole_in:GN w mean mg mb "whole_in" (.glob (.ref 255)):=fun hx=>eTop hx (by k_is) rfl
theorem k_whole_in:keepIn (ka.heap_1 w.params) (.ref 255)=true:=by k_is
theorem g_read_bounds:GN w mean mg mb "read_bounds" (.glob (.ref 262)):=fun hx=>eTop hx (by k_is) rfl
theorem k_read_bounds:keepIn (ka.heap_1 w.params) (.ref 262)=true:=by k_is
theorem g_size_of_bounds:GN w mean mg mb "size_of_bounds" (.glob (.ref 269)):=fun hx=>eTop hx (by k_is) rfl
theorem k_size_of_bounds:keepIn (ka.heap_1 w.params) (.ref 269)=true:=by k_is
theorem g_array_place:GN w mean mg mb "array_place" (.glob (.ref 276)):=fun hx=>eTop hx (by k_is) rfl
theorem k_array_place:keepIn (ka.heap_1 w.params) (.ref 276)=true:=by k_is
theorem g_table_entry:GN w mean mg mb "table_entry" (.glob (.ref 283)):=fun hx=>eTop hx (by k_is) rfl
theorem k_table_entry:keepIn (ka.heap_1 w.params) (.ref 283)=true:=by k_is
theorem g_put_entry:GN w mean mg mb "put_entry" (.glob (.ref 290)):=fun hx=>eTop hx (by k_is) rfl
theorem k_put_entry:keepIn (ka.heap_1 w.params) (.ref 290)=true:=by k_is
theorem g_item_ref:GN w mean mg mb "item_ref" (.glob (.ref 295)):=fun hx=>eTop hx (by k_is) rfl
theorem k_item_ref:keepIn (ka.heap_1 w.params) (.ref 295)=true:=by k_is
theorem g_field_ref:GN w mean mg mb "field_ref" (.glob (.ref 302)):=fun hx=>eTop hx (by k_is) rfl
theorem k_field_ref:keepIn (ka.heap_1 w.params) (.ref 302)=true:=by k_is
theorem g_slot_get:GN w mean mg mb "slot_get" (.glob (.ref 309)):=fun hx=>eTop hx (by k_is) rfl
theorem k_slot_get:keepIn (ka.heap_1 w.params) (.ref 309)=true:=by k_is
theorem g_slot_set:GN w mean mg mb "slot_set" (.glob (.ref 316)):=fun hx=>eTop hx (by k_is) rfl
theorem k_slot_set:keepIn (ka.heap_1 w.params) (.ref 316)=true:=by k_is
theorem g_data_made:GN w mean mg mb "data_made" (.glob (.ref 323)):=fun hx=>eTop hx (by k_is) rfl
theorem k_data_made:keepIn (ka.heap_1 w.params) (.ref 323)=true:=by k_is
theorem g_copy_of:GN w mean mg mb "copy_of" (.glob (.ref 330)):=fun hx=>eTop hx (by k_is) rfl
theorem k_copy_of:keepIn (ka.heap_1 w.params) (.ref 330)=true:=by k_is
theorem g_World:GN w mean mg mb "World" (.glob (.ref 348)):=fun hx=>eTop hx (by k_is) rfl
theorem k_World:keepIn (ka.heap_1 w.params) (.ref 348)=true:=by k_is
theorem g_next_number:GN w mean mg mb "next_number" (.glob (.ref 359)):=fun hx=>eTop hx (by k_is) rfl
theorem k_next_number:keepIn (ka.heap_1 w.params) (.ref 359)=true:=by k_is
theorem g_held:GN w mean mg mb "held" (.glob (.ref 366)):=fun hx=>eTop hx (by k_is) rfl
theorem k_held:keepIn (ka.heap_1 w.params) (.ref 366)=true:=by k_is
theorem g_made_array:GN w mean mg mb "made_array" (.glob (.ref 373)):=fun hx=>eTop hx (by k_is) rfl
theorem k_made_array:keepIn (ka.heap_1 w.params) (.ref 373)=true:=by k_is
theorem g_made_table:GN w mean mg mb "made_table" (.glob (.ref 380)):=fun hx=>eTop hx (by k_is) rfl
theorem k_made_table:keepIn (ka.heap_1 w.params) (.ref 380)=true:=by k_is
theorem g_made_data:GN w mean mg mb "made_data" (.glob (.ref 387)):=fun hx=>eTop hx (by k_is) rfl
theorem k_made_data:keepIn (ka.heap_1 w.params) (.ref 387)=true:=by k_is
theorem g_made_copy:GN w mean mg mb "made_copy" (.glob (.ref 394)):=fun hx=>eTop hx (by k_is) rfl
theorem k_made_copy:keepIn (ka.heap_1 w.params) (.ref 394)=true:=by k_is
theorem g_things_in_node:GN w mean mg mb "things_in_node" (.glob (.ref 401)):=fun hx=>eTop hx (by k_is) rfl
theorem k_things_in_node:keepIn (ka.heap_1 w.params) (.ref 401)=true:=by k_is
theorem g_things_in:GN w mean mg mb "things_in" (.glob (.ref 406)):=fun hx=>eTop hx (by k_is) rfl
theorem k_things_in:keepIn (ka.heap_1 w.params) (.ref 406)=true:=by k_is
theorem g_reach:GN w mean mg mb "reach" (.glob (.ref 413)):=fun hx=>eTop hx (by k_is) rfl
theorem k_reach:keepIn (ka.heap_1 w.params) (.ref 413)=true:=by k_is
theorem g_world_roots:GN w mean mg mb "world_roots" (.glob (.ref 418)):=fun hx=>eTop hx (by k_is) rfl
theorem k_world_roots:keepIn (ka.heap_1 w.params) (.ref 418)=true:=by k_is
theorem g_collect:GN w mean mg mb "collect" (.glob (.ref 423)):=fun hx=>eTop hx (by k_is) rfl
theorem k_collect:keepIn (ka.heap_1 w.params) (.ref 423)=true:=by k_is
theorem g_law_dipped:GN w mean mg mb "_law_dipped" (.glob (.ref 430)):=fun hx=>eTop hx (by k_is) rfl
theorem k_law_dipped:keepIn (ka.heap_1 w.params) (.ref 430)=true:=by k_is
theorem g_law_told:GN w mean mg mb "_law_told" (.glob (.ref 437)):=fun hx=>eTop hx (by k_is) rfl
theorem k_law_told:keepIn (ka.heap_1 w.params) (.ref 437)=true:=by k_is
theorem g_law_spot:GN w mean mg mb "_law_spot" (.glob (.ref 444)):=fun hx=>eTop hx (by k_is) rfl
theorem k_law_spot:keepIn (ka.heap_1 w.params) (.ref 444)=true:=by k_is
theorem g_law_done:GN w mean mg mb "_law_done" (.glob (.ref 451)):=fun hx=>eTop hx (by k_is) rfl
theorem k_law_done:keepIn (ka.heap_1 w.params) (.ref 451)=true:=by k_is
theorem g_law_led_to:GN w mean mg mb "_law_led_to" (.glob (.ref 456)):=fun hx=>eTop hx (by k_is) rfl
theorem k_law_led_to:keepIn (ka.heap_1 w.params) (.ref 456)=true:=by k_is
theorem g_law_run:GN w mean mg mb "_law_run" (.glob (.ref 461)):=fun hx=>eTop hx (by k_is) rfl
theorem k_law_run:keepIn (ka.heap_1 w.params) (.ref 461)=true:=by k_is
theorem g_FREE:GN w mean mg mb "FREE" (.int 0):=fun hx=>eTopI hx (by k_is) rfl
theorem g_REACHED:GN w mean mg mb "REACHED" (.int 1):=fun hx=>eTopI hx (by k_is) rfl
theorem g_isinstance:GN w mean mg mb "isinstance" (.glob (.builtin "isinstance")):=fun hx=>eBlt hx (by k_is) (by kernel_rfl) rfl rfl
theorem g_len:GN w mean mg mb "len" (.glob (.builtin "len")):=fun hx=>eBlt hx (by k_is) (by kernel_rfl) rfl rfl
theorem g_abs:GN w mean mg mb "abs" (.glob (.builtin "abs")):=fun hx=>eBlt hx (by k_is) (by kernel_rfl) rfl rfl
theorem g_sorted:GN w mean mg mb "sorted" (.glob (.builtin "sorted")):=fun hx=>eBlt hx (by k_is) (by kernel_rfl) rfl rfl
theorem g_ord:GN w mean mg mb "ord" (.glob (.builtin "ord")):=fun hx=>eBlt hx (by k_is) (by kernel_rfl) rfl rfl
theorem g_range:GN w mean mg mb "range" (.glob (.type "range")):=fun hx=>eBlt hx (by k_is) (by kernel_rfl) rfl rfl
theorem g_enumerate:GN w mean mg mb "enumerate" (.glob (.type "enumerate")):=fun hx=>eBlt hx (by k_is) (by kernel_rfl) rfl rfl
theorem g_zip:GN w mean mg mb "zip" (.glob (.type "zip")):=fun hx=>eBlt hx (by k_is) (by kernel_rfl) rfl rfl
theorem g_int:GN w mean mg mb "int" (.glob (.type "int")):=fun hx=>eBlt hx (by k_is) (by kernel_rfl) rfl rfl
theorem g_list:GN w mean mg mb "list" (.glob (.type "list")):=fun hx=>eBlt hx (by k_is) (by kernel_rfl) rfl rfl
theorem g_str:GN w mean mg mb "str" (.glob (.type "str")):=fun hx=>eBlt hx (by k_is) (by kernel_rfl) rfl rfl
theorem g_tuple:GN w mean mg mb "tuple" (.glob (.type "tuple")):=fun hx=>eBlt hx (by k_is) (by kernel_rfl) rfl rfl
theorem m_Pattern:makesIn (ka.heap_1 w.params) 54=true:=by k_is
theorem i_Pattern:findIn (ka.heap_1 w.params) (.ref 54) "__init__" = some (some (.ref 51)):=by k_is
theorem f_Pattern:isFn (ka.heap_1 w.params) (.ref 51)=true:=by k_is
theorem m_NameRef:makesIn (ka.heap_1 w.params) 117=true:=by k_is
theorem i_NameRef:findIn (ka.heap_1 w.params) (.ref 117) "__init__" = some (some (.ref 114)):=by k_is
theorem f_NameRef:isFn (ka.heap_1 w.params) (.ref 114)=true:=by k_is
theorem m_Array:makesIn (ka.heap_1 w.params) 208=true:=by k_is
theorem i_Array:findIn (ka.heap_1 w.params) (.ref 208) "__init__" = some (some (.ref 205)):=by k_is
theorem f_Array:isFn (ka.heap_1 w.params) (.ref 205)=true:=by k_is
theorem m_Table:makesIn (ka.heap_1 w.params) 227=true:=by k_is
theorem i_Table:findIn (ka.heap_1 w.params) (.ref 227) "__init__" = some (some (.ref 224)):=by k_is
theorem f_Table:isFn (ka.heap_1 w.params) (.ref 224)=true:=by k_is
theorem m_Data:makesIn (ka.heap_1 w.params) 246=true:=by k_is
theorem i_Data:findIn (ka.heap_1 w.params) (.ref 246) "__init__" = some (some (.ref 243)):=by k_is
theorem f_Data:isFn (ka.heap_1 w.params) (.ref 243)=true:=by k_is
theorem m_World:makesIn (ka.heap_1 w.params) 348=true:=by k_is
theorem i_World:findIn (ka.heap_1 w.params) (.ref 348) "__init__" = some (some (.ref 345)):=by k_is
theorem f_World:isFn (ka.heap_1 w.params) (.ref 345)=true:=by k_is
theorem k_Holder_init:keepIn (ka.heap_1 w.params) (.ref 135)=true:=by k_is
theorem u_1:specialIn (ka.heap_1 w.params) (.ref 138) "__getattribute__" = some (some (.builtin "type.__getattribute__")):=by k_is
theorem u_2:typeIn (ka.heap_1 w.params) (.ref 138)=some (.type "type"):=by k_is
theorem u_3:readsIn (ka.heap_1 w.params) 138 (.type "type")=true:=by k_is
theorem u_4:findCls (ka.heap_1 w.params) (.ref 138) (.type "type") "__init__" = some (.val (.ref 135)):=by k_is
end
section
variable {w:World} {mean:ExcName->Option Value} {mg mb:Str->Option Value} {nms:Names} {lv:Nat} {pos:Pos}
theorem kf_Pattern___init___Nam:Challenge.rw_sa0597_01.row.prog=Challenge.rw_sa0597_01.row.prog/\ka.heap_1=ka.heap_1:=by
 k_fill
 exact ⟨rfl,rfl⟩
noncomputable def d_Pattern_init:FnS:=(sSeq (sSetA (inT tS) "node" (rdL "node") (rdL "self")) sSkip)
theorem c_Pattern_init:Con (mdl w mean mg mb) 1 51 (runB ["self","node"] [] d_Pattern_init):=by
 refine con_at (by k_is) (by k_is) (bind2 fun a b s=>rfl) rfl (by decide +kernel) rfl rfl rfl (by decide) ?_
 exact sC (SimS1.setA sOk eL eL) sN
noncomputable def d_NameRef_init:FnS:=(sSeq (sSetA (inT tS) "kind" (rdL "kind") (rdL "self")) (sSeq (sSetA (inT tS) "owner" (rdL "owner") (rdL "self")) (sSeq (sSetA (inT tS) "key" (rdL "key") (rdL "self")) sSkip)))
theorem c_NameRef_init:Con (mdl w mean mg mb) 1 114 (runB ["self","kind","owner","key"] [] d_NameRef_init):=by
 refine con_at (by k_is) (by k_is) (bind4 fun a b c d s=>rfl) rfl (by decide +kernel) rfl rfl rfl (by decide) ?_
 exact sC (SimS1.setA sOk eL eL) (sC (SimS1.setA sOk eL eL) (sC (SimS1.setA sOk eL eL) sN))
noncomputable def d_Holder_init:FnS:=(sSeq (sSetA (inT tS) "word" (rdL "word") (rdL "self")) (sSeq (sSetA (inT tS) "number" (rdL "number") (rdL "self")) (sSeq (sSetA (inT tS) "mark" (cst (.int 0)) (rdL "self")) sSkip)))
theorem c_Holder_init:Con (mdl w mean mg mb) 1 135 (runB ["self","word","number"] [] d_Holder_init):=by
 refine con_at (by k_is) (by k_is) (bind3 fun a b c s=>rfl) rfl (by decide +kernel) rfl rfl rfl (by decide) ?_
 exact sC (SimS1.setA sOk eL eL) (sC (SimS1.setA sOk eL eL) (sC (SimS1.setA sOk SimE.int eL) sN))
noncomputable def d_kind_of:FnS:=(sSeq (sIf (vB (callF (isiA isT) (esCons (rdL "value") (esCons (cst (.glob (.type "str"))) esNil)))) (sSeq (sRet (cst (.str "STRING"))) sSkip) sSkip) (sSeq (sIf (vB (callF (isiA isT) (esCons (rdL "value") (esCons (cst (.glob (.type "int"))) esNil)))) (sSeq (sRet (cst (.str "INTEGER"))) sSkip) sSkip) (sSeq (sIf (vB (callF (isiA isT) (esCons (rdL "value") (esCons (cst (.glob (.ref 54))) esNil)))) (sSeq (sRet (cst (.str "PATTERN"))) sSkip) sSkip) (sSeq (sIf (vB (callF (isiA isT) (esCons (rdL "value") (esCons (cst (.glob (.ref 138))) esNil)))) (sSeq (sRet (aF "word" (rdL "value"))) sSkip) sSkip) (sSeq (sIf (vB (callF (isiA isT) (esCons (rdL "value") (esCons (cst (.glob (.ref 117))) esNil)))) (sSeq (sRet (cst (.str "NAME"))) sSkip) sSkip) (sSeq (sIf (vB (callF (isiA isT) (esCons (rdL "value") (esCons (cst (.glob (.ref 75))) esNil)))) (sSeq (sRet (cst (.str "EXPRESSION"))) sSkip) sSkip) (sSeq (sRet (ifF (vB (callF (isiA isT) (esCons (rdL "value") (esCons (cst (.glob (.ref 96))) esNil)))) (cst (.str "CODE")) (cst (.str "EXTERNAL")))) sSkip)))))))
theorem c_kind_of:Con (mdl w mean mg mb) 1 149 (runB ["value"] [] d_kind_of):=by
 refine con_at (by k_is) (by k_is) (bind1 fun a s=>rfl) rfl (by decide +kernel) rfl rfl rfl (by decide) ?_
 exact sC (SimS1.if (xVal (cB (g_isinstance rfl) (SimC.isi iOk) (eC eL (eC (g_str rfl) eN)))) (sC (SimS1.ret SimE.str) sN) sN) (sC (SimS1.if (xVal (cB (g_isinstance rfl) (SimC.isi iOk) (eC eL (eC (g_int rfl) eN)))) (sC (SimS1.ret SimE.str) sN) sN) (sC (SimS1.if (xVal (cB (g_isinstance rfl) (SimC.isi iOk) (eC eL (eC (g_Pattern rfl) eN)))) (sC (SimS1.ret SimE.str) sN) sN) (sC (SimS1.if (xVal (cB (g_isinstance rfl) (SimC.isi iOk) (eC eL (eC (g_Holder rfl) eN)))) (sC (SimS1.ret (xAttr eL)) sN) sN) (sC (SimS1.if (xVal (cB (g_isinstance rfl) (SimC.isi iOk) (eC eL (eC (g_NameRef rfl) eN)))) (sC (SimS1.ret SimE.str) sN) sN) (sC (SimS1.if (xVal (cB (g_isinstance rfl) (SimC.isi iOk) (eC eL (eC (g_Delayed rfl) eN)))) (sC (SimS1.ret SimE.str) sN) sN) (sC (SimS1.ret (SimE.ifE (xVal (cB (g_isinstance rfl) (SimC.isi iOk) (eC eL (eC (g_Code rfl) eN)))) SimE.str SimE.str)) sN))))))
noncomputable def d_is_plain:FnS:=(sSeq (sRet (callF (isiA isT) (esCons (rdL "value") (esCons (tupF (esCons (cst (.glob (.type "str"))) (esCons (cst (.glob (.type "int"))) esNil))) esNil)))) sSkip)
theorem c_is_plain:Con (mdl w mean mg mb) 1 156 (runB ["value"] [] d_is_plain):=by
 refine con_at (by k_is) (by k_is) (bind1 fun a s=>rfl) rfl (by decide +kernel) rfl rfl rfl (by decide) ?_
 exact sC (SimS1.ret (cB (g_isinstance rfl) (SimC.isi iOk) (eC eL (eC (SimE.tup (eC (g_str rfl) (eC (g_int rfl) eN))) eN)))) sN
noncomputable def d_fits:FnS:=(sSeq (sRet (bV (chainF (negF (binF (cst (.int 1)) (binF (rdL "width") (cst (.int 1)) subA) shlA)) (rdL "number") (binF (cst (.int 1)) (binF (rdL "width") (cst (.int 1)) subA) shlA) leK ltK))) sSkip)
theorem c_fits:Con (mdl w mean mg mb) 1 163 (runB ["number","width"] [] d_fits):=by
 refine con_at (by k_is) (by k_is) (bind2 fun a b s=>rfl) rfl (by decide +kernel) rfl rfl rfl (by decide) ?_
 exact sC (SimS1.ret (xChain (xNeg (xBin SimE.int (xBin eL SimE.int SimO.sub) SimO.shl)) eL (xBin SimE.int (xBin eL SimE.int SimO.sub) SimO.shl) SimK.le SimK.lt)) sN
noncomputable def d_whole_of_text:FnS:=(sSeq (sIf (cmpF (rdL "text") (cst (.str "")) eqK) (sSeq (sRet (cst (.int 0))) sSkip) sSkip) (sSeq (sAsg "digits" (ifF (cmpF (subF (rdL "text") (cst (.int 0))) (cst (.str "+-")) inA) eNo (rdL "text"))) (sSeq (sIf (orF (cmpF (rdL "digits") (cst (.str "")) eqK) (orF (cmpF (callF lenC (esCons (rdL "digits") esNil)) (rdL "width") gtK) tF)) (sSeq (sRet (cst .none)) sSkip) sSkip) (sSeq (sAsg "number" (cst (.int 0))) (sSeq (sFor NN (iStr (rdL "digits")) (aName "sign") (sSeq (sIf (notF (chainF (cst (.str "0")) (rdL "sign") (cst (.str "9")) leK leK)) (sSeq (sRet (cst .none)) sSkip) sSkip) (sSeq (sAsg "number" (binF (binF (binF (cst (.int 10)) (rdL "number") mulA) (callF ordC (esCons (rdL "sign") esNil)) addA) (cst (.int 48)) subA)) sSkip))) (sSeq (sAsg "number" (ifF (cmpF (subF (rdL "text") (cst (.int 0))) (cst (.str "-")) eqK) (negF (rdL "number")) (rdL "number"))) (sSeq (sRet (ifF (vB (callF (runB ["number","width"] [] d_fits) (esCons (rdL "number") (esCons (rdL "width") esNil)))) (rdL "number") (cst .none))) sSkip)))))))
theorem c_whole_of_text:Con (mdl w mean mg mb) 2 170 (runB ["text","width"] [] d_whole_of_text):=by
 refine con_at (by k_is) (by k_is) (bind2 fun a b s=>rfl) rfl (by decide +kernel) rfl rfl rfl (by decide) ?_
 exact sC (SimS1.if (SimB.cmp eL SimE.str SimK.eq) (sC (SimS1.ret SimE.int) sN) sN) (sC (SimS1.asg (SimE.ifE (SimB.cmp (SimE.sub eL SimE.int) SimE.str SimK.in) SimE.stop eL) (.inl rfl)) (sC (SimS1.if (SimBW.toB (SimBW.or (SimB.cmp eL SimE.str SimK.eq) (SimBW.or (SimB.cmp (cB (g_len rfl) SimC.len (eC eL eN)) eL SimK.gt) SimBW.orNil))) (sC (SimS1.ret SimE.none) sN) sN) (sC (SimS1.asg SimE.int (.inl rfl)) (sC (SimS1.for (SimI.str eL) (SimA.name (.inl rfl)) (sC (SimS1.if (SimB.not (SimB.chain SimE.str eL SimE.str SimK.le SimK.le)) (sC (SimS1.ret SimE.none) sN) sN) (sC (SimS1.asg (xBin (xBin (xBin SimE.int eL SimO.mul) (cB (g_ord rfl) SimC.ord (eC eL eN)) SimO.add) SimE.int SimO.sub) (.inl rfl)) sN))) (sC (SimS1.asg (SimE.ifE (SimB.cmp (SimE.sub eL SimE.int) SimE.str SimK.eq) (xNeg eL) eL) (.inl rfl)) (sC (SimS1.ret (SimE.ifE (xVal (cK (g_fits rfl) k_fits (fN c_fits) (eC eL (eC eL eN)))) eL SimE.none)) sN))))))
noncomputable def d_to_whole:FnS:=(sSeq (sIf (vB (callF (isiA isT) (esCons (rdL "value") (esCons (cst (.glob (.type "int"))) esNil)))) (sSeq (sRet (rdL "value")) sSkip) sSkip) (sSeq (sRet (ifF (vB (callF (isiA isT) (esCons (rdL "value") (esCons (cst (.glob (.type "str"))) esNil)))) (callF (runB ["text","width"] [] d_whole_of_text) (esCons (rdL "value") (esCons (rdL "width") esNil))) (cst .none))) sSkip))
theorem c_to_whole:Con (mdl w mean mg mb) 3 177 (runB ["value","width"] [] d_to_whole):=by
 refine con_at (by k_is) (by k_is) (bind2 fun a b s=>rfl) rfl (by decide +kernel) rfl rfl rfl (by decide) ?_
 exact sC (SimS1.if (xVal (cB (g_isinstance rfl) (SimC.isi iOk) (eC eL (eC (g_int rfl) eN)))) (sC (SimS1.ret eL) sN) sN) (sC (SimS1.ret (SimE.ifE (xVal (cB (g_isinstance rfl) (SimC.isi iOk) (eC eL (eC (g_str rfl) eN)))) (cK (g_whole_of_text rfl) k_whole_of_text (fN c_whole_of_text) (eC eL (eC eL eN))) SimE.none)) sN)
noncomputable def d_need_whole:FnS:=(sSeq (sAsg "number" (callF (runB ["value","width"] [] d_to_whole) (esCons (rdL "value") (esCons (rdL "width") esNil)))) (sSeq (sIf (cmpF (rdL "number") (cst .none) isK) (sSeq sNo sSkip) sSkip) (sSeq (sRet (rdL "number")) sSkip)))
theorem c_need_whole:Con (mdl w mean mg mb) 4 184 (runB ["value","width"] [] d_need_whole):=by
 refine con_at (by k_is) (by k_is) (bind2 fun a b s=>rfl) rfl (by decide +kernel) rfl rfl rfl (by decide) ?_
 exact sC (SimS1.asg (cK (g_to_whole rfl) k_to_whole (fN c_to_whole) (eC eL (eC eL eN))) (.inl rfl)) (sC (SimS1.if (SimB.cmp eL SimE.none SimK.is) (sC SimS1.raise sN) sN) (sC (SimS1.ret eL) sN))
noncomputable def d_table_key:FnS:=(sSeq (sAsg "kind" (callF (runB ["value"] [] d_kind_of) (esCons (rdL "value") esNil))) (sSeq (sIf (vB (callF (runB ["value"] [] d_is_plain) (esCons (rdL "value") esNil))) (sSeq (sRet (tupF (esCons (rdL "kind") (esCons (rdL "value") esNil)))) sSkip) sSkip) (sSeq (sIf (vB (callF (isiA isT) (esCons (rdL "value") (esCons (cst (.glob (.ref 138))) esNil)))) (sSeq (sRet (tupF (esCons (cst (.str "HOLDER")) (esCons (aF "number" (rdL "value")) esNil)))) sSkip) sSkip) (sSeq (sIf (vB (callF (isiA isT) (esCons (rdL "value") (esCons (cst (.glob (.ref 117))) esNil)))) (sSeq (sRet (tupF (esCons (cst (.str "NAME")) (esCons (aF "kind" (rdL "value")) (esCons (ifF (cmpF (aF "owner" (rdL "value")) (cst .none) isK) (cst (.int 0)) (aF "number" (aF "owner" (rdL "value")))) (esCons (aF "key" (rdL "value")) esNil)))))) sSkip) sSkip) (sSeq sNo sSkip)))))
theorem c_table_key:Con (mdl w mean mg mb) 2 191 (runB ["value"] [] d_table_key):=by
 refine con_at (by k_is) (by k_is) (bind1 fun a s=>rfl) rfl (by decide +kernel) rfl rfl rfl (by decide) ?_
 exact sC (SimS1.asg (cK (g_kind_of rfl) k_kind_of (fN c_kind_of) (eC eL eN)) (.inl rfl)) (sC (SimS1.if (xVal (cK (g_is_plain rfl) k_is_plain (fN c_is_plain) (eC eL eN))) (sC (SimS1.ret (SimE.tup (eC eL (eC eL eN)))) sN) sN) (sC (SimS1.if (xVal (cB (g_isinstance rfl) (SimC.isi iOk) (eC eL (eC (g_Holder rfl) eN)))) (sC (SimS1.ret (SimE.tup (eC SimE.str (eC (xAttr eL) eN)))) sN) sN) (sC (SimS1.if (xVal (cB (g_isinstance rfl) (SimC.isi iOk) (eC eL (eC (g_NameRef rfl) eN)))) (sC (SimS1.ret (SimE.tup (eC SimE.str (eC (xAttr eL) (eC (SimE.ifE (SimB.cmp (xAttr eL) SimE.none SimK.is) SimE.int (xAttr (xAttr eL))) (eC (xAttr eL) eN)))))) sN) sN) (sC SimS1.raise sN))))
noncomputable def d_size_of_bounds:FnS:=(sSeq (sAsg "found" (cst (.int 1))) (sSeq (sFor NN (iList (rdL "bounds")) (aPair (aName "low") (aName "high")) (sSeq (sAsg "found" (binF (rdL "found") (binF (binF (rdL "high") (rdL "low") subA) (cst (.int 1)) addA) mulA)) sSkip)) (sSeq (sRet (rdL "found")) sSkip)))
theorem c_size_of_bounds:Con (mdl w mean mg mb) 1 269 (runB ["bounds"] [] d_size_of_bounds):=by
 refine con_at (by k_is) (by k_is) (bind1 fun a s=>rfl) rfl (by decide +kernel) rfl rfl rfl (by decide) ?_
 exact sC (SimS1.asg SimE.int (.inl rfl)) (sC (SimS1.for (SimI.list eL) (SimA.pair (SimA.name (.inl rfl)) (SimA.name (.inl rfl))) (sC (SimS1.asg (xBin eL (xBin (xBin eL eL SimO.sub) SimE.int SimO.add) SimO.mul) (.inl rfl)) sN)) (sC (SimS1.ret eL) sN))
end
section
variable {w:World} {mean:ExcName->Option Value} {mg mb:Str->Option Value} {nms:Names} {lv:Nat} {pos:Pos}
theorem kf_Array___init___Table:Challenge.rw_sa0597_01.row.prog=Challenge.rw_sa0597_01.row.prog/\ka.heap_1=ka.heap_1:=by
 k_fill
 exact ⟨rfl,rfl⟩
noncomputable def d_Array_init:FnS:=(sSeq (sExpr (callF (runB ["self","word","number"] [] d_Holder_init) (esCons (rdL "self") (esCons (cst (.str "ARRAY")) (esCons (rdL "number") esNil))))) (sSeq (sSetA (inT tS) "told" (rdL "told") (rdL "self")) (sSeq (sSetA (inT tS) "bounds" (rdL "bounds") (rdL "self")) (sSeq (sSetA (inT tS) "items" (binF (listF (esCons (rdL "value") esNil)) (callF (runB ["bounds"] [] d_size_of_bounds) (esCons (rdL "bounds") esNil)) mulA) (rdL "self")) sSkip))))
theorem c_Array_init:Con (mdl w mean mg mb) 2 205 (runB ["self","number","told","bounds","value"] [] d_Array_init):=by
 refine con_at (by k_is) (by k_is) (bind5 fun a b c d e s=>rfl) rfl (by decide +kernel) rfl rfl rfl (by decide) ?_
 exact sC (SimS1.expr (SimE.callU (g_Holder rfl) (fN c_Holder_init) (eC eL (eC SimE.str (eC eL eN))) rfl k_Holder_init u_1 u_2 u_3 u_4 rfl (by intro _; rfl))) (sC (SimS1.setA sOk eL eL) (sC (SimS1.setA sOk eL eL) (sC (SimS1.setA sOk (xBin (SimE.list (eC eL eN)) (cK (g_size_of_bounds rfl) k_size_of_bounds (fN c_size_of_bounds) (eC eL eN)) SimO.mul) eL) sN)))
noncomputable def d_Table_init:FnS:=(sSeq (sExpr (callF (runB ["self","word","number"] [] d_Holder_init) (esCons (rdL "self") (esCons (cst (.str "TABLE")) (esCons (rdL "number") esNil))))) (sSeq (sSetA (inT tS) "entries" dict0F (rdL "self")) (sSeq (sSetA (inT tS) "places" dict0F (rdL "self")) (sSeq (sSetA (inT tS) "rows" (listF esNil) (rdL "self")) sSkip))))
theorem c_Table_init:Con (mdl w mean mg mb) 2 224 (runB ["self","number"] [] d_Table_init):=by
 refine con_at (by k_is) (by k_is) (bind2 fun a b s=>rfl) rfl (by decide +kernel) rfl rfl rfl (by decide) ?_
 exact sC (SimS1.expr (SimE.callU (g_Holder rfl) (fN c_Holder_init) (eC eL (eC SimE.str (eC eL eN))) rfl k_Holder_init u_1 u_2 u_3 u_4 rfl (by intro _; rfl))) (sC (SimS1.setA sOk SimE.dict0 eL) (sC (SimS1.setA sOk SimE.dict0 eL) (sC (SimS1.setA sOk (SimE.list eN) eL) sN)))
noncomputable def d_Data_init:FnS:=(sSeq (sExpr (callF (runB ["self","word","number"] [] d_Holder_init) (esCons (rdL "self") (esCons (rdL "word") (esCons (rdL "number") esNil))))) (sSeq (sSetA (inT tS) "fields" (rdL "fields") (rdL "self")) (sSeq (sSetA (inT tS) "values" (rdL "values") (rdL "self")) sSkip)))
theorem c_Data_init:Con (mdl w mean mg mb) 2 243 (runB ["self","number","word","fields","values"] [] d_Data_init):=by
 refine con_at (by k_is) (by k_is) (bind5 fun a b c d e s=>rfl) rfl (by decide +kernel) rfl rfl rfl (by decide) ?_
 exact sC (SimS1.expr (SimE.callU (g_Holder rfl) (fN c_Holder_init) (eC eL (eC eL (eC eL eN))) rfl k_Holder_init u_1 u_2 u_3 u_4 rfl (by intro _; rfl))) (sC (SimS1.setA sOk eL eL) (sC (SimS1.setA sOk eL eL) sN))
noncomputable def d_whole_in:FnS:=(sSeq (sAsg "found" (ifF (cmpF (rdL "text") (cst (.str "")) eqK) (cst .none) (callF (runB ["text","width"] [] d_whole_of_text) (esCons (rdL "text") (esCons (rdL "width") esNil))))) (sSeq (sIf (cmpF (rdL "found") (cst .none) isK) (sSeq sNo sSkip) sSkip) (sSeq (sRet (rdL "found")) sSkip)))
theorem c_whole_in:Con (mdl w mean mg mb) 3 255 (runB ["text","width"] [] d_whole_in):=by
 refine con_at (by k_is) (by k_is) (bind2 fun a b s=>rfl) rfl (by decide +kernel) rfl rfl rfl (by decide) ?_
 exact sC (SimS1.asg (SimE.ifE (SimB.cmp eL SimE.str SimK.eq) SimE.none (cK (g_whole_of_text rfl) k_whole_of_text (fN c_whole_of_text) (eC eL (eC eL eN)))) (.inl rfl)) (sC (SimS1.if (SimB.cmp eL SimE.none SimK.is) (sC SimS1.raise sN) sN) (sC (SimS1.ret eL) sN))
noncomputable def d_read_bounds:FnS:=(sSeq (sAsg "found" (listF esNil)) (sSeq (sFor NN (iList (methSF splitC (rdL "text") (esCons (cst (.str ",")) esNil))) (aName "part") (sSeq (sAsg "ends" (methSF splitC (rdL "part") (esCons (cst (.str ":")) esNil))) (sSeq (sIf (cmpF (callF lenC (esCons (rdL "ends") esNil)) (cst (.int 2)) gtK) (sSeq sNo sSkip) sSkip) (sSeq (sAsg "low" (ifF (cmpF (callF lenC (esCons (rdL "ends") esNil)) (cst (.int 2)) eqK) (callF (runB ["text","width"] [] d_whole_in) (esCons (subF (rdL "ends") (cst (.int 0))) (esCons (rdL "width") esNil))) (cst (.int 1)))) (sSeq (sAsg "high" (callF (runB ["text","width"] [] d_whole_in) (esCons (subF (rdL "ends") (negF (cst (.int 1)))) (esCons (rdL "width") esNil)))) (sSeq (sIf (cmpF (rdL "high") (rdL "low") ltK) (sSeq sNo sSkip) sSkip) (sSeq (sExpr (methF appendC (rdL "found") (esCons (tupF (esCons (rdL "low") (esCons (rdL "high") esNil))) esNil))) sSkip))))))) (sSeq (sRet (rdL "found")) sSkip)))
theorem c_read_bounds:Con (mdl w mean mg mb) 4 262 (runB ["text","width"] [] d_read_bounds):=by
 refine con_at (by k_is) (by k_is) (bind2 fun a b s=>rfl) rfl (by decide +kernel) rfl rfl rfl (by decide) ?_
 exact sC (SimS1.asg (SimE.list eN) (.inl rfl)) (sC (SimS1.for (SimI.list (SimE.methS eL (eC SimE.str eN) SimC.split rfl)) (SimA.name (.inl rfl)) (sC (SimS1.asg (SimE.methS eL (eC SimE.str eN) SimC.split rfl) (.inl rfl)) (sC (SimS1.if (SimB.cmp (cB (g_len rfl) SimC.len (eC eL eN)) SimE.int SimK.gt) (sC SimS1.raise sN) sN) (sC (SimS1.asg (SimE.ifE (SimB.cmp (cB (g_len rfl) SimC.len (eC eL eN)) SimE.int SimK.eq) (cK (g_whole_in rfl) k_whole_in (fN c_whole_in) (eC (SimE.sub eL SimE.int) (eC eL eN))) SimE.int) (.inl rfl)) (sC (SimS1.asg (cK (g_whole_in rfl) k_whole_in (fN c_whole_in) (eC (SimE.sub eL (xNeg SimE.int)) (eC eL eN))) (.inl rfl)) (sC (SimS1.if (SimB.cmp eL eL SimK.lt) (sC SimS1.raise sN) sN) (sC (SimS1.expr (SimE.methL PySem.F.slot_list_append PySem.F.type_list_append eL (eC (SimE.tup (eC eL (eC eL eN))) eN) SimC.append rfl)) sN))))))) (sC (SimS1.ret eL) sN))
noncomputable def d_array_place:FnS:=(sSeq (sIf (cmpF (callF lenC (esCons (rdL "places") esNil)) (callF lenC (esCons (aF "bounds" (rdL "array")) esNil)) neK) (sSeq sNo sSkip) sSkip) (sSeq (sAsg "found" (cst (.int 0))) (sSeq (sFor NN (iCall zipG (esCons (aF "bounds" (rdL "array")) (esCons (rdL "places") esNil))) (aPair (aPair (aName "low") (aName "high")) (aName "place")) (sSeq (sIf (notF (chainF (rdL "low") (rdL "place") (rdL "high") leK leK)) (sSeq (sRet (cst .none)) sSkip) sSkip) (sSeq (sAsg "found" (binF (binF (binF (rdL "found") (binF (binF (rdL "high") (rdL "low") subA) (cst (.int 1)) addA) mulA) (rdL "place") addA) (rdL "low") subA)) sSkip))) (sSeq (sRet (rdL "found")) sSkip))))
theorem c_array_place:Con (mdl w mean mg mb) 1 276 (runB ["array","places"] [] d_array_place):=by
 refine con_at (by k_is) (by k_is) (bind2 fun a b s=>rfl) rfl (by decide +kernel) rfl rfl rfl (by decide) ?_
 exact sC (SimS1.if (SimB.cmp (cB (g_len rfl) SimC.len (eC eL eN)) (cB (g_len rfl) SimC.len (eC (xAttr eL) eN)) SimK.ne) (sC SimS1.raise sN) sN) (sC (SimS1.asg SimE.int (.inl rfl)) (sC (SimS1.for (SimI.call (g_zip rfl) SimCI.zip (eC (xAttr eL) (eC eL eN)) rfl) (SimA.pair (SimA.pair (SimA.name (.inl rfl)) (SimA.name (.inl rfl))) (SimA.name (.inl rfl))) (sC (SimS1.if (SimB.not (SimB.chain eL eL eL SimK.le SimK.le)) (sC (SimS1.ret SimE.none) sN) sN) (sC (SimS1.asg (xBin (xBin (xBin eL (xBin (xBin eL eL SimO.sub) SimE.int SimO.add) SimO.mul) eL SimO.add) eL SimO.sub) (.inl rfl)) sN))) (sC (SimS1.ret eL) sN)))
noncomputable def d_put_entry:FnS:=(sSeq (sPut (callF lenC (esCons (aF "rows" (rdL "table")) esNil)) (aF "places" (rdL "table")) (rdL "mark")) (sSeq (sPut (rdL "pair") (aF "entries" (rdL "table")) (rdL "mark")) (sSeq (sExpr (methF appendC (aF "rows" (rdL "table")) (esCons (rdL "pair") esNil))) sSkip)))
theorem c_put_entry:Con (mdl w mean mg mb) 1 290 (runB ["table","mark","pair"] [] d_put_entry):=by
 refine con_at (by k_is) (by k_is) (bind3 fun a b c s=>rfl) rfl (by decide +kernel) rfl rfl rfl (by decide) ?_
 exact sC (SimS1.put (cB (g_len rfl) SimC.len (eC (xAttr eL) eN)) (xAttr eL) eL) (sC (SimS1.put eL (xAttr eL) eL) (sC (SimS1.expr (SimE.methL PySem.F.slot_list_append PySem.F.type_list_append (xAttr eL) (eC eL eN) SimC.append rfl)) sN))
noncomputable def d_table_entry:FnS:=(sSeq (sAsg "mark" (callF (runB ["value"] [] d_table_key) (esCons (rdL "key") esNil))) (sSeq (sIf (cmpF (rdL "mark") (aF "entries" (rdL "table")) notInA) (sSeq (sExpr (callF (runB ["table","mark","pair"] [] d_put_entry) (esCons (rdL "table") (esCons (rdL "mark") (esCons (listF (esCons (rdL "key") (esCons (cst (.str "")) esNil))) esNil))))) sSkip) sSkip) (sSeq (sRet (subF (aF "entries" (rdL "table")) (rdL "mark"))) sSkip)))
theorem c_table_entry:Con (mdl w mean mg mb) 3 283 (runB ["table","key"] [] d_table_entry):=by
 refine con_at (by k_is) (by k_is) (bind2 fun a b s=>rfl) rfl (by decide +kernel) rfl rfl rfl (by decide) ?_
 exact sC (SimS1.asg (cK (g_table_key rfl) k_table_key (fN c_table_key) (eC eL eN)) (.inl rfl)) (sC (SimS1.if (SimB.cmp eL (xAttr eL) SimK.notIn) (sC (SimS1.expr (cK (g_put_entry rfl) k_put_entry (fN c_put_entry) (eC eL (eC eL (eC (SimE.list (eC eL (eC SimE.str eN))) eN))))) sN) sN) (sC (SimS1.ret (SimE.sub (xAttr eL) eL)) sN))
noncomputable def d_item_ref:FnS:=(sSeq (sIf (vB (callF (isiA isT) (esCons (rdL "owner") (esCons (cst (.glob (.ref 208))) esNil)))) (sSeq (sAsg "place" (callF (runB ["array","places"] [] d_array_place) (esCons (rdL "owner") (esCons (compF NN (iList (rdL "keys")) ["width"] (aName "key") tT (callF (runB ["value","width"] [] d_need_whole) (esCons (rdL "key") (esCons (rdL "width") esNil)))) esNil)))) (sSeq (sRet (ifF (cmpF (rdL "place") (cst .none) isK) (cst .none) (callF (clsF 117 (runB ["self","kind","owner","key"] [] d_NameRef_init)) (esCons (cst (.str "item")) (esCons (rdL "owner") (esCons (rdL "place") esNil)))))) sSkip)) sSkip) (sSeq (sIf (orF (notF (vB (callF (isiA isT) (esCons (rdL "owner") (esCons (cst (.glob (.ref 227))) esNil))))) (orF (cmpF (callF lenC (esCons (rdL "keys") esNil)) (cst (.int 1)) neK) tF)) (sSeq sNo sSkip) sSkip) (sSeq (sExpr (callF (runB ["table","key"] [] d_table_entry) (esCons (rdL "owner") (esCons (subF (rdL "keys") (cst (.int 0))) esNil)))) (sSeq (sRet (callF (clsF 117 (runB ["self","kind","owner","key"] [] d_NameRef_init)) (esCons (cst (.str "item")) (esCons (rdL "owner") (esCons (subF (aF "places" (rdL "owner")) (callF (runB ["value"] [] d_table_key) (esCons (subF (rdL "keys") (cst (.int 0))) esNil))) esNil))))) sSkip))))
theorem c_item_ref:Con (mdl w mean mg mb) 5 295 (runB ["owner","keys","width"] [] d_item_ref):=by
 refine con_at (by k_is) (by k_is) (bind3 fun a b c s=>rfl) rfl (by decide +kernel) rfl rfl rfl (by decide) ?_
 exact sC (SimS1.if (xVal (cB (g_isinstance rfl) (SimC.isi iOk) (eC eL (eC (g_Array rfl) eN)))) (sC (SimS1.asg (cK (g_array_place rfl) k_array_place (fN c_array_place) (eC eL (eC (SimE.ofL (compo1 (SimI.list eL) (SimA.name (.inl rfl)) SimF.nil (cK (g_need_whole rfl) k_need_whole (fN c_need_whole) (eC eL (eC eK eN))) rfl rfl rfl)) eN))) (.inl rfl)) (sC (SimS1.ret (SimE.ifE (SimB.cmp eL SimE.none SimK.is) SimE.none (cK (g_NameRef rfl) k_NameRef (SimC.cls c_NameRef_init (by decide) m_NameRef i_NameRef f_NameRef) (eC SimE.str (eC eL (eC eL eN)))))) sN)) sN) (sC (SimS1.if (SimBW.toB (SimBW.or (SimB.not (xVal (cB (g_isinstance rfl) (SimC.isi iOk) (eC eL (eC (g_Table rfl) eN))))) (SimBW.or (SimB.cmp (cB (g_len rfl) SimC.len (eC eL eN)) SimE.int SimK.ne) SimBW.orNil))) (sC SimS1.raise sN) sN) (sC (SimS1.expr (cK (g_table_entry rfl) k_table_entry (fN c_table_entry) (eC eL (eC (SimE.sub eL SimE.int) eN)))) (sC (SimS1.ret (cK (g_NameRef rfl) k_NameRef (SimC.cls c_NameRef_init (by decide) m_NameRef i_NameRef f_NameRef) (eC SimE.str (eC eL (eC (SimE.sub (xAttr eL) (cK (g_table_key rfl) k_table_key (fN c_table_key) (eC (SimE.sub eL SimE.int) eN))) eN))))) sN)))
noncomputable def d_field_ref:FnS:=(sSeq (sIf (notF (vB (callF (isiA isT) (esCons (rdL "thing") (esCons (cst (.glob (.ref 246))) esNil))))) (sSeq sNo sSkip) sSkip) (sSeq (sIf (cmpF (rdL "field") (aF "fields" (rdL "thing")) notInA) (sSeq (sRet (cst .none)) sSkip) sSkip) (sSeq (sRet (callF (clsF 117 (runB ["self","kind","owner","key"] [] d_NameRef_init)) (esCons (cst (.str "field")) (esCons (rdL "thing") (esCons (methF indexC (aF "fields" (rdL "thing")) (esCons (rdL "field") esNil)) esNil))))) sSkip)))
theorem c_field_ref:Con (mdl w mean mg mb) 2 302 (runB ["thing","field"] [] d_field_ref):=by
 refine con_at (by k_is) (by k_is) (bind2 fun a b s=>rfl) rfl (by decide +kernel) rfl rfl rfl (by decide) ?_
 exact sC (SimS1.if (SimB.not (xVal (cB (g_isinstance rfl) (SimC.isi iOk) (eC eL (eC (g_Data rfl) eN))))) (sC SimS1.raise sN) sN) (sC (SimS1.if (SimB.cmp eL (xAttr eL) SimK.notIn) (sC (SimS1.ret SimE.none) sN) sN) (sC (SimS1.ret (cK (g_NameRef rfl) k_NameRef (SimC.cls c_NameRef_init (by decide) m_NameRef i_NameRef f_NameRef) (eC SimE.str (eC eL (eC (SimE.methL PySem.F.slot_list_index PySem.F.type_list_index (xAttr eL) (eC eL eN) SimC.index rfl) eN))))) sN))
noncomputable def d_slot_get:FnS:=(sSeq (sIf (vB (callF (isiA isT) (esCons (aF "owner" (rdL "ref")) (esCons (cst (.glob (.ref 208))) esNil)))) (sSeq (sRet (subF (aF "items" (aF "owner" (rdL "ref"))) (aF "key" (rdL "ref")))) sSkip) sSkip) (sSeq (sIf (vB (callF (isiA isT) (esCons (aF "owner" (rdL "ref")) (esCons (cst (.glob (.ref 227))) esNil)))) (sSeq (sRet (subF (subF (aF "rows" (aF "owner" (rdL "ref"))) (aF "key" (rdL "ref"))) (cst (.int 1)))) sSkip) sSkip) (sSeq (sRet (subF (aF "values" (aF "owner" (rdL "ref"))) (aF "key" (rdL "ref")))) sSkip)))
theorem c_slot_get:Con (mdl w mean mg mb) 1 309 (runB ["ref"] [] d_slot_get):=by
 refine con_at (by k_is) (by k_is) (bind1 fun a s=>rfl) rfl (by decide +kernel) rfl rfl rfl (by decide) ?_
 exact sC (SimS1.if (xVal (cB (g_isinstance rfl) (SimC.isi iOk) (eC (xAttr eL) (eC (g_Array rfl) eN)))) (sC (SimS1.ret (SimE.sub (xAttr (xAttr eL)) (xAttr eL))) sN) sN) (sC (SimS1.if (xVal (cB (g_isinstance rfl) (SimC.isi iOk) (eC (xAttr eL) (eC (g_Table rfl) eN)))) (sC (SimS1.ret (SimE.sub (SimE.sub (xAttr (xAttr eL)) (xAttr eL)) SimE.int)) sN) sN) (sC (SimS1.ret (SimE.sub (xAttr (xAttr eL)) (xAttr eL))) sN))
noncomputable def d_slot_set:FnS:=(sSeq (sIf (vB (callF (isiA isT) (esCons (aF "owner" (rdL "ref")) (esCons (cst (.glob (.ref 208))) esNil)))) (sSeq (sPut (rdL "value") (aF "items" (aF "owner" (rdL "ref"))) (aF "key" (rdL "ref"))) sSkip) (sSeq (sIf (vB (callF (isiA isT) (esCons (aF "owner" (rdL "ref")) (esCons (cst (.glob (.ref 227))) esNil)))) (sSeq (sPut (rdL "value") (subF (aF "rows" (aF "owner" (rdL "ref"))) (aF "key" (rdL "ref"))) (cst (.int 1))) sSkip) (sSeq (sPut (rdL "value") (aF "values" (aF "owner" (rdL "ref"))) (aF "key" (rdL "ref"))) sSkip)) sSkip)) sSkip)
theorem c_slot_set:Con (mdl w mean mg mb) 1 316 (runB ["ref","value"] [] d_slot_set):=by
 refine con_at (by k_is) (by k_is) (bind2 fun a b s=>rfl) rfl (by decide +kernel) rfl rfl rfl (by decide) ?_
 exact sC (SimS1.if (xVal (cB (g_isinstance rfl) (SimC.isi iOk) (eC (xAttr eL) (eC (g_Array rfl) eN)))) (sC (SimS1.put eL (xAttr (xAttr eL)) (xAttr eL)) sN) (sC (SimS1.if (xVal (cB (g_isinstance rfl) (SimC.isi iOk) (eC (xAttr eL) (eC (g_Table rfl) eN)))) (sC (SimS1.put eL (SimE.sub (xAttr (xAttr eL)) (xAttr eL)) SimE.int) sN) (sC (SimS1.put eL (xAttr (xAttr eL)) (xAttr eL)) sN)) sN)) sN
noncomputable def d_data_made:FnS:=(sSeq (sRet (callF (clsF 246 (runB ["self","number","word","fields","values"] [] d_Data_init)) (esCons (rdL "number") (esCons (rdL "word") (esCons (rdL "fields") (esCons (sliceF (binF (rdL "values") (binF (listF (esCons (cst (.str "")) esNil)) (callF lenC (esCons (rdL "fields") esNil)) mulA) addA) (callF lenC (esCons (rdL "fields") esNil))) esNil)))))) sSkip)
theorem c_data_made:Con (mdl w mean mg mb) 3 323 (runB ["number","word","fields","values"] [] d_data_made):=by
 refine con_at (by k_is) (by k_is) (bind4 fun a b c d s=>rfl) rfl (by decide +kernel) rfl rfl rfl (by decide) ?_
 exact sC (SimS1.ret (cK (g_Data rfl) k_Data (SimC.cls c_Data_init (by decide) m_Data i_Data f_Data) (eC eL (eC eL (eC eL (eC (SimE.slice (xBin eL (xBin (SimE.list (eC SimE.str eN)) (cB (g_len rfl) SimC.len (eC eL eN)) SimO.mul) SimO.add) (cB (g_len rfl) SimC.len (eC eL eN))) eN)))))) sN
end
section
variable {w:World} {mean:ExcName->Option Value} {mg mb:Str->Option Value} {nms:Names} {lv:Nat} {pos:Pos}
theorem kf_copy_of_next_number_:Challenge.rw_sa0597_01.row.prog=Challenge.rw_sa0597_01.row.prog/\ka.heap_1=ka.heap_1:=by
 k_fill
 exact ⟨rfl,rfl⟩
noncomputable def d_copy_of:FnS:=(sSeq (sIf (vB (callF (isiA isT) (esCons (rdL "value") (esCons (cst (.glob (.ref 208))) esNil)))) (sSeq (sAsg "found" (callF (clsF 208 (runB ["self","number","told","bounds","value"] [] d_Array_init)) (esCons (rdL "number") (esCons (aF "told" (rdL "value")) (esCons (aF "bounds" (rdL "value")) (esCons (cst (.str "")) esNil)))))) (sSeq (sSetA (inT tS) "items" (callF listC (esCons (aF "items" (rdL "value")) esNil)) (rdL "found")) (sSeq (sRet (rdL "found")) sSkip))) sSkip) (sSeq (sIf (vB (callF (isiA isT) (esCons (rdL "value") (esCons (cst (.glob (.ref 227))) esNil)))) (sSeq (sAsg "found" (callF (clsF 227 (runB ["self","number"] [] d_Table_init)) (esCons (rdL "number") esNil))) (sSeq (sFor NN (iKeys (aF "entries" (rdL "value"))) (aName "mark") (sSeq (sExpr (callF (runB ["table","mark","pair"] [] d_put_entry) (esCons (rdL "found") (esCons (rdL "mark") (esCons (callF listC (esCons (subF (aF "entries" (rdL "value")) (rdL "mark")) esNil)) esNil))))) sSkip)) (sSeq (sRet (rdL "found")) sSkip))) sSkip) (sSeq (sIf (vB (callF (isiA isT) (esCons (rdL "value") (esCons (cst (.glob (.ref 246))) esNil)))) (sSeq (sRet (callF (clsF 246 (runB ["self","number","word","fields","values"] [] d_Data_init)) (esCons (rdL "number") (esCons (aF "word" (rdL "value")) (esCons (aF "fields" (rdL "value")) (esCons (callF listC (esCons (aF "values" (rdL "value")) esNil)) esNil)))))) sSkip) sSkip) (sSeq (sRet (rdL "value")) sSkip))))
theorem c_copy_of:Con (mdl w mean mg mb) 3 330 (runB ["value","number"] [] d_copy_of):=by
 refine con_at (by k_is) (by k_is) (bind2 fun a b s=>rfl) rfl (by decide +kernel) rfl rfl rfl (by decide) ?_
 exact sC (SimS1.if (xVal (cB (g_isinstance rfl) (SimC.isi iOk) (eC eL (eC (g_Array rfl) eN)))) (sC (SimS1.asg (cK (g_Array rfl) k_Array (SimC.cls c_Array_init (by decide) m_Array i_Array f_Array) (eC eL (eC (xAttr eL) (eC (xAttr eL) (eC SimE.str eN))))) (.inl rfl)) (sC (SimS1.setA sOk (SimE.callT (g_list rfl) SimC.list (eC (xAttr eL) eN) rfl) eL) (sC (SimS1.ret eL) sN))) sN) (sC (SimS1.if (xVal (cB (g_isinstance rfl) (SimC.isi iOk) (eC eL (eC (g_Table rfl) eN)))) (sC (SimS1.asg (cK (g_Table rfl) k_Table (SimC.cls c_Table_init (by decide) m_Table i_Table f_Table) (eC eL eN)) (.inl rfl)) (sC (SimS1.for (SimI.keys (xAttr eL)) (SimA.name (.inl rfl)) (sC (SimS1.expr (cK (g_put_entry rfl) k_put_entry (fN c_put_entry) (eC eL (eC eL (eC (SimE.callT (g_list rfl) SimC.list (eC (SimE.sub (xAttr eL) eL) eN) rfl) eN))))) sN)) (sC (SimS1.ret eL) sN))) sN) (sC (SimS1.if (xVal (cB (g_isinstance rfl) (SimC.isi iOk) (eC eL (eC (g_Data rfl) eN)))) (sC (SimS1.ret (cK (g_Data rfl) k_Data (SimC.cls c_Data_init (by decide) m_Data i_Data f_Data) (eC eL (eC (xAttr eL) (eC (xAttr eL) (eC (SimE.callT (g_list rfl) SimC.list (eC (xAttr eL) eN) rfl) eN)))))) sN) sN) (sC (SimS1.ret eL) sN)))
noncomputable def d_next_number:FnS:=(sSeq (sAug (inT tG) (inT tS) "made" (rdL "world") (cst (.int 1))) (sSeq (sRet (aF "made" (rdL "world"))) sSkip))
theorem c_next_number:Con (mdl w mean mg mb) 1 359 (runB ["world"] [] d_next_number):=by
 refine con_at (by k_is) (by k_is) (bind1 fun a s=>rfl) rfl (by decide +kernel) rfl rfl rfl (by decide) ?_
 exact sC (SimS1.aug gOk sOk eL SimE.int) (sC (SimS1.ret (xAttr eL)) sN)
noncomputable def d_held:FnS:=(sSeq (sExpr (methF appendC (aF "holders" (rdL "world")) (esCons (rdL "holder") esNil))) (sSeq (sRet (rdL "holder")) sSkip))
theorem c_held:Con (mdl w mean mg mb) 1 366 (runB ["world","holder"] [] d_held):=by
 refine con_at (by k_is) (by k_is) (bind2 fun a b s=>rfl) rfl (by decide +kernel) rfl rfl rfl (by decide) ?_
 exact sC (SimS1.expr (SimE.methL PySem.F.slot_list_append PySem.F.type_list_append (xAttr eL) (eC eL eN) SimC.append rfl)) (sC (SimS1.ret eL) sN)
noncomputable def d_made_array:FnS:=(sSeq (sSwap "number" "bounds" (tupF (esCons (callF (runB ["world"] [] d_next_number) (esCons (rdL "world") esNil)) (esCons (callF (runB ["text","width"] [] d_read_bounds) (esCons (rdL "told") (esCons (aF "width" (rdL "world")) esNil))) esNil)))) (sSeq (sIf (cmpF (callF (runB ["bounds"] [] d_size_of_bounds) (esCons (rdL "bounds") esNil)) (aF "most_items" (rdL "world")) gtK) (sSeq sNo sSkip) sSkip) (sSeq (sRet (callF (runB ["world","holder"] [] d_held) (esCons (rdL "world") (esCons (callF (clsF 208 (runB ["self","number","told","bounds","value"] [] d_Array_init)) (esCons (rdL "number") (esCons (rdL "told") (esCons (rdL "bounds") (esCons (rdL "value") esNil))))) esNil)))) sSkip)))
theorem c_made_array:Con (mdl w mean mg mb) 5 373 (runB ["world","told","value"] [] d_made_array):=by
 refine con_at (by k_is) (by k_is) (bind3 fun a b c s=>rfl) rfl (by decide +kernel) rfl rfl rfl (by decide) ?_
 exact sC (SimS1.swap (SimE.tup (eC (cK (g_next_number rfl) k_next_number (fN c_next_number) (eC eL eN)) (eC (cK (g_read_bounds rfl) k_read_bounds (fN c_read_bounds) (eC eL (eC (xAttr eL) eN))) eN))) (.inl rfl) (.inl rfl) (h2:=(by rintro ⟨⟨_,_,_,_⟩,_⟩ h1 h2; cases h1; cases h2; rfl))) (sC (SimS1.if (SimB.cmp (cK (g_size_of_bounds rfl) k_size_of_bounds (fN c_size_of_bounds) (eC eL eN)) (xAttr eL) SimK.gt) (sC SimS1.raise sN) sN) (sC (SimS1.ret (cK (g_held rfl) k_held (fN c_held) (eC eL (eC (cK (g_Array rfl) k_Array (SimC.cls c_Array_init (by decide) m_Array i_Array f_Array) (eC eL (eC eL (eC eL (eC eL eN))))) eN)))) sN))
noncomputable def d_made_table:FnS:=(sSeq (sRet (callF (runB ["world","holder"] [] d_held) (esCons (rdL "world") (esCons (callF (clsF 227 (runB ["self","number"] [] d_Table_init)) (esCons (callF (runB ["world"] [] d_next_number) (esCons (rdL "world") esNil)) esNil)) esNil)))) sSkip)
theorem c_made_table:Con (mdl w mean mg mb) 3 380 (runB ["world"] [] d_made_table):=by
 refine con_at (by k_is) (by k_is) (bind1 fun a s=>rfl) rfl (by decide +kernel) rfl rfl rfl (by decide) ?_
 exact sC (SimS1.ret (cK (g_held rfl) k_held (fN c_held) (eC eL (eC (cK (g_Table rfl) k_Table (SimC.cls c_Table_init (by decide) m_Table i_Table f_Table) (eC (cK (g_next_number rfl) k_next_number (fN c_next_number) (eC eL eN)) eN)) eN)))) sN
noncomputable def d_made_data:FnS:=(sSeq (sRet (callF (runB ["world","holder"] [] d_held) (esCons (rdL "world") (esCons (callF (runB ["number","word","fields","values"] [] d_data_made) (esCons (callF (runB ["world"] [] d_next_number) (esCons (rdL "world") esNil)) (esCons (rdL "word") (esCons (rdL "fields") (esCons (rdL "values") esNil))))) esNil)))) sSkip)
theorem c_made_data:Con (mdl w mean mg mb) 4 387 (runB ["world","word","fields","values"] [] d_made_data):=by
 refine con_at (by k_is) (by k_is) (bind4 fun a b c d s=>rfl) rfl (by decide +kernel) rfl rfl rfl (by decide) ?_
 exact sC (SimS1.ret (cK (g_held rfl) k_held (fN c_held) (eC eL (eC (cK (g_data_made rfl) k_data_made (fN c_data_made) (eC (cK (g_next_number rfl) k_next_number (fN c_next_number) (eC eL eN)) (eC eL (eC eL (eC eL eN))))) eN)))) sN
noncomputable def d_made_copy:FnS:=(sSeq (sIf (notF (vB (callF (isiA isT) (esCons (rdL "value") (esCons (cst (.glob (.ref 138))) esNil))))) (sSeq (sRet (rdL "value")) sSkip) sSkip) (sSeq (sRet (callF (runB ["world","holder"] [] d_held) (esCons (rdL "world") (esCons (callF (runB ["value","number"] [] d_copy_of) (esCons (rdL "value") (esCons (callF (runB ["world"] [] d_next_number) (esCons (rdL "world") esNil)) esNil))) esNil)))) sSkip))
theorem c_made_copy:Con (mdl w mean mg mb) 4 394 (runB ["world","value"] [] d_made_copy):=by
 refine con_at (by k_is) (by k_is) (bind2 fun a b s=>rfl) rfl (by decide +kernel) rfl rfl rfl (by decide) ?_
 exact sC (SimS1.if (SimB.not (xVal (cB (g_isinstance rfl) (SimC.isi iOk) (eC eL (eC (g_Holder rfl) eN))))) (sC (SimS1.ret eL) sN) sN) (sC (SimS1.ret (cK (g_held rfl) k_held (fN c_held) (eC eL (eC (cK (g_copy_of rfl) k_copy_of (fN c_copy_of) (eC eL (eC (cK (g_next_number rfl) k_next_number (fN c_next_number) (eC eL eN)) eN))) eN)))) sN)
noncomputable def d_things_in_node:FnS:=(sSeq (sSwap "found" "waiting" (tupF (esCons (listF esNil) (esCons (listF (esCons (rdL "node") esNil)) esNil)))) (sSeq (whileA (cmpF (callF lenC (esCons (rdL "waiting") esNil)) (cst (.int 0)) gtK) (sSeq (sAsg "part" (methF popC (rdL "waiting") esNil)) (sSeq (sIf (vB (callF (isiA isT) (esCons (rdL "part") (esCons (tupF (esCons (cst (.glob (.type "tuple"))) (esCons (cst (.glob (.type "list"))) esNil))) esNil)))) (sSeq (sExpr (methF extendC (rdL "waiting") (esCons (rdL "part") esNil))) sSkip) (sSeq (sIf (vB (callF (isiA isT) (esCons (rdL "part") (esCons (tupF (esCons (cst (.glob (.ref 117))) (esCons (cst (.glob (.ref 54))) (esCons (cst (.glob (.ref 138))) esNil)))) esNil)))) (sSeq (sExpr (methF appendC (rdL "found") (esCons (rdL "part") esNil))) sSkip) sSkip) sSkip)) sSkip)) NN) (sSeq (sRet (rdL "found")) sSkip)))
theorem c_things_in_node:Con (mdl w mean mg mb) 1 401 (runB ["node"] [] d_things_in_node):=by
 refine con_at (by k_is) (by k_is) (bind1 fun a s=>rfl) rfl (by decide +kernel) rfl rfl rfl (by decide) ?_
 exact sC (SimS1.swap (SimE.tup (eC (SimE.list eN) (eC (SimE.list (eC eL eN)) eN))) (.inl rfl) (.inl rfl) (h2:=(by rintro ⟨⟨_,_,_,_⟩,_⟩ h1 h2; cases h1; cases h2; rfl))) (sC (SimS1.while (SimB.cmp (cB (g_len rfl) SimC.len (eC eL eN)) SimE.int SimK.gt) (sC (SimS1.asg (SimE.methL0 PySem.F.slot_list_pop PySem.F.type_list_pop eL SimC.pop) (.inl rfl)) (sC (SimS1.if (xVal (cB (g_isinstance rfl) (SimC.isi iOk) (eC eL (eC (SimE.tup (eC (g_tuple rfl) (eC (g_list rfl) eN))) eN)))) (sC (SimS1.expr (SimE.methL PySem.F.slot_list_extend PySem.F.type_list_extend eL (eC eL eN) SimC.extend rfl)) sN) (sC (SimS1.if (xVal (cB (g_isinstance rfl) (SimC.isi iOk) (eC eL (eC (SimE.tup (eC (g_NameRef rfl) (eC (g_Pattern rfl) (eC (g_Holder rfl) eN)))) eN)))) (sC (SimS1.expr (SimE.methL PySem.F.slot_list_append PySem.F.type_list_append eL (eC eL eN) SimC.append rfl)) sN) sN) sN)) sN))) (sC (SimS1.ret eL) sN))
noncomputable def d_things_in:FnS:=(sSeq (sIf (vB (callF (isiA isT) (esCons (rdL "value") (esCons (cst (.glob (.ref 208))) esNil)))) (sSeq (sRet (aF "items" (rdL "value"))) sSkip) sSkip) (sSeq (sIf (vB (callF (isiA isT) (esCons (rdL "value") (esCons (cst (.glob (.ref 227))) esNil)))) (sSeq (sRet (compF2 NN (iVals (aF "entries" (rdL "value"))) (aName "pair") (iList (rdL "pair")) (aName "part") (rdL "part"))) sSkip) sSkip) (sSeq (sIf (vB (callF (isiA isT) (esCons (rdL "value") (esCons (cst (.glob (.ref 246))) esNil)))) (sSeq (sRet (aF "values" (rdL "value"))) sSkip) sSkip) (sSeq (sIf (vB (callF (isiA isT) (esCons (rdL "value") (esCons (cst (.glob (.ref 117))) esNil)))) (sSeq (sRet (ifF (cmpF (aF "owner" (rdL "value")) (cst .none) isK) (listF esNil) (listF (esCons (aF "owner" (rdL "value")) esNil)))) sSkip) sSkip) (sSeq (sRet (ifF (vB (callF (isiA isT) (esCons (rdL "value") (esCons (cst (.glob (.ref 54))) esNil)))) (callF (runB ["node"] [] d_things_in_node) (esCons (aF "node" (rdL "value")) esNil)) (listF esNil))) sSkip)))))
theorem c_things_in:Con (mdl w mean mg mb) 2 406 (runB ["value"] [] d_things_in):=by
 refine con_at (by k_is) (by k_is) (bind1 fun a s=>rfl) rfl (by decide +kernel) rfl rfl rfl (by decide) ?_
 exact sC (SimS1.if (xVal (cB (g_isinstance rfl) (SimC.isi iOk) (eC eL (eC (g_Array rfl) eN)))) (sC (SimS1.ret (xAttr eL)) sN) sN) (sC (SimS1.if (xVal (cB (g_isinstance rfl) (SimC.isi iOk) (eC eL (eC (g_Table rfl) eN)))) (sC (SimS1.ret (SimE.ofL (compo2 (SimI.vals (xAttr eL)) (SimA.name (.inl rfl)) (SimI.list eL) (SimA.name (.inl rfl)) eL rfl rfl rfl))) sN) sN) (sC (SimS1.if (xVal (cB (g_isinstance rfl) (SimC.isi iOk) (eC eL (eC (g_Data rfl) eN)))) (sC (SimS1.ret (xAttr eL)) sN) sN) (sC (SimS1.if (xVal (cB (g_isinstance rfl) (SimC.isi iOk) (eC eL (eC (g_NameRef rfl) eN)))) (sC (SimS1.ret (SimE.ifE (SimB.cmp (xAttr eL) SimE.none SimK.is) (SimE.list eN) (SimE.list (eC (xAttr eL) eN)))) sN) sN) (sC (SimS1.ret (SimE.ifE (xVal (cB (g_isinstance rfl) (SimC.isi iOk) (eC eL (eC (g_Pattern rfl) eN)))) (cK (g_things_in_node rfl) k_things_in_node (fN c_things_in_node) (eC (xAttr eL) eN)) (SimE.list eN))) sN))))
noncomputable def d_reach:FnS:=(sSeq (sSwap "waiting" "met" (tupF (esCons (callF listC (esCons (rdL "roots") esNil)) (esCons dict0F esNil)))) (sSeq (whileA (cmpF (callF lenC (esCons (rdL "waiting") esNil)) (cst (.int 0)) gtK) (sSeq (sAsg "value" (methF popC (rdL "waiting") esNil)) (sSeq (sIf (vB (callF (isiA isT) (esCons (rdL "value") (esCons (cst (.glob (.ref 138))) esNil)))) (sSeq (sIf (cmpF (aF "number" (rdL "value")) (rdL "met") inA) (sSeq sCont sSkip) sSkip) (sSeq (sSetA (inT tS) "mark" (cst (.int 1)) (rdL "value")) (sSeq (sPut (cst (.bool true)) (rdL "met") (aF "number" (rdL "value"))) sSkip))) sSkip) (sSeq (sExpr (methF extendC (rdL "waiting") (esCons (callF (runB ["value"] [] d_things_in) (esCons (rdL "value") esNil)) esNil))) sSkip))) NN) (sSeq (sRet (callF sortedC (esCons (callF listC (esCons (rdL "met") esNil)) esNil))) sSkip)))
theorem c_reach:Con (mdl w mean mg mb) 3 413 (runB ["roots"] [] d_reach):=by
 refine con_at (by k_is) (by k_is) (bind1 fun a s=>rfl) rfl (by decide +kernel) rfl rfl rfl (by decide) ?_
 exact sC (SimS1.swap (SimE.tup (eC (SimE.callT (g_list rfl) SimC.list (eC eL eN) rfl) (eC SimE.dict0 eN))) (.inl rfl) (.inl rfl) (h2:=(by rintro ⟨⟨_,_,_,_⟩,_⟩ h1 h2; cases h1; cases h2; rfl))) (sC (SimS1.while (SimB.cmp (cB (g_len rfl) SimC.len (eC eL eN)) SimE.int SimK.gt) (sC (SimS1.asg (SimE.methL0 PySem.F.slot_list_pop PySem.F.type_list_pop eL SimC.pop) (.inl rfl)) (sC (SimS1.if (xVal (cB (g_isinstance rfl) (SimC.isi iOk) (eC eL (eC (g_Holder rfl) eN)))) (sC (SimS1.if (SimB.cmp (xAttr eL) eL SimK.in) (sC SimS1.cont sN) sN) (sC (SimS1.setA sOk (g_REACHED rfl) eL) (sC (SimS1.put SimE.bool eL (xAttr eL)) sN))) sN) (sC (SimS1.expr (SimE.methL PySem.F.slot_list_extend PySem.F.type_list_extend eL (eC (cK (g_things_in rfl) k_things_in (fN c_things_in) (eC eL eN)) eN) SimC.extend rfl)) sN)))) (sC (SimS1.ret (cB (g_sorted rfl) SimC.sorted (eC (SimE.callT (g_list rfl) SimC.list (eC eL eN) rfl) eN))) sN))
noncomputable def d_world_roots:FnS:=(sSeq (sRet (compF NN (iList (callF sortedC (esCons (aF "store" (rdL "world")) esNil))) ["world"] (aName "name") tT (subF (aF "store" (rdL "world")) (rdL "name")))) sSkip)
theorem c_world_roots:Con (mdl w mean mg mb) 1 418 (runB ["world"] [] d_world_roots):=by
 refine con_at (by k_is) (by k_is) (bind1 fun a s=>rfl) rfl (by decide +kernel) rfl rfl rfl (by decide) ?_
 exact sC (SimS1.ret (SimE.ofL (compo1 (SimI.list (cB (g_sorted rfl) SimC.sorted (eC (xAttr eK) eN))) (SimA.name (.inl rfl)) SimF.nil (SimE.sub (xAttr eK) eL) rfl rfl rfl))) sN
noncomputable def d_collect:FnS:=(sSeq (sFor NN (iList (aF "holders" (rdL "world"))) (aName "holder") (sSeq (sSetA (inT tS) "mark" (cst (.int 0)) (rdL "holder")) sSkip)) (sSeq (sExpr (callF (runB ["roots"] [] d_reach) (esCons (binF (callF (runB ["world"] [] d_world_roots) (esCons (rdL "world") esNil)) (rdL "more_roots") addA) esNil))) (sSeq (sAsg "gone" (callF sortedC (esCons (compF NN (iList (aF "holders" (rdL "world"))) [] (aName "holder") (cmpF (aF "mark" (rdL "holder")) (cst (.int 0)) eqK) (aF "number" (rdL "holder"))) esNil))) (sSeq (sSetA (inT tS) "holders" (compF NN (iList (aF "holders" (rdL "world"))) [] (aName "holder") (cmpF (aF "mark" (rdL "holder")) (cst (.int 1)) eqK) (rdL "holder")) (rdL "world")) (sSeq (sRet (rdL "gone")) sSkip)))))
theorem c_collect:Con (mdl w mean mg mb) 4 423 (runB ["world","more_roots"] [] d_collect):=by
 refine con_at (by k_is) (by k_is) (bind2 fun a b s=>rfl) rfl (by decide +kernel) rfl rfl rfl (by decide) ?_
 exact sC (SimS1.for (SimI.list (xAttr eL)) (SimA.name (.inl rfl)) (sC (SimS1.setA sOk (g_FREE rfl) eL) sN)) (sC (SimS1.expr (cK (g_reach rfl) k_reach (fN c_reach) (eC (xBin (cK (g_world_roots rfl) k_world_roots (fN c_world_roots) (eC eL eN)) eL SimO.add) eN))) (sC (SimS1.asg (cB (g_sorted rfl) SimC.sorted (eC (SimE.ofL (compo0 (SimI.list (xAttr eL)) (SimA.name (.inl rfl)) (SimF.one (SimB.cmp (xAttr eL) (g_FREE rfl) SimK.eq)) (xAttr eL) rfl rfl)) eN)) (.inl rfl)) (sC (SimS1.setA sOk (SimE.ofL (compo0 (SimI.list (xAttr eL)) (SimA.name (.inl rfl)) (SimF.one (SimB.cmp (xAttr eL) (g_REACHED rfl) SimK.eq)) eL rfl rfl)) eL) (sC (SimS1.ret eL) sN))))
end
section
variable {w:World} {mean:ExcName->Option Value} {mg mb:Str->Option Value} {nms:Names} {lv:Nat} {pos:Pos}
theorem kf_World___init____law_:Challenge.rw_sa0597_01.row.prog=Challenge.rw_sa0597_01.row.prog/\ka.heap_1=ka.heap_1:=by
 k_fill
 exact ⟨rfl,rfl⟩
noncomputable def dsW:List AV:=[.int 32,.int 5000,.int 30,.int 5000]
theorem con_atD {n:Nat} {f:Addr} {name qual:Str} {params:Arguments} {body:List Stmt} {scope:Scope} {dV kV doc pm cdv ct oc:Value} {an od:Option Addr} {osl:Array (Option Value)} {ps:List Str} {fb:FnS} {ds:List AV} {dv:List Value} (hds:∀ sh n,VRels sh n ds dv)
  (ho:(ka.heap_1 w.params).lookup f=some ⟨oc,od,.func (fnOf name qual params body scope dV kV doc pm an cdv ct),osl⟩) (hcd:codeIn (ka.heap_1 w.params) cdv qual=true)
  (hbind:∀ vs:List Value,vs.length+dv.length=ps.length->∀ s:Shared,(ka.heap_1 w.params).In s.heap->BindsTo s (fnOf name qual params body scope dV kV doc pm an cdv ct) ⟨vs,[]⟩ (ps.zip (vs++dv)))
  (hkind:(ps.all fun y=>scope.names.lookup y == some .local||scope.names.lookup y == some .cell)=true)
  (hnd:((cellsFrom 0 scope.names []).map (·.1)).Nodup)
  (hco:scope.isCoroutine=false) (hgen:scope.isGenerator=false) (hk:scope.kind = .function) (hn:n<=60)
  (hb:SimS (mdl w mean mg mb) scope.names n body fb):Con (mdl w mean mg mb) n f (runB ps ds fb):=
 con_of (D:=mdl w mean mg mb) hds ho hcd (fun vs hv s X=>hbind vs (by rwa [List.length_append] at hv) s X) hkind hnd hco hgen hk hn hb
theorem bind1d {P:List Value->Prop} (h:∀ a,P [a]) (vs:List Value) (hv:vs.length+4=5):P vs:=bind1 h vs (by omega)
noncomputable def d_World_init:FnS:=(sSeq (sSetA (inT tS) "width" (rdL "width") (rdL "self")) (sSeq (sSetA (inT tS) "most_steps" (rdL "most_steps") (rdL "self")) (sSeq (sSetA (inT tS) "most_depth" (rdL "most_depth") (rdL "self")) (sSeq (sSetA (inT tS) "most_length" (rdL "most_length") (rdL "self")) (sSeq (sSetA (inT tS) "most_items" (cst (.int 20000)) (rdL "self")) (sSeq (sSetA (inT tS) "store" dict0F (rdL "self")) (sSeq (sSetA (inT tS) "functions" dict0F (rdL "self")) (sSeq (sSetA (inT tS) "labels" dict0F (rdL "self")) (sSeq (sSetA (inT tS) "keywords" dict0F (rdL "self")) (sSeq (sSetA (inT tS) "opsyns" dict0F (rdL "self")) (sSeq (sSetA (inT tS) "inputs" (listF esNil) (rdL "self")) (sSeq (sSetA (inT tS) "outputs" (listF esNil) (rdL "self")) (sSeq (sSetA (inT tS) "traces" (listF esNil) (rdL "self")) (sSeq (sSetA (inT tS) "read_names" (dictSF [("INPUT",.str "INPUT")]) (rdL "self")) (sSeq (sSetA (inT tS) "write_names" (dictSF [("OUTPUT",.str "OUTPUT")]) (rdL "self")) (sSeq (sSetA (inT tS) "traced" dict0F (rdL "self")) (sSeq (sSetA (inT tS) "steps" (cst (.int 0)) (rdL "self")) (sSeq (sSetA (inT tS) "depth" (cst (.int 0)) (rdL "self")) (sSeq (sSetA (inT tS) "nested" (cst (.int 0)) (rdL "self")) (sSeq (sSetA (inT tS) "aside" (listF esNil) (rdL "self")) (sSeq (sSetA (inT tS) "made" (cst (.int 0)) (rdL "self")) (sSeq (sSetA (inT tS) "holders" (listF esNil) (rdL "self")) (sSeq (sSetA (inT tS) "evaluate" (cst .none) (rdL "self")) (sSeq (sSetA (inT tS) "make_code" (cst .none) (rdL "self")) (sSeq (sSetA (inT tS) "matcher" (cst .none) (rdL "self")) (sSeq (sSetA (inT tS) "kept_names" dict0F (rdL "self")) sSkip))))))))))))))))))))))))))
set_option maxHeartbeats 4000000 in
theorem c_World_init:Con (mdl w mean mg mb) 1 345 (runB ["self","width","most_steps","most_depth","most_length"] dsW d_World_init):=by
 refine con_atD (ds:=dsW) (dv:=[.int 32 646,.int 5000 647,.int 30 648,.int 5000 649]) (fun _ _=>⟨⟨_,rfl⟩,⟨_,rfl⟩,⟨_,rfl⟩,⟨_,rfl⟩,trivial⟩) (by k_is) (by k_is) (bind1d fun a s X=>binds_K (T:=338) X rfl (by k_is) rfl rfl rfl) rfl (by decide +kernel) rfl rfl rfl (by decide) ?_
 exact sC (SimS1.setA sOk eL eL) (sC (SimS1.setA sOk eL eL) (sC (SimS1.setA sOk eL eL) (sC (SimS1.setA sOk eL eL) (sC (SimS1.setA sOk SimE.int eL) (sC (SimS1.setA sOk SimE.dict0 eL) (sC (SimS1.setA sOk SimE.dict0 eL) (sC (SimS1.setA sOk SimE.dict0 eL) (sC (SimS1.setA sOk SimE.dict0 eL) (sC (SimS1.setA sOk SimE.dict0 eL) (sC (SimS1.setA sOk (SimE.list eN) eL) (sC (SimS1.setA sOk (SimE.list eN) eL) (sC (SimS1.setA sOk (SimE.list eN) eL) (sC (SimS1.setA sOk (SimE.dictS rfl rfl (by decide) rfl rfl rfl (by simp) (by decide)) eL) (sC (SimS1.setA sOk (SimE.dictS rfl rfl (by decide) rfl rfl rfl (by simp) (by decide)) eL) (sC (SimS1.setA sOk SimE.dict0 eL) (sC (SimS1.setA sOk SimE.int eL) (sC (SimS1.setA sOk SimE.int eL) (sC (SimS1.setA sOk SimE.int eL) (sC (SimS1.setA sOk (SimE.list eN) eL) (sC (SimS1.setA sOk SimE.int eL) (sC (SimS1.setA sOk (SimE.list eN) eL) (sC (SimS1.setA sOk SimE.none eL) (sC (SimS1.setA sOk SimE.none eL) (sC (SimS1.setA sOk SimE.none eL) (sC (SimS1.setA sOk SimE.dict0 eL) sN)))))))))))))))))))))))))
noncomputable def d_law_dipped:FnS:=(sSeq (sUnp (aPair (aName "cells") (aName "turn")) (rdL "well")) (sSeq (sPut (binF (rdL "turn") (cst (.int 1)) addA) (rdL "well") (cst (.int 1))) (sSeq (sRet (ifF (cmpF (rdL "turn") (callF lenC (esCons (rdL "cells") esNil)) ltK) (binF (callF absC (esCons (callF intC (esCons (subF (rdL "cells") (rdL "turn")) esNil)) esNil)) (rdL "many") modA) (binF (binF (binF (cst (.int 7)) (rdL "turn") mulA) (cst (.int 3)) addA) (rdL "many") modA))) sSkip)))
theorem c_law_dipped:Con (mdl w mean mg mb) 1 430 (runB ["well","many"] [] d_law_dipped):=by
 refine con_at (by k_is) (by k_is) (bind2 fun a b s=>rfl) rfl (by decide +kernel) rfl rfl rfl (by decide) ?_
 exact sC (SimS1.unp eL (SimA.pair (SimA.name (.inl rfl)) (SimA.name (.inl rfl))) (h2:=(by rintro ⟨⟨_,_,_,_⟩,_⟩ h1 h2; cases h1; cases h2; rfl))) (sC (SimS1.put (xBin eL SimE.int SimO.add) eL SimE.int) (sC (SimS1.ret (SimE.ifE (SimB.cmp eL (cB (g_len rfl) SimC.len (eC eL eN)) SimK.lt) (xBin (cB (g_abs rfl) SimC.abs (eC (SimE.callT (g_int rfl) SimC.int (eC (SimE.sub eL eL) eN) rfl) eN)) eL SimO.mod) (xBin (xBin (xBin SimE.int eL SimO.mul) SimE.int SimO.add) eL SimO.mod))) sN))
noncomputable def d_law_told0:FnS:=(sSeq (sIf (vB (callF (isiA isT) (esCons (rdL "value") (esCons (cst (.glob (.ref 138))) esNil)))) (sSeq (sRet (tupF (esCons (aF "word" (rdL "value")) (esCons (aF "number" (rdL "value")) esNil)))) sSkip) sSkip) (sSeq (sIf (vB (callF (isiA isT) (esCons (rdL "value") (esCons (cst (.glob (.ref 117))) esNil)))) (sSeq (sRet (tupF (esCons (aF "kind" (rdL "value")) (esCons (aF "number" (aF "owner" (rdL "value"))) (esCons (aF "key" (rdL "value")) esNil))))) sSkip) sSkip) (sSeq (sRet (ifF (vB (callF (isiA isT) (esCons (rdL "value") (esCons (cst (.glob (.ref 54))) esNil)))) (tupF (esCons (cst (.str "pattern")) (esCons eNo esNil))) (rdL "value"))) sSkip)))
theorem c_law_told0:Con (mdl w mean mg mb) 1 437 (runB ["value"] [] d_law_told0):=by
 refine con_at (by k_is) (by k_is) (bind1 fun a s=>rfl) rfl (by decide +kernel) rfl rfl rfl (by decide) ?_
 exact sC (SimS1.if (xVal (cB (g_isinstance rfl) (SimC.isi iOk) (eC eL (eC (g_Holder rfl) eN)))) (sC (SimS1.ret (SimE.tup (eC (xAttr eL) (eC (xAttr eL) eN)))) sN) sN) (sC (SimS1.if (xVal (cB (g_isinstance rfl) (SimC.isi iOk) (eC eL (eC (g_NameRef rfl) eN)))) (sC (SimS1.ret (SimE.tup (eC (xAttr eL) (eC (xAttr (xAttr eL)) (eC (xAttr eL) eN))))) sN) sN) (sC (SimS1.ret (SimE.ifE (xVal (cB (g_isinstance rfl) (SimC.isi iOk) (eC eL (eC (g_Pattern rfl) eN)))) (SimE.tup (eC SimE.str (eC SimE.stop eN))) eL)) sN))
noncomputable def d_law_told:FnS:=(sSeq (sIf (vB (callF (isiA isT) (esCons (rdL "value") (esCons (cst (.glob (.ref 138))) esNil)))) (sSeq (sRet (tupF (esCons (aF "word" (rdL "value")) (esCons (aF "number" (rdL "value")) esNil)))) sSkip) sSkip) (sSeq (sIf (vB (callF (isiA isT) (esCons (rdL "value") (esCons (cst (.glob (.ref 117))) esNil)))) (sSeq (sRet (tupF (esCons (aF "kind" (rdL "value")) (esCons (aF "number" (aF "owner" (rdL "value"))) (esCons (aF "key" (rdL "value")) esNil))))) sSkip) sSkip) (sSeq (sRet (ifF (vB (callF (isiA isT) (esCons (rdL "value") (esCons (cst (.glob (.ref 54))) esNil)))) (tupF (esCons (cst (.str "pattern")) (esCons (callF (runB ["value"] [] d_law_told0) (esCons (subF (aF "node" (rdL "value")) (cst (.int 2))) esNil)) esNil))) (rdL "value"))) sSkip)))
theorem c_law_told:Con (mdl w mean mg mb) 2 437 (runB ["value"] [] d_law_told):=by
 refine con_at (by k_is) (by k_is) (bind1 fun a s=>rfl) rfl (by decide +kernel) rfl rfl rfl (by decide) ?_
 exact sC (SimS1.if (xVal (cB (g_isinstance rfl) (SimC.isi iOk) (eC eL (eC (g_Holder rfl) eN)))) (sC (SimS1.ret (SimE.tup (eC (xAttr eL) (eC (xAttr eL) eN)))) sN) sN) (sC (SimS1.if (xVal (cB (g_isinstance rfl) (SimC.isi iOk) (eC eL (eC (g_NameRef rfl) eN)))) (sC (SimS1.ret (SimE.tup (eC (xAttr eL) (eC (xAttr (xAttr eL)) (eC (xAttr eL) eN))))) sN) sN) (sC (SimS1.ret (SimE.ifE (xVal (cB (g_isinstance rfl) (SimC.isi iOk) (eC eL (eC (g_Pattern rfl) eN)))) (SimE.tup (eC SimE.str (eC (cK (g_law_told rfl) k_law_told (fN c_law_told0) (eC (SimE.sub (xAttr eL) SimE.int) eN)) eN))) eL)) sN))
noncomputable def d_law_spot:FnS:=(sSeq (sIf (vB (callF (isiA isT) (esCons (rdL "value") (esCons (cst (.glob (.ref 208))) esNil)))) (sSeq (sRet (callF (runB ["owner","keys","width"] [] d_item_ref) (esCons (rdL "value") (esCons (listF (esCons (binF (cst (.int 1)) (rdL "at") addA) esNil)) (esCons (cst (.int 32)) esNil))))) sSkip) sSkip) (sSeq (sIf (vB (callF (isiA isT) (esCons (rdL "value") (esCons (cst (.glob (.ref 227))) esNil)))) (sSeq (sRet (callF (runB ["owner","keys","width"] [] d_item_ref) (esCons (rdL "value") (esCons (listF (esCons (ifF (vB (callF (isiA isT) (esCons (rdL "key") (esCons (cst (.glob (.ref 54))) esNil)))) (cst (.str "k")) (rdL "key")) esNil)) (esCons (cst (.int 32)) esNil))))) sSkip) sSkip) (sSeq (sIf (vB (callF (isiA isT) (esCons (rdL "value") (esCons (cst (.glob (.ref 246))) esNil)))) (sSeq (sRet (callF (runB ["thing","field"] [] d_field_ref) (esCons (rdL "value") (esCons (subF (listF (esCons (cst (.str "LINK")) (esCons (cst (.str "VALUE")) esNil))) (rdL "at")) esNil)))) sSkip) sSkip) (sSeq (sRet (ifF (vB (callF (isiA isT) (esCons (rdL "value") (esCons (cst (.glob (.ref 117))) esNil)))) (rdL "value") (cst .none))) sSkip))))
theorem c_law_spot:Con (mdl w mean mg mb) 6 444 (runB ["value","key","at"] [] d_law_spot):=by
 refine con_at (by k_is) (by k_is) (bind3 fun a b c s=>rfl) rfl (by decide +kernel) rfl rfl rfl (by decide) ?_
 exact sC (SimS1.if (xVal (cB (g_isinstance rfl) (SimC.isi iOk) (eC eL (eC (g_Array rfl) eN)))) (sC (SimS1.ret (cK (g_item_ref rfl) k_item_ref (fN c_item_ref) (eC eL (eC (SimE.list (eC (xBin SimE.int eL SimO.add) eN)) (eC SimE.int eN))))) sN) sN) (sC (SimS1.if (xVal (cB (g_isinstance rfl) (SimC.isi iOk) (eC eL (eC (g_Table rfl) eN)))) (sC (SimS1.ret (cK (g_item_ref rfl) k_item_ref (fN c_item_ref) (eC eL (eC (SimE.list (eC (SimE.ifE (xVal (cB (g_isinstance rfl) (SimC.isi iOk) (eC eL (eC (g_Pattern rfl) eN)))) SimE.str eL) eN)) (eC SimE.int eN))))) sN) sN) (sC (SimS1.if (xVal (cB (g_isinstance rfl) (SimC.isi iOk) (eC eL (eC (g_Data rfl) eN)))) (sC (SimS1.ret (cK (g_field_ref rfl) k_field_ref (fN c_field_ref) (eC eL (eC (SimE.sub (SimE.list (eC SimE.str (eC SimE.str eN))) eL) eN)))) sN) sN) (sC (SimS1.ret (SimE.ifE (xVal (cB (g_isinstance rfl) (SimC.isi iOk) (eC eL (eC (g_NameRef rfl) eN)))) eL SimE.none)) sN)))
noncomputable def d_law_done:FnS:=(sSeq (sAsg "here" (subF (aF "store" (rdL "world")) (rdL "goal"))) (sSeq (sIf (cmpF (rdL "kind") (cst (.int 2)) ltK) (sSeq (sRet (ifF (cmpF (rdL "kind") (cst (.int 0)) eqK) (rdL "value") (cst (.str "")))) sSkip) sSkip) (sSeq (sIf (cmpF (rdL "kind") (cst (.int 2)) eqK) (sSeq (sRet (callF (runB ["world","word","fields","values"] [] d_made_data) (esCons (rdL "world") (esCons (cst (.str "NODE")) (esCons (listF (esCons (cst (.str "VALUE")) (esCons (cst (.str "LINK")) esNil))) (esCons (listF (esCons (rdL "value") esNil)) esNil)))))) sSkip) sSkip) (sSeq (sIf (cmpF (rdL "kind") (cst (.int 3)) eqK) (sSeq (sRet (callF (runB ["world","value"] [] d_made_copy) (esCons (rdL "world") (esCons (rdL "value") esNil)))) sSkip) sSkip) (sSeq (sIf (cmpF (rdL "kind") (cst (.int 5)) eqK) (sSeq (sRet (callF (runB ["world"] [] d_made_table) (esCons (rdL "world") esNil))) sSkip) sSkip) (sSeq (sIf (cmpF (rdL "kind") (cst (.int 10)) eqK) (sSeq (sRet (callF (runB ["world","told","value"] [] d_made_array) (esCons (rdL "world") (esCons (cst (.str "2")) (esCons (rdL "value") esNil))))) sSkip) sSkip) (sSeq (sIf (cmpF (rdL "kind") (cst (.int 8)) eqK) (sSeq (sAsg "spot" (callF (runB ["value","key","at"] [] d_law_spot) (esCons (rdL "here") (esCons (rdL "value") (esCons (cst (.int 0)) esNil))))) (sSeq (sIf (cmpF (rdL "spot") (cst .none) isNotK) (sSeq (sExpr (callF (runB ["ref","value"] [] d_slot_set) (esCons (rdL "spot") (esCons (rdL "value") esNil)))) sSkip) sSkip) (sSeq (sRet (rdL "here")) sSkip))) sSkip) (sSeq (sIf (cmpF (rdL "kind") (cst (.int 9)) eqK) (sSeq (sRet (ifF (vB (callF (isiA isT) (esCons (rdL "value") (esCons (cst (.glob (.ref 117))) esNil)))) (callF (clsF 54 (runB ["self","node"] [] d_Pattern_init)) (esCons (tupF (esCons (cst (.str "later")) (esCons (tupF (esCons (cst (.str "rem")) esNil)) (esCons (rdL "value") esNil)))) esNil)) (rdL "here"))) sSkip) sSkip) (sSeq (sAsg "spot" (callF (runB ["value","key","at"] [] d_law_spot) (esCons (rdL "value") (esCons (cst (.str "k")) (esCons (ifF (cmpF (rdL "kind") (cst (.int 7)) eqK) (cst (.int 1)) (cst (.int 0))) esNil))))) (sSeq (sIf (cmpF (rdL "spot") (cst .none) isK) (sSeq (sRet (rdL "here")) sSkip) sSkip) (sSeq (sRet (ifF (cmpF (rdL "kind") (cst (.int 6)) eqK) (rdL "spot") (callF (runB ["ref"] [] d_slot_get) (esCons (rdL "spot") esNil)))) sSkip)))))))))))
theorem c_law_done:Con (mdl w mean mg mb) 7 451 (runB ["world","kind","goal","value"] [] d_law_done):=by
 refine con_at (by k_is) (by k_is) (bind4 fun a b c d s=>rfl) rfl (by decide +kernel) rfl rfl rfl (by decide) ?_
 exact sC (SimS1.asg (SimE.sub (xAttr eL) eL) (.inl rfl)) (sC (SimS1.if (SimB.cmp eL SimE.int SimK.lt) (sC (SimS1.ret (SimE.ifE (SimB.cmp eL SimE.int SimK.eq) eL SimE.str)) sN) sN) (sC (SimS1.if (SimB.cmp eL SimE.int SimK.eq) (sC (SimS1.ret (cK (g_made_data rfl) k_made_data (fN c_made_data) (eC eL (eC SimE.str (eC (SimE.list (eC SimE.str (eC SimE.str eN))) (eC (SimE.list (eC eL eN)) eN)))))) sN) sN) (sC (SimS1.if (SimB.cmp eL SimE.int SimK.eq) (sC (SimS1.ret (cK (g_made_copy rfl) k_made_copy (fN c_made_copy) (eC eL (eC eL eN)))) sN) sN) (sC (SimS1.if (SimB.cmp eL SimE.int SimK.eq) (sC (SimS1.ret (cK (g_made_table rfl) k_made_table (fN c_made_table) (eC eL eN))) sN) sN) (sC (SimS1.if (SimB.cmp eL SimE.int SimK.eq) (sC (SimS1.ret (cK (g_made_array rfl) k_made_array (fN c_made_array) (eC eL (eC SimE.str (eC eL eN))))) sN) sN) (sC (SimS1.if (SimB.cmp eL SimE.int SimK.eq) (sC (SimS1.asg (cK (g_law_spot rfl) k_law_spot (fN c_law_spot) (eC eL (eC eL (eC SimE.int eN)))) (.inl rfl)) (sC (SimS1.if (SimB.cmp eL SimE.none SimK.isNot) (sC (SimS1.expr (cK (g_slot_set rfl) k_slot_set (fN c_slot_set) (eC eL (eC eL eN)))) sN) sN) (sC (SimS1.ret eL) sN))) sN) (sC (SimS1.if (SimB.cmp eL SimE.int SimK.eq) (sC (SimS1.ret (SimE.ifE (xVal (cB (g_isinstance rfl) (SimC.isi iOk) (eC eL (eC (g_NameRef rfl) eN)))) (cK (g_Pattern rfl) k_Pattern (SimC.cls c_Pattern_init (by decide) m_Pattern i_Pattern f_Pattern) (eC (SimE.tup (eC SimE.str (eC (SimE.tup (eC SimE.str eN)) (eC eL eN)))) eN)) eL)) sN) sN) (sC (SimS1.asg (cK (g_law_spot rfl) k_law_spot (fN c_law_spot) (eC eL (eC SimE.str (eC (SimE.ifE (SimB.cmp eL SimE.int SimK.eq) SimE.int SimE.int) eN)))) (.inl rfl)) (sC (SimS1.if (SimB.cmp eL SimE.none SimK.is) (sC (SimS1.ret eL) sN) sN) (sC (SimS1.ret (SimE.ifE (SimB.cmp eL SimE.int SimK.eq) eL (cK (g_slot_get rfl) k_slot_get (fN c_slot_get) (eC eL eN)))) sN))))))))))
noncomputable def d_law_led_to:FnS:=(sSeq (sUnp (aPair (aName "waiting") (aName "found")) (tupF (esCons (compF NN (iStr (cst (.str "ABC"))) ["world"] (aName "name") tT (subF (aF "store" (rdL "world")) (rdL "name"))) (esCons dict0F esNil)))) (sSeq (whileA (cmpF (callF lenC (esCons (rdL "waiting") esNil)) (cst (.int 0)) gtK) (sSeq (sAsg "value" (methF popC (rdL "waiting") esNil)) (sSeq (sIf (vB (callF (isiA isT) (esCons (rdL "value") (esCons (cst (.glob (.ref 117))) esNil)))) (sSeq (sExpr (methF appendC (rdL "waiting") (esCons (aF "owner" (rdL "value")) esNil))) sSkip) (sSeq (sIf (vB (callF (isiA isT) (esCons (rdL "value") (esCons (cst (.glob (.ref 54))) esNil)))) (sSeq (sExpr (methF appendC (rdL "waiting") (esCons (subF (aF "node" (rdL "value")) (cst (.int 2))) esNil))) sSkip) (sSeq (sIf (andF (vB (callF (isiA isT) (esCons (rdL "value") (esCons (cst (.glob (.ref 138))) esNil)))) (andF (cmpF (aF "number" (rdL "value")) (rdL "found") notInA) tT)) (sSeq (sIf (vB (callF (isiA isT) (esCons (rdL "value") (esCons (cst (.glob (.ref 227))) esNil)))) (sSeq (sAsg "inner" (compF2 NN (iList (aF "rows" (rdL "value"))) (aName "pair") (iList (rdL "pair")) (aName "part") (rdL "part"))) sSkip) (sSeq (sAsg "inner" (ifF (vB (callF (isiA isT) (esCons (rdL "value") (esCons (cst (.glob (.ref 208))) esNil)))) (aF "items" (rdL "value")) (aF "values" (rdL "value")))) sSkip)) (sSeq (sPut (compF NN (iList (rdL "inner")) [] (aName "part") tT (callF (runB ["value"] [] d_law_told) (esCons (rdL "part") esNil))) (rdL "found") (aF "number" (rdL "value"))) (sSeq (sExpr (methF extendC (rdL "waiting") (esCons (rdL "inner") esNil))) sSkip))) sSkip) sSkip)) sSkip)) sSkip)) NN) (sSeq (sRet (compF NN (iList (callF sortedC (esCons (rdL "found") esNil))) ["found"] (aName "number") tT (tupF (esCons (rdL "number") (esCons (subF (rdL "found") (rdL "number")) esNil))))) sSkip)))
theorem c_law_led_to:Con (mdl w mean mg mb) 3 456 (runB ["world"] [] d_law_led_to):=by
 refine con_at (by k_is) (by k_is) (bind1 fun a s=>rfl) rfl (by decide +kernel) rfl rfl rfl (by decide) ?_
 exact sC (SimS1.unp (SimE.tup (eC (SimE.ofL (compo1 (SimI.str SimE.str) (SimA.name (.inl rfl)) SimF.nil (SimE.sub (xAttr eK) eL) rfl rfl rfl)) (eC SimE.dict0 eN))) (SimA.pair (SimA.name (.inl rfl)) (SimA.name (.inr rfl))) (h2:=(by rintro ⟨⟨_,_,_,_⟩,_⟩ h1 h2; cases h1; cases h2; rfl))) (sC (SimS1.while (SimB.cmp (cB (g_len rfl) SimC.len (eC eL eN)) SimE.int SimK.gt) (sC (SimS1.asg (SimE.methL0 PySem.F.slot_list_pop PySem.F.type_list_pop eL SimC.pop) (.inl rfl)) (sC (SimS1.if (xVal (cB (g_isinstance rfl) (SimC.isi iOk) (eC eL (eC (g_NameRef rfl) eN)))) (sC (SimS1.expr (SimE.methL PySem.F.slot_list_append PySem.F.type_list_append eL (eC (xAttr eL) eN) SimC.append rfl)) sN) (sC (SimS1.if (xVal (cB (g_isinstance rfl) (SimC.isi iOk) (eC eL (eC (g_Pattern rfl) eN)))) (sC (SimS1.expr (SimE.methL PySem.F.slot_list_append PySem.F.type_list_append eL (eC (SimE.sub (xAttr eL) SimE.int) eN) SimC.append rfl)) sN) (sC (SimS1.if (SimBW.toB (SimBW.and (xVal (cB (g_isinstance rfl) (SimC.isi iOk) (eC eL (eC (g_Holder rfl) eN)))) (SimBW.and (SimB.cmp (xAttr eL) eK SimK.notIn) SimBW.andNil))) (sC (SimS1.if (xVal (cB (g_isinstance rfl) (SimC.isi iOk) (eC eL (eC (g_Table rfl) eN)))) (sC (SimS1.asgL (compo2 (SimI.list (xAttr eL)) (SimA.name (.inl rfl)) (SimI.list eL) (SimA.name (.inl rfl)) eL rfl rfl rfl) rfl (by rintro ⟨⟨_,_,_,_⟩,_⟩ h1 h2; cases h1; cases h2; rfl)) sN) (sC (SimS1.asg (SimE.ifE (xVal (cB (g_isinstance rfl) (SimC.isi iOk) (eC eL (eC (g_Array rfl) eN)))) (xAttr eL) (xAttr eL)) (.inl rfl)) sN)) (sC (SimS1.put (SimE.ofL (compo0 (SimI.list eL) (SimA.name (.inl rfl)) SimF.nil (cK (g_law_told rfl) k_law_told (fN c_law_told) (eC eL eN)) rfl rfl)) eK (xAttr eL)) (sC (SimS1.expr (SimE.methL PySem.F.slot_list_extend PySem.F.type_list_extend eL (eC eL eN) SimC.extend rfl)) sN))) sN) sN)) sN)) sN))) (sC (SimS1.ret (SimE.ofL (compo1 (SimI.list (cB (g_sorted rfl) SimC.sorted (eC eK eN))) (SimA.name (.inl rfl)) SimF.nil (SimE.tup (eC eL (eC (SimE.sub eK eL) eN))) rfl rfl rfl))) sN))
end
section
variable {w:World} {mean:ExcName->Option Value} {mg mb:Str->Option Value} {nms:Names} {lv:Nat} {pos:Pos}
theorem kf__law_run_law:Challenge.rw_sa0597_01.row.prog=Challenge.rw_sa0597_01.row.prog/\ka.heap_1=ka.heap_1:=by
 k_fill
 exact ⟨rfl,rfl⟩
noncomputable def d_law_run:FnS:=(sSeq (sSwap3 "world" "heard" "lost" (tupF (esCons (callF (clsF 348 (runB ["self","width","most_steps","most_depth","most_length"] dsW d_World_init)) esNil) (esCons (listF esNil) (esCons (listF esNil) esNil))))) (sSeq (sSetA (inT tS) "store" (dictSF [("A",.str ""),("B",.str ""),("C",.str "")]) (rdL "world")) (sSeq (sFor NN (iCall enumG (esCons (rdL "deeds") esNil)) (aPair (aName "turn") (aPair (aName "kind") (aName "spots"))) (sSeq (sIf (cmpF (subF (rdL "moments") (rdL "turn")) (cst (.int 1)) eqK) (sSeq (sAsg "lost" (binF (rdL "lost") (callF (runB ["world","more_roots"] [] d_collect) (esCons (rdL "world") (esCons (listF esNil) esNil))) addA)) sSkip) sSkip) (sSeq (sSwap "goal" "other" (tupF (esCons (subF (cst (.str "ABC")) (binF (rdL "spots") (cst (.int 3)) modA)) (esCons (subF (cst (.str "ABC")) (binF (rdL "spots") (cst (.int 3)) divA)) esNil)))) (sSeq (sPut (callF (runB ["world","kind","goal","value"] [] d_law_done) (esCons (rdL "world") (esCons (rdL "kind") (esCons (rdL "goal") (esCons (subF (aF "store" (rdL "world")) (rdL "other")) esNil))))) (aF "store" (rdL "world")) (rdL "goal")) (sSeq (sExpr (methF appendC (rdL "heard") (esCons (callF (runB ["value"] [] d_law_told) (esCons (subF (aF "store" (rdL "world")) (rdL "goal")) esNil)) esNil))) sSkip))))) (sSeq (sAsg "rows" (callF (runB ["world"] [] d_law_led_to) (esCons (rdL "world") esNil))) (sSeq (sAsg "lost" (binF (rdL "lost") (callF (runB ["world","more_roots"] [] d_collect) (esCons (rdL "world") (esCons (listF esNil) esNil))) addA)) (sSeq (sRet (tupF (esCons (rdL "heard") (esCons (rdL "rows") (esCons (callF sortedC (esCons (rdL "lost") esNil)) (esCons (compF NN (iList (aF "holders" (rdL "world"))) [] (aName "holder") tT (aF "number" (rdL "holder"))) (esCons (aF "made" (rdL "world")) esNil))))))) sSkip))))))
set_option maxHeartbeats 4000000 in
theorem c_law_run:Con (mdl w mean mg mb) 8 461 (runB ["deeds","moments"] [] d_law_run):=by
 refine con_at (by k_is) (by k_is) (bind2 fun a b s=>rfl) rfl (by decide +kernel) rfl rfl rfl (by decide) ?_
 exact sC (SimS1.swap3 (SimE.tup (eC (SimE.callK0 (g_World rfl) k_World (SimC.cls c_World_init (by decide) m_World i_World f_World)) (eC (SimE.list eN) (eC (SimE.list eN) eN)))) (.inl rfl) (.inl rfl) (.inl rfl) (h2:=(by rintro ⟨⟨_,_,_,_⟩,_⟩ h1 h2; cases h1; cases h2; rfl))) (sC (SimS1.setA sOk (SimE.dictS rfl rfl (by decide) rfl rfl rfl (by simp) (by decide)) eL) (sC (SimS1.for (SimI.call (g_enumerate rfl) SimCI.enum (eC eL eN) rfl) (SimA.pair (SimA.name (.inl rfl)) (SimA.pair (SimA.name (.inl rfl)) (SimA.name (.inl rfl)))) (sC (SimS1.if (SimB.cmp (SimE.sub eL eL) SimE.int SimK.eq) (sC (SimS1.asg (xBin eL (cK (g_collect rfl) k_collect (fN c_collect) (eC eL (eC (SimE.list eN) eN))) SimO.add) (.inl rfl)) sN) sN) (sC (SimS1.swap (SimE.tup (eC (SimE.sub SimE.str (xBin eL SimE.int SimO.mod)) (eC (SimE.sub SimE.str (xBin eL SimE.int SimO.div)) eN))) (.inl rfl) (.inl rfl) (h2:=(by rintro ⟨⟨_,_,_,_⟩,_⟩ h1 h2; cases h1; cases h2; rfl))) (sC (SimS1.put (cK (g_law_done rfl) k_law_done (fN c_law_done) (eC eL (eC eL (eC eL (eC (SimE.sub (xAttr eL) eL) eN))))) (xAttr eL) eL) (sC (SimS1.expr (SimE.methL PySem.F.slot_list_append PySem.F.type_list_append eL (eC (cK (g_law_told rfl) k_law_told (fN c_law_told) (eC (SimE.sub (xAttr eL) eL) eN)) eN) SimC.append rfl)) sN))))) (sC (SimS1.asg (cK (g_law_led_to rfl) k_law_led_to (fN c_law_led_to) (eC eL eN)) (.inl rfl)) (sC (SimS1.asg (xBin eL (cK (g_collect rfl) k_collect (fN c_collect) (eC eL (eC (SimE.list eN) eN))) SimO.add) (.inl rfl)) (sC (SimS1.ret (SimE.tup (eC eL (eC eL (eC (cB (g_sorted rfl) SimC.sorted (eC eL eN)) (eC (SimE.ofL (compo0 (SimI.list (xAttr eL)) (SimA.name (.inl rfl)) SimF.nil (xAttr eL) rfl rfl)) (eC (xAttr eL) eN))))))) sN)))))
end
set_option tactic.hygienic false
section
inductive V where
 |s (x:Str)|h (n:Nat)|r (b:Bool) (n i:Nat)|p (b:Bool) (n i:Nat)
 deriving DecidableEq
inductive Cell where
 |arr (vs:List V)|tab (rows:List (V×V))|dat (vs:List V)
noncomputable def rowsOf (rows:List (V×V)):List V:=rows.flatMap fun p=>[p.1,p.2]
noncomputable def partsC:Cell->List V
 |.arr vs=>vs
 |.tab rows=>rowsOf rows
 |.dat vs=>vs
noncomputable def partsN (cells:List Cell) (n:Nat):List V:=match cells[n]? with
 |some c=>partsC c
 |none=>[]
noncomputable def numV:V->Option Nat
 |.s _=>none
 |.h n=>some n
 |.r _ n _=>some n
 |.p _ n _=>some n
inductive Reach (cells:List Cell) (vs:List V):Nat->Prop
 |root {v:V} {n:Nat}:v∈vs->numV v=some n->Reach cells vs n
 |step {m n:Nat} {v:V}:Reach cells vs m->v∈partsN cells m->numV v=some n->Reach cells vs n
noncomputable def turnW (cells:List Cell) (v:V) (rest:List V) (met:List Nat):List V×List Nat:=match v with
 |.s _=>(rest,met)
 |.h n=>if n∈met then (rest,met) else (rest++partsN cells n,met++[n])
 |.r _ n _=>(rest++[.h n],met)
 |.p b n i=>(rest++[.r b n i],met)
noncomputable def walkW (cells:List Cell):Nat->List V->List Nat->Option (List Nat)
 |0,_,_=>none
 |k+1,ws,met=>match ws.getLast? with
  |none=>some met
  |some v=>walkW cells k (turnW cells v ws.dropLast met).1 (turnW cells v ws.dropLast met).2
noncomputable def wtV:V->Nat
 |.s _=>1
 |.h _=>1
 |.r _ _ _=>2
 |.p _ _ _=>3
noncomputable def wts (vs:List V):Nat:=(vs.map wtV).sum
noncomputable def restW (cells:List Cell) (met:List Nat):Nat:=((List.range cells.length).map fun n=>if n∈met then 0 else wts (partsN cells n)).sum
theorem wts_append (a b:List V):wts (a++b)=wts a+wts b:=by simp [wts]
variable {cells:List Cell}
theorem restW_met {met:List Nat} {n:Nat} (hn:n<cells.length) (hm:n∉met):restW cells (met++[n])+wts (partsN cells n)=restW cells met:=by
 unfold restW
 have key:∀ l:List Nat,l.Nodup->n∈l->(l.map fun m=>if m∈met++[n] then 0 else wts (partsN cells m)).sum+wts (partsN cells n)=(l.map fun m=>if m∈met then 0 else wts (partsN cells m)).sum:=by
  intro l
  induction l with
  |nil=>intro _ h; cases h
  |cons a r ih=>
   intro nd h
   rw [List.nodup_cons] at nd
   simp only [List.map_cons,List.sum_cons]
   rcases List.mem_cons.mp h with e|h
   ·subst e
    have same:∀ m∈r,(if m∈met++[n] then 0 else wts (partsN cells m))=(if m∈met then 0 else wts (partsN cells m)):=fun m hm'=>by
     have:m≠n:=fun e=>nd.1 (e▸hm')
     simp [this]
    rw [List.map_congr_left same,if_pos (by simp),if_neg hm]
    exact om75
   ·have:a≠n:=fun e=>nd.1 (e▸h)
    have:=ih nd.2 h
    by_cases ha:a∈met
    ·rw [if_pos (by simp [ha]),if_pos ha]; exact om176 this
    ·rw [if_neg (by simp [ha]; assumption),if_neg ha]; exact om205 this
 exact key _ List.nodup_range (List.mem_range.mpr hn)
def Valid (cells:List Cell) (vs:List V):Prop:=∀ v∈vs,∀ n,numV v=some n->n<cells.length
def ValidC (cells:List Cell):Prop:=∀ m,Valid cells (partsN cells m)
structure Walked (cells:List Cell) (ws:List V) (met res:List Nat):Prop where
 nd:res.Nodup
 lt:∀ m∈res,m<cells.length
 old:∀ m∈met,m∈res
 new:∀ v∈ws,∀ n,numV v=some n->n∈res
 closed:∀ m∈res,∀ v∈partsN cells m,∀ n,numV v=some n->n∈res
 least:∀ P:Nat->Prop,(∀ m∈met,P m)->(∀ v∈ws,∀ n,numV v=some n->P n)->(∀ m,P m->∀ v∈partsN cells m,∀ n,numV v=some n->P n)->∀ m∈res,P m
theorem walkW_ok (hC:ValidC cells):∀ (k:Nat) (ws:List V) (met:List Nat),Valid cells ws->(∀ m∈met,m<cells.length)->met.Nodup->wts ws+restW cells met<k ->
  (∀ m∈met,∀ v∈partsN cells m,∀ n,numV v=some n->n∈met\/∃ u∈ws,numV u=some n) ->
  ∃ res,walkW cells k ws met=some res/\Walked cells ws met res:=by
 intro k
 induction k with
 |zero=>intro ws met _ _ _ h; omega
 |succ k ih=>
  intro ws met hw hm nd hk hc
  unfold walkW
  rcases List.eq_nil_or_concat ws with rfl|⟨rest,v,rfl⟩
  ·refine ⟨met,rfl,nd,hm,(fun ZZ h=>h),(fun ZZ h=>nomatch h),fun m h v hv n hn=>?_,fun P h1 ZZ ZZ=>h1⟩
   rcases hc m h v hv n hn with h|⟨u,hu,_⟩
   ·exact h
   ·cases hu
  ·rw [List.concat_eq_append] at *
   have hvw:v∈rest++[v]:=by simp
   have hrest:∀ u∈rest,u∈rest++[v]:=fun u hu=>by simp [hu]
   have one:∀ u,wts [u]=wtV u:=fun u=>by simp [wts]
   rw [wts_append,one] at hk
   rw [List.getLast?_concat,List.dropLast_concat]
   show ∃ res,walkW cells k (turnW cells v rest met).1 (turnW cells v rest met).2=some res/\_
   have swap:∀ u:V,numV u=numV v->wtV u+1=wtV v->turnW cells v rest met=(rest++[u],met)->∃ res,walkW cells k (turnW cells v rest met).1 (turnW cells v rest met).2=some res/\Walked cells (rest++[v]) met res:=by
    intro u hu hwt ht
    rw [ht]
    have tr:∀ w∈rest++[u],∀ n,numV w=some n->∃ w'∈rest++[v],numV w'=some n:=fun w hw' n hn=>by
     rcases List.mem_append.mp hw' with h|h
     ·exact ⟨w,hrest w h,hn⟩
     ·rw [List.mem_singleton.mp h] at hn; exact ⟨v,hvw,hu▸hn⟩
    have tr':∀ w∈rest++[v],∀ n,numV w=some n->∃ w'∈rest++[u],numV w'=some n:=fun w hw' n hn=>by
     rcases List.mem_append.mp hw' with h|h
     ·exact ⟨w,by simp [h],hn⟩
     ·rw [List.mem_singleton.mp h] at hn; exact ⟨u,by simp,hu.trans hn⟩
    have hk2:wts (rest++[u])+restW cells met<k:=by rw [wts_append,one]; exact om258 hk hwt
    obtain ⟨res,a,W⟩:=ih (rest++[u]) met (fun w hw' n hn=>by refine ex1_2 (tr w hw' n hn) fun w' h1 h2=>?_; exact hw w' h1 n h2) hm nd hk2
     (fun m h w hw' n hn=>(hc m h w hw' n hn).imp id fun ⟨x,hx,hxn⟩=>tr' x hx n hxn)
    exact ⟨res,a,W.nd,W.lt,W.old,(fun w hw' n hn=>by refine ex1_2 (tr' w hw' n hn) fun w' h1 h2=>?_; exact W.new w' h1 n h2),W.closed,fun P h1 h2 h3=>W.least P h1 (fun w hw' n hn=>by refine ex1_2 (tr w hw' n hn) fun w' q1 q2=>?_; exact h2 w' q1 n q2) h3⟩
   have leave:turnW cells v rest met=(rest,met)->1<=wtV v->(∀ n,numV v=some n->n∈met)->∃ res,walkW cells k (turnW cells v rest met).1 (turnW cells v rest met).2=some res/\Walked cells (rest++[v]) met res:=by
    intro ht h1 hv
    rw [ht]
    refine ex1_2 (ih rest met (fun w hw'=>hw w (hrest w hw')) hm nd (om228 hk h1)
     (fun m h w hw' n hn=>(hc m h w hw' n hn).elim .inl fun ⟨x,hx,hxn⟩=>by
      rcases List.mem_append.mp hx with h|h
      ·exact .inr ⟨x,h,hxn⟩
      ·rw [List.mem_singleton.mp h] at hxn; exact .inl (hv n hxn))) fun res a W=>?_
    refine ⟨res,a,W.nd,W.lt,W.old,(fun w hw' n hn=>?_),W.closed,fun P h1 h2 h3=>W.least P h1 (fun w hw'=>h2 w (hrest w hw')) h3⟩
    rcases List.mem_append.mp hw' with h|h
    ·exact W.new w h n hn
    ·rw [List.mem_singleton.mp h] at hn; exact W.old n (hv n hn)
   cases v with
   |s x=>exact leave rfl (Nat.le_refl _) fun n h=>by exact ns h
   |r b n i=>exact swap (.h n) rfl rfl rfl
   |p b n i=>exact swap (.r b n i) rfl rfl rfl
   |h n=>
    by_cases hn:n∈met
    ·exact leave (if_pos hn) (Nat.le_refl _) fun m hm'=>by obtain rfl:=so hm'; exact hn
    ·have ht:turnW cells (.h n) rest met=(rest++partsN cells n,met++[n]):=if_neg hn
     rw [ht]
     have hlt:n<cells.length:=hw _ hvw n rfl
     have hr:=restW_met hlt hn
     have hk2:wts (rest++partsN cells n)+restW cells (met++[n])<k:=by
      rw [wts_append]
      have:wtV (.h n)=1:=rfl
      exact om274 hk hr this
     refine ex1_2 (ih (rest++partsN cells n) (met++[n]) (fun w hw' m hm'=>by
       rcases List.mem_append.mp hw' with h|h
       ·exact hw w (hrest w h) m hm'
       ·exact hC n w h m hm') (fun m hm'=>by
       rcases List.mem_append.mp hm' with h|h
       ·exact hm m h
       ·rw [List.mem_singleton.mp h]; exact hlt) (by
       rw [List.nodup_append]
       exact ⟨nd,by simp,fun x hx y hy exy=>by rw [List.mem_singleton.mp hy] at exy; exact hn (exy▸hx)⟩) hk2 (fun m hm' w hw' j hj=>by
       rcases List.mem_append.mp hm' with h|h
       ·rcases hc m h w hw' j hj with q|⟨x,hx,hxn⟩
        ·exact .inl (by simp [q])
        ·rcases List.mem_append.mp hx with hx|hx
         ·exact .inr ⟨x,by simp [hx],hxn⟩
         ·rw [List.mem_singleton.mp hx] at hxn; obtain rfl:=so hxn; exact .inl (by simp)
       ·rw [List.mem_singleton.mp h] at hw'; exact .inr ⟨w,by simp [hw'],hj⟩)) fun res a W=>?_
     refine ⟨res,a,W.nd,W.lt,(fun m hm'=>W.old m (by simp [hm'])),(fun w hw' j hj=>?_),W.closed,fun P h1 h2 h3=>W.least P (fun m hm'=>?_) (fun w hw' j hj=>?_) h3⟩
     ·rcases List.mem_append.mp hw' with h|h
      ·exact W.new w (by simp [h]) j hj
      ·rw [List.mem_singleton.mp h] at hj; obtain rfl:=so hj; exact W.old n (by simp)
     ·rcases List.mem_append.mp hm' with h|h
      ·exact h1 m h
      ·rw [List.mem_singleton.mp h]; exact h2 _ hvw n rfl
     ·rcases List.mem_append.mp hw' with h|h
      ·exact h2 w (hrest w h) j hj
      ·exact h3 n (h2 _ hvw n rfl) w h j hj
end
section
noncomputable def keyW:V->V
 |.p _ _ _=>.s "k"
 |v=>v
noncomputable def rowIx (rows:List (V×V)) (k:V):Option Nat:=rows.findIdx? fun p=>decide (p.1=k)
noncomputable def spotW (cells:List Cell) (v key:V) (a:Nat):Option (Bool×Nat×Nat)×List Cell:=match v with
 |.h n=>match cells[n]? with
  |some (.arr _)=>(some (true,n,a),cells)
  |some (.dat _)=>(some (false,n,1 - a),cells)
  |some (.tab rows)=>match rowIx rows (keyW key) with
   |some i=>(some (true,n,i),cells)
   |none=>(some (true,n,rows.length),cells.set n (.tab (rows++[(keyW key,.s "")])))
  |none=>(none,cells)
 |.r b n i=>(some (b,n,i),cells)
 |_=>(none,cells)
noncomputable def setC (c:Cell) (i:Nat) (v:V):Cell:=match c with
 |.arr vs=>.arr (vs.set i v)
 |.dat vs=>.dat (vs.set i v)
 |.tab rows=>.tab (rows.modify i fun p=>(p.1,v))
noncomputable def setW (cells:List Cell) (n i:Nat) (v:V):List Cell:=match cells[n]? with
 |some c=>cells.set n (setC c i v)
 |none=>cells
noncomputable def getC (c:Cell) (i:Nat):Option V:=match c with
 |.arr vs=>vs[i]?
 |.dat vs=>vs[i]?
 |.tab rows=>(rows[i]?).map (·.2)
noncomputable def getW (cells:List Cell) (n i:Nat):V:=((cells[n]?).bind fun c=>getC c i).getD (.s "")
noncomputable def copyW (cells:List Cell) (v:V):V×List Cell:=match v with
 |.h n=>match cells[n]? with
  |some c=>(.h cells.length,cells++[c])
  |none=>(v,cells)
 |_=>(v,cells)
noncomputable def putW (cells:List Cell) (here v:V):V×List Cell:=match spotW cells here v 0 with
 |(some (_,n,i),cells1)=>(here,setW cells1 n i v)
 |(none,cells1)=>(here,cells1)
noncomputable def askW (cells:List Cell) (kind:Nat) (here v:V):V×List Cell:=match spotW cells v (.s "k") (if kind=7 then 1 else 0) with
 |(some (b,n,i),cells1)=>(if kind=6 then .r b n i else getW cells1 n i,cells1)
 |(none,cells1)=>(here,cells1)
noncomputable def patW (here v:V):V:=match v with
 |.r b n i=>.p b n i
 |_=>here
noncomputable def doneW (cells:List Cell) (kind:Nat) (here v:V):V×List Cell:=
 if kind=0 then (v,cells) else if kind=1 then (.s "",cells) else if kind=2 then (.h cells.length,cells++[.dat [v,.s ""]])
 else if kind=3 then copyW cells v else if kind=5 then (.h cells.length,cells++[.tab []]) else if kind=10 then (.h cells.length,cells++[.arr [v,v]])
 else if kind=8 then putW cells here v else if kind=9 then (patW here v,cells) else askW cells kind here v
structure Step (R:Nat->Prop) (cells cells':List Cell):Prop where
 len:cells.length<=cells'.length
 parts:∀ m,∀ u∈partsN cells' m,u∈partsN cells m\/∀ n,numV u=some n->R n
variable {R:Nat->Prop} {cells:List Cell}
theorem Step.refl:Step R cells cells:=⟨Nat.le_refl _,fun ZZ ZZ h=>.inl h⟩
theorem Step.trans {a b c:List Cell} (x:Step R a b) (y:Step R b c):Step R a c:=
 ⟨Nat.le_trans x.len y.len,fun m u h=>(y.parts m u h).elim (x.parts m u) .inr⟩
variable {c:Cell} {m:Nat} {u:V}
theorem parts_append (h:u∈partsN (cells++[c]) m):u∈partsN cells m\/(m=cells.length/\u∈partsC c):=by
 unfold partsN at h
 by_cases hm:m<cells.length
 ·rw [List.getElem?_append_left hm] at h; exact .inl h
 ·by_cases e:m=cells.length
  ·subst e; rw [List.getElem?_concat_length] at h; exact .inr ⟨rfl,h⟩
  ·rw [List.getElem?_eq_none (by simp; exact om148 hm e)] at h; cases h
theorem Step.append (h:∀ u∈partsC c,∀ n,numV u=some n->R n):Step R cells (cells++[c]):=
 ⟨by simp,fun m u hu=>(parts_append hu).imp id fun z=>h u z.2⟩
variable {k:Nat}
theorem parts_set (h:u∈partsN (cells.set k c) m):u∈partsN cells m\/(m=k/\u∈partsC c):=by
 unfold partsN at h
 by_cases e:k=m
 ·subst e
  by_cases hk:k<cells.length
  ·rw [List.getElem?_set_self hk] at h; exact .inr ⟨rfl,h⟩
  ·rw [List.getElem?_eq_none (by simp; exact om48 hk)] at h; cases h
 ·rw [List.getElem?_set_ne e] at h; exact .inl h
theorem Step.set (h:∀ u∈partsC c,u∈partsN cells k\/∀ n,numV u=some n->R n):Step R cells (cells.set k c):=
 ⟨by simp,fun m u hu=>(parts_set hu).elim .inl fun z=>z.1▸h u z.2⟩
theorem mem_rows {rows:List (V×V)}:u∈rowsOf rows↔∃ p∈rows,u=p.1\/u=p.2:=by
 unfold rowsOf
 rw [List.mem_flatMap]
 simp
variable {i:Nat} {v:V}
theorem setC_parts (h:u∈partsC (setC c i v)):u∈partsC c\/u=v:=by
 cases c with
 |arr vs=>exact List.mem_or_eq_of_mem_set h
 |dat vs=>exact List.mem_or_eq_of_mem_set h
 |tab rows=>
  refine ex1_2 (mem_rows.mp (show u∈rowsOf (rows.modify i fun p=>(p.1,v)) from h)) fun p hp e=>?_
  obtain ⟨j,hj,e2⟩:=List.getElem_of_mem hp
  rw [List.getElem_modify] at e2
  have hj':j<rows.length:=by simpa using hj
  have hm:rows[j]∈rows:=List.getElem_mem hj'
  split at e2
  ·subst e2
   rcases e with e|e
   ·exact .inl (mem_rows.mpr ⟨_,hm,.inl e⟩)
   ·exact .inr e
  ·subst e2; exact .inl (mem_rows.mpr ⟨_,hm,e⟩)
variable {n:Nat}
set_option tactic.hygienic true in
theorem Step.setW (hv:∀ n,numV v=some n->R n):Step R cells (setW cells n i v):=by
 unfold Mine.setW
 split
 ·rename_i c hc
  refine .set fun u hu=>(setC_parts hu).imp (fun z=>?_) fun e n hn=>by subst e; exact hv n hn
  unfold partsN; rw [hc]; exact z
 ·exact .refl
variable {key:V} {a:Nat}
set_option tactic.hygienic true in
theorem Step.spot (hk:∀ n,numV key=some n->R n):Step R cells (spotW cells v key a).2:=by
 unfold spotW
 split
 ·rename_i n
  split
  ·exact .refl
  ·exact .refl
  ·rename_i rows hc
   split
   ·exact .refl
   ·refine .set fun u hu=>?_
    refine ex1_2 (mem_rows.mp (show u∈rowsOf (rows++[(keyW key,.s "")]) from hu)) fun p hp e=>?_
    rcases List.mem_append.mp hp with hp|hp
    ·refine .inl ?_
     unfold partsN; rw [hc]; exact mem_rows.mpr ⟨p,hp,e⟩
    ·rw [List.mem_singleton.mp hp] at e
     refine .inr fun n hn=>?_
     rcases e with e|e
     ·subst e
      cases key with
      |p b m j=>exact ns hn
      |_=>exact hk n hn
     ·subst e; exact ns hn
  ·exact .refl
 ·exact .refl
 ·exact .refl
theorem spot_num {b:Bool} (h:(spotW cells v key a).1=some (b,n,i)):numV v=some n:=by
 unfold spotW at h
 split at h
 ·split at h
  ·cases h; rfl
  ·cases h; rfl
  ·split at h <;> (cases h; rfl)
  ·exact ns h
 ·cases h; rfl
 ·exact ns h
theorem getW_parts:getW cells n i∈partsN cells n\/getW cells n i = .s "":=by
 unfold getW partsN
 cases hc:cells[n]? with
 |none=>exact .inr rfl
 |some c=>
  rw [Option.bind_some]
  cases hg:getC c i with
  |none=>exact .inr rfl
  |some v=>
   refine .inl ?_
   show v∈partsC c
   cases c with
   |arr vs=>exact List.mem_of_getElem? hg
   |dat vs=>exact List.mem_of_getElem? hg
   |tab rows=>
    refine ex1_2 (Option.map_eq_some_iff.mp (show (rows[i]?).map (·.2)=some v from hg)) fun p hp zz2=>?_; subst zz2
    exact mem_rows.mpr ⟨p,List.mem_of_getElem? hp,.inr rfl⟩
set_option tactic.hygienic true in
theorem done_step (hR:∀ m,R m->∀ u∈partsN cells m,∀ n,numV u=some n->R n) {kind:Nat} {here:V} (hh:∀ n,numV here=some n->R n) (hv:∀ n,numV v=some n->R n):
  Step R cells (doneW cells kind here v).2/\∀ n,numV (doneW cells kind here v).1=some n->R n\/(n=cells.length/\cells.length<(doneW cells kind here v).2.length):=by
 unfold doneW
 have new:∀ c:Cell,∀ n,numV (.h cells.length)=some n->R n\/(n=cells.length/\cells.length<(cells++[c]).length):=fun c n h=>by obtain rfl:=so h; exact .inr ⟨rfl,by simp⟩
 by_cases k0:kind=0
 ·rw [if_pos k0]; exact ⟨.refl,fun n h=>.inl (hv n h)⟩
 rw [if_neg k0]
 by_cases k1:kind=1
 ·rw [if_pos k1]; exact ⟨.refl,fun n h=>by exact ns h⟩
 rw [if_neg k1]
 by_cases k2:kind=2
 ·rw [if_pos k2]
  refine ⟨.append fun u hu n hn=>?_,new _⟩
  have hu:u∈[v,.s ""]:=hu
  simp only [List.mem_cons,List.not_mem_nil,or_false] at hu
  rcases hu with rfl|rfl
  ·exact hv n hn
  ·exact ns hn
 rw [if_neg k2]
 by_cases k3:kind=3
 ·rw [if_pos k3]
  unfold copyW
  split
  ·rename_i m
   split
   ·rename_i c hc
    refine ⟨.append fun u hu n hn=>hR m (hv m rfl) u ?_ n hn,new _⟩
    unfold partsN; rw [hc]; exact hu
   ·exact ⟨.refl,fun n h=>.inl (hv n h)⟩
  ·exact ⟨.refl,fun n h=>.inl (hv n h)⟩
 rw [if_neg k3]
 by_cases k5:kind=5
 ·rw [if_pos k5]; exact ⟨.append (fun u hu=>absurd hu (by show u∉rowsOf []; simp [rowsOf])),new _⟩
 rw [if_neg k5]
 by_cases k10:kind=10
 ·rw [if_pos k10]
  refine ⟨.append fun u hu n hn=>?_,new _⟩
  have hu:u∈[v,v]:=hu
  simp only [List.mem_cons,List.not_mem_nil,or_false,or_self] at hu
  exact hv n (hu▸hn)
 rw [if_neg k10]
 by_cases k8:kind=8
 ·rw [if_pos k8]
  have S:=Step.spot (R:=R) (cells:=cells) (v:=here) (key:=v) (a:=0) hv
  unfold putW
  split
  ·rename_i b n i c1 e
   rw [e] at S
   exact ⟨S.trans (.setW hv),fun n h=>.inl (hh n h)⟩
  ·rename_i c1 e
   rw [e] at S
   exact ⟨S,fun n h=>.inl (hh n h)⟩
 rw [if_neg k8]
 by_cases k9:kind=9
 ·rw [if_pos k9]
  refine ⟨.refl,fun n h=>.inl ?_⟩
  have h:numV (patW here v)=some n:=h
  unfold patW at h
  split at h
  ·exact hv n h
  ·exact hh n h
 rw [if_neg k9]
 have S:=Step.spot (R:=R) (cells:=cells) (v:=v) (key:=.s "k") (a:=if kind=7 then 1 else 0) (fun n h=>by exact ns h)
 unfold askW
 split
 ·rename_i b n i c1 e
  have hn:R n:=hv n (spot_num (by rw [e]))
  rw [e] at S
  refine ⟨S,fun j h=>.inl ?_⟩
  have h:numV (if kind=6 then V.r b n i else getW c1 n i)=some j:=h
  by_cases k6:kind=6
  ·rw [if_pos k6] at h; obtain rfl:=so h; exact hn
  ·rw [if_neg k6] at h
   rcases getW_parts (cells:=c1) (n:=n) (i:=i) with g|g
   ·rcases S.parts n _ g with q|q
    ·exact hR n hn _ q j h
    ·exact q j h
   ·rw [g] at h; exact ns h
 ·rename_i c1 e
  rw [e] at S
  exact ⟨S,fun n h=>.inl (hh n h)⟩
end
section
variable {cells:List Cell}
theorem walked_iff {ws:List V} {res:List Nat} (W:Walked cells ws [] res) (m:Nat):m∈res↔Reach cells ws m:=by
 constructor
 ·exact fun h=>W.least (Reach cells ws) (fun ZZ h=>nomatch h) (fun v hv n hn=>.root hv hn) (fun m hm v hv n hn=>.step hm hv hn) m h
 ·intro h
  induction h with
  |root hv hn=>exact W.new _ hv _ hn
  |step _ hv hn ih=>exact W.closed _ ih _ hv _ hn
variable {cells':List Cell} {st:List V} {r:V} {g m:Nat}
theorem reach_back (S:Step (Reach cells st) cells cells') (hr:∀ n,numV r=some n->Reach cells st n\/cells.length<=n) (h:Reach cells' (st.set g r) m):Reach cells st m\/cells.length<=m:=by
 induction h with
 |root hv hn=>
  rcases List.mem_or_eq_of_mem_set hv with hv|rfl
  ·exact .inl (.root hv hn)
  ·exact hr _ hn
 |step _ hv hn ih=>
  rcases S.parts _ _ hv with h|h
  ·rcases ih with ih|ih
   ·exact .inl (.step ih h hn)
   ·unfold partsN at h
    rw [List.getElem?_eq_none ih] at h; cases h
  ·exact .inl (h _ hn)
noncomputable def reachB (cells:List Cell) (st:List V) (m:Nat):Bool:=@decide (Reach cells st m) (Classical.propDecidable _)
theorem reachB_iff:reachB cells st m=true↔Reach cells st m:=by unfold reachB; exact @decide_eq_true_iff _ (Classical.propDecidable _)
structure KeptW (cells:List Cell) (st:List V) (held lost:List Nat):Prop where
 held:held=(List.range cells.length).filter fun m=>decide (m∉lost)
 nd:lost.Nodup
 lost:∀ m∈lost,m<cells.length/\¬ Reach cells st m
variable {held lost:List Nat}
theorem KeptW.collect (K:KeptW cells st held lost):KeptW cells st (held.filter (reachB cells st)) (lost++held.filter fun m=>!reachB cells st m):=by
 have hm:∀ m,m∈held↔m<cells.length/\m∉lost:=fun m=>by rw [K.held]; simp
 refine ⟨?_,?_,fun m hml=>?_⟩
 ·rw [K.held,List.filter_filter]
  refine List.filter_congr fun m hmr=>?_
  have hlt:m<cells.length:=by simpa using hmr
  by_cases hl:m∈lost
  ·simp [hl]
  ·cases hr:reachB cells st m <;> simp [hl,hlt,hr]
 ·rw [List.nodup_append]
  refine ⟨K.nd,?_,fun a ha b hb e=>?_⟩
  ·rw [K.held]; exact (List.nodup_range.filter _).filter _
  ·subst e
   have:=(hm a).mp (List.mem_filter.mp hb).1
   exact this.2 ha
 ·rcases List.mem_append.mp hml with h|h
  ·exact K.lost m h
  ·refine ex0_2 (List.mem_filter.mp h) fun h1 h2=>?_
   refine ⟨((hm m).mp h1).1,fun hr=>?_⟩
   rw [reachB_iff.mpr hr] at h2; exact ft h2
theorem KeptW.deed (K:KeptW cells st held lost) (S:Step (Reach cells st) cells cells') (hr:∀ n,numV r=some n->Reach cells st n\/cells.length<=n) {k:Nat} (hl:cells'.length=cells.length+k):
  KeptW cells' (st.set g r) (held++(List.range k).map (cells.length + ·)) lost:=by
 refine ⟨?_,K.nd,fun m hm=>⟨by have:=(K.lost m hm).1; exact om173 this hl,fun h=>?_⟩⟩
 ·rw [hl,List.range_add,List.filter_append,<- K.held]
  congr 1
  symm
  rw [List.filter_eq_self]
  intro m hm
  refine ex1_2 (List.mem_map.mp hm) fun j hj zz2=>?_; subst zz2
  rw [decide_eq_true_iff]
  intro h
  have:=(K.lost _ h).1
  exact om47 this
 ·have:=K.lost m hm
  rcases reach_back S hr h with h|h
  ·exact this.2 h
  ·omega
theorem KeptW.final (K:KeptW cells st held lost):
  held.filter (reachB cells st)=(List.range cells.length).filter (reachB cells st)/\(lost++held.filter fun m=>!reachB cells st m).Perm ((List.range cells.length).filter fun m=>!reachB cells st m):=by
 have hm:∀ m,m∈held↔m<cells.length/\m∉lost:=fun m=>by rw [K.held]; simp
 constructor
 ·rw [K.held,List.filter_filter]
  refine List.filter_congr fun m hmr=>?_
  by_cases hl:m∈lost
  ·have:reachB cells st m=false:=by
    cases h:reachB cells st m with
    |false=>rfl
    |true=>exact absurd (reachB_iff.mp h) (K.lost m hl).2
   simp [this]
  ·simp [hl]
 ·have K2:=K.collect
  refine (List.perm_ext_iff_of_nodup K2.nd (List.nodup_range.filter _)).mpr fun m=>?_
  rw [List.mem_append,List.mem_filter,List.mem_filter,List.mem_range,hm]
  constructor
  ·rintro (h|⟨⟨h1,h2⟩,h3⟩)
   ·have:=K.lost m h
    refine ⟨this.1,?_⟩
    cases hr:reachB cells st m with
    |false=>rfl
    |true=>exact absurd (reachB_iff.mp hr) this.2
   ·exact ⟨h1,h3⟩
  ·rintro ⟨h1,h2⟩
   by_cases hl:m∈lost
   ·exact .inl hl
   ·exact .inr ⟨⟨h1,hl⟩,h2⟩
theorem sort_perm {a b:List Int} (h:a.Perm b) (hb:b.Pairwise (· < ·)):sortI a=b:=by
 unfold sortI
 have p1:=List.mergeSort_perm a (fun x y=>decide (x<=y))
 have s1:=List.pairwise_mergeSort (le:=fun (x y:Int)=>decide (x<=y)) (fun x y z h1 h2=>by simp at *; exact om120 h1 h2) (fun x y=>by simp; exact om56) a
 refine List.Perm.eq_of_pairwise (le:=fun x y:Int=>x<=y) (fun x y ZZ ZZ h1 h2=>by exact om79 h1 h2) ?_ (hb.imp fun h=>by exact om36 h) (p1.trans h)
 exact s1.imp fun h=>by simpa using h
end
set_option tactic.hygienic true
theorem tg_208_word:inT tG 208 (Str.ofString "word")=true:=by kernel_rfl
theorem tg_208_number:inT tG 208 (Str.ofString "number")=true:=by kernel_rfl
theorem tg_208_mark:inT tG 208 (Str.ofString "mark")=true:=by kernel_rfl
theorem tg_227_word:inT tG 227 (Str.ofString "word")=true:=by kernel_rfl
theorem tg_227_number:inT tG 227 (Str.ofString "number")=true:=by kernel_rfl
theorem tg_227_mark:inT tG 227 (Str.ofString "mark")=true:=by kernel_rfl
theorem tg_227_entries:inT tG 227 (Str.ofString "entries")=true:=by kernel_rfl
theorem tg_227_rows:inT tG 227 (Str.ofString "rows")=true:=by kernel_rfl
theorem tg_246_word:inT tG 246 (Str.ofString "word")=true:=by kernel_rfl
theorem tg_246_number:inT tG 246 (Str.ofString "number")=true:=by kernel_rfl
theorem tg_246_mark:inT tG 246 (Str.ofString "mark")=true:=by kernel_rfl
theorem tg_348_store:inT tG 348 (Str.ofString "store")=true:=by kernel_rfl
theorem tg_348_holders:inT tG 348 (Str.ofString "holders")=true:=by kernel_rfl
theorem ts_208_mark:inT tS 208 (Str.ofString "mark")=true:=by kernel_rfl
theorem ts_227_mark:inT tS 227 (Str.ofString "mark")=true:=by kernel_rfl
theorem ts_246_mark:inT tS 246 (Str.ofString "mark")=true:=by kernel_rfl
theorem ts_348_width:inT tS 348 (Str.ofString "width")=true:=by kernel_rfl
theorem ts_348_most_steps:inT tS 348 (Str.ofString "most_steps")=true:=by kernel_rfl
theorem ts_348_most_depth:inT tS 348 (Str.ofString "most_depth")=true:=by kernel_rfl
theorem ts_348_most_length:inT tS 348 (Str.ofString "most_length")=true:=by kernel_rfl
theorem ts_348_most_items:inT tS 348 (Str.ofString "most_items")=true:=by kernel_rfl
theorem ts_348_store:inT tS 348 (Str.ofString "store")=true:=by kernel_rfl
theorem ts_348_functions:inT tS 348 (Str.ofString "functions")=true:=by kernel_rfl
theorem ts_348_labels:inT tS 348 (Str.ofString "labels")=true:=by kernel_rfl
theorem ts_348_keywords:inT tS 348 (Str.ofString "keywords")=true:=by kernel_rfl
theorem ts_348_opsyns:inT tS 348 (Str.ofString "opsyns")=true:=by kernel_rfl
theorem ts_348_inputs:inT tS 348 (Str.ofString "inputs")=true:=by kernel_rfl
theorem ts_348_outputs:inT tS 348 (Str.ofString "outputs")=true:=by kernel_rfl
theorem ts_348_traces:inT tS 348 (Str.ofString "traces")=true:=by kernel_rfl
theorem ts_348_read_names:inT tS 348 (Str.ofString "read_names")=true:=by kernel_rfl
theorem ts_348_write_names:inT tS 348 (Str.ofString "write_names")=true:=by kernel_rfl
theorem ts_348_traced:inT tS 348 (Str.ofString "traced")=true:=by kernel_rfl
theorem ts_348_steps:inT tS 348 (Str.ofString "steps")=true:=by kernel_rfl
theorem ts_348_depth:inT tS 348 (Str.ofString "depth")=true:=by kernel_rfl
theorem ts_348_nested:inT tS 348 (Str.ofString "nested")=true:=by kernel_rfl
theorem ts_348_aside:inT tS 348 (Str.ofString "aside")=true:=by kernel_rfl
theorem ts_348_made:inT tS 348 (Str.ofString "made")=true:=by kernel_rfl
theorem ts_348_holders:inT tS 348 (Str.ofString "holders")=true:=by kernel_rfl
theorem ts_348_evaluate:inT tS 348 (Str.ofString "evaluate")=true:=by kernel_rfl
theorem ts_348_make_code:inT tS 348 (Str.ofString "make_code")=true:=by kernel_rfl
theorem ts_348_matcher:inT tS 348 (Str.ofString "matcher")=true:=by kernel_rfl
theorem ts_348_kept_names:inT tS 348 (Str.ofString "kept_names")=true:=by kernel_rfl
theorem ti_str_54:isT (.type "str") (.ref 54)=some false:=by kernel_rfl
theorem ti_str_117:isT (.type "str") (.ref 117)=some false:=by kernel_rfl
theorem ti_str_138:isT (.type "str") (.ref 138)=some false:=by kernel_rfl
theorem ti_54_54:isT (.ref 54) (.ref 54)=some true:=by kernel_rfl
theorem ti_54_117:isT (.ref 54) (.ref 117)=some false:=by kernel_rfl
theorem ti_54_138:isT (.ref 54) (.ref 138)=some false:=by kernel_rfl
theorem ti_117_54:isT (.ref 117) (.ref 54)=some false:=by kernel_rfl
theorem ti_117_117:isT (.ref 117) (.ref 117)=some true:=by kernel_rfl
theorem ti_117_138:isT (.ref 117) (.ref 138)=some false:=by kernel_rfl
theorem ti_208_int:isT (.ref 208) (.type "int")=some false:=by kernel_rfl
theorem ti_208_str:isT (.ref 208) (.type "str")=some false:=by kernel_rfl
theorem ti_208_54:isT (.ref 208) (.ref 54)=some false:=by kernel_rfl
theorem ti_208_117:isT (.ref 208) (.ref 117)=some false:=by kernel_rfl
theorem ti_208_138:isT (.ref 208) (.ref 138)=some true:=by kernel_rfl
theorem ti_227_int:isT (.ref 227) (.type "int")=some false:=by kernel_rfl
theorem ti_227_str:isT (.ref 227) (.type "str")=some false:=by kernel_rfl
theorem ti_227_54:isT (.ref 227) (.ref 54)=some false:=by kernel_rfl
theorem ti_227_117:isT (.ref 227) (.ref 117)=some false:=by kernel_rfl
theorem ti_227_138:isT (.ref 227) (.ref 138)=some true:=by kernel_rfl
theorem ti_246_int:isT (.ref 246) (.type "int")=some false:=by kernel_rfl
theorem ti_246_str:isT (.ref 246) (.type "str")=some false:=by kernel_rfl
theorem ti_246_54:isT (.ref 246) (.ref 54)=some false:=by kernel_rfl
theorem ti_246_117:isT (.ref 246) (.ref 117)=some false:=by kernel_rfl
theorem ti_246_138:isT (.ref 246) (.ref 138)=some true:=by kernel_rfl
theorem ofS_inj {a b:String} (h:Str.ofString a=Str.ofString b):a=b:=by
 rw [Str.ofString_eq_toList,Str.ofString_eq_toList] at h
 injection h with h
 have h:a.toList.map Char.toNat=b.toList.map Char.toNat:=by simpa using congrArg Array.toList h
 have:∀ l m:List Char,l.map Char.toNat=m.map Char.toNat->l=m:=by
  intro l
  induction l with
  |nil=>intro m e; cases m with
   |nil=>rfl
   |cons _ _=>cases e
  |cons x r ih=>intro m e; cases m with
   |nil=>cases e
   |cons y t=>
    rw [List.map_cons,List.map_cons] at e
    injection e with e1 e2
    rw [ih _ e2,Char.toNat_inj.mp e1]
 exact String.toList_inj.mp (this _ _ h)
theorem ofS {a b:String}:(Str.ofString a == Str.ofString b)=decide (a=b):=by
 by_cases h:a=b
 ·subst h; simp
 ·have:Str.ofString a≠Str.ofString b:=fun e=>h (ofS_inj e)
  simp [h,this]
set_option tactic.hygienic false
set_option compiler.extract_closed false in
local macro_rules | `(tactic| delta $ids*) => `(tactic| with_reducible first $[| apply $ids:ident]*)
section
variable {ρ:List (Str×AV)} {H H1 H2 H3:List AO} {σ σ1:Mine.St} {x:Str} {a b v:AV} {as:List AV} {f g:Fn AV} {fs:Fn (List AV)} {F:FnC} {fb gb:FnS} {c d:Fn Bool} {i j l:Nat} {C:Addr} {es:List (Str×AV)} {t:Bool}
theorem v_loc (h:ρ.lookup x=some a):rdL x ρ H=some (a,H):=by unfold rdL; rw [h]
theorem v_cst:cst a ρ H=some (a,H):=rfl
theorem v_get (h:H[i]? = some (.inst C es)) (hG:inT tG C x=true) (hx:es.lookup x=some v) (hn:noGlob v=true):getA (inT tG) x (.loc i) H=some (v,H):=by
 unfold getA clsA attrA
 simp only [h,hG,if_true,hx,hn]
theorem v_attr (hf:f ρ H=some (.loc i,H1)) (h:H1[i]? = some (.inst C es)) (hG:inT tG C x=true) (hx:es.lookup x=some v) (hn:noGlob v=true):aF x f ρ H=some (v,H1):=by
 unfold aF; rw [hf]; exact v_get h hG hx hn
theorem v_nil:esNil ρ H=some ([],H):=rfl
theorem v_cons (hf:f ρ H=some (a,H1)) (hg:fs ρ H1=some (as,H2)):esCons f fs ρ H=some (a::as,H2):=by unfold esCons; rw [hf,bnd_mk,hg]; rfl
theorem v_call {r:AV×List AO} (hs:fs ρ H=some (as,H1)) (h:F as H1=some r):callF F fs ρ H=some r:=by unfold callF; rw [hs]; exact h
theorem v_isi {y:AV} {t:Value} {c:Value} (ht:typA y H=some t) (hs:(isT t c).isSome=true):isiA isT [y,.glob c] H=some (.bool ((isT t c).getD false),H):=by
 unfold isiA
 simp only [ht]
 cases e:isT t c with
 |none=>rw [e] at hs; exact ft hs
 |some b=>rfl
theorem v_tyI (h:H[i]? = some (.inst C es)):typA (.loc i) H=some (.ref C):=by unfold typA; simp only [h]
variable {xs:List AV}
theorem v_tyT (h:H[i]? = some (.tup xs)):typA (.loc i) H=some (.type "tuple"):=by unfold typA; simp only [h]
theorem v_val (h:f ρ H=some (.bool t,H1)):vB f ρ H=some (t,H1):=by unfold vB; rw [h]; rfl
noncomputable def ifK (t:Bool) (f g:FnS) (σ:Mine.St):Option (AF'×Mine.St):=if t=true then f σ else g σ
variable {r:AF'×Mine.St}
theorem v_if (hc:c σ.ρ σ.H=some (t,H1)) (h:ifK t fb gb ⟨σ.ρ,H1⟩=some r):sIf c fb gb σ=some r:=by unfold sIf; rw [hc]; exact h
theorem v_kT (e:t=true) (h:fb σ=some r):ifK t fb gb σ=some r:=by subst e; exact h
theorem v_kF (e:t=false) (h:gb σ=some r):ifK t fb gb σ=some r:=by subst e; exact h
noncomputable def seqK (fl:AF') (g:FnS) (σ:Mine.St):Option (AF'×Mine.St):=match fl with
 |.next=>g σ
 |fl=>some (fl,σ)
theorem v_seq {fl:AF'} (h:fb σ=some (fl,σ1)) (h2:seqK fl gb σ1=some r):sSeq fb gb σ=some r:=by unfold sSeq; rw [h]; exact h2
theorem v_sn (h:gb σ=some r):seqK .next gb σ=some r:=h
theorem v_sr:seqK (.ret a) gb σ=some (.ret a,σ):=rfl
theorem v_sc:seqK .cont gb σ=some (.cont,σ):=rfl
theorem v_skip:sSkip σ=some (.next,σ):=rfl
theorem v_ret (h:f σ.ρ σ.H=some (a,H1)):sRet f σ=some (.ret a,⟨σ.ρ,H1⟩):=by unfold sRet; rw [h]; rfl
theorem v_expr (h:f σ.ρ σ.H=some (a,H1)):sExpr f σ=some (.next,⟨σ.ρ,H1⟩):=by unfold sExpr; rw [h]; rfl
theorem v_asg (h:f σ.ρ σ.H=some (a,H1)):sAsg x f σ=some (.next,⟨(x,a)::σ.ρ,H1⟩):=by unfold sAsg; rw [h]; rfl
theorem v_set (hf:f σ.ρ σ.H=some (v,H1)) (hg:g σ.ρ H1=some (.loc i,H2)) (h:H2[i]? = some (.inst C es)) (hG:inT tS C x=true) (hl:es.length<=100):sSetA (inT tS) x f g σ=some (.next,⟨σ.ρ,H2.set i (.inst C (putA x v es))⟩):=by
 unfold sSetA
 rw [hf,bnd_mk,hg,bnd_mk]
 have:setA (inT tS) x (.loc i) v H2=some (H2.set i (.inst C (putA x v es))):=by unfold setA; simp only [h]; rw [if_pos ⟨hG,hl⟩]
 rw [this]
variable {ps:List Str} {ds:List AV}
theorem v_run (hl:(as++ds).length=ps.length) (h:fb ⟨(ps.zip (as++ds)).reverse,H⟩=some (.ret a,⟨ρ,H1⟩)):runB ps ds fb as H=some (a,H1):=by unfold runB; rw [if_pos hl,h]
theorem v_runN (hl:(as++ds).length=ps.length) (h:fb ⟨(ps.zip (as++ds)).reverse,H⟩=some (.next,⟨ρ,H1⟩)):runB ps ds fb as H=some (.none,H1):=by unfold runB; rw [if_pos hl,h]
theorem v_sub (hf:f ρ H=some (a,H1)) (hg:g ρ H1=some (b,H2)) (h:itemA a b H2=some v):subF f g ρ H=some (v,H2):=by unfold subF; rw [hf,bnd_mk,hg,bnd_mk,h]
variable {k:Nat}
theorem v_itL (h:H[l]? = some (.list xs)) (hz:xs.length<=1000000) (hx:xs[k]? = some v):itemA (.loc l) (.int k) H=some v:=by
 unfold itemA
 have hk:k<xs.length:=getElem?_lt hx
 have e:seqIndex? (k:Int) xs.length=some k:=by
  unfold seqIndex?
  have h1:¬ ((k:Int)<0):=om43
  simp only [h1,if_false]
  split
  ·simp
  ·rename_i h2; simp at h2; omega
 simp only [h,hz,if_true,e,Option.bind_some,hx]
theorem v_itT (h:H[l]? = some (.tup xs)) (hz:xs.length<=1000000) (hx:xs[k]? = some v):itemA (.loc l) (.int k) H=some v:=by
 unfold itemA
 have hk:k<xs.length:=getElem?_lt hx
 have e:seqIndex? (k:Int) xs.length=some k:=by
  unfold seqIndex?
  have h1:¬ ((k:Int)<0):=om43
  simp only [h1,if_false]
  split
  ·simp
  ·rename_i h2; simp at h2; omega
 simp only [h,hz,if_true,e,Option.bind_some,hx]
end
section
variable {ρ:List (Str×AV)} {H H1 H2 H3 H4:List AO} {σ σ1 σ2:Mine.St} {x y:Str} {a b b' v:AV} {as:List AV} {f g k:Fn AV} {fs:Fn (List AV)} {F:FnC} {fb gb:FnS} {c d:Fn Bool} {i j l:Nat} {C:Addr} {es:List (Str×AV)} {t:Bool} {xs ys:List AV} {o o':AO} {G G':AV->AV->List AO->Option Bool}
theorem l_old {t:List AO} (h:H[i]? = some o):(H++t)[i]? = some o:=by rw [List.getElem?_append_left (getElem?_lt h)]; exact h
theorem l_new:(H++[o])[H.length]? = some o:=List.getElem?_concat_length
theorem l_set (h:H[i]? = some o'):(H.set i o)[i]? = some o:=List.getElem?_set_self (getElem?_lt h)
theorem l_ne (n:i≠j) (h:H[j]? = some o):(H.set i o')[j]? = some o:=by rw [List.getElem?_set_ne n]; exact h
theorem v_tup (hs:fs ρ H=some (as,H1)) (hz:as.length<=1000):tupF fs ρ H=some (.loc H1.length,H1++[.tup as]):=by unfold tupF; rw [hs,bnd_mk,if_pos hz]
theorem v_list (hs:fs ρ H=some (as,H1)) (hz:as.length<=1000):listF fs ρ H=some (.loc H1.length,H1++[.list as]):=by unfold listF; rw [hs,bnd_mk,if_pos hz]
variable {r:AV×List AO}
theorem v_bin {O:FnO} (hf:f ρ H=some (a,H1)) (hg:g ρ H1=some (b,H2)) (h:O a b H2=some r):binF f g O ρ H=some r:=by unfold binF; rw [hf,bnd_mk,hg]; exact h
theorem v_neg (hf:f ρ H=some (a,H1)) (h:negA a H1=some r):negF f ρ H=some r:=by unfold negF; rw [hf]; exact h
noncomputable def ifE (t:Bool) (f g:Fn AV) (ρ:List (Str×AV)) (H:List AO):Option (AV×List AO):=if t=true then f ρ H else g ρ H
theorem v_ife (hc:c ρ H=some (t,H1)) (h:ifE t f g ρ H1=some r):ifF c f g ρ H=some r:=by unfold ifF; rw [hc]; exact h
theorem v_eT (e:t=true) (h:f ρ H=some r):ifE t f g ρ H=some r:=by subst e; exact h
theorem v_eF (e:t=false) (h:g ρ H=some r):ifE t f g ρ H=some r:=by subst e; exact h
theorem v_cmp (hf:f ρ H=some (a,H1)) (hg:g ρ H1=some (b,H2)) (h:G a b H2=some t):cmpF f g G ρ H=some (t,H2):=by unfold cmpF; rw [hf,bnd_mk,hg,bnd_mk,h]
theorem v_bv (hc:c ρ H=some (t,H1)):bV c ρ H=some (.bool t,H1):=by unfold bV; rw [hc]; rfl
noncomputable def chK (t:Bool) (k:Fn AV) (G':AV->AV->List AO->Option Bool) (b:AV) (ρ:List (Str×AV)) (H:List AO):Option (Bool×List AO):=if t=true then bnd (k ρ H) fun c H=>(match G' b c H with|some r=>some (r,H)|none=>none) else some (false,H)
variable {r:Bool×List AO}
theorem v_chain (hf:f ρ H=some (a,H1)) (hg:g ρ H1=some (b,H2)) (h:G a b H2=some t) (h2:chK t k G' b ρ H2=some r):chainF f g k G G' ρ H=some r:=by
 unfold chainF; rw [hf,bnd_mk,hg,bnd_mk,h]
 cases t <;> exact h2
noncomputable def orK (t:Bool) (d:Fn Bool) (ρ:List (Str×AV)) (H:List AO):Option (Bool×List AO):=if t=true then some (true,H) else d ρ H
noncomputable def andK (t:Bool) (d:Fn Bool) (ρ:List (Str×AV)) (H:List AO):Option (Bool×List AO):=if t=true then d ρ H else some (false,H)
theorem v_or (hc:c ρ H=some (t,H1)) (h:orK t d ρ H1=some r):orF c d ρ H=some r:=by unfold orF; rw [hc]; exact h
theorem v_and (hc:c ρ H=some (t,H1)) (h:andK t d ρ H1=some r):andF c d ρ H=some r:=by unfold andF; rw [hc]; exact h
theorem v_oF (e:t=false) (h:d ρ H=some r):orK t d ρ H=some r:=by subst e; exact h
theorem v_aT (e:t=true) (h:d ρ H=some r):andK t d ρ H=some r:=by subst e; exact h
theorem v_aF (e:t=false):andK t d ρ H=some (false,H):=by subst e; rfl
theorem v_not (hc:c ρ H=some (t,H1)):notF c ρ H=some (!t,H1):=by unfold notF; rw [hc]; rfl
theorem v_tt:tT ρ H=some (true,H):=rfl
theorem v_ff:tF ρ H=some (false,H):=rfl
theorem v_len (h:H[i]? = some (.list xs)) (hz:xs.length<=1000000):lenC [.loc i] H=some (.int xs.length,H):=by unfold lenC; simp only [h,hz,if_true]
theorem v_app (h:H[i]? = some (.list xs)) (hz:xs.length<=1000000):appendC [.loc i,v] H=some (.none,H.set i (.list (xs++[v]))):=by unfold appendC; simp only [h,hz,if_true]
theorem v_pop (h:H[i]? = some (.list (xs++[v]))) (hz:xs.length<1000000):popC [.loc i] H=some (v,H.set i (.list xs)):=by
 unfold popC
 have e1:(xs++[v])[(xs++[v]).length - 1]? = some v:=by simp
 have e2:(xs++[v]).length<=1000000:=by simp; exact om44 hz
 simp only [h,e1,e2,if_true,List.dropLast_concat]
theorem v_ext (h:H[i]? = some (.list xs)) (hy:seqA H[j]? = some ys) (hz:xs.length+ys.length<=1000000):extendC [.loc i,.loc j] H=some (.none,H.set i (.list (xs++ys))):=by unfold extendC; simp only [h,hy,hz,if_true]
theorem v_sqL (h:H[j]? = some (.list ys)):seqA H[j]? = some ys:=by rw [h]; rfl
theorem v_sqT (h:H[j]? = some (.tup ys)):seqA H[j]? = some ys:=by rw [h]; rfl
theorem v_lst (h:H[i]? = some (.list xs)) (hz:xs.length<=1000000):listC [.loc i] H=some (.loc H.length,H++[.list xs]):=by unfold listC; simp only [h,hz,if_true]
theorem v_isL (h:H[i]? = some (.list xs)):isListA (.loc i) H=true:=by unfold isListA; simp only [h]
theorem v_meth {r:AV×List AO} (hf:f ρ H=some (a,H1)) (hl:isListA a H1=true) (hs:fs ρ H1=some (as,H2)) (h:F (a::as) H2=some r):methF F f fs ρ H=some r:=by unfold methF; rw [hf,bnd_mk,if_pos hl,hs]; exact h
theorem v_swap (h:f σ.ρ σ.H=some (.loc l,H1)) (hl:H1[l]? = some (.tup [a,b])):sSwap x y f σ=some (.next,⟨(x,a)::(y,b)::σ.ρ,H1⟩):=by unfold sSwap; rw [h,bnd_mk]; simp only [hl]
theorem v_swap3 {z:Str} (h:f σ.ρ σ.H=some (.loc l,H1)) (hl:H1[l]? = some (.tup [a,b,b'])):sSwap3 x y z f σ=some (.next,⟨(x,a)::(y,b)::(z,b')::σ.ρ,H1⟩):=by unfold sSwap3; rw [h,bnd_mk]; simp only [hl]
variable {fa:AV->Mine.St->Option Mine.St}
theorem v_unp (h:f σ.ρ σ.H=some (a,H1)) (h2:fa a ⟨σ.ρ,H1⟩=some σ1):sUnp fa f σ=some (.next,σ1):=by unfold sUnp; rw [h,bnd_mk,h2]
theorem v_nm:aName x a σ=some ⟨(x,a)::σ.ρ,σ.H⟩:=rfl
theorem v_pair {fc:AV->Mine.St->Option Mine.St} (h:seqA σ.H[l]? = some [a,b]) (h1:fa a σ=some σ1) (h2:fc b σ1=some σ2):aPair fa fc (.loc l) σ=some σ2:=by unfold aPair; simp only [h,h1]; exact h2
theorem v_put (hf:f σ.ρ σ.H=some (v,H1)) (hg:g σ.ρ H1=some (a,H2)) (hk:k σ.ρ H2=some (b,H3)) (h:putItem a b v H3=some H4):sPut f g k σ=some (.next,⟨σ.ρ,H4⟩):=by unfold sPut; rw [hf,bnd_mk,hg,bnd_mk,hk,bnd_mk,h]
variable {n:Nat}
theorem v_piL (h:H[l]? = some (.list xs)) (hn:n<xs.length) (hz:xs.length<=1000000):putItem (.loc l) (.int n) v H=some (H.set l (.list (xs.set n v))):=by
 unfold putItem
 simp only [h]
 rw [if_pos ⟨by exact om34,by exact om170 hn,hz⟩]; rfl
theorem v_cls (h:F (.loc H.length::as) (H++[.inst C []])=some (.none,H1)):clsF C F as H=some (.loc H.length,H1):=by unfold clsF; rw [h]
theorem v_slice (hf:f ρ H=some (.loc l,H1)) (hg:g ρ H1=some (.int n,H2)) (h:H2[l]? = some (.list xs)) (hz:xs.length<=1000000):sliceF f g ρ H=some (.loc H2.length,H2++[.list (xs.take n)]):=by
 unfold sliceF; rw [hf,bnd_mk,hg,bnd_mk]
 simp only [h]
 rw [if_pos ⟨by exact om34,hz⟩]; rfl
theorem v_d0:dict0F ρ H=some (.loc H.length,H++[.dnil]):=rfl
theorem v_dS {ds:List (Str×AV)}:dictSF ds ρ H=some (.loc H.length,H++[.dstr ds]):=rfl
theorem v_aug {m n:Int} (hf:f σ.ρ σ.H=some (.loc i,H1)) (h:H1[i]? = some (.inst C es)) (hG:inT tG C x=true) (hx:es.lookup x=some (.int m)) (hg:g σ.ρ H1=some (.int n,H2)) (h2:H2[i]? = some (.inst C es)) (hS:inT tS C x=true) (hl:es.length<=100):
  sAug (inT tG) (inT tS) x f g σ=some (.next,⟨σ.ρ,H2.set i (.inst C (putA x (.int (m+n)) es))⟩):=by
 unfold sAug
 rw [hf,bnd_mk,v_get h hG hx rfl,bnd_mk,hg,bnd_mk]
 have:setA (inT tS) x (.loc i) (.int (m+n)) H2=some (H2.set i (.inst C (putA x (.int (m+n)) es))):=by unfold setA; simp only [h2]; rw [if_pos ⟨hS,hl⟩]
 simp only [this]
end
section
variable {ρ:List (Str×AV)} {H H1:List AO} {σ:Mine.St} {fi fi':FnI} {fa fa':AV->Mine.St->Option Mine.St} {fb:FnS} {fc c:Fn Bool} {fe f:Fn AV} {nx:Nx} {l:Nat} {xs:List AV} {a:AV}
theorem loop_ok (n:Nat) (I:Nat->Mine.St->Prop) (stop:∀ σ,I n σ->nx n σ.H=some none)
  (step:∀ i σ,i<n->I i σ->∃ a H' σ1 fl σ2,nx i σ.H=some (some (a,H'))/\fa a ⟨σ.ρ,H'⟩=some σ1/\fb σ1=some (fl,σ2)/\(fl = .next\/fl = .cont)/\I (i+1) σ2):
  ∀ (k i:Nat) (σ:Mine.St),i<=n->n - i<k->I i σ->∃ σ',loopA nx fa fb k i σ=some (.next,σ')/\I n σ':=by
 intro k
 induction k with
 |zero=>intro i σ _ h; omega
 |succ k ih=>
  intro i σ hi hk hI
  unfold loopA
  by_cases e:i=n
  ·subst e
   rw [stop σ hI]
   exact ⟨σ,rfl,hI⟩
  ·refine ex5_5 (step i σ (om104 hi e) hI) fun a H' σ1 fl σ2 h1 h2 h3 h4 h5=>?_
   rw [h1]
   simp only [h2,h3]
   rcases h4 with rfl|rfl
   ·exact ih (i+1) σ2 (om144 hi e) (om244 hk hi e) h5
   ·exact ih (i+1) σ2 (om144 hi e) (om244 hk hi e) h5
theorem v_for (hi:fi σ.ρ σ.H=some (nx,H1)) (n:Nat) (hN:n<100000) (I:Nat->Mine.St->Prop) (h0:I 0 ⟨σ.ρ,H1⟩) (stop:∀ σ,I n σ->nx n σ.H=some none)
  (step:∀ i σ,i<n->I i σ->∃ a H' σ1 fl σ2,nx i σ.H=some (some (a,H'))/\fa a ⟨σ.ρ,H'⟩=some σ1/\fb σ1=some (fl,σ2)/\(fl = .next\/fl = .cont)/\I (i+1) σ2):
  ∃ σ',sFor NN fi fa fb σ=some (.next,σ')/\I n σ':=by
 unfold sFor
 rw [hi]
 exact loop_ok n I stop step NN 0 _ (Nat.zero_le _) (by show n - 0<100000; exact om69 hN) h0
theorem v_while (I:Nat->Mine.St->Prop) (Q:Mine.St->Prop)
  (step:∀ n σ,I n σ->∃ t H1,c σ.ρ σ.H=some (t,H1)/\(t=false->Q ⟨σ.ρ,H1⟩)/\(t=true->∃ fl σ2,fb ⟨σ.ρ,H1⟩=some (fl,σ2)/\(fl = .next\/fl = .cont)/\∃ m,m<n/\I m σ2)):
  ∀ (N n:Nat) (σ:Mine.St),n<N->I n σ->∃ σ',whileA c fb N σ=some (.next,σ')/\Q σ':=by
 intro N
 induction N with
 |zero=>intro n σ h; omega
 |succ N ih=>
  intro n σ hn hI
  refine ex2_3 (step n σ hI) fun t H1 h1 h2 h3=>?_
  unfold whileA
  rw [h1]
  cases t with
  |false=>exact ⟨_,rfl,h2 rfl⟩
  |true=>
   obtain ⟨fl,σ2,h4,h5,m,hm,h6⟩:=h3 rfl
   simp only [h4]
   rcases h5 with rfl|rfl
   ·exact ih m σ2 (om150 hn hm) h6
   ·exact ih m σ2 (om150 hn hm) h6
theorem comp_ok {d:Nat} (n:Nat) (P:Nat->List AV->List AO->Prop) (hd:∀ i ys H,P i ys H->H[d]? = some (.list ys)) (stop:∀ ys H,P n ys H->nx n H=some none)
  (step:∀ i ys H,i<n->P i ys H->∃ a H' σ1 t H2,nx i H=some (some (a,H'))/\fa a ⟨ρ,H'⟩=some σ1/\fc σ1.ρ σ1.H=some (t,H2)/\(t=false->P (i+1) ys H2) /\
   (t=true->∃ v H3,fe σ1.ρ H2=some (v,H3)/\H3[d]? = some (.list ys)/\ys.length<=1000000/\P (i+1) (ys++[v]) (H3.set d (.list (ys++[v]))))):
  ∀ (k i:Nat) (ys:List AV) (H:List AO),i<=n->n - i<k->P i ys H->∃ zs H',compA nx fa fc fe ρ d k i H=some H'/\P n zs H':=by
 intro k
 induction k with
 |zero=>intro i ys H _ h; omega
 |succ k ih=>
  intro i ys H hi hk hP
  unfold compA
  by_cases e:i=n
  ·subst e
   rw [stop ys H hP]
   exact ⟨ys,H,rfl,hP⟩
  ·refine ex5_5 (step i ys H (om104 hi e) hP) fun a H' σ1 t H2 h1 h2 h3 h4 h5=>?_
   rw [h1]
   simp only [h2,h3]
   cases t with
   |false=>exact ih (i+1) ys H2 (om144 hi e) (om244 hk hi e) (h4 rfl)
   |true=>
    refine ex2_4 (h5 rfl) fun v H3 h6 h7 h8 h9=>?_
    simp only [h6,h7,h8,if_true]
    exact ih (i+1) _ _ (om144 hi e) (om244 hk hi e) h9
theorem v_comp {cap:List Str} (hi:fi ρ H=some (nx,H1)) (n:Nat) (hN:n<100000) (P:Nat->List AV->List AO->Prop) (h0:P 0 [] (H1++[.list []])) (hd:∀ i ys H,P i ys H->H[H1.length]? = some (.list ys)) (stop:∀ ys H,P n ys H->nx n H=some none)
  (step:∀ i ys H,i<n->P i ys H->∃ a H' σ1 t H2,nx i H=some (some (a,H'))/\fa a ⟨resK cap ρ,H'⟩=some σ1/\fc σ1.ρ σ1.H=some (t,H2)/\(t=false->P (i+1) ys H2) /\
   (t=true->∃ v H3,fe σ1.ρ H2=some (v,H3)/\H3[H1.length]? = some (.list ys)/\ys.length<=1000000/\P (i+1) (ys++[v]) (H3.set H1.length (.list (ys++[v]))))):
  ∃ zs H',compF NN fi cap fa fc fe ρ H=some (.loc H1.length,H')/\P n zs H':=by
 unfold compF
 rw [hi]
 refine ex2_2 (comp_ok n P hd stop step NN 0 [] (H1++[.list []]) (Nat.zero_le _) (by show n - 0<100000; exact om69 hN) h0) fun zs H' h1 h2=>?_
 exact ⟨zs,H',by simp only [h1],h2⟩
theorem i_list (h:f ρ H=some (.loc l,H1)) (hl:H1[l]? = some (.list xs)):iList f ρ H=some (nxList l,H1):=by unfold iList; rw [h,bnd_mk]; simp only [hl]
theorem n_list {i:Nat} (hl:H[l]? = some (.list xs)) (hx:xs[i]? = some a):nxList l i H=some (some (a,H)):=by unfold nxList; simp only [hl,hx]
theorem n_listE (hl:H[l]? = some (.list xs)):nxList l xs.length H=some none:=by
 unfold nxList
 have:xs[xs.length]? = none:=by simp
 simp only [hl,this,if_true]
theorem i_call {G:List AV->List AO->Option Nx} {fs:Fn (List AV)} {as:List AV} (h:fs ρ H=some (as,H1)) (hg:G as H1=some nx):iCall G fs ρ H=some (nx,H1):=by unfold iCall; rw [h,bnd_mk,hg]
end
section
abbrev Tags:=Nat->Nat×Nat×Nat
def FootT (n:Nat) (t:Nat×Nat×Nat):Prop:=(1<=t.1/\t.1<=6/\t.2.1=n)\/t.1=7
def Stab:AO->Prop
 |.tup _=>True
 |.inst C _=>C=54\/C=117
 |_=>False
def KeepS (H H':List AO):Prop:=∀ (i:Nat) (o:AO),H[i]? = some o->Stab o->H'[i]? = some o
noncomputable def kn (b:Bool):Str:=if b=true then "item" else "field"
def RefAt (φ:Nat->Nat) (H:List AO) (j:Nat) (b:Bool) (n i:Nat):Prop:=∃ es,H[j]? = some (.inst 117 es)/\es.lookup (Str.ofString "kind")=some (.str (kn b))/\es.lookup (Str.ofString "owner")=some (.loc (φ n))/\es.lookup (Str.ofString "key")=some (.int i)
def VV (φ:Nat->Nat) (H:List AO):V->AV->Prop
 |.s x,a=>a = .str x
 |.h n,a=>a = .loc (φ n)
 |.r b n i,a=>∃ j,a = .loc j/\RefAt φ H j b n i
 |.p b n i,a=>∃ j es t u k,a = .loc j/\H[j]? = some (.inst 54 es)/\es.lookup (Str.ofString "node")=some (.loc t)/\H[t]? = some (.tup [.str "later",.loc u,.loc k])/\H[u]? = some (.tup [.str "rem"])/\RefAt φ H k b n i
def VVs (φ:Nat->Nat) (H:List AO):List V->List AV->Prop
 |[],[]=>True
 |v::vs,a::as=>VV φ H v a/\VVs φ H vs as
 |_,_=>False
variable {φ φ':Nat->Nat} {H H':List AO} {j n i:Nat}
theorem RefAt.keep (k:KeepS H H') {b:Bool} (hφ:φ' n=φ n) (h:RefAt φ H j b n i):RefAt φ' H' j b n i:=by
 obtain ⟨es,h1,h2,h3,h4⟩:=h
 exact ⟨es,k j _ h1 (.inr rfl),h2,by rw [hφ]; exact h3,h4⟩
theorem VV.keep (k:KeepS H H') {v:V} {a:AV} (hφ:∀ n,numV v=some n->φ' n=φ n) (h:VV φ H v a):VV φ' H' v a:=by
 cases v with
 |s _=>exact h
 |h n=>show _=_; rw [hφ n rfl]; exact h
 |r b n i=>exact ex1_2 h fun j e r=>⟨j,e,r.keep k (hφ n rfl)⟩
 |p b n i=>obtain ⟨j,es,t,u,q,e,h1,h2,h3,h4,r⟩:=h; exact ⟨j,es,t,u,q,e,k j _ h1 (.inl rfl),h2,k t _ h3 trivial,k u _ h4 trivial,r.keep k (hφ n rfl)⟩
theorem VVs.ind {P:List V->List AV->Prop} (hn:P [] []) (hc:∀ v vs a as,VV φ H v a->VVs φ H vs as->P vs as->P (v::vs) (a::as)):∀ {vs:List V} {as:List AV},VVs φ H vs as->P vs as:=by
 intro vs
 induction vs with
 |nil=>intro as h; cases as with
  |nil=>exact hn
  |cons a as=>exact h.elim
 |cons v vs ih=>intro as h; cases as with
  |nil=>exact h.elim
  |cons a as=>exact hc v vs a as h.1 h.2 (ih h.2)
variable {vs:List V} {as:List AV}
theorem vvx {xs:List AV} {a:AV} {st:List V} (h:VVs φ H st (a::xs)):∃ u us,st=u::us/\VV φ H u a/\VVs φ H us xs:=by
 cases st with
 |nil=>exact h.elim
 |cons u us=>exact ⟨u,us,rfl,h.1,h.2⟩
theorem vvx3 {a b c:AV} {st:List V} (h:VVs φ H st [a,b,c]):∃ u v t,st = [u,v,t]/\VV φ H u a/\VV φ H v b/\VV φ H t c:=by
 refine ex2_3 (vvx h) fun u us e p h1=>?_
 refine ex2_3 (vvx h1) fun v us1 e1 q h2=>?_
 refine ex2_3 (vvx h2) fun t us2 e2 r h3=>?_
 cases us2 with
 |nil=>exact ⟨u,v,t,by rw [e,e1,e2],p,q,r⟩
 |cons _ _=>exact h3.elim
theorem VVs.keep (k:KeepS H H') (hφ:∀ v∈vs,∀ n,numV v=some n->φ' n=φ n) (h:VVs φ H vs as):VVs φ' H' vs as:=
 VVs.ind (P:=fun vs as=>(∀ v∈vs,∀ n,numV v=some n->φ' n=φ n)->VVs φ' H' vs as) (fun ZZ=>trivial) (fun v ZZ ZZ ZZ r ZZ ih hφ=>⟨r.keep k (hφ v (.head _)),ih fun u hu=>hφ u (.tail _ hu)⟩) h hφ
theorem VVs.len (h:VVs φ H vs as):as.length=vs.length:=
 VVs.ind (P:=fun vs as=>as.length=vs.length) rfl (fun ZZ ZZ ZZ ZZ ZZ ZZ ih=>congrArg (· + 1) ih) h
variable {v:V}
theorem VVs.get (h:VVs φ H vs as) (e:vs[i]? = some v):∃ a,as[i]? = some a/\VV φ H v a:=by
 refine VVs.ind (P:=fun vs as=>∀ i,vs[i]? = some v->∃ a,as[i]? = some a/\VV φ H v a) (fun i e=>by exact ns e) (fun u us a as r ZZ ih i e=>?_) h i e
 cases i with
 |zero=>obtain rfl:=so e; exact ⟨a,rfl,r⟩
 |succ i=>exact ih i e
theorem VVs.append {ws:List V} {bs:List AV} (h:VVs φ H vs as) (h':VVs φ H ws bs):VVs φ H (vs++ws) (as++bs):=
 VVs.ind (P:=fun vs as=>VVs φ H (vs++ws) (as++bs)) h' (fun ZZ ZZ ZZ ZZ r ZZ ih=>by rw [List.cons_append,List.cons_append]; exact ⟨r,ih⟩) h
theorem VVs.set {a:AV} (hv:VV φ H v a) (h:VVs φ H vs as):VVs φ H (vs.set i v) (as.set i a):=by
 refine VVs.ind (P:=fun vs as=>∀ i,VVs φ H (vs.set i v) (as.set i a)) (fun ZZ=>trivial) (fun u us b bs r t ih i=>?_) h i
 cases i with
 |zero=>exact ⟨hv,t⟩
 |succ i=>exact ⟨r,ih i⟩
noncomputable def markL:V->List KE
 |.s x=>[.inl "STRING",.inl x]
 |.h n=>[.inl "HOLDER",.inr (n+1)]
 |.r b n i=>[.inl "NAME",.inl (kn b),.inr (n+1),.inr i]
 |.p _ _ _=>[]
def MarkAt (H:List AO) (j:Nat) (ks:List KE):Prop:=∃ as,H[j]? = some (.tup as)/\keOf as=some ks
theorem MarkAt.keep (k:KeepS H H') {ks:List KE} (h:MarkAt H j ks):MarkAt H' j ks:=let ⟨as,h1,h2⟩:=h; ⟨as,k j _ h1 trivial,h2⟩
abbrev RowR:=Nat×Nat×Nat
noncomputable def tabE:List (V×V)->List RowR->List (List KE×Nat×AV)
 |kv::rows,r::R=>(markL kv.1,r.1,.loc r.2.2)::tabE rows R
 |_,_=>[]
noncomputable def tabP:Nat->List (V×V)->List RowR->List (List KE×Nat×AV)
 |k,kv::rows,r::R=>(markL kv.1,r.2.1,.int k)::tabP (k+1) rows R
 |_,_,_=>[]
noncomputable def dOf (es:List (List KE×Nat×AV)):AO:=match es with
 |[]=>.dnil
 |es=>.dtup es
def RowsAt (φ:Nat->Nat) (ω:Tags) (H:List AO) (n:Nat):Nat->List (V×V)->List RowR->Prop
 |_,[],[]=>True
 |k,kv::rows,r::R=>(∃ a b,H[r.2.2]? = some (.list [a,b])/\VV φ H kv.1 a/\VV φ H kv.2 b)/\ω r.2.2=(6,n,k)/\MarkAt H r.1 (markL kv.1)/\MarkAt H r.2.1 (markL kv.1)/\RowsAt φ ω H n (k+1) rows R
 |_,_,_=>False
structure InstAt (φ:Nat->Nat) (ω:Tags) (H:List AO) (n:Nat) (C:Addr) (word:Str) (es:List (Str×AV)):Prop where
 at':H[φ n]? = some (.inst C es)
 tag:ω (φ n)=(1,n,0)
 word:es.lookup (Str.ofString "word")=some (.str word)
 number:es.lookup (Str.ofString "number")=some (.int (n+1))
 mark:∃ m:Int,es.lookup (Str.ofString "mark")=some (.int m)
 size:es.length<=50
inductive ArrAt (φ:Nat->Nat) (ω:Tags) (H:List AO) (n:Nat) (vs:List V):Prop
 |mk (es:List (Str×AV)) (l b t:Nat) (xs:List AV) (_:InstAt φ ω H n 208 "ARRAY" es) (_:es.lookup (Str.ofString "told")=some (.str "2")) (_:es.lookup (Str.ofString "bounds")=some (.loc b)) (_:H[b]? = some (.list [.loc t])) (_:ω b=(7,0,0)) (_:H[t]? = some (.tup [.int 1,.int 2]))
   (_:es.lookup (Str.ofString "items")=some (.loc l)) (_:H[l]? = some (.list xs)) (_:ω l=(2,n,0)) (_:VVs φ H vs xs) (_:vs.length=2)
inductive DatAt (φ:Nat->Nat) (ω:Tags) (H:List AO) (n:Nat) (vs:List V):Prop
 |mk (es:List (Str×AV)) (l b:Nat) (xs:List AV) (_:InstAt φ ω H n 246 "NODE" es) (_:es.lookup (Str.ofString "fields")=some (.loc b)) (_:H[b]? = some (.list [.str "VALUE",.str "LINK"])) (_:ω b=(7,0,0))
   (_:es.lookup (Str.ofString "values")=some (.loc l)) (_:H[l]? = some (.list xs)) (_:ω l=(2,n,0)) (_:VVs φ H vs xs) (_:vs.length=2)
inductive TabAt (φ:Nat->Nat) (ω:Tags) (H:List AO) (n:Nat) (rows:List (V×V)):Prop
 |mk (es:List (Str×AV)) (e p w:Nat) (R:List RowR) (_:InstAt φ ω H n 227 "TABLE" es) (_:es.lookup (Str.ofString "entries")=some (.loc e)) (_:es.lookup (Str.ofString "places")=some (.loc p)) (_:es.lookup (Str.ofString "rows")=some (.loc w))
   (_:H[e]? = some (dOf (tabE rows R))) (_:ω e=(3,n,0)) (_:H[p]? = some (dOf (tabP 0 rows R))) (_:ω p=(4,n,0)) (_:H[w]? = some (.list (R.map fun r=>.loc r.2.2))) (_:ω w=(5,n,0))
   (_:RowsAt φ ω H n 0 rows R) (_:(rows.map (·.1)).Nodup) (_:∀ kv∈rows,∀ b m i,kv.1≠.p b m i)
def CellAt (φ:Nat->Nat) (ω:Tags) (H:List AO) (n:Nat):Cell->Prop
 |.arr vs=>ArrAt φ ω H n vs
 |.dat vs=>DatAt φ ω H n vs
 |.tab rows=>TabAt φ ω H n rows
variable {ω ω':Tags} {m:Nat}
theorem tg (hω:∀ i:Nat,(ω i).1≠0->ω' i=ω i) {k:Nat} (h:ω i=(k+1,n,m)):ω' i=(k+1,n,m):=by rw [hω i (by rw [h]; exact Nat.succ_ne_zero k)]; exact h
theorem RowsAt.ind {P:Nat->List (V×V)->List RowR->Prop} (hn:∀ k,P k [] [])
  (hc:∀ k kv rows r R,(∃ a b,H[r.2.2]? = some (.list [a,b])/\VV φ H kv.1 a/\VV φ H kv.2 b)->ω r.2.2=(6,n,k)->MarkAt H r.1 (markL kv.1)->MarkAt H r.2.1 (markL kv.1)->RowsAt φ ω H n (k+1) rows R->P (k+1) rows R->P k (kv::rows) (r::R)):
  ∀ {k:Nat} {rows:List (V×V)} {R:List RowR},RowsAt φ ω H n k rows R->P k rows R:=by
 intro k rows
 induction rows generalizing k with
 |nil=>intro R h; cases R with
  |nil=>exact hn k
  |cons r R=>exact h.elim
 |cons kv rows ih=>intro R h; cases R with
  |nil=>exact h.elim
  |cons r R=>exact hc k kv rows r R h.1 h.2.1 h.2.2.1 h.2.2.2.1 h.2.2.2.2 (ih h.2.2.2.2)
theorem RowsAt.keep (k:KeepS H H') (f:∀ (i:Nat) (o:AO),H[i]? = some o->FootT n (ω i)->H'[i]? = some o) (hω:∀ i:Nat,(ω i).1≠0->ω' i=ω i)
  {rows:List (V×V)} {R:List RowR} (hφ:∀ v∈rowsOf rows,∀ j,numV v=some j->φ' j=φ j) (h:RowsAt φ ω H n m rows R):RowsAt φ' ω' H' n m rows R:=by
 refine RowsAt.ind (P:=fun m rows R=>(∀ v∈rowsOf rows,∀ j,numV v=some j->φ' j=φ j)->RowsAt φ' ω' H' n m rows R) (fun ZZ ZZ=>trivial) (fun m kv rows r R h1 h4 h5 h6 ZZ ih hφ=>?_) h hφ
 rw [show rowsOf (kv::rows)=kv.1::kv.2::rowsOf rows from rfl] at hφ
 refine ex2_3 h1 fun a b h1 h2 h3=>?_
 exact ⟨⟨a,b,f _ _ h1 (.inl (by rw [h4]; exact ⟨Nat.le_of_ble_eq_true rfl,Nat.le_of_ble_eq_true rfl,rfl⟩)),h2.keep k (hφ _ (.head _)),h3.keep k (hφ _ (.tail _ (.head _)))⟩,tg hω h4,h5.keep k,h6.keep k,ih fun v hv=>hφ v (.tail _ (.tail _ hv))⟩
theorem InstAt.keep {C:Addr} {word:Str} {es:List (Str×AV)} (f:∀ (i:Nat) (o:AO),H[i]? = some o->FootT n (ω i)->H'[i]? = some o) (hω:∀ i:Nat,(ω i).1≠0->ω' i=ω i) (hn:φ' n=φ n) (h:InstAt φ ω H n C word es):InstAt φ' ω' H' n C word es:=
 { h with at':=by rw [hn]; exact f _ _ h.at' (.inl (by rw [h.tag]; exact ⟨Nat.le_refl _,Nat.le_of_ble_eq_true rfl,rfl⟩)),tag:=by rw [hn]; exact tg hω h.tag }
theorem CellAt.keep (k:KeepS H H') (f:∀ (i:Nat) (o:AO),H[i]? = some o->FootT n (ω i)->H'[i]? = some o) (hω:∀ i:Nat,(ω i).1≠0->ω' i=ω i) (hn:φ' n=φ n):
  ∀ {c:Cell},(∀ v∈partsC c,∀ j,numV v=some j->φ' j=φ j)->CellAt φ ω H n c->CellAt φ' ω' H' n c
 |.arr vs,hφ,h=>by
  obtain ⟨es,l,b,t,xs,h1,h2,h3,h4,h5,h6,h7,h8,h9,h10,h11⟩:=h
  exact ⟨es,l,b,t,xs,h1.keep f hω hn,h2,h3,f _ _ h4 (.inr (by rw [h5])),tg hω h5,k _ _ h6 trivial,h7,f _ _ h8 (.inl (by rw [h9]; exact ⟨Nat.le_of_ble_eq_true rfl,Nat.le_of_ble_eq_true rfl,rfl⟩)),tg hω h9,h10.keep k hφ,h11⟩
 |.dat vs,hφ,h=>by
  obtain ⟨es,l,b,xs,h1,h3,h4,h5,h7,h8,h9,h10,h11⟩:=h
  exact ⟨es,l,b,xs,h1.keep f hω hn,h3,f _ _ h4 (.inr (by rw [h5])),tg hω h5,h7,f _ _ h8 (.inl (by rw [h9]; exact ⟨Nat.le_of_ble_eq_true rfl,Nat.le_of_ble_eq_true rfl,rfl⟩)),tg hω h9,h10.keep k hφ,h11⟩
 |.tab rows,hφ,h=>by
  obtain ⟨es,e,p,w,R,h1,h2,h3,h4,h5,h6,h7,h8,h9,h10,h11,h12,h13⟩:=h
  exact ⟨es,e,p,w,R,h1.keep f hω hn,h2,h3,h4,f _ _ h5 (.inl (by rw [h6]; exact ⟨Nat.le_of_ble_eq_true rfl,Nat.le_of_ble_eq_true rfl,rfl⟩)),tg hω h6,f _ _ h7 (.inl (by rw [h8]; exact ⟨Nat.le_of_ble_eq_true rfl,Nat.le_of_ble_eq_true rfl,rfl⟩)),tg hω h8,
   f _ _ h9 (.inl (by rw [h10]; exact ⟨Nat.le_of_ble_eq_true rfl,Nat.le_of_ble_eq_true rfl,rfl⟩)),tg hω h10,h11.keep k f hω hφ,h12,h13⟩
end
section
structure HW (φ:Nat->Nat) (ω:Tags) (N0:Nat) (H:List AO) (cells:List Cell):Prop where
 cell:∀ n c,cells[n]? = some c->CellAt φ ω H n c
 low:∀ i,i<N0->ω i=(0,0,0)
 len:N0<=H.length
 hi:∀ i,H.length<=i->ω i=(0,0,0)
noncomputable def wordC:Cell->Str
 |.arr _=>"ARRAY"
 |.tab _=>"TABLE"
 |.dat _=>"NODE"
variable {φ:Nat->Nat} {ω:Tags} {H:List AO} {n:Nat}
theorem holder_at {c:Cell} (h:CellAt φ ω H n c):∃ C es,InstAt φ ω H n C (wordC c) es/\isT (.ref C) (.ref 138)=some true/\isT (.ref C) (.ref 117)=some false/\isT (.ref C) (.ref 54)=some false /\
  inT tG C (Str.ofString "word")=true/\inT tG C (Str.ofString "number")=true/\inT tG C (Str.ofString "mark")=true/\inT tS C (Str.ofString "mark")=true:=by
 cases c with
 |arr vs=>
  obtain ⟨es,l,b,t,xs,h1,_⟩:=h
  exact ⟨208,es,h1,ti_208_138,ti_208_117,ti_208_54,tg_208_word,tg_208_number,tg_208_mark,ts_208_mark⟩
 |dat vs=>
  obtain ⟨es,l,b,xs,h1,_⟩:=h
  exact ⟨246,es,h1,ti_246_138,ti_246_117,ti_246_54,tg_246_word,tg_246_number,tg_246_mark,ts_246_mark⟩
 |tab rows=>
  obtain ⟨es,e,p,w,R,h1,_⟩:=h
  exact ⟨227,es,h1,ti_227_138,ti_227_117,ti_227_54,tg_227_word,tg_227_number,tg_227_mark,ts_227_mark⟩
noncomputable def wordN (cells:List Cell) (n:Nat):Str:=match cells[n]? with
 |some c=>wordC c
 |none=>""
noncomputable def toldD (cells:List Cell):V->PyData
 |.s x=>.str x
 |.h n=>.tuple [.str (wordN cells n),.int (n+1)]
 |.r b n i=>.tuple [.str (kn b),.int (n+1),.int i]
 |.p b n i=>.tuple [.str "pattern",.tuple [.str (kn b),.int (n+1),.int i]]
noncomputable def dataT:Nat->AV->List AO->Option PyData
 |_,.none,_=>some .none
 |_,.int i,_=>some (.int i)
 |_,.str x,_=>some (.str x)
 |k+1,.loc i,H=>match H[i]? with
  |some (.tup xs)=>(xs.mapM fun a=>dataT k a H).map .tuple
  |_=>none
 |_,_,_=>none
theorem told_r {N0:Nat} {cells:List Cell} (W:HW φ ω N0 H cells) {j i:Nat} {b:Bool} (hn:n<cells.length) (r:RefAt φ H j b n i):
  runB ["value"] [] d_law_told [.loc j] H=some (.loc H.length,H++[.tup [.str (kn b),.int (n+1),.int i]])/\runB ["value"] [] d_law_told0 [.loc j] H=some (.loc H.length,H++[.tup [.str (kn b),.int (n+1),.int i]]):=by
 obtain ⟨es,h1,h2,h3,h4⟩:=r
 refine ex2_8 (holder_at (W.cell n _ (List.getElem?_eq_getElem hn))) fun C eo I t1 t2 t3 g1 g2 g3 g4=>?_
 have I1:=I.at'
 have I2:=I.number
 clear W I
 constructor
 ·apply v_run rfl
  unfold d_law_told
  repeat' first|with_reducible assumption|delta v_seq v_if v_val v_call v_cons v_nil v_cst v_attr v_loc v_tup v_isi v_tyI v_sr v_sn v_skip v_ret v_sub v_itT v_ife|with_reducible apply v_run rfl|delta l_new l_old|with_reducible apply v_kT (by first|decide +kernel|(simp only [*,Option.getD_some]; done))|with_reducible apply v_kF (by first|decide +kernel|(simp only [*,Option.getD_some]; done))|with_reducible apply v_eT (by first|decide +kernel|(simp only [*,Option.getD_some]; done))|with_reducible apply v_eF (by first|decide +kernel|(simp only [*,Option.getD_some]; done))|exact rfl|exact Nat.le_of_ble_eq_true rfl|decide +kernel|(simp only [*,Option.isSome_some]; done)
 ·apply v_run rfl
  unfold d_law_told0
  repeat' first|with_reducible assumption|delta v_seq v_if v_val v_call v_cons v_nil v_cst v_attr v_loc v_tup v_isi v_tyI v_sr v_sn v_skip v_ret v_sub v_itT v_ife|with_reducible apply v_run rfl|delta l_new l_old|with_reducible apply v_kT (by first|decide +kernel|(simp only [*,Option.getD_some]; done))|with_reducible apply v_kF (by first|decide +kernel|(simp only [*,Option.getD_some]; done))|with_reducible apply v_eT (by first|decide +kernel|(simp only [*,Option.getD_some]; done))|with_reducible apply v_eF (by first|decide +kernel|(simp only [*,Option.getD_some]; done))|exact rfl|exact Nat.le_of_ble_eq_true rfl|decide +kernel|(simp only [*,Option.isSome_some]; done)
end
section
variable {H:List AO}
theorem v_itC {l:Nat} {xs:List AV} {k:Int} {v:AV} (h:H[l]? = some (.tup xs)) (hz:xs.length<=1000000) (hx:((seqIndex? k xs.length).bind fun j=>xs[j]?)=some v):itemA (.loc l) (.int k) H=some v:=by unfold itemA; simp only [h,hz,if_true]; exact hx
theorem told_s {x:Str}:runB ["value"] [] d_law_told [.str x] H=some (.str x,H):=by
 apply v_run rfl
 unfold d_law_told
 repeat' first|with_reducible assumption|delta v_seq v_if v_val v_call v_cons v_nil v_cst v_attr v_loc v_tup v_isi v_tyI v_sr v_sn v_skip v_ret v_sub v_itT v_itC v_ife|with_reducible apply v_run rfl|delta l_new l_old|with_reducible apply v_kT (by first|decide +kernel|(simp only [*,Option.getD_some]; done))|with_reducible apply v_kF (by first|decide +kernel|(simp only [*,Option.getD_some]; done))|with_reducible apply v_eT (by first|decide +kernel|(simp only [*,Option.getD_some]; done))|with_reducible apply v_eF (by first|decide +kernel|(simp only [*,Option.getD_some]; done))|exact rfl|exact Nat.le_of_ble_eq_true rfl|decide +kernel|(simp only [*,Option.isSome_some]; done)
variable {φ:Nat->Nat} {ω:Tags} {N0 n:Nat} {cells:List Cell}
theorem told_h (W:HW φ ω N0 H cells) (hn:n<cells.length):
  runB ["value"] [] d_law_told [.loc (φ n)] H=some (.loc H.length,H++[.tup [.str (wordC cells[n]),.int (n+1)]]):=by
 refine ex2_8 (holder_at (W.cell n _ (List.getElem?_eq_getElem hn))) fun C eo I t1 t2 t3 g1 g2 g3 g4=>?_
 have I1:=I.at'
 have I2:=I.number
 have I3:=I.word
 clear W I
 apply v_run rfl
 unfold d_law_told
 repeat' first|with_reducible assumption|delta v_seq v_if v_val v_call v_cons v_nil v_cst v_attr v_loc v_tup v_isi v_tyI v_sr v_sn v_skip v_ret v_sub v_itT v_itC v_ife|with_reducible apply v_run rfl|delta l_new l_old|with_reducible apply v_kT (by first|decide +kernel|(simp only [*,Option.getD_some]; done))|with_reducible apply v_kF (by first|decide +kernel|(simp only [*,Option.getD_some]; done))|with_reducible apply v_eT (by first|decide +kernel|(simp only [*,Option.getD_some]; done))|with_reducible apply v_eF (by first|decide +kernel|(simp only [*,Option.getD_some]; done))|exact rfl|exact Nat.le_of_ble_eq_true rfl|decide +kernel|(simp only [*,Option.isSome_some]; done)
theorem told_p (W:HW φ ω N0 H cells) {j i:Nat} {b:Bool} (hn:n<cells.length) (h:VV φ H (.p b n i) (.loc j)):
  runB ["value"] [] d_law_told [.loc j] H=some (.loc (H.length+1),H++[.tup [.str (kn b),.int (n+1),.int i]]++[.tup [.str "pattern",.loc H.length]]):=by
 obtain ⟨_,es,t,u,k,e,h1,h2,h3,h4,r⟩:=h
 obtain rfl:=AV.loc.inj e
 have e0:=(told_r W hn r).2
 obtain ⟨er,r1,_⟩:=r
 have len:(H++[AO.tup [.str (kn b),.int (n+1),.int i]]).length=H.length+1:=by simp
 rw [<- len]
 clear W
 apply v_run rfl
 unfold d_law_told
 repeat' first|with_reducible assumption|delta v_seq v_if v_val v_call v_cons v_nil v_cst v_attr v_loc v_tup v_isi v_tyI v_sr v_sn v_skip v_ret v_sub v_itT v_itC v_ife|with_reducible apply v_run rfl|delta l_new l_old|with_reducible apply v_kT (by first|decide +kernel|(simp only [*,Option.getD_some]; done))|with_reducible apply v_kF (by first|decide +kernel|(simp only [*,Option.getD_some]; done))|with_reducible apply v_eT (by first|decide +kernel|(simp only [*,Option.getD_some]; done))|with_reducible apply v_eF (by first|decide +kernel|(simp only [*,Option.getD_some]; done))|exact rfl|exact Nat.le_of_ble_eq_true rfl|decide +kernel|(simp only [*,Option.isSome_some]; done)
end
section
variable {H:List AO} {l:Nat} {o:AO} {xs:List AV} {v:AV}
theorem v_itS {k:Nat} (h:H[l]? = some o) (hs:seqA (some o)=some xs) (hz:xs.length<=1000000) (hx:xs[k]? = some v):itemA (.loc l) (.int k) H=some v:=by
 cases o with
 |list ys=>obtain rfl:=so hs; exact v_itL h hz hx
 |tup ys=>obtain rfl:=so hs; exact v_itT h hz hx
 |_=>exact ns hs
theorem v_itSC {k:Int} (h:H[l]? = some o) (hs:seqA (some o)=some xs) (hz:xs.length<=1000000) (hx:((seqIndex? k xs.length).bind fun j=>xs[j]?)=some v):itemA (.loc l) (.int k) H=some v:=by
 unfold itemA
 cases o with
 |list ys=>obtain rfl:=so hs; simp only [h,hz,if_true]; exact hx
 |tup ys=>obtain rfl:=so hs; simp only [h,hz,if_true]; exact hx
 |_=>exact ns hs
theorem rowsOf_len:∀ rows:List (V×V),(rowsOf rows).length=2 * rows.length
 |[]=>rfl
 |p::r=>by show (rowsOf r).length+1+1=_; rw [rowsOf_len r]; simp; exact om100
variable {φ:Nat->Nat} {ω:Tags} {n m i:Nat} {rows:List (V×V)} {R:List RowR}
theorem RowsAt.get {kv:V×V} (h:RowsAt φ ω H n m rows R) (e:rows[i]? = some kv):∃ r,R[i]? = some r/\(∃ a b,H[r.2.2]? = some (.list [a,b])/\VV φ H kv.1 a/\VV φ H kv.2 b)/\ω r.2.2=(6,n,m+i):=by
 refine RowsAt.ind (P:=fun m rows R=>∀ i,rows[i]? = some kv->∃ r,R[i]? = some r/\(∃ a b,H[r.2.2]? = some (.list [a,b])/\VV φ H kv.1 a/\VV φ H kv.2 b)/\ω r.2.2=(6,n,m+i)) (fun ZZ i e=>by exact ns e) (fun m p rows r R h1 h4 ZZ ZZ ZZ ih i e=>?_) h i e
 cases i with
 |zero=>obtain rfl:=so e; exact ⟨r,rfl,h1,h4⟩
 |succ i=>
  refine ex1_3 (ih i e) fun r h1 h2 h3=>?_
  exact ⟨r,h1,h2,by rw [h3]; congr 2; exact om109⟩
theorem RowsAt.len (h:RowsAt φ ω H n m rows R):R.length=rows.length:=
 RowsAt.ind (P:=fun ZZ rows R=>R.length=rows.length) (fun ZZ=>rfl) (fun ZZ ZZ ZZ ZZ ZZ ZZ ZZ ZZ ZZ ZZ ih=>congrArg (· + 1) ih) h
theorem slot_get_ok {N0:Nat} {cells:List Cell} (W:HW φ ω N0 H cells) {j:Nat} {b:Bool} {c:Cell} {v:V} (r:RefAt φ H j b n i) (hc:cells[n]? = some c) (hg:getC c i=some v) (hz:(partsC c).length<=100000):
  ∃ a,runB ["ref"] [] d_slot_get [.loc j] H=some (a,H)/\VV φ H v a:=by
 obtain ⟨es,h1,h2,h3,h4⟩:=r
 have Cn:=W.cell n c hc
 clear W
 cases c with
 |arr vs=>
  obtain ⟨eo,l,q,t,xs,I,k2,k3,k4,k5,k6,k7,k8,k9,k10,k11⟩:=Cn
  refine ex1_2 (k10.get hg) fun a ha hv=>?_
  have I1:=I.at'
  have len:=k10.len
  have hz2:xs.length<=1000000:=om107 k11 len
  refine ⟨a,?_,hv⟩
  clear I hg hv k10 len
  apply v_run rfl
  unfold d_slot_get
  repeat' first|with_reducible assumption|delta v_seq v_if v_val v_call v_cons v_nil v_cst v_attr v_loc v_tup v_isi v_tyI v_sr v_sn v_skip v_ret v_sub v_itS v_itSC v_ife|with_reducible apply v_run rfl|delta l_new l_old|with_reducible apply v_kT (by first|decide +kernel|(simp only [*,Option.getD_some]; done))|with_reducible apply v_kF (by first|decide +kernel|(simp only [*,Option.getD_some]; done))|with_reducible apply v_eT (by first|decide +kernel|(simp only [*,Option.getD_some]; done))|with_reducible apply v_eF (by first|decide +kernel|(simp only [*,Option.getD_some]; done))|exact rfl|exact Nat.le_of_ble_eq_true rfl|decide +kernel|(simp only [*,Option.isSome_some]; done)
 |dat vs=>
  obtain ⟨eo,l,q,xs,I,k3,k4,k5,k7,k8,k9,k10,k11⟩:=Cn
  refine ex1_2 (k10.get hg) fun a ha hv=>?_
  have I1:=I.at'
  have len:=k10.len
  have hz2:xs.length<=1000000:=om107 k11 len
  refine ⟨a,?_,hv⟩
  clear I hg hv k10 len
  apply v_run rfl
  unfold d_slot_get
  repeat' first|with_reducible assumption|delta v_seq v_if v_val v_call v_cons v_nil v_cst v_attr v_loc v_tup v_isi v_tyI v_sr v_sn v_skip v_ret v_sub v_itS v_itSC v_ife|with_reducible apply v_run rfl|delta l_new l_old|with_reducible apply v_kT (by first|decide +kernel|(simp only [*,Option.getD_some]; done))|with_reducible apply v_kF (by first|decide +kernel|(simp only [*,Option.getD_some]; done))|with_reducible apply v_eT (by first|decide +kernel|(simp only [*,Option.getD_some]; done))|with_reducible apply v_eF (by first|decide +kernel|(simp only [*,Option.getD_some]; done))|exact rfl|exact Nat.le_of_ble_eq_true rfl|decide +kernel|(simp only [*,Option.isSome_some]; done)
 |tab rows=>
  obtain ⟨eo,e,p,w,R,I,k1,k2,k3,k4,k5,k6,k7,k8,k9,k10,k11,k12⟩:=Cn
  refine ex1_2 (Option.map_eq_some_iff.mp (show (rows[i]?).map (·.2)=some v from hg)) fun kv hkv zz2=>?_; subst zz2
  refine ex1_3 (k10.get hkv) fun r hr zz2 ZZ=>?_; obtain ⟨a,b',hp,ha,hb⟩:=zz2
  have I1:=I.at'
  have len:=k10.len
  have hz2:(R.map fun r=>AV.loc r.2.2).length<=1000000:=by
   have:=rowsOf_len rows
   have hz:(rowsOf rows).length<=100000:=hz
   rw [List.length_map]; exact om217 this hz len
  have hx:(R.map fun r=>AV.loc r.2.2)[i]? = some (.loc r.2.2):=by rw [List.getElem?_map,hr]; rfl
  refine ⟨b',?_,hb⟩
  clear I hg hb ha k10 len hr hkv
  apply v_run rfl
  unfold d_slot_get
  repeat' first|with_reducible assumption|delta v_seq v_if v_val v_call v_cons v_nil v_cst v_attr v_loc v_tup v_isi v_tyI v_sr v_sn v_skip v_ret v_sub v_itS v_itSC v_ife|with_reducible apply v_run rfl|delta l_new l_old|with_reducible apply v_kT (by first|decide +kernel|(simp only [*,Option.getD_some]; done))|with_reducible apply v_kF (by first|decide +kernel|(simp only [*,Option.getD_some]; done))|with_reducible apply v_eT (by first|decide +kernel|(simp only [*,Option.getD_some]; done))|with_reducible apply v_eF (by first|decide +kernel|(simp only [*,Option.getD_some]; done))|exact rfl|exact Nat.le_of_ble_eq_true rfl|decide +kernel|(simp only [*,Option.isSome_some]; done)
end
section
variable {H:List AO} {l:Nat} {xs:List AV}
theorem v_piLC {v:AV} (h:H[l]? = some (.list xs)) (hn:1<xs.length) (hz:xs.length<=1000000):putItem (.loc l) (.int 1) v H=some (H.set l (.list (xs.set 1 v))):=v_piL (n:=1) h hn hz
structure Chg (ω:Tags) (H H':List AO):Prop where
 stab:KeepS H H'
 rest:∀ (i:Nat) (o:AO),H[i]? = some o->(ω i).1=0\/7<=(ω i).1->H'[i]? = some o
 len:H.length<=H'.length
variable {o o':AO}
theorem KeepS.set (hl:H[l]? = some o) (hs:¬ Stab o):KeepS H (H.set l o'):=fun i oi h s=>l_ne (fun e=>hs (by subst e; rw [hl] at h; obtain rfl:=so h; exact s)) h
variable {ω:Tags}
theorem Chg.set (hl:H[l]? = some o) (hs:¬ Stab o) (ht:1<=(ω l).1/\(ω l).1<=6):Chg ω H (H.set l o'):=
 ⟨.set hl hs,fun i oi h t=>l_ne (fun e=>by subst e; exact om153 ht t) h,by simp⟩
variable {φ:Nat->Nat} {N0 n:Nat} {cells:List Cell}
theorem HW.set (W:HW φ ω N0 H cells) {k:Nat} (hl:H[l]? = some o) (hs:¬ Stab o) (ht:(ω l).1=k) (hk:1<=k/\k<=6) (hn:(ω l).2.1=n) {c':Cell} (hc:n<cells.length) (h:CellAt φ ω (H.set l o') n c'):HW φ ω N0 (H.set l o') (cells.set n c'):=by
 refine ⟨fun m c hm=>?_,W.low,by rw [List.length_set]; exact W.len,by rw [List.length_set]; exact W.hi⟩
 by_cases e:n=m
 ·subst e
  rw [List.getElem?_set_self hc] at hm
  obtain rfl:=so hm; exact h
 ·rw [List.getElem?_set_ne e] at hm
  refine (W.cell m c hm).keep (.set hl hs) (fun i oi hi f=>l_ne (fun q=>?_) hi) (fun ZZ ZZ=>rfl) rfl fun ZZ ZZ ZZ ZZ=>rfl
  subst q
  rcases f with f|f
  ·exact om247 f hn e
  ·exact om168 hk f ht
theorem nostab:¬ Stab (.list xs):=fun h=>h
theorem InstAt.set {C:Addr} {word:Str} {es:List (Str×AV)} (hl:H[l]? = some (.list xs)) (h:InstAt φ ω H n C word es):InstAt φ ω (H.set l o') n C word es:=
 { h with at':=l_ne (fun e=>by have:=h.at'; rw [<- e,hl] at this; cases this) h.at' }
theorem slot_set_ok (W:HW φ ω N0 H cells) {j i:Nat} {b:Bool} {c:Cell} {v0 v:V} {a:AV} (r:RefAt φ H j b n i) (hc:cells[n]? = some c) (hg:getC c i=some v0) (hv:VV φ H v a) (hnt:∀ rows,c≠.tab rows):
  ∃ H',runB ["ref","value"] [] d_slot_set [.loc j,a] H=some (.none,H')/\HW φ ω N0 H' (setW cells n i v)/\Chg ω H H':=by
 obtain ⟨es,h1,h2,h3,h4⟩:=r
 have Cn:=W.cell n c hc
 have hlt:=getElem?_lt hc
 cases c with
 |arr vs=>
  obtain ⟨eo,l,q,t,xs,I,k2,k3,k4,k5,k6,k7,k8,k9,k10,k11⟩:=Cn
  have I1:=I.at'
  have len:=k10.len
  have hz2:xs.length<=1000000:=om107 k11 len
  have hi:i<xs.length:=by rw [len]; exact getElem?_lt (show vs[i]? = some v0 from hg)
  have K:KeepS H (H.set l (.list (xs.set i a))):=.set k8 nostab
  have hql:l≠q:=fun e=>by rw [e,k5] at k9; cases k9
  refine ⟨H.set l (.list (xs.set i a)),?_,?_,.set k8 nostab (by rw [k9]; exact ⟨by simp,by simp⟩)⟩
  ·clear I hg hv k10 len W K hc
   apply v_runN rfl
   unfold d_slot_set
   repeat' first|with_reducible assumption|delta v_seq v_if v_val v_call v_cons v_nil v_cst v_attr v_loc v_tup v_isi v_tyI v_sr v_sn v_skip v_ret v_sub v_itS v_put v_piL v_piLC|with_reducible apply v_runN rfl|delta v_itSC v_ife|with_reducible apply v_run rfl|delta l_new l_old|with_reducible apply v_kT (by first|decide +kernel|(simp only [*,Option.getD_some]; done))|with_reducible apply v_kF (by first|decide +kernel|(simp only [*,Option.getD_some]; done))|with_reducible apply v_eT (by first|decide +kernel|(simp only [*,Option.getD_some]; done))|with_reducible apply v_eF (by first|decide +kernel|(simp only [*,Option.getD_some]; done))|exact rfl|exact Nat.le_of_ble_eq_true rfl|decide +kernel|(simp only [*,Option.isSome_some]; done)
  ·have:setW cells n i v=cells.set n (.arr (vs.set i v)):=by unfold setW; rw [hc]; rfl
   rw [this]
   exact W.set k8 nostab rfl (by rw [k9]; exact ⟨by simp,by simp⟩) (by rw [k9]) hlt ⟨eo,l,q,t,xs.set i a,I.set k8,k2,k3,l_ne hql k4,k5,K _ _ k6 trivial,k7,l_set k8,k9,(k10.keep K fun ZZ ZZ ZZ ZZ=>rfl).set (hv.keep K fun ZZ ZZ=>rfl),by simpa using k11⟩
 |dat vs=>
  obtain ⟨eo,l,q,xs,I,k3,k4,k5,k7,k8,k9,k10,k11⟩:=Cn
  have I1:=I.at'
  have len:=k10.len
  have hz2:xs.length<=1000000:=om107 k11 len
  have hi:i<xs.length:=by rw [len]; exact getElem?_lt (show vs[i]? = some v0 from hg)
  have K:KeepS H (H.set l (.list (xs.set i a))):=.set k8 nostab
  have hql:l≠q:=fun e=>by rw [e,k5] at k9; cases k9
  refine ⟨H.set l (.list (xs.set i a)),?_,?_,.set k8 nostab (by rw [k9]; exact ⟨by simp,by simp⟩)⟩
  ·clear I hg hv k10 len W K hc
   apply v_runN rfl
   unfold d_slot_set
   repeat' first|with_reducible assumption|delta v_seq v_if v_val v_call v_cons v_nil v_cst v_attr v_loc v_tup v_isi v_tyI v_sr v_sn v_skip v_ret v_sub v_itS v_put v_piL v_piLC|with_reducible apply v_runN rfl|delta v_itSC v_ife|with_reducible apply v_run rfl|delta l_new l_old|with_reducible apply v_kT (by first|decide +kernel|(simp only [*,Option.getD_some]; done))|with_reducible apply v_kF (by first|decide +kernel|(simp only [*,Option.getD_some]; done))|with_reducible apply v_eT (by first|decide +kernel|(simp only [*,Option.getD_some]; done))|with_reducible apply v_eF (by first|decide +kernel|(simp only [*,Option.getD_some]; done))|exact rfl|exact Nat.le_of_ble_eq_true rfl|decide +kernel|(simp only [*,Option.isSome_some]; done)
  ·have:setW cells n i v=cells.set n (.dat (vs.set i v)):=by unfold setW; rw [hc]; rfl
   rw [this]
   exact W.set k8 nostab rfl (by rw [k9]; exact ⟨by simp,by simp⟩) (by rw [k9]) hlt ⟨eo,l,q,xs.set i a,I.set k8,k3,l_ne hql k4,k5,k7,l_set k8,k9,(k10.keep K fun ZZ ZZ ZZ ZZ=>rfl).set (hv.keep K fun ZZ ZZ=>rfl),by simpa using k11⟩
 |tab rows=>exact absurd rfl (hnt rows)
end
section
variable {φ:Nat->Nat} {ω:Tags} {H:List AO} {n:Nat}
theorem RowsAt.keep2 {H':List AO} (k:KeepS H H') {m:Nat} {rows:List (V×V)} {R:List RowR} (f:∀ (i:Nat) (o:AO) (j:Nat),H[i]? = some o->ω i=(6,n,j)->m<=j->H'[i]? = some o) (h:RowsAt φ ω H n m rows R):RowsAt φ ω H' n m rows R:=by
 refine RowsAt.ind (P:=fun m rows R=>(∀ (i:Nat) (o:AO) (j:Nat),H[i]? = some o->ω i=(6,n,j)->m<=j->H'[i]? = some o)->RowsAt φ ω H' n m rows R) (fun _ _=>trivial) (fun m kv rows r R h1 h4 h5 h6 _ ih f=>?_) h f
 exact ⟨ex2_3 h1 fun a b h1 h2 h3=>⟨a,b,f _ _ m h1 h4 (Nat.le_refl _),h2.keep k fun ZZ ZZ=>rfl,h3.keep k fun ZZ ZZ=>rfl⟩,h4,h5.keep k,h6.keep k,ih fun i o j q1 q2 q3=>f i o j q1 q2 (om63 q3)⟩
variable {v:V} {a:AV}
theorem RowsAt.set {x y:AV} {r:RowR} (hv:VV φ H v a) (hp:H[r.2.2]? = some (.list [x,y])) {i m:Nat} {rows:List (V×V)} {R:List RowR} (hr:R[i]? = some r) (h:RowsAt φ ω H n m rows R):RowsAt φ ω (H.set r.2.2 (.list [x,a])) n m (rows.modify i fun p=>(p.1,v)) R:=by
 have K:KeepS H (H.set r.2.2 (.list [x,a])):=.set hp nostab
 refine RowsAt.ind (P:=fun m rows R=>∀ i,R[i]? = some r->RowsAt φ ω (H.set r.2.2 (.list [x,a])) n m (rows.modify i fun p=>(p.1,v)) R) (fun _ _ hr=>ns hr) (fun m kv rows r' R z h4 h5 h6 h7 ih i hr=>?_) h i hr
 refine ex2_3 z fun a' b' h1 h2 h3=>?_
 cases i with
 |zero=>
  obtain rfl:=so hr
  rw [hp] at h1; cases h1
  refine ⟨⟨_,_,l_set hp,h2.keep K fun ZZ ZZ=>rfl,hv.keep K fun ZZ ZZ=>rfl⟩,h4,h5.keep K,h6.keep K,h7.keep2 K fun i o j q1 q2 q3=>l_ne (fun e=>?_) q1⟩
  subst e
  rw [h4] at q2; cases q2; exact om18 q3
 |succ i=>
  refine ⟨⟨a',b',l_ne (fun e=>?_) h1,h2.keep K fun ZZ ZZ=>rfl,h3.keep K fun ZZ ZZ=>rfl⟩,h4,h5.keep K,h6.keep K,ih i hr⟩
  rw [List.getElem?_cons_succ] at hr
  have hlt:i<rows.length:=by rw [<- h7.len]; exact getElem?_lt hr
  refine ex1_3 (h7.get (List.getElem?_eq_getElem hlt)) fun r2 e1 ZZ e2=>?_
  rw [hr] at e1; obtain rfl:=so e1
  rw [e,h4] at e2
  have:m=m+1+i:=by injection e2 with _ e2; injection e2
  exact om71 this
theorem tabE_modify:∀ {i:Nat} {rows:List (V×V)} {R:List RowR},tabE (rows.modify i fun p=>(p.1,v)) R=tabE rows R
 |0,[],_=>rfl
 |_+1,[],_=>rfl
 |0,kv::rows,[]=>rfl
 |0,kv::rows,r::R=>rfl
 |i+1,kv::rows,[]=>rfl
 |i+1,kv::rows,r::R=>by
  show _::tabE (rows.modify i fun p=>(p.1,v)) R=_
  rw [tabE_modify]; rfl
theorem tabP_modify:∀ {i m:Nat} {rows:List (V×V)} {R:List RowR},tabP m (rows.modify i fun p=>(p.1,v)) R=tabP m rows R
 |0,_,[],_=>rfl
 |_+1,_,[],_=>rfl
 |0,_,kv::rows,[]=>rfl
 |0,_,kv::rows,r::R=>rfl
 |i+1,_,kv::rows,[]=>rfl
 |i+1,m,kv::rows,r::R=>by
  show _::tabP (m+1) (rows.modify i fun p=>(p.1,v)) R=_
  rw [tabP_modify]; rfl
variable {rows:List (V×V)} {i:Nat}
theorem keys_modify:(rows.modify i fun p=>(p.1,v)).map (·.1)=rows.map (·.1):=by
 apply List.ext_getElem?
 intro j
 rw [List.getElem?_map,List.getElem?_map,List.getElem?_modify]
 split <;> (cases rows[j]? <;> rfl)
theorem slot_set_tab {N0:Nat} {cells:List Cell} (W:HW φ ω N0 H cells) {j:Nat} {b:Bool} {v0:V} (r:RefAt φ H j b n i) (hc:cells[n]? = some (.tab rows)) (hg:getC (.tab rows) i=some v0) (hv:VV φ H v a) (hz:rows.length<=100000):
  ∃ H',runB ["ref","value"] [] d_slot_set [.loc j,a] H=some (.none,H')/\HW φ ω N0 H' (setW cells n i v)/\Chg ω H H':=by
 obtain ⟨es,h1,h2,h3,h4⟩:=r
 obtain ⟨eo,e,p,w,R,I,k1,k2,k3,k4,k5,k6,k7,k8,k9,k10,k11,k12⟩:=W.cell n _ hc
 have hlt:=getElem?_lt hc
 refine ex1_2 (Option.map_eq_some_iff.mp (show (rows[i]?).map (·.2)=some v0 from hg)) fun kv hkv zz2=>?_; subst zz2
 refine ex1_3 (k10.get hkv) fun r hr zz2 ht=>?_; obtain ⟨x,y,hp,hx,hy⟩:=zz2
 have I1:=I.at'
 have len:=k10.len
 have hz2:(R.map fun r=>AV.loc r.2.2).length<=1000000:=by rw [List.length_map]; exact om143 len hz
 have hxi:(R.map fun r=>AV.loc r.2.2)[i]? = some (.loc r.2.2):=by rw [List.getElem?_map,hr]; rfl
 have K:KeepS H (H.set r.2.2 (.list [x,a])):=.set hp nostab
 have n1:r.2.2≠e:=fun q=>by rw [q,k5] at ht; cases ht
 have n2:r.2.2≠p:=fun q=>by rw [q,k7] at ht; cases ht
 have n3:r.2.2≠w:=fun q=>by rw [q,k9] at ht; cases ht
 refine ⟨H.set r.2.2 (.list [x,a]),?_,?_,.set hp nostab (by rw [ht]; exact ⟨by simp,by simp⟩)⟩
 ·clear I hg hv k10 len W K hc hr hkv hx hy ht k4 k6 n1 n2 n3 k11 k12 hz
  apply v_runN rfl
  unfold d_slot_set
  repeat' first|with_reducible assumption|delta v_seq v_if v_val v_call v_cons v_nil v_cst v_attr v_loc v_tup v_isi v_tyI v_sr v_sn v_skip v_ret v_sub v_itS v_put v_piL v_piLC|with_reducible apply v_runN rfl|delta v_itSC v_ife|with_reducible apply v_run rfl|delta l_new l_old|with_reducible apply v_kT (by first|decide +kernel|(simp only [*,Option.getD_some]; done))|with_reducible apply v_kF (by first|decide +kernel|(simp only [*,Option.getD_some]; done))|with_reducible apply v_eT (by first|decide +kernel|(simp only [*,Option.getD_some]; done))|with_reducible apply v_eF (by first|decide +kernel|(simp only [*,Option.getD_some]; done))|exact rfl|exact Nat.le_of_ble_eq_true rfl|decide +kernel|(simp only [*,Option.isSome_some]; done)
 ·have:setW cells n i v=cells.set n (.tab (rows.modify i fun p=>(p.1,v))):=by unfold setW; rw [hc]; rfl
  rw [this]
  refine W.set hp nostab rfl (by rw [ht]; exact ⟨by simp,by simp⟩) (by rw [ht]) hlt ⟨eo,e,p,w,R,I.set hp,k1,k2,k3,by rw [tabE_modify]; exact l_ne n1 k4,k5,by rw [tabP_modify]; exact l_ne n2 k6,k7,l_ne n3 k8,k9,k10.set hv hp hr,by rw [keys_modify]; exact k11,fun q hq=>?_⟩
  have:q.1∈rows.map (·.1):=by rw [<- keys_modify (v:=v) (i:=i)]; exact List.mem_map_of_mem hq
  refine ex1_2 (List.mem_map.mp this) fun q' hq' e'=>?_
  rw [<- e']; exact k12 q' hq'
end
section
variable {H:List AO} {t:Value} {cs:List AV} {b:Bool}
theorem v_isiT {j:Nat} {y:AV} {c0:Value} (h:H[j]? = some (.tup (.glob c0::cs))) (ht:typA y H=some t) (hs:(isT t c0).isSome=true) (hr:isiAny isT t (.glob c0::cs)=some b):isiA isT [y,.loc j] H=some (.bool b,H):=by
 unfold isiA
 simp only [h,ht]
 cases e:isT t c0 with
 |none=>rw [e] at hs; exact ft hs
 |some q=>simp only [hr]
variable {c:Value}
theorem v_anyT (e:isT t c=some true):isiAny isT t (.glob c::cs)=some true:=by unfold isiAny; rw [e]
theorem v_anyF (e:isT t c=some false) (h:isiAny isT t cs=some b):isiAny isT t (.glob c::cs)=some b:=by unfold isiAny; rw [e]; exact h
theorem v_any0:isiAny isT t []=some false:=rfl
variable {x:Str}
theorem kind_of_s:runB ["value"] [] d_kind_of [.str x] H=some (.str "STRING",H):=by
 apply v_run rfl
 unfold d_kind_of
 repeat' first|with_reducible assumption|delta v_seq v_if v_val v_call v_cons v_nil v_cst v_attr v_loc v_tup v_isi v_isiT v_asg|with_reducible apply v_anyT (by first|decide +kernel|(simp only [*]; done))|with_reducible apply v_anyF (by first|decide +kernel|(simp only [*]; done))|delta v_any0 v_tyI v_sr v_sn v_skip v_ret v_sub v_itS v_put v_piL v_piLC|with_reducible apply v_runN rfl|delta v_itSC v_ife|with_reducible apply v_run rfl|delta l_new l_old|with_reducible apply v_kT (by first|decide +kernel|(simp only [*,Option.getD_some]; done))|with_reducible apply v_kF (by first|decide +kernel|(simp only [*,Option.getD_some]; done))|with_reducible apply v_eT (by first|decide +kernel|(simp only [*,Option.getD_some]; done))|with_reducible apply v_eF (by first|decide +kernel|(simp only [*,Option.getD_some]; done))|exact rfl|exact Nat.le_of_ble_eq_true rfl|decide +kernel|(simp only [*,Option.isSome_some]; done)
theorem is_plain_s:runB ["value"] [] d_is_plain [.str x] H=some (.bool true,H++[.tup [.glob (.type "str"),.glob (.type "int")]]):=by
 apply v_run rfl
 unfold d_is_plain
 repeat' first|with_reducible assumption|delta v_seq v_if v_val v_call v_cons v_nil v_cst v_attr v_loc v_tup v_isi v_isiT v_asg|with_reducible apply v_anyT (by first|decide +kernel|(simp only [*]; done))|with_reducible apply v_anyF (by first|decide +kernel|(simp only [*]; done))|delta v_any0 v_tyI v_sr v_sn v_skip v_ret v_sub v_itS v_put v_piL v_piLC|with_reducible apply v_runN rfl|delta v_itSC v_ife|with_reducible apply v_run rfl|delta l_new l_old|with_reducible apply v_kT (by first|decide +kernel|(simp only [*,Option.getD_some]; done))|with_reducible apply v_kF (by first|decide +kernel|(simp only [*,Option.getD_some]; done))|with_reducible apply v_eT (by first|decide +kernel|(simp only [*,Option.getD_some]; done))|with_reducible apply v_eF (by first|decide +kernel|(simp only [*,Option.getD_some]; done))|exact rfl|exact Nat.le_of_ble_eq_true rfl|decide +kernel|(simp only [*,Option.isSome_some]; done)
theorem key_s:runB ["value"] [] d_table_key [.str x] H=some (.loc (H.length+1),H++[.tup [.glob (.type "str"),.glob (.type "int")]]++[.tup [.str "STRING",.str x]]):=by
 have e1:=kind_of_s (H:=H) (x:=x)
 have e2:=is_plain_s (H:=H) (x:=x)
 have len:(H++[AO.tup [.glob (.type "str"),.glob (.type "int")]]).length=H.length+1:=by simp
 rw [<- len]
 apply v_run rfl
 unfold d_table_key
 repeat' first|with_reducible assumption|delta v_seq v_if v_val v_call v_cons v_nil v_cst v_attr v_loc v_tup v_isi v_isiT v_asg|with_reducible apply v_anyT (by first|decide +kernel|(simp only [*]; done))|with_reducible apply v_anyF (by first|decide +kernel|(simp only [*]; done))|delta v_any0 v_tyI v_sr v_sn v_skip v_ret v_sub v_itS v_put v_piL v_piLC|with_reducible apply v_runN rfl|delta v_itSC v_ife|with_reducible apply v_run rfl|delta l_new l_old|with_reducible apply v_kT (by first|decide +kernel|(simp only [*,Option.getD_some]; done))|with_reducible apply v_kF (by first|decide +kernel|(simp only [*,Option.getD_some]; done))|with_reducible apply v_eT (by first|decide +kernel|(simp only [*,Option.getD_some]; done))|with_reducible apply v_eF (by first|decide +kernel|(simp only [*,Option.getD_some]; done))|exact rfl|exact Nat.le_of_ble_eq_true rfl|decide +kernel|(simp only [*,Option.isSome_some]; done)
end
section
noncomputable def retK:AF'->Option AV
 |.ret a=>some a
 |.next=>some .none
 |_=>none
variable {o:Option Bool} {b:Bool}
theorem v_gd (h:o=some b):o.getD false=b:=by subst h; rfl
theorem v_gnT (h:o=some false):(!o.getD false)=true:=by subst h; rfl
theorem v_gnF (h:o=some true):(!o.getD false)=false:=by subst h; rfl
theorem v_is (h:o=some b):o.isSome=true:=by subst h; rfl
variable {H:List AO} {a:AV}
theorem v_runA {ρ:List (Str×AV)} {H1:List AO} {as:List AV} {fb:FnS} {fl:AF'} {ps:List Str} {ds:List AV} (hl:(as++ds).length=ps.length) (h:fb ⟨(ps.zip (as++ds)).reverse,H⟩=some (fl,⟨ρ,H1⟩)) (hr:retK fl=some a):runB ps ds fb as H=some (a,H1):=by
 cases fl with
 |ret b=>obtain rfl:=so hr; exact v_run hl h
 |next=>obtain rfl:=so hr; exact v_runN hl h
 |_=>exact ns hr
variable {φ:Nat->Nat} {ω:Tags} {n:Nat}
theorem holder_at2 {c:Cell} (h:CellAt φ ω H n c):∃ C es,InstAt φ ω H n C (wordC c) es/\isT (.ref C) (.ref 138)=some true/\isT (.ref C) (.ref 117)=some false/\isT (.ref C) (.ref 54)=some false /\
  inT tG C (Str.ofString "word")=true/\inT tG C (Str.ofString "number")=true/\isT (.ref C) (.type "str")=some false/\isT (.ref C) (.type "int")=some false:=by
 cases c with
 |arr vs=>
  obtain ⟨es,l,b,t,xs,h1,_⟩:=h
  exact ⟨208,es,h1,ti_208_138,ti_208_117,ti_208_54,tg_208_word,tg_208_number,ti_208_str,ti_208_int⟩
 |dat vs=>
  obtain ⟨es,l,b,xs,h1,_⟩:=h
  exact ⟨246,es,h1,ti_246_138,ti_246_117,ti_246_54,tg_246_word,tg_246_number,ti_246_str,ti_246_int⟩
 |tab rows=>
  obtain ⟨es,e,p,w,R,h1,_⟩:=h
  exact ⟨227,es,h1,ti_227_138,ti_227_117,ti_227_54,tg_227_word,tg_227_number,ti_227_str,ti_227_int⟩
variable {N0:Nat} {cells:List Cell}
theorem key_h (W:HW φ ω N0 H cells) (hn:n<cells.length):
  runB ["value"] [] d_table_key [.loc (φ n)] H=some (.loc (H.length+1),H++[.tup [.glob (.type "str"),.glob (.type "int")]]++[.tup [.str "HOLDER",.int (n+1)]]):=by
 refine ex2_8 (holder_at2 (W.cell n _ (List.getElem?_eq_getElem hn))) fun C eo I t1 t2 t3 g1 g2 t4 t5=>?_
 have I1:=I.at'
 have I2:=I.number
 have I3:=I.word
 clear W I
 have len:(H++[AO.tup [.glob (.type "str"),.glob (.type "int")]]).length=H.length+1:=by simp
 rw [<- len]
 apply v_run rfl
 unfold d_table_key
 repeat' first|unfold d_kind_of|unfold d_is_plain|(show (_:Prop); with_reducible assumption)|delta v_seq v_if v_val v_call v_cons v_nil v_cst v_attr v_loc v_tup v_isi v_isiT v_asg|with_reducible apply v_anyF (by first|assumption|decide +kernel|fail)|delta v_any0 v_tyI v_sr v_sn v_skip v_ret|with_reducible apply v_runA rfl|delta l_new l_old|with_reducible apply v_kT (by first|decide +kernel|(delta v_gd v_gnT v_gnF; assumption))|with_reducible apply v_kF (by first|decide +kernel|(delta v_gd v_gnT v_gnF; assumption))|exact rfl|exact Nat.le_of_ble_eq_true rfl|(with_reducible apply v_is; assumption)
theorem key_r (W:HW φ ω N0 H cells) {j i:Nat} (hn:n<cells.length) (r:RefAt φ H j b n i):
  runB ["value"] [] d_table_key [.loc j] H=some (.loc (H.length+1),H++[.tup [.glob (.type "str"),.glob (.type "int")]]++[.tup [.str "NAME",.str (kn b),.int (n+1),.int i]]):=by
 obtain ⟨es,h1,h2,h3,h4⟩:=r
 refine ex2_8 (holder_at2 (W.cell n _ (List.getElem?_eq_getElem hn))) fun C eo I t1 t2 t3 g1 g2 t4 t5=>?_
 have I1:=I.at'
 have I2:=I.number
 clear W I
 have len:(H++[AO.tup [.glob (.type "str"),.glob (.type "int")]]).length=H.length+1:=by simp
 rw [<- len]
 apply v_run rfl
 unfold d_table_key
 repeat' first|unfold d_kind_of|unfold d_is_plain|(show (_:Prop); with_reducible assumption)|delta v_seq v_if v_val v_call v_cons v_nil v_cst v_attr v_loc v_tup v_isi v_isiT v_asg|with_reducible apply v_anyF (by first|assumption|decide +kernel|fail)|delta v_any0 v_tyI v_sr v_sn v_skip v_ret v_ife v_cmp|with_reducible apply v_runA rfl|delta l_new l_old|with_reducible apply v_kT (by first|decide +kernel|(delta v_gd v_gnT v_gnF; assumption))|with_reducible apply v_kF (by first|decide +kernel|(delta v_gd v_gnT v_gnF; assumption))|with_reducible apply v_eF (by first|decide +kernel|(delta v_gd v_gnT v_gnF; assumption))|exact rfl|exact Nat.le_of_ble_eq_true rfl
theorem tup_new {g o:AO}:(H++[g]++[o])[H.length+1]? = some o:=by
 have:H.length+1=(H++[g]).length:=by simp
 rw [this]; exact l_new
variable {v:V}
theorem key_ok (W:HW φ ω N0 H cells) (hv:VV φ H v a) (hn:∀ n,numV v=some n->n<cells.length) (hp:∀ b n i,v≠.p b n i):
  ∃ t,runB ["value"] [] d_table_key [a] H=some (.loc (H.length+1),H++t)/\MarkAt (H++t) (H.length+1) (markL v):=by
 cases v with
 |s x=>
  cases hv
  exact ⟨_,by rw [key_s,List.append_assoc],_,by rw [<- List.append_assoc]; exact tup_new,rfl⟩
 |h n=>
  cases hv
  exact ⟨_,by rw [key_h W (hn n rfl),List.append_assoc],_,by rw [<- List.append_assoc]; exact tup_new,rfl⟩
 |r b n i=>
  obtain ⟨j,rfl,r⟩:=hv
  exact ⟨_,by rw [key_r W (hn n rfl) r,List.append_assoc],_,by rw [<- List.append_assoc]; exact tup_new,rfl⟩
 |p b n i=>exact absurd rfl (hp b n i)
theorem kn_inj {a:Bool} (h:kn a=kn b):a=b:=by
 cases a <;> cases b <;> first|rfl|(exfalso; have:=ofS_inj (a:="item") (b:="field") (by first|exact h|exact h.symm); revert this; decide)
theorem mark_inj {u:V} (hv:∀ b n i,v≠.p b n i) (hu:∀ b n i,u≠.p b n i) (h:markL v=markL u):v=u:=by
 cases v with
 |p b n i=>exact absurd rfl (hv b n i)
 |s x=>
  cases u with
  |p b n i=>exact absurd rfl (hu b n i)
  |s y=>simp only [markL,List.cons.injEq,Sum.inl.injEq] at h; rw [h.2.1]
  |h m=>simp [markL] at h
  |r b n i=>simp [markL] at h
 |h m=>
  cases u with
  |p b n i=>exact absurd rfl (hu b n i)
  |s y=>simp [markL] at h
  |h m=>simp only [markL,List.cons.injEq,Sum.inr.injEq] at h; congr 1; omega
  |r b n i=>simp [markL] at h
 |r b n i=>
  cases u with
  |p b n i=>exact absurd rfl (hu b n i)
  |s y=>simp [markL] at h
  |h m=>simp [markL] at h
  |r b' n' i'=>
   simp only [markL,List.cons.injEq,Sum.inl.injEq,Sum.inr.injEq] at h
   refine ex0_5 h fun ZZ h1 h2 h3 ZZ=>?_; try clear h
   rw [kn_inj h1]
   congr 1 <;> omega
end
section
variable {ρ:List (Str×AV)} {H H1 L M:List AO} {σ σ1 σ2:Mine.St} {x:Str} {a v:AV} {as xs:List AV} {f g:Fn AV} {fs:Fn (List AV)} {F:FnC} {i k:Nat} {C:Addr} {es:List (Str×AV)} {o:AO}
theorem l_tail (h:L[k]? = some o):(H++L)[H.length+k]? = some o:=by
 rw [List.getElem?_append_right (om30),Nat.add_sub_cancel_left]; exact h
theorem t_at (h:L[k]? = some o):L[k]? = some o:=h
theorem set_tail:(H++L).set (H.length+k) o=H++L.set k o:=by
 rw [List.set_append_right _ _ (om30),Nat.add_sub_cancel_left]
variable {r:AV×List AO}
theorem t_start (h:F as (H++[])=some r):F as H=some r:=by rwa [List.append_nil] at h
theorem t_fin {r':AV×List AO} (h:F as (H++[])=some r) (e:r=r'):F as H=some r':=e▸t_start h
theorem t_cls (h:F (.loc (H.length+L.length)::as) (H++(L++[.inst C []]))=some (.none,H1)):clsF C F as (H++L)=some (.loc (H.length+L.length),H1):=by
 apply Eq.trans (v_cls (H:=H++L) (H1:=H1) (F:=F) (as:=as) (C:=C) _)
 ·rw [List.length_append]
 ·rw [List.length_append,List.append_assoc]; exact h
theorem t_tup (hs:fs ρ H1=some (as,H++L)) (hz:as.length<=1000):tupF fs ρ H1=some (.loc (H.length+L.length),H++(L++[.tup as])):=by
 rw [v_tup hs hz,List.length_append,List.append_assoc]
theorem t_list (hs:fs ρ H1=some (as,H++L)) (hz:as.length<=1000):listF fs ρ H1=some (.loc (H.length+L.length),H++(L++[.list as])):=by
 rw [v_list hs hz,List.length_append,List.append_assoc]
theorem t_d0:dict0F ρ (H++L)=some (.loc (H.length+L.length),H++(L++[.dnil])):=by
 rw [v_d0,List.length_append,List.append_assoc]
theorem t_dS {ds:List (Str×AV)}:dictSF ds ρ (H++L)=some (.loc (H.length+L.length),H++(L++[.dstr ds])):=by
 rw [v_dS,List.length_append,List.append_assoc]
theorem t_set (hf:f σ.ρ σ.H=some (v,H1)) (hg:g σ.ρ H1=some (.loc (H.length+k),H++L)) (h:L[k]? = some (.inst C es)) (hG:inT tS C x=true) (hl:es.length<=100):sSetA (inT tS) x f g σ=some (.next,⟨σ.ρ,H++L.set k (.inst C (putA x v es))⟩):=by
 rw [v_set hf hg (l_tail h) hG hl,set_tail]
theorem t_app (h:L[k]? = some (.list xs)) (hz:xs.length<=1000000):appendC [.loc (H.length+k),v] (H++L)=some (.none,H++L.set k (.list (xs++[v]))):=by
 rw [v_app (l_tail h) hz,set_tail]
variable {fa:AV->Mine.St->Option Mine.St} {fb:FnS} {nx:Nx} {r:AF'×Mine.St}
theorem t_for {fi:FnI} (h:fi σ.ρ σ.H=some (nx,H1)) (h2:loopA nx fa fb 100000 0 ⟨σ.ρ,H1⟩=some r):sFor NN fi fa fb σ=some r:=by unfold sFor; rw [h]; exact h2
variable {n:Nat}
theorem t_turn {fl:AF'} (h:nx i σ.H=some (some (a,H1))) (h1:fa a ⟨σ.ρ,H1⟩=some σ1) (h2:fb σ1=some (fl,σ2)) (h3:fl = .next) (h4:loopA nx fa fb n (i+1) σ2=some r):loopA nx fa fb (n+1) i σ=some r:=by
 subst h3
 unfold loopA
 simp only [h,h1,h2,h4]
theorem t_over (h:nx i σ.H=some none):loopA nx fa fb (n+1) i σ=some (.next,σ):=by
 unfold loopA
 simp only [h]
theorem n_listE2 {l:Nat} (hl:H[l]? = some (.list xs)) (e:xs.length=i):nxList l i H=some none:=by subst e; exact n_listE hl
end
theorem ref_new {H:List AO} {k:Str} {o:AV} {i:Int}:clsF 117 (runB ["self","kind","owner","key"] [] d_NameRef_init) [.str k,o,.int i] H=some (.loc H.length,H++[.inst 117 [("kind",.str k),("owner",o),("key",.int i)]]):=by
 apply t_fin
 ·unfold d_NameRef_init
  repeat' first|delta v_seq v_loc t_set t_cls v_sn v_skip|with_reducible apply v_runA rfl|((with_reducible apply t_at); exact rfl)|exact rfl|exact Nat.le_of_ble_eq_true rfl
 ·kernel_rfl
section
section
variable {H:List AO} {l j i:Nat} {ks:List KE} {es:List (List KE×Nat×AV)} {as:List AV} {v:AV}
theorem d_tk (h:H[j]? = some (.tup as)) (hk:keOf as=some ks):tupKey j H=some ks:=by unfold tupKey; rw [h]; exact hk
theorem MarkAt.tk (h:MarkAt H j ks):tupKey j H=some ks:=let ⟨_,h1,h2⟩:=h; d_tk h1 h2
theorem tk_ne {o:AO} (n:i≠j) (h:tupKey j H=some ks):tupKey j (H.set i o)=some ks:=by
 unfold tupKey at h ⊢
 rw [List.getElem?_set_ne n]; exact h
theorem dOf_snoc {x:List KE×Nat×AV}:dOf (es++[x]) = .dtup (es++[x]):=by cases es <;> rfl
theorem d_item (h:H[l]? = some (dOf es)) (hk:tupKey j H=some ks) (hl:lookT ks es=some v):itemA (.loc l) (.loc j) H=some v:=by
 cases es with
 |nil=>exact ns hl
 |cons e r=>unfold itemA; simp only [h,dOf,hk,hl]
theorem d_notin (h:H[l]? = some (dOf es)) (hk:tupKey j H=some ks):notInA (.loc j) (.loc l) H=some !(lookT ks es).isSome:=by
 cases es with
 |nil=>unfold notInA; simp only [h,dOf,hk]; rfl
 |cons e r=>unfold notInA; simp only [h,dOf,hk]
theorem d_put (h:H[l]? = some (dOf es)) (hk:tupKey j H=some ks) (hl:lookT ks es=none) (hz:es.length<=1000000):putItem (.loc l) (.loc j) v H=some (H.set l (dOf (es++[(ks,j,v)]))):=by
 rw [dOf_snoc]
 cases es with
 |nil=>unfold putItem; simp only [h,dOf,hk]; rfl
 |cons e r=>unfold putItem; simp only [h,dOf,hk,hl]; rw [if_pos ⟨hz,rfl⟩]
end
variable {ks:List KE}
theorem look_head {ks':List KE} {x:Nat×AV} {es:List (List KE×Nat×AV)}:lookT ks ((ks',x)::es)=if ks'=ks then some x.2 else lookT ks es:=by
 unfold lookT
 rw [List.find?_cons]
 by_cases e:ks'=ks
 ·simp [e]
 ·simp [e]
theorem lookE_none:∀ {rows:List (V×V)} {R:List RowR},(∀ kv∈rows,markL kv.1≠ks)->lookT ks (tabE rows R)=none
 |[],[],_=>rfl
 |[],_::_,_=>rfl
 |_::_,[],_=>rfl
 |kv::rows,r::R,h=>by
  show lookT ks ((markL kv.1,r.1,.loc r.2.2)::tabE rows R)=none
  rw [look_head,if_neg (h kv (.head _))]
  exact lookE_none fun p hp=>h p (.tail _ hp)
theorem lookP_none:∀ {k:Nat} {rows:List (V×V)} {R:List RowR},(∀ kv∈rows,markL kv.1≠ks)->lookT ks (tabP k rows R)=none
 |_,[],[],_=>rfl
 |_,[],_::_,_=>rfl
 |_,_::_,[],_=>rfl
 |k,kv::rows,r::R,h=>by
  show lookT ks ((markL kv.1,r.2.1,.int k)::tabP (k+1) rows R)=none
  rw [look_head,if_neg (h kv (.head _))]
  exact lookP_none fun p hp=>h p (.tail _ hp)
variable {kv:V×V} {r:RowR}
theorem lookE_some:∀ {rows:List (V×V)} {R:List RowR} {i:Nat},(rows.map fun p=>markL p.1).Nodup->rows[i]? = some kv->R[i]? = some r->lookT (markL kv.1) (tabE rows R)=some (.loc r.2.2)
 |kv'::rows,r'::R,0,_,h,h'=>by
  cases h; cases h'
  show lookT _ ((markL kv.1,r.1,.loc r.2.2)::tabE rows R)=_
  rw [look_head,if_pos rfl]
 |kv'::rows,r'::R,i+1,nd,h,h'=>by
  rw [List.map_cons,List.nodup_cons] at nd
  show lookT _ ((markL kv'.1,r'.1,.loc r'.2.2)::tabE rows R)=_
  rw [look_head,if_neg]
  ·exact lookE_some nd.2 h h'
  ·intro e
   exact nd.1 (e▸List.mem_map_of_mem (f:=fun p:V×V=>markL p.1) (List.mem_of_getElem? h))
theorem lookP_some:∀ {k:Nat} {rows:List (V×V)} {R:List RowR} {i:Nat},(rows.map fun p=>markL p.1).Nodup->rows[i]? = some kv->R[i]? = some r->lookT (markL kv.1) (tabP k rows R)=some (.int (k+i:Nat))
 |k,kv'::rows,r'::R,0,_,h,h'=>by
  cases h; cases h'
  show lookT _ ((markL kv.1,r.2.1,.int k)::tabP (k+1) rows R)=_
  rw [look_head,if_pos rfl]; rfl
 |k,kv'::rows,r'::R,i+1,nd,h,h'=>by
  rw [List.map_cons,List.nodup_cons] at nd
  show lookT _ ((markL kv'.1,r'.2.1,.int k)::tabP (k+1) rows R)=_
  rw [look_head,if_neg]
  ·rw [lookP_some nd.2 h h']; congr 2; exact om223
  ·intro e
   exact nd.1 (e▸List.mem_map_of_mem (f:=fun p:V×V=>markL p.1) (List.mem_of_getElem? h))
theorem tabE_snoc:∀ {rows:List (V×V)} {R:List RowR},R.length=rows.length->tabE (rows++[kv]) (R++[r])=tabE rows R++[(markL kv.1,r.1,.loc r.2.2)]
 |[],[],_=>rfl
 |p::rows,q::R,h=>congrArg (_::·) (tabE_snoc (Nat.succ.inj h))
theorem tabP_snoc:∀ {k:Nat} {rows:List (V×V)} {R:List RowR},R.length=rows.length->tabP k (rows++[kv]) (R++[r])=tabP k rows R++[(markL kv.1,r.2.1,.int (k+rows.length:Nat))]
 |_,[],[],_=>rfl
 |k,p::rows,q::R,h=>by
  show _::tabP (k+1) (rows++[kv]) (R++[r])=_
  rw [tabP_snoc (Nat.succ.inj h),List.length_cons,show k+1+rows.length=k+(rows.length+1) by exact om109]; rfl
theorem tabE_len:∀ {rows:List (V×V)} {R:List RowR},(tabE rows R).length<=rows.length
 |[],[]=>Nat.le_refl _
 |[],_::_=>Nat.le_refl _
 |_::_,[]=>Nat.zero_le _
 |_::_,_::_=>Nat.succ_le_succ tabE_len
theorem tabP_len:∀ {k:Nat} {rows:List (V×V)} {R:List RowR},(tabP k rows R).length<=rows.length
 |_,[],[]=>Nat.le_refl _
 |_,[],_::_=>Nat.le_refl _
 |_,_::_,[]=>Nat.zero_le _
 |_,_::_,_::_=>Nat.succ_le_succ tabP_len
variable {φ:Nat->Nat} {ω:Tags} {H:List AO} {n:Nat} {rows:List (V×V)}
theorem RowsAt.snoc {m:Nat} {R:List RowR} (h:RowsAt φ ω H n m rows R) (h':RowsAt φ ω H n (m+rows.length) [kv] [r]):RowsAt φ ω H n m (rows++[kv]) (R++[r]):=by
 refine RowsAt.ind (P:=fun m rows R=>RowsAt φ ω H n (m+rows.length) [kv] [r]->RowsAt φ ω H n m (rows++[kv]) (R++[r])) (fun ZZ h=>h) (fun m p rows q R a b c d ZZ ih h=>?_) h h'
 exact ⟨a,b,c,d,ih (by rw [Nat.add_assoc,Nat.add_comm 1]; exact h)⟩
theorem marks_nodup (nd:(rows.map (·.1)).Nodup) (np:∀ kv∈rows,∀ b m i,kv.1≠.p b m i):(rows.map fun p=>markL p.1).Nodup:=by
 have:rows.map (fun p=>markL p.1)=(rows.map (·.1)).map markL:=by rw [List.map_map]; rfl
 rw [this]
 rw [List.Nodup,List.pairwise_map]
 refine nd.imp_of_mem fun {a b} ha hb hab e=>hab ?_
 refine ex1_2 (List.mem_map.mp ha) fun p hp zz2=>?_; subst zz2
 refine ex1_2 (List.mem_map.mp hb) fun q hq zz2=>?_; subst zz2
 exact mark_inj (np p hp) (np q hq) e
theorem HW.upd {ω':Tags} {N0:Nat} {H':List AO} {cells:List Cell} (W:HW φ ω N0 H cells) (k:KeepS H H') (f:∀ (i:Nat) (o:AO),H[i]? = some o->(ω i).2.1≠n\/(ω i).1=0\/7<=(ω i).1->H'[i]? = some o) (hω:∀ i:Nat,(ω i).1≠0->ω' i=ω i) (hlo:∀ i,i<N0->ω' i=(0,0,0)) (hl:H.length<=H'.length) (hh:∀ i,H'.length<=i->ω' i=(0,0,0)) {c':Cell} (hn:n<cells.length) (h:CellAt φ ω' H' n c'):HW φ ω' N0 H' (cells.set n c'):=by
 refine ⟨fun m c hm=>?_,hlo,Nat.le_trans W.len hl,hh⟩
 by_cases e:n=m
 ·subst e
  rw [List.getElem?_set_self hn] at hm
  obtain rfl:=so hm; exact h
 ·rw [List.getElem?_set_ne e] at hm
  refine (W.cell m c hm).keep k (fun i o hi q=>f i o hi ?_) hω rfl fun ZZ ZZ ZZ ZZ=>rfl
  rcases q with q|q <;> omega
theorem put_raw {o e p w jm q:Nat} {eo:List (Str×AV)} {E P:List (List KE×Nat×AV)} {xs:List AV} (ho:H[o]? = some (.inst 227 eo)) (h1:eo.lookup (Str.ofString "entries")=some (.loc e)) (h2:eo.lookup (Str.ofString "places")=some (.loc p)) (h3:eo.lookup (Str.ofString "rows")=some (.loc w))
  (he:H[e]? = some (dOf E)) (hp:H[p]? = some (dOf P)) (hw:H[w]? = some (.list xs)) (hm:tupKey jm H=some ks) (le:lookT ks E=none) (lp:lookT ks P=none) (zE:E.length<=1000000) (zP:P.length<=1000000) (zx:xs.length<=1000000)
  (n1:p≠o) (n2:e≠o) (n3:p≠e) (n4:p≠jm) (n5:e≠jm) (n6:p≠w) (n7:e≠w):
  runB ["table","mark","pair"] [] d_put_entry [.loc o,.loc jm,.loc q] H=some (.none,((H.set p (dOf (P++[(ks,jm,.int xs.length)]))).set e (dOf (E++[(ks,jm,.loc q)]))).set w (.list (xs++[.loc q]))):=by
 apply v_runN rfl
 unfold d_put_entry
 repeat' first|delta d_put|with_reducible apply tk_ne (by assumption)|with_reducible apply l_ne (by assumption)|delta v_app|(show (_:Prop); with_reducible assumption)|delta v_seq v_call v_cons v_nil v_attr v_loc v_sn v_skip v_put v_expr v_meth v_len v_isL|exact rfl
end
section
variable {φ:Nat->Nat} {ω ω':Tags} {N0:Nat} {H H' H2:List AO} {cells:List Cell}
variable {t:List AO}
theorem KeepS.ext:KeepS H (H++t):=fun ZZ ZZ h ZZ=>l_old h
theorem KeepS.trans (a:KeepS H H') (b:KeepS H' H2):KeepS H H2:=fun i o h s=>b i o (a i o h s) s
theorem HW.ext (W:HW φ ω N0 H cells):HW φ ω N0 (H++t) cells:=
 ⟨fun n c hc=>(W.cell n c hc).keep .ext (fun i o h ZZ=>l_old h) (fun ZZ ZZ=>rfl) rfl fun ZZ ZZ ZZ ZZ=>rfl,W.low,by have:=W.len; rw [List.length_append]; exact om95 this,fun i hi=>W.hi i (by rw [List.length_append] at hi; exact om92 hi)⟩
theorem Chg.ext:Chg ω H (H++t):=⟨.ext,fun ZZ ZZ h ZZ=>l_old h,by rw [List.length_append]; exact om30⟩
def Ext (ω ω':Tags) (H:List AO):Prop:=∀ i:Nat,i<H.length->ω' i=ω i
theorem Ext.refl:Ext ω ω H:=fun ZZ ZZ=>rfl
theorem Ext.trans {ω2:Tags} (a:Ext ω ω' H) (b:Ext ω' ω2 H') (h:H.length<=H'.length):Ext ω ω2 H:=fun i hi=>(b i (om121 hi h)).trans (a i hi)
theorem Chg.trans (e:Ext ω ω' H) (a:Chg ω H H') (b:Chg ω' H' H2):Chg ω H H2:=
 ⟨a.stab.trans b.stab,fun i o h t=>b.rest i o (a.rest i o h t) (by rw [e i (getElem?_lt h)]; exact t),Nat.le_trans a.len b.len⟩
noncomputable def tagAt (ω:Tags) (q:Nat) (t:Nat×Nat×Nat):Tags:=fun i=>if i=q then t else ω i
variable {q:Nat} {t:Nat×Nat×Nat}
theorem tagAt_eq:tagAt ω q t q=t:=if_pos rfl
theorem tagAt_ne {i:Nat} (h:i≠q):tagAt ω q t i=ω i:=if_neg h
theorem tagAt_agree (h:ω q=(0,0,0)):∀ i:Nat,(ω i).1≠0->tagAt ω q t i=ω i:=fun i hi=>tagAt_ne fun e=>hi (by rw [e,h])
variable {es:List (List KE×Nat×AV)} {as:List AV}
theorem dOf_tup:dOf es≠.tup as:=by cases es <;> exact fun h=>by cases h
theorem dOf_stab:¬ Stab (dOf es):=by cases es <;> exact fun h=>h
theorem put_row (W:HW φ ω N0 H cells) {n jm:Nat} {rows:List (V×V)} {v u:V} {a b:AV} (hc:cells[n]? = some (.tab rows)) (hq:H[q]? = some (.list [a,b])) (hω:ω q=(0,0,0)) (hN:N0<=q) (hm:MarkAt H jm (markL v)) (hv:VV φ H v a) (hu:VV φ H u b)
  (hnew:∀ kv∈rows,kv.1≠v) (hp:∀ b n i,v≠.p b n i) (hz:rows.length<=100000):
  ∃ H',runB ["table","mark","pair"] [] d_put_entry [.loc (φ n),.loc jm,.loc q] H=some (.none,H')/\HW φ (tagAt ω q (6,n,rows.length)) N0 H' (cells.set n (.tab (rows++[(v,u)])))/\Chg ω H H'/\∀ (i:Nat) (o:AO),H[i]? = some o->(ω i).2.1≠n->H'[i]? = some o:=by
 obtain ⟨eo,e,p,w,R,I,k1,k2,k3,k4,k5,k6,k7,k8,k9,k10,k11,k12⟩:=W.cell n _ hc
 have len:=k10.len
 have hno:∀ kv∈rows,markL kv.1≠markL v:=fun kv hkv q=>hnew kv hkv (mark_inj (k12 kv hkv) hp q)
 have tne:∀ {i j k m k' m':Nat},ω i=(k,n,m)->ω j=(k',n,m')->k≠k'->i≠j:=fun h h' hk e=>hk (by rw [e,h'] at h; exact (congrArg Prod.fst h).symm)
 have n3:p≠e:=tne k7 k5 (by decide)
 have n6:p≠w:=tne k7 k9 (by decide)
 have n7:e≠w:=tne k5 k9 (by decide)
 have hmn:∀ {i:Nat} {es},H[i]? = some (dOf es)->i≠jm:=fun h e=>by
  obtain ⟨as,h1,_⟩:=hm
  rw [<- e,h] at h1; exact dOf_tup (Option.some.inj h1)
 have qn:∀ {i k m:Nat},ω i=(k+1,n,m)->i≠q:=fun h e=>by rw [e,hω] at h; cases h
 have K1:KeepS H (H.set p (dOf (tabP 0 rows R++[(markL v,jm,.int (rows.length:Nat))]))):=.set k6 dOf_stab
 have he1:(H.set p (dOf (tabP 0 rows R++[(markL v,jm,.int (rows.length:Nat))])))[e]? = some (dOf (tabE rows R)):=l_ne n3 k4
 have K2:=K1.trans (.set (o':=dOf (tabE rows R++[(markL v,jm,.loc q)])) he1 dOf_stab)
 have hw2:((H.set p (dOf (tabP 0 rows R++[(markL v,jm,.int (rows.length:Nat))]))).set e (dOf (tabE rows R++[(markL v,jm,.loc q)])))[w]? = some (.list (R.map fun r=>.loc r.2.2)):=l_ne n7 (l_ne n6 k8)
 have K3:=K2.trans (.set (o':=.list ((R.map fun r=>AV.loc r.2.2)++[.loc q])) hw2 nostab)
 have keep:∀ (i:Nat) (o:AO),H[i]? = some o->p≠i->e≠i->w≠i->(((H.set p (dOf (tabP 0 rows R++[(markL v,jm,.int (rows.length:Nat))]))).set e (dOf (tabE rows R++[(markL v,jm,.loc q)]))).set w (.list ((R.map fun r=>AV.loc r.2.2)++[.loc q])))[i]? = some o:=fun i o h a b c=>l_ne c (l_ne b (l_ne a h))
 have run:=put_raw (q:=q) I.at' k1 k2 k3 k4 k6 k8 hm.tk (lookE_none hno) (lookP_none hno) (by have:=@tabE_len rows R; exact om202 len hz this) (by have:=@tabP_len 0 rows R; exact om202 len hz this) (by rw [List.length_map]; exact om143 len hz) (tne k7 I.tag (by decide)) (tne k5 I.tag (by decide)) n3 (hmn k6) (hmn k4) n6 n7
 rw [List.length_map,len] at run
 refine ⟨_,run,?_,⟨K3,fun i o h t=>keep i o h (fun q=>?_) (fun q=>?_) (fun q=>?_),by simp⟩,fun i o h t=>keep i o h (fun q=>t (by rw [<- q,k7])) (fun q=>t (by rw [<- q,k5])) (fun q=>t (by rw [<- q,k9]))⟩
 ·refine W.upd K3 (fun i o h t=>keep i o h (fun q=>?_) (fun q=>?_) (fun q=>?_)) (tagAt_agree hω) (fun i hi=>?_) (by simp) (fun i hi=>?_) (getElem?_lt hc) ?_
  ·subst q; rw [k7] at t; revert t; simp
  ·subst q; rw [k5] at t; revert t; simp
  ·subst q; rw [k9] at t; revert t; simp
  ·rw [tagAt_ne (om122 hi hN)]; exact W.low i hi
  ·have hql:=getElem?_lt hq
   simp only [List.length_set] at hi
   rw [tagAt_ne (om123 hql hi)]; exact W.hi i hi
  ·have hq':=keep q _ hq (qn k7) (qn k5) (qn k9)
   have ag:=tagAt_agree (t:=(6,n,rows.length)) hω
   refine ⟨eo,e,p,w,R++[(jm,jm,q)],{ I with at':=keep _ _ I.at' (tne k7 I.tag (by decide)) (tne k5 I.tag (by decide)) (tne k9 I.tag (by decide)),tag:=tg ag I.tag },k1,k2,k3,?_,tg ag k5,?_,tg ag k7,?_,tg ag k9,?_,?_,?_⟩
   ·rw [tabE_snoc len]; exact l_ne (Ne.symm n7) (l_set he1)
   ·rw [tabP_snoc len,Nat.zero_add]; exact l_ne (Ne.symm n6) (l_ne (Ne.symm n3) (l_set k6))
   ·rw [List.map_append]; exact l_set hw2
   ·refine RowsAt.snoc ((k10.keep2 K3 fun i o j h t ZZ=>keep i o h ?_ ?_ ?_).keep (fun ZZ ZZ h ZZ=>h) (fun ZZ ZZ h ZZ=>h) ag fun ZZ ZZ ZZ ZZ=>rfl) ⟨⟨a,b,hq',hv.keep K3 fun ZZ ZZ=>rfl,hu.keep K3 fun ZZ ZZ=>rfl⟩,?_,hm.keep K3,hm.keep K3,trivial⟩
    ·exact tne k7 t (by decide)
    ·exact tne k5 t (by decide)
    ·exact tne k9 t (by decide)
    ·rw [Nat.zero_add]; exact tagAt_eq
   ·rw [List.map_append,List.nodup_append]
    refine ⟨k11,by simp,fun x hx y hy e=>?_⟩
    refine ex1_2 (List.mem_map.mp hx) fun kv hkv zz2=>?_; subst zz2
    simp only [List.map_cons,List.map_nil,List.mem_singleton] at hy
    exact hnew kv hkv (e.trans hy)
   ·intro kv hkv
    rcases List.mem_append.mp hkv with h|h
    ·exact k12 kv h
    ·rw [List.mem_singleton.mp h]; exact hp
 ·subst q; rw [k7] at t; revert t; simp
 ·subst q; rw [k5] at t; revert t; simp
 ·subst q; rw [k9] at t; revert t; simp
end
section
variable {φ:Nat->Nat} {ω ω':Tags} {N0:Nat} {H H' H2:List AO} {cells:List Cell}
variable {n:Nat} {rows:List (V×V)} {v:V} {a:AV}
theorem te_found (W:HW φ ω N0 H cells) {i:Nat} {u:V} (hc:cells[n]? = some (.tab rows)) (hi:rows[i]? = some (v,u)) (hv:VV φ H v a) (hn:∀ n,numV v=some n->n<cells.length) (hp:∀ b n i,v≠.p b n i):
  ∃ q t,runB ["table","key"] [] d_table_entry [.loc (φ n),a] H=some (.loc q,H++t):=by
 refine ex1_2 (key_ok W hv hn hp) fun t r1 hm=>?_
 obtain ⟨eo,e,p,w,R,I,k1,k2,k3,k4,k5,k6,k7,k8,k9,k10,k11,k12⟩:=(W.ext (t:=t)).cell n _ hc
 refine ex1_2 (k10.get hi) fun r hr ZZ=>?_
 have hL:=lookE_some (marks_nodup k11 k12) hi hr
 have hT:=hm.tk
 have I1:=I.at'
 have J:∀ b,b=(lookT (markL v) (tabE rows R)).isSome->(!b)=false:=fun b e=>by rw [e,hL]; rfl
 clear I k12 k11 k10 hm
 refine ⟨r.2.2,t,?_⟩
 apply v_run rfl
 unfold d_table_entry
 repeat' first|delta d_item d_notin|with_reducible apply v_kF (J _ rfl)|(show (_:Prop); with_reducible assumption)|delta v_seq v_if v_call v_cons v_nil v_attr v_loc v_asg v_sr v_sn v_skip v_ret v_sub v_cmp|exact rfl
theorem te_new (W:HW φ ω N0 H cells) (hc:cells[n]? = some (.tab rows)) (hv:VV φ H v a) (hn:∀ n,numV v=some n->n<cells.length) (hp:∀ b n i,v≠.p b n i) (hnew:∀ kv∈rows,kv.1≠v) (hz:rows.length<=100000):
  ∃ q H' ω',runB ["table","key"] [] d_table_entry [.loc (φ n),a] H=some (.loc q,H')/\HW φ ω' N0 H' (cells.set n (.tab (rows++[(v,.s "")])))/\Chg ω H H'/\Ext ω ω' H:=by
 refine ex1_2 (key_ok W hv hn hp) fun t r1 hm=>?_
 have W1:=(W.ext (t:=t)).ext (t:=[.list [a,.str ""]])
 obtain ⟨eo,e,p,w,R,I,k1,k2,k3,k4,k5,k6,k7,k8,k9,k10,k11,k12⟩:=(W.ext (t:=t)).cell n _ hc
 have hql:H.length<=(H++t).length:=by rw [List.length_append]; exact om30
 refine ex1_4 (put_row (q:=(H++t).length) (jm:=H.length+1) (v:=v) (u:=.s "") (a:=a) (b:=.str "") W1 hc l_new (W.hi _ hql) (Nat.le_trans W.len hql) (hm.keep .ext) (hv.keep (.trans .ext .ext) fun ZZ ZZ=>rfl) rfl hnew hp hz) fun H' r2 W2 C2 l2=>?_
 have hlt:=getElem?_lt hc
 obtain ⟨eo',e',p',w',R',I',k1',k2',k3',k4',k5',k6',k7',k8',k9',k10',k11',k12'⟩:=W2.cell n _ (List.getElem?_set_self hlt)
 have hi:(rows++[(v,V.s "")])[rows.length]? = some (v,V.s ""):=List.getElem?_concat_length
 refine ex1_2 (k10'.get hi) fun r hr ZZ=>?_
 have hL:=lookE_some (marks_nodup k11' k12') hi hr
 have hT:=(hm.keep (KeepS.trans .ext C2.stab)).tk
 have hT0:=hm.tk
 have I1:=I.at'
 have I1':=I'.at'
 have hL0:=lookE_none (R:=R) (ks:=markL v) fun kv hkv q=>hnew kv hkv (mark_inj (k12 kv hkv) hp q)
 have J:∀ b,b=(lookT (markL v) (tabE rows R)).isSome->(!b)=true:=fun b e=>by rw [e,hL0]; rfl
 have EX:Ext ω (tagAt ω (H++t).length (6,n,rows.length)) H:=fun i hi=>tagAt_ne (om122 hi hql)
 refine ⟨r.2.2,H',_,?_,W2,.trans .refl (.trans .refl .ext .ext) C2,EX⟩
 clear I I' k12 k12' k11 k11' k10 k10' hm W2 C2 EX W1 hr hi
 apply v_run rfl
 unfold d_table_entry
 repeat' first|delta d_item d_notin|with_reducible apply v_kT (J _ rfl)|(show (_:Prop); with_reducible assumption)|delta v_seq v_if v_call v_cons v_nil v_cst v_attr v_loc v_list v_asg v_sr v_sn v_skip v_ret v_sub v_expr v_cmp|exact rfl|exact Nat.le_of_ble_eq_true rfl
end
section
variable {φ:Nat->Nat} {ω ω':Tags} {N0:Nat} {H H' H2:List AO} {cells cells':List Cell}
variable {n i:Nat}
theorem ref_at {b:Bool}:RefAt φ (H++[.inst 117 [("kind",.str (kn b)),("owner",.loc (φ n)),("key",.int i)]]) H.length b n i:=⟨_,l_new,by kernel_rfl,by kernel_rfl,by kernel_rfl⟩
theorem ref_newI:clsF 117 (runB ["self","kind","owner","key"] [] d_NameRef_init) [.str (Str.ofString "item"),.loc (φ n),.int i] H=some (.loc H.length,H++[.inst 117 [("kind",.str (kn true)),("owner",.loc (φ n)),("key",.int i)]]):=ref_new
theorem ref_newF:clsF 117 (runB ["self","kind","owner","key"] [] d_NameRef_init) [.str (Str.ofString "field"),.loc (φ n),.int i] H=some (.loc H.length,H++[.inst 117 [("kind",.str (kn false)),("owner",.loc (φ n)),("key",.int i)]]):=ref_new
theorem item_tab (W:HW φ ω N0 H cells) {l:Nat} {rows:List (V×V)} {v:V} {a:AV} (hc:cells[n]? = some (.tab rows)) (hv:VV φ H v a) (hn:∀ n,numV v=some n->n<cells.length) (hp:∀ b n i,v≠.p b n i) (hz:rows.length<=100000) (hl:H[l]? = some (.list [a])) (h0:ω l=(0,0,0))
  (hx:(∃ u,rows[i]? = some (v,u)/\cells'=cells)\/((∀ kv∈rows,kv.1≠v)/\i=rows.length/\cells'=cells.set n (.tab (rows++[(v,.s "")])))):
  ∃ j H' ω',runB ["owner","keys","width"] [] d_item_ref [.loc (φ n),.loc l,.int 32] H=some (.loc j,H')/\HW φ ω' N0 H' cells'/\RefAt φ H' j true n i/\Chg ω H H'/\Ext ω ω' H:=by
 have hlt:=getElem?_lt hc
 obtain ⟨q,H',ω',u,rows',r1,W',hc',hi',C,E⟩:∃ q H' ω' u rows',runB ["table","key"] [] d_table_entry [.loc (φ n),a] H=some (.loc q,H')/\HW φ ω' N0 H' cells'/\cells'[n]? = some (.tab rows')/\rows'[i]? = some (v,u)/\Chg ω H H'/\Ext ω ω' H:=by
  rcases hx with ⟨u,hi,rfl⟩|⟨hnew,rfl,rfl⟩
  ·refine ex2_1 (te_found W hc hi hv hn hp) fun q t r=>?_
   exact ⟨q,_,ω,u,rows,r,W.ext,hc,hi,.ext,.refl⟩
  ·refine ex3_4 (te_new W hc hv hn hp hnew hz) fun q H' ω' r W' C E=>?_
   exact ⟨q,H',ω',_,_,r,W',List.getElem?_set_self hlt,List.getElem?_concat_length,C,E⟩
 have hn':∀ n,numV v=some n->n<cells'.length:=fun m hm=>by
  have:=hn m hm
  rcases hx with ⟨u,hi,rfl⟩|⟨hnew,rfl,rfl⟩
  ·exact this
  ·rw [List.length_set]; exact this
 refine ex1_2 (key_ok W' (hv.keep C.stab fun ZZ ZZ=>rfl) hn' hp) fun t r2 hm=>?_
 obtain ⟨eo,e,p,w,R,I,k1,k2,k3,k4,k5,k6,k7,k8,k9,k10,k11,k12⟩:=W.cell n _ hc
 obtain ⟨eo',e',p',w',R',I',k1',k2',k3',k4',k5',k6',k7',k8',k9',k10',k11',k12'⟩:=W'.cell n _ hc'
 refine ex1_2 (k10'.get hi') fun r hr ZZ=>?_
 have hL:=lookP_some (k:=0) (marks_nodup k11' k12') hi' hr
 rw [Nat.zero_add] at hL
 have hT:=hm.tk
 have I1:=I.at'
 have I1':=I'.at'
 have hl':=C.rest l _ hl (.inl (by rw [h0]))
 refine ⟨_,_,ω',?_,(W'.ext (t:=t)).ext,ref_at,.trans E C (.trans .refl .ext .ext),E⟩
 clear I I' k12 k12' k11 k11' k10 k10' hm W' W C E hr hi' hx
 apply v_run rfl
 unfold d_item_ref
 repeat' first|delta d_item ref_newI|(show (_:Prop); with_reducible assumption)|delta v_seq v_if v_val v_call v_cons v_nil v_cst v_attr v_loc v_isi v_tyI v_sr v_sn v_skip v_ret v_sub v_expr v_itSC v_cmp v_not v_or v_len l_old|with_reducible apply v_kF (by first|decide +kernel|(delta v_gd v_gnT v_gnF; assumption))|with_reducible apply v_oF (by first|decide +kernel|(delta v_gd v_gnT v_gnF; assumption))|exact rfl|exact Nat.le_of_ble_eq_true rfl
section
variable {ρ:List (Str×AV)} {L M:List AO} {σ σ1:Mine.St} {fi:FnI} {fa:AV->Mine.St->Option Mine.St} {fc:Fn Bool} {fe:Fn AV} {nx:Nx} {l l1 l2 d k i n:Nat} {xs ys:List AV} {a b v:AV} {cap:List Str} {H0 H1 H3:List AO} {r:List AO}
theorem c_over (h:nx i H=some none):compA nx fa fc fe ρ d (n+1) i H=some H:=by unfold compA; simp only [h]
theorem t_comp (h:fi ρ H0=some (nx,H++L)) (h2:compA nx fa fc fe (resK cap ρ) (H.length+L.length) 100000 0 (H++(L++[.list []]))=some H1):compF NN fi cap fa fc fe ρ H0=some (.loc (H.length+L.length),H1):=by
 unfold compF
 simp only [h]
 rw [List.length_append,List.append_assoc,show NN=100000 from rfl,h2]
theorem t_cturn (h:nx i H0=some (some (a,H1))) (h1:fa a ⟨ρ,H1⟩=some σ1) (h2:fc σ1.ρ σ1.H=some (true,H2)) (h3:fe σ1.ρ H2=some (v,H++M)) (h4:M[k]? = some (.list ys)) (hz:ys.length<=1000000)
  (h5:compA nx fa fc fe ρ (H.length+k) n (i+1) (H++M.set k (.list (ys++[v])))=some r):compA nx fa fc fe ρ (H.length+k) (n+1) i H0=some r:=by
 unfold compA
 simp only [h,h1,h2,h3,l_tail h4,hz,if_true,set_tail,h5]
theorem t_zip (h1:(H++L)[l1]? = some (.list xs)) (h2:(H++L)[l2]? = some (.list ys)) (hx:xs[i]? = some a) (hy:ys[i]? = some b):nxZip l1 l2 i (H++L)=some (some (.loc (H.length+L.length),H++(L++[.tup [a,b]]))):=by
 unfold nxZip
 simp only [h1,h2,hx,hy,List.length_append,List.append_assoc]
theorem n_zipE (h1:H[l1]? = some (.list xs)) (h2:H[l2]? = some (.list ys)) (hx:xs[i]? = none):nxZip l1 l2 i H=some none:=by
 unfold nxZip
 simp only [h1,h2,hx]
theorem z_zip (h1:H[l1]? = some (.list xs)) (h2:H[l2]? = some (.list ys)):zipG [.loc l1,.loc l2] H=some (nxZip l1 l2):=by
 unfold zipG
 simp only [h1,h2]
variable {x:Str}
theorem v_notinS {ys:List Str} (h:H[l]? = some (.list xs)) (hs:strsOf xs=some ys):notInA (.str x) (.loc l) H=some !(ys.any (· == x)):=by
 unfold notInA
 simp only [h,hs,Option.map_some]
variable {y:Str}
theorem v_idx0 (h:H[l]? = some (.list [.str x,.str y])):indexC [.loc l,.str x] H=some (.int ((0:Nat):Int),H):=by
 unfold indexC
 simp only [h,if_true]; rfl
theorem v_idx1 (h:H[l]? = some (.list [.str x,.str y])) (hn:(y == x)=false):indexC [.loc l,.str y] H=some (.int ((1:Nat):Int),H):=by
 unfold indexC
 have:y≠x:=by simpa using hn
 simp only [h,if_true,if_neg this]; rfl
end
theorem field_dat (W:HW φ ω N0 H cells) {vs:List V} {x:Str} (hc:cells[n]? = some (.dat vs)) (hx:x=Str.ofString "VALUE"/\i=0\/x=Str.ofString "LINK"/\i=1):
  ∃ j t,runB ["thing","field"] [] d_field_ref [.loc (φ n),.str x] H=some (.loc j,H++t)/\RefAt φ (H++t) j false n i:=by
 obtain ⟨eo,l,b,xs,I,k2,k3,k4,k5,k6,k7,k8,k9⟩:=W.cell n _ hc
 have I1:=I.at'
 clear I k8 k9 W
 rcases hx with ⟨rfl,rfl⟩|⟨rfl,rfl⟩
 ·refine ⟨_,_,?_,ref_at⟩
  apply v_run rfl
  unfold d_field_ref
  repeat' first|delta ref_newF v_notinS v_idx0|(show (_:Prop); with_reducible assumption)|delta v_seq v_if v_val v_call v_cons v_nil v_cst v_attr v_loc v_isi v_tyI v_sr v_sn v_skip v_ret v_cmp v_not v_meth v_isL|with_reducible apply v_kF (by first|decide +kernel|(delta v_gd v_gnT v_gnF; assumption))|exact rfl
 ·refine ⟨_,_,?_,ref_at⟩
  apply v_run rfl
  unfold d_field_ref
  repeat' first|delta ref_newF v_notinS v_idx1|(show (_:Prop); with_reducible assumption)|delta v_seq v_if v_val v_call v_cons v_nil v_cst v_attr v_loc v_isi v_tyI v_sr v_sn v_skip v_ret v_cmp v_not v_meth v_isL|with_reducible apply v_kF (by first|decide +kernel|(delta v_gd v_gnT v_gnF; assumption))|exact rfl
end
section
variable {φ:Nat->Nat} {ω ω':Tags} {N0:Nat} {H H' H2:List AO} {cells cells':List Cell}
variable {l i:Nat}
theorem place_arr {o b t:Nat} {eo:List (Str×AV)} (I1:H[o]? = some (.inst 208 eo)) (k3:eo.lookup (Str.ofString "bounds")=some (.loc b)) (k4:H[b]? = some (.list [.loc t])) (k5:H[t]? = some (.tup [.int 1,.int 2])) (hl:H[l]? = some (.list [.int (1+(i:Int))])) (hi:i<2):
  runB ["array","places"] [] d_array_place [.loc o,.loc l] H=some (.int i,H++[.tup [.loc t,.int (1+(i:Int))]]):=by
 have:i=0\/i=1:=om51 hi
 rcases this with rfl|rfl
 ·apply t_fin
  ·apply v_run rfl
   unfold d_array_place
   repeat' first|delta z_zip|(show (_:Prop); with_reducible assumption)|delta v_seq v_if v_call v_cons v_nil v_cst v_attr v_loc|with_reducible exact t_over (by first|exact n_listE2 (by first|assumption|exact l_tail rfl|(apply l_old; assumption)|fail) rfl|exact n_zipE (by first|assumption|exact l_tail rfl|(apply l_old; assumption)|fail) (by first|assumption|exact l_tail rfl|(apply l_old; assumption)|fail) rfl|fail)|delta t_zip t_for t_turn|((with_reducible apply l_tail); exact rfl)|delta v_asg v_sr v_sn v_skip v_ret v_cmp v_chain v_bin v_not v_len i_call v_pair v_nm v_sqT l_old|with_reducible apply v_kF (by first|decide +kernel|(delta v_gd v_gnT v_gnF; assumption))|exact rfl|exact Nat.le_of_ble_eq_true rfl
  ·kernel_rfl
 ·apply t_fin
  ·apply v_run rfl
   unfold d_array_place
   repeat' first|delta z_zip|(show (_:Prop); with_reducible assumption)|delta v_seq v_if v_call v_cons v_nil v_cst v_attr v_loc|with_reducible exact t_over (by first|exact n_listE2 (by first|assumption|exact l_tail rfl|(apply l_old; assumption)|fail) rfl|exact n_zipE (by first|assumption|exact l_tail rfl|(apply l_old; assumption)|fail) (by first|assumption|exact l_tail rfl|(apply l_old; assumption)|fail) rfl|fail)|delta t_zip t_for t_turn|((with_reducible apply l_tail); exact rfl)|delta v_asg v_sr v_sn v_skip v_ret v_cmp v_chain v_bin v_not v_len i_call v_pair v_nm v_sqT l_old|with_reducible apply v_kF (by first|decide +kernel|(delta v_gd v_gnT v_gnF; assumption))|exact rfl|exact Nat.le_of_ble_eq_true rfl
  ·kernel_rfl
theorem item_arr (W:HW φ ω N0 H cells) {n:Nat} {vs:List V} (hc:cells[n]? = some (.arr vs)) (hl:H[l]? = some (.list [.int (1+(i:Int))])) (hi:i<2):
  ∃ j t,runB ["owner","keys","width"] [] d_item_ref [.loc (φ n),.loc l,.int 32] H=some (.loc j,H++t)/\RefAt φ (H++t) j true n i:=by
 obtain ⟨eo,q,b,t,xs,I,k2,k3,k4,k5,k6,k7,k8,k9,k10,k11⟩:=W.cell n _ hc
 have I1:=I.at'
 have P:=place_arr (H:=H++[AO.list [.int (1+(i:Int))]]) (l_old I1) k3 (l_old k4) (l_old k6) l_new hi
 clear I k10 k11 W
 have run:runB ["owner","keys","width"] [] d_item_ref [.loc (φ n),.loc l,.int 32] H=some (.loc (H++[AO.list [.int (1+(i:Int))],AO.tup [.loc t,.int (1+(i:Int))]]).length,H++[.list [.int (1+(i:Int))],.tup [.loc t,.int (1+(i:Int))]]++[.inst 117 [("kind",.str (kn true)),("owner",.loc (φ n)),("key",.int i)]]):=by
  apply t_fin
  ·apply v_run rfl
   unfold d_item_ref
   repeat' first|delta ref_newI|exact P|unfold d_need_whole|unfold d_to_whole|(show (_:Prop); with_reducible assumption)|delta v_seq v_if v_val v_call v_cons v_nil v_cst v_loc t_comp|with_reducible exact c_over (by first|exact n_listE2 (by first|assumption|exact l_tail rfl|(apply l_old; assumption)|fail) rfl|exact n_zipE (by first|assumption|exact l_tail rfl|(apply l_old; assumption)|fail) (by first|assumption|exact l_tail rfl|(apply l_old; assumption)|fail) rfl|fail)|delta t_cturn v_isi v_asg v_tyI v_sr v_sn v_skip v_ret v_ife v_cmp v_tt|with_reducible apply v_runA rfl|delta i_list n_list v_nm|((with_reducible apply t_at); exact rfl)|delta l_old|with_reducible apply v_kT (by first|decide +kernel|(delta v_gd v_gnT v_gnF; assumption))|with_reducible apply v_kF (by first|decide +kernel|(delta v_gd v_gnT v_gnF; assumption))|with_reducible apply v_eF (by first|decide +kernel|(delta v_gd v_gnT v_gnF; assumption))|exact rfl|exact Nat.le_of_ble_eq_true rfl
  ·rw [List.append_assoc]; rfl
 exact ⟨_,_,run.trans (by rw [List.append_assoc]),by rw [<- List.append_assoc]; exact ref_at⟩
end
section
variable {φ:Nat->Nat} {ω ω':Tags} {N0:Nat} {H H' H2:List AO} {cells cells':List Cell}
variable {v:V}
theorem keyW_np:∀ b n i,keyW v≠.p b n i:=by cases v <;> exact fun ZZ ZZ ZZ h=>by cases h
variable {key:V} {k:AV}
theorem key_val (W:HW φ ω N0 H cells) (hk:VV φ H key k) (hn:∀ n,numV key=some n->n<cells.length):
  ∃ b,isiA isT [k,.glob (.ref 54)] H=some (.bool b,H)/\VV φ H (keyW key) (if b=true then .str "k" else k):=by
 cases key with
 |s x=>cases hk; exact ⟨_,v_isi rfl (v_is ti_str_54),by rw [ti_str_54]; rfl⟩
 |h n=>
  refine ex2_5 (holder_at (W.cell n _ (List.getElem?_eq_getElem (hn n rfl)))) fun C eo I t1 t2 t3 ZZ=>?_
  cases hk
  exact ⟨_,v_isi (v_tyI I.at') (v_is t3),by rw [t3]; rfl⟩
 |r b n i=>
  obtain ⟨j,rfl,es,h1,h2⟩:=hk
  exact ⟨_,v_isi (v_tyI h1) (v_is ti_117_54),by rw [ti_117_54]; exact ⟨j,rfl,es,h1,h2⟩⟩
 |p b n i=>
  obtain ⟨j,es,t,u,q,rfl,h1,_⟩:=hk
  exact ⟨_,v_isi (v_tyI h1) (v_is ti_54_54),by rw [ti_54_54]; rfl⟩
variable {rows:List (V×V)} {k:V} {i:Nat}
theorem rowIx_some (h:rowIx rows k=some i):∃ u,rows[i]? = some (k,u):=by
 refine ex1_2 (List.findIdx?_eq_some_iff_getElem.mp h) fun hi hp ZZ=>?_
 have e:rows[i].1=k:=by simpa using hp
 exact ⟨rows[i].2,by rw [List.getElem?_eq_getElem hi,<- e]⟩
theorem rowIx_none (h:rowIx rows k=none):∀ kv∈rows,kv.1≠k:=fun kv hkv e=>by
 have:=List.findIdx?_eq_none_iff.mp h kv hkv
 simp [e] at this
def SpotIs (φ:Nat->Nat) (H:List AO) (r:AV):Option (Bool×Nat×Nat)->Prop
 |some (b,n,i)=>∃ j,r = .loc j/\RefAt φ H j b n i
 |none=>r = .none
variable {k:AV} {i:Int}
theorem spot_s {x:Str}:runB ["value","key","at"] [] d_law_spot [.str x,k,.int i] H=some (.none,H):=by
 apply v_run rfl
 unfold d_law_spot
 repeat' first|delta v_seq v_if v_val v_call v_cons v_nil v_cst v_loc v_isi v_sr v_sn v_skip v_ret v_ife|with_reducible apply v_kF (by first|decide +kernel|(delta v_gd v_gnT v_gnF; assumption))|with_reducible apply v_eF (by first|decide +kernel|(delta v_gd v_gnT v_gnF; assumption))|exact rfl
variable {j:Nat} {es:List (Str×AV)}
theorem spot_p (h:H[j]? = some (.inst 54 es)):runB ["value","key","at"] [] d_law_spot [.loc j,k,.int i] H=some (.none,H):=by
 apply v_run rfl
 unfold d_law_spot
 repeat' first|(show (_:Prop); with_reducible assumption)|delta v_seq v_if v_val v_call v_cons v_nil v_cst v_loc v_isi v_tyI v_sr v_sn v_skip v_ret v_ife|with_reducible apply v_kF (by first|decide +kernel|(delta v_gd v_gnT v_gnF; assumption))|with_reducible apply v_eF (by first|decide +kernel|(delta v_gd v_gnT v_gnF; assumption))|exact rfl
theorem spot_r (h:H[j]? = some (.inst 117 es)):runB ["value","key","at"] [] d_law_spot [.loc j,k,.int i] H=some (.loc j,H):=by
 apply v_run rfl
 unfold d_law_spot
 repeat' first|(show (_:Prop); with_reducible assumption)|delta v_seq v_if v_val v_call v_cons v_nil v_cst v_loc v_isi v_tyI v_sr v_sn v_skip v_ret v_ife|with_reducible apply v_kF (by first|decide +kernel|(delta v_gd v_gnT v_gnF; assumption))|with_reducible apply v_eT (by first|decide +kernel|(delta v_gd v_gnT v_gnF; assumption))|exact rfl
variable {o i:Nat} {r:AV}
theorem spot_arr (h:H[o]? = some (.inst 208 es)) (e:runB ["owner","keys","width"] [] d_item_ref [.loc o,.loc H.length,.int 32] (H++[.list [.int (1+(i:Int))]])=some (r,H')):
  runB ["value","key","at"] [] d_law_spot [.loc o,k,.int i] H=some (r,H'):=by
 apply v_run rfl
 unfold d_law_spot
 repeat' first|(show (_:Prop); with_reducible assumption)|delta v_seq v_if v_val v_call v_cons v_nil v_cst v_loc v_list v_isi v_tyI v_sr v_ret v_bin|with_reducible apply v_kT (by first|decide +kernel|(delta v_gd v_gnT v_gnF; assumption))|exact rfl|exact Nat.le_of_ble_eq_true rfl
theorem spot_tab {b:Bool} (h:H[o]? = some (.inst 227 es)) (hb:isiA isT [k,.glob (.ref 54)] H=some (.bool b,H)) (e:runB ["owner","keys","width"] [] d_item_ref [.loc o,.loc H.length,.int 32] (H++[.list [if b=true then .str "k" else k]])=some (r,H')):
  runB ["value","key","at"] [] d_law_spot [.loc o,k,.int i] H=some (r,H'):=by
 cases b with
 |true=>
  rw [if_pos rfl] at e
  apply v_run rfl
  unfold d_law_spot
  repeat' first|(show (_:Prop); with_reducible assumption)|delta v_seq v_if v_val v_call v_cons v_nil v_cst v_loc v_list v_isi v_tyI v_sr v_sn v_skip v_ret v_ife|with_reducible apply v_kT (by first|decide +kernel|(delta v_gd v_gnT v_gnF; assumption))|with_reducible apply v_kF (by first|decide +kernel|(delta v_gd v_gnT v_gnF; assumption))|with_reducible apply v_eT (by first|decide +kernel|(delta v_gd v_gnT v_gnF; assumption))|exact rfl|exact Nat.le_of_ble_eq_true rfl
 |false=>
  rw [if_neg Bool.false_ne_true] at e
  apply v_run rfl
  unfold d_law_spot
  repeat' first|(show (_:Prop); with_reducible assumption)|delta v_seq v_if v_val v_call v_cons v_nil v_cst v_loc v_list v_isi v_tyI v_sr v_sn v_skip v_ret v_ife|with_reducible apply v_kT (by first|decide +kernel|(delta v_gd v_gnT v_gnF; assumption))|with_reducible apply v_kF (by first|decide +kernel|(delta v_gd v_gnT v_gnF; assumption))|with_reducible apply v_eF (by first|decide +kernel|(delta v_gd v_gnT v_gnF; assumption))|exact rfl|exact Nat.le_of_ble_eq_true rfl
theorem spot_dat0 (h:H[o]? = some (.inst 246 es)) (e:runB ["thing","field"] [] d_field_ref [.loc o,.str "LINK"] (H++[.list [.str "LINK",.str "VALUE"]])=some (r,H')):
  runB ["value","key","at"] [] d_law_spot [.loc o,k,.int ((0:Nat):Int)] H=some (r,H'):=by
 apply v_run rfl
 unfold d_law_spot
 repeat' first|(show (_:Prop); with_reducible assumption)|delta v_seq v_if v_val v_call v_cons v_nil v_cst v_loc v_list v_isi v_tyI v_sr v_sn v_skip v_ret v_sub v_itS l_new|with_reducible apply v_kT (by first|decide +kernel|(delta v_gd v_gnT v_gnF; assumption))|with_reducible apply v_kF (by first|decide +kernel|(delta v_gd v_gnT v_gnF; assumption))|exact rfl|exact Nat.le_of_ble_eq_true rfl
theorem spot_dat1 (h:H[o]? = some (.inst 246 es)) (e:runB ["thing","field"] [] d_field_ref [.loc o,.str "VALUE"] (H++[.list [.str "LINK",.str "VALUE"]])=some (r,H')):
  runB ["value","key","at"] [] d_law_spot [.loc o,k,.int ((1:Nat):Int)] H=some (r,H'):=by
 apply v_run rfl
 unfold d_law_spot
 repeat' first|(show (_:Prop); with_reducible assumption)|delta v_seq v_if v_val v_call v_cons v_nil v_cst v_loc v_list v_isi v_tyI v_sr v_sn v_skip v_ret v_sub v_itS l_new|with_reducible apply v_kT (by first|decide +kernel|(delta v_gd v_gnT v_gnF; assumption))|with_reducible apply v_kF (by first|decide +kernel|(delta v_gd v_gnT v_gnF; assumption))|exact rfl|exact Nat.le_of_ble_eq_true rfl
theorem spot_ok (W:HW φ ω N0 H cells) {a:AV} (hv:VV φ H v a) (hk:VV φ H key k) (nv:∀ n,numV v=some n->n<cells.length) (nk:∀ n,numV key=some n->n<cells.length) (hi:i<2) (hz:∀ (n:Nat) (rows:List (V×V)),cells[n]? = some (.tab rows)->rows.length<=100000):
  ∃ r H' ω',runB ["value","key","at"] [] d_law_spot [a,k,.int i] H=some (r,H')/\HW φ ω' N0 H' (spotW cells v key i).2/\SpotIs φ H' r (spotW cells v key i).1/\Chg ω H H'/\Ext ω ω' H:=by
 cases v with
 |s x=>cases hv; exact ⟨_,_,ω,spot_s,W,rfl,⟨fun ZZ ZZ h ZZ=>h,fun ZZ ZZ h ZZ=>h,Nat.le_refl _⟩,.refl⟩
 |p b n i=>obtain ⟨j,es,t,u,q,rfl,h1,_⟩:=hv; exact ⟨_,_,ω,spot_p h1,W,rfl,⟨fun ZZ ZZ h ZZ=>h,fun ZZ ZZ h ZZ=>h,Nat.le_refl _⟩,.refl⟩
 |r b n i=>obtain ⟨j,rfl,es,h1,h2⟩:=hv; exact ⟨_,_,ω,spot_r h1,W,⟨j,rfl,es,h1,h2⟩,⟨fun ZZ ZZ h ZZ=>h,fun ZZ ZZ h ZZ=>h,Nat.le_refl _⟩,.refl⟩
 |h n=>
  cases hv
  have hlt:=nv n rfl
  have hc:=List.getElem?_eq_getElem hlt
  have C0:=W.cell n _ hc
  unfold spotW
  cases hcc:cells[n] with
  |arr vs=>
   rw [hcc] at hc C0
   simp only [hc]
   obtain ⟨eo,q,b,t,xs,I,_⟩:=C0
   refine ex2_2 (item_arr (W.ext (t:=[.list [.int (1+(i:Int))]])) hc l_new hi) fun j t e r=>?_
   exact ⟨_,_,ω,spot_arr I.at' e,W.ext.ext,⟨j,rfl,r⟩,.trans .refl .ext .ext,.refl⟩
  |dat vs=>
   rw [hcc] at hc C0
   simp only [hc]
   obtain ⟨eo,q,b,xs,I,_⟩:=C0
   have:i=0\/i=1:=om51 hi
   rcases this with rfl|rfl
   ·refine ex2_2 (field_dat (W.ext (t:=[.list [.str "LINK",.str "VALUE"]])) hc (.inr ⟨rfl,rfl⟩)) fun j t e r=>?_
    exact ⟨_,_,ω,spot_dat0 I.at' e,W.ext.ext,⟨j,rfl,r⟩,.trans .refl .ext .ext,.refl⟩
   ·refine ex2_2 (field_dat (W.ext (t:=[.list [.str "LINK",.str "VALUE"]])) hc (.inl ⟨rfl,rfl⟩)) fun j t e r=>?_
    exact ⟨_,_,ω,spot_dat1 I.at' e,W.ext.ext,⟨j,rfl,r⟩,.trans .refl .ext .ext,.refl⟩
  |tab rows=>
   rw [hcc] at hc C0
   simp only [hc]
   obtain ⟨eo,e,p,w,R,I,_⟩:=C0
   refine ex1_2 (key_val W hk nk) fun b hb hkv=>?_
   have nk':∀ n,numV (keyW key)=some n->n<cells.length:=fun m hm=>by cases key <;> first|(cases hm; done)|exact nk m hm
   have W1:=W.ext (t:=[.list [if b=true then .str "k" else k]])
   have hkv':=hkv.keep (KeepS.ext (t:=[.list [if b=true then .str "k" else k]])) fun ZZ ZZ=>rfl
   cases hr:rowIx rows (keyW key) with
   |some i'=>
    refine ex3_5 (item_tab (cells':=cells) W1 hc hkv' nk' keyW_np (hz n rows hc) l_new (W.hi _ (Nat.le_refl _)) (.inl (let ⟨u,hu⟩:=rowIx_some hr; ⟨u,hu,rfl⟩))) fun j H' ω' e W2 r C E=>?_
    exact ⟨_,H',ω',spot_tab I.at' hb e,W2,⟨j,rfl,r⟩,.trans .refl .ext C,fun i hi=>E i (by rw [List.length_append]; exact om93 hi)⟩
   |none=>
    refine ex3_5 (item_tab W1 hc hkv' nk' keyW_np (hz n rows hc) l_new (W.hi _ (Nat.le_refl _)) (.inr ⟨rowIx_none hr,rfl,rfl⟩)) fun j H' ω' e W2 r C E=>?_
    exact ⟨_,H',ω',spot_tab I.at' hb e,W2,⟨j,rfl,r⟩,.trans .refl .ext C,fun i hi=>E i (by rw [List.length_append]; exact om93 hi)⟩
end
theorem sne {a b:String} (h:a≠b):Str.ofString a≠Str.ofString b:=fun e=>h (ofS_inj e)
section
variable {φ φ':Nat->Nat} {ω ω':Tags} {N0:Nat} {H H' H2:List AO} {cells cells':List Cell} {w s hl:Nat} {st:List V} {held:List Nat} {made:Nat}
theorem HW.frame (W:HW φ ω N0 H cells) (k:KeepS H H') (f:∀ (i:Nat) (o:AO),H[i]? = some o->1<=(ω i).1/\(ω i).1<=7->H'[i]? = some o) (hL:H.length<=H'.length):HW φ ω N0 H' cells:=
 ⟨fun n c hc=>(W.cell n c hc).keep k (fun i o hi q=>f i o hi (by rcases q with q|q <;> omega)) (fun ZZ ZZ=>rfl) rfl fun ZZ ZZ ZZ ZZ=>rfl,W.low,Nat.le_trans W.len hL,fun i hi=>W.hi i (Nat.le_trans hL hi)⟩
theorem HW.agree (W:HW φ ω N0 H cells) (E:Ext ω ω' H):∀ i:Nat,(ω i).1≠0->ω' i=ω i:=fun i hi=>E i (Nat.lt_of_not_le fun q=>hi (by rw [W.hi i q]))
def NumC (cells:List Cell):Prop:=∀ (n:Nat) (c:Cell),cells[n]? = some c->∀ v∈partsC c,∀ j,numV v=some j->j<cells.length
theorem HW.new (W:HW φ ω N0 H cells) (V:NumC cells) {c:Cell} (a:∀ n,n<cells.length->φ' n=φ n) (E:Ext ω ω' H) (hi:∀ i,H'.length<=i->ω' i=(0,0,0)) (k:KeepS H H') (f:∀ (i:Nat) (o:AO),H[i]? = some o->1<=(ω i).1/\(ω i).1<=7->H'[i]? = some o) (hL:H.length<=H'.length) (h:CellAt φ' ω' H' cells.length c):
  HW φ' ω' N0 H' (cells++[c]):=by
 refine ⟨fun n d hd=>?_,fun i q=>by rw [E i (Nat.lt_of_lt_of_le q W.len)]; exact W.low i q,Nat.le_trans W.len hL,hi⟩
 by_cases q:n<cells.length
 ·rw [List.getElem?_append_left q] at hd
  exact (W.cell n d hd).keep k (fun i o hi q=>f i o hi (by rcases q with q|q <;> omega)) (W.agree E) (a n q) fun v hv j hj=>a j (V n d hd v hv j hj)
 ·have:n=cells.length:=by
   have:=getElem?_lt hd
   rw [List.length_append,List.length_singleton] at this; exact om141 this q
  subst this
  rw [List.getElem?_concat_length] at hd
  obtain rfl:=so hd; exact h
structure WorldAt (φ:Nat->Nat) (ω:Tags) (H:List AO) (w s hl:Nat) (made:Nat) (held:List Nat):Prop where
 world:∃ es,H[w]? = some (.inst 348 es)/\es.lookup (Str.ofString "store")=some (.loc s)/\es.lookup (Str.ofString "holders")=some (.loc hl)/\es.lookup (Str.ofString "made")=some (.int made)/\es.lookup (Str.ofString "width")=some (.int 32) /\
  es.lookup (Str.ofString "most_items")=some (.int 20000)/\es.length<=50
 holders:H[hl]? = some (.list (held.map fun n=>.loc (φ n)))
 wt:ω w=(8,0,0)
 ht:ω hl=(10,0,0)
structure StoreAt (φ:Nat->Nat) (ω:Tags) (H:List AO) (s:Nat) (st:List V):Prop where
 store:∃ a b c,H[s]? = some (.dstr [("A",a),("B",b),("C",c)])/\VVs φ H st [a,b,c]
 tag:ω s=(9,0,0)
theorem tg' (E:Ext ω ω' H) {i:Nat} {o:AO} {t:Nat×Nat×Nat} (h:H[i]? = some o) (ht:ω i=t):ω' i=t:=(E i (getElem?_lt h)).trans ht
theorem WorldAt.keep (W:WorldAt φ ω H w s hl made held) (a:∀ n∈held,φ' n=φ n) (E:Ext ω ω' H) (f:∀ (i:Nat) (o:AO),H[i]? = some o->(ω i).1=8\/(ω i).1=10->H'[i]? = some o):WorldAt φ' ω' H' w s hl made held:=by
 obtain ⟨⟨es,h1,h2⟩,h3,h4,h5⟩:=W
 have:held.map (fun n=>AV.loc (φ' n))=held.map (fun n=>AV.loc (φ n)):=List.map_congr_left fun n hn=>by rw [a n hn]
 exact ⟨⟨es,f _ _ h1 (.inl (by rw [h4])),h2⟩,by rw [this]; exact f _ _ h3 (.inr (by rw [h5])),tg' E h1 h4,tg' E h3 h5⟩
theorem StoreAt.keep (S:StoreAt φ ω H s st) (k:KeepS H H') (a:∀ v∈st,∀ n,numV v=some n->φ' n=φ n) (E:Ext ω ω' H) (f:∀ (i:Nat) (o:AO),H[i]? = some o->(ω i).1=9->H'[i]? = some o):StoreAt φ' ω' H' s st:=by
 obtain ⟨⟨x,y,z,h1,h2⟩,h3⟩:=S
 exact ⟨⟨x,y,z,f _ _ h1 (by rw [h3]),h2.keep k a⟩,tg' E h1 h3⟩
structure RW (φ:Nat->Nat) (ω:Tags) (N0:Nat) (H:List AO) (cells:List Cell) (w s:Nat) (st:List V) (held:List Nat):Prop where
 hw:HW φ ω N0 H cells
 world:∃ hl,WorldAt φ ω H w s hl cells.length held
 store:StoreAt φ ω H s st
structure Into (φ:Nat->Nat) (ω:Tags) (H:List AO) (cells:List Cell) (φ':Nat->Nat) (ω':Tags) (H':List AO):Prop where
 agree:∀ n,n<cells.length->φ' n=φ n
 ext:Ext ω ω' H
 stab:KeepS H H'
 zero:∀ (i:Nat) (o:AO),H[i]? = some o->(ω i).1=0->H'[i]? = some o
 len:H.length<=H'.length
theorem Chg.into (C:Chg ω H H') (E:Ext ω ω' H):Into φ ω H cells φ ω' H':=⟨fun ZZ ZZ=>rfl,E,C.stab,fun i o h q=>C.rest i o h (.inl q),C.len⟩
theorem RW.chg (R:RW φ ω N0 H cells w s st held) (W:HW φ ω' N0 H' cells') (C:Chg ω H H') (E:Ext ω ω' H) (hL:cells'.length=cells.length):RW φ ω' N0 H' cells' w s st held:=by
 refine ex1_1 (R.world) fun hl Wd=>?_
 exact ⟨W,⟨hl,by rw [hL]; exact Wd.keep (fun ZZ ZZ=>rfl) E fun i o h q=>C.rest i o h (.inr (om59 q))⟩,R.store.keep C.stab (fun ZZ ZZ ZZ ZZ=>rfl) E fun i o h q=>C.rest i o h (.inr (om9 q))⟩
theorem next_ok (W:WorldAt φ ω H w s hl made held):
  ∃ es,H[w]? = some (.inst 348 es)/\runB ["world"] [] d_next_number [.loc w] H=some (.int (made+1:Nat),H.set w (.inst 348 (putA "made" (.int (made+1)) es)))/\WorldAt φ ω (H.set w (.inst 348 (putA "made" (.int (made+1)) es))) w s hl (made+1) held:=by
 obtain ⟨⟨es,h1,h2,h3,h4,h5,h6,h7⟩,h8,h9,h10⟩:=W
 have hw:w≠hl:=fun e=>by rw [e,h8] at h1; cases h1
 have h4':(putA "made" (.int (made+1)) es).lookup (Str.ofString "made")=some (.int (made+1:Nat)):=putA_eq
 have ln:(putA "made" (.int (made+1)) es).length=es.length:=by rw [putA_len,if_pos (by rw [h4]; rfl)]
 have h7':es.length<=100:=om91 ln h7
 refine ⟨es,h1,?_,⟨⟨_,l_set h1,?_,?_,h4',?_,?_,by exact om85 ln h7⟩,l_ne hw h8,h9,h10⟩⟩
 ·clear h2 h3 h5 h6 h7 h8 h9 h10 hw ln
  apply v_run rfl
  unfold d_next_number
  repeat' first|delta v_aug l_set|(show (_:Prop); with_reducible assumption)|delta v_seq v_cst v_attr v_loc v_sr v_sn v_ret|exact rfl
 ·rw [putA_ne (sne (by decide))]; exact h2
 ·rw [putA_ne (sne (by decide))]; exact h3
 ·rw [putA_ne (sne (by decide))]; exact h5
 ·rw [putA_ne (sne (by decide))]; exact h6
theorem held_ok (W:WorldAt φ ω H w s hl made held) {x n:Nat} (hx:φ n=x) (hz:held.length<=100000):
  runB ["world","holder"] [] d_held [.loc w,.loc x] H=some (.loc x,H.set hl (.list (held.map (fun n=>.loc (φ n))++[.loc x])))/\WorldAt φ ω (H.set hl (.list (held.map (fun n=>.loc (φ n))++[.loc x]))) w s hl made (held++[n]):=by
 obtain ⟨⟨es,h1,h2,h3,h4,h5,h6,h7⟩,h8,h9,h10⟩:=W
 have hw:hl≠w:=fun e=>by rw [e,h1] at h8; cases h8
 have hz':(held.map fun n=>AV.loc (φ n)).length<=1000000:=by rw [List.length_map]; exact om46 hz
 refine ⟨?_,⟨⟨es,l_ne hw h1,h2,h3,h4,h5,h6,h7⟩,by rw [List.map_append,<- hx]; exact l_set h8,h9,h10⟩⟩
 clear h2 h4 h5 h6 h7 h9 h10 hx
 apply v_run rfl
 unfold d_held
 repeat' first|delta v_app|(show (_:Prop); with_reducible assumption)|delta v_seq v_cons v_nil v_attr v_loc v_sr v_sn v_ret v_expr v_meth v_isL|exact rfl
end
section
variable {φ φ':Nat->Nat} {ω ω':Tags} {N0:Nat} {H H' H2:List AO} {cells cells':List Cell} {w s hl:Nat} {st:List V} {held:List Nat} {made:Nat}
variable {L:List AO} {k:Nat}
theorem cell_new (W:HW φ ω N0 H cells) (V:NumC cells) {c:Cell} (Ts:List (Nat×Nat×Nat)) (hT:Ts.length<=L.length)
  (hc:∀ (φ':Nat->Nat) (ω':Tags),φ' cells.length=H.length+k->(∀ n,n<cells.length->φ' n=φ n)->Ext ω ω' H->(∀ i,ω' (H.length+i)=Ts.getD i (0,0,0))->CellAt φ' ω' (H++L) cells.length c):
  ∃ φ' ω',HW φ' ω' N0 (H++L) (cells++[c])/\φ' cells.length=H.length+k/\Into φ ω H cells φ' ω' (H++L):=by
 have a:∀ n,n<cells.length->(fun n=>if n=cells.length then H.length+k else φ n) n=φ n:=fun n hn=>if_neg (Nat.ne_of_lt hn)
 have E:Ext ω (fun i=>if i<H.length then ω i else Ts.getD (i - H.length) (0,0,0)) H:=fun i hi=>if_pos hi
 have tl:∀ i,(fun i=>if i<H.length then ω i else Ts.getD (i - H.length) (0,0,0)) (H.length+i)=Ts.getD i (0,0,0):=fun i=>by
  show (if H.length+i<H.length then _ else _)=_
  rw [if_neg (om40),Nat.add_sub_cancel_left]
 refine ⟨fun n=>if n=cells.length then H.length+k else φ n,_,W.new V a E (fun i hi=>?_) .ext (fun ZZ ZZ h ZZ=>l_old h) (by rw [List.length_append]; exact om96 hT) (hc _ _ (if_pos rfl) a E tl),if_pos rfl,⟨a,E,.ext,fun ZZ ZZ h ZZ=>l_old h,by rw [List.length_append]; exact om96 hT⟩⟩
 rw [List.length_append] at hi
 show (if i<H.length then _ else _)=_
 rw [if_neg (om184 hi hT),List.getD_eq_getElem?_getD,List.getElem?_eq_none (om199 hi hT)]; rfl
theorem t_mul {y:Int} {xs:List AV} (h:L[k]? = some (.list xs)) (hy:(decide (0<=y)&&decide (y<=16))=true) (hz:xs.length<=16):mulA (.loc (H.length+k)) (.int y) (H++L)=some (.loc (H.length+L.length),H++(L++[.list (List.replicate y.toNat xs).flatten])):=by
 unfold mulA
 simp only [l_tail h]
 rw [Bool.and_eq_true,decide_eq_true_eq,decide_eq_true_eq] at hy
 rw [if_pos ⟨hy.1,hy.2,hz⟩,List.length_append,List.append_assoc]
variable {v:AV}
theorem t_fin0 {F:FnC} {as:List AV} {r:AV×List AO} (h:F as (H++[])=some r) (e:r=(v,H++[])):F as H=some (v,H):=by
 rw [t_start h,e,List.append_nil]
variable {b t:Nat}
theorem size2 (k4:H[b]? = some (.list [.loc t])) (k5:H[t]? = some (.tup [.int 1,.int 2])):runB ["bounds"] [] d_size_of_bounds [.loc b] H=some (.int 2,H):=by
 apply t_fin0
 ·apply v_run rfl
  unfold d_size_of_bounds
  repeat' first|(show (_:Prop); with_reducible assumption)|delta v_seq v_cst v_loc|with_reducible exact t_over (by first|exact n_listE2 (by first|assumption|exact l_tail rfl|(apply l_old; assumption)|fail) rfl|exact n_zipE (by first|assumption|exact l_tail rfl|(apply l_old; assumption)|fail) (by first|assumption|exact l_tail rfl|(apply l_old; assumption)|fail) rfl|fail)|delta t_for t_turn v_asg v_sr v_sn v_skip v_ret v_bin i_list n_list v_pair v_nm v_sqT l_old|exact rfl
 ·kernel_rfl
variable {m:Int}
theorem arr_cls (k4:H[b]? = some (.list [.loc t])) (k5:H[t]? = some (.tup [.int 1,.int 2])):
  clsF 208 (runB ["self","number","told","bounds","value"] [] d_Array_init) [.int m,.str "2",.loc b,v] H=some (.loc H.length,H++[.inst 208 [("word",.str "ARRAY"),("number",.int m),("mark",.int 0),("told",.str "2"),("bounds",.loc b),("items",.loc (H.length+2))],.list [v],.list [v,v]]):=by
 have S:∀ {L:List AO},runB ["bounds"] [] d_size_of_bounds [.loc b] (H++L)=some (.int 2,H++L):=size2 (l_old k4) (l_old k5)
 apply t_fin
 ·unfold d_Array_init
  repeat' first|exact S|unfold d_Holder_init|delta v_seq v_call v_cons v_nil v_cst v_loc t_list t_set t_cls t_mul v_sn v_skip v_expr v_bin|with_reducible apply v_runA rfl|((with_reducible apply t_at); exact rfl)|exact rfl|exact Nat.le_of_ble_eq_true rfl
 ·kernel_rfl
theorem tab_cls:
  clsF 227 (runB ["self","number"] [] d_Table_init) [.int m] H=some (.loc H.length,H++[.inst 227 [("word",.str "TABLE"),("number",.int m),("mark",.int 0),("entries",.loc (H.length+1)),("places",.loc (H.length+2)),("rows",.loc (H.length+3))],.dnil,.dnil,.list []]):=by
 apply t_fin
 ·unfold d_Table_init
  repeat' first|unfold d_Holder_init|delta v_seq v_call v_cons v_nil v_cst v_loc t_list t_d0 t_set t_cls v_sn v_skip v_expr|with_reducible apply v_runA rfl|((with_reducible apply t_at); exact rfl)|exact rfl|exact Nat.le_of_ble_eq_true rfl
 ·kernel_rfl
theorem dat_cls {l:Nat}:
  clsF 246 (runB ["self","number","word","fields","values"] [] d_Data_init) [.int m,.str "NODE",.loc b,.loc l] H=some (.loc H.length,H++[.inst 246 [("word",.str "NODE"),("number",.int m),("mark",.int 0),("fields",.loc b),("values",.loc l)]]):=by
 apply t_fin
 ·unfold d_Data_init
  repeat' first|unfold d_Holder_init|delta v_seq v_call v_cons v_nil v_cst v_loc t_set t_cls v_sn v_skip v_expr|with_reducible apply v_runA rfl|((with_reducible apply t_at); exact rfl)|exact rfl|exact Nat.le_of_ble_eq_true rfl
 ·kernel_rfl
end
section
variable {φ φ':Nat->Nat} {ω ω':Tags} {N0:Nat} {H H' H2:List AO} {cells cells':List Cell} {w s hl:Nat} {st:List V} {held:List Nat} {made:Nat}
theorem v_methS {ρ:List (Str×AV)} {H1:List AO} {a:AV} {as:List AV} {f:Fn AV} {fs:Fn (List AV)} {F:FnC} {r:AV×List AO} (hf:f ρ H=some (a,H1)) (hl:isStrA a=true) (hs:fs ρ H1=some (as,H2)) (h:F (a::as) H2=some r):methSF F f fs ρ H=some r:=by unfold methSF; rw [hf,bnd_mk,if_pos hl,hs]; exact h
theorem t_split {L:List AO} {x y:Str} {ys:List Str} (h:Txt.split x y=ys) (hz:(decide (y.length=1)&&decide (x.length<=1000))=true):splitC [.str x,.str y] (H++L)=some (.loc (H.length+L.length),H++(L++[.list (ys.map .str)])):=by
 unfold splitC
 rw [Bool.and_eq_true,decide_eq_true_eq,decide_eq_true_eq] at hz
 simp only [hz,and_self,if_true,h,List.length_append,List.append_assoc]
theorem wot2:runB ["text","width"] [] d_whole_of_text [.str "2",.int 32] H=some (.int 2,H):=by kernel_rfl
theorem bounds2:runB ["text","width"] [] d_read_bounds [.str "2",.int 32] H=some (.loc H.length,H++[.list [.loc (H.length+3)],.list [.str "2"],.list [.str "2"],.tup [.int 1,.int 2]]):=by
 have s1:Txt.split (Str.ofString "2") (Str.ofString ",") = [Str.ofString "2"]:=by kernel_rfl
 have s2:Txt.split (Str.ofString "2") (Str.ofString ":") = [Str.ofString "2"]:=by kernel_rfl
 apply t_fin
 ·apply v_run rfl
  unfold d_read_bounds
  repeat' first|unfold d_whole_in|delta wot2|(show (_:Prop); with_reducible assumption)|delta v_seq v_if v_call v_cons v_nil v_cst v_loc t_tup t_list t_app t_split|with_reducible exact t_over (by first|exact n_listE2 (by first|assumption|exact l_tail rfl|(apply l_old; assumption)|fail) rfl|exact n_zipE (by first|assumption|exact l_tail rfl|(apply l_old; assumption)|fail) (by first|assumption|exact l_tail rfl|(apply l_old; assumption)|fail) rfl|fail)|delta t_for t_turn|((with_reducible apply l_tail); exact rfl)|delta v_asg v_sr v_sn v_skip v_ret v_sub v_expr v_itSC v_ife v_cmp v_neg v_meth v_methS v_len v_isL|with_reducible apply v_runA rfl|delta i_list n_list v_nm|((with_reducible apply t_at); exact rfl)|with_reducible apply v_kF (by first|decide +kernel|(delta v_gd v_gnT v_gnF; assumption))|with_reducible apply v_eF (by first|decide +kernel|(delta v_gd v_gnT v_gnF; assumption))|exact rfl|exact Nat.le_of_ble_eq_true rfl
 ·kernel_rfl
end
section
variable {φ φ':Nat->Nat} {ω ω':Tags} {N0:Nat} {H H' H1 H2:List AO} {cells cells':List Cell} {w s hl:Nat} {st:List V} {held:List Nat} {made:Nat}
theorem r_eq {F:FnC} {as as':List AV} {r:AV×List AO} (e:F as' H'=some r) (h1:as=as') (h2:H=H'):F as H=some r:=by subst h1; subst h2; exact e
variable {L:List AO}
theorem bounds2T:runB ["text","width"] [] d_read_bounds [.str "2",.int 32] (H++L)=some (.loc (H.length+L.length),H++(L++[.list [.loc (H.length+(L.length+3))],.list [.str "2"],.list [.str "2"],.tup [.int 1,.int 2]])):=by
 rw [bounds2,List.length_append,List.append_assoc]; rfl
variable {m:Int} {b:Nat}
theorem arr_clsT {t:Nat} {v:AV} (k4:(H++L)[b]? = some (.list [.loc t])) (k5:(H++L)[t]? = some (.tup [.int 1,.int 2])):
  clsF 208 (runB ["self","number","told","bounds","value"] [] d_Array_init) [.int m,.str "2",.loc b,v] (H++L)=some (.loc (H.length+L.length),H++(L++[.inst 208 [("word",.str "ARRAY"),("number",.int m),("mark",.int 0),("told",.str "2"),("bounds",.loc b),("items",.loc (H.length+(L.length+2)))],.list [v],.list [v,v]])):=by
 rw [arr_cls k4 k5,List.length_append,List.append_assoc]; rfl
theorem tab_clsT:
  clsF 227 (runB ["self","number"] [] d_Table_init) [.int m] (H++L)=some (.loc (H.length+L.length),H++(L++[.inst 227 [("word",.str "TABLE"),("number",.int m),("mark",.int 0),("entries",.loc (H.length+(L.length+1))),("places",.loc (H.length+(L.length+2))),("rows",.loc (H.length+(L.length+3)))],.dnil,.dnil,.list []])):=by
 rw [tab_cls,List.length_append,List.append_assoc]; rfl
theorem dat_clsT {l:Nat}:
  clsF 246 (runB ["self","number","word","fields","values"] [] d_Data_init) [.int m,.str "NODE",.loc b,.loc l] (H++L)=some (.loc (H.length+L.length),H++(L++[.inst 246 [("word",.str "NODE"),("number",.int m),("mark",.int 0),("fields",.loc b),("values",.loc l)]])):=by
 rw [dat_cls,List.length_append,List.append_assoc]
theorem Into.trans {φ2:Nat->Nat} {ω2:Tags} (a:Into φ ω H cells φ' ω' H') (b:Into φ' ω' H' cells' φ2 ω2 H2) (hc:cells.length<=cells'.length):Into φ ω H cells φ2 ω2 H2:=
 ⟨fun n hn=>(b.agree n (om121 hn hc)).trans (a.agree n hn),a.ext.trans b.ext a.len,a.stab.trans b.stab,fun i o h q=>b.zero i o (a.zero i o h q) (by rw [a.ext i (getElem?_lt h)]; exact q),Nat.le_trans a.len b.len⟩
theorem next_gen (R:RW φ ω N0 H cells w s st held):
  ∃ H1 hl,runB ["world"] [] d_next_number [.loc w] H=some (.int (cells.length+1:Nat),H1)/\H1.length=H.length/\HW φ ω N0 H1 cells/\WorldAt φ ω H1 w s hl (cells.length+1) held/\StoreAt φ ω H1 s st/\Into φ ω H cells φ ω H1/\∀ (i:Nat) (o:AO),H[i]? = some o->(ω i).1≠8->H1[i]? = some o:=by
 refine ex1_1 (R.world) fun hl Wd=>?_
 refine ex1_3 (next_ok Wd) fun es h1 run Wd1=>?_
 have st:¬ Stab (.inst 348 es):=fun q=>by rcases q with q|q <;> exact absurd (show (348:Nat)=_ from q) (by decide)
 have f:∀ (i:Nat) (o:AO),H[i]? = some o->(ω i).1≠8->(H.set w (.inst 348 (putA "made" (.int (cells.length+1)) es)))[i]? = some o:=fun i o h q=>l_ne (fun e=>q (by rw [<- e,Wd.wt])) h
 have K:KeepS H (H.set w (.inst 348 (putA "made" (.int (cells.length+1)) es))):=.set h1 st
 exact ⟨_,hl,run,by simp,R.hw.frame K (fun i o h q=>f i o h (om49 q)) (by simp),Wd1,R.store.keep K (fun ZZ ZZ ZZ ZZ=>rfl) .refl fun i o h q=>f i o h (om11 q),⟨fun ZZ ZZ=>rfl,.refl,K,fun i o h q=>f i o h (om8 q),by simp⟩,f⟩
theorem held_gen (W:HW φ ω N0 H cells) (Wd:WorldAt φ ω H w s hl made held) (S:StoreAt φ ω H s st) {x n:Nat} (hx:φ n=x) (hz:held.length<=100000):
  ∃ H3,runB ["world","holder"] [] d_held [.loc w,.loc x] H=some (.loc x,H3)/\HW φ ω N0 H3 cells/\WorldAt φ ω H3 w s hl made (held++[n])/\StoreAt φ ω H3 s st/\Into φ ω H cells φ ω H3:=by
 refine ex0_2 (held_ok Wd hx hz) fun run Wd'=>?_
 have K:KeepS H (H.set hl (.list (held.map (fun n=>.loc (φ n))++[.loc x]))):=.set Wd.holders nostab
 have f:∀ (i:Nat) (o:AO),H[i]? = some o->(ω i).1≠10->(H.set hl (.list (held.map (fun n=>.loc (φ n))++[.loc x])))[i]? = some o:=fun i o h q=>l_ne (fun e=>q (by rw [<- e,Wd.ht])) h
 exact ⟨_,run,W.frame K (fun i o h q=>f i o h (om58 q)) (by simp),Wd',S.keep K (fun ZZ ZZ ZZ ZZ=>rfl) .refl fun i o h q=>f i o h (om13 q),⟨fun ZZ ZZ=>rfl,.refl,K,fun i o h q=>f i o h (om12 q),by simp⟩⟩
theorem made_fin (W:HW φ ω N0 H cells) (Wd:WorldAt φ ω H w s hl (cells.length+1) held) (S:StoreAt φ ω H s st) (V:NumC cells) (hh:∀ n∈held,n<cells.length) (hs:∀ v∈st,∀ n,numV v=some n->n<cells.length) (hz:held.length<=100000)
  {c:Cell} {k:Nat} (Ts:List (Nat×Nat×Nat)) (hT:Ts.length<=L.length)
  (hc:∀ (φ':Nat->Nat) (ω':Tags),φ' cells.length=H.length+k->(∀ n,n<cells.length->φ' n=φ n)->Ext ω ω' H->(∀ i,ω' (H.length+i)=Ts.getD i (0,0,0))->CellAt φ' ω' (H++L) cells.length c):
  ∃ φ' ω' H3,runB ["world","holder"] [] d_held [.loc w,.loc (H.length+k)] (H++L)=some (.loc (φ' cells.length),H3)/\RW φ' ω' N0 H3 (cells++[c]) w s st (held++[cells.length])/\Into φ ω H cells φ' ω' H3:=by
 refine ex2_3 (cell_new W V Ts hT hc) fun φ' ω' W' hx I=>?_
 have Wd':=Wd.keep (φ':=φ') (fun n hn=>I.agree n (hh n hn)) I.ext fun i o h ZZ=>l_old (t:=L) h
 have S':=S.keep (φ':=φ') (.ext (t:=L)) (fun v hv n hn=>I.agree n (hs v hv n hn)) I.ext fun i o h ZZ=>l_old h
 refine ex1_5 (held_gen W' Wd' S' hx hz) fun H3 run W3 Wd3 S3 I3=>?_
 exact ⟨φ',ω',H3,by rw [hx]; exact run,⟨W3,⟨hl,by rw [List.length_append]; exact Wd3⟩,S3⟩,I.trans I3 (by rw [List.length_append]; exact om30)⟩
end
section
variable {φ φ':Nat->Nat} {ω ω':Tags} {N0:Nat} {H H' H1 H2:List AO} {cells cells':List Cell} {w s hl:Nat} {st:List V} {held:List Nat} {made:Nat}
theorem made_tab (R:RW φ ω N0 H cells w s st held) (NC:NumC cells) (hh:∀ n∈held,n<cells.length) (hs:∀ v∈st,∀ n,numV v=some n->n<cells.length) (hz:held.length<=100000):
  ∃ φ' ω' H',runB ["world"] [] d_made_table [.loc w] H=some (.loc (φ' cells.length),H')/\RW φ' ω' N0 H' (cells++[.tab []]) w s st (held++[cells.length])/\Into φ ω H cells φ' ω' H':=by
 refine ex2_7 (next_gen R) fun H1 hl e1 len W1 Wd1 S1 I1 ZZ=>?_
 refine ex3_3 (made_fin W1 Wd1 S1 NC hh hs hz (c:=.tab []) (L:=[.inst 227 [("word",.str "TABLE"),("number",.int (cells.length+1:Nat)),("mark",.int 0),("entries",.loc (H1.length+1)),("places",.loc (H1.length+2)),("rows",.loc (H1.length+3))],.dnil,.dnil,.list []]) (k:=0) [(1,cells.length,0),(3,cells.length,0),(4,cells.length,0),(5,cells.length,0)] (Nat.le_of_ble_eq_true rfl)
  fun φ' ω' hx ZZ ZZ ht=>⟨_,H1.length+1,H1.length+2,H1.length+3,[],⟨by rw [hx]; exact l_tail rfl,by rw [hx]; exact ht 0,by kernel_rfl,by kernel_rfl,⟨0,by kernel_rfl⟩,Nat.le_of_ble_eq_true rfl⟩,by kernel_rfl,by kernel_rfl,by kernel_rfl,l_tail rfl,ht 1,l_tail rfl,ht 2,l_tail rfl,ht 3,trivial,.nil,fun ZZ h=>nomatch h⟩) fun φ' ω' H3 e3 R3 I3=>?_
 refine ⟨φ',ω',H3,?_,R3,I1.trans I3 (Nat.le_refl _)⟩
 clear R W1 Wd1 S1 I1 R3 I3 NC hh hs
 rw [<- List.append_nil H1] at e1
 apply v_run rfl
 unfold d_made_table
 repeat' first|delta tab_clsT|with_reducible refine r_eq e3 (by kernel_rfl) (by kernel_rfl)|(show (_:Prop); with_reducible assumption)|delta v_seq v_call v_cons v_nil v_loc v_sr v_ret|exact rfl
variable {v:V} {a:AV}
theorem made_arr (R:RW φ ω N0 H cells w s st held) (NC:NumC cells) (hh:∀ n∈held,n<cells.length) (hs:∀ v∈st,∀ n,numV v=some n->n<cells.length) (hz:held.length<=100000) (hv:VV φ H v a) (nv:∀ n,numV v=some n->n<cells.length):
  ∃ φ' ω' H',runB ["world","told","value"] [] d_made_array [.loc w,.str "2",a] H=some (.loc (φ' cells.length),H')/\RW φ' ω' N0 H' (cells++[.arr [v,v]]) w s st (held++[cells.length])/\Into φ ω H cells φ' ω' H':=by
 refine ex2_7 (next_gen R) fun H1 hl e1 len W1 Wd1 S1 I1 ZZ=>?_
 refine ex3_3 (made_fin W1 Wd1 S1 NC hh hs hz (c:=.arr [v,v]) (L:=[.list [.loc (H1.length+3)],.list [.str "2"],.list [.str "2"],.tup [.int 1,.int 2],.tup [.int (cells.length+1:Nat),.loc H1.length],
   .inst 208 [("word",.str "ARRAY"),("number",.int (cells.length+1:Nat)),("mark",.int 0),("told",.str "2"),("bounds",.loc H1.length),("items",.loc (H1.length+7))],.list [a],.list [a,a]]) (k:=5)
   [(7,0,0),(0,0,0),(0,0,0),(0,0,0),(0,0,0),(1,cells.length,0),(0,0,0),(2,cells.length,0)] (Nat.le_of_ble_eq_true rfl)
  fun φ' ω' hx ha ZZ ht=>⟨_,H1.length+7,H1.length+0,H1.length+3,[a,a],⟨by rw [hx]; exact l_tail rfl,by rw [hx]; exact ht 5,by kernel_rfl,by kernel_rfl,⟨0,by kernel_rfl⟩,Nat.le_of_ble_eq_true rfl⟩,by kernel_rfl,by kernel_rfl,l_tail rfl,ht 0,l_tail rfl,by kernel_rfl,l_tail rfl,ht 7,
   ⟨(hv.keep I1.stab fun ZZ ZZ=>rfl).keep .ext fun n hn=>ha n (nv n hn),(hv.keep I1.stab fun ZZ ZZ=>rfl).keep .ext fun n hn=>ha n (nv n hn),trivial⟩,rfl⟩) fun φ' ω' H3 e3 R3 I3=>?_
 refine ⟨φ',ω',H3,?_,R3,I1.trans I3 (Nat.le_refl _)⟩
 obtain ⟨⟨es,h1,h2,h3,h4,h5,h6,h7⟩,h8,h9,h10⟩:=Wd1
 clear R W1 S1 I1 R3 I3 NC hh hs hv nv h2 h3 h4 h7 h8 h9 h10
 rw [<- List.append_nil H1] at e1
 apply v_run rfl
 unfold d_made_array
 repeat' first|delta bounds2T arr_clsT|with_reducible refine r_eq e3 (by kernel_rfl) (by kernel_rfl)|delta v_swap size2|(show (_:Prop); with_reducible assumption)|delta v_seq v_if v_call v_cons v_nil v_attr v_loc t_tup|((with_reducible apply l_tail); exact rfl)|delta v_sr v_sn v_skip v_ret v_cmp l_old|with_reducible apply v_kF (by first|decide +kernel|(delta v_gd v_gnT v_gnF; assumption))|exact rfl|exact Nat.le_of_ble_eq_true rfl
variable {L:List AO} {xs:List AV}
theorem t_add {i j:Nat} {ys:List AV} (h1:(H++L)[i]? = some (.list xs)) (h2:(H++L)[j]? = some (.list ys)) (hz:xs.length+ys.length<=1000000):addA (.loc i) (.loc j) (H++L)=some (.loc (H.length+L.length),H++(L++[.list (xs++ys)])):=by
 unfold addA
 simp only [h1,h2,hz,if_true,List.length_append,List.append_assoc]
variable {l:Nat}
theorem t_slice {ρ:List (Str×AV)} {H0:List AO} {n:Nat} {f g:Fn AV} (hf:f ρ H0=some (.loc l,H1)) (hg:g ρ H1=some (.int n,H++L)) (h:(H++L)[l]? = some (.list xs)) (hz:xs.length<=1000000):sliceF f g ρ H0=some (.loc (H.length+L.length),H++(L++[.list (xs.take n)])):=by
 rw [v_slice hf hg h hz,List.length_append,List.append_assoc]
theorem dat_made {b:Nat} {m:Int} (hb:H[b]? = some (.list [.str "VALUE",.str "LINK"])) (hl:H[l]? = some (.list [a])):
  runB ["number","word","fields","values"] [] d_data_made [.int m,.str "NODE",.loc b,.loc l] H=some (.loc (H.length+4),H++[.list [.str ""],.list [.str "",.str ""],.list [a,.str "",.str ""],.list [a,.str ""],.inst 246 [("word",.str "NODE"),("number",.int m),("mark",.int 0),("fields",.loc b),("values",.loc (H.length+3))]]):=by
 apply t_fin
 ·apply v_run rfl
  unfold d_data_made
  repeat' first|delta dat_clsT|(show (_:Prop); with_reducible assumption)|delta v_seq v_call v_cons v_nil v_cst v_loc t_list t_mul t_add t_slice|((with_reducible apply l_tail); exact rfl)|delta v_sr v_ret v_bin v_len|((with_reducible apply t_at); exact rfl)|delta l_old|exact rfl|exact Nat.le_of_ble_eq_true rfl
 ·kernel_rfl
theorem RW.grow (R:RW φ ω N0 H cells w s st held) {F:List AO} {q:Nat} {t:Nat×Nat×Nat} (hq:H.length<=q) (hq2:q<(H++F).length):RW φ (tagAt ω q t) N0 (H++F) cells w s st held/\Into φ ω H cells φ (tagAt ω q t) (H++F):=by
 have ag:=tagAt_agree (t:=t) (R.hw.hi q hq)
 have E:Ext ω (tagAt ω q t) H:=fun i hi=>tagAt_ne (om122 hi hq)
 have W:=R.hw.ext (t:=F)
 refine ex1_1 (R.world) fun hl Wd=>?_
 have I:Into φ ω H cells φ (tagAt ω q t) (H++F):=⟨fun ZZ ZZ=>rfl,E,.ext,fun i o h ZZ=>l_old h,by rw [List.length_append]; exact om30⟩
 refine ⟨⟨⟨fun n c hc=>(W.cell n c hc).keep (fun ZZ ZZ h ZZ=>h) (fun ZZ ZZ h ZZ=>h) ag rfl fun ZZ ZZ ZZ ZZ=>rfl,fun i hi=>?_,W.len,fun i hi=>?_⟩,⟨hl,Wd.keep (fun ZZ ZZ=>rfl) E fun i o h ZZ=>l_old h⟩,R.store.keep .ext (fun ZZ ZZ ZZ ZZ=>rfl) E fun i o h ZZ=>l_old h⟩,I⟩
 ·have:=R.hw.len
  rw [tagAt_ne (om188 hi this hq)]; exact W.low i hi
 ·rw [tagAt_ne (om123 hq2 hi)]; exact W.hi i hi
theorem made_dat (R:RW φ ω N0 H cells w s st held) (NC:NumC cells) (hh:∀ n∈held,n<cells.length) (hs:∀ v∈st,∀ n,numV v=some n->n<cells.length) (hz:held.length<=100000) (hv:VV φ H v a) (nv:∀ n,numV v=some n->n<cells.length):
  ∃ φ' ω' H',runB ["world","word","fields","values"] [] d_made_data [.loc w,.str "NODE",.loc H.length,.loc (H.length+1)] (H++[.list [.str "VALUE",.str "LINK"],.list [a]])=some (.loc (φ' cells.length),H')/\RW φ' ω' N0 H' (cells++[.dat [v,.s ""]]) w s st (held++[cells.length])/\Into φ ω H cells φ' ω' H':=by
 refine ex0_2 (R.grow (F:=[.list [.str "VALUE",.str "LINK"],.list [a]]) (q:=H.length) (t:=(7,0,0)) (Nat.le_refl _) (by simp)) fun R0 I0=>?_
 refine ex2_7 (next_gen R0) fun H1 hl e1 len W1 Wd1 S1 I1 f1=>?_
 have hb:=f1 H.length _ (l_tail (k:=0) rfl) (by rw [tagAt_eq]; decide)
 have hl:=f1 (H.length+1) _ (l_tail (k:=1) rfl) (by rw [tagAt_ne (om4),R.hw.hi _ (om5)]; decide)
 refine ex3_3 (made_fin W1 Wd1 S1 NC hh hs hz (c:=.dat [v,.s ""]) (L:=[.list [.str ""],.list [.str "",.str ""],.list [a,.str "",.str ""],.list [a,.str ""],.inst 246 [("word",.str "NODE"),("number",.int (cells.length+1:Nat)),("mark",.int 0),("fields",.loc H.length),("values",.loc (H1.length+3))]]) (k:=4)
   [(0,0,0),(0,0,0),(0,0,0),(2,cells.length,0),(1,cells.length,0)] (Nat.le_of_ble_eq_true rfl)
  fun φ' ω' hx ha hE ht=>⟨_,H1.length+3,H.length,[a,.str ""],⟨by rw [hx]; exact l_tail rfl,by rw [hx]; exact ht 4,by kernel_rfl,by kernel_rfl,⟨0,by kernel_rfl⟩,Nat.le_of_ble_eq_true rfl⟩,by kernel_rfl,l_old hb,by rw [hE _ (getElem?_lt hb),tagAt_eq],by kernel_rfl,l_tail rfl,ht 3,
   ⟨((hv.keep I0.stab fun ZZ ZZ=>rfl).keep I1.stab fun ZZ ZZ=>rfl).keep .ext fun n hn=>ha n (nv n hn),rfl,trivial⟩,rfl⟩) fun φ' ω' H3 e3 R3 I3=>?_
 refine ⟨φ',ω',H3,?_,R3,I0.trans (I1.trans I3 (Nat.le_refl _)) (Nat.le_refl _)⟩
 clear R R0 I0 W1 Wd1 S1 I1 R3 I3 NC hh hs hv nv f1
 have e2:=dat_made (m:=(cells.length+1:Nat)) hb hl
 apply v_run rfl
 unfold d_made_data
 repeat' first|(show (_:Prop); with_reducible assumption)|delta v_seq v_call v_cons v_nil v_loc v_sr v_ret|exact rfl
end
section
variable {φ φ':Nat->Nat} {ω ω':Tags} {N0:Nat} {H H' H1 H2:List AO} {cells cells':List Cell} {w s hl:Nat} {st:List V} {held:List Nat} {made:Nat}
variable {i:Nat} {xs:List AV}
theorem t_lst {L:List AO} (h:(H++L)[i]? = some (.list xs)) (hz:xs.length<=1000000):listC [.loc i] (H++L)=some (.loc (H.length+L.length),H++(L++[.list xs])):=by
 rw [v_lst h hz,List.length_append,List.append_assoc]
variable {o b l:Nat} {m:Int} {eo:List (Str×AV)}
theorem copy_arr {t:Nat} (ho:H[o]? = some (.inst 208 eo)) (k1:eo.lookup (Str.ofString "told")=some (.str "2")) (k2:eo.lookup (Str.ofString "bounds")=some (.loc b)) (k3:eo.lookup (Str.ofString "items")=some (.loc l))
  (k4:H[b]? = some (.list [.loc t])) (k5:H[t]? = some (.tup [.int 1,.int 2])) (k6:H[l]? = some (.list xs)) (hz:xs.length<=1000000):
  runB ["value","number"] [] d_copy_of [.loc o,.int m] H=some (.loc H.length,H++[.inst 208 [("word",.str "ARRAY"),("number",.int m),("mark",.int 0),("told",.str "2"),("bounds",.loc b),("items",.loc (H.length+3))],.list [.str ""],.list [.str "",.str ""],.list xs]):=by
 apply t_fin
 ·apply v_run rfl
  unfold d_copy_of
  repeat' first|delta arr_clsT|(show (_:Prop); with_reducible assumption)|delta v_seq v_if v_val v_call v_cons v_nil v_cst v_attr v_loc t_set t_lst v_isi v_asg v_tyI v_sr v_sn v_ret|((with_reducible apply t_at); exact rfl)|delta l_old|with_reducible apply v_kT (by first|decide +kernel|(delta v_gd v_gnT v_gnF; assumption))|exact rfl|exact Nat.le_of_ble_eq_true rfl
 ·kernel_rfl
theorem copy_dat (ho:H[o]? = some (.inst 246 eo)) (k1:eo.lookup (Str.ofString "word")=some (.str "NODE")) (k2:eo.lookup (Str.ofString "fields")=some (.loc b)) (k3:eo.lookup (Str.ofString "values")=some (.loc l)) (k6:H[l]? = some (.list xs)) (hz:xs.length<=1000000):
  runB ["value","number"] [] d_copy_of [.loc o,.int m] H=some (.loc (H.length+1),H++[.list xs,.inst 246 [("word",.str "NODE"),("number",.int m),("mark",.int 0),("fields",.loc b),("values",.loc H.length)]]):=by
 apply t_fin
 ·apply v_run rfl
  unfold d_copy_of
  repeat' first|delta dat_clsT|(show (_:Prop); with_reducible assumption)|delta v_seq v_if v_val v_call v_cons v_nil v_cst v_attr v_loc t_lst v_isi v_tyI v_sr v_sn v_skip v_ret l_old|with_reducible apply v_kT (by first|decide +kernel|(delta v_gd v_gnT v_gnF; assumption))|with_reducible apply v_kF (by first|decide +kernel|(delta v_gd v_gnT v_gnF; assumption))|exact rfl
 ·kernel_rfl
variable {kv:V×V} {r:RowR}
theorem tabE_get:∀ {rows:List (V×V)} {R:List RowR} {i:Nat},rows[i]? = some kv->R[i]? = some r->(tabE rows R)[i]? = some (markL kv.1,r.1,.loc r.2.2)
 |_::_,_::_,0,h,h'=>by obtain rfl:=so h; obtain rfl:=so h'; rfl
 |_::_,_::_,i+1,h,h'=>tabE_get (i:=i) h h'
theorem tabE_leneq:∀ {rows:List (V×V)} {R:List RowR},R.length=rows.length->(tabE rows R).length=rows.length
 |[],[],_=>rfl
 |_::_,_::_,h=>congrArg (· + 1) (tabE_leneq (Nat.succ.inj h))
variable {ρ:List (Str×AV)} {es:List (List KE×Nat×AV)}
theorem i_keys {f:Fn AV} (h:f ρ H=some (.loc l,H1)) (hl:H1[l]? = some (dOf es)):iKeys f ρ H=some (nxKeys l es.length,H1):=by
 unfold iKeys
 rw [h,bnd_mk]
 cases es <;> simp only [hl,dOf] <;> rfl
theorem n_keys {e:List KE×Nat×AV} (hl:H[l]? = some (dOf es)) (hx:es[i]? = some e):nxKeys l es.length i H=some (some (.loc e.2.1,H)):=by
 unfold nxKeys
 cases es with
 |nil=>exact ns hx
 |cons a r=>simp only [hl,dOf,if_true,hx]
theorem n_keysE (hl:H[l]? = some (dOf es)):nxKeys l es.length es.length H=some none:=by
 unfold nxKeys
 cases es with
 |nil=>simp only [hl,dOf]; rfl
 |cons a r=>
  have:(a::r)[(a::r).length]? = none:=by simp
  simp only [hl,dOf,this,if_true]
theorem RowsAt.marks {n:Nat} {m:Nat} {rows:List (V×V)} {R:List RowR} (h:RowsAt φ ω H n m rows R) (e:rows[i]? = some kv) (e':R[i]? = some r):MarkAt H r.1 (markL kv.1):=by
 refine RowsAt.ind (P:=fun m rows R=>∀ i,rows[i]? = some kv->R[i]? = some r->MarkAt H r.1 (markL kv.1)) (fun ZZ i e=>by exact ns e) (fun m p rows q R ZZ ZZ h5 ZZ ZZ ih i e e'=>?_) h i e e'
 cases i with
 |zero=>obtain rfl:=so e; obtain rfl:=so e'; exact h5
 |succ i=>exact ih i e e'
theorem copy_row {f e jm q:Nat} {E:List (List KE×Nat×AV)} {ks:List KE} (hv:ρ.lookup (Str.ofString "value")=some (.loc o)) (hf:ρ.lookup (Str.ofString "found")=some (.loc f)) (ho:H[o]? = some (.inst 227 eo)) (k1:eo.lookup (Str.ofString "entries")=some (.loc e))
  (k2:H[e]? = some (dOf E)) (hk:tupKey jm H=some ks) (hl:lookT ks E=some (.loc q)) (hq:H[q]? = some (.list xs)) (hz:xs.length<=1000000) (run:runB ["table","mark","pair"] [] d_put_entry [.loc f,.loc jm,.loc H.length] (H++[.list xs])=some (.none,H')):
  sSeq (sExpr (callF (runB ["table","mark","pair"] [] d_put_entry) (esCons (rdL "found") (esCons (rdL "mark") (esCons (callF listC (esCons (subF (aF "entries" (rdL "value")) (rdL "mark")) esNil)) esNil))))) sSkip ⟨(Str.ofString "mark",.loc jm)::ρ,H⟩=some (.next,⟨(Str.ofString "mark",.loc jm)::ρ,H'⟩):=by
 have hv':((Str.ofString "mark",AV.loc jm)::ρ).lookup (Str.ofString "value")=some (.loc o):=by rw [List.lookup_cons,ofS]; exact hv
 have hf':((Str.ofString "mark",AV.loc jm)::ρ).lookup (Str.ofString "found")=some (.loc f):=by rw [List.lookup_cons,ofS]; exact hf
 have hm':((Str.ofString "mark",AV.loc jm)::ρ).lookup (Str.ofString "mark")=some (.loc jm):=List.lookup_cons_self
 clear hv hf
 repeat' first|delta d_item v_lst|(show (_:Prop); with_reducible assumption)|delta v_seq v_call v_cons v_nil v_attr v_loc v_sn v_skip v_sub v_expr|exact rfl
end
section
variable {φ φ':Nat->Nat} {ω ω':Tags} {N0:Nat} {H H' H1 H2:List AO} {cells cells':List Cell} {w s hl:Nat} {st:List V} {held:List Nat} {made:Nat}
theorem f_eq {F:FnS} {σ σ':Mine.St} {r:AF'×Mine.St} (e:F σ=some r) (h:σ'=σ):F σ'=some r:=by subst h; exact e
theorem set_last {c d:Cell}:(cells++[c]).set cells.length d=cells++[d]:=by
 rw [List.set_append_right _ _ (Nat.le_refl _),Nat.sub_self]; rfl
variable {rows:List (V×V)} {i:Nat} {kv:V×V}
theorem keys_before (nd:(rows.map (·.1)).Nodup) (h:rows[i]? = some kv):∀ q∈rows.take i,q.1≠kv.1:=fun q hq e=>by
 obtain ⟨j,hj,rfl⟩:=List.getElem_of_mem hq
 rw [List.length_take] at hj
 have hi:=getElem?_lt h
 rw [List.getElem_take] at e
 have e2:(rows.map (·.1))[j]? = (rows.map (·.1))[i]?:=by
  rw [List.getElem?_map,List.getElem?_map,h,List.getElem?_eq_getElem (om159 hj hi)]
  simp only [Option.map_some]; exact congrArg some e
 have:=(List.getElem?_inj (by rw [List.length_map]; exact om159 hj hi) nd).mp e2
 exact om186 hj this hi
theorem parts_row (h:rows[i]? = some kv):kv.1∈partsC (.tab rows)/\kv.2∈partsC (.tab rows):=
 ⟨mem_rows.mpr ⟨kv,List.mem_of_getElem? h,.inl rfl⟩,mem_rows.mpr ⟨kv,List.mem_of_getElem? h,.inr rfl⟩⟩
theorem copy_tab (W:HW φ ω N0 H cells) (Wd:WorldAt φ ω H w s hl made held) (S:StoreAt φ ω H s st) (NC:NumC cells) (hh:∀ n∈held,n<cells.length) (hs:∀ v∈st,∀ n,numV v=some n->n<cells.length) {n:Nat} (hc:cells[n]? = some (.tab rows)) (hz:rows.length<=10000):
  ∃ φ' ω' H',runB ["value","number"] [] d_copy_of [.loc (φ n),.int (cells.length+1:Nat)] H=some (.loc (φ' cells.length),H')/\HW φ' ω' N0 H' (cells++[.tab rows])/\WorldAt φ' ω' H' w s hl made held/\StoreAt φ' ω' H' s st/\Into φ ω H cells φ' ω' H':=by
 refine ex2_3 (cell_new W NC (c:=.tab []) (L:=[.inst 227 [("word",.str "TABLE"),("number",.int (cells.length+1:Nat)),("mark",.int 0),("entries",.loc (H.length+1)),("places",.loc (H.length+2)),("rows",.loc (H.length+3))],.dnil,.dnil,.list []]) (k:=0) [(1,cells.length,0),(3,cells.length,0),(4,cells.length,0),(5,cells.length,0)] (Nat.le_of_ble_eq_true rfl)
  fun φ' ω' hx ZZ ZZ ht=>⟨_,H.length+1,H.length+2,H.length+3,[],⟨by rw [hx]; exact l_tail rfl,by rw [hx]; exact ht 0,by kernel_rfl,by kernel_rfl,⟨0,by kernel_rfl⟩,Nat.le_of_ble_eq_true rfl⟩,by kernel_rfl,by kernel_rfl,by kernel_rfl,l_tail rfl,ht 1,l_tail rfl,ht 2,l_tail rfl,ht 3,trivial,.nil,fun ZZ h=>nomatch h⟩) fun φ' ω0 W0 hx I0=>?_
 have hlt:=getElem?_lt hc
 rw [Nat.add_zero] at hx
 have e0:=(tab_cls (H:=H) (m:=(cells.length+1:Nat))).trans (congrArg (fun x=>some (AV.loc x,_)) hx.symm)
 obtain ⟨eo,e,p,w',R,I,k1,k2,k3,k4,k5,k6,k7,k8,k9,k10,k11,k12⟩:=W.cell n _ hc
 have len:=k10.len
 have el:=tabE_leneq len
 have I1:=I.at'
 have It:=I.tag
 obtain ⟨⟨ρ',H'⟩,run,ω',W',Wd',S',I',_,_,hf⟩:=v_for (σ:=⟨[("found",.loc (φ' cells.length)),("number",.int (cells.length+1:Nat)),("value",.loc (φ n))],H++[.inst 227 [("word",.str "TABLE"),("number",.int (cells.length+1:Nat)),("mark",.int 0),("entries",.loc (H.length+1)),("places",.loc (H.length+2)),("rows",.loc (H.length+3))],.dnil,.dnil,.list []]⟩)
  (fa:=aName "mark") (fb:=sSeq (sExpr (callF (runB ["table","mark","pair"] [] d_put_entry) (esCons (rdL "found") (esCons (rdL "mark") (esCons (callF listC (esCons (subF (aF "entries" (rdL "value")) (rdL "mark")) esNil)) esNil))))) sSkip)
  (i_keys (v_attr (v_loc (by kernel_rfl)) (l_old I1) tg_227_entries k1 rfl) (l_old k4)) rows.length (om191 len hz el)
  (fun i σ=>∃ ω',HW φ' ω' N0 σ.H (cells++[.tab (rows.take i)])/\WorldAt φ' ω' σ.H w s hl made held/\StoreAt φ' ω' σ.H s st/\Into φ ω H cells φ' ω' σ.H/\(∀ (j:Nat) (o:AO),H[j]? = some o->(ω j).2.1=n->σ.H[j]? = some o)/\σ.ρ.lookup (Str.ofString "value")=some (.loc (φ n))/\σ.ρ.lookup (Str.ofString "found")=some (.loc (φ' cells.length)))
  ⟨ω0,W0,Wd.keep (fun m hm=>I0.agree m (hh m hm)) I0.ext fun i o h ZZ=>l_old h,S.keep .ext (fun v hv m hm=>I0.agree m (hs v hv m hm)) I0.ext fun i o h ZZ=>l_old h,I0,fun j o h ZZ=>l_old h,by kernel_rfl,by kernel_rfl⟩
  (fun σ zz=>by obtain ⟨ω',_,_,_,_,kp,_⟩:=zz; rw [<- el]; exact n_keysE (kp e _ k4 (by rw [k5])))
  (fun i σ hi zz=>by
   obtain ⟨ω1,Wi,Wdi,Si,Ii,kp,hv,hf⟩:=zz
   have hkv:=List.getElem?_eq_getElem hi
   refine ex1_3 (k10.get hkv) fun r hr zz2 ht=>?_; obtain ⟨a,b,hp,hva,hvb⟩:=zz2
   have hm:=k10.marks hkv hr
   have hb:=parts_row hkv
   have hql:H.length<=σ.H.length:=Ii.len
   have K1:KeepS H (σ.H++[.list [a,b]]):=Ii.stab.trans .ext
   refine ex1_4 (put_row (W:=Wi.ext (t:=[.list [a,b]])) (q:=σ.H.length) List.getElem?_concat_length l_new (Wi.hi _ (Nat.le_refl _)) (Nat.le_trans W.len hql) (hm.keep K1) (hva.keep K1 fun m hm=>Ii.agree m (NC n _ hc _ hb.1 m hm)) (hvb.keep K1 fun m hm=>Ii.agree m (NC n _ hc _ hb.2 m hm)) (keys_before k11 hkv) (k12 _ (List.getElem_mem hi)) (by rw [List.length_take]; exact om253 hi hz len el)) fun H2 run W2 C2 f2=>?_
   have E2:Ext ω1 (tagAt ω1 σ.H.length (6,cells.length,(rows.take i).length)) σ.H:=fun j hj=>tagAt_ne (om37 hj)
   have C3:Chg ω1 σ.H H2:=.trans .refl .ext C2
   have hiE:i<(tabE rows R).length:=om189 hi el len
   refine ⟨.loc r.1,σ.H,_,.next,_,n_keys (kp e _ k4 (by rw [k5])) (tabE_get hkv hr),v_nm,copy_row hv hf (kp _ _ I1 (by rw [It])) k1 (kp e _ k4 (by rw [k5])) (hm.keep Ii.stab).tk (lookE_some (marks_nodup k11 k12) hkv hr) (kp _ _ hp (by rw [ht])) (Nat.le_of_ble_eq_true rfl) run,.inl rfl,?_⟩
   refine ⟨_,?_,Wdi.keep (fun ZZ ZZ=>rfl) E2 fun j o h q=>C3.rest j o h (.inr (om59 q)),Si.keep C3.stab (fun ZZ ZZ ZZ ZZ=>rfl) E2 fun j o h q=>C3.rest j o h (.inr (om9 q)),Ii.trans (cells':=cells) (C3.into E2) (Nat.le_refl _),fun j o h q=>f2 j o (l_old (kp j o h q)) ?_,?_,?_⟩
   ·rw [set_last] at W2
    rw [List.take_succ,hkv]; exact W2
   ·rw [Ii.ext j (getElem?_lt h),q]; exact om124 hlt q
   ·rw [List.lookup_cons,ofS]; exact hv
   ·rw [List.lookup_cons,ofS]; exact hf)
 rw [List.take_length] at W'
 refine ⟨φ',ω',H',?_,W',Wd',S',I'⟩
 apply v_run rfl
 unfold d_copy_of
 repeat' first|with_reducible refine f_eq run (by kernel_rfl)|(show (_:Prop); with_reducible assumption)|delta v_seq v_if v_val v_call v_cons v_nil v_cst v_loc v_isi v_asg v_tyI v_sr v_sn v_skip v_ret|with_reducible apply v_kT (by first|decide +kernel|(delta v_gd v_gnT v_gnF; assumption))|with_reducible apply v_kF (by first|decide +kernel|(delta v_gd v_gnT v_gnF; assumption))|exact rfl
end
section
variable {φ φ':Nat->Nat} {ω ω':Tags} {N0:Nat} {H H' H1 H2:List AO} {cells cells':List Cell} {w s hl:Nat} {st:List V} {held:List Nat} {made:Nat}
noncomputable def newN (cells cells':List Cell):List Nat:=(List.range (cells'.length - cells.length)).map (cells.length + ·)
theorem newN_0 (h:cells'.length=cells.length):newN cells cells' = []:=by unfold newN; rw [h,Nat.sub_self]; rfl
variable {c:Cell}
theorem newN_1:newN cells (cells++[c]) = [cells.length]:=by
 unfold newN; rw [List.length_append,Nat.add_sub_cancel_left]; rfl
theorem Into.refl:Into φ ω H cells φ ω H:=⟨fun ZZ ZZ=>rfl,.refl,fun ZZ ZZ h ZZ=>h,fun ZZ ZZ h ZZ=>h,Nat.le_refl _⟩
def DoneTo (φ:Nat->Nat) (ω:Tags) (N0:Nat) (H:List AO) (cells:List Cell) (w s:Nat) (st:List V) (held:List Nat) (o:Option (AV×List AO)) (r:V×List Cell):Prop:=
 ∃ φ' ω' H' a,o=some (a,H')/\RW φ' ω' N0 H' r.2 w s st (held++newN cells r.2)/\VV φ' H' r.1 a/\Into φ ω H cells φ' ω' H'
variable {o:Option (AV×List AO)} {v:V} {a:AV}
theorem DoneTo.same (R:RW φ ω N0 H cells w s st held) {t:List AO} (ho:o=some (a,H++t)) (hv:VV φ H v a):DoneTo φ ω N0 H cells w s st held o (v,cells):=
 ⟨φ,ω,_,a,ho,by rw [newN_0 rfl,List.append_nil]; exact R.chg R.hw.ext .ext .refl rfl,hv.keep .ext fun ZZ ZZ=>rfl,Chg.ext.into .refl⟩
theorem DoneTo.same0 (R:RW φ ω N0 H cells w s st held) (ho:o=some (a,H)) (hv:VV φ H v a):DoneTo φ ω N0 H cells w s st held o (v,cells):=
 .same R (t:=[]) (by rw [List.append_nil]; exact ho) hv
theorem DoneTo.new1 (h:∃ φ' ω' H',o=some (.loc (φ' cells.length),H')/\RW φ' ω' N0 H' (cells++[c]) w s st (held++[cells.length])/\Into φ ω H cells φ' ω' H'):DoneTo φ ω N0 H cells w s st held o (.h cells.length,cells++[c]):=by
 refine ex3_3 h fun φ' ω' H' e R I=>?_; try clear h
 exact ⟨φ',ω',H',_,e,by rw [newN_1]; exact R,rfl,I⟩
variable {o:Nat} {C:Addr} {es:List (Str×AV)}
theorem mc_hold {x:AV} {y:AV} {m:Int} (h:H[o]? = some (.inst C es)) (hC:isT (.ref C) (.ref 138)=some true) (e1:runB ["world"] [] d_next_number [.loc w] H=some (.int m,H1)) (e2:runB ["value","number"] [] d_copy_of [.loc o,.int m] H1=some (x,H2))
  (e3:runB ["world","holder"] [] d_held [.loc w,x] H2=some (y,H')):runB ["world","value"] [] d_made_copy [.loc w,.loc o] H=some (y,H'):=by
 apply v_run rfl
 unfold d_made_copy
 repeat' first|(show (_:Prop); with_reducible assumption)|delta v_seq v_if v_val v_call v_cons v_nil v_cst v_loc v_isi v_tyI v_sr v_sn v_skip v_ret v_not|with_reducible apply v_kF (by first|decide +kernel|(delta v_gd v_gnT v_gnF; assumption))|exact rfl|(with_reducible apply v_is; assumption)
theorem mc_s {x:Str}:runB ["world","value"] [] d_made_copy [.loc w,.str x] H=some (.str x,H):=by
 apply v_run rfl
 unfold d_made_copy
 repeat' first|delta v_seq v_if v_val v_call v_cons v_nil v_cst v_loc v_isi v_sr v_ret v_not|with_reducible apply v_kT (by first|decide +kernel|(delta v_gd v_gnT v_gnF; assumption))|exact rfl
theorem mc_i (h:H[o]? = some (.inst C es)) (hC:isT (.ref C) (.ref 138)=some false):runB ["world","value"] [] d_made_copy [.loc w,.loc o] H=some (.loc o,H):=by
 apply v_run rfl
 unfold d_made_copy
 repeat' first|(show (_:Prop); with_reducible assumption)|delta v_seq v_if v_val v_call v_cons v_nil v_cst v_loc v_isi v_tyI v_sr v_ret v_not|with_reducible apply v_kT (by first|decide +kernel|(delta v_gd v_gnT v_gnF; assumption))|exact rfl|(with_reducible apply v_is; assumption)
theorem made_copy (R:RW φ ω N0 H cells w s st held) (NC:NumC cells) (hh:∀ n∈held,n<cells.length) (hs:∀ v∈st,∀ n,numV v=some n->n<cells.length) (hz:held.length<=100000) (hv:VV φ H v a) (nv:∀ n,numV v=some n->n<cells.length) (hz2:∀ (n:Nat) (rows:List (V×V)),cells[n]? = some (.tab rows)->rows.length<=10000):
  DoneTo φ ω N0 H cells w s st held (runB ["world","value"] [] d_made_copy [.loc w,a] H) (copyW cells v):=by
 cases v with
 |s x=>cases hv; exact .same0 R mc_s rfl
 |r b n i=>
  obtain ⟨j,rfl,es,h1,h2⟩:=hv
  exact .same0 R (mc_i h1 ti_117_138) ⟨j,rfl,es,h1,h2⟩
 |p b n i=>
  obtain ⟨j,es,t,u,q,rfl,h1,h2⟩:=hv
  exact .same0 R (mc_i h1 ti_54_138) ⟨j,es,t,u,q,rfl,h1,h2⟩
 |h n=>
  cases hv
  have hlt:=nv n rfl
  have hc:=List.getElem?_eq_getElem hlt
  refine ex2_3 (holder_at (R.hw.cell n _ hc)) fun C ec Ic t1 ZZ=>?_
  refine ex2_7 (next_gen R) fun H1 hl e1 len W1 Wd1 S1 I1 ZZ=>?_
  have C1:=W1.cell n _ hc
  unfold copyW
  cases hcc:cells[n] with
  |arr vs=>
   rw [hcc] at hc C1
   simp only [hc]
   obtain ⟨eo,l,b,t,xs,I,k2,k3,k4,k5,k6,k7,k8,k9,k10,k11⟩:=C1
   have hx:=k10.len
   refine ex3_3 (made_fin W1 Wd1 S1 NC hh hs hz (c:=.arr vs) (L:=[.inst 208 [("word",.str "ARRAY"),("number",.int (cells.length+1:Nat)),("mark",.int 0),("told",.str "2"),("bounds",.loc b),("items",.loc (H1.length+3))],.list [.str ""],.list [.str "",.str ""],.list xs]) (k:=0)
    [(1,cells.length,0),(0,0,0),(0,0,0),(2,cells.length,0)] (Nat.le_of_ble_eq_true rfl)
    fun φ' ω' hx ha hE ht=>⟨_,H1.length+3,b,t,xs,⟨by rw [hx]; exact l_tail rfl,by rw [hx]; exact ht 0,by kernel_rfl,by kernel_rfl,⟨0,by kernel_rfl⟩,Nat.le_of_ble_eq_true rfl⟩,by kernel_rfl,by kernel_rfl,l_old k4,by rw [hE _ (getElem?_lt k4)]; exact k5,l_old k6,by kernel_rfl,l_tail rfl,ht 3,
     k10.keep .ext fun v hv m hm=>ha m (NC n _ hc v hv m hm),k11⟩) fun φ' ω' H3 e3 R3 I3=>?_
   exact .new1 ⟨φ',ω',H3,mc_hold Ic.at' t1 e1 (copy_arr I.at' k2 k3 k7 k4 k6 k8 (om107 k11 hx)) e3,R3,I1.trans I3 (Nat.le_refl _)⟩
  |dat vs=>
   rw [hcc] at hc C1
   simp only [hc]
   obtain ⟨eo,l,b,xs,I,k3,k4,k5,k7,k8,k9,k10,k11⟩:=C1
   have hx:=k10.len
   refine ex3_3 (made_fin W1 Wd1 S1 NC hh hs hz (c:=.dat vs) (L:=[.list xs,.inst 246 [("word",.str "NODE"),("number",.int (cells.length+1:Nat)),("mark",.int 0),("fields",.loc b),("values",.loc H1.length)]]) (k:=1)
    [(2,cells.length,0),(1,cells.length,0)] (Nat.le_of_ble_eq_true rfl)
    fun φ' ω' hx ha hE ht=>⟨_,H1.length,b,xs,⟨by rw [hx]; exact l_tail rfl,by rw [hx]; exact ht 1,by kernel_rfl,by kernel_rfl,⟨0,by kernel_rfl⟩,Nat.le_of_ble_eq_true rfl⟩,by kernel_rfl,l_old k4,by rw [hE _ (getElem?_lt k4)]; exact k5,by kernel_rfl,l_tail (k:=0) rfl,ht 0,
     k10.keep .ext fun v hv m hm=>ha m (NC n _ hc v hv m hm),k11⟩) fun φ' ω' H3 e3 R3 I3=>?_
   exact .new1 ⟨φ',ω',H3,mc_hold Ic.at' t1 e1 (copy_dat I.at' I.word k3 k7 k8 (om107 k11 hx)) e3,R3,I1.trans I3 (Nat.le_refl _)⟩
  |tab rows=>
   rw [hcc] at hc C1
   simp only [hc]
   refine ex3_5 (copy_tab W1 Wd1 S1 NC hh hs hc (hz2 n rows hc)) fun φ' ω' H2 e2 W2 Wd2 S2 I2=>?_
   refine ex1_5 (held_gen W2 Wd2 S2 (n:=cells.length) rfl hz) fun H3 e3 W3 Wd3 S3 I3=>?_
   exact .new1 ⟨φ',ω',H3,mc_hold Ic.at' t1 e1 e2 e3,⟨W3,⟨hl,by rw [List.length_append]; exact Wd3⟩,S3⟩,I1.trans (I2.trans I3 (by rw [List.length_append]; exact om30)) (Nat.le_refl _)⟩
end
section
variable {φ φ':Nat->Nat} {ω ω':Tags} {N0:Nat} {H H' H1 H2:List AO} {cells cells':List Cell} {w s hl:Nat} {st:List V} {held:List Nat}
def okV (cells:List Cell):V->Prop
 |.s x=>PyData.strOk x=true
 |.h n=>n<cells.length
 |.r _ n i=>∃ c v0,cells[n]? = some c/\getC c i=some v0
 |.p _ n i=>∃ c v0,cells[n]? = some c/\getC c i=some v0
theorem okV_e:okV cells (.s ""):=by show PyData.strOk (Str.ofString "")=true; kernel_rfl
theorem okV_k:okV cells (.s "k"):=by show PyData.strOk (Str.ofString "k")=true; kernel_rfl
variable {v:V}
theorem okV.num (h:okV cells v):∀ n,numV v=some n->n<cells.length:=fun n e=>by
 cases v with
 |s x=>exact ns e
 |h m=>obtain rfl:=so e; exact h
 |r b m i=>obtain rfl:=so e; obtain ⟨c,_,h,_⟩:=h; exact getElem?_lt h
 |p b m i=>obtain rfl:=so e; obtain ⟨c,_,h,_⟩:=h; exact getElem?_lt h
def SmallC (B:Nat):Cell->Prop
 |.arr vs=>vs.length=2
 |.dat vs=>vs.length=2
 |.tab rows=>rows.length<=B
def Small (cells:List Cell) (B:Nat):Prop:=∀ (n:Nat) (c:Cell),cells[n]? = some c->SmallC B c
variable {i:Nat}
theorem two_some {vs:List V} (h:vs.length=2) (hi:i<2):∃ v,vs[i]? = some v:=⟨_,List.getElem?_eq_getElem (om72 hi h)⟩
variable {B a n:Nat} {key:V} {b:Bool}
theorem spot_slot (S:Small cells B) (hv:okV cells v) (ha:a<2) {cells1:List Cell} (h:spotW cells v key a=(some (b,n,i),cells1)):Small cells1 (B+1)/\∃ c v0,cells1[n]? = some c/\getC c i=some v0:=by
 have up:Small cells (B+1):=fun m c hc=>by
  have:=S m c hc
  cases c with
  |tab rows=>exact Nat.le_succ_of_le this
  |_=>exact this
 unfold spotW at h
 cases v with
 |s x=>cases h
 |p b' n' i'=>cases h
 |r b' n' i'=>cases h; exact ⟨up,hv⟩
 |h m=>
  have hm:m<cells.length:=hv
  have hc:=List.getElem?_eq_getElem hm
  cases hcc:cells[m] with
  |arr vs=>
   rw [hcc] at hc
   simp only [hc] at h
   cases h
   refine ex1_1 (two_some (S _ _ hc) ha) fun v e=>?_
   exact ⟨up,_,v,hc,e⟩
  |dat vs=>
   rw [hcc] at hc
   simp only [hc] at h
   cases h
   refine ex1_1 (two_some (i:=1 - a) (S _ _ hc) (om28 ha)) fun v e=>?_
   exact ⟨up,_,v,hc,e⟩
  |tab rows=>
   rw [hcc] at hc
   simp only [hc] at h
   cases hr:rowIx rows (keyW key) with
   |some k=>
    rw [hr] at h
    cases h
    refine ex1_1 (rowIx_some hr) fun u e=>?_
    exact ⟨up,_,u,hc,by show (rows[i]?).map (·.2)=_; rw [e]; rfl⟩
   |none=>
    rw [hr] at h
    cases h
    refine ⟨fun m' c hc'=>?_,_,.s "",List.getElem?_set_self hm,by show ((rows++[(keyW key,V.s "")])[rows.length]?).map (·.2)=_; rw [List.getElem?_concat_length]; rfl⟩
    by_cases e:n=m'
    ·subst e
     rw [List.getElem?_set_self hm] at hc'
     obtain rfl:=so hc'
     have:rows.length<=B:=S _ _ hc
     show (rows++[(keyW key,V.s "")]).length<=B+1
     rw [List.length_append,List.length_singleton]; exact om89 this
    ·rw [List.getElem?_set_ne e] at hc'; exact up m' c hc'
variable {j:Nat} {c:Cell} {a:AV}
theorem slot_set_any (W:HW φ ω N0 H cells) {v0:V} (r:RefAt φ H j b n i) (hc:cells[n]? = some c) (hg:getC c i=some v0) (hv:VV φ H v a) (S:Small cells B) (hB:B<=100000):
  ∃ H',runB ["ref","value"] [] d_slot_set [.loc j,a] H=some (.none,H')/\HW φ ω N0 H' (setW cells n i v)/\Chg ω H H':=by
 cases c with
 |arr vs=>exact slot_set_ok W r hc hg hv fun ZZ h=>by cases h
 |dat vs=>exact slot_set_ok W r hc hg hv fun ZZ h=>by cases h
 |tab rows=>exact slot_set_tab W r hc hg hv (Nat.le_trans (S n _ hc) hB)
theorem slot_get_any (W:HW φ ω N0 H cells) (r:RefAt φ H j b n i) (hc:cells[n]? = some c) (hg:getC c i=some v) (S:Small cells B) (hB:B<=20000):∃ a,runB ["ref"] [] d_slot_get [.loc j] H=some (a,H)/\VV φ H (getW cells n i) a:=by
 have e:getW cells n i=v:=by unfold getW; rw [hc,Option.bind_some,hg]; rfl
 rw [e]
 refine slot_get_ok W r hc hg ?_
 have:=S n _ hc
 cases c with
 |arr vs=>show vs.length<=_; have:vs.length=2:=this; exact om27 this
 |dat vs=>show vs.length<=_; have:vs.length=2:=this; exact om27 this
 |tab rows=>show (rowsOf rows).length<=_; have:rows.length<=B:=this; rw [rowsOf_len]; exact om152 hB this
theorem setW_len:(setW cells n i v).length=cells.length:=by unfold setW; split <;> simp
theorem spot_len {a:Nat}:(spotW cells v key a).2.length=cells.length:=by
 unfold spotW
 split
 ·split
  ·rfl
  ·rfl
  ·split <;> simp
  ·rfl
 ·rfl
 ·rfl
theorem DoneTo.chg (R:RW φ ω N0 H cells w s st held) {o:Option (AV×List AO)} (ho:o=some (a,H')) (W:HW φ ω' N0 H' cells') (C:Chg ω H H') (E:Ext ω ω' H) (hL:cells'.length=cells.length) (hv:VV φ H' v a):DoneTo φ ω N0 H cells w s st held o (v,cells'):=
 ⟨φ,ω',H',a,ho,by rw [newN_0 hL,List.append_nil]; exact R.chg W C E hL,hv,C.into E⟩
end
section
variable {H H' H1 H2:List AO} {w s:Nat} {es:List (Str×AV)} {ds:List (Str×AV)} {x:Str} {a b:AV} {r:AV×List AO}
theorem v_itD {l:Nat} (h:H[l]? = some (.dstr ds)) (hx:ds.lookup x=some a):itemA (.loc l) (.str x) H=some a:=by unfold itemA; simp only [h]; exact hx
theorem dn0 (h1:H[w]? = some (.inst 348 es)) (h2:es.lookup (Str.ofString "store")=some (.loc s)) (h3:H[s]? = some (.dstr ds)) (h4:ds.lookup x=some b):runB ["world","kind","goal","value"] [] d_law_done [.loc w,.int ((0:Nat):Int),.str x,a] H=some (a,H):=by
 apply v_run rfl
 unfold d_law_done
 repeat' first|delta v_itD|(show (_:Prop); with_reducible assumption)|delta v_seq v_if v_cst v_attr v_loc v_asg v_sr v_sn v_ret v_sub v_ife v_cmp|with_reducible apply v_kT (by first|decide +kernel|(delta v_gd v_gnT v_gnF; assumption))|with_reducible apply v_eT (by first|decide +kernel|(delta v_gd v_gnT v_gnF; assumption))|exact rfl
theorem dn1 (h1:H[w]? = some (.inst 348 es)) (h2:es.lookup (Str.ofString "store")=some (.loc s)) (h3:H[s]? = some (.dstr ds)) (h4:ds.lookup x=some b):runB ["world","kind","goal","value"] [] d_law_done [.loc w,.int ((1:Nat):Int),.str x,a] H=some (.str "",H):=by
 apply v_run rfl
 unfold d_law_done
 repeat' first|delta v_itD|(show (_:Prop); with_reducible assumption)|delta v_seq v_if v_cst v_attr v_loc v_asg v_sr v_sn v_ret v_sub v_ife v_cmp|with_reducible apply v_kT (by first|decide +kernel|(delta v_gd v_gnT v_gnF; assumption))|with_reducible apply v_eF (by first|decide +kernel|(delta v_gd v_gnT v_gnF; assumption))|exact rfl
variable {v:AV}
theorem dn2 (h1:H[w]? = some (.inst 348 es)) (h2:es.lookup (Str.ofString "store")=some (.loc s)) (h3:H[s]? = some (.dstr ds)) (h4:ds.lookup x=some b) (e:runB ["world","word","fields","values"] [] d_made_data [.loc w,.str "NODE",.loc H.length,.loc (H.length+1)] (H++[.list [.str "VALUE",.str "LINK"],.list [a]])=some (v,H')):runB ["world","kind","goal","value"] [] d_law_done [.loc w,.int ((2:Nat):Int),.str x,a] H=some (v,H'):=by
 apply t_start
 apply v_run rfl
 unfold d_law_done
 repeat' first|delta v_itD|with_reducible refine r_eq e (by kernel_rfl) (by kernel_rfl)|(show (_:Prop); with_reducible assumption)|delta v_seq v_if v_call v_cons v_nil v_cst v_attr v_loc t_list v_asg v_sr v_sn v_skip v_ret v_sub v_cmp l_old|with_reducible apply v_kT (by first|decide +kernel|(delta v_gd v_gnT v_gnF; assumption))|with_reducible apply v_kF (by first|decide +kernel|(delta v_gd v_gnT v_gnF; assumption))|exact rfl|exact Nat.le_of_ble_eq_true rfl
theorem dn3 (h1:H[w]? = some (.inst 348 es)) (h2:es.lookup (Str.ofString "store")=some (.loc s)) (h3:H[s]? = some (.dstr ds)) (h4:ds.lookup x=some b) (e:runB ["world","value"] [] d_made_copy [.loc w,a] H=some (v,H')):runB ["world","kind","goal","value"] [] d_law_done [.loc w,.int ((3:Nat):Int),.str x,a] H=some (v,H'):=by
 apply v_run rfl
 unfold d_law_done
 repeat' first|delta v_itD|(show (_:Prop); with_reducible assumption)|delta v_seq v_if v_call v_cons v_nil v_cst v_attr v_loc v_asg v_sr v_sn v_skip v_ret v_sub v_cmp|with_reducible apply v_kT (by first|decide +kernel|(delta v_gd v_gnT v_gnF; assumption))|with_reducible apply v_kF (by first|decide +kernel|(delta v_gd v_gnT v_gnF; assumption))|exact rfl
theorem dn5 (h1:H[w]? = some (.inst 348 es)) (h2:es.lookup (Str.ofString "store")=some (.loc s)) (h3:H[s]? = some (.dstr ds)) (h4:ds.lookup x=some b) (e:runB ["world"] [] d_made_table [.loc w] H=some (v,H')):runB ["world","kind","goal","value"] [] d_law_done [.loc w,.int ((5:Nat):Int),.str x,a] H=some (v,H'):=by
 apply v_run rfl
 unfold d_law_done
 repeat' first|delta v_itD|(show (_:Prop); with_reducible assumption)|delta v_seq v_if v_call v_cons v_nil v_cst v_attr v_loc v_asg v_sr v_sn v_skip v_ret v_sub v_cmp|with_reducible apply v_kT (by first|decide +kernel|(delta v_gd v_gnT v_gnF; assumption))|with_reducible apply v_kF (by first|decide +kernel|(delta v_gd v_gnT v_gnF; assumption))|exact rfl
theorem dn10 (h1:H[w]? = some (.inst 348 es)) (h2:es.lookup (Str.ofString "store")=some (.loc s)) (h3:H[s]? = some (.dstr ds)) (h4:ds.lookup x=some b) (e:runB ["world","told","value"] [] d_made_array [.loc w,.str "2",a] H=some (v,H')):runB ["world","kind","goal","value"] [] d_law_done [.loc w,.int ((10:Nat):Int),.str x,a] H=some (v,H'):=by
 apply v_run rfl
 unfold d_law_done
 repeat' first|delta v_itD|(show (_:Prop); with_reducible assumption)|delta v_seq v_if v_call v_cons v_nil v_cst v_attr v_loc v_asg v_sr v_sn v_skip v_ret v_sub v_cmp|with_reducible apply v_kT (by first|decide +kernel|(delta v_gd v_gnT v_gnF; assumption))|with_reducible apply v_kF (by first|decide +kernel|(delta v_gd v_gnT v_gnF; assumption))|exact rfl
variable {j:Nat}
theorem dn8s (h1:H[w]? = some (.inst 348 es)) (h2:es.lookup (Str.ofString "store")=some (.loc s)) (h3:H[s]? = some (.dstr ds)) (h4:ds.lookup x=some b) (e:runB ["value","key","at"] [] d_law_spot [b,a,.int 0] H=some (.loc j,H1)) (e2:runB ["ref","value"] [] d_slot_set [.loc j,a] H1=some (.none,H2)):runB ["world","kind","goal","value"] [] d_law_done [.loc w,.int ((8:Nat):Int),.str x,a] H=some (b,H2):=by
 apply v_run rfl
 unfold d_law_done
 repeat' first|delta v_itD|(show (_:Prop); with_reducible assumption)|delta v_seq v_if v_call v_cons v_nil v_cst v_attr v_loc v_asg v_sr v_sn v_skip v_ret v_sub v_expr v_cmp|with_reducible apply v_kT (by first|decide +kernel|(delta v_gd v_gnT v_gnF; assumption))|with_reducible apply v_kF (by first|decide +kernel|(delta v_gd v_gnT v_gnF; assumption))|exact rfl
theorem dn8n (h1:H[w]? = some (.inst 348 es)) (h2:es.lookup (Str.ofString "store")=some (.loc s)) (h3:H[s]? = some (.dstr ds)) (h4:ds.lookup x=some b) (e:runB ["value","key","at"] [] d_law_spot [b,a,.int 0] H=some (.none,H1)):runB ["world","kind","goal","value"] [] d_law_done [.loc w,.int ((8:Nat):Int),.str x,a] H=some (b,H1):=by
 apply v_run rfl
 unfold d_law_done
 repeat' first|delta v_itD|(show (_:Prop); with_reducible assumption)|delta v_seq v_if v_call v_cons v_nil v_cst v_attr v_loc v_asg v_sr v_sn v_skip v_ret v_sub v_cmp|with_reducible apply v_kT (by first|decide +kernel|(delta v_gd v_gnT v_gnF; assumption))|with_reducible apply v_kF (by first|decide +kernel|(delta v_gd v_gnT v_gnF; assumption))|exact rfl
theorem dn9r (h1:H[w]? = some (.inst 348 es)) (h2:es.lookup (Str.ofString "store")=some (.loc s)) (h3:H[s]? = some (.dstr ds)) (h4:ds.lookup x=some b) {er:List (Str×AV)} (ha:a = .loc j) (hj:H[j]? = some (.inst 117 er)):runB ["world","kind","goal","value"] [] d_law_done [.loc w,.int ((9:Nat):Int),.str x,a] H=some (.loc (H.length+2),H++[.tup [.str "rem"],.tup [.str "later",.loc H.length,a],.inst 54 [("node",.loc (H.length+1))]]):=by
 subst ha
 apply t_fin
 ·apply v_run rfl
  unfold d_law_done
  repeat' first|delta v_itD|unfold d_Pattern_init|(show (_:Prop); with_reducible assumption)|delta v_seq v_if v_val v_call v_cons v_nil v_cst v_attr v_loc t_tup t_set t_cls v_isi v_asg v_tyI v_sr v_sn v_skip v_ret v_sub v_ife v_cmp|with_reducible apply v_runA rfl|((with_reducible apply t_at); exact rfl)|delta l_old|with_reducible apply v_kT (by first|decide +kernel|(delta v_gd v_gnT v_gnF; assumption))|with_reducible apply v_kF (by first|decide +kernel|(delta v_gd v_gnT v_gnF; assumption))|with_reducible apply v_eT (by first|decide +kernel|(delta v_gd v_gnT v_gnF; assumption))|exact rfl|exact Nat.le_of_ble_eq_true rfl
 ·kernel_rfl
theorem dn9n (h1:H[w]? = some (.inst 348 es)) (h2:es.lookup (Str.ofString "store")=some (.loc s)) (h3:H[s]? = some (.dstr ds)) (h4:ds.lookup x=some b) {t:Value} (ht:typA a H=some t) (hT:isT t (.ref 117)=some false):runB ["world","kind","goal","value"] [] d_law_done [.loc w,.int ((9:Nat):Int),.str x,a] H=some (b,H):=by
 apply v_run rfl
 unfold d_law_done
 repeat' first|delta v_itD|(show (_:Prop); with_reducible assumption)|delta v_seq v_if v_val v_call v_cons v_nil v_cst v_attr v_loc v_isi v_asg v_sr v_sn v_skip v_ret v_sub v_ife v_cmp|with_reducible apply v_kT (by first|decide +kernel|(delta v_gd v_gnT v_gnF; assumption))|with_reducible apply v_kF (by first|decide +kernel|(delta v_gd v_gnT v_gnF; assumption))|with_reducible apply v_eF (by first|decide +kernel|(delta v_gd v_gnT v_gnF; assumption))|exact rfl|(with_reducible apply v_is; assumption)
theorem dn4n (h1:H[w]? = some (.inst 348 es)) (h2:es.lookup (Str.ofString "store")=some (.loc s)) (h3:H[s]? = some (.dstr ds)) (h4:ds.lookup x=some b) (e:runB ["value","key","at"] [] d_law_spot [a,.str "k",.int 0] H=some (.none,H1)):runB ["world","kind","goal","value"] [] d_law_done [.loc w,.int ((4:Nat):Int),.str x,a] H=some (b,H1):=by
 apply v_run rfl
 unfold d_law_done
 repeat' first|delta v_itD|(show (_:Prop); with_reducible assumption)|delta v_seq v_if v_call v_cons v_nil v_cst v_attr v_loc v_asg v_sr v_sn v_skip v_ret v_sub v_ife v_cmp|with_reducible apply v_kT (by first|decide +kernel|(delta v_gd v_gnT v_gnF; assumption))|with_reducible apply v_kF (by first|decide +kernel|(delta v_gd v_gnT v_gnF; assumption))|with_reducible apply v_eF (by first|decide +kernel|(delta v_gd v_gnT v_gnF; assumption))|exact rfl
theorem dn6n (h1:H[w]? = some (.inst 348 es)) (h2:es.lookup (Str.ofString "store")=some (.loc s)) (h3:H[s]? = some (.dstr ds)) (h4:ds.lookup x=some b) (e:runB ["value","key","at"] [] d_law_spot [a,.str "k",.int 0] H=some (.none,H1)):runB ["world","kind","goal","value"] [] d_law_done [.loc w,.int ((6:Nat):Int),.str x,a] H=some (b,H1):=by
 apply v_run rfl
 unfold d_law_done
 repeat' first|delta v_itD|(show (_:Prop); with_reducible assumption)|delta v_seq v_if v_call v_cons v_nil v_cst v_attr v_loc v_asg v_sr v_sn v_skip v_ret v_sub v_ife v_cmp|with_reducible apply v_kT (by first|decide +kernel|(delta v_gd v_gnT v_gnF; assumption))|with_reducible apply v_kF (by first|decide +kernel|(delta v_gd v_gnT v_gnF; assumption))|with_reducible apply v_eF (by first|decide +kernel|(delta v_gd v_gnT v_gnF; assumption))|exact rfl
theorem dn7n (h1:H[w]? = some (.inst 348 es)) (h2:es.lookup (Str.ofString "store")=some (.loc s)) (h3:H[s]? = some (.dstr ds)) (h4:ds.lookup x=some b) (e:runB ["value","key","at"] [] d_law_spot [a,.str "k",.int 1] H=some (.none,H1)):runB ["world","kind","goal","value"] [] d_law_done [.loc w,.int ((7:Nat):Int),.str x,a] H=some (b,H1):=by
 apply v_run rfl
 unfold d_law_done
 repeat' first|delta v_itD|(show (_:Prop); with_reducible assumption)|delta v_seq v_if v_call v_cons v_nil v_cst v_attr v_loc v_asg v_sr v_sn v_skip v_ret v_sub v_ife v_cmp|with_reducible apply v_kT (by first|decide +kernel|(delta v_gd v_gnT v_gnF; assumption))|with_reducible apply v_kF (by first|decide +kernel|(delta v_gd v_gnT v_gnF; assumption))|with_reducible apply v_eT (by first|decide +kernel|(delta v_gd v_gnT v_gnF; assumption))|exact rfl
theorem dn4s (h1:H[w]? = some (.inst 348 es)) (h2:es.lookup (Str.ofString "store")=some (.loc s)) (h3:H[s]? = some (.dstr ds)) (h4:ds.lookup x=some b) (e:runB ["value","key","at"] [] d_law_spot [a,.str "k",.int 0] H=some (.loc j,H1)) (e2:runB ["ref"] [] d_slot_get [.loc j] H1=some (v,H2)):runB ["world","kind","goal","value"] [] d_law_done [.loc w,.int ((4:Nat):Int),.str x,a] H=some (v,H2):=by
 apply v_run rfl
 unfold d_law_done
 repeat' first|delta v_itD|(show (_:Prop); with_reducible assumption)|delta v_seq v_if v_call v_cons v_nil v_cst v_attr v_loc v_asg v_sr v_sn v_skip v_ret v_sub v_ife v_cmp|with_reducible apply v_kF (by first|decide +kernel|(delta v_gd v_gnT v_gnF; assumption))|with_reducible apply v_eF (by first|decide +kernel|(delta v_gd v_gnT v_gnF; assumption))|exact rfl
theorem dn7s (h1:H[w]? = some (.inst 348 es)) (h2:es.lookup (Str.ofString "store")=some (.loc s)) (h3:H[s]? = some (.dstr ds)) (h4:ds.lookup x=some b) (e:runB ["value","key","at"] [] d_law_spot [a,.str "k",.int 1] H=some (.loc j,H1)) (e2:runB ["ref"] [] d_slot_get [.loc j] H1=some (v,H2)):runB ["world","kind","goal","value"] [] d_law_done [.loc w,.int ((7:Nat):Int),.str x,a] H=some (v,H2):=by
 apply v_run rfl
 unfold d_law_done
 repeat' first|delta v_itD|(show (_:Prop); with_reducible assumption)|delta v_seq v_if v_call v_cons v_nil v_cst v_attr v_loc v_asg v_sr v_sn v_skip v_ret v_sub v_ife v_cmp|with_reducible apply v_kF (by first|decide +kernel|(delta v_gd v_gnT v_gnF; assumption))|with_reducible apply v_eT (by first|decide +kernel|(delta v_gd v_gnT v_gnF; assumption))|with_reducible apply v_eF (by first|decide +kernel|(delta v_gd v_gnT v_gnF; assumption))|exact rfl
theorem dn6s (h1:H[w]? = some (.inst 348 es)) (h2:es.lookup (Str.ofString "store")=some (.loc s)) (h3:H[s]? = some (.dstr ds)) (h4:ds.lookup x=some b) (e:runB ["value","key","at"] [] d_law_spot [a,.str "k",.int 0] H=some (.loc j,H1)):runB ["world","kind","goal","value"] [] d_law_done [.loc w,.int ((6:Nat):Int),.str x,a] H=some (.loc j,H1):=by
 apply v_run rfl
 unfold d_law_done
 repeat' first|delta v_itD|(show (_:Prop); with_reducible assumption)|delta v_seq v_if v_call v_cons v_nil v_cst v_attr v_loc v_asg v_sr v_sn v_skip v_ret v_sub v_ife v_cmp|with_reducible apply v_kF (by first|decide +kernel|(delta v_gd v_gnT v_gnF; assumption))|with_reducible apply v_eT (by first|decide +kernel|(delta v_gd v_gnT v_gnF; assumption))|with_reducible apply v_eF (by first|decide +kernel|(delta v_gd v_gnT v_gnF; assumption))|exact rfl
end
section
variable {φ φ':Nat->Nat} {ω ω':Tags} {N0:Nat} {H H' H1 H2:List AO} {cells cells':List Cell} {w s hl:Nat} {st:List V} {held:List Nat}
variable {B:Nat}
theorem Small.hz (S:Small cells B) {n:Nat} {rows:List (V×V)} (h:cells[n]? = some (.tab rows)):rows.length<=B:=S n _ h
variable {v:V} {a:AV}
theorem VV.typ (W:HW φ ω N0 H cells) (hv:VV φ H v a) (ok:okV cells v) (h:∀ b n i,v≠.r b n i):∃ t,typA a H=some t/\isT t (.ref 117)=some false:=by
 cases v with
 |s x=>cases hv; exact ⟨_,rfl,ti_str_117⟩
 |r b n i=>exact absurd rfl (h b n i)
 |p b n i=>obtain ⟨j,es,t,u,q,rfl,h1,_⟩:=hv; exact ⟨_,v_tyI h1,ti_54_117⟩
 |h n=>
  cases hv
  refine ex2_4 (holder_at (W.cell n _ (List.getElem?_eq_getElem ok))) fun C eo I ZZ t2 ZZ=>?_
  exact ⟨_,v_tyI I.at',t2⟩
variable {kind:Nat} {here:V} {b:AV}
theorem ask_ok (R:RW φ ω N0 H cells w s st held) (Sm:Small cells B) (hB:B<=9000) {x:Str} (hb:VV φ H here b) (hv:VV φ H v a) (oh:okV cells here) (ov:okV cells v) {o:Option (AV×List AO)}
  (rn:∀ H1,runB ["value","key","at"] [] d_law_spot [a,.str "k",.int ((if kind=7 then 1 else 0:Nat):Int)] H=some (.none,H1)->o=some (b,H1))
  (rs:∀ H1 j,runB ["value","key","at"] [] d_law_spot [a,.str "k",.int ((if kind=7 then 1 else 0:Nat):Int)] H=some (.loc j,H1)->if kind=6 then o=some (.loc j,H1) else ∀ u,runB ["ref"] [] d_slot_get [.loc j] H1=some (u,H1)->o=some (u,H1)):
  DoneTo φ ω N0 H cells w s st held o (askW cells kind here v):=by
 have hi:(if kind=7 then 1 else 0)<2:=by split <;> omega
 refine ex3_5 (spot_ok R.hw hv (key:=.s "k") rfl ov.num (fun ZZ h=>by exact ns h) hi fun n rows h=>by have:=Sm.hz h; exact om117 hB this) fun r H1 ω1 run W1 sp C1 E1=>?_
 have L:=spot_len (cells:=cells) (v:=v) (key:=.s "k") (a:=if kind=7 then 1 else 0)
 unfold askW
 cases hs:spotW cells v (.s "k") (if kind=7 then 1 else 0) with
 |mk q cells1=>
  rw [hs] at W1 sp L
  cases q with
  |none=>
   cases sp
   exact .chg R (rn _ run) W1 C1 E1 L (hb.keep C1.stab fun ZZ ZZ=>rfl)
  |some t=>
   obtain ⟨b',n,i⟩:=t
   obtain ⟨j,rfl,rf⟩:=sp
   obtain ⟨Sm1,c,v0,hc,hg⟩:=spot_slot Sm ov hi hs
   have:=rs _ j run
   by_cases k6:kind=6
   ·rw [if_pos k6] at this
    show DoneTo φ ω N0 H cells w s st held o (if kind=6 then V.r b' n i else getW cells1 n i,cells1)
    rw [if_pos k6]
    exact .chg R this W1 C1 E1 L ⟨j,rfl,rf⟩
   ·rw [if_neg k6] at this
    obtain ⟨u,e,hu⟩:=slot_get_any W1 rf hc hg Sm1 (om55 hB)
    show DoneTo φ ω N0 H cells w s st held o (if kind=6 then V.r b' n i else getW cells1 n i,cells1)
    rw [if_neg k6]
    exact .chg R (this u e) W1 C1 E1 L hu
theorem done_ok (R:RW φ ω N0 H cells w s st held) (NC:NumC cells) (hh:∀ n∈held,n<cells.length) (hs:∀ v∈st,∀ n,numV v=some n->n<cells.length) (hz:held.length<=100000) (Sm:Small cells B) (hB:B<=9000) (hk:kind<11) {x:Str} {ds:List (Str×AV)}
  (h3:H[s]? = some (.dstr ds)) (h4:ds.lookup x=some b) (hb:VV φ H here b) (hv:VV φ H v a) (oh:okV cells here) (ov:okV cells v):
  DoneTo φ ω N0 H cells w s st held (runB ["world","kind","goal","value"] [] d_law_done [.loc w,.int (kind:Int),.str x,a] H) (doneW cells kind here v):=by
 refine ex1_1 (R.world) fun hl Wd=>?_
 obtain ⟨⟨es,h1,h2,_⟩,_⟩:=Wd
 refine elev (P:=fun kind=>DoneTo φ ω N0 H cells w s st held (runB ["world","kind","goal","value"] [] d_law_done [.loc w,.int (kind:Int),.str x,a] H) (doneW cells kind here v)) hk ?_ ?_ ?_ ?_ ?_ ?_ ?_ ?_ ?_ ?_ ?_
 ·exact .same0 R (dn0 h1 h2 h3 h4) hv
 ·exact .same0 R (dn1 h1 h2 h3 h4) rfl
 ·refine ex3_2 (made_dat R NC hh hs hz hv ov.num) fun φ' ω' H' e q=>?_
  exact .new1 ⟨φ',ω',H',dn2 h1 h2 h3 h4 e,q⟩
 ·obtain ⟨φ',ω',H',a',e,q⟩:=made_copy R NC hh hs hz hv ov.num fun n rows h=>by have:=Sm.hz h; exact om113 hB this
  exact ⟨φ',ω',H',a',dn3 h1 h2 h3 h4 e,q⟩
 ·refine ask_ok (x:=x) (kind:=4) R Sm hB hb hv oh ov (fun H1 e=>dn4n h1 h2 h3 h4 e) fun H1 j e=>?_
  rw [if_neg (by decide)]
  exact fun u e2=>dn4s h1 h2 h3 h4 e e2
 ·refine ex3_2 (made_tab R NC hh hs hz) fun φ' ω' H' e q=>?_
  exact .new1 ⟨φ',ω',H',dn5 h1 h2 h3 h4 e,q⟩
 ·refine ask_ok (x:=x) (kind:=6) R Sm hB hb hv oh ov (fun H1 e=>dn6n h1 h2 h3 h4 e) fun H1 j e=>?_
  rw [if_pos rfl]
  exact dn6s h1 h2 h3 h4 e
 ·refine ask_ok (x:=x) (kind:=7) R Sm hB hb hv oh ov (fun H1 e=>dn7n h1 h2 h3 h4 e) fun H1 j e=>?_
  rw [if_neg (by decide)]
  exact fun u e2=>dn7s h1 h2 h3 h4 e e2
 ·refine ex3_5 (spot_ok (i:=0) R.hw hb (key:=v) hv oh.num ov.num (by decide) fun n rows h=>by have:=Sm.hz h; exact om117 hB this) fun r H1 ω1 run W1 sp C1 E1=>?_
  have L:=spot_len (cells:=cells) (v:=here) (key:=v) (a:=0)
  show DoneTo φ ω N0 H cells w s st held _ (putW cells here v)
  unfold putW
  cases hs:spotW cells here v 0 with
  |mk q cells1=>
   rw [hs] at W1 sp L
   cases q with
   |none=>
    cases sp
    exact .chg R (dn8n h1 h2 h3 h4 run) W1 C1 E1 L (hb.keep C1.stab fun ZZ ZZ=>rfl)
   |some t=>
    obtain ⟨b',n,i⟩:=t
    obtain ⟨j,rfl,rf⟩:=sp
    obtain ⟨Sm1,c,v0,hc,hg⟩:=spot_slot Sm oh (by decide) hs
    obtain ⟨H2,e2,W2,C2⟩:=slot_set_any W1 rf hc hg (hv.keep C1.stab fun ZZ ZZ=>rfl) Sm1 (om62 hB)
    exact .chg R (dn8s h1 h2 h3 h4 run e2) W2 (.trans E1 C1 C2) E1 (setW_len.trans L) (hb.keep (C1.stab.trans C2.stab) fun ZZ ZZ=>rfl)
 ·show DoneTo φ ω N0 H cells w s st held _ (patW here v,cells)
  cases v with
  |r b' n i=>
   obtain ⟨j,rfl,rf⟩:=hv
   obtain ⟨er,hj,q⟩:=id rf
   refine ⟨φ,ω,_,_,dn9r h1 h2 h3 h4 rfl hj,by rw [newN_0 rfl,List.append_nil]; exact R.chg R.hw.ext .ext .refl rfl,⟨_,_,H.length+1,H.length,j,rfl,l_tail rfl,by kernel_rfl,l_tail rfl,l_tail (k:=0) rfl,rf.keep .ext rfl⟩,Chg.ext.into .refl⟩
  |s y=>refine ex1_2 (VV.typ R.hw hv ov (fun ZZ ZZ ZZ h=>by cases h)) fun t ht hT=>?_; exact .same0 R (dn9n h1 h2 h3 h4 ht hT) hb
  |h n=>refine ex1_2 (VV.typ R.hw hv ov (fun ZZ ZZ ZZ h=>by cases h)) fun t ht hT=>?_; exact .same0 R (dn9n h1 h2 h3 h4 ht hT) hb
  |p b' n i=>refine ex1_2 (VV.typ R.hw hv ov (fun ZZ ZZ ZZ h=>by cases h)) fun t ht hT=>?_; exact .same0 R (dn9n h1 h2 h3 h4 ht hT) hb
 ·refine ex3_2 (made_arr R NC hh hs hz hv ov.num) fun φ' ω' H' e q=>?_
  exact .new1 ⟨φ',ω',H',dn10 h1 h2 h3 h4 e,q⟩
end
section
variable {cells cells':List Cell}
def OkC (cells:List Cell):Prop:=∀ (n:Nat) (c:Cell),cells[n]? = some c->∀ v∈partsC c,okV cells v
theorem OkC.num (h:OkC cells):NumC cells:=fun n c hc v hv=>(h n c hc v hv).num
def Mono (cells cells':List Cell):Prop:=∀ (n:Nat) (c:Cell),cells[n]? = some c->∃ c',cells'[n]? = some c'/\∀ i v,getC c i=some v->∃ v',getC c' i=some v'
variable {v:V}
theorem Mono.ok (m:Mono cells cells') (h:okV cells v):okV cells' v:=by
 cases v with
 |s x=>exact h
 |h n=>
  refine ex1_2 (m n _ (List.getElem?_eq_getElem (show n<cells.length from h))) fun c' h1 ZZ=>?_
  exact getElem?_lt h1
 |r b n i=>obtain ⟨c,v0,h1,h2⟩:=h; refine ex1_2 (m n c h1) fun c' h3 h4=>?_; refine ex1_1 (h4 i v0 h2) fun v' h5=>?_; exact ⟨c',v',h3,h5⟩
 |p b n i=>obtain ⟨c,v0,h1,h2⟩:=h; refine ex1_2 (m n c h1) fun c' h3 h4=>?_; refine ex1_1 (h4 i v0 h2) fun v' h5=>?_; exact ⟨c',v',h3,h5⟩
theorem Mono.refl:Mono cells cells:=fun ZZ c h=>⟨c,h,fun ZZ v e=>⟨v,e⟩⟩
theorem Mono.trans {c3:List Cell} (a:Mono cells cells') (b:Mono cells' c3):Mono cells c3:=fun n c h=>by
 refine ex1_2 (a n c h) fun c' h1 h2=>?_
 refine ex1_2 (b n c' h1) fun c2 h3 h4=>?_
 exact ⟨c2,h3,fun i v e=>let ⟨v',e'⟩:=h2 i v e; h4 i v' e'⟩
variable {c:Cell}
theorem Mono.append:Mono cells (cells++[c]):=fun n d h=>⟨d,by rw [List.getElem?_append_left (getElem?_lt h)]; exact h,fun ZZ v e=>⟨v,e⟩⟩
variable {k:Nat} {c':Cell}
theorem Mono.set (hc:cells[k]? = some c) (h:∀ i v,getC c i=some v->∃ v',getC c' i=some v'):Mono cells (cells.set k c'):=fun n d hd=>by
 by_cases e:k=n
 ·subst e
  rw [hc] at hd; obtain rfl:=so hd
  exact ⟨c',List.getElem?_set_self (getElem?_lt hc),h⟩
 ·exact ⟨d,by rw [List.getElem?_set_ne e]; exact hd,fun ZZ v e=>⟨v,e⟩⟩
structure Keeps (B:Nat) (cells cells':List Cell):Prop where
 mono:Mono cells cells'
 ok:OkC cells'
 small:Small cells' (B+1)
 len:cells'.length<=cells.length+1/\cells.length<=cells'.length
variable {B:Nat}
theorem Small.up (S:Small cells B):Small cells (B+1):=fun m c hc=>by
 have:=S m c hc
 cases c with
 |tab rows=>exact Nat.le_succ_of_le this
 |_=>exact this
theorem Keeps.refl (O:OkC cells) (S:Small cells B):Keeps B cells cells:=⟨.refl,O,S.up,by exact om5,Nat.le_refl _⟩
theorem Keeps.append (O:OkC cells) (S:Small cells B) (hc:∀ v∈partsC c,okV cells v) (hs:SmallC (B+1) c):Keeps B cells (cells++[c]):=by
 refine ⟨.append,fun n d hd v hv=>Mono.append.ok ?_,fun n d hd=>?_,by simp,by simp⟩
 ·by_cases q:n<cells.length
  ·rw [List.getElem?_append_left q] at hd; exact O n d hd v hv
  ·have:n=cells.length:=by
    have:=getElem?_lt hd
    rw [List.length_append,List.length_singleton] at this; exact om141 this q
   subst this
   rw [List.getElem?_concat_length] at hd
   obtain rfl:=so hd; exact hc v hv
 ·by_cases q:n<cells.length
  ·rw [List.getElem?_append_left q] at hd; exact S.up n d hd
  ·have:n=cells.length:=by
    have:=getElem?_lt hd
    rw [List.length_append,List.length_singleton] at this; exact om141 this q
   subst this
   rw [List.getElem?_concat_length] at hd
   obtain rfl:=so hd; exact hs
theorem Keeps.set (O:OkC cells) (hc:cells[k]? = some c) (hm:∀ i v,getC c i=some v->∃ v',getC c' i=some v') (hp:∀ v∈partsC c',okV cells v) (S:Small cells (B+1)) (hs:SmallC (B+1) c'):Keeps B cells (cells.set k c'):=by
 have M:=Mono.set hc hm
 refine ⟨M,fun n d hd v hv=>M.ok ?_,fun n d hd=>?_,by simp,by simp⟩
 ·by_cases e:k=n
  ·subst e
   rw [List.getElem?_set_self (getElem?_lt hc)] at hd
   obtain rfl:=so hd; exact hp v hv
  ·rw [List.getElem?_set_ne e] at hd; exact O n d hd v hv
 ·by_cases e:k=n
  ·subst e
   rw [List.getElem?_set_self (getElem?_lt hc)] at hd
   obtain rfl:=so hd; exact hs
  ·rw [List.getElem?_set_ne e] at hd; exact S n d hd
theorem setC_slots {u:V}:∀ i v,getC c i=some v->∃ v',getC (setC c k u) i=some v':=fun i v h=>by
 cases c with
 |arr vs=>have:=getElem?_lt (show vs[i]? = some v from h); exact ⟨_,List.getElem?_eq_getElem (l:=vs.set k u) (by simpa using this)⟩
 |dat vs=>have:=getElem?_lt (show vs[i]? = some v from h); exact ⟨_,List.getElem?_eq_getElem (l:=vs.set k u) (by simpa using this)⟩
 |tab rows=>
  refine ex1_2 (Option.map_eq_some_iff.mp (show (rows[i]?).map (·.2)=some v from h)) fun p hp ZZ=>?_
  have:=getElem?_lt hp
  refine ⟨(rows.modify k fun p=>(p.1,u))[i]'(by simpa using this) |>.2,?_⟩
  show ((rows.modify k fun p=>(p.1,u))[i]?).map (·.2)=_
  rw [List.getElem?_eq_getElem (by simpa using this)]; rfl
theorem keeps_setW (O:OkC cells) (S:Small cells (B+1)) {n i:Nat} (hv:okV cells v):Keeps B cells (setW cells n i v):=by
 unfold setW
 cases hc:cells[n]? with
 |none=>exact ⟨.refl,O,S,Nat.le_succ _,Nat.le_refl _⟩
 |some c=>
  refine .set O hc setC_slots (fun u hu=>?_) S ?_
  ·rcases setC_parts hu with h|rfl
   ·exact O n c hc u h
   ·exact hv
  ·have:=S n c hc
   cases c with
   |arr vs=>show (vs.set i v).length=2; rw [List.length_set]; exact this
   |dat vs=>show (vs.set i v).length=2; rw [List.length_set]; exact this
   |tab rows=>show (rows.modify i fun p=>(p.1,v)).length<=B+1; rw [List.length_modify]; exact this
theorem keyW_ok (h:okV cells v):okV cells (keyW v):=by cases v <;> first|exact h|exact okV_k
set_option tactic.hygienic true in
theorem keeps_spot (O:OkC cells) (S:Small cells B) {key:V} {a:Nat} (hk:okV cells key):Keeps B cells (spotW cells v key a).2:=by
 unfold spotW
 split
 ·rename_i n
  split
  ·exact .refl O S
  ·exact .refl O S
  ·rename_i rows hc
   split
   ·exact .refl O S
   ·refine .set O hc (fun i u e=>?_) (fun u hu=>?_) S.up ?_
    ·refine ex1_2 (Option.map_eq_some_iff.mp (show (rows[i]?).map (·.2)=some u from e)) fun p hp ZZ=>?_
     refine ⟨p.2,?_⟩
     show ((rows++[(keyW key,V.s "")])[i]?).map (·.2)=_
     rw [List.getElem?_append_left (getElem?_lt hp),hp]; rfl
    ·refine ex1_2 (mem_rows.mp (show u∈rowsOf (rows++[(keyW key,.s "")]) from hu)) fun p hp e=>?_
     rcases List.mem_append.mp hp with h|h
     ·exact O n _ hc u (mem_rows.mpr ⟨p,h,e⟩)
     ·rw [List.mem_singleton.mp h] at e
      rcases e with rfl|rfl
      ·exact keyW_ok hk
      ·exact okV_e
    ·have:rows.length<=B:=S n _ hc
     show (rows++[_]).length<=B+1
     rw [List.length_append,List.length_singleton]; exact om89 this
  ·exact .refl O S
 ·exact .refl O S
 ·exact .refl O S
set_option tactic.hygienic true in
theorem done_keeps (O:OkC cells) (S:Small cells B) {kind:Nat} {here:V} (oh:okV cells here) (ov:okV cells v):Keeps B cells (doneW cells kind here v).2/\okV (doneW cells kind here v).2 (doneW cells kind here v).1:=by
 have two:∀ u:V,okV cells u->∀ x∈partsC (.dat [v,u]),okV cells x:=fun u hu x hx=>by
  have hx:x∈[v,u]:=hx
  simp only [List.mem_cons,List.not_mem_nil,or_false] at hx
  rcases hx with rfl|rfl
  ·exact ov
  ·exact hu
 have new:∀ c:Cell,okV (cells++[c]) (.h cells.length):=fun c=>by show cells.length<(cells++[c]).length; simp
 unfold doneW
 by_cases k0:kind=0
 ·rw [if_pos k0]; exact ⟨.refl O S,ov⟩
 rw [if_neg k0]
 by_cases k1:kind=1
 ·rw [if_pos k1]; exact ⟨.refl O S,okV_e⟩
 rw [if_neg k1]
 by_cases k2:kind=2
 ·rw [if_pos k2]; exact ⟨.append O S (two _ okV_e) rfl,new _⟩
 rw [if_neg k2]
 by_cases k3:kind=3
 ·rw [if_pos k3]
  unfold copyW
  split
  ·rename_i m
   split
   ·rename_i c hc
    refine ⟨.append O S (O _ _ hc) ?_,new _⟩
    have:=S _ _ hc
    cases c with
    |tab rows=>exact Nat.le_succ_of_le this
    |_=>exact this
   ·exact ⟨.refl O S,ov⟩
  ·exact ⟨.refl O S,ov⟩
 rw [if_neg k3]
 by_cases k5:kind=5
 ·rw [if_pos k5]; exact ⟨.append O S (fun u hu=>absurd hu (by show u∉rowsOf []; simp [rowsOf])) (Nat.zero_le _),new _⟩
 rw [if_neg k5]
 by_cases k10:kind=10
 ·rw [if_pos k10]; exact ⟨.append O S (two v ov) rfl,new _⟩
 rw [if_neg k10]
 by_cases k8:kind=8
 ·rw [if_pos k8]
  have K:=keeps_spot (v:=here) (a:=0) O S ov
  unfold putW
  split
  ·rename_i b n i c1 e
   rw [e] at K
   have K2:=keeps_setW (n:=n) (i:=i) K.ok K.small (K.mono.ok ov)
   exact ⟨⟨K.mono.trans K2.mono,K2.ok,K2.small,by have:=K.len; rw [setW_len]; exact this.1,by have:=K.len; rw [setW_len]; exact this.2⟩,(K.mono.trans K2.mono).ok oh⟩
  ·rename_i c1 e
   rw [e] at K
   exact ⟨K,K.mono.ok oh⟩
 rw [if_neg k8]
 by_cases k9:kind=9
 ·rw [if_pos k9]
  refine ⟨.refl O S,?_⟩
  show okV cells (patW here v)
  unfold patW
  split
  ·exact ov
  ·exact oh
 rw [if_neg k9]
 have K:=keeps_spot (v:=v) (key:=.s "k") (a:=if kind=7 then 1 else 0) O S okV_k
 unfold askW
 split
 ·rename_i b n i c1 e
  obtain ⟨_,c,v0,hc,hg⟩:=spot_slot S ov (by split <;> omega) e
  rw [e] at K
  refine ⟨K,?_⟩
  show okV c1 (if kind=6 then V.r b n i else getW c1 n i)
  by_cases k6:kind=6
  ·rw [if_pos k6]; exact ⟨c,v0,hc,hg⟩
  ·rw [if_neg k6]
   rcases getW_parts (cells:=c1) (n:=n) (i:=i) with g|g
   ·unfold partsN at g
    rw [hc] at g
    exact K.ok n c hc _ g
   ·rw [g]; exact okV_e
 ·rename_i c1 e
  rw [e] at K
  exact ⟨K,K.mono.ok oh⟩
end
section
variable {φ φ':Nat->Nat} {ω ω':Tags} {N0:Nat} {H H' H1 H2 L M:List AO} {cells cells':List Cell} {σ σ2:Mine.St} {c:Fn Bool} {fb:FnS} {n k i j:Nat} {r:AF'×Mine.St} {xs ys:List AV} {v a b:AV} {ρ:List (Str×AV)} {nx:Nx} {t:Bool}
noncomputable def whK (t:Bool) (c:Fn Bool) (fb:FnS) (n:Nat) (σ:Mine.St):Option (AF'×Mine.St):=if t=true then (match fb σ with
 |some (.next,σ2)=>whileA c fb n σ2
 |some (.cont,σ2)=>whileA c fb n σ2
 |some (.brk,σ2)=>some (.next,σ2)
 |some (.ret v,σ2)=>some (.ret v,σ2)
 |none=>none) else some (.next,σ)
theorem t_wh (h:c σ.ρ σ.H=some (t,H1)) (h2:whK t c fb n ⟨σ.ρ,H1⟩=some r):whileA c fb (n+1) σ=some r:=by
 unfold whileA
 rw [h]
 cases t <;> exact h2
theorem t_whT (e:t=true) (h:fb σ=some (.next,σ2)) (h2:whileA c fb n σ2=some r):whK t c fb n σ=some r:=by
 subst e
 unfold whK
 rw [if_pos rfl,h]; exact h2
theorem t_whF (e:t=false):whK t c fb n σ=some (.next,σ):=by subst e; rfl
theorem t_pop (h:L[k]? = some (.list xs)) (hv:xs[xs.length - 1]? = some v) (hz:xs.length<=1000000):popC [.loc (H.length+k)] (H++L)=some (v,H++L.set k (.list xs.dropLast)):=by
 unfold popC
 simp only [l_tail h,hv,hz,if_true,set_tail]
theorem t_ext (h:L[k]? = some (.list xs)) (hy:seqA (H++L)[j]? = some ys) (hz:xs.length+ys.length<=1000000):extendC [.loc (H.length+k),.loc j] (H++L)=some (.none,H++L.set k (.list (xs++ys))):=by
 rw [v_ext (l_tail h) hy hz,set_tail]
theorem t_new {o:AO}:(H++(L++[o]))[H.length+L.length]? = some o:=l_tail List.getElem?_concat_length
theorem t_pop1 (h:L[k]? = some (.list (xs++[v]))) (hz:(xs++[v]).length<=1000000):popC [.loc (H.length+k)] (H++L)=some (v,H++L.set k (.list xs)):=by
 have:=t_pop (H:=H) h (v:=v) (by simp) hz
 rw [List.dropLast_concat] at this; exact this
theorem f_eqr {F:FnS} {r':AF'×Mine.St} (e:F σ=some r) (h:r=r'):F σ=some r':=by subst h; exact e
section
variable {fs ws:List AV} {G:List AO} {t:Nat} (hw:ρ.lookup (Str.ofString "waiting")=some (.loc (H.length+1))) (hf:ρ.lookup (Str.ofString "found")=some (.loc (H.length+0)))
include hw hf
theorem nt_tup (h:H[t]? = some (.tup ys)) (hz2:(ws++[AV.loc t]).length<=1000000) (hz3:ws.length+ys.length<=1000000):(sSeq (sAsg "part" (methF popC (rdL "waiting") esNil)) (sSeq (sIf (vB (callF (isiA isT) (esCons (rdL "part") (esCons (tupF (esCons (cst (.glob (.type "tuple"))) (esCons (cst (.glob (.type "list"))) esNil))) esNil)))) (sSeq (sExpr (methF extendC (rdL "waiting") (esCons (rdL "part") esNil))) sSkip) (sSeq (sIf (vB (callF (isiA isT) (esCons (rdL "part") (esCons (tupF (esCons (cst (.glob (.ref 117))) (esCons (cst (.glob (.ref 54))) (esCons (cst (.glob (.ref 138))) esNil)))) esNil)))) (sSeq (sExpr (methF appendC (rdL "found") (esCons (rdL "part") esNil))) sSkip) sSkip) sSkip)) sSkip)) ⟨ρ,H++(.list fs::.list (ws++[AV.loc t])::G)⟩=some (.next,⟨(Str.ofString "part",.loc t)::ρ,H++(.list fs::.list (ws++ys)::(G++[.tup [.glob (.type "tuple"),.glob (.type "list")]]))⟩):=by
 have hw':((Str.ofString "part",AV.loc t)::ρ).lookup (Str.ofString "waiting")=some (.loc (H.length+1)):=by rw [List.lookup_cons,ofS]; exact hw
 apply f_eqr
 ·skip
  repeat' first|(show (_:Prop); with_reducible assumption)|delta v_seq v_if v_val v_call v_cons v_nil v_cst v_loc t_tup t_pop1 t_ext t_new|((with_reducible apply l_tail); exact rfl)|delta v_isiT v_asg|with_reducible apply v_anyT (by first|assumption|decide +kernel|fail)|with_reducible exact v_tyT (by first|assumption|exact l_tail rfl|(apply l_old; assumption)|fail)|delta v_sn v_skip v_expr v_meth v_isL v_sqT|((with_reducible apply t_at); exact rfl)|delta l_old|with_reducible apply v_kT (by first|decide +kernel|(delta v_gd v_gnT v_gnF; assumption))|exact rfl|exact Nat.le_of_ble_eq_true rfl
 ·rfl
theorem nt_ref {es:List (Str×AV)} (h:H[t]? = some (.inst 117 es)) (hz2:(ws++[AV.loc t]).length<=1000000) (hz3:fs.length<=1000000):(sSeq (sAsg "part" (methF popC (rdL "waiting") esNil)) (sSeq (sIf (vB (callF (isiA isT) (esCons (rdL "part") (esCons (tupF (esCons (cst (.glob (.type "tuple"))) (esCons (cst (.glob (.type "list"))) esNil))) esNil)))) (sSeq (sExpr (methF extendC (rdL "waiting") (esCons (rdL "part") esNil))) sSkip) (sSeq (sIf (vB (callF (isiA isT) (esCons (rdL "part") (esCons (tupF (esCons (cst (.glob (.ref 117))) (esCons (cst (.glob (.ref 54))) (esCons (cst (.glob (.ref 138))) esNil)))) esNil)))) (sSeq (sExpr (methF appendC (rdL "found") (esCons (rdL "part") esNil))) sSkip) sSkip) sSkip)) sSkip)) ⟨ρ,H++(.list fs::.list (ws++[AV.loc t])::G)⟩=some (.next,⟨(Str.ofString "part",.loc t)::ρ,H++(.list (fs++[.loc t])::.list ws::(G++[.tup [.glob (.type "tuple"),.glob (.type "list")]]++[.tup [.glob (.ref 117),.glob (.ref 54),.glob (.ref 138)]]))⟩):=by
 have hf':((Str.ofString "part",AV.loc t)::ρ).lookup (Str.ofString "found")=some (.loc (H.length+0)):=by rw [List.lookup_cons,ofS]; exact hf
 apply f_eqr
 ·skip
  repeat' first|(show (_:Prop); with_reducible assumption)|delta v_seq v_if v_val v_call v_cons v_nil v_cst v_loc t_tup t_app t_pop1 t_new|((with_reducible apply l_tail); exact rfl)|delta v_isiT v_asg|with_reducible apply v_anyT (by first|assumption|decide +kernel|fail)|with_reducible apply v_anyF (by first|assumption|decide +kernel|fail)|delta v_any0 v_tyI v_sn v_skip v_expr v_meth v_isL|((with_reducible apply t_at); exact rfl)|delta l_old|with_reducible apply v_kT (by first|decide +kernel|(delta v_gd v_gnT v_gnF; assumption))|with_reducible apply v_kF (by first|decide +kernel|(delta v_gd v_gnT v_gnF; assumption))|exact rfl|exact Nat.le_of_ble_eq_true rfl
 ·rfl
theorem nt_str {x:Str} (hz2:(ws++[AV.str x]).length<=1000000):(sSeq (sAsg "part" (methF popC (rdL "waiting") esNil)) (sSeq (sIf (vB (callF (isiA isT) (esCons (rdL "part") (esCons (tupF (esCons (cst (.glob (.type "tuple"))) (esCons (cst (.glob (.type "list"))) esNil))) esNil)))) (sSeq (sExpr (methF extendC (rdL "waiting") (esCons (rdL "part") esNil))) sSkip) (sSeq (sIf (vB (callF (isiA isT) (esCons (rdL "part") (esCons (tupF (esCons (cst (.glob (.ref 117))) (esCons (cst (.glob (.ref 54))) (esCons (cst (.glob (.ref 138))) esNil)))) esNil)))) (sSeq (sExpr (methF appendC (rdL "found") (esCons (rdL "part") esNil))) sSkip) sSkip) sSkip)) sSkip)) ⟨ρ,H++(.list fs::.list (ws++[AV.str x])::G)⟩=some (.next,⟨(Str.ofString "part",.str x)::ρ,H++(.list fs::.list ws::(G++[.tup [.glob (.type "tuple"),.glob (.type "list")]]++[.tup [.glob (.ref 117),.glob (.ref 54),.glob (.ref 138)]]))⟩):=by
 apply f_eqr
 ·skip
  repeat' first|(show (_:Prop); with_reducible assumption)|delta v_seq v_if v_val v_call v_cons v_nil v_cst v_loc t_tup t_pop1 t_new|((with_reducible apply l_tail); exact rfl)|delta v_isiT v_asg|with_reducible apply v_anyF (by first|assumption|decide +kernel|fail)|delta v_any0 v_sn v_skip v_meth v_isL|((with_reducible apply t_at); exact rfl)|with_reducible apply v_kF (by first|decide +kernel|(delta v_gd v_gnT v_gnF; assumption))|exact rfl|exact Nat.le_of_ble_eq_true rfl
 ·rfl
end
end
noncomputable def ndC:Fn Bool:=(cmpF (callF lenC (esCons (rdL "waiting") esNil)) (cst (.int 0)) gtK)
noncomputable def ndB:FnS:=(sSeq (sAsg "part" (methF popC (rdL "waiting") esNil)) (sSeq (sIf (vB (callF (isiA isT) (esCons (rdL "part") (esCons (tupF (esCons (cst (.glob (.type "tuple"))) (esCons (cst (.glob (.type "list"))) esNil))) esNil)))) (sSeq (sExpr (methF extendC (rdL "waiting") (esCons (rdL "part") esNil))) sSkip) (sSeq (sIf (vB (callF (isiA isT) (esCons (rdL "part") (esCons (tupF (esCons (cst (.glob (.ref 117))) (esCons (cst (.glob (.ref 54))) (esCons (cst (.glob (.ref 138))) esNil)))) esNil)))) (sSeq (sExpr (methF appendC (rdL "found") (esCons (rdL "part") esNil))) sSkip) sSkip) sSkip)) sSkip))
section
variable {φ φ':Nat->Nat} {ω ω':Tags} {N0:Nat} {H H' H1 H2 L M:List AO} {cells cells':List Cell} {σ σ2:Mine.St} {n k i j:Nat} {r:AF'×Mine.St} {xs ys ws fs:List AV} {v a b:AV} {ρ:List (Str×AV)} {G:List AO}
theorem wf_eq {c c':Fn Bool} {fb fb':FnS} {σ':Mine.St} (e:whileA c' fb' 100000 σ=some r) (h1:c=c') (h2:fb=fb') (h3:σ'=σ):whileA c fb NN σ'=some r:=by subst h1; subst h2; subst h3; exact e
theorem wcond {l:Nat} (hw:ρ.lookup (Str.ofString "waiting")=some (.loc l)) (h:H[l]? = some (.list ws)) (hz:ws.length<=1000000):ndC ρ H=some (decide ((0:Int)<ws.length),H):=by
 unfold ndC
 repeat' first|(show (_:Prop); with_reducible assumption)|delta v_call v_cons v_nil v_cst v_loc v_cmp v_len|exact rfl
theorem nd_step (hw:ρ.lookup (Str.ofString "waiting")=some (.loc (H.length+1))) (hz:ws.length<=1000000) (hp:0<ws.length) (e:ndB ⟨ρ,H++(.list fs::.list ws::G)⟩=some (.next,σ2)) (h:whileA ndC ndB n σ2=some r):whileA ndC ndB (n+1) ⟨ρ,H++(.list fs::.list ws::G)⟩=some r:=
 t_wh (wcond hw (l_tail rfl) hz) (t_whT (decide_eq_true (om149 hp hz)) e h)
theorem nd_end (hw:ρ.lookup (Str.ofString "waiting")=some (.loc (H.length+1))):whileA ndC ndB (n+1) ⟨ρ,H++(.list fs::.list []::G)⟩=some (.next,⟨ρ,H++(.list fs::.list []::G)⟩):=
 t_wh (wcond hw (l_tail rfl) (Nat.zero_le _)) (t_whF rfl)
theorem lk_ne {x y:String} (h:ρ.lookup (Str.ofString y)=some a) (hn:(decide (y=x))=false):((Str.ofString x,b)::ρ).lookup (Str.ofString y)=some a:=by rw [List.lookup_cons,ofS,hn]; exact h
theorem node_ref {t u q:Nat} {es:List (Str×AV)} (h1:H[t]? = some (.tup [.str "later",.loc u,.loc q])) (h2:H[u]? = some (.tup [.str "rem"])) (h3:H[q]? = some (.inst 117 es)):
  ∃ L,runB ["node"] [] d_things_in_node [.loc t] H=some (.loc H.length,H++(.list [.loc q]::L)):=by
 have z:∀ {m:Nat},m<=10->m<=1000000:=fun h=>Nat.le_trans h (by decide)
 have w0:([("found",.loc (H.length+0)),("waiting",.loc (H.length+1)),("node",.loc t)]:List (Str×AV)).lookup (Str.ofString "waiting")=some (.loc (H.length+1)):=by kernel_rfl
 have f0:([("found",.loc (H.length+0)),("waiting",.loc (H.length+1)),("node",.loc t)]:List (Str×AV)).lookup (Str.ofString "found")=some (.loc (H.length+0)):=by kernel_rfl
 have W:=nd_step (n:=99999) w0 (z (Nat.le_of_ble_eq_true rfl)) (Nat.le_of_ble_eq_true rfl) (nt_tup (fs:=[]) (ws:=[]) (G:=[.tup [.loc (H.length+0),.loc (H.length+1)]]) w0 f0 h1 (z (Nat.le_of_ble_eq_true rfl)) (z (Nat.le_of_ble_eq_true rfl)))
  (nd_step (n:=99998) (lk_ne w0 rfl) (z (Nat.le_of_ble_eq_true rfl)) (Nat.le_of_ble_eq_true rfl) (nt_ref (ws:=[.str "later",.loc u]) (lk_ne w0 rfl) (lk_ne f0 rfl) h3 (z (Nat.le_of_ble_eq_true rfl)) (Nat.zero_le _))
  (nd_step (n:=99997) (lk_ne (lk_ne w0 rfl) rfl) (z (Nat.le_of_ble_eq_true rfl)) (Nat.le_of_ble_eq_true rfl) (nt_tup (ws:=[.str "later"]) (lk_ne (lk_ne w0 rfl) rfl) (lk_ne (lk_ne f0 rfl) rfl) h2 (z (Nat.le_of_ble_eq_true rfl)) (z (Nat.le_of_ble_eq_true rfl)))
  (nd_step (n:=99996) (lk_ne (lk_ne (lk_ne w0 rfl) rfl) rfl) (z (Nat.le_of_ble_eq_true rfl)) (Nat.le_of_ble_eq_true rfl) (nt_str (ws:=[.str "later"]) (x:="rem") (lk_ne (lk_ne (lk_ne w0 rfl) rfl) rfl) (lk_ne (lk_ne (lk_ne f0 rfl) rfl) rfl) (z (Nat.le_of_ble_eq_true rfl)))
  (nd_step (n:=99995) (lk_ne (lk_ne (lk_ne (lk_ne w0 rfl) rfl) rfl) rfl) (z (Nat.le_of_ble_eq_true rfl)) (Nat.le_of_ble_eq_true rfl) (nt_str (ws:=[]) (x:="later") (lk_ne (lk_ne (lk_ne (lk_ne w0 rfl) rfl) rfl) rfl) (lk_ne (lk_ne (lk_ne (lk_ne f0 rfl) rfl) rfl) rfl) (z (Nat.le_of_ble_eq_true rfl)))
  (nd_end (n:=99994) (lk_ne (lk_ne (lk_ne (lk_ne (lk_ne w0 rfl) rfl) rfl) rfl) rfl))))))
 have F:=lk_ne (x:="part") (b:=.str "later") (lk_ne (x:="part") (b:=.str "rem") (lk_ne (x:="part") (b:=.loc u) (lk_ne (x:="part") (b:=.loc q) (lk_ne (x:="part") (b:=.loc t) f0 rfl) rfl) rfl) rfl) rfl
 apply Exists.intro
 apply t_fin
 ·apply v_run rfl
  unfold d_things_in_node
  repeat' first|delta v_swap|with_reducible refine wf_eq W (by kernel_rfl) (by kernel_rfl) (by kernel_rfl)|(show (_:Prop); with_reducible assumption)|delta v_seq v_cons v_nil v_loc t_tup t_list t_new v_sr v_sn v_ret|exact rfl|exact Nat.le_of_ble_eq_true rfl
 ·exact rfl
end
section
variable {φ φ':Nat->Nat} {ω ω':Tags} {N0:Nat} {H H' H1 H2 L M:List AO} {cells cells':List Cell} {σ σ2:Mine.St} {n k i j:Nat} {r:AF'×Mine.St} {xs ys ws fs:List AV} {v a b:AV} {ρ:List (Str×AV)} {G:List AO}
abbrev Prs:=List (Nat×AV×AV)
noncomputable def flatP (PL:Prs):List AV:=PL.flatMap fun p=>[p.2.1,p.2.2]
theorem RowsAt.pl {m:Nat} {rows:List (V×V)} {R:List RowR} (h:RowsAt φ ω H n m rows R):∃ PL:Prs,PL.map (·.1)=R.map (·.2.2)/\(∀ p∈PL,H[p.1]? = some (.list [p.2.1,p.2.2]))/\VVs φ H (rowsOf rows) (flatP PL):=by
 refine RowsAt.ind (P:=fun ZZ rows R=>∃ PL:Prs,PL.map (·.1)=R.map (·.2.2)/\(∀ p∈PL,H[p.1]? = some (.list [p.2.1,p.2.2]))/\VVs φ H (rowsOf rows) (flatP PL)) (fun ZZ=>⟨[],rfl,(by intro p hp; cases hp),trivial⟩) (fun m kv rows r R h1 ZZ ZZ ZZ ZZ ih=>?_) h
 refine ex2_3 h1 fun a b h1 h2 h3=>?_
 refine ex1_3 ih fun PL e1 e2 e3=>?_
 refine ⟨(r.2.2,a,b)::PL,by rw [List.map_cons,List.map_cons,e1],fun p hp=>?_,h2,h3,e3⟩
 rcases List.mem_cons.mp hp with e|hp
 ·rw [e]; exact h1
 ·exact e2 p hp
variable {nx:Nx}
theorem c_NN {fa:AV->Mine.St->Option Mine.St} {fc:Fn Bool} {fe:Fn AV} {d:Nat} {r:List AO} (h:compA nx fa fc fe ρ d 100000 i H=some r):compA nx fa fc fe ρ d NN i H=some r:=h
theorem inner2 {q:Nat} (hq:H[q]? = some (.list [a,b])) (hz:ys.length<=1000000) (hz2:(ys++[a]).length<=1000000):compA (nxList q) (aName "part") (fun ZZ H=>some (true,H)) (rdL "part") ρ (H.length+0) NN 0 (H++[.list ys])=some (H++[.list (ys++[a]++[b])]):=by
 apply c_NN
 with_reducible refine t_cturn (k:=0) (n_list (l_old hq) rfl) v_nm rfl (v_loc List.lookup_cons_self) rfl hz ?_
 with_reducible refine t_cturn (k:=0) (n_list (l_old hq) rfl) v_nm rfl (v_loc List.lookup_cons_self) rfl hz2 ?_
 exact c_over (n_listE2 (l_old hq) rfl)
variable {PL:Prs}
theorem outer2 (hn:∀ i p ys,PL[i]? = some p->nx i (H++[.list ys])=some (some (.loc p.1,H++[.list ys]))) (he:∀ ys,nx PL.length (H++[.list ys])=some none) (hp:∀ p∈PL,H[p.1]? = some (.list [p.2.1,p.2.2])):
  ∀ (k i:Nat) (ys:List AV),i<=PL.length->PL.length - i<k->ys.length+2 * (PL.length - i)<=999999->compA2 nx (aName "pair") (iList (rdL "pair")) (aName "part") (rdL "part") NN ρ H.length k i (H++[.list ys])=some (H++[.list (ys++flatP (PL.drop i))]):=by
 intro k
 induction k with
 |zero=>intro i ys _ h; omega
 |succ k ih=>
  intro i ys hi hk hz
  unfold compA2
  by_cases e:i=PL.length
  ·subst e
   rw [he,List.drop_length]
   show _=some (H++[.list (ys++[])])
   rw [List.append_nil]
  ·have hlt:i<PL.length:=om104 hi e
   have hg:=List.getElem?_eq_getElem hlt
   have hq:=hp _ (List.getElem_mem hlt)
   rw [hn i _ ys hg]
   have e1:iList (rdL (Str.ofString "pair")) ((Str.ofString "pair",AV.loc PL[i].1)::ρ) (H++[.list ys])=some (nxList PL[i].1,H++[.list ys]):=i_list (v_loc List.lookup_cons_self) (l_old hq)
   have e2:=inner2 (ρ:=(Str.ofString "pair",AV.loc PL[i].1)::ρ) (ys:=ys) hq (om185 hz) (by rw [List.length_append,List.length_singleton]; exact om206 hz)
   rw [Nat.add_zero] at e2
   simp only [aName,e1,e2]
   rw [ih (i+1) _ (om64 hlt) (om243 hk hlt e) (by simp only [List.length_append,List.length_singleton]; exact om280 hz hlt e),List.drop_eq_getElem_cons hlt]
   show _=some (H++[.list (ys++([PL[i].2.1,PL[i].2.2]++flatP (PL.drop (i+1))))])
   rw [List.append_assoc,List.append_assoc]; rfl
theorem comp2 {fi:FnI} (hi:fi ρ H=some (nx,H1)) (hn:∀ i p ys,PL[i]? = some p->nx i (H1++[.list ys])=some (some (.loc p.1,H1++[.list ys]))) (he:∀ ys,nx PL.length (H1++[.list ys])=some none) (hp:∀ p∈PL,H1[p.1]? = some (.list [p.2.1,p.2.2])) (hz:PL.length<=90000):
  compF2 NN fi (aName "pair") (iList (rdL "pair")) (aName "part") (rdL "part") ρ H=some (.loc H1.length,H1++[.list (flatP PL)]):=by
 unfold compF2
 rw [hi]
 have:=outer2 (ρ:=resK [] ρ) hn he hp NN 0 [] (Nat.zero_le _) (by show PL.length - 0<100000; exact om67 hz) (by simp only [List.length_nil]; exact om119 hz)
 rw [List.drop_zero,List.nil_append] at this
 simp only [this]
variable {l:Nat} {es:List (List KE×Nat×AV)}
theorem i_vals {f:Fn AV} (h:f ρ H=some (.loc l,H1)) (hl:H1[l]? = some (dOf es)):iVals f ρ H=some (nxVals l es.length,H1):=by
 unfold iVals
 rw [h,bnd_mk]
 cases es <;> simp only [hl,dOf] <;> rfl
theorem n_vals {e:List KE×Nat×AV} (hl:H[l]? = some (dOf es)) (hx:es[i]? = some e):nxVals l es.length i H=some (some (e.2.2,H)):=by
 unfold nxVals
 cases es with
 |nil=>exact ns hx
 |cons a r=>simp only [hl,dOf,if_true,hx]
theorem n_valsE (hl:H[l]? = some (dOf es)):nxVals l es.length es.length H=some none:=by
 unfold nxVals
 cases es with
 |nil=>simp only [hl,dOf]; rfl
 |cons a r=>
  have:(a::r)[(a::r).length]? = none:=by simp
  simp only [hl,dOf,this,if_true]
theorem tabE_get2:∀ {rows:List (V×V)} {R:List RowR} {i:Nat} {r:RowR},R.length=rows.length->R[i]? = some r->∃ ks,(tabE rows R)[i]? = some (ks,r.1,.loc r.2.2)
 |_::_,_::_,0,_,_,h=>by obtain rfl:=so h; exact ⟨_,rfl⟩
 |_::_,_::_,i+1,_,e,h=>tabE_get2 (i:=i) (Nat.succ.inj e) h
 |_,[],_,_,_,h=>by exact ns h
noncomputable def thingsW (cells:List Cell):V->List V
 |.s _=>[]
 |.h n=>partsN cells n
 |.r _ n _=>[.h n]
 |.p b n i=>[.r b n i]
theorem ti_s {x:Str}:runB ["value"] [] d_things_in [.str x] H=some (.loc H.length,H++[.list []]):=by
 apply v_run rfl
 unfold d_things_in
 repeat' first|delta v_seq v_if v_val v_call v_cons v_nil v_cst v_loc v_list v_isi v_sr v_sn v_skip v_ret v_ife|with_reducible apply v_kF (by first|decide +kernel|(delta v_gd v_gnT v_gnF; assumption))|with_reducible apply v_eF (by first|decide +kernel|(delta v_gd v_gnT v_gnF; assumption))|exact rfl|exact Nat.le_of_ble_eq_true rfl
variable {es:List (Str×AV)}
theorem ti_r {o:Nat} (h:H[j]? = some (.inst 117 es)) (h2:es.lookup (Str.ofString "owner")=some (.loc o)):runB ["value"] [] d_things_in [.loc j] H=some (.loc H.length,H++[.list [.loc o]]):=by
 apply v_run rfl
 unfold d_things_in
 repeat' first|(show (_:Prop); with_reducible assumption)|delta v_seq v_if v_val v_call v_cons v_nil v_cst v_attr v_loc v_list v_isi v_tyI v_sr v_sn v_skip v_ret v_ife v_cmp|with_reducible apply v_kT (by first|decide +kernel|(delta v_gd v_gnT v_gnF; assumption))|with_reducible apply v_kF (by first|decide +kernel|(delta v_gd v_gnT v_gnF; assumption))|with_reducible apply v_eF (by first|decide +kernel|(delta v_gd v_gnT v_gnF; assumption))|exact rfl|exact Nat.le_of_ble_eq_true rfl
theorem ti_p {t:Nat} (h:H[j]? = some (.inst 54 es)) (h2:es.lookup (Str.ofString "node")=some (.loc t)) (e:runB ["node"] [] d_things_in_node [.loc t] H=some (.loc l,H')):runB ["value"] [] d_things_in [.loc j] H=some (.loc l,H'):=by
 apply v_run rfl
 unfold d_things_in
 repeat' first|(show (_:Prop); with_reducible assumption)|delta v_seq v_if v_val v_call v_cons v_nil v_cst v_attr v_loc v_isi v_tyI v_sr v_sn v_skip v_ret v_ife|with_reducible apply v_kF (by first|decide +kernel|(delta v_gd v_gnT v_gnF; assumption))|with_reducible apply v_eT (by first|decide +kernel|(delta v_gd v_gnT v_gnF; assumption))|exact rfl
theorem ti_a (h:H[j]? = some (.inst 208 es)) (h2:es.lookup (Str.ofString "items")=some (.loc l)):runB ["value"] [] d_things_in [.loc j] H=some (.loc l,H):=by
 apply v_run rfl
 unfold d_things_in
 repeat' first|(show (_:Prop); with_reducible assumption)|delta v_seq v_if v_val v_call v_cons v_nil v_cst v_attr v_loc v_isi v_tyI v_sr v_ret|with_reducible apply v_kT (by first|decide +kernel|(delta v_gd v_gnT v_gnF; assumption))|exact rfl
theorem ti_d (h:H[j]? = some (.inst 246 es)) (h2:es.lookup (Str.ofString "values")=some (.loc l)):runB ["value"] [] d_things_in [.loc j] H=some (.loc l,H):=by
 apply v_run rfl
 unfold d_things_in
 repeat' first|(show (_:Prop); with_reducible assumption)|delta v_seq v_if v_val v_call v_cons v_nil v_cst v_attr v_loc v_isi v_tyI v_sr v_sn v_skip v_ret|with_reducible apply v_kT (by first|decide +kernel|(delta v_gd v_gnT v_gnF; assumption))|with_reducible apply v_kF (by first|decide +kernel|(delta v_gd v_gnT v_gnF; assumption))|exact rfl
theorem ti_t {e:Nat} {E:List (List KE×Nat×AV)} (h:H[j]? = some (.inst 227 es)) (h2:es.lookup (Str.ofString "entries")=some (.loc e)) (h3:H[e]? = some (dOf E)) (hn:∀ i p ys,PL[i]? = some p->nxVals e E.length i (H++[.list ys])=some (some (.loc p.1,H++[.list ys]))) (he:∀ ys,nxVals e E.length PL.length (H++[.list ys])=some none)
  (hp:∀ p∈PL,H[p.1]? = some (.list [p.2.1,p.2.2])) (hz:PL.length<=90000):runB ["value"] [] d_things_in [.loc j] H=some (.loc H.length,H++[.list (flatP PL)]):=by
 have c:∀ ρ,ρ.lookup (Str.ofString "value")=some (.loc j)->compF2 NN (iVals (aF "entries" (rdL "value"))) (aName "pair") (iList (rdL "pair")) (aName "part") (rdL "part") ρ H=some (.loc H.length,H++[.list (flatP PL)]):=fun ρ hρ=>comp2 (i_vals (v_attr (v_loc hρ) h tg_227_entries h2 rfl) h3) hn he hp hz
 apply v_run rfl
 unfold d_things_in
 repeat' first|delta c|(show (_:Prop); with_reducible assumption)|delta v_seq v_if v_val v_call v_cons v_nil v_cst v_loc v_isi v_tyI v_sr v_sn v_skip v_ret|with_reducible apply v_kT (by first|decide +kernel|(delta v_gd v_gnT v_gnF; assumption))|with_reducible apply v_kF (by first|decide +kernel|(delta v_gd v_gnT v_gnF; assumption))|exact rfl
theorem things_ok (W:HW φ ω N0 H cells) {v:V} (hv:VV φ H v a) (ok:okV cells v) {B:Nat} (S:Small cells B) (hB:B<=9000):
  ∃ l t xs,runB ["value"] [] d_things_in [a] H=some (.loc l,H++t)/\(H++t)[l]? = some (.list xs)/\VVs φ (H++t) (thingsW cells v) xs:=by
 cases v with
 |s x=>cases hv; exact ⟨_,_,[],ti_s,l_new,trivial⟩
 |r b n i=>
  obtain ⟨j,rfl,es,h1,h2,h3,h4⟩:=hv
  exact ⟨_,_,_,ti_r h1 h3,l_new,rfl,trivial⟩
 |p b n i=>
  obtain ⟨j,es,t,u,q,rfl,h1,h2,h3,h4,rf⟩:=hv
  obtain ⟨er,r1,_⟩:=id rf
  refine ex1_1 (node_ref h3 h4 r1) fun L e=>?_
  exact ⟨_,_,_,ti_p h1 h2 e,l_tail (k:=0) rfl,⟨q,rfl,rf.keep .ext rfl⟩,trivial⟩
 |h n=>
  cases hv
  obtain ⟨cn,hc⟩:∃ cn,cells[n]? = some cn:=⟨_,List.getElem?_eq_getElem (show n<cells.length from ok)⟩
  have Cn:=W.cell n _ hc
  show ∃ l t xs,_/\_/\VVs φ (H++t) (partsN cells n) xs
  unfold partsN
  rw [hc]
  show ∃ l t xs,_/\_/\VVs φ (H++t) (partsC cn) xs
  cases cn with
  |arr vs=>
   obtain ⟨eo,l,b,t,xs,I,k2,k3,k4,k5,k6,k7,k8,k9,k10,k11⟩:=Cn
   exact ⟨l,[],xs,by rw [List.append_nil]; exact ti_a I.at' k7,by rw [List.append_nil]; exact k8,by rw [List.append_nil]; exact k10⟩
  |dat vs=>
   obtain ⟨eo,l,b,xs,I,k3,k4,k5,k7,k8,k9,k10,k11⟩:=Cn
   exact ⟨l,[],xs,by rw [List.append_nil]; exact ti_d I.at' k7,by rw [List.append_nil]; exact k8,by rw [List.append_nil]; exact k10⟩
  |tab rows=>
   obtain ⟨eo,e,p,w,R,I,k1,k2,k3,k4,k5,k6,k7,k8,k9,k10,k11,k12⟩:=Cn
   refine ex1_3 (k10.pl) fun PL p1 p2 p3=>?_
   have len:=k10.len
   have pl:PL.length=R.length:=by simpa using congrArg List.length p1
   have el:=tabE_leneq len
   have sz:rows.length<=B:=S n _ hc
   refine ⟨_,_,_,ti_t I.at' k1 k4 (PL:=PL) (fun i q ys hq=>?_) (fun ys=>?_) p2 (om262 pl len sz hB el),l_new,p3.keep .ext fun ZZ ZZ ZZ ZZ=>rfl⟩
   ·have hR:(R.map (·.2.2))[i]? = some q.1:=by rw [<- p1,List.getElem?_map,hq]; rfl
    refine ex1_2 (Option.map_eq_some_iff.mp (by rw [List.getElem?_map] at hR; exact hR)) fun r hr hr2=>?_
    refine ex1_1 (tabE_get2 len hr) fun ks hE=>?_
    rw [n_vals (l_old k4) hE,hr2]
   ·rw [pl,len,<- el]; exact n_valsE (l_old k4)
end
noncomputable def rcB:FnS:=(sSeq (sAsg "value" (methF popC (rdL "waiting") esNil)) (sSeq (sIf (vB (callF (isiA isT) (esCons (rdL "value") (esCons (cst (.glob (.ref 138))) esNil)))) (sSeq (sIf (cmpF (aF "number" (rdL "value")) (rdL "met") inA) (sSeq sCont sSkip) sSkip) (sSeq (sSetA (inT tS) "mark" (cst (.int 1)) (rdL "value")) (sSeq (sPut (cst (.bool true)) (rdL "met") (aF "number" (rdL "value"))) sSkip))) sSkip) (sSeq (sExpr (methF extendC (rdL "waiting") (esCons (callF (runB ["value"] [] d_things_in) (esCons (rdL "value") esNil)) esNil))) sSkip)))
section
variable {φ φ':Nat->Nat} {ω ω':Tags} {N0:Nat} {H H' H1 H2 L M:List AO} {cells cells':List Cell} {σ σ2:Mine.St} {n k i j q m l:Nat} {xs ys ws fs:List AV} {v a b:AV} {ρ:List (Str×AV)} {es:List (Int×AV)} {o o':AO}
theorem HW.set0 (W:HW φ ω N0 H cells) (hq:H[q]? = some o) (hs:¬ Stab o) (h0:ω q=(0,0,0)):HW φ ω N0 (H.set q o') cells:=
 W.frame (.set hq hs) (fun i oi hi ht=>l_ne (fun e=>by rw [<- e,h0] at ht; exact absurd ht.1 (by decide)) hi) (by simp)
noncomputable def dI:List (Int×AV)->AO
 |[]=>.dnil
 |es=>.dint es
theorem dI_snoc {x:Int×AV}:dI (es++[x]) = .dint (es++[x]):=by cases es <;> rfl
theorem dI_stab:¬ Stab (dI es):=by cases es <;> exact fun h=>h
theorem dI_in {k:Int} (h:H[m]? = some (dI es)):inA (.int k) (.loc m) H=some (es.lookup k).isSome:=by
 unfold inA
 cases es <;> simp only [h,dI] <;> rfl
theorem dI_notin {k:Int} (h:H[m]? = some (dI es)):notInA (.int k) (.loc m) H=some !(es.lookup k).isSome:=by
 unfold notInA
 cases es <;> simp only [h,dI] <;> rfl
theorem any_lookup {k:Int}:∀ {es:List (Int×AV)},es.lookup k=none->(es.any fun e=>decide (e.1=k))=false
 |[],_=>rfl
 |(x,y)::r,h=>by
  rw [List.lookup_cons] at h
  by_cases e:k=x
  ·subst e; simp at h
  ·have:(k == x)=false:=by simpa using e
   rw [this] at h
   rw [List.any_cons,any_lookup h]
   simp [Ne.symm e]
theorem dI_put {k:Int} (h:H[m]? = some (dI es)) (hk:es.lookup k=none) (hz:es.length<=1000000):putItem (.loc m) (.int k) v H=some (H.set m (dI (es++[(k,v)]))):=by
 rw [dI_snoc]
 unfold putItem
 cases es with
 |nil=>simp only [h,dI]; rfl
 |cons e r=>
  have:=any_lookup hk
  simp only [h,dI]
  rw [if_pos hz]
  unfold putK
  rw [this]; rfl
theorem InstAt.setMark {n:Nat} {C C':Addr} {word:Str} {es es':List (Str×AV)} {k:Int} (h:InstAt φ ω H n C word es) (at':H[φ n]? = some (.inst C' es')):InstAt φ ω (H.set (φ n) (.inst C' (putA "mark" (.int k) es'))) n C word (putA "mark" (.int k) es)/\es'=es:=by
 have e:=h.at'
 rw [at'] at e
 obtain ⟨rfl,rfl⟩:=AO.inst.inj (so e)
 refine ex1_1 (h.mark) fun m hm=>?_
 exact ⟨⟨l_set at',h.tag,by rw [putA_ne (sne (by decide))]; exact h.word,by rw [putA_ne (sne (by decide))]; exact h.number,⟨k,putA_eq⟩,by rw [putA_len,if_pos (by rw [hm]; rfl)]; exact h.size⟩,rfl⟩
theorem CellAt.mark {n:Nat} {c:Cell} {C:Addr} {es:List (Str×AV)} {k:Int} (h:CellAt φ ω H n c) (at':H[φ n]? = some (.inst C es)) (hs:¬ Stab (.inst C es)):CellAt φ ω (H.set (φ n) (.inst C (putA "mark" (.int k) es))) n c:=by
 have K:KeepS H (H.set (φ n) (.inst C (putA "mark" (.int k) es))):=.set at' hs
 have ne:∀ {i:Nat} {o:AO},H[i]? = some o->(∀ C es,o≠.inst C es)->(H.set (φ n) (.inst C (putA "mark" (.int k) es)))[i]? = some o:=fun hi ho=>l_ne (fun e=>ho _ _ (by rw [<- e,at'] at hi; exact (Option.some.inj hi).symm)) hi
 cases c with
 |arr vs=>
  obtain ⟨eo,l,b,t,xs,I,k2,k3,k4,k5,k6,k7,k8,k9,k10,k11⟩:=h
  refine ex0_2 (I.setMark (k:=k) at') fun I' ZZ=>?_
  exact ⟨_,l,b,t,xs,I',by rw [putA_ne (sne (by decide))]; exact k2,by rw [putA_ne (sne (by decide))]; exact k3,ne k4 (fun ZZ ZZ h=>by cases h),k5,K _ _ k6 trivial,by rw [putA_ne (sne (by decide))]; exact k7,ne k8 (fun ZZ ZZ h=>by cases h),k9,k10.keep K fun ZZ ZZ ZZ ZZ=>rfl,k11⟩
 |dat vs=>
  obtain ⟨eo,l,b,xs,I,k3,k4,k5,k7,k8,k9,k10,k11⟩:=h
  refine ex0_2 (I.setMark (k:=k) at') fun I' ZZ=>?_
  exact ⟨_,l,b,xs,I',by rw [putA_ne (sne (by decide))]; exact k3,ne k4 (fun ZZ ZZ h=>by cases h),k5,by rw [putA_ne (sne (by decide))]; exact k7,ne k8 (fun ZZ ZZ h=>by cases h),k9,k10.keep K fun ZZ ZZ ZZ ZZ=>rfl,k11⟩
 |tab rows=>
  obtain ⟨eo,e,p,w,R,I,k1,k2,k3,k4,k5,k6,k7,k8,k9,k10,k11,k12⟩:=h
  refine ex0_2 (I.setMark (k:=k) at') fun I' ZZ=>?_
  have nd:∀ {E} (C:Addr) (es:List (Str×AV)),dOf E≠.inst C es:=fun {E} _ _ h=>by cases E <;> cases h
  exact ⟨_,e,p,w,R,I',by rw [putA_ne (sne (by decide))]; exact k1,by rw [putA_ne (sne (by decide))]; exact k2,by rw [putA_ne (sne (by decide))]; exact k3,ne k4 nd,k5,ne k6 nd,k7,ne k8 (fun ZZ ZZ h=>by cases h),k9,
   k10.keep2 K fun i o j hi ht ZZ=>l_ne (fun e=>by rw [<- e,I.tag] at ht; cases ht) hi,k11,k12⟩
theorem HW.mark (W:HW φ ω N0 H cells) {C:Addr} {es:List (Str×AV)} {k:Int} (hn:n<cells.length) (at':H[φ n]? = some (.inst C es)) (hs:¬ Stab (.inst C es)) (ht:ω (φ n)=(1,n,0)):HW φ ω N0 (H.set (φ n) (.inst C (putA "mark" (.int k) es))) cells:=by
 have K:KeepS H (H.set (φ n) (.inst C (putA "mark" (.int k) es))):=.set at' hs
 refine ⟨fun m c hc=>?_,W.low,by rw [List.length_set]; exact W.len,by rw [List.length_set]; exact W.hi⟩
 by_cases e:m=n
 ·subst e; exact (W.cell m c hc).mark at' hs
 ·exact (W.cell m c hc).keep K (fun i o hi f=>l_ne (fun q=>by subst q; rw [ht] at f; rcases f with f|f; exact e f.2.2.symm; exact absurd (show (1:Nat)=7 from f) (by decide)) hi) (fun ZZ ZZ=>rfl) rfl fun ZZ ZZ ZZ ZZ=>rfl
section
variable (hw:ρ.lookup (Str.ofString "waiting")=some (.loc q)) (hm:ρ.lookup (Str.ofString "met")=some (.loc m))
include hw hm
theorem rb_old {C:Addr} {es0:List (Str×AV)} {o:Nat} {z:Int} (hq:H[q]? = some (.list (xs++[.loc o]))) (hz:xs.length<1000000) (ho:(H.set q (.list xs))[o]? = some (.inst C es0)) (hC:isT (.ref C) (.ref 138)=some true) (hG:inT tG C (Str.ofString "number")=true) (hN:es0.lookup (Str.ofString "number")=some (.int z))
  (hd:(H.set q (.list xs))[m]? = some (dI es)) (hin:(es.lookup z).isSome=true):rcB ⟨ρ,H⟩=some (.cont,⟨(Str.ofString "value",.loc o)::ρ,H.set q (.list xs)⟩):=by
 have hm':=lk_ne (x:="value") (b:=.loc o) hm rfl
 have hv':((Str.ofString "value",AV.loc o)::ρ).lookup (Str.ofString "value")=some (.loc o):=List.lookup_cons_self
 clear hm
 unfold rcB
 repeat' first|delta v_pop dI_in|with_reducible apply v_kT hin|(show (_:Prop); with_reducible assumption)|delta v_seq v_if v_val v_call v_cons v_nil v_cst v_attr v_loc v_isi v_asg v_tyI v_sn v_sc v_cmp v_meth v_isL|with_reducible apply v_kT (by first|decide +kernel|(delta v_gd v_gnT v_gnF; assumption))|exact rfl|(with_reducible apply v_is; assumption)
theorem rb_new {C:Addr} {es0:List (Str×AV)} {o:Nat} {z:Int} (hq:H[q]? = some (.list (xs++[.loc o]))) (hz:xs.length<1000000) (ho:(H.set q (.list xs))[o]? = some (.inst C es0)) (hC:isT (.ref C) (.ref 138)=some true) (hG:inT tG C (Str.ofString "number")=true) (hS:inT tS C (Str.ofString "mark")=true) (hN:es0.lookup (Str.ofString "number")=some (.int z))
  (hN2:(putA "mark" (.int 1) es0).lookup (Str.ofString "number")=some (.int z)) (hz0:es0.length<=100)
  (hd:(H.set q (.list xs))[m]? = some (dI es)) (hin:es.lookup z=none) (hin2:(es.lookup z).isSome=false) (hze:es.length<=1000000) (no:o≠m) (nm:m≠o) (noq:o≠q) (nmq:m≠q) (hT:runB ["value"] [] d_things_in [.loc o] (((H.set q (.list xs)).set o (.inst C (putA "mark" (.int 1) es0))).set m (dI (es++[(z,.bool true)])))=some (.loc l,H'))
  (hq':H'[q]? = some (.list xs)) (hl:H'[l]? = some (.list ys)) (hz2:xs.length+ys.length<=1000000):rcB ⟨ρ,H⟩=some (.next,⟨(Str.ofString "value",.loc o)::ρ,H'.set q (.list (xs++ys))⟩):=by
 have hm':=lk_ne (x:="value") (b:=.loc o) hm rfl
 have hw':=lk_ne (x:="value") (b:=.loc o) hw rfl
 have hv':((Str.ofString "value",AV.loc o)::ρ).lookup (Str.ofString "value")=some (.loc o):=List.lookup_cons_self
 clear hm
 unfold rcB
 repeat' first|delta v_pop dI_in|with_reducible apply v_kF hin2|delta dI_put l_set|with_reducible apply l_ne (by assumption)|delta v_ext v_sqL|(show (_:Prop); with_reducible assumption)|delta v_seq v_if v_val v_call v_cons v_nil v_cst v_attr v_loc v_isi v_asg v_tyI v_sn v_skip v_put v_expr v_set v_cmp v_meth v_isL|with_reducible apply v_kT (by first|decide +kernel|(delta v_gd v_gnT v_gnF; assumption))|exact rfl|(with_reducible apply v_is; assumption)
theorem rb_oth {t:Value} (hq:H[q]? = some (.list (xs++[v]))) (hz:xs.length<1000000) (ht:typA v (H.set q (.list xs))=some t) (hC:isT t (.ref 138)=some false) (hT:runB ["value"] [] d_things_in [v] (H.set q (.list xs))=some (.loc l,H'))
  (hq':H'[q]? = some (.list xs)) (hl:H'[l]? = some (.list ys)) (hz2:xs.length+ys.length<=1000000):rcB ⟨ρ,H⟩=some (.next,⟨(Str.ofString "value",v)::ρ,H'.set q (.list (xs++ys))⟩):=by
 have hw':=lk_ne (x:="value") (b:=v) hw rfl
 have hv':((Str.ofString "value",v)::ρ).lookup (Str.ofString "value")=some v:=List.lookup_cons_self
 unfold rcB
 repeat' first|delta v_pop l_set v_ext v_sqL|(show (_:Prop); with_reducible assumption)|delta v_seq v_if v_val v_call v_cons v_nil v_cst v_loc v_isi v_asg v_sn v_skip v_expr v_meth v_isL|with_reducible apply v_kF (by first|decide +kernel|(delta v_gd v_gnT v_gnF; assumption))|(with_reducible apply v_is; assumption)
end
end
section
variable {φ φ':Nat->Nat} {ω ω':Tags} {N0:Nat} {H H0 H' H1 H2 L M:List AO} {cells cells':List Cell} {σ σ2:Mine.St} {n k i j q m l:Nat} {xs ys:List AV} {ws rest:List V} {met res:List Nat} {v:V} {a b:AV} {ρ:List (Str×AV)} {es:List (Int×AV)} {o o':AO}
def MarkIs (φ:Nat->Nat) (H:List AO) (n:Nat) (k:Int):Prop:=∃ C es,H[φ n]? = some (.inst C es)/\es.lookup (Str.ofString "mark")=some (.int k)
noncomputable def metE (met:List Nat):List (Int×AV):=met.map fun n:Nat=>((n:Int)+1,.bool true)
theorem met_in:∀ {met:List Nat},((metE met).lookup ((n:Int)+1)).isSome=decide (n∈met)
 |[]=>rfl
 |x::r=>by
  show (List.lookup ((n:Int)+1) (((x:Int)+1,AV.bool true)::metE r)).isSome=_
  rw [List.lookup_cons]
  by_cases e:n=x
  ·subst e; simp
  ·have:(((n:Int)+1) == ((x:Int)+1))=false:=by simp; exact om193 e
   rw [this,met_in]; simp [e]
theorem metE_snoc:metE (met++[n])=metE met++[((n:Int)+1,.bool true)]:=by unfold metE; rw [List.map_append]; rfl
theorem wt_pos:1<=wtV v:=by cases v <;> exact Nat.le_of_ble_eq_true rfl
theorem wts_len:∀ {ws:List V},ws.length<=wts ws
 |[]=>Nat.le_refl _
 |v::r=>by
  have:=wts_len (ws:=r)
  have:=wt_pos (v:=v)
  show r.length+1<=(wtV v::r.map wtV).sum
  rw [List.sum_cons]; unfold wts at *; exact om165 this (by assumption)
theorem wts_one:wts [v]=wtV v:=by simp [wts]
theorem turn_dec (ok:okV cells v):wts (turnW cells v rest met).1+restW cells (turnW cells v rest met).2<wts (rest++[v])+restW cells met/\(turnW cells v rest met).2.length<=met.length+1:=by
 rw [wts_append,wts_one]
 cases v with
 |s x=>exact ⟨by show wts rest+restW cells met<wts rest+1+restW cells met; exact om76,Nat.le_succ _⟩
 |r b n i=>exact ⟨by show wts (rest++[.h n])+restW cells met<wts rest+2+restW cells met; rw [wts_append,wts_one]; show wts rest+1+_<_; exact om108,Nat.le_succ _⟩
 |p b n i=>exact ⟨by show wts (rest++[.r b n i])+restW cells met<wts rest+3+restW cells met; rw [wts_append,wts_one]; show wts rest+2+_<_; exact om110,Nat.le_succ _⟩
 |h n=>
  have hn:n<cells.length:=ok
  have ht:turnW cells (.h n) rest met=if n∈met then (rest,met) else (rest++partsN cells n,met++[n]):=rfl
  rw [ht]
  by_cases e:n∈met
  ·rw [if_pos e]; exact ⟨by show wts rest+restW cells met<wts rest+1+restW cells met; exact om76,Nat.le_succ _⟩
  ·rw [if_neg e]
   have:=restW_met hn e
   exact ⟨by show wts (rest++partsN cells n)+restW cells (met++[n])<wts rest+1+restW cells met; rw [wts_append]; exact om219 this,by simp⟩
theorem turn_ok (O:OkC cells) (okr:∀ u∈rest,okV cells u) (ok:okV cells v):∀ u∈(turnW cells v rest met).1,okV cells u:=by
 intro u hu
 cases v with
 |s x=>exact okr u hu
 |r b n i=>exact (List.mem_append.mp hu).elim (okr u) fun h=>by rw [List.mem_singleton.mp h]; exact okV.num ok n rfl
 |p b n i=>exact (List.mem_append.mp hu).elim (okr u) fun h=>by rw [List.mem_singleton.mp h]; exact ok
 |h n=>
  have hu:u∈(if n∈met then (rest,met) else (rest++partsN cells n,met++[n])).1:=hu
  by_cases e:n∈met
  ·rw [if_pos e] at hu; exact okr u hu
  ·rw [if_neg e] at hu
   refine (List.mem_append.mp hu).elim (okr u) fun h=>?_
   unfold partsN at h
   split at h
   ·rename_i c hc; exact O n c hc u h
   ·cases h
theorem walk_turn:walkW cells (k+1) (rest++[v]) met=walkW cells k (turnW cells v rest met).1 (turnW cells v rest met).2:=by
 rw [walkW,List.getLast?_concat,List.dropLast_concat]
structure RS (φ:Nat->Nat) (ω:Tags) (N0:Nat) (cells:List Cell) (H0:List AO) (q m:Nat) (mk:Nat->Int) (ws:List V) (met:List Nat) (H:List AO):Prop where
 hw:HW φ ω N0 H cells
 chg:Chg ω H0 H
 wait:∃ xs,H[q]? = some (.list xs)/\VVs φ H ws xs
 meet:H[m]? = some (dI (metE met))
 mark:∀ n,n<cells.length->MarkIs φ H n (if n∈met then 1 else mk n)
theorem Chg.set0 (C:Chg ω H0 H) (h0:H0.length<=q):Chg ω H0 (H.set q o'):=
 ⟨fun i o h s=>l_ne (by have:=getElem?_lt h; exact om123 this h0) (C.stab i o h s),fun i o h t=>l_ne (by have:=getElem?_lt h; exact om123 this h0) (C.rest i o h t),by rw [List.length_set]; exact C.len⟩
variable {t:List AO}
theorem Chg.more (C:Chg ω H0 H):Chg ω H0 (H++t):=⟨fun i o h s=>l_old (C.stab i o h s),fun i o h t=>l_old (C.rest i o h t),by rw [List.length_append]; have:=C.len; exact om95 this⟩
theorem VVs.snoc {rest:List V} {xs:List AV} (h:VVs φ H (rest++[v]) xs):∃ ys a,xs=ys++[a]/\VVs φ H rest ys/\VV φ H v a:=by
 induction rest generalizing xs with
 |nil=>cases xs with
  |nil=>exact h.elim
  |cons a xs=>cases xs with
   |nil=>exact ⟨[],a,rfl,trivial,h.1⟩
   |cons _ _=>exact h.2.elim
 |cons u rest ih=>cases xs with
  |nil=>exact h.elim
  |cons x xs=>exact ex2_3 (ih h.2) fun ys a e h1 h2=>⟨x::ys,a,by rw [e]; rfl,⟨h.1,h1⟩,h2⟩
variable {k:Int}
theorem MarkIs.set0 (h:MarkIs φ H n k) (W:HW φ ω N0 H cells) (hn:n<cells.length) (h0:ω q=(0,0,0)):MarkIs φ (H.set q o') n k:=by
 obtain ⟨C,es,h1,h2⟩:=h
 refine ex2_2 (holder_at (W.cell n _ (List.getElem?_eq_getElem hn))) fun ZZ ZZ I ZZ=>?_
 exact ⟨C,es,l_ne (fun e=>by have:=I.tag; rw [<- e,h0] at this; cases this) h1,h2⟩
theorem MarkIs.more (h:MarkIs φ H n k):MarkIs φ (H++t) n k:=let ⟨C,es,h1,h2⟩:=h; ⟨C,es,l_old h1,h2⟩
theorem VV.typ2 (W:HW φ ω N0 H cells) (hv:VV φ H v a) (h:∀ n,v≠.h n):∃ t,typA a H=some t/\isT t (.ref 138)=some false:=by
 cases v with
 |s x=>cases hv; exact ⟨_,rfl,ti_str_138⟩
 |r b n i=>obtain ⟨j,rfl,es,h1,_⟩:=hv; exact ⟨_,v_tyI h1,ti_117_138⟩
 |p b n i=>obtain ⟨j,es,t,u,q,rfl,h1,_⟩:=hv; exact ⟨_,v_tyI h1,ti_54_138⟩
 |h n=>exact absurd rfl (h n)
theorem reach_oth (O:OkC cells) {B:Nat} (Sm:Small cells B) (hB:B<=9000) {mk:Nat->Int} (S:RS φ ω N0 cells H0 q m mk (rest++[v]) met H) (hq0:ω q=(0,0,0)) (hqL:H0.length<=q) (hqm:q≠m) (hw:ρ.lookup (Str.ofString "waiting")=some (.loc q)) (hm:ρ.lookup (Str.ofString "met")=some (.loc m)) (ok:okV cells v) (hv:∀ n,v≠.h n)
  (hz:wts (rest++[v])<=90000) (hz2:wts (rest++thingsW cells v)<=90000):∃ a H',rcB ⟨ρ,H⟩=some (.next,⟨(Str.ofString "value",a)::ρ,H'⟩)/\RS φ ω N0 cells H0 q m mk (rest++thingsW cells v) met H':=by
 refine ex1_2 (S.wait) fun xs0 hx hvv=>?_
 refine ex2_3 (hvv.snoc) fun xs a zz2 h1 h2=>?_; subst zz2
 have W1:=S.hw.set0 (o':=.list xs) hx nostab hq0
 have K1:KeepS H (H.set q (.list xs)):=.set hx nostab
 refine ex3_3 (things_ok W1 (h2.keep K1 fun ZZ ZZ=>rfl) ok Sm hB) fun l t ys run hl hy=>?_
 refine ex1_2 (VV.typ2 W1 (h2.keep K1 fun ZZ ZZ=>rfl) hv) fun ty ht hT=>?_
 have hq1:(H.set q (.list xs)++t)[q]? = some (.list xs):=l_old (l_set hx)
 have e1:=h1.len
 have e2:=hy.len
 have l1:=wts_len (ws:=rest++[v])
 have l2:=wts_len (ws:=rest++thingsW cells v)
 simp only [List.length_append,List.length_singleton] at l1 l2
 refine ⟨a,_,rb_oth hw hm hx (om214 l1 hz e1) ht hT run hq1 hl (om266 l2 hz2 e1 e2),?_⟩
 have W2:=(W1.ext (t:=t)).set0 (o':=.list (xs++ys)) hq1 nostab hq0
 have K2:KeepS (H.set q (.list xs)++t) ((H.set q (.list xs)++t).set q (.list (xs++ys))):=.set hq1 nostab
 exact ⟨W2,(S.chg.set0 hqL).more.set0 hqL,⟨_,l_set hq1,((h1.keep (K1.trans .ext) fun ZZ ZZ ZZ ZZ=>rfl).append hy).keep K2 fun ZZ ZZ ZZ ZZ=>rfl⟩,l_ne hqm (l_old (l_ne hqm S.meet)),fun n hn=>((S.mark n hn).set0 S.hw hn hq0).more.set0 W1.ext hn hq0⟩
end
section
variable {φ φ':Nat->Nat} {ω ω':Tags} {N0:Nat} {H H0 H' H1 H2 L M:List AO} {cells cells':List Cell} {σ σ2:Mine.St} {n k i j q m l:Nat} {xs ys:List AV} {ws rest:List V} {met res:List Nat} {v:V} {a b:AV} {ρ:List (Str×AV)} {es:List (Int×AV)} {o o':AO}
theorem nst_of {C:Addr} {es:List (Str×AV)} (h:isT (.ref C) (.ref 117)=some false) (h2:isT (.ref C) (.ref 54)=some false):¬ Stab (.inst C es):=fun q=>by
 rcases q with q|q
 ·subst q; rw [ti_54_54] at h2; exact tf (so h2)
 ·subst q; rw [ti_117_117] at h; exact tf (so h)
theorem holder_tag (W:HW φ ω N0 H cells) (hn:n<cells.length):ω (φ n)=(1,n,0):=by
 refine ex2_2 (holder_at (W.cell n _ (List.getElem?_eq_getElem hn))) fun ZZ ZZ I ZZ=>?_
 exact I.tag
theorem Chg.mark (C:Chg ω H0 H) (ht:ω (φ n)=(1,n,0)) (h0:∀ o,H[φ n]? = some o->¬ Stab o):Chg ω H0 (H.set (φ n) o'):=
 ⟨fun i o h s=>l_ne (fun e=>by subst e; exact h0 _ (C.stab _ o h s) s) (C.stab i o h s),fun i o h t=>l_ne (fun e=>by subst e; rw [ht] at t; revert t; simp) (C.rest i o h t),by rw [List.length_set]; exact C.len⟩
theorem MarkIs.put {k:Int} {n':Nat} (h:MarkIs φ H n' k) (hne:φ n≠φ n'):MarkIs φ (H.set (φ n) o') n' k:=let ⟨C,es,h1,h2⟩:=h; ⟨C,es,l_ne hne h1,h2⟩
variable {B:Nat} {mk:Nat->Int}
theorem reach_h (O:OkC cells) (Sm:Small cells B) (hB:B<=9000) (S:RS φ ω N0 cells H0 q m mk (rest++[.h n]) met H) (hq0:ω q=(0,0,0)) (hm0:ω m=(0,0,0)) (hqL:H0.length<=q) (hmL:H0.length<=m) (hqm:q≠m) (hw:ρ.lookup (Str.ofString "waiting")=some (.loc q)) (hm:ρ.lookup (Str.ofString "met")=some (.loc m)) (hn:n<cells.length)
  (hz:wts (rest++[.h n])<=90000) (hz2:wts (turnW cells (.h n) rest met).1<=90000) (hzm:met.length<=90000):∃ fl a H',rcB ⟨ρ,H⟩=some (fl,⟨(Str.ofString "value",a)::ρ,H'⟩)/\(fl = .next\/fl = .cont)/\RS φ ω N0 cells H0 q m mk (turnW cells (.h n) rest met).1 (turnW cells (.h n) rest met).2 H':=by
 refine ex1_2 (S.wait) fun xs0 hx hvv=>?_
 refine ex2_3 (hvv.snoc) fun xs a zz2 h1 h2=>?_; subst zz2
 cases h2
 have W1:=S.hw.set0 (o':=.list xs) hx nostab hq0
 have K1:KeepS H (H.set q (.list xs)):=.set hx nostab
 have ht:=holder_tag W1 hn
 refine ex2_8 (holder_at (W1.cell n _ (List.getElem?_eq_getElem hn))) fun C es0 I t1 t2 t3 g1 g2 g3 g4=>?_
 have hd:(H.set q (.list xs))[m]? = some (dI (metE met)):=l_ne hqm S.meet
 have e1:=h1.len
 have l1:=wts_len (ws:=rest++[.h n])
 simp only [List.length_append,List.length_singleton] at l1
 have tw:turnW cells (.h n) rest met=if n∈met then (rest,met) else (rest++partsN cells n,met++[n]):=rfl
 rw [tw] at hz2 ⊢
 by_cases e:n∈met
 ·rw [if_pos e]
  refine ⟨_,_,_,rb_old hw hm hx (om214 l1 hz e1) I.at' t1 g2 I.number hd (by rw [met_in]; exact decide_eq_true e),.inr rfl,?_⟩
  exact ⟨W1,S.chg.set0 hqL,⟨_,l_set hx,h1.keep K1 fun ZZ ZZ ZZ ZZ=>rfl⟩,hd,fun n' hn'=>(S.mark n' hn').set0 S.hw hn' hq0⟩
 ·rw [if_neg e] at hz2 ⊢
  have nst:=nst_of (es:=es0) t2 t3
  have neq:φ n≠q:=fun z=>by rw [z,hq0] at ht; cases ht
  have nem:φ n≠m:=fun z=>by rw [z,hm0] at ht; cases ht
  have W2:=W1.mark (k:=1) hn I.at' nst ht
  have K2:KeepS (H.set q (.list xs)) ((H.set q (.list xs)).set (φ n) (.inst C (putA "mark" (.int 1) es0))):=.set I.at' nst
  have hd2:((H.set q (.list xs)).set (φ n) (.inst C (putA "mark" (.int 1) es0)))[m]? = some (dI (metE met)):=l_ne nem hd
  have W3:=W2.set0 (o':=dI (metE met++[((n:Int)+1,.bool true)])) hd2 dI_stab hm0
  have K3:KeepS ((H.set q (.list xs)).set (φ n) (.inst C (putA "mark" (.int 1) es0))) (((H.set q (.list xs)).set (φ n) (.inst C (putA "mark" (.int 1) es0))).set m (dI (metE met++[((n:Int)+1,.bool true)]))):=.set hd2 dI_stab
  refine ex3_3 (things_ok W3 (v:=.h n) rfl hn Sm hB) fun l t ys run hl hy=>?_
  have hq1:(((H.set q (.list xs)).set (φ n) (.inst C (putA "mark" (.int 1) es0))).set m (dI (metE met++[((n:Int)+1,.bool true)]))++t)[q]? = some (.list xs):=l_old (l_ne (Ne.symm hqm) (l_ne neq (l_set hx)))
  have e2:=hy.len
  have l2:=wts_len (ws:=rest++thingsW cells (.h n))
  rw [show wts (rest++thingsW cells (.h n))=wts (rest++partsN cells n) from rfl] at l2
  simp only [List.length_append] at l2 hz2
  have lk:(metE met).lookup ((n:Int)+1)=none:=by
   have:=met_in (n:=n) (met:=met)
   rw [decide_eq_false e] at this
   exact Option.isNone_iff_eq_none.mp (by rw [Option.isNone_iff_eq_none]; cases h:(metE met).lookup ((n:Int)+1) with|none=>rfl|some x=>rw [h] at this; exact tf this)
  refine ⟨_,_,_,rb_new hw hm hx (om214 l1 hz e1) I.at' t1 g2 g4 I.number (by rw [putA_ne (sne (by decide))]; exact I.number) (by have:=I.size; exact om17 this) hd lk (by rw [lk]; rfl) (by unfold metE; rw [List.length_map]; exact om42 hzm) nem (Ne.symm nem) neq (Ne.symm hqm) run hq1 hl (om266 l2 hz2 e1 e2),.inl rfl,?_⟩
  have W4:=(W3.ext (t:=t)).set0 (o':=.list (xs++ys)) hq1 nostab hq0
  refine ⟨W4,((((S.chg.set0 hqL).mark ht fun o ho=>by rw [I.at'] at ho; obtain rfl:=so ho; exact nst).set0 hmL).more).set0 hqL,⟨_,l_set hq1,((h1.keep (((K1.trans K2).trans K3).trans .ext) fun ZZ ZZ ZZ ZZ=>rfl).append hy).keep (.set hq1 nostab) fun ZZ ZZ ZZ ZZ=>rfl⟩,by rw [metE_snoc]; exact l_ne hqm (l_old (l_set hd2)),fun n' hn'=>?_⟩
  by_cases en:n'=n
  ·subst en
   rw [if_pos (by simp)]
   exact MarkIs.set0 ⟨C,_,l_old (l_ne (Ne.symm nem) (l_set I.at')),putA_eq⟩ W3.ext hn hq0
  ·have:n'∈met++[n]↔n'∈met:=by simp [en]
   simp only [this]
   have ne':φ n≠φ n':=fun z=>by
    have:=holder_tag W1 hn'
    rw [<- z,ht] at this; cases this; exact en rfl
   exact ((((S.mark n' hn').set0 S.hw hn' hq0).put ne').set0 W2 hn' hm0).more.set0 W3.ext hn' hq0
theorem reach_turn (O:OkC cells) (Sm:Small cells B) (hB:B<=9000) (S:RS φ ω N0 cells H0 q m mk (rest++[v]) met H) (hq0:ω q=(0,0,0)) (hm0:ω m=(0,0,0)) (hqL:H0.length<=q) (hmL:H0.length<=m) (hqm:q≠m) (hw:ρ.lookup (Str.ofString "waiting")=some (.loc q)) (hm:ρ.lookup (Str.ofString "met")=some (.loc m)) (ok:okV cells v)
  (hz:wts (rest++[v])<=90000) (hz2:wts (turnW cells v rest met).1<=90000) (hzm:met.length<=90000):∃ fl a H',rcB ⟨ρ,H⟩=some (fl,⟨(Str.ofString "value",a)::ρ,H'⟩)/\(fl = .next\/fl = .cont)/\RS φ ω N0 cells H0 q m mk (turnW cells v rest met).1 (turnW cells v rest met).2 H':=by
 cases v with
 |h n=>exact reach_h O Sm hB S hq0 hm0 hqL hmL hqm hw hm ok hz hz2 hzm
 |s x=>
  refine ex2_2 (reach_oth O Sm hB S hq0 hqL hqm hw hm ok (fun ZZ h=>by cases h) hz (by show wts (rest++[])<=_; rw [List.append_nil]; exact hz2)) fun a H' e R=>?_
  exact ⟨_,a,H',e,.inl rfl,by rw [show thingsW cells (.s x) = [] from rfl,List.append_nil] at R; exact R⟩
 |r b n i=>
  refine ex2_2 (reach_oth O Sm hB S hq0 hqL hqm hw hm ok (fun ZZ h=>by cases h) hz hz2) fun a H' e R=>?_
  exact ⟨_,a,H',e,.inl rfl,R⟩
 |p b n i=>
  refine ex2_2 (reach_oth O Sm hB S hq0 hqL hqm hw hm ok (fun ZZ h=>by cases h) hz hz2) fun a H' e R=>?_
  exact ⟨_,a,H',e,.inl rfl,R⟩
end
section
variable {φ φ':Nat->Nat} {ω ω':Tags} {N0:Nat} {H H0 H' H1 H2 L M:List AO} {cells cells':List Cell} {σ σ2:Mine.St} {n k i j q m l:Nat} {xs ys:List AV} {ws rest:List V} {met res:List Nat} {v:V} {a b:AV} {ρ:List (Str×AV)} {es:List (Int×AV)} {o o':AO}
variable {B:Nat} {mk:Nat->Int}
theorem reach_loop (O:OkC cells) (Sm:Small cells B) (hB:B<=9000) (hq0:ω q=(0,0,0)) (hm0:ω m=(0,0,0)) (hqL:H0.length<=q) (hmL:H0.length<=m) (hqm:q≠m) (S:RS φ ω N0 cells H0 q m mk ws [] H) (hw:ρ.lookup (Str.ofString "waiting")=some (.loc q)) (hm:ρ.lookup (Str.ofString "met")=some (.loc m)) (ok:∀ u∈ws,okV cells u)
  (hk:walkW cells k ws []=some res) (hz:wts ws+restW cells []<=90000):∃ ρ' H',whileA ndC rcB 100000 ⟨ρ,H⟩=some (.next,⟨ρ',H'⟩)/\RS φ ω N0 cells H0 q m mk [] res H'/\ρ'.lookup (Str.ofString "met")=some (.loc m)/\res.length<=90000:=by
 obtain ⟨⟨ρ',H'⟩,e,R,hm',hr⟩:=v_while (c:=ndC) (fb:=rcB) (fun nn σ=>∃ ws met k,RS φ ω N0 cells H0 q m mk ws met σ.H/\(∀ u∈ws,okV cells u)/\walkW cells k ws met=some res/\wts ws+restW cells met=nn/\met.length+nn<=90000/\σ.ρ.lookup (Str.ofString "waiting")=some (.loc q)/\σ.ρ.lookup (Str.ofString "met")=some (.loc m))
  (fun σ=>RS φ ω N0 cells H0 q m mk [] res σ.H/\σ.ρ.lookup (Str.ofString "met")=some (.loc m)/\res.length<=90000)
  (fun nn σ zz=>by
   obtain ⟨ws,met,k,S,ok,hk,hn,hz,hw,hm⟩:=zz
   refine ex1_2 (S.wait) fun xs hx hv=>?_
   have len:=hv.len
   have wl:=wts_len (ws:=ws)
   refine ⟨_,_,wcond hw hx (by omega),fun ht=>?_,fun ht=>?_⟩
   ·have:ws = []:=by
     have:=of_decide_eq_false ht
     exact List.eq_nil_of_length_eq_zero (by omega)
    subst this
    cases k with
    |zero=>exact ns hk
    |succ k=>
     have:met=res:=Option.some.inj hk
     subst this
     exact ⟨S,hm,by omega⟩
   ·have:=of_decide_eq_true ht
    rcases List.eq_nil_or_concat ws with rfl|⟨rest,v,rfl⟩
    ·rw [len] at this; exact absurd this (by decide)
    ·rw [List.concat_eq_append] at *
     cases k with
     |zero=>exact ns hk
     |succ k=>
      rw [walk_turn] at hk
      have okv:=ok v (by simp)
      have okr:∀ u∈rest,okV cells u:=fun u hu=>ok u (by simp [hu])
      refine ex0_2 (turn_dec (rest:=rest) (met:=met) okv) fun d1 d2=>?_
      refine ex3_3 (reach_turn O Sm hB S hq0 hm0 hqL hmL hqm hw hm okv (by omega) (by omega) (by omega)) fun fl a H' e hf S'=>?_
      exact ⟨fl,_,e,hf,_,(by rw [<- hn]; exact d1),_,_,k,S',turn_ok O okr okv,hk,rfl,by omega,lk_ne hw rfl,lk_ne hm rfl⟩)
  100000 _ ⟨ρ,H⟩ (om140 hz) ⟨ws,[],k,S,ok,hk,rfl,by simpa using hz,hw,hm⟩
 exact ⟨ρ',H',e,R,hm',hr⟩
theorem v_lstD (h:H[m]? = some (dI es)) (hz:es.length<=1000000):listC [.loc m] H=some (.loc H.length,H++[.list ((es.map (·.1)).map .int)]):=by
 unfold listC
 have hz':(es.map (·.1)).length<=1000000:=by rw [List.length_map]; exact hz
 cases es with
 |nil=>simp only [h,dI,keysI]; rfl
 |cons e r=>simp only [h,dI,keysI,hz',if_true]
theorem intsM:∀ {ns:List Int},intsOf (ns.map .int)=some ns
 |[]=>rfl
 |n::r=>by
  show (intsOf (r.map .int)).map (n::·)=_
  rw [intsM]; rfl
theorem v_sorted {ns:List Int} (h:H[l]? = some (.list (ns.map .int))) (hz:ns.length<64):sortedC [.loc l] H=some (.loc H.length,H++[.list ((sortI ns).map .int)]):=by
 unfold sortedC
 simp only [h,intsM,hz,if_true]
theorem reach_ok (W:HW φ ω N0 H cells) (O:OkC cells) (Sm:Small cells B) (hB:B<=9000) (hl:H[l]? = some (.list xs)) (hv:VVs φ H ws xs) (ok:∀ u∈ws,okV cells u) (hk:walkW cells k ws []=some res) (hz:wts ws+restW cells []<=90000) (hr:res.length<64) (hmk:∀ n,n<cells.length->MarkIs φ H n (mk n)):
  ∃ a H',runB ["roots"] [] d_reach [.loc l] H=some (a,H')/\HW φ ω N0 H' cells/\Chg ω H H'/\∀ n,n<cells.length->MarkIs φ H' n (if n∈res then 1 else mk n):=by
 have e1:=hv.len
 have e2:=wts_len (ws:=ws)
 have hxz:xs.length<=1000000:=om231 hz e1 e2
 refine ex2_4 (reach_loop (φ:=φ) (ω:=ω) (N0:=N0) (q:=H.length+0) (m:=H.length+1) (H0:=H) (H:=H++[.list xs,.dnil,.tup [.loc (H.length+0),.loc (H.length+1)]]) (ρ:=[("waiting",.loc (H.length+0)),("met",.loc (H.length+1)),("roots",.loc l)]) O Sm hB (mk:=mk) (W.hi _ (Nat.le_refl _)) (W.hi _ (Nat.le_succ _)) (Nat.le_refl _) (Nat.le_succ _) (om22)
  ⟨W.ext,.ext,⟨xs,l_tail rfl,hv.keep .ext fun ZZ ZZ ZZ ZZ=>rfl⟩,l_tail rfl,fun n hn=>by rw [if_neg (by simp)]; exact (hmk n hn).more⟩ (by kernel_rfl) (by kernel_rfl) ok hk hz) fun ρ' H' e S hm hr2=>?_
 have hd:=S.meet
 have hd2:=(S.hw.ext (t:=[.list (((metE res).map (·.1)).map .int)])).ext (t:=[.list ((sortI ((metE res).map (·.1))).map .int)])
 have hz3:(metE res).length<=1000000:=by unfold metE; rw [List.length_map]; exact om32 hr
 have hz4:((metE res).map (·.1)).length<64:=by unfold metE; rw [List.length_map,List.length_map]; exact hr
 refine ⟨.loc (H'++[AO.list (((metE res).map (·.1)).map .int)]).length,_,?_,hd2,S.chg.more.more,fun n hn=>(S.mark n hn).more.more⟩
 ·clear S hd2 W hmk hv ok O Sm
  apply t_start
  apply v_run rfl
  unfold d_reach
  repeat' first|delta v_swap|with_reducible refine wf_eq e (by kernel_rfl) (by kernel_rfl) (by kernel_rfl)|with_reducible exact v_lstD hd hz3|delta v_sorted|(show (_:Prop); with_reducible assumption)|delta v_seq v_call v_cons v_nil v_loc t_tup t_d0 t_lst t_new v_sr v_sn v_ret l_new l_old|exact rfl|exact Nat.le_of_ble_eq_true rfl
end
section
variable {φ φ':Nat->Nat} {ω ω':Tags} {N0:Nat} {H H0 H' H1 H2 L M:List AO} {cells cells':List Cell} {σ σ2:Mine.St} {n k i j q m l w s hl:Nat} {xs ys:List AV} {ws rest:List V} {met res held:List Nat} {v:V} {a b c:AV} {ρ:List (Str×AV)} {es:List (Int×AV)} {o o':AO} {st:List V} {made:Nat}
abbrev Tri:=List (AV×Bool×AV)
noncomputable def outT (T:Tri):List AV:=(T.filter (·.2.1)).map (·.2.2)
variable {nx:Nx} {fa:AV->Mine.St->Option Mine.St} {fc:Fn Bool} {fe:Fn AV} {T:Tri}
theorem comp_run (hn:∀ i e ys,T[i]? = some e->nx i (H++[.list ys])=some (some (e.1,H++[.list ys]))) (he:∀ ys,nx T.length (H++[.list ys])=some none)
  (hb:∀ e∈T,∀ ys,∃ ρe,fa e.1 ⟨ρ,H++[.list ys]⟩=some ⟨ρe,H++[.list ys]⟩/\fc ρe (H++[.list ys])=some (e.2.1,H++[.list ys])/\(e.2.1=true->fe ρe (H++[.list ys])=some (e.2.2,H++[.list ys]))):
  ∀ (k i:Nat) (ys:List AV),i<=T.length->T.length - i<k->ys.length+(T.length - i)<=999999->compA nx fa fc fe ρ H.length k i (H++[.list ys])=some (H++[.list (ys++outT (T.drop i))]):=by
 intro k
 induction k with
 |zero=>intro i ys _ h; omega
 |succ k ih=>
  intro i ys hi hk hz
  unfold compA
  by_cases e:i=T.length
  ·subst e
   rw [he,List.drop_length]
   show _=some (H++[.list (ys++[])])
   rw [List.append_nil]
  ·have hlt:i<T.length:=om104 hi e
   refine ex1_3 (hb _ (List.getElem_mem hlt) ys) fun ρe h1 h2 h3=>?_
   rw [hn i _ ys (List.getElem?_eq_getElem hlt),List.drop_eq_getElem_cons hlt]
   simp only [h1,h2]
   cases hc:T[i].2.1 with
   |false=>
    simp only []
    rw [ih (i+1) ys (om64 hlt) (om243 hk hlt e) (om263 hz hlt e)]
    unfold outT
    rw [List.filter_cons_of_neg (by simp [hc])]
   |true=>
    have hy:ys.length<=1000000:=om163 hz
    simp only [h3 hc,l_new,hy,if_true]
    have:=set_tail (H:=H) (L:=[.list ys]) (k:=0) (o:=.list (ys++[T[i].2.2]))
    rw [Nat.add_zero] at this
    rw [this]
    show compA nx fa fc fe ρ H.length k (i+1) (H++[.list (ys++[T[i].2.2])])=_
    rw [ih (i+1) _ (om64 hlt) (om243 hk hlt e) (by rw [List.length_append,List.length_singleton]; exact om268 hz hlt e)]
    unfold outT
    rw [List.filter_cons_of_pos (by simpa using hc),List.append_assoc]; rfl
variable {cap:List Str}
theorem comp_pure {fi:FnI} (hi:fi ρ H0=some (nx,H)) (hn:∀ i e ys,T[i]? = some e->nx i (H++[.list ys])=some (some (e.1,H++[.list ys]))) (he:∀ ys,nx T.length (H++[.list ys])=some none)
  (hb:∀ e∈T,∀ ys,∃ ρe,fa e.1 ⟨resK cap ρ,H++[.list ys]⟩=some ⟨ρe,H++[.list ys]⟩/\fc ρe (H++[.list ys])=some (e.2.1,H++[.list ys])/\(e.2.1=true->fe ρe (H++[.list ys])=some (e.2.2,H++[.list ys]))) (hz:T.length<=90000):
  compF NN fi cap fa fc fe ρ H0=some (.loc H.length,H++[.list (outT T)]):=by
 unfold compF
 rw [hi]
 have:=comp_run hn he hb NN 0 [] (Nat.zero_le _) (by show T.length - 0<100000; exact om67 hz) (by simp only [List.length_nil]; exact om90 hz)
 rw [List.drop_zero,List.nil_append] at this
 simp only [this]
theorem comp_lst {f:Fn AV} (hf:f ρ H0=some (.loc l,H)) (hl:H[l]? = some (.list (T.map (·.1))))
  (hb:∀ e∈T,∀ ys,∃ ρe,fa e.1 ⟨resK cap ρ,H++[.list ys]⟩=some ⟨ρe,H++[.list ys]⟩/\fc ρe (H++[.list ys])=some (e.2.1,H++[.list ys])/\(e.2.1=true->fe ρe (H++[.list ys])=some (e.2.2,H++[.list ys]))) (hz:T.length<=90000):
  compF NN (iList f) cap fa fc fe ρ H0=some (.loc H.length,H++[.list (outT T)]):=
 comp_pure (i_list hf hl) (fun i e ys h=>n_list (l_old hl) (by rw [List.getElem?_map,h]; rfl)) (fun ys=>n_listE2 (l_old hl) (by rw [List.length_map])) hb hz
theorem t_sortS {ds:List (Str×AV)} (h:(H++L)[i]? = some (.dstr ds)) (he:ds.map (·.1)=sABC):sortedC [.loc i] (H++L)=some (.loc (H.length+L.length),H++(L++[.list (sABC.map .str)])):=by
 unfold sortedC
 simp only [h,he,if_true,List.length_append,List.append_assoc]
theorem roots_ok {ew:List (Str×AV)} (h1:H[w]? = some (.inst 348 ew)) (h2:ew.lookup (Str.ofString "store")=some (.loc s)) (h3:H[s]? = some (.dstr [("A",a),("B",b),("C",c)])):
  runB ["world"] [] d_world_roots [.loc w] H=some (.loc (H.length+1),H++[.list [.str "A",.str "B",.str "C"],.list [a,b,c]]):=by
 apply t_fin
 ·apply v_run rfl
  unfold d_world_roots
  repeat' first|delta v_itD|(show (_:Prop); with_reducible assumption)|delta v_seq v_call v_cons v_nil v_attr v_loc t_sortS t_comp|with_reducible exact c_over (by first|exact n_listE2 (by first|assumption|exact l_tail rfl|(apply l_old; assumption)|fail) rfl|exact n_zipE (by first|assumption|exact l_tail rfl|(apply l_old; assumption)|fail) (by first|assumption|exact l_tail rfl|(apply l_old; assumption)|fail) rfl|fail)|delta t_cturn t_new|((with_reducible apply l_tail); exact rfl)|delta v_sr v_ret v_sub v_tt i_list n_list v_nm|((with_reducible apply t_at); exact rfl)|delta l_old|exact rfl|exact Nat.le_of_ble_eq_true rfl
 ·kernel_rfl
end
section
variable {φ φ':Nat->Nat} {ω ω':Tags} {N0:Nat} {H H0 H' H1 H2 L M:List AO} {cells cells':List Cell} {σ σ2:Mine.St} {n k i j q m l w s hl:Nat} {xs ys:List AV} {ws rest:List V} {met res held:List Nat} {v:V} {a b c:AV} {ρ:List (Str×AV)} {es:List (Int×AV)} {o o':AO} {st:List V} {made:Nat} {mk:Nat->Int}
theorem marks_of (W:HW φ ω N0 H cells):∃ mk:Nat->Int,∀ n,n<cells.length->MarkIs φ H n (mk n):=by
 have h:∀ n,n<cells.length->∃ k,MarkIs φ H n k:=fun n hn=>by
  refine ex2_2 (holder_at (W.cell n _ (List.getElem?_eq_getElem hn))) fun C es I ZZ=>?_
  refine ex1_1 (I.mark) fun k hk=>?_
  exact ⟨k,C,es,I.at',hk⟩
 refine ⟨fun n=>if q:n<cells.length then (h n q).choose else 0,fun n hn=>?_⟩
 show MarkIs φ H n (if q:n<cells.length then (h n q).choose else 0)
 rw [dif_pos hn]; exact (h n hn).choose_spec
theorem zero_turn {C:Addr} {es:List (Str×AV)} {o:Nat} (ho:H[o]? = some (.inst C es)) (hS:inT tS C (Str.ofString "mark")=true) (hz:es.length<=100):
  sSeq (sSetA (inT tS) "mark" (cst (.int 0)) (rdL "holder")) sSkip ⟨(Str.ofString "holder",.loc o)::ρ,H⟩=some (.next,⟨(Str.ofString "holder",.loc o)::ρ,H.set o (.inst C (putA "mark" (.int 0) es))⟩):=by
 have hv:((Str.ofString "holder",AV.loc o)::ρ).lookup (Str.ofString "holder")=some (.loc o):=List.lookup_cons_self
 repeat' first|(show (_:Prop); with_reducible assumption)|delta v_seq v_cst v_loc v_sn v_skip v_set
theorem zero_loop (W:HW φ ω N0 H cells) (hh:∀ n∈held,n<cells.length) (Wd:WorldAt φ ω H w s hl made held) (hz:held.length<=90000) (hw:ρ.lookup (Str.ofString "world")=some (.loc w)) (hm:ρ.lookup (Str.ofString "more_roots")=some (.loc m)):
  ∃ ρ' H',sFor NN (iList (aF "holders" (rdL "world"))) (aName "holder") (sSeq (sSetA (inT tS) "mark" (cst (.int 0)) (rdL "holder")) sSkip) ⟨ρ,H⟩=some (.next,⟨ρ',H'⟩)/\HW φ ω N0 H' cells/\Chg ω H H'/\(∃ mk:Nat->Int,∀ n,n<cells.length->MarkIs φ H' n (if n∈held then 0 else mk n))/\ρ'.lookup (Str.ofString "world")=some (.loc w)/\ρ'.lookup (Str.ofString "more_roots")=some (.loc m):=by
 refine ex1_1 (marks_of W) fun mk hmk=>?_
 obtain ⟨⟨ew,h1,h2,h3,_⟩,h8,h9,h10⟩:=Wd
 obtain ⟨⟨ρ',H'⟩,run,W',C',M',q1,q2⟩:=v_for (σ:=⟨ρ,H⟩) (fa:=aName "holder") (fb:=sSeq (sSetA (inT tS) "mark" (cst (.int 0)) (rdL "holder")) sSkip) (i_list (v_attr (v_loc hw) h1 tg_348_holders h3 rfl) h8) held.length (om39 hz)
  (fun i σ=>HW φ ω N0 σ.H cells/\Chg ω H σ.H/\(∀ n,n<cells.length->MarkIs φ σ.H n (if n∈held.take i then 0 else mk n))/\σ.ρ.lookup (Str.ofString "world")=some (.loc w)/\σ.ρ.lookup (Str.ofString "more_roots")=some (.loc m))
  ⟨W,⟨fun ZZ ZZ h ZZ=>h,fun ZZ ZZ h ZZ=>h,Nat.le_refl _⟩,fun n hn=>by rw [if_neg (by simp)]; exact hmk n hn,hw,hm⟩
  (fun σ zz=>n_listE2 (zz.2.1.rest hl _ h8 (.inr (by rw [h10]; decide))) (by rw [List.length_map]))
  (fun i σ hi zz=>by
   obtain ⟨Wi,Ci,Mi,hw,hm⟩:=zz
   have hg:=List.getElem?_eq_getElem hi
   have hlt:=hh _ (List.getElem_mem hi)
   refine ex2_8 (holder_at (Wi.cell _ _ (List.getElem?_eq_getElem hlt))) fun C es0 I t1 t2 t3 g1 g2 g3 g4=>?_
   have nst:=nst_of (es:=es0) t2 t3
   refine ⟨.loc (φ held[i]),σ.H,_,.next,_,n_list (Ci.rest hl _ h8 (.inr (by rw [h10]; decide))) (by rw [List.getElem?_map,hg]; rfl),v_nm,zero_turn I.at' g4 (by have:=I.size; exact om132 hi this),.inl rfl,Wi.mark hlt I.at' nst I.tag,Ci.mark I.tag (fun o ho=>by rw [I.at'] at ho; obtain rfl:=so ho; exact nst),fun n hn=>?_,lk_ne hw rfl,lk_ne hm rfl⟩
   have tk:held.take (i+1)=held.take i++[held[i]]:=by rw [List.take_succ,hg]; rfl
   rw [tk]
   by_cases e:n=held[i]
   ·subst e
    rw [if_pos (List.mem_append.mpr (.inr (List.mem_singleton.mpr rfl)))]
    exact ⟨C,_,l_set I.at',putA_eq⟩
   ·have:n∈held.take i++[held[i]]↔n∈held.take i:=by rw [List.mem_append,List.mem_singleton]; exact ⟨fun h=>h.elim id fun z=>absurd z e,.inl⟩
    simp only [this]
    exact (Mi n hn).put fun z=>by
     have:=holder_tag Wi hn
     rw [<- z,I.tag] at this; cases this; exact e rfl)
 exact ⟨ρ',H',run,W',C',⟨mk,fun n hn=>by have:=M' n hn; rw [List.take_length] at this; exact this⟩,q1,q2⟩
theorem pick_ok (W:HW φ ω N0 H cells) (hh:∀ n∈held,n<cells.length) (hl8:H[hl]? = some (.list (held.map fun n=>.loc (φ n)))) (M:∀ n,n<cells.length->MarkIs φ H n (mk n)) {f:Fn AV} (hf:f ρ H=some (.loc hl,H)) (hz:held.length<=90000) (z:Int):
  compF NN (iList f) [] (aName "holder") (cmpF (aF "mark" (rdL "holder")) (cst (.int z)) eqK) (aF "number" (rdL "holder")) ρ H=some (.loc H.length,H++[.list ((held.filter fun n=>mk n == z).map fun n:Nat=>.int ((n:Int)+1))]) /\
  compF NN (iList f) [] (aName "holder") (cmpF (aF "mark" (rdL "holder")) (cst (.int z)) eqK) (rdL "holder") ρ H=some (.loc H.length,H++[.list ((held.filter fun n=>mk n == z).map fun n=>.loc (φ n))]):=by
 have key:∀ n∈held,∀ ys ρ,(aF "mark" (rdL "holder")) ((Str.ofString "holder",AV.loc (φ n))::ρ) (H++[AO.list ys])=some (.int (mk n),H++[.list ys])/\(aF "number" (rdL "holder")) ((Str.ofString "holder",AV.loc (φ n))::ρ) (H++[AO.list ys])=some (.int ((n:Int)+1),H++[.list ys]):=fun n hn ys ρ=>by
  refine ex2_8 (holder_at (W.cell n _ (List.getElem?_eq_getElem (hh n hn)))) fun C es0 I t1 t2 t3 g1 g2 g3 g4=>?_
  obtain ⟨C',es',h1,h2⟩:=M n (hh n hn)
  rw [I.at'] at h1; obtain ⟨rfl,rfl⟩:=AO.inst.inj (so h1)
  exact ⟨v_attr (v_loc List.lookup_cons_self) (l_old I.at') g3 h2 rfl,v_attr (v_loc List.lookup_cons_self) (l_old I.at') g2 I.number rfl⟩
 have o1:∀ g:Nat->AV,outT (held.map fun n=>(AV.loc (φ n),mk n == z,g n))=(held.filter fun n=>mk n == z).map g:=fun g=>by
  unfold outT
  rw [List.filter_map,List.map_map]; rfl
 constructor
 ·have:=comp_lst (fa:=aName "holder") (fc:=cmpF (aF "mark" (rdL "holder")) (cst (.int z)) eqK) (fe:=aF "number" (rdL "holder")) (cap:=[]) (T:=held.map fun n=>(AV.loc (φ n),mk n == z,.int ((n:Int)+1))) hf (by rw [List.map_map]; exact hl8) (fun e he ys=>by
   refine ex1_2 (List.mem_map.mp he) fun n hn zz2=>?_; subst zz2
   refine ex0_2 (key n hn ys (resK [] ρ)) fun k1 k2=>?_
   exact ⟨_,v_nm,v_cmp k1 v_cst rfl,fun ZZ=>k2⟩) (by rw [List.length_map]; exact hz)
  rw [o1] at this; exact this
 ·have:=comp_lst (fa:=aName "holder") (fc:=cmpF (aF "mark" (rdL "holder")) (cst (.int z)) eqK) (fe:=rdL "holder") (cap:=[]) (T:=held.map fun n=>(AV.loc (φ n),mk n == z,.loc (φ n))) hf (by rw [List.map_map]; exact hl8) (fun e he ys=>by
   refine ex1_2 (List.mem_map.mp he) fun n hn zz2=>?_; subst zz2
   refine ex0_2 (key n hn ys (resK [] ρ)) fun k1 k2=>?_
   exact ⟨_,v_nm,v_cmp k1 v_cst rfl,fun ZZ=>v_loc List.lookup_cons_self⟩) (by rw [List.length_map]; exact hz)
  rw [o1] at this; exact this
end
section
variable {φ φ':Nat->Nat} {ω ω':Tags} {N0:Nat} {H H0 H' H1 H2 H3 L M:List AO} {cells cells':List Cell} {σ σ2:Mine.St} {n k i j q m l w s hl mr:Nat} {xs ys:List AV} {ws rest:List V} {met res held:List Nat} {v:V} {a b c:AV} {ρ ρ1:List (Str×AV)} {es:List (Int×AV)} {o o':AO} {st:List V} {made:Nat} {mk:Nat->Int}
theorem HW.retag (W:HW φ ω N0 H cells) {t:Nat×Nat×Nat} (h0:ω q=(0,0,0)) (hN:N0<=q) (hq:q<H.length):HW φ (tagAt ω q t) N0 H cells:=
 ⟨fun n c hc=>(W.cell n c hc).keep (fun ZZ ZZ h ZZ=>h) (fun ZZ ZZ h ZZ=>h) (tagAt_agree h0) rfl fun ZZ ZZ ZZ ZZ=>rfl,fun i hi=>by rw [tagAt_ne (om122 hi hN)]; exact W.low i hi,W.len,fun i hi=>by rw [tagAt_ne (om123 hq hi)]; exact W.hi i hi⟩
theorem v_add (h1:H[i]? = some (.list xs)) (h2:H[j]? = some (.list ys)) (hz:xs.length+ys.length<=1000000):addA (.loc i) (.loc j) H=some (.loc H.length,H++[.list (xs++ys)]):=by
 unfold addA
 simp only [h1,h2,hz,if_true]
theorem collect_run {x:AV} {ew:List (Str×AV)} {gs:List Int} {hs:List AV} (run1:sFor NN (iList (aF "holders" (rdL "world"))) (aName "holder") (sSeq (sSetA (inT tS) "mark" (cst (.int 0)) (rdL "holder")) sSkip) ⟨[("more_roots",.loc mr),("world",.loc w)],H⟩=some (.next,⟨ρ1,H1⟩)) (hw:ρ1.lookup (Str.ofString "world")=some (.loc w)) (hm:ρ1.lookup (Str.ofString "more_roots")=some (.loc mr))
  (e2:runB ["world"] [] d_world_roots [.loc w] H1=some (.loc i,H2)) (h2:H2[i]? = some (.list xs)) (h3:H2[mr]? = some (.list ys)) (hz:xs.length+ys.length<=1000000) (e3:runB ["roots"] [] d_reach [.loc H2.length] (H2++[.list (xs++ys)])=some (x,H3))
  (p1:compF NN (iList (aF "holders" (rdL "world"))) [] (aName "holder") (cmpF (aF "mark" (rdL "holder")) (cst (.int 0)) eqK) (aF "number" (rdL "holder")) ρ1 H3=some (.loc H3.length,H3++[.list (gs.map .int)])) (hg:gs.length<64)
  (p2:∀ g,compF NN (iList (aF "holders" (rdL "world"))) [] (aName "holder") (cmpF (aF "mark" (rdL "holder")) (cst (.int 1)) eqK) (rdL "holder") ((Str.ofString "gone",g)::ρ1) (H3++[AO.list (gs.map .int)]++[AO.list ((sortI gs).map .int)])=some (.loc l,H3++[.list (gs.map .int)]++[AO.list ((sortI gs).map .int)]++[AO.list hs])) (hW:H3[w]? = some (.inst 348 ew)) (hzw:ew.length<=100):
  runB ["world","more_roots"] [] d_collect [.loc w,.loc mr] H=some (.loc (H3++[AO.list (gs.map .int)]).length,(H3++[AO.list (gs.map .int)]++[AO.list ((sortI gs).map .int)]++[AO.list hs]).set w (.inst 348 (putA "holders" (.loc l) ew))):=by
 have hw':∀ g,((Str.ofString "gone",g)::ρ1).lookup (Str.ofString "world")=some (.loc w):=fun g=>lk_ne hw rfl
 apply v_run rfl
 unfold d_collect
 repeat' first|with_reducible refine f_eq run1 (by kernel_rfl)|delta v_add|with_reducible exact p2 _|delta v_sorted hw'|(show (_:Prop); with_reducible assumption)|delta v_seq v_call v_cons v_nil v_loc v_asg v_sr v_sn v_ret v_expr v_set v_bin l_new l_old|exact rfl
end
section
variable {φ φ':Nat->Nat} {ω ω':Tags} {N0:Nat} {H H0 H' H1 H2 H3 L M:List AO} {cells cells':List Cell} {n k i j q m l w s hl mr:Nat} {xs ys:List AV} {ws rest:List V} {met res held:List Nat} {v:V} {a b c:AV} {ρ ρ1:List (Str×AV)} {st:List V} {made:Nat} {mk:Nat->Int}
theorem filt_eq {p q:Nat->Bool} {g:Nat->AV} (h:∀ n∈held,p n=q n):(held.filter p).map g=(held.filter q).map g:=by rw [List.filter_congr h]
theorem collect_ok (R:RW φ ω N0 H cells w s st held) (O:OkC cells) {B:Nat} (Sm:Small cells B) (hB:B<=9000) (hh:∀ n∈held,n<cells.length) (okS:∀ v∈st,okV cells v) (hst:st.length=3) (hmr:H[mr]? = some (.list [])) (hmr0:ω mr=(0,0,0)) (hk:walkW cells k st []=some res) (hz:wts st+restW cells []<=90000) (hr:res.length<64) (hhl:held.length<64):
  ∃ g H' ω',runB ["world","more_roots"] [] d_collect [.loc w,.loc mr] H=some (.loc g,H')/\H'[g]? = some (.list ((sortI ((held.filter fun n=>decide (n∉res)).map fun n:Nat=>(n:Int)+1)).map .int))/\RW φ ω' N0 H' cells w s st (held.filter fun n=>decide (n∈res))/\Into φ ω H cells φ ω' H':=by
 refine ex1_1 (R.world) fun hl Wd=>?_
 refine ex2_6 (zero_loop (ρ:=[("more_roots",.loc mr),("world",.loc w)]) (m:=mr) R.hw hh Wd (om26 hhl) (by kernel_rfl) (by kernel_rfl)) fun ρ1 H1 run1 W1 C1 zz5 hw hm=>?_; obtain ⟨mk,M1⟩:=zz5
 have Wd1:=Wd.keep (φ':=φ) (fun ZZ ZZ=>rfl) .refl fun i o h q=>C1.rest i o h (.inr (om59 q))
 have S1:=R.store.keep (φ':=φ) C1.stab (fun ZZ ZZ ZZ ZZ=>rfl) .refl fun i o h q=>C1.rest i o h (.inr (om9 q))
 obtain ⟨⟨a,b,c,h3,hv⟩,hs0⟩:=S1
 obtain ⟨⟨ew,x1,x2,x3,x4,x5,x6,x7⟩,x8,x9,x10⟩:=Wd1
 have e2:=roots_ok x1 x2 h3
 have hmr1:=C1.rest mr _ hmr (.inl (by rw [hmr0]))
 refine ex2_4 (reach_ok (l:=(H1++[AO.list [.str "A",.str "B",.str "C"],.list [a,b,c]]).length) (W1.ext.ext) O Sm hB l_new (hv.keep (KeepS.ext.trans .ext) fun ZZ ZZ ZZ ZZ=>rfl) okS hk hz hr (fun n hn=>(M1 n hn).more.more)) fun x H3 e3 W3 C3 M3=>?_
 have Cc:Chg ω H1 H3:=.trans .refl .ext (.trans .refl .ext C3)
 have y1:=Cc.rest w _ x1 (.inr (by rw [x9]; decide))
 have y8:=Cc.rest hl _ x8 (.inr (by rw [x10]; decide))
 have hf:∀ {ρ:List (Str×AV)} {t:List AO},ρ.lookup (Str.ofString "world")=some (.loc w)->aF "holders" (rdL "world") ρ (H3++t)=some (.loc hl,H3++t):=fun h=>v_attr (v_loc h) (l_old y1) tg_348_holders x3 rfl
 have p1:=(pick_ok (f:=aF "holders" (rdL "world")) W3 hh y8 M3 (ρ:=ρ1) (by have:=hf (t:=[]) hw; rw [List.append_nil] at this; exact this) (om26 hhl) 0).1
 rw [filt_eq (q:=fun n=>decide (n∉res)) (fun n hn=>by
  by_cases e:n∈res
  ·simp [e]
  ·simp [e,hn])] at p1
 have em:((held.filter fun n=>decide (n∉res)).map fun n:Nat=>AV.int ((n:Int)+1))=(((held.filter fun n=>decide (n∉res)).map fun n:Nat=>(n:Int)+1)).map .int:=by rw [List.map_map]; rfl
 rw [em] at p1
 have gl:((held.filter fun n=>decide (n∉res)).map fun n:Nat=>(n:Int)+1).length<64:=by
  rw [List.length_map]; exact Nat.lt_of_le_of_lt (List.length_filter_le _ _) hhl
 have p2:=fun g=>(pick_ok (f:=aF "holders" (rdL "world")) (ρ:=(Str.ofString "gone",g)::ρ1) ((W3.ext (t:=[.list (((held.filter fun n=>decide (n∉res)).map fun n:Nat=>(n:Int)+1).map .int)])).ext (t:=[.list ((sortI ((held.filter fun n=>decide (n∉res)).map fun n:Nat=>(n:Int)+1)).map .int)])) hh (l_old (l_old y8)) (fun n hn=>(M3 n hn).more.more) (by rw [List.append_assoc]; exact hf (lk_ne hw rfl)) (om26 hhl) 1).2
 rw [filt_eq (q:=fun n=>decide (n∈res)) (fun n hn=>by
  by_cases e:n∈res
  ·simp [e]
  ·simp [e,hn])] at p2
 have run:=collect_run run1 hw hm e2 (l_tail (k:=1) rfl) (l_old hmr1) (by show 3+0<=_; exact om2) (by rw [List.append_nil]; exact e3) p1 gl p2 y1 (om17 x7)
 have hql:H3.length<=(H3++[AO.list (((held.filter fun n=>decide (n∉res)).map fun n:Nat=>(n:Int)+1).map .int)]++[AO.list ((sortI ((held.filter fun n=>decide (n∉res)).map fun n:Nat=>(n:Int)+1)).map .int)]).length:=by simp only [List.length_append]; exact om80
 have hlen:=Nat.le_trans C1.len Cc.len
 have wlt:=getElem?_lt y1
 have nst:¬ Stab (.inst 348 ew):=fun q=>by rcases q with q|q <;> exact absurd (show (348:Nat)=_ from q) (by decide)
 have W4:=((W3.ext (t:=[.list (((held.filter fun n=>decide (n∉res)).map fun n:Nat=>(n:Int)+1).map .int)])).ext (t:=[.list ((sortI ((held.filter fun n=>decide (n∉res)).map fun n:Nat=>(n:Int)+1)).map .int)])).ext (t:=[.list ((held.filter fun n=>decide (n∈res)).map fun n=>.loc (φ n))])
 have y4:=l_old (t:=[.list ((held.filter fun n=>decide (n∈res)).map fun n=>.loc (φ n))]) (l_old (t:=[.list ((sortI ((held.filter fun n=>decide (n∉res)).map fun n:Nat=>(n:Int)+1)).map .int)]) (l_old (t:=[.list (((held.filter fun n=>decide (n∉res)).map fun n:Nat=>(n:Int)+1).map .int)]) y1))
 have K4:=KeepS.set (o':=.inst 348 (putA "holders" (.loc (H3++[AO.list (((held.filter fun n=>decide (n∉res)).map fun n:Nat=>(n:Int)+1).map .int)]++[AO.list ((sortI ((held.filter fun n=>decide (n∉res)).map fun n:Nat=>(n:Int)+1)).map .int)]).length) ew)) y4 nst
 have K:KeepS H _:=(C1.stab.trans Cc.stab).trans (((KeepS.ext.trans .ext).trans .ext).trans K4)
 have wne:w≠(H3++[AO.list (((held.filter fun n=>decide (n∉res)).map fun n:Nat=>(n:Int)+1).map .int)]++[AO.list ((sortI ((held.filter fun n=>decide (n∉res)).map fun n:Nat=>(n:Int)+1)).map .int)]).length:=om122 wlt hql
 have f:∀ (i:Nat) (o:AO),H[i]? = some o->(ω i).1=0\/7<=(ω i).1->i≠w->((H3++[AO.list (((held.filter fun n=>decide (n∉res)).map fun n:Nat=>(n:Int)+1).map .int)]++[AO.list ((sortI ((held.filter fun n=>decide (n∉res)).map fun n:Nat=>(n:Int)+1)).map .int)]++[AO.list ((held.filter fun n=>decide (n∈res)).map fun n=>.loc (φ n))]).set w (.inst 348 (putA "holders" (.loc (H3++[AO.list (((held.filter fun n=>decide (n∉res)).map fun n:Nat=>(n:Int)+1).map .int)]++[AO.list ((sortI ((held.filter fun n=>decide (n∉res)).map fun n:Nat=>(n:Int)+1)).map .int)]).length) ew)))[i]? = some o:=fun i o h t e=>l_ne (Ne.symm e) (l_old (l_old (l_old (Cc.rest i o (C1.rest i o h t) t))))
 have E:Ext ω (tagAt ω (H3++[AO.list (((held.filter fun n=>decide (n∉res)).map fun n:Nat=>(n:Int)+1).map .int)]++[AO.list ((sortI ((held.filter fun n=>decide (n∉res)).map fun n:Nat=>(n:Int)+1)).map .int)]).length (10,0,0)) H:=fun i hi=>tagAt_ne (om188 hi hlen hql)
 refine ⟨_,_,tagAt ω (H3++[AO.list (((held.filter fun n=>decide (n∉res)).map fun n:Nat=>(n:Int)+1).map .int)]++[AO.list ((sortI ((held.filter fun n=>decide (n∉res)).map fun n:Nat=>(n:Int)+1)).map .int)]).length (10,0,0),run,?_,⟨?_,⟨_,⟨_,l_set y4,?_,putA_eq,?_,?_,?_,?_⟩,l_ne wne l_new,?_,tagAt_eq⟩,R.store.keep K (fun ZZ ZZ ZZ ZZ=>rfl) E fun i o h q=>f i o h (.inr (om9 q)) fun e=>by rw [e,x9] at q; exact absurd q (by decide)⟩,⟨fun ZZ ZZ=>rfl,E,K,fun i o h q=>f i o h (.inl q) fun e=>by rw [e,x9] at q; exact absurd q (by decide),by simp only [List.length_set,List.length_append]; exact om204 hlen⟩⟩
 ·exact l_ne (by simp only [List.length_append]; exact om94 wlt) (l_old l_new)
 ·exact (W4.frame K4 (fun i o h t=>l_ne (fun e=>by rw [<- e,x9] at t; exact absurd t.2 (by decide)) h) (by rw [List.length_set]; exact Nat.le_refl _)).retag (R.hw.hi _ (Nat.le_trans hlen hql)) (Nat.le_trans R.hw.len (Nat.le_trans hlen hql)) (by simp only [List.length_set,List.length_append,List.length_singleton]; exact om101)
 ·rw [putA_ne (sne (by decide))]; exact x2
 ·rw [putA_ne (sne (by decide))]; exact x4
 ·rw [putA_ne (sne (by decide))]; exact x5
 ·rw [putA_ne (sne (by decide))]; exact x6
 ·rw [putA_len,if_pos (by rw [x3]; rfl)]; exact x7
 ·rw [tagAt_ne wne]; exact x9
end
section
variable {φ φ':Nat->Nat} {ω ω':Tags} {N0:Nat} {H H0 H' H1 H2 H3 L M:List AO} {cells cells':List Cell} {n k i j q m l w s hl mr:Nat} {xs ys ts:List AV} {ws rest vs:List V} {met res held:List Nat} {v:V} {a b c:AV} {ρ ρ1:List (Str×AV)} {st:List V} {ds:List PyData}
theorem mapM_keep {f g:AV->Option PyData} (h:∀ a d,f a=some d->g a=some d):∀ {xs:List AV} {ds:List PyData},xs.mapM f=some ds->xs.mapM g=some ds
 |[],ds,e=>by rw [List.mapM_nil] at e ⊢; exact e
 |x::r,ds,e=>by
  rw [List.mapM_cons] at e ⊢
  cases hx:f x with
  |none=>rw [hx] at e; exact ns e
  |some d=>
   rw [hx] at e
   cases hr:r.mapM f with
   |none=>rw [hr] at e; exact ns e
   |some ds'=>
    rw [hr] at e
    rw [h _ _ hx,mapM_keep h hr]; exact e
set_option tactic.hygienic true in
theorem dataT_keep (K:KeepS H H'):∀ (k:Nat) (a:AV) (d:PyData),dataT k a H=some d->dataT k a H'=some d:=by
 intro k
 induction k with
 |zero=>intro a d e; cases a <;> first|exact e|(cases e; done)
 |succ k ih=>
  intro a d e
  cases a with
  |loc i=>
   unfold dataT at e ⊢
   split at e
   ·rename_i xs hx
    refine ex1_2 (Option.map_eq_some_iff.mp e) fun ds hd zz2=>?_; subst zz2
    rw [K i _ hx trivial]
    simp only [mapM_keep ih hd,Option.map_some]
   ·exact ns e
  |_=>first|exact e|(cases e; done)
set_option tactic.hygienic true in
theorem dataT_A:∀ (k k':Nat) (a:AV) (d:PyData),k<=k'->dataT k a H=some d->dataA k' a H=some d:=by
 intro k
 induction k with
 |zero=>intro k' a d _ e; cases a <;> first|(cases k' <;> exact e)|(exact ns e; done)
 |succ k ih=>
  intro k' a d hk e
  obtain ⟨k',rfl⟩:∃ k2,k'=k2+1:=⟨k' - 1,by exact om114 hk⟩
  cases a with
  |loc i=>
   unfold dataT at e
   unfold dataA
   split at e
   ·rename_i xs hx
    refine ex1_2 (Option.map_eq_some_iff.mp e) fun ds hd zz2=>?_; subst zz2
    rw [hx]
    simp only [mapM_keep (fun a d=>ih k' a d (om81 hk)) hd,Option.map_some]
   ·exact ns e
  |_=>first|exact e|(cases e; done)
def TDs (H:List AO) (ts:List AV) (ds:List PyData):Prop:=ts.mapM (fun a=>dataT 3 a H)=some ds
theorem TDs.keep (K:KeepS H H') (h:TDs H ts ds):TDs H' ts ds:=mapM_keep (dataT_keep K 3) h
theorem TDs.snoc {d:PyData} (h:TDs H ts ds) (ha:dataT 3 a H=some d):TDs H (ts++[a]) (ds++[d]):=by
 unfold TDs at *
 rw [List.mapM_append,h]
 simp only [List.mapM_cons,List.mapM_nil,ha]; rfl
theorem dT_tup (h:H[i]? = some (.tup xs)) (hd:xs.mapM (fun a=>dataT k a H)=some ds):dataT (k+1) (.loc i) H=some (.tuple ds):=by
 unfold dataT
 simp only [h,hd,Option.map_some]
theorem told_ok (W:HW φ ω N0 H cells) (hv:VV φ H v a) (ok:okV cells v):∃ t g,runB ["value"] [] d_law_told [a] H=some (t,H++g)/\dataT 3 t (H++g)=some (toldD cells v):=by
 cases v with
 |s x=>cases hv; exact ⟨_,[],by rw [List.append_nil]; exact told_s,rfl⟩
 |h n=>
  cases hv
  have hn:n<cells.length:=ok
  refine ⟨_,_,told_h W hn,dT_tup l_new ?_⟩
  have:wordN cells n=wordC cells[n]:=by unfold wordN; rw [List.getElem?_eq_getElem hn]
  rw [this]; rfl
 |r b n i=>
  obtain ⟨j,rfl,rf⟩:=hv
  exact ⟨_,_,(told_r W (okV.num ok n rfl) rf).1,dT_tup l_new rfl⟩
 |p b n i=>
  obtain ⟨j,es,t,u,q,rfl,hv⟩:=hv
  refine ⟨_,_,(told_p W (okV.num ok n rfl) ⟨j,es,t,u,q,rfl,hv⟩).trans (by rw [List.append_assoc]),?_⟩
  rw [<- List.append_assoc]
  have e1:dataT 2 (.loc H.length) (H++[.tup [.str (kn b),.int (n+1),.int i]]++[.tup [.str "pattern",.loc H.length]])=some (.tuple [.str (kn b),.int (n+1),.int i]):=dT_tup (l_old l_new) rfl
  refine dT_tup (tup_new) ?_
  simp only [List.mapM_cons,List.mapM_nil,e1]; rfl
theorem told_run (W:HW φ ω N0 H cells) (hl:H[l]? = some (.list xs)) (hv:VVs φ H vs xs) (ok:∀ v∈vs,okV cells v) (hz:vs.length<=90000):∀ (k i:Nat) (ys:List AV) (G:List AO),i<=vs.length->vs.length - i<k->ys.length=i->TDs (H++(.list ys::G)) ys ((vs.take i).map (toldD cells)) ->
  ∃ ts G',compA (nxList l) (aName "part") tT (callF (runB ["value"] [] d_law_told) (esCons (rdL "part") esNil)) ρ (H.length+0) k i (H++(.list ys::G))=some (H++(.list ts::G'))/\TDs (H++(.list ts::G')) ts (vs.map (toldD cells)):=by
 intro k
 induction k with
 |zero=>intro i ys G _ h; omega
 |succ k ih=>
  intro i ys G hi hk hy hT
  have len:=hv.len
  by_cases e:i=vs.length
  ·refine ⟨ys,G,c_over (n_listE2 (l_old hl) (om190 hy e len)),?_⟩
   rw [e,List.take_length] at hT; exact hT
  ·have hlt:i<vs.length:=om233 hy hi len e
   refine ex1_2 (hv.get (List.getElem?_eq_getElem hlt)) fun a ha hva=>?_
   refine ex2_2 (told_ok (W.ext (t:=.list ys::G)) (hva.keep .ext fun ZZ ZZ=>rfl) (ok _ (List.getElem_mem hlt))) fun t g run hd=>?_
   have run':callF (runB ["value"] [] d_law_told) (esCons (rdL "part") esNil) ((Str.ofString "part",a)::ρ) (H++(.list ys::G))=some (t,H++(.list ys::(G++g))):=by
    refine v_call (v_cons (v_loc List.lookup_cons_self) v_nil) (run.trans ?_)
    rw [List.append_assoc]; rfl
   have K:KeepS (H++(.list ys::G)++g) (H++(.list (ys++[t])::(G++g))):=fun i o h s=>by
    have e1:H++(.list (ys++[t])::(G++g))=(H++(.list ys::(G++g))).set (H.length+0) (.list (ys++[t])):=by rw [set_tail]; rfl
    rw [e1]
    have e2:H++(.list ys::G)++g=H++(.list ys::(G++g)):=by rw [List.append_assoc]; rfl
    rw [e2] at h
    exact KeepS.set (l_tail rfl) nostab i o h s
   refine ex2_2 (ih (i+1) (ys++[t]) (G++g) (om209 hlt hy len) (om279 hk hlt len hy e) (by rw [List.length_append,hy]; rfl) (by
    rw [List.take_succ,List.getElem?_eq_getElem hlt,Option.toList_some,List.map_append]
    exact ((hT.keep .ext).snoc hd).keep K)) fun ts G' h1 h2=>?_
   exact ⟨ts,G',t_cturn (n_list (l_old hl) ha) v_nm rfl run' rfl (om241 hlt hz hy len) h1,h2⟩
theorem told_list (W:HW φ ω N0 H cells) (hl:H[l]? = some (.list xs)) (hv:VVs φ H vs xs) (ok:∀ v∈vs,okV cells v) (hz:vs.length<=90000) {f:Fn AV} {cap:List Str} (hf:f ρ H=some (.loc l,H)):
  ∃ ts G',compF NN (iList f) cap (aName "part") tT (callF (runB ["value"] [] d_law_told) (esCons (rdL "part") esNil)) ρ H=some (.loc H.length,H++(.list ts::G'))/\TDs (H++(.list ts::G')) ts (vs.map (toldD cells)):=by
 refine ex2_2 (told_run (ρ:=resK cap ρ) W hl hv ok hz NN 0 [] [] (Nat.zero_le _) (by show vs.length - 0<100000; exact om67 hz) rfl (by unfold TDs; rfl)) fun ts G' h1 h2=>?_
 refine ⟨ts,G',?_,h2⟩
 unfold compF
 rw [i_list hf hl]
 rw [Nat.add_zero] at h1
 simp only [h1]
end
noncomputable def ltB:FnS:=(sSeq (sAsg "value" (methF popC (rdL "waiting") esNil)) (sSeq (sIf (vB (callF (isiA isT) (esCons (rdL "value") (esCons (cst (.glob (.ref 117))) esNil)))) (sSeq (sExpr (methF appendC (rdL "waiting") (esCons (aF "owner" (rdL "value")) esNil))) sSkip) (sSeq (sIf (vB (callF (isiA isT) (esCons (rdL "value") (esCons (cst (.glob (.ref 54))) esNil)))) (sSeq (sExpr (methF appendC (rdL "waiting") (esCons (subF (aF "node" (rdL "value")) (cst (.int 2))) esNil))) sSkip) (sSeq (sIf (andF (vB (callF (isiA isT) (esCons (rdL "value") (esCons (cst (.glob (.ref 138))) esNil)))) (andF (cmpF (aF "number" (rdL "value")) (rdL "found") notInA) tT)) (sSeq (sIf (vB (callF (isiA isT) (esCons (rdL "value") (esCons (cst (.glob (.ref 227))) esNil)))) (sSeq (sAsg "inner" (compF2 NN (iList (aF "rows" (rdL "value"))) (aName "pair") (iList (rdL "pair")) (aName "part") (rdL "part"))) sSkip) (sSeq (sAsg "inner" (ifF (vB (callF (isiA isT) (esCons (rdL "value") (esCons (cst (.glob (.ref 208))) esNil)))) (aF "items" (rdL "value")) (aF "values" (rdL "value")))) sSkip)) (sSeq (sPut (compF NN (iList (rdL "inner")) [] (aName "part") tT (callF (runB ["value"] [] d_law_told) (esCons (rdL "part") esNil))) (rdL "found") (aF "number" (rdL "value"))) (sSeq (sExpr (methF extendC (rdL "waiting") (esCons (rdL "inner") esNil))) sSkip))) sSkip) sSkip)) sSkip)) sSkip))
noncomputable def ltI:FnS:=(sIf (vB (callF (isiA isT) (esCons (rdL "value") (esCons (cst (.glob (.ref 227))) esNil)))) (sSeq (sAsg "inner" (compF2 NN (iList (aF "rows" (rdL "value"))) (aName "pair") (iList (rdL "pair")) (aName "part") (rdL "part"))) sSkip) (sSeq (sAsg "inner" (ifF (vB (callF (isiA isT) (esCons (rdL "value") (esCons (cst (.glob (.ref 208))) esNil)))) (aF "items" (rdL "value")) (aF "values" (rdL "value")))) sSkip))
section
variable {φ φ':Nat->Nat} {ω ω':Tags} {N0:Nat} {H H0 H' H1 H2 H3 L M:List AO} {cells cells':List Cell} {n k i j q m l w s hl mr:Nat} {xs ys ts:List AV} {ws rest vs:List V} {met res held:List Nat} {v:V} {a b c:AV} {ρ ρ1:List (Str×AV)} {st:List V} {ds:List PyData} {es:List (Int×AV)}
section
variable (hw:ρ.lookup (Str.ofString "waiting")=some (.loc q)) (hm:ρ.lookup (Str.ofString "found")=some (.loc m))
include hw hm
variable {er:List (Str×AV)} {o:Nat}
theorem lb_r (hq:H[q]? = some (.list (xs++[.loc j]))) (hz:xs.length<1000000) (hj:(H.set q (.list xs))[j]? = some (.inst 117 er)) (ho:er.lookup (Str.ofString "owner")=some (.loc o)):ltB ⟨ρ,H⟩=some (.next,⟨(Str.ofString "value",.loc j)::ρ,(H.set q (.list xs)).set q (.list (xs++[.loc o]))⟩):=by
 have hw':=lk_ne (x:="value") (b:=.loc j) hw rfl
 have hv':((Str.ofString "value",AV.loc j)::ρ).lookup (Str.ofString "value")=some (.loc j):=List.lookup_cons_self
 have hz':xs.length<=1000000:=Nat.le_of_lt hz
 unfold ltB
 repeat' first|delta v_pop l_set v_app|(show (_:Prop); with_reducible assumption)|delta v_seq v_if v_val v_call v_cons v_nil v_cst v_attr v_loc v_isi v_asg v_tyI v_sn v_skip v_expr v_meth v_isL|with_reducible apply v_kT (by first|decide +kernel|(delta v_gd v_gnT v_gnF; assumption))|exact rfl
theorem lb_p {t u:Nat} (hq:H[q]? = some (.list (xs++[.loc j]))) (hz:xs.length<1000000) (hj:(H.set q (.list xs))[j]? = some (.inst 54 er)) (ho:er.lookup (Str.ofString "node")=some (.loc t)) (ht:(H.set q (.list xs))[t]? = some (.tup [.str "later",.loc u,.loc o])):ltB ⟨ρ,H⟩=some (.next,⟨(Str.ofString "value",.loc j)::ρ,(H.set q (.list xs)).set q (.list (xs++[.loc o]))⟩):=by
 have hw':=lk_ne (x:="value") (b:=.loc j) hw rfl
 have hv':((Str.ofString "value",AV.loc j)::ρ).lookup (Str.ofString "value")=some (.loc j):=List.lookup_cons_self
 have hz':xs.length<=1000000:=Nat.le_of_lt hz
 unfold ltB
 repeat' first|delta v_pop l_set v_app|(show (_:Prop); with_reducible assumption)|delta v_seq v_if v_val v_call v_cons v_nil v_cst v_attr v_loc v_isi v_asg v_tyI v_sn v_skip v_sub v_expr v_itSC v_meth v_isL|with_reducible apply v_kT (by first|decide +kernel|(delta v_gd v_gnT v_gnF; assumption))|with_reducible apply v_kF (by first|decide +kernel|(delta v_gd v_gnT v_gnF; assumption))|exact rfl|exact Nat.le_of_ble_eq_true rfl
theorem lb_s {x:Str} (hq:H[q]? = some (.list (xs++[.str x]))) (hz:xs.length<1000000):ltB ⟨ρ,H⟩=some (.next,⟨(Str.ofString "value",.str x)::ρ,H.set q (.list xs)⟩):=by
 unfold ltB
 repeat' first|delta v_pop|(show (_:Prop); with_reducible assumption)|delta v_seq v_if v_val v_call v_cons v_nil v_cst v_loc v_isi v_asg v_sn v_skip v_and v_meth v_isL|with_reducible apply v_kF (by first|decide +kernel|(delta v_gd v_gnT v_gnF; assumption))|with_reducible apply v_aF (by first|decide +kernel|(delta v_gd v_gnT v_gnF; assumption))|exact rfl
variable {C:Addr} {es0:List (Str×AV)} {z:Int}
theorem lb_old (hq:H[q]? = some (.list (xs++[.loc o]))) (hz:xs.length<1000000) (ho:(H.set q (.list xs))[o]? = some (.inst C es0)) (hC:isT (.ref C) (.ref 138)=some true) (hC2:isT (.ref C) (.ref 117)=some false) (hC3:isT (.ref C) (.ref 54)=some false) (hG:inT tG C (Str.ofString "number")=true) (hN:es0.lookup (Str.ofString "number")=some (.int z))
  (hd:(H.set q (.list xs))[m]? = some (dI es)) (hin:(!(es.lookup z).isSome)=false):ltB ⟨ρ,H⟩=some (.next,⟨(Str.ofString "value",.loc o)::ρ,H.set q (.list xs)⟩):=by
 have hm':=lk_ne (x:="value") (b:=.loc o) hm rfl
 have hv':((Str.ofString "value",AV.loc o)::ρ).lookup (Str.ofString "value")=some (.loc o):=List.lookup_cons_self
 unfold ltB
 repeat' first|delta v_pop dI_notin|with_reducible exact v_aF hin|with_reducible apply v_kF rfl|(show (_:Prop); with_reducible assumption)|delta v_seq v_if v_val v_call v_cons v_nil v_cst v_attr v_loc v_isi v_asg v_tyI v_sn v_skip v_cmp v_and v_meth v_isL|with_reducible apply v_kF (by first|decide +kernel|(delta v_gd v_gnT v_gnF; assumption))|with_reducible apply v_aT (by first|decide +kernel|(delta v_gd v_gnT v_gnF; assumption))|exact rfl|(with_reducible apply v_is; assumption)
theorem lb_new (hq:H[q]? = some (.list (xs++[.loc o]))) (hz:xs.length<1000000) (ho:(H.set q (.list xs))[o]? = some (.inst C es0)) (hC:isT (.ref C) (.ref 138)=some true) (hC2:isT (.ref C) (.ref 117)=some false) (hC3:isT (.ref C) (.ref 54)=some false) (hG:inT tG C (Str.ofString "number")=true) (hN:es0.lookup (Str.ofString "number")=some (.int z))
  (hd:(H.set q (.list xs))[m]? = some (dI es)) (hin:(!(es.lookup z).isSome)=true) (hin2:es.lookup z=none) (hze:es.length<=1000000) (hI:∀ ρ',ρ'.lookup (Str.ofString "value")=some (.loc o)->ltI ⟨ρ',H.set q (.list xs)⟩=some (.next,⟨(Str.ofString "inner",.loc l)::ρ',H2⟩)) (hT:(compF NN (iList (rdL "inner")) [] (aName "part") tT (callF (runB ["value"] [] d_law_told) (esCons (rdL "part") esNil))) ((Str.ofString "inner",.loc l)::(Str.ofString "value",.loc o)::ρ) H2=some (.loc i,H3))
  (ho3:H3[o]? = some (.inst C es0)) (hm3:H3[m]? = some (dI es)) (hmq:m≠q) (hml:m≠l) (hq3:H3[q]? = some (.list xs)) (hl3:H3[l]? = some (.list ys)) (hz2:xs.length+ys.length<=1000000):
  ltB ⟨ρ,H⟩=some (.next,⟨(Str.ofString "inner",.loc l)::(Str.ofString "value",.loc o)::ρ,(H3.set m (dI (es++[(z,.loc i)]))).set q (.list (xs++ys))⟩):=by
 have hm':=lk_ne (x:="value") (b:=.loc o) hm rfl
 have hm2:=lk_ne (x:="inner") (b:=.loc l) hm' rfl
 have hw2:=lk_ne (x:="inner") (b:=.loc l) (lk_ne (x:="value") (b:=.loc o) hw rfl) rfl
 have hv':((Str.ofString "value",AV.loc o)::ρ).lookup (Str.ofString "value")=some (.loc o):=List.lookup_cons_self
 have hv2:=lk_ne (x:="inner") (b:=.loc l) hv' rfl
 have hi2:((Str.ofString "inner",AV.loc l)::(Str.ofString "value",AV.loc o)::ρ).lookup (Str.ofString "inner")=some (.loc l):=List.lookup_cons_self
 have hI':=hI _ hv'
 clear hI
 unfold ltI at hI'
 unfold ltB
 repeat' first|delta v_pop dI_notin|with_reducible apply v_aT hin|with_reducible apply v_kT rfl|delta dI_put|with_reducible apply l_ne (by assumption)|delta v_ext v_sqL|(show (_:Prop); with_reducible assumption)|delta v_seq v_if v_val v_call v_cons v_nil v_cst v_attr v_loc v_isi v_asg v_tyI v_sn v_skip v_put v_expr v_cmp v_and v_tt v_meth v_isL|with_reducible apply v_kF (by first|decide +kernel|(delta v_gd v_gnT v_gnF; assumption))|with_reducible apply v_aT (by first|decide +kernel|(delta v_gd v_gnT v_gnF; assumption))|exact rfl|(with_reducible apply v_is; assumption)
end
variable {es0:List (Str×AV)} {o:Nat}
theorem in_arr (ho:H[o]? = some (.inst 208 es0)) (h:es0.lookup (Str.ofString "items")=some (.loc l)):∀ ρ',ρ'.lookup (Str.ofString "value")=some (.loc o)->ltI ⟨ρ',H⟩=some (.next,⟨(Str.ofString "inner",.loc l)::ρ',H⟩):=by
 intro ρ' hv
 unfold ltI
 repeat' first|(show (_:Prop); with_reducible assumption)|delta v_seq v_if v_val v_call v_cons v_nil v_cst v_attr v_loc v_isi v_asg v_tyI v_sn v_skip v_ife|with_reducible apply v_kF (by first|decide +kernel|(delta v_gd v_gnT v_gnF; assumption))|with_reducible apply v_eT (by first|decide +kernel|(delta v_gd v_gnT v_gnF; assumption))|exact rfl
theorem in_dat (ho:H[o]? = some (.inst 246 es0)) (h:es0.lookup (Str.ofString "values")=some (.loc l)):∀ ρ',ρ'.lookup (Str.ofString "value")=some (.loc o)->ltI ⟨ρ',H⟩=some (.next,⟨(Str.ofString "inner",.loc l)::ρ',H⟩):=by
 intro ρ' hv
 unfold ltI
 repeat' first|(show (_:Prop); with_reducible assumption)|delta v_seq v_if v_val v_call v_cons v_nil v_cst v_attr v_loc v_isi v_asg v_tyI v_sn v_skip v_ife|with_reducible apply v_kF (by first|decide +kernel|(delta v_gd v_gnT v_gnF; assumption))|with_reducible apply v_eF (by first|decide +kernel|(delta v_gd v_gnT v_gnF; assumption))|exact rfl
theorem in_tab {PL:Prs} (ho:H[o]? = some (.inst 227 es0)) (h:es0.lookup (Str.ofString "rows")=some (.loc w)) (hw:H[w]? = some (.list (PL.map fun p=>.loc p.1))) (hp:∀ p∈PL,H[p.1]? = some (.list [p.2.1,p.2.2])) (hz:PL.length<=90000):
  ∀ ρ',ρ'.lookup (Str.ofString "value")=some (.loc o)->ltI ⟨ρ',H⟩=some (.next,⟨(Str.ofString "inner",.loc H.length)::ρ',H++[.list (flatP PL)]⟩):=by
 intro ρ' hv
 have c:compF2 NN (iList (aF "rows" (rdL "value"))) (aName "pair") (iList (rdL "pair")) (aName "part") (rdL "part") ρ' H=some (.loc H.length,H++[.list (flatP PL)]):=
  comp2 (i_list (v_attr (v_loc hv) ho tg_227_rows h rfl) hw) (fun i p ys h=>n_list (l_old hw) (by rw [List.getElem?_map,h]; rfl)) (fun ys=>n_listE2 (l_old hw) (by rw [List.length_map])) hp hz
 unfold ltI
 repeat' first|(show (_:Prop); with_reducible assumption)|delta v_seq v_if v_val v_call v_cons v_nil v_cst v_loc v_isi v_asg v_tyI v_sn v_skip|with_reducible apply v_kT (by first|decide +kernel|(delta v_gd v_gnT v_gnF; assumption))|exact rfl
end
section
variable {φ φ':Nat->Nat} {ω ω':Tags} {N0:Nat} {H H0 H' H1 H2 H3 L M:List AO} {cells cells':List Cell} {n k i j q m l w s hl mr:Nat} {xs ys ts:List AV} {ws rest vs:List V} {met res held:List Nat} {v:V} {a b c:AV} {ρ ρ1:List (Str×AV)} {st:List V} {ds:List PyData} {es:List (Int×AV)} {fs:List (Nat×Nat)} {o o':AO}
noncomputable def fdE (fs:List (Nat×Nat)):List (Int×AV):=fs.map fun p:Nat×Nat=>((p.1:Int)+1,.loc p.2)
theorem fd_in {fs:List (Nat×Nat)}:((fdE fs).lookup ((n:Int)+1)).isSome=decide (n∈fs.map (·.1)):=by
 induction fs with
 |nil=>rfl
 |cons x r ih=>
  show (List.lookup ((n:Int)+1) (((x.1:Int)+1,AV.loc x.2)::fdE r)).isSome=_
  rw [List.lookup_cons]
  by_cases e:n=x.1
  ·subst e; simp
  ·have:(((n:Int)+1) == ((x.1:Int)+1))=false:=by simp; exact om193 e
   rw [this,List.map_cons,ih]; simp [e]
structure FoundAt (cells:List Cell) (H:List AO) (N q m:Nat) (p:Nat×Nat):Prop where
 lo:N<=p.2
 nq:p.2≠q
 nm:p.2≠m
 told:∃ ts,H[p.2]? = some (.list ts)/\TDs H ts ((partsN cells p.1).map (toldD cells))
theorem FoundAt.keep {N:Nat} {p:Nat×Nat} (h:FoundAt cells H N q m p) (K:KeepS H H') (f:∀ o,H[p.2]? = some o->H'[p.2]? = some o):FoundAt cells H' N q m p:=by
 refine ex1_2 (h.told) fun ts h1 h2=>?_
 exact ⟨h.lo,h.nq,h.nm,ts,f _ h1,h2.keep K⟩
structure LS (φ:Nat->Nat) (ω:Tags) (N0:Nat) (cells:List Cell) (H0:List AO) (q m:Nat) (ws:List V) (met:List Nat) (H:List AO):Prop where
 hw:HW φ ω N0 H cells
 old:∀ (i:Nat) (o:AO),H0[i]? = some o->H[i]? = some o
 wait:∃ xs,H[q]? = some (.list xs)/\VVs φ H ws xs
 found:∃ fs,H[m]? = some (dI (fdE fs))/\fs.map (·.1)=met/\∀ p∈fs,FoundAt cells H H0.length q m p
theorem old_set (h:∀ (i:Nat) (o:AO),H0[i]? = some o->H[i]? = some o) (hq:H0.length<=q):∀ (i:Nat) (o:AO),H0[i]? = some o->(H.set q o')[i]? = some o:=fun i o e=>l_ne (by have:=getElem?_lt e; exact om123 this hq) (h i o e)
theorem LS.put (S:LS φ ω N0 cells H0 q m (rest++[v]) met H) (hq0:ω q=(0,0,0)) (hqL:H0.length<=q) (hqm:q≠m) (hx:H[q]? = some (.list xs)) {zs:List AV} (hv:VVs φ H vs ys):LS φ ω N0 cells H0 q m vs met ((H.set q (.list zs)).set q (.list ys)):=by
 have e:(H.set q (.list zs)).set q (.list ys)=H.set q (.list ys):=List.set_set ..
 rw [e]
 have K:KeepS H (H.set q (.list ys)):=.set hx nostab
 refine ex1_3 (S.found) fun fs f1 f2 f3=>?_
 exact ⟨S.hw.set0 hx nostab hq0,old_set S.old hqL,⟨_,l_set hx,hv.keep K fun ZZ ZZ ZZ ZZ=>rfl⟩,fs,l_ne hqm f1,f2,fun p hp=>(f3 p hp).keep K fun o ho=>l_ne (Ne.symm (f3 p hp).nq) ho⟩
variable {B:Nat}
theorem inner_ok (W:HW φ ω N0 H cells) (hn:n<cells.length) (Sm:Small cells B) (hB:B<=9000):∃ l t ys,(∀ ρ',ρ'.lookup (Str.ofString "value")=some (.loc (φ n))->ltI ⟨ρ',H⟩=some (.next,⟨(Str.ofString "inner",.loc l)::ρ',H++t⟩))/\(H++t)[l]? = some (.list ys)/\VVs φ (H++t) (partsN cells n) ys:=by
 obtain ⟨cn,hc⟩:∃ cn,cells[n]? = some cn:=⟨_,List.getElem?_eq_getElem hn⟩
 have Cn:=W.cell n _ hc
 unfold partsN
 rw [hc]
 show ∃ l t xs,_/\_/\VVs φ (H++t) (partsC cn) xs
 cases cn with
 |arr vs=>
  obtain ⟨eo,l,b,t,xs,I,k2,k3,k4,k5,k6,k7,k8,k9,k10,k11⟩:=Cn
  exact ⟨l,[],xs,by rw [List.append_nil]; exact in_arr I.at' k7,by rw [List.append_nil]; exact k8,by rw [List.append_nil]; exact k10⟩
 |dat vs=>
  obtain ⟨eo,l,b,xs,I,k3,k4,k5,k7,k8,k9,k10,k11⟩:=Cn
  exact ⟨l,[],xs,by rw [List.append_nil]; exact in_dat I.at' k7,by rw [List.append_nil]; exact k8,by rw [List.append_nil]; exact k10⟩
 |tab rows=>
  obtain ⟨eo,e,p,w,R,I,k1,k2,k3,k4,k5,k6,k7,k8,k9,k10,k11,k12⟩:=Cn
  refine ex1_3 (k10.pl) fun PL p1 p2 p3=>?_
  have len:=k10.len
  have pl:PL.length=R.length:=by simpa using congrArg List.length p1
  have sz:rows.length<=B:=Sm n _ hc
  have ew:R.map (fun r=>AV.loc r.2.2)=PL.map fun p=>.loc p.1:=by
   have:=congrArg (List.map AV.loc) p1
   rw [List.map_map,List.map_map] at this; exact this.symm
  rw [ew] at k8
  exact ⟨_,_,_,in_tab I.at' k3 k8 p2 (om237 pl len sz hB),l_new,p3.keep .ext fun ZZ ZZ ZZ ZZ=>rfl⟩
set_option tactic.hygienic true in
theorem partsN_ok (O:OkC cells):∀ v∈partsN cells n,okV cells v:=fun v hv=>by
 unfold partsN at hv
 split at hv
 ·rename_i c hc; exact O n c hc v hv
 ·cases hv
theorem lt_h (O:OkC cells) (Sm:Small cells B) (hB:B<=9000) (S:LS φ ω N0 cells H0 q m (rest++[.h n]) met H) (hq0:ω q=(0,0,0)) (hm0:ω m=(0,0,0)) (hqL:H0.length<=q) (hmL:H0.length<=m) (hqm:q≠m) (hw:ρ.lookup (Str.ofString "waiting")=some (.loc q)) (hm:ρ.lookup (Str.ofString "found")=some (.loc m)) (hn:n<cells.length)
  (hz:wts (rest++[.h n])<=90000) (hz2:wts (turnW cells (.h n) rest met).1<=90000) (hzm:met.length<=90000):∃ ρ' H',ltB ⟨ρ,H⟩=some (.next,⟨ρ',H'⟩)/\LS φ ω N0 cells H0 q m (turnW cells (.h n) rest met).1 (turnW cells (.h n) rest met).2 H'/\ρ'.lookup (Str.ofString "waiting")=some (.loc q)/\ρ'.lookup (Str.ofString "found")=some (.loc m):=by
 refine ex1_2 (S.wait) fun xs0 hx hvv=>?_
 refine ex2_3 (hvv.snoc) fun xs a zz2 h1 h2=>?_; subst zz2
 cases h2
 refine ex1_3 (S.found) fun fs f1 f2 f3=>?_
 have W1:=S.hw.set0 (o':=.list xs) hx nostab hq0
 have K1:KeepS H (H.set q (.list xs)):=.set hx nostab
 have ht:=holder_tag W1 hn
 refine ex2_8 (holder_at (W1.cell n _ (List.getElem?_eq_getElem hn))) fun C es0 I t1 t2 t3 g1 g2 g3 g4=>?_
 have hd:(H.set q (.list xs))[m]? = some (dI (fdE fs)):=l_ne hqm f1
 have e1:=h1.len
 have l1:=wts_len (ws:=rest++[.h n])
 simp only [List.length_append,List.length_singleton] at l1
 have tw:turnW cells (.h n) rest met=if n∈met then (rest,met) else (rest++partsN cells n,met++[n]):=rfl
 rw [tw] at hz2 ⊢
 by_cases e:n∈met
 ·rw [if_pos e]
  refine ⟨_,_,lb_old hw hm hx (om214 l1 hz e1) I.at' t1 t2 t3 g2 I.number hd (by rw [fd_in,f2,decide_eq_true e]; rfl),⟨W1,old_set S.old hqL,⟨_,l_set hx,h1.keep K1 fun ZZ ZZ ZZ ZZ=>rfl⟩,fs,hd,f2,fun p hp=>(f3 p hp).keep K1 fun o ho=>l_ne (Ne.symm (f3 p hp).nq) ho⟩,lk_ne hw rfl,lk_ne hm rfl⟩
 ·rw [if_neg e] at hz2 ⊢
  refine ex3_3 (inner_ok W1 hn Sm hB) fun l t ys hI hl2 hy=>?_
  have e2:=hy.len
  have l2:=wts_len (ws:=rest++partsN cells n)
  simp only [List.length_append] at l2 hz2
  refine ex2_2 (told_list (ρ:=(Str.ofString "inner",.loc l)::(Str.ofString "value",.loc (φ n))::ρ) (f:=rdL "inner") (cap:=[]) (W1.ext (t:=t)) hl2 hy (partsN_ok O) (om273 l1 l2 hz hz2 e1) (v_loc List.lookup_cons_self)) fun ts G hT hD=>?_
  have lk:(fdE fs).lookup ((n:Int)+1)=none:=by
   have:=fd_in (n:=n) (fs:=fs)
   rw [f2,decide_eq_false e] at this
   cases h:(fdE fs).lookup ((n:Int)+1) with
   |none=>rfl
   |some x=>rw [h] at this; exact tf this
  have hd2:(H.set q (.list xs)++t)[m]? = some (dI (fdE fs)):=l_old hd
  have hml:m≠l:=fun z=>by
   rw [z,hl2] at hd2
   cases h:fdE fs <;> (rw [h] at hd2; cases hd2)
  have hq1:(H.set q (.list xs))[q]? = some (.list xs):=l_set hx
  have fl:fs.length=met.length:=by rw [<- f2,List.length_map]
  have run:=lb_new hw hm hx (om214 l1 hz e1) I.at' t1 t2 t3 g2 I.number hd (by rw [lk]; rfl) lk (by unfold fdE; rw [List.length_map]; exact om136 fl hzm) hI hT (l_old (l_old I.at')) (l_old hd2) (Ne.symm hqm) hml (l_old (l_old hq1)) (l_old hl2) (om266 l2 hz2 e1 e2)
  refine ⟨_,_,run,?_,lk_ne (lk_ne hw rfl) rfl,lk_ne (lk_ne hm rfl) rfl⟩
  have ql:=getElem?_lt hq1
  have ml:=getElem?_lt hd
  have W3:=(W1.ext (t:=t)).ext (t:=.list ts::G)
  have hd3:(H.set q (.list xs)++t++(.list ts::G))[m]? = some (dI (fdE fs)):=l_old hd2
  have K3:KeepS (H.set q (.list xs)++t++(.list ts::G)) ((H.set q (.list xs)++t++(.list ts::G)).set m (dI (fdE fs++[((n:Int)+1,.loc (H.set q (.list xs)++t).length)]))):=.set hd3 dI_stab
  have hq4:((H.set q (.list xs)++t++(.list ts::G)).set m (dI (fdE fs++[((n:Int)+1,.loc (H.set q (.list xs)++t).length)])))[q]? = some (.list xs):=l_ne (Ne.symm hqm) (l_old (l_old hq1))
  have K4:KeepS ((H.set q (.list xs)++t++(.list ts::G)).set m (dI (fdE fs++[((n:Int)+1,.loc (H.set q (.list xs)++t).length)]))) _:=.set (o':=.list (xs++ys)) hq4 nostab
  have Kall:=((K1.trans .ext).trans .ext).trans (K3.trans K4)
  refine ⟨(W3.set0 hd3 dI_stab hm0).set0 hq4 nostab hq0,old_set (old_set (fun i o h=>l_old (l_old (old_set S.old hqL i o h))) hmL) hqL,⟨_,l_set hq4,(h1.keep Kall fun ZZ ZZ ZZ ZZ=>rfl).append (hy.keep (KeepS.ext.trans (K3.trans K4)) fun ZZ ZZ ZZ ZZ=>rfl)⟩,fs++[(n,(H.set q (.list xs)++t).length)],?_,by rw [List.map_append,f2]; rfl,fun p hp=>?_⟩
  ·have:fdE (fs++[(n,(H.set q (.list xs)++t).length)])=fdE fs++[((n:Int)+1,.loc (H.set q (.list xs)++t).length)]:=by unfold fdE; rw [List.map_append]; rfl
   rw [this]
   exact l_ne hqm (l_set hd3)
  ·rcases List.mem_append.mp hp with h|h
   ·exact (f3 p h).keep Kall fun o ho=>l_ne (Ne.symm (f3 p h).nq) (l_ne (Ne.symm (f3 p h).nm) (l_old (l_old (l_ne (Ne.symm (f3 p h).nq) ho))))
   ·rw [List.mem_singleton.mp h]
    have hlen:(H.set q (.list xs)++t).length=H.length+t.length:=by rw [List.length_append,List.length_set]
    rw [List.length_set] at ql ml
    exact ⟨by show _<=(H.set q (.list xs)++t).length; exact om227 ql hlen hqL,by show (H.set q (.list xs)++t).length≠q; exact om175 ql hlen,by show (H.set q (.list xs)++t).length≠m; exact om175 ml hlen,ts,l_ne (by show q≠(H.set q (.list xs)++t).length; exact om174 ql hlen) (l_ne (by show m≠(H.set q (.list xs)++t).length; exact om174 ml hlen) (l_tail (k:=0) rfl)),hD.keep (K3.trans K4)⟩
end
section
variable {φ φ':Nat->Nat} {ω ω':Tags} {N0:Nat} {H H0 H' H1 H2 H3 L M:List AO} {cells cells':List Cell} {n k i j q m l w s hl mr:Nat} {xs ys ts:List AV} {ws rest vs:List V} {met res held:List Nat} {v:V} {a b c:AV} {ρ ρ1:List (Str×AV)} {st:List V} {ds:List PyData} {es:List (Int×AV)} {fs:List (Nat×Nat)} {o o':AO}
theorem VVs.add (h:VVs φ H rest xs) (hv:VV φ H v a):VVs φ H (rest++[v]) (xs++[a]):=h.append (ws:=[v]) (bs:=[a]) ⟨hv,trivial⟩
variable {B:Nat}
theorem lt_turn (O:OkC cells) (Sm:Small cells B) (hB:B<=9000) (S:LS φ ω N0 cells H0 q m (rest++[v]) met H) (hq0:ω q=(0,0,0)) (hm0:ω m=(0,0,0)) (hqL:H0.length<=q) (hmL:H0.length<=m) (hqm:q≠m) (hw:ρ.lookup (Str.ofString "waiting")=some (.loc q)) (hm:ρ.lookup (Str.ofString "found")=some (.loc m)) (ok:okV cells v)
  (hz:wts (rest++[v])<=90000) (hz2:wts (turnW cells v rest met).1<=90000) (hzm:met.length<=90000):∃ ρ' H',ltB ⟨ρ,H⟩=some (.next,⟨ρ',H'⟩)/\LS φ ω N0 cells H0 q m (turnW cells v rest met).1 (turnW cells v rest met).2 H'/\ρ'.lookup (Str.ofString "waiting")=some (.loc q)/\ρ'.lookup (Str.ofString "found")=some (.loc m):=by
 cases v with
 |h n=>exact lt_h O Sm hB S hq0 hm0 hqL hmL hqm hw hm ok hz hz2 hzm
 |s x=>
  refine ex1_2 (S.wait) fun xs0 hx hvv=>?_
  refine ex2_3 (hvv.snoc) fun xs a zz2 h1 h2=>?_; subst zz2
  cases h2
  have l1:=wts_len (ws:=rest++[.s x])
  simp only [List.length_append,List.length_singleton] at l1
  have e1:=h1.len
  have P:=S.put (zs:=xs) hq0 hqL hqm hx h1
  rw [List.set_set] at P
  exact ⟨_,_,lb_s hw hm hx (om214 l1 hz e1),P,lk_ne hw rfl,lk_ne hm rfl⟩
 |r b n i=>
  refine ex1_2 (S.wait) fun xs0 hx hvv=>?_
  refine ex2_3 (hvv.snoc) fun xs a zz2 h1 h2=>?_; subst zz2
  obtain ⟨j,rfl,er,r1,r2,r3,r4⟩:=h2
  have l1:=wts_len (ws:=rest++[.r b n i])
  simp only [List.length_append,List.length_singleton] at l1
  have e1:=h1.len
  exact ⟨_,_,lb_r hw hm hx (om214 l1 hz e1) (KeepS.set hx nostab j _ r1 (.inr rfl)) r3,S.put hq0 hqL hqm hx (vs:=rest++[.h n]) (h1.add (v:=.h n) rfl),lk_ne hw rfl,lk_ne hm rfl⟩
 |p b n i=>
  refine ex1_2 (S.wait) fun xs0 hx hvv=>?_
  refine ex2_3 (hvv.snoc) fun xs a zz2 h1 h2=>?_; subst zz2
  obtain ⟨j,er,t,u,o,rfl,r1,r2,r3,r4,rf⟩:=h2
  have l1:=wts_len (ws:=rest++[.p b n i])
  simp only [List.length_append,List.length_singleton] at l1
  have e1:=h1.len
  exact ⟨_,_,lb_p hw hm hx (om214 l1 hz e1) (KeepS.set hx nostab j _ r1 (.inl rfl)) r2 (KeepS.set hx nostab t _ r3 trivial),S.put hq0 hqL hqm hx (vs:=rest++[.r b n i]) (h1.add (v:=.r b n i) ⟨o,rfl,rf⟩),lk_ne hw rfl,lk_ne hm rfl⟩
theorem lt_loop (O:OkC cells) (Sm:Small cells B) (hB:B<=9000) (hq0:ω q=(0,0,0)) (hm0:ω m=(0,0,0)) (hqL:H0.length<=q) (hmL:H0.length<=m) (hqm:q≠m) (S:LS φ ω N0 cells H0 q m ws [] H) (hw:ρ.lookup (Str.ofString "waiting")=some (.loc q)) (hm:ρ.lookup (Str.ofString "found")=some (.loc m)) (ok:∀ u∈ws,okV cells u)
  (hk:walkW cells k ws []=some res) (hz:wts ws+restW cells []<=90000):∃ ρ' H',whileA ndC ltB 100000 ⟨ρ,H⟩=some (.next,⟨ρ',H'⟩)/\LS φ ω N0 cells H0 q m [] res H'/\ρ'.lookup (Str.ofString "found")=some (.loc m):=by
 obtain ⟨⟨ρ',H'⟩,e,R,hm'⟩:=v_while (c:=ndC) (fb:=ltB) (fun nn σ=>∃ ws met k,LS φ ω N0 cells H0 q m ws met σ.H/\(∀ u∈ws,okV cells u)/\walkW cells k ws met=some res/\wts ws+restW cells met=nn/\met.length+nn<=90000/\σ.ρ.lookup (Str.ofString "waiting")=some (.loc q)/\σ.ρ.lookup (Str.ofString "found")=some (.loc m))
  (fun σ=>LS φ ω N0 cells H0 q m [] res σ.H/\σ.ρ.lookup (Str.ofString "found")=some (.loc m))
  (fun nn σ zz=>by
   obtain ⟨ws,met,k,S,ok,hk,hn,hz,hw,hm⟩:=zz
   refine ex1_2 (S.wait) fun xs hx hv=>?_
   have len:=hv.len
   have wl:=wts_len (ws:=ws)
   refine ⟨_,_,wcond hw hx (by omega),fun ht=>?_,fun ht=>?_⟩
   ·have:ws = []:=by
     have:=of_decide_eq_false ht
     exact List.eq_nil_of_length_eq_zero (by omega)
    subst this
    cases k with
    |zero=>exact ns hk
    |succ k=>
     have:met=res:=Option.some.inj hk
     subst this
     exact ⟨S,hm⟩
   ·have:=of_decide_eq_true ht
    rcases List.eq_nil_or_concat ws with rfl|⟨rest,v,rfl⟩
    ·rw [len] at this; exact absurd this (by decide)
    ·rw [List.concat_eq_append] at *
     cases k with
     |zero=>exact ns hk
     |succ k=>
      rw [walk_turn] at hk
      have okv:=ok v (by simp)
      have okr:∀ u∈rest,okV cells u:=fun u hu=>ok u (by simp [hu])
      refine ex0_2 (turn_dec (rest:=rest) (met:=met) okv) fun d1 d2=>?_
      refine ex2_4 (lt_turn O Sm hB S hq0 hm0 hqL hmL hqm hw hm okv (by omega) (by omega) (by omega)) fun ρ' H' hf S' w1 w2=>?_
      exact ⟨.next,_,hf,.inl rfl,_,(by rw [<- hn]; exact d1),_,_,k,S',turn_ok O okr okv,hk,rfl,by omega,w1,w2⟩)
  100000 _ ⟨ρ,H⟩ (om140 hz) ⟨ws,[],k,S,ok,hk,rfl,by simpa using hz,hw,hm⟩
 exact ⟨ρ',H',e,R,hm'⟩
def RowAt (N M:Nat) (H:List AO) (a:AV) (r:Int×List PyData):Prop:=∃ t p ts,a = .loc t/\H[t]? = some (.tup [.int r.1,.loc p])/\N<=p/\p<M/\H[p]? = some (.list ts)/\TDs H ts r.2
def RowsL (N M:Nat) (H:List AO):List AV->List (Int×List PyData)->Prop
 |[],[]=>True
 |a::as,r::rs=>RowAt N M H a r/\RowsL N M H as rs
 |_,_=>False
variable {N M:Nat}
theorem rows_snoc {r:Int×List PyData}:∀ {as:List AV} {rs:List (Int×List PyData)},RowsL N M H as rs->RowAt N M H a r->RowsL N M H (as++[a]) (rs++[r])
 |[],[],_,h=>⟨h,trivial⟩
 |_::_,_::_,h,h2=>⟨h.1,rows_snoc h.2 h2⟩
theorem rows_keep (K:KeepS H H') (f:∀ (p:Nat) (o:AO),N<=p->p<M->H[p]? = some o->H'[p]? = some o):∀ {as:List AV} {rs:List (Int×List PyData)},RowsL N M H as rs->RowsL N M H' as rs
 |[],[],_=>trivial
 |_::_,_::_,⟨⟨t,p,ts,e,h1,h2,h2',h3,h4⟩,h⟩=>⟨⟨t,p,ts,e,K t _ h1 trivial,h2,h2',f p _ h2 h2' h3,h4.keep K⟩,rows_keep K f h⟩
theorem head_keep {ys':List AV} {G:List AO}:KeepS (H++(.list ys::G)) (H++(.list ys'::G)):=by
 have e:H++(AO.list ys'::G)=(H++(.list ys::G)).set (H.length+0) (.list ys'):=by rw [set_tail]; rfl
 rw [e]
 exact KeepS.set (l_tail (k:=0) rfl) nostab
theorem fd_get {fs:List (Nat×Nat)} (h:n∈fs.map (·.1)):∃ p∈fs,p.1=n/\(fdE fs).lookup ((n:Int)+1)=some (.loc p.2):=by
 induction fs with
 |nil=>exact absurd h List.not_mem_nil
 |cons x r ih=>
  by_cases e:n=x.1
  ·subst e
   exact ⟨x,.head _,rfl,by show List.lookup _ (((x.1:Int)+1,AV.loc x.2)::fdE r)=_; rw [List.lookup_cons_self]⟩
  ·rw [List.map_cons] at h
   refine ex1_3 (ih ((List.mem_cons.mp h).resolve_left e)) fun p hp e1 e2=>?_
   refine ⟨p,.tail _ hp,e1,?_⟩
   show List.lookup _ (((x.1:Int)+1,AV.loc x.2)::fdE r)=_
   have:(((n:Int)+1) == ((x.1:Int)+1))=false:=by simp; exact om193 e
   rw [List.lookup_cons,this]; exact e2
theorem d_itI {k:Int} (h:H[m]? = some (dI es)) (hk:es.lookup k=some a):itemA (.loc m) (.int k) H=some a:=by
 unfold itemA
 cases es with
 |nil=>exact ns hk
 |cons e r=>simp only [h,dI]; exact hk
noncomputable def rowD (cells:List Cell) (n:Nat):Int×List PyData:=((n:Int)+1,(partsN cells n).map (toldD cells))
theorem lt_rows {SN:List Nat} (hm:ρ.lookup (Str.ofString "found")=some (.loc m)) (hd:H[m]? = some (dI (fdE fs))) (hl:H[l]? = some (.list ((SN.map fun n:Nat=>(n:Int)+1).map .int))) (hs:∀ n∈SN,n∈fs.map (·.1)) (hf:∀ p∈fs,FoundAt cells H N q m p) (hz:SN.length<=90000):∀ (k i:Nat) (ys:List AV) (G:List AO),i<=SN.length->SN.length - i<k->ys.length=i->RowsL N H.length (H++(.list ys::G)) ys ((SN.take i).map (rowD cells)) ->
  ∃ rs G',compA (nxList l) (aName "number") tT (tupF (esCons (rdL "number") (esCons (subF (rdL "found") (rdL "number")) esNil))) ρ (H.length+0) k i (H++(.list ys::G))=some (H++(.list rs::G'))/\RowsL N H.length (H++(.list rs::G')) rs (SN.map (rowD cells)):=by
 intro k
 induction k with
 |zero=>intro i ys _ _ h; omega
 |succ k ih=>
  intro i ys G hi hk hy hT
  by_cases e:i=SN.length
  ·refine ⟨ys,G,c_over (n_listE2 (l_old hl) (by rw [List.length_map,List.length_map]; exact e.symm)),?_⟩
   rw [e,List.take_length] at hT; exact hT
  ·have hlt:i<SN.length:=om179 hy hi e
   have hg:=List.getElem?_eq_getElem hlt
   refine ex1_3 (fd_get (hs _ (List.getElem_mem hlt))) fun p hp e1 e2=>?_
   have hx:((SN.map fun n:Nat=>(n:Int)+1).map AV.int)[i]? = some (.int ((SN[i]:Int)+1)):=by rw [List.getElem?_map,List.getElem?_map,hg]; rfl
   have run':tupF (esCons (rdL "number") (esCons (subF (rdL "found") (rdL "number")) esNil)) ((Str.ofString "number",.int ((SN[i]:Int)+1))::ρ) (H++(.list ys::G))=some (.loc (H.length+(AO.list ys::G).length),H++((.list ys::G)++[.tup [.int ((SN[i]:Int)+1),.loc p.2]])):=
    t_tup (v_cons (v_loc List.lookup_cons_self) (v_cons (v_sub (v_loc (lk_ne hm rfl)) (v_loc List.lookup_cons_self) (d_itI (l_old hd) e2)) v_nil)) (Nat.le_of_ble_eq_true rfl)
   have K:KeepS (H++((.list ys::G)++[.tup [.int ((SN[i]:Int)+1),.loc p.2]])) (H++(.list (ys++[AV.loc (H.length+(AO.list ys::G).length)])::(G++[.tup [.int ((SN[i]:Int)+1),.loc p.2]]))):=head_keep
   have K0:KeepS (H++(.list ys::G)) (H++(.list (ys++[AV.loc (H.length+(AO.list ys::G).length)])::(G++[.tup [.int ((SN[i]:Int)+1),.loc p.2]]))):=by
    refine KeepS.trans ?_ K
    rw [<- List.append_assoc]; exact .ext
   refine ex1_2 ((hf p hp).told) fun ts t1 t2=>?_
   have plt:=getElem?_lt t1
   refine ex2_2 (ih (i+1) (ys++[AV.loc (H.length+(AO.list ys::G).length)]) (G++[.tup [.int ((SN[i]:Int)+1),.loc p.2]]) (om151 hlt hy) (om267 hk hlt hy e) (by rw [List.length_append,hy]; rfl) (by
    rw [List.take_succ,hg,Option.toList_some,List.map_append]
    refine rows_snoc (rows_keep K0 (fun p o ZZ hp h=>?_) hT) ⟨_,p.2,ts,rfl,K _ _ t_new trivial,(hf p hp).lo,plt,l_old t1,by rw [e1] at t2; exact t2.keep (KeepS.ext)⟩
    rw [List.getElem?_append_left hp] at h
    exact l_old h)) fun rs G' h1 h2=>?_
   exact ⟨rs,G',t_cturn (n_list (l_old hl) hx) v_nm rfl run' rfl (om196 hlt hz hy) h1,h2⟩
end
section
variable {φ φ':Nat->Nat} {ω ω':Tags} {N0:Nat} {H H0 H' H1 H2 H3 L M:List AO} {cells cells':List Cell} {n k i j q m l w s hl mr:Nat} {xs ys ts:List AV} {ws rest vs:List V} {met res held:List Nat} {v:V} {a b c:AV} {ρ ρ1:List (Str×AV)} {st:List V} {ds:List PyData} {es:List (Int×AV)} {fs:List (Nat×Nat)} {o o':AO}
variable {ew:List (Str×AV)}
theorem comp3 {nx:Nx} (h0:∀ H,nx 0 H=some (some (.str "A",H))) (h1:∀ H,nx 1 H=some (some (.str "B",H))) (h2:∀ H,nx 2 H=some (some (.str "C",H))) (h3:∀ H,nx 3 H=some none)
  (hw:ρ.lookup (Str.ofString "world")=some (.loc w)) (x1:H[w]? = some (.inst 348 ew)) (x2:ew.lookup (Str.ofString "store")=some (.loc s)) (x3:H[s]? = some (.dstr [("A",a),("B",b),("C",c)])):
  compA nx (aName "name") tT (subF (aF "store" (rdL "world")) (rdL "name")) ρ (H.length+0) NN 0 (H++[.list []])=some (H++[.list [a,b,c]]):=by
 have one:∀ (x:String) (v:AV) (L:List AO),(decide ("world" = "name"))=false->([(Str.ofString "A",a),("B",b),("C",c)]:List (Str×AV)).lookup (Str.ofString x)=some v->subF (aF "store" (rdL "world")) (rdL "name") ((Str.ofString "name",.str x)::ρ) (H++L)=some (v,H++L):=fun x v L hn hv=>
  v_sub (v_attr (v_loc (lk_ne hw hn)) (l_old x1) tg_348_store x2 rfl) (v_loc List.lookup_cons_self) (v_itD (l_old x3) hv)
 apply c_NN
 refine t_cturn (k:=0) (h0 _) v_nm rfl (one "A" a _ rfl (by kernel_rfl)) rfl (Nat.le_of_ble_eq_true rfl) ?_
 refine t_cturn (k:=0) (h1 _) v_nm rfl (one "B" b _ rfl (by kernel_rfl)) rfl (Nat.le_of_ble_eq_true rfl) ?_
 refine t_cturn (k:=0) (h2 _) v_nm rfl (one "C" c _ rfl (by kernel_rfl)) rfl (Nat.le_of_ble_eq_true rfl) ?_
 exact c_over (h3 _)
theorem abc_comp (hw:(resK ["world"] ρ).lookup (Str.ofString "world")=some (.loc w)) (x1:H[w]? = some (.inst 348 ew)) (x2:ew.lookup (Str.ofString "store")=some (.loc s)) (x3:H[s]? = some (.dstr [("A",a),("B",b),("C",c)])):
  compF NN (iStr (cst (.str "ABC"))) ["world"] (aName "name") tT (subF (aF "store" (rdL "world")) (rdL "name")) ρ H=some (.loc H.length,H++[.list [a,b,c]]):=by
 have h:=comp3 (nx:=nxStr "ABC") (fun H=>by kernel_rfl) (fun H=>by kernel_rfl) (fun H=>by kernel_rfl) (fun H=>by kernel_rfl) hw x1 x2 x3
 rw [Nat.add_zero] at h
 have i:iStr (cst (.str "ABC")) ρ H=some (nxStr "ABC",H):=by kernel_rfl
 unfold compF
 rw [i]
 simp only [h]
end
section
variable {φ φ':Nat->Nat} {ω ω':Tags} {N0:Nat} {H H0 H' H1 H2 H3 L M:List AO} {cells cells':List Cell} {n k i j q m l w s hl mr:Nat} {xs ys ts:List AV} {ws rest vs:List V} {met res held:List Nat} {v:V} {a b c:AV} {ρ ρ1:List (Str×AV)} {st:List V} {ds:List PyData} {es:List (Int×AV)} {fs:List (Nat×Nat)} {o o':AO}
theorem v_sortD (h:H[m]? = some (dI es)) (hz:(es.map (·.1)).length<64):sortedC [.loc m] H=some (.loc H.length,H++[.list ((sortI (es.map (·.1))).map .int)]):=by
 unfold sortedC
 cases es with
 |nil=>simp only [h,dI,keysI]; rfl
 |cons e r=>simp only [h,dI,keysI,hz,if_true]
variable {ρ':List (Str×AV)}
theorem e_eq {F:Fn AV} {r:AV×List AO} (e:F ρ H=some r) (h:ρ'=ρ):F ρ' H=some r:=by subst h; exact e
theorem led_run (hw1:compF NN (iStr (cst (.str "ABC"))) ["world"] (aName "name") tT (subF (aF "store" (rdL "world")) (rdL "name")) [("world",.loc w)] H=some (.loc H.length,H++[.list [a,b,c]])) (e:whileA ndC ltB 100000 ⟨[("found",.loc (H.length+1)),("waiting",.loc (H.length+0)),("world",.loc w)],H++[.list [a,b,c],.dnil,.tup [.loc (H.length+0),.loc (H.length+1)]]⟩=some (.next,⟨ρ',H1⟩))
  (hc:compF NN (iList (callF sortedC (esCons (rdL "found") esNil))) ["found"] (aName "number") tT (tupF (esCons (rdL "number") (esCons (subF (rdL "found") (rdL "number")) esNil))) ρ' H1=some (.loc l,H2)):runB ["world"] [] d_law_led_to [.loc w] H=some (.loc l,H2):=by
 have c1:compF NN (iStr (cst (.str "ABC"))) ["world"] (aName "name") tT (subF (aF "store" (rdL "world")) (rdL "name")) [("world",.loc w)] (H++[])=some (.loc (H.length+0),H++[.list [a,b,c]]):=by rw [List.append_nil,Nat.add_zero]; exact hw1
 apply t_start
 apply v_run rfl
 unfold d_law_led_to
 repeat' first|delta v_unp|with_reducible refine wf_eq e (by kernel_rfl) (by kernel_rfl) (by kernel_rfl)|with_reducible refine e_eq c1 (by kernel_rfl)|delta hc v_seq v_cons v_nil t_tup t_d0 t_new v_sr v_sn v_ret v_pair v_nm v_sqT|exact Nat.le_of_ble_eq_true rfl
theorem led_ok (R:RW φ ω N0 H cells w s st held) (O:OkC cells) {B:Nat} (Sm:Small cells B) (hB:B<=9000) (okS:∀ v∈st,okV cells v) (hk:walkW cells k st []=some res) (hz:wts st+restW cells []<=90000) {SN:List Nat} (hS:sortI (res.map fun n:Nat=>(n:Int)+1)=SN.map fun n:Nat=>(n:Int)+1) (hS2:∀ n∈SN,n∈res) (hr:res.length<64) (hz3:SN.length<=90000):
  ∃ r rs M H',runB ["world"] [] d_law_led_to [.loc w] H=some (.loc r,H')/\HW φ ω N0 H' cells/\(∀ (i:Nat) (o:AO),H[i]? = some o->H'[i]? = some o)/\H.length<=H'.length/\H.length<=r/\H'[r]? = some (.list rs)/\RowsL H.length M H' rs (SN.map (rowD cells)):=by
 refine ex1_1 (R.world) fun hl Wd=>?_
 obtain ⟨⟨ew,x1,x2,_⟩,_⟩:=Wd
 obtain ⟨⟨a,b,c,x3,hv⟩,_⟩:=R.store
 have c1:=abc_comp (ρ:=[("world",.loc w)]) (by kernel_rfl) x1 x2 x3
 refine ex2_3 (lt_loop (φ:=φ) (ω:=ω) (N0:=N0) (q:=H.length+0) (m:=H.length+1) (H0:=H) (H:=H++[.list [a,b,c],.dnil,.tup [.loc (H.length+0),.loc (H.length+1)]]) (ρ:=[("found",.loc (H.length+1)),("waiting",.loc (H.length+0)),("world",.loc w)]) O Sm hB (R.hw.hi _ (Nat.le_refl _)) (R.hw.hi _ (Nat.le_succ _)) (Nat.le_refl _) (Nat.le_succ _) (om22)
  ⟨R.hw.ext,fun i o h=>l_old h,⟨_,l_tail rfl,hv.keep .ext fun ZZ ZZ ZZ ZZ=>rfl⟩,[],l_tail rfl,rfl,fun ZZ h=>nomatch h⟩ (by kernel_rfl) (by kernel_rfl) okS hk hz) fun ρ' H1 e S hm=>?_
 refine ex1_3 (S.found) fun fs f1 f2 f3=>?_
 have ek:(fdE fs).map (·.1)=res.map fun n:Nat=>(n:Int)+1:=by
  rw [<- f2]; unfold fdE; rw [List.map_map,List.map_map]; rfl
 have srt:=v_sortD f1 (by rw [ek,List.length_map]; exact hr)
 rw [ek,hS] at srt
 refine ex2_2 (lt_rows (ρ:=resK ["found"] ρ') (m:=H.length+1) (fs:=fs) (l:=H1.length) (SN:=SN) (N:=H.length) (q:=H.length+0) (cells:=cells) (H:=H1++[AO.list ((SN.map fun n:Nat=>(n:Int)+1).map .int)]) (resK_in (List.mem_singleton.mpr rfl) hm) (l_old f1) l_new (fun n hn=>by rw [f2]; exact hS2 n hn) (fun p hp=>(f3 p hp).keep .ext fun o ho=>l_old ho) hz3 NN 0 [] [] (Nat.zero_le _) (by show SN.length - 0<100000; exact om67 hz3) rfl trivial) fun rs G h1 h2=>?_
 have hc:compF NN (iList (callF sortedC (esCons (rdL "found") esNil))) ["found"] (aName "number") tT (tupF (esCons (rdL "number") (esCons (subF (rdL "found") (rdL "number")) esNil))) ρ' H1=some (.loc (H1++[AO.list ((SN.map fun n:Nat=>(n:Int)+1).map .int)]).length,H1++[AO.list ((SN.map fun n:Nat=>(n:Int)+1).map .int)]++(.list rs::G)):=by
  unfold compF
  rw [i_list (v_call (v_cons (v_loc hm) v_nil) srt) l_new]
  rw [Nat.add_zero] at h1
  simp only [h1]
 have l1:=getElem?_lt f1
 exact ⟨_,rs,_,_,led_run c1 e hc,S.hw.ext.ext,fun i o h=>l_old (l_old (S.old i o h)),by simp only [List.length_append]; exact om178 l1,by simp only [List.length_append]; exact om131 l1,l_tail (k:=0) rfl,h2⟩
end
section
variable {H:List AO} {ρ:List (Str×AV)} {es:List (Str×AV)} {G G':List AO} {x:Str} {v:AV} {f:Fn AV} {rest:FnS} {r:AF'×Mine.St}
theorem putA_new:∀ {es:List (Str×AV)},es.lookup x=none->putA x v es=es++[(x,v)]
 |[],_=>rfl
 |(y,u)::es,h=>by
  rw [List.lookup_cons] at h
  by_cases e:x=y
  ·subst e; simp at h
  ·have:(x == y)=false:=by simpa using e
   rw [this] at h
   show (if y=x then _ else _)=_
   rw [if_neg (Ne.symm e),putA_new h]; rfl
theorem ws (hf:f ρ (H++(.inst 348 es::G))=some (v,H++(.inst 348 es::G'))) (hs:ρ.lookup (Str.ofString "self")=some (.loc (H.length+0))) (hG:inT tS 348 x=true) (hl:es.length.ble 100=true) (hn:es.lookup x=none) (h2:rest ⟨ρ,H++(.inst 348 (es++[(x,v)])::G')⟩=some r):sSeq (sSetA (inT tS) x f (rdL "self")) rest ⟨ρ,H++(.inst 348 es::G)⟩=some r:=by
 rw [<- putA_new hn] at h2
 exact v_seq (t_set (k:=0) hf (v_loc hs) rfl hG (Nat.le_of_ble_eq_true hl)) h2
theorem world_new:clsF 348 (runB ["self","width","most_steps","most_depth","most_length"] dsW d_World_init) [] H=some (.loc H.length,H++[.inst 348 [("width",.int 32),("most_steps",.int 5000),("most_depth",.int 30),("most_length",.int 5000),("most_items",.int 20000),("store",.loc (H.length+1)),("functions",.loc (H.length+2)),("labels",.loc (H.length+3)),("keywords",.loc (H.length+4)),("opsyns",.loc (H.length+5)),("inputs",.loc (H.length+6)),("outputs",.loc (H.length+7)),("traces",.loc (H.length+8)),("read_names",.loc (H.length+9)),("write_names",.loc (H.length+10)),("traced",.loc (H.length+11)),("steps",.int 0),("depth",.int 0),("nested",.int 0),("aside",.loc (H.length+12)),("made",.int 0),("holders",.loc (H.length+13)),("evaluate",.none),("make_code",.none),("matcher",.none),("kept_names",.loc (H.length+14))],.dnil,.dnil,.dnil,.dnil,.dnil,.list [],.list [],.list [],.dstr [("INPUT",.str "INPUT")],.dstr [("OUTPUT",.str "OUTPUT")],.dnil,.list [],.list [],.dnil]):=by
 apply t_fin
 ·apply t_cls
  apply v_runA rfl
  ·unfold d_World_init
   refine ws (v:=.int 32) (v_loc (by kernel_rfl)) (by kernel_rfl) ts_348_width (by kernel_rfl) (by kernel_rfl) ?_
   refine ws (v:=.int 5000) (v_loc (by kernel_rfl)) (by kernel_rfl) ts_348_most_steps (by kernel_rfl) (by kernel_rfl) ?_
   refine ws (v:=.int 30) (v_loc (by kernel_rfl)) (by kernel_rfl) ts_348_most_depth (by kernel_rfl) (by kernel_rfl) ?_
   refine ws (v:=.int 5000) (v_loc (by kernel_rfl)) (by kernel_rfl) ts_348_most_length (by kernel_rfl) (by kernel_rfl) ?_
   refine ws v_cst (by kernel_rfl) ts_348_most_items (by kernel_rfl) (by kernel_rfl) ?_
   refine ws t_d0 (by kernel_rfl) ts_348_store (by kernel_rfl) (by kernel_rfl) ?_
   refine ws t_d0 (by kernel_rfl) ts_348_functions (by kernel_rfl) (by kernel_rfl) ?_
   refine ws t_d0 (by kernel_rfl) ts_348_labels (by kernel_rfl) (by kernel_rfl) ?_
   refine ws t_d0 (by kernel_rfl) ts_348_keywords (by kernel_rfl) (by kernel_rfl) ?_
   refine ws t_d0 (by kernel_rfl) ts_348_opsyns (by kernel_rfl) (by kernel_rfl) ?_
   refine ws (t_list v_nil (Nat.zero_le _)) (by kernel_rfl) ts_348_inputs (by kernel_rfl) (by kernel_rfl) ?_
   refine ws (t_list v_nil (Nat.zero_le _)) (by kernel_rfl) ts_348_outputs (by kernel_rfl) (by kernel_rfl) ?_
   refine ws (t_list v_nil (Nat.zero_le _)) (by kernel_rfl) ts_348_traces (by kernel_rfl) (by kernel_rfl) ?_
   refine ws t_dS (by kernel_rfl) ts_348_read_names (by kernel_rfl) (by kernel_rfl) ?_
   refine ws t_dS (by kernel_rfl) ts_348_write_names (by kernel_rfl) (by kernel_rfl) ?_
   refine ws t_d0 (by kernel_rfl) ts_348_traced (by kernel_rfl) (by kernel_rfl) ?_
   refine ws v_cst (by kernel_rfl) ts_348_steps (by kernel_rfl) (by kernel_rfl) ?_
   refine ws v_cst (by kernel_rfl) ts_348_depth (by kernel_rfl) (by kernel_rfl) ?_
   refine ws v_cst (by kernel_rfl) ts_348_nested (by kernel_rfl) (by kernel_rfl) ?_
   refine ws (t_list v_nil (Nat.zero_le _)) (by kernel_rfl) ts_348_aside (by kernel_rfl) (by kernel_rfl) ?_
   refine ws v_cst (by kernel_rfl) ts_348_made (by kernel_rfl) (by kernel_rfl) ?_
   refine ws (t_list v_nil (Nat.zero_le _)) (by kernel_rfl) ts_348_holders (by kernel_rfl) (by kernel_rfl) ?_
   refine ws v_cst (by kernel_rfl) ts_348_evaluate (by kernel_rfl) (by kernel_rfl) ?_
   refine ws v_cst (by kernel_rfl) ts_348_make_code (by kernel_rfl) (by kernel_rfl) ?_
   refine ws v_cst (by kernel_rfl) ts_348_matcher (by kernel_rfl) (by kernel_rfl) ?_
   refine ws t_d0 (by kernel_rfl) ts_348_kept_names (by kernel_rfl) (by kernel_rfl) ?_
   exact v_skip
  ·rfl
 ·kernel_rfl
end
section
variable {φ φ':Nat->Nat} {ω ω':Tags} {N0:Nat} {H H0 H' H1 H2 H3 L M:List AO} {cells cells':List Cell} {n k i j q m l w s hl g B:Nat} {xs ys ts:List AV} {ws rest vs:List V} {met res held:List Nat} {v r:V} {a b c:AV} {ρ ρ1:List (Str×AV)} {st:List V} {o o':AO}
noncomputable def nameG (g:Nat):Str:=if g=0 then "A" else if g=1 then "B" else "C"
noncomputable def stD (a b c:AV):List (Str×AV):=[("A",a),("B",b),("C",c)]
theorem abc_mod (h:n<9):itemA (.str "ABC") (.int ((n:Int).fmod 3)) H=some (.str (nameG (n % 3))):=by
 exact nine (P:=fun n=>itemA (.str "ABC") (.int ((n:Int).fmod 3)) H=some (.str (nameG (n % 3)))) h (by kernel_rfl) (by kernel_rfl) (by kernel_rfl) (by kernel_rfl) (by kernel_rfl) (by kernel_rfl) (by kernel_rfl) (by kernel_rfl) (by kernel_rfl)
theorem abc_div (h:n<9):itemA (.str "ABC") (.int ((n:Int).fdiv 3)) H=some (.str (nameG (n / 3))):=by
 exact nine (P:=fun n=>itemA (.str "ABC") (.int ((n:Int).fdiv 3)) H=some (.str (nameG (n / 3)))) h (by kernel_rfl) (by kernel_rfl) (by kernel_rfl) (by kernel_rfl) (by kernel_rfl) (by kernel_rfl) (by kernel_rfl) (by kernel_rfl) (by kernel_rfl)
noncomputable def stG (st:List V) (g:Nat):V:=st.getD g (.s "")
theorem st_get (h:VVs φ H st [a,b,c]) (hg:g<3):∃ x,(stD a b c).lookup (nameG g)=some x/\VV φ H (stG st g) x:=by
 refine ex3_4 (vvx3 h) fun u v t e h1 h2 h3=>?_
 subst e
 exact thr3 (P:=fun g=>∃ x,(stD a b c).lookup (nameG g)=some x/\VV φ H (stG [u,v,t] g) x) hg ⟨a,by kernel_rfl,h1⟩ ⟨b,by kernel_rfl,h2⟩ ⟨c,by kernel_rfl,h3⟩
theorem st_put (x:AV) (hg:g<3):∃ a' b' c',putK (stD a b c) (nameG g) x=stD a' b' c'/\(stD a' b' c').lookup (nameG g)=some x/\∀ {φ:Nat->Nat} {H:List AO} {st:List V} {r:V},VVs φ H st [a,b,c]->VV φ H r x->VVs φ H (st.set g r) [a',b',c']:=by
 refine thr3 (P:=fun g=>∃ a' b' c',putK (stD a b c) (nameG g) x=stD a' b' c'/\(stD a' b' c').lookup (nameG g)=some x/\∀ {φ:Nat->Nat} {H:List AO} {st:List V} {r:V},VVs φ H st [a,b,c]->VV φ H r x->VVs φ H (st.set g r) [a',b',c']) hg
  ⟨x,b,c,by kernel_rfl,by kernel_rfl,fun h hx=>?_⟩ ⟨a,x,c,by kernel_rfl,by kernel_rfl,fun h hx=>?_⟩ ⟨a,b,x,by kernel_rfl,by kernel_rfl,fun h hx=>?_⟩
 ·refine ex3_4 (vvx3 h) fun u v t e h1 h2 h3=>?_
  rw [e]; exact ⟨hx,h2,h3,trivial⟩
 ·refine ex3_4 (vvx3 h) fun u v t e h1 h2 h3=>?_
  rw [e]; exact ⟨h1,hx,h3,trivial⟩
 ·refine ex3_4 (vvx3 h) fun u v t e h1 h2 h3=>?_
  rw [e]; exact ⟨h1,h2,hx,trivial⟩
variable {es:List (Str×AV)}
theorem v_piS {x:Str} {u:AV} (h:H[l]? = some (.dstr es)) (hz:es.length<=1000000):putItem (.loc l) (.str x) u H=some (H.set l (.dstr (putK es x u))):=by
 unfold putItem
 simp only [h]
 rw [if_pos hz]
theorem dstr_stab:¬ Stab (.dstr es):=fun h=>h
theorem RW.store' (R:RW φ ω N0 H cells w s st held) (h3:H[s]? = some (.dstr (stD a b c))) {a' b' c':AV} (hv:VVs φ H ws [a',b',c']):RW φ ω N0 (H.set s (.dstr (stD a' b' c'))) cells w s ws held:=by
 have ht:=R.store.tag
 have K:KeepS H (H.set s (.dstr (stD a' b' c'))):=.set h3 dstr_stab
 have f:∀ (i:Nat) (o:AO),H[i]? = some o->(ω i).1≠9->(H.set s (.dstr (stD a' b' c')))[i]? = some o:=fun i o h q=>l_ne (fun e=>q (by rw [<- e,ht])) h
 refine ex1_1 (R.world) fun hl Wd=>?_
 exact ⟨R.hw.frame K (fun i o h q=>f i o h (om50 q)) (by simp),⟨hl,Wd.keep (fun ZZ ZZ=>rfl) .refl fun i o h q=>f i o h (om61 q)⟩,⟨a',b',c',l_set h3,hv.keep K fun ZZ ZZ ZZ ZZ=>rfl⟩,ht⟩
theorem RW.set0 (R:RW φ ω N0 H cells w s st held) (hq:H[q]? = some (.list xs)) (h0:ω q=(0,0,0)):RW φ ω N0 (H.set q (.list ys)) cells w s st held:=by
 have K:KeepS H (H.set q (.list ys)):=.set hq nostab
 have f:∀ (i:Nat) (o:AO),H[i]? = some o->(ω i).1≠0->(H.set q (.list ys))[i]? = some o:=fun i o h t=>l_ne (fun e=>t (by rw [<- e,h0])) h
 refine ex1_1 (R.world) fun hl Wd=>?_
 exact ⟨R.hw.set0 hq nostab h0,⟨hl,Wd.keep (fun ZZ ZZ=>rfl) .refl fun i o h q=>f i o h (om60 q)⟩,R.store.keep K (fun ZZ ZZ ZZ ZZ=>rfl) .refl fun i o h q=>f i o h (om10 q)⟩
theorem RW.more (R:RW φ ω N0 H cells w s st held) {t:List AO}:RW φ ω N0 (H++t) cells w s st held:=R.chg R.hw.ext .ext .refl rfl
theorem wts_le:∀ {vs:List V},wts vs<=3 * vs.length
 |[]=>Nat.le_refl _
 |v::r=>by
  have:=wts_le (vs:=r)
  have h:wtV v<=3:=by cases v <;> exact Nat.le_of_ble_eq_true rfl
  show (wtV v::r.map wtV).sum<=3 * (r.length+1)
  rw [List.sum_cons]; unfold wts at *; exact om208 this h
theorem sum_le {f:Nat->Nat} {M:Nat} (h:∀ n,f n<=M):∀ l:List Nat,(l.map f).sum<=M * l.length
 |[]=>Nat.le_refl _
 |x::r=>by
  have:=sum_le h r
  have:=h x
  rw [List.map_cons,List.sum_cons,List.length_cons,Nat.mul_succ]; exact om200 this (by assumption)
set_option tactic.hygienic true in
theorem parts_len (S:Small cells B):(partsN cells n).length<=2 * B+2:=by
 unfold partsN
 split
 ·rename_i c hc
  have:=S n c hc
  cases c with
  |arr vs=>show vs.length<=_; have:vs.length=2:=this; exact om77 this
  |dat vs=>show vs.length<=_; have:vs.length=2:=this; exact om77 this
  |tab rows=>show (rowsOf rows).length<=_; have:rows.length<=B:=this; rw [rowsOf_len]; exact om118 this
 ·exact Nat.zero_le _
theorem rest_le (S:Small cells B):restW cells met<=(6 * B+6) * cells.length:=by
 unfold restW
 have:=sum_le (f:=fun n=>if n∈met then 0 else wts (partsN cells n)) (M:=6 * B+6) (fun n=>by
  show (if n∈met then 0 else wts (partsN cells n))<=_
  split
  ·exact Nat.zero_le _
  ·have:=wts_le (vs:=partsN cells n)
   have:=parts_len (n:=n) S
   exact om222 this (by assumption)) (List.range cells.length)
 rw [List.length_range] at this; exact this
theorem search_ok (O:OkC cells) (S:Small cells B) (hB:B<=20) (hc:cells.length<=20) (okS:∀ v∈st,okV cells v) (hst:st.length=3):∃ res,walkW cells 90001 st []=some res/\Walked cells st [] res/\wts st+restW cells []<=90000/\res.length<64:=by
 have h1:=wts_le (vs:=st)
 have h2:=rest_le (met:=[]) S
 have h3:(6 * B+6) * cells.length<=126 * 20:=Nat.mul_le_mul (om66 hB) hc
 have hz:wts st+restW cells []<=90000:=om259 hst h3 h1 h2
 refine ex1_2 (walkW_ok (cells:=cells) (fun n v hv=>(partsN_ok O v hv).num) 90001 st [] (fun v hv=>(okS v hv).num) (fun ZZ h=>nomatch h) .nil (om133 hz) (fun ZZ h=>nomatch h)) fun res a W=>?_
 refine ⟨res,a,W,hz,?_⟩
 have p:res.Perm ((List.range cells.length).filter fun n=>decide (n∈res)):=(List.perm_ext_iff_of_nodup W.nd (List.nodup_range.filter _)).mpr fun n=>by
  rw [List.mem_filter,List.mem_range,decide_eq_true_iff]
  exact ⟨fun h=>⟨W.lt n h,h⟩,fun h=>h.2⟩
 have:=List.length_filter_le (fun n=>decide (n∈res)) (List.range cells.length)
 rw [<- p.length_eq,List.length_range] at this
 exact om87 hc this
end
noncomputable def loseF:Fn AV:=(binF (rdL "lost") (callF (runB ["world","more_roots"] [] d_collect) (esCons (rdL "world") (esCons (listF esNil) esNil))) addA)
noncomputable def ifB:FnS:=(sIf (cmpF (subF (rdL "moments") (rdL "turn")) (cst (.int 1)) eqK) (sSeq (sAsg "lost" (binF (rdL "lost") (callF (runB ["world","more_roots"] [] d_collect) (esCons (rdL "world") (esCons (listF esNil) esNil))) addA)) sSkip) sSkip)
noncomputable def deedB:FnS:=(sSeq (sSwap "goal" "other" (tupF (esCons (subF (cst (.str "ABC")) (binF (rdL "spots") (cst (.int 3)) modA)) (esCons (subF (cst (.str "ABC")) (binF (rdL "spots") (cst (.int 3)) divA)) esNil)))) (sSeq (sPut (callF (runB ["world","kind","goal","value"] [] d_law_done) (esCons (rdL "world") (esCons (rdL "kind") (esCons (rdL "goal") (esCons (subF (aF "store" (rdL "world")) (rdL "other")) esNil))))) (aF "store" (rdL "world")) (rdL "goal")) (sSeq (sExpr (methF appendC (rdL "heard") (esCons (callF (runB ["value"] [] d_law_told) (esCons (subF (aF "store" (rdL "world")) (rdL "goal")) esNil)) esNil))) sSkip)))
section
variable {φ φ':Nat->Nat} {ω ω':Tags} {N0:Nat} {H H0 H' H1 H2 H3 L M:List AO} {cells cells':List Cell} {n k i j q m l w s hl g B lo hd:Nat} {xs ys ts hs:List AV} {ws rest vs:List V} {met res held lost:List Nat} {v r:V} {a b c:AV} {ρ ρ1:List (Str×AV)} {st:List V} {o o':AO} {LL:List Int}
theorem sort_self (a:List Int):(sortI a).Perm a:=List.mergeSort_perm a _
theorem perm_map (lost gone:List Nat) (h:LL.Perm (lost.map fun n:Nat=>(n:Int)+1)):(LL++sortI (gone.map fun n:Nat=>(n:Int)+1)).Perm ((lost++gone).map fun n:Nat=>(n:Int)+1):=by
 rw [List.map_append]
 exact h.append (sort_self _)
theorem lose_ok (R:RW φ ω N0 H cells w s st held) (O:OkC cells) (S:Small cells B) (hB:B<=20) (hc:cells.length<=20) (okS:∀ v∈st,okV cells v) (hst:st.length=3) (K:KeptW cells st held lost) (hlo:H[lo]? = some (.list (LL.map .int))) (hp:LL.Perm (lost.map fun n:Nat=>(n:Int)+1)) (h0:ω lo=(0,0,0))
  (hw:ρ.lookup (Str.ofString "world")=some (.loc w)) (hl:ρ.lookup (Str.ofString "lost")=some (.loc lo)):
  ∃ (lo':Nat) (LL':List Int) (ω':Tags) (H':List AO),loseF ρ H=some (.loc lo',H')/\RW φ ω' N0 H' cells w s st (held.filter (reachB cells st))/\KeptW cells st (held.filter (reachB cells st)) (lost++held.filter fun m=>!reachB cells st m)/\H'[lo']? = some (.list (LL'.map .int))/\LL'.Perm ((lost++held.filter fun m=>!reachB cells st m).map fun n:Nat=>(n:Int)+1)/\ω' lo'=(0,0,0)/\Into φ ω H cells φ ω' H'/\H.length<=lo':=by
 refine ex1_4 (search_ok O S hB hc okS hst) fun res hk Wk hz hr=>?_
 have hin:∀ n,n∈res↔reachB cells st n=true:=fun n=>(walked_iff Wk n).trans reachB_iff.symm
 have hh:∀ n∈held,n<cells.length:=fun n hn=>by rw [K.held] at hn; exact List.mem_range.mp (List.mem_filter.mp hn).1
 have hhl:held.length<64:=by
  have:=List.length_filter_le (fun m=>decide (m∉lost)) (List.range cells.length)
  rw [<- K.held,List.length_range] at this; exact om87 hc this
 refine ex3_4 (collect_ok (R.more (t:=[.list []])) O S (om20 hB) hh okS hst l_new (R.hw.hi _ (Nat.le_refl _)) hk hz hr hhl) fun g H' ω' run hg R' I=>?_
 have f1:(held.filter fun n=>decide (n∈res))=held.filter (reachB cells st):=List.filter_congr fun n ZZ=>by
  by_cases e:n∈res
  ·rw [decide_eq_true e,(hin n).mp e]
  ·rw [decide_eq_false e]; cases h:reachB cells st n with
   |false=>rfl
   |true=>exact absurd ((hin n).mpr h) e
 have f2:(held.filter fun n=>decide (n∉res))=held.filter (fun m=>!reachB cells st m):=List.filter_congr fun n ZZ=>by
  by_cases e:n∈res
  ·rw [decide_eq_false (fun z=>z e),(hin n).mp e]; rfl
  ·rw [decide_eq_true e]; cases h:reachB cells st n with
   |false=>rfl
   |true=>exact absurd ((hin n).mpr h) e
 rw [f1] at R'
 rw [f2] at hg
 have I2:Into φ ω H cells φ ω' H':=Into.trans (cells':=cells) ⟨fun ZZ ZZ=>rfl,.refl,.ext,fun i o h ZZ=>l_old h,by rw [List.length_append]; exact om30⟩ I (Nat.le_refl _)
 have hlo':=I2.zero lo _ hlo (by rw [h0])
 have hpl:LL.length<=20:=by
  rw [hp.length_eq,List.length_map]
  have p:lost.Perm ((List.range cells.length).filter fun n=>decide (n∈lost)):=(List.perm_ext_iff_of_nodup K.nd (List.nodup_range.filter _)).mpr fun n=>by
   rw [List.mem_filter,List.mem_range,decide_eq_true_iff]
   exact ⟨fun h=>⟨(K.lost n h).1,h⟩,fun h=>h.2⟩
  have:=List.length_filter_le (fun n=>decide (n∈lost)) (List.range cells.length)
  rw [<- p.length_eq,List.length_range] at this; exact om88 hc this
 have hgl:(sortI ((held.filter fun m=>!reachB cells st m).map fun n:Nat=>(n:Int)+1)).length<=64:=by
  rw [(sort_self _).length_eq,List.length_map]
  have:=List.length_filter_le (fun m=>!reachB cells st m) held
  exact om83 hhl this
 have run2:loseF ρ H=some (.loc H'.length,H'++[.list (LL.map .int++(sortI ((held.filter fun m=>!reachB cells st m).map fun n:Nat=>(n:Int)+1)).map .int)]):=
  v_bin (v_loc hl) (v_call (v_cons (v_loc hw) (v_cons (v_list v_nil (Nat.zero_le _)) v_nil)) run) (v_add hlo' hg (by simp only [List.length_map]; exact om147 hpl hgl))
 rw [<- List.map_append] at run2
 exact ⟨_,_,ω',_,run2,R'.more,K.collect,l_new,perm_map _ _ hp,R'.hw.hi _ (Nat.le_refl _),Into.trans (cells':=cells) I2 ⟨fun ZZ ZZ=>rfl,.refl,.ext,fun i o h ZZ=>l_old h,by rw [List.length_append]; exact om30⟩ (Nat.le_refl _),I2.len⟩
theorem v_div {x:Int} (h:(decide (0<=x)&&decide (x<1000))=true):divA (.int x) (.int 3) H=some (.int (x.fdiv 3),H):=by
 unfold divA
 rw [Bool.and_eq_true,decide_eq_true_eq,decide_eq_true_eq] at h
 simp only [h,and_self,if_true]
theorem deed_run {sp:Int} {x y:Str} {ew ew':List (Str×AV)} {ds ds':List (Str×AV)} {r t:AV} {kd:Int} (hw:ρ.lookup (Str.ofString "world")=some (.loc w)) (hh:ρ.lookup (Str.ofString "heard")=some (.loc hd)) (hk:ρ.lookup (Str.ofString "kind")=some (.int kd)) (hs:ρ.lookup (Str.ofString "spots")=some (.int sp)) (hdiv:(decide (0<=sp)&&decide (sp<1000))=true)
  (e1:itemA (.str "ABC") (.int (sp.fmod 3)) H=some (.str x)) (e2:itemA (.str "ABC") (.int (sp.fdiv 3)) H=some (.str y)) (x1:(H++[.tup [.str x,.str y]])[w]? = some (.inst 348 ew)) (x2:ew.lookup (Str.ofString "store")=some (.loc s)) (x3:(H++[.tup [.str x,.str y]])[s]? = some (.dstr ds)) (x4:ds.lookup y=some a)
  (ed:runB ["world","kind","goal","value"] [] d_law_done [.loc w,.int kd,.str x,a] (H++[.tup [.str x,.str y]])=some (r,H1)) (y1:H1[w]? = some (.inst 348 ew')) (y2:ew'.lookup (Str.ofString "store")=some (.loc s)) (y3:H1[s]? = some (.dstr ds')) (hz:ds'.length<=1000000)
  (z1:(H1.set s (.dstr (putK ds' x r)))[w]? = some (.inst 348 ew')) (z3:(H1.set s (.dstr (putK ds' x r)))[s]? = some (.dstr (putK ds' x r))) (z4:(putK ds' x r).lookup x=some b) (q1:(H1.set s (.dstr (putK ds' x r)))[hd]? = some (.list xs)) (et:runB ["value"] [] d_law_told [b] (H1.set s (.dstr (putK ds' x r)))=some (t,H2)) (q2:H2[hd]? = some (.list xs)) (hz2:xs.length<=1000000):
  deedB ⟨ρ,H⟩=some (.next,⟨(Str.ofString "goal",.str x)::(Str.ofString "other",.str y)::ρ,H2.set hd (.list (xs++[t]))⟩):=by
 have w':=lk_ne (x:="goal") (b:=.str x) (lk_ne (x:="other") (b:=.str y) hw rfl) rfl
 have h':=lk_ne (x:="goal") (b:=.str x) (lk_ne (x:="other") (b:=.str y) hh rfl) rfl
 have k':=lk_ne (x:="goal") (b:=.str x) (lk_ne (x:="other") (b:=.str y) hk rfl) rfl
 have g':((Str.ofString "goal",AV.str x)::(Str.ofString "other",AV.str y)::ρ).lookup (Str.ofString "goal")=some (.str x):=List.lookup_cons_self
 have o':((Str.ofString "goal",AV.str x)::(Str.ofString "other",AV.str y)::ρ).lookup (Str.ofString "other")=some (.str y):=lk_ne List.lookup_cons_self rfl
 unfold deedB
 repeat' first|delta v_swap|with_reducible exact v_div hdiv|delta v_piS v_itD v_app|(show (_:Prop); with_reducible assumption)|delta v_seq v_call v_cons v_nil v_cst v_attr v_loc v_tup v_sn v_skip v_sub v_put v_expr v_bin v_meth v_isL l_new|exact rfl|exact Nat.le_of_ble_eq_true rfl
end
section
variable {φ φ':Nat->Nat} {ω ω':Tags} {N0:Nat} {H H0 H' H1 H2 H3 L M:List AO} {cells cells':List Cell} {n k i j q m l w s hl g B lo hd:Nat} {xs ys ts hs:List AV} {ws rest vs:List V} {met res held lost:List Nat} {v r:V} {a b c:AV} {ρ ρ1:List (Str×AV)} {st:List V} {o o':AO} {LL:List Int} {hdata:List PyData}
abbrev Mach:=List Cell×List V×List PyData
noncomputable def stepW (S:Mach) (d:Nat×Nat):Mach:=
 ((doneW S.1 d.1 (stG S.2.1 (d.2 % 3)) (stG S.2.1 (d.2 / 3))).2,S.2.1.set (d.2 % 3) (doneW S.1 d.1 (stG S.2.1 (d.2 % 3)) (stG S.2.1 (d.2 / 3))).1,S.2.2++[toldD (doneW S.1 d.1 (stG S.2.1 (d.2 % 3)) (stG S.2.1 (d.2 / 3))).2 (doneW S.1 d.1 (stG S.2.1 (d.2 % 3)) (stG S.2.1 (d.2 / 3))).1])
structure RunS (N0 w s hd:Nat) (φ:Nat->Nat) (ω:Tags) (S:Mach) (held lost:List Nat) (LL:List Int) (lo n:Nat) (H:List AO):Prop where
 rw':RW φ ω N0 H S.1 w s S.2.1 held
 ok:OkC S.1
 small:Small S.1 n
 len:S.1.length<=n
 okS:∀ v∈S.2.1,okV S.1 v
 st3:S.2.1.length=3
 kept:KeptW S.1 S.2.1 held lost
 lostAt:H[lo]? = some (.list (LL.map .int))
 perm:LL.Perm (lost.map fun n:Nat=>(n:Int)+1)
 lo0:ω lo=(0,0,0)
 heard:∃ hs,H[hd]? = some (.list hs)/\TDs H hs S.2.2/\hs.length<=n
 hd0:ω hd=(0,0,0)
 ne:lo≠hd
theorem stG_mem (h:st.length=3) (hg:g<3):stG st g∈st:=by
 unfold stG
 rw [List.getD_eq_getElem?_getD,List.getElem?_eq_getElem (om73 hg h),Option.getD_some]
 exact List.getElem_mem _
theorem deed_turn {S:Mach} {sp kd:Nat} (Z:RunS N0 w s hd φ ω S held lost LL lo n H) (hn:n<=15) (hkd:kd<11) (hsp:sp<9) (hw:ρ.lookup (Str.ofString "world")=some (.loc w)) (hh:ρ.lookup (Str.ofString "heard")=some (.loc hd)) (hk:ρ.lookup (Str.ofString "kind")=some (.int (kd:Int))) (hs:ρ.lookup (Str.ofString "spots")=some (.int (sp:Int))):
  ∃ x y φ' ω' held' H',deedB ⟨ρ,H⟩=some (.next,⟨(Str.ofString "goal",x)::(Str.ofString "other",y)::ρ,H'⟩)/\RunS N0 w s hd φ' ω' (stepW S (kd,sp)) held' lost LL lo (n+1) H'/\Ext ω ω' H/\(∀ (i:Nat) (o:AO),H[i]? = some o->(ω i).1=0->i≠hd->H'[i]? = some o)/\KeepS H H':=by
 obtain ⟨cells,st,hdata⟩:=S
 have R:RW φ ω N0 H cells w s st held:=Z.rw'
 have O:OkC cells:=Z.ok
 have Sm:Small cells n:=Z.small
 have okS:∀ v∈st,okV cells v:=Z.okS
 have Kp:KeptW cells st held lost:=Z.kept
 have clen:cells.length<=n:=Z.len
 refine ex1_3 (Z.heard) fun xs hx hT hxl=>?_
 have g1:sp % 3<3:=om3
 have g2:sp / 3<3:=om102 g1 hsp
 have m1:stG st (sp % 3)∈st:=stG_mem Z.st3 g1
 have m2:stG st (sp / 3)∈st:=stG_mem Z.st3 g2
 obtain ⟨⟨a,b,c,x3,hv⟩,_⟩:=R.store
 refine ex1_1 (R.world) fun hl zz1=>?_; obtain ⟨⟨ew,x1,x2,_⟩,_⟩:=zz1
 refine ex1_2 (st_get hv g1) fun v1 k1 w1=>?_
 refine ex1_2 (st_get hv g2) fun v2 k2 w2=>?_
 have hhl:∀ n∈held,n<cells.length:=fun n hn=>by have:=Kp.held; rw [this] at hn; exact List.mem_range.mp (List.mem_filter.mp hn).1
 have hhz:held.length<=100000:=by
  have h:=Kp.held
  have:=List.length_filter_le (fun m=>decide (m∉lost)) (List.range cells.length)
  rw [<- h,List.length_range] at this
  have:cells.length<=n:=clen
  exact om182 hn clen (by assumption)
 obtain ⟨φ',ω',H1,r,ed,R1,hr,I1⟩:=done_ok (x:=nameG (sp % 3)) (R.more (t:=[.tup [.str (nameG (sp % 3)),.str (nameG (sp / 3))]])) O.num hhl (fun v hv=>(okS v hv).num) hhz Sm (om19 hn) hkd (l_old x3) k1 (w1.keep .ext fun ZZ ZZ=>rfl) (w2.keep .ext fun ZZ ZZ=>rfl) (okS _ m1) (okS _ m2)
 refine ex0_2 (done_keeps (kind:=kd) O Sm (okS _ m1) (okS _ m2)) fun kp rok=>?_
 refine ex0_2 (done_step (R:=Reach cells st) (cells:=cells) (fun m hm u hu n hn=>.step hm hu hn) (kind:=kd) (fun n hn=>.root m1 hn) (fun n hn=>.root m2 hn)) fun sp1 sp2=>?_
 have kd':=Kp.deed (r:=(doneW cells kd (stG st (sp % 3)) (stG st (sp / 3))).1) (g:=sp % 3) sp1 (fun n hn=>(sp2 n hn).imp id fun h=>by exact om139 h) (k:=(doneW cells kd (stG st (sp % 3)) (stG st (sp / 3))).2.length - cells.length) (by have:=kp.len.2; exact om99 this)
 obtain ⟨⟨a1,b1,c1,y3,hv1⟩,st9⟩:=R1.store
 refine ex1_1 (R1.world) fun hl' zz1=>?_; obtain ⟨⟨ew',y1,y2,_⟩,_,wt8,_⟩:=zz1
 refine ex3_3 (st_put (a:=a1) (b:=b1) (c:=c1) r g1) fun a2 b2 c2 pk pl pv=>?_
 have R2:=R1.store' (a:=a1) (b:=b1) (c:=c1) y3 (pv hv1 hr)
 have K2:KeepS H1 (H1.set s (.dstr (stD a2 b2 c2))):=.set y3 dstr_stab
 refine ex2_2 (told_ok R2.hw (hr.keep K2 fun ZZ ZZ=>rfl) rok) fun t g3 et dt=>?_
 have Ha:∀ (i:Nat) (o:AO),H[i]? = some o->(ω i).1=0->H1[i]? = some o:=fun i o h q=>I1.zero i o (l_old h) q
 have hz1:∀ {i:Nat} {o:AO},H[i]? = some o->ω i=(0,0,0)->ω' i=(0,0,0):=fun h q=>(I1.ext _ (by rw [List.length_append]; have:=getElem?_lt h; exact om93 this)).trans q
 have sne:∀ {i:Nat},ω' i=(0,0,0)->s≠i:=fun h e=>by rw [<- e,st9] at h; cases h
 have hd':=hz1 hx Z.hd0
 have lo':=hz1 Z.lostAt Z.lo0
 have q1:(H1.set s (.dstr (stD a2 b2 c2)))[hd]? = some (.list xs):=l_ne (sne hd') (Ha _ _ hx (by rw [Z.hd0]))
 have wns:s≠w:=fun e=>by rw [<- e,st9] at wt8; cases wt8
 have run:=deed_run (ds:=stD a b c) (ds':=stD a1 b1 c1) hw hh hk hs (by rw [Bool.and_eq_true,decide_eq_true_eq,decide_eq_true_eq]; exact om198 hsp) (abc_mod hsp) (abc_div hsp) (l_old x1) x2 (l_old x3) k2 ed y1 y2 y3 (show 3<=1000000 by decide) (by rw [pk]; exact l_ne wns y1) (by rw [pk]; exact l_set y3) (by rw [pk]; exact pl) (by rw [pk]; exact q1) (by rw [pk]; exact et) (l_old q1) (om112 hn hxl)
 have R4:=(R2.more (t:=g3)).set0 (ys:=xs++[t]) (l_old q1) hd'
 have K4:KeepS (H1.set s (.dstr (stD a2 b2 c2))++g3) ((H1.set s (.dstr (stD a2 b2 c2))++g3).set hd (.list (xs++[t]))):=.set (l_old q1) nostab
 have Kall:KeepS H _:=(KeepS.ext.trans I1.stab).trans ((K2.trans .ext).trans K4)
 refine ⟨_,_,φ',ω',_,_,run,⟨R4,kp.ok,kp.small,?_,?_,?_,kd',l_ne (Ne.symm Z.ne) (l_old (l_ne (sne lo') (Ha _ _ Z.lostAt (by rw [Z.lo0])))),Z.perm,lo',⟨_,l_set (l_old q1),((hT.keep ((KeepS.ext.trans I1.stab).trans (K2.trans .ext))).snoc dt).keep K4,by rw [List.length_append]; exact Nat.succ_le_succ hxl⟩,hd',Z.ne⟩,fun i hi=>I1.ext i (by rw [List.length_append]; exact om93 hi),fun i o h q e=>?_,Kall⟩
 ·have:=kp.len.1
  have:cells.length<=n:=clen
  show (doneW cells kd (stG st (sp % 3)) (stG st (sp / 3))).2.length<=n+1
  exact om167 (by assumption) clen
 ·intro v hv
  rcases List.mem_or_eq_of_mem_set hv with h|rfl
  ·exact kp.mono.ok (okS v h)
  ·exact rok
 ·show (st.set (sp % 3) _).length=3
  rw [List.length_set]; exact Z.st3
 ·have i0:(ω' i).1=0:=by rw [I1.ext i (by rw [List.length_append]; have:=getElem?_lt h; exact om93 this)]; exact q
  exact l_ne (Ne.symm e) (l_old (l_ne (fun z=>by rw [<- z,st9] at i0; exact absurd i0 (by decide)) (Ha i o h q)))
end
section
variable {φ φ':Nat->Nat} {ω ω':Tags} {N0:Nat} {H Hs H0 H' H1 H2 H3 L M:List AO} {cells cells':List Cell} {n k i j q m l w s hl g B lo hd D Mm:Nat} {xs ys ts hs:List AV} {ws rest vs:List V} {met res held lost:List Nat} {v r:V} {a b c:AV} {ρ ρ1:List (Str×AV)} {st:List V} {o o':AO} {LL:List Int} {hdata:List PyData} {S:Mach}
theorem RunS.into (Z:RunS N0 w s hd φ ω S held lost LL lo n H) {R':RW φ ω N0 H' S.1 w s S.2.1 held} (K:KeepS H H') (f:∀ (i:Nat) (o:AO),H[i]? = some o->(ω i).1=0->H'[i]? = some o):RunS N0 w s hd φ ω S held lost LL lo n H':=by
 refine ex1_3 (Z.heard) fun hs h1 h2 h3=>?_
 exact ⟨R',Z.ok,Z.small,Z.len,Z.okS,Z.st3,Z.kept,f _ _ Z.lostAt (by rw [Z.lo0]),Z.perm,Z.lo0,⟨hs,f _ _ h1 (by rw [Z.hd0]),h2.keep K,h3⟩,Z.hd0,Z.ne⟩
theorem RunS.more (Z:RunS N0 w s hd φ ω S held lost LL lo n H) {t:List AO}:RunS N0 w s hd φ ω S held lost LL lo n (H++t):=Z.into (R':=Z.rw'.more) .ext fun i o h ZZ=>l_old h
theorem lose_turn (Z:RunS N0 w s hd φ ω S held lost LL lo n H) (hn:n<=15) (hw:ρ.lookup (Str.ofString "world")=some (.loc w)) (hl:ρ.lookup (Str.ofString "lost")=some (.loc lo)):
  ∃ (lo':Nat) (LL':List Int) (ω':Tags) (H':List AO),loseF ρ H=some (.loc lo',H')/\RunS N0 w s hd φ ω' S (held.filter (reachB S.1 S.2.1)) (lost++held.filter fun m=>!reachB S.1 S.2.1 m) LL' lo' n H'/\Into φ ω H S.1 φ ω' H':=by
 refine ex1_3 (Z.heard) fun hs h1 h2 h3=>?_
 have hlen:=Z.len
 refine ex4_8 (lose_ok Z.rw' Z.ok Z.small (om14 hn) (om86 hn hlen) Z.okS Z.st3 Z.kept Z.lostAt Z.perm Z.lo0 hw hl) fun lo' LL' ω' H' e R K c1 c2 c3 I c4=>?_
 have hlt:=getElem?_lt h1
 exact ⟨lo',LL',ω',H',e,⟨R,Z.ok,Z.small,Z.len,Z.okS,Z.st3,K,c1,c2,c3,⟨hs,I.zero _ _ h1 (by rw [Z.hd0]),h2.keep I.stab,h3⟩,(I.ext _ hlt).trans Z.hd0,by exact om123 hlt c4⟩,I⟩
variable {ms:List Int}
theorem if_turn (Z:RunS N0 w s hd φ ω S held lost LL lo n H) (hn:n<=15) (hw:ρ.lookup (Str.ofString "world")=some (.loc w)) (hl:ρ.lookup (Str.ofString "lost")=some (.loc lo)) (hm:ρ.lookup (Str.ofString "moments")=some (.loc Mm)) (ht:ρ.lookup (Str.ofString "turn")=some (.int (i:Int))) (hM:H[Mm]? = some (.list (ms.map .int))) (hi:i<ms.length) (hz:ms.length<=100000):
  ∃ held lost LL lo ω' ρ' H',ifB ⟨ρ,H⟩=some (.next,⟨ρ',H'⟩)/\RunS N0 w s hd φ ω' S held lost LL lo n H'/\Into φ ω H S.1 φ ω' H'/\ρ'.lookup (Str.ofString "lost")=some (.loc lo)/\∀ (x:String) (v:AV),(decide (x = "lost"))=false->ρ.lookup (Str.ofString x)=some v->ρ'.lookup (Str.ofString x)=some v:=by
 have hx:(ms.map AV.int)[i]? = some (.int ms[i]):=by rw [List.getElem?_map,List.getElem?_eq_getElem hi]; rfl
 have c:cmpF (subF (rdL "moments") (rdL "turn")) (cst (.int 1)) eqK ρ H=some (ms[i] == 1,H):=v_cmp (v_sub (v_loc hm) (v_loc ht) (v_itL hM (by rw [List.length_map]; exact om46 hz) hx)) v_cst rfl
 cases e:(ms[i] == 1) with
 |false=>
  refine ⟨held,lost,LL,lo,ω,ρ,H,v_if (c.trans (by rw [e])) (v_kF rfl v_skip),Z,.refl,hl,fun ZZ ZZ ZZ h=>h⟩
 |true=>
  refine ex4_3 (lose_turn Z hn hw hl) fun lo' LL' ω' H' run Z' I=>?_
  exact ⟨_,_,LL',lo',ω',_,H',v_if (c.trans (by rw [e])) (v_kT rfl (v_seq (v_asg run) (v_sn v_skip))),Z',I,List.lookup_cons_self,fun x v hx h=>lk_ne h hx⟩
structure DeedsAt (H:List AO) (D:Nat) (ds:List (Nat×Nat)):Prop where
 list:∃ ls,H[D]? = some (.list ls)/\ls.length=ds.length/\∀ (i:Nat) (d:Nat×Nat),ds[i]? = some d->∃ t,ls[i]? = some (.loc t)/\H[t]? = some (.tup [.int (d.1:Int),.int (d.2:Int)])
noncomputable def runW (ds:List (Nat×Nat)):Mach:=ds.foldl stepW ([],[.s "",.s "",.s ""],[])
theorem n_enum (hl:H[l]? = some (.list xs)) (hx:xs[i]? = some a):nxEnum l i H=some (some (.loc H.length,H++[.tup [.int i,a]])):=by unfold nxEnum; simp only [hl,hx]
theorem n_enumE (hl:H[l]? = some (.list xs)):nxEnum l xs.length H=some none:=by
 unfold nxEnum
 have:xs[xs.length]? = none:=by simp
 simp only [hl,this,if_true]
noncomputable def runBd:FnS:=sSeq ifB deedB
noncomputable def runTg:AV->Mine.St->Option Mine.St:=aPair (aName "turn") (aPair (aName "kind") (aName "spots"))
theorem run_loop {ds:List (Nat×Nat)} (hd':∀ d∈ds,d.1<11/\d.2<9) (hn:ds.length<=15) (hms:ms.length=ds.length) (hD:DeedsAt Hs D ds) (hM:Hs[Mm]? = some (.list (ms.map .int))) (Z:RunS Hs.length w s hd φ ω (runW []) held lost LL lo 0 H) (low:∀ (i:Nat) (o:AO),Hs[i]? = some o->H[i]? = some o) (hdL:Hs.length<=hd) (hw:ρ.lookup (Str.ofString "world")=some (.loc w)) (hh:ρ.lookup (Str.ofString "heard")=some (.loc hd)) (hl:ρ.lookup (Str.ofString "lost")=some (.loc lo)) (hm:ρ.lookup (Str.ofString "moments")=some (.loc Mm)) (hdd:ρ.lookup (Str.ofString "deeds")=some (.loc D)):
  ∃ φ ω held lost LL lo ρ' H',sFor NN (iCall enumG (esCons (rdL "deeds") esNil)) runTg runBd ⟨ρ,H⟩=some (.next,⟨ρ',H'⟩)/\RunS Hs.length w s hd φ ω (runW ds) held lost LL lo ds.length H'/\(∀ (i:Nat) (o:AO),Hs[i]? = some o->H'[i]? = some o)/\ρ'.lookup (Str.ofString "world")=some (.loc w)/\ρ'.lookup (Str.ofString "heard")=some (.loc hd)/\ρ'.lookup (Str.ofString "lost")=some (.loc lo):=by
 refine ex1_3 (hD.list) fun ls d1 d2 d3=>?_
 have hi:iCall enumG (esCons (rdL "deeds") esNil) ρ H=some (nxEnum D,H):=i_call (v_cons (v_loc hdd) v_nil) (by unfold enumG; simp only [low _ _ d1])
 obtain ⟨⟨ρ',H'⟩,run,φ',ω',held',lost',LL',lo',Z',low',q1,q2,q3,q4⟩:=v_for (σ:=⟨ρ,H⟩) (fa:=runTg) (fb:=runBd) hi ds.length (om181 hms hn d2)
  (fun i σ=>∃ φ ω held lost LL lo,RunS Hs.length w s hd φ ω (runW (ds.take i)) held lost LL lo i σ.H/\(∀ (i:Nat) (o:AO),Hs[i]? = some o->σ.H[i]? = some o)/\σ.ρ.lookup (Str.ofString "world")=some (.loc w)/\σ.ρ.lookup (Str.ofString "heard")=some (.loc hd)/\σ.ρ.lookup (Str.ofString "moments")=some (.loc Mm)/\σ.ρ.lookup (Str.ofString "lost")=some (.loc lo))
  ⟨φ,ω,held,lost,LL,lo,by rw [List.take_zero]; exact Z,low,hw,hh,hm,hl⟩
  (fun σ zz=>by obtain ⟨_,_,_,_,_,_,_,low,_⟩:=zz; rw [<- d2]; exact n_enumE (low _ _ d1))
  (fun i σ hi zz=>by
   obtain ⟨φ,ω,held,lost,LL,lo,Z,low,hw,hh,hm,hl⟩:=zz
   have hg:=List.getElem?_eq_getElem hi
   refine ex1_2 (d3 i _ hg) fun t t1 t2=>?_
   refine ex0_2 (hd' _ (List.getElem_mem hi)) fun b1 b2=>?_
   obtain ⟨held1,lost1,LL1,lo1,ω1,ρ2,H2,e1,Z2,I2,hl2,pres⟩:=if_turn (ms:=ms) (i:=i) (ρ:=(Str.ofString "spots",.int (ds[i].2:Int))::(Str.ofString "kind",.int (ds[i].1:Int))::(Str.ofString "turn",.int (i:Int))::σ.ρ) (Z.more (t:=[.tup [.int (i:Int),.loc t]])) (om224 hi hn hms d2) (lk_ne (lk_ne (lk_ne hw rfl) rfl) rfl) (lk_ne (lk_ne (lk_ne hl rfl) rfl) rfl) (lk_ne (lk_ne (lk_ne hm rfl) rfl) rfl) (lk_ne (lk_ne List.lookup_cons_self rfl) rfl) (l_old (low _ _ hM)) (om189 hi hms d2) (om235 hi hn hms d2)
   refine ex6_5 (deed_turn (kd:=ds[i].1) (sp:=ds[i].2) Z2 (om224 hi hn hms d2) b1 b2 (pres "world" _ rfl (lk_ne (lk_ne (lk_ne hw rfl) rfl) rfl)) (pres "heard" _ rfl (lk_ne (lk_ne (lk_ne hh rfl) rfl) rfl)) (pres "kind" _ rfl (lk_ne List.lookup_cons_self rfl)) (pres "spots" _ rfl List.lookup_cons_self)) fun x y φ' ω' held' H3 e2 Z3 E3 f3 K3=>?_
   have es:runW (ds.take (i+1))=stepW (runW (ds.take i)) (ds[i].1,ds[i].2):=by
    unfold runW
    rw [List.take_succ,hg,Option.toList_some,List.foldl_append]; rfl
   refine ⟨.loc σ.H.length,_,_,.next,_,n_enum (low _ _ d1) t1,v_pair (v_sqT l_new) v_nm (v_pair (v_sqT (l_old (low _ _ t2))) v_nm v_nm),v_seq e1 (v_sn e2),.inl rfl,φ',ω',held',lost1,LL1,lo1,by rw [es]; exact Z3,fun j o h=>?_,lk_ne (lk_ne (pres "world" _ rfl (lk_ne (lk_ne (lk_ne hw rfl) rfl) rfl)) rfl) rfl,lk_ne (lk_ne (pres "heard" _ rfl (lk_ne (lk_ne (lk_ne hh rfl) rfl) rfl)) rfl) rfl,lk_ne (lk_ne (pres "moments" _ rfl (lk_ne (lk_ne (lk_ne hm rfl) rfl) rfl)) rfl) rfl,lk_ne (lk_ne hl2 rfl) rfl⟩
   have jl:=getElem?_lt h
   exact f3 j o (I2.zero j o (l_old (low j o h)) (by rw [Z.rw'.hw.low j jl])) (by rw [Z2.rw'.hw.low j jl]) (om213 jl hdL hi))
 rw [List.take_length] at Z'
 exact ⟨φ',ω',held',lost',LL',lo',ρ',H',run,Z',low',q1,q2,q4⟩
end
section
variable {φ φ':Nat->Nat} {ω ω':Tags} {N0:Nat} {H Hs H0 H' H1 H2 H3 L M:List AO} {cells cells':List Cell} {n k i j q m l w s hl g B lo hd D Mm:Nat} {xs ys ts hs:List AV} {ws rest vs:List V} {met res held lost:List Nat} {v:V} {a b c:AV} {ρ ρ1:List (Str×AV)} {st:List V} {o o':AO} {LL:List Int} {hdata:List PyData} {S:Mach}
theorem world_newT:clsF 348 (runB ["self","width","most_steps","most_depth","most_length"] dsW d_World_init) [] (H++L)=some (.loc (H.length+L.length),H++(L++[.inst 348 [("width",.int 32),("most_steps",.int 5000),("most_depth",.int 30),("most_length",.int 5000),("most_items",.int 20000),("store",.loc (H.length+(L.length+1))),("functions",.loc (H.length+(L.length+2))),("labels",.loc (H.length+(L.length+3))),("keywords",.loc (H.length+(L.length+4))),("opsyns",.loc (H.length+(L.length+5))),("inputs",.loc (H.length+(L.length+6))),("outputs",.loc (H.length+(L.length+7))),("traces",.loc (H.length+(L.length+8))),("read_names",.loc (H.length+(L.length+9))),("write_names",.loc (H.length+(L.length+10))),("traced",.loc (H.length+(L.length+11))),("steps",.int 0),("depth",.int 0),("nested",.int 0),("aside",.loc (H.length+(L.length+12))),("made",.int 0),("holders",.loc (H.length+(L.length+13))),("evaluate",.none),("make_code",.none),("matcher",.none),("kept_names",.loc (H.length+(L.length+14)))],.dnil,.dnil,.dnil,.dnil,.dnil,.list [],.list [],.list [],.dstr [("INPUT",.str "INPUT")],.dstr [("OUTPUT",.str "OUTPUT")],.dnil,.list [],.list [],.dnil])):=by
 rw [world_new,List.length_append,List.append_assoc]; rfl
theorem for_eq {fi:FnI} {ta ta':AV->Mine.St->Option Mine.St} {fb fb':FnS} {σ σ':Mine.St} {r:AF'×Mine.St} (e:sFor NN fi ta fb σ=some r) (h1:ta'=ta) (h2:fb'=fb) (h3:σ'=σ):sFor NN fi ta' fb' σ'=some r:=by subst h1; subst h2; subst h3; exact e
noncomputable def tagsI:List (Nat×Nat×Nat):=[(8,0,0),(0,0,0),(0,0,0),(0,0,0),(0,0,0),(0,0,0),(0,0,0),(0,0,0),(0,0,0),(0,0,0),(0,0,0),(0,0,0),(0,0,0),(10,0,0),(0,0,0),(0,0,0),(0,0,0),(0,0,0),(9,0,0)]
noncomputable def tagsR (N:Nat):Tags:=fun i=>if i<N then (0,0,0) else tagsI.getD (i - N) (0,0,0)
theorem tagsR_tail {N:Nat}:tagsR N (N+k)=tagsI.getD k (0,0,0):=by
 unfold tagsR
 rw [if_neg (om40),Nat.add_sub_cancel_left]
noncomputable def heapI (Hs:List AO):List AO:=Hs++[.inst 348 [("width",.int 32),("most_steps",.int 5000),("most_depth",.int 30),("most_length",.int 5000),("most_items",.int 20000),("store",.loc (Hs.length+18)),("functions",.loc (Hs.length+2)),("labels",.loc (Hs.length+3)),("keywords",.loc (Hs.length+4)),("opsyns",.loc (Hs.length+5)),("inputs",.loc (Hs.length+6)),("outputs",.loc (Hs.length+7)),("traces",.loc (Hs.length+8)),("read_names",.loc (Hs.length+9)),("write_names",.loc (Hs.length+10)),("traced",.loc (Hs.length+11)),("steps",.int 0),("depth",.int 0),("nested",.int 0),("aside",.loc (Hs.length+12)),("made",.int 0),("holders",.loc (Hs.length+13)),("evaluate",.none),("make_code",.none),("matcher",.none),("kept_names",.loc (Hs.length+14))],.dnil,.dnil,.dnil,.dnil,.dnil,.list [],.list [],.list [],.dstr [("INPUT",.str "INPUT")],.dstr [("OUTPUT",.str "OUTPUT")],.dnil,.list [],.list [],.dnil,.list [],.list [],.tup [.loc (Hs.length+0),.loc (Hs.length+15),.loc (Hs.length+16)],.dstr [("A",.str ""),("B",.str ""),("C",.str "")]]
theorem run_init:RunS Hs.length (Hs.length+0) (Hs.length+18) (Hs.length+15) (fun ZZ=>0) (tagsR Hs.length) (runW []) [] [] [] (Hs.length+16) 0 (heapI Hs):=by
 have hi:∀ i,(heapI Hs).length<=i->tagsR Hs.length i=(0,0,0):=fun i hi=>by
  unfold heapI at hi
  rw [List.length_append] at hi
  obtain ⟨k,rfl⟩:∃ k,i=Hs.length+k:=⟨i - Hs.length,by exact om158 hi⟩
  rw [tagsR_tail,List.getD_eq_getElem?_getD,List.getElem?_eq_none]
  ·rfl
  ·show 19<=k
   have:Hs.length+19<=Hs.length+k:=hi
   exact om97 this
 refine ⟨⟨⟨(fun n c h=>by exact ns h),(fun i hi=>if_pos hi),(by unfold heapI; rw [List.length_append]; exact om30),hi⟩,⟨Hs.length+13,⟨⟨_,l_tail rfl,by kernel_rfl,by kernel_rfl,by kernel_rfl,by kernel_rfl,by kernel_rfl,Nat.le_of_ble_eq_true rfl⟩,l_tail rfl,tagsR_tail,tagsR_tail⟩⟩,⟨⟨.str "",.str "",.str "",l_tail rfl,rfl,rfl,rfl,trivial⟩,tagsR_tail⟩⟩,
  (fun n c h=>by exact ns h),(fun n c h=>by exact ns h),Nat.le_refl _,fun v hv=>?_,rfl,⟨rfl,.nil,fun ZZ h=>nomatch h⟩,l_tail rfl,.nil,tagsR_tail,⟨[],l_tail rfl,rfl,Nat.le_refl _⟩,tagsR_tail,by exact om31⟩
 have hv:v∈[V.s "",V.s "",V.s ""]:=hv
 simp only [List.mem_cons,List.not_mem_nil,or_false,or_self] at hv
 subst hv; exact okV_e
theorem fin_run {r lo':Nat} {LL' nums:List Int} {ew:List (Str×AV)} {mm:Int} (e1:sFor NN (iCall enumG (esCons (rdL "deeds") esNil)) runTg runBd ⟨[("world",.loc (Hs.length+0)),("heard",.loc (Hs.length+15)),("lost",.loc (Hs.length+16)),("moments",.loc Mm),("deeds",.loc D)],heapI Hs⟩=some (.next,⟨ρ1,H1⟩)) (q1:ρ1.lookup (Str.ofString "world")=some (.loc (Hs.length+0))) (q2:ρ1.lookup (Str.ofString "heard")=some (.loc hd))
  (e2:runB ["world"] [] d_law_led_to [.loc (Hs.length+0)] H1=some (.loc r,H2)) (e3:loseF ((Str.ofString "rows",.loc r)::ρ1) H2=some (.loc lo',H3)) (h3:H3[lo']? = some (.list (LL'.map .int))) (hz:LL'.length<64)
  (c:compF NN (iList (aF "holders" (rdL "world"))) [] (aName "holder") tT (aF "number" (rdL "holder")) ((Str.ofString "lost",.loc lo')::(Str.ofString "rows",.loc r)::ρ1) (H3++[.list ((sortI LL').map .int)])=some (.loc (H3++[AO.list ((sortI LL').map .int)]).length,H3++[.list ((sortI LL').map .int)]++[.list (nums.map .int)])) (x1:H3[Hs.length+0]? = some (.inst 348 ew)) (x2:ew.lookup (Str.ofString "made")=some (.int mm)):
  runB ["deeds","moments"] [] d_law_run [.loc D,.loc Mm] Hs=some (.loc (H3++[AO.list ((sortI LL').map .int)]++[AO.list (nums.map .int)]).length,H3++[AO.list ((sortI LL').map .int)]++[AO.list (nums.map .int)]++[.tup [.loc hd,.loc r,.loc H3.length,.loc (H3++[AO.list ((sortI LL').map .int)]).length,.int mm]]):=by
 have w1:=lk_ne (x:="lost") (b:=.loc lo') (lk_ne (x:="rows") (b:=.loc r) q1 rfl) rfl
 have w2:=lk_ne (x:="lost") (b:=.loc lo') (lk_ne (x:="rows") (b:=.loc r) q2 rfl) rfl
 have w3:((Str.ofString "lost",AV.loc lo')::(Str.ofString "rows",.loc r)::ρ1).lookup (Str.ofString "rows")=some (.loc r):=lk_ne List.lookup_cons_self rfl
 have w4:((Str.ofString "lost",AV.loc lo')::(Str.ofString "rows",.loc r)::ρ1).lookup (Str.ofString "lost")=some (.loc lo'):=List.lookup_cons_self
 unfold loseF at e3
 apply t_start
 apply v_run rfl
 unfold d_law_run
 apply v_seq (fl:=.next)
 ·skip
  repeat' first|delta world_newT v_swap3 v_call v_cons v_nil t_tup t_list t_new|exact Nat.le_of_ble_eq_true rfl
 apply v_sn
 apply v_seq (fl:=.next)
 ·skip
  repeat' first|delta v_loc t_dS t_set|((with_reducible apply t_at); exact rfl)|exact rfl|exact Nat.le_of_ble_eq_true rfl
 apply v_sn
 apply v_seq (for_eq e1 (by kernel_rfl) (by kernel_rfl) (by kernel_rfl))
 apply v_sn
 repeat' first|delta v_sorted|(show (_:Prop); with_reducible assumption)|delta v_seq v_call v_cons v_nil v_attr v_loc v_tup v_asg v_sr v_sn v_ret l_old|exact rfl|exact Nat.le_of_ble_eq_true rfl
end
section
variable {φ φ':Nat->Nat} {ω ω':Tags} {N0:Nat} {H Hs H0 H' H1 H2 H3 L M:List AO} {cells cells':List Cell} {n k i j q m l w s hl g B lo hd D Mm:Nat} {xs ys ts hs:List AV} {ws rest vs:List V} {met res held lost:List Nat} {v:V} {a b c:AV} {ρ ρ1:List (Str×AV)} {st:List V} {o o':AO} {LL:List Int} {hdata:List PyData} {S:Mach}
noncomputable def leftN (S:Mach):List Nat:=(List.range S.1.length).filter (reachB S.1 S.2.1)
noncomputable def goneN (S:Mach):List Nat:=(List.range S.1.length).filter fun m=>!reachB S.1 S.2.1 m
theorem up_lt {p:Nat->Bool} {N:Nat}:(((List.range N).filter p).map fun n:Nat=>(n:Int)+1).Pairwise (· < ·):=by
 rw [List.pairwise_map]
 exact (List.pairwise_lt_range.filter _).imp fun h=>by exact om210 h
structure RunTo (Hs H':List AO) (res:Nat) (S:Mach):Prop where
 low:∀ (i:Nat) (o:AO),Hs[i]? = some o->H'[i]? = some o
 tup:∃ hd r lo nu,H'[res]? = some (.tup [.loc hd,.loc r,.loc lo,.loc nu,.int (S.1.length:Int)])/\(∃ hs,H'[hd]? = some (.list hs)/\TDs H' hs S.2.2)/\(∃ rs N M,H'[r]? = some (.list rs)/\RowsL N M H' rs ((leftN S).map (rowD S.1)))/\H'[lo]? = some (.list (((goneN S).map fun n:Nat=>(n:Int)+1).map .int))/\H'[nu]? = some (.list (((leftN S).map fun n:Nat=>(n:Int)+1).map .int))
theorem run_ok {ds:List (Nat×Nat)} {ms:List Int} (hd':∀ d∈ds,d.1<11/\d.2<9) (hn:ds.length<=15) (hms:ms.length=ds.length) (hD:DeedsAt Hs D ds) (hM:Hs[Mm]? = some (.list (ms.map .int))):
  ∃ res H',runB ["deeds","moments"] [] d_law_run [.loc D,.loc Mm] Hs=some (.loc res,H')/\RunTo Hs H' res (runW ds):=by
 obtain ⟨φ,ω,held,lost,LL,lo,ρ1,H1,e1,Z,low1,q1,q2,q3⟩:=run_loop (w:=Hs.length+0) (s:=Hs.length+18) (hd:=Hs.length+15) (ρ:=[("world",.loc (Hs.length+0)),("heard",.loc (Hs.length+15)),("lost",.loc (Hs.length+16)),("moments",.loc Mm),("deeds",.loc D)]) hd' hn hms hD hM run_init (fun i o h=>l_old h) (om6) (by kernel_rfl) (by kernel_rfl) (by kernel_rfl) (by kernel_rfl) (by kernel_rfl)
 generalize hS:runW ds=S at *
 have len:=Z.len
 refine ex1_4 (search_ok Z.ok Z.small (om84 hms hn) (om166 hms hn len) Z.okS Z.st3) fun res hk Wk hz hr=>?_
 have hp:res.Perm (leftN S):=(List.perm_ext_iff_of_nodup Wk.nd (List.nodup_range.filter _)).mpr fun n=>by
  rw [List.mem_filter,List.mem_range,reachB_iff,<- walked_iff Wk]
  exact ⟨fun h=>⟨Wk.lt n h,h⟩,fun h=>h.2⟩
 have hs1:sortI (res.map fun n:Nat=>(n:Int)+1)=(leftN S).map fun n:Nat=>(n:Int)+1:=sort_perm (hp.map _) up_lt
 have ll:(leftN S).length<=S.1.length:=by
  have:=List.length_filter_le (reachB S.1 S.2.1) (List.range S.1.length)
  rw [List.length_range] at this; exact this
 refine ex4_7 (led_ok Z.rw' Z.ok Z.small (om98 hms hn) Z.okS hk hz hs1 (fun n h=>hp.mem_iff.mpr h) hr (om232 hms hn len ll)) fun r rs M H2 e2 W2 old2 len2 hr1 hr2 hrows=>?_
 have K2:KeepS H1 H2:=fun i o h ZZ=>old2 i o h
 have Z2:RunS Hs.length (Hs.length+0) (Hs.length+18) (Hs.length+15) φ ω S held lost LL lo ds.length H2:=Z.into (R':=Z.rw'.chg W2 ⟨K2,fun i o h ZZ=>old2 i o h,len2⟩ .refl rfl) K2 fun i o h ZZ=>old2 i o h
 refine ex4_3 (lose_turn (ρ:=(Str.ofString "rows",.loc r)::ρ1) Z2 hn (lk_ne q1 rfl) (lk_ne q3 rfl)) fun lo' LL' ω' H3 e3 Z3 I3=>?_
 refine ex0_2 (Z2.kept.final) fun f1 f2=>?_
 have hs2:sortI LL'=(goneN S).map fun n:Nat=>(n:Int)+1:=sort_perm (Z3.perm.trans (f2.map _)) up_lt
 have hll:LL'.length<64:=by
  rw [(Z3.perm.trans (f2.map _)).length_eq,List.length_map]
  have:=List.length_filter_le (fun m=>!reachB S.1 S.2.1 m) (List.range S.1.length)
  rw [List.length_range] at this; exact om225 hms hn len this
 refine ex1_1 (Z3.rw'.world) fun hl3 zz1=>?_; obtain ⟨⟨ew,x1,x2,x3,x4,_⟩,x8,_,_⟩:=zz1
 rw [f1] at x8
 have hlt:∀ n∈leftN S,n<S.1.length:=fun n h=>List.mem_range.mp (List.mem_filter.mp h).1
 have c:=comp_lst (ρ:=(Str.ofString "lost",.loc lo')::(Str.ofString "rows",.loc r)::ρ1) (f:=aF "holders" (rdL "world")) (H0:=H3++[.list ((sortI LL').map .int)]) (fa:=aName "holder") (fc:=tT) (fe:=aF "number" (rdL "holder")) (cap:=[]) (T:=(leftN S).map fun n=>(AV.loc (φ n),true,.int ((n:Int)+1))) (v_attr (v_loc (lk_ne (lk_ne q1 rfl) rfl)) (l_old x1) tg_348_holders x3 rfl) (l_old (by rw [List.map_map]; exact x8))
  (fun e he ys=>by
   refine ex1_2 (List.mem_map.mp he) fun n hn zz2=>?_; subst zz2
   refine ex2_8 (holder_at (Z3.rw'.hw.cell n _ (List.getElem?_eq_getElem (hlt n hn)))) fun C es0 I t1 t2 t3 g1 g2 g3 g4=>?_
   exact ⟨_,v_nm,rfl,fun ZZ=>v_attr (v_loc List.lookup_cons_self) (l_old (l_old I.at')) g2 I.number rfl⟩) (by rw [List.length_map]; exact om232 hms hn len ll)
 have oT:outT ((leftN S).map fun n=>(AV.loc (φ n),true,.int ((n:Int)+1)))=(((leftN S).map fun n:Nat=>(n:Int)+1).map .int):=by
  unfold outT
  rw [List.filter_map,List.map_map,List.map_map]
  congr 1
  rw [List.filter_eq_self]
  exact fun ZZ ZZ=>rfl
 rw [oT] at c
 have run:=fin_run e1 q1 q2 e2 e3 Z3.lostAt hll c x1 x4
 rw [hs2] at run
 refine ex1_3 (Z3.heard) fun hs y1 y2 ZZ=>?_
 have N1:=Z.rw'.hw
 refine ⟨_,_,run,fun i o h=>l_old (l_old (l_old (I3.zero i o (old2 i o (low1 i o h)) (by rw [N1.low i (getElem?_lt h)])))),_,r,_,_,l_new,⟨hs,l_old (l_old (l_old y1)),((y2.keep .ext).keep .ext).keep .ext⟩,⟨rs,H1.length,M,l_old (l_old (l_old (I3.zero r _ hr2 (by rw [N1.hi r hr1])))),?_⟩,l_old (l_old l_new),l_old l_new⟩
 exact rows_keep (((I3.stab.trans .ext).trans .ext).trans .ext) (fun p o h1 ZZ h=>l_old (l_old (l_old (I3.zero p o h (by rw [N1.hi p h1]))))) hrows
end
section
variable {φ φ':Nat->Nat} {ω ω':Tags} {N0:Nat} {H Hs H0 H' H1 H2 H3 L M:List AO} {cells cells':List Cell} {n k i j q m l w s:Nat} {xs ys ts hs:List AV} {v:V} {a b c:AV} {S:Mach} {ds:List PyData}
def dOk (n:Nat) (d:PyData):Prop:=d.canLay0=true/\d.depth<=n
variable {d:PyData}
theorem dOk.le (h:dOk n d) (hm:n<=m):dOk m d:=⟨h.1,Nat.le_trans h.2 hm⟩
theorem dOk_all:∀ {ds:List PyData},(∀ d∈ds,dOk n d)->PyData.canLayAll0 ds=true/\PyData.depthAll ds<=n
 |[],_=>⟨rfl,Nat.zero_le _⟩
 |d::r,h=>by
  obtain ⟨h1,h2⟩:=h d (.head _)
  refine ex0_2 (dOk_all fun x hx=>h x (.tail _ hx)) fun h3 h4=>?_
  exact ⟨by rw [PyData.canLayAll0,h1,h3]; rfl,by rw [PyData.depthAll]; exact Nat.max_le.mpr ⟨h2,h4⟩⟩
theorem dOk_list (h:∀ d∈ds,dOk n d):dOk (n+1) (.list ds):=by
 refine ex0_2 (dOk_all h) fun h1 h2=>?_
 exact ⟨by rw [PyData.canLay0]; exact h1,by rw [PyData.depth]; exact om89 h2⟩
theorem dOk_tup (h:∀ d∈ds,dOk n d):dOk (n+1) (.tuple ds):=by
 refine ex0_2 (dOk_all h) fun h1 h2=>?_
 exact ⟨by rw [PyData.canLay0]; exact h1,by rw [PyData.depth]; exact om89 h2⟩
theorem dOk_int {i:Int}:dOk 0 (.int i):=⟨by rw [PyData.canLay0],by rw [PyData.depth]; exact Nat.le_refl _⟩
theorem dOk_str {x:Str} (h:PyData.strOk x=true):dOk 0 (.str x):=⟨by rw [PyData.canLay0]; exact h,by rw [PyData.depth]; exact Nat.le_refl _⟩
theorem kn_ok {b:Bool}:PyData.strOk (kn b)=true:=by cases b <;> kernel_rfl
set_option tactic.hygienic true in
theorem wordN_ok:PyData.strOk (wordN cells n)=true:=by
 unfold wordN
 split
 ·rename_i c _; cases c <;> kernel_rfl
 ·kernel_rfl
variable {x y:PyData}
theorem three {z:PyData} (hx:dOk n x) (hy:dOk n y) (hz:dOk n z):∀ d∈[x,y,z],dOk n d:=fun d hd=>by
 simp only [List.mem_cons,List.not_mem_nil,or_false] at hd
 rcases hd with rfl|rfl|rfl
 ·exact hx
 ·exact hy
 ·exact hz
theorem two' (hx:dOk n x) (hy:dOk n y):∀ d∈[x,y],dOk n d:=fun d hd=>by
 simp only [List.mem_cons,List.not_mem_nil,or_false] at hd
 rcases hd with rfl|rfl
 ·exact hx
 ·exact hy
theorem toldD_ok (h:okV cells v):dOk 2 (toldD cells v):=by
 cases v with
 |s x=>exact (dOk_str h).le (Nat.zero_le _)
 |h n=>exact (dOk_tup (two' (dOk_str wordN_ok) dOk_int)).le (Nat.le_succ _)
 |r b n i=>exact (dOk_tup (three (dOk_str kn_ok) dOk_int dOk_int)).le (Nat.le_succ _)
 |p b n i=>exact dOk_tup (two' ((dOk_str (by kernel_rfl)).le (Nat.zero_le _)) (dOk_tup (three (dOk_str kn_ok) dOk_int dOk_int)))
structure MachOk (S:Mach):Prop where
 ok:OkC S.1
 small:∃ B,Small S.1 B
 st:∀ v∈S.2.1,okV S.1 v
 st3:S.2.1.length=3
 data:∀ d∈S.2.2,dOk 2 d
theorem mach_step {d:Nat×Nat} (hd:d.2<9) (Z:MachOk S):MachOk (stepW S d):=by
 refine ex1_1 (Z.small) fun B hB=>?_
 refine ex0_2 (done_keeps (kind:=d.1) Z.ok hB (Z.st _ (stG_mem Z.st3 (show d.2 % 3<3 by exact om3))) (Z.st _ (stG_mem Z.st3 (show d.2 / 3<3 by exact om29 hd)))) fun K rok=>?_
 refine ⟨K.ok,⟨_,K.small⟩,fun v hv=>?_,(List.length_set ..).trans Z.st3,fun x hx=>?_⟩
 ·rcases List.mem_or_eq_of_mem_set hv with h|rfl
  ·exact K.mono.ok (Z.st v h)
  ·exact rok
 ·rcases List.mem_append.mp hx with h|h
  ·exact Z.data x h
  ·rw [List.mem_singleton.mp h]; exact toldD_ok rok
theorem mach_ok:∀ (ds:List (Nat×Nat)) (S:Mach),(∀ d∈ds,d.1<11/\d.2<9)->MachOk S->MachOk (ds.foldl stepW S)
 |[],_,_,h=>h
 |d::r,S,hd,h=>mach_ok r _ (fun x hx=>hd x (.tail _ hx)) (mach_step (hd d (.head _)).2 h)
theorem mach_init:MachOk (runW []):=⟨fun n c h=>(by exact ns h),⟨0,fun n c h=>(by exact ns h)⟩,fun v hv=>by
 have hv:v∈[V.s "",V.s "",V.s ""]:=hv
 simp only [List.mem_cons,List.not_mem_nil,or_false,or_self] at hv
 subst hv; exact okV_e,rfl,fun ZZ h=>nomatch h⟩
noncomputable def rowP (r:Int×List PyData):PyData:=.tuple [.int r.1,.list r.2]
noncomputable def resD (S:Mach):PyData:=.tuple [.list S.2.2,.list (((leftN S).map (rowD S.1)).map rowP),.list (((goneN S).map fun n:Nat=>(n:Int)+1).map .int),.list (((leftN S).map fun n:Nat=>(n:Int)+1).map .int),.int S.1.length]
theorem ints_ok {ns:List Int}:∀ d∈ns.map PyData.int,dOk 0 d:=fun d hd=>by
 refine ex1_2 (List.mem_map.mp hd) fun i ZZ zz2=>?_; subst zz2
 exact dOk_int
theorem resD_ok (Z:MachOk S):dOk 6 (resD S):=by
 refine dOk_tup fun d hd=>?_
 simp only [List.mem_cons,List.not_mem_nil,or_false] at hd
 rcases hd with rfl|rfl|rfl|rfl|rfl
 ·exact (dOk_list Z.data).le (by decide)
 ·refine dOk_list fun d hd=>?_
  refine ex1_2 (List.mem_map.mp hd) fun r hr zz2=>?_; subst zz2
  refine ex1_2 (List.mem_map.mp hr) fun n ZZ zz2=>?_; subst zz2
  refine dOk_tup (two' (dOk_int.le (Nat.zero_le _)) (dOk_list fun d hd=>?_))
  refine ex1_2 (List.mem_map.mp hd) fun v hv zz2=>?_; subst zz2
  exact toldD_ok (partsN_ok Z.ok v hv)
 ·exact (dOk_list ints_ok).le (by decide)
 ·exact (dOk_list ints_ok).le (by decide)
 ·exact dOk_int.le (Nat.zero_le _)
theorem dA_list (h:H[i]? = some (.list xs)) (hd:xs.mapM (fun a=>dataA k a H)=some ds):dataA (k+1) (.loc i) H=some (.list ds):=by
 unfold dataA
 simp only [h,hd,Option.map_some]
theorem dA_tup (h:H[i]? = some (.tup xs)) (hd:xs.mapM (fun a=>dataA k a H)=some ds):dataA (k+1) (.loc i) H=some (.tuple ds):=by
 unfold dataA
 simp only [h,hd,Option.map_some]
set_option tactic.hygienic true in
theorem dA_keep (f:∀ (i:Nat) (o:AO),H[i]? = some o->H'[i]? = some o):∀ (k:Nat) (a:AV) (d:PyData),dataA k a H=some d->dataA k a H'=some d:=by
 intro k
 induction k with
 |zero=>intro a d e; cases a <;> first|exact e|(cases e; done)
 |succ k ih=>
  intro a d e
  cases a with
  |loc i=>
   unfold dataA at e ⊢
   split at e
   ·rename_i xs hx
    refine ex1_2 (Option.map_eq_some_iff.mp e) fun ds hd zz2=>?_; subst zz2
    rw [f i _ hx]
    simp only [mapM_keep ih hd,Option.map_some]
   ·rename_i xs hx
    refine ex1_2 (Option.map_eq_some_iff.mp e) fun ds hd zz2=>?_; subst zz2
    rw [f i _ hx]
    simp only [mapM_keep ih hd,Option.map_some]
   ·exact ns e
  |_=>first|exact e|(cases e; done)
theorem dA_int {z:Int}:dataA k (.int z) H=some (.int z):=by cases k <;> rfl
theorem mapM_one {f:AV->Option PyData} (h:f a=some d) (hr:xs.mapM f=some ds):(a::xs).mapM f=some (d::ds):=by
 rw [List.mapM_cons,h]
 show (do let bs <- xs.mapM f; pure (d::bs))=_
 rw [hr]; rfl
theorem dA_ints:∀ {ns:List Int},(ns.map AV.int).mapM (fun a=>dataA k a H)=some (ns.map .int)
 |[]=>rfl
 |_::_=>mapM_one dA_int dA_ints
theorem rows_data {N M:Nat} {rs:List AV} {L:List (Int×List PyData)} (h:RowsL N M H rs L):rs.mapM (fun a=>dataA 6 a H)=some (L.map rowP):=by
 induction rs generalizing L with
 |nil=>cases L with
  |nil=>rfl
  |cons _ _=>exact h.elim
 |cons a rs ih=>cases L with
  |nil=>exact h.elim
  |cons r L=>
   obtain ⟨⟨t,p,ts,e,h1,_,_,h3,h4⟩,h⟩:=h
   subst e
   exact mapM_one (dA_tup h1 (mapM_one dA_int (mapM_one (dA_list h3 (mapM_keep (fun a d=>dataT_A 3 4 a d (by decide)) h4)) rfl))) (ih h)
theorem run_data {res:Nat} (R:RunTo Hs H res S):dataA 8 (.loc res) H=some (resD S):=by
 refine ex4_5 (R.tup) fun hd r lo nu h0 zz5 zz6 h5 h6=>?_; obtain ⟨hs,h1,h2⟩:=zz5; obtain ⟨rs,N,M,h3,h4⟩:=zz6
 exact dA_tup h0 (mapM_one (dA_list h1 (mapM_keep (fun a d=>dataT_A 3 6 a d (by decide)) h2)) (mapM_one (dA_list h3 (rows_data h4)) (mapM_one (dA_list h5 dA_ints) (mapM_one (dA_list h6 dA_ints) (mapM_one dA_int rfl)))))
theorem eqD_same (h1:dataA 8 a H=some d) (h2:dataA 8 b H=some d) (hd:dOk 8 d):eqD a b H=some true:=by
 unfold eqD
 rw [h1,h2]
 have:SeqAt.shaped d=true:=by
  unfold SeqAt.shaped
  rw [hd.1,decide_eq_true (Nat.le_trans hd.2 (by decide))]; rfl
 simp only [this,Bool.and_self,if_true]
 rw [SeqAt.eqv_refl d hd.1]
end
section
variable {H H' H1 H2 L M:List AO} {n k i j m l w s wl cl dl:Nat} {xs ys ts:List AV} {a b c:AV} {ρ ρ1:List (Str×AV)} {cs:List Int}
theorem v_unp2 {fa:AV->Mine.St->Option Mine.St} {σ σ1:Mine.St} {f:Fn AV} (h:f σ.ρ σ.H=some (a,H1)) (h2:fa a ⟨σ.ρ,H1⟩=some σ1):sUnp fa f σ=some (.next,σ1):=v_unp h h2
variable {x:Int}
variable {y:Int}
theorem modI (h:(y == 0)=false):modA (.int x) (.int y) H=some (.int (x.fmod y),H):=by
 unfold modA
 have:¬ y=0:=by simpa using h
 simp only [this,if_false]
variable {many:Nat}
theorem fmod_nat (hm:0<many):∃ v:Nat,x.fmod many=v/\v<many:=by
 have h1:=Int.fmod_nonneg_of_pos x (show (0:Int)<many by exact om68 hm)
 have h2:=Int.fmod_lt_of_pos x (show (0:Int)<many by exact om68 hm)
 exact ⟨(x.fmod many).toNat,by exact om130 h1,by exact om195 h1 h2⟩
variable {t:Nat}
theorem dip_in {z:Int} (hw:H[wl]? = some (.list [.loc cl,.int t])) (hc:(H.set wl (.list ([AV.loc cl,.int t].set 1 (.int ((t:Int)+1)))))[cl]? = some (.list xs)) (hz:xs.length<=1000000) (hx:xs[t]? = some (.int z)) (hlt:decide ((t:Int)<xs.length)=true) (hy:(y == 0)=false):
  runB ["well","many"] [] d_law_dipped [.loc wl,.int y] H=some (.int ((if z<0 then -z else z).fmod y),H.set wl (.list ([AV.loc cl,.int t].set 1 (.int ((t:Int)+1))))):=by
 apply v_run rfl
 unfold d_law_dipped
 repeat' first|delta v_unp2 v_sqL|with_reducible exact modI hy|with_reducible apply v_eT hlt|delta v_itL|(show (_:Prop); with_reducible assumption)|delta v_seq v_call v_cons v_nil v_cst v_loc v_sr v_sn v_ret v_sub v_put v_piLC v_ife v_cmp v_bin v_len v_pair v_nm|exact rfl|exact Nat.le_of_ble_eq_true rfl
theorem dip_out (hw:H[wl]? = some (.list [.loc cl,.int t])) (hc:(H.set wl (.list ([AV.loc cl,.int t].set 1 (.int ((t:Int)+1)))))[cl]? = some (.list xs)) (hz:xs.length<=1000000) (hlt:decide ((t:Int)<xs.length)=false) (hy:(y == 0)=false):
  runB ["well","many"] [] d_law_dipped [.loc wl,.int y] H=some (.int (((7:Int) * t+3).fmod y),H.set wl (.list ([AV.loc cl,.int t].set 1 (.int ((t:Int)+1))))):=by
 apply v_run rfl
 unfold d_law_dipped
 repeat' first|delta v_unp2 v_sqL|with_reducible exact modI hy|with_reducible apply v_eF hlt|(show (_:Prop); with_reducible assumption)|delta v_seq v_call v_cons v_nil v_cst v_loc v_sr v_sn v_ret v_put v_piLC v_ife v_cmp v_bin v_len v_pair v_nm|exact rfl|exact Nat.le_of_ble_eq_true rfl
theorem dip_ok (hw:H[wl]? = some (.list [.loc cl,.int t])) (hc:H[cl]? = some (.list (cs.map .int))) (hn:wl≠cl) (hz:cs.length<=1000000) (hm:0<many):
  ∃ v:Nat,v<many/\runB ["well","many"] [] d_law_dipped [.loc wl,.int (many:Int)] H=some (.int (v:Int),H.set wl (.list [.loc cl,.int ((t+1:Nat):Int)])):=by
 have hy:((many:Int) == 0)=false:=by simp; exact om16 hm
 have hc':(H.set wl (.list [.loc cl,.int ((t:Int)+1)]))[cl]? = some (.list (cs.map .int)):=l_ne hn hc
 by_cases ht:t<cs.length
 ·refine ex1_2 (fmod_nat (x:=if cs[t]<0 then -cs[t] else cs[t]) hm) fun v e hv=>?_
  refine ⟨v,hv,?_⟩
  have:=dip_in (y:=(many:Int)) (z:=cs[t]) hw hc' (by rw [List.length_map]; exact hz) (by rw [List.getElem?_map,List.getElem?_eq_getElem ht]; rfl) (decide_eq_true (by rw [List.length_map]; exact om170 ht)) hy
  rw [e] at this; exact this
 ·refine ex1_2 (fmod_nat (x:=(7:Int) * t+3) hm) fun v e hv=>?_
  refine ⟨v,hv,?_⟩
  have:=dip_out (y:=(many:Int)) hw hc' (by rw [List.length_map]; exact hz) (decide_eq_false (by rw [List.length_map]; exact om192 ht)) hy
  rw [e] at this; exact this
end
noncomputable def lawB:FnS:=(sSeq (sAsg "kind" (callF (runB ["well","many"] [] d_law_dipped) (esCons (rdL "well") (esCons (cst (.int 11)) esNil)))) (sSeq (sExpr (methF appendC (rdL "deeds") (esCons (tupF (esCons (rdL "kind") (esCons (callF (runB ["well","many"] [] d_law_dipped) (esCons (rdL "well") (esCons (cst (.int 9)) esNil))) esNil))) esNil))) sSkip))
section
variable {H Hs H0 H' H1 H2 H3 L M:List AO} {n k i j m l w s wl cl dl:Nat} {xs ys ts ls:List AV} {a b c:AV} {ρ ρ1:List (Str×AV)} {cs:List Int} {ds:List (Nat×Nat)}
theorem lawB_run {kd sp:Int} (hw:ρ.lookup (Str.ofString "well")=some (.loc wl)) (hd:ρ.lookup (Str.ofString "deeds")=some (.loc dl)) (e1:runB ["well","many"] [] d_law_dipped [.loc wl,.int 11] H=some (.int kd,H1)) (e2:runB ["well","many"] [] d_law_dipped [.loc wl,.int 9] H1=some (.int sp,H2)) (h1:H1[dl]? = some (.list ls)) (h2:H2[dl]? = some (.list ls)) (hz:ls.length<=1000000):
  lawB ⟨ρ,H⟩=some (.next,⟨(Str.ofString "kind",.int kd)::ρ,(H2++[AO.tup [.int kd,.int sp]]).set dl (.list (ls++[AV.loc H2.length]))⟩):=by
 have w':=lk_ne (x:="kind") (b:=.int kd) hw rfl
 have d':=lk_ne (x:="kind") (b:=.int kd) hd rfl
 have k':((Str.ofString "kind",AV.int kd)::ρ).lookup (Str.ofString "kind")=some (.int kd):=List.lookup_cons_self
 unfold lawB
 repeat' first|delta v_app|(show (_:Prop); with_reducible assumption)|delta v_seq v_call v_cons v_nil v_cst v_loc v_tup v_asg v_sn v_skip v_expr v_meth v_isL l_old|exact Nat.le_of_ble_eq_true rfl
structure LawI (cl wl dl:Nat) (cs:List Int) (ds:List (Nat×Nat)) (H:List AO):Prop where
 well:∃ t:Nat,H[wl]? = some (.list [.loc cl,.int t])
 cells:H[cl]? = some (.list (cs.map .int))
 deeds:DeedsAt H dl ds
 small:∀ d∈ds,d.1<11/\d.2<9
theorem LawI.turn (Z:LawI cl wl dl cs ds H) (n1:wl≠cl) (n2:wl≠dl) (n3:dl≠cl) (hz:cs.length<=1000000) (hz2:ds.length<=1000) (hw:ρ.lookup (Str.ofString "well")=some (.loc wl)) (hd:ρ.lookup (Str.ofString "deeds")=some (.loc dl)):
  ∃ kd H' d,lawB ⟨ρ,H⟩=some (.next,⟨(Str.ofString "kind",.int kd)::ρ,H'⟩)/\LawI cl wl dl cs (ds++[d]) H'/\∀ (i:Nat) (o:AO),H[i]? = some o->i≠wl->i≠dl->H'[i]? = some o:=by
 refine ex1_1 (Z.well) fun t h1=>?_
 refine ex1_3 (Z.deeds.list) fun ls d1 d2 d3=>?_
 obtain ⟨kd,b1,e1⟩:=dip_ok (many:=11) h1 Z.cells n1 hz (by decide)
 obtain ⟨sp,b2,e2⟩:=dip_ok (many:=9) (l_set h1) (l_ne n1 Z.cells) n1 hz (by decide)
 have K:KeepS H (H.set wl (.list [.loc cl,.int ((t+1:Nat):Int)])):=.set h1 nostab
 have K2:KeepS (H.set wl (.list [.loc cl,.int ((t+1:Nat):Int)])) ((H.set wl (.list [.loc cl,.int ((t+1:Nat):Int)])).set wl (.list [.loc cl,.int ((t+1+1:Nat):Int)])):=.set (l_set h1) nostab
 have hd2:=l_ne (o':=.list [.loc cl,.int ((t+1+1:Nat):Int)]) n2 (l_ne (o':=.list [.loc cl,.int ((t+1:Nat):Int)]) n2 d1)
 have hd3:((H.set wl (.list [.loc cl,.int ((t+1:Nat):Int)])).set wl (.list [.loc cl,.int ((t+1+1:Nat):Int)])++[AO.tup [.int (kd:Int),.int (sp:Int)]])[dl]? = some (.list ls):=l_old hd2
 have K3:KeepS ((H.set wl (.list [.loc cl,.int ((t+1:Nat):Int)])).set wl (.list [.loc cl,.int ((t+1+1:Nat):Int)])++[AO.tup [.int (kd:Int),.int (sp:Int)]]) (((H.set wl (.list [.loc cl,.int ((t+1:Nat):Int)])).set wl (.list [.loc cl,.int ((t+1+1:Nat):Int)])++[AO.tup [.int (kd:Int),.int (sp:Int)]]).set dl (.list (ls++[AV.loc ((H.set wl (.list [.loc cl,.int ((t+1:Nat):Int)])).set wl (.list [.loc cl,.int ((t+1+1:Nat):Int)])).length]))):=.set hd3 nostab
 refine ⟨kd,_,(kd,sp),lawB_run hw hd e1 e2 (l_ne n2 d1) hd2 (om128 d2 hz2),⟨⟨_,l_ne (Ne.symm n2) (l_old (l_set (l_set h1)))⟩,l_ne n3 (l_old (l_ne n1 (l_ne n1 Z.cells))),⟨_,l_set hd3,by rw [List.length_append,List.length_append,d2]; rfl,fun i d h=>?_⟩,fun d h=>?_⟩,fun i o h a b=>l_ne (Ne.symm b) (l_old (l_ne (Ne.symm a) (l_ne (Ne.symm a) h)))⟩
 ·by_cases q:i<ds.length
  ·rw [List.getElem?_append_left q] at h
   refine ex1_2 (d3 i d h) fun tt t1 t2=>?_
   exact ⟨tt,by rw [List.getElem?_append_left (om125 q d2)]; exact t1,K3 _ _ (l_old (K2 _ _ (K _ _ t2 trivial) trivial)) trivial⟩
  ·have:i=ds.length:=by
    have:=getElem?_lt h
    rw [List.length_append,List.length_singleton] at this; exact om201 this d2 q
   subst this
   rw [List.getElem?_concat_length] at h
   obtain rfl:=so h
   exact ⟨_,by rw [<- d2,List.getElem?_concat_length],K3 _ _ l_new trivial⟩
 ·rcases List.mem_append.mp h with h|h
  ·exact Z.small d h
  ·rw [List.mem_singleton.mp h]; exact ⟨b1,b2⟩
variable {a b:Int}
theorem n_range (h:a+i<b):nxRange a b i H=some (some (.int (a+i),H)):=by unfold nxRange; rw [if_pos h]
theorem n_rangeE (h:a+i=b):nxRange a b i H=some none:=by
 unfold nxRange
 rw [if_neg (om238 h),if_pos (.inl h)]
theorem deeds_ok {v:Nat} (hv:v<5) (Z:LawI cl wl dl cs [] H) (n1:wl≠cl) (n2:wl≠dl) (n3:dl≠cl) (hz:cs.length<=1000000) (hw:ρ.lookup (Str.ofString "well")=some (.loc wl)) (hd:ρ.lookup (Str.ofString "deeds")=some (.loc dl)) {fi:FnI} (hi:fi ρ Hs=some (nxRange 0 (7+(v:Int)),H)):
  ∃ ρ' H' ds,sFor NN fi (aName "turn") lawB ⟨ρ,Hs⟩=some (.next,⟨ρ',H'⟩)/\LawI cl wl dl cs ds H'/\ds.length=7+v/\ρ'.lookup (Str.ofString "well")=some (.loc wl)/\ρ'.lookup (Str.ofString "deeds")=some (.loc dl):=by
 obtain ⟨⟨ρ',H'⟩,run,ds,Z',len,q1,q2⟩:=v_for (σ:=⟨ρ,Hs⟩) (fa:=aName "turn") (fb:=lawB) hi (7+v) (om45 hv)
  (fun i σ=>∃ ds,LawI cl wl dl cs ds σ.H/\ds.length=i/\σ.ρ.lookup (Str.ofString "well")=some (.loc wl)/\σ.ρ.lookup (Str.ofString "deeds")=some (.loc dl))
  ⟨[],Z,rfl,hw,hd⟩ (fun σ ZZ=>n_rangeE (by omega))
  (fun i σ hi zz=>by
   obtain ⟨ds,Z,len,hw,hd⟩:=zz
   refine ex3_3 (Z.turn (ρ:=(Str.ofString "turn",.int (0+(i:Int)))::σ.ρ) n1 n2 n3 hz (by omega) (lk_ne hw rfl) (lk_ne hd rfl)) fun kd H' d e Z' ZZ=>?_
   exact ⟨_,σ.H,_,.next,_,n_range (by omega),v_nm,e,.inl rfl,_,Z',by rw [List.length_append,len]; rfl,lk_ne (lk_ne hw rfl) rfl,lk_ne (lk_ne hd rfl) rfl⟩)
 exact ⟨ρ',H',ds,run,Z',len,q1,q2⟩
end
section
variable {H Hs H0 H' H1 H2 H3 L M:List AO} {n k i j m l w s q wl cl dl:Nat} {xs ys ts ls:List AV} {a b c:AV} {ρ ρ1:List (Str×AV)} {cs:List Int} {ds:List (Nat×Nat)} {S:Mach}
theorem LawI.keep (Z:LawI cl wl dl cs ds H) (f:∀ (i:Nat) (o:AO),H[i]? = some o->H'[i]? = some o):LawI cl wl dl cs ds H':=by
 refine ex1_1 (Z.well) fun t h1=>?_
 refine ex1_3 (Z.deeds.list) fun ls d1 d2 d3=>?_
 exact ⟨⟨t,f _ _ h1⟩,f _ _ Z.cells,⟨ls,f _ _ d1,d2,fun i d h=>let ⟨tt,t1,t2⟩:=d3 i d h; ⟨tt,t1,f _ _ t2⟩⟩,Z.small⟩
theorem LawI.set (Z:LawI cl wl dl cs ds H) (hq:H[q]? = some (.list xs)) (n1:q≠wl) (n2:q≠cl) (n3:q≠dl):LawI cl wl dl cs ds (H.set q (.list ys)):=by
 refine ex1_1 (Z.well) fun t h1=>?_
 refine ex1_3 (Z.deeds.list) fun ls d1 d2 d3=>?_
 exact ⟨⟨t,l_ne n1 h1⟩,l_ne n2 Z.cells,⟨ls,l_ne n3 d1,d2,fun i d h=>let ⟨tt,t1,t2⟩:=d3 i d h; ⟨tt,t1,KeepS.set hq nostab _ _ t2 trivial⟩⟩,Z.small⟩
theorem LawI.dip (Z:LawI cl wl dl cs ds H) (n1:wl≠cl) (n2:wl≠dl) (hz:cs.length<=1000000) {many:Nat} (hm:0<many):∃ (v:Nat) (x:List AV),v<many/\runB ["well","many"] [] d_law_dipped [.loc wl,.int (many:Int)] H=some (.int (v:Int),H.set wl (.list x))/\LawI cl wl dl cs ds (H.set wl (.list x)):=by
 refine ex1_1 (Z.well) fun t h1=>?_
 refine ex1_3 (Z.deeds.list) fun ls d1 d2 d3=>?_
 refine ex1_2 (dip_ok (many:=many) h1 Z.cells n1 hz hm) fun v b1 e1=>?_
 exact ⟨v,_,b1,e1,⟨⟨_,l_set h1⟩,l_ne n1 Z.cells,⟨ls,l_ne n2 d1,d2,fun i d h=>let ⟨tt,t1,t2⟩:=d3 i d h; ⟨tt,t1,KeepS.set h1 nostab _ _ t2 trivial⟩⟩,Z.small⟩⟩
theorem moments_ok (Z:LawI cl wl dl cs ds H) (n1:wl≠cl) (n2:wl≠dl) (hz:cs.length<=1000000) (hz2:ds.length<=1000) (hw:ρ.lookup (Str.ofString "well")=some (.loc wl)) (hd:ρ.lookup (Str.ofString "deeds")=some (.loc dl)):
  ∃ ms H',(compF NN (iList (rdL "deeds")) ["well"] (aName "deed") tT (callF (runB ["well","many"] [] d_law_dipped) (esCons (rdL "well") (esCons (cst (.int 2)) esNil)))) ρ H=some (.loc H.length,H')/\H'[H.length]? = some (.list ((ms:List Int).map .int))/\ms.length=ds.length/\LawI cl wl dl cs ds H':=by
 have b1:wl<H.length:=let ⟨_,h⟩:=Z.well; getElem?_lt h
 have b2:cl<H.length:=getElem?_lt Z.cells
 refine ex1_3 (Z.deeds.list) fun ls d1 d2 ZZ=>?_
 have b3:dl<H.length:=getElem?_lt d1
 obtain ⟨zs,H',run,ms,rfl,len,h1,Z'⟩:=v_comp (cap:=["well"]) (fa:=aName "deed") (fc:=tT) (fe:=callF (runB ["well","many"] [] d_law_dipped) (esCons (rdL "well") (esCons (cst (.int 2)) esNil))) (i_list (v_loc hd) d1) ds.length (om115 d2 hz2)
  (fun i ys H'=>∃ ms:List Int,ys=ms.map .int/\ms.length=i/\H'[H.length]? = some (.list ys)/\LawI cl wl dl cs ds H')
  ⟨[],rfl,rfl,l_new,Z.keep fun i o h=>l_old h⟩ (fun i ys H' ⟨_,_,_,h,_⟩=>h)
  (fun ys H' ⟨_,_,_,_,Z⟩=>by refine ex1_3 (Z.deeds.list) fun ls d1 d2 ZZ=>?_; exact n_listE2 d1 d2)
  (fun i ys H' hi ⟨ms,hy,len,h,Z⟩=>by
   refine ex1_3 (Z.deeds.list) fun ls d1 d2 d3=>?_
   refine ex1_2 (d3 i _ (List.getElem?_eq_getElem hi)) fun tt t1 ZZ=>?_
   refine ex2_3 (Z.dip n1 n2 hz (many:=2) (by decide)) fun v x hv e Z2=>?_
   have h3:(H'.set wl (.list x))[H.length]? = some (.list ys):=l_ne (by omega) h
   refine ⟨.loc tt,H',_,true,H',n_list d1 t1,v_nm,rfl,(fun h=>by exact tf h),fun ZZ=>⟨.int (v:Int),_,v_call (v_cons (v_loc (lk_ne (resK_in (List.mem_singleton.mpr rfl) hw) rfl)) (v_cons v_cst v_nil)) e,h3,by rw [hy,List.length_map]; omega,ms++[(v:Int)],by rw [hy,List.map_append]; rfl,by rw [List.length_append,len]; rfl,l_set h3,Z2.set h3 (by omega) (by omega) (by omega)⟩⟩)
 exact ⟨ms,H',run,h1,len,Z'⟩
theorem out_all {α:Type} {L:List α} {f g:α->AV}:outT (L.map fun x=>(f x,true,g x))=L.map g:=by
 unfold outT
 rw [List.filter_map,List.map_map]
 congr 1
 rw [List.filter_eq_self]
 exact fun ZZ ZZ=>rfl
theorem zeros_ok (hd:ρ.lookup (Str.ofString "deeds")=some (.loc dl)) (hl:H[dl]? = some (.list ls)) (hz:ls.length<=1000):
  (compF NN (iList (rdL "deeds")) [] (aName "deed") tT (cst (.int 0))) ρ H=some (.loc H.length,H++[.list ((ls.map fun ZZ=>(0:Int)).map .int)]):=by
 have:=comp_lst (ρ:=ρ) (cap:=[]) (f:=rdL "deeds") (fa:=aName "deed") (fc:=tT) (fe:=cst (.int 0)) (T:=ls.map fun a=>(a,true,.int 0)) (v_loc hd) (by rw [List.map_map]; show H[dl]? = some (.list (ls.map fun a=>a)); rw [List.map_id']; exact hl) (fun e he ys=>by
  refine ex1_2 (List.mem_map.mp he) fun x hx zz2=>?_; subst zz2
  exact ⟨_,v_nm,rfl,fun ZZ=>v_cst⟩) (by rw [List.length_map]; exact om33 hz)
 rw [out_all] at this
 rw [List.map_map]; exact this
variable {N M:Nat}
theorem rows_tri {rs:List AV} {L:List (Int×List PyData)} (h:RowsL N M H rs L):∃ T:Tri,T.map (·.1)=rs/\outT T=(L.map (·.1)).map .int/\∀ e∈T,∃ t k p,e=(.loc t,true,.int k)/\H[t]? = some (.tup [.int k,.loc p]):=by
 induction rs generalizing L with
 |nil=>exact ⟨[],rfl,by cases L with
  |nil=>rfl
  |cons _ _=>exact h.elim,fun ZZ h=>nomatch h⟩
 |cons a rs ih=>cases L with
 |nil=>exact h.elim
 |cons r L=>
  obtain ⟨⟨t,p,ts,e,h1,_⟩,h⟩:=h
  refine ex1_3 (ih h) fun T e1 e2 e3=>?_
  subst e
  refine ⟨(.loc t,true,.int r.1)::T,by rw [List.map_cons,e1],?_,fun x hx=>?_⟩
  ·show AV.int r.1::outT T=_
   rw [e2]; rfl
  ·rcases List.mem_cons.mp hx with rfl|hx
   ·exact ⟨t,r.1,p,rfl,h1⟩
   ·exact e3 x hx
theorem left_ok {r:Nat} {rs:List AV} {L:List (Int×List PyData)} {f:Fn AV} (hf:f ρ H=some (.loc r,H)) (hr:H[r]? = some (.list rs)) (h:RowsL N M H rs L) (hz:L.length<=90000):
  compF NN (iList f) [] (aPair (aName "number") (aName "inner")) tT (rdL "number") ρ H=some (.loc H.length,H++[.list ((L.map (·.1)).map .int)]):=by
 refine ex1_3 (rows_tri h) fun T e1 e2 e3=>?_
 have hT:T.length<=90000:=by
  have:∀ {rs:List AV} {L:List (Int×List PyData)},RowsL N M H rs L->rs.length=L.length:=by
   intro rs
   induction rs with
   |nil=>intro L h; cases L with
    |nil=>rfl
    |cons _ _=>exact h.elim
   |cons a rs ih=>intro L h; cases L with
    |nil=>exact h.elim
    |cons _ L=>exact congrArg (· + 1) (ih h.2)
  have:=this h
  rw [<- e1,List.length_map] at this; exact om116 this hz
 rw [<- e2]
 exact comp_lst hf (by rw [e1]; exact hr) (fun e he ys=>by
  refine ex3_2 (e3 e he) fun t k p zz3 ht=>?_; subst zz3
  exact ⟨_,v_pair (v_sqT (l_old ht)) v_nm v_nm,rfl,fun ZZ=>v_loc (lk_ne List.lookup_cons_self rfl)⟩) hT
theorem v_notinI {ns:List Int} {k:Int} (h:H[l]? = some (.list (ns.map .int))):notInA (.int k) (.loc l) H=some !(ns.any (· == k)):=by
 unfold notInA
 simp only [h,intsM,Option.map_some]
theorem not_left (hj:j<S.1.length):(!(((leftN S).map fun n:Nat=>(n:Int)+1).any (· == (1+(j:Int))))) = !reachB S.1 S.2.1 j:=by
 congr 1
 rw [List.any_map]
 cases h:reachB S.1 S.2.1 j with
 |true=>exact List.any_eq_true.mpr ⟨j,List.mem_filter.mpr ⟨List.mem_range.mpr hj,h⟩,by simp; exact om160⟩
 |false=>
  rw [List.any_eq_false]
  intro n hn
  have:=(List.mem_filter.mp hn).2
  have ne:n≠j:=fun e=>by rw [e,h] at this; exact ft this
  simp; exact om218 ne
theorem range_ok {f:FnI} {lf:Nat} (hf:f ρ H=some (nxRange 1 ((S.1.length:Int)+1),H)) (hl:(resK ["left"] ρ).lookup (Str.ofString "left")=some (.loc lf)) (h:H[lf]? = some (.list (((leftN S).map fun n:Nat=>(n:Int)+1).map .int))) (hz:S.1.length<=90000):
  compF NN f ["left"] (aName "number") (cmpF (rdL "number") (rdL "left") notInA) (rdL "number") ρ H=some (.loc H.length,H++[.list (((goneN S).map fun n:Nat=>(n:Int)+1).map .int)]):=by
 have:=comp_pure (cap:=["left"]) (fa:=aName "number") (fc:=cmpF (rdL "number") (rdL "left") notInA) (fe:=rdL "number") (T:=(List.range S.1.length).map fun j:Nat=>(AV.int (1+(j:Int)),!reachB S.1 S.2.1 j,AV.int (1+(j:Int)))) hf
  (fun i e ys he=>by
   rw [List.getElem?_map] at he
   refine ex1_2 (Option.map_eq_some_iff.mp he) fun j hj zz2=>?_; subst zz2
   have hi:=getElem?_lt hj
   rw [List.getElem?_eq_getElem hi,List.getElem_range,Option.some.injEq] at hj
   rw [List.length_range] at hi
   subst hj
   exact n_range (om211 hi))
  (fun ys=>n_rangeE (by rw [List.length_map,List.length_range]; exact om161))
  (fun e he ys=>by
   refine ex1_2 (List.mem_map.mp he) fun j hj zz2=>?_; subst zz2
   refine ⟨_,v_nm,v_cmp (v_loc List.lookup_cons_self) (v_loc (lk_ne hl rfl)) ?_,fun ZZ=>v_loc List.lookup_cons_self⟩
   rw [v_notinI (l_old h),not_left (List.mem_range.mp hj)])
  (by rw [List.length_map,List.length_range]; exact hz)
 have o:outT ((List.range S.1.length).map fun j:Nat=>(AV.int (1+(j:Int)),!reachB S.1 S.2.1 j,AV.int (1+(j:Int))))=((goneN S).map fun n:Nat=>(n:Int)+1).map .int:=by
  unfold outT goneN
  rw [List.filter_map,List.map_map,List.map_map]
  refine List.map_congr_left fun j ZZ=>?_
  show AV.int (1+(j:Int))=AV.int ((j:Int)+1)
  rw [Int.add_comm]
 rw [o] at this; exact this
end
noncomputable def d_law2:FnS:=(sSeq (sAsg "deeds" (listF esNil)) (sSeq (sFor NN (iCall rangeG (esCons (binF (cst (.int 7)) (callF (runB ["well","many"] [] d_law_dipped) (esCons (rdL "well") (esCons (cst (.int 5)) esNil))) addA) esNil)) (aName "turn") (sSeq (sAsg "kind" (callF (runB ["well","many"] [] d_law_dipped) (esCons (rdL "well") (esCons (cst (.int 11)) esNil)))) (sSeq (sExpr (methF appendC (rdL "deeds") (esCons (tupF (esCons (rdL "kind") (esCons (callF (runB ["well","many"] [] d_law_dipped) (esCons (rdL "well") (esCons (cst (.int 9)) esNil))) esNil))) esNil))) sSkip))) (sSeq (sAsg "moments" (compF NN (iList (rdL "deeds")) ["well"] (aName "deed") tT (callF (runB ["well","many"] [] d_law_dipped) (esCons (rdL "well") (esCons (cst (.int 2)) esNil))))) (sSeq (sAsg "due" (callF (runB ["deeds","moments"] [] d_law_run) (esCons (rdL "deeds") (esCons (compF NN (iList (rdL "deeds")) [] (aName "deed") tT (cst (.int 0))) esNil)))) (sSeq (sAsg "left" (compF NN (iList (subF (rdL "due") (cst (.int 1)))) [] (aPair (aName "number") (aName "inner")) tT (rdL "number"))) (sSeq (sIf (orF (cmpF (subF (rdL "due") (cst (.int 3))) (rdL "left") neD) (orF (cmpF (subF (rdL "due") (cst (.int 2))) (compF NN (iCall rangeG (esCons (cst (.int 1)) (esCons (binF (subF (rdL "due") (cst (.int 4))) (cst (.int 1)) addA) esNil))) ["left"] (aName "number") (cmpF (rdL "number") (rdL "left") notInA) (rdL "number")) neD) tF)) (sSeq (sRet (cst (.bool false))) sSkip) sSkip) (sSeq (sRet (bV (cmpF (callF (runB ["deeds","moments"] [] d_law_run) (esCons (rdL "deeds") (esCons (rdL "moments") esNil))) (rdL "due") eqD))) sSkip)))))))
section
variable {H Hs H0 H' H1 H2 H3 H4 H5 H6 H7 L M:List AO} {n k i j m l w s q wl cl dl sc mm zz d1 d2 lf rg hd r lo nu:Nat} {xs ys ts ls:List AV} {a b c:AV} {ρ ρ1:List (Str×AV)} {cs:List Int} {ds:List (Nat×Nat)} {S:Mach}
theorem v_neD (h:eqD a b H=some true):neD a b H=some false:=by unfold neD; rw [h]; rfl
theorem v_itU {v:AV} (h:H[l]? = some (.tup xs)) (hz:xs.length<=1000000) (hx:xs[i]? = some v):itemA (.loc l) (.int i) H=some v:=v_itT h hz hx
theorem law_run {m:Int} (e1:sFor NN (iCall rangeG (esCons (binF (cst (.int 7)) (callF (runB ["well","many"] [] d_law_dipped) (esCons (rdL "well") (esCons (cst (.int 5)) esNil))) addA) esNil)) (aName "turn") lawB ⟨("deeds",.loc (H0.length+2))::("well",.loc (H0.length+1))::ρ,H0++[.list xs,.list [.loc (H0.length+0),.int 0],.list []]⟩=some (.next,⟨ρ1,H1⟩)) (w1:ρ1.lookup (Str.ofString "deeds")=some (.loc dl))
  (e2:(compF NN (iList (rdL "deeds")) ["well"] (aName "deed") tT (callF (runB ["well","many"] [] d_law_dipped) (esCons (rdL "well") (esCons (cst (.int 2)) esNil)))) ρ1 H1=some (.loc mm,H2)) (e3:(compF NN (iList (rdL "deeds")) [] (aName "deed") tT (cst (.int 0))) ((Str.ofString "moments",.loc mm)::ρ1) H2=some (.loc zz,H3)) (e4:runB ["deeds","moments"] [] d_law_run [.loc dl,.loc zz] H3=some (.loc d1,H4)) (e5:(compF NN (iList (subF (rdL "due") (cst (.int 1)))) [] (aPair (aName "number") (aName "inner")) tT (rdL "number")) ((Str.ofString "due",.loc d1)::(Str.ofString "moments",.loc mm)::ρ1) H4=some (.loc lf,H5))
  (t1:H5[d1]? = some (.tup [.loc hd,.loc r,.loc lo,.loc nu,.int m])) (q1:eqD (.loc nu) (.loc lf) H5=some true) (e6:(compF NN (iCall rangeG (esCons (cst (.int 1)) (esCons (binF (subF (rdL "due") (cst (.int 4))) (cst (.int 1)) addA) esNil))) ["left"] (aName "number") (cmpF (rdL "number") (rdL "left") notInA) (rdL "number")) ((Str.ofString "left",.loc lf)::(Str.ofString "due",.loc d1)::(Str.ofString "moments",.loc mm)::ρ1) H5=some (.loc rg,H6)) (q2:eqD (.loc lo) (.loc rg) H6=some true)
  (e7:runB ["deeds","moments"] [] d_law_run [.loc dl,.loc mm] H6=some (.loc d2,H7)) (q3:eqD (.loc d2) (.loc d1) H7=some true):∃ ρ',d_law2 ⟨("well",.loc (H0.length+1))::ρ,H0++[.list xs,.list [.loc (H0.length+0),.int 0]]⟩=some (.ret (.bool true),⟨ρ',H7⟩):=by
 have x1:((Str.ofString "moments",AV.loc mm)::ρ1).lookup (Str.ofString "deeds")=some (.loc dl):=lk_ne w1 rfl
 have x5:((Str.ofString "left",AV.loc lf)::(Str.ofString "due",.loc d1)::(Str.ofString "moments",.loc mm)::ρ1).lookup (Str.ofString "deeds")=some (.loc dl):=lk_ne (lk_ne x1 rfl) rfl
 have x6:((Str.ofString "left",AV.loc lf)::(Str.ofString "due",.loc d1)::(Str.ofString "moments",.loc mm)::ρ1).lookup (Str.ofString "due")=some (.loc d1):=lk_ne List.lookup_cons_self rfl
 have x7:((Str.ofString "left",AV.loc lf)::(Str.ofString "due",.loc d1)::(Str.ofString "moments",.loc mm)::ρ1).lookup (Str.ofString "left")=some (.loc lf):=List.lookup_cons_self
 have x8:((Str.ofString "left",AV.loc lf)::(Str.ofString "due",.loc d1)::(Str.ofString "moments",.loc mm)::ρ1).lookup (Str.ofString "moments")=some (.loc mm):=lk_ne (lk_ne List.lookup_cons_self rfl) rfl
 have x9:((Str.ofString "moments",AV.loc mm)::ρ1).lookup (Str.ofString "moments")=some (.loc mm):=List.lookup_cons_self
 have z1:((Str.ofString "due",AV.loc d1)::(Str.ofString "moments",.loc mm)::ρ1).lookup (Str.ofString "moments")=some (.loc mm):=lk_ne x9 rfl
 have n1:=v_neD q1
 have n2:=v_neD q2
 have i3:itemA (.loc d1) (.int 3) H5=some (.loc nu):=v_itU (i:=3) t1 (Nat.le_of_ble_eq_true rfl) rfl
 have i2:itemA (.loc d1) (.int 2) H5=some (.loc lo):=v_itU (i:=2) t1 (Nat.le_of_ble_eq_true rfl) rfl
 have fin:sIf (orF (cmpF (subF (rdL "due") (cst (.int 3))) (rdL "left") neD) (orF (cmpF (subF (rdL "due") (cst (.int 2))) (compF NN (iCall rangeG (esCons (cst (.int 1)) (esCons (binF (subF (rdL "due") (cst (.int 4))) (cst (.int 1)) addA) esNil))) ["left"] (aName "number") (cmpF (rdL "number") (rdL "left") notInA) (rdL "number")) neD) tF)) (sSeq (sRet (cst (.bool false))) sSkip) sSkip ⟨(Str.ofString "left",.loc lf)::(Str.ofString "due",.loc d1)::(Str.ofString "moments",.loc mm)::ρ1,H5⟩=some (.next,⟨(Str.ofString "left",.loc lf)::(Str.ofString "due",.loc d1)::(Str.ofString "moments",.loc mm)::ρ1,H6⟩):=
  v_if (v_or (v_cmp (v_sub (v_loc x6) v_cst i3) (v_loc x7) n1) (v_oF rfl (v_or (v_cmp (v_sub (v_loc x6) v_cst i2) e6 n2) (v_oF rfl v_ff)))) (v_kF rfl v_skip)
 have s2:listF esNil (("well",.loc (H0.length+1))::ρ) (H0++[.list xs,.list [.loc (H0.length+0),.int 0]])=some (.loc (H0.length+2),H0++[.list xs,.list [.loc (H0.length+0),.int 0],.list []]):=
  t_list v_nil (Nat.zero_le _)
 unfold d_law2
 refine ⟨(Str.ofString "left",.loc lf)::(Str.ofString "due",.loc d1)::(Str.ofString "moments",.loc mm)::ρ1,?_⟩
 refine v_seq (v_asg s2) (v_sn ?_)
 refine v_seq (for_eq e1 rfl (by kernel_rfl) (by kernel_rfl)) (v_sn ?_)
 refine v_seq (v_asg e2) (v_sn ?_)
 refine v_seq (v_asg (v_call (v_cons (v_loc x1) (v_cons e3 v_nil)) e4)) (v_sn ?_)
 refine v_seq (v_asg e5) (v_sn ?_)
 refine v_seq fin (v_sn ?_)
 exact v_seq (v_ret (v_bv (v_cmp (v_call (v_cons (v_loc x5) (v_cons (v_loc x8) v_nil)) e7) (v_loc x6) q3))) v_sr
end
section
variable {H Hs H0 H' H1 H2 H3 H4 H5 H6 H7 L M:List AO} {n k i j m l w s q wl cl dl sc mm zz d1 d2 lf rg hd r lo nu:Nat} {xs ys ts ls:List AV} {a b c:AV} {ρ ρ1:List (Str×AV)} {cs:List Int} {ds:List (Nat×Nat)} {S:Mach}
theorem dip5 (Z:LawI cl wl dl cs [] H) (n1:wl≠cl) (n2:wl≠dl) (hz:cs.length<=1000000) (hw:ρ.lookup (Str.ofString "well")=some (.loc wl)):∃ (v:Nat) (H':List AO),v<5/\iCall rangeG (esCons (binF (cst (.int 7)) (callF (runB ["well","many"] [] d_law_dipped) (esCons (rdL "well") (esCons (cst (.int 5)) esNil))) addA) esNil) ρ H=some (nxRange 0 (7+(v:Int)),H')/\LawI cl wl dl cs [] H':=by
 refine ex2_3 (Z.dip n1 n2 hz (many:=5) (by decide)) fun v x hv e Z'=>?_
 refine ⟨v,_,hv,i_call (v_cons (v_bin v_cst (v_call (v_cons (v_loc hw) (v_cons v_cst v_nil)) e) rfl) v_nil) ?_,Z'⟩
 show (if (-1000000:Int)<=7+(v:Int)/\7+(v:Int)<=1000000 then some (nxRange 0 (7+(v:Int))) else none)=_
 rw [if_pos (om249 hv)]
theorem range_it (hf:subF (rdL "due") (cst (.int 4)) ρ H=some (.int (m:Int),H)) (hm:m<=1000):iCall rangeG (esCons (cst (.int 1)) (esCons (binF (subF (rdL "due") (cst (.int 4))) (cst (.int 1)) addA) esNil)) ρ H=some (nxRange 1 ((m:Int)+1),H):=by
 refine i_call (v_cons v_cst (v_cons (v_bin hf v_cst rfl) v_nil)) ?_
 show (if (-1000000:Int)<=1/\(1:Int)<=1000000/\(-1000000:Int)<=(m:Int)+1/\(m:Int)+1<=1000000 then some (nxRange 1 ((m:Int)+1)) else none)=_
 rw [if_pos (by omega)]
theorem law_ok {l:List Int} (hl:l.length<=1000):∃ ρ' H',d_law2 ⟨("well",.loc (H0.length+1))::ρ,H0++[.list (l.map .int),.list [.loc (H0.length+0),.int 0]]⟩=some (.ret (.bool true),⟨ρ',H'⟩):=by
 have hcz:l.length<=1000000:=om38 hl
 have Z0:LawI (H0.length+0) (H0.length+1) (H0.length+2) l [] (H0++[.list (l.map AV.int),.list [.loc (H0.length+0),.int 0],.list []]):=⟨⟨0,l_tail rfl⟩,l_tail rfl,⟨[],l_tail rfl,rfl,fun i d h=>by exact ns h⟩,fun ZZ h=>nomatch h⟩
 refine ex2_3 (dip5 (ρ:=("deeds",.loc (H0.length+2))::("well",.loc (H0.length+1))::ρ) Z0 (om23) (om24) hcz (lk_ne List.lookup_cons_self rfl)) fun v Ha hv it Z1=>?_
 refine ex3_5 (deeds_ok hv Z1 (om23) (om24) (om25) hcz (lk_ne List.lookup_cons_self rfl) List.lookup_cons_self it) fun ρ1 H1 ds e1 Z2 len q1 q2=>?_
 refine ex2_4 (moments_ok Z2 (om23) (om24) hcz (om127 hv len) q1 q2) fun ms H2 e2 hM lm Z3=>?_
 refine ex1_3 (Z3.deeds.list) fun ls d1 d2 d3=>?_
 have e3:=zeros_ok (ρ:=(Str.ofString "moments",.loc H1.length)::ρ1) (lk_ne q2 rfl) d1 (om239 hv len d2 lm)
 refine ex2_2 (run_ok (Hs:=H2++[.list ((ls.map fun ZZ=>(0:Int)).map .int)]) (Mm:=H2.length) Z3.small (om236 hv len lm d2) (by rw [List.length_map,d2]) (Z3.keep fun i o h=>l_old h).deeds l_new) fun r1 H4 e4 R1=>?_
 generalize hS:runW ds=S at *
 have MO:MachOk S:=by rw [<- hS]; exact mach_ok ds _ Z3.small mach_init
 refine ex4_5 (R1.tup) fun hd rw' lo nu t0 ZZ zz6 hlo hnu=>?_; obtain ⟨rs,N,M,hr,hrows⟩:=zz6
 have ll:(leftN S).length<=S.1.length:=by
  have:=List.length_filter_le (reachB S.1 S.2.1) (List.range S.1.length)
  rw [List.length_range] at this; exact this
 have cl:S.1.length<=1000:=by
  have:∀ (ds:List (Nat×Nat)) (S:Mach),(∀ d∈ds,d.1<11/\d.2<9)->MachOk S->(ds.foldl stepW S).1.length<=S.1.length+ds.length:=by
   intro ds
   induction ds with
   |nil=>intro S _ _; exact Nat.le_refl _
   |cons d r ih=>
    intro S hd Z
    have:=ih (stepW S d) (fun x hx=>hd x (.tail _ hx)) (mach_step (hd d (.head _)).2 Z)
    refine ex1_1 (Z.small) fun B hB=>?_
    have hd2:=(hd d (.head _)).2
    refine ex0_2 (done_keeps (kind:=d.1) Z.ok hB (Z.st _ (stG_mem Z.st3 (show d.2 % 3<3 by exact om3))) (Z.st _ (stG_mem Z.st3 (show d.2 / 3<3 by exact om29 hd2)))) fun K ZZ=>?_
    have h2:(stepW S d).1.length<=S.1.length+1:=K.len.1
    show (r.foldl stepW (stepW S d)).1.length<=S.1.length+(r.length+1)
    exact om229 h2 this
  have h:=this ds (runW []) Z3.small mach_init
  have h2:(ds.foldl stepW (runW []))=S:=hS
  rw [h2] at h
  have h3:(runW []).1.length=0:=rfl
  exact om281 hv len lm d2 h h3
 have e5:=left_ok (ρ:=(Str.ofString "due",.loc r1)::(Str.ofString "moments",.loc H1.length)::ρ1) (f:=subF (rdL "due") (cst (.int 1))) (v_sub (v_loc List.lookup_cons_self) v_cst (v_itU (i:=1) t0 (Nat.le_of_ble_eq_true rfl) rfl)) hr hrows (by rw [List.length_map]; exact om111 cl ll)
 have em:((leftN S).map (rowD S.1)).map (·.1)=(leftN S).map fun n:Nat=>(n:Int)+1:=by rw [List.map_map]; rfl
 rw [em] at e5
 have e6:=range_ok (S:=S) (ρ:=(Str.ofString "left",.loc H4.length)::(Str.ofString "due",.loc r1)::(Str.ofString "moments",.loc H1.length)::ρ1) (lf:=H4.length) (range_it (v_sub (v_loc (lk_ne List.lookup_cons_self rfl)) v_cst (v_itU (i:=4) (l_old (t:=[.list (((leftN S).map fun n:Nat=>(n:Int)+1).map .int)]) t0) (Nat.le_of_ble_eq_true rfl) rfl)) cl) (resK_in (List.mem_singleton.mpr rfl) List.lookup_cons_self) l_new (om33 cl)
 have low1:∀ (i:Nat) (o:AO),H2[i]? = some o->H4[i]? = some o:=fun i o h=>R1.low i o (l_old h)
 refine ex2_2 (run_ok (Hs:=H4++[.list (((leftN S).map fun n:Nat=>(n:Int)+1).map .int)]++[.list (((goneN S).map fun n:Nat=>(n:Int)+1).map .int)]) (D:=H0.length+2) (Mm:=H1.length) (ms:=ms) Z3.small (om236 hv len lm d2) lm (Z3.keep fun i o h=>l_old (l_old (low1 i o h))).deeds (l_old (l_old (low1 _ _ hM)))) fun r2 H7 e7 R2=>?_
 rw [hS] at R2
 have dI1:∀ {H:List AO} {i:Nat} {ns:List Int},H[i]? = some (.list (ns.map .int))->dataA 8 (.loc i) H=some (.list (ns.map .int)):=fun h=>dA_list h dA_ints
 refine ex1_1 (law_run e1 q2 e2 e3 e4 e5 (l_old t0) (eqD_same (dI1 (l_old hnu)) (dI1 l_new) ((dOk_list ints_ok).le (by decide))) e6 (eqD_same (dI1 (l_old (l_old hlo))) (dI1 l_new) ((dOk_list ints_ok).le (by decide))) e7 (eqD_same (run_data R2) (dA_keep (fun i o h=>R2.low i o (l_old (l_old h))) 8 _ _ (run_data R1)) ((resD_ok MO).le (by decide)))) fun ρ' fin=>?_
 exact ⟨ρ',H7,fin⟩
end
section
variable {sh:Shp}
variable {D:Mdl} {nms:Names} {lv:Nat} {env:Env} {A:Around} {g:Heap} {L:Addr}
variable {ρ:List (Str×AV)} {s:Shared} {a:Addr} {vs:List Value} {ns:List Int} {p1 p2 p3 p4 p5 p6 p7 p8:Pos} {t0 t1:Nat} {Q:Flow->Shared->Prop} {E:Value->Shared->Prop}
theorem first_ok (S:Site D nms lv env A g L) {rest:Lg} (R:Rel D nms env.cells g L rest sh ρ [] s.heap) (hρ:ρ.lookup (Str.ofString "script")=some (.glob (.ref a))) (hL:g.IsList a vs.toArray) (hI:IntsAre vs ns) (hz:ns.length<=1000)
  (hx:nms.lookup (Str.ofString "script")=some .local) (hw:nms.lookup (Str.ofString "well")=some .cell) (k:∀ sh' h' tk,Rel D nms env.cells g L rest sh' ((Str.ofString "well",.loc 1)::ρ) [.list ((ns.take 40).map .int),.list [.loc 0,.int 0]] h'->Q .next { s with heap:=h',toks:=tk }):
  wpAny (model D.prog D.w) A (exec (.Assign [.Name (Str.ofString "well") p1] (.List [.Subscript (.Name (Str.ofString "script") p2) (.Slice Option.none (some (.Constant (.int 40) t0 p3)) Option.none p4) p5,.Constant (.int 0) t1 p6] p7) p8) env) Q E s:=by
 have il:vs.length=ns.length:=by
  have:=(ints_rel (sh:=sh) (n:=0) hI).len
  rw [List.length_map] at this; exact this
 refine wpAny_Assign_Name (List_ (args_cons (Subscript_ (SimE.loc (.inl hx) rfl rfl env A g L S rest sh ρ [] s _ [] R (v_loc hρ) _ _ fun sh1 h1 tk1 v1 R1 G1 r1=>?_)) (starEach_cons rfl))) rfl
 cases r1
 refine wpAny_Slice (evalPart_none_step (evalPart_some_step (SimE.int env A g L S rest sh1 ρ [] _ _ [] R1 rfl _ _ fun sh2 h2 tk2 v2 R2 G2 r2=>evalPart_none_step ?_)))
 obtain ⟨t,rfl⟩:=r2
 obtain ⟨m,hl,cl,F,N,nd,HH,lr,cr⟩:=id R2
 have hl2:h2.IsList a vs.toArray:=by obtain ⟨o,ho,r⟩:=hL; exact ⟨o,F.keep a o ho,r⟩
 refine kba_turn (value':=.Name (Str.ofString "_") ⟨0,0,0,0⟩) (fun ZZ=>rfl) ?_
 refine kms_slice_lit (s:={ s with heap:=h2,toks:=tk2 }) F N hl2 .none (.int 40 t) (zs:=vs.take 40) ?_ (fun Da h' F' N' l1=>?_) rfl (fun ZZ=>rfl) (by rw [sizeLine_eq]; simp; exact om135 il hz)
 ·unfold kms_pick kms_lo kms_hi
  simp only [List.drop_zero,Nat.sub_zero]
  rw [if_neg (by omega)]
  show List.take (min (40:Int).toNat vs.length) vs=_
  rw [List.take_eq_take_iff]; exact om234 il hz
 ·refine ex1_3 (new_list nd HH lr cr F' N' l1 ((ints_rel hI).take (i:=40))) fun sh3 R3 G3 r3=>?_
  refine args_cons (SimE.int env A g L S rest sh3 ρ _ _ _ _ R3 rfl _ _ fun sh4 h4 tk4 v4 R4 G4 r4=>?_) (starEach_cons rfl)
  refine args_nil ?_
  obtain ⟨m4,hl4,cl4,F4,N4,nd4,HH4,lr4,cr4⟩:=id R4
  refine newList_K F4 N4 (fun Db h5 F5 N5 l5=>?_) (by rw [sizeLine_eq]; exact Nat.le_of_ble_eq_true rfl)
  refine ex1_3 (new_list nd4 HH4 lr4 cr4 F5 N5 l5 (xs:=[.loc 0,.int 0]) ⟨r3.grow G4,r4,trivial⟩) fun sh5 R5 G5 r5=>?_
  refine store_name S R5 (.inr hw) r5 fun h6 tk6 R6=>?_
  rw [<- List.map_take] at R6
  exact k sh5 h6 tk6 R6
theorem top_ok (S:Site D nms lv env A g L) {body:List Stmt} (hb:SimS D nms lv body d_law2) (R:Rel D nms env.cells g L [] sh ρ [] s.heap) (hρ:ρ.lookup (Str.ofString "script")=some (.glob (.ref a))) (hL:g.IsList a vs.toArray) (hI:IntsAre vs ns) (hz:ns.length<=63)
  (hx:nms.lookup (Str.ofString "script")=some .local) (hw:nms.lookup (Str.ofString "well")=some .cell) (k:∀ h' tk,(∀ b o,g.get? b=some o->h'.get? b=some o)->Q (.ret (.bool true)) { s with heap:=h',toks:=tk }):
  wpAny (model D.prog D.w) A (execs (.Assign [.Name (Str.ofString "well") p1] (.List [.Subscript (.Name (Str.ofString "script") p2) (.Slice Option.none (some (.Constant (.int 40) t0 p3)) Option.none p4) p5,.Constant (.int 0) t1 p6] p7) p8::body) env) Q E s:=by
 refine wpAny_execs_cons (first_ok S R hρ hL hI (om21 hz) hx hw fun sh1 h1 tk1 R1=>?_)
 refine ex2_1 (law_ok (l:=ns.take 40) (H0:=[]) (ρ:=ρ) (by rw [List.length_take]; exact om54 hz)) fun ρ' H' e=>?_
 refine hb env A g L S [] sh1 ⟨_,_⟩ _ _ _ R1 e _ _ fun sh2 h2 tk2 v R2 G2 r2=>?_
 obtain ⟨u,rfl,hu⟩:=r2
 cases hu
 obtain ⟨m,hl,cl,F,N,nd,HH,lr,cr⟩:=R2
 exact k h2 tk2 F.keep
end
set_option tactic.hygienic true
namespace fin
theorem tw10070804522480449196:True:=⟨⟩
theorem tw10098057777631523497:True:=⟨⟩
theorem tw1014637456484912126:True:=⟨⟩
theorem tw10147658903529517814:True:=⟨⟩
theorem tw10196768644732416780:True:=⟨⟩
theorem tw10234915967203826555:True:=⟨⟩
theorem tw10242451874928486539:True:=⟨⟩
theorem tw10329872625359487480:True:=⟨⟩
theorem tw1035503724928835527:True:=⟨⟩
theorem tw10383673109516279431:True:=⟨⟩
theorem tw10511823565363050587:True:=⟨⟩
theorem tw10580198807604790814:True:=⟨⟩
theorem tw10671828304227620169:True:=⟨⟩
theorem tw10696652717036330658:True:=⟨⟩
theorem tw10699407837109476802:True:=⟨⟩
theorem tw10751089155417173751:True:=⟨⟩
theorem tw1080700006314346644:True:=⟨⟩
theorem tw10807920368746810246:True:=⟨⟩
theorem tw10818889477481085253:True:=⟨⟩
theorem tw10829458402184033698:True:=⟨⟩
theorem tw10852849658779182186:True:=⟨⟩
theorem tw10874316729293906858:True:=⟨⟩
theorem tw10875463905939285979:True:=⟨⟩
theorem tw1088692219920020602:True:=⟨⟩
theorem tw10891054232620793217:True:=⟨⟩
theorem tw10907391636593693970:True:=⟨⟩
theorem tw10925335251469727208:True:=⟨⟩
theorem tw10936777179133785780:True:=⟨⟩
theorem tw10939691994893167182:True:=⟨⟩
theorem tw11061592194353771069:True:=⟨⟩
theorem tw11112386831996348380:True:=⟨⟩
theorem tw11136251689527776988:True:=⟨⟩
theorem tw11151619158091525091:True:=⟨⟩
theorem tw11154830654865731599:True:=⟨⟩
theorem tw11192643925408225281:True:=⟨⟩
theorem tw11227884535216515135:True:=⟨⟩
theorem tw11273041486466551846:True:=⟨⟩
theorem tw11277574374343807151:True:=⟨⟩
theorem tw11298980531735778240:True:=⟨⟩
theorem tw11336253725339858928:True:=⟨⟩
theorem tw11414119711712004833:True:=⟨⟩
theorem tw11414674201277728305:True:=⟨⟩
theorem tw11454252539852477091:True:=⟨⟩
theorem tw11466478281803324712:True:=⟨⟩
theorem tw11575174756993882273:True:=⟨⟩
theorem tw11587955951900863698:True:=⟨⟩
theorem tw11607805686811502034:True:=⟨⟩
theorem tw11615019562542576733:True:=⟨⟩
theorem tw11897717083992391400:True:=⟨⟩
theorem tw11936995450923721628:True:=⟨⟩
theorem tw11953781441336167498:True:=⟨⟩
theorem tw12105171945263650130:True:=⟨⟩
theorem tw12118000046449163591:True:=⟨⟩
theorem tw12135189313929291683:True:=⟨⟩
theorem tw12141802397888321627:True:=⟨⟩
theorem tw12149302876761508202:True:=⟨⟩
theorem tw12180539936304867106:True:=⟨⟩
theorem tw12212933522069011988:True:=⟨⟩
theorem tw12221555665107904926:True:=⟨⟩
theorem tw12291753297600562012:True:=⟨⟩
theorem tw12347537446847802165:True:=⟨⟩
theorem tw12356021495744459628:True:=⟨⟩
theorem tw12464766053444552404:True:=⟨⟩
theorem tw1249118550022496774:True:=⟨⟩
theorem tw12494888245299231016:True:=⟨⟩
theorem tw12550770813317053977:True:=⟨⟩
theorem tw12557769604369416430:True:=⟨⟩
theorem tw12567809125941998234:True:=⟨⟩
theorem tw12631824708648523144:True:=⟨⟩
theorem tw12649782002744950493:True:=⟨⟩
theorem tw12669758225909598566:True:=⟨⟩
theorem tw12696600883282566439:True:=⟨⟩
theorem tw12711679700452659978:True:=⟨⟩
theorem tw12770587769568226530:True:=⟨⟩
theorem tw12779594798798021119:True:=⟨⟩
theorem tw12809788781938459499:True:=⟨⟩
theorem tw12829507556594621215:True:=⟨⟩
theorem tw12833947400113492166:True:=⟨⟩
theorem tw12847644182280273618:True:=⟨⟩
theorem tw12876064707754696378:True:=⟨⟩
theorem tw12876116671307685997:True:=⟨⟩
theorem tw12932903420030652473:True:=⟨⟩
theorem tw12962497063298326498:True:=⟨⟩
theorem tw12977279227502587607:True:=⟨⟩
theorem tw12996517811204074000:True:=⟨⟩
theorem tw13021059552284102479:True:=⟨⟩
theorem tw13066358836101814915:True:=⟨⟩
theorem tw13093503161671486093:True:=⟨⟩
theorem tw13158425560686309300:True:=⟨⟩
theorem tw13162651487661262736:True:=⟨⟩
theorem tw13177410634674063896:True:=⟨⟩
theorem tw13294311002278339166:True:=⟨⟩
theorem tw13337293482115323266:True:=⟨⟩
theorem tw13360279666012451719:True:=⟨⟩
theorem tw13383306551100868464:True:=⟨⟩
theorem tw13423622936843584764:True:=⟨⟩
theorem tw13467322939085005891:True:=⟨⟩
theorem tw13484989928664886584:True:=⟨⟩
theorem tw13516622038369049944:True:=⟨⟩
theorem tw13700621096757390547:True:=⟨⟩
theorem tw13724452099449386491:True:=⟨⟩
theorem tw13790858721211988464:True:=⟨⟩
theorem tw13814004702073501669:True:=⟨⟩
theorem tw13870153662132920491:True:=⟨⟩
theorem tw13898374239775968522:True:=⟨⟩
theorem tw13925877587632400325:True:=⟨⟩
theorem tw1397303283331804279:True:=⟨⟩
theorem tw14109310954907245088:True:=⟨⟩
theorem tw14210890002308233579:True:=⟨⟩
theorem tw1422313219903470601:True:=⟨⟩
theorem tw14245171486683049214:True:=⟨⟩
theorem tw14279960228734115912:True:=⟨⟩
theorem tw14333544728242365436:True:=⟨⟩
theorem tw14345562132136545540:True:=⟨⟩
theorem tw14347400895652799225:True:=⟨⟩
theorem tw14431720936831517352:True:=⟨⟩
theorem tw14470914187005692979:True:=⟨⟩
theorem tw14497727239971306367:True:=⟨⟩
theorem tw1450881378762983150:True:=⟨⟩
theorem tw14517287926952318261:True:=⟨⟩
theorem tw14541005305830221311:True:=⟨⟩
theorem tw14560573928864763818:True:=⟨⟩
theorem tw14568449535678555946:True:=⟨⟩
theorem tw14574801432027512755:True:=⟨⟩
theorem tw14728723275428758510:True:=⟨⟩
theorem tw14786503066443513839:True:=⟨⟩
theorem tw14793013804824869981:True:=⟨⟩
theorem tw14838103818555229697:True:=⟨⟩
theorem tw14856888987745899463:True:=⟨⟩
theorem tw15094949803261831281:True:=⟨⟩
theorem tw15144710454662140524:True:=⟨⟩
theorem tw15149952090015108872:True:=⟨⟩
theorem tw15201286185872193147:True:=⟨⟩
theorem tw15205425988870721313:True:=⟨⟩
theorem tw15234240111613058569:True:=⟨⟩
theorem tw15309079848183770524:True:=⟨⟩
theorem tw15344004072050561172:True:=⟨⟩
theorem tw1535588207084551279:True:=⟨⟩
theorem tw15373703851562958014:True:=⟨⟩
theorem tw15459455144867644326:True:=⟨⟩
theorem tw15523922138108190246:True:=⟨⟩
theorem tw15533503492667675913:True:=⟨⟩
theorem tw15564276425815640635:True:=⟨⟩
theorem tw15566928917628492161:True:=⟨⟩
theorem tw15583698165555649274:True:=⟨⟩
theorem tw15621619335703214680:True:=⟨⟩
theorem tw15688172546075569117:True:=⟨⟩
theorem tw15741700470354863883:True:=⟨⟩
theorem tw15815952407149668801:True:=⟨⟩
theorem tw15832999045522443761:True:=⟨⟩
theorem tw15873037696872328925:True:=⟨⟩
theorem tw15942684835789789487:True:=⟨⟩
theorem tw15989303212955285315:True:=⟨⟩
theorem tw16030041051751750485:True:=⟨⟩
theorem tw16103849850496634939:True:=⟨⟩
theorem tw16115155874713506467:True:=⟨⟩
theorem tw16205109500356779066:True:=⟨⟩
theorem tw16237762584071213788:True:=⟨⟩
theorem tw1625080806587739848:True:=⟨⟩
theorem tw16252508478716706905:True:=⟨⟩
theorem tw16269368082590959529:True:=⟨⟩
theorem tw16275787546110486726:True:=⟨⟩
theorem tw16285329926789087883:True:=⟨⟩
theorem tw16307707646766795581:True:=⟨⟩
theorem tw1635022588487117616:True:=⟨⟩
theorem tw16407147864228438881:True:=⟨⟩
theorem tw16488607150827929282:True:=⟨⟩
theorem tw16496857829328116044:True:=⟨⟩
theorem tw16510490156224867327:True:=⟨⟩
theorem tw16530489862217454893:True:=⟨⟩
theorem tw16540275574145912595:True:=⟨⟩
theorem tw16570786720924097770:True:=⟨⟩
theorem tw16656299143469825513:True:=⟨⟩
theorem tw1666694428299288667:True:=⟨⟩
theorem tw16889484823980962733:True:=⟨⟩
theorem tw16906536467411238026:True:=⟨⟩
theorem tw16934629359412608497:True:=⟨⟩
theorem tw16958243865122950064:True:=⟨⟩
theorem tw17041991840579044601:True:=⟨⟩
theorem tw17067295170570645592:True:=⟨⟩
theorem tw17108682257543074861:True:=⟨⟩
theorem tw17123178472405020103:True:=⟨⟩
theorem tw17130245016438642246:True:=⟨⟩
theorem tw17132207802985990308:True:=⟨⟩
theorem tw17164383140453370395:True:=⟨⟩
theorem tw17186005699333237546:True:=⟨⟩
theorem tw17197158672614542318:True:=⟨⟩
theorem tw17204297501091165112:True:=⟨⟩
theorem tw17235304873150492719:True:=⟨⟩
theorem tw17260493314774615805:True:=⟨⟩
theorem tw17347454772498655404:True:=⟨⟩
theorem tw17361756636278455780:True:=⟨⟩
theorem tw17430205856086898164:True:=⟨⟩
theorem tw17449020081951674710:True:=⟨⟩
theorem tw17495881415371897999:True:=⟨⟩
theorem tw17512474026176034454:True:=⟨⟩
theorem tw17570509445847580414:True:=⟨⟩
theorem tw17570709534508481193:True:=⟨⟩
theorem tw17593727381932232133:True:=⟨⟩
theorem tw17628183408451194143:True:=⟨⟩
theorem tw17637551073024348614:True:=⟨⟩
theorem tw17656766251404061198:True:=⟨⟩
theorem tw17698704350827878285:True:=⟨⟩
theorem tw17701328389417463424:True:=⟨⟩
theorem tw17717364068325071970:True:=⟨⟩
theorem tw17719728818120068181:True:=⟨⟩
theorem tw17743408960866722510:True:=⟨⟩
theorem tw17784850919643140607:True:=⟨⟩
theorem tw17801579834951734752:True:=⟨⟩
theorem tw17821466097196317003:True:=⟨⟩
theorem tw17869975865946814897:True:=⟨⟩
theorem tw17896612028031085017:True:=⟨⟩
theorem tw17933470926392208243:True:=⟨⟩
theorem tw17963964198891936676:True:=⟨⟩
theorem tw17974384156558142227:True:=⟨⟩
theorem tw18082680734076937219:True:=⟨⟩
theorem tw18105285910621931680:True:=⟨⟩
theorem tw18105942590061964161:True:=⟨⟩
theorem tw18164189302063226315:True:=⟨⟩
theorem tw18198143704209324747:True:=⟨⟩
theorem tw18255404467826089762:True:=⟨⟩
theorem tw18295790063311454060:True:=⟨⟩
theorem tw18373065035072037172:True:=⟨⟩
theorem tw18387650150990424433:True:=⟨⟩
theorem tw1887099378405440850:True:=⟨⟩
theorem tw1951045429614898598:True:=⟨⟩
theorem tw1963134401048803436:True:=⟨⟩
theorem tw1969125764957023869:True:=⟨⟩
theorem tw1976505206021243879:True:=⟨⟩
theorem tw1982079694162106894:True:=⟨⟩
theorem tw2051409578822353534:True:=⟨⟩
theorem tw2067723777617599883:True:=⟨⟩
theorem tw2086631506510373192:True:=⟨⟩
theorem tw216489041496292469:True:=⟨⟩
theorem tw2236755162388048479:True:=⟨⟩
theorem tw2304379251839397102:True:=⟨⟩
theorem tw2316539691658765527:True:=⟨⟩
theorem tw2367325634123391141:True:=⟨⟩
theorem tw2462912638960843985:True:=⟨⟩
theorem tw2512408688544751470:True:=⟨⟩
theorem tw2537931557510868981:True:=⟨⟩
theorem tw2608567993692976607:True:=⟨⟩
theorem tw2617349483901765261:True:=⟨⟩
theorem tw2671655128345628175:True:=⟨⟩
theorem tw2775396313129547428:True:=⟨⟩
theorem tw2866121171748074186:True:=⟨⟩
theorem tw2910385600587045654:True:=⟨⟩
theorem tw2962755328439268512:True:=⟨⟩
theorem tw2976117146107443816:True:=⟨⟩
theorem tw3004984022683251337:True:=⟨⟩
theorem tw3028926083550364057:True:=⟨⟩
theorem tw3112429581023547943:True:=⟨⟩
theorem tw3125960719983571848:True:=⟨⟩
theorem tw3199103547748192838:True:=⟨⟩
theorem tw3222278782482380304:True:=⟨⟩
theorem tw3263211703599914710:True:=⟨⟩
theorem tw3268265519342814607:True:=⟨⟩
theorem tw3314143786362844604:True:=⟨⟩
theorem tw333583748066197110:True:=⟨⟩
theorem tw3343445320678177929:True:=⟨⟩
theorem tw3404873503106905745:True:=⟨⟩
theorem tw3456042362506885009:True:=⟨⟩
theorem tw3456623496861543869:True:=⟨⟩
theorem tw3459265974087741279:True:=⟨⟩
theorem tw3506512066687448480:True:=⟨⟩
theorem tw3599858809825778643:True:=⟨⟩
theorem tw3683778510129048087:True:=⟨⟩
theorem tw3762306804915933987:True:=⟨⟩
theorem tw3767311804947220896:True:=⟨⟩
theorem tw3788772014149755174:True:=⟨⟩
theorem tw3794220679723124481:True:=⟨⟩
theorem tw3810570522144960214:True:=⟨⟩
theorem tw3812028171767442716:True:=⟨⟩
theorem tw3837020019201816242:True:=⟨⟩
theorem tw3974152918291533672:True:=⟨⟩
theorem tw3998398428148030388:True:=⟨⟩
theorem tw4040260094072895976:True:=⟨⟩
theorem tw4170516301191304579:True:=⟨⟩
theorem tw4171678462856256454:True:=⟨⟩
theorem tw4218790737952374519:True:=⟨⟩
theorem tw4265850918314828415:True:=⟨⟩
theorem tw428092273266315144:True:=⟨⟩
theorem tw4312942655851389009:True:=⟨⟩
theorem tw4329306826757983850:True:=⟨⟩
theorem tw4424551920762525699:True:=⟨⟩
theorem tw4443050520305737185:True:=⟨⟩
theorem tw452842511749404161:True:=⟨⟩
theorem tw4570111826955561243:True:=⟨⟩
theorem tw4588413851689716618:True:=⟨⟩
theorem tw4598667867955821814:True:=⟨⟩
theorem tw4613182775407389354:True:=⟨⟩
theorem tw4640724917100965312:True:=⟨⟩
theorem tw4684940682943077961:True:=⟨⟩
theorem tw4719063310657182621:True:=⟨⟩
theorem tw4754365596532378047:True:=⟨⟩
theorem tw4768634762848416435:True:=⟨⟩
theorem tw4769821431679368130:True:=⟨⟩
theorem tw4788878847521262168:True:=⟨⟩
theorem tw480829909506669009:True:=⟨⟩
theorem tw4868334931027891882:True:=⟨⟩
theorem tw4878226113927451544:True:=⟨⟩
theorem tw4879674094562380441:True:=⟨⟩
theorem tw4924110625330727750:True:=⟨⟩
theorem tw4928979718650693569:True:=⟨⟩
theorem tw4950403968356008110:True:=⟨⟩
theorem tw5011121235533021005:True:=⟨⟩
theorem tw5073790198343104882:True:=⟨⟩
theorem tw5102460946473063141:True:=⟨⟩
theorem tw5115476493328737885:True:=⟨⟩
theorem tw5196160543931855155:True:=⟨⟩
theorem tw5250828734511838712:True:=⟨⟩
theorem tw5266742908149448401:True:=⟨⟩
theorem tw5293390819737331289:True:=⟨⟩
theorem tw5320702786494000081:True:=⟨⟩
theorem tw5402249366112354979:True:=⟨⟩
theorem tw5615129895364139138:True:=⟨⟩
theorem tw5634151482396758240:True:=⟨⟩
theorem tw5678346346211369953:True:=⟨⟩
theorem tw5734618986648460908:True:=⟨⟩
theorem tw5736607870324714639:True:=⟨⟩
theorem tw5796354222422608987:True:=⟨⟩
theorem tw5805905742469029177:True:=⟨⟩
theorem tw5899999196529652853:True:=⟨⟩
theorem tw5901363791540438844:True:=⟨⟩
theorem tw5962627729488381771:True:=⟨⟩
theorem tw6058378993454661626:True:=⟨⟩
theorem tw6068950659093879613:True:=⟨⟩
theorem tw6081921254191324426:True:=⟨⟩
theorem tw6144012678527597917:True:=⟨⟩
theorem tw6207007084455232516:True:=⟨⟩
theorem tw6207176494656529804:True:=⟨⟩
theorem tw6232080684201472732:True:=⟨⟩
theorem tw6289197191216398940:True:=⟨⟩
theorem tw6323506392446703087:True:=⟨⟩
theorem tw6341822008880759003:True:=⟨⟩
theorem tw6381419901266130222:True:=⟨⟩
theorem tw6388184931127306564:True:=⟨⟩
theorem tw6449190631224713292:True:=⟨⟩
theorem tw6454446336052903152:True:=⟨⟩
theorem tw6455845175183424153:True:=⟨⟩
theorem tw6474043946942992101:True:=⟨⟩
theorem tw6498334528663615478:True:=⟨⟩
theorem tw6531376189190222733:True:=⟨⟩
theorem tw6548487228075310757:True:=⟨⟩
theorem tw6567050819087999508:True:=⟨⟩
theorem tw6577878126316647860:True:=⟨⟩
theorem tw6634307039904815820:True:=⟨⟩
theorem tw6650461044873433052:True:=⟨⟩
theorem tw6667815254911646788:True:=⟨⟩
theorem tw670465573061467203:True:=⟨⟩
theorem tw6707113841082798463:True:=⟨⟩
theorem tw6766378078585498003:True:=⟨⟩
theorem tw6766580051018981234:True:=⟨⟩
theorem tw6846200578177281708:True:=⟨⟩
theorem tw6878024787957991413:True:=⟨⟩
theorem tw6956187926921108005:True:=⟨⟩
theorem tw6968583824967984638:True:=⟨⟩
theorem tw7055459427971326715:True:=⟨⟩
theorem tw7070210977369740762:True:=⟨⟩
theorem tw7249652514872940865:True:=⟨⟩
theorem tw7278507554335971580:True:=⟨⟩
theorem tw7282745182861764756:True:=⟨⟩
theorem tw7321584467024264148:True:=⟨⟩
theorem tw7380833856163905736:True:=⟨⟩
theorem tw7439575562449295702:True:=⟨⟩
theorem tw7451905468542833597:True:=⟨⟩
theorem tw7468727024169554154:True:=⟨⟩
theorem tw7470013935711676318:True:=⟨⟩
theorem tw7522001649326652513:True:=⟨⟩
theorem tw757079261281740938:True:=⟨⟩
theorem tw7613857476909055813:True:=⟨⟩
theorem tw7613945582906998725:True:=⟨⟩
theorem tw7661832156752021035:True:=⟨⟩
theorem tw7675655780812522254:True:=⟨⟩
theorem tw7684487725183542926:True:=⟨⟩
theorem tw7716820226725407877:True:=⟨⟩
theorem tw7779959011674639804:True:=⟨⟩
theorem tw7783950685163080668:True:=⟨⟩
theorem tw7803649310394182010:True:=⟨⟩
theorem tw7822013112032934038:True:=⟨⟩
theorem tw7830602891274557492:True:=⟨⟩
theorem tw783483362715066742:True:=⟨⟩
theorem tw7845872953664198349:True:=⟨⟩
theorem tw7890596953891613788:True:=⟨⟩
theorem tw799341379326975648:True:=⟨⟩
theorem tw7995362448368537469:True:=⟨⟩
theorem tw8018989035897545986:True:=⟨⟩
theorem tw8025084765662995669:True:=⟨⟩
theorem tw803859442106103436:True:=⟨⟩
theorem tw807531904560671035:True:=⟨⟩
theorem tw8119881530291889089:True:=⟨⟩
theorem tw824001488490597953:True:=⟨⟩
theorem tw8269367382603917829:True:=⟨⟩
theorem tw8272817396058243321:True:=⟨⟩
theorem tw828056024939588000:True:=⟨⟩
theorem tw8281523328739849912:True:=⟨⟩
theorem tw8289400949097046189:True:=⟨⟩
theorem tw8330952907988395303:True:=⟨⟩
theorem tw8331973007464152698:True:=⟨⟩
theorem tw8352470293576582857:True:=⟨⟩
theorem tw8383268338085895543:True:=⟨⟩
theorem tw8399098705505230059:True:=⟨⟩
theorem tw8408514402456403777:True:=⟨⟩
theorem tw8416529770105884409:True:=⟨⟩
theorem tw846297522682114974:True:=⟨⟩
theorem tw8472697214298850164:True:=⟨⟩
theorem tw8522550032448442236:True:=⟨⟩
theorem tw8569027658895312972:True:=⟨⟩
theorem tw857469055436470443:True:=⟨⟩
theorem tw8577089030196625639:True:=⟨⟩
theorem tw8590288500278120515:True:=⟨⟩
theorem tw8614737586434602478:True:=⟨⟩
theorem tw8656503046869711584:True:=⟨⟩
theorem tw8668149382578428375:True:=⟨⟩
theorem tw876206183137641144:True:=⟨⟩
theorem tw888132650186811988:True:=⟨⟩
theorem tw8892799339518399672:True:=⟨⟩
theorem tw891787732878383699:True:=⟨⟩
theorem tw8919302590299486024:True:=⟨⟩
theorem tw8947099994592609211:True:=⟨⟩
theorem tw895571856199123645:True:=⟨⟩
theorem tw8999559765510592377:True:=⟨⟩
theorem tw9001875181463519149:True:=⟨⟩
theorem tw9113340658982188547:True:=⟨⟩
theorem tw9218923581257491847:True:=⟨⟩
theorem tw9260378047223084069:True:=⟨⟩
theorem tw9357874355931990178:True:=⟨⟩
theorem tw9363291351745731410:True:=⟨⟩
theorem tw9372411801196044982:True:=⟨⟩
theorem tw9387745189664136937:True:=⟨⟩
theorem tw9445451236469955387:True:=⟨⟩
theorem tw9490671372518146187:True:=⟨⟩
theorem tw9524518906428321964:True:=⟨⟩
theorem tw9544026089342320630:True:=⟨⟩
theorem tw9722632081671974098:True:=⟨⟩
theorem tw9725021084223525626:True:=⟨⟩
theorem tw9735714214384596553:True:=⟨⟩
theorem tw9746214513668125432:True:=⟨⟩
theorem tw9746901515087519452:True:=⟨⟩
theorem tw9768065124551376944:True:=⟨⟩
theorem tw9806666330580929782:True:=⟨⟩
theorem tw982560976839675504:True:=⟨⟩
theorem tw9839346839192117915:True:=⟨⟩
theorem tw9907692401942284016:True:=⟨⟩
theorem tw9913140749668108558:True:=⟨⟩
theorem tw9917203430921899224:True:=⟨⟩
theorem tw9962418760945406050:True:=⟨⟩
theorem tw9997704412844104603:True:=⟨⟩
theorem tw14944532100314117126:True:=⟨⟩
end fin
set_option maxHeartbeats 8000000
theorem site_of {D:Mdl} {n:Nat} {qual:Str} {scope:Scope} {L:Addr} {f:Addr} {cdv:Value} {A:Around} {fs:List Env} {base g:Heap} (Bl:Below A base fs g) (X:D.K.In g) (T:Top D.p D.loose D.mean D.mg D.mb g) (hk:scope.kind = .function) (hnd:((cellsFrom 0 scope.names []).map (·.1)).Nodup) (hn:n<=60) (hh:A.handled=none) (hd:A.depth+1<=700 - 10 * n+5) (hu:A.units+3<=7000 - 100 * n+50):Site D scope.names n (envOfC qual scope L f cdv) (A.deeper (envOfC qual scope L f cdv)) g L:=by
 have inv:=cellsFrom_inv scope.names (L+1) (L+1) [] (Nat.le_refl _) (fun _ h=>nomatch h) (fun _ h=>nomatch h) List.nodup_nil
 refine { loc:=rfl,kind:=hk,glob:=rfl,names:=rfl,hh:=hh,dep:=hd,uni:=?_,lvl:=hn,X:=X,T:=T,ccell:=fun x hx=>?_,cinj:=fun x y c hx hy=>?_,blt:=rfl,call:=fun s m news F N=>?_ }
 ·show A.units+3<=_; exact hu
 ·have:=cellsFrom_some scope.names (L+1) [] (.inl hx)
  exact Option.isSome_iff_exists.mp this
 ·exact inv.2.1 _ (lookup_mem hx) _ (lookup_mem hy) rfl
 ·exact ⟨base,_,congrArg (Option.map _) Bl.stack,(groundX (R:=fun _ _=>True) Bl F N (congrArg (Option.map _) Bl.stack) rfl hk).2.1⟩
theorem rel_of {D:Mdl} {qual:Str} {scope:Scope} {L:Addr} {f:Addr} {cdv:Value} {g h:Heap} {cells:Lg} {v:Value} (F:Fr g L h (bindL (envOfC qual scope L f cdv).kindOf [(Str.ofString "script",v)] fun _=>none)) (N:News g L h cells) (Y:CellsAre (bindC (envOfC qual scope L f cdv).kindOf [(Str.ofString "script",v)] fun _=>none) (cellsFrom (L+1) scope.names []) cells) (hs:scope.names.lookup (Str.ofString "script")=some .local):
  Rel D scope.names (cellsFrom (L+1) scope.names []) g L [] ⟨fun _=>0,fun _=>0,fun _=>0⟩ [(Str.ofString "script",.glob v)] [] h:=by
 have inv:=cellsFrom_inv scope.names (L+1) (L+1) [] (Nat.le_refl _) (fun _ h=>nomatch h) (fun _ h=>nomatch h) List.nodup_nil
 refine ⟨_,[],cells,F,fun q hq=>N q (by simpa using hq),?_,⟨(fun i o h=>by cases h),fun _=>0,(fun i hi=>absurd hi (Nat.not_lt_zero _)),(fun i C es h=>by cases h)⟩,fun x a hx=>?_,fun x c hc=>?_⟩
 ·rw [List.nil_append,List.append_nil,cellsAre_keys Y]; exact inv.2.2
 ·rw [List.lookup_cons] at hx
  by_cases e:x=Str.ofString "script"
  ·subst e
   simp at hx
   subst hx
   refine ⟨v,rfl,.inl ⟨hs,?_⟩⟩
   rw [bindL_get (show (envOfC qual scope L f cdv).kindOf (Str.ofString "script")=some .local from hs)]
   simp
  ·have:(x == Str.ofString "script")=false:=by simpa using e
   rw [this] at hx; cases hx
 ·refine ex1_2 (cellsAre_get Y hc) fun o hmo hdo=>?_
  exact ⟨o,_,hmo,hdo⟩
set_option Elab.async true in
theorem fin:Challenge.rw_sa0597_01.Holds:=by
 w_on
 o_law
 o_head (kHook ka.heap_1 ka (fun _=>by kernel_rfl))
 (case hw=>w_witness2)
 k_go0
 rename_i w s₀ s₁ mg mb G Y fa o pm doc ho hg KX X V GL T B TE TW wa wo M w9 w8 hcd w7 hs hlay0 hL1 hr1 hl2 w6 w5 w4 w3 w2 hL ra w1 r0 hI hr hc1 hc2 K0 hD h₁ tk₁ F c1 c2 left right N0 X0
 exact top_ok (D:=mdl w (ExcName.means s₀.heap) mg mb) (lv:=9) (site_of (D:=mdl w (ExcName.means s₀.heap) mg mb) K0 KX T rfl (by decide +kernel) (by decide) rfl (by decide) (by decide)) (sC (SimS1.asg (SimE.list eN) (.inl rfl)) (sC (SimS1.for (SimI.call (g_range rfl) SimCI.range (eC (xBin SimE.int (cK (g_law_dipped rfl) k_law_dipped (fN c_law_dipped) (eC eK (eC SimE.int eN))) SimO.add) eN) rfl) (SimA.name (.inl rfl)) (sC (SimS1.asg (cK (g_law_dipped rfl) k_law_dipped (fN c_law_dipped) (eC eK (eC SimE.int eN))) (.inl rfl)) (sC (SimS1.expr (SimE.methL PySem.F.slot_list_append PySem.F.type_list_append eL (eC (SimE.tup (eC eL (eC (cK (g_law_dipped rfl) k_law_dipped (fN c_law_dipped) (eC eK (eC SimE.int eN))) eN))) eN) SimC.append rfl)) sN))) (sC (SimS1.asgL (compo1 (SimI.list eL) (SimA.name (.inl rfl)) SimF.nil (cK (g_law_dipped rfl) k_law_dipped (fN c_law_dipped) (eC eK (eC SimE.int eN))) rfl rfl rfl) rfl (by rintro ⟨⟨_,_,_,_⟩,_⟩ h1 h2; cases h1; cases h2; rfl)) (sC (SimS1.asg (cK (g_law_run rfl) k_law_run (fN c_law_run) (eC eL (eC (SimE.ofL (compo0 (SimI.list eL) (SimA.name (.inl rfl)) SimF.nil SimE.int rfl rfl)) eN))) (.inl rfl)) (sC (SimS1.asg (SimE.ofL (compo0 (SimI.list (SimE.sub eL SimE.int)) (SimA.pair (SimA.name (.inl rfl)) (SimA.name (.inl rfl))) SimF.nil eL rfl rfl)) (.inr rfl) (by rintro ⟨⟨_,_,_,_⟩,_⟩ h1 h2; cases h1; cases h2; rfl)) (sC (SimS1.if (SimBW.toB (SimBW.or (SimB.cmp (SimE.sub eL SimE.int) eK SimK.neD) (SimBW.or (SimB.cmp (SimE.sub eL SimE.int) (SimE.ofL (compo1 (SimI.call (g_range rfl) SimCI.range (eC SimE.int (eC (xBin (SimE.sub eL SimE.int) SimE.int SimO.add) eN)) rfl) (SimA.name (.inl rfl)) (SimF.one (SimB.cmp eL eK SimK.notIn)) eL rfl rfl rfl)) SimK.neD) SimBW.orNil))) (sC (SimS1.ret SimE.bool) sN) sN) (sC (SimS1.ret (xCmp (cK (g_law_run rfl) k_law_run (fN c_law_run) (eC eL (eC eL eN))) eL SimK.eqD)) sN))))))) (rel_of F N0 X0 rfl) rfl hL hI (by omega) rfl rfl (fun h' tk keep=>⟨.inl ⟨.bool true,.bool true,[],rfl,fun _=>rfl,.bool true,by kernel_rfl,fun _=>⟨.nil,fun _ h=>nomatch h⟩⟩,keep,rfl,hg⟩)
end Mine
theorem PySem.Challenge.cw_sa0597_01_holds : PySem.Challenge.rw_sa0597_01.Holds := by
 exact Mine.fin
