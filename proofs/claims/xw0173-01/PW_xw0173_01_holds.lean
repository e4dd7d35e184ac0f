import PyProof.Rows.All
import Wide.All
import OpenK.AllK
import Wide.FinOn
import Lean
import PySem.Challenge.RW_xw0173_01
set_option linter.unusedSectionVars false
set_option linter.unusedSimpArgs false
set_option linter.unusedVariables false
set_option bootstrap.genMatcherCode false
set_option genSizeOf false
set_option genInjectivity false
section
namespace Mine
theorem oQ.{u} {α:Type u} {a b:α} (h:some a=some b):a=b:=Option.some.inj h
theorem bQ:¬false=true:=Bool.false_ne_true
theorem pQ.{u,v} {α:Type u} {β:Type v} {a c:α} {b d:β} (h:(a,b)=(c,d)):a=c∧b=d:=Prod.mk.inj h
theorem ar (a c:Nat) {m k:Nat} (h:c≤k):a+c+m≤a+(m+k):=by rw [Nat.add_assoc,Nat.add_comm c m];exact Nat.add_le_add_left (Nat.add_le_add_left h m) a
theorem om1 {n0:Nat}:0 < n0→0 < (↑n0:Int):=fun h=>Int.ofNat_lt.mpr h
theorem om2 {n0:Nat}:n0 < 90000→n0 - 1 < 90000:=fun h=>Nat.lt_of_le_of_lt (Nat.sub_le _ _) h
theorem om3 {n1:Nat} {i0:Int}:0≤i0→i0 < (↑n1:Int)→i0.toNat < n1:=fun h h2=>(Int.toNat_lt h).mpr h2
theorem om4 {n0 n1:Nat}:(↑n0:Int) < (↑n1:Int)→n0 < n1:=fun h=>Int.ofNat_lt.mp h
theorem om5 {n0:Nat}:n0 < 100000→n0 < 0+100000:=fun h=>Nat.lt_of_lt_of_le h (by decide)
theorem om6 {i0:Int}:0≤i0→i0 < 2 ^ 62→i0.natAbs < 2 ^ 62:=fun h h2=>Int.ofNat_lt.mp (by rw [Int.natAbs_of_nonneg h];exact Int.lt_of_lt_of_le h2 (by decide))
theorem om7 {n0 n1 n2:Nat}:n0 < n1→n2=n1→n0 < n2:=fun a e=>Nat.lt_of_lt_of_le a (Nat.le_of_eq e.symm)
theorem om8 {n0:Nat}:n0 < 2000→n0 < 100000:=fun h=>Nat.lt_of_lt_of_le h (by decide)
theorem om9 {n0 n1 n2:Nat}:n0=n1→¬n2 < n0→n2 < n0+1→n2=n1:=fun e h h2=>(Nat.le_antisymm (Nat.le_of_lt_succ h2) (Nat.not_lt.mp h)).trans e
theorem om10 {n0 n1:Nat}:n0 < 1000→n1=n0→n1 < 1000:=fun a e=>Nat.lt_of_le_of_lt (Nat.le_of_eq e) a
theorem om11 {n0 n1:Nat}:n0 < 1000→n1=n0→n1 < 1000000:=fun a e=>Nat.lt_of_le_of_lt (Nat.le_of_eq e) (Nat.lt_trans a (by decide))
theorem om12 {n0:Nat}:(↑(2+n0):Int)=2+(↑n0:Int):=Int.natCast_add 2 n0
theorem om13 {i0:Int}:0≤i0∧i0 < 2 ^ 62→i0 < 2 ^ 63:=fun h=>Int.lt_trans h.2 (by decide)
theorem om14 {n0 n1 n2:Nat}:n0≤n1+1→n0+n2≤n1+(n2+1):=fun h=>Nat.le_trans (Nat.add_le_add_right h n2) (Nat.le_of_eq (by rw [Nat.add_assoc,Nat.add_comm 1]))
theorem om15 {i0:Int}:0 < i0→i0 < 2 ^ 30→i0.natAbs < 2 ^ 30:=fun h h2=>Int.ofNat_lt.mp (by rw [Int.natAbs_of_nonneg (Int.le_of_lt h)];exact Int.lt_of_lt_of_le h2 (by decide))
theorem om16 {i0:Int}:i0 < 2147483647→i0 < 2 ^ 62:=fun h=>Int.lt_trans h (by decide)
theorem om17 {n0:Nat}:n0 < 1000→(↑n0:Int) < 2 ^ 30:=fun h=>Int.lt_trans (Int.ofNat_lt.mpr h) (by decide)
theorem om18 {i0:Int}:0≤i0→i0 < 6→i0=0∨i0=1∨i0=2∨i0=3∨i0=4∨i0=5:=fun h h2=>by
 obtain ⟨n,rfl⟩:=Int.eq_ofNat_of_zero_le h
 have h2:n < 6:=Int.ofNat_lt.mp h2
 rcases n with _|_|_|_|_|_|n
 ·exact .inl rfl
 ·exact .inr (.inl rfl)
 ·exact .inr (.inr (.inl rfl))
 ·exact .inr (.inr (.inr (.inl rfl)))
 ·exact .inr (.inr (.inr (.inr (.inl rfl))))
 ·exact .inr (.inr (.inr (.inr (.inr rfl))))
 ·exact absurd h2 (Nat.not_lt_of_le (Nat.le_add_left 6 n))
theorem om19 {i0:Int}:i0 < 256→(↑i0.natAbs:Int)=i0→i0.natAbs < 2 ^ 30:=fun a e=>Int.ofNat_lt.mp (Int.lt_of_le_of_lt (Int.le_of_eq e) (Int.lt_trans a (by decide)))
theorem om20 {n0 n1:Nat}:n0 - 1 < n1→n0≤n1:=fun h=>Nat.le_of_pred_lt h
theorem om21 {n0:Nat}:n0+2≠n0+1:=fun h=>absurd (Nat.add_left_cancel h) (by decide)
theorem om23 {n0 n1:Nat}:n0≤n1+n1→n0≤2*n1:=fun h=>Nat.le_trans h (Nat.le_of_eq (Nat.two_mul _).symm)
theorem om24 {n0 n1:Nat}:n0≤2*n1→n1 < 1000→n0 < 1000000:=fun a b=>Nat.lt_of_le_of_lt (Nat.le_trans a (Nat.mul_le_mul_left 2 (Nat.le_of_lt b))) (by decide)
theorem om25 {n0 n1 n2 n3:Nat}:n0 < 90000→2*n1+n2≤n0+n3→n3≤2*n1→n2 < 1000000:=fun a b c=>Nat.lt_of_le_of_lt (Nat.le_of_add_le_add_left (Nat.le_trans b (Nat.le_trans (Nat.add_le_add_left c n0) (Nat.le_of_eq (Nat.add_comm _ _)))):n2≤n0) (Nat.lt_trans a (by decide))
theorem om26 {n0 n1 n2 n3:Nat}:2*n0+n1≤n2+n3→2*n0+(n1+1)≤n2+(n3+1):=fun h=>Nat.succ_le_succ h
theorem om27 {n0 n1 n2 n3:Nat}:n0 < 90000→2*n1+(n2+1)≤n0+n3→n3≤2*n1→n2 < 1000000:=fun a b c=>Nat.lt_trans (Nat.le_of_add_le_add_left (Nat.le_trans b (Nat.le_trans (Nat.add_le_add_left c n0) (Nat.le_of_eq (Nat.add_comm _ _)))):n2+1≤n0) (Nat.lt_trans a (by decide))
theorem om28 {n0 n1:Nat}:n0 < 1000→n1 < n0→n1 < 2 ^ 62:=fun a b=>Nat.lt_trans b (Nat.lt_trans a (by decide))
theorem om29 {n0 n1:Nat}:n0 < 1000→n1≤1→n0+n1 < 10000:=fun a b=>Nat.lt_of_le_of_lt (Nat.add_le_add (Nat.le_of_lt a) b) (by decide)
theorem om30 {n0 n1 n2 n3:Nat}:2*n0+(n1+1)≤n2+n3→2*n0+n1≤n2 - 1+n3:=fun h=>by
 rcases n2 with _|m
 ·exact Nat.le_of_succ_le h
 ·exact Nat.le_of_succ_le_succ (Nat.succ_add m n3▸h)
theorem om31 {n0:Nat}:n0 < 1000→2*n0 < 90000:=fun h=>Nat.lt_of_le_of_lt (Nat.mul_le_mul_left 2 (Nat.le_of_lt h)) (by decide)
theorem om32 {n0 n1 n2 n3:Nat}:n0≤2*n1→2*n1+(n2+1)≤n3+n0→n3 - 1 < n3:=fun a b=>by
 rcases n3 with _|m
 ·exact absurd (Nat.le_trans (Nat.zero_add n0▸b) a) (Nat.not_le_of_lt (Nat.lt_add_of_pos_right (Nat.succ_pos n2)))
 ·exact Nat.lt_succ_self m
theorem om33 {n0:Nat}:n0 < 1000→2*n0 < 100000:=fun h=>Nat.lt_of_le_of_lt (Nat.mul_le_mul_left 2 (Nat.le_of_lt h)) (by decide)
theorem om34 {n0 n1:Nat}:n0 < 1000→n1≤2*n0→n1 < 2000:=fun a b=>Nat.lt_of_le_of_lt (Nat.le_trans b (Nat.mul_le_mul_left 2 (Nat.le_of_lt_succ a:n0≤999))) (by decide)
theorem om35 {n0 n1 n2 n3:Nat}:n0 < 4→n1≤n0*2000→n2 < 2000→n3≤n2→n1+n3≤1000000:=fun a b c d=>Nat.le_trans (Nat.add_le_add (Nat.le_trans b (Nat.mul_le_mul_right 2000 (Nat.le_of_lt a))) (Nat.le_trans d (Nat.le_of_lt c))) (by decide)
theorem om36 {n0 n1 n2 n3:Nat}:n0 < 4→n1≤1+n0*2000→n2 < 2000→n3≤n2→n1+n3≤1000000:=fun a b c d=>Nat.le_trans (Nat.add_le_add (Nat.le_trans b (Nat.add_le_add_left (Nat.mul_le_mul_right 2000 (Nat.le_of_lt a)) 1)) (Nat.le_trans d (Nat.le_of_lt c))) (by decide)
theorem om37 {n0 n1 n2 n3:Nat}:n0≤n1*2000→n2 < 2000→n3≤n2→n0+n3≤(n1+1)*2000:=fun a b c=>by rw [Nat.succ_mul];exact Nat.add_le_add a (Nat.le_trans c (Nat.le_of_lt b))
theorem om38 {n0 n1 n2 n3:Nat}:n0≤1+n1*2000→n2 < 2000→n3≤n2→n0+n3≤1+(n1+1)*2000:=fun a b c=>by rw [Nat.succ_mul,←Nat.add_assoc];exact Nat.add_le_add a (Nat.le_trans c (Nat.le_of_lt b))
theorem om39 {n0:Nat}:n0≤1+4*2000→n0 < 0+100000:=fun h=>Nat.lt_of_le_of_lt h (by decide)
theorem om40 {n0 n1 n2:Nat}:n0=n1→n2 < 1000→n1 < n2→n0 < 1000000:=fun e a b=>Nat.lt_of_le_of_lt (Nat.le_of_eq e) (Nat.lt_trans b (Nat.lt_trans a (by decide)))
theorem om41 {n0:Nat}:n0+1≠n0+3:=fun h=>absurd (Nat.add_left_cancel h) (by decide)
theorem om42 {n0:Nat}:n0+2≠n0+3:=fun h=>absurd (Nat.add_left_cancel h) (by decide)
theorem om43 {n0:Nat}:n0 < 1000→n0 < 0+100000:=fun h=>Nat.lt_of_lt_of_le h (by decide)
theorem om44 {i0:Int}:0≤i0→i0 < 2→3+i0=3∨3+i0=4:=fun h h2=>by
 obtain ⟨n,rfl⟩:=Int.eq_ofNat_of_zero_le h
 have h2:n < 2:=Int.ofNat_lt.mp h2
 rcases n with _|_|n
 ·exact .inl rfl
 ·exact .inr rfl
 ·exact absurd h2 (Nat.not_lt_of_le (Nat.le_add_left 2 n))
theorem om45 {i0:Int}:0≤i0→i0 < 2→1+i0=1∨1+i0=2:=fun h h2=>by
 obtain ⟨n,rfl⟩:=Int.eq_ofNat_of_zero_le h
 have h2:n < 2:=Int.ofNat_lt.mp h2
 rcases n with _|_|n
 ·exact .inl rfl
 ·exact .inr rfl
 ·exact absurd h2 (Nat.not_lt_of_le (Nat.le_add_left 2 n))
theorem om46 {n3:Nat} {i0 i1 i2:Int}:i0=3∨i0=4→i1=3∨i1=4→i2=3∨i2=4→i0≠i1→i0≠i2→i1≠i2→n3≤2:=by rintro (rfl|rfl) (rfl|rfl) (rfl|rfl) d e f<;>first | exact absurd rfl d | exact absurd rfl e | exact absurd rfl f
theorem om47 {i0 i1:Int}:i0=1∨i0=2→i1=3∨i1=4→i1=i0→False:=by rintro (rfl|rfl) (rfl|rfl) e<;>exact absurd e (by decide)
theorem om48 {i0 i1:Int}:i0=3∨i0=4→i1=1∨i1=2→i1≠i0:=by rintro (rfl|rfl) (rfl|rfl)<;>decide
theorem om49 {n0:Nat}:n0+5≤n0+(0+1)+(0+1)+(0+1)+(0+1)+(0+1):=Nat.le_refl _
theorem om50 {n0 n1:Nat}:n0 < 4→n1 < n0→n1 < 1000:=fun a b=>Nat.lt_trans b (Nat.lt_trans a (by decide))
theorem om51 {n0:Nat}:n0 < 4→n0 < 0+100000:=fun h=>Nat.lt_of_lt_of_le h (by decide)
theorem om52 {i0:Int}:i0 < 1000→i0 < 2 ^ 30:=fun h=>Int.lt_trans h (by decide)
theorem om53 {n0 n1:Nat}:n0 < n1→n0≤n1:=fun h=>Nat.le_of_lt h
theorem om54 {n0 n1 n2 n3:Nat}:n0 < n1→n2≤n3→n1≤n2→n0 < n3:=fun a b c=>Nat.lt_of_lt_of_le a (Nat.le_trans c b)
theorem om55 {n0 n1 n2 n3:Nat}:n0=n1→n2=n1→n3 < n0→n3 < n2:=fun a b c=>Nat.lt_of_lt_of_le c (Nat.le_of_eq (a.trans b.symm))
theorem om56 {n0 n1:Nat}:n0 < 4→n1=n0→n1 < 1000:=fun a e=>Nat.lt_of_le_of_lt (Nat.le_of_eq e) (Nat.lt_trans a (by decide))
theorem om57 {n0:Nat}:0 < 2+(↑n0:Int):=Int.lt_of_lt_of_le (by decide:(0:Int) < 2) (Int.le_add_of_nonneg_right (Int.natCast_nonneg _))
theorem om58 {n0:Nat}:(↑n0:Int) < 3→2+(↑n0:Int) < 1000:=fun h=>Int.lt_trans (Int.add_lt_add_left h 2) (by decide)
theorem om59 {n0 n1:Nat}:(↑n0:Int) < 3→n1 < 2+n0→n1 < 1000:=fun a b=>Nat.lt_trans b (Nat.lt_trans (Nat.add_lt_add_left (Int.ofNat_lt.mp a:n0 < 3) 2) (by decide))
theorem om60 {n0:Nat}:(↑n0:Int) < 3→2+n0 < 0+100000:=fun a=>Nat.lt_trans (Nat.add_lt_add_left (Int.ofNat_lt.mp a:n0 < 3) 2) (by decide)
theorem om61 {n0 n1:Nat}:(↑n0:Int) < 3→n1=2+n0→n1 < 1000:=fun a e=>Nat.lt_of_le_of_lt (Nat.le_of_eq e) (Nat.lt_trans (Nat.add_lt_add_left (Int.ofNat_lt.mp a:n0 < 3) 2) (by decide))
theorem om62 {n0 n1:Nat}:n0=2+n1→0 < n0:=fun e=>Nat.lt_of_lt_of_le (by decide:0 < 2) (Nat.le_trans (Nat.le_add_right 2 n1) (Nat.le_of_eq e.symm))
theorem om63 {n0:Nat}:(↑n0:Int) < 3→2+n0 < 2 ^ 31:=fun a=>Nat.lt_trans (Nat.add_lt_add_left (Int.ofNat_lt.mp a:n0 < 3) 2) (by decide)
theorem om64 {n0 n1:Nat} {i2:Int}:n0=2+n1→i2 < 2+(↑n1:Int)→i2 < (↑n0:Int):=fun e h=>by subst e;exact Int.lt_of_lt_of_le h (Int.le_of_eq (by rw [Int.natCast_add];rfl))
theorem om65 {i0:Int}:¬0≤i0→0≤-1 - i0:=fun h=>Int.sub_nonneg_of_le (Int.le_sub_one_of_lt (Int.not_le.mp h))
theorem om66 {i0:Int}:0≤i0→0≤i0+23:=fun h=>Int.add_nonneg h (by decide)
theorem om67 {i0:Int}:i0 < 2147483629→i0+23 < 2 ^ 62:=fun h=>Int.lt_trans (Int.add_lt_add_right h 23) (by decide)
theorem om68 {i0:Int}:i0 < 5→i0 < 256:=fun h=>Int.lt_trans h (by decide)
theorem om69 {n0 n1:Nat}:n0≤n1 - 1→0 < n1→n0+1≤n1:=fun h h2=>Nat.lt_of_le_of_lt h (Nat.sub_lt h2 Nat.one_pos)
theorem om70 {n0 n1 n2:Nat}:n0 < 90000→n1+n2≤n0→n2 < 1000000:=fun a b=>Nat.lt_of_le_of_lt (Nat.le_trans (Nat.le_add_left _ n1) b:n2≤n0) (Nat.lt_trans a (by decide))
theorem om71 {n0 n1 n2 n3:Nat}:n0+n1≤n2→n3 < n0→n3+(n1+1)≤n2:=fun a b=>Nat.le_trans (show n3+(n1+1)≤n0+n1 by rw [Nat.add_comm n1 1,←Nat.add_assoc];exact Nat.add_le_add_right b n1) a
theorem om72 {n0 n1 n2:Nat}:n0 < 90000→n1+(n2+1)≤n0→n2 < 1000000:=fun a b=>Nat.lt_trans (Nat.le_trans (Nat.le_add_left _ n1) b:n2+1≤n0) (Nat.lt_trans a (by decide))
theorem om73 {n0 n1 n2:Nat}:n0+(n1+1)≤n2→n0+n1≤n2 - 1:=fun h=>Nat.le_sub_one_of_lt h
theorem om74 {n0 n1 n2:Nat}:n0≤3*n1→n2≤3→n0+n2≤3*(n1+1):=fun a b=>Nat.add_le_add a b
theorem om75 {n0 n1:Nat}:n0 < 1000→n1≤3*n0→n1+1 < 90000:=fun a b=>Nat.lt_of_le_of_lt (Nat.succ_le_succ (Nat.le_trans b (Nat.mul_le_mul_left 3 (Nat.le_of_lt a)))) (by decide)
theorem om76 {n0 n1:Nat}:n0 < 1000→n1≤3*n0→n1+1 < 100000:=fun a b=>Nat.lt_of_le_of_lt (Nat.succ_le_succ (Nat.le_trans b (Nat.mul_le_mul_left 3 (Nat.le_of_lt a)))) (by decide)
theorem om77 {n0 n1 n2:Nat}:n0=n1+1→n2 < n1→n2 < n0 - 1:=fun e h=>by subst e;exact h
theorem om78 {n1:Nat} {i0:Int}:0≤i0∧i0≤20∧n1≤20→-9223372036854775808≤i0∧i0 < 9223372036854775808:=fun h=>⟨Int.le_trans (by decide) h.1,Int.lt_of_le_of_lt h.2.1 (by decide)⟩
theorem om79 {n0:Nat} {i1:Int}:n0*i1.toNat≤400→¬n0*i1.toNat > (2 ^ 63 - 1) / 8:=fun h=>Nat.not_lt.mpr (Nat.le_trans h (by decide))
theorem om80 {n0:Nat} {i1:Int}:n0*i1.toNat≤400→n0*i1.toNat≤16777216:=fun h=>Nat.le_trans h (by decide)
theorem om81 {i0:Int}:i0.natAbs < 2 ^ 62→-2 ^ 64 < i0:=fun h=>Int.lt_of_lt_of_le (b:=-4611686018427387904) (by decide) (Int.neg_le_of_neg_le (Int.le_trans (by rw [←Int.natAbs_neg];exact Int.le_natAbs) (Int.le_of_lt (Int.ofNat_lt.mpr h))))
theorem om82 {i0:Int}:i0.natAbs < 2 ^ 62→i0 < 2 ^ 64:=fun h=>Int.lt_of_le_of_lt Int.le_natAbs (Int.lt_trans (Int.ofNat_lt.mpr h) (by decide))
theorem om83 {i0:Int}:0≤i0∧i0≤10→i0.natAbs < 2 ^ 64:=fun h=>Int.ofNat_lt.mp (by rw [Int.natAbs_of_nonneg h.1];exact Int.lt_of_le_of_lt h.2 (by decide))
theorem om84 {n0 n1:Nat}:min (n0+1) (n1+1)=min n0 n1+1:=Nat.add_min_add_right _ _ _
theorem om85 {n0 n1:Nat}:n0+30 < n1→n0+1+20 < n1:=fun h=>Nat.lt_of_le_of_lt (Nat.add_le_add_left (by decide:21≤30) n0) h
theorem om86 {i0:Int}:0≤i0→¬i0 < 0:=fun h=>Int.not_lt.mpr h
theorem om87 {i0:Int}:¬0≤i0→i0 < 0:=fun h=>Int.not_le.mp h
theorem om88 {n1:Nat} {i0:Int}:i0 < 0→i0+(↑n1:Int) < (↑n1:Int):=fun h=>Int.lt_of_lt_of_le (Int.add_lt_add_right h _) (Int.le_of_eq (Int.zero_add _))
theorem om89 {n1:Nat} {i0:Int}:0≤i0→i0 < (↑n1:Int)→-(↑n1:Int)≤i0∧i0 < (↑n1:Int):=fun h h2=>⟨Int.le_trans (Int.neg_nonpos_of_nonneg (Int.natCast_nonneg _)) h,h2⟩
theorem om90 {n1:Nat} {i0:Int}:¬0≤i0→0≤i0+(↑n1:Int)→-(↑n1:Int)≤i0∧i0 < (↑n1:Int):=fun h h2=>⟨Int.le_of_sub_nonneg (by rw [Int.sub_neg];exact h2),Int.lt_of_lt_of_le (Int.not_le.mp h) (Int.natCast_nonneg _)⟩
theorem om91 {n0:Nat} {i1:Int}:-(↑n0:Int)≤i1∧i1 < (↑n0:Int)→n0≤1000000→-2 ^ 63≤i1:=fun h h2=>Int.le_trans (b:=-1000000) (by decide) (Int.le_trans (Int.neg_le_neg (Int.ofNat_le.mpr h2)) h.1)
theorem om92 {n0:Nat} {i1:Int}:-(↑n0:Int)≤i1∧i1 < (↑n0:Int)→n0≤1000000→i1 < 2 ^ 63:=fun h h2=>Int.lt_trans h.2 (Int.lt_of_le_of_lt (Int.ofNat_le.mpr h2) (by decide))
theorem om93 {i0:Int}:0≤i0→(↑i0.toNat:Int)=i0:=fun h=>Int.toNat_of_nonneg h
theorem om94 {n0 n1:Nat}:n0=n1→n0≤n1:=fun e=>Nat.le_of_eq e
theorem om96 {n0 n1 n2:Nat}:n0=n1→n0 - n2≤n1 - n2:=fun e=>Nat.sub_le_sub_right (Nat.le_of_eq e) _
theorem om97 {n0 n1 n2 n3:Nat}:n0=n1→n1≤n2→n0 - n3≤n2 - n3:=fun e h=>Nat.sub_le_sub_right (Nat.le_trans (Nat.le_of_eq e) h) _
theorem om98 {n0:Nat}:1≤(↑n0:Int)→1≤n0:=fun h=>Int.ofNat_le.mp h
theorem om99 {n0 n1 n2 n3:Nat}:n0≤20→n1≤n0→n2≤n3→n2=1000000→n1≤n3+1:=fun a b c e=>Nat.le_trans b (Nat.le_trans a (Nat.le_trans (by decide:20≤1000000) (Nat.le_trans (Nat.le_of_eq e.symm) (Nat.le_succ_of_le c))))
theorem om100 {n0 n1 n2 n3:Nat}:n0≤20→n1≤n0→n2≤n3→n2=1000000→n1+1≤n3+1:=fun a b c e=>Nat.succ_le_succ (Nat.le_trans b (Nat.le_trans a (Nat.le_trans (by decide:20≤1000000) (Nat.le_trans (Nat.le_of_eq e.symm) c))))
theorem om101 {n0 n2:Nat} {i1:Int}:n0=1000000→0≤i1∧i1 < (↑n2:Int)∧n2≤n0→i1 < 2 ^ 63:=fun e h=>Int.lt_trans h.2.1 (Int.lt_of_le_of_lt (Int.ofNat_le.mpr (Nat.le_trans h.2.2 (Nat.le_of_eq e))) (by decide))
theorem om102 {n1 n2 n3:Nat} {i0:Int}:0≤i0∧i0 < (↑n1:Int)∧n1≤n2→n3=n1→i0 < (↑n3:Int):=fun h e=>e▸h.2.1
theorem om103 {n0 n1 n2 n3:Nat}:n0≤n1→n2 < n0→n3=n2→n3≤n1:=fun a b e=>Nat.le_trans (Nat.le_of_eq e) (Nat.le_trans (Nat.le_of_lt b) a)
theorem om104 {n0:Nat}:n0≤1000000→(↑n0:Int) < 2 ^ 63:=fun h=>Int.lt_of_le_of_lt (Int.ofNat_le.mpr h) (by decide)
theorem om105 {i0:Int}:i0 < 0→-i0=(↑i0.natAbs:Int):=fun h=>(Int.ofNat_natAbs_of_nonpos (Int.le_of_lt h)).symm
theorem om106 {i0:Int}:¬i0 < 0→i0=(↑i0.natAbs:Int):=fun h=>(Int.natAbs_of_nonneg (Int.not_lt.mp h)).symm
theorem om107 {i0:Int}:0 < i0→i0 - 0 - 1+1=max i0 0:=fun h=>by rw [Int.sub_zero,Int.sub_add_cancel,Int.max_eq_left (Int.le_of_lt h)]
theorem om108 {i0:Int}:¬0 < i0→0=max i0 0:=fun h=>(Int.max_eq_right (Int.not_lt.mp h)).symm
theorem om109 {i0:Int}:0≤i0→i0 < 2 ^ 62→-9223372036854775808≤i0∧i0 < 9223372036854775808:=fun h h2=>⟨Int.le_trans (by decide) h,Int.lt_trans h2 (by decide)⟩
theorem om110 {i0:Int}:0≤i0∧i0 < 2 ^ 31→0≤i0:=fun h=>h.1
theorem om111 {i0:Int}:0≤i0∧i0 < 2 ^ 31→i0 < 2 ^ 62:=fun h=>Int.lt_trans h.2 (by decide)
theorem om112 {i0:Int}:0≤max i0 0:=Int.le_max_right _ _
theorem om113 {i0:Int}:0≤i0∧i0 < 2 ^ 31→max i0 0 < 2 ^ 62:=fun h=>by rw [Int.max_eq_left h.1];exact Int.lt_trans h.2 (by decide)
theorem om114 {i0:Int}:0≤i0∧i0 < 2 ^ 31→0≤i0+(1 - 1):=fun h=>Int.le_trans h.1 (Int.le_of_eq (Int.add_zero _).symm)
theorem om115 {i0:Int}:0≤i0∧i0 < 2 ^ 31→i0+(1 - 1) < 2 ^ 62:=fun h=>Int.lt_of_le_of_lt (Int.le_of_eq (Int.add_zero _)) (Int.lt_trans h.2 (by decide))
theorem om116 {n0:Nat} {i1:Int}:(↑n0:Int) < i1→0 < max i1 0 - (↑n0:Int):=fun h=>Int.sub_pos_of_lt (Int.lt_of_lt_of_le h (Int.le_max_left _ _))
theorem om117 {n1:Nat} {i0:Int}:max i0 0 - (↑(n1+1):Int)=max i0 0 - (↑n1:Int) - 1:=by rw [Int.natCast_add,←Int.sub_sub];rfl
theorem om118 {n0:Nat} {i1:Int}:¬(↑n0:Int) < i1→max i1 0 - (↑n0:Int)≤0:=fun h=>Int.sub_nonpos_of_le (Int.max_le.mpr ⟨Int.not_lt.mp h,Int.natCast_nonneg _⟩)
theorem om119 {n0 n1 n2:Nat}:n0+n1≤n0+n2→n2 - (n0+n2 - (n0+n1))=n1:=fun h=>by rw [Nat.add_sub_add_left,Nat.sub_sub_self (Nat.le_of_add_le_add_left h)]
theorem om120 {n0 n1 n2:Nat}:n0+4*(n1+1)+4 < n2→n0+1+1+4*n1+4 < n2:=fun h=>Nat.lt_of_le_of_lt (Nat.add_le_add_right (ar n0 2 (m:=4*n1) (k:=4) (by decide)) 4) h
theorem om121 {n0 n1 n2:Nat}:n0+16*(n1+1)+200 < n2→n0+1+3+16*n1+200 < n2:=fun h=>Nat.lt_of_le_of_lt (Nat.add_le_add_right (ar n0 4 (m:=16*n1) (k:=16) (by decide)) 200) h
theorem om122 {n0 n1 n2:Nat}:n0+4*(n1+1)+4 < n2→n0+1+4*n1+4 < n2:=fun h=>Nat.lt_of_le_of_lt (Nat.add_le_add_right (ar n0 1 (m:=4*n1) (k:=4) (by decide)) 4) h
theorem om123 {n0 n1 n2:Nat}:n0+16*(n1+1)+200 < n2→n0+3+16*n1+200 < n2:=fun h=>Nat.lt_of_le_of_lt (Nat.add_le_add_right (ar n0 3 (m:=16*n1) (k:=16) (by decide)) 200) h
theorem om124 {n0:Nat}:n0≤20→n0 < 30:=fun h=>Nat.lt_of_le_of_lt h (by decide)
end Mine
end
section
namespace Mine
open PySem
inductive AV where
 | none
 | bool (b:Bool)
 | int (i:Int)
 | str (n:Nat)
 | tup (l:List AV)
 | loc (n:Nat)
 | glist (l:List Int)
 | range (n:Int)
inductive AO where
 | list (l:List AV)
 | dI (l:List (Int×AV))
 | dS (l:List (Nat×AV))
 | inst (c:Nat) (l:List (Nat×AV))
noncomputable abbrev St:=List AO
noncomputable abbrev At:=List (Nat×AV)
inductive BI where
 | len | range | tuple | list | dict | abs
inductive PT where
 | one (x:Nat)
 | many (l:List Nat)
inductive PE where
 | bad
 | none
 | bool (b:Bool)
 | int (i:Int)
 | str (n:Nat)
 | var (x:Nat)
 | gtup (x:Nat)
 | tup (l:List PE)
 | list (l:List PE)
 | dict (l:List PE)
 | bin (op:Operator) (a b:PE)
 | not (a:PE)
 | neg (a:PE)
 | bop (op:BoolOp) (l:List PE)
 | cmp (op:CmpOp) (a b:PE)
 | cmp2 (op op':CmpOp) (a b c:PE)
 | ite (t a b:PE)
 | idx (a i:PE)
 | slc (a lo hi:PE)
 | bits (e:PE)
 | attr (a:PE) (f:Nat)
 | call (f:Nat) (args:List PE)
 | blt (b:BI) (args:List PE)
 | meth (o:PE) (m:Nat) (args:List PE)
 | lcomp (elt:PE) (t:PT) (it:PE) (ifs:List PE)
 | dcomp (k v:PE) (t:PT) (it:PE) (ifs:List PE)
inductive PG where
 | name (x:Nat)
 | names (l:List Nat)
 | sub (o i:PE)
 | att (o:PE) (f:Nat)
inductive PS where
 | bad
 | pass
 | expr (e:PE)
 | asg (t:PG) (e:PE)
 | ret (e:PE)
 | ifs (c:PE) (b o:List PS)
 | whl (c:PE) (b:List PS)
 | fors (t:PT) (it:PE) (b:List PS)
structure Def where
 params:List (Nat×Option AV)
 body:List PS
inductive AF where
 | next
 | ret (v:AV)
theorem AV.int.inj {a b:Int} (h:AV.int a=AV.int b):a=b:=by injection h
theorem AV.tup.inj {a b:List AV} (h:AV.tup a=AV.tup b):a=b:=by injection h
theorem AO.list.inj {a b:List AV} (h:AO.list a=AO.list b):a=b:=by injection h
theorem AF.ret.inj {a b:AV} (h:AF.ret a=AF.ret b):a=b:=by injection h
theorem PT.many.inj {a b:List Nat} (h:PT.many a=PT.many b):a=b:=by injection h
@[simp] theorem AV.int.injEq (a b:Int):(AV.int a=AV.int b)=(a=b):=propext ⟨AV.int.inj,congrArg _⟩
@[simp] theorem AV.tup.injEq (a b:List AV):(AV.tup a=AV.tup b)=(a=b):=propext ⟨AV.tup.inj,congrArg _⟩
noncomputable def look (x:Nat):List (Nat×AV)→Option AV
 | []=>Option.none
 | (y,v)::r=>if x=y then some v else look x r
noncomputable def put (x:Nat) (v:AV):List (Nat×AV)→List (Nat×AV)
 | []=>[(x,v)]
 | (y,w)::r=>if x=y then (y,v)::r else (y,w)::put x v r
noncomputable def Ao (x:Int):List (Int×AV)→Option AV
 | []=>Option.none
 | (y,v)::r=>if x=y then some v else Ao x r
noncomputable def Br (x:Int) (v:AV):List (Int×AV)→List (Int×AV)
 | []=>[(x,v)]
 | (y,w)::r=>if x=y then (y,v)::r else (y,w)::Br x v r
noncomputable def DV (x:Int):List (Int×AV)→List (Int×AV)
 | []=>[]
 | (y,w)::r=>if x=y then r else (y,w)::DV x r
noncomputable def Ci:List Nat→List AV→At→Option At
 | [],[],ρ=>some ρ
 | x::xs,v::vs,ρ=>Ci xs vs (put x v ρ)
 | _,_,_=>Option.none
noncomputable def AX:Nat:=1000000
noncomputable def Cv (f:AV→AV→Option Bool):List AV→List AV→Option Bool
 | [],[]=>some true
 | x::xs,y::ys=>match f x y,Cv f xs ys with
  | some a,some b=>some (a&&b)
  | _,_=>Option.none
 | _,_=>some false
noncomputable def CQ (f:AV→AV→Option Bool) (b:List (Int×AV)):List (Int×AV)→Option Bool
 | []=>some true
 | (k,v)::r=>match Ao k b with
  | Option.none=>some false
  | some w=>match f v w,CQ f b r with
   | some x,some y=>some (x&&y)
   | _,_=>Option.none
noncomputable def Ov (f:List AV→List AV→Option Bool) (g:Nat→Nat→Option Bool) (x y:AV):Option Bool:=match x with
 | .none=>(match y with
  | .none=>some true
  | .bool _ | .int _ | .str _ | .tup _=>some false
  | _=>Option.none)
 | .bool a=>(match y with
  | .bool b=>some (a==b)
  | .int b=>some ((if a then 1 else 0)==b)
  | .none | .str _ | .tup _=>some false
  | _=>Option.none)
 | .int a=>(match y with
  | .int b=>some (a==b)
  | .bool b=>some (a==(if b then 1 else 0))
  | .none | .str _ | .tup _=>some false
  | _=>Option.none)
 | .str a=>(match y with
  | .str b=>some (a==b)
  | .none | .bool _ | .int _ | .tup _=>some false
  | _=>Option.none)
 | .tup a=>(match y with
  | .tup b=>f a b
  | .none | .bool _ | .int _ | .str _=>some false
  | _=>Option.none)
 | .loc a=>(match y with
  | .loc b=>g a b
  | _=>Option.none)
 | _=>Option.none
noncomputable def Ig (f:AV→AV→Option Bool) (x y:Option AO):Option Bool:=match x with
 | some (.list l)=>(match y with
  | some (.list m)=>if l.length=m.length then Cv f l m else some false
  | _=>Option.none)
 | some (.dI l)=>(match y with
  | some (.dI m)=>if l.length=m.length then CQ f m l else some false
  | _=>Option.none)
 | _=>Option.none
noncomputable def BU (σ:St):Nat→AV→AV→Option Bool
 | 0=>fun _ _=>Option.none
 | n+1=>Ov (Cv (BU σ n)) fun a b=>Ig (BU σ n) σ[a]? σ[b]?
noncomputable def CP (f:AV→AV→Option Bool) (x:AV):List AV→Option Bool
 | []=>some false
 | y::ys=>match f y x,CP f x ys with
  | some a,some b=>some (a || b)
  | _,_=>Option.none
noncomputable def truth:AV→Option Bool
 | .bool b=>some b
 | .none=>some false
 | _=>Option.none
noncomputable def KC (x y:AV):Option Bool:=match y with
 | .none=>(match x with
  | .none=>some true
  | .bool _ | .int _ | .str _ | .tup _ | .loc _=>some false
  | _=>Option.none)
 | .bool b=>(match x with
  | .bool a=>some (a==b)
  | .none=>some false
  | _=>Option.none)
 | _=>Option.none
noncomputable def inI (x:AV) (l:List (Int×AV)):Option Bool:=match x with
 | .int i=>some (Ao i l).isSome
 | _=>Option.none
noncomputable def inA (σ:St) (x c:AV):Option Bool:=match c with
 | .tup l=>CP (BU σ 20) x l
 | .loc a=>match σ[a]? with
  | some (.list l)=>CP (BU σ 20) x l
  | some (.dI l)=>inI x l
  | _=>Option.none
 | _=>Option.none
noncomputable def EA {α:Type} (x y:AV) (f:Int→Int→Option α):Option α:=match x with
 | .int a=>(match y with
  | .int b=>f a b
  | _=>Option.none)
 | _=>Option.none
noncomputable def A9 (σ:St) (op:CmpOp) (x y:AV):Option Bool:=match op with
 | .Eq=>BU σ 20 x y
 | .NotEq=>(BU σ 20 x y).map not
 | .Lt=>EA x y fun a b=>some (decide (a < b))
 | .LtE=>EA x y fun a b=>some (decide (a≤b))
 | .Gt=>EA x y fun a b=>some (decide (b < a))
 | .GtE=>EA x y fun a b=>some (decide (b≤a))
 | .Is=>KC x y
 | .IsNot=>(KC x y).map not
 | .In=>inA σ x y
 | .NotIn=>(inA σ x y).map not
noncomputable def O4 (l:List AV):Nat→List AV
 | 0=>[]
 | n+1=>l++O4 l n
noncomputable def CT:Option AO→Option (List AV)
 | some (.list l)=>some l
 | _=>Option.none
noncomputable def U0 (σ:St) (x y:AV):Option (AV×St):=match x with
 | .int a=>(match y with
  | .int b=>some (.int (a+b),σ)
  | _=>Option.none)
 | .tup l=>(match y with
  | .tup m=>if l.length+m.length≤AX then some (.tup (l++m),σ) else Option.none
  | _=>Option.none)
 | .loc a=>(match y with
  | .loc b=>(match CT σ[a]? with
   | some l=>(match CT σ[b]? with
    | some m=>if l.length+m.length≤AX then some (.loc σ.length,σ++[.list (l++m)]) else Option.none
    | Option.none=>Option.none)
   | Option.none=>Option.none)
  | _=>Option.none)
 | _=>Option.none
noncomputable def Ue (σ:St) (x y:AV):Option (AV×St):=match x with
 | .int a=>(match y with
  | .int b=>if a.natAbs < 2 ^ 62∧b.natAbs < 2 ^ 62 then some (.int (a*b),σ) else Option.none
  | _=>Option.none)
 | .loc a=>(match y with
  | .int n=>(match CT σ[a]? with
   | some l=>if 0≤n∧n≤20∧l.length≤20 then some (.loc σ.length,σ++[.list (O4 l n.toNat)]) else Option.none
   | Option.none=>Option.none)
  | _=>Option.none)
 | _=>Option.none
noncomputable def IB (σ:St) (op:Operator) (x y:AV):Option (AV×St):=match op with
 | .Add=>U0 σ x y
 | .Sub=>EA x y fun a b=>some (.int (a - b),σ)
 | .Mult=>Ue σ x y
 | .FloorDiv=>EA x y fun a b=>if b≠0∧b.natAbs < 2 ^ 30 then some (.int (Int.fdiv a b),σ) else Option.none
 | .Mod=>EA x y fun a b=>if b=0 then Option.none else some (.int (Int.fmod a b),σ)
 | .Pow=>EA x y fun a b=>if 0≤b∧b≤20∧0≤a∧a≤10 then some (.int (a ^ b.toNat),σ) else Option.none
 | _=>Option.none
noncomputable def Gk (i:Int) (n:Nat):Option Nat:=
 if 0≤i then (if i < n then some i.toNat else Option.none)
 else if 0≤i+n then some (i+n).toNat else Option.none
noncomputable def kU8:Nat:=1
noncomputable def kU:Nat:=2
noncomputable def CM (σ:St) (o i:AV):Option AV:=match o with
 | .tup l=>(match i with
  | .int k=>if l.length≤AX then (Gk k l.length).bind fun j=>l[j]? else Option.none
  | _=>Option.none)
 | .glist l=>(match i with
  | .int k=>if 0≤k∧k < 2 ^ 62 then l[k.toNat]?.map .int else Option.none
  | _=>Option.none)
 | .loc a=>(match i with
  | .int k=>(match σ[a]? with
   | some (.list l)=>if 0≤k∧k < 2 ^ 62 then l[k.toNat]? else Option.none
   | some (.dI l)=>Ao k l
   | _=>Option.none)
  | .str k=>(match σ[a]? with
   | some (.dS l)=>look k l
   | _=>Option.none)
  | _=>Option.none)
 | .str n=>(match i with
  | .int k=>if n=kU8∧k=0 then some (.str kU) else Option.none
  | _=>Option.none)
 | _=>Option.none
noncomputable def Gw (v:AV):Option (Option Nat):=match v with
 | .none=>some Option.none
 | .int i=>if 0≤i then some (some i.toNat) else Option.none
 | _=>Option.none
noncomputable def GI (l:List AV):Option Nat→Option Nat→List AV
 | Option.none,Option.none=>l
 | some a,Option.none=>l.drop a
 | Option.none,some b=>l.take b
 | some a,some b=>(l.drop a).take (b - a)
noncomputable def LQ (σ:St) (o lo hi:AV):Option (AV×St):=match o with
 | .tup l=>match lo,hi with
  | .int i,.none=>if 1≤i∧i≤l.length∧l.length≤AX then some (.tup (l.drop i.toNat),σ) else Option.none
  | _,_=>Option.none
 | .loc x=>match σ[x]? with
  | some (.list l)=>match Gw lo,Gw hi with
   | some a,some b=>if l.length≤AX then some (.loc σ.length,σ++[.list (GI l a b)]) else Option.none
   | _,_=>Option.none
  | _=>Option.none
 | _=>Option.none
noncomputable def QT:AV→Option AV
 | .str n=>if n=kU8 then some (.int 8) else Option.none
 | _=>Option.none
noncomputable def Nt (σ:St) (o:AV) (f:Nat):Option AV:=match o with
 | .loc a=>match σ[a]? with
  | some (.inst _ l)=>look f l
  | _=>Option.none
 | _=>Option.none
noncomputable def Bg (σ:St) (d:Bool) (src:AV) (i:Nat):Option (Option AV):=match src with
 | .tup l=>some l[i]?
 | .range n=>some (if (i:Int) < n then some (.int i) else Option.none)
 | .loc a=>match σ[a]? with
  | some (.list l)=>if d then Option.none else some l[i]?
  | some (.dI l)=>if d then some (l[i]?.map fun p=>.int p.1) else Option.none
  | _=>Option.none
 | _=>Option.none
noncomputable def AH (σ:St) (src:AV):Bool:=match src with
 | .loc a=>match σ[a]? with
  | some (.dI _)=>true
  | _=>false
 | _=>false
noncomputable def Gq (σ:St) (v:AV):Option (List AV):=match v with
 | .tup l=>some l
 | .loc a=>match σ[a]? with
  | some (.list l)=>some l
  | _=>Option.none
 | _=>Option.none
noncomputable def Bq (σ:St) (t:PT) (v:AV) (ρ:At):Option At:=match t with
 | .one x=>some (put x v ρ)
 | .many xs=>(Gq σ v).bind fun l=>Ci xs l ρ
noncomputable def AC:Nat:=100000
noncomputable def Fl:List AV→List (Int×AV)→Option (List (Int×AV))
 | [],acc=>some acc
 | .int k::v::r,acc=>Fl r (Br k v acc)
 | _,_=>Option.none
noncomputable def Gl:List AV→List (Nat×AV)→Option (List (Nat×AV))
 | [],acc=>some acc
 | .str k::v::r,acc=>Gl r (put k v acc)
 | _,_=>Option.none
noncomputable def KY (l:List AV):Option AO:=match l with
 | .str _::_=>(Gl l []).map .dS
 | _=>(Fl l []).map .dI
noncomputable def Cd:List AV→List (Int×AV)→Option (List (Int×AV))
 | [],acc=>some acc
 | .tup [.int k,v]::r,acc=>Cd r (Br k v acc)
 | _::_,_=>Option.none
noncomputable def L5 (σ:St) (x:AV):Option Nat:=match x with
 | .tup l=>some l.length
 | .glist l=>some l.length
 | .loc a=>(match σ[a]? with
  | some (.list l)=>some l.length
  | some (.dI l)=>some l.length
  | _=>Option.none)
 | _=>Option.none
noncomputable def Qu (σ:St) (x:AV):Option (List AV):=match x with
 | .tup l=>some l
 | .loc a=>CT σ[a]?
 | _=>Option.none
noncomputable def DB (b:BI) (args:List AV) (σ:St):Option (AV×St):=match args with
 | [x]=>(match b with
  | .len=>(match L5 σ x with
   | some n=>if n≤AX then some (.int n,σ) else Option.none
   | Option.none=>Option.none)
  | .range=>(match x with
   | .int n=>if 0≤n∧n < 2 ^ 31 then some (.range n,σ) else Option.none
   | _=>Option.none)
  | .tuple=>(match x with
   | .tup l=>some (.tup l,σ)
   | .loc a=>(match CT σ[a]? with
    | some l=>if l.length≤AX then some (.tup l,σ) else Option.none
    | Option.none=>Option.none)
   | _=>Option.none)
  | .list=>(match Qu σ x with
   | some l=>if l.length≤AX then some (.loc σ.length,σ++[.list l]) else Option.none
   | Option.none=>Option.none)
  | .dict=>(match x with
   | .loc a=>(match σ[a]? with
    | some (.dI l)=>if l.length≤AX then some (.loc σ.length,σ++[.dI l]) else Option.none
    | some (.list l)=>if l.length≤AX then (match Cd l [] with
      | some m=>some (.loc σ.length,σ++[.dI m])
      | Option.none=>Option.none) else Option.none
    | _=>Option.none)
   | _=>Option.none)
  | .abs=>(match x with
   | .int i=>some (.int i.natAbs,σ)
   | _=>Option.none))
 | _=>Option.none
inductive MT where
 | fn (c m:Nat)
 | bl (d:Bool) (m:Nat)
noncomputable def Es (σ:St) (o:AV) (m:Nat):Option MT:=match o with
 | .loc a=>match σ[a]? with
  | some (.inst c l)=>(match look m l with
   | Option.none=>some (.fn c m)
   | some _=>Option.none)
  | some (.list _)=>some (.bl false m)
  | some (.dI _)=>some (.bl true m)
  | _=>Option.none
 | _=>Option.none
noncomputable def Dm:Nat:=3
noncomputable def Fv:Nat:=4
noncomputable def ER:Nat:=5
noncomputable def HL:Nat:=6
section
variable {α β γ:Type} {P:Prop}
noncomputable def A3 (o:Option (α×St)) (f:α→St→Option β):Option β:=match o with
 | some (x,σ)=>f x σ
 | none=>none
noncomputable def Bi (o:Option α) (f:α→Option β):Option β:=match o with
 | some x=>f x
 | none=>none
theorem Ap {o:Option (α×St)} {f:α→St→Option β} {x:α} {σ:St} {r:Option β} (h:o=some (x,σ)) (k:f x σ=r):A3 o f=r:=by subst h;exact k
theorem AE {o:Option α} {f:α→Option β} {x:α} {r:Option β} (h:o=some x) (k:f x=r):Bi o f=r:=by subst h;exact k
theorem AB {o:Option (α×St)} {f:α→St→Option β} {r:β} (h:A3 o f=some r) (k:∀ x σ,o=some (x,σ)→f x σ=some r→P):P:=by
 cases o with
 | none=>exact nomatch h
 | some q=>exact k q.1 q.2 rfl h
theorem AI {o:Option α} {f:α→Option β} {r:β} (h:Bi o f=some r) (k:∀ x,o=some x→f x=some r→P):P:=by
 cases o with
 | none=>exact nomatch h
 | some x=>exact k x rfl h
theorem BL {o:Option α} {f:α→β} {r:β} (h:o.map f=some r) (k:∀ x,o=some x→f x=r→P):P:=by
 cases o with
 | none=>exact nomatch h
 | some x=>exact k x rfl (oQ h)
theorem Bf {a:α} {b:β} {c:α} {d:β} (h:some (a,b)=some (c,d)) (k:a=c→b=d→P):P:=pQ (oQ h) |>.elim k
theorem BF {b:Bool} {x:Option α} {r:α} (h:cond b x none=some r) (k:b=true→x=some r→P):P:=by
 cases b with
 | false=>exact nomatch h
 | true=>exact k rfl h
theorem Ae {a:α} (h:none=some a):P:=nomatch h
theorem OV {a b:α} {Q:α→Prop} (h:some a=some b) (q:Q a):Q b:=oQ h▸q
end
noncomputable def T9 {β:Type} (l:List AV) (f:AV→Option β):Option β:=match l with
 | [v]=>f v
 | _=>none
noncomputable def nilA {β:Type} (l:List AV) (r:Option β):Option β:=match l with
 | []=>r
 | _=>none
noncomputable def RW {β:Type} (x:AV) (f:Int→Option β):Option β:=match x with
 | .int i=>f i
 | _=>none
noncomputable def Ul {β:Type} (l:List AV) (f:Int→Option AV→Option β):Option β:=match l with
 | [x]=>RW x fun k=>f k none
 | [x,d]=>RW x fun k=>f k (some d)
 | _=>none
noncomputable def PA {β:Type} (x:AV) (f:Nat→Option β):Option β:=match x with
 | .loc b=>f b
 | _=>none
section
variable {β:Type} {P:Prop} {r:β}
theorem L6 {x:AV} {f:Int→Option β} (h:RW x f=some r) (k:∀ i,x=.int i→f i=some r→P):P:=by
 induction x using AV.casesOn with
 | int i=>exact k i rfl h
 | _=>exact Ae h
theorem L2 {x:AV} {f:Nat→Option β} (h:PA x f=some r) (k:∀ i,x=.loc i→f i=some r→P):P:=by
 induction x using AV.casesOn with
 | loc i=>exact k i rfl h
 | _=>exact Ae h
theorem Pj {l:List AV} {f:AV→Option β} (h:T9 l f=some r) (k:∀ v,l=[v]→f v=some r→P):P:=by
 induction l using List.casesOn with
 | nil=>exact Ae h
 | cons v l=>induction l using List.casesOn with
  | nil=>exact k v rfl h
  | cons _ _=>exact Ae h
theorem Uc {l:List AV} {f:Option β} (h:nilA l f=some r) (k:l=[]→f=some r→P):P:=by
 induction l using List.casesOn with
 | nil=>exact k rfl h
 | cons v l=>exact Ae h
theorem PO {l:List AV} {f:Int→Option AV→Option β} (h:Ul l f=some r) (k1:∀ i,l=[.int i]→f i none=some r→P) (k2:∀ i d,l=[.int i,d]→f i (some d)=some r→P):P:=by
 induction l using List.casesOn with
 | nil=>exact Ae h
 | cons x l=>induction l using List.casesOn with
  | nil=>exact L6 h fun i e h=>k1 i (e▸rfl) h
  | cons d l=>induction l using List.casesOn with
   | nil=>exact L6 h fun i e h=>k2 i d (e▸rfl) h
   | cons _ _=>exact Ae h
theorem Iv {c:Prop} [Decidable c] {x:Option β} (h:(if c then x else none)=some r) (k:c→x=some r→P):P:=by
 by_cases hc:c
 ·rw [if_pos hc] at h;exact k hc h
 ·rw [if_neg hc] at h;exact Ae h
theorem GH {b:Bool} {x y:Option β} (h:cond b x y=some r) (k1:b=true→x=some r→P) (k2:b=false→y=some r→P):P:=by
 induction b using Bool.casesOn with
 | true=>exact k1 rfl h
 | false=>exact k2 rfl h
end
noncomputable def MC (a:Nat) (l:List (Int×AV)) (σ:St) (k:Int) (d:Option AV):Option AV→Option (AV×St)
 | some v=>some (v,σ.set a (.dI (DV k l)))
 | none=>d.map fun d=>(d,σ)
noncomputable def IN (m a:Nat) (l args:List AV) (σ:St):Option (AV×St):=
 cond (Nat.beq m Dm) (T9 args fun v=>if l.length < AX then some (.none,σ.set a (.list (l++[v]))) else none)
 (cond (Nat.beq m Fv) (nilA args (if l.length≤AX then l.getLast?.map fun v=>(v,σ.set a (.list l.dropLast)) else none))
 (cond (Nat.beq m ER) (T9 args fun v=>PA v fun b=>Bi (CT σ[b]?) fun r=>if a≠b∧l.length+r.length≤AX then some (.none,σ.set a (.list (l++r))) else none) none))
noncomputable def IO (m a:Nat) (l:List (Int×AV)) (args:List AV) (σ:St):Option (AV×St):=
 cond (Nat.beq m HL) (Ul args fun k d=>some ((Ao k l).getD (d.getD .none),σ))
 (cond (Nat.beq m Fv) (Ul args fun k d=>if l.length≤AX then MC a l σ k d (Ao k l) else none) none)
noncomputable def methO (d:Bool) (m a:Nat) (args:List AV) (σ:St):AO→Option (AV×St)
 | .list l=>cond d none (IN m a l args σ)
 | .dI l=>cond d (IO m a l args σ) none
 | .dS _=>none
 | .inst _ _=>none
noncomputable def Db (d:Bool) (m:Nat) (o:AV) (args:List AV) (σ:St):Option (AV×St):=PA o fun a=>Bi σ[a]? (methO d m a args σ)
mutual
noncomputable def AL:PE→Bool
 | .none | .bool _ | .int _ | .str _ | .var _ | .gtup _=>true
 | .tup l=>Bk l
 | .not a | .neg a | .attr a _=>AL a
 | .bop _ l=>Bk l
 | .cmp _ a b | .idx a b=>AL a&&AL b
 | .ite t a b=>AL t&&AL a&&AL b
 | .meth o m l=>Nat.beq m 6&&AL o&&Bk l
 | .bad | .list _ | .dict _ | .bin .. | .cmp2 .. | .slc .. | .bits _ | .call .. | .blt .. | .lcomp .. | .dcomp ..=>false
noncomputable def Bk:List PE→Bool
 | []=>true
 | e::r=>AL e&&Bk r
end
noncomputable def JY (acc:List AV):Option AV→List AV
 | none=>acc
 | some v=>acc++[v]
noncomputable def Ow (acc:List (Int×AV)):Option (Int×AV)→List (Int×AV)
 | none=>acc
 | some p=>Br p.1 p.2 acc
noncomputable def Cr {β γ:Type} (add:β→Option γ→β) (body:AV→St→Option (Option γ×St)) (d:Bool) (src:AV):Nat→Nat→β→St→Option (β×St)
 | 0,_,_,_=>none
 | n+1,i,acc,σ=>Bi (Bg σ d src i) fun q=>match q with
  | none=>some (acc,σ)
  | some x=>A3 (body x σ) fun r σ=>Cr add body d src n (i+1) (add acc r) σ
theorem KG {β γ:Type} {add:β→Option γ→β} {body:AV→St→Option (Option γ×St)} {d:Bool} {src:AV} {n i:Nat} {acc:β} {σ:St} {r:β×St} {P:Prop} (h:Cr add body d src n i acc σ=some r) (k0:Bg σ d src i=some none→r=(acc,σ)→P)
  (k1:∀ m y q σ₂,n=m+1→Bg σ d src i=some (some y)→body y σ=some (q,σ₂)→Cr add body d src m (i+1) (add acc q) σ₂=some r→P):P:=by
 induction n using Nat.casesOn with
 | zero=>exact Ae h
 | succ n=>
  refine AI h fun q hq h=>?_
  induction q using Option.casesOn with
  | none=>exact k0 hq (oQ h).symm
  | some y=>exact AB h fun q σ₂ hb h=>k1 n y q σ₂ rfl hq hb h
noncomputable abbrev Ch:=Cr JY
noncomputable abbrev Ja:=Cr Ow
noncomputable def Lh {γ:Type} (bind:AV→At→St→Option At) (test:At→St→Option (Bool×St)) (tail:At→St→Option (γ×St)) (ρ:At) (x:AV) (σ:St):Option (Option γ×St):=
 Bi (bind x ρ σ) fun ρ=>A3 (test ρ σ) fun b σ=>cond b (A3 (tail ρ σ) fun v σ=>some (some v,σ)) (some (none,σ))
noncomputable abbrev GD:=Nat×Nat→List AV→St→Option (AV×St)
noncomputable def Ud:AV→Option AV
 | .int i=>some (.int (-i))
 | _=>Option.none
noncomputable def KT (op:BoolOp) (t:Bool):Bool:=match op with
 | .And=>!t
 | .Or=>t
noncomputable def T0 (O:GD) (x:AV) (vs:List AV) (σ:St):MT→Option (AV×St)
 | .fn c m=>O (c,m) (x::vs) σ
 | .bl d m=>Db d m x vs σ
noncomputable def Pe (x:AV) (f:Int→Option ((Int×AV)×St)):Option ((Int×AV)×St):=match x with
 | .int i=>f i
 | _=>Option.none
noncomputable def Kw (σ:St) (src:AV) (b:Bool):Bool:=AH σ src&&!b
section
variable (G:Nat→Option (List Nat)) (O:GD)
mutual
noncomputable def ev:PE→At→St→Option (AV×St)
 | .bad,_,_=>Option.none
 | .none,_,σ=>some (.none,σ)
 | .bool b,_,σ=>some (.bool b,σ)
 | .int i,_,σ=>some (.int i,σ)
 | .str n,_,σ=>some (.str n,σ)
 | .var x,ρ,σ=>(look x ρ).map fun v=>(v,σ)
 | .gtup x,_,σ=>(G x).map fun l=>(.tup (l.map .str),σ)
 | .tup l,ρ,σ=>A3 (J5 l ρ σ) fun vs σ=>some (.tup vs,σ)
 | .list l,ρ,σ=>A3 (J5 l ρ σ) fun vs σ=>some (.loc σ.length,σ++[.list vs])
 | .dict l,ρ,σ=>A3 (J5 l ρ σ) fun vs σ=>(KY vs).map fun o=>(.loc σ.length,σ++[o])
 | .bin op a b,ρ,σ=>A3 (ev a ρ σ) fun x σ=>A3 (ev b ρ σ) fun y σ=>IB σ op x y
 | .not a,ρ,σ=>A3 (ev a ρ σ) fun x σ=>(truth x).map fun b=>(.bool (!b),σ)
 | .neg a,ρ,σ=>A3 (ev a ρ σ) fun x σ=>(Ud x).map fun v=>(v,σ)
 | .bop op l,ρ,σ=>evb op l ρ σ
 | .cmp op a b,ρ,σ=>A3 (ev a ρ σ) fun x σ=>A3 (ev b ρ σ) fun y σ=>(A9 σ op x y).map fun r=>(.bool r,σ)
 | .cmp2 op op' a b c,ρ,σ=>A3 (ev a ρ σ) fun x σ=>A3 (ev b ρ σ) fun y σ=>Bi (A9 σ op x y) fun t=>
   cond t (A3 (ev c ρ σ) fun z σ=>(A9 σ op' y z).map fun r=>(.bool r,σ)) (some (.bool false,σ))
 | .ite t a b,ρ,σ=>A3 (ev t ρ σ) fun x σ=>Bi (truth x) fun t=>cond t (ev a ρ σ) (ev b ρ σ)
 | .idx a i,ρ,σ=>A3 (ev a ρ σ) fun x σ=>A3 (ev i ρ σ) fun y σ=>(CM σ x y).map fun v=>(v,σ)
 | .slc a lo hi,ρ,σ=>A3 (ev a ρ σ) fun x σ=>A3 (ev lo ρ σ) fun y σ=>A3 (ev hi ρ σ) fun z σ=>LQ σ x y z
 | .bits e,ρ,σ=>A3 (ev e ρ σ) fun x σ=>(QT x).map fun v=>(v,σ)
 | .attr a f,ρ,σ=>A3 (ev a ρ σ) fun x σ=>(Nt σ x f).map fun v=>(v,σ)
 | .call f args,ρ,σ=>A3 (J5 args ρ σ) fun vs σ=>O (0,f) vs σ
 | .blt b args,ρ,σ=>A3 (J5 args ρ σ) fun vs σ=>DB b vs σ
 | .meth o m args,ρ,σ=>A3 (ev o ρ σ) fun x σ=>Bi (Es σ x m) fun t=>A3 (J5 args ρ σ) fun vs σ=>T0 O x vs σ t
 | .lcomp elt t it ifs,ρ,σ=>A3 (ev it ρ σ) fun src σ=>cond (Kw σ src (AL elt&&Bk ifs)) Option.none <|
   A3 (Ch (Lh (fun x ρ σ=>Bq σ t x ρ) (fun ρ σ=>KO ifs ρ σ) (fun ρ σ=>ev elt ρ σ) ρ) (AH σ src) src AC 0 [] σ) fun vs σ=>some (.loc σ.length,σ++[.list vs])
 | .dcomp k v t it ifs,ρ,σ=>A3 (ev it ρ σ) fun src σ=>cond (Kw σ src (AL k&&AL v&&Bk ifs)) Option.none <|
   A3 (Ja (Lh (fun x ρ σ=>Bq σ t x ρ) (fun ρ σ=>KO ifs ρ σ) (fun ρ σ=>A3 (ev k ρ σ) fun x σ=>Pe x fun i=>A3 (ev v ρ σ) fun w σ=>some ((i,w),σ)) ρ) (AH σ src) src AC 0 [] σ) fun vs σ=>some (.loc σ.length,σ++[.dI vs])
noncomputable def J5:List PE→At→St→Option (List AV×St)
 | [],_,σ=>some ([],σ)
 | e::r,ρ,σ=>A3 (ev e ρ σ) fun v σ=>A3 (J5 r ρ σ) fun vs σ=>some (v::vs,σ)
noncomputable def evb (op:BoolOp):List PE→At→St→Option (AV×St)
 | [],_,_=>Option.none
 | e::r,ρ,σ=>cond r.isEmpty (ev e ρ σ) (A3 (ev e ρ σ) fun v σ=>Bi (truth v) fun t=>cond (KT op t) (some (v,σ)) (evb op r ρ σ))
noncomputable def KO:List PE→At→St→Option (Bool×St)
 | [],_,σ=>some (true,σ)
 | e::r,ρ,σ=>A3 (ev e ρ σ) fun v σ=>Bi (truth v) fun t=>cond t (KO r ρ σ) (some (false,σ))
end
noncomputable def NG (σ:St) (a:Nat) (j:Int) (v:AV):Option AO:=match σ[a]? with
 | some (.list l)=>if 0≤j∧j < l.length∧l.length≤AX then some (.list (l.set j.toNat v)) else Option.none
 | some (.dI l)=>if l.length < AX then some (.dI (Br j v l)) else Option.none
 | _=>Option.none
noncomputable def instF (f:Nat) (v:AV):AO→Option AO
 | .inst c l=>if l.length≤20 then some (.inst c (put f v l)) else Option.none
 | .list _=>Option.none
 | .dI _=>Option.none
 | .dS _=>Option.none
noncomputable def setI (v:AV) (ρ:At) (σ:St) (o i:AV):Option (At×St):=PA o fun a=>RW i fun j=>(NG σ a j v).map fun ao=>(ρ,σ.set a ao)
noncomputable def setF (v:AV) (ρ:At) (σ:St) (f:Nat) (o:AV):Option (At×St):=PA o fun a=>Bi σ[a]? fun ao=>(instF f v ao).map fun ao'=>(ρ,σ.set a ao')
noncomputable def Mx (t:PG) (v:AV) (ρ:At) (σ:St):Option (At×St):=match t with
 | .name x=>some (put x v ρ,σ)
 | .names xs=>Bi (Gq σ v) fun l=>(Ci xs l ρ).map fun ρ'=>(ρ',σ)
 | .sub o i=>A3 (ev G O o ρ σ) fun x σ=>A3 (ev G O i ρ σ) fun y σ=>setI v ρ σ x y
 | .att o f=>A3 (ev G O o ρ σ) fun x σ=>setF v ρ σ f x
noncomputable def Ic (o:Option (AF×At×St)) (k:At→St→Option (AF×At×St)):Option (AF×At×St):=match o with
 | some (.next,ρ,σ)=>k ρ σ
 | some (.ret v,ρ,σ)=>some (.ret v,ρ,σ)
 | none=>none
theorem EZ {o:Option (AF×At×St)} {k:At→St→Option (AF×At×St)} {ρ:At} {σ:St} {r:Option (AF×At×St)} (h:o=some (.next,ρ,σ)) (e:k ρ σ=r):Ic o k=r:=by subst h;exact e
theorem Ib {o:Option (AF×At×St)} {k:At→St→Option (AF×At×St)} {v:AV} {ρ:At} {σ:St} (h:o=some (.ret v,ρ,σ)):Ic o k=some (.ret v,ρ,σ):=by subst h;rfl
theorem Q6 {o:Option (AF×At×St)} {k:At→St→Option (AF×At×St)} {r:AF×At×St} {P:Prop} (h:Ic o k=some r) (h1:∀ ρ σ,o=some (.next,ρ,σ)→k ρ σ=some r→P) (h2:∀ v ρ σ,o=some (.ret v,ρ,σ)→r=(.ret v,ρ,σ)→P):P:=by
 cases o with
 | none=>exact nomatch h
 | some q=>
  obtain ⟨f,ρ,σ⟩:=q
  cases f with
  | next=>exact h1 ρ σ rfl h
  | ret v=>exact h2 v ρ σ rfl (oQ h).symm
noncomputable def Cc (body:At→St→Option (AF×At×St)) (t:PT) (src:AV):Nat→Nat→At→St→Option (AF×At×St)
 | 0,_,_,_=>Option.none
 | n+1,i,ρ,σ=>Bi (Bg σ false src i) fun q=>match q with
  | Option.none=>some (.next,ρ,σ)
  | some x=>Bi (Bq σ t x ρ) fun ρ=>Ic (body ρ σ) fun ρ σ=>Cc body t src n (i+1) ρ σ
noncomputable def HG (test:At→St→Option (Bool×St)) (body:At→St→Option (AF×At×St)):Nat→At→St→Option (AF×At×St)
 | 0,_,_=>Option.none
 | n+1,ρ,σ=>A3 (test ρ σ) fun b σ=>cond b (Ic (body ρ σ) fun ρ σ=>HG test body n ρ σ) (some (.next,ρ,σ))
noncomputable def DE (c:PE) (ρ:At) (σ:St):Option (Bool×St):=A3 (ev G O c ρ σ) fun v σ=>(truth v).map fun b=>(b,σ)
mutual
noncomputable def ex:PS→At→St→Option (AF×At×St)
 | .bad,_,_=>Option.none
 | .pass,ρ,σ=>some (.next,ρ,σ)
 | .expr e,ρ,σ=>A3 (ev G O e ρ σ) fun _ σ=>some (.next,ρ,σ)
 | .asg t e,ρ,σ=>A3 (ev G O e ρ σ) fun v σ=>(Mx G O t v ρ σ).map fun x=>(.next,x.1,x.2)
 | .ret e,ρ,σ=>A3 (ev G O e ρ σ) fun v σ=>some (.ret v,ρ,σ)
 | .ifs c b o,ρ,σ=>A3 (DE G O c ρ σ) fun t σ=>cond t (DD b ρ σ) (DD o ρ σ)
 | .whl c b,ρ,σ=>HG (DE G O c) (DD b) AC ρ σ
 | .fors t it b,ρ,σ=>A3 (ev G O it ρ σ) fun src σ=>Cc (DD b) t src AC 0 ρ σ
noncomputable def DD:List PS→At→St→Option (AF×At×St)
 | [],ρ,σ=>some (.next,ρ,σ)
 | s::r,ρ,σ=>Ic (ex s ρ σ) fun ρ σ=>DD r ρ σ
end
end
noncomputable def Eb:List (Nat×Option AV)→List AV→At→Option At
 | [],[],ρ=>some ρ
 | (x,_)::ps,v::vs,ρ=>Eb ps vs (ρ++[(x,v)])
 | (x,some v)::ps,[],ρ=>Eb ps [] (ρ++[(x,v)])
 | _,_,_=>Option.none
noncomputable def backA:AF→AV
 | .next=>.none
 | .ret v=>v
noncomputable def Gh (G:Nat→Option (List Nat)) (O:GD) (d:Def) (args:List AV) (σ:St):Option (AV×St):=
 Bi (Eb d.params args []) fun ρ=>(DD G O d.body ρ σ).map fun r=>(backA r.1,r.2.2)
structure Prog where
 gtup:Nat→Option (List Nat)
 defs:Nat×Nat→Option Def
 isCls:Nat→Bool
 kInit:Nat
noncomputable def JH:AV→Bool
 | .none=>true
 | _=>false
noncomputable def AT (P:Prog):Nat→GD
 | 0=>fun _ _ _=>Option.none
 | k+1=>fun f args σ=>cond (Nat.beq f.1 0&&P.isCls f.2)
   (Bi (P.defs (f.2,P.kInit)) fun d=>A3 (Gh P.gtup (AT P k) d (.loc σ.length::args) (σ++[.inst f.2 []])) fun v σ'=>cond (JH v) (some (.loc σ.length,σ')) Option.none)
   (Bi (P.defs f) fun d=>Gh P.gtup (AT P k) d args σ)
end Mine
end
section
namespace Mine
open PySem
noncomputable def TR:List String:=["","u8","u","append","pop","extend","get","len","range","tuple","list","dict","abs","BITS","COMPARED","PLAIN_constants","PLAIN_copies","__init__","Body","Facts","Constants","Copies","!","!=","%","&","*","+","-","/","<","<<","<=","==",">",">=",">>","Exception","LendError","TypeFault","^","__name__","_law_body","_law_const","_law_copies_right","_law_ends","_law_ends_right","_law_events","_law_item","_law_known","_law_one","_law_operand","_law_pool","_law_put_right","_law_rows","_law_rvalue","_law_statement","_law_sum","_law_take","_law_told_right","_law_u8","_wall","a","adt","arg_count","args","array","assert","assign","at","at_operand","at_place","b","begins","behind","binary","block","blocks","body","bool","box","call","cast","cast_int","cell","checked","compared","const","constants","copies","copy","cut_quotient","dead","deed","deeds","discriminant","drop","due","end","ends","exact","f","facts","far","field","figure","first","fits","fn","follow","followed","forget","forget_moved","found","g","goal","gone","gone_on","goto","greatest","here","hits","holds_here","i","i16","i32","i64","i8","int","is_followed","is_mut","is_signed","item","k","kept","kind","kinds","known","known_target","last","law","law_xw0173_01","least","left","lendcore.constants","lendcore.copies","lendcore.errors","lendcore.integers","lendcore.mir","lent","lent_locals","lent_or_other","live","local","locals","locals_told","lost","low","made","many","meet","message","met","more","move","moved_here","mut","name","new_local","no comparison: ","no operator of whole numbers: ","number","odd","of_cast","of_one","of_two","one","op","open_one","operand","operands","operands_of","other","out","pair","part","place","places","plain_here","point","print","projection","projections","put","put_rvalue","put_statement","put_terminator","reckoned_binary","ref","return","right","row","rows","rvalue","script","second","self","shifted","size","so","some","sort","source","spot","spots","statement","statements","step","successors","sure","switch","t","target","terminator","things","told","top","truth","turn","type_of","u16","u32","u64","unary","use","usize","value","value_of","way","wide","with_operands","word","wrapped","|"]
noncomputable def tabE:List Nat:=[0,7471,118,3638987513726,1894994,3638987581326,1960259,1860418,28471249426,28482018735,253106752,252840488,1943225,181745974,41343806493657299,41316290610401980535793477502911,19227328631233399226776290,57515464501685304,263591314,32375893622,8965676440753385030,4172349569129,34,8032,38,39,43,44,46,48,61,7930,8059,8060,63,8061,8190,8579250330365969848,8886036849558541718,9037639229501964583,95,57514929735778341,9416287294231273785,1166388168858938244531,692875676181789855898483509799429779,8956165100998725045,41636661028891884284764880802744,149197824037158578694306,8496669668707358010,1107340321847319562041,61151211056273868,16769410895259151916334327,8425905268403975877,322764814177457140201549245030,8967465052419388374,131341650949930775933340,322891907028706070170657567461,65939350284047583,7886659052105559216,41636661028890738751417100065857,266913762713910,30420229524,98,1960124,9038828672247402443,250761521,33996895652,4211664081944,3994288207115,15191,1007716537182810642983,61100023508199233,99,4174841724030,3638995965936,4390270668939,30124218000,4173998209284,263591346,235867440,2028108,235815712,253105711,70068006249187165,235816228,469109515254094,60515376998992339,32650854700,8965676440753385062,4172349569161,263791039,19403395353174496293247792,218459666,218526230,32341580426,19403356159935598122570641,244454585,1712705,1695162,250711086,32616292506,103,32375893654,1926460,28204911241,3675852453256,32650920493,250976698,14422,4318017378073,60515559482567524,4208068360717,16758133185243825578630797,28209471649,104,235634471,220823981,515546163767276,242390717,70090910499656807,220889256,250976700,1017918144264591282087,106,921811,855505,889174,7459,1961422,129908085870073397140642,4212511691287,7806465412187826622,237848371,108,253056312,218676522,32341730718,30997920690,19391930589367117831013919,253105720,2009671,1069998793663840696047435946,32650637086,252889903,88693226574153217190658199945052704873,41275094872050050788246973397004,41310835706432779897693225194406,687450052669343044404829229006911084,19067846081795697150398926,253023031,149117685651503812741915,2459087970709993758331606657,220956340,30396648208,4174270639492,129976723005160671349915,253107526,2011477,220655771,263755961,252873263,473786500370924,1960265,220890551,220957115,1017918144260439751976,1962329,220805541,8417527394710939581,11825919749283585566308694763297,539118827550459365288710207473765654184238715662176369416661809,4136611441551,1693882,543339247251814,3674731748092,4034465303956,1711813,14689,61151211037020763,469428285691504,69427635374648548,132557445882417272727835,32066856103,1962331,248645936,253089083,28462447754,4172336439038,1017918144263217217697,32640038063,32640038450,1106723292152825321927,149138547909738933149243,1962332,1018152332945199766097,2503038038982217598222104346,317436661286550679254459669899,43430885972214752622480960194494,1727296,3997360133926,32627123875,2011483,251027407,3676663803541,4211118804251,3639008762882,222936110,469112014066670,221022911,14564,220807352,253090892,3671692403735,253041098,32376095294,9038754869021522270,1156572279036355691474,244288448,1156419565669748629847,220891331,3778865653400,117,4208068358925,1146299865653032402383,4172914030995,218644023,1894998,29330043708,240211533,478679974500093,921823,855517,889186,34033105972,1712464,28511955637,28501269794,61749716721026777,2042964,220656813,2480167004356509572238815364,218743872,469110927710202,125]
noncomputable def encS (x:Str):Nat:=x.cps.toList.foldr (fun c n=>c+1+129*n) 0
noncomputable def PZ (n:Nat):List Nat→Nat→Option Nat
 | [],_=>none
 | m::r,i=>if Nat.beq n m=true then some i else PZ n r (i+1)
noncomputable def eqL:List Nat→List Nat→Bool
 | [],[]=>true
 | a::r,b::t=>Nat.beq a b&&eqL r t
 | _,_=>false
noncomputable def code (x:Str):Option Nat:=Bi (PZ (encS x) tabE 0) fun i=>Bi TR[i]? fun y=>cond (eqL x.cps.toList (Str.ofString y).cps.toList) (some i) none
noncomputable def PU (n:Nat):Bool:=[14,15,16].any (Nat.beq n)
noncomputable def Lk (n:Nat):Option BI:=
 if n=7 then some .len else if n=8 then some .range else if n=9 then some .tuple else if n=10 then some .list else if n=11 then some .dict else if n=12 then some .abs else none
noncomputable def JG:Option NameKind→Bool
 | some .local | some .cell | some .free=>true
 | _=>false
noncomputable def CH:Option NameKind→Bool
 | some .globalImplicit=>true
 | _=>false
noncomputable def Bv:Option NameKind→Bool
 | some .local | some .cell=>true
 | _=>false
noncomputable def BX:Option NameKind→Bool
 | some .local=>true
 | _=>false
noncomputable def Fx (n:Nat):Bool:=[167,64,154,77,214,137,78,110,73,182].any (Nat.beq n)
inductive Vw where
 | name (id:Str) (pos:Pos) | attr (o:Expr) (n:Str) (pos:Pos) | tup (l:List Expr) (k:Nat) (pos:Pos) | sub (o i:Expr) (pos:Pos) | sli (lo hi st:Option Expr) (pos:Pos)
 | call (f:Expr) (args:List Expr) (kws:List Keyword) (pos:Pos) | comp | star | set | other
noncomputable def Ef:Expr→Vw
 | .Name id pos=>.name id pos
 | .Attribute o n pos=>.attr o n pos
 | .Tuple l k pos=>.tup l k pos
 | .Subscript o i pos=>.sub o i pos
 | .Slice lo hi st pos=>.sli lo hi st pos
 | .Call f a k pos=>.call f a k pos
 | .ListComp ..=>.comp
 | .SetComp ..=>.comp
 | .DictComp ..=>.comp
 | .Starred ..=>.star
 | .Set ..=>.set
 | .BoolOp .. | .NamedExpr .. | .BinOp .. | .UnaryOp .. | .Lambda .. | .IfExp .. | .Dict .. | .GeneratorExp .. | .Await .. | .Yield .. | .YieldFrom .. | .Compare .. | .FormattedValue .. | .JoinedStr .. | .Constant .. | .List ..=>.other
noncomputable def TG (e:Expr):Vw→Prop
 | .name id pos=>e=.Name id pos
 | .attr o n pos=>e=.Attribute o n pos
 | .tup l k pos=>e=.Tuple l k pos
 | .sub o i pos=>e=.Subscript o i pos
 | .sli lo hi st pos=>e=.Slice lo hi st pos
 | .call f a k pos=>e=.Call f a k pos
 | .comp | .star | .set | .other=>True
theorem EL (e:Expr):TG e (Ef e):=by induction e using Expr.casesOn<;>first | exact rfl | exact trivial
noncomputable def H_ (e:Expr):Option Str:=match Ef e with
 | .name id _=>some id
 | .attr .. | .tup .. | .sub .. | .sli .. | .call .. | .comp | .star | .set | .other=>none
theorem Ln {e:Expr} {id:Str} {P:Prop} (h:H_ e=some id) (k:∀ pos,e=.Name id pos→P):P:=by
 have v:=EL e
 unfold H_ at h
 revert h v
 cases Ef e with
 | name i pos=>exact fun h v=>k pos (oQ h▸v)
 | _=>exact fun h=>nomatch h
noncomputable def P1 (e:Expr):Bool:=match Ef e with
 | .star | .set=>false
 | .name .. | .attr .. | .tup .. | .sub .. | .sli .. | .call .. | .comp | .other=>true
noncomputable def Ez (e:Expr):Bool:=match Ef e with
 | .comp=>true
 | .name .. | .attr .. | .tup .. | .sub .. | .sli .. | .call .. | .star | .set | .other=>false
noncomputable def B8 (e:Expr):Bool:=match Ef e with
 | .call _ args _ _=>!args.isEmpty
 | .name .. | .attr .. | .tup .. | .sub .. | .sli .. | .comp | .star | .set | .other=>true
noncomputable def CJ (e:Expr):Bool:=match Ef e with
 | .sli ..=>false
 | .name .. | .attr .. | .tup .. | .sub .. | .call .. | .comp | .star | .set | .other=>true
noncomputable def Cl (ok:Option NameKind→Bool) (sc:Scope):List Expr→Option (List Nat)
 | []=>some []
 | e::r=>Bi (H_ e) fun id=>cond (ok (sc.names.lookup id)) (Bi (code id) fun n=>(Cl ok sc r).map fun l=>n::l) none
noncomputable def Cz (ok:Option NameKind→Bool) (sc:Scope) (e:Expr):Option PT:=match Ef e with
 | .name id _=>cond (ok (sc.names.lookup id)) ((code id).map .one) none
 | .tup l _ _=>(Cl ok sc l).map .many
 | .attr .. | .sub .. | .sli .. | .call .. | .comp | .star | .set | .other=>none
noncomputable def M2 (n:Nat):PT→Bool
 | .one m=>Nat.beq n m
 | .many l=>l.any (Nat.beq n)
noncomputable def DG:List (Str×NameKind)→Bool
 | []=>true
 | (n,_)::r=>(r.lookup n).isNone&&DG r
noncomputable def P6:Option NameKind→Bool
 | some .cell | some .free=>true
 | _=>false
noncomputable def ownT (t:PT):Option Nat→Bool
 | some c=>M2 c t
 | none=>true
noncomputable def Tn (sc:Scope) (t:PT) (n:Str):NameKind→Bool
 | .local=>ownT t (code n)
 | .free=>P6 (sc.names.lookup n)
 | .globalImplicit=>true
 | _=>false
noncomputable def BS (sc sc':Scope) (t:PT):Bool:=sc'.kind==.function&&(DG sc'.names&&sc'.names.all fun x=>Tn sc t x.1 x.2)
noncomputable def Gs (sc:Scope) (e:Expr):Bool:=match H_ e with
 | some id=>CH (sc.names.lookup id)&&code id==some 13
 | none=>false
noncomputable def IT:List PE→List PE→List PE
 | k::ks,v::vs=>k::v::IT ks vs
 | _,_=>[]
noncomputable def SO:Const→PE
 | .none=>.none
 | .bool b=>.bool b
 | .int i=>.int i
 | .str s=>(match code s with | some n=>.str n | none=>.bad)
 | _=>.bad
noncomputable def Pp (k:Option NameKind):Option Nat→PE
 | some n=>cond (JG k) (.var n) (cond (CH k&&PU n) (.gtup n) .bad)
 | none=>.bad
noncomputable def unPE (e:PE):UnaryOp→PE
 | .Not=>.not e
 | .USub=>.neg e
 | .Invert=>.bad
 | .UAdd=>.bad
noncomputable def UD (ks vs:List PE) (n m:Nat):PE:=cond (n==m&&(Nat.ble n 15&&Nat.ble 1 n)) (.dict (IT ks vs)) (cond (Nat.beq n 0&&Nat.beq m 0) (.dict []) .bad)
noncomputable def cmpPE (l:PE):List CmpOp→List PE→PE
 | [op],[r]=>.cmp op l r
 | [op,op'],[r,r']=>.cmp2 op op' l r r'
 | _,_=>.bad
noncomputable def GG (f:Nat→PE):Option Nat→PE
 | some n=>f n
 | none=>.bad
noncomputable def QW (n:Nat) (args:List PE):PE:=match Lk n with
 | some b=>.blt b args
 | none=>.call n args
noncomputable def DZ (co:PE) (n:Nat):PE:=cond (Fx n) (.attr co n) (.slc co (.int n) .bad)
noncomputable def JW:PE→PE
 | .attr co _=>co
 | .slc co _ _=>co
 | _=>.bad
noncomputable def JR (sc:Scope) (pos:Pos) (args:List PE) (cf:PE) (f:Expr):PE:=match Ef f with
 | .name id _=>cond (CH (sc.names.lookup id)) (GG (fun n=>QW n args) (code id)) .bad
 | .attr o name apos=>cond (B8 o&&Nat.beq apos.endLine pos.line) (GG (fun n=>.meth (JW cf) n args) (code name)) .bad
 | .tup .. | .sub .. | .sli .. | .call .. | .comp | .star | .set | .other=>.bad
noncomputable def OO (sc:Scope) (cv ci:PE) (v i:Expr):PE:=cond (CJ i) (cond (Gs sc v) (.bits ci) (.idx cv ci)) (match ci with
 | .slc _ lo hi=>.slc cv lo hi
 | _=>.bad)
noncomputable def JC (elt:PE):Option (PT×PE×List PE)→PE
 | some (pt,it,ifs)=>.lcomp elt pt it ifs
 | none=>.bad
noncomputable def JO (k v:PE):Option (PT×PE×List PE)→PE
 | some (pt,it,ifs)=>.dcomp k v pt it ifs
 | none=>.bad
noncomputable def Nl (sc sc':Scope) (t:Expr) (a:Int) (last:Bool) (it:PE) (ifs:List PE):Option (PT×PE×List PE):=
 cond (last&&a==0) (Bi (Cz BX sc' t) fun pt=>cond (BS sc sc' pt) (some (pt,it,ifs)) none) none
mutual
noncomputable def Aq (sc:Scope):Expr→PE
 | .Constant c _ _=>SO c
 | .Name id _=>Pp (sc.names.lookup id) (code id)
 | .BoolOp op vs _=>.bop op (AD sc vs)
 | .BinOp l op r _=>.bin op (Aq sc l) (Aq sc r)
 | .UnaryOp op x _=>unPE (Aq sc x) op
 | .IfExp t b o _=>.ite (Aq sc t) (Aq sc b) (Aq sc o)
 | .Dict ks vs _=>UD (Gy sc ks) (AD sc vs) ks.length vs.length
 | .List l _=>cond (Nat.ble l.length 1000) (.list (AD sc l)) .bad
 | .Tuple l _ _=>cond (Nat.ble l.length 1000) (.tup (AD sc l)) .bad
 | .Compare l ops rs _=>cmpPE (Aq sc l) ops (AD sc rs)
 | .Call f args kws pos=>cond (kws.isEmpty&&Nat.ble args.length 20) (JR sc pos (AD sc args) (Aq sc f) f) .bad
 | .Attribute o name _=>cond (B8 o) (GG (DZ (Aq sc o)) (code name)) .bad
 | .Subscript v i _=>OO sc (Aq sc v) (Aq sc i) v i
 | .Slice lo hi st _=>cond st.isNone (.slc .bad (Nh sc lo) (Nh sc hi)) .bad
 | .ListComp elt gens sc' _=>JC (Aq sc' elt) (Nj sc sc' gens)
 | .DictComp k v gens sc' _=>JO (Aq sc' k) (Aq sc' v) (Nj sc sc' gens)
 | .NamedExpr .. | .Lambda .. | .Set .. | .SetComp .. | .GeneratorExp .. | .Await .. | .Yield .. | .YieldFrom .. | .FormattedValue .. | .JoinedStr .. | .Starred ..=>.bad
noncomputable def AD (sc:Scope):List Expr→List PE
 | []=>[]
 | e::r=>Aq sc e::AD sc r
noncomputable def Nh (sc:Scope):Option Expr→PE
 | none=>.none
 | some e=>Aq sc e
noncomputable def compK (sc:Scope):Option Expr→PE
 | none=>.bad
 | some e=>Aq sc e
noncomputable def Gy (sc:Scope):List (Option Expr)→List PE
 | []=>[]
 | k::ks=>compK sc k::Gy sc ks
noncomputable def Nj (sc sc':Scope):List Comprehension→Option (PT×PE×List PE)
 | []=>none
 | ⟨t,it,ifs,a⟩::r=>Nl sc sc' t a r.isEmpty (Aq sc it) (AD sc' ifs)
end
noncomputable def Ff (sc:Scope) (e:Expr):Option PG:=match Ef e with
 | .name id _=>cond (Bv (sc.names.lookup id)) ((code id).map .name) none
 | .tup l _ _=>(Cl Bv sc l).map .names
 | .sub o i _=>cond (CJ i) (some (.sub (Aq sc o) (Aq sc i))) none
 | .attr o name _=>cond (B8 o) (Bi (code name) fun n=>cond (Fx n) (some (.att (Aq sc o) n)) none) none
 | .sli .. | .call .. | .comp | .star | .set | .other=>none
noncomputable def Hj (t v:Expr):Bool:=match Ef t,Ef v with
 | .tup ..,.tup vs _ _=>vs.all (foldedForSure 8) || !vs.all (constantsAlone 8)
 | _,_=>true
noncomputable def Tt (it:PE) (b:List PS):Option PT→PS
 | some pt=>.fors pt it b
 | none=>.bad
noncomputable def oneT:List Expr→Option Expr
 | [t]=>some t
 | _=>none
noncomputable def Q4 (sc:Scope) (v:Expr) (ts:List Expr):PS:=match Bi (oneT ts) fun t=>cond (Hj t v) (Ff sc t) none with
 | some g=>.asg g (Aq sc v)
 | none=>.bad
mutual
noncomputable def Qv (sc:Scope):Stmt→PS
 | .Pass _=>.pass
 | .Expr e _=>cond (Ez e) .bad (.expr (Aq sc e))
 | .Return v _=>.ret (Nh sc v)
 | .Assign ts v _=>Q4 sc v ts
 | .If t b o _=>.ifs (Aq sc t) (Dz sc b) (Dz sc o)
 | .While t b o _=>cond o.isEmpty (.whl (Aq sc t) (Dz sc b)) .bad
 | .For t it b o _=>cond o.isEmpty (Tt (Aq sc it) (Dz sc b) (Cz Bv sc t)) .bad
 | .FunctionDef .. | .AsyncFunctionDef .. | .ClassDef .. | .Delete .. | .TypeAlias .. | .AugAssign .. | .AnnAssign .. | .AsyncFor .. | .With .. | .AsyncWith .. | .Match .. | .Raise .. | .Try .. | .TryStar .. | .Assert .. | .Import .. | .ImportFrom .. | .Global .. | .Nonlocal .. | .Break .. | .Continue ..=>.bad
noncomputable def Dz (sc:Scope):List Stmt→List PS
 | []=>[]
 | s::r=>Qv sc s::Dz sc r
end
noncomputable def H1:List Arg→Nat→Option (List (Nat×Option AV))
 | [],d=>cond (Nat.beq d 0) (some []) none
 | a::r,d=>Bi (code a.arg) fun n=>cond (Nat.ble d r.length) ((H1 r d).map fun l=>(n,none)::l) ((H1 r (d - 1)).map fun l=>(n,some .none)::l)
noncomputable def Ty (p:Arguments) (sc:Scope) (body:List Stmt):Option Def:=
 cond (p.posonlyargs.isEmpty&&(p.vararg.isNone&&(p.kwonlyargs.isEmpty&&p.kwarg.isNone))) ((H1 p.args p.defaults.length).map fun ps=>⟨ps,Dz sc body⟩) none
end Mine
end
section
namespace Mine
open PySem
noncomputable def f__wall:Def:=⟨[(133,Option.none)],[
 .whl (.bool true) [
  .pass]]⟩
noncomputable def GO:Def:=⟨[(135,Option.none)],[
 .ret (.cmp .Eq (.idx (.var 135) (.int 0)) (.str 123))]⟩
noncomputable def M7:Def:=⟨[(135,Option.none)],[
 .ret (.ite (.call 131 [.var 135]) (.bin .Sub (.int 0) (.bin .Pow (.int 2) (.bin .Sub (.bits (.var 135)) (.int 1)))) (.int 0))]⟩
noncomputable def HQ:Def:=⟨[(135,Option.none)],[
 .ret (.ite (.call 131 [.var 135]) (.bin .Sub (.bin .Pow (.int 2) (.bin .Sub (.bits (.var 135)) (.int 1))) (.int 1)) (.bin .Sub (.bin .Pow (.int 2) (.bits (.var 135))) (.int 1)))]⟩
noncomputable def Qb:Def:=⟨[(135,Option.none),(171,Option.none)],[
 .ret (.cmp2 .LtE .LtE (.call 142 [.var 135]) (.var 171) (.call 119 [.var 135]))]⟩
noncomputable def IY:Def:=⟨[(135,Option.none),(171,Option.none)],[
 .asg (.name 157) (.call 142 [.var 135]),
 .ret (.bin .Add (.var 157) (.bin .Mod (.bin .Sub (.var 171) (.var 157)) (.bin .Pow (.int 2) (.bits (.var 135)))))]⟩
noncomputable def L8:Def:=⟨[(135,Option.none),(171,Option.none)],[
 .ret (.call 242 [.var 135,(.call 128 [.var 171])])]⟩
noncomputable def ED:Def:=⟨[(62,Option.none),(72,Option.none)],[
 .asg (.name 113) (.bin .FloorDiv (.blt .abs [.var 62]) (.blt .abs [.var 72])),
 .ret (.ite (.cmp .Eq (.cmp .Lt (.var 62) (.int 0)) (.cmp .Lt (.var 72) (.int 0))) (.var 113) (.bin .Sub (.int 0) (.var 113)))]⟩
noncomputable def M8:Def:=⟨[(177,Option.none),(62,Option.none),(72,Option.none)],[
 .ifs (.cmp .Eq (.var 177) (.str 27)) [
  .ret (.bin .Add (.var 62) (.var 72))] [],
 .ifs (.cmp .Eq (.var 177) (.str 28)) [
  .ret (.bin .Sub (.var 62) (.var 72))] [],
 .ifs (.cmp .Eq (.var 177) (.str 26)) [
  .ret (.bin .Mult (.var 62) (.var 72))] [],
 .ifs (.cmp .Eq (.var 177) (.str 25)) [
  .ret (.bin .BitAnd (.var 62) (.var 72))] [],
 .ifs (.cmp .Eq (.var 177) (.str 243)) [
  .ret (.bin .BitOr (.var 62) (.var 72))] [],
 .ifs (.cmp .Eq (.var 177) (.str 40)) [
  .ret (.bin .BitXor (.var 62) (.var 72))] [],
 .ifs (.cmp .NotIn (.var 177) (.tup [.str 29,.str 24])) [
  .bad] [],
 .ifs (.cmp .Eq (.var 72) (.int 0)) [
  .ret .none] [],
 .ret (.ite (.cmp .Eq (.var 177) (.str 29)) (.call 91 [.var 62,.var 72]) (.bin .Sub (.var 62) (.bin .Mult (.var 72) (.call 91 [.var 62,.var 72]))))]⟩
noncomputable def IZ:Def:=⟨[(135,Option.none),(177,Option.none),(62,Option.none),(72,Option.none)],[
 .ifs (.cmp .In (.var 177) (.tup [.str 31,.str 36])) [
  .ret (.call 207 [.var 135,.var 177,.var 62,.var 72])] [],
 .asg (.name 113) (.call 100 [.var 177,.var 62,.var 72]),
 .ifs (.cmp .Is (.var 113) .none) [
  .ret (.tup [.none,(.bool false)])] [],
 .ifs (.bop .And [(.cmp .Eq (.var 177) (.str 24)),(.cmp .Eq (.var 72) (.neg (.int 1))),(.call 131 [.var 135])]) [
  .ret (.tup [.int 0,(.cmp .Eq (.var 62) (.call 142 [.var 135]))])] [],
 .ret (.tup [(.call 242 [.var 135,.var 113]),(.not (.call 107 [.var 135,.var 113]))])]⟩
noncomputable def N7:Def:=⟨[(135,Option.none),(177,Option.none),(62,Option.none),(159,Option.none)],[
 .asg (.name 187) (.bin .Mod (.var 159) (.bits (.var 135))),
 .asg (.name 113) (.ite (.cmp .Eq (.var 177) (.str 31)) (.bin .Mult (.var 62) (.bin .Pow (.int 2) (.var 187))) (.bin .FloorDiv (.var 62) (.bin .Pow (.int 2) (.var 187)))),
 .ret (.tup [(.call 242 [.var 135,.var 113]),(.not (.cmp2 .LtE .Lt (.int 0) (.var 159) (.bits (.var 135))))])]⟩
noncomputable def HR:Def:=⟨[(177,Option.none),(62,Option.none),(72,Option.none)],[
 .ifs (.cmp .Eq (.var 177) (.str 33)) [
  .ret (.cmp .Eq (.var 62) (.var 72))] [],
 .ifs (.cmp .Eq (.var 177) (.str 23)) [
  .ret (.cmp .NotEq (.var 62) (.var 72))] [],
 .ifs (.cmp .Eq (.var 177) (.str 30)) [
  .ret (.cmp .Lt (.var 62) (.var 72))] [],
 .ifs (.cmp .Eq (.var 177) (.str 32)) [
  .ret (.cmp .LtE (.var 62) (.var 72))] [],
 .ifs (.cmp .Eq (.var 177) (.str 34)) [
  .ret (.cmp .Gt (.var 62) (.var 72))] [],
 .ifs (.cmp .Eq (.var 177) (.str 35)) [
  .ret (.cmp .GtE (.var 62) (.var 72))] [],
 .bad]⟩
noncomputable def D7:Def:=⟨[(206,Option.none),(167,Option.none),(64,Option.none),(155,Option.none),(77,some .none),(214,some .none)],[
 .asg (.att (.var 206) 167) (.var 167),
 .asg (.att (.var 206) 64) (.var 64),
 .asg (.att (.var 206) 154) (.blt .list [.var 155]),
 .asg (.att (.var 206) 77) (.ite (.cmp .Is (.var 77) .none) (.list []) (.var 77)),
 .asg (.att (.var 206) 214) (.ite (.cmp .Is (.var 214) .none) (.dict []) (.var 214))]⟩
noncomputable def HF:Def:=⟨[(206,Option.none),(153,Option.none)],[
 .ret (.idx (.idx (.attr (.var 206) 154) (.var 153)) (.int 0))]⟩
noncomputable def Tl:Def:=⟨[(206,Option.none)],[
 .expr (.call 61 [.int 0])]⟩
noncomputable def FT:Def:=⟨[(206,Option.none),(76,Option.none)],[
 .ret (.idx (.idx (.attr (.var 206) 77) (.var 76)) (.int 0))]⟩
noncomputable def FS:Def:=⟨[(206,Option.none),(76,Option.none)],[
 .ret (.idx (.idx (.attr (.var 206) 77) (.var 76)) (.int 1))]⟩
noncomputable def Kv:Def:=⟨[(206,Option.none),(189,Option.none)],[
 .ret (.meth (.attr (.var 206) 214) 6 [.var 189,.int 0])]⟩
noncomputable def FZ:Def:=⟨[(223,Option.none)],[
 .asg (.name 241) (.idx (.var 223) (.int 0)),
 .ifs (.cmp .Eq (.var 241) (.str 118)) [
  .asg (.name 225) (.list [(.idx (.var 223) (.int 1))])] [
  .ifs (.cmp .Eq (.var 241) (.str 220)) [
   .asg (.name 225) (.bin .Add (.lcomp (.var 76) (.many [236,76]) (.idx (.var 223) (.int 2)) []) (.list [(.idx (.var 223) (.int 3))]))] [
   .ifs (.cmp .Eq (.var 241) (.str 81)) [
    .asg (.name 225) (.list [(.idx (.var 223) (.int 4))])] [
    .ifs (.cmp .Eq (.var 241) (.str 96)) [
     .asg (.name 225) (.list [(.idx (.var 223) (.int 2))])] [
     .ifs (.cmp .Eq (.var 241) (.str 67)) [
      .asg (.name 225) (.list [(.idx (.var 223) (.int 4))])] [
      .asg (.name 225) (.list [])]]]]],
 .asg (.name 113) (.list []),
 .fors (.one 76) (.var 225) [
  .ifs (.bop .And [(.cmp .IsNot (.var 76) .none),(.cmp .NotIn (.var 76) (.var 113))]) [
   .expr (.meth (.var 113) 3 [.var 76])] []],
 .ret (.var 113)]⟩
noncomputable def Fa:Def:=⟨[(203,Option.none)],[
 .asg (.name 241) (.idx (.var 203) (.int 0)),
 .ifs (.cmp .In (.var 241) (.tup [.str 234,.str 80])) [
  .ret (.list [(.idx (.var 203) (.int 1))])] [],
 .ifs (.cmp .In (.var 241) (.tup [.str 75,.str 85])) [
  .ret (.list [(.idx (.var 203) (.int 2)),(.idx (.var 203) (.int 3))])] [],
 .ifs (.cmp .Eq (.var 241) (.str 233)) [
  .ret (.list [(.idx (.var 203) (.int 2))])] [],
 .ifs (.cmp .Eq (.var 241) (.str 82)) [
  .ret (.list [(.idx (.var 203) (.int 1))])] [],
 .ifs (.cmp .In (.var 241) (.tup [.str 9,.str 66])) [
  .ret (.blt .list [(.idx (.var 203) (.int 1))])] [],
 .ret (.ite (.cmp .Eq (.var 241) (.str 63)) (.blt .list [(.idx (.var 203) (.int 3))]) (.list []))]⟩
noncomputable def D9:Def:=⟨[(203,Option.none),(180,Option.none)],[
 .asg (.name 241) (.idx (.var 203) (.int 0)),
 .ifs (.cmp .In (.var 241) (.tup [.str 234,.str 80])) [
  .ret (.tup [.var 241,(.idx (.var 180) (.int 0))])] [],
 .ifs (.cmp .In (.var 241) (.tup [.str 75,.str 85])) [
  .ret (.tup [.var 241,(.idx (.var 203) (.int 1)),(.idx (.var 180) (.int 0)),(.idx (.var 180) (.int 1))])] [],
 .ifs (.cmp .Eq (.var 241) (.str 233)) [
  .ret (.tup [.var 241,(.idx (.var 203) (.int 1)),(.idx (.var 180) (.int 0))])] [],
 .ifs (.cmp .Eq (.var 241) (.str 82)) [
  .ret (.tup [.var 241,(.idx (.var 180) (.int 0)),(.idx (.var 203) (.int 2))])] [],
 .ifs (.cmp .In (.var 241) (.tup [.str 9,.str 66])) [
  .ret (.tup [.var 241,(.blt .tuple [.var 180])])] [],
 .ret (.ite (.cmp .Eq (.var 241) (.str 63)) (.bin .Add (.slc (.var 203) .none (.int 3)) (.tup [(.blt .tuple [.var 180])])) (.var 203))]⟩
noncomputable def Fc:Def:=⟨[(221,Option.none)],[
 .ifs (.cmp .Eq (.idx (.var 221) (.int 0)) (.str 9)) [
  .ret (.cmp .Eq (.lcomp (.var 185) (.one 185) (.idx (.var 221) (.int 1)) [(.cmp .NotIn (.idx (.var 185) (.int 0)) (.gtup 15))]) (.list []))] [],
 .ret (.cmp .In (.idx (.var 221) (.int 0)) (.gtup 15))]⟩
noncomputable def Fb:Def:=⟨[(78,Option.none)],[
 .asg (.name 113) (.dict []),
 .fors (.many [216,223]) (.attr (.var 78) 77) [
  .fors (.one 215) (.var 216) [
   .ifs (.bop .And [(.cmp .Eq (.idx (.var 215) (.int 0)) (.str 68)),(.cmp .Eq (.idx (.idx (.var 215) (.int 2)) (.int 0)) (.str 198))]) [
    .asg (.sub (.var 113) (.idx (.idx (.idx (.var 215) (.int 2)) (.int 3)) (.int 0))) (.bool true)] []]],
 .ret (.var 113)]⟩
noncomputable def DK:Def:=⟨[(206,Option.none),(137,Option.none)],[
 .asg (.att (.var 206) 137) (.blt .dict [.var 137])]⟩
noncomputable def DJ:Def:=⟨[(206,Option.none),(186,Option.none)],[
 .asg (.name 236) (.meth (.attr (.var 206) 137) 6 [(.idx (.var 186) (.int 0))]),
 .fors (.one 191) (.idx (.var 186) (.int 1)) [
  .ifs (.bop .Or [(.cmp .Is (.var 236) .none),(.cmp .NotEq (.idx (.var 191) (.int 0)) (.str 104))]) [
   .ret .none] [],
  .asg (.name 236) (.idx (.var 236) (.idx (.var 191) (.int 1)))],
 .ret (.var 236)]⟩
noncomputable def Dc:Def:=⟨[(206,Option.none),(179,Option.none)],[
 .ifs (.cmp .Eq (.idx (.var 179) (.int 0)) (.str 87)) [
  .ret (.ite (.cmp .In (.idx (.idx (.var 179) (.int 1)) (.int 0)) (.gtup 15)) (.idx (.var 179) (.int 2)) .none)] [],
 .ret (.meth (.var 206) 71 [(.idx (.var 179) (.int 1))])]⟩
noncomputable def Eu:Def:=⟨[(206,Option.none),(186,Option.none)],[
 .expr (.meth (.attr (.var 206) 137) 4 [(.idx (.var 186) (.int 0)),.none])]⟩
noncomputable def Dn:Def:=⟨[(177,Option.none),(221,Option.none),(62,Option.none),(72,Option.none)],[
 .ifs (.cmp .In (.var 177) (.gtup 14)) [
  .ret (.call 86 [.var 177,.var 62,.var 72])] [],
 .ifs (.cmp .Eq (.idx (.var 221) (.int 0)) (.str 79)) [
  .ret (.meth (.dict [.str 25,(.bop .And [.var 62,.var 72]),.str 243,(.bop .Or [.var 62,.var 72]),.str 40,(.cmp .NotEq (.var 62) (.var 72))]) 6 [.var 177])] [],
 .ret (.idx (.call 85 [(.idx (.var 221) (.int 1)),.var 177,.var 62,.var 72]) (.int 0))]⟩
noncomputable def CL:Def:=⟨[(206,Option.none),(78,Option.none)],[
 .asg (.att (.var 206) 78) (.var 78),
 .asg (.name 149) (.call 150 [.var 78]),
 .asg (.att (.var 206) 110) (.dict []),
 .fors (.one 153) (.blt .range [(.blt .len [(.attr (.var 78) 154)])]) [
  .ifs (.bop .And [(.call 129 [(.idx (.idx (.attr (.var 78) 154) (.var 153)) (.int 0))]),(.cmp .NotIn (.var 153) (.var 149))]) [
   .asg (.sub (.attr (.var 206) 110) (.var 153)) (.bool true)] []],
 .asg (.att (.var 206) 73) (.dict [.int 0,.dict []])]⟩
noncomputable def CR:Def:=⟨[(206,Option.none),(179,Option.none)],[
 .ifs (.cmp .Eq (.idx (.var 179) (.int 0)) (.str 87)) [
  .ret (.idx (.var 179) (.int 1))] [],
 .asg (.names [153,192]) (.idx (.var 179) (.int 1)),
 .asg (.name 221) (.idx (.idx (.attr (.attr (.var 206) 78) 154) (.var 153)) (.int 0)),
 .fors (.one 191) (.var 192) [
  .ifs (.bop .Or [(.cmp .NotEq (.idx (.var 191) (.int 0)) (.str 104)),(.cmp .NotEq (.idx (.var 221) (.int 0)) (.str 9))]) [
   .ret .none] [],
  .asg (.name 221) (.idx (.idx (.var 221) (.int 1)) (.idx (.var 191) (.int 1)))],
 .ret (.var 221)]⟩
noncomputable def CK:Def:=⟨[(206,Option.none),(203,Option.none),(102,Option.none)],[
 .asg (.name 135) (.idx (.var 203) (.int 0)),
 .ifs (.cmp .Eq (.var 135) (.str 234)) [
  .ret (.meth (.var 102) 70 [(.idx (.var 203) (.int 1))])] [],
 .ifs (.cmp .Eq (.var 135) (.str 9)) [
  .asg (.name 225) (.lcomp (.meth (.var 102) 70 [.var 179]) (.one 179) (.idx (.var 203) (.int 1)) []),
  .ret (.ite (.cmp .In .none (.var 225)) .none (.blt .tuple [.var 225]))] [],
 .ifs (.cmp .In (.var 135) (.tup [.str 75,.str 85])) [
  .ret (.meth (.var 206) 175 [.var 203,.var 102])] [],
 .ifs (.cmp .Eq (.var 135) (.str 233)) [
  .ret (.meth (.var 206) 174 [.var 203,.var 102])] [],
 .ifs (.cmp .Eq (.var 135) (.str 82)) [
  .ret (.meth (.var 206) 173 [.var 203,.var 102])] [],
 .ret .none]⟩
noncomputable def Dd:Def:=⟨[(206,Option.none),(203,Option.none),(102,Option.none)],[
 .asg (.names [135,177,143,200]) (.var 203),
 .asg (.names [62,72,221]) (.tup [(.meth (.var 102) 70 [.var 143]),(.meth (.var 102) 70 [.var 200]),(.meth (.var 206) 229 [.var 143])]),
 .ifs (.bop .Or [(.cmp .Is (.var 62) .none),(.cmp .Is (.var 72) .none),(.cmp .Is (.var 221) .none),(.cmp .NotIn (.idx (.var 221) (.int 0)) (.gtup 15))]) [
  .ret .none] [],
 .ifs (.cmp .Eq (.var 135) (.str 75)) [
  .ret (.call 197 [.var 177,.var 221,.var 62,.var 72])] [],
 .asg (.name 225) (.call 85 [(.idx (.var 221) (.int 1)),.var 177,.var 62,.var 72]),
 .ret (.ite (.cmp .Is (.idx (.var 225) (.int 0)) .none) .none (.var 225))]⟩
noncomputable def De:Def:=⟨[(206,Option.none),(203,Option.none),(102,Option.none)],[
 .asg (.names [62,221]) (.tup [(.meth (.var 102) 70 [(.idx (.var 203) (.int 2))]),(.meth (.var 206) 229 [(.idx (.var 203) (.int 2))])]),
 .ifs (.bop .Or [(.cmp .Is (.var 62) .none),(.cmp .Is (.var 221) .none)]) [
  .ret .none] [],
 .ifs (.cmp .Eq (.idx (.var 203) (.int 1)) (.str 22)) [
  .ret (.ite (.cmp .Eq (.idx (.var 221) (.int 0)) (.str 79)) (.not (.var 62)) (.call 242 [(.idx (.var 221) (.int 1)),(.bin .Sub (.neg (.int 1)) (.var 62))]))] [],
 .ret (.call 242 [(.idx (.var 221) (.int 1)),(.bin .Sub (.int 0) (.var 62))])]⟩
noncomputable def E7:Def:=⟨[(206,Option.none),(203,Option.none),(102,Option.none)],[
 .asg (.name 62) (.meth (.var 102) 70 [(.idx (.var 203) (.int 1))]),
 .ifs (.bop .Or [(.cmp .Is (.var 62) .none),(.cmp .NotEq (.idx (.idx (.var 203) (.int 2)) (.int 0)) (.str 128))]) [
  .ret .none] [],
 .ret (.call 83 [(.idx (.idx (.var 203) (.int 2)) (.int 1)),(.call 128 [.var 62])])]⟩
noncomputable def Gn:Def:=⟨[(206,Option.none),(215,Option.none),(102,Option.none)],[
 .ifs (.cmp .Eq (.idx (.var 215) (.int 0)) (.str 68)) [
  .asg (.names [186,203]) (.tup [(.idx (.var 215) (.int 1)),(.idx (.var 215) (.int 2))]),
  .asg (.name 236) (.meth (.var 206) 237 [.var 203,.var 102]),
  .expr (.meth (.var 102) 111 [.var 186]),
  .ifs (.bop .And [(.cmp .IsNot (.var 236) .none),(.cmp .Eq (.idx (.var 186) (.int 1)) (.tup [])),(.cmp .In (.idx (.var 186) (.int 0)) (.attr (.var 206) 110))]) [
   .asg (.sub (.attr (.var 102) 137) (.idx (.var 186) (.int 0))) (.var 236)] []] [
  .ifs (.cmp .In (.idx (.var 215) (.int 0)) (.tup [.str 152,.str 92])) [
   .expr (.meth (.var 102) 111 [(.tup [(.idx (.var 215) (.int 1)),.tup []])])] []]]⟩
noncomputable def Ft:Def:=⟨[(206,Option.none),(171,Option.none)],[
 .asg (.name 102) (.call 19 [(.idx (.attr (.var 206) 73) (.var 171))]),
 .asg (.names [216,223]) (.idx (.attr (.attr (.var 206) 78) 77) (.var 171)),
 .fors (.one 215) (.var 216) [
  .expr (.meth (.var 206) 217 [.var 215,.var 102])],
 .ret (.var 102)]⟩
noncomputable def CS:Def:=⟨[(206,Option.none),(171,Option.none),(102,Option.none)],[
 .asg (.name 223) (.idx (.idx (.attr (.attr (.var 206) 78) 77) (.var 171)) (.int 1)),
 .ifs (.cmp .Eq (.idx (.var 223) (.int 0)) (.str 81)) [
  .expr (.meth (.var 102) 111 [(.idx (.var 223) (.int 3))])] [],
 .ifs (.cmp .Eq (.idx (.var 223) (.int 0)) (.str 96)) [
  .expr (.meth (.var 102) 111 [(.idx (.var 223) (.int 1))])] [],
 .asg (.name 222) (.meth (.var 206) 138 [.var 223,.var 102]),
 .ifs (.cmp .IsNot (.var 222) .none) [
  .ret (.list [(.tup [.var 222,(.attr (.var 102) 137)])])] [],
 .ret (.lcomp (.tup [.var 76,(.attr (.var 102) 137)]) (.one 76) (.call 218 [.var 223]) [])]⟩
noncomputable def B_:Def:=⟨[(206,Option.none),(223,Option.none),(102,Option.none)],[
 .ifs (.cmp .Eq (.idx (.var 223) (.int 0)) (.str 220)) [
  .asg (.name 236) (.meth (.var 102) 70 [(.idx (.var 223) (.int 1))]),
  .ifs (.cmp .Is (.var 236) .none) [
   .ret .none] [],
  .fors (.many [225,76]) (.idx (.var 223) (.int 2)) [
   .ifs (.cmp .Eq (.var 225) (.var 236)) [
    .ret (.var 76)] []],
  .ret (.idx (.var 223) (.int 3))] [],
 .ifs (.bop .And [(.cmp .Eq (.idx (.var 223) (.int 0)) (.str 67)),(.cmp .Eq (.meth (.var 102) 70 [(.idx (.var 223) (.int 1))]) (.idx (.var 223) (.int 2)))]) [
  .ret (.idx (.var 223) (.neg (.int 1)))] [],
 .ret .none]⟩
noncomputable def Go:Def:=⟨[(206,Option.none),(171,Option.none),(137,Option.none)],[
 .ifs (.cmp .NotIn (.var 171) (.attr (.var 206) 73)) [
  .asg (.sub (.attr (.var 206) 73) (.var 171)) (.blt .dict [.var 137]),
  .ret (.bool true)] [],
 .asg (.name 120) (.idx (.attr (.var 206) 73) (.var 171)),
 .asg (.name 134) (.dcomp (.var 153) (.idx (.var 120) (.var 153)) (.one 153) (.var 120) [(.bop .And [(.cmp .In (.var 153) (.var 137)),(.cmp .Eq (.idx (.var 137) (.var 153)) (.idx (.var 120) (.var 153)))])]),
 .asg (.sub (.attr (.var 206) 73) (.var 171)) (.var 134),
 .ret (.cmp .Lt (.blt .len [.var 134]) (.blt .len [.var 120]))]⟩
noncomputable def Fq:Def:=⟨[(206,Option.none)],[
 .asg (.name 143) (.list [.int 0]),
 .whl (.cmp .NotEq (.var 143) (.list [])) [
  .asg (.name 171) (.meth (.var 143) 4 []),
  .fors (.many [76,137]) (.meth (.var 206) 117 [.var 171,(.meth (.var 206) 74 [.var 171])]) [
   .ifs (.meth (.var 206) 160 [.var 76,.var 137]) [
    .expr (.meth (.var 143) 3 [.var 76])] []]]]⟩
noncomputable def D6:Def:=⟨[(206,Option.none),(179,Option.none),(102,Option.none)],[
 .ifs (.cmp .Eq (.idx (.var 179) (.int 0)) (.str 87)) [
  .ret (.var 179)] [],
 .asg (.names [236,221]) (.tup [(.meth (.var 102) 70 [.var 179]),(.meth (.var 206) 229 [.var 179])]),
 .ret (.ite (.bop .Or [(.cmp .Is (.var 236) .none),(.cmp .Is (.var 221) .none),(.cmp .NotIn (.idx (.var 221) (.int 0)) (.gtup 15))]) (.var 179) (.tup [.str 87,.var 221,.var 236]))]⟩
noncomputable def Cm:Def:=⟨[(206,Option.none),(203,Option.none),(186,Option.none),(102,Option.none)],[
 .asg (.name 236) (.meth (.var 206) 237 [.var 203,.var 102]),
 .asg (.name 221) (.meth (.var 206) 229 [(.tup [.str 90,.var 186])]),
 .ifs (.bop .And [(.cmp .IsNot (.var 236) .none),(.cmp .IsNot (.var 221) .none),(.cmp .In (.idx (.var 221) (.int 0)) (.gtup 15))]) [
  .ret (.tup [.str 234,(.tup [.str 87,.var 221,.var 236])])] [],
 .ret (.call 240 [.var 203,(.lcomp (.meth (.var 206) 193 [.var 179,.var 102]) (.one 179) (.call 181 [.var 203]) [])])]⟩
noncomputable def BV:Def:=⟨[(206,Option.none),(215,Option.none),(102,Option.none)],[
 .ifs (.cmp .Eq (.idx (.var 215) (.int 0)) (.str 68)) [
  .ret (.tup [.str 68,(.idx (.var 215) (.int 1)),(.meth (.var 206) 194 [(.idx (.var 215) (.int 2)),(.idx (.var 215) (.int 1)),.var 102])])] [],
 .ifs (.cmp .Eq (.idx (.var 215) (.int 0)) (.str 190)) [
  .ret (.tup [.str 190,(.meth (.var 206) 193 [(.idx (.var 215) (.int 1)),.var 102])])] [],
 .ret (.var 215)]⟩
noncomputable def BM:Def:=⟨[(206,Option.none),(223,Option.none),(102,Option.none)],[
 .asg (.name 222) (.meth (.var 206) 138 [.var 223,.var 102]),
 .ifs (.cmp .IsNot (.var 222) .none) [
  .ret (.tup [.str 118,.var 222])] [],
 .ifs (.cmp .In (.idx (.var 223) (.int 0)) (.tup [.str 220,.str 67])) [
  .ret (.bin .Add (.tup [(.idx (.var 223) (.int 0)),(.meth (.var 206) 193 [(.idx (.var 223) (.int 1)),.var 102])]) (.blt .tuple [(.slc (.var 223) (.int 2) .none)]))] [],
 .ifs (.cmp .Eq (.idx (.var 223) (.int 0)) (.str 81)) [
  .asg (.name 225) (.blt .tuple [(.lcomp (.meth (.var 206) 193 [.var 179,.var 102]) (.one 179) (.idx (.var 223) (.int 2)) [])]),
  .ret (.bin .Add (.tup [(.idx (.var 223) (.int 0)),(.idx (.var 223) (.int 1)),.var 225]) (.blt .tuple [(.slc (.var 223) (.int 3) .none)]))] [],
 .ret (.var 223)]⟩
noncomputable def D_:Def:=⟨[(78,Option.none)],[
 .asg (.name 113) (.dict []),
 .fors (.one 153) (.blt .range [(.blt .len [(.attr (.var 78) 154)])]) [
  .ifs (.cmp .NotIn (.idx (.idx (.idx (.attr (.var 78) 154) (.var 153)) (.int 0)) (.int 0)) (.gtup 16)) [
   .asg (.sub (.var 113) (.var 153)) (.bool true)] []],
 .fors (.many [216,223]) (.attr (.var 78) 77) [
  .fors (.one 215) (.var 216) [
   .ifs (.bop .And [(.cmp .Eq (.idx (.var 215) (.int 0)) (.str 68)),(.cmp .Eq (.idx (.idx (.var 215) (.int 2)) (.int 0)) (.str 198))]) [
    .asg (.sub (.var 113) (.idx (.idx (.idx (.var 215) (.int 2)) (.int 3)) (.int 0))) (.bool true)] []]],
 .ret (.var 113)]⟩
noncomputable def KN:Def:=⟨[(137,Option.none),(153,Option.none)],[
 .expr (.meth (.var 137) 4 [.var 153,.none]),
 .fors (.one 182) (.lcomp (.var 176) (.one 176) (.var 137) [(.cmp .Eq (.idx (.var 137) (.var 176)) (.var 153))]) [
  .expr (.meth (.var 137) 4 [.var 182])]]⟩
noncomputable def EC:Def:=⟨[(180,Option.none),(137,Option.none)],[
 .fors (.one 179) (.var 180) [
  .ifs (.cmp .Eq (.idx (.var 179) (.int 0)) (.str 164)) [
   .expr (.call 111 [.var 137,(.idx (.idx (.var 179) (.int 1)) (.int 0))])] []]]⟩
noncomputable def Dl:Def:=⟨[(206,Option.none),(78,Option.none)],[
 .asg (.att (.var 206) 78) (.var 78),
 .asg (.att (.var 206) 182) (.call 151 [.var 78]),
 .asg (.att (.var 206) 73) (.dict [.int 0,.dict []])]⟩
noncomputable def E8:Def:=⟨[(206,Option.none),(215,Option.none),(137,Option.none)],[
 .ifs (.cmp .In (.idx (.var 215) (.int 0)) (.tup [.str 152,.str 92])) [
  .expr (.call 111 [.var 137,(.idx (.var 215) (.int 1))])] [],
 .ifs (.cmp .Eq (.idx (.var 215) (.int 0)) (.str 190)) [
  .expr (.call 112 [(.list [(.idx (.var 215) (.int 1))]),.var 137])] [],
 .ifs (.cmp .NotEq (.idx (.var 215) (.int 0)) (.str 68)) [
  .ret .none] [],
 .asg (.names [186,203]) (.tup [(.idx (.var 215) (.int 1)),(.idx (.var 215) (.int 2))]),
 .expr (.call 112 [(.call 181 [.var 203]),.var 137]),
 .asg (.name 212) .none,
 .ifs (.bop .And [(.cmp .Eq (.idx (.var 186) (.int 1)) (.tup [])),(.cmp .Eq (.idx (.var 203) (.int 0)) (.str 234)),(.cmp .Eq (.idx (.idx (.var 203) (.int 1)) (.int 0)) (.str 90)),(.cmp .Eq (.idx (.idx (.idx (.var 203) (.int 1)) (.int 1)) (.int 1)) (.tup []))]) [
  .asg (.name 212) (.idx (.idx (.idx (.var 203) (.int 1)) (.int 1)) (.int 0)),
  .asg (.name 212) (.meth (.var 137) 6 [.var 212,.var 212])] [],
 .expr (.call 111 [.var 137,(.idx (.var 186) (.int 0))]),
 .ifs (.bop .And [(.cmp .IsNot (.var 212) .none),(.cmp .NotEq (.var 212) (.idx (.var 186) (.int 0))),(.cmp .NotIn (.idx (.var 186) (.int 0)) (.attr (.var 206) 182)),(.cmp .NotIn (.var 212) (.attr (.var 206) 182))]) [
  .asg (.sub (.var 137) (.idx (.var 186) (.int 0))) (.var 212)] []]⟩
noncomputable def D5:Def:=⟨[(206,Option.none),(171,Option.none)],[
 .asg (.name 137) (.blt .dict [(.idx (.attr (.var 206) 73) (.var 171))]),
 .asg (.names [216,223]) (.idx (.attr (.attr (.var 206) 78) 77) (.var 171)),
 .fors (.one 215) (.var 216) [
  .expr (.meth (.var 206) 217 [.var 215,.var 137])],
 .ifs (.cmp .Eq (.idx (.var 223) (.int 0)) (.str 81)) [
  .expr (.call 112 [(.idx (.var 223) (.int 2)),.var 137]),
  .expr (.call 111 [.var 137,(.idx (.idx (.var 223) (.int 3)) (.int 0))])] [],
 .ifs (.cmp .In (.idx (.var 223) (.int 0)) (.tup [.str 220,.str 67])) [
  .expr (.call 112 [(.list [(.idx (.var 223) (.int 1))]),.var 137])] [],
 .ret (.var 137)]⟩
noncomputable def E9:Def:=⟨[(206,Option.none),(171,Option.none),(137,Option.none)],[
 .ifs (.cmp .NotIn (.var 171) (.attr (.var 206) 73)) [
  .asg (.sub (.attr (.var 206) 73) (.var 171)) (.blt .dict [.var 137]),
  .ret (.bool true)] [],
 .asg (.name 120) (.idx (.attr (.var 206) 73) (.var 171)),
 .asg (.name 134) (.dcomp (.var 153) (.idx (.var 120) (.var 153)) (.one 153) (.var 120) [(.cmp .Eq (.meth (.var 137) 6 [.var 153]) (.idx (.var 120) (.var 153)))]),
 .asg (.sub (.attr (.var 206) 73) (.var 171)) (.var 134),
 .ret (.cmp .Lt (.blt .len [.var 134]) (.blt .len [.var 120]))]⟩
noncomputable def D4:Def:=⟨[(206,Option.none)],[
 .asg (.name 143) (.list [.int 0]),
 .whl (.cmp .NotEq (.var 143) (.list [])) [
  .asg (.name 171) (.meth (.var 143) 4 []),
  .asg (.name 137) (.meth (.var 206) 74 [.var 171]),
  .fors (.one 76) (.call 218 [(.idx (.idx (.attr (.attr (.var 206) 78) 77) (.var 171)) (.int 1))]) [
   .ifs (.meth (.var 206) 160 [.var 76,.var 137]) [
    .expr (.meth (.var 143) 3 [.var 76])] []]]]⟩
noncomputable def GQ:Def:=⟨[(204,Option.none)],[
 .asg (.name 84) (.ite (.cmp .Gt (.blt .len [.var 204]) (.int 0)) (.idx (.var 204) (.int 0)) (.int 0)),
 .asg (.name 208) (.ite (.cmp .GtE (.var 84) (.int 0)) (.var 84) (.bin .Sub (.neg (.int 1)) (.var 84))),
 .ret (.list [(.ite (.cmp .GtE (.var 208) (.bin .Pow (.int 10) (.int 18))) (.var 208) (.int 0)),(.bin .Mod (.bin .Mult (.bin .Add (.bin .Mod (.var 208) (.int 2147483629)) (.int 23)) (.int 48271)) (.int 2147483647))])]⟩
noncomputable def f__law_take:Def:=⟨[(212,Option.none),(226,Option.none)],[
 .ifs (.cmp .Gt (.idx (.var 212) (.int 0)) (.int 0)) [
  .asg (.name 105) (.bin .Mod (.idx (.var 212) (.int 0)) (.var 226)),
  .asg (.sub (.var 212) (.int 0)) (.bin .FloorDiv (.idx (.var 212) (.int 0)) (.var 226)),
  .ret (.var 105)] [],
 .asg (.sub (.var 212) (.int 1)) (.bin .Mod (.bin .Add (.bin .Mult (.idx (.var 212) (.int 1)) (.int 39373)) (.int 7)) (.int 2147483647)),
 .ret (.bin .Mod (.bin .FloorDiv (.bin .Mod (.bin .Mult (.idx (.var 212) (.int 1)) (.idx (.var 212) (.int 1))) (.int 2147483629)) (.int 32)) (.var 226))]⟩
noncomputable def HT:Def:=⟨[(212,Option.none),(224,Option.none)],[
 .ret (.idx (.var 224) (.call 58 [.var 212,(.blt .len [.var 224])]))]⟩
noncomputable def I1:Def:=⟨[],[
 .ret (.tup [.str 128,.str 1])]⟩
noncomputable def GT:Def:=⟨[(98,Option.none)],[
 .asg (.name 136) (.list [.call 60 [],.call 60 [],(.tup [.str 79]),(.tup [.str 9,(.tup [.call 60 [],(.tup [.str 79])])]),.call 60 []]),
 .ret (.call 18 [.str 101,.int 0,(.lcomp (.tup [.var 135,(.bool true),.none]) (.one 135) (.var 136) []),(.list [(.list [.list [],.var 98])])])]⟩
noncomputable def F0:Def:=⟨[(137,Option.none),(186,Option.none)],[
 .asg (.name 236) (.meth (.var 137) 6 [(.idx (.var 186) (.int 0))]),
 .ret (.ite (.bop .Or [(.cmp .Is (.var 236) .none),(.cmp .Eq (.idx (.var 186) (.int 1)) (.tup []))]) (.var 236) (.idx (.var 236) (.idx (.idx (.idx (.var 186) (.int 1)) (.int 0)) (.int 1))))]⟩
noncomputable def GR:Def:=⟨[(137,Option.none),(238,Option.none),(135,Option.none),(186,Option.none)],[
 .asg (.name 236) (.call 49 [.var 137,.var 186]),
 .asg (.name 179) (.tup [.var 238,.var 186]),
 .ret (.tup [.var 179,.var 236,(.ite (.bop .Or [(.cmp .Is (.var 236) .none),(.cmp .Eq (.idx (.var 135) (.int 0)) (.str 9))]) (.var 179) (.tup [.str 87,.var 135,.var 236]))])]⟩
noncomputable def JL:Def:=⟨[(135,Option.none),(236,Option.none)],[
 .ret (.tup [(.tup [.str 87,.var 135,.var 236]),.var 236,(.tup [.str 87,.var 135,.var 236])])]⟩
noncomputable def EE:Def:=⟨[(212,Option.none),(137,Option.none),(211,Option.none)],[
 .asg (.names [106,205]) (.tup [(.tup [.str 104,.int 0]),(.tup [.str 104,.int 1])]),
 .asg (.name 135) (.idx (.dict [.str 171,.call 60 [],.str 227,(.tup [.str 79]),.str 184,(.tup [.str 9,(.tup [.call 60 [],(.tup [.str 79])])])]) (.var 211)),
 .asg (.name 187) (.dict [.str 171,(.list [(.tup [.int 1,.tup []]),(.tup [.int 4,.tup []]),(.tup [.int 3,(.tup [.var 106])])]),.str 227,(.list [(.tup [.int 2,.tup []]),(.tup [.int 3,(.tup [.var 205])])]),.str 184,(.list [(.tup [.int 3,.tup []])])]),
 .asg (.name 225) (.call 48 [.var 137,(.call 50 [.var 212,(.list [.str 90,.str 164])]),.var 135,(.call 50 [.var 212,(.idx (.var 187) (.var 211))])]),
 .asg (.name 236) (.call 58 [.var 212,.int 256]),
 .ifs (.bop .Or [(.cmp .Eq (.var 211) (.str 184)),(.cmp .Gt (.call 58 [.var 212,.int 4]) (.int 0))]) [
  .ret (.var 225)] [],
 .ret (.call 43 [.var 135,(.ite (.cmp .Eq (.var 211) (.str 171)) (.var 236) (.cmp .Gt (.var 236) (.int 99)))])]⟩
noncomputable def HS:Def:=⟨[(177,Option.none),(62,Option.none),(72,Option.none)],[
 .ifs (.bop .Or [(.cmp .Is (.var 62) .none),(.cmp .Is (.var 72) .none),(.bop .And [(.cmp .Eq (.var 177) (.str 29)),(.cmp .Eq (.var 72) (.int 0))])]) [
  .ret .none] [],
 .ret (.ite (.cmp .Eq (.var 177) (.str 30)) (.cmp .Lt (.var 62) (.var 72)) (.ite (.cmp .Eq (.var 177) (.str 27)) (.bin .Mod (.bin .Add (.var 62) (.var 72)) (.int 256)) (.bin .FloorDiv (.var 62) (.var 72))))]⟩
noncomputable def f__law_rvalue:Def:=⟨[(212,Option.none),(137,Option.none)],[
 .asg (.names [176,182]) (.tup [(.call 51 [.var 212,.var 137,.str 171]),(.call 51 [.var 212,.var 137,.str 171])]),
 .asg (.names [227,211]) (.tup [(.call 51 [.var 212,.var 137,.str 227]),(.call 50 [.var 212,(.list [.str 171,.str 227,.str 184])])]),
 .asg (.names [238,188]) (.tup [(.call 58 [.var 212,.int 6]),(.call 51 [.var 212,.var 137,.var 211])]),
 .ifs (.cmp .Eq (.var 238) (.int 0)) [
  .ret (.tup [(.tup [.str 234,(.idx (.var 188) (.int 0))]),.var 211,(.idx (.var 188) (.int 1)),(.tup [.str 234,(.idx (.var 188) (.int 2))])])] [],
 .ifs (.cmp .Eq (.var 238) (.int 1)) [
  .asg (.name 177) (.call 50 [.var 212,(.list [.str 27,.str 30,.str 29])]),
  .asg (.name 158) (.tup [.str 75,.var 177,(.idx (.var 176) (.int 2)),(.idx (.var 182) (.int 2))]),
  .asg (.name 225) (.ite (.cmp .Eq (.var 177) (.str 30)) (.str 227) (.str 171)),
  .ret (.tup [(.tup [.str 75,.var 177,(.idx (.var 176) (.int 0)),(.idx (.var 182) (.int 0))]),.var 225,(.call 57 [.var 177,(.idx (.var 176) (.int 1)),(.idx (.var 182) (.int 1))]),.var 158])] [],
 .ifs (.cmp .Eq (.var 238) (.int 2)) [
  .asg (.name 236) (.ite (.cmp .In .none (.list [(.idx (.var 176) (.int 1)),(.idx (.var 227) (.int 1))])) .none (.tup [(.idx (.var 176) (.int 1)),(.idx (.var 227) (.int 1))])),
  .ret (.tup [(.tup [.str 9,(.tup [(.idx (.var 176) (.int 0)),(.idx (.var 227) (.int 0))])]),.str 184,.var 236,(.tup [.str 9,(.tup [(.idx (.var 176) (.int 2)),(.idx (.var 227) (.int 2))])])])] [],
 .ifs (.cmp .Eq (.var 238) (.int 3)) [
  .ret (.tup [(.tup [.str 233,.str 22,(.idx (.var 227) (.int 0))]),.str 227,(.ite (.cmp .Is (.idx (.var 227) (.int 1)) .none) .none (.not (.idx (.var 227) (.int 1)))),(.tup [.str 233,.str 22,(.idx (.var 227) (.int 2))])])] [],
 .ifs (.cmp .Eq (.var 238) (.int 4)) [
  .ret (.tup [(.tup [.str 80,(.idx (.var 176) (.int 0))]),.str 184,.none,(.tup [.str 80,(.idx (.var 176) (.int 2))])])] [],
 .asg (.name 225) (.call 50 [.var 212,(.list [(.tup [.str 198,.none,.str 166,(.tup [.int 1,.tup []])]),(.tup [.str 95,(.tup [.int 3,.tup []])])])]),
 .ret (.tup [.var 225,.str 171,.none,.var 225])]⟩
noncomputable def DO:Def:=⟨[(137,Option.none),(203,Option.none),(211,Option.none),(236,Option.none),(158,Option.none)],[
 .asg (.name 202) (.dict [.str 171,(.tup [.call 60 [],(.tup [.int 4,.tup []])]),.str 227,(.tup [(.tup [.str 79]),(.tup [.int 3,(.tup [(.tup [.str 104,.int 1])])])]),.str 184,(.tup [.none,(.tup [.int 3,.tup []])])]),
 .asg (.names [135,186]) (.idx (.var 202) (.var 211)),
 .asg (.name 97) (.ite (.bop .And [(.cmp .IsNot (.var 236) .none),(.cmp .IsNot (.var 135) .none)]) (.tup [.str 234,(.tup [.str 87,.var 135,.var 236])]) (.var 158)),
 .asg (.names [88,102]) (.tup [(.call 20 [(.call 42 [(.tup [.str 199])])]),(.call 19 [.var 137])]),
 .ifs (.cmp .NotEq (.meth (.var 88) 194 [.var 203,.var 186,.var 102]) (.var 97)) [
  .ret (.bool false)] [],
 .ret (.cmp .Eq (.meth (.var 88) 195 [(.tup [.str 68,.var 186,.var 203]),.var 102]) (.tup [.str 68,.var 186,.var 97]))]⟩
noncomputable def GS:Def:=⟨[(132,Option.none),(227,Option.none),(210,Option.none),(115,Option.none)],[
 .asg (.names [202,163]) (.tup [(.tup [(.tup [.int 1,.int 5]),(.tup [.int 2,.int 6]),(.tup [.int 1,.int 7]),(.tup [.int 3,.int 5])]),.none]),
 .asg (.name 121) (.lcomp (.var 76) (.many [236,76]) (.var 202) [(.cmp .Eq (.var 236) (.idx (.var 132) (.int 1)))]),
 .asg (.name 219) (.ite (.cmp .Is (.idx (.var 132) (.int 1)) .none) .none (.idx (.bin .Add (.var 121) (.list [.int 8])) (.int 0))),
 .asg (.name 178) (.ite (.bop .Or [(.cmp .Is (.idx (.var 132) (.int 1)) .none),(.cmp .Eq (.var 121) (.list []))]) .none (.idx (.var 121) (.int 0))),
 .asg (.name 122) (.ite (.cmp .Is (.idx (.var 227) (.int 1)) (.bool true)) (.int 5) .none),
 .asg (.names [225,193]) (.tup [(.blt .tuple [(.lcomp (.idx (.var 176) (.int 0)) (.one 176) (.var 210) [])]),(.blt .tuple [(.lcomp (.idx (.var 176) (.int 2)) (.one 176) (.var 210) [])])]),
 .ret (.list [(.tup [(.tup [.str 220,(.idx (.var 132) (.int 0)),.var 202,.int 8]),.var 219,(.tup [.str 220,(.idx (.var 132) (.int 2)),.var 202,.int 8]),(.list [.int 5,.int 6,.int 7,.int 8]),.var 163]),(.tup [(.tup [.str 220,(.idx (.var 132) (.int 0)),.var 202,.none]),.var 178,(.tup [.str 220,(.idx (.var 132) (.int 2)),.var 202,.none]),(.list [.int 5,.int 6,.int 7]),.var 163]),(.tup [(.tup [.str 67,(.idx (.var 227) (.int 0)),(.bool true),.str 221,.int 5]),.var 122,(.tup [.str 67,(.idx (.var 227) (.int 2)),(.bool true),.str 221,.int 5]),(.list [.int 5]),.var 163]),(.tup [(.tup [.str 81,(.tup [.str 108,.str 114,.tup []]),.var 225,.var 115,.int 5]),.none,(.tup [.str 81,(.tup [.str 108,.str 114,.tup []]),.var 193,.var 115,.int 5]),(.list [.int 5]),(.idx (.var 115) (.int 0))]),(.tup [(.tup [.str 81,(.tup [.str 108,.str 114,.tup []]),.var 225,.var 115,.none]),.none,(.tup [.str 81,(.tup [.str 108,.str 114,.tup []]),.var 193,.var 115,.none]),.list [],(.idx (.var 115) (.int 0))]),(.tup [(.tup [.str 96,.var 115,.int 6]),.none,(.tup [.str 96,.var 115,.int 6]),(.list [.int 6]),(.idx (.var 115) (.int 0))]),(.tup [(.tup [.str 118,.int 6]),.none,(.tup [.str 118,.int 6]),(.list [.int 6]),.var 163]),(.tup [(.tup [.str 199]),.none,(.tup [.str 199]),.list [],.var 163])])]⟩
noncomputable def Do:Def:=⟨[(137,Option.none),(99,Option.none)],[
 .fors (.many [98,222,193,77,116]) (.var 99) [
  .asg (.name 88) (.call 20 [(.call 42 [.var 98])]),
  .ifs (.cmp .NotEq (.meth (.var 88) 138 [.var 98,(.call 19 [.var 137])]) (.var 222)) [
   .ret (.bool false)] [],
  .ifs (.cmp .NotEq (.meth (.var 88) 196 [.var 98,(.call 19 [.var 137])]) (.ite (.cmp .Is (.var 222) .none) (.var 193) (.tup [.str 118,.var 222]))) [
   .ret (.bool false)] [],
  .asg (.name 143) (.blt .dict [(.lcomp (.tup [.var 153,(.idx (.var 137) (.var 153))]) (.one 153) (.var 137) [(.cmp .NotEq (.var 153) (.var 116))])]),
  .asg (.name 97) (.lcomp (.tup [.var 76,.var 143]) (.one 76) (.ite (.cmp .Is (.var 222) .none) (.var 77) (.list [.var 222])) []),
  .ifs (.cmp .NotEq (.meth (.var 88) 117 [.int 0,(.call 19 [.var 137])]) (.var 97)) [
   .ret (.bool false)] []],
 .ret (.bool true)]⟩
noncomputable def Fd:Def:=⟨[(94,Option.none),(184,Option.none),(122,Option.none)],[
 .fors (.many [241,176,182]) (.var 94) [
  .ifs (.bop .And [(.cmp .Eq (.var 241) (.str 90)),(.cmp .Eq (.tup [.var 176,.var 182]) (.var 184))]) [
   .asg (.name 122) (.bool true)] [
   .ifs (.bop .Or [(.bop .And [(.cmp .In (.var 176) (.var 184)),(.cmp .NotEq (.var 241) (.str 190))]),(.bop .And [(.cmp .Eq (.var 241) (.str 164)),(.cmp .In (.var 182) (.var 184))])]) [
    .asg (.name 122) (.bool false)] []]],
 .ret (.var 122)]⟩
noncomputable def CU:Def:=⟨[(202,Option.none)],[
 .asg (.name 77) (.list []),
 .fors (.many [94,98,139,74]) (.var 202) [
  .expr (.meth (.var 77) 3 [(.list [(.lcomp (.call 56 [.var 93]) (.one 93) (.var 94) []),.var 98])])],
 .asg (.name 89) (.call 21 [(.call 18 [.str 101,.int 0,(.bin .Mult (.list [(.tup [.call 60 [],(.bool true),.none])]) (.int 5)),.var 77])]),
 .expr (.meth (.var 89) 109 []),
 .asg (.names [156,162]) (.tup [.list [],(.list [.int 0])]),
 .fors (.one 184) (.list [(.tup [.int 3,.int 1]),(.tup [.int 3,.int 2]),(.tup [.int 4,.int 1]),(.tup [.int 4,.int 2])]) [
  .asg (.names [113,143]) (.tup [(.list [(.tup [.int 0,(.bool false)])]),(.list [(.tup [.int 0,(.bool false)])])]),
  .whl (.cmp .NotEq (.var 143) (.list [])) [
   .asg (.names [76,122]) (.meth (.var 143) 4 []),
   .asg (.names [94,98,139,74]) (.idx (.var 202) (.var 76)),
   .asg (.name 122) (.call 47 [(.bin .Add (.var 94) (.ite (.cmp .Is (.var 139) .none) (.list []) (.list [.var 139]))),.var 184,.var 122]),
   .fors (.one 115) (.var 74) [
    .ifs (.cmp .NotIn (.tup [.var 115,.var 122]) (.var 113)) [
     .expr (.meth (.var 113) 3 [(.tup [.var 115,.var 122])]),
     .expr (.meth (.var 143) 3 [(.tup [.var 115,.var 122])])] []]],
  .expr (.meth (.var 156) 5 [(.lcomp (.tup [.var 76,.var 184]) (.many [76,122]) (.var 113) [(.not (.var 122))])]),
  .asg (.name 162) (.bin .Add (.var 162) (.lcomp (.var 76) (.many [76,122]) (.var 113) [(.cmp .NotIn (.var 76) (.var 162))]))],
 .asg (.name 97) (.dict []),
 .fors (.one 76) (.var 162) [
  .asg (.name 210) (.lcomp (.var 184) (.one 184) (.list [(.tup [.int 3,.int 1]),(.tup [.int 3,.int 2]),(.tup [.int 4,.int 1]),(.tup [.int 4,.int 2])]) [(.cmp .NotIn (.tup [.var 76,.var 184]) (.var 156))]),
  .asg (.sub (.var 97) (.var 76)) (.blt .dict [.var 210])],
 .ret (.cmp .Eq (.attr (.var 89) 73) (.var 97))]⟩
noncomputable def DN:Def:=⟨[(93,Option.none)],[
 .asg (.names [241,176,182]) (.var 93),
 .ifs (.cmp .In (.var 241) (.list [.str 152,.str 92])) [
  .ret (.tup [.var 241,.var 176])] [],
 .ifs (.bop .Or [(.cmp .Eq (.var 241) (.str 190)),(.cmp .Eq (.var 241) (.str 183))]) [
  .ret (.tup [.str 190,(.tup [(.ite (.cmp .Eq (.var 241) (.str 190)) (.str 90) (.str 164)),(.tup [.var 176,.tup []])])])] [],
 .ifs (.cmp .Eq (.var 241) (.str 87)) [
  .ret (.tup [.str 68,(.tup [.var 176,.tup []]),(.tup [.str 234,(.tup [.str 87,.call 60 [],.int 7])])])] [],
 .ret (.tup [.str 68,(.tup [.var 176,.tup []]),(.tup [.str 234,(.tup [.var 241,(.tup [.var 182,.tup []])])])])]⟩
noncomputable def GP:Def:=⟨[(212,Option.none)],[
 .asg (.names [159,202]) (.tup [(.bin .Add (.int 2) (.call 58 [.var 212,.int 3])),.list []]),
 .fors (.one 76) (.blt .range [.var 159]) [
  .asg (.name 94) (.list []),
  .fors (.one 228) (.blt .range [(.call 58 [.var 212,.int 4])]) [
   .asg (.name 241) (.call 50 [.var 212,(.list [.str 90,.str 90,.str 90,.str 87,.str 164,.str 152,.str 92,.str 190,.str 183])]),
   .asg (.name 176) (.ite (.cmp .In (.var 241) (.list [.str 90,.str 164])) (.bin .Add (.int 3) (.call 58 [.var 212,.int 2])) (.bin .Add (.int 1) (.call 58 [.var 212,.int 4]))),
   .expr (.meth (.var 94) 3 [(.tup [.var 241,.var 176,(.bin .Add (.int 1) (.call 58 [.var 212,.int 2]))])])],
  .asg (.names [176,182,153]) (.tup [(.call 58 [.var 212,.var 159]),(.call 58 [.var 212,.var 159]),(.bin .Add (.int 1) (.call 58 [.var 212,.int 4]))]),
  .asg (.names [209,165]) (.tup [(.tup [.str 87,(.tup [.str 79]),(.bool true)]),(.tup [.str 164,(.tup [.var 153,.tup []])])]),
  .asg (.names [98,139,74]) (.call 50 [.var 212,(.list [(.tup [(.tup [.str 118,.var 176]),.none,(.list [.var 176])]),(.tup [(.tup [.str 220,.var 209,(.tup [(.tup [(.bool true),.var 176])]),.var 182]),.none,(.list [.var 176,.var 182])]),(.tup [(.tup [.str 220,.var 165,(.tup [(.tup [.int 1,.var 176])]),.var 182]),(.tup [.str 183,.var 153,.int 0]),(.list [.var 176,.var 182])]),(.tup [(.tup [.str 199]),.none,.list []]),(.tup [(.tup [.str 81,(.tup [.str 108,.str 114,.tup []]),.tup [],(.tup [.var 153,.tup []]),.var 176]),(.tup [.str 87,.var 153,.int 0]),(.list [.var 176])])])]),
  .expr (.meth (.var 202) 3 [(.tup [.var 94,.var 98,.var 139,.var 74])])],
 .ret (.var 202)]⟩
noncomputable def f__law_told_right:Def:=⟨[],[
 .asg (.names [137,1,209]) (.tup [(.dict [.int 1,.int 2,.int 2,(.bool true),.int 3,(.tup [.int 9,(.bool false)])]),.call 60 [],(.tup [.str 79])]),
 .asg (.names [132,227]) (.tup [(.call 48 [.var 137,.str 90,.var 1,(.tup [.int 1,.tup []])]),(.call 48 [.var 137,.str 164,.var 209,(.tup [.int 2,.tup []])])]),
 .asg (.names [239,103]) (.tup [(.call 48 [.var 137,.str 90,.var 1,(.tup [.int 3,(.tup [(.tup [.str 104,.int 0])])])]),(.call 48 [.var 137,.str 90,.var 1,(.tup [.int 4,.tup []])])]),
 .asg (.names [172,184]) (.tup [(.call 48 [.var 137,.str 90,.var 209,(.tup [.int 3,(.tup [(.tup [.str 104,.int 1])])])]),(.tup [.str 90,(.tup [.int 3,.tup []])])]),
 .ifs (.not (.call 46 [.var 137,(.call 45 [.var 132,.var 227,(.list [.var 132,.var 227,.var 103]),(.tup [.int 3,.tup []])])])) [
  .ret (.bool false)] [],
 .ifs (.not (.call 46 [.var 137,(.slc (.call 45 [.var 103,.var 172,(.list [.var 239]),(.tup [.int 1,.tup []])]) .none (.int 3))])) [
  .ret (.bool false)] [],
 .asg (.name 98) (.tup [.str 220,(.idx (.var 132) (.int 0)),(.tup [(.tup [.int 1,.int 5]),(.tup [.int 2,.int 6])]),.none]),
 .ifs (.cmp .NotEq (.meth (.call 20 [(.call 42 [.var 98])]) 196 [.var 98,(.call 19 [.var 137])]) (.tup [.str 118,.int 6])) [
  .ret (.bool false)] [],
 .asg (.name 202) (.list [(.tup [(.tup [.str 75,.str 27,(.idx (.var 132) (.int 0)),(.idx (.var 239) (.int 0))]),.str 171,.int 11,.none]),(.tup [(.tup [.str 234,.var 184]),.str 184,(.tup [.int 9,(.bool false)]),(.tup [.str 234,.var 184])]),(.tup [(.tup [.str 75,.str 27,(.idx (.var 132) (.int 0)),(.idx (.var 103) (.int 0))]),.str 171,.none,(.tup [.str 75,.str 27,(.idx (.var 132) (.int 2)),(.idx (.var 103) (.int 0))])])]),
 .ifs (.cmp .NotEq (.lcomp (.var 201) (.one 201) (.var 202) [(.not (.call 53 [.var 137,(.idx (.var 201) (.int 0)),(.idx (.var 201) (.int 1)),(.idx (.var 201) (.int 2)),(.idx (.var 201) (.int 3))]))]) (.list [])) [
  .ret (.bool false)] [],
 .asg (.name 88) (.call 20 [(.call 42 [(.tup [.str 199])])]),
 .ifs (.cmp .NotEq (.meth (.var 88) 195 [(.tup [.str 190,(.idx (.var 132) (.int 0))]),(.call 19 [.var 137])]) (.tup [.str 190,(.tup [.str 87,.var 1,.int 2])])) [
  .ret (.bool false)] [],
 .asg (.name 89) (.call 21 [(.call 42 [(.tup [.str 199])])]),
 .asg (.name 225) (.lcomp (.meth (.var 89) 160 [.int 5,.var 210]) (.one 210) (.list [(.dict [.int 3,.int 1]),(.dict [.int 3,.int 1,.int 4,.int 2]),(.dict [.int 3,.int 2]),(.dict [.int 3,.int 2])]) []),
 .ifs (.bop .Or [(.cmp .NotEq (.var 225) (.list [(.bool true),(.bool false),(.bool true),(.bool false)])),(.cmp .NotEq (.attr (.var 89) 73) (.dict [.int 0,.dict [],.int 5,.dict []]))]) [
  .ret (.bool false)] [],
 .asg (.name 209) (.tup [.str 87,(.tup [.str 79]),(.bool true)]),
 .asg (.name 202) (.list [(.tup [(.list [(.tup [.str 90,.int 3,.int 1]),(.tup [.str 90,.int 4,.int 2])]),(.tup [.str 220,.var 209,(.tup [(.tup [(.bool true),.int 1])]),.int 2]),.none,(.list [.int 1,.int 2])]),(.tup [(.list [(.tup [.str 87,.int 2,.int 0])]),(.tup [.str 118,.int 2]),.none,(.list [.int 2])]),(.tup [(.list [(.tup [.str 190,.int 3,.int 0])]),(.tup [.str 118,.int 1]),.none,(.list [.int 1])])]),
 .ret (.call 44 [.var 202])]⟩
noncomputable def f_law:Def:=⟨[(204,Option.none)],[
 .ifs (.not (.call 59 [])) [
  .ret (.bool false)] [],
 .asg (.names [212,137]) (.tup [(.call 52 [.var 204]),.dict []]),
 .fors (.one 153) (.list [.int 1,.int 2,.int 3,.int 4]) [
  .asg (.name 236) (.call 58 [.var 212,.int 5]),
  .ifs (.cmp .Gt (.call 58 [.var 212,.int 3]) (.int 0)) [
   .asg (.sub (.var 137) (.var 153)) (.ite (.cmp .Eq (.var 153) (.int 2)) (.cmp .Gt (.var 236) (.int 2)) (.ite (.cmp .Eq (.var 153) (.int 3)) (.tup [.var 236,(.cmp .Gt (.var 236) (.int 2))]) (.var 236)))] []],
 .fors (.one 228) (.blt .range [.int 3]) [
  .asg (.names [203,211,236,158]) (.call 55 [.var 212,.var 137]),
  .ifs (.not (.call 53 [.var 137,.var 203,.var 211,.var 236,.var 158])) [
   .ret (.bool false)] []],
 .asg (.names [132,227]) (.tup [(.call 51 [.var 212,.var 137,.str 171]),(.call 51 [.var 212,.var 137,.str 227])]),
 .asg (.name 210) (.lcomp (.call 51 [.var 212,.var 137,(.call 50 [.var 212,(.list [.str 171,.str 227,.str 184])])]) (.one 228) (.blt .range [.int 2]) []),
 .asg (.names [115,69]) (.tup [(.call 50 [.var 212,(.list [(.tup [.int 1,.tup []]),(.tup [.int 2,.tup []]),(.tup [.int 3,(.tup [(.tup [.str 104,.int 0])])]),(.tup [.int 4,.tup []])])]),(.call 58 [.var 212,.int 5])]),
 .ifs (.not (.call 46 [.var 137,(.slc (.call 45 [.var 132,.var 227,.var 210,.var 115]) (.var 69) (.bin .Add (.var 69) (.int 4)))])) [
  .ret (.bool false)] [],
 .ret (.call 44 [(.call 54 [.var 212])])]⟩
noncomputable def defsL:List ((Nat×Nat)×Def):=[
 ((0,131),GO),
 ((0,142),M7),
 ((0,119),HQ),
 ((0,107),Qb),
 ((0,242),IY),
 ((0,83),L8),
 ((0,91),ED),
 ((0,100),M8),
 ((0,85),IZ),
 ((0,207),N7),
 ((0,86),HR),
 ((18,17),D7),
 ((18,229),HF),
 ((18,216),FT),
 ((18,223),FS),
 ((18,213),Kv),
 ((0,218),FZ),
 ((0,181),Fa),
 ((0,240),D9),
 ((0,129),Fc),
 ((0,150),Fb),
 ((19,17),DK),
 ((19,71),DJ),
 ((19,70),Dc),
 ((19,111),Eu),
 ((0,197),Dn),
 ((20,17),CL),
 ((20,229),CR),
 ((20,237),CK),
 ((20,175),Dd),
 ((20,174),De),
 ((20,173),E7),
 ((20,217),Gn),
 ((20,74),Ft),
 ((20,117),CS),
 ((20,138),B_),
 ((20,160),Go),
 ((20,109),Fq),
 ((20,193),D6),
 ((20,194),Cm),
 ((20,195),BV),
 ((20,196),BM),
 ((0,151),D_),
 ((0,111),KN),
 ((0,112),EC),
 ((21,17),Dl),
 ((21,217),E8),
 ((21,74),D5),
 ((21,160),E9),
 ((21,109),D4),
 ((0,52),GQ),
 ((0,58),f__law_take),
 ((0,50),HT),
 ((0,60),I1),
 ((0,42),GT),
 ((0,49),F0),
 ((0,48),GR),
 ((0,43),JL),
 ((0,51),EE),
 ((0,57),HS),
 ((0,55),f__law_rvalue),
 ((0,53),DO),
 ((0,45),GS),
 ((0,46),Do),
 ((0,47),Fd),
 ((0,44),CU),
 ((0,56),DN),
 ((0,54),GP),
 ((0,59),f__law_told_right),
 ((0,140),f_law)]
noncomputable def FY (f:Nat×Nat):List ((Nat×Nat)×Def)→Option Def
 | []=>none
 | (g,d)::r=>if Nat.beq f.1 g.1&&Nat.beq f.2 g.2 then some d else FY f r
noncomputable def Tr (n:Nat):Option (List Nat):=if n=14 then some [33,23,30,32,34,35] else if n=15 then some [128,79] else if n=16 then some [128,79] else none
noncomputable def Dx (n:Nat):Bool:=Nat.ble 18 n&&Nat.ble n 21
noncomputable def prog:Prog:=⟨Tr,fun f=>FY f defsL,Dx,17⟩
noncomputable def N3:Nat:=140
end Mine
end
section
open PySem
namespace Mine
theorem ML (k:Nat) (f:Nat×Nat) (d:Def) (h1:(Nat.beq f.1 0&&prog.isCls f.2)=false) (h2:prog.defs f=some d) (args:List AV) (σ:St) :
  AT prog (k+1) f args σ=Gh prog.gtup (AT prog k) d args σ:=(congrArg (fun b=>cond b _ _) h1).trans (AE h2 rfl)
theorem RL (k:Nat) (args:List AV) {σ:St} {r:Option (AV×St)} (h:AT prog (k+1) (0,N3) args σ=r):Gh prog.gtup (AT prog k) f_law args σ=r:=(ML k (0,N3) f_law rfl rfl args σ).symm.trans h
end Mine
end
section
namespace Mine
open PySem
section
variable {G:Nat→Option (List Nat)} {O:GD} {ρ ρ':At} {σ σ':St} {v:AV} {P:Prop} {a b c e:PE} {l:List PE}
theorem ev_bad:ev G O .bad ρ σ=none:=rfl
theorem R_ (e:Expr):P1 e=true∨∀ sc,Aq sc e=.bad:=by induction e using Expr.casesOn<;>first | exact .inl rfl | exact .inr fun _=>rfl
theorem CN (h:ev G O .bad ρ σ=some (v,σ')):P:=Ae h
theorem EF {r:AF×At×St} (h:ex G O .bad ρ σ=some r):P:=Ae h
theorem bin_i {op:Operator} (h:ev G O (.bin op a b) ρ σ=some (v,σ')) (k:∀ x σ₁ y σ₂,ev G O a ρ σ=some (x,σ₁)→ev G O b ρ σ₁=some (y,σ₂)→IB σ₂ op x y=some (v,σ')→P):P:=
 AB h fun x σ₁ h1 h=>AB h fun y σ₂ h2 h=>k x σ₁ y σ₂ h1 h2 h
theorem tup_i (h:ev G O (.tup l) ρ σ=some (v,σ')) (k:∀ vs,J5 G O l ρ σ=some (vs,σ')→v=.tup vs→P):P:=
 AB h fun vs σ₁ h1 h=>Bf h fun e1 e2=>k vs (e2▸h1) e1.symm
theorem Uk (h:ev G O (.list l) ρ σ=some (v,σ')) (k:∀ vs σ₁,J5 G O l ρ σ=some (vs,σ₁)→v=.loc σ₁.length→σ'=σ₁++[.list vs]→P):P:=
 AB h fun vs σ₁ h1 h=>Bf h fun e1 e2=>k vs σ₁ h1 e1.symm e2.symm
theorem Ql (h:ev G O (.dict l) ρ σ=some (v,σ')) (k:∀ vs σ₁ o,J5 G O l ρ σ=some (vs,σ₁)→KY vs=some o→v=.loc σ₁.length→σ'=σ₁++[o]→P):P:=
 AB h fun vs σ₁ h1 h=>BL h fun o h2 h=>(pQ h).elim fun e1 e2=>k vs σ₁ o h1 h2 e1.symm e2.symm
theorem Dv {α β:Type} {o:Option α} {f:α→β} {v':β} (h:o.map (fun v=>(f v,σ))=some (v',σ')) (k:∀ x,o=some x→f x=v'→σ=σ'→P):P:=BL h fun x h1 h=>(pQ h).elim (k x h1)
theorem Tk (h:ev G O (.not a) ρ σ=some (v,σ')) (k:∀ x b,ev G O a ρ σ=some (x,σ')→truth x=some b→v=.bool (!b)→P):P:=
 AB h fun x σ₁ h1 h=>Dv h fun b h2 e1 e2=>k x b (e2▸h1) h2 e1.symm
theorem neg_i (h:ev G O (.neg a) ρ σ=some (v,σ')) (k:∀ x,ev G O a ρ σ=some (x,σ')→Ud x=some v→P):P:=
 AB h fun x σ₁ h1 h=>Dv (f:=fun v=>v) h fun b h2 e1 e2=>k x (e2▸h1) (e1▸h2)
theorem Tz {op:CmpOp} (h:ev G O (.cmp op a b) ρ σ=some (v,σ')) (k:∀ x σ₁ y r,ev G O a ρ σ=some (x,σ₁)→ev G O b ρ σ₁=some (y,σ')→A9 σ' op x y=some r→v=.bool r→P):P:=
 AB h fun x σ₁ h1 h=>AB h fun y σ₂ h2 h=>Dv h fun r h3 e1 e2=>k x σ₁ y r h1 (e2▸h2) (e2▸h3) e1.symm
theorem Qz {op op':CmpOp} (h:ev G O (.cmp2 op op' a b c) ρ σ=some (v,σ')) (k:∀ x σ₁ y σ₂ t,ev G O a ρ σ=some (x,σ₁)→ev G O b ρ σ₁=some (y,σ₂)→A9 σ₂ op x y=some t →
  (t=false→v=.bool false∧σ'=σ₂)→(t=true→∃ z r,ev G O c ρ σ₂=some (z,σ')∧A9 σ' op' y z=some r∧v=.bool r)→P):P:=
 AB h fun x σ₁ h1 h=>AB h fun y σ₂ h2 h=>AI h fun t h3 h=>k x σ₁ y σ₂ t h1 h2 h3 (fun e=>by subst e;exact Bf h fun e1 e2=>⟨e1.symm,e2.symm⟩)
  (fun e=>by subst e;exact AB h fun z σ₃ h4 h=>Dv h fun r h5 e1 e2=>⟨z,r,e2▸h4,e2▸h5,e1.symm⟩)
theorem Tq (h:ev G O (.ite c a b) ρ σ=some (v,σ')) (k:∀ x σ₁ t,ev G O c ρ σ=some (x,σ₁)→truth x=some t→ev G O (cond t a b) ρ σ₁=some (v,σ')→P):P:=
 AB h fun x σ₁ h1 h=>AI h fun t h2 h=>k x σ₁ t h1 h2 (by cases t<;>exact h)
theorem idx_i (h:ev G O (.idx a b) ρ σ=some (v,σ')) (k:∀ x σ₁ y,ev G O a ρ σ=some (x,σ₁)→ev G O b ρ σ₁=some (y,σ')→CM σ' x y=some v→P):P:=
 AB h fun x σ₁ h1 h=>AB h fun y σ₂ h2 h=>Dv (f:=fun v=>v) h fun r h3 e1 e2=>k x σ₁ y h1 (e2▸h2) (e2▸e1▸h3)
theorem OW (h:ev G O (.slc a b c) ρ σ=some (v,σ')) (k:∀ x σ₁ y σ₂ z σ₃,ev G O a ρ σ=some (x,σ₁)→ev G O b ρ σ₁=some (y,σ₂)→ev G O c ρ σ₂=some (z,σ₃)→LQ σ₃ x y z=some (v,σ')→P):P:=
 AB h fun x σ₁ h1 h=>AB h fun y σ₂ h2 h=>AB h fun z σ₃ h3 h=>k x σ₁ y σ₂ z σ₃ h1 h2 h3 h
theorem SZ (h:ev G O (.bits a) ρ σ=some (v,σ')) (k:∀ x,ev G O a ρ σ=some (x,σ')→QT x=some v→P):P:=
 AB h fun x σ₁ h1 h=>Dv (f:=fun v=>v) h fun b h2 e1 e2=>k x (e2▸h1) (e1▸h2)
theorem UY {f:Nat} (h:ev G O (.attr a f) ρ σ=some (v,σ')) (k:∀ x,ev G O a ρ σ=some (x,σ')→Nt σ' x f=some v→P):P:=
 AB h fun x σ₁ h1 h=>Dv (f:=fun v=>v) h fun b h2 e1 e2=>k x (e2▸h1) (e2▸e1▸h2)
theorem UM {f:Nat} (h:ev G O (.call f l) ρ σ=some (v,σ')) (k:∀ vs σ₁,J5 G O l ρ σ=some (vs,σ₁)→O (0,f) vs σ₁=some (v,σ')→P):P:=AB h k
theorem blt_i {f:BI} (h:ev G O (.blt f l) ρ σ=some (v,σ')) (k:∀ vs σ₁,J5 G O l ρ σ=some (vs,σ₁)→DB f vs σ₁=some (v,σ')→P):P:=AB h k
theorem Uf {m:Nat} (h:ev G O (.meth a m l) ρ σ=some (v,σ')) (k:∀ x σ₁ t vs σ₂,ev G O a ρ σ=some (x,σ₁)→Es σ₁ x m=some t→J5 G O l ρ σ₁=some (vs,σ₂)→T0 O x vs σ₂ t=some (v,σ')→P):P:=
 AB h fun x σ₁ h1 h=>AI h fun t h2 h=>AB h fun vs σ₂ h3 h=>k x σ₁ t vs σ₂ h1 h2 h3 h
theorem I3 {vs:List AV} (h:J5 G O (e::l) ρ σ=some (vs,σ')) (k:∀ x σ₁ xs,ev G O e ρ σ=some (x,σ₁)→J5 G O l ρ σ₁=some (xs,σ')→vs=x::xs→P):P:=
 AB h fun x σ₁ h1 h=>AB h fun xs σ₂ h2 h=>Bf h fun e1 e2=>k x σ₁ xs h1 (e2▸h2) e1.symm
theorem Tu {op:BoolOp} (h:evb G O op (e::a::l) ρ σ=some (v,σ')) (k:∀ x σ₁ t,ev G O e ρ σ=some (x,σ₁)→truth x=some t→(KT op t=true→x=v∧σ₁=σ')→(KT op t=false→evb G O op (a::l) ρ σ₁=some (v,σ'))→P):P:=
 AB h fun x σ₁ h1 h=>AI h fun t h2 h=>k x σ₁ t h1 h2 (fun e=>by rw [e] at h;exact Bf h .intro) fun e=>by rw [e] at h;exact h
theorem eva_i {b:Bool} (h:KO G O (e::l) ρ σ=some (b,σ')) (k:∀ x σ₁ t,ev G O e ρ σ=some (x,σ₁)→truth x=some t→(t=false→b=false∧σ₁=σ')→(t=true→KO G O l ρ σ₁=some (b,σ'))→P):P:=
 AB h fun x σ₁ h1 h=>AI h fun t h2 h=>k x σ₁ t h1 h2 (fun e=>by subst e;exact Bf h fun e1 e2=>⟨e1.symm,e2⟩) fun e=>by subst e;exact h
theorem Eh {t:Bool} (h:DE G O e ρ σ=some (t,σ')) (k:∀ x,ev G O e ρ σ=some (x,σ')→truth x=some t→P):P:=
 AB h fun x σ₁ h1 h=>Dv (f:=fun v=>v) h fun b h2 e1 e2=>k x (e2▸h1) (e1▸h2)
theorem test_ok {t:Bool} {x:AV} (h:ev G O e ρ σ=some (x,σ')) (ht:truth x=some t):DE G O e ρ σ=some (t,σ'):=Ap h (congrArg (Option.map fun b=>(b,σ')) ht)
theorem Hh {b t:Bool} (h:truth (.bool b)=some t):b=t:=oQ h
theorem Ay {x y:Bool} (h:(x&&y)=true):x=true:=((Bool.and_eq_true x y).mp h).1
theorem AA {x y:Bool} (h:(x&&y)=true):y=true:=((Bool.and_eq_true x y).mp h).2
theorem MK {Pr:Prog} {k:Nat} {f:Nat×Nat} {xs:List AV} (h:AT Pr k f xs σ=some (v,σ'))
  (k1:∀ j d,k=j+1→f.1=0→Pr.isCls f.2=true→Pr.defs (f.2,Pr.kInit)=some d→Gh Pr.gtup (AT Pr j) d (.loc σ.length::xs) (σ++[.inst f.2 []])=some (.none,σ')→v=.loc σ.length→P)
  (k2:∀ j d,k=j+1→(Nat.beq f.1 0&&Pr.isCls f.2)=false→Pr.defs f=some d→Gh Pr.gtup (AT Pr j) d xs σ=some (v,σ')→P):P:=by
 induction k using Nat.casesOn with
 | zero=>exact Ae h
 | succ j=>
  generalize hb:(Nat.beq f.1 0&&Pr.isCls f.2)=b
  have h:cond (Nat.beq f.1 0&&Pr.isCls f.2) (Bi (Pr.defs (f.2,Pr.kInit)) fun d=>A3 (Gh Pr.gtup (AT Pr j) d (.loc σ.length::xs) (σ++[.inst f.2 []])) fun v σ'=>cond (JH v) (some (.loc σ.length,σ')) none)
   (Bi (Pr.defs f) fun d=>Gh Pr.gtup (AT Pr j) d xs σ)=some (v,σ'):=h
  rw [hb] at h
  induction b using Bool.casesOn with
  | true=>exact AI h fun d h1 h=>AB h fun u σ₁ h2 h=>BF h fun hn h=>Bf h fun e1 e2=>k1 j d rfl (Nat.eq_of_beq_eq_true (Ay hb)) (AA hb) h1 (by
    subst e2
    induction u using AV.casesOn with
    | none=>exact h2
    | _=>exact absurd hn bQ) e1.symm
  | false=>exact AI h fun d h1 h=>k2 j d rfl hb h1 h
theorem Ps {x:AV} {m:Nat} {t:MT} (h:Es σ x m=some t) (k1:∀ n c l,x=.loc n→σ[n]?=some (.inst c l)→look m l=none→t=.fn c m→P) (k2:∀ n l,x=.loc n→σ[n]?=some (.list l)→t=.bl false m→P)
  (k3:∀ n l,x=.loc n→σ[n]?=some (.dI l)→t=.bl true m→P):P:=by
 induction x using AV.casesOn with
 | loc n=>
  have h:(match σ[n]? with
   | some (.inst c l)=>(match look m l with
    | Option.none=>some (.fn c m)
    | some _=>Option.none)
   | some (.list _)=>some (.bl false m)
   | some (.dI _)=>some (.bl true m)
   | _=>Option.none)=some t:=h
  generalize hn:σ[n]?=o at h
  induction o using Option.casesOn with
  | none=>exact Ae h
  | some o=>induction o using AO.casesOn with
   | list l=>exact k2 n l rfl hn (oQ h).symm
   | dI l=>exact k3 n l rfl hn (oQ h).symm
   | dS l=>exact Ae h
   | inst c l=>
    have h:(match look m l with
     | Option.none=>some (MT.fn c m)
     | some _=>Option.none)=some t:=h
    generalize hl:look m l=u at h
    induction u using Option.casesOn with
    | none=>exact k1 n c l rfl hn hl (oQ h).symm
    | some _=>exact Ae h
 | _=>exact Ae h
theorem MR {d:Bool} {m n:Nat} {vs:List AV} {r:AV×St} (h:Db d m (.loc n) vs σ=some r) (k1:∀ l,σ[n]?=some (.list l)→d=false→IN m n l vs σ=some r→P) (k2:∀ l,σ[n]?=some (.dI l)→d=true→IO m n l vs σ=some r→P):P:=
 AI h fun o hn h=>by
  induction o using AO.casesOn with
  | list l=>exact GH h (fun _ h=>Ae h) (k1 l hn)
  | dI l=>exact GH h (k2 l hn) fun _ h=>Ae h
  | dS _=>exact Ae h
  | inst _ _=>exact Ae h
theorem MP {m n:Nat} {l vs:List AV} {r:AV×St} (h:IN m n l vs σ=some r) (k1:m=Dm→∀ v,vs=[v]→l.length < AX→some (.none,σ.set n (.list (l++[v])))=some r→P)
  (k2:m=Fv→vs=[]→l.length≤AX→∀ y,l.getLast?=some y→some (y,σ.set n (.list l.dropLast))=some r→P)
  (k3:m=ER→∀ b,vs=[.loc b]→∀ q,CT σ[b]?=some q→l.length+q.length≤AX→some (.none,σ.set n (.list (l++q)))=some r→P):P:=
 GH h (fun e h=>Pj h fun v e1 h=>Iv h fun hz h=>k1 (Nat.eq_of_beq_eq_true e) v e1 hz h) fun _ h=>GH h (fun e h=>Uc h fun e1 h=>Iv h fun hz h=>BL h fun y hy h=>k2 (Nat.eq_of_beq_eq_true e) e1 hz y hy (congrArg some h))
  fun _ h=>GH h (fun e h=>Pj h fun v e1 h=>L2 h fun b e2 h=>AI h fun q hq h=>Iv h fun hz h=>k3 (Nat.eq_of_beq_eq_true e) b (e2▸e1) q hq hz.2 h) fun _ h=>Ae h
theorem MO {m n:Nat} {l vs:List AV} {r:AV×St} (h:IN m n l vs σ=some r):m=Dm∨m=Fv∨m=ER:=MP h (fun e _ _ _ _=>.inl e) (fun e _ _ _ _ _=>.inr (.inl e)) fun e _ _ _ _ _ _=>.inr (.inr e)
theorem OH {a:Nat} {l:List (Int×AV)} {k:Int} {d:Option AV} {r:AV×St} (h:MC a l σ k d (Ao k l)=some r) (k1:∀ y,Ao k l=some y→some (y,σ.set a (.dI (DV k l)))=some r→P) (k2:∀ d',Ao k l=none→d=some d'→some (d',σ)=some r→P):P:=by
 generalize Ao k l=o at h k1 k2
 induction o using Option.casesOn with
 | none=>exact BL h fun d' e h=>k2 d' rfl e (congrArg some h)
 | some y=>exact k1 y rfl h
theorem MQ {m n:Nat} {l:List (Int×AV)} {vs:List AV} {r:AV×St} (h:IO m n l vs σ=some r) (k1:m=HL→∀ i,vs=[.int i]→some ((Ao i l).getD .none,σ)=some r→P) (k2:m=HL→∀ i d,vs=[.int i,d]→some ((Ao i l).getD d,σ)=some r→P)
  (k3:m=Fv→∀ i y,(vs=[.int i]∨∃ d,vs=[.int i,d])→l.length≤AX→Ao i l=some y→some (y,σ.set n (.dI (DV i l)))=some r→P) (k4:m=Fv→∀ i d,vs=[.int i,d]→Ao i l=none→some (d,σ)=some r→P):P:=
 GH h (fun e h=>PO h (k1 (Nat.eq_of_beq_eq_true e)) (k2 (Nat.eq_of_beq_eq_true e))) fun _ h=>GH h (fun e h=>PO h (fun i e1 h=>Iv h fun hz h=>OH h (fun y h1 h=>k3 (Nat.eq_of_beq_eq_true e) i y (.inl e1) hz h1 h) fun _ _ e _=>Ae e)
  fun i d e1 h=>Iv h fun hz h=>OH h (fun y h1 h=>k3 (Nat.eq_of_beq_eq_true e) i y (.inr ⟨d,e1⟩) hz h1 h) fun d' h1 e2 h=>k4 (Nat.eq_of_beq_eq_true e) i d e1 h1 (oQ e2▸h)) fun _ h=>Ae h
theorem RI {m n:Nat} {l:List (Int×AV)} {vs:List AV} {r:AV×St} (h:IO m n l vs σ=some r):m=Fv∨m=HL:=MQ h (fun e _ _ _=>.inr e) (fun e _ _ _ _=>.inr e) (fun e _ _ _ _ _ _=>.inl e) fun e _ _ _ _ _=>.inl e
end
end Mine
end
namespace Mine
open PySem PySem.W PyProof.Rows PySem.Calls
section
noncomputable abbrev A5:=List (Addr×Addr)
noncomputable abbrev AS (s:Shared) (h:Heap) (t:Nat):Shared:={ s with heap:=h,toks:=t }
noncomputable def CB (h h':Heap):Prop:=∀ b o,h.get? b=some o→h'.get? b=some o
theorem ltne {a b:Nat} (h:a < b∨b < a):a≠b:=h.elim Nat.ne_of_lt Nat.ne_of_gt
mutual
inductive VR (base h:Heap) (μ:A5):Value→AV→Prop
 | none:VR base h μ .none .none
 | bool (b:Bool):VR base h μ (.bool b) (.bool b)
 | int (i:Int) (t:Tok):VR base h μ (.int i t) (.int i)
 | str (s:Str) (t:Tok) (n:Nat):code s=some n→VR base h μ (.str s t) (.str n)
 | tup (a:Addr) (vs:List Value) (l:List AV):IsTup h a vs.toArray→VRs base h μ vs l→VR base h μ (.ref a) (.tup l)
 | loc (n:Nat) (p:Addr×Addr):μ[n]?=some p→VR base h μ (.ref p.1) (.loc n)
 | glist (a:Addr) (vs:List Value) (ns:List Int):base.IsList a vs.toArray→IntsAre vs ns→VR base h μ (.ref a) (.glist ns)
 | range (a:Addr) (n:Int) (t u v:Tok):IsRange h a 0 n 1 t u v→0≤n∧n < 2 ^ 31→VR base h μ (.ref a) (.range n)
inductive VRs (base h:Heap) (μ:A5):List Value→List AV→Prop
 | nil:VRs base h μ [] []
 | cons (v:Value) (x:AV) (vs:List Value) (l:List AV):VR base h μ v x→VRs base h μ vs l→VRs base h μ (v::vs) (x::l)
end
noncomputable def Vl (o:Obj):Prop:=(o.cls=.type "tuple"∧∃ a n,o.data=.seq a n)∨(o.cls=.type "range"∧∃ v,o.data=.fields v)
noncomputable def Kp (h h':Heap):Prop:=∀ a o,h.get? a=some o→Vl o→h'.get? a=some o
theorem Kp.of_cls {h h':Heap} (k:∀ a o,h.get? a=some o→(o.cls=.type "tuple"∨o.cls=.type "range")→h'.get? a=some o):Kp h h':=fun a o e v=>k a o e (v.imp (·.1) (·.1))
theorem Kp.refl (h:Heap):Kp h h:=fun _ _ e _=>e
theorem Kp.of_all {h h':Heap} (k:CB h h'):Kp h h':=fun b o e _=>k b o e
section
variable {base h h':Heap} {μ ν:A5}
theorem IsTup.mono (k:Kp h h') {a:Addr} {vs:Array Value} (t:IsTup h a vs):IsTup h' a vs:=let ⟨o,ho,hc,n,hd⟩:=t;⟨o,k a o ho (.inl ⟨hc,_,n,hd⟩),hc,n,hd⟩
theorem Pz {n:Nat} {p:Addr×Addr} (e:μ[n]?=some p):(μ++ν)[n]?=some p:=by rw [List.getElem?_append_left (List.getElem?_eq_some_iff.mp e).1];exact e
theorem VR.mono (k:Kp h h') {v:Value} {x:AV} (r:VR base h μ v x):VR base h' (μ++ν) v x:=
 VR.rec (motive_1:=fun v x _=>VR base h' (μ++ν) v x) (motive_2:=fun vs l _=>VRs base h' (μ++ν) vs l) .none .bool .int .str (fun a vs l t _ ih=>.tup a vs l (IsTup.mono k t) ih) (fun n p e=>.loc n p (Pz e)) .glist
  (fun a n t u v e hn=>.range a n t u v (k a _ e (.inr ⟨rfl,_,rfl⟩)) hn) .nil (fun v x vs l _ _ e r=>.cons v x vs l e r) r
theorem VRs.mono (k:Kp h h') {vs:List Value} {l:List AV} (r:VRs base h μ vs l):VRs base h' (μ++ν) vs l:=
 VRs.rec (motive_1:=fun _ _ _=>True) (motive_2:=fun vs l _=>VRs base h' (μ++ν) vs l) trivial (fun _=>trivial) (fun _ _=>trivial) (fun _ _ _ _=>trivial) (fun _ _ _ _ _ _=>trivial) (fun _ _ _=>trivial) (fun _ _ _ _ _=>trivial)
  (fun _ _ _ _ _ _ _=>trivial) .nil (fun v x vs l e _ _ r=>.cons v x vs l (e.mono k) r) r
noncomputable def VRx (base h:Heap) (μ:A5) (v:Value) (x:AV):Prop:=match x with
 | .none=>v=.none
 | .bool b=>v=.bool b
 | .int i=>∃ t,v=.int i t
 | .str n=>∃ s t,v=.str s t∧code s=some n
 | .tup l=>∃ a vs,v=.ref a∧IsTup h a vs.toArray∧VRs base h μ vs l
 | .loc n=>∃ p,v=.ref p.1∧μ[n]?=some p
 | .glist ns=>∃ a vs,v=.ref a∧base.IsList a vs.toArray∧IntsAre vs ns
 | .range n=>∃ a t u v',v=.ref a∧IsRange h a 0 n 1 t u v'∧0≤n∧n < 2 ^ 31
theorem VR.x {v:Value} {x:AV} (r:VR base h μ v x):VRx base h μ v x:=by
 induction r using VR.casesOn with
 | none=>exact rfl
 | bool b=>exact rfl
 | int i t=>exact ⟨t,rfl⟩
 | str s t n e=>exact ⟨s,t,rfl,e⟩
 | tup a vs l t r=>exact ⟨a,vs,rfl,t,r⟩
 | loc n p e=>exact ⟨p,rfl,e⟩
 | glist a vs ns t r=>exact ⟨a,vs,rfl,t,r⟩
 | range a n t u v e hn=>exact ⟨a,t,u,v,rfl,e,hn⟩
inductive RefIs (base h:Heap) (μ:A5) (a:Addr):AV→Prop
 | tup (vs:List Value) (l:List AV):IsTup h a vs.toArray→VRs base h μ vs l→RefIs base h μ a (.tup l)
 | loc (n:Nat) (p:Addr×Addr):a=p.1→μ[n]?=some p→RefIs base h μ a (.loc n)
 | glist (vs:List Value) (ns:List Int):base.IsList a vs.toArray→IntsAre vs ns→RefIs base h μ a (.glist ns)
 | range (n:Int) (t u v:Tok):IsRange h a 0 n 1 t u v→RefIs base h μ a (.range n)
noncomputable def VRv (base h:Heap) (μ:A5) (x:AV) (v:Value):Prop:=match v with
 | .none=>x=.none
 | .bool b=>x=.bool b
 | .int i _=>x=.int i
 | .str s _=>∃ n,x=.str n∧code s=some n
 | .ref a=>RefIs base h μ a x
 | _=>False
theorem VR.v {v:Value} {x:AV} (r:VR base h μ v x):VRv base h μ x v:=by
 induction r using VR.casesOn with
 | none=>exact rfl
 | bool b=>exact rfl
 | int i t=>exact rfl
 | str s t n e=>exact ⟨n,rfl,e⟩
 | tup a vs l t r=>exact .tup vs l t r
 | loc n p e=>exact .loc n p rfl e
 | glist a vs ns t r=>exact .glist vs ns t r
 | range a n t u v e hn=>exact .range n t u v e
noncomputable def VRsv (base h:Heap) (μ:A5) (l:List AV):List Value→Prop
 | []=>l=[]
 | v::vs=>∃ x r,l=x::r∧VR base h μ v x∧VRs base h μ vs r
theorem VRs.v {vs:List Value} {l:List AV} (r:VRs base h μ vs l):VRsv base h μ l vs:=by
 induction r using VRs.casesOn with
 | nil=>exact rfl
 | cons v x vs l e r=>exact ⟨x,l,rfl,e,r⟩
theorem VR.keep (k:Kp h h') {v:Value} {x:AV} (r:VR base h μ v x):VR base h' μ v x:=List.append_nil μ▸VR.mono (ν:=[]) k r
theorem VRs.keep (k:Kp h h') {v:List Value} {x:List AV} (r:VRs base h μ v x):VRs base h' μ v x:=List.append_nil μ▸VRs.mono (ν:=[]) k r
theorem VR.more {v:Value} {x:AV} (r:VR base h μ v x):VR base h (μ++ν) v x:=VR.mono (Kp.refl h) r
theorem VRs.more' {v:List Value} {x:List AV} (r:VRs base h μ v x):VRs base h (μ++ν) v x:=VRs.mono (Kp.refl h) r
theorem VRs.length {vs:List Value} {l:List AV} (r:VRs base h μ vs l):vs.length=l.length:=by
 induction vs generalizing l with
 | nil=>obtain rfl:=r.v;rfl
 | cons v vs ih=>obtain ⟨x,m,rfl,_,r⟩:=r.v;exact congrArg Nat.succ (ih r)
theorem VRs.get {vs:List Value} {l:List AV} (r:VRs base h μ vs l) {i:Nat} {x:AV} (e:l[i]?=some x):∃ v,vs[i]?=some v∧VR base h μ v x:=by
 induction vs generalizing l i with
 | nil=>obtain rfl:=r.v;exact Ae e
 | cons v vs ih=>
  obtain ⟨y,m,rfl,e1,r⟩:=r.v
  induction i using Nat.casesOn with
  | zero=>obtain rfl:=oQ e;exact ⟨v,rfl,e1⟩
  | succ i=>exact ih r e
theorem VRs.append {vs us:List Value} {l m:List AV} (r:VRs base h μ vs l) (q:VRs base h μ us m):VRs base h μ (vs++us) (l++m):=by
 induction vs generalizing l with
 | nil=>obtain rfl:=r.v;exact q
 | cons v vs ih=>obtain ⟨x,l,rfl,e,r⟩:=r.v;exact .cons _ _ _ _ e (ih r)
theorem VRs.one {v:Value} {x:AV} (e:VR base h μ v x):VRs base h μ [v] [x]:=.cons _ _ _ _ e .nil
theorem VRs.take {vs:List Value} {l:List AV} (r:VRs base h μ vs l) (n:Nat):VRs base h μ (vs.take n) (l.take n):=by
 induction n generalizing vs l with
 | zero=>rw [List.take_zero,List.take_zero];exact .nil
 | succ n ih=>induction vs using List.casesOn with
  | nil=>obtain rfl:=r.v;exact .nil
  | cons v vs=>obtain ⟨x,l,rfl,e,r⟩:=r.v;exact .cons _ _ _ _ e (ih r)
theorem VRs.drop {vs:List Value} {l:List AV} (r:VRs base h μ vs l) (n:Nat):VRs base h μ (vs.drop n) (l.drop n):=by
 induction n generalizing vs l with
 | zero=>exact r
 | succ n ih=>induction vs using List.casesOn with
  | nil=>obtain rfl:=r.v;exact .nil
  | cons v vs=>obtain ⟨x,l,rfl,e,r⟩:=r.v;exact ih r
theorem VRs.set {vs:List Value} {l:List AV} (r:VRs base h μ vs l) (n:Nat) {v:Value} {x:AV} (e:VR base h μ v x):VRs base h μ (vs.set n v) (l.set n x):=by
 induction n generalizing vs l with
 | zero=>induction vs using List.casesOn with
  | nil=>obtain rfl:=r.v;exact .nil
  | cons v vs=>obtain ⟨x,l,rfl,e',r⟩:=r.v;exact .cons _ _ _ _ e r
 | succ n ih=>induction vs using List.casesOn with
  | nil=>obtain rfl:=r.v;exact .nil
  | cons v vs=>obtain ⟨x,l,rfl,e',r⟩:=r.v;exact .cons _ _ _ _ e' (ih r)
end
inductive PRI (base h:Heap) (μ:A5):List (Int×Value)→List (Int×AV)→Prop
 | nil:PRI base h μ [] []
 | cons (k:Int) (v:Value) (x:AV) (r:List (Int×Value)) (l:List (Int×AV)):VR base h μ v x→PRI base h μ r l→PRI base h μ ((k,v)::r) ((k,x)::l)
inductive PRS (base h:Heap) (μ:A5):List (Str×Value)→List (Nat×AV)→Prop
 | nil:PRS base h μ [] []
 | cons (s:Str) (n:Nat) (v:Value) (x:AV) (r:List (Str×Value)) (l:List (Nat×AV)):code s=some n→VR base h μ v x→PRS base h μ r l→PRS base h μ ((s,v)::r) ((n,x)::l)
section
variable {base h h':Heap} {μ ν:A5}
theorem PRI.mono (k:Kp h h') {r:List (Int×Value)} {l:List (Int×AV)} (p:PRI base h μ r l):PRI base h' (μ++ν) r l:=by
 induction p with
 | nil=>exact .nil
 | cons n v x r l e _ ih=>exact .cons n v x r l (e.mono k) ih
theorem PRS.mono (k:Kp h h') {r:List (Str×Value)} {l:List (Nat×AV)} (p:PRS base h μ r l):PRS base h' (μ++ν) r l:=by
 induction p with
 | nil=>exact .nil
 | cons s n v x r l c e _ ih=>exact .cons s n v x r l c (e.mono k) ih
theorem PRI.keep (k:Kp h h') {r:List (Int×Value)} {l:List (Int×AV)} (p:PRI base h μ r l):PRI base h' μ r l:=List.append_nil μ▸PRI.mono (ν:=[]) k p
theorem PRI.length {r:List (Int×Value)} {l:List (Int×AV)} (p:PRI base h μ r l):r.length=l.length:=by
 induction p with
 | nil=>rfl
 | cons _ _ _ _ _ _ _ ih=>exact congrArg Nat.succ ih
theorem PRI.keys {r:List (Int×Value)} {l:List (Int×AV)} (p:PRI base h μ r l):r.map (·.1)=l.map (·.1):=by
 induction p with
 | nil=>rfl
 | cons _ _ _ _ _ _ _ ih=>exact congrArg (List.cons _) ih
section
variable {K:Type} [DecidableEq K] {k n:K} {u v:Value} {r:List (K×Value)}
theorem Hg:valueAt ((k,v)::r) k=some v:=by simp [valueAt]
theorem Hf (h:n≠k):valueAt ((n,v)::r) k=valueAt r k:=by simp [valueAt,List.find?_cons,h]
theorem Ge (h:k∉r.map (·.1)):stored ((k,u)::r) k v=(k,v)::r:=by
 simp only [stored,List.any_cons,decide_true,Bool.true_or,if_true,List.map_cons]
 rw [map_store_of_not_mem r k v h]
theorem Gd (h:n≠k):stored ((n,u)::r) k v=(n,u)::stored r k v:=by
 simp only [stored,List.any_cons,decide_eq_false h,Bool.false_or,List.map_cons,if_neg h]
 exact (apply_ite (List.cons (n,u)) _ _ _).symm
end
theorem PRI.look {r:List (Int×Value)} {l:List (Int×AV)} (p:PRI base h μ r l) (k:Int) :
  (Ao k l=none∧valueAt r k=none)∨∃ x v,Ao k l=some x∧valueAt r k=some v∧VR base h μ v x:=by
 induction p with
 | nil=>exact .inl ⟨rfl,rfl⟩
 | cons n v x r l e _ ih=>
  by_cases hk:k=n
  ·subst hk;exact .inr ⟨x,v,if_pos rfl,Hg,e⟩
  ·rw [show Ao k ((n,x)::l)=Ao k l from if_neg hk,Hf (Ne.symm hk)];exact ih
theorem PRI.put {r:List (Int×Value)} {l:List (Int×AV)} (p:PRI base h μ r l) (hn:(r.map (·.1)).Nodup) (k:Int) {v:Value} {x:AV} (e:VR base h μ v x):PRI base h μ (stored r k v) (Br k x l):=by
 induction p with
 | nil=>exact PRI.cons k v x [] [] e .nil
 | cons n u y r l e1 p1 ih=>
  have hn:=List.nodup_cons.mp hn
  by_cases hk:k=n
  ·subst hk
   rw [Ge hn.1,show Br k x ((k,y)::l)=_ from if_pos rfl]
   exact .cons _ _ _ _ _ e p1
  ·rw [Gd (Ne.symm hk),show Br k x ((n,y)::l)=_ from if_neg hk]
   exact .cons _ _ _ _ _ e1 (ih hn.2)
theorem PRI.del {r:List (Int×Value)} {l:List (Int×AV)} (p:PRI base h μ r l) (hn:(r.map (·.1)).Nodup) (k:Int):PRI base h μ (without r k) (DV k l):=by
 induction p with
 | nil=>exact .nil
 | cons n u y r l e1 p1 ih=>
  have hn:=List.nodup_cons.mp hn
  by_cases hk:k=n
  ·subst hk
   rw [show without ((k,u)::r) k=without r k from List.filter_cons_of_neg (by simp),without_of_not_mem r k hn.1,show DV k ((k,y)::l)=_ from if_pos rfl]
   exact p1
  ·rw [show without ((n,u)::r) k=(n,u)::without r k from List.filter_cons_of_pos (by simpa using Ne.symm hk),show DV k ((n,y)::l)=_ from if_neg hk]
   exact .cons _ _ _ _ _ e1 (ih hn.2)
theorem PRI.get {r:List (Int×Value)} {l:List (Int×AV)} (p:PRI base h μ r l):∀ {i:Nat} {k:Int} {x:AV},l[i]?=some (k,x)→∃ v,r[i]?=some (k,v)∧VR base h μ v x:=by
 induction p with
 | nil=>exact fun e=>Ae e
 | cons n v y r l e1 _ ih=>
  intro i
  induction i using Nat.casesOn with
  | zero=>exact fun e=>Bf e fun a b=>⟨v,a▸rfl,b▸e1⟩
  | succ i=>exact ih
theorem Uz:∀ {a b:List Nat},eqL a b=true→a=b:=by
 intro a
 induction a with
 | nil=>intro b hb;induction b using List.casesOn with
  | nil=>rfl
  | cons _ _=>exact absurd hb bQ
 | cons x a ih=>intro b hb;induction b using List.casesOn with
  | nil=>exact absurd hb bQ
  | cons y b=>rw [Nat.eq_of_beq_eq_true (Ay hb),ih (AA hb)]
theorem Mg {t:Str} {n:Nat} {P:Prop} (h:code t=some n) (k:∀ y,TR[n]?=some y→t.cps.toList=(Str.ofString y).cps.toList→P):P:=
 AI h fun i _ h=>AI h fun y hy h=>BF h fun he h=>k y (oQ h▸hy) (Uz he)
theorem Bo {s s':Str} {n:Nat} (h:code s=some n) (h':code s'=some n):s=s':=
 Mg h fun y hy e=>Mg h' fun y' hy' e'=>by
  obtain rfl:=oQ (hy.symm.trans hy')
  have e:=Array.toList_inj.mp (e.trans e'.symm)
  obtain ⟨c⟩:=s
  obtain ⟨c'⟩:=s'
  exact congrArg Str.mk e
theorem PRS.look {r:List (Str×Value)} {l:List (Nat×AV)} (p:PRS base h μ r l) {n:Nat} {x:AV} (e:look n l=some x) :
  ∀ s,code s=some n→∃ v,valueAt r s=some v∧VR base h μ v x:=by
 intro s hs
 induction p with
 | nil=>exact Ae e
 | cons s' m v y r l c e1 _ ih=>
  by_cases hm:n=m
  ·subst hm
   rw [show Mine.look n ((n,y)::l)=_ from if_pos rfl] at e
   obtain rfl:=Bo hs c
   exact ⟨v,Hg,oQ e▸e1⟩
  ·rw [show Mine.look n ((m,y)::l)=_ from if_neg hm] at e
   rw [Hf fun x:s'=s=>hm (oQ (hs.symm.trans ((congrArg code x).symm.trans c)))]
   exact ih e
end
noncomputable abbrev BQ:=Nat→Option Addr
noncomputable def FR (base h:Heap) (μ:A5) (m:Str→Option Value) (l:List (Nat×AV)):Prop:=
 ∀ name f,code name=some f→match look f l with
  | none=>m name=none
  | some x=>∃ v,m name=some v∧VR base h μ v x
inductive OR (p:Program) (w:World) (C:BQ) (base h:Heap) (μ:A5):Addr×Addr→AO→Prop
 | list (a:Addr) (vs:List Value) (l:List AV):h.PlainList a vs.toArray→VRs base h μ vs l→OR p w C base h μ (a,a) (.list l)
 | dI (a:Addr) (r:List (Int×Value)) (l:List (Int×AV)):h.DictOf (intKind p w) a r→PRI base h μ r l→OR p w C base h μ (a,a) (.dI l)
 | dS (a:Addr) (r:List (Str×Value)) (l:List (Nat×AV)):h.DictOf (strKind p w) a r→PRS base h μ r l→OR p w C base h μ (a,a) (.dS l)
 | inst (a b:Addr) (c:Nat) (ca:Addr) (es:List DictEntry) (n:Nat) (m:Str→Option Value) (l:List (Nat×AV)):C c=some ca→h.get? a=some (instObj ca b)→h.get? b=some (dictOf es n)→StrKeys es.toArray →
   (∀ name,nsFind es.toArray name=m name)→es.length≤l.length→FR base h μ m l→OR p w C base h μ (a,b) (.inst c l)
noncomputable def ORx (p:Program) (w:World) (C:BQ) (base h:Heap) (μ:A5) (q:Addr×Addr) (o:AO):Prop:=match o with
 | .list l=>∃ a vs,q=(a,a)∧h.PlainList a vs.toArray∧VRs base h μ vs l
 | .dI l=>∃ a r,q=(a,a)∧h.DictOf (intKind p w) a r∧PRI base h μ r l
 | .dS l=>∃ a r,q=(a,a)∧h.DictOf (strKind p w) a r∧PRS base h μ r l
 | .inst c l=>∃ a b,q=(a,b)∧OR p w C base h μ (a,b) (.inst c l)
theorem OR.x {p:Program} {w:World} {C:BQ} {base h:Heap} {μ:A5} {q:Addr×Addr} {o:AO} (r:OR p w C base h μ q o):ORx p w C base h μ q o:=by
 induction r using OR.casesOn with
 | list a vs l hp hr=>exact ⟨a,vs,rfl,hp,hr⟩
 | dI a r l hp hr=>exact ⟨a,r,rfl,hp,hr⟩
 | dS a r l hp hr=>exact ⟨a,r,rfl,hp,hr⟩
 | inst a b c ca es n m l h1 h2 h3 h4 h5 h6 h7=>exact ⟨a,b,rfl,.inst a b c ca es n m l h1 h2 h3 h4 h5 h6 h7⟩
structure Inv (p:Program) (w:World) (C:BQ) (base:Heap) (μ:A5) (h:Heap) (σ:St):Prop where
 keep:∀ b o,base.get? b=some o→h.get? b=some o
 len:μ.length=σ.length
 obj:∀ (n:Nat) (q:Addr×Addr) (o:AO),μ[n]?=some q→σ[n]?=some o→OR p w C base h μ q o
 low:∀ q∈μ,base.objs.size≤q.1∧base.objs.size≤q.2
 apart:∀ (i j:Nat) (q r:Addr×Addr),μ[i]?=some q→μ[j]?=some r→i≠j→q.1≠r.1∧q.1≠r.2∧q.2≠r.1∧q.2≠r.2
noncomputable def Off (μ:A5) (b:Addr):Prop:=∀ q∈μ,b≠q.1∧b≠q.2
structure Stp (μ:A5) (h:Heap) (μ':A5) (h':Heap):Prop where
 more:∃ ν,μ'=μ++ν∧∀ q∈ν,∀ b,(b=q.1∨b=q.2)→Off μ b→h.get? b=none
 kept:∀ b o,h.get? b=some o→Off μ b→h'.get? b=some o
noncomputable def Tight (h:Heap):Prop:=h.objs.size=0∨∃ o,h.get? (h.objs.size - 1)=some o
theorem Tight.le {h h':Heap} (t:Tight h) (k:∀ b o,h.get? b=some o→h'.get? b=some o):h.objs.size≤h'.objs.size:=by
 rcases t with t | ⟨o,t⟩
 ·rw [t];exact Nat.zero_le _
 ·have h1:h.objs.size - 1 < h'.objs.size:=Heap.lt_size (k _ _ t)
  have h2:h.objs.size - 1 < h.objs.size:=Heap.lt_size t
  exact Nat.le_of_pred_lt h1
theorem A8 {h:Heap} {b:Addr} (x:h.objs.size≤b):h.get? b=none:=by
 generalize e:h.get? b=zz22
 induction zz22 using Option.casesOn with
 | none=>rfl
 | some o=>exact absurd (Heap.lt_size e) (Nat.not_lt.mpr x)
section
variable {p:Program} {w:World} {C:BQ} {base h h' h₁ h₂:Heap} {μ μ' μ1 μ2:A5} {σ σ':St}
theorem Off.step (S:Stp μ h μ' h') {b:Addr} {x:Obj} (ho:Off μ b) (hb:h.get? b=some x):Off μ' b:=by
 obtain ⟨ν,rfl,hν⟩:=S.more
 intro q hq
 rcases List.mem_append.mp hq with hq | hq
 ·exact ho q hq
 ·exact ⟨fun e=>by (rw [hν q hq b (.inl e) ho] at hb;(exact Ae hb)),fun e=>by (rw [hν q hq b (.inr e) ho] at hb;(exact Ae hb))⟩
theorem Stp.refl (μ:A5) (h:Heap):Stp μ h μ h:=⟨⟨[],(List.append_nil _).symm,nofun⟩,fun _ _ e _=>e⟩
theorem Stp.trans (x:Stp μ h μ1 h₁) (y:Stp μ1 h₁ μ2 h₂):Stp μ h μ2 h₂:=by
 have more:∃ ν,μ2=μ++ν∧∀ q∈ν,∀ b,(b=q.1∨b=q.2)→Off μ b→h.get? b=none:=by
  obtain ⟨ν,e1,hν⟩:=x.more
  obtain ⟨ξ,e2,hξ⟩:=y.more
  refine ⟨ν++ξ,by rw [e2,e1,List.append_assoc],fun q hq b hb off=>?_⟩
  rcases List.mem_append.mp hq with hq | hq
  ·exact hν q hq b hb off
  ·generalize e:h.get? b=zz25
   induction zz25 using Option.casesOn with
   | none=>rfl
   | some o=>
    have:=hξ q hq b hb (off.step x e)
    rw [x.kept b o e off] at this;cases this
 exact ⟨more,fun b o e off=>y.kept b o (x.kept b o e off) (off.step x e)⟩
noncomputable def JZ (c:Value):Prop:=c=.type "list"∨c=.type "dict"∨∃ a,c=.ref a
theorem OR.own {q:Addr×Addr} {o:AO} (r:OR p w C base h μ q o) {b:Addr} (hb:b=q.1∨b=q.2):∃ x,h.get? b=some x∧JZ x.cls:=by
 induction r using OR.casesOn with
 | list a vs l hp _=>obtain rfl:b=a:=hb.elim id id;obtain ⟨k,hp⟩:=hp;exact ⟨_,hp,.inl rfl⟩
 | dI a r l hp _=>obtain rfl:b=a:=hb.elim id id;obtain ⟨o',es,ep,ho,hc,_⟩:=hp;exact ⟨_,ho,.inr (.inl hc.1)⟩
 | dS a r l hp _=>obtain rfl:b=a:=hb.elim id id;obtain ⟨o',es,ep,ho,hc,_⟩:=hp;exact ⟨_,ho,.inr (.inl hc.1)⟩
 | inst a b' c ca es k m l _ h1 h2 _ _ _ _=>exact hb.elim (fun e=>⟨_,(congrArg h.get? e).trans h1,.inr (.inr ⟨_,rfl⟩)⟩) fun e=>⟨_,(congrArg h.get? e).trans h2,.inr (.inl rfl)⟩
theorem Inv.own (I:Inv p w C base μ h σ) {q:Addr×Addr} (hq:q∈μ) {b:Addr} (hb:b=q.1∨b=q.2):∃ x,h.get? b=some x∧JZ x.cls:=by
 obtain ⟨n,hn,hqn⟩:=List.getElem_of_mem hq
 exact (I.obj n q _ (hqn▸List.getElem?_eq_getElem hn) (List.getElem?_eq_getElem (I.len▸hn))).own hb
theorem Inv.off_cls (I:Inv p w C base μ h σ) {b:Addr} {o:Obj} (e:h.get? b=some o) (hc:¬ JZ o.cls):Off μ b:=fun q hq=>
 have no:¬ (b=q.1∨b=q.2):=fun hb=>(I.own hq hb).elim fun x hx=>hc (oQ (hx.1.symm.trans e)▸hx.2)
 ⟨fun x=>no (.inl x),fun x=>no (.inr x)⟩
theorem Inv.off_of (I:Inv p w C base μ h σ) {b:Addr} {o:Obj} (e:h.get? b=some o)
  (hl:o.cls≠.type "list") (hd:o.cls≠.type "dict") (hi:∀ c,o.cls≠.ref c):Off μ b:=I.off_cls e fun h=>h.elim hl fun h=>h.elim hd fun h=>h.elim hi
theorem RF {o:Obj} (hc:o.cls=.type "tuple"∨o.cls=.type "range"):¬ JZ o.cls:=fun h=>by
 rcases hc with hc | hc<;>(rw [hc] at h;exact h.elim (fun e=>absurd (Value.type.inj e) (by decide)) fun h=>h.elim (fun e=>absurd (Value.type.inj e) (by decide)) fun h=>h.elim fun _ e=>Value.noConfusion e)
theorem Inv.kp (I:Inv p w C base μ h σ) (S:Stp μ h μ' h'):Kp h h':=Kp.of_cls fun b o e hc=>S.kept b o e (I.off_cls e (RF hc))
theorem VR.step (I:Inv p w C base μ h σ) (S:Stp μ h μ' h') {v:Value} {x:AV} (r:VR base h μ v x):VR base h' μ' v x:=by
 obtain ⟨ν,rfl,_⟩:=S.more
 exact r.mono (I.kp S)
theorem VRs.step (I:Inv p w C base μ h σ) (S:Stp μ h μ' h') {v:List Value} {x:List AV} (r:VRs base h μ v x):VRs base h' μ' v x:=by
 obtain ⟨ν,rfl,_⟩:=S.more
 exact r.mono (I.kp S)
theorem Inv.lt (I:Inv p w C base μ h σ):∀ q∈μ,q.1 < h.objs.size∧q.2 < h.objs.size:=fun q hq=>
 ⟨(I.own hq (.inl rfl)).elim fun _ h=>Heap.lt_size h.1,(I.own hq (.inr rfl)).elim fun _ h=>Heap.lt_size h.1⟩
theorem Inv.fresh (I:Inv p w C base μ h σ) {b:Addr} (hb:h.objs.size≤b):Off μ b:=fun q hq=>by
 have:=I.lt q hq;exact ⟨Ne.symm (Nat.ne_of_lt (Nat.lt_of_lt_of_le this.1 hb)),Ne.symm (Nat.ne_of_lt (Nat.lt_of_lt_of_le this.2 hb))⟩
end
section
variable {p:Program} {w:World} {C:BQ} {base h h':Heap} {μ ν:A5}
theorem FR.mono (k:Kp h h') {m:Str→Option Value} {l:List (Nat×AV)} (r:FR base h μ m l):FR base h' (μ++ν) m l:=by
 intro name f hf
 have:=r name f hf
 generalize hl:look f l=zz35
 induction zz35 using Option.casesOn with
 | none=>rw [hl] at this;exact this
 | some x=>rw [hl] at this;obtain ⟨v,a,b⟩:=this;exact ⟨v,a,b.mono k⟩
theorem OR.mono {q:Addr×Addr} {o:AO} (k:Kp h h') (k1:∀ x,h.get? q.1=some x→h'.get? q.1=some x) (k2:∀ x,h.get? q.2=some x→h'.get? q.2=some x)
  (r:OR p w C base h μ q o):OR p w C base h' (μ++ν) q o:=by
 induction r using OR.casesOn with
 | list a vs l hp e=>exact .list a vs l (hp.at k1) (e.mono k)
 | dI a r l hp e=>exact .dI a r l (hp.at k1) (e.mono k)
 | dS a r l hp e=>exact .dS a r l (hp.at k1) (e.mono k)
 | inst a b c ca es n m l hc h1 h2 hk hm hz e=>exact .inst a b c ca es n m l hc (k1 _ h1) (k2 _ h2) hk hm hz (e.mono k)
end
section
variable {p:Program} {w:World} {C:BQ} {base h h':Heap} {μ:A5} {σ:St}
theorem Inv.grow (I:Inv p w C base μ h σ) (k:CB h h'):Inv p w C base μ h' σ where
 keep:=fun b o e=>k b o (I.keep b o e)
 len:=I.len
 obj:=fun n q o a b=>by
  have:=OR.mono (ν:=[]) (Kp.of_all k) (fun x e=>k _ x e) (fun x e=>k _ x e) (I.obj n q o a b)
  simpa using this
 low:=I.low
 apart:=I.apart
theorem Stp.grow (k:CB h h') (_hz:True):Stp μ h μ h':=⟨⟨[],(List.append_nil _).symm,nofun⟩,fun b o e _=>k b o e⟩
theorem Inv.offW (I:Inv p w C base μ h σ) {L:Addr} (hL:Off μ L) (hb:base.get? L=none) (k:∀ b o,b≠L→h.get? b=some o→h'.get? b=some o)
  (hk:∀ o,h.get? L=some o→¬ Vl o):Inv p w C base μ h' σ where
 keep:=fun b o e=>k b o (by rintro rfl;rw [hb] at e;(exact Ae e)) (I.keep b o e)
 len:=I.len
 obj:=fun n q o a b=>by
  have hq:q∈μ:=List.mem_of_getElem? a
  have:=OR.mono (ν:=[]) (h':=h') (fun c x e hc=>k c x (by rintro rfl;exact hk x e hc) e) (fun x e=>k _ x (Ne.symm (hL q hq).1) e) (fun x e=>k _ x (Ne.symm (hL q hq).2) e) (I.obj n q o a b)
  simpa using this
 low:=I.low
 apart:=I.apart
theorem DM {α:Type} {l:List α} {x y:α} {n:Nat} {P:Prop} (e:(l++[x])[n]?=some y) (k1:n < l.length→l[n]?=some y→P) (k2:n=l.length→y=x→P):P:=by
 rcases Nat.lt_or_ge n l.length with hn | hn
 ·exact k1 hn ((List.getElem?_append_left hn).symm.trans e)
 ·have e:=(List.getElem?_append_right hn).symm.trans e
  generalize hd:n - l.length=d at e
  induction d using Nat.casesOn with
  | zero=>exact k2 (Nat.le_antisymm (Nat.le_of_sub_eq_zero hd) hn) (oQ e).symm
  | succ d=>exact Ae e
theorem Inv.adoptQ (I:Inv p w C base μ h σ) {q:Addr×Addr} {o:AO} (f1:Off μ q.1) (f2:Off μ q.2) (b1:base.objs.size≤q.1) (b2:base.objs.size≤q.2) (r:OR p w C base h (μ++[q]) q o):Inv p w C base (μ++[q]) h (σ++[o]) where
 keep:=I.keep
 len:=by rw [List.length_append,List.length_append,I.len];rfl
 obj:=fun n q' o' a b=>DM a (fun ha a1=>DM b (fun _ b1=>OR.mono (Kp.refl h) (fun x e=>e) (fun x e=>e) (I.obj n q' o' a1 b1)) fun hb _=>absurd ha (hb▸I.len▸Nat.lt_irrefl _))
  fun ha a1=>DM b (fun hb _=>absurd hb (ha▸I.len▸Nat.lt_irrefl _)) fun _ b1=>by rw [a1,b1];exact r
 low:=fun q' hq'=>(List.mem_append.mp hq').elim (I.low q') fun h=>List.mem_singleton.mp h▸⟨b1,b2⟩
 apart:=fun i j q' r' a b hne=>DM a (fun _ a1=>DM b (fun _ b1=>I.apart i j q' r' a1 b1 hne) fun _ e=>by
   rw [e]
   exact ⟨Ne.symm (f1 q' (List.mem_of_getElem? a1)).1,Ne.symm (f2 q' (List.mem_of_getElem? a1)).1,Ne.symm (f1 q' (List.mem_of_getElem? a1)).2,Ne.symm (f2 q' (List.mem_of_getElem? a1)).2⟩)
  fun hi e=>DM b (fun _ b1=>by
   rw [e]
   exact ⟨(f1 r' (List.mem_of_getElem? b1)).1,(f1 r' (List.mem_of_getElem? b1)).2,(f2 r' (List.mem_of_getElem? b1)).1,(f2 r' (List.mem_of_getElem? b1)).2⟩) fun hj _=>absurd (hi.trans hj.symm) hne
theorem Inv.adopt (I:Inv p w C base μ h σ) {D:Addr} {ao:AO} (hoff:Off μ D) (hb:base.objs.size≤D) (r:OR p w C base h (μ++[(D,D)]) (D,D) ao):Inv p w C base (μ++[(D,D)]) h (σ++[ao]):=I.adoptQ hoff hoff hb hb r
theorem Inv.alloc (I:Inv p w C base μ h σ) {q:Addr×Addr} {o:AO} (k:CB h h') (h1:h.objs.size≤q.1) (h2:h.objs.size≤q.2) (hbz:base.objs.size≤h.objs.size)
  (r:OR p w C base h' (μ++[q]) q o):Inv p w C base (μ++[q]) h' (σ++[o]):=(I.grow k).adoptQ (I.fresh h1) (I.fresh h2) (Nat.le_trans hbz h1) (Nat.le_trans hbz h2) r
theorem Hu {D:Addr} (I:Inv p w C base μ h σ):(μ++[(D,D)])[σ.length]?=some (D,D):=by rw [←I.len,List.getElem?_append_right (Nat.le_refl _),Nat.sub_self];rfl
theorem Stp.alloc {q:Addr×Addr} (k:∀ b x,h.get? b=some x→h'.get? b=some x) (_hz:True) (h1:h.objs.size≤q.1) (h2:h.objs.size≤q.2):Stp μ h (μ++[q]) h':=
 ⟨⟨[q],rfl,fun r hr b hb _=>by
  rw [List.mem_singleton.mp hr] at hb
  rcases hb with rfl | rfl
  ·exact A8 h1
  ·exact A8 h2⟩,fun b o e _=>k b o e⟩
theorem Stp.adopt {μ0 μ':A5} {h₀:Heap} (S:Stp μ0 h₀ μ' h) {D:Addr} (hD:h₀.get? D=none):Stp μ0 h₀ (μ'++[(D,D)]) h:=
 ⟨S.more.elim fun ν hν=>⟨ν++[(D,D)],by rw [hν.1,List.append_assoc],fun q hq b hb off=>(List.mem_append.mp hq).elim (fun hq=>hν.2 q hq b hb off) fun hq=>by
  rw [List.mem_singleton.mp hq] at hb;exact hb.elim (fun e=>e▸hD) fun e=>e▸hD⟩,S.kept⟩
theorem Stp.after {μ0 μ':A5} {h₀:Heap} (S:Stp μ0 h₀ μ' h) {D:Addr} (k:∀ b o,b≠D→h.get? b=some o→h'.get? b=some o) (hD:h₀.get? D=none):Stp μ0 h₀ μ' h':=
 ⟨S.more,fun b o e off=>k b o (fun x=>Ae (hD.symm.trans (x▸e))) (S.kept b o e off)⟩
theorem Inv.write (I:Inv p w C base μ h σ) {n:Nat} {q:Addr×Addr} {o o':AO} {d:Addr} (hq:μ[n]?=some q) (ho:σ[n]?=some o) (hd:d=q.1∨d=q.2) (s:Heap.SameBut d h h')
  (hc:∀ x,h.get? d=some x→x.cls≠.type "tuple"∧x.cls≠.type "range") (r:OR p w C base h' μ q o'):Inv p w C base μ h' (σ.set n o'):=by
 have hqm:q∈μ:=List.mem_of_getElem? hq
 have hdl:base.objs.size≤d:=by rcases hd with rfl | rfl;exact (I.low q hqm).1;exact (I.low q hqm).2
 have k:∀ b x,b≠d→h.get? b=some x→h'.get? b=some x:=fun b x hb e=>s.extBut b x hb e
 have kp:Kp h h':=Kp.of_cls fun b x e hx=>k b x (by rintro rfl;exact hx.elim (hc x e).1 (hc x e).2) e
 refine ⟨fun b x e=>k b x (Nat.ne_of_lt (Nat.lt_of_lt_of_le (Heap.lt_size e) hdl)) (I.keep b x e),by simp [I.len],fun m q' o'' a b=>?_,I.low,I.apart⟩
 by_cases hm:n=m
 ·subst hm
  have hlt:n < σ.length:=(List.getElem?_eq_some_iff.mp ho).1
  rw [List.getElem?_set_self hlt] at b;cases b
  rw [hq] at a;obtain rfl:=oQ a
  exact r
 ·rw [List.getElem?_set_ne hm] at b
  have ap:=I.apart n m q q' hq a hm
  have:=OR.mono (ν:=[]) (h':=h') kp (fun x e=>k _ x (by rcases hd with rfl | rfl;exact Ne.symm ap.1;exact Ne.symm ap.2.2.1) e) (fun x e=>k _ x (by rcases hd with rfl | rfl;exact Ne.symm ap.2.1;exact Ne.symm ap.2.2.2) e) (I.obj m q' o'' a b)
  simpa using this
theorem Stp.write {n:Nat} {q:Addr×Addr} {d:Addr} (hq:μ[n]?=some q) (hd:d=q.1∨d=q.2) (s:Heap.SameBut d h h'):Stp μ h μ h':=
 ⟨⟨[],(List.append_nil _).symm,nofun⟩,fun b o e off=>s.extBut b o (by have:=off q (List.mem_of_getElem? hq);rcases hd with rfl | rfl;exact this.1;exact this.2) e⟩
end
end
section
structure Sta (p:Program) (w:World) (K:Frag) (base:Heap) (mg mb:Str→Option Value):Prop where
 kin:K.In base
 g:base.Ns mainGlobals mg
 b:base.Ns builtinsNs mb
 nolimit:base.NoLimit
 bi:∀ x:Str,x≠"__name__"→mb x=bootBuiltins x
 big:sysModules < base.objs.size
noncomputable def Ok (A:Around) (k:Nat):Prop:=A.handled=none∧A.depth+4*k+4 < recursionLimit∧A.units+16*k+200 < cLine
noncomputable def Res (p:Program) (w:World) (C:BQ) (base:Heap) (pu:Prop) (μ:A5) (s:Shared) (x:AV) (σ':St) (Q:Value→Shared→Prop):Prop:=
 ∀ v μ' h' t,Inv p w C base μ' h' σ'→Stp μ s.heap μ' h'→VR base h' μ' v x→(pu→CB s.heap h')→Q v (AS s h' t)
section
variable {p:Program} {w:World} {C:BQ} {base:Heap} {pu:Prop} {μ:A5} {s:Shared} {σ σ':St} {x:AV} {Q:Value→Shared→Prop} {A:Around} {E:Value→Shared→Prop}
theorem Res.same (I:Inv p w C base μ s.heap σ) (R:Res p w C base pu μ s x σ Q) {v:Value} (r:VR base s.heap μ v x) (t:Tok):Q v { s with toks:=t }:=
 R v μ s.heap t I (Stp.refl _ _) r fun _ _ _ e=>e
theorem Res.imp {pu':Prop} (h:pu'→pu) (R:Res p w C base pu' μ s x σ' Q):Res p w C base pu μ s x σ' Q→True:=fun _=>trivial
theorem Res.at (R:Res p w C base pu μ s x σ' Q) {y:AV} {τ:St} (e:some (y,τ)=some (x,σ')):Res p w C base pu μ s y τ Q:=by (obtain ⟨rfl,rfl⟩:=pQ (oQ e));exact R
theorem Aw (h:Heap) (o:Obj):∀ b x,h.get? b=some x→(h.push o).get? b=some x:=fun b x e=>Heap.get?_push_of_some o e
theorem NI (h:Heap) (o:Obj):h.objs.size≤(h.push o).objs.size:=by rw [Heap.size_push];exact Nat.le_succ _
theorem Inv.base_le (I:Inv p w C base μ s.heap σ) (hb:base.objs.size≤s.heap.objs.size):base.objs.size≤s.heap.objs.size:=hb
theorem newTuple_ (I:Inv p w C base μ s.heap σ) {vs:List Value} {l:List AV} (r:VRs base s.heap μ vs l) (hz:l.length≤sizeLine) (R:Res p w C base pu μ s (.tup l) σ Q) :
  wpAny (model p w) A (newTuple vs) Q E s:=by
 refine wpAny_newObj_type ?_ (by show vs.toArray.size≤sizeLine;rw [List.size_toArray,r.length];exact hz)
 exact R _ μ _ _ (I.grow (Aw _ _)) (Stp.grow (Aw _ _) trivial) (.tup _ vs l (IsTup.new _ _) (r.keep (Kp.of_all (Aw _ _)))) fun _=>Aw _ _
theorem newList_ (I:Inv p w C base μ s.heap σ) (hb:base.objs.size≤s.heap.objs.size) {vs:List Value} {l:List AV} (r:VRs base s.heap μ vs l) (hz:l.length≤sizeLine) (R:Res p w C base pu μ s (.loc σ.length) (σ++[.list l]) Q) :
  wpAny (model p w) A (newList vs) Q E s:=by
 refine wpAny_newObj_type ?_ (by show vs.toArray.size≤sizeLine;rw [List.size_toArray,r.length];exact hz)
 have k:=Aw s.heap { cls:=.type "list",data:=.seq vs.toArray }
 refine R _ (μ++[(s.heap.objs.size,s.heap.objs.size)]) _ _ (I.alloc k (Nat.le_refl _) (Nat.le_refl _) hb ?_) (Stp.alloc k trivial (Nat.le_refl _) (Nat.le_refl _)) ?_ fun _=>k
 ·exact .list _ vs l ⟨_,Heap.get?_push_size _ rfl⟩ (r.mono (Kp.of_all k))
 ·refine .loc σ.length (s.heap.objs.size,s.heap.objs.size) ?_
  rw [←I.len];simp
theorem Inv.locList (I:Inv p w C base μ s.heap σ) {n:Nat} {l:List AV} (e:σ[n]?=some (.list l)) {v:Value} (r:VR base s.heap μ v (.loc n)) :
  ∃ a vs,v=.ref a∧μ[n]?=some (a,a)∧s.heap.PlainList a vs.toArray∧VRs base s.heap μ vs l:=by
 obtain ⟨q,rfl,hq⟩:=r.x
 obtain ⟨a,vs,rfl,hp,hr⟩:=(I.obj n q _ hq e).x
 exact ⟨a,vs,rfl,hq,hp,hr⟩
theorem Inv.locI (I:Inv p w C base μ s.heap σ) {n:Nat} {l:List (Int×AV)} (e:σ[n]?=some (.dI l)) {v:Value} (r:VR base s.heap μ v (.loc n)) :
  ∃ a kv,v=.ref a∧μ[n]?=some (a,a)∧s.heap.DictOf (intKind p w) a kv∧PRI base s.heap μ kv l:=by
 obtain ⟨q,rfl,hq⟩:=r.x
 obtain ⟨a,vs,rfl,hp,hr⟩:=(I.obj n q _ hq e).x
 exact ⟨a,vs,rfl,hq,hp,hr⟩
theorem Inv.locS (I:Inv p w C base μ s.heap σ) {n:Nat} {l:List (Nat×AV)} (e:σ[n]?=some (.dS l)) {v:Value} (r:VR base s.heap μ v (.loc n)) :
  ∃ a kv,v=.ref a∧μ[n]?=some (a,a)∧s.heap.DictOf (strKind p w) a kv∧PRS base s.heap μ kv l:=by
 obtain ⟨q,rfl,hq⟩:=r.x
 obtain ⟨a,vs,rfl,hp,hr⟩:=(I.obj n q _ hq e).x
 exact ⟨a,vs,rfl,hq,hp,hr⟩
theorem Inv.notSys (I:Inv p w C base μ s.heap σ) (hb:sysModules < base.objs.size) {n:Nat} {q:Addr×Addr} (hq:μ[n]?=some q):(q.1==sysModules)=false:=by
 have:=(I.low q (List.mem_of_getElem? hq)).1
 exact beq_eq_false_iff_ne.mpr (Ne.symm (Nat.ne_of_lt (Nat.lt_of_lt_of_le hb this)))
theorem Inv.size (I:Inv p w C base μ s.heap σ) (T:base.NoLimit):True:=trivial
theorem AZ:AX≤sizeLine:=by rw [sizeLine_eq];decide
theorem no_some {α:Type} {a:α} {G:Prop} (h:none=some a):G:=nomatch h
theorem A7 {α:Type} {c:Prop} [Decidable c] {a:Option α} {b:α} (h:(if c then a else none)=some b):c∧a=some b:=by
 by_cases hc:c
 ·rw [if_pos hc] at h;exact ⟨hc,h⟩
 ·rw [if_neg hc] at h;exact Ae h
theorem PQ {α:Type} {c:Prop} [Decidable c] {a:Option α} {b:α} (h:(if c then none else a)=some b):¬ c∧a=some b:=by
 by_cases hc:c
 ·rw [if_pos hc] at h;exact Ae h
 ·rw [if_neg hc] at h;exact ⟨hc,h⟩
theorem VR.isInt {v:Value} {i:Int} (r:VR base s.heap μ v (.int i)):∃ t,v=.int i t:=r.x
theorem VR.isTup {v:Value} {l:List AV} (r:VR base s.heap μ v (.tup l)):∃ a vs,v=.ref a∧IsTup s.heap a vs.toArray∧VRs base s.heap μ vs l:=r.x
theorem Ex {o:Option AO} {l:List AV} (h:CT o=some l):o=some (.list l):=by
 induction o using Option.casesOn with
 | none=>exact Ae h
 | some o=>cases o with
  | list l'=>exact congrArg (fun l=>some (AO.list l)) (oQ h)
  | _=>exact Ae h
theorem MZ {α:Type} {x y:AV} {f:Int→Int→Option α} {z:α} (h:EA x y f=some z) {G:Prop} (q:∀ i j,x=.int i→y=.int j→f i j=some z→G):G:=by
 induction x using AV.casesOn with
 | int i=>induction y using AV.casesOn with
  | int j=>exact q i j rfl rfl h
  | _=>exact Ae h
 | _=>exact Ae h
theorem Gb {op:Operator} {a b:Value} {x y z:AV} (ra:VR base s.heap μ a x) (rb:VR base s.heap μ b y) {f:Int→Int→Option (AV×St)} (h:EA x y f=some (z,σ')) (R:Res p w C base False μ s z σ' Q)
  (q:∀ i t j u z σ',f i j=some (z,σ')→Res p w C base False μ s z σ' Q→wpAny (model p w) A (binaryOp op (.int i t) (.int j u)) Q E s):wpAny (model p w) A (binaryOp op a b) Q E s:=
 MZ h fun i j e1 e2 hz=>(e1▸ra).isInt.elim fun t et=>(e2▸rb).isInt.elim fun u eu=>et▸eu▸q i t j u z σ' hz R
theorem S1 (I:Inv p w C base μ s.heap σ) {a b:Value} {l m:List AV} (ra:VR base s.heap μ a (.tup l)) (rb:VR base s.heap μ b (.tup m)) (h:l.length+m.length≤AX)
  (R:Res p w C base False μ s (.tup (l++m)) σ Q):wpAny (model p w) A (binaryOp .Add a b) Q E s:=by
 obtain ⟨a,vs,rfl,ta,va⟩:=ra.isTup
 obtain ⟨b,us,rfl,tb,vb⟩:=rb.isTup
 obtain ⟨⟨c1,d1,t1,s1⟩,ho,hc,n,hd⟩:=id ta
 obtain ⟨⟨c2,d2,t2,s2⟩,ho2,hc2,n2,hd2⟩:=id tb
 simp only at hc hd hc2 hd2
 subst hc hd hc2 hd2
 have hz:vs.toArray.size+us.toArray.size≤sizeLine:=by rw [List.size_toArray,List.size_toArray,va.length,vb.length];exact Nat.le_trans h AZ
 by_cases h1:vs=[]
 ·subst h1;cases va
  exact concat_meets ⟨_,ho,rfl⟩ ⟨_,ho2,rfl⟩ noFill_tuple_add seq_tuple_add PySem.F.slot_tuple_add PySem.F.entry_tuple_add (PySem.F.args_tuple_add_2 _ _)
   (tuple_addW0 a b _ _ n n2 d1 d2 s1 s2 (by simp)) ⟨ho,ho2,R.same I (.tup b us m tb vb) _⟩
 ·by_cases h2:us=[]
  ·subst h2;cases vb
   exact concat_meets ⟨_,ho,rfl⟩ ⟨_,ho2,rfl⟩ noFill_tuple_add seq_tuple_add PySem.F.slot_tuple_add PySem.F.entry_tuple_add (PySem.F.args_tuple_add_2 _ _)
    (tuple_addW1 a b _ _ n n2 d1 d2 s1 s2 (by simpa using h1) (by simp)) ⟨ho,ho2,R.same I (by rw [List.append_nil];exact .tup a vs l ta va) _⟩
  ·refine concat_meets ⟨_,ho,rfl⟩ ⟨_,ho2,rfl⟩ noFill_tuple_add seq_tuple_add PySem.F.slot_tuple_add PySem.F.entry_tuple_add (PySem.F.args_tuple_add_2 _ _)
    (tuple_addW2 a b _ _ n n2 d1 d2 s1 s2 (by simpa using h1) (by simpa using h2) hz) ⟨ho,ho2,?_⟩
   refine R _ μ _ _ (I.grow (Aw _ _)) (Stp.grow (Aw _ _) trivial) (.tup _ (vs++us) (l++m) ?_ ((va.append vb).keep (Kp.of_all (Aw _ _)))) fun f=>f.elim
   have:=IsTup.new s.heap (vs.toArray++us.toArray)
   rwa [List.append_toArray] at this ⊢
theorem MM (I:Inv p w C base μ s.heap σ) (hb:base.objs.size≤s.heap.objs.size) {vs:List Value} {l:List AV} (va:VRs base s.heap μ vs l) {o:Array Value} (ho:o=vs.toArray) {t:Tok}
  (R:Res p w C base False μ s (.loc σ.length) (σ++[.list l]) Q):Q (.ref s.heap.objs.size) { s with heap:=s.heap.push { cls:=.type "list",data:=.seq o },toks:=t }:=by
 subst ho
 have k:=Aw s.heap { cls:=.type "list",data:=.seq vs.toArray }
 refine R _ (μ++[(s.heap.objs.size,s.heap.objs.size)]) _ _ (I.alloc k (Nat.le_refl _) (Nat.le_refl _) hb (.list _ vs l ⟨0,Heap.get?_push_size _ rfl⟩ (va.mono (Kp.of_all k)))) (Stp.alloc k trivial (Nat.le_refl _) (Nat.le_refl _)) ?_ fun f=>f.elim
 refine .loc σ.length (s.heap.objs.size,s.heap.objs.size) ?_
 rw [←I.len,List.getElem?_append_right (Nat.le_refl _),Nat.sub_self];rfl
theorem QV (I:Inv p w C base μ s.heap σ) (hb:base.objs.size≤s.heap.objs.size) {a b:Value} {i j:Nat} {l m:List AV} (ra:VR base s.heap μ a (.loc i)) (rb:VR base s.heap μ b (.loc j)) (h1:σ[i]?=some (.list l)) (h2:σ[j]?=some (.list m)) (hz:l.length+m.length≤AX)
  (R:Res p w C base False μ s (.loc σ.length) (σ++[.list (l++m)]) Q):wpAny (model p w) A (binaryOp .Add a b) Q E s:=by
 obtain ⟨a,vs,rfl,_,⟨n,ha⟩,va⟩:=I.locList h1 ra
 obtain ⟨b,us,rfl,_,⟨n2,hb'⟩,vb⟩:=I.locList h2 rb
 exact concat_meets ⟨_,ha,rfl⟩ ⟨_,hb',rfl⟩ noFill_list_add seq_list_add PySem.F.slot_list_add PySem.F.entry_list_add (PySem.F.args_list_add_2 _ _)
  (list_addW a b vs.toArray us.toArray n n2 none none #[] #[] (by rw [List.size_toArray,List.size_toArray,va.length,vb.length];exact Nat.le_trans hz AZ)) ⟨ha,hb',MM I hb (va.append vb) (by simp) R⟩
theorem Ti {vs:List Value} {l:List AV} (va:VRs base s.heap μ vs l):∀ n:Nat,VRs base s.heap μ (List.replicate n vs).flatten (O4 l n)
 | 0=>.nil
 | n+1=>by rw [List.replicate_succ,List.flatten_cons];exact va.append (Ti va n)
theorem O3 (vs:List Value):∀ (n:Nat) (acc:Array Value),List.foldl (fun x1 x2=>x1++x2) acc (List.replicate n vs.toArray)=acc++(List.replicate n vs).flatten.toArray:=by
 intro n
 induction n with
 | zero=>intro acc;simp
 | succ n ih=>intro acc;simp [List.replicate_succ,ih]
theorem Rt (vs:List Value) (n:Nat):List.foldl (fun x1 x2=>x1++x2) #[] (List.replicate (if vs.toArray.isEmpty=true then 0 else n) vs.toArray)=((List.replicate n vs).flatten).toArray:=by
 rw [O3]
 by_cases hv:vs=[]
 ·subst hv;simp
 ·rw [if_neg (by simpa using hv)];simp
theorem S4 (I:Inv p w C base μ s.heap σ) (hb:base.objs.size≤s.heap.objs.size) {a b:Value} {i:Nat} {n:Int} {l:List AV} (ra:VR base s.heap μ a (.loc i)) (rb:VR base s.heap μ b (.int n)) (h1:σ[i]?=some (.list l)) (hz:0≤n∧n≤20∧l.length≤20)
  (R:Res p w C base False μ s (.loc σ.length) (σ++[.list (O4 l n.toNat)]) Q):wpAny (model p w) A (binaryOp .Mult a b) Q E s:=by
 obtain ⟨a,vs,rfl,_,⟨k,ha⟩,va⟩:=I.locList h1 ra
 obtain ⟨u,rfl⟩:=rb.isInt
 have hn:n.toNat≤20:=Int.toNat_le.mpr hz.2.1
 have hs:vs.toArray.size≤20:=by rw [List.size_toArray,va.length];exact hz.2.2
 have hsz:vs.toArray.size*n.toNat≤400:=Nat.mul_le_mul hs hn
 refine wpAny_binaryOp_repeat_ref (T:="list") (U:="int") (by decide) ⟨_,ha,rfl⟩ (fun s'=>typeIs_int s' n u) noFill_list_mul PySem.F.fills_int_mul PySem.F.slot_int_rmul repeat_list PySem.F.slot_int_index.lookup
  (call_meets PySem.F.slot_int_rmul (typeIs_int s n u) PySem.F.entry_int_rmul (PySem.F.args_int_rmul_2 _ _) (int___rmul___int_list n u a vs.toArray k)
   ⟨ha,rfl,⟨_,ha,rfl⟩,call_meets PySem.F.slot_list_mul ⟨_,ha,rfl⟩ PySem.F.entry_list_mul (PySem.F.args_list_mul_2 _ _)
    (AutoListH.list___mul___list_int_3 a vs.toArray k n u (by simp [Builtin.List.listFitsIndex];exact om78 hz) ?_ ?_) ⟨ha,MM I hb (Ti va n.toNat) (Rt vs n.toNat) R⟩⟩)
 ·exact om79 hsz
 ·simp [Builtin.List.listTooLong,sizeLine];simp at hsz;exact om80 hsz
theorem S6 (I:Inv p w C base μ s.heap σ) (hb:base.objs.size≤s.heap.objs.size) {a b:Value} {x y z:AV} (ra:VR base s.heap μ a x) (rb:VR base s.heap μ b y) (e:U0 σ x y=some (z,σ'))
  (R:Res p w C base False μ s z σ' Q):wpAny (model p w) A (binaryOp .Add a b) Q E s:=by
 unfold U0 at e
 split at e
 ·split at e
  ·have R:=R.at e
   obtain ⟨t,rfl⟩:=ra.isInt
   obtain ⟨u,rfl⟩:=rb.isInt
   exact add_int (R.same I (.int _ _) _)
  ·exact Ae e
 ·split at e
  ·obtain ⟨h,e⟩:=A7 e
   have R:=R.at e
   exact S1 I ra rb h R
  ·exact Ae e
 ·split at e
  ·split at e
   ·rename_i h1
    split at e
    ·rename_i h2
     obtain ⟨h,e⟩:=A7 e
     have R:=R.at e
     exact QV I hb ra rb (Ex h1) (Ex h2) h R
    ·exact Ae e
   ·exact Ae e
  ·exact Ae e
 ·exact Ae e
theorem LO {i:Int} (h:i.natAbs < 2 ^ 62):Builtin.Int.intBits i≤64:=intBits_le_64 (by exact om81 h) (by omega)
theorem S5 (I:Inv p w C base μ s.heap σ) (hb:base.objs.size≤s.heap.objs.size) {a b:Value} {x y z:AV} (ra:VR base s.heap μ a x) (rb:VR base s.heap μ b y) (e:Ue σ x y=some (z,σ'))
  (R:Res p w C base False μ s z σ' Q):wpAny (model p w) A (binaryOp .Mult a b) Q E s:=by
 unfold Ue at e
 split at e
 ·split at e
  ·obtain ⟨h,e⟩:=A7 e
   have R:=R.at e
   obtain ⟨t,rfl⟩:=ra.isInt
   obtain ⟨u,rfl⟩:=rb.isInt
   exact mul_int (R.same I (.int _ _) _) (IntMulOk.of_left (LO h.1))
  ·exact Ae e
 ·split at e
  ·split at e
   ·rename_i h1
    obtain ⟨h,e⟩:=A7 e
    have R:=R.at e
    exact S4 I hb ra rb (Ex h1) h R
   ·exact Ae e
  ·exact Ae e
 ·exact Ae e
theorem bin_ (I:Inv p w C base μ s.heap σ) (hb:base.objs.size≤s.heap.objs.size) {op:Operator} {a b:Value} {x y z:AV} (ra:VR base s.heap μ a x) (rb:VR base s.heap μ b y) (e:IB σ op x y=some (z,σ'))
  (R:Res p w C base False μ s z σ' Q):wpAny (model p w) A (binaryOp op a b) Q E s:=by
 cases op with
 | Add=>exact S6 I hb ra rb e R
 | Sub=>exact Gb ra rb e R fun i t j u z σ' e R=>by have R:=R.at e;exact sub_int (R.same I (.int _ _) _)
 | Mult=>exact S5 I hb ra rb e R
 | FloorDiv=>
  exact Gb ra rb e R fun i t j u z σ' e R=>by
   obtain ⟨h,e⟩:=A7 e
   have R:=R.at e
   exact floordiv_int h.1 (R.same I (.int _ _) _) (.inl (PyProof.noPylong_small (Nat.lt_of_lt_of_le h.2 (by decide))))
 | Mod=>
  exact Gb ra rb e R fun i t j u z σ' e R=>by
   obtain ⟨h,e⟩:=PQ e
   have R:=R.at e
   exact mod_int' h (R.same I (.int _ _) _)
 | Pow=>
  exact Gb ra rb e R fun i t j u z σ' e R=>by
   obtain ⟨h,e⟩:=A7 e
   have R:=R.at e
   exact pow_int_small h.1 (Int.le_trans h.2.1 (by decide)) (by have:=h.2.2;exact om83 this) (R.same I (.int _ _) _)
 | _=>exact Ae e
end
end
section
theorem KD {vs:List Value} {a:List Int} (x:IntsAre vs a):∀ {b:List Int},IntsAre vs b→a=b:=by
 induction x with
 | nil=>intro b y;(cases y);rfl
 | cons n t _ ih=>intro b y;cases y with | cons _ _ y=>rw [ih y]
section
variable {p:Program} {w:World} {C:BQ} {base h:Heap} {μ:A5} {σ:St}
theorem Inv.refObj (I:Inv p w C base μ h σ) {n:Nat} {q:Addr×Addr} (hq:μ[n]?=some q):∃ o,h.get? q.1=some o∧o.cls≠.type "tuple"∧o.cls≠.type "range":=by
 have hn:n < μ.length:=(List.getElem?_eq_some_iff.mp hq).1
 have hlt:n < σ.length:=I.len▸hn
 have R:=I.obj n q σ[n] hq (List.getElem?_eq_getElem hlt)
 revert R
 generalize σ[n]=o
 intro R
 cases R with
 | list a vs l hp _=>obtain ⟨k,hp⟩:=hp;exact ⟨_,hp,by simp,by simp⟩
 | dI a r l hp _=>obtain ⟨o',es,ep,ho,hc,_⟩:=hp;exact ⟨_,ho,by rw [hc.1];simp,by rw [hc.1];simp⟩
 | dS a r l hp _=>obtain ⟨o',es,ep,ho,hc,_⟩:=hp;exact ⟨_,ho,by rw [hc.1];simp,by rw [hc.1];simp⟩
 | inst a b' c ca es k m l _ h1 h2 _ _ _ _=>exact ⟨_,h1,by simp,by simp⟩
theorem BR {a:Addr} {o:Obj} {t:String} (h1:h.get? a=some o) (hc:o.cls=.type t) {o':Obj} {t':String} (h2:h.get? a=some o') (hc':o'.cls=.type t'):t=t':=by
 rw [h1] at h2
 obtain rfl:=oQ h2
 exact Value.type.inj (hc.symm.trans hc')
theorem Inv.notBase (I:Inv p w C base μ h σ) {n:Nat} {q:Addr×Addr} (hq:μ[n]?=some q) {o:Obj} (e:base.get? q.1=some o) {G:Prop}:G:=
 absurd (Heap.lt_size e) (Nat.not_lt.mpr (I.low q (List.mem_of_getElem? hq)).1)
theorem Inv.notTup (I:Inv p w C base μ h σ) {n:Nat} {q:Addr×Addr} (hq:μ[n]?=some q) {o:Obj} {t:String} (e:h.get? q.1=some o) (hc:o.cls=.type t) (ht:t="tuple"∨t="range") {G:Prop}:G:=by
 obtain ⟨o',ho,h1,h2⟩:=I.refObj hq
 rw [e] at ho
 obtain rfl:=oQ ho
 rcases ht with rfl | rfl
 ·exact absurd hc h1
 ·exact absurd hc h2
theorem Rg {a:Addr} {vs us:List Value} (t:IsTup h a vs.toArray) (t':IsTup h a us.toArray):vs=us:=by
 obtain ⟨o,ho,_,n,hd⟩:=t
 obtain ⟨o',ho',_,n',hd'⟩:=t'
 rw [ho] at ho'
 obtain rfl:=oQ ho'
 rw [hd] at hd'
 exact List.toArray_inj (Data.seq.inj hd').1
theorem PD {a:Addr} {vs us:List Value} (t:base.IsList a vs.toArray) (t':base.IsList a us.toArray):vs=us:=by
 obtain ⟨o,ho,_,n,hd⟩:=t
 obtain ⟨o',ho',_,n',hd'⟩:=t'
 rw [ho] at ho'
 obtain rfl:=oQ ho'
 rw [hd] at hd'
 exact List.toArray_inj (Data.seq.inj hd').1
theorem NH {a:Addr} {n m:Int} {t u v t' u' v':Tok} (e:IsRange h a 0 n 1 t u v) (e':IsRange h a 0 m 1 t' u' v'):n=m:=by
 have e1:h.get? a=_:=e
 have e2:h.get? a=_:=e'
 rw [e1] at e2
 injection e2 with e2;injection e2 with _ _ e2 _;injection e2 with e2
 have:=congrArg (fun (x:Array Value)=>x[1]?) e2
 simp at this
 exact this.1
theorem OF (I:Inv p w C base μ h σ) {a:Addr} {vs:List Value} {l:List AV} (t:IsTup h a vs.toArray) (ih:∀ m,VRs base h μ vs m→l=m) {y:AV} (r:RefIs base h μ a y):.tup l=y:=by
 obtain ⟨o,ho,hc,n,hd⟩:=id t
 cases r with
 | tup us m t' r=>rw [ih m (Rg t t'▸r)]
 | loc n q e hq=>subst e;exact I.notTup hq ho hc (.inl rfl)
 | glist us ns e i=>obtain ⟨o',ho',hc',_⟩:=e;exact absurd (BR ho hc (I.keep _ _ ho') hc') (by decide)
 | range n t u v e=>exact absurd (BR ho hc e rfl) (by decide)
theorem OG (I:Inv p w C base μ h σ) {n:Nat} {q:Addr×Addr} (hq:μ[n]?=some q) {y:AV} (r:RefIs base h μ q.1 y):.loc n=y:=by
 cases r with
 | tup us m t' r=>obtain ⟨o,ho,hc,_⟩:=t';exact I.notTup hq ho hc (.inl rfl)
 | loc n' q' e hq'=>
  by_cases hn:n=n'
  ·rw [hn]
  ·exact absurd e (I.apart n n' q q' hq hq' hn).1
 | glist us ns e i=>obtain ⟨o,ho,_⟩:=e;exact I.notBase hq ho
 | range n t u v e=>exact I.notTup hq e rfl (.inr rfl)
theorem Ly (I:Inv p w C base μ h σ) {a:Addr} {vs:List Value} {ns:List Int} (t:base.IsList a vs.toArray) (i:IntsAre vs ns) {y:AV} (r:RefIs base h μ a y):.glist ns=y:=by
 obtain ⟨o,ho,hc,n,hd⟩:=id t
 cases r with
 | tup us m t' r=>obtain ⟨o',ho',hc',_⟩:=t';exact absurd (BR (I.keep _ _ ho) hc ho' hc') (by decide)
 | loc n q e hq=>subst e;exact I.notBase hq ho
 | glist us ms e i'=>rw [KD i (PD t e▸i')]
 | range n t u v e=>exact absurd (BR (I.keep _ _ ho) hc e rfl) (by decide)
theorem Lx (I:Inv p w C base μ h σ) {a:Addr} {n:Int} {t u v:Tok} (e:IsRange h a 0 n 1 t u v) {y:AV} (r:RefIs base h μ a y):.range n=y:=by
 cases r with
 | tup us m t' r=>obtain ⟨o',ho',hc',_⟩:=t';exact absurd (BR e rfl ho' hc') (by decide)
 | loc n' q e' hq=>subst e';exact I.notTup hq e rfl (.inr rfl)
 | glist us ms e' i'=>obtain ⟨o',ho',hc',_⟩:=e';exact absurd (BR e rfl (I.keep _ _ ho') hc') (by decide)
 | range m t u v e'=>rw [NH e e']
theorem VR.unique (I:Inv p w C base μ h σ) {v:Value} {x y:AV} (a:VR base h μ v x) (b:VR base h μ v y):x=y:=
 VR.rec (motive_1:=fun v x _=>∀ y,VR base h μ v y→x=y) (motive_2:=fun vs l _=>∀ m,VRs base h μ vs m→l=m) (fun _ r=>r.v.symm) (fun _ _ r=>r.v.symm) (fun _ _ _ r=>r.v.symm)
  (fun s t n e y r=>r.v.elim fun m h=>h.1▸congrArg AV.str (oQ (e.symm.trans h.2))) (fun a vs l t _ ih y r=>OF I t ih r.v) (fun n p e y r=>OG I e r.v) (fun a vs ns t i y r=>Ly I t i r.v) (fun a n t u v e _ y r=>Lx I e r.v)
  (fun _ r=>r.v.symm) (fun v x vs l _ _ ih1 ih2 m r=>by obtain ⟨x',l',rfl,e1,e2⟩:=r.v;rw [ih1 _ e1,ih2 _ e2]) a y b
theorem Q8 {f:AV→AV→Option Bool}:∀ {l m:List AV} {b:Bool},Cv f l m=some b →
  (∀ (j:Nat) (x y:AV),l[j]?=some x→m[j]?=some y→∃ c,f x y=some c) ∧
  b=((List.range (min l.length m.length)).all (fun j=>(f (l.getD j .none) (m.getD j .none)).getD false)&&l.length==m.length):=by
 intro l
 induction l with
 | nil=>
  intro m b h
  induction m using List.casesOn with
  | nil=>simp only [Cv,Option.some.injEq] at h;subst h;exact ⟨by simp,by simp⟩
  | cons y m=>simp only [Cv,Option.some.injEq] at h;subst h;exact ⟨by simp,by simp⟩
 | cons x l ih=>
  intro m b h
  induction m using List.casesOn with
  | nil=>simp only [Cv,Option.some.injEq] at h;subst h;exact ⟨by simp,by simp⟩
  | cons y m=>
   simp only [Cv] at h
   generalize hf:f x y=zz9
   induction zz9 using Option.casesOn with
   | none=>rw [hf] at h;simp at h
   | some a=>
    generalize hr:Cv f l m=zz10
    induction zz10 using Option.casesOn with
    | none=>rw [hf,hr] at h;simp at h
    | some c=>
     rw [hf,hr] at h
     simp only [Option.some.injEq] at h;subst h
     obtain ⟨h1,h2⟩:=ih hr
     refine ⟨fun j x' y' e1 e2=>?_,?_⟩
     ·induction j using Nat.casesOn with
      | zero=>simp at e1 e2;subst e1;subst e2;exact ⟨a,hf⟩
      | succ j=>simp at e1 e2;exact h1 j x' y' e1 e2
     ·have:min (x::l).length (y::m).length=min l.length m.length+1:=by simp only [List.length_cons];exact om84
      rw [this,List.range_succ_eq_map,List.all_cons,List.all_map,h2]
      simp only [List.getD_cons_zero,hf,Option.getD_some,List.length_cons]
      have e2:(l.length+1==m.length+1)=(l.length==m.length):=by
       by_cases e:l.length=m.length<;>simp [e]
      rw [e2,Bool.and_assoc]
      rfl
theorem lookI_mem:∀ {l:List (Int×AV)},(l.map (·.1)).Nodup→∀ {k v},(k,v)∈l→Ao k l=some v
 | [],_,_,_,h=>(by exact nomatch h)
 | (k',v')::l,hn,k,v,h=>by
  rw [List.map_cons,List.nodup_cons] at hn
  rcases List.mem_cons.mp h with e | h'
  ·(cases e);simp [Ao]
  ·have:k≠k':=by rintro rfl;exact hn.1 (List.mem_map.mpr ⟨(k,v),h',rfl⟩)
   simp [Ao,this,lookI_mem hn.2 h']
theorem Ie {f:AV→AV→Option Bool} (ih:∀ x b,f x x=some b→b=true):∀ (l:List AV) (b:Bool),Cv f l l=some b→b=true:=by
 intro l
 induction l with
 | nil=>exact fun b h=>(oQ h).symm
 | cons x l ihl=>
  intro b h
  unfold Cv at h
  split at h
  ·rename_i a c hf hr
   rw [←oQ h,ih _ _ hf,ihl _ hr];rfl
  ·exact Ae h
theorem dictEq_self {f:AV→AV→Option Bool} (ih:∀ x b,f x x=some b→b=true) {l:List (Int×AV)}:∀ (r:List (Int×AV)) (b:Bool),(∀ k v,(k,v)∈r→Ao k l=some v)→CQ f l r=some b→b=true:=by
 intro r
 induction r with
 | nil=>exact fun b _ h=>(oQ h).symm
 | cons kv r ihr=>
  intro b hr h
  unfold CQ at h
  rw [hr kv.1 kv.2 (.head _)] at h
  simp only at h
  split at h
  ·rename_i a c hf hr'
   rw [←oQ h,ih _ _ hf,ihr c (fun k v hm=>hr k v (.tail _ hm)) hr'];rfl
  ·exact Ae h
theorem Ou {f:AV→AV→Option Bool} (ih:∀ x b,f x x=some b→b=true) {o:Option AO} (hn:∀ l,o=some (.dI l)→(l.map (·.1)).Nodup) {b:Bool} (h:Ig f o o=some b):b=true:=by
 induction o using Option.casesOn with
 | none=>exact Ae h
 | some o=>induction o using AO.casesOn with
  | list l=>exact Ie ih l b (by have h:=show (if l.length=l.length then Cv f l l else some false)=some b from h;rwa [if_pos rfl] at h)
  | dI l=>exact dictEq_self ih l b (fun k v hm=>lookI_mem (hn l rfl) hm) (by have h:=show (if l.length=l.length then CQ f l l else some false)=some b from h;rwa [if_pos rfl] at h)
  | dS l=>exact Ae h
  | inst c l=>exact Ae h
theorem Q9 (hn:∀ (a:Nat) l,σ[a]?=some (.dI l)→(l.map (·.1)).Nodup):∀ (n:Nat) (x:AV) (b:Bool),BU σ n x x=some b→b=true:=by
 intro n
 induction n with
 | zero=>exact fun x b h=>(by exact Ae h)
 | succ n ih=>
  intro x b h
  induction x using AV.casesOn with
  | none=>exact (oQ h).symm
  | bool c=>exact (oQ h).symm.trans (beq_self_eq_true c)
  | int c=>exact (oQ h).symm.trans (beq_self_eq_true c)
  | str c=>exact (oQ h).symm.trans (beq_self_eq_true c)
  | tup l=>exact Ie ih l b h
  | glist l=>exact Ae h
  | range l=>exact Ae h
  | loc a=>exact Ou ih (hn a) h
theorem Inv.nodup (I:Inv p w C base μ h σ) {a:Nat} {l:List (Int×AV)} (e:σ[a]?=some (.dI l)):(l.map (·.1)).Nodup:=by
 have ha:a < μ.length:=I.len▸(List.getElem?_eq_some_iff.mp e).1
 have R:=I.obj a μ[a] _ (List.getElem?_eq_getElem ha) e
 revert R
 generalize μ[a]=q
 intro R
 cases R with
 | dI a r l hp pr=>obtain ⟨o,es,ep,_,_,_,_,_,hn⟩:=hp;rw [←pr.keys];exact hn
theorem NM {p':Program} {w':World} {es:List DictEntry} {r:List (Int×Value)} (x:Pairs (intKind p w) es r):Pairs (intKind p' w') es r:=by
 induction x with
 | nil=>exact .nil
 | cons a b _ ih=>exact .cons a b ih
theorem DU {p':Program} {w':World} {a:Addr} {r:List (Int×Value)} (x:h.DictOf (intKind p w) a r):h.DictOf (intKind p' w') a r:=by
 obtain ⟨o,es,ep,h1,h2,h3,h4,h5,h6⟩:=x
 exact ⟨o,es,ep,h1,h2,h3,h4,NM h5,h6⟩
end
section
variable {p:Program} {w:World} {C:BQ} {base:Heap} {μ:A5} {σ:St} {s:Shared}
theorem Rk {a b:Str} {n m:Nat} (ha:code a=some n) (hb:code b=some m):(a==b)=(n==m):=by
 by_cases e:a=b
 ·subst e;rw [ha] at hb;(cases hb);simp
 ·have:n≠m:=by rintro rfl;exact e (Bo ha hb)
  rw [beq_eq_false_iff_ne.mpr e,beq_eq_false_iff_ne.mpr this]
structure EqAll (A:Around) (s:Shared) (a c:Value) (b:Bool):Prop where
 rc:SeqAt.RcAt A s a c b
 ne:SeqAt.RcNeAt A s a c (!b)
 eq:SeqAt.EqAt A s a c b
section
variable {A:Around} {a c:Value} {y:AV} {b:Bool} {f:List AV→List AV→Option Bool} {g:Nat→Nat→Option Bool}
theorem Su (hu:A.units < cLine):VR base s.heap μ c y→Ov f g .none y=some b→EqAll A s .none c b:=by
 intro rc
 cases rc with
 | none=>intro h;obtain rfl:=oQ h;exact ⟨.none_none,.none_none,.same _⟩
 | bool d=>intro h;obtain rfl:=oQ h;exact ⟨.none_bool d,.none_bool d,.none_bool d⟩
 | int i t=>intro h;obtain rfl:=oQ h;exact ⟨.none_int i t,.none_int i t,.none_int i t⟩
 | str k t m _=>intro h;obtain rfl:=oQ h;exact ⟨.none_str k t,.none_str k t,.none_str k t⟩
 | tup q us m tb vb=>intro h;obtain rfl:=oQ h;exact ⟨.none_tuple tb hu,.none_tuple tb hu,.none_tuple tb hu⟩
 | _=>exact fun h=>(by exact Ae h)
theorem Sy (hu:A.units < cLine) (d':Bool):VR base s.heap μ c y→Ov f g (.bool d') y=some b→EqAll A s (.bool d') c b:=by
 intro rc
 cases rc with
 | none=>intro h;obtain rfl:=oQ h;exact ⟨.bool_none d',.bool_none d',.bool_none d'⟩
 | bool d=>intro h;obtain rfl:=oQ h;exact ⟨.bool_bool d' d,.bool_bool d' d,.bool_bool d' d⟩
 | int i t=>intro h;obtain rfl:=oQ h;exact ⟨.bool_int d' i t,.bool_int d' i t,.bool_int d' i t⟩
 | str k t m _=>intro h;obtain rfl:=oQ h;exact ⟨.bool_str d' k t,.bool_str d' k t,.bool_str d' k t⟩
 | tup q us m tb vb=>intro h;obtain rfl:=oQ h;exact ⟨.bool_tuple d' tb hu,.bool_tuple d' tb hu,.bool_tuple d' tb hu⟩
 | _=>exact fun h=>(by exact Ae h)
theorem Uy (hu:A.units < cLine) (i':Int) (t':Tok):VR base s.heap μ c y→Ov f g (.int i') y=some b→EqAll A s (.int i' t') c b:=by
 intro rc
 cases rc with
 | none=>intro h;obtain rfl:=oQ h;exact ⟨.int_none i' t',.int_none i' t',.int_none i' t'⟩
 | bool d=>intro h;obtain rfl:=oQ h;exact ⟨.int_bool i' t' d,.int_bool i' t' d,.int_bool i' t' d⟩
 | int i t=>intro h;obtain rfl:=oQ h;exact ⟨.int_int i' t' i t,.int_int i' t' i t,.int_int i' t' i t⟩
 | str k t m _=>intro h;obtain rfl:=oQ h;exact ⟨.int_str i' t' k t,.int_str i' t' k t,.int_str i' t' k t⟩
 | tup q us m tb vb=>intro h;obtain rfl:=oQ h;exact ⟨.int_tuple i' t' tb hu,.int_tuple i' t' tb hu,.int_tuple i' t' tb hu⟩
 | _=>exact fun h=>(by exact Ae h)
theorem Ux (hu:A.units < cLine) {k':Str} (t':Tok) {m':Nat} (e':code k'=some m'):VR base s.heap μ c y→Ov f g (.str m') y=some b→EqAll A s (.str k' t') c b:=by
 intro rc
 cases rc with
 | none=>intro h;obtain rfl:=oQ h;exact ⟨.str_none k' t',.str_none k' t',.str_none k' t'⟩
 | bool d=>intro h;obtain rfl:=oQ h;exact ⟨.str_bool k' t' d,.str_bool k' t' d,.str_bool k' t' d⟩
 | int i t=>intro h;obtain rfl:=oQ h;exact ⟨.str_int k' t' i t,.str_int k' t' i t,.str_int k' t' i t⟩
 | str k t m e=>intro h;obtain rfl:=(Rk e' e).trans (oQ h);exact ⟨.str_str k' t' k t,.str_str k' t' k t,.str_str k' t' k t⟩
 | tup q us m tb vb=>intro h;obtain rfl:=oQ h;exact ⟨.str_tuple k' t' tb hu,.str_tuple k' t' tb hu,.str_tuple k' t' tb hu⟩
 | _=>exact fun h=>(by exact Ae h)
theorem Uw (hu:A.units < cLine) {l':Addr} {vs:List Value} {l:List AV} (ta:IsTup s.heap l' vs.toArray):VR base s.heap μ c y→Ov f g (.tup l) y=some b →
  (∀ q us m,IsTup s.heap q us.toArray→VRs base s.heap μ us m→c=.ref q→y=.tup m→f l m=some b→EqAll A s (.ref l') c b)→EqAll A s (.ref l') c b:=by
 intro rc
 cases rc with
 | none=>intro h _;obtain rfl:=oQ h;exact ⟨.tuple_none ta hu,.tuple_none ta hu,.tuple_none ta hu⟩
 | bool d=>intro h _;obtain rfl:=oQ h;exact ⟨.tuple_bool d ta hu,.tuple_bool d ta hu,.tuple_bool d ta hu⟩
 | int i t=>intro h _;obtain rfl:=oQ h;exact ⟨.tuple_int i t ta hu,.tuple_int i t ta hu,.tuple_int i t ta hu⟩
 | str k t m _=>intro h _;obtain rfl:=oQ h;exact ⟨.tuple_str k t ta hu,.tuple_str k t ta hu,.tuple_str k t ta hu⟩
 | tup q us m tb vb=>exact fun h k=>k q us m tb vb rfl rfl h
 | _=>exact fun h _=>(by exact Ae h)
theorem EqAll.refs (I:Inv p w C base μ s.heap σ) {n:Nat} {x:AV} {l k:Addr} (ra:VR base s.heap μ (.ref l) x) (rc:VR base s.heap μ (.ref k) y) (h:BU σ n x y=some b) (h1:SeqAt.RcAt A s (.ref l) (.ref k) b) (h2:SeqAt.RcNeAt A s (.ref l) (.ref k) (!b)):EqAll A s (.ref l) (.ref k) b:=by
 refine ⟨h1,h2,?_⟩
 by_cases e:l=k
 ·subst e
  obtain rfl:=VR.unique I ra rc
  rw [Q9 (fun a l e=>I.nodup e) _ _ _ h]
  exact SeqAt.EqAt.same _
 ·exact .of_refs e h1
theorem eq_at {f:AV→AV→Option Bool} (ih:∀ x y b,f x y=some b→∀ a c,VR base s.heap μ a x→VR base s.heap μ c y→SeqAt.EqAt A s a c b) {l m:List AV} {vs us:List Value} (va:VRs base s.heap μ vs l) (vb:VRs base s.heap μ us m)
  (hf:∀ (j:Nat) (x y:AV),l[j]?=some x→m[j]?=some y→∃ c,f x y=some c) (j:Nat) (j1:j < vs.toArray.size) (j2:j < us.toArray.size):SeqAt.EqAt A s vs.toArray[j] us.toArray[j] ((f (l.getD j .none) (m.getD j .none)).getD false):=by
 rw [List.size_toArray] at j1 j2
 have k1:j < l.length:=va.length▸j1
 have k2:j < m.length:=vb.length▸j2
 obtain ⟨b',hb'⟩:=hf j l[j] m[j] (List.getElem?_eq_getElem k1) (List.getElem?_eq_getElem k2)
 obtain ⟨v,hv,rv⟩:=va.get (List.getElem?_eq_getElem k1)
 obtain ⟨u,hu',ru⟩:=vb.get (List.getElem?_eq_getElem k2)
 obtain ⟨_,rfl⟩:=List.getElem?_eq_some_iff.mp hv
 obtain ⟨_,rfl⟩:=List.getElem?_eq_some_iff.mp hu'
 rw [show l.getD j .none=l[j] by rw [List.getD,List.getElem?_eq_getElem k1];rfl,show m.getD j .none=m[j] by rw [List.getD,List.getElem?_eq_getElem k2];rfl,hb']
 exact ih _ _ _ hb' _ _ rv ru
theorem M9 {f:AV→AV→Option Bool} (ih:∀ x y b,f x y=some b→∀ a c,VR base s.heap μ a x→VR base s.heap μ c y→SeqAt.EqAt A s a c b) {l m:List AV} {vs us:List Value} (h:Cv f l m=some b) (va:VRs base s.heap μ vs l) (vb:VRs base s.heap μ us m) :
  ∃ e:Nat→Bool,b=((List.range (min vs.toArray.size us.toArray.size)).all e&&vs.toArray.size==us.toArray.size)∧∀ j (h1:j < vs.toArray.size) (h2:j < us.toArray.size),SeqAt.EqAt A s vs.toArray[j] us.toArray[j] (e j):=by
 obtain ⟨h1,h2⟩:=Q8 h
 refine ⟨fun j=>(f (l.getD j .none) (m.getD j .none)).getD false,?_,eq_at ih va vb h1⟩
 rw [h2,List.size_toArray,List.size_toArray,va.length,vb.length]
theorem Sw {f:AV→AV→Option Bool} (ih:∀ x y b,f x y=some b→∀ a c,VR base s.heap μ a x→VR base s.heap μ c y→SeqAt.EqAt A s a c b) {m:List (Int×AV)} {r':List (Int×Value)} (pb:PRI base s.heap μ r' m) {r:List (Int×Value)} {l:List (Int×AV)} (pr:PRI base s.heap μ r l) :
  ∀ {d:Bool},CQ f m l=some d→KeqHits A s r' r d:=by
 induction pr with
 | nil=>intro d h;obtain rfl:=oQ h;exact .nil
 | cons k v x r l e _ ihp=>
  intro d h
  unfold CQ at h
  rcases pb.look k with ⟨h1,h2⟩ | ⟨y,u,h1,h2,ru⟩
  ·rw [h1] at h;obtain rfl:=oQ h;exact .miss h2
  ·rw [h1] at h
   simp only at h
   split at h
   ·rename_i hf hr
    obtain rfl:=oQ h
    exact .hit h2 (ih _ _ _ hf v u e ru) (ihp hr)
   ·exact Ae h
theorem Qe (I:Inv p w C base μ s.heap σ) {f:AV→AV→Option Bool} (ih:∀ x y b,f x y=some b→∀ a c,VR base s.heap μ a x→VR base s.heap μ c y→SeqAt.EqAt A.in1 s a c b) (hu0:A.units < cLine) {l m:List AV} {q q':Addr} {vs us:List Value}
  (pa:s.heap.PlainList q vs.toArray) (va:VRs base s.heap μ vs l) (pb:s.heap.PlainList q' us.toArray) (vb:VRs base s.heap μ us m) (h:(if l.length=m.length then Cv f l m else some false)=some b):SeqAt.RcAt A s (.ref q) (.ref q') b∧SeqAt.RcNeAt A s (.ref q) (.ref q') (!b):=by
 by_cases hl:l.length=m.length
 ·rw [if_pos hl] at h
  obtain ⟨e,he,hi⟩:=M9 ih h va vb
  have hsz:vs.toArray.size=us.toArray.size:=by rw [List.size_toArray,List.size_toArray,va.length,vb.length,hl]
  obtain rfl:b=(List.range vs.toArray.size).all e:=by rw [he,←hsz,Nat.min_self,beq_self_eq_true,Bool.and_true]
  exact ⟨.lists pa.isList pb.isList hsz hu0 hi,.lists pa.isList pb.isList hsz hu0 hi⟩
 ·rw [if_neg hl] at h
  obtain rfl:=oQ h
  have hsz:(vs.toArray.size != us.toArray.size)=true:=by rw [List.size_toArray,List.size_toArray,va.length,vb.length];exact bne_iff_ne.mpr hl
  exact ⟨.lists_lengths pa.isList pb.isList hsz hu0,.lists_lengths pa.isList pb.isList hsz hu0⟩
theorem Qg {f:AV→AV→Option Bool} (ih:∀ x y b,f x y=some b→∀ a c,VR base s.heap μ a x→VR base s.heap μ c y→SeqAt.EqAt A.in1 s a c b) (hu0:A.units < cLine) {l m:List (Int×AV)} {q q':Addr} {r r':List (Int×Value)} (s1:(q==sysModules)=false) (s2:(q'==sysModules)=false)
  (da:s.heap.DictOf (intKind p w) q r) (pa:PRI base s.heap μ r l) (db:s.heap.DictOf (intKind p w) q' r') (pb:PRI base s.heap μ r' m) (h:(if l.length=m.length then CQ f m l else some false)=some b):SeqAt.RcAt A s (.ref q) (.ref q') b∧SeqAt.RcNeAt A s (.ref q) (.ref q') (!b):=by
 have hh:r.length=r'.length→KeqHits A.in1 s r' r b:=fun e=>Sw ih pb pa (by rw [if_pos (pa.length.symm.trans (e.trans pb.length))] at h;exact h)
 obtain hb:b=(r.length==r'.length&&b):=by
  by_cases hl:l.length=m.length
  ·rw [pa.length,pb.length,hl,beq_self_eq_true,Bool.true_and]
  ·rw [if_neg hl] at h;rw [←oQ h,Bool.and_false]
 rw [hb]
 exact ⟨fun prog w E Q hQ=>keq_eq s1 s2 (DU da) (DU db) hu0 hh hQ,fun prog w E Q hQ=>keq_ne s1 s2 (DU da) (DU db) hu0 hh hQ⟩
theorem Sv (I:Inv p w C base μ s.heap σ) (hb:sysModules < base.objs.size) {f:AV→AV→Option Bool} (ih:∀ x y b,f x y=some b→∀ a c,VR base s.heap μ a x→VR base s.heap μ c y→SeqAt.EqAt A.in1 s a c b) (hu0:A.units < cLine) {i j:Nat} {q q':Addr×Addr} (hq:μ[i]?=some q) (hq':μ[j]?=some q') (h:Ig f σ[i]? σ[j]?=some b) :
  SeqAt.RcAt A s (.ref q.1) (.ref q'.1) b∧SeqAt.RcNeAt A s (.ref q.1) (.ref q'.1) (!b):=by
 have key:∀ x y,σ[i]?=x→σ[j]?=y→Ig f x y=some b→SeqAt.RcAt A s (.ref q.1) (.ref q'.1) b∧SeqAt.RcNeAt A s (.ref q.1) (.ref q'.1) (!b):=by
  intro x y h1 h2 h
  unfold Ig at h
  split at h
  ·split at h
   ·obtain ⟨a,vs,e1,_,pa,va⟩:=I.locList h1 (.loc i q hq)
    obtain ⟨a',us,e2,_,pb,vb⟩:=I.locList h2 (.loc j q' hq')
    (cases e1);cases e2
    exact Qe I ih hu0 pa va pb vb h
   ·exact Ae h
  ·split at h
   ·obtain ⟨a,vs,e1,_,pa,va⟩:=I.locI h1 (.loc i q hq)
    obtain ⟨a',us,e2,_,pb,vb⟩:=I.locI h2 (.loc j q' hq')
    (cases e1);cases e2
    exact Qg ih hu0 (I.notSys hb hq) (I.notSys hb hq') pa va pb vb h
   ·exact Ae h
  ·exact Ae h
 exact key _ _ rfl rfl h
end
theorem Ma (I:Inv p w C base μ s.heap σ) (hb:sysModules < base.objs.size):∀ (n:Nat) (x y:AV) (b:Bool),BU σ n x y=some b→∀ (A:Around) (a c:Value),VR base s.heap μ a x→VR base s.heap μ c y→A.units+n < cLine→EqAll A s a c b:=by
 intro n
 induction n with
 | zero=>exact fun x y b h=>(by exact Ae h)
 | succ n ih=>
  intro x y b h A a c ra rc hu
  have hu0:A.units < cLine:=Nat.lt_of_le_of_lt (Nat.le_add_right _ _) hu
  have hu2:A.in1.units+n < cLine:=by rw [show A.in1.units+n=A.units+(n+1) from Nat.add_right_comm _ _ _];exact hu
  have ih':∀ x y b,BU σ n x y=some b→∀ a c,VR base s.heap μ a x→VR base s.heap μ c y→SeqAt.EqAt A.in1 s a c b:=fun x y b h a c ra rc=>(ih x y b h A.in1 a c ra rc hu2).eq
  revert h
  cases ra with
  | none=>exact Su hu0 rc
  | bool d=>exact Sy hu0 d rc
  | int i t=>exact Uy hu0 i t rc
  | str k t m e=>exact Ux hu0 t e rc
  | tup a vs l ta va=>
   intro h
   refine Uw hu0 ta rc h fun q us m tb vb e1 e2 hf=>?_
   subst e1 e2
   obtain ⟨e,he,hi⟩:=M9 ih' hf va vb
   subst he
   exact .refs I (.tup a vs l ta va) rc h (.tuples ta tb hu0 hi) (.tuples ta tb hu0 hi)
  | loc i q hq=>
   cases rc with
   | loc j q' hq'=>intro h;obtain ⟨h1,h2⟩:=Sv I hb ih' hu0 hq hq' h;exact .refs I (.loc i q hq) (.loc j q' hq') h h1 h2
   | _=>exact fun h=>(by exact Ae h)
  | _=>exact fun h=>(by exact Ae h)
end
end
section
section
variable {p:Program} {w:World} {C:BQ} {base:Heap} {pu:Prop} {μ:A5} {s:Shared} {σ σ':St} {x:AV} {Q:Value→Shared→Prop} {A:Around} {E:Value→Shared→Prop}
theorem Hi (A:Around) {v:Value} {b:Bool} {Q:Bool→Shared→Prop} {h:Heap} (r:VR base h μ v x) (e:truth x=some b) (hq:Q b s):wpAny (model p w) A (truthy v) Q E s:=by
 induction x using AV.casesOn with
 | none=>obtain rfl:=r.x;obtain rfl:=oQ e;exact truthy_none hq
 | bool c=>obtain rfl:=r.x;obtain rfl:=oQ e;exact wpAny_truthy_bool hq
 | _=>exact Ae e
theorem Di {a c:Value} {b:Bool} (h1:(isSame a c:Sem Bool)=pure (a==c)) (h2:(a==c)=b):(isSame a c:Sem Bool)=pure b:=h2▸h1
theorem RT {a:Value} {b:Bool} {h:Heap}:VR base h μ a x→KC x .none=some b→(isSame a .none:Sem Bool)=pure b:=by
 intro ra
 cases ra with
 | none=>exact fun e=>Di (isSame_plain (by rfl)) (oQ e)
 | bool c=>exact fun e=>Di (isSame_plain (by rfl)) (oQ e)
 | int i t=>exact fun e=>Di (isSame_plain (by rfl)) (oQ e)
 | str s t n _=>exact fun e=>Di (isSame_plain (by rfl)) (oQ e)
 | tup a vs l _ _=>exact fun e=>Di (isSame_plain (by rfl)) (oQ e)
 | loc n p _=>exact fun e=>Di (isSame_plain (by rfl)) (oQ e)
 | _=>exact fun e=>(by exact Ae e)
theorem RU {a:Value} {b d:Bool} {h:Heap}:VR base h μ a x→KC x (.bool d)=some b→(isSame a (.bool d):Sem Bool)=pure b:=by
 intro ra
 cases ra with
 | none=>exact fun e=>Di (isSame_plain (by rfl)) (oQ e)
 | bool c=>exact fun e=>Di (isSame_plain (by rfl)) ((by cases c<;>cases d<;>rfl:(Value.bool c==Value.bool d)=(c==d)).trans (oQ e))
 | _=>exact fun e=>(by exact Ae e)
theorem is_ {a c:Value} {y:AV} {b:Bool} {h:Heap} (ra:VR base h μ a x) (rc:VR base h μ c y) (e:KC x y=some b):(isSame a c:Sem Bool)=pure b:=by
 induction y using AV.casesOn with
 | none=>obtain rfl:=rc.x;exact RT ra e
 | bool d=>obtain rfl:=rc.x;exact RU ra e
 | _=>exact Ae e
theorem Q5 {f:AV→AV→Option Bool} {x:AV}:∀ {l:List AV} {r:Bool},CP f x l=some r→(∀ y∈l,∃ b,f y x=some b)∧r=l.any fun y=>(f y x).getD false:=by
 intro l
 induction l with
 | nil=>exact fun h=>⟨fun y hy=>(nomatch hy),(oQ h).symm⟩
 | cons y l ih=>
  intro r h
  unfold CP at h
  split at h
  ·rename_i a c hf hr
   obtain ⟨h1,h2⟩:=ih hr
   refine ⟨fun z hz=>?_,?_⟩
   ·rcases List.mem_cons.mp hz with rfl | hz
    ·exact ⟨a,hf⟩
    ·exact h1 z hz
   ·rw [List.any_cons,hf,←h2];exact (oQ h).symm
  ·exact Ae h
theorem VRs.mem {h:Heap} {vs:List Value} {l:List AV} (r:VRs base h μ vs l) {v:Value} (hv:v∈vs):∃ y∈l,VR base h μ v y:=by
 obtain ⟨i,hi⟩:=List.getElem?_of_mem hv
 have hl:i < l.length:=r.length▸(List.getElem?_eq_some_iff.mp hi).1
 obtain ⟨u,hu,ru⟩:=r.get (List.getElem?_eq_getElem hl)
 rw [hi] at hu
 obtain rfl:=oQ hu
 exact ⟨_,List.getElem_mem hl,ru⟩
open Classical in
theorem PX (I:Inv p w C base μ s.heap σ) {n:Nat} {y z:AV} {u:Value} {b:Bool} (rz:VR base s.heap μ u z) (hb':BU σ n z y=some b):decide (∃ z,VR base s.heap μ u z∧BU σ n z y=some true)=b:=by
 induction b using Bool.casesOn with
 | true=>exact decide_eq_true ⟨z,rz,hb'⟩
 | false=>exact decide_eq_false fun ⟨z',rz',he⟩=>by rw [VR.unique I rz rz',he] at hb';exact nomatch hb'
open Classical in
theorem Um (I:Inv p w C base μ s.heap σ) {n:Nat} {y:AV}:∀ (vs:List Value) (l:List AV),VRs base s.heap μ vs l→(∀ y'∈l,∃ b,BU σ n y' y=some b) →
  vs.any (fun u=>decide (∃ z,VR base s.heap μ u z∧BU σ n z y=some true))=l.any fun z=>(BU σ n z y).getD false:=by
 intro vs
 induction vs with
 | nil=>intro l r _;obtain rfl:=r.v;rfl
 | cons u vs ih=>
  intro l r hd
  obtain ⟨z,l,rfl,e,r⟩:=r.v
  obtain ⟨b,hb'⟩:=hd z (.head _)
  rw [List.any_cons,List.any_cons,ih l r (fun y' hy=>hd y' (.tail _ hy)),PX I e hb',hb'];rfl
open Classical in
theorem PV (I:Inv p w C base μ s.heap σ) (hb:sysModules < base.objs.size) {v:Value} {y:AV} {vs:List Value} {l:List AV} {r:Bool} (rv:VR base s.heap μ v y) (rs:VRs base s.heap μ vs l) (h:CP (BU σ 20) y l=some r) (hu:A.units+30 < cLine) :
  ∃ e:Value→Bool,(∀ u,u∈vs.toArray→SeqAt.EqAt A.in1 s u v (e u))∧vs.toArray.any e=r:=by
 obtain ⟨h1,h2⟩:=Q5 h
 refine ⟨fun u=>decide (∃ z,VR base s.heap μ u z∧BU σ 20 z y=some true),fun u hu'=>?_,?_⟩
 ·obtain ⟨z,hz,rz⟩:=rs.mem (List.mem_toArray.mp hu')
  obtain ⟨b,hb'⟩:=h1 z hz
  simp only [PX I rz hb']
  exact (Ma I hb 20 z y b hb' A.in1 u v rz rv (by show A.units+1+20 < cLine;exact om85 hu)).eq
 ·rw [h2,List.any_toArray];exact Um I vs l rs h1
structure InOk (p:Program) (w:World) (A:Around) (E:Value→Shared→Prop) (s:Shared) (v c:Value) (r:Bool):Prop where
 yes:∀ {Q:Value→Shared→Prop},(∀ t,Q (.bool r) { s with toks:=t })→wpAny (model p w) A (compareOp .In v c) Q E s
 no:∀ {Q:Value→Shared→Prop},(∀ t,Q (.bool (!r)) { s with toks:=t })→wpAny (model p w) A (compareOp .NotIn v c) Q E s
theorem RY (I:Inv p w C base μ s.heap σ) (hb:sysModules < base.objs.size) {v c:Value} {y:AV} {n:Nat} {l:List (Int×AV)} {r:Bool} (rv:VR base s.heap μ v y) (rc:VR base s.heap μ c (.loc n)) (hl:σ[n]?=some (.dI l)) (h:inI y l=some r):InOk p w A E s v c r:=by
 induction y using AV.casesOn with
 | int i=>
  obtain ⟨t,rfl⟩:=rv.x
  obtain ⟨a,kv,rfl,hq,da,pa⟩:=I.locI hl rc
  have e:(valueAt kv i).isSome=r:=by
   rcases pa.look i with ⟨h1,h2⟩ | ⟨y,u,h1,h2,_⟩
   ·rw [h2,←oQ h,h1];rfl
   ·rw [h2,←oQ h,h1];rfl
  exact ⟨fun q=>wpAny_in_of (knd:=intKind p w) (k:=i) (by simp [intKind,Value.isInt]) (I.notSys hb hq) da.mapOf (e▸q _),fun q=>wpAny_notIn_of (knd:=intKind p w) (k:=i) (by simp [intKind,Value.isInt]) (I.notSys hb hq) da.mapOf (e▸q _)⟩
 | _=>exact Ae h
theorem in_ (I:Inv p w C base μ s.heap σ) (hb:sysModules < base.objs.size) {v c:Value} {y z:AV} {r:Bool} (rv:VR base s.heap μ v y) (rc:VR base s.heap μ c z) (h:inA σ y z=some r) (hu:A.units+30 < cLine):InOk p w A E s v c r:=by
 unfold inA at h
 split at h
 ·obtain ⟨a,vs,rfl,ta,va⟩:=rc.x
  obtain ⟨e,h1,h2⟩:=PV I hb (A:=A) rv va h hu
  exact ⟨fun q=>SeqAt.in_tupleAt e ta h1 (h2▸q s.toks),fun q=>SeqAt.notIn_tupleAt e ta h1 (h2▸q s.toks)⟩
 ·split at h
  ·rename_i hl
   obtain ⟨a,vs,rfl,_,pa,va⟩:=I.locList hl rc
   obtain ⟨e,h1,h2⟩:=PV I hb (A:=A) rv va h hu
   exact ⟨fun q=>SeqAt.in_listAt e pa.isList h1 (h2▸q s.toks),fun q=>SeqAt.notIn_listAt e pa.isList h1 (h2▸q s.toks)⟩
  ·rename_i hl
   exact RY I hb rv rc hl h
  ·exact Ae h
 ·exact Ae h
theorem F6 {a c:Value} {y:AV} {b:Bool} (ra:VR base s.heap μ a x) (rc:VR base s.heap μ c y) {f:Int→Int→Option Bool} (e:EA x y f=some b) {op:CmpOp} (q:∀ i t j u,f i j=some b→wpAny (model p w) A (compareOp op (.int i t) (.int j u)) Q E s):wpAny (model p w) A (compareOp op a c) Q E s:=
 MZ e fun i j e1 e2 hz=>(e1▸ra).isInt.elim fun t et=>(e2▸rc).isInt.elim fun u eu=>et▸eu▸q i t j u hz
theorem LW {e:Option Bool} {b:Bool} (h:e.map not=some b):e=some (!b):=by
 induction e using Option.casesOn with
 | none=>exact Ae h
 | some c=>rw [←oQ h,Bool.not_not]
theorem UJ (I:Inv p w C base μ s.heap σ) (hb:sysModules < base.objs.size) {op:CmpOp} {a c:Value} {y:AV} {b:Bool} (ra:VR base s.heap μ a x) (rc:VR base s.heap μ c y) (e:A9 σ op x y=some b) (hu:A.units+30 < cLine)
  (q:∀ t,Q (.bool b) { s with toks:=t }):wpAny (model p w) A (compareOp op a c) Q E s:=by
 have q0:Q (.bool b) s:=q s.toks
 have hu':A.units+20 < cLine:=Nat.lt_of_le_of_lt (Nat.add_le_add_left (by decide) _) hu
 cases op with
 | Eq=>exact (Ma I hb 20 x y b e A a c ra rc hu').rc p w E Q q0
 | NotEq=>exact (Ma I hb 20 x y (!b) (LW e) A a c ra rc hu').ne p w E Q (by rw [Bool.not_not];exact q0)
 | Lt=>exact F6 ra rc e fun i t j u e=>lt_int (by rw [oQ e];exact q0)
 | LtE=>exact F6 ra rc e fun i t j u e=>le_int (by rw [oQ e];exact q0)
 | Gt=>exact F6 ra rc e fun i t j u e=>gt_int (by rw [oQ e];exact q0)
 | GtE=>exact F6 ra rc e fun i t j u e=>ge_int (by rw [oQ e];exact q0)
 | Is=>unfold compareOp;simp only;rw [is_ ra rc e];exact fun _ _ _=>q0
 | IsNot=>unfold compareOp;simp only;rw [is_ ra rc (LW e)];exact fun _ _ _=>by show Q (.bool (!(!b))) s;rw [Bool.not_not];exact q0
 | In=>exact (in_ I hb ra rc e hu).yes q
 | NotIn=>exact (in_ I hb ra rc (LW e) hu).no (by rw [Bool.not_not];exact q)
end
end
section
theorem A2 {slice:Expr} (h:CJ slice=true) (o i:Value):subscripted slice false o i=operate [o,i] (getItem o i):=by
 generalize hz:operate [o,i] (getItem o i)=z
 revert h
 induction slice using Expr.casesOn<;>first | exact fun _=>hz | exact fun h=>absurd h bQ
section
variable {p:Program} {w:World} {C:BQ} {base:Heap} {pu:Prop} {μ:A5} {s:Shared} {σ σ':St} {x:AV} {Q:Value→Shared→Prop} {A:Around} {E:Value→Shared→Prop}
theorem NK {k:Int} {n j:Nat} (h:Gk k n=some j):seqIndex? k n=some j:=by
 unfold Gk at h
 unfold seqIndex?
 split at h
 ·rename_i h0
  split at h
  ·rename_i h1;cases h
   have:¬ k < 0:=by exact om86 h0
   simp [this,h0,h1]
  ·exact Ae h
 ·rename_i h0
  split at h
  ·rename_i h1;cases h
   have:k < 0:=by exact om87 h0
   have h2:k+n < n:=by exact om88 this
   simp [this,h1,h2]
  ·exact Ae h
theorem NJ {k:Int} {n j:Nat} (h:Gk k n=some j):-(n:Int)≤k∧k < n:=by
 unfold Gk at h
 split at h
 ·split at h
  ·omega
  ·exact Ae h
 ·split at h
  ·omega
  ·exact Ae h
theorem Nk {t:Str} (h:code t=some kU8):t=Str.ofString "u8":=Bo h (by decide)
section
variable {value slice:Expr} (hs:CJ slice=true) {o i:Value} {z:AV}
include hs
theorem RZ {l:List AV} {k:Int} (ro:VR base s.heap μ o (.tup l)) (ri:VR base s.heap μ i (.int k)) (hl:l.length≤AX) (e:((Gk k l.length).bind fun j=>l[j]?)=some z) (q:∀ v,VR base s.heap μ v z→Q v s):wpAny (model p w) A (subscriptTail value slice o i) Q E s:=by
 obtain ⟨u,rfl⟩:=ri.x
 obtain ⟨a,vs,rfl,ta,va⟩:=ro.x
 obtain ⟨j,hp,e⟩:=Option.bind_eq_some_iff.mp e
 have hk:=NJ hp
 obtain ⟨v,hv,rv⟩:=va.get e
 have hl':l.length≤1000000:=hl
 exact tail_any ta.typeIs slot_tuple_getitem.lookup (getItem_tuple ta (by exact om91 hk hl') (by omega) (by rw [List.size_toArray,va.length];exact NK hp) (by rw [List.getElem?_toArray];exact hv) (q v rv)) (A2 hs _ _)
theorem N4 (I:Inv p w C base μ s.heap σ) {ns:List Int} {k:Int} (ro:VR base s.heap μ o (.glist ns)) (ri:VR base s.heap μ i (.int k)) (hk:0≤k∧k < 2 ^ 62) (e:ns[k.toNat]?.map .int=some z) (q:∀ v,VR base s.heap μ v z→Q v s):wpAny (model p w) A (subscriptTail value slice o i) Q E s:=by
 obtain ⟨u,rfl⟩:=ri.x
 obtain ⟨a,vs,rfl,hl,hi⟩:=ro.x
 obtain ⟨n,hn,rfl⟩:=Option.map_eq_some_iff.mp e
 obtain ⟨t,hx⟩:=hi.get k.toNat _ hn
 have hl':=hl.at (I.keep a)
 exact tail_any hl'.typeIs slot_list_getitem.lookup (wpAny_getItem_list hl' hk.1 (by exact om13 hk) (by rw [List.getElem?_toArray];exact hx) (q _ (.int n t))) (A2 hs _ _)
theorem idx_list (I:Inv p w C base μ s.heap σ) {n:Nat} {l:List AV} {k:Int} (ro:VR base s.heap μ o (.loc n)) (ri:VR base s.heap μ i (.int k)) (hl:σ[n]?=some (.list l)) (hk:0≤k∧k < 2 ^ 62) (e:l[k.toNat]?=some z) (q:∀ v,VR base s.heap μ v z→Q v s):wpAny (model p w) A (subscriptTail value slice o i) Q E s:=by
 obtain ⟨u,rfl⟩:=ri.x
 obtain ⟨a,vs,rfl,_,pa,va⟩:=I.locList hl ro
 obtain ⟨v,hv,rv⟩:=va.get e
 exact tail_any pa.isList.typeIs slot_list_getitem.lookup (wpAny_getItem_list pa.isList hk.1 (by exact om13 hk) (by rw [List.getElem?_toArray];exact hv) (q v rv)) (A2 hs _ _)
theorem idx_dI (I:Inv p w C base μ s.heap σ) {n:Nat} {l:List (Int×AV)} {k:Int} (ro:VR base s.heap μ o (.loc n)) (ri:VR base s.heap μ i (.int k)) (hl:σ[n]?=some (.dI l)) (e:Ao k l=some z) (q:∀ t v,VR base s.heap μ v z→Q v { s with toks:=t }):wpAny (model p w) A (subscriptTail value slice o i) Q E s:=by
 obtain ⟨u,rfl⟩:=ri.x
 obtain ⟨a,kv,rfl,_,da,pa⟩:=I.locI hl ro
 rcases pa.look k with ⟨h1,_⟩ | ⟨y,v,h1,h2,rv⟩
 ·rw [h1] at e;exact Ae e
 ·rw [h1] at e
  obtain rfl:=oQ e
  exact tail_any da.mapOf.typeIs slot_dict_getitem.lookup (wpAny_getItem_of (knd:=intKind p w) (k:=k) (by simp [intKind,Value.isInt]) da.mapOf h2 (q _ v rv)) (A2 hs _ _)
theorem idx_dS (I:Inv p w C base μ s.heap σ) {n k:Nat} {l:List (Nat×AV)} (ro:VR base s.heap μ o (.loc n)) (ri:VR base s.heap μ i (.str k)) (hl:σ[n]?=some (.dS l)) (e:look k l=some z) (q:∀ t v,VR base s.heap μ v z→Q v { s with toks:=t }):wpAny (model p w) A (subscriptTail value slice o i) Q E s:=by
 obtain ⟨k,u,rfl,hn⟩:=ri.x
 obtain ⟨a,kv,rfl,_,da,pa⟩:=I.locS hl ro
 obtain ⟨v,h2,rv⟩:=pa.look e k hn
 exact tail_any da.mapOf.typeIs slot_dict_getitem.lookup (wpAny_getItem_of (strKind_is p w k u) da.mapOf h2 (q _ v rv)) (A2 hs _ _)
theorem R4 {n:Nat} {k:Int} (ro:VR base s.heap μ o (.str n)) (ri:VR base s.heap μ i (.int k)) (hk:n=kU8∧k=0) (q:∀ t v,VR base s.heap μ v (.str kU)→Q v { s with toks:=t }):wpAny (model p w) A (subscriptTail value slice o i) Q E s:=by
 obtain ⟨u,rfl⟩:=ri.x
 obtain ⟨x,t,rfl,hn⟩:=ro.x
 obtain ⟨rfl,rfl⟩:=hk
 obtain rfl:=Nk hn
 exact tail_any (T:="str") (show typeOf (Value.str _ _)=pure (Value.type "str") from rfl) slot_str_getitem.lookup (getItem_str (c:=117) (by decide) (by decide) (q _ _ (.str _ _ _ (by decide)))) (A2 hs _ _)
end
theorem idx_ {value slice:Expr} (hs:CJ slice=true) (I:Inv p w C base μ s.heap σ) {o i:Value} {y z:AV} (ro:VR base s.heap μ o x) (ri:VR base s.heap μ i y) (e:CM σ x y=some z)
  (q:∀ t v,VR base s.heap μ v z→Q v { s with toks:=t }):wpAny (model p w) A (subscriptTail value slice o i) Q E s:=by
 have q0:∀ v,VR base s.heap μ v z→Q v s:=fun v r=>q s.toks v r
 unfold CM at e
 split at e
 ·split at e
  ·obtain ⟨hl,e⟩:=A7 e
   exact RZ hs ro ri hl e q0
  ·exact Ae e
 ·split at e
  ·obtain ⟨hk,e⟩:=A7 e
   exact N4 hs I ro ri hk e q0
  ·exact Ae e
 ·split at e
  ·split at e
   ·rename_i hl
    obtain ⟨hk,e⟩:=A7 e
    exact idx_list hs I ro ri hl hk e q0
   ·rename_i hl
    exact idx_dI hs I ro ri hl e q
   ·exact Ae e
  ·split at e
   ·rename_i hl
    exact idx_dS hs I ro ri hl e q
   ·exact Ae e
  ·exact Ae e
 ·split at e
  ·obtain ⟨hk,e⟩:=A7 e
   obtain rfl:=oQ e
   exact R4 hs ro ri hk q
  ·exact Ae e
 ·exact Ae e
theorem Jp {items:Array Value} {vl vu:Value} {y z:AV} {a b:Option Nat} {h:Heap} {l:List AV} (va:VRs base h μ items.toList l) (rl:VR base h μ vl y) (ru:VR base h μ vu z) (ha:Gw y=some a) (hb:Gw z=some b) :
  ∃ lo hi,IsPart vl lo∧IsPart vu hi∧VRs base h μ (slicePick items lo hi none).toList (GI l a b):=by
 have NL:∀ {v:Value} {y:AV} {a:Option Nat},VR base h μ v y→Gw y=some a→IsPart v (a.map fun n:Nat=>(n:Int)):=by
  intro v y a r e
  unfold Gw at e
  split at e
  ·(cases e);(cases r);exact .none
  ·split at e
   ·rename_i i h0;(cases e);cases r
    have:((i.toNat:Nat):Int)=i:=by exact om93 h0
    simp only [Option.map_some,this];exact .int _ _
   ·exact Ae e
  ·exact Ae e
 refine ⟨_,_,NL rl ha,NL ru hb,?_⟩
 have hlen:=va.length
 induction a using Option.casesOn with
 | none=>induction b using Option.casesOn with
  | none=>simp only [Option.map_none,GI];rw [slicePick_all];exact va
  | some b=>simp only [Option.map_none,Option.map_some,GI];rw [slicePick_upto'];exact va.take b
 | some a=>induction b using Option.casesOn with
  | none=>simp only [Option.map_none,Option.map_some,GI];rw [slicePick_from'];exact va.drop a
  | some b=>
   simp only [Option.map_some,GI]
   rw [slicePick_plain]
   simp only [Option.elim,clipAt_nat]
   have e:List.take (min b items.size - min a items.size) (List.drop (min a items.size) items.toList)=List.take (b - a) (List.drop a items.toList):=by
    have hz:items.toList.length=items.size:=by simp
    rcases Nat.le_total items.size a with h | h
    ·rw [Nat.min_eq_right h,List.drop_of_length_le (by exact om94 hz),List.drop_of_length_le (by omega)];simp
    ·rw [Nat.min_eq_left h]
     rcases Nat.le_total b items.size with h' | h'
     ·rw [Nat.min_eq_left h']
     ·rw [Nat.min_eq_right h',List.take_of_length_le (by rw [List.length_drop];exact om96 hz),List.take_of_length_le (by rw [List.length_drop];omega)]
   rw [e]
   exact (va.drop a).take (b - a)
theorem ME {lower upper:Option Expr} {pp:Pos} (o i:Value):subscripted (.Slice lower upper none pp) false o i=operate [i,o] (getItem o i):=rfl
section
variable {value:Expr} {lower upper:Option Expr} {pp:Pos} (I:Inv p w C base μ s.heap σ) {o vl vu:Value} {h₁:Heap} (k0:∀ b x,s.heap.get? b=some x→h₁.get? b=some x) {sl:Addr}
include I k0
theorem Rn {l:List AV} {i:Int} (hS:h₁.IsSliceOf sl vl vu .none) (ro:VR base s.heap μ o (.tup l)) (rl:VR base s.heap μ vl (.int i)) (ru:VR base s.heap μ vu .none) (hi:1≤i∧i≤l.length∧l.length≤AX) (R:Res p w C base False μ s (.tup (l.drop i.toNat)) σ Q) :
  wpAny (model p w) A (subscriptTail value (.Slice lower upper none pp) o (.ref sl)) Q E { s with heap:=h₁ }:=by
 obtain rfl:=ru.x
 obtain ⟨u,rfl⟩:=rl.x
 obtain ⟨a,vs,rfl,ta,va⟩:=ro.x
 obtain ⟨n,rfl⟩:=Int.eq_ofNat_of_zero_le (Int.le_trans (by decide) hi.1)
 have hn:n≤vs.toArray.size:=by rw [List.size_toArray,va.length];exact_mod_cast hi.2.1
 have hz:vs.toArray.size≤sizeLine:=by rw [List.size_toArray,va.length];exact Nat.le_trans hi.2.2 AZ
 have ta':IsTup h₁ a vs.toArray:=ta.keeps k0
 refine tail_any (s:={ s with heap:=h₁ }) ta'.typeIs slot_tuple_getitem.lookup (getItem_tuple_from ta' hS (by have:=hi.1;exact om98 this) hn ?_ hz) (ME _ _)
 have k1:∀ b x,s.heap.get? b=some x→(h₁.push { cls:=.type "tuple",data:=.seq (List.drop n vs.toArray.toList).toArray }).get? b=some x:=fun b x e=>Aw _ _ b x (k0 b x e)
 exact R _ μ _ _ (I.grow k1) (Stp.grow k1 trivial) (.tup _ (vs.drop n) (l.drop n) (IsTup.new h₁ (List.drop n vs.toArray.toList).toArray) ((va.drop n).keep (Kp.of_all k1))) fun f=>f.elim
theorem slc_list (hb:base.objs.size≤s.heap.objs.size) (hsz:s.heap.objs.size≤h₁.objs.size) (hS:h₁.IsSliceOf sl vl vu .none) {n:Nat} {l:List AV} {y z:AV} {a b:Option Nat} (ro:VR base s.heap μ o (.loc n)) (rl:VR base s.heap μ vl y) (ru:VR base s.heap μ vu z) (hl:σ[n]?=some (.list l)) (ha:Gw y=some a) (hb':Gw z=some b) (hz:l.length≤AX)
  (R:Res p w C base False μ s (.loc σ.length) (σ++[.list (GI l a b)]) Q):wpAny (model p w) A (subscriptTail value (.Slice lower upper none pp) o (.ref sl)) Q E { s with heap:=h₁ }:=by
 obtain ⟨ad,vs,rfl,_,pa,va⟩:=I.locList hl ro
 obtain ⟨lo,hi,p1,p2,vr⟩:=Jp (items:=vs.toArray) va rl ru ha hb'
 have hz:vs.toArray.size≤sizeLine:=by rw [List.size_toArray,va.length];exact Nat.le_trans hz AZ
 have pl:h₁.IsList ad vs.toArray:=pa.isList.at (k0 ad)
 refine tail_any (s:={ s with heap:=h₁ }) pl.typeIs slot_list_getitem.lookup (wpAny_getItem_list_slice pl hS p1 p2 .none (by simp) ?_ hz) (ME _ _)
 have k1:∀ b x,s.heap.get? b=some x→(h₁.push { cls:=.type "list",data:=.seq (slicePick vs.toArray lo hi none) }).get? b=some x:=fun b x e=>Aw _ _ b x (k0 b x e)
 refine R _ (μ++[(h₁.objs.size,h₁.objs.size)]) _ _ (I.alloc k1 hsz hsz hb (.list _ (slicePick vs.toArray lo hi none).toList _ ⟨0,Heap.get?_push_size _ rfl⟩ (vr.mono (Kp.of_all k1)))) (Stp.alloc k1 trivial hsz hsz) ?_ fun f=>f.elim
 refine .loc σ.length (h₁.objs.size,h₁.objs.size) ?_
 rw [←I.len,List.getElem?_append_right (Nat.le_refl _),Nat.sub_self];rfl
end
theorem slc_ {value:Expr} {lower upper:Option Expr} {pp:Pos} (I:Inv p w C base μ s.heap σ) (hb:base.objs.size≤s.heap.objs.size) {o vl vu:Value} {y z r:AV} (ro:VR base s.heap μ o x) (rl:VR base s.heap μ vl y) (ru:VR base s.heap μ vu z)
  (e:LQ σ x y z=some (r,σ')) (R:Res p w C base False μ s r σ' Q) :
  wpAny (model p w) A (subscriptTail value (.Slice lower upper none pp) o (.ref s.heap.objs.size)) Q E { s with heap:=s.heap.push { cls:=.type "slice",data:=.fields #[vl,vu,.none] } }:=by
 have k0:=Aw s.heap { cls:=.type "slice",data:=.fields #[vl,vu,.none] }
 unfold LQ at e
 split at e
 ·split at e
  ·obtain ⟨hi,e⟩:=A7 e
   exact Rn I k0 (Heap.IsSliceOf.new ..) ro rl ru hi (R.at e)
  ·exact Ae e
 ·split at e
  ·rename_i hl
   split at e
   ·rename_i ha hb'
    obtain ⟨hz,e⟩:=A7 e
    exact slc_list I k0 hb (NI _ _) (Heap.IsSliceOf.new ..) ro rl ru hl ha hb' hz (R.at e)
   ·exact Ae e
  ·exact Ae e
 ·exact Ae e
end
end
section
structure AttrOk (K:Frag) (ca:Addr) (name:Str):Prop where
 get:plainGet K ca name=true
 hd:hasDictIn K ca=true
 fi:∃ attr,findIn K (.ref ca) name=some attr∧noGet K attr=true
 sa:findIn K (.ref ca) (Str.ofString "__setattr__")=some (some (.builtin "object.__setattr__"))
 po:plainOver K ca=true
 tk:takerIn K ca name=some none
section
variable {p:Program} {w:World} {C:BQ} {K:Frag} {base:Heap} {pu:Prop} {μ:A5} {s:Shared} {σ σ':St} {x:AV} {Q:Value→Shared→Prop} {A:Around} {E:Value→Shared→Prop}
theorem StrKeys.noRef {es:List DictEntry} (h:StrKeys es.toArray):(es.any fun e=>e.refKey)=false:=by
 rw [List.any_eq_false]
 intro e he
 obtain ⟨n,t,hk⟩:=h e (by simpa using he)
 simp [DictEntry.refKey,hk]
theorem M4 {es:List DictEntry} (h:StrKeys es.toArray) (name:Str):getL name es=some (nsFind es.toArray name):=by
 unfold getL nsFind findBy
 rw [List.find?_toArray]
 generalize hf:es.find? (fun x=>x.key.isStr name)=zz1
 induction zz1 using Option.casesOn with
 | some e=>simp
 | none=>simp [StrKeys.noRef h]
theorem VR.handedIn {h:Heap} {v:Value} (r:VR base h μ v x):W.handedIn v=true:=by
 cases r<;>rfl
theorem Inv.locInst (I:Inv p w C base μ s.heap σ) {n c:Nat} {l:List (Nat×AV)} (e:σ[n]?=some (.inst c l)) {v:Value} (r:VR base s.heap μ v (.loc n)) :
  ∃ a b ca es k m,v=.ref a∧μ[n]?=some (a,b)∧C c=some ca∧s.heap.get? a=some (instObj ca b)∧s.heap.get? b=some (dictOf es k)∧StrKeys es.toArray∧(∀ name,nsFind es.toArray name=m name)∧es.length≤l.length∧FR base s.heap μ m l:=by
 cases r with
 | loc n q hq=>
  have R:=I.obj n q _ hq e
  cases R with
  | inst a b c ca es k m l hc h1 h2 h3 h4 h5 h6=>exact ⟨a,b,ca,es,k,m,rfl,hq,hc,h1,h2,h3,h4,h5,h6⟩
theorem JI {h:Heap} {a b ca:Addr} {es:List DictEntry} {k:Nat} (h1:h.get? a=some (instObj ca b)) (h2:h.get? b=some (dictOf es k)):W.InstAt h a (instObj ca b) ca (some (dictOf es k)):=
 ⟨h1,rfl,rfl,h2⟩
theorem attr_ {L:Addr} {m:Str→Option Value} (F:Fr base L s.heap m) (X:K.In base) (I:Inv p w C base μ s.heap σ) {o:Value} {z:AV} {f:Nat} {name:Str} {expr:Bool} (hn:code name=some f) (hc:∀ c ca,C c=some ca→AttrOk K ca name)
  (ro:VR base s.heap μ o x) (e:Nt σ x f=some z) (q:∀ t v,VR base s.heap μ v z→Q v { s with toks:=t }):wpAny (model p w) A (getAttr o name expr) Q E s:=by
 unfold Nt at e
 split at e
 ·split at e
  ·rename_i c l hl
   obtain ⟨a,b,ca,es,k,m',rfl,_,hca,h1,h2,h3,h4,h5,h6⟩:=I.locInst hl ro
   have T:=hc c ca hca
   obtain ⟨attr,fi,ng⟩:=T.fi
   have:=h6 name f hn
   rw [e] at this
   obtain ⟨v,hv,rv⟩:=this
   exact get_own F X (JI h1 h2) T.get T.hd fi ng (by rw [M4 h3,h4,hv]) rv.handedIn (q _ v rv)
  ·exact Ae e
 ·exact Ae e
theorem Uh {L:Addr} {m:Str→Option Value} (F:Fr base L s.heap m) (X:K.In base) (I:Inv p w C base μ s.heap σ) {o:Value} {c f:Nat} {ca fa:Addr} {name:Str} {n:Nat} {l:List (Nat×AV)} {pl:Sem Bool} {Q:Value×List Value→Shared→Prop}
  (hn:code name=some f) (hl:σ[n]?=some (.inst c l)) (hlk:look f l=none) (hca:C c=some ca) (hp:plainGet K ca name=true) (hf:findIn K (.ref ca) name=some (some (.ref fa))) (hi:isFn K (.ref fa)=true)
  (ro:VR base s.heap μ o (.loc n)) (q:Q (.ref fa,[o]) s):wpAny (model p w) A (getMethod o name pl) Q E s:=by
 obtain ⟨a,b,ca',es,k,m',rfl,_,hca',h1,h2,h3,h4,h5,h6⟩:=I.locInst hl ro
 rw [hca] at hca';cases hca'
 have:=h6 name f hn
 rw [hlk] at this
 exact method_inst F X (JI h1 h2) hp hf hi (by rw [M4 h3,h4,this]) q
theorem SP {a b:Str} {n m:Nat} (ha:code a=some n) (hb:code b=some m):(a=b)=(n=m):=by
 by_cases e:a=b
 ·subst e;rw [ha] at hb;(cases hb);simp
 ·have:n≠m:=by rintro rfl;exact e (Bo ha hb)
  simp [e,this]
theorem look_put (l:List (Nat×AV)) (f g:Nat) (v:AV):look f (put g v l)=if f=g then some v else look f l:=by
 induction l with
 | nil=>by_cases h:f=g<;>simp [put,look,h]
 | cons kv l ih=>
  obtain ⟨k,u⟩:=kv
  by_cases hg:g=k
  ·subst hg
   by_cases h:f=g<;>simp [put,look,h]
  ·by_cases h:f=k
   ·subst h
    have:¬ f=g:=fun e=>hg e.symm
    simp [put,look,hg,this]
   ·simp [put,look,hg,h,ih]
theorem L4 (l:List (Nat×AV)) (g:Nat) (v:AV):(put g v l).length=if (look g l).isSome then l.length else l.length+1:=by
 induction l with
 | nil=>simp [put,look]
 | cons kv l ih=>
  obtain ⟨k,u⟩:=kv
  by_cases hg:g=k
  ·simp [put,look,hg]
  ·simp only [put,look,hg,if_false,List.length_cons,ih]
   split<;>rfl
theorem TU (X:K.In s.heap) (I:Inv p w C base μ s.heap σ) {a:Addr} {v:Value} {z:AV} {f n c:Nat} {name:Str} {l:List (Nat×AV)} {R:Result→Shared→Prop} {tk:Tok} (hn:code name=some f) (hc:∀ c ca,C c=some ca→AttrOk K ca name)
  (hl:σ[n]?=some (.inst c l)) (hz:l.length≤20) (ro:VR base s.heap μ (.ref a) (.loc n)) (rv:VR base s.heap μ v z)
  (q:∀ h' t,Inv p w C base μ h' (σ.set n (.inst c (put f z l)))→Stp μ s.heap μ h'→R (.ok (.ret .none)) (AS s h' t)) :
  codeAny (model p w) A (.call (.builtin "object.__setattr__") ⟨[.ref a,.str name tk,v],[]⟩) R s:=by
 obtain ⟨a,b,ca,es,k,m',e0,hq,hca,h1,h2,h3,h4,h5,h6⟩:=I.locInst hl ro
 cases e0
 have T:=hc c ca hca
 have J:=JI h1 h2
 refine osa_open X J T.po T.tk fun bb=>?_
 obtain ⟨cd,hcd,hd'⟩:=any_some T.hd
 refine wpAny_bind (wpAny_pure (wpAny_bind (wpAny_bind (wpAny_loadPart h1 (wpAny_bind ((looks_clsIn X hcd).here ?_))))))
 rw [hd']
 refine wpAny_pure (a:=some b) (wpAny_bind (wpAny_pure (wpAny_bind ?_)))
 unfold nsSet
 refine wpAny_bind (wpAny_bind (wpAny_askSetting (wpAny_pure (wpAny_bind (wpAny_mkText (wpAny_bind (wpAny_loadPart h2 ?_)))))))
 dsimp only
 have hnr:es.toArray.any (fun e=>e.refKey)=false:=by
  have:=StrKeys.noRef h3
  rw [←Array.any_toList];exact this
 rw [aRefKeyMayBeTheName_at,hnr,Bool.and_false]
 refine wpAny_updatePart h2 ?_
 have SB:Heap.SameBut b s.heap (s.heap.update b (Obj.putName name (PyData.keyHash w.params name) (.str name s.toks) v)):=Heap.SameBut.update ..
 have new:∃ es' k',(s.heap.update b (Obj.putName name (PyData.keyHash w.params name) (.str name s.toks) v)).get? b=some (dictOf es' k')∧StrKeys es'.toArray∧(∀ y,nsFind es'.toArray y=if y=name then some v else m' y) ∧
   es'.length=if (m' name).isSome then es.length else es.length+1:=by
  generalize hi:es.toArray.findIdx? (·.key.isStr name)=zz9
  induction zz9 using Option.casesOn with
  | some i=>
   have e:Obj.putName name (PyData.keyHash w.params name) (.str name s.toks) v (dictOf es k)=dictOf (es.toArray.modify i fun e=>{ e with val:=v }).toList k:=by
    simp only [Obj.putName_eq,Obj.putNameByArray,hi,dictOf]
   refine ⟨_,_,(Heap.get?_update_self _ h2 (by rw [e];rfl)).trans (by rw [e]),?_,fun y=>?_,?_⟩
   ·simpa using h3.modify _ _
   ·rw [←h4]
    simpa [nsFind] using findBy_modify (fun n v=>v.isStr n) Value.isStr_inj es.toArray name y v i hi
   ·have hs:(m' name).isSome=true:=by
     rw [←h4]
     unfold nsFind findBy
     have:=Array.findIdx?_eq_some_iff_findIdx_eq.mp hi
     rw [Option.isSome_map]
     rw [Array.find?_isSome]
     obtain ⟨hlt,_⟩:=this
     have:=Array.findIdx?_eq_some_iff_getElem.mp hi
     obtain ⟨h,hp,_⟩:=this
     exact ⟨_,Array.getElem_mem h,hp⟩
    rw [if_pos hs];simp
  | none=>
   have e:Obj.putName name (PyData.keyHash w.params name) (.str name s.toks) v (dictOf es k)=dictOf (es++[⟨PyData.keyHash w.params name,.str name s.toks,v⟩]) (k+1):=by
    simp only [Obj.putName_eq,Obj.putNameByArray,hi,dictOf]
    simp
   refine ⟨_,_,(Heap.get?_update_self _ h2 (by rw [e];rfl)).trans (by rw [e]),?_,fun y=>?_,?_⟩
   ·simpa using h3.push (PyData.keyHash w.params name) name s.toks v
   ·rw [←h4]
    have:=findBy_push (fun n v=>v.isStr n) es.toArray name y (PyData.keyHash w.params name) (.str name s.toks) v (fun y=>by
     show (name==y)=decide (y=name)
     by_cases h:y=name
     ·subst h;simp
     ·have:¬ name=y:=fun e=>h e.symm
      simp [h,this]) hi
    simpa [nsFind] using this
   ·have hs:(m' name).isSome=false:=by
     rw [←h4]
     unfold nsFind findBy
     rw [Option.isSome_map]
     have:=Array.findIdx?_eq_none_iff.mp hi
     generalize hf:es.toArray.find? (fun e=>e.key.isStr name)=zz10
     induction zz10 using Option.casesOn with
     | none=>rfl
     | some e=>
      have h1:=Array.mem_of_find?_eq_some hf
      have h2:=Array.find?_some hf
      have:=this e h1
      exact absurd h2 (by rw [this];decide)
    rw [hs];simp
 obtain ⟨es',k',n1,n2,n3,n4⟩:=new
 refine wpAny_bind (wpAny_lookBehind n1 ?_ ?_)
 ·refine pastItsLine_dict ?_
  have h9:=AZ
  have:AX=1000000:=rfl
  rw [List.size_toArray,n4]
  split<;>omega
 refine wpAny_pure (q _ _ (I.write hq hl (.inr rfl) SB (fun x hx=>by rw [h2] at hx;(cases hx);exact ⟨fun x=>by injection x with x;revert x;decide,fun x=>by injection x with x;revert x;decide⟩) ?_) (Stp.write hq (.inr rfl) SB))
 have kb:∀ c o,c≠b→s.heap.get? c=some o→(s.heap.update b (Obj.putName name (PyData.keyHash w.params name) (.str name s.toks) v)).get? c=some o:=fun c o hc e=>SB.extBut c o hc e
 have kp:Kp s.heap (s.heap.update b (Obj.putName name (PyData.keyHash w.params name) (.str name s.toks) v)):=Kp.of_cls fun c o e hcls=>kb c o (by rintro rfl;rw [h2] at e;(cases e);rcases hcls with hcls | hcls<;>(injection hcls with x;revert x;decide)) e
 refine .inst a b c ca es' k' (fun y=>if y=name then some v else m' y) (put f z l) hca (kb a _ ?_ h1) n1 n2 n3 ?_ ?_
 ·rintro rfl;rw [h1] at h2;cases h2
 ·rw [n4,L4]
  have:=h6 name f hn
  generalize hlk:look f l=zz14
  induction zz14 using Option.casesOn with
  | none=>rw [hlk] at this;rw [this];simp;exact h5
  | some y=>rw [hlk] at this;obtain ⟨u,hu,_⟩:=this;rw [hu];simp;exact h5
 ·intro y g hg
  rw [look_put]
  have e:(y=name)=(g=f):=SP hg hn
  by_cases hy:g=f
  ·rw [if_pos hy]
   exact ⟨v,if_pos (e▸hy),rv.keep kp⟩
  ·rw [if_neg hy]
   have hy':¬ y=name:=by rw [e];exact hy
   have:=h6 y g hg
   generalize hlk:look g l=zz15
   induction zz15 using Option.casesOn with
   | none=>rw [hlk] at this;simp only [if_neg hy'];exact this
   | some u=>rw [hlk] at this;obtain ⟨v',hv',rv'⟩:=this;exact ⟨v',by simp only [if_neg hy'];exact hv',rv'.keep kp⟩
theorem OZ (X:K.In s.heap) (I:Inv p w C base μ s.heap σ) {o v:Value} {z:AV} {f n c:Nat} {name:Str} {l:List (Nat×AV)} {Q:Unit→Shared→Prop} (hn:code name=some f) (hc:∀ c ca,C c=some ca→AttrOk K ca name)
  (hl:σ[n]?=some (.inst c l)) (hz:l.length≤20) (ro:VR base s.heap μ o (.loc n)) (rv:VR base s.heap μ v z)
  (q:∀ h' t,Inv p w C base μ h' (σ.set n (.inst c (put f z l)))→Stp μ s.heap μ h'→Q () (AS s h' t)):wpAny (model p w) A (setAttr o name v) Q E s:=by
 obtain ⟨a,b,ca,es,k,m',rfl,hq,hca,h1,h2,h3,h4,h5,h6⟩:=I.locInst hl ro
 have T:=hc c ca hca
 have J:=JI h1 h2
 refine set_plain X J T.sa ?_
 exact TU (s:={ s with toks:=s.toks+1 }) X I hn hc hl hz ro rv fun h' t i st=>q h' t i st
end
end
section
section
variable {p:Program} {w:World} {C:BQ} {K:Frag} {base:Heap} {pu:Prop} {μ:A5} {s:Shared} {σ σ':St} {x:AV} {Q:Value→Shared→Prop} {A:Around} {E:Value→Shared→Prop}
theorem Jx (f:Array Value→Array Value) (its:Array Value) (n:Nat):∃ k,Obj.mapSeq f { cls:=.type "list",data:=.seq its n }={ cls:=.type "list",data:=.seq (f its) k }:=⟨_,rfl⟩
theorem FB {h:Heap} {a:Addr} {its:Array Value} {n:Nat} (e:h.get? a=some { cls:=.type "list",data:=.seq its n }) (f:Array Value→Array Value):(h.update a (Obj.mapSeq f)).PlainList a (f its):=by
 obtain ⟨k,hk⟩:=Jx f its n
 exact ⟨k,by rw [Heap.get?_update_self _ e (by rw [hk];rfl),hk]⟩
theorem Inv.setList {h h':Heap} (I:Inv p w C base μ h σ) {n:Nat} {a:Addr} {o:AO} {xs:Array Value} {vs:List Value} {l:List AV} (hq:μ[n]?=some (a,a)) (ho:σ[n]?=some o) (hp:h.PlainList a xs) (SB:Heap.SameBut a h h') (hp':h'.PlainList a vs.toArray)
  (va:VRs base h μ vs l):Inv p w C base μ h' (σ.set n (.list l)):=by
 obtain ⟨k,hk⟩:=hp
 have kp:Kp h h':=Kp.of_cls fun c o e hc=>SB.extBut c o (by rintro rfl;rw [hk] at e;(cases e);rcases hc with hc | hc<;>(injection hc with x;revert x;decide)) e
 exact I.write hq ho (.inl rfl) SB (fun x hx=>by rw [hk] at hx;(cases hx);exact ⟨fun x=>by injection x with x;revert x;decide,fun x=>by injection x with x;revert x;decide⟩) (.list a vs l hp' (va.keep kp))
theorem Inv.setI {h h':Heap} (I:Inv p w C base μ h σ) {n:Nat} {a:Addr} {o:AO} {r:List (Int×Value)} {kv:List (Int×Value)} {l:List (Int×AV)} (hq:μ[n]?=some (a,a)) (ho:σ[n]?=some o) (hp:h.DictOf (intKind p w) a r) (SB:Heap.SameBut a h h') (hp':h'.DictOf (intKind p w) a kv)
  (va:PRI base h μ kv l):Inv p w C base μ h' (σ.set n (.dI l)):=by
 obtain ⟨o',es,ep,ho',hc',_⟩:=hp
 have kp:Kp h h':=Kp.of_cls fun c o e hc=>SB.extBut c o (by rintro rfl;rw [ho'] at e;(cases e);rw [hc'.1] at hc;rcases hc with hc | hc<;>(injection hc with x;revert x;decide)) e
 exact I.write hq ho (.inl rfl) SB (fun x hx=>by rw [ho'] at hx;(cases hx);rw [hc'.1];exact ⟨fun x=>by injection x with x;revert x;decide,fun x=>by injection x with x;revert x;decide⟩) (.dI a kv l hp' (va.keep kp))
theorem Ip {l:Addr} {items:Array Value} {k:Int} {t:Tok} {v:Value} {Q:Unit→Shared→Prop} (hl:s.heap.PlainList l items)
  (h0:0≤k) (hfit:k < 2 ^ 63) (hn:k < items.size)
  (hQ:∀ h',h'.PlainList l (items.setIfInBounds k.toNat v)→Heap.SameBut l s.heap h'→Q () { s with heap:=h' }) :
  wpAny (model p w) A (setItem (.ref l) (.int k t) v) Q E s:=by
 obtain ⟨n,ho⟩:=id hl
 have hl':=hl.isList
 unfold setItem
 try with_reducible refine wpAny_holding ?_
 first | refine wpAny_bind (wpAny_pure ?_) | skip
 refine wpAny_bind (wpAny_sequenceKey hl'.typeIs (by decide) ?_)
 refine wpAny_bind (wpAny_callSpecial?_slot (name:=Str.ofString "__setitem__") hl'.typeIs slot_list_setitem
  (wpAny_call_entry slot_list_setitem hl'.typeIs entry_list_setitem ?_ (args_list_setitem _ _ _)))
 show wpAny _ _ (Builtin.List.listSubscript? (.int k t) >>= _) _ _ s
 refine wpAny_bind (wpAny_listSubscript_int (fitsIndex_of h0 hfit) ?_)
 clear hfit
 obtain ⟨j,rfl⟩:=Int.eq_ofNat_of_zero_le h0
 have hj:j < items.size:=by exact om4 hn
 have hx':items[j]?=some items[j]:=Array.getElem?_eq_getElem hj
 show wpAny _ _ ((seqItemAt l j >>= fun r=>pure (r.map (j,·))) >>= _) _ _ s
 refine wpAny_bind (wpAny_bind (wpAny_seqItemAt ho rfl (wpAny_pure ?_)))
 rw [hx']
 show wpAny _ _ (setSeqItemAt l j v >>= _) _ _ s
 refine wpAny_bind (wpAny_setSeqItemAt ho rfl ?_)
 first
  | exact wpAny_bind (wpAny_pure (wpAny_pure ⟨.none,rfl,wpAny_pure (hQ _ (FB ho _) (Heap.SameBut.update ..))⟩))
  | exact wpAny_pure ⟨.none,rfl,wpAny_pure (hQ _ (FB ho _) (Heap.SameBut.update ..))⟩
theorem VR.noCls (C:Prop):True:=trivial
noncomputable def mname (m:Nat):Str:=Str.ofString (if m=Dm then "append" else if m=Fv then "pop" else if m=ER then "extend" else "get")
theorem mname_of {m:Nat} {name:Str} (hm:m=Dm∨m=Fv∨m=ER∨m=HL) (hn:code name=some m):name=mname m:=by
 rcases hm with rfl | rfl | rfl | rfl<;>exact Bo hn (by decide)
theorem Ug (I:Inv p w C base μ s.heap σ) {o:Value} {n m:Nat} {l:List AV} {name:Str} {pl:Sem Bool} {Q:Value×List Value→Shared→Prop} (hl:σ[n]?=some (.list l)) (ro:VR base s.heap μ o (.loc n)) (hm:m=Dm∨m=Fv∨m=ER) (hn:code name=some m)
  (q:Q (.builtin (if m=Dm then "list.append" else if m=Fv then "list.pop" else "list.extend"),[o]) s):wpAny (model p w) A (getMethod o name pl) Q E s:=by
 obtain ⟨a,vs,rfl,_,⟨k,pa⟩,va⟩:=I.locList hl ro
 have hd:∀ b,Value.ref a=.ref b→∃ o,s.heap.get? b=some o∧o.dict=none:=fun b e=>by (cases e);exact ⟨_,pa,rfl⟩
 have hT:s.TypeIs (.ref a) "list":=⟨_,pa,rfl⟩
 rcases hm with rfl | rfl | rfl
 ·rw [show name=Str.ofString "append" from Bo hn (by decide)]
  exact getMethod_builtin hT PySem.F.plainAttrs_list PySem.F.slot_list_append PySem.F.type_list_append hd q
 ·rw [show name=Str.ofString "pop" from Bo hn (by decide)]
  exact getMethod_builtin hT PySem.F.plainAttrs_list PySem.F.slot_list_pop PySem.F.type_list_pop hd q
 ·rw [show name=Str.ofString "extend" from Bo hn (by decide)]
  exact getMethod_builtin hT PySem.F.plainAttrs_list PySem.F.slot_list_extend PySem.F.type_list_extend hd q
theorem Ui (I:Inv p w C base μ s.heap σ) {o:Value} {n m:Nat} {l:List (Int×AV)} {name:Str} {pl:Sem Bool} {Q:Value×List Value→Shared→Prop} (hl:σ[n]?=some (.dI l)) (ro:VR base s.heap μ o (.loc n)) (hm:m=Fv∨m=HL) (hn:code name=some m)
  (q:Q (.builtin (if m=Fv then "dict.pop" else "dict.get"),[o]) s):wpAny (model p w) A (getMethod o name pl) Q E s:=by
 obtain ⟨a,kv,rfl,_,da,pa⟩:=I.locI hl ro
 rcases hm with rfl | rfl
 ·rw [show name=Str.ofString "pop" from Bo hn (by decide)]
  exact getMethod_builtin da.typeIs PySem.F.plainAttrs_dict PySem.F.slot_dict_pop PySem.F.type_dict_pop da.mapOf.noDict q
 ·rw [show name=Str.ofString "get" from Bo hn (by decide)]
  exact getMethod_builtin da.typeIs PySem.F.plainAttrs_dict PySem.F.slot_dict_get PySem.F.type_dict_get da.mapOf.noDict q
theorem VRs.inv {base h:Heap} {vs:List Value} {l:List AV} (r:VRs base h μ vs l):match l with | []=>vs=[] | y::l=>∃ v us,vs=v::us∧VR base h μ v y∧VRs base h μ us l:=by
 cases r with
 | nil=>exact rfl
 | cons v y us l e r=>exact ⟨v,us,rfl,e,r⟩
theorem KA {o:Option AO} {l:List AV} (h:CT o=some l):o=some (.list l):=by
 induction o using Option.casesOn with
 | none=>exact Ae h
 | some o=>induction o using AO.casesOn with
  | list m=>exact congrArg (fun l=>some (AO.list l)) (oQ h)
  | _=>exact Ae h
theorem VRs.one_ {base h:Heap} {vs:List Value} {y:AV} (r:VRs base h μ vs [y]):∃ v,vs=[v]∧VR base h μ v y:=by
 obtain ⟨v,us,rfl,rv,r⟩:=r.inv
 have e:us=[]:=r.inv
 exact ⟨v,by rw [e],rv⟩
theorem VRs.two_ {base h:Heap} {vs:List Value} {y z:AV} (r:VRs base h μ vs [y,z]):∃ v u,vs=[v,u]∧VR base h μ v y∧VR base h μ u z:=by
 obtain ⟨v,us,rfl,rv,r⟩:=r.inv
 obtain ⟨u,rfl,ru⟩:=r.one_
 exact ⟨v,u,rfl,rv,ru⟩
section
variable (I:Inv p w C base μ s.heap σ) {a:Addr} {n:Nat} {l:List AV} {us:List Value} (hl:σ[n]?=some (.list l)) (hq:μ[n]?=some (a,a)) (pl:s.heap.PlainList a us.toArray) (va:VRs base s.heap μ us l)
include I hl hq pl va
theorem PL {v1:Value} {v:AV} (rv:VR base s.heap μ v1 v) (hz:l.length < AX) (R:Res p w C base False μ s .none (σ.set n (.list (l++[v]))) Q):wpAny (model p w) A (call (.builtin "list.append") [.ref a,v1]) Q E s:=by
 refine wpAny_list_append_plain pl (fun h' hp SB=>?_) (by rw [List.size_toArray,va.length];exact Nat.le_trans (Nat.le_of_lt hz) AZ)
 exact R .none μ h' s.toks (I.setList (vs:=us++[v1]) hq hl pl SB (by rwa [List.push_toArray] at hp) (va.append (.one rv))) (Stp.write hq (.inl rfl) SB) .none fun f=>f.elim
theorem lpop_ {y:AV} (hy:l.getLast?=some y) (hz:l.length≤AX) (R:Res p w C base False μ s y (σ.set n (.list l.dropLast)) Q):wpAny (model p w) A (call (.builtin "list.pop") [.ref a]) Q E s:=by
 obtain ⟨k,pa⟩:=id pl
 have hul:=va.length
 have hz':us.toArray.size≤sizeLine:=by rw [List.size_toArray,hul];exact Nat.le_trans hz AZ
 rw [List.getLast?_eq_getElem?] at hy
 obtain ⟨v,hv,rv⟩:=va.get hy
 have hpos:0 < us.length:=Nat.lt_of_le_of_lt (Nat.zero_le _) (List.getElem?_eq_some_iff.mp hv).1
 refine call_meets PySem.F.slot_list_pop ⟨_,pa,rfl⟩ PySem.F.entry_list_pop (PySem.F.args_list_pop_1 _) (PySem.MeetsSeq.list_pop_last a us.toArray k v (by rw [List.size_toArray,List.getElem?_toArray,hul];exact hv) hz') ⟨pa,?_⟩
 have hp:=FB pa (fun xs=>xs.eraseIdxIfInBounds (us.toArray.size - 1))
 have he:(us.toArray.eraseIdxIfInBounds (us.toArray.size - 1))=(us.take (us.length - 1)).toArray:=by
  apply Array.toList_inj.mp
  unfold Array.eraseIdxIfInBounds
  rw [dif_pos (by rw [List.size_toArray];exact Nat.sub_lt hpos Nat.one_pos),Array.toList_eraseIdx,List.size_toArray,List.eraseIdx_eq_take_drop_succ,Nat.sub_add_cancel hpos,List.drop_length,List.append_nil]
 have SB:Heap.SameBut a s.heap (s.heap.update a (Obj.mapSeq fun xs=>xs.eraseIdxIfInBounds (us.toArray.size - 1))):=Heap.SameBut.update ..
 rw [he] at hp
 refine R v μ _ s.toks (I.setList (vs:=us.take (us.length - 1)) hq hl pl SB hp (by rw [List.dropLast_eq_take,←hul];exact va.take _)) (Stp.write hq (.inl rfl) SB) ?_ fun f=>f.elim
 exact rv.keep <| Kp.of_cls fun c o e hc=>SB.extBut c o (by rintro rfl;rw [pa] at e;(cases e);rcases hc with hc | hc<;>(injection hc with x;revert x;decide)) e
theorem PH {v1:Value} {b:Nat} {r:List AV} (rv:VR base s.heap μ v1 (.loc b)) (hr:σ[b]?=some (.list r)) (hz:a≠a∨l.length+r.length≤AX) (R:Res p w C base False μ s .none (σ.set n (.list (l++r))) Q):wpAny (model p w) A (call (.builtin "list.extend") [.ref a,v1]) Q E s:=by
 obtain ⟨k,pa⟩:=id pl
 obtain ⟨b',us2,rfl,hq2,⟨k2,pb⟩,vb⟩:=I.locList hr rv
 have hsz:us.toArray.size+us2.toArray.size≤sizeLine:=by rw [List.size_toArray,List.size_toArray,va.length,vb.length];exact Nat.le_trans (hz.resolve_left fun h=>h rfl) AZ
 refine call_meets PySem.F.slot_list_extend ⟨_,pa,rfl⟩ PySem.F.entry_list_extend (PySem.F.args_list_extend_2 _ _)
  (PySem.AutoSeq1.list_extend_list_list_0 a us.toArray k b' us2.toArray k2 (extend_door hsz) (Nat.le_trans (Nat.le_add_right _ _) hsz) (Nat.le_succ_of_le hsz)) ⟨pa,pb,?_⟩
 have SB:Heap.SameBut a s.heap (s.heap.update a (Obj.mapSeq fun x=>x++us2.toArray)):=Heap.SameBut.update ..
 have hp:=FB pa (fun x=>x++us2.toArray)
 exact R .none μ _ s.toks (I.setList (vs:=us++us2) hq hl pl SB (by rwa [List.append_toArray] at hp) (va.append vb)) (Stp.write hq (.inl rfl) SB) .none fun f=>f.elim
end
theorem UN (I:Inv p w C base μ s.heap σ) {o:Value} {n m:Nat} {l:List AV} {vs:List Value} {xs:List AV} (hl:σ[n]?=some (.list l)) (ro:VR base s.heap μ o (.loc n)) (rs:VRs base s.heap μ vs xs) (e:IN m n l xs σ=some (x,σ'))
  (R:Res p w C base False μ s x σ' Q):wpAny (model p w) A (call (.builtin (if m=Dm then "list.append" else if m=Fv then "list.pop" else "list.extend")) (o::vs)) Q E s:=by
 obtain ⟨a,us,rfl,hq,pl,va⟩:=I.locList hl ro
 refine MP e (fun hm v e1 hz e=>?_) (fun hm e1 hz y hy e=>?_) fun hm b e1 r hr hz e=>?_
 ·rw [e1] at rs;obtain ⟨v,rfl,rv⟩:=rs.one_;rw [hm];exact PL I hl hq pl va rv hz (R.at e)
 ·rw [e1] at rs;obtain rfl:vs=[]:=rs.inv;rw [hm];exact lpop_ I hl hq pl va hy hz (R.at e)
 ·rw [e1] at rs;obtain ⟨v,rfl,rv⟩:=rs.one_;rw [hm];exact PH I hl hq pl va rv (KA hr) (.inr hz) (R.at e)
theorem MY {h h':Heap} {it:Addr} {o:Obj} {es:Array DictEntry} {ep:Nat} (e:h.get? it=some o) (hd:o.data=.dict es ep) (k:∀ b x,b≠it→h.get? b=some x→h'.get? b=some x):Kp h h':=fun c x e' hx=>k c x (by
 rintro rfl
 rw [e] at e'
 obtain rfl:=oQ e'
 rcases hx with ⟨_,a,n,e⟩ | ⟨_,v,e⟩<;>(rw [hd] at e;exact nomatch e)) e'
theorem Gr (p:Program) (w:World) (i:Int) (t:Tok):(intKind p w).is i (.int i t)=true:=by simp [intKind,Value.isInt]
section
variable (I:Inv p w C base μ s.heap σ) (hb:sysModules < base.objs.size) {pu:Prop} {a:Addr} {n:Nat} {l:List (Int×AV)} {kv:List (Int×Value)} (hl:σ[n]?=some (.dI l)) (hq:μ[n]?=some (a,a)) (da:s.heap.DictOf (intKind p w) a kv) (pa:PRI base s.heap μ kv l) {k:Int} {t:Tok}
include I hb hl hq da pa
theorem UF (R:Res p w C base pu μ s ((Ao k l).getD .none) σ Q):wpAny (model p w) A (call (.builtin "dict.get") [.ref a,.int k t]) Q E s:=by
 refine call_meetsIn PySem.F.slot_dict_get da.typeIs PySem.F.entry_dict_get (PySem.F.args_dict_get_2 _ _) (meets_dict_get (intKind p w) a (Gr p w k t) (I.notSys hb hq)) ⟨_,da.mapOf,?_⟩
 rcases pa.look k with ⟨h1,h2⟩ | ⟨y,v,h1,h2,rv⟩
 ·rw [h1] at R;rw [h2];exact R.same I .none _
 ·rw [h1] at R;rw [h2];exact R.same I rv _
theorem UE {v2:Value} {d:AV} (rv2:VR base s.heap μ v2 d) (R:Res p w C base pu μ s ((Ao k l).getD d) σ Q):wpAny (model p w) A (call (.builtin "dict.get") [.ref a,.int k t,v2]) Q E s:=by
 refine call_meetsIn PySem.F.slot_dict_get da.typeIs PySem.F.entry_dict_get (PySem.F.args_dict_get_3 _ _ _) (meets_dict_get_default (intKind p w) a (Gr p w k t) (I.notSys hb hq) v2) ⟨_,da.mapOf,?_⟩
 rcases pa.look k with ⟨h1,h2⟩ | ⟨y,v,h1,h2,rv⟩
 ·rw [h1] at R;rw [h2];exact R.same I rv2 _
 ·rw [h1] at R;rw [h2];exact R.same I rv _
theorem Tx (npu:¬ pu) {h':Heap} {v:Value} {y:AV} {tk:Tok} (rv:VR base s.heap μ v y) (hd:h'.DictOf (intKind p w) a (without kv k)) (SB:Heap.SameBut a s.heap h') (R:Res p w C base pu μ s y (σ.set n (.dI (DV k l))) Q):Q v (AS s h' tk):=by
 obtain ⟨o,es,ep,ho,_,hdt,_,_,hnd⟩:=id da
 exact R v μ h' tk (I.setI hq hl da SB hd (pa.del hnd k)) (Stp.write hq (.inl rfl) SB) (rv.keep (MY ho hdt fun b o hb e=>SB.extBut b o hb e)) fun h=>absurd h npu
theorem dpop_ (npu:¬ pu) {y:AV} {ws:List Value} (hws:ws=[]∨∃ d,ws=[d]) (hz:l.length≤AX) (h1:Ao k l=some y) (R:Res p w C base pu μ s y (σ.set n (.dI (DV k l))) Q):wpAny (model p w) A (call (.builtin "dict.pop") (.ref a::.int k t::ws)) Q E s:=by
 have hs:kv.length≤sizeLine:=by rw [pa.length];exact Nat.le_trans hz AZ
 rcases pa.look k with ⟨h1',_⟩ | ⟨y',v,h1',h2,rv⟩
 ·rw [h1] at h1';exact nomatch h1'
 ·rw [h1] at h1'
  obtain rfl:=oQ h1'
  rcases hws with rfl | ⟨d,rfl⟩
  ·exact call_meetsIn PySem.F.slot_dict_pop da.typeIs PySem.F.entry_dict_pop (PySem.F.args_dict_pop_2 _ _) (meets_dict_pop_there (intKind p w) a (Gr p w k t) [] (.inl rfl) rfl) ⟨kv,v,da,hs,h2,fun h' hmm SB=>Tx I hb hl hq da pa npu rv hmm SB R⟩
  ·exact call_meetsIn PySem.F.slot_dict_pop da.typeIs PySem.F.entry_dict_pop (PySem.F.args_dict_pop_3 _ _ _) (meets_dict_pop_there (intKind p w) a (Gr p w k t) [d] (.inr ⟨d,rfl⟩) rfl) ⟨kv,v,da,hs,h2,fun h' hmm SB=>Tx I hb hl hq da pa npu rv hmm SB R⟩
theorem SF {v2:Value} {d:AV} (rv2:VR base s.heap μ v2 d) (h1:Ao k l=none) (R:Res p w C base pu μ s d σ Q):wpAny (model p w) A (call (.builtin "dict.pop") [.ref a,.int k t,v2]) Q E s:=by
 rcases pa.look k with ⟨_,h2⟩ | ⟨y',v,h1',h2,rv⟩
 ·exact call_meetsIn PySem.F.slot_dict_pop da.typeIs PySem.F.entry_dict_pop (PySem.F.args_dict_pop_3 _ _ _) (meets_dict_pop_default (intKind p w) a (Gr p w k t) (I.notSys hb hq) rfl v2) ⟨kv,da,h2,R.same I rv2 _⟩
 ·rw [h1] at h1';exact Ae h1'
end
theorem UO (I:Inv p w C base μ s.heap σ) (hb:sysModules < base.objs.size) {pu:Prop} {o:Value} {n m:Nat} {l:List (Int×AV)} {vs:List Value} {xs:List AV} (hl:σ[n]?=some (.dI l)) (ro:VR base s.heap μ o (.loc n)) (rs:VRs base s.heap μ vs xs) (e:IO m n l xs σ=some (x,σ')) (hpu:pu→m=HL)
  (R:Res p w C base pu μ s x σ' Q):wpAny (model p w) A (call (.builtin (if m=Fv then "dict.pop" else "dict.get")) (o::vs)) Q E s:=by
 obtain ⟨a,kv,rfl,hq,da,pa⟩:=I.locI hl ro
 refine MQ e (fun hm i e1 e=>?_) (fun hm i d e1 e=>?_) (fun hm i y e1 hz h1 e=>?_) fun hm i d e1 h1 e=>?_
 ·rw [e1] at rs;obtain ⟨v,rfl,rv⟩:=rs.one_;obtain ⟨t,rfl⟩:=rv.x;rw [hm];exact UF I hb hl hq da pa (R.at e)
 ·rw [e1] at rs;obtain ⟨v,v2,rfl,rv,rv2⟩:=rs.two_;obtain ⟨t,rfl⟩:=rv.x;rw [hm];exact UE I hb hl hq da pa rv2 (R.at e)
 ·have npu:¬ pu:=fun h=>absurd (hm.symm.trans (hpu h)) (by decide)
  have key:∃ t ws,vs=.int i t::ws∧(ws=[]∨∃ d,ws=[d]):=e1.elim (fun e1=>(e1▸rs).one_.elim fun v h=>h.2.x.elim fun t e=>⟨t,[],e▸h.1,.inl rfl⟩)
   fun ⟨d,e1⟩=>(e1▸rs).two_.elim fun v h=>h.elim fun u h=>h.2.1.x.elim fun t e=>⟨t,[u],e▸h.1,.inr ⟨u,rfl⟩⟩
  obtain ⟨t,ws,rfl,hws⟩:=key
  rw [hm];exact dpop_ I hb hl hq da pa npu hws hz h1 (R.at e)
 ·rw [e1] at rs;obtain ⟨v,v2,rfl,rv,rv2⟩:=rs.two_;obtain ⟨t,rfl⟩:=rv.x;rw [hm];exact SF I hb hl hq da pa rv2 h1 (R.at e)
end
end
section
section
variable {p:Program} {w:World} {C:BQ} {K:Frag} {base:Heap} {pu:Prop} {μ:A5} {s:Shared} {σ σ':St} {x:AV} {Q:Value→Shared→Prop} {A:Around} {E:Value→Shared→Prop}
theorem OY (I:Inv p w C base μ s.heap σ) {o v:Value} {n:Nat} {k:Int} {t:Tok} {z:AV} {Q:Unit→Shared→Prop} {ao:AO} (ro:VR base s.heap μ o (.loc n)) (rv:VR base s.heap μ v z)
  (e:(match σ[n]? with
    | some (.list l)=>if 0≤k∧k < l.length∧l.length≤AX then some (AO.list (l.set k.toNat z)) else none
    | some (.dI l)=>if l.length < AX then some (AO.dI (Br k z l)) else none
    | _=>none)=some ao)
  (q:∀ h' t,Inv p w C base μ h' (σ.set n ao)→Stp μ s.heap μ h'→Q () (AS s h' t)):wpAny (model p w) A (setItem o (.int k t) v) Q E s:=by
 have h9:=AZ
 have hla:AX=1000000:=rfl
 split at e
 ·rename_i l hl
  split at e
  ·rename_i hk
   cases e
   obtain ⟨a,vs,rfl,hq,pl,va⟩:=I.locList hl ro
   have hvl:=va.length
   refine Ip pl hk.1 (by exact om101 hla hk) (by rw [List.size_toArray];omega) fun h' hp SB=>q h' s.toks (I.setList (vs:=vs.set k.toNat v) hq hl pl SB (by simpa using hp) (va.set _ rv)) (Stp.write hq (.inl rfl) SB)
  ·exact Ae e
 ·rename_i l hl
  split at e
  ·rename_i hz
   cases e
   obtain ⟨a,kv,rfl,hq,da,pa⟩:=I.locI hl ro
   have hvl:=pa.length
   have hnd:(kv.map (·.1)).Nodup:=by obtain ⟨_,_,_,_,_,_,_,_,hn⟩:=da;exact hn
   exact wpAny_setItem_pairs (knd:=intKind p w) (hsz:=by exact om103 h9 hz hvl) (by simp [intKind,Value.isInt]) da fun h' hd SB=>q h' _ (I.setI hq hl da SB hd (pa.put hnd k rv)) (Stp.write hq (.inl rfl) SB)
  ·exact Ae e
 ·exact Ae e
noncomputable def Np:BI→Value
 | .len=>.builtin "len"
 | .range=>.type "range"
 | .tuple=>.type "tuple"
 | .list=>.type "list"
 | .dict=>.type "dict"
 | .abs=>.builtin "abs"
theorem Ir (I:Inv p w C base μ s.heap σ) {h':Heap} {vs:List Value} {l:List AV} {t:Nat} (k:∀ b o,s.heap.get? b=some o→h'.get? b=some o) (va:VRs base s.heap μ vs l) (R:Res p w C base pu μ s (.tup l) σ Q) :
  Q (.ref h'.objs.size) { s with heap:=h'.push { cls:=.type "tuple",data:=.seq vs.toArray },toks:=t }:=by
 have k1:∀ b o,s.heap.get? b=some o→(h'.push { cls:=.type "tuple",data:=.seq vs.toArray }).get? b=some o:=fun b o e=>Aw _ _ b o (k b o e)
 exact R _ μ _ t (I.grow k1) (Stp.grow k1 trivial) (.tup _ vs l (IsTup.new h' vs.toArray) (va.keep (Kp.of_all k1))) fun _=>k1
theorem Oe (I:Inv p w C base μ s.heap σ) (hb:base.objs.size≤s.heap.objs.size) {h':Heap} {vs:List Value} {l:List AV} {c:Nat} (k:∀ b o,s.heap.get? b=some o→h'.get? b=some o)
  (hD:h'.get? s.heap.objs.size=some { cls:=.type "list",dict:=none,data:=.seq vs.toArray c,slots:=#[] }) (va:VRs base s.heap μ vs l) (R:Res p w C base pu μ s (.loc σ.length) (σ++[.list l]) Q) :
  Q (.ref s.heap.objs.size) { s with heap:=h' }:=by
 refine R _ (μ++[(s.heap.objs.size,s.heap.objs.size)]) _ s.toks (I.alloc k (Nat.le_refl _) (Nat.le_refl _) hb ?_) (Stp.alloc k trivial (Nat.le_refl _) (Nat.le_refl _)) ?_ fun _=>k
 ·exact .list _ vs l ⟨c,hD⟩ (va.mono (Kp.of_all k))
 ·refine .loc σ.length (s.heap.objs.size,s.heap.objs.size) ?_
  rw [←I.len];simp
theorem NR {h':Heap} (I:Inv p w C base μ s.heap σ) (hb:base.objs.size≤s.heap.objs.size) (k:∀ b o,s.heap.get? b=some o→h'.get? b=some o) {o:AO} (r:OR p w C base h' (μ++[(s.heap.objs.size,s.heap.objs.size)]) (s.heap.objs.size,s.heap.objs.size) o) {t:Tok}
  (R:Res p w C base pu μ s (.loc σ.length) (σ++[o]) Q):Q (.ref s.heap.objs.size) (AS s h' t):=by
 refine R _ (μ++[(s.heap.objs.size,s.heap.objs.size)]) _ t (I.alloc k (Nat.le_refl _) (Nat.le_refl _) hb r) (Stp.alloc k trivial (Nat.le_refl _) (Nat.le_refl _)) ?_ fun _=>k
 refine .loc σ.length (s.heap.objs.size,s.heap.objs.size) ?_
 rw [←I.len,List.getElem?_append_right (Nat.le_refl _),Nat.sub_self];rfl
section
variable (I:Inv p w C base μ s.heap σ) (hb:base.objs.size≤s.heap.objs.size) (big:sysModules < base.objs.size) {v:Value} {z:AV} (rv:VR base s.heap μ v z)
include I hb big rv
theorem SU {n:Nat} (e:L5 σ z=some n) (hn:n≤AX) (R:Res p w C base False μ s (.int n) σ Q):wpAny (model p w) A (call (.builtin "len") [v]) Q E s:=by
 have hn:(n:Int) < 2 ^ 63:=by have:n≤1000000:=hn;exact om104 this
 have R:=R.same I (.int n (s.toks+1)) (s.toks+1+1)
 unfold L5 at e
 split at e
 ·obtain rfl:=oQ e
  obtain ⟨a,us,rfl,ta,va⟩:=rv.x
  have hl:us.toArray.size=_:=List.size_toArray.trans va.length
  exact len_tuple ta (hl▸hn) (by rw [hl];exact R)
 ·obtain rfl:=oQ e
  obtain ⟨a,us,rfl,hl,hi⟩:=rv.x
  have hl':us.toArray.size=_:=List.size_toArray.trans hi.length
  exact len_list (hl.at (I.keep a)) (hl'▸hn) (by rw [hl'];exact R)
 ·split at e
  ·rename_i hl
   obtain rfl:=oQ e
   obtain ⟨a',us,rfl,hq,pl,va⟩:=I.locList hl rv
   have hl:us.toArray.size=_:=List.size_toArray.trans va.length
   exact len_list pl.isList (hl▸hn) (by rw [hl];exact R)
  ·rename_i hl
   obtain rfl:=oQ e
   obtain ⟨a',kv,rfl,hq,da,pa⟩:=I.locI hl rv
   exact call_len_dict (knd:=intKind p w) (I.notSys big hq) da (pa.length▸hn) (by rw [pa.length];exact R)
  ·exact Ae e
 ·exact Ae e
theorem Mr {n:Int} (hz:z=.int n) (hn:0≤n∧n < 2 ^ 31) (R:Res p w C base False μ s (.range n) σ Q):wpAny (model p w) A (call (.type "range") [v]) Q E s:=by
 subst hz
 obtain ⟨t,rfl⟩:=rv.x
 have k:=Aw s.heap { cls:=.type "range",data:=.fields #[.int 0 s.toks,.int n t,.int 1 (s.toks+1)] }
 exact call_range_1 (R _ μ _ _ (I.grow k) (Stp.grow k trivial) (.range _ n s.toks t (s.toks+1) (Heap.get?_push_size _ rfl) hn) fun _=>k)
theorem On {n:Nat} {l:List AV} (hz:z=.loc n) (hl:σ[n]?=some (.list l)) (h:l.length≤AX) (R:Res p w C base False μ s (.tup l) σ Q):wpAny (model p w) A (call (.type "tuple") [v]) Q E s:=by
 subst hz
 obtain ⟨a',us,rfl,hq,pl,va⟩:=I.locList hl rv
 exact call_tuple_list pl.isList (fun h' k=>Ir I k va R) (by rw [List.size_toArray,va.length];exact Nat.le_trans h AZ)
theorem QQ {l:List AV} (e:Qu σ z=some l) (h:l.length≤AX) (R:Res p w C base False μ s (.loc σ.length) (σ++[.list l]) Q):wpAny (model p w) A (call (.type "list") [v]) Q E s:=by
 have go:∀ (a:Addr) (us:List Value) {t:String} (o:Obj) (n:Nat),(t="list"∨t="tuple")→VRs base s.heap μ us l→s.heap.get? a=some o→o.cls=.type t→o.data=.seq us.toArray n→wpAny (model p w) A (call (.type "list") [.ref a]) Q E s:=fun a us t o n ht va ho hc hd=>
  call_list_seq (hsz:=by rw [List.size_toArray,va.length];exact Nat.le_trans h AZ) a ht ho hc hd fun h' c' hk hD=>Oe I hb hk hD va R
 unfold Qu at e
 split at e
 ·obtain rfl:=oQ e
  obtain ⟨a,us,rfl,⟨o,ho,hc,n,hd⟩,va⟩:=rv.x
  exact go a us o n (.inr rfl) va ho hc hd
 ·obtain ⟨a',us,rfl,hq,pl,va⟩:=I.locList (Ex e) rv
  obtain ⟨o,ho,hc,n,hd⟩:=pl.isList
  exact go a' us o n (.inl rfl) va ho hc hd
 ·exact Ae e
theorem QR {n:Nat} {l:List (Int×AV)} (hz:z=.loc n) (hl:σ[n]?=some (.dI l)) (h:l.length≤AX) (R:Res p w C base False μ s (.loc σ.length) (σ++[.dI l]) Q):wpAny (model p w) A (call (.type "dict") [v]) Q E s:=by
 subst hz
 obtain ⟨a',kv,rfl,hq,da,pa⟩:=I.locI hl rv
 refine kt_call_dict (knd:=intKind p w) (I.notSys big hq) da (by rw [pa.length];exact Nat.le_trans h AZ) fun h' hd' SB=>?_
 have k:∀ b o,s.heap.get? b=some o→h'.get? b=some o:=fun b o e=>SB.extBut b o (Nat.ne_of_lt (Heap.lt_size e)) (Aw _ _ b o e)
 exact NR I hb k (.dI _ kv l hd' (pa.mono (Kp.of_all k))) R
theorem SV {i:Int} (hz:z=.int i) (R:Res p w C base False μ s (.int i.natAbs) σ Q):wpAny (model p w) A (call (.builtin "abs") [v]) Q E s:=by
 subst hz
 obtain ⟨t,rfl⟩:=rv.x
 refine call_abs_int fun u tk=>?_
 rw [show (if i < 0 then -i else i)=(i.natAbs:Int) by split<;>omega]
 exact R.same I (.int _ _) _
end
theorem blt_ (I:Inv p w C base μ s.heap σ) (hb:base.objs.size≤s.heap.objs.size) (big:sysModules < base.objs.size) {b:BI} {vs:List Value} {xs:List AV} (rs:VRs base s.heap μ vs xs) (hd:b=.dict→∀ a,xs=[.loc a]→∃ l,σ[a]?=some (.dI l)) (e:DB b xs σ=some (x,σ'))
  (R:Res p w C base False μ s x σ' Q):wpAny (model p w) A (call (Np b) vs) Q E s:=by
 unfold DB at e
 split at e
 ·rename_i z
  have hv:∃ v,vs=[v]∧VR base s.heap μ v z:=by
   obtain ⟨v,hv,rv⟩:=rs.get (i:=0) rfl
   obtain ⟨u,rfl⟩:=List.length_eq_one_iff.mp rs.length
   obtain rfl:=oQ hv
   exact ⟨u,rfl,rv⟩
  obtain ⟨v,rfl,rv⟩:=hv
  split at e
  ·split at e
   ·rename_i hl
    obtain ⟨h,e⟩:=A7 e
    have R:=R.at e
    exact SU I hb big rv hl h R
   ·exact Ae e
  ·split at e
   ·obtain ⟨h,e⟩:=A7 e
    have R:=R.at e
    exact Mr I hb big rv rfl h R
   ·exact Ae e
  ·split at e
   ·have R:=R.at e
    obtain ⟨a,us,rfl,ta,va⟩:=rv.x
    exact call_tuple_tup ta (R.same I rv _)
   ·split at e
    ·rename_i hl
     obtain ⟨h,e⟩:=A7 e
     have R:=R.at e
     exact On I hb big rv rfl (Ex hl) h R
    ·exact Ae e
   ·exact Ae e
  ·split at e
   ·rename_i hl
    obtain ⟨h,e⟩:=A7 e
    have R:=R.at e
    exact QQ I hb big rv hl h R
   ·exact Ae e
  ·split at e
   ·obtain ⟨m,hm⟩:=hd rfl _ rfl
    simp only [hm] at e
    obtain ⟨h,e⟩:=A7 e
    have R:=R.at e
    exact QR I hb big rv rfl hm h R
   ·exact Ae e
  ·split at e
   ·have R:=R.at e
    exact SV I hb big rv rfl R
   ·exact Ae e
 ·exact Ae e
end
end
section
inductive ItAt (base h:Heap) (μ:A5) (it:Addr):Bool→AV→Nat→Prop
 | list (a:Addr) (n i:Nat):μ[n]?=some (a,a)→h.IsListIter it a i→ItAt base h μ it false (.loc n) i
 | tup (a:Addr) (vs:List Value) (l:List AV) (i:Nat):IsTup h a vs.toArray→VRs base h μ vs l→h.IsTupleIter it a i→ItAt base h μ it false (.tup l) i
 | range (n:Int) (i:Nat):IsRangeIter h it i (max n 0 - i) 1→ItAt base h μ it false (.range n) i
 | dict (a:Addr) (n i ep:Nat) (o:Obj) (es:Array DictEntry):μ[n]?=some (a,a)→h.get? a=some o→o.data=.dict es ep→h.IsKeyIter it a i es.size ep→ItAt base h μ it true (.loc n) i
section
variable {p:Program} {w:World} {C:BQ} {K:Frag} {base:Heap} {pu:Prop} {μ μ':A5} {s:Shared} {σ σ':St} {x:AV} {Q:Value→Shared→Prop} {A:Around} {E:Value→Shared→Prop} {dic:Bool}
theorem IH {K':Type} [DecidableEq K'] {knd:PySem.KeyKind p w K'} {es:List DictEntry} {r:List (K'×Value)} (x:Pairs knd es r):es.length=r.length:=by
 induction x with
 | nil=>rfl
 | cons a b _ ih=>simp [ih]
theorem PM {h h':Heap} {it:Addr} {o:Obj} (e:h.get? it=some o) (hc:o.cls≠.type "tuple"∧o.cls≠.type "range") (k:∀ b x,b≠it→h.get? b=some x→h'.get? b=some x):Kp h h':=Kp.of_cls fun c x e' hx=>k c x (by rintro rfl;rw [e] at e';(cases e');exact hx.elim hc.1 hc.2) e'
theorem Bz {o:Obj} {es:Array DictEntry} {ep:Nat} (h:o.data=.dict es ep):¬ Vl o:=by
 rintro (⟨_,a,n,e⟩ | ⟨_,v,e⟩)<;>(rw [h] at e;(cases e))
theorem HC {o:Obj} {v:Option Value} (h:o.data=.cell v):¬ Vl o:=by
 rintro (⟨_,a,n,e⟩ | ⟨_,v,e⟩)<;>(rw [h] at e;(cases e))
theorem Co {h h':Heap} {it:Addr} {o:Obj} (e:h.get? it=some o) (hc:¬ Vl o) (k:∀ b x,b≠it→h.get? b=some x→h'.get? b=some x):Kp h h':=fun c x e' hx=>k c x (by rintro rfl;rw [e] at e';(cases e');exact hc hx) e'
theorem ItAt.obj {h:Heap} {it:Addr} {i:Nat} (T:ItAt base h μ it dic x i):∃ o,h.get? it=some o∧o.cls≠.type "list"∧o.cls≠.type "dict"∧(∀ c,o.cls≠.ref c)∧o.cls≠.type "tuple"∧o.cls≠.type "range":=by
 have key:∀ o:Obj,(o.cls=.type "list_iterator"∨o.cls=.type "tuple_iterator"∨o.cls=.type "dict_keyiterator"∨o.cls=.type "range_iterator")→h.get? it=some o→∃ o,h.get? it=some o∧o.cls≠.type "list"∧o.cls≠.type "dict"∧(∀ c,o.cls≠.ref c)∧o.cls≠.type "tuple"∧o.cls≠.type "range":=by
  intro o hc ho
  refine ⟨o,ho,?_⟩
  rcases hc with hc | hc | hc | hc<;>rw [hc]<;>(refine ⟨fun x=>?_,fun x=>?_,fun c x=>?_,fun x=>?_,fun x=>?_⟩<;>first | (injection x with x;revert x;decide) | (cases x))
 cases T with
 | list a n i _ h=>obtain ⟨o,h1,h2,_⟩:=h;exact key o (.inl h2) h1
 | tup a vs l i _ _ h=>obtain ⟨o,h1,h2,_⟩:=h;exact key o (.inr (.inl h2)) h1
 | dict a n i ep o es _ _ _ h=>obtain ⟨o,h1,h2,_⟩:=h;exact key o (.inr (.inr (.inl h2))) h1
 | range n i h=>exact key _ (.inr (.inr (.inr rfl))) h
theorem ItAt.off {h:Heap} {it:Addr} {i:Nat} (T:ItAt base h μ it dic x i) (I:Inv p w C base μ h σ):Off μ it:=by
 obtain ⟨o,h1,h2,h3,h4,_⟩:=T.obj
 exact I.off_of h1 h2 h3 h4
theorem ItAt.step {h h':Heap} {it:Addr} {i:Nat} (T:ItAt base h μ it dic x i) (I:Inv p w C base μ h σ) (S:Stp μ h μ' h') (hd:dic=true→∀ b o,h.get? b=some o→h'.get? b=some o):ItAt base h' μ' it dic x i:=by
 have hoff:=T.off I
 obtain ⟨o,h1,_⟩:=T.obj
 have hit:h'.get? it=h.get? it:=by rw [h1];exact S.kept it o h1 hoff
 have hm:∀ {n:Nat} {q:Addr×Addr},μ[n]?=some q→μ'[n]?=some q:=fun {n q} e=>by
  obtain ⟨ν,rfl,_⟩:=S.more
  rw [List.getElem?_append_left (List.getElem?_eq_some_iff.mp e).1];exact e
 cases T with
 | list a n i e h=>exact .list a n i (hm e) (by unfold Heap.IsListIter;rw [hit];exact h)
 | tup a vs l i ta va h=>obtain ⟨o',ho',hc',hd'⟩:=ta;exact .tup a vs l i ⟨o',I.kp S a o' ho' (.inl ⟨hc',_,hd'⟩),hc',hd'⟩ (va.step I S) (by unfold Heap.IsTupleIter;rw [hit];exact h)
 | range n i h=>exact .range n i (by unfold IsRangeIter at h ⊢;rw [hit];exact h)
 | dict a n i ep o' es e ho' hdt h=>exact .dict a n i ep o' es (hm e) (hd rfl a o' ho') hdt (by unfold Heap.IsKeyIter;rw [hit];exact h)
theorem To (I:Inv p w C base μ s.heap σ) (big:sysModules < base.objs.size) {v:Value} (rv:VR base s.heap μ v x) {r:Option AV} (e:Bg σ (AH σ x) x 0=some r)
  (q:∀ h' t,(∀ b o,s.heap.get? b=some o→h'.get? b=some o)→ItAt base h' μ s.heap.objs.size (AH σ x) x 0→Q (.ref s.heap.objs.size) (AS s h' t)):wpAny (model p w) A (pyIter v) Q E s:=by
 unfold Bg at e
 split at e
 ·rename_i l
  cases rv with
  | tup a vs _ ta va=>
   refine wpAny_pyIter_tuple ta (q _ _ (Aw _ _) ?_)
   exact .tup a vs l 0 (ta.keeps (Aw _ _)) (va.keep (Kp.of_all (Aw _ _))) ⟨_,Heap.get?_push_size _ rfl,rfl,rfl⟩
 ·rename_i n
  cases rv with
  | range a _ t u v hr hn=>
   have hsz:Builtin.Range.rangeSize 0 n 1=max n 0:=by
    unfold Builtin.Range.rangeSize
    rw [if_pos (by decide)]
    by_cases h:0 < n
    ·rw [if_pos h,Int.ediv_one];exact om107 h
    ·rw [if_neg h];exact om108 h
   have hfit:∀ k:Int,0≤k→k < 2 ^ 62→Builtin.Range.rangeFitsLong k=true:=by
    intro k h1 h2
    simp [Builtin.Range.rangeFitsLong];exact om109 h1 h2
   have hsm:Builtin.Range.small 0 n 1=true:=by
    unfold Builtin.Range.small
    rw [hsz,hfit 0 (by omega) (by omega),hfit n (by omega) (by omega),hfit 1 (by omega) (by omega),hfit (max n 0) (by omega) (by omega)]
    rw [if_pos (by decide),hfit (n+(1 - 1)) (by exact om114 hn) (by omega)]
    simp
   refine wpAny_pyIter_range hr hsm (q _ _ (Aw _ _) ?_)
   rw [hsz]
   refine .range n 0 ?_
   unfold IsRangeIter
   rw [Heap.get?_push_size _ rfl];simp
 ·rename_i n
  split at e
  ·rename_i l hl
   obtain ⟨a,vs,rfl,hq,pl,va⟩:=I.locList hl rv
   refine wpAny_pyIter_list pl.isList (q _ _ (Aw _ _) ?_)
   have:AH σ (.loc n)=false:=by simp [AH,hl]
   rw [this]
   exact .list a n 0 hq ⟨_,Heap.get?_push_size _ rfl,rfl,rfl⟩
  ·rename_i l hl
   obtain ⟨a,kv,rfl,hq,da,pa⟩:=I.locI hl rv
   obtain ⟨o,es,ep,ho,hex,hdt,hko,hpr,hnd⟩:=da
   have hlen:es.size=kv.length:=by rw [←IH hpr];simp
   refine wpAny_pyIter_dict (knd:=intKind p w) (I.notSys big hq) ⟨o,es,ho,hex,hdt,hko,hpr,hnd⟩ (q _ _ (Aw _ _) ?_)
   have:AH σ (.loc n)=true:=by simp [AH,hl]
   rw [this]
   exact .dict a n 0 ep o es hq (Aw _ _ a o ho) hdt ⟨_,Heap.get?_push_size _ rfl,rfl,by rw [hlen];rfl⟩
  ·exact Ae e
 ·exact Ae e
section
variable (hh:A.handled=none) {it:Addr} {i:Nat} {Q:Option Value→Shared→Prop}
include hh
theorem Ua {a:Addr} {vs:List Value} {l:List AV} (ta:IsTup s.heap a vs.toArray) (va:VRs base s.heap μ vs l) (hi:s.heap.IsTupleIter it a i) {r:Option AV} (e:l[i]?=r) (kp:∀ h',Heap.SameBut it s.heap h'→Kp s.heap h')
  (q0:r=none→∀ h',Heap.ExtBut it s.heap h'→Q none { s with heap:=h' })
  (q1:∀ y,r=some y→∀ v h' t,VR base h' μ v y→Heap.SameBut it s.heap h'→ItAt base h' μ it false (.tup l) (i+1)→Q (some v) (AS s h' t)):wpAny (model p w) A (pyNext (.ref it)) Q E s:=by
 induction r using Option.casesOn with
 | none=>exact wpAny_pyNext_tuple_end hh hi ta (by rw [List.getElem?_toArray,List.getElem?_eq_none_iff,va.length];exact List.getElem?_eq_none_iff.mp e) (q0 rfl)
 | some y=>
  obtain ⟨v,hv,rv⟩:=va.get e
  exact wpAny_pyNext_tuple_item hi ta (by rw [List.getElem?_toArray];exact hv) fun h' hi' SB=>q1 y rfl v h' _ (rv.keep (kp h' SB)) SB (.tup a vs l (i+1) (IsTup.mono (kp h' SB) ta) (va.keep (kp h' SB)) hi')
theorem RC {a:Addr} {n:Nat} {vs:List Value} {l:List AV} (hq:μ[n]?=some (a,a)) (pl:s.heap.PlainList a vs.toArray) (va:VRs base s.heap μ vs l) (hi:s.heap.IsListIter it a i) {r:Option AV} (e:l[i]?=r) (kp:∀ h',Heap.SameBut it s.heap h'→Kp s.heap h')
  (q0:r=none→∀ h',Heap.ExtBut it s.heap h'→Q none { s with heap:=h' })
  (q1:∀ y,r=some y→∀ v h' t,VR base h' μ v y→Heap.SameBut it s.heap h'→ItAt base h' μ it false (.loc n) (i+1)→Q (some v) (AS s h' t)):wpAny (model p w) A (pyNext (.ref it)) Q E s:=by
 induction r using Option.casesOn with
 | none=>exact wpAny_pyNext_list_end hh hi pl.isList (by rw [List.getElem?_toArray,List.getElem?_eq_none_iff,va.length];exact List.getElem?_eq_none_iff.mp e) (q0 rfl)
 | some y=>
  obtain ⟨v,hv,rv⟩:=va.get e
  exact wpAny_pyNext_list_item hi pl.isList (by rw [List.getElem?_toArray];exact hv) fun h' hi' SB=>q1 y rfl v h' _ (rv.keep (kp h' SB)) SB (.list a n (i+1) hq hi')
theorem Pk {n:Int} (hi:IsRangeIter s.heap it i (max n 0 - i) 1) {r:Option AV} (e:(if (i:Int) < n then some (AV.int i) else none)=r)
  (q0:r=none→∀ h',Heap.ExtBut it s.heap h'→Q none { s with heap:=h' })
  (q1:∀ y,r=some y→∀ v h' t,VR base h' μ v y→Heap.SameBut it s.heap h'→ItAt base h' μ it false (.range n) (i+1)→Q (some v) (AS s h' t)):wpAny (model p w) A (pyNext (.ref it)) Q E s:=by
 by_cases hn:(i:Int) < n
 ·rw [if_pos hn] at e
  subst e
  refine wpAny_pyNext_range_item hi (by exact om116 hn) fun h' hi' SB=>q1 _ rfl _ h' _ (.int _ _) SB (.range n (i+1) ?_)
  have e2:max n 0 - ((i+1:Nat):Int)=max n 0 - i - 1:=by exact om117
  rw [e2];exact hi'
 ·rw [if_neg hn] at e
  exact wpAny_pyNext_range_end hh hi (by exact om118 hn) (q0 e.symm)
theorem RD {a:Addr} {n ep:Nat} {o:Obj} {es:Array DictEntry} {kv:List (Int×Value)} {l:List (Int×AV)} (hq:μ[n]?=some (a,a)) (ho:s.heap.get? a=some o) (hdt:o.data=.dict es ep) (hi:s.heap.IsKeyIter it a i es.size ep) (da:s.heap.DictOf (intKind p w) a kv) (pa:PRI base s.heap μ kv l) {r:Option (Int×AV)} (e:l[i]?=r)
  (q0:r=none→∀ h',Heap.ExtBut it s.heap h'→Q none { s with heap:=h' })
  (q1:∀ y,r=some y→∀ v h' t,VR base h' μ v (.int y.1)→Heap.SameBut it s.heap h'→ItAt base h' μ it true (.loc n) (i+1)→Q (some v) (AS s h' t)):wpAny (model p w) A (pyNext (.ref it)) Q E s:=by
 obtain ⟨o',es',ep',ho',hex,hdt',hko,hpr,hnd⟩:=da
 rw [ho] at ho'
 obtain rfl:=oQ ho'
 rw [hdt] at hdt'
 obtain ⟨rfl,rfl⟩:=Data.dict.inj hdt'
 have hlen:es.size=kv.length:=by rw [←IH hpr,Array.length_toList]
 have D:s.heap.DictAt (intKind p w) a kv ep:=⟨o,es,ho,hex,hdt,hko,hpr,hnd⟩
 rw [hlen] at hi
 have hne:it≠a:=by
  rintro rfl
  obtain ⟨_,h1,h2,_⟩:=hi
  rw [ho] at h1
  obtain rfl:=oQ h1
  rw [hex.1] at h2;injection h2 with h2;revert h2;decide
 induction r using Option.casesOn with
 | none=>exact wpAny_pyNext_dict_end (knd:=intKind p w) hh hi D (by rw [List.getElem?_eq_none_iff] at e ⊢;rw [pa.length];exact e) (q0 rfl)
 | some y=>
  obtain ⟨v,hv,rv⟩:=pa.get e
  refine wpAny_pyNext_dict_item (knd:=intKind p w) hi D hv fun key h' hk hi' SB=>q1 _ rfl key h' _ ?_ SB (.dict a n (i+1) ep o es hq (SB.extBut a o (Ne.symm hne) ho) hdt (by rw [hlen];exact hi'))
  cases key<;>simp [intKind,Value.isInt] at hk
  subst hk
  exact .int _ _
end
theorem Ks (I:Inv p w C base μ s.heap σ) (hh:A.handled=none) {it:Addr} {i:Nat} (T:ItAt base s.heap μ it dic x i) {r:Option AV} (e:Bg σ dic x i=some r) {Q:Option Value→Shared→Prop}
  (q0:r=none→∀ h',Heap.ExtBut it s.heap h'→Q none { s with heap:=h' })
  (q1:∀ y,r=some y→∀ v h' t,VR base h' μ v y→Heap.SameBut it s.heap h'→ItAt base h' μ it dic x (i+1)→Q (some v) (AS s h' t)):wpAny (model p w) A (pyNext (.ref it)) Q E s:=by
 obtain ⟨oo,hoo,_,_,_,hc1,hc2⟩:=T.obj
 have kp:∀ h',Heap.SameBut it s.heap h'→Kp s.heap h':=fun h' SB=>PM hoo ⟨hc1,hc2⟩ fun b o hb e=>SB.extBut b o hb e
 clear hoo hc1 hc2
 revert e q1
 cases T with
 | tup a vs l i ta va hi=>exact fun e q1=>Ua hh ta va hi (oQ e) kp q0 q1
 | range n i hi=>exact fun e q1=>Pk hh hi (oQ e) q0 q1
 | list a n i hq hi=>
  intro e q1
  have e:(match σ[n]? with | some (.list l)=>if false=true then none else some l[i]? | some (.dI l)=>if false=true then some (l[i]?.map fun p=>AV.int p.1) else none | _=>none)=some r:=e
  split at e
  ·rename_i hl
   obtain ⟨a',vs,e1,_,pl,va⟩:=I.locList hl (.loc n (a,a) hq)
   obtain rfl:=Value.ref.inj e1
   exact RC hh hq pl va hi (oQ e) kp q0 q1
  ·exact Ae e
  ·exact Ae e
 | dict a n i ep o es hq ho hdt hi=>
  intro e q1
  have e:(match σ[n]? with | some (.list l)=>if true=true then none else some l[i]? | some (.dI l)=>if true=true then some (l[i]?.map fun p=>AV.int p.1) else none | _=>none)=some r:=e
  split at e
  ·exact Ae e
  ·rename_i l hl
   obtain ⟨a',kv,e1,_,da,pa⟩:=I.locI hl (.loc n (a,a) hq)
   obtain rfl:=Value.ref.inj e1
   have e:=oQ e
   subst e
   exact RD hh hq ho hdt hi da pa rfl (fun h=>q0 (by rw [h];rfl)) fun y h=>q1 _ (by rw [h];rfl)
  ·exact Ae e
end
end
section
theorem JA:typeLookup (.type "list") (Str.ofString "keys")=pure none:=am_miss_of_fast (by decide +kernel)
theorem JJ {prog:Program} {w:World} {A:Around} {E:Value→Shared→Prop} {s:Shared} {a:Addr} {xs:Array Value} {k:Nat} {Q:Option Value→Shared→Prop}
  (hx:s.heap.get? a=some { cls:=.type "list",data:=.seq xs k }) (hA:A.handled=none)
  (h:∀ h' tk,(∀ b o,s.heap.get? b=some o→h'.get? b=some o)→Q none (AS s h' tk)) :
  wpAny (model prog w) A (getAttr? (.ref a) (Str.ofString "keys")) Q E s:=by
 obtain ⟨hp,g,d,tk,os⟩:=s
 have hT:∀ tk',(⟨hp,g,d,tk',os⟩:Shared).TypeIs (.ref a) "list":=fun _=>⟨_,hx,rfl⟩
 have f1:=sub_AttributeError
 have f3:=PySem.F.slot_list_getattribute.lookup
 have f4:=PySem.F.slot_list_getattribute.bind (.ref a)
 have f5:=am_list_getattr_none
 unfold getAttr? getAttrBy? getAttrBy
 have hmiss:=JA
 have hname:(["__module__","__name__","__qualname__","__doc__","__annotations__"]:List Str).contains (Str.ofString "keys")=false:=by decide +kernel
 have hsz:(Str.ofString "keys").length+100≤sizeLine:=by rw [sizeLine_eq];decide
 repeat (any_goals (first | assumption | exact hT _ | ((with_reducible show wpAny _ _ (call (Value.builtin "list.__getattribute__") _ _) _ _ _);refine call_meets PySem.F.slot_list_getattribute (hT _) am_entry_list_getattribute (PySem.F.args_list_getattribute_2 _ _) (meets_getattribute_miss_list a xs k #[] (Str.ofString "keys") _ hmiss hname hsz) ⟨hx,hA,fun h' tk' e hx'=>?_⟩) | wp_step))
 obtain ⟨t',u',he⟩:=hx'.there
 have hTe:∀ tk',(⟨h',g,d,tk',os⟩:Shared).TypeIs (.ref e) "AttributeError":=fun _=>⟨_,he,rfl⟩
 show wpAny _ _ (getattributeRaised _ _ _ _ _ _ _) _ _ _
 unfold getattributeRaised
 repeat (any_goals (first | assumption | exact hTe _ | exact h _ _ hx'.keeps | wp_step))
theorem I4:entryFor table "dict.update.loop"=some Builtin.«dict.update.loop»:=entryFor_of_tree (by kernel_rfl)
section
variable {p:Program} {w:World} {C:BQ} {base:Heap} {pu:Prop} {μ:A5} {s:Shared} {σ σ':St} {x:AV} {Q:Value→Shared→Prop} {A:Around} {E:Value→Shared→Prop}
theorem NC {r:List (Int×Value)} (k:Int) (v:Value):(stored r k v).length≤r.length+1:=by
 unfold stored;split<;>simp
theorem NB {r:List (Int×Value)} (hn:(r.map (·.1)).Nodup) (k:Int) (v:Value):((stored r k v).map (·.1)).Nodup:=by
 unfold stored
 split
 ·have:(r.map fun kv=>if kv.1=k then (kv.1,v) else kv).map (·.1)=r.map (·.1):=by
   rw [List.map_map];congr 1;funext kv;simp only [Function.comp];split<;>rfl
  rw [this];exact hn
 ·rename_i h
  rw [List.map_append,List.nodup_append]
  refine ⟨hn,by simp,?_⟩
  intro a ha b hb
  simp only [List.map_cons,List.map_nil,List.mem_singleton] at hb
  subst hb
  rintro rfl
  obtain ⟨kv,h1,h2⟩:=List.mem_map.mp ha
  exact h (List.any_eq_true.mpr ⟨kv,h1,decide_eq_true h2⟩)
structure UL (p:Program) (w:World) (base:Heap) (μ:A5) (d it a:Addr) (vs:List Value) (l:List AV) (h:Heap) (i:Nat) (kv:List (Int×Value)) (acc:List (Int×AV)):Prop where
 va:VRs base h μ vs l
 hit:h.IsListIter it a i
 hla:h.IsList a vs.toArray
 hd:h.DictOf (intKind p w) d kv
 pr:PRI base h μ kv acc
 nd:(kv.map (·.1)).Nodup
theorem JF {h h':Heap} {it a:Addr} {i:Nat} (hit:h.IsListIter it a i) (kk:∀ b o,b≠it→h.get? b=some o→h'.get? b=some o):Kp h h':=by
 obtain ⟨o,ho,hc,hdt⟩:=hit
 exact PM ho (by rw [hc];exact ⟨fun x=>by injection x with x;revert x;decide,fun x=>by injection x with x;revert x;decide⟩) kk
section
variable {d it a:Addr} {vs:List Value} {l:List AV} {h h':Heap} {i:Nat} {kv:List (Int×Value)} {acc:List (Int×AV)}
theorem UL.next (U:UL p w base μ d it a vs l h i kv acc) (hdi:d≠it) (hai:a≠it) (kk:∀ b o,b≠it→h.get? b=some o→h'.get? b=some o) {j:Nat} (hit:h'.IsListIter it a j):UL p w base μ d it a vs l h' j kv acc:=
 have kp:=JF U.hit kk
 ⟨U.va.keep kp,hit,U.hla.elim fun o e=>⟨o,kk a o hai e.1,e.2⟩,U.hd.at fun o e=>kk d o hdi e,U.pr.keep kp,U.nd⟩
theorem UL.put (U:UL p w base μ d it a vs l h i kv acc) (hdi:d≠it) (had:a≠d) (kk:∀ b o,b≠d→h.get? b=some o→h'.get? b=some o) {k:Int} {v:Value} {x:AV} (hd:h'.DictOf (intKind p w) d (stored kv k v)) (rv:VR base h μ v x):UL p w base μ d it a vs l h' i (stored kv k v) (Br k x acc):=by
 obtain ⟨o,es,ep,ho,hex,hdt,_⟩:=id U.hd
 have kp:=MY ho hdt kk
 exact ⟨U.va.keep kp,U.hit.elim fun o e=>⟨o,kk it o (Ne.symm hdi) e.1,e.2⟩,U.hla.elim fun o e=>⟨o,kk a o had e.1,e.2⟩,hd,(U.pr.put U.nd k rv).keep kp,NB U.nd k v⟩
theorem Pd {y:AV} {r:List AV} {m:List (Int×AV)} {G:Prop} (e:Cd (y::r) acc=some m) (q:∀ k u,y=.tup [.int k,u]→Cd r (Br k u acc)=some m→G):G:=by
 unfold Cd at e
 split at e
 ·rename_i heq;exact nomatch heq
 ·rename_i heq;obtain ⟨rfl,rfl⟩:=List.cons.inj heq;exact q _ _ rfl e
 ·exact Ae e
theorem OE {m:List (Int×AV)} (hh:A.handled=none) (hl:l.length≤AX) (hdi:d≠it) (hai:a≠it) (had:a≠d) {R:Result→Shared→Prop} :
  ∀ (n i:Nat) (s:Shared) (kv:List (Int×Value)) (acc:List (Int×AV)) (t0:Tok),i+n=l.length→UL p w base μ d it a vs l s.heap i kv acc→kv.length≤i→Cd (l.drop i) acc=some m →
   (∀ h' t kv',h'.DictOf (intKind p w) d kv'→PRI base h' μ kv' m→(∀ b o,b≠d→b≠it→s.heap.get? b=some o→h'.get? b=some o)→R (.ok (.ret .none)) (AS s h' t)) →
   codeAny (model p w) A (.builtin "dict.update.loop" ⟨[.ref d,.ref it,.int i t0,.none],[]⟩) R s:=by
 intro n
 induction n with
 | zero=>
  intro i s kv acc t0 hn U hkl e hR
  refine codeAny_builtin I4 ?_
  unfold Builtin.«dict.update.loop»
  refine wpAny_bind (wpAny_pyNext_list_end (by exact hh) U.hit U.hla (by rw [List.getElem?_toArray,List.getElem?_eq_none_iff,U.va.length];exact Nat.le_of_eq hn.symm) fun h' EB=>?_)
  rw [show i=l.length from hn,List.drop_length] at e
  obtain rfl:=oQ e
  exact wpAny_bind (wpAny_pure (wpAny_pure (hR h' s.toks kv (U.hd.at fun o e=>EB _ o hdi e) (U.pr.keep (JF U.hit EB)) fun b o _ hb e=>EB b o hb e)))
 | succ n ih=>
  intro i s kv acc t0 hn U hkl e hR
  refine codeAny_builtin I4 ?_
  have hlt:i < l.length:=hn▸Nat.lt_add_of_pos_right (Nat.succ_pos n)
  obtain ⟨v,hv,rv⟩:=U.va.get (List.getElem?_eq_getElem hlt)
  rw [List.drop_eq_getElem_cons hlt] at e
  refine Pd e fun k u ey e=>?_
  rw [ey] at rv
  obtain ⟨t,ws,rfl,tw,vw⟩:=rv.x
  obtain ⟨kv',uv,rfl,rk,ru⟩:=vw.two_
  obtain ⟨kt,rfl⟩:=rk.x
  unfold Builtin.«dict.update.loop»
  refine wpAny_bind (wpAny_pyNext_list_item U.hit U.hla (by rw [List.getElem?_toArray];exact hv) fun h' hit' SB=>?_)
  have kk:∀ b o,b≠it→s.heap.get? b=some o→h'.get? b=some o:=fun b o hb e=>SB.extBut b o hb e
  have kp:=JF U.hit kk
  have U1:=U.next hdi hai kk hit'
  have tw':=IsTup.mono kp tw
  refine wpAny_bind (wpAny_holding ?_)
  refine wpAny_bind (wpAny_tryCatch ?_)
  unfold Builtin.Dict.pairItems
  refine wpAny_bind (wpAny_typeOf (s:={ s with heap:=h' }) tw'.typeIs ?_)
  rw [if_pos (by decide)]
  obtain ⟨o',ho',hc',nn,hd'⟩:=id tw'
  refine wpAny_bind (wpAny_seqItems (s:={ s with heap:=h' }) ho' hd' (wpAny_pure ?_))
  show wpAny _ _ (holding [.int k kt,uv] (dictSet d (.int k kt) uv)) _ _ _
  refine wpAny_holding ?_
  refine wpAny_dictSet_pairs (s:={ s with heap:=h' }) (knd:=intKind p w) (hsz:=Nat.le_trans hkl (Nat.le_trans (Nat.le_of_lt hlt) (Nat.le_trans hl AZ))) (k:=k) (Gr p w k kt) U1.hd fun h'' hd2 SB2=>?_
  have k2:∀ b o,b≠d→h'.get? b=some o→h''.get? b=some o:=fun b o hb e=>SB2.extBut b o hb e
  show wpAny _ _ (again _) _ _ _
  refine wpAny_pure ⟨Code.quiet_builtin _ (by decide +kernel),?_⟩
  have:=ih (i+1) (AS s h'' (s.toks+1)) (stored kv k uv) (Br k u acc) 0 (by rw [Nat.add_assoc,Nat.add_comm 1];exact hn) (U1.put hdi had k2 hd2 (ru.keep kp)) (Nat.le_trans (NC k uv) (Nat.succ_le_succ hkl)) e
   fun h3 t3 kv3 d3 p3 k3=>hR h3 t3 kv3 d3 p3 fun b o hbd hbi e=>k3 b o hbd hbi (k2 b o hbd (kk b o hbi e))
  exact this
end
theorem UC (I:Inv p w C base μ s.heap σ) (hb:base.objs.size≤s.heap.objs.size) (hh:A.handled=none) {v:Value} {n:Nat} {l:List AV} {m:List (Int×AV)} (hl:σ[n]?=some (.list l)) (rv:VR base s.heap μ v (.loc n)) (hz:l.length≤AX) (e:Cd l []=some m)
  (R:Res p w C base pu μ s (.loc σ.length) (σ++[.dI m]) Q):wpAny (model p w) A (call (.type "dict") [v]) Q E s:=by
 obtain ⟨a,vs,rfl,hq,pl,va⟩:=I.locList hl rv
 refine callType_codes (Q₁:=fun obj s₁=>obj=.ref s.heap.objs.size∧s₁={ s with heap:=s.heap.push { cls:=.type "dict",data:=.dict #[] } }) PySem.F.kt_called_dict (PySem.F.kt_typeCall_dict_1 _) PySem.F.entry_dict_init (kt_code_dict_new _ ⟨rfl,rfl⟩) ?_
 rintro obj s₁ ⟨rfl,rfl⟩
 have hnew:(s.heap.push { cls:=.type "dict",data:=.dict #[] }).DictOf (intKind p w) s.heap.objs.size []:=Heap.DictOf.new s.heap
 have k0:=Aw s.heap { cls:=.type "dict",data:=.dict #[] }
 obtain ⟨c,hpl⟩:=pl
 have hpl0:=k0 _ _ hpl
 have hda:a≠s.heap.objs.size:=Nat.ne_of_lt (Heap.lt_size hpl)
 refine ⟨hnew.typeIs,PySem.F.args_dict_init_2 _ _,?_⟩
 unfold Builtin.«dict.__init__»
 refine wpAny_bind ?_
 unfold Builtin.Dict.selfAndRest
 refine wpAny_bind (wpAny_notOrdered_dict hnew.typeIs ?_)
 show wpAny _ _ (pure (s.heap.objs.size,[Value.ref a])) _ _ _
 refine wpAny_pure ?_
 show wpAny _ _ (Builtin.Dict.updateFrom "dict.__init__" s.heap.objs.size (.ref a) [] .none) _ _ _
 unfold Builtin.Dict.updateFrom
 refine wpAny_bind (wpAny_typeOf (T:="list") ⟨_,hpl0,rfl⟩ ?_)
 rw [if_pos (by decide)]
 refine wpAny_bind (JJ (s:={ s with heap:=s.heap.push { cls:=.type "dict",data:=.dict #[] } }) hpl0 (by exact hh) fun h1 tk k1=>?_)
 rw [if_pos (show (none:Option Value).isNone=true from rfl)]
 refine wpAny_bind (wpAny_rule ?_)
 have hpl1:=k1 _ _ hpl0
 have hil:((AS s h1 tk):Shared).heap.IsList a vs.toArray:=⟨_,hpl1,rfl,_,rfl⟩
 refine wpAny_bind (wpAny_pyIter_list (s:=AS s h1 tk) hil ?_)
 have hdlive:h1.get? s.heap.objs.size=some { cls:=.type "dict",data:=.dict #[] }:=k1 _ _ (Heap.get?_push_size _ rfl)
 have hdlt:s.heap.objs.size < h1.objs.size:=Heap.lt_size hdlive
 have k2:=Aw h1 { cls:=.type "list_iterator",data:=.fields #[.ref a,.int 0 0] }
 have kall:∀ b o,s.heap.get? b=some o→(h1.push { cls:=.type "list_iterator",data:=.fields #[.ref a,.int 0 0] }).get? b=some o:=fun b o e=>k2 b o (k1 b o (k0 b o e))
 have hd0:h1.DictOf (intKind p w) s.heap.objs.size []:=hnew.at fun o e=>k1 _ o e
 refine wpAny_pure ⟨Code.quiet_builtin _ (by decide +kernel),?_⟩
 have:=OE (p:=p) (w:=w) (base:=base) (μ:=μ) (A:=A.in1) (d:=s.heap.objs.size) (it:=h1.objs.size) (a:=a) (l:=l) (m:=m) hh hz (Nat.ne_of_lt hdlt) (Nat.ne_of_lt (Heap.lt_size hpl1)) hda (R:=wants (fun r s₂=>r=Value.none∧Q (.ref s.heap.objs.size) s₂) E)
  l.length 0 { s with heap:=h1.push { cls:=.type "list_iterator",data:=.fields #[.ref a,.int 0 0] },toks:=tk } [] [] 0 (Nat.zero_add _) ⟨va.keep (Kp.of_all kall),⟨_,Heap.get?_push_size _ rfl,rfl,rfl⟩,⟨_,k2 _ _ hpl1,rfl,_,rfl⟩,
  hd0.at fun o e=>k2 _ o e,.nil,List.nodup_nil⟩ (Nat.le_refl _) e fun h' t kv' hd' pr' kk=>⟨rfl,?_⟩
 ·simpa [rawInt] using this
 ·have kf:∀ b o,s.heap.get? b=some o→h'.get? b=some o:=fun b o e=>kk b o (Nat.ne_of_lt (Heap.lt_size e)) (Nat.ne_of_lt (Nat.lt_trans (Heap.lt_size e) hdlt)) (kall b o e)
  refine R _ (μ++[(s.heap.objs.size,s.heap.objs.size)]) h' t (I.alloc kf (Nat.le_refl _) (Nat.le_refl _) hb (.dI _ kv' m hd' ?_)) (Stp.alloc kf trivial (Nat.le_refl _) (Nat.le_refl _)) ?_ fun _=>kf
  ·exact pr'.mono (Kp.refl _)
  ·refine .loc σ.length (s.heap.objs.size,s.heap.objs.size) ?_
   rw [←I.len];simp
theorem SW (I:Inv p w C base μ s.heap σ) (hb:base.objs.size≤s.heap.objs.size) (big:sysModules < base.objs.size) (hh:A.handled=none) {b:BI} {vs:List Value} {xs:List AV} (rs:VRs base s.heap μ vs xs) (e:DB b xs σ=some (x,σ'))
  (R:Res p w C base False μ s x σ' Q):wpAny (model p w) A (call (Np b) vs) Q E s:=by
 by_cases h:∃ a l,b=.dict∧xs=[.loc a]∧σ[a]?=some (.list l)
 ·obtain ⟨a,l,rfl,rfl,hl⟩:=h
  simp only [DB,hl] at e
  split at e
  ·rename_i hz
   split at e
   ·rename_i m hm
    obtain ⟨rfl,rfl⟩:=pQ (oQ e)
    cases rs with
    | cons v1 _ _ _ rv rn=>
     cases rn
     exact UC I hb hh hl rv hz hm R
   ·exact Ae e
  ·exact Ae e
 ·refine blt_ I hb big rs (fun hd a hx=>?_) e R
  subst hd hx
  generalize hl:σ[a]?=zz8
  induction zz8 using Option.casesOn with
  | none=>simp [DB,hl] at e
  | some o=>
   induction o using AO.casesOn with
   | list l=>exact absurd ⟨a,l,rfl,rfl,hl⟩ h
   | dI l=>exact ⟨l,rfl⟩
   | dS l=>simp [DB,hl] at e
   | inst c l=>simp [DB,hl] at e
end
end
section
structure StpX (X:Addr→Prop) (μ:A5) (h:Heap) (μ':A5) (h':Heap):Prop where
 more:∃ ν,μ'=μ++ν∧∀ q∈ν,∀ b,(b=q.1∨b=q.2)→Off μ b→h.get? b=none
 kept:∀ b o,h.get? b=some o→Off μ b→¬ X b→h'.get? b=some o
 lives:∀ b o,X b→h.get? b=some o→∃ o',h'.get? b=some o'
 kp:Kp h h'
section
variable {p:Program} {w:World} {C:BQ} {base h h' h₁ h₂:Heap} {μ μ' μ1 μ2:A5} {σ σ':St} {X:Addr→Prop}
theorem StpX.refl (X:Addr→Prop) (μ:A5) (h:Heap):StpX X μ h μ h:=⟨⟨[],by simp,by simp⟩,fun _ _ e _ _=>e,fun _ o _ e=>⟨o,e⟩,Kp.refl h⟩
theorem Stp.toX (I:Inv p w C base μ h σ) (S:Stp μ h μ' h') (hX:∀ b,X b→Off μ b):StpX X μ h μ' h':=
 ⟨S.more,fun b o e off _=>S.kept b o e off,fun b o hb e=>⟨o,S.kept b o e (hX b hb)⟩,I.kp S⟩
theorem Off.stepX (S:StpX X μ h μ' h') {b:Addr} {x:Obj} (ho:Off μ b) (hb:h.get? b=some x):Off μ' b:=by
 obtain ⟨ν,rfl,hν⟩:=S.more
 intro q hq
 rcases List.mem_append.mp hq with hq | hq
 ·exact ho q hq
 ·exact ⟨fun e=>by (rw [hν q hq b (.inl e) ho] at hb;(exact Ae hb)),fun e=>by (rw [hν q hq b (.inr e) ho] at hb;(exact Ae hb))⟩
theorem StpX.trans (x:StpX X μ h μ1 h₁) (y:StpX X μ1 h₁ μ2 h₂):StpX X μ h μ2 h₂:=by
 have more:∃ ν,μ2=μ++ν∧∀ q∈ν,∀ b,(b=q.1∨b=q.2)→Off μ b→h.get? b=none:=by
  obtain ⟨ν,e1,hν⟩:=x.more
  obtain ⟨ξ,e2,hξ⟩:=y.more
  refine ⟨ν++ξ,by rw [e2,e1,List.append_assoc],fun q hq b hb off=>?_⟩
  rcases List.mem_append.mp hq with hq | hq
  ·exact hν q hq b hb off
  ·generalize e:h.get? b=zz3
   induction zz3 using Option.casesOn with
   | none=>rfl
   | some o=>
    have hn:=hξ q hq b hb (off.stepX x e)
    by_cases hX:X b
    ·obtain ⟨o',ho'⟩:=x.lives b o hX e
     rw [ho'] at hn;cases hn
    ·rw [x.kept b o e off hX] at hn;cases hn
 refine ⟨more,fun b o e off nx=>y.kept b o (x.kept b o e off nx) (off.stepX x e) nx,fun b o hb e=>?_,fun b o e hc=>y.kp b o (x.kp b o e hc) hc⟩
 obtain ⟨o',ho'⟩:=x.lives b o hb e
 exact y.lives b o' hb ho'
theorem VR.stepX (S:StpX X μ h μ' h') {v:Value} {x:AV} (r:VR base h μ v x):VR base h' μ' v x:=by
 obtain ⟨ν,rfl,_⟩:=S.more
 exact r.mono S.kp
theorem VRs.stepX (S:StpX X μ h μ' h') {v:List Value} {x:List AV} (r:VRs base h μ v x):VRs base h' μ' v x:=by
 obtain ⟨ν,rfl,_⟩:=S.more
 exact r.mono S.kp
theorem StpX.toStp (S:StpX X μ h μ' h') (hX:∀ b,X b→h.get? b=none):Stp μ h μ' h':=
 ⟨S.more,fun b o e off=>S.kept b o e off fun hx=>by rw [hX b hx] at e;cases e⟩
theorem StpX.weaken {Y:Addr→Prop} (S:StpX X μ h μ' h') (hXY:∀ b,X b→Y b) (hY:∀ b o,Y b→¬ X b→h.get? b=some o→Off μ b):StpX Y μ h μ' h':=
 ⟨S.more,fun b o e off ny=>S.kept b o e off fun hx=>ny (hXY b hx),fun b o hy e=>by
  by_cases hx:X b
  ·exact S.lives b o hx e
  ·exact ⟨o,S.kept b o e (hY b o hy hx e) hx⟩,S.kp⟩
end
noncomputable def CC (env:Env) (b:Addr):Prop:=b=env.locals∨∃ x,env.cells.lookup x=some b
structure EnvOk (base h:Heap) (μ:A5) (sc:Scope) (env:Env) (ρ:At):Prop where
 kind:env.scope.kind=.function
 gl:env.globals=mainGlobals
 bl:env.builtins=builtinsNs
 kloc:∀ x,sc.names.lookup x=some .local→env.kindOf x=some .local
 kcel:∀ x,(sc.names.lookup x=some .cell∨sc.names.lookup x=some .free)→(env.kindOf x=some .cell∨env.kindOf x=some .free)∧∃ c,env.cells.lookup x=some c
 kcell:∀ x,sc.names.lookup x=some .cell→env.kindOf x=some .cell
 kglo:∀ x,sc.names.lookup x=some .globalImplicit→env.kindOf x=some .globalImplicit
 ns:∃ m,h.Ns env.locals m∧∀ x n av,code x=some n→sc.names.lookup x=some .local→look n ρ=some av→∃ u,m x=some u∧VR base h μ u av
 cel:∀ x c,env.cells.lookup x=some c→∃ v,h.IsCell c v∧∀ n av,code x=some n→(sc.names.lookup x=some .cell∨sc.names.lookup x=some .free)→look n ρ=some av→∃ u,v=some u∧VR base h μ u av
 off:∀ b,CC env b→Off μ b∧base.objs.size≤b
 apart:∀ x c,env.cells.lookup x=some c→c≠env.locals
 inj:∀ x y c,env.cells.lookup x=some c→env.cells.lookup y=some c→x=y
section
variable {p:Program} {w:World} {C:BQ} {base h h':Heap} {μ μ':A5} {σ σ':St} {sc:Scope} {env:Env} {ρ:At}
theorem EnvOk.liveL (G:EnvOk base h μ sc env ρ):∃ o,h.get? env.locals=some o:=by obtain ⟨m,⟨o,_,_,ho,_⟩,_⟩:=G.ns;exact ⟨o,ho⟩
theorem EnvOk.live (G:EnvOk base h μ sc env ρ):∀ b,CC env b→∃ o,h.get? b=some o:=by
 rintro b (rfl | ⟨x,hx⟩)
 ·exact G.liveL
 ·obtain ⟨v,⟨o,ho,_⟩,_⟩:=G.cel x b hx;exact ⟨o,ho⟩
theorem EnvOk.step (G:EnvOk base h μ sc env ρ) (I:Inv p w C base μ h σ) (S:Stp μ h μ' h'):EnvOk base h' μ' sc env ρ:=by
 refine ⟨G.kind,G.gl,G.bl,G.kloc,G.kcel,G.kcell,G.kglo,?_,?_,?_,G.apart,G.inj⟩
 ·obtain ⟨m,⟨o,es,ep,ho,hd,hk,hf⟩,hm⟩:=G.ns
  refine ⟨m,⟨o,es,ep,S.kept _ o ho (G.off _ (.inl rfl)).1,hd,hk,hf⟩,fun x n av h1 h2 h3=>?_⟩
  obtain ⟨u,h4,h5⟩:=hm x n av h1 h2 h3
  exact ⟨u,h4,h5.step I S⟩
 ·intro x c hx
  obtain ⟨v,⟨o,ho,hd⟩,hv⟩:=G.cel x c hx
  refine ⟨v,⟨o,S.kept _ o ho (G.off _ (.inr ⟨x,hx⟩)).1,hd⟩,fun n av h1 h2 h3=>?_⟩
  obtain ⟨u,h4,h5⟩:=hv n av h1 h2 h3
  exact ⟨u,h4,h5.step I S⟩
 ·intro b hb
  obtain ⟨o,ho⟩:=G.live b hb
  exact ⟨Off.step S (G.off b hb).1 ho,(G.off b hb).2⟩
theorem Fy {x:Str} {n:Nat} (h:code x=some n):(x==Str.ofString "__debug__")=false:=by
 refine beq_eq_false_iff_ne.mpr ?_
 rintro rfl
 revert h
 rw [show code (Str.ofString "__debug__")=none by decide +kernel]
 intro h;exact Ae h
theorem EH {x:Str} {n:Nat} (h:code x=some n):(x==Str.ofString "__classdict__")=false:=by
 refine beq_eq_false_iff_ne.mpr ?_
 rintro rfl
 revert h
 rw [show code (Str.ofString "__classdict__")=none by decide +kernel]
 intro h;exact Ae h
section
variable {M:Model} {A:Around} {E:Value→Shared→Prop} {s:Shared}
theorem load_ {Q:Value→Shared→Prop} (G:EnvOk base s.heap μ sc env ρ) {x:Str} {pos:Pos} {n:Nat} {av:AV} (hn:code x=some n) (hk:JG (sc.names.lookup x)=true) (e:look n ρ=some av)
  (q:∀ v,VR base s.heap μ v av→Q v s):wpAny M A (eval (.Name x pos) env) Q E s:=by
 refine wpAny_Name ?_ (Fy hn)
 unfold JG at hk
 split at hk
 ·rename_i hl
  obtain ⟨m,hns,hm⟩:=G.ns
  obtain ⟨u,h1,h2⟩:=hm x n av hn hl e
  exact wpAny_loadName_local G.kind (G.kloc x hl) hns h1 (q u h2)
 ·rename_i hl
  obtain ⟨hkind,c,hc⟩:=G.kcel x (.inl hl)
  obtain ⟨v,hcell,hv⟩:=G.cel x c hc
  obtain ⟨u,rfl,h2⟩:=hv n av hn (.inl hl) e
  rcases hkind with hkind | hkind
  ·exact wpAny_loadName_cell G.kind hkind hc hcell (q u h2)
  ·exact wpAny_loadName_free G.kind hkind hc hcell (q u h2) (EH hn)
 ·rename_i hl
  obtain ⟨hkind,c,hc⟩:=G.kcel x (.inr hl)
  obtain ⟨v,hcell,hv⟩:=G.cel x c hc
  obtain ⟨u,rfl,h2⟩:=hv n av hn (.inr hl) e
  rcases hkind with hkind | hkind
  ·exact wpAny_loadName_cell G.kind hkind hc hcell (q u h2)
  ·exact wpAny_loadName_free G.kind hkind hc hcell (q u h2) (EH hn)
 ·exact absurd hk bQ
theorem L3 {mg:Str→Option Value} {v:Value} {Q:Value→Shared→Prop} (G:EnvOk base s.heap μ sc env ρ) (I:Inv p w C base μ s.heap σ) (hg:base.Ns mainGlobals mg) {x:Str} {pos:Pos} {n:Nat} (hn:code x=some n) (hk:CH (sc.names.lookup x)=true) (e:mg x=some v)
  (q:Q v s):wpAny M A (eval (.Name x pos) env) Q E s:=by
 have hl:sc.names.lookup x=some .globalImplicit:=by unfold CH at hk;split at hk<;>first | assumption | exact absurd hk bQ
 refine Name_function_global G.kind (G.kglo x hl) ?_ (Fy hn)
 obtain ⟨o,es,ep,ho,hd,hks,hf⟩:=hg
 exact loadGlobal_global (mg:=mg) (by rw [G.gl];exact ⟨o,es,ep,I.keep _ _ ho,hd,hks,hf⟩) e q
theorem Uj {mg mb:Str→Option Value} {v:Value} {Q:Value→Shared→Prop} (G:EnvOk base s.heap μ sc env ρ) (I:Inv p w C base μ s.heap σ) (hg:base.Ns mainGlobals mg) (hb:base.Ns builtinsNs mb) {x:Str} {pos:Pos} {n:Nat} (hn:code x=some n) (hk:CH (sc.names.lookup x)=true) (e:mg x=none) (e':mb x=some v)
  (q:Q v s):wpAny M A (eval (.Name x pos) env) Q E s:=by
 have hl:sc.names.lookup x=some .globalImplicit:=by unfold CH at hk;split at hk<;>first | assumption | exact absurd hk bQ
 refine Name_function_global G.kind (G.kglo x hl) ?_ (Fy hn)
 obtain ⟨o,es,ep,ho,hd,hks,hf⟩:=hg
 obtain ⟨o2,es2,ep2,ho2,hd2,hks2,hf2⟩:=hb
 exact loadGlobal_builtin (mg:=mg) (mb:=mb) (by rw [G.gl];exact ⟨o,es,ep,I.keep _ _ ho,hd,hks,hf⟩) e (by rw [G.bl];exact ⟨o2,es2,ep2,I.keep _ _ ho2,hd2,hks2,hf2⟩) e' q
theorem Hm {Q:Unit→Shared→Prop} (G:EnvOk base s.heap μ sc env ρ) (I:Inv p w C base μ s.heap σ) {x:Str} {n:Nat} {v:Value} {av:AV} (hn:code x=some n) (hk:Bv (sc.names.lookup x)=true) (rv:VR base s.heap μ v av)
  (q:∀ h' t,Inv p w C base μ h' σ→StpX (CC env) μ s.heap μ h'→EnvOk base h' μ sc env (put n av ρ)→(sc.names.lookup x=some .local→∀ b o,b≠env.locals→s.heap.get? b=some o→h'.get? b=some o)→Q () (AS s h' t)):wpAny M A (storeName env x v) Q E s:=by
 have hne:∀ y n' av',code y=some n'→y≠x→look n' (put n av ρ)=some av'→look n' ρ=some av':=by
  intro y n' av' hy hyx e
  rw [look_put] at e
  have:¬ n'=n:=by rintro rfl;exact hyx (Bo hy hn)
  rwa [if_neg this] at e
 have hself:∀ av',look n (put n av ρ)=some av'→av'=av:=by
  intro av' e
  rw [look_put,if_pos rfl] at e
  exact (oQ e).symm
 have hk':sc.names.lookup x=some .local∨(sc.names.lookup x=some .cell∧env.kindOf x=some .cell):=by
  unfold Bv at hk
  split at hk
  ·rename_i h;exact .inl h
  ·rename_i h;exact .inr ⟨h,G.kcell x h⟩
  ·exact absurd hk bQ
 rcases hk' with hl | ⟨hl,hkind⟩
 ·obtain ⟨m,hns,hm⟩:=G.ns
  have hoffL:=G.off _ (.inl rfl)
  refine wpAny_storeName_local (G.kloc x hl) hns (fun h' hns' SB=>?_) (by rw [G.kind];rfl)
  obtain ⟨oL,es,ep,hoL,hdL,hkL,hfL⟩:=hns
  have k:∀ b o,b≠env.locals→s.heap.get? b=some o→h'.get? b=some o:=fun b o hb e=>SB.extBut b o hb e
  have kp:Kp s.heap h':=Co hoL (Bz hdL) k
  have I':Inv p w C base μ h' σ:=I.offW hoffL.1 (A8 hoffL.2) k (fun o e=>by rw [hoL] at e;(cases e);exact Bz hdL)
  refine q h' _ I' ⟨⟨[],by simp,by simp⟩,fun b o e off nx=>k b o (fun e'=>nx (.inl e')) e,fun b o hb e=>?_,kp⟩ ?_ fun _=>k
  ·by_cases hbl:b=env.locals
   ·subst hbl;obtain ⟨o',_,_,ho',_⟩:=hns';exact ⟨o',ho'⟩
   ·exact ⟨o,k b o hbl e⟩
  ·refine ⟨G.kind,G.gl,G.bl,G.kloc,G.kcel,G.kcell,G.kglo,⟨_,hns',fun y n' av' h1 h2 h3=>?_⟩,fun y c hy=>?_,G.off,G.apart,G.inj⟩
   ·by_cases hyx:y=x
    ·subst hyx
     rw [hn] at h1;cases h1
     rw [hself av' h3]
     exact ⟨v,if_pos rfl,rv.keep kp⟩
    ·obtain ⟨u,h4,h5⟩:=hm y n' av' h1 h2 (hne y n' av' h1 hyx h3)
     exact ⟨u,by rw [if_neg hyx];exact h4,h5.keep kp⟩
   ·obtain ⟨v',⟨o,ho,hd⟩,hv'⟩:=G.cel y c hy
    refine ⟨v',⟨o,k c o (G.apart y c hy) ho,hd⟩,fun n' av' h1 h2 h3=>?_⟩
    have hyx:y≠x:=by rintro rfl;rw [hl] at h2;rcases h2 with h2 | h2<;>cases h2
    obtain ⟨u,h4,h5⟩:=hv' n' av' h1 h2 (hne y n' av' h1 hyx h3)
    exact ⟨u,h4,h5.keep kp⟩
 ·obtain ⟨_,c,hc⟩:=G.kcel x (.inl hl)
  obtain ⟨v₀,hcell,hv⟩:=G.cel x c hc
  have hoffC:=G.off c (.inr ⟨x,hc⟩)
  refine wpAny_storeName_cell G.kind hkind hc hcell fun h' hcell' SB=>?_
  obtain ⟨oC,hoC,hdC⟩:=hcell
  have k:∀ b o,b≠c→s.heap.get? b=some o→h'.get? b=some o:=fun b o hb e=>SB.extBut b o hb e
  have kp:Kp s.heap h':=Co hoC (HC hdC) k
  have I':Inv p w C base μ h' σ:=I.offW hoffC.1 (A8 hoffC.2) k (fun o e=>by rw [hoC] at e;(cases e);exact HC hdC)
  refine q h' s.toks I' ⟨⟨[],by simp,by simp⟩,fun b o e off nx=>k b o (fun e'=>nx (.inr ⟨x,e'▸hc⟩)) e,fun b o hb e=>?_,kp⟩ ?_ fun e=>by rw [hl] at e;cases e
  ·by_cases hbl:b=c
   ·subst hbl;obtain ⟨o',ho',_⟩:=hcell';exact ⟨o',ho'⟩
   ·exact ⟨o,k b o hbl e⟩
  ·refine ⟨G.kind,G.gl,G.bl,G.kloc,G.kcel,G.kcell,G.kglo,?_,fun y c' hy=>?_,G.off,G.apart,G.inj⟩
   ·obtain ⟨m,⟨o,es,ep,ho,hd,hk,hf⟩,hm⟩:=G.ns
    refine ⟨m,⟨o,es,ep,k _ o (Ne.symm (G.apart x c hc)) ho,hd,hk,hf⟩,fun y n' av' h1 h2 h3=>?_⟩
    have hyx:y≠x:=by rintro rfl;rw [hl] at h2;cases h2
    obtain ⟨u,h4,h5⟩:=hm y n' av' h1 h2 (hne y n' av' h1 hyx h3)
    exact ⟨u,h4,h5.keep kp⟩
   ·by_cases hyx:y=x
    ·subst hyx
     rw [hc] at hy;cases hy
     refine ⟨some v,hcell',fun n' av' h1 h2 h3=>?_⟩
     rw [hn] at h1;cases h1
     rw [hself av' h3]
     exact ⟨v,rfl,rv.keep kp⟩
    ·obtain ⟨v',⟨o,ho,hd⟩,hv'⟩:=G.cel y c' hy
     have hcc:c'≠c:=by rintro rfl;exact hyx (G.inj y x _ hy hc)
     refine ⟨v',⟨o,k c' o hcc ho,hd⟩,fun n' av' h1 h2 h3=>?_⟩
     obtain ⟨u,h4,h5⟩:=hv' n' av' h1 h2 (hne y n' av' h1 hyx h3)
     exact ⟨u,h4,h5.keep kp⟩
end
end
end
section
structure Cx where
 p:Program
 w:World
 K:Frag
 base:Heap
 mg:Str→Option Value
 mb:Str→Option Value
 C:BQ
 P:Prog
structure Top (X:Cx):Prop where
 kin:X.K.In X.base
 g:X.base.Ns mainGlobals X.mg
 b:X.base.Ns builtinsNs X.mb
 nolimit:X.base.NoLimit
 big:sysModules < X.base.objs.size
 tight:Tight X.base
 fnv:∀ x f d,code x=some f→X.P.isCls f=false→X.P.defs (0,f)=some d→∃ fa,X.mg x=some (.ref fa)∧keepIn X.K (.ref fa)=true
 clsv:∀ x f d,code x=some f→X.P.isCls f=true→X.P.defs (f,X.P.kInit)=some d→∃ ca,X.mg x=some (.ref ca)∧keepIn X.K (.ref ca)=true
 c0:X.C 0=none
 meth:∀ c ca m name d,X.C c=some ca→code name=some m→X.P.defs (c,m)=some d→∃ fa,plainGet X.K ca name=true∧findIn X.K (.ref ca) name=some (some (.ref fa))∧isFn X.K (.ref fa)=true∧keepIn X.K (.ref fa)=true
 gtup:∀ x n l,code x=some n→X.P.gtup n=some l→∃ v,X.mg x=some v∧VR X.base X.base [] v (.tup (l.map .str))
 bival:∀ x n b,code x=some n→Lk n=some b→X.mg x=none∧X.mb x=some (Np b)
 bits:∀ x,code x=some 13→∃ a f t,X.mg x=some (.ref a)∧X.base.MapOf (strKind X.p X.w) a f∧f (Str.ofString "u8")=some (.int 8 t)
 attr:∀ name f c ca,Fx f=true→code name=some f→X.C c=some ca→AttrOk X.K ca name
 noget:∀ c,X.P.defs (c,HL)=none
 nogetC:X.P.isCls HL=false
inductive FnVal (X:Cx):Nat×Nat→Value→Prop
 | glob (x:Str) (f:Nat) (v:Value):code x=some f→X.mg x=some v→FnVal X (0,f) v
 | meth (c m:Nat) (name:Str) (ca fa:Addr):X.C c=some ca→code name=some m→findIn X.K (.ref ca) name=some (some (.ref fa))→FnVal X (c,m) (.ref fa)
noncomputable abbrev ResX (X:Cx):=Res X.p X.w X.C X.base
noncomputable abbrev AK (X:Cx):=Inv X.p X.w X.C X.base
noncomputable abbrev C6 (X:Cx) (k:Nat):=ev X.P.gtup (AT X.P k)
noncomputable abbrev Iw (X:Cx) (k:Nat):=J5 X.P.gtup (AT X.P k)
noncomputable abbrev evbX (X:Cx) (k:Nat):=evb X.P.gtup (AT X.P k)
noncomputable abbrev OK (X:Cx) (k:Nat):=DE X.P.gtup (AT X.P k)
noncomputable def ResG {α:Type} (X:Cx) (pu:Prop) (μ:A5) (s:Shared) (rel:Heap→A5→α→Prop) (σ':St) (Q:α→Shared→Prop):Prop:=
 ∀ v μ' h' t,AK X μ' h' σ'→Stp μ s.heap μ' h'→rel h' μ' v→(pu→CB s.heap h')→Q v (AS s h' t)
noncomputable abbrev Tb (X:Cx) (pu:Prop) (μ:A5) (s:Shared) (b:Bool):=ResG X pu μ s fun _ _ b'=>b'=b
noncomputable def BG (X:Cx) (k:Nat):Prop:=
 ∀ key xs σ y σ',AT X.P k key xs σ=some (y,σ')→∀ fv,FnVal X key fv→∀ (A:Around) (μ:A5) (s:Shared) (vs:List Value) (Q E:Value→Shared→Prop),
  AK X μ s.heap σ→VRs X.base s.heap μ vs xs→Ok A k→ResX X False μ s y σ' Q→wpAny (model X.p X.w) A (call fv vs) Q E s
structure SoundE (X:Cx) (k:Nat) (e:Expr):Prop where
 ev:∀ {sc:Scope} {env:Env} {ρ:At} {μ:A5} {s:Shared} {σ:St} {A:Around},EnvOk X.base s.heap μ sc env ρ→AK X μ s.heap σ→Ok A k →
  ∀ {v:AV} {σ':St} {E Q:Value→Shared→Prop},C6 X k (Aq sc e) ρ σ=some (v,σ')→ResX X (AL (Aq sc e)=true) μ s v σ' Q→wpAny (model X.p X.w) A (eval e env) Q E s
 ts:∀ {sc:Scope} {env:Env} {ρ:At} {μ:A5} {s:Shared} {σ:St} {A:Around},EnvOk X.base s.heap μ sc env ρ→AK X μ s.heap σ→Ok A k →
  ∀ {b:Bool} {σ':St} {E:Value→Shared→Prop} {Q:Bool→Shared→Prop},OK X k (Aq sc e) ρ σ=some (b,σ')→Tb X (AL (Aq sc e)=true) μ s b σ' Q→wpAny (model X.p X.w) A (PySem.isTrue e env (eval e env)) Q E s
section
variable {X:Cx} {k:Nat} {sc:Scope} {env:Env} {ρ:At} {μ μ1:A5} {s:Shared} {σ σ' σ₁:St} {A:Around} {pu pu2:Prop} {x:AV} {h₁:Heap} {t₁:Nat}
theorem ResG.next {α:Type} {rel:Heap→A5→α→Prop} {Q:α→Shared→Prop} (R:ResG X pu μ s rel σ' Q) (S:Stp μ s.heap μ1 h₁) (h1:pu→pu2) (k1:pu→CB s.heap h₁) :
  ResG X pu2 μ1 (AS s h₁ t₁) rel σ' Q:=fun v μ' h' t I' S' r kp=>R v μ' h' t I' (S.trans S') r fun hp b o e=>kp (h1 hp) b o (k1 hp b o e)
theorem Res.next {Q:Value→Shared→Prop} (R:ResX X pu μ s x σ' Q) (S:Stp μ s.heap μ1 h₁) (h1:pu→pu2) (k1:pu→CB s.heap h₁) :
  ResX X pu2 μ1 (AS s h₁ t₁) x σ' Q:=ResG.next (rel:=fun h m v=>VR X.base h m v x) R S h1 k1
theorem Res.on {Q:Value→Shared→Prop} (R:ResX X pu μ s x σ' Q) (S:Stp μ s.heap μ1 h₁) (h1:¬ pu):ResX X pu2 μ1 (AS s h₁ t₁) x σ' Q:=R.next S (fun h=>(h1 h).elim) fun h=>(h1 h).elim
theorem ResG.imp {α:Type} {rel:Heap→A5→α→Prop} {Q:α→Shared→Prop} (R:ResG X pu μ s rel σ' Q) (h1:pu→pu2):ResG X pu2 μ s rel σ' Q:=fun v μ' h' t I' S' r kp=>R v μ' h' t I' S' r fun h=>kp (h1 h)
theorem Res.weak {Q:Value→Shared→Prop} (R:ResX X pu μ s x σ' Q) (h1:pu→pu2):ResX X pu2 μ s x σ' Q:=ResG.imp (rel:=fun h m v=>VR X.base h m v x) R h1
theorem ResG.here {α:Type} {rel:Heap→A5→α→Prop} {Q:α→Shared→Prop} (R:ResG X pu μ s rel σ Q) (I:AK X μ s.heap σ) {v:α} (h:rel s.heap μ v) (t:Nat):Q v { s with toks:=t }:=
 R v μ s.heap t I (Stp.refl _ _) h fun _ _ _ e=>e
theorem ResX.here {Q:Value→Shared→Prop} (R:ResX X pu μ s x σ' Q) (I:AK X μ s.heap σ) {v:Value} (r:VR X.base s.heap μ v x) (e:σ=σ') (t:Nat):Q v (AS s s.heap t):=by subst e;exact Res.same I R r t
theorem Top.base_le (T:Top X) (I:AK X μ s.heap σ):X.base.objs.size≤s.heap.objs.size:=T.tight.le I.keep
theorem Jj {e:Expr}
  (h:∀ {v:AV} {σ':St} {E Q:Value→Shared→Prop},C6 X k (Aq sc e) ρ σ=some (v,σ')→ResX X (AL (Aq sc e)=true) μ s v σ' Q→wpAny (model X.p X.w) A (eval e env) Q E s)
  (he:PySem.isTrue e env (eval e env)=(do let v ←eval e env;standAt e.pos;holding [v] (truthy v)))
  {b:Bool} {E:Value→Shared→Prop} {Q:Bool→Shared→Prop} (ht:OK X k (Aq sc e) ρ σ=some (b,σ')) (R:Tb X (AL (Aq sc e)=true) μ s b σ' Q):wpAny (model X.p X.w) A (PySem.isTrue e env (eval e env)) Q E s:=
 Eh ht fun v h1 h2=>wpAny_isTrue_value (h h1 fun u μ' h' t I' S' r kp=>Hi A r h2 (R b μ' h' t I' S' rfl kp)) he
theorem SoundE.of_eval {e:Expr} (he:∀ env,PySem.isTrue e env (eval e env)=(do let v ←eval e env;standAt e.pos;holding [v] (truthy v)))
  (h:∀ (sc:Scope) (env:Env) (ρ:At) (μ:A5) (s:Shared) (σ:St) (A:Around),EnvOk X.base s.heap μ sc env ρ→AK X μ s.heap σ→Ok A k →
   ∀ (v:AV) (σ':St) (E Q:Value→Shared→Prop),C6 X k (Aq sc e) ρ σ=some (v,σ')→ResX X (AL (Aq sc e)=true) μ s v σ' Q→wpAny (model X.p X.w) A (eval e env) Q E s):SoundE X k e:=
 ⟨fun {_ _ _ _ _ _ _} G I O {_ _ _ _} e R=>h _ _ _ _ _ _ _ G I O _ _ _ _ e R,fun {_ _ _ _ _ _ _} G I O {_ _ _ _}=>Jj (h _ _ _ _ _ _ _ G I O _ _ _ _) (he _)⟩
theorem Be {e:Expr} (h:∀ sc,Aq sc e=.bad):SoundE X k e:=
 ⟨fun {sc _ _ _ _ _ _} _ _ _ {_ _ _ _} e' _=>CN (h sc▸e'),fun {sc _ _ _ _ _ _} _ _ _ {_ _ _ _} e' _=>Eh e' fun _ e' _=>CN (h sc▸e')⟩
theorem FE {f:Nat→PE} {c:Option Nat} {r:AV×St} {P:Prop} (h:C6 X k (GG f c) ρ σ=some r) (q:∀ n,c=some n→C6 X k (f n) ρ σ=some r→P):P:=by
 cases c with
 | none=>exact CN h
 | some n=>exact q n rfl h
theorem Ha {b:Bool} {e e':PE} {r:AV×St} {P:Prop} (h:C6 X k (cond b e e') ρ σ=some r) (q:b=true→C6 X k e ρ σ=some r→P) (q':b=false→C6 X k e' ρ σ=some r→P):P:=by
 cases b with
 | true=>exact q rfl h
 | false=>exact q' rfl h
theorem Cs {b:Bool} {e:PE} {r:AV×St} {P:Prop} (h:C6 X k (cond b e .bad) ρ σ=some r) (q:b=true→C6 X k e ρ σ=some r→P):P:=Ha h q fun _ h=>CN h
theorem const_ok {l u:AV} {q:Value→Shared→Prop} (h:C6 X k (.none) ρ σ=some (u,σ')) (R:ResX X pu μ s u σ' q) (I:AK X μ s.heap σ):q .none s:=Bf h fun e1 e2=>ResX.here (s:=s) R I (e1▸.none) e2 s.toks
theorem Hp (c:Const) (kk:Nat) (pos:Pos):SoundE X k (.Constant c kk pos):=
 .of_eval (fun _=>rfl) fun sc env ρ μ s σ A G I O v σ' E Q e R=>by
  cases c with
  | none=>exact Bf e fun e1 e2=>wpAny_Constant_none (ResX.here (s:=_) R I (e1▸.none) e2 _)
  | bool b=>exact Bf e fun e1 e2=>wpAny_Constant_bool (ResX.here (s:=_) R I (e1▸.bool b) e2 _)
  | int i=>exact Bf e fun e1 e2=>wpAny_Constant_int (ResX.here (s:=_) R I (e1▸.int i _) e2 _)
  | str x=>exact FE (f:=.str) e fun n hn e=>Bf e fun e1 e2=>Constant_str (ResX.here (s:=_) R I (e1▸.str x _ n hn) e2 _)
  | _=>exact CN e
theorem LK (T:Top X) (id:Str) (pos:Pos):SoundE X k (.Name id pos):=
 .of_eval (fun _=>rfl) fun sc env ρ μ s σ A G I O v σ' E Q e R=>by
  have e:C6 X k (GG (fun n=>cond (JG (sc.names.lookup id)) (.var n) (cond (CH (sc.names.lookup id)&&PU n) (.gtup n) .bad)) (code id)) ρ σ=some (v,σ'):=by
   revert e;show C6 X k (Pp _ (code id)) ρ σ=_→_;cases code id<;>exact fun e=>e
  exact FE e fun n hn e=>Ha e
   (fun hk e=>Dv (f:=fun v=>v) e fun u hu e1 e2=>load_ G hn hk hu fun v r=>ResX.here (s:=s) R I (e1▸r) e2 s.toks)
   fun _ e=>Cs e fun hk e=>Dv (f:=fun l:List Nat=>AV.tup (l.map .str)) e fun l hl e1 e2=>
    (T.gtup id n l hn hl).elim fun v h=>L3 G I T.g hn (Ay hk) h.1 (ResX.here (s:=s) R I (e1▸VR.mono (ν:=μ) (fun b o e _=>I.keep b o e) h.2) e2 s.toks)
end
end
section
section
variable {X:Cx} {k:Nat} {sc:Scope} {env:Env} {ρ:At} {μ μ1:A5} {s:Shared} {σ σ' σ₁:St} {A:Around} {pu pu2:Prop} {x:AV} {h₁:Heap} {t₁:Nat}
theorem Ok.units {k:Nat} (O:Ok A k):A.units+30 < cLine:=Nat.lt_of_le_of_lt (Nat.add_le_add (Nat.le_add_right _ _) (by decide)) O.2.2
theorem JE {h h' h'':Heap} {a b:Bool} (k1:a=true→CB h h') (k2:b=true→CB h' h'') (e:(a&&b)=true):CB h h'':=fun c o x=>k2 (AA e) c o (k1 (Ay e) c o x)
theorem Kc (T:Top X) {l r:Expr} (op:Operator) (pos:Pos) (hl:SoundE X k l) (hr:SoundE X k r):SoundE X k (.BinOp l op r pos):=
 .of_eval (fun _=>rfl) fun sc env ρ μ s σ A G I O v σ' E Q e R=>bin_i e fun x σ₁ y σ₂ h1 h2 h3=>
  wpAny_BinOp (hl.ev G I O h1 fun a μ1 h₁ t₁ I₁ S₁ ra _=>hr.ev (s:=AS s h₁ t₁) (G.step I S₁) I₁ O h2 fun b μ2 h₂ t₂ I₂ S₂ rb _=>
   bin_ (s:=AS s h₂ t₂) I₂ (T.base_le (s:=AS s h₂ t₂) I₂) (ra.step I₁ S₂) rb h3 (R.on (S₁.trans S₂) fun h=>nomatch h))
theorem neg_ {a:Expr} {r:Value} {Q:Value→Shared→Prop} {E:Value→Shared→Prop} {v:AV} {h:Heap} (ra:VR X.base h μ r x) (hn:Ud x=some v) (q:∀ u t,VR X.base h μ u v→Q u { s with toks:=t }):wpAny (model X.p X.w) A (unaryOp .USub r) Q E s:=by
 cases x with
 | int i=>obtain ⟨t,rfl⟩:=ra.x;exact neg_int (q _ _ (oQ hn▸.int _ _))
 | _=>exact Ae hn
theorem Io (T:Top X) {a:Expr} (op:UnaryOp) (pos:Pos) (ha:SoundE X k a):SoundE X k (.UnaryOp op a pos):=by
 cases op with
 | Not=>
  refine ⟨fun {_ _ _ _ _ _ _} G I O {_ _ _ _} e R=>Tk e fun x b h1 h3 e1=>?_,fun {_ _ _ _ s _ _} G I O {_ _ _ _} e R=>Eh e fun y h0 h2=>Tk h0 fun x b h1 h3 e1=>?_⟩
  ·subst e1;exact wpAny_UnaryOp (ha.ev G I O h1 fun a μ1 h₁ t₁ I₁ S₁ ra kp=>not_value (Hi _ ra h3 (R _ μ1 h₁ t₁ I₁ S₁ (.bool _) kp)))
  ·subst e1
   exact wpAny_isTrue_Not (ha.ts G I O (test_ok h1 h3) fun b3 μ1 h₁ t₁ I₁ S₁ eb kp=>R _ μ1 h₁ t₁ I₁ S₁ (eb▸Hh h2) kp)
 | USub=>exact .of_eval (fun _=>rfl) fun sc env ρ μ s σ A G I O v σ' E Q e R=>neg_i e fun x h1 h2=>wpAny_UnaryOp (ha.ev G I O h1 fun r μ1 h₁ t₁ I₁ S₁ ra kp=>neg_ (a:=a) ra h2 fun u t ru=>R u μ1 h₁ t I₁ S₁ ru kp)
 | Invert=>exact Be fun _=>rfl
 | UAdd=>exact Be fun _=>rfl
theorem Ki {a b c:PE} {t:Bool} (h:AL (.ite a b c)=true):AL (cond t b c)=true:=by
 cases t
 ·exact AA h
 ·exact AA (Ay h)
theorem cond_comp {sc:Scope} {a b:Expr} {t:Bool}:cond t (Aq sc a) (Aq sc b)=Aq sc (cond t a b):=by cases t<;>rfl
theorem Ka {t a b:Expr} (pos:Pos) (ht:SoundE X k t) (ha:SoundE X k a) (hb:SoundE X k b):SoundE X k (.IfExp t a b pos):=
 ⟨fun {sc env ρ μ s σ A} G I O {v σ' E Q} e R=>Tq e fun x σ₁ tb h1 h2 e=>wpAny_IfExp (ht.ts G I O (test_ok h1 h2) fun b3 μ1 h₁ t₁ I₁ S₁ eb kp=>by
   subst eb
   have R':=R.next (t₁:=t₁) S₁ (Ki (t:=b3)) (fun h=>kp (Ay (Ay h)))
   cases b3 with
   | true=>exact ha.ev (s:=AS s h₁ t₁) (G.step I S₁) I₁ O e R'
   | false=>exact hb.ev (s:=AS s h₁ t₁) (G.step I S₁) I₁ O e R'),
  fun {sc env ρ μ s σ A} G I O {v σ' E Q} e R=>Eh e fun y h1 h2=>Tq h1 fun x σ₁ tb h1 h3 e=>(arm_isTrue_IfExp ..).symm▸wpAny_bind (ht.ts G I O (test_ok h1 h3) fun b3 μ1 h₁ t₁ I₁ S₁ eb kp=>by
   subst eb
   have R':=ResG.next (t₁:=t₁) R S₁ (Ki (t:=b3)) (fun h=>kp (Ay (Ay h)))
   cases b3 with
   | true=>exact ha.ts (s:=AS s h₁ t₁) (G.step I S₁) I₁ O (test_ok e h2) R'
   | false=>exact hb.ts (s:=AS s h₁ t₁) (G.step I S₁) I₁ O (test_ok e h2) R')⟩
theorem ET {r:Expr} {y:AV×St} (h:C6 X k (Aq sc r) ρ σ=some y):P1 r=true:=(R_ r).elim id fun e=>CN (e sc▸h)
theorem Ll {op:CmpOp} (r:Expr):P1 r=true→behindInMarks op r=false:=by
 induction r using Expr.casesOn<;>first | exact fun _=>rfl | exact fun h=>absurd h bQ
theorem DY {r:Expr} {op:CmpOp} {y:AV×St} (h:C6 X k (Aq sc r) ρ σ=some y):behindInMarks op r=false:=Ll r (ET h)
theorem Et {op:CmpOp} {r:Expr} {t:Sem Value} (h:behindInMarks op r=false):markedEach [op] [r] [t]=[t]:=by
 simp [markedEach,markedBehindIn,h]
theorem cmp1 (T:Top X) {l r:Expr} {op:CmpOp} (hl:SoundE X k l) (hr:SoundE X k r) (G:EnvOk X.base s.heap μ sc env ρ) (I:AK X μ s.heap σ) (O:Ok A k) {y:AV} {b:Bool} {E Q:Value→Shared→Prop}
  (h1:C6 X k (Aq sc l) ρ σ=some (x,σ₁)) (h2:C6 X k (Aq sc r) ρ σ₁=some (y,σ')) (h3:A9 σ' op x y=some b) (R:ResX X ((AL (Aq sc l)&&AL (Aq sc r))=true) μ s (.bool b) σ' Q) :
  wpAny (model X.p X.w) A (eval l env) (fun a s₁=>wpAny (model X.p X.w) A (eval r env) (fun b s₂=>wpAny (model X.p X.w) A (compareOp op a b) Q E s₂) E s₁) E s:=
 hl.ev G I O h1 fun a μ1 h₁ t₁ I₁ S₁ ra k1=>hr.ev (s:=AS s h₁ t₁) (G.step I S₁) I₁ O h2 fun c μ2 h₂ t₂ I₂ S₂ rb k2=>
  UJ (s:=AS s h₂ t₂) I₂ T.big (ra.step I₁ S₂) rb h3 O.units fun t=>R _ μ2 h₂ t I₂ (S₁.trans S₂) (.bool _) (JE k1 k2)
theorem Hr (T:Top X) {l r:Expr} (op:CmpOp) (pos:Pos) (hl:SoundE X k l) (hr:SoundE X k r):SoundE X k (.Compare l [op] [r] pos):=
 ⟨fun {_ _ _ _ _ _ _} G I O {_ _ _ _} e R=>Tz e fun x σ₁ y b h1 h2 h3 e1=>by subst e1;exact wpAny_Compare1 (cmp1 T hl hr G I O h1 h2 h3 R) (DY h2),
  fun {_ _ _ _ _ _ A} G I O {_ _ _ _} e R=>Eh e fun z e h4=>Tz e fun x σ₁ y b h1 h2 h3 e1=>by
   subst e1
   exact wpAny_isTrue_Compare1 (cmp1 T hl hr G I O h1 h2 h3 fun u μ' h' t I' S' r kp=>Hi A r h4 (R _ μ' h' t I' S' rfl kp)) (DY h2)⟩
section
variable {l m r:Expr} {op op':CmpOp} {pos:Pos} {E:Value→Shared→Prop}
theorem QB (a:Value) (x:Sem Value) (ts:List (Sem Value)):compareChain pos a [op,op'] (x::ts)=(do
  let rv ←holding [a] x
  standAt pos
  let c ←holding [a,rv] (compareOp op a rv)
  release [a,rv] [c]
  if ←holding [c,rv] (truthy c) then compareChain pos rv [op'] ts else pure c):=by cases ts<;>rfl
theorem Oh (a:Value) (x:Sem Value) (ts:List (Sem Value)):testChain pos a [op,op'] (x::ts)=(do
  let rv ←holding [a] x
  standAt pos
  let c ←holding [a,rv] (compareOp op a rv)
  release [a,rv] [c]
  if ←holding [c,rv] (truthy c) then testChain pos rv [op'] ts else pure false):=by cases ts<;>rfl
theorem Mj {Q:Value→Shared→Prop} (h:wpAny (model X.p X.w) A (eval l env) (fun a s₁=>wpAny (model X.p X.w) A (eval m env) (fun b s₂=>wpAny (model X.p X.w) A (compareOp op a b) (fun c s₃=>∃ t,c=.bool t∧(t=false→Q c s₃) ∧
   (t=true→behindInMarks op' r=false∧wpAny (model X.p X.w) A (eval r env) (fun d s₄=>wpAny (model X.p X.w) A (compareOp op' b d) Q E s₄) E s₃)) E s₂) E s₁) E s):wpAny (model X.p X.w) A (eval (.Compare l [op,op'] [m,r] pos) env) Q E s:=by
 rw [arm_eval_Compare]
 refine wpAny_bind (wpAny_mono h (fun a s₁ h₁=>?_) fun _ _ h=>h)
 show wpAny _ _ (compareChain pos a [op,op'] (eval m env::markedEach [op'] [r] [eval r env])) _ _ _
 rw [QB]
 refine wpAny_bind (wpAny_holding (wpAny_mono h₁ (fun b s₂ h₂=>?_) fun _ _ h=>h))
 refine wpAny_bind (wpAny_standAt (wpAny_bind (wpAny_holding (wpAny_mono h₂ (fun c s₃ h₃=>?_) fun _ _ h=>h))))
 obtain ⟨t,rfl,q1,q2⟩:=h₃
 refine wpAny_bind (wpAny_release (wpAny_bind (wpAny_holding (wpAny_truthy_bool ?_))))
 cases t with
 | false=>exact wpAny_pure (q1 rfl)
 | true=>
  obtain ⟨hb,q2⟩:=q2 rfl
  rw [Et hb]
  exact wpAny_bind (wpAny_holding (wpAny_mono q2 (fun d s₄ h₄=>wpAny_bind (wpAny_standAt (wpAny_operating h₄))) fun _ _ h=>h))
theorem Mi {Q:Bool→Shared→Prop} (h:wpAny (model X.p X.w) A (eval l env) (fun a s₁=>wpAny (model X.p X.w) A (eval m env) (fun b s₂=>wpAny (model X.p X.w) A (compareOp op a b) (fun c s₃=>∃ t,c=.bool t∧(t=false→Q false s₃) ∧
   (t=true→behindInMarks op' r=false∧wpAny (model X.p X.w) A (eval r env) (fun d s₄=>wpAny (model X.p X.w) A (compareOp op' b d) (fun e s₅=>wpAny (model X.p X.w) A (truthy e) Q E s₅) E s₄) E s₃)) E s₂) E s₁) E s):wpAny (model X.p X.w) A (PySem.isTrue (.Compare l [op,op'] [m,r] pos) env (eval (.Compare l [op,op'] [m,r] pos) env)) Q E s:=by
 rw [arm_isTrue_Compare]
 refine wpAny_bind (wpAny_mono h (fun a s₁ h₁=>?_) fun _ _ h=>h)
 show wpAny _ _ (testChain pos a [op,op'] (eval m env::markedEach [op'] [r] [eval r env])) _ _ _
 rw [Oh]
 refine wpAny_bind (wpAny_holding (wpAny_mono h₁ (fun b s₂ h₂=>?_) fun _ _ h=>h))
 refine wpAny_bind (wpAny_standAt (wpAny_bind (wpAny_holding (wpAny_mono h₂ (fun c s₃ h₃=>?_) fun _ _ h=>h))))
 obtain ⟨t,rfl,q1,q2⟩:=h₃
 refine wpAny_bind (wpAny_release (wpAny_bind (wpAny_holding (wpAny_truthy_bool ?_))))
 cases t with
 | false=>exact wpAny_pure (q1 rfl)
 | true=>
  obtain ⟨hb,q2⟩:=q2 rfl
  rw [Et hb]
  exact wpAny_bind (wpAny_holding (wpAny_mono q2 (fun d s₄ h₄=>wpAny_bind (wpAny_standAt (wpAny_bind (wpAny_operating (wpAny_mono h₄ (fun e s₅ h₅=>wpAny_holding h₅) fun _ _ h=>h))))) fun _ _ h=>h))
theorem TA (T:Top X) (hl:SoundE X k l) (hm:SoundE X k m) (hr:SoundE X k r) (G:EnvOk X.base s.heap μ sc env ρ) (I:AK X μ s.heap σ) (O:Ok A k) {y:AV} {σ₂:St} {t:Bool} {v:AV} {Q1 Q2:Value→Shared→Prop}
  (h1:C6 X k (Aq sc l) ρ σ=some (x,σ₁)) (h2:C6 X k (Aq sc m) ρ σ₁=some (y,σ₂)) (h3:A9 σ₂ op x y=some t) (h4:t=false→v=.bool false∧σ'=σ₂)
  (h5:t=true→∃ z r',C6 X k (Aq sc r) ρ σ₂=some (z,σ')∧A9 σ' op' y z=some r'∧v=.bool r') (R1:v=.bool false→ResX X False μ s v σ' Q1) (R2:ResX X False μ s v σ' Q2) :
  wpAny (model X.p X.w) A (eval l env) (fun a s₁=>wpAny (model X.p X.w) A (eval m env) (fun b s₂=>wpAny (model X.p X.w) A (compareOp op a b) (fun c s₃=>∃ t,c=.bool t∧(t=false→Q1 c s₃) ∧
   (t=true→behindInMarks op' r=false∧wpAny (model X.p X.w) A (eval r env) (fun d s₄=>wpAny (model X.p X.w) A (compareOp op' b d) Q2 E s₄) E s₃)) E s₂) E s₁) E s:=
 hl.ev G I O h1 fun a μ1 h₁ t₁ I₁ S₁ ra k1=>hm.ev (s:=AS s h₁ t₁) (G.step I S₁) I₁ O h2 fun c μ2 h₂ t₂ I₂ S₂ rb k2=>
  UJ (s:=AS s h₂ t₂) I₂ T.big (ra.step I₁ S₂) rb h3 O.units fun t3=>⟨t,rfl,fun e=>by subst e;obtain ⟨rfl,rfl⟩:=h4 rfl;exact R1 rfl _ μ2 h₂ t3 I₂ (S₁.trans S₂) (.bool _) nofun,fun e=>by
   obtain ⟨z,r',h6,h7,rfl⟩:=h5 e
   refine ⟨DY h6,?_⟩
   exact hr.ev (s:=AS s h₂ t3) ((G.step I S₁).step I₁ S₂) I₂ O h6 fun d μ3 h₃ t₃ I₃ S₃ rd k3=>UJ (s:=AS s h₃ t₃) I₃ T.big (rb.step I₂ S₃) rd h7 O.units fun t=>R2 _ μ3 h₃ t I₃ ((S₁.trans S₂).trans S₃) (.bool _) nofun⟩
end
theorem Hq (T:Top X) {l m r:Expr} (op op':CmpOp) (pos:Pos) (hl:SoundE X k l) (hm:SoundE X k m) (hr:SoundE X k r):SoundE X k (.Compare l [op,op'] [m,r] pos):=
 ⟨fun {_ _ _ _ _ _ _} G I O {_ _ _ _} e R=>Qz e fun x σ₁ y σ₂ t h1 h2 h3 h4 h5=>Mj (TA T hl hm hr G I O h1 h2 h3 h4 h5 (fun _=>R.weak nofun) (R.weak nofun)),
  fun {_ _ _ _ _ _ A} G I O {_ _ _ _} e R=>Eh e fun z e h6=>Qz e fun x σ₁ y σ₂ t h1 h2 h3 h4 h5=>Mi (TA T hl hm hr G I O h1 h2 h3 h4 h5
   (fun e u μ' h' t' I' S' r kp=>by subst e;exact R _ μ' h' t' I' S' (Hh h6) nofun)
   fun u μ' h' t' I' S' r kp=>Hi A r h6 (R _ μ' h' t' I' S' rfl nofun))⟩
end
end
section
section
variable {X:Cx} {k:Nat} {sc:Scope} {env:Env} {ρ:At} {μ μ1:A5} {s:Shared} {σ σ' σ₁:St} {A:Around} {pu pu2:Prop} {x:AV} {h₁:Heap} {t₁:Nat}
theorem ST (op:BoolOp) (pos:Pos) (l:List Expr):∀ (a:Expr),SoundE X k a→(∀ e∈l,SoundE X k e)→∀ {sc:Scope} {env:Env} {ρ:At} {μ:A5} {s:Shared} {σ:St} {A:Around},EnvOk X.base s.heap μ sc env ρ→AK X μ s.heap σ→Ok A k →
  ∀ {v σ'} {E Q:Value→Shared→Prop},evbX X k op (Aq sc a::AD sc l) ρ σ=some (v,σ')→ResX X ((AL (Aq sc a)&&Bk (AD sc l))=true) μ s v σ' Q→wpAny (model X.p X.w) A (boolOp pos op (eval a env::evalEach l env)) Q E s:=by
 induction l with
 | nil=>
  exact fun a ha _ {_ _ _ _ _ _ _} G I O {_ _ _ _} e R=>ha.ev G I O e (R.weak Ay)
 | cons b l ih=>
  exact fun a ha hs {_ env _ _ s _ _} G I O {v σ' E Q} e R=>Tu e fun x σ₁ t h1 h2 h3 h4=>
    show wpAny _ _ (eval a env >>= fun v=>standAt pos >>= fun _=>holding [v] (truthy v) >>= fun t=>(match op,t with
      | .And,false | .Or,true=>pure v
      | _,_=>boolOp pos op (eval b env::evalEach l env))) _ _ _ from
    wpAny_bind (ha.ev G I O h1 fun a' μ1 h₁ t₁ I₁ S₁ ra kp=>wpAny_bind (wpAny_standAt (wpAny_bind (wpAny_holding (Hi _ ra h2 (by
     have stop:KT op t=true→Q a' (AS s h₁ t₁):=fun e=>R a' μ1 h₁ t₁ ((h3 e).2▸I₁) S₁ ((h3 e).1▸ra) fun h=>kp (Ay h)
     have go:KT op t=false→_:=fun e=>ih b (hs b (.head _)) (fun e he=>hs e (.tail _ he)) (s:=AS s h₁ t₁) (E:=E) (G.step I S₁) I₁ O (h4 e) (R.next S₁ AA fun h=>kp (Ay h))
     revert stop go
     induction op using BoolOp.casesOn with
     | And=>induction t using Bool.casesOn with
      | true=>exact fun _ go=>go rfl
      | false=>exact fun stop _=>wpAny_pure (stop rfl)
     | Or=>induction t using Bool.casesOn with
      | true=>exact fun stop _=>wpAny_pure (stop rfl)
      | false=>exact fun _ go=>go rfl))))))
theorem Q7 (op:BoolOp) (l:List Expr):∀ (a:Expr),SoundE X k a→(∀ e∈l,SoundE X k e)→∀ {sc:Scope} {env:Env} {ρ:At} {μ:A5} {s:Shared} {σ:St} {A:Around},EnvOk X.base s.heap μ sc env ρ→AK X μ s.heap σ→Ok A k →
  ∀ {v b σ'} {E:Value→Shared→Prop} {Q:Bool→Shared→Prop},evbX X k op (Aq sc a::AD sc l) ρ σ=some (v,σ')→truth v=some b→Tb X ((AL (Aq sc a)&&Bk (AD sc l))=true) μ s b σ' Q→wpAny (model X.p X.w) A (allTrue op (a::l) env) Q E s:=by
 induction l with
 | nil=>
  exact fun a ha _ {_ _ _ _ _ _ _} G I O {_ _ _ _ Q} e hv R=>(arm_allTrue_cons ..).symm▸wpAny_bind (ha.ts G I O (test_ok e hv) fun b' μ' h' t I' S' r kp=>by
     have fin:=R b' μ' h' t I' S' r fun h=>kp (Ay h)
     induction op using BoolOp.casesOn<;>induction b' using Bool.casesOn<;>exact wpAny_pure fin)
 | cons b l ih=>
  exact fun a ha hs {_ env _ _ s _ _} G I O {v bb σ' E Q} e hv R=>Tu e fun x σ₁ t h1 h2 h3 h4=>(arm_allTrue_cons ..).symm ▸
    wpAny_bind (ha.ts G I O (test_ok h1 h2) fun b' μ1 h₁ t₁ I₁ S₁ eb kp=>by
     have stop:KT op t=true→Q t (AS s h₁ t₁):=fun e=>R t μ1 h₁ t₁ ((h3 e).2▸I₁) S₁ (oQ (h2.symm.trans ((h3 e).1▸hv))) fun h=>kp (Ay h)
     have go:KT op t=false→_:=fun e=>ih b (hs b (.head _)) (fun e he=>hs e (.tail _ he)) (s:=AS s h₁ t₁) (E:=E) (G.step I S₁) I₁ O (h4 e) hv (ResG.next R S₁ AA fun h=>kp (Ay h))
     rw [eb]
     revert stop go
     induction op using BoolOp.casesOn with
     | And=>induction t using Bool.casesOn with
      | true=>exact fun _ go=>go rfl
      | false=>exact fun stop _=>wpAny_pure (stop rfl)
     | Or=>induction t using Bool.casesOn with
      | true=>exact fun stop _=>wpAny_pure (stop rfl)
      | false=>exact fun _ go=>go rfl)
theorem Jn (op:BoolOp) (l:List Expr) (pos:Pos) (hs:∀ e∈l,SoundE X k e):SoundE X k (.BoolOp op l pos):=by
 induction l using List.casesOn with
 | nil=>
  exact ⟨fun {_ _ _ _ _ _ _} _ _ _ {_ _ _ _} e _=>Ae e,fun {_ _ _ _ _ _ _} _ _ _ {_ _ _ _} e _=>Ae e⟩
 | cons a l=>
  have ha:=hs a (.head _)
  have hl:=fun e he=>hs e (.tail a he)
  exact ⟨fun {_ _ _ _ _ _ _} G I O {_ _ _ _} e R=>(arm_eval_BoolOp ..).symm▸ST op pos l a ha hl G I O e R,
   fun {_ _ _ _ _ _ _} G I O {_ _ _ _} e R=>Eh e fun v h1 h2=>(arm_isTrue_BoolOp ..).symm▸Q7 op l a ha hl G I O h1 h2 R⟩
theorem Gf {e:Expr} {rest:List Expr} {env:Env}:P1 e=true→starEach (e::rest) env=(false,eval e env)::starEach rest env:=by
 induction e using Expr.casesOn<;>first | exact fun _=>rfl | exact fun h=>absurd h bQ
theorem El (pos:Pos) (l:List Expr):(∀ e∈l,SoundE X k e)→∀ {sc:Scope} {env:Env} {ρ:At} {μ:A5} {s:Shared} {σ:St} {A:Around},EnvOk X.base s.heap μ sc env ρ→AK X μ s.heap σ→Ok A k →
  ∀ {vs σ'} {E:Value→Shared→Prop} {Q:List Value→Shared→Prop},Iw X k (AD sc l) ρ σ=some (vs,σ')→ResG X (Bk (AD sc l)=true) μ s (fun h m us=>VRs X.base h m us vs) σ' Q→wpAny (model X.p X.w) A (spliced (backTo pos (starEach l env))) Q E s:=by
 induction l with
 | nil=>
  exact fun _ {_ _ _ _ s _ _} G I O {_ _ _ _} e R=>Bf e fun e1 e2=>spliced_nil (R _ _ _ s.toks (e2▸I) (Stp.refl _ _) (e1▸.nil) fun _ _ _ e=>e)
 | cons a l ih=>
  exact fun hs {_ _ _ _ s _ _} G I O {_ _ _ _} e R=>I3 e fun x σ₁ xs h1 h2 e3=>
    spliced_more ((hs a (.head _)).ev G I O h1 fun a' μ1 h₁ t₁ I₁ S₁ ra k1=>ih (fun e he=>hs e (.tail _ he)) (s:=AS s h₁ t₁) (G.step I S₁) I₁ O h2 fun us μ2 h₂ t₂ I₂ S₂ rs k2=>
     R (a'::us) μ2 h₂ t₂ I₂ (S₁.trans S₂) (e3▸.cons _ _ _ _ (ra.step I₁ S₂) rs) (JE k1 k2)) (Gf (ET h1))
theorem Fg (sc:Scope):∀ l:List Expr,(AD sc l).length=l.length
 | []=>rfl
 | _::l=>congrArg Nat.succ (Fg sc l)
theorem HV {Gt:Nat→Option (List Nat)} {O:GD}:∀ {l:List PE} {ρ:At} {σ:St} {vs:List AV} {σ':St},J5 Gt O l ρ σ=some (vs,σ')→vs.length=l.length
 | [],_,_,_,_,e=>Bf e fun e _=>e▸rfl
 | _::_,_,_,_,_,e=>I3 e fun _ _ _ _ h2 e=>e▸congrArg Nat.succ (HV h2)
theorem OI {n:Nat} (h:Nat.ble n 1000=true):n≤sizeLine:=Nat.le_trans (Nat.le_of_ble_eq_true h) (Nat.le_trans (by decide:1000≤AX) AZ)
theorem IS {l:List Expr} {vs:List AV} {us:List Value} {h:Heap} (hz:Nat.ble l.length 1000=true) (e:Iw X k (AD sc l) ρ σ=some (vs,σ')) (rs:VRs X.base h μ us vs):us.length≤sizeLine:=by
 rw [rs.length,HV e,Fg];exact OI hz
theorem J_ (l:List Expr) (x1:Nat) (pos:Pos) (hs:∀ e∈l,SoundE X k e):SoundE X k (.Tuple l x1 pos):=
 .of_eval (fun _=>rfl) fun sc env ρ μ s σ A G I O v σ' E Q e R=>Cs e fun hz e=>tup_i e fun vs h1 e=>wpAny_Tuple (El pos l hs G I O h1 fun us μ1 h₁ t₁ I₁ S₁ rs kp=>
  have kk:=Aw h₁ { cls:=.type "tuple",data:=.seq us.toArray }
  ⟨IS hz h1 rs,R _ μ1 _ t₁ (I₁.grow kk) (S₁.trans (Stp.grow kk trivial)) (e▸.tup _ us vs (IsTup.new _ _) (rs.keep (Kp.of_all kk))) fun h b o x=>kk b o (kp (by
   have h:AL (cond (Nat.ble l.length 1000) (.tup (AD sc l)) .bad)=true:=h
   rw [hz] at h;exact h) b o x)⟩)
theorem My {us:List Value} {l:List AV} (T:Top X) (I:AK X μ s.heap σ) (va:VRs X.base s.heap μ us l) {P:Prop}
  (q:∀ μ',AK X μ' (s.heap.push { cls:=.type "list",data:=.seq us.toArray }) (σ++[.list l])→Stp μ s.heap μ' (s.heap.push { cls:=.type "list",data:=.seq us.toArray }) →
   VR X.base (s.heap.push { cls:=.type "list",data:=.seq us.toArray }) μ' (.ref s.heap.objs.size) (.loc σ.length)→P):P:=
 have kk:=Aw s.heap { cls:=.type "list",data:=.seq us.toArray }
 q (μ++[(s.heap.objs.size,s.heap.objs.size)]) (I.alloc kk (Nat.le_refl _) (Nat.le_refl _) (T.base_le I) (.list _ us l ⟨_,Heap.get?_push_size _ rfl⟩ (va.mono (Kp.of_all kk)))) (Stp.alloc kk trivial (Nat.le_refl _) (Nat.le_refl _))
  (.loc σ.length (s.heap.objs.size,s.heap.objs.size) (by rw [←I.len];simp))
theorem LL (T:Top X) (l:List Expr) (pos:Pos) (hs:∀ e∈l,SoundE X k e):SoundE X k (.List l pos):=
 .of_eval (fun _=>rfl) fun sc env ρ μ s σ A G I O v σ' E Q e R=>Cs e fun hz e=>Uk e fun vs σ₁ h1 e1 e2=>wpAny_List (El pos l hs G I O h1 fun us μ1 h₁ t₁ I₁ S₁ rs kp=>
  ⟨IS hz h1 rs,My (s:=AS s h₁ t₁) T I₁ rs fun μ' a1 a2 a3=>R _ _ _ t₁ (e2▸a1) (S₁.trans a2) (e1▸a3) fun h=>by
   have h:AL (cond (Nat.ble l.length 1000) (.list (AD sc l)) .bad)=true:=h
   rw [hz] at h;exact absurd h bQ⟩)
end
end
section
section
variable {base h:Heap} {μ:A5}
theorem PRS.put {r:List (Str×Value)} {l:List (Nat×AV)} (p:PRS base h μ r l) (hn:(r.map (·.1)).Nodup) {s:Str} {n:Nat} (hs:code s=some n) {v:Value} {x:AV} (e:VR base h μ v x):PRS base h μ (stored r s v) (put n x l):=by
 induction p with
 | nil=>exact PRS.cons s n v x [] [] hs e .nil
 | cons s' n' u y r l c e1 p1 ih=>
  have hn:=List.nodup_cons.mp hn
  by_cases hk:s=s'
  ·subst hk
   obtain rfl:=oQ (hs.symm.trans c)
   rw [Ge hn.1,show Mine.put n x ((n,y)::l)=_ from if_pos rfl]
   exact .cons _ _ _ _ _ _ c e p1
  ·rw [Gd (Ne.symm hk),show Mine.put n x ((n',y)::l)=_ from if_neg fun x:n=n'=>hk (Bo hs (x▸c))]
   exact .cons _ _ _ _ _ _ c e1 (ih hn.2)
theorem GE {K':Type} [DecidableEq K'] {k:K'} {v:Value}:∀ {r:List (K'×Value)},(r.map (·.1)).Nodup→(k∈r.map (·.1)→(stored r k v).map (·.1)=r.map (·.1))∧(k∉r.map (·.1)→(stored r k v).map (·.1)=r.map (·.1)++[k]):=by
 intro r
 induction r with
 | nil=>exact fun _=>⟨fun h=>absurd h List.not_mem_nil,fun _=>rfl⟩
 | cons a r ih=>
  obtain ⟨n,u⟩:=a
  intro hn
  have hn:=List.nodup_cons.mp hn
  by_cases hk:n=k
  ·subst hk
   rw [Ge hn.1]
   exact ⟨fun _=>rfl,fun h=>absurd (.head _) h⟩
  ·rw [Gd hk]
   exact ⟨fun h=>congrArg (List.cons n) ((ih hn.2).1 ((List.mem_cons.mp h).elim (fun e=>absurd e.symm hk) id)),fun h=>congrArg (List.cons n) ((ih hn.2).2 fun h'=>h (.tail _ h'))⟩
theorem FD {K':Type} [DecidableEq K'] {r:List (K'×Value)} (hn:(r.map (·.1)).Nodup) (k:K') (v:Value):((stored r k v).map (·.1)).Nodup:=by
 by_cases hk:k∈r.map (·.1)
 ·rw [(GE hn).1 hk];exact hn
 ·rw [(GE hn).2 hk]
  exact List.nodup_append.mpr ⟨hn,List.nodup_cons.mpr ⟨List.not_mem_nil,List.nodup_nil⟩,fun a ha b hb e=>hk (List.mem_singleton.mp hb▸e▸ha)⟩
noncomputable def KK:List (Value×Value)→List Value
 | []=>[]
 | (a,b)::r=>a::b::KK r
theorem P9 {a b:Value} {vs:List Value} {xs:List AV} {P:Prop} (hv:VRs base h μ (a::b::vs) xs) (k:∀ x y l,xs=x::y::l→VR base h μ a x→VR base h μ b y→VRs base h μ vs l→P):P:=
 hv.v.elim fun x h=>h.elim fun l h=>h.2.2.v.elim fun y h2=>h2.elim fun l' h2=>k x y l' (h.1.trans (congrArg (List.cons x) h2.1)) h.2.1 h2.2.1 h2.2.2
theorem Pc {x y:AV} {l:List AV} {acc m:List (Int×AV)} {P:Prop} (e:Fl (x::y::l) acc=some m) (k:∀ i,x=.int i→Fl l (Br i y acc)=some m→P):P:=by
 induction x using AV.casesOn with
 | int i=>exact k i rfl e
 | _=>exact Ae e
theorem Pb {x y:AV} {l:List AV} {acc m:List (Nat×AV)} {P:Prop} (e:Gl (x::y::l) acc=some m) (k:∀ i,x=.str i→Gl l (put i y acc)=some m→P):P:=by
 induction x using AV.casesOn with
 | str i=>exact k i rfl e
 | _=>exact Ae e
theorem QE {p:Program} {w:World} (vs:List (Value×Value)):∀ {xs:List AV} {acc m:List (Int×AV)} {r:List (Int×Value)},VRs base h μ (KK vs) xs→Fl xs acc=some m→PRI base h μ r acc→(r.map (·.1)).Nodup →
  ∃ kvs,Carries (intKind p w) vs kvs∧PRI base h μ (merged r kvs) m:=by
 induction vs with
 | nil=>intro xs acc m r hv e pr hn;obtain rfl:=hv.v;exact ⟨[],trivial,oQ e▸pr⟩
 | cons a vs ih=>
  obtain ⟨a,b⟩:=a
  intro xs acc m r hv e pr hn
  refine P9 hv fun x y l e1 ra rb hw=>?_
  subst e1
  refine Pc e fun i e1 e=>?_
  subst e1
  obtain ⟨t,rfl⟩:=ra.x
  obtain ⟨kvs,h1,h2⟩:=ih hw e (pr.put hn i rb) (FD hn i b)
  exact ⟨(i,b)::kvs,⟨by simp [intKind,Value.isInt],rfl,h1⟩,h2⟩
theorem QD {p:Program} {w:World} (vs:List (Value×Value)):∀ {xs:List AV} {acc m:List (Nat×AV)} {r:List (Str×Value)},VRs base h μ (KK vs) xs→Gl xs acc=some m→PRS base h μ r acc→(r.map (·.1)).Nodup →
  ∃ kvs,Carries (strKind p w) vs kvs∧PRS base h μ (merged r kvs) m:=by
 induction vs with
 | nil=>intro xs acc m r hv e pr hn;obtain rfl:=hv.v;exact ⟨[],trivial,oQ e▸pr⟩
 | cons a vs ih=>
  obtain ⟨a,b⟩:=a
  intro xs acc m r hv e pr hn
  refine P9 hv fun x y l e1 ra rb hw=>?_
  subst e1
  refine Pb e fun i e1 e=>?_
  subst e1
  obtain ⟨s,t,rfl,hs⟩:=ra.x
  obtain ⟨kvs,h1,h2⟩:=ih hw e (pr.put hn hs rb) (FD hn s b)
  exact ⟨(s,b)::kvs,⟨strKind_is p w s t,rfl,h1⟩,h2⟩
end
section
variable {X:Cx} {k:Nat} {sc:Scope} {env:Env} {ρ:At} {μ μ1:A5} {s:Shared} {σ σ' σ₁:St} {A:Around} {pu pu2:Prop} {x:AV} {h₁:Heap} {t₁:Nat}
theorem Km {e:PE} {v:Expr} {l:List PE} {us:List AV} {P:Prop} (h:Iw X k (e::Aq sc v::l) ρ σ=some (us,σ')) (q:∀ x σ₁ y σ₂ r,C6 X k e ρ σ=some (x,σ₁)→C6 X k (Aq sc v) ρ σ₁=some (y,σ₂)→Iw X k l ρ σ₂=some (r,σ')→us=x::y::r→P):P:=
 I3 h fun x σ₁ xs h1 h e1=>I3 h fun y σ₂ r h2 h3 e2=>q x σ₁ y σ₂ r h1 h2 h3 (e2▸e1)
theorem LV (ks:List (Option Expr)):∀ {vs:List Expr} {us:List AV} {σ σ':St},ks.length=vs.length→Iw X k (IT (Gy sc ks) (AD sc vs)) ρ σ=some (us,σ')→ks.all (·.isSome)=true:=by
 induction ks with
 | nil=>exact fun _ _=>rfl
 | cons q ks ih=>
  intro vs us σ σ' hl e
  induction vs using List.casesOn with
  | nil=>exact absurd hl nofun
  | cons v vs=>
   refine Km e fun x σ₁ y σ₂ r h1 h2 h3 _=>?_
   ·induction q using Option.casesOn with
    | none=>exact CN h1
    | some q=>exact ih (Nat.succ.inj hl) h3
theorem L9 (pos:Pos) (ks:List (Option Expr)):∀ {vs:List Expr},ks.length=vs.length→(∀ e,some e∈ks→SoundE X k e)→(∀ e∈vs,SoundE X k e)→∀ {sc:Scope} {env:Env} {ρ:At} {μ:A5} {s:Shared} {σ:St} {A:Around},EnvOk X.base s.heap μ sc env ρ→AK X μ s.heap σ→Ok A k →
  ∀ {us σ'} {E:Value→Shared→Prop} {Q:List (Value×Value)→Shared→Prop},Iw X k (IT (Gy sc ks) (AD sc vs)) ρ σ=some (us,σ')→ResG X False μ s (fun h m ps=>VRs X.base h m (KK ps) us) σ' Q →
  wpAny (model X.p X.w) A (evalPairs (pairTrees ks vs env pos)) Q E s:=by
 induction ks with
 | nil=>
  intro vs hl _ _ _ _ _ _ s _ _ _ I _ us σ' E Q e R
  induction vs using List.casesOn with
  | nil=>exact Bf e fun e1 e2=>evalPairs_nil (R _ _ _ s.toks (e2▸I) (Stp.refl _ _) (e1▸.nil) nofun)
  | cons v vs=>exact absurd hl nofun
 | cons q ks ih=>
  intro vs hl hks hvs _ env _ _ s _ _ G I O us σ' E Q e R
  induction vs using List.casesOn with
  | nil=>exact absurd hl nofun
  | cons v vs=>
   refine Km e fun x σ₁ y σ₂ r h1 h2 h3 e3=>?_
   ·induction q using Option.casesOn with
    | none=>exact CN h1
    | some q=>
     exact evalPairs_cons (k:=eval q env) (v:=do let x ←eval v env;standAt pos;pure x) (rest:=pairTrees ks vs env pos) ((hks q (.head _)).ev G I O h1 fun a' μ1 h₁ t₁ I₁ S₁ ra _=>
      wpAny_bind ((hvs v (.head _)).ev (s:=AS s h₁ t₁) (G.step I S₁) I₁ O h2 fun b' μ2 h₂ t₂ I₂ S₂ rb _=>wpAny_bind (wpAny_standAt (wpAny_pure
       (ih (Nat.succ.inj hl) (fun e he=>hks e (.tail _ he)) (fun e he=>hvs e (.tail _ he)) (s:=AS s h₂ t₂) ((G.step I S₁).step I₁ S₂) I₂ O h3 fun ps μ3 h₃ t₃ I₃ S₃ rs _=>
        R ((a',b')::ps) μ3 h₃ t₃ I₃ ((S₁.trans S₂).trans S₃) (e3▸.cons _ _ _ _ ((ra.step I₁ S₂).step I₂ S₃) (.cons _ _ _ _ (rb.step I₂ S₃) rs)) nofun)))))
theorem Sf (T:Top X) (I:AK X μ s.heap σ) {o:Obj} (ho:(s.heap.push o).get? s.heap.objs.size=some o) (nv:¬ Vl o) {μ1:A5} {h₁ h':Heap} {ao:AO} (I₁:AK X μ1 h₁ σ₁) (S₁:Stp μ (s.heap.push o) μ1 h₁) (SB:Heap.SameBut s.heap.objs.size h₁ h')
  (r:Kp h₁ h'→OR X.p X.w X.C X.base h' (μ1++[(s.heap.objs.size,s.heap.objs.size)]) (s.heap.objs.size,s.heap.objs.size) ao) {t:Nat} {Q:Value→Shared→Prop} (np:¬ pu) (R:ResX X pu μ s (.loc σ₁.length) (σ₁++[ao]) Q):Q (.ref s.heap.objs.size) (AS s h' t):=by
 have kk:=Aw s.heap o
 have off:Off μ1 s.heap.objs.size:=Off.step S₁ (I.fresh (Nat.le_refl _)) ho
 have hl:=S₁.kept _ _ ho (I.fresh (Nat.le_refl _))
 have k2:∀ b o,b≠s.heap.objs.size→h₁.get? b=some o→h'.get? b=some o:=SB.extBut
 have I₂:AK X μ1 h' σ₁:=I₁.offW off (A8 (T.base_le I)) k2 fun o' e=>oQ (hl.symm.trans e)▸nv
 exact R _ _ h' t (I₂.adopt off (T.base_le I) (r (Co hl nv k2))) ((((Stp.grow kk trivial).trans S₁).after k2 (A8 (Nat.le_refl _))).adopt (A8 (Nat.le_refl _))) (.loc _ _ (Hu I₂)) fun h=>(np h).elim
theorem SG {l:List AV} {o:AO} {P:Prop} (h:KY l=some o) (k1:∀ m,Gl l []=some m→o=.dS m→P) (k2:∀ m,Fl l []=some m→o=.dI m→P):P:=by
 have d2:(Fl l []).map AO.dI=some o→P:=fun h=>BL h fun m h e=>k2 m h e.symm
 induction l using List.casesOn with
 | nil=>exact d2 h
 | cons x l=>induction x using AV.casesOn with
  | str n=>exact BL h fun m h e=>k1 m h e.symm
  | _=>exact d2 h
theorem G_ {b:Bool} {x y:PE} (hx:AL x=false) (hy:AL y=false):AL (cond b x y)=false:=by
 induction b using Bool.casesOn
 ·exact hy
 ·exact hx
theorem Nc (T:Top X) {ks:List (Option Expr)} {vs:List Expr} {pos:Pos} {us:List AV} {E Q:Value→Shared→Prop} {ao:AO} {K:Type} [DecidableEq K] (knd:KeyKind X.p X.w K) (hks:∀ e,some e∈ks→SoundE X k e) (hvs:∀ e∈vs,SoundE X k e)
  (hc:(ks.length==vs.length&&(Nat.ble ks.length 15&&Nat.ble 1 ks.length))=true) (G:EnvOk X.base s.heap μ sc env ρ) (I:AK X μ s.heap σ) (O:Ok A k) (h1:Iw X k (IT (Gy sc ks) (AD sc vs)) ρ σ=some (us,σ₁))
  (hk:∀ {ps h μ},VRs X.base h μ (KK ps) us→∃ kvs,Carries knd ps kvs∧∀ {h' ν D},h'.DictOf knd D (merged [] kvs)→Kp h h'→OR X.p X.w X.C X.base h' (μ++ν) (D,D) ao)
  (np:¬ pu) (R:ResX X pu μ s (.loc σ₁.length) (σ₁++[ao]) Q):wpAny (model X.p X.w) A (eval (.Dict ks vs pos) env) Q E s:=by
 have kk:=Aw s.heap { cls:=.type "dict",data:=.dict #[] }
 have hl:ks.length=vs.length:=eq_of_beq (Ay hc)
 refine wpAny_Dict_walk (knd:=knd) (LV ks hl h1) hl (fun h=>absurd (AA (AA hc)) (by rw [h];exact bQ)) (Nat.le_of_ble_eq_true (Ay (AA hc)))
  (L9 pos ks hl hks hvs (s:={ s with heap:=s.heap.push { cls:=.type "dict",data:=.dict #[] } }) (G.step I (Stp.grow kk trivial)) (I.grow kk) O h1 fun ps μ1 h₁ t₁ I₁ S₁ rs _=>?_)
 obtain ⟨kvs,hc,hp⟩:=hk rs
 exact ⟨kvs,hc,(Heap.DictOf.new s.heap).at fun o e=>S₁.kept _ o e (I.fresh (Nat.le_refl _)),fun h' hd SB=>Sf (s:=s) T I (Heap.get?_push_size _ rfl) (Bz rfl) I₁ S₁ SB (hp hd) np R⟩
theorem LM (T:Top X) (ks:List (Option Expr)) (vs:List Expr) (pos:Pos) (hks:∀ e,some e∈ks→SoundE X k e) (hvs:∀ e∈vs,SoundE X k e):SoundE X k (.Dict ks vs pos):=
 .of_eval (fun _=>rfl) fun sc env ρ μ s σ A G I O v σ' E Q e R=>by
  have np:¬ AL (Aq sc (.Dict ks vs pos))=true:=fun h=>bQ ((G_ (x:=.dict (IT (Gy sc ks) (AD sc vs))) rfl (G_ rfl rfl)).symm.trans h)
  refine Ha e (fun hc e=>Ql e fun us σ₁ o h1 h2 e1 e2=>?_) fun _ e=>Cs e fun hc e=>Ql e fun us σ₁ o h1 h2 e1 e2=>?_
  ·rw [e1,e2] at R
   refine SG h2 (fun m hm eo=>?_) fun m hm eo=>?_
   ·exact Nc T (strKind X.p X.w) hks hvs hc G I O h1 (fun {ps h μ} rs=>(QD ps rs hm .nil List.nodup_nil).imp fun kvs h=>⟨h.1,fun hd kp=>eo▸.dS _ _ _ hd (h.2.mono kp)⟩) np R
   ·exact Nc T (intKind X.p X.w) hks hvs hc G I O h1 (fun {ps h μ} rs=>(QE ps rs hm .nil List.nodup_nil).imp fun kvs h=>⟨h.1,fun hd kp=>eo▸.dI _ _ _ hd (h.2.mono kp)⟩) np R
  ·refine Bf h1 fun e3 e4=>?_
   rw [e1,e2,←e4,←oQ ((congrArg KY e3).trans h2)] at R
   obtain rfl:ks=[]:=List.length_eq_zero_iff.mp (Nat.eq_of_beq_eq_true (Ay hc))
   obtain rfl:vs=[]:=List.length_eq_zero_iff.mp (Nat.eq_of_beq_eq_true (AA hc))
   have kk:=Aw s.heap { cls:=.type "dict",data:=.dict #[] }
   exact wpAny_Dict_empty (R _ _ _ s.toks (I.alloc kk (Nat.le_refl _) (Nat.le_refl _) (T.base_le I) (.dI _ [] [] (Heap.DictOf.new s.heap) .nil)) (Stp.alloc kk trivial (Nat.le_refl _) (Nat.le_refl _)) (.loc _ _ (Hu I)) fun h=>(np h).elim)
end
end
section
section
variable {X:Cx} {k:Nat} {sc:Scope} {env:Env} {ρ:At} {μ μ1:A5} {s:Shared} {σ σ' σ₁:St} {A:Around} {pu pu2:Prop} {x:AV} {h₁:Heap} {t₁:Nat} {E:Value→Shared→Prop}
theorem EJ {M:Model} {Q:Value→Shared→Prop} {o:Expr} {name:Str} {t:Sem Value} (ho:B8 o=true) (h:wpAny M A t Q E s):wpAny M A (attributeBase o name env t) Q E s:=by
 induction o using Expr.casesOn with
 | Call f args kws pos=>induction args using List.casesOn with
  | nil=>exact absurd ho bQ
  | cons a args=>induction f using Expr.casesOn<;>exact h
 | _=>exact h
theorem UW {v:Expr} {P:Prop} (h:Gs sc v=true) (k:∀ id pos,v=.Name id pos→CH (sc.names.lookup id)=true→code id=some 13→P):P:=by
 unfold Gs at h
 generalize hn:H_ v=o at h
 induction o using Option.casesOn with
 | none=>exact absurd h bQ
 | some id=>exact Ln hn fun pos e=>k id pos e (Ay h) (eq_of_beq (AA h))
theorem Tj {o:Option Expr} {z:AV} {Q:Value→Shared→Prop} (ho:∀ e,o=some e→SoundE X k e) (G:EnvOk X.base s.heap μ sc env ρ) (I:AK X μ s.heap σ) (O:Ok A k) (e:C6 X k (Nh sc o) ρ σ=some (z,σ')) (R:ResX X False μ s z σ' Q):wpAny (model X.p X.w) A (evalPart o env) Q E s:=by
 induction o using Option.casesOn with
 | none=>exact Bf e fun e1 e2=>wpAny_evalPart_none (ResX.here (s:=s) R I (e1▸.none) e2 s.toks)
 | some a=>exact wpAny_evalPart_some ((ho a rfl).ev G I O e (R.weak nofun))
theorem S0 {y r:AV} {P:Prop} (h:QT y=some r) (k:∀ n,y=.str n→n=kU8→r=.int 8→P):P:=by
 induction y using AV.casesOn with
 | str n=>exact Iv h fun hn h=>k n rfl hn (oQ h).symm
 | _=>exact Ae h
theorem bits_ (T:Top X) {v i:Expr} {pos:Pos} {r:AV} {Q:Value→Shared→Prop} (hi:SoundE X k i) (hs:CJ i=true) (hb:Gs sc v=true) (G:EnvOk X.base s.heap μ sc env ρ) (I:AK X μ s.heap σ) (O:Ok A k) (e:C6 X k (.bits (Aq sc i)) ρ σ=some (r,σ')) (R:ResX X False μ s r σ' Q) :
  wpAny (model X.p X.w) A (eval (.Subscript v i pos) env) Q E s:=
 UW hb fun id p2 ev hg hn=>SZ e fun y h1 h2=>S0 h2 fun n e1 e2 e3=>by
  subst ev e1 e2 e3
  obtain ⟨a,f,t,hm,⟨o,es,ep,ho,hex,hdt,hko,hff⟩,hf⟩:=T.bits id hn
  refine Subscript_ (L3 G I T.g hn hg hm (hi.ev G I O h1 fun j μ1 h₁ t₁ I₁ S₁ rj kp=>?_))
  obtain ⟨z,zt,rfl,hz⟩:=rj.x
  obtain rfl:=Nk hz
  have hmap:Heap.MapOf (strKind X.p X.w) h₁ a f:=⟨o,es,ep,I₁.keep _ _ ho,hex,hdt,hko,hff⟩
  exact tail_any (s:=AS s h₁ t₁) hmap.typeIs slot_dict_getitem.lookup (wpAny_getItem_of (strKind_is X.p X.w _ _) hmap hf (R _ μ1 h₁ _ I₁ S₁ (.int _ _) nofun)) (A2 hs _ _)
theorem GY (T:Top X) (v i:Expr) (pos:Pos) (hv:SoundE X k v) (hi:SoundE X k i) (hsl:∀ lo hi st p,i=.Slice lo hi st p→(∀ e,lo=some e→SoundE X k e)∧(∀ e,hi=some e→SoundE X k e)):SoundE X k (.Subscript v i pos):=
 .of_eval (fun _=>rfl) fun sc env ρ μ s σ A G I O r σ' E Q e R=>by
  by_cases hs:CJ i=true
  ·have hc:Aq sc (.Subscript v i pos)=cond (Gs sc v) (.bits (Aq sc i)) (.idx (Aq sc v) (Aq sc i)):=by
    show OO sc (Aq sc v) (Aq sc i) v i=_
    unfold OO;rw [hs];rfl
   rw [hc] at e R
   generalize hb:Gs sc v=b at e R
   induction b using Bool.casesOn with
   | true=>exact bits_ T hi hs hb G I O e (R.weak nofun)
   | false=>exact idx_i e fun x σ₁ y h1 h2 h3=>Subscript_ (hv.ev G I O h1 fun a μ1 h₁ t₁ I₁ S₁ ra k1=>hi.ev (s:=AS s h₁ t₁) (G.step I S₁) I₁ O h2 fun b μ2 h₂ t₂ I₂ S₂ rb k2=>
     idx_ (s:=AS s h₂ t₂) hs I₂ (ra.step I₁ S₂) rb h3 fun t w rw=>R w μ2 h₂ t I₂ (S₁.trans S₂) rw (JE k1 k2))
  ·have hv':=EL i
   unfold CJ at hs
   generalize hw:Ef i=w at hs hv'
   induction w using Vw.casesOn with
   | sli lo up st p=>
    obtain rfl:i=.Slice lo up st p:=hv'
    obtain ⟨hlo,hhi⟩:=hsl lo up st p rfl
    induction st using Option.casesOn with
    | some _=>exact CN e
    | none=>exact OW e fun x σ₁ y σ₂ z σ₃ h1 h2 h3 h4=>Subscript_ (hv.ev G I O h1 fun a μ1 h₁ t₁ I₁ S₁ ra k1=>
      have G₁:=G.step I S₁
      wpAny_Slice (Tj (s:=AS s h₁ t₁) hlo G₁ I₁ O h2 fun b μ2 h₂ t₂ I₂ S₂ rb k2=>Tj (s:=AS s h₂ t₂) hhi (G₁.step I₁ S₂) I₂ O h3 fun c μ3 h₃ t₃ I₃ S₃ rc k3=>wpAny_evalPart_none
       (slc_ (s:=AS s h₃ t₃) I₃ (T.base_le (s:=AS s h₃ t₃) I₃) ((ra.step I₁ S₂).step I₂ S₃) (rb.step I₂ S₃) rc h4 (R.on ((S₁.trans S₂).trans S₃) fun h=>absurd h bQ))))
   | _=>exact absurd rfl hs
theorem EnvOk.fr (T:Top X) (G:EnvOk X.base s.heap μ sc env ρ) (I:AK X μ s.heap σ):∃ m,Fr X.base env.locals s.heap m:=
 G.ns.imp fun m h=>⟨h.1,I.keep,(G.off _ (.inl rfl)).2⟩
theorem Ro {a b:PE} {r:AV×St} {P:Prop} (h:C6 X k (.slc a b .bad) ρ σ=some r):P:=OW (v:=r.1) (σ':=r.2) h fun _ _ _ _ _ _ _ _ h _=>CN h
theorem QY {co:PE} {n:Nat} {r:AV×St} {P:Prop} (h:C6 X k (DZ co n) ρ σ=some r) (q:Fx n=true→C6 X k (.attr co n) ρ σ=some r→P):P:=Ha h q fun _ h=>Ro h
theorem Gx {o:Expr} {name:Str} {pos:Pos} {n:Nat} (hs:B8 o=true) (hn:code name=some n):Aq sc (.Attribute o name pos)=DZ (Aq sc o) n:=by
 show cond (B8 o) (GG (DZ (Aq sc o)) (code name)) .bad=_
 rw [hs,hn];rfl
theorem Jh {co:PE} {n:Nat}:JW (DZ co n)=co:=by
 unfold DZ;generalize Fx n=b;induction b using Bool.casesOn<;>rfl
theorem GZ (T:Top X) (o:Expr) (name:Str) (pos:Pos) (ho:SoundE X k o):SoundE X k (.Attribute o name pos):=
 .of_eval (fun _=>rfl) fun sc env ρ μ s σ A G I O r σ' E Q e R=>Cs e fun hs e=>FE e fun n hn e=>QY e fun ha e=>UY e fun y h1 h2=>by
  rw [Gx hs hn,show DZ (Aq sc o) n=.attr (Aq sc o) n by unfold DZ;rw [ha];rfl] at R
  rw [arm_eval_Attribute]
  refine wpAny_bind (EJ hs (ho.ev G I O h1 fun a μ1 h₁ t₁ I₁ S₁ ra kp=>?_))
  obtain ⟨m,F⟩:=EnvOk.fr (s:=AS s h₁ t₁) T (G.step I S₁) I₁
  exact wpAny_bind (wpAny_standAt (wpAny_bind (wpAny_holding (attr_ (s:=AS s h₁ t₁) F T.kin I₁ hn (fun c ca hc=>T.attr name n c ca ha hn hc) ra h2 fun t w rw=>wpAny_bind (wpAny_letTemporaryGo (wpAny_pure (R w μ1 h₁ t I₁ S₁ rw kp)))))))
theorem Hz {l:List Expr} {r:List AV×St} (h:Iw X k (AD sc l) ρ σ=some r) (env:Env) (pos:Pos):(backTo pos (starEach l env)).any (·.1)=false:=by
 induction l generalizing σ r with
 | nil=>rfl
 | cons a l ih=>exact I3 (vs:=r.1) (σ':=r.2) h fun x σ₁ xs h1 h2 _=>by rw [Gf (ET h1)];exact ih h2
theorem GA {M:Model} {Q:Value→Shared→Prop} {K:Frag} {f:Value} {first:List Value} {l:List Expr} {pos:Pos} {r:List AV×St} (he:Iw X k (AD sc l) ρ σ=some r)
  (hf:(∃ id,f=.builtin id)∨(∃ T,f=.type T∧first=[])∨keepIn K f=true)
  (h:wpAny M A (spliced (backTo pos (starEach l env))) (fun vs s₁=>K.In s₁.heap∧wpAny M A (call f (first++vs)) Q E s₁) E s) :
  wpAny M A (callWith pos f first (backTo pos (starEach l env)) []) Q E s:=by
 have hp:=Hz he env pos
 have args:∀ {Q':Args→Shared→Prop},wpAny M A (spliced (backTo pos (starEach l env))) (fun vs s'=>Q' { pos:=vs } s') E s→wpAny M A (evalArgs f true (backTo pos (starEach l env)) []) Q' E s:=by
  intro Q' h
  induction l using List.casesOn with
  | nil=>exact fun Γ p hΓ=>evalArgs_nil3 (show Q' {} s from h Γ p hΓ) Γ p hΓ
  | cons a l=>
   refine I3 (vs:=r.1) (σ':=r.2) he fun x σ₁ xs h1 h2 _=>?_
   rw [Gf (ET h1)] at h ⊢
   exact evalArgs_plain h
 rcases hf with ⟨id,rfl⟩ | ⟨T,rfl,rfl⟩ | hk
 ·exact callWith_builtin hp (args (wpAny_mono h (fun _ _ z=>z.2) fun _ _ z=>z))
 ·exact PyProof.Rows.callWith_type hp (args (wpAny_mono h (fun _ _ z=>z.2) fun _ _ z=>z))
 ·exact callWith_of (by rw [hp];rfl) (keeps_K hk) (args h)
theorem N2 (T:Top X) (I:AK X μ s.heap σ):X.K.In s.heap:=fun a o e=>I.keep _ _ (T.kin a o e)
theorem RB (T:Top X) {n:Nat} {id:Str} {vs:List AV} {v:AV} (hn:code id=some n) (h:AT X.P k (0,n) vs σ₁=some (v,σ')):∃ fv,X.mg id=some fv∧keepIn X.K fv=true:=
 MK h (fun _ d _ _ hc hd _ _=>(T.clsv id n d hn hc hd).elim fun _ h=>⟨_,h⟩) fun _ d _ hc hd _=>(T.fnv id n d hn hc hd).elim fun _ h=>⟨_,h⟩
theorem UX {n:Nat} {l:List PE} {r:AV×St} {P:Prop} (h:C6 X k (QW n l) ρ σ=some r) (q1:∀ b,Lk n=some b→C6 X k (.blt b l) ρ σ=some r→P) (q2:C6 X k (.call n l) ρ σ=some r→P):P:=by
 unfold QW at h
 generalize hb:Lk n=o at h
 induction o using Option.casesOn with
 | none=>exact q2 h
 | some b=>exact q1 b hb h
theorem RE {f:Nat→PE} {c:Option Nat} (h:∀ n,c=some n→AL (f n)=false):AL (GG f c)=false:=by
 induction c using Option.casesOn with
 | none=>rfl
 | some n=>exact h n rfl
theorem np_bi {n:Nat} {l:List PE}:AL (QW n l)=false:=by
 unfold QW
 generalize Lk n=o
 induction o using Option.casesOn<;>rfl
theorem Hs (T:Top X) (CO:BG X k) (id:Str) (np:Pos) (args:List Expr) (pos:Pos) (ha:∀ e∈args,SoundE X k e):SoundE X k (.Call (.Name id np) args [] pos):=
 .of_eval (fun _=>rfl) fun sc env ρ μ s σ A G I O r σ' E Q e R=>by
  have R:ResX X False μ s r σ' Q:=R.weak fun h=>bQ ((G_ (b:=true&&Nat.ble args.length 20) (x:=JR sc pos (AD sc args) (Aq sc (.Name id np)) (.Name id np)) (G_ (RE fun n _=>np_bi) rfl) rfl).symm.trans h)
  exact Cs e fun _ e=>Cs (b:=CH (sc.names.lookup id)) e fun hg e=>FE e fun n hn e=>UX e
   (fun b hb e=>blt_i e fun vs σ₁ h1 h2=>by
    obtain ⟨m1,m2⟩:=T.bival id n b hn hb
    refine wpAny_Call_ofName (Uj G I T.g T.b hn hg m1 m2 (GA (K:=X.K) h1 (by induction b using BI.casesOn<;>first | exact .inl ⟨_,rfl⟩ | exact .inr (.inl ⟨_,rfl,rfl⟩)) ?_))
    exact El pos args ha G I O h1 fun us μ1 h₁ t₁ I₁ S₁ rs kp=>⟨N2 (s:=AS s h₁ t₁) T I₁,SW (s:=AS s h₁ t₁) I₁ (T.base_le (s:=AS s h₁ t₁) I₁) T.big O.1 rs h2 (R.on S₁ not_false)⟩)
   fun e=>UM e fun vs σ₁ h1 h2=>(RB T hn h2).elim fun fv hf=>wpAny_Call_ofName (L3 G I T.g hn hg hf.1 (GA (K:=X.K) h1 (.inr (.inr hf.2))
    (El pos args ha G I O h1 fun us μ1 h₁ t₁ I₁ S₁ rs kp=>⟨N2 (s:=AS s h₁ t₁) T I₁,CO (0,n) vs σ₁ r σ' h2 fv (.glob id n fv hn hf.1) A μ1 (AS s h₁ t₁) us Q E I₁ rs O (R.on S₁ not_false)⟩)))
theorem Ku {M:Model} {Q:Value→Shared→Prop} {o:Expr} {name:Str} {apos pos:Pos} {args:List Expr} (ho:B8 o=true) (hp:(backTo pos (starEach args env)).any (·.1)=false) (hn:args.length≤20) (hl:(apos.endLine==pos.line)=true)
  (h:wpAny M A (eval o env) (fun ov s₁=>∀ pl,wpAny M A (getMethod ov name pl) (fun fx s₂=>wpAny M A (callWith pos fx.1 fx.2 (backTo pos (starEach args env)) []) Q E s₂) E s₁) E s) :
  wpAny M A (eval (.Call (.Attribute o name apos) args [] pos) env) Q E s:=by
 rw [arm_eval_Call]
 refine wpAny_bind (EJ ho (wpAny_mono h (fun ov s₁ h₁=>wpAny_bind (wpAny_standAt ?_)) fun _ _ z=>z))
 have hform:methodCallForm (args.length+([]:List Keyword).length) (backTo pos (starEach args env)) (backToKw pos (keywordEach [] env))=true:=by
  have h1:(backTo pos (starEach args env)).all (fun x=>!x.1)=true:=List.all_eq_true.mpr fun x hx=>by rw [Bool.eq_false_iff.mpr (List.any_eq_false.mp hp x hx)];rfl
  unfold methodCallForm
  rw [h1]
  simp [backToKw,arm_keywordEach_nil]
  exact om124 hn
 have hpos:methodCallPos true o env apos pos=pure pos:=by unfold methodCallPos;simp [hl]
 unfold methodCall
 rw [hform,hpos]
 refine wpAny_bind (wpAny_holding ?_)
 show wpAny M A (getMethod ov name _) _ _ _
 exact wpAny_mono (h₁ _) (fun fx s₂ h₂=>wpAny_bind (wpAny_pure h₂)) fun _ _ z=>z
theorem NV (T:Top X) {o:Expr} {name:Str} {apos pos:Pos} {args:List Expr} {y:AV} {vs:List AV} {σ₂:St} {Q:Value→Shared→Prop} (ho:SoundE X k o) (ha:∀ e∈args,SoundE X k e) (hs:(B8 o&&Nat.beq apos.endLine pos.line)=true) (hl:Nat.ble args.length 20=true)
  (G:EnvOk X.base s.heap μ sc env ρ) (I:AK X μ s.heap σ) (O:Ok A k) (h1:C6 X k (Aq sc o) ρ σ=some (y,σ₁)) (h2:Iw X k (AD sc args) ρ σ₁=some (vs,σ₂))
  (q:∀ a μ1 h₁ t₁,AK X μ1 h₁ σ₁→Stp μ s.heap μ1 h₁→VR X.base h₁ μ1 a y→(AL (Aq sc o)=true→CB s.heap h₁)→EnvOk X.base h₁ μ1 sc env ρ→∃ f,((∃ id,f=.builtin id)∨keepIn X.K f=true)∧(∀ {pl:Sem Bool} {Q':Value×List Value→Shared→Prop},Q' (f,[a]) (AS s h₁ t₁)→wpAny (model X.p X.w) A (getMethod a name pl) Q' E (AS s h₁ t₁)) ∧
   ∀ us μ2 h₂ t₂,AK X μ2 h₂ σ₂→Stp μ s.heap μ2 h₂→VR X.base h₂ μ2 a y→VRs X.base h₂ μ2 us vs→((AL (Aq sc o)&&Bk (AD sc args))=true→CB s.heap h₂)→wpAny (model X.p X.w) A (call f (a::us)) Q E (AS s h₂ t₂)) :
  wpAny (model X.p X.w) A (eval (.Call (.Attribute o name apos) args [] pos) env) Q E s:=
 Ku (Ay hs) (Hz h2 env pos) (Nat.le_of_ble_eq_true hl) (Nat.eq_of_beq_eq_true (AA hs)▸beq_self_eq_true _) (ho.ev G I O h1 fun a μ1 h₁ t₁ I₁ S₁ ra k1 pl=>
  have G₁:=G.step I S₁
  (q a μ1 h₁ t₁ I₁ S₁ ra k1 G₁).elim fun f hf=>hf.2.1 (GA (K:=X.K) h2 (hf.1.elim .inl fun h=>.inr (.inr h)) (El pos args ha (s:=AS s h₁ t₁) G₁ I₁ O h2 fun us μ2 h₂ t₂ I₂ S₂ rs k2=>
   ⟨N2 (s:=AS s h₂ t₂) T I₂,hf.2.2 us μ2 h₂ t₂ I₂ (S₁.trans S₂) (ra.step I₁ S₂) rs (JE k1 k2)⟩)))
theorem RQ (T:Top X) {c:Nat} {vs:List AV} {r:AV×St} (h:AT X.P k (c,HL) vs σ=some r):False:=
 MK (v:=r.1) (σ':=r.2) h (fun _ _ _ _ hc _ _ _=>bQ (T.nogetC.symm.trans hc)) fun _ _ _ _ hd _=>Ae ((T.noget c).symm.trans hd)
theorem EN {a:PE} {m:Nat} {l:List PE} {P:Prop} (h:AL (.meth a m l)=true) (k:m=HL→(AL a&&Bk l)=true→P):P:=
 k (Nat.eq_of_beq_eq_true (Ay (Ay h))) (by rw [AA (Ay h),AA h];rfl)
theorem Ht (T:Top X) (CO:BG X k) (o:Expr) (name:Str) (apos:Pos) (args:List Expr) (pos:Pos) (ho:SoundE X k o) (ha:∀ e∈args,SoundE X k e):SoundE X k (.Call (.Attribute o name apos) args [] pos):=
 .of_eval (fun _=>rfl) fun sc env ρ μ s σ A G I O r σ' E Q e R=>Cs e fun hl e=>Cs (b:=B8 o&&Nat.beq apos.endLine pos.line) e fun hs e=>FE e fun m hm e=>by
  have hc:Aq sc (.Call (.Attribute o name apos) args [] pos)=.meth (Aq sc o) m (AD sc args):=by
   show cond (true&&Nat.ble args.length 20) (cond (B8 o&&Nat.beq apos.endLine pos.line) (GG (fun n=>.meth (JW (Aq sc (.Attribute o name apos))) n (AD sc args)) (code name)) .bad) .bad=_
   rw [hs,show Nat.ble args.length 20=true from hl,hm,Gx (Ay hs) hm]
   show PE.meth (JW (DZ (Aq sc o) m)) m (AD sc args)=_
   rw [Jh]
  rw [hc] at R
  rw [Gx (Ay hs) hm,Jh] at e
  refine Uf e fun y σ₁ t vs σ₂ h1 h2 h3 h4=>NV T ho ha hs hl G I O h1 h3 fun a μ1 h₁ t₁ I₁ S₁ ra k1 G₁=>?_
  have at_:=@EnvOk.fr X sc env ρ μ1 (AS s h₁ t₁) σ₁ T G₁ I₁
  refine Ps h2 (fun n c l e1 hn hlk e2=>?_) (fun n l e1 hn e2=>?_) fun n l e1 hn e2=>?_
  ·subst e1 e2
   obtain ⟨mm,F⟩:=at_
   obtain ⟨_,_,ca,_,_,_,_,_,hca,_⟩:=Inv.locInst (s:=AS s h₁ t₁) I₁ hn ra
   obtain ⟨d,hd⟩:∃ d,X.P.defs (c,m)=some d:=MK h4 (fun _ _ _ h0 _ _ _ _=>Ae (T.c0.symm.trans ((congrArg X.C h0.symm).trans hca))) fun _ d _ _ hd _=>⟨d,hd⟩
   obtain ⟨fa,f1,f2,f3,f4⟩:=T.meth c ca m name d hca hm hd
   exact ⟨.ref fa,.inr f4,Uh (s:=AS s h₁ t₁) F T.kin I₁ hm hn hlk hca f1 f2 f3 ra,fun us μ2 h₂ t₂ I₂ S₂ ra rs kp=>CO (c,m) (.loc n::vs) σ₂ r σ' h4 (.ref fa) (.meth c m name ca fa hca hm f2) A μ2 (AS s h₂ t₂) (a::us) Q E I₂ (.cons _ _ _ _ ra rs) O
    (R.on S₂ fun h=>EN h fun e _=>RQ T (e▸h4))⟩
  ·subst e1 e2
   refine MR h4 (fun l2 hn2 _ h5=>?_) fun _ _ e _=>absurd e bQ
   exact ⟨_,.inl ⟨_,rfl⟩,Ug (s:=AS s h₁ t₁) I₁ hn ra (MO h5) hm,fun us μ2 h₂ t₂ I₂ S₂ ra rs kp=>UN (s:=AS s h₂ t₂) I₂ hn2 ra rs h5 (R.on S₂ fun h=>EN h fun e _=>by
    rcases MO h5 with h3 | h3 | h3<;>exact absurd (h3.symm.trans e) (by decide))⟩
  ·subst e1 e2
   refine MR h4 (fun _ _ e _=>absurd e.symm bQ) fun l2 hn2 _ h5=>?_
   exact ⟨_,.inl ⟨_,rfl⟩,Ui (s:=AS s h₁ t₁) I₁ hn ra (RI h5) hm,fun us μ2 h₂ t₂ I₂ S₂ ra rs kp=>UO (s:=AS s h₂ t₂) (pu:=AL (.meth (Aq sc o) m (AD sc args))=true) I₂ T.big hn2 ra rs h5 (fun h=>EN h fun e _=>e)
    (R.next S₂ id fun h=>EN h fun _ h=>kp h)⟩
end
end
section
section
variable {P:Prop} {ok:Option NameKind→Bool} {sc:Scope}
theorem Jz {x:Option NameKind} (h:BX x=true):x=some .local:=by
 induction x using Option.casesOn with
 | none=>exact absurd h bQ
 | some k=>induction k using NameKind.casesOn<;>first | rfl | exact absurd h bQ
theorem Ky {x:Option NameKind} (h:BX x=true):Bv x=true:=Jz h▸rfl
theorem Ep {e:Expr} {r:List Expr} {ns:List Nat} (h:Cl ok sc (e::r)=some ns) (k:∀ id pos n l,e=.Name id pos→ok (sc.names.lookup id)=true→code id=some n→Cl ok sc r=some l→ns=n::l→P):P:=
 AI h fun id h1 h=>BF h fun h2 h=>AI h fun n h3 h=>BL h fun l h4 h=>Ln h1 fun pos e=>k id pos n l e h2 h3 h4 h.symm
theorem JP {e:Expr} {pt:PT} (h:Cz ok sc e=some pt) (k1:∀ id pos n,e=.Name id pos→ok (sc.names.lookup id)=true→code id=some n→pt=.one n→P) (k2:∀ l x pos ns,e=.Tuple l x pos→Cl ok sc l=some ns→pt=.many ns→P):P:=by
 have hv:=EL e
 unfold Cz at h
 generalize Ef e=w at h hv
 induction w using Vw.casesOn with
 | name id pos=>exact BF h fun h1 h=>BL h fun n h2 h=>k1 id pos n hv h1 h2 h.symm
 | tup l x pos=>exact BL h fun ns h1 h=>k2 l x pos ns hv h1 h.symm
 | _=>exact Ae h
theorem LZ {l:List Expr}:∀ {ns:List Nat},Cl BX sc l=some ns→Cl Bv sc l=some ns:=by
 induction l with
 | nil=>exact fun h=>h
 | cons e l ih=>exact fun h=>Ep h fun id pos n m e1 h1 h2 h3 e2=>by subst e1 e2;exact AE rfl ((congrArg (fun b=>cond b _ none) (Ky h1)).trans (AE h2 (congrArg (Option.map (List.cons n)) (ih h3))))
theorem I9 {t:Expr} {pt:PT} (h:Cz BX sc t=some pt):Cz Bv sc t=some pt:=
 JP h (fun id pos n e h1 h2 e2=>by subst e e2;exact (congrArg (fun b=>cond b ((code id).map PT.one) none) (Ky h1)).trans (congrArg (Option.map PT.one) h2)) fun l x pos ns e h1 e2=>by subst e e2;exact congrArg (Option.map PT.many) (LZ h1)
end
section
variable {X:Cx} {k:Nat} {sc:Scope} {env:Env} {ρ ρ':At} {μ μ1:A5} {s:Shared} {σ σ' σ₁:St} {A:Around} {pu pu2:Prop} {x:AV} {h₁:Heap} {t₁:Nat} {E:Value→Shared→Prop}
theorem Dr {x:Nat} {xs:List Nat} {l:List AV} {P:Prop} (h:Ci (x::xs) l ρ=some ρ') (k:∀ v vs,l=v::vs→Ci xs vs (put x v ρ)=some ρ'→P):P:=by
 induction l using List.casesOn with
 | nil=>exact Ae h
 | cons v vs=>exact k v vs rfl h
theorem Ds {l:List AV} {P:Prop} (h:Ci [] l ρ=some ρ') (k:l=[]→ρ=ρ'→P):P:=by
 induction l using List.casesOn with
 | nil=>exact k rfl (oQ h)
 | cons v vs=>exact Ae h
theorem Ga {xs:List Nat}:∀ {l:List AV} {ρ ρ':At},Ci xs l ρ=some ρ'→xs.length=l.length:=by
 induction xs with
 | nil=>exact fun h=>Ds h fun e _=>e▸rfl
 | cons x xs ih=>exact fun h=>Dr h fun v vs e h=>e▸congrArg Nat.succ (ih h)
theorem PP {y:AV} {l:List AV} {P:Prop} (h:Gq σ y=some l) (k1:y=.tup l→P) (k2:∀ n,y=.loc n→σ[n]?=some (.list l)→P):P:=by
 induction y using AV.casesOn with
 | tup m=>exact k1 (congrArg AV.tup (oQ h))
 | loc n=>exact k2 n rfl (KA (by
   have h:(match σ[n]? with
    | some (.list l)=>some l
    | _=>none)=some l:=h
   show CT σ[n]?=_
   generalize σ[n]?=o at h ⊢
   induction o using Option.casesOn with
   | none=>exact Ae h
   | some o=>induction o using AO.casesOn<;>first | exact h | exact Ae h))
 | _=>exact Ae h
theorem MA (I:AK X μ s.heap σ) (hh:A.handled=none) {v:Value} {av:AV} {l:List AV} (rv:VR X.base s.heap μ v av) (e:Gq σ av=some l) {Q:List Value→Shared→Prop}
  (q:∀ h' us,CB s.heap h'→VRs X.base h' μ us l→Q us { s with heap:=h' }):wpAny (model X.p X.w) A (unpackItems v l.length none) Q E s:=by
 have ext:∀ {h':Heap},Heap.ExtBut s.heap.objs.size s.heap h'→CB s.heap h':=fun EB b o e=>EB b o (Nat.ne_of_lt (Heap.lt_size e)) e
 refine PP e (fun e=>?_) fun n e hl=>?_
 ·subst e
  obtain ⟨a,vs,rfl,ta,va⟩:=rv.x
  rw [←va.length,←List.size_toArray]
  exact wpAny_unpackItems_tuple hh ta fun h' EB=>q h' vs (ext EB) (va.keep (Kp.of_all (ext EB)))
 ·subst e
  obtain ⟨a,vs,rfl,_,pl,va⟩:=I.locList hl rv
  rw [←va.length,←List.size_toArray]
  exact kun_itemsOf hh pl.isList fun h' EB=>q h' vs (ext EB) (va.keep (Kp.of_all (ext EB)))
noncomputable abbrev Mz (X:Cx) (sc:Scope) (env:Env) (ρ:At) (μ:A5) (σ:St) (s:Shared) (loc:Prop) (Q:Unit→Shared→Prop):Prop:=
 ∀ h' t,AK X μ h' σ→StpX (CC env) μ s.heap μ h'→EnvOk X.base h' μ sc env ρ→(loc→∀ b o,b≠env.locals→s.heap.get? b=some o→h'.get? b=some o)→Q () (AS s h' t)
theorem Dt (G:EnvOk X.base s.heap μ sc env ρ) (I:AK X μ s.heap σ) {id:Str} {pos:Pos} {n:Nat} {v:Value} {av:AV} (hn:code id=some n) (hk:Bv (sc.names.lookup id)=true) (rv:VR X.base s.heap μ v av) {Q:Unit→Shared→Prop}
  (q:Mz X sc env (put n av ρ) μ σ s (sc.names.lookup id=some .local) Q):wpAny (model X.p X.w) A (assign (.Name id pos) env v) Q E s:=
 (arm_assign_Name ..).symm▸wpAny_bind (wpAny_standAt (wpAny_bindName (Hm G I hn hk rv q)))
theorem Lm (ts:List Expr):∀ {ns:List Nat} {us:List Value} {l:List AV} {ρ ρ':At} {s:Shared} {Q:Unit→Shared→Prop},Cl Bv sc ts=some ns→Ci ns l ρ=some ρ'→EnvOk X.base s.heap μ sc env ρ→AK X μ s.heap σ→VRs X.base s.heap μ us l →
  Mz X sc env ρ' μ σ s (Cl BX sc ts=some ns) Q→wpAny (model X.p X.w) A (assignInOrder ((assignEach ts env).map (·.2)) us) Q E s:=by
 induction ts with
 | nil=>
  intro ns us l ρ ρ' s Q hn hb G I rs q
  obtain rfl:=oQ hn
  refine Ds hb fun e1 e2=>?_
  subst e1 e2
  induction us using List.casesOn with
  | nil=>exact wpAny_pure (q s.heap s.toks I (StpX.refl _ _ _) G fun _ b o _ e=>e)
  | cons v us=>obtain ⟨_,_,e,_⟩:=rs.v;exact nomatch e
 | cons e ts ih=>
  intro ns us l ρ ρ' s Q hn hb G I rs q
  refine Ep hn fun id pos n ns' e1 h1 h2 h3 e2=>?_
  subst e1 e2
  refine Dr hb fun av l' e1 hb'=>?_
  subst e1
  induction us using List.casesOn with
  | nil=>obtain e:=rs.v;exact nomatch e
  | cons v us=>
   obtain ⟨_,_,e,rv,rs⟩:=rs.v
   obtain ⟨rfl,rfl⟩:=List.cons.inj e
   show wpAny _ _ (assignInOrder (assign (.Name id pos) env::(assignEach ts env).map (·.2)) (v::us)) _ _ _
   exact wpAny_assignInOrder_more (Dt G I h2 h1 rv fun h₁ t₁ I₁ S₁ G₁ k₁=>ih (s:=AS s h₁ t₁) h3 hb' G₁ I₁ (rs.stepX S₁) fun h₂ t₂ I₂ S₂ G₂ k₂=>
    q h₂ t₂ I₂ (S₁.trans S₂) G₂ fun hl=>Ep hl fun id' pos' n' l' e1 hk' _ hl e2=>by
     cases e1
     obtain ⟨_,rfl⟩:=List.cons.inj e2
     exact fun b o hb e=>k₂ hl b o hb (k₁ (Jz hk') b o hb e))
theorem GC (env:Env) {ok:Option NameKind→Bool} {ts:List Expr}:∀ {ns:List Nat},Cl ok sc ts=some ns→(assignEach ts env).findIdx? (·.1)=none∧(assignEach ts env).length=ns.length:=by
 induction ts with
 | nil=>exact fun h=>OV (Q:=fun ns=>_∧_=List.length ns) h ⟨rfl,rfl⟩
 | cons e ts ih=>
  refine fun h0=>Ep h0 fun id pos n l e1 _ _ h e2=>?_
  subst e1 e2
  obtain ⟨a,b⟩:=ih h
  refine ⟨?_,congrArg Nat.succ b⟩
  show List.findIdx? _ ((false,assign (.Name id pos) env)::assignEach ts env)=none
  rw [List.findIdx?_cons]
  simp [a]
theorem H9 (hh:A.handled=none) {t:Expr} {pt:PT} {v:Value} {av:AV} {Q:Unit→Shared→Prop} (hc:Cz Bv sc t=some pt) (hb:Bq σ pt av ρ=some ρ') (G:EnvOk X.base s.heap μ sc env ρ) (I:AK X μ s.heap σ) (rv:VR X.base s.heap μ v av)
  (q:Mz X sc env ρ' μ σ s (Cz BX sc t=some pt) Q):wpAny (model X.p X.w) A (assign t env v) Q E s:=by
 refine JP hc (fun id pos n e h1 h2 e2=>?_) fun elts x1 pos ns e hn e2=>?_
 ·subst e e2
  obtain rfl:=oQ hb
  exact Dt G I h2 h1 rv fun h' t' I' S' G' k'=>q h' t' I' S' G' fun hl=>k' (Jz (BF hl fun h _=>h))
 ·subst e e2
  obtain ⟨l,hi,hb⟩:=Option.bind_eq_some_iff.mp hb
  obtain ⟨a1,a2⟩:=GC env hn
  rw [arm_assign_Tuple]
  refine wpAny_bind (wpAny_standAt ?_)
  unfold unpack
  rw [a1,a2,Ga hb]
  exact wpAny_bind (wpAny_holding (MA I hh rv hi fun h₁ us k₁ rs=>
   have S₁:Stp μ s.heap μ h₁:=Stp.grow k₁ trivial
   Lm elts (s:={ s with heap:=h₁ }) hn hb (G.step I S₁) (I.grow k₁) rs fun h₂ t₂ I₂ S₂ G₂ k₂=>
    q h₂ t₂ I₂ ((S₁.toX I fun b hb=>(G.off b hb).1).trans S₂) G₂ fun hl=>BL hl fun ns' h e b o hb e'=>k₂ (PT.many.inj e▸h) b o hb (k₁ b o e')))
theorem ItAt.cls {base h:Heap} {it:Addr} {dic:Bool} {i:Nat} (T:ItAt base h μ it dic x i):∃ o n,h.get? it=some o∧o.cls=.type n∧["enumerate","zip","dict_itemiterator","dict_reverseitemiterator","odict_iterator","itertools.zip_longest","itertools.pairwise"].contains n=false:=by
 induction T using ItAt.casesOn with
 | list a n i _ h=>obtain ⟨o,h1,h2,_⟩:=h;exact ⟨o,_,h1,h2,by decide⟩
 | tup a vs l i _ _ h=>obtain ⟨o,h1,h2,_⟩:=h;exact ⟨o,_,h1,h2,by decide⟩
 | dict a n i ep o es _ _ _ h=>obtain ⟨o,h1,h2,_⟩:=h;exact ⟨o,_,h1,h2,by decide⟩
 | range n i h=>exact ⟨_,_,h,rfl,by decide⟩
theorem NO {M:Model} {es:List Expr} {kk:Nat} {pos:Pos} {it:Addr} {o:Obj} {n:String} {v:Value} {Q:Unit→Shared→Prop} (ho:s.heap.get? it=some o) (hc:o.cls=.type n)
  (hn:["enumerate","zip","dict_itemiterator","dict_reverseitemiterator","odict_iterator","itertools.zip_longest","itertools.pairwise"].contains n=false) (q:Q () s):wpAny M A (letOwnedTupleGo (.Tuple es kk pos) (.ref it) v) Q E s:=by
 induction v using Value.casesOn with
 | ref a=>
  refine wpAny_bind (wpAny_load ho ?_)
  obtain ⟨c,d,dd,sl⟩:=o
  obtain rfl:c=.type n:=hc
  induction dd using Data.casesOn with
  | fields vs=>
   show wpAny _ _ (if (["enumerate","zip","dict_itemiterator","dict_reverseitemiterator","odict_iterator","itertools.zip_longest","itertools.pairwise"].contains n&&vs[0]?==some (rawInt a))=true then _ else pure ()) _ _ _
   rw [hn]
   exact wpAny_pure q
  | _=>exact wpAny_pure q
 | _=>exact wpAny_pure q
theorem IP {M:Model} {base:Heap} {ok:Option NameKind→Bool} {t:Expr} {pt:PT} {it:Addr} {v:Value} {dic:Bool} {i:Nat} {Q:Unit→Shared→Prop} (hc:Cz ok sc t=some pt) (T:ItAt base s.heap μ it dic x i) (q:Q () s):wpAny M A (letOwnedTupleGo t (.ref it) v) Q E s:=by
 refine JP hc (fun id pos n e _ _ _=>?_) fun l y pos ns e _ _=>?_
 ·rw [e];exact wpAny_pure q
 ·rw [e]
  obtain ⟨o,n,ho,hc,hn⟩:=T.cls
  exact NO ho hc hn q
end
end
section
section
variable {prog:Program} {w:World} {A:Around} {R:Result→Shared→Prop} {s:Shared}
theorem Ix {elt target iter:Expr} {ifs:List Expr} {scope:Scope} {pos:Pos} {it acc:Value} {env:Env} (I:Nat→Shared→Prop)
  (turn:∀ n s,I n s→wpAny (model prog w) A (pyNext it) (fun r s₁=>match r with
   | none=>R (.ok .next) s₁
   | some v=>wpAny (model prog w) A (letOwnedTupleGo target it v) (fun _ s₁=>wpAny (model prog w) A (assign target env v) (fun _ s₂=>
     wpAny (model prog w) A (forIn ifs true fun c r=>if r=true then do let ok ←PySem.isTrue c env (eval c env);pure (ForInStep.yield ok) else pure (ForInStep.yield r)) (fun ok s₃=>
      if ok=true then wpAny (model prog w) A (eval elt env) (fun x s₄=>
       wpAny (model prog w) A (call (.builtin "list.append") [acc,x]) (fun _ s₅=>∃ m,m < n∧I m s₅) (notedBy (model prog w) A env fun e s'=>R (.error e) s') s₄) (notedBy (model prog w) A env fun e s'=>R (.error e) s') s₃
      else ∃ m,m < n∧I m s₃) (notedBy (model prog w) A env fun e s'=>R (.error e) s') s₂) (notedBy (model prog w) A env fun e s'=>R (.error e) s') s₁) (notedBy (model prog w) A env fun e s'=>R (.error e) s') s₁) (notedBy (model prog w) A env fun e s'=>R (.error e) s') s)
  (n:Nat) (h:I n s):codeAny (model prog w) A (.compLoop (.ListComp elt [⟨target,iter,ifs,0⟩] scope pos) 0 it acc env) R s:=by
 refine codeAny_loop rfl I (fun n s hI=>?_) n h
 show wpAny _ A ((compTurn (.ListComp elt [⟨target,iter,ifs,0⟩] scope pos) 0 it acc env).onRaise (fun x=>do noteFrame x env;theTreesLotGoes x)) _ _ s
 refine wpAny_noted ?_
 rw [compTurn_list]
 refine wpAny_bind (wpAny_standAt (wpAny_bind (wpAny_mono (turn n s hI) (fun r s₁ h₁=>?_) fun _ _ h'=>h')))
 cases r with
 | none=>exact wpAny_pure h₁
 | some v=>
  refine wpAny_bind (wpAny_mono h₁ (fun _ s₁ h₁=>?_) fun _ _ h'=>h')
  refine wpAny_bind (wpAny_mono h₁ (fun _ s₂ h₂=>wpAny_bind (wpAny_mono h₂ (fun ok s₃ h₃=>?_) fun _ _ h'=>h')) fun _ _ h'=>h')
  cases ok with
  | false=>exact wpAny_pure ⟨rfl,h₃⟩
  | true=>
   exact wpAny_bind (wpAny_bind (wpAny_mono h₃ (fun x s₄ h₄=>wpAny_bind (wpAny_mono h₄ (fun _ s₅ h₅=>wpAny_pure (wpAny_pure ⟨rfl,h₅⟩)) fun _ _ h'=>h')) fun _ _ h'=>h'))
theorem Iy {kx vx target iter:Expr} {ifs:List Expr} {scope:Scope} {pos:Pos} {it:Value} {D:Addr} {env:Env} (I:Nat→Shared→Prop)
  (turn:∀ n s,I n s→wpAny (model prog w) A (pyNext it) (fun r s₁=>match r with
   | none=>R (.ok .next) s₁
   | some v=>wpAny (model prog w) A (letOwnedTupleGo target it v) (fun _ s₁=>wpAny (model prog w) A (assign target env v) (fun _ s₂=>
     wpAny (model prog w) A (forIn ifs true fun c r=>if r=true then do let ok ←PySem.isTrue c env (eval c env);pure (ForInStep.yield ok) else pure (ForInStep.yield r)) (fun ok s₃=>
      if ok=true then wpAny (model prog w) A (eval kx env) (fun kv s₄=>wpAny (model prog w) A (eval vx env) (fun vv s₅=>
       wpAny (model prog w) A (dictSet D kv vv) (fun _ s₆=>∃ m,m < n∧I m s₆) (notedBy (model prog w) A env fun e s'=>R (.error e) s') s₅) (notedBy (model prog w) A env fun e s'=>R (.error e) s') s₄) (notedBy (model prog w) A env fun e s'=>R (.error e) s') s₃
      else ∃ m,m < n∧I m s₃) (notedBy (model prog w) A env fun e s'=>R (.error e) s') s₂) (notedBy (model prog w) A env fun e s'=>R (.error e) s') s₁) (notedBy (model prog w) A env fun e s'=>R (.error e) s') s₁) (notedBy (model prog w) A env fun e s'=>R (.error e) s') s)
  (n:Nat) (h:I n s):codeAny (model prog w) A (.compLoop (.DictComp kx vx [⟨target,iter,ifs,0⟩] scope pos) 0 it (.ref D) env) R s:=by
 refine codeAny_loop rfl I (fun n s hI=>?_) n h
 show wpAny _ A ((compTurn (.DictComp kx vx [⟨target,iter,ifs,0⟩] scope pos) 0 it (.ref D) env).onRaise (fun x=>do noteFrame x env;theTreesLotGoes x)) _ _ s
 refine wpAny_noted ?_
 rw [compTurn_dict]
 refine wpAny_bind (wpAny_standAt (wpAny_bind (wpAny_mono (turn n s hI) (fun r s₁ h₁=>?_) fun _ _ h'=>h')))
 cases r with
 | none=>exact wpAny_pure h₁
 | some v=>
  refine wpAny_bind (wpAny_mono h₁ (fun _ s₁ h₁=>?_) fun _ _ h'=>h')
  refine wpAny_bind (wpAny_mono h₁ (fun _ s₂ h₂=>wpAny_bind (wpAny_mono h₂ (fun ok s₃ h₃=>?_) fun _ _ h'=>h')) fun _ _ h'=>h')
  cases ok with
  | false=>exact wpAny_pure ⟨rfl,h₃⟩
  | true=>
   exact wpAny_bind (wpAny_bind (wpAny_mono h₃ (fun kv s₄ h₄=>wpAny_bind (wpAny_holding (wpAny_mono h₄ (fun vv s₅ h₅=>wpAny_bind (wpAny_standAt (wpAny_holding (wpAny_mono h₅ (fun _ s₆ h₆=>wpAny_pure ⟨rfl,h₆⟩) fun _ _ h'=>h')))) fun _ _ h'=>h'))) fun _ _ h'=>h'))
end
section
variable {X:Cx} {k:Nat} {sc sc':Scope} {env:Env} {ρ ρ':At} {μ μ1:A5} {s:Shared} {σ σ' σ₁:St} {A:Around} {pu pu2:Prop} {x:AV} {h₁:Heap} {t₁:Nat} {E:Value→Shared→Prop}
theorem OJ {env:Env} (ifs:List Expr):∀ {s:Shared} {Q:Bool→Shared→Prop},Q false s→wpAny (model X.p X.w) A (forIn ifs false fun c r=>if r=true then do let ok ←PySem.isTrue c env (eval c env);pure (ForInStep.yield ok) else pure (ForInStep.yield r)) Q E s:=by
 induction ifs with
 | nil=>exact fun h=>wpAny_pure h
 | cons c ifs ih=>
  intro s Q h
  rw [List.forIn_cons]
  exact wpAny_bind (wpAny_pure (ih h))
theorem TQ (ifs:List Expr):(∀ e∈ifs,SoundE X k e)→∀ {sc:Scope} {env:Env} {ρ:At} {μ:A5} {s:Shared} {σ:St} {A:Around},EnvOk X.base s.heap μ sc env ρ→AK X μ s.heap σ→Ok A k →
  ∀ {b σ'} {E:Value→Shared→Prop} {Q:Bool→Shared→Prop},KO X.P.gtup (AT X.P k) (AD sc ifs) ρ σ=some (b,σ')→Tb X (Bk (AD sc ifs)=true) μ s b σ' Q →
  wpAny (model X.p X.w) A (forIn ifs true fun c r=>if r=true then do let ok ←PySem.isTrue c env (eval c env);pure (ForInStep.yield ok) else pure (ForInStep.yield r)) Q E s:=by
 induction ifs with
 | nil=>exact fun _ {_ _ _ _ s _ _} G I O {_ _ _ _} e R=>Bf e fun e1 e2=>wpAny_pure (R _ _ _ s.toks (e2▸I) (Stp.refl _ _) e1 fun _ _ _ e=>e)
 | cons c ifs ih=>
  intro hs sc env ρ μ s σ A G I O b σ' E Q e R
  rw [List.forIn_cons]
  refine eva_i e fun x σ₁ t h1 h2 h3 h4=>wpAny_bind (wpAny_bind ((hs c (.head _)).ts G I O (test_ok h1 h2) fun b' μ1 h₁ t₁ I₁ S₁ eb kp=>wpAny_pure ?_))
  subst eb
  induction b' using Bool.casesOn with
  | true=>exact ih (fun e he=>hs e (.tail _ he)) (s:=AS s h₁ t₁) (G.step I S₁) I₁ O (h4 rfl) (ResG.next R S₁ AA fun h=>kp (Ay h))
  | false=>exact OJ ifs (R false μ1 h₁ t₁ ((h3 rfl).2▸I₁) S₁ (h3 rfl).1.symm fun h=>kp (Ay h))
section
variable {β:Type} {x n:Str} {c:β} {acc:List (Str×β)}
theorem EQ:List.lookup n ((n,c)::acc)=some c:=by rw [List.lookup_cons,beq_self_eq_true]
theorem Kz (h:x≠n):List.lookup x ((n,c)::acc)=List.lookup x acc:=by rw [List.lookup_cons,beq_eq_false_iff_ne.mpr h]
theorem MV {v:β} {P:Prop} (h:List.lookup x ((n,c)::acc)=some v) (k1:x=n→c=v→P) (k2:List.lookup x acc=some v→P):P:=by
 by_cases hx:x=n
 ·subst hx;rw [EQ] at h;exact k1 rfl (oQ h)
 ·rw [Kz hx] at h;exact k2 h
end
noncomputable def T2 (env:Env) (y:Str×NameKind):Str×NameKind:=if (y.2==NameKind.free&&env.scope.kind==.function&&env.kindOf y.1==some .cell)=true then (y.1,NameKind.cell) else y
theorem Ru (env:Env) (n:Str) (k:NameKind):∃ k',T2 env (n,k)=(n,k')∧(k'=k∨k=.free∧k'=.cell):=by
 unfold T2
 by_cases h:(k==NameKind.free&&env.scope.kind==.function&&env.kindOf n==some .cell)=true
 ·exact ⟨.cell,if_pos h,.inr ⟨eq_of_beq (Ay (Ay h)),rfl⟩⟩
 ·exact ⟨k,if_neg h,.inl rfl⟩
theorem IG {sc':Scope} {env:Env} {x:Str} {k:NameKind} (h:sc'.names.lookup x=some k):∃ k',(relabel sc' env).names.lookup x=some k'∧(k'=k∨k=.free∧k'=.cell):=by
 show ∃ k',List.lookup x (sc'.names.map (T2 env))=some k'∧_
 generalize sc'.names=l at h
 induction l with
 | nil=>exact Ae h
 | cons a l ih=>
  obtain ⟨n,kd⟩:=a
  obtain ⟨k',h1,h2⟩:=Ru env n kd
  rw [List.map_cons,h1]
  by_cases hx:x=n
  ·subst hx;rw [EQ] at h;exact ⟨k',EQ,oQ h▸h2⟩
  ·rw [Kz hx] at h ⊢;exact ih h
theorem Hx {sc':Scope} {env:Env} {x:Str} {k:NameKind} (h:sc'.names.lookup x=some k) (hk:k≠.free):(relabel sc' env).names.lookup x=some k:=
 (IG h).elim fun k' h=>h.2.elim (fun e=>e▸h.1) fun e=>absurd e.1 hk
noncomputable def JQ (env:Env) (y:Str×NameKind) (cs:List (Str×Addr)):Sem (ForInStep (List (Str×Addr))):=if (y.2==NameKind.free)=true then do
  let c ←cellOf env y.1
  pure (ForInStep.yield ((y.1,c)::cs)) else pure (ForInStep.yield cs)
theorem Og {env:Env} {n:Str} {k:NameKind} {cs:List (Str×Addr)} (hf:k=.free→∃ c,env.cells.lookup n=some c):∃ d,JQ env (n,k) cs=pure (.yield d)∧((d=cs∧k≠.free)∨∃ c,d=(n,c)::cs∧env.cells.lookup n=some c∧k=.free):=by
 unfold JQ
 by_cases hk:k=.free
 ·obtain ⟨c,hc⟩:=hf hk
  refine ⟨(n,c)::cs,(if_pos (beq_iff_eq.mpr hk)).trans ?_,.inr ⟨c,rfl,hc,hk⟩⟩
  rw [show cellOf env n=pure c by unfold cellOf;rw [hc],pure_bind]
 ·exact ⟨cs,if_neg fun h=>hk (eq_of_beq h),.inl ⟨rfl,hk⟩⟩
theorem cl_ {env:Env} (l:List (Str×NameKind)):∀ {acc:List (Str×Addr)},(∀ n,(n,NameKind.free)∈l→∃ c,env.cells.lookup n=some c)→∃ cl,forIn l acc (JQ env)=pure cl ∧
  (∀ x c,cl.lookup x=some c→acc.lookup x=some c∨(env.cells.lookup x=some c∧(x,NameKind.free)∈l))∧(∀ x,(x,NameKind.free)∈l∨(∃ c,acc.lookup x=some c)→∃ c,cl.lookup x=some c):=by
 induction l with
 | nil=>exact fun {acc} _=>⟨acc,rfl,fun x c h=>.inl h,fun x h=>h.elim (fun h=>absurd h List.not_mem_nil) id⟩
 | cons y l ih=>
  intro acc hf
  obtain ⟨n,kd⟩:=y
  obtain ⟨d,h0,hd⟩:=Og (cs:=acc) (k:=kd) fun e=>hf n (e▸.head _)
  obtain ⟨cl,h1,h2,h3⟩:=ih (acc:=d) fun m hm=>hf m (.tail _ hm)
  refine ⟨cl,by rw [List.forIn_cons,h0,pure_bind];exact h1,fun x c hx=>(h2 x c hx).elim (fun h=>?_) fun h=>.inr ⟨h.1,.tail _ h.2⟩,fun x hx=>h3 x ?_⟩
  ·rcases hd with ⟨rfl,_⟩ | ⟨c',rfl,hc,rfl⟩
   ·exact .inl h
   ·exact MV h (fun e1 e2=>.inr ⟨by rw [e1,hc,e2],by rw [e1];exact .head _⟩) .inl
  ·rcases hd with ⟨rfl,hk⟩ | ⟨c',rfl,hc,rfl⟩
   ·exact hx.imp (fun h=>(List.mem_cons.mp h).elim (fun e=>absurd (pQ e).2.symm hk) id) id
   ·by_cases hn:x=n
    ·exact .inr ⟨c',hn▸EQ⟩
    ·rw [Kz hn];exact hx.imp (fun h=>(List.mem_cons.mp h).elim (fun e=>absurd (pQ e).1 hn) id) id
theorem K7 {sc':Scope} {env:Env} (hf:∀ n,(n,NameKind.free)∈sc'.names→∃ c,env.cells.lookup n=some c) :
  ∃ cl,closureFor sc' env=pure cl∧(∀ x c,cl.lookup x=some c→env.cells.lookup x=some c∧(x,NameKind.free)∈sc'.names)∧(∀ x,(x,NameKind.free)∈sc'.names→∃ c,cl.lookup x=some c):=by
 obtain ⟨cl,h1,h2,h3⟩:=cl_ (acc:=[]) sc'.names hf
 refine ⟨cl,?_,fun x c hx=>(h2 x c hx).elim (fun h=>Ae h) id,fun x hx=>h3 x (.inl hx)⟩
 unfold closureFor
 show (forIn sc'.names [] (JQ env) >>= fun r=>pure r)=pure cl
 rw [bind_pure]
 exact h1
end
end
section
theorem Jv {l:List (Str×NameKind)}:DG l=true→∀ {n:Str} {k:NameKind},(n,k)∈l→l.lookup n=some k:=by
 induction l with
 | nil=>exact fun _ _ _ h=>absurd h List.not_mem_nil
 | cons a l ih=>
  obtain ⟨m,j⟩:=a
  intro hn n k h
  rcases List.mem_cons.mp h with e | h
  ·obtain ⟨rfl,rfl⟩:=pQ e;exact EQ
  ·have ih:=ih (AA hn) h
   rw [Kz fun e=>Ae ((Option.isNone_iff_eq_none.mp (Ay hn)).symm.trans (e▸ih))]
   exact ih
noncomputable def CZ (pt:PT) (ρ:At):At:=ρ.filter fun kv=>!(M2 kv.1 pt)
section
variable {ρ:At}
theorem HI {m n:Nat} {v:AV} (h:n=m):look n ((m,v)::ρ)=some v:=if_pos h
theorem HH {m n:Nat} {v:AV} (h:¬ n=m):look n ((m,v)::ρ)=look n ρ:=if_neg h
theorem Ew (pt:PT) (ρ:At) (n:Nat):look n (CZ pt ρ)=cond (M2 n pt) none (look n ρ):=by
 induction ρ with
 | nil=>generalize M2 n pt=b;induction b using Bool.casesOn<;>rfl
 | cons kv ρ ih=>
  obtain ⟨m,v⟩:=kv
  have step:CZ pt ((m,v)::ρ)=cond (M2 m pt) (CZ pt ρ) ((m,v)::CZ pt ρ):=by
   unfold CZ;rw [List.filter_cons];generalize M2 m pt=b;induction b using Bool.casesOn<;>rfl
  rw [step]
  by_cases hn:n=m
  ·subst hn
   generalize hb:M2 n pt=b at ih ⊢
   induction b using Bool.casesOn with
   | true=>exact ih
   | false=>exact (HI rfl).trans (HI rfl).symm
  ·rw [HH hn]
   generalize M2 m pt=b
   induction b using Bool.casesOn with
   | true=>exact ih
   | false=>exact (HH hn).trans ih
theorem GX {xs:List Nat}:∀ {l:List AV} {ρ ρ0 ρ':At},(∀ n,n∉xs→look n ρ=look n ρ0)→Ci xs l ρ=some ρ'→∃ ρ0',Ci xs l ρ0=some ρ0'∧∀ n,look n ρ'=look n ρ0':=by
 induction xs with
 | nil=>exact fun {l ρ ρ0 ρ'} h e=>Ds e fun e1 e2=>by subst e1 e2;exact ⟨ρ0,rfl,fun n=>h n List.not_mem_nil⟩
 | cons x xs ih=>
  intro l ρ ρ0 ρ' h e
  refine Dr e fun v vs e1 e=>?_
  subst e1
  refine ih (ρ:=put x v ρ) (ρ0:=put x v ρ0) (fun n hn=>?_) e
  rw [look_put,look_put]
  by_cases hx:n=x
  ·rw [if_pos hx,if_pos hx]
  ·rw [if_neg hx,if_neg hx];exact h n fun hm=>(List.mem_cons.mp hm).elim hx hn
theorem inT_many {n:Nat} {l:List Nat}:M2 n (.many l)=true↔n∈l:=by
 refine List.any_eq_true.trans ⟨fun ⟨m,hm,h⟩=>Nat.eq_of_beq_eq_true h▸hm,fun h=>⟨n,h,Nat.beq_refl n⟩⟩
theorem No {σ:St} {pt:PT} {v:AV} {ρ ρ':At} {P:Prop} (h:Bq σ pt v ρ=some ρ') (k1:∀ x,pt=.one x→ρ'=put x v ρ→P) (k2:∀ xs l,pt=.many xs→Gq σ v=some l→Ci xs l ρ=some ρ'→P):P:=by
 induction pt using PT.casesOn with
 | one x=>exact k1 x rfl (oQ h).symm
 | many xs=>exact (Option.bind_eq_some_iff.mp h).elim fun l h=>k2 xs l rfl h.1 h.2
theorem Lj {σ:St} {pt:PT} {v:AV} {ρ ρ':At} (h:Bq σ pt v ρ=some ρ'):∃ ρ0',Bq σ pt v (CZ pt ρ)=some ρ0'∧∀ n,look n ρ'=look n ρ0':=by
 refine No h (fun x e1 e2=>?_) fun xs l e1 hl hb=>?_
 ·subst e1 e2
  refine ⟨_,rfl,fun n=>?_⟩
  rw [look_put,look_put,Ew]
  by_cases hx:n=x
  ·rw [if_pos hx,if_pos hx]
  ·rw [if_neg hx,if_neg hx,show M2 n (.one x)=false from Bool.eq_false_iff.mpr fun h=>hx (Nat.eq_of_beq_eq_true h)];rfl
 ·subst e1
  obtain ⟨ρ0,h1,h2⟩:=GX (ρ0:=CZ (.many xs) ρ) (fun n hn=>by rw [Ew,show M2 n (.many xs)=false from Bool.eq_false_iff.mpr fun h=>hn (inT_many.mp h)];rfl) hb
  exact ⟨ρ0,Option.bind_eq_some_iff.mpr ⟨l,hl,h1⟩,h2⟩
end
section
variable {base h h':Heap} {μ:A5} {sc sc':Scope} {env cenv:Env} {ρ ρ':At}
theorem EnvOk.congr (G:EnvOk base h μ sc env ρ) (e:∀ n av,look n ρ'=some av→look n ρ=some av):EnvOk base h μ sc env ρ':=by
 refine ⟨G.kind,G.gl,G.bl,G.kloc,G.kcel,G.kcell,G.kglo,?_,fun x c hx=>?_,G.off,G.apart,G.inj⟩
 ·obtain ⟨m,hns,hm⟩:=G.ns
  exact ⟨m,hns,fun x n av h1 h2 h3=>hm x n av h1 h2 (e n av h3)⟩
 ·obtain ⟨v,hc,hv⟩:=G.cel x c hx
  exact ⟨v,hc,fun n av h1 h2 h3=>hv n av h1 h2 (e n av h3)⟩
theorem EnvOk.forget (G:EnvOk base h μ sc' cenv ρ') (e:∀ n av,look n ρ=some av→look n ρ'=some av):EnvOk base h μ sc' cenv ρ:=G.congr e
theorem KH {x:Option NameKind} {P:Prop} (h:P6 x=true) (k:x=some .cell∨x=some .free→P):P:=by
 induction x using Option.casesOn with
 | none=>exact absurd h bQ
 | some x=>induction x using NameKind.casesOn<;>first | exact absurd h bQ | exact k (.inl rfl) | exact k (.inr rfl)
theorem Ea {pt:PT} (h:BS sc sc' pt=true):sc'.kind=.function∧DG sc'.names=true∧∀ x k,(x,k)∈sc'.names→Tn sc pt x k=true:=
 ⟨eq_of_beq (Ay h),Ay (AA h),fun x k hx=>List.all_eq_true.mp (AA (AA h)) _ hx⟩
theorem Qx {pt:PT} {cl:List (Str×Addr)} {C:Addr} {m:Str→Option Value} (hs:BS sc sc' pt=true) (G:EnvOk base h μ sc env ρ)
  (hcl:∀ x c,cl.lookup x=some c→env.cells.lookup x=some c∧(x,NameKind.free)∈sc'.names) (hcl2:∀ x,(x,NameKind.free)∈sc'.names→∃ c,cl.lookup x=some c)
  (hns:h.Ns C m) (hoff:Off μ C) (hlow:base.objs.size≤C) (hap:∀ b,CC env b→b≠C) (hc:cenv={ scope:=relabel sc' env,locals:=C,globals:=env.globals,cells:=cl,qual:=cenv.qual,func:=cenv.func,code:=cenv.code,frame:=cenv.frame,builtins:=env.builtins }) :
  EnvOk base h μ sc' cenv (CZ pt ρ):=by
 obtain ⟨k1,k2,kk⟩:=Ea hs
 have e1:cenv.scope=relabel sc' env:=congrArg Env.scope hc
 have e2:cenv.locals=C:=congrArg Env.locals hc
 have e3:cenv.cells=cl:=congrArg Env.cells hc
 have kd:∀ {x k},(relabel sc' env).names.lookup x=some k→cenv.kindOf x=some k:=fun {x k} h=>by unfold Env.kindOf;rw [e1];exact h
 refine ⟨by rw [e1];exact k1,(congrArg Env.globals hc).trans G.gl,(congrArg Env.builtins hc).trans G.bl,fun x hx=>kd (Hx hx nofun),fun x hx=>?_,fun x hx=>absurd (kk x _ (mem_of_lookup hx)) bQ,fun x hx=>kd (Hx hx nofun),
  ⟨m,e2▸hns,fun x n av h1 h2 h3=>?_⟩,fun x c hx=>?_,fun b hb=>?_,fun x c hx=>?_,fun x y c hx hy=>?_⟩
 ·rcases hx with hx | hx
  ·exact absurd (kk x _ (mem_of_lookup hx)) bQ
  ·obtain ⟨k',h1,h2⟩:=IG (env:=env) hx
   exact ⟨h2.elim (fun e=>.inr (kd (e▸h1))) fun e=>.inl (kd (e.2▸h1)),e3▸hcl2 x (mem_of_lookup hx)⟩
 ·have hk:ownT pt (code x)=true:=kk x _ (mem_of_lookup h2)
  rw [h1] at hk
  rw [Ew,show M2 n pt=true from hk] at h3
  exact Ae h3
 ·rw [e3] at hx
  obtain ⟨hx1,hx2⟩:=hcl x c hx
  obtain ⟨v,hcell,hv⟩:=G.cel x c hx1
  refine ⟨v,hcell,fun n av h1 h2 h3=>KH (kk x _ hx2) fun hf=>hv n av h1 hf ?_⟩
  rw [Ew] at h3
  generalize M2 n pt=b at h3
  induction b using Bool.casesOn with
  | true=>exact Ae h3
  | false=>exact h3
 ·exact hb.elim (fun hb=>hb▸e2▸⟨hoff,hlow⟩) fun ⟨x,hx⟩=>G.off b (.inr ⟨x,(hcl x b (e3▸hx)).1⟩)
 ·rw [e2];exact hap c (.inr ⟨x,(hcl x c (e3▸hx)).1⟩)
 ·exact G.inj x y c (hcl x c (e3▸hx)).1 (hcl y c (e3▸hy)).1
end
end
section
section
variable {p:Program} {w:World} {C:BQ} {base h h' h₀:Heap} {μ μ0:A5} {σ σ₀:St} {sc:Scope} {env:Env} {ρ:At} {dic:Bool} {x:AV}
theorem EnvOk.but {L:Addr} (G:EnvOk base h μ sc env ρ) (k:∀ b o,b≠L→h.get? b=some o→h'.get? b=some o) (hL:¬ CC env L) (kp:Kp h h'):EnvOk base h' μ sc env ρ:=by
 refine ⟨G.kind,G.gl,G.bl,G.kloc,G.kcel,G.kcell,G.kglo,?_,fun x c hx=>?_,G.off,G.apart,G.inj⟩
 ·obtain ⟨m,⟨o,es,ep,ho,hd,hk,hf⟩,hm⟩:=G.ns
  refine ⟨m,⟨o,es,ep,k _ o (fun e=>hL (.inl e.symm)) ho,hd,hk,hf⟩,fun x n av h1 h2 h3=>?_⟩
  obtain ⟨u,h4,h5⟩:=hm x n av h1 h2 h3
  exact ⟨u,h4,h5.keep kp⟩
 ·obtain ⟨v,⟨o,ho,hd⟩,hv⟩:=G.cel x c hx
  refine ⟨v,⟨o,k c o (fun e=>hL (.inr ⟨x,e▸hx⟩)) ho,hd⟩,fun n av h1 h2 h3=>?_⟩
  obtain ⟨u,h4,h5⟩:=hv n av h1 h2 h3
  exact ⟨u,h4,h5.keep kp⟩
theorem ItAt.but {it L:Addr} {i:Nat} (T:ItAt base h μ it dic x i) (k:∀ b o,b≠L→h.get? b=some o→h'.get? b=some o) (hit:it≠L) (hL:Off μ L) (kp:Kp h h'):ItAt base h' μ it dic x i:=by
 obtain ⟨o,h1,_⟩:=T.obj
 have hit':h'.get? it=h.get? it:=by rw [h1];exact k it o hit h1
 cases T with
 | list a n i e h=>exact .list a n i e (by unfold Heap.IsListIter;rw [hit'];exact h)
 | tup a vs l i ta va h=>obtain ⟨o',ho',hc',hd'⟩:=ta;exact .tup a vs l i ⟨o',kp a o' ho' (.inl ⟨hc',_,hd'⟩),hc',hd'⟩ (va.keep kp) (by unfold Heap.IsTupleIter;rw [hit'];exact h)
 | range n i h=>exact .range n i (by unfold IsRangeIter at h ⊢;rw [hit'];exact h)
 | dict a n i ep o' es e ho' hdt h=>exact .dict a n i ep o' es e (k a o' (Ne.symm (hL (a,a) (List.mem_of_getElem? e)).1) ho') hdt (by unfold Heap.IsKeyIter;rw [hit'];exact h)
theorem ItAt.self_ {prog:Program} {A:Around} {E Q:Value→Shared→Prop} {s:Shared} {it:Addr} {i:Nat} (T:ItAt base s.heap μ it dic x i) (q:Q (.ref it) s):wpAny (model prog w) A (pyIter (.ref it)) Q E s:=by
 cases T with
 | list a n i _ h=>exact wpAny_pyIter_listiter h q
 | tup a vs l i _ _ h=>exact wpAny_pyIter_tupleiter h q
 | range n i h=>exact wpAny_pyIter_rangeiter h q
 | dict a n i ep o es _ _ _ h=>exact wpAny_pyIter_keyiter h q
theorem Mt {xs:List Nat}:∀ {l:List AV} {ρ ρ':At} {n:Nat},Ci xs l ρ=some ρ'→n∉xs→look n ρ'=look n ρ:=by
 induction xs with
 | nil=>exact fun e _=>Ds e fun _ e=>e▸rfl
 | cons x xs ih=>exact fun {l ρ ρ' n} e hn=>Dr e fun v vs _ e=>(ih e fun h=>hn (.tail _ h)).trans ((look_put ..).trans (if_neg fun e:n=x=>hn (e▸.head _)))
theorem Mu {σ:St} {pt:PT} {v:AV} {ρ ρ':At} {n:Nat} (h:Bq σ pt v ρ=some ρ') (hn:¬ M2 n pt=true):look n ρ'=look n ρ:=
 No h (fun x e1 e2=>by subst e1 e2;exact (look_put ..).trans (if_neg fun e:n=x=>hn (e▸Nat.beq_refl n))) fun xs l e1 _ hb=>by subst e1;exact Mt hb fun hm=>hn (inT_many.mpr hm)
theorem Qs {σ:St} {pt:PT} {v:AV} {ρ ρ':At} (h:Bq σ pt v (CZ pt ρ)=some ρ') (n:Nat) (av:AV) (e:look n (CZ pt ρ)=some av):look n ρ'=some av:=by
 rw [Mu h]
 ·exact e
 ·intro hin;rw [Ew,hin] at e;exact Ae e
theorem Stp.fresh0 (S:Stp μ0 h₀ μ h) (I:Inv p w C base μ h σ) {D:Addr} (hD:h.objs.size≤D):h₀.get? D=none:=by
 generalize e:h₀.get? D=zz3
 induction zz3 using Option.casesOn with
 | none=>rfl
 | some o=>
  exfalso
  have hn:=A8 hD
  by_cases off:Off μ0 D
  ·rw [S.kept D o e off] at hn;cases hn
  ·obtain ⟨ν,hν,_⟩:=S.more
   refine off fun q hq=>?_
   have:=I.lt q (by rw [hν];exact List.mem_append_left _ hq)
   exact ⟨Ne.symm (Nat.ne_of_lt (Nat.lt_of_lt_of_le this.1 hD)),Ne.symm (Nat.ne_of_lt (Nat.lt_of_lt_of_le this.2 hD))⟩
end
structure LP where
 X:Cx
 sc:Scope
 env:Env
 μ0:A5
 h₀:Heap
 it:Addr
 D:Addr
 dic:Bool
 src:AV
structure LFix (L:LP):Prop where
 it0:L.h₀.get? L.it=none
 D0:L.h₀.get? L.D=none
 C0:L.h₀.get? L.env.locals=none
 Dit:L.D≠L.it
 DC:L.D≠L.env.locals
 itC:L.it≠L.env.locals
 own:∀ b,CC L.env b→b≠L.env.locals→∃ o,L.h₀.get? b=some o
 bD:L.X.base.objs.size≤L.D
 bit:L.X.base.objs.size≤L.it
structure LAt (L:LP) (ρ:At) (μ:A5) (h:Heap) (σ:St) (i:Nat):Prop where
 I:AK L.X μ h σ
 S:Stp L.μ0 L.h₀ μ h
 T:ItAt L.X.base h μ L.it L.dic L.src i
 G:EnvOk L.X.base h μ L.sc L.env ρ
 O:Off μ L.D
 live:∃ o,h.get? L.D=some o
noncomputable def Col (D:Addr) (Hd:A5→Heap→Prop):Prop:=∀ μ ν h h',Hd μ h→(∀ o,h.get? D=some o→h'.get? D=some o)→Kp h h'→Hd (μ++ν) h'
section
variable {L:LP} {ρ ρ':At} {μ μ':A5} {h h':Heap} {σ σ':St} {i:Nat}
theorem LFix.free (F:LFix L) {Z:Addr} (hz:L.h₀.get? Z=none) (hne:Z≠L.env.locals):¬ CC L.env Z:=fun ho=>by
 obtain ⟨o,h⟩:=F.own _ ho hne
 rw [hz] at h
 exact Ae h
theorem LAt.kp (J:LAt L ρ μ h σ i) (kk:∀ b o,b≠L.it→h.get? b=some o→h'.get? b=some o):Kp h h':=by
 obtain ⟨o,ho,_,_,_,c4,c5⟩:=J.T.obj
 exact Co ho (fun v=>v.elim (fun v=>c4 v.1) (fun v=>c5 v.1)) kk
theorem LAt.inv (F:LFix L) (J:LAt L ρ μ h σ i) (kk:∀ b o,b≠L.it→h.get? b=some o→h'.get? b=some o):AK L.X μ h' σ:=by
 obtain ⟨o,ho,_,_,_,c4,c5⟩:=J.T.obj
 exact J.I.offW (J.T.off J.I) (A8 F.bit) kk fun o' e=>by rw [ho] at e;(cases e);exact fun v=>v.elim (fun v=>c4 v.1) (fun v=>c5 v.1)
theorem LAt.env (F:LFix L) (J:LAt L ρ μ h σ i) (kk:∀ b o,b≠L.it→h.get? b=some o→h'.get? b=some o):EnvOk L.X.base h' μ L.sc L.env ρ:=J.G.but kk (F.free F.it0 F.itC) (J.kp kk)
theorem LAt.next (F:LFix L) (J:LAt L ρ μ h σ i) (kk:∀ b o,b≠L.it→h.get? b=some o→h'.get? b=some o) {j:Nat} (T:ItAt L.X.base h' μ L.it L.dic L.src j):LAt L ρ μ h' σ j:=
 ⟨J.inv F kk,J.S.after kk F.it0,T,J.env F kk,J.O,J.live.imp fun o e=>kk _ o F.Dit e⟩
theorem LAt.bound (F:LFix L) (J:LAt L ρ μ h σ i) (I:AK L.X μ h' σ) (kp:Kp h h') (G:EnvOk L.X.base h' μ L.sc L.env ρ') (kk:∀ b o,b≠L.env.locals→h.get? b=some o→h'.get? b=some o):LAt L ρ' μ h' σ i:=
 ⟨I,J.S.after kk F.C0,J.T.but kk F.itC (J.G.off _ (.inl rfl)).1 kp,G,J.O,J.live.imp fun o e=>kk _ o F.DC e⟩
theorem LAt.step (J:LAt L ρ μ h σ i) (I:AK L.X μ' h' σ') (S:Stp μ h μ' h') (kd:L.dic=true→∀ b o,h.get? b=some o→h'.get? b=some o):LAt L ρ μ' h' σ' i:=
 ⟨I,J.S.trans S,J.T.step J.I S kd,J.G.step J.I S,J.live.elim fun o e=>J.O.step S e,J.live.imp fun o e=>S.kept _ o e J.O⟩
theorem LAt.put (F:LFix L) (J:LAt L ρ μ h σ i) {o o':Obj} (ho:h.get? L.D=some o) (nv:¬ Vl o) (ho':h'.get? L.D=some o') (kk:∀ b o,b≠L.D→h.get? b=some o→h'.get? b=some o):LAt L ρ μ h' σ i:=
 ⟨J.I.offW J.O (A8 F.bD) kk (fun o e=>by rw [ho] at e;(cases e);exact nv),J.S.after kk F.D0,J.T.but kk (Ne.symm F.Dit) J.O (Co ho nv kk),J.G.but kk (F.free F.D0 F.DC) (Co ho nv kk),J.O,⟨o',ho'⟩⟩
theorem LAt.congr (J:LAt L ρ μ h σ i) (e:∀ n av,look n ρ'=some av→look n ρ=some av):LAt L ρ' μ h σ i:=⟨J.I,J.S,J.T,J.G.congr e,J.O,J.live⟩
theorem Col.keep {D:Addr} {Hd:A5→Heap→Prop} (c:Col D Hd) (x:Hd μ h) (kk:∀ o,h.get? D=some o→h'.get? D=some o) (kp:Kp h h'):Hd μ h':=List.append_nil μ▸c μ [] h h' x kk kp
theorem Col.step {Hd:A5→Heap→Prop} (c:Col L.D Hd) (x:Hd μ h) (J:LAt L ρ μ h σ i) (S:Stp μ h μ' h'):Hd μ' h':=by
 have kp:=J.I.kp S
 have kk:=fun o e=>S.kept _ o e J.O
 obtain ⟨ν,rfl,_⟩:=S.more
 exact c μ ν h h' x kk kp
end
inductive Turn {β γ:Type} (L:LP) (k:Nat) (pt:PT) (ρ:At) (ifs:List Expr) (tail:At→St→Option (γ×St)) (add:β→γ→β) (run:Nat→Nat→β→St→Prop) (fin:β→St→Prop) (n i:Nat) (acc:β) (σ:St):Prop
 | stop:Bg σ L.dic L.src i=some none→fin acc σ→Turn L k pt ρ ifs tail add run fin n i acc σ
 | skip (m:Nat) (y:AV) (ρ':At) (σ₁:St):Bg σ L.dic L.src i=some (some y)→Bq σ pt y ρ=some ρ'→KO L.X.P.gtup (AT L.X.P k) (AD L.sc ifs) ρ' σ=some (false,σ₁)→m < n→run m (i+1) acc σ₁→Turn L k pt ρ ifs tail add run fin n i acc σ
 | take (m:Nat) (y:AV) (ρ':At) (σ₁ σ₂:St) (r:γ):Bg σ L.dic L.src i=some (some y)→Bq σ pt y ρ=some ρ'→KO L.X.P.gtup (AT L.X.P k) (AD L.sc ifs) ρ' σ=some (true,σ₁)→tail ρ' σ₁=some (r,σ₂)→m < n→run m (i+1) (add acc r) σ₂→Turn L k pt ρ ifs tail add run fin n i acc σ
inductive LSt {β:Type} (L:LP) (ρ:At) (Hd:β→A5→Heap→Prop) (run:Nat→Nat→β→St→Prop) (s:Shared) (n:Nat):Shared→Prop
 | mk (μ:A5) (h:Heap) (σ:St) (tk:Tok) (i:Nat) (acc:β):LAt L ρ μ h σ i→Hd acc μ h→run n i acc σ→LSt L ρ Hd run s n (AS s h tk)
section
variable {L:LP} {k:Nat} {A:Around} {s:Shared} {ρ:At} {β γ:Type} {Hd:β→A5→Heap→Prop} {run:Nat→Nat→β→St→Prop} {fin:β→St→Prop} {tail:At→St→Option (γ×St)} {add:β→γ→β}
theorem Tp (F:LFix L) (O:Ok A k) {t:Expr} {ifs:List Expr} {pt:PT} (hifs:∀ e∈ifs,SoundE L.X k e) (hpt:Cz BX L.sc t=some pt) (hpu:L.dic=true→Bk (AD L.sc ifs)=true) {H:A5→Heap→Prop} (hH:Col L.D H)
  {μ:A5} {h:Heap} {tk:Tok} {σ σ₁:St} {i:Nat} {v:Value} {y:AV} {ρ':At} {b:Bool} (J:LAt L (CZ pt ρ) μ h σ i) (x:H μ h) (rv:VR L.X.base h μ v y) (hb:Bq σ pt y ρ=some ρ') (hev:KO L.X.P.gtup (AT L.X.P k) (AD L.sc ifs) ρ' σ=some (b,σ₁))
  {Z:Bool→Shared→Prop} {E1 E2 E3:Value→Shared→Prop}
  (q:∀ μ' h' tk',LAt L ρ' μ' h' σ₁ i→H μ' h'→(∀ n av,look n (CZ pt ρ)=some av→look n ρ'=some av)→Z b (AS s h' tk')) :
  wpAny (model L.X.p L.X.w) A (letOwnedTupleGo t (.ref L.it) v) (fun _ s₁=>wpAny (model L.X.p L.X.w) A (assign t L.env v) (fun _ s₂=>
   wpAny (model L.X.p L.X.w) A (forIn ifs true fun c r=>if r=true then do let ok ←PySem.isTrue c L.env (eval c L.env);pure (ForInStep.yield ok) else pure (ForInStep.yield r)) Z E1 s₂) E2 s₁) E3 (AS s h tk):=by
 obtain ⟨ρ0',hb0,hlk⟩:=Lj hb
 refine IP (s:=AS s h tk) (I9 hpt) J.T ?_
 refine H9 (s:=AS s h tk) O.1 (I9 hpt) hb0 J.G J.I rv fun h3 t3 I₃ SX₃ G₃ k3=>?_
 have J₃:LAt L ρ' μ h3 σ i:=J.bound F I₃ SX₃.kp (G₃.congr fun n av h=>(hlk n).symm.trans h) (k3 hpt)
 have x₃:=hH.keep x (fun o e=>k3 hpt _ o F.DC e) SX₃.kp
 refine TQ ifs hifs (s:=AS s h3 t3) J₃.G I₃ O hev fun bb μ4 h4 t4 I₄ S₄ eb kp4=>?_
 rw [eb]
 exact q μ4 h4 t4 (J₃.step I₄ S₄ fun hd=>kp4 (hpu hd)) (hH.step x₃ J₃ S₄) fun n av e=>(hlk n).trans (Qs hb0 n av e)
theorem Tf (F:LFix L) (O:Ok A k) {t:Expr} {ifs:List Expr} {pt:PT} (hifs:∀ e∈ifs,SoundE L.X k e) (hpt:Cz BX L.sc t=some pt) (hpu:L.dic=true→Bk (AD L.sc ifs)=true) (hH:∀ a,Col L.D (Hd a))
  (inv:∀ n i acc σ,run n i acc σ→Turn L k pt ρ ifs tail add run fin n i acc σ) {n:Nat} {s':Shared} (J:LSt L (CZ pt ρ) Hd run s n s') {R0 Y:Shared→Prop} {E1 E2 E3 E4:Value→Shared→Prop}
  (hfin:∀ acc μ h σ tk,fin acc σ→AK L.X μ h σ→Stp L.μ0 L.h₀ μ h→EnvOk L.X.base h μ L.sc L.env (CZ pt ρ)→Off μ L.D→Hd acc μ h→R0 (AS s h tk))
  (htake:∀ m i acc μ h tk ρ' σ₁ σ₂ r,tail ρ' σ₁=some (r,σ₂)→LAt L ρ' μ h σ₁ i→Hd acc μ h→(∀ n av,look n (CZ pt ρ)=some av→look n ρ'=some av)→m < n→run m i (add acc r) σ₂→Y (AS s h tk)) :
  wpAny (model L.X.p L.X.w) A (pyNext (.ref L.it)) (fun r s₁=>match r with
   | none=>R0 s₁
   | some v=>wpAny (model L.X.p L.X.w) A (letOwnedTupleGo t (.ref L.it) v) (fun _ s₁=>wpAny (model L.X.p L.X.w) A (assign t L.env v) (fun _ s₂=>
     wpAny (model L.X.p L.X.w) A (forIn ifs true fun c r=>if r=true then do let ok ←PySem.isTrue c L.env (eval c L.env);pure (ForInStep.yield ok) else pure (ForInStep.yield r)) (fun ok s₃=>
      if ok=true then Y s₃ else ∃ m,m < n∧LSt L (CZ pt ρ) Hd run s m s₃) E1 s₂) E2 s₁) E3 s₁) E4 s':=by
 cases J with
 | mk μ h σ tk i acc J x hr=>
  have some_:∀ {y:AV} {v:Value} {h2:Heap},Heap.SameBut L.it h h2→ItAt L.X.base h2 μ L.it L.dic L.src (i+1)→LAt L (CZ pt ρ) μ h2 σ (i+1)∧Hd acc μ h2:=fun SB T₂=>
   ⟨J.next F (fun b o hb e=>SB.extBut b o hb e) T₂,(hH acc).keep x (fun o e=>SB.extBut _ o F.Dit e) (J.kp fun b o hb e=>SB.extBut b o hb e)⟩
  cases inv _ _ _ _ hr with
  | stop hn hf=>
   exact Ks (s:=AS s h tk) J.I O.1 J.T hn (fun _ h2 kk=>hfin acc μ h2 σ tk hf (J.inv F kk) (J.S.after kk F.it0) (J.env F kk) J.O ((hH acc).keep x (fun o e=>kk _ o F.Dit e) (J.kp kk))) fun y e=>(by exact Ae e)
  | skip m y ρ' σ₁ hn hb hev hm hr=>
   refine Ks (s:=AS s h tk) J.I O.1 J.T hn (fun e=>(by exact nomatch e)) fun y' e v h2 t2 rv SB T₂=>?_
   cases e
   obtain ⟨J₂,x₂⟩:=some_ (y:=y) (v:=v) SB T₂
   exact Tp F O hifs hpt hpu (hH acc) J₂ x₂ rv hb hev fun μ' h' tk' J' x' back=>⟨m,hm,.mk μ' h' σ₁ tk' (i+1) acc (J'.congr back) x' hr⟩
  | take m y ρ' σ₁ σ₂ r hn hb hev ht hm hr=>
   refine Ks (s:=AS s h tk) J.I O.1 J.T hn (fun e=>(by exact nomatch e)) fun y' e v h2 t2 rv SB T₂=>?_
   cases e
   obtain ⟨J₂,x₂⟩:=some_ (y:=y) (v:=v) SB T₂
   exact Tp F O hifs hpt hpu (hH acc) J₂ x₂ rv hb hev fun μ' h' tk' J' x' back=>htake m (i+1) acc μ' h' tk' ρ' σ₁ σ₂ r ht J' x' back hm hr
end
end
section
theorem Kh (k:Int) (v:AV) (l:List (Int×AV)):(Br k v l).length≤l.length+1∧l.length≤(Br k v l).length:=by
 induction l with
 | nil=>exact ⟨Nat.le_refl _,Nat.zero_le _⟩
 | cons a l ih=>
  obtain ⟨y,w⟩:=a
  by_cases h:k=y
  ·rw [show Br k v ((y,w)::l)=_ from if_pos h];exact ⟨Nat.le_succ _,Nat.le_refl _⟩
  ·rw [show Br k v ((y,w)::l)=_ from if_neg h];exact ⟨Nat.succ_le_succ ih.1,Nat.succ_le_succ ih.2⟩
section
variable {X:Cx} {k:Nat} {sc:Scope} {pt:PT} {ρ:At} {ifs:List Expr} {elt kx vx:Expr} {σ σ₂ σ':St} {y:AV} {d:Bool} {src:AV} {n i:Nat}
noncomputable abbrev H4 {γ:Type} (X:Cx) (k:Nat) (sc:Scope) (pt:PT) (ρ:At) (ifs:List Expr) (tail:At→St→Option (γ×St)):AV→St→Option (Option γ×St):=Lh (fun x ρ σ=>Bq σ pt x ρ) (fun ρ σ=>KO X.P.gtup (AT X.P k) (AD sc ifs) ρ σ) tail ρ
noncomputable abbrev MD (X:Cx) (k:Nat) (sc:Scope) (elt:Expr) (ρ:At) (σ:St):Option (AV×St):=ev X.P.gtup (AT X.P k) (Aq sc elt) ρ σ
noncomputable abbrev Kn (X:Cx) (k:Nat) (sc:Scope) (kx vx:Expr) (ρ:At) (σ:St):Option ((Int×AV)×St):=A3 (ev X.P.gtup (AT X.P k) (Aq sc kx) ρ σ) fun x σ=>Pe x fun i=>A3 (ev X.P.gtup (AT X.P k) (Aq sc vx) ρ σ) fun w σ=>some ((i,w),σ)
end
section
variable {L:LP} {k:Nat} {pt:PT} {ρ:At} {ifs:List Expr} {elt kx vx:Expr} {σ σ':St} {n i:Nat} {β γ:Type} {tail:At→St→Option (γ×St)} {add:β→Option γ→β} {len:β→Nat}
noncomputable def Rs (L:LP) (k:Nat) (pt:PT) (ρ:At) (ifs:List Expr) (tail:At→St→Option (γ×St)) (add:β→Option γ→β) (len:β→Nat) (r:β×St) (n i:Nat) (acc:β) (σ:St):Prop:=len acc+n≤AC∧Cr add (H4 L.X k L.sc pt ρ ifs tail) L.dic L.src n i acc σ=some r
theorem Kf {r:β×St} {acc:β} (hn:∀ acc,add acc none=acc) (hl:∀ acc v,len (add acc (some v))≤len acc+1) (h:Rs L k pt ρ ifs tail add len r n i acc σ) :
  Turn L k pt ρ ifs tail (fun acc v=>add acc (some v)) (Rs L k pt ρ ifs tail add len r) (fun acc σ=>r=(acc,σ)) n i acc σ:=by
 refine KG h.2 (fun a b=>.stop a b) fun m y q σ₂ hm h1 h2 h3=>?_
 have h0:=h.1
 subst hm
 refine AI h2 fun ρ' hb h2=>AB h2 fun b σ₁ hv h2=>?_
 induction b using Bool.casesOn with
 | false=>
  obtain ⟨e1,e2⟩:=pQ (oQ h2)
  subst e1 e2;rw [hn] at h3;exact .skip m y ρ' σ₁ h1 hb hv (Nat.lt_succ_self m) ⟨Nat.le_of_succ_le h0,h3⟩
 | true=>
  refine AB h2 fun v σ₃ ht h2=>?_
  obtain ⟨e1,e2⟩:=pQ (oQ h2)
  subst e1 e2;exact .take m y ρ' σ₁ σ₃ v h1 hb hv ht (Nat.lt_succ_self m) ⟨Nat.le_trans (Nat.add_le_add_right (hl acc v) m) (by rw [Nat.add_assoc,Nat.add_comm 1];exact h0),h3⟩
noncomputable def HdA (base:Heap) (D:Addr) (acc:List AV) (μ:A5) (h:Heap):Prop:=∃ us,h.PlainList D us∧VRs base h μ us.toList acc
noncomputable def HdD (p:Program) (w:World) (base:Heap) (D:Addr) (acc:List (Int×AV)) (μ:A5) (h:Heap):Prop:=∃ us,h.DictOf (intKind p w) D us∧PRI base h μ us acc
theorem HdA.col (base:Heap) (D:Addr) (acc:List AV):Col D (HdA base D acc):=fun μ ν h h' x kk kp=>by
 obtain ⟨us,⟨c,P⟩,V⟩:=x
 exact ⟨us,⟨c,kk _ P⟩,V.mono kp⟩
theorem HdD.col (p:Program) (w:World) (base:Heap) (D:Addr) (acc:List (Int×AV)):Col D (HdD p w base D acc):=fun μ ν h h' x kk kp=>by
 obtain ⟨us,P,V⟩:=x
 exact ⟨us,P.at kk,V.mono kp⟩
end
section
variable {X:Cx} {k:Nat} {sc sc':Scope} {env cenv:Env} {ρ ρ':At} {μ μ0 μ1:A5} {s:Shared} {σ σ' σ₀ σ₁:St} {A:Around} {x:AV} {h₀ h₁:Heap} {E:Value→Shared→Prop}
theorem Nv {L:LP} (F:LFix L) {ρ':At} {μ:A5} {h:Heap} {tk:Tok} {σ:St} {i:Nat} {acc:List AV} {u:Value} {v:AV} (J:LAt L ρ' μ h σ i) (x:HdA L.X.base L.D acc μ h) (ru:VR L.X.base h μ u v) (hl:acc.length < AC) {Q:Value→Shared→Prop}
  (q:∀ h' u,LAt L ρ' μ h' σ i→HdA L.X.base L.D (acc++[v]) μ h'→Q u (AS s h' tk)):wpAny (model L.X.p L.X.w) A (call (.builtin "list.append") [.ref L.D,u]) Q E (AS s h tk):=by
 obtain ⟨us,P,V⟩:=x
 refine wpAny_list_append_plain (s:=AS s h tk) P (fun h6 P₆ SB6=>?_) (by rw [←Array.length_toList,V.length];exact Nat.le_trans (Nat.le_of_lt hl) (Nat.le_trans (by decide:AC≤AX) AZ))
 obtain ⟨c,hc⟩:=P
 have nv:¬ Vl ({ cls:=.type "list",data:=.seq us c }:Obj):=fun v=>by rcases v with ⟨x,_⟩ | ⟨x,_⟩<;>(injection x with x;revert x;decide)
 have k6:∀ b o,b≠L.D→h.get? b=some o→h6.get? b=some o:=fun b o hb e=>SB6.extBut b o hb e
 obtain ⟨c',hc'⟩:=id P₆
 exact q h6 _ (J.put F hc nv hc' k6) ⟨us.push u,P₆,by rw [Array.toList_push];exact (V.append (.one ru)).keep (Co hc nv k6)⟩
theorem Nw {L:LP} (F:LFix L) {ρ':At} {μ:A5} {h:Heap} {tk:Tok} {σ:St} {i:Nat} {acc:List (Int×AV)} {kv u:Value} {n:Int} {v:AV} (J:LAt L ρ' μ h σ i) (x:HdD L.X.p L.X.w L.X.base L.D acc μ h) (rk:VR L.X.base h μ kv (.int n)) (ru:VR L.X.base h μ u v) (hl:acc.length≤AC) {Q:Unit→Shared→Prop}
  (q:∀ h' tk',LAt L ρ' μ h' σ i→HdD L.X.p L.X.w L.X.base L.D (Br n v acc) μ h'→Q () (AS s h' tk')):wpAny (model L.X.p L.X.w) A (dictSet L.D kv u) Q E (AS s h tk):=by
 obtain ⟨us,P,V⟩:=x
 have hs:us.length≤sizeLine:=by rw [V.length];exact Nat.le_trans hl (Nat.le_trans (by decide:AC≤AX) AZ)
 cases rk with
 | int _ kt=>
  refine wpAny_dictSet_pairs (s:=AS s h tk) (knd:=intKind L.X.p L.X.w) (hsz:=hs) (k:=n) (by simp [intKind,Value.isInt]) P fun h7 P₇ SB7=>?_
  have k7:∀ b o,b≠L.D→h.get? b=some o→h7.get? b=some o:=fun b o hb e=>SB7.extBut b o hb e
  obtain ⟨o,es,ep,ho,hex,hdt,_,_,hnd⟩:=P
  obtain ⟨o',_,_,ho',_⟩:=id P₇
  exact q h7 _ (J.put F ho (Bz hdt) ho' k7) ⟨_,P₇,(V.put hnd n ru).keep (Co ho (Bz hdt) k7)⟩
theorem NN {sc:Scope} {kx vx:Expr} {ρ':At} {r:(Int×AV)×St} {P:Prop} (h:Kn X k sc kx vx ρ' σ=some r)
  (q:∀ i σ₃ v σ₄,C6 X k (Aq sc kx) ρ' σ=some (.int i,σ₃)→C6 X k (Aq sc vx) ρ' σ₃=some (v,σ₄)→r=((i,v),σ₄)→P):P:=
 AB h fun x σ₃ h1 h=>by
  induction x using AV.casesOn with
  | int i=>exact AB h fun v σ₄ h2 h=>q i σ₃ v σ₄ h1 h2 (oQ h).symm
  | _=>exact Ae h
theorem NZ {L:LP} (F:LFix L) (O:Ok A k) {elt t iter:Expr} {ifs:List Expr} {scope:Scope} {pos:Pos} {pt:PT} {vs:List AV} {h:Heap} {tk:Tok} {R:Result→Shared→Prop}
  (helt:SoundE L.X k elt) (hifs:∀ e∈ifs,SoundE L.X k e) (hpt:Cz BX L.sc t=some pt) (hpu:L.dic=true→(AL (Aq L.sc elt)&&Bk (AD L.sc ifs))=true)
  (hR:∀ μ' h' tk us,AK L.X μ' h' σ'→Stp L.μ0 L.h₀ μ' h'→h'.PlainList L.D us→VRs L.X.base h' μ' us.toList vs→Off μ' L.D→EnvOk L.X.base h' μ' L.sc L.env (CZ pt ρ)→R (.ok .next) (AS s h' tk))
  (J:LAt L (CZ pt ρ) μ h σ 0) (hpl:h.PlainList L.D #[]) (e:Ch (H4 L.X k L.sc pt ρ ifs (MD L.X k L.sc elt)) L.dic L.src AC 0 [] σ=some (vs,σ')) :
  codeAny (model L.X.p L.X.w) A (.compLoop (.ListComp elt [⟨t,iter,ifs,0⟩] scope pos) 0 (.ref L.it) (.ref L.D) L.env) R (AS s h tk):=
 Ix (LSt L (CZ pt ρ) (HdA L.X.base L.D) (Rs L k pt ρ ifs (MD L.X k L.sc elt) JY List.length (vs,σ')) s) (fun n s' J=>Tf F O hifs hpt (fun hd=>AA (hpu hd)) (HdA.col L.X.base L.D) (fun n i acc σ h=>Kf (fun _=>rfl) (fun acc v=>Nat.le_of_eq List.length_append) h) J
   (fun acc μ h σ tk (e:(vs,σ')=(acc,σ)) I S G O x=>by obtain ⟨rfl,rfl⟩:=pQ e;exact x.elim fun us x=>hR μ h tk us I S x.1 x.2 O G)
   fun m i acc μ h tk ρ' σ₁ σ₂ r ht J x back hm hr=>helt.ev (s:=AS s h tk) J.G J.I O ht fun u μ5 h5 t5 I₅ S₅ ru k5=>
    Nv F (J.step I₅ S₅ fun hd=>k5 (Ay (hpu hd))) ((HdA.col L.X.base L.D acc).step x J S₅) ru (Nat.lt_of_lt_of_le (Nat.lt_succ_self _) (Nat.le_trans (Nat.le_add_right _ m) (by have:=hr.1;rwa [show JY acc (some r)=acc++[r] from rfl,List.length_append] at this)))
     fun h' u J' x'=>⟨m,hm,.mk μ5 h' σ₂ t5 i _ (J'.congr back) x' hr⟩) AC
  (.mk μ h σ tk 0 [] J ⟨#[],hpl,.nil⟩ ⟨Nat.le_of_eq (Nat.zero_add _),e⟩)
theorem N_ {L:LP} (F:LFix L) (O:Ok A k) {kx vx t iter:Expr} {ifs:List Expr} {scope:Scope} {pos:Pos} {pt:PT} {vs:List (Int×AV)} {h:Heap} {tk:Tok} {R:Result→Shared→Prop}
  (hkx:SoundE L.X k kx) (hvx:SoundE L.X k vx) (hifs:∀ e∈ifs,SoundE L.X k e) (hpt:Cz BX L.sc t=some pt) (hpu:L.dic=true→(AL (Aq L.sc kx)&&AL (Aq L.sc vx)&&Bk (AD L.sc ifs))=true)
  (hR:∀ μ' h' tk us,AK L.X μ' h' σ'→Stp L.μ0 L.h₀ μ' h'→h'.DictOf (intKind L.X.p L.X.w) L.D us→PRI L.X.base h' μ' us vs→Off μ' L.D→EnvOk L.X.base h' μ' L.sc L.env (CZ pt ρ)→R (.ok .next) (AS s h' tk))
  (J:LAt L (CZ pt ρ) μ h σ 0) (hpl:h.DictOf (intKind L.X.p L.X.w) L.D []) (e:Ja (H4 L.X k L.sc pt ρ ifs (Kn L.X k L.sc kx vx)) L.dic L.src AC 0 [] σ=some (vs,σ')) :
  codeAny (model L.X.p L.X.w) A (.compLoop (.DictComp kx vx [⟨t,iter,ifs,0⟩] scope pos) 0 (.ref L.it) (.ref L.D) L.env) R (AS s h tk):=
 Iy (LSt L (CZ pt ρ) (HdD L.X.p L.X.w L.X.base L.D) (Rs L k pt ρ ifs (Kn L.X k L.sc kx vx) Ow List.length (vs,σ')) s) (fun n s' J=>Tf F O hifs hpt (fun hd=>AA (hpu hd)) (HdD.col L.X.p L.X.w L.X.base L.D) (fun n i acc σ h=>Kf (fun _=>rfl) (fun acc v=>(Kh v.1 v.2 acc).1) h) J
   (fun acc μ h σ tk (e:(vs,σ')=(acc,σ)) I S G O x=>by obtain ⟨rfl,rfl⟩:=pQ e;exact x.elim fun us x=>hR μ h tk us I S x.1 x.2 O G)
   fun m i acc μ h tk ρ' σ₁ σ₂ r ht J x back hm hr=>NN ht fun a σ₃ v σ₄ h1 h2 e=>by
    obtain ⟨e1,e2⟩:=pQ e
    subst e1 e2
    refine hkx.ev (s:=AS s h tk) J.G J.I O h1 fun kv μ4 h4 t4 I₄ S₄ rk k4=>?_
    have J₄:=J.step I₄ S₄ fun hd=>k4 (Ay (Ay (hpu hd)))
    have x₄:=(HdD.col L.X.p L.X.w L.X.base L.D acc).step x J S₄
    exact hvx.ev (s:=AS s h4 t4) J₄.G I₄ O h2 fun u μ5 h5 t5 I₅ S₅ ru k5=>
     Nw F (J₄.step I₅ S₅ fun hd=>k5 (AA (Ay (hpu hd)))) ((HdD.col L.X.p L.X.w L.X.base L.D acc).step x₄ J₄ S₅) (rk.step I₄ S₅) ru (Nat.le_trans (Kh a v acc).2 (Nat.le_trans (Nat.le_add_right _ m) hr.1)) fun h' tk' J' x'=>⟨m,hm,.mk μ5 h' _ tk' i _ (J'.congr back) x' hr⟩) AC
  (.mk μ h σ tk 0 [] J ⟨[],hpl,.nil⟩ ⟨Nat.le_of_eq (Nat.zero_add _),e⟩)
end
end
section
section
variable {X:Cx} {k:Nat} {sc sc':Scope} {env:Env} {ρ ρ':At} {μ μ1:A5} {s:Shared} {σ σ' σ₁:St} {A:Around} {x:AV} {h₁:Heap} {t₁:Nat} {E:Value→Shared→Prop}
theorem GN {e:Expr} {env:Env} {x:Value}:P1 e=true→foldedSetIterable e env x=pure x:=by
 induction e using Expr.casesOn<;>first | exact fun _=>rfl | exact fun h=>absurd h bQ
theorem GM {β γ:Type} {add:β→Option γ→β} {body:AV→St→Option (Option γ×St)} {d:Bool} {src:AV} {n:Nat} {acc:β} {r:β×St} (h:Cr add body d src n 0 acc σ=some r):∃ q,Bg σ d src 0=some q:=
 KG h (fun h _=>⟨_,h⟩) fun _ _ _ _ _ h _ _=>⟨_,h⟩
theorem I_ (T:Top X) (O:Ok A k) {whole iter t:Expr} {ifs:List Expr} {pos':Pos} {mk:Sem Value} {o0:Obj} {pt:PT} {src:AV} {q:Option AV} {use:Option (Value→Sem Unit)} {Q:Value→Shared→Prop}
  (hw:clausesOf whole=[⟨t,iter,ifs,0⟩]) (hmk:∀ {s:Shared} {Q:Value→Shared→Prop},Q (.ref s.heap.objs.size) { s with heap:=s.heap.push o0 }→wpAny (model X.p X.w) A mk Q E s) (ho0:∀ h:Heap,(h.push o0).get? h.objs.size=some o0)
  (hstart:∀ {it acc:Value} {env:Env} {R:Result→Shared→Prop} {s:Shared},codeAny (model X.p X.w) A (.compLoop whole 0 it acc env) R s →
   wpAny (model X.p X.w) A (pyIter it) (fun it' s'=>codeAny (model X.p X.w) A (.compLoop whole 0 it' acc env) R s') (notedBy (model X.p X.w) A env fun x s'=>R (.error x) s') s→codeAny (model X.p X.w) A (.compStart whole 0 it acc env) R s)
  (hiter:SoundE X k iter) (hs:BS sc sc' pt=true) (G:EnvOk X.base s.heap μ sc env ρ) (I:AK X μ s.heap σ) (e1:C6 X k (Aq sc iter) ρ σ=some (src,σ₁)) (hq:Bg σ₁ (AH σ₁ src) src 0=some q)
  (go:∀ (L:LP) (μ1:A5) (h₃:Heap) (tk:Nat),LFix L→LAt L (CZ pt ρ) μ1 h₃ σ₁ 0→L.X=X→L.sc=sc'→L.μ0=μ→L.h₀=s.heap→L.dic=AH σ₁ src→L.src=src→(∃ h₂:Heap,L.D=h₂.objs.size∧∀ o,(h₂.push o0).get? h₂.objs.size=some o→h₃.get? h₂.objs.size=some o)→X.base.objs.size≤L.env.locals →
   codeAny (model X.p X.w) A (.compLoop whole 0 (.ref L.it) (.ref L.D) L.env) (compPost (model X.p X.w) A E use Q (.ref L.D) L.env.locals) (AS s h₃ tk)) :
  wpAny (model X.p X.w) A (comprehension whole sc' env pos' mk false (eval iter env) use) Q E s:=by
 obtain ⟨k1,k2,kk⟩:=Ea hs
 obtain ⟨cl,hcl,hcl1,hcl2⟩:=K7 (sc':=sc') (env:=env) fun n hn=>KH (kk n _ hn) fun hf=>(G.kcel n hf).2
 refine wpAny_comprehension_free (use:=use) hw (fun _=>GN (ET e1)) hcl k1 (fun y hy hl=>by obtain ⟨n,kd⟩:=y;obtain rfl:kd=.local:=hl;exact Jv k2 hy) ?_
 refine hiter.ev G I O e1 fun v μ1 h₁ t₁ I₁ S₁ rv _=>To (s:=AS s h₁ t₁) I₁ T.big rv hq fun h₂ t₂ kk₂ It=>hmk (wpAny_newFunctionEnv (fun y hy e=>by obtain ⟨n,kd⟩:=y;obtain rfl:kd=.cell:=e;exact absurd (kk n _ hy) bQ) (fun y hy=>absurd hy List.not_mem_nil) (fun h₃ hns₃ hsb₃=>?_) k1)
 have I₂:AK X μ1 h₂ σ₁:=I₁.grow kk₂
 have S₂:Stp μ s.heap μ1 h₂:=S₁.trans (Stp.grow kk₂ trivial)
 have hIlt:h₁.objs.size < h₂.objs.size:=It.obj.elim fun o h=>Heap.lt_size h.1
 have hC:(h₂.push o0).objs.size=h₂.objs.size+1:=Heap.size_push ..
 have hlt2:h₂.objs.size < (h₂.push o0).objs.size:=by rw [hC];exact Nat.lt_succ_self _
 have kD:∀ b o,(h₂.push o0).get? b=some o→h₃.get? b=some o:=fun b o e=>hsb₃.extBut b o (Nat.ne_of_lt (Heap.lt_size e)) (Heap.get?_push_of_some _ e)
 have k₃:CB h₂ h₃:=fun b o e=>kD b o (Aw _ _ b o e)
 have hb2:=T.base_le (s:=AS s h₂ t₁) I₂
 have hC0:s.heap.get? (h₂.push o0).objs.size=none:=S₂.fresh0 I₂ (Nat.le_of_lt hlt2)
 have S₃:Stp μ s.heap μ1 h₃:=S₂.trans (Stp.grow k₃ trivial)
 have F:LFix ⟨X,sc',{ (newEnv sc' (h₂.push o0).objs.size env.globals cl env.qual none .none (some env) builtinsNs) with scope:=relabel sc' env },μ,s.heap,h₁.objs.size,h₂.objs.size,AH σ₁ src,src⟩:=
  ⟨S₁.fresh0 I₁ (Nat.le_refl _),S₂.fresh0 I₂ (Nat.le_refl _),hC0,Nat.ne_of_gt hIlt,Nat.ne_of_lt hlt2,Nat.ne_of_lt (Nat.lt_trans hIlt hlt2),fun b hb hne=>hb.elim (fun hb=>absurd hb hne) fun ⟨y,hy⟩=>G.live b (.inr ⟨y,(hcl1 y b hy).1⟩),hb2,T.base_le (s:=AS s h₁ t₁) I₁⟩
 have hl:codeAny _ _ _ _ _:=go _ μ1 h₃ (t₂+([]:List (Str×Value)).length) F ⟨I₂.grow k₃,S₃,It.step I₂ (Stp.grow k₃ trivial) (fun _=>k₃),
  Qx hs (G.step I S₃) hcl1 hcl2 hns₃ (I₂.fresh (Nat.le_of_lt hlt2)) (Nat.le_trans hb2 (Nat.le_of_lt hlt2)) (fun b hb e=>(G.live b hb).elim fun o ho=>Ae (hC0.symm.trans (e▸ho))) rfl,I₂.fresh (Nat.le_refl _),⟨o0,kD _ _ (ho0 h₂)⟩⟩ rfl rfl rfl rfl rfl rfl ⟨h₂,rfl,kD _⟩ (Nat.le_trans hb2 (Nat.le_of_lt hlt2))
 exact hstart hl ((It.step I₂ (Stp.grow k₃ trivial) (fun _=>k₃)).self_ (s:=AS s h₃ (t₂+([]:List (Str×Value)).length)) hl)
noncomputable def Gc (X:Cx) (μ:A5) (s:Shared) (σ':St) (ao:AO) (A:Around) (E:Value→Shared→Prop) (use:Option (Value→Sem Unit)) (Q:Value→Shared→Prop):Prop:=
 ∀ D C μ' h' tk m,AK X μ' h' (σ'++[ao])→Stp μ s.heap μ' h'→VR X.base h' μ' (.ref D) (.loc σ'.length)→Off μ' C→s.heap.get? C=none→X.base.objs.size≤C→h'.Ns C m→compPost (model X.p X.w) A E use Q (.ref D) C (.ok .next) (AS s h' tk)
theorem KZ {L:LP} (F:LFix L) {use:Option (Value→Sem Unit)} {Q:Value→Shared→Prop} {ao:AO} {μ':A5} {h':Heap} {tk:Nat} (hb:L.X.base.objs.size≤L.env.locals) (hh:L.h₀=s.heap) (fin:Gc L.X L.μ0 s σ' ao A E use Q) (I':AK L.X μ' h' σ') (S':Stp L.μ0 L.h₀ μ' h') (O':Off μ' L.D) (G':EnvOk L.X.base h' μ' L.sc L.env ρ)
  (r:OR L.X.p L.X.w L.X.C L.X.base h' (μ'++[(L.D,L.D)]) (L.D,L.D) ao):compPost (model L.X.p L.X.w) A E use Q (.ref L.D) L.env.locals (.ok .next) (AS s h' tk):=
 G'.ns.elim fun m hm=>fin L.D L.env.locals (μ'++[(L.D,L.D)]) h' tk m (I'.adopt O' F.bD r) (hh▸S'.adopt F.D0) (.loc _ _ (Hu I')) (fun q hq=>(List.mem_append.mp hq).elim ((G'.off _ (.inl rfl)).1 q) fun hq=>List.mem_singleton.mp hq▸⟨Ne.symm F.DC,Ne.symm F.DC⟩) (hh▸F.C0) hb hm.1
theorem Qw (T:Top X) (O:Ok A k) {elt t iter:Expr} {ifs:List Expr} {pos pos':Pos} {pt:PT} {src:AV} {vs:List AV} {use:Option (Value→Sem Unit)} {Q:Value→Shared→Prop}
  (hiter:SoundE X k iter) (helt:SoundE X k elt) (hifs:∀ e∈ifs,SoundE X k e) (hpt:Cz BX sc' t=some pt) (hs:BS sc sc' pt=true)
  (G:EnvOk X.base s.heap μ sc env ρ) (I:AK X μ s.heap σ) (e1:C6 X k (Aq sc iter) ρ σ=some (src,σ₁)) (hpu:AH σ₁ src=true→(AL (Aq sc' elt)&&Bk (AD sc' ifs))=true)
  (e2:Ch (H4 X k sc' pt ρ ifs (MD X k sc' elt)) (AH σ₁ src) src AC 0 [] σ₁=some (vs,σ')) (fin:Gc X μ s σ' (.list vs) A E use Q) :
  wpAny (model X.p X.w) A (comprehension (.ListComp elt [⟨t,iter,ifs,0⟩] sc' pos) sc' env pos' (newList []) false (eval iter env) use) Q E s:=
 (GM e2).elim fun q hq=>I_ T O (o0:={ cls:=.type "list",dict:=none,data:=.seq ([]:List Value).toArray }) rfl (fun h=>wpAny_newObj_type h) (fun h=>Heap.get?_push_size _ rfl) codeAny_compStart_list hiter hs G I e1 hq fun L μ1 h₃ tk F J a1 a2 a3 a4 a5 a6 hD hb=>by
  subst a1 a2 a3 a6
  rw [←a5] at hpu e2
  exact NZ F O helt hifs hpt hpu (fun μ' h' tk us I' S' P V O' G'=>KZ F hb a4 fin I' S' O' G' (.list _ us.toList vs P V.more')) J (hD.elim fun h₂ h=>h.1▸⟨_,h.2 _ (Heap.get?_push_size _ rfl)⟩) e2
theorem Ni (T:Top X) (O:Ok A k) {kx vx t iter:Expr} {ifs:List Expr} {pos pos':Pos} {pt:PT} {src:AV} {vs:List (Int×AV)} {use:Option (Value→Sem Unit)} {Q:Value→Shared→Prop}
  (hiter:SoundE X k iter) (hkx:SoundE X k kx) (hvx:SoundE X k vx) (hifs:∀ e∈ifs,SoundE X k e) (hpt:Cz BX sc' t=some pt) (hs:BS sc sc' pt=true)
  (G:EnvOk X.base s.heap μ sc env ρ) (I:AK X μ s.heap σ) (e1:C6 X k (Aq sc iter) ρ σ=some (src,σ₁)) (hpu:AH σ₁ src=true→(AL (Aq sc' kx)&&AL (Aq sc' vx)&&Bk (AD sc' ifs))=true)
  (e2:Ja (H4 X k sc' pt ρ ifs (Kn X k sc' kx vx)) (AH σ₁ src) src AC 0 [] σ₁=some (vs,σ')) (fin:Gc X μ s σ' (.dI vs) A E use Q) :
  wpAny (model X.p X.w) A (comprehension (.DictComp kx vx [⟨t,iter,ifs,0⟩] sc' pos) sc' env pos' newDict false (eval iter env) use) Q E s:=
 (GM e2).elim fun q hq=>I_ T O (o0:={ cls:=.type "dict",data:=.dict #[] }) rfl (fun h=>wpAny_newObj_type h) (fun h=>Heap.get?_push_size _ rfl) codeAny_compStart_dict hiter hs G I e1 hq fun L μ1 h₃ tk F J a1 a2 a3 a4 a5 a6 hD hb=>by
  subst a1 a2 a3 a6
  rw [←a5] at hpu e2
  exact N_ F O hkx hvx hifs hpt hpu (fun μ' h' tk us I' S' P V O' G'=>KZ F hb a4 fin I' S' O' G' (.dI _ us vs P (V.mono (Kp.refl _)))) J (hD.elim fun h₂ h=>h.1▸(Heap.DictOf.new h₂).at h.2) e2
theorem Jd {t:Expr} {a:Int} {last:Bool} {it:PE} {ifs:List PE} {r:PT×PE×List PE} {P:Prop} (h:Nl sc sc' t a last it ifs=some r) (q:∀ pt,last=true→a=0→Cz BX sc' t=some pt→BS sc sc' pt=true→r=(pt,it,ifs)→P):P:=
 BF h fun h1 h=>AI h fun pt h2 h=>BF h fun h3 h=>q pt (Ay h1) (eq_of_beq (AA h1)) h2 h3 (oQ h).symm
theorem Pu {b:Bool} {src:AV} {α:Type} {x:Option α} {r:α} {P:Prop} (h:cond (Kw σ src b) none x=some r) (q:(AH σ src=true→b=true)→x=some r→P):P:=by
 unfold Kw at h
 generalize AH σ src=d at h q
 induction d using Bool.casesOn with
 | false=>exact q nofun h
 | true=>induction b using Bool.casesOn with
  | true=>exact q (fun _=>rfl) h
  | false=>exact Ae h
theorem N1 {e:PE} {o:Option (PT×PE×List PE)} {r:AV×St} {P:Prop} (h:C6 X k (JC e o) ρ σ=some r) (q:∀ pt it ifs,o=some (pt,it,ifs)→C6 X k (.lcomp e pt it ifs) ρ σ=some r→P):P:=by
 induction o using Option.casesOn with
 | none=>exact CN h
 | some o=>exact q o.1 o.2.1 o.2.2 rfl h
theorem Oa {e f:PE} {o:Option (PT×PE×List PE)} {r:AV×St} {P:Prop} (h:C6 X k (JO e f o) ρ σ=some r) (q:∀ pt it ifs,o=some (pt,it,ifs)→C6 X k (.dcomp e f pt it ifs) ρ σ=some r→P):P:=by
 induction o using Option.casesOn with
 | none=>exact CN h
 | some o=>exact q o.1 o.2.1 o.2.2 rfl h
theorem IR {elt t it:Expr} {ifs:List Expr} {a:Int} {rest:List Comprehension} {pos:Pos} {v:AV} (h:C6 X k (Aq sc (.ListComp elt (⟨t,it,ifs,a⟩::rest) sc' pos)) ρ σ=some (v,σ')) {P:Prop}
  (q:∀ pt src σ₁ vs σ₂,rest=[]→a=0→Cz BX sc' t=some pt→BS sc sc' pt=true→C6 X k (Aq sc it) ρ σ=some (src,σ₁)→(AH σ₁ src=true→(AL (Aq sc' elt)&&Bk (AD sc' ifs))=true) →
   Ch (H4 X k sc' pt ρ ifs (MD X k sc' elt)) (AH σ₁ src) src AC 0 [] σ₁=some (vs,σ₂)→v=.loc σ₂.length→σ'=σ₂++[.list vs]→P):P:=
 N1 (o:=Nj sc sc' (⟨t,it,ifs,a⟩::rest)) h fun pt it' ifs' hc h=>Jd hc fun pt' e1 e2 hpt hs e=>by
  have e5:=pQ e
  have e6:=pQ e5.2
  rw [e5.1,e6.1,e6.2] at h
  exact AB h fun src σ₁ h1 h=>Pu h fun hpu h=>AB h fun vs σ₂ h2 h=>Bf h fun e3 e4=>q _ src σ₁ vs σ₂ (List.isEmpty_iff.mp e1) e2 hpt hs h1 hpu h2 e3.symm e4.symm
theorem I8 {kx vx t it:Expr} {ifs:List Expr} {a:Int} {rest:List Comprehension} {pos:Pos} {v:AV} (h:C6 X k (Aq sc (.DictComp kx vx (⟨t,it,ifs,a⟩::rest) sc' pos)) ρ σ=some (v,σ')) {P:Prop}
  (q:∀ pt src σ₁ vs σ₂,rest=[]→a=0→Cz BX sc' t=some pt→BS sc sc' pt=true→C6 X k (Aq sc it) ρ σ=some (src,σ₁)→(AH σ₁ src=true→(AL (Aq sc' kx)&&AL (Aq sc' vx)&&Bk (AD sc' ifs))=true) →
   Ja (H4 X k sc' pt ρ ifs (Kn X k sc' kx vx)) (AH σ₁ src) src AC 0 [] σ₁=some (vs,σ₂)→v=.loc σ₂.length→σ'=σ₂++[.dI vs]→P):P:=
 Oa (o:=Nj sc sc' (⟨t,it,ifs,a⟩::rest)) h fun pt it' ifs' hc h=>Jd hc fun pt' e1 e2 hpt hs e=>by
  have e5:=pQ e
  have e6:=pQ e5.2
  rw [e5.1,e6.1,e6.2] at h
  exact AB h fun src σ₁ h1 h=>Pu h fun hpu h=>AB h fun vs σ₂ h2 h=>Bf h fun e3 e4=>q _ src σ₁ vs σ₂ (List.isEmpty_iff.mp e1) e2 hpt hs h1 hpu h2 e3.symm e4.symm
theorem PI {e:PE} {o:Option (PT×PE×List PE)}:¬ AL (JC e o)=true:=by
 induction o using Option.casesOn<;>exact bQ
theorem Qp {e f:PE} {o:Option (PT×PE×List PE)}:¬ AL (JO e f o)=true:=by
 induction o using Option.casesOn<;>exact bQ
theorem Of {C D:Addr} {μ':A5} {h' h'':Heap} {m:Str→Option Value} {o:AO} {Q:Prop} (I:AK X μ' h' (σ++[o])) (S:Stp μ s.heap μ' h') (V:VR X.base h' μ' (.ref D) x) (OC:Off μ' C) (hC:s.heap.get? C=none) (hb:X.base.objs.size≤C) (hns:h'.Ns C m) (SB:Heap.SameBut C h' h'')
  (q:AK X μ' h'' (σ++[o])→Stp μ s.heap μ' h''→VR X.base h'' μ' (.ref D) x→Q):Q:=by
 obtain ⟨o,es,ep,ho,hd,_⟩:=hns
 exact q (I.offW OC (A8 hb) SB.extBut fun o' e=>oQ (ho.symm.trans e)▸Bz hd) (S.after SB.extBut hC) (V.keep (Co ho (Bz hd) SB.extBut))
theorem KL {ao:AO} {pu:Prop} {Q:Value→Shared→Prop} (np:¬ pu) (R:ResX X pu μ s (.loc σ'.length) (σ'++[ao]) Q):Gc X μ s σ' ao A E none Q:=fun D C μ' h' tk m I' S' V' OC hC hb hns=>
 ⟨m,hns,fun h'' SB=>Of I' S' V' OC hC hb hns SB fun I2 S2 V2=>R (.ref D) μ' h'' tk I2 S2 V2 fun h=>(np h).elim⟩
theorem Hn (T:Top X) {elt t iter:Expr} {ifs:List Expr} {a:Int} (rest:List Comprehension) (sc':Scope) (pos:Pos) (hiter:SoundE X k iter) (helt:SoundE X k elt) (hifs:∀ e∈ifs,SoundE X k e) :
  SoundE X k (.ListComp elt (⟨t,iter,ifs,a⟩::rest) sc' pos):=
 .of_eval (fun _=>rfl) fun sc env ρ μ s σ A G I O r σ' E Q e R=>IR e fun pt src σ₁ vs σ₂ e1 e2 hpt hs h1 hpu h2 e3 e4=>by
  subst e1 e2 e3 e4
  rw [arm_eval_ListComp]
  exact Qw (use:=none) T O hiter helt hifs hpt hs G I h1 hpu h2 (KL PI R)
theorem Ho (T:Top X) {kx vx t iter:Expr} {ifs:List Expr} {a:Int} (rest:List Comprehension) (sc':Scope) (pos:Pos) (hiter:SoundE X k iter) (hkx:SoundE X k kx) (hvx:SoundE X k vx) (hifs:∀ e∈ifs,SoundE X k e) :
  SoundE X k (.DictComp kx vx (⟨t,iter,ifs,a⟩::rest) sc' pos):=
 .of_eval (fun _=>rfl) fun sc env ρ μ s σ A G I O r σ' E Q e R=>I8 e fun pt src σ₁ vs σ₂ e1 e2 hpt hs h1 hpu h2 e3 e4=>by
  subst e1 e2 e3 e4
  rw [arm_eval_DictComp]
  exact Ni (use:=none) T O hiter hkx hvx hifs hpt hs G I h1 hpu h2 (KL Qp R)
end
end
section
section
variable {X:Cx} {k:Nat}
theorem GF {e:Expr} (h:∀ {sc:Scope} {ρ:At} {σ σ':St} {v:AV},C6 X k (Aq sc e) ρ σ=some (v,σ')→False):SoundE X k e:=
 ⟨fun {_ _ _ _ _ _ _} _ _ _ {_ _ _ _} e' _=>(h e').elim,fun {_ _ _ _ _ _ _} _ _ _ {_ _ _ _} e' _=>Eh e' fun _ e' _=>(h e').elim⟩
theorem Dg {a b n:Nat} (e:a=b) (h:b < n):a < n:=e▸h
theorem Cw {a b n:Nat} (h:a+b < n):a < n:=Nat.lt_of_le_of_lt (Nat.le_add_right a b) h
theorem J3 {b n:Nat} (h:1+b < n+1):b < n:=Nat.lt_of_succ_lt_succ (Dg (Nat.add_comm b 1) h)
theorem Nx {a b n:Nat} (h:1+a+b < n+1):b < n:=J3 (Nat.lt_of_le_of_lt (Nat.add_le_add_right (Nat.le_add_right 1 a) b) h)
theorem J7 {a c b n:Nat} (h:1+a+c+b < n+1):b < n:=Nx (a:=a+c) (by rwa [←Nat.add_assoc])
theorem szR3 {a c d b n:Nat} (h:1+a+c+d+b < n+1):b < n:=J7 (a:=a) (c:=c+d) (by rwa [←Nat.add_assoc])
theorem Tg {t it a y ifs n:Nat} (h:1+(1+t+it+ifs+a)+y < n):it < n∧ifs < n:=
 have h:=Nat.lt_succ_of_lt (Cw (J3 (Nat.lt_succ_of_lt (Cw h))))
 ⟨Nx (Cw h),J7 h⟩
theorem Ri {x t it ifs a rest sc pos n:Nat} (h:1+x+(1+(1+t+it+ifs+a)+rest)+sc+pos < n+1):x < n∧it < n∧ifs < n:=
 have h:=Cw (Cw h)
 ⟨J3 (Cw h),Tg (Nx h)⟩
theorem OL {x y t it ifs a rest sc pos n:Nat} (h:1+x+y+(1+(1+t+it+ifs+a)+rest)+sc+pos < n+1):x < n∧y < n∧it < n∧ifs < n:=
 have h:=Cw (Cw h)
 ⟨J3 (Cw (Cw h)),Nx (Cw h),Tg (J7 h)⟩
section
variable {n:Nat} (ih:∀ e:Expr,sizeOf e < n→SoundE X k e)
include ih
theorem Ei {l:List Expr} (hl:sizeOf l < n) (a:Expr) (ha:a∈l):SoundE X k a:=ih a (Nat.lt_trans (List.sizeOf_lt_of_mem ha) hl)
theorem LA (T:Top X) (l:Expr) (ops:List CmpOp) (rs:List Expr) (pos:Pos) (h:1+sizeOf l+sizeOf ops+sizeOf rs+sizeOf pos < n+1):SoundE X k (.Compare l ops rs pos):=by
 have hl:=ih l (J3 (Cw (Cw (Cw h))))
 have hr:=Ei ih (J7 (Cw h))
 match ops,rs,hr with
 | [op],[r],hr=>exact Hr T op pos hl (hr r (.head _))
 | [op,op'],[r,r'],hr=>exact Hq T op op' pos hl (hr r (.head _)) (hr r' (.tail _ (.head _)))
 | [],_,_=>exact Be fun sc=>rfl
 | _::_::_::_,_,_=>exact Be fun sc=>rfl
 | [_],[],_=>exact Be fun sc=>rfl
 | [_],_::_::_,_=>exact Be fun sc=>rfl
 | [_,_],[],_=>exact Be fun sc=>rfl
 | [_,_],[_],_=>exact Be fun sc=>rfl
 | [_,_],_::_::_::_,_=>exact Be fun sc=>rfl
theorem Rj (T:Top X) (CO:BG X k) (f:Expr) (args:List Expr) (kws:List Keyword) (pos:Pos) (h:1+sizeOf f+sizeOf args+sizeOf kws+sizeOf pos < n+1):SoundE X k (.Call f args kws pos):=by
 have ha:=Ei ih (Nx (Cw (Cw h)))
 have hf:sizeOf f < n:=J3 (Cw (Cw (Cw h)))
 induction kws using List.casesOn with
 | cons kw kws=>exact Be fun sc=>rfl
 | nil=>
  have hv:=EL f
  generalize hw:Ef f=w at hv
  have no:(∀ sc cf,JR sc pos (AD sc args) cf f=.bad)→SoundE X k (.Call f args [] pos):=fun h=>GF fun {sc _ _ _ _} e=>Cs (b:=true&&Nat.ble args.length 20) e fun _ e=>CN (h sc _▸e)
  induction w using Vw.casesOn with
  | name id np=>subst hv;exact Hs T CO id np args pos ha
  | attr o name apos=>
   subst hv
   have hf:1+sizeOf o+sizeOf name+sizeOf apos < n:=hf
   exact Ht T CO o name apos args pos (ih o (J3 (Nat.lt_succ_of_lt (Cw (Cw hf))))) ha
  | _=>exact no fun sc cf=>by unfold JR;rw [hw]
end
theorem LI (T:Top X) (CO:BG X k):∀ (n:Nat) (e:Expr),sizeOf e < n→SoundE X k e:=by
 intro n
 induction n with
 | zero=>exact fun e h=>absurd h (Nat.not_lt_zero _)
 | succ n ih=>
  intro e
  induction e using Expr.casesOn with
  | BoolOp op l pos=>exact fun h=>Jn op l pos (Ei ih (Nx (Cw (Dg (Expr.BoolOp.sizeOf_spec op l pos).symm h))))
  | BinOp l op r pos=>intro h;have h:1+sizeOf l+sizeOf op+sizeOf r+sizeOf pos < n+1:=h;exact Kc T op pos (ih l (J3 (Cw (Cw (Cw h))))) (ih r (J7 (Cw h)))
  | UnaryOp op a pos=>exact fun h=>Io T op pos (ih a (Nx (Cw (show 1+sizeOf op+sizeOf a+sizeOf pos < n+1 from h))))
  | IfExp t a b pos=>intro h;have h:1+sizeOf t+sizeOf a+sizeOf b+sizeOf pos < n+1:=h;exact Ka pos (ih t (J3 (Cw (Cw (Cw h))))) (ih a (Nx (Cw (Cw h)))) (ih b (J7 (Cw h)))
  | Dict ks vs pos=>
   intro h
   have h:=Dg (Expr.Dict.sizeOf_spec ks vs pos).symm h
   exact LM T ks vs pos (fun e he=>ih e (J3 (Nat.lt_succ_of_lt (Nat.lt_trans (show 1+sizeOf e < sizeOf ks from List.sizeOf_lt_of_mem he) (J3 (Cw (Cw h))))))) (Ei ih (Nx (Cw h)))
  | List l pos=>exact fun h=>LL T l pos (Ei ih (J3 (Cw (Dg (Expr.List.sizeOf_spec l pos).symm h))))
  | Tuple l x pos=>exact fun h=>J_ l x pos (Ei ih (J3 (Cw (Cw (Dg (Expr.Tuple.sizeOf_spec l x pos).symm h)))))
  | Constant c kk pos=>exact fun _=>Hp c kk pos
  | Name id pos=>exact fun _=>LK T id pos
  | Attribute o name pos=>exact fun h=>GZ T o name pos (ih o (J3 (Cw (Cw (show 1+sizeOf o+sizeOf name+sizeOf pos < n+1 from h)))))
  | Subscript v i pos=>
   intro h
   have h:1+sizeOf v+sizeOf i+sizeOf pos < n+1:=h
   have hi:sizeOf i < n:=Nx (Cw h)
   refine GY T v i pos (ih v (J3 (Cw (Cw h)))) (ih i hi) fun lo hi' st p hp=>?_
   subst hp
   have hi:=Dg (Expr.Slice.sizeOf_spec lo hi' st p).symm hi
   refine ⟨fun e he=>ih e ?_,fun e he=>ih e ?_⟩
   ·subst he;exact J3 (Nat.lt_succ_of_lt (Dg (Option.some.sizeOf_spec e).symm (J3 (Nat.lt_succ_of_lt (Cw (Cw (Cw hi)))))))
   ·subst he;exact J3 (Nat.lt_succ_of_lt (Dg (Option.some.sizeOf_spec e).symm (Nx (a:=sizeOf lo) (Nat.lt_succ_of_lt (Cw (Cw hi))))))
  | Compare l ops rs pos=>exact fun h=>LA ih T l ops rs pos (Dg (Expr.Compare.sizeOf_spec l ops rs pos).symm h)
  | Call f args kws pos=>exact fun h=>Rj ih T CO f args kws pos (Dg (Expr.Call.sizeOf_spec f args kws pos).symm h)
  | ListComp elt gens sc' pos=>
   induction gens using List.casesOn with
   | nil=>exact fun _=>Be fun sc=>rfl
   | cons g rest=>
    obtain ⟨t,it,ifs,a⟩:=g
    intro h
    obtain ⟨h1,h2,h3⟩:=Ri (Dg (by rw [Expr.ListComp.sizeOf_spec,List.cons.sizeOf_spec,Comprehension.mk.sizeOf_spec]) h)
    exact Hn T rest sc' pos (ih it h2) (ih elt h1) (Ei ih h3)
  | DictComp kx vx gens sc' pos=>
   induction gens using List.casesOn with
   | nil=>exact fun _=>Be fun sc=>rfl
   | cons g rest=>
    obtain ⟨t,it,ifs,a⟩:=g
    intro h
    obtain ⟨h1,h2,h3,h4⟩:=OL (Dg (by rw [Expr.DictComp.sizeOf_spec,List.cons.sizeOf_spec,Comprehension.mk.sizeOf_spec]) h)
    exact Ho T rest sc' pos (ih it h3) (ih kx h1) (ih vx h2) (Ei ih h4)
  | Slice lo hi st p=>exact fun _=>GF fun e=>Cs e fun _ e=>OW e fun _ _ _ _ _ _ h _ _ _=>CN h
  | _=>exact fun _=>Be fun sc=>rfl
theorem AU (T:Top X) (CO:BG X k) (e:Expr):SoundE X k e:=LI T CO (sizeOf e+1) e (Nat.lt_succ_self _)
end
end
section
section
variable {p:Program} {w:World} {C:BQ} {base h h' h₀:Heap} {μ μ' μ0:A5} {σ:St} {X:Addr→Prop} {x:AV}
theorem StpX.after (S:StpX X μ0 h₀ μ h) {D:Addr} (k:∀ b o,b≠D→h.get? b=some o→h'.get? b=some o) (hD:h₀.get? D=none) (hX:¬ X D) (kp:Kp h h'):StpX X μ0 h₀ μ h':=by
 refine ⟨S.more,fun b o e off nx=>k b o (by rintro rfl;rw [hD] at e;cases e) (S.kept b o e off nx),fun b o hb e=>?_,fun b o e v=>kp b o (S.kp b o e v) v⟩
 obtain ⟨o',ho'⟩:=S.lives b o hb e
 exact ⟨o',k b o' (by rintro rfl;exact hX hb) ho'⟩
theorem StpX.thenS (S:StpX X μ0 h₀ μ h) (I:Inv p w C base μ h σ) (S':Stp μ h μ' h') (hX:∀ b,X b→Off μ b):StpX X μ0 h₀ μ' h':=S.trans (S'.toX I hX)
theorem ItAt.stepX {it:Addr} {i:Nat} (T:ItAt base h μ it false x i) (hoff:Off μ it) (S:StpX X μ h μ' h') (hit:¬ X it):ItAt base h' μ' it false x i:=by
 obtain ⟨o,h1,_⟩:=T.obj
 have hit':h'.get? it=h.get? it:=by rw [h1];exact S.kept it o h1 hoff hit
 have hm:∀ {n:Nat} {q:Addr×Addr},μ[n]?=some q→μ'[n]?=some q:=fun {n q} e=>by
  obtain ⟨ν,rfl,_⟩:=S.more
  rw [List.getElem?_append_left (List.getElem?_eq_some_iff.mp e).1];exact e
 cases T with
 | list a n i e h=>exact .list a n i (hm e) (by unfold Heap.IsListIter;rw [hit'];exact h)
 | tup a vs l i ta va h=>obtain ⟨o',ho',hc',hd'⟩:=ta;exact .tup a vs l i ⟨o',S.kp a o' ho' (.inl ⟨hc',_,hd'⟩),hc',hd'⟩ (va.stepX S) (by unfold Heap.IsTupleIter;rw [hit'];exact h)
 | range n i h=>exact .range n i (by unfold IsRangeIter at h ⊢;rw [hit'];exact h)
end
section
variable {prog:Program} {w:World} {A:Around} {s:Shared}
theorem P7 {R:Result→Shared→Prop} {target:Expr} {it:Value} {body orelse:List Stmt} {env:Env} (I:Nat→Shared→Prop)
  (turn:∀ n s,I n s→wpAny (model prog w) A (pyNext it) (fun r s₁=>match r with
   | none=>wpAny (model prog w) A (execs orelse env) (fun f s₃=>R (.ok f) s₃) (notedBy (model prog w) A env fun e s'=>R (.error e) s') s₁
   | some v=>wpAny (model prog w) A (letOwnedTupleGo target it v) (fun _ s₁=>wpAny (model prog w) A (assign target env v) (fun _ s₂=>wpAny (model prog w) A (execs body env) (fun f s₃=>match f with
     | .next | .cont=>∃ m,m < n∧I m s₃
     | .brk=>R (.ok .next) s₃
     | .ret v=>R (.ok (.ret v)) s₃) (notedBy (model prog w) A env fun e s'=>R (.error e) s') s₂) (notedBy (model prog w) A env fun e s'=>R (.error e) s') s₁) (notedBy (model prog w) A env fun e s'=>R (.error e) s') s₁) (notedBy (model prog w) A env fun e s'=>R (.error e) s') s)
  (n:Nat) (h:I n s):codeAny (model prog w) A (.forLoop target it body orelse env) R s:=by
 refine codeAny_loop' rfl I (fun n s hI=>?_) n h
 show wpAny _ _ ((forTurn target it body orelse env).onRaise (fun x=>do noteFrame x env;theTreesLotGoes x)) _ _ s
 refine wpAny_noted ?_
 simp only [forTurn]
 refine wpAny_bind (wpAny_standAt (wpAny_bind (wpAny_onRaise (wpAny_mono (turn n s hI) (fun r s₁ h₁=>?_) fun _ _ h'=>wpAny_standAt h'))))
 cases r with
 | none=>exact wpAny_pure (.inr ⟨rfl,codeAny_block h₁⟩)
 | some v=>
  refine wpAny_bind (wpAny_mono h₁ (fun _ s₁ h₁=>?_) fun _ _ h'=>h')
  refine wpAny_bind (wpAny_mono h₁ (fun _ s₂ h₂=>wpAny_bind (wpAny_mono h₂ (fun f s₃ h₃=>?_) fun _ _ h'=>h')) fun _ _ h'=>h')
  cases f with
  | next=>exact wpAny_pure (.inl ⟨rfl,h₃⟩)
  | cont=>exact wpAny_pure (.inl ⟨rfl,h₃⟩)
  | brk=>exact wpAny_pure h₃
  | ret v=>exact wpAny_pure h₃
end
theorem MS {body:At→St→Option (AF×At×St)} {t:PT} {src:AV} {n i:Nat} {ρ:At} {σ:St} {r:AF×At×St} {P:Prop} (h:Cc body t src n i ρ σ=some r) (k0:Bg σ false src i=some none→r=(.next,ρ,σ)→P)
  (k1:∀ m x ρ₁,n=m+1→Bg σ false src i=some (some x)→Bq σ t x ρ=some ρ₁→Ic (body ρ₁ σ) (fun ρ σ=>Cc body t src m (i+1) ρ σ)=some r→P):P:=by
 induction n using Nat.casesOn with
 | zero=>exact Ae h
 | succ n=>
  refine AI h fun q hq h=>?_
  induction q using Option.casesOn with
  | none=>exact k0 hq (oQ h).symm
  | some x=>exact AI h fun ρ₁ hb h=>k1 n x ρ₁ rfl hq hb h
theorem L1 {body:At→St→Option (AF×At×St)} {t:PT} {src:AV} {n:Nat} {ρ:At} {σ:St} {r:AF×At×St} (h:Cc body t src n 0 ρ σ=some r):∃ q,Bg σ false src 0=some q:=MS h (fun h _=>⟨_,h⟩) fun _ _ _ _ h _ _=>⟨_,h⟩
theorem NQ {σ:St} {src:AV} {i:Nat} {q:Option AV} (h:Bg σ false src i=some q):AH σ src=false:=by
 induction src using AV.casesOn with
 | loc a=>
  have h:(match σ[a]? with
   | some (.list l)=>if false then none else some l[i]?
   | some (.dI l)=>if false then some (l[i]?.map fun p=>AV.int p.1) else none
   | _=>none)=some q:=h
  show (match σ[a]? with
   | some (.dI _)=>true
   | _=>false)=false
  generalize σ[a]?=o at h ⊢
  induction o using Option.casesOn with
  | none=>rfl
  | some o=>induction o using AO.casesOn<;>first | rfl | exact Ae h
 | _=>rfl
inductive FlR (base h:Heap) (μ:A5):Flow→AF→Prop
 | next:FlR base h μ .next .next
 | ret (v:Value) (x:AV):VR base h μ v x→FlR base h μ (.ret v) (.ret x)
theorem FlR.n {base h:Heap} {μ:A5} {f:Flow} {a:AF} (r:FlR base h μ f a):(a=.next→f=.next)∧∀ x,a=.ret x→∃ v,f=.ret v∧VR base h μ v x:=by
 induction r using FlR.casesOn with
 | next=>exact ⟨fun _=>rfl,fun _ e=>AF.noConfusion e⟩
 | ret v x r=>exact ⟨fun e=>AF.noConfusion e,fun y e=>⟨v,rfl,AF.ret.inj e▸r⟩⟩
noncomputable def ResS (X:Cx) (μ:A5) (s:Shared) (sc:Scope) (env:Env) (fl:AF) (ρ':At) (σ':St) (Q:Flow→Shared→Prop):Prop:=
 ∀ f μ' h' t,AK X μ' h' σ'→StpX (CC env) μ s.heap μ' h'→EnvOk X.base h' μ' sc env ρ'→FlR X.base h' μ' f fl→Q f (AS s h' t)
noncomputable def BP (X:Cx) (k:Nat) (st:Stmt):Prop:=
 ∀ {sc:Scope} {env:Env} {ρ:At} {μ:A5} {s:Shared} {σ:St} {A:Around},EnvOk X.base s.heap μ sc env ρ→AK X μ s.heap σ→Ok A k →
  ∀ {fl:AF} {ρ':At} {σ':St} {E:Value→Shared→Prop} {Q:Flow→Shared→Prop},ex X.P.gtup (AT X.P k) (Qv sc st) ρ σ=some (fl,ρ',σ')→ResS X μ s sc env fl ρ' σ' Q→wpAny (model X.p X.w) A (exec st env) Q E s
section
variable {X:Cx} {k:Nat} {sc:Scope} {env:Env} {ρ ρ':At} {μ μ1:A5} {s:Shared} {σ σ' σ₁:St} {A:Around} {x:AV} {h₁:Heap} {t₁:Nat} {fl:AF} {Q:Flow→Shared→Prop}
theorem ResS.next (R:ResS X μ s sc env fl ρ' σ' Q) (S:StpX (CC env) μ s.heap μ1 h₁):ResS X μ1 (AS s h₁ t₁) sc env fl ρ' σ' Q:=
 fun f μ' h' t I' S' G' r=>R f μ' h' t I' (S.trans S') G' r
theorem EnvOk.ownOff {base h:Heap} (G:EnvOk base h μ sc env ρ):∀ b,CC env b→Off μ b:=fun b hb=>(G.off b hb).1
theorem ResS.done (R:ResS X μ s sc env fl ρ' σ' Q) {σ₁:St} {ρ₁:At} {fl₁:AF} (e:(fl₁,ρ₁,σ₁)=(fl,ρ',σ')):ResS X μ s sc env fl₁ ρ₁ σ₁ Q:=by
 obtain ⟨e1,e⟩:=pQ e
 obtain ⟨e2,e3⟩:=pQ e
 rw [e1,e2,e3];exact R
theorem HU (l:List Stmt):(∀ st∈l,BP X k st)→∀ {sc:Scope} {env:Env} {ρ:At} {μ:A5} {s:Shared} {σ:St} {A:Around},EnvOk X.base s.heap μ sc env ρ→AK X μ s.heap σ→Ok A k →
  ∀ {fl ρ' σ'} {E:Value→Shared→Prop} {Q:Flow→Shared→Prop},DD X.P.gtup (AT X.P k) (Dz sc l) ρ σ=some (fl,ρ',σ')→ResS X μ s sc env fl ρ' σ' Q→wpAny (model X.p X.w) A (execs l env) Q E s:=by
 induction l with
 | nil=>exact fun _ {_ _ _ _ s _ _} G I O {_ _ _ _ _} e R=>wpAny_execs_nil (R.done (oQ e) .next _ s.heap s.toks I (StpX.refl _ _ _) G .next)
 | cons st l ih=>
  intro hs sc env ρ μ s σ A G I O fl ρ' σ' E Q e R
  refine Q6 e (fun ρ₁ σ₁ h1 e=>wpAny_execs_cons (hs st (.head _) G I O h1 fun f μ1 h₁ t₁ I₁ S₁ G₁ r=>?_)) fun v ρ₁ σ₁ h1 e=>wpAny_execs_cons (hs st (.head _) G I O h1 fun f μ1 h₁ t₁ I₁ S₁ G₁ r=>?_)
  ·obtain rfl:=r.n.1 rfl
   exact ih (fun st he=>hs st (.tail _ he)) (s:=AS s h₁ t₁) G₁ I₁ O e (R.next S₁)
  ·obtain ⟨u,rfl,ru⟩:=r.n.2 v rfl
   exact R.done e.symm _ μ1 h₁ t₁ I₁ S₁ G₁ (.ret u v ru)
theorem LJ (pos:Pos):BP X k (.Pass pos):=fun {_ _ _ _ s _ _} G I O {_ _ _ _ _} e R=>wpAny_Pass (R.done (oQ e) .next _ s.heap s.toks I (StpX.refl _ _ _) G .next)
theorem LC {e:Expr} {t:Option Expr} {line:Nat}:Ez e=false→swapsWith e t line env=pure false:=by
 induction e using Expr.casesOn<;>first | exact fun _=>rfl | exact fun h=>absurd h.symm bQ
theorem G0 (G:EnvOk X.base s.heap μ sc env ρ):interactive env=false:=by
 unfold interactive;rw [G.kind];rfl
theorem Kb {e:Expr} (pos:Pos) (he:SoundE X k e):BP X k (.Expr e pos):=by
 intro sc env ρ μ s σ A G I O fl ρ' σ' E Q e1 R
 have e1:ex X.P.gtup (AT X.P k) (cond (Ez e) .bad (.expr (Aq sc e))) ρ σ=some (fl,ρ',σ'):=e1
 generalize hc:Ez e=b at e1
 induction b using Bool.casesOn with
 | true=>exact EF e1
 | false=>exact AB e1 fun v σ₁ h1 e=>wpAny_Expr_any (he.ev G I O h1 fun u μ1 h₁ t₁ I₁ S₁ r _=>R.done (oQ e) .next μ1 h₁ t₁ I₁ (S₁.toX I G.ownOff) (G.step I S₁) .next) (G0 G) (LC hc)
theorem Jm (v:Option Expr) (pos:Pos) (hv:∀ e,v=some e→SoundE X k e):BP X k (.Return v pos):=by
 intro sc env ρ μ s σ A G I O fl ρ' σ' E Q e0 R
 refine AB e0 fun x σ₁ h1 e=>?_
 induction v using Option.casesOn with
 | none=>exact Bf h1 fun e1 e2=>wpAny_Return_none (R.done (oQ e) _ μ s.heap s.toks (e2▸I) (StpX.refl _ _ _) G (.ret _ _ (e1▸.none)))
 | some a=>exact wpAny_Return_some ((hv a rfl).ev G I O h1 fun u μ1 h₁ t₁ I₁ S₁ r _=>R.done (oQ e) _ μ1 h₁ t₁ I₁ (S₁.toX I G.ownOff) (G.step I S₁) (.ret _ _ r))
theorem OU {t:Expr} {b o:List Stmt} (pos:Pos) (ht:SoundE X k t) (hb:∀ st∈b,BP X k st) (ho:∀ st∈o,BP X k st):BP X k (.If t b o pos):=by
 intro sc env ρ μ s σ A G I O fl ρ' σ' E Q e R
 refine AB e fun tb σ₁ h1 e=>wpAny_If (ht.ts G I O h1 fun bb μ1 h₁ t₁ I₁ S₁ eb _=>?_)
 subst eb
 induction bb using Bool.casesOn with
 | true=>exact HU b hb (s:=AS s h₁ t₁) (G.step I S₁) I₁ O e (R.next (S₁.toX I G.ownOff))
 | false=>exact HU o ho (s:=AS s h₁ t₁) (G.step I S₁) I₁ O e (R.next (S₁.toX I G.ownOff))
inductive SSt (X:Cx) (sc:Scope) (env:Env) (μ:A5) (s:Shared) (T:A5→Heap→Nat→Prop) (run:Nat→Nat→At→St→Prop) (n:Nat):Shared→Prop
 | mk (μ':A5) (h':Heap) (σ₁:St) (tk i:Nat) (ρ₁:At):AK X μ' h' σ₁→StpX (CC env) μ s.heap μ' h'→T μ' h' i→EnvOk X.base h' μ' sc env ρ₁→run n i ρ₁ σ₁→SSt X sc env μ s T run n (AS s h' tk)
theorem TC {b:List Stmt} (hb:∀ st∈b,BP X k st) (O:Ok A k) {E:Value→Shared→Prop} {next:At→St→Option (AF×At×St)} {μ':A5} {h':Heap} {tk:Nat} {ρ₁:At} {Y:Flow→Shared→Prop} (R:ResS X μ s sc env fl ρ' σ' Q)
  (G:EnvOk X.base h' μ' sc env ρ₁) (I:AK X μ' h' σ₁) (S:StpX (CC env) μ s.heap μ' h') (e:Ic (DD X.P.gtup (AT X.P k) (Dz sc b) ρ₁ σ₁) next=some (fl,ρ',σ')) (q1:∀ v s',Q (.ret v) s'→Y (.ret v) s')
  (q2:∀ ρ₂ σ₂ μ2 h₂ t₂,AK X μ2 h₂ σ₂→StpX (CC env) μ' h' μ2 h₂→EnvOk X.base h₂ μ2 sc env ρ₂→next ρ₂ σ₂=some (fl,ρ',σ')→Y .next (AS s h₂ t₂)):wpAny (model X.p X.w) A (execs b env) Y E (AS s h' tk):=
 Q6 e (fun ρ₂ σ₂ h1 e=>HU b hb (s:=AS s h' tk) G I O h1 fun f μ3 h₃ t₃ I₃ S₃ G₃ r=>r.n.1 rfl▸q2 ρ₂ σ₂ μ3 h₃ t₃ I₃ S₃ G₃ e)
  fun v ρ₂ σ₂ h1 e=>HU b hb (s:=AS s h' tk) G I O h1 fun f μ3 h₃ t₃ I₃ S₃ G₃ r=>(r.n.2 v rfl).elim fun u hu=>hu.1▸q1 u _ (R.done e.symm _ μ3 h₃ t₃ I₃ (S.trans S₃) G₃ (.ret u v hu.2))
theorem RJ {test:At→St→Option (Bool×St)} {body:At→St→Option (AF×At×St)} {n:Nat} {ρ:At} {σ:St} {r:AF×At×St} {P:Prop} (h:HG test body n ρ σ=some r)
  (k:∀ m b σ₁,n=m+1→test ρ σ=some (b,σ₁)→cond b (Ic (body ρ σ₁) fun ρ σ=>HG test body m ρ σ) (some (.next,ρ,σ₁))=some r→P):P:=by
 induction n using Nat.casesOn with
 | zero=>exact Ae h
 | succ n=>exact AB h fun b σ₁ h1 h=>k n b σ₁ rfl h1 h
theorem Ng {b:Bool} {x:PS} {r:AF×At×St} {P:Prop} (h:ex X.P.gtup (AT X.P k) (cond b x .bad) ρ σ=some r) (q:b=true→ex X.P.gtup (AT X.P k) x ρ σ=some r→P):P:=by
 induction b using Bool.casesOn with
 | true=>exact q rfl h
 | false=>exact EF h
theorem J9 {t:Expr} {b o:List Stmt} (pos:Pos) (ht:SoundE X k t) (hb:∀ st∈b,BP X k st):BP X k (.While t b o pos):=by
 intro sc env ρ μ s σ A G I O fl ρ' σ' E Q e0 R
 refine Ng e0 fun ho e1=>?_
 obtain rfl:=List.isEmpty_iff.mp ho
 refine wpAny_While (codeAny_whileLoop (SSt X sc env μ s (fun _ _ _=>True) fun n _ ρ σ=>HG (OK X k (Aq sc t)) (DD X.P.gtup (AT X.P k) (Dz sc b)) n ρ σ=some (fl,ρ',σ')) (fun n s' J=>?_) AC (.mk μ s.heap σ s.toks 0 ρ I (StpX.refl _ _ _) trivial G e1))
 induction J using SSt.casesOn with
 | mk μ' h' σ₁ tk i ρ₁ I₁ S₁ _ G₁ e=>
  refine RJ e fun m tb σ₂ hm h1 e=>ht.ts (s:=AS s h' tk) G₁ I₁ O h1 fun bb μ2 h₂ t₂ I₂ S₂ eb _=>?_
  have SX:=S₁.thenS I₁ S₂ G₁.ownOff
  have G₂:=G₁.step I₁ S₂
  subst eb
  induction bb using Bool.casesOn with
  | true=>exact TC (s:=s) hb O R G₂ I₂ SX e (fun v s' h=>h) fun ρ₃ σ₃ μ3 h₃ t₃ I₃ S₃ G₃ e=>⟨m,hm▸Nat.lt_succ_self m,.mk μ3 h₃ σ₃ t₃ 0 ρ₃ I₃ (SX.trans S₃) trivial G₃ e⟩
  | false=>exact wpAny_execs_nil (R.done (oQ e) .next μ2 h₂ t₂ I₂ SX G₂ .next)
theorem Sa {it:PE} {b:List PS} {o:Option PT} {r:AF×At×St} {P:Prop} (h:ex X.P.gtup (AT X.P k) (Tt it b o) ρ σ=some r) (q:∀ pt src σ₁,o=some pt→C6 X k it ρ σ=some (src,σ₁)→Cc (DD X.P.gtup (AT X.P k) b) pt src AC 0 ρ σ₁=some r→P):P:=by
 induction o using Option.casesOn with
 | none=>exact EF h
 | some pt=>exact AB h fun src σ₁ h1 h=>q pt src σ₁ rfl h1 h
theorem KB {it:Addr} {i:Nat} {h₀ h' h4:Heap} {μ':A5} {ρ₁:At} (T:ItAt X.base h' μ' it false x i) (I:AK X μ' h' σ) (hb:X.base.objs.size≤it) (h0:h₀.get? it=none) (own:¬ CC env it) (S:StpX (CC env) μ h₀ μ' h') (G:EnvOk X.base h' μ' sc env ρ₁)
  (kk:∀ b o,b≠it→h'.get? b=some o→h4.get? b=some o) {P:Prop} (q:AK X μ' h4 σ→StpX (CC env) μ h₀ μ' h4→EnvOk X.base h4 μ' sc env ρ₁→P):P:=
 T.obj.elim fun o h=>
  have nv:¬ Vl o:=fun v=>v.elim (fun v=>h.2.2.2.2.1 v.1) fun v=>h.2.2.2.2.2 v.1
  have kp:=Co h.1 nv kk
  q (I.offW (T.off I) (A8 hb) kk fun o' e=>oQ (h.1.symm.trans e)▸nv) (S.after kk h0 own kp) (G.but kk own kp)
theorem NE (T:Top X) {t it:Expr} {b o:List Stmt} (pos:Pos) (hi:SoundE X k it) (hb:∀ st∈b,BP X k st):BP X k (.For t it b o pos):=by
 intro sc env ρ μ s σ A G I O fl ρ' σ' E Q e0 R
 refine Ng e0 fun ho e1=>Sa e1 fun pt src σ₁ hpt h1 e2=>?_
 obtain rfl:=List.isEmpty_iff.mp ho
 refine wpAny_For (hi.ev G I O h1 fun v μ1 h₁ t₁ I₁ S₁ rv _=>?_) (fun _=>GN (ET h1))
 obtain ⟨q,hq⟩:=L1 e2
 have hdic:=NQ hq
 refine To (s:=AS s h₁ t₁) I₁ T.big rv (by rw [hdic];exact hq) fun h₂ t₂ kk It=>?_
 rw [hdic] at It
 have S₂:Stp μ s.heap μ1 h₂:=S₁.trans (Stp.grow kk trivial)
 have hI0:s.heap.get? h₁.objs.size=none:=S₁.fresh0 I₁ (Nat.le_refl _)
 have hown:¬ CC env h₁.objs.size:=fun ho=>(G.live _ ho).elim fun o h=>Ae (hI0.symm.trans h)
 have hIb:=T.base_le (s:=AS s h₁ t₁) I₁
 refine P7 (SSt X sc env μ s (fun μ' h' i=>ItAt X.base h' μ' h₁.objs.size false src i) fun n i ρ σ=>Cc (DD X.P.gtup (AT X.P k) (Dz sc b)) pt src n i ρ σ=some (fl,ρ',σ')) (fun n s' J=>?_) AC (.mk μ1 h₂ σ₁ t₂ 0 ρ (I₁.grow kk) (S₂.toX I G.ownOff) It (G.step I S₂) e2)
 induction J using SSt.casesOn with
 | mk μ' h' σ₂ tk i ρ₁ I₃ S₃ T₃ G₃ e=>
  refine MS e (fun hn e=>Ks (s:=AS s h' tk) I₃ O.1 T₃ hn (fun hr h4 EB=>?_) fun y hr=>Ae hr) fun m x ρ₂ hm hn hbt e=>Ks (s:=AS s h' tk) I₃ O.1 T₃ hn (fun hr=>Ae hr.symm) fun y hr v h4 t4 rv SB T₄=>?_
  ·exact KB T₃ I₃ hIb hI0 hown S₃ G₃ EB fun I₄ S₄ G₄=>wpAny_execs_nil (R.done e.symm .next μ' h4 tk I₄ S₄ G₄ .next)
  ·obtain rfl:=oQ hr
   refine KB T₃ I₃ hIb hI0 hown S₃ G₃ SB.extBut fun I₄ S₄ G₄=>IP (s:=AS s h4 t4) hpt T₄ (H9 (s:=AS s h4 t4) O.1 hpt hbt G₄ I₄ rv fun h5 t5 I₅ S₅ G₅ _=>?_)
   have T₅:=T₄.stepX (T₃.off I₃) S₅ hown
   exact TC (s:=s) hb O R G₅ I₅ (S₄.trans S₅) e (fun v s' h=>h) fun ρ₃ σ₃ μ6 h6 t6 I₆ S₆ G₆ e=>⟨m,hm▸Nat.lt_succ_self m,.mk μ6 h6 σ₃ t6 (i+1) ρ₃ I₆ ((S₄.trans S₅).trans S₆) (T₅.stepX (T₃.off I₃) S₆ hown) G₆ e⟩
end
end
section
theorem JM:∀ (n:Nat) (l:List Str),l.length≤n→l.eraseDups.length≤l.length:=by
 intro n
 induction n with
 | zero=>intro l h;rw [List.length_eq_zero_iff.mp (Nat.le_zero.mp h)];exact Nat.le_refl _
 | succ n ih=>
  intro l h
  induction l using List.casesOn with
  | nil=>exact Nat.le_refl _
  | cons a l=>
   rw [List.eraseDups_cons]
   have h1:=List.length_filter_le (fun b=>!b==a) l
   exact Nat.succ_le_succ (Nat.le_trans (ih _ (Nat.le_trans h1 (Nat.le_of_succ_le_succ h))) h1)
theorem Fm {l:List Str}:l.eraseDups.length=l.length→l.Nodup:=by
 induction l with
 | nil=>exact fun _=>List.nodup_nil
 | cons a l ih=>
  intro h
  rw [List.eraseDups_cons] at h
  have h:=Nat.succ.inj h
  have h1:=List.length_filter_le (fun b=>!b==a) l
  have h2:=JM _ (l.filter fun b=>!b==a) (Nat.le_refl _)
  have h4:l.filter (fun b=>!b==a)=l:=List.filter_eq_self.mpr (List.length_filter_eq_length_iff.mp (Nat.le_antisymm h1 (h▸h2)))
  rw [h4] at h
  refine List.nodup_cons.mpr ⟨fun hm=>?_,ih h⟩
  have:=List.filter_eq_self.mp h4 a hm
  rw [beq_self_eq_true] at this
  exact bQ this
theorem Kr {α:Type} {a:α} {l:List α} {P:Prop} (h:[]=a::l):P:=nomatch h
theorem HY {α:Type} {a:α} {l:List α} {P:Prop} (h:a::l=[]):P:=nomatch h
section
variable {ρ ρ':At}
theorem O6 {x y:Nat} (h:x≠y) (v w:AV) (n:Nat):look n (put x v (put y w ρ))=look n (put y w (put x v ρ)):=by
 rw [look_put,look_put,look_put (put x v ρ),look_put ρ]
 by_cases h1:n=x
 ·rw [if_pos h1,if_neg fun h2=>h (h1.symm.trans h2),if_pos h1]
 ·rw [if_neg h1,if_neg h1]
theorem Oq {x:Nat} {v:AV} {ys:List Nat}:∀ {ws:List AV} {ρ ρ1:At},x∉ys→Ci ys ws (put x v ρ)=some ρ1→∃ ρ0,Ci ys ws ρ=some ρ0∧∀ n,look n ρ1=look n (put x v ρ0):=by
 induction ys with
 | nil=>exact fun _ h=>Ds h fun e1 e2=>by subst e1 e2;exact ⟨_,rfl,fun _=>rfl⟩
 | cons y ys ih=>
  intro ws ρ ρ1 hn h
  refine Dr h fun w ws' e h=>?_
  subst e
  obtain ⟨ρ2,h2,h3⟩:=GX (ρ0:=put x v (put y w ρ)) (fun n _=>O6 (fun e:y=x=>hn (e▸.head _)) w v n) h
  obtain ⟨ρ0,h4,h5⟩:=ih (fun hm=>hn (.tail _ hm)) h2
  exact ⟨ρ0,h4,fun n=>(h3 n).trans (h5 n)⟩
theorem Ms {x:Nat} {v:AV} {ys:List Nat}:∀ {ws:List AV} {ρ ρ0:At},Ci ys ws ρ=some ρ0→Ci (ys++[x]) (ws++[v]) ρ=some (put x v ρ0):=by
 induction ys with
 | nil=>exact fun h=>Ds h fun e1 e2=>by subst e1 e2;rfl
 | cons y ys ih=>exact fun h=>Dr h fun w ws e h=>by subst e;exact ih h
theorem Px (h:∀ n,look n ρ=look n ρ') (x:Nat) (v:AV) (n:Nat):look n (put x v ρ)=look n (put x v ρ'):=by rw [look_put,look_put,h]
theorem Op {xs:List Nat}:∀ {l:List AV} {ρ ρ':At},xs.Nodup→Ci xs l ρ=some ρ'→∃ ρ'',Ci xs.reverse l.reverse ρ=some ρ''∧∀ n,look n ρ''=look n ρ':=by
 induction xs with
 | nil=>exact fun _ h=>Ds h fun e1 e2=>by subst e1 e2;exact ⟨_,rfl,fun _=>rfl⟩
 | cons x xs ih=>
  intro l ρ ρ' hn h
  refine Dr h fun v vs e h=>?_
  subst e
  obtain ⟨hx,hn⟩:=List.nodup_cons.mp hn
  obtain ⟨ρ1,h1,h2⟩:=ih hn h
  obtain ⟨ρ0,h3,h4⟩:=Oq (fun hm=>hx (List.mem_reverse.mp hm)) h1
  rw [List.reverse_cons,List.reverse_cons]
  exact ⟨_,Ms h3,fun n=>(h4 n).symm.trans (h2 n)⟩
end
theorem K6 {names:List Str}:∀ {ns:List Nat},names.map code=ns.map some→names.Nodup→ns.Nodup:=by
 induction names with
 | nil=>
  intro ns h _
  induction ns using List.casesOn with
  | nil=>exact List.nodup_nil
  | cons _ _=>exact Kr h
 | cons a names ih=>
  intro ns h hnd
  induction ns using List.casesOn with
  | nil=>exact HY h
  | cons n ns=>
   obtain ⟨e,h⟩:=List.cons.inj h
   obtain ⟨h1,h2⟩:=List.nodup_cons.mp hnd
   refine List.nodup_cons.mpr ⟨fun hm=>h1 ?_,ih h h2⟩
   obtain ⟨b,hb,hbn⟩:=List.mem_map.mp (h▸List.mem_map.mpr ⟨n,hm,rfl⟩:some n∈names.map code)
   exact Bo e hbn▸hb
theorem Po {ok:Option NameKind→Bool} {sc:Scope} {f:Expr→Option Str} (hf:∀ id pos r,f (.Name id pos)=some r→r=id) {ts:List Expr}:∀ {ns:List Nat},Cl ok sc ts=some ns→(ts.filterMap f).length=ts.length →
  (ts.filterMap f).map code=ns.map some∧∀ id∈ts.filterMap f,ok (sc.names.lookup id)=true:=by
 induction ts with
 | nil=>exact fun h _=>OV (Q:=fun ns:List Nat=>[]=ns.map some∧_) h ⟨rfl,fun _ h=>absurd h List.not_mem_nil⟩
 | cons e ts ih=>
  intro ns h hl
  refine Ep h fun id pos n l e1 h1 h2 h3 e2=>?_
  subst e1 e2
  rw [List.filterMap_cons] at hl ⊢
  generalize hr:f (.Name id pos)=r at hl ⊢
  induction r using Option.casesOn with
  | none=>exact absurd hl (Nat.ne_of_lt (Nat.lt_succ_of_le (List.length_filterMap_le f ts)))
  | some r=>
   obtain rfl:=hf _ _ _ hr
   obtain ⟨a,b⟩:=ih h3 (Nat.succ.inj hl)
   exact ⟨congr (congrArg List.cons h2) a,fun i hi=>(List.mem_cons.mp hi).elim (fun e=>e▸h1) (b i)⟩
section
variable {base h:Heap} {μ:A5}
theorem VRs.reverse {vs:List Value}:∀ {l:List AV},VRs base h μ vs l→VRs base h μ vs.reverse l.reverse:=by
 induction vs with
 | nil=>intro l r;obtain rfl:=r.v;exact .nil
 | cons v vs ih=>intro l r;obtain ⟨x,l',rfl,e,r⟩:=r.v;rw [List.reverse_cons,List.reverse_cons];exact (ih r).append (.one e)
end
section
variable {X:Cx} {k:Nat} {sc:Scope} {env:Env} {ρ ρ':At} {μ μ1:A5} {s:Shared} {σ σ' σ₁:St} {A:Around} {x:AV} {h₁:Heap} {t₁:Nat} {fl:AF} {E:Value→Shared→Prop}
theorem Mw (ids:List Str):∀ {ns:List Nat} {us:List Value} {l:List AV} {ρ ρ':At} {s:Shared} {Q:Unit→Shared→Prop},ids.map code=ns.map some→(∀ id∈ids,Bv (sc.names.lookup id)=true)→Ci ns l ρ=some ρ'→EnvOk X.base s.heap μ sc env ρ→AK X μ s.heap σ→VRs X.base s.heap μ us l →
  (∀ h' t,AK X μ h' σ→StpX (CC env) μ s.heap μ h'→EnvOk X.base h' μ sc env ρ'→Q () (AS s h' t)) →
  wpAny (model X.p X.w) A (assignInOrder (ids.map fun n=>bindName env n) us) Q E s:=by
 induction ids with
 | nil=>
  intro ns us l ρ ρ' s Q hn hv hb G I rs q
  obtain rfl:ns=[]:=List.map_eq_nil_iff.mp hn.symm
  refine Ds hb fun e1 e2=>?_
  subst e1 e2
  induction us using List.casesOn with
  | nil=>exact wpAny_pure (q s.heap s.toks I (StpX.refl _ _ _) G)
  | cons v us=>obtain ⟨_,_,e,_⟩:=rs.v;exact Kr e
 | cons id ids ih=>
  intro ns us l ρ ρ' s Q hn hv hb G I rs q
  induction ns using List.casesOn with
  | nil=>exact HY hn
  | cons n ns=>
   obtain ⟨e,hn⟩:=List.cons.inj hn
   refine Dr hb fun av l' e1 hb'=>?_
   subst e1
   induction us using List.casesOn with
   | nil=>exact HY (rs.v:av::l'=[])
   | cons v us=>
    obtain ⟨_,_,e2,rv,rs⟩:=rs.v
    obtain ⟨rfl,rfl⟩:=List.cons.inj e2
    show wpAny _ _ (assignInOrder (bindName env id::ids.map fun n=>bindName env n) (v::us)) _ _ _
    exact wpAny_assignInOrder_more (wpAny_bindName (Hm G I e (hv id (.head _)) rv fun h₁ t₁ I₁ S₁ G₁ _=>ih (s:=AS s h₁ t₁) hn (fun id h=>hv id (.tail _ h)) hb' G₁ I₁ (rs.stepX S₁) fun h₂ t₂ I₂ S₂ G₂=>q h₂ t₂ I₂ (S₁.trans S₂) G₂))
end
end
section
section
variable {X:Cx} {k:Nat} {sc:Scope} {env:Env} {ρ ρ':At} {μ μ1:A5} {s:Shared} {σ σ' σ₁:St} {A:Around} {x:AV} {h₁:Heap} {t₁:Nat} {fl:AF} {E:Value→Shared→Prop}
theorem Hb {t:Expr} {g:PG} {P:Prop} (h:Ff sc t=some g) (k1:∀ id pos n,t=.Name id pos→Bv (sc.names.lookup id)=true→code id=some n→g=.name n→P) (k2:∀ l y pos ns,t=.Tuple l y pos→Cl Bv sc l=some ns→g=.names ns→P)
  (k3:∀ o i pos,t=.Subscript o i pos→g=.sub (Aq sc o) (Aq sc i)→P) (k4:∀ o name pos n,t=.Attribute o name pos→code name=some n→Fx n=true→g=.att (Aq sc o) n→P):P:=by
 have hv:=EL t
 unfold Ff at h
 generalize Ef t=w at h hv
 induction w using Vw.casesOn with
 | name id pos=>exact BF h fun h1 h=>BL h fun n h2 h=>k1 id pos n hv h1 h2 h.symm
 | tup l y pos=>exact BL h fun ns h1 h=>k2 l y pos ns hv h1 h.symm
 | sub o i pos=>exact BF h fun _ h=>k3 o i pos hv (oQ h).symm
 | attr o name pos=>exact BF h fun h1 h=>AI h fun n h2 h=>BF h fun h3 h=>k4 o name pos n hv h2 h3 (oQ h).symm
 | _=>exact Ae h
theorem OQ {y:Option NameKind} {P:Prop} (h:Bv y=true) (k1:y=some .local→P) (k2:y=some .cell→P):P:=by
 induction y using Option.casesOn with
 | none=>exact absurd h bQ
 | some y=>induction y using NameKind.casesOn<;>first | exact absurd h bQ | exact k1 rfl | exact k2 rfl
noncomputable abbrev Ih (X:Cx) (sc:Scope) (env:Env) (ρ':At) (μ:A5) (s:Shared) (σ':St) (Q:Unit→Shared→Prop):Prop:=∀ μ' h' t',AK X μ' h' σ'→StpX (CC env) μ s.heap μ' h'→EnvOk X.base h' μ' sc env ρ'→Q () (AS s h' t')
theorem TV {v:AV} {y z:AV} {r:At×St} {P:Prop} (h:setI v ρ σ y z=some r) (k:∀ a j ao,y=.loc a→z=.int j→NG σ a j v=some ao→r=(ρ,σ.set a ao)→P):P:=
 L2 h fun a e1 h=>L6 h fun j e2 h=>BL h fun ao h1 h=>k a j ao e1 e2 h1 h.symm
theorem TX {v y:AV} {f:Nat} {r:At×St} {P:Prop} (h:setF v ρ σ f y=some r) (k:∀ a c l,y=.loc a→σ[a]?=some (.inst c l)→l.length≤20→r=(ρ,σ.set a (.inst c (put f v l)))→P):P:=
 L2 h fun a e g1=>AI g1 fun o ho g2=>BL g2 fun o' h1 hh=>by
  induction o using AO.casesOn with
  | inst c l=>exact Iv h1 fun hl h1=>k a c l e ho hl (by rw [←hh,←oQ h1])
  | _=>exact Ae h1
theorem S7 (T:Top X) (CO:BG X k) (O:Ok A k) {o i:Expr} {pos:Pos} {v:Value} {av:AV} {Q:Unit→Shared→Prop} (e:Mx X.P.gtup (AT X.P k) (.sub (Aq sc o) (Aq sc i)) av ρ σ=some (ρ',σ'))
  (G:EnvOk X.base s.heap μ sc env ρ) (I:AK X μ s.heap σ) (rv:VR X.base s.heap μ v av) (q:Ih X sc env ρ' μ s σ' Q):wpAny (model X.p X.w) A (assign (.Subscript o i pos) env v) Q E s:=by
 rw [arm_assign_Subscript]
 refine AB e fun y σ₁ h1 e=>AB e fun z σ₂ h2 e=>TV e fun a j ao e1 e2 h3 e3=>wpAny_bind (wpAny_holding ((AU T CO o).ev G I O h1 fun ov μ1 h₁ t₁ I₁ S₁ ro _=>wpAny_bind (wpAny_holding ((AU T CO i).ev (s:=AS s h₁ t₁) (G.step I S₁) I₁ O h2 fun iv μ2 h₂ t₂ I₂ S₂ ri _=>?_))))
 have G₂:=(G.step I S₁).step I₁ S₂
 obtain ⟨e4,e5⟩:=pQ e3
 rw [e4,e5] at q
 obtain ⟨kt,rfl⟩:=(e2▸ri).x
 exact wpAny_bind (wpAny_standAt (wpAny_bind (wpAny_holding (OY (s:=AS s h₂ t₂) I₂ (e1▸ro.step I₁ S₂) ((rv.step I S₁).step I₁ S₂) h3 fun h' t' I' S'=>wpAny_release (q μ2 h' t' I' (((S₁.trans S₂).trans S').toX I G.ownOff) (G₂.step I₂ S'))))))
theorem S9 (T:Top X) (CO:BG X k) (O:Ok A k) {o:Expr} {name:Str} {n:Nat} {pos:Pos} {v:Value} {av:AV} {Q:Unit→Shared→Prop} (hn:code name=some n) (ha:Fx n=true) (e:Mx X.P.gtup (AT X.P k) (.att (Aq sc o) n) av ρ σ=some (ρ',σ'))
  (G:EnvOk X.base s.heap μ sc env ρ) (I:AK X μ s.heap σ) (rv:VR X.base s.heap μ v av) (q:Ih X sc env ρ' μ s σ' Q):wpAny (model X.p X.w) A (assign (.Attribute o name pos) env v) Q E s:=by
 rw [arm_assign_Attribute]
 refine AB e fun y σ₁ h1 e=>TX e fun a c l e1 hl hz e3=>wpAny_bind (wpAny_holding ((AU T CO o).ev G I O h1 fun ov μ1 h₁ t₁ I₁ S₁ ro _=>wpAny_bind (wpAny_standAt (wpAny_bind (wpAny_holding ?_)))))
 obtain ⟨e4,e5⟩:=pQ e3
 rw [e4,e5] at q
 exact OZ (s:=AS s h₁ t₁) (K:=X.K) (N2 (s:=AS s h₁ t₁) T I₁) I₁ hn (fun c ca hc=>T.attr name n c ca ha hn hc) hl hz (e1▸ro) (rv.step I S₁) fun h' t' I' S'=>wpAny_release (q μ1 h' t' I' ((S₁.trans S').toX I G.ownOff) ((G.step I S₁).step I₁ S'))
theorem QZ (T:Top X) (CO:BG X k) (O:Ok A k) {t:Expr} {g:PG} {v:Value} {av:AV} {Q:Unit→Shared→Prop} (hg:Ff sc t=some g) (e:Mx X.P.gtup (AT X.P k) g av ρ σ=some (ρ',σ'))
  (G:EnvOk X.base s.heap μ sc env ρ) (I:AK X μ s.heap σ) (rv:VR X.base s.heap μ v av) (q:Ih X sc env ρ' μ s σ' Q):wpAny (model X.p X.w) A (assign t env v) Q E s:=
 Hb hg
  (fun id pos n e1 hk hn e2=>by subst e1 e2;exact Bf e fun e3 e4=>Dt G I hn hk rv fun h' t' I' S' G' _=>q μ h' t' (e4▸I') S' (e3▸G'))
  (fun l y pos ns e1 hn e2=>by
   subst e1 e2
   exact AI e fun l' hl e=>BL e fun ρ₁ hb e=>by
    obtain ⟨e3,e4⟩:=pQ e
    exact H9 (pt:=.many ns) O.1 (congrArg (Option.map PT.many) hn) (Option.bind_eq_some_iff.mpr ⟨l',hl,hb⟩) G I rv fun h' t' I' S' G' _=>q μ h' t' (e4▸I') S' (e3▸G'))
  (fun o i pos e1 e2=>by subst e1 e2;exact S7 T CO O e G I rv q)
  fun o name pos n e1 hn ha e2=>by subst e1 e2;exact S9 T CO O hn ha e G I rv q
theorem or_none {c:Prop} [Decidable c] {y:Sem (Option (List Str))} {P:Sem (Option (List Str))→Prop} (h0:P (pure none)) (h:¬ c→P y):P (if c then pure none else y):=by
 by_cases hc:c
 ·rw [if_pos hc];exact h0
 ·rw [if_neg hc];exact h hc
noncomputable def E5 (t:Expr) (m:Sem (Option (List Str))):Prop:=m=pure none∨∃ ts y p,t=.Tuple ts y p∧∃ f:Expr→Option Str,(∀ id pos r,f (.Name id pos)=some r→r=id)∧m=pure (some (ts.filterMap f))∧(ts.filterMap f).length=ts.length∧(ts.filterMap f).eraseDups.length=(ts.filterMap f).length
theorem LE {ts:List Expr} {y:Nat} {p:Pos} {v:Expr}:(∀ vs z q,v≠.Tuple vs z q)→swappedStores [.Tuple ts y p] v env=pure none:=by
 induction v using Expr.casesOn with
 | Tuple vs z q=>exact fun h=>absurd rfl (h vs z q)
 | _=>exact fun _=>rfl
theorem LD {ts vs:List Expr} {y z:Nat} {p q:Pos} (hs:(vs.all (foldedForSure 8) || !vs.all (constantsAlone 8))=true):E5 (.Tuple ts y p) (swappedStores [.Tuple ts y p] (.Tuple vs z q) env):=by
 unfold swappedStores
 refine or_none (P:=E5 _) (.inl rfl) fun _=>or_none (P:=E5 _) (.inl rfl) fun _=>or_none (P:=E5 _) (.inl rfl) fun h3=>or_none (P:=E5 _) (.inl rfl) fun h4=>?_
 have h5:¬ vs.all (constantsAlone 8)=true:=fun h=>by rw [Bool.eq_false_iff.mpr h4,h] at hs;exact bQ hs
 rw [if_neg h5]
 have h3:=fun b=>h3 ((Bool.or_eq_true _ _).mpr b)
 exact .inr ⟨ts,y,p,rfl,_,fun id p r h=>Iv (show (if _ then some id else none)=some r from h) fun _ h=>(oQ h).symm,rfl,Decidable.byContradiction fun h=>h3 (.inl (bne_iff_ne.mpr h)),Decidable.byContradiction fun h=>h3 (.inr (bne_iff_ne.mpr h))⟩
theorem ON {t v:Expr} {g:PG} (hg:Ff sc t=some g) (hs:Hj t v=true):E5 t (swappedStores [t] v env):=
 Hb hg (fun id pos n e _ _ _=>e▸.inl rfl) (fun l y pos ns e _ _=>by
   subst e
   have hv:=EL v
   unfold Hj at hs
   generalize hw:Ef v=w at hs hv
   induction w using Vw.casesOn with
   | tup vs z q=>subst hv;exact LD hs
   | _=>exact .inl (LE fun vs z q e=>by rw [e] at hw;exact Vw.noConfusion hw)) (fun o i pos e _=>e▸.inl rfl) fun o name pos n e _ _ _=>e▸.inl rfl
noncomputable def He (e t:Expr) (line:Nat) (env:Env):Prop:=∃ b,(swapsWith e (some t) line env:Sem Bool)=pure b∧(b=true→Ez e=true∧∃ id p,t=.Name id p∧env.kindOf id=some .local)
theorem FC {e t:Expr} {line:Nat} (h:(swapsWith e (some t) line env:Sem Bool)=pure false):He e t line env:=⟨false,h,nofun⟩
theorem OM {e:Expr} {id:Str} {p:Pos} {line:Nat} {b c d:Bool} (hc:Ez e=true) (h:(swapsWith e (some (.Name id p)) line env:Sem Bool)=pure (((b&&env.kindOf id==some .local)&&c)&&d)):He e (.Name id p) line env:=
 ⟨_,h,fun h=>⟨hc,id,p,rfl,eq_of_beq (AA (Ay (Ay h)))⟩⟩
theorem Fi {e t:Expr} {g:PG} {line:Nat} {b c d:Str→Pos→Bool} (hg:Ff sc t=some g) (hc:Ez e=true) (h1:∀ id p,(swapsWith e (some (.Name id p)) line env:Sem Bool)=pure (((b id p&&env.kindOf id==some .local)&&c id p)&&d id p))
  (h2:∀ l y p,(swapsWith e (some (.Tuple l y p)) line env:Sem Bool)=pure false) (h3:∀ o i p,(swapsWith e (some (.Subscript o i p)) line env:Sem Bool)=pure false) (h4:∀ o n p,(swapsWith e (some (.Attribute o n p)) line env:Sem Bool)=pure false):He e t line env:=
 Hb hg (fun id p n e1 _ _ _=>e1▸OM hc (h1 id p)) (fun l y p ns e1 _ _=>e1▸FC (h2 l y p)) (fun o i p e1 _=>e1▸FC (h3 o i p)) fun o nm p n e1 _ _ _=>e1▸FC (h4 o nm p)
theorem LB {e t:Expr} {g:PG} {line:Nat} (hg:Ff sc t=some g):He e t line env:=by
 induction e using Expr.casesOn with
 | ListComp a1 a2 a3 a4=>exact Fi hg rfl (fun _ _=>rfl) (fun _ _ _=>rfl) (fun _ _ _=>rfl) fun _ _ _=>rfl
 | SetComp a1 a2 a3 a4=>exact Fi hg rfl (fun _ _=>rfl) (fun _ _ _=>rfl) (fun _ _ _=>rfl) fun _ _ _=>rfl
 | DictComp a1 a2 a3 a4 a5=>exact Fi hg rfl (fun _ _=>rfl) (fun _ _ _=>rfl) (fun _ _ _=>rfl) fun _ _ _=>rfl
 | _=>exact FC rfl
theorem Q0 (O:Ok A k) {ts:List Expr} {ns:List Nat} {l:List AV} {ρ'':At} {u:Value} {av:AV} {stores:List (Value→Sem Unit)} {Q:Flow→Shared→Prop}
  {f:Expr→Option Str} (hf:∀ id pos r,f (.Name id pos)=some r→r=id) (hns:Cl Bv sc ts=some ns) (hl:Gq σ av=some l) (hbi:Ci ns l ρ=some ρ'') (hl1:(ts.filterMap f).length=ts.length) (hl2:(ts.filterMap f).eraseDups.length=(ts.filterMap f).length)
  (G:EnvOk X.base s.heap μ sc env ρ) (I:AK X μ s.heap σ) (ru:VR X.base s.heap μ u av)
  (q:∀ h' t',AK X μ h' σ→StpX (CC env) μ s.heap μ h'→EnvOk X.base h' μ sc env ρ''→Q .next (AS s h' t')) :
  wpAny (model X.p X.w) A (assignStores env u (some (ts.filterMap f)) stores) Q E s:=by
 obtain ⟨a2,a3⟩:=Po hf hns hl1
 generalize ts.filterMap f=names at hl2 a2 a3 ⊢
 obtain ⟨ρr,hr,hlk⟩:=Op (K6 a2 (Fm hl2)) hbi
 have hlen:names.length=l.length:=by
  have:=congrArg List.length a2
  rw [List.length_map,List.length_map] at this
  exact this.trans (Ga hbi)
 unfold assignStores
 refine wpAny_bind (wpAny_rule ?_)
 rw [hlen]
 refine wpAny_bind (MA I O.1 ru hl fun h₂ us k₂ rs=>?_)
 have S₂:Stp μ s.heap μ h₂:=Stp.grow k₂ trivial
 exact wpAny_bind (Mw names.reverse (s:={ s with heap:=h₂ }) (by rw [List.map_reverse,a2,←List.map_reverse]) (fun id hid=>a3 id (List.mem_reverse.mp hid)) hr (G.step I S₂) (I.grow k₂) rs.reverse fun h₃ t₃ I₃ S₃ G₃=>wpAny_pure
  (q h₃ t₃ I₃ ((S₂.toX I G.ownOff).trans S₃) (G₃.congr fun n av h=>(hlk n).trans h)))
theorem HZ {id:Str} {pid:Pos} {n:Nat} {av:AV} {ao:AO} {Q:Value→Shared→Prop} (G:EnvOk X.base s.heap μ sc env ρ) (I:AK X μ s.heap σ) (hk:Bv (sc.names.lookup id)=true) (hkl:env.kindOf id=some .local) (hn:code id=some n) (ha:av=.loc σ'.length)
  (q:∀ μ' h2 t2,AK X μ' h2 (σ'++[ao])→StpX (CC env) μ s.heap μ' h2→EnvOk X.base h2 μ' sc env (put n av ρ)→Q .none (AS s h2 t2)) :
  Gc X μ s σ' ao A E (some fun v=>assignAll v ((assignEach [.Name id pid] env).map (·.2))) Q:=fun D C μ' h' tk m I' S' V' OC hC hCb hns=>by
 have hloc:sc.names.lookup id=some .local:=OQ hk (fun h=>h) fun h=>by rw [G.kcell id h] at hkl;exact NameKind.noConfusion (oQ hkl)
 have hCown:¬ CC env C:=fun ho=>(G.live _ ho).elim fun o h=>Ae (hC.symm.trans h)
 show wpAny (model X.p X.w) A (assign (.Name id pid) env (.ref D)) (fun _ s''=>∃ m,s''.heap.Ns C m∧∀ h'',Heap.SameBut C s''.heap h''→Q .none { s'' with heap:=h'' }) E (AS s h' tk)
 refine Dt (s:=AS s h' tk) (G.step I S') I' hn hk (ha▸V') fun h2 t2 I2 S2 G2 k2=>?_
 obtain ⟨o,es,ep,ho,hd,hks,hf⟩:=hns
 have hC2:=k2 hloc C o (fun e=>hCown (.inl e)) ho
 exact ⟨m,⟨o,es,ep,hC2,hd,hks,hf⟩,fun h3 SB=>
  have kp:Kp h2 h3:=Co hC2 (Bz hd) SB.extBut
  q μ' h3 t2 (I2.offW OC (A8 hCb) SB.extBut fun o' e=>oQ (hC2.symm.trans e)▸Bz hd) (((S'.toX I G.ownOff).trans S2).after SB.extBut hC hCown kp) (G2.but SB.extBut hCown kp)⟩
theorem Q3 (T:Top X) (CO:BG X k) (O:Ok A k) {v:Expr} {id:Str} {pid:Pos} {n:Nat} {av:AV} {Q:Unit→Shared→Prop} (hcomp:Ez v=true) (hk:Bv (sc.names.lookup id)=true) (hkl:env.kindOf id=some .local) (hn:code id=some n)
  (G:EnvOk X.base s.heap μ sc env ρ) (I:AK X μ s.heap σ) (h1:C6 X k (Aq sc v) ρ σ=some (av,σ₁))
  (q:∀ μ' h' t',AK X μ' h' σ₁→StpX (CC env) μ s.heap μ' h'→EnvOk X.base h' μ' sc env (put n av ρ)→Q () (AS s h' t')) :
  wpAny (model X.p X.w) A (evalThenUse v env fun v=>assignAll v ((assignEach [.Name id pid] env).map (·.2))) Q E s:=by
 induction v using Expr.casesOn with
 | ListComp elt gens sc' cpos=>
  induction gens using List.casesOn with
  | nil=>exact CN h1
  | cons gg rest=>
   obtain ⟨tt,it,ifs,aa⟩:=gg
   refine IR h1 fun pt src σ₃ vs σ₄ e1 e2 hpt hs h3 hpu h4 e3 e4=>?_
   subst e1 e2
   rw [arm_evalThenUse_ListComp]
   exact wpAny_bind (Qw T O (AU T CO it) (AU T CO elt) (fun e _=>AU T CO e) hpt hs G I h3 hpu h4 (HZ G I hk hkl hn e3 fun μ' h2 t2 I2 S2 G2=>wpAny_pure (q _ h2 t2 (e4▸I2) S2 G2)))
 | DictComp kx vx gens sc' cpos=>
  induction gens using List.casesOn with
  | nil=>exact CN h1
  | cons gg rest=>
   obtain ⟨tt,it,ifs,aa⟩:=gg
   refine I8 h1 fun pt src σ₃ vs σ₄ e1 e2 hpt hs h3 hpu h4 e3 e4=>?_
   subst e1 e2
   rw [arm_evalThenUse_DictComp]
   exact wpAny_bind (Ni T O (AU T CO it) (AU T CO kx) (AU T CO vx) (fun e _=>AU T CO e) hpt hs G I h3 hpu h4 (HZ G I hk hkl hn e3 fun μ' h2 t2 I2 S2 G2=>wpAny_pure (q _ h2 t2 (e4▸I2) S2 G2)))
 | SetComp elt gens sc' cpos=>exact CN h1
 | _=>exact absurd hcomp bQ
theorem S_ {v:Expr} {ts:List Expr} {r:AF×At×St} {P:Prop} (h:ex X.P.gtup (AT X.P k) (Q4 sc v ts) ρ σ=some r) (q:∀ t g av σ₁ z,ts=[t]→Hj t v=true→Ff sc t=some g→C6 X k (Aq sc v) ρ σ=some (av,σ₁)→Mx X.P.gtup (AT X.P k) g av ρ σ₁=some z→r=(.next,z.1,z.2)→P):P:=by
 unfold Q4 at h
 generalize ho:(Bi (oneT ts) fun t=>cond (Hj t v) (Ff sc t) none)=o at h
 induction o using Option.casesOn with
 | none=>exact EF h
 | some g=>
  refine AI ho fun t ht ho=>BF ho fun hs hg=>AB h fun av σ₁ h1 h=>BL h fun z h2 h=>q t g av σ₁ z ?_ hs hg h1 h2 h.symm
  induction ts using List.casesOn with
  | nil=>exact Ae ht
  | cons a ts=>induction ts using List.casesOn with
   | nil=>exact congrArg (fun x=>[x]) (oQ ht)
   | cons _ _=>exact Ae ht
theorem Qi {t:Expr} {g:PG} (hg:Ff sc t=some g):(assignEach [t] env).map (·.2)=[assign t env]:=
 Hb hg (fun _ _ _ e _ _ _=>e▸rfl) (fun _ _ _ _ e _ _=>e▸rfl) (fun _ _ _ e _=>e▸rfl) fun _ _ _ _ e _ _ _=>e▸rfl
theorem Jo (T:Top X) (CO:BG X k) (ts:List Expr) (v:Expr) (pos:Pos):BP X k (.Assign ts v pos):=by
 intro sc env ρ μ s σ A G I O fl ρ' σ' E Q e R
 refine S_ e fun t g av σ₁ z e1 hso hg h1 h2 e2=>?_
 subst e1
 have R:ResS X μ s sc env .next z.1 z.2 Q:=R.done e2.symm
 rw [arm_exec_Assign]
 obtain ⟨b,hb,hb2⟩:=LB (e:=v) (line:=pos.line) (env:=env) hg
 rw [show swapsWithSole [t] v pos.line env=pure b from hb]
 refine wpAny_bind (wpAny_standAt (wpAny_bind (wpAny_pure ?_)))
 induction b using Bool.casesOn with
 | false=>
  refine wpAny_bind ((AU T CO v).ev G I O h1 fun u μ1 h₁ t₁ I₁ S₁ ru _=>?_)
  have G₁:=G.step I S₁
  rcases ON (env:=env) hg hso with hn | ⟨ts,y,p,rfl,f,hf,hn,hl1,hl2⟩
  ·rw [hn]
   refine wpAny_bind (wpAny_pure ?_)
   rw [Qi hg]
   show wpAny _ _ (assign t env u >>= fun _=>pure Flow.next) _ _ _
   exact wpAny_bind (QZ T CO O hg h2 (s:=AS s h₁ t₁) G₁ I₁ ru fun μ2 h₂ t₂ I₂ S₂ G₂=>wpAny_pure (R .next μ2 h₂ t₂ I₂ ((S₁.toX I G.ownOff).trans S₂) G₂ .next))
  ·rw [hn]
   refine wpAny_bind (wpAny_pure (BL hg fun ns hns e=>?_))
   subst e
   exact AI h2 fun l hl h2=>BL h2 fun ρ'' hbi e=>by
    subst e
    exact Q0 (s:=AS s h₁ t₁) O hf hns hl hbi hl1 hl2 G₁ I₁ ru fun h₃ t₃ I₃ S₃ G₃=>R .next μ1 h₃ t₃ I₃ ((S₁.toX I G.ownOff).trans S₃) G₃ .next
 | true=>
  obtain ⟨hcomp,id,pid,rfl,hkl⟩:=hb2 rfl
  refine BF hg fun hk hg=>BL hg fun n hn e=>?_
  subst e
  obtain rfl:=oQ h2
  exact wpAny_bind (Q3 T CO O hcomp hk hkl hn G I h1 fun μ' h' t' I' S' G'=>wpAny_pure (R .next μ' h' t' I' S' G' .next))
end
end
section
section
variable {X:Cx} {k:Nat}
theorem LN {st:Stmt} (h:∀ sc,Qv sc st=.bad):BP X k st:=by
 intro sc env ρ μ s σ A G I O fl ρ' σ' E Q e R
 exact EF (h sc▸e)
theorem Kd (T:Top X) (CO:BG X k):∀ (n:Nat) (st:Stmt),sizeOf st < n→BP X k st:=by
 intro n
 induction n with
 | zero=>exact fun e h=>absurd h (Nat.not_lt_zero _)
 | succ n ih=>
  intro st
  have mem:∀ {l:List Stmt},sizeOf l < n→∀ a∈l,BP X k a:=fun hl a ha=>ih a (Nat.lt_trans (List.sizeOf_lt_of_mem ha) hl)
  induction st using Stmt.casesOn with
  | Pass pos=>exact fun _=>LJ pos
  | Expr e pos=>exact fun _=>Kb pos (AU T CO e)
  | Return v pos=>exact fun _=>Jm v pos fun e _=>AU T CO e
  | Assign ts v pos=>exact fun _=>Jo T CO ts v pos
  | If t b o pos=>
   intro h
   have h:1+sizeOf t+sizeOf b+sizeOf o+sizeOf pos < n+1:=Dg (Stmt.If.sizeOf_spec t b o pos).symm h
   have hb:=mem (l:=b) (Nx (Cw (Cw h)))
   have ho:=mem (l:=o) (J7 (Cw h))
   exact @OU X k t b o pos (AU T CO t) hb ho
  | While t b o pos=>
   intro h
   have h:1+sizeOf t+sizeOf b+sizeOf o+sizeOf pos < n+1:=Dg (Stmt.While.sizeOf_spec t b o pos).symm h
   have hb:=mem (l:=b) (Nx (Cw (Cw h)))
   exact @J9 X k t b o pos (AU T CO t) hb
  | For t it b o pos=>
   intro h
   have h:1+sizeOf t+sizeOf it+sizeOf b+sizeOf o+sizeOf pos < n+1:=Dg (Stmt.For.sizeOf_spec t it b o pos).symm h
   have hb:=mem (l:=b) (J7 (Cw (Cw h)))
   exact @NE X k T t it b o pos (AU T CO it) hb
  | _=>exact fun _=>LN fun sc=>rfl
theorem LH (T:Top X) (CO:BG X k) (st:Stmt):BP X k st:=Kd T CO (sizeOf st+1) st (Nat.lt_succ_self _)
end
end
section
theorem PC {l:List (Str×Value)}:(l.map (·.1)).Nodup→∀ p∈l,l.lookup p.1=some p.2:=by
 induction l with
 | nil=>exact fun _ _ h=>absurd h List.not_mem_nil
 | cons a l ih=>
  intro hn p hp
  obtain ⟨h1,h2⟩:=List.nodup_cons.mp (show (a.1::l.map (·.1)).Nodup from hn)
  rw [List.lookup_cons]
  rcases List.mem_cons.mp hp with rfl | hp
  ·rw [BEq.rfl]
  ·rw [beq_eq_false_iff_ne.mpr fun e:p.1=a.1=>h1 (List.mem_map.mpr ⟨p,hp,e⟩)];exact ih h2 p hp
theorem MU {l:List (Str×Value)} {n:Str} (h:n∉l.map (·.1)):l.lookup n=none:=List.lookup_eq_none_iff.mpr fun p hp=>bne_iff_ne.mpr fun e=>h (e▸List.mem_map_of_mem hp)
theorem NY {S rest:List (Str×Value)} {n:Str} (h:S.lookup n=none):(rest.filter fun x=>(S.lookup x.1).isNone).lookup n=rest.lookup n:=by
 induction rest with
 | nil=>rfl
 | cons a r ih=>
  rw [List.lookup_cons,List.filter_cons]
  by_cases e:n=a.1
  ·subst e
   rw [show (S.lookup a.1).isNone=true by rw [h];rfl,if_pos rfl,List.lookup_cons,BEq.rfl]
  ·rw [beq_eq_false_iff_ne.mpr e,←ih]
   split
   ·rw [List.lookup_cons,beq_eq_false_iff_ne.mpr e]
   ·rfl
theorem Uq {l T:List (Str×Value)} (h:∀ p∈T,l.lookup p.1=some p.2):(T.map (·.1)).filterMap (fun n=>(l.lookup n).map (n,·))=T:=by
 induction T with
 | nil=>rfl
 | cons a T ih=>rw [List.map_cons,List.filterMap_cons,h a (.head _),ih fun p hp=>h p (.tail _ hp)];rfl
theorem Sg {n1 n2:List Str} {vs d1 w:List Value} {k:Nat} (h1:n1.length=vs.length) (h2:n2.length=w.length) (hn:(n1++n2).Nodup) (hk:k≤n1.length) (h3:(n1.drop k).length=d1.length) :
  (n1++n2).filterMap (fun n=>(((n1++n2).zip vs++(((n1++n2).drop k).zip (d1++w)).filter fun x=>(((n1++n2).zip vs).lookup x.1).isNone).lookup n).map (n,·))=(n1++n2).zip (vs++w):=by
 obtain ⟨hn1,hn2,hd⟩:=List.nodup_append.mp hn
 have e1:(n1++n2).zip vs=n1.zip vs:=by
  have:=List.zip_append (r₁:=n2) (r₂:=([]:List Value)) h1
  rwa [List.append_nil,List.zip_nil_right,List.append_nil] at this
 have k1:(n1.zip vs).map (·.1)=n1:=List.map_fst_zip (Nat.le_of_eq h1)
 have k2:(n2.zip w).map (·.1)=n2:=List.map_fst_zip (Nat.le_of_eq h2)
 rw [e1,List.drop_append_of_le_length hk,List.zip_append h3,List.zip_append h1]
 have:=Uq (l:=n1.zip vs++((n1.drop k).zip d1++n2.zip w).filter fun x=>((n1.zip vs).lookup x.1).isNone) (T:=n1.zip vs++n2.zip w) fun p hp=>by
  rw [List.lookup_append]
  rcases List.mem_append.mp hp with hp | hp
  ·rw [PC (k1.symm▸hn1) p hp];rfl
  ·have hm:p.1∈n2:=by rw [←k2];exact List.mem_map.mpr ⟨p,hp,rfl⟩
   have hx:(n1.zip vs).lookup p.1=none:=MU fun h=>hd _ (by rwa [k1] at h) _ hm rfl
   have hy:((n1.drop k).zip d1).lookup p.1=none:=MU fun h=>hd _ (List.mem_of_mem_drop (by rwa [List.map_fst_zip (Nat.le_of_eq h3)] at h)) _ hm rfl
   rw [hx,NY hx,List.lookup_append,hy,PC (k2.symm▸hn2) p hp];rfl
 rwa [List.map_append,k1,k2] at this
theorem Md {rest:List (Str×Value)}:∀ (slots:List (Str×Value)),(rest.map (·.1)).Nodup →
  (forIn rest slots fun (x:Str×Value) (slots:List (Str×Value))=>(if (slots.lookup x.1).isNone=true then pure (ForInStep.yield (slots++[(x.1,x.2)])) else pure (ForInStep.yield slots):Sem (ForInStep (List (Str×Value)))))=pure (slots++rest.filter fun x=>(slots.lookup x.1).isNone):=by
 induction rest with
 | nil=>intro slots _;rw [List.filter_nil,List.append_nil];rfl
 | cons a rest ih=>
  intro slots hn
  obtain ⟨h1,h2⟩:=List.nodup_cons.mp (show (a.1::rest.map (·.1)).Nodup from hn)
  rw [List.forIn_cons,List.filter_cons]
  by_cases hl:(slots.lookup a.1).isNone=true
  ·rw [if_pos hl,if_pos hl]
   refine (ih (slots++[(a.1,a.2)]) h2).trans (congrArg pure ?_)
   rw [List.append_assoc]
   refine congrArg (slots++a::·) (List.filter_congr fun x hx=>?_)
   rw [List.lookup_append,List.lookup_cons,beq_eq_false_iff_ne.mpr fun e:x.1=a.1=>h1 (List.mem_map.mpr ⟨x,hx,e⟩),List.lookup_nil,Option.or_none]
  ·rw [if_neg hl,if_neg hl]
   exact ih slots h2
section
variable {M:Model} {A:Around} {E:Value→Shared→Prop} {s:Shared}
theorem Ji {α:Type} {c:Prop} [Decidable c] {x y:Sem α} {Q:α→Shared→Prop} (h:¬c) (h2:wpAny M A y Q E s):wpAny M A (if c then x else y) Q E s:=by rw [if_neg h];exact h2
theorem wp_eq {α:Type} {x y:Sem α} {Q:α→Shared→Prop} (h:x=y) (h2:wpAny M A y Q E s):wpAny M A x Q E s:=h▸h2
theorem RG {n1 n2:List Str} {vs:List Value} {k:Nat} (h1:n1.length=vs.length) (hk:k≤n1.length):((n1++n2).take k).filter (fun n=>(((n1++n2).zip vs).lookup n).isNone)=[]:=by
 rw [List.filter_eq_nil_iff]
 intro n hm h
 rw [List.take_append_of_le_length hk] at hm
 have:=List.zip_append (r₁:=n2) (r₂:=([]:List Value)) h1
 rw [List.append_nil] at this
 rw [this,List.lookup_append] at h
 have hm:n∈(n1.zip vs).map (·.1):=(List.map_fst_zip (Nat.le_of_eq h1)).symm▸List.mem_of_mem_take hm
 obtain ⟨p,hp,rfl⟩:=List.mem_map.mp hm
 have h:((n1.zip vs).lookup p.1)=none:=by
  generalize (n1.zip vs).lookup p.1=o at h
  induction o using Option.casesOn with
  | none=>rfl
  | some _=>exact absurd h bQ
 exact absurd rfl (bne_iff_ne.mp (List.lookup_eq_none_iff.mp h p hp))
end
section
variable {M:Model} {A:Around} {E:Value→Shared→Prop} {s:Shared}
theorem Pn {ns:List Str} {vs:List Value} {k:Nat} (h1:vs.length≤ns.length) (hk:k≤vs.length):(ns.take k).filter (fun n=>((ns.zip vs).lookup n).isNone)=[]:=by
 have e:=List.length_take_of_le h1
 have:=RG (n2:=ns.drop vs.length) e (e.symm▸hk)
 rwa [List.take_append_drop] at this
theorem Kt {a n d:Nat} (h1:a≤n) (h2:n≤a+d) (h3:d≤n):n - a=d - (a+d - n)∧a - (n - d)=min (a+d - n) d:=by
 obtain ⟨c,rfl⟩:=Nat.le.dest h1
 obtain ⟨e,rfl⟩:=Nat.le.dest (Nat.le_of_add_le_add_left h2)
 have he:e≤a:=Nat.le_of_add_le_add_left (Nat.add_comm a c▸h3)
 have e1:a+(c+e) - (a+c)=e:=by rw [←Nat.add_assoc,Nat.add_sub_cancel_left]
 rw [e1,Nat.add_sub_cancel_left,Nat.add_sub_cancel,Nat.add_comm a c,Nat.add_sub_add_left,Nat.sub_sub_self he,Nat.min_eq_left (Nat.le_add_left _ _)]
 exact ⟨rfl,rfl⟩
theorem P_ {ns:List Str} {vs dv:List Value} (hn:ns.Nodup) (h1:vs.length≤ns.length) (h2:ns.length≤vs.length+dv.length) (h3:dv.length≤ns.length) :
  ns.filterMap (fun n=>((ns.zip vs++((ns.drop (ns.length - dv.length)).zip dv).filter fun x=>((ns.zip vs).lookup x.1).isNone).lookup n).map (n,·))=ns.zip (vs++dv.drop (vs.length+dv.length - ns.length)):=by
 have e:=List.length_take_of_le h1
 have hk:ns.length - dv.length≤vs.length:=Nat.sub_le_of_le_add h2
 have:=Sg (n1:=ns.take vs.length) (n2:=ns.drop vs.length) (vs:=vs) (d1:=dv.take (vs.length+dv.length - ns.length)) (w:=dv.drop (vs.length+dv.length - ns.length)) (k:=ns.length - dv.length) e
  (by rw [List.length_drop,List.length_drop];exact (Kt h1 h2 h3).1) (by rw [List.take_append_drop];exact hn) (e.symm▸hk) (by rw [List.length_drop,e,List.length_take];exact (Kt h1 h2 h3).2)
 rwa [List.take_append_drop,List.take_append_drop] at this
theorem Id {ns:List Str} {dv:List Value} (h3:dv.length≤ns.length):dv.drop (dv.length - ns.length)=dv:=by rw [Nat.sub_eq_zero_of_le h3];rfl
theorem Mc {ns:List Str} {dv:List Value} (hn:ns.Nodup) (h3:dv.length≤ns.length):(((ns.drop (ns.length - (dv.drop (dv.length - ns.length)).length)).zip (dv.drop (dv.length - ns.length))).map fun x:Str×Value=>x.1).Nodup:=by
 rw [Id h3,List.map_fst_zip (by rw [List.length_drop,Nat.sub_sub_self h3];exact Nat.le_refl _)];exact hn.sublist (List.drop_sublist _ _)
theorem Pm {ns:List Str} {vs dv:List Value} (h1:vs.length≤ns.length) (h2:ns.length≤vs.length+dv.length) (h3:dv.length≤ns.length):(ns.take (ns.length - (dv.drop (dv.length - ns.length)).length)).filter (fun n=>((ns.zip vs).lookup n).isNone)=[]:=by
 rw [Id h3];exact Pn h1 (Nat.sub_le_of_le_add h2)
theorem NF {l:List Str} (h:l=[]):¬(!l.isEmpty)=true:=by rw [h];exact bQ
theorem Us {ns:List Str} {vs dv:List Value} {Q:List (Str×Value)→Prop} (hn:ns.Nodup) (h1:vs.length≤ns.length) (h2:ns.length≤vs.length+dv.length) (h3:dv.length≤ns.length) (q:Q (ns.zip (vs++dv.drop (vs.length+dv.length - ns.length)))) :
  Q ((ns++[]).filterMap (fun n=>((ns.zip vs++((ns.drop (ns.length - (dv.drop (dv.length - ns.length)).length)).zip (dv.drop (dv.length - ns.length))).filter fun x:Str×Value=>((ns.zip vs).lookup x.1).isNone).lookup n).map (n,·))):=by
 rw [Id h3,List.append_nil,P_ hn h1 h2 h3];exact q
theorem Os {fd:FuncData} {vs dv:List Value} {Q:List (Str×Value)→Shared→Prop} (hp:fd.params.posonlyargs=[]∧fd.params.vararg=none∧fd.params.kwonlyargs=[]∧fd.params.kwarg=none) (hn:(fd.params.args.map (·.arg)).Nodup)
  (hdv:(∀ {Q:Option (Array Value)→Shared→Prop},(∀ r:Option (Array Value),(r.getD #[]).toList=dv→Q r s)→wpAny M A (seqItems? fd.defaults) Q E s)) (h1:vs.length≤fd.params.args.length) (h2:fd.params.args.length≤vs.length+dv.length) (h3:dv.length≤fd.params.args.length)
  (q:Q ((fd.params.args.map (·.arg)).zip (vs++dv.drop (vs.length+dv.length - fd.params.args.length))) s):wpAny M A (bindArgs fd ⟨vs,[]⟩) Q E s:=by
 obtain ⟨nm,qual,⟨po,ar,va,ko,kd,ka,df⟩,bd,scope,g,cl,dV,kw,doc,pm,an,cdv,ct,bl⟩:=fd
 obtain ⟨rfl,rfl,rfl,rfl⟩:=(show po=[]∧va=none∧ko=[]∧ka=none from hp)
 have hl:(ar.map (·.arg)).length=ar.length:=List.length_map _
 have h1:vs.length≤(ar.map (·.arg)).length:=hl.symm▸h1
 have h2:(ar.map (·.arg)).length≤vs.length+dv.length:=hl.symm▸h2
 have h3:dv.length≤(ar.map (·.arg)).length:=hl.symm▸h3
 have q:Q ((ar.map (·.arg)).zip (vs++dv.drop (vs.length+dv.length - (ar.map (·.arg)).length))) s:=hl.symm▸q
 have hn:(ar.map (·.arg)).Nodup:=hn
 refine wpAny_bind (wpAny_pure ?_)
 refine wpAny_bind (hdv fun r hr=>?_)
 obtain rfl:=hr
 refine Ji (fun h=>absurd (of_decide_eq_true (Ay h)) (Nat.not_lt.mpr h1)) ?_
 refine Ji (NF (Pm (ns:=ar.map fun x:Arg=>x.arg) (vs:=vs) (dv:=(r.getD #[]).toList) h1 h2 h3)) ?_
 refine wpAny_bind (wp_eq (Md _ (Mc (ns:=ar.map fun x:Arg=>x.arg) (dv:=(r.getD #[]).toList) hn h3)) (wpAny_pure ?_))
 refine wpAny_bind (wpAny_pure ?_)
 refine Ji bQ ?_
 exact wpAny_pure (Us (ns:=ar.map fun x:Arg=>x.arg) (vs:=vs) (dv:=(r.getD #[]).toList) (Q:=fun x=>Q x s) hn h1 h2 h3 q)
end
end
section
noncomputable def LX:List Str→Bool
 | []=>true
 | x::r=>!(r.any fun y=>eqL x.cps.toList y.cps.toList)&&LX r
noncomputable def blkK:NameKind→Bool
 | .local | .cell | .globalImplicit=>true
 | _=>false
theorem UV {k:NameKind} (h:blkK k=true):k=.local∨k=.cell∨k=.globalImplicit:=by
 induction k using NameKind.casesOn<;>first | exact .inl rfl | exact .inr (.inl rfl) | exact .inr (.inr rfl) | exact absurd h bQ
noncomputable def Gu (params:Arguments) (scope:Scope):Bool:=
 scope.kind==.function&&!scope.isGenerator&&!scope.isCoroutine&&DG scope.names&&(scope.names.all fun x=>blkK x.2) &&
  (params.args.all fun a=>Bv (scope.names.lookup a.arg))&&LX (params.args.map (·.arg))
theorem Qh (a:List Nat):eqL a a=true:=by
 induction a with
 | nil=>rfl
 | cons x a ih=>exact (Bool.and_eq_true _ _).mpr ⟨Nat.beq_refl x,ih⟩
theorem Jw {l:List Str}:LX l=true→l.Nodup:=by
 induction l with
 | nil=>exact fun _=>List.nodup_nil
 | cons x r ih=>
  intro h
  refine List.nodup_cons.mpr ⟨fun hm=>?_,ih (AA h)⟩
  have:r.any (fun y=>eqL x.cps.toList y.cps.toList)=true:=List.any_eq_true.mpr ⟨x,hm,Qh _⟩
  have h1:=Ay h
  rw [this] at h1
  exact bQ h1
inductive FnOk (X:Cx) (fa:Addr) (d:Def):Prop
 | mk (name qual:Str) (params:Arguments) (body:List Stmt) (scope:Scope) (dV doc pm:Value) (an:Option Addr) (cdv ct oc:Value) (od:Option Addr) (osl:Array (Option Value)) (dv:List Value) :
  X.K.lookup fa=some ⟨oc,od,.func (fnOf name qual params body scope dV .none doc pm an cdv ct),osl⟩→codeIn X.K cdv qual=true→Ty params scope body=some d→Gu params scope=true →
  ((dV=.none∧dv=[])∨∃ a n dd sl,dV=.ref a∧X.K.lookup a=some ⟨.type "tuple",dd,.seq dv.toArray n,sl⟩)→(∀ v∈dv,v=Value.none)→dv.length=params.defaults.length→FnOk X fa d
structure Fns (X:Cx):Prop where
 glob:∀ x f d v,code x=some f→X.P.isCls f=false→X.P.defs (0,f)=some d→X.mg x=some v→∃ fa,v=.ref fa∧FnOk X fa d
 meth:∀ c ca m name d fa,X.C c=some ca→code name=some m→X.P.defs (c,m)=some d→findIn X.K (.ref ca) name=some (some (.ref fa))→FnOk X fa d
 cls:∀ x f d v,code x=some f→X.P.isCls f=true→X.P.defs (f,X.P.kInit)=some d→X.mg x=some v→∃ ca fI,v=.ref ca∧X.C f=some ca∧makesIn X.K ca=true∧findIn X.K (.ref ca) (Str.ofString "__init__")=some (some (.ref fI))∧typeIn X.K (.ref fI)=some (.type "function")∧FnOk X fI d
theorem K9 {n:Nat} {y:Str} {r:List (Str×NameKind)} {acc:List (Str×Addr)}:∃ b:Addr,cellsFrom n ((y,NameKind.cell)::r) acc=cellsFrom (n+1) r ((y,b)::acc):=⟨n,by rw [cellsFrom];exact if_pos rfl⟩
theorem K8 {n:Nat} {y:Str} {k:NameKind} {r:List (Str×NameKind)} {acc:List (Str×Addr)} (h:k≠.cell):cellsFrom n ((y,k)::r) acc=cellsFrom n r acc:=by
 rw [cellsFrom];exact if_neg fun e=>h (eq_of_beq e)
theorem QC (names:List (Str×NameKind)):∀ {n:Nat} {acc:List (Str×Addr)},(∀ x,((∃ c,acc.lookup x=some c)∨(x,NameKind.cell)∈names)→∃ c,(cellsFrom n names acc).lookup x=some c)∧∀ x c,(cellsFrom n names acc).lookup x=some c→acc.lookup x=some c∨(x,NameKind.cell)∈names:=by
 induction names with
 | nil=>exact ⟨fun x h=>h.elim id fun h=>absurd h List.not_mem_nil,fun x c h=>.inl h⟩
 | cons a r ih=>
  obtain ⟨y,k⟩:=a
  intro n acc
  by_cases hk:k=.cell
  ·subst hk
   obtain ⟨b,hb⟩:=K9 (n:=n) (y:=y) (r:=r) (acc:=acc)
   rw [hb]
   obtain ⟨h1,h2⟩:=ih (n:=n+1) (acc:=(y,b)::acc)
   refine ⟨fun x h=>h1 x ?_,fun x c h=>(h2 x c h).elim (fun h=>MV h (fun e _=>.inr (e▸.head _)) .inl) fun h=>.inr (.tail _ h)⟩
   by_cases hx:x=y
   ·exact .inl ⟨b,hx▸EQ⟩
   ·rw [Kz hx];exact h.imp id fun h=>(List.mem_cons.mp h).elim (fun e=>absurd (pQ e).1 hx) id
  ·rw [K8 hk]
   obtain ⟨h1,h2⟩:=ih (n:=n) (acc:=acc)
   exact ⟨fun x h=>h1 x (h.imp id fun h=>(List.mem_cons.mp h).elim (fun e=>absurd (pQ e).2.symm hk) id),fun x c h=>(h2 x c h).imp id (.tail _)⟩
section
variable {kindOf:Str→Option NameKind} {x n:Str} {v u:Value} {m:Str→Option Value}
theorem H6 {b:List (Str×Value)}:∀ {m:Str→Option Value},x∉b.map (·.1)→bindL kindOf b m x=m x∧bindC kindOf b m x=m x:=by
 induction b with
 | nil=>exact fun _=>⟨rfl,rfl⟩
 | cons a r ih=>
  obtain ⟨n,v⟩:=a
  intro m h
  have h1:x≠n:=fun e=>h (e▸.head _)
  have h2:x∉r.map (·.1):=fun hm=>h (.tail _ hm)
  rw [bindL,bindC,(ih h2).1,(ih h2).2]
  by_cases hk:kindOf n=some .local
  ·rw [if_pos hk,if_pos hk];exact ⟨if_neg h1,rfl⟩
  ·rw [if_neg hk,if_neg hk];exact ⟨rfl,if_neg h1⟩
theorem Nn {b:List (Str×Value)}:∀ {m:Str→Option Value},(b.map (·.1)).Nodup→(x,v)∈b→(kindOf x=some .local→bindL kindOf b m x=some v)∧(kindOf x≠some .local→bindC kindOf b m x=some v):=by
 induction b with
 | nil=>exact fun _ h=>absurd h List.not_mem_nil
 | cons a r ih=>
  obtain ⟨n,u⟩:=a
  intro m hn hm
  have hn:=List.nodup_cons.mp hn
  rw [bindL,bindC]
  rcases List.mem_cons.mp hm with e | hm
  ·obtain ⟨rfl,rfl⟩:=pQ e
   rw [(H6 hn.1).1,(H6 hn.1).2]
   exact ⟨fun h=>by rw [if_pos h];exact if_pos rfl,fun h=>by rw [if_neg h];exact if_pos rfl⟩
  ·exact ⟨(ih hn.2 hm).1,(ih hn.2 hm).2⟩
end
theorem H0 {as:List Arg}:∀ {d:Nat} {ps:List (Nat×Option AV)},H1 as d=some ps→d≤as.length∧as.map (fun a=>code a.arg)=ps.map (fun p=>some p.1) ∧
  ∀ (j:Nat) (p:Nat×Option AV) (v:AV),ps[j]?=some p→p.2=some v→v=.none∧as.length≤j+d:=by
 induction as with
 | nil=>exact fun {d ps} h=>BF h fun hd h=>by obtain rfl:=oQ h;exact ⟨Nat.le_of_eq (Nat.eq_of_beq_eq_true hd),rfl,fun _ _ _ h=>Ae h⟩
 | cons a r ih=>
  intro d ps h
  refine AI h fun n hn h=>GH h (fun hd h=>BL h fun ps' h1 e=>?_) fun hd h=>BL h fun ps' h1 e=>?_
  ·subst e
   obtain ⟨a1,a2,a3⟩:=ih h1
   refine ⟨Nat.le_succ_of_le a1,congr (congrArg List.cons hn) a2,fun j p v hj hp=>?_⟩
   induction j using Nat.casesOn with
   | zero=>exact Ae ((congrArg Prod.snd (oQ hj)).trans hp)
   | succ j=>exact ⟨(a3 j p v hj hp).1,Nat.succ_add j d▸Nat.succ_le_succ (a3 j p v hj hp).2⟩
  ·subst e
   obtain ⟨a1,a2,a3⟩:=ih h1
   have hlt:r.length < d:=Nat.lt_of_not_le fun h=>by rw [Nat.ble_eq_true_of_le h] at hd;exact bQ hd.symm
   refine ⟨Nat.le_add_of_sub_le a1,congr (congrArg List.cons hn) a2,fun j p v hj hp=>?_⟩
   induction j using Nat.casesOn with
   | zero=>exact ⟨(oQ ((congrArg Prod.snd (oQ hj)).trans hp)).symm,Nat.le_trans hlt (Nat.le_add_left _ _)⟩
   | succ j=>exact ⟨(a3 j p v hj hp).1,Nat.le_trans hlt (Nat.le_add_left _ _)⟩
theorem Mv {ps:List (Nat×Option AV)}:∀ {xs:List AV} {ρ ρ':At},Eb ps xs ρ=some ρ'→∃ ex:List AV,ρ'=ρ++(ps.map (·.1)).zip (xs++ex)∧xs.length+ex.length=ps.length∧∀ (j:Nat) (v:AV),ex[j]?=some v→∃ n,ps[xs.length+j]?=some (n,some v):=by
 induction ps with
 | nil=>
  intro xs ρ ρ' h
  induction xs using List.casesOn with
  | nil=>exact ⟨[],(List.append_nil ρ▸oQ h).symm,rfl,fun j v h=>Ae h⟩
  | cons _ _=>exact Ae h
 | cons a ps ih=>
  obtain ⟨x,o⟩:=a
  intro xs ρ ρ' h
  induction xs using List.casesOn with
  | cons v vs=>
   obtain ⟨ex,h1,h2,h3⟩:=ih (show Eb ps vs (ρ++[(x,v)])=some ρ' from h)
   refine ⟨ex,by rw [h1,List.append_assoc];rfl,by rw [List.length_cons,Nat.succ_add];exact congrArg Nat.succ h2,fun j w hj=>(h3 j w hj).imp fun n hn=>?_⟩
   rw [List.length_cons,Nat.succ_add];exact hn
  | nil=>induction o using Option.casesOn with
   | none=>exact Ae h
   | some v=>
    obtain ⟨ex,h1,h2,h3⟩:=ih (show Eb ps [] (ρ++[(x,v)])=some ρ' from h)
    refine ⟨v::ex,by rw [h1,List.append_assoc];rfl,?_,fun j w hj=>?_⟩
    ·exact congrArg Nat.succ h2
    ·induction j using Nat.casesOn with
     | zero=>exact ⟨x,congrArg (fun v=>some (x,some v)) (oQ hj)⟩
     | succ j=>exact (h3 j w hj).imp fun n hn=>by rw [List.length_nil,Nat.zero_add] at hn ⊢;exact hn
theorem Pw {ns:List Nat}:∀ {xs:List AV} {n:Nat} {v:AV},look n (ns.zip xs)=some v→∃ i:Nat,ns[i]?=some n∧xs[i]?=some v:=by
 induction ns with
 | nil=>exact fun h=>Ae h
 | cons a ns ih=>
  intro xs n v h
  induction xs using List.casesOn with
  | nil=>exact Ae h
  | cons b xs=>
   by_cases hn:n=a
   ·exact ⟨0,congrArg some hn.symm,(HI hn).symm.trans h⟩
   ·obtain ⟨i,h1,h2⟩:=ih ((HH hn).symm.trans h)
    exact ⟨i+1,h1,h2⟩
end
section
section
variable {X:Cx} {k:Nat} {μ:A5} {s:Shared} {σ σ':St} {A:Around}
theorem Ub {base h:Heap} {a:List Value}:∀ {b:List AV},a.length=b.length→(∀ v∈a,v=Value.none)→(∀ z∈b,z=AV.none)→VRs base h μ a b:=by
 induction a with
 | nil=>
  intro b h _ _
  induction b using List.casesOn with
  | nil=>exact .nil
  | cons _ _=>exact nomatch h
 | cons v a ih=>
  intro b h ha hb
  induction b using List.casesOn with
  | nil=>exact nomatch h
  | cons z b=>
   rw [ha v (.head _),hb z (.head _)]
   exact .cons _ _ _ _ .none (ih (Nat.succ.inj h) (fun v hv=>ha v (.tail _ hv)) (fun z hz=>hb z (.tail _ hz)))
theorem UU {base h:Heap} {as:List Arg} {d:Nat} {ps:List (Nat×Option AV)} {vs dv:List Value} {xs:List AV} {ρ:At} (hp:H1 as d=some ps) (hb:Eb ps xs []=some ρ) (rs:VRs base h μ vs xs) (hdv:∀ v∈dv,v=Value.none) (hdl:dv.length=d) :
  vs.length≤as.length∧as.length≤vs.length+dv.length∧dv.length≤as.length∧∃ xs',ρ=(ps.map (·.1)).zip xs'∧xs'.length=as.length∧VRs base h μ (vs++dv.drop (vs.length+dv.length - as.length)) xs':=by
 obtain ⟨a1,a2,a3⟩:=H0 hp
 obtain ⟨ex,e1,e2,e3⟩:=Mv hb
 have hl:as.length=ps.length:=by have:=congrArg List.length a2;rwa [List.length_map,List.length_map] at this
 have hv:=rs.length
 have h1:vs.length≤as.length:=by rw [hv,hl,←e2];exact Nat.le_add_right _ _
 have h3:dv.length≤as.length:=hdl▸a1
 have h2:as.length≤vs.length+dv.length:=by
  rcases Nat.eq_zero_or_pos ex.length with hz | hz
  ·rw [hl,←e2,hz,hv];exact Nat.le_add_right _ _
  ·obtain ⟨n,hn⟩:=e3 0 _ (List.getElem?_eq_getElem hz)
   rw [hv,hdl];exact (a3 xs.length _ _ hn rfl).2
 refine ⟨h1,h2,h3,xs++ex,e1,by rw [List.length_append,e2,hl],rs.append (Ub ?_ (fun v hv=>hdv v (List.mem_of_mem_drop hv)) fun z hz=>?_)⟩
 ·rw [List.length_drop,hv,hl,←e2]
  rw [hv,hl,←e2] at h2
  exact om119 h2
 ·obtain ⟨j,hj,hjz⟩:=List.getElem_of_mem hz
  obtain ⟨n,hn⟩:=e3 j z (by rw [List.getElem?_eq_getElem hj,hjz])
  exact (a3 _ _ _ hn rfl).1
theorem QP {base h:Heap} {as:List Arg} {d:Nat} {ps:List (Nat×Option AV)} {xs':List AV} {fvs:List Value} {x:Str} {n:Nat} {av:AV} (hp:H1 as d=some ps) (r:VRs base h μ fvs xs') (hx:code x=some n) (hl:look n ((ps.map (·.1)).zip xs')=some av) :
  ∃ u,(x,u)∈(as.map (·.arg)).zip fvs∧VR base h μ u av:=by
 obtain ⟨i,hi1,hi2⟩:=Pw hl
 obtain ⟨u,hu,ru⟩:=r.get hi2
 refine ⟨u,?_,ru⟩
 have h2:(as.map (·.arg))[i]?=some x:=by
  have h:=congrArg (fun l=>l[i]?) (H0 hp).2.1
  rw [List.getElem?_map] at hi1 h ⊢
  rw [List.getElem?_map] at h
  obtain ⟨pp,hpp,hpn⟩:=Option.map_eq_some_iff.mp hi1
  rw [hpp] at h
  obtain ⟨a,ha,hc⟩:=Option.map_eq_some_iff.mp h
  rw [ha]
  exact congrArg some (Bo (hc.trans (congrArg some hpn)) hx)
 exact List.mem_of_getElem? ((List.getElem?_zip_eq_some (z:=(x,u))).mpr ⟨h2,hu⟩)
structure Blk (params:Arguments) (scope:Scope):Prop where
 kind:scope.kind=.function
 gen:scope.isGenerator=false
 cor:scope.isCoroutine=false
 names:∀ x k,(x,k)∈scope.names→k=.local∨k=.cell∨k=.globalImplicit
 args:∀ a∈params.args,Bv (scope.names.lookup a.arg)=true
 nodup:(params.args.map (·.arg)).Nodup
theorem Blk.of {params:Arguments} {scope:Scope} (h:Gu params scope=true):Blk params scope:=
 have h1:=Ay h
 have h2:=Ay h1
 have h3:=Ay h2
 ⟨eq_of_beq (Ay (Ay (Ay h3))),(Bool.not_eq_true' _).mp (AA (Ay (Ay h3))),(Bool.not_eq_true' _).mp (AA (Ay h3)),fun x k hx=>UV (List.all_eq_true.mp (AA h2) (x,k) hx),fun a ha=>List.all_eq_true.mp (AA h1) a ha,Jw (AA h)⟩
theorem QF (T:Top X) (I:AK X μ s.heap σ) {params:Arguments} {scope:Scope} {ps:List (Nat×Option AV)} {d:Nat} {xs':List AV} {fvs:List Value} {env:Env} {h':Heap} {tk:Nat} (B:Blk params scope) (hp:H1 params.args d=some ps) (hr:VRs X.base s.heap μ fvs xs') (hl:xs'.length=params.args.length)
  (e1:env.scope=scope) (e2:env.globals=mainGlobals) (e3:env.builtins=builtinsNs) (hL:env.locals=s.heap.objs.size) (hcl:env.cells=cellsFrom (s.heap.objs.size+1) scope.names []) (kk:CB s.heap h')
  (IC:InCallC s env.locals (bindL env.kindOf ((params.args.map (·.arg)).zip fvs) fun _=>none) env.cells (bindC env.kindOf ((params.args.map (·.arg)).zip fvs) fun _=>none) (AS s h' tk)):EnvOk X.base h' μ scope env ((ps.map (·.1)).zip xs')∧∀ b,CC env b→s.heap.objs.size≤b:=by
 have own:∀ b,CC env b→s.heap.objs.size≤b:=fun b hb=>hb.elim (fun e=>Nat.le_of_eq (e.trans hL).symm) fun ⟨z,hz⟩=>Nat.le_of_lt (hL▸IC.above z b (mem_of_lookup hz))
 have ko:∀ {x:Str} {k:NameKind},scope.names.lookup x=some k→env.kindOf x=some k:=fun h=>by unfold Env.kindOf;rw [e1];exact h
 have bn:(((params.args.map (·.arg)).zip fvs).map (·.1)).Nodup:=by rw [List.map_fst_zip (Nat.le_of_eq (by rw [List.length_map,hr.length,hl]))];exact B.nodup
 have bd:=fun {x:Str} {n:Nat} {av:AV}=>@QP μ X.base h' params.args d ps xs' fvs x n av hp (hr.keep (Kp.of_all kk))
 refine ⟨⟨by rw [e1];exact B.kind,e2,e3,fun x hx=>ko hx,fun x hx=>?_,fun x hx=>ko hx,fun x hx=>ko hx,⟨_,IC.toInCall.ns,fun x n av g1 g2 g3=>(bd g1 g3).imp fun u hu=>⟨(Nn bn hu.1).1 (ko g2),hu.2⟩⟩,fun x c hx=>⟨_,IC.cell x c hx,fun n av g1 g2 g3=>(bd g1 g3).imp fun u hu=>⟨(Nn bn hu.1).2 fun e=>?_,hu.2⟩⟩,
  fun b hb=>⟨I.fresh (own b hb),Nat.le_trans (T.base_le I) (own b hb)⟩,fun x c hx=>Nat.ne_of_gt (IC.above x c (mem_of_lookup hx)),fun x y c hx hy=>name_of_addr IC.apart (mem_of_lookup hx) (mem_of_lookup hy)⟩,own⟩
 ·rcases hx with hx | hx
  ·exact ⟨.inl (ko hx),hcl▸(QC scope.names).1 x (.inr (mem_of_lookup hx))⟩
  ·exact absurd (B.names _ _ (mem_of_lookup hx)) (by decide)
 ·rcases g2 with g2 | g2<;>exact NameKind.noConfusion (oQ ((ko g2).symm.trans e))
theorem JS (T:Top X) (CO:BG X k) {fa:Addr} {d:Def} (F:FnOk X fa d) {vs:List Value} {xs:List AV} {y:AV} {R:Result→Shared→Prop} (e:Gh X.P.gtup (AT X.P k) d xs σ=some (y,σ')) (I:AK X μ s.heap σ) (rs:VRs X.base s.heap μ vs xs)
  (h1:A.handled=none) (h2:A.depth+1+4*k+4 < recursionLimit) (h3:A.units+3+16*k+200 < cLine)
  (q:∀ v μ' h' t,AK X μ' h' σ'→Stp μ s.heap μ' h'→VR X.base h' μ' v y→R (.ok (.ret v)) (AS s h' t)):codeAny (model X.p X.w) A (.call (.ref fa) ⟨vs,[]⟩) R s:=by
 obtain ⟨name,qual,params,body,scope,dV,doc,pm,an,cdv,ct,oc,od,osl,dv,hK,hcd,hcomp,hsc,hdV,hdv,hdl⟩:=F
 have KI:=N2 T I
 have B:=Blk.of hsc
 refine BF hcomp fun hpar hcomp=>BL hcomp fun ps hps ed=>?_
 subst ed
 refine AI e fun ρ hb e=>BL e fun r hx e=>?_
 obtain ⟨v1,v2,v3,xs',e1,hl,hfull⟩:=UU hps hb rs hdv hdl
 subst e1
 refine codeAny_call_function (Nat.lt_of_le_of_lt (Nat.le_trans (Nat.le_succ A.depth) (Nat.le_trans (Nat.le_add_right (A.depth+1) (4*k)) (Nat.le_add_right _ 4))) h2) (KI _ _ hK) rfl B.cor B.gen rfl (codeRec_of KI hcd) ?_
 refine Os (fd:=fnOf name qual params body scope dV .none doc pm an cdv ct) (dv:=dv) ⟨List.isEmpty_iff.mp (Ay hpar),Option.isNone_iff_eq_none.mp (Ay (AA hpar)),List.isEmpty_iff.mp (Ay (AA (AA hpar))),Option.isNone_iff_eq_none.mp (AA (AA (AA hpar)))⟩ B.nodup (fun {Q} hq=>?_) v1 v2 v3 ?_
 ·rcases hdV with ⟨rfl,rfl⟩ | ⟨a,n,dd,sl,rfl,ha⟩
  ·exact wpAny_pure (hq none rfl)
  ·exact wpAny_seqItems (KI _ _ ha) rfl (hq (some dv.toArray) rfl)
 show wpAny _ _ (newFunctionEnv scope mainGlobals [] ((params.args.map (·.arg)).zip (vs++dv.drop (vs.length+dv.length - params.args.length))) (qual++".<locals>.") (some fa) cdv none builtinsNs) _ _ s
 generalize vs++dv.drop (vs.length+dv.length - params.args.length)=fvs at hfull
 refine wpAny_newFunctionEnv_cells B.kind (fun z hz=>?_) fun env he s₁ IC=>?_
 ·obtain ⟨ar,har,hz2⟩:=List.mem_map.mp (List.of_mem_zip hz).1
  exact OQ (hz2▸B.args ar har) .inl fun h=>.inr ⟨h,Option.isSome_iff_exists.mpr ((QC scope.names).1 _ (.inr (mem_of_lookup h)))⟩
 ·obtain ⟨h',tk,rfl,kk⟩:=IC.done
  obtain ⟨G,own⟩:=QF T I B hps hfull hl (congrArg Env.scope he) (congrArg Env.globals he) (congrArg Env.builtins he) (congrArg Env.locals he) (congrArg Env.cells he) kk IC
  have I₁:AK X μ h' σ:=I.grow kk
  refine ⟨T.nolimit.keeps fun b o e=>I₁.keep b o e,codeAny_func ?_⟩
  have back:∀ {μ':A5} {h'':Heap},StpX (CC env) μ h' μ' h''→Stp μ s.heap μ' h'':=fun {μ' h''} SX=>
   (((Stp.grow kk trivial).toX I fun b hb=>I.fresh (own b hb)).trans SX).toStp fun b hb=>A8 (own b hb)
  obtain ⟨fl,ρ',σ₂⟩:=r
  obtain ⟨e2,e3⟩:=pQ e
  refine HU body (fun st _=>LH T CO st) (s:=AS s h' tk) G I₁ (A:=A.deeper env) ⟨h1,h2,h3⟩ hx fun f μ' h'' t I' SX G' r=>?_
  have I':AK X μ' h'' σ':=e3▸I'
  induction fl using AF.casesOn with
  | next=>obtain rfl:=r.n.1 rfl;exact q .none μ' h'' t I' (back SX) (e2▸.none)
  | ret v=>obtain ⟨u,rfl,ru⟩:=r.n.2 v rfl;exact q u μ' h'' t I' (back SX) (e2▸ru)
theorem K_:BG X 0:=fun _ _ _ _ _ e=>Ae e
theorem QG (T:Top X) (CO:BG X k) {f:Nat} {ca fI:Addr} {d:Def} {xs:List AV} {vs:List Value} {R:Result→Shared→Prop} (hCf:X.C f=some ca) (hmk:makesIn X.K ca=true) (hfi:findIn X.K (.ref ca) (Str.ofString "__init__")=some (some (.ref fI))) (hty:typeIn X.K (.ref fI)=some (.type "function"))
  (hFn:FnOk X fI d) (hrun:Gh X.P.gtup (AT X.P k) d (.loc σ.length::xs) (σ++[.inst f []])=some (.none,σ')) (I:AK X μ s.heap σ) (rs:VRs X.base s.heap μ vs xs) (o1:A.handled=none) (o2:A.depth+1+1+4*k+4 < recursionLimit) (o3:A.units+1+3+16*k+200 < cLine)
  (q:∀ v μ' h' t,AK X μ' h' σ'→Stp μ s.heap μ' h'→VR X.base h' μ' v (.loc σ.length)→R (.ok (.ret v)) (AS s h' t)):codeAny (model X.p X.w) A (.call (.ref ca) ⟨vs,[]⟩) R s:=by
 have KI:=N2 T I
 obtain ⟨hp,gs,dr,tk,os⟩:=s
 refine make_core (makes_of KI hmk) (looks_findIn KI hfi) (fun self=>bind_fn KI self hty) (.inl rfl) ?_
 have k2:=Aw (hp.push emptyDict) (instObj ca hp.objs.size)
 have kk:CB hp ((hp.push emptyDict).push (instObj ca hp.objs.size)):=fun b o e=>k2 b o (Aw hp emptyDict b o e)
 have hsz:(hp.push emptyDict).objs.size=hp.objs.size+1:=Heap.size_push ..
 have hinst:((hp.push emptyDict).push (instObj ca hp.objs.size)).get? (hp.objs.size+1)=some (instObj ca hp.objs.size):=hsz▸Heap.get?_push_size _ rfl
 have Iᵢ:=I.alloc (q:=(hp.objs.size+1,hp.objs.size)) (o:=.inst f []) kk (Nat.le_succ _) (Nat.le_refl _) (T.base_le I)
  (.inst _ _ f ca [] 0 (fun _=>none) [] hCf hinst (k2 _ _ (Heap.get?_push_size _ rfl)) (fun e he=>absurd he (Array.not_mem_empty e)) (fun _=>rfl) (Nat.le_refl _) (fun name g _=>rfl))
 have hself:VR X.base ((hp.push emptyDict).push (instObj ca hp.objs.size)) (μ++[(hp.objs.size+1,hp.objs.size)]) (.ref (hp.objs.size+1)) (.loc σ.length):=
  .loc σ.length (hp.objs.size+1,hp.objs.size) (by rw [←I.len,List.getElem?_append_right (Nat.le_refl _),Nat.sub_self];rfl)
 exact JS T CO hFn hrun Iᵢ (.cons _ _ _ _ hself (rs.mono (Kp.of_all kk))) o1 o2 o3 fun v μ' h' t I' S' rv=>by
  obtain rfl:v=.none:=rv.x
  exact ⟨rfl,q _ μ' h' t I' ((Stp.alloc kk trivial (Nat.le_succ _) (Nat.le_refl _)).trans S') (hself.step Iᵢ S')⟩
theorem FnVal.at {c m:Nat} {v:Value} (h:FnVal X (c,m) v):(c=0∧∃ x,code x=some m∧X.mg x=some v)∨∃ name ca fa,v=.ref fa∧X.C c=some ca∧code name=some m∧findIn X.K (.ref ca) name=some (some (.ref fa)):=by
 generalize hk:(c,m)=key at h
 induction h using FnVal.casesOn with
 | glob x f v g1 g2=>obtain ⟨e1,e2⟩:=pQ hk;exact .inl ⟨e1,x,e2▸g1,g2⟩
 | meth c' m' name ca fa g1 g2 g3=>obtain ⟨e1,e2⟩:=pQ hk;exact .inr ⟨name,ca,fa,rfl,e1▸g1,e2▸g2,g3⟩
theorem La (T:Top X) (Fs:Fns X) (CO:BG X k):BG X (k+1):=by
 intro key xs σ y σ' e fv hf A μ s vs Q E I rs O R
 obtain ⟨o1,o2,o3⟩:=O
 obtain ⟨c,m⟩:=key
 refine wpAny_call (MK e (fun j d hj h0 hc hd hrun ey=>?_) fun j d hj hc hd hrun=>?_)
 ·obtain rfl:=Nat.succ.inj hj
  obtain rfl:c=0:=h0
  rcases hf.at with ⟨_,x,g1,g2⟩ | ⟨_,ca,_,_,g1,_⟩
  ·obtain ⟨ca,fI,rfl,hCf,hmk,hfi,hty,hFn⟩:=Fs.cls x m d _ g1 hc hd g2
   exact QG T CO hCf hmk hfi hty hFn hrun I rs o1 (by show A.depth+1+1+4*k+4 < recursionLimit;exact om120 o2) (by show A.units+1+3+16*k+200 < cLine;omega) fun v μ' h' t I' S' rv=>R v μ' h' t I' S' (ey▸rv) nofun
  ·exact Ae (T.c0.symm.trans g1)
 ·obtain rfl:=Nat.succ.inj hj
  have fn:∃ fa,fv=.ref fa∧FnOk X fa d:=by
   rcases hf.at with ⟨rfl,x,g1,g2⟩ | ⟨name,ca,fa,rfl,g1,g2,g3⟩
   ·exact Fs.glob x m d _ g1 hc hd g2
   ·exact ⟨fa,rfl,Fs.meth c ca m name d fa g1 g2 hd g3⟩
  obtain ⟨fa,rfl,hF⟩:=fn
  exact JS T CO hF hrun I rs o1 (by exact om122 o2) (by omega) fun v μ' h' t I' S' rv=>R v μ' h' t I' S' rv nofun
theorem Mk (T:Top X) (Fs:Fns X) (k:Nat):BG X k:=by
 induction k with
 | zero=>exact K_
 | succ k ih=>exact La T Fs ih
end
end
section
theorem trim:∀ (n:Nat) (h:Heap),h.objs.size=n→∃ h₀:Heap,(∀ b,h₀.get? b=h.get? b)∧Tight h₀
 | 0,h,e=>⟨h,fun _=>rfl,.inl e⟩
 | n+1,h,e=>by
  cases ho:h.get? n with
  | some o=>exact ⟨h,fun _=>rfl,.inr ⟨o,by rw [e];exact ho⟩⟩
  | none=>
   obtain ⟨h₀,h1,h2⟩:=trim n ⟨h.objs.pop,h.life⟩ (by simp [e])
   refine ⟨h₀,fun b=>(h1 b).trans ?_,h2⟩
   rcases Nat.lt_trichotomy b n with hb | hb | hb
   ·unfold Heap.get?
    have:h.objs.pop[b]?=h.objs[b]?:=by
     rw [Array.getElem?_pop,if_pos (by exact om77 e hb)]
    simp only [this]
   ·subst hb
    rw [ho]
    unfold Heap.get?
    have:h.objs.pop[b]?=none:=by rw [Array.getElem?_eq_none_iff];simp [e]
    simp only [this]
   ·rw [A8 (h:=h) (b:=b) (by rw [e];exact hb),A8 (h:=⟨h.objs.pop,h.life⟩) (b:=b) (by simp [e];exact Nat.le_of_lt hb)]
noncomputable def Fn (n:Nat):Option Str:=(TR[n]?).map Str.ofString
noncomputable def BY (K:Frag) (n:Nat):Option Value:=Bi (Fn n) fun x=>Bi (nsIn K mainGlobals x) fun v=>v
theorem N6 {K:Frag} {h:Heap} {mg:Str→Option Value} (X:K.In h) (G:h.Ns mainGlobals mg) {n:Nat} {x:Str} (hx:Fn n=some x) {v:Value} (e:BY K n=some v):mg x=some v:=
 AI e fun y hy e1=>AI e1 fun u hu e2=>by
  obtain rfl:=oQ (hx.symm.trans hy)
  exact mg_of X G (hu.trans (congrArg some e2))
noncomputable def FV:Value→Bool
 | .none=>true
 | _=>false
theorem Fw {v:Value} (h:FV v=true):v=.none:=by
 induction v using Value.casesOn<;>first | rfl | exact absurd h bQ
noncomputable def Rv:Value→Option Addr
 | .ref a=>some a
 | _=>none
theorem Jq {v:Value} {a:Addr} (h:Rv v=some a):v=.ref a:=by
 induction v using Value.casesOn<;>first | exact congrArg Value.ref (oQ h) | exact Ae h
noncomputable def seqD:Data→Option (Array Value)
 | .seq vs _=>some vs
 | _=>none
theorem Rp {d:Data} {vs:Array Value} (h:seqD d=some vs):∃ n,d=.seq vs n:=by
 induction d using Data.casesOn<;>first | exact ⟨_,congrArg (Data.seq · _) (oQ h)⟩ | exact Ae h
noncomputable def J6 (K:Frag) (v:Value):Option (Array Value):=Bi (Rv v) fun a=>Bi (K.lookup a) fun o=>cond (o.cls==.type "tuple") (seqD o.data) none
theorem MB {K:Frag} {v:Value} {vs:Array Value} (h:J6 K v=some vs):∃ a n dd sl,v=.ref a∧K.lookup a=some ⟨.type "tuple",dd,.seq vs n,sl⟩:=
 AI h fun a ha h=>AI h fun o ho h=>BF h fun hc h=>(Rp h).elim fun n hn=>by
  obtain ⟨c,dd,d,sl⟩:=o
  obtain rfl:c=.type "tuple":=eq_of_beq hc
  obtain rfl:d=.seq vs n:=hn
  exact ⟨a,n,dd,sl,Jq ha,ho⟩
noncomputable def Me (K:Frag) (dV:Value) (n:Nat):Bool:=cond (FV dV) (Nat.beq n 0) (match J6 K dV with
 | some vs=>vs.toList.all FV&&Nat.beq vs.toList.length n
 | none=>false)
noncomputable def Ts:Data→Option FuncData
 | .func fd=>some fd
 | _=>none
theorem P5 {d:Data} {fd:FuncData} (h:Ts d=some fd):d=.func fd:=by
 induction d using Data.casesOn<;>first | exact congrArg Data.func (oQ h) | exact Ae h
noncomputable def OS:FuncBody→Option (List Stmt)
 | .stmts b=>some b
 | .expr _=>none
noncomputable def P8 (K:Frag) (v:Option Value):Option Def:=Bi v fun v=>Bi (Rv v) fun fa=>Bi (K.lookup fa) fun o=>Bi (Ts o.data) fun fd=>Bi (OS fd.body) fun body=>
 cond (Nat.beq fd.globals mainGlobals&&(Nat.beq fd.builtins builtinsNs&&(fd.closure.isEmpty&&(FV fd.kwdefaults&&(codeIn K fd.code fd.qualname&&(Gu fd.params fd.scope&&Me K fd.defaults fd.params.defaults.length)))))) (Ty fd.params fd.scope body) none
theorem Qm {K:Frag} {dV:Value} {n:Nat} (h:Me K dV n=true):∃ dv:List Value,((dV=.none∧dv=[])∨∃ a m dd sl,dV=.ref a∧K.lookup a=some ⟨.type "tuple",dd,.seq dv.toArray m,sl⟩)∧(∀ v∈dv,v=Value.none)∧dv.length=n:=by
 unfold Me at h
 generalize hb:FV dV=b at h
 induction b using Bool.casesOn with
 | true=>exact ⟨[],.inl ⟨Fw hb,rfl⟩,fun _ h=>absurd h List.not_mem_nil,(Nat.eq_of_beq_eq_true h).symm⟩
 | false=>
  generalize ht:J6 K dV=o at h
  induction o using Option.casesOn with
  | none=>exact absurd h bQ
  | some vs=>
   obtain ⟨a,m,dd,sl,h1,h2⟩:=MB ht
   exact ⟨vs.toList,.inr ⟨a,m,dd,sl,h1,h2⟩,fun v hv=>Fw (List.all_eq_true.mp (Ay h) v hv),Nat.eq_of_beq_eq_true (AA h)⟩
theorem fd_eq {fd:FuncData} {b:List Stmt} (h1:fd.globals=mainGlobals) (h2:fd.builtins=builtinsNs) (h3:fd.closure=[]) (h4:fd.kwdefaults=.none) (h5:fd.body=.stmts b):fd=fnOf fd.name fd.qualname fd.params b fd.scope fd.defaults .none fd.doc fd.pyModule fd.annotations fd.code fd.closureTuple:=by
 obtain ⟨nm,qual,params,bd,scope,g,cl,dV,kw,doc,pm,an,cdv,ct,bl⟩:=fd
 obtain rfl:g=_:=h1
 obtain rfl:bl=_:=h2
 obtain rfl:cl=_:=h3
 obtain rfl:kw=_:=h4
 obtain rfl:bd=_:=h5
 rfl
theorem T_ {o:Obj} {d:Data} (h:o.data=d):o=⟨o.cls,o.dict,d,o.slots⟩:=by subst h;rfl
theorem ND {y:FuncBody} {b:List Stmt} (h:OS y=some b):y=.stmts b:=by
 induction y using FuncBody.casesOn with
 | expr _=>exact Ae h
 | stmts c=>exact congrArg FuncBody.stmts (oQ h)
theorem Sd {X:Cx} {v:Option Value} {d:Def} (h:P8 X.K v=some d):∃ fa,v=some (.ref fa)∧FnOk X fa d:=
 AI h fun v hv h=>AI h fun fa hf h=>AI h fun o ho h=>AI h fun fd hd h=>AI h fun body hb h=>BF h fun hc hz=>
  have hc2:=AA hc
  have hc3:=AA hc2
  have hc4:=AA hc3
  have hc5:=AA hc4
  (Qm (AA (AA hc5))).elim fun dv D=>⟨fa,hv.trans (congrArg some (Jq hf)),fd.name,fd.qualname,fd.params,body,fd.scope,fd.defaults,fd.doc,fd.pyModule,fd.annotations,fd.code,fd.closureTuple,o.cls,o.dict,o.slots,dv,
   ho.trans (congrArg some (T_ ((P5 hd).trans (congrArg Data.func (fd_eq (Nat.eq_of_beq_eq_true (Ay hc)) (Nat.eq_of_beq_eq_true (Ay hc2)) (List.isEmpty_iff.mp (Ay hc3)) (Fw (Ay hc4)) (ND hb)))))),
   Ay hc5,hz,Ay (AA hc5),D.1,D.2.1,D.2.2⟩
noncomputable def strV (n:Nat):Value→Bool
 | .str s _=>code s==some n
 | _=>false
noncomputable def LG:List Value→List Nat→Bool
 | [],[]=>true
 | v::vs,n::l=>strV n v&&LG vs l
 | _,_=>false
noncomputable def DQ (K:Frag) (v:Option Value) (l:List Nat):Bool:=match Bi v (J6 K) with
 | some vs=>LG vs.toList l
 | none=>false
theorem TS {base h:Heap} {μ:A5} {n:Nat} {v:Value} (e:strV n v=true):VR base h μ v (.str n):=by
 induction v using Value.casesOn with
 | str s t=>exact .str s t n (eq_of_beq e)
 | _=>exact absurd e bQ
theorem LF {base h:Heap} {μ:A5} {vs:List Value}:∀ {l:List Nat},LG vs l=true→VRs base h μ vs (l.map .str):=by
 induction vs with
 | nil=>
  intro l e
  induction l using List.casesOn with
  | nil=>exact .nil
  | cons _ _=>exact absurd e bQ
 | cons v vs ih=>
  intro l e
  induction l using List.casesOn with
  | nil=>exact absurd e bQ
  | cons n l=>exact .cons _ _ _ _ (TS (Ay e)) (ih (AA e))
theorem TH {K:Frag} {base h:Heap} {μ:A5} (X:K.In h) {v:Option Value} {l:List Nat} (e:DQ K v l=true):∃ u,v=some u∧VR base h μ u (.tup (l.map .str)):=by
 unfold DQ at e
 generalize ho:Bi v (J6 K)=o at e
 induction o using Option.casesOn with
 | none=>exact absurd e bQ
 | some vs=>exact AI ho fun u hu ht=>(MB ht).elim fun a h=>h.elim fun n h=>h.elim fun dd h=>h.elim fun sl h=>⟨u,hu,h.1▸.tup a vs.toList _ (tupK X h.2) (LF e)⟩
end
section
theorem Dj {x:Str} {n:Nat} (h:code x=some n):Fn n=some x:=
 Mg h fun y hy e=>by
  unfold Fn
  rw [hy]
  show some (Str.ofString y)=some x
  generalize Str.ofString y=z at e
  obtain ⟨xc⟩:=x
  obtain ⟨zc⟩:=z
  exact congrArg (fun c=>some (Str.mk c)) (Array.toList_inj.mp e).symm
theorem EU {K:Frag} {h:Heap} {mg:Str→Option Value} (X:K.In h) (G:h.Ns mainGlobals mg) {n:Nat} {x:Str} (hx:code x=some n) {v:Value} (e:BY K n=some v):mg x=some v:=N6 X G (Dj hx) e
noncomputable def DA (K:Frag) (n:Nat):Option Addr:=cond (Dx n) (Bi (BY K n) Rv) none
noncomputable def HE (K:Frag) (c m:Nat):Option Value:=Bi (DA K c) fun ca=>Bi (Fn m) fun x=>Bi (findIn K (.ref ca) x) fun v=>v
noncomputable def Qn (K:Frag) (f:Nat×Nat):Option Value:=cond (Nat.beq f.1 0) (BY K f.2) (HE K f.1 f.2)
noncomputable def NP {α:Type} (o:Option α) (f:α→Bool):Bool:=match o with
 | some x=>f x
 | none=>false
theorem GJ {α:Type} {o:Option α} {f:α→Bool} {P:Prop} (h:NP o f=true) (k:∀ x,o=some x→f x=true→P):P:=by
 induction o using Option.casesOn with
 | none=>exact absurd h bQ
 | some x=>exact k x rfl h
noncomputable def M6 (K:Frag) (f:Nat×Nat):Bool:=Nat.beq f.1 0 || NP (DA K f.1) fun ca=>NP (HE K f.1 f.2) fun v=>plainGet K ca (Str.ofString "")&&(isFn K v&&keepIn K v)
noncomputable def Nr (K:Frag) (c f:Nat):Bool:=NP (DA K c) fun ca=>NP (Fn f) fun x=>plainGet K ca x&&(hasDictIn K ca&&(NP (findIn K (.ref ca) x) (noGet K)&&((findIn K (.ref ca) (Str.ofString "__setattr__")==some (some (.builtin "object.__setattr__")))&&(plainOver K ca&&(takerIn K ca x==some none)))))
noncomputable def QA (K:Frag) (c:Nat):Bool:=NP (DA K c) fun ca=>keepIn K (.ref ca)&&(makesIn K ca&&NP (findIn K (.ref ca) (Str.ofString "__init__")) fun v=>NP v fun v=>typeIn K v==some (.type "function"))
noncomputable def TD (K:Frag) (n:Nat):Bool:=NP (Fn n) fun x=>NP (Lk n) fun b=>nsIn K mainGlobals x==some none&&(bootBuiltins x==some (Np b)&&!(x==Str.ofString "__name__"))
structure Chk (P:Params) (K:Frag):Prop where
 defs:(defsL.map fun kd=>P8 K (Qn K kd.1))=defsL.map fun kd=>some kd.2
 flags:(defsL.all fun kd=>M6 K kd.1)=true
 cls:([18,19,20,21].all fun c=>QA K c)=true
 attr:([18,19,20,21].all fun c=>[167,64,154,77,214,137,78,110,73,182].all fun f=>Nr K c f)=true
 bi:([7,8,9,10,11,12].all fun n=>TD K n)=true
 tup:(DQ K (BY K 14) [33,23,30,32,34,35]&&DQ K (BY K 15) [128,79]&&DQ K (BY K 16) [128,79])=true
 bits:∃ a es n t,BY K 13=some (.ref a)∧K.lookup a=some ⟨.type "dict",none,.dict es n,#[]⟩∧KeysLit P es.toList∧findBy Value.isStrOf es (Str.ofString "u8")=some (.int 8 t)
theorem Gv {f:Nat×Nat} {d:Def} {l:List ((Nat×Nat)×Def)}:FY f l=some d→(f,d)∈l:=by
 induction l with
 | nil=>exact fun h=>Ae h
 | cons a r ih=>
  obtain ⟨g,e⟩:=a
  intro h
  have h:(if (Nat.beq f.1 g.1&&Nat.beq f.2 g.2)=true then some e else FY f r)=some d:=h
  by_cases hc:(Nat.beq f.1 g.1&&Nat.beq f.2 g.2)=true
  ·rw [if_pos hc] at h
   rw [show f=g from Prod.ext (Nat.eq_of_beq_eq_true (Ay hc)) (Nat.eq_of_beq_eq_true (AA hc)),oQ h]
   exact .head _
  ·rw [if_neg hc] at h;exact .tail _ (ih h)
theorem noKey {n:Nat} (h:(defsL.all fun kd=>!Nat.beq kd.1.2 n)=true) (c:Nat):FY (c,n) defsL=none:=by
 generalize e:FY (c,n) defsL=o
 induction o using Option.casesOn with
 | none=>rfl
 | some d=>
  have:=List.all_eq_true.mp h _ (Gv e)
  rw [show Nat.beq ((c,n),d).1.2 n=true from Nat.beq_refl n] at this
  exact absurd this bQ
theorem HM {n:Nat} (h:Dx n=true):n∈[18,19,20,21]:=by
 have h1:=Nat.le_of_ble_eq_true (Ay h)
 have h2:=Nat.le_of_ble_eq_true (AA h)
 obtain ⟨d,rfl⟩:=Nat.le.dest h1
 have h3:d≤3:=Nat.le_of_add_le_add_left h2
 revert h3
 rcases d with _ | _ | _ | _ | d
 ·exact fun _=>.head _
 ·exact fun _=>.tail _ (.head _)
 ·exact fun _=>.tail _ (.tail _ (.head _))
 ·exact fun _=>.tail _ (.tail _ (.tail _ (.head _)))
 ·exact fun h=>absurd h (Nat.not_le_of_lt (Nat.lt_add_of_pos_left (Nat.succ_pos d)))
theorem GW {K:Frag} {c:Nat} {ca:Addr} (h:DA K c=some ca):Dx c=true∧BY K c=some (.ref ca):=
 BF h fun hc h=>AI h fun v hv h=>⟨hc,hv.trans (congrArg some (Jq h))⟩
section
variable {p:Program} {w:World} {K:Frag} {base:Heap} {mg mb:Str→Option Value}
noncomputable def Od (p:Program) (w:World) (K:Frag) (base:Heap) (mg mb:Str→Option Value):Cx:=⟨p,w,K,base,mg,mb,DA K,prog⟩
theorem Chk.fn (T:Chk w.params K) {f:Nat×Nat} {d:Def} (h:FY f defsL=some d):∃ fa,Qn K f=some (.ref fa)∧FnOk (Od p w K base mg mb) fa d:=
 Sd (X:=Od p w K base mg mb) (List.map_inj_left.mp T.defs (f,d) (Gv h))
theorem RS {K:Frag} {fa:Addr} {oc:Value} {od:Option Addr} {fd:FuncData} {osl:Array (Option Value)} (h:K.lookup fa=some ⟨oc,od,.func fd,osl⟩):keepIn K (.ref fa)=true:=by
 simp only [PySem.W.keepIn,h]
theorem FnOk.keepIn {X:Cx} {fa:Addr} {d:Def} (F:FnOk X fa d):keepIn X.K (.ref fa)=true:=by
 induction F using FnOk.casesOn with
 | mk name qual params body scope dV doc pm an cdv ct oc od osl dv hK=>exact RS hK
theorem Chk.meth (T:Chk w.params K) {c m:Nat} {ca:Addr} {name:Str} {d:Def} (hc:DA K c=some ca) (hn:code name=some m) (hd:FY (c,m) defsL=some d) :
  ∃ fa,plainGet K ca name=true∧findIn K (.ref ca) name=some (some (.ref fa))∧isFn K (.ref fa)=true∧PySem.W.keepIn K (.ref fa)=true∧FnOk (Od p w K base mg mb) fa d:=by
 obtain ⟨fa,h1,h2⟩:=T.fn (p:=p) (base:=base) (mg:=mg) (mb:=mb) hd
 have hc0:Nat.beq c 0=false:=by
  generalize hb:Nat.beq c 0=b
  induction b using Bool.casesOn with
  | false=>rfl
  | true=>obtain rfl:=Nat.eq_of_beq_eq_true hb;exact Ae hc
 have h1:HE K c m=some (.ref fa):=by
  have h:cond (Nat.beq c 0) (BY K m) (HE K c m)=some (.ref fa):=h1
  rw [hc0] at h;exact h
 have hf:(Nat.beq c 0 || NP (DA K c) fun ca=>NP (HE K c m) fun v=>plainGet K ca (Str.ofString "")&&(isFn K v&&PySem.W.keepIn K v))=true:=List.all_eq_true.mp T.flags (((c,m),d)) (Gv hd)
 rw [hc0,hc,h1] at hf
 refine ⟨fa,Ay hf,?_,Ay (AA hf),AA (AA hf),h2⟩
 exact AI h1 fun ca' g1 k1=>AI k1 fun x g2 k2=>AI k2 fun v g3 k3=>by
  obtain rfl:=oQ (hc.symm.trans g1)
  obtain rfl:=oQ ((Dj hn).symm.trans g2)
  exact g3.trans (congrArg some k3)
theorem Chk.clsOf (T:Chk w.params K) {c:Nat} (hc:Dx c=true):∃ ca fI,BY K c=some (.ref ca)∧DA K c=some ca∧PySem.W.keepIn K (.ref ca)=true∧makesIn K ca=true∧findIn K (.ref ca) (Str.ofString "__init__")=some (some fI)∧typeIn K fI=some (.type "function"):=
 GJ (List.all_eq_true.mp T.cls c (HM hc)) fun ca h h1=>GJ (AA (AA h1)) fun o ho h2=>GJ h2 fun v hv h3=>⟨ca,v,(GW h).2,h,Ay h1,Ay (AA h1),ho.trans (congrArg some hv),eq_of_beq h3⟩
theorem R9 {n:Nat} {l:List Nat} {P:Prop} (h:Tr n=some l) (k1:n=14→l=[33,23,30,32,34,35]→P) (k2:n=15→l=[128,79]→P) (k3:n=16→l=[128,79]→P):P:=by
 have h:(if n=14 then some [33,23,30,32,34,35] else if n=15 then some [128,79] else if n=16 then some [128,79] else none)=some l:=h
 by_cases e1:n=14
 ·rw [if_pos e1] at h;exact k1 e1 (oQ h).symm
 ·rw [if_neg e1] at h
  by_cases e2:n=15
  ·rw [if_pos e2] at h;exact k2 e2 (oQ h).symm
  ·rw [if_neg e2] at h;exact Iv h fun e3 h=>k3 e3 (oQ h).symm
theorem QX {n:Nat} {b:BI} (h:Lk n=some b):n∈[7,8,9,10,11,12]:=by
 unfold Lk at h
 by_cases e:n=7
 ·exact e▸.head _
 ·rw [if_neg e] at h
  by_cases e:n=8
  ·exact e▸.tail _ (.head _)
  ·rw [if_neg e] at h
   by_cases e:n=9
   ·exact e▸.tail _ (.tail _ (.head _))
   ·rw [if_neg e] at h
    by_cases e:n=10
    ·exact e▸.tail _ (.tail _ (.tail _ (.head _)))
    ·rw [if_neg e] at h
     by_cases e:n=11
     ·exact e▸.tail _ (.tail _ (.tail _ (.tail _ (.head _))))
     ·rw [if_neg e] at h;exact Iv h fun e _=>e▸.tail _ (.tail _ (.tail _ (.tail _ (.tail _ (.head _)))))
theorem TI (T:Chk w.params K) (kin:K.In base) (g:base.Ns mainGlobals mg) (b:base.Ns builtinsNs mb) (hb:∀ x:Str,x≠"__name__"→mb x=bootBuiltins x) (nolimit:base.NoLimit) (big:sysModules < base.objs.size) (tight:Tight base) :
  Top (Od p w K base mg mb) where
 kin:=kin
 g:=g
 b:=b
 nolimit:=nolimit
 big:=big
 tight:=tight
 fnv:=fun x f d hx _ hd=>(T.fn (p:=p) (base:=base) (mg:=mg) (mb:=mb) hd).elim fun fa h=>⟨fa,EU kin g hx h.1,h.2.keepIn⟩
 clsv:=fun x f d hx hc _=>(T.clsOf hc).elim fun ca h=>h.elim fun fI h=>⟨ca,EU kin g hx h.1,h.2.2.1⟩
 c0:=(rfl:DA K 0=none)
 meth:=fun c ca m name d hc hn hd=>(T.meth (p:=p) (base:=base) (mg:=mg) (mb:=mb) hc hn hd).imp fun fa h=>⟨h.1,h.2.1,h.2.2.1,h.2.2.2.1⟩
 gtup:=fun x n l hx hl=>
  have key:DQ K (BY K n) l=true:=R9 hl (fun e1 e2=>e1▸e2▸Ay (Ay T.tup)) (fun e1 e2=>e1▸e2▸AA (Ay T.tup)) fun e1 e2=>e1▸e2▸AA T.tup
  (TH (base:=base) (h:=base) (μ:=[]) kin key).imp fun u h=>⟨EU kin g hx h.1,h.2⟩
 bival:=fun x n b' hx hb'=>GJ (List.all_eq_true.mp T.bi n (QX hb')) fun y hy h=>GJ h fun c hc h=>by
  obtain rfl:=oQ ((Dj hx).symm.trans hy)
  obtain rfl:=oQ (hb'.symm.trans hc)
  exact ⟨mg_none_of kin g (eq_of_beq (Ay h)),(hb x fun e=>by rw [e] at h;exact absurd (AA (AA h)) (by decide)).trans (eq_of_beq (Ay (AA h)))⟩
 bits:=fun x hx=>T.bits.elim fun a h=>h.elim fun es h=>h.elim fun n h=>h.elim fun t h=>⟨a,_,t,EU kin g hx h.1,mapOf_K kin h.2.1 h.2.2.1,h.2.2.2⟩
 attr:=fun name f c ca hf hn hc=>GJ (List.all_eq_true.mp (List.all_eq_true.mp T.attr c (HM (GW hc).1)) f ((List.any_eq_true.mp hf).elim fun y hy=>Nat.eq_of_beq_eq_true hy.2▸hy.1)) fun ca' h1 h=>GJ h fun x h2 h=>by
  obtain rfl:=oQ (Eq.trans (Eq.symm hc) h1)
  obtain rfl:=oQ ((Dj hn).symm.trans h2)
  have h3:=AA (AA h)
  exact ⟨Ay h,Ay (AA h),GJ (Ay h3) fun a ha hb=>⟨a,ha,hb⟩,eq_of_beq (Ay (AA h3)),Ay (AA (AA h3)),eq_of_beq (AA (AA (AA h3)))⟩
 noget:=fun c=>noKey (by decide) c
 nogetC:=(by decide:Dx 6=false)
theorem Up (T:Chk w.params K) (kin:K.In base) (g:base.Ns mainGlobals mg):Fns (Od p w K base mg mb) where
 glob:=fun x f d v hx _ hd hv=>(T.fn (p:=p) (base:=base) (mg:=mg) (mb:=mb) hd).imp fun fa h=>⟨oQ ((show mg x=some v from hv).symm.trans (EU kin g hx h.1)),h.2⟩
 meth:=fun c ca m name d fa hc hn hd hf=>(T.meth (p:=p) (base:=base) (mg:=mg) (mb:=mb) hc hn hd).elim fun fa' h=>
  Value.ref.inj (oQ (oQ (h.2.1.symm.trans hf)))▸h.2.2.2.2
 cls:=fun x f d v hx hc hd hv=>(T.clsOf hc).elim fun ca h=>h.elim fun fI h=>(T.meth (p:=p) (base:=base) (mg:=mg) (mb:=mb) h.2.1 (name:=Str.ofString "__init__") (by decide:code (Str.ofString "__init__")=some 17) hd).elim fun fa q=>
  have e:=oQ (oQ (h.2.2.2.2.1.symm.trans q.2.1))
  ⟨ca,fa,oQ ((show mg x=some v from hv).symm.trans (EU kin g hx h.1)),h.2.1,h.2.2.2.1,q.2.1,e▸h.2.2.2.2.2,q.2.2.2.2⟩
end
end
section
theorem Un {K:Frag} {h:Heap} (X:K.In h) {a:Addr} (e:(K.lookup a).isSome=true):a < h.objs.size:=by
 obtain ⟨o,ho⟩:=Option.isSome_iff_exists.mp e
 exact Heap.lt_size (X a o ho)
theorem PK {p:Program} {w:World} {K:Frag} {mg mb:Str→Option Value} {s₁:Shared} {fa a:Addr} {vs:List Value} {ns:List Int} {R:Result→Shared→Prop} (T:Chk w.params K) (X:K.In s₁.heap) (big:(K.lookup 590).isSome=true)
  (g:s₁.heap.Ns mainGlobals mg) (b:s₁.heap.Ns builtinsNs mb) (hb:∀ x:Str,x≠"__name__"→mb x=bootBuiltins x) (nl:s₁.heap.NoLimit) (hmg:mg (Str.ofString "law")=some (.ref fa)) (hL:s₁.heap.IsList a vs.toArray) (hI:IntsAre vs ns)
  (law:∃ σ',AT prog 150 (0,N3) [.glist ns] []=some (.bool true,σ')) (q:∀ h' t,(∀ b o,s₁.heap.get? b=some o→h'.get? b=some o)→R (.ok (.ret (.bool true))) { s₁ with heap:=h',toks:=t }) :
  codeAny (model p w) callerA (.call (.ref fa) ⟨[.ref a],[]⟩) R s₁:=by
 obtain ⟨base,hbase,tight⟩:=trim _ s₁.heap rfl
 have kb:∀ b o,s₁.heap.get? b=some o→base.get? b=some o:=fun b o e=>(hbase b).trans e
 have kin:=Frag.In.keeps X kb
 have gb:=g.keeps kb
 have TT:=TI (p:=p) (w:=w) T kin gb (b.keeps kb) hb (nl.keeps kb) (Nat.lt_trans (by decide:sysModules < 590) (Un kin big)) tight
 have FF:=Up (p:=p) (w:=w) (mb:=mb) T kin gb
 obtain ⟨fa',e1,FO⟩:=FF.glob (Str.ofString "law") 140 f_law (.ref fa) (by decide:code (Str.ofString "law")=some 140) (by decide:Dx 140=false) (by rfl:FY (0,140) defsL=some f_law) hmg
 cases e1
 obtain ⟨σ',hrun⟩:=law
 have hrun':=RL 149 _ hrun
 have I:AK (Od p w K base mg mb) [] s₁.heap []:=⟨fun b o e=>(hbase b).symm.trans e,rfl,by simp,by simp,by simp⟩
 refine JS TT (Mk TT FF 149) FO hrun' I (.cons _ _ _ _ (.glist a vs ns (let ⟨o,e,r⟩:=hL;⟨o,kb a o e,r⟩) hI) .nil) rfl ?_ ?_ fun v μ' h' t I' S' rv=>?_
 ·show 301+1+4*149+4 < 1000;decide
 ·show 4+3+16*149+200 < 9900;decide
 ·cases rv
  exact q h' t fun b o e=>S'.kept b o e (by simp [Off])
end
end Mine
open PySem
namespace Mine
namespace B
section
noncomputable abbrev Ev (k:Nat) (e:PE) (ρ:At) (σ:St) (v:AV) (σ':St):Prop:=ev prog.gtup (AT prog k) e ρ σ=some (v,σ')
noncomputable abbrev Nu (k:Nat) (e:List PE) (ρ:At) (σ:St) (v:List AV) (σ':St):Prop:=J5 prog.gtup (AT prog k) e ρ σ=some (v,σ')
noncomputable abbrev Ca (k:Nat) (f:Nat×Nat) (args:List AV) (σ:St) (v:AV) (σ':St):Prop:=AT prog k f args σ=some (v,σ')
noncomputable abbrev Xs (k:Nat) (b:List PS) (ρ:At) (σ:St) (r:AF×At×St):Prop:=DD prog.gtup (AT prog k) b ρ σ=some r
noncomputable abbrev X1 (k:Nat) (b:PS) (ρ:At) (σ:St) (r:AF×At×St):Prop:=ex prog.gtup (AT prog k) b ρ σ=some r
section
variable {k:Nat} {ρ ρ' ρ₁:At} {σ σ' σ₁ σ₂ σ₃ σ₄:St} {a b o i e:PE} {v x y:AV} {vs:List AV} {n c m f:Nat} {l:List (Nat×AV)} {L:List AV} {D:List (Int×AV)} {args:List PE} {B B' R:List PS} {r:AF×At×St} {fl:AF}
theorem As (ha:Ev k a ρ σ x σ₁) (hi:Ev k i ρ σ₁ y σ₂) (h:CM σ₂ x y=some v):Ev k (.idx a i) ρ σ v σ₂:=Ap ha (Ap hi (congrArg (Option.map _) h))
theorem AN (ha:Ev k a ρ σ (.loc n) σ₁) (hs:σ₁[n]?=some (.inst c l)) (h:look f l=some v):Ev k (.attr a f) ρ σ v σ₁:=Ap ha (congrArg (Option.map _) (show (match σ₁[n]? with | some (.inst _ l)=>look f l | _=>none)=some v by rw [hs];exact h))
theorem Al {op:CmpOp} {t:Bool} (ha:Ev k a ρ σ x σ₁) (hb:Ev k b ρ σ₁ y σ₂) (h:A9 σ₂ op x y=some t):Ev k (.cmp op a b) ρ σ (.bool t) σ₂:=Ap ha (Ap hb (congrArg (Option.map _) h))
theorem Qj {op op':CmpOp} {t:Bool} {z:AV} {w:PE} (ha:Ev k a ρ σ x σ₁) (hb:Ev k b ρ σ₁ y σ₂) (h:A9 σ₂ op x y=some true) (hc:Ev k w ρ σ₂ z σ₃) (h2:A9 σ₃ op' y z=some t):Ev k (.cmp2 op op' a b w) ρ σ (.bool t) σ₃:=
 Ap ha (Ap hb (AE h (Ap hc (congrArg (Option.map _) h2))))
theorem Qk {op op':CmpOp} {w:PE} (ha:Ev k a ρ σ x σ₁) (hb:Ev k b ρ σ₁ y σ₂) (h:A9 σ₂ op x y=some false):Ev k (.cmp2 op op' a b w) ρ σ (.bool false) σ₂:=Ap ha (Ap hb (AE h rfl))
theorem F4 {t:Bool} (ha:Ev k a ρ σ x σ₁) (h:truth x=some t):Ev k (.not a) ρ σ (.bool (!t)) σ₁:=Ap ha (congrArg (Option.map _) h)
theorem Bj {op:Operator} (ha:Ev k a ρ σ x σ₁) (hb:Ev k b ρ σ₁ y σ₂) (h:IB σ₂ op x y=some (v,σ₃)):Ev k (.bin op a b) ρ σ v σ₃:=Ap ha (Ap hb h)
theorem Fe {t:Bool} (ha:Ev k e ρ σ x σ₁) (h:truth x=some t) (hb:Ev k (if t then a else b) ρ σ₁ v σ₂):Ev k (.ite e a b) ρ σ v σ₂:=Ap ha (AE h (by cases t<;>exact hb))
theorem Bl (ha:Ev k e ρ σ x σ₁) (h:truth x=some true) (hb:Ev k a ρ σ₁ v σ₂):Ev k (.ite e a b) ρ σ v σ₂:=Fe ha h hb
theorem Bh (ha:Ev k e ρ σ x σ₁) (h:truth x=some false) (hb:Ev k b ρ σ₁ v σ₂):Ev k (.ite e a b) ρ σ v σ₂:=Fe ha h hb
theorem Au (h:Nu k args ρ σ vs σ₁):Ev k (.tup args) ρ σ (.tup vs) σ₁:=Ap h rfl
theorem Ar (h:Nu k args ρ σ vs σ₁):Ev k (.list args) ρ σ (.loc σ₁.length) (σ₁++[.list vs]):=Ap h rfl
theorem Bw {w:AO} (h:Nu k args ρ σ vs σ₁) (hd:KY vs=some w):Ev k (.dict args) ρ σ (.loc σ₁.length) (σ₁++[w]):=Ap h (congrArg (Option.map _) hd)
theorem Am (h:Nu k args ρ σ vs σ₁) (hc:Ca k (0,f) vs σ₁ v σ₂):Ev k (.call f args) ρ σ v σ₂:=Ap h hc
theorem Bx {B:BI} (h:Nu k args ρ σ vs σ₁) (hc:DB B vs σ₁=some (v,σ₂)):Ev k (.blt B args) ρ σ v σ₂:=Ap h hc
theorem RH (hs:σ₁[n]?=some (.inst c l)) (hm:look m l=none):Es σ₁ (.loc n) m=some (.fn c m):=by simp only [Es,hs,hm]
theorem Ax (ho:Ev k o ρ σ (.loc n) σ₁) (hs:σ₁[n]?=some (.inst c l)) (hm:look m l=none) (h:Nu k args ρ σ₁ vs σ₂) (hc:Ca k (c,m) (.loc n::vs) σ₂ v σ₃):Ev k (.meth o m args) ρ σ v σ₃:=Ap ho (AE (RH hs hm) (Ap h hc))
theorem O1 {d:Bool} (h:σ[n]?=some (.list L)∧d=false∨σ[n]?=some (.dI D)∧d=true):Es σ (.loc n) m=some (.bl d m):=by
 rcases h with ⟨h,rfl⟩ | ⟨h,rfl⟩<;>simp only [Es,h]
theorem M_ {d:Bool} (ho:Ev k o ρ σ (.loc n) σ₁) (hm:Es σ₁ (.loc n) m=some (.bl d m)) (h:Nu k args ρ σ₁ vs σ₂) (hc:Db d m (.loc n) vs σ₂=some (v,σ₃)):Ev k (.meth o m args) ρ σ v σ₃:=
 Ap ho (AE hm (Ap h (show T0 (AT prog k) (.loc n) vs σ₂ (.bl d m)=some (v,σ₃) from hc)))
theorem CI (ho:Ev k o ρ σ (.loc n) σ₁) (hs:σ₁[n]?=some (.list L)) (h:Nu k args ρ σ₁ vs σ₂) (hc:Db false m (.loc n) vs σ₂=some (v,σ₃)):Ev k (.meth o m args) ρ σ v σ₃:=M_ ho (O1 (D:=[]) (.inl ⟨hs,rfl⟩)) h hc
theorem CY (ho:Ev k o ρ σ (.loc n) σ₁) (hs:σ₁[n]?=some (.dI D)) (h:Nu k args ρ σ₁ vs σ₂) (hc:Db true m (.loc n) vs σ₂=some (v,σ₃)):Ev k (.meth o m args) ρ σ v σ₃:=M_ ho (O1 (L:=[]) (.inr ⟨hs,rfl⟩)) h hc
theorem Ai:Nu k [] ρ σ [] σ:=rfl
theorem Aa (h:Ev k e ρ σ v σ₁) (h2:Nu k args ρ σ₁ vs σ₂):Nu k (e::args) ρ σ (v::vs) σ₂:=Ap h (Ap h2 rfl)
theorem A4 {es:List PE} (h:Ev k e ρ σ x σ₁) (ht:truth x=some false):Ev k (.bop .And (e::a::es)) ρ σ x σ₁:=Ap h (AE ht rfl)
theorem A0 {es:List PE} (h:Ev k e ρ σ x σ₁) (ht:truth x=some true) (h2:Ev k (.bop .And (a::es)) ρ σ₁ v σ₂):Ev k (.bop .And (e::a::es)) ρ σ v σ₂:=Ap h (AE ht h2)
theorem Dy {es:List PE} (h:Ev k e ρ σ x σ₁) (ht:truth x=some true):Ev k (.bop .Or (e::a::es)) ρ σ x σ₁:=Ap h (AE ht rfl)
theorem B6 {es:List PE} (h:Ev k e ρ σ x σ₁) (ht:truth x=some false) (h2:Ev k (.bop .Or (a::es)) ρ σ₁ v σ₂):Ev k (.bop .Or (e::a::es)) ρ σ v σ₂:=Ap h (AE ht h2)
theorem AY {op:BoolOp} (h:Ev k e ρ σ x σ₁):Ev k (.bop op [e]) ρ σ x σ₁:=h
theorem FA:Xs k [] ρ σ (.next,ρ,σ):=rfl
theorem OB {p:PS} {R':List PS} (h:X1 k p ρ σ (.next,ρ₁,σ₁)) (h2:Xs k R' ρ₁ σ₁ r):Xs k (p::R') ρ σ r:=EZ h h2
theorem Lv {p:PS} {R':List PS} (h:X1 k p ρ σ (.ret v,ρ₁,σ₁)):Xs k (p::R') ρ σ (.ret v,ρ₁,σ₁):=Ib h
theorem Ah {g:PG} {R':List PS} {z:At×St} (h:Ev k e ρ σ v σ₁) (ha:Mx prog.gtup (AT prog k) g v ρ σ₁=some z) (h2:Xs k R' z.1 z.2 r):Xs k (.asg g e::R') ρ σ r:=OB (Ap h (congrArg (Option.map _) ha)) h2
theorem Az {R':List PS} (h:Ev k e ρ σ v σ₁):Xs k (.ret e::R') ρ σ (.ret v,ρ,σ₁):=Lv (Ap h rfl)
theorem A1 {R':List PS} (h:Ev k e ρ σ v σ₁) (h2:Xs k R' ρ σ₁ r):Xs k (.expr e::R') ρ σ r:=OB (Ap h rfl) h2
theorem test_ok {t:Bool} (h:Ev k e ρ σ x σ₁) (ht:truth x=some t):DE prog.gtup (AT prog k) e ρ σ=some (t,σ₁):=Ap h (congrArg (Option.map _) ht)
theorem x_if {t:Bool} (h:Ev k e ρ σ x σ₁) (ht:truth x=some t) (h1:Xs k (if t then B else B') ρ σ₁ r):X1 k (.ifs e B B') ρ σ r:=Ap (test_ok h ht) (by cases t<;>exact h1)
theorem Oz {t:Bool} (h:Ev k e ρ σ x σ₁) (ht:truth x=some t) (h1:Xs k (if t then B else B') ρ σ₁ (.ret v,ρ₁,σ₂)):Xs k (.ifs e B B'::R) ρ σ (.ret v,ρ₁,σ₂):=Lv (x_if h ht h1)
theorem OA {t:Bool} (h:Ev k e ρ σ x σ₁) (ht:truth x=some t) (h1:Xs k (if t then B else B') ρ σ₁ (.next,ρ₁,σ₂)) (h2:Xs k R ρ₁ σ₂ r):Xs k (.ifs e B B'::R) ρ σ r:=OB (x_if h ht h1) h2
theorem Bu (h:Ev k e ρ σ x σ₁) (ht:truth x=some true) (h1:Xs k B ρ σ₁ (.next,ρ₁,σ₂)) (h2:Xs k R ρ₁ σ₂ r):Xs k (.ifs e B B'::R) ρ σ r:=OA h ht h1 h2
theorem BK (h:Ev k e ρ σ x σ₁) (ht:truth x=some false) (h1:Xs k B' ρ σ₁ (.next,ρ₁,σ₂)) (h2:Xs k R ρ₁ σ₂ r):Xs k (.ifs e B B'::R) ρ σ r:=OA h ht h1 h2
theorem x_ifRF (h:Ev k e ρ σ x σ₁) (ht:truth x=some false) (h1:Xs k B' ρ σ₁ (.ret v,ρ₁,σ₂)):Xs k (.ifs e B B'::R) ρ σ (.ret v,ρ₁,σ₂):=Oz h ht h1
theorem Ak (h:Ev k e ρ σ x σ₁) (ht:truth x=some false) (h2:Xs k R ρ σ₁ r):Xs k (.ifs e B []::R) ρ σ r:=OA h ht (by exact FA) h2
theorem AJ (h:Ev k e ρ σ x σ₁) (ht:truth x=some true) (h1:Xs k B ρ σ₁ (.ret v,ρ₁,σ₂)):Xs k (.ifs e B B'::R) ρ σ (.ret v,ρ₁,σ₂):=Oz h ht h1
theorem MF {d:Def} (hb:Eb d.params vs []=some ρ) (h:Xs k d.body ρ σ (.ret v,ρ',σ')):Gh prog.gtup (AT prog k) d vs σ=some (v,σ'):=AE hb (congrArg (Option.map _) h)
theorem Hw {d:Def} (hb:Eb d.params vs []=some ρ) (h:Xs k d.body ρ σ (.next,ρ',σ')):Gh prog.gtup (AT prog k) d vs σ=some (.none,σ'):=AE hb (congrArg (Option.map _) h)
theorem An {q:Nat×Nat} {d:Def} (h1:(Nat.beq q.1 0&&prog.isCls q.2)=false) (h2:prog.defs q=some d) (hb:Eb d.params vs []=some ρ) (h:Xs k d.body ρ σ (.ret v,ρ',σ')):Ca (k+1) q vs σ v σ':=
 (ML k q d h1 h2 vs σ).trans (MF hb h)
theorem Dp {q:Nat×Nat} {d:Def} (h1:(Nat.beq q.1 0&&prog.isCls q.2)=false) (h2:prog.defs q=some d) (hb:Eb d.params vs []=some ρ) (h:Xs k d.body ρ σ (.next,ρ',σ')):Ca (k+1) q vs σ .none σ':=
 (ML k q d h1 h2 vs σ).trans (Hw hb h)
end
theorem Ag {c m:Nat} (h:(Nat.beq c 0&&Dx m)=false):(Nat.beq ((c,m):Nat×Nat).1 0&&prog.isCls ((c,m):Nat×Nat).2)=false:=h
theorem look_put (x y:Nat) (v:AV):∀ ρ:At,look x (put y v ρ)=if x=y then some v else look x ρ
 | []=>rfl
 | (z,w)::r=>by
  by_cases h:y=z
  ·subst h
   show look x (if y=y then (y,v)::r else (y,w)::put y v r)=_
   rw [if_pos rfl]
   show (if x=y then some v else look x r)=if x=y then some v else if x=y then some w else look x r
   split<;>rfl
  ·show look x (if y=z then (z,v)::r else (z,w)::put y v r)=_
   rw [if_neg h]
   show (if x=z then some w else look x (put y v r))=if x=y then some v else if x=z then some w else look x r
   rw [look_put x y v r]
   by_cases hx:x=z
   ·subst hx;rw [if_pos rfl,if_pos rfl,if_neg (Ne.symm h)]
   ·rw [if_neg hx,if_neg hx]
theorem Aj (x:Nat) (v:AV) (ρ:At):look x (put x v ρ)=some v:=(look_put _ _ _ _).trans (if_pos rfl)
theorem Ab {x y:Nat} {v w:AV} {ρ:At} (h:look x ρ=some w) (hne:Nat.beq x y=false):look x (put y v ρ)=some w:=(look_put _ _ _ _).trans ((if_neg (Nat.ne_of_beq_eq_false hne)).trans h)
theorem Ac {k x:Nat} {ρ:At} {σ:St} {v:AV} (h:look x ρ=some v):Ev k (.var x) ρ σ v σ:=congrArg (Option.map fun v=>(v,σ)) h
theorem BB (σ:St) (x z:AO):(σ++[x]).set σ.length z=σ++[z]:=by
 rw [List.set_append_right _ _ (Nat.le_refl _),Nat.sub_self];rfl
theorem Cj {τ:St} {i:Nat} {z:AO} {τ':St} (h:τ.set i z=τ') (hi:i < τ.length) (y:AO):(τ++[y]).set i z=τ'++[y]:=by
 rw [List.set_append_left _ _ hi,h]
theorem Bc {σ:St} {i:Nat} {o:AO} (h:σ[i]?=some o):i < σ.length:=(List.getElem?_eq_some_iff.mp h).1
theorem AQ {σ:St} {i:Nat} {o z:AO} (h:σ[i]?=some o):(σ.set i z)[i]?=some z:=by
 rw [List.getElem?_set,if_pos rfl,if_pos (Bc h)]
theorem AR {σ:St} {i j:Nat} {o z:AO} (h:σ[j]?=some o) (hne:i≠j):(σ.set i z)[j]?=some o:=by
 rw [List.getElem?_set,if_neg hne,h]
theorem BZ {σ:St} {i j:Nat} {o q:AO} (h:σ[i]?=some o) (h':σ[j]?=some q) (hne:o≠q):i≠j:=by
 rintro rfl;rw [h] at h';exact hne (oQ h')
theorem Ad (σ:St) (x:AO):(σ++[x])[σ.length]?=some x:=by rw [List.getElem?_append_right (Nat.le_refl _),Nat.sub_self];rfl
theorem Af {σ:St} {i:Nat} {o:AO} (h:σ[i]?=some o) (r:St):(σ++r)[i]?=some o:=by
 rw [List.getElem?_append_left (List.getElem?_eq_some_iff.mp h).1];exact h
theorem FQ {σ:St} {d:Nat} {kn:List (Int×AV)} (h:σ[d]?=some (.dI kn)) (m:Nat) (args:List AV):Db true m (.loc d) args σ=IO m d kn args σ:=AE h rfl
theorem HD {σ:St} {d:Nat} {l:List AV} (h:σ[d]?=some (.list l)) (m:Nat) (args:List AV):Db false m (.loc d) args σ=IN m d l args σ:=AE h rfl
theorem NU {σ:St} {d:Nat} {kn:List (Int×AV)} (h:σ[d]?=some (.dI kn)) (i:Int) (v:AV):Db true 6 (.loc d) [.int i,v] σ=some ((Ao i kn).getD v,σ):=FQ h _ _
theorem DH {σ:St} {d:Nat} {kn:List (Int×AV)} (h:σ[d]?=some (.dI kn)) (i:Int):Db true 6 (.loc d) [.int i] σ=some ((Ao i kn).getD .none,σ):=FQ h _ _
theorem idx_list {σ:St} {a n:Nat} {l:List AV} {v:AV} (h:σ[a]?=some (.list l)) (hv:l[n]?=some v) (hn:n < 2 ^ 62):CM σ (.loc a) (.int n)=some v:=by
 have h0:(0:Int)≤n∧(n:Int) < 2 ^ 62:=⟨Int.natCast_nonneg n,by exact_mod_cast hn⟩
 show (match σ[a]? with | some (.list l)=>_ | some (.dI l)=>_ | _=>_)=_
 rw [h]
 show (if 0≤(n:Int)∧(n:Int) < 2 ^ 62 then l[(n:Int).toNat]? else none)=_
 rw [if_pos h0,Int.toNat_natCast,hv]
section
variable {k:Nat} {ρ ρ' ρ₁:At} {σ σ' σ₁ σ₂ σ₃ σ₄:St} {it:PE} {v src:AV} {t:PT} {B R:List PS} {r:AF×At×St}
theorem A6 (h:Ev k it ρ σ src σ₁) (hl:Cc (DD prog.gtup (AT prog k) B) t src AC 0 ρ σ₁=some (.next,ρ₁,σ₂)) (h2:Xs k R ρ₁ σ₂ r):Xs k (.fors t it B::R) ρ σ r:=OB (Ap h hl) h2
theorem TF (h:Ev k it ρ σ src σ₁) (hl:Cc (DD prog.gtup (AT prog k) B) t src AC 0 ρ σ₁=some (.ret v,ρ₁,σ₂)):Xs k (.fors t it B::R) ρ σ (.ret v,ρ₁,σ₂):=Lv (Ap h hl)
theorem C8 {o e:PE} {a c f:Nat} {l:List (Nat×AV)} (he:Ev k e ρ σ v σ₁) (ho:Ev k o ρ σ₁ (.loc a) σ₂) (hs:σ₂[a]?=some (.inst c l)) (hl:l.length≤20) {σ₃:St} (hq:σ₂.set a (.inst c (put f v l))=σ₃) (h2:Xs k R ρ σ₃ r):Xs k (.asg (.att o f) e::R) ρ σ r:=
 Ah (z:=(ρ,σ₃)) he (Ap ho (AE hs (by rw [←hq];exact congrArg (Option.map _) (if_pos hl)))) h2
theorem Fh {o i e:PE} {a:Nat} {n:Int} {l:List (Int×AV)} (he:Ev k e ρ σ v σ₁) (ho:Ev k o ρ σ₁ (.loc a) σ₂) (hi:Ev k i ρ σ₂ (.int n) σ₃) (hs:σ₃[a]?=some (.dI l)) (hl:l.length < 1000000) (h2:Xs k R ρ (σ₃.set a (.dI (Br n v l))) r):Xs k (.asg (.sub o i) e::R) ρ σ r:=
 Ah (z:=(ρ,σ₃.set a (.dI (Br n v l)))) he (Ap ho (Ap hi (congrArg (Option.map _) (show NG σ₃ a n v=some (.dI (Br n v l)) by unfold NG;rw [hs];exact if_pos hl)))) h2
theorem Oy {o i e:PE} {a n:Nat} {l:List AV} (he:Ev k e ρ σ v σ₁) (ho:Ev k o ρ σ₁ (.loc a) σ₂) (hi:Ev k i ρ σ₂ (.int n) σ₃) (hs:σ₃[a]?=some (.list l)) (hn:n < l.length) (hl:l.length≤1000000) (h2:Xs k R ρ (σ₃.set a (.list (l.set n v))) r):Xs k (.asg (.sub o i) e::R) ρ σ r:=
 Ah (z:=(ρ,σ₃.set a (.list (l.set n v)))) he (Ap ho (Ap hi (congrArg (Option.map _) (show NG σ₃ a n v=some (.list (l.set n v)) by unfold NG;rw [hs];exact if_pos ⟨Int.natCast_nonneg n,Int.ofNat_lt.mpr hn,hl⟩)))) h2
theorem Tc {c:PE} (hl:HG (DE prog.gtup (AT prog k) c) (DD prog.gtup (AT prog k) B) AC ρ σ=some (.next,ρ₁,σ₂)) (h2:Xs k R ρ₁ σ₂ r):Xs k (.whl c B::R) ρ σ r:=OB hl h2
noncomputable abbrev cB (k:Nat) (t:PT) (ρ:At) (e:PE) (ifs:List PE):AV→St→Option (Option AV×St):=Lh (fun x ρ σ=>Bq σ t x ρ) (fun ρ σ=>KO prog.gtup (AT prog k) ifs ρ σ) (fun ρ σ=>ev prog.gtup (AT prog k) e ρ σ) ρ
theorem O5 {b:Bool} {d:Bool} (h:AH σ src=d) (hp:d=true→b=true):Kw σ src b=false:=by
 unfold Kw;rw [h]
 induction d using Bool.casesOn with
 | false=>rfl
 | true=>rw [hp rfl];rfl
theorem Jy {α:Type} {b:Bool} {x r:Option α} (h:Kw σ src b=false) (hx:x=r):cond (Kw σ src b) none x=r:=by rw [h];exact hx
theorem BO {e:PE} {ifs:List PE} {vs:List AV} (h:Ev k it ρ σ src σ₁) (hd:AH σ₁ src=false)
  (hl:Ch (cB k t ρ e ifs) false src AC 0 [] σ₁=some (vs,σ₂)):Ev k (.lcomp e t it ifs) ρ σ (.loc σ₂.length) (σ₂++[.list vs]):=
 Ap h (Jy (O5 hd nofun) (Ap (by rw [hd];exact hl) rfl))
theorem ES {a:Nat} {D:List (Int×AV)} (hd:σ₁[a]?=some (.dI D)):AH σ₁ (.loc a)=true:=by simp only [AH,hd]
theorem Na {e:PE} {ifs:List PE} {vs:List AV} {a:Nat} {D:List (Int×AV)} (h:Ev k it ρ σ (.loc a) σ₁) (hd:σ₁[a]?=some (.dI D)) (hp:(AL e&&Bk ifs)=true)
  (hl:Ch (cB k t ρ e ifs) true (.loc a) AC 0 [] σ₁=some (vs,σ₂)):Ev k (.lcomp e t it ifs) ρ σ (.loc σ₂.length) (σ₂++[.list vs]):=
 Ap h (Jy (O5 (ES hd) fun _=>hp) (Ap (by rw [ES hd];exact hl) rfl))
theorem Bp {e:PE} {ifs:List PE} {x:AV} (hb:Bq σ t x ρ=some ρ') (hi:KO prog.gtup (AT prog k) ifs ρ' σ=some (true,σ₁)) (h:Ev k e ρ' σ₁ v σ₂):cB k t ρ e ifs x σ=some (some v,σ₂):=AE hb (Ap hi (Ap h rfl))
theorem Dq {e:PE} {ifs:List PE} {x:AV} (hb:Bq σ t x ρ=some ρ') (hi:KO prog.gtup (AT prog k) ifs ρ' σ=some (false,σ₁)):cB k t ρ e ifs x σ=some (none,σ₁):=AE hb (Ap hi rfl)
theorem HW {e:PE} {b:Bool} (h:Ev k e ρ σ v σ₁) (ht:truth v=some b):KO prog.gtup (AT prog k) [e] ρ σ=some (b,σ₁):=Ap h (AE ht (by cases b<;>rfl))
end
noncomputable def KJ (body:At→St→Option (AF×At×St)) (t:PT):List AV→At→St→Option (AF×At×St)
 | [],ρ,σ=>some (.next,ρ,σ)
 | x::r,ρ,σ=>Bi (Bq σ t x ρ) fun ρ=>Ic (body ρ σ) fun ρ σ=>KJ body t r ρ σ
section
variable {body:At→St→Option (AF×At×St)} {t:PT} {src x v:AV} {n i:Nat} {ρ ρ' ρ'' ρ₃:At} {σ σ':St} {r:Option (AF×At×St)}
theorem JB (hn:Bg σ false src i=some (some x)):Cc body t src (n+1) i ρ σ=Bi (Bq σ t x ρ) fun ρ=>Ic (body ρ σ) fun ρ σ=>Cc body t src n (i+1) ρ σ:=AE hn rfl
theorem FU (hn:Bg σ false src i=some (some x)) (hb:Bq σ t x ρ=some ρ') (h:body ρ' σ=some (.next,ρ'',σ')) (h2:Cc body t src n (i+1) ρ'' σ'=r):Cc body t src (n+1) i ρ σ=r:=
 (JB hn).trans (AE hb (EZ h h2))
theorem lf_ret (hn:Bg σ false src i=some (some x)) (hb:Bq σ t x ρ=some ρ') (h:body ρ' σ=some (.ret v,ρ'',σ')):Cc body t src (n+1) i ρ σ=some (.ret v,ρ'',σ'):=
 (JB hn).trans (AE hb (Ib h))
theorem Ey (hn:Bg σ false src i=some none):Cc body t src (n+1) i ρ σ=some (.next,ρ,σ):=AE hn rfl
end
theorem Pv (body:At→St→Option (AF×At×St)) (t:PT) (l:List AV) (n:Nat):∀ (i:Nat) (ρ:At) (σ:St),l.length < i+n→i≤l.length→Cc body t (.tup l) n i ρ σ=KJ body t (l.drop i) ρ σ:=by
 induction n with
 | zero=>exact fun i ρ σ h hi=>absurd h (Nat.not_lt.mpr hi)
 | succ n ih=>
  intro i ρ σ h hi
  rcases Nat.lt_or_eq_of_le hi with hi | hi
  ·rw [List.drop_eq_getElem_cons hi,JB (src:=.tup l) (i:=i) (σ:=σ) (x:=l[i]) (show some l[i]?=_ from congrArg some (List.getElem?_eq_getElem hi)),show Cc body t (.tup l) n (i+1)=KJ body t (l.drop (i+1)) from funext fun ρ=>funext fun σ=>ih _ _ _ (by rw [Nat.add_right_comm];exact h) hi]
   rfl
  ·rw [hi,List.drop_length];exact Ey (show some l[l.length]?=_ from congrArg some (List.getElem?_eq_none (Nat.le_refl _)))
theorem NW (body:At→St→Option (AF×At×St)) (t:PT) (l:List AV) (ρ:At) (σ:St) (h:l.length < 100000):Cc body t (.tup l) AC 0 ρ σ=KJ body t l ρ σ:=
 Pv body t l AC 0 ρ σ (by show l.length < 0+100000;exact om5 h) (Nat.zero_le _)
theorem AP {body:At→St→Option (AF×At×St)} {t:PT} {src:AV} {l:List AV} (I:Nat→At→St→Prop) (hn:∀ i ρ σ,I i ρ σ→Bg σ false src i=some l[i]?)
  (hs:∀ i x ρ σ,l[i]?=some x→I i ρ σ→∃ ρ' ρ'' σ',Bq σ t x ρ=some ρ'∧body ρ' σ=some (.next,ρ'',σ')∧I (i+1) ρ'' σ') :
  ∀ (n i:Nat) (ρ:At) (σ:St),l.length < i+n→i≤l.length→I i ρ σ→∃ ρ' σ',Cc body t src n i ρ σ=some (.next,ρ',σ')∧I l.length ρ' σ'
 | 0,i,ρ,σ,h,hi,_=>absurd h (Nat.not_lt.mpr hi)
 | n+1,i,ρ,σ,h,hi,hI=>by
  rcases Nat.lt_or_eq_of_le hi with hi | hi
  ·have hx:=List.getElem?_eq_getElem hi
   obtain ⟨ρ',ρ'',σ',h1,h2,h3⟩:=hs i _ ρ σ hx hI
   obtain ⟨ρ₃,σ₃,h4,h5⟩:=AP I hn hs n (i+1) ρ'' σ' (by rw [Nat.add_right_comm];exact h) hi h3
   exact ⟨ρ₃,σ₃,FU ((hn i ρ σ hI).trans (congrArg some hx)) h1 h2 h4,h5⟩
  ·exact ⟨ρ,σ,Ey ((hn i ρ σ hI).trans (congrArg some (List.getElem?_eq_none (Nat.le_of_eq hi.symm)))),hi▸hI⟩
theorem CD (σ:St) (n i:Nat):Bg σ false (.range n) i=some ((List.range n).map fun j=>AV.int (j:Nat))[i]?:=by
 show some (if (i:Int) < (n:Int) then some (AV.int (i:Int)) else none)=_
 rw [List.getElem?_map]
 by_cases h:i < n
 ·rw [if_pos (by exact_mod_cast h),List.getElem?_range h];rfl
 ·rw [if_neg (by exact_mod_cast h),List.getElem?_eq_none (by rw [List.length_range];exact Nat.not_lt.mp h)];rfl
theorem Av {σ:St} {a:Nat} {l:List AV} (h:σ[a]?=some (.list l)) (i:Nat):Bg σ false (.loc a) i=some l[i]?:=by
 show (match σ[a]? with | some (.list l)=>_ | some (.dI l)=>_ | _=>_)=_
 rw [h];rfl
theorem PF {o:Option AO} {l:List AV} (h:o=some (.list l)):CT o=some l:=h▸rfl
theorem GB {σ:St} {a:Nat} {l:List (Int×AV)} (h:σ[a]?=some (.dI l)) (hl:l.length≤1000000):DB .dict [.loc a] σ=some (.loc σ.length,σ++[.dI l]):=by
 show (match σ[a]? with | some (.dI l)=>_ | some (.list l)=>_ | _=>_)=_
 rw [h];exact if_pos hl
theorem Jg {σ:St} {a:Nat} {l:List AV} {m:List (Int×AV)} (h:σ[a]?=some (.list l)) (hl:l.length≤1000000) (hp:Cd l []=some m):DB .dict [.loc a] σ=some (.loc σ.length,σ++[.dI m]):=by
 show (match σ[a]? with | some (.dI l)=>_ | some (.list l)=>_ | _=>_)=_
 rw [h]
 show (if l.length≤AX then (match Cd l [] with | some m=>_ | none=>_) else _)=_
 rw [hp];exact if_pos hl
theorem Oo {σ:St} {a:Nat} {l:List AV} (h:σ[a]?=some (.list l)) (hl:l.length≤1000000):DB .list [.loc a] σ=some (.loc σ.length,σ++[.list l]):=by
 show (match CT σ[a]? with | some l=>_ | none=>_)=_
 rw [h];exact if_pos hl
theorem DX {σ:St} {a:Nat} {l:List AV} (h:σ[a]?=some (.list l)) (hl:l.length≤1000000):DB .tuple [.loc a] σ=some (.tup l,σ):=by
 show (match CT σ[a]? with | some l=>_ | none=>_)=_
 rw [h];exact if_pos hl
theorem N0 {σ:St} {a:Nat} {l:List AV} (h:σ[a]?=some (.list l)):L5 σ (.loc a)=some l.length:=by
 show (match σ[a]? with | some (.list l)=>_ | some (.dI l)=>_ | _=>_)=_
 rw [h]
theorem RK {σ:St} {a:Nat} {l:List (Int×AV)} (h:σ[a]?=some (.dI l)):L5 σ (.loc a)=some l.length:=by
 show (match σ[a]? with | some (.list l)=>_ | some (.dI l)=>_ | _=>_)=_
 rw [h]
theorem F_ {σ:St} {a:Nat} {l:List AV} (h:σ[a]?=some (.list l)) (hl:l.length≤1000000):DB .len [.loc a] σ=some (.int l.length,σ):=by
 show (match L5 σ (.loc a) with | some n=>_ | none=>_)=_
 rw [N0 h];exact if_pos hl
theorem Li {σ:St} {a:Nat} {l:List (Int×AV)} (h:σ[a]?=some (.dI l)) (hl:l.length≤1000000):DB .len [.loc a] σ=some (.int l.length,σ):=by
 show (match L5 σ (.loc a) with | some n=>_ | none=>_)=_
 rw [RK h];exact if_pos hl
noncomputable def Mh (body:AV→St→Option (Option AV×St)):List AV→List AV→St→Option (List AV×St)
 | [],acc,σ=>some (acc,σ)
 | x::r,acc,σ=>A3 (body x σ) fun q σ=>Mh body r (JY acc q) σ
section
variable {β γ:Type} {add:β→Option γ→β} {body:AV→St→Option (Option γ×St)} {d:Bool} {src x:AV} {n i:Nat} {acc:β} {σ σ':St} {q:Option γ} {r:Option (β×St)}
theorem FX (hn:Bg σ d src i=some (some x)) (hb:body x σ=some (q,σ')) (h2:Cr add body d src n (i+1) (add acc q) σ'=r):Cr add body d src (n+1) i acc σ=r:=AE hn (Ap hb h2)
theorem HO (hn:Bg σ d src i=some none):Cr add body d src (n+1) i acc σ=some (acc,σ):=AE hn rfl
theorem L7 {L:List AV} (I:Nat→β→St→Prop) (hn:∀ i acc σ,I i acc σ→Bg σ d src i=some L[i]?)
  (hs:∀ i x acc σ,L[i]?=some x→I i acc σ→∃ q σ',body x σ=some (q,σ')∧I (i+1) (add acc q) σ') :
  ∀ (n i:Nat) (acc:β) (σ:St),L.length < i+n→i≤L.length→I i acc σ→∃ acc' σ',Cr add body d src n i acc σ=some (acc',σ')∧I L.length acc' σ'
 | 0,i,acc,σ,h,hi,_=>absurd h (Nat.not_lt.mpr hi)
 | n+1,i,acc,σ,h,hi,hI=>by
  rcases Nat.lt_or_eq_of_le hi with hi | hi
  ·have hx:=List.getElem?_eq_getElem hi
   obtain ⟨q,σ',h1,h3⟩:=hs i _ acc σ hx hI
   obtain ⟨a₃,σ₃,h4,h5⟩:=L7 I hn hs n (i+1) _ σ' (by rw [Nat.add_right_comm];exact h) hi h3
   exact ⟨a₃,σ₃,FX ((hn i acc σ hI).trans (congrArg some hx)) h1 h4,h5⟩
  ·exact ⟨acc,σ,HO ((hn i acc σ hI).trans (congrArg some (List.getElem?_eq_none (Nat.le_of_eq hi.symm)))),hi▸hI⟩
end
theorem Qy (body:AV→St→Option (Option AV×St)) (l:List AV) (n:Nat):∀ (i:Nat) (acc:List AV) (σ:St),l.length < i+n→i≤l.length→Ch body false (.tup l) n i acc σ=Mh body (l.drop i) acc σ:=by
 induction n with
 | zero=>exact fun i ρ σ h hi=>absurd h (Nat.not_lt.mpr hi)
 | succ n ih=>
  intro i acc σ h hi
  rcases Nat.lt_or_eq_of_le hi with hi | hi
  ·rw [List.drop_eq_getElem_cons hi]
   refine (AE (x:=some l[i]) (congrArg some (List.getElem?_eq_getElem hi)) rfl).trans ?_
   show A3 (body l[i] σ) (fun q σ=>Ch body false (.tup l) n (i+1) (JY acc q) σ)=_
   rw [show (fun (q:Option AV) σ=>Ch body false (.tup l) n (i+1) (JY acc q) σ)=fun q σ=>Mh body (l.drop (i+1)) (JY acc q) σ from funext fun q=>funext fun σ=>ih _ _ _ (by rw [Nat.add_right_comm];exact h) hi]
   rfl
  ·rw [hi,List.drop_length];exact AE (congrArg some (List.getElem?_eq_none (Nat.le_refl _))) rfl
theorem Jb (body:AV→St→Option (Option AV×St)) (l:List AV) (acc:List AV) (σ:St) (h:l.length < 100000):Ch body false (.tup l) AC 0 acc σ=Mh body l acc σ:=
 Qy body l AC 0 acc σ (by show l.length < 0+100000;exact om5 h) (Nat.zero_le _)
theorem aq_nn (σ:St):BU σ 20 .none .none=some true:=rfl
theorem aq_nb (σ:St) (y:Bool):BU σ 20 .none (.bool y)=some false:=rfl
theorem aq_ni (σ:St) (y:Int):BU σ 20 .none (.int y)=some false:=rfl
theorem aq_ns (σ:St) (y:Nat):BU σ 20 .none (.str y)=some false:=rfl
theorem aq_nt (σ:St) (y:List AV):BU σ 20 .none (.tup y)=some false:=rfl
theorem aq_bn (σ:St) (x:Bool):BU σ 20 (.bool x) .none=some false:=rfl
theorem aq_bb (σ:St) (x:Bool) (y:Bool):BU σ 20 (.bool x) (.bool y)=some (x==y):=rfl
theorem aq_bi (σ:St) (x:Bool) (y:Int):BU σ 20 (.bool x) (.int y)=some ((if x then 1 else 0)==y):=rfl
theorem aq_bs (σ:St) (x:Bool) (y:Nat):BU σ 20 (.bool x) (.str y)=some false:=rfl
theorem aq_bt (σ:St) (x:Bool) (y:List AV):BU σ 20 (.bool x) (.tup y)=some false:=rfl
theorem aq_in (σ:St) (x:Int):BU σ 20 (.int x) .none=some false:=rfl
theorem aq_ib (σ:St) (x:Int) (y:Bool):BU σ 20 (.int x) (.bool y)=some (x==(if y then 1 else 0)):=rfl
theorem aq_ii (σ:St) (x:Int) (y:Int):BU σ 20 (.int x) (.int y)=some (x==y):=rfl
theorem aq_is (σ:St) (x:Int) (y:Nat):BU σ 20 (.int x) (.str y)=some false:=rfl
theorem aq_it (σ:St) (x:Int) (y:List AV):BU σ 20 (.int x) (.tup y)=some false:=rfl
theorem aq_sn (σ:St) (x:Nat):BU σ 20 (.str x) .none=some false:=rfl
theorem aq_sb (σ:St) (x:Nat) (y:Bool):BU σ 20 (.str x) (.bool y)=some false:=rfl
theorem aq_si (σ:St) (x:Nat) (y:Int):BU σ 20 (.str x) (.int y)=some false:=rfl
theorem aq_ss (σ:St) (x:Nat) (y:Nat):BU σ 20 (.str x) (.str y)=some (x==y):=rfl
theorem aq_st (σ:St) (x:Nat) (y:List AV):BU σ 20 (.str x) (.tup y)=some false:=rfl
theorem aq_tn (σ:St) (x:List AV):BU σ 20 (.tup x) .none=some false:=rfl
theorem aq_tb (σ:St) (x:List AV) (y:Bool):BU σ 20 (.tup x) (.bool y)=some false:=rfl
theorem aq_ti (σ:St) (x:List AV) (y:Int):BU σ 20 (.tup x) (.int y)=some false:=rfl
theorem aq_ts (σ:St) (x:List AV) (y:Nat):BU σ 20 (.tup x) (.str y)=some false:=rfl
end
section
noncomputable def tI:AV:=.tup [.str 128,.str 1]
noncomputable def tB:AV:=.tup [.str 79]
noncomputable def tP:AV:=.tup [.str 9,.tup [tI,tB]]
structure KnOk (kn:List (Int×AV)):Prop where
 nd:(kn.map (·.1)).Nodup
 sub:∀ k v,(k,v)∈kn→k=1∨k=2∨k=3∨k=4
 n1:Ao 1 kn=none∨∃ i,Ao 1 kn=some (.int i)∧0≤i∧i < 256
 n4:Ao 4 kn=none∨∃ i,Ao 4 kn=some (.int i)∧0≤i∧i < 256
 b2:Ao 2 kn=none∨∃ b,Ao 2 kn=some (.bool b)
 p3:Ao 3 kn=none∨∃ i b,Ao 3 kn=some (.tup [.int i,.bool b])∧0≤i∧i < 256
inductive Plc where
 | n1 | n4 | p0 | b2 | p1 | pr
inductive Sr where
 | number | truth | pair
noncomputable def fst0:AV:=.tup [.str 104,.int 0]
noncomputable def snd1:AV:=.tup [.str 104,.int 1]
noncomputable def By:Plc→AV
 | .n1=>.tup [.int 1,.tup []]
 | .n4=>.tup [.int 4,.tup []]
 | .p0=>.tup [.int 3,.tup [fst0]]
 | .b2=>.tup [.int 2,.tup []]
 | .p1=>.tup [.int 3,.tup [snd1]]
 | .pr=>.tup [.int 3,.tup []]
noncomputable def Gj:Plc→Sr
 | .n1 | .n4 | .p0=>.number
 | .b2 | .p1=>.truth
 | .pr=>.pair
noncomputable def Eg:Sr→AV
 | .number=>tI
 | .truth=>tB
 | .pair=>tP
noncomputable def Ek:Sr→Nat
 | .number=>171
 | .truth=>227
 | .pair=>184
noncomputable def NL:AV→Nat→AV
 | .tup l,j=>(l[j]?).getD .none
 | _,_=>.none
noncomputable def BC (kn:List (Int×AV)):Plc→AV
 | .n1=>(Ao 1 kn).getD .none
 | .n4=>(Ao 4 kn).getD .none
 | .p0=>NL ((Ao 3 kn).getD .none) 0
 | .b2=>(Ao 2 kn).getD .none
 | .p1=>NL ((Ao 3 kn).getD .none) 1
 | .pr=>(Ao 3 kn).getD .none
inductive FactsAt (σ:St) (f:Nat) (kn:List (Int×AV)):Prop where
 | mk (d:Nat) (h1:σ[f]?=some (.inst 19 [(137,.loc d)])) (h2:σ[d]?=some (.dI kn))
theorem d71:prog.defs (19,71)=some DJ:=rfl
theorem d70:prog.defs (19,70)=some Dc:=rfl
theorem D3 {kn:List (Int×AV)} {σ:St} {f:Nat} (F:FactsAt σ f kn) (k:Nat) (l:Int) :
  AT prog (k+1) (19,71) [.loc f,.tup [.int l,.tup []]] σ=some ((Ao l kn).getD .none,σ):=by
 obtain ⟨d,h1,h2⟩:=F
 apply An (Ag rfl) d71 rfl
 apply Ah
 exact CY (AN rfl h1 rfl) h2 rfl (DH h2 l)
 exact rfl
 exact rfl
theorem H8 {kn:List (Int×AV)} {σ:St} {f:Nat} (F:FactsAt σ f kn) (k:Nat) (l j:Int) (hv:Ao l kn=none) :
  AT prog (k+1) (19,71) [.loc f,.tup [.int l,.tup [.tup [.str 104,.int j]]]] σ=some (.none,σ):=by
 obtain ⟨d,h1,h2⟩:=F
 apply An (Ag rfl) d71 rfl
 apply Ah
 exact CY (AN rfl h1 rfl) h2 rfl (DH h2 l)
 exact rfl
 rw [hv]
 exact rfl
theorem H7 {kn:List (Int×AV)} {σ:St} {f:Nat} (F:FactsAt σ f kn) (k:Nat) (l:Int) (j:Nat) (v0 v1 v:AV) (hv:Ao l kn=some (.tup [v0,v1])) (hj:(j=0∧v=v0)∨(j=1∧v=v1)) :
  AT prog (k+1) (19,71) [.loc f,.tup [.int l,.tup [.tup [.str 104,.int j]]]] σ=some (v,σ):=by
 obtain ⟨d,h1,h2⟩:=F
 rcases hj with ⟨rfl,rfl⟩ | ⟨rfl,rfl⟩
 all_goals
  apply An (Ag rfl) d71 rfl
  apply Ah
  exact CY (AN rfl h1 rfl) h2 rfl (DH h2 l)
  exact rfl
  rw [hv]
  exact rfl
theorem Mq {kn:List (Int×AV)} (H:KnOk kn) {σ:St} {f:Nat} (F:FactsAt σ f kn) (k:Nat) (p:Plc) :
  AT prog (k+1) (19,71) [.loc f,By p] σ=some (BC kn p,σ):=by
 induction p using Plc.casesOn with
 | n1=>exact D3 F k 1
 | n4=>exact D3 F k 4
 | b2=>exact D3 F k 2
 | pr=>exact D3 F k 3
 | p0=>
  rcases H.p3 with h | ⟨i,b,h,_⟩
  ·exact (H8 F k 3 0 h).trans (by rw [BC,h];rfl)
  ·exact (H7 F k 3 0 _ _ (.int i) h (.inl ⟨rfl,rfl⟩)).trans (by rw [BC,h];rfl)
 | p1=>
  rcases H.p3 with h | ⟨i,b,h,_⟩
  ·exact (H8 F k 3 1 h).trans (by rw [BC,h];rfl)
  ·exact (H7 F k 3 1 _ _ (.bool b) h (.inr ⟨rfl,rfl⟩)).trans (by rw [BC,h];rfl)
inductive Opd where
 | plc (mv:Bool) (p:Plc)
 | cN (v:Int)
 | cB (b:Bool)
noncomputable def Opd.ok:Opd→Prop
 | .cN v=>0≤v∧v < 256
 | _=>True
noncomputable def BD:Opd→AV
 | .plc mv p=>.tup [.str (if mv then 164 else 90),By p]
 | .cN v=>.tup [.str 87,tI,.int v]
 | .cB b=>.tup [.str 87,tB,.bool b]
noncomputable def DR:Opd→Sr
 | .plc _ p=>Gj p
 | .cN _=>.number
 | .cB _=>.truth
noncomputable def A_ (kn:List (Int×AV)):Opd→AV
 | .plc _ p=>BC kn p
 | .cN v=>.int v
 | .cB b=>.bool b
theorem En {kn:List (Int×AV)} (H:KnOk kn) {p:Plc} (h:Gj p=.number):BC kn p=.none∨∃ i,BC kn p=.int i∧0≤i∧i < 256:=by
 induction p using Plc.casesOn with
 | n1=>exact H.n1.imp (fun h=>by rw [BC,h];rfl) fun ⟨i,h,h'⟩=>⟨i,by rw [BC,h];rfl,h'⟩
 | n4=>exact H.n4.imp (fun h=>by rw [BC,h];rfl) fun ⟨i,h,h'⟩=>⟨i,by rw [BC,h];rfl,h'⟩
 | p0=>exact H.p3.imp (fun h=>by rw [BC,h];rfl) fun ⟨i,b,h,h'⟩=>⟨i,by rw [BC,h];rfl,h'⟩
 | _=>cases h
theorem Fj {kn:List (Int×AV)} (H:KnOk kn) {p:Plc} (h:Gj p=.truth):BC kn p=.none∨∃ b,BC kn p=.bool b:=by
 induction p using Plc.casesOn with
 | b2=>exact H.b2.imp (fun h=>by rw [BC,h];rfl) fun ⟨i,h⟩=>⟨i,by rw [BC,h];rfl⟩
 | p1=>exact H.p3.imp (fun h=>by rw [BC,h];rfl) fun ⟨i,b,h,h'⟩=>⟨b,by rw [BC,h];rfl⟩
 | _=>cases h
theorem Gi {kn:List (Int×AV)} (H:KnOk kn) {p:Plc} (h:Gj p=.pair):BC kn p=.none∨∃ i b,BC kn p=.tup [.int i,.bool b]∧0≤i∧i < 256:=by
 cases p with
 | pr=>exact H.p3.imp (fun h=>by rw [BC,h];rfl) fun ⟨i,b,h,h'⟩=>⟨i,b,by rw [BC,h];rfl,h'⟩
 | _=>cases h
theorem AM {kn:List (Int×AV)} (H:KnOk kn) {o:Opd} (ho:o.ok) (h:DR o=.number):A_ kn o=.none∨∃ i,A_ kn o=.int i∧0≤i∧i < 256:=by
 induction o using Opd.casesOn with
 | plc m p=>exact En H h
 | cN v=>exact .inr ⟨v,rfl,ho⟩
 | cB b=>cases h
theorem Bn {kn:List (Int×AV)} (H:KnOk kn) {o:Opd} (h:DR o=.truth):A_ kn o=.none∨∃ b,A_ kn o=.bool b:=by
 induction o using Opd.casesOn with
 | plc m p=>exact Fj H h
 | cN v=>cases h
 | cB b=>exact .inr ⟨b,rfl⟩
theorem Kq {kn:List (Int×AV)} (H:KnOk kn) {o:Opd} (h:DR o=.pair):A_ kn o=.none∨∃ i b,A_ kn o=.tup [.int i,.bool b]∧0≤i∧i < 256:=by
 induction o using Opd.casesOn with
 | plc m p=>exact Gi H h
 | cN v=>cases h
 | cB b=>cases h
theorem Bd {kn:List (Int×AV)} (H:KnOk kn) {σ:St} {f:Nat} (F:FactsAt σ f kn) (k:Nat) (o:Opd) :
  AT prog (k+2) (19,70) [.loc f,BD o] σ=some (A_ kn o,σ):=by
 obtain ⟨d,h1,h2⟩:=F
 induction o using Opd.casesOn with
 | plc mv p=>
  have:=Mq H ⟨d,h1,h2⟩ k p
  cases mv<;>(apply An (Ag rfl) d70 rfl;exact Az (Ax rfl h1 rfl rfl this))
 | cN v=>exact rfl
 | cB b=>exact rfl
end
section
noncomputable def G8 (t:AV):AV:=.tup [t,.bool true,.none]
noncomputable def BW:List AV:=[G8 tI,G8 tI,G8 tB,G8 tP,G8 tI]
structure CA where
 b:Nat
 fo:Nat
 be:Nat
 l:Nat
 bl:Nat
 sp:Nat
 b0:Nat
 st:Nat
structure ConstAt (d:CA) (σ:St) (c:Nat) (e:AV):Prop where
 h1:σ[c]?=some (.inst 20 [(78,.loc d.b),(110,.loc d.fo),(73,.loc d.be)])
 h2:σ[d.b]?=some (.inst 18 [(167,.str 101),(64,.int 0),(154,.loc d.l),(77,.loc d.bl),(214,.loc d.sp)])
 h3:σ[d.l]?=some (.list BW)
 h4:σ[d.bl]?=some (.list [.loc d.b0])
 h5:σ[d.b0]?=some (.list [.loc d.st,e])
 h6:σ[d.st]?=some (.list [])
noncomputable def Ext (σ σ':St):Prop:=∀ (i:Nat) (o:AO),σ[i]?=some o→σ'[i]?=some o
theorem Ext.refl (σ:St):Ext σ σ:=fun _ _ h=>h
theorem Ext.trans {a b c:St} (h:Ext a b) (g:Ext b c):Ext a c:=fun i o e=>g i o (h i o e)
theorem Ext.app (σ ξ:St):Ext σ (σ++ξ):=fun i o e=>Af e ξ
theorem FactsAt.ext {σ σ':St} {f:Nat} {kn:List (Int×AV)} (F:FactsAt σ f kn) (E:Ext σ σ'):FactsAt σ' f kn:=let ⟨d,a,b⟩:=F;⟨d,E _ _ a,E _ _ b⟩
theorem ConstAt.ext {σ σ':St} {c:Nat} {e:AV} {d:CA} (F:ConstAt d σ c e) (E:Ext σ σ'):ConstAt d σ' c e:=
 ⟨E _ _ F.h1,E _ _ F.h2,E _ _ F.h3,E _ _ F.h4,E _ _ F.h5,E _ _ F.h6⟩
theorem d229:prog.defs (20,229)=some CR:=rfl
theorem d193:prog.defs (20,193)=some D6:=rfl
theorem FW {σ:St} {l n:Nat} {t:AV} (h:σ[l]?=some (.list BW)) (hl:BW[n]?=some (G8 t)):CM σ (.loc l) (.int n)=some (G8 t):=
 idx_list h hl (Nat.lt_of_lt_of_le (show n < 5 from (List.getElem?_eq_some_iff.mp hl).1) (by decide))
theorem EM {σ:St} {c:Nat} {e:AV} {dc:CA} (C:ConstAt dc σ c e) (k:Nat) (w:Nat) (hw:(w==87)=false) (n:Nat) (t:AV) (hl:BW[n]?=some (G8 t)):AT prog (k+1) (20,229) [.loc c,.tup [.str w,.tup [.int n,.tup []]]] σ=some (t,σ):=by
 have h1:=C.h1
 have h2:=C.h2
 have h3:=C.h3
 have:=FW h3 hl
 apply An (Ag rfl) d229 rfl
 apply Ak
 ·exact rfl
 ·exact congrArg some hw
 apply Ah
 ·exact rfl
 ·exact rfl
 apply Ah
 ·exact As (As (AN (AN rfl h1 rfl) h2 rfl) rfl this) rfl rfl
 ·exact rfl
 exact rfl
theorem ID {σ:St} {c:Nat} {e:AV} {dc:CA} (C:ConstAt dc σ c e) (k:Nat) (w:Nat) (hw:(w==87)=false) (j:Nat) (t:AV) (hj:(j=0∧t=tI)∨(j=1∧t=tB)) :
  AT prog (k+1) (20,229) [.loc c,.tup [.str w,.tup [.int 3,.tup [.tup [.str 104,.int j]]]]] σ=some (t,σ):=by
 have h1:=C.h1
 have h2:=C.h2
 have h3:=C.h3
 have:=FW h3 (show BW[3]?=some (G8 tP) from rfl)
 rcases hj with ⟨rfl,rfl⟩ | ⟨rfl,rfl⟩
 all_goals
  apply An (Ag rfl) d229 rfl
  apply Ak
  ·exact rfl
  ·exact congrArg some hw
  apply Ah
  ·exact rfl
  ·exact rfl
  apply Ah
  ·exact As (As (AN (AN rfl h1 rfl) h2 rfl) rfl (idx_list h3 rfl (by decide))) rfl rfl
  ·exact rfl
  exact rfl
theorem EY {σ:St} {c:Nat} {e:AV} {dc:CA} (C:ConstAt dc σ c e) (k:Nat) (o:Opd):AT prog (k+1) (20,229) [.loc c,BD o] σ=some (Eg (DR o),σ):=by
 induction o using Opd.casesOn with
 | cN v=>exact rfl
 | cB v=>exact rfl
 | plc mv p=>
  have hw:((if mv then 164 else 90)==87)=false:=by cases mv<;>rfl
  cases p
  ·exact EM C k _ hw 1 tI rfl
  ·exact EM C k _ hw 4 tI rfl
  ·exact ID C k _ hw 0 tI (.inl ⟨rfl,rfl⟩)
  ·exact EM C k _ hw 2 tB rfl
  ·exact ID C k _ hw 1 tB (.inr ⟨rfl,rfl⟩)
  ·exact EM C k _ hw 3 tP rfl
noncomputable def Rw (s:Sr) (a v:AV):AV:=match s with
 | .pair=>a
 | s=>match v with
  | .none=>a
  | v=>.tup [.str 87,Eg s,v]
noncomputable def EP (kn:List (Int×AV)):Opd→AV
 | .plc mv p=>Rw (Gj p) (BD (.plc mv p)) (BC kn p)
 | o=>BD o
noncomputable def pick (s:Sr) (a b:AV):AV:=match s with
 | .pair=>a
 | _=>b
theorem T3 {σ:St} {f c:Nat} {la lf:List (Nat×AV)} (h1:σ[c]?=some (.inst 20 la)) (h2:look 229 la=none) (g1:σ[f]?=some (.inst 19 lf)) (g2:look 70 lf=none) (k w:Nat) (hw:(w==87)=false) {x v:AV} {s:Sr}
  (hA:AT prog (k+2) (19,70) [.loc f,.tup [.str w,x]] σ=some (v,σ)) (hT:AT prog (k+2) (20,229) [.loc c,.tup [.str w,x]] σ=some (Eg s,σ)) {nv:Bool} (hv:KC v .none=some nv) :
  AT prog (k+3) (20,193) [.loc c,.tup [.str w,x],.loc f] σ=some (bif nv then .tup [.str w,x] else pick s (.tup [.str w,x]) (.tup [.str 87,Eg s,v]),σ):=by
 have e70:∀ {k:Nat} {o:PE} {ρ:At} {args:List PE} {vs:List AV},Ev k o ρ σ (.loc f) σ→Nu k args ρ σ vs σ→∀ {r},Ca k (19,70) (.loc f::vs) σ r σ→Ev k (.meth o 70 args) ρ σ r σ:=fun a b _ c=>Ax a g1 g2 b c
 have e229:∀ {k:Nat} {o:PE} {ρ:At} {args:List PE} {vs:List AV},Ev k o ρ σ (.loc c) σ→Nu k args ρ σ vs σ→∀ {r},Ca k (20,229) (.loc c::vs) σ r σ→Ev k (.meth o 229 args) ρ σ r σ:=fun a b _ c=>Ax a h1 h2 b c
 have hq:A9 σ .Is v .none=some nv:=hv
 cases s<;>cases nv
 all_goals
  apply An (Ag rfl) d193 rfl
  apply Ak
  ·exact rfl
  ·exact congrArg some hw
  apply Ah
  ·exact Au (Aa (e70 rfl rfl hA) (Aa (e229 rfl rfl hT) rfl))
  ·exact rfl
  apply Az
  apply Fe
  ·first | exact B6 (Al rfl rfl hq) rfl rfl | exact Dy (Al rfl rfl hq) rfl
  ·exact rfl
  ·exact rfl
theorem Lc {kn:List (Int×AV)} (H:KnOk kn) {σ:St} {f c:Nat} {e:AV} (F:FactsAt σ f kn) {dc:CA} (C:ConstAt dc σ c e) (k:Nat) (o:Opd) (ho:o.ok) :
  AT prog (k+3) (20,193) [.loc c,BD o,.loc f] σ=some (EP kn o,σ):=by
 have hA:=Bd H F k o
 have hT:=EY C (k+1) o
 have h1:=C.h1
 have h2:=C.h2
 have h3:=C.h3
 obtain ⟨d,g1,g2⟩:=F
 induction o using Opd.casesOn with
 | cN v=>exact rfl
 | cB v=>exact rfl
 | plc mv p=>
  have hw:((if mv then 164 else 90)==87)=false:=by cases mv<;>rfl
  have go:=fun (s:Sr) (v:AV) (hs:Gj p=s) (e:BC kn p=v) {nv:Bool} (hv:KC v .none=some nv)=>T3 h1 rfl g1 rfl k _ hw (s:=s) (v:=v) (hA.trans (by rw [←e];rfl)) (hT.trans (by rw [←hs];rfl)) hv
  show _=some (Rw (Gj p) _ (BC kn p),σ)
  generalize hs:Gj p=zz4
  induction zz4 using Sr.casesOn with
  | number=>rcases En H hs with hv | ⟨i,hv,_⟩<;>rw [hv]<;>exact go _ _ hs hv rfl
  | truth=>rcases Fj H hs with hv | ⟨i,hv⟩<;>rw [hv]<;>exact go _ _ hs hv rfl
  | pair=>rcases Gi H hs with hv | ⟨i,b,hv,_⟩<;>rw [hv]<;>exact go _ _ hs hv rfl
end
section
theorem d131:prog.defs (0,131)=some GO:=rfl
theorem d142:prog.defs (0,142)=some M7:=rfl
theorem d119:prog.defs (0,119)=some HQ:=rfl
theorem d107:prog.defs (0,107)=some Qb:=rfl
theorem d242:prog.defs (0,242)=some IY:=rfl
theorem d91:prog.defs (0,91)=some ED:=rfl
theorem d100:prog.defs (0,100)=some M8:=rfl
theorem d85:prog.defs (0,85)=some IZ:=rfl
theorem d86:prog.defs (0,86)=some HR:=rfl
theorem UH:prog.defs (0,197)=some Dn:=rfl
theorem Il {b:Bool} (h:b=true):truth (.bool b)=some true:=congrArg some h
theorem Im {b:Bool} (h:b=false):truth (.bool b)=some false:=congrArg some h
theorem TB (k:Nat) (σ:St):AT prog (k+1) (0,131) [.str 1] σ=some (.bool false,σ):=rfl
theorem c_least (k:Nat) (σ:St):AT prog (k+2) (0,142) [.str 1] σ=some (.int 0,σ):=rfl
theorem UR (k:Nat) (σ:St):AT prog (k+2) (0,119) [.str 1] σ=some (.int 255,σ):=rfl
theorem US (k:Nat) (σ:St) (n:Int):∃ b,AT prog (k+3) (0,107) [.str 1,.int n] σ=some (.bool b,σ):=by
 cases hd:decide (0≤n)
 ·exact ⟨false,by
   apply An (Ag rfl) d107 rfl
   exact Az (Qk rfl rfl (congrArg some hd))⟩
 ·exact ⟨decide (n≤255),by
   apply An (Ag rfl) d107 rfl
   exact Az (Qj rfl rfl (congrArg some hd) rfl rfl)⟩
theorem Oi (k:Nat) (σ:St) (n:Int):AT prog (k+3) (0,242) [.str 1,.int n] σ=some (.int (n % 256),σ):=by
 have h:AT prog (k+3) (0,242) [.str 1,.int n] σ=some (.int (0+Int.fmod (n - 0) 256),σ):=rfl
 rw [h,Int.zero_add,Int.sub_zero,Int.fmod_eq_emod_of_nonneg n (by decide)]
theorem UB (σ:St) {a b:Int} (ha:0≤a) (hb:0 < b) (hb':b < 256):IB σ .FloorDiv (.int a.natAbs) (.int b.natAbs)=some (.int (a / b),σ):=by
 have e1:(a.natAbs:Int)=a:=Int.natAbs_of_nonneg ha
 have e2:(b.natAbs:Int)=b:=Int.natAbs_of_nonneg (Int.le_of_lt hb)
 show (if (b.natAbs:Int)≠0∧(b.natAbs:Int).natAbs < 2 ^ 30 then some (AV.int (Int.fdiv (a.natAbs:Int) (b.natAbs:Int)),σ) else none)=_
 rw [e1,e2,if_pos ⟨Int.ne_of_gt hb,by exact om19 hb' e2⟩,Int.fdiv_eq_ediv_of_nonneg a (Int.le_of_lt hb)]
theorem c_cut (k:Nat) (σ:St) (a b:Int) (ha:0≤a) (hb:0 < b) (hb':b < 256):AT prog (k+1) (0,91) [.int a,.int b] σ=some (.int (a / b),σ):=by
 have h1:=UB σ ha hb hb'
 have h2:truth (.bool (decide (a < 0)==decide (b < 0)))=some true:=by
  rw [decide_eq_false (Int.not_lt.mpr ha),decide_eq_false (Int.not_lt.mpr (Int.le_of_lt hb))];rfl
 apply An (Ag rfl) d91 rfl
 apply Ah
 ·exact Bj rfl rfl h1
 ·exact rfl
 apply Az
 apply Fe
 ·exact rfl
 ·exact h2
 ·exact rfl
noncomputable def Hk (op:Nat) (a b:Int):AV:=if op=30 then .bool (decide (a < b)) else if op=27 then .int ((a+b) % 256) else if b=0 then .none else .int (a / b)
theorem Lf (k:Nat) (σ:St) (a b:Int):AT prog (k+1) (0,100) [.str 27,.int a,.int b] σ=some (.int (a+b),σ):=rfl
theorem JV (k:Nat) (σ:St) (a:Int):AT prog (k+1) (0,100) [.str 29,.int a,.int 0] σ=some (.none,σ):=rfl
theorem Le (k:Nat) (σ:St) (a b:Int) (ha:0≤a) (hb:0 < b) (hb':b < 256):AT prog (k+2) (0,100) [.str 29,.int a,.int b] σ=some (.int (a / b),σ):=by
 have h1:=c_cut k σ a b ha hb hb'
 have h2:truth (.bool (b==0))=some false:=Im (beq_eq_false_iff_ne.mpr (Int.ne_of_gt hb))
 apply An (Ag rfl) d100 rfl
 exact Ak rfl rfl (Ak rfl rfl (Ak rfl rfl (Ak rfl rfl (Ak rfl rfl (Ak rfl rfl (Ak rfl rfl (Ak rfl h2 (Az (Bl rfl rfl (Am rfl h1))))))))))
theorem Je {k:Nat} {σ:St} {op:Nat} {a b i:Int} (h0:truth (.bool (31==op || (36==op || false)))=some false) (h2:truth (.bool (op==24))=some false) (he:AT prog (k+3) (0,100) [.str op,.int a,.int b] σ=some (.int i,σ)) :
  ∃ w,AT prog (k+4) (0,85) [.str 1,.str op,.int a,.int b] σ=some (.tup [.int (i % 256),w],σ):=by
 have hw:=Oi k σ i
 obtain ⟨c,hf⟩:=US k σ i
 refine ⟨.bool (!c),?_⟩
 apply An (Ag rfl) d85 rfl
 exact Ak rfl h0 (Ah (Am rfl he) rfl (Ak rfl rfl (Ak (A4 rfl h2) h2 (Az (Au (Aa (Am rfl hw) (Aa (F4 (Am rfl hf) rfl) rfl)))))))
theorem Mp {k:Nat} {σ:St} {op:Nat} {a b:Int} (h0:truth (.bool (31==op || (36==op || false)))=some false) (he:AT prog (k+3) (0,100) [.str op,.int a,.int b] σ=some (.none,σ)) :
  AT prog (k+4) (0,85) [.str 1,.str op,.int a,.int b] σ=some (.tup [.none,.bool false],σ):=by
 apply An (Ag rfl) d85 rfl
 exact Ak rfl h0 (Ah (Am rfl he) rfl (AJ rfl rfl (Az rfl)))
theorem UT (k:Nat) (σ:St) (a b:Int):AT prog (k+1) (0,86) [.str 30,.int a,.int b] σ=some (.bool (decide (a < b)),σ):=rfl
theorem Mm (k:Nat) (σ:St) (op:Nat) (hop:op=30∨op=27∨op=29) (a b:Int) (ha:0≤a) (hb:0≤b) (ha':a < 256) (hb':b < 256):AT prog (k+5) (0,197) [.str op,tI,.int a,.int b] σ=some (Hk op a b,σ):=by
 rcases hop with rfl | rfl | rfl
 ·exact rfl
 ·obtain ⟨w,hw⟩:=Je (k:=k) (op:=27) rfl rfl (Lf (k+2) σ a b)
  apply An (Ag rfl) UH rfl
  exact Az (As (Am rfl hw) rfl rfl)
 ·rcases Int.lt_or_eq_of_le hb with h | rfl
  ·obtain ⟨w,hw⟩:=Je (k:=k) (op:=29) rfl rfl (Le (k+1) σ a b ha h hb')
   rw [Int.emod_eq_of_lt (Int.ediv_nonneg ha hb) (Int.lt_of_le_of_lt (Int.ediv_le_self b ha) ha')] at hw
   have e:Hk 29 a b=.int (a / b):=if_neg (Int.ne_of_gt h)
   rw [e]
   apply An (Ag rfl) UH rfl
   exact Az (As (Am rfl hw) rfl rfl)
  ·have hw:=Mp (k:=k) (op:=29) rfl (JV (k+2) σ a)
   apply An (Ag rfl) UH rfl
   exact Ak rfl rfl (Ak rfl rfl (Az rfl))
end
section
inductive RV where
 | use (o:Opd)
 | bin (op:Nat) (l r:Opd)
 | tup (n t:Opd)
 | neg (t:Opd)
 | box (n:Opd)
 | rf
 | dc
noncomputable def RV.ok:RV→Prop
 | .use o=>o.ok
 | .bin op l r=>(op=30∨op=27∨op=29)∧l.ok∧r.ok∧DR l=.number∧DR r=.number
 | .tup n t=>n.ok∧t.ok∧DR n=.number∧DR t=.truth
 | .neg t=>t.ok∧DR t=.truth
 | .box n=>n.ok∧DR n=.number
 | _=>True
noncomputable def G7:RV→AV
 | .use o=>.tup [.str 234,BD o]
 | .bin op l r=>.tup [.str 75,.str op,BD l,BD r]
 | .tup n t=>.tup [.str 9,.tup [BD n,BD t]]
 | .neg t=>.tup [.str 233,.str 22,BD t]
 | .box n=>.tup [.str 80,BD n]
 | .rf=>.tup [.str 198,.none,.str 166,.tup [.int 1,.tup []]]
 | .dc=>.tup [.str 95,.tup [.int 3,.tup []]]
noncomputable def Ee:RV→Sr
 | .use o=>DR o
 | .bin op _ _=>if op=30 then .truth else .number
 | .tup _ _=>.pair
 | .neg _=>.truth
 | .box _=>.pair
 | .rf | .dc=>.number
noncomputable def Nz (op:Nat):AV→AV→AV
 | .int a,.int b=>Hk op a b
 | _,_=>.none
noncomputable def II:AV→AV→AV
 | .none,_=>.none
 | _,.none=>.none
 | a,b=>.tup [a,b]
noncomputable def NS:AV→AV
 | .bool b=>.bool (!b)
 | _=>.none
noncomputable def Ii (kn:List (Int×AV)):RV→AV
 | .use o=>A_ kn o
 | .bin op l r=>Nz op (A_ kn l) (A_ kn r)
 | .tup n t=>II (A_ kn n) (A_ kn t)
 | .neg t=>NS (A_ kn t)
 | _=>.none
noncomputable def LR (kn:List (Int×AV)):RV→AV
 | .use o=>.tup [.str 234,EP kn o]
 | .bin op l r=>.tup [.str 75,.str op,EP kn l,EP kn r]
 | .tup n t=>.tup [.str 9,.tup [EP kn n,EP kn t]]
 | .neg t=>.tup [.str 233,.str 22,EP kn t]
 | .box n=>.tup [.str 80,EP kn n]
 | .rf=>G7 .rf
 | .dc=>G7 .dc
theorem UI:prog.defs (20,175)=some Dd:=rfl
theorem d174:prog.defs (20,174)=some De:=rfl
theorem SL:prog.defs (20,237)=some CK:=rfl
theorem SM:prog.defs (20,194)=some Cm:=rfl
theorem d195:prog.defs (20,195)=some BV:=rfl
theorem d181:prog.defs (0,181)=some Fa:=rfl
theorem Qq:prog.defs (0,240)=some D9:=rfl
theorem QH {kn:List (Int×AV)} (H:KnOk kn) {σ:St} {f c:Nat} {e:AV} {dc:CA} (F:FactsAt σ f kn) (C:ConstAt dc σ c e) (k:Nat) {op:Nat} (hop:op=30∨op=27∨op=29) {l r:Opd} (hl:l.ok) (hr:r.ok) (sl:DR l=.number) (sr:DR r=.number) :
  AT prog (k+6) (20,175) [.loc c,.tup [.str 75,.str op,BD l,BD r],.loc f] σ=some (Nz op (A_ kn l) (A_ kn r),σ):=by
 have hA:=Bd H F (k+3) l
 have hB:=Bd H F (k+3) r
 have hT:=EY C (k+4) l
 rw [sl] at hT
 have h1:=C.h1
 have vl:=AM H hl sl
 have vr:=AM H hr sr
 obtain ⟨d,g1,g2⟩:=F
 rcases vl with vl | ⟨x,vl,x1,x2⟩<;>rw [vl] at hA<;>rw [vl]
 ·apply An (Ag rfl) UI rfl
  exact Ah rfl rfl (Ah (Au (Aa (Ax rfl g1 rfl rfl hA) (Aa (Ax rfl g1 rfl rfl hB) (Aa (Ax rfl h1 rfl rfl hT) rfl)))) rfl (AJ rfl rfl (Az rfl)))
 ·rcases vr with vr | ⟨y,vr,y1,y2⟩<;>rw [vr] at hB<;>rw [vr]
  ·apply An (Ag rfl) UI rfl
   exact Ah rfl rfl (Ah (Au (Aa (Ax rfl g1 rfl rfl hA) (Aa (Ax rfl g1 rfl rfl hB) (Aa (Ax rfl h1 rfl rfl hT) rfl)))) rfl (AJ rfl rfl (Az rfl)))
  ·have hR:=Mm k σ op hop x y x1 y1 x2 y2
   show _=some (Hk op x y,σ)
   apply An (Ag rfl) UI rfl
   apply Ah
   ·exact rfl
   ·exact rfl
   apply Ah
   ·exact Au (Aa (Ax rfl g1 rfl rfl hA) (Aa (Ax rfl g1 rfl rfl hB) (Aa (Ax rfl h1 rfl rfl hT) rfl)))
   ·exact rfl
   apply Ak
   ·exact rfl
   ·exact rfl
   apply AJ
   ·exact rfl
   ·exact rfl
   exact Az (Am rfl hR)
theorem QI {kn:List (Int×AV)} (H:KnOk kn) {σ:St} {f c:Nat} {e:AV} {dc:CA} (F:FactsAt σ f kn) (C:ConstAt dc σ c e) (k:Nat) {t:Opd} (st':DR t=.truth) :
  AT prog (k+6) (20,174) [.loc c,.tup [.str 233,.str 22,BD t],.loc f] σ=some (NS (A_ kn t),σ):=by
 have hA:=Bd H F (k+3) t
 have hT:=EY C (k+4) t
 rw [st'] at hT
 have h1:=C.h1
 have vt:=Bn H st'
 obtain ⟨d,g1,g2⟩:=F
 rcases vt with vt | ⟨x,vt⟩<;>rw [vt] at hA<;>rw [vt]
 ·apply An (Ag rfl) d174 rfl
  exact Ah (Au (Aa (Ax rfl g1 rfl rfl hA) (Aa (Ax rfl h1 rfl rfl hT) rfl))) rfl (AJ rfl rfl (Az rfl))
 ·apply An (Ag rfl) d174 rfl
  exact Ah (Au (Aa (Ax rfl g1 rfl rfl hA) (Aa (Ax rfl h1 rfl rfl hT) rfl))) rfl (Ak rfl rfl (AJ rfl rfl (Az (Bl rfl rfl rfl))))
theorem UK {body:AV→St→Option (Option AV×St)} {x y v w:AV} {σ:St} (h1:body x σ=some (some v,σ)) (h2:body y σ=some (some w,σ)):Ch body false (.tup [x,y]) AC 0 [] σ=some ([v,w],σ):=by
 rw [Jb _ [x,y] _ _ (show 2 < 100000 by decide)]
 exact Ap h1 (Ap h2 rfl)
theorem Ml {kn:List (Int×AV)} (H:KnOk kn) {σ:St} {f c:Nat} {e:AV} {dc:CA} (F:FactsAt σ f kn) (C:ConstAt dc σ c e) (k:Nat) {r:RV} (hr:r.ok) :
  ∃ ξ,AT prog (k+7) (20,237) [.loc c,G7 r,.loc f] σ=some (Ii kn r,σ++ξ):=by
 have c1:=C.h1
 induction r using RV.casesOn with
 | use o=>
  have hA:=Bd H F (k+4) o
  obtain ⟨d,g1,g2⟩:=F
  refine ⟨[],?_⟩
  rw [List.append_nil]
  apply An (Ag rfl) SL rfl
  exact Ah rfl rfl (AJ rfl rfl (Az (Ax rfl g1 rfl rfl hA)))
 | bin op l r=>
  have hA:=QH H F C k hr.1 hr.2.1 hr.2.2.1 hr.2.2.2.1 hr.2.2.2.2
  refine ⟨[],?_⟩
  rw [List.append_nil]
  apply An (Ag rfl) SL rfl
  exact Ah rfl rfl (Ak rfl rfl (Ak rfl rfl (AJ rfl rfl (Az (Ax rfl c1 rfl rfl hA)))))
 | neg t=>
  have hA:=QI H F C k hr.2
  refine ⟨[],?_⟩
  rw [List.append_nil]
  apply An (Ag rfl) SL rfl
  exact Ah rfl rfl (Ak rfl rfl (Ak rfl rfl (Ak rfl rfl (AJ rfl rfl (Az (Ax rfl c1 rfl rfl hA))))))
 | box n=>exact ⟨[],by rw [List.append_nil];exact rfl⟩
 | rf=>exact ⟨[],by rw [List.append_nil];exact rfl⟩
 | dc=>exact ⟨[],by rw [List.append_nil];exact rfl⟩
 | tup n t=>
  have hA:=Bd H F (k+4) n
  have hB:=Bd H F (k+4) t
  have vn:=AM H hr.1 hr.2.2.1
  have vt:=Bn H hr.2.2.2
  obtain ⟨d,g1,g2⟩:=F
  refine ⟨[.list [A_ kn n,A_ kn t]],?_⟩
  show _=some (II (A_ kn n) (A_ kn t),_)
  have hL:Ev (k+6) (.lcomp (.meth (.var 102) 70 [.var 179]) (.one 179) (.idx (.var 203) (.int 1)) []) [(206,.loc c),(203,.tup [.str 9,.tup [BD n,BD t]]),(102,.loc f),(135,.str 9)] σ (.loc σ.length) (σ++[.list [A_ kn n,A_ kn t]]):=by
   apply BO
   ·exact rfl
   ·exact rfl
   apply UK
   ·apply Bp
    ·exact rfl
    ·exact rfl
    ·exact Ax rfl g1 rfl rfl hA
   ·apply Bp
    ·exact rfl
    ·exact rfl
    ·exact Ax rfl g1 rfl rfl hB
  have hg:=Ad σ (.list [A_ kn n,A_ kn t])
  have hI:A9 (σ++[.list [A_ kn n,A_ kn t]]) .In .none (.loc σ.length)=CP (BU (σ++[.list [A_ kn n,A_ kn t]]) 20) .none [A_ kn n,A_ kn t]:=by
   show (match (σ++[AO.list [A_ kn n,A_ kn t]])[σ.length]? with | some (.list l)=>_ | some (.dI l)=>_ | _=>_)=_
   rw [hg]
  have hU:DB .tuple [.loc σ.length] (σ++[.list [A_ kn n,A_ kn t]])=some (.tup [A_ kn n,A_ kn t],σ++[.list [A_ kn n,A_ kn t]]):=DX hg (show 2≤1000000 by decide)
  generalize σ++[.list [A_ kn n,A_ kn t]]=σ1 at *
  rcases vn with vn | ⟨x,vn,_⟩<;>rcases vt with vt | ⟨y,vt⟩<;>rw [vn,vt] at hI hU<;>rw [vn,vt]
  all_goals
   apply An (Ag rfl) SL rfl
   apply Ah
   ·exact rfl
   ·exact rfl
   apply Ak
   ·exact rfl
   ·exact rfl
   apply Oz
   ·exact rfl
   ·exact rfl
   apply Ah
   ·exact hL
   ·exact rfl
   apply Az
   apply Fe
   ·exact Al rfl rfl hI
   ·exact rfl
   ·first | exact rfl | exact Bx rfl hU
end
section
noncomputable def LS:RV→List Opd
 | .use o=>[o]
 | .bin _ l r=>[l,r]
 | .tup n t=>[n,t]
 | .neg t=>[t]
 | .box n=>[n]
 | _=>[]
theorem Iz (k:Nat) (σ:St) (r:RV):AT prog (k+1) (0,181) [G7 r] σ=some (.loc σ.length,σ++[.list ((LS r).map BD)]):=by
 cases r<;>exact rfl
theorem G4 (k:Nat) (σ:St) (r:RV) (a:Nat) (kn:List (Int×AV)) (ha:σ[a]?=some (.list ((LS r).map (EP kn)))):AT prog (k+1) (0,240) [G7 r,.loc a] σ=some (LR kn r,σ):=by
 induction r using RV.casesOn with
 | rf=>exact rfl
 | dc=>exact rfl
 | tup n t=>
  have hU:DB .tuple [.loc a] σ=some (.tup [EP kn n,EP kn t],σ):=DX ha (show 2≤1000000 by decide)
  apply An (Ag rfl) Qq rfl
  apply Ah
  ·exact rfl
  ·exact rfl
  apply Ak
  ·exact rfl
  ·exact rfl
  apply Ak
  ·exact rfl
  ·exact rfl
  apply Ak
  ·exact rfl
  ·exact rfl
  apply Ak
  ·exact rfl
  ·exact rfl
  apply AJ
  ·exact rfl
  ·exact rfl
  exact Az (Au (Aa rfl (Aa (Bx rfl hU) rfl)))
 | use o=>
  have g0:CM σ (.loc a) (.int 0)=some (EP kn o):=idx_list (n:=0) ha rfl (by decide)
  apply An (Ag rfl) Qq rfl
  exact Ah rfl rfl (AJ rfl rfl (Az (Au (Aa rfl (Aa (As rfl rfl (idx_list ha rfl (by decide))) rfl)))))
 | box o=>
  have g0:CM σ (.loc a) (.int 0)=some (EP kn o):=idx_list (n:=0) ha rfl (by decide)
  apply An (Ag rfl) Qq rfl
  exact Ah rfl rfl (AJ rfl rfl (Az (Au (Aa rfl (Aa (As rfl rfl (idx_list ha rfl (by decide))) rfl)))))
 | neg o=>
  have g0:CM σ (.loc a) (.int 0)=some (EP kn o):=idx_list (n:=0) ha rfl (by decide)
  apply An (Ag rfl) Qq rfl
  exact Ah rfl rfl (Ak rfl rfl (Ak rfl rfl (AJ rfl rfl (Az (Au (Aa rfl (Aa rfl (Aa (As rfl rfl (idx_list ha rfl (by decide))) rfl))))))))
 | bin op l r=>
  have g0:CM σ (.loc a) (.int 0)=some (EP kn l):=idx_list (n:=0) ha rfl (by decide)
  have g1:CM σ (.loc a) (.int 1)=some (EP kn r):=idx_list (n:=1) ha rfl (by decide)
  apply An (Ag rfl) Qq rfl
  exact Ah rfl rfl (Ak rfl rfl (AJ rfl rfl (Az (Au (Aa rfl (Aa rfl (Aa (As rfl rfl (idx_list ha rfl (by decide))) (Aa (As rfl rfl (idx_list ha rfl (by decide))) rfl))))))))
theorem TZ {r:RV} (h:r.ok):∀ o∈LS r,o.ok:=by
 cases r<;>simp only [RV.ok] at h<;>simp [LS]
 ·exact h
 ·exact ⟨h.2.1,h.2.2.1⟩
 ·exact ⟨h.1,h.2.1⟩
 ·exact h.1
 ·exact h.1
noncomputable def GL:Sr→AV
 | .number=>By .n4
 | .truth=>By .p1
 | .pair=>By .pr
noncomputable def P4:Sr→Plc
 | .number=>.n4
 | .truth=>.p1
 | .pair=>.pr
noncomputable def Ed (kn:List (Int×AV)) (r:RV):AV:=match Ee r,Ii kn r with
 | .pair,_=>LR kn r
 | _,.none=>LR kn r
 | s,v=>.tup [.str 234,.tup [.str 87,Eg s,v]]
theorem Gz {α:Type} {p q:α→AV} {body:AV→St→Option (Option AV×St)} {a:Nat} {l:List α} {σ:St} (hσ:σ[a]?=some (.list (l.map p))) (hl:l.length < 100000) (hb:∀ x∈l,body (p x) σ=some (some (q x),σ)) :
  Ch body false (.loc a) AC 0 [] σ=some (l.map q,σ):=by
 obtain ⟨acc,σ',h,e,rfl⟩:=L7 (add:=JY) (d:=false) (src:=.loc a) (L:=l.map p) (fun i acc σ'=>acc=(l.take i).map q∧σ'=σ) (fun i acc σ' h=>h.2▸Av hσ i) (fun i x acc σ' hx h=>by
  obtain ⟨rfl,rfl⟩:=h
  rw [List.getElem?_map] at hx
  obtain ⟨y,hy,rfl⟩:=Option.map_eq_some_iff.mp hx
  exact ⟨_,_,hb y (List.mem_of_getElem? hy),by rw [List.take_add_one,hy,List.map_append];rfl,rfl⟩) AC 0 [] σ (by rw [List.length_map,Nat.zero_add];exact hl) (Nat.zero_le _) ⟨rfl,rfl⟩
 rw [List.length_map,List.take_length] at e
 exact e▸h
theorem P3 (s:Sr):AV.tup [.str 90,GL s]=BD (.plc false (P4 s)):=by cases s<;>rfl
theorem P2 (s:Sr):DR (.plc false (P4 s))=s:=by cases s<;>rfl
theorem Rr (r:RV):(LS r).length < 100000:=by cases r<;>simp [LS]
theorem Pi {kn:List (Int×AV)} (H:KnOk kn) {o:Opd} (ho:o.ok):A_ kn o=.none∨KC (A_ kn o) .none=some false:=by
 generalize hs:DR o=zz2
 induction zz2 using Sr.casesOn with
 | number=>exact (AM H ho hs).imp id fun ⟨i,h,_⟩=>by rw [h];rfl
 | truth=>exact (Bn H hs).imp id fun ⟨i,h⟩=>by rw [h];rfl
 | pair=>exact (Kq H hs).imp id fun ⟨i,b,h,_⟩=>by rw [h];rfl
theorem Ny (op:Nat) (a b:Int):Hk op a b=.none∨KC (Hk op a b) .none=some false:=by
 unfold Hk
 split
 ·exact .inr rfl
 ·split
  ·exact .inr rfl
  ·split
   ·exact .inl rfl
   ·exact .inr rfl
theorem Hv {kn:List (Int×AV)} (H:KnOk kn) {r:RV} (hr:r.ok):Ii kn r=.none∨KC (Ii kn r) .none=some false:=by
 induction r using RV.casesOn with
 | use o=>exact Pi H hr
 | bin op l r=>
  show Nz _ (A_ kn l) (A_ kn r)=_∨KC (Nz _ (A_ kn l) (A_ kn r)) _=_
  rcases AM H hr.2.1 hr.2.2.2.1 with h | ⟨x,h,_⟩<;>rw [h]
  ·exact .inl rfl
  rcases AM H hr.2.2.1 hr.2.2.2.2 with h' | ⟨y,h',_⟩<;>rw [h']
  ·exact .inl rfl
  exact Ny op x y
 | tup n t=>
  show II (A_ kn n) (A_ kn t)=_∨KC (II (A_ kn n) (A_ kn t)) _=_
  rcases AM H hr.1 hr.2.2.1 with h | ⟨x,h,_⟩<;>rw [h]
  ·exact .inl rfl
  rcases Bn H hr.2.2.2 with h' | ⟨y,h'⟩<;>rw [h']
  ·exact .inl rfl
  exact .inr rfl
 | neg t=>
  show NS (A_ kn t)=_∨KC (NS (A_ kn t)) _=_
  rcases Bn H hr.2 with h' | ⟨y,h'⟩<;>rw [h']
  ·exact .inl rfl
  exact .inr rfl
 | box n=>exact .inl rfl
 | rf=>exact .inl rfl
 | dc=>exact .inl rfl
theorem F8 {kn:List (Int×AV)} (H:KnOk kn) {σ:St} {f c:Nat} {e:AV} {dc:CA} (F:FactsAt σ f kn) (C:ConstAt dc σ c e) (k:Nat) {r:RV} (hr:r.ok) :
  ∃ ξ,AT prog (k+8) (20,194) [.loc c,G7 r,GL (Ee r),.loc f] σ=some (Ed kn r,σ++ξ):=by
 obtain ⟨ξ,hV⟩:=Ml H F C k hr
 have C1:=C.ext (Ext.app σ ξ)
 have hT:=EY C1 (k+6) (.plc false (P4 (Ee r)))
 rw [P2,←P3] at hT
 have c0:=C.h1
 have c1:=C1.h1
 have E2:=Ext.app (σ++ξ) [AO.list ((LS r).map BD)]
 have C2:=C1.ext E2
 have hP:=fun o ho=>Lc H ((F.ext (Ext.app σ ξ)).ext E2) C2 (k+4) o (TZ hr o ho)
 have c2:=C2.h1
 have hget:=Ad (σ++ξ) (AO.list ((LS r).map BD))
 have key:∀ {ρ:At},look 203 ρ=some (G7 r)→look 206 ρ=some (.loc c)→look 102 ρ=some (.loc f)→Ev (k+7) (.call 240 [.var 203,(.lcomp (.meth (.var 206) 193 [.var 179,.var 102]) (.one 179) (.call 181 [.var 203]) [])]) ρ (σ++ξ) (LR kn r) (σ++ξ++[AO.list ((LS r).map BD)]++[AO.list ((LS r).map (EP kn))]):=by
  intro ρ l1 l2 l3
  have v1:∀ {σ},Ev (k+7) (.var 203) ρ σ (G7 r) σ:=fun {σ}=>congrArg (Option.map fun v=>(v,σ)) l1
  refine Am (Aa v1 (Aa (BO (Am (Aa v1 rfl) (Iz (k+6) (σ++ξ) r)) ?_ (Gz (q:=EP kn) (p:=BD) hget (Rr r) fun o ho=>?_)) rfl)) (G4 _ _ r _ kn (Ad _ _))
  ·show (match (σ++ξ++[AO.list ((LS r).map BD)])[(σ++ξ).length]? with | some (.dI _)=>true | _=>false)=false
   rw [hget]
  ·have e1:look 206 (put 179 (BD o) ρ)=some (.loc c):=(look_put _ _ _ _).trans l2
   have e2:look 102 (put 179 (BD o) ρ)=some (.loc f):=(look_put _ _ _ _).trans l3
   have e3:look 179 (put 179 (BD o) ρ)=some (BD o):=look_put _ _ _ _
   exact Bp rfl rfl (Ax (congrArg (Option.map fun v=>(v,_)) e1) c2 rfl (Aa (congrArg (Option.map fun v=>(v,_)) e3) (Aa (congrArg (Option.map fun v=>(v,_)) e2) rfl)) (hP o ho))
 rcases Hv H hr with hv | hv
 ·refine ⟨ξ++[AO.list ((LS r).map BD)]++[AO.list ((LS r).map (EP kn))],?_⟩
  have hd:Ed kn r=LR kn r:=by unfold Ed;rw [hv];cases Ee r<;>rfl
  rw [hv] at hV
  rw [hd,←List.append_assoc,←List.append_assoc]
  apply An (Ag rfl) SM rfl
  apply Ah
  ·exact Ax rfl c0 rfl rfl hV
  ·exact rfl
  apply Ah
  ·exact Ax rfl c1 rfl rfl hT
  ·exact rfl
  apply Ak
  ·exact A4 rfl rfl
  ·exact rfl
  exact Az (key rfl rfl rfl)
 ·have hN:A9 (σ++ξ) .IsNot (Ii kn r) .none=some true:=by show (KC (Ii kn r) .none).map not=_;rw [hv];rfl
  by_cases hs:Ee r=.pair
  ·refine ⟨ξ++[AO.list ((LS r).map BD)]++[AO.list ((LS r).map (EP kn))],?_⟩
   have hd:Ed kn r=LR kn r:=by unfold Ed;rw [hs]
   rw [hs] at hT ⊢
   rw [hd,←List.append_assoc,←List.append_assoc]
   apply An (Ag rfl) SM rfl
   apply Ah
   ·exact Ax rfl c0 rfl rfl hV
   ·exact rfl
   apply Ah
   ·exact Ax rfl c1 rfl rfl hT
   ·exact rfl
   apply Ak
   ·exact A0 (Al rfl rfl hN) rfl rfl
   ·exact rfl
   exact Az (key rfl rfl rfl)
  ·refine ⟨ξ,?_⟩
   have hd:Ed kn r=.tup [.str 234,.tup [.str 87,Eg (Ee r),Ii kn r]]:=by
    unfold Ed
    cases h1:Ee r<;>cases h2:Ii kn r<;>first | rfl | exact absurd h1 hs | (rw [h2] at hv;(cases hv))
   rw [hd]
   generalize h1:Ee r=zz5
   induction zz5 using Sr.casesOn with
   | pair=>exact absurd h1 hs
   | number=>
    rw [h1] at hT
    apply An (Ag rfl) SM rfl
    apply Ah
    ·exact Ax rfl c0 rfl rfl hV
    ·exact rfl
    apply Ah
    ·exact Ax rfl c1 rfl rfl hT
    ·exact rfl
    apply AJ
    ·exact A0 (Al rfl rfl hN) rfl rfl
    ·exact rfl
    exact rfl
   | truth=>
    rw [h1] at hT
    apply An (Ag rfl) SM rfl
    apply Ah
    ·exact Ax rfl c0 rfl rfl hV
    ·exact rfl
    apply Ah
    ·exact Ax rfl c1 rfl rfl hT
    ·exact rfl
    apply AJ
    ·exact A0 (Al rfl rfl hN) rfl rfl
    ·exact rfl
    exact rfl
theorem G5 {kn:List (Int×AV)} (H:KnOk kn) {σ:St} {f c:Nat} {e:AV} {dc:CA} (F:FactsAt σ f kn) (C:ConstAt dc σ c e) (k:Nat) {r:RV} (hr:r.ok) :
  ∃ ξ,AT prog (k+9) (20,195) [.loc c,.tup [.str 68,GL (Ee r),G7 r],.loc f] σ=some (.tup [.str 68,GL (Ee r),Ed kn r],σ++ξ):=by
 obtain ⟨ξ,hV⟩:=F8 H F C k hr
 have c0:=C.h1
 refine ⟨ξ,?_⟩
 apply An (Ag rfl) d195 rfl
 exact AJ rfl rfl (Az (Au (Aa rfl (Aa rfl (Aa (Ax rfl c0 rfl rfl hV) rfl)))))
theorem Lb {kn:List (Int×AV)} (H:KnOk kn) {σ:St} {f c:Nat} {e:AV} {dc:CA} (F:FactsAt σ f kn) (C:ConstAt dc σ c e) (k:Nat) (o:Opd) (ho:o.ok) :
  AT prog (k+4) (20,195) [.loc c,.tup [.str 190,BD o],.loc f] σ=some (.tup [.str 190,EP kn o],σ):=by
 have hV:=Lc H F C k o ho
 have c0:=C.h1
 apply An (Ag rfl) d195 rfl
 exact Ak rfl rfl (AJ rfl rfl (Az (Au (Aa rfl (Aa (Ax rfl c0 rfl rfl hV) rfl)))))
end
section
theorem HB {k c:Nat} {d:Def} (h1:Dx c=true) (h2:prog.defs (c,17)=some d) {args:List AV} {σ σ':St} {ρ ρ':At} (hb:Eb d.params (.loc σ.length::args) []=some ρ) (h:Xs k d.body ρ (σ++[.inst c []]) (.next,ρ',σ')) :
  Ca (k+1) (0,c) args σ (.loc σ.length) σ':=by
 have e:AT prog (k+1) (0,c) args σ=Bi (prog.defs (c,17)) fun d=>A3 (Gh prog.gtup (AT prog k) d (.loc σ.length::args) (σ++[.inst c []])) fun v σ'=>cond (JH v) (some (.loc σ.length,σ')) none:=by
  show cond (Dx c) _ _=_
  rw [h1];rfl
 exact e.trans (AE h2 (Ap (Hw hb h) rfl))
theorem d19:prog.defs (19,17)=some DK:=rfl
theorem d20:prog.defs (20,17)=some CL:=rfl
theorem d18:prog.defs (18,17)=some D7:=rfl
theorem d42:prog.defs (0,42)=some GT:=rfl
theorem d60:prog.defs (0,60)=some I1:=rfl
theorem d150:prog.defs (0,150)=some Fb:=rfl
theorem d129:prog.defs (0,129)=some Fc:=rfl
theorem c_u8 (k:Nat) (σ:St):AT prog (k+1) (0,60) [] σ=some (tI,σ):=rfl
theorem AG (σ:St) (x:AO):σ.length < (σ++[x]).length:=by rw [List.length_append];exact Nat.lt_succ_self _
theorem IW (σ:St) (x y z:AO):(σ++[x]++[y])[(σ++[z]).length]?=some y:=by
 rw [show (σ++[z]).length=(σ++[x]).length by rw [List.length_append,List.length_append];rfl];exact Ad _ _
theorem Cn {σ:St} {i:Nat} (h:i < σ.length) (x:AO):i < (σ++[x]).length:=Nat.lt_trans h (AG σ x)
theorem Ext.app1 (σ:St) (x:AO):Ext σ (σ++[x]):=Ext.app σ [x]
theorem Nm (k:Nat) {σ:St} {d:Nat} {kn:List (Int×AV)} (hd:σ[d]?=some (.dI kn)) (hl:kn.length≤1000000) :
  ∃ d',Ca (k+1) (0,19) [.loc d] σ (.loc σ.length) (σ++[.inst 19 [(137,.loc d')]]++[.dI kn])∧(σ++[AO.inst 19 [(137,.loc d')]]++[AO.dI kn])[d']?=some (.dI kn)∧d'=σ.length+1:=by
 refine ⟨(σ++[AO.inst 19 []]).length,?_,?_,by rw [List.length_append];rfl⟩
 ·apply HB rfl d19 rfl
  apply C8
  ·exact Bx rfl (GB (Af hd _) hl)
  ·exact rfl
  ·exact Af (Ad _ _) _
  ·exact Nat.zero_le _
  ·exact Cj (BB _ _ _) (AG _ _) _
  ·exact FA
 ·exact IW _ _ _ _
theorem Er (k:Nat) {σ:St} {d:Nat} {kn:List (Int×AV)} (hd:σ[d]?=some (.dI kn)) (hl:kn.length≤1000000) :
  ∃ σ',Ca (k+1) (0,19) [.loc d] σ (.loc σ.length) σ'∧Ext σ σ'∧FactsAt σ' σ.length kn:=by
 obtain ⟨d',h1,h2,_⟩:=Nm k hd hl
 exact ⟨_,h1,(Ext.app1 _ _).trans (Ext.app1 _ _),⟨d',Af (Ad _ _) _,h2⟩⟩
theorem QO (k:Nat) {σ:St} {l bl:Nat} {ls:List AV} (hl:σ[l]?=some (.list ls)) (hs:ls.length≤1000000) :
  ∃ a₂ a₃ σ',Ca (k+1) (0,18) [.str 101,.int 0,.loc l,.loc bl] σ (.loc σ.length) σ'∧Ext σ σ'∧σ'[σ.length]?=some (.inst 18 [(167,.str 101),(64,.int 0),(154,.loc a₂),(77,.loc bl),(214,.loc a₃)])∧σ'[a₂]?=some (.list ls)∧σ.length < σ'.length:=by
 refine ⟨?_,?_,?_,?_,?_,?_,?_,?_⟩
 rotate_left 3
 ·apply HB rfl d18 rfl
  apply C8
  ·exact rfl
  ·exact rfl
  ·exact Ad _ _
  ·exact Nat.zero_le _
  ·exact BB _ _ _
  apply C8
  ·exact rfl
  ·exact rfl
  ·exact Ad _ _
  ·exact Nat.le_add_left _ 19
  ·exact BB _ _ _
  apply C8
  ·exact Bx rfl (Oo (Af hl _) hs)
  ·exact rfl
  ·exact Af (Ad _ _) _
  ·exact Nat.le_add_left _ 18
  ·exact Cj (BB _ _ _) (AG _ _) _
  apply C8
  ·exact rfl
  ·exact rfl
  ·exact Af (Ad _ _) _
  ·exact Nat.le_add_left _ 17
  ·exact Cj (BB _ _ _) (AG _ _) _
  apply C8
  ·exact Fe rfl rfl rfl
  ·exact rfl
  ·exact Af (Af (Ad _ _) _) _
  ·exact Nat.le_add_left _ 16
  ·exact Cj (Cj (BB _ _ _) (AG _ _) _) (Cn (AG _ _) _) _
  ·exact FA
 ·exact (Ext.app1 _ _).trans ((Ext.app1 _ _).trans (Ext.app1 _ _))
 ·exact Af (Af (Ad _ _) _) _
 ·exact Af (IW _ _ _ _) _
 ·exact Cn (Cn (AG _ _) _) _
noncomputable def kindsA:List AV:=[tI,tI,tB,tP,tI]
structure BodyAt (d:CA) (σ:St) (e:AV):Prop where
 h2:σ[d.b]?=some (.inst 18 [(167,.str 101),(64,.int 0),(154,.loc d.l),(77,.loc d.bl),(214,.loc d.sp)])
 h3:σ[d.l]?=some (.list BW)
 h4:σ[d.bl]?=some (.list [.loc d.b0])
 h5:σ[d.b0]?=some (.list [.loc d.st,e])
 h6:σ[d.st]?=some (.list [])
theorem BodyAt.ext {d:CA} {σ σ':St} {e:AV} (B:BodyAt d σ e) (E:Ext σ σ'):BodyAt d σ' e:=⟨E _ _ B.h2,E _ _ B.h3,E _ _ B.h4,E _ _ B.h5,E _ _ B.h6⟩
theorem H3 (k:Nat) (σ:St) (e:AV):∃ d σ',Ca (k+2) (0,42) [e] σ (.loc d.b) σ'∧Ext σ σ'∧BodyAt d σ' e:=by
 have g1:=Ad σ (AO.list (kindsA.map id))
 have hc:=Gz (p:=id) (q:=G8) (l:=kindsA) (body:=cB (k+1) (.one 135) [(98,e),(136,.loc σ.length)] (.tup [.var 135,(.bool true),.none]) []) g1 (show 5 < 100000 by decide) (fun x _=>rfl)
 have g2:AH (σ++[AO.list (kindsA.map id)]) (.loc σ.length)=false:=by
  show (match (σ++[AO.list (kindsA.map id)])[σ.length]? with | some (.dI _)=>true | _=>false)=false
  rw [g1]
 have x1:=Ext.app1 σ (AO.list (kindsA.map id))
 have q1:Ev (k+1) (.list [.call 60 [],.call 60 [],(.tup [.str 79]),(.tup [.str 9,(.tup [.call 60 [],(.tup [.str 79])])]),.call 60 []]) [(98,e)] σ (.loc σ.length) (σ++[AO.list (kindsA.map id)]):=rfl
 generalize σ++[AO.list (kindsA.map id)]=σ₁ at *
 have x2:=((Ext.app1 σ₁ (AO.list BW)).trans (Ext.app1 _ (AO.list []))).trans ((Ext.app1 _ (AO.list [.loc (σ₁++[AO.list BW]).length,e])).trans (Ext.app1 _ (AO.list [.loc (σ₁++[AO.list BW]++[AO.list []]).length])))
 obtain ⟨a₂,a₃,σ',hB,xB,b1,b2,_⟩:=QO k (σ:=σ₁++[AO.list BW]++[AO.list []]++[AO.list [.loc (σ₁++[AO.list BW]).length,e]]++[AO.list [.loc (σ₁++[AO.list BW]++[AO.list []]).length]]) (l:=σ₁.length) (bl:=(σ₁++[AO.list BW]++[AO.list []]++[AO.list [.loc (σ₁++[AO.list BW]).length,e]]).length) (ls:=BW) (Af (Af (Af (Ad _ _) _) _) _) (by decide)
 refine ⟨⟨_,0,0,a₂,_,a₃,_,_⟩,σ',?_,x1.trans (x2.trans xB),⟨b1,b2,xB _ _ (Ad _ _),xB _ _ (Af (Ad _ _) _),xB _ _ (Af (Af (Ad _ _) _) _)⟩⟩
 apply An (Ag rfl) d42 rfl
 refine Ah q1 rfl ?_
 exact Az (Am (Aa rfl (Aa rfl (Aa (BO rfl g2 hc) (Aa (Ar (Aa (Ar (Aa rfl (Aa rfl rfl))) rfl)) rfl)))) hB)
end
section
theorem Ext.set {σ σ':St} {a:Nat} {o:AO} (E:Ext σ σ') (h:σ.length≤a):Ext σ (σ'.set a o):=fun i q e=>
 AR (E i q e) (Nat.ne_of_gt (Nat.lt_of_lt_of_le (Bc e) h))
theorem Ext.le {σ σ':St} (E:Ext σ σ'):σ.length≤σ'.length:=by
 by_cases h:σ.length=0
 ·rw [h];exact Nat.zero_le _
 ·have hl:σ.length - 1 < σ.length:=Nat.sub_lt (Nat.pos_of_ne_zero h) Nat.one_pos
  have:=Bc (E (σ.length - 1) _ (List.getElem?_eq_getElem hl))
  exact om20 this
theorem H5 {σ:St} {a x y:Nat} {v w:AV} {ρ:At} (h:σ[a]?=some (.list [v,w])):Bq σ (.many [x,y]) (.loc a) ρ=some (put y w (put x v ρ)):=by
 show ((match σ[a]? with | some (.list l)=>_ | _=>_:Option (List AV)).bind _)=_
 rw [h];rfl
theorem UQ (k:Nat) {σ:St} {e:AV} {d:CA} (B:BodyAt d σ e):Ca (k+1) (0,150) [.loc d.b] σ (.loc σ.length) (σ++[.dI []]):=by
 have B':=B.ext (Ext.app1 σ (.dI []))
 apply An (Ag rfl) d150 rfl
 apply Ah
 ·exact Bw rfl rfl
 ·exact rfl
 apply A6
 ·exact AN rfl B'.h2 rfl
 ·exact FU (Av B'.h4 0) (H5 B'.h5) (A6 rfl (Ey (Av B'.h6 0)) rfl) (Ey (Av B'.h4 1))
 exact rfl
theorem IA (k:Nat) (σ:St) {t:AV} (ht:t=tI∨t=tB∨t=tP):∃ ξ,Ca (k+1) (0,129) [t] σ (.bool true) (σ++ξ):=by
 rcases ht with rfl | rfl | rfl
 ·exact ⟨[],by rw [List.append_nil];exact rfl⟩
 ·exact ⟨[],by rw [List.append_nil];exact rfl⟩
 ·refine ⟨[.list []]++[.list []],?_⟩
  have hq:A9 (σ++[.list []]++[.list []]) .Eq (.loc σ.length) (.loc (σ++[AO.list []]).length)=some true:=by
   show Ig _ (σ++[AO.list []]++[AO.list []])[σ.length]? (σ++[AO.list []]++[AO.list []])[(σ++[AO.list []]).length]?=_
   rw [Af (Ad _ _) _,Ad];rfl
  rw [←List.append_assoc]
  apply An (Ag rfl) d129 rfl
  apply AJ
  ·exact rfl
  ·exact rfl
  exact Az (Al (BO rfl rfl rfl) (Ar rfl) hq)
theorem Kx:∀ {i:Nat} {x:AV},BW[i]?=some x→∃ t,x=G8 t∧(t=tI∨t=tB∨t=tP)
 | 0,_,e=>by (cases e);exact ⟨_,rfl,.inl rfl⟩
 | 1,_,e=>by (cases e);exact ⟨_,rfl,.inl rfl⟩
 | 2,_,e=>by (cases e);exact ⟨_,rfl,.inr (.inl rfl)⟩
 | 3,_,e=>by (cases e);exact ⟨_,rfl,.inr (.inr rfl)⟩
 | 4,_,e=>by (cases e);exact ⟨_,rfl,.inl rfl⟩
 | n+5,_,e=>by exact Ae e
theorem HN {σ:St} {n:Nat} (h:σ.length=n) (x:AO):(σ++[x])[n]?=some x:=by rw [←h];exact Ad _ _
structure FoI (σ₀:St) (d:CA) (c ln:Nat) (i:Nat) (ρ:At) (σ:St):Prop where
 r1:look 206 ρ=some (.loc c)
 r2:look 78 ρ=some (.loc d.b)
 r3:look 149 ρ=some (.loc ln)
 x:Ext σ₀ σ
 s1:σ[c]?=some (.inst 20 [(78,.loc d.b),(110,.loc d.fo)])
 s2:σ[ln]?=some (.dI [])
 s3:∃ l,σ[d.fo]?=some (.dI l)∧l.length≤i
theorem Em:∀ (l:List (Int×AV)) (k:Int) (v:AV),(Br k v l).length≤l.length+1
 | [],_,_=>Nat.le_refl _
 | (y,w)::r,k,v=>by
  unfold Br
  split
  ·exact Nat.le_succ _
  ·exact Nat.succ_le_succ (Em r k v)
theorem M3 {σ:St} {a:Nat} (h:σ[a]?=some (.dI [])) (n:Int):A9 σ .NotIn (.int n) (.loc a)=some true:=by
 show Option.map not (match σ[a]? with | some (.list l)=>_ | some (.dI l)=>_ | _=>_)=_
 rw [h];rfl
theorem Lg (k:Nat) {σ:St} {e:AV} {d:CA} (B:BodyAt d σ e):∃ d' c σ',Ca (k+2) (0,20) [.loc d.b] σ (.loc c) σ'∧Ext σ σ'∧ConstAt d' σ' c e∧d'.b=d.b:=by
 have E1:Ext σ (σ++[AO.inst 20 [(78,.loc d.b)]]):=Ext.app1 _ _
 have hl:=UQ k (B.ext E1)
 have E2:=E1.trans (Ext.app1 _ (AO.dI []))
 have g2:=Ad (σ++[AO.inst 20 [(78,.loc d.b)]]) (AO.dI [])
 have s2:(σ++[AO.inst 20 [(78,.loc d.b)]]++[AO.dI []])[σ.length]?=some (AO.inst 20 [(78,.loc d.b)]):=Af (Ad _ _) _
 have q2:(σ++[AO.inst 20 [(78,.loc d.b)]]++[AO.dI []]++[AO.dI []]).set σ.length (AO.inst 20 [(78,.loc d.b),(110,.loc (σ++[AO.inst 20 [(78,.loc d.b)]]++[AO.dI []]).length)])=σ++[AO.inst 20 [(78,.loc d.b),(110,.loc (σ++[AO.inst 20 [(78,.loc d.b)]]++[AO.dI []]).length)]]++[AO.dI []]++[AO.dI []]:=
  Cj (Cj (BB _ _ _) (AG _ _) _) (Cn (AG _ _) _) _
 have len:(σ++[AO.inst 20 [(78,.loc d.b)]]).length=σ.length+1:=by rw [List.length_append];rfl
 have len2:(σ++[AO.inst 20 [(78,.loc d.b)]]++[AO.dI []]).length=σ.length+2:=by rw [List.length_append,len];rfl
 rw [len2] at q2
 rw [len] at hl g2
 let d1:CA:=⟨d.b,σ.length+2,0,d.l,d.bl,d.sp,d.b0,d.st⟩
 have I0:FoI σ d1 σ.length (σ.length+1) 0 [(206,.loc σ.length),(78,.loc d.b),(149,.loc (σ.length+1))] (σ++[AO.inst 20 [(78,.loc d.b),(110,.loc (σ.length+2))]]++[AO.dI []]++[AO.dI []]):=by
  have l1:(σ++[AO.inst 20 [(78,.loc d.b),(110,.loc (σ.length+2))]]).length=σ.length+1:=by rw [List.length_append];rfl
  have l2:(σ++[AO.inst 20 [(78,.loc d.b),(110,.loc (σ.length+2))]]++[AO.dI []]).length=σ.length+2:=by rw [List.length_append,l1];rfl
  refine ⟨rfl,rfl,rfl,(Ext.app1 _ _).trans ((Ext.app1 _ _).trans (Ext.app1 _ _)),Af (Af (Ad _ _) _) _,?_,[],?_,Nat.le_refl _⟩
  ·exact Af (HN l1 _) _
  ·exact HN l2 _
 obtain ⟨ρ',σ',hloop,I⟩:=AP (l:=(List.range 5).map fun j=>AV.int (j:Nat)) (body:=DD prog.gtup (AT prog (k+1)) [
   .ifs (.bop .And [(.call 129 [(.idx (.idx (.attr (.var 78) 154) (.var 153)) (.int 0))]),(.cmp .NotIn (.var 153) (.var 149))]) [
    .asg (.sub (.attr (.var 206) 110) (.var 153)) (.bool true)] []]) (t:=.one 153) (FoI σ d1 σ.length (σ.length+1)) (fun i _ σ _=>CD σ 5 i) (fun i x ρ σ₁ hx J=>by
  rw [List.getElem?_map] at hx
  obtain ⟨j,hj,rfl⟩:=Option.map_eq_some_iff.mp hx
  have hj5:j=i:=by have:=List.getElem?_eq_some_iff.mp hj;obtain ⟨a,b⟩:=this;rw [List.getElem_range] at b;exact b.symm
  subst hj5
  have hlt:j < 5:=by simpa using (List.getElem?_eq_some_iff.mp hj).1
  have hgl:BW[j]?=some (BW[j]'hlt):=List.getElem?_eq_getElem _
  obtain ⟨t,ht,htt⟩:=Kx hgl
  rw [ht] at hgl
  have B1:=B.ext J.x
  obtain ⟨ξ,hF⟩:=IA k σ₁ htt
  have E3:=Ext.app σ₁ ξ
  obtain ⟨l,s3,hll⟩:=J.s3
  have s1':=E3 _ _ J.s1
  have s2':=E3 _ _ J.s2
  have s3':=E3 _ _ s3
  refine ⟨put 153 (.int j) ρ,put 153 (.int j) ρ,(σ₁++ξ).set d1.fo (.dI (Br j (.bool true) l)),rfl,?_,?_⟩
  ·have r1:=Ab (y:=153) (v:=.int j) J.r1 rfl
   have r2:=Ab (y:=153) (v:=.int j) J.r2 rfl
   have r3:=Ab (y:=153) (v:=.int j) J.r3 rfl
   have r0:=Aj 153 (.int j) ρ
   refine Bu (A0 (Am (Aa (As (As (AN (Ac r2) B1.h2 rfl) (Ac r0) (FW B1.h3 hgl)) rfl rfl) rfl) hF) rfl (AY (Al (Ac r0) (Ac r3) (M3 s2' j)))) rfl ?_ rfl
   refine Fh rfl (AN (Ac r1) s1' rfl) (Ac r0) s3' (Nat.lt_of_le_of_lt hll (Nat.lt_trans hlt (by decide))) rfl
  ·refine ⟨Ab J.r1 rfl,Ab J.r2 rfl,Ab J.r3 rfl,(J.x.trans E3).set (Nat.le_add_right _ 2),AR s1' (BZ s3' s1' (by simp)),AR s2' (show σ.length+2≠σ.length+1 by exact om21),_,AQ s3',Nat.le_trans (Em _ _ _) (Nat.succ_le_succ hll)⟩) AC 0 _ _ (show 5 < 0+100000 by decide) (Nat.zero_le _) I0
 have B1:=B.ext I.x
 obtain ⟨l,s3,hll⟩:=I.s3
 refine ⟨⟨d.b,d1.fo,(σ'++[AO.dI []]).length,d.l,d.bl,d.sp,d.b0,d.st⟩,σ.length,(σ'++[AO.dI []]++[AO.dI [(0,.loc σ'.length)]]).set σ.length (AO.inst 20 [(78,.loc d.b),(110,.loc d1.fo),(73,.loc (σ'++[AO.dI []]).length)]),?_,?_,?_,rfl⟩
 ·apply HB rfl d20 rfl
  apply C8
  ·exact rfl
  ·exact rfl
  ·exact Ad _ _
  ·exact Nat.zero_le _
  ·exact BB _ _ _
  apply Ah
  ·exact Am rfl hl
  ·exact rfl
  apply C8
  ·exact Bw rfl rfl
  ·exact rfl
  ·exact Af s2 _
  ·exact Nat.le_add_left _ 19
  ·exact (congrArg (fun n=>(σ++[AO.inst 20 [(78,.loc d.b)]]++[AO.dI []]++[AO.dI []]).set σ.length (AO.inst 20 [(78,.loc d.b),(110,.loc n)])) len2).trans q2
  apply A6
  ·exact Bx (Aa (Bx (Aa (AN rfl (B.ext I0.x).h2 rfl) rfl) (F_ (l:=BW) (B.ext I0.x).h3 (by decide))) rfl) rfl
  ·exact hloop
  apply C8
  ·exact Bw rfl rfl
  ·exact Ac I.r1
  ·exact Af (Af I.s1 _) _
  ·exact Nat.le_add_left _ 18
  ·exact rfl
  exact rfl
 ·exact (I.x.trans ((Ext.app1 _ _).trans (Ext.app1 _ _))).set (Nat.le_refl _)
 ·have E4:=(Ext.app1 σ' (AO.dI [])).trans (Ext.app1 _ (AO.dI [(0,.loc σ'.length)]))
  have B2:=B.ext ((I.x.trans E4).set (Nat.le_refl σ.length) (o:=.inst 20 [(78,.loc d.b),(110,.loc d1.fo),(73,.loc (σ'++[AO.dI []]).length)]))
  exact ⟨AQ (E4 _ _ I.s1),B2.h2,B2.h3,B2.h4,B2.h5,B2.h6⟩
end
section
noncomputable def pl:Nat→AV→Bool
 | 0,_=>false
 | n+1,v=>match v with
  | .tup l=>l.all (pl n)
  | .none | .bool _ | .int _ | .str _=>true
  | _=>false
theorem Lp {f:AV→AV→Option Bool}:∀ {l:List AV},(∀ v∈l,f v v=some true)→Cv f l l=some true
 | [],_=>rfl
 | x::r,h=>by
  unfold Cv
  rw [h x (.head _),Lp fun v hv=>h v (.tail _ hv)];rfl
theorem JX (σ:St):∀ {n:Nat} {v:AV},pl n v=true→BU σ n v v=some true
 | 0,_,h=>by exact absurd h bQ
 | n+1,v,h=>by
  induction v using AV.casesOn with
  | tup l=>exact Lp fun v hv=>JX σ (List.all_eq_true.mp h v hv)
  | none=>rfl
  | bool b=>exact congrArg some (beq_self_eq_true b)
  | int b=>exact congrArg some (beq_self_eq_true b)
  | str b=>exact congrArg some (beq_self_eq_true b)
  | loc n=>exact absurd h bQ
  | glist l=>exact absurd h bQ
  | range n=>exact absurd h bQ
theorem eq_t {σ:St} {v w:AV} (h:pl 20 v=true) (e:v=w):A9 σ .Eq v w=some true:=by subst e;exact JX σ h
theorem Qf {σ:St} {v w:AV} (h:pl 20 v=true) (e:v=w):A9 σ .NotEq v w=some false:=by
 subst e;show Option.map not _=_;rw [JX σ h];rfl
theorem O8 {kn:List (Int×AV)} (H:KnOk kn) {o:Opd} (ho:o.ok) (n:Nat):pl (n+2) (A_ kn o)=true:=by
 generalize hs:DR o=zz5
 induction zz5 using Sr.casesOn with
 | number=>rcases AM H ho hs with h | ⟨i,h,_⟩<;>rw [h]<;>rfl
 | truth=>rcases Bn H hs with h | ⟨i,h⟩<;>rw [h]<;>rfl
 | pair=>rcases Kq H hs with h | ⟨i,b,h,_⟩<;>rw [h]<;>rfl
theorem T6 (o:Opd) (n:Nat):pl (n+5) (BD o)=true:=by
 induction o using Opd.casesOn with
 | plc mv p=>cases p<;>rfl
 | cN v=>rfl
 | cB b=>rfl
theorem MG (s:Sr) (n:Nat):pl (n+4) (Eg s)=true:=by cases s<;>rfl
theorem pl_tup1 {n:Nat} {a:AV} (h:pl n a=true):pl (n+1) (.tup [a])=true:=by show (pl n a&&true)=true;rw [h];rfl
theorem FM {n:Nat} {a b:AV} (h:pl n a=true) (h2:pl n b=true):pl (n+1) (.tup [a,b])=true:=by show (pl n a&&(pl n b&&true))=true;rw [h,h2];rfl
theorem FL {n:Nat} {a b c:AV} (h:pl n a=true) (h2:pl n b=true) (h3:pl n c=true):pl (n+1) (.tup [a,b,c])=true:=by show (pl n a&&(pl n b&&(pl n c&&true)))=true;rw [h,h2,h3];rfl
theorem MH {n:Nat} {a b c d:AV} (h:pl n a=true) (h2:pl n b=true) (h3:pl n c=true) (h4:pl n d=true):pl (n+1) (.tup [a,b,c,d])=true:=by show (pl n a&&(pl n b&&(pl n c&&(pl n d&&true))))=true;rw [h,h2,h3,h4];rfl
theorem pl_str (n:Nat) (s:Nat):pl (n+1) (.str s)=true:=rfl
theorem Rz {s:Sr} {a v:AV} {n:Nat} (ha:pl (n+5) a=true) (hv:pl (n+4) v=true):pl (n+5) (Rw s a v)=true:=by
 have hq:∀ s,pl (n+5) (.tup [.str 87,Eg s,v])=true:=fun s=>FL rfl (MG s n) hv
 induction s using Sr.casesOn with
 | pair=>exact ha
 | number=>cases v<;>first | exact ha | exact hq .number
 | truth=>cases v<;>first | exact ha | exact hq .truth
theorem Du {kn:List (Int×AV)} (H:KnOk kn) {o:Opd} (ho:o.ok) (n:Nat):pl (n+5) (EP kn o)=true:=by
 induction o using Opd.casesOn with
 | plc mv p=>exact Rz (T6 (.plc mv p) n) (O8 H (o:=.plc mv p) trivial (n+2))
 | cN v=>rfl
 | cB b=>rfl
theorem O7 {kn:List (Int×AV)} (H:KnOk kn) {r:RV} (hr:r.ok) (n:Nat):pl (n+7) (LR kn r)=true:=by
 induction r using RV.casesOn with
 | use o=>exact FM rfl (Du H hr _)
 | bin op l r=>exact MH rfl rfl (Du H hr.2.1 _) (Du H hr.2.2.1 _)
 | tup a b=>exact FM rfl (FM (Du H hr.1 _) (Du H hr.2.1 _))
 | neg t=>exact FL rfl rfl (Du H hr.1 _)
 | box t=>exact FM rfl (Du H hr.1 _)
 | rf=>rfl
 | dc=>rfl
theorem T5 {kn:List (Int×AV)} (H:KnOk kn) {r:RV} (hr:r.ok) (n:Nat):pl (n+2) (Ii kn r)=true:=by
 have hs:∀ op a b,pl (n+2) (Hk op a b)=true:=fun op a b=>by
  unfold Hk
  split
  ·rfl
  ·split
   ·rfl
   ·split<;>rfl
 induction r using RV.casesOn with
 | use o=>exact O8 H hr _
 | bin op l r=>
  show pl _ (Nz _ (A_ kn l) (A_ kn r))=_
  rcases AM H hr.2.1 hr.2.2.2.1 with h | ⟨x,h,_⟩<;>rw [h]
  ·rfl
  rcases AM H hr.2.2.1 hr.2.2.2.2 with h' | ⟨y,h',_⟩<;>rw [h']
  ·rfl
  exact hs op x y
 | tup a t=>
  show pl _ (II (A_ kn a) (A_ kn t))=_
  rcases AM H hr.1 hr.2.2.1 with h | ⟨x,h,_⟩<;>rw [h]
  ·rfl
  rcases Bn H hr.2.2.2 with h' | ⟨y,h'⟩<;>rw [h']<;>rfl
 | neg t=>
  show pl _ (NS (A_ kn t))=_
  rcases Bn H hr.2 with h' | ⟨y,h'⟩<;>rw [h']<;>rfl
 | box n=>rfl
 | rf=>rfl
 | dc=>rfl
theorem KW {kn:List (Int×AV)} {r:RV} (hv:Ii kn r=.none):Ed kn r=LR kn r:=by unfold Ed;rw [hv];cases Ee r<;>rfl
theorem KV {kn:List (Int×AV)} {r:RV} (hs:Ee r=.pair):Ed kn r=LR kn r:=by unfold Ed;rw [hs]
theorem KU {kn:List (Int×AV)} {r:RV} (hs:Ee r≠.pair) (hv:KC (Ii kn r) .none=some false):Ed kn r=.tup [.str 234,.tup [.str 87,Eg (Ee r),Ii kn r]]:=by
 unfold Ed
 cases h1:Ee r<;>cases h2:Ii kn r<;>first | rfl | exact absurd h1 hs | (rw [h2] at hv;(cases hv))
theorem MJ {kn:List (Int×AV)} (H:KnOk kn) {r:RV} (hr:r.ok) (n:Nat):pl (n+7) (Ed kn r)=true:=by
 rcases Hv H hr with hv | hv
 ·rw [KW hv];exact O7 H hr n
 ·by_cases hs:Ee r=.pair
  ·rw [KV hs];exact O7 H hr n
  ·rw [KU hs hv]
   exact FM rfl (FL rfl (MG _ _) (T5 H hr _))
theorem O_ (s:Sr) (n:Nat):pl (n+4) (GL s)=true:=by cases s<;>rfl
end
section
theorem d53:prog.defs (0,53)=some DO:=rfl
noncomputable def Yes (k:Nat) (f:Nat) (args:List AV) (σ:St):Prop:=∃ σ',Ca k (0,f) args σ (.bool true) σ'∧Ext σ σ'
theorem idx_dS {σ:St} {a n:Nat} {l:List (Nat×AV)} (h:σ[a]?=some (.dS l)):CM σ (.loc a) (.str n)=look n l:=by
 show (match σ[a]? with | some (.dS l)=>_ | _=>_)=_
 rw [h]
theorem FactsAt.inst {σ:St} {f:Nat} {kn:List (Int×AV)} (F:FactsAt σ f kn):∃ l,σ[f]?=some (.inst 19 l):=let ⟨_,a,_⟩:=F;⟨_,a⟩
theorem FP (k:Nat) (σ:St) (e:AV):∃ d c σ',(∀ {b:PE} {ρ:At},Ev (k+2) b ρ σ e σ→Ev (k+2) (.call 20 [(.call 42 [b])]) ρ σ (.loc c) σ')∧Ext σ σ'∧ConstAt d σ' c e:=by
 obtain ⟨d,σ₁,h1,x1,B⟩:=H3 k σ e
 obtain ⟨d',c,σ₂,h2,x2,C,_⟩:=Lg k B
 exact ⟨d',c,σ₂,fun hb=>Am (Aa (Am (Aa hb rfl) h1) rfl) h2,x1.trans x2,C⟩
theorem Hy {kn:List (Int×AV)} (H:KnOk kn) (hn:kn.length≤1000000) (k:Nat) {r:RV} (hr:r.ok) {σ:St} {kd:Nat} (hk:σ[kd]?=some (.dI kn)) {ρ:At}
  (r1:look 137 ρ=some (.loc kd)) (r2:look 203 ρ=some (G7 r)) (r3:look 186 ρ=some (GL (Ee r))) (r4:look 97 ρ=some (Ed kn r)) :
  ∃ ρ' σ',Xs (k+9) [
 .asg (.names [88,102]) (.tup [(.call 20 [(.call 42 [(.tup [.str 199])])]),(.call 19 [.var 137])]),
 .ifs (.cmp .NotEq (.meth (.var 88) 194 [.var 203,.var 186,.var 102]) (.var 97)) [
  .ret (.bool false)] [],
 .ret (.cmp .Eq (.meth (.var 88) 195 [(.tup [.str 68,.var 186,.var 203]),.var 102]) (.tup [.str 68,.var 186,.var 97]))] ρ σ (.ret (.bool true),ρ',σ')∧Ext σ σ':=by
 obtain ⟨d,c,σ₁,h1,x1,C1⟩:=FP (k+7) σ (.tup [.str 199])
 obtain ⟨σ₂,h2,x2,F2⟩:=Er (k+8) (x1 _ _ hk) hn
 have C2:=C1.ext x2
 obtain ⟨ξ,h3⟩:=F8 H F2 C2 (k+1) hr
 have x3:=Ext.app σ₂ ξ
 have C3:=C2.ext x3
 obtain ⟨ξ',h4⟩:=G5 H (F2.ext x3) C3 k hr
 have c2:=C2.h1
 have c3:=C3.h1
 refine ⟨put 102 (.loc σ₁.length) (put 88 (.loc c) ρ),_,?_,x1.trans (x2.trans (x3.trans (Ext.app _ ξ')))⟩
 apply Ah
 ·exact Au (Aa (h1 rfl) (Aa (Am (Aa (Ac r1) rfl) h2) rfl))
 ·exact rfl
 have l1:=Ab (y:=102) (v:=.loc σ₁.length) (Aj 88 (.loc c) ρ) rfl
 have l2:=Aj 102 (.loc σ₁.length) (put 88 (.loc c) ρ)
 have l3:=Ab (y:=102) (v:=.loc σ₁.length) (Ab (y:=88) (v:=.loc c) r2 rfl) rfl
 have l4:=Ab (y:=102) (v:=.loc σ₁.length) (Ab (y:=88) (v:=.loc c) r3 rfl) rfl
 have l5:=Ab (y:=102) (v:=.loc σ₁.length) (Ab (y:=88) (v:=.loc c) r4 rfl) rfl
 apply Ak
 ·exact Al (Ax (Ac l1) c2 rfl (Aa (Ac l3) (Aa (Ac l4) (Aa (Ac l2) rfl))) h3) (Ac l5) (Qf (MJ H hr 13) rfl)
 ·exact rfl
 apply Az
 apply Al
 ·exact Ax (Ac l1) c3 rfl (Aa (Au (Aa rfl (Aa (Ac l4) (Aa (Ac l3) rfl)))) (Aa (Ac l2) rfl)) h4
 ·exact Au (Aa rfl (Aa (Ac l4) (Aa (Ac l5) rfl)))
 ·exact eq_t (FL rfl (O_ _ 15) (MJ H hr 12)) rfl
theorem CG {kn:List (Int×AV)} (H:KnOk kn) (hn:kn.length≤1000000) (k:Nat) {r:RV} (hr:r.ok) {made:AV} (hm:Ii kn r=.none∨Ee r=.pair→made=LR kn r) {σ:St} {kd:Nat} (hk:σ[kd]?=some (.dI kn)) :
  Yes (k+10) 53 [.loc kd,G7 r,.str (Ek (Ee r)),Ii kn r,made] σ:=by
 let rowsO:AO:=.dS [(171,.tup [tI,.tup [.int 4,.tup []]]),(227,.tup [tB,.tup [.int 3,.tup [.tup [.str 104,.int 1]]]]),(184,.tup [.none,.tup [.int 3,.tup []]])]
 let kind:Sr→AV:=fun s=>match s with
  | .pair=>.none
  | s=>Eg s
 let ρ₀:At:=[(137,.loc kd),(203,G7 r),(211,.str (Ek (Ee r))),(236,Ii kn r),(158,made),(202,.loc σ.length),(135,kind (Ee r)),(186,GL (Ee r))]
 have x1:=Ext.app1 σ rowsO
 have hg:=Ad σ rowsO
 obtain ⟨ρ',σ',h,x2⟩:=Hy H hn k hr (x1 _ _ hk) (ρ:=put 97 (Ed kn r) ρ₀) rfl rfl rfl rfl
 refine ⟨σ',?_,x1.trans x2⟩
 have hI:CM (σ++[rowsO]) (.loc σ.length) (.str (Ek (Ee r)))=some (.tup [kind (Ee r),GL (Ee r)]):=by rw [idx_dS hg];cases Ee r<;>rfl
 have hdue:Ev (k+9) (.ite (.bop .And [(.cmp .IsNot (.var 236) .none),(.cmp .IsNot (.var 135) .none)]) (.tup [.str 234,(.tup [.str 87,.var 135,.var 236])]) (.var 158)) ρ₀ (σ++[rowsO]) (Ed kn r) (σ++[rowsO]):=by
  rcases Hv H hr with hv | hv
  ·rw [KW hv,←hm (.inl hv)]
   have hN:A9 (σ++[rowsO]) .IsNot (Ii kn r) .none=some false:=by rw [hv];rfl
   exact Fe (A4 (Al rfl rfl hN) rfl) rfl rfl
  ·have hN:A9 (σ++[rowsO]) .IsNot (Ii kn r) .none=some true:=by show (KC (Ii kn r) .none).map not=_;rw [hv];rfl
   by_cases hs:Ee r=.pair
   ·rw [KV hs,←hm (.inr hs)]
    have hK:A9 (σ++[rowsO]) .IsNot (kind (Ee r)) .none=some false:=by rw [hs];rfl
    exact Fe (A0 (Al rfl rfl hN) rfl (AY (Al rfl rfl hK))) rfl rfl
   ·rw [KU hs hv]
    have hK:A9 (σ++[rowsO]) .IsNot (kind (Ee r)) .none=some true:=by cases h:Ee r<;>first | exact absurd h hs | rfl
    have hK2:Eg (Ee r)=kind (Ee r):=by cases h:Ee r<;>first | exact absurd h hs | rfl
    rw [hK2]
    exact Fe (A0 (Al rfl rfl hN) rfl (AY (Al rfl rfl hK))) rfl rfl
 apply An (Ag rfl) d53 rfl
 apply Ah
 ·exact Bw rfl rfl
 ·exact rfl
 apply Ah
 ·exact As rfl rfl hI
 ·exact rfl
 exact Ah hdue rfl h
end
section
theorem BT {body:AV→St→Option (Option AV×St)} {d:Bool} {src:AV} {L:List AV} {σ:St} (g:AV→Option AV) (hl:L.length < 100000) (hn:∀ i,Bg σ d src i=some L[i]?) (hb:∀ x∈L,body x σ=some (g x,σ)) :
  Ch body d src AC 0 [] σ=some (L.filterMap g,σ):=by
 obtain ⟨acc,σ',h,e,rfl⟩:=L7 (add:=JY) (d:=d) (src:=src) (L:=L) (fun i acc σ'=>acc=(L.take i).filterMap g∧σ'=σ) (fun i acc σ' h=>h.2▸hn i) (fun i x acc σ' hx h=>by
  obtain ⟨rfl,rfl⟩:=h
  refine ⟨_,_,hb x (List.mem_of_getElem? hx),?_,rfl⟩
  rw [List.take_add_one,hx,List.filterMap_append]
  show _=_++List.filterMap g [x]
  generalize e:g x=zz1
  induction zz1 using Option.casesOn with
  | none=>rw [List.filterMap_cons_none e];exact (List.append_nil _).symm
  | some v=>rw [List.filterMap_cons_some e];rfl) AC 0 [] σ (by rw [Nat.zero_add];exact hl) (Nat.zero_le _) ⟨rfl,rfl⟩
 rw [List.take_length] at e
 exact e▸h
inductive Tm where
 | goto (b:Int)
 | sw (c:AV) (rows:List (AV×Int)) (o:Option Int)
 | call (f a g:AV) (b:Option Int)
 | drop (g:AV) (b:Int)
 | asr (c:AV) (b:Int)
 | ret
noncomputable def oi:Option Int→AV
 | some b=>.int b
 | none=>.none
noncomputable def E6 (p:AV×Int):AV:=.tup [p.1,.int p.2]
noncomputable def B7:Tm→AV
 | .goto b=>.tup [.str 118,.int b]
 | .sw c rows o=>.tup [.str 220,c,.tup (rows.map E6),oi o]
 | .call f a g b=>.tup [.str 81,f,a,g,oi b]
 | .drop g b=>.tup [.str 96,g,.int b]
 | .asr c b=>.tup [.str 67,c,.bool true,.str 221,.int b]
 | .ret=>.tup [.str 199]
noncomputable def Td:Tm→Nat
 | .goto _=>118
 | .sw ..=>220
 | .call ..=>81
 | .drop ..=>96
 | .asr ..=>67
 | .ret=>199
noncomputable def IE:Tm→List (Option Int)
 | .goto b=>[some b]
 | .sw _ rows o=>rows.map (fun p=>some p.2)++[o]
 | .call _ _ _ b=>[b]
 | .drop _ b=>[some b]
 | .asr _ b=>[some b]
 | .ret=>[]
noncomputable def dd (acc:List Int):Option Int→List Int
 | none=>acc
 | some b=>if acc.contains b then acc else acc++[b]
noncomputable def Cg (t:Tm):List Int:=(IE t).foldl dd []
theorem Ob:prog.defs (0,218)=some FZ:=rfl
theorem EI {σ:St} {a b:Nat} {l m:List AV} (h:σ[a]?=some (.list l)) (h2:σ[b]?=some (.list m)) (hl:l.length+m.length≤1000000):IB σ .Add (.loc a) (.loc b)=some (.loc σ.length,σ++[.list (l++m)]):=by
 show (match CT σ[a]? with | some l=>(match CT σ[b]? with | some m=>_ | none=>_) | none=>_)=_
 rw [h,h2];exact if_pos hl
theorem Ia (σ:St) (b:Int):∀ acc:List Int,CP (BU σ 20) (.int b) (acc.map .int)=some (acc.contains b)
 | []=>rfl
 | x::r=>by
  show (match some (x==b),CP (BU σ 20) (.int b) (r.map .int) with | some a,some b=>some (a || b) | _,_=>none)=_
  rw [Ia σ b r,List.contains_cons,show (b==x)=(x==b) from Bool.beq_comm]
theorem M1 {σ:St} {a:Nat} {acc:List Int} (h:σ[a]?=some (.list (acc.map .int))) (b:Int):A9 σ .NotIn (.int b) (.loc a)=some (!acc.contains b):=by
 show Option.map not (match σ[a]? with | some (.list l)=>_ | some (.dI l)=>_ | _=>_)=_
 rw [h]
 show Option.map not (CP (BU σ 20) (.int b) (acc.map .int))=_
 rw [Ia];rfl
theorem Da {σ:St} {a:Nat} {l:List AV} (h:σ[a]?=some (.list l)) (hl:l.length < 1000000) (v:AV):Db false 3 (.loc a) [v] σ=some (.none,σ.set a (.list (l++[v]))):=by
 exact (HD h _ _).trans (if_pos hl)
theorem Qo (acc:List Int) (x:Option Int):(dd acc x).length≤acc.length+1:=by
 unfold dd
 split
 ·exact Nat.le_succ _
 ·split
  ·exact Nat.le_succ _
  ·rw [List.length_append];exact Nat.le_refl _
theorem GV:∀ (L:List (Option Int)) (acc:List Int),(L.foldl dd acc).length≤acc.length+L.length
 | [],_=>Nat.le_refl _
 | x::r,acc=>Nat.le_trans (GV r (dd acc x)) (by have:=Qo acc x;rw [List.length_cons];exact om14 this)
theorem Hl (t:Tm):(Cg t).length≤(IE t).length:=Nat.le_trans (GV _ _) (Nat.le_of_eq (Nat.zero_add _))
noncomputable def Ej:List PS:=[
  .ifs (.bop .And [(.cmp .IsNot (.var 76) .none),(.cmp .NotIn (.var 76) (.var 113))]) [
   .expr (.meth (.var 113) 3 [.var 76])] []]
structure SuI (σ₀:St) (fo a:Nat) (L:List (Option Int)) (i:Nat) (ρ:At) (σ:St):Prop where
 r:look 113 ρ=some (.loc fo)
 x:Ext σ₀ σ
 s1:σ[a]?=some (.list (L.map oi))
 s2:σ[fo]?=some (.list (((L.take i).foldl dd []).map .int))
 l:((L.take i).foldl dd []).length≤i
theorem NA (k:Nat) {L:List (Option Int)} (hL:L.length < 100000) {σ:St} {a:Nat} (h:σ[a]?=some (.list (L.map oi))) {ρ:At} (r1:look 225 ρ=some (.loc a)) :
  ∃ ρ' σ',Xs k [.asg (.name 113) (.list []),.fors (.one 76) (.var 225) Ej,.ret (.var 113)] ρ σ (.ret (.loc σ.length),ρ',σ')∧Ext σ σ'∧σ'[σ.length]?=some (.list ((L.foldl dd []).map .int)):=by
 have hne:a≠σ.length:=Nat.ne_of_lt (Bc h)
 have I0:SuI σ σ.length a L 0 (put 113 (.loc σ.length) ρ) (σ++[AO.list []]):=⟨Aj _ _ _,Ext.app1 _ _,Af h _,by rw [List.take_zero];exact Ad _ _,by rw [List.take_zero];exact Nat.le_refl _⟩
 obtain ⟨ρ',σ',hl,I⟩:=AP (l:=L.map oi) (body:=DD prog.gtup (AT prog k) Ej) (t:=.one 76) (src:=.loc a) (SuI σ σ.length a L) (fun i _ σ I=>Av I.s1 i) (fun i x ρ σ₁ hx J=>by
  rw [List.getElem?_map] at hx
  obtain ⟨y,hy,rfl⟩:=Option.map_eq_some_iff.mp hx
  have hi:=(List.getElem?_eq_some_iff.mp hy).1
  have ht:(L.take (i+1)).foldl dd []=dd ((L.take i).foldl dd []) y:=by rw [List.take_add_one,hy,List.foldl_append];rfl
  refine ⟨put 76 (oi y) ρ,?_⟩
  have r0:=Aj 76 (oi y) ρ
  have r1:=Ab (y:=76) (v:=oi y) J.r rfl
  have lem:∀ σ₂:St,Ext σ σ₂→σ₂[a]?=some (.list (L.map oi))→σ₂[σ.length]?=some (.list ((dd ((L.take i).foldl dd []) y).map .int))→Xs k Ej (put 76 (oi y) ρ) σ₁ (.next,put 76 (oi y) ρ,σ₂)→∃ ρ'' σ',Bq σ₁ (.one 76) (oi y) ρ=some (put 76 (oi y) ρ)∧DD prog.gtup (AT prog k) Ej (put 76 (oi y) ρ) σ₁=some (.next,ρ'',σ')∧SuI σ σ.length a L (i+1) ρ'' σ':=
   fun σ₂ e1 e2 e3 e4=>⟨_,σ₂,rfl,e4,⟨r1,e1,e2,by rw [ht];exact e3,by rw [ht];exact Nat.le_trans (Qo _ _) (Nat.succ_le_succ J.l)⟩⟩
  induction y using Option.casesOn with
  | none=>exact lem σ₁ J.x J.s1 J.s2 (Ak (A4 (Al (Ac r0) rfl rfl) rfl) rfl rfl)
  | some b=>
   have hq:=M1 J.s2 b
   by_cases hc:((L.take i).foldl dd []).contains b=true
   ·rw [hc] at hq
    exact lem σ₁ J.x J.s1 (J.s2.trans (by rw [dd,if_pos hc])) (Ak (A0 (Al (Ac r0) rfl rfl) rfl (AY (Al (Ac r0) (Ac r1) hq))) rfl rfl)
   ·rw [Bool.not_eq_true] at hc
    rw [hc] at hq
    refine lem (σ₁.set σ.length (.list (((L.take i).foldl dd []).map .int++[.int b]))) (J.x.set (Nat.le_refl _)) (AR J.s1 (Ne.symm hne)) ((AQ J.s2).trans (by rw [dd,if_neg (by rw [hc];exact bQ),List.map_append];rfl))
     (Bu (A0 (Al (Ac r0) rfl rfl) rfl (AY (Al (Ac r0) (Ac r1) hq))) rfl (A1 (CI (Ac r1) J.s2 (Aa (Ac r0) rfl) (Da J.s2 ?_ _)) rfl) rfl)
    rw [List.length_map]
    exact Nat.lt_of_le_of_lt J.l (Nat.lt_trans hi (Nat.lt_trans hL (by decide)))) AC 0 _ _ (by rw [List.length_map,Nat.zero_add];exact hL) (Nat.zero_le _) I0
 rw [List.length_map] at I
 refine ⟨ρ',σ',?_,I.x,I.s2.trans (by rw [List.take_length])⟩
 exact Ah (Ar rfl) rfl (A6 (Ac (Ab r1 rfl)) hl (Az (Ac I.r)))
theorem F7 (k:Nat) (σ:St) (t:Tm) (ht:(IE t).length < 1000):∃ a σ',Ca (k+1) (0,218) [B7 t] σ (.loc a) σ'∧Ext σ σ'∧σ'[a]?=some (.list ((Cg t).map .int))∧σ.length≤a:=by
 have h5:=Nat.lt_trans ht (show 1000 < 100000 by decide)
 have one:∀ {b:AV} {o:Option Int},oi o=b→(σ++[AO.list [b]])[σ.length]?=some (.list ([o].map oi)):=fun e=>by rw [←e];exact Ad _ _
 have fin:∀ {σ₁:St} {a:Nat},Ext σ σ₁→σ₁[a]?=some (.list ((IE t).map oi))→(∀ {ρ':At} {σ':St},Xs k [.asg (.name 113) (.list []),.fors (.one 76) (.var 225) Ej,.ret (.var 113)] [(223,B7 t),(241,.str (Td t)),(225,.loc a)] σ₁ (.ret (.loc σ₁.length),ρ',σ')→Ca (k+1) (0,218) [B7 t] σ (.loc σ₁.length) σ')→∃ a σ',Ca (k+1) (0,218) [B7 t] σ (.loc a) σ'∧Ext σ σ'∧σ'[a]?=some (.list ((Cg t).map .int))∧σ.length≤a:=fun {σ₁ a} e1 e2 e3=>by
  obtain ⟨ρ',σ',h1,h2,h3⟩:=NA k h5 e2 (ρ:=[(223,B7 t),(241,.str (Td t)),(225,.loc a)]) rfl
  exact ⟨σ₁.length,σ',e3 h1,e1.trans h2,h3,e1.le⟩
 cases t with
 | goto b=>exact fin (Ext.app1 _ _) (one rfl) fun h=>An (Ag rfl) Ob rfl (Ah rfl rfl (Bu rfl rfl (Ah (Ar rfl) rfl FA) h))
 | ret=>exact fin (Ext.app1 _ _) (Ad σ (.list [])) fun h=>An (Ag rfl) Ob rfl (Ah rfl rfl (BK rfl rfl (BK rfl rfl (BK rfl rfl (BK rfl rfl (BK rfl rfl (Ah (Ar rfl) rfl FA) rfl) rfl) rfl) rfl) h))
 | call f a g b=>exact fin (Ext.app1 _ _) (one rfl) fun h=>An (Ag rfl) Ob rfl (Ah rfl rfl (BK rfl rfl (BK rfl rfl (Bu rfl rfl (Ah (Ar rfl) rfl FA) rfl) rfl) h))
 | drop g b=>exact fin (Ext.app1 _ _) (one rfl) fun h=>An (Ag rfl) Ob rfl (Ah rfl rfl (BK rfl rfl (BK rfl rfl (BK rfl rfl (Bu rfl rfl (Ah (Ar rfl) rfl FA) rfl) rfl) rfl) h))
 | asr c b=>exact fin (Ext.app1 _ _) (one rfl) fun h=>An (Ag rfl) Ob rfl (Ah rfl rfl (BK rfl rfl (BK rfl rfl (BK rfl rfl (BK rfl rfl (Bu rfl rfl (Ah (Ar rfl) rfl FA) rfl) rfl) rfl) rfl) h))
 | sw c rows o=>
  have hr:rows.length < 1000:=Nat.lt_of_le_of_lt (by show rows.length≤(rows.map (fun p=>some p.2)++[o]).length;rw [List.length_append,List.length_map];exact Nat.le_succ _) ht
  have hc:=BT (body:=cB k (.many [236,76]) [(223,B7 (.sw c rows o)),(241,.str 220)] (.var 76) []) (d:=false) (src:=.tup (rows.map E6)) (L:=rows.map E6) (σ:=σ) (fun v=>match v with
   | .tup [_,b]=>some b
   | _=>none) (by rw [List.length_map];exact Nat.lt_trans hr (by decide)) (fun i=>rfl) (fun x hx=>by
    obtain ⟨p,_,rfl⟩:=List.mem_map.mp hx
    rfl)
  have hm:(rows.map E6).filterMap (fun v=>match v with
   | .tup [_,b]=>some b
   | _=>none)=rows.map fun p=>AV.int p.2:=by
   rw [List.filterMap_map]
   exact List.filterMap_eq_map (f:=fun p:AV×Int=>AV.int p.2)▸rfl
  rw [hm] at hc
  have g1:=Ad σ (AO.list (rows.map fun p=>AV.int p.2))
  have g2:=Ad (σ++[AO.list (rows.map fun p=>AV.int p.2)]) (AO.list [oi o])
  have g3:=Ad (σ++[AO.list (rows.map fun p=>AV.int p.2)]++[AO.list [oi o]]) (AO.list ((rows.map fun p=>AV.int p.2)++[oi o]))
  have hb:=EI (Af g1 [AO.list [oi o]]) g2 (by rw [List.length_map];show rows.length+1≤1000000;exact Nat.le_trans hr (by decide))
  refine fin ((Ext.app1 _ _).trans ((Ext.app1 _ _).trans (Ext.app1 _ _))) (g3.trans ?_) fun h=>An (Ag rfl) Ob rfl (Ah rfl rfl (BK rfl rfl (Bu rfl rfl (Ah (Bj (BO rfl rfl hc) (Ar rfl) hb) rfl FA) rfl) h))
  show _=some (AO.list ((rows.map (fun p=>some p.2)++[o]).map oi))
  rw [List.map_append,List.map_map];rfl
end
section
inductive EO where
 | sw (o:Opd) (rows:List (Int×Int)) (d:Option Int)
 | asr (o:Opd)
 | call (ops:List Opd) (g:Plc) (b:Option Int)
 | drop (g:Plc)
 | goto
 | ret
noncomputable def EO.ok:EO→Prop
 | .sw o rows _=>o.ok∧DR o=.number∧rows.length < 100
 | .asr o=>o.ok∧DR o=.truth
 | .call ops _ _=>(∀ o∈ops,o.ok)∧ops.length < 100
 | _=>True
noncomputable def EG (q:Opd→AV):EO→Tm
 | .sw o rows d=>.sw (q o) (rows.map fun p=>(.int p.1,p.2)) d
 | .asr o=>.asr (q o) 5
 | .call ops g b=>.call (.tup [.str 108,.str 114,.tup []]) (.tup (ops.map q)) (By g) b
 | .drop g=>.drop (By g) 6
 | .goto=>.goto 6
 | .ret=>.ret
noncomputable def Ec:List (Int×Int)→Int→Option Int
 | [],_=>none
 | p::r,i=>if p.1==i then some p.2 else Ec r i
noncomputable def T8 (a b:Option Int):Option Int:=match a with
 | some x=>some x
 | none=>b
noncomputable def Ij (kn:List (Int×AV)):EO→Option Int
 | .sw o rows d=>match A_ kn o with
  | .int i=>T8 (Ec rows i) d
  | _=>none
 | .asr o=>match A_ kn o with
  | .bool true=>some 5
  | _=>none
 | _=>none
theorem Qr:prog.defs (20,138)=some B_:=rfl
theorem Mf:prog.defs (20,196)=some BM:=rfl
theorem Oc:prog.defs (20,117)=some CS:=rfl
theorem d111:prog.defs (19,111)=some Eu:=rfl
theorem Ur {body:At→St→Option (AF×At×St)} {t:PT} {x v:AV} {r:List AV} {ρ ρ' ρ'':At} {σ σ':St} (hb:Bq σ t x ρ=some ρ') (h:body ρ' σ=some (.ret v,ρ'',σ')):KJ body t (x::r) ρ σ=some (.ret v,ρ'',σ'):=by
 exact AE hb (Ib h)
theorem Se {body:At→St→Option (AF×At×St)} {t:PT} {x:AV} {r:List AV} {ρ ρ' ρ'':At} {σ σ':St} (hb:Bq σ t x ρ=some ρ') (h:body ρ' σ=some (.next,ρ'',σ')):KJ body t (x::r) ρ σ=KJ body t r ρ'' σ':=by
 exact AE hb (EZ h rfl)
theorem SQ {body:AV→St→Option (Option AV×St)} {x v:AV} {r acc:List AV} {σ σ':St} (h:body x σ=some (some v,σ')):Mh body (x::r) acc σ=Mh body r (acc++[v]) σ':=by
 exact Ap h rfl
theorem MX (k:Nat) (σ:St) {i:Int}:∀ (rows:List (Int×Int)) {ρ:At},look 236 ρ=some (.int i)→∃ ρ',KJ (DD prog.gtup (AT prog k) [.ifs (.cmp .Eq (.var 225) (.var 236)) [.ret (.var 76)] []]) (.many [225,76]) ((rows.map fun p=>(AV.int p.1,p.2)).map E6) ρ σ =
  some ((match Ec rows i with
   | some b=>.ret (.int b)
   | none=>.next),ρ',σ)∧look 223 ρ'=look 223 ρ
 | [],ρ,_=>⟨ρ,rfl,rfl⟩
 | p::r,ρ,h=>by
  have r1:=Ab (y:=76) (v:=.int p.2) (Aj 225 (.int p.1) ρ) rfl
  have r2:=Ab (y:=76) (v:=.int p.2) (Ab (y:=225) (v:=.int p.1) h rfl) rfl
  have r3:look 223 (put 76 (.int p.2) (put 225 (.int p.1) ρ))=look 223 ρ:=(look_put _ _ _ _).trans (look_put _ _ _ _)
  by_cases hq:(p.1==i)=true
  ·refine ⟨put 76 (.int p.2) (put 225 (.int p.1) ρ),?_,r3⟩
   have hx:Xs k [.ifs (.cmp .Eq (.var 225) (.var 236)) [.ret (.var 76)] []] (put 76 (.int p.2) (put 225 (.int p.1) ρ)) σ (.ret (.int p.2),put 76 (.int p.2) (put 225 (.int p.1) ρ),σ):=AJ (Al (Ac r1) (Ac r2) rfl) (congrArg some hq) (Az (Ac (Aj _ _ _)))
   have hb:Ec (p::r) i=some p.2:=if_pos hq
   rw [hb]
   exact Ur rfl hx
  ·obtain ⟨ρ',h1,h2⟩:=MX k σ r r2
   refine ⟨ρ',?_,h2.trans r3⟩
   have hx:Xs k [.ifs (.cmp .Eq (.var 225) (.var 236)) [.ret (.var 76)] []] (put 76 (.int p.2) (put 225 (.int p.1) ρ)) σ (.next,put 76 (.int p.2) (put 225 (.int p.1) ρ),σ):=Ak (Al (Ac r1) (Ac r2) rfl) (congrArg some (Bool.eq_false_iff.mpr hq)) rfl
   have hb:Ec (p::r) i=Ec r i:=if_neg hq
   rw [hb,←h1]
   exact Se rfl hx
theorem Cu {kn:List (Int×AV)} (H:KnOk kn) {σ:St} {f:Nat} (F:FactsAt σ f kn) (k:Nat) (c:AV) {e:EO} (he:e.ok) :
  Ca (k+3) (20,138) [c,B7 (EG BD e),.loc f] σ (oi (Ij kn e)) σ:=by
 induction e using EO.casesOn with
 | call ops g b=>exact rfl
 | drop g=>exact rfl
 | goto=>exact rfl
 | ret=>exact rfl
 | asr o=>
  have hA:=Bd H F k o
  obtain ⟨l,g1⟩:=F.inst
  show Ca _ _ _ _ (oi (match A_ kn o with | .bool true=>some 5 | _=>none)) _
  have g2:look 70 l=none:=by obtain ⟨d,g,_⟩:=F;rw [g] at g1;(cases g1);rfl
  have go:∀ {v:AV} {b:Bool},A_ kn o=v→BU σ 20 v (.bool true)=some b→Ca (k+3) (20,138) [c,B7 (EG BD (.asr o)),.loc f] σ (bif b then .int 5 else .none) σ:=fun {v b} e1 e2=>by
   rw [e1] at hA
   cases b
   ·exact An (Ag rfl) Qr rfl (Ak rfl rfl (Ak (A0 rfl rfl (AY (Al (Ax rfl g1 g2 rfl hA) rfl e2))) rfl rfl))
   ·exact An (Ag rfl) Qr rfl (Ak rfl rfl (AJ (A0 rfl rfl (AY (Al (Ax rfl g1 g2 rfl hA) rfl e2))) rfl rfl))
  rcases Bn H he.2 with hv | ⟨b,hv⟩
  ·rw [hv];exact go hv rfl
  ·rw [hv];cases b
   ·exact go hv rfl
   ·exact go hv rfl
 | sw o rows d=>
  have hA:=Bd H F k o
  obtain ⟨l,g1⟩:=F.inst
  have g2:look 70 l=none:=by obtain ⟨d,g,_⟩:=F;rw [g] at g1;(cases g1);rfl
  show Ca _ _ _ _ (oi (match A_ kn o with | .int i=>T8 (Ec rows i) d | _=>none)) _
  rcases AM H he.1 he.2.1 with hv | ⟨i,hv,_⟩<;>rw [hv] at hA ⊢
  ·exact An (Ag rfl) Qr rfl (AJ rfl rfl (Ah (Ax rfl g1 g2 rfl hA) rfl (AJ rfl rfl rfl)))
  ·obtain ⟨ρ',h1,h2⟩:=MX (k+2) σ (i:=i) rows (ρ:=[(206,c),(223,B7 (EG BD (.sw o rows d))),(102,.loc f),(236,.int i)]) rfl
   have hl:=(NW (DD prog.gtup (AT prog (k+2)) [.ifs (.cmp .Eq (.var 225) (.var 236)) [.ret (.var 76)] []]) (.many [225,76]) ((rows.map fun p=>(AV.int p.1,p.2)).map E6) [(206,c),(223,B7 (EG BD (.sw o rows d))),(102,.loc f),(236,.int i)] σ (by rw [List.length_map,List.length_map];exact Nat.lt_trans he.2.2 (by decide))).trans h1
   show Ca _ _ _ _ (oi (T8 (Ec rows i) d)) _
   generalize hh:Ec rows i=zz6
   induction zz6 using Option.casesOn with
   | some b=>
    rw [hh] at hl
    exact An (Ag rfl) Qr rfl (AJ rfl rfl (Ah (Ax rfl g1 g2 rfl hA) rfl (Ak rfl rfl (TF rfl hl))))
   | none=>
    rw [hh] at hl
    exact An (Ag rfl) Qr rfl (AJ rfl rfl (Ah (Ax rfl g1 g2 rfl hA) rfl (Ak rfl rfl (A6 rfl hl (Az (As (Ac h2) rfl rfl))))))
noncomputable def eoP (kn:List (Int×AV)) (e:EO):AV:=match Ij kn e with
 | some b=>.tup [.str 118,.int b]
 | none=>B7 (EG (EP kn) e)
theorem DP {kn:List (Int×AV)} (H:KnOk kn) {σ:St} {f c:Nat} {e':AV} {dc:CA} (F:FactsAt σ f kn) (C:ConstAt dc σ c e') (k:Nat) {e:EO} (he:e.ok) :
  ∃ σ',Ca (k+4) (20,196) [.loc c,B7 (EG BD e),.loc f] σ (eoP kn e) σ'∧Ext σ σ':=by
 have hk:=Cu H F k (.loc c) he
 have h1:=C.h1
 unfold eoP
 generalize hv:Ij kn e=zz7
 induction zz7 using Option.casesOn with
 | some b=>
  rw [hv] at hk
  exact ⟨σ,An (Ag rfl) Mf rfl (Ah (Ax rfl h1 rfl rfl hk) rfl (AJ rfl rfl rfl)),Ext.refl _⟩
 | none=>
  rw [hv] at hk
  induction e using EO.casesOn with
  | goto=>exact ⟨σ,An (Ag rfl) Mf rfl (Ah (Ax rfl h1 rfl rfl hk) rfl (Ak rfl rfl rfl)),Ext.refl _⟩
  | ret=>exact ⟨σ,An (Ag rfl) Mf rfl (Ah (Ax rfl h1 rfl rfl hk) rfl (Ak rfl rfl rfl)),Ext.refl _⟩
  | drop g=>exact ⟨σ,An (Ag rfl) Mf rfl (Ah (Ax rfl h1 rfl rfl hk) rfl (Ak rfl rfl rfl)),Ext.refl _⟩
  | sw o rows d=>
   have hp:=Lc H F C k o he.1
   exact ⟨σ,An (Ag rfl) Mf rfl (Ah (Ax rfl h1 rfl rfl hk) rfl (Ak rfl rfl (AJ rfl rfl (Az (Bj (Au (Aa rfl (Aa (Ax rfl h1 rfl rfl hp) rfl))) (Bx rfl rfl) rfl))))),Ext.refl _⟩
  | asr o=>
   have hp:=Lc H F C k o he.1
   exact ⟨σ,An (Ag rfl) Mf rfl (Ah (Ax rfl h1 rfl rfl hk) rfl (Ak rfl rfl (AJ rfl rfl (Az (Bj (Au (Aa rfl (Aa (Ax rfl h1 rfl rfl hp) rfl))) (Bx rfl rfl) rfl))))),Ext.refl _⟩
  | call ops g b=>
   have hp:=fun o ho=>Lc H F C k o (he.1 o ho)
   have hs:∀ ρ:At,look 206 ρ=some (.loc c)→look 102 ρ=some (.loc f)→Ch (cB (k+3) (.one 179) ρ (.meth (.var 206) 193 [.var 179,.var 102]) []) false (.tup (ops.map BD)) AC 0 [] σ=some (ops.map (EP kn),σ):=fun ρ l1 l2=>by
    rw [Jb _ _ _ _ (by rw [List.length_map];exact Nat.lt_trans he.2 (by decide))]
    have:∀ (l:List Opd),(∀ o∈l,o∈ops)→∀ acc,Mh (cB (k+3) (.one 179) ρ (.meth (.var 206) 193 [.var 179,.var 102]) []) (l.map BD) acc σ=some (acc++l.map (EP kn),σ):=by
     intro l
     induction l with
     | nil=>intro _ acc;rw [List.map_nil,List.map_nil,List.append_nil];rfl
     | cons o l ih=>
      intro hm acc
      have hb:=Bp (t:=.one 179) (ρ:=ρ) (x:=BD o) (ifs:=[]) (e:=.meth (.var 206) 193 [.var 179,.var 102]) (k:=k+3) rfl rfl (Ax (Ac (Ab l1 rfl)) h1 rfl (Aa (Ac (Aj _ _ _)) (Aa (Ac (Ab l2 rfl)) rfl)) (hp o (hm o (.head _))))
      rw [List.map_cons,SQ hb]
      refine (ih (fun o h=>hm o (.tail _ h)) _).trans ?_
      rw [List.append_assoc];rfl
    exact this ops (fun o h=>h) []
   have g1:=Ad σ (AO.list (ops.map (EP kn)))
   refine ⟨_,An (Ag rfl) Mf rfl (Ah (Ax rfl h1 rfl rfl hk) rfl (Ak rfl rfl (Ak rfl rfl (AJ rfl rfl (Ah (Bx (Aa (BO rfl rfl (hs _ rfl rfl)) rfl) (DX g1 ?_)) rfl rfl))))),Ext.app1 _ _⟩
   rw [List.length_map];exact Nat.le_of_lt (Nat.lt_trans he.2 (by decide))
end
section
noncomputable def FK:Plc→Int
 | .n1=>1
 | .n4=>4
 | .b2=>2
 | .p0 | .p1 | .pr=>3
noncomputable def Tv:EO→Option Int
 | .call _ g _=>some (FK g)
 | .drop g=>some (FK g)
 | _=>none
noncomputable def eoK (kn:List (Int×AV)) (e:EO):List (Int×AV):=match Tv e with
 | some g=>DV g kn
 | none=>kn
noncomputable def N8 (kn:List (Int×AV)) (e:EO):List Int:=match Ij kn e with
 | some b=>[b]
 | none=>Cg (EG BD e)
theorem I7:∀ {l:List (Int×AV)} {k:Int},Ao k l=none→DV k l=l
 | [],_,_=>rfl
 | (y,w)::r,k,h=>by
  unfold Ao at h
  unfold DV
  by_cases e:k=y
  ·rw [if_pos e] at h;cases h
  ·rw [if_neg e] at h;rw [if_neg e,I7 h]
theorem OX {σ:St} {a:Nat} {o:AO} (h:σ[a]?=some o):σ.set a o=σ:=by
 obtain ⟨h1,h2⟩:=List.getElem?_eq_some_iff.mp h
 rw [←h2];exact List.set_getElem_self h1
theorem IM {σ:St} {a:Nat} {l:List (Int×AV)} (h:σ[a]?=some (.dI l)) (hl:l.length≤1000000) (k:Int) (w:AV):∃ v,Db true 4 (.loc a) [.int k,w] σ=some (v,σ.set a (.dI (DV k l))):=by
 rw [show Db true 4 (.loc a) [.int k,w] σ=MC a l σ k (some w) (Ao k l) from (FQ h _ _).trans (if_pos hl)]
 generalize hk:Ao k l=zz2
 induction zz2 using Option.casesOn with
 | some v=>exact ⟨v,rfl⟩
 | none=>exact ⟨w,by rw [I7 hk,OX h];rfl⟩
theorem QJ (k:Nat) {σ:St} {f d:Nat} {kn:List (Int×AV)} (h1:σ[f]?=some (.inst 19 [(137,.loc d)])) (h2:σ[d]?=some (.dI kn)) (hn:kn.length≤1000000) (g:Plc) :
  Ca (k+1) (19,111) [.loc f,By g] σ .none (σ.set d (.dI (DV (FK g) kn))):=by
 obtain ⟨v,hv⟩:=IM h2 hn (FK g) .none
 have hi:Ev k (.idx (.var 186) (.int 0)) [(206,.loc f),(186,By g)] σ (.int (FK g)) σ:=by cases g<;>exact rfl
 exact Dp (Ag rfl) d111 rfl (A1 (CY (AN rfl h1 rfl) h2 (Aa hi (Aa rfl rfl)) hv) rfl)
theorem Ol {kn:List (Int×AV)} (H:KnOk kn) (hn:kn.length≤1000000) {σ σ₀:St} {f c d:Nat} {dc:CA} {e:EO} (h1:σ[f]?=some (.inst 19 [(137,.loc d)])) (h2:σ[d]?=some (.dI kn)) (C:ConstAt dc σ c (B7 (EG BD e))) (k:Nat) (he:e.ok) (E0:Ext σ₀ σ) (hd:σ₀.length≤d) :
  ∃ a σ',Ca (k+5) (20,117) [.loc c,.int 0,.loc f] σ (.loc a) σ'∧Ext σ₀ σ'∧σ'[a]?=some (.list ((N8 kn e).map fun b=>.tup [.int b,.loc d]))∧σ'[d]?=some (.dI (eoK kn e)):=by
 have htm:∀ {ρ:At},look 206 ρ=some (.loc c)→look 171 ρ=some (.int 0)→Ev (k+4) (.idx (.idx (.attr (.attr (.var 206) 78) 77) (.var 171)) (.int 1)) ρ σ (B7 (EG BD e)) σ:=fun l1 l2=>
  As (As (AN (AN (Ac l1) C.h1 rfl) C.h2 rfl) (Ac l2) (idx_list (n:=0) C.h4 rfl (by decide))) rfl (idx_list (n:=1) C.h5 rfl (by decide))
 have rest:∀ (σ₁:St),Ext σ₀ σ₁→σ₁[f]?=some (.inst 19 [(137,.loc d)])→σ₁[d]?=some (.dI (eoK kn e))→σ₁[c]?=some (.inst 20 [(78,.loc dc.b),(110,.loc dc.fo),(73,.loc dc.be)])→Ca (k+4) (20,138) [.loc c,B7 (EG BD e),.loc f] σ₁ (oi (Ij kn e)) σ₁ →
   ∃ a σ' ρ',Xs (k+4) [.asg (.name 222) (.meth (.var 206) 138 [.var 223,.var 102]),.ifs (.cmp .IsNot (.var 222) .none) [.ret (.list [(.tup [.var 222,(.attr (.var 102) 137)])])] [],
    .ret (.lcomp (.tup [.var 76,(.attr (.var 102) 137)]) (.one 76) (.call 218 [.var 223]) [])] [(206,.loc c),(171,.int 0),(102,.loc f),(223,B7 (EG BD e))] σ₁ (.ret (.loc a),ρ',σ')∧Ext σ₀ σ'∧σ'[a]?=some (.list ((N8 kn e).map fun b=>.tup [.int b,.loc d]))∧σ'[d]?=some (.dI (eoK kn e)):=fun σ₁ x1 g1 g2 gc hk=>by
  unfold N8
  generalize hv:Ij kn e=zz3
  induction zz3 using Option.casesOn with
  | some b=>
   rw [hv] at hk
   exact ⟨σ₁.length,σ₁++[.list [.tup [.int b,.loc d]]],_,Ah (Ax rfl gc rfl rfl hk) rfl (AJ rfl rfl (Az (Ar (Aa (Au (Aa rfl (Aa (AN rfl g1 rfl) rfl))) rfl)))),x1.trans (Ext.app1 _ _),Ad _ _,Af g2 _⟩
  | none=>
   rw [hv] at hk
   have hlen:(IE (EG BD e)).length < 1000:=by
    induction e using EO.casesOn with
    | sw o rows b=>
     show ((rows.map fun p=>(AV.int p.1,p.2)).map (fun p=>some p.2)++[b]).length < 1000
     rw [List.length_append,List.length_map,List.length_map]
     exact Nat.lt_of_le_of_lt (Nat.succ_le_of_lt he.2.2) (by decide)
    | ret=>exact (by decide:0 < 1000)
    | _=>exact (by decide:1 < 1000)
   obtain ⟨a,σ₂,hs,x2,s2,_⟩:=F7 (k+3) σ₁ (EG BD e) hlen
   have hc:=BT (body:=cB (k+4) (.one 76) [(206,.loc c),(171,.int 0),(102,.loc f),(223,B7 (EG BD e)),(222,.none)] (.tup [.var 76,(.attr (.var 102) 137)]) []) (d:=false) (src:=.loc a) (L:=(Cg (EG BD e)).map .int) (σ:=σ₂) (fun v=>some (.tup [v,.loc d]))
    (by rw [List.length_map];exact Nat.lt_of_le_of_lt (Hl _) (Nat.lt_trans hlen (by decide))) (Av s2) (fun x _=>Bp rfl rfl (Au (Aa (Ac (Aj _ _ _)) (Aa (AN rfl (x2 _ _ g1) rfl) rfl))))
   have hm:((Cg (EG BD e)).map AV.int).filterMap (fun v=>some (AV.tup [v,.loc d]))=(Cg (EG BD e)).map fun b=>AV.tup [.int b,.loc d]:=by
    rw [List.filterMap_eq_map',List.map_map];rfl
   rw [hm] at hc
   have hD:AH σ₂ (.loc a)=false:=by
    show (match σ₂[a]? with | some (.dI _)=>true | _=>false)=false
    rw [s2]
   exact ⟨σ₂.length,σ₂++[.list ((Cg (EG BD e)).map fun b=>AV.tup [.int b,.loc d])],_,Ah (Ax rfl gc rfl rfl hk) rfl (Ak rfl rfl (Az (BO (Am rfl hs) hD hc))),x1.trans (x2.trans (Ext.app1 _ _)),Ad _ _,Af (x2 _ _ g2) _⟩
 have goes:∀ (g:Plc) (l:Nat),σ[c]?=some (.inst 20 [(78,.loc dc.b),(110,.loc dc.fo),(73,.loc dc.be)])→∃ σ₁,Ca (k+4) (19,111) [.loc f,By g] σ .none σ₁∧Ext σ₀ σ₁∧σ₁[f]?=some (.inst 19 [(137,.loc d)])∧σ₁[d]?=some (.dI (DV (FK g) kn))∧σ₁[c]?=some (.inst 20 [(78,.loc dc.b),(110,.loc dc.fo),(73,.loc dc.be)]):=fun g l hc=>
  ⟨_,QJ (k+3) h1 h2 hn g,E0.set hd,AR h1 (BZ h2 h1 (by simp)),AQ h2,AR hc (BZ h2 hc (by simp))⟩
 induction e using EO.casesOn with
 | call ops g b=>
  obtain ⟨σ₁,hf,x1,g1,g2,gc⟩:=goes g 0 C.h1
  obtain ⟨a,σ',ρ',hx,y1,y2,y3⟩:=rest σ₁ x1 g1 g2 gc rfl
  exact ⟨a,σ',An (Ag rfl) Oc rfl (Ah (htm rfl rfl) rfl (Bu rfl rfl (A1 (Ax rfl h1 rfl rfl hf) rfl) (Ak rfl rfl hx))),y1,y2,y3⟩
 | drop g=>
  obtain ⟨σ₁,hf,x1,g1,g2,gc⟩:=goes g 0 C.h1
  obtain ⟨a,σ',ρ',hx,y1,y2,y3⟩:=rest σ₁ x1 g1 g2 gc rfl
  exact ⟨a,σ',An (Ag rfl) Oc rfl (Ah (htm rfl rfl) rfl (Ak rfl rfl (Bu rfl rfl (A1 (Ax rfl h1 rfl rfl hf) rfl) hx))),y1,y2,y3⟩
 | goto=>
  obtain ⟨a,σ',ρ',hx,y1,y2,y3⟩:=rest σ E0 h1 h2 C.h1 rfl
  exact ⟨a,σ',An (Ag rfl) Oc rfl (Ah (htm rfl rfl) rfl (Ak rfl rfl (Ak rfl rfl hx))),y1,y2,y3⟩
 | ret=>
  obtain ⟨a,σ',ρ',hx,y1,y2,y3⟩:=rest σ E0 h1 h2 C.h1 rfl
  exact ⟨a,σ',An (Ag rfl) Oc rfl (Ah (htm rfl rfl) rfl (Ak rfl rfl (Ak rfl rfl hx))),y1,y2,y3⟩
 | sw o rows b=>
  obtain ⟨a,σ',ρ',hx,y1,y2,y3⟩:=rest σ E0 h1 h2 C.h1 (Cu H ⟨d,h1,h2⟩ (k+1) (.loc c) he)
  exact ⟨a,σ',An (Ag rfl) Oc rfl (Ah (htm rfl rfl) rfl (Ak rfl rfl (Ak rfl rfl hx))),y1,y2,y3⟩
 | asr o=>
  obtain ⟨a,σ',ρ',hx,y1,y2,y3⟩:=rest σ E0 h1 h2 C.h1 (Cu H ⟨d,h1,h2⟩ (k+1) (.loc c) he)
  exact ⟨a,σ',An (Ag rfl) Oc rfl (Ah (htm rfl rfl) rfl (Ak rfl rfl (Ak rfl rfl hx))),y1,y2,y3⟩
end
section
noncomputable abbrev Nd (l:List (Int×AV)):Prop:=(l.map (·.1)).Nodup
theorem lookI_mem:∀ {l:List (Int×AV)} {k:Int} {v:AV},Nd l→(k,v)∈l→Ao k l=some v
 | (y,w)::r,k,v,hn,hm=>by
  have hc:=List.nodup_cons.mp hn
  unfold Ao
  rcases List.mem_cons.mp hm with e | e
  ·(cases e);rw [if_pos rfl]
  ·rw [if_neg,lookI_mem hc.2 e]
   rintro rfl
   exact hc.1 (List.mem_map.mpr ⟨_,e,rfl⟩)
theorem DI:∀ {l:List (Int×AV)} {k:Int} {v:AV},Ao k l=some v→(k,v)∈l
 | (y,w)::r,k,v,h=>by
  unfold Ao at h
  by_cases e:k=y
  ·rw [if_pos e] at h;(cases h);subst e;exact .head _
  ·rw [if_neg e] at h;exact .tail _ (DI h)
noncomputable def wo (g:Option Int) (l:List (Int×AV)):List (Int×AV):=l.filter fun p=>!(g==some p.1)
theorem Te {g:Option Int} {l:List (Int×AV)} (h:Nd l):Nd (wo g l):=List.Nodup.sublist (List.Sublist.map _ List.filter_sublist) h
theorem G9:∀ {l:List (Int×AV)} {g:Int},Nd l→DV g l=wo (some g) l
 | [],_,_=>rfl
 | (y,w)::r,g,hn=>by
  have hc:=List.nodup_cons.mp hn
  unfold DV wo
  by_cases e:g=y
  ·subst e
   rw [if_pos rfl,List.filter_cons_of_neg (by simp)]
   refine (List.filter_eq_self.mpr fun p hp=>?_).symm
   have:g≠p.1:=fun e=>hc.1 (e▸List.mem_map.mpr ⟨p,hp,rfl⟩)
   simpa using this
  ·rw [if_neg e,List.filter_cons_of_pos (by simpa using e),G9 hc.2];rfl
theorem Rf (l:List (Int×AV)):wo none l=l:=List.filter_eq_self.mpr fun p _=>rfl
theorem FG:∀ {l:List (Int×AV)} {k:Int} {v:AV},Ao k l=none→Br k v l=l++[(k,v)]
 | [],_,_,_=>rfl
 | (y,w)::r,k,v,h=>by
  unfold Ao at h
  unfold Br
  by_cases e:k=y
  ·rw [if_pos e] at h;cases h
  ·rw [if_neg e] at h;rw [if_neg e,FG h];rfl
theorem DT {l:List (Int×AV)} {k:Int} (h:k∉l.map (·.1)):Ao k l=none:=by
 generalize hl:Ao k l=zz4
 induction zz4 using Option.casesOn with
 | none=>rfl
 | some v=>exact absurd (List.mem_map.mpr ⟨_,DI hl,rfl⟩) h
theorem Fk:∀ {l acc:List (Int×AV)},Nd (acc++l)→Cd (l.map fun p=>.tup [.int p.1,p.2]) acc=some (acc++l)
 | [],acc,_=>by rw [List.append_nil];rfl
 | (k,v)::r,acc,h=>by
  show Cd (r.map fun p=>.tup [.int p.1,p.2]) (Br k v acc)=_
  have hk:k∉acc.map (·.1):=fun hm=>by
   rw [Nd,List.map_append] at h
   exact (List.nodup_append.mp h).2.2 k hm k (.head _) rfl
  rw [FG (DT hk),Fk (by rw [List.append_assoc];exact h),List.append_assoc];rfl
theorem dictEq_self {f:AV→AV→Option Bool} {b:List (Int×AV)} (hb:Nd b):∀ {l:List (Int×AV)},(∀ p∈l,p∈b)→(∀ p∈l,f p.2 p.2=some true)→CQ f b l=some true
 | [],_,_=>rfl
 | (k,v)::r,h1,h2=>by
  unfold CQ
  rw [lookI_mem hb (h1 _ (.head _))]
  simp only [h2 _ (.head _),dictEq_self hb (fun p hp=>h1 p (.tail _ hp)) (fun p hp=>h2 p (.tail _ hp)),Bool.and_self]
theorem Q_ {σ:St} {a b n:Nat} {l:List (Int×AV)} (h1:σ[a]?=some (.dI l)) (h2:σ[b]?=some (.dI l)) (hn:Nd l) (hv:∀ p∈l,pl n p.2=true):BU σ (n+1) (.loc a) (.loc b)=some true:=by
 show Ig _ σ[a]? σ[b]?=_
 rw [h1,h2]
 exact (if_pos rfl).trans (dictEq_self hn (fun p hp=>hp) fun p hp=>JX σ (hv p hp))
theorem Lq {σ:St} {a b n:Nat} {l m:List AV} (h1:σ[a]?=some (.list l)) (h2:σ[b]?=some (.list m)) (hl:l.length=m.length) (hv:Cv (BU σ n) l m=some true):BU σ (n+1) (.loc a) (.loc b)=some true:=by
 show Ig _ σ[a]? σ[b]?=_
 rw [h1,h2]
 exact (if_pos hl).trans hv
theorem pl_kn {kn:List (Int×AV)} (H:KnOk kn) (n:Nat):∀ p∈kn,pl (n+2) p.2=true:=fun p hp=>by
 have hl:=lookI_mem H.nd hp
 rcases H.sub p.1 p.2 hp with e | e | e | e<;>rw [e] at hl
 ·rcases H.n1 with h | ⟨i,h,_⟩<;>rw [h] at hl
  ·exact Ae hl
  ·rw [←oQ hl];rfl
 ·rcases H.b2 with h | ⟨i,h⟩<;>rw [h] at hl
  ·exact Ae hl
  ·rw [←oQ hl];rfl
 ·rcases H.p3 with h | ⟨i,b,h,_⟩<;>rw [h] at hl
  ·exact Ae hl
  ·rw [←oQ hl];rfl
 ·rcases H.n4 with h | ⟨i,h,_⟩<;>rw [h] at hl
  ·exact Ae hl
  ·rw [←oQ hl];rfl
theorem UA {kn:List (Int×AV)} (H:KnOk kn) (e:EO):eoK kn e=wo (Tv e) kn:=by
 unfold eoK
 generalize h:Tv e=zz9
 induction zz9 using Option.casesOn with
 | none=>exact (Rf kn).symm
 | some g=>exact G9 H.nd
theorem Gm {σ:St} {a:Nat} {l:List (Int×AV)} (h:σ[a]?=some (.dI l)) (i:Nat):Bg σ true (.loc a) i=some (l.map fun p=>AV.int p.1)[i]?:=by
 show (match σ[a]? with | some (.list l)=>_ | some (.dI l)=>_ | _=>_)=_
 rw [h,List.getElem?_map];rfl
theorem idx_dI {σ:St} {a:Nat} {l:List (Int×AV)} (h:σ[a]?=some (.dI l)) (k:Int):CM σ (.loc a) (.int k)=Ao k l:=by
 show (match σ[a]? with | some (.list l)=>_ | some (.dI l)=>_ | _=>_)=_
 rw [h]
theorem ne_oi (σ:St) (k:Int) (g:Option Int):A9 σ .NotEq (.int k) (oi g)=some (!(g==some k)):=by
 induction g using Option.casesOn with
 | none=>rfl
 | some b=>
  show some (!(k==b))=_
  rw [show (k==b)=(b==k) from Bool.beq_comm];rfl
noncomputable def MW (kn:List (Int×AV)) (g:Option Int):AV→Option AV
 | .int i=>if !(g==some i) then (Ao i kn).map fun w=>.tup [.int i,w] else none
 | _=>none
theorem IQ {kn:List (Int×AV)} (hN:Nd kn) (g:Option Int):∀ l:List (Int×AV),(∀ p∈l,p∈kn)→(l.map fun p=>AV.int p.1).filterMap (MW kn g)=(wo g l).map fun p=>.tup [.int p.1,p.2]
 | [],_=>rfl
 | p::r,hp=>by
  have ih:=IQ hN g r fun q hq=>hp q (.tail _ hq)
  rw [List.map_cons,List.filterMap_cons,wo]
  cases hb:!(g==some p.1)
  ·have e:MW kn g (.int p.1)=none:=if_neg (by rw [hb];exact bQ)
   rw [e,List.filter_cons_of_neg (by rw [hb];exact bQ)]
   exact ih
  ·have e:MW kn g (.int p.1)=some (.tup [.int p.1,p.2]):=(if_pos hb).trans (by rw [lookI_mem hN (hp p (.head _))];rfl)
   rw [e,List.filter_cons_of_pos (p:=fun p:Int×AV=>!(g==some p.1)) hb,List.map_cons]
   exact congrArg _ ih
theorem Sm {kn:List (Int×AV)} (hN:Nd kn) (hn:kn.length < 100000) (k:Nat) {σ:St} {kd:Nat} (hk:σ[kd]?=some (.dI kn)) {ρ:At} (g:Option Int) (r1:look 137 ρ=some (.loc kd)) (r2:look 116 ρ=some (oi g)) :
  ∃ a σ',Ev k (.blt .dict [(.lcomp (.tup [.var 153,(.idx (.var 137) (.var 153))]) (.one 153) (.var 137) [(.cmp .NotEq (.var 153) (.var 116))])]) ρ σ (.loc a) σ'∧Ext σ σ'∧σ'[a]?=some (.dI (wo g kn)):=by
 have hc:=BT (body:=cB k (.one 153) ρ (.tup [.var 153,(.idx (.var 137) (.var 153))]) [(.cmp .NotEq (.var 153) (.var 116))]) (d:=true) (src:=.loc kd) (L:=kn.map fun p=>.int p.1) (σ:=σ)
  (MW kn g) (by rw [List.length_map];exact hn) (Gm hk) (fun x hx=>by
  obtain ⟨p,hp,rfl⟩:=List.mem_map.mp hx
  have r0:=Aj 153 (.int p.1) ρ
  have q1:=Ab (y:=153) (v:=.int p.1) r1 rfl
  have hq:=ne_oi σ p.1 g
  have hl:=lookI_mem hN hp
  show cB _ _ _ _ _ _ _=some (if !(g==some p.1) then _ else _,_)
  cases hb:!(g==some p.1)
  ·rw [hb] at hq
   exact Dq rfl (HW (Al (Ac r0) (Ac (Ab r2 rfl)) hq) rfl)
  ·rw [hb] at hq
   rw [if_pos rfl,hl]
   exact Bp rfl (HW (Al (Ac r0) (Ac (Ab r2 rfl)) hq) rfl) (Au (Aa (Ac r0) (Aa (As (Ac q1) (Ac r0) ((idx_dI hk _).trans hl)) rfl))))
 rw [IQ hN g kn fun p hp=>hp] at hc
 have g1:=Ad σ (AO.list ((wo g kn).map fun p=>.tup [.int p.1,p.2]))
 have hle:(wo g kn).length≤1000000:=Nat.le_trans (List.length_filter_le _ _) (Nat.le_trans (Nat.le_of_lt hn) (by decide))
 exact ⟨_,_,Bx (Aa (Na (Ac r1) hk rfl hc) rfl) (Jg g1 (by rw [List.length_map];exact hle) (Fk (acc:=[]) (Te hN))),(Ext.app1 _ _).trans (Ext.app1 _ _),Ad _ _⟩
end
section
theorem d46:prog.defs (0,46)=some Do:=rfl
theorem Jt {n:Nat} {l:List AV} (h:∀ v∈l,pl n v=true):pl (n+1) (.tup l)=true:=List.all_eq_true.mpr h
theorem O9 (n:Nat) (t:Option Int):pl (n+1) (oi t)=true:=by cases t<;>rfl
theorem MI (g:Plc) (n:Nat):pl (n+4) (By g)=true:=by cases g<;>rfl
theorem T7 {kn:List (Int×AV)} (H:KnOk kn) {e:EO} (he:e.ok):pl 20 (eoP kn e)=true:=by
 unfold eoP
 cases Ij kn e with
 | some b=>rfl
 | none=>
  induction e using EO.casesOn with
  | goto=>rfl
  | ret=>rfl
  | drop g=>exact FL rfl (MI g 15) rfl
  | asr o=>
   refine Jt fun v hv=>?_
   rcases List.mem_cons.mp hv with e | hv
   ·rw [e];rfl
   rcases List.mem_cons.mp hv with e | hv
   ·rw [e];exact Du H he.1 14
   rcases List.mem_cons.mp hv with e | hv
   ·rw [e];rfl
   rcases List.mem_cons.mp hv with e | hv
   ·rw [e];rfl
   rw [List.mem_singleton.mp hv];rfl
  | sw o rows d=>
   refine MH rfl (Du H he.1 14) (Jt fun v hv=>?_) (O9 _ d)
   obtain ⟨p,hp,rfl⟩:=List.mem_map.mp hv
   obtain ⟨q,_,rfl⟩:=List.mem_map.mp hp
   rfl
  | call ops g b=>
   refine Jt fun v hv=>?_
   rcases List.mem_cons.mp hv with e | hv
   ·rw [e];rfl
   rcases List.mem_cons.mp hv with e | hv
   ·rw [e];rfl
   rcases List.mem_cons.mp hv with e | hv
   ·rw [e]
    refine Jt fun v hv=>?_
    obtain ⟨o,ho,rfl⟩:=List.mem_map.mp hv
    exact Du H (he.1 o ho) 13
   rcases List.mem_cons.mp hv with e | hv
   ·rw [e];exact MI g 15
   rw [List.mem_singleton.mp hv];exact O9 _ b
inductive EndAt (kn:List (Int×AV)) (σ:St) (e:EO):AV→Prop where
 | mk (bl:Nat) (h:σ[bl]?=some (.list ((Cg (EG BD e)).map .int))):EndAt kn σ e (.tup [B7 (EG BD e),oi (Ij kn e),B7 (EG (EP kn) e),.loc bl,oi (Tv e)])
noncomputable def KS:List PS:=[
  .asg (.name 88) (.call 20 [(.call 42 [.var 98])]),
  .ifs (.cmp .NotEq (.meth (.var 88) 138 [.var 98,(.call 19 [.var 137])]) (.var 222)) [
   .ret (.bool false)] [],
  .ifs (.cmp .NotEq (.meth (.var 88) 196 [.var 98,(.call 19 [.var 137])]) (.ite (.cmp .Is (.var 222) .none) (.var 193) (.tup [.str 118,.var 222]))) [
   .ret (.bool false)] [],
  .asg (.name 143) (.blt .dict [(.lcomp (.tup [.var 153,(.idx (.var 137) (.var 153))]) (.one 153) (.var 137) [(.cmp .NotEq (.var 153) (.var 116))])]),
  .asg (.name 97) (.lcomp (.tup [.var 76,.var 143]) (.one 76) (.ite (.cmp .Is (.var 222) .none) (.var 77) (.list [.var 222])) []),
  .ifs (.cmp .NotEq (.meth (.var 88) 117 [.int 0,(.call 19 [.var 137])]) (.var 97)) [
   .ret (.bool false)] []]
theorem Uu {kn:List (Int×AV)} (k:Nat) {σ:St} {e:EO} {bl dl:Nat} (hb:σ[bl]?=some (.list ((Cg (EG BD e)).map .int))) (he:(N8 kn e).length < 100000) {ρ:At} (r1:look 222 ρ=some (oi (Ij kn e))) (r2:look 77 ρ=some (.loc bl)) (r3:look 143 ρ=some (.loc dl)) :
  ∃ a σ',Ev k (.lcomp (.tup [.var 76,.var 143]) (.one 76) (.ite (.cmp .Is (.var 222) .none) (.var 77) (.list [.var 222])) []) ρ σ (.loc a) σ'∧Ext σ σ'∧σ'[a]?=some (.list ((N8 kn e).map fun b=>.tup [.int b,.loc dl])):=by
 have src:∃ a σ₁,Ev k (.ite (.cmp .Is (.var 222) .none) (.var 77) (.list [.var 222])) ρ σ (.loc a) σ₁∧Ext σ σ₁∧σ₁[a]?=some (.list ((N8 kn e).map .int)):=by
  unfold N8
  generalize hv:Ij kn e=zz2
  induction zz2 using Option.casesOn with
  | none=>
   rw [hv] at r1
   exact ⟨bl,σ,Bl (Al (Ac r1) rfl rfl) rfl (Ac r2),Ext.refl _,hb⟩
  | some b=>
   rw [hv] at r1
   exact ⟨σ.length,_,Bh (Al (Ac r1) rfl rfl) rfl (Ar (Aa (Ac r1) rfl)),Ext.app1 _ _,Ad _ _⟩
 obtain ⟨a,σ₁,h1,x1,s1⟩:=src
 have hc:=BT (body:=cB k (.one 76) ρ (.tup [.var 76,.var 143]) []) (d:=false) (src:=.loc a) (L:=(N8 kn e).map .int) (σ:=σ₁) (fun v=>some (.tup [v,.loc dl])) (by rw [List.length_map];exact he) (Av s1)
  (fun x _=>Bp rfl rfl (Au (Aa (Ac (Aj _ _ _)) (Aa (Ac (Ab r3 rfl)) rfl))))
 have hm:((N8 kn e).map AV.int).filterMap (fun v=>some (AV.tup [v,.loc dl]))=(N8 kn e).map fun b=>AV.tup [.int b,.loc dl]:=by
  rw [List.filterMap_eq_map',List.map_map];rfl
 rw [hm] at hc
 have hD:AH σ₁ (.loc a)=false:=by
  show (match σ₁[a]? with | some (.dI _)=>true | _=>false)=false
  rw [s1]
 exact ⟨_,_,BO h1 hD hc,x1.trans (Ext.app1 _ _),Ad _ _⟩
theorem Ta {σ:St} {a b d l:Nat} {K:List (Int×AV)} (L:List Int) (ha:σ[a]?=some (.list (L.map fun b=>.tup [.int b,.loc d]))) (hb:σ[b]?=some (.list (L.map fun b=>.tup [.int b,.loc l]))) (hd:σ[d]?=some (.dI K)) (hl:σ[l]?=some (.dI K)) (hn:Nd K) (hv:∀ p∈K,pl 17 p.2=true) :
  A9 σ .NotEq (.loc a) (.loc b)=some false:=by
 have key:∀ L:List Int,Cv (BU σ 19) (L.map fun b=>.tup [.int b,.loc d]) (L.map fun b=>.tup [.int b,.loc l])=some true:=by
  intro L
  induction L with
  | nil=>rfl
  | cons x r ih=>
   have e1:BU σ 19 (.tup [.int x,.loc d]) (.tup [.int x,.loc l])=some true:=by
    show (match some (x==x),(match BU σ 18 (.loc d) (.loc l),some true with | some a,some b=>some (a&&b) | _,_=>none) with | some a,some b=>some (a&&b) | _,_=>none)=_
    rw [Q_ (n:=17) hd hl hn hv,beq_self_eq_true];rfl
   show (match BU σ 19 _ _,Cv (BU σ 19) (r.map fun b=>.tup [.int b,.loc d]) (r.map fun b=>.tup [.int b,.loc l]) with | some a,some b=>some (a&&b) | _,_=>none)=_
   rw [e1,ih];rfl
 show Option.map not (BU σ 20 (.loc a) (.loc b))=_
 rw [Lq ha hb (by rw [List.length_map,List.length_map]) (key L)];rfl
theorem Sz {kn:List (Int×AV)} {e:EO} (he:e.ok):(N8 kn e).length < 1000:=by
 unfold N8
 cases Ij kn e with
 | some b=>exact (by decide:1 < 1000)
 | none=>
  refine Nat.lt_of_le_of_lt (Hl _) ?_
  induction e using EO.casesOn with
  | sw o rows b=>
   show ((rows.map fun p=>(AV.int p.1,p.2)).map (fun p=>some p.2)++[b]).length < 1000
   rw [List.length_append,List.length_map,List.length_map]
   exact Nat.lt_of_le_of_lt (Nat.succ_le_of_lt he.2.2) (by decide)
  | ret=>exact (by decide:0 < 1000)
  | _=>exact (by decide:1 < 1000)
theorem N9 {kn:List (Int×AV)} (H:KnOk kn) (hn:kn.length < 100000) (k:Nat) {e:EO} (he:e.ok) {σ:St} {kd bl:Nat} (hk:σ[kd]?=some (.dI kn)) (hb:σ[bl]?=some (.list ((Cg (EG BD e)).map .int))) {ρ:At}
  (r0:look 137 ρ=some (.loc kd)) (r1:look 98 ρ=some (B7 (EG BD e))) (r2:look 222 ρ=some (oi (Ij kn e))) (r3:look 193 ρ=some (B7 (EG (EP kn) e))) (r4:look 77 ρ=some (.loc bl)) (r5:look 116 ρ=some (oi (Tv e))) :
  ∃ ρ' σ',Xs (k+5) KS ρ σ (.next,ρ',σ')∧Ext σ σ'∧look 137 ρ'=some (.loc kd):=by
 have hn':=Nat.le_trans (Nat.le_of_lt hn) (show 100000≤1000000 by decide)
 obtain ⟨dc,c,σ₁,h1,x1,C1⟩:=FP (k+3) σ (B7 (EG BD e))
 obtain ⟨σ₂,h2,x2,F2⟩:=Er (k+4) (x1 _ _ hk) hn'
 have h3:=Cu H F2 (k+2) (.loc c) he
 have y2:=x1.trans x2
 obtain ⟨σ₃,h4,x3,F3⟩:=Er (k+4) (y2 _ _ hk) hn'
 obtain ⟨σ₄,h5,x4⟩:=DP H F3 ((C1.ext x2).ext x3) (k+1) he
 have y4:=y2.trans (x3.trans x4)
 have C4:=((C1.ext x2).ext x3).ext x4
 have q0:=Ab (y:=88) (v:=.loc c) r0 rfl
 have q1:=Ab (y:=88) (v:=.loc c) r1 rfl
 have q2:=Ab (y:=88) (v:=.loc c) r2 rfl
 have q3:=Ab (y:=88) (v:=.loc c) r3 rfl
 have q4:=Ab (y:=88) (v:=.loc c) r4 rfl
 have q5:=Ab (y:=88) (v:=.loc c) r5 rfl
 have q6:=Aj 88 (.loc c) ρ
 obtain ⟨dl,σ₅,h6,x5,s5⟩:=Sm H.nd hn (k+5) (y4 _ _ hk) (Tv e) q0 q5
 have y5:=y4.trans x5
 obtain ⟨du,σ₆,h7,x6,s6⟩:=Uu (k+5) (y5 _ _ hb) (Nat.lt_trans (Sz he) (by decide)) (Ab (y:=143) (v:=.loc dl) q2 rfl) (Ab q4 rfl) (Aj _ _ _)
 have y6:=y5.trans x6
 obtain ⟨d',h8,s7,hd'⟩:=Nm (k+4) (y6 _ _ hk) hn'
 have x7:=(Ext.app1 σ₆ (.inst 19 [(137,.loc d')])).trans (Ext.app1 _ (.dI kn))
 obtain ⟨a,σ₈,h9,x8,s8,s9⟩:=Ol H hn' (Af (Ad _ _) _) s7 ((C4.ext x5).ext x6 |>.ext x7) k he x7 (by rw [hd'];exact Nat.le_succ _)
 have hite:Ev (k+5) (.ite (.cmp .Is (.var 222) .none) (.var 193) (.tup [.str 118,.var 222])) (put 88 (.loc c) ρ) σ₄ (eoP kn e) σ₄:=by
  unfold eoP
  generalize hv:Ij kn e=zz4
  induction zz4 using Option.casesOn with
  | none=>rw [hv] at q2;exact Bl (Al (Ac q2) rfl rfl) rfl (Ac q3)
  | some b=>rw [hv] at q2;exact Bh (Al (Ac q2) rfl rfl) rfl (Au (Aa rfl (Aa (Ac q2) rfl)))
 rw [UA H] at s9
 have hq:=Ta (N8 kn e) s8 (x8 _ _ s6) s9 (x8 _ _ (x6 _ _ s5)) (Te H.nd) (fun p hp=>pl_kn H 15 p (List.mem_filter.mp hp).1)
 refine ⟨_,σ₈,Ah (h1 (Ac r1)) rfl (Ak (Al (Ax (Ac q6) C1.h1 rfl (Aa (Ac q1) (Aa (Am (Aa (Ac q0) rfl) h2) rfl)) h3) (Ac q2) (Qf (O9 19 _) rfl)) rfl
  (Ak (Al (Ax (Ac q6) (C1.ext x2).h1 rfl (Aa (Ac q1) (Aa (Am (Aa (Ac q0) rfl) h4) rfl)) h5) hite (Qf (T7 H he) rfl)) rfl
  (Ah h6 rfl (Ah h7 rfl (Ak (Al (Ax (Ac (Ab (Ab q6 rfl) rfl)) ((C4.ext x5).ext x6).h1 rfl (Aa rfl (Aa (Am (Aa (Ac (Ab (Ab q0 rfl) rfl)) rfl) h8) rfl)) h9) (Ac (Aj _ _ _)) hq) rfl rfl))))),y6.trans x8,Ab (Ab q0 rfl) rfl⟩
inductive EndsAt (kn:List (Int×AV)) (σ:St):List EO→List AV→Prop where
 | nil:EndsAt kn σ [] []
 | cons {e:EO} {v:AV} {es:List EO} {vs:List AV} (h:EndAt kn σ e v) (he:e.ok) (r:EndsAt kn σ es vs):EndsAt kn σ (e::es) (v::vs)
theorem EndsAt.get {kn:List (Int×AV)} {σ:St} {es:List EO} {vs:List AV} (h:EndsAt kn σ es vs) {i:Nat} {v:AV} (hv:vs[i]?=some v):∃ e,EndAt kn σ e v∧e.ok:=by
 induction h generalizing i with
 | nil=>exact Ae hv
 | cons h he r ih=>
  induction i using Nat.casesOn with
  | zero=>(cases hv);exact ⟨_,h,he⟩
  | succ i=>exact ih hv
theorem Df {kn:List (Int×AV)} (H:KnOk kn) (hn:kn.length < 100000) (k:Nat) {σ:St} {kd a:Nat} (hk:σ[kd]?=some (.dI kn)) {es:List EO} {vs:List AV} (ha:σ[a]?=some (.list vs)) (hl:vs.length < 100000) (hE:EndsAt kn σ es vs) :
  Yes (k+6) 46 [.loc kd,.loc a] σ:=by
 obtain ⟨ρ',σ',hloop,I,_⟩:=AP (body:=DD prog.gtup (AT prog (k+5)) KS) (t:=.many [98,222,193,77,116]) (src:=.loc a) (l:=vs) (fun _ ρ σ₁=>Ext σ σ₁∧look 137 ρ=some (.loc kd)) (fun i _ σ₁ I=>Av (I.1 _ _ ha) i) (fun i x ρ σ₁ hx J=>by
  obtain ⟨e,⟨bl,hb⟩,he⟩:=hE.get hx
  have r0:=J.2
  obtain ⟨ρ₂,σ₂,h1,x1,r1⟩:=N9 H hn k he (J.1 _ _ hk) (J.1 _ _ hb) (ρ:=put 116 (oi (Tv e)) (put 77 (.loc bl) (put 193 (B7 (EG (EP kn) e)) (put 222 (oi (Ij kn e)) (put 98 (B7 (EG BD e)) ρ)))))
   (Ab (Ab (Ab (Ab (Ab r0 rfl) rfl) rfl) rfl) rfl) (Ab (Ab (Ab (Ab (Aj _ _ _) rfl) rfl) rfl) rfl) (Ab (Ab (Ab (Aj _ _ _) rfl) rfl) rfl) (Ab (Ab (Aj _ _ _) rfl) rfl) (Ab (Aj _ _ _) rfl) (Aj _ _ _)
  exact ⟨_,ρ₂,σ₂,rfl,h1,J.1.trans x1,r1⟩) AC 0 [(137,.loc kd),(99,.loc a)] σ (by rw [Nat.zero_add];exact hl) (Nat.zero_le _) ⟨Ext.refl _,rfl⟩
 exact ⟨σ',An (Ag rfl) d46 rfl (A6 rfl hloop rfl),I⟩
end
section
theorem d58:prog.defs (0,58)=some f__law_take:=rfl
theorem d50:prog.defs (0,50)=some HT:=rfl
theorem d49:prog.defs (0,49)=some F0:=rfl
theorem d48:prog.defs (0,48)=some GR:=rfl
theorem d51:prog.defs (0,51)=some EE:=rfl
theorem Fo (σ:St) {a b:Int} (hb:0 < b):IB σ .Mod (.int a) (.int b)=some (.int (a % b),σ):=by
 show (if b=0 then none else some (AV.int (Int.fmod a b),σ))=_
 rw [if_neg (Int.ne_of_gt hb),Int.fmod_eq_emod_of_nonneg a (Int.le_of_lt hb)]
theorem LT (σ:St) {a b:Int} (hb:0 < b) (hb':b < 2 ^ 30):IB σ .FloorDiv (.int a) (.int b)=some (.int (a / b),σ):=by
 show (if b≠0∧b.natAbs < 2 ^ 30 then some (AV.int (Int.fdiv a b),σ) else none)=_
 rw [if_pos ⟨Int.ne_of_gt hb,by exact om15 hb hb'⟩,Int.fdiv_eq_ediv_of_nonneg a (Int.le_of_lt hb)]
theorem L0 (σ:St) {a b:Int} (ha:0≤a) (ha':a < 2 ^ 62) (hb:0≤b) (hb':b < 2 ^ 62):IB σ .Mult (.int a) (.int b)=some (.int (a*b),σ):=if_pos ⟨by exact om6 ha ha',by omega⟩
inductive SrcAt (σ:St) (s:Nat):Prop where
 | mk (a b:Int) (h:σ[s]?=some (.list [.int a,.int b])) (ha:0≤a) (hb:0≤b) (hb':b < 2147483647)
structure Sx (s:Nat) (σ σ':St):Prop where
 x:∀ (i:Nat) (o:AO),i≠s→σ[i]?=some o→σ'[i]?=some o
 s:SrcAt σ' s
theorem Sx.trans {s:Nat} {a b c:St} (h:Sx s a b) (g:Sx s b c):Sx s a c:=⟨fun i o n e=>g.x i o n (h.x i o n e),g.s⟩
theorem Sx.ext {s:Nat} {a b c:St} (h:Sx s a b) (g:Ext b c):Sx s a c:=⟨fun i o n e=>g i o (h.x i o n e),let ⟨p,q,e,h1,h2,h3⟩:=h.s;⟨p,q,g _ _ e,h1,h2,h3⟩⟩
theorem Sx.of {s:Nat} {a b:St} (h:Ext a b) (g:SrcAt a s):Sx s a b:=⟨fun i o _ e=>h i o e,let ⟨p,q,e,h1,h2,h3⟩:=g;⟨p,q,h _ _ e,h1,h2,h3⟩⟩
theorem Sx.refl {s:Nat} {a:St} (g:SrcAt a s):Sx s a a:=⟨fun _ _ _ e=>e,g⟩
theorem Ct (k:Nat) {σ:St} {s:Nat} (S:SrcAt σ s) {top:Int} (ht:0 < top) (ht':top < 2 ^ 30):∃ v σ',Ca (k+1) (0,58) [.loc s,.int top] σ (.int v) σ'∧0≤v∧v < top∧Sx s σ σ':=by
 obtain ⟨a,b,h,ha,hb,hb'⟩:=S
 have i0:CM σ (.loc s) (.int 0)=some (.int a):=idx_list (n:=0) h rfl (by decide)
 by_cases hp:0 < a
 ·have h':(σ.set s (.list [.int (a / top),.int b]))[s]?=some (.list [.int (a / top),.int b]):=AQ h
  refine ⟨a % top,σ.set s (.list [.int (a / top),.int b]),?_,Int.emod_nonneg _ (Int.ne_of_gt ht),Int.emod_lt_of_pos _ ht,⟨fun i o n e=>AR e (Ne.symm n),⟨_,_,h',Int.ediv_nonneg ha (Int.le_of_lt ht),hb,hb'⟩⟩⟩
  refine An (Ag rfl) d58 rfl (AJ (Al (As rfl rfl i0) rfl rfl) (Il (decide_eq_true hp)) (Ah (Bj (As rfl rfl i0) rfl (Fo σ ht)) rfl (Oy (n:=0) (Bj (As rfl rfl i0) rfl (LT σ ht ht')) rfl rfl h (by decide:0 < 2) (by decide:2≤1000000) rfl)))
 ·have h0:a=0:=Int.le_antisymm (Int.not_lt.mp hp) ha
  have i1:CM σ (.loc s) (.int 1)=some (.int b):=idx_list (n:=1) h rfl (by decide)
  have p1:0≤b*39373:=Int.mul_nonneg hb (by decide)
  have c0:=Int.emod_nonneg (b*39373+7) (show (2147483647:Int)≠0 by decide)
  have c1:=Int.emod_lt_of_pos (b*39373+7) (show (0:Int) < 2147483647 by decide)
  have m1:=L0 σ (a:=b) (b:=39373) hb (by exact om16 hb') (by decide) (by decide)
  have m2:=Fo σ (a:=b*39373+7) (b:=2147483647) (by decide)
  generalize (b*39373+7) % 2147483647=c at c0 c1 m2
  have h':(σ.set s (.list [.int a,.int c]))[s]?=some (.list [.int a,.int c]):=AQ h
  have x':∀ (i:Nat) (o:AO),i≠s→σ[i]?=some o→(σ.set s (.list [.int a,.int c]))[i]?=some o:=fun i o n e=>AR e (Ne.symm n)
  have i2:CM (σ.set s (.list [.int a,.int c])) (.loc s) (.int 1)=some (.int c):=idx_list (n:=1) h' rfl (by decide)
  have hx:∀ {r:AF×At×St},Xs k [.ret (.bin .Mod (.bin .FloorDiv (.bin .Mod (.bin .Mult (.idx (.var 212) (.int 1)) (.idx (.var 212) (.int 1))) (.int 2147483629)) (.int 32)) (.var 226))] [(212,.loc s),(226,.int top)] (σ.set s (.list [.int a,.int c])) r→Ca (k+1) (0,58) [.loc s,.int top] σ (match r.1 with
    | .ret v=>v
    | .next=>.none) r.2.2:=fun {r} hr=>by
   obtain ⟨fl,ρ',σ'⟩:=r
   refine (ML k (0,58) _ (Ag rfl) d58 _ _).trans ?_
   have hX:Xs k f__law_take.body [(212,.loc s),(226,.int top)] σ (fl,ρ',σ'):=Ak (Al (As rfl rfl i0) rfl rfl) (Im (decide_eq_false hp)) (Oy (n:=1) (Bj (Bj (Bj (As rfl rfl i1) rfl m1) rfl rfl) rfl m2) rfl rfl h (by decide:1 < 2) (by decide:2≤1000000) hr)
   induction fl using AF.casesOn with
   | ret v=>exact MF rfl hX
   | next=>exact Hw rfl hX
  have m3:=L0 (σ.set s (.list [.int a,.int c])) (a:=c) (b:=c) c0 (Int.lt_trans c1 (by decide)) c0 (Int.lt_trans c1 (by decide))
  generalize σ.set s (.list [.int a,.int c])=σ2 at *
  exact ⟨_,σ2,hx (Az (Bj (Bj (Bj (Bj (As rfl rfl i2) (As rfl rfl i2) m3) rfl (Fo σ2 (by decide))) rfl (LT σ2 (by decide) (by decide))) rfl (Fo σ2 ht))),Int.emod_nonneg _ (Int.ne_of_gt ht),Int.emod_lt_of_pos _ ht,⟨x',⟨_,_,h',ha,c0,c1⟩⟩⟩
theorem F9 (k:Nat) {σ:St} {s t:Nat} (S:SrcAt σ s) {L:List AV} (h:σ[t]?=some (.list L)) (h0:0 < L.length) (h1:L.length < 1000) (hne:t≠s):∃ x σ',x∈L∧Ca (k+2) (0,50) [.loc s,.loc t] σ x σ'∧Sx s σ σ':=by
 obtain ⟨v,σ',h2,v0,v1,X⟩:=Ct k S (top:=L.length) (by exact_mod_cast h0) (by exact om17 h1)
 have hv:v.toNat < L.length:=by exact om3 v0 v1
 have ev:((v.toNat:Nat):Int)=v:=Int.toNat_of_nonneg v0
 have hi:=idx_list (X.x _ _ hne h) (List.getElem?_eq_getElem hv) (Nat.lt_trans hv (Nat.lt_trans h1 (by decide)))
 rw [ev] at hi
 exact ⟨L[v.toNat],σ',List.getElem_mem hv,An (Ag rfl) d50 rfl (Az (As rfl (Am (Aa rfl (Aa (Bx rfl (F_ h (Nat.le_of_lt (Nat.lt_trans h1 (by decide))))) rfl)) h2) hi)),X⟩
theorem Ld {kn:List (Int×AV)} (H:KnOk kn) (k:Nat) {σ:St} {kd:Nat} (h:σ[kd]?=some (.dI kn)) (p:Plc):Ca (k+1) (0,49) [.loc kd,By p] σ (BC kn p) σ:=by
 have hg:Ev k (.meth (.var 137) 6 [(.idx (.var 186) (.int 0))]) [(137,.loc kd),(186,By p)] σ ((Ao (FK p) kn).getD .none) σ:=CY rfl h (Aa (by cases p<;>exact rfl) rfl) (DH h _)
 have hp:=H.p3
 induction p using Plc.casesOn with
 | n1=>
  rcases H.n1 with e | ⟨i,e,_⟩<;>(rw [show FK _=1 from rfl,e] at hg;rw [BC,e];exact An (Ag rfl) d49 rfl (Ah hg rfl rfl))
 | n4=>
  rcases H.n4 with e | ⟨i,e,_⟩<;>(rw [show FK _=4 from rfl,e] at hg;rw [BC,e];exact An (Ag rfl) d49 rfl (Ah hg rfl rfl))
 | b2=>
  rcases H.b2 with e | ⟨i,e⟩<;>(rw [show FK _=2 from rfl,e] at hg;rw [BC,e];exact An (Ag rfl) d49 rfl (Ah hg rfl rfl))
 | p0=>
  rcases hp with e | ⟨i,b,e,_⟩<;>(rw [show FK _=3 from rfl,e] at hg;rw [BC,e];exact An (Ag rfl) d49 rfl (Ah hg rfl rfl))
 | p1=>
  rcases hp with e | ⟨i,b,e,_⟩<;>(rw [show FK _=3 from rfl,e] at hg;rw [BC,e];exact An (Ag rfl) d49 rfl (Ah hg rfl rfl))
 | pr=>
  rcases hp with e | ⟨i,b,e,_⟩<;>(rw [show FK _=3 from rfl,e] at hg;rw [BC,e];exact An (Ag rfl) d49 rfl (Ah hg rfl rfl))
noncomputable def BH (kn:List (Int×AV)) (o:Opd):AV:=.tup [BD o,A_ kn o,EP kn o]
theorem CE {kn:List (Int×AV)} (H:KnOk kn) (k:Nat) {σ:St} {kd:Nat} (h:σ[kd]?=some (.dI kn)) (mv:Bool) (p:Plc):Ca (k+2) (0,48) [.loc kd,.str (if mv then 164 else 90),Eg (Gj p),By p] σ (BH kn (.plc mv p)) σ:=by
 have hk:=Ld H k h p
 have go:∀ (s:Sr) (v:AV),Gj p=s→BC kn p=v→∀ {nv:Bool},KC v .none=some nv→(nv=true→v=.none)→Ca (k+2) (0,48) [.loc kd,.str (if mv then 164 else 90),Eg s,By p] σ (.tup [BD (.plc mv p),v,bif nv then BD (.plc mv p) else pick s (BD (.plc mv p)) (.tup [.str 87,Eg s,v])]) σ:=fun s v es ev {nv} hv h2=>by
  rw [ev] at hk
  have hq:A9 σ .Is v .none=some nv:=hv
  cases s<;>cases nv
  all_goals
   apply An (Ag rfl) d48 rfl
   apply Ah
   ·exact Am rfl hk
   ·exact rfl
   apply Ah
   ·exact rfl
   ·exact rfl
   apply Az
   apply Au
   apply Aa
   ·exact rfl
   apply Aa
   ·exact rfl
   apply Aa
   ·apply Fe
    ·first | exact B6 (Al rfl rfl hq) rfl rfl | exact Dy (Al rfl rfl hq) rfl
    ·exact rfl
    ·exact rfl
   ·exact rfl
 show Ca _ _ _ _ (.tup [_,BC kn p,Rw (Gj p) _ (BC kn p)]) _
 generalize hs:Gj p=zz2
 induction zz2 using Sr.casesOn with
 | number=>rcases En H hs with hv | ⟨i,hv,_⟩<;>rw [hv];exact go _ _ hs hv rfl (fun _=>rfl);exact go _ _ hs hv rfl (by intro e;(exact absurd e bQ))
 | truth=>rcases Fj H hs with hv | ⟨i,hv⟩<;>rw [hv];exact go _ _ hs hv rfl (fun _=>rfl);exact go _ _ hs hv rfl (by intro e;(exact absurd e bQ))
 | pair=>rcases Gi H hs with hv | ⟨i,b,hv,_⟩<;>rw [hv];exact go _ _ hs hv rfl (fun _=>rfl);exact go _ _ hs hv rfl (by intro e;(exact absurd e bQ))
end
section
noncomputable def LU:Sr→List Plc
 | .number=>[.n1,.n4,.p0]
 | .truth=>[.b2,.p1]
 | .pair=>[.pr]
theorem T4 {s:Sr} {p:Plc} (h:p∈LU s):Gj p=s:=by
 induction s using Sr.casesOn with
 | number=>
  rcases List.mem_cons.mp h with e | h
  ·rw [e];rfl
  rcases List.mem_cons.mp h with e | h
  ·rw [e];rfl
  rw [List.mem_singleton.mp h];rfl
 | truth=>
  rcases List.mem_cons.mp h with e | h
  ·rw [e];rfl
  rw [List.mem_singleton.mp h];rfl
 | pair=>rw [List.mem_singleton.mp h];rfl
theorem Kj (s:Sr):0 < ((LU s).map By).length∧((LU s).map By).length < 1000:=by cases s<;>exact ⟨by decide,by decide⟩
theorem Uo {σ:St} {s t:Nat} (S:SrcAt σ s) {L:List AV} (h:σ[t]?=some (.list L)) (hL:∀ a b:Int,L≠[.int a,.int b]):t≠s:=by
 obtain ⟨a,b,e,_⟩:=S
 rintro rfl
 rw [h] at e
 exact hL a b (AO.list.inj (oQ e))
theorem BN {σ:St} {s t:Nat} (S:SrcAt σ s) {L:List (Int×AV)} (h:σ[t]?=some (.dI L)):t≠s:=by
 obtain ⟨a,b,e,_⟩:=S
 rintro rfl
 rw [h] at e;cases e
theorem Jk {σ:St} {s:Nat} (S:SrcAt σ s):s < σ.length:=let ⟨_,_,e,_,_,_⟩:=S;Bc e
theorem Ck {σ σ':St} {s t:Nat} (S:SrcAt σ s) (h:σ.length≤t):t≠s:=Nat.ne_of_gt (Nat.lt_of_lt_of_le (Jk S) h)
theorem Ko {kn:List (Int×AV)} (k:Nat) (sr:Sr) {σ:St} {s:Nat} (S:SrcAt σ s) {o:Opd} (ho:o.ok) (os:DR o=sr) {v:Int} (v0:0≤v) (v1:v < 256) {ρ:At}
  (r1:look 211 ρ=some (.str (Ek sr))) (r2:look 212 ρ=some (.loc s)) (r3:look 225 ρ=some (BH kn o)) (r4:look 135 ρ=some (Eg sr)) (r5:look 236 ρ=some (.int v)) :
  ∃ o' ρ' σ',o'.ok∧DR o'=sr∧Xs (k+2) [.ifs (.bop .Or [(.cmp .Eq (.var 211) (.str 184)),(.cmp .Gt (.call 58 [.var 212,.int 4]) (.int 0))]) [.ret (.var 225)] [],
 .ret (.call 43 [.var 135,(.ite (.cmp .Eq (.var 211) (.str 171)) (.var 236) (.cmp .Gt (.var 236) (.int 99)))])] ρ σ (.ret (BH kn o'),ρ',σ')∧Sx s σ σ':=by
 obtain ⟨w,σ',h,_,_,X⟩:=Ct (k+1) S (top:=4) (by decide) (by decide)
 have hcall:=Am (Aa (Ac r2) (Aa (e:=.int 4) (args:=[]) rfl rfl)) h
 by_cases hw:0 < w
 ·induction sr using Sr.casesOn with
  | pair=>exact ⟨o,ρ,σ,ho,os,AJ (Dy (Al (Ac r1) rfl rfl) rfl) rfl (Az (Ac r3)),Sx.refl S⟩
  | number=>exact ⟨o,ρ,σ',ho,os,AJ (B6 (Al (Ac r1) rfl rfl) rfl (AY (Al hcall rfl rfl))) (Il (decide_eq_true hw)) (Az (Ac r3)),X⟩
  | truth=>exact ⟨o,ρ,σ',ho,os,AJ (B6 (Al (Ac r1) rfl rfl) rfl (AY (Al hcall rfl rfl))) (Il (decide_eq_true hw)) (Az (Ac r3)),X⟩
 ·induction sr using Sr.casesOn with
  | pair=>exact ⟨o,ρ,σ,ho,os,AJ (Dy (Al (Ac r1) rfl rfl) rfl) rfl (Az (Ac r3)),Sx.refl S⟩
  | number=>
   exact ⟨.cN v,ρ,σ',⟨v0,v1⟩,rfl,Ak (B6 (Al (Ac r1) rfl rfl) rfl (AY (Al hcall rfl rfl))) (Im (decide_eq_false hw)) (Az (Am (Aa (Ac r4) (Aa (Bl (Al (Ac r1) rfl rfl) rfl (Ac r5)) rfl)) rfl)),X⟩
  | truth=>
   exact ⟨.cB (decide (99 < v)),ρ,σ',trivial,rfl,Ak (B6 (Al (Ac r1) rfl rfl) rfl (AY (Al hcall rfl rfl))) (Im (decide_eq_false hw)) (Az (Am (Aa (Ac r4) (Aa (Bh (Al (Ac r1) rfl rfl) rfl (Al (Ac r5) rfl rfl)) rfl)) rfl)),X⟩
theorem Bt {kn:List (Int×AV)} (H:KnOk kn) (k:Nat) {σ:St} {s kd:Nat} (S:SrcAt σ s) (hk:σ[kd]?=some (.dI kn)) (sr:Sr) :
  ∃ o σ',o.ok∧DR o=sr∧Ca (k+3) (0,51) [.loc s,.loc kd,.str (Ek sr)] σ (BH kn o) σ'∧Sx s σ σ':=by
 have hkd:=BN S hk
 let σ₁:=σ++[AO.dS [(171,tI),(227,tB),(184,tP)]]
 let σ₂:=σ₁++[AO.list ((LU .number).map By)]
 let σ₃:=σ₂++[AO.list ((LU .truth).map By)]
 let σ₄:=σ₃++[AO.list ((LU .pair).map By)]
 let σ₅:=σ₄++[AO.dS [(171,.loc σ₁.length),(227,.loc σ₂.length),(184,.loc σ₃.length)]]
 let σ₆:=σ₅++[AO.list [.str 90,.str 164]]
 have x5:Ext σ σ₅:=(Ext.app1 σ _).trans ((Ext.app1 σ₁ _).trans ((Ext.app1 σ₂ _).trans ((Ext.app1 σ₃ _).trans (Ext.app1 σ₄ _))))
 have x6:Ext σ σ₆:=x5.trans (Ext.app1 _ _)
 have g5:σ₅[σ₄.length]?=some (.dS [(171,.loc σ₁.length),(227,.loc σ₂.length),(184,.loc σ₃.length)]):=Ad _ _
 have hkind:CM σ₁ (.loc σ.length) (.str (Ek sr))=some (Eg sr):=by rw [idx_dS (Ad σ _)];cases sr<;>rfl
 have hpl:∃ a,look (Ek sr) [(171,AV.loc σ₁.length),(227,.loc σ₂.length),(184,.loc σ₃.length)]=some (.loc a)∧σ₅[a]?=some (.list ((LU sr).map By))∧σ.length≤a:=by
  induction sr using Sr.casesOn with
  | number=>exact ⟨σ₁.length,rfl,Af (Af (Af (Ad _ _) _) _) _,Nat.le_of_lt (AG _ _)⟩
  | truth=>exact ⟨σ₂.length,rfl,Af (Af (Ad _ _) _) _,Nat.le_of_lt (Cn (AG _ _) _)⟩
  | pair=>exact ⟨σ₃.length,rfl,Af (Ad _ _) _,Nat.le_of_lt (Cn (Cn (AG _ _) _) _)⟩
 obtain ⟨a,ha1,ha2,ha3⟩:=hpl
 obtain ⟨w,σ₇,hw,h7,X7⟩:=F9 k (Sx.of x6 S).s (Ad σ₅ (.list [.str 90,.str 164])) (by decide:0 < 2) (by decide:2 < 1000) (Ck (σ':=σ) S x5.le)
 obtain ⟨p',σ₈,hp,h8,X8⟩:=F9 k X7.s (X7.x _ _ (Ck (σ':=σ) S ha3) (Af ha2 _)) (Kj sr).1 (Kj sr).2 (Ck (σ':=σ) S ha3)
 have X6:=Sx.of x6 S
 have Y8:=(X6.trans X7).trans X8
 obtain ⟨p,hp1,rfl⟩:=List.mem_map.mp hp
 have hps:=T4 hp1
 obtain ⟨mv,rfl⟩:∃ mv:Bool,w=.str (if mv then 164 else 90):=by
  rcases List.mem_cons.mp hw with e | hw
  ·exact ⟨false,e⟩
  ·exact ⟨true,List.mem_singleton.mp hw⟩
 have hi:=CE H k (Y8.x _ _ hkd hk) mv p
 rw [hps] at hi
 obtain ⟨v,σ₉,h9,v0,v1,X9⟩:=Ct (k+1) X8.s (top:=256) (by decide) (by decide)
 obtain ⟨o,ρ',σ',ho,os,hX,X10⟩:=Ko (kn:=kn) k sr X9.s (o:=.plc mv p) trivial hps v0 v1 (ρ:=[(212,.loc s),(137,.loc kd),(211,.str (Ek sr)),(106,fst0),(205,snd1),(135,Eg sr),(187,.loc σ₄.length),(225,BH kn (.plc mv p)),(236,.int v)]) rfl rfl rfl rfl rfl
 refine ⟨o,σ',ho,os,?_,(Y8.trans X9).trans X10⟩
 have hidx:CM σ₇ (.loc σ₄.length) (.str (Ek sr))=some (.loc a):=(idx_dS (X7.x _ _ (Ck (σ':=σ) S (Nat.le_of_lt (Cn (Cn (Cn (AG _ _) _) _) _))) (Af g5 _))).trans ha1
 exact An (Ag rfl) d51 rfl (Ah rfl rfl (Ah (As (Bw rfl rfl) rfl hkind) rfl (Ah (Bw rfl rfl) rfl (Ah (Am (Aa rfl (Aa (Am (Aa rfl (Aa (Ar rfl) rfl)) h7) (Aa rfl (Aa (Am (Aa rfl (Aa (As rfl rfl hidx) rfl)) h8) rfl)))) hi) rfl (Ah (Am rfl h9) rfl hX)))))
end
section
theorem d57:prog.defs (0,57)=some HS:=rfl
theorem d55:prog.defs (0,55)=some f__law_rvalue:=rfl
theorem Oj {kn:List (Int×AV)} (H:KnOk kn) (k:Nat) (σ:St) {op:Nat} (hop:op=30∨op=27∨op=29) {l r:Opd} (hl:l.ok) (hr:r.ok) (sl:DR l=.number) (sr:DR r=.number) :
  Ca (k+1) (0,57) [.str op,A_ kn l,A_ kn r] σ (Nz op (A_ kn l) (A_ kn r)) σ:=by
 rcases AM H hl sl with e | ⟨x,e,x0,x1⟩<;>rw [e]
 ·exact An (Ag rfl) d57 rfl (AJ (Dy (Al rfl rfl rfl) rfl) rfl rfl)
 rcases AM H hr sr with e | ⟨y,e,y0,y1⟩<;>rw [e]
 ·exact An (Ag rfl) d57 rfl (AJ (B6 (Al rfl rfl rfl) rfl (Dy (Al rfl rfl rfl) rfl)) rfl rfl)
 show Ca _ _ _ _ (Hk op x y) _
 rcases hop with rfl | rfl | rfl
 ·exact rfl
 ·have hm:=Fo σ (a:=x+y) (b:=256) (by decide)
  exact An (Ag rfl) d57 rfl (Ak rfl rfl (Az (Bh rfl rfl (Bl rfl rfl (Bj rfl rfl hm)))))
 ·by_cases h:y=0
  ·subst h;exact rfl
  ·have e:Hk 29 x y=.int (x / y):=if_neg h
   have hq:=LT σ (a:=x) (b:=y) (Int.lt_iff_le_and_ne.mpr ⟨y0,Ne.symm h⟩) (Int.lt_trans y1 (by decide))
   rw [e]
   exact An (Ag rfl) d57 rfl (Ak (B6 rfl rfl (B6 rfl rfl (AY (A0 rfl rfl (AY (Al rfl rfl rfl)))))) (Im (beq_eq_false_iff_ne.mpr h)) (Az (Bh rfl rfl (Bh rfl rfl (Bj rfl rfl hq)))))
noncomputable def T1 (kn:List (Int×AV)) (r:RV):AV:=.tup [G7 r,.str (Ek (Ee r)),Ii kn r,LR kn r]
theorem OP {x:AV} (h:x∈[AV.str 171,.str 227,.str 184]):∃ s:Sr,x=.str (Ek s):=by
 rcases List.mem_cons.mp h with e | h
 ·exact ⟨.number,e⟩
 rcases List.mem_cons.mp h with e | h
 ·exact ⟨.truth,e⟩
 exact ⟨.pair,List.mem_singleton.mp h⟩
noncomputable def TY:List PS:=f__law_rvalue.body.drop 3
theorem Ke {kn:List (Int×AV)} (H:KnOk kn) (k:Nat) {σ:St} {s kd:Nat} (S:SrcAt σ s) {o1 o2 o3 o4:Opd} (h1:o1.ok) (h2:o2.ok) (h3:o3.ok) (h4:o4.ok) (s1:DR o1=.number) (s2:DR o2=.number) (s3:DR o3=.truth) {v:Int} (v0:0≤v) (v1:v < 6) :
  ∃ r ρ' σ',r.ok∧Xs (k+3) TY [(212,.loc s),(137,.loc kd),(176,BH kn o1),(182,BH kn o2),(227,BH kn o3),(211,.str (Ek (DR o4))),(238,.int v),(188,BH kn o4)] σ (.ret (T1 kn r),ρ',σ')∧Sx s σ σ':=by
 have hv:v=0∨v=1∨v=2∨v=3∨v=4∨v=5:=by exact om18 v0 v1
 rcases hv with rfl | rfl | rfl | rfl | rfl | rfl
 ·exact ⟨.use o4,_,σ,h4,AJ rfl rfl (Az rfl),Sx.refl S⟩
 ·obtain ⟨x,σ',hx,hc,X⟩:=F9 (k+1) (Sx.of (Ext.app1 σ (.list [.str 27,.str 30,.str 29])) S).s (Ad σ (.list [.str 27,.str 30,.str 29])) (by decide:0 < 3) (by decide:3 < 1000) (Ck (σ':=σ) S (Nat.le_refl _))
  have hx':∃ op,x=.str op∧(op=30∨op=27∨op=29):=by
   rcases List.mem_cons.mp hx with e | hx
   ·exact ⟨_,e,.inr (.inl rfl)⟩
   rcases List.mem_cons.mp hx with e | hx
   ·exact ⟨_,e,.inl rfl⟩
   exact ⟨_,List.mem_singleton.mp hx,.inr (.inr rfl)⟩
  obtain ⟨op,rfl,hop⟩:=hx'
  have hs:=Oj H (k+2) σ' hop h1 h2 s1 s2
  have X':=(Sx.of (Ext.app1 σ (.list [.str 27,.str 30,.str 29])) S).trans X
  rcases hop with rfl | rfl | rfl
  ·exact ⟨.bin 30 o1 o2,_,σ',⟨.inl rfl,h1,h2,s1,s2⟩,Ak rfl rfl (AJ rfl rfl (Ah (Am (Aa rfl (Aa (Ar rfl) rfl)) hc) rfl (Ah rfl rfl (Ah rfl rfl (Az (Au (Aa rfl (Aa rfl (Aa (Am rfl hs) rfl))))))))),X'⟩
  ·exact ⟨.bin 27 o1 o2,_,σ',⟨.inr (.inl rfl),h1,h2,s1,s2⟩,Ak rfl rfl (AJ rfl rfl (Ah (Am (Aa rfl (Aa (Ar rfl) rfl)) hc) rfl (Ah rfl rfl (Ah rfl rfl (Az (Au (Aa rfl (Aa rfl (Aa (Am rfl hs) rfl))))))))),X'⟩
  ·exact ⟨.bin 29 o1 o2,_,σ',⟨.inr (.inr rfl),h1,h2,s1,s2⟩,Ak rfl rfl (AJ rfl rfl (Ah (Am (Aa rfl (Aa (Ar rfl) rfl)) hc) rfl (Ah rfl rfl (Ah rfl rfl (Az (Au (Aa rfl (Aa rfl (Aa (Am rfl hs) rfl))))))))),X'⟩
 ·have g1:=Ad σ (AO.list [A_ kn o1,A_ kn o3])
  have x1:=Ext.app1 σ (AO.list [A_ kn o1,A_ kn o3])
  have hI:A9 (σ++[.list [A_ kn o1,A_ kn o3]]) .In .none (.loc σ.length)=CP (BU (σ++[.list [A_ kn o1,A_ kn o3]]) 20) .none [A_ kn o1,A_ kn o3]:=by
   show (match (σ++[AO.list [A_ kn o1,A_ kn o3]])[σ.length]? with | some (.list l)=>_ | some (.dI l)=>_ | _=>_)=_
   rw [g1]
  have hV:Ev (k+3) (.ite (.cmp .In .none (.list [(.idx (.var 176) (.int 1)),(.idx (.var 227) (.int 1))])) .none (.tup [(.idx (.var 176) (.int 1)),(.idx (.var 227) (.int 1))])) [(212,.loc s),(137,.loc kd),(176,BH kn o1),(182,BH kn o2),(227,BH kn o3),(211,.str (Ek (DR o4))),(238,.int 2),(188,BH kn o4)] σ (II (A_ kn o1) (A_ kn o3)) (σ++[.list [A_ kn o1,A_ kn o3]]):=by
   have e2:Ev (k+3) (.list [(.idx (.var 176) (.int 1)),(.idx (.var 227) (.int 1))]) [(212,.loc s),(137,.loc kd),(176,BH kn o1),(182,BH kn o2),(227,BH kn o3),(211,.str (Ek (DR o4))),(238,.int 2),(188,BH kn o4)] σ (.loc σ.length) (σ++[.list [A_ kn o1,A_ kn o3]]):=Ar rfl
   generalize σ++[AO.list [A_ kn o1,A_ kn o3]]=σ1 at *
   unfold BH at *
   rcases AM H h1 s1 with e | ⟨x,e,_⟩<;>rcases Bn H s3 with e' | ⟨y,e'⟩<;>rw [e,e'] at hI ⊢<;>rw [e,e'] at e2
   ·exact Bl (Al rfl e2 hI) rfl rfl
   ·exact Bl (Al rfl e2 hI) rfl rfl
   ·exact Bl (Al rfl e2 hI) rfl rfl
   ·exact Bh (Al rfl e2 hI) rfl rfl
  exact ⟨.tup o1 o3,_,_,⟨h1,h3,s1,s3⟩,Ak rfl rfl (Ak rfl rfl (AJ rfl rfl (Ah hV rfl (Az rfl)))),Sx.of x1 S⟩
 ·have hV:Ev (k+3) (.ite (.cmp .Is (.idx (.var 227) (.int 1)) .none) .none (.not (.idx (.var 227) (.int 1)))) [(212,.loc s),(137,.loc kd),(176,BH kn o1),(182,BH kn o2),(227,BH kn o3),(211,.str (Ek (DR o4))),(238,.int 3),(188,BH kn o4)] σ (NS (A_ kn o3)) σ:=by
   unfold BH
   rcases Bn H s3 with e' | ⟨y,e'⟩<;>rw [e']
   ·exact Bl rfl rfl rfl
   ·exact Bh rfl rfl rfl
  exact ⟨.neg o3,_,_,⟨h3,s3⟩,Ak rfl rfl (Ak rfl rfl (Ak rfl rfl (AJ rfl rfl (Az (Au (Aa rfl (Aa rfl (Aa hV rfl)))))))),Sx.refl S⟩
 ·exact ⟨.box o1,_,σ,⟨h1,s1⟩,Ak rfl rfl (Ak rfl rfl (Ak rfl rfl (Ak rfl rfl (AJ rfl rfl rfl)))),Sx.refl S⟩
 ·obtain ⟨x,σ',hx,hc,X⟩:=F9 (k+1) (Sx.of (Ext.app1 σ (.list [G7 .rf,G7 .dc])) S).s (Ad σ (.list [G7 .rf,G7 .dc])) (by decide:0 < 2) (by decide:2 < 1000) (Ck (σ':=σ) S (Nat.le_refl _))
  have X':=(Sx.of (Ext.app1 σ (.list [G7 .rf,G7 .dc])) S).trans X
  rcases List.mem_cons.mp hx with e | hx
  ·rw [e] at hc
   exact ⟨.rf,_,σ',trivial,Ak rfl rfl (Ak rfl rfl (Ak rfl rfl (Ak rfl rfl (Ak rfl rfl (Ah (Am (Aa rfl (Aa (Ar rfl) rfl)) hc) rfl (Az rfl)))))),X'⟩
  ·rw [List.mem_singleton.mp hx] at hc
   exact ⟨.dc,_,σ',trivial,Ak rfl rfl (Ak rfl rfl (Ak rfl rfl (Ak rfl rfl (Ak rfl rfl (Ah (Am (Aa rfl (Aa (Ar rfl) rfl)) hc) rfl (Az rfl)))))),X'⟩
theorem JT {kn:List (Int×AV)} (H:KnOk kn) (k:Nat) {σ:St} {s kd:Nat} (S:SrcAt σ s) (hk:σ[kd]?=some (.dI kn)) :
  ∃ r σ',r.ok∧Ca (k+4) (0,55) [.loc s,.loc kd] σ (T1 kn r) σ'∧Sx s σ σ':=by
 have hkd:=BN S hk
 obtain ⟨o1,σ₁,h1,s1,c1,X1⟩:=Bt H k S hk .number
 obtain ⟨o2,σ₂,h2,s2,c2,X2⟩:=Bt H k X1.s (X1.x _ _ hkd hk) .number
 have Y2:=X1.trans X2
 obtain ⟨o3,σ₃,h3,s3,c3,X3⟩:=Bt H k Y2.s (Y2.x _ _ hkd hk) .truth
 have Y3:=Y2.trans X3
 have X4:=Sx.of (Ext.app1 σ₃ (.list [.str 171,.str 227,.str 184])) Y3.s
 obtain ⟨x,σ₅,hx,c5,X5⟩:=F9 (k+1) X4.s (Ad σ₃ (.list [.str 171,.str 227,.str 184])) (by decide:0 < 3) (by decide:3 < 1000) (Ck (σ':=σ) Y3.s (Nat.le_refl _))
 obtain ⟨sr,rfl⟩:=OP hx
 have Y5:=(Y3.trans X4).trans X5
 obtain ⟨v,σ₆,c6,v0,v1,X6⟩:=Ct (k+2) Y5.s (top:=6) (by decide) (by decide)
 have Y6:=Y5.trans X6
 obtain ⟨o4,σ₇,h4,s4,c7,X7⟩:=Bt H k Y6.s (Y6.x _ _ hkd hk) sr
 have Y7:=Y6.trans X7
 subst s4
 obtain ⟨r,ρ',σ',hr,hX,X8⟩:=Ke (kd:=kd) H k Y7.s h1 h2 h3 h4 s1 s2 s3 v0 v1
 exact ⟨r,σ',hr,An (Ag rfl) d55 rfl (Ah (Au (Aa (Am rfl c1) (Aa (Am rfl c2) rfl))) rfl (Ah (Au (Aa (Am rfl c3) (Aa (Am (Aa rfl (Aa (Ar rfl) rfl)) c5) rfl))) rfl (Ah (Au (Aa (Am rfl c6) (Aa (Am rfl c7) rfl))) rfl hX))),Y7.trans X8⟩
end
section
theorem d45:prog.defs (0,45)=some GS:=rfl
noncomputable def rows4:List (Int×Int):=[(1,5),(2,6),(1,7),(3,5)]
noncomputable def D8 (v:AV):List AV:=match v with
 | .int i=>(rows4.filter fun p=>p.1==i).map fun p=>.int p.2
 | _=>[]
theorem KF (i:Int):∀ rows:List (Int×Int),((rows.filter fun p=>p.1==i).map fun p=>AV.int p.2)[0]?=(Ec rows i).map AV.int
 | []=>rfl
 | p::r=>by
  unfold Ec
  by_cases h:(p.1==i)=true
  ·rw [if_pos h,List.filter_cons_of_pos (p:=fun p:Int×Int=>p.1==i) h];rfl
  ·rw [if_neg h,List.filter_cons_of_neg (p:=fun p:Int×Int=>p.1==i) h];exact KF i r
noncomputable def R8 (v:AV):AV→Option AV:=fun x=>match x,v with
 | .tup [.int a,b],.int i=>if a==i then some b else none
 | _,_=>none
theorem KE (v:AV):((rows4.map fun p=>(AV.int p.1,p.2)).map E6).filterMap (R8 v)=D8 v:=by
 induction v using AV.casesOn with
 | int i=>
  show _=(rows4.filter fun p=>p.1==i).map fun p=>AV.int p.2
  generalize rows4=rows
  induction rows with
  | nil=>rfl
  | cons p r ih=>
   rw [List.map_cons,List.map_cons,List.filterMap_cons]
   by_cases h:(p.1==i)=true
   ·rw [List.filter_cons_of_pos (p:=fun p:Int×Int=>p.1==i) h,show R8 (.int i) (E6 (.int p.1,p.2))=some (.int p.2) from if_pos h]
    exact congrArg _ ih
   ·rw [List.filter_cons_of_neg (p:=fun p:Int×Int=>p.1==i) h,show R8 (.int i) (E6 (.int p.1,p.2))=none from if_neg h]
    exact ih
 | _=>rfl
theorem N5 (v:AV):(D8 v).length≤4:=by
 rw [←KE v];exact Nat.le_trans (List.length_filterMap_le _ _) (Nat.le_refl 4)
theorem IU {σ:St} {a:Nat} {l:List AV} (h:σ[a]?=some (.list l)):CM σ (.loc a) (.int 0)=l[0]?:=by
 show (match σ[a]? with | some (.list l)=>_ | some (.dI l)=>_ | _=>_)=_
 rw [h];exact if_pos ⟨by decide,by decide⟩
theorem Sq {kn:List (Int×AV)} (H:KnOk kn) (k:Nat) {σ:St} {o:Opd} (ho:o.ok) (so:DR o=.number) {ρ:At} (r1:look 132 ρ=some (BH kn o)) (r2:look 202 ρ=some (.tup ((rows4.map fun p=>(AV.int p.1,p.2)).map E6))) :
  Ev k (.lcomp (.var 76) (.many [236,76]) (.var 202) [(.cmp .Eq (.var 236) (.idx (.var 132) (.int 1)))]) ρ σ (.loc σ.length) (σ++[.list (D8 (A_ kn o))]):=by
 unfold BH at r1
 have hc:=BT (body:=cB k (.many [236,76]) ρ (.var 76) [(.cmp .Eq (.var 236) (.idx (.var 132) (.int 1)))]) (d:=false) (src:=.tup ((rows4.map fun p=>(AV.int p.1,p.2)).map E6)) (L:=(rows4.map fun p=>(AV.int p.1,p.2)).map E6) (σ:=σ) (R8 (A_ kn o)) (by decide) (fun i=>rfl) (fun x hx=>by
  obtain ⟨q,hq,rfl⟩:=List.mem_map.mp hx
  obtain ⟨p,_,rfl⟩:=List.mem_map.mp hq
  have l1:=Ab (y:=76) (v:=.int p.2) (Ab (y:=236) (v:=.int p.1) r1 rfl) rfl
  have l2:=Ab (y:=76) (v:=.int p.2) (Aj 236 (.int p.1) ρ) rfl
  rcases AM H ho so with e | ⟨i,e,_⟩<;>rw [e] at l1 ⊢
  ·exact Dq rfl (HW (Al (Ac l2) (As (Ac l1) rfl rfl) rfl) rfl)
  ·have hE:=HW (k:=k) (Al (σ:=σ) (a:=.var 236) (b:=.idx (.var 132) (.int 1)) (Ac l2) (As (Ac l1) rfl rfl) (show A9 σ .Eq (.int p.1) (.int i)=some (p.1==i) from rfl)) rfl
   show _=some (if p.1==i then some (AV.int p.2) else none,σ)
   cases hb:(p.1==i)<;>rw [hb] at hE
   ·exact Dq rfl hE
   ·exact Bp rfl hE (Ac (Aj _ _ _)))
 rw [KE] at hc
 exact BO (Ac r2) rfl hc
theorem Sp {kn:List (Int×AV)} (H:KnOk kn) (k:Nat) {σ:St} {t:Opd} (st:DR t=.truth) {ρ:At} (hl:look 227 ρ=some (BH kn t)):Ev k (.ite (.cmp .Is (.idx (.var 227) (.int 1)) (.bool true)) (.int 5) .none) ρ σ (oi (Ij kn (.asr t))) σ:=by
 unfold BH at hl
 show Ev _ _ _ _ (oi (match A_ kn t with | .bool true=>some 5 | _=>none)) _
 rcases Bn H st with e | ⟨b,e⟩<;>rw [e] at hl ⊢
 ·exact Bh (Al (As (Ac hl) rfl rfl) rfl rfl) rfl rfl
 ·cases b
  ·exact Bh (Al (As (Ac hl) rfl rfl) rfl rfl) rfl rfl
  ·exact Bl (Al (As (Ac hl) rfl rfl) rfl rfl) rfl rfl
theorem IV (i:Int):(D8 (.int i))[0]?=(Ec rows4 i).map .int:=KF i rows4
theorem Sh {kn:List (Int×AV)} (H:KnOk kn) (k:Nat) {σ:St} {o:Opd} (ho:o.ok) (so:DR o=.number) {h:Nat} (g1:σ[h]?=some (.list (D8 (A_ kn o)))) {ρ:At} (r1:look 132 ρ=some (BH kn o)) (r2:look 121 ρ=some (.loc h)) :
  ∃ σ',Ev k (.ite (.cmp .Is (.idx (.var 132) (.int 1)) .none) .none (.idx (.bin .Add (.var 121) (.list [.int 8])) (.int 0))) ρ σ (oi (Ij kn (.sw o rows4 (some 8)))) σ'∧Ext σ σ':=by
 show ∃ σ',Ev k _ _ _ (oi (match A_ kn o with | .int i=>T8 (Ec rows4 i) (some 8) | _=>none)) _∧_
 unfold BH at r1
 have hlen:=N5 (A_ kn o)
 rcases AM H ho so with e | ⟨i,e,_⟩<;>rw [e] at g1 hlen r1 ⊢
 ·exact ⟨σ,Bl (Al (As (Ac r1) rfl rfl) rfl rfl) rfl rfl,Ext.refl _⟩
 ·have hh:=IV i
  have hb:=EI (Af g1 _) (Ad σ (.list [.int 8])) (Nat.le_trans (Nat.add_le_add_right hlen 1) (by decide))
  have g3:=Ad (σ++[AO.list [.int 8]]) (AO.list (D8 (.int i)++[.int 8]))
  refine ⟨_,Bh (Al (As (Ac r1) rfl rfl) rfl rfl) rfl (As (Bj (Ac r2) (Ar rfl) hb) rfl ((IU g3).trans ?_)),(Ext.app1 _ _).trans (Ext.app1 _ _)⟩
  show _=some (oi (T8 (Ec rows4 i) (some 8)))
  generalize D8 (.int i)=L at hh
  cases hq:Ec rows4 i<;>rw [hq] at hh<;>cases L with
  | nil=>first | rfl | (first | exact Ae hh | exact absurd hh bQ | (obtain ⟨rfl,rfl⟩:=pQ (oQ hh)) | obtain rfl:=oQ hh | subst hh | cases hh)
  | cons a l=>first | ((first | exact Ae hh | exact absurd hh bQ | (obtain ⟨rfl,rfl⟩:=pQ (oQ hh)) | obtain rfl:=oQ hh | subst hh | cases hh);done) | (cases hh;rfl)
theorem Sj {kn:List (Int×AV)} (H:KnOk kn) (k:Nat) {σ:St} {o:Opd} (ho:o.ok) (so:DR o=.number) {h:Nat} (g1:σ[h]?=some (.list (D8 (A_ kn o)))) {ρ:At} (r1:look 132 ρ=some (BH kn o)) (r2:look 121 ρ=some (.loc h)) :
  ∃ σ',Ev k (.ite (.bop .Or [(.cmp .Is (.idx (.var 132) (.int 1)) .none),(.cmp .Eq (.var 121) (.list []))]) .none (.idx (.var 121) (.int 0))) ρ σ (oi (Ij kn (.sw o rows4 none))) σ'∧Ext σ σ':=by
 show ∃ σ',Ev k _ _ _ (oi (match A_ kn o with | .int i=>T8 (Ec rows4 i) none | _=>none)) _∧_
 unfold BH at r1
 rcases AM H ho so with e | ⟨i,e,_⟩<;>rw [e] at g1 r1 ⊢
 ·exact ⟨σ,Bl (Dy (Al (As (Ac r1) rfl rfl) rfl rfl) rfl) rfl rfl,Ext.refl _⟩
 ·have hh:=IV i
  refine ⟨_,?_,Ext.app1 σ (AO.list [])⟩
  show Ev k _ _ _ (oi (T8 (Ec rows4 i) none)) _
  have g5:=Af g1 [AO.list []]
  have g6:=Ad σ (AO.list [])
  have hI:∀ {v:AV} {σ':St},Ev k (.bop .Or [.cmp .Eq (.var 121) (.list [])]) ρ σ v σ'→Ev k (.bop .Or [.cmp .Is (.idx (.var 132) (.int 1)) .none,.cmp .Eq (.var 121) (.list [])]) ρ σ v σ':=fun h=>B6 (Al (As (Ac r1) rfl rfl) rfl rfl) rfl h
  generalize D8 (.int i)=L at hh g5
  have hq:A9 (σ++[AO.list []]) .Eq (.loc h) (.loc σ.length)=some (L.length==0):=by
   show Ig _ (σ++[AO.list []])[h]? (σ++[AO.list []])[σ.length]?=_
   rw [g5,g6]
   cases L<;>rfl
  cases hq2:Ec rows4 i<;>rw [hq2] at hh<;>cases L with
  | nil=>first | exact Bl (hI (AY (Al (Ac r2) (Ar rfl) hq))) rfl rfl | (first | exact Ae hh | exact absurd hh bQ | (obtain ⟨rfl,rfl⟩:=pQ (oQ hh)) | obtain rfl:=oQ hh | subst hh | cases hh)
  | cons a l=>first | ((first | exact Ae hh | exact absurd hh bQ | (obtain ⟨rfl,rfl⟩:=pQ (oQ hh)) | obtain rfl:=oQ hh | subst hh | cases hh);done) | exact Bh (hI (AY (Al (Ac r2) (Ar rfl) hq))) rfl (As (Ac r2) rfl ((IU g5).trans hh))
theorem Ce {σ:St} {a:Nat} {L:List AV} (h:σ[a]?=some (.list L)):AH σ (.loc a)=false:=by
 show (match σ[a]? with | some (.dI _)=>true | _=>false)=false
 rw [h]
theorem KQ {kn:List (Int×AV)} (k:Nat) {σ:St} {a:Nat} {ops:List Opd} (h:σ[a]?=some (.list (ops.map (BH kn)))) (hl:ops.length < 100) {ρ:At} (r1:look 210 ρ=some (.loc a)) {n:Nat} {q:Opd→AV} (hq:∀ o σ,CM σ (BH kn o) (.int n)=some (q o)) :
  Ev k (.blt .tuple [(.lcomp (.idx (.var 176) (.int n)) (.one 176) (.var 210) [])]) ρ σ (.tup (ops.map q)) (σ++[.list (ops.map q)]):=by
 have hc:=Gz (p:=BH kn) (q:=q) (l:=ops) (body:=cB k (.one 176) ρ (.idx (.var 176) (.int n)) []) h (Nat.lt_trans hl (by decide)) (fun o _=>Bp rfl rfl (As (Ac (Aj _ _ _)) rfl (hq o σ)))
 exact Bx (Aa (BO (Ac r1) (Ce h) hc) rfl) (DX (Ad _ _) (by rw [List.length_map];exact Nat.le_of_lt (Nat.lt_trans hl (by decide))))
noncomputable def endsL (o t:Opd) (ops:List Opd) (g:Plc):List EO:=[.sw o rows4 (some 8),.sw o rows4 none,.asr t,.call ops g (some 5),.call ops g none,.drop g,.goto,.ret]
set_option maxHeartbeats 1000000 in
theorem Fz {kn:List (Int×AV)} (H:KnOk kn) (k:Nat) {σ:St} {o t:Opd} (ho:o.ok) (so:DR o=.number) (ht:t.ok) (st:DR t=.truth) {a:Nat} {ops:List Opd} (hops:∀ o∈ops,o.ok) (h:σ[a]?=some (.list (ops.map (BH kn)))) (hl:ops.length < 100) (g:Plc) :
  ∃ b vs σ',Ca (k+1) (0,45) [BH kn o,BH kn t,.loc a,By g] σ (.loc b) σ'∧Ext σ σ'∧σ'[b]?=some (.list vs)∧vs.length=8∧EndsAt kn σ' (endsL o t ops g) vs:=by
 have e1:=Sq H k (σ:=σ) ho so (ρ:=[(132,BH kn o),(227,BH kn t),(210,.loc a),(115,By g),(202,.tup ((rows4.map fun p=>(AV.int p.1,p.2)).map E6)),(163,.none)]) rfl rfl
 have g1:=Ad σ (AO.list (D8 (A_ kn o)))
 have y1:=Ext.app1 σ (AO.list (D8 (A_ kn o)))
 generalize σ++[AO.list (D8 (A_ kn o))]=σ₁ at e1 g1 y1
 obtain ⟨σ₂,e2,x2⟩:=Sh H k ho so g1 (ρ:=[(132,BH kn o),(227,BH kn t),(210,.loc a),(115,By g),(202,.tup ((rows4.map fun p=>(AV.int p.1,p.2)).map E6)),(163,.none),(121,.loc σ.length)]) rfl rfl
 obtain ⟨σ₃,e3,x3⟩:=Sj H k ho so (x2 _ _ g1) (ρ:=[(132,BH kn o),(227,BH kn t),(210,.loc a),(115,By g),(202,.tup ((rows4.map fun p=>(AV.int p.1,p.2)).map E6)),(163,.none),(121,.loc σ.length),(219,oi (Ij kn (.sw o rows4 (some 8))))]) rfl rfl
 have y3:=y1.trans (x2.trans x3)
 let ρ:At:=[(132,BH kn o),(227,BH kn t),(210,.loc a),(115,By g),(202,.tup ((rows4.map fun p=>(AV.int p.1,p.2)).map E6)),(163,.none),(121,.loc σ.length),(219,oi (Ij kn (.sw o rows4 (some 8)))),(178,oi (Ij kn (.sw o rows4 none))),(122,oi (Ij kn (.asr t)))]
 have p1:=KQ k (y3 _ _ h) hl (ρ:=ρ) rfl (n:=0) (q:=BD) (fun o σ=>rfl)
 have p2:=KQ k (Ext.app1 σ₃ (.list (ops.map BD)) _ _ (y3 _ _ h)) hl (ρ:=ρ) rfl (n:=2) (q:=EP kn) (fun o σ=>rfl)
 have y4:=y3.trans ((Ext.app1 σ₃ (.list (ops.map BD))).trans (Ext.app1 _ (.list (ops.map (EP kn)))))
 generalize σ₃++[AO.list (ops.map BD)]++[AO.list (ops.map (EP kn))]=σ₄ at p2 y4
 let s1:=σ₄++[AO.list [.int 5,.int 6,.int 7,.int 8]]
 let s2:=s1++[AO.list [.int 5,.int 6,.int 7]]
 let s3:=s2++[AO.list [.int 5]]
 let s4:=s3++[AO.list [.int 5]]
 let s5:=s4++[AO.list []]
 let s6:=s5++[AO.list [.int 6]]
 let s7:=s6++[AO.list [.int 6]]
 let s8:=s7++[AO.list []]
 let row:EO→Nat→AV:=fun e bl=>.tup [B7 (EG BD e),oi (Ij kn e),B7 (EG (EP kn) e),.loc bl,oi (Tv e)]
 let vs:List AV:=[row (.sw o rows4 (some 8)) σ₄.length,row (.sw o rows4 none) s1.length,row (.asr t) s2.length,row (.call ops g (some 5)) s3.length,row (.call ops g none) s4.length,row (.drop g) s5.length,row .goto s6.length,row .ret s7.length]
 have z:∀ {i:Nat} {o:AO},s8[i]?=some o→(s8++[AO.list vs])[i]?=some o:=fun h=>Af h _
 have hg0:∀ ρ':At,look 115 ρ'=some (By g)→∀ σ,Ev k (.idx (.var 115) (.int 0)) ρ' σ (.int (FK g)) σ:=fun ρ' hl σ=>As (Ac hl) rfl (by cases g<;>rfl)
 refine ⟨s8.length,vs,s8++[AO.list vs],?_,?_,Ad _ _,rfl,?_⟩
 ·refine An (Ag rfl) d45 rfl (Ah rfl rfl (Ah e1 rfl (Ah e2 rfl (Ah e3 rfl (Ah (Sp H k st rfl) rfl (Ah (Au (Aa p1 (Aa p2 rfl))) rfl (Az (Ar ?_))))))))
  refine Aa (Au (Aa rfl (Aa rfl (Aa rfl (Aa (Ar rfl) (Aa rfl rfl)))))) ?_
  refine Aa (Au (Aa rfl (Aa rfl (Aa rfl (Aa (Ar rfl) (Aa rfl rfl)))))) ?_
  refine Aa (Au (Aa rfl (Aa rfl (Aa rfl (Aa (Ar rfl) (Aa rfl rfl)))))) ?_
  refine Aa (Au (Aa rfl (Aa rfl (Aa rfl (Aa (Ar rfl) (Aa (hg0 _ rfl _) rfl)))))) ?_
  refine Aa (Au (Aa rfl (Aa rfl (Aa rfl (Aa (Ar rfl) (Aa (hg0 _ rfl _) rfl)))))) ?_
  refine Aa (Au (Aa rfl (Aa rfl (Aa rfl (Aa (Ar rfl) (Aa (hg0 _ rfl _) rfl)))))) ?_
  refine Aa (Au (Aa rfl (Aa rfl (Aa rfl (Aa (Ar rfl) (Aa rfl rfl)))))) ?_
  exact Aa (Au (Aa rfl (Aa rfl (Aa rfl (Aa (Ar rfl) (Aa rfl rfl)))))) rfl
 ·exact y4.trans ((Ext.app1 _ _).trans ((Ext.app1 s1 _).trans ((Ext.app1 s2 _).trans ((Ext.app1 s3 _).trans ((Ext.app1 s4 _).trans ((Ext.app1 s5 _).trans ((Ext.app1 s6 _).trans ((Ext.app1 s7 _).trans (Ext.app1 s8 _)))))))))
 ·exact .cons ⟨_,z (Af (Af (Af (Af (Af (Af (Af (Ad _ _) _) _) _) _) _) _) _)⟩ ⟨ho,so,by decide⟩ (.cons ⟨_,z (Af (Af (Af (Af (Af (Af (Ad _ _) _) _) _) _) _) _)⟩ ⟨ho,so,by decide⟩
   (.cons ⟨_,z (Af (Af (Af (Af (Af (Ad _ _) _) _) _) _) _)⟩ ⟨ht,st⟩ (.cons ⟨_,z (Af (Af (Af (Af (Ad _ _) _) _) _) _)⟩ ⟨hops,hl⟩ (.cons ⟨_,z (Af (Af (Af (Ad _ _) _) _) _)⟩ ⟨hops,hl⟩
   (.cons ⟨_,z (Af (Af (Ad _ _) _) _)⟩ trivial (.cons ⟨_,z (Af (Ad _ _) _)⟩ trivial (.cons ⟨_,z (Ad _ _)⟩ trivial .nil)))))))
end
section
noncomputable abbrev KP:=List (Int×Int)
noncomputable def AW (K:KP):List (Int×AV):=K.map fun p=>(p.1,.int p.2)
noncomputable abbrev Rb (K:KP):Prop:=(K.map (·.1)).Nodup
theorem Dw {K:KP} (h:Rb K):Nd (AW K):=by unfold Nd AW;rw [List.map_map];exact h
noncomputable def KM (x:Int) (K:KP):KP:=K.filter fun p=>!(p.1==x || p.2==x)
noncomputable def ExtB (a:Nat) (σ σ':St):Prop:=∀ (i:Nat) (o:AO),i≠a→σ[i]?=some o→σ'[i]?=some o
theorem ExtB.refl (a:Nat) (σ:St):ExtB a σ σ:=fun _ _ _ e=>e
theorem ExtB.trans {a:Nat} {x y z:St} (h:ExtB a x y) (g:ExtB a y z):ExtB a x z:=fun i o n e=>g i o n (h i o n e)
theorem ExtB.ext {a:Nat} {x y z:St} (h:ExtB a x y) (g:Ext y z):ExtB a x z:=fun i o n e=>g i o (h i o n e)
theorem ExtB.of {a:Nat} {x y:St} (h:Ext x y):ExtB a x y:=fun i o _ e=>h i o e
theorem ExtB.set {a:Nat} (σ:St) (o:AO):ExtB a σ (σ.set a o):=fun i q n e=>AR e (Ne.symm n)
theorem ExtB.to {a:Nat} {x y z:St} (h:ExtB a y z) (E:Ext x y) (hx:x.length≤a):Ext x z:=fun i o e=>h i o (Nat.ne_of_lt (Nat.lt_of_lt_of_le (Bc e) hx)) (E i o e)
theorem d111f:prog.defs (0,111)=some KN:=rfl
theorem d112:prog.defs (0,112)=some EC:=rfl
theorem OD (g:Option Int) (K:KP):wo g (AW K)=AW (K.filter fun p=>!(g==some p.1)):=by
 unfold wo AW;rw [List.filter_map];rfl
theorem Cq (K:KP):(AW K).length=K.length:=List.length_map _
noncomputable def Bs (x:Int) (K:KP):List Int:=(K.filter fun p=>p.2==x).map (·.1)
theorem Sn (k:Nat) {σ:St} {d:Nat} {K:KP} (hN:Rb K) (hd:σ[d]?=some (.dI (AW K))) (hl:K.length < 100000) {x:Int} {ρ:At} (r1:look 137 ρ=some (.loc d)) (r2:look 153 ρ=some (.int x)) :
  Ev k (.lcomp (.var 176) (.one 176) (.var 137) [(.cmp .Eq (.idx (.var 137) (.var 176)) (.var 153))]) ρ σ (.loc σ.length) (σ++[.list ((Bs x K).map .int)]):=by
 have hc:=BT (body:=cB k (.one 176) ρ (.var 176) [(.cmp .Eq (.idx (.var 137) (.var 176)) (.var 153))]) (d:=true) (src:=.loc d) (L:=(AW K).map fun p=>.int p.1) (σ:=σ)
  (fun v=>match v with
   | .int i=>if (Ao i (AW K)).any (fun w=>match w with
     | .int b=>b==x
     | _=>false) then some v else none
   | _=>none) (by rw [List.length_map,Cq];exact hl) (Gm hd) (fun v hv=>by
  obtain ⟨q,hq,rfl⟩:=List.mem_map.mp hv
  obtain ⟨p,hp,rfl⟩:=List.mem_map.mp hq
  have hlk:Ao p.1 (AW K)=some (.int p.2):=lookI_mem (Dw hN) hq
  have l0:=Aj 176 (.int p.1) ρ
  have hE:=HW (k:=k) (Al (σ:=σ) (a:=.idx (.var 137) (.var 176)) (b:=.var 153) (As (Ac (Ab (y:=176) (v:=.int p.1) r1 rfl)) (Ac l0) ((idx_dI hd _).trans hlk)) (Ac (Ab r2 rfl)) (show A9 σ .Eq (.int p.2) (.int x)=some (p.2==x) from rfl)) rfl
  show _=some (if (Ao p.1 (AW K)).any _=true then _ else _,σ)
  rw [hlk]
  show _=some (if (p.2==x)=true then _ else _,σ)
  cases hb:(p.2==x)<;>rw [hb] at hE
  ·exact Dq rfl hE
  ·exact Bp rfl hE (Ac l0))
 have hm:∀ L:KP,(∀ p∈L,p∈K)→((AW L).map fun p=>AV.int p.1).filterMap (fun v=>match v with
   | .int i=>if (Ao i (AW K)).any (fun w=>match w with
     | .int b=>b==x
     | _=>false) then some v else none
   | _=>none)=(Bs x L).map .int:=by
  intro L
  induction L with
  | nil=>intro _;rfl
  | cons p r ih=>
   intro hp
   have ih':=ih fun q hq=>hp q (.tail _ hq)
   have hlk:Ao p.1 (AW K)=some (.int p.2):=lookI_mem (Dw hN) (List.mem_map.mpr ⟨p,hp p (.head _),rfl⟩)
   show ((AV.int p.1)::(AW r).map fun p=>AV.int p.1).filterMap _=_
   rw [List.filterMap_cons]
   simp only [hlk,Option.any_some]
   unfold Bs at ih' ⊢
   cases hb:(p.2==x)
   ·rw [List.filter_cons_of_neg (p:=fun p:Int×Int=>p.2==x) (by rw [hb];exact bQ)]
    exact ih'
   ·rw [List.filter_cons_of_pos (p:=fun p:Int×Int=>p.2==x) hb]
    exact congrArg _ ih'
 rw [hm K fun p hp=>hp] at hc
 exact Na (Ac r1) hd rfl hc
theorem NT {σ:St} {a:Nat} {l:List (Int×AV)} (h:σ[a]?=some (.dI l)) (hl:l.length≤1000000) {k:Int} {v:AV} (hv:Ao k l=some v):Db true 4 (.loc a) [.int k] σ=some (v,σ.set a (.dI (DV k l))):=by
 exact (FQ h _ _).trans ((if_pos hl).trans (congrArg (MC a l σ k none) hv))
structure FgI (d ks:Nat) (σ₀:St) (K:KP) (x:Int) (i:Nat) (ρ:At) (σ:St):Prop where
 r:look 137 ρ=some (.loc d)
 e:ExtB d σ₀ σ
 s:σ[d]?=some (.dI (AW (K.filter fun p=>!((Bs x K).take i).contains p.1)))
theorem CF (k:Nat) {σ:St} {d:Nat} {K:KP} (hN:Rb K) (hd:σ[d]?=some (.dI (AW K))) (hl:K.length < 100000) (x:Int) :
  ∃ σ',Ca (k+1) (0,111) [.loc d,.int x] σ .none σ'∧ExtB d σ σ'∧σ'[d]?=some (.dI (AW (KM x K))):=by
 have hle:(AW K).length≤1000000:=by rw [Cq];exact Nat.le_of_lt (Nat.lt_trans hl (by decide))
 obtain ⟨w,h1⟩:=IM hd hle x .none
 rw [G9 (Dw hN),OD] at h1
 have g1:(σ.set d (.dI (AW (K.filter fun p=>!(some x==some p.1)))))[d]?=some (.dI (AW (K.filter fun p=>!(some x==some p.1)))):=AQ hd
 have x1:=ExtB.set (a:=d) σ (.dI (AW (K.filter fun p=>!(some x==some p.1))))
 have hN1:Rb (K.filter fun p=>!(some x==some p.1)):=List.Nodup.sublist (List.Sublist.map _ List.filter_sublist) hN
 have hl1:(K.filter fun p=>!(some x==some p.1)).length < 100000:=Nat.lt_of_le_of_lt (List.length_filter_le _ _) hl
 generalize hK1:(K.filter fun p=>!(some x==some p.1))=K1 at *
 generalize σ.set d (.dI (AW K1))=σ₁ at *
 have h2:=Sn k (σ:=σ₁) hN1 g1 hl1 (x:=x) (ρ:=[(137,.loc d),(153,.int x)]) rfl rfl
 have g2:=Ad σ₁ (AO.list ((Bs x K1).map .int))
 have g3:=Af g1 [AO.list ((Bs x K1).map .int)]
 have hne:σ₁.length≠d:=Ne.symm (Nat.ne_of_lt (Bc g1))
 have x2:=x1.ext (Ext.app1 σ₁ (AO.list ((Bs x K1).map .int)))
 generalize σ₁++[AO.list ((Bs x K1).map .int)]=σ₂ at *
 have hks:(Bs x K1).Nodup:=List.Nodup.sublist (List.Sublist.map _ List.filter_sublist) hN1
 have hkl:(Bs x K1).length < 100000:=by
  unfold Bs;rw [List.length_map];exact Nat.lt_of_le_of_lt (List.length_filter_le _ _) hl1
 obtain ⟨ρ',σ₃,hloop,I⟩:=AP (l:=(Bs x K1).map AV.int) (body:=DD prog.gtup (AT prog k) [.expr (.meth (.var 137) 4 [.var 182])]) (t:=.one 182) (src:=.loc σ₁.length) (FgI d σ₁.length σ₂ K1 x) (fun i ρ σ J=>Av (J.e _ _ hne g2) i) (fun i v ρ σ hv J=>by
  rw [List.getElem?_map] at hv
  obtain ⟨y,hy,rfl⟩:=Option.map_eq_some_iff.mp hv
  have hylt:=(List.getElem?_eq_some_iff.mp hy)
  obtain ⟨hi,hyi⟩:=hylt
  have hmem:y∈Bs x K1:=List.mem_of_getElem? hy
  have hnt:((Bs x K1).take i).contains y=false:=by
   rw [List.contains_eq_mem,decide_eq_false]
   intro hm
   obtain ⟨j,hj,e⟩:=List.mem_take_iff_getElem.mp hm
   have:=(List.getElem_inj hks).mp (e.trans hyi.symm)
   omega
  obtain ⟨p,hp,rfl⟩:=List.mem_map.mp hmem
  have hN2:Rb (K1.filter fun p=>!((Bs x K1).take i).contains p.1):=List.Nodup.sublist (List.Sublist.map _ List.filter_sublist) hN1
  have hin:p∈K1.filter fun p=>!((Bs x K1).take i).contains p.1:=List.mem_filter.mpr ⟨(List.mem_filter.mp hp).1,by rw [hnt];rfl⟩
  have hlk:Ao p.1 (AW (K1.filter fun p=>!((Bs x K1).take i).contains p.1))=some (.int p.2):=lookI_mem (Dw hN2) (List.mem_map.mpr ⟨p,hin,rfl⟩)
  have hle2:(AW (K1.filter fun p=>!((Bs x K1).take i).contains p.1)).length≤1000000:=by
   rw [Cq];exact Nat.le_trans (List.length_filter_le _ _) (Nat.le_of_lt (Nat.lt_trans hl1 (by decide)))
  refine ⟨put 182 (.int p.1) ρ,put 182 (.int p.1) ρ,σ.set d (.dI (AW (K1.filter fun p=>!((Bs x K1).take (i+1)).contains p.1))),rfl,?_,⟨Ab J.r rfl,J.e.trans (ExtB.set _ _),AQ J.s⟩⟩
  have hm:=NT J.s hle2 hlk
  have hset:DV p.1 (AW (K1.filter fun p=>!((Bs x K1).take i).contains p.1))=AW (K1.filter fun p=>!((Bs x K1).take (i+1)).contains p.1):=by
   rw [G9 (Dw hN2),OD,List.filter_filter]
   congr 2
   funext q
   rw [List.take_add_one,hy]
   rw [List.contains_append]
   show (!(some p.1==some q.1)&&!_)=!(_ || ([p.1]:List Int).contains q.1)
   rw [show ([p.1]:List Int).contains q.1=(some p.1==some q.1) by (rw [List.contains_cons,List.contains_nil,Bool.or_false];exact Bool.beq_comm),Bool.not_or,Bool.and_comm]
  rw [hset] at hm
  exact A1 (CY (Ac (Ab J.r rfl)) J.s (Aa (Ac (Aj _ _ _)) rfl) hm) rfl) AC 0 [(137,.loc d),(153,.int x)] σ₂ (by rw [List.length_map,Nat.zero_add];exact hkl) (Nat.zero_le _) ⟨rfl,ExtB.refl _ _,g3.trans (by rw [List.take_zero];congr 3;exact (List.filter_eq_self.mpr fun _ _=>rfl).symm)⟩
 rw [List.length_map] at I
 refine ⟨σ₃,Dp (Ag rfl) d111f rfl (A1 (CY rfl hd (Aa rfl (Aa rfl rfl)) h1) (A6 h2 hloop rfl)),x2.trans I.e,I.s.trans ?_⟩
 rw [List.take_length,←hK1]
 unfold KM
 congr 3
 rw [List.filter_filter]
 refine List.filter_congr fun p hp=>?_
 by_cases hpx:(x==p.1)=true
 ·rw [show (some x==some p.1)=(x==p.1) from rfl,hpx,show (p.1==x)=true from by rw [Bool.beq_comm];exact hpx];simp
 ·rw [Bool.not_eq_true] at hpx
  have e1:(p.1==x)=false:=by rw [Bool.beq_comm];exact hpx
  rw [show (some x==some p.1)=(x==p.1) from rfl,hpx,e1,Bool.false_or,Bool.not_false,Bool.and_true]
  congr 1
  rw [Bool.eq_iff_iff,List.contains_iff_mem]
  constructor
  ·intro hm
   obtain ⟨q,hq,e⟩:=List.mem_map.mp hm
   obtain ⟨hq1,hq2⟩:=List.mem_filter.mp hq
   have hq0:=(List.mem_filter.mp hq1).1
   have:q=p:=by
    have a:=lookI_mem (Dw hN) (show (q.1,AV.int q.2)∈AW K from List.mem_map.mpr ⟨q,hq0,rfl⟩)
    have b:=lookI_mem (Dw hN) (show (p.1,AV.int p.2)∈AW K from List.mem_map.mpr ⟨p,hp,rfl⟩)
    have e':q.1=p.1:=e
    rw [e'] at a
    have:=AV.int.inj (oQ (a.symm.trans b))
    exact Prod.ext e' this
   rw [←this];exact hq2
  ·intro hm
   exact List.mem_map.mpr ⟨p,List.mem_filter.mpr ⟨List.mem_filter.mpr ⟨hp,by rw [show (some x==some p.1)=(x==p.1) from rfl,hpx];rfl⟩,hm⟩,rfl⟩
end
section
inductive DW where
 | copy | const | move | live | dead | print | out
structure Deed where
 w:DW
 one:Int
 oth:Int
noncomputable def Cf:DW→Nat
 | .copy=>90
 | .const=>87
 | .move=>164
 | .live=>152
 | .dead=>92
 | .print=>190
 | .out=>183
noncomputable def BJ (d:Deed):AV:=.tup [.str (Cf d.w),.int d.one,.int d.oth]
noncomputable def Deed.ok (d:Deed):Prop:=match d.w with
 | .copy | .move=>(d.one=3∨d.one=4)∧(d.oth=1∨d.oth=2)
 | _=>True
noncomputable def CW (d:Deed):AV:=match d.w with
 | .live=>.tup [.str 152,.int d.one]
 | .dead=>.tup [.str 92,.int d.one]
 | .print=>.tup [.str 190,.tup [.str 90,.tup [.int d.one,.tup []]]]
 | .out=>.tup [.str 190,.tup [.str 164,.tup [.int d.one,.tup []]]]
 | .const=>.tup [.str 68,.tup [.int d.one,.tup []],.tup [.str 234,.tup [.str 87,tI,.int 7]]]
 | .copy=>.tup [.str 68,.tup [.int d.one,.tup []],.tup [.str 234,.tup [.str 90,.tup [.int d.oth,.tup []]]]]
 | .move=>.tup [.str 68,.tup [.int d.one,.tup []],.tup [.str 234,.tup [.str 164,.tup [.int d.oth,.tup []]]]]
noncomputable def J4 (d:Deed) (K:KP):KP:=match d.w with
 | .print=>K
 | .copy=>KM d.one K++[(d.one,d.oth)]
 | .move=>KM d.one (KM d.oth K)
 | _=>KM d.one K
structure WfP (K:KP):Prop where
 nd:Rb K
 dom:∀ p∈K,(p.1=3∨p.1=4)∧(p.2=1∨p.2=2)
theorem WfP.len:∀ {K:KP},WfP K→K.length≤2
 | [],_=>Nat.zero_le _
 | [_],_=>Nat.le_succ _
 | [_,_],_=>Nat.le_refl _
 | a::b::c::r,h=>by
  have h1:=(h.dom a (.head _)).1
  have h2:=(h.dom b (.tail _ (.head _))).1
  have h3:=(h.dom c (.tail _ (.tail _ (.head _)))).1
  have n1:=List.nodup_cons.mp h.nd
  have n2:=List.nodup_cons.mp n1.2
  have a1:a.1≠b.1:=fun e=>n1.1 (List.mem_map.mpr ⟨b,.head _,e.symm⟩)
  have a2:a.1≠c.1:=fun e=>n1.1 (List.mem_map.mpr ⟨c,.tail _ (.head _),e.symm⟩)
  have a3:b.1≠c.1:=fun e=>n2.1 (List.mem_map.mpr ⟨c,.head _,e.symm⟩)
  exact om46 h1 h2 h3 a1 a2 a3
theorem WfP.fg {K:KP} (h:WfP K) (x:Int):WfP (KM x K):=⟨List.Nodup.sublist (List.Sublist.map _ List.filter_sublist) h.nd,fun p hp=>h.dom p (List.mem_filter.mp hp).1⟩
theorem Qa {K:KP} {x:Int}:x∉(KM x K).map (·.1):=fun h=>by
 obtain ⟨p,hp,e⟩:=List.mem_map.mp h
 have:=(List.mem_filter.mp hp).2
 rw [e,beq_self_eq_true] at this
 exact absurd this bQ
theorem WfP.st {K:KP} (h:WfP K) {d:Deed} (hd:d.ok):WfP (J4 d K):=by
 obtain ⟨w,one,oth⟩:=d
 induction w using DW.casesOn with
 | print=>exact h
 | move=>exact (h.fg oth).fg one
 | copy=>
  have h1:=h.fg one
  refine ⟨?_,fun p hp=>?_⟩
  ·show (((KM one K)++[(one,oth)]).map (·.1)).Nodup
   rw [List.map_append]
   refine List.nodup_append.mpr ⟨h1.nd,List.nodup_cons.mpr ⟨List.not_mem_nil,List.nodup_nil⟩,fun a ha b hb=>?_⟩
   rw [List.mem_singleton.mp hb]
   rintro rfl
   exact Qa ha
  ·rcases List.mem_append.mp hp with hp | hp
   ·exact h1.dom p hp
   ·rw [List.mem_singleton.mp hp];exact hd
 | live=>exact h.fg one
 | dead=>exact h.fg one
 | out=>exact h.fg one
 | const=>exact h.fg one
inductive CopAt (σ:St) (c b oth be:Nat):Prop where
 | mk (h1:σ[c]?=some (.inst 21 [(78,.loc b),(182,.loc oth),(73,.loc be)])) (h2:σ[oth]?=some (.dI []))
theorem HX:prog.defs (21,217)=some E8:=rfl
theorem d74c:prog.defs (21,74)=some D5:=rfl
theorem Hc (k:Nat) {σ:St} {l:Nat} {kd op:AV} {w:Nat} (h:σ[l]?=some (.list [op])) (hx:∀ σ,CM σ op (.int 0)=some (.str w)) (hw:(w==164)=false):Ca (k+1) (0,112) [.loc l,kd] σ .none σ:=
 Dp (Ag rfl) d112 rfl (A6 rfl (FU (Av h 0) rfl (Ak (Al (As rfl rfl (hx σ)) rfl rfl) (congrArg some hw) rfl) (Ey (Av h 1))) rfl)
theorem JU (k:Nat) {σ:St} {l d:Nat} {K:KP} (hK:WfP K) {x:Int} (h:σ[l]?=some (.list [.tup [.str 164,.tup [.int x,.tup []]]])) (hd:σ[d]?=some (.dI (AW K))) :
  ∃ σ',Ca (k+2) (0,112) [.loc l,.loc d] σ .none σ'∧ExtB d σ σ'∧σ'[d]?=some (.dI (AW (KM x K))):=by
 obtain ⟨σ',h1,h2,h3⟩:=CF k hK.nd hd (Nat.lt_of_le_of_lt hK.len (by decide)) x
 have h':=h2 _ _ (BZ h hd (by simp)) h
 exact ⟨σ',Dp (Ag rfl) d112 rfl (A6 rfl (FU (Av h 0) rfl (Bu rfl rfl (A1 (Am rfl h1) rfl) rfl) (Ey (Av h' 1))) rfl),h2,h3⟩
theorem Py {K:KP} (hK:WfP K) {x:Int} (hx:x=1∨x=2):Ao x (AW K)=none:=by
 refine DT fun h=>?_
 unfold AW at h
 rw [List.map_map] at h
 obtain ⟨p,hp,e⟩:=List.mem_map.mp h
 have:=(hK.dom p hp).1
 have e':p.1=x:=e
 exact om47 hx this e'
theorem PY {σ:St} {a:Nat} (h:σ[a]?=some (.dI [])) (n:Int):A9 σ .NotIn (.int n) (.loc a)=some true:=M3 h n
theorem UP (k:Nat) {σ:St} {c b oth be d:Nat} {K:KP} (hK:WfP K) (C:CopAt σ c b oth be) (hc:c≠d) (ho:oth≠d) (hd:σ[d]?=some (.dI (AW K))) {e:Deed} (he:e.ok) :
  ∃ σ',Ca (k+3) (21,217) [.loc c,CW e,.loc d] σ .none σ'∧ExtB d σ σ'∧σ'[d]?=some (.dI (AW (J4 e K))):=by
 have hl:=Nat.lt_of_le_of_lt hK.len (by decide:2 < 100000)
 obtain ⟨w,one,two⟩:=e
 induction w using DW.casesOn with
 | live=>
  obtain ⟨σ',h1,h2,h3⟩:=CF (k+1) hK.nd hd hl one
  exact ⟨σ',An (Ag rfl) HX rfl (Bu rfl rfl (A1 (Am rfl h1) rfl) (Ak rfl rfl (AJ rfl rfl rfl))),h2,h3⟩
 | dead=>
  obtain ⟨σ',h1,h2,h3⟩:=CF (k+1) hK.nd hd hl one
  exact ⟨σ',An (Ag rfl) HX rfl (Bu rfl rfl (A1 (Am rfl h1) rfl) (Ak rfl rfl (AJ rfl rfl rfl))),h2,h3⟩
 | print=>
  have h1:=Hc (k+1) (kd:=.loc d) (Ad σ (.list [.tup [.str 90,.tup [.int one,.tup []]]])) (fun _=>rfl) rfl
  exact ⟨_,An (Ag rfl) HX rfl (Ak rfl rfl (Bu rfl rfl (A1 (Am (Aa (Ar rfl) rfl) h1) rfl) (AJ rfl rfl rfl))),ExtB.of (Ext.app1 _ _),Af hd _⟩
 | out=>
  obtain ⟨σ',h1,h2,h3⟩:=JU k hK (Ad σ (.list [.tup [.str 164,.tup [.int one,.tup []]]])) (Af hd _)
  exact ⟨σ',An (Ag rfl) HX rfl (Ak rfl rfl (Bu rfl rfl (A1 (Am (Aa (Ar rfl) rfl) h1) rfl) (AJ rfl rfl rfl))),(ExtB.of (Ext.app1 _ _)).trans h2,h3⟩
 | const=>
  have h1:=Hc (k+1) (kd:=.loc d) (Ad σ (.list [.tup [.str 87,tI,.int 7]])) (fun _=>rfl) rfl
  obtain ⟨σ',h2,h3,h4⟩:=CF (k+1) hK.nd (Af hd [.list [.tup [.str 87,tI,.int 7]]]) hl one
  exact ⟨σ',Dp (Ag rfl) HX rfl (Ak rfl rfl (Ak rfl rfl (Ak rfl rfl (Ah rfl rfl (A1 (Am (Aa (Am rfl rfl) rfl) h1) (Ah rfl rfl (Ak rfl rfl (A1 (Am rfl h2) (Ak rfl rfl rfl))))))))),(ExtB.of (Ext.app1 _ _)).trans h3,h4⟩
 | move=>
  obtain ⟨σ₁,h1,x1,g1⟩:=JU k hK (Ad σ (.list [.tup [.str 164,.tup [.int two,.tup []]]])) (Af hd _)
  obtain ⟨σ',h2,h3,h4⟩:=CF (k+1) (hK.fg two).nd g1 (Nat.lt_of_le_of_lt (hK.fg two).len (by decide)) one
  exact ⟨σ',Dp (Ag rfl) HX rfl (Ak rfl rfl (Ak rfl rfl (Ak rfl rfl (Ah rfl rfl (A1 (Am (Aa (Am rfl rfl) rfl) h1) (Ah rfl rfl (Ak rfl rfl (A1 (Am rfl h2) (Ak rfl rfl rfl))))))))),((ExtB.of (Ext.app1 _ _)).trans x1).trans h3,h4⟩
 | copy=>
  have h1o:one=3∨one=4:=he.1
  have h2o:two=1∨two=2:=he.2
  have h1:=Hc (k+1) (kd:=.loc d) (Ad σ (.list [.tup [.str 90,.tup [.int two,.tup []]]])) (fun _=>rfl) rfl
  have hd1:=Af hd [AO.list [.tup [.str 90,.tup [.int two,.tup []]]]]
  have hg:=NU hd1 two (.int two)
  rw [Py hK h2o] at hg
  obtain ⟨σ',h2,h3,h4⟩:=CF (k+1) hK.nd hd1 hl one
  obtain ⟨C1,C2⟩:=C
  have y:=(ExtB.of (a:=d) (Ext.app1 σ (.list [.tup [.str 90,.tup [.int two,.tup []]]]))).trans h3
  have c1:=y _ _ hc C1
  have c2:=y _ _ ho C2
  have hne:truth (.bool (!(two==one)))=some true:=Il (by
   rw [Bool.not_eq_true',beq_eq_false_iff_ne];exact om48 h1o h2o)
  refine ⟨σ'.set d (.dI (Br one (.int two) (AW (KM one K)))),Dp (Ag rfl) HX rfl (Ak rfl rfl (Ak rfl rfl (Ak rfl rfl (Ah rfl rfl (A1 (Am (Aa (Am rfl rfl) rfl) h1) (Ah rfl rfl (Bu rfl rfl (Ah rfl rfl (Ah (CY rfl hd1 rfl hg) rfl rfl)) (A1 (Am rfl h2) (Bu (A0 rfl rfl (A0 (Al rfl rfl rfl) hne (A0 (Al rfl (AN rfl c1 rfl) (PY c2 one)) rfl (AY (Al rfl (AN rfl c1 rfl) (PY c2 two)))))) rfl (Fh rfl rfl rfl h4 ?_ rfl) rfl))))))))),y.trans (ExtB.set _ _),?_⟩
  ·rw [Cq];exact Nat.lt_of_le_of_lt (hK.fg one).len (by decide)
  ·rw [AQ h4,FG (DT (by unfold AW;rw [List.map_map];exact Qa))]
   show _=some (AO.dI (AW (KM one K++[(one,two)])))
   unfold AW
   rw [List.map_append];rfl
end
section
inductive EK where
 | goto (g:Int)
 | sw (g o:Int)
 | swm (l g o:Int)
 | ret
 | call (l g:Int)
noncomputable def Dh:EK→Tm
 | .goto g=>.goto g
 | .sw g o=>.sw (.tup [.str 87,tB,.bool true]) [(.bool true,g)] (some o)
 | .swm l g o=>.sw (.tup [.str 164,.tup [.int l,.tup []]]) [(.int 1,g)] (some o)
 | .ret=>.ret
 | .call l g=>.call (.tup [.str 108,.str 114,.tup []]) (.tup []) (.tup [.int l,.tup []]) (some g)
noncomputable def GU:EK→Option Deed
 | .swm l _ _=>some ⟨.out,l,0⟩
 | .call l _=>some ⟨.const,l,0⟩
 | _=>none
noncomputable def G3:EK→List Int
 | .goto g=>[g]
 | .sw g o=>[g,o]
 | .swm _ g o=>[g,o]
 | .ret=>[]
 | .call _ g=>[g]
structure Row where
 ds:List Deed
 e:EK
noncomputable def Row.all (r:Row):List Deed:=r.ds++(GU r.e).toList
noncomputable def C9 (r:Row) (K:KP):KP:=r.all.foldl (fun K d=>J4 d K) K
noncomputable def Row.ok (r:Row):Prop:=(∀ d∈r.ds,d.ok)∧r.ds.length < 1000
theorem Row.all_ok {r:Row} (h:r.ok):∀ d∈r.all,d.ok:=fun d hd=>by
 rcases List.mem_append.mp hd with hd | hd
 ·exact h.1 d hd
 ·cases he:r.e<;>rw [he] at hd<;>first | ((first | exact Ae hd | exact absurd hd bQ | (obtain ⟨rfl,rfl⟩:=pQ (oQ hd)) | obtain rfl:=oQ hd | subst hd | cases hd);done) | (rw [List.mem_singleton.mp hd];trivial)
theorem WfP.fold:∀ {l:List Deed} {K:KP},WfP K→(∀ d∈l,d.ok)→WfP (l.foldl (fun K d=>J4 d K) K)
 | [],_,h,_=>h
 | d::r,K,h,hd=>WfP.fold (l:=r) (K:=J4 d K) (WfP.st h (hd d (.head _))) fun e he=>hd e (.tail _ he)
theorem WfP.out {r:Row} (hr:r.ok) {K:KP} (h:WfP K):WfP (C9 r K):=h.fold (Row.all_ok hr)
inductive BlkAt (σ:St) (r:Row):AV→Prop where
 | mk (bl st:Nat) (h1:σ[bl]?=some (.list [.loc st,B7 (Dh r.e)])) (h2:σ[st]?=some (.list (r.ds.map CW))):BlkAt σ r (.loc bl)
theorem BlkAt.ext {σ σ':St} {r:Row} {v:AV} (h:BlkAt σ r v) (E:Ext σ σ'):BlkAt σ' r v:=by
 obtain ⟨bl,st,h1,h2⟩:=h;exact ⟨bl,st,E _ _ h1,E _ _ h2⟩
inductive BodAt (σ:St) (b:Nat) (rows:List Row):Prop where
 | mk (a l bs sp:Nat) (vs:List AV) (h1:σ[b]?=some (.inst 18 [(167,.str 101),(64,.int 0),(154,.loc l),(77,.loc bs),(214,.loc sp)])) (h2:σ[bs]?=some (.list vs)) (hl:vs.length=rows.length) (hs:vs.length < 1000)
  (hv:∀ (i:Nat) (r:Row) (v:AV),rows[i]?=some r→vs[i]?=some v→BlkAt σ r v)
theorem BodAt.ext {σ σ':St} {b:Nat} {rows:List Row} (h:BodAt σ b rows) (E:Ext σ σ'):BodAt σ' b rows:=by
 obtain ⟨a,l,bs,sp,vs,h1,h2,hl,hs,hv⟩:=h
 exact ⟨a,l,bs,sp,vs,E _ _ h1,E _ _ h2,hl,hs,fun i r v e e'=>(hv i r v e e').ext E⟩
theorem S8 {σ:St} {a x y k:Nat} {v w:AV} {ρ:At} (h:σ[a]?=some (.list [v,w])):Mx prog.gtup (AT prog k) (.names [x,y]) (.loc a) ρ σ=some (put y w (put x v ρ),σ):=by
 exact AE (show (match σ[a]? with | some (.list l)=>some l | _=>none:Option (List AV))=_ by rw [h]) rfl
structure StI (σ₀:St) (c d:Nat) (ds:List Deed) (K:KP) (t:AV) (i:Nat) (ρ:At) (σ:St):Prop where
 r1:look 206 ρ=some (.loc c)
 r2:look 137 ρ=some (.loc d)
 r3:look 223 ρ=some t
 e:ExtB d σ₀ σ
 s:σ[d]?=some (.dI (AW ((ds.take i).foldl (fun K d=>J4 d K) K)))
theorem QM (k:Nat) {σ:St} {c b oth be:Nat} {rows:List Row} {B:List (Int×AV)} {n:Nat} {r:Row} {dn:Nat} {K:KP} (C:CopAt σ c b oth be) (hb:BodAt σ b rows) (hB:σ[be]?=some (.dI B)) (hr:rows[n]?=some r) (hok:r.ok) (hl:Ao n B=some (.loc dn)) (hd:σ[dn]?=some (.dI (AW K))) (hK:WfP K) :
  ∃ σ',Ca (k+4) (21,74) [.loc c,.int n] σ (.loc σ.length) σ'∧Ext σ σ'∧σ'[σ.length]?=some (.dI (AW (C9 r K))):=by
 obtain ⟨_,l,bs,sp,vs,h1,h2,hvl,hvs,hv⟩:=hb
 have hn:n < vs.length:=by rw [hvl];exact (List.getElem?_eq_some_iff.mp hr).1
 obtain ⟨v,hvn⟩:∃ v,vs[n]?=some v:=⟨_,List.getElem?_eq_getElem hn⟩
 have hblk:=hv n r v hr hvn
 obtain ⟨bl,st,g1,g2⟩:=hblk
 obtain ⟨C1,C2⟩:=C
 have hdict:=GB hd (by rw [Cq];exact Nat.le_trans hK.len (by decide))
 have x1:=Ext.app1 σ (AO.dI (AW K))
 have d1:=Ad σ (AO.dI (AW K))
 have nc:c≠σ.length:=Nat.ne_of_lt (Bc C1)
 have no:oth≠σ.length:=Nat.ne_of_lt (Bc C2)
 have ns:st≠σ.length:=Nat.ne_of_lt (Bc g2)
 have i1:CM (σ++[AO.dI (AW K)]) (.loc bs) (.int n)=some (.loc bl):=idx_list (x1 _ _ h2) hvn (Nat.lt_trans hn (Nat.lt_trans hvs (by decide)))
 have hlk:=(idx_dI hB (n:Int)).trans hl
 have B1:=x1 _ _ h1
 have G1:=x1 _ _ g1
 have G2:=x1 _ _ g2
 have C1':=x1 _ _ C1
 have C2':=x1 _ _ C2
 have C1'':=C1
 generalize hσ₁:σ++[AO.dI (AW K)]=σ₁ at *
 generalize hdd:σ.length=d at *
 obtain ⟨ρ',σ₂,hloop,I⟩:=AP (l:=r.ds.map CW) (body:=DD prog.gtup (AT prog (k+3)) [.expr (.meth (.var 206) 217 [.var 215,.var 137])]) (t:=.one 215) (src:=.loc st) (StI σ₁ c d r.ds K (B7 (Dh r.e))) (fun i ρ σ J=>Av (J.e _ _ ns G2) i) (fun i v ρ σ hv J=>by
  rw [List.getElem?_map] at hv
  obtain ⟨e,he,rfl⟩:=Option.map_eq_some_iff.mp hv
  have hmem:=List.mem_of_getElem? he
  have hW:WfP ((r.ds.take i).foldl (fun K d=>J4 d K) K):=hK.fold fun d hd=>hok.1 d (List.mem_of_mem_take hd)
  obtain ⟨σ',s1,s2,s3⟩:=UP k hW ⟨J.e _ _ nc C1',J.e _ _ no C2'⟩ nc no J.s (hok.1 e hmem)
  refine ⟨put 215 (CW e) ρ,put 215 (CW e) ρ,σ',rfl,A1 (Ax (Ac (Ab J.r1 rfl)) (J.e _ _ nc C1') rfl (Aa (Ac (Aj _ _ _)) (Aa (Ac (Ab J.r2 rfl)) rfl)) s1) rfl,⟨Ab J.r1 rfl,Ab J.r2 rfl,Ab J.r3 rfl,J.e.trans s2,?_⟩⟩
  rw [s3,List.take_add_one,he,List.foldl_append];rfl) AC 0 [(206,.loc c),(171,.int n),(137,.loc d),(216,.loc st),(223,B7 (Dh r.e))] σ₁ (by rw [List.length_map,Nat.zero_add];exact Nat.lt_trans hok.2 (by decide)) (Nat.zero_le _) ⟨rfl,rfl,rfl,ExtB.refl _ _,by rw [List.take_zero];exact d1⟩
 rw [List.length_map] at I
 have I5:=I.s
 rw [List.take_length] at I5
 have hW2:WfP (r.ds.foldl (fun K d=>J4 d K) K):=hK.fold hok.1
 have hout:C9 r K=(GU r.e).toList.foldl (fun K d=>J4 d K) (r.ds.foldl (fun K d=>J4 d K) K):=List.foldl_append
 rw [hout]
 have r2:=I.r2
 have r3:=I.r3
 have fin:∀ {σ':St},(∃ ρ₃,Xs (k+3) [
 .ifs (.cmp .Eq (.idx (.var 223) (.int 0)) (.str 81)) [
  .expr (.call 112 [(.idx (.var 223) (.int 2)),.var 137]),
  .expr (.call 111 [.var 137,(.idx (.idx (.var 223) (.int 3)) (.int 0))])] [],
 .ifs (.cmp .In (.idx (.var 223) (.int 0)) (.tup [.str 220,.str 67])) [
  .expr (.call 112 [(.list [(.idx (.var 223) (.int 1))]),.var 137])] [],
 .ret (.var 137)] ρ' σ₂ (.ret (.loc d),ρ₃,σ'))→ExtB d σ₂ σ'→∀ {K':KP},σ'[d]?=some (.dI (AW K'))→K'=(GU r.e).toList.foldl (fun K d=>J4 d K) (r.ds.foldl (fun K d=>J4 d K) K) →
   ∃ σ',Ca (k+4) (21,74) [.loc c,.int n] σ (.loc d) σ'∧ExtB d σ₁ σ'∧σ'[d]?=some (.dI (AW ((GU r.e).toList.foldl (fun K d=>J4 d K) (r.ds.foldl (fun K d=>J4 d K) K)))):=fun {σ'} hx hE {K'} hK' e=>by
  obtain ⟨ρ₃,hx⟩:=hx
  refine ⟨σ',An (Ag rfl) d74c rfl (Ah (Bx (Aa (As (AN rfl C1'' rfl) rfl hlk) rfl) (hσ₁▸hdict)) rfl (Ah (As (AN (AN rfl C1' rfl) B1 rfl) rfl i1) (S8 G1) (A6 rfl hloop hx))),I.e.trans hE,e▸hK'⟩
 have fin2:∃ σ',Ca (k+4) (21,74) [.loc c,.int n] σ (.loc d) σ'∧ExtB d σ₁ σ'∧σ'[d]?=some (.dI (AW ((GU r.e).toList.foldl (fun K d=>J4 d K) (r.ds.foldl (fun K d=>J4 d K) K)))):=by
  generalize he:r.e=zz2
  induction zz2 using EK.casesOn with
  | goto g=>
   rw [he] at r3 fin
   exact fin ⟨_,Ak (Al (As (Ac r3) rfl rfl) rfl rfl) rfl (Ak (Al (As (Ac r3) rfl rfl) rfl rfl) rfl (Az (Ac r2)))⟩ (ExtB.refl _ _) I5 rfl
  | ret=>
   rw [he] at r3 fin
   exact fin ⟨_,Ak (Al (As (Ac r3) rfl rfl) rfl rfl) rfl (Ak (Al (As (Ac r3) rfl rfl) rfl rfl) rfl (Az (Ac r2)))⟩ (ExtB.refl _ _) I5 rfl
  | sw g o=>
   rw [he] at r3 fin
   have f1:=Hc (k+2) (kd:=.loc d) (Ad σ₂ (.list [.tup [.str 87,tB,.bool true]])) (fun _=>rfl) rfl
   exact fin ⟨_,Ak (Al (As (Ac r3) rfl rfl) rfl rfl) rfl (Bu (Al (As (Ac r3) rfl rfl) rfl rfl) rfl (A1 (Am (Aa (Ar (Aa (As (Ac r3) rfl rfl) rfl)) (Aa (Ac r2) rfl)) f1) rfl) (Az (Ac r2)))⟩ (ExtB.of (Ext.app1 _ _)) (Af I5 _) rfl
  | swm l g o=>
   rw [he] at r3 fin
   obtain ⟨σ₃,f1,f2,f3⟩:=JU (k+1) hW2 (Ad σ₂ (.list [.tup [.str 164,.tup [.int l,.tup []]]])) (Af I5 _)
   exact fin ⟨_,Ak (Al (As (Ac r3) rfl rfl) rfl rfl) rfl (Bu (Al (As (Ac r3) rfl rfl) rfl rfl) rfl (A1 (Am (Aa (Ar (Aa (As (Ac r3) rfl rfl) rfl)) (Aa (Ac r2) rfl)) f1) rfl) (Az (Ac r2)))⟩ ((ExtB.of (Ext.app1 _ _)).trans f2) f3 rfl
  | call l g=>
   rw [he] at r3 fin
   obtain ⟨σ₃,f1,f2,f3⟩:=CF (k+2) hW2.nd I5 (Nat.lt_of_le_of_lt hW2.len (by decide)) l
   exact fin ⟨_,Bu (Al (As (Ac r3) rfl rfl) rfl rfl) rfl (A1 (Am (Aa (As (Ac r3) rfl rfl) (Aa (Ac r2) rfl)) rfl) (A1 (Am (Aa (Ac r2) (Aa (As (As (Ac r3) rfl rfl) rfl rfl) rfl)) f1) rfl)) (Ak (Al (As (Ac r3) rfl rfl) rfl rfl) rfl (Az (Ac r2)))⟩ f2 f3 rfl
 obtain ⟨σ',f1,f2,f3⟩:=fin2
 exact ⟨σ',f1,f2.to x1 (Nat.le_of_eq hdd),f3⟩
end
section
theorem K4 {body:AV→St→Option (Option (Int×AV)×St)} {d:Bool} {src:AV} {L:List AV} {σ:St} (g:AV→Option (Int×AV)) (hn:∀ i,Bg σ d src i=some L[i]?) (hb:∀ x∈L,body x σ=some (g x,σ)) :
  ∀ (n i:Nat) (acc:List (Int×AV)),L.length < i+n→i≤L.length→Nd (acc++(L.drop i).filterMap g)→Ja body d src n i acc σ=some (acc++(L.drop i).filterMap g,σ)
 | 0,i,acc,h,hi,_=>absurd h (Nat.not_lt.mpr hi)
 | n+1,i,acc,h,hi,hN=>by
  rcases Nat.lt_or_eq_of_le hi with hi | hi
  ·have h2:=(hn i).trans (congrArg some (List.getElem?_eq_getElem hi))
   have ih:=fun acc=>K4 g hn hb n (i+1) acc (by rw [Nat.add_right_comm];exact h) hi
   refine FX h2 (hb _ (List.getElem_mem hi)) ?_
   rw [List.drop_eq_getElem_cons hi] at hN ⊢
   generalize hg:g L[i]=zz1
   induction zz1 using Option.casesOn with
   | none=>rw [List.filterMap_cons_none hg] at hN ⊢;exact ih acc hN
   | some v=>
    rw [List.filterMap_cons_some hg] at hN ⊢
    have hk:Ao v.1 acc=none:=DT fun hm=>by
     rw [Nd,List.map_append] at hN
     exact (List.nodup_append.mp hN).2.2 _ hm _ (.head _) rfl
    have hN':Nd ((acc++[v])++(L.drop (i+1)).filterMap g):=by rw [List.append_assoc];exact hN
    refine (show Cr Ow body d src n (i+1) (Ow acc (some v)) σ=Cr Ow body d src n (i+1) (acc++[v]) σ from congrArg (fun x=>Cr Ow body d src n (i+1) x σ) (FG hk)).trans ((ih (acc++[v]) hN').trans ?_)
    rw [List.append_assoc];rfl
  ·rw [hi,List.drop_length,List.filterMap_nil,List.append_nil]
   exact HO ((hn _).trans (congrArg some (List.getElem?_eq_none (Nat.le_refl _))))
noncomputable abbrev dB (k:Nat) (t:PT) (ρ:At) (e v:PE) (ifs:List PE):AV→St→Option (Option (Int×AV)×St):=Lh (fun x ρ σ=>Bq σ t x ρ) (fun ρ σ=>KO prog.gtup (AT prog k) ifs ρ σ) (fun ρ σ=>A3 (ev prog.gtup (AT prog k) e ρ σ) fun x σ=>Pe x fun i=>A3 (ev prog.gtup (AT prog k) v ρ σ) fun w σ=>some ((i,w),σ)) ρ
theorem SC {k:Nat} {ρ:At} {σ σ₁ σ₂:St} {it e v:PE} {t:PT} {ifs:List PE} {vs:List (Int×AV)} {a:Nat} {D:List (Int×AV)} (h:Ev k it ρ σ (.loc a) σ₁) (hd:σ₁[a]?=some (.dI D)) (hp:(AL e&&AL v&&Bk ifs)=true)
  (hl:Ja (dB k t ρ e v ifs) true (.loc a) AC 0 [] σ₁=some (vs,σ₂)):Ev k (.dcomp e v t it ifs) ρ σ (.loc σ₂.length) (σ₂++[.dI vs]):=
 Ap h (Jy (O5 (ES hd) fun _=>hp) (Ap (by rw [ES hd];exact hl) rfl))
theorem SH {k:Nat} {ρ ρ':At} {σ σ₁ σ₂ σ₃:St} {e v:PE} {t:PT} {ifs:List PE} {x w:AV} {i:Int} (hb:Bq σ t x ρ=some ρ') (hi:KO prog.gtup (AT prog k) ifs ρ' σ=some (true,σ₁)) (h:Ev k e ρ' σ₁ (.int i) σ₂) (h2:Ev k v ρ' σ₂ w σ₃):dB k t ρ e v ifs x σ=some (some (i,w),σ₃):=
 AE hb (Ap hi (Ap (Ap h (Ap h2 rfl)) rfl))
theorem SK {k:Nat} {ρ ρ':At} {σ σ₁:St} {e v:PE} {t:PT} {ifs:List PE} {x:AV} (hb:Bq σ t x ρ=some ρ') (hi:KO prog.gtup (AT prog k) ifs ρ' σ=some (false,σ₁)):dB k t ρ e v ifs x σ=some (none,σ₁):=AE hb (Ap hi rfl)
theorem Fp {K:KP} (hN:Rb K) {p:Int×Int}:Ao p.1 (AW K)=some (.int p.2)↔p∈K:=by
 constructor
 ·intro h
  obtain ⟨q,hq,e⟩:=List.mem_map.mp (DI h)
  have e1:=(pQ e).1
  have e2:=AV.int.inj (pQ e).2
  have:q=p:=Prod.ext e1 e2
  exact this▸hq
 ·intro h
  exact lookI_mem (Dw hN) (List.mem_map.mpr ⟨p,h,rfl⟩)
noncomputable def IK (H K:KP):KP:=H.filter fun p=>K.contains p
theorem WfP.mt {H:KP} (h:WfP H) (K:KP):WfP (IK H K):=⟨List.Nodup.sublist (List.Sublist.map _ List.filter_sublist) h.nd,fun p hp=>h.dom p (List.mem_filter.mp hp).1⟩
theorem So (k:Nat) {σ:St} {h d:Nat} {H K:KP} (wH:WfP H) (wK:WfP K) (hh:σ[h]?=some (.dI (AW H))) (hd:σ[d]?=some (.dI (AW K))) {ρ:At} (r1:look 120 ρ=some (.loc h)) (r2:look 137 ρ=some (.loc d)) :
  Ev k (.dcomp (.var 153) (.idx (.var 120) (.var 153)) (.one 153) (.var 120) [(.cmp .Eq (.meth (.var 137) 6 [.var 153]) (.idx (.var 120) (.var 153)))]) ρ σ (.loc σ.length) (σ++[.dI (AW (IK H K))]):=by
 let g:AV→Option (Int×AV):=fun v=>match v with
  | .int i=>match Ao i (AW H) with
   | some (.int b)=>if K.contains (i,b) then some (i,.int b) else none
   | _=>none
  | _=>none
 have hg:∀ p∈H,g (.int p.1)=if K.contains p then some (p.1,.int p.2) else none:=fun p hp=>by
  show (match Ao p.1 (AW H) with | some (.int b)=>_ | _=>none)=_
  rw [(Fp wH.nd).mpr hp]
 have hm:∀ L:KP,(∀ p∈L,p∈H)→((AW L).map fun p=>AV.int p.1).filterMap g=AW (IK L K):=by
  intro L
  induction L with
  | nil=>intro _;rfl
  | cons p r ih=>
   intro hp
   have ih':=ih fun q hq=>hp q (.tail _ hq)
   show ((AV.int p.1)::(AW r).map fun p=>AV.int p.1).filterMap g=_
   rw [List.filterMap_cons,hg p (hp p (.head _))]
   unfold IK at ih' ⊢
   cases hc:K.contains p
   ·rw [List.filter_cons_of_neg (p:=fun p=>K.contains p) (by rw [hc];exact bQ)]
    exact ih'
   ·rw [List.filter_cons_of_pos (p:=fun p=>K.contains p) hc]
    exact congrArg _ ih'
 have hc:=K4 (body:=dB k (.one 153) ρ (.var 153) (.idx (.var 120) (.var 153)) [(.cmp .Eq (.meth (.var 137) 6 [.var 153]) (.idx (.var 120) (.var 153)))]) (d:=true) (src:=.loc h) (L:=(AW H).map fun p=>.int p.1) (σ:=σ) g (Gm hh) (fun v hv=>by
  obtain ⟨q,hq,rfl⟩:=List.mem_map.mp hv
  obtain ⟨p,hp,rfl⟩:=List.mem_map.mp hq
  have l0:=Aj 153 (.int p.1) ρ
  have l1:=Ab (y:=153) (v:=.int p.1) r1 rfl
  have hlk:=(Fp wH.nd).mpr hp
  have hv:=As (k:=k) (σ:=σ) (Ac l1) (Ac l0) ((idx_dI hh _).trans hlk)
  have hq:BU σ 20 ((Ao p.1 (AW K)).getD .none) (.int p.2)=some (K.contains p):=by
   generalize hl:Ao p.1 (AW K)=zz2
   induction zz2 using Option.casesOn with
   | none=>
    have:p∉K:=fun hm=>by rw [(Fp wK.nd).mpr hm] at hl;cases hl
    rw [List.contains_eq_mem,decide_eq_false this];rfl
   | some w=>
    obtain ⟨q,hq,e⟩:=List.mem_map.mp (DI hl)
    have e1:q.1=p.1:=(pQ e).1
    have e2:AV.int q.2=w:=(pQ e).2
    subst e2
    show some (q.2==p.2)=_
    congr 1
    rw [Bool.eq_iff_iff,beq_iff_eq,List.contains_iff_mem]
    constructor
    ·intro e;have:q=p:=Prod.ext e1 e;exact this▸hq
    ·intro hm
     have a:=(Fp wK.nd).mpr hm
     rw [hl] at a
     exact AV.int.inj (oQ a)
  have hE:=HW (k:=k) (Al (op:=.Eq) (CY (m:=6) (args:=[.var 153]) (Ac (Ab (y:=153) (v:=.int p.1) r2 rfl)) hd (Aa (Ac l0) rfl) (DH hd p.1)) hv hq) rfl
  show _=some (g (.int p.1),σ)
  rw [hg p hp]
  cases hb:K.contains p<;>rw [hb] at hE
  ·exact SK rfl hE
  ·exact SH rfl hE (Ac l0) hv) AC 0 [] (by rw [List.length_map,Cq,Nat.zero_add];exact Nat.lt_of_le_of_lt wH.len (by decide)) (Nat.zero_le _) (by
   rw [List.drop_zero,hm H fun p hp=>hp];exact Dw (wH.mt K).nd)
 rw [List.drop_zero,hm H fun p hp=>hp] at hc
 exact SC (Ac r1) hh rfl hc
end
section
theorem Eo {α:Type} [DecidableEq α]:∀ {l m:List α},l.Nodup→(∀ x∈l,x∈m)→l.length≤m.length
 | [],_,_,_=>Nat.zero_le _
 | a::l,m,hn,hs=>by
  have hc:=List.nodup_cons.mp hn
  have ha:=hs a (.head _)
  have ih:=Eo (m:=m.erase a) hc.2 fun x hx=>(List.mem_erase_of_ne (show x≠a by rintro rfl;exact hc.1 hx)).mpr (hs x (.tail _ hx))
  rw [List.length_erase_of_mem ha] at ih
  have:=List.length_pos_of_mem ha
  rw [List.length_cons];exact om69 ih this
theorem DS (b k:Int) (v:AV):∀ l:List (Int×AV),Ao b (Br k v l)=if b=k then some v else Ao b l
 | []=>rfl
 | (y,w)::r=>by
  unfold Br
  by_cases h:k=y
  ·subst h
   rw [if_pos rfl]
   unfold Ao
   split<;>rfl
  ·rw [if_neg h]
   show (if b=y then some w else Ao b (Br k v r))=if b=k then some v else if b=y then some w else Ao b r
   rw [DS b k v r]
   by_cases hb:b=y
   ·subst hb;rw [if_pos rfl,if_pos rfl,if_neg (Ne.symm h)]
   ·rw [if_neg hb,if_neg hb]
theorem FH:∀ {l:List (Int×AV)} {k:Int} {v:AV} {x:Int},x∈(Br k v l).map (·.1)→x=k∨x∈l.map (·.1)
 | [],k,v,x,h=>.inl (List.mem_singleton.mp h)
 | (y,w)::r,k,v,x,h=>by
  unfold Br at h
  by_cases e:k=y
  ·rw [if_pos e] at h;exact .inr h
  ·rw [if_neg e] at h
   rcases List.mem_cons.mp h with h | h
   ·exact .inr (h▸.head _)
   ·exact (FH h).imp id fun h=>.tail _ h
theorem Jr:∀ {l:List (Int×AV)} {k:Int} {v:AV},Nd l→Nd (Br k v l)
 | [],_,_,_=>List.nodup_cons.mpr ⟨List.not_mem_nil,List.nodup_nil⟩
 | (y,w)::r,k,v,h=>by
  have hc:=List.nodup_cons.mp h
  unfold Br
  by_cases e:k=y
  ·rw [if_pos e];exact h
  ·rw [if_neg e]
   exact List.nodup_cons.mpr ⟨fun hm=>(FH hm).elim (fun e'=>e e'.symm) hc.1,Jr hc.2⟩
inductive BegAt (σ:St) (be N:Nat) (Bm:Int→Option KP):Prop where
 | mk (B:List (Int×AV)) (h:σ[be]?=some (.dI B)) (nd:Nd B) (rg:∀ p∈B,0≤p.1∧p.1 < N) (no:∀ b,Ao b B=none→Bm b=none)
  (so:∀ b v,Ao b B=some v→∃ dn K,v=.loc dn∧dn≠be∧σ[dn]?=some (.dI (AW K))∧WfP K∧Bm b=some K)
theorem Nq {B:List (Int×AV)} {N:Nat} (nd:Nd B) (rg:∀ p∈B,0≤p.1∧p.1 < (N:Int)):B.length≤N:=by
 have:=Eo (l:=B.map (·.1)) (m:=(List.range N).map Int.ofNat) nd fun x hx=>by
  obtain ⟨p,hp,rfl⟩:=List.mem_map.mp hx
  obtain ⟨h0,h1⟩:=rg p hp
  exact List.mem_map.mpr ⟨p.1.toNat,List.mem_range.mpr (by exact om3 h0 h1),Int.toNat_of_nonneg h0⟩
 rwa [List.length_map,List.length_map,List.length_range] at this
theorem BegAt.ext {σ σ':St} {be N:Nat} {Bm:Int→Option KP} (h:BegAt σ be N Bm) (E:Ext σ σ'):BegAt σ' be N Bm:=by
 obtain ⟨B,h1,nd,rg,no,so⟩:=h
 exact ⟨B,E _ _ h1,nd,rg,no,fun b v e=>let ⟨dn,K,e1,e2,e3,e4⟩:=so b v e;⟨dn,K,e1,e2,E _ _ e3,e4⟩⟩
theorem BegAt.extL {σ σ':St} {be N a:Nat} {Bm:Int→Option KP} {l:List AV} (h:BegAt σ be N Bm) (E:ExtB a σ σ') (ha:σ[a]?=some (.list l)):BegAt σ' be N Bm:=by
 obtain ⟨B,h1,nd,rg,no,so⟩:=h
 have ne:∀ {i:Nat} {D:List (Int×AV)},σ[i]?=some (.dI D)→i≠a:=fun hi=>BZ hi ha (by simp)
 exact ⟨B,E _ _ (ne h1) h1,nd,rg,no,fun b v e=>let ⟨dn,K,e1,e2,e3,e4⟩:=so b v e;⟨dn,K,e1,e2,E _ _ (ne e3) e3,e4⟩⟩
noncomputable def CV (Bm:Int→Option KP) (g:Int) (K:KP):Int→Option KP:=fun b=>if b=g then some (match Bm g with
 | none=>K
 | some H=>IK H K) else Bm b
noncomputable def Lu (Bm:Int→Option KP) (g:Int) (K:KP):Bool:=match Bm g with
 | none=>true
 | some H=>decide ((IK H K).length < H.length)
theorem d160:prog.defs (21,160)=some E9:=rfl
theorem Pl {σ:St} {a:Nat} {B:List (Int×AV)} (h:σ[a]?=some (.dI B)) (g:Int):A9 σ .NotIn (.int g) (.loc a)=some (!(Ao g B).isSome):=by
 show Option.map not (match σ[a]? with | some (.list l)=>_ | some (.dI l)=>_ | _=>_)=_
 rw [h];rfl
theorem BegAt.put {σ:St} {be N:Nat} {Bm:Int→Option KP} {B:List (Int×AV)} {g:Int} {K':KP} {dn:Nat} (h:σ[be]?=some (.dI B)) (nd:Nd B) (rg:∀ p∈B,0≤p.1∧p.1 < (N:Int)) (no:∀ b,Ao b B=none→Bm b=none)
  (so:∀ b v,Ao b B=some v→∃ dn K,v=.loc dn∧dn≠be∧σ[dn]?=some (.dI (AW K))∧WfP K∧Bm b=some K) (hg:0≤g∧g < (N:Int)) (hd:σ[dn]?=some (.dI (AW K'))) (hne:dn≠be) (wK:WfP K')
  {Bm':Int→Option KP} (hb:∀ b,Bm' b=if b=g then some K' else Bm b):BegAt (σ.set be (.dI (Br g (.loc dn) B))) be N Bm':=by
 refine ⟨Br g (.loc dn) B,AQ h,Jr nd,fun p hp=>?_,fun b e=>?_,fun b v e=>?_⟩
 ·rcases FH (List.mem_map.mpr ⟨p,hp,rfl⟩) with e | e
  ·rw [e];exact hg
  ·obtain ⟨q,hq,e⟩:=List.mem_map.mp e
   rw [←e];exact rg q hq
 ·rw [DS] at e
  rw [hb]
  by_cases hbg:b=g
  ·rw [if_pos hbg] at e;cases e
  ·rw [if_neg hbg] at e ⊢;exact no b e
 ·rw [DS] at e
  rw [hb]
  by_cases hbg:b=g
  ·rw [if_pos hbg] at e ⊢
   exact ⟨dn,K',(oQ e).symm,hne,AR hd (Ne.symm hne),wK,rfl⟩
  ·rw [if_neg hbg] at e ⊢
   obtain ⟨dn',K,e1,e2,e3,e4⟩:=so b v e
   exact ⟨dn',K,e1,e2,AR e3 (Ne.symm e2),e4⟩
theorem H2 (k:Nat) {σ:St} {c b oth be kd N:Nat} {Bm:Int→Option KP} {g:Int} {K:KP} (C1:σ[c]?=some (.inst 21 [(78,.loc b),(182,.loc oth),(73,.loc be)])) (hB:BegAt σ be N Bm) (hN:N < 1000) (hg:0≤g∧g < (N:Int)) (hd:σ[kd]?=some (.dI (AW K))) (wK:WfP K) :
  ∃ σ',Ca (k+1) (21,160) [.loc c,.int g,.loc kd] σ (.bool (Lu Bm g K)) σ'∧ExtB be σ σ'∧BegAt σ' be N (CV Bm g K):=by
 obtain ⟨B,h1,nd,rg,no,so⟩:=hB
 have hBl:B.length < 1000000:=Nat.lt_of_le_of_lt (Nq nd rg) (Nat.lt_trans hN (by decide))
 have hKl:∀ {H:KP},WfP H→(AW H).length≤1000000:=fun w=>by rw [Cq];exact Nat.le_trans w.len (by decide)
 have hq:=Pl h1 g
 generalize hl:Ao g B=zz2
 induction zz2 using Option.casesOn with
 | none=>
  have hm:=no g hl
  rw [hl] at hq
  have x1:=Ext.app1 σ (AO.dI (AW K))
  have hnew:=Ad σ (AO.dI (AW K))
  refine ⟨(σ++[AO.dI (AW K)]).set be (.dI (Br g (.loc σ.length) B)),?_,(ExtB.of x1).trans (ExtB.set _ _),?_⟩
  ·have:Lu Bm g K=true:=by unfold Lu;rw [hm]
   rw [this]
   exact An (Ag rfl) d160 rfl (AJ (Al rfl (AN rfl C1 rfl) hq) rfl (Fh (Bx rfl (GB hd (hKl wK))) (AN rfl (x1 _ _ C1) rfl) rfl (x1 _ _ h1) hBl rfl))
  ·exact BegAt.put (K':=K) (x1 _ _ h1) nd rg no (fun b v e=>let ⟨dn,K,e1,e2,e3,e4⟩:=so b v e;⟨dn,K,e1,e2,x1 _ _ e3,e4⟩) hg hnew (Ne.symm (Nat.ne_of_lt (Bc h1))) wK (fun b=>by unfold CV;rw [hm])
 | some v=>
  obtain ⟨dn,H,rfl,hne,hdn,wH,hm⟩:=so g v hl
  rw [hl] at hq
  have hlk:=(idx_dI h1 g).trans hl
  have hk:=So k wH wK hdn hd (ρ:=[(206,.loc c),(171,.int g),(137,.loc kd),(120,.loc dn)]) rfl rfl
  have x1:=Ext.app1 σ (AO.dI (AW (IK H K)))
  have hnew:=Ad σ (AO.dI (AW (IK H K)))
  have hnb:σ.length≠be:=Ne.symm (Nat.ne_of_lt (Bc h1))
  have hl1:=Li (AR (z:=.dI (Br g (.loc σ.length) B)) hnew (Ne.symm hnb)) (hKl (wH.mt K))
  have hl2:=Li (AR (z:=.dI (Br g (.loc σ.length) B)) (x1 _ _ hdn) (Ne.symm hne)) (hKl wH)
  refine ⟨(σ++[AO.dI (AW (IK H K))]).set be (.dI (Br g (.loc σ.length) B)),?_,(ExtB.of x1).trans (ExtB.set _ _),?_⟩
  ·have:Lu Bm g K=decide (((AW (IK H K)).length:Int) < (AW H).length):=by
    unfold Lu;rw [hm,Cq,Cq]
    show decide _=decide _
    congr 1
    exact propext Int.ofNat_lt.symm
   rw [this]
   exact An (Ag rfl) d160 rfl (Ak (Al rfl (AN rfl C1 rfl) hq) rfl (Ah (As (AN rfl C1 rfl) rfl hlk) rfl (Ah hk rfl (Fh rfl (AN rfl (x1 _ _ C1) rfl) rfl (x1 _ _ h1) hBl (Az (Al (Bx rfl hl1) (Bx rfl hl2) rfl))))))
  ·exact BegAt.put (K':=IK H K) (x1 _ _ h1) nd rg no (fun b v e=>let ⟨dn,K,e1,e2,e3,e4⟩:=so b v e;⟨dn,K,e1,e2,x1 _ _ e3,e4⟩) hg hnew hnb (wH.mt K) (fun b=>by unfold CV;rw [hm])
end
section
noncomputable abbrev PR:=Int×Int
noncomputable def Ox (d:Deed) (p:PR) (h:Bool):Bool:=match d.w with
 | .copy=>if d.one==p.1&&d.oth==p.2 then true else if d.one==p.1 || d.one==p.2 then false else h
 | .print=>h
 | .move=>if (d.one==p.1 || d.one==p.2) || (d.oth==p.1 || d.oth==p.2) then false else h
 | _=>if d.one==p.1 || d.one==p.2 then false else h
noncomputable def EW (r:Row) (p:PR) (h:Bool):Bool:=r.all.foldl (fun h d=>Ox d p h) h
theorem HP (x:Int) (K:KP) (p:PR):(KM x K).contains p=if x==p.1 || x==p.2 then false else K.contains p:=by
 rw [Bool.eq_iff_iff,List.contains_iff_mem]
 unfold KM
 rw [List.mem_filter,show (p.1==x)=(x==p.1) from Bool.beq_comm,show (p.2==x)=(x==p.2) from Bool.beq_comm]
 cases x==p.1 || x==p.2
 ·rw [if_neg bQ,List.contains_iff_mem];exact ⟨fun h=>h.1,fun h=>⟨h,rfl⟩⟩
 ·show _↔false=true
  exact ⟨fun h=>absurd h.2 bQ,fun h=>absurd h bQ⟩
theorem st_ev (d:Deed) (K:KP) (p:PR):(J4 d K).contains p=Ox d p (K.contains p):=by
 obtain ⟨w,one,oth⟩:=d
 induction w using DW.casesOn with
 | print=>rfl
 | live=>exact HP one K p
 | dead=>exact HP one K p
 | out=>exact HP one K p
 | const=>exact HP one K p
 | move=>
  show (KM one (KM oth K)).contains p=if (one==p.1 || one==p.2) || (oth==p.1 || oth==p.2) then false else K.contains p
  rw [HP,HP]
  cases one==p.1 || one==p.2
  ·rw [if_neg bQ,Bool.false_or]
  ·rw [if_pos rfl,Bool.true_or,if_pos rfl]
 | copy=>
  show (KM one K++[(one,oth)]).contains p=if one==p.1&&oth==p.2 then true else if one==p.1 || one==p.2 then false else K.contains p
  have e:([(one,oth)]:KP).contains p=(one==p.1&&oth==p.2):=by
   rw [List.contains_cons,List.contains_nil,Bool.or_false,Bool.eq_iff_iff,beq_iff_eq,Bool.and_eq_true,beq_iff_eq,beq_iff_eq]
   exact ⟨fun h=>by rw [h];exact ⟨rfl,rfl⟩,fun h=>Prod.ext h.1.symm h.2.symm⟩
  rw [List.contains_append,HP,e]
  cases one==p.1&&oth==p.2
  ·rw [Bool.or_false,if_neg bQ]
  ·rw [Bool.or_true,if_pos rfl]
theorem M5 (p:PR):∀ (l:List Deed) (K:KP),(l.foldl (fun K d=>J4 d K) K).contains p=l.foldl (fun h d=>Ox d p h) (K.contains p)
 | [],_=>rfl
 | d::r,K=>by
  rw [List.foldl_cons,List.foldl_cons,M5 p r,st_ev]
theorem Pg (r:Row) (K:KP) (p:PR):(C9 r K).contains p=EW r p (K.contains p):=M5 p r.all K
theorem Qd (d:Deed) (p:PR):(∃ b,∀ h,Ox d p h=b)∨∀ h,Ox d p h=h:=by
 obtain ⟨w,one,oth⟩:=d
 have key:∀ (c:Bool),(∃ b,∀ h:Bool,(if c=true then false else h)=b)∨∀ h:Bool,(if c=true then false else h)=h:=fun c=>by
  cases c
  ·exact .inr fun h=>rfl
  ·exact .inl ⟨false,fun h=>rfl⟩
 induction w using DW.casesOn with
 | print=>exact .inr fun h=>rfl
 | copy=>
  show (∃ b,∀ h:Bool,(if one==p.1&&oth==p.2 then true else if one==p.1 || one==p.2 then false else h)=b)∨∀ h:Bool,(if one==p.1&&oth==p.2 then true else if one==p.1 || one==p.2 then false else h)=h
  cases one==p.1&&oth==p.2
  ·exact key _
  ·exact .inl ⟨true,fun h=>rfl⟩
 | move=>exact key _
 | live=>exact key _
 | dead=>exact key _
 | out=>exact key _
 | const=>exact key _
theorem IX (p:PR):∀ (l:List Deed) (a b:Bool),(a=true→b=true)→l.foldl (fun h d=>Ox d p h) a=true→l.foldl (fun h d=>Ox d p h) b=true
 | [],_,_,h,e=>h e
 | d::r,a,b,h,e=>by
  refine IX p r (Ox d p a) (Ox d p b) (fun e=>?_) e
  rcases Qd d p with ⟨c,hc⟩ | hc
  ·rw [hc] at e ⊢;exact e
  ·rw [hc] at e ⊢;exact h e
theorem KR {r:Row} {p:PR} {a b:Bool} (h:a=true→b=true) (e:EW r p a=true):EW r p b=true:=IX p r.all a b h e
section
variable (rows:List Row)
inductive Reach (p:PR):Int→Bool→Prop where
 | start:Reach p 0 false
 | step {b g:Int} {h:Bool} {r:Row} (x:Reach p b h) (hr:rows[b.toNat]?=some r) (hg:g∈G3 r.e):Reach p g (EW r p h)
noncomputable def Edge (r:Row) (K:KP) (x:Option KP):Prop:=∃ K',x=some K'∧∀ p,K'.contains p=true→(C9 r K).contains p=true
structure FJ (Bm:Int→Option KP) (left:List Int) (n:Int) (K0:KP) (S:List Int):Prop where
 zero:Bm 0=some []
 inr:∀ b K,Bm b=some K→0≤b∧b < rows.length∧WfP K
 reach:∀ b K p,Bm b=some K→(∃ h,Reach rows p b h)∧(K.contains p=false→Reach rows p b false)
 lft:∀ b∈left,∃ K,Bm b=some K
 same:n∉left→Bm n=some K0
 post:∀ b K,Bm b=some K→b∉left→∀ r g,rows[b.toNat]?=some r→g∈G3 r.e→(b=n→g∈S)→Edge r K (Bm g)
end
theorem MN {H K:KP} (h:(IK H K).length < H.length→False):IK H K=H:=by
 unfold IK at *
 refine List.filter_eq_self.mpr (List.length_filter_eq_length_iff.mp (Nat.le_antisymm (List.length_filter_le _ _) (Nat.not_lt.mp h)))
variable {rows:List Row}
theorem FJ.meet {Bm:Int→Option KP} {left:List Int} {n g:Int} {K0:KP} {S:List Int} {r:Row} (J:FJ rows Bm left n K0 S) (hr:rows[n.toNat]?=some r) (hok:r.ok) (wK:WfP K0) (hgr:g∈G3 r.e) (hgi:0≤g∧g < rows.length)
  (hn:∀ p,(∃ h,Reach rows p n h)∧(K0.contains p=false→Reach rows p n false)) :
  FJ rows (CV Bm g (C9 r K0)) (if Lu Bm g (C9 r K0) then left++[g] else left) n K0 (S++[g]):=by
 have wO:=wK.out hok
 have hout:∀ p,(∃ h,Reach rows p g h)∧((C9 r K0).contains p=false→Reach rows p g false):=fun p=>by
  obtain ⟨⟨h,hh⟩,h2⟩:=hn p
  refine ⟨⟨_,.step hh hr hgr⟩,fun e=>?_⟩
  rw [Pg] at e
  cases hc:K0.contains p
  ·rw [hc] at e;exact e▸.step (h2 hc) hr hgr
  ·rw [hc] at e
   have:EW r p h=false:=by
    cases hx:EW r p h
    ·rfl
    ·exact absurd (KR (fun _=>rfl) hx) (by rw [e];exact bQ)
   exact this▸.step hh hr hgr
 by_cases hch:Lu Bm g (C9 r K0)=true
 ·rw [if_pos hch]
  have hself:CV Bm g (C9 r K0) g=some (match Bm g with
    | none=>C9 r K0
    | some H=>IK H (C9 r K0)):=if_pos rfl
  have hoth:∀ b,b≠g→CV Bm g (C9 r K0) b=Bm b:=fun b hb=>if_neg hb
  have hnew:∀ p,(match Bm g with
    | none=>C9 r K0
    | some H=>IK H (C9 r K0)).contains p=true→(C9 r K0).contains p=true∧∀ H,Bm g=some H→H.contains p=true:=fun p hp=>by
   generalize hb:Bm g=zz2
   induction zz2 using Option.casesOn with
   | none=>rw [hb] at hp;exact ⟨hp,fun H e=>by cases e⟩
   | some H=>
    rw [hb] at hp
    have:=List.mem_filter.mp (List.contains_iff_mem.mp hp)
    exact ⟨this.2,fun H' e=>by (cases e);exact List.contains_iff_mem.mpr this.1⟩
  refine ⟨?_,fun b K e=>?_,fun b K p e=>?_,fun b hb=>?_,fun hn'=>?_,fun b K e hb r' g' hr' hg' hS=>?_⟩
  ·by_cases h0:(0:Int)=g
   ·rw [←h0] at hself ⊢;rw [hself,J.zero];rfl
   ·rw [hoth 0 h0];exact J.zero
  ·by_cases hbg:b=g
   ·subst hbg
    rw [hself] at e
    refine ⟨hgi.1,hgi.2,?_⟩
    generalize hb:Bm b=zz4
    induction zz4 using Option.casesOn with
    | none=>rw [hb] at e;(cases e);exact wO
    | some H=>rw [hb] at e;(cases e);exact (J.inr b H hb).2.2.mt _
   ·rw [hoth b hbg] at e;exact J.inr b K e
  ·by_cases hbg:b=g
   ·subst hbg
    rw [hself] at e
    refine ⟨(hout p).1,fun hc=>?_⟩
    generalize hb:Bm b=zz7
    induction zz7 using Option.casesOn with
    | none=>rw [hb] at e;(cases e);exact (hout p).2 hc
    | some H=>
     rw [hb] at e;cases e
     generalize ho:(C9 r K0).contains p=zz10
     induction zz10 using Bool.casesOn with
     | false=>exact (hout p).2 ho
     | true=>
      refine (J.reach b H p hb).2 ?_
      generalize hH:H.contains p=zz11
      induction zz11 using Bool.casesOn with
      | false=>rfl
      | true=>
       have:(IK H (C9 r K0)).contains p=true:=List.contains_iff_mem.mpr (List.mem_filter.mpr ⟨List.contains_iff_mem.mp hH,ho⟩)
       rw [this] at hc;cases hc
   ·rw [hoth b hbg] at e;exact J.reach b K p e
  ·by_cases hbg:b=g
   ·subst hbg;exact ⟨_,hself⟩
   ·rw [hoth b hbg]
    rcases List.mem_append.mp hb with h | h
    ·exact J.lft b h
    ·exact absurd (List.mem_singleton.mp h) hbg
  ·have h1:n∉left:=fun h=>hn' (List.mem_append_left _ h)
   have h2:n≠g:=fun h=>hn' (List.mem_append_right _ (List.mem_singleton.mpr h))
   rw [hoth n h2];exact J.same h1
  ·have h1:b∉left:=fun h=>hb (List.mem_append_left _ h)
   have h2:b≠g:=fun h=>hb (List.mem_append_right _ (List.mem_singleton.mpr h))
   rw [hoth b h2] at e
   by_cases hgg:g'=g
   ·subst hgg
    refine ⟨_,hself,fun p hp=>?_⟩
    obtain ⟨q1,q2⟩:=hnew p hp
    by_cases hbn:b=n
    ·subst hbn
     rw [J.same h1] at e
     cases e
     rw [hr] at hr'
     cases hr'
     exact q1
    ·obtain ⟨K',e1,e2⟩:=J.post b K e h1 r' g' hr' hg' fun h=>absurd h hbn
     exact e2 p (q2 K' e1)
   ·rw [hoth g' hgg]
    exact J.post b K e h1 r' g' hr' hg' fun h=>(List.mem_append.mp (hS h)).elim id fun h=>absurd (List.mem_singleton.mp h) hgg
 ·rw [if_neg hch]
  have hsame:∃ H,Bm g=some H∧IK H (C9 r K0)=H:=by
   unfold Lu at hch
   generalize hb:Bm g=zz15
   induction zz15 using Option.casesOn with
   | none=>rw [hb] at hch;exact absurd rfl hch
   | some H=>
    rw [hb] at hch
    exact ⟨H,rfl,MN fun h=>hch (decide_eq_true h)⟩
  obtain ⟨H,hH,hHm⟩:=hsame
  have hB:CV Bm g (C9 r K0)=Bm:=by
   funext b
   unfold CV
   by_cases hbg:b=g
   ·subst hbg;rw [if_pos rfl,hH];exact congrArg some hHm
   ·rw [if_neg hbg]
  rw [hB]
  refine ⟨J.zero,J.inr,J.reach,J.lft,J.same,fun b K e hb r' g' hr' hg' hS=>?_⟩
  by_cases hgg:b=n∧g'=g
  ·obtain ⟨rfl,rfl⟩:=hgg
   rw [J.same hb] at e
   cases e
   rw [hr] at hr'
   cases hr'
   refine ⟨H,hH,fun p hp=>?_⟩
   rw [←hHm] at hp
   exact (List.mem_filter.mp (List.contains_iff_mem.mp hp)).2
  ·exact J.post b K e hb r' g' hr' hg' fun h=>(List.mem_append.mp (hS h)).elim id fun h'=>absurd ⟨h,List.mem_singleton.mp h'⟩ hgg
end
section
theorem Gp {test:At→St→Option (Bool×St)} {body:At→St→Option (AF×At×St)} (I:Nat→At→St→Prop) (Q:At→St→Prop)
  (hs:∀ m ρ σ,I m ρ σ→(∃ σ',test ρ σ=some (false,σ')∧Q ρ σ')∨∃ σ' ρ'' σ'' m',test ρ σ=some (true,σ')∧body ρ σ'=some (.next,ρ'',σ'')∧m' < m∧I m' ρ'' σ'') :
  ∀ (n m:Nat) (ρ:At) (σ:St),m < n→I m ρ σ→∃ ρ' σ',HG test body n ρ σ=some (.next,ρ',σ')∧Q ρ' σ'
 | 0,m,ρ,σ,h,_=>absurd h (Nat.not_lt_zero _)
 | n+1,m,ρ,σ,h,hI=>by
  rcases hs m ρ σ hI with ⟨σ',h1,h2⟩ | ⟨σ',ρ'',σ'',m',h1,h2,h3,h4⟩
  ·exact ⟨ρ,σ',Ap h1 rfl,h2⟩
  ·obtain ⟨ρ₃,σ₃,h5,h6⟩:=Gp I Q hs n m' ρ'' σ'' (Nat.lt_of_lt_of_le h3 (Nat.le_of_lt_succ h)) h4
   exact ⟨ρ₃,σ₃,Ap h1 (EZ h2 h5),h6⟩
noncomputable def wt:Option KP→Nat
 | none=>3
 | some K=>K.length
noncomputable def Ls (Bm:Int→Option KP):Nat→Nat
 | 0=>0
 | n+1=>Ls Bm n+wt (Bm n)
theorem HA {Bm Bm':Int→Option KP}:∀ {N:Nat},(∀ i:Nat,i < N→Bm' i=Bm i)→Ls Bm' N=Ls Bm N
 | 0,_=>rfl
 | n+1,h=>by
  unfold Ls
  rw [HA fun i hi=>h i (Nat.lt_succ_of_lt hi),h n (Nat.lt_succ_self n)]
theorem Kk {Bm Bm':Int→Option KP} {g:Nat} (hg:wt (Bm' g) < wt (Bm g)) (ho:∀ b:Int,b≠g→Bm' b=Bm b):∀ {N:Nat},g < N→Ls Bm' N < Ls Bm N
 | 0,h=>absurd h (Nat.not_lt_zero _)
 | n+1,h=>by
  unfold Ls
  by_cases e:g=n
  ·subst e
   rw [HA (Bm:=Bm) (Bm':=Bm') fun i hi=>ho i (by intro e;exact absurd (Int.ofNat.inj e) (Nat.ne_of_lt hi))]
   exact Nat.add_lt_add_left hg _
  ·have ih:=Kk hg ho (N:=n) (Nat.lt_of_le_of_ne (Nat.le_of_lt_succ h) e)
   rw [ho n (by intro e';exact e (Int.ofNat.inj e').symm)]
   exact Nat.add_lt_add_right ih _
theorem Pa {Bm:Int→Option KP} {g:Int} {K:KP} {N:Nat} (wK:WfP K) (hg:0≤g∧g < (N:Int)) (hc:Lu Bm g K=true):Ls (CV Bm g K) N < Ls Bm N:=by
 obtain ⟨h0,h1⟩:=hg
 obtain ⟨j,rfl⟩:=Int.eq_ofNat_of_zero_le h0
 refine Kk (g:=j) ?_ (fun b hb=>if_neg hb) (by exact om4 h1)
 have e:CV Bm j K j=some (match Bm j with
  | none=>K
  | some H=>IK H K):=if_pos rfl
 show wt (CV Bm j K j) < _
 rw [e]
 unfold Lu at hc
 generalize hb:Bm j=zz1
 induction zz1 using Option.casesOn with
 | none=>exact Nat.lt_of_le_of_lt wK.len (by decide)
 | some H=>rw [hb] at hc;exact of_decide_eq_true hc
variable {rows:List Row}
structure FI (rows:List Row) (Bm:Int→Option KP) (left:List Int):Prop where
 zero:Bm 0=some []
 inr:∀ b K,Bm b=some K→0≤b∧b < rows.length∧WfP K
 reach:∀ b K p,Bm b=some K→(∃ h,Reach rows p b h)∧(K.contains p=false→Reach rows p b false)
 lft:∀ b∈left,∃ K,Bm b=some K
 post:∀ b K,Bm b=some K→b∉left→∀ r g,rows[b.toNat]?=some r→g∈G3 r.e→Edge r K (Bm g)
theorem FI.pop {Bm:Int→Option KP} {left:List Int} {n:Int} {K0:KP} (F:FI rows Bm (left++[n])) (hK:Bm n=some K0):FJ rows Bm left n K0 []:=
 ⟨F.zero,F.inr,F.reach,fun b hb=>F.lft b (List.mem_append_left _ hb),fun _=>hK,fun b K e hb r g hr hg hS=>by
  by_cases h:b=n
  ·exact absurd (hS h) List.not_mem_nil
  ·exact F.post b K e (fun hm=>(List.mem_append.mp hm).elim hb fun h'=>h (List.mem_singleton.mp h')) r g hr hg⟩
theorem FJ.all {Bm:Int→Option KP} {left:List Int} {n:Int} {K0:KP} {S:List Int} {r:Row} (J:FJ rows Bm left n K0 S) (hr:rows[n.toNat]?=some r) (hS:∀ g∈G3 r.e,g∈S):FI rows Bm left:=
 ⟨J.zero,J.inr,J.reach,J.lft,fun b K e hb r' g hr' hg=>J.post b K e hb r' g hr' hg fun h=>by
  subst h
  rw [hr] at hr';cases hr'
  exact hS g hg⟩
theorem JN (acc:List Int) (b g:Int):g∈dd acc (some b)↔g∈acc∨g=b:=by
 show g∈(if acc.contains b then acc else acc++[b])↔_
 by_cases h:acc.contains b=true
 ·rw [if_pos h]
  exact ⟨.inl,fun h'=>h'.elim id fun e=>e▸List.contains_iff_mem.mp h⟩
 ·rw [if_neg h,List.mem_append,List.mem_singleton]
theorem J8 (e:EK) (g:Int):g∈Cg (Dh e)↔g∈G3 e:=by
 induction e using EK.casesOn with
 | goto a=>exact Iff.rfl
 | ret=>exact Iff.rfl
 | call l a=>exact Iff.rfl
 | sw a o=>
  show g∈dd (dd [] (some a)) (some o)↔g∈[a,o]
  rw [JN,JN,List.mem_cons,List.mem_singleton]
  exact ⟨fun h=>h.imp (fun h=>h.resolve_left List.not_mem_nil) id,fun h=>h.imp .inr id⟩
 | swm l a o=>
  show g∈dd (dd [] (some a)) (some o)↔g∈[a,o]
  rw [JN,JN,List.mem_cons,List.mem_singleton]
  exact ⟨fun h=>h.imp (fun h=>h.resolve_left List.not_mem_nil) id,fun h=>h.imp .inr id⟩
theorem IF (e:EK):(IE (Dh e)).length < 1000:=by cases e<;>first | exact (by decide:1 < 1000) | exact (by decide:2 < 1000) | exact (by decide:0 < 1000)
structure RowsOk (rows:List Row):Prop where
 ok:∀ r∈rows,r.ok
 tg:∀ r∈rows,∀ g∈G3 r.e,0≤g∧g < rows.length
 len:rows.length < 1000
 pos:0 < rows.length
theorem d109:prog.defs (21,109)=some D4:=rfl
theorem IL {σ:St} {a:Nat} {l:List AV} {v:AV} (h:σ[a]?=some (.list (l++[v]))) (hl:l.length < 1000000):Db false 4 (.loc a) [] σ=some (v,σ.set a (.list l)):=by
 refine (HD h _ _).trans ((if_pos (show (l++[v]).length≤1000000 by rw [List.length_append];exact hl)).trans ?_)
 rw [List.getLast?_concat,List.dropLast_concat];rfl
theorem LY {σ:St} {a:Nat} {l:List AV} (h:σ[a]?=some (.list l)):A9 (σ++[AO.list []]) .NotEq (.loc a) (.loc σ.length)=some (!(l.length==0)):=by
 show Option.map not (Ig _ (σ++[AO.list []])[a]? (σ++[AO.list []])[σ.length]?)=_
 rw [Af h,Ad]
 cases l<;>rfl
noncomputable def JK:List PS:=[
   .ifs (.meth (.var 206) 160 [.var 76,.var 137]) [
    .expr (.meth (.var 143) 3 [.var 76])] []]
structure FoJ (rows:List Row) (σ₀:St) (c b oth be lf a d:Nat) (L:List Int) (O:KP) (n:Int) (K0:KP) (m:Nat) (i:Nat) (ρ:At) (σ:St):Prop where
 r1:look 206 ρ=some (.loc c)
 r2:look 143 ρ=some (.loc lf)
 r3:look 137 ρ=some (.loc d)
 x:Ext σ₀ σ
 C:CopAt σ c b oth be
 sd:σ[d]?=some (.dI (AW O))
 sa:σ[a]?=some (.list (L.map .int))
 g:∃ left Bm,σ[lf]?=some (.list (left.map .int))∧BegAt σ be rows.length Bm∧FJ rows Bm left n K0 (L.take i)∧Ls Bm rows.length+left.length≤m
theorem Sc (R:RowsOk rows) (k:Nat) {σ₀:St} {c b oth be lf a d:Nat} {O K0:KP} {n:Int} {m:Nat} {r:Row} (hr:rows[n.toNat]?=some r) (hO:O=C9 r K0) (wK:WfP K0) (hm:m < 90000)
  (hn:∀ p,(∃ h,Reach rows p n h)∧(K0.contains p=false→Reach rows p n false)) (e1:oth≠be) (e2:d≠be) (e3:a≠lf) (e4:σ₀.length≤be) (e5:σ₀.length≤lf)
  {i:Nat} {g:Int} (hg:(Cg (Dh r.e))[i]?=some g) {ρ:At} {σ:St} (J:FoJ rows σ₀ c b oth be lf a d (Cg (Dh r.e)) O n K0 m i ρ σ) :
  ∃ σ',DD prog.gtup (AT prog (k+1)) JK (put 76 (.int g) ρ) σ=some (.next,put 76 (.int g) ρ,σ')∧FoJ rows σ₀ c b oth be lf a d (Cg (Dh r.e)) O n K0 m (i+1) (put 76 (.int g) ρ) σ':=by
 obtain ⟨left,Bm,hleft,hB,F,hphi⟩:=J.g
 have hmem:=List.mem_of_getElem? hr
 have hgr:=(J8 r.e g).mp (List.mem_of_getElem? hg)
 have hgi:=R.tg r hmem g hgr
 have wO:WfP O:=hO▸wK.out (R.ok r hmem)
 obtain ⟨C1,C2⟩:=J.C
 obtain ⟨σ₁,h1,x1,hB1⟩:=H2 k C1 hB R.len hgi J.sd wO
 have F1:=F.meet hr (R.ok r hmem) wK hgr hgi hn
 rw [←hO] at F1
 have hT:(Cg (Dh r.e)).take (i+1)=(Cg (Dh r.e)).take i++[g]:=by rw [List.take_add_one,hg];rfl
 obtain ⟨B,hBe,_⟩:=id hB
 have nlf:lf≠be:=BZ hleft hBe (by simp)
 have C1':=x1 _ _ (BZ C1 hBe (by simp)) C1
 have C2':=x1 _ _ e1 C2
 have sd':=x1 _ _ e2 J.sd
 have sa':=x1 _ _ (BZ J.sa hBe (by simp)) J.sa
 have lf':=x1 _ _ nlf hleft
 have X1:=x1.to J.x e4
 have q1:=Ab (y:=76) (v:=.int g) J.r1 rfl
 have q2:=Ab (y:=76) (v:=.int g) J.r2 rfl
 have q3:=Ab (y:=76) (v:=.int g) J.r3 rfl
 have hcall:=Ax (k:=k+1) (Ac q1) C1 rfl (Aa (Ac (Aj 76 (.int g) ρ)) (Aa (Ac q3) Ai)) h1
 by_cases hc:Lu Bm g O=true
 ·have hp:=Pa (N:=rows.length) wO hgi hc
  rw [hc] at hcall
  rw [if_pos hc] at F1
  have happ:=Da lf' (by rw [List.length_map];exact om70 hm hphi) (.int g)
  have hl2:(left.map AV.int++[.int g])=(left++[g]).map .int:=by rw [List.map_append];rfl
  rw [hl2] at happ
  have ndl:d≠lf:=BZ sd' lf' (by simp)
  refine ⟨σ₁.set lf (.list ((left++[g]).map .int)),Bu hcall rfl (A1 (CI (Ac q2) lf' (Aa (Ac (Aj _ _ _)) rfl) happ) rfl) rfl,q1,q2,q3,(ExtB.set σ₁ _).to X1 e5,⟨AR C1' (BZ lf' C1' (by simp)),AR C2' (BZ lf' C2' (by simp))⟩,AR sd' (Ne.symm ndl),AR sa' (Ne.symm e3),left++[g],_,AQ lf',hB1.extL (ExtB.set σ₁ _) lf',hT▸F1,?_⟩
  rw [List.length_append]
  show _+(left.length+1)≤m
  exact om71 hphi hp
 ·rw [Bool.not_eq_true] at hc
  rw [hc] at hcall
  rw [if_neg (by rw [hc];exact bQ)] at F1
  refine ⟨σ₁,Ak hcall rfl rfl,q1,q2,q3,X1,⟨C1',C2'⟩,sd',sa',left,_,lf',hB1,hT▸F1,?_⟩
  have hs:∀ b:Int,CV Bm g O b=Bm b:=fun b=>by
   unfold CV
   by_cases hb:b=g
   ·subst hb
    rw [if_pos rfl]
    unfold Lu at hc
    generalize hq:Bm b=zz4
    induction zz4 using Option.casesOn with
    | none=>rw [hq] at hc;cases hc
    | some H=>
     rw [hq] at hc
     have hc':decide ((IK H O).length < H.length)=false:=hc
     exact congrArg some (MN fun h=>by rw [decide_eq_true h] at hc';(cases hc'))
   ·rw [if_neg hb]
  rw [HA (Bm:=Bm) fun i _=>hs i];exact hphi
end
section
variable {rows:List Row}
structure FwI (rows:List Row) (σ₀:St) (c b oth be lf:Nat) (m:Nat) (ρ:At) (σ:St):Prop where
 r1:look 206 ρ=some (.loc c)
 r2:look 143 ρ=some (.loc lf)
 x:Ext σ₀ σ
 C:CopAt σ c b oth be
 hm:m < 90000
 g:∃ left Bm,σ[lf]?=some (.list (left.map .int))∧BegAt σ be rows.length Bm∧FI rows Bm left∧Ls Bm rows.length+left.length≤m
noncomputable def FoQ (rows:List Row) (σ₀:St) (c b oth be:Nat) (σ:St):Prop:=Ext σ₀ σ∧CopAt σ c b oth be∧∃ Bm,BegAt σ be rows.length Bm∧FI rows Bm []
theorem Sb (R:RowsOk rows) (k:Nat) {σ₀:St} {c b oth be lf m:Nat} (hb:BodAt σ₀ b rows) (e1:oth≠be) (e4:σ₀.length≤be) (e5:σ₀.length≤lf) {ρ:At} {σ:St} (hm:m < 90000) (r1:look 206 ρ=some (.loc c)) (r2:look 143 ρ=some (.loc lf)) (hx:Ext σ₀ σ) (C:CopAt σ c b oth be)
  {L:List Int} {n:Int} {Bm:Int→Option KP} (hl:σ[lf]?=some (.list ((L++[n]).map .int))) (hB:BegAt σ be rows.length Bm) (F:FI rows Bm (L++[n])) (hp:Ls Bm rows.length+(L.length+1)≤m) :
  ∃ ρ' σ',Xs (k+4) [
  .asg (.name 171) (.meth (.var 143) 4 []),
  .asg (.name 137) (.meth (.var 206) 74 [.var 171]),
  .fors (.one 76) (.call 218 [(.idx (.idx (.attr (.attr (.var 206) 78) 77) (.var 171)) (.int 1))]) JK] ρ σ (.next,ρ',σ')∧FwI rows σ₀ c b oth be lf (m - 1) ρ' σ':=by
 obtain ⟨K0,hK0⟩:=F.lft n (List.mem_append_right _ (.head _))
 obtain ⟨n0,n1,wK⟩:=F.inr n K0 hK0
 obtain ⟨j,rfl⟩:=Int.eq_ofNat_of_zero_le n0
 have hj:j < rows.length:=by exact om4 n1
 obtain ⟨r,hr⟩:∃ r,rows[j]?=some r:=⟨_,List.getElem?_eq_getElem hj⟩
 have hmem:=List.mem_of_getElem? hr
 rw [List.map_append] at hl
 have hLl:L.length < 1000000:=by exact om72 hm hp
 have hpop:=IL hl (by rw [List.length_map];exact hLl)
 have xs:=ExtB.set (a:=lf) σ (.list (L.map .int))
 have g1:(σ.set lf (.list (L.map .int)))[lf]?=some (.list (L.map .int)):=AQ hl
 have hB1:=hB.extL xs hl
 obtain ⟨C1,C2⟩:=C
 have C1':=xs _ _ (BZ C1 hl (by simp)) C1
 have C2':=xs _ _ (BZ C2 hl (by simp)) C2
 have X1:=xs.to hx e5
 generalize σ.set lf (.list (L.map .int))=σ₁ at *
 obtain ⟨B,hBe,nd,rg,no,so⟩:=id hB1
 obtain ⟨dn,hdn,hsd⟩:∃ dn,Ao (j:Int) B=some (.loc dn)∧σ₁[dn]?=some (.dI (AW K0)):=by
  generalize hq:Ao (j:Int) B=zz1
  induction zz1 using Option.casesOn with
  | none=>rw [no _ hq] at hK0;exact Ae hK0
  | some v=>
   obtain ⟨dn,K,rfl,_,q2,_,q4⟩:=so _ v hq
   rw [hK0] at q4;cases q4
   exact ⟨dn,rfl,q2⟩
 obtain ⟨σ₂,h2,x2,s2⟩:=QM k ⟨C1',C2'⟩ (hb.ext X1) hBe hr (R.ok r hmem) hdn hsd wK
 have X2:=X1.trans x2
 obtain ⟨_,l,bs,sp,vs,b1,b2,hvl,hvs,hv⟩:=hb.ext X2
 have hjv:j < vs.length:=by exact om7 hj hvl
 obtain ⟨v,hvj⟩:∃ v,vs[j]?=some v:=⟨_,List.getElem?_eq_getElem hjv⟩
 have hblk:=hv j r v hr hvj
 obtain ⟨bl,st,t1,t2⟩:=hblk
 obtain ⟨a,σ₃,h3,x3,s3,ha⟩:=F7 (k+3) σ₂ (Dh r.e) (IF r.e)
 have X3:=X2.trans x3
 have q1:=Ab (y:=137) (v:=.loc σ₁.length) (Ab (y:=171) (v:=.int j) r1 rfl) rfl
 have q2:=Ab (y:=137) (v:=.loc σ₁.length) (Ab (y:=171) (v:=.int j) r2 rfl) rfl
 have q3:=Aj 137 (.loc σ₁.length) (put 171 (.int j) ρ)
 have q4:=Ab (y:=137) (v:=.loc σ₁.length) (Aj 171 (.int j) ρ) rfl
 have elf:lf < σ₁.length:=Bc g1
 have ebe:be < σ₁.length:=Bc hBe
 have J0:FoJ rows σ₀ c b oth be lf a σ₁.length (Cg (Dh r.e)) (C9 r K0) j K0 (m - 1) 0 (put 137 (.loc σ₁.length) (put 171 (.int j) ρ)) σ₃:=
  ⟨q1,q2,q3,X3,⟨(x2.trans x3) _ _ C1',(x2.trans x3) _ _ C2'⟩,x3 _ _ s2,s3,L,Bm,(x2.trans x3) _ _ g1,hB1.ext (x2.trans x3),by rw [List.take_zero];exact F.pop hK0,by exact om73 hp⟩
 obtain ⟨ρ',σ',hloop,J⟩:=AP (l:=(Cg (Dh r.e)).map AV.int) (body:=DD prog.gtup (AT prog (k+4)) JK) (t:=.one 76) (src:=.loc a) (fun i ρ σ=>FoJ rows σ₀ c b oth be lf a σ₁.length (Cg (Dh r.e)) (C9 r K0) j K0 (m - 1) i ρ σ) (fun i ρ σ J=>Av J.sa i) (fun i x ρ σ hx J=>by
  rw [List.getElem?_map] at hx
  obtain ⟨g,hg,rfl⟩:=Option.map_eq_some_iff.mp hx
  obtain ⟨σ',hX,J'⟩:=Sc R (k+3) (n:=j) (r:=r) hr rfl wK (by exact om2 hm) (fun p=>F.reach j K0 p hK0) e1 (Ne.symm (Nat.ne_of_lt ebe)) (Ne.symm (Nat.ne_of_lt (Nat.lt_of_lt_of_le elf (Nat.le_trans x2.le ha)))) e4 e5 hg J
  exact ⟨put 76 (.int g) ρ,put 76 (.int g) ρ,σ',rfl,hX,J'⟩) AC 0 _ σ₃ (by rw [List.length_map,Nat.zero_add];exact Nat.lt_of_le_of_lt (Hl _) (Nat.lt_trans (IF r.e) (by decide))) (Nat.zero_le _) J0
 rw [List.length_map] at J
 obtain ⟨left,Bm',g2,g3,g4,g5⟩:=J.g
 rw [List.take_length] at g4
 refine ⟨ρ',σ',?_,⟨J.r1,J.r2,J.x,J.C,by exact om2 hm,left,Bm',g2,g3,g4.all (r:=r) hr fun g hg=>(J8 r.e g).mpr hg,g5⟩⟩
 exact Ah (CI (Ac r2) hl rfl hpop) rfl (Ah (Ax (Ac (Ab r1 rfl)) C1' rfl (Aa (Ac (Aj _ _ _)) Ai) h2) rfl (A6 (Am (Aa (As (As (AN (AN (Ac q1) (x2 _ _ C1') rfl) b1 rfl) (Ac q4) (idx_list b2 hvj (Nat.lt_trans hjv (Nat.lt_trans hvs (by decide))))) rfl (idx_list (n:=1) t1 rfl (by decide))) Ai) h3) hloop rfl))
noncomputable def Ik:Int→Option KP:=fun b=>if b=0 then some [] else none
theorem FI.init (R:RowsOk rows):FI rows Ik [0]:=by
 have key:∀ {b K},Ik b=some K→b=0∧K=[]:=fun {b K} e=>by
  unfold Ik at e
  by_cases h:b=0
  ·rw [if_pos h] at e;(cases e);exact ⟨h,rfl⟩
  ·rw [if_neg h] at e;exact Ae e
 refine ⟨rfl,fun b K e=>?_,fun b K p e=>?_,fun b hb=>?_,fun b K e hb=>?_⟩
 ·obtain ⟨rfl,rfl⟩:=key e
  exact ⟨Int.le_refl _,by have:=R.pos;exact om1 this,⟨List.nodup_nil,fun p hp=>absurd hp List.not_mem_nil⟩⟩
 ·obtain ⟨rfl,rfl⟩:=key e
  exact ⟨⟨_,.start⟩,fun _=>.start⟩
 ·rw [List.mem_singleton.mp hb];exact ⟨[],rfl⟩
 ·obtain ⟨rfl,rfl⟩:=key e
  exact absurd (.head _) hb
theorem Kl:∀ N:Nat,Ls Ik N≤3*N
 | 0=>Nat.le_refl _
 | n+1=>by
  have ih:=Kl n
  have:wt (Ik n)≤3:=by
   unfold Ik
   split
   ·exact Nat.zero_le _
   ·exact Nat.le_refl _
  unfold Ls
  exact om74 ih this
theorem QK (R:RowsOk rows) (k:Nat) {σ₀ σ:St} {c b oth be:Nat} (hb:BodAt σ₀ b rows) (E:Ext σ₀ σ) (C:CopAt σ c b oth be) (hB:BegAt σ be rows.length Ik) (e1:oth≠be) (e4:σ₀.length≤be) :
  ∃ σ',Ca (k+5) (21,109) [.loc c] σ .none σ'∧FoQ rows σ₀ c b oth be σ':=by
 have x1:=Ext.app1 σ (AO.list [.int 0])
 have g1:=Ad σ (AO.list [.int 0])
 obtain ⟨C1,C2⟩:=C
 have hlen:=R.len
 have hphi:=Kl rows.length
 have I0:FwI rows σ₀ c b oth be σ.length (Ls Ik rows.length+1) [(206,.loc c),(143,.loc σ.length)] (σ++[AO.list [.int 0]]):=
  ⟨rfl,rfl,E.trans x1,⟨x1 _ _ C1,x1 _ _ C2⟩,by exact om75 hlen hphi,[0],Ik,g1,hB.ext x1,FI.init R,Nat.le_refl _⟩
 obtain ⟨ρ',σ',hloop,Q⟩:=Gp (test:=DE prog.gtup (AT prog (k+4)) (.cmp .NotEq (.var 143) (.list []))) (body:=DD prog.gtup (AT prog (k+4)) [
  .asg (.name 171) (.meth (.var 143) 4 []),
  .asg (.name 137) (.meth (.var 206) 74 [.var 171]),
  .fors (.one 76) (.call 218 [(.idx (.idx (.attr (.attr (.var 206) 78) 77) (.var 171)) (.int 1))]) JK]) (FwI rows σ₀ c b oth be σ.length) (fun ρ σ'=>FoQ rows σ₀ c b oth be σ') (fun m ρ σ₁ I=>by
  obtain ⟨left,Bm,hl,hB,F,hp⟩:=I.g
  have hne:=LY hl
  have hT:∀ {q:Bool},A9 (σ₁++[AO.list []]) .NotEq (.loc σ.length) (.loc σ₁.length)=some q→DE prog.gtup (AT prog (k+4)) (.cmp .NotEq (.var 143) (.list [])) ρ σ₁=some (q,σ₁++[AO.list []]):=fun {q} hq=>by
   have h:=Al (k:=k+4) (Ac I.r2) (Ar (Ai (ρ:=ρ) (σ:=σ₁))) hq
   unfold DE
   rw [show ev _ _ _ _ _=_ from h];rfl
  have x2:=Ext.app1 σ₁ (AO.list [])
  obtain ⟨D1,D2⟩:=I.C
  rcases List.eq_nil_or_concat left with e | ⟨L,n,e⟩
  ·subst e
   exact .inl ⟨_,hT hne,I.x.trans x2,⟨x2 _ _ D1,x2 _ _ D2⟩,Bm,hB.ext x2,F⟩
  ·rw [List.concat_eq_append] at e
   subst e
   refine .inr ?_
   rw [List.length_map,List.length_append] at hne
   have hm1:0 < m:=by rw [List.length_append] at hp;exact Nat.lt_of_lt_of_le (Nat.succ_pos _) (Nat.le_trans (Nat.le_add_left (L.length+1) _) hp)
   obtain ⟨ρ',σ',h,I'⟩:=Sb R k hb e1 e4 E.le I.hm I.r1 I.r2 (I.x.trans x2) ⟨x2 _ _ D1,x2 _ _ D2⟩ (Af hl _) (hB.ext x2) F (by rw [List.length_append] at hp;exact hp)
   exact ⟨_,ρ',σ',m - 1,hT hne,h,Nat.sub_lt hm1 Nat.one_pos,I'⟩) AC _ _ _ (show Ls Ik rows.length+1 < 100000 by exact om76 hlen hphi) I0
 exact ⟨σ',Dp (Ag rfl) d109 rfl (Ah (Ar rfl) rfl (Tc hloop rfl)),Q⟩
end
section
variable {rows:List Row}
theorem FI.done {Bm:Int→Option KP} (F:FI rows Bm []) {p:PR} {b:Int} {h:Bool} (x:Reach rows p b h):∃ K,Bm b=some K∧(K.contains p=true→h=true):=by
 induction x with
 | start=>exact ⟨[],F.zero,fun h=>h⟩
 | step x hr hg ih=>
  obtain ⟨K,e,hK⟩:=ih
  obtain ⟨K',e',hK'⟩:=F.post _ K e List.not_mem_nil _ _ hr hg
  refine ⟨K',e',fun hc=>?_⟩
  have:=hK' p hc
  rw [Pg] at this
  exact KR hK this
theorem d47:prog.defs (0,47)=some Fd:=rfl
noncomputable def CX (p:PR):AV:=.tup [.int p.1,.int p.2]
theorem M0 (σ:St) (x:Int) (p:PR):A9 σ .In (.int x) (CX p)=some (p.1==x || (p.2==x || false)):=rfl
noncomputable def L_:List PS:=[
  .ifs (.bop .And [(.cmp .Eq (.var 241) (.str 90)),(.cmp .Eq (.tup [.var 176,.var 182]) (.var 184))]) [
   .asg (.name 122) (.bool true)] [
   .ifs (.bop .Or [(.bop .And [(.cmp .In (.var 176) (.var 184)),(.cmp .NotEq (.var 241) (.str 190))]),(.bop .And [(.cmp .Eq (.var 241) (.str 164)),(.cmp .In (.var 182) (.var 184))])]) [
    .asg (.name 122) (.bool false)] []]]
theorem Si (k:Nat) (σ:St) (d:Deed) (p:PR) {h:Bool} {ρ:At} (r1:look 241 ρ=some (.str (Cf d.w))) (r2:look 176 ρ=some (.int d.one)) (r3:look 182 ρ=some (.int d.oth)) (r4:look 184 ρ=some (CX p)) (r5:look 122 ρ=some (.bool h)) :
  ∃ ρ',Xs k L_ ρ σ (.next,ρ',σ)∧look 184 ρ'=some (CX p)∧look 122 ρ'=some (.bool (Ox d p h)):=by
 obtain ⟨w,one,oth⟩:=d
 have i1:∀ {c},(one==p.1 || one==p.2)=c→A9 σ .In (.int one) (CX p)=some c:=fun {c} e=>by
  rw [M0,Bool.or_false,show (p.1==one)=(one==p.1) from Bool.beq_comm,show (p.2==one)=(one==p.2) from Bool.beq_comm,e]
 have i2:∀ {c},(oth==p.1 || oth==p.2)=c→A9 σ .In (.int oth) (CX p)=some c:=fun {c} e=>by
  rw [M0,Bool.or_false,show (p.1==oth)=(oth==p.1) from Bool.beq_comm,show (p.2==oth)=(oth==p.2) from Bool.beq_comm,e]
 have e1:=Al (k:=k) (op:=.In) (Ac r2) (Ac (σ:=σ) r4) (i1 rfl)
 have f1:look 184 (put 122 (.bool false) ρ)=some (CX p):=Ab r4 rfl
 have f2:look 122 (put 122 (.bool false) ρ)=some (.bool false):=Aj _ _ _
 have plain:(w=.const∨w=.live∨w=.dead∨w=.out)→∃ ρ',Xs k L_ ρ σ (.next,ρ',σ)∧look 184 ρ'=some (CX p)∧look 122 ρ'=some (.bool (if one==p.1 || one==p.2 then false else h)):=fun hw=>by
  cases hc:(one==p.1 || one==p.2)<;>rw [hc] at e1
  ·refine ⟨ρ,?_,r4,r5⟩
   rcases hw with rfl | rfl | rfl | rfl<;>exact BK (A4 (Al (Ac r1) rfl rfl) rfl) rfl (Ak (B6 (A4 e1 rfl) rfl (AY (A4 (Al (Ac r1) rfl rfl) rfl))) rfl rfl) rfl
  ·refine ⟨_,?_,f1,f2⟩
   rcases hw with rfl | rfl | rfl | rfl<;>exact BK (A4 (Al (Ac r1) rfl rfl) rfl) rfl (Bu (Dy (A0 e1 rfl (AY (Al (Ac r1) rfl rfl))) rfl) rfl (Ah rfl rfl rfl) rfl) rfl
 induction w using DW.casesOn with
 | const=>exact plain (.inl rfl)
 | live=>exact plain (.inr (.inl rfl))
 | dead=>exact plain (.inr (.inr (.inl rfl)))
 | out=>exact plain (.inr (.inr (.inr rfl)))
 | print=>
  refine ⟨ρ,?_,r4,r5⟩
  have e2:Ev k (.bop .And [(.cmp .In (.var 176) (.var 184)),(.cmp .NotEq (.var 241) (.str 190))]) ρ σ (.bool false) σ:=by
   cases hc:(one==p.1 || one==p.2)<;>rw [hc] at e1
   ·exact A4 e1 rfl
   ·exact A0 e1 rfl (AY (Al (Ac r1) rfl rfl))
  exact BK (A4 (Al (Ac r1) rfl rfl) rfl) rfl (Ak (B6 e2 rfl (AY (A4 (Al (Ac r1) rfl rfl) rfl))) rfl rfl) rfl
 | copy=>
  have hq:A9 σ .Eq (.tup [.int one,.int oth]) (CX p)=some (one==p.1&&(oth==p.2&&true)):=rfl
  rw [Bool.and_true] at hq
  have e3:=A0 (k:=k) (es:=[]) (a:=.cmp .Eq (.tup [.var 176,.var 182]) (.var 184)) (Al (Ac (σ:=σ) r1) (b:=.str 90) rfl (show A9 σ .Eq (.str 90) (.str 90)=some true from rfl)) rfl (AY (Al (Au (Aa (Ac r2) (Aa (Ac r3) Ai))) (Ac r4) hq))
  show ∃ ρ',_∧_∧look 122 ρ'=some (.bool (if one==p.1&&oth==p.2 then true else if one==p.1 || one==p.2 then false else h))
  cases hc:(one==p.1&&oth==p.2)<;>rw [hc] at e3
  ·cases hd:(one==p.1 || one==p.2)<;>rw [hd] at e1
   ·exact ⟨ρ,BK e3 rfl (Ak (B6 (A4 e1 rfl) rfl (AY (A4 (Al (Ac r1) rfl rfl) rfl))) rfl rfl) rfl,r4,r5⟩
   ·exact ⟨_,BK e3 rfl (Bu (Dy (A0 e1 rfl (AY (Al (Ac r1) rfl rfl))) rfl) rfl (Ah rfl rfl rfl) rfl) rfl,f1,f2⟩
  ·exact ⟨put 122 (.bool true) ρ,Bu e3 rfl (Ah rfl rfl rfl) rfl,Ab r4 rfl,Aj _ _ _⟩
 | move=>
  have e4:=Al (k:=k) (op:=.In) (Ac r3) (Ac (σ:=σ) r4) (i2 rfl)
  show ∃ ρ',_∧_∧look 122 ρ'=some (.bool (if (one==p.1 || one==p.2) || (oth==p.1 || oth==p.2) then false else h))
  cases hd:(one==p.1 || one==p.2)<;>rw [hd] at e1
  ·cases ho:(oth==p.1 || oth==p.2)<;>rw [ho] at e4
   ·exact ⟨ρ,BK (A4 (Al (Ac r1) rfl rfl) rfl) rfl (Ak (B6 (A4 e1 rfl) rfl (AY (A0 (Al (Ac r1) rfl rfl) rfl (AY e4)))) rfl rfl) rfl,r4,r5⟩
   ·exact ⟨_,BK (A4 (Al (Ac r1) rfl rfl) rfl) rfl (Bu (B6 (A4 e1 rfl) rfl (AY (A0 (Al (Ac r1) rfl rfl) rfl (AY e4)))) rfl (Ah rfl rfl rfl) rfl) rfl,f1,f2⟩
  ·exact ⟨_,BK (A4 (Al (Ac r1) rfl rfl) rfl) rfl (Bu (Dy (A0 e1 rfl (AY (Al (Ac r1) rfl rfl))) rfl) rfl (Ah rfl rfl rfl) rfl) rfl,f1,f2⟩
theorem QL (k:Nat) {σ:St} {l:Nat} {ds:List Deed} (hl:σ[l]?=some (.list (ds.map BJ))) (hlen:ds.length < 10000) (p:PR) (h:Bool) :
  Ca (k+1) (0,47) [.loc l,CX p,.bool h] σ (.bool (ds.foldl (fun h d=>Ox d p h) h)) σ:=by
 obtain ⟨ρ',σ',hloop,rfl,_,r2⟩:=AP (l:=ds.map BJ) (body:=DD prog.gtup (AT prog k) L_) (t:=.many [241,176,182]) (src:=.loc l) (fun i ρ σ'=>σ'=σ∧look 184 ρ=some (CX p)∧look 122 ρ=some (.bool ((ds.take i).foldl (fun h d=>Ox d p h) h))) (fun i ρ σ' J=>by rw [J.1];exact Av hl i) (fun i x ρ σ' hx J=>by
  obtain ⟨rfl,j1,j2⟩:=J
  rw [List.getElem?_map] at hx
  obtain ⟨d,hd,rfl⟩:=Option.map_eq_some_iff.mp hx
  obtain ⟨ρ'',q1,q2,q3⟩:=Si k σ' d p (ρ:=put 182 (.int d.oth) (put 176 (.int d.one) (put 241 (.str (Cf d.w)) ρ))) (Ab (Ab (Aj _ _ _) rfl) rfl) (Ab (Aj _ _ _) rfl) (Aj _ _ _) (Ab (Ab (Ab j1 rfl) rfl) rfl) (Ab (Ab (Ab j2 rfl) rfl) rfl)
  refine ⟨_,ρ'',σ',rfl,q1,rfl,q2,?_⟩
  rw [List.take_add_one,hd,List.foldl_append];exact q3) AC 0 [(94,.loc l),(184,CX p),(122,.bool h)] σ (by rw [List.length_map,Nat.zero_add];exact Nat.lt_trans hlen (by decide)) (Nat.zero_le _) ⟨rfl,rfl,rfl⟩
 rw [List.length_map,List.take_length] at r2
 exact An (Ag rfl) d47 rfl (A6 rfl hloop (Az (Ac r2)))
end
section
variable {rows:List Row}
noncomputable abbrev PB:=Int×Bool
structure SJ (rows:List Row) (p:PR) (found left:List PB) (x0:PB) (S:List Int):Prop where
 nd:found.Nodup
 sub:∀ x∈left,x∈found
 st:((0,false):PB)∈found
 rch:∀ x∈found,Reach rows p x.1 x.2
 rg:∀ x∈found,0≤x.1∧x.1 < rows.length
 cl:∀ x∈found,x∉left→∀ r g,rows[x.1.toNat]?=some r→g∈G3 r.e→(x=x0→g∈S)→(g,EW r p x.2)∈found
structure SI (rows:List Row) (p:PR) (found left:List PB):Prop where
 nd:found.Nodup
 sub:∀ x∈left,x∈found
 st:((0,false):PB)∈found
 rch:∀ x∈found,Reach rows p x.1 x.2
 rg:∀ x∈found,0≤x.1∧x.1 < rows.length
 cl:∀ x∈found,x∉left→∀ r g,rows[x.1.toNat]?=some r→g∈G3 r.e→(g,EW r p x.2)∈found
theorem SI.pop {p:PR} {found left:List PB} {x:PB} (I:SI rows p found (left++[x])):SJ rows p found left x []:=
 ⟨I.nd,fun y hy=>I.sub y (List.mem_append_left _ hy),I.st,I.rch,I.rg,fun y hy hl r g hr hg hS=>by
  by_cases h:y=x
  ·exact absurd (hS h) List.not_mem_nil
  ·exact I.cl y hy (fun hm=>(List.mem_append.mp hm).elim hl fun h'=>h (List.mem_singleton.mp h')) r g hr hg⟩
theorem SJ.all {p:PR} {found left:List PB} {x:PB} {S:List Int} {r:Row} (J:SJ rows p found left x S) (hr:rows[x.1.toNat]?=some r) (hS:∀ g∈G3 r.e,g∈S):SI rows p found left:=
 ⟨J.nd,J.sub,J.st,J.rch,J.rg,fun y hy hl r' g hr' hg=>J.cl y hy hl r' g hr' hg fun h=>by
  subst h;rw [hr] at hr';(cases hr');exact hS g hg⟩
theorem SJ.old {p:PR} {found left:List PB} {x:PB} {S:List Int} {r:Row} {g:Int} (J:SJ rows p found left x S) (hr:rows[x.1.toNat]?=some r) (hy:(g,EW r p x.2)∈found):SJ rows p found left x (S++[g]):=
 ⟨J.nd,J.sub,J.st,J.rch,J.rg,fun y hy' hl r' g' hr' hg' hS=>by
  by_cases h:y=x∧g'=g
  ·obtain ⟨rfl,rfl⟩:=h
   rw [hr] at hr';(cases hr');exact hy
  ·exact J.cl y hy' hl r' g' hr' hg' fun e=>(List.mem_append.mp (hS e)).elim id fun h'=>absurd ⟨e,List.mem_singleton.mp h'⟩ h⟩
theorem SJ.new {p:PR} {found left:List PB} {x:PB} {S:List Int} {r:Row} {g:Int} (J:SJ rows p found left x S) (hx:x∈found) (hr:rows[x.1.toNat]?=some r) (hg:g∈G3 r.e) (hgi:0≤g∧g < rows.length) (hy:(g,EW r p x.2)∉found) :
  SJ rows p (found++[(g,EW r p x.2)]) (left++[(g,EW r p x.2)]) x (S++[g]):=by
 refine ⟨List.nodup_append.mpr ⟨J.nd,List.nodup_cons.mpr ⟨List.not_mem_nil,List.nodup_nil⟩,fun a ha b hb=>?_⟩,fun y h=>?_,List.mem_append_left _ J.st,fun y h=>?_,fun y h=>?_,fun y h hl r' g' hr' hg' hS=>?_⟩
 ·rw [List.mem_singleton.mp hb];rintro rfl;exact hy ha
 ·exact (List.mem_append.mp h).elim (fun h=>List.mem_append_left _ (J.sub y h)) fun h=>List.mem_append_right _ h
 ·rcases List.mem_append.mp h with h | h
  ·exact J.rch y h
  ·rw [List.mem_singleton.mp h];exact .step (J.rch x hx) hr hg
 ·rcases List.mem_append.mp h with h | h
  ·exact J.rg y h
  ·rw [List.mem_singleton.mp h];exact hgi
 ·have hnl:y∉left:=fun h'=>hl (List.mem_append_left _ h')
  rcases List.mem_append.mp h with h | h
  ·by_cases e:y=x∧g'=g
   ·obtain ⟨rfl,rfl⟩:=e
    rw [hr] at hr';cases hr'
    exact List.mem_append_right _ (.head _)
   ·exact List.mem_append_left _ (J.cl y h hnl r' g' hr' hg' fun e'=>(List.mem_append.mp (hS e')).elim id fun h'=>absurd ⟨e',List.mem_singleton.mp h'⟩ e)
  ·exact absurd (List.mem_append_right _ h) hl
theorem SI.init (R:RowsOk rows) (p:PR):SI rows p [(0,false)] [(0,false)]:=
 ⟨List.nodup_cons.mpr ⟨List.not_mem_nil,List.nodup_nil⟩,fun x h=>h,.head _,fun x h=>by rw [List.mem_singleton.mp h];exact .start,fun x h=>by rw [List.mem_singleton.mp h];exact ⟨Int.le_refl _,by have:=R.pos;show (0:Int) < _;exact om1 this⟩,fun x h hl=>absurd h hl⟩
theorem SI.done {p:PR} {found:List PB} (I:SI rows p found []) (x:PB):x∈found↔Reach rows p x.1 x.2:=by
 refine ⟨I.rch x,fun h=>?_⟩
 have:∀ {b h},Reach rows p b h→(b,h)∈found:=fun {b h} hR=>by
  induction hR with
  | start=>exact I.st
  | step x hr hg ih=>exact I.cl _ ih List.not_mem_nil _ _ hr hg
 exact this h
theorem EV {found:List PB} {N:Nat} (nd:found.Nodup) (rg:∀ x∈found,0≤x.1∧x.1 < (N:Int)):found.length≤2*N:=by
 have:=Eo (l:=found) (m:=((List.range N).map fun i=>(Int.ofNat i,false))++((List.range N).map fun i=>(Int.ofNat i,true))) nd fun x hx=>by
  obtain ⟨h0,h1⟩:=rg x hx
  have e:Int.ofNat x.1.toNat=x.1:=Int.toNat_of_nonneg h0
  have hr:x.1.toNat∈List.range N:=List.mem_range.mpr (by exact om3 h0 h1)
  obtain ⟨a,b⟩:=x
  cases b
  ·exact List.mem_append_left _ (List.mem_map.mpr ⟨a.toNat,hr,Prod.ext e rfl⟩)
  ·exact List.mem_append_right _ (List.mem_map.mpr ⟨a.toNat,hr,Prod.ext e rfl⟩)
 rw [List.length_append,List.length_map,List.length_map,List.length_range] at this
 exact om23 this
noncomputable def Cy:Option Deed→AV
 | none=>.none
 | some d=>BJ d
inductive RwAt (σ:St) (r:Row):AV→Prop where
 | mk (dl bl:Nat) (h1:σ[dl]?=some (.list (r.ds.map BJ))) (h2:σ[bl]?=some (.list ((G3 r.e).map .int))):RwAt σ r (.tup [.loc dl,B7 (Dh r.e),Cy (GU r.e),.loc bl])
inductive RwsAt (σ:St) (a:Nat) (rows:List Row):Prop where
 | mk (vs:List AV) (h:σ[a]?=some (.list vs)) (hl:vs.length=rows.length) (hv:∀ (i:Nat) (r:Row) (v:AV),rows[i]?=some r→vs[i]?=some v→RwAt σ r v)
theorem RwAt.ext {σ σ':St} {r:Row} {v:AV} (h:RwAt σ r v) (E:Ext σ σ'):RwAt σ' r v:=by
 obtain ⟨dl,bl,h1,h2⟩:=h;exact ⟨dl,bl,E _ _ h1,E _ _ h2⟩
theorem RwsAt.ext {σ σ':St} {a:Nat} {rows:List Row} (h:RwsAt σ a rows) (E:Ext σ σ'):RwsAt σ' a rows:=by
 obtain ⟨vs,h,hl,hv⟩:=h;exact ⟨vs,E _ _ h,hl,fun i r v e e'=>(hv i r v e e').ext E⟩
noncomputable def fA (x:PB):AV:=.tup [.int x.1,.bool x.2]
theorem fA_eq (x y:PB):(y.1==x.1&&(y.2==x.2&&true))=(x==y):=by
 rw [Bool.and_true,Bool.eq_iff_iff,Bool.and_eq_true,beq_iff_eq,beq_iff_eq,beq_iff_eq]
 exact ⟨fun h=>Prod.ext h.1.symm h.2.symm,fun h=>by rw [h];exact ⟨rfl,rfl⟩⟩
theorem Lo (σ:St) (x:PB):∀ found:List PB,CP (BU σ 20) (fA x) (found.map fA)=some (found.contains x)
 | []=>rfl
 | y::r=>by
  show (match some (y.1==x.1&&(y.2==x.2&&true)),CP (BU σ 20) (fA x) (r.map fA) with | some a,some b=>some (a || b) | _,_=>none)=_
  rw [Lo σ x r,fA_eq,List.contains_cons]
theorem PW {σ:St} {a:Nat} {found:List PB} (h:σ[a]?=some (.list (found.map fA))) (x:PB):A9 σ .NotIn (fA x) (.loc a)=some (!found.contains x):=by
 show Option.map not (match σ[a]? with | some (.list l)=>_ | some (.dI l)=>_ | _=>_)=_
 rw [h]
 show Option.map not (CP (BU σ 20) (fA x) (found.map fA))=_
 rw [Lo];rfl
end
section
variable {rows:List Row}
noncomputable def Jl:List PS:=[
    .ifs (.cmp .NotIn (.tup [.var 115,.var 122]) (.var 113)) [
     .expr (.meth (.var 113) 3 [(.tup [.var 115,.var 122])]),
     .expr (.meth (.var 143) 3 [(.tup [.var 115,.var 122])])] []]
structure SrR (ra fo lf:Nat) (p:PR) (w:Nat→Option AV) (ρ:At):Prop where
 r1:look 202 ρ=some (.loc ra)
 r2:look 184 ρ=some (CX p)
 r3:look 113 ρ=some (.loc fo)
 r4:look 143 ρ=some (.loc lf)
 r5:look 156 ρ=w 156
 r6:look 162 ρ=w 162
 r7:look 89 ρ=w 89
theorem BA {x y:Nat} {v:AV} {ρ:At} {o:Option AV} (h:look x ρ=o) (hne:Nat.beq x y=false):look x (put y v ρ)=o:=(look_put _ _ _ _).trans ((if_neg (Nat.ne_of_beq_eq_false hne)).trans h)
theorem SrR.put {ra fo lf:Nat} {p:PR} {w:Nat→Option AV} {ρ:At} (h:SrR ra fo lf p w ρ) {y:Nat} {v:AV} (hy:(Nat.beq 202 y || Nat.beq 184 y || Nat.beq 113 y || Nat.beq 143 y || Nat.beq 156 y || Nat.beq 162 y || Nat.beq 89 y)=false):SrR ra fo lf p w (put y v ρ):=by
 rw [Bool.or_eq_false_iff,Bool.or_eq_false_iff,Bool.or_eq_false_iff,Bool.or_eq_false_iff,Bool.or_eq_false_iff,Bool.or_eq_false_iff] at hy
 exact ⟨Ab h.r1 hy.1.1.1.1.1.1,Ab h.r2 hy.1.1.1.1.1.2,Ab h.r3 hy.1.1.1.1.2,Ab h.r4 hy.1.1.1.2,BA h.r5 hy.1.1.2,BA h.r6 hy.1.2,BA h.r7 hy.2⟩
structure SrJ (rows:List Row) (σ₀:St) (ra fo lf:Nat) (p:PR) (w:Nat→Option AV) (L:List Int) (x0:PB) (h':Bool) (m:Nat) (i:Nat) (ρ:At) (σ:St):Prop where
 r:SrR ra fo lf p w ρ
 rh:look 122 ρ=some (.bool h')
 x:Ext σ₀ σ
 g:∃ found left,σ[fo]?=some (.list (found.map fA))∧σ[lf]?=some (.list (left.map fA))∧SJ rows p found left x0 (L.take i)∧x0∈found∧2*rows.length+left.length≤m+found.length
theorem Rm (R:RowsOk rows) (k:Nat) {σ₀:St} {ra fo lf:Nat} {p:PR} {w:Nat→Option AV} {x0:PB} {m:Nat} {r:Row} (hmb:m < 90000) (hr:rows[x0.1.toNat]?=some r) (e1:fo≠lf) (e2:σ₀.length≤fo) (e3:σ₀.length≤lf)
  {i:Nat} {g:Int} (hg:(G3 r.e)[i]?=some g) {ρ:At} {σ:St} (J:SrJ rows σ₀ ra fo lf p w (G3 r.e) x0 (EW r p x0.2) m i ρ σ) :
  ∃ σ',Xs k Jl (put 115 (.int g) ρ) σ (.next,put 115 (.int g) ρ,σ')∧SrJ rows σ₀ ra fo lf p w (G3 r.e) x0 (EW r p x0.2) m (i+1) (put 115 (.int g) ρ) σ':=by
 obtain ⟨found,left,hf,hl,F,hx0,hm⟩:=J.g
 have hmem:=List.mem_of_getElem? hr
 have hgm:=List.mem_of_getElem? hg
 have hgi:=R.tg r hmem g hgm
 have hT:(G3 r.e).take (i+1)=(G3 r.e).take i++[g]:=by rw [List.take_add_one,hg];rfl
 have q:=J.r.put (y:=115) (v:=.int g) rfl
 have qh:=Ab (y:=115) (v:=.int g) J.rh rfl
 have hlen:=EV F.nd F.rg
 have hN:=R.len
 have htup:∀ σ,Ev k (.tup [.var 115,.var 122]) (put 115 (.int g) ρ) σ (fA (g,EW r p x0.2)) σ:=fun σ=>Au (Aa (Ac (Aj _ _ _)) (Aa (Ac qh) Ai))
 have hin:=Al (htup σ) (Ac q.r3) (PW hf (g,EW r p x0.2))
 by_cases hc:(g,EW r p x0.2)∈found
 ·rw [List.contains_iff_mem.mpr hc] at hin
  exact ⟨σ,Ak hin rfl rfl,q,qh,J.x,found,left,hf,hl,hT▸F.old hr hc,hx0,hm⟩
 ·have hc':found.contains (g,EW r p x0.2)=false:=by
   cases h:found.contains (g,EW r p x0.2)
   ·rfl
   ·exact absurd (List.contains_iff_mem.mp h) hc
  rw [hc'] at hin
  have F':=F.new hx0 hr hgm hgi hc
  have a1:=Da hf (by rw [List.length_map];exact om24 hlen hN) (fA (g,EW r p x0.2))
  have hm1:found.map fA++[fA (g,EW r p x0.2)]=(found++[(g,EW r p x0.2)]).map fA:=by rw [List.map_append];rfl
  rw [hm1] at a1
  have f1:(σ.set fo (.list ((found++[(g,EW r p x0.2)]).map fA)))[fo]?=some (.list ((found++[(g,EW r p x0.2)]).map fA)):=AQ hf
  have l1:(σ.set fo (.list ((found++[(g,EW r p x0.2)]).map fA)))[lf]?=some (.list (left.map fA)):=AR hl e1
  have X1:=(ExtB.set σ (.list ((found++[(g,EW r p x0.2)]).map fA))).to J.x e2
  generalize σ.set fo (.list ((found++[(g,EW r p x0.2)]).map fA))=σ₁ at *
  have hll:left.length < 1000000:=by exact om25 hmb hm hlen
  have a2:=Da l1 (by rw [List.length_map];exact hll) (fA (g,EW r p x0.2))
  have hm2:left.map fA++[fA (g,EW r p x0.2)]=(left++[(g,EW r p x0.2)]).map fA:=by rw [List.map_append];rfl
  rw [hm2] at a2
  refine ⟨σ₁.set lf (.list ((left++[(g,EW r p x0.2)]).map fA)),Bu hin rfl (A1 (CI (Ac q.r3) hf (Aa (htup _) Ai) a1) (A1 (CI (Ac q.r4) l1 (Aa (htup _) Ai) a2) rfl)) rfl,q,qh,(ExtB.set σ₁ _).to X1 e3,_,_,AR f1 (Ne.symm e1),AQ l1,hT▸F',List.mem_append_left _ hx0,?_⟩
  rw [List.length_append,List.length_append]
  show _+(left.length+1)≤m+(found.length+1)
  exact om26 hm
structure SrI (rows:List Row) (σ₀:St) (ra fo lf:Nat) (p:PR) (w:Nat→Option AV) (m:Nat) (ρ:At) (σ:St):Prop where
 r:SrR ra fo lf p w ρ
 x:Ext σ₀ σ
 hm:m < 90000
 g:∃ found left,σ[fo]?=some (.list (found.map fA))∧σ[lf]?=some (.list (left.map fA))∧SI rows p found left∧2*rows.length+left.length≤m+found.length
noncomputable def Gg:List PS:=[
   .asg (.names [76,122]) (.meth (.var 143) 4 []),
   .asg (.names [94,98,139,74]) (.idx (.var 202) (.var 76)),
   .asg (.name 122) (.call 47 [(.bin .Add (.var 94) (.ite (.cmp .Is (.var 139) .none) (.list []) (.list [.var 139]))),.var 184,.var 122]),
   .fors (.one 115) (.var 74) Jl]
theorem SA (e:EK):(G3 e).length≤2:=by cases e<;>first | exact (by decide:1≤2) | exact (by decide:2≤2) | exact (by decide:0≤2)
theorem Rl (R:RowsOk rows) (k:Nat) {σ₀:St} {ra fo lf m:Nat} {p:PR} {w:Nat→Option AV} (hra:RwsAt σ₀ ra rows) (e1:fo≠lf) (e2:σ₀.length≤fo) (e3:σ₀.length≤lf) {ρ:At} {σ:St} (hm:m < 90000) (hr0:SrR ra fo lf p w ρ) (hx:Ext σ₀ σ)
  {found L:List PB} {x:PB} (hf:σ[fo]?=some (.list (found.map fA))) (hl:σ[lf]?=some (.list ((L++[x]).map fA))) (F:SI rows p found (L++[x])) (hp:2*rows.length+(L.length+1)≤m+found.length) :
  ∃ ρ' σ',Xs (k+1) Gg ρ σ (.next,ρ',σ')∧SrI rows σ₀ ra fo lf p w (m - 1) ρ' σ':=by
 have hxf:x∈found:=F.sub x (List.mem_append_right _ (.head _))
 obtain ⟨n0,n1⟩:=F.rg x hxf
 have hlen:=EV F.nd F.rg
 have hN:=R.len
 obtain ⟨n,h⟩:=x
 obtain ⟨j,rfl⟩:=Int.eq_ofNat_of_zero_le n0
 have hj:j < rows.length:=Int.ofNat_lt.mp n1
 obtain ⟨r,hr⟩:∃ r,rows[j]?=some r:=⟨_,List.getElem?_eq_getElem hj⟩
 have hmem:=List.mem_of_getElem? hr
 rw [List.map_append] at hl
 have hpop:=IL hl (by rw [List.length_map];exact om27 hm hp hlen)
 have xs:=ExtB.set (a:=lf) σ (.list (L.map fA))
 have l1:(σ.set lf (.list (L.map fA)))[lf]?=some (.list (L.map fA)):=AQ hl
 have f1:=xs _ _ e1 hf
 have X1:=xs.to hx e3
 generalize σ.set lf (.list (L.map fA))=σ₁ at *
 obtain ⟨vs,v1,hvl,hv⟩:=hra
 obtain ⟨v,hvj⟩:∃ v,vs[j]?=some v:=⟨_,List.getElem?_eq_getElem (by exact om7 hj hvl)⟩
 have hrow:=hv j r v hr hvj
 obtain ⟨dl,bl,d1,d2⟩:=hrow
 have d1':=X1 _ _ d1
 have i1:CM σ₁ (.loc ra) (.int j)=some (.tup [.loc dl,B7 (Dh r.e),Cy (GU r.e),.loc bl]):=idx_list (X1 _ _ v1) hvj (by exact om28 hN hj)
 have hdl:=(R.ok r hmem).2
 have hargs:∀ {ρ:At},look 94 ρ=some (.loc dl)→look 139 ρ=some (Cy (GU r.e))→∃ a σ₂,Ev (k+1) (.bin .Add (.var 94) (.ite (.cmp .Is (.var 139) .none) (.list []) (.list [.var 139]))) ρ σ₁ (.loc a) σ₂∧Ext σ₁ σ₂∧σ₂[a]?=some (.list (r.all.map BJ)):=fun {ρ} q1 q2=>by
  unfold Row.all
  generalize he:GU r.e=zz1
  induction zz1 using Option.casesOn with
  | none=>
   rw [he] at q2
   have hb:=EI (Af d1' _) (Ad σ₁ (.list [])) (by rw [List.length_map];exact Nat.le_of_lt (Nat.lt_trans hdl (by decide)))
   exact ⟨_,_,Bj (Ac q1) (Bl (Al (Ac q2) rfl rfl) rfl (Ar rfl)) hb,(Ext.app1 _ _).trans (Ext.app1 _ _),(Ad _ _).trans (by rw [List.map_append];rfl)⟩
  | some d=>
   rw [he] at q2
   have hb:=EI (Af d1' _) (Ad σ₁ (.list [BJ d])) (by rw [List.length_map];exact Nat.le_trans (Nat.succ_le_of_lt hdl) (by decide))
   exact ⟨_,_,Bj (Ac q1) (Bh (Al (Ac q2) rfl rfl) rfl (Ar (Aa (Ac q2) Ai))) hb,(Ext.app1 _ _).trans (Ext.app1 _ _),(Ad _ _).trans (by rw [List.map_append];rfl)⟩
 have R1:=(hr0.put (y:=76) (v:=.int j) rfl).put (y:=122) (v:=.bool h) rfl
 have R2:=(((R1.put (y:=94) (v:=.loc dl) rfl).put (y:=98) (v:=B7 (Dh r.e)) rfl).put (y:=139) (v:=Cy (GU r.e)) rfl).put (y:=74) (v:=.loc bl) rfl
 have q76:=Ab (y:=122) (v:=.bool h) (Aj 76 (.int j) ρ) rfl
 have q122:=Aj 122 (.bool h) (put 76 (.int j) ρ)
 generalize hρ1:put 122 (.bool h) (put 76 (.int j) ρ)=ρ₁ at *
 have q122':=Ab (y:=74) (v:=.loc bl) (Ab (y:=139) (v:=Cy (GU r.e)) (Ab (y:=98) (v:=B7 (Dh r.e)) (Ab (y:=94) (v:=.loc dl) q122 rfl) rfl) rfl) rfl
 have q94:=Ab (y:=74) (v:=.loc bl) (Ab (y:=139) (v:=Cy (GU r.e)) (Ab (y:=98) (v:=B7 (Dh r.e)) (Aj 94 (.loc dl) ρ₁) rfl) rfl) rfl
 have q139:=Ab (y:=74) (v:=.loc bl) (Aj 139 (Cy (GU r.e)) (put 98 (B7 (Dh r.e)) (put 94 (.loc dl) ρ₁))) rfl
 have q74:=Aj 74 (.loc bl) (put 139 (Cy (GU r.e)) (put 98 (B7 (Dh r.e)) (put 94 (.loc dl) ρ₁)))
 generalize hρ2:put 74 (.loc bl) (put 139 (Cy (GU r.e)) (put 98 (B7 (Dh r.e)) (put 94 (.loc dl) ρ₁)))=ρ₂ at *
 obtain ⟨a,σ₂,h2,x2,s2⟩:=hargs q94 q139
 have hall:r.all.length < 10000:=by
  unfold Row.all
  rw [List.length_append]
  have:(GU r.e).toList.length≤1:=by cases GU r.e<;>simp
  exact om29 hdl this
 have h3:=QL k s2 hall p h
 have J0:SrJ rows σ₀ ra fo lf p w (G3 r.e) ((j:Int),h) (EW r p h) (m - 1) 0 (put 122 (.bool (EW r p h)) ρ₂) σ₂:=
  ⟨R2.put rfl,Aj _ _ _,X1.trans x2,found,L,x2 _ _ f1,x2 _ _ l1,by rw [List.take_zero];exact F.pop,hxf,by exact om30 hp⟩
 obtain ⟨ρ',σ',hloop,J⟩:=AP (l:=(G3 r.e).map AV.int) (body:=DD prog.gtup (AT prog (k+1)) Jl) (t:=.one 115) (src:=.loc bl) (fun i ρ σ=>SrJ rows σ₀ ra fo lf p w (G3 r.e) ((j:Int),h) (EW r p h) (m - 1) i ρ σ) (fun i ρ σ J=>Av (J.x _ _ d2) i) (fun i x ρ σ hx J=>by
  rw [List.getElem?_map] at hx
  obtain ⟨g,hg,rfl⟩:=Option.map_eq_some_iff.mp hx
  obtain ⟨σ',hX,J'⟩:=Rm R (k+1) (x0:=((j:Int),h)) (by exact om2 hm) (r:=r) hr e1 e2 e3 hg J
  exact ⟨put 115 (.int g) ρ,put 115 (.int g) ρ,σ',rfl,hX,J'⟩) AC 0 _ σ₂ (by rw [List.length_map,Nat.zero_add];exact Nat.lt_of_le_of_lt (SA r.e) (by decide)) (Nat.zero_le _) J0
 rw [List.length_map] at J
 obtain ⟨found',left',g1,g2,g3,_,g5⟩:=J.g
 rw [List.take_length] at g3
 refine ⟨ρ',σ',?_,⟨J.r,J.x,by exact om2 hm,found',left',g1,g2,g3.all (r:=r) hr fun g hg=>hg,g5⟩⟩
 have t3:Xs (k+1) [.asg (.name 122) (.call 47 [(.bin .Add (.var 94) (.ite (.cmp .Is (.var 139) .none) (.list []) (.list [.var 139]))),.var 184,.var 122]),.fors (.one 115) (.var 74) Jl] ρ₂ σ₁ (.next,ρ',σ'):=
  Ah (Am (Aa h2 (Aa (Ac R2.r2) (Aa (Ac q122') Ai))) h3) rfl (A6 (Ac (Ab q74 rfl)) hloop rfl)
 subst hρ2
 have t2:=Ah (k:=k+1) (g:=.names [94,98,139,74]) (As (Ac R1.r1) (Ac q76) i1) rfl t3
 subst hρ1
 exact Ah (CI (Ac hr0.r4) hl Ai hpop) rfl t2
end
section
variable {rows:List Row}
theorem OT (R:RowsOk rows) (k:Nat) {σ:St} {ra:Nat} {p:PR} (hra:RwsAt σ ra rows) {ρ:At} (r1:look 202 ρ=some (.loc ra)) (r2:look 184 ρ=some (CX p)) :
  ∃ (fo:Nat) (found:List PB) (ρ':At) (σ':St),(∀ {R':List PS} {r:AF×At×St},Xs (k+1) R' ρ' σ' r→Xs (k+1) (.asg (.names [113,143]) (.tup [(.list [(.tup [.int 0,(.bool false)])]),(.list [(.tup [.int 0,(.bool false)])])])::.whl (.cmp .NotEq (.var 143) (.list [])) Gg::R') ρ σ r) ∧
   Ext σ σ'∧σ'[fo]?=some (.list (found.map fA))∧(∀ x:PB,x∈found↔Reach rows p x.1 x.2)∧found.length≤2*rows.length∧look 202 ρ'=some (.loc ra)∧look 184 ρ'=some (CX p)∧look 113 ρ'=some (.loc fo)∧look 156 ρ'=look 156 ρ∧look 162 ρ'=look 162 ρ∧look 89 ρ'=look 89 ρ:=by
 have hN:=R.len
 have l1:=Ad (σ++[AO.list [fA (0,false)]]) (AO.list [fA (0,false)])
 have f1:=Af (Ad σ (AO.list [fA (0,false)])) [AO.list [fA (0,false)]]
 have x1:=(Ext.app1 σ (AO.list [fA (0,false)])).trans (Ext.app1 _ (AO.list [fA (0,false)]))
 have ne:σ.length≠(σ++[AO.list [fA (0,false)]]).length:=Nat.ne_of_lt (AG _ _)
 have ge:σ.length≤(σ++[AO.list [fA (0,false)]]).length:=Nat.le_of_lt (AG _ _)
 have hr0:SrR ra σ.length (σ++[AO.list [fA (0,false)]]).length p (fun y=>look y ρ) (put 143 (.loc (σ++[AO.list [fA (0,false)]]).length) (put 113 (.loc σ.length) ρ)):=
  ⟨Ab (Ab r1 rfl) rfl,Ab (Ab r2 rfl) rfl,Ab (Aj _ _ _) rfl,Aj _ _ _,BA (BA rfl rfl) rfl,BA (BA rfl rfl) rfl,BA (BA rfl rfl) rfl⟩
 have I0:SrI rows σ ra σ.length (σ++[AO.list [fA (0,false)]]).length p (fun y=>look y ρ) (2*rows.length) (put 143 (.loc (σ++[AO.list [fA (0,false)]]).length) (put 113 (.loc σ.length) ρ)) (σ++[AO.list [fA (0,false)]]++[AO.list [fA (0,false)]]):=
  ⟨hr0,x1,by exact om31 hN,[(0,false)],[(0,false)],f1,l1,SI.init R p,Nat.le_refl _⟩
 have q0:∀ {R':List PS} {r:AF×At×St},Xs (k+1) (.whl (.cmp .NotEq (.var 143) (.list [])) Gg::R') (put 143 (.loc (σ++[AO.list [fA (0,false)]]).length) (put 113 (.loc σ.length) ρ)) (σ++[AO.list [fA (0,false)]]++[AO.list [fA (0,false)]]) r→Xs (k+1) (.asg (.names [113,143]) (.tup [(.list [(.tup [.int 0,(.bool false)])]),(.list [(.tup [.int 0,(.bool false)])])])::.whl (.cmp .NotEq (.var 143) (.list [])) Gg::R') ρ σ r:=
  fun h=>Ah (Au (Aa (Ar rfl) (Aa (Ar rfl) Ai))) rfl h
 generalize (σ++[AO.list [fA (0,false)]]).length=lf at *
 generalize σ++[AO.list [fA (0,false)]]++[AO.list [fA (0,false)]]=σ₁ at *
 generalize put 143 (.loc lf) (put 113 (.loc σ.length) ρ)=ρ₁ at *
 obtain ⟨ρ',σ',hloop,hQ⟩:=Gp (test:=DE prog.gtup (AT prog (k+1)) (.cmp .NotEq (.var 143) (.list []))) (body:=DD prog.gtup (AT prog (k+1)) Gg) (SrI rows σ ra σ.length lf p (fun y=>look y ρ))
  (fun ρ' σ'=>∃ found:List PB,SrR ra σ.length lf p (fun y=>look y ρ) ρ'∧Ext σ σ'∧σ'[σ.length]?=some (.list (found.map fA))∧SI rows p found []) (fun m ρ₂ σ₂ I=>by
  obtain ⟨found,left,hf,hl,F,hp⟩:=I.g
  have hne:=LY hl
  have hT:∀ {q:Bool},A9 (σ₂++[AO.list []]) .NotEq (.loc lf) (.loc σ₂.length)=some q→DE prog.gtup (AT prog (k+1)) (.cmp .NotEq (.var 143) (.list [])) ρ₂ σ₂=some (q,σ₂++[AO.list []]):=fun {q} hq=>by
   have h:=Al (k:=k+1) (Ac I.r.r4) (Ar (Ai (ρ:=ρ₂) (σ:=σ₂))) hq
   unfold DE
   rw [show ev _ _ _ _ _=_ from h];rfl
  have x2:=Ext.app1 σ₂ (AO.list [])
  rcases List.eq_nil_or_concat left with e | ⟨L,x,e⟩
  ·subst e
   exact .inl ⟨_,hT hne,found,I.r,I.x.trans x2,x2 _ _ hf,F⟩
  ·rw [List.concat_eq_append] at e
   subst e
   refine .inr ?_
   rw [List.length_map,List.length_append] at hne
   rw [List.length_append] at hp
   have hfl:=EV F.nd F.rg
   have hp':2*rows.length+(L.length+1)≤m+found.length:=hp
   obtain ⟨ρ',σ',h,I'⟩:=Rl R k hra ne (Nat.le_refl _) ge I.hm I.r (I.x.trans x2) (x2 _ _ hf) (Af hl _) F hp'
   exact ⟨_,ρ',σ',m - 1,hT hne,h,by exact om32 hfl hp',I'⟩) AC _ _ _ (show 2*rows.length < 100000 by omega) I0
 obtain ⟨found,q1,q2,q3,q4⟩:=hQ
 exact ⟨σ.length,found,ρ',σ',fun h=>q0 (Tc hloop h),q2,q3,q4.done,EV q4.nd q4.rg,q1.r1,q1.r2,q1.r3,q1.r5,q1.r6,q1.r7⟩
end
section
variable {rows:List Row}
noncomputable def pairs4:List PR:=[(3,1),(3,2),(4,1),(4,2)]
noncomputable def lA (x:Int×PR):AV:=.tup [.int x.1,CX x.2]
theorem Pq {σ:St} {a b:Nat} {l r:List AV} (h:σ[a]?=some (.list l)) (h2:σ[b]?=some (.list r)) (hne:a≠b) (hl:l.length+r.length≤1000000):Db false 5 (.loc a) [.loc b] σ=some (.none,σ.set a (.list (l++r))):=by
 exact (HD h _ _).trans (AE (PF h2) (if_pos ⟨hne,hl⟩))
noncomputable def BE (p:PR) (found:List PB):List (Int×PR):=(found.filter fun x=>!x.2).map fun x=>(x.1,p)
theorem Sl (k:Nat) {σ:St} {fo:Nat} {found:List PB} (hf:σ[fo]?=some (.list (found.map fA))) (hl:found.length < 100000) {p:PR} {ρ:At} (r1:look 113 ρ=some (.loc fo)) (r2:look 184 ρ=some (CX p)) :
  Ev k (.lcomp (.tup [.var 76,.var 184]) (.many [76,122]) (.var 113) [(.not (.var 122))]) ρ σ (.loc σ.length) (σ++[.list ((BE p found).map lA)]):=by
 let g:AV→Option AV:=fun v=>match v with
  | .tup [.int b,.bool h]=>if h then none else some (lA (b,p))
  | _=>none
 have hc:=BT (body:=cB k (.many [76,122]) ρ (.tup [.var 76,.var 184]) [(.not (.var 122))]) (d:=false) (src:=.loc fo) (L:=found.map fA) (σ:=σ) g (by rw [List.length_map];exact hl) (Av hf) (fun v hv=>by
  obtain ⟨x,_,rfl⟩:=List.mem_map.mp hv
  obtain ⟨b,h⟩:=x
  have l1:=Ab (y:=122) (v:=.bool h) (Aj 76 (.int b) ρ) rfl
  have l2:=Aj 122 (.bool h) (put 76 (.int b) ρ)
  have l3:=Ab (y:=122) (v:=.bool h) (Ab (y:=76) (v:=.int b) r2 rfl) rfl
  cases h
  ·exact Bp rfl (HW (F4 (Ac l2) rfl) rfl) (Au (Aa (Ac l1) (Aa (Ac l3) Ai)))
  ·exact Dq rfl (HW (F4 (Ac l2) rfl) rfl))
 have hm:(found.map fA).filterMap g=(BE p found).map lA:=by
  clear hc hf hl
  unfold BE
  induction found with
  | nil=>rfl
  | cons x r ih=>
   obtain ⟨b,h⟩:=x
   rw [List.map_cons,List.filterMap_cons,ih]
   cases h
   ·rw [List.filter_cons_of_pos (p:=fun x:PB=>!x.2) (show (!false)=true from rfl)];rfl
   ·rw [List.filter_cons_of_neg (p:=fun x:PB=>!x.2) (show ¬ (!true)=true from bQ)];rfl
 rw [hm] at hc
 exact BO (Ac r1) (Ce hf) hc
noncomputable def Dk (met:List Int) (found:List PB):List Int:=(found.filter fun x=>!met.contains x.1).map (·.1)
theorem Ut (k:Nat) {σ:St} {fo me:Nat} {found:List PB} {met:List Int} (hf:σ[fo]?=some (.list (found.map fA))) (hm:σ[me]?=some (.list (met.map .int))) (hl:found.length < 100000) {ρ:At} (r1:look 113 ρ=some (.loc fo)) (r2:look 162 ρ=some (.loc me)) :
  Ev k (.lcomp (.var 76) (.many [76,122]) (.var 113) [(.cmp .NotIn (.var 76) (.var 162))]) ρ σ (.loc σ.length) (σ++[.list ((Dk met found).map .int)]):=by
 let g:AV→Option AV:=fun v=>match v with
  | .tup [.int b,_]=>if met.contains b then none else some (.int b)
  | _=>none
 have hc:=BT (body:=cB k (.many [76,122]) ρ (.var 76) [(.cmp .NotIn (.var 76) (.var 162))]) (d:=false) (src:=.loc fo) (L:=found.map fA) (σ:=σ) g (by rw [List.length_map];exact hl) (Av hf) (fun v hv=>by
  obtain ⟨x,_,rfl⟩:=List.mem_map.mp hv
  obtain ⟨b,h⟩:=x
  have l1:=Ab (y:=122) (v:=.bool h) (Aj 76 (.int b) ρ) rfl
  have l3:=Ab (y:=122) (v:=.bool h) (Ab (y:=76) (v:=.int b) r2 rfl) rfl
  have hE:=HW (k:=k) (Al (Ac l1) (Ac l3) (M1 hm b)) rfl
  show _=some (if met.contains b=true then none else some (AV.int b),σ)
  cases hb:met.contains b<;>rw [hb] at hE
  ·exact Bp rfl hE (Ac l1)
  ·exact Dq rfl hE)
 have hmm:(found.map fA).filterMap g=(Dk met found).map .int:=by
  clear hc hf hl
  unfold Dk
  induction found with
  | nil=>rfl
  | cons x r ih=>
   obtain ⟨b,h⟩:=x
   rw [List.map_cons,List.filterMap_cons,ih]
   rw [show g (fA (b,h))=(if met.contains b=true then none else some (AV.int b)) from rfl]
   cases hb:met.contains b
   ·rw [List.filter_cons_of_pos (p:=fun x:PB=>!met.contains x.1) (by show (!met.contains b)=true;rw [hb];rfl)];rfl
   ·rw [List.filter_cons_of_neg (p:=fun x:PB=>!met.contains x.1) (by show ¬ (!met.contains b)=true;rw [hb];exact bQ)];rfl
 rw [hmm] at hc
 exact BO (Ac r1) (Ce hf) hc
structure PaI (rows:List Row) (σ₀:St) (ra lo pa:Nat) (co:AV) (i:Nat) (ρ:At) (σ:St):Prop where
 r1:look 202 ρ=some (.loc ra)
 r2:look 89 ρ=some co
 r3:look 156 ρ=some (.loc lo)
 x:Ext σ₀ σ
 sp:σ[pa]?=some (.list (pairs4.map CX))
 g:∃ (me:Nat) (lost:List (Int×PR)) (met:List Int),look 162 ρ=some (.loc me)∧me≠lo∧σ[lo]?=some (.list (lost.map lA))∧σ[me]?=some (.list (met.map .int))∧(∀ b q,(b,q)∈lost↔q∈pairs4.take i∧Reach rows q b false)∧(∀ b,b∈met↔b=0∨∃ q∈pairs4.take i,∃ h,Reach rows q b h)∧lost.length≤i*2000∧met.length≤1+i*2000
noncomputable def Pf:List PS:=[
  .asg (.names [113,143]) (.tup [(.list [(.tup [.int 0,(.bool false)])]),(.list [(.tup [.int 0,(.bool false)])])]),
  .whl (.cmp .NotEq (.var 143) (.list [])) Gg,
  .expr (.meth (.var 156) 5 [(.lcomp (.tup [.var 76,.var 184]) (.many [76,122]) (.var 113) [(.not (.var 122))])]),
  .asg (.name 162) (.bin .Add (.var 162) (.lcomp (.var 76) (.many [76,122]) (.var 113) [(.cmp .NotIn (.var 76) (.var 162))]))]
theorem RA (R:RowsOk rows) (k:Nat) {σ₀:St} {ra lo pa:Nat} {co:AV} (hra:RwsAt σ₀ ra rows) (e1:σ₀.length≤lo) {i:Nat} {p:PR} (hp:pairs4[i]?=some p) (hi:i < 4) {ρ:At} {σ:St} (J:PaI rows σ₀ ra lo pa co i ρ σ) :
  ∃ ρ' σ',Xs (k+1) Pf (put 184 (CX p) ρ) σ (.next,ρ',σ')∧PaI rows σ₀ ra lo pa co (i+1) ρ' σ':=by
 obtain ⟨me,lost,met,j0,j1,j2,j3,j4,j5,j6,j7⟩:=J.g
 have hN:=R.len
 obtain ⟨fo,found,ρ',σ₁,hX,x1,hf,hF,hfl,q1,q2,q3,q4,q5,q6⟩:=OT R k (hra.ext J.x) (Ab J.r1 rfl) (Aj 184 (CX p) ρ)
 have q4':=q4.trans (Ab J.r3 rfl)
 have q5':=q5.trans (Ab j0 rfl)
 have q6':=q6.trans (Ab J.r2 rfl)
 have hfl':found.length < 2000:=by exact om34 hN hfl
 have e2:=Sl (k+1) hf (by exact om8 hfl') (p:=p) q3 q2
 have g2:=Ad σ₁ (AO.list ((BE p found).map lA))
 have x2:=Ext.app1 σ₁ (AO.list ((BE p found).map lA))
 have nlo:lo≠σ₁.length:=Nat.ne_of_lt (Bc (x1 _ _ j2))
 have hll:(BE p found).length≤found.length:=by unfold BE;rw [List.length_map];exact List.length_filter_le _ _
 have m2:=Pq (x2 _ _ (x1 _ _ j2)) g2 nlo (by rw [List.length_map,List.length_map];exact om35 hi j6 hfl' hll)
 rw [←List.map_append] at m2
 have y2:=x1.trans x2
 have lo2:=y2 _ _ j2
 have me2:=y2 _ _ j3
 have fo2:=x2 _ _ hf
 have pa2:=y2 _ _ J.sp
 have X2:=J.x.trans y2
 have nfo:fo≠lo:=by
  intro e
  subst e
  have h1:(found.map fA)=lost.map lA:=AO.list.inj (oQ (hf.symm.trans (x1 _ _ j2)))
  have h0:((0,false):PB)∈found:=(hF _).mpr .start
  have:fA (0,false)∈lost.map lA:=h1▸List.mem_map.mpr ⟨_,h0,rfl⟩
  obtain ⟨z,_,hz⟩:=List.mem_map.mp this
  unfold lA fA CX at hz
  simp at hz
 have npa:pa≠lo:=by
  intro e
  subst e
  have h1:(pairs4.map CX)=lost.map lA:=AO.list.inj (oQ (J.sp.symm.trans j2))
  have:CX (3,1)∈lost.map lA:=h1▸List.mem_map.mpr ⟨(3,1),.head _,rfl⟩
  obtain ⟨z,_,hz⟩:=List.mem_map.mp this
  unfold lA CX at hz
  simp at hz
 generalize σ₁++[AO.list ((BE p found).map lA)]=σ₂ at *
 have lo3:(σ₂.set lo (.list ((lost++BE p found).map lA)))[lo]?=some (.list ((lost++BE p found).map lA)):=AQ lo2
 have me3:(σ₂.set lo (.list ((lost++BE p found).map lA)))[me]?=some (.list (met.map .int)):=AR me2 (Ne.symm j1)
 have fo3:(σ₂.set lo (.list ((lost++BE p found).map lA)))[fo]?=some (.list (found.map fA)):=AR fo2 (Ne.symm nfo)
 have pa3:(σ₂.set lo (.list ((lost++BE p found).map lA)))[pa]?=some (.list (pairs4.map CX)):=AR pa2 (Ne.symm npa)
 have X3:=(ExtB.set σ₂ (.list ((lost++BE p found).map lA))).to X2 e1
 generalize σ₂.set lo (.list ((lost++BE p found).map lA))=σ₃ at *
 have e3:=Ut (k+1) fo3 me3 (by exact om8 hfl') q3 q5'
 have hml:(Dk met found).length≤found.length:=by unfold Dk;rw [List.length_map];exact List.length_filter_le _ _
 have x4:=Ext.app1 σ₃ (AO.list ((Dk met found).map .int))
 have b3:=EI (x4 _ _ me3) (Ad σ₃ (AO.list ((Dk met found).map .int))) (by rw [List.length_map,List.length_map];exact om36 hi j7 hfl' hml)
 rw [←List.map_append] at b3
 have g4:=Ad (σ₃++[AO.list ((Dk met found).map .int)]) (AO.list ((met++Dk met found).map .int))
 have x5:=x4.trans (Ext.app1 _ (AO.list ((met++Dk met found).map .int)))
 have hT:pairs4.take (i+1)=pairs4.take i++[p]:=by rw [List.take_add_one,hp];rfl
 refine ⟨put 162 (.loc (σ₃++[AO.list ((Dk met found).map .int)]).length) ρ',_,hX (A1 (CI (Ac q4') (x1 _ _ j2) (Aa e2 Ai) m2) (Ah (Bj (Ac q5') e3 b3) rfl rfl)),Ab q1 rfl,Ab q6' rfl,Ab q4' rfl,X3.trans x5,x5 _ _ pa3,_,lost++BE p found,met++Dk met found,Aj _ _ _,?_,x5 _ _ lo3,g4,fun b q=>?_,fun b=>?_,?_,?_⟩
 ·exact Ne.symm (Nat.ne_of_lt (Bc (x4 _ _ lo3)))
 ·rw [hT,List.mem_append,List.mem_append,j4]
  have:(b,q)∈BE p found↔q=p∧Reach rows q b false:=by
   unfold BE
   rw [List.mem_map]
   constructor
   ·rintro ⟨x,hx,e⟩
    obtain ⟨h1,h2⟩:=List.mem_filter.mp hx
    obtain ⟨e1,e2⟩:=pQ e
    obtain ⟨b',h'⟩:=x
    cases h'
    ·have:=(hF _).mp h1
     exact ⟨e2.symm,e2▸e1▸this⟩
    ·exact absurd h2 bQ
   ·rintro ⟨rfl,h⟩
    exact ⟨(b,false),List.mem_filter.mpr ⟨(hF (b,false)).mpr h,rfl⟩,rfl⟩
  rw [this,List.mem_singleton]
  exact ⟨fun h=>h.elim (fun h=>⟨.inl h.1,h.2⟩) fun h=>⟨.inr h.1,h.2⟩,fun h=>h.1.elim (fun h'=>.inl ⟨h',h.2⟩) fun h'=>.inr ⟨h',h.2⟩⟩
 ·rw [hT,List.mem_append]
  have:b∈Dk met found↔b∉met∧∃ h,Reach rows p b h:=by
   unfold Dk
   rw [List.mem_map]
   constructor
   ·rintro ⟨x,hx,rfl⟩
    obtain ⟨h1,h2⟩:=List.mem_filter.mp hx
    refine ⟨fun hm=>?_,x.2,(hF x).mp h1⟩
    rw [List.contains_iff_mem.mpr hm] at h2
    exact absurd h2 bQ
   ·rintro ⟨h1,h,h2⟩
    refine ⟨(b,h),List.mem_filter.mpr ⟨(hF (b,h)).mpr h2,?_⟩,rfl⟩
    cases hc:met.contains b
    ·rfl
    ·exact absurd (List.contains_iff_mem.mp hc) h1
  rw [this]
  constructor
  ·rintro (h | ⟨_,h,h2⟩)
   ·rcases (j5 b).mp h with h | ⟨q,hq,h⟩
    ·exact .inl h
    ·exact .inr ⟨q,List.mem_append_left _ hq,h⟩
   ·exact .inr ⟨p,List.mem_append_right _ (.head _),h,h2⟩
  ·intro h
   by_cases hb:b∈met
   ·exact .inl hb
   ·rcases h with h | ⟨q,hq,h⟩
    ·exact .inl ((j5 b).mpr (.inl h))
    ·rcases List.mem_append.mp hq with hq | hq
     ·exact .inl ((j5 b).mpr (.inr ⟨q,hq,h⟩))
     ·rw [List.mem_singleton.mp hq] at h;exact .inr ⟨hb,h⟩
 ·rw [List.length_append];exact om37 j6 hfl' hll
 ·rw [List.length_append];exact om38 j7 hfl' hml
end
section
variable {rows:List Row}
theorem I6 {f:AV→AV→Option Bool} {b:List (Int×AV)}:∀ {l:List (Int×AV)},(∀ p∈l,∃ w,Ao p.1 b=some w∧f p.2 w=some true)→CQ f b l=some true
 | [],_=>rfl
 | (k,v)::r,h=>by
  obtain ⟨w,h1,h2⟩:=h _ (.head _)
  unfold CQ
  rw [h1]
  simp only [h2,I6 fun p hp=>h p (.tail _ hp),Bool.and_self]
theorem Ra {σ:St} {a b n:Nat} {l m:List (Int×AV)} (h1:σ[a]?=some (.dI l)) (h2:σ[b]?=some (.dI m)) (hl:l.length=m.length) (hd:∀ p∈l,∃ w,Ao p.1 m=some w∧BU σ n p.2 w=some true):BU σ (n+1) (.loc a) (.loc b)=some true:=by
 show Ig _ σ[a]? σ[b]?=_
 rw [h1,h2]
 exact (if_pos hl).trans (I6 hd)
theorem RR {K:KP} (hN:Rb K) {p q:PR} (hp:p∈K) (hq:q∈K) (e:p.1=q.1):p=q:=by
 have a:=(Fp hN).mpr hp
 have b:=(Fp hN).mpr hq
 rw [e,b] at a
 exact Prod.ext e (AV.int.inj (oQ a)).symm
theorem IJ:∀ {L:KP},L.Nodup→(∀ p∈L,∀ q∈L,p.1=q.1→p=q)→Rb L
 | [],_,_=>List.nodup_nil
 | p::r,hn,h=>by
  have hc:=List.nodup_cons.mp hn
  refine List.nodup_cons.mpr ⟨fun hm=>?_,IJ hc.2 fun a ha b hb=>h a (.tail _ ha) b (.tail _ hb)⟩
  obtain ⟨q,hq,e⟩:=List.mem_map.mp hm
  exact hc.1 (h q (.tail _ hq) p (.head _) e▸hq)
noncomputable def C_ (K:KP):KP:=pairs4.filter fun p=>K.contains p
theorem DF {K:KP} (h:WfP K) (p:PR):p∈C_ K↔p∈K:=by
 unfold C_
 rw [List.mem_filter,List.contains_iff_mem]
 refine ⟨fun h=>h.2,fun hp=>⟨?_,hp⟩⟩
 obtain ⟨h1,h2⟩:=h.dom p hp
 obtain ⟨a,b⟩:=p
 rcases h1 with h1 | h1<;>rcases h2 with h2 | h2<;>(simp only at h1 h2;subst h1;subst h2;decide)
theorem Ju {K:KP} (h:WfP K):WfP (C_ K):=by
 have hn:(C_ K).Nodup:=List.Nodup.sublist List.filter_sublist (by decide)
 exact ⟨IJ hn fun p hp q hq e=>RR h.nd ((DF h p).mp hp) ((DF h q).mp hq) e,fun p hp=>h.dom p ((DF h p).mp hp)⟩
theorem FN {K:KP} (h:Rb K):K.Nodup:=by
 unfold Rb at h
 induction K with
 | nil=>exact List.nodup_nil
 | cons p r ih=>
  have hc:=List.nodup_cons.mp h
  exact List.nodup_cons.mpr ⟨fun hm=>hc.1 (List.mem_map.mpr ⟨p,hm,rfl⟩),ih hc.2⟩
theorem Ph {K:KP} (h:WfP K):K.length=(C_ K).length:=
 Nat.le_antisymm (Eo (FN h.nd) fun p hp=>(DF h p).mpr hp) (Eo (FN (Ju h).nd) fun p hp=>(DF h p).mp hp)
noncomputable def Iq (Bm:Int→Option KP):Int→Option KP:=fun b=>(Bm b).map C_
theorem GK:∀ {l:List (Int×AV)} {k:Int},k∈l.map (·.1)→∃ v,Ao k l=some v
 | (y,w)::r,k,h=>by
  unfold Ao
  by_cases e:k=y
  ·exact ⟨w,if_pos e⟩
  ·rw [if_neg e]
   exact GK ((List.mem_cons.mp h).resolve_left e)
theorem HK {σ:St} {B:List (Int×AV)} {Bm:Int→Option KP} {be:Nat} (no:∀ b,Ao b B=none→Bm b=none)
  (so:∀ b v,Ao b B=some v→∃ dn K,v=.loc dn∧dn≠be∧σ[dn]?=some (.dI (AW K))∧WfP K∧Bm b=some K) (b:Int):b∈B.map (·.1)↔(Bm b).isSome=true:=by
 constructor
 ·intro h
  generalize hl:Ao b B=zz1
  induction zz1 using Option.casesOn with
  | some v=>obtain ⟨_,K,_,_,_,_,e⟩:=so b v hl;rw [e];rfl
  | none=>obtain ⟨v,e⟩:=GK h;rw [hl] at e;exact Ae e
 ·intro h
  generalize hl:Ao b B=zz3
  induction zz3 using Option.casesOn with
  | some v=>exact List.mem_map.mpr ⟨_,DI hl,rfl⟩
  | none=>rw [no b hl] at h;exact absurd h bQ
theorem Lr {σ:St} {be du N:Nat} {Bm:Int→Option KP} (h1:BegAt σ be N Bm) (h2:BegAt σ du N (Iq Bm)):BU σ 20 (.loc be) (.loc du)=some true:=by
 obtain ⟨B,b1,bn,_,bno,bso⟩:=h1
 obtain ⟨D,d1,dn,_,dno,dso⟩:=h2
 have hk:∀ b,b∈B.map (·.1)↔b∈D.map (·.1):=fun b=>by
  rw [HK bno bso,HK dno dso]
  unfold Iq
  rw [Option.isSome_map]
 have hlen:B.length=D.length:=by
  have a:=Eo bn fun x hx=>(hk x).mp hx
  have b:=Eo dn fun x hx=>(hk x).mpr hx
  rw [List.length_map,List.length_map] at a b
  exact Nat.le_antisymm a b
 refine Ra b1 d1 hlen fun p hp=>?_
 have hl:=lookI_mem bn hp
 obtain ⟨e,K,q1,_,q2,wK,q3⟩:=bso _ _ hl
 generalize hd:Ao p.1 D=zz5
 induction zz5 using Option.casesOn with
 | none=>
  have hm:=(hk p.1).mp (List.mem_map.mpr ⟨p,hp,rfl⟩)
  rw [HK dno dso,dno _ hd] at hm
  exact absurd hm bQ
 | some w=>
  obtain ⟨e',K',r1,_,r2,_,r3⟩:=dso _ _ hd
  refine ⟨w,rfl,?_⟩
  have:K'=C_ K:=by
   unfold Iq at r3
   rw [q3] at r3
   exact (oQ r3).symm
  subst this
  rw [q1,r1]
  refine Ra q2 r2 (by rw [Cq,Cq];exact Ph wK) fun q hq=>?_
  obtain ⟨z,hz,rfl⟩:=List.mem_map.mp hq
  exact ⟨.int z.2,(Fp (Ju wK).nd).mpr ((DF wK z).mpr hz),congrArg some (beq_self_eq_true z.2)⟩
theorem RX {σ:St} {a:Nat} {lost:List (Int×PR)} (h:σ[a]?=some (.list (lost.map lA))) (x:Int×PR):A9 σ .NotIn (lA x) (.loc a)=some (!lost.contains x):=by
 have key:∀ lost:List (Int×PR),CP (BU σ 20) (lA x) (lost.map lA)=some (lost.contains x):=by
  intro lost
  induction lost with
  | nil=>rfl
  | cons y r ih=>
   show (match some (y.1==x.1&&(y.2.1==x.2.1&&(y.2.2==x.2.2&&true)&&true)),CP (BU σ 20) (lA x) (r.map lA) with | some a,some b=>some (a || b) | _,_=>none)=_
   rw [ih,List.contains_cons]
   have:(y.1==x.1&&(y.2.1==x.2.1&&(y.2.2==x.2.2&&true)&&true))=(x==y):=by
    rw [Bool.and_true,Bool.and_true,Bool.eq_iff_iff,Bool.and_eq_true,Bool.and_eq_true,beq_iff_eq,beq_iff_eq,beq_iff_eq,beq_iff_eq]
    exact ⟨fun h=>Prod.ext h.1.symm (Prod.ext h.2.1.symm h.2.2.symm),fun h=>by rw [h];exact ⟨rfl,rfl,rfl⟩⟩
   rw [this]
 show Option.map not (match σ[a]? with | some (.list l)=>_ | some (.dI l)=>_ | _=>_)=_
 rw [h]
 show Option.map not (CP (BU σ 20) (lA x) (lost.map lA))=_
 rw [key];rfl
end
section
variable {rows:List Row}
noncomputable def Mb:List PS:=[
  .asg (.name 210) (.lcomp (.var 184) (.one 184) (.list [(.tup [.int 3,.int 1]),(.tup [.int 3,.int 2]),(.tup [.int 4,.int 1]),(.tup [.int 4,.int 2])]) [(.cmp .NotIn (.tup [.var 76,.var 184]) (.var 156))]),
  .asg (.sub (.var 97) (.var 76)) (.blt .dict [.var 210])]
structure DuI (σ₀:St) (lo du N:Nat) (co:AV) (met:List Int) (Bm:Int→Option KP) (i:Nat) (ρ:At) (σ:St):Prop where
 r1:look 97 ρ=some (.loc du)
 r2:look 156 ρ=some (.loc lo)
 r3:look 89 ρ=some co
 x:Ext σ₀ σ
 b:BegAt σ du N (fun b=>if b∈met.take i then Iq Bm b else none)
theorem SD (k:Nat) {σ₀:St} {lo du N:Nat} {co:AV} {met:List Int} {lost:List (Int×PR)} {Bm:Int→Option KP} (hN:N < 1000) (hlo:σ₀[lo]?=some (.list (lost.map lA))) (e1:σ₀.length≤du) {i:Nat} {b:Int} {K:KP} (hb:met[i]?=some b) (hK:Bm b=some K) (wK:WfP K) (hbi:0≤b∧b < (N:Int))
  (hL:∀ q∈pairs4,lost.contains (b,q)=!K.contains q) {ρ:At} {σ:St} (J:DuI σ₀ lo du N co met Bm i ρ σ) :
  ∃ ρ' σ',Xs k Mb (put 76 (.int b) ρ) σ (.next,ρ',σ')∧DuI σ₀ lo du N co met Bm (i+1) ρ' σ':=by
 have x1:=Ext.app1 σ (AO.list (pairs4.map CX))
 have g1:=Ad σ (AO.list (pairs4.map CX))
 have lo1:=x1 _ _ (J.x _ _ hlo)
 let g:AV→Option AV:=fun v=>match v with
  | .tup [.int a,.int c]=>if K.contains (a,c) then some v else none
  | _=>none
 have hc:=BT (body:=cB k (.one 184) (put 76 (.int b) ρ) (.var 184) [(.cmp .NotIn (.tup [.var 76,.var 184]) (.var 156))]) (d:=false) (src:=.loc σ.length) (L:=pairs4.map CX) (σ:=σ++[AO.list (pairs4.map CX)]) g (show 4 < 100000 by decide) (Av g1) (fun v hv=>by
  obtain ⟨q,hq,rfl⟩:=List.mem_map.mp hv
  have l1:=Ab (y:=184) (v:=CX q) (Aj 76 (.int b) ρ) rfl
  have l2:=Aj 184 (CX q) (put 76 (.int b) ρ)
  have l3:=Ab (y:=184) (v:=CX q) (Ab (y:=76) (v:=.int b) J.r2 rfl) rfl
  have hi:=RX lo1 (b,q)
  rw [hL q hq,Bool.not_not] at hi
  have hE:=HW (k:=k) (Al (op:=.NotIn) (Au (Aa (Ac l1) (Aa (Ac l2) Ai))) (Ac l3) hi) rfl
  show _=some (if K.contains q=true then some (CX q) else none,_)
  cases hb:K.contains q<;>rw [hb] at hE
  ·exact Dq rfl hE
  ·exact Bp rfl hE (Ac l2))
 have hm:(pairs4.map CX).filterMap g=(C_ K).map CX:=by
  unfold C_
  generalize pairs4=L
  induction L with
  | nil=>rfl
  | cons q r ih=>
   rw [List.map_cons,List.filterMap_cons,ih,show g (CX q)=(if K.contains q=true then some (CX q) else none) from rfl]
   cases hb:K.contains q
   ·rw [List.filter_cons_of_neg (p:=fun p:PR=>K.contains p) (by rw [hb];exact bQ)];rfl
   ·rw [List.filter_cons_of_pos (p:=fun p:PR=>K.contains p) hb];rfl
 rw [hm] at hc
 have wO:=Ju wK
 have g2:=Ad (σ++[AO.list (pairs4.map CX)]) (AO.list ((C_ K).map CX))
 have hpairs:Cd ((C_ K).map CX) []=some (AW (C_ K)):=by
  have:=Fk (l:=AW (C_ K)) (acc:=[]) (Dw wO.nd)
  unfold AW at this ⊢
  rw [List.map_map] at this
  exact this
 have hd:=Jg g2 (by rw [List.length_map];exact Nat.le_trans wO.len (by decide)) hpairs
 have x2:=x1.trans (Ext.app1 _ (AO.list ((C_ K).map CX)))
 have hE:Ev k (.lcomp (.var 184) (.one 184) (.list [(.tup [.int 3,.int 1]),(.tup [.int 3,.int 2]),(.tup [.int 4,.int 1]),(.tup [.int 4,.int 2])]) [(.cmp .NotIn (.tup [.var 76,.var 184]) (.var 156))]) (put 76 (.int b) ρ) σ (.loc (σ++[AO.list (pairs4.map CX)]).length) (σ++[AO.list (pairs4.map CX)]++[AO.list ((C_ K).map CX)]):=
  BO (Ar rfl) (Ce g1) hc
 generalize (σ++[AO.list (pairs4.map CX)]).length=a at *
 generalize σ++[AO.list (pairs4.map CX)]++[AO.list ((C_ K).map CX)]=σ₂ at *
 have x3:=x2.trans (Ext.app1 σ₂ (AO.dI (AW (C_ K))))
 have g3:=Ad σ₂ (AO.dI (AW (C_ K)))
 obtain ⟨D,h,nd,rg,no,so⟩:=J.b.ext x3
 have hne:σ₂.length≠du:=Ne.symm (Nat.ne_of_lt (Nat.lt_of_lt_of_le (by obtain ⟨D',h',_⟩:=J.b;exact Bc h') x2.le))
 have l1:look 97 (put 210 (.loc a) (put 76 (.int b) ρ))=some (.loc du):=Ab (Ab J.r1 rfl) rfl
 have l2:look 76 (put 210 (.loc a) (put 76 (.int b) ρ))=some (.int b):=Ab (Aj _ _ _) rfl
 refine ⟨put 210 (.loc a) (put 76 (.int b) ρ),_,Ah hE rfl (Fh (Bx (Aa (Ac (Aj _ _ _)) Ai) hd) (Ac l1) (Ac l2) h (Nat.lt_of_le_of_lt (Nq nd rg) (Nat.lt_trans hN (by decide))) rfl),l1,Ab (Ab J.r2 rfl) rfl,Ab (Ab J.r3 rfl) rfl,(J.x.trans x3).set e1,BegAt.put (K':=C_ K) h nd rg no so hbi g3 hne wO fun c=>?_⟩
 have hT:met.take (i+1)=met.take i++[b]:=by rw [List.take_add_one,hb];rfl
 by_cases hcb:c=b
 ·subst hcb
  rw [if_pos rfl,if_pos (by rw [hT];exact List.mem_append_right _ (.head _))]
  unfold Iq
  rw [hK];rfl
 ·rw [if_neg hcb]
  have:c∈met.take (i+1)↔c∈met.take i:=by
   rw [hT,List.mem_append,List.mem_singleton]
   exact ⟨fun h=>h.resolve_right hcb,.inl⟩
  by_cases hm:c∈met.take i
  ·rw [if_pos hm,if_pos (this.mpr hm)]
  ·rw [if_neg hm,if_neg fun h=>hm (this.mp h)]
theorem SN (R:RowsOk rows) (k:Nat) {σ₀ σ:St} {ra lo be:Nat} {co:AV} {Bm:Int→Option KP} (F:FI rows Bm []) {c b oth pa:Nat} {ρ:At} (hco:co=.loc c) (I:PaI rows σ₀ ra lo pa co 4 ρ σ) (C:CopAt σ c b oth be) (hB:BegAt σ be rows.length Bm) :
  ∃ ρ' σ',Xs k [.asg (.name 97) (.dict []),.fors (.one 76) (.var 162) Mb,.ret (.cmp .Eq (.attr (.var 89) 73) (.var 97))] ρ σ (.ret (.bool true),ρ',σ')∧Ext σ σ':=by
 obtain ⟨me,lost,met,j0,j1,j2,j3,j4,j5,j6,j7⟩:=I.g
 have hN:=R.len
 have hmet:∀ b,b∈met↔∃ K,Bm b=some K:=fun b=>by
  rw [j5]
  constructor
  ·rintro (rfl | ⟨q,_,h,hr⟩)
   ·exact ⟨_,F.zero⟩
   ·obtain ⟨K,e,_⟩:=F.done hr;exact ⟨K,e⟩
  ·rintro ⟨K,e⟩
   obtain ⟨h,hr⟩:=(F.reach b K (3,1) e).1
   exact .inr ⟨(3,1),.head _,h,hr⟩
 have hlost:∀ b K,Bm b=some K→∀ q∈pairs4,lost.contains (b,q)=!K.contains q:=fun b K e q hq=>by
  rw [Bool.eq_iff_iff,List.contains_iff_mem,j4]
  constructor
  ·rintro ⟨_,h⟩
   obtain ⟨K',e',h'⟩:=F.done h
   rw [e] at e';cases e'
   cases hc:K.contains q
   ·rfl
   ·exact absurd (h' hc) bQ
  ·intro h
   exact ⟨hq,(F.reach b K q e).2 (by cases hc:K.contains q<;>rw [hc] at h<;>first | rfl | (exact absurd h bQ))⟩
 have x1:=Ext.app1 σ (AO.dI [])
 have I0:DuI σ lo σ.length rows.length co met Bm 0 (put 97 (.loc σ.length) ρ) (σ++[AO.dI []]):=
  ⟨Aj _ _ _,Ab I.r3 rfl,Ab I.r2 rfl,x1,[],Ad _ _,List.nodup_nil,fun p hp=>absurd hp List.not_mem_nil,fun b _=>by rw [List.take_zero,if_neg List.not_mem_nil],fun b v e=>by cases e⟩
 obtain ⟨ρ',σ',hloop,J⟩:=AP (l:=met.map AV.int) (body:=DD prog.gtup (AT prog k) Mb) (t:=.one 76) (src:=.loc me) (DuI σ lo σ.length rows.length co met Bm) (fun i ρ σ' J=>Av (J.x _ _ j3) i) (fun i v ρ σ' hv J=>by
  rw [List.getElem?_map] at hv
  obtain ⟨b,hb,rfl⟩:=Option.map_eq_some_iff.mp hv
  obtain ⟨K,hK⟩:=(hmet b).mp (List.mem_of_getElem? hb)
  obtain ⟨b0,b1,wK⟩:=F.inr b K hK
  obtain ⟨ρ'',σ'',hX,J'⟩:=SD k hN j2 (Nat.le_refl _) hb hK wK ⟨b0,b1⟩ (hlost b K hK) J
  exact ⟨put 76 (.int b) ρ,ρ'',σ'',rfl,hX,J'⟩) AC 0 _ _ (by rw [List.length_map];show met.length < 0+100000;exact om39 j7) (Nat.zero_le _) I0
 rw [List.length_map] at J
 have hfin:BegAt σ' σ.length rows.length (Iq Bm):=by
  have:=J.b
  rw [List.take_length] at this
  have e:(fun b=>if b∈met then Iq Bm b else none)=Iq Bm:=by
   funext b
   by_cases hm:b∈met
   ·rw [if_pos hm]
   ·rw [if_neg hm]
    unfold Iq
    generalize hb:Bm b=zz3
    induction zz3 using Option.casesOn with
    | none=>rfl
    | some K=>exact absurd ((hmet b).mpr ⟨K,hb⟩) hm
  rwa [e] at this
 obtain ⟨C1,_⟩:=C
 have hq:A9 σ' .Eq (.loc be) (.loc σ.length)=some true:=Lr (hB.ext J.x) hfin
 subst hco
 exact ⟨ρ',σ',Ah (Bw rfl rfl) rfl (A6 (Ac (Ab j0 rfl)) hloop (Az (Al (AN (Ac J.r3) (J.x _ _ C1) rfl) (Ac J.r1) hq))),J.x⟩
end
section
variable {rows:List Row}
theorem UG:prog.defs (0,56)=some DN:=rfl
theorem d44:prog.defs (0,44)=some CU:=rfl
theorem d151:prog.defs (0,151)=some D_:=rfl
theorem d21:prog.defs (21,17)=some Dl:=rfl
theorem G6 (k:Nat) (σ:St) (d:Deed):∃ σ',Ca (k+2) (0,56) [BJ d] σ (CW d) σ'∧Ext σ σ':=by
 obtain ⟨w,one,oth⟩:=d
 have hq:A9 (σ++[AO.list [.str 152,.str 92]]) .In (.str (Cf w)) (.loc σ.length)=some (152==Cf w || (92==Cf w || false)):=by
  show (match (σ++[AO.list [.str 152,.str 92]])[σ.length]? with | some (.list l)=>_ | some (.dI l)=>_ | _=>_)=_
  rw [Ad];rfl
 refine ⟨_,?_,Ext.app1 σ (AO.list [.str 152,.str 92])⟩
 have start:∀ {q:Bool},(152==Cf w || (92==Cf w || false))=q→Ev (k+1) (.cmp .In (.var 241) (.list [.str 152,.str 92])) [(93,BJ ⟨w,one,oth⟩),(241,.str (Cf w)),(176,.int one),(182,.int oth)] σ (.bool q) (σ++[AO.list [.str 152,.str 92]]):=fun {q} e=>Al rfl (Ar rfl) (hq.trans (congrArg some e))
 generalize σ++[AO.list [.str 152,.str 92]]=σ₁ at *
 induction w using DW.casesOn with
 | live=>exact An (Ag rfl) UG rfl (Ah rfl rfl (AJ (start rfl) rfl rfl))
 | dead=>exact An (Ag rfl) UG rfl (Ah rfl rfl (AJ (start rfl) rfl rfl))
 | print=>exact An (Ag rfl) UG rfl (Ah rfl rfl (Ak (start rfl) rfl rfl))
 | out=>exact An (Ag rfl) UG rfl (Ah rfl rfl (Ak (start rfl) rfl rfl))
 | const=>exact An (Ag rfl) UG rfl (Ah rfl rfl (Ak (start rfl) rfl rfl))
 | copy=>exact An (Ag rfl) UG rfl (Ah rfl rfl (Ak (start rfl) rfl rfl))
 | move=>exact An (Ag rfl) UG rfl (Ah rfl rfl (Ak (start rfl) rfl rfl))
theorem Jc {α:Type} {p q:α→AV} {body:AV→St→Option (Option AV×St)} {a:Nat} {l:List α} {σ₀:St} (hσ:σ₀[a]?=some (.list (l.map p))) (hb:∀ x∈l,∀ σ,Ext σ₀ σ→∃ σ',body (p x) σ=some (some (q x),σ')∧Ext σ σ') :
  ∀ (n i:Nat) (acc:List AV) (σ:St),l.length < i+n→i≤l.length→Ext σ₀ σ→∃ σ',Ch body false (.loc a) n i acc σ=some (acc++(l.drop i).map q,σ')∧Ext σ σ'
 | 0,i,acc,σ,h,hi,_=>absurd h (Nat.not_lt.mpr hi)
 | n+1,i,acc,σ,h,hi,E=>by
  rcases Nat.lt_or_eq_of_le hi with hi | hi
  ·obtain ⟨σ₁,b1,b2⟩:=hb l[i] (List.getElem_mem hi) σ E
   obtain ⟨σ₂,c1,c2⟩:=Jc hσ hb n (i+1) (acc++[q l[i]]) σ₁ (by rw [Nat.add_right_comm];exact h) hi (E.trans b2)
   refine ⟨σ₂,FX ((Av (E _ _ hσ) i).trans (congrArg some (by rw [List.getElem?_map,List.getElem?_eq_getElem hi];rfl))) b1 (c1.trans ?_),b2.trans c2⟩
   rw [List.drop_eq_getElem_cons hi,List.append_assoc];rfl
  ·refine ⟨σ,(HO ((Av (E _ _ hσ) i).trans (congrArg some (by rw [List.getElem?_map,List.getElem?_eq_none (Nat.le_of_eq hi.symm)];rfl)))).trans ?_,Ext.refl _⟩
   rw [hi,List.drop_length,List.map_nil,List.append_nil]
noncomputable def QS:List PS:=[
  .expr (.meth (.var 77) 3 [(.list [(.lcomp (.call 56 [.var 93]) (.one 93) (.var 94) []),.var 98])])]
structure BkI (rows:List Row) (σ₀:St) (ra bs:Nat) (i:Nat) (ρ:At) (σ:St):Prop where
 r1:look 77 ρ=some (.loc bs)
 r2:look 202 ρ=some (.loc ra)
 x:Ext σ₀ σ
 g:∃ vs:List AV,σ[bs]?=some (.list vs)∧vs.length=i∧∀ (j:Nat) (r:Row) (v:AV),rows[j]?=some r→vs[j]?=some v→∃ bl st,v=.loc bl∧bs < bl∧bs < st∧σ[bl]?=some (.list [.loc st,B7 (Dh r.e)])∧σ[st]?=some (.list (r.ds.map CW))
theorem SY (R:RowsOk rows) (k:Nat) {σ₀:St} {ra bs:Nat} (e1:σ₀.length≤bs) {i:Nat} {r:Row} (hr:rows[i]?=some r) {dl:Nat} (hd:σ₀[dl]?=some (.list (r.ds.map BJ))) {ρ:At} {σ:St} (J:BkI rows σ₀ ra bs i ρ σ) {ρ₁:At} (q1:look 77 ρ₁=some (.loc bs)) (q2:look 202 ρ₁=some (.loc ra)) (q3:look 94 ρ₁=some (.loc dl)) (q4:look 98 ρ₁=some (B7 (Dh r.e))) :
  ∃ σ',Xs (k+2) QS ρ₁ σ (.next,ρ₁,σ')∧BkI rows σ₀ ra bs (i+1) ρ₁ σ':=by
 obtain ⟨vs,hv,hl,hg⟩:=J.g
 have hmem:=List.mem_of_getElem? hr
 have hN:=R.len
 have hi:i < rows.length:=(List.getElem?_eq_some_iff.mp hr).1
 obtain ⟨σ₁,c1,x1⟩:=Jc (p:=BJ) (q:=CW) (body:=cB (k+2) (.one 93) ρ₁ (.call 56 [.var 93]) []) (J.x _ _ hd) (fun d hd σ' _=>by
  obtain ⟨σ'',h1,h2⟩:=G6 k σ' d
  exact ⟨σ'',Bp rfl rfl (Am (Aa (Ac (Aj _ _ _)) Ai) h1),h2⟩) AC 0 [] σ (by rw [Nat.zero_add];exact Nat.lt_trans (R.ok r hmem).2 (by decide)) (Nat.zero_le _) (Ext.refl _)
 rw [List.drop_zero,List.nil_append] at c1
 have s1:=Ad σ₁ (AO.list (r.ds.map CW))
 have s2:=Ad (σ₁++[AO.list (r.ds.map CW)]) (AO.list [.loc σ₁.length,B7 (Dh r.e)])
 have x2:=(Ext.app1 σ₁ (AO.list (r.ds.map CW))).trans (Ext.app1 _ (AO.list [.loc σ₁.length,B7 (Dh r.e)]))
 have y2:=x1.trans x2
 have hE:Ev (k+2) (.list [(.lcomp (.call 56 [.var 93]) (.one 93) (.var 94) []),.var 98]) ρ₁ σ (.loc (σ₁++[AO.list (r.ds.map CW)]).length) (σ₁++[AO.list (r.ds.map CW)]++[AO.list [.loc σ₁.length,B7 (Dh r.e)]]):=
  Ar (Aa (BO (Ac q3) (Ce (J.x _ _ hd)) c1) (Aa (Ac q4) Ai))
 have hbs:bs < σ₁.length:=Bc (x1 _ _ hv)
 have hbl:bs < (σ₁++[AO.list (r.ds.map CW)]).length:=Nat.lt_trans hbs (AG _ _)
 have s1':=Af s1 [AO.list [.loc σ₁.length,B7 (Dh r.e)]]
 generalize (σ₁++[AO.list (r.ds.map CW)]).length=bl at *
 generalize σ₁++[AO.list (r.ds.map CW)]++[AO.list [.loc σ₁.length,B7 (Dh r.e)]]=σ₂ at *
 have ha:=Da (y2 _ _ hv) (by exact om40 hl hN hi) (.loc bl)
 refine ⟨σ₂.set bs (.list (vs++[.loc bl])),A1 (CI (Ac q1) hv (Aa hE Ai) ha) rfl,q1,q2,(J.x.trans y2).set e1,vs++[.loc bl],AQ (y2 _ _ hv),by rw [List.length_append,hl];rfl,fun j r' v hr' hv'=>?_⟩
 by_cases hj:j < vs.length
 ·rw [List.getElem?_append_left hj] at hv'
  obtain ⟨b',st,a1,a2,a3,a4,a5⟩:=hg j r' v hr' hv'
  exact ⟨b',st,a1,a2,a3,AR (y2 _ _ a4) (Nat.ne_of_lt a2),AR (y2 _ _ a5) (Nat.ne_of_lt a3)⟩
 ·have hjl:j < (vs++[AV.loc bl]).length:=(List.getElem?_eq_some_iff.mp hv').1
  rw [List.length_append] at hjl
  have hje:j=i:=by
   have:j < vs.length+1:=hjl
   exact om9 hl hj this
  subst hje
  rw [hr] at hr'
  cases hr'
  rw [List.getElem?_append_right (Nat.not_lt.mp hj),←hl,Nat.sub_self] at hv'
  exact ⟨bl,σ₁.length,(oQ hv').symm,hbl,hbs,AR s2 (Nat.ne_of_lt hbl),AR s1' (Nat.ne_of_lt hbs)⟩
end
section
variable {rows:List Row}
noncomputable def E_:List AV:=[G8 tI,G8 tI,G8 tI,G8 tI,G8 tI]
theorem NX:∀ {i:Nat} {x:AV},E_[i]?=some x→x=G8 tI
 | 0,_,e=>(oQ e).symm
 | 1,_,e=>(oQ e).symm
 | 2,_,e=>(oQ e).symm
 | 3,_,e=>(oQ e).symm
 | 4,_,e=>(oQ e).symm
 | n+5,_,e=>by exact Ae e
theorem SS (k:Nat) {σ:St} {b l bs sp:Nat} {vs:List AV} (h1:σ[b]?=some (.inst 18 [(167,.str 101),(64,.int 0),(154,.loc l),(77,.loc bs),(214,.loc sp)])) (hl:σ[l]?=some (.list E_)) (h2:σ[bs]?=some (.list vs)) (hvl:vs.length < 1000)
  (hv:∀ v∈vs,∃ (r:Row) (bl st:Nat),v=.loc bl∧r.ds.length < 1000∧σ[bl]?=some (.list [.loc st,B7 (Dh r.e)])∧σ[st]?=some (.list (r.ds.map CW))) :
  Ca (k+1) (0,151) [.loc b] σ (.loc σ.length) (σ++[.dI []]):=by
 have x1:=Ext.app1 σ (AO.dI [])
 have l1:=x1 _ _ hl
 have b1:=x1 _ _ h1
 have s1:=x1 _ _ h2
 have e0:Ev k (.dict []) [(78,.loc b)] σ (.loc σ.length) (σ++[.dI []]):=Bw rfl rfl
 have hv':∀ v∈vs,∃ (r:Row) (bl st:Nat),v=.loc bl∧r.ds.length < 1000∧(σ++[AO.dI []])[bl]?=some (.list [.loc st,B7 (Dh r.e)])∧(σ++[AO.dI []])[st]?=some (.list (r.ds.map CW)):=fun v h=>
  let ⟨r,bl,st,a1,a2,a3,a4⟩:=hv v h
  ⟨r,bl,st,a1,a2,x1 _ _ a3,x1 _ _ a4⟩
 generalize σ++[AO.dI []]=σ₁ at *
 obtain ⟨ρ₁,σ₂,hloop,rfl,r1,r2⟩:=AP (l:=(List.range 5).map fun j=>AV.int (j:Nat)) (body:=DD prog.gtup (AT prog k) [
  .ifs (.cmp .NotIn (.idx (.idx (.idx (.attr (.var 78) 154) (.var 153)) (.int 0)) (.int 0)) (.gtup 16)) [
   .asg (.sub (.var 113) (.var 153)) (.bool true)] []]) (t:=.one 153) (fun _ ρ σ'=>σ'=σ₁∧look 78 ρ=some (.loc b)∧look 113 ρ=some (.loc σ.length)) (fun i _ σ _=>CD σ 5 i) (fun i x ρ σ' hx J=>by
  obtain ⟨rfl,j1,j2⟩:=J
  rw [List.getElem?_map] at hx
  obtain ⟨j,hj,rfl⟩:=Option.map_eq_some_iff.mp hx
  have hlt:j < 5:=List.mem_range.mp (List.mem_of_getElem? hj)
  have hgl:E_[j]?=some (E_[j]'hlt):=List.getElem?_eq_getElem _
  rw [NX hgl] at hgl
  exact ⟨put 153 (.int j) ρ,put 153 (.int j) ρ,σ',rfl,Ak (Al (As (As (As (AN (Ac (Ab j1 rfl)) b1 rfl) (Ac (Aj _ _ _)) (idx_list l1 hgl (Nat.lt_trans hlt (by decide)))) rfl rfl) rfl rfl) rfl rfl) rfl rfl,rfl,Ab j1 rfl,Ab j2 rfl⟩) AC 0 [(78,.loc b),(113,.loc σ.length)] σ₁ (show 5 < 0+100000 by decide) (Nat.zero_le _) ⟨rfl,rfl,rfl⟩
 obtain ⟨ρ₂,σ₃,hloop2,rfl,r3⟩:=AP (l:=vs) (body:=DD prog.gtup (AT prog k) [
  .fors (.one 215) (.var 216) [
   .ifs (.bop .And [(.cmp .Eq (.idx (.var 215) (.int 0)) (.str 68)),(.cmp .Eq (.idx (.idx (.var 215) (.int 2)) (.int 0)) (.str 198))]) [
    .asg (.sub (.var 113) (.idx (.idx (.idx (.var 215) (.int 2)) (.int 3)) (.int 0))) (.bool true)] []]]) (t:=.many [216,223]) (src:=.loc bs) (fun _ ρ σ'=>σ'=σ₂∧look 113 ρ=some (.loc σ.length)) (fun i _ σ' J=>by rw [J.1];exact Av s1 i) (fun i x ρ σ' hx J=>by
  obtain ⟨rfl,j1⟩:=J
  obtain ⟨r,bl,st,rfl,a2,a3,a4⟩:=hv' x (List.mem_of_getElem? hx)
  obtain ⟨ρ₃,σ₄,hl3,rfl,q1⟩:=AP (l:=r.ds.map CW) (body:=DD prog.gtup (AT prog k) [
   .ifs (.bop .And [(.cmp .Eq (.idx (.var 215) (.int 0)) (.str 68)),(.cmp .Eq (.idx (.idx (.var 215) (.int 2)) (.int 0)) (.str 198))]) [
    .asg (.sub (.var 113) (.idx (.idx (.idx (.var 215) (.int 2)) (.int 3)) (.int 0))) (.bool true)] []]) (t:=.one 215) (src:=.loc st) (fun _ ρ σ''=>σ''=σ'∧look 113 ρ=some (.loc σ.length)) (fun i _ σ'' J=>by rw [J.1];exact Av a4 i) (fun i x ρ σ'' hx J=>by
   obtain ⟨rfl,j1⟩:=J
   rw [List.getElem?_map] at hx
   obtain ⟨d,_,rfl⟩:=Option.map_eq_some_iff.mp hx
   refine ⟨put 215 (CW d) ρ,put 215 (CW d) ρ,σ'',rfl,?_,rfl,Ab j1 rfl⟩
   have q:=Aj 215 (CW d) ρ
   generalize put 215 (CW d) ρ=ρ₅ at q
   obtain ⟨w,one,oth⟩:=d
   induction w using DW.casesOn with
   | live=>exact Ak (A4 (Al (As (Ac q) rfl rfl) rfl rfl) rfl) rfl rfl
   | dead=>exact Ak (A4 (Al (As (Ac q) rfl rfl) rfl rfl) rfl) rfl rfl
   | print=>exact Ak (A4 (Al (As (Ac q) rfl rfl) rfl rfl) rfl) rfl rfl
   | out=>exact Ak (A4 (Al (As (Ac q) rfl rfl) rfl rfl) rfl) rfl rfl
   | const=>exact Ak (A0 (Al (As (Ac q) rfl rfl) rfl rfl) rfl (AY (Al (As (As (Ac q) rfl rfl) rfl rfl) rfl rfl))) rfl rfl
   | copy=>exact Ak (A0 (Al (As (Ac q) rfl rfl) rfl rfl) rfl (AY (Al (As (As (Ac q) rfl rfl) rfl rfl) rfl rfl))) rfl rfl
   | move=>exact Ak (A0 (Al (As (Ac q) rfl rfl) rfl rfl) rfl (AY (Al (As (As (Ac q) rfl rfl) rfl rfl) rfl rfl))) rfl rfl) AC 0 (put 223 (B7 (Dh r.e)) (put 216 (.loc st) ρ)) σ' (by rw [List.length_map,Nat.zero_add];exact Nat.lt_trans a2 (by decide)) (Nat.zero_le _) ⟨rfl,Ab (Ab j1 rfl) rfl⟩
  exact ⟨put 223 (B7 (Dh r.e)) (put 216 (.loc st) ρ),ρ₃,σ₄,H5 a3,A6 (Ac (Ab (Aj _ _ _) rfl)) hl3 rfl,rfl,q1⟩) AC 0 ρ₁ σ₂ (by rw [Nat.zero_add];exact Nat.lt_trans hvl (by decide)) (Nat.zero_le _) ⟨rfl,r2⟩
 exact An (Ag rfl) d151 rfl (Ah e0 rfl (A6 (Bx (Aa (Bx (Aa (AN rfl b1 rfl) Ai) (F_ (l:=E_) l1 (by decide))) Ai) rfl) hloop (A6 (AN (Ac r1) b1 rfl) hloop2 (Az (Ac r3)))))
theorem QN (k:Nat) {σ:St} {b l bs sp:Nat} {vs:List AV} (h1:σ[b]?=some (.inst 18 [(167,.str 101),(64,.int 0),(154,.loc l),(77,.loc bs),(214,.loc sp)])) (hl:σ[l]?=some (.list E_)) (h2:σ[bs]?=some (.list vs)) (hvl:vs.length < 1000)
  (hv:∀ v∈vs,∃ (r:Row) (bl st:Nat),v=.loc bl∧r.ds.length < 1000∧σ[bl]?=some (.list [.loc st,B7 (Dh r.e)])∧σ[st]?=some (.list (r.ds.map CW))) {N:Nat} (hN:0 < N) :
  ∃ oth be σ',Ca (k+2) (0,21) [.loc b] σ (.loc σ.length) σ'∧Ext σ σ'∧CopAt σ' σ.length b oth be∧BegAt σ' be N Ik∧oth≠be∧σ.length≤be:=by
 have E1:Ext σ (σ++[AO.inst 21 [(78,.loc b)]]):=Ext.app1 _ _
 have hc:=SS k (E1 _ _ h1) (E1 _ _ hl) (E1 _ _ h2) hvl fun v h=>let ⟨r,bl,st,a1,a2,a3,a4⟩:=hv v h;⟨r,bl,st,a1,a2,E1 _ _ a3,E1 _ _ a4⟩
 have len:∀ x:AO,(σ++[x]).length=σ.length+1:=fun x=>by rw [List.length_append];rfl
 have len2:∀ x y:AO,(σ++[x]++[y]).length=σ.length+2:=fun x y=>by rw [List.length_append,len];rfl
 have len3:∀ x y z:AO,(σ++[x]++[y]++[z]).length=σ.length+3:=fun x y z=>by rw [List.length_append,len2];rfl
 rw [len] at hc
 refine ⟨σ.length+1,σ.length+3,σ++[AO.inst 21 [(78,.loc b),(182,.loc (σ.length+1)),(73,.loc (σ.length+3))]]++[AO.dI []]++[AO.dI []]++[AO.dI [(0,.loc (σ.length+2))]],?_,(Ext.app1 _ _).trans ((Ext.app1 _ _).trans ((Ext.app1 _ _).trans (Ext.app1 _ _))),⟨Af (Af (Af (Ad _ _) _) _) _,Af (Af (HN (len _) _) _) _⟩,?_,by exact om41,Nat.le_add_right _ 3⟩
 ·have hd:∀ x:AO,Ev (k+1) (.dict [.int 0,.dict []]) [(206,.loc σ.length),(78,.loc b)] (σ++[x]++[AO.dI []]) (.loc (σ.length+3)) (σ++[x]++[AO.dI []]++[AO.dI []]++[AO.dI [(0,.loc (σ.length+2))]]):=fun x=>by
   rw [←len3 x (.dI []) (.dI []),←len2 x (.dI [])]
   exact Bw rfl rfl
  apply HB rfl d21 rfl
  apply C8
  ·exact rfl
  ·exact rfl
  ·exact Ad _ _
  ·exact Nat.zero_le _
  ·exact BB _ _ _
  apply C8
  ·exact Am rfl hc
  ·exact rfl
  ·exact Af (Ad _ _) _
  ·exact Nat.le_add_left _ 19
  ·exact Cj (BB _ _ _) (AG _ _) _
  apply C8
  ·exact hd _
  ·exact rfl
  ·exact Af (Af (Af (Ad _ _) _) _) _
  ·exact Nat.le_add_left _ 18
  ·exact Cj (Cj (Cj (BB _ _ _) (AG _ _) _) (Cn (AG _ _) _) _) (Cn (Cn (AG _ _) _) _) _
  exact rfl
 ·refine ⟨[(0,.loc (σ.length+2))],HN (len3 _ _ _) _,List.nodup_cons.mpr ⟨List.not_mem_nil,List.nodup_nil⟩,fun p hp=>?_,fun b e=>?_,fun b v e=>?_⟩
  ·rw [List.mem_singleton.mp hp];exact ⟨Int.le_refl _,by show (0:Int) < N;exact om1 hN⟩
  ·unfold Ao at e
   unfold Ik
   by_cases h:b=0
   ·rw [if_pos h] at e;cases e
   ·rw [if_neg h]
  ·unfold Ao at e
   by_cases h:b=0
   ·rw [if_pos h] at e
    refine ⟨σ.length+2,[],(oQ e).symm,by exact om42,Af (HN (len2 _ _) _) _,⟨List.nodup_nil,fun p hp=>absurd hp List.not_mem_nil⟩,if_pos h⟩
   ·rw [if_neg h] at e;exact Ae e
end
section
variable {rows:List Row}
theorem QU {σ:St} {a:Nat} {l:List AV} (h:σ[a]?=some (.list l)) (hl:l.length≤20):IB σ .Mult (.loc a) (.int 5)=some (.loc σ.length,σ++[.list (O4 l 5)]):=by
 show (match CT σ[a]? with | some l=>_ | none=>_)=_
 rw [h]
 exact if_pos ⟨by decide,by decide,hl⟩
theorem DL (R:RowsOk rows) (k:Nat) {σ:St} {ra:Nat} (hra:RwsAt σ ra rows):Yes (k+6) 44 [.loc ra] σ:=by
 have hN:=R.len
 obtain ⟨rv,hr1,hr2,hr3⟩:=id hra
 have I0:BkI rows σ ra σ.length 0 [(202,.loc ra),(77,.loc σ.length)] (σ++[AO.list []]):=⟨rfl,rfl,Ext.app1 _ _,[],Ad _ _,rfl,fun j r v _ e=>by cases e⟩
 have e1:Ev (k+5) (.list []) [(202,.loc ra)] σ (.loc σ.length) (σ++[AO.list []]):=Ar rfl
 obtain ⟨ρ₁,σ₁,hloop1,J1⟩:=AP (l:=rv) (body:=DD prog.gtup (AT prog (k+5)) QS) (t:=.many [94,98,139,74]) (src:=.loc ra) (BkI rows σ ra σ.length) (fun i ρ σ' J=>Av (J.x _ _ hr1) i) (fun i x ρ σ' hx J=>by
  have hi:i < rows.length:=by rw [←hr2];exact (List.getElem?_eq_some_iff.mp hx).1
  obtain ⟨r,hr⟩:∃ r,rows[i]?=some r:=⟨_,List.getElem?_eq_getElem hi⟩
  have hw:=hr3 i r x hr hx
  obtain ⟨dl,bl,d1,d2⟩:=hw
  obtain ⟨σ'',h1,h2⟩:=SY R (k+3) (Nat.le_refl _) hr d1 J (ρ₁:=put 74 (.loc bl) (put 139 (Cy (GU r.e)) (put 98 (B7 (Dh r.e)) (put 94 (.loc dl) ρ)))) (Ab (Ab (Ab (Ab J.r1 rfl) rfl) rfl) rfl) (Ab (Ab (Ab (Ab J.r2 rfl) rfl) rfl) rfl) (Ab (Ab (Ab (Aj _ _ _) rfl) rfl) rfl) (Ab (Ab (Aj _ _ _) rfl) rfl)
  exact ⟨_,_,σ'',rfl,h1,h2⟩) AC 0 _ _ (by rw [hr2];show rows.length < 0+100000;exact om43 hN) (Nat.zero_le _) I0
 rw [hr2] at J1
 obtain ⟨vs,v1,v2,v3⟩:=J1.g
 have g2:=Ad σ₁ (AO.list [G8 tI])
 have g3:=Ad (σ₁++[AO.list [G8 tI]]) (AO.list E_)
 have m3:=QU g2 (by decide:1≤20)
 have x3:=(Ext.app1 σ₁ (AO.list [G8 tI])).trans (Ext.app1 _ (AO.list E_))
 have e3:Ev (k+5) (.bin .Mult (.list [(.tup [.call 60 [],(.bool true),.none])]) (.int 5)) ρ₁ σ₁ (.loc (σ₁++[AO.list [G8 tI]]).length) (σ₁++[AO.list [G8 tI]]++[AO.list E_]):=Bj (Ar (Aa (Au (Aa (Am Ai (c_u8 (k+4) σ₁)) (Aa rfl (Aa rfl Ai)))) Ai)) rfl m3
 generalize (σ₁++[AO.list [G8 tI]]).length=l at *
 generalize σ₁++[AO.list [G8 tI]]++[AO.list E_]=σ₂ at *
 obtain ⟨a₂,a₃,σ₃,c3,y3,b1,b2,b3⟩:=QO (k+4) (bl:=σ.length) g3 (by decide)
 have X3:=x3.trans y3
 have hblk:∀ (j:Nat) (r:Row) (v:AV),rows[j]?=some r→vs[j]?=some v→BlkAt σ₃ r v:=fun j r v e e'=>by
  obtain ⟨bl,st,rfl,_,_,a4,a5⟩:=v3 j r v e e'
  exact ⟨bl,st,X3 _ _ a4,X3 _ _ a5⟩
 have hB:BodAt σ₃ σ₂.length rows:=⟨0,a₂,σ.length,a₃,vs,b1,X3 _ _ v1,v2,by exact om10 hN v2,hblk⟩
 obtain ⟨oth,be,σ₄,c4,x4,C4,B4,n4,l4⟩:=QN (k+3) b1 b2 (X3 _ _ v1) (by exact om10 hN v2) (fun v hv=>by
  obtain ⟨j,hj,rfl⟩:=List.mem_iff_getElem.mp hv
  have hjr:j < rows.length:=by omega
  have hb:=hblk j _ _ (List.getElem?_eq_getElem hjr) (List.getElem?_eq_getElem hj)
  obtain ⟨w,hw⟩:∃ w,vs[j]=w:=⟨_,rfl⟩
  rw [hw] at hb ⊢
  obtain ⟨bl,st,q1,q2⟩:=hb
  exact ⟨_,bl,st,rfl,(R.ok _ (List.getElem_mem hjr)).2,q1,q2⟩) R.pos
 obtain ⟨σ₅,c5,x5,C5,Bm,B5,F5⟩:=QK R k hB x4 C4 B4 n4 l4
 have Y5:Ext σ σ₅:=J1.x.trans (X3.trans x5)
 obtain ⟨c5a,c5b⟩:=C5
 let ρ₂:=put 162 (.loc (σ₅++[AO.list []]).length) (put 156 (.loc σ₅.length) (put 89 (.loc σ₃.length) ρ₁))
 have r202:look 202 ρ₂=some (.loc ra):=Ab (Ab (Ab J1.r2 rfl) rfl) rfl
 have r89:look 89 ρ₂=some (.loc σ₃.length):=Ab (Ab (Aj _ _ _) rfl) rfl
 have r156:look 156 ρ₂=some (.loc σ₅.length):=Ab (Aj _ _ _) rfl
 have r162:look 162 ρ₂=some (.loc (σ₅++[AO.list []]).length):=Aj _ _ _
 have e6:Ev (k+5) (.tup [.list [],(.list [.int 0])]) (put 89 (.loc σ₃.length) ρ₁) σ₅ (.tup [.loc σ₅.length,.loc (σ₅++[AO.list []]).length]) (σ₅++[AO.list []]++[AO.list [.int 0]]):=Au (Aa (Ar rfl) (Aa (Ar rfl) Ai))
 have y6:=(Ext.app1 σ₅ (AO.list [])).trans (Ext.app1 _ (AO.list [.int 0]))
 have y7:=y6.trans (Ext.app1 _ (AO.list (pairs4.map CX)))
 have P0:PaI rows σ₅ ra σ₅.length (σ₅++[AO.list []]++[AO.list [.int 0]]).length (.loc σ₃.length) 0 ρ₂ (σ₅++[AO.list []]++[AO.list [.int 0]]++[AO.list (pairs4.map CX)]):=
  ⟨r202,r89,r156,y7,Ad _ _,_,[],[0],r162,Ne.symm (Nat.ne_of_lt (AG _ _)),Af (Af (Ad _ _) _) _,Af (Ad _ _) _,fun b q=>by rw [List.take_zero];exact ⟨fun h=>absurd h List.not_mem_nil,fun h=>absurd h.1 List.not_mem_nil⟩,fun b=>by rw [List.take_zero,List.mem_singleton];exact ⟨.inl,fun h=>h.elim id fun ⟨q,hq,_⟩=>absurd hq List.not_mem_nil⟩,Nat.le_refl _,Nat.le_refl _⟩
 obtain ⟨ρ₃,σ₆,hloop2,P⟩:=AP (l:=pairs4.map CX) (body:=DD prog.gtup (AT prog (k+5)) Pf) (t:=.one 184) (src:=.loc (σ₅++[AO.list []]++[AO.list [.int 0]]).length) (PaI rows σ₅ ra σ₅.length (σ₅++[AO.list []]++[AO.list [.int 0]]).length (.loc σ₃.length)) (fun i ρ σ' J=>Av J.sp i) (fun i x ρ σ' hx J=>by
  rw [List.getElem?_map] at hx
  obtain ⟨p,hp,rfl⟩:=Option.map_eq_some_iff.mp hx
  obtain ⟨ρ'',σ'',h1,h2⟩:=RA R (k+4) (hra.ext Y5) (Nat.le_refl _) hp (List.getElem?_eq_some_iff.mp hp).1 J
  exact ⟨_,ρ'',σ'',rfl,h1,h2⟩) AC 0 _ _ (show 4 < 0+100000 by decide) (Nat.zero_le _) P0
 obtain ⟨ρ₄,σ₇,h7,x7⟩:=SN R (k+5) F5 (c:=σ₃.length) rfl P ⟨P.x _ _ c5a,P.x _ _ c5b⟩ (B5.ext P.x)
 refine ⟨σ₇,?_,Y5.trans (P.x.trans x7)⟩
 obtain ⟨c4a,_⟩:=C4
 exact An (Ag rfl) d44 rfl (Ah e1 rfl (A6 rfl hloop1 (Ah (Am (Aa (Am (Aa rfl (Aa rfl (Aa e3 (Aa (Ac J1.r1) Ai)))) c3) Ai) c4) rfl
  (A1 (Ax (Ac (Aj _ _ _)) c4a rfl Ai c5) (Ah e6 rfl (A6 (Ar rfl) hloop2 h7))))))
end
section
theorem d54:prog.defs (0,54)=some GP:=rfl
structure S2 (s a:Nat) (σ σ':St):Prop where
 x:∀ (i:Nat) (o:AO),i≠s→i≠a→σ[i]?=some o→σ'[i]?=some o
 s:SrcAt σ' s
theorem S2.trans {s a:Nat} {x y z:St} (h:S2 s a x y) (g:S2 s a y z):S2 s a x z:=⟨fun i o n m e=>g.x i o n m (h.x i o n m e),g.s⟩
theorem S2.of {s a:Nat} {x y:St} (h:Sx s x y):S2 s a x y:=⟨fun i o n _ e=>h.x i o n e,h.s⟩
theorem S2.set {s a:Nat} {σ:St} (S:SrcAt σ s) (h:a≠s) (o:AO):S2 s a σ (σ.set a o):=⟨fun i q _ m e=>AR e (Ne.symm m),let ⟨p,q,e,h1,h2,h3⟩:=S;⟨p,q,AR e h,h1,h2,h3⟩⟩
theorem S2.to {s a:Nat} {x y z:St} (h:S2 s a y z) (E:Sx s x y) (hx:x.length≤a):Sx s x z:=⟨fun i o n e=>h.x i o n (Nat.ne_of_lt (Nat.lt_of_lt_of_le (Bc e) hx)) (E.x i o n e),h.s⟩
theorem SrcAt.lt {σ:St} {s:Nat} (h:SrcAt σ s):s < σ.length:=Jk h
noncomputable def Lw:List AV:=[.str 90,.str 90,.str 90,.str 87,.str 164,.str 152,.str 92,.str 190,.str 183]
theorem Re {x:AV} (h:x∈Lw):∃ w:DW,x=.str (Cf w):=by
 rcases List.mem_cons.mp h with e | h
 ·exact ⟨.copy,e⟩
 rcases List.mem_cons.mp h with e | h
 ·exact ⟨.copy,e⟩
 rcases List.mem_cons.mp h with e | h
 ·exact ⟨.copy,e⟩
 rcases List.mem_cons.mp h with e | h
 ·exact ⟨.const,e⟩
 rcases List.mem_cons.mp h with e | h
 ·exact ⟨.move,e⟩
 rcases List.mem_cons.mp h with e | h
 ·exact ⟨.live,e⟩
 rcases List.mem_cons.mp h with e | h
 ·exact ⟨.dead,e⟩
 rcases List.mem_cons.mp h with e | h
 ·exact ⟨.print,e⟩
 exact ⟨.out,List.mem_singleton.mp h⟩
structure RoR (s ra:Nat) (many:Int) (ρ:At):Prop where
 r1:look 212 ρ=some (.loc s)
 r2:look 202 ρ=some (.loc ra)
 r3:look 159 ρ=some (.int many)
theorem RoR.put {s ra:Nat} {many:Int} {ρ:At} (h:RoR s ra many ρ) {y:Nat} {v:AV} (hy:(Nat.beq 212 y || Nat.beq 202 y || Nat.beq 159 y)=false):RoR s ra many (put y v ρ):=by
 rw [Bool.or_eq_false_iff,Bool.or_eq_false_iff] at hy
 exact ⟨Ab h.r1 hy.1.1,Ab h.r2 hy.1.2,Ab h.r3 hy.2⟩
noncomputable def dsBody:List PS:=[
   .asg (.name 241) (.call 50 [.var 212,(.list [.str 90,.str 90,.str 90,.str 87,.str 164,.str 152,.str 92,.str 190,.str 183])]),
   .asg (.name 176) (.ite (.cmp .In (.var 241) (.list [.str 90,.str 164])) (.bin .Add (.int 3) (.call 58 [.var 212,.int 2])) (.bin .Add (.int 1) (.call 58 [.var 212,.int 4]))),
   .expr (.meth (.var 94) 3 [(.tup [.var 241,.var 176,(.bin .Add (.int 1) (.call 58 [.var 212,.int 2]))])])]
structure DsI (s ra:Nat) (many:Int) (dl:Nat) (σ₀:St) (i:Nat) (ρ:At) (σ:St):Prop where
 r:RoR s ra many ρ
 r4:look 94 ρ=some (.loc dl)
 x:S2 s dl σ₀ σ
 g:∃ ds:List Deed,σ[dl]?=some (.list (ds.map BJ))∧ds.length=i∧∀ d∈ds,d.ok
theorem SE (k:Nat) {s ra:Nat} {many:Int} {dl:Nat} {σ₀:St} (hne:dl≠s) {i:Nat} (hi:i < 1000) {ρ:At} {σ:St} (J:DsI s ra many dl σ₀ i ρ σ) {ρ₁:At} (R1:RoR s ra many ρ₁) (q4:look 94 ρ₁=some (.loc dl)) :
  ∃ ρ' σ',Xs (k+2) dsBody ρ₁ σ (.next,ρ',σ')∧DsI s ra many dl σ₀ (i+1) ρ' σ':=by
 obtain ⟨ds,hd,hl,hok⟩:=J.g
 have S:=J.x.s
 have E1:=Sx.of (Ext.app1 σ (AO.list Lw)) S
 obtain ⟨x,σ₁,hx,c1,X1⟩:=F9 k E1.s (Ad σ (AO.list Lw)) (by decide:0 < 9) (by decide:9 < 1000) (Ck (σ':=σ) S (Nat.le_refl _))
 obtain ⟨w,rfl⟩:=Re hx
 have Y1:=E1.trans X1
 have R2:=R1.put (y:=241) (v:=.str (Cf w)) rfl
 have p241:=Aj 241 (.str (Cf w)) ρ₁
 have p94:=Ab (y:=241) (v:=.str (Cf w)) q4 rfl
 have hE1:Ev (k+2) (.call 50 [.var 212,(.list [.str 90,.str 90,.str 90,.str 87,.str 164,.str 152,.str 92,.str 190,.str 183])]) ρ₁ σ (.str (Cf w)) σ₁:=Am (Aa (Ac R1.r1) (Aa (Ar rfl) Ai)) c1
 generalize hρ:put 241 (.str (Cf w)) ρ₁=ρ₂ at *
 have g2:=Ad σ₁ (AO.list [.str 90,.str 164])
 have E2:=Sx.of (Ext.app1 σ₁ (AO.list [.str 90,.str 164])) Y1.s
 have hin:A9 (σ₁++[AO.list [.str 90,.str 164]]) .In (.str (Cf w)) (.loc σ₁.length)=some (90==Cf w || (164==Cf w || false)):=by
  show (match (σ₁++[AO.list [.str 90,.str 164]])[σ₁.length]? with | some (.list l)=>_ | some (.dI l)=>_ | _=>_)=_
  rw [g2];rfl
 have hcmp:Ev (k+2) (.cmp .In (.var 241) (.list [.str 90,.str 164])) ρ₂ σ₁ (.bool (90==Cf w || (164==Cf w || false))) (σ₁++[AO.list [.str 90,.str 164]]):=Al (Ac p241) (Ar rfl) hin
 have h176:∃ one σ₂,Ev (k+2) (.ite (.cmp .In (.var 241) (.list [.str 90,.str 164])) (.bin .Add (.int 3) (.call 58 [.var 212,.int 2])) (.bin .Add (.int 1) (.call 58 [.var 212,.int 4]))) ρ₂ σ₁ (.int one) σ₂∧Sx s σ₁ σ₂∧∀ oth:Int,(oth=1∨oth=2)→Deed.ok ⟨w,one,oth⟩:=by
  obtain ⟨v,σ₂,t1,t2,t3,t4⟩:=Ct (k+1) E2.s (top:=2) (by decide) (by decide)
  obtain ⟨v',σ₂',u1,u2,u3,u4⟩:=Ct (k+1) E2.s (top:=4) (by decide) (by decide)
  have a1:Ev (k+2) (.bin .Add (.int 3) (.call 58 [.var 212,.int 2])) ρ₂ (σ₁++[AO.list [.str 90,.str 164]]) (.int (3+v)) σ₂:=Bj rfl (Am (Aa (Ac R2.r1) (Aa rfl Ai)) t1) rfl
  have a2:Ev (k+2) (.bin .Add (.int 1) (.call 58 [.var 212,.int 4])) ρ₂ (σ₁++[AO.list [.str 90,.str 164]]) (.int (1+v')) σ₂':=Bj rfl (Am (Aa (Ac R2.r1) (Aa rfl Ai)) u1) rfl
  have cm:∀ oth:Int,(oth=1∨oth=2)→((3+v=3∨3+v=4)∧(oth=1∨oth=2)):=fun oth h=>⟨by exact om44 t2 t3,h⟩
  induction w using DW.casesOn with
  | copy=>exact ⟨3+v,σ₂,Bl hcmp rfl a1,E2.trans t4,cm⟩
  | move=>exact ⟨3+v,σ₂,Bl hcmp rfl a1,E2.trans t4,cm⟩
  | const=>exact ⟨1+v',σ₂',Bh hcmp rfl a2,E2.trans u4,fun _ _=>trivial⟩
  | live=>exact ⟨1+v',σ₂',Bh hcmp rfl a2,E2.trans u4,fun _ _=>trivial⟩
  | dead=>exact ⟨1+v',σ₂',Bh hcmp rfl a2,E2.trans u4,fun _ _=>trivial⟩
  | print=>exact ⟨1+v',σ₂',Bh hcmp rfl a2,E2.trans u4,fun _ _=>trivial⟩
  | out=>exact ⟨1+v',σ₂',Bh hcmp rfl a2,E2.trans u4,fun _ _=>trivial⟩
 obtain ⟨one,σ₂,hE2,X2,hdok⟩:=h176
 have Y2:=Y1.trans X2
 obtain ⟨v,σ₃,t1,t2,t3,t4⟩:=Ct (k+1) Y2.s (top:=2) (by decide) (by decide)
 have Y3:=Y2.trans t4
 have hdl:=Y3.x _ _ hne hd
 have R3:=R2.put (y:=176) (v:=.int one) rfl
 have p176:=Aj 176 (.int one) ρ₂
 have p241':=Ab (y:=176) (v:=.int one) p241 rfl
 have p94':=Ab (y:=176) (v:=.int one) p94 rfl
 have hT:Ev (k+2) (.tup [.var 241,.var 176,(.bin .Add (.int 1) (.call 58 [.var 212,.int 2]))]) (put 176 (.int one) ρ₂) σ₂ (BJ ⟨w,one,1+v⟩) σ₃:=Au (Aa (Ac p241') (Aa (Ac p176) (Aa (Bj rfl (Am (Aa (Ac R3.r1) (Aa rfl Ai)) t1) rfl) Ai)))
 have ha:=Da hdl (by rw [List.length_map];exact om11 hi hl) (BJ ⟨w,one,1+v⟩)
 rw [show ds.map BJ++[BJ ⟨w,one,1+v⟩]=(ds++[(⟨w,one,1+v⟩:Deed)]).map BJ by rw [List.map_append];rfl] at ha
 have t2:Xs (k+2) (dsBody.drop 1) ρ₂ σ₁ (.next,put 176 (.int one) ρ₂,σ₃.set dl (.list ((ds++[(⟨w,one,1+v⟩:Deed)]).map BJ))):=Ah hE2 rfl (A1 (CI (Ac p94') (Y2.x _ _ hne hd) (Aa hT Ai) ha) rfl)
 refine ⟨put 176 (.int one) ρ₂,_,?_,R3,p94',(J.x.trans (S2.of Y3)).trans (S2.set Y3.s hne _),ds++[(⟨w,one,1+v⟩:Deed)],AQ hdl,by rw [List.length_append,hl];rfl,fun d hd=>?_⟩
 ·subst hρ
  exact Ah hE1 rfl t2
 rcases List.mem_append.mp hd with h | h
 ·exact hok d h
 ·rw [List.mem_singleton.mp h];exact hdok _ (by omega)
end
section
noncomputable def Ot (e:EK) (bl:Nat):AV:=.tup [B7 (Dh e),Cy (GU e),.loc bl]
noncomputable def UZ:PE:=.call 50 [.var 212,(.list [(.tup [(.tup [.str 118,.var 176]),.none,(.list [.var 176])]),(.tup [(.tup [.str 220,.var 209,(.tup [(.tup [(.bool true),.var 176])]),.var 182]),.none,(.list [.var 176,.var 182])]),(.tup [(.tup [.str 220,.var 165,(.tup [(.tup [.int 1,.var 176])]),.var 182]),(.tup [.str 183,.var 153,.int 0]),(.list [.var 176,.var 182])]),(.tup [(.tup [.str 199]),.none,.list []]),(.tup [(.tup [.str 81,(.tup [.str 108,.str 114,.tup []]),.tup [],(.tup [.var 153,.tup []]),.var 176]),(.tup [.str 87,.var 153,.int 0]),(.list [.var 176])])])]
theorem Uv (k:Nat) {σ:St} {s:Nat} (S:SrcAt σ s) {ρ:At} {one oth l many:Int} (h1:0≤one∧one < many) (h2:0≤oth∧oth < many) (r1:look 212 ρ=some (.loc s)) (r2:look 176 ρ=some (.int one)) (r3:look 182 ρ=some (.int oth)) (r4:look 153 ρ=some (.int l)) (r5:look 209 ρ=some (.tup [.str 87,tB,.bool true])) (r6:look 165 ρ=some (.tup [.str 164,.tup [.int l,.tup []]])) :
  ∃ e bl σ',Ev (k+2) UZ ρ σ (Ot e bl) σ'∧Sx s σ σ'∧σ.length≤bl∧σ'[bl]?=some (.list ((G3 e).map .int))∧∀ g∈G3 e,0≤g∧g < many:=by
 let s1:=σ++[AO.list [.int one]]
 let s2:=s1++[AO.list [.int one,.int oth]]
 let s3:=s2++[AO.list [.int one,.int oth]]
 let s4:=s3++[AO.list []]
 let s5:=s4++[AO.list [.int one]]
 let L:List AV:=[Ot (.goto one) σ.length,Ot (.sw one oth) s1.length,Ot (.swm l one oth) s2.length,Ot .ret s3.length,Ot (.call l one) s4.length]
 have x6:Ext σ (s5++[AO.list L]):=(Ext.app1 σ _).trans ((Ext.app1 s1 _).trans ((Ext.app1 s2 _).trans ((Ext.app1 s3 _).trans ((Ext.app1 s4 _).trans (Ext.app1 s5 _)))))
 have hL:Ev (k+2) (.list [(.tup [(.tup [.str 118,.var 176]),.none,(.list [.var 176])]),(.tup [(.tup [.str 220,.var 209,(.tup [(.tup [(.bool true),.var 176])]),.var 182]),.none,(.list [.var 176,.var 182])]),(.tup [(.tup [.str 220,.var 165,(.tup [(.tup [.int 1,.var 176])]),.var 182]),(.tup [.str 183,.var 153,.int 0]),(.list [.var 176,.var 182])]),(.tup [(.tup [.str 199]),.none,.list []]),(.tup [(.tup [.str 81,(.tup [.str 108,.str 114,.tup []]),.tup [],(.tup [.var 153,.tup []]),.var 176]),(.tup [.str 87,.var 153,.int 0]),(.list [.var 176])])]) ρ σ (.loc s5.length) (s5++[AO.list L]):=by
  refine Ar (Aa (Au (Aa (Au (Aa rfl (Aa (Ac r2) Ai))) (Aa rfl (Aa (Ar (Aa (Ac r2) Ai)) Ai)))) ?_)
  refine Aa (Au (Aa (Au (Aa rfl (Aa (Ac r5) (Aa (Au (Aa (Au (Aa rfl (Aa (Ac r2) Ai))) Ai)) (Aa (Ac r3) Ai))))) (Aa rfl (Aa (Ar (Aa (Ac r2) (Aa (Ac r3) Ai))) Ai)))) ?_
  refine Aa (Au (Aa (Au (Aa rfl (Aa (Ac r6) (Aa (Au (Aa (Au (Aa rfl (Aa (Ac r2) Ai))) Ai)) (Aa (Ac r3) Ai))))) (Aa (Au (Aa rfl (Aa (Ac r4) (Aa rfl Ai)))) (Aa (Ar (Aa (Ac r2) (Aa (Ac r3) Ai))) Ai)))) ?_
  refine Aa (Au (Aa rfl (Aa rfl (Aa (Ar rfl) Ai)))) ?_
  exact Aa (Au (Aa (Au (Aa rfl (Aa rfl (Aa rfl (Aa (Au (Aa (Ac r4) (Aa rfl Ai))) (Aa (Ac r2) Ai)))))) (Aa (Au (Aa rfl (Aa (Ac r4) (Aa rfl Ai)))) (Aa (Ar (Aa (Ac r2) Ai)) Ai)))) Ai
 obtain ⟨x,σ',hx,c1,X1⟩:=F9 k (Sx.of x6 S).s (Ad s5 (AO.list L)) (by decide:0 < 5) (by decide:5 < 1000) (Ck (σ':=σ) S (Nat.le_trans (Nat.le_add_right σ.length 5) (by show _≤s5.length;simp only [s5,s4,s3,s2,s1,List.length_append,List.length_cons,List.length_nil];exact om49)))
 have hev:Ev (k+2) UZ ρ σ x σ':=Am (Aa (Ac r1) (Aa hL Ai)) c1
 have key:∀ {bl:Nat} {o:AO},σ.length≤bl→(s5++[AO.list L])[bl]?=some o→σ'[bl]?=some o:=fun h e=>X1.x _ _ (Ck (σ':=σ) S h) e
 have hX:=(Sx.of x6 S).trans X1
 have n1:σ.length≤s1.length:=Nat.le_of_lt (AG _ _)
 have n2:σ.length≤s2.length:=Nat.le_trans n1 (Nat.le_of_lt (AG _ _))
 have n3:σ.length≤s3.length:=Nat.le_trans n2 (Nat.le_of_lt (AG _ _))
 have n4:σ.length≤s4.length:=Nat.le_trans n3 (Nat.le_of_lt (AG _ _))
 have two:∀ g∈[one,oth],0≤g∧g < many:=fun g hg=>by
  rcases List.mem_cons.mp hg with e | hg
  ·rw [e];exact h1
  ·rw [List.mem_singleton.mp hg];exact h2
 have ont:∀ g∈[one],0≤g∧g < many:=fun g hg=>by rw [List.mem_singleton.mp hg];exact h1
 rcases List.mem_cons.mp hx with e | hx
 ·exact ⟨.goto one,σ.length,σ',e▸hev,hX,Nat.le_refl _,key (Nat.le_refl _) (Af (Af (Af (Af (Af (Ad _ _) _) _) _) _) _),ont⟩
 rcases List.mem_cons.mp hx with e | hx
 ·exact ⟨.sw one oth,s1.length,σ',e▸hev,hX,n1,key n1 (Af (Af (Af (Af (Ad _ _) _) _) _) _),two⟩
 rcases List.mem_cons.mp hx with e | hx
 ·exact ⟨.swm l one oth,s2.length,σ',e▸hev,hX,n2,key n2 (Af (Af (Af (Ad _ _) _) _) _),two⟩
 rcases List.mem_cons.mp hx with e | hx
 ·exact ⟨.ret,s3.length,σ',e▸hev,hX,n3,key n3 (Af (Af (Ad _ _) _) _),fun g hg=>absurd hg List.not_mem_nil⟩
 ·exact ⟨.call l one,s4.length,σ',(List.mem_singleton.mp hx)▸hev,hX,n4,key n4 (Af (Ad _ _) _),ont⟩
end
section
structure RwI (s ra:Nat) (many:Int) (i:Nat) (ρ:At) (σ:St):Prop where
 r:RoR s ra many ρ
 S:SrcAt σ s
 g:∃ (rows:List Row) (vs:List AV),σ[ra]?=some (.list vs)∧vs.length=i∧rows.length=i∧(∀ (j:Nat) (r:Row) (v:AV),rows[j]?=some r→vs[j]?=some v→∃ dl bl,v=.tup [.loc dl,B7 (Dh r.e),Cy (GU r.e),.loc bl]∧ra < dl∧ra < bl∧σ[dl]?=some (.list (r.ds.map BJ))∧σ[bl]?=some (.list ((G3 r.e).map .int))) ∧
  (∀ r∈rows,r.ok)∧∀ r∈rows,∀ g∈G3 r.e,0≤g∧g < many
noncomputable def O0:List PS:=[
  .asg (.name 94) (.list []),
  .fors (.one 228) (.blt .range [(.call 58 [.var 212,.int 4])]) dsBody,
  .asg (.names [176,182,153]) (.tup [(.call 58 [.var 212,.var 159]),(.call 58 [.var 212,.var 159]),(.bin .Add (.int 1) (.call 58 [.var 212,.int 4]))]),
  .asg (.names [209,165]) (.tup [(.tup [.str 87,(.tup [.str 79]),(.bool true)]),(.tup [.str 164,(.tup [.var 153,.tup []])])]),
  .asg (.names [98,139,74]) UZ,
  .expr (.meth (.var 202) 3 [(.tup [.var 94,.var 98,.var 139,.var 74])])]
theorem Jf {σ:St} {n:Nat} (h:n < 2 ^ 31):DB .range [.int n] σ=some (.range n,σ):=by
 have hc:0≤(n:Int)∧(n:Int) < 2 ^ 31:=⟨Int.natCast_nonneg n,by exact_mod_cast h⟩
 unfold DB
 exact if_pos hc
theorem Rq (k:Nat) {s ra:Nat} {many:Int} {σ₀:St} (h0:σ₀.length≤ra) (hs:s < ra) (hm:0 < many) (hm2:many < 1000) {i:Nat} (hi:i < 1000) {ρ:At} {σ:St} (J:RwI s ra many i ρ σ) (E0:Sx s σ₀ σ) {ρ₁:At} (R1:RoR s ra many ρ₁) :
  ∃ ρ' σ',Xs (k+2) O0 ρ₁ σ (.next,ρ',σ')∧RwI s ra many (i+1) ρ' σ'∧Sx s σ₀ σ':=by
 obtain ⟨rows,vs,hv,hl1,hl2,hg,hok,htg⟩:=J.g
 have S:=J.S
 have hra:ra < σ.length:=Bc hv
 have E1:=Sx.of (Ext.app1 σ (AO.list [])) S
 have R2:=R1.put (y:=94) (v:=.loc σ.length) rfl
 have p94:=Aj 94 (.loc σ.length) ρ₁
 have e1:Ev (k+2) (.list []) ρ₁ σ (.loc σ.length) (σ++[AO.list []]):=Ar rfl
 generalize hρ₂:put 94 (.loc σ.length) ρ₁=ρ₂ at *
 obtain ⟨v,σ₁,t1,t2,t3,t4⟩:=Ct (k+1) E1.s (top:=4) (by decide) (by decide)
 obtain ⟨n,rfl⟩:=Int.eq_ofNat_of_zero_le t2
 have hn4:n < 4:=Int.ofNat_lt.mp t3
 have ndl:σ.length≠s:=Nat.ne_of_gt (Nat.lt_trans hs hra)
 have e2:Ev (k+2) (.blt .range [(.call 58 [.var 212,.int 4])]) ρ₂ (σ++[AO.list []]) (.range n) σ₁:=by
  refine Bx (Aa (Am (Aa (Ac R2.r1) (Aa rfl Ai)) t1) Ai) ?_
  exact Jf (Nat.lt_trans hn4 (by decide))
 have D0:DsI s ra many σ.length σ₁ 0 ρ₂ σ₁:=⟨R2,p94,⟨fun _ _ _ _ e=>e,t4.s⟩,[],t4.x _ _ ndl (Ad _ _),rfl,fun d h=>absurd h List.not_mem_nil⟩
 obtain ⟨ρ₃,σ₂,hloop,D⟩:=AP (l:=(List.range n).map fun j=>AV.int (j:Nat)) (body:=DD prog.gtup (AT prog (k+2)) dsBody) (t:=.one 228) (DsI s ra many σ.length σ₁) (fun i _ σ _=>CD σ n i) (fun i x ρ σ' hx J=>by
  rw [List.getElem?_map] at hx
  obtain ⟨j,hj,rfl⟩:=Option.map_eq_some_iff.mp hx
  have hin:i < n:=by have:=(List.getElem?_eq_some_iff.mp hj).1;rwa [List.length_range] at this
  obtain ⟨ρ',σ'',h1,h2⟩:=SE k ndl (by exact om50 hn4 hin) J (ρ₁:=put 228 (.int j) ρ) (J.r.put rfl) (Ab J.r4 rfl)
  exact ⟨_,ρ',σ'',rfl,h1,h2⟩) AC 0 ρ₂ σ₁ (by rw [List.length_map,List.length_range];show n < 0+100000;exact om51 hn4) (Nat.zero_le _) D0
 obtain ⟨ds,d1,d2,d3⟩:=D.g
 rw [List.length_map,List.length_range] at d2
 have Y2:Sx s σ σ₂:=D.x.to (E1.trans t4) (Nat.le_refl _)
 have hmany:∀ {σ:St},SrcAt σ s→∃ v σ',Ev (k+2) (.call 58 [.var 212,.var 159]) ρ₃ σ (.int v) σ'∧(0≤v∧v < many)∧Sx s σ σ':=fun {σ} S=>by
  obtain ⟨v,σ',u1,u2,u3,u4⟩:=Ct (k+1) S (top:=many) hm (by exact om52 hm2)
  exact ⟨v,σ',Am (Aa (Ac D.r.r1) (Aa (Ac D.r.r3) Ai)) u1,⟨u2,u3⟩,u4⟩
 obtain ⟨one,σ₃,f1,f2,f3⟩:=hmany Y2.s
 obtain ⟨oth,σ₄,f4,f5,f6⟩:=hmany f3.s
 obtain ⟨w,σ₅,f7,f8,f9,f10⟩:=Ct (k+1) f6.s (top:=4) (by decide) (by decide)
 have e3:Ev (k+2) (.tup [(.call 58 [.var 212,.var 159]),(.call 58 [.var 212,.var 159]),(.bin .Add (.int 1) (.call 58 [.var 212,.int 4]))]) ρ₃ σ₂ (.tup [.int one,.int oth,.int (1+w)]) σ₅:=
  Au (Aa f1 (Aa f4 (Aa (Bj rfl (Am (Aa (Ac D.r.r1) (Aa rfl Ai)) f7) rfl) Ai)))
 have Z5:=(f3.trans f6).trans f10
 let ρ₄:=put 153 (.int (1+w)) (put 182 (.int oth) (put 176 (.int one) ρ₃))
 let ρ₅:=put 165 (.tup [.str 164,.tup [.int (1+w),.tup []]]) (put 209 (.tup [.str 87,tB,.bool true]) ρ₄)
 have R5:RoR s ra many ρ₅:=((((D.r.put rfl).put rfl).put rfl).put rfl).put rfl
 have p153:look 153 ρ₄=some (.int (1+w)):=Aj _ _ _
 have e4:Ev (k+2) (.tup [(.tup [.str 87,(.tup [.str 79]),(.bool true)]),(.tup [.str 164,(.tup [.var 153,.tup []])])]) ρ₄ σ₅ (.tup [.tup [.str 87,tB,.bool true],.tup [.str 164,.tup [.int (1+w),.tup []]]]) σ₅:=
  Au (Aa rfl (Aa (Au (Aa rfl (Aa (Au (Aa (Ac p153) (Aa rfl Ai))) Ai))) Ai))
 obtain ⟨e,bl,σ₆,a1,a2,a3,a4,a5⟩:=Uv k (f10.s) (ρ:=ρ₅) f2 f5 R5.r1 (Ab (Ab (Ab (Ab (Aj _ _ _) rfl) rfl) rfl) rfl) (Ab (Ab (Ab (Aj _ _ _) rfl) rfl) rfl) (Ab (Ab p153 rfl) rfl) (Ab (Aj _ _ _) rfl) (Aj _ _ _)
 have Z6:=Z5.trans a2
 have W6:=Y2.trans Z6
 let ρ₆:=put 74 (.loc bl) (put 139 (Cy (GU e)) (put 98 (B7 (Dh e)) ρ₅))
 have R6:RoR s ra many ρ₆:=((R5.put rfl).put rfl).put rfl
 have q94:look 94 ρ₆=some (.loc σ.length):=Ab (Ab (Ab (Ab (Ab (Ab (Ab (Ab D.r4 rfl) rfl) rfl) rfl) rfl) rfl) rfl) rfl
 have q98:look 98 ρ₆=some (B7 (Dh e)):=Ab (Ab (Aj _ _ _) rfl) rfl
 have q139:look 139 ρ₆=some (Cy (GU e)):=Ab (Aj _ _ _) rfl
 have q74:look 74 ρ₆=some (.loc bl):=Aj _ _ _
 have nra:ra≠s:=Nat.ne_of_gt hs
 have hv6:=W6.x _ _ nra hv
 have ha:=Da hv6 (by exact om11 hi hl1) (.tup [.loc σ.length,B7 (Dh e),Cy (GU e),.loc bl])
 have hset:Sx s σ₀ (σ₆.set ra (.list (vs++[.tup [.loc σ.length,B7 (Dh e),Cy (GU e),.loc bl]]))):=(S2.set a2.s nra _).to (E0.trans W6) h0
 have hbl:ra < bl:=by
  have h5:σ.length≤σ₅.length:=by
   have:=Bc (Z5.x _ _ ndl d1)
   exact om53 this
  exact om54 hra a3 h5
 have td:Xs (k+2) [.expr (.meth (.var 202) 3 [(.tup [.var 94,.var 98,.var 139,.var 74])])] ρ₆ σ₆ (.next,ρ₆,σ₆.set ra (.list (vs++[.tup [.loc σ.length,B7 (Dh e),Cy (GU e),.loc bl]]))):=
  A1 (CI (Ac R6.r2) hv6 (Aa (Au (Aa (Ac q94) (Aa (Ac q98) (Aa (Ac q139) (Aa (Ac q74) Ai))))) Ai) ha) rfl
 have d6:=Z6.x _ _ ndl d1
 refine ⟨ρ₆,_,?_,⟨R6,hset.s,rows++[⟨ds,e⟩],_,AQ hv6,by rw [List.length_append,hl1];rfl,by rw [List.length_append,hl2];rfl,fun j r v hr hv'=>?_,fun r hr=>?_,fun r hr=>?_⟩,hset⟩
 ·subst hρ₂
  exact Ah e1 rfl (A6 e2 hloop (Ah e3 rfl (Ah e4 rfl (Ah a1 rfl td))))
 ·by_cases hj:j < vs.length
  ·rw [List.getElem?_append_left hj] at hv'
   rw [List.getElem?_append_left (by exact om55 hl1 hl2 hj)] at hr
   obtain ⟨dl,b',rfl,b1,b2,b3,b4⟩:=hg j r v hr hv'
   exact ⟨dl,b',rfl,b1,b2,AR (W6.x _ _ (Nat.ne_of_gt (Nat.lt_trans hs b1)) b3) (Nat.ne_of_lt b1),AR (W6.x _ _ (Nat.ne_of_gt (Nat.lt_trans hs b2)) b4) (Nat.ne_of_lt b2)⟩
  ·have hjl:j < (vs++[AV.tup [.loc σ.length,B7 (Dh e),Cy (GU e),.loc bl]]).length:=(List.getElem?_eq_some_iff.mp hv').1
   rw [List.length_append] at hjl
   have hje:j=i:=by
    have:j < vs.length+1:=hjl
    exact om9 hl1 hj this
   subst hje
   rw [List.getElem?_append_right (Nat.not_lt.mp hj),hl1,Nat.sub_self] at hv'
   rw [List.getElem?_append_right (Nat.le_of_eq hl2),hl2,Nat.sub_self] at hr
   cases hr
   exact ⟨σ.length,bl,(oQ hv').symm,hra,hbl,AR d6 (Nat.ne_of_lt hra),AR a4 (Nat.ne_of_lt hbl)⟩
 ·rcases List.mem_append.mp hr with h | h
  ·exact hok r h
  ·rw [List.mem_singleton.mp h];exact ⟨d3,by show ds.length < 1000;exact om56 hn4 d2⟩
 ·rcases List.mem_append.mp hr with h | h
  ·exact htg r h
  ·rw [List.mem_singleton.mp h];exact a5
theorem Mn (k:Nat) {σ:St} {s:Nat} (S:SrcAt σ s):∃ ra σ' rows,Ca (k+3) (0,54) [.loc s] σ (.loc ra) σ'∧Sx s σ σ'∧RwsAt σ' ra rows∧RowsOk rows:=by
 obtain ⟨v,σ₁,t1,t2,t3,t4⟩:=Ct (k+1) S (top:=3) (by decide) (by decide)
 obtain ⟨n,rfl⟩:=Int.eq_ofNat_of_zero_le t2
 have E1:=t4.ext (Ext.app1 σ₁ (AO.list []))
 have hs:s < σ₁.length:=Jk t4.s
 have hle:σ₁.length≤σ₁.length:=Nat.le_refl _
 have E2:Sx s σ₁ (σ₁++[AO.list []]):=Sx.of (Ext.app1 _ _) t4.s
 have I0:RwI s σ₁.length (2+(n:Int)) 0 [(212,.loc s),(159,.int (2+(n:Int))),(202,.loc σ₁.length)] (σ₁++[AO.list []])∧Sx s σ₁ (σ₁++[AO.list []]):=
  ⟨⟨⟨rfl,rfl,rfl⟩,E1.s,[],[],Ad _ _,rfl,rfl,fun j r v e=>(by (exact Ae e)),fun r h=>absurd h List.not_mem_nil,fun r h=>absurd h List.not_mem_nil⟩,E2⟩
 obtain ⟨ρ',σ',hloop,I,X⟩:=AP (l:=(List.range (2+n)).map fun j=>AV.int (j:Nat)) (body:=DD prog.gtup (AT prog (k+2)) O0) (t:=.one 76) (fun i ρ σ=>RwI s σ₁.length (2+(n:Int)) i ρ σ∧Sx s σ₁ σ) (fun i _ σ _=>CD σ (2+n) i) (fun i x ρ σ' hx J=>by
  rw [List.getElem?_map] at hx
  obtain ⟨j,hj,rfl⟩:=Option.map_eq_some_iff.mp hx
  have hin:i < 2+n:=by have:=(List.getElem?_eq_some_iff.mp hj).1;rwa [List.length_range] at this
  obtain ⟨ρ',σ'',h1,h2,h3⟩:=Rq k hle hs (by exact om57) (by omega) (by omega) J.1 J.2 (ρ₁:=put 76 (.int j) ρ) (J.1.r.put rfl)
  exact ⟨_,ρ',σ'',rfl,h1,h2,h3⟩) AC 0 _ _ (by rw [List.length_map,List.length_range];show 2+n < 0+100000;exact om60 t3) (Nat.zero_le _) I0
 rw [List.length_map,List.length_range] at I
 obtain ⟨rows,vs,h1,h2,h3,h4,h5,h6⟩:=I.g
 refine ⟨σ₁.length,σ',rows,?_,t4.trans X,⟨vs,h1,by rw [h2,h3],fun i r v e e'=>?_⟩,⟨h5,fun r hr g hg=>?_,by exact om61 t3 h3,by omega⟩⟩
 ·have hr:Ev (k+2) (.blt .range [.var 159]) [(212,.loc s),(159,.int (2+(n:Int))),(202,.loc σ₁.length)] (σ₁++[AO.list []]) (.range ((2+n:Nat):Int)) (σ₁++[AO.list []]):=by
   have hb:=Jf (σ:=σ₁++[AO.list []]) (n:=2+n) (by exact om63 t3)
   rw [show ((2+n:Nat):Int)=2+(n:Int) by omega] at hb ⊢
   exact Bx (Aa rfl Ai) hb
  exact An (Ag rfl) d54 rfl (Ah (Au (Aa (Bj rfl (Am rfl t1) rfl) (Aa (Ar rfl) Ai))) rfl (A6 hr hloop (Az (Ac I.r.r2))))
 ·obtain ⟨dl,bl,rfl,_,_,q1,q2⟩:=h4 i r v e e'
  exact ⟨dl,bl,q1,q2⟩
 ·obtain ⟨a,b⟩:=h6 r hr g hg
  exact ⟨a,by exact om64 h3 b⟩
end
section
structure LoI (σ₀:St) (b fo:Nat) (i:Nat) (ρ:At) (σ:St):Prop where
 r1:look 78 ρ=some (.loc b)
 r2:look 113 ρ=some (.loc fo)
 x:Ext σ₀ σ
 g:∃ l,σ[fo]?=some (.dI l)∧l.length≤i
theorem SR (k:Nat) {σ:St} {e:AV} {d:CA} (B:BodyAt d σ e):∃ σ',Ca (k+1) (0,151) [.loc d.b] σ (.loc σ.length) σ'∧Ext σ σ':=by
 have E1:=Ext.app1 σ (AO.dI [])
 have I0:LoI σ d.b σ.length 0 [(78,.loc d.b),(113,.loc σ.length)] (σ++[AO.dI []]):=⟨rfl,rfl,E1,[],Ad _ _,Nat.le_refl _⟩
 have e0:Ev k (.dict []) [(78,.loc d.b)] σ (.loc σ.length) (σ++[AO.dI []]):=Bw rfl rfl
 obtain ⟨ρ₁,σ₁,hloop,I⟩:=AP (l:=(List.range 5).map fun j=>AV.int (j:Nat)) (body:=DD prog.gtup (AT prog k) [
  .ifs (.cmp .NotIn (.idx (.idx (.idx (.attr (.var 78) 154) (.var 153)) (.int 0)) (.int 0)) (.gtup 16)) [
   .asg (.sub (.var 113) (.var 153)) (.bool true)] []]) (t:=.one 153) (LoI σ d.b σ.length) (fun i _ σ _=>CD σ 5 i) (fun i x ρ σ' hx J=>by
  rw [List.getElem?_map] at hx
  obtain ⟨j,hj,rfl⟩:=Option.map_eq_some_iff.mp hx
  have hlt:j < 5:=List.mem_range.mp (List.mem_of_getElem? hj)
  have hi:i < 5:=by have:=(List.getElem?_eq_some_iff.mp hj).1;rwa [List.length_range] at this
  have hgl:BW[j]?=some (BW[j]'hlt):=List.getElem?_eq_getElem _
  obtain ⟨t,ht,htt⟩:=Kx hgl
  rw [ht] at hgl
  have B1:=B.ext J.x
  obtain ⟨l,g1,g2⟩:=J.g
  have q1:=Ab (y:=153) (v:=.int j) J.r1 rfl
  have q2:=Ab (y:=153) (v:=.int j) J.r2 rfl
  have q0:=Aj 153 (.int j) ρ
  have hidx:=As (k:=k) (AN (f:=154) (Ac q1) B1.h2 rfl) (Ac q0) (FW B1.h3 hgl)
  rcases htt with rfl | rfl | rfl
  ·exact ⟨_,_,σ',rfl,Ak (Al (As (As hidx rfl rfl) rfl rfl) rfl rfl) rfl rfl,q1,q2,J.x,l,g1,Nat.le_succ_of_le g2⟩
  ·exact ⟨_,_,σ',rfl,Ak (Al (As (As hidx rfl rfl) rfl rfl) rfl rfl) rfl rfl,q1,q2,J.x,l,g1,Nat.le_succ_of_le g2⟩
  ·exact ⟨_,_,_,rfl,Bu (Al (As (As hidx rfl rfl) rfl rfl) rfl rfl) rfl (Fh rfl (Ac q2) (Ac q0) g1 (Nat.lt_of_le_of_lt g2 (Nat.lt_trans hi (by decide))) rfl) rfl,q1,q2,J.x.set (Nat.le_refl _),_,AQ g1,Nat.le_trans (Em _ _ _) (Nat.succ_le_succ g2)⟩) AC 0 _ _ (show 5 < 0+100000 by decide) (Nat.zero_le _) I0
 have B0:=B.ext E1
 have B1:=B.ext I.x
 refine ⟨σ₁,An (Ag rfl) d151 rfl (Ah e0 rfl (A6 (Bx (Aa (Bx (Aa (AN rfl B0.h2 rfl) Ai) (F_ (l:=BW) B0.h3 (by decide))) Ai) rfl) hloop (A6 (AN (Ac I.r1) B1.h2 rfl) (FU (Av B1.h4 0) (H5 B1.h5) (A6 (Ac (Ab (Aj _ _ _) rfl)) (Ey (Av B1.h6 0)) rfl) (Ey (Av B1.h4 1))) (Az (Ac (Ab (Ab I.r2 rfl) rfl)))))),I.x⟩
theorem Om (k:Nat) {σ:St} {e:AV} {d:CA} (B:BodyAt d σ e) {N:Nat} (hN:0 < N):∃ oth be σ',Ca (k+2) (0,21) [.loc d.b] σ (.loc σ.length) σ'∧Ext σ σ'∧σ'[σ.length]?=some (.inst 21 [(78,.loc d.b),(182,.loc oth),(73,.loc be)])∧BegAt σ' be N Ik∧σ.length≤be:=by
 have E1:Ext σ (σ++[AO.inst 21 [(78,.loc d.b)]]):=Ext.app1 _ _
 obtain ⟨σ₂,hc,x2⟩:=SR k (B.ext E1)
 have g0:=Ad σ (AO.inst 21 [(78,.loc d.b)])
 have g2:=x2 _ _ g0
 have hlt:=Bc g2
 have X2:=E1.trans x2
 let fo:=(σ++[AO.inst 21 [(78,.loc d.b)]]).length
 have X3:Ext σ (σ₂.set σ.length (.inst 21 [(78,.loc d.b),(182,.loc fo)])):=X2.set (Nat.le_refl _)
 have g3:(σ₂.set σ.length (.inst 21 [(78,.loc d.b),(182,.loc fo)]))[σ.length]?=some (.inst 21 [(78,.loc d.b),(182,.loc fo)]):=AQ g2
 have hc':Ev (k+1) (.call 151 [.var 78]) [(206,.loc σ.length),(78,.loc d.b)] (σ++[AO.inst 21 [(78,.loc d.b)]]) (.loc fo) σ₂:=Am rfl hc
 have hq:σ₂.set σ.length (.inst 21 (put 182 (.loc fo) [(78,.loc d.b)]))=σ₂.set σ.length (.inst 21 [(78,.loc d.b),(182,.loc fo)]):=rfl
 generalize σ₂.set σ.length (.inst 21 [(78,.loc d.b),(182,.loc fo)])=σ₃ at *
 have y4:=(Ext.app1 σ₃ (AO.dI [])).trans (Ext.app1 _ (AO.dI [(0,.loc σ₃.length)]))
 have hd:Ev (k+1) (.dict [.int 0,.dict []]) [(206,.loc σ.length),(78,.loc d.b)] σ₃ (.loc (σ₃++[AO.dI []]).length) (σ₃++[AO.dI []]++[AO.dI [(0,.loc σ₃.length)]]):=Bw rfl rfl
 have l3:σ.length < σ₃.length:=Bc g3
 have nbe:σ.length≠(σ₃++[AO.dI []]).length:=Nat.ne_of_lt (Nat.lt_trans l3 (AG _ _))
 refine ⟨fo,(σ₃++[AO.dI []]).length,(σ₃++[AO.dI []]++[AO.dI [(0,.loc σ₃.length)]]).set σ.length (.inst 21 [(78,.loc d.b),(182,.loc fo),(73,.loc (σ₃++[AO.dI []]).length)]),?_,(X3.trans y4).set (Nat.le_refl _),AQ (y4 _ _ g3),?_,Nat.le_of_lt (Nat.lt_trans l3 (AG _ _))⟩
 ·exact HB rfl d21 rfl (C8 rfl rfl (Ad _ _) (Nat.zero_le _) (BB _ _ _) (C8 hc' rfl g2 (Nat.le_add_left _ 19) hq (C8 hd rfl (y4 _ _ g3) (Nat.le_add_left _ 18) rfl rfl)))
 ·refine ⟨[(0,.loc σ₃.length)],AR (Ad _ _) nbe,List.nodup_cons.mpr ⟨List.not_mem_nil,List.nodup_nil⟩,fun p hp=>?_,fun b e=>?_,fun b v e=>?_⟩
  ·rw [List.mem_singleton.mp hp];exact ⟨Int.le_refl _,by show (0:Int) < N;exact om1 hN⟩
  ·unfold Ao at e
   unfold Ik
   by_cases h:b=0
   ·rw [if_pos h] at e;cases e
   ·rw [if_neg h]
  ·unfold Ao at e
   by_cases h:b=0
   ·rw [if_pos h] at e
    exact ⟨σ₃.length,[],(oQ e).symm,Nat.ne_of_lt (AG _ _),AR (Af (Ad _ _) _) (Nat.ne_of_lt l3),⟨List.nodup_nil,fun p hp=>absurd hp List.not_mem_nil⟩,if_pos h⟩
   ·rw [if_neg h] at e;exact Ae e
end
section
theorem Tw {k:Nat} {ρ:At} {σ σ₁ σ₂ σ₃ σ₄:St} {a lo hi:PE} {x y z v:AV} (ha:Ev k a ρ σ x σ₁) (hl:Ev k lo ρ σ₁ y σ₂) (hh:Ev k hi ρ σ₂ z σ₃) (h:LQ σ₃ x y z=some (v,σ₄)):Ev k (.slc a lo hi) ρ σ v σ₄:=by
 exact Ap ha (Ap hl (Ap hh h))
theorem slc_list {σ:St} {x:Nat} {l:List AV} {lo hi:AV} {a b:Option Nat} (h:σ[x]?=some (.list l)) (hl:l.length≤1000000) (ha:Gw lo=some a) (hb:Gw hi=some b):LQ σ (.loc x) lo hi=some (.loc σ.length,σ++[.list (GI l a b)]):=by
 show (match σ[x]? with | some (.list l)=>_ | _=>_)=_
 rw [h]
 show (match Gw lo,Gw hi with | some a,some b=>_ | _,_=>_)=_
 rw [ha,hb]
 exact if_pos hl
theorem EndsAt.take {kn:List (Int×AV)} {σ:St}:∀ {es:List EO} {vs:List AV} (n:Nat),EndsAt kn σ es vs→EndsAt kn σ (es.take n) (vs.take n)
 | _,_,0,_=>by rw [List.take_zero,List.take_zero];exact .nil
 | _,_,n+1,.nil=>by rw [List.take_nil,List.take_nil];exact .nil
 | _,_,n+1,.cons h he r=>.cons h he (r.take n)
theorem EndsAt.drop {kn:List (Int×AV)} {σ:St}:∀ {es:List EO} {vs:List AV} (n:Nat),EndsAt kn σ es vs→EndsAt kn σ (es.drop n) (vs.drop n)
 | _,_,0,h=>h
 | _,_,n+1,.nil=>by rw [List.drop_nil,List.drop_nil];exact .nil
 | _,_,n+1,.cons h he r=>r.drop n
theorem EndAt.ext {kn:List (Int×AV)} {σ σ':St} {e:EO} {v:AV} (h:EndAt kn σ e v) (E:Ext σ σ'):EndAt kn σ' e v:=let ⟨bl,h⟩:=h;⟨bl,E _ _ h⟩
theorem EndsAt.ext {kn:List (Int×AV)} {σ σ':St} {es:List EO} {vs:List AV} (h:EndsAt kn σ es vs) (E:Ext σ σ'):EndsAt kn σ' es vs:=by
 induction h with
 | nil=>exact .nil
 | cons h he r ih=>exact .cons (h.ext E) he ih
noncomputable def Fu:List (Int×AV):=[(1,.int 2),(2,.bool true),(3,.tup [.int 9,.bool false])]
theorem Cp:KnOk Fu where
 nd:=by decide
 sub:=fun k v h=>by
  rcases List.mem_cons.mp h with e | h
  ·exact .inl (pQ e).1
  rcases List.mem_cons.mp h with e | h
  ·exact .inr (.inl (pQ e).1)
  exact .inr (.inr (.inl (pQ (List.mem_singleton.mp h)).1))
 n1:=.inr ⟨2,rfl,by decide,by decide⟩
 n4:=.inl rfl
 b2:=.inr ⟨true,rfl⟩
 p3:=.inr ⟨9,false,rfl,by decide,by decide⟩
noncomputable def o1:Opd:=.plc false .n1
noncomputable def o2:Opd:=.plc true .b2
noncomputable def o3:Opd:=.plc false .p0
noncomputable def o4:Opd:=.plc false .n4
noncomputable def o5:Opd:=.plc false .p1
noncomputable def opr:Opd:=.plc false .pr
structure ToR (kd:Nat) (ρ:At):Prop where
 r137:look 137 ρ=some (.loc kd)
 r1:look 1 ρ=some tI
 r132:look 132 ρ=some (BH Fu o1)
 r227:look 227 ρ=some (BH Fu o2)
 r239:look 239 ρ=some (BH Fu o3)
 r103:look 103 ρ=some (BH Fu o4)
 r172:look 172 ρ=some (BH Fu o5)
 r184:look 184 ρ=some (BD opr)
theorem ToR.put {kd:Nat} {ρ:At} (h:ToR kd ρ) {y:Nat} {v:AV} (hy:(Nat.beq 137 y || Nat.beq 1 y || Nat.beq 132 y || Nat.beq 227 y || Nat.beq 239 y || Nat.beq 103 y || Nat.beq 172 y || Nat.beq 184 y)=false):ToR kd (put y v ρ):=by
 rw [Bool.or_eq_false_iff,Bool.or_eq_false_iff,Bool.or_eq_false_iff,Bool.or_eq_false_iff,Bool.or_eq_false_iff,Bool.or_eq_false_iff,Bool.or_eq_false_iff] at hy
 exact ⟨Ab h.r137 hy.1.1.1.1.1.1.1,Ab h.r1 hy.1.1.1.1.1.1.2,Ab h.r132 hy.1.1.1.1.1.2,Ab h.r227 hy.1.1.1.1.2,Ab h.r239 hy.1.1.1.2,Ab h.r103 hy.1.1.2,Ab h.r172 hy.1.2,Ab h.r184 hy.2⟩
theorem Lz (k:Nat) (σ:St):∃ ρ' σ',(∀ {R:List PS} {r:AF×At×St},Xs (k+2) R ρ' σ' r→Xs (k+2) (f__law_told_right.body.take 4++R) [] σ r)∧Ext σ σ'∧σ'[σ.length]?=some (.dI Fu)∧ToR σ.length ρ':=by
 have x1:=Ext.app1 σ (AO.dI Fu)
 have g1:=Ad σ (AO.dI Fu)
 have i1:=CE Cp k g1 false .n1
 have i2:=CE Cp k g1 true .b2
 have i3:=CE Cp k g1 false .p0
 have i4:=CE Cp k g1 false .n4
 have i5:=CE Cp k g1 false .p1
 have e0:Ev (k+2) (.tup [(.dict [.int 1,.int 2,.int 2,(.bool true),.int 3,(.tup [.int 9,(.bool false)])]),.call 60 [],(.tup [.str 79])]) [] σ (.tup [.loc σ.length,tI,tB]) (σ++[AO.dI Fu]):=Au (Aa (Bw rfl rfl) (Aa (Am rfl rfl) (Aa rfl Ai)))
 refine ⟨[(137,.loc σ.length),(1,tI),(209,tB),(132,BH Fu o1),(227,BH Fu o2),(239,BH Fu o3),(103,BH Fu o4),(172,BH Fu o5),(184,BD opr)],_,fun h=>?_,x1,g1,⟨rfl,rfl,rfl,rfl,rfl,rfl,rfl,rfl⟩⟩
 generalize σ++[AO.dI Fu]=σ₁ at *
 exact Ah e0 rfl (Ah (Au (Aa (Am rfl i1) (Aa (Am rfl i2) Ai))) rfl (Ah (Au (Aa (Am rfl i3) (Aa (Am rfl i4) Ai))) rfl (Ah (Au (Aa (Am rfl i5) (Aa rfl Ai))) rfl h)))
theorem TP (k:Nat) {σ:St} {kd:Nat} (hk:σ[kd]?=some (.dI Fu)) {ρ:At} (R:ToR kd ρ) :
  ∃ σ',Ev (k+6) (.not (.call 46 [.var 137,(.call 45 [.var 132,.var 227,(.list [.var 132,.var 227,.var 103]),(.tup [.int 3,.tup []])])])) ρ σ (.bool false) σ'∧Ext σ σ':=by
 have x1:=Ext.app1 σ (AO.list [BH Fu o1,BH Fu o2,BH Fu o4])
 obtain ⟨b,vs,σ₁,h1,x2,g1,g2,g3⟩:=Fz Cp (k+5) (o:=o1) (t:=o2) trivial rfl trivial rfl (ops:=[o1,o2,o4]) (fun o h=>by
  rcases List.mem_cons.mp h with e | h
  ·rw [e];trivial
  rcases List.mem_cons.mp h with e | h
  ·rw [e];trivial
  rw [List.mem_singleton.mp h];trivial) (Ad σ (AO.list [BH Fu o1,BH Fu o2,BH Fu o4])) (by decide) .pr
 obtain ⟨σ₂,h2,x3⟩:=Df Cp (by decide) k ((x1.trans x2) _ _ hk) g1 (by rw [g2];decide) g3
 exact ⟨σ₂,F4 (Am (Aa (Ac R.r137) (Aa (Am (Aa (Ac R.r132) (Aa (Ac R.r227) (Aa (Ar (Aa (Ac R.r132) (Aa (Ac R.r227) (Aa (Ac R.r103) Ai)))) (Aa rfl Ai)))) h1) Ai)) h2) rfl,x1.trans (x2.trans x3)⟩
theorem TO (k:Nat) {σ:St} {kd:Nat} (hk:σ[kd]?=some (.dI Fu)) {ρ:At} (R:ToR kd ρ) :
  ∃ σ',Ev (k+6) (.not (.call 46 [.var 137,(.slc (.call 45 [.var 103,.var 172,(.list [.var 239]),(.tup [.int 1,.tup []])]) .none (.int 3))])) ρ σ (.bool false) σ'∧Ext σ σ':=by
 have x1:=Ext.app1 σ (AO.list [BH Fu o3])
 obtain ⟨b,vs,σ₁,h1,x2,g1,g2,g3⟩:=Fz Cp (k+5) (o:=o4) (t:=o5) trivial rfl trivial rfl (ops:=[o3]) (fun o h=>by rw [List.mem_singleton.mp h];trivial) (Ad σ (AO.list [BH Fu o3])) (by decide) .n1
 have hs:=slc_list (lo:=.none) (hi:=.int 3) g1 (by rw [g2];decide) rfl rfl
 have x3:=Ext.app1 σ₁ (AO.list (vs.take 3))
 obtain ⟨σ₂,h2,x4⟩:=Df Cp (by decide) k (((x1.trans x2).trans x3) _ _ hk) (Ad σ₁ (AO.list (vs.take 3))) (by rw [List.length_take,g2];decide) ((g3.take 3).ext x3)
 exact ⟨σ₂,F4 (Am (Aa (Ac R.r137) (Aa (Tw (Am (Aa (Ac R.r103) (Aa (Ac R.r172) (Aa (Ar (Aa (Ac R.r239) Ai)) (Aa rfl Ai)))) h1) rfl rfl hs) Ai)) h2) rfl,(x1.trans x2).trans (x3.trans x4)⟩
theorem TN (k:Nat) {σ:St} {kd:Nat} (hk:σ[kd]?=some (.dI Fu)) {ρ:At} (R:ToR kd ρ) (r98:look 98 ρ=some (B7 (EG BD (.sw o1 [(1,5),(2,6)] none)))) :
  ∃ σ',Ev (k+4) (.cmp .NotEq (.meth (.call 20 [(.call 42 [.var 98])]) 196 [.var 98,(.call 19 [.var 137])]) (.tup [.str 118,.int 6])) ρ σ (.bool false) σ'∧Ext σ σ':=by
 obtain ⟨dc,c,σ₁,h1,x1,C1⟩:=FP (k+2) σ (B7 (EG BD (.sw o1 [(1,5),(2,6)] none)))
 obtain ⟨σ₂,h2,x2,F2⟩:=Er (k+3) (x1 _ _ hk) (by decide)
 obtain ⟨σ₃,h3,x3⟩:=DP Cp F2 (C1.ext x2) k (e:=.sw o1 [(1,5),(2,6)] none) ⟨trivial,rfl,by decide⟩
 exact ⟨σ₃,Al (Ax (h1 (Ac r98)) C1.h1 rfl (Aa (Ac r98) (Aa (Am (Aa (Ac R.r137) Ai) h2) Ai)) h3) rfl (Qf rfl rfl),x1.trans (x2.trans x3)⟩
theorem K5 {body:AV→St→Option (Option AV×St)} {a:Nat} {l:List AV} {σ₀:St} (hσ:σ₀[a]?=some (.list l)) (hb:∀ x∈l,∀ σ,Ext σ₀ σ→∃ σ',body x σ=some (none,σ')∧Ext σ σ') :
  ∀ (n i:Nat) (σ:St),l.length < i+n→i≤l.length→Ext σ₀ σ→∃ σ',Ch body false (.loc a) n i [] σ=some ([],σ')∧Ext σ σ'
 | 0,i,σ,h,hi,_=>absurd h (Nat.not_lt.mpr hi)
 | n+1,i,σ,h,hi,E=>by
  rcases Nat.lt_or_eq_of_le hi with hi | hi
  ·obtain ⟨σ₁,b1,b2⟩:=hb l[i] (List.getElem_mem hi) σ E
   obtain ⟨σ₂,c1,c2⟩:=K5 hσ hb n (i+1) σ₁ (by rw [Nat.add_right_comm];exact h) hi (E.trans b2)
   exact ⟨σ₂,FX ((Av (E _ _ hσ) i).trans (congrArg some (List.getElem?_eq_getElem hi))) b1 c1,b2.trans c2⟩
  ·exact ⟨σ,HO ((Av (E _ _ hσ) i).trans (congrArg some (List.getElem?_eq_none (Nat.le_of_eq hi.symm)))),Ext.refl _⟩
noncomputable def Kg:List AV:=[.tup [G7 (.bin 27 o1 o3),.str 171,.int 11,.none],.tup [G7 (.use opr),.str 184,.tup [.int 9,.bool false],LR Fu (.use opr)],.tup [G7 (.bin 27 o1 o4),.str 171,.none,LR Fu (.bin 27 o1 o4)]]
theorem TM (k:Nat) {σ:St} {kd ra:Nat} (hk:σ[kd]?=some (.dI Fu)) (hr:σ[ra]?=some (.list Kg)) {ρ:At} (R:ToR kd ρ) (r202:look 202 ρ=some (.loc ra)) :
  ∃ σ',Ev (k+10) (.cmp .NotEq (.lcomp (.var 201) (.one 201) (.var 202) [(.not (.call 53 [.var 137,(.idx (.var 201) (.int 0)),(.idx (.var 201) (.int 1)),(.idx (.var 201) (.int 2)),(.idx (.var 201) (.int 3))]))]) (.list [])) ρ σ (.bool false) σ'∧Ext σ σ':=by
 have one:∀ {x:AV} {a b c d:AV} (σ₁:St),x=.tup [a,b,c,d]→Yes (k+10) 53 [.loc kd,a,b,c,d] σ₁→∃ σ',cB (k+10) (.one 201) ρ (.var 201) [(.not (.call 53 [.var 137,(.idx (.var 201) (.int 0)),(.idx (.var 201) (.int 1)),(.idx (.var 201) (.int 2)),(.idx (.var 201) (.int 3))]))] x σ₁=some (none,σ')∧Ext σ₁ σ':=fun {x a b c d} σ₁ e hy=>by
  subst e
  obtain ⟨σ',h1,h2⟩:=hy
  have q:=Aj 201 (.tup [a,b,c,d]) ρ
  exact ⟨σ',Dq rfl (HW (F4 (Am (Aa (Ac (Ab R.r137 rfl)) (Aa (As (Ac q) rfl rfl) (Aa (As (Ac q) rfl rfl) (Aa (As (Ac q) rfl rfl) (Aa (As (Ac q) rfl rfl) Ai))))) h1) rfl) rfl),h2⟩
 obtain ⟨σ₁,h1,x1⟩:=K5 (body:=cB (k+10) (.one 201) ρ (.var 201) [(.not (.call 53 [.var 137,(.idx (.var 201) (.int 0)),(.idx (.var 201) (.int 1)),(.idx (.var 201) (.int 2)),(.idx (.var 201) (.int 3))]))]) hr (fun x hx σ₁ E=>by
  rcases List.mem_cons.mp hx with e | hx
  ·exact one σ₁ e (CG Cp (by decide) k (r:=.bin 27 o1 o3) ⟨.inr (.inl rfl),trivial,trivial,rfl,rfl⟩ (fun h=>h.elim (fun h=>by (cases h)) (fun h=>by (cases h))) (E _ _ hk))
  rcases List.mem_cons.mp hx with e | hx
  ·exact one σ₁ e (CG Cp (by decide) k (r:=.use opr) trivial (fun _=>rfl) (E _ _ hk))
  ·exact one σ₁ (List.mem_singleton.mp hx) (CG Cp (by decide) k (r:=.bin 27 o1 o4) ⟨.inr (.inl rfl),trivial,trivial,rfl,rfl⟩ (fun _=>rfl) (E _ _ hk))) AC 0 σ (by decide) (Nat.zero_le _) (Ext.refl _)
 have g1:=Ad σ₁ (AO.list [])
 exact ⟨_,Al (BO (Ac r202) (Ce hr) h1) (Ar rfl) (LY g1),x1.trans ((Ext.app1 _ _).trans (Ext.app1 _ _))⟩
theorem TL (k:Nat) {σ:St} {kd c:Nat} {dc:CA} {e:AV} (hk:σ[kd]?=some (.dI Fu)) (C:ConstAt dc σ c e) {ρ:At} (R:ToR kd ρ) (r88:look 88 ρ=some (.loc c)) :
  ∃ σ',Ev (k+4) (.cmp .NotEq (.meth (.var 88) 195 [(.tup [.str 190,(.idx (.var 132) (.int 0))]),(.call 19 [.var 137])]) (.tup [.str 190,(.tup [.str 87,.var 1,.int 2])])) ρ σ (.bool false) σ'∧Ext σ σ':=by
 obtain ⟨σ₂,h2,x2,F2⟩:=Er (k+3) hk (by decide)
 have h3:=Lb Cp F2 (C.ext x2) k o1 trivial
 exact ⟨σ₂,Al (Ax (Ac r88) C.h1 rfl (Aa (Au (Aa rfl (Aa (As (Ac R.r132) rfl rfl) Ai))) (Aa (Am (Aa (Ac R.r137) Ai) h2) Ai)) h3) (Au (Aa rfl (Aa (Au (Aa rfl (Aa (Ac R.r1) (Aa rfl Ai)))) Ai))) (Qf rfl rfl),x2⟩
end
section
theorem EX {body:AV→St→Option (Option AV×St)} {d:Bool} {src x v:AV} {n i:Nat} {acc:List AV} {σ σ':St} {r:Option (List AV×St)} (hn:Bg σ d src i=some (some x)) (hb:body x σ=some (some v,σ')) (h2:Ch body d src n (i+1) (acc++[v]) σ'=r):Ch body d src (n+1) i acc σ=r:=by
 exact FX hn hb h2
theorem Qt {body:AV→St→Option (Option AV×St)} {d:Bool} {src:AV} {n i:Nat} {acc:List AV} {σ:St} (hn:Bg σ d src i=some none):Ch body d src (n+1) i acc σ=some (acc,σ):=by
 exact HO hn
noncomputable def K1:KP:=[(3,1)]
noncomputable def K2:KP:=[(3,1),(4,2)]
noncomputable def K3:KP:=[(3,2)]
theorem wK1:WfP K1:=⟨by decide,fun p h=>by rw [List.mem_singleton.mp h];exact ⟨.inl rfl,.inl rfl⟩⟩
theorem wK2:WfP K2:=⟨by decide,fun p h=>by
 rcases List.mem_cons.mp h with e | h
 ·rw [e];exact ⟨.inl rfl,.inl rfl⟩
 ·rw [List.mem_singleton.mp h];exact ⟨.inr rfl,.inr rfl⟩⟩
theorem wK3:WfP K3:=⟨by decide,fun p h=>by rw [List.mem_singleton.mp h];exact ⟨.inl rfl,.inr rfl⟩⟩
noncomputable def B1:=CV Ik 5 K1
noncomputable def B2:=CV B1 5 K2
noncomputable def B3:=CV B2 5 K3
noncomputable def B4:=CV B3 5 K3
theorem Rc (b:Int):B4 b=if b=5 then some [] else Ik b:=by
 unfold B4 B3 B2 B1 CV
 by_cases h:b=5
 ·rw [if_pos h,if_pos h];rfl
 ·rw [if_neg h,if_neg h,if_neg h,if_neg h,if_neg h]
theorem TK (k:Nat) {σ:St} {c b oth be:Nat} (C:σ[c]?=some (.inst 21 [(78,.loc b),(182,.loc oth),(73,.loc be)])) (hB:BegAt σ be 6 Ik) {ρ:At} (r89:look 89 ρ=some (.loc c)) :
  ∃ a σ',Ev (k+1) (.lcomp (.meth (.var 89) 160 [.int 5,.var 210]) (.one 210) (.list [(.dict [.int 3,.int 1]),(.dict [.int 3,.int 1,.int 4,.int 2]),(.dict [.int 3,.int 2]),(.dict [.int 3,.int 2])]) []) ρ σ (.loc a) σ'∧(∀ {σ₀:St},Ext σ₀ σ→σ₀.length≤be→Ext σ₀ σ')∧σ'[a]?=some (.list [.bool true,.bool false,.bool true,.bool false])∧σ'[c]?=some (.inst 21 [(78,.loc b),(182,.loc oth),(73,.loc be)])∧BegAt σ' be 6 B4:=by
 obtain ⟨B,hBe,_⟩:=id hB
 have hbe:be < σ.length:=Bc hBe
 have d1:=Ad σ (AO.dI (AW K1))
 have d2:=Ad (σ++[AO.dI (AW K1)]) (AO.dI (AW K2))
 have d3:=Ad (σ++[AO.dI (AW K1)]++[AO.dI (AW K2)]) (AO.dI (AW K3))
 have d4:=Ad (σ++[AO.dI (AW K1)]++[AO.dI (AW K2)]++[AO.dI (AW K3)]) (AO.dI (AW K3))
 have n1:be < (σ++[AO.dI (AW K1)]).length:=Nat.lt_trans hbe (AG _ _)
 have n2:be < (σ++[AO.dI (AW K1)]++[AO.dI (AW K2)]).length:=Nat.lt_trans n1 (AG _ _)
 have n3:be < (σ++[AO.dI (AW K1)]++[AO.dI (AW K2)]++[AO.dI (AW K3)]).length:=Nat.lt_trans n2 (AG _ _)
 let L:List AV:=[.loc σ.length,.loc (σ++[AO.dI (AW K1)]).length,.loc (σ++[AO.dI (AW K1)]++[AO.dI (AW K2)]).length,.loc (σ++[AO.dI (AW K1)]++[AO.dI (AW K2)]++[AO.dI (AW K3)]).length]
 have eL:Ev (k+1) (.list [(.dict [.int 3,.int 1]),(.dict [.int 3,.int 1,.int 4,.int 2]),(.dict [.int 3,.int 2]),(.dict [.int 3,.int 2])]) ρ σ (.loc (σ++[AO.dI (AW K1)]++[AO.dI (AW K2)]++[AO.dI (AW K3)]++[AO.dI (AW K3)]).length) (σ++[AO.dI (AW K1)]++[AO.dI (AW K2)]++[AO.dI (AW K3)]++[AO.dI (AW K3)]++[AO.list L]):=
  Ar (Aa (Bw rfl rfl) (Aa (Bw rfl rfl) (Aa (Bw rfl rfl) (Aa (Bw rfl rfl) Ai))))
 have gL:=Ad (σ++[AO.dI (AW K1)]++[AO.dI (AW K2)]++[AO.dI (AW K3)]++[AO.dI (AW K3)]) (AO.list L)
 have x5:Ext σ (σ++[AO.dI (AW K1)]++[AO.dI (AW K2)]++[AO.dI (AW K3)]++[AO.dI (AW K3)]++[AO.list L]):=(Ext.app1 _ _).trans ((Ext.app1 _ _).trans ((Ext.app1 _ _).trans ((Ext.app1 _ _).trans (Ext.app1 _ _))))
 have f1:=Af (Af (Af (Af d1 [AO.dI (AW K2)]) [AO.dI (AW K3)]) [AO.dI (AW K3)]) [AO.list L]
 have f2:=Af (Af (Af d2 [AO.dI (AW K3)]) [AO.dI (AW K3)]) [AO.list L]
 have f3:=Af (Af d3 [AO.dI (AW K3)]) [AO.list L]
 have f4:=Af d4 [AO.list L]
 show ∃ a σ',_∧_
 generalize hl4:(σ++[AO.dI (AW K1)]++[AO.dI (AW K2)]++[AO.dI (AW K3)]++[AO.dI (AW K3)]).length=l4 at *
 generalize σ++[AO.dI (AW K1)]++[AO.dI (AW K2)]++[AO.dI (AW K3)]++[AO.dI (AW K3)]++[AO.list L]=σ₁ at *
 have C1:=x5 _ _ C
 have nc:c≠be:=BZ C hBe (by simp)
 have nL:l4≠be:=by obtain ⟨B',h',_⟩:=hB.ext x5;exact BZ gL h' (by simp)
 have h5:0≤(5:Int)∧(5:Int) < (6:Nat):=⟨by decide,by decide⟩
 obtain ⟨s1,m1,y1,b1⟩:=H2 k C1 (hB.ext x5) (by decide) h5 f1 wK1
 obtain ⟨s2,m2,y2,b2⟩:=H2 k (y1 _ _ nc C1) b1 (by decide) h5 (y1 _ _ (Nat.ne_of_gt n1) f2) wK2
 have z2:=y1.trans y2
 obtain ⟨s3,m3,y3,b3⟩:=H2 k (z2 _ _ nc C1) b2 (by decide) h5 (z2 _ _ (Nat.ne_of_gt n2) f3) wK3
 have z3:=z2.trans y3
 obtain ⟨s4,m4,y4,b4⟩:=H2 k (z3 _ _ nc C1) b3 (by decide) h5 (z3 _ _ (Nat.ne_of_gt n3) f4) wK3
 have z4:=z3.trans y4
 rw [show Lu Ik 5 K1=true from rfl] at m1
 rw [show Lu (CV Ik 5 K1) 5 K2=false from by decide] at m2
 rw [show Lu (CV (CV Ik 5 K1) 5 K2) 5 K3=true from by decide] at m3
 rw [show Lu (CV (CV (CV Ik 5 K1) 5 K2) 5 K3) 5 K3=false from by decide] at m4
 have tn:∀ {σa σb:St} {x v:AV},σa[c]?=some (.inst 21 [(78,.loc b),(182,.loc oth),(73,.loc be)])→Ca (k+1) (21,160) [.loc c,.int 5,x] σa v σb→cB (k+1) (.one 210) ρ (.meth (.var 89) 160 [.int 5,.var 210]) [] x σa=some (some v,σb):=fun hc h=>
  Bp rfl rfl (Ax (Ac (Ab r89 rfl)) hc rfl (Aa rfl (Aa (Ac (Aj _ _ _)) Ai)) h)
 have hcomp:Ch (cB (k+1) (.one 210) ρ (.meth (.var 89) 160 [.int 5,.var 210]) []) false (.loc l4) AC 0 [] σ₁=some ([.bool true,.bool false,.bool true,.bool false],s4):=
  EX (Av gL 0) (tn C1 m1) (EX (Av (y1 _ _ nL gL) 1) (tn (y1 _ _ nc C1) m2) (EX (Av (z2 _ _ nL gL) 2) (tn (z2 _ _ nc C1) m3) (EX (Av (z3 _ _ nL gL) 3) (tn (z3 _ _ nc C1) m4) (Qt (Av (z4 _ _ nL gL) 4)))))
 exact ⟨_,_,BO eL (Ce gL) hcomp,fun E h=>(z4.to (E.trans x5) h).trans (Ext.app1 _ _),Ad _ _,Af (z4 _ _ nc C1) _,b4.ext (Ext.app1 _ _)⟩
theorem Rh (k:Nat) {σ:St} {c b oth be a:Nat} (C:σ[c]?=some (.inst 21 [(78,.loc b),(182,.loc oth),(73,.loc be)])) (hB:BegAt σ be 6 B4) (ha:σ[a]?=some (.list [.bool true,.bool false,.bool true,.bool false])) {ρ:At} (r89:look 89 ρ=some (.loc c)) (r225:look 225 ρ=some (.loc a)) :
  ∃ σ',Ev k (.bop .Or [(.cmp .NotEq (.var 225) (.list [(.bool true),(.bool false),(.bool true),(.bool false)])),(.cmp .NotEq (.attr (.var 89) 73) (.dict [.int 0,.dict [],.int 5,.dict []]))]) ρ σ (.bool false) σ'∧Ext σ σ':=by
 have x1:=Ext.app1 σ (AO.list [.bool true,.bool false,.bool true,.bool false])
 have q1:A9 (σ++[AO.list [.bool true,.bool false,.bool true,.bool false]]) .NotEq (.loc a) (.loc σ.length)=some false:=by
  show Option.map not (BU _ 20 _ _)=_
  rw [Lq (n:=19) (x1 _ _ ha) (Ad _ _) rfl rfl];rfl
 have e1:Ev k (.list [(.bool true),(.bool false),(.bool true),(.bool false)]) ρ σ (.loc σ.length) (σ++[AO.list [.bool true,.bool false,.bool true,.bool false]]):=Ar rfl
 generalize σ++[AO.list [.bool true,.bool false,.bool true,.bool false]]=σ₁ at *
 have x2:=(Ext.app1 σ₁ (AO.dI [])).trans ((Ext.app1 _ (AO.dI [])).trans (Ext.app1 _ (AO.dI [(0,.loc σ₁.length),(5,.loc (σ₁++[AO.dI []]).length)])))
 have e2:Ev k (.dict [.int 0,.dict [],.int 5,.dict []]) ρ σ₁ (.loc (σ₁++[AO.dI []]++[AO.dI []]).length) (σ₁++[AO.dI []]++[AO.dI []]++[AO.dI [(0,.loc σ₁.length),(5,.loc (σ₁++[AO.dI []]).length)]]):=
  Bw (Aa rfl (Aa (Bw rfl rfl) (Aa rfl (Aa (Bw rfl rfl) Ai)))) rfl
 have w0:WfP []:=⟨List.nodup_nil,fun p hp=>absurd hp List.not_mem_nil⟩
 have o0:C_ []=[]:=by decide
 have h5':0≤(5:Int)∧(5:Int) < (6:Nat):=⟨by decide,by decide⟩
 have hD:BegAt (σ₁++[AO.dI []]++[AO.dI []]++[AO.dI [(0,.loc σ₁.length),(5,.loc (σ₁++[AO.dI []]).length)]]) (σ₁++[AO.dI []]++[AO.dI []]).length 6 (Iq B4):=by
  refine ⟨_,Ad _ _,(show ([0,5]:List Int).Nodup by decide),fun p hp=>?_,fun b e=>?_,fun b v e=>?_⟩
  ·rcases List.mem_cons.mp hp with e | hp
   ·rw [e];exact (by decide:0≤(0:Int)∧(0:Int) < (6:Nat))
   ·rw [List.mem_singleton.mp hp];exact h5'
  ·unfold Ao Ao Ao at e
   by_cases h0:b=0
   ·rw [if_pos h0] at e;cases e
   ·rw [if_neg h0] at e
    by_cases h5:b=5
    ·rw [if_pos h5] at e;cases e
    ·show (B4 b).map C_=none
     rw [Rc,if_neg h5]
     unfold Ik
     rw [if_neg h0];rfl
  ·unfold Ao Ao Ao at e
   by_cases h0:b=0
   ·rw [if_pos h0] at e
    subst h0
    exact ⟨σ₁.length,[],(oQ e).symm,Nat.ne_of_lt (Cn (AG _ _) _),Af (Af (Ad _ _) _) _,w0,by show (B4 0).map C_=_;rw [Rc];exact congrArg some o0⟩
   ·rw [if_neg h0] at e
    by_cases h5:b=5
    ·rw [if_pos h5] at e
     subst h5
     exact ⟨(σ₁++[AO.dI []]).length,[],(oQ e).symm,Nat.ne_of_lt (AG _ _),Af (Ad _ _) _,w0,by show (B4 5).map C_=_;rw [Rc];exact congrArg some o0⟩
    ·rw [if_neg h5] at e;exact Ae e
 have q2:A9 (σ₁++[AO.dI []]++[AO.dI []]++[AO.dI [(0,.loc σ₁.length),(5,.loc (σ₁++[AO.dI []]).length)]]) .NotEq (.loc be) (.loc (σ₁++[AO.dI []]++[AO.dI []]).length)=some false:=by
  show Option.map not (BU _ 20 _ _)=_
  rw [Lr ((hB.ext x1).ext x2) hD];rfl
 exact ⟨_,B6 (Al (Ac r225) e1 q1) rfl (AY (Al (AN (Ac r89) (x1 _ _ C) rfl) e2 q2)),x1.trans x2⟩
end
section
theorem d59:prog.defs (0,59)=some f__law_told_right:=rfl
noncomputable def dd1:List Deed:=[⟨.copy,3,1⟩,⟨.copy,4,2⟩]
noncomputable def dd2:List Deed:=[⟨.const,2,0⟩]
noncomputable def dd3:List Deed:=[⟨.print,3,0⟩]
noncomputable def Th:List Row:=[⟨dd1,.sw 1 2⟩,⟨dd2,.goto 2⟩,⟨dd3,.goto 1⟩]
theorem O2:RowsOk Th:=by
 refine ⟨fun r hr=>?_,fun r hr g hg=>?_,by decide,by decide⟩
 ·rcases List.mem_cons.mp hr with e | hr
  ·rw [e]
   refine ⟨fun d hd=>?_,by decide⟩
   rcases List.mem_cons.mp hd with e | hd
   ·rw [e];exact ⟨.inl rfl,.inl rfl⟩
   ·rw [List.mem_singleton.mp hd];exact ⟨.inr rfl,.inr rfl⟩
  rcases List.mem_cons.mp hr with e | hr
  ·rw [e];exact ⟨fun d hd=>by rw [List.mem_singleton.mp hd];trivial,by decide⟩
  ·rw [List.mem_singleton.mp hr];exact ⟨fun d hd=>by rw [List.mem_singleton.mp hd];trivial,by decide⟩
 ·have key:∀ g:Int,g∈[1,2]→0≤g∧g < ((3:Nat):Int):=fun g h=>by
   rcases List.mem_cons.mp h with e | h
   ·rw [e];exact ⟨by decide,by decide⟩
   ·rw [List.mem_singleton.mp h];exact ⟨by decide,by decide⟩
  rcases List.mem_cons.mp hr with e | hr
  ·rw [e] at hg;exact key g hg
  rcases List.mem_cons.mp hr with e | hr
  ·rw [e] at hg;rw [List.mem_singleton.mp hg];exact key 2 (.tail _ (.head _))
  ·rw [List.mem_singleton.mp hr] at hg;rw [List.mem_singleton.mp hg];exact key 1 (.head _)
theorem TJ (k:Nat) (σ:St) {ρ:At} (r209:look 209 ρ=some (.tup [.str 87,tB,.bool true])) :
  ∃ ra σ',Ev k (.list [(.tup [(.list [(.tup [.str 90,.int 3,.int 1]),(.tup [.str 90,.int 4,.int 2])]),(.tup [.str 220,.var 209,(.tup [(.tup [(.bool true),.int 1])]),.int 2]),.none,(.list [.int 1,.int 2])]),(.tup [(.list [(.tup [.str 87,.int 2,.int 0])]),(.tup [.str 118,.int 2]),.none,(.list [.int 2])]),(.tup [(.list [(.tup [.str 190,.int 3,.int 0])]),(.tup [.str 118,.int 1]),.none,(.list [.int 1])])]) ρ σ (.loc ra) σ'∧Ext σ σ'∧RwsAt σ' ra Th:=by
 let s1:=σ++[AO.list (dd1.map BJ)]
 let s2:=s1++[AO.list [.int 1,.int 2]]
 let s3:=s2++[AO.list (dd2.map BJ)]
 let s4:=s3++[AO.list [.int 2]]
 let s5:=s4++[AO.list (dd3.map BJ)]
 let s6:=s5++[AO.list [.int 1]]
 let v1:AV:=.tup [.loc σ.length,B7 (Dh (.sw 1 2)),.none,.loc s1.length]
 let v2:AV:=.tup [.loc s2.length,B7 (Dh (.goto 2)),.none,.loc s3.length]
 let v3:AV:=.tup [.loc s4.length,B7 (Dh (.goto 1)),.none,.loc s5.length]
 have g1:s6[σ.length]?=some (.list (dd1.map BJ)):=Af (Af (Af (Af (Af (Ad _ _) _) _) _) _) _
 have g2:s6[s1.length]?=some (.list [.int 1,.int 2]):=Af (Af (Af (Af (Ad _ _) _) _) _) _
 have g3:s6[s2.length]?=some (.list (dd2.map BJ)):=Af (Af (Af (Ad _ _) _) _) _
 have g4:s6[s3.length]?=some (.list [.int 2]):=Af (Af (Ad _ _) _) _
 have g5:s6[s4.length]?=some (.list (dd3.map BJ)):=Af (Ad _ _) _
 have g6:s6[s5.length]?=some (.list [.int 1]):=Ad _ _
 refine ⟨s6.length,s6++[AO.list [v1,v2,v3]],?_,(Ext.app1 σ _).trans ((Ext.app1 s1 _).trans ((Ext.app1 s2 _).trans ((Ext.app1 s3 _).trans ((Ext.app1 s4 _).trans ((Ext.app1 s5 _).trans (Ext.app1 s6 _)))))),⟨_,Ad _ _,rfl,fun i r v e e'=>?_⟩⟩
 ·refine Ar (Aa (Au (Aa (Ar rfl) (Aa (Au (Aa rfl (Aa (Ac r209) (Aa rfl (Aa rfl Ai))))) (Aa rfl (Aa (Ar rfl) Ai))))) ?_)
  refine Aa (Au (Aa (Ar rfl) (Aa rfl (Aa rfl (Aa (Ar rfl) Ai))))) ?_
  exact Aa (Au (Aa (Ar rfl) (Aa rfl (Aa rfl (Aa (Ar rfl) Ai))))) Ai
 ·match i,e,e' with
  | 0,e,e'=>(cases e);(cases e');exact ⟨_,_,Af g1 _,Af g2 _⟩
  | 1,e,e'=>(cases e);(cases e');exact ⟨_,_,Af g3 _,Af g4 _⟩
  | 2,e,e'=>(cases e);(cases e');exact ⟨_,_,Af g5 _,Af g6 _⟩
  | n+3,e,_=>exact Ae e
theorem HJ (k:Nat) (σ:St):Yes (k+11) 59 [] σ:=by
 obtain ⟨ρ,σ₁,h0,x1,g1,R⟩:=Lz (k+8) σ
 obtain ⟨σ₂,e2,x2⟩:=TP (k+4) g1 R
 have X2:=x1.trans x2
 obtain ⟨σ₃,e3,x3⟩:=TO (k+4) (x2 _ _ g1) R
 have y3:=x2.trans x3
 have R3:=R.put (y:=98) (v:=B7 (EG BD (.sw o1 [(1,5),(2,6)] none))) rfl
 have e98:Ev (k+10) (.tup [.str 220,(.idx (.var 132) (.int 0)),(.tup [(.tup [.int 1,.int 5]),(.tup [.int 2,.int 6])]),.none]) ρ σ₃ (B7 (EG BD (.sw o1 [(1,5),(2,6)] none))) σ₃:=Au (Aa rfl (Aa (As (Ac R.r132) rfl rfl) (Aa rfl (Aa rfl Ai))))
 obtain ⟨σ₄,e4,x4⟩:=TN (k+6) (y3 _ _ g1) R3 (Aj _ _ _)
 have y4:=y3.trans x4
 generalize hρ₂:put 98 (B7 (EG BD (.sw o1 [(1,5),(2,6)] none))) ρ=ρ₂ at *
 have e202:Ev (k+10) (.list [(.tup [(.tup [.str 75,.str 27,(.idx (.var 132) (.int 0)),(.idx (.var 239) (.int 0))]),.str 171,.int 11,.none]),(.tup [(.tup [.str 234,.var 184]),.str 184,(.tup [.int 9,(.bool false)]),(.tup [.str 234,.var 184])]),(.tup [(.tup [.str 75,.str 27,(.idx (.var 132) (.int 0)),(.idx (.var 103) (.int 0))]),.str 171,.none,(.tup [.str 75,.str 27,(.idx (.var 132) (.int 2)),(.idx (.var 103) (.int 0))])])]) ρ₂ σ₄ (.loc σ₄.length) (σ₄++[AO.list Kg]):=by
  refine Ar (Aa (Au (Aa (Au (Aa rfl (Aa rfl (Aa (As (Ac R3.r132) rfl rfl) (Aa (As (Ac R3.r239) rfl rfl) Ai))))) (Aa rfl (Aa rfl (Aa rfl Ai))))) ?_)
  refine Aa (Au (Aa (Au (Aa rfl (Aa (Ac R3.r184) Ai))) (Aa rfl (Aa rfl (Aa (Au (Aa rfl (Aa (Ac R3.r184) Ai))) Ai))))) ?_
  exact Aa (Au (Aa (Au (Aa rfl (Aa rfl (Aa (As (Ac R3.r132) rfl rfl) (Aa (As (Ac R3.r103) rfl rfl) Ai))))) (Aa rfl (Aa rfl (Aa (Au (Aa rfl (Aa rfl (Aa (As (Ac R3.r132) rfl rfl) (Aa (As (Ac R3.r103) rfl rfl) Ai))))) Ai))))) Ai
 have g5:=Ad σ₄ (AO.list Kg)
 have y5:=y4.trans (Ext.app1 σ₄ (AO.list Kg))
 have R5:=R3.put (y:=202) (v:=.loc σ₄.length) rfl
 obtain ⟨σ₆,e6,x6⟩:=TM k (y5 _ _ g1) g5 R5 (Aj _ _ _)
 have y6:=y5.trans x6
 generalize hρ₃:put 202 (.loc σ₄.length) ρ₂=ρ₃ at *
 generalize σ₄++[AO.list Kg]=σ₅ at *
 obtain ⟨dc,c,σ₇,h7,x7,C7⟩:=FP (k+8) σ₆ (.tup [.str 199])
 have R7:=R5.put (y:=88) (v:=.loc c) rfl
 have y7:=y6.trans x7
 obtain ⟨σ₈,e8,x8⟩:=TL (k+6) (y7 _ _ g1) C7 R7 (Aj _ _ _)
 have y8:=y7.trans x8
 generalize hρ₄:put 88 (.loc c) ρ₃=ρ₄ at *
 obtain ⟨d9,σ₉,h9,x9,B9⟩:=H3 (k+8) σ₈ (.tup [.str 199])
 obtain ⟨oth,be,σa,ha,xa,Ca',Ba,hbe⟩:=Om (k+8) B9 (N:=6) (by decide)
 have ya:=y8.trans (x9.trans xa)
 have Ya:=x1.trans ya
 obtain ⟨a,σb,eb,xb,gb,Cb,Bb⟩:=TK (k+9) Ca' Ba (ρ:=put 89 (.loc σ₉.length) ρ₄) (Aj _ _ _)
 have Yb:Ext σ σb:=xb Ya (Nat.le_trans (x1.trans (y8.trans x9)).le hbe)
 obtain ⟨σc,ec,xc⟩:=Rh (k+10) Cb Bb gb (ρ:=put 225 (.loc a) (put 89 (.loc σ₉.length) ρ₄)) (Ab (Aj _ _ _) rfl) (Aj _ _ _)
 obtain ⟨rc,σd,ed,xd,Rd⟩:=TJ (k+10) σc (ρ:=put 209 (.tup [.str 87,tB,.bool true]) (put 225 (.loc a) (put 89 (.loc σ₉.length) ρ₄))) (Aj _ _ _)
 obtain ⟨σe,ee,xe⟩:=DL O2 (k+4) Rd
 refine ⟨σe,?_,Yb.trans (xc.trans (xd.trans xe))⟩
 have t8:=Ah (k:=k+10) (g:=.name 89) (R':=f__law_told_right.body.drop 13) (Am (Aa (Am (Aa (e:=.tup [.str 199]) (args:=[]) (ρ:=ρ₄) rfl rfl) h9) Ai) ha) rfl (Ah eb rfl (Ak ec rfl (Ah rfl rfl (Ah ed rfl (Az (Am (Aa (Ac (Aj _ _ _)) Ai) ee))))))
 subst hρ₄
 have t7:=Ah (k:=k+10) (g:=.name 88) (R':=f__law_told_right.body.drop 11) (h7 (b:=.tup [.str 199]) (ρ:=ρ₃) rfl) rfl (Ak e8 rfl t8)
 subst hρ₃
 have t5:=Ah (k:=k+10) (g:=.name 202) (R':=f__law_told_right.body.drop 9) e202 rfl (Ak e6 rfl t7)
 subst hρ₂
 exact An (Ag rfl) d59 rfl (h0 (R:=f__law_told_right.body.drop 4) (Ak e2 rfl (Ak e3 rfl (Ah e98 rfl (Ak e4 rfl t5)))))
end
section
theorem d52:prog.defs (0,52)=some GQ:=rfl
theorem Mo (k:Nat) (σ:St) {ns:List Int} (hn:ns.length≤63):∃ σ',Ca (k+1) (0,52) [.glist ns] σ (.loc σ.length) σ'∧Ext σ σ'∧SrcAt σ' σ.length:=by
 have hlen:DB .len [.glist ns] σ=some (.int ns.length,σ):=if_pos (Nat.le_trans hn (by decide))
 have hcell:∃ cell:Int,Ev k (.ite (.cmp .Gt (.blt .len [.var 204]) (.int 0)) (.idx (.var 204) (.int 0)) (.int 0)) [(204,.glist ns)] σ (.int cell) σ:=by
  induction ns using List.casesOn with
  | nil=>exact ⟨0,Bh (Al (Bx (Aa rfl Ai) hlen) rfl rfl) rfl rfl⟩
  | cons a r=>
   have hi:CM σ (.glist (a::r)) (.int 0)=some (.int a):=rfl
   exact ⟨a,Bl (Al (Bx (Aa rfl Ai) hlen) rfl rfl) (Il (decide_eq_true (show (0:Int) < ((a::r).length:Nat) from Int.ofNat_lt.mpr (Nat.succ_pos _)))) (As rfl rfl hi)⟩
 obtain ⟨cell,h1⟩:=hcell
 have hsize:∃ size:Int,0≤size∧Ev k (.ite (.cmp .GtE (.var 84) (.int 0)) (.var 84) (.bin .Sub (.neg (.int 1)) (.var 84))) [(204,.glist ns),(84,.int cell)] σ (.int size) σ:=by
  by_cases h:0≤cell
  ·exact ⟨cell,h,Bl rfl (Il (decide_eq_true h)) rfl⟩
  ·exact ⟨-1 - cell,by exact om65 h,Bh rfl (Im (decide_eq_false h)) rfl⟩
 obtain ⟨size,s0,h2⟩:=hsize
 have hfirst:∃ a:Int,0≤a∧Ev k (.ite (.cmp .GtE (.var 208) (.bin .Pow (.int 10) (.int 18))) (.var 208) (.int 0)) [(204,.glist ns),(84,.int cell),(208,.int size)] σ (.int a) σ:=by
  have hp:Ev k (.bin .Pow (.int 10) (.int 18)) [(204,.glist ns),(84,.int cell),(208,.int size)] σ (.int (10 ^ 18)) σ:=rfl
  by_cases h:10 ^ 18≤size
  ·exact ⟨size,s0,Bl (Al rfl hp rfl) (Il (decide_eq_true h)) rfl⟩
  ·exact ⟨0,Int.le_refl _,Bh (Al rfl hp rfl) (Im (decide_eq_false h)) rfl⟩
 obtain ⟨a,a0,h3⟩:=hfirst
 have m1:=Fo σ (a:=size) (b:=2147483629) (by decide)
 have c0:=Int.emod_nonneg size (show (2147483629:Int)≠0 by decide)
 have c1:=Int.emod_lt_of_pos size (show (0:Int) < 2147483629 by decide)
 generalize size % 2147483629=c at m1 c0 c1
 have m2:=L0 σ (a:=c+23) (b:=48271) (by exact om66 c0) (by omega) (by decide) (by decide)
 have m3:=Fo σ (a:=(c+23)*48271) (b:=2147483647) (by decide)
 have d0:=Int.emod_nonneg ((c+23)*48271) (show (2147483647:Int)≠0 by decide)
 have d1:=Int.emod_lt_of_pos ((c+23)*48271) (show (0:Int) < 2147483647 by decide)
 exact ⟨_,An (Ag rfl) d52 rfl (Ah h1 rfl (Ah h2 rfl (Az (Ar (Aa h3 (Aa (Bj (Bj (Bj (Bj rfl rfl m1) rfl rfl) rfl m2) rfl m3) Ai)))))),Ext.app1 _ _,⟨a,_,Ad _ _,a0,d0,d1⟩⟩
structure KnS (L:List Int) (kn:List (Int×AV)):Prop where
 nd:Nd kn
 sub:∀ k v,(k,v)∈kn→k∈L
 n1:Ao 1 kn=none∨∃ i,Ao 1 kn=some (.int i)∧0≤i∧i < 256
 n4:Ao 4 kn=none∨∃ i,Ao 4 kn=some (.int i)∧0≤i∧i < 256
 b2:Ao 2 kn=none∨∃ b,Ao 2 kn=some (.bool b)
 p3:Ao 3 kn=none∨∃ i b,Ao 3 kn=some (.tup [.int i,.bool b])∧0≤i∧i < 256
noncomputable def locals4:List Int:=[1,2,3,4]
noncomputable def Nb (l v:Int):AV:=if l=2 then .bool (decide (2 < v)) else if l=3 then .tup [.int v,.bool (decide (2 < v))] else .int v
theorem KnS.step {L:List Int} {kn:List (Int×AV)} (h:KnS L kn) {l v:Int} (hl:l∈locals4) (v0:0≤v) (v1:v < 5):KnS (L++[l]) (Br l (Nb l v) kn):=by
 have hv:0≤v∧v < 256:=⟨v0,by exact om68 v1⟩
 refine ⟨Jr h.nd,fun k w hm=>?_,?_,?_,?_,?_⟩
 ·rcases FH (List.mem_map.mpr ⟨(k,w),hm,rfl⟩) with e | e
  ·exact List.mem_append_right _ (List.mem_singleton.mpr e)
  ·obtain ⟨⟨k',w'⟩,hq,e⟩:=List.mem_map.mp e
   have e':k'=k:=e
   subst e'
   exact List.mem_append_left _ (h.sub k' w' hq)
 all_goals rw [DS]
 ·by_cases e:1=l
  ·rw [if_pos e,←e];exact .inr ⟨v,rfl,hv⟩
  ·rw [if_neg e];exact h.n1
 ·by_cases e:4=l
  ·rw [if_pos e,←e];exact .inr ⟨v,rfl,hv⟩
  ·rw [if_neg e];exact h.n4
 ·by_cases e:2=l
  ·rw [if_pos e,←e];exact .inr ⟨_,rfl⟩
  ·rw [if_neg e];exact h.b2
 ·by_cases e:3=l
  ·rw [if_pos e,←e];exact .inr ⟨v,_,rfl,hv⟩
  ·rw [if_neg e];exact h.p3
theorem KnS.more {L:List Int} {kn:List (Int×AV)} (h:KnS L kn) (l:Int):KnS (L++[l]) kn:=⟨h.nd,fun k v hm=>List.mem_append_left _ (h.sub k v hm),h.n1,h.n4,h.b2,h.p3⟩
theorem KnS.ok {kn:List (Int×AV)} (h:KnS locals4 kn):KnOk kn:=⟨h.nd,fun k v hm=>by
 rcases List.mem_cons.mp (h.sub k v hm) with e | hm
 ·exact .inl e
 rcases List.mem_cons.mp hm with e | hm
 ·exact .inr (.inl e)
 rcases List.mem_cons.mp hm with e | hm
 ·exact .inr (.inr (.inl e))
 ·exact .inr (.inr (.inr (List.mem_singleton.mp hm))),h.n1,h.n4,h.b2,h.p3⟩
theorem PN {kn:List (Int×AV)} (nd:Nd kn) {L:List Int} (sub:∀ k v,(k,v)∈kn→k∈L):kn.length≤L.length:=by
 have:=Eo (l:=kn.map (·.1)) (m:=L) nd fun x hx=>by obtain ⟨p,hp,rfl⟩:=List.mem_map.mp hx;exact sub p.1 p.2 hp
 rwa [List.length_map] at this
structure LwR (s kd:Nat) (ρ:At):Prop where
 r1:look 212 ρ=some (.loc s)
 r2:look 137 ρ=some (.loc kd)
theorem LwR.put {s kd:Nat} {ρ:At} (h:LwR s kd ρ) {y:Nat} {v:AV} (hy:(Nat.beq 212 y || Nat.beq 137 y)=false):LwR s kd (put y v ρ):=by
 rw [Bool.or_eq_false_iff] at hy
 exact ⟨Ab h.r1 hy.1,Ab h.r2 hy.2⟩
noncomputable def JD:List PS:=[
  .asg (.name 236) (.call 58 [.var 212,.int 5]),
  .ifs (.cmp .Gt (.call 58 [.var 212,.int 3]) (.int 0)) [
   .asg (.sub (.var 137) (.var 153)) (.ite (.cmp .Eq (.var 153) (.int 2)) (.cmp .Gt (.var 236) (.int 2)) (.ite (.cmp .Eq (.var 153) (.int 3)) (.tup [.var 236,(.cmp .Gt (.var 236) (.int 2))]) (.var 236)))] []]
structure KnI (s kd la:Nat) (i:Nat) (ρ:At) (σ:St):Prop where
 r:LwR s kd ρ
 S:SrcAt σ s
 hla:σ[la]?=some (.list (locals4.map .int))
 g:∃ kn,σ[kd]?=some (.dI kn)∧KnS (locals4.take i) kn
theorem RO (k:Nat) {s kd la:Nat} (hne:la≠s) {i:Nat} {l:Int} (hl:locals4[i]?=some l) {ρ:At} {σ:St} (J:KnI s kd la i ρ σ):∃ ρ' σ',Xs (k+1) JD (put 153 (.int l) ρ) σ (.next,ρ',σ')∧KnI s kd la (i+1) ρ' σ':=by
 obtain ⟨kn,hk,hS⟩:=J.g
 have hkd:=BN J.S hk
 obtain ⟨v,σ₁,t1,t2,t3,t4⟩:=Ct k J.S (top:=5) (by decide) (by decide)
 obtain ⟨w,σ₂,u1,u2,u3,u4⟩:=Ct k t4.s (top:=3) (by decide) (by decide)
 have X:=t4.trans u4
 have R1:=J.r.put (y:=153) (v:=.int l) rfl
 have R2:=R1.put (y:=236) (v:=.int v) rfl
 have q153:=Ab (y:=236) (v:=.int v) (Aj 153 (.int l) ρ) rfl
 have q236:=Aj 236 (.int v) (put 153 (.int l) ρ)
 have e1:Ev (k+1) (.call 58 [.var 212,.int 5]) (put 153 (.int l) ρ) σ (.int v) σ₁:=Am (Aa (Ac R1.r1) (Aa rfl Ai)) t1
 have e2:Ev (k+1) (.cmp .Gt (.call 58 [.var 212,.int 3]) (.int 0)) (put 236 (.int v) (put 153 (.int l) ρ)) σ₁ (.bool (decide (0 < w))) σ₂:=Al (Am (Aa (Ac R2.r1) (Aa rfl Ai)) u1) rfl rfl
 have hT:locals4.take (i+1)=locals4.take i++[l]:=by rw [List.take_add_one,hl];rfl
 have hk2:=X.x _ _ hkd hk
 have hla2:=X.x _ _ hne J.hla
 by_cases hw:0 < w
 ·have hval:Ev (k+1) (.ite (.cmp .Eq (.var 153) (.int 2)) (.cmp .Gt (.var 236) (.int 2)) (.ite (.cmp .Eq (.var 153) (.int 3)) (.tup [.var 236,(.cmp .Gt (.var 236) (.int 2))]) (.var 236))) (put 236 (.int v) (put 153 (.int l) ρ)) σ₂ (Nb l v) σ₂:=by
   unfold Nb
   by_cases h2:l=2
   ·rw [if_pos h2];exact Bl (Al (Ac q153) rfl rfl) (Il (beq_iff_eq.mpr h2)) (Al (Ac q236) rfl rfl)
   ·rw [if_neg h2]
    refine Bh (Al (Ac q153) rfl rfl) (Im (beq_eq_false_iff_ne.mpr h2)) ?_
    by_cases h3:l=3
    ·rw [if_pos h3];exact Bl (Al (Ac q153) rfl rfl) (Il (beq_iff_eq.mpr h3)) (Au (Aa (Ac q236) (Aa (Al (Ac q236) rfl rfl) Ai)))
    ·rw [if_neg h3];exact Bh (Al (Ac q153) rfl rfl) (Im (beq_eq_false_iff_ne.mpr h3)) (Ac q236)
  have hlen:kn.length < 1000000:=Nat.lt_of_le_of_lt (PN hS.nd hS.sub) (by rw [List.length_take];exact Nat.lt_of_le_of_lt (Nat.min_le_right _ _) (by decide))
  have nla:kd≠la:=BZ hk J.hla (by simp)
  exact ⟨_,σ₂.set kd (.dI (Br l (Nb l v) kn)),Ah e1 rfl (Bu e2 (Il (decide_eq_true hw)) (Fh hval (Ac R2.r2) (Ac q153) hk2 hlen rfl) rfl),R2,(S2.set X.s hkd _).s,AR hla2 nla,_,AQ hk2,hT▸hS.step (List.mem_of_getElem? hl) t2 t3⟩
 ·exact ⟨_,σ₂,Ah e1 rfl (Ak e2 (Im (decide_eq_false hw)) rfl),R2,X.s,hla2,kn,hk2,hT▸hS.more l⟩
end
section
structure LwI (kn:List (Int×AV)) (s kd:Nat) (ρ:At) (σ:St):Prop where
 r:LwR s kd ρ
 S:SrcAt σ s
 g:σ[kd]?=some (.dI kn)
theorem RP (k:Nat) {s kd:Nat} {ρ:At} {σ:St} (R:LwR s kd ρ) (S:SrcAt σ s) (hk:σ[kd]?=some (.dI [])) :
  ∃ kn ρ' σ',Cc (DD prog.gtup (AT prog (k+1)) JD) (.one 153) (.loc σ.length) AC 0 ρ (σ++[.list (locals4.map .int)])=some (.next,ρ',σ')∧KnOk kn∧kn.length≤4∧LwI kn s kd ρ' σ':=by
 have hne:σ.length≠s:=Ck (σ':=σ) S (Nat.le_refl _)
 have I0:KnI s kd σ.length 0 ρ (σ++[AO.list (locals4.map .int)]):=⟨R,(Sx.of (Ext.app1 _ _) S).s,Ad _ _,[],Af hk _,List.nodup_nil,fun k v h=>absurd h List.not_mem_nil,.inl rfl,.inl rfl,.inl rfl,.inl rfl⟩
 obtain ⟨ρ',σ',hloop,J⟩:=AP (l:=locals4.map .int) (body:=DD prog.gtup (AT prog (k+1)) JD) (t:=.one 153) (fun i ρ σ'=>KnI s kd σ.length i ρ σ') (fun i ρ σ' J=>Av J.hla i) (fun i x ρ σ' hx J=>by
  rw [List.getElem?_map] at hx
  obtain ⟨l,hl,rfl⟩:=Option.map_eq_some_iff.mp hx
  obtain ⟨ρ',σ'',h1,h2⟩:=RO k hne hl J
  exact ⟨_,ρ',σ'',rfl,h1,h2⟩) AC 0 ρ _ (by decide) (by decide) I0
 obtain ⟨kn,g,hS⟩:=J.g
 exact ⟨kn,ρ',σ',hloop,hS.ok,PN hS.nd hS.sub,J.r,J.S,g⟩
noncomputable def Js:List PS:=[
  .asg (.names [203,211,236,158]) (.call 55 [.var 212,.var 137]),
  .ifs (.not (.call 53 [.var 137,.var 203,.var 211,.var 236,.var 158])) [
   .ret (.bool false)] []]
theorem Rx (k:Nat) {kn:List (Int×AV)} (H:KnOk kn) (hn:kn.length≤4) {s kd:Nat} {x:AV} {ρ:At} {σ:St} (J:LwI kn s kd ρ σ):∃ ρ' σ',Xs (k+10) Js (put 228 x ρ) σ (.next,ρ',σ')∧LwI kn s kd ρ' σ':=by
 obtain ⟨r,σ₁,hr,c1,X1⟩:=JT H (k+6) J.S J.g
 have hkd:=BN J.S J.g
 have R0:=J.r.put (y:=228) (v:=x) rfl
 have g1:=X1.x _ _ hkd J.g
 obtain ⟨σ₂,c2,X2⟩:=CG H (Nat.le_trans hn (by decide)) k hr (fun _=>rfl) g1
 have X:=X1.ext X2
 have e1:Ev (k+10) (.call 55 [.var 212,.var 137]) (put 228 x ρ) σ (T1 kn r) σ₁:=Am (Aa (Ac R0.r1) (Aa (Ac R0.r2) Ai)) c1
 have R2:=(((R0.put (y:=203) (v:=G7 r) rfl).put (y:=211) (v:=.str (Ek (Ee r))) rfl).put (y:=236) (v:=Ii kn r) rfl).put (y:=158) (v:=LR kn r) rfl
 have e2:Ev (k+10) (.call 53 [.var 137,.var 203,.var 211,.var 236,.var 158]) (put 158 (LR kn r) (put 236 (Ii kn r) (put 211 (.str (Ek (Ee r))) (put 203 (G7 r) (put 228 x ρ))))) σ₁ (.bool true) σ₂:=
  Am (Aa (Ac R2.r2) (Aa (Ac (Ab (Ab (Ab (Aj _ _ _) rfl) rfl) rfl)) (Aa (Ac (Ab (Ab (Aj _ _ _) rfl) rfl)) (Aa (Ac (Ab (Aj _ _ _) rfl)) (Aa (Ac (Aj _ _ _)) Ai))))) c2
 exact ⟨_,σ₂,Ah e1 rfl (Ak (F4 e2 rfl) rfl rfl),R2,X.s,X.x _ _ hkd J.g⟩
theorem Ry (k:Nat) {kn:List (Int×AV)} (H:KnOk kn) (hn:kn.length≤4) {s kd:Nat} {ρ:At} {σ:St} (I0:LwI kn s kd ρ σ):∃ ρ' σ',Cc (DD prog.gtup (AT prog (k+10)) Js) (.one 228) (.range 3) AC 0 ρ σ=some (.next,ρ',σ')∧LwI kn s kd ρ' σ':=by
 obtain ⟨ρ',σ',hloop,J⟩:=AP (l:=(List.range 3).map fun j=>AV.int (j:Nat)) (body:=DD prog.gtup (AT prog (k+10)) Js) (t:=.one 228) (fun i ρ σ'=>LwI kn s kd ρ σ') (fun i ρ σ' J=>CD σ' 3 i) (fun i x ρ σ' hx J=>by
  obtain ⟨ρ',σ'',h1,h2⟩:=Rx k H hn (x:=x) J
  exact ⟨_,ρ',σ'',rfl,h1,h2⟩) AC 0 ρ σ (by decide) (Nat.zero_le _) I0
 exact ⟨ρ',σ',hloop,J⟩
theorem Qc {kn:List (Int×AV)} (H:KnOk kn) (k:Nat) {s kd:Nat} {ρ:At} {σ:St} (R:LwR s kd ρ) (S:SrcAt σ s) (hk:σ[kd]?=some (.dI kn)) :
  ∃ o σ',o.ok∧Ev (k+3) (.call 51 [.var 212,.var 137,(.call 50 [.var 212,(.list [.str 171,.str 227,.str 184])])]) ρ σ (BH kn o) σ'∧Sx s σ σ':=by
 have hkd:=BN S hk
 have X1:=Sx.of (Ext.app1 σ (.list [.str 171,.str 227,.str 184])) S
 obtain ⟨x,σ₂,hx,c2,X2⟩:=F9 (k+1) X1.s (Ad σ (.list [.str 171,.str 227,.str 184])) (by decide:0 < 3) (by decide:3 < 1000) (Ck (σ':=σ) S (Nat.le_refl _))
 obtain ⟨sr,rfl⟩:=OP hx
 have Y2:=X1.trans X2
 obtain ⟨o,σ₃,h1,_,c3,X3⟩:=Bt H k Y2.s (Y2.x _ _ hkd hk) sr
 exact ⟨o,σ₃,h1,Am (Aa (Ac R.r1) (Aa (Ac R.r2) (Aa (Am (Aa (Ac R.r1) (Aa (Ar rfl) Ai)) c2) Ai))) c3,Y2.trans X3⟩
theorem Sk {kn:List (Int×AV)} (H:KnOk kn) (k:Nat) {s kd:Nat} {ρ:At} {σ:St} (R:LwR s kd ρ) (S:SrcAt σ s) (hk:σ[kd]?=some (.dI kn)) :
  ∃ (ops:List Opd) (σ':St),(∀ o∈ops,o.ok)∧ops.length=2∧Ev (k+3) (.lcomp (.call 51 [.var 212,.var 137,(.call 50 [.var 212,(.list [.str 171,.str 227,.str 184])])]) (.one 228) (.blt .range [.int 2]) []) ρ σ (.loc σ'.length) (σ'++[.list (ops.map (BH kn))])∧Sx s σ σ':=by
 have hkd:=BN S hk
 obtain ⟨a,σ₁,h1,e1,X1⟩:=Qc H k (R.put (y:=228) (v:=.int 0) rfl) S hk
 obtain ⟨b,σ₂,h2,e2,X2⟩:=Qc H k (R.put (y:=228) (v:=.int 1) rfl) X1.s (X1.x _ _ hkd hk)
 refine ⟨[a,b],σ₂,fun o ho=>?_,rfl,BO (Bx rfl rfl) rfl (EX rfl (Bp rfl rfl e1) (EX rfl (Bp rfl rfl e2) (Qt rfl))),X1.trans X2⟩
 rcases List.mem_cons.mp ho with rfl | ho
 ·exact h1
 ·rw [List.mem_singleton.mp ho];exact h2
theorem Ss (k:Nat) {s kd:Nat} {ρ:At} {σ:St} (R:LwR s kd ρ) (S:SrcAt σ s):∃ g σ',Ev (k+2) (.call 50 [.var 212,(.list [(.tup [.int 1,.tup []]),(.tup [.int 2,.tup []]),(.tup [.int 3,(.tup [(.tup [.str 104,.int 0])])]),(.tup [.int 4,.tup []])])]) ρ σ (By g) σ'∧Sx s σ σ':=by
 have X1:=Sx.of (Ext.app1 σ (.list [By .n1,By .b2,By .p0,By .n4])) S
 obtain ⟨x,σ₂,hx,c2,X2⟩:=F9 k X1.s (Ad σ (.list [By .n1,By .b2,By .p0,By .n4])) (by decide:0 < 4) (by decide:4 < 1000) (Ck (σ':=σ) S (Nat.le_refl _))
 have hg:∃ g,x=By g:=by
  rcases List.mem_cons.mp hx with e | hx
  ·exact ⟨_,e⟩
  rcases List.mem_cons.mp hx with e | hx
  ·exact ⟨_,e⟩
  rcases List.mem_cons.mp hx with e | hx
  ·exact ⟨_,e⟩
  ·exact ⟨_,List.mem_singleton.mp hx⟩
 obtain ⟨g,rfl⟩:=hg
 exact ⟨g,σ₂,Am (Aa (Ac R.r1) (Aa (Ar rfl) Ai)) c2,X1.trans X2⟩
end
section
theorem d140:prog.defs (0,N3)=some f_law:=rfl
theorem Nf {v:Int} (h:0≤v):Gw (.int v)=some (some v.toNat):=if_pos h
theorem RM (k:Nat) {s kd:Nat} {ρ:At} {σ:St} (R:LwR s kd ρ) (S:SrcAt σ s):∃ σ',Xs (k+11) [.ret (.call 44 [(.call 54 [.var 212])])] ρ σ (.ret (.bool true),ρ,σ'):=by
 obtain ⟨ra,σ₁,rows,c1,X1,h1,h2⟩:=Mn (k+8) S
 obtain ⟨σ₂,c2,_⟩:=DL h2 (k+5) h1
 exact ⟨σ₂,Az (Am (Aa (Am (Aa (Ac R.r1) Ai) c1) Ai) c2)⟩
theorem Iu (k:Nat) {kn:List (Int×AV)} (H:KnOk kn) (hn:kn.length≤4) {s kd a:Nat} {o t:Opd} (ho:o.ok) (so:DR o=.number) (ht:t.ok) (st:DR t=.truth) {ops:List Opd} (hops:∀ o∈ops,o.ok) (hl:ops.length=2) {g:Plc} {v:Int} (v0:0≤v) {ρ:At} {σ:St} (J:LwI kn s kd ρ σ)
  (h:σ[a]?=some (.list (ops.map (BH kn)))) (r1:look 132 ρ=some (BH kn o)) (r2:look 227 ρ=some (BH kn t)) (r3:look 210 ρ=some (.loc a)) (r4:look 115 ρ=some (By g)) (r5:look 69 ρ=some (.int v)) :
  ∃ σ',Xs (k+11) [.ifs (.not (.call 46 [.var 137,(.slc (.call 45 [.var 132,.var 227,.var 210,.var 115]) (.var 69) (.bin .Add (.var 69) (.int 4)))])) [.ret (.bool false)] [],.ret (.call 44 [(.call 54 [.var 212])])] ρ σ (.ret (.bool true),ρ,σ'):=by
 obtain ⟨b,vs,σ₁,c1,x1,g1,hv,hE⟩:=Fz H (k+10) ho so ht st hops h (by rw [hl];decide) g
 have e1:Ev (k+11) (.call 45 [.var 132,.var 227,.var 210,.var 115]) ρ σ (.loc b) σ₁:=Am (Aa (Ac r1) (Aa (Ac r2) (Aa (Ac r3) (Aa (Ac r4) Ai)))) c1
 let m:Nat:=(v+4).toNat - v.toNat
 let ws:List AV:=(vs.drop v.toNat).take m
 have hw:ws.length≤8:=by rw [←hv];exact Nat.le_trans (List.length_take_le' _ _) (by rw [List.length_drop];exact Nat.sub_le _ _)
 have hs:LQ σ₁ (.loc b) (.int v) (.int (v+4))=some (.loc σ₁.length,σ₁++[.list ws]):=slc_list g1 (by rw [hv];decide) (Nf v0) (Nf (Int.add_nonneg v0 (by decide)))
 have x2:=Ext.app1 σ₁ (.list ws)
 obtain ⟨σ₃,c3,x3⟩:=Df H (Nat.lt_of_le_of_lt hn (by decide)) (k+5) (x2 _ _ (x1 _ _ J.g)) (Ad σ₁ (.list ws)) (Nat.lt_of_le_of_lt hw (by decide)) (((hE.drop v.toNat).take m).ext x2)
 have e2:Ev (k+11) (.call 46 [.var 137,(.slc (.call 45 [.var 132,.var 227,.var 210,.var 115]) (.var 69) (.bin .Add (.var 69) (.int 4)))]) ρ σ (.bool true) σ₃:=
  Am (Aa (Ac J.r.r2) (Aa (Tw e1 (Ac r5) (Bj (Ac r5) rfl rfl) hs) Ai)) c3
 obtain ⟨σ₄,h4⟩:=RM k J.r (Sx.of (x1.trans (x2.trans x3)) J.S).s
 exact ⟨σ₄,Ak (F4 e2 rfl) rfl h4⟩
noncomputable def Pt:List PS:=[
 .asg (.names [132,227]) (.tup [(.call 51 [.var 212,.var 137,.str 171]),(.call 51 [.var 212,.var 137,.str 227])]),
 .asg (.name 210) (.lcomp (.call 51 [.var 212,.var 137,(.call 50 [.var 212,(.list [.str 171,.str 227,.str 184])])]) (.one 228) (.blt .range [.int 2]) []),
 .asg (.names [115,69]) (.tup [(.call 50 [.var 212,(.list [(.tup [.int 1,.tup []]),(.tup [.int 2,.tup []]),(.tup [.int 3,(.tup [(.tup [.str 104,.int 0])])]),(.tup [.int 4,.tup []])])]),(.call 58 [.var 212,.int 5])]),
 .ifs (.not (.call 46 [.var 137,(.slc (.call 45 [.var 132,.var 227,.var 210,.var 115]) (.var 69) (.bin .Add (.var 69) (.int 4)))])) [
  .ret (.bool false)] [],
 .ret (.call 44 [(.call 54 [.var 212])])]
theorem PJ (k:Nat) {kn:List (Int×AV)} (H:KnOk kn) (hn:kn.length≤4) {s kd:Nat} {ρ:At} {σ:St} (J:LwI kn s kd ρ σ):∃ ρ' σ',Xs (k+11) Pt ρ σ (.ret (.bool true),ρ',σ'):=by
 have hkd:=BN J.S J.g
 obtain ⟨o,σ₁,h1,s1,c1,X1⟩:=Bt H (k+8) J.S J.g .number
 obtain ⟨t,σ₂,h2,s2,c2,X2⟩:=Bt H (k+8) X1.s (X1.x _ _ hkd J.g) .truth
 have Y2:=X1.trans X2
 have e1:Ev (k+11) (.tup [(.call 51 [.var 212,.var 137,.str 171]),(.call 51 [.var 212,.var 137,.str 227])]) ρ σ (.tup [BH kn o,BH kn t]) σ₂:=
  Au (Aa (Am (Aa (Ac J.r.r1) (Aa (Ac J.r.r2) (Aa rfl Ai))) c1) (Aa (Am (Aa (Ac J.r.r1) (Aa (Ac J.r.r2) (Aa rfl Ai))) c2) Ai))
 have R2:=(J.r.put (y:=132) (v:=BH kn o) rfl).put (y:=227) (v:=BH kn t) rfl
 obtain ⟨ops,σ₃,h3,l3,e3,X3⟩:=Sk H (k+8) R2 Y2.s (Y2.x _ _ hkd J.g)
 have Y3:=(Y2.trans X3).ext (Ext.app1 σ₃ (.list (ops.map (BH kn))))
 have gl:=Ad σ₃ (.list (ops.map (BH kn)))
 have hne:σ₃.length≠s:=Ck (σ':=σ₃) (Y2.trans X3).s (Nat.le_refl _)
 have R3:=R2.put (y:=210) (v:=.loc σ₃.length) rfl
 obtain ⟨g,σ₄,e4,X4⟩:=Ss (k+9) R3 Y3.s
 obtain ⟨v,σ₅,c5,v0,_,X5⟩:=Ct (k+10) X4.s (top:=5) (by decide) (by decide)
 have e5:Ev (k+11) (.tup [(.call 50 [.var 212,(.list [(.tup [.int 1,.tup []]),(.tup [.int 2,.tup []]),(.tup [.int 3,(.tup [(.tup [.str 104,.int 0])])]),(.tup [.int 4,.tup []])])]),(.call 58 [.var 212,.int 5])]) _ _ (.tup [By g,.int v]) σ₅:=
  Au (Aa e4 (Aa (Am (Aa (Ac R3.r1) (Aa rfl Ai)) c5) Ai))
 have X45:=X4.trans X5
 have Y5:=Y3.trans X45
 have R5:=(R3.put (y:=115) (v:=By g) rfl).put (y:=69) (v:=.int v) rfl
 obtain ⟨σ₆,h6⟩:=Iu k H hn h1 s1 h2 s2 h3 l3 (g:=g) v0 (a:=σ₃.length) ⟨R5,Y5.s,Y5.x _ _ hkd J.g⟩ (X45.x _ _ hne gl)
  (Ab (Ab (Ab (Ab (Aj _ _ _) rfl) rfl) rfl) rfl) (Ab (Ab (Ab (Aj _ _ _) rfl) rfl) rfl) (Ab (Ab (Aj _ _ _) rfl) rfl) (Ab (Aj _ _ _) rfl) (Aj _ _ _)
 exact ⟨_,σ₆,Ah e1 rfl (Ah e3 rfl (Ah e5 rfl h6))⟩
theorem law_run_true (k:Nat) {ns:List Int} (hn:ns.length≤63):∃ σ',Ca (k+12) (0,N3) [.glist ns] [] (.bool true) σ':=by
 obtain ⟨σ₁,c1,x1⟩:=HJ k []
 obtain ⟨σ₂,c2,x2,S2⟩:=Mo (k+10) σ₁ hn
 have R:LwR σ₁.length σ₂.length [(204,.glist ns),(212,.loc σ₁.length),(137,.loc σ₂.length)]:=⟨rfl,rfl⟩
 have S3:=(Sx.of (Ext.app1 σ₂ (.dI [])) S2).s
 have e2:Ev (k+11) (.tup [(.call 52 [.var 204]),.dict []]) [(204,.glist ns)] σ₁ (.tup [.loc σ₁.length,.loc σ₂.length]) (σ₂++[.dI []]):=Au (Aa (Am (Aa rfl Ai) c2) (Aa (Bw Ai rfl) Ai))
 have hX:∃ ρ' σ',Xs (k+11) f_law.body [(204,.glist ns)] [] (.ret (.bool true),ρ',σ'):=by
  have key:∃ ρ' σ',Xs (k+11) (.fors (.one 153) (.list [.int 1,.int 2,.int 3,.int 4]) JD::.fors (.one 228) (.blt .range [.int 3]) Js::Pt) [(204,.glist ns),(212,.loc σ₁.length),(137,.loc σ₂.length)] (σ₂++[AO.dI []]) (.ret (.bool true),ρ',σ'):=by
   obtain ⟨kn,ρ₁,σ₃,l1,H,hl,J⟩:=RP (k+10) R S3 (Ad σ₂ (.dI []))
   obtain ⟨ρ₂,σ₄,l2,J2⟩:=Ry (k+1) H hl J
   obtain ⟨ρ₃,σ₅,l3⟩:=PJ k H hl J2
   exact ⟨ρ₃,σ₅,A6 (Ar rfl) l1 (A6 (Bx rfl rfl) l2 l3)⟩
  obtain ⟨ρ',σ',h⟩:=key
  exact ⟨ρ',σ',Ak (F4 (Am Ai c1) rfl) rfl (Ah e2 rfl h)⟩
 obtain ⟨ρ',σ',h⟩:=hX
 exact ⟨σ',An (Ag rfl) d140 rfl h⟩
end
end B
end Mine
section
open PySem PySem.W PyProof.Rows PySem.Calls
namespace Mine
namespace hdt
noncomputable def tw1004318993889547843:=0
noncomputable def tw10045817681046751561:=0
noncomputable def tw10045838353694330659:=0
noncomputable def tw10121534522101891385:=0
noncomputable def tw10132384418769336875:=0
noncomputable def tw10161340113697902502:=0
noncomputable def tw10168924400818237153:=0
noncomputable def tw10191141000921640336:=0
noncomputable def tw10223272019891437110:=0
noncomputable def tw10272326432249758858:=0
noncomputable def tw10322846668704826147:=0
noncomputable def tw1043976341553233037:=0
noncomputable def tw10451763672035995216:=0
noncomputable def tw10519775449183423229:=0
noncomputable def tw10558646832623921952:=0
noncomputable def tw1060104039840123639:=0
noncomputable def tw10605266463223437570:=0
noncomputable def tw10721970680997548552:=0
noncomputable def tw10722320416828037261:=0
noncomputable def tw10724957787268442298:=0
noncomputable def tw10730076744959737489:=0
noncomputable def tw10734239499518480627:=0
noncomputable def tw10746322550495500456:=0
noncomputable def tw10779755712884504168:=0
noncomputable def tw10918212882952324757:=0
noncomputable def tw10918770033447413057:=0
noncomputable def tw10937352210460954147:=0
noncomputable def tw11018699255312261801:=0
noncomputable def tw11023275715522127303:=0
noncomputable def tw11041652292898895256:=0
noncomputable def tw11066660324238032397:=0
noncomputable def tw11103016900260586316:=0
noncomputable def tw11110519815251578610:=0
noncomputable def tw11124016063625412727:=0
noncomputable def tw11129602302402005010:=0
noncomputable def tw11173211501454554888:=0
noncomputable def tw11183039565758762462:=0
noncomputable def tw11201337906993094947:=0
noncomputable def tw11241714576191161115:=0
noncomputable def tw11247954344232850669:=0
noncomputable def tw11249136418302122987:=0
noncomputable def tw11257246569966162185:=0
noncomputable def tw11340146952879021535:=0
noncomputable def tw11358700553353548579:=0
noncomputable def tw11366286719788009551:=0
noncomputable def tw11371199557885077231:=0
noncomputable def tw11439959099483759285:=0
noncomputable def tw11491356850996594406:=0
noncomputable def tw11498224921122875979:=0
noncomputable def tw11547482554431396683:=0
noncomputable def tw11593044374331534771:=0
noncomputable def tw11654825610908316931:=0
noncomputable def tw11788910223704947019:=0
noncomputable def tw11796176712140301183:=0
noncomputable def tw1182334230318344294:=0
noncomputable def tw11827383418941531108:=0
noncomputable def tw11831464556267721772:=0
noncomputable def tw1188065340681781802:=0
noncomputable def tw11881842144005637424:=0
noncomputable def tw11896107975634684445:=0
noncomputable def tw11960626949437419885:=0
noncomputable def tw12127754940995930687:=0
noncomputable def tw12151401278980445566:=0
noncomputable def tw12194924119633248303:=0
noncomputable def tw12226973275457248685:=0
noncomputable def tw12249393790159553007:=0
noncomputable def tw12254577318200475557:=0
noncomputable def tw12272303267912196801:=0
noncomputable def tw1233715623494426535:=0
noncomputable def tw12347592399009768686:=0
noncomputable def tw12359307418860959932:=0
noncomputable def tw12368625079834351489:=0
noncomputable def tw12391008091579174498:=0
noncomputable def tw12400595211847989738:=0
noncomputable def tw1241847380581609382:=0
noncomputable def tw1242198224935593993:=0
noncomputable def tw12424553892529604592:=0
noncomputable def tw12436083778578836207:=0
noncomputable def tw12477135730679627810:=0
noncomputable def tw12498726384280113832:=0
noncomputable def tw12501219913586107120:=0
noncomputable def tw1252678278347290380:=0
noncomputable def tw12566353870880087317:=0
noncomputable def tw12587775322923500046:=0
noncomputable def tw12620107154192817859:=0
noncomputable def tw12652454664841260344:=0
noncomputable def tw1266241587346979101:=0
noncomputable def tw12664728790179271978:=0
noncomputable def tw1266894947162051923:=0
noncomputable def tw12674248969969137675:=0
noncomputable def tw12676645584317708845:=0
noncomputable def tw12692553763049283433:=0
noncomputable def tw12715462322536335014:=0
noncomputable def tw12733713402875723797:=0
noncomputable def tw12842886783143826185:=0
noncomputable def tw12849853756682483176:=0
noncomputable def tw12861088549253066951:=0
noncomputable def tw12900107439640850556:=0
noncomputable def tw12920780401000027409:=0
noncomputable def tw12926172207339792353:=0
noncomputable def tw12981424275667901915:=0
noncomputable def tw13005359220616883869:=0
noncomputable def tw13009787184653423585:=0
noncomputable def tw13026908840444892183:=0
noncomputable def tw13052337155274520940:=0
noncomputable def tw13092219786025285634:=0
noncomputable def tw13153235124469915400:=0
noncomputable def tw13170198424636835856:=0
noncomputable def tw13200968790681193602:=0
noncomputable def tw13203072154628739393:=0
noncomputable def tw1332244587579437378:=0
noncomputable def tw1340040786421638910:=0
noncomputable def tw13409493623488718786:=0
noncomputable def tw13410087497340920445:=0
noncomputable def tw13431185827344377743:=0
noncomputable def tw13503128998251657188:=0
noncomputable def tw13509145828565543899:=0
noncomputable def tw13514021954281316163:=0
noncomputable def tw13521426066972326386:=0
noncomputable def tw13540495163561829234:=0
noncomputable def tw13585045478038767066:=0
noncomputable def tw13590010357540430553:=0
noncomputable def tw13628301587863927421:=0
noncomputable def tw13641530986366651781:=0
noncomputable def tw13719068523771309039:=0
noncomputable def tw13736411059995233358:=0
noncomputable def tw13745217460907866556:=0
noncomputable def tw13762106482081821142:=0
noncomputable def tw13783591439554874915:=0
noncomputable def tw13809362063988882403:=0
noncomputable def tw13810537356931848569:=0
noncomputable def tw13811821525608821520:=0
noncomputable def tw13843278018771657876:=0
noncomputable def tw13856020373752604176:=0
noncomputable def tw13870975064485003261:=0
noncomputable def tw1392483063241491965:=0
noncomputable def tw14011190980662403918:=0
noncomputable def tw14026926826805830680:=0
noncomputable def tw14040486744415393641:=0
noncomputable def tw14123653032507675307:=0
noncomputable def tw14168787215417752946:=0
noncomputable def tw14169150685390581207:=0
noncomputable def tw14223431271503483149:=0
noncomputable def tw14238678365805399146:=0
noncomputable def tw14246237437507294269:=0
noncomputable def tw1427486345872238658:=0
noncomputable def tw14297492385248190764:=0
noncomputable def tw14368388335983427487:=0
noncomputable def tw14376068785085762854:=0
noncomputable def tw14391663236936452395:=0
noncomputable def tw14396212805911958167:=0
noncomputable def tw14408898307650532576:=0
noncomputable def tw14417620472542428303:=0
noncomputable def tw14507150666377993442:=0
noncomputable def tw1452706913319262786:=0
noncomputable def tw14531817694371012799:=0
noncomputable def tw14547428867581972282:=0
noncomputable def tw14559647763475898706:=0
noncomputable def tw1470524933217135067:=0
noncomputable def tw14709088703150687941:=0
noncomputable def tw147215485156628336:=0
noncomputable def tw14725458796926369606:=0
noncomputable def tw14730645795136084233:=0
noncomputable def tw14733507967827257024:=0
noncomputable def tw14754793883325633324:=0
noncomputable def tw14758892391256388677:=0
noncomputable def tw14774945908914511116:=0
noncomputable def tw14775018690572565127:=0
noncomputable def tw14792095335136078542:=0
noncomputable def tw14798945923729711191:=0
noncomputable def tw14810335238785569838:=0
noncomputable def tw14852787467227488271:=0
noncomputable def tw1487347815606089972:=0
noncomputable def tw14929157558347334512:=0
noncomputable def tw14970235489317205938:=0
noncomputable def tw14971673641575495585:=0
noncomputable def tw14983021061323039065:=0
noncomputable def tw14990256341793523017:=0
noncomputable def tw15001845736345705259:=0
noncomputable def tw1500930663237138583:=0
noncomputable def tw1502296355365072878:=0
noncomputable def tw15023214739639993115:=0
noncomputable def tw15025127016867216397:=0
noncomputable def tw15057014319204489011:=0
noncomputable def tw15089296793601894028:=0
noncomputable def tw15101729067708468930:=0
noncomputable def tw15101840664224154499:=0
noncomputable def tw15106672725436134194:=0
noncomputable def tw15114111739479173586:=0
noncomputable def tw15118166400320611094:=0
noncomputable def tw15127593101904820222:=0
noncomputable def tw15168247305275138715:=0
noncomputable def tw15185721521811419800:=0
noncomputable def tw15192159219820393470:=0
noncomputable def tw15208017402530166598:=0
noncomputable def tw15280505833699786577:=0
noncomputable def tw15291619573413790148:=0
noncomputable def tw15292288372223732575:=0
noncomputable def tw15315628801682730461:=0
noncomputable def tw1533184810354592712:=0
noncomputable def tw15336112568410422076:=0
noncomputable def tw15342476243393260122:=0
noncomputable def tw15346477444051545866:=0
noncomputable def tw15378655031248674312:=0
noncomputable def tw15401541278931393893:=0
noncomputable def tw1540506236946359380:=0
noncomputable def tw15417441188229647438:=0
noncomputable def tw15438227751765578325:=0
noncomputable def tw15478419263155205638:=0
noncomputable def tw15513883048201685909:=0
noncomputable def tw15588730085593630490:=0
noncomputable def tw15618592665930958470:=0
noncomputable def tw15621227117590515146:=0
noncomputable def tw15635202755741999239:=0
noncomputable def tw15640326556340931485:=0
noncomputable def tw15691798293652761809:=0
noncomputable def tw15693983657704514361:=0
noncomputable def tw15697072123965442992:=0
noncomputable def tw15709633700584899673:=0
noncomputable def tw15715671728418198758:=0
noncomputable def tw1576947117417884249:=0
noncomputable def tw1581423198554390704:=0
noncomputable def tw15835980494897997703:=0
noncomputable def tw15842524110021388585:=0
noncomputable def tw15927065722449096752:=0
noncomputable def tw15927404676867433974:=0
noncomputable def tw15935774782544823793:=0
noncomputable def tw16003045031761296067:=0
noncomputable def tw16043692395111818890:=0
noncomputable def tw1610867068657327679:=0
noncomputable def tw16117400202631264545:=0
noncomputable def tw16148661994200442615:=0
noncomputable def tw16154783456655698977:=0
noncomputable def tw16205333142631702662:=0
noncomputable def tw16225296491141715192:=0
noncomputable def tw16226241867126235845:=0
noncomputable def tw16264253449984496327:=0
noncomputable def tw16330177238612071479:=0
noncomputable def tw16337299551932284833:=0
noncomputable def tw16380693114977265462:=0
noncomputable def tw16402751115946149351:=0
noncomputable def tw16411082485398577684:=0
noncomputable def tw16415668937994828449:=0
noncomputable def tw16425553542525476770:=0
noncomputable def tw16446738550905723065:=0
noncomputable def tw16582803879069773394:=0
noncomputable def tw16630658271766550016:=0
noncomputable def tw16681187237254700273:=0
noncomputable def tw16715431482971726604:=0
noncomputable def tw16733405112845496525:=0
noncomputable def tw16780769997561888148:=0
noncomputable def tw1684152240589328735:=0
noncomputable def tw16846830637228161174:=0
noncomputable def tw16867570670233133157:=0
noncomputable def tw16869335670690636032:=0
noncomputable def tw16909854263536704928:=0
noncomputable def tw16912420951489822959:=0
noncomputable def tw16919513021888728888:=0
noncomputable def tw16932604483554909043:=0
noncomputable def tw16959228027770897626:=0
noncomputable def tw16997139767065457486:=0
noncomputable def tw17014679215597119734:=0
noncomputable def tw17026811440855088173:=0
noncomputable def tw17048989524434483274:=0
noncomputable def tw17073949295363859569:=0
noncomputable def tw17126416463513067639:=0
noncomputable def tw17150247017325261930:=0
noncomputable def tw17158167497731421526:=0
noncomputable def tw17158697065377433392:=0
noncomputable def tw17172488054437885417:=0
noncomputable def tw17207900826196803989:=0
noncomputable def tw1721538856989247482:=0
noncomputable def tw17224787879303714688:=0
noncomputable def tw17276210079022340724:=0
noncomputable def tw17362171937341693130:=0
noncomputable def tw17446396023914894523:=0
noncomputable def tw17452317899356985457:=0
noncomputable def tw17466094040675868413:=0
noncomputable def tw17492096252389791012:=0
noncomputable def tw17516239004466502276:=0
noncomputable def tw17523341569925065242:=0
noncomputable def tw1753225999374978000:=0
noncomputable def tw17587072144296189697:=0
noncomputable def tw17607589276721756044:=0
noncomputable def tw17616381460268313517:=0
noncomputable def tw17617232445410097550:=0
noncomputable def tw17658139949895264935:=0
noncomputable def tw17662457598363590933:=0
noncomputable def tw17669702566704884829:=0
noncomputable def tw17693941159677038821:=0
noncomputable def tw17761856902435710805:=0
noncomputable def tw17806191473233053122:=0
noncomputable def tw17874453368737149459:=0
noncomputable def tw17877140402038898030:=0
noncomputable def tw17880621454357061066:=0
noncomputable def tw17887384237109479117:=0
noncomputable def tw17900566919355076800:=0
noncomputable def tw17926219666801316728:=0
noncomputable def tw17932163848615652808:=0
noncomputable def tw17953049671932259932:=0
noncomputable def tw1796071491244052131:=0
noncomputable def tw17976029788348041643:=0
noncomputable def tw17978763228049858409:=0
noncomputable def tw18005498095058480058:=0
noncomputable def tw180347878682105998:=0
noncomputable def tw18045995654092982842:=0
noncomputable def tw18046715305428777359:=0
noncomputable def tw18047807851215798967:=0
noncomputable def tw18058366372622724006:=0
noncomputable def tw18098408847994698404:=0
noncomputable def tw18109309004853254131:=0
noncomputable def tw18239476410449360559:=0
noncomputable def tw18243683899736469358:=0
noncomputable def tw18247484244024441196:=0
noncomputable def tw18306444107279958301:=0
noncomputable def tw18332164549655796394:=0
noncomputable def tw18344324087116267445:=0
noncomputable def tw1839681294659969856:=0
noncomputable def tw18399535951259137286:=0
noncomputable def tw18412034976592031124:=0
noncomputable def tw1841327683707701777:=0
noncomputable def tw18422490085510463867:=0
noncomputable def tw1866394104613389727:=0
noncomputable def tw1895688742795484308:=0
noncomputable def tw1935619439900265409:=0
noncomputable def tw1960347376810573461:=0
noncomputable def tw1967467690813159602:=0
noncomputable def tw197099685509454657:=0
noncomputable def tw201304554142839650:=0
noncomputable def tw2023740128000229346:=0
noncomputable def tw2041234896405219875:=0
noncomputable def tw2046341123431770933:=0
noncomputable def tw207998815832056721:=0
noncomputable def tw2097859667900069319:=0
noncomputable def tw2108729015335514408:=0
noncomputable def tw2173446479924390606:=0
noncomputable def tw2176700625286334033:=0
noncomputable def tw220162123379504816:=0
noncomputable def tw2217421676428926733:=0
noncomputable def tw2249302506365438248:=0
noncomputable def tw2256706993110781399:=0
noncomputable def tw229123241756187279:=0
noncomputable def tw2292391489721825810:=0
noncomputable def tw2321035891202813420:=0
noncomputable def tw2321108782168903240:=0
noncomputable def tw2322205416201484186:=0
noncomputable def tw2351292446667747373:=0
noncomputable def tw2371027641512595149:=0
noncomputable def tw2396923989693255704:=0
noncomputable def tw241765914816732381:=0
noncomputable def tw2493952054214503446:=0
noncomputable def tw2503801630733369885:=0
noncomputable def tw2505929560394549780:=0
noncomputable def tw250890148306906725:=0
noncomputable def tw2519825649286622959:=0
noncomputable def tw2542964615930108436:=0
noncomputable def tw2585648437391059824:=0
noncomputable def tw260606643520988758:=0
noncomputable def tw2623256440278337749:=0
noncomputable def tw2664914127406093261:=0
noncomputable def tw267287517033937562:=0
noncomputable def tw2695788216074269551:=0
noncomputable def tw2699572890159094764:=0
noncomputable def tw2760970227958656232:=0
noncomputable def tw2762516651206476857:=0
noncomputable def tw2783097456395215920:=0
noncomputable def tw2789530542297319870:=0
noncomputable def tw2931441986335334570:=0
noncomputable def tw2944978958861517532:=0
noncomputable def tw2992852549368399297:=0
noncomputable def tw305157909897330632:=0
noncomputable def tw3108467713312797624:=0
noncomputable def tw3125876678272674994:=0
noncomputable def tw3145538263539630097:=0
noncomputable def tw3151291549269583682:=0
noncomputable def tw3194295176282216540:=0
noncomputable def tw3256469283660071988:=0
noncomputable def tw3274388537087419187:=0
noncomputable def tw3277716463396537369:=0
noncomputable def tw3322077566916037614:=0
noncomputable def tw3338647873739033658:=0
noncomputable def tw3343671220882660715:=0
noncomputable def tw3348484748405554414:=0
noncomputable def tw3355914833165501739:=0
noncomputable def tw3368551773541438794:=0
noncomputable def tw3415940393934524352:=0
noncomputable def tw34228994030504941:=0
noncomputable def tw3430596932520558010:=0
noncomputable def tw3502986553021903297:=0
noncomputable def tw3524260361491893325:=0
noncomputable def tw3542210438252739439:=0
noncomputable def tw3550164798806531697:=0
noncomputable def tw3585900356722697838:=0
noncomputable def tw3616010948130561620:=0
noncomputable def tw3643209794141075674:=0
noncomputable def tw3662707765424024521:=0
noncomputable def tw371363869834779059:=0
noncomputable def tw3763190386241273724:=0
noncomputable def tw3782544844372911091:=0
noncomputable def tw3899015496845222209:=0
noncomputable def tw3956596335860756011:=0
noncomputable def tw4017990960007664976:=0
noncomputable def tw4030236075379764393:=0
noncomputable def tw4036151924077002484:=0
noncomputable def tw4045842763501079984:=0
noncomputable def tw4065362967742465184:=0
noncomputable def tw4122809455765410431:=0
noncomputable def tw412625543088452291:=0
noncomputable def tw4170442634074658923:=0
noncomputable def tw419369888708274101:=0
noncomputable def tw4214574975730971641:=0
noncomputable def tw422765615090639486:=0
noncomputable def tw4232522363724161351:=0
noncomputable def tw4233145376465344645:=0
noncomputable def tw4246685973434596772:=0
noncomputable def tw4279852157348637676:=0
noncomputable def tw4362094405463772125:=0
noncomputable def tw4367269142121399261:=0
noncomputable def tw4384913157077982299:=0
noncomputable def tw4400680244421569908:=0
noncomputable def tw4414757183381062139:=0
noncomputable def tw443621652758140529:=0
noncomputable def tw4453587873744335306:=0
noncomputable def tw455599194669293307:=0
noncomputable def tw4566579179318193115:=0
noncomputable def tw4590813756928144943:=0
noncomputable def tw4600488940789615956:=0
noncomputable def tw4640148145229746227:=0
noncomputable def tw4660974938933155959:=0
noncomputable def tw4700431074375764115:=0
noncomputable def tw471034971216947444:=0
noncomputable def tw4796581146074434489:=0
noncomputable def tw4812664357726881360:=0
noncomputable def tw4819563109920655688:=0
noncomputable def tw4833593672605760573:=0
noncomputable def tw4845062083919229188:=0
noncomputable def tw4855459858339973923:=0
noncomputable def tw4872112672076010403:=0
noncomputable def tw4885607968054769916:=0
noncomputable def tw490409550682064798:=0
noncomputable def tw4919792776045950196:=0
noncomputable def tw4921523317784283786:=0
noncomputable def tw4927112468709823835:=0
noncomputable def tw4938986753091596158:=0
noncomputable def tw4946888743798332171:=0
noncomputable def tw4971446940467340449:=0
noncomputable def tw499437255585707080:=0
noncomputable def tw5016079005056838545:=0
noncomputable def tw5027806087443608838:=0
noncomputable def tw5083916470626308961:=0
noncomputable def tw5094670988864052284:=0
noncomputable def tw5108218234624016313:=0
noncomputable def tw5164090966840988165:=0
noncomputable def tw5201569101553960891:=0
noncomputable def tw5205594419401871689:=0
noncomputable def tw5224726934214630333:=0
noncomputable def tw5229870491455883932:=0
noncomputable def tw5257806859103782728:=0
noncomputable def tw5260581807049231300:=0
noncomputable def tw5264169547527443216:=0
noncomputable def tw5275385865252278960:=0
noncomputable def tw5304172371275796546:=0
noncomputable def tw5311740516911151877:=0
noncomputable def tw5333190067260823364:=0
noncomputable def tw5359721544810153743:=0
noncomputable def tw5361861827396915973:=0
noncomputable def tw5427079956146287538:=0
noncomputable def tw5474604873642718293:=0
noncomputable def tw5490429362115179628:=0
noncomputable def tw5525298103567357173:=0
noncomputable def tw554288275363218787:=0
noncomputable def tw5542981556927189567:=0
noncomputable def tw556652296897640617:=0
noncomputable def tw5623790562149686328:=0
noncomputable def tw5661221552368839488:=0
noncomputable def tw5666046613212657941:=0
noncomputable def tw5676730426121624431:=0
noncomputable def tw5693553248585049858:=0
noncomputable def tw5706433497439952791:=0
noncomputable def tw5780955736310080566:=0
noncomputable def tw5791341758842269275:=0
noncomputable def tw5843773485397267947:=0
noncomputable def tw5868781042989119080:=0
noncomputable def tw5945749499115318701:=0
noncomputable def tw595606034257336879:=0
noncomputable def tw596017695828767948:=0
noncomputable def tw605175496154820865:=0
noncomputable def tw6080547598145818198:=0
noncomputable def tw6129658574170130437:=0
noncomputable def tw6131970644072037523:=0
noncomputable def tw6148977660858139868:=0
noncomputable def tw6186562563714515066:=0
noncomputable def tw6201329833749173648:=0
noncomputable def tw6213472512363493252:=0
noncomputable def tw6221865279929460135:=0
noncomputable def tw6259992087831232023:=0
noncomputable def tw6267827464360346717:=0
noncomputable def tw6334260653638644566:=0
noncomputable def tw6421520657916885490:=0
noncomputable def tw6488570591211626095:=0
noncomputable def tw6526893376241596343:=0
noncomputable def tw6589976557221091293:=0
noncomputable def tw6602788716289469749:=0
noncomputable def tw661489888577050465:=0
noncomputable def tw6631690042164297302:=0
noncomputable def tw6646050394018949433:=0
noncomputable def tw6719368915518310145:=0
noncomputable def tw6735812691530943235:=0
noncomputable def tw6768283104620507441:=0
noncomputable def tw685228399463357883:=0
noncomputable def tw6887301270381144657:=0
noncomputable def tw691016588430280004:=0
noncomputable def tw6960094246764544463:=0
noncomputable def tw6966037332533787957:=0
noncomputable def tw6997438969541088028:=0
noncomputable def tw7052266047974777203:=0
noncomputable def tw7076257198086498158:=0
noncomputable def tw7076819437634466445:=0
noncomputable def tw713105881310012446:=0
noncomputable def tw7159597566379465280:=0
noncomputable def tw7199795328196519810:=0
noncomputable def tw7231885264523170288:=0
noncomputable def tw724354126890294235:=0
noncomputable def tw7249289706898895196:=0
noncomputable def tw73099833642386783:=0
noncomputable def tw7311223268958487422:=0
noncomputable def tw736693120237010954:=0
noncomputable def tw7380292800293469847:=0
noncomputable def tw7413507549719118332:=0
noncomputable def tw7415580359356477112:=0
noncomputable def tw7430341560079404917:=0
noncomputable def tw7474732739285940119:=0
noncomputable def tw7573486879151706798:=0
noncomputable def tw7579288706813213954:=0
noncomputable def tw7609507244453860175:=0
noncomputable def tw7627950976691239694:=0
noncomputable def tw7658413771476660330:=0
noncomputable def tw7664783628446000748:=0
noncomputable def tw7739139483940963414:=0
noncomputable def tw774257081879902949:=0
noncomputable def tw7890535261721610939:=0
noncomputable def tw7944265231755455380:=0
noncomputable def tw7962448336688207445:=0
noncomputable def tw7963383875143443775:=0
noncomputable def tw7964425371048484841:=0
noncomputable def tw8004171756673899134:=0
noncomputable def tw8072363757168296978:=0
noncomputable def tw8093930294547183360:=0
noncomputable def tw8117847380146684066:=0
noncomputable def tw8120455659003855646:=0
noncomputable def tw8129381416614052288:=0
noncomputable def tw815139786151167310:=0
noncomputable def tw8172357345088777702:=0
noncomputable def tw8181545459868691828:=0
noncomputable def tw8239011419326963098:=0
noncomputable def tw8322776611512535221:=0
noncomputable def tw8344851943138046002:=0
noncomputable def tw8375348962879963839:=0
noncomputable def tw8422914560970218089:=0
noncomputable def tw8436322583501893700:=0
noncomputable def tw8457350052726468843:=0
noncomputable def tw847147824179943949:=0
noncomputable def tw8518426139082293976:=0
noncomputable def tw8547617858624372127:=0
noncomputable def tw8548186755430648995:=0
noncomputable def tw8558172187100100590:=0
noncomputable def tw8581540014190612464:=0
noncomputable def tw8584755550571658190:=0
noncomputable def tw8620413943808774357:=0
noncomputable def tw8649629927580445312:=0
noncomputable def tw8659772872172154970:=0
noncomputable def tw8731816933506304791:=0
noncomputable def tw8735794780864527113:=0
noncomputable def tw8738041960660924313:=0
noncomputable def tw8741993924136317911:=0
noncomputable def tw8783907501043894982:=0
noncomputable def tw8792189849339016738:=0
noncomputable def tw8870217235230307278:=0
noncomputable def tw8931727100322199268:=0
noncomputable def tw8984201064092694237:=0
noncomputable def tw8991225758959579416:=0
noncomputable def tw8999085383059022184:=0
noncomputable def tw9003307223967645557:=0
noncomputable def tw9025345692558884441:=0
noncomputable def tw9111539613547090683:=0
noncomputable def tw9135442850860447295:=0
noncomputable def tw9177469335365624754:=0
noncomputable def tw9250007604573523340:=0
noncomputable def tw9259230268018376623:=0
noncomputable def tw9286628879428226710:=0
noncomputable def tw9371520563397342695:=0
noncomputable def tw9431127643267788542:=0
noncomputable def tw9443056977742500435:=0
noncomputable def tw9600055600371751649:=0
noncomputable def tw9600623123165744019:=0
noncomputable def tw9611114708800518177:=0
noncomputable def tw9628197230346324475:=0
noncomputable def tw9629443753293490001:=0
noncomputable def tw9679426704129607791:=0
noncomputable def tw9776290259373059258:=0
noncomputable def tw9807288602939173792:=0
noncomputable def tw980790314388836741:=0
noncomputable def tw984682297892999715:=0
noncomputable def tw9882023385888564159:=0
noncomputable def tw9952857431153567578:=0
noncomputable def tw9955117531112845717:=0
end hdt
end Mine
end
section
set_option maxRecDepth 100000
set_option maxHeartbeats 8000000
open PySem PySem.W PyProof.Rows PySem.Calls
namespace Mine
theorem RN:∀ ns:List Int,ns.length≤63→∃ σ',AT prog 150 (0,N3) [.glist ns] []=some (.bool true,σ'):=fun ns h=>B.law_run_true 138 h
theorem hdt:PySem.Challenge.rw_xw0173_01.Holds:=by
 w_on;o_law;k_head;(case hw=>w_witness2)
 have chk_defs:∀ P:Params,(defsL.map fun kd=>P8 (hdt.heap_1_39 P) (Qn (hdt.heap_1_39 P) kd.1))=defsL.map fun kd=>some kd.2:=fun P=>by kernel_rfl
 have chk_flags:∀ P:Params,(defsL.all fun kd=>M6 (hdt.heap_1_39 P) kd.1)=true:=fun P=>by kernel_rfl
 have chk_cls:∀ P:Params,([18,19,20,21].all fun c=>QA (hdt.heap_1_39 P) c)=true:=fun P=>by kernel_rfl
 have chk_attr:∀ P:Params,([18,19,20,21].all fun c=>[167,64,154,77,214,137,78,110,73,182].all fun f=>Nr (hdt.heap_1_39 P) c f)=true:=fun P=>by kernel_rfl
 have chk_bi:∀ P:Params,([7,8,9,10,11,12].all fun n=>TD (hdt.heap_1_39 P) n)=true:=fun P=>by kernel_rfl
 have chk_tup:∀ P:Params,(DQ (hdt.heap_1_39 P) (BY (hdt.heap_1_39 P) 14) [33,23,30,32,34,35]&&DQ (hdt.heap_1_39 P) (BY (hdt.heap_1_39 P) 15) [128,79]&&DQ (hdt.heap_1_39 P) (BY (hdt.heap_1_39 P) 16) [128,79])=true:=fun P=>by kernel_rfl
 have chk_bits:∀ P:Params,∃ a es n t,BY (hdt.heap_1_39 P) 13=some (.ref a)∧(hdt.heap_1_39 P).lookup a=some ⟨.type "dict",none,.dict es n,#[]⟩∧KeysLit P es.toList∧findBy Value.isStrOf es (Str.ofString "u8")=some (.int 8 t):=by
  intro P
  refine ⟨55,#[⟨PyData.keyHash P (Str.ofString "i8"),.str (Str.ofString "i8") 246,.int 8 247⟩,⟨PyData.keyHash P (Str.ofString "i16"),.str (Str.ofString "i16") 248,.int 16 249⟩,⟨PyData.keyHash P (Str.ofString "i32"),.str (Str.ofString "i32") 250,.int 32 251⟩,⟨PyData.keyHash P (Str.ofString "i64"),.str (Str.ofString "i64") 252,.int 64 253⟩,
   ⟨PyData.keyHash P (Str.ofString "u8"),.str (Str.ofString "u8") 254,.int 8 255⟩,⟨PyData.keyHash P (Str.ofString "u16"),.str (Str.ofString "u16") 256,.int 16 257⟩,⟨PyData.keyHash P (Str.ofString "u32"),.str (Str.ofString "u32") 258,.int 32 259⟩,⟨PyData.keyHash P (Str.ofString "u64"),.str (Str.ofString "u64") 260,.int 64 261⟩,⟨PyData.keyHash P (Str.ofString "usize"),.str (Str.ofString "usize") 262,.int 64 263⟩],9,255,by kernel_rfl,by kernel_rfl,?_,by kernel_rfl⟩
  exact ⟨⟨_,_,rfl,rfl⟩,⟨_,_,rfl,rfl⟩,⟨_,_,rfl,rfl⟩,⟨_,_,rfl,rfl⟩,⟨_,_,rfl,rfl⟩,⟨_,_,rfl,rfl⟩,⟨_,_,rfl,rfl⟩,⟨_,_,rfl,rfl⟩,⟨_,_,rfl,rfl⟩,trivial⟩
 have chk:∀ P:Params,Chk P (hdt.heap_1_39 P):=fun P=>⟨chk_defs P,chk_flags P,chk_cls P,chk_attr P,chk_bi P,chk_tup P,chk_bits P⟩
 intro w s₀ s₁ mg mb G Y fa o pm cd doc dV kV ho hdd hcd hD hmg hg args vals as hpre hlay hrd hwl hlo
 have KX:=kIn_of Y
 refine Ground.open G ?_
 intro T B D TE TW
 clear ho hdd hD hcd
 w_strict (wrow_args hpre hlay hrd hwl hlo)
 rename Heap.IsList _ _ _=>hL
 rename IntsAre _ _=>hI
 rename ¬ _=>hlen
 refine enter_call ?_
 refine codeAny_mono ?_ (fun _ _ g=>GoodW.toG g)
 refine PK (p:=PySem.Challenge.rw_xw0173_01.row.prog) (w:=w) (K:=hdt.heap_1_39 w.params) (chk w.params) KX (by kernel_rfl) T.g T.b T.builtins T.nolimit hmg hL hI (RN _ (by omega)) fun h' t kp=>?_
 exact ⟨.inl ⟨_,.bool true,[],rfl,raisesW_false (by wrow_none_raised),.bool true,by wrow_post,unshared_nil⟩,kp,rfl,hg⟩
end Mine
end
theorem PySem.Challenge.cw_xw0173_01_holds : PySem.Challenge.rw_xw0173_01.Holds :=
  Mine.hdt
