import PyProof.Rows.All
import Wide.All
import Open.Line
import Open.FastRun
import Open.FastT9
import OpenK.KWalk
import OpenK.KMore
import OpenK.KCls
import PyProof.Rows.Chain
import PyProof.Rows.TupAssign
import Wide.BytesRules
import PyProof.EqAt
import PyProof.NeKinds
import PyProof.SliceMore
import PyProof.ListIndexNeg
import PyProof.ListCopy
import PyProof.TupleOfSeq
import PyProof.Rows.ListAppend
import PyProof.SliceSyntax
import PyProof.RangeFor
import PyProof.RangeIter
import PyProof.WalksMore
import PyProof.WalkInts
import PyProof.Rows.SumAny
import PyProof.Rows.SortWalk
import PyProof.Rows.RuleN_abs
import PyProof.CompFree
import PyProof.CompMap
import PyProof.DictRoadsH
import PyProof.DictKinds
import PyProof.FactsAll.dict
import PyProof.DictIter
import PyProof.TupleOps
import PyProof.CallType
import PyProof.WalkLemmas
import PyProof.CallTypeRange
import PyProof.ListNew
import KE.KSortTup
import KE.BitLaws
import Lean
import PySem.Challenge.RW_nu0360_01
set_option Elab.async false
set_option maxRecDepth 100000
set_option linter.all false
set_option tactic.hygienic false
open PySem PySem.W PySem.Calls PyProof.Rows
namespace Mine
theorem CG {A0 A1 A2:Prop} {G:Prop} (h:A0∧A1∧A2) (g:A0→A1→A2→G):G:=g h.1 h.2.1 h.2.2
theorem Cv {A0 A1 A2:Prop} (a0:A0) (a1:A1) (a2:A2):A0∧A1∧A2:=⟨a0,a1,a2⟩
theorem Af {α:Type} {A0 A1:α→Prop} {G:Prop} (h:∃ x,A0 x∧A1 x) (g:∀ x,A0 x→A1 x→G):G:=h.elim fun x h=>g x h.1 h.2
theorem AQ {α:Type} {A0 A1:α→Prop} (x:α) (a0:A0 x) (a1:A1 x):∃ x,A0 x∧A1 x:=⟨x,a0,a1⟩
theorem Gj {A0 A1 A2 A3:Prop} {G:Prop} (h:A0∧A1∧A2∧A3) (g:A0→A1→A2→A3→G):G:=g h.1 h.2.1 h.2.2.1 h.2.2.2
theorem JB {A0 A1 A2 A3:Prop} (a0:A0) (a1:A1) (a2:A2) (a3:A3):A0∧A1∧A2∧A3:=⟨a0,a1,a2,a3⟩
theorem Br {α:Type} {A0 A1 A2:α→Prop} {G:Prop} (h:∃ x,A0 x∧A1 x∧A2 x) (g:∀ x,A0 x→A1 x→A2 x→G):G:=h.elim fun x h=>g x h.1 h.2.1 h.2.2
theorem Cu {α:Type} {A0 A1 A2:α→Prop} (x:α) (a0:A0 x) (a1:A1 x) (a2:A2 x):∃ x,A0 x∧A1 x∧A2 x:=⟨x,a0,a1,a2⟩
theorem CX {α β:Type} {A0 A1:α→β→Prop} {G:Prop} (h:∃ x y,A0 x y∧A1 x y) (g:∀ x y,A0 x y→A1 x y→G):G:=h.elim fun x h=>h.elim fun y h=>g x y h.1 h.2
theorem Qb {α β:Type} {A0 A1:α→β→Prop} (x:α) (y:β) (a0:A0 x y) (a1:A1 x y):∃ x y,A0 x y∧A1 x y:=⟨x,y,a0,a1⟩
theorem KN {A0 A1 A2 A3 A4:Prop} {G:Prop} (h:A0∧A1∧A2∧A3∧A4) (g:A0→A1→A2→A3→A4→G):G:=g h.1 h.2.1 h.2.2.1 h.2.2.2.1 h.2.2.2.2
theorem Sv {A0 A1 A2 A3 A4:Prop} (a0:A0) (a1:A1) (a2:A2) (a3:A3) (a4:A4):A0∧A1∧A2∧A3∧A4:=⟨a0,a1,a2,a3,a4⟩
theorem KM {α:Type} {A0 A1 A2 A3:α→Prop} {G:Prop} (h:∃ x,A0 x∧A1 x∧A2 x∧A3 x) (g:∀ x,A0 x→A1 x→A2 x→A3 x→G):G:=h.elim fun x h=>g x h.1 h.2.1 h.2.2.1 h.2.2.2
theorem LT {α:Type} {A0 A1 A2 A3:α→Prop} (x:α) (a0:A0 x) (a1:A1 x) (a2:A2 x) (a3:A3 x):∃ x,A0 x∧A1 x∧A2 x∧A3 x:=⟨x,a0,a1,a2,a3⟩
theorem BD {α β:Type} {A0 A1 A2:α→β→Prop} {G:Prop} (h:∃ x y,A0 x y∧A1 x y∧A2 x y) (g:∀ x y,A0 x y→A1 x y→A2 x y→G):G:=h.elim fun x h=>h.elim fun y h=>g x y h.1 h.2.1 h.2.2
theorem Bq {α β:Type} {A0 A1 A2:α→β→Prop} (x:α) (y:β) (a0:A0 x y) (a1:A1 x y) (a2:A2 x y):∃ x y,A0 x y∧A1 x y∧A2 x y:=⟨x,y,a0,a1,a2⟩
theorem NH {α β γ:Type} {A0 A1:α→β→γ→Prop} {G:Prop} (h:∃ x y z,A0 x y z∧A1 x y z) (g:∀ x y z,A0 x y z→A1 x y z→G):G:=h.elim fun x h=>h.elim fun y h=>h.elim fun z h=>g x y z h.1 h.2
theorem Tj {α β γ:Type} {A0 A1:α→β→γ→Prop} (x:α) (y:β) (z:γ) (a0:A0 x y z) (a1:A1 x y z):∃ x y z,A0 x y z∧A1 x y z:=⟨x,y,z,a0,a1⟩
theorem Qe {A0 A1 A2 A3 A4 A5:Prop} {G:Prop} (h:A0∧A1∧A2∧A3∧A4∧A5) (g:A0→A1→A2→A3→A4→A5→G):G:=g h.1 h.2.1 h.2.2.1 h.2.2.2.1 h.2.2.2.2.1 h.2.2.2.2.2
theorem Tt {α:Type} {A0 A1 A2 A3 A4:α→Prop} {G:Prop} (h:∃ x,A0 x∧A1 x∧A2 x∧A3 x∧A4 x) (g:∀ x,A0 x→A1 x→A2 x→A3 x→A4 x→G):G:=h.elim fun x h=>g x h.1 h.2.1 h.2.2.1 h.2.2.2.1 h.2.2.2.2
theorem Ss {α:Type} {A0 A1 A2 A3 A4:α→Prop} (x:α) (a0:A0 x) (a1:A1 x) (a2:A2 x) (a3:A3 x) (a4:A4 x):∃ x,A0 x∧A1 x∧A2 x∧A3 x∧A4 x:=⟨x,a0,a1,a2,a3,a4⟩
theorem FG {α β:Type} {A0 A1 A2 A3:α→β→Prop} {G:Prop} (h:∃ x y,A0 x y∧A1 x y∧A2 x y∧A3 x y) (g:∀ x y,A0 x y→A1 x y→A2 x y→A3 x y→G):G:=h.elim fun x h=>h.elim fun y h=>g x y h.1 h.2.1 h.2.2.1 h.2.2.2
theorem DZ {α β:Type} {A0 A1 A2 A3:α→β→Prop} (x:α) (y:β) (a0:A0 x y) (a1:A1 x y) (a2:A2 x y) (a3:A3 x y):∃ x y,A0 x y∧A1 x y∧A2 x y∧A3 x y:=⟨x,y,a0,a1,a2,a3⟩
theorem NG {α β γ:Type} {A0 A1 A2:α→β→γ→Prop} {G:Prop} (h:∃ x y z,A0 x y z∧A1 x y z∧A2 x y z) (g:∀ x y z,A0 x y z→A1 x y z→A2 x y z→G):G:=h.elim fun x h=>h.elim fun y h=>h.elim fun z h=>g x y z h.1 h.2.1 h.2.2
theorem Ti {α β γ:Type} {A0 A1 A2:α→β→γ→Prop} (x:α) (y:β) (z:γ) (a0:A0 x y z) (a1:A1 x y z) (a2:A2 x y z):∃ x y z,A0 x y z∧A1 x y z∧A2 x y z:=⟨x,y,z,a0,a1,a2⟩
theorem Tp {α β γ δ:Type} {A0 A1:α→β→γ→δ→Prop} {G:Prop} (h:∃ x y z u,A0 x y z u∧A1 x y z u) (g:∀ x y z u,A0 x y z u→A1 x y z u→G):G:=h.elim fun x h=>h.elim fun y h=>h.elim fun z h=>h.elim fun u h=>g x y z u h.1 h.2
theorem Sy {A0 A1 A2 A3 A4 A5 A6:Prop} {G:Prop} (h:A0∧A1∧A2∧A3∧A4∧A5∧A6) (g:A0→A1→A2→A3→A4→A5→A6→G):G:=g h.1 h.2.1 h.2.2.1 h.2.2.2.1 h.2.2.2.2.1 h.2.2.2.2.2.1 h.2.2.2.2.2.2
theorem Tn {A0 A1 A2 A3 A4 A5 A6:Prop} (a0:A0) (a1:A1) (a2:A2) (a3:A3) (a4:A4) (a5:A5) (a6:A6):A0∧A1∧A2∧A3∧A4∧A5∧A6:=⟨a0,a1,a2,a3,a4,a5,a6⟩
theorem Tm {α:Type} {A0 A1 A2 A3 A4 A5:α→Prop} (x:α) (a0:A0 x) (a1:A1 x) (a2:A2 x) (a3:A3 x) (a4:A4 x) (a5:A5 x):∃ x,A0 x∧A1 x∧A2 x∧A3 x∧A4 x∧A5 x:=⟨x,a0,a1,a2,a3,a4,a5⟩
theorem Sx {α β:Type} {A0 A1 A2 A3 A4:α→β→Prop} {G:Prop} (h:∃ x y,A0 x y∧A1 x y∧A2 x y∧A3 x y∧A4 x y) (g:∀ x y,A0 x y→A1 x y→A2 x y→A3 x y→A4 x y→G):G:=h.elim fun x h=>h.elim fun y h=>g x y h.1 h.2.1 h.2.2.1 h.2.2.2.1 h.2.2.2.2
theorem KL {α β γ:Type} {A0 A1 A2 A3:α→β→γ→Prop} {G:Prop} (h:∃ x y z,A0 x y z∧A1 x y z∧A2 x y z∧A3 x y z) (g:∀ x y z,A0 x y z→A1 x y z→A2 x y z→A3 x y z→G):G:=h.elim fun x h=>h.elim fun y h=>h.elim fun z h=>g x y z h.1 h.2.1 h.2.2.1 h.2.2.2
theorem Sw {α β γ δ:Type} {A0 A1 A2:α→β→γ→δ→Prop} {G:Prop} (h:∃ x y z u,A0 x y z u∧A1 x y z u∧A2 x y z u) (g:∀ x y z u,A0 x y z u→A1 x y z u→A2 x y z u→G):G:=h.elim fun x h=>h.elim fun y h=>h.elim fun z h=>h.elim fun u h=>g x y z u h.1 h.2.1 h.2.2
theorem Qd {A0 A1 A2 A3 A4 A5 A6 A7:Prop} {G:Prop} (h:A0∧A1∧A2∧A3∧A4∧A5∧A6∧A7) (g:A0→A1→A2→A3→A4→A5→A6→A7→G):G:=g h.1 h.2.1 h.2.2.1 h.2.2.2.1 h.2.2.2.2.1 h.2.2.2.2.2.1 h.2.2.2.2.2.2.1 h.2.2.2.2.2.2.2
theorem Rh {A0 A1 A2 A3 A4 A5 A6 A7:Prop} (a0:A0) (a1:A1) (a2:A2) (a3:A3) (a4:A4) (a5:A5) (a6:A6) (a7:A7):A0∧A1∧A2∧A3∧A4∧A5∧A6∧A7:=⟨a0,a1,a2,a3,a4,a5,a6,a7⟩
theorem Qc {α β:Type} {A0 A1 A2 A3 A4 A5:α→β→Prop} {G:Prop} (h:∃ x y,A0 x y∧A1 x y∧A2 x y∧A3 x y∧A4 x y∧A5 x y) (g:∀ x y,A0 x y→A1 x y→A2 x y→A3 x y→A4 x y→A5 x y→G):G:=h.elim fun x h=>h.elim fun y h=>g x y h.1 h.2.1 h.2.2.1 h.2.2.2.1 h.2.2.2.2.1 h.2.2.2.2.2
theorem O3 {α β:Type} {A0 A1 A2 A3 A4 A5:α→β→Prop} (x:α) (y:β) (a0:A0 x y) (a1:A1 x y) (a2:A2 x y) (a3:A3 x y) (a4:A4 x y) (a5:A5 x y):∃ x y,A0 x y∧A1 x y∧A2 x y∧A3 x y∧A4 x y∧A5 x y:=⟨x,y,a0,a1,a2,a3,a4,a5⟩
theorem Tq {α β γ:Type} {A0 A1 A2 A3 A4:α→β→γ→Prop} {G:Prop} (h:∃ x y z,A0 x y z∧A1 x y z∧A2 x y z∧A3 x y z∧A4 x y z) (g:∀ x y z,A0 x y z→A1 x y z→A2 x y z→A3 x y z→A4 x y z→G):G:=h.elim fun x h=>h.elim fun y h=>h.elim fun z h=>g x y z h.1 h.2.1 h.2.2.1 h.2.2.2.1 h.2.2.2.2
theorem Sr {α β γ:Type} {A0 A1 A2 A3 A4:α→β→γ→Prop} (x:α) (y:β) (z:γ) (a0:A0 x y z) (a1:A1 x y z) (a2:A2 x y z) (a3:A3 x y z) (a4:A4 x y z):∃ x y z,A0 x y z∧A1 x y z∧A2 x y z∧A3 x y z∧A4 x y z:=⟨x,y,z,a0,a1,a2,a3,a4⟩
theorem To {α β γ δ:Type} {A0 A1 A2 A3:α→β→γ→δ→Prop} {G:Prop} (h:∃ x y z u,A0 x y z u∧A1 x y z u∧A2 x y z u∧A3 x y z u) (g:∀ x y z u,A0 x y z u→A1 x y z u→A2 x y z u→A3 x y z u→G):G:=h.elim fun x h=>h.elim fun y h=>h.elim fun z h=>h.elim fun u h=>g x y z u h.1 h.2.1 h.2.2.1 h.2.2.2
theorem Su {A0 A1 A2 A3 A4 A5 A6 A7 A8:Prop} (a0:A0) (a1:A1) (a2:A2) (a3:A3) (a4:A4) (a5:A5) (a6:A6) (a7:A7) (a8:A8):A0∧A1∧A2∧A3∧A4∧A5∧A6∧A7∧A8:=⟨a0,a1,a2,a3,a4,a5,a6,a7,a8⟩
theorem Ts {α:Type} {A0 A1 A2 A3 A4 A5 A6 A7 A8:α→Prop} {G:Prop} (h:∃ x,A0 x∧A1 x∧A2 x∧A3 x∧A4 x∧A5 x∧A6 x∧A7 x∧A8 x) (g:∀ x,A0 x→A1 x→A2 x→A3 x→A4 x→A5 x→A6 x→A7 x→A8 x→G):G:=h.elim fun x h=>g x h.1 h.2.1 h.2.2.1 h.2.2.2.1 h.2.2.2.2.1 h.2.2.2.2.2.1 h.2.2.2.2.2.2.1 h.2.2.2.2.2.2.2.1 h.2.2.2.2.2.2.2.2
theorem Tl {α:Type} {A0 A1 A2 A3 A4 A5 A6 A7 A8:α→Prop} (x:α) (a0:A0 x) (a1:A1 x) (a2:A2 x) (a3:A3 x) (a4:A4 x) (a5:A5 x) (a6:A6 x) (a7:A7 x) (a8:A8 x):∃ x,A0 x∧A1 x∧A2 x∧A3 x∧A4 x∧A5 x∧A6 x∧A7 x∧A8 x:=⟨x,a0,a1,a2,a3,a4,a5,a6,a7,a8⟩
theorem H1 {a c:Bool} (h:(a && c)=true):a=true∧c=true:=(Bool.and_eq_true a c).mp h
theorem il {a k:Nat} {t:Int} (h:a≤k) (e:(k:Int)≤t:=by decide):(a:Int)≤t:=Int.le_trans (Int.ofNat_le.mpr h) e
theorem ilt {a k:Nat} {t:Int} (h:a≤k) (e:(k:Int) < t:=by decide):(a:Int) < t:=Int.lt_of_le_of_lt (Int.ofNat_le.mpr h) e
theorem iab {a k t:Nat} (h:a≤k) (e:k < t:=by decide):(a:Int).natAbs < t:=Nat.lt_of_le_of_lt h e
theorem ing {a:Nat} {t:Int} (e:t < 0:=by decide):t < (a:Int):=Int.lt_of_lt_of_le e (Int.natCast_nonneg a)
theorem Sh {a:Nat} {t:Int} (e:t < 0:=by decide):t≤(a:Int):=Int.le_of_lt (ing e)
theorem PY {a:Nat} {t:Int} (e:t < 0:=by decide):(a:Int)≠t:=(Int.ne_of_lt (ing e)).symm
theorem nLt {n i:Nat} (h:i < n):n+1-(i+1) < n+1-i:=Nat.sub_lt_sub_left (Nat.lt_succ_of_lt h) (Nat.lt_succ_self i)
theorem rm1 {u k D c:Nat} (h:k+1≤D) (r:u+D < c):u+1+k < c:=by rw [Nat.add_assoc,Nat.add_comm 1]; exact Nat.lt_of_le_of_lt (Nat.add_le_add_left h u) r
theorem rm2 {u d c:Nat} (h:1≤d) (r:u+8*d < c):u+1 < c:=Nat.lt_of_le_of_lt (Nat.add_le_add_left (Nat.le_trans h (Nat.le_mul_of_pos_left d (by decide))) u) r
theorem rm3 {u d c:Nat} (h:1≤d) (r:u+d < c):u+1+(d-1) < c:=by rw [Nat.add_assoc,Nat.add_sub_cancel' h]; exact r
theorem rm4 {u d c:Nat} (h:1≤d) (r:u+8*d < c):u+3+8*(d-1) < c:=by lia
theorem n8 {d m:Nat} (h:m≤d) (k:2≤m:=by decide):1≤8*(d-1):=Nat.mul_pos (by decide) (Nat.sub_pos_of_lt (Nat.lt_of_lt_of_le k h))
theorem n8z {d m:Nat} (h:m≤d) (k:2≤m:=by decide):0+1≤8*(d-1):=n8 h k
theorem n8e {x d m:Nat} (x1:x≤7) (h:m≤d) (k:2≤m:=by decide):x+1≤8*(d-1):=Nat.le_trans (Nat.succ_le_succ x1) (Nat.mul_le_mul_left 8 (Nat.le_sub_one_of_lt (Nat.lt_of_lt_of_le k h)))
theorem n8d {x d m:Nat} (x1:x≤1) (h:m≤d) (k:2≤m:=by decide):x+1≤8*(d-1):=n8e (Nat.le_trans x1 (by decide)) h k
theorem cs0 {n i:Nat} (h:i≤n):(n:Int)-i=(n-i:Nat):=(Int.ofNat_sub h).symm
theorem cs1 {n i:Nat} (h:i < n):(n:Int)-1-i=(n-1-i:Nat):=by rw [show (n:Int)-1=((n-1:Nat):Int) from (Int.ofNat_sub (Nat.lt_of_le_of_lt (Nat.zero_le i) h)).symm]; exact (Int.ofNat_sub (Nat.le_sub_one_of_lt h)).symm
theorem cs8 {n i:Nat} (h:i < n/8):(n:Int)-8-8*i=(n-8-8*i:Nat):=by
 have h2:8*(i+1)≤n:=by rw [Nat.mul_comm]; exact (Nat.le_div_iff_mul_le (by decide)).mp h
 rw [show (n:Int)-8=((n-8:Nat):Int) from (Int.ofNat_sub (Nat.le_trans (Nat.le_mul_of_pos_right 8 (Nat.succ_pos i)) h2)).symm]; exact (Int.ofNat_sub (Nat.le_sub_of_add_le h2)).symm
theorem s1k (n k:Nat):n-1-k=n-(k+1):=by rw [Nat.sub_sub,Nat.add_comm]
theorem tn1 {n:Nat} (h:0 < n):(-1+(n:Int)).toNat=n-1:=by rw [Int.add_comm]; exact Int.toNat_sub n 1
theorem tnk {n k:Nat}:(-(k:Int)+n).toNat=n-k:=by rw [Int.add_comm]; exact Int.toNat_sub n k
theorem nl2 {n:Nat} (h:¬ (n:Int) < 2):2≤n:=by lia
theorem nl3 {n:Nat} (h:¬ (n:Int) < 3):3≤n:=by lia
theorem z8 {i:Nat}:(0:Int)≤8*(i:Int):=Int.natCast_nonneg (8*i)
theorem mx {a b c d:Nat} (h:a≤c) (k:b≤d):max a b+1≤c+d+1:=Nat.succ_le_succ (Nat.max_le_of_le_of_le (Nat.le_trans h (Nat.le_add_right ..)) (Nat.le_trans k (Nat.le_add_left ..)))
theorem Rk {a b c d m:Nat} (hb:b < m) (hd:d < m) (h:a*m+b=c*m+d):a=c∧b=d:=by
 rw [Nat.mul_comm a,Nat.mul_comm c] at h
 have e:=congrArg (· %m) h
 rw [Nat.mul_add_mod,Nat.mul_add_mod,Nat.mod_eq_of_lt hb,Nat.mod_eq_of_lt hd] at e
 subst e
 exact ⟨Nat.eq_of_mul_eq_mul_left (Nat.lt_of_le_of_lt (Nat.zero_le _) hb) (Nat.add_right_cancel h),rfl⟩
theorem SC {a b m k:Nat} (hb:b < m) (ha:a < k):a*m+b < k*m:=Nat.lt_of_lt_of_le (Nat.add_lt_add_left hb _) (by rw [← Nat.succ_mul]; exact Nat.mul_le_mul_right m ha)
theorem Qx {C w v m:Nat} (hv:v < m) (e:(C+w)%m=(C+v)%m):v≤w:=by
 have h:=Nat.sub_mod_eq_zero_of_mod_eq e.symm
 rw [Nat.add_sub_add_left,Nat.mod_eq_of_lt (Nat.lt_of_le_of_lt (Nat.sub_le v w) hv)] at h
 exact Nat.le_of_sub_eq_zero h
theorem Jm {C w v m:Nat} (hw:w < m) (hv:v < m) (e:(C+w)%m=(C+v)%m):w=v:=Nat.le_antisymm (Qx hw e.symm) (Qx hv e)
theorem MM {C w v m:Nat} (hw:w < m) (hv:v < m) (e:(w+C)%m=(v+C)%m):w=v:=Jm hw hv (by rw [Nat.add_comm C,Nat.add_comm C]; exact e)
theorem SE {a c w m:Nat} (h:c≤m):(c+((a+m-c)%m+w))%m=(a+w)%m:=by
 rw [Nat.add_left_comm,Nat.mod_add_mod,Nat.add_left_comm,←Nat.add_assoc,Nat.add_sub_cancel' (Nat.le_trans h (Nat.le_add_left ..)),Nat.add_right_comm,Nat.add_mod_right]
theorem SL {x y:Nat} (hx:x < 2) (hy:y < 2) (h:¬ x=y):x=1-y:=(by decide:∀ x < 2,∀ y < 2,¬ x=y→x=1-y) x hx y hy h
theorem ngk {k n:Nat} (h:k≤n): -(n:Int)≤ -(k:Int):=Int.neg_le_neg (Int.ofNat_le.mpr h)
theorem ngz {k:Nat} (h:1≤k): -(k:Int) < 0:=Int.neg_neg_of_pos (Int.ofNat_lt.mpr h)
theorem ng6 {k m:Nat} {t:Int} (h:k≤m) (e:t≤ -(m:Int):=by decide):t≤ -(k:Int):=Int.le_trans e (ngk h)
theorem R5 {a c:Nat}:(if (a:Int) < (c:Int) then (a:Int) else c)=((min c a:Nat):Int):=by
 split
 ·rename_i h
  rw [Nat.min_eq_right (Nat.le_of_lt (Int.ofNat_lt.mp h))]
 ·rename_i h
  rw [Nat.min_eq_left (Nat.le_of_not_lt fun c=>h (Int.ofNat_lt.mpr c))]
theorem R0 {a c:Nat}:max (0:Int) (min (a:Int) c)=((min a c:Nat):Int):=by
 rcases Nat.le_total a c with h | h
 ·rw [Nat.min_eq_left h,Int.min_eq_left (Int.ofNat_le.mpr h),Int.max_eq_right (Int.natCast_nonneg _)]
 ·rw [Nat.min_eq_right h,Int.min_eq_right (Int.ofNat_le.mpr h),Int.max_eq_right (Int.natCast_nonneg _)]
theorem mx0 {a:Nat}:(max (0:Int) a).toNat=a:=by rw [Int.max_eq_right (Int.natCast_nonneg a)]; rfl
theorem Qw {a c x:Nat} (h:0 < x) (k:a < c):a*x < x*c:=by rw [Nat.mul_comm]; exact Nat.mul_lt_mul_of_pos_left k h
theorem SS {n i k:Nat} (h:n-i=k+1):n-(i+1)=k:=by rw [← Nat.sub_sub,h]; rfl
theorem Ec {c:Prop} [Decidable c] {A B:Prop} (h:c) (k:A):if c then A else B:=by rw [if_pos h]; exact k
theorem B7 {c:Prop} [Decidable c] {A B:Prop} (h:¬ c) (k:B):if c then A else B:=by rw [if_neg h]; exact k
theorem NX {α:Type} {M:Model} {A:Around} {E:Value→Shared→Prop} {s:Shared} {c:Prop} [Decidable c] {a b:Sem α} {Q:α→Shared→Prop} (h:c) (k:wpAny M A a Q E s):wpAny M A (if c then a else b) Q E s:=by rw [if_pos h]; exact k
theorem H4 {α:Type} {M:Model} {A:Around} {E:Value→Shared→Prop} {s:Shared} {c:Prop} [Decidable c] {a b:Sem α} {Q:α→Shared→Prop} (h:¬ c) (k:wpAny M A b Q E s):wpAny M A (if c then a else b) Q E s:=by rw [if_neg h]; exact k
theorem hide {G:Prop} (h:∀ P:Prop,(G→P)→P):G:=h G id
noncomputable abbrev pw:=PySem.Challenge.pw_nu0360_01
inductive MV where
 | none
 | bool (b:Bool)
 | int (i:Int)
 | str (s:Str)
 | bytes (b:Array UInt8)
 | tup (vs:List MV)
 | flist (vs:List MV)
 | ref (a:Addr)
 | raw (v:Value)
 deriving Inhabited
inductive MO where
 | list (vs:List MV)
 | dict (es:List (MV×MV)) (n:Nat)
 | inst (C d:Addr) (at_:List (Str×MV))
 | barr (b:Array UInt8)
 | rng (n:Int)
noncomputable abbrev MS:=Addr→Option MO
noncomputable abbrev LM:=List (Str×MV)
noncomputable def MS.set (σ:MS) (a:Addr) (o:MO):MS:=fun x=>if x=a then some o else σ x
theorem MS.set_self (σ:MS) (a:Addr) (o:MO):(σ.set a o) a=some o:=by simp [MS.set]
theorem MS.set_ne {σ:MS} {a b:Addr} {o:MO} (h:b≠a):(σ.set a o) b=σ b:=by simp [MS.set,h]
noncomputable def LM.set (ρ:LM) (x:Str) (v:MV):LM:=(x,v)::ρ
noncomputable def AF (σ:MS) (a:Addr):Prop:=(σ a).isSome=true∨∃ x C t,σ x=some (.inst C a t)
section
variable (w:World) (b:Heap)
mutual
noncomputable def VR (h:Heap):MV→Value→Prop
 | .none,v=>v= .none
 | .bool x,v=>v= .bool x
 | .int i,v=>∃ t,v= .int i t
 | .str s,v=>∃ t,v= .str s t
 | .bytes x,v=>∃ t,v= .bytes x t
 | .tup vs,v=>∃ a items,v= .ref a∧IsTup h a items∧VRs h vs items.toList
 | .flist vs,v=>∃ a items,v= .ref a∧(b.get? a).isSome=true∧h.IsList a items∧VRs h vs items.toList
 | .ref a,v=>v= .ref a
 | .raw u,v=>v=u
noncomputable def VRs (h:Heap):List MV→List Value→Prop
 | [],l=>l=[]
 | m::ms,l=>∃ v vs,l=v::vs∧VR h m v∧VRs h ms vs
end
noncomputable def NR:List (Str×MV)→Str→MV→List (Str×MV)
 | [],x,v=>[(x,v)]
 | (y,u)::t,x,v=>if y=x then (y,v)::t else (y,u)::NR t x v
noncomputable def Ap:MV→Int
 | .int i=>hashInt i
 | .tup vs=>reduceHash (Builtin.Tuple.tupleHashOf (vs.map fun
   | .int i=>hashInt i
   | _=>0))
 | _=>0
noncomputable def ON:MV→Bool
 | .int _=>true
 | .tup vs=>vs.all fun
   | .int _=>true
   | _=>false
 | _=>false
noncomputable def EsR (h:Heap):List (MV×MV)→List DictEntry→Prop
 | [],l=>l=[]
 | (k,v)::r,l=>∃ e es,l=e::es∧VR b h k e.key∧VR b h v e.val∧e.hash=Ap k∧ON k=true∧EsR h r es
noncomputable def AtR (h:Heap):List (Str×MV)→List DictEntry→Prop
 | [],l=>l=[]
 | (x,v)::r,l=>∃ e es,l=e::es∧(∃ tk,e.key= .str x tk)∧VR b h v e.val∧AtR h r es
noncomputable def Pv (h:Heap) (a:Addr):MO→Prop
 | .list vs=>∃ items n,h.get? a=some ⟨.type "list",none,.seq items n,#[]⟩∧VRs b h vs items.toList
 | .dict es n=>∃ des,h.get? a=some ⟨.type "dict",none,.dict des n,#[]⟩∧EsR b h es des.toList
 | .inst C d t=>∃ des n,h.get? a=some ⟨.ref C,some d,.plain,#[]⟩∧h.get? d=some ⟨.type "dict",none,.dict des n,#[]⟩∧AtR b h t des.toList
 | .barr x=>h.get? a=some ⟨.type "bytearray",none,.bytearray x 0,#[]⟩
 | .rng n=>∃ t u v,h.get? a=some ⟨.type "range",none,.fields #[.int 0 t,.int n u,.int 1 v],#[]⟩
structure St (σ:MS) (h:Heap):Prop where
 stays:∀ a o,b.get? a=some o→h.get? a=some o
 obj:∀ a o,σ a=some o→Pv b h a o
 low:∀ a,AF σ a→b.get? a=none
 apart:∀ x C d t,σ x=some (.inst C d t)→σ d=none∧∀ x' C' t',σ x'=some (.inst C' d t')→x'=x
structure Ev (X:Addr→Prop) (σ:MS) (s:Shared) (σ':MS) (s':Shared):Prop where
 dom:∀ a o,s.heap.get? a=some o→∃ o',s'.heap.get? a=some o'
 gens:s'.gens=s.gens
 os:s'.os=s.os
 keep:∀ a o,s.heap.get? a=some o→¬ AF σ a→¬ X a→s'.heap.get? a=some o
 new:∀ a o,s.heap.get? a=some o→AF σ' a→AF σ a
noncomputable abbrev noX:Addr→Prop:=fun U=>False
noncomputable def Nc (env:Env) (h:Heap) (x:Str) (v:Value):Prop :=
 (env.kindOf x=some .local∧∃ m,h.Ns env.locals m∧m x=some v) ∨
 ((env.kindOf x=some .cell∨env.kindOf x=some .free)∧∃ c o,env.cells.lookup x=some c∧h.get? c=some o∧o.data= .cell (some v))
structure Loc (env:Env) (ρ:LM) (σ:MS) (h:Heap):Prop where
 val:∀ x mv,ρ.lookup x=some mv→∃ v,Nc env h x v∧VR b h mv v
 ns:∃ m,h.Ns env.locals m
 low:b.get? env.locals=none
 own:¬ AF σ env.locals
 cells:∀ x c,env.cells.lookup x=some c→(∃ o v,h.get? c=some o∧o.data= .cell v)∧b.get? c=none∧¬ AF σ c∧∀ y,env.cells.lookup y=some c→y=x
noncomputable def BL (env:Env):Addr→Prop:=fun a=>a=env.locals∨∃ x,env.cells.lookup x=some a
structure Rm (d:Nat) (A:Around):Prop where
 depth:A.depth+d < recursionLimit
 units:A.units+8*d < cLine
 handled:A.handled=none
structure Cx where
 names:List (Str×NameKind)
 d:Nat
structure CxOk (C:Cx) (A:Around) (env:Env):Prop where
 kind:env.scope.kind= .function
 names:env.scope.names=C.names
 globals:env.globals=mainGlobals
 builtins:env.builtins=builtinsNs
 room:Rm C.d A
 cellsIn:∀ x,C.names.lookup x=some .cell→∃ c,env.cells.lookup x=some c
inductive MF where
 | next | brk | cont
 | ret (v:MV)
noncomputable def FR (h:Heap):MF→Flow→Prop
 | .next,f=>f= .next
 | .brk,f=>f= .brk
 | .cont,f=>f= .cont
 | .ret mv,f=>∃ v,f= .ret v∧VR b h mv v
noncomputable def noE:Value→Shared→Prop:=fun U U=>False
noncomputable def AC (σ:MS) (s:Shared) (Q:MV→MS→Prop) (v:Value) (s':Shared):Prop:=∃ mv σ',Q mv σ'∧VR b s'.heap mv v∧St b σ' s'.heap∧Ev noX σ s σ' s'
variable {b} in
theorem AC.elim {σ:MS} {s s':Shared} {Q:MV→MS→Prop} {v:Value} {P:Prop} (g:AC b σ s Q v s') (k:∀ mv σ',Q mv σ'→VR b s'.heap mv v→St b σ' s'.heap→Ev noX σ s σ' s'→P):P:=Exists.elim g fun mv h=>Exists.elim h fun σ' h=>k mv σ' h.1 h.2.1 h.2.2.1 h.2.2.2
noncomputable def WE (C:Cx) (t:Env→Sem Value) (ρ:LM) (σ:MS) (Q:MV→MS→Prop):Prop :=
 ∀ (A:Around) (env:Env) (s:Shared),CxOk C A env→St b σ s.heap→Loc b env ρ σ s.heap→wpAny (model pw w) A (t env) (AC b σ s Q) noE s
noncomputable def FU (σ:MS) (s:Shared) (Q:Bool→MS→Prop) (v:Bool) (s':Shared):Prop:=∃ σ',Q v σ'∧St b σ' s'.heap∧Ev noX σ s σ' s'
variable {b} in
theorem FU.elim {σ:MS} {s s':Shared} {Q:Bool→MS→Prop} {v:Bool} {P:Prop} (g:FU b σ s Q v s') (k:∀ σ',Q v σ'→St b σ' s'.heap→Ev noX σ s σ' s'→P):P:=Exists.elim g fun σ' h=>k σ' h.1 h.2.1 h.2.2
noncomputable def WB (C:Cx) (t:Env→Sem Bool) (ρ:LM) (σ:MS) (Q:Bool→MS→Prop):Prop :=
 ∀ (A:Around) (env:Env) (s:Shared),CxOk C A env→St b σ s.heap→Loc b env ρ σ s.heap→wpAny (model pw w) A (t env) (FU b σ s Q) noE s
noncomputable def Nd (σ:MS) (s:Shared) (Q:List MV→MS→Prop) (vs:List Value) (s':Shared):Prop:=∃ mvs σ',Q mvs σ'∧VRs b s'.heap mvs vs∧St b σ' s'.heap∧Ev noX σ s σ' s'
variable {b} in
theorem Nd.elim {σ:MS} {s s':Shared} {Q:List MV→MS→Prop} {v:List Value} {P:Prop} (g:Nd b σ s Q v s') (k:∀ mv σ',Q mv σ'→VRs b s'.heap mv v→St b σ' s'.heap→Ev noX σ s σ' s'→P):P:=Exists.elim g fun mv h=>Exists.elim h fun σ' h=>k mv σ' h.1 h.2.1 h.2.2.1 h.2.2.2
noncomputable def WL (C:Cx) (t:Env→Sem (List Value)) (ρ:LM) (σ:MS) (Q:List MV→MS→Prop):Prop :=
 ∀ (A:Around) (env:Env) (s:Shared),CxOk C A env→St b σ s.heap→Loc b env ρ σ s.heap→wpAny (model pw w) A (t env) (Nd b σ s Q) noE s
noncomputable def Cy (env:Env) (σ:MS) (s:Shared) (Q:MF→LM→MS→Prop) (f:Flow) (s':Shared):Prop :=
 ∃ mf ρ' σ',Q mf ρ' σ'∧FR b s'.heap mf f∧St b σ' s'.heap∧Loc b env ρ' σ' s'.heap∧Ev (BL env) σ s σ' s'
variable {b} in
theorem Cy.elim {env:Env} {σ:MS} {s s':Shared} {Q:MF→LM→MS→Prop} {v:Flow} {P:Prop} (g:Cy b env σ s Q v s') (k:∀ mf ρ' σ',Q mf ρ' σ'→FR b s'.heap mf v→St b σ' s'.heap→Loc b env ρ' σ' s'.heap→Ev (BL env) σ s σ' s'→P):P:=Exists.elim g fun mf h=>Exists.elim h fun ρ' h=>Exists.elim h fun σ' h=>k mf ρ' σ' h.1 h.2.1 h.2.2.1 h.2.2.2.1 h.2.2.2.2
noncomputable def WS (C:Cx) (t:Env→Sem Flow) (ρ:LM) (σ:MS) (Q:MF→LM→MS→Prop):Prop :=
 ∀ (A:Around) (env:Env) (s:Shared),CxOk C A env→St b σ s.heap→Loc b env ρ σ s.heap→wpAny (model pw w) A (t env) (Cy b env σ s Q) noE s
noncomputable def WO (d:Nat) (t:List Value→Sem Value) (as:List MV) (σ:MS) (Q:MV→MS→Prop):Prop :=
 ∀ (A:Around) (s:Shared) (vs:List Value),Rm d A→St b σ s.heap→VRs b s.heap as vs→wpAny (model pw w) A (t vs) (AC b σ s Q) noE s
noncomputable def WC (d:Nat) (f:Value) (as:List MV) (σ:MS) (Q:MV→MS→Prop):Prop:=WO w b d (fun vs=>call f vs) as σ Q
end
section
variable {w:World} {b:Heap}
mutual
theorem JY {h h':Heap} (K:∀ a items,IsTup h a items→IsTup h' a items) (L:∀ a items,(b.get? a).isSome=true→h.IsList a items→h'.IsList a items) :
  ∀ (mv:MV) (v:Value),VR b h mv v→VR b h' mv v
 | .none=>by
  intro _ e
  exact e
 | .bool _=>by
  intro _ e
  exact e
 | .int _=>by
  intro _ e
  exact e
 | .str _=>by
  intro _ e
  exact e
 | .bytes _=>by
  intro _ e
  exact e
 | .ref _=>by
  intro _ e
  exact e
 | .raw _=>by
  intro _ e
  exact e
 | .tup vs=>by
  intro _ r_1
  obtain ⟨a,items,e,t,r⟩:=r_1
  exact ⟨a,items,e,K _ _ t,DM K L vs _ r⟩
 | .flist vs=>by
  intro _ r_2
  obtain ⟨a,items,e,l,t,r⟩:=r_2
  exact ⟨a,items,e,l,L _ _ l t,DM K L vs _ r⟩
theorem DM {h h':Heap} (K:∀ a items,IsTup h a items→IsTup h' a items) (L:∀ a items,(b.get? a).isSome=true→h.IsList a items→h'.IsList a items) :
  ∀ (mvs:List MV) (vs:List Value),VRs b h mvs vs→VRs b h' mvs vs
 | []=>by
  intro _ e
  exact e
 | m::ms=>by
  intro _ r_3
  obtain ⟨v,vs,e,r,rs⟩:=r_3
  exact ⟨v,vs,e,JY K L m v r,DM K L ms vs rs⟩
end
noncomputable def XOk (b:Heap) (X:Addr→Prop) (h:Heap):Prop:=∀ a,X a→b.get? a=none∧∀ items,¬ IsTup h a items
theorem AG (h:Heap):XOk b noX h:=fun U x=>x.elim
theorem Loc.xok {env:Env} {ρ:LM} {σ:MS} {h:Heap} (L:Loc b env ρ σ h):XOk b (BL env) h:=by
 rintro a (rfl | ⟨x,hx⟩)
 ·refine hide fun P_ k_=> ?_
  refine Sw L.ns fun m o es ep ho hd U=> ?_
  refine k_ ?_
  refine ⟨L.low,fun items ⟨o',ho',_,n,e⟩=> ?_⟩
  rw [ho] at ho'; cases ho'; rw [hd] at e; cases e
 ·refine hide fun P_ k_=> ?_
  obtain ⟨⟨o,v,ho,hd⟩,lo,_⟩:=L.cells x a hx
  refine k_ ?_
  refine ⟨lo,fun items ⟨o',ho',_,n,e⟩=> ?_⟩
  rw [ho] at ho'; cases ho'; rw [hd] at e; cases e
theorem St.tup_free {σ:MS} {h:Heap} (S:St b σ h) {a:Addr} {items:Array Value} (t:IsTup h a items):¬ AF σ a:=by
 refine hide fun P_ k_=> ?_
 refine Br t fun o ho hc r_=> ?_
 obtain ⟨n,hd⟩:=r_
 refine k_ ?_
 rintro (hs | ⟨x,C,t,hx⟩)
 ·refine hide fun P_ k_=> ?_
  obtain ⟨mo,hm⟩:=Option.isSome_iff_exists.mp hs
  refine k_ ?_
  have r:=S.obj a mo hm
  cases mo with
  | list vs=>obtain ⟨items,n,ho',_⟩:=r; rw [ho] at ho'; cases ho'; simp at hc
  | dict es n=>obtain ⟨des,ho',_⟩:=r; rw [ho] at ho'; cases ho'; simp at hc
  | inst C d t=>obtain ⟨des,n,ho',_⟩:=r; rw [ho] at ho'; cases ho'; simp at hc
  | barr x=>have ho':h.get? a=_:=r; rw [ho] at ho'; cases ho'; simp at hc
  | rng x=>obtain ⟨_,_,_,ho'⟩:=r; rw [ho] at ho'; cases ho'; simp at hc
 ·refine hide fun P_ k_=> ?_
  refine BD (S.obj x _ hx) fun des n' U ho' U=> ?_
  refine k_ ?_
  rw [ho] at ho'; cases ho'; simp at hc
theorem EL {α:Type} {x:Option α} {P:Prop} (n:x=none) (s:x.isSome=true):P:=by rw [n] at s; cases s
theorem St.low_free {σ:MS} {h:Heap} (S:St b σ h) {a:Addr} (l:(b.get? a).isSome=true):¬ AF σ a:=fun ow=>EL (S.low a ow) l
section
variable {X:Addr→Prop} {σ σ' σ'':MS} {s s' s'':Shared}
theorem Ev.refl (X:Addr→Prop) (σ:MS) (s:Shared):Ev X σ s σ s:=⟨fun U o e=>⟨o,e⟩,rfl,rfl,fun U U e U U=>e,fun U U U o=>o⟩
theorem Ev.trans (e:Ev X σ s σ' s') (f:Ev X σ' s' σ'' s''):Ev X σ s σ'' s'' :=
 ⟨fun a o h=>let ⟨o',h'⟩:=e.dom a o h; f.dom a o' h',f.gens.trans e.gens,f.os.trans e.os,
  fun a o h n x=>f.keep a o (e.keep a o h n x) (fun q=>n (e.new a o h q)) x,
  fun a o h q=>let ⟨o',h'⟩:=e.dom a o h; e.new a o h (f.new a o' h' q)⟩
theorem Ev.weaken {Y:Addr→Prop} (e:Ev X σ s σ' s') (h:∀ a,X a→Y a):Ev Y σ s σ' s':=⟨e.dom,e.gens,e.os,fun a o q n y=>e.keep a o q n fun x=>y (h a x),e.new⟩
theorem Ev.lift (e:Ev noX σ s σ' s'):Ev X σ s σ' s':=e.weaken fun U f=>f.elim
theorem Ev.tup (e:Ev X σ s σ' s') (S:St b σ s.heap) (x:XOk b X s.heap) {a:Addr} {items:Array Value} (t:IsTup s.heap a items):IsTup s'.heap a items:=by
 have nf:=S.tup_free t
 have nx:¬ X a:=fun q=>(x a q).2 items t
 refine Br t fun o ho hc r_=> ?_
 obtain ⟨n,hd⟩:=r_
 exact Cu o (e.keep a o ho nf nx) hc ⟨n,hd⟩
theorem Ev.fl (e:Ev X σ s σ' s') (S:St b σ s.heap) (x:XOk b X s.heap) {a:Addr} {items:Array Value} (l:(b.get? a).isSome=true) (t:s.heap.IsList a items):s'.heap.IsList a items:=by
 have nf:=S.low_free l
 refine hide fun P_ k_=> ?_
 refine Br t fun o ho hc r_=> ?_
 obtain ⟨n,hd⟩:=r_
 refine k_ ?_
 exact Cu o (e.keep a o ho nf (fun q=>EL (x a q).1 l)) hc ⟨n,hd⟩
theorem Ev.vr (e:Ev X σ s σ' s') (S:St b σ s.heap) (x:XOk b X s.heap) {mv:MV} {v:Value} (r:VR b s.heap mv v):VR b s'.heap mv v :=
 JY (fun U U t=>e.tup S x t) (fun U U l t=>e.fl S x l t) mv v r
theorem Ev.vrs (e:Ev X σ s σ' s') (S:St b σ s.heap) (x:XOk b X s.heap) {mv:List MV} {v:List Value} (r:VRs b s.heap mv v):VRs b s'.heap mv v :=
 DM (fun U U t=>e.tup S x t) (fun U U l t=>e.fl S x l t) mv v r
theorem Ev.loc {env:Env} {ρ:LM} (e:Ev noX σ s σ' s') (S:St b σ s.heap) (L:Loc b env ρ σ s.heap):Loc b env ρ σ' s'.heap:=by
 have hL:∀ m,s.heap.Ns env.locals m→s'.heap.Ns env.locals m:=fun m q0_=>NH q0_ fun o es ep ho r=>⟨o,es,ep,e.keep _ _ ho L.own id,r⟩
 refine ⟨fun x mv hx=> ?_,let ⟨m,hm⟩:=L.ns; ⟨m,hL m hm⟩,L.low,fun ow=>L.own (let ⟨m,o,es,ep,ho,r⟩:=L.ns; e.new _ o ho ow),fun x c hc=> ?_⟩
 ·refine hide fun P_ k_=> ?_
  obtain ⟨v,hv,hr⟩:=L.val x mv hx
  refine k_ ?_
  refine ⟨v,?_,e.vr S (AG _) hr⟩
  rcases hv with ⟨k,m,hm,hmx⟩ | ⟨k,c,o,hc,ho,hd⟩
  ·exact .inl ⟨k,m,hL m hm,hmx⟩
  ·exact .inr ⟨k,c,o,hc,e.keep _ _ ho (L.cells x c hc).2.2.1 id,hd⟩
 ·refine hide fun P_ k_=> ?_
  obtain ⟨⟨o,v,ho,hd⟩,lo,nf,un⟩:=L.cells x c hc
  refine k_ ?_
  exact ⟨⟨o,v,e.keep _ _ ho nf id,hd⟩,lo,fun ow=>nf (e.new _ o ho ow),un⟩
end
theorem Ev.toks (σ:MS) (s:Shared) (n:Nat):Ev noX σ s σ {s with toks:=n}:=⟨fun U o e=>⟨o,e⟩,rfl,rfl,fun U U e U U=>e,fun U U U o=>o⟩
theorem Ah (h:Heap):h.get? h.objs.size=none:=by
 cases e:h.get? h.objs.size with
 | none=>rfl
 | some o=>exact absurd (Heap.lt_size e) (Nat.lt_irrefl _)
theorem St.low_new {σ:MS} {h:Heap} (S:St b σ h) {a:Addr} (n:h.get? a=none):b.get? a=none:=by
 cases e:b.get? a with
 | none=>rfl
 | some o=>rw [S.stays a o e] at n; cases n
theorem St.free {σ:MS} {h:Heap} (S:St b σ h):σ h.objs.size=none∧¬ AF σ h.objs.size:=by
 have key:∀ a,AF σ a→∃ o,h.get? a=some o:=by
  rintro a (hs | ⟨x,C,t,hx⟩)
  ·obtain ⟨mo,hm⟩:=Option.isSome_iff_exists.mp hs
   have r:=S.obj a mo hm
   cases mo with
   | list vs=>obtain ⟨items,n,ho',_⟩:=r; exact ⟨_,ho'⟩
   | dict es n=>obtain ⟨des,ho',_⟩:=r; exact ⟨_,ho'⟩
   | inst C d t=>obtain ⟨m,n,ho',_⟩:=r; exact ⟨_,ho'⟩
   | barr x=>exact ⟨_,r⟩
   | rng x=>obtain ⟨_,_,_,ho'⟩:=r; exact ⟨_,ho'⟩
  ·refine BD (S.obj x _ hx) fun m n' U ho' U=> ?_
   exact ⟨_,ho'⟩
 have nf:¬ AF σ h.objs.size:=fun ow=>by
  obtain ⟨o,ho⟩:=key _ ow
  exact absurd (Heap.lt_size ho) (Nat.lt_irrefl _)
 refine ⟨?_,nf⟩
 cases e:σ h.objs.size with
 | none=>rfl
 | some o=>exact absurd (.inl (by rw [e]; rfl)) nf
section
variable {C:Cx} {ρ:LM} {σ:MS} {Q Q':MV→MS→Prop}
theorem AC.ev {s₀ s s':Shared} {σ₀:MS} {v:Value} (e:Ev noX σ₀ s₀ σ s) (g:AC b σ s Q v s'):AC b σ₀ s₀ Q v s' :=
 let ⟨mv,σ',q,r,S,f⟩:=g; ⟨mv,σ',q,r,S,e.trans f⟩
theorem FU.ev {s₀ s s':Shared} {σ₀:MS} {v:Bool} {Q:Bool→MS→Prop} (e:Ev noX σ₀ s₀ σ s) (g:FU b σ s Q v s'):FU b σ₀ s₀ Q v s' :=
 let ⟨σ',q,S,f⟩:=g; ⟨σ',q,S,e.trans f⟩
theorem AC.mono {s s':Shared} {v:Value} (h:∀ mv σ',Q mv σ'→Q' mv σ') (g:AC b σ s Q v s'):AC b σ s Q' v s' :=
 let ⟨mv,σ',q,r⟩:=g; ⟨mv,σ',h _ _ q,r⟩
theorem AC.pure {s:Shared} {mv:MV} {v:Value} (q:Q mv σ) (r:VR b s.heap mv v) (S:St b σ s.heap):AC b σ s Q v s:=⟨mv,σ,q,r,S,Ev.refl ..⟩
theorem AC.tok {s:Shared} {mv:MV} {v:Value} {n:Nat} (q:Q mv σ) (r:VR b s.heap mv v) (S:St b σ s.heap):AC b σ s Q v {s with toks:=n}:=⟨mv,σ,q,r,S,Ev.toks ..⟩
theorem WE.mono {t:Env→Sem Value} (h:WE w b C t ρ σ Q) (f:∀ mv σ',Q mv σ'→Q' mv σ'):WE w b C t ρ σ Q':=fun A env s c S L =>
 wpAny_mono (h A env s c S L) (fun U U g=>g.mono f) fun U U x=>x
end
end
section
variable {w:World} {b:Heap}
variable (w b) in
noncomputable def WO1 (d:Nat) (t:Value→Sem Value) (x:MV) (σ:MS) (Q:MV→MS→Prop):Prop :=
 ∀ (A:Around) (s:Shared) (v:Value),Rm d A→St b σ s.heap→VR b s.heap x v→wpAny (model pw w) A (t v) (AC b σ s Q) noE s
variable (w b) in
noncomputable def WO2 (d:Nat) (t:Value→Value→Sem Value) (x y:MV) (σ:MS) (Q:MV→MS→Prop):Prop :=
 ∀ (A:Around) (s:Shared) (v u:Value),Rm d A→St b σ s.heap→VR b s.heap x v→VR b s.heap y u→wpAny (model pw w) A (t v u) (AC b σ s Q) noE s
noncomputable def Cs (b:Heap) (σ:MS) (s:Shared) (Q:Bool→MS→Prop) (v:Value) (s':Shared):Prop:=∃ bb σ',v= .bool bb∧Q bb σ'∧St b σ' s'.heap∧Ev noX σ s σ' s'
theorem Cs.elim {b:Heap} {σ:MS} {s s':Shared} {Q:Bool→MS→Prop} {v:Value} {P:Prop} (g:Cs b σ s Q v s') (k:∀ bb σ',v= .bool bb→Q bb σ'→St b σ' s'.heap→Ev noX σ s σ' s'→P):P:=Exists.elim g fun bb h=>Exists.elim h fun σ' h=>k bb σ' h.1 h.2.1 h.2.2.1 h.2.2.2
variable (w b) in
noncomputable def WK (d:Nat) (op:CmpOp) (x y:MV) (σ:MS) (Q:Bool→MS→Prop):Prop :=
 ∀ (A:Around) (s:Shared) (v u:Value),Rm d A→St b σ s.heap→VR b s.heap x v→VR b s.heap y u→wpAny (model pw w) A (compareOp op v u) (Cs b σ s Q) noE s
noncomputable abbrev tst (e:Expr):Env→Sem Bool:=fun env=>isTrue e env (eval e env)
section
variable {C:Cx} {ρ:LM} {σ:MS} {Q:MV→MS→Prop}
theorem WE.go {σ₀:MS} {s₀ s:Shared} {A:Around} {env:Env} {t:Env→Sem Value} (h:WE w b C t ρ σ Q) (c:CxOk C A env) (S:St b σ s.heap) (L:Loc b env ρ σ s.heap) (e:Ev noX σ₀ s₀ σ s) :
  wpAny (model pw w) A (t env) (AC b σ₀ s₀ Q) noE s:=wpAny_mono (h A env s c S L) (fun U U g=>g.ev e) fun U U x=>x
theorem WB.go {σ₀:MS} {s₀ s:Shared} {A:Around} {env:Env} {t:Env→Sem Bool} {Q:Bool→MS→Prop} (h:WB w b C t ρ σ Q) (c:CxOk C A env) (S:St b σ s.heap) (L:Loc b env ρ σ s.heap) (e:Ev noX σ₀ s₀ σ s) :
  wpAny (model pw w) A (t env) (FU b σ₀ s₀ Q) noE s:=wpAny_mono (h A env s c S L) (fun U U g=>g.ev e) fun U U x=>x
theorem Ae {i:Int} {k:Nat} {pos:Pos} (q:Q (.int i) σ):WE w b C (eval (.Constant (.int i) k pos)) ρ σ Q:=fun U U U U S U=>wpAny_Constant_int (AC.tok q ⟨_,rfl⟩ S)
theorem JD {x:Str} {k:Nat} {pos:Pos} (q:Q (.str x) σ):WE w b C (eval (.Constant (.str x) k pos)) ρ σ Q:=fun U U U U S U=>Constant_str (AC.tok q ⟨_,rfl⟩ S)
theorem Ea {k:Nat} {pos:Pos} (q:Q .none σ):WE w b C (eval (.Constant .none k pos)) ρ σ Q:=fun U U U U S U=>wpAny_pure (AC.pure q rfl S)
theorem Kq {A:Around} {env:Env} {s:Shared} {x:Str} {v:Value} {P:Value→Shared→Prop} {E:Value→Shared→Prop} (hk:env.scope.kind= .function) (h:Nc env s.heap x v) (q:P v s)
  (hn:(x==("__classdict__":Str))=false):wpAny (model pw w) A (loadName env x) P E s:=by
 rcases h with ⟨k,m,hm,hmx⟩ | ⟨k,c,o,hc,ho,hd⟩
 ·exact wpAny_loadName_local hk k hm hmx q
 ·rcases k with k | k
  ·exact wpAny_loadName_cell hk k hc ⟨o,ho,hd⟩ q
  ·exact wpAny_loadName_free hk k hc ⟨o,ho,hd⟩ q hn
theorem JC {x:Str} {pos:Pos} {mv:MV} (hv:ρ.lookup x=some mv) (q:Q mv σ) (hd:(x==("__debug__":Str))=false:=by decide) (hn:(x==("__classdict__":Str))=false:=by decide) :
  WE w b C (eval (.Name x pos)) ρ σ Q:=fun A env s c S L=>by
 refine Af (L.val x mv hv) fun v hv r=> ?_
 exact wpAny_Name (Kq c.kind hv (AC.pure q r S) hn) hd
theorem Tx {op:Operator} {l r:Expr} {pos:Pos} (h:WE w b C (eval l) ρ σ fun va σ1=>WE w b C (eval r) ρ σ1 fun vb σ2=>WO2 w b C.d (binaryOp op) va vb σ2 Q):WE w b C (eval (.BinOp l op r pos)) ρ σ Q :=
 fun A env s c S L=>wpAny_BinOp (wpAny_mono (h A env s c S L) (fun va s1 g_=>g_.elim fun a σ1 h1 r1 S1 e1 =>
  wpAny_mono (h1 A env s1 c S1 (e1.loc S L)) (fun vb s2 g_=>g_.elim fun b' σ2 h2 r2 S2 e2=>wpAny_mono (h2 A s2 va vb c.room S2 (e2.vr S1 (AG _) r1) r2) (fun U U g=>(g.ev e2).ev e1) fun U U x=>x) fun U U x=>x) fun U U x=>x)
theorem eUn {op:UnaryOp} {x:Expr} {pos:Pos} (h:WE w b C (eval x) ρ σ fun va σ1=>WO1 w b C.d (unaryOp op) va σ1 Q):WE w b C (eval (.UnaryOp op x pos)) ρ σ Q :=
 fun A env s c S L=>wpAny_UnaryOp (wpAny_mono (h A env s c S L) (fun va s1 g_=>g_.elim fun a σ1 h1 r1 S1 e1=>wpAny_mono (h1 A s1 va c.room S1 r1) (fun U U g=>g.ev e1) fun U U x=>x) fun U U x=>x)
theorem eIf {t x y:Expr} {pos:Pos} (h:WB w b C (tst t) ρ σ fun bb σ1=>if bb=true then WE w b C (eval x) ρ σ1 Q else WE w b C (eval y) ρ σ1 Q):WE w b C (eval (.IfExp t x y pos)) ρ σ Q :=
 fun A env s c S L=>wpAny_IfExp (wpAny_mono (h A env s c S L) (fun bb s1 g_=>g_.elim fun σ1 h1 S1 e1=>by
  cases bb
  ·exact WE.go h1 c S1 (e1.loc S L) e1
  ·exact WE.go h1 c S1 (e1.loc S L) e1) fun U U x=>x)
theorem Tw {op:CmpOp} {l r:Expr} {pos:Pos} (h:WE w b C (eval l) ρ σ fun va σ1=>WE w b C (eval r) ρ σ1 fun vb σ2=>WK w b C.d op va vb σ2 fun bb σ3=>Q (.bool bb) σ3)
  (hm:behindInMarks op r=false:=by with_unfolding_all rfl):WE w b C (eval (.Compare l [op] [r] pos)) ρ σ Q :=
 fun A env s c S L=>wpAny_Compare1 (wpAny_mono (h A env s c S L) (fun va s1 g_=>g_.elim fun a σ1 h1 r1 S1 e1 =>
  wpAny_mono (h1 A env s1 c S1 (e1.loc S L)) (fun vb s2 g_=>g_.elim fun b' σ2 h2 r2 S2 e2=>wpAny_mono (h2 A s2 va vb c.room S2 (e2.vr S1 (AG _) r1) r2)
   (fun v s3 g_=>g_.elim fun bb σ3 hv q S3 e3=>by subst hv; exact ⟨_,σ3,q,rfl,S3,e1.trans (e2.trans e3)⟩) fun U U x=>x) fun U U x=>x) fun U U x=>x) hm
theorem SR {Q:Bool→MS→Prop} {op:CmpOp} {l r:Expr} {pos:Pos} (h:WE w b C (eval l) ρ σ fun va σ1=>WE w b C (eval r) ρ σ1 fun vb σ2=>WK w b C.d op va vb σ2 Q)
  (hm:behindInMarks op r=false:=by with_unfolding_all rfl):WB w b C (tst (.Compare l [op] [r] pos)) ρ σ Q :=
 fun A env s c S L=>wpAny_isTrue_Compare1 (wpAny_mono (h A env s c S L) (fun va s1 g_=>g_.elim fun a σ1 h1 r1 S1 e1 =>
  wpAny_mono (h1 A env s1 c S1 (e1.loc S L)) (fun vb s2 g_=>g_.elim fun b' σ2 h2 r2 S2 e2=>wpAny_mono (h2 A s2 va vb c.room S2 (e2.vr S1 (AG _) r1) r2)
   (fun v s3 g_=>g_.elim fun bb σ3 hv q S3 e3=>by subst hv; exact wpAny_truthy_bool ⟨σ3,q,S3,e1.trans (e2.trans e3)⟩) fun U U x=>x) fun U U x=>x) fun U U x=>x) hm
theorem H6 {Q:Bool→MS→Prop} {x:Expr} {pos:Pos} (h:WB w b C (tst x) ρ σ fun bb σ1=>Q (!bb) σ1):WB w b C (tst (.UnaryOp .Not x pos)) ρ σ Q :=
 fun A env s c S L=>wpAny_isTrue_Not (wpAny_mono (h A env s c S L) (fun U U g=>g) fun U U x=>x)
theorem GH {Q:Bool→MS→Prop} {e:Expr} (h:WE w b C (eval e) ρ σ fun mv σ1=>∃ bb,mv= .bool bb∧Q bb σ1)
  (he:∀ env whole,isTrue e env whole=(do let v←whole; standAt e.pos; holding [v] (truthy v)):=by intro _ _; rfl):WB w b C (tst e) ρ σ Q :=
 fun A env s c S L=>wpAny_isTrue_value (wpAny_mono (h A env s c S L) (fun v s1 g_=>g_.elim fun mv σ1 q0_ r1 S1 e1=>Af q0_ fun bb hb q=>by
  subst hb
  have r1:v= .bool bb:=r1
  subst r1
  exact wpAny_truthy_bool ⟨σ1,q,S1,e1⟩) fun U U x=>x) (he _ _)
theorem Lq {Q:Bool→MS→Prop} {es:List Expr} {pos:Pos} (h:WB w b C (allTrue .And es) ρ σ Q):WB w b C (tst (.BoolOp .And es pos)) ρ σ Q:=fun A env s c S L=>wpAny_isTrue_BoolOp (h A env s c S L)
theorem tOr {Q:Bool→MS→Prop} {es:List Expr} {pos:Pos} (h:WB w b C (allTrue .Or es) ρ σ Q):WB w b C (tst (.BoolOp .Or es pos)) ρ σ Q:=fun A env s c S L=>wpAny_isTrue_BoolOp (h A env s c S L)
theorem Pu {Q:Bool→MS→Prop} (q:Q true σ):WB w b C (allTrue .And []) ρ σ Q:=fun U U U U S U=>wpAny_allTrue_And_nil ⟨σ,q,S,Ev.refl ..⟩
theorem Hj {Q:Bool→MS→Prop} (q:Q false σ):WB w b C (allTrue .Or []) ρ σ Q:=fun U U U U S U=>wpAny_allTrue_Or_nil ⟨σ,q,S,Ev.refl ..⟩
theorem Dm {Q:Bool→MS→Prop} {e:Expr} {es:List Expr} (h:WB w b C (tst e) ρ σ fun bb σ1=>if bb=true then WB w b C (allTrue .And es) ρ σ1 Q else Q false σ1):WB w b C (allTrue .And (e::es)) ρ σ Q :=
 fun A env s c S L=>wpAny_allTrue_And_cons (wpAny_mono (h A env s c S L) (fun bb s1 g_=>g_.elim fun σ1 h1 S1 e1=>by
  cases bb
  ·exact ⟨σ1,h1,S1,e1⟩
  ·exact WB.go h1 c S1 (e1.loc S L) e1) fun U U x=>x)
theorem B0 {Q:Bool→MS→Prop} {e:Expr} {es:List Expr} (h:WB w b C (tst e) ρ σ fun bb σ1=>if bb=true then Q true σ1 else WB w b C (allTrue .Or es) ρ σ1 Q):WB w b C (allTrue .Or (e::es)) ρ σ Q :=
 fun A env s c S L=>wpAny_allTrue_Or_cons (wpAny_mono (h A env s c S L) (fun bb s1 g_=>g_.elim fun σ1 h1 S1 e1=>by
  cases bb
  ·exact WB.go h1 c S1 (e1.loc S L) e1
  ·exact ⟨σ1,h1,S1,e1⟩) fun U U x=>x)
end
section
variable {C:Cx} {ρ:LM} {σ:MS} {Q:MF→LM→MS→Prop}
theorem Cy.ev {env:Env} {s₀ s s':Shared} {σ₀:MS} {f:Flow} (e:Ev (BL env) σ₀ s₀ σ s) (g:Cy b env σ s Q f s'):Cy b env σ₀ s₀ Q f s' :=
 Tq g fun mf ρ' σ' q r S L f=>Sr mf ρ' σ' q r S L (e.trans f)
theorem WS.go {σ₀:MS} {s₀ s:Shared} {A:Around} {env:Env} {t:Env→Sem Flow} (h:WS w b C t ρ σ Q) (c:CxOk C A env) (S:St b σ s.heap) (L:Loc b env ρ σ s.heap) (e:Ev (BL env) σ₀ s₀ σ s) :
  wpAny (model pw w) A (t env) (Cy b env σ₀ s₀ Q) noE s:=wpAny_mono (h A env s c S L) (fun U U g=>g.ev e) fun U U x=>x
theorem WS.mono {Q':MF→LM→MS→Prop} {t:Env→Sem Flow} (h:WS w b C t ρ σ Q) (f:∀ mf ρ' σ',Q mf ρ' σ'→Q' mf ρ' σ'):WS w b C t ρ σ Q':=fun A env s c S L =>
 wpAny_mono (h A env s c S L) (fun U U q0_=>NH q0_ fun mf ρ' σ' q r=>⟨mf,ρ',σ',f _ _ _ q,r⟩) fun U U x=>x
theorem WB.mono {Q Q':Bool→MS→Prop} {t:Env→Sem Bool} (h:WB w b C t ρ σ Q) (f:∀ bb σ',Q bb σ'→Q' bb σ'):WB w b C t ρ σ Q':=fun A env s c S L =>
 wpAny_mono (h A env s c S L) (fun U U q0_=>Af q0_ fun σ' q r=>⟨σ',f _ _ q,r⟩) fun U U x=>x
theorem Ai (q:Q .next ρ σ):WS w b C (execs []) ρ σ Q:=fun U U U U S L=>wpAny_execs_nil ⟨.next,ρ,σ,q,rfl,S,L,Ev.refl ..⟩
theorem Kd {st:Stmt} {rest:List Stmt} (h:WS w b C (exec st) ρ σ fun mf ρ1 σ1=>match mf with | .next=>WS w b C (execs rest) ρ1 σ1 Q | f=>Q f ρ1 σ1):WS w b C (execs (st::rest)) ρ σ Q :=
 fun A env s c S L=>wpAny_execs_cons (wpAny_mono (h A env s c S L) (fun f s1 g_=>g_.elim fun mf ρ1 σ1 q r S1 L1 e1=>by
  cases mf with
  | next=>have r:f= .next:=r; subst r; exact WS.go q c S1 L1 e1
  | brk=>have r:f= .brk:=r; subst r; exact ⟨.brk,ρ1,σ1,q,rfl,S1,L1,e1⟩
  | cont=>have r:f= .cont:=r; subst r; exact ⟨.cont,ρ1,σ1,q,rfl,S1,L1,e1⟩
  | ret mv=>obtain ⟨v,rfl,r⟩:=r; exact ⟨.ret mv,ρ1,σ1,q,⟨v,rfl,r⟩,S1,L1,e1⟩) fun U U x=>x)
theorem Oc {pos:Pos} (q:Q .brk ρ σ):WS w b C (exec (.Break pos)) ρ σ Q:=fun U U U U S L=>wpAny_Break ⟨.brk,ρ,σ,q,rfl,S,L,Ev.refl ..⟩
theorem Mw {pos:Pos} (q:Q (.ret .none) ρ σ):WS w b C (exec (.Return none pos)) ρ σ Q:=fun U U U U S L=>wpAny_Return_none ⟨.ret .none,ρ,σ,q,⟨_,rfl,rfl⟩,S,L,Ev.refl ..⟩
theorem QP {e:Expr} {pos:Pos} (h:WE w b C (eval e) ρ σ fun mv σ1=>Q (.ret mv) ρ σ1):WS w b C (exec (.Return (some e) pos)) ρ σ Q :=
 fun A env s c S L=>wpAny_Return_some (wpAny_mono (h A env s c S L) (fun v s1 g_=>g_.elim fun mv σ1 q r S1 e1=>⟨.ret mv,ρ,σ1,q,⟨v,rfl,r⟩,S1,e1.loc S L,e1.lift⟩) fun U U x=>x)
theorem sIf {t:Expr} {x y:List Stmt} {pos:Pos} (h:WB w b C (tst t) ρ σ fun bb σ1=>if bb=true then WS w b C (execs x) ρ σ1 Q else WS w b C (execs y) ρ σ1 Q):WS w b C (exec (.If t x y pos)) ρ σ Q :=
 fun A env s c S L=>wpAny_If (wpAny_mono (h A env s c S L) (fun bb s1 g_=>g_.elim fun σ1 h1 S1 e1=>by
  cases bb
  ·exact WS.go h1 c S1 (e1.loc S L) e1.lift
  ·exact WS.go h1 c S1 (e1.loc S L) e1.lift) fun U U x=>x)
theorem Ky {env:Env} (h:env.scope.kind= .function):interactive env=false:=by unfold interactive; rw [h]; rfl
theorem Qt {e:Expr} {pos:Pos} (h:WE w b C (eval e) ρ σ fun U σ1=>Q .next ρ σ1) (hs:∀ env,swapsWith e none pos.line env=pure false:=by intro _; rfl):WS w b C (exec (.Expr e pos)) ρ σ Q :=
 fun A env s c S L=>wpAny_Expr_any (wpAny_mono (h A env s c S L) (fun v s1 g_=>g_.elim fun mv σ1 q r S1 e1=>⟨.next,ρ,σ1,q,rfl,S1,e1.loc S L,e1.lift⟩) fun U U x=>x) (Ky c.kind) (hs env)
end
end
section
variable {w:World} {b:Heap} {σ:MS} {h h':Heap}
theorem EF (K:∀ mv v,VR b h mv v→VR b h' mv v):∀ (es:List (MV×MV)) (l:List DictEntry),EsR b h es l→EsR b h' es l
 | []=>by
  intro _ e
  exact e
 | (k,v)::r=>by
  intro _ r_5
  obtain ⟨e,es,q,a,c,d,f,g⟩:=r_5
  exact ⟨e,es,q,K _ _ a,K _ _ c,d,f,EF K r es g⟩
theorem H3 (K:∀ mv v,VR b h mv v→VR b h' mv v):∀ (es:List (Str×MV)) (l:List DictEntry),AtR b h es l→AtR b h' es l
 | []=>by
  intro _ e
  exact e
 | (k,v)::r=>by
  intro _ r_7
  obtain ⟨e,es,q,a,c,g⟩:=r_7
  exact ⟨e,es,q,a,K _ _ c,H3 K r es g⟩
theorem Gq {a:Addr} {o:MO} (K:∀ mv v,VR b h mv v→VR b h' mv v) (KS:∀ mv v,VRs b h mv v→VRs b h' mv v) (ka:h.get? a=h'.get? a∨∀ x,h.get? a=some x→h'.get? a=some x)
  (kd:∀ C d t,o= .inst C d t→∀ x,h.get? d=some x→h'.get? d=some x) (r:Pv b h a o):Pv b h' a o:=by
 have ka:∀ x,h.get? a=some x→h'.get? a=some x:=ka.elim (fun e x q=>e▸q) id
 cases o with
 | list vs=>obtain ⟨items,n,ho,rs⟩:=r; exact ⟨items,n,ka _ ho,KS _ _ rs⟩
 | dict es n=>obtain ⟨des,ho,rs⟩:=r; exact ⟨des,ka _ ho,EF K _ _ rs⟩
 | inst C d t =>
  refine BD r fun des n ho hd rs=> ?_
  exact Bq des n (ka _ ho) (kd C d t rfl _ hd) (H3 K _ _ rs)
 | barr x=>exact ka _ r
 | rng x=>obtain ⟨t,u,v,ho⟩:=r; exact ⟨t,u,v,ka _ ho⟩
theorem BK {a:Addr} {o:MO} (e:σ a=some o):AF σ a:= .inl (by rw [e]; rfl)
theorem EJ {a C d:Addr} {t:List (Str×MV)} (e:σ a=some (.inst C d t)):AF σ d:= .inr ⟨a,C,t,e⟩
theorem D6 (S:St b σ h) {X:Addr→Prop} (hX:∀ a,X a→(∀ items,¬ IsTup h a items)∧b.get? a=none) (k:∀ a o,h.get? a=some o→¬ X a→h'.get? a=some o) :
  (∀ mv v,VR b h mv v→VR b h' mv v)∧∀ mv v,VRs b h mv v→VRs b h' mv v:=by
 have K:∀ a items,IsTup h a items→IsTup h' a items:=fun a items t=>by
  have nx:¬ X a:=fun x=>(hX a x).1 items t
  refine Af t fun o ho r=> ?_
  exact AQ o (k a o ho nx) r
 have L:∀ a items,(b.get? a).isSome=true→h.IsList a items→h'.IsList a items:=fun a items l q0_=>Af q0_ fun o ho r=>⟨o,k a o ho fun x=>EL (hX a x).2 l,r⟩
 exact ⟨JY K L,DM K L⟩
theorem DN {X:Addr→Prop} (x:XOk b X h):∀ a,X a→(∀ items,¬ IsTup h a items)∧b.get? a=none :=
 fun a q=>⟨(x a q).2,(x a q).1⟩
theorem St.keep (S:St b σ h) {X:Addr→Prop} (hX:XOk b X h) (hXo:∀ a,X a→¬ AF σ a) (k:∀ a o,h.get? a=some o→¬ X a→h'.get? a=some o):St b σ h':=by
 obtain ⟨K,KS⟩:=D6 S (DN hX) k
 refine ⟨fun a o e=>k a o (S.stays a o e) fun x=>EL (hX a x).1 (by rw [e]; rfl),fun a o e=> ?_,S.low,S.apart⟩
 exact Gq K KS (.inr fun x q=>k a x q fun x=>hXo a x (BK e)) (fun C d t q x hx=>k d x hx fun x=>hXo d x (EJ (q▸e))) (S.obj a o e)
theorem GO {a:Addr} (lo:b.get? a=none) (hn:∀ o,h.get? a=some o→∀ xs n,o.data≠ .seq xs n):XOk b (fun x=>x=a) h:=fun x e=>e▸⟨lo,fun items q0_=>by obtain ⟨o,ho,_,n,hd⟩:=q0_; exact hn o ho _ _ hd⟩
theorem Ns.noseq {a:Addr} {m:Str→Option Value} (n:h.Ns a m):∀ o,h.get? a=some o→∀ xs n,o.data≠ .seq xs n:=fun o ho xs k e=>by
 refine NG n fun o' es ep ho' hd U=> ?_
 rw [ho] at ho'; cases ho'; rw [e] at hd; cases hd
section
variable {C:Cx} {A:Around} {env:Env} {ρ:LM} {s:Shared}
theorem Ev.but {X:Addr→Prop} {s':Shared} (dom:∀ a o,s.heap.get? a=some o→X a→∃ o',s'.heap.get? a=some o') (g:s'.gens=s.gens) (os:s'.os=s.os) (k:∀ a o,s.heap.get? a=some o→¬ X a→s'.heap.get? a=some o):Ev X σ s σ s' :=
 ⟨fun a o e=>(Classical.em (X a)).elim (dom a o e) fun x=>⟨o,k a o e x⟩,g,os,fun a o e U x=>k a o e x,fun U U U o=>o⟩
theorem Hf {a:Addr} {h h':Heap} (hs:Heap.SameBut a h h') (ha:∃ o,h'.get? a=some o):∀ c o,h.get? c=some o→∃ o',h'.get? c=some o':=fun c o e=>by
 by_cases q:c=a
 ·exact q▸ha
 ·exact ⟨o,(hs.2 c q).trans e⟩
theorem DT {ρ:LM} {x y:Str} {v:MV}:(ρ.set x v).lookup y=if y=x then some v else ρ.lookup y:=by
 show List.lookup y ((x,v)::ρ)=_
 rw [List.lookup_cons]
 by_cases e:y=x
 ·subst e; simp
 ·have:(y==x)=false:=beq_eq_false_iff_ne.mpr e
  rw [this,if_neg e]
theorem Kb {x:Str} {v:Value} {mv:MV} {P:Unit→Shared→Prop} {E:Value→Shared→Prop} (c:CxOk C A env) (S:St b σ s.heap) (L:Loc b env ρ σ s.heap) (hk:env.kindOf x=some .local) (r:VR b s.heap mv v)
  (q:∀ s',St b σ s'.heap→Loc b env (ρ.set x mv) σ s'.heap→Ev (BL env) σ s σ s'→P () s'):wpAny (model pw w) A (storeName env x v) P E s:=by
 obtain ⟨m,hm⟩:=L.ns
 refine wpAny_storeName_local hk hm (fun h' hn hs=> ?_) (by rw [c.kind]; rfl)
 have kp:∀ a o,s.heap.get? a=some o→¬ a=env.locals→h'.get? a=some o:=fun a o e n=>(hs.2 a n).trans e
 have xo:=GO (b:=b) L.low (Ns.noseq hm)
 have S':St b σ h':=S.keep (X:=fun a=>a=env.locals) xo (fun a e=>e▸L.own) kp
 obtain ⟨K,_⟩:=D6 S (DN xo) kp
 have cne:∀ y c,env.cells.lookup y=some c→c≠env.locals:=fun y c hc e=>by
  obtain ⟨⟨o,v,ho,hd⟩,_⟩:=L.cells y c hc
  refine NG hm fun o' es ep ho' hd' U=> ?_
  rw [e] at ho; rw [ho] at ho'; cases ho'; rw [hd] at hd'; cases hd'
 refine q _ S' ⟨fun y mv' hy=> ?_,⟨_,hn⟩,L.low,L.own,fun y c hc=> ?_⟩ (Ev.but (fun a o e U=>Hf hs (let ⟨o,_,_,ho,_⟩:=hn; ⟨o,ho⟩) a o e) rfl rfl fun a o e n=>kp a o e fun z=>n (.inl z))
 ·rw [DT] at hy
  by_cases e:y=x
  ·subst e
   rw [if_pos rfl] at hy; cases hy
   exact AQ v (.inl ⟨hk,_,hn,if_pos rfl⟩) (K _ _ r)
  ·rw [if_neg e] at hy
   refine Af (L.val y mv' hy) fun u hu ru=> ?_
   refine AQ u ?_ (K _ _ ru)
   rcases hu with ⟨k,m',hm',hx⟩ | ⟨k,c,o,hc,ho,hd⟩
   ·refine .inl ⟨k,_,hn,?_⟩
    rw [if_neg e]
    refine KL hm fun o1 es1 ep1 ho1 hd1 U hf1=> ?_
    refine KL hm' fun o2 es2 ep2 ho2 hd2 U hf2=> ?_
    rw [ho1] at ho2; cases ho2; rw [hd1] at hd2; cases hd2
    rw [← hf1,hf2]; exact hx
   ·exact .inr ⟨k,c,o,hc,kp _ _ ho (cne y c hc),hd⟩
 ·obtain ⟨⟨o,v,ho,hd⟩,r⟩:=L.cells y c hc
  exact ⟨⟨o,v,kp _ _ ho (cne y c hc),hd⟩,r⟩
theorem Lr {x:Str} {v:Value} {mv:MV} {cc:Addr} {P:Unit→Shared→Prop} {E:Value→Shared→Prop} (c:CxOk C A env) (S:St b σ s.heap) (L:Loc b env ρ σ s.heap) (hk:env.kindOf x=some .cell) (hcx:env.cells.lookup x=some cc)
  (r:VR b s.heap mv v)
  (q:∀ s',St b σ s'.heap→Loc b env (ρ.set x mv) σ s'.heap→Ev (BL env) σ s σ s'→P () s'):wpAny (model pw w) A (storeName env x v) P E s:=by
 obtain ⟨⟨oc,v₀,hoc,hdc⟩,loc,ownc,unc⟩:=L.cells x cc hcx
 refine wpAny_storeName_cell c.kind hk hcx ⟨oc,hoc,hdc⟩ (fun h' hn hs=> ?_)
 have kp:∀ a o,s.heap.get? a=some o→¬ a=cc→h'.get? a=some o:=fun a o e n=>(hs.2 a n).trans e
 have xo:=GO (b:=b) loc (fun o ho xs n e=>by rw [hoc] at ho; cases ho; rw [hdc] at e; cases e)
 have S':St b σ h':=S.keep (X:=fun a=>a=cc) xo (fun a e=>e▸ownc) kp
 obtain ⟨K,_⟩:=D6 S (DN xo) kp
 have lne:∀ m,s.heap.Ns env.locals m→env.locals≠cc:=fun m q0_ e=>NG q0_ fun o' es ep ho' hd' U=>by
  rw [e,hoc] at ho'; cases ho'; rw [hdc] at hd'; cases hd'
 have hL:∀ m,s.heap.Ns env.locals m→h'.Ns env.locals m:=fun m hm=>have ne:=lne m hm; let ⟨o,es,ep,ho,r⟩:=hm; ⟨o,es,ep,kp _ _ ho ne,r⟩
 refine q _ S' ⟨fun y mv' hy=> ?_,let ⟨m,hm⟩:=L.ns; ⟨m,hL m hm⟩,L.low,L.own,fun y c hc=> ?_⟩ (Ev.but (fun a o e U=>Hf hs (let ⟨o,ho,_⟩:=hn; ⟨o,ho⟩) a o e) rfl rfl fun a o e n=>kp a o e fun z=>n (.inr ⟨x,z▸hcx⟩))
 ·rw [DT] at hy
  by_cases e:y=x
  ·subst e
   rw [if_pos rfl] at hy; cases hy
   refine Af hn fun o ho hd=> ?_
   exact AQ v (.inr ⟨.inl hk,cc,o,hcx,ho,hd⟩) (K _ _ r)
  ·rw [if_neg e] at hy
   refine Af (L.val y mv' hy) fun u hu ru=> ?_
   refine AQ u ?_ (K _ _ ru)
   rcases hu with ⟨k,m',hm',hx⟩ | ⟨k,c,o,hc,ho,hd⟩
   ·exact .inl ⟨k,m',hL m' hm',hx⟩
   ·exact .inr ⟨k,c,o,hc,kp _ _ ho (fun z=>e (unc y (z▸hc))),hd⟩
 ·by_cases e:c=cc
  ·subst e
   refine Af hn fun o ho hd=> ?_
   obtain ⟨_,r⟩:=L.cells y c hc
   exact ⟨⟨o,_,ho,hd⟩,r⟩
  ·obtain ⟨⟨o,v,ho,hd⟩,r⟩:=L.cells y c hc
   exact ⟨⟨o,v,kp _ _ ho e,hd⟩,r⟩
noncomputable def AX (C:Cx) (x:Str):Bool:=C.names.lookup x==some .local || C.names.lookup x==some .cell
end
end
end Mine
namespace Mine
section
variable {w:World} {b:Heap} {σ:MS} {C:Cx} {A:Around} {env:Env} {ρ:LM} {s:Shared}
theorem CxOk.kindOf (c:CxOk C A env) (x:Str):env.kindOf x=C.names.lookup x:=by unfold Env.kindOf; rw [c.names]
theorem CB {x:Str} {v:Value} {mv:MV} {P:Unit→Shared→Prop} {E:Value→Shared→Prop} (c:CxOk C A env) (S:St b σ s.heap) (L:Loc b env ρ σ s.heap) (hk:AX C x=true) (r:VR b s.heap mv v)
  (q:∀ s',St b σ s'.heap→Loc b env (ρ.set x mv) σ s'.heap→Ev (BL env) σ s σ s'→P () s'):wpAny (model pw w) A (storeName env x v) P E s:=by
 unfold AX at hk
 rcases Bool.or_eq_true_iff.mp hk with k | k
 ·exact Kb c S L ((c.kindOf x).trans (beq_iff_eq.mp k)) r q
 ·obtain ⟨cc,hc⟩:=c.cellsIn x (beq_iff_eq.mp k)
  exact Lr c S L ((c.kindOf x).trans (beq_iff_eq.mp k)) hc r q
end
section
variable {w:World} {b:Heap}
noncomputable def Sub (ρ' ρ:LM):Prop:=∀ p∈ρ',ρ.lookup p.1=some p.2
theorem mem_of_lookup {x:Str} {v:MV}:∀ {l:LM},l.lookup x=some v→(x,v)∈l:=by
 intro l_
 induction l_ with
 | nil=>exact fun e=>(Option.some_ne_none _ e.symm).elim
 | cons p_ r ih =>
  intro h
  obtain ⟨y,u⟩:=p_
  rw [List.lookup_cons] at h
  cases e:(x==y) with
  | true=>rw [e] at h; rw [beq_iff_eq.mp e,Option.some.inj h]; exact .head _
  | false=>rw [e] at h; exact .tail _ (ih h)
theorem Loc.sub {env:Env} {ρ ρ':LM} {σ:MS} {h:Heap} (L:Loc b env ρ σ h) (s:Sub ρ' ρ):Loc b env ρ' σ h :=
 ⟨fun x mv e=>L.val x mv (s _ (mem_of_lookup e)),L.ns,L.low,L.own,L.cells⟩
section
variable {C:Cx} {ρ:LM} {σ:MS} {Q:MF→LM→MS→Prop}
theorem WS.sub {ρ':LM} {t:Env→Sem Flow} (h:WS w b C t ρ' σ Q) (s:Sub ρ' ρ):WS w b C t ρ σ Q:=fun A env s0 c S L=>h A env s0 c S (L.sub s)
theorem Cj {x:Str} {p pos:Pos} {e:Expr} (h:WE w b C (eval e) ρ σ fun mv σ1=>Q .next (ρ.set x mv) σ1) (hk:AX C x=true:=by first | rfl | decide +kernel)
  (hs:∀ env,swapsWith e (some (.Name x p)) pos.line env=pure false:=by intro _; rfl):WS w b C (exec (.Assign [.Name x p] e pos)) ρ σ Q :=
 fun A env s c S L=>wpAny_Assign_Name (wpAny_mono (h A env s c S L) (fun v s1 g_=>g_.elim fun mv σ1 q r S1 e1 =>
  CB c S1 (e1.loc S L) hk r fun s' S' L' e'=>⟨.next,_,σ1,q,rfl,S',L',e1.lift.trans e'⟩) fun U U x=>x) (hs env)
theorem I1 {t:Expr} {body:List Stmt} {pos:Pos} (I:Nat→LM→MS→Prop) (n:Nat) (h0:∃ ρ',Sub ρ' ρ∧I n ρ' σ)
  (turn:∀ n ρ σ,I n ρ σ→WB w b C (tst t) ρ σ fun bb σ1=>if bb=true then WS w b C (execs body) ρ σ1 (fun mf ρ2 σ2=>match mf with
    | .next=>∃ m ρ',m < n∧Sub ρ' ρ2∧I m ρ' σ2
    | .cont=>∃ m ρ',m < n∧Sub ρ' ρ2∧I m ρ' σ2
    | .brk=>Q .next ρ2 σ2
    | .ret v=>Q (.ret v) ρ2 σ2) else Q .next ρ σ1):WS w b C (exec (.While t body [] pos)) ρ σ Q:=fun A env s c S L=>by
 refine wpAny_While (codeAny_whileLoop (fun n s'=>∃ ρ' σ',I n ρ' σ'∧St b σ' s'.heap∧Loc b env ρ' σ' s'.heap∧Ev (BL env) σ s σ' s') ?_ n (let ⟨ρ',a,c⟩:=h0; ⟨ρ',σ,c,S,L.sub a,Ev.refl ..⟩))
 rintro n s1 h_
 refine hide fun P_ k_=> ?_
 refine FG h_ fun ρ1 σ1 hI S1 L1 e1=> ?_
 refine k_ ?_
 refine wpAny_mono (turn n ρ1 σ1 hI A env s1 c S1 L1) (fun bb s2 g_=>g_.elim fun σ2 h2 S2 e2=> ?_) fun U U x=>x.elim
 cases bb with
 | false=>exact wpAny_execs_nil ⟨.next,ρ1,σ2,h2,rfl,S2,e2.loc S1 L1,e1.trans e2.lift⟩
 | true =>
  refine wpAny_mono (WS.go h2 c S2 (e2.loc S1 L1) (e1.trans e2.lift)) (fun f s3 g_=>g_.elim fun mf ρ3 σ3 q r S3 L3 e3=> ?_) fun U U x=>x.elim
  cases mf with
  | next=>have r:f= .next:=r; subst r; obtain ⟨m,ρ',lt,sb,hi⟩:=q; exact ⟨m,lt,ρ',σ3,hi,S3,L3.sub sb,e3⟩
  | cont=>have r:f= .cont:=r; subst r; obtain ⟨m,ρ',lt,sb,hi⟩:=q; exact ⟨m,lt,ρ',σ3,hi,S3,L3.sub sb,e3⟩
  | brk=>have r:f= .brk:=r; subst r; exact ⟨.next,ρ3,σ3,q,rfl,S3,L3,e3⟩
  | ret mv=>obtain ⟨v,rfl,r⟩:=r; exact ⟨.ret mv,ρ3,σ3,q,⟨v,rfl,r⟩,S3,L3,e3⟩
end
structure Iter (w:World) (b:Heap) (ok:MS→Prop) (ia:Addr) (elems:List MV) (pos:Nat→Heap→Prop):Prop where
 obj:∀ i h,pos i h→∃ o vs,h.get? ia=some o∧o.data= .fields vs
 keep:∀ i h h',pos i h→(∀ o,h.get? ia=some o→h'.get? ia=some o)→pos i h'
 next:∀ i d A s σ v (P:Option Value→Shared→Prop),Rm d A→St b σ s.heap→ok σ→pos i s.heap→elems[i]?=some v →
  (∀ u s',VR b s.heap v u→pos (i+1) s'.heap→s'.gens=s.gens→s'.os=s.os→(∀ a o,a≠ia→s.heap.get? a=some o→s'.heap.get? a=some o)→P (some u) s')→wpAny (model pw w) A (pyNext (.ref ia)) P noE s
 again:∀ i A s (P:Value→Shared→Prop),pos i s.heap→P (.ref ia) s→wpAny (model pw w) A (pyIter (.ref ia)) P noE s
 stop:∀ d A s σ (P:Option Value→Shared→Prop),Rm d A→St b σ s.heap→ok σ→pos elems.length s.heap →
  (∀ s',s'.gens=s.gens→s'.os=s.os→(∀ a o,a≠ia→s.heap.get? a=some o→s'.heap.get? a=some o)→P none s')→wpAny (model pw w) A (pyNext (.ref ia)) P noE s
noncomputable def WI (w:World) (b:Heap) (d:Nat) (x:MV) (σ:MS) (ok:MS→Prop) (elems:List MV):Prop :=
 ∀ (A:Around) (s:Shared) (v:Value) (P:Value→Shared→Prop),Rm d A→St b σ s.heap→VR b s.heap x v →
  (∀ ia s' pos,Iter w b ok ia elems pos→pos 0 s'.heap→s.heap.get? ia=none→b.get? ia=none→¬ AF σ ia→s'.gens=s.gens→s'.os=s.os→(∀ a o,s.heap.get? a=some o→s'.heap.get? a=some o)→P (.ref ia) s') →
  wpAny (model pw w) A (pyIter v) P noE s
theorem St.grow {σ:MS} {h h':Heap} (S:St b σ h) (k:∀ a o,h.get? a=some o→h'.get? a=some o):St b σ h':=S.keep (X:=noX) (AG _) (fun U x=>x.elim) (fun a o e U=>k a o e)
theorem Ev.grow {σ:MS} {s s':Shared} {X:Addr→Prop} (g:s'.gens=s.gens) (os:s'.os=s.os) (k:∀ a o,s.heap.get? a=some o→s'.heap.get? a=some o):Ev X σ s σ s' :=
 ⟨fun a o e=>⟨o,k a o e⟩,g,os,fun a o e U U=>k a o e,fun U U U o=>o⟩
section
variable {C:Cx} {ρ:LM} {σ:MS} {Q:MF→LM→MS→Prop}
end
end
section
variable {w:World} {b:Heap} {σ:MS} {h h':Heap}
noncomputable def MO.hid:MO→Option Addr
 | .inst _ d _=>some d
 | _=>none
theorem C6 {x:Addr}:AF σ x↔(∃ o,σ x=some o)∨∃ y o,σ y=some o∧o.hid=some x:=by
 constructor
 ·rintro (e | ⟨y,C,t,e⟩)
  ·exact .inl (Option.isSome_iff_exists.mp e)
  ·exact .inr ⟨y,_,e,rfl⟩
 ·rintro (⟨o,e⟩ | ⟨y,o,e,q⟩)
  ·exact .inl (by rw [e]; rfl)
  ·cases o with
   | inst C d t=>cases q; exact .inr ⟨y,C,t,e⟩
   | _=>cases q
theorem ID {a:Addr} {o o':MO} (ha:σ a=some o) (hh:o'.hid=o.hid) (x:Addr):AF (σ.set a o') x↔AF σ x:=by
 rw [C6,C6]
 constructor
 ·rintro (⟨q,e⟩ | ⟨y,q,e,z⟩)
  ·by_cases c:x=a
   ·exact .inl ⟨o,c▸ha⟩
   ·rw [MS.set_ne c] at e; exact .inl ⟨q,e⟩
  ·by_cases c:y=a
   ·subst c; rw [MS.set_self] at e; cases e; exact .inr ⟨y,o,ha,hh▸z⟩
   ·rw [MS.set_ne c] at e; exact .inr ⟨y,q,e,z⟩
 ·rintro (⟨q,e⟩ | ⟨y,q,e,z⟩)
  ·by_cases c:x=a
   ·exact .inl ⟨o',c▸MS.set_self ..⟩
   ·exact .inl ⟨q,(MS.set_ne c).trans e⟩
  ·by_cases c:y=a
   ·subst c; rw [ha] at e; cases e; exact .inr ⟨y,o',MS.set_self ..,hh.trans z⟩
   ·exact .inr ⟨y,q,(MS.set_ne c).trans e,z⟩
theorem St.apart' (S:St b σ h) {x d:Addr} {o:MO} (e:σ x=some o) (q:o.hid=some d):σ d=none∧∀ x' o',σ x'=some o'→o'.hid=some d→x'=x:=by
 cases o with
 | inst C d' t =>
  cases q
  obtain ⟨p,r⟩:=S.apart x C d t e
  refine ⟨p,fun x' o' e' q'=> ?_⟩
  cases o' with
  | inst C' d'' t'=>cases q'; exact r x' C' t' e'
  | _=>cases q'
 | _=>cases q
theorem St.upd (S:St b σ h) {a l:Addr} {o o':MO} (ha:σ a=some o) (hh:o'.hid=o.hid) (hl:l=a∨o.hid=some l) (k:∀ x q,x≠l→h.get? x=some q→h'.get? x=some q) (r:(∀ mv v,VR b h mv v→VR b h' mv v)→(∀ mv v,VRs b h mv v→VRs b h' mv v)→Pv b h' a o') :
  St b (σ.set a o') h':=by
 have ol:AF σ l:=by
  rw [C6]
  rcases hl with rfl | hl
  ·exact .inl ⟨o,ha⟩
  ·exact .inr ⟨a,o,ha,hl⟩
 obtain ⟨K,KS⟩:=D6 S (X:=fun x=>x=l) (h':=h') (fun x e=>e▸⟨fun items t=>S.tup_free t ol,S.low l ol⟩) (fun x q e n=>k x q n e)
 refine ⟨fun x q e=>k x q (fun z=>by rw [z,S.low l ol] at e; cases e) (S.stays x q e),fun x q e=> ?_,fun x z=>S.low x ((ID ha hh x).mp z),?_⟩
 ·by_cases c:x=a
  ·subst c; rw [MS.set_self] at e; cases e; exact r K KS
  ·rw [MS.set_ne c] at e
   refine Gq K KS (.inr fun y hy=>k x y (fun z=> ?_) hy) (fun C d t z y hy=>k d y (fun z'=> ?_) hy) (S.obj x q e)
   ·rcases hl with hl | hl
    ·exact c (z.trans hl)
    ·rw [z,(S.apart' ha hl).1] at e; cases e
   ·subst z
    rcases hl with hl | hl
    ·have n:=(S.apart x C d t e).1; rw [z',hl,ha] at n; cases n
    ·exact c ((S.apart' ha hl).2 x _ e (by rw [z']; rfl))
 ·intro x C d t e
  have key:∀ y,(σ.set a o') y=none→σ y=none:=fun y e=>by
   by_cases c:y=a
   ·subst c; rw [MS.set_self] at e; cases e
   ·rwa [MS.set_ne c] at e
  have back:∀ y q,(σ.set a o') y=some q→∃ q',σ y=some q'∧q'.hid=q.hid:=fun y q e=>by
   by_cases c:y=a
   ·subst c; rw [MS.set_self] at e; cases e; exact ⟨o,ha,hh.symm⟩
   ·rw [MS.set_ne c] at e; exact ⟨q,e,rfl⟩
  obtain ⟨q',e1,e2⟩:=back x _ e
  obtain ⟨n,u⟩:=S.apart' e1 e2
  refine ⟨?_,fun x' C' t' e'=>let ⟨q2,e3,e4⟩:=back x' _ e'; u x' q2 e3 e4⟩
  have:d≠a:=fun z=>by rw [z,ha] at n; cases n
  exact (MS.set_ne this).trans n
theorem Ev.upd (S:St b σ h) {s s':Shared} {a l:Addr} {o o':MO} (ha:σ a=some o) (hh:o'.hid=o.hid) (hl:l=a∨o.hid=some l) (k:∀ x q,x≠l→s.heap.get? x=some q→s'.heap.get? x=some q) (kl:∃ q,s'.heap.get? l=some q)
  (g:s'.gens=s.gens) (os:s'.os=s.os):Ev noX σ s (σ.set a o') s':=by
 have ol:AF σ l:=by
  rw [C6]
  rcases hl with rfl | hl
  ·exact .inl ⟨o,ha⟩
  ·exact .inr ⟨a,o,ha,hl⟩
 refine ⟨fun x q e=> ?_,g,os,fun x q e n U=>k x q (fun z=>n (z▸ol)) e,fun x q U z=>(ID ha hh x).mp z⟩
 by_cases c:x=l
 ·exact c▸kl
 ·exact ⟨q,k x q c e⟩
theorem EI {a:Addr} {o':MO} (ha:σ a=none) (x:Addr):AF (σ.set a o') x↔AF σ x∨x=a∨o'.hid=some x:=by
 rw [C6,C6]
 constructor
 ·rintro (⟨q,e⟩ | ⟨y,q,e,z⟩)
  ·by_cases c:x=a
   ·exact .inr (.inl c)
   ·rw [MS.set_ne c] at e; exact .inl (.inl ⟨q,e⟩)
  ·by_cases c:y=a
   ·subst c; rw [MS.set_self] at e; cases e; exact .inr (.inr z)
   ·rw [MS.set_ne c] at e; exact .inl (.inr ⟨y,q,e,z⟩)
 ·rintro ((⟨q,e⟩ | ⟨y,q,e,z⟩) | rfl | z)
  ·by_cases c:x=a
   ·rw [c,ha] at e; cases e
   ·exact .inl ⟨q,(MS.set_ne c).trans e⟩
  ·by_cases c:y=a
   ·rw [c,ha] at e; cases e
   ·exact .inr ⟨y,q,(MS.set_ne c).trans e,z⟩
  ·exact .inl ⟨o',MS.set_self ..⟩
  ·exact .inr ⟨a,o',MS.set_self ..,z⟩
theorem St.new (S:St b σ h) {a:Addr} {o':MO} (ha:¬ AF σ a) (la:b.get? a=none) (hd:∀ d,o'.hid=some d→¬ AF σ d∧b.get? d=none∧d≠a) (k:∀ x q,h.get? x=some q→h'.get? x=some q)
  (r:(∀ mv v,VR b h mv v→VR b h' mv v)→(∀ mv v,VRs b h mv v→VRs b h' mv v)→Pv b h' a o'):St b (σ.set a o') h':=by
 have na:σ a=none:=by
  cases q:σ a with
  | none=>rfl
  | some o=>exact absurd (BK q) ha
 obtain ⟨K,KS⟩:=D6 S (X:=noX) (h':=h') (fun x e=>e.elim) (fun x q e n=>k x q e)
 refine ⟨fun x q e=>k x q (S.stays x q e),fun x q e=> ?_,fun x z=> ?_,?_⟩
 ·by_cases c:x=a
  ·subst c; rw [MS.set_self] at e; cases e; exact r K KS
  ·rw [MS.set_ne c] at e
   exact Gq K KS (.inr fun y hy=>k x y hy) (fun C d t z y hy=>k d y hy) (S.obj x q e)
 ·rcases (EI na x).mp z with z | rfl | z
  ·exact S.low x z
  ·exact la
  ·exact (hd x z).2.1
 ·intro x C d t e
  have nO:∀ y,¬ AF σ y→y≠a→(σ.set a o') y=none:=fun y e ne=>by
   rw [MS.set_ne ne]
   cases q:σ y with
   | none=>rfl
   | some o=>exact absurd (BK q) e
  by_cases c:x=a
  ·subst c; rw [MS.set_self] at e; cases e
   refine CG (hd d rfl) fun p1 p2 p3=> ?_
   refine ⟨nO d p1 p3,fun x' C' t' e'=> ?_⟩
   by_cases c':x'=x
   ·exact c'
   ·rw [MS.set_ne c'] at e'; exact absurd (EJ e') p1
  ·rw [MS.set_ne c] at e
   obtain ⟨n,u⟩:=S.apart x C d t e
   refine ⟨?_,fun x' C' t' e'=> ?_⟩
   ·have:d≠a:=fun z=>ha (z▸EJ e)
    exact (MS.set_ne this).trans n
   ·by_cases c':x'=a
    ·subst c'; rw [MS.set_self] at e'; cases e'; exact absurd (EJ e) (hd d rfl).1
    ·rw [MS.set_ne c'] at e'; exact u x' C' t' e'
theorem Ev.new' {s s':Shared} {a:Addr} {o':MO} (na:σ a=none) (fa:s.heap.get? a=none) (fd:∀ d,o'.hid=some d→s.heap.get? d=none) (k:∀ x q,s.heap.get? x=some q→s'.heap.get? x=some q) (g:s'.gens=s.gens) (os:s'.os=s.os):Ev noX σ s (σ.set a o') s':=by
 refine ⟨fun x q e=>⟨q,k x q e⟩,g,os,fun x q e U U=>k x q e,fun x q e z=> ?_⟩
 rcases (EI na x).mp z with z | rfl | z
 ·exact z
 ·rw [fa] at e; cases e
 ·rw [fd x z] at e; cases e
end
noncomputable abbrev S (x:String):Str:=Str.ofString x
noncomputable def AO (i:Nat):Stmt:=(pw.main.body[i]?).getD (.Pass default)
noncomputable def As (i j:Nat):Stmt:=match AO i with
 | .ClassDef _ _ _ body _ _ _ _ _ _ _=>(body[j]?).getD (.Pass default)
 | s=>s
noncomputable def Dw:Stmt→List Stmt
 | .FunctionDef _ _ body _ _ _ _ _ _ _=>body
 | _=>[]
noncomputable def QO:Stmt→Arguments
 | .FunctionDef _ AT _ _ _ _ _ _ _ _=>AT
 | _=>default
noncomputable def An:Stmt→Scope
 | .FunctionDef _ _ _ _ _ _ scope _ _ _=>scope
 | _=>default
noncomputable def QN:Stmt→Str
 | .FunctionDef name _ _ _ _ _ _ _ _ _=>name
 | _=>default
noncomputable def Ew (d:Stmt) (qual:Str) (dflt mod:Value) (code:Addr):FuncData :=
 {name:=QN d,qualname:=qual,params:=QO d,body:= .stmts (Dw d),scope:=An d,globals:=3,closure:=[],defaults:=dflt,kwdefaults:= .none,pyModule:=mod,code:= .ref code}
noncomputable def Ag (d:Stmt) (qual:Str) (dflt mod:Value) (code:Addr):Obj:=⟨.type "function",none,.func (Ew d qual dflt mod code),#[]⟩
noncomputable def KU (P:Params) (n:Nat) (es:List (Str×Tok×Value)):Obj:=⟨.type "dict",none,.dict (es.map fun e=>⟨PyData.keyHash P e.1,.str e.1 e.2.1,e.2.2⟩).toArray n,#[]⟩
noncomputable def fnL:List (Addr×Obj):=[
 (68,Ag (AO 4) (S "bit_count") .none (.str (S "ringgate.basics") 194) 67),
 (73,Ag (AO 5) (S "little") .none (.str (S "ringgate.basics") 194) 72),
 (80,Ag (AO 6) (S "from_little") .none (.str (S "ringgate.basics") 194) 79),
 (87,Ag (AO 9) (S "stride_of") .none (.str (S "ringgate.memory") 274) 86),
 (94,Ag (AO 21) (S "is_power") .none (.str (S "ringgate.maps") 285) 93),
 (101,Ag (AO 22) (S "check_key_width") .none (.str (S "ringgate.maps") 285) 100),
 (108,Ag (AO 23) (S "check_widths") .none (.str (S "ringgate.maps") 285) 107),
 (122,Ag (As 24 0) (S "Map.__init__") .none (.str (S "ringgate.maps") 285) 121),
 (129,Ag (As 24 1) (S "Map.check_key") .none (.str (S "ringgate.maps") 285) 128),
 (136,Ag (As 24 2) (S "Map.check_value") .none (.str (S "ringgate.maps") 285) 135),
 (144,Ag (As 24 3) (S "Map.lookup") (.ref 137) (.str (S "ringgate.maps") 285) 143),
 (152,Ag (As 24 4) (S "Map.update") (.ref 145) (.str (S "ringgate.maps") 285) 151),
 (159,Ag (As 24 5) (S "Map.lookup_on") .none (.str (S "ringgate.maps") 285) 158),
 (166,Ag (As 24 6) (S "Map.update_on") .none (.str (S "ringgate.maps") 285) 165),
 (173,Ag (As 24 7) (S "Map.delete") .none (.str (S "ringgate.maps") 285) 172),
 (180,Ag (As 24 8) (S "Map.push") .none (.str (S "ringgate.maps") 285) 179),
 (187,Ag (As 24 9) (S "Map.pop") .none (.str (S "ringgate.maps") 285) 186),
 (194,Ag (As 24 10) (S "Map.peek") .none (.str (S "ringgate.maps") 285) 193),
 (201,Ag (As 24 11) (S "Map.keys") .none (.str (S "ringgate.maps") 285) 200),
 (208,Ag (As 24 12) (S "Map.next_key") .none (.str (S "ringgate.maps") 285) 207),
 (215,Ag (As 24 13) (S "Map.peer") .none (.str (S "ringgate.maps") 285) 214),
 (222,Ag (As 24 14) (S "Map.value") .none (.str (S "ringgate.maps") 285) 221),
 (229,Ag (As 24 15) (S "Map.stride") .none (.str (S "ringgate.maps") 285) 228),
 (236,Ag (As 24 16) (S "Map.slot_count") .none (.str (S "ringgate.maps") 285) 235),
 (243,Ag (As 24 17) (S "Map.place_of") .none (.str (S "ringgate.maps") 285) 242),
 (250,Ag (As 24 18) (S "Map.slot_at") .none (.str (S "ringgate.maps") 285) 249),
 (257,Ag (As 24 19) (S "Map.lay") .none (.str (S "ringgate.maps") 285) 256),
 (264,Ag (As 24 20) (S "Map.load") .none (.str (S "ringgate.maps") 285) 263),
 (271,Ag (As 24 21) (S "Map.twin") .none (.str (S "ringgate.maps") 285) 270),
 (278,Ag (As 24 22) (S "Map.copy") .none (.str (S "ringgate.maps") 285) 277),
 (283,Ag (As 24 23) (S "Map.parts") .none (.str (S "ringgate.maps") 285) 282),
 (290,Ag (As 24 24) (S "Map.told") .none (.str (S "ringgate.maps") 285) 289),
 (304,Ag (AO 25) (S "flags_answer") .none (.str (S "ringgate.maps") 285) 303),
 (311,Ag (AO 31) (S "make_key") .none (.str (S "ringgate.tries") 575) 310),
 (318,Ag (AO 32) (S "key_parts") .none (.str (S "ringgate.tries") 575) 317),
 (325,Ag (AO 33) (S "cut_bits") .none (.str (S "ringgate.tries") 575) 324),
 (332,Ag (AO 34) (S "bit_from_top") .none (.str (S "ringgate.tries") 575) 331),
 (339,Ag (AO 35) (S "shared_length") .none (.str (S "ringgate.tries") 575) 338),
 (353,Ag (As 36 0) (S "TrieNode.__init__") .none (.str (S "ringgate.tries") 575) 352),
 (360,Ag (As 36 1) (S "TrieNode.is_entry") .none (.str (S "ringgate.tries") 575) 359),
 (367,Ag (As 36 2) (S "TrieNode.only_child") .none (.str (S "ringgate.tries") 575) 366),
 (374,Ag (As 36 3) (S "TrieNode.child_count") .none (.str (S "ringgate.tries") 575) 373),
 (381,Ag (As 36 4) (S "TrieNode.told") .none (.str (S "ringgate.tries") 575) 380),
 (402,Ag (As 37 0) (S "TrieMap.__init__") .none (.str (S "ringgate.tries") 575) 401),
 (409,Ag (As 37 1) (S "TrieMap.size") .none (.str (S "ringgate.tries") 575) 408),
 (416,Ag (As 37 2) (S "TrieMap.count") .none (.str (S "ringgate.tries") 575) 415),
 (423,Ag (As 37 3) (S "TrieMap.shared") .none (.str (S "ringgate.tries") 575) 422),
 (430,Ag (As 37 4) (S "TrieMap.path") .none (.str (S "ringgate.tries") 575) 429),
 (438,Ag (As 37 5) (S "TrieMap.lookup") (.ref 431) (.str (S "ringgate.tries") 575) 437),
 (445,Ag (As 37 6) (S "TrieMap.exact") .none (.str (S "ringgate.tries") 575) 444),
 (452,Ag (As 37 7) (S "TrieMap.peer") .none (.str (S "ringgate.tries") 575) 451),
 (459,Ag (As 37 8) (S "TrieMap.least_free") .none (.str (S "ringgate.tries") 575) 458),
 (466,Ag (As 37 9) (S "TrieMap.new_slot") .none (.str (S "ringgate.tries") 575) 465),
 (473,Ag (As 37 10) (S "TrieMap.new_node") .none (.str (S "ringgate.tries") 575) 472),
 (480,Ag (As 37 11) (S "TrieMap.drop_node") .none (.str (S "ringgate.tries") 575) 479),
 (487,Ag (As 37 12) (S "TrieMap.hang") .none (.str (S "ringgate.tries") 575) 486),
 (495,Ag (As 37 13) (S "TrieMap.update") (.ref 488) (.str (S "ringgate.tries") 575) 494),
 (502,Ag (As 37 14) (S "TrieMap.insert") .none (.str (S "ringgate.tries") 575) 501),
 (509,Ag (As 37 15) (S "TrieMap.delete") .none (.str (S "ringgate.tries") 575) 508),
 (516,Ag (As 37 16) (S "TrieMap.splice") .none (.str (S "ringgate.tries") 575) 515),
 (523,Ag (As 37 17) (S "TrieMap.replace_child") .none (.str (S "ringgate.tries") 575) 522),
 (530,Ag (As 37 18) (S "TrieMap.nodes_in_order") .none (.str (S "ringgate.tries") 575) 529),
 (537,Ag (As 37 19) (S "TrieMap.node_key") .none (.str (S "ringgate.tries") 575) 536),
 (542,Ag (As 37 20) (S "TrieMap.keys") .none (.str (S "ringgate.tries") 575) 541),
 (549,Ag (As 37 21) (S "TrieMap.next_key") .none (.str (S "ringgate.tries") 575) 548),
 (556,Ag (As 37 22) (S "TrieMap.slots") .none (.str (S "ringgate.tries") 575) 555),
 (563,Ag (As 37 23) (S "TrieMap.shape") .none (.str (S "ringgate.tries") 575) 562),
 (568,Ag (As 37 24) (S "TrieMap.parts") .none (.str (S "ringgate.tries") 575) 567),
 (575,Ag (As 37 25) (S "TrieMap.twin") .none (.str (S "ringgate.tries") 575) 574),
 (582,Ag (As 37 26) (S "TrieMap.copy") .none (.str (S "ringgate.tries") 575) 581),
 (592,Ag (AO 39) (S "_law_pen") .none (.str (S "law_nu0360_01") 988) 591),
 (599,Ag (AO 40) (S "_law_draw") .none (.str (S "law_nu0360_01") 988) 598),
 (606,Ag (AO 41) (S "_law_pick") .none (.str (S "law_nu0360_01") 988) 605),
 (613,Ag (AO 42) (S "_law_prefix") .none (.str (S "law_nu0360_01") 988) 612),
 (618,Ag (AO 43) (S "_law_key") .none (.str (S "law_nu0360_01") 988) 617),
 (625,Ag (AO 44) (S "_law_cut") .none (.str (S "law_nu0360_01") 988) 624),
 (632,Ag (AO 45) (S "_law_begins") .none (.str (S "law_nu0360_01") 988) 631),
 (637,Ag (AO 46) (S "_law_due_update") .none (.str (S "law_nu0360_01") 988) 636),
 (644,Ag (AO 47) (S "_law_due_lookup") .none (.str (S "law_nu0360_01") 988) 643),
 (649,Ag (AO 48) (S "_law_holds") .none (.str (S "law_nu0360_01") 988) 648),
 (654,Ag (AO 49) (S "_law_tree_right") .none (.str (S "law_nu0360_01") 988) 653),
 (659,Ag (AO 50) (S "_law_turn") .none (.str (S "law_nu0360_01") 988) 658),
 (666,Ag (AO 51) (S "law") .none (.str (S "law_nu0360_01") 988) 665)]
noncomputable def HJ:List (Addr×Str):=[
 (67,(S "bit_count")),
 (72,(S "little")),
 (79,(S "from_little")),
 (86,(S "stride_of")),
 (93,(S "is_power")),
 (100,(S "check_key_width")),
 (107,(S "check_widths")),
 (121,(S "Map.__init__")),
 (128,(S "Map.check_key")),
 (135,(S "Map.check_value")),
 (143,(S "Map.lookup")),
 (151,(S "Map.update")),
 (158,(S "Map.lookup_on")),
 (165,(S "Map.update_on")),
 (172,(S "Map.delete")),
 (179,(S "Map.push")),
 (186,(S "Map.pop")),
 (193,(S "Map.peek")),
 (200,(S "Map.keys")),
 (207,(S "Map.next_key")),
 (214,(S "Map.peer")),
 (221,(S "Map.value")),
 (228,(S "Map.stride")),
 (235,(S "Map.slot_count")),
 (242,(S "Map.place_of")),
 (249,(S "Map.slot_at")),
 (256,(S "Map.lay")),
 (263,(S "Map.load")),
 (270,(S "Map.twin")),
 (277,(S "Map.copy")),
 (282,(S "Map.parts")),
 (289,(S "Map.told")),
 (303,(S "flags_answer")),
 (310,(S "make_key")),
 (317,(S "key_parts")),
 (324,(S "cut_bits")),
 (331,(S "bit_from_top")),
 (338,(S "shared_length")),
 (352,(S "TrieNode.__init__")),
 (359,(S "TrieNode.is_entry")),
 (366,(S "TrieNode.only_child")),
 (373,(S "TrieNode.child_count")),
 (380,(S "TrieNode.told")),
 (401,(S "TrieMap.__init__")),
 (408,(S "TrieMap.size")),
 (415,(S "TrieMap.count")),
 (422,(S "TrieMap.shared")),
 (429,(S "TrieMap.path")),
 (437,(S "TrieMap.lookup")),
 (444,(S "TrieMap.exact")),
 (451,(S "TrieMap.peer")),
 (458,(S "TrieMap.least_free")),
 (465,(S "TrieMap.new_slot")),
 (472,(S "TrieMap.new_node")),
 (479,(S "TrieMap.drop_node")),
 (486,(S "TrieMap.hang")),
 (494,(S "TrieMap.update")),
 (501,(S "TrieMap.insert")),
 (508,(S "TrieMap.delete")),
 (515,(S "TrieMap.splice")),
 (522,(S "TrieMap.replace_child")),
 (529,(S "TrieMap.nodes_in_order")),
 (536,(S "TrieMap.node_key")),
 (541,(S "TrieMap.keys")),
 (548,(S "TrieMap.next_key")),
 (555,(S "TrieMap.slots")),
 (562,(S "TrieMap.shape")),
 (567,(S "TrieMap.parts")),
 (574,(S "TrieMap.twin")),
 (581,(S "TrieMap.copy")),
 (591,(S "_law_pen")),
 (598,(S "_law_draw")),
 (605,(S "_law_pick")),
 (612,(S "_law_prefix")),
 (617,(S "_law_key")),
 (624,(S "_law_cut")),
 (631,(S "_law_begins")),
 (636,(S "_law_due_update")),
 (643,(S "_law_due_lookup")),
 (648,(S "_law_holds")),
 (653,(S "_law_tree_right")),
 (658,(S "_law_turn")),
 (665,(S "law"))]
noncomputable def SG:List (Addr×Obj):=[
 (293,⟨.type "type",none,.cls {name:=(S "Map"),bases:=[(.type "object")],mro:=[(.ref 293),(.type "object")],ns:=292,qualname:=(S "Map"),hasDict:=true,slotNames:=[],subclasses:=[(.ref 585)],abstract:=false,collection:=none,hasDel:=false},#[none,none,some (.str (S "Map") 332),some (.str (S "Map") 340),some (.builtin "object.__new__"),some (.bool true)]⟩),
 (384,⟨.type "type",none,.cls {name:=(S "TrieNode"),bases:=[(.type "object")],mro:=[(.ref 384),(.type "object")],ns:=383,qualname:=(S "TrieNode"),hasDict:=true,slotNames:=[],subclasses:=[],abstract:=false,collection:=none,hasDel:=false},#[none,none,some (.str (S "TrieNode") 632),some (.str (S "TrieNode") 640),some (.builtin "object.__new__"),some (.bool true)]⟩),
 (585,⟨.type "type",none,.cls {name:=(S "TrieMap"),bases:=[(.ref 293)],mro:=[(.ref 585),(.ref 293),(.type "object")],ns:=584,qualname:=(S "TrieMap"),hasDict:=true,slotNames:=[],subclasses:=[],abstract:=false,collection:=none,hasDel:=false},#[some (.ref 389),none,some (.str (S "TrieMap") 694),some (.str (S "TrieMap") 702),some (.builtin "object.__new__"),some (.bool true)]⟩)]
noncomputable def glE:List (Str×Tok×Value):=[((S "__name__"),165,(.str (S "law_nu0360_01") 988)),((S "__doc__"),166,.none),((S "__package__"),167,.none),((S "__loader__"),168,(.builtin "__main__.__loader__#opaque")),((S "__spec__"),169,.none),((S "__annotations__"),170,(.ref 6)),((S "__builtins__"),171,(.ref 4)),((S "__file__"),173,(.str (S "/claim/cut.py") 172)),((S "__cached__"),174,.none),((S "_wall"),193,(.ref 21)),((S "GateError"),233,(.ref 46)),((S "MapError"),249,(.ref 59)),((S "bit_count"),258,(.ref 68)),((S "little"),264,(.ref 73)),((S "from_little"),273,(.ref 80)),((S "MAP_STEP"),277,(.int 1048576 276)),((S "stride_of"),284,(.ref 87)),((S "ENOENT"),288,(.int 2 287)),((S "EEXIST"),290,(.int 17 289)),((S "EINVAL"),292,(.int 22 291)),((S "MOST_MAPS"),294,(.int 64 293)),((S "MOST_KEY"),296,(.int 512 295)),((S "PROCESSORS"),298,(.int 4 297)),((S "ANY"),300,(.int 0 299)),((S "NO_SUCH"),302,(.int 1 301)),((S "ONE_THERE"),304,(.int 2 303)),((S "KINDS"),306,(.str (S "array hash lru rows queue stack trie ring") 305)),((S "is_power"),313,(.ref 94)),((S "check_key_width"),321,(.ref 101)),((S "check_widths"),331,(.ref 108)),((S "Map"),566,(.ref 293)),((S "flags_answer"),574,(.ref 304)),((S "ENOSPC"),578,(.int 28 577)),((S "LENGTH_WIDTH"),580,(.int 4 579)),((S "NO_SLOT"),583,(.int (-1) 582)),((S "NO_NODE"),586,(.int (-1) 585)),((S "make_key"),594,(.ref 311)),((S "key_parts"),603,(.ref 318)),((S "cut_bits"),612,(.ref 325)),((S "bit_from_top"),621,(.ref 332)),((S "shared_length"),631,(.ref 339)),((S "TrieNode"),693,(.ref 384)),((S "TrieMap"),987,(.ref 585)),((S "_law_pen"),995,(.ref 592)),((S "_law_draw"),1008,(.ref 599)),((S "_law_pick"),1016,(.ref 606)),((S "_law_prefix"),1026,(.ref 613)),((S "_law_key"),1032,(.ref 618)),((S "_law_cut"),1041,(.ref 625)),((S "_law_begins"),1051,(.ref 632)),((S "_law_due_update"),1057,(.ref 637)),((S "_law_due_lookup"),1071,(.ref 644)),((S "_law_holds"),1077,(.ref 649)),((S "_law_tree_right"),1083,(.ref 654)),((S "_law_turn"),1089,(.ref 659)),((S "law"),1106,(.ref 666))]
noncomputable def SW:List (Str×Tok×Value):=[((S "__module__"),339,(.str (S "ringgate.maps") 285)),((S "__firstlineno__"),343,(.int 73 342)),((S "__init__"),355,(.ref 122)),((S "check_key"),363,(.ref 129)),((S "check_value"),371,(.ref 136)),((S "lookup"),381,(.ref 144)),((S "update"),393,(.ref 152)),((S "lookup_on"),402,(.ref 159)),((S "update_on"),413,(.ref 166)),((S "delete"),421,(.ref 173)),((S "push"),430,(.ref 180)),((S "pop"),437,(.ref 187)),((S "peek"),444,(.ref 194)),((S "keys"),451,(.ref 201)),((S "next_key"),459,(.ref 208)),((S "peer"),467,(.ref 215)),((S "value"),476,(.ref 222)),((S "stride"),483,(.ref 229)),((S "slot_count"),490,(.ref 236)),((S "place_of"),498,(.ref 243)),((S "slot_at"),506,(.ref 250)),((S "lay"),515,(.ref 257)),((S "load"),523,(.ref 264)),((S "twin"),530,(.ref 271)),((S "copy"),539,(.ref 278)),((S "parts"),545,(.ref 283)),((S "told"),552,(.ref 290)),((S "__static_attributes__"),559,(.ref 291)),((S "__dict__"),561,(.ref 294)),((S "__weakref__"),563,(.ref 295)),((S "__doc__"),564,.none)]
noncomputable def RU:List (Str×Tok×Value):=[((S "__module__"),639,(.str (S "ringgate.tries") 575)),((S "__firstlineno__"),643,(.int 196 642)),((S "__init__"),653,(.ref 353)),((S "is_entry"),660,(.ref 360)),((S "only_child"),667,(.ref 367)),((S "child_count"),674,(.ref 374)),((S "told"),681,(.ref 381)),((S "__static_attributes__"),686,(.ref 382)),((S "__dict__"),688,(.ref 385)),((S "__weakref__"),690,(.ref 386)),((S "__doc__"),691,.none)]
noncomputable def RA:List (Str×Tok×Value):=[((S "__module__"),701,(.str (S "ringgate.tries") 575)),((S "__firstlineno__"),705,(.int 215 704)),((S "__init__"),716,(.ref 402)),((S "size"),723,(.ref 409)),((S "count"),730,(.ref 416)),((S "shared"),740,(.ref 423)),((S "path"),752,(.ref 430)),((S "lookup"),766,(.ref 438)),((S "exact"),777,(.ref 445)),((S "peer"),786,(.ref 452)),((S "least_free"),794,(.ref 459)),((S "new_slot"),803,(.ref 466)),((S "new_node"),814,(.ref 473)),((S "drop_node"),822,(.ref 480)),((S "hang"),832,(.ref 487)),((S "update"),850,(.ref 495)),((S "insert"),869,(.ref 502)),((S "delete"),881,(.ref 509)),((S "splice"),893,(.ref 516)),((S "replace_child"),904,(.ref 523)),((S "nodes_in_order"),914,(.ref 530)),((S "node_key"),925,(.ref 537)),((S "keys"),931,(.ref 542)),((S "next_key"),941,(.ref 549)),((S "slots"),948,(.ref 556)),((S "shape"),955,(.ref 563)),((S "parts"),961,(.ref 568)),((S "twin"),968,(.ref 575)),((S "copy"),979,(.ref 582)),((S "__static_attributes__"),984,(.ref 583)),((S "__doc__"),985,.none)]
noncomputable def Rz:List (Addr×Obj):=[(137,⟨.type "tuple",none,.seq #[(.int 0 372)] 0,#[]⟩),(145,⟨.type "tuple",none,.seq #[(.int 0 382)] 0,#[]⟩),(431,⟨.type "tuple",none,.seq #[(.int 0 753)] 0,#[]⟩),(488,⟨.type "tuple",none,.seq #[(.int 0 833)] 0,#[]⟩)]
noncomputable def KF (P:Params):Frag:=fnL++(SG++(Rz++[(3,KU P 56 glE),(292,KU P 4 SW),(383,KU P 4 RU),(584,KU P 2 RA)]))
noncomputable def asL:List Addr:=(fnL++(SG++Rz)).map (·.1)++[3,292,383,584]
noncomputable def Oe (stp:SharedT→Thread→Option (SharedT×Thread)) (ok:Thread→Bool):Nat→SharedT→Thread→Option SharedT
 | 0,_,_=>none
 | n+1,s,t=>match through t with
  | true=>some s
  | false=>match ok t with
   | false=>none
   | true=>match stp s t with
    | some (s',t')=>Oe stp ok n s' t'
    | none=>none
theorem Nk {tb:String→Option Builtin} {p:Program} {w:World} {n₀:Nat} {ann:Option Value} :
  ∀ {n:Nat} {s s':SharedT} {t:Thread},Oe (stepT (denote tb) p w) (stepOk n₀ ann) n s t=some s'→topRun tb p w n₀ ann n s.abs t=some s'.abs:=by
 intro w_
 induction w_ with
 | zero =>
  intro _ _ _ h
  cases h
 | succ n ih_ =>
  intro s s' t h
  unfold Oe at h
  unfold topRun
  cases he:through t with
  | true=>rw [he] at h; cases h; rfl
  | false =>
   rw [he] at h
   cases hk:stepOk n₀ ann t with
   | false=>rw [hk] at h; cases h
   | true =>
    rw [hk] at h
    cases hs:stepT (denote tb) p w s t with
    | none=>rw [hs] at h; cases h
    | some r=>obtain ⟨s₂,t₂⟩:=r; rw [hs] at h; rw [stepT_spec hs]; exact ih_ h
noncomputable def Pl (P:Params):BT:=((boot_heap P).objs.toList.foldl (fun (x:BT×Nat) o=>(x.1.ins x.2 o,x.2+1)) (BT.nil,0)).1
theorem Pk (P:Params):absHeap (Pl P) 11 {}=boot_heap P:=by
 kernel_rfl
noncomputable def Pm (w:World) (os:OsState):SharedT:=⟨Pl w.params,11,{},#[],boot_drawn,boot_toks,os⟩
theorem leftO_tree {q:Program} {loose:List Str} {Xt:Shared→Bool} {α:Type} {Yf:Shared→α} {Ya:World→α} {N:Nat}
  (e:opening pw=plainProg pw.main.scope.names) (hN:Nat.ble 600 N=true) (f:∀ s,fenceModules? pw s=some s)
  (h:∀ (w:World) (os:OsState),(Oe (stepT (denote treeTable) pw w) (stepOk 11 (some (.ref 6))) N (Pm w os) (topStub pw)).map
   (fun s=>(staticsOk (importedModules pw.main.body) (boot_heap w.params) s.abs.heap && namesBound pw s.abs.heap && gensDone s.abs && laidKept (boot_heap w.params) s.abs.heap,openSeen q loose (importedModules pw.main.body) Xt true s.abs,Yf s.abs))=some (true,openGood q loose,Ya w)) :
  LeftO pw q loose Xt Yf Ya N:=fun w=>by
 refine Af (Option.map_eq_some_iff.mp (boot_open e hN f w)) fun s₀ hs hv=> ?_
 obtain ⟨hp,gn,dr,tk,os⟩:=s₀
 simp only [Prod.mk.injEq] at hv
 refine Gj hv fun e_0 e_1 e_2 e_3=> ?_
 subst e_0
 subst e_1
 subst e_2
 subst e_3
 refine Af (Option.map_eq_some_iff.mp (h w os)) fun s₁ h1 h2=> ?_
 simp only [Prod.mk.injEq] at h2
 refine CG h2 fun h2 h3 h4=> ?_
 unfold openEnds
 rw [hs]
 have hb:(Pm w os).abs=⟨boot_heap w.params,#[],boot_drawn,boot_toks,os⟩:=by
  show Shared.mk (absHeap (Pl w.params) 11 {}) #[] boot_drawn boot_toks os=_
  rw [Pk]
 have hr:=Nk h1
 rw [hb] at hr
 have e1:(boot_heap w.params).isNs mainGlobals=true:=by kernel_rfl
 have e2:(boot_heap w.params).nsMap mainGlobals (Str.ofString "__annotations__")=some (.ref 6):=by kernel_rfl
 have e3:(boot_heap w.params).objs.size=11:=by kernel_rfl
 show Option.map _ (topFrom treeTable pw w N ⟨boot_heap w.params,#[],boot_drawn,boot_toks,os⟩)=_
 unfold topFrom
 simp only [e1,Bool.true_and]
 show Option.map _ (match (true:Bool) with | true=>_ | false=>none)=_
 simp only [e2,e3]
 rw [show topRun treeTable pw w 11 (some (Value.ref 6)) N ⟨boot_heap w.params,#[],boot_drawn,boot_toks,os⟩ (topStub pw)=some s₁.abs from hr]
 simp only [Option.bind_some,h2,Option.map_some,h3,h4]
noncomputable def LZ (h:Heap) (c:Addr×Str):Bool:=match h.get? c.1 with
 | some ⟨_,_,.fields vs,_⟩=>(match vs[1]? with
   | some (Value.str q _)=>q==c.2
   | _=>false)
 | _=>false
theorem KY {h:Heap} {c:Addr×Str} (e:LZ h c=true):h.CodeRec (.ref c.1) c.2:=by
 have no:∀ {q:Prop},false=true→q:=fun z=>(Bool.false_ne_true z).elim
 delta LZ at e
 cases ho:h.get? c.1 with
 | none=>rw [ho] at e; exact no e
 | some o =>
  rw [ho] at e
  obtain ⟨cl,d,data,sl⟩:=o
  cases data <;> first | exact no e | skip
  change (match vs[1]? with
   | some (Value.str q _)=>q==c.2
   | _=>false)=true at e
  cases hv:vs[1]? with
  | none=>rw [hv] at e; exact no e
  | some v =>
   rw [hv] at e
   cases v <;> first | exact no e | skip
   exact ⟨c.1,_,vs,tok,rfl,ho,rfl,by rw [hv,beq_iff_eq.mp e]⟩
structure TopOk (w:World) (h:Heap):Prop where
 K:(KF w.params).In h
 codes:∀ c∈HJ,h.CodeRec (.ref c.1) c.2
 stat:∃ m,h.Ns cStatics m∧m "thirdparty.any"=none
 sysm:∃ o,h.get? sysModules=some o
theorem TopOk.keeps {w:World} {h h':Heap} (x:TopOk w h) (k:∀ b o,h.get? b=some o→h'.get? b=some o):TopOk w h' :=
 ⟨x.K.keeps k,fun c hc=>(x.codes c hc).keeps k,let ⟨m,a,c⟩:=x.stat; ⟨m,a.keeps k,c⟩,let ⟨o,e⟩:=x.sysm; ⟨o,k _ _ e⟩⟩
noncomputable def N6 (h:Heap):Bool:=h.isNs cStatics && (h.nsMap cStatics "thirdparty.any").isNone && (h.get? sysModules).isSome
theorem Gu {h:Heap} (e:N6 h=true):(∃ m,h.Ns cStatics m∧m "thirdparty.any"=none)∧∃ o,h.get? sysModules=some o:=by
 obtain ⟨e,f⟩:=Bool.and_eq_true_iff.mp e
 obtain ⟨a,c⟩:=Bool.and_eq_true_iff.mp e
 exact ⟨⟨_,.of_isNs a,Option.isNone_iff_eq_none.mp c⟩,Option.isSome_iff_exists.mp f⟩
noncomputable def myHook:Hook:=⟨List (Option Obj)×Bool×Bool,fun s=>(asL.map s.heap.get?,HJ.all (LZ s.heap),N6 s.heap),fun w=>((KF w.params).map (fun p=>some p.2),true,true),TopOk,
 fun w s e=>⟨Frag.in_of (by kernel_rfl) (congrArg Prod.fst e),fun c hc=>KY (List.all_eq_true.mp (congrArg (fun x=>x.2.1) e) c hc),(Gu (congrArg (fun x=>x.2.2) e)).1,(Gu (congrArg (fun x=>x.2.2) e)).2⟩,fun U U U=>TopOk.keeps⟩
abbrev RR:OpenRow:=PySem.Challenge.rw_nu0360_01.row
noncomputable def qv:Program:={pw with main:={pw.main with body:=pw.main.body.drop 51}}
noncomputable def looseN:List Str:=pw.boundNames.filter fun n=> !(n==(Str.ofString "law")) && !startupNames.contains n
theorem runs (w:World) (os:OsState):(Oe (stepT (denote treeTable) pw w) (stepOk 11 (some (.ref 6))) 8064 (Pm w os) (topStub pw)).map
   (fun s=>(staticsOk (importedModules pw.main.body) (boot_heap w.params) s.abs.heap && namesBound pw s.abs.heap && gensDone s.abs && laidKept (boot_heap w.params) s.abs.heap,openSeen qv looseN (importedModules pw.main.body) (fun s=>xlAt qv [] s && recOk (RowW.records RR.toRowW) s) true s.abs,Hook.obs myHook s.abs))=some (true,openGood qv looseN,Hook.val myHook w):=by
 rw [PySem.W.Fast.te10156331382660048174,PySem.W.Fast.te11892475500146522536,PySem.W.Fast.te6613529449190102663,PySem.W.Fast.te4187177175401517315,PySem.W.Fast.te14364793385576792824]
 kernel_rfl
structure BaseOk (w:World) (b:Heap):Prop where
 top:TopOk w b
 lim:b.NoLimit
 bns:∃ mb,b.Ns builtinsNs mb∧∀ x:Str,x≠"__name__"→mb x=bootBuiltins x
theorem GW {a b:Bool} (x:a=true) (y:b=true):(a && b)=true:=by rw [x,y]; rfl
set_option maxHeartbeats 8000000 in
theorem Np:PySem.Challenge.rw_nu0360_01.row.partSaid=true:=by
 delta OpenRow.partSaid
 repeat' (with_reducible refine GW ?_ ?_)
 all_goals decide +kernel
set_option maxHeartbeats 8000000 in
theorem Nm:PySem.Challenge.rw_nu0360_01.row.wellSaid=true:=by
 delta OpenRow.wellSaid
 exact GW (GW Np (by decide +kernel)) (by decide +kernel)
set_option maxHeartbeats 8000000 in
theorem law_said:PySem.Challenge.rw_nu0360_01.wellSaid=true:=by
 delta OpenLaw.wellSaid
 repeat' (with_reducible refine GW ?_ ?_)
 ·exact Nm
 all_goals decide +kernel
theorem M2 (P:Params) (x:Str):∀ es:List (Str×Tok×Value),((es.map fun e=>(⟨PyData.keyHash P e.1,.str e.1 e.2.1,e.2.2⟩:DictEntry)).find? fun e=>e.key.isStr x).map (·.val)=(es.map fun e=>(e.1,e.2.2)).lookup x
 | []=>rfl
 | e::r=>by
  rw [List.map_cons,List.map_cons,List.find?_cons,List.lookup_cons]
  by_cases q:x=e.1
  ·have h1:(x==e.1)=true:=beq_iff_eq.mpr q
   have h2:Value.isStr (Value.str e.1 e.2.1) x=true:=by show (e.1==x)=true; exact beq_iff_eq.mpr q.symm
   rw [h1]; simp only [h2,Option.map_some]
  ·have h1:(x==e.1)=false:=beq_eq_false_iff_ne.mpr q
   have h2:Value.isStr (Value.str e.1 e.2.1) x=false:=by show (e.1==x)=false; exact beq_eq_false_iff_ne.mpr (Ne.symm q)
   rw [h1]; rw [h2]
   exact M2 P x r
theorem LR (P:Params) (es:List (Str×Tok×Value)):StrKeys (es.map fun e=>(⟨PyData.keyHash P e.1,.str e.1 e.2.1,e.2.2⟩:DictEntry)).toArray:=fun e he=>by
 refine Af (List.mem_map.mp (List.mem_toArray.mp he)) fun x U e_2=> ?_
 subst e_2
 exact ⟨_,_,rfl⟩
theorem SD {h:Heap} {a:Addr} {P:Params} {n:Nat} {es:List (Str×Tok×Value)} (ho:h.get? a=some (KU P n es)):h.Ns a fun x=>(es.map fun e=>(e.1,e.2.2)).lookup x :=
 ⟨_,_,_,ho,rfl,LR P es,fun x=>by delta nsFind findBy; rw [List.find?_toArray]; exact M2 P x es⟩
theorem On {h:Heap} {a:Addr} {m m':Str→Option Value} (x:h.Ns a m) (y:h.Ns a m'):m=m':=by
 refine KL x fun o es ep ho hd U hf=> ?_
 refine KL y fun o' es' ep' ho' hd' U hf'=> ?_
 rw [ho] at ho'; cases ho'; rw [hd] at hd'; cases hd'
 funext z; rw [← hf,hf']
noncomputable def glob (x:Str):Option Value:=(glE.map fun e=>(e.1,e.2.2)).lookup x
theorem BaseOk.glob {w:World} {b:Heap} (hB:BaseOk w b):b.Ns mainGlobals glob:=SD (P:=w.params) (n:=56) (hB.top.K 3 _ (by rfl))
noncomputable def QY:Value→MV
 | .int i _=> .int i
 | .str s _=> .str s
 | .none=> .none
 | .bool x=> .bool x
 | v=> .raw v
theorem PF {b h:Heap} (v:Value):VR b h (QY v) v:=by
 cases v <;> first | exact rfl | exact ⟨_,rfl⟩
section
variable {w:World} {b:Heap} {C:Cx} {ρ:LM} {σ:MS} {Q:MV→MS→Prop}
theorem SA (hB:BaseOk w b) {x:Str} {pos:Pos} {v:Value} (hx:C.names.lookup x=some .globalImplicit) (hv:glob x=some v) (q:Q (QY v) σ) (hd:(x==("__debug__":Str))=false:=by decide) :
  WE w b C (eval (.Name x pos)) ρ σ Q:=fun A env s c S L =>
 Name_function_global c.kind ((c.kindOf x).trans hx) (loadGlobal_global (by rw [c.globals]; exact hB.glob.keeps S.stays) hv (AC.pure q (PF v) S)) hd
theorem Qf (hB:BaseOk w b) {x:Str} {pos:Pos} {v:Value} (hx:C.names.lookup x=some .globalImplicit) (hm:glob x=none) (hv:bootBuiltins x=some v) (q:Q (.raw v) σ)
  (hn:x≠"__name__":=by decide) (hd:(x==("__debug__":Str))=false:=by decide):WE w b C (eval (.Name x pos)) ρ σ Q:=fun A env s c S L=>by
 refine Af hB.bns fun mb hb hmb=> ?_
 exact Name_function_global c.kind ((c.kindOf x).trans hx) (loadGlobal_builtin (by rw [c.globals]; exact hB.glob.keeps S.stays) hm (by rw [c.builtins]; exact hb.keeps S.stays) ((hmb x hn).trans hv) (AC.pure q rfl S)) hd
noncomputable abbrev AT (pos:Pos) (es:List Expr):Env→Sem (List Value):=fun env=>spliced (backTo pos (starEach es env))
theorem Ad {pos:Pos} {Q:List MV→MS→Prop} (q:Q [] σ):WL w b C (AT pos []) ρ σ Q:=fun A env s c S L=>spliced_nil ⟨[],σ,q,rfl,S,Ev.refl ..⟩
theorem Sa {pos:Pos} {e:Expr} {es:List Expr} {Q:List MV→MS→Prop} (h:WE w b C (eval e) ρ σ fun v σ1=>WL w b C (AT pos es) ρ σ1 fun vs σ2=>Q (v::vs) σ2)
  (hs:∀ env,starEach (e::es) env=(false,eval e env)::starEach es env:=by intro _; rfl):WL w b C (AT pos (e::es)) ρ σ Q:=fun A env s c S L=>by
 show wpAny _ A (spliced (backTo pos (starEach (e::es) env))) _ _ s
 rw [hs]
 show wpAny _ A (spliced ((false,eval e env)::backTo pos (starEach es env))) _ _ s
 exact spliced_cons (wpAny_mono (h A env s c S L) (fun v s1 g_=>g_.elim fun mv σ1 h1 r1 S1 e1 =>
  wpAny_mono (h1 A env s1 c S1 (e1.loc S L)) (fun vs s2 g_=>g_.elim fun mvs σ2 q r2 S2 e2=>⟨mv::mvs,σ2,q,⟨v,vs,rfl,e2.vr S1 (AG _) r1,r2⟩,S2,e1.trans e2⟩) fun U U x=>x) fun U U x=>x)
theorem FE {A:Around} {env:Env} {s:Shared} {pos:Pos} {f:Value} {es:List Expr} {P:Args→Shared→Prop} (hs:(starEach es env).all (fun x=> !x.1)=true)
  (h:wpAny (model pw w) A (AT pos es env) (fun vs s'=>P ⟨vs,[]⟩ s') noE s):wpAny (model pw w) A (evalArgs f true (backTo pos (starEach es env)) []) P noE s:=by
 cases q:starEach es env with
 | nil =>
  have h:wpAny (model pw w) A (spliced (backTo pos (starEach es env))) (fun vs s'=>P ⟨vs,[]⟩ s') noE s:=h
  rw [q] at h
  have h:wpAny (model pw w) A (pure []) (fun vs s'=>P ⟨vs,[]⟩ s') noE s:=h
  have e:evalArgs f true (backTo pos []) []=pure ⟨[],[]⟩:=rfl
  rw [e]
  exact fun Γ p hΓ=>h Γ p hΓ
 | cons x r =>
  obtain ⟨st,t⟩:=x
  rw [q,List.all_cons,Bool.and_eq_true] at hs
  have h1:st=false:=by cases st <;> first | rfl | simp at hs
  subst h1
  have h:wpAny (model pw w) A (spliced (backTo pos (starEach es env))) (fun vs s'=>P ⟨vs,[]⟩ s') noE s:=h
  rw [q] at h
  exact evalArgs_plain h
noncomputable def Dv (w:World) (b:Heap) (f:Value):Prop:=∀ (A:Around) (s:Shared) (P:Keeper→Shared→Prop),(∀ a o,b.get? a=some o→s.heap.get? a=some o)→(∀ k,P k s)→wpAny (model pw w) A (keeperOf f) P noE s
theorem Ar (id:String):Dv w b (.builtin id):=fun A s P U h=>wpAny_pure (h _)
theorem Hq (n:String):Dv w b (.type n):=fun A s P U h=>wpAny_pure (h _)
theorem Hr {f:Addr} {D:Stmt} {qual:Str} {dflt mod:Value} {code:Addr} (hf:b.get? f=some (Ag D qual dflt mod code)):Dv w b (.ref f):=fun A s P k h=>by
 unfold keeperOf
 exact wpAny_bind (wpAny_load (k _ _ hf) (wpAny_pure (h _)))
theorem FM {A:Around} {s:Shared} {pos:Pos} {f:Value} {first:List Value} {as:List (Bool×Sem Value)} {P:Value→Shared→Prop} (hk:Dv w b f) (hpl:as.any (·.1)=false)
  (h:wpAny (model pw w) A (evalArgs f true as []) (fun x s1=>x.kw=[]∧(∀ a o,b.get? a=some o→s1.heap.get? a=some o)∧wpAny (model pw w) A (call f (first++x.pos) []) P noE s1) noE s) :
  wpAny (model pw w) A (callWith pos f first as []) P noE s:=by
 unfold callWith
 refine wpAny_bind (wpAny_holding (wpAny_mono h (fun x s1 q0_=>CG q0_ fun hkw st h1=>wpAny_bind (wpAny_standAt ?_)) fun U U x=>x))
 have tail:∀ {t:Sem Value},wpAny (model pw w) A t P noE s1→wpAny (model pw w) A (t >>= fun r=>holding [r] point >>= fun U=>pure r) P noE s1 :=
  fun ht=>wpAny_bind (wpAny_mono ht (fun r s2 hr=>wpAny_bind (wpAny_holding (wpAny_point (wpAny_pure hr)))) fun U U x=>x)
 rw [show (as.any (·.1) || ([]:List (Option Str×Sem Value)).any (·.1.isNone))=false by rw [hpl]; rfl,hkw]
 refine wpAny_bind (hk A s1 _ st fun k=> ?_)
 cases k
 ·exact wpAny_ite_split (fun U=>tail h1) fun U=>tail (by unfold callMarked; exact wpAny_keep h1)
 ·exact wpAny_ite_split (fun U=>tail h1) fun U=>tail (by unfold callMarked; exact wpAny_keep h1)
 ·exact tail h1
 ·exact tail (wpAny_operating h1)
theorem BI {h:Heap}:∀ {a:List MV} {x:List Value} {c:List MV} {y:List Value},VRs b h a x→VRs b h c y→VRs b h (a++c) (x++y):=by
 intro w_
 induction w_ with
 | nil =>
  intro _ _ _ e r
  have e:_=[]:=e
  subst e; exact r
 | cons m ms ih_ =>
  intro _ _ _ r_10 r
  obtain ⟨v,vs,e,r1,r2⟩:=r_10
  subst e; exact ⟨v,vs++_,rfl,r1,ih_ r2 r⟩
theorem KO {fe:Expr} {es:List Expr} {pos:Pos} {Q:MV→MS→Prop} (h:WE w b C (eval fe) ρ σ fun f σ1=>∃ u,f= .raw u∧Dv w b u∧WL w b C (AT pos es) ρ σ1 fun as σ2=>WC w b C.d u as σ2 Q)
  (he:∀ env,eval (.Call fe es [] pos) env=(do callWith pos (← eval fe env) [] (backTo pos (starEach es env)) []):=by intro _; rfl)
  (hs:∀ env,(starEach es env).all (fun x=> !x.1)=true:=by intro _; rfl) (hs':∀ env,(backTo pos (starEach es env)).any (·.1)=false:=by intro _; rfl) :
  WE w b C (eval (.Call fe es [] pos)) ρ σ Q:=fun A env s c S L=>by
 rw [he]
 refine wpAny_bind (wpAny_mono (h A env s c S L) (fun f s1 g_=>g_.elim fun mf σ1 q0_ r1 S1 e1=>Br q0_ fun u hu hk h1=> ?_) fun U U x=>x)
 subst hu
 have r1:f=u:=r1
 subst r1
 refine FM hk (hs' env) (FE (hs env) (wpAny_mono (h1 A env s1 c S1 (e1.loc S L)) (fun vs s2 g_=>g_.elim fun mvs σ2 q r2 S2 e2=>⟨rfl,S2.stays,?_⟩) fun U U x=>x))
 exact wpAny_mono (q A s2 vs c.room S2 r2) (fun U U g=>(g.ev e2).ev e1) fun U U x=>x
end
noncomputable def MF.val:MF→MV
 | .ret v=>v
 | _=> .none
theorem CJ {x:Str}:∀ (names:List (Str×NameKind)) (n:Nat) (acc:List (Str×Addr)),names.lookup x=some .cell∨(∃ c,acc.lookup x=some c)→∃ c,(cellsFrom n names acc).lookup x=some c:=by
 intro w_
 induction w_ with
 | nil =>
  intro _ _ h
  exact h.elim (fun e=>by cases e) id
 | cons p_ r ih_ =>
  intro n acc h
  obtain ⟨y,k⟩:=p_
  unfold cellsFrom
  by_cases hk:(k== .cell)=true
  ·rw [if_pos hk]
   refine ih_ (n+1) ((y,n)::acc) ?_
   by_cases hy:(x==y)=true
   ·exact .inr ⟨n,by rw [List.lookup_cons,hy]⟩
   ·refine h.imp (fun e=> ?_) fun q0_=>Exists.elim q0_ fun c e=>⟨c,?_⟩
    ·rw [List.lookup_cons] at e; simpa only [hy] using e
    ·rw [List.lookup_cons]; simpa only [hy] using e
  ·rw [if_neg hk]
   refine ih_ n acc ?_
   by_cases hy:(x==y)=true
   ·refine h.elim (fun e=> ?_) .inr
    rw [List.lookup_cons,hy] at e
    exact absurd (by rw [Option.some.inj e]; rfl) hk
   ·refine h.imp (fun e=> ?_) id
    rw [List.lookup_cons] at e; simpa only [hy] using e
theorem NP {kd:Str→Option NameKind} {x:Str}:∀ {l:List (Str×Value)} {m:Str→Option Value},x∉l.map (·.1)→bindL kd l m x=m x:=by
 intro w_
 induction w_ with
 | nil =>
  intro _ _
  exact rfl
 | cons p_ r ih_ =>
  intro m h
  obtain ⟨n,v⟩:=p_
  rw [List.map_cons,List.mem_cons,not_or] at h
  unfold bindL
  rw [ih_ h.2]
  split
  ·exact if_neg h.1
  ·rfl
theorem NQ {kd:Str→Option NameKind} {x:Str}:∀ {l:List (Str×Value)} {m:Str→Option Value},x∉l.map (·.1)→bindC kd l m x=m x:=by
 intro w_
 induction w_ with
 | nil =>
  intro _ _
  exact rfl
 | cons p_ r ih_ =>
  intro m h
  obtain ⟨n,v⟩:=p_
  rw [List.map_cons,List.mem_cons,not_or] at h
  unfold bindC
  rw [ih_ h.2]
  split
  ·rfl
  ·exact if_neg h.1
theorem Le {kd:Str→Option NameKind} {x:Str} {v:Value} (k:kd x=some .local):∀ {l:List (Str×Value)} {m:Str→Option Value},(l.map (·.1)).Nodup→(x,v)∈l→bindL kd l m x=some v:=by
 intro l_
 induction l_ with
 | nil=>exact fun U h=>(List.not_mem_nil h).elim
 | cons p_ r ih =>
  intro m  nd  h
  obtain ⟨n,u⟩:=p_
  have nd:=List.nodup_cons.mp nd
  unfold bindL
  rcases List.mem_cons.mp h with e | h
  ·cases e
   rw [NP nd.1,if_pos k]; exact if_pos rfl
  ·exact ih nd.2 h
theorem HT {kd:Str→Option NameKind} {x:Str} {v:Value} (k:kd x≠some .local):∀ {l:List (Str×Value)} {m:Str→Option Value},(l.map (·.1)).Nodup→(x,v)∈l→bindC kd l m x=some v
 | (n,u)::r,m,nd,h=>by
  rw [List.map_cons,List.nodup_cons] at nd
  unfold bindC
  rcases List.mem_cons.mp h with e | h
  ·cases e
   rw [NQ nd.1,if_neg k]; exact if_pos rfl
  ·exact HT k nd.2 h
theorem J0 {b h:Heap} {x:Str} {mv:MV} {pn:List Str}:∀ {as:List MV} {vs:List Value},VRs b h as vs→(pn.zip as).lookup x=some mv→∃ v,(x,v)∈pn.zip vs∧VR b h mv v:=by
 induction pn with
 | nil=>intro as vs _ e; exact (Option.some_ne_none _ e.symm).elim
 | cons p pn ih =>
  intro as vs r e
  cases as with
  | nil=>exact (Option.some_ne_none _ e.symm).elim
  | cons m ms =>
   refine BD r fun v vs q r1 r2=> ?_
   subst q
   rw [List.zip_cons_cons,List.lookup_cons] at e
   rw [List.zip_cons_cons]
   cases z:(x==p) with
   | true=>rw [z] at e; have e:=Option.some.inj e; subst e; rw [beq_iff_eq.mp z]; exact AQ v (.head _) r1
   | false=>rw [z] at e; exact Af (ih r2 e) fun u hu r=>AQ u (.tail _ hu) r
theorem Eg:∀ {pn:List Str} {vs:List Value},((pn.zip vs).map (·.1)).Sublist pn
 | [],_=>by simp
 | _::_,[]=>by simp
 | p::pn,v::vs=>by rw [List.zip_cons_cons,List.map_cons]; exact Eg.cons_cons _
theorem BG {h:Heap} {a:Addr} (l:h.objs.size≤a):h.get? a=none:=by
 cases e:h.get? a with
 | none=>rfl
 | some o=>exact absurd (Heap.lt_size e) (Nat.not_lt.mpr l)
theorem Cd {b:Heap} {σ:MS} {h:Heap} (S:St b σ h) {a:Addr} (ow:AF σ a):∃ o,h.get? a=some o:=by
 rcases ow with hs | ⟨x,C,t,hx⟩
 ·obtain ⟨mo,hm⟩:=Option.isSome_iff_exists.mp hs
  have r:=S.obj a mo hm
  cases mo with
  | list vs=>obtain ⟨items,n,ho',_⟩:=r; exact ⟨_,ho'⟩
  | dict es n=>obtain ⟨des,ho',_⟩:=r; exact ⟨_,ho'⟩
  | inst C d t=>obtain ⟨m,n,ho',_⟩:=r; exact ⟨_,ho'⟩
  | barr x=>exact ⟨_,r⟩
  | rng x=>obtain ⟨_,_,_,ho'⟩:=r; exact ⟨_,ho'⟩
 ·refine BD (S.obj x _ hx) fun m n' U ho' U=> ?_
  exact ⟨_,ho'⟩
noncomputable def CC (w:World) (b:Heap) (d:Nat) (f:Value) (as:List MV) (σ:MS) (Q:MV→MS→Prop):Prop :=
 ∀ (A:Around) (s:Shared) (vs:List Value),Rm d A→St b σ s.heap→VRs b s.heap as vs→codeAny (model pw w) A (.call f ⟨vs,[]⟩) (fun r s'=>match r with
  | .ok (.ret v)=>AC b σ s Q v s'
  | .ok _=>False
  | .error e=>noE e s') s
theorem CC.wc {w:World} {b:Heap} {d:Nat} {f:Value} {as:List MV} {σ:MS} {Q:MV→MS→Prop} (h:CC w b d f as σ Q):WC w b d f as σ Q:=fun A s vs rm S r=>wpAny_call (h A s vs rm S r)
theorem Pz {w:World} {b:Heap} (hB:BaseOk w b) {f:Addr} {D:Stmt} {qual:Str} {dflt mod:Value} {code:Addr} {d:Nat} {as dv:List MV} {σ:MS} {Q:MV→MS→Prop} (pn:List Str)
  (hf:(KF w.params).lookup f=some (Ag D qual dflt mod code)) (hc:(code,qual)∈HJ)
  (hbind:∀ (s:Shared) (vs:List Value),(∀ a o,b.get? a=some o→s.heap.get? a=some o)→VRs b s.heap as vs→∃ us,VRs b s.heap dv us∧BindsTo s (Ew D qual dflt mod code) ⟨vs,[]⟩ (pn.zip (vs++us)))
  (hkind:(pn.all fun x=>(An D).names.lookup x==some .local || (An D).names.lookup x==some .cell)=true) (hnd:pn.Nodup)
  (hk:(An D).kind= .function) (hco:(An D).isCoroutine=false) (hgen:(An D).isGenerator=false) (hd:1≤d)
  (h:WS w b ⟨(An D).names,d-1⟩ (execs (Dw D)) (pn.zip (as++dv)) σ fun mf U σ'=>Q mf.val σ'):CC w b d (.ref f) as σ Q:=fun A s vs rm S r=>by
 have hf':s.heap.get? f=some (Ag D qual dflt mod code):=S.stays _ _ (hB.top.K _ _ hf)
 have hlim:s.heap.NoLimit:=hB.lim.keeps S.stays
 refine Af (hbind s vs S.stays r) fun us rus hbi=> ?_
 refine codeAny_call_function (fd:=Ew D qual dflt mod code) (body:=Dw D) (by have:=rm.depth; exact Nat.lt_of_add_right_lt this) hf' rfl hco hgen rfl ((hB.top.codes _ hc).keeps S.stays) ?_
 refine hbi _ _ _ _ (wpAny_newFunctionEnv_cells hk (fun x hx=> ?_) fun env he s1 ic=> ?_)
 ·have hx1:x.1∈pn:=(List.of_mem_zip hx).1
  have q:=List.all_eq_true.mp hkind x.1 hx1
  rcases Bool.or_eq_true_iff.mp q with q | q
  ·exact .inl (beq_iff_eq.mp q)
  ·refine .inr ⟨beq_iff_eq.mp q,?_⟩
   obtain ⟨c,hc⟩:=CJ (x:=x.1) (An D).names (s.heap.objs.size+1) [] (.inl (beq_iff_eq.mp q))
   show ((cellsFrom (s.heap.objs.size+1) (An D).names []).lookup x.1).isSome=true
   rw [hc]; rfl
 ·obtain ⟨ic0,cell,apart,above⟩:=ic
  obtain ⟨⟨h1,tk1,e1⟩,hns,keep,fresh⟩:=ic0
  have hL:env.locals=s.heap.objs.size:=by rw [he]; rfl
  have hcs:env.cells=cellsFrom (s.heap.objs.size+1) (An D).names []:=by rw [he]; rfl
  have hscope:env.scope=An D:=by rw [he]; rfl
  have hcge:∀ x c,env.cells.lookup x=some c→s.heap.objs.size≤c:=fun x c hc=>Nat.le_of_lt (hL▸above x c (PySem.mem_of_lookup hc))
  have S1:St b σ s1.heap:=S.grow keep
  have g1:s1.gens=s.gens:=by rw [e1]
  have o1:s1.os=s.os:=by rw [e1]
  have nfree:∀ a,s.heap.objs.size≤a→¬ AF σ a:=fun a l ow=>by
   obtain ⟨o,ho⟩:=Cd S ow
   rw [BG l] at ho; cases ho
  refine ⟨hlim.keeps keep,codeAny_func ?_⟩
  have cok:CxOk ⟨(An D).names,d-1⟩ (A.deeper env) env:=by
   refine ⟨by rw [hscope]; exact hk,by rw [hscope],by rw [he]; rfl,by rw [he]; rfl,⟨?_,?_,?_⟩,fun x hx=> ?_⟩
   ·have:=rm.depth
    show A.depth+1+(d-1) < recursionLimit
    exact rm3 hd this
   ·have:=rm.units
    show A.units+3+8*(d-1) < cLine
    exact rm4 hd this
   ·exact rm.handled
   ·rw [hcs]; exact CJ _ _ _ (.inl hx)
  have vz:VRs b s1.heap (as++dv) (vs++us):=(Ev.grow (σ:=σ) (X:=noX) g1 o1 keep).vrs S (AG _) (BI r rus)
  have ndz:((pn.zip (vs++us)).map (·.1)).Nodup:=hnd.sublist Eg
  have L1:Loc b env (pn.zip (as++dv)) σ s1.heap:=by
   refine ⟨fun x mv hx=> ?_,⟨_,hns⟩,S.low_new (BG (by rw [hL]; exact Nat.le_refl _)),nfree _ (by rw [hL]; exact Nat.le_refl _),fun x c hc=> ?_⟩
   ·refine Af (J0 vz hx) fun v hm rv=> ?_
    refine AQ v ?_ rv
    have hx1:x∈pn:=(List.of_mem_zip hm).1
    have q:=List.all_eq_true.mp hkind x hx1
    have kd:env.kindOf x=(An D).names.lookup x:=by unfold Env.kindOf; rw [hscope]
    rcases Bool.or_eq_true_iff.mp q with q | q
    ·have kl:env.kindOf x=some .local:=kd.trans (beq_iff_eq.mp q)
     exact .inl ⟨kl,_,hns,Le kl ndz hm⟩
    ·have kc:env.kindOf x=some .cell:=kd.trans (beq_iff_eq.mp q)
     obtain ⟨c,hc⟩:=cok.cellsIn x (beq_iff_eq.mp q)
     refine Af (cell x c hc) fun o ho hd=> ?_
     rw [HT (by rw [kc]; exact fun e=>nomatch e) ndz hm] at hd
     exact .inr ⟨.inl kc,c,o,hc,ho,hd⟩
   ·refine Af (cell x c hc) fun o ho hd=> ?_
    refine JB ⟨o,_,ho,hd⟩ (S.low_new (BG (hcge x c hc))) (nfree _ (hcge x c hc)) (fun y hy=> ?_)
    exact name_of_addr apart (PySem.mem_of_lookup hy) (PySem.mem_of_lookup hc)
  refine wpAny_mono (h (A.deeper env) env s1 cok S1 L1) (fun fl s2 g_=>g_.elim fun mf ρ' σ' q rf S2 L2 e2=> ?_) fun U U x=>x.elim
  have fin:Ev noX σ s σ' s2:=by
   have e01:Ev (BL env) σ s σ s1:=Ev.grow g1 o1 keep
   have e02:=e01.trans e2
   refine ⟨e02.dom,e02.gens,e02.os,fun a o ho no U=>e02.keep a o ho no ?_,e02.new⟩
   rintro (z | ⟨x,hx⟩)
   ·rw [z,hL,BG (Nat.le_refl _)] at ho; cases ho
   ·rw [BG (hcge x a hx)] at ho; cases ho
  cases mf with
  | next=>have rf:fl= .next:=rf; subst rf; exact ⟨.none,σ',q,rfl,S2,fin⟩
  | brk=>have rf:fl= .brk:=rf; subst rf; exact ⟨.none,σ',q,rfl,S2,fin⟩
  | cont=>have rf:fl= .cont:=rf; subst rf; exact ⟨.none,σ',q,rfl,S2,fin⟩
  | ret mv=>obtain ⟨v,rfl,rv⟩:=rf; exact ⟨mv,σ',q,rv,S2,fin⟩
theorem SO {w:World} {b:Heap} (hB:BaseOk w b) {f:Addr} {D:Stmt} {qual:Str} {dflt mod:Value} {code:Addr} {d:Nat} {as dv:List MV} {σ:MS} {Q:MV→MS→Prop} (pn:List Str)
  (hf:(KF w.params).lookup f=some (Ag D qual dflt mod code)) (hc:(code,qual)∈HJ)
  (hbind:∀ (s:Shared) (vs:List Value),(∀ a o,b.get? a=some o→s.heap.get? a=some o)→VRs b s.heap as vs→∃ us,VRs b s.heap dv us∧BindsTo s (Ew D qual dflt mod code) ⟨vs,[]⟩ (pn.zip (vs++us)))
  (hkind:(pn.all fun x=>(An D).names.lookup x==some .local || (An D).names.lookup x==some .cell)=true) (hnd:pn.Nodup)
  (hk:(An D).kind= .function) (hco:(An D).isCoroutine=false) (hgen:(An D).isGenerator=false) (hd:1≤d)
  (h:WS w b ⟨(An D).names,d-1⟩ (execs (Dw D)) (pn.zip (as++dv)) σ fun mf U σ'=>Q mf.val σ'):WC w b d (.ref f) as σ Q :=
 (Pz hB pn hf hc hbind hkind hnd hk hco hgen hd h).wc
section
variable {w:World} {b:Heap} {d:Nat} {σ:MS} {Q:MV→MS→Prop} {x y:Int}
theorem CQ (q:Q (.int (x+y)) σ):WO2 w b d (binaryOp .Add) (.int x) (.int y) σ Q:=fun _ _ _ _ _ S ⟨_,e⟩ ⟨_,f⟩=>by subst e f; exact wpAny_add_int (AC.tok q ⟨_,rfl⟩ S)
theorem CZ (q:Q (.int (x-y)) σ):WO2 w b d (binaryOp .Sub) (.int x) (.int y) σ Q:=fun _ _ _ _ _ S ⟨_,e⟩ ⟨_,f⟩=>by subst e f; exact PyProof.Rows.sub_int (AC.tok q ⟨_,rfl⟩ S)
theorem D5 (q:Q (.int (x*y)) σ) (h:IntMulOk x y):WO2 w b d (binaryOp .Mult) (.int x) (.int y) σ Q:=fun _ _ _ _ _ S ⟨_,e⟩ ⟨_,f⟩=>by subst e f; exact PyProof.Rows.mul_int (AC.tok q ⟨_,rfl⟩ S) h
theorem SU {x y:Int} (h:y.natAbs < 2^64):Builtin.divisionGoesByPylong x y=false:=by
 refine PyProof.noPylong_of_log2 ?_
 by_cases h0:y.natAbs=0
 ·rw [h0]; decide +kernel
 ·have:=(Nat.log2_lt h0).mpr h
  exact Nat.lt_of_lt_of_le this (by decide)
theorem GN (q:Q (.int (x.fdiv y)) σ) (h:y≠0) (h2:y.natAbs < 2^64):WO2 w b d (binaryOp .FloorDiv) (.int x) (.int y) σ Q:=fun _ _ _ _ _ S ⟨_,e⟩ ⟨_,f⟩=>by subst e f; exact PyProof.Rows.floordiv_int h (AC.tok q ⟨_,rfl⟩ S) (.inl (SU h2))
theorem HV (q:Q (.int (x.fmod y)) σ) (h:y≠0):WO2 w b d (binaryOp .Mod) (.int x) (.int y) σ Q:=fun _ _ _ _ _ S ⟨_,e⟩ ⟨_,f⟩=>by subst e f; exact PyProof.Rows.mod_int h (AC.tok q ⟨_,rfl⟩ S)
theorem FS (q:Q (.int (x^y.toNat)) σ) (h0:0≤y) (h1:y≤1000000) (h2:x.natAbs < 2^64):WO2 w b d (binaryOp .Pow) (.int x) (.int y) σ Q:=fun _ _ _ _ _ S ⟨_,e⟩ ⟨_,f⟩=>by subst e f; exact PyProof.Rows.pow_int_small h0 h1 h2 (AC.tok q ⟨_,rfl⟩ S)
theorem SM (q:Q (.int (x*2^y.toNat)) σ) (h0:0≤y) (h1:y≤1000000) (h2:x.natAbs < 2^64):WO2 w b d (binaryOp .LShift) (.int x) (.int y) σ Q:=fun _ _ _ _ _ S ⟨_,e⟩ ⟨_,f⟩=>by subst e f; exact PyProof.Rows.lshift_int_small h0 h1 h2 (AC.tok q ⟨_,rfl⟩ S)
theorem Po (q:Q (.int (x.fdiv (2^y.toNat))) σ) (h0:0≤y):WO2 w b d (binaryOp .RShift) (.int x) (.int y) σ Q:=fun _ _ _ _ _ S ⟨_,e⟩ ⟨_,f⟩=>by subst e f; exact PyProof.Rows.rshift_int h0 (AC.tok q ⟨_,rfl⟩ S)
theorem Rv (q:Q (.int (Builtin.bitAnd x y)) σ):WO2 w b d (binaryOp .BitAnd) (.int x) (.int y) σ Q:=fun _ _ _ _ _ S ⟨_,e⟩ ⟨_,f⟩=>by subst e f; exact PyProof.Rows.and_int (AC.tok q ⟨_,rfl⟩ S)
theorem TF (q:Q (.int (Builtin.bitXor x y)) σ):WO2 w b d (binaryOp .BitXor) (.int x) (.int y) σ Q:=fun _ _ _ _ _ S ⟨_,e⟩ ⟨_,f⟩=>by subst e f; exact PyProof.Rows.xor_int (AC.tok q ⟨_,rfl⟩ S)
theorem DP (q:Q (.int (-x)) σ):WO1 w b d (unaryOp .USub) (.int x) σ Q:=fun _ _ _ _ S ⟨_,e⟩=>by subst e; exact PyProof.Rows.neg_int (AC.tok q ⟨_,rfl⟩ S)
end
section
variable {w:World} {b:Heap} {d:Nat} {σ:MS} {Q:Bool→MS→Prop} {x y:Int}
theorem Cs.pure {s:Shared} {v:Bool} (q:Q v σ) (S:St b σ s.heap):Cs b σ s Q (.bool v) s:=⟨_,σ,rfl,q,S,Ev.refl ..⟩
theorem cLt (q:Q (decide (x < y)) σ):WK w b d .Lt (.int x) (.int y) σ Q:=fun _ _ _ _ _ S ⟨_,e⟩ ⟨_,f⟩=>by subst e f; exact wpAny_lt_int (Cs.pure q S)
theorem cLe (q:Q (decide (x≤y)) σ):WK w b d .LtE (.int x) (.int y) σ Q:=fun _ _ _ _ _ S ⟨_,e⟩ ⟨_,f⟩=>by subst e f; exact PyProof.Rows.le_int (Cs.pure q S)
theorem cGt (q:Q (decide (y < x)) σ):WK w b d .Gt (.int x) (.int y) σ Q:=fun _ _ _ _ _ S ⟨_,e⟩ ⟨_,f⟩=>by subst e f; exact PyProof.Rows.gt_int (Cs.pure q S)
theorem cGe (q:Q (decide (y≤x)) σ):WK w b d .GtE (.int x) (.int y) σ Q:=fun _ _ _ _ _ S ⟨_,e⟩ ⟨_,f⟩=>by subst e f; exact PyProof.Rows.ge_int (Cs.pure q S)
theorem cEq (q:Q (x==y) σ):WK w b d .Eq (.int x) (.int y) σ Q:=fun _ _ _ _ _ S ⟨_,e⟩ ⟨_,f⟩=>by subst e f; exact wpAny_eq_int (Cs.pure q S)
theorem cNe (q:Q (x != y) σ):WK w b d .NotEq (.int x) (.int y) σ Q:=fun _ _ _ _ _ S ⟨_,e⟩ ⟨_,f⟩=>by subst e f; exact IsLeap.wpAny_ne_int (Cs.pure q S)
end
section
variable (P:Params)
theorem Sm:findIn (KF P) (.ref 585) "__getattribute__"=some (some (.builtin "object.__getattribute__")):=by kernel_rfl
theorem Sn:findIn (KF P) (.ref 384) "__getattribute__"=some (some (.builtin "object.__getattribute__")):=by kernel_rfl
theorem Sk:findIn (KF P) (.ref 585) "__getattr__"=some none:=by kernel_rfl
theorem Sl:findIn (KF P) (.ref 384) "__getattr__"=some none:=by kernel_rfl
theorem RF:findIn (KF P) (.ref 585) "__setattr__"=some (some (.builtin "object.__setattr__")):=by kernel_rfl
theorem RG:findIn (KF P) (.ref 384) "__setattr__"=some (some (.builtin "object.__setattr__")):=by kernel_rfl
theorem RN:plainOver (KF P) 585=true:=by kernel_rfl
theorem RO:plainOver (KF P) 384=true:=by kernel_rfl
noncomputable def D2 (o:Option ClassData):Bool:=o.any fun cd=>cd.hasDict
theorem SH:D2 (clsIn (KF P) 585)=true:=by kernel_rfl
theorem SI:D2 (clsIn (KF P) 384)=true:=by kernel_rfl
theorem R3:makesIn (KF P) 585=true:=by kernel_rfl
theorem R4:makesIn (KF P) 384=true:=by kernel_rfl
noncomputable def HW:List Str:=[S "kind",S "number",S "key_width",S "value_width",S "most",S "values",S "nodes",S "root",S "free_nodes",S "used"]
noncomputable def HX:List Str:=[S "length",S "worth",S "slot",S "children"]
theorem RY:(HW.all fun x=>findIn (KF P) (.ref 585) x==some none)=true:=by kernel_rfl
theorem RZ:(HX.all fun x=>findIn (KF P) (.ref 384) x==some none)=true:=by kernel_rfl
noncomputable def Fr:List (Str×Addr):=[(S "check_key",129),(S "check_value",136),(S "value",222),(S "lay",257),(S "told",290),(S "size",409),(S "count",416),(S "shared",423),(S "path",430),(S "lookup",438),(S "exact",445),(S "peer",452),
 (S "least_free",459),(S "new_slot",466),(S "new_node",473),(S "drop_node",480),(S "hang",487),(S "update",495),(S "insert",502),(S "delete",509),(S "splice",516),(S "replace_child",523),(S "nodes_in_order",530),(S "node_key",537),
 (S "keys",542),(S "next_key",549),(S "slots",556),(S "parts",568),(S "twin",575),(S "copy",582)]
noncomputable def Fs:List (Str×Addr):=[(S "is_entry",360),(S "only_child",367),(S "child_count",374)]
theorem R1:(Fr.all fun x=>findIn (KF P) (.ref 585) x.1==some (some (.ref x.2)))=true:=by kernel_rfl
theorem R2:(Fs.all fun x=>findIn (KF P) (.ref 384) x.1==some (some (.ref x.2)))=true:=by kernel_rfl
theorem Si:findIn (KF P) (.ref 585) "__init__"=some (some (.ref 402)):=by kernel_rfl
theorem Sj:findIn (KF P) (.ref 384) "__init__"=some (some (.ref 353)):=by kernel_rfl
theorem fnT:((Fr++Fs++[(S "",402),(S "",353)]).all fun x=>typeIn (KF P) (.ref x.2)==some (Value.type "function"))=true:=by kernel_rfl
end
structure ClsOk (P:Params) (Cl:Addr) (at_:List Str) (ms:List (Str×Addr)):Prop where
 ga:findIn (KF P) (.ref Cl) "__getattribute__"=some (some (.builtin "object.__getattribute__"))
 gx:findIn (KF P) (.ref Cl) "__getattr__"=some none
 sa:findIn (KF P) (.ref Cl) "__setattr__"=some (some (.builtin "object.__setattr__"))
 po:plainOver (KF P) Cl=true
 cd:D2 (clsIn (KF P) Cl)=true
 na:∀ x∈at_,findIn (KF P) (.ref Cl) x=some none
 ms:∀ x∈ms,findIn (KF P) (.ref Cl) x.1=some (some (.ref x.2))∧typeIn (KF P) (.ref x.2)=some (.type "function")
theorem RQ (P:Params):ClsOk P 585 HW Fr :=
 ⟨Sm P,Sk P,RF P,RN P,SH P,fun x hx=>beq_iff_eq.mp (List.all_eq_true.mp (RY P) x hx),fun x hx=>⟨beq_iff_eq.mp (List.all_eq_true.mp (R1 P) x hx),beq_iff_eq.mp (List.all_eq_true.mp (fnT P) x (List.mem_append_left _ (List.mem_append_left _ hx)))⟩⟩
theorem RS (P:Params):ClsOk P 384 HX Fs :=
 ⟨Sn P,Sl P,RG P,RO P,SI P,fun x hx=>beq_iff_eq.mp (List.all_eq_true.mp (RZ P) x hx),fun x hx=>⟨beq_iff_eq.mp (List.all_eq_true.mp (R2 P) x hx),beq_iff_eq.mp (List.all_eq_true.mp (fnT P) x (List.mem_append_left _ (List.mem_append_right _ hx)))⟩⟩
noncomputable def GY (Cl:Addr):List Str:=if Cl=585 then HW else HX
noncomputable def Jl (Cl:Addr):List (Str×Addr):=if Cl=585 then Fr else Fs
noncomputable def GA (Cl:Addr):Bool:=Cl==585 || Cl==384
theorem MG (P:Params) {Cl:Addr} (h:GA Cl=true):ClsOk P Cl (GY Cl) (Jl Cl):=by
 rcases Bool.or_eq_true_iff.mp h with e | e
 ·rw [beq_iff_eq.mp e]; exact RQ P
 ·rw [beq_iff_eq.mp e]; exact RS P
noncomputable def DQ:MV→Bool
 | .raw _=>false
 | _=>true
theorem Ny {b h:Heap}:∀ {mv:MV} {v:Value},DQ mv=true→VR b h mv v→handedIn v=true:=by
 intro mv v p r
 cases mv with
 | none=>exact congrArg handedIn r
 | bool _=>exact congrArg handedIn r
 | int _=>exact Exists.elim r fun U e=>congrArg handedIn e
 | str _=>exact Exists.elim r fun U e=>congrArg handedIn e
 | bytes _=>exact Exists.elim r fun U e=>congrArg handedIn e
 | tup _=>exact CX r fun U U e U=>congrArg handedIn e
 | flist _=>exact CX r fun U U e U=>congrArg handedIn e
 | ref _=>exact congrArg handedIn r
 | raw _=>exact (Bool.false_ne_true p).elim
section
variable {w:World} {b:Heap} {C:Cx} {ρ:LM} {σ:MS} {h:Heap}
noncomputable abbrev dOb (des:Array DictEntry) (n:Nat):Obj:=⟨.type "dict",none,.dict des n,#[]⟩
theorem MN {des:Array DictEntry} {n:Nat} {x:Str}:∀ {t:List (Str×MV)} {l:List DictEntry},AtR b h t l →
  (t.lookup x=none→l.find? (·.key.isStr x)=none∧l.any (·.refKey)=false)∧∀ r,t.lookup x=some r→∃ e,l.find? (·.key.isStr x)=some e∧VR b h r e.val:=by
 intro t
 induction t with
 | nil=>intro l e; have e:l=[]:=e; subst e; exact ⟨fun U=>⟨rfl,rfl⟩,fun r e=>(Option.some_ne_none _ e.symm).elim⟩
 | cons p t ih =>
  intro l r0
  refine FG r0 fun e es q hk hv hr=>hk.elim fun tk hk=> ?_
  subst q
  obtain ⟨y,u⟩:=p
  have IH:=ih hr
  rw [List.lookup_cons,List.find?_cons,List.any_cons]
  by_cases c:x=y
  ·subst c
   rw [beq_self_eq_true x,show e.key.isStr x=true by rw [hk]; exact beq_self_eq_true x]
   exact ⟨fun e=>(Option.some_ne_none _ e).elim,fun r q=>⟨e,rfl,Option.some.inj q▸hv⟩⟩
  ·rw [beq_eq_false_iff_ne.mpr c,show e.key.isStr x=false by rw [hk]; exact beq_eq_false_iff_ne.mpr (Ne.symm c),show e.refKey=false by unfold DictEntry.refKey; rw [hk]]
   exact IH
theorem Ko {des:Array DictEntry} {n:Nat} {x:Str} {t:List (Str×MV)} {r:MV} (a:AtR b h t des.toList) (e:t.lookup x=some r):∃ v,lookIn x (dOb des n)=some (some v)∧VR b h r v:=by
 refine Af ((MN (des:=des) (n:=n) a).2 r e) fun en h1 h2=> ?_
 exact ⟨en.val,by unfold lookIn; simp only [h1],h2⟩
theorem Kp {des:Array DictEntry} {n:Nat} {x:Str} {t:List (Str×MV)} (a:AtR b h t des.toList) (e:t.lookup x=none):lookIn x (dOb des n)=some none:=by
 obtain ⟨h1,h2⟩:=(MN (des:=des) (n:=n) a).1 e
 unfold lookIn; simp only [h1,h2,Bool.false_eq_true,if_false]
theorem Jq (S:St b σ h) {a Cl d:Addr} {t:List (Str×MV)} (e:σ a=some (.inst Cl d t)):∃ des n,h.get? a=some ⟨.ref Cl,some d,.plain,#[]⟩∧h.get? d=some (dOb des n)∧AtR b h t des.toList∧InstAt h a ⟨.ref Cl,some d,.plain,#[]⟩ Cl (some (dOb des n)):=by
 refine BD (S.obj a _ e) fun des n h1 h2 h3=> ?_
 exact DZ des n h1 h2 h3 ⟨h1,rfl,rfl,h2⟩
theorem Nq {K:Frag} {Cl:Addr} {o:Obj} {x:Str} {v:Value} (hc:D2 (clsIn K Cl)=true) (hf:findIn K (.ref Cl) x=some none) (hl:lookIn x o=some (some v)):findObj K Cl (some o) x=some (.value v):=by
 unfold D2 at hc
 refine Af (any_some hc) fun cd h1 h2=> ?_
 unfold findObj
 rw [h1,hf]
 dsimp only [Option.bind_some]
 unfold W.ownOf
 rw [h2]
 simp only [if_true,hl,Option.bind_some]
noncomputable abbrev Ra (x:Str):Value→Sem Value:=fun v=>getAttr v x true
theorem Dg (hB:BaseOk w b) {Q:MV→MS→Prop} {dd:Nat} {a Cl d:Addr} {x:Str} {t:List (Str×MV)} {r:MV} (ha:σ a=some (.inst Cl d t)) (hx:t.lookup x=some r) (q:Q r σ) (hc:GA Cl=true:=by rfl)
  (hn:x∈GY Cl:=by decide +kernel) (hr:DQ r=true:=by rfl):WO1 w b dd (Ra x) (.ref a) σ Q:=fun A s v rm S e=>by
 have e:v= .ref a:=e
 subst e
 refine FG (Jq S ha) fun des n h1 h2 h3 I=> ?_
 have O:=MG w.params hc
 have X:(KF w.params).In s.heap:=(hB.top.K).keeps S.stays
 refine Af (Ko (n:=n) h3 hx) fun u hu ru=> ?_
 exact get_value X I O.ga (Nq O.cd (O.na x hn) hu) (Ny hr ru) (AC.tok q ru S)
theorem SB {Q:MV→MS→Prop} {o:Expr} {x:Str} {pos:Pos} (h:WE w b C (eval o) ρ σ fun mv σ1=>WO1 w b C.d (Ra x) mv σ1 Q)
  (he:∀ env,eval (.Attribute o x pos) env=(do
   let v←eval o env
   standAt pos.atName
   let r←holding [v] (getAttr v x true)
   letTemporaryGo o v r
   pure r):=by intro _; with_unfolding_all rfl):WE w b C (eval (.Attribute o x pos)) ρ σ Q :=
 fun A env s c S L=>Attribute_any_ (wpAny_mono (h A env s c S L) (fun v s1 g_=>g_.elim fun mv σ1 h1 r1 S1 e1=>wpAny_mono (h1 A s1 v c.room S1 r1) (fun U U g=>g.ev e1) fun U U x=>x) fun U U x=>x) (he env)
noncomputable def GM (w:World) (b:Heap) (name:Str) (mv:MV) (σ:MS) (f:Value) (first:List MV):Prop :=
 ∀ (A:Around) (s:Shared) (v:Value) (pl:Sem Bool) (P:Value×List Value→Shared→Prop),St b σ s.heap→VR b s.heap mv v→(∀ vs n,VRs b s.heap first vs→P (f,vs) {s with toks:=n})→wpAny (model pw w) A (getMethod v name pl) P noE s
theorem Sz {Q:MV→MS→Prop} {o:Expr} {x:Str} {ap pos:Pos} {es:List Expr} (h:WE w b C (eval o) ρ σ fun mv σ1=>∃ f first,GM w b x mv σ1 f first∧Dv w b f∧WL w b C (AT pos es) ρ σ1 fun as σ2=>WC w b C.d f (first++as) σ2 Q)
  (he:∀ env,eval (.Call (.Attribute o x ap) es [] pos) env=(do
   let ov←eval o env
   standAt ap.atName
   let (f,first)←holding [ov] (getMethod ov x (do return (← importBound o env).getD true))
   let cp←pure pos
   callWith cp f first (backTo pos (starEach es env)) []):=by intro _; with_unfolding_all rfl)
  (hs:∀ env,(starEach es env).all (fun x=> !x.1)=true:=by intro _; rfl) (hs':∀ env,(backTo pos (starEach es env)).any (·.1)=false:=by intro _; rfl) :
  WE w b C (eval (.Call (.Attribute o x ap) es [] pos)) ρ σ Q:=fun A env s c S L=>by
 rw [he]
 refine wpAny_bind (wpAny_mono (h A env s c S L) (fun ov s1 g_=>g_.elim fun mv σ1 q0_ r1 S1 e1=>BD q0_ fun f first hg hk h1=> ?_) fun U U x=>x)
 refine wpAny_bind (wpAny_standAt (wpAny_bind (wpAny_holding (hg A s1 ov _ _ S1 r1 fun fv n rf=> ?_))))
 have t1:Ev noX σ1 s1 σ1 {s1 with toks:=n}:=Ev.toks ..
 have L1:Loc b env ρ σ1 {s1 with toks:=n}.heap:=e1.loc S L
 refine wpAny_bind (wpAny_pure (FM hk (hs' env) (FE (hs env) (wpAny_mono (h1 A env {s1 with toks:=n} c S1 L1) (fun vs s2 g_=>g_.elim fun mvs σ2 q r2 S2 e2=>⟨rfl,S2.stays,?_⟩) fun U U x=>x))))
 exact wpAny_mono (q A s2 (fv++vs) c.room S2 (BI (e2.vrs (s:={s1 with toks:=n}) S1 (AG _) rf) r2)) (fun U U g=>(g.ev e2).ev (e1.trans t1)) fun U U x=>x
theorem mFn (hB:BaseOk w b) {a Cl d:Addr} {x:Str} {t:List (Str×MV)} {f:Addr} (ha:σ a=some (.inst Cl d t)) (hc:GA Cl=true:=by rfl) (hm:(x,f)∈Jl Cl:=by decide +kernel) (hx:t.lookup x=none:=by rfl) :
  GM w b x (.ref a) σ (.ref f) [.ref a]:=fun A s v pl P S e q=>by
 have e:v= .ref a:=e
 subst e
 refine FG (Jq S ha) fun des n h1 h2 h3 I=> ?_
 have O:=MG w.params hc
 have X:(KF w.params).In s.heap:=(hB.top.K).keeps S.stays
 obtain ⟨m1,m2⟩:=O.ms _ hm
 refine method_fn X I O.ga O.gx m1 m2 ?_ (q [.ref a] s.toks ⟨_,_,rfl,rfl,rfl⟩)
 show (lookIn x (dOb des n)).map (·.isSome)=some false
 rw [Kp h3 hx]; rfl
end
section
variable {w:World} {b:Heap} {C:Cx} {ρ:LM} {σ:MS} {h:Heap}
noncomputable def PL (x:Str) (hs:Int) (k u:Value) (l:List DictEntry):List DictEntry:=match l.findIdx? (·.key.isStr x) with
 | some i=>l.modify i fun e=>{e with val:=u}
 | none=>l++[⟨hs,k,u⟩]
theorem PK {x:Str} {hs:Int} {tk:Tok} {u:Value} {mv:MV} (r:VR b h mv u):∀ {t:List (Str×MV)} {l:List DictEntry},AtR b h t l→AtR b h (NR t x mv) (PL x hs (.str x tk) u l):=by
 intro t
 induction t with
 | nil=>intro l e; have e:l=[]:=e; subst e; exact DZ _ [] rfl ⟨tk,rfl⟩ r rfl
 | cons p t ih =>
  intro l r0
  refine FG r0 fun e es q hk hv hr=> ?_
  subst q
  obtain ⟨y,z⟩:=p
  have IH:=ih hr
  show AtR b h (if y=x then (y,mv)::t else (y,z)::NR t x mv) _
  unfold PL at IH ⊢
  by_cases c:y=x
  ·subst c
   rw [if_pos rfl,List.findIdx?_cons,show e.key.isStr y=true by obtain ⟨tk',hk⟩:=hk; rw [hk]; exact beq_self_eq_true y]
   exact DZ ({e with val:=u}) es rfl hk r hr
  ·rw [if_neg c,List.findIdx?_cons,show e.key.isStr x=false by obtain ⟨tk',hk⟩:=hk; rw [hk]; exact beq_eq_false_iff_ne.mpr c]
   cases q:es.findIdx? (·.key.isStr x) with
   | none=>rw [q] at IH; exact DZ e _ rfl hk hv IH
   | some i=>rw [q] at IH; exact DZ e _ rfl hk hv IH
theorem Rw:∀ {t:List (Str×MV)} {l:List DictEntry},AtR b h t l→l.length=t.length:=by
 intro w_
 induction w_ with
 | nil =>
  intro _ e
  cases e; rfl
 | cons p_ t ih_ =>
  intro _ r_28
  obtain ⟨y,z⟩:=p_
  obtain ⟨e,es,q,_,_,hr⟩:=r_28
  subst q; simp [ih_ hr]
theorem PJ (x:Str) (hs:Int) (tk:Tok) (u:Value) (des:Array DictEntry) (n:Nat):∃ des' n',Obj.putName x hs (.str x tk) u (dOb des n)=dOb des' n'∧des'.toList=PL x hs (.str x tk) u des.toList:=by
 rw [Obj.putName_eq]
 delta Obj.putNameByArray PL
 dsimp only [dOb]
 obtain ⟨l⟩:=des
 rw [List.findIdx?_toArray]
 cases q:l.findIdx? (·.key.isStr x) with
 | none=>exact ⟨_,_,rfl,by simp⟩
 | some i=>exact ⟨_,_,rfl,by simp⟩
theorem Pr {des:Array DictEntry} {t:List (Str×MV)}:∀ {l:List DictEntry},AtR b h t l→l.any (·.refKey)=false:=by
 induction t with
 | nil=>intro l e; have e:l=[]:=e; subst e; rfl
 | cons p t ih =>
  intro l r
  refine FG r fun e es q hk U hr=>hk.elim fun tk hk=> ?_
  subst q
  rw [List.any_cons,ih hr,show e.refKey=false by unfold DictEntry.refKey; rw [hk]]; rfl
noncomputable def WT (w:World) (b:Heap) (d:Nat) (x:Str) (o v:MV) (σ:MS) (Q:MS→Prop):Prop :=
 ∀ (A:Around) (s:Shared) (ov vv:Value),Rm d A→St b σ s.heap→VR b s.heap o ov→VR b s.heap v vv→wpAny (model pw w) A (setAttr ov x vv) (fun U s'=>∃ σ',Q σ'∧St b σ' s'.heap∧Ev noX σ s σ' s') noE s
theorem Lo {K:Frag} {Cl:Addr} {x:Str} (hf:findIn K (.ref Cl) x=some none):takerIn K Cl x=some none:=by unfold takerIn; rw [hf]; rfl
set_option maxHeartbeats 1000000 in
theorem BJ (hB:BaseOk w b) {Q:MS→Prop} {dd:Nat} {a Cl d:Addr} {x:Str} {t:List (Str×MV)} {v:MV} (ha:σ a=some (.inst Cl d t)) (q:Q (σ.set a (.inst Cl d (NR t x v)))) (hc:GA Cl=true:=by rfl)
  (hn:x∈GY Cl:=by decide +kernel) (hl:Nat.ble (NR t x v).length 1000=true:=by rfl):WT w b dd x (.ref a) v σ Q:=fun A s ov vv rm S e r=>by
 have e:ov= .ref a:=e
 subst e
 obtain ⟨hh,g,dr,tk,os⟩:=s
 have S:St b σ hh:=S
 have r:VR b hh v vv:=r
 refine FG (Jq S ha) fun des n h1 h2 h3 I=> ?_
 have O:=MG w.params hc
 have X:(KF w.params).In hh:=(hB.top.K).keeps S.stays
 have hcd:=O.cd
 unfold D2 at hcd
 refine Af (any_some hcd) fun cd hcd hd'=> ?_
 refine set_plain X I O.sa ?_
 refine osa_open X I O.po (Lo (O.na x hn)) fun bb=> ?_
 refine wpAny_bind (wpAny_pure (wpAny_bind (wpAny_bind (wpAny_loadPart h1 (wpAny_bind ((looks_clsIn X hcd).at ?_))))))
 rw [hd']
 refine wpAny_pure (a:=some d) (wpAny_bind (wpAny_pure (wpAny_bind ?_)))
 unfold nsSet
 refine CX (PJ x (PyData.keyHash w.params x) (tk+1) vv des n) fun des' n' p1 p2=> ?_
 refine wpAny_bind (wpAny_bind (wpAny_askSetting (wpAny_pure (wpAny_bind (wpAny_mkText (wpAny_bind (wpAny_loadPart h2 ?_)))))))
 have hany:des.any (·.refKey)=false:=by rw [← Array.any_toList]; exact Pr (des:=des) h3
 simp only [aRefKeyMayBeTheName_eq,aRefKeyMayBeTheNameByArray,hany,Bool.and_false,Bool.false_eq_true,if_false]
 refine wpAny_updatePart h2 ?_
 have D':(hh.update d (Obj.putName x (PyData.keyHash w.params x) (.str x (tk+1)) vv)).get? d=some (dOb des' n'):=by
  rw [← p1]; exact Heap.get?_update_self _ h2 (by rw [p1]; rfl)
 have a':AtR b hh (NR t x v) des'.toList:=by rw [p2]; exact PK r h3
 refine wpAny_bind (wpAny_lookBehind D' (pastItsLine_dict (by have:=Rw a'; have:=Nat.le_of_ble_eq_true hl; rw [← Array.length_toList,sizeLine_eq]; lia)) ?_)
 refine wpAny_pure ?_
 have k:∀ y o,y≠d→hh.get? y=some o→(hh.update d (Obj.putName x (PyData.keyHash w.params x) (.str x (tk+1)) vv)).get? y=some o:=fun y o n e=>((Heap.SameBut.update ..).2 y n).trans e
 have ne:a≠d:=fun z=>by rw [z,h2] at h1; cases h1
 refine Cu _ q (S.upd ha rfl (.inr rfl) k fun K U=> ?_) (Ev.upd S ha rfl (.inr rfl) k ⟨_,D'⟩ rfl rfl)
 exact Bq des' n' (k _ _ ne h1) D' (H3 K _ _ a')
theorem BV {Q:MF→LM→MS→Prop} {o e:Expr} {x:Str} {p pos:Pos} (h:WE w b C (eval e) ρ σ fun v σ1=>WE w b C (eval o) ρ σ1 fun mo σ2=>WT w b C.d x mo v σ2 fun σ3=>Q .next ρ σ3)
  (hs:∀ env,swapsWith e (some (.Attribute o x p)) pos.line env=pure false:=by intro _; rfl):WS w b C (exec (.Assign [.Attribute o x p] e pos)) ρ σ Q:=fun A env s c S L=>by
 refine plainObj_wpAny_Assign_Attribute (wpAny_mono (h A env s c S L) (fun v s1 g_=>g_.elim fun mv σ1 h1 r1 S1 e1=>wpAny_mono (h1 A env s1 c S1 (e1.loc S L)) (fun ov s2 g_=>g_.elim fun mo σ2 h2 r2 S2 e2 =>
  wpAny_mono (h2 A s2 ov v c.room S2 r2 (e2.vr S1 (AG _) r1)) (fun U s3 q0_=>Br q0_ fun σ3 q S3 e3=>⟨.next,ρ,σ3,q,rfl,S3,e3.loc S2 (e2.loc S1 (e1.loc S L)),(e1.trans (e2.trans e3)).lift⟩) fun U U x=>x) fun U U x=>x) fun U U x=>x) (hs env)
theorem Kn (hB:BaseOk w b) {Q:MV→MS→Prop} {dd:Nat} {Cl fI:Addr} {as:List MV} (hd:1≤dd) (hc:GA Cl=true) (hi:findIn (KF w.params) (.ref Cl) "__init__"=some (some (.ref fI))) (hm:makesIn (KF w.params) Cl=true) (hf:typeIn (KF w.params) (.ref fI)=some (.type "function"))
  (h:∀ a d,σ a=none→σ d=none→a≠d→(∀ x o,σ x=some o→x≠a∧x≠d)→CC w b (dd-1) (.ref fI) (.ref a::as) (σ.set a (.inst Cl d [])) fun r σ1=>r= .none∧Q (.ref a) σ1):WC w b dd (.ref Cl) as σ Q:=fun A s vs rm S r=>by
 have X:(KF w.params).In s.heap:=(hB.top.K).keeps S.stays
 obtain ⟨hh,g,dr,t,os⟩:=s
 have S:St b σ hh:=S
 refine wpAny_call (make_core (makes_of X hm) (looks_findIn X hi) (fun self=>bind_fn X self hf) (.inl rfl) ?_)
 have fr:=S.free
 have k:∀ x q,hh.get? x=some q→((hh.push emptyDict).push (instObj Cl hh.objs.size)).get? x=some q:=fun x q e=>Heap.get?_push_of_some _ (Heap.get?_push_of_some _ e)
 have n1:hh.get? (hh.objs.size+1)=none:=BG (Nat.le_succ _)
 have ow1:¬ AF σ (hh.objs.size+1):=fun ow=>by obtain ⟨o,ho⟩:=Cd S ow; rw [n1] at ho; cases ho
 have na:σ (hh.objs.size+1)=none:=by
  cases q:σ (hh.objs.size+1) with
  | none=>rfl
  | some o=>exact absurd (BK q) ow1
 have S1:St b (σ.set (hh.objs.size+1) (.inst Cl hh.objs.size [])) ((hh.push emptyDict).push (instObj Cl hh.objs.size)):=by
  refine S.new ow1 (S.low_new n1) (fun d e=>by cases e; exact ⟨fr.2,S.low_new (Ah hh),Nat.ne_of_lt (Nat.lt_succ_self _)⟩) k fun U U=> ?_
  refine ⟨#[],0,by heap_get,by heap_get,rfl⟩
 have e1:Ev noX σ ⟨hh,g,dr,t,os⟩ (σ.set (hh.objs.size+1) (.inst Cl hh.objs.size [])) ⟨(hh.push emptyDict).push (instObj Cl hh.objs.size),g,dr,t,os⟩:=Ev.new' na n1 (fun d e=>by cases e; exact Ah hh) k rfl rfl
 have hw:=h _ _ na fr.1 (Nat.ne_of_gt (Nat.lt_succ_self _)) (fun x o e=>⟨fun z=>(by rw [z,na] at e; cases e),fun z=>(by rw [z,fr.1] at e; cases e)⟩)
 have rm':Rm (dd-1) (A.under (.builtin "type.__call__" ⟨.ref Cl::vs,[]⟩)):=by
  have h1:Code.weight (.builtin "type.__call__" ⟨.ref Cl::vs,[]⟩)=1:=by with_unfolding_all rfl
  have h2:Code.cUnits (.builtin "type.__call__" ⟨.ref Cl::vs,[]⟩)=1:=by with_unfolding_all rfl
  refine ⟨?_,?_,rm.handled⟩
  ·have:=rm.depth
   show A.depth+Code.weight (.builtin "type.__call__" ⟨.ref Cl::vs,[]⟩)+(dd-1) < recursionLimit
   rw [h1]; exact rm3 hd this
  ·have:=rm.units
   show A.units+Code.cUnits (.builtin "type.__call__" ⟨.ref Cl::vs,[]⟩)+8*(dd-1) < cLine
   rw [h2]; exact Nat.lt_of_le_of_lt (Nat.add_le_add_right (Nat.add_le_add_left (by decide) _) _) (rm4 hd this)
 refine codeAny_mono (hw _ _ (.ref (hh.objs.size+1)::vs) rm' S1 ⟨_,_,rfl,rfl,e1.vrs S (AG _) r⟩) fun rr s2 z=> ?_
 cases rr with
 | error e=>exact z.elim
 | ok f =>
  cases f with
  | ret v =>
   obtain ⟨mv,σ2,⟨rfl,q⟩,rv,S2,e2⟩:=z
   have rv:v= .none:=rv
   exact ⟨rv,_,σ2,q,rfl,S2,e1.trans e2⟩
  | _=>exact z.elim
end
section
variable (P:Params)
theorem Ox:findCls (KF P) (.ref 293) (.type "type") (S "copy")=some (.val (.ref 278)):=by kernel_rfl
theorem Ow:findCls (KF P) (.ref 293) (.type "type") (S "__init__")=some (.val (.ref 122)):=by kernel_rfl
theorem QZ:typeIn (KF P) (.ref 293)=some (.type "type"):=by kernel_rfl
theorem Q1:findIn (KF P) (.type "type") "__getattribute__"=some (some (.builtin "type.__getattribute__")):=by kernel_rfl
theorem PS:subIn (KF P) (.type "type") (.type "type")=some true:=by kernel_rfl
theorem Q0:specialIn (KF P) (.ref 293) "__getattribute__"=some (some (.builtin "type.__getattribute__")):=by kernel_rfl
end
section
variable {w:World} {b:Heap} {C:Cx} {ρ:LM} {σ:MS}
theorem Nt {M:Model} {h:Heap} {Cl:Addr} (x:∃ m,h.Ns cStatics m∧m "thirdparty.any"=none):Looks M h (opaqueClassAbove (.ref Cl)) none:=by
 refine Af x fun m hm he=> ?_
 have L:Looks M h (nsGet cStatics "thirdparty.any") none:=fun A Q E s k q=>wpAny_nsGet (hm.keeps k) (he▸q)
 exact Looks.andThen (a:=false) (L.andThen .now) (by show Looks M h (if (!false)=true then pure none else _) none; rw [if_pos (show (!false)=true from rfl)]; exact .now)
theorem R8 (hB:BaseOk w b) {x:Str} {f:Addr} (hf:findCls (KF w.params) (.ref 293) (.type "type") x=some (.val (.ref f))):GM w b x (.raw (.ref 293)) σ (.ref f) []:=fun A s v pl P St e q=>by
 have e:v= .ref 293:=e
 subst e
 have X:(KF w.params).In s.heap:=(hB.top.K).keeps St.stays
 refine Af hB.top.stat fun m a1 a2=> ?_
 have hs:∃ m,s.heap.Ns cStatics m∧m "thirdparty.any"=none:=⟨m,a1.keeps St.stays,a2⟩
 refine method_cls X (Q0 w.params) ?_
 refine cls_open X (Nt hs) (looks_typeIn X (QZ w.params)) (Q1 w.params) (looks_hook (mc:= .type "type") X (r:=none) rfl) (PS w.params) hf (wpAny_pure ?_)
 show wpAny _ _ (handedOut (.ref f)) _ _ _
 exact wpAny_pure (q [] (s.toks+1) rfl)
theorem RD (P:Params):specialIn (KF P) (.ref 585) "__call__"=some (some (.builtin "type.__call__")):=by kernel_rfl
theorem RE (P:Params):specialIn (KF P) (.ref 384) "__call__"=some (some (.builtin "type.__call__")):=by kernel_rfl
set_option tactic.hygienic true in
theorem EP (hB:BaseOk w b) {Cl:Addr} (hc:GA Cl=true):Dv w b (.ref Cl):=fun A s P k hP=>by
 have X:(KF w.params).In s.heap:=(hB.top.K).keeps k
 have hcd:=(MG w.params hc).cd
 have hs:specialIn (KF w.params) (.ref Cl) "__call__"=some (some (.builtin "type.__call__")):=by
  rcases Bool.or_eq_true_iff.mp hc with e | e
  ·rw [beq_iff_eq.mp e]; exact RD _
  ·rw [beq_iff_eq.mp e]; exact RE _
 unfold D2 at hcd
 obtain ⟨cd,hcd,-⟩:=any_some hcd
 delta clsIn at hcd
 have no:∀ {q:Prop},none=some cd→q:=fun z=>(Option.some_ne_none _ z.symm).elim
 cases ho:(KF w.params).lookup Cl with
 | none=>rw [ho] at hcd; exact no hcd
 | some o =>
  rw [ho] at hcd
  obtain ⟨oc,od,data,sl⟩:=o
  cases data <;> first | exact no hcd | skip
  unfold keeperOf
  refine wpAny_bind (wpAny_load (X _ _ ho) (wpAny_bind ?_))
  exact (looks_specialIn X hs).here (by split <;> exact wpAny_pure (hP _))
end
section
variable {w:World} {b:Heap} {C:Cx} {ρ:LM} {σ:MS} {Q:MV→MS→Prop}
theorem AH {h:Heap}:∀ {m:List MV} {v:List Value},VRs b h m v→v.length=m.length:=by
 intro w_
 induction w_ with
 | nil =>
  intro _ e
  cases e; rfl
 | cons _ _ ih_ =>
  intro _ r_13
  obtain ⟨v,vs,e,_,r⟩:=r_13
  subst e; simp [ih_ r]
theorem AL (h:Heap) {o:Obj} (hf:o.isFreed=false):(h.push o).get? h.objs.size=some o:=Heap.get?_push_size h hf
theorem At (h:Heap) (o:Obj):∀ x q,h.get? x=some q→(h.push o).get? x=some q:=fun x q e=>Heap.get?_push_of_some o e
theorem Hk {s:Shared} {m:List MV} {v:List Value} (S:St b σ s.heap) (r:VRs b s.heap m v):σ s.heap.objs.size=none∧St b (σ.set s.heap.objs.size (.list m)) (s.heap.push ⟨.type "list",none,.seq v.toArray 0,#[]⟩) ∧
  Ev noX σ s (σ.set s.heap.objs.size (.list m)) {s with heap:=s.heap.push ⟨.type "list",none,.seq v.toArray 0,#[]⟩}:=by
 have fr:=S.free
 refine ⟨fr.1,S.new fr.2 (S.low_new (Ah _)) (fun d e=>by cases e) (At _ _) fun K KS=>⟨v.toArray,0,AL _ rfl,KS _ _ r⟩,Ev.new' fr.1 (Ah _) (fun d e=>by cases e) (At _ _) rfl rfl⟩
theorem BW {es:List Expr} {pos:Pos} (h:WL w b C (AT pos es) ρ σ fun vs σ1=>Nat.ble vs.length 1000=true∧∀ a,σ1 a=none→Q (.ref a) (σ1.set a (.list vs))):WE w b C (eval (.List es pos)) ρ σ Q:=fun A env s c S L=>by
 rw [arm_eval_List]
 refine wpAny_bind (wpAny_standAt (wpAny_bind (wpAny_mono (h A env s c S L) (fun vs s1 g_=>g_.elim fun mvs σ1 q0_ r1 S1 e1=>And.elim (fun hl q=> ?_) q0_) fun U U x=>x)))
 refine CG (Hk S1 r1) fun n1 S2 e2=> ?_
 exact wpAny_newList ⟨_,_,q _ n1,rfl,S2,e1.trans e2⟩ (by have:=AH r1; have:=Nat.le_of_ble_eq_true hl; rw [sizeLine_eq]; lia)
theorem MH {s:Shared} {m:List MV} {v:List Value} (S:St b σ s.heap) (r:VRs b s.heap m v):VR b (s.heap.push ⟨.type "tuple",none,.seq v.toArray 0,#[]⟩) (.tup m) (.ref s.heap.objs.size)∧St b σ (s.heap.push ⟨.type "tuple",none,.seq v.toArray 0,#[]⟩) ∧
  Ev noX σ s σ {s with heap:=s.heap.push ⟨.type "tuple",none,.seq v.toArray 0,#[]⟩}:=by
 have e:Ev noX σ s σ {s with heap:=s.heap.push ⟨.type "tuple",none,.seq v.toArray 0,#[]⟩}:=Ev.grow rfl rfl (At _ _)
 exact Cv ⟨_,v.toArray,rfl,⟨_,AL _ rfl,rfl,_,rfl⟩,e.vrs S (AG _) r⟩ (S.grow (At _ _)) e
theorem Tu {es:List Expr} {k:Nat} {pos:Pos} (h:WL w b C (AT pos es) ρ σ fun vs σ1=>Nat.ble vs.length 1000=true∧Q (.tup vs) σ1):WE w b C (eval (.Tuple es k pos)) ρ σ Q:=fun A env s c S L=>by
 rw [arm_eval_Tuple]
 refine wpAny_bind (wpAny_standAt (wpAny_bind (wpAny_mono (h A env s c S L) (fun vs s1 g_=>g_.elim fun mvs σ1 q0_ r1 S1 e1=>And.elim (fun hl q=> ?_) q0_) fun U U x=>x)))
 refine CG (MH S1 r1) fun r2 S2 e2=> ?_
 exact wpAny_newTuple ⟨_,_,q,r2,S2,e1.trans e2⟩ (by have:=AH r1; have:=Nat.le_of_ble_eq_true hl; rw [sizeLine_eq]; lia)
theorem JE {pos:Pos} (q:∀ a,σ a=none→Q (.ref a) (σ.set a (.dict [] 0))):WE w b C (eval (.Dict [] [] pos)) ρ σ Q:=fun A env s c S L=>by
 have fr:=S.free
 refine wpAny_Dict_empty ⟨_,_,q _ fr.1,rfl,?_,?_⟩
 ·exact S.new fr.2 (S.low_new (Ah _)) (fun d e=>by cases e) (At _ _) fun K KS=>⟨#[],AL _ rfl,rfl⟩
 ·exact Ev.new' fr.1 (Ah _) (fun d e=>by cases e) (At _ _) rfl rfl
theorem N2 {Q:Bool→MS→Prop} {l r1 r2:Expr} {o1 o2:CmpOp} {pos:Pos}
  (h:WE w b C (eval l) ρ σ fun a σ1=>WE w b C (eval r1) ρ σ1 fun x σ2=>WK w b C.d o1 a x σ2 fun bb σ3=>if bb=true then WE w b C (eval r2) ρ σ3 fun y σ4=>WK w b C.d o2 x y σ4 Q else Q false σ3)
  (hm:lastMarks [o1,o2] [r1,r2]=false:=by with_unfolding_all rfl):WB w b C (tst (.Compare l [o1,o2] [r1,r2] pos)) ρ σ Q:=fun A env s c S L=>by
 refine isTrue_chain (wpAny_mono (h A env s c S L) (fun va s1 g_=>g_.elim fun a σ1 h1 ra S1 e1=> ?_) fun U U x=>x) hm
 have L1:=e1.loc S L
 refine test_link (wpAny_mono (h1 A env s1 c S1 L1) (fun vx s2 g_=>g_.elim fun x σ2 h2 rx S2 e2=> ?_) fun U U x=>x)
 have L2:=e2.loc S1 L1
 refine wpAny_mono (h2 A s2 va vx c.room S2 (e2.vr S1 (AG _) ra) rx) (fun cv s3 g_=>g_.elim fun bb σ3 hv h3 S3 e3=> ?_) fun U U x=>x
 subst hv
 have L3:=e3.loc S2 L2
 refine wpAny_truthy_bool ?_
 cases bb with
 | false=>exact ⟨σ3,h3,S3,e1.trans (e2.trans e3)⟩
 | true =>
  rw [if_pos rfl] at h3 ⊢
  refine test_last (wpAny_mono (h3 A env s3 c S3 L3) (fun vy s4 g_=>g_.elim fun y σ4 h4 ry S4 e4=> ?_) fun U U x=>x)
  refine wpAny_mono (h4 A s4 vx vy c.room S4 ((e3.trans e4).vr S2 (AG _) rx) ry) (fun cv s5 g_=>g_.elim fun bb σ5 hv h5 S5 e5=> ?_) fun U U x=>x
  subst hv
  exact wpAny_truthy_bool ⟨σ5,h5,S5,e1.trans (e2.trans (e3.trans (e4.trans e5)))⟩
noncomputable abbrev bop (pos:Pos) (op:BoolOp) (es:List Expr):Env→Sem Value:=fun env=>boolOp pos op (evalEach es env)
theorem M3 {op:BoolOp} {es:List Expr} {pos:Pos} (h:WE w b C (bop pos op es) ρ σ Q):WE w b C (eval (.BoolOp op es pos)) ρ σ Q:=fun A env s c S L=>by rw [arm_eval_BoolOp]; exact h A env s c S L
theorem QF {op:BoolOp} {e:Expr} {pos:Pos} (h:WE w b C (eval e) ρ σ Q):WE w b C (bop pos op [e]) ρ σ Q:=fun A env s c S L=>h A env s c S L
theorem Pp {e e':Expr} {es:List Expr} {pos:Pos} (h:WE w b C (eval e) ρ σ fun mv σ1=>∃ bb,mv= .bool bb∧if bb=true then WE w b C (bop pos .And (e'::es)) ρ σ1 Q else Q (.bool false) σ1):WE w b C (bop pos .And (e::e'::es)) ρ σ Q:=fun A env s c S L=>by
 show wpAny _ A (do
  let v←eval e env
  standAt pos
  let t←holding [v] (truthy v)
  match BoolOp.And,t with
  | .And,false | .Or,true=>pure v
  | _,_=>boolOp pos .And (evalEach (e'::es) env)) _ _ s
 refine wpAny_bind (wpAny_mono (h A env s c S L) (fun v s1 g_=>g_.elim fun mv σ1 q0_ r1 S1 e1=>Af q0_ fun bb hb h1=>wpAny_bind (wpAny_standAt (wpAny_bind (wpAny_holding ?_)))) fun U U x=>x)
 subst hb
 have r1:v= .bool bb:=r1
 subst r1
 refine wpAny_truthy_bool ?_
 cases bb with
 | false=>exact wpAny_pure ⟨_,σ1,h1,rfl,S1,e1⟩
 | true=>exact WE.go h1 c S1 (e1.loc S L) e1
noncomputable def isNone:MV→Bool
 | .none=>true
 | _=>false
theorem kIs {Q:Bool→MS→Prop} {mv:MV} {dd:Nat} (hp:DQ mv=true) (q:Q (isNone mv) σ):WK w b dd .Is mv .none σ Q:=fun A s v u rm S e f=>by
 have f:u= .none:=f
 subst f
 cases mv with
 | none=>have e:v= .none:=e; subst e; exact wpAny_is_self rfl ⟨_,σ,rfl,q,S,Ev.refl ..⟩
 | bool x=>have e:v= .bool x:=e; subst e; exact wpAny_is_other rfl (fun z=>by cases z) ⟨_,σ,rfl,q,S,Ev.refl ..⟩
 | int x=>obtain ⟨t,e⟩:=e; subst e; exact wpAny_is_other rfl (fun z=>by cases z) ⟨_,σ,rfl,q,S,Ev.refl ..⟩
 | str x=>obtain ⟨t,e⟩:=e; subst e; exact wpAny_is_other rfl (fun z=>by cases z) ⟨_,σ,rfl,q,S,Ev.refl ..⟩
 | bytes x=>obtain ⟨t,e⟩:=e; subst e; exact wpAny_is_other rfl (fun z=>by cases z) ⟨_,σ,rfl,q,S,Ev.refl ..⟩
 | tup x=>obtain ⟨a,i,e,_⟩:=e; subst e; exact wpAny_is_other rfl (fun z=>by cases z) ⟨_,σ,rfl,q,S,Ev.refl ..⟩
 | flist x=>obtain ⟨a,i,e,_⟩:=e; subst e; exact wpAny_is_other rfl (fun z=>by cases z) ⟨_,σ,rfl,q,S,Ev.refl ..⟩
 | ref a=>have e:v= .ref a:=e; subst e; exact wpAny_is_other rfl (fun z=>by cases z) ⟨_,σ,rfl,q,S,Ev.refl ..⟩
 | raw x=>cases hp
theorem LO {Q:Bool→MS→Prop} {mv:MV} {dd:Nat} (hp:DQ mv=true) (q:Q (!isNone mv) σ):WK w b dd .IsNot mv .none σ Q:=fun A s v u rm S e f=>by
 have f:u= .none:=f
 subst f
 cases mv with
 | none=>have e:v= .none:=e; subst e; exact wpAny_isNot_self rfl ⟨_,σ,rfl,q,S,Ev.refl ..⟩
 | bool x=>have e:v= .bool x:=e; subst e; exact wpAny_isNot_other rfl (fun z=>by cases z) ⟨_,σ,rfl,q,S,Ev.refl ..⟩
 | int x=>obtain ⟨t,e⟩:=e; subst e; exact wpAny_isNot_other rfl (fun z=>by cases z) ⟨_,σ,rfl,q,S,Ev.refl ..⟩
 | str x=>obtain ⟨t,e⟩:=e; subst e; exact wpAny_isNot_other rfl (fun z=>by cases z) ⟨_,σ,rfl,q,S,Ev.refl ..⟩
 | bytes x=>obtain ⟨t,e⟩:=e; subst e; exact wpAny_isNot_other rfl (fun z=>by cases z) ⟨_,σ,rfl,q,S,Ev.refl ..⟩
 | tup x=>obtain ⟨a,i,e,_⟩:=e; subst e; exact wpAny_isNot_other rfl (fun z=>by cases z) ⟨_,σ,rfl,q,S,Ev.refl ..⟩
 | flist x=>obtain ⟨a,i,e,_⟩:=e; subst e; exact wpAny_isNot_other rfl (fun z=>by cases z) ⟨_,σ,rfl,q,S,Ev.refl ..⟩
 | ref a=>have e:v= .ref a:=e; subst e; exact wpAny_isNot_other rfl (fun z=>by cases z) ⟨_,σ,rfl,q,S,Ev.refl ..⟩
 | raw x=>cases hp
noncomputable def WX (w:World) (b:Heap) (d:Nat) (o i:MV) (σ:MS) (Q:MV→MS→Prop):Prop :=
 ∀ (A:Around) (s:Shared) (ov iv:Value),Rm d A→St b σ s.heap→VR b s.heap o ov→VR b s.heap i iv →
  ∃ T id,typeLookup (.type T) "__getitem__"=pure (some (.builtin id))∧s.TypeIs ov T∧wpAny (model pw w) A (getItem ov iv) (AC b σ s Q) noE s
theorem Mt {A:Around} {s:Shared} {value slice:Expr} {o i:Value} {P:Value→Shared→Prop} {T id:String} (hl:typeLookup (.type T) "__getitem__"=pure (some (.builtin id))) (hT:s.TypeIs o T) (h:wpAny (model pw w) A (getItem o i) P noE s)
  (hs:subscripted slice false o i=operate [o,i] (getItem o i)∨subscripted slice false o i=operate [i,o] (getItem o i)) :
  wpAny (model pw w) A (do
   let r←subscripted slice (← getitemInPython o) o i
   letTemporaryGo value o r
   pure r) P noE s:=by
 refine wpAny_bind ?_
 rw [getitemInPython_of_ne hT.not_modules]
 refine wpAny_bind (wpAny_specialOf hT hl (wpAny_pure ?_))
 rcases hs with hs | hs
 ·rw [hs]; exact wpAny_bind (wpAny_operate' (wpAny_mono h (fun U U x=>wpAny_bind (wpAny_letTemporaryGo (wpAny_pure x))) fun U U x=>x))
 ·rw [hs]; exact wpAny_bind (wpAny_operate' (wpAny_mono h (fun U U x=>wpAny_bind (wpAny_letTemporaryGo (wpAny_pure x))) fun U U x=>x))
theorem Tv {v i:Expr} {pos:Pos} (h:WE w b C (eval v) ρ σ fun o σ1=>WE w b C (eval i) ρ σ1 fun k σ2=>WX w b C.d o k σ2 Q)
  (hs:∀ x y,subscripted i false x y=operate [x,y] (getItem x y)∨subscripted i false x y=operate [y,x] (getItem x y):=by intro _ _; first | exact .inl rfl | exact .inr rfl):WE w b C (eval (.Subscript v i pos)) ρ σ Q:=fun A env s c S L=>by
 rw [eval_Subscript]
 refine wpAny_bind (wpAny_mono (h A env s c S L) (fun ov s1 g_=>g_.elim fun o σ1 h1 r1 S1 e1=> ?_) fun U U x=>x)
 refine wpAny_bind (wpAny_holding (wpAny_mono (h1 A env s1 c S1 (e1.loc S L)) (fun iv s2 g_=>g_.elim fun k σ2 h2 r2 S2 e2=>wpAny_bind (wpAny_standAt ?_)) fun U U x=>x))
 refine BD (h2 A s2 ov iv c.room S2 (e2.vr S1 (AG _) r1) r2) fun T id hl hT hg=> ?_
 exact Mt hl hT (wpAny_mono hg (fun U U g=>(g.ev e2).ev e1) fun U U x=>x) (hs ov iv)
noncomputable def WSt (w:World) (b:Heap) (d:Nat) (o i v:MV) (σ:MS) (Q:MS→Prop):Prop :=
 ∀ (A:Around) (s:Shared) (ov iv vv:Value),Rm d A→St b σ s.heap→VR b s.heap o ov→VR b s.heap i iv→VR b s.heap v vv→wpAny (model pw w) A (setItem ov iv vv) (fun U s'=>∃ σ',Q σ'∧St b σ' s'.heap∧Ev noX σ s σ' s') noE s
theorem D9 {Q:MF→LM→MS→Prop} {o i e:Expr} {p pos:Pos} (h:WE w b C (eval e) ρ σ fun v σ1=>WE w b C (eval o) ρ σ1 fun mo σ2=>WE w b C (eval i) ρ σ2 fun mi σ3=>WSt w b C.d mo mi v σ3 fun σ4=>Q .next ρ σ4)
  (hs:∀ env,swapsWith e (some (.Subscript o i p)) pos.line env=pure false:=by intro _; rfl):WS w b C (exec (.Assign [.Subscript o i p] e pos)) ρ σ Q:=fun A env s c S L=>by
 refine wpAny_Assign_Subscript (wpAny_mono (h A env s c S L) (fun v s1 g_=>g_.elim fun mv σ1 h1 r1 S1 e1=> ?_) fun U U x=>x) (hs env)
 have L1:=e1.loc S L
 refine wpAny_mono (h1 A env s1 c S1 L1) (fun ov s2 g_=>g_.elim fun mo σ2 h2 r2 S2 e2=> ?_) fun U U x=>x
 have L2:=e2.loc S1 L1
 refine wpAny_mono (h2 A env s2 c S2 L2) (fun iv s3 g_=>g_.elim fun mi σ3 h3 r3 S3 e3=> ?_) fun U U x=>x
 have L3:=e3.loc S2 L2
 exact wpAny_mono (h3 A s3 ov iv v c.room S3 (e3.vr S2 (AG _) r2) r3 ((e2.trans e3).vr S1 (AG _) r1)) (fun U s4 q0_=>Br q0_ fun σ4 q S4 e4=>⟨.next,ρ,σ4,q,rfl,S4,e4.loc S3 L3,(e1.trans (e2.trans (e3.trans e4))).lift⟩) fun U U x=>x
noncomputable def LM.sets (ρ:LM):List (Str×MV)→LM
 | []=>ρ
 | (x,v)::r=>(ρ.set x v).sets r
noncomputable def EU (w:World) (env:Env):List Str→List (Value→Sem Unit)→Prop
 | [],[]=>True
 | x::xs,t::ts=>(∀ (A:Around) (s:Shared) (v:Value) (P:Unit→Shared→Prop),wpAny (model pw w) A (storeName env x v) P noE s→wpAny (model pw w) A (t v) P noE s)∧EU w env xs ts
 | _,_=>False
theorem Gs {env:Env}:∀ {xs:List Str},EU w env xs (xs.map fun n=>bindName env n):=by
 intro w_
 induction w_ with
 | nil =>
  exact trivial
 | cons x xs ih_ =>
  exact ⟨fun A s v P h=>wpAny_bindName h,ih_⟩
theorem Ek {A:Around} {env:Env} {P:Unit→Shared→Prop} {xs:List Str}:∀ {ts:List (Value→Sem Unit)} {ms:List MV} {vs:List Value} {s:Shared} {ρ:LM},EU w env xs ts→xs.length=ms.length→(xs.all fun x=>AX C x)=true→CxOk C A env→St b σ s.heap→Loc b env ρ σ s.heap→VRs b s.heap ms vs →
  (∀ s',St b σ s'.heap→Loc b env (ρ.sets (xs.zip ms)) σ s'.heap→Ev (BL env) σ s σ s'→P () s')→wpAny (model pw w) A (assignInOrder ts vs) P noE s:=by
 induction xs with
 | nil =>
  intro ts ms vs s ρ hS hl hk c S L e q
  cases ts with
  | cons _ _=>exact hS.elim
  | nil=>cases ms with
   | cons _ _=>cases hl
   | nil=>have e:vs=[]:=e; subst e; exact wpAny_pure (q s S L (Ev.refl ..))
 | cons x xs ih =>
  intro ts ms vs s ρ hS hl hk c S L e q
  cases ts with
  | nil=>exact hS.elim
  | cons t ts=>cases ms with
   | nil=>cases hl
   | cons m ms =>
    refine BD e fun v us e r rs=> ?_
    subst e
    have hk:=H1 (a:=AX C x) (c:=xs.all fun x=>AX C x) hk
    show wpAny _ A (holding us (t v) >>= fun U=>assignInOrder ts us) _ _ s
    refine wpAny_bind (wpAny_holding (hS.1 A s v _ (CB c S L hk.1 r fun s1 S1 L1 e1=> ?_)))
    exact ih hS.2 (Nat.succ.inj hl) hk.2 c S1 L1 (e1.vrs S L.xok rs) fun s2 S2 L2 e2=>q s2 S2 L2 (e1.trans e2)
theorem Mp {h:Heap}:∀ {m:List MV} {v:List Value},VRs b h m v→VRs b h m.reverse v.reverse:=by
 intro w_
 induction w_ with
 | nil =>
  intro _ e
  cases e; exact rfl
 | cons x m ih_ =>
  intro _ r_17
  obtain ⟨v,vs,e,r,rs⟩:=r_17
  subst e
  rw [List.reverse_cons,List.reverse_cons]
  exact BI (ih_ rs) ⟨v,[],rfl,r,rfl⟩
noncomputable def EB (names:List (Str×NameKind)):Env:=⟨{(default:Scope) with kind:= .function,names:=names},0,0,[],.empty,none,.none,none,0⟩
theorem Ei {names:List (Str×NameKind)} {targets:List Expr} {value:Expr} {env:Env} (hk:env.scope.kind= .function) (hn:env.scope.names=names):swappedStores targets value env=swappedStores targets value (EB names):=by
 have h1:env.blockKind=(EB names).blockKind:=by unfold Env.blockKind; rw [hk]; rfl
 have h2:env.kindOf=(EB names).kindOf:=funext fun x=>by unfold Env.kindOf; rw [hn]; rfl
 unfold swappedStores
 rw [h1,h2]
noncomputable def Jk:Expr→Option Str
 | .Name x _=>some x
 | _=>none
theorem MJ {e:Expr} {x:Str} (h:Jk e=some x):∃ p,e= .Name x p:=by
 cases e <;> first | exact (Option.some_ne_none _ h.symm).elim | (cases h; exact ⟨_,rfl⟩)
theorem Ka {env:Env} {elts:List Expr}:∀ {xs:List Str},elts.map Jk=xs.map some→EU w env xs ((assignEach elts env).map (·.2)):=by
 induction elts with
 | nil =>
  intro xs h
  cases xs with
  | nil=>exact trivial
  | cons _ _=>exact (List.cons_ne_nil _ _ h.symm).elim
 | cons e r ih =>
  intro xs h
  cases xs with
  | nil=>exact (List.cons_ne_nil _ _ h).elim
  | cons x xs =>
   have hh:=List.cons.inj h
   obtain ⟨p,rfl⟩:=MJ hh.1
   exact ⟨fun A s v P h=>assign_Name h,ih hh.2⟩
theorem Lu {Q:MF→LM→MS→Prop} {elts:List Expr} {k:Nat} {tp pos:Pos} {e:Expr} (xs:List Str) (h:WE w b C (eval e) ρ σ fun mv σ1=>∃ vs,mv= .tup vs∧vs.length=xs.length∧Q .next (ρ.sets (xs.zip vs)) σ1)
  (hw:swappedStores [.Tuple elts k tp] e (EB C.names)=pure none:=by rfl) (hk:(xs.all fun x=>AX C x)=true:=by first | rfl | decide +kernel)
  (hs:∀ env,swapsWithSole [.Tuple elts k tp] e pos.line env=pure false:=by intro _; rfl)
  (hb:∀ env,(assignEach elts env).length=xs.length∧(assignEach elts env).findIdx? (·.1)=none:=by intro _; exact ⟨rfl,rfl⟩) (hn:elts.map Jk=xs.map some:=by rfl) :
  WS w b C (exec (.Assign [.Tuple elts k tp] e pos)) ρ σ Q:=fun A env s c S L=>by
 refine Assign_Tuple (wpAny_mono (h A env s c S L) (fun v s1 g_=>g_.elim fun mv σ1 q0_ r1 S1 e1=>Br q0_ fun vs hv hl q=> ?_) fun U U x=>x) (hs env) ((Ei c.kind c.names).trans hw)
 subst hv
 refine BD r1 fun a items e_2 ht rs=> ?_
 subst e_2
 have L1:=e1.loc S L
 show wpAny _ A (do standAt tp; unpack (.ref a) (assignEach elts env)) _ _ s1
 refine wpAny_bind (wpAny_standAt ?_)
 unfold unpack
 obtain ⟨b1,b2⟩:=hb env
 rw [b1,b2]
 have hsz:xs.length=items.size:=by rw [← hl,←AH rs]; rfl
 rw [hsz]
 refine wpAny_bind (wpAny_holding (unpackItems_tuple c.room.handled ht fun h' hx=> ?_))
 have kp:∀ x o,s1.heap.get? x=some o→h'.get? x=some o:=fun x o e=>hx x o (Nat.ne_of_lt (Heap.lt_size e)) e
 have e2:Ev noX σ1 s1 σ1 {s1 with heap:=h'}:=Ev.grow rfl rfl kp
 refine (Ek (ρ:=ρ) (ms:=vs) (Ka hn) hl.symm hk c (S1.grow kp) (e2.loc S1 L1) (e2.vrs S1 (AG _) rs) fun s3 S3 L3 e3=>⟨.next,_,σ1,q,rfl,S3,L3,(e1.trans e2).lift.trans e3⟩)
theorem Da {Q:MF→LM→MS→Prop} {elts:List Expr} {k:Nat} {tp pos:Pos} {e:Expr} (xs:List Str) (h:WE w b C (eval e) ρ σ fun mv σ1=>∃ vs,mv= .tup vs∧vs.length=xs.length∧Q .next (ρ.sets (xs.reverse.zip vs.reverse)) σ1)
  (hw:swappedStores [.Tuple elts k tp] e (EB C.names)=pure (some xs):=by rfl) (hk:(xs.all fun x=>AX C x)=true:=by first | rfl | decide +kernel)
  (hs:∀ env,swapsWithSole [.Tuple elts k tp] e pos.line env=pure false:=by intro _; rfl) :
  WS w b C (exec (.Assign [.Tuple elts k tp] e pos)) ρ σ Q:=fun A env s c S L=>by
 refine Assign_Tuple_swapped (wpAny_mono (h A env s c S L) (fun v s1 g_=>g_.elim fun mv σ1 q0_ r1 S1 e1=>Br q0_ fun vs hv hl q=> ?_) fun U U x=>x) (hs env) ((Ei c.kind c.names).trans hw)
 subst hv
 refine BD r1 fun a items e_2 ht rs=> ?_
 subst e_2
 have L1:=e1.loc S L
 have hsz:xs.length=items.size:=by rw [← hl,←AH rs]; rfl
 rw [hsz]
 refine unpackItems_tuple c.room.handled ht fun h' hx=> ?_
 have kp:∀ x o,s1.heap.get? x=some o→h'.get? x=some o:=fun x o e=>hx x o (Nat.ne_of_lt (Heap.lt_size e)) e
 have e2:Ev noX σ1 s1 σ1 {s1 with heap:=h'}:=Ev.grow rfl rfl kp
 refine Ek (xs:=xs.reverse) (ρ:=ρ) Gs (ms:=vs.reverse) (by simp [hl]) (by rw [List.all_reverse]; exact hk) c (S1.grow kp) (e2.loc S1 L1) (e2.vrs S1 (AG _) (Mp rs)) fun s3 S3 L3 e3=>⟨.next,_,σ1,q,rfl,S3,L3,(e1.trans e2).lift.trans e3⟩
end
section
open PySem.SeqAt
mutual
noncomputable def eqM:MV→MV→Bool
 | .none,.none=>true
 | .bool a,.bool b=>a==b
 | .int a,.int b=>a==b
 | .str a,.str b=>a==b
 | .bytes a,.bytes b=>a.toList==b.toList
 | .tup a,.tup b=>CF a b
 | _,_=>false
noncomputable def CF:List MV→List MV→Bool
 | [],[]=>true
 | x::xs,y::ys=>eqM x y && CF xs ys
 | _,_=>false
end
mutual
noncomputable def shp:MV→MV→Bool
 | .none,.none=>true
 | .bool _,.bool _=>true
 | .int _,.int _=>true
 | .str _,.str _=>true
 | .bytes _,.bytes _=>true
 | .none,.bytes _=>true
 | .bytes _,.none=>true
 | .none,.int _=>true
 | .int _,.none=>true
 | .tup a,.tup b=>Bt a b
 | _,_=>false
noncomputable def Bt:List MV→List MV→Bool
 | [],_=>true
 | _::_,[]=>true
 | x::xs,y::ys=>shp x y && Bt xs ys
end
mutual
noncomputable def dp:MV→Nat
 | .tup a=>dps a+1
 | _=>0
noncomputable def dps:List MV→Nat
 | []=>0
 | x::xs=>max (dp x) (dps xs)
end
section
variable {b:Heap}
noncomputable def RV:Value→Bool
 | .float ..=>false
 | _=>true
theorem EqAt.of_rc {A:Around} {s:Shared} {v u:Value} {k:Bool} (hnf:RV v=true) (h1:v=u→k=true) (h:RcAt A s v u k):EqAt A s v u k:=fun prog w E Q hq=>by
 unfold eqBool
 refine wpAny_holding ?_
 refine wpAny_ite_split (fun hab=> ?_) (fun U=> ?_)
 ·rw [h1 (eq_of_beq hab)] at hq; exact wpAny_bind (wpAny_rule (wpAny_pure hq))
 ·have tail:wpAny (model prog w) A (richCompare .Eq v u >>= fun r=>truthOfDropped r) Q E s:=wpAny_bind (h prog w E _ (wpAny_truthy_bool hq))
  clear h1 h hq
  cases v <;> first | exact tail | exact (Bool.false_ne_true hnf).elim
theorem G8:isSubtype (.type "bytes") (.type "NoneType")=pure false:=by rw [isSubtype_type]; kernel_rfl
theorem Ej:isSubtype (.type "NoneType") (.type "bytes")=pure false:=by rw [isSubtype_type]; kernel_rfl
theorem E9 (x:Array UInt8) (t:Tok):Gives (Builtin.«bytes.__eq__» ⟨[.bytes x t,.none],[]⟩) (.val (Value.notImplemented)):=by
 refine .of_wp fun M A E s Q hq=> ?_
 show wpAny M A (isInstance .none (.type "bytes") >>= fun r=>_) _ E s
 exact wpAny_bind (wpAny_isInstance (T:="NoneType") rfl Ej (show wpAny M A (rule _ >>= fun U=>ret .notImplemented) _ E s from wpAny_bind (wpAny_rule (wpAny_pure ⟨_,rfl,hq⟩))))
theorem E0 (x:Array UInt8) (t:Tok):Gives (Builtin.«NoneType.__eq__» ⟨[.none,.bytes x t],[]⟩) (.val (Value.notImplemented)) :=
 .of_wp fun M A E s Q h=>by obtain ⟨hp,g,d,tk,os⟩:=s; wp_walk; exact ⟨_,rfl,h⟩
theorem RcAt.bytes_bytes {A:Around} {s:Shared} (x:Array UInt8) (t:Tok) (y:Array UInt8) (u:Tok):RcAt A s (.bytes x t) (.bytes y u) (x.toList==y.toList):=fun prog w E Q h=>eq_bytes h
theorem RcAt.none_bytes {A:Around} {s:Shared} (y:Array UInt8) (u:Tok):RcAt A s .none (.bytes y u) false:=fun prog w E Q h =>
 rc_eq_decline_or (k:=false) rfl (typeIs_bytes s y u) (by decide) G8 F.slot_NoneType_eq FB.slot_bytes_eq
  (fun U hq=>call_gives F.slot_NoneType_eq rfl F.entry_NoneType_eq (F.args_NoneType_eq_2 _ _) (E0 y u) hq)
  (fun U hq=>call_gives FB.slot_bytes_eq (typeIs_bytes s y u) FB.entry_bytes_eq (FB.args_bytes_eq_2 _ _) (E9 y u) hq)
  (fun U hq=>wpAny_of_eq (rfl:isSame .none (.bytes y u)=pure false) hq) (.inl rfl) h
theorem RcAt.bytes_none {A:Around} {s:Shared} (y:Array UInt8) (u:Tok):RcAt A s (.bytes y u) .none false:=fun prog w E Q h =>
 rc_eq_decline_or (k:=false) (typeIs_bytes s y u) rfl (by decide) Ej FB.slot_bytes_eq F.slot_NoneType_eq
  (fun U hq=>call_gives FB.slot_bytes_eq (typeIs_bytes s y u) FB.entry_bytes_eq (FB.args_bytes_eq_2 _ _) (E9 y u) hq)
  (fun U hq=>call_gives F.slot_NoneType_eq rfl F.entry_NoneType_eq (F.args_NoneType_eq_2 _ _) (E0 y u) hq)
  (fun U hq=>wpAny_of_eq (rfl:isSame (.bytes y u) .none=pure false) hq) (.inl rfl) h
theorem Dp {h:Heap} {m:List MV}:∀ {v:List Value} {i:Nat} {x:MV},VRs b h m v→m[i]?=some x→∃ u,v[i]?=some u∧VR b h x u:=by
 induction m with
 | nil=>intro v i x _ e; exact (Option.some_ne_none _ e.symm).elim
 | cons m ms ih =>
  intro v i x r q
  refine BD r fun v vs e r0 rs=> ?_
  subst e
  cases i with
  | zero=>exact AQ v rfl (Option.some.inj q▸r0)
  | succ i=>exact ih (i:=i) rs q
theorem KI:∀ {x y:List MV},CF x y=true→x.length=y.length
 | [],[]=>by
  intro _
  exact rfl
 | x::xs,y::ys=>by
  intro h
  have h:=H1 (a:=eqM x y) (c:=CF xs ys) h
  exact congrArg Nat.succ (KI h.2)
 | [],_::_=>by
  intro h
  cases h
 | _::_,[]=>by
  intro h
  cases h
noncomputable def Dj (x y:List MV) (i:Nat):Bool:=match x[i]?,y[i]? with
 | some a,some c=>eqM a c
 | _,_=>true
theorem Ps (p:Nat→Bool) (n:Nat):(List.range (n+1)).all p=(p 0 && (List.range n).all fun i=>p (i+1)):=by
 rw [List.range_succ_eq_map,List.all_cons,List.all_map]; rfl
theorem Ez:∀ (x y:List MV),CF x y=((List.range (min x.length y.length)).all (Dj x y) && x.length==y.length)
 | [],[]=>rfl
 | [],y::ys=>(Bool.and_false _).symm
 | x::xs,[]=>(Bool.and_false _).symm
 | x::xs,y::ys=>by
  show (eqM x y && CF xs ys)=_
  rw [Ez xs ys]
  have e:min (x::xs).length (y::ys).length=min xs.length ys.length+1:=by simp only [List.length_cons]; exact Nat.succ_min_succ _ _
  rw [e,Ps]
  have h0:Dj (x::xs) (y::ys) 0=eqM x y:=rfl
  have h1:(fun i=>Dj (x::xs) (y::ys) (i+1))=Dj xs ys:=rfl
  rw [h0,h1,Bool.and_assoc]
  simp
theorem Fi {x:List MV}:∀ {y:List MV} {i:Nat} {a c:MV},Bt x y=true→x[i]?=some a→y[i]?=some c→shp a c=true:=by
 induction x with
 | nil=>intro y i a c _ e; exact (Option.some_ne_none _ e.symm).elim
 | cons x xs ih =>
  intro y i a c h e f
  cases y with
  | nil=>exact (Option.some_ne_none _ f.symm).elim
  | cons y ys =>
   have h:=H1 (a:=shp x y) (c:=Bt xs ys) h
   cases i with
   | zero=>have e:=Option.some.inj e; have f:=Option.some.inj f; subst e f; exact h.1
   | succ i=>exact ih (i:=i) h.2 e f
theorem GV:∀ {x:List MV} {i:Nat} {a:MV},x[i]?=some a→dp a≤dps x
 | x::xs,0,_,e=>by cases e; exact Nat.le_max_left _ _
 | x::xs,i+1,_,e=>Nat.le_trans (GV (x:=xs) (i:=i) e) (Nat.le_max_right _ _)
 | [],_,_,e=>by cases e
mutual
theorem Cq:∀ x:MV,shp x x=true→eqM x x=true
 | .none=>by
  intro _
  exact rfl
 | .bool a=>by
  intro _
  cases a <;> rfl
 | .int a=>by
  intro _
  show (a==a)=true; exact beq_self_eq_true a
 | .str a=>by
  intro _
  show (a==a)=true; exact beq_self_eq_true a
 | .bytes a=>by
  intro _
  show (a.toList==a.toList)=true; exact beq_self_eq_true _
 | .tup a=>by
  intro h
  exact IJ a h
 | .flist _=>by
  intro h
  cases h
 | .ref _=>by
  intro h
  cases h
 | .raw _=>by
  intro h
  cases h
theorem IJ:∀ x:List MV,Bt x x=true→CF x x=true
 | []=>by
  intro _
  exact rfl
 | x::xs=>by
  intro h
  have h:=H1 (a:=shp x x) (c:=Bt xs xs) h
  exact (Bool.and_eq_true _ _).mpr ⟨Cq x h.1,IJ xs h.2⟩
end
theorem Mr {h:Heap} {a:Addr} {i j:Array Value} (x:IsTup h a i) (y:IsTup h a j):i=j:=by
 refine Br x fun o ho U r_=> ?_
 obtain ⟨k,hd⟩:=r_
 refine Br y fun o' ho' U r_=> ?_
 obtain ⟨k',hd'⟩:=r_
 rw [ho] at ho'; cases ho'; rw [hd] at hd'; cases hd'; rfl
noncomputable def dat:MV→Bool
 | .flist _=>false
 | .ref _=>false
 | .raw _=>false
 | _=>true
theorem Hd {x y:MV} (h:shp x y=true):dat x=true:=by
 cases x <;> first | exact Eq.refl true | exact (Bool.false_ne_true h).elim
theorem Oa {x y:MV}:dat y=false→shp x y=false:=by
 cases y <;> first | exact fun h=>(Bool.noConfusion h) | (cases x <;> exact fun U=>Eq.refl false)
theorem Mv {x y:MV} (h:shp x y=true):(dat x && dat y)=true:=by
 refine (Bool.and_eq_true _ _).mpr ⟨Hd h,?_⟩
 cases q:dat y with
 | true=>rfl
 | false=>exact (Oa q).symm.trans h
theorem Rn {h:Heap} {P:MV→Value→Prop} (n:P .none .none) (bo:∀ a,P (.bool a) (.bool a)) (i:∀ a t,P (.int a) (.int a t)) (s:∀ a t,P (.str a) (.str a t)) (y:∀ a t,P (.bytes a) (.bytes a t))
  (t:∀ a l it,IsTup h l it→VRs b h a it.toList→P (.tup a) (.ref l)) {x:MV} {v:Value} (hd:dat x=true) (r:VR b h x v):P x v:=by
 cases x with
 | none=>exact Eq.symm r▸n
 | bool a=>exact Eq.symm r▸bo a
 | int a=>exact Exists.elim r fun k e=>e.symm▸i a k
 | str a=>exact Exists.elim r fun k e=>e.symm▸s a k
 | bytes a=>exact Exists.elim r fun k e=>e.symm▸y a k
 | tup a=>exact BD r fun l it e h1 h2=>e.symm▸t a l it h1 h2
 | flist a=>exact (Bool.false_ne_true hd).elim
 | ref a=>exact (Bool.false_ne_true hd).elim
 | raw a=>exact (Bool.false_ne_true hd).elim
noncomputable def PH:Value→MV
 | .none=> .none
 | .bool a=> .bool a
 | .int a _=> .int a
 | .str a _=> .str a
 | .bytes a _=> .bytes a
 | v=> .raw v
theorem Lp {h:Heap} {x:MV} {v:Value} (hd:dat x=true) (r:VR b h x v):PH v=x∨∃ a l it,x= .tup a∧v= .ref l∧IsTup h l it∧VRs b h a it.toList :=
 Rn (P:=fun x v=>PH v=x∨∃ a l it,x= .tup a∧v= .ref l∧IsTup h l it∧VRs b h a it.toList) (.inl rfl) (fun U=> .inl rfl) (fun U U=> .inl rfl) (fun U U=> .inl rfl) (fun U U=> .inl rfl) (fun a l it h1 h2=> .inr ⟨a,l,it,rfl,rfl,h1,h2⟩) hd r
theorem Oq {x:MV} {u:Value} (hd:dat x=true) (e:x= .raw u):False:=by subst e; exact Bool.false_ne_true hd
theorem NY {h:Heap} {x y:MV} {v:Value} (hx:dat x=true) (hy:dat y=true) (r:VR b h x v) (q:VR b h y v):x=y∨∃ a c l,x= .tup a∧y= .tup c∧VRs b h a l∧VRs b h c l:=by
 refine (Lp hx r).elim (fun e=>(Lp hy q).elim (fun f=> .inl (e.symm.trans f)) fun f=>KL f fun c m jt ey ew t2 r2=>(Oq hx (e.symm.trans (congrArg PH ew))).elim) fun f=>KL f fun a l it ex ev t1 r1=>(Lp hy q).elim (fun f=>(Oq hy (f.symm.trans (congrArg PH ev))).elim) fun f=>KL f fun c m jt ey ew t2 r2=> ?_
 have e:=Value.ref.inj (ev.symm.trans ew)
 subst e
 exact .inr ⟨a,c,jt.toList,ex,ey,Mr t1 t2▸r1,r2⟩
theorem Mo {h:Heap} {x y:MV} {xs ys:List MV} {l:List Value} (r:VRs b h (x::xs) l) (q:VRs b h (y::ys) l):∃ u us,VR b h x u∧VR b h y u∧VRs b h xs us∧VRs b h ys us:=by
 refine BD r fun u us e r1 r2=> ?_
 refine BD q fun u' us' f q1 q2=> ?_
 have z:=List.cons.inj (e.symm.trans f)
 exact ⟨u,us,r1,z.1▸q1,r2,z.2▸q2⟩
theorem IU {h:Heap} {y:MV} {ys:List MV} {l:List Value} (r:VRs b h [] l) (q:VRs b h (y::ys) l):False:=BD q fun U U f U U=>List.cons_ne_nil _ _ (f.symm.trans r)
theorem J5 {h:Heap} {n:Nat} (ih:∀ x y v,dp x < n→shp x y=true→VR b h x v→VR b h y v→eqM x y=true) (x:List MV):∀ (y:List MV) (v:List Value),dps x < n→Bt x y=true→VRs b h x v→VRs b h y v→CF x y=true:=by
 induction x with
 | nil =>
  intro y v _ _ e f
  cases y with
  | nil=>rfl
  | cons y ys=>exact (IU e f).elim
 | cons x xs IH =>
  intro y v hd hs e f
  cases y with
  | nil=>exact (IU f e).elim
  | cons y ys =>
   refine FG (Mo e f) fun u us r q rs qs=> ?_
   have hs:=H1 (a:=shp x y) (c:=Bt xs ys) hs
   exact (Bool.and_eq_true _ _).mpr ⟨ih x y u (Nat.lt_of_le_of_lt (Nat.le_max_left ..) hd) hs.1 r q,IH ys us (Nat.lt_of_le_of_lt (Nat.le_max_right ..) hd) hs.2 rs qs⟩
theorem PE {h:Heap} (n:Nat):∀ (x y:MV) (v:Value),dp x < n→shp x y=true→VR b h x v→VR b h y v→eqM x y=true:=by
 induction n with
 | zero=>exact fun x y v hd=>absurd hd (Nat.not_lt_zero _)
 | succ n ih =>
  intro x y v hd hs r q
  have h2:=H1 (Mv hs)
  rcases NY h2.1 h2.2 r q with e | ⟨a,c,l,ex,ey,r1,r2⟩
  ·subst e; exact Cq x hs
  ·subst ex ey; exact J5 ih a c l (Nat.lt_of_succ_lt_succ hd) hs r1 r2
theorem IQ {h:Heap} {m:List MV} {it:Array Value} (r:VRs b h m it.toList) (j:Nat) (hj:j < it.size):∃ x,m[j]?=some x∧VR b h x it[j]:=by
 have hl:=AH r
 have hj':j < m.length:=by rw [← hl]; exact hj
 refine Af (Dp r (List.getElem?_eq_getElem hj')) fun u hu ru=> ?_
 refine AQ (m[j]) (List.getElem?_eq_getElem hj') ?_
 have:it[j]?=some u:=by rw [← Array.getElem?_toList]; exact hu
 rw [Array.getElem?_eq_getElem hj] at this
 cases this; exact ru
set_option tactic.hygienic true in
theorem Gh {h:Heap} {P:MV→MV→Value→Value→Prop} (nn:P .none .none .none .none) (bb:∀ a c,P (.bool a) (.bool c) (.bool a) (.bool c)) (ii:∀ a c t t',P (.int a) (.int c) (.int a t) (.int c t'))
  (ss:∀ a c t t',P (.str a) (.str c) (.str a t) (.str c t')) (yy:∀ a c t t',P (.bytes a) (.bytes c) (.bytes a t) (.bytes c t')) (ny:∀ c t,P .none (.bytes c) .none (.bytes c t)) (yn:∀ c t,P (.bytes c) .none (.bytes c t) .none)
  (ni:∀ c t,P .none (.int c) .none (.int c t)) (in':∀ c t,P (.int c) .none (.int c t) .none) (tt:∀ a c l i1 m i2,IsTup h l i1→VRs b h a i1.toList→IsTup h m i2→VRs b h c i2.toList→Bt a c=true→P (.tup a) (.tup c) (.ref l) (.ref m))
  {x y:MV} {v u:Value} (hs:shp x y=true) (rx:VR b h x v) (ry:VR b h y u):P x y v u:=by
 have h2:=H1 (Mv hs)
 have no:∀ {q:Prop},false=true→q:=fun z=>(Bool.false_ne_true z).elim
 have Y:∀ (x:MV) (v:Value),(shp x .none=true→P x .none v .none)→(∀ c,shp x (.bool c)=true→P x (.bool c) v (.bool c))→(∀ c t,shp x (.int c)=true→P x (.int c) v (.int c t))→(∀ c t,shp x (.str c)=true→P x (.str c) v (.str c t))→(∀ c t,shp x (.bytes c)=true→P x (.bytes c) v (.bytes c t)) →
   (∀ c m i2,IsTup h m i2→VRs b h c i2.toList→shp x (.tup c)=true→P x (.tup c) v (.ref m))→shp x y=true→P x y v u:=fun x v n bo i s yb t=>Rn (P:=fun y u=>shp x y=true→P x y v u) n bo i s yb t h2.2 ry
 exact Rn (P:=fun x v=>shp x y=true→P x y v u) (Y _ _ (fun U=>nn) (fun U=>no) (fun c t U=>ni c t) (fun U U=>no) (fun c t U=>ny c t) (fun U U U U U=>no)) (fun a=>Y _ _ no (fun c U=>bb a c) (fun U U=>no) (fun U U=>no) (fun U U=>no) (fun U U U U U=>no))
  (fun a t=>Y _ _ (fun U=>in' a t) (fun U=>no) (fun c t' U=>ii a c t t') (fun U U=>no) (fun U U=>no) (fun U U U U U=>no)) (fun a t=>Y _ _ no (fun U=>no) (fun U U=>no) (fun c t' U=>ss a c t t') (fun U U=>no) (fun U U U U U=>no))
  (fun a t=>Y _ _ (fun U=>yn a t) (fun U=>no) (fun U U=>no) (fun U U=>no) (fun c t' U=>yy a c t t') (fun U U U U U=>no)) (fun a l i1 t1 r1=>Y _ _ no (fun U=>no) (fun U U=>no) (fun U U=>no) (fun U U=>no) (fun c m i2 t2 r2 hs=>tt a c l i1 m i2 t1 r1 t2 r2 hs)) h2.1 rx hs
theorem O2 {s:Shared} {n:Nat} {A:Around} (IH:∀ (x y:MV) (v u:Value),dp x < n→shp x y=true→shp x x=true→VR b s.heap x v→VR b s.heap y u→EqAt A s v u (eqM x y)) {a c:List MV} {i1 i2:Array Value} (r1:VRs b s.heap a i1.toList) (r2:VRs b s.heap c i2.toList) (hd:dps a < n)
  (hs:Bt a c=true) (hx:Bt a a=true) (j:Nat) (h1:j < i1.size) (h2:j < i2.size):EqAt A s i1[j] i2[j] (Dj a c j):=by
 refine Af (IQ r1 j h1) fun xx e1 q1=> ?_
 refine Af (IQ r2 j h2) fun yy e2 q2=> ?_
 have e:eqM xx yy=Dj a c j:=by unfold Dj; rw [e1,e2]
 exact e▸IH xx yy _ _ (Nat.lt_of_le_of_lt (GV e1) hd) (Fi hs e1 e2) (Fi hx e1 e1) q1 q2
theorem F0 {a c:List MV} {h:Heap} {i1 i2:Array Value} (r1:VRs b h a i1.toList) (r2:VRs b h c i2.toList):((List.range (min i1.size i2.size)).all (Dj a c) && i1.size==i2.size)=CF a c:=by
 rw [show i1.size=a.length from AH r1,show i2.size=c.length from AH r2,←Ez]
theorem LS {s:Shared} (n:Nat):∀ (A:Around),A.units+n≤cLine→∀ (x y:MV) (v u:Value),dp x < n→shp x y=true→shp x x=true→VR b s.heap x v→VR b s.heap y u→EqAt A s v u (eqM x y):=by
 induction n with
 | zero=>exact fun U U U U U U hd=>absurd hd (Nat.not_lt_zero _)
 | succ n IH =>
  intro A hu x y v u hd hs hx rx ry
  refine Gh (P:=fun x y v u=>dp x < n+1→shp x x=true→EqAt A s v u (eqM x y)) (fun U U=>EqAt.same _) (fun U U U U=>EqAt.bool_bool _ _) (fun U U U U U U=>EqAt.int_int _ _ _ _) (fun U U U U U U=>EqAt.str_str _ _ _ _)
   (fun U U U U U U=>EqAt.of_rc rfl (fun e=>by cases e; exact beq_self_eq_true _) (RcAt.bytes_bytes _ _ _ _)) (fun U U U U=>EqAt.of_rc rfl (fun e=>Value.noConfusion e) (RcAt.none_bytes _ _))
   (fun U U U U=>EqAt.of_rc rfl (fun e=>Value.noConfusion e) (RcAt.bytes_none _ _)) (fun U U U U=>EqAt.none_int _ _) (fun U U U U=>EqAt.int_none _ _) (fun a c l i1 m i2 t1 r1 t2 r2 hs hd hx=> ?_) hs rx ry hd hx
  have key:RcAt A s (.ref l) (.ref m) (CF a c):=F0 r1 r2▸RcAt.tuples (A:=A) (e:=Dj a c) t1 t2 (Nat.lt_of_lt_of_le (Nat.lt_add_of_pos_right (Nat.succ_pos n)) hu) (O2 (IH A.in1 (by show A.units+1+n≤cLine; rw [Nat.add_assoc,Nat.add_comm 1]; exact hu)) r1 r2 (Nat.lt_of_succ_lt_succ hd) hs hx)
  by_cases hlm:l=m
  ·subst hlm
   exact EqAt.of_rc rfl (fun U=>J5 (PE _) a c _ (Nat.lt_succ_self _) hs r1 (Mr t1 t2▸r2)) key
  ·exact EqAt.of_refs hlm key
theorem KJ {s:Shared} (n:Nat) (x y:MV) (v u:Value) (A:Around) (hd:dp x≤n) (hu:A.units+n < cLine) (hs:shp x y=true) (hx:shp x x=true) (rx:VR b s.heap x v) (ry:VR b s.heap y u):EqAt A s v u (eqM x y):=LS (n+1) A hu x y v u (Nat.lt_succ_of_le hd) hs hx rx ry
end
section
variable {b:Heap}
theorem PD {h:Heap} {n:Nat} (ih:∀ x y v,dp x < n→shp x x=true→shp y y=true→VR b h x v→VR b h y v→x=y) (x:List MV):∀ (y:List MV) (v:List Value),dps x < n→Bt x x=true→Bt y y=true→VRs b h x v→VRs b h y v→x=y:=by
 induction x with
 | nil =>
  intro y v _ _ _ e f
  cases y with
  | nil=>rfl
  | cons y ys=>exact (IU e f).elim
 | cons x xs IH =>
  intro y v hd hx hy e f
  cases y with
  | nil=>exact (IU f e).elim
  | cons y ys =>
   refine FG (Mo e f) fun u us r q rs qs=> ?_
   have hx:=H1 (a:=shp x x) (c:=Bt xs xs) hx
   have hy:=H1 (a:=shp y y) (c:=Bt ys ys) hy
   exact List.cons_eq_cons.mpr ⟨ih x y u (Nat.lt_of_le_of_lt (Nat.le_max_left ..) hd) hx.1 hy.1 r q,IH ys us (Nat.lt_of_le_of_lt (Nat.le_max_right ..) hd) hx.2 hy.2 rs qs⟩
theorem QL {h:Heap} (n:Nat):∀ (x y:MV) (v:Value),dp x < n→shp x x=true→shp y y=true→VR b h x v→VR b h y v→x=y:=by
 induction n with
 | zero=>exact fun x y v hd=>absurd hd (Nat.not_lt_zero _)
 | succ n ih =>
  intro x y v hd hx hy r q
  refine (NY (Hd hx) (Hd hy) r q).elim id fun f=>KL f fun a c l ex ey r1 r2=> ?_
  subst ex ey
  exact congrArg MV.tup (PD ih a c l (Nat.lt_of_succ_lt_succ hd) hx hy r1 r2)
open Classical in
noncomputable def eAt (b h:Heap) (x:MV) (v:Value):Bool:=if q:∃ m,shp m m=true∧VR b h m v then eqM q.choose x else false
theorem LU {h:Heap} {x m:MV} {v:Value} (hm:shp m m=true) (r:VR b h m v):eAt b h x v=eqM m x:=by
 have q:∃ m,shp m m=true∧VR b h m v:=⟨m,hm,r⟩
 unfold eAt
 rw [dif_pos q,QL _ _ _ _ (Nat.lt_succ_self _) q.choose_spec.1 hm q.choose_spec.2 r]
theorem Hc:∀ {x:List MV} {m:MV},Bt x x=true→m∈x→shp m m=true
 | x::xs,m,h,e=>by
  have h:=H1 (a:=shp x x) (c:=Bt xs xs) h
  rcases List.mem_cons.mp e with e | e
  ·rw [e]; exact h.1
  ·exact Hc h.2 e
theorem Mq {h:Heap}:∀ {x:List MV} {v:List Value} {u:Value},VRs b h x v→u∈v→∃ m,m∈x∧VR b h m u:=by
 intro w_
 induction w_ with
 | nil =>
  intro _ _ e q
  cases e; cases q
 | cons x xs ih_ =>
  intro _ u r_34 q
  obtain ⟨v,vs,e,r,rs⟩:=r_34
  subst e
  rcases List.mem_cons.mp q with e | e
  ·subst e; exact ⟨x,.head _,r⟩
  ·obtain ⟨m,a,c⟩:=ih_ rs e; exact ⟨m,.tail _ a,c⟩
theorem Qm {h:Heap} {x:MV}:∀ {ys:List MV} {v:List Value},Bt ys ys=true→VRs b h ys v→v.any (eAt b h x)=ys.any fun m=>eqM m x:=by
 intro w_
 induction w_ with
 | nil =>
  intro _ _ e
  cases e; rfl
 | cons y ys ih_ =>
  intro _ hs r_36
  obtain ⟨v,vs,e,r,rs⟩:=r_36
  subst e
  have hs:=H1 (a:=shp y y) (c:=Bt ys ys) hs
  rw [List.any_cons,List.any_cons,LU hs.1 r,ih_ hs.2 rs]
theorem hu1 {a:List MV} {A:Around} {n:Nat} (hd:dp (.tup a)≤n) (hu:A.units+n < cLine):A.in1.units+n≤cLine:=by show A.units+1+n≤cLine; lia
theorem Oh {s:Shared} {n:Nat} {x y:MV} {v u:Value} {A:Around} (hd:dp x≤n) (hu:A.units+n < cLine) (hs:shp x y=true) (hx:shp x x=true) (rx:VR b s.heap x v) (ry:VR b s.heap y u):RcAt A s v u (eqM x y):=by
 refine Gh (P:=fun x y v u=>dp x≤n→shp x x=true→RcAt A s v u (eqM x y)) (fun U U=>RcAt.none_none) (fun U U U U=>RcAt.bool_bool _ _) (fun U U U U U U=>RcAt.int_int _ _ _ _) (fun U U U U U U=>RcAt.str_str _ _ _ _) (fun U U U U U U=>RcAt.bytes_bytes _ _ _ _)
  (fun U U U U=>RcAt.none_bytes _ _) (fun U U U U=>RcAt.bytes_none _ _) (fun U U U U=>RcAt.none_int _ _) (fun U U U U=>RcAt.int_none _ _) (fun a c l i1 m i2 t1 r1 t2 r2 hs hd hx=> ?_) hs rx ry hd hx
 have key:RcAt A s (.ref l) (.ref m) (CF a c):=F0 r1 r2▸RcAt.tuples (A:=A) (e:=Dj a c) t1 t2 (Nat.lt_of_le_of_lt (Nat.le_add_right ..) hu) (O2 (LS n A.in1 (hu1 hd hu)) r1 r2 hd hs hx)
 exact key
theorem RcNeAt.bytes_bytes {A:Around} {s:Shared} (x:Array UInt8) (t:Tok) (y:Array UInt8) (u:Tok):RcNeAt A s (.bytes x t) (.bytes y u) (!(x.toList==y.toList)):=fun prog w E Q h=>ne_bytes h
theorem Lz {s:Shared} {n:Nat} {x y:MV} {v u:Value} {A:Around} (hd:dp x≤n) (hu:A.units+n < cLine) (hs:shp x y=true) (hx:shp x x=true) (hm:∀ z,(x= .none→y≠ .bytes z)∧(y= .none→x≠ .bytes z)) (rx:VR b s.heap x v) (ry:VR b s.heap y u) :
  RcNeAt A s v u (!eqM x y):=by
 refine Gh (P:=fun x y v u=>dp x≤n→shp x x=true→(∀ z,(x= .none→y≠ .bytes z)∧(y= .none→x≠ .bytes z))→RcNeAt A s v u (!eqM x y)) (fun U U U=>RcNeAt.none_none) (fun U U U U U=>RcNeAt.bool_bool _ _) (fun U U U U U U U=>RcNeAt.int_int _ _ _ _) (fun U U U U U U U=>RcNeAt.str_str _ _ _ _) (fun U U U U U U U=>RcNeAt.bytes_bytes _ _ _ _)
  (fun c U U U hm=>absurd rfl ((hm c).1 rfl)) (fun c U U U hm=>absurd rfl ((hm c).2 rfl)) (fun U U U U U=>RcNeAt.none_int _ _) (fun U U U U U=>RcNeAt.int_none _ _) (fun a c l i1 m i2 t1 r1 t2 r2 hs hd hx U=> ?_) hs rx ry hd hx hm
 have key:RcNeAt A s (.ref l) (.ref m) (!CF a c):=F0 r1 r2▸RcNeAt.tuples (A:=A) (e:=Dj a c) t1 t2 (Nat.lt_of_le_of_lt (Nat.le_add_right ..) hu) (O2 (LS n A.in1 (hu1 hd hu)) r1 r2 hd hs hx)
 exact key
end
section
variable {w:World} {b:Heap} {d:Nat} {σ:MS} {Q:Bool→MS→Prop} {x y:MV}
theorem Rm.room {d:Nat} {A:Around} (r:Rm d A) {n:Nat} (h:n≤8*d):A.units+n < cLine:=by have:=r.units; exact Nat.lt_of_le_of_lt (Nat.add_le_add_left h _) this
theorem kEq (q:Q (eqM x y) σ) (hd:dp x≤8*d) (hs:shp x y=true) (hx:shp x x=true):WK w b d .Eq x y σ Q:=fun A s v u rm S rx ry =>
 Oh (A:=A) hd (rm.room (Nat.le_refl _)) hs hx rx ry pw w _ _ (Cs.pure q S)
theorem kNe (q:Q (!eqM x y) σ) (hd:dp x≤8*d) (hs:shp x y=true) (hx:shp x x=true) (hm:∀ z,(x= .none→y≠ .bytes z)∧(y= .none→x≠ .bytes z)):WK w b d .NotEq x y σ Q:=fun A s v u rm S rx ry =>
 Lz (A:=A) hd (rm.room (Nat.le_refl _)) hs hx hm rx ry pw w _ _ (Cs.pure q S)
theorem Bo {h:Heap} {a:Addr} {xs:List MV} (S:St b σ h) (e:σ a=some (.list xs)):∃ items,h.IsList a items∧VRs b h xs items.toList:=by
 refine CX (S.obj a _ e) fun items n h1 r=> ?_
 exact AQ items ⟨_,h1,rfl,_,rfl⟩ r
theorem OA {A:Around} {s:Shared} {xs ys:List MV} {n:Nat} {l m:Addr} {i1 i2:Array Value} (hd:dps xs≤n) (hu:A.units+1+n < cLine) (hs:Bt xs ys=true) (hx:Bt xs xs=true) (t1:s.heap.IsList l i1) (t2:s.heap.IsList m i2) (r1:VRs b s.heap xs i1.toList)
  (r2:VRs b s.heap ys i2.toList):RcAt A s (.ref l) (.ref m) (CF xs ys)∧RcNeAt A s (.ref l) (.ref m) (!CF xs ys):=by
 have l1:i1.size=xs.length:=AH r1
 have l2:i2.size=ys.length:=AH r2
 by_cases hl:xs.length=ys.length
 ·have he:∀ j (h1:j < i1.size) (h2:j < i2.size),EqAt A.in1 s i1[j] i2[j] (Dj xs ys j):=fun j h1 h2=>by
   refine Af (IQ r1 j h1) fun xx e1 q1=> ?_
   refine Af (IQ r2 j h2) fun yy e2 q2=> ?_
   have:Dj xs ys j=eqM xx yy:=by unfold Dj; rw [e1,e2]
   rw [this]
   exact KJ n xx yy _ _ A.in1 (Nat.le_trans (GV e1) hd) hu (Fi hs e1 e2) (Fi hx e1 e1) q1 q2
  have e:CF xs ys=(List.range i1.size).all (Dj xs ys):=by rw [Ez,hl,l1,hl]; simp
  rw [e]
  exact ⟨RcAt.lists t1 t2 (Nat.eq_of_lt_succ_of_not_lt (Nat.lt_succ_of_le (Nat.le_trans (Nat.le_trans (Nat.le_of_eq l1) (Nat.le_of_eq hl)) (Nat.le_of_eq (Eq.symm l2)))) (Nat.not_lt_of_le (Nat.le_trans (Nat.le_trans (Nat.le_of_eq l2) (Nat.le_of_eq (Eq.symm hl))) (Nat.le_of_eq (Eq.symm l1))))) (Nat.lt_trans (Nat.lt_succ_self _) (Nat.lt_of_add_right_lt hu)) he,RcNeAt.lists t1 t2 (Nat.eq_of_lt_succ_of_not_lt (Nat.lt_succ_of_le (Nat.le_trans (Nat.le_trans (Nat.le_of_eq l1) (Nat.le_of_eq hl)) (Nat.le_of_eq (Eq.symm l2)))) (Nat.not_lt_of_le (Nat.le_trans (Nat.le_trans (Nat.le_of_eq l2) (Nat.le_of_eq (Eq.symm hl))) (Nat.le_of_eq (Eq.symm l1))))) (Nat.lt_trans (Nat.lt_succ_self _) (Nat.lt_of_add_right_lt hu)) he⟩
 ·have e:CF xs ys=false:=by
   cases q:CF xs ys with
   | false=>rfl
   | true=>exact absurd (KI q) hl
  rw [e]
  have hz:(i1.size != i2.size)=true:=by rw [l1,l2]; simpa using hl
  exact ⟨RcAt.lists_lengths t1 t2 hz (Nat.lt_trans (Nat.lt_succ_self _) (Nat.lt_of_add_right_lt hu)),RcNeAt.lists_lengths t1 t2 hz (Nat.lt_trans (Nat.lt_succ_self _) (Nat.lt_of_add_right_lt hu))⟩
theorem Q6 {l m:Addr} {xs ys:List MV} (h1:σ l=some (.list xs)) (h2:σ m=some (.list ys)) (q:Q (CF xs ys) σ) (hd:dps xs+1≤8*d) (hs:Bt xs ys=true) (hx:Bt xs xs=true):WK w b d .Eq (.ref l) (.ref m) σ Q:=fun A s v u rm S rx ry=>by
 have rx:v= .ref l:=rx
 have ry:u= .ref m:=ry
 subst rx ry
 refine Af (Bo S h1) fun i1 t1 r1=> ?_
 refine Af (Bo S h2) fun i2 t2 r2=> ?_
 exact (OA (A:=A) (n:=dps xs) (Nat.le_refl _) (by have:=rm.units; exact rm1 hd this) hs hx t1 t2 r1 r2).1 pw w _ _ (Cs.pure q S)
theorem Kw {l m:Addr} {xs ys:List MV} (h1:σ l=some (.list xs)) (h2:σ m=some (.list ys)) (q:Q (!CF xs ys) σ) (hd:dps xs+1≤8*d) (hs:Bt xs ys=true) (hx:Bt xs xs=true):WK w b d .NotEq (.ref l) (.ref m) σ Q:=fun A s v u rm S rx ry=>by
 have rx:v= .ref l:=rx
 have ry:u= .ref m:=ry
 subst rx ry
 refine Af (Bo S h1) fun i1 t1 r1=> ?_
 refine Af (Bo S h2) fun i2 t2 r2=> ?_
 exact (OA (A:=A) (n:=dps xs) (Nat.le_refl _) (by have:=rm.units; exact rm1 hd this) hs hx t1 t2 r1 r2).2 pw w _ _ (Cs.pure q S)
theorem Ht {A:Around} {s:Shared} {xs:List MV} {u:Value} {items:Array Value} (r:VRs b s.heap xs items.toList) (hx:Bt xs xs=true) (ry:VR b s.heap y u) (hs:∀ m∈xs,shp m y=true) (hu:A.units+1+dps xs < cLine) :
  (∀ z,z∈items→EqAt A.in1 s z u (eAt b s.heap y z))∧items.any (eAt b s.heap y)=xs.any fun m=>eqM m y:=by
 refine ⟨fun z hz=> ?_,?_⟩
 ·refine Af (Mq r (Array.mem_toList_iff.mpr hz)) fun m hm rm=> ?_
  have sm:=Hc hx hm
  rw [LU sm rm]
  obtain ⟨i,hi⟩:=List.getElem?_of_mem hm
  exact KJ (dps xs) m y z u A.in1 (GV hi) hu (hs m hm) sm rm ry
 ·rw [← Array.any_toList]; exact Qm hx r
theorem Sd {l:Addr} {xs:List MV} (h1:σ l=some (.list xs)) (q:Q (xs.any fun m=>eqM m y) σ) (hd:dps xs+1≤8*d) (hx:Bt xs xs=true) (hs:∀ m∈xs,shp m y=true):WK w b d .In y (.ref l) σ Q:=fun A s v u rm S rx ry=>by
 have ry:u= .ref l:=ry
 subst ry
 refine Af (Bo S h1) fun i1 t1 r1=> ?_
 obtain ⟨p1,p2⟩:=Ht (A:=A) r1 hx rx hs (by have:=rm.units; lia)
 exact in_listAt _ t1 p1 (by rw [p2]; exact Cs.pure q S)
theorem Fz {l:Addr} {xs:List MV} (h1:σ l=some (.list xs)) (q:Q (!xs.any fun m=>eqM m y) σ) (hd:dps xs+1≤8*d) (hx:Bt xs xs=true) (hs:∀ m∈xs,shp m y=true):WK w b d .NotIn y (.ref l) σ Q:=fun A s v u rm S rx ry=>by
 have ry:u= .ref l:=ry
 subst ry
 refine Af (Bo S h1) fun i1 t1 r1=> ?_
 obtain ⟨p1,p2⟩:=Ht (A:=A) r1 hx rx hs (by have:=rm.units; lia)
 exact notIn_listAt _ t1 p1 (by rw [p2]; exact Cs.pure q S)
theorem Tb {xs:List MV} (q:Q (xs.any fun m=>eqM m y) σ) (hd:dps xs+1≤8*d) (hx:Bt xs xs=true) (hs:∀ m∈xs,shp m y=true):WK w b d .In y (.tup xs) σ Q:=fun A s v u rm S rx ⟨a,items,e,t,r1⟩=>by
 subst e
 obtain ⟨p1,p2⟩:=Ht (A:=A) r1 hx rx hs (by have:=rm.units; lia)
 exact in_tupleAt _ t p1 (by rw [p2]; exact Cs.pure q S)
theorem MP {xs:List MV} (q:Q (!xs.any fun m=>eqM m y) σ) (hd:dps xs+1≤8*d) (hx:Bt xs xs=true) (hs:∀ m∈xs,shp m y=true):WK w b d .NotIn y (.tup xs) σ Q:=fun A s v u rm S rx ⟨a,items,e,t,r1⟩=>by
 subst e
 obtain ⟨p1,p2⟩:=Ht (A:=A) r1 hx rx hs (by have:=rm.units; lia)
 exact notIn_tupleAt _ t p1 (by rw [p2]; exact Cs.pure q S)
end
section
variable {w:World} {b:Heap} {C:Cx} {ρ:LM} {σ:MS} {Q:MV→MS→Prop} {d:Nat}
noncomputable abbrev lOb (items:Array Value) (n:Nat):Obj:=⟨.type "list",none,.seq items n,#[]⟩
theorem B1 {h:Heap} {a:Addr} {xs:List MV} (S:St b σ h) (e:σ a=some (.list xs)):∃ items n,h.get? a=some (lOb items n)∧VRs b h xs items.toList:=S.obj a _ e
theorem LH (items:Array Value) (n:Nat) (f:Array Value→Array Value):∃ n',Obj.mapSeq f (lOb items n)=lOb (f items) n':=⟨_,rfl⟩
theorem Fu {s:Shared} {a:Addr} {xs ys:List MV} {items:Array Value} {n:Nat} (f:Array Value→Array Value) (S:St b σ s.heap) (e:σ a=some (.list xs)) (h1:s.heap.get? a=some (lOb items n)) (r:VRs b s.heap ys (f items).toList) :
  St b (σ.set a (.list ys)) (s.heap.update a (Obj.mapSeq f))∧Ev noX σ s (σ.set a (.list ys)) {s with heap:=s.heap.update a (Obj.mapSeq f)}:=by
 obtain ⟨n',hn⟩:=LH items n f
 have D:(s.heap.update a (Obj.mapSeq f)).get? a=some (lOb (f items) n'):=by rw [← hn]; exact Heap.get?_update_self _ h1 (by rw [hn]; rfl)
 have k:∀ y o,y≠a→s.heap.get? y=some o→(s.heap.update a (Obj.mapSeq f)).get? y=some o:=fun y o n e=>((Heap.SameBut.update ..).2 y n).trans e
 exact ⟨S.upd e rfl (.inl rfl) k fun K KS=>⟨_,n',D,KS _ _ r⟩,Ev.upd S e rfl (.inl rfl) k ⟨_,D⟩ rfl rfl⟩
theorem Bm {a:Addr} {xs:List MV} {i:Int} {x:MV} (e:σ a=some (.list xs)) (h0:0≤i) (h1:i < 2^63) (hx:xs[i.toNat]?=some x) (q:Q x σ):WX w b d (.ref a) (.int i) σ Q:=fun A s ov iv rm S ro q0_=>by
 obtain ⟨t,ri⟩:=q0_
 have ro:ov= .ref a:=ro
 subst ro ri
 obtain ⟨items,t1,r1⟩:=Bo S e
 obtain ⟨u,hu,ru⟩:=Dp r1 hx
 exact ⟨"list",_,list_getitem_lookup,t1.typeIs,wpAny_getItem_list t1 h0 h1 (by rw [← Array.getElem?_toList]; exact hu) (AC.pure q ru S)⟩
theorem Ll {a:Addr} {xs:List MV} {i:Int} {x:MV} (e:σ a=some (.list xs)) (h0:i < 0) (h1: -(xs.length:Int)≤i) (h2: -(2^63)≤i) (hx:xs[(i+xs.length).toNat]?=some x) (q:Q x σ):WX w b d (.ref a) (.int i) σ Q:=fun A s ov iv rm S ro q0_=>by
 obtain ⟨t,ri⟩:=q0_
 have ro:ov= .ref a:=ro
 subst ro ri
 obtain ⟨items,t1,r1⟩:=Bo S e
 have hl:items.size=xs.length:=AH r1
 obtain ⟨u,hu,ru⟩:=Dp r1 hx
 exact ⟨"list",_,list_getitem_lookup,t1.typeIs,wpAny_getItem_list_neg t1 h0 (by rw [hl]; exact h1) h2 (by rw [← Array.getElem?_toList,hl]; exact hu) (AC.pure q ru S)⟩
theorem CT {xs:List MV} {i:Int} {x:MV} (h0:0≤i) (h1:i < 2^63) (hx:xs[i.toNat]?=some x) (q:Q x σ):WX w b d (.tup xs) (.int i) σ Q:=fun A s ov iv rm S q0_ q1_=>by
 obtain ⟨a,items,ro,t1,r1⟩:=q0_
 obtain ⟨t,ri⟩:=q1_
 subst ro ri
 refine Af (Dp r1 hx) fun u hu ru=> ?_
 have hu':items[i.toNat]?=some u:=by rw [← Array.getElem?_toList]; exact hu
 have hlt:i.toNat < items.size:=by
  have:=(Array.getElem?_eq_some_iff.mp hu').1; exact this
 refine Bq ("tuple") _ PySem.F.slot_tuple_getitem.lookup (let ⟨o,ho,hc,_⟩:=t1
 ⟨o,ho,hc⟩) (getItem_tuple (j:=i.toNat) t1 (by lia) h1 ?_ hu' (AC.pure q ru S))
 have hn:¬ i < 0:=Int.not_lt.mpr h0
 have hlt':i < items.size:=Iff.mp (Int.toNat_lt h0) hlt
 simp [seqIndex?,hn,h0,hlt']
theorem ME {Q:MS→Prop} {a:Addr} {xs:List MV} {i:Int} {v:MV} (e:σ a=some (.list xs)) (h0:0≤i) (h1:i < xs.length) (h2:i < 2^63) (q:Q (σ.set a (.list (xs.set i.toNat v)))):WSt w b d (.ref a) (.int i) v σ Q:=fun A s ov iv vv rm S ro q0_ rv=>by
 obtain ⟨t,ri⟩:=q0_
 have ro:ov= .ref a:=ro
 subst ro ri
 refine CX (B1 S e) fun items n g1 r1=> ?_
 have hl:items.size=xs.length:=AH r1
 have t1:s.heap.IsList a items:=⟨_,g1,rfl,_,rfl⟩
 have rs:VRs b s.heap (xs.set i.toNat v) (items.setIfInBounds i.toNat vv).toList:=by
  rw [Array.toList_setIfInBounds]
  have:∀ {m:List MV} {l:List Value} (j:Nat),VRs b s.heap m l→VRs b s.heap (m.set j v) (l.set j vv):=by
   intro m
   induction m with
   | nil=>intro l j r; cases r; exact rfl
   | cons m ms IH =>
    rintro l j ⟨u,us,rfl,r,rs⟩
    cases j with
    | zero=>exact ⟨vv,us,rfl,rv,rs⟩
    | succ j=>exact ⟨u,_,rfl,r,IH j rs⟩
  exact this _ r1
 obtain ⟨S',e'⟩:=Fu (fun xs=>xs.setIfInBounds i.toNat vv) S e g1 rs
 unfold setItem
 try with_reducible refine wpAny_holding ?_
 first | refine wpAny_bind (wpAny_pure ?_) | skip
 refine wpAny_bind (wpAny_sequenceKey t1.typeIs (by decide) ?_)
 refine wpAny_bind (wpAny_callSpecial?_slot (name:=Str.ofString "__setitem__") t1.typeIs slot_list_setitem
  (wpAny_call_entry slot_list_setitem t1.typeIs entry_list_setitem ?_ (args_list_setitem _ _ _)))
 show wpAny _ _ (Builtin.List.listSubscript? (.int i t) >>= _) _ _ s
 refine wpAny_bind (wpAny_listSubscript_int (fitsIndex_of h0 h2) ?_)
 clear h2
 obtain ⟨j,rfl⟩:=Int.eq_ofNat_of_zero_le h0
 have hj:j < items.size:=Nat.lt_of_lt_of_eq (Int.ofNat_lt.mp h1) (Eq.symm hl)
 have hx':items[j]?=some items[j]:=Array.getElem?_eq_getElem hj
 show wpAny _ _ ((seqItemAt a j >>= fun r=>pure (r.map (j,·))) >>= _) _ _ s
 refine wpAny_bind (wpAny_bind (wpAny_seqItemAt g1 rfl (wpAny_pure ?_)))
 rw [hx']
 show wpAny _ _ (setSeqItemAt a j vv >>= _) _ _ s
 refine wpAny_bind (wpAny_setSeqItemAt g1 rfl ?_)
 first
  | exact wpAny_bind (wpAny_pure (wpAny_pure ⟨.none,rfl,wpAny_pure ⟨_,q,S',e'⟩⟩))
  | exact wpAny_pure ⟨.none,rfl,wpAny_pure ⟨_,q,S',e'⟩⟩
noncomputable def OD:List (Str×String):=[(S "append","list.append"),(S "pop","list.pop"),(S "remove","list.remove"),(S "index","list.index")]
theorem DC {a:Addr} {xs:List MV} {x:Str} {id:String} (e:σ a=some (.list xs)) (hx:(x,id)∈OD:=by decide +kernel):GM w b x (.ref a) σ (.builtin id) [.ref a]:=fun A s v pl P S r q=>by
 have r:v= .ref a:=r
 subst r
 refine CX (B1 S e) fun items n g1 r1=> ?_
 have hT:s.TypeIs (.ref a) "list":=⟨_,g1,rfl⟩
 have hd:∀ a',(Value.ref a)= .ref a'→∃ o,s.heap.get? a'=some o∧o.dict=none:=fun a' e=>by cases e; exact ⟨_,g1,rfl⟩
 have q':=q [.ref a] s.toks ⟨_,_,rfl,rfl,rfl⟩
 simp only [OD,List.mem_cons,Prod.mk.injEq,List.not_mem_nil,or_false] at hx
 rcases hx with ⟨rfl,rfl⟩ | ⟨rfl,rfl⟩ | ⟨rfl,rfl⟩ | ⟨rfl,rfl⟩
 ·exact getMethod_builtin hT PySem.F.plainAttrs_list PySem.F.slot_list_append PySem.F.type_list_append hd q'
 ·exact getMethod_builtin hT PySem.F.plainAttrs_list PySem.F.slot_list_pop PySem.F.type_list_pop hd q'
 ·exact getMethod_builtin hT PySem.F.plainAttrs_list PySem.F.slot_list_remove PySem.F.type_list_remove hd q'
 ·exact getMethod_builtin hT PySem.F.plainAttrs_list PySem.F.slot_list_index PySem.F.type_list_index hd q'
theorem C3 {a:Addr} {xs:List MV} {v:MV} (e:σ a=some (.list xs)) (hl:xs.length≤100000) (q:Q .none (σ.set a (.list (xs++[v])))):WC w b d (.builtin "list.append") [.ref a,v] σ Q:=fun A s vs rm S r=>by
 refine BD r fun v1 U e_2 r1 r_=> ?_
 subst e_2
 obtain ⟨v2,_,rfl,rv,rfl⟩:=r_
 have r1:v1= .ref a:=r1
 subst r1
 refine CX (B1 S e) fun items n g1 r1=> ?_
 have hz:items.size=xs.length:=AH r1
 have rs:VRs b s.heap (xs++[v]) ((fun ys:Array Value=>ys.push v2) items).toList:=by
  show VRs b s.heap (xs++[v]) (items.push v2).toList
  rw [Array.toList_push]; exact BI r1 ⟨v2,[],rfl,rv,rfl⟩
 obtain ⟨S',e'⟩:=Fu (fun ys=>ys.push v2) S e g1 rs
 refine wpAny_call_entry slot_list_append ⟨_,g1,rfl⟩ entry_list_append ?_ (args_list_append _ _)
 show wpAny _ _ (updateSeq a (·.push v2) >>= fun U=>ret .none) _ _ s
 exact wpAny_bind (wpAny_updateSeq g1 rfl (wpAny_pure ⟨.none,rfl,⟨_,_,q,rfl,S',e'⟩⟩) (by rw [sizeLine_eq]; exact Nat.le_of_lt (Nat.lt_of_le_of_lt (Nat.le_of_eq hz) (Nat.lt_of_le_of_lt hl (by decide)))))
theorem FW {h:Heap}:∀ {m:List MV} {l:List Value} (j:Nat),VRs b h m l→VRs b h (m.eraseIdx j) (l.eraseIdx j)
 | [],_,_=>by
  intro e
  cases e; exact rfl
 | m::ms,_,0=>by
  intro r_37
  obtain ⟨u,us,e,r,rs⟩:=r_37
  subst e; exact rs
 | m::ms,_,j+1=>by
  intro r_38
  obtain ⟨u,us,e,r,rs⟩:=r_38
  subst e; exact ⟨u,_,rfl,r,FW j rs⟩
theorem Eh (a:Array Value) (j:Nat):(a.eraseIdxIfInBounds j).toList=a.toList.eraseIdx j:=by
 unfold Array.eraseIdxIfInBounds
 split
 ·rw [Array.toList_eraseIdx]
 ·rename_i h; rw [List.eraseIdx_of_length_le (by simpa using h)]
theorem So {a:Addr} {xs:List MV} {v:MV} (e:σ a=some (.list xs)) (hl:xs.length≤100000) (hv:xs[xs.length-1]?=some v) (q:Q v (σ.set a (.list (xs.eraseIdx (xs.length-1))))):WC w b d (.builtin "list.pop") [.ref a] σ Q:=fun A s vs rm S r=>by
 refine BD r fun v1 U e_2 r1 e_4=> ?_
 subst e_2
 subst e_4
 have r1:v1= .ref a:=r1
 subst r1
 refine CX (B1 S e) fun items n g1 r1=> ?_
 have hz:items.size=xs.length:=AH r1
 refine Af (Dp r1 hv) fun u hu ru=> ?_
 have rs:VRs b s.heap (xs.eraseIdx (xs.length-1)) ((fun ys:Array Value=>ys.eraseIdxIfInBounds (items.size-1)) items).toList:=by
  show VRs b s.heap _ (items.eraseIdxIfInBounds (items.size-1)).toList
  rw [Eh,hz]; exact FW _ r1
 obtain ⟨S',e'⟩:=Fu (fun ys=>ys.eraseIdxIfInBounds (items.size-1)) S e g1 rs
 refine call_meets PySem.F.slot_list_pop ⟨_,g1,rfl⟩ PySem.F.entry_list_pop (PySem.F.args_list_pop_1 _) (MeetsSeq.list_pop_last a items n u (by rw [← Array.getElem?_toList,hz]; exact hu) (by rw [sizeLine_eq]; exact Nat.le_of_lt (Nat.lt_of_le_of_lt (Nat.le_of_eq hz) (Nat.lt_of_le_of_lt hl (by decide))))) ⟨g1,?_⟩
 exact DZ v _ q (e'.vr S (AG _) ru) S' e'
end
section
variable {w:World} {b:Heap} {C:Cx} {ρ:LM} {σ:MS} {Q:MV→MS→Prop} {d:Nat}
theorem E4 {a:Addr} {xs:List MV} (e:σ a=some (.list xs)) (hl:xs.length≤100000) (q:Q (.int xs.length) σ):WC w b d (.builtin "len") [.ref a] σ Q:=fun A s vs rm S q0_=>BD q0_ fun v U e1 rv e2=>by
 cases e2
 subst e1
 have rv:v= .ref a:=rv
 subst rv
 refine Af (Bo S e) fun items t1 r1=> ?_
 have hz:items.size=xs.length:=AH r1
 exact call_len_list t1 (ilt (Nat.le_trans (Nat.le_of_eq hz) (Nat.le_trans (Nat.le_of_eq (Eq.symm hz)) (Nat.le_trans (Nat.le_of_eq hz) hl)))) ⟨_,σ,q,⟨s.toks+1,by rw [hz]⟩,S,Ev.toks ..⟩
theorem OZ {x:Array UInt8} (hl:x.size≤100000) (q:Q (.int x.size) σ):WC w b d (.builtin "len") [.bytes x] σ Q:=fun A s vs rm S q0_=>by
 obtain ⟨v,_,e1,⟨t,rv⟩,e2⟩:=q0_
 cases e2
 subst e1 rv
 exact len_bytes (Nat.le_of_lt (Nat.lt_of_le_of_lt hl (by decide))) ⟨_,σ,q,⟨s.toks+1,rfl⟩,S,Ev.toks ..⟩
theorem Sq {i:Int} (q:Q (.int (if i < 0 then -i else i)) σ):WC w b d (.builtin "abs") [.int i] σ Q:=fun A s vs rm S q0_=>by
 obtain ⟨v,_,e1,⟨t,rv⟩,e2⟩:=q0_
 cases e2
 subst e1 rv
 exact call_abs_int fun u tk=>⟨_,σ,q,⟨u,rfl⟩,S,Ev.toks ..⟩
theorem Dh {i:Int} (q:Q (.int i) σ):WC w b d (.type "int") [.int i] σ Q:=fun A s vs rm S ⟨v,_,e1,⟨t,rv⟩,e2⟩=>by
 cases e2
 subst e1 rv
 exact call_int_int (AC.pure q ⟨t,rfl⟩ S)
theorem O0 {x:Bool} (q:Q (.int (if x then 1 else 0)) σ):WC w b d (.type "int") [.bool x] σ Q:=fun A s vs rm S q0_=>BD q0_ fun v U e1 rv e2=>by
 cases e2
 subst e1
 have rv:v= .bool x:=rv
 subst rv
 exact call_int_bool ⟨_,σ,q,⟨s.toks,rfl⟩,S,Ev.toks ..⟩
theorem Sp {x y:Int} (q:Q (.int (if y < x then y else x)) σ):WC w b d (.builtin "min") [.int x,.int y] σ Q:=fun A s vs rm S q0_=>by
 obtain ⟨v,_,e1,⟨t,rv⟩,v2,_,e3,⟨t2,rv2⟩,e2⟩:=q0_
 cases e2
 subst e3
 subst e1 rv rv2
 refine min_two_ints rm.handled fun h' tk k=>⟨_,σ,q,?_,S.grow k,Ev.grow rfl rfl k⟩
 by_cases c:y < x
 ·simp only [c,if_true]; exact ⟨t2,rfl⟩
 ·simp only [c,if_false]; exact ⟨t,rfl⟩
theorem Ff {h:Heap}:∀ {l:List Value} {ns:List Int},VRs b h (ns.map .int) l→IntsAre l ns
 | _,[]=>by
  intro e
  cases e; exact .nil
 | _,n::ns=>by
  intro r_39
  obtain ⟨v,vs,e,⟨t,r⟩,rs⟩:=r_39
  subst e r; exact .cons n t (Ff rs)
theorem ints_vrs {h:Heap} {l:List Value} {ns:List Int} (r:IntsAre l ns):VRs b h (ns.map .int) l:=by
 induction r with
 | nil=>exact Eq.refl []
 | cons n t r ih=>exact Bq _ _ rfl ⟨t,rfl⟩ ih
theorem Tg {a:Addr} {ns:List Int} (e:σ a=some (.list (ns.map .int))) (q:Q (.int ns.sum) σ):WC w b d (.builtin "sum") [.ref a] σ Q:=fun A s vs rm S ⟨v,_,e1,rv,e2⟩=>by
 cases e2
 subst e1
 have rv:v= .ref a:=rv
 subst rv
 refine Af (Bo S e) fun items t1 r1=> ?_
 have hI:=Ff r1
 obtain ⟨xs,hxs⟩:=hI.allInts.items
 have hx:items=intItems xs:=by simp only [← hxs]
 simp only [hx] at t1
 refine sum_intListG rm.handled t1 fun h' tk t' k=>⟨_,σ,q,⟨t',?_⟩,S.grow k,Ev.grow rfl rfl k⟩
 congr 1
 rw [preSum_eq,List.take_of_length_le (by simp),←hI.numsOf,hx,nums_intItems]
theorem KD {a:Addr} {ns:List Int} (e:σ a=some (.list (ns.map .int))) (hl:ns.length < 64) (q:∀ (ns':List Int) (c:Addr),ns'.Perm ns→ns'.Pairwise (· ≤ ·)→σ c=none→Q (.ref c) (σ.set c (.list (ns'.map .int)))):WC w b d (.builtin "sorted") [.ref a] σ Q:=fun A s vs rm S ⟨v,_,e1,rv,e2⟩=>by
 cases e2
 subst e1
 have rv:v= .ref a:=rv
 subst rv
 refine Af (Bo S e) fun items t1 r1=> ?_
 have hI:=Ff r1
 have hz:items.toList.length=ns.length:=by simp only [AH r1,List.length_map]
 refine sorted_ints (vs:=items.toList) t1 hI (Nat.lt_of_le_of_lt (Nat.le_of_eq hz) hl) fun out ns' a1 a2 a3=> ?_
 obtain ⟨en,he⟩:=sortedAll_at s.heap items.toList out
 have k:∀ x o,s.heap.get? x=some o→(sortedAll s.heap items.toList out).get? x=some o:=fun U U=>sortedAll_old
 have n1:s.heap.get? (s.heap.objs.size+1)=none:=BG (Nat.le_succ _)
 have ow1:¬ AF σ (s.heap.objs.size+1):=fun ow=>by obtain ⟨o,ho⟩:=Cd S ow; have ho:=n1.symm.trans ho; cases ho
 have na:σ (s.heap.objs.size+1)=none:=by
  cases q:σ (s.heap.objs.size+1) with
  | none=>rfl
  | some o=>exact absurd (BK q) ow1
 refine ⟨_,_,q ns' _ a2 a3 na,rfl,S.new ow1 (S.low_new n1) (fun d e=>by cases e) k fun U U=>⟨out,en,?_,ints_vrs a1⟩,Ev.new' na n1 (fun d e=>by cases e) k rfl rfl⟩
 exact he
theorem OY {a:Addr} {xs:List MV} (e:σ a=some (.list xs)) (hl:xs.length≤100000) (q:∀ c,σ c=none→Q (.ref c) (σ.set c (.list xs))):WC w b d (.type "list") [.ref a] σ Q:=fun A s vs rm S ⟨v,_,e1,rv,e2⟩=>by
 cases e2
 subst e1
 have rv:v= .ref a:=rv
 subst rv
 refine CX (B1 S e) fun items n g1 r1=> ?_
 have hz:items.size=xs.length:=AH r1
 have fr:=S.free
 refine call_list_seq a (.inl rfl) g1 rfl rfl (fun h' c' k hn=> ?_) (by simp only [sizeLine_eq]; exact Nat.le_of_lt (Nat.lt_of_le_of_lt (Nat.le_of_eq hz) (Nat.lt_of_le_of_lt hl (by decide))))
 exact ⟨_,_,q _ fr.1,rfl,S.new fr.2 (S.low_new (Ah _)) (fun d e=>by cases e) k fun U KS=>⟨items,c',hn,KS _ _ r1⟩,Ev.new' fr.1 (Ah _) (fun d e=>by cases e) k rfl rfl⟩
theorem OW {a:Addr} {xs:List MV} (e:σ a=some (.list xs)) (hl:xs.length≤100000) (q:Q (.tup xs) σ):WC w b d (.type "tuple") [.ref a] σ Q:=fun A s vs rm S ⟨v,_,e1,rv,e2⟩=>by
 cases e2
 subst e1
 have rv:v= .ref a:=rv
 subst rv
 refine Af (Bo S e) fun items t1 r1=> ?_
 have hz:items.size=xs.length:=AH r1
 refine call_tuple_list t1 (fun h' k=> ?_) (by simp only [sizeLine_eq]; exact Nat.le_trans (Nat.le_trans (Nat.le_of_eq hz) hl) (by decide))
 have k':∀ x o,s.heap.get? x=some o→(h'.push ⟨.type "tuple",none,.seq items 0,#[]⟩).get? x=some o:=fun x o e=>Heap.get?_push_of_some _ (k x o e)
 have ev:Ev noX σ s σ {s with heap:=h'.push ⟨.type "tuple",none,.seq items 0,#[]⟩}:=Ev.grow rfl rfl k'
 exact DZ _ σ q ⟨_,items,rfl,⟨_,AL _ rfl,rfl,_,rfl⟩,ev.vrs S (AG _) r1⟩ (S.grow k') ev
theorem CE {n:Int} (q:∀ c,σ c=none→Q (.ref c) (σ.set c (.rng n))):WC w b d (.type "range") [.int n] σ Q:=fun A s vs rm S ⟨v,_,e1,⟨t,rv⟩,e2⟩=>by
 cases e2
 subst e1 rv
 have fr:=S.free
 refine call_range_1 ⟨_,_,q _ fr.1,rfl,S.new fr.2 (S.low_new (Ah _)) (fun d e=>by cases e) (At _ _) fun U U=>⟨_,_,_,AL _ rfl⟩,?_⟩
 exact Ev.new' fr.1 (Ah _) (fun d e=>by cases e) (At _ _) rfl rfl
theorem Nz {ns:List Int} {x:Int}:x∈ns→∃ j,j < ns.length∧ns[j]?=some x∧(∀ m,m < j→ns[m]?≠some x)∧ns.eraseIdx j=ns.erase x:=by
 induction ns with
 | nil=>exact fun h=>(List.not_mem_nil h).elim
 | cons n ns ih =>
  intro h
  by_cases c:n=x
  ·subst c; exact LT 0 (Nat.succ_pos _) rfl (fun m hm=>absurd hm (Nat.not_lt_zero _)) (by simp)
  ·refine KM (ih ((List.mem_cons.mp h).resolve_left fun e=>c e.symm)) fun j h1 h2 h3 h4=> ?_
   refine LT (j+1) (Nat.succ_lt_succ h1) h2 (fun m hm=> ?_) ?_
   ·cases m with
    | zero=>exact fun e=>c (Option.some.inj e)
    | succ m=>exact h3 m (Nat.lt_of_succ_lt_succ hm)
   ·rw [List.eraseIdx_cons_succ,h4,List.erase_cons_tail (by simpa using c)]
theorem IG:∀ (l:List Int) (j:Nat),(l.map MV.int).eraseIdx j=(l.eraseIdx j).map MV.int
 | [],_=>rfl
 | _::_,0=>rfl
 | x::l,j+1=>by simp only [List.map_cons,List.eraseIdx_cons_succ,List.eraseIdx_cons_succ,List.map_cons,IG l j]
theorem P7 {a:Addr} {ns:List Int} {x:Int} (e:σ a=some (.list (ns.map .int))) (hx:x∈ns) (hl:ns.length≤100000) (q:Q .none (σ.set a (.list ((ns.erase x).map .int)))):WC w b d (.builtin "list.remove") [.ref a,.int x] σ Q:=fun A s vs rm S r=>by
 obtain ⟨v1,_,rfl,r1,v2,_,rfl,⟨t,rv⟩,rfl⟩:=r
 have r1:v1= .ref a:=r1
 subst r1 rv
 refine CX (B1 S e) fun items n g1 r1=> ?_
 have hz:items.size=ns.length:=by have:=AH r1; simp only [List.length_map] at this; exact this
 refine KM (Nz hx) fun j j1 j2 j3 j4=> ?_
 have rs:VRs b s.heap ((ns.erase x).map .int) ((fun ys:Array Value=>ys.eraseIdxIfInBounds j) items).toList:=by
  show VRs b s.heap _ (items.eraseIdxIfInBounds j).toList
  rw [Eh,←j4,←IG]; exact FW _ r1
 obtain ⟨S',e'⟩:=Fu (fun ys=>ys.eraseIdxIfInBounds j) S e g1 rs
 let ef:Value→Bool:=fun y=>match y with | .int i _=>i==x | _=>false
 have at_:∀ m (hm:m < items.size),∃ i t',items[m]= .int i t'∧ns[m]?=some i:=fun m hm=>by
  refine Af (IQ r1 m hm) fun mv h1 h2=> ?_
  rw [List.getElem?_map] at h1
  refine Af (Option.map_eq_some_iff.mp h1) fun i h3 h4=> ?_
  subst h4
  obtain ⟨t',h2⟩:=h2
  exact Qb i t' h2 h3
 refine call_meets PySem.F.slot_list_remove ⟨_,g1,rfl⟩ PySem.F.entry_list_remove (PySem.F.args_list_remove_2 _ _)
  (MeetsSeq.list_remove a items n (.int x t) ef (fun y hy=> ?_) j (Nat.lt_of_lt_of_le j1 (Nat.le_of_eq (Eq.symm hz))) ?_ (fun m hm hmj=> ?_) (by simp only [sizeLine_eq]; exact Nat.le_of_lt (Nat.lt_of_le_of_lt (Nat.le_of_eq hz) (Nat.lt_of_le_of_lt hl (by decide))))) ⟨g1,?_⟩
 ·refine Af (Mq r1 (Array.mem_toList_iff.mpr hy)) fun mv h1 h2=> ?_
  refine Af (List.mem_map.mp h1) fun i U h4=> ?_
  subst h4
  obtain ⟨t',h2⟩:=h2
  subst h2
  exact MeetsSeq.EqGives.int i x t' t
 ·refine CX (at_ j (Nat.lt_of_lt_of_le j1 (Nat.le_of_eq (Eq.symm hz)))) fun i t' h1 h2=> ?_
  have j2:=h2.symm.trans j2; cases j2
  exact h1▸beq_self_eq_true x
 ·refine CX (at_ m hm) fun i t' h1 h2=> ?_
  rw [h1]
  exact beq_eq_false_iff_ne.mpr fun c=>j3 m hmj (c▸h2)
 ·exact DZ _ _ q rfl S' e'
theorem Rc {a:Addr} {xs:List MV} {y:MV} {j:Nat} (e:σ a=some (.list xs)) (hl:xs.length≤100000) (hx:Bt xs xs=true) (hs:∀ m∈xs,shp m y=true) (hd:dps xs+1≤8*d) (hj:j < xs.length) (hit:(xs[j]?.map fun m=>eqM m y)=some true)
  (hno:∀ m,m < j→(xs[m]?.map fun m=>eqM m y)=some false) (q:Q (.int j) σ):WC w b d (.builtin "list.index") [.ref a,y] σ Q:=fun A s vs rm S r=>by
 refine BD r fun v1 U e_2 r1 r_=> ?_
 subst e_2
 obtain ⟨v2,_,rfl,rv,rfl⟩:=r_
 have r1:v1= .ref a:=r1
 subst r1
 refine CX (B1 S e) fun items n g1 r1=> ?_
 have hz:items.size=xs.length:=AH r1
 obtain ⟨p1,p2⟩:=Ht (A:=A) r1 hx rv hs (by have:=rm.units; exact rm1 hd this)
 have at_:∀ m (hm:m < items.size),(xs[m]?.map fun z=>eqM z y)=some (eAt b s.heap y items[m]):=fun m hm=>by
  refine Af (IQ r1 m hm) fun mv h1 h2=> ?_
  simp only [h1,LU (Hc hx (List.mem_of_getElem? h1)) h2]; rfl
 refine call_meets PySem.F.slot_list_index ⟨_,g1,rfl⟩ PySem.F.entry_list_index (PySem.F.args_list_index_2 _ _)
  (list_indexAt a items n none #[] v2 (eAt b s.heap y) j (Nat.lt_of_lt_of_le hj (Nat.le_of_eq (Eq.symm hz))) (Int.lt_of_le_of_lt (Int.ofNat_le.mpr (Nat.le_of_lt hj)) (Int.lt_of_le_of_lt (Int.ofNat_le.mpr hl) (by decide))) ?_ (fun m hm hmj=> ?_)) ⟨g1,p1,?_⟩
 ·have:=at_ j (Nat.lt_of_lt_of_le hj (Nat.le_of_eq (Eq.symm hz))); simp only [hit] at this; exact (Option.some.inj this).symm
 ·have:=at_ m hm; rw [hno m hmj] at this; exact (Option.some.inj this).symm
 ·exact DZ _ σ q ⟨s.toks,rfl⟩ S (Ev.toks ..)
noncomputable def WSl (w:World) (b:Heap) (d:Nat) (T:String) (o lo hi:MV) (σ:MS) (Q:MV→MS→Prop):Prop :=
 ∀ (A:Around) (s:Shared) (ov vl vu:Value) (sl:Addr),Rm d A→St b σ s.heap→VR b s.heap o ov→VR b s.heap lo vl→VR b s.heap hi vu→s.heap.IsSliceOf sl vl vu .none→s.TypeIs ov T∧wpAny (model pw w) A (getItem ov (.ref sl)) (AC b σ s Q) noE s
theorem Gk {v:Expr} {lo hi:Option Expr} {p pos:Pos} {T id:String} (hT:typeLookup (.type T) "__getitem__"=pure (some (.builtin id)))
  (h:WE w b C (eval v) ρ σ fun o σ1=>WE w b C (evalPart lo) ρ σ1 fun l σ2=>WE w b C (evalPart hi) ρ σ2 fun u σ3=>WSl w b C.d T o l u σ3 Q)
  (hs:∀ x y,subscripted (.Slice lo hi none p) false x y=operate [x,y] (getItem x y)∨subscripted (.Slice lo hi none p) false x y=operate [y,x] (getItem x y):=by intro _ _; first | exact .inl rfl | exact .inr rfl) :
  WE w b C (eval (.Subscript v (.Slice lo hi none p) pos)) ρ σ Q:=fun A env s c S L=>by
 simp only [eval_Subscript]
 refine wpAny_bind (wpAny_mono (h A env s c S L) (fun ov s1 g_=>g_.elim fun o σ1 h1 r1 S1 e1=> ?_) fun U U x=>x)
 have L1:=e1.loc S L
 refine wpAny_bind (wpAny_holding (wpAny_Slice (wpAny_mono (h1 A env s1 c S1 L1) (fun vl s2 g_=>g_.elim fun l σ2 h2 r2 S2 e2=> ?_) fun U U x=>x)))
 have L2:=e2.loc S1 L1
 refine wpAny_mono (h2 A env s2 c S2 L2) (fun vu s3 g_=>g_.elim fun u σ3 h3 r3 S3 e3=> ?_) fun U U x=>x
 simp only [evalPart_none]
 refine wpAny_pure (wpAny_bind (wpAny_standAt ?_))
 have e4:Ev noX σ3 s3 σ3 {s3 with heap:=s3.heap.push ⟨.type "slice",none,.fields #[vl,vu,.none],#[]⟩}:=Ev.grow rfl rfl (At _ _)
 obtain ⟨t,g⟩:=h3 A {s3 with heap:=s3.heap.push ⟨.type "slice",none,.fields #[vl,vu,.none],#[]⟩} ov vl vu _ c.room (S3.grow (At _ _)) (((e2.trans e3).trans e4).vr S1 (AG _) r1) ((e3.trans e4).vr S2 (AG _) r2) (e4.vr S3 (AG _) r3) (Heap.IsSliceOf.new ..)
 exact Mt hT t (wpAny_mono g (fun U U g=>((g.ev e4).ev e3).ev (e1.trans e2)) fun U U x=>x) (hs _ _)
theorem IB (q:Q .none σ):WE w b C (evalPart none) ρ σ Q:=fun A env s c S L=>by simp only [evalPart_none]; exact wpAny_pure (AC.pure q rfl S)
theorem IA {e:Expr} (h:WE w b C (eval e) ρ σ Q):WE w b C (evalPart (some e)) ρ σ Q:=fun A env s c S L=>by simp only [evalPart_some]; exact h A env s c S L
theorem J3 {h:Heap}:∀ {m:List MV} {l:List Value} (j:Nat),VRs b h m l→VRs b h (m.take j) (l.take j)
 | [],_,j=>by
  intro e
  cases e; simp only [List.take_nil,List.take_nil]; exact rfl
 | m::ms,_,0=>by
  intro r_40
  obtain ⟨u,us,e,r,rs⟩:=r_40
  subst e; exact rfl
 | m::ms,_,j+1=>by
  intro r_41
  obtain ⟨u,us,e,r,rs⟩:=r_41
  subst e; exact ⟨u,_,rfl,r,J3 j rs⟩
theorem N7 {A:Around} {s:Shared} {l sl:Addr} {items:Array Value} {xs:List MV} {n:Nat} {t:Tok} (S:St b σ s.heap) (t1:s.heap.IsList l items) (r1:VRs b s.heap xs items.toList) (hl:xs.length≤100000)
  (h:s.heap.IsSliceOf sl .none (.int n t) .none) (q:∀ c,σ c=none→Q (.ref c) (σ.set c (.list (xs.take n)))):wpAny (model pw w) A (getItem (.ref l) (.ref sl)) (AC b σ s Q) noE s:=by
 have hz:items.size=xs.length:=AH r1
 have fr:=S.free
 refine wpAny_getItem_list_slice t1 h .none (.int _ _) .none (by simp) ⟨_,_,q _ fr.1,rfl,S.new fr.2 (S.low_new (Ah _)) (fun d e=>by cases e) (At _ _) fun U KS=>⟨_,0,AL _ rfl,?_⟩,Ev.new' fr.1 (Ah _) (fun d e=>by cases e) (At _ _) rfl rfl⟩ (by simp only [sizeLine_eq]; exact Nat.le_of_lt (Nat.lt_of_le_of_lt (Nat.le_of_eq hz) (Nat.lt_of_le_of_lt hl (by decide))))
 have e2:(slicePick items none (some (n:Int)) none).toList=items.toList.take n:=by rw [slicePick_upto']
 rw [e2]
 exact KS (xs.take n) (items.toList.take n) (J3 n r1)
theorem N8 {a:Addr} {xs:List MV} {n:Nat} (e:σ a=some (.list xs)) (hl:xs.length≤100000) (q:∀ c,σ c=none→Q (.ref c) (σ.set c (.list (xs.take n)))):WSl w b d "list" (.ref a) .none (.int n) σ Q:=fun A s ov vl vu sl rm S ro rl q0_ hs=>by
 obtain ⟨t,ru⟩:=q0_
 have ro:ov= .ref a:=ro
 have rl:vl= .none:=rl
 subst ro rl ru
 refine Af (Bo S e) fun items t1 r1=> ?_
 exact ⟨t1.typeIs,N7 S t1 r1 hl hs q⟩
theorem ST {xs:List MV} {n:Nat} (hl:xs.length≤100000) (q:∀ c,σ c=none→Q (.ref c) (σ.set c (.list (xs.take n)))):WSl w b d "list" (.flist xs) .none (.int n) σ Q:=fun A s ov vl vu sl rm S q0_ rl q1_ hs=>by
 obtain ⟨a,items,ro,_,t1,r1⟩:=q0_
 obtain ⟨t,ru⟩:=q1_
 have rl:vl= .none:=rl
 subst ro rl ru
 exact ⟨t1.typeIs,N7 S t1 r1 hl hs q⟩
theorem Hu {a:Addr} {xs:List MV} (e:σ a=some (.list xs)):WI w b d (.ref a) σ (fun σ'=>σ' a=some (.list xs)) xs:=fun A s v P rm S r h=>by
 have r:v= .ref a:=r
 subst r
 refine Af (Bo S e) fun items t1 r1=> ?_
 have fr:=S.free
 refine wpAny_pyIter_list t1 (h _ _ (fun i h=>h.IsListIter s.heap.objs.size a i) ?_ ⟨_,AL _ rfl,rfl,rfl⟩ (Ah _) (S.low_new (Ah _)) fr.2 rfl rfl (At _ _))
 refine ⟨fun i h ⟨o,ho,_,hd⟩=>⟨o,_,ho,hd⟩,fun i h h' ⟨o,ho,hc,hd⟩ k=>⟨o,k o ho,hc,hd⟩,fun i d A s' σ' x P rm S' ok p hx hP=> ?_,fun i A s P p hP=>wpAny_pyIter_listiter p hP,fun d A s' σ' P rm S' ok p hP=> ?_⟩
 ·refine Af (Bo S' ok) fun items' t2 r2=> ?_
  refine Af (Dp r2 hx) fun u hu ru=> ?_
  exact wpAny_pyNext_list_item p t2 (by exact Array.getElem?_toList.symm.trans hu) fun h' p' sb=>hP u _ ru p' rfl rfl (fun x o n e=>(sb.2 x n).trans e)
 ·refine Af (Bo S' ok) fun items' t2 r2=> ?_
  have hz:items'.size=xs.length:=AH r2
  exact wpAny_pyNext_list_end rm.handled p t2 (by rw [← hz]; simp) fun h' sb=>hP _ rfl rfl (fun x o n e=>sb x o n e)
theorem Fb {a:Addr} {n:Nat} (e:σ a=some (.rng n)) (hn:n≤100000):WI w b d (.ref a) σ (fun U=>True) ((List.range n).map fun i:Nat=>MV.int i):=fun A s v P rm S r h=>by
 have r:v= .ref a:=r
 subst r
 obtain ⟨t,u,v,g⟩:=S.obj a _ e
 have fr:=S.free
 have hsz:Builtin.Range.rangeSize 0 n 1=n:=by
  unfold Builtin.Range.rangeSize
  by_cases c:(0:Int) < n
  ·simp only [c,if_true,show (1:Int) > 0 from by decide]; lia
  ·have:n=0:=Int.ofNat_inj.mp (Int.le_antisymm (Int.not_lt.mp c) (Int.natCast_nonneg _))
   subst this; simp
 refine wpAny_pyIter_range (a:=0) (b:=n) (c:=1) g ?_ (h _ _ (fun i h=>IsRangeIter h s.heap.objs.size i (n-i) 1∧i≤n) ?_ ⟨?_,Nat.zero_le _⟩ (Ah _) (S.low_new (Ah _)) fr.2 rfl rfl (At _ _))
 ·have key:∀ x:Int,0≤x→x≤100000→Builtin.Range.rangeFitsLong x=true:=fun x h0 h1=>by
   unfold Builtin.Range.rangeFitsLong
   simp only [Bool.and_eq_true,decide_eq_true_eq]
   lia
  unfold Builtin.Range.small
  rw [hsz,key 0 (by decide) (by decide),key n (Int.natCast_nonneg _) (Int.ofNat_le.mpr hn),key 1 (by decide) (by decide),if_pos (by decide),key _ (by lia) (Int.add_le_iff_le_sub.mpr (il hn))]
  simp
 ·refine ⟨fun i h ⟨p,_⟩=>⟨_,_,p,rfl⟩,fun i h h' q0_ k=>And.elim (fun p hi=>⟨k _ p,hi⟩) q0_,fun i d A s' σ' x P rm S' ok ⟨p,hi⟩ hx hP=> ?_,fun i A s P ⟨p,_⟩ hP=>wpAny_pyIter_rangeiter p hP,fun d A s' σ' P rm S' ok ⟨p,hi⟩ hP=> ?_⟩
  ·have hlt:i < n:=by
    have:=(List.getElem?_eq_some_iff.mp hx).1; simpa using this
   have hx':x= .int i:=by
    simp only [List.getElem?_map,List.getElem?_range hlt] at hx; cases hx; rfl
   subst hx'
   refine wpAny_pyNext_range_item p (Int.sub_pos_of_lt (Int.ofNat_lt.mpr hlt)) fun h' p' sb=>hP _ _ ⟨_,rfl⟩ ⟨?_,hlt⟩ rfl rfl (fun x o n e=>(sb.2 x n).trans e)
   have e1:(i:Int)+1=((i+1:Nat):Int):=by push_cast; rfl
   have e2:(n:Int)-i-1=n-((i+1:Nat):Int):=by push_cast; exact Int.sub_sub _ _ _
   rw [← e1,←Int.sub_sub]; exact p'
  ·have hl:((List.range n).map fun i:Nat=>MV.int i).length=n:=by simp
   rw [hl] at p
   exact wpAny_pyNext_range_end rm.handled p (Int.le_of_eq (Int.sub_eq_zero_of_eq rfl)) fun h' sb=>hP _ rfl rfl (fun x o n e=>sb x o n e)
 ·have:(n:Int)-((0:Nat):Int)=n:=by simp
  simp only [this]
  have g2:=AL s.heap (o:={cls:= .type "range_iterator",data:= .fields #[rawInt 0,rawInt (Builtin.Range.rangeSize 0 n 1),rawInt 1]}) rfl
  rw [hsz] at g2 ⊢
  exact g2
end
section
variable {w:World} {b:Heap} {C:Cx} {ρ:LM} {σ:MS} {Q:MV→MS→Prop} {d:Nat}
theorem Qq {s s':Shared} {env:Env} {z:Addr} (S:St b σ s.heap) (lo:b.get? z=none) (ow:¬ AF σ z) (nt:∀ items,¬ IsTup s.heap z items) (k:∀ a o,a≠z→s.heap.get? a=some o→s'.heap.get? a=some o) (th:∃ o,s'.heap.get? z=some o)
  (g:s'.gens=s.gens) (os:s'.os=s.os):St b σ s'.heap∧Ev (fun a=>a=z) σ s σ s'∧XOk b (fun a=>a=z) s.heap:=by
 have xo:XOk b (fun a=>a=z) s.heap:=fun a e=>e▸⟨lo,nt⟩
 refine Cv (S.keep (X:=fun a=>a=z) xo (fun a e=>e▸ow) (fun a o e n=>k a o n e)) ⟨fun a o e=> ?_,g,os,fun a o e U n=>k a o n e,fun U U U o=>o⟩ xo
 by_cases c:a=z
 ·exact c▸th
 ·exact ⟨o,k a o c e⟩
theorem Loc.other {X:Addr→Prop} {s s':Shared} {env:Env} (L:Loc b env ρ σ s.heap) (S:St b σ s.heap) {σ':MS} (e:Ev X σ s σ' s') (x:XOk b X s.heap) (nl:∀ a,X a→¬ BL env a):Loc b env ρ σ' s'.heap:=by
 have hL:∀ m,s.heap.Ns env.locals m→s'.heap.Ns env.locals m:=fun m q0_=>NH q0_ fun o es ep ho r=>⟨o,es,ep,e.keep _ _ ho L.own (fun z=>nl _ z (.inl rfl)),r⟩
 refine ⟨fun y mv hy=> ?_,let ⟨m,hm⟩:=L.ns; ⟨m,hL m hm⟩,L.low,fun ow=>L.own (let ⟨m,o,es,ep,ho,r⟩:=L.ns; e.new _ o ho ow),fun y c hc=> ?_⟩
 ·refine hide fun P_ k_=> ?_
  refine Af (L.val y mv hy) fun v hv hr=> ?_
  refine k_ ?_
  refine AQ v ?_ (e.vr S x hr)
  rcases hv with ⟨k,m,hm,hmx⟩ | ⟨k,c,o,hc,ho,hd⟩
  ·exact .inl ⟨k,m,hL m hm,hmx⟩
  ·exact .inr ⟨k,c,o,hc,e.keep _ _ ho (L.cells y c hc).2.2.1 (fun z=>nl _ z (.inr ⟨y,hc⟩)),hd⟩
 ·refine hide fun P_ k_=> ?_
  obtain ⟨⟨o,v,ho,hd⟩,lo,nf,un⟩:=L.cells y c hc
  refine k_ ?_
  exact JB ⟨o,v,e.keep _ _ ho nf (fun z=>nl _ z (.inr ⟨y,hc⟩)),hd⟩ lo (fun ow=>nf (e.new _ o ho ow)) un
theorem Ng {A:Around} {env:Env} {s:Shared} {x:Str} {v:Value} {mv:MV} {P:Unit→Shared→Prop} {E:Value→Shared→Prop} (hkf:env.scope.kind= .function) (S:St b σ s.heap) (L:Loc b env ρ σ s.heap) (hk:env.kindOf x=some .local) (r:VR b s.heap mv v)
  (q:∀ s',St b σ s'.heap→Loc b env (ρ.set x mv) σ s'.heap→Ev (fun a=>a=env.locals) σ s σ s'→P () s'):wpAny (model pw w) A (storeName env x v) P E s:=by
 obtain ⟨m,hm⟩:=L.ns
 refine wpAny_storeName_local hk hm (fun h' hn hs=> ?_) (by rw [hkf]; rfl)
 have kp:∀ a o,s.heap.get? a=some o→¬ a=env.locals→h'.get? a=some o:=fun a o e n=>(hs.2 a n).trans e
 have xo:=GO (b:=b) L.low (Ns.noseq hm)
 have S':St b σ h':=S.keep (X:=fun a=>a=env.locals) xo (fun a e=>e▸L.own) kp
 obtain ⟨K,_⟩:=D6 S (DN xo) kp
 have cne:∀ y c,env.cells.lookup y=some c→c≠env.locals:=fun y c hc e=>by
  obtain ⟨⟨o,v,ho,hd⟩,_⟩:=L.cells y c hc
  refine NG hm fun o' es ep ho' hd' U=> ?_
  rw [e] at ho; rw [ho] at ho'; cases ho'; rw [hd] at hd'; cases hd'
 refine q _ S' ⟨fun y mv' hy=> ?_,⟨_,hn⟩,L.low,L.own,fun y c hc=> ?_⟩ (Ev.but (fun a o e U=>Hf hs (let ⟨o,_,_,ho,_⟩:=hn; ⟨o,ho⟩) a o e) rfl rfl fun a o e n=>kp a o e n)
 ·rw [DT] at hy
  by_cases e:y=x
  ·subst e
   rw [if_pos rfl] at hy; cases hy
   exact AQ v (.inl ⟨hk,_,hn,if_pos rfl⟩) (K _ _ r)
  ·rw [if_neg e] at hy
   refine Af (L.val y mv' hy) fun u hu ru=> ?_
   refine AQ u ?_ (K _ _ ru)
   rcases hu with ⟨k,m',hm',hx⟩ | ⟨k,c,o,hc,ho,hd⟩
   ·refine .inl ⟨k,_,hn,?_⟩
    rw [if_neg e,On hm hm']; exact hx
   ·exact .inr ⟨k,c,o,hc,kp _ _ ho (cne y c hc),hd⟩
 ·obtain ⟨⟨o,v,ho,hd⟩,r⟩:=L.cells y c hc
  exact ⟨⟨o,v,kp _ _ ho (cne y c hc),hd⟩,r⟩
noncomputable def clF (env:Env):List (Str×NameKind)→List (Str×Addr)→List (Str×Addr)
 | [],cs=>cs
 | (n,k)::r,cs=>clF env r (if (k== .free)=true then ((env.cells.lookup n).map fun c=>(n,c)).toList++cs else cs)
theorem L0 {scope:Scope} {env:Env} (h:∀ p∈scope.names,p.2= .free→∃ c,env.cells.lookup p.1=some c):closureFor scope env=pure (clF env scope.names []):=by
 unfold closureFor
 have key:∀ (l:List (Str×NameKind)) (cs:List (Str×Addr)),(∀ p∈l,p.2= .free→∃ c,env.cells.lookup p.1=some c) →
   (forIn l cs fun (x:Str×NameKind) (r:List (Str×Addr))=>(if (x.2== .free)=true then do let a←cellOf env x.1; pure (ForInStep.yield ((x.1,a)::r)) else pure (ForInStep.yield r):Sem (ForInStep (List (Str×Addr)))))=pure (clF env l cs):=by
  intro l
  induction l with
  | nil=>intro cs _; rfl
  | cons p r IH =>
   intro cs hl
   obtain ⟨n,k⟩:=p
   rw [List.forIn_cons]
   by_cases c:(k== .free)=true
   ·obtain ⟨a,ha⟩:=hl (n,k) (.head _) (beq_iff_eq.mp c)
    simp only [c,if_true]
    have e:cellOf env n=pure a:=by unfold cellOf; rw [ha]
    rw [e]
    show (forIn r ((n,a)::cs) _:Sem _)=_
    rw [IH _ fun p hp=>hl p (.tail _ hp)]
    show (pure (clF env r ((n,a)::cs)):Sem _)=pure (clF env r (if (k== .free)=true then ((env.cells.lookup n).map fun c=>(n,c)).toList++cs else cs))
    rw [if_pos c,ha]; rfl
   ·simp only [c]
    show (forIn r cs _:Sem _)=_
    rw [IH _ fun p hp=>hl p (.tail _ hp)]
    show (pure (clF env r cs):Sem _)=pure (clF env r (if (k== .free)=true then ((env.cells.lookup n).map fun c=>(n,c)).toList++cs else cs))
    rw [if_neg c]
 have:=key scope.names [] h
 show ((forIn scope.names [] fun (x:Str×NameKind) (r:List (Str×Addr))=>(if (x.2== .free)=true then do let a←cellOf env x.1; pure (ForInStep.yield ((x.1,a)::r)) else pure (ForInStep.yield r):Sem (ForInStep (List (Str×Addr))))) >>= fun r=>pure r)=_
 rw [this]; rfl
theorem Qh {env:Env} {x:Str} {c:Addr}:∀ {l:List (Str×NameKind)} {cs:List (Str×Addr)},(x,c)∈clF env l cs→(x,c)∈cs∨env.cells.lookup x=some c:=by
 intro w_
 induction w_ with
 | nil =>
  intro _ h
  exact .inl h
 | cons p_ r ih_ =>
  intro cs h
  obtain ⟨n,k⟩:=p_
  have h:(x,c)∈clF env r (if (k== .free)=true then ((env.cells.lookup n).map fun c=>(n,c)).toList++cs else cs):=h
  rcases ih_ h with h | h
  ·split at h
   ·rcases List.mem_append.mp h with h | h
    ·cases q:env.cells.lookup n with
     | none=>rw [q] at h; cases h
     | some a=>rw [q] at h; simp at h; obtain ⟨rfl,rfl⟩:=h; exact .inr q
    ·exact .inl h
   ·exact .inl h
  ·exact .inr h
theorem Qi {env:Env} {x:Str} {c:Addr} (hc:env.cells.lookup x=some c) {l:List (Str×NameKind)}:∀ {cs:List (Str×Addr)},(x,NameKind.free)∈l∨(x,c)∈cs→(x,c)∈clF env l cs:=by
 induction l with
 | nil=>exact fun h=>h.elim (fun h=>(List.not_mem_nil h).elim) id
 | cons p r ih =>
  intro cs h
  obtain ⟨n,k⟩:=p
  show (x,c)∈clF env r (if (k== .free)=true then ((env.cells.lookup n).map fun c=>(n,c)).toList++cs else cs)
  refine ih (h.elim (fun h=>(List.mem_cons.mp h).elim (fun h=> ?_) .inl) fun h=> .inr ?_)
  ·cases h
   refine .inr ?_
   rw [if_pos (show (NameKind.free==NameKind.free)=true from rfl),hc]; exact List.mem_append_left _ (.head _)
  ·split
   ·exact List.mem_append_right _ h
   ·exact h
theorem EM {env:Env} {names:List (Str×NameKind)} {x:Str} {c:Addr} (h:(clF env names []).lookup x=some c):env.cells.lookup x=some c:=by
 rcases Qh (PySem.mem_of_lookup h) with h | h
 ·cases h
 ·exact h
theorem LI {α:Type} {x:Str} {c:α} {l:List (Str×α)}:(x,c)∈l→∃ c',l.lookup x=some c':=by
 induction l with
 | nil=>exact fun h=>(List.not_mem_nil h).elim
 | cons p r ih =>
  intro h
  obtain ⟨y,u⟩:=p
  rw [List.lookup_cons]
  cases e:(x==y) with
  | true=>exact ⟨u,rfl⟩
  | false=>exact (List.mem_cons.mp h).elim (fun h=>by rw [(Prod.mk.inj h).1,beq_self_eq_true] at e; exact (Bool.false_ne_true e.symm).elim) ih
theorem IP {env:Env} {names:List (Str×NameKind)} {x:Str} {c:Addr} (hm:(x,NameKind.free)∈names) (hc:env.cells.lookup x=some c):(clF env names []).lookup x=some c:=by
 obtain ⟨c',h'⟩:=LI (Qi hc (l:=names) (cs:=[]) (.inl hm))
 have:=EM h'
 rw [hc] at this; cases this; exact h'
noncomputable def Fk (names:List (Str×NameKind)):List (Str×NameKind):=names.map fun p=>if (p.2== .free)=true then (p.1,.cell) else p
noncomputable def Fe (C:Cx) (sc:Scope):Bool:=sc.kind== .function && sc.names.all (fun p=>p.2 != .cell && (p.2 != .free || C.names.lookup p.1==some .cell) && sc.names.lookup p.1==some p.2)
noncomputable def Ms (sc:Scope) (ρ':LM):Bool:=ρ'.all fun p=>sc.names.lookup p.1==some .free
theorem Ix {x:Str}:∀ {names:List (Str×NameKind)},names.lookup x=some .free→(Fk names).lookup x=some .cell
 | (y,k)::r,h=>by
  show List.lookup x ((if (k== .free)=true then (y,NameKind.cell) else (y,k))::Fk r)=_
  rw [List.lookup_cons] at h
  cases e:(x==y) with
  | true=>rw [e] at h; cases h; rw [if_pos (show (NameKind.free==NameKind.free)=true from rfl),List.lookup_cons,e]
  | false =>
   rw [e] at h
   have IH:=Ix (names:=r) h
   split <;> rw [List.lookup_cons,e] <;> exact IH
theorem Ly {x:Str}:∀ {names:List (Str×NameKind)},names.lookup x=some .local→(Fk names).lookup x=some .local:=by
 intro l_
 induction l_ with
 | nil=>exact fun e=>(Option.some_ne_none _ e.symm).elim
 | cons p_ r ih =>
  intro h
  obtain ⟨y,k⟩:=p_
  show List.lookup x ((if (k== .free)=true then (y,NameKind.cell) else (y,k))::Fk r)=_
  rw [List.lookup_cons] at h
  cases e:(x==y) with
  | true=>rw [e] at h; have h:=Option.some.inj h; subst h; rw [if_neg (by decide),List.lookup_cons,e]
  | false =>
   rw [e] at h
   have IH:=ih h
   split <;> rw [List.lookup_cons,e] <;> exact IH
theorem Nn {x:Str}:∀ {names:List (Str×NameKind)},(Fk names).lookup x=some .cell→(∀ p∈names,p.2≠ .cell)→(x,NameKind.free)∈names:=by
 intro l_
 induction l_ with
 | nil=>exact fun e U=>(Option.some_ne_none _ e.symm).elim
 | cons p_ r ih =>
  intro h  hn
  obtain ⟨y,k⟩:=p_
  have h:List.lookup x ((if (k== .free)=true then (y,NameKind.cell) else (y,k))::Fk r)=some .cell:=h
  by_cases c:(k== .free)=true
  ·rw [if_pos c,List.lookup_cons] at h
   cases e:(x==y) with
   | true=>rw [beq_iff_eq.mp e,beq_iff_eq.mp c]; exact .head _
   | false=>rw [e] at h; exact .tail _ (ih h fun p hp=>hn p (.tail _ hp))
  ·rw [if_neg c,List.lookup_cons] at h
   cases e:(x==y) with
   | true=>rw [e] at h; exact absurd (Option.some.inj h) (hn _ (.head _))
   | false=>rw [e] at h; exact .tail _ (ih h fun p hp=>hn p (.tail _ hp))
theorem Lx {C:Cx} {env:Env} {A:Around} {sc:Scope} (c:CxOk C A env) (h:Fe C sc=true):(relabel sc env).names=Fk sc.names:=by
 unfold Fe at h
 rw [Bool.and_eq_true] at h
 delta relabel Fk
 refine List.map_congr_left fun p hp=> ?_
 have q:=List.all_eq_true.mp h.2 p hp
 simp only [Bool.and_eq_true,Bool.or_eq_true,bne_iff_ne,beq_iff_eq] at q
 obtain ⟨n,k⟩:=p
 have hk:env.kindOf n=C.names.lookup n:=c.kindOf n
 have e1:(env.scope.kind==ScopeKind.function)=true:=by rw [c.kind]; rfl
 show (if (k== .free && env.scope.kind== .function && env.kindOf n==some .cell)=true then (n,NameKind.cell) else (n,k))=if (k== .free)=true then (n,NameKind.cell) else (n,k)
 by_cases f:k= .free
 ·subst f
  have e2:(env.kindOf n==some NameKind.cell)=true:=by
   rw [hk]; exact beq_iff_eq.mpr (q.1.2.resolve_left fun z=>z rfl)
  rw [e1,e2]; rfl
 ·have e3:(k==NameKind.free)=false:=beq_eq_false_iff_ne.mpr f
  rw [e3]; rfl
noncomputable abbrev Gp (ifs:List Expr):Env→Sem Bool:=fun env=>forIn ifs true fun c r=>if r=true then do let ok←isTrue c env (eval c env); pure (ForInStep.yield ok) else pure (ForInStep.yield r)
theorem ct0 {Q:Bool→MS→Prop} (q:Q true σ):WB w b C (Gp []) ρ σ Q:=fun A env s c S L=>wpAny_tests_nil ⟨σ,q,S,Ev.refl ..⟩
theorem ct1 {Q:Bool→MS→Prop} {e:Expr} (h:WB w b C (tst e) ρ σ Q):WB w b C (Gp [e]) ρ σ Q:=fun A env s c S L=>wpAny_tests_one (h A env s c S L)
theorem Loc.subl {env:Env} {ρ':LM} {h:Heap} (L:Loc b env ρ σ h) (s:∀ x mv,ρ'.lookup x=some mv→ρ.lookup x=some mv):Loc b env ρ' σ h :=
 ⟨fun x mv e=>L.val x mv (s x mv e),L.ns,L.low,L.own,L.cells⟩
theorem Je {h:Heap} {a:Addr} {items:Array Value} {n:Nat} (g:h.get? a=some (lOb items n)):∀ it,¬ IsTup h a it:=fun it q0_=>Br q0_ fun o ho hc U=>by rw [g] at ho; cases ho; simp at hc
end
section
variable {w:World} {b:Heap} {C:Cx} {ρ:LM} {σ:MS} {Q:MV→MS→Prop} {d:Nat}
theorem Ns.not_tup {h:Heap} {a:Addr} {m:Str→Option Value} (n:h.Ns a m):∀ its,¬ IsTup h a its:=fun its q0_=>by obtain ⟨o,ho,_,q,hq⟩:=q0_; exact Ns.noseq n o ho _ _ hq
theorem J8 {X:Addr→Prop} {z:Addr} {s s' s'':Shared} {σ':MS} (S':St b σ' s'.heap) (e:Ev (fun a=>a=z∨X a) σ s σ' s') (n:s.heap.get? z=none) (lo:b.get? z=none) (ow:¬ AF σ' z) (nt:∀ items,¬ IsTup s'.heap z items)
  (k:∀ a o,a≠z→s'.heap.get? a=some o→s''.heap.get? a=some o) (g:s''.gens=s'.gens) (os:s''.os=s'.os):St b σ' s''.heap∧Ev X σ s σ' s'':=by
 have xo:XOk b (fun a=>a=z) s'.heap:=fun a e=>e▸⟨lo,nt⟩
 have ne:∀ a o,s.heap.get? a=some o→a≠z:=fun a o h q=>by rw [q,n] at h; cases h
 refine ⟨S'.keep (X:=fun a=>a=z) xo (fun a e=>e▸ow) (fun a o e n=>k a o n e),⟨fun a o h=> ?_,g.trans e.gens,os.trans e.os,fun a o h no nx=>k a o (ne a o h) (e.keep a o h no fun q=>q.elim (ne a o h) nx),e.new⟩⟩
 obtain ⟨o',h'⟩:=e.dom a o h
 exact ⟨o',k a o' (ne a o h) h'⟩
theorem Loc.keepBut {z:Addr} {h h':Heap} {env:Env} (L:Loc b env ρ σ h) (S:St b σ h) (k:∀ a o,a≠z→h.get? a=some o→h'.get? a=some o) (lo:b.get? z=none) (nt:∀ items,¬ IsTup h z items) (nl:¬ BL env z):Loc b env ρ σ h':=by
 have nz:∀ a,BL env a→a≠z:=fun a q e=>nl (e▸q)
 have hL:∀ m,h.Ns env.locals m→h'.Ns env.locals m:=fun m q0_=>NH q0_ fun o es ep ho r=>⟨o,es,ep,k _ _ (nz _ (.inl rfl)) ho,r⟩
 have xo:XOk b (fun a=>a=z) h:=fun a e=>e▸⟨lo,nt⟩
 obtain ⟨K,_⟩:=D6 S (DN xo) (fun a o e n=>k a o n e)
 refine ⟨fun y mv hy=> ?_,let ⟨m,hm⟩:=L.ns; ⟨m,hL m hm⟩,L.low,L.own,fun y c hc=> ?_⟩
 ·refine Af (L.val y mv hy) fun v hv hr=> ?_
  refine AQ v ?_ (K _ _ hr)
  rcases hv with ⟨k',m,hm,hmx⟩ | ⟨k',c,o,hc,ho,hd⟩
  ·exact .inl ⟨k',m,hL m hm,hmx⟩
  ·exact .inr ⟨k',c,o,hc,k _ _ (nz _ (.inr ⟨y,hc⟩)) ho,hd⟩
 ·obtain ⟨⟨o,v,ho,hd⟩,r⟩:=L.cells y c hc
  exact ⟨⟨o,v,k _ _ (nz _ (.inr ⟨y,hc⟩)) ho,hd⟩,r⟩
theorem Ir {names:List (Str×NameKind)} {value:Expr} {y:Str} {p:Pos} {l:Nat} {env:Env} (hk:env.scope.kind= .function) (hn:env.scope.names=names):swapsWith value (some (.Name y p)) l env=swapsWith value (some (.Name y p)) l (EB names):=by
 have h1:env.blockKind=(EB names).blockKind:=by unfold Env.blockKind; rw [hk]; rfl
 have h2:env.kindOf=(EB names).kindOf:=funext fun x=>by unfold Env.kindOf; rw [hn]; rfl
 unfold swapsWith
 rw [h1,h2]
theorem Ke {Q:MF→LM→MS→Prop} {x:Str} {p pos:Pos} {e:Expr} (h:WE w b C (eval e) ρ σ fun mv σ1=>Q .next (ρ.set x mv) σ1) (hk:AX C x=true:=by first | rfl | decide +kernel)
  (hs:swapsWith e (some (.Name x p)) pos.line (EB C.names)=pure false:=by rfl):WS w b C (exec (.Assign [.Name x p] e pos)) ρ σ Q :=
 fun A env s c S L=>wpAny_Assign_Name (wpAny_mono (h A env s c S L) (fun v s1 g_=>g_.elim fun mv σ1 q r S1 e1 =>
  CB c S1 (e1.loc S L) hk r fun s' S' L' e'=>⟨.next,_,σ1,q,rfl,S',L',e1.lift.trans e'⟩) fun U U x=>x) ((Ir c.kind c.names).trans hs)
end
noncomputable def D0 {K:Type} [DecidableEq K]:List (K×MV)→K→MV→List (K×MV)
 | [],k,v=>[(k,v)]
 | (j,u)::r,k,v=>if j=k then (j,v)::r else (j,u)::D0 r k v
noncomputable def FI {K:Type} [DecidableEq K]:List (K×MV)→K→List (K×MV)
 | [],_=>[]
 | (j,u)::r,k=>if j=k then r else (j,u)::FI r k
noncomputable def kI (i:Int):MV:= .int i
noncomputable def kT (p:Int×Int):MV:= .tup [.int p.1,.int p.2]
noncomputable def asE {K:Type} (f:K→MV) (es:List (K×MV)):List (MV×MV):=es.map fun p=>(f p.1,p.2)
noncomputable abbrev BN (des:Array DictEntry) (n:Nat):Obj:=⟨.type "dict",none,.dict des n,#[]⟩
noncomputable def Ct {K:Type} [DecidableEq K] (k:K) (es:List (K×MV)):Option Nat:=es.findIdx? fun p=>p.1==k
section
variable {w:World} {b:Heap} {C:Cx} {ρ:LM} {σ:MS} {d:Nat}
structure KeyFact (w:World) (hp:Heap) (a:Addr) (kv:Value) (h:Int) (i:Option Nat):Prop where
 hash:∀ (A:Around) (s:Shared) (Q:Int→Shared→Prop) (E:Value→Shared→Prop),A.units < cLine→s.heap=hp→(∀ n,Q h {s with toks:=n})→wpAny (model pw w) A (pyHash kv) Q E s
 find:∀ (A:Around) (s:Shared) (Q:Option Nat→Shared→Prop) (E:Value→Shared→Prop),A.units < cLine→s.heap=hp→Q i s→wpAny (model pw w) A (dictFind a kv h) Q E s
theorem G0 {h:Heap} {es:List (MV×MV)}:∀ {l:List DictEntry} {i:Nat} {k v:MV},EsR b h es l→es[i]?=some (k,v)→∃ e,l[i]?=some e∧VR b h k e.key∧VR b h v e.val:=by
 induction es with
 | nil=>intro l i k v _ e; exact (Option.some_ne_none _ e.symm).elim
 | cons p r ih =>
  intro l i k v h1 f
  refine Qc h1 fun e es q a c U U g=> ?_
  subst q
  cases i with
  | zero=>have f:=Option.some.inj f; subst f; exact Cu e rfl a c
  | succ i=>exact ih (i:=i) g f
theorem D7 {h:Heap}:∀ {es:List (MV×MV)} {l:List DictEntry},EsR b h es l→l.length=es.length:=by
 intro w_
 induction w_ with
 | nil =>
  intro _ e
  cases e; rfl
 | cons p_ r ih_ =>
  intro _ r_45
  obtain ⟨k,v⟩:=p_
  obtain ⟨e,es,q,_,_,_,_,g⟩:=r_45
  subst q; simp [ih_ g]
theorem Ex {K:Type} [DecidableEq K] {k:K}:∀ {es:List (K×MV)} {i:Nat},Ct k es=some i→∃ v,es[i]?=some (k,v)∧es.lookup k=some v:=by
 intro w_
 induction w_ with
 | nil =>
  intro _ e
  cases e
 | cons p_ r ih_ =>
  intro i e
  obtain ⟨j,u⟩:=p_
  unfold Ct at e
  rw [List.findIdx?_cons] at e
  by_cases c:j=k
  ·subst c
   simp at e; subst e
   exact ⟨u,rfl,by rw [List.lookup_cons,beq_self_eq_true]⟩
  ·have h1:(j==k)=false:=beq_eq_false_iff_ne.mpr c
   have h2:(k==j)=false:=beq_eq_false_iff_ne.mpr (Ne.symm c)
   simp only [h1,Bool.false_eq_true,if_false] at e
   refine Af (Option.map_eq_some_iff.mp e) fun i' hi e_2=> ?_
   subst e_2
   refine Af (ih_ hi) fun v a c=> ?_
   exact ⟨v,a,by rw [List.lookup_cons,h2]; exact c⟩
theorem Gi {K:Type} [DecidableEq K] {k:K}:∀ {es:List (K×MV)},Ct k es=none→es.lookup k=none:=by
 intro w_
 induction w_ with
 | nil =>
  intro _
  exact rfl
 | cons p_ r ih_ =>
  intro e
  obtain ⟨j,u⟩:=p_
  unfold Ct at e
  rw [List.findIdx?_cons] at e
  by_cases c:j=k
  ·subst c; simp at e
  ·have h1:(j==k)=false:=beq_eq_false_iff_ne.mpr c
   have h2:(k==j)=false:=beq_eq_false_iff_ne.mpr (Ne.symm c)
   simp only [h1,Bool.false_eq_true,if_false] at e
   rw [List.lookup_cons,h2]
   exact ih_ (Option.map_eq_none_iff.mp e)
theorem Gx {K:Type} [DecidableEq K] {k:K} {es:List (K×MV)} {v:MV} (h:es.lookup k=some v):∃ i,Ct k es=some i∧es[i]?=some (k,v):=by
 cases q:Ct k es with
 | none=>rw [Gi q] at h; cases h
 | some i =>
  refine Af (Ex q) fun u a c=> ?_
  rw [h] at c; cases c
  exact AQ i rfl a
theorem JT {K:Type} {f:K→MV} {es:List (K×MV)} {i:Nat} {k:K} {v:MV} (h:es[i]?=some (k,v)):(asE f es)[i]?=some (f k,v):=by
 unfold asE; rw [List.getElem?_map,h]; rfl
theorem B4 {h:Heap} {a:Addr} {es:List (MV×MV)} (S:St b σ h) {n:Nat} (e:σ a=some (.dict es n)):∃ des,h.get? a=some (BN des n)∧EsR b h es des.toList:=S.obj a _ e
theorem OO {h:Heap} {a:Addr} {es:List (Int×MV)} {des:Array DictEntry} {n:Nat} (g:h.get? a=some (BN des n)) (r:EsR b h (asE kI es) des.toList) (k:Int) (t:Tok):KeyFact w h a (.int k t) (hashInt k) (Ct k es):=by
 have hk:PySem.IntKeys des:=by
  have:∀ {es:List (Int×MV)} {l:List DictEntry},EsR b h (asE kI es) l→∀ e∈l,∃ k t,e.key= .int k t∧e.hash=hashInt k:=by
   intro es
   induction es with
   | nil=>intro l r e he; cases r; cases he
   | cons p es IH =>
    rintro l ⟨e,es',q,⟨t,hk⟩,_,hh,_,g⟩ e' he
    subst q
    rcases List.mem_cons.mp he with z | z
    ·subst z; exact ⟨p.1,t,hk,hh⟩
    ·exact IH g e' z
  exact fun e he=>this r e (Array.mem_toList_iff.mpr he)
 have hf:(des.findIdx? fun e=>Value.isInt k e.key)=Ct k es:=by
  obtain ⟨l⟩:=des
  rw [List.findIdx?_toArray]
  have:∀ {es:List (Int×MV)} {l:List DictEntry},EsR b h (asE kI es) l→(l.findIdx? fun e=>Value.isInt k e.key)=Ct k es:=by
   intro es
   induction es with
   | nil=>intro l r; cases r; rfl
   | cons p es IH =>
    rintro l ⟨e,es',q,⟨t,hk⟩,_,hh,_,g⟩
    subst q
    unfold Ct
    rw [List.findIdx?_cons,List.findIdx?_cons,IH g,hk]
    rfl
  exact this r
 exact ⟨fun A s Q E U e hq=>wpAny_pyHash_int (hq _),fun A s Q E U e hq=>wpAny_dictFind_int (o:=BN des n) (by rw [e]; exact g) rfl hk (by rw [hf]; exact hq)⟩
end
section
variable {w:World} {b:Heap} {C:Cx} {ρ:LM} {σ:MS} {d:Nat}
noncomputable abbrev tK (w:World):HeapKind pw w (List Int):=tupleKind (intKind pw w)
noncomputable def kL (p:Int×Int):List Int:=[p.1,p.2]
theorem QA {h:Heap} {p:Int×Int} {v:Value} (r:VR b h (kT p) v):∃ a,v= .ref a∧(tK w).is h (kL p) a:=by
 refine hide fun P_ k_=> ?_
 refine BD r fun a items e t rs=> ?_
 refine k_ ?_
 refine hide fun P_ k_=> ?_
 obtain ⟨v1,vs1,e1,⟨t1,h1⟩,v2,vs2,e2,⟨t2,h2⟩,e3⟩:=rs
 refine k_ ?_
 cases e3
 subst e2 h1 h2
 refine hide fun P_ k_=> ?_
 refine Br t fun o ho hc r_=> ?_
 obtain ⟨n,hd⟩:=r_
 refine k_ ?_
 refine AQ a e ⟨o,items,n,ho,hc,hd,?_⟩
 rw [e1]
 exact .cons (by simp [intKind,Value.isInt]) (.cons (by simp [intKind,Value.isInt]) .nil)
theorem PV (p:Int×Int):Ap (kT p)=(tK w).hash (kL p):=rfl
theorem Ry {h:Heap}:∀ {es:List ((Int×Int)×MV)} {l:List DictEntry},EsR b h (asE kT es) l→∃ xs:List (List Int×Addr×Value),l=xs.map (entryOfKey (tK w))∧(∀ x∈xs,(tK w).is h x.1 x.2.1)∧xs.map (·.1)=es.map fun p=>kL p.1:=by
 intro w_
 induction w_ with
 | nil =>
  intro _ r
  cases r; exact ⟨[],rfl,fun x hx=>by (cases hx),rfl⟩
 | cons p es ih_ =>
  intro _ r_47
  obtain ⟨e,l,q,hk,hv,hh,_,g⟩:=r_47
  subst q
  refine Af (QA (w:=w) hk) fun a ha hi=> ?_
  refine Br (ih_ g) fun xs x1 x2 x3=> ?_
  refine ⟨(kL p.1,a,e.val)::xs,?_,fun x hx=> ?_,by simp [x3]⟩
  ·subst x1
   rw [List.map_cons]
   congr 1
   obtain ⟨eh,ek,ev⟩:=e
   dsimp only at ha hh ⊢
   rw [ha,hh]; rfl
  ·rcases List.mem_cons.mp hx with z | z
   ·subst z; exact hi
   ·exact x2 x z
theorem OI {p q:Int×Int} (h:kL p=kL q):p=q:=by
 unfold kL at h
 simp only [List.cons.injEq,and_true] at h
 exact Prod.ext h.1 h.2
theorem Op {es:List ((Int×Int)×MV)} (h:(es.map (·.1)).Nodup):(es.map fun p=>kL p.1).Nodup:=by
 have:(es.map fun p=>kL p.1)=(es.map (·.1)).map kL:=by rw [List.map_map]; rfl
 rw [this]
 exact List.Pairwise.map (R:=(· ≠ ·)) (S:=(· ≠ ·)) kL (fun a c n e=>n (OI e)) h
theorem P8 {K:Type} [DecidableEq K] {k:K} {es:List (K×MV)}:∀ {j:Nat} {v:MV},(es.map (·.1)).Nodup→es[j]?=some (k,v)→Ct k es=some j:=by
 unfold Ct
 induction es with
 | nil=>intro j v _ e; exact (Option.some_ne_none _ e.symm).elim
 | cons p r ih =>
  intro j v hn e
  rw [List.findIdx?_cons]
  cases j with
  | zero=>have e:=Option.some.inj e; subst e; exact if_pos (beq_self_eq_true k)
  | succ j =>
   have hn:=List.nodup_cons.mp hn
   have e:r[j]?=some (k,v):=e
   rw [if_neg fun c=>hn.1 (List.mem_map.mpr ⟨(k,v),List.mem_of_getElem? e,(beq_iff_eq.mp c).symm⟩),ih hn.2 e]; rfl
theorem N1 {h:Heap} {a:Addr} {es:List ((Int×Int)×MV)} {des:Array DictEntry} {n:Nat} (g:h.get? a=some (BN des n)) (r:EsR b h (asE kT es) des.toList) (hn:(es.map (·.1)).Nodup) {k:Int×Int} {kv:Value} (rk:VR b h (kT k) kv) :
  KeyFact w h a kv (Ap (kT k)) (Ct k es):=by
 refine Af (QA (w:=w) rk) fun ka e_1 hi=> ?_
 subst e_1
 refine Br (Ry (w:=w) r) fun xs x1 x2 x3=> ?_
 have nd:(xs.map (·.1)).Nodup:=by rw [x3]; exact Op hn
 have hl:xs.length=es.length:=by have:=congrArg List.length x3; simpa using this
 rw [PV (w:=w)]
 refine ⟨fun A s Q E hu e hq=>(tK w).pyHash hu (by rw [e]; exact hi) (hq _),fun A s Q E hu e hq=>wpAny_dictFind_heap (knd:=tK w) (o:=BN des n) hu (by rw [e]; exact hi) (by rw [e]; exact g) rfl x1 (by rw [e]; exact x2) nd (fun hno=> ?_) fun j p hj=> ?_⟩
 ·have:Ct k es=none:=by
   cases q:Ct k es with
   | none=>rfl
   | some i =>
    refine Af (Ex q) fun v hv U=> ?_
    have hlt:i < xs.length:=by rw [hl]; exact (List.getElem?_eq_some_iff.mp hv).1
    have e1:(xs.map (·.1))[i]?=some (kL k):=by rw [x3,List.getElem?_map,hv]; rfl
    rw [List.getElem?_map,List.getElem?_eq_getElem hlt] at e1
    have e1:=Option.some.inj e1
    exact absurd (List.getElem?_eq_getElem hlt) (by
     intro z
     exact hno i xs[i].2 (by rw [z,←e1]))
  rw [this] at hq; exact hq
 ·have e1:(es.map fun p=>kL p.1)[j]?=some (kL k):=by rw [← x3,List.getElem?_map,hj]; rfl
  rw [List.getElem?_map] at e1
  refine Af (Option.map_eq_some_iff.mp e1) fun q hq' hk=> ?_
  have:q=(k,q.2):=Prod.ext (OI hk) rfl
  rw [this] at hq'
  rw [P8 hn hq'] at hq; exact hq
end
theorem Ty {K:Type} [DecidableEq K] {k:K} {v:MV}:∀ {es:List (K×MV)},D0 es k v=match Ct k es with
  | some i=>es.modify i fun p=>(p.1,v)
  | none=>es++[(k,v)]:=by
 intro es
 unfold Ct
 induction es with
 | nil=>rfl
 | cons p r ih =>
  obtain ⟨j,u⟩:=p
  show (if j=k then (j,v)::r else (j,u)::D0 r k v)=_
  rw [List.findIdx?_cons]
  by_cases c:j=k
  ·subst c; rw [if_pos rfl,if_pos (beq_self_eq_true j)]; rfl
  ·rw [if_neg c,if_neg fun z=>c (beq_iff_eq.mp z),ih]
   cases r.findIdx? fun p=>p.1==k <;> rfl
theorem Rl {K:Type} [DecidableEq K] {k:K}:∀ {es:List (K×MV)} {i:Nat},Ct k es=some i→FI es k=es.eraseIdx i:=by
 intro w_
 induction w_ with
 | nil =>
  intro _ e
  cases e
 | cons p_ r ih_ =>
  intro i e
  obtain ⟨j,u⟩:=p_
  show (if j=k then r else (j,u)::FI r k)=_
  unfold Ct at e
  rw [List.findIdx?_cons] at e
  by_cases c:j=k
  ·subst c; simp at e; subst e; simp
  ·have h1:(j==k)=false:=beq_eq_false_iff_ne.mpr c
   simp only [h1,Bool.false_eq_true,if_false] at e
   refine Af (Option.map_eq_some_iff.mp e) fun i' hi e_2=> ?_
   subst e_2
   rw [if_neg c,ih_ hi]; rfl
section
variable {w:World} {b:Heap} {C:Cx} {ρ:LM} {σ:MS} {d:Nat}
section
variable {A:Around} {E:Value→Shared→Prop} {s:Shared} {a:Addr} {kv:Value} {h:Int} {des:Array DictEntry} {n:Nat}
theorem Qy {i:Option Nat} {Q:Option Value→Shared→Prop} (hu:A.units < cLine) (g:s.heap.get? a=some (BN des n)) (F:KeyFact w s.heap a kv h i) (q:∀ n,Q (i.bind fun i=>(des[i]?).map (·.val)) {s with toks:=n}):wpAny (model pw w) A (dictGet a kv) Q E s:=by
 unfold dictGet
 try with_reducible refine wpAny_holding ?_
 refine wpAny_bind (F.hash A s _ _ hu rfl fun n=>wpAny_bind (F.find A _ _ _ hu rfl ?_))
 cases i with
 | none=>exact wpAny_pure (q n)
 | some i=>exact wpAny_bind (wpAny_dictEntries (o:=BN des _) g rfl (wpAny_pure (q n)))
theorem Q3 {i:Nat} {e:DictEntry} {Q:Value→Shared→Prop} (hu:A.units+1 < cLine) (g:s.heap.get? a=some (BN des n)) (F:KeyFact w s.heap a kv h (some i)) (he:des[i]?=some e) (q:∀ n,Q e.val {s with toks:=n}):wpAny (model pw w) A (getItem (.ref a) kv) Q E s:=by
 have hT:s.TypeIs (.ref a) "dict":=⟨_,g,rfl⟩
 unfold getItem
 try with_reducible refine wpAny_holding ?_
 refine wpAny_bind (wpAny_sequenceKey hT (by decide) ?_)
 refine wpAny_bind (wpAny_callSpecial?_slot (name:=Str.ofString "__getitem__") hT slot_dict_getitem (wpAny_call_entry slot_dict_getitem hT entry_dict_getitem ?_ (args_dict_getitem _ _)))
 show wpAny _ _ (dictGet a kv >>= _) _ _ s
 refine wpAny_bind (Qy hu g F fun n=> ?_)
 rw [Option.bind_some,he]
 exact wpAny_pure ⟨e.val,rfl,wpAny_pure (q n)⟩
theorem SX {i:Option Nat} {Q:Value→Shared→Prop} (hd:(a==sysModules)=false) (hu:A.units+1 < cLine) (g:s.heap.get? a=some (BN des n)) (F:KeyFact w s.heap a kv h i) (hi:∀ j,i=some j→(des[j]?).isSome=true) (q:∀ n,Q (.bool i.isSome) {s with toks:=n}):wpAny (model pw w) A (compareOp .In kv (.ref a)) Q E s:=by
 have hT:s.TypeIs (.ref a) "dict":=⟨_,g,rfl⟩
 show wpAny _ _ (do return .bool (← contains (.ref a) kv)) Q E s
 refine wpAny_bind ?_
 unfold contains
 try with_reducible refine wpAny_holding ?_
 refine wpAny_bind (wpAny_specialOf hT slot_dict_contains.lookup ?_)
 show wpAny _ _ (if (some (Value.builtin "dict.__contains__")==some Value.none)=true then _ else _) _ E s
 refine H4 (by rw [beq_builtin_none]; exact Bool.false_ne_true) ?_
 refine wpAny_bind (wpAny_callSpecialUnlessNone?_slot (name:=Str.ofString "__contains__") hT slot_dict_contains (wpAny_call_entry slot_dict_contains hT entry_dict_contains ?_ (args_dict_contains _ _)))
 show wpAny _ _ (dictGet a kv >>= _) _ _ s
 refine wpAny_bind (Qy hu g F fun n=> ?_)
 cases i with
 | some j =>
  obtain ⟨e,he⟩:=Option.isSome_iff_exists.mp (hi j rfl)
  rw [Option.bind_some,he]
  show wpAny _ _ (ret (.bool true)) _ _ _
  exact wpAny_pure ⟨_,rfl,wpAny_truthy_bool (wpAny_pure (q n))⟩
 | none =>
  show wpAny _ _ (Builtin.Dict.pendingKey? a kv >>= _) _ _ _
  exact wpAny_bind (wpAny_pendingKey_other hd (wpAny_pure ⟨_,rfl,wpAny_truthy_bool (wpAny_pure (q n))⟩))
theorem R6 {i:Option Nat} {v:Value} {Q:Unit→Shared→Prop} (hu:A.units+1 < cLine) (hz:des.size≤100000) (g:s.heap.get? a=some (BN des n)) (F:KeyFact w s.heap a kv h i)
  (q:∀ m,Q () {s with heap:=s.heap.update a (match i with | some i=>Obj.mapDict (·.modify i fun e=>{e with val:=v}) | none=>Obj.mapDictKeys (·.push ⟨h,kv,v⟩)),toks:=m}):wpAny (model pw w) A (setItem (.ref a) kv v) Q E s:=by
 have hT:s.TypeIs (.ref a) "dict":=⟨_,g,rfl⟩
 unfold setItem
 try with_reducible refine wpAny_holding ?_
 refine wpAny_bind (wpAny_sequenceKey hT (by decide) ?_)
 refine wpAny_bind (wpAny_callSpecial?_slot (name:=Str.ofString "__setitem__") hT slot_dict_setitem (wpAny_call_entry slot_dict_setitem hT entry_dict_setitem ?_ (args_dict_setitem _ _ _)))
 show wpAny _ _ (Builtin.Dict.notOrdered "__setitem__" ⟨[.ref a,kv,v],[]⟩ >>= _) _ _ s
 refine wpAny_bind (wpAny_notOrdered_dict hT ?_)
 show wpAny _ _ (dictSet a kv v >>= _) _ _ s
 refine wpAny_bind ?_
 unfold dictSet
 try with_reducible refine wpAny_holding ?_
 refine wpAny_bind (F.hash _ s _ _ hu rfl fun m=> ?_)
 unfold dictSetHashed
 try with_reducible refine wpAny_holding ?_
 refine wpAny_bind (F.find _ _ _ _ hu rfl ?_)
 cases i with
 | some i=>exact wpAny_bind (wpAny_rule (wpAny_bind (wpAny_updateDict (o:=BN des _) g rfl (wpAny_point (wpAny_pure ⟨.none,rfl,wpAny_pure (q m)⟩)))))
 | none=>exact wpAny_bind (wpAny_rule (wpAny_updateDictKeys (o:=BN des _) g rfl (wpAny_pure ⟨.none,rfl,wpAny_pure (q m)⟩) (by rw [sizeLine_eq]; exact Nat.le_of_lt (Nat.lt_of_le_of_lt hz (by decide)))))
end
end
section
variable {w:World} {b:Heap} {C:Cx} {ρ:LM} {σ:MS} {d:Nat}
variable {A:Around} {E:Value→Shared→Prop} {s:Shared} {a:Addr} {kv:Value} {h:Int} {des:Array DictEntry} {n:Nat}
theorem Q2 {i:Nat} {e:DictEntry} {Q:Option DictEntry→Shared→Prop} (hu:A.units < cLine) (hz:des.size≤100000) (g:s.heap.get? a=some (BN des n)) (F:KeyFact w s.heap a kv h (some i)) (he:des[i]?=some e)
  (q:∀ m,Q (some e) {s with heap:=s.heap.update a (Obj.mapDictKeys (·.eraseIdxIfInBounds i)),toks:=m}):wpAny (model pw w) A (Builtin.Dict.takeOut a kv) Q E s:=by
 unfold Builtin.Dict.takeOut
 try with_reducible refine wpAny_holding ?_
 refine wpAny_bind (F.hash _ s _ _ hu rfl fun m=> ?_)
 refine wpAny_bind (F.find _ _ _ _ hu rfl ?_)
 refine wpAny_bind (wpAny_dictEntries (o:=BN des _) g rfl ?_)
 rw [he]
 exact wpAny_bind (wpAny_updateDictKeys (o:=BN des _) g rfl (wpAny_pure (q m)) (by rw [sizeLine_eq]; exact Nat.le_of_lt (Nat.lt_of_le_of_lt hz (by decide))) (by
  show (des.eraseIdxIfInBounds i).size≤_
  unfold Array.eraseIdxIfInBounds
  split
  ·simp; exact Nat.le_succ_of_le (Nat.le_add_right _ _)
  ·exact Nat.le_add_right _ _))
theorem R7 {i:Nat} {e:DictEntry} {Q:Value→Shared→Prop} (hu:A.units+1 < cLine) (hz:des.size≤100000) (g:s.heap.get? a=some (BN des n)) (F:KeyFact w s.heap a kv h (some i)) (he:des[i]?=some e)
  (q:∀ m,Q e.val {s with heap:=s.heap.update a (Obj.mapDictKeys (·.eraseIdxIfInBounds i)),toks:=m}):wpAny (model pw w) A (call (.builtin "dict.pop") [.ref a,kv]) Q E s:=by
 have hT:s.TypeIs (.ref a) "dict":=⟨_,g,rfl⟩
 have hu':A.in1.units < cLine:=hu
 refine wpAny_call_entry PySem.F.slot_dict_pop hT PySem.F.entry_dict_pop ?_ (PySem.F.args_dict_pop_2 _ _)
 have hne:des.isEmpty=false:=by
  have hlt:=(Array.getElem?_eq_some_iff.mp he).1
  cases q:des.isEmpty with
  | false=>rfl
  | true=>have:=Array.isEmpty_iff.mp q; subst this; simp at hlt
 have fin:wpAny (model pw w) A.in1 (do
   let old←Builtin.Dict.takeOut a kv
   if old.isNone then Builtin.Dict.missedRemoval a kv
   match old,(none:Option Value) with
   | some e,_=>letGo [e.key] [e.val]; ret e.val
   | none,some x=>rule "dict.pop.default"; ret x
   | none,none=>rule "dict.pop.keyerror"; raiseNew (← newExc (.type "KeyError") [kv])) (fun fin s'=>∃ v,fin= .done (.ret v)∧Q v s') E s:=by
  refine wpAny_bind (Q2 hu' hz g F he fun m=> ?_)
  simp only [Option.isNone_some,Bool.false_eq_true,if_false]
  exact wpAny_bind (wpAny_letGo (wpAny_pure ⟨e.val,rfl,q m⟩))
 unfold Builtin.«dict.pop»
 refine wpAny_bind ?_
 unfold Builtin.Dict.keyAndDefault
 refine wpAny_bind (wpAny_notOrdered_dict hT ?_)
 show wpAny _ _ (pure (a,kv,none)) _ _ s
 refine wpAny_pure ?_
 cases hk:(keyPart kv).isSome with
 | true =>
  simp only [hk,if_true]
  refine wpAny_bind (wpAny_pure ?_)
  exact fin
 | false =>
  simp only [hk,Bool.false_eq_true,if_false]
  refine wpAny_bind (wpAny_dictEntries (o:=BN des _) g rfl (wpAny_bind (wpAny_pure ?_)))
  rw [hne]
  exact fin
end
section
variable {w:World} {b:Heap} {C:Cx} {ρ:LM} {σ:MS} {d:Nat}
theorem GR (hB:BaseOk w b) {h:Heap} (S:St b σ h) {a:Addr} {o:MO} (e:σ a=some o):(a==sysModules)=false:=by
 refine beq_eq_false_iff_ne.mpr fun z=> ?_
 obtain ⟨o',h'⟩:=hB.top.sysm
 have:=S.low a (BK e)
 rw [z,h'] at this; cases this
theorem Qo {h:Heap} {K:Type} [DecidableEq K] {f:K→MV} {k:K} {v:MV} {vv kv:Value} (hv:VR b h v vv) (hk:VR b h (f k) kv) (ik:ON (f k)=true) :
  ∀ {es:List (K×MV)} {l:List DictEntry},EsR b h (asE f es) l→EsR b h (asE f (D0 es k v)) (match Ct k es with
   | some i=>l.modify i fun e=>{e with val:=vv}
   | none=>l++[⟨Ap (f k),kv,vv⟩]):=by
 intro es
 induction es with
 | nil=>intro l r; have r:l=[]:=r; subst r; exact O3 _ [] rfl hk hv rfl ik rfl
 | cons p r ih =>
  intro l r0
  refine Qc r0 fun e es q a1 a2 a3 a4 g=> ?_
  subst q
  obtain ⟨j,u⟩:=p
  have IH:=ih g
  show EsR b h (asE f (if j=k then (j,v)::r else (j,u)::D0 r k v)) _
  unfold Ct at IH ⊢
  rw [List.findIdx?_cons]
  by_cases c:j=k
  ·subst c
   rw [if_pos rfl,if_pos (beq_self_eq_true j)]
   exact O3 ({e with val:=vv}) es rfl a1 hv a3 a4 g
  ·rw [if_neg c,if_neg fun z=>c (beq_iff_eq.mp z)]
   cases q:r.findIdx? fun p=>p.1==k with
   | none=>rw [q] at IH; exact O3 e _ rfl a1 a2 a3 a4 IH
   | some i=>rw [q] at IH; exact O3 e _ rfl a1 a2 a3 a4 IH
theorem Qp {h:Heap} {es:List (MV×MV)}:∀ {l:List DictEntry} {i:Nat},EsR b h es l→EsR b h (es.eraseIdx i) (l.eraseIdx i):=by
 induction es with
 | nil=>intro l i r; have r:l=[]:=r; subst r; exact Eq.refl []
 | cons p r ih =>
  intro l i r0
  refine Qc r0 fun e es q a1 a2 a3 a4 g=> ?_
  subst q
  cases i with
  | zero=>exact g
  | succ i=>exact O3 e _ rfl a1 a2 a3 a4 (ih g)
theorem IR {K:Type} {f:K→MV}:∀ (es:List (K×MV)) (i:Nat),asE f (es.eraseIdx i)=(asE f es).eraseIdx i
 | [],_=>rfl
 | _::_,0=>rfl
 | p::r,i+1=>by
  show (f p.1,p.2)::asE f (r.eraseIdx i)=(f p.1,p.2)::(asE f r).eraseIdx i
  rw [IR]
structure Keyed (w:World) (b:Heap) {K:Type} [DecidableEq K] (f:K→MV) (ok:List (K×MV)→Prop):Prop where
 key:∀ k,ON (f k)=true
 fact:∀ {h:Heap} {a:Addr} {es:List (K×MV)} {des:Array DictEntry} {n:Nat} {k:K} {kv:Value},h.get? a=some (BN des n)→EsR b h (asE f es) des.toList→ok es→VR b h (f k) kv→KeyFact w h a kv (Ap (f k)) (Ct k es)
theorem AB:Keyed w b kI fun U=>True:=⟨fun U=>rfl,fun g r U q0_=>by obtain ⟨t,rk⟩:=q0_; subst rk; exact OO g r _ t⟩
theorem Cn:Keyed w b kT fun es=>(es.map (·.1)).Nodup:=⟨fun U=>rfl,fun g r hn rk=>N1 g r hn rk⟩
section
variable {K:Type} [DecidableEq K] {f:K→MV} {ok:List (K×MV)→Prop} (F:Keyed w b f ok) {a:Addr} {es:List (K×MV)} {k:K} {n:Nat}
include F
theorem AK {Q:MV→MS→Prop} {v:MV} (e:σ a=some (.dict (asE f es) n)) (hk:es.lookup k=some v) (q:Q v σ) (ho:ok es) (hd:1≤d):WX w b d (.ref a) (f k) σ Q:=fun A s ov iv rm S ro ri=>by
 have ro:ov= .ref a:=ro
 subst ro
 obtain ⟨des,g,r⟩:=B4 S e
 obtain ⟨i,hi,he⟩:=Gx hk
 obtain ⟨en,h1,_,h3⟩:=G0 r (JT he)
 have hT:s.TypeIs (.ref a) "dict":=⟨_,g,rfl⟩
 refine ⟨"dict",_,slot_dict_getitem.lookup,hT,Q3 (by have:=rm.units; exact rm2 hd this) g (hi▸F.fact g r ho ri) (by rw [← Array.getElem?_toList]; exact h1) fun m=>⟨v,σ,q,h3,S,Ev.toks ..⟩⟩
theorem PW {Q:Bool→MS→Prop} (hB:BaseOk w b) (e:σ a=some (.dict (asE f es) n)) (q:Q (es.lookup k).isSome σ) (ho:ok es) (hd:1≤d):WK w b d .In (f k) (.ref a) σ Q:=fun A s iv ov rm S ri ro=>by
 have ro:ov= .ref a:=ro
 subst ro
 refine Af (B4 S e) fun des g r=> ?_
 refine SX (GR hB S e) (by have:=rm.units; exact rm2 hd this) g (F.fact g r ho ri) (fun j hj=> ?_) fun m=>⟨_,σ,rfl,?_,S,Ev.toks ..⟩
 ·refine Af (Ex hj) fun v hv U=> ?_
  refine Af (G0 r (JT (f:=f) hv)) fun en h1 U=> ?_
  rw [← Array.getElem?_toList,h1]; rfl
 ·have:(Ct k es).isSome=(es.lookup k).isSome:=by
   cases q:Ct k es with
   | none=>rw [Gi q]; rfl
   | some i=>obtain ⟨v,_,hv⟩:=Ex q; rw [hv]; rfl
  rw [this]; exact q
theorem IC {Q:MS→Prop} {v:MV} (e:σ a=some (.dict (asE f es) n)) (hl:es.length≤100000) (q:∀ m,(es.lookup k).isSome=true∧m=n∨es.lookup k=none∧m=n+1→Q (σ.set a (.dict (asE f (D0 es k v)) m))) (ho:ok es) (hd:1≤d):WSt w b d (.ref a) (f k) v σ Q:=fun A s ov iv vv rm S ro ri rv=>by
 have ro:ov= .ref a:=ro
 subst ro
 refine Af (B4 S e) fun des g r=> ?_
 have hz:des.size=es.length:=by have:=D7 r; unfold asE at this; rw [List.length_map] at this; exact this
 refine R6 (by have:=rm.units; exact rm2 hd this) (Nat.le_trans (Nat.le_of_eq hz) hl) g (F.fact g r ho ri) fun m=> ?_
 have key:∃ des' n',((es.lookup k).isSome=true∧n'=n∨es.lookup k=none∧n'=n+1)∧(match Ct k es with | some i=>Obj.mapDict (·.modify i fun e=>{e with val:=vv}) | none=>Obj.mapDictKeys (·.push ⟨Ap (f k),iv,vv⟩)) (BN des n)=BN des' n'∧EsR b s.heap (asE f (D0 es k v)) des'.toList:=by
  have IH:=Qo (k:=k) rv ri (F.key k) r
  cases q:Ct k es with
  | some i=>rw [q] at IH; exact ⟨_,_,.inl ⟨(by obtain ⟨v,_,hv⟩:=Ex q; rw [hv]; rfl),rfl⟩,rfl,by rw [Array.toList_modify]; exact IH⟩
  | none=>rw [q] at IH; exact ⟨_,_,.inr ⟨Gi q,rfl⟩,rfl,by rw [Array.toList_push]; exact IH⟩
 refine BD key fun des' n' k0 k1 k2=> ?_
 have D:(s.heap.update a (match Ct k es with | some i=>Obj.mapDict (·.modify i fun e=>{e with val:=vv}) | none=>Obj.mapDictKeys (·.push ⟨Ap (f k),iv,vv⟩))).get? a=some (BN des' n'):=by rw [← k1]; exact Heap.get?_update_self _ g (by rw [k1]; rfl)
 have kp:∀ y o,y≠a→s.heap.get? y=some o→(s.heap.update a (match Ct k es with | some i=>Obj.mapDict (·.modify i fun e=>{e with val:=vv}) | none=>Obj.mapDictKeys (·.push ⟨Ap (f k),iv,vv⟩))).get? y=some o:=fun y o n e=>((Heap.SameBut.update ..).2 y n).trans e
 exact Cu _ (q n' k0) (S.upd e rfl (.inl rfl) kp fun K U=>⟨des',D,EF K _ _ k2⟩) (Ev.upd S e rfl (.inl rfl) kp ⟨_,D⟩ rfl rfl)
theorem QC {Q:MV→MS→Prop} {v:MV} (e:σ a=some (.dict (asE f es) n)) (hl:es.length≤100000) (hk:es.lookup k=some v) (q:Q v (σ.set a (.dict (asE f (FI es k)) (n+1)))) (ho:ok es) (hd:1≤d):WC w b d (.builtin "dict.pop") [.ref a,f k] σ Q:=fun A s vs rm S r0=>by
 refine BD r0 fun v1 U e_2 r1 r_=> ?_
 subst e_2
 obtain ⟨v2,_,rfl,ri,rfl⟩:=r_
 have r1:v1= .ref a:=r1
 subst r1
 refine Af (B4 S e) fun des g r=> ?_
 have hz:des.size=es.length:=by have:=D7 r; unfold asE at this; rw [List.length_map] at this; exact this
 refine Af (Gx hk) fun i hi he=> ?_
 refine Br (G0 r (JT he)) fun en h1 U h3=> ?_
 refine R7 (by have:=rm.units; exact rm2 hd this) (Nat.le_trans (Nat.le_of_eq hz) hl) g (hi▸F.fact g r ho ri) (by rw [← Array.getElem?_toList]; exact h1) fun m=> ?_
 have k2:EsR b s.heap (asE f (FI es k)) (des.eraseIdxIfInBounds i).toList:=by
  rw [Rl hi,IR]
  have:(des.eraseIdxIfInBounds i).toList=des.toList.eraseIdx i:=by
   unfold Array.eraseIdxIfInBounds
   split
   ·rw [Array.toList_eraseIdx]
   ·rename_i h; rw [List.eraseIdx_of_length_le (by simpa using h)]
  rw [this]; exact Qp r
 have D:(s.heap.update a (Obj.mapDictKeys (·.eraseIdxIfInBounds i))).get? a=some (BN (des.eraseIdxIfInBounds i) (n+1)):=Heap.get?_update_self _ g rfl
 have kp:∀ y o,y≠a→s.heap.get? y=some o→(s.heap.update a (Obj.mapDictKeys (·.eraseIdxIfInBounds i))).get? y=some o:=fun y o n e=>((Heap.SameBut.update ..).2 y n).trans e
 have E:=Ev.upd (s':={s with heap:=s.heap.update a (Obj.mapDictKeys (·.eraseIdxIfInBounds i)),toks:=m}) S e (o':= .dict (asE f (FI es k)) (n+1)) rfl (.inl rfl) kp ⟨_,D⟩ rfl rfl
 exact DZ v _ q (E.vr S (AG _) h3) (S.upd e rfl (.inl rfl) kp fun K U=>⟨_,D,EF K _ _ k2⟩) E
end
theorem Qz {a:Addr} {es:List (MV×MV)} {n:Nat} (e:σ a=some (.dict es n)):GM w b (S "pop") (.ref a) σ (.builtin "dict.pop") [.ref a]:=fun A s v pl P S r q=>by
 have r:v= .ref a:=r
 subst r
 refine Af (B4 S e) fun des g U=> ?_
 exact getMethod_builtin ⟨_,g,rfl⟩ PySem.F.plainAttrs_dict PySem.F.slot_dict_pop PySem.F.type_dict_pop (fun a' e=>by cases e; exact ⟨_,g,rfl⟩) (q [.ref a] s.toks ⟨_,_,rfl,rfl,rfl⟩)
end
section
variable {A:Around} {E:Value→Shared→Prop} {s:Shared} {prog:Program} {w:World}
theorem Rp {a:Addr} {des:Array DictEntry} {n:Nat} {Q:Value→Shared→Prop} (hd:(a==sysModules)=false) (g:s.heap.get? a=some (BN des n))
  (hQ:Q (.ref s.heap.objs.size) {s with heap:=s.heap.push ⟨.type "dict_keyiterator",none,.fields #[.ref a,.int 0 0,.int des.size 0,.int n 0],#[]⟩}):wpAny (model prog w) A (pyIter (.ref a)) Q E s:=by
 have hT:s.TypeIs (.ref a) "dict":=⟨_,g,rfl⟩
 refine wpAny_pyIter_slot hT F.slot_dict_iter (wpAny_call_entry F.slot_dict_iter hT F.entry_dict_iter ?_ (F.args_dict_iter_1 _))
 unfold Builtin.«dict.__iter__»
 refine wpAny_bind ?_
 unfold Builtin.Dict.dictSlotNone
 refine wpAny_bind (wpAny_notOrdered_dict hT ?_)
 show wpAny _ _ (pure (Value.ref a)) _ _ s
 refine wpAny_pure ?_
 show wpAny _ _ (Builtin.Dict.showsAll a >>= _) _ _ s
 unfold Builtin.Dict.showsAll
 rw [if_neg (by exact hd▸Bool.false_ne_true)]
 refine wpAny_bind (wpAny_pure ?_)
 refine wpAny_bind (wpAny_dictEntries g rfl ?_)
 refine wpAny_bind (wpAny_dictEpoch g rfl ?_)
 exact wpAny_bind (wpAny_newObj_type (wpAny_pure ⟨_,rfl,"dict_keyiterator",_,⟨_,Heap.get?_push_size _ rfl,rfl⟩,F.slot_dict_keyiterator_next.lookup,hQ⟩))
theorem Ro {it a:Addr} {des:Array DictEntry} {n i:Nat} {e:DictEntry} {Q:Option Value→Shared→Prop} (hit:s.heap.IsKeyIter it a i des.size n) (g:s.heap.get? a=some (BN des n)) (hx:des[i]?=some e)
  (hQ:∀ h',h'.IsKeyIter it a (i+1) des.size n→Heap.SameBut it s.heap h'→Q (some e.key) {s with heap:=h'}):wpAny (model prog w) A (pyNext (.ref it)) Q E s:=by
 refine Br (id hit) fun o ho hc hd=> ?_
 unfold pyNext
 refine wpAny_bind (wpAny_attempt (wpAny_callSpecial?_slot (name:=Str.ofString "__next__") hit.typeIs F.slot_dict_keyiterator_next
  (wpAny_call_entry F.slot_dict_keyiterator_next hit.typeIs F.entry_dict_keyiterator_next ?_ (F.args_dict_keyiterator_next_1 _))))
 refine wpAny_bind (wpAny_pure ?_)
 refine wpAny_bind ?_
 refine wpAny_bind ?_
 first | refine wpAny_bind (wpAny_typeNameOfWhole_keyiter hit.typeIs (wpAny_pure ?_)) | refine wpAny_bind (wpAny_typeNameOf_keyiter hit.typeIs (wpAny_pure ?_))
 refine wpAny_bind (wpAny_fieldsOf ho hd ?_)
 have hown:Builtin.Dict_items.ownsTuple "dict_keyiterator"=false:=by decide
 rw [hown]
 show wpAny _ _ (if (Value.ref a==Value.none)=true then _ else _) _ _ s
 refine H4 (show ¬ ((Value.ref a==Value.none)=true) from Bool.false_ne_true) ?_
 refine wpAny_bind (wpAny_pure ?_)
 refine wpAny_bind (wpAny_dictEntries g rfl ?_)
 refine H4 (by simp) ?_
 refine wpAny_bind (wpAny_pure ?_)
 refine wpAny_bind (wpAny_dictEpoch g rfl ?_)
 refine H4 (by simp) ?_
 refine wpAny_pure ?_
 simp only [show ¬ ((i:Int) < 0) from Int.not_ofNat_neg _,if_false,Int.toNat_natCast,hx]
 refine wpAny_bind ?_
 first | refine wpAny_bind (wpAny_typeNameOfWhole_keyiter hit.typeIs (wpAny_pure ?_)) | refine wpAny_bind (wpAny_typeNameOf_keyiter hit.typeIs (wpAny_pure ?_))
 refine wpAny_bind (wpAny_isOneOf_keyiter hit.typeIs ?_)
 show wpAny _ _ (setField (.ref it) 1 (rawInt ((i:Int)+1)) >>= _) _ _ s
 refine wpAny_bind (wpAny_setField ho hd (by simp) ?_)
 have hit':(s.heap.update it (Obj.mapFields (·.setIfInBounds 1 (rawInt ((i:Int)+1))))).IsKeyIter it a (i+1) des.size n :=
  ⟨_,Heap.get?_update_self _ ho (Obj.isFreed_of_fields (Obj.data_mapFields hd _)),(Obj.cls_mapFields ..).trans hc,by rw [Obj.data_mapFields hd]; simp [rawInt]⟩
 refine wpAny_bind (wpAny_holding ?_)
 refine wpAny_bind (wpAny_isOneOf_keyiter (s:={s with heap:=s.heap.update it (Obj.mapFields (·.setIfInBounds 1 (rawInt ((i:Int)+1))))}) hit'.typeIs ?_)
 show wpAny _ _ (pure e.key) _ _ _
 exact wpAny_pure (wpAny_pure ⟨_,rfl,wpAny_pure (hQ _ hit' (Heap.SameBut.update ..))⟩)
theorem SF {it a:Addr} {des:Array DictEntry} {n i:Nat} {Q:Option Value→Shared→Prop} (hh:A.handled=none) (hit:s.heap.IsKeyIter it a i des.size n) (g:s.heap.get? a=some (BN des n)) (hx:des[i]?=none)
  (hQ:∀ h',Heap.ExtBut it s.heap h'→Q none {s with heap:=h'}):wpAny (model prog w) A (pyNext (.ref it)) Q E s:=by
 refine Br (id hit) fun o ho hc hd=> ?_
 unfold pyNext
 refine wpAny_bind (wpAny_attempt (wpAny_callSpecial?_slot (name:=Str.ofString "__next__") hit.typeIs F.slot_dict_keyiterator_next
  (wpAny_call_entry F.slot_dict_keyiterator_next hit.typeIs F.entry_dict_keyiterator_next ?_ (F.args_dict_keyiterator_next_1 _))))
 refine wpAny_bind (wpAny_pure ?_)
 refine wpAny_bind ?_
 refine wpAny_bind ?_
 first | refine wpAny_bind (wpAny_typeNameOfWhole_keyiter hit.typeIs (wpAny_pure ?_)) | refine wpAny_bind (wpAny_typeNameOf_keyiter hit.typeIs (wpAny_pure ?_))
 refine wpAny_bind (wpAny_fieldsOf ho hd ?_)
 have hown:Builtin.Dict_items.ownsTuple "dict_keyiterator"=false:=by decide
 rw [hown]
 show wpAny _ _ (if (Value.ref a==Value.none)=true then _ else _) _ _ s
 refine H4 (show ¬ ((Value.ref a==Value.none)=true) from Bool.false_ne_true) ?_
 refine wpAny_bind (wpAny_pure ?_)
 refine wpAny_bind (wpAny_dictEntries g rfl ?_)
 refine H4 (by simp) ?_
 refine wpAny_bind (wpAny_pure ?_)
 refine wpAny_bind (wpAny_dictEpoch g rfl ?_)
 refine H4 (by simp) ?_
 refine wpAny_pure ?_
 simp only [show ¬ ((i:Int) < 0) from Int.not_ofNat_neg _,if_false,Int.toNat_natCast,hx]
 refine wpAny_bind ?_
 first | refine wpAny_bind (wpAny_typeNameOfWhole_keyiter hit.typeIs (wpAny_pure ?_)) | refine wpAny_bind (wpAny_typeNameOf_keyiter hit.typeIs (wpAny_pure ?_))
 show wpAny _ _ (setField (.ref it) 0 .none >>= _) _ _ s
 refine wpAny_bind (wpAny_setField ho hd (by simp) ?_)
 show wpAny _ _ (newExc (.type "StopIteration") [] >>= _) _ _ _
 refine wpAny_bind ?_
 simp only [newExc,newTuple]
 refine wpAny_bind (wpAny_newObj_type ?_ (by size_fits))
 refine wpAny_bind (m:=firstArgMember _ _) (wpAny_of_eq (a:=Value.none) (by first | rfl | (simp only [firstArgMember]; rfl)) ?_)
 refine wpAny_newObj_type ?_ (by size_fits)
 unfold raiseNew
 refine wpAny_bind (wpAny_handled ?_)
 rw [show A.in1.handled=none from hh]
 refine wpAny_bind (wpAny_pure (wpAny_throw ?_))
 refine wpAny_bind (wpAny_isInstance (T:="StopIteration") (b:=true) ⟨_,Heap.get?_push_size _ rfl,rfl⟩ isSubtype_stop ?_)
 exact wpAny_pure (hQ _ (((Heap.SameBut.update ..).extBut.push _).push _))
theorem Ie:entryFor table "dict_keyiterator.__iter__"=some Builtin.«dict_keyiterator.__iter__»:=entryFor_of_fast (by kernel_rfl)
theorem Fg:Slot "dict_keyiterator" "__iter__" "dict_keyiterator.__iter__" :=
 .of (owner:="dict_keyiterator") (n:="__iter__") (by rw [typeLookup_type,builtinLookup_eq_fast]; kernel_rfl) (by decide +kernel) (by decide +kernel) (by decide +kernel)
  (by first | exact .inl (by decide +kernel) | exact .inr (by decide +kernel)) (by rw [isSubtype_type]; kernel_rfl)
theorem JU (a:Value):argsOk "dict_keyiterator.__iter__" ⟨[a],[]⟩:=by unfold argsOk; kernel_rfl
end
section
variable {w:World} {b:Heap} {C:Cx} {ρ:LM} {σ:MS} {Q:MV→MS→Prop} {d:Nat}
theorem GB (hB:BaseOk w b) {a:Addr} {es:List (MV×MV)} {n:Nat} (e:σ a=some (.dict es n)):WI w b d (.ref a) σ (fun σ'=>σ' a=some (.dict es n)) (es.map (·.1)):=fun A s v P rm S r h=>by
 have r:v= .ref a:=r
 subst r
 refine Af (B4 S e) fun des g r=> ?_
 have fr:=S.free
 have hz:des.size=es.length:=D7 r
 refine Rp (GR hB S e) g (h _ _ (fun i h=>h.IsKeyIter s.heap.objs.size a i es.length n) ?_ ⟨_,AL _ rfl,rfl,by rw [hz]; rfl⟩ (Ah _) (S.low_new (Ah _)) fr.2 rfl rfl (At _ _))
 refine ⟨fun i h ⟨o,ho,_,hd⟩=>⟨o,_,ho,hd⟩,fun i h h' ⟨o,ho,hc,hd⟩ k=>⟨o,k o ho,hc,hd⟩,fun i d A s' σ' x P rm S' ok p hx hP=> ?_,fun i A s' P p hP=> ?_,fun d A s' σ' P rm S' ok p hP=> ?_⟩
 ·refine Af (B4 S' ok) fun des' g' r'=> ?_
  have hz':des'.size=es.length:=D7 r'
  rw [List.getElem?_map] at hx
  obtain ⟨⟨k,u⟩,hk,rfl⟩:=Option.map_eq_some_iff.mp hx
  refine Br (G0 r' hk) fun en h1 h2 U=> ?_
  rw [← hz'] at p
  exact Ro p g' (by exact Array.getElem?_toList.symm.trans h1) fun h' p' sb=>hP _ _ h2 (hz'▸p') rfl rfl (fun x o n e=>(sb.2 x n).trans e)
 ·refine wpAny_pyIter_slot p.typeIs Fg (wpAny_call_entry Fg p.typeIs Ie ?_ (JU _))
  show wpAny _ _ (ret _) _ _ s'
  exact wpAny_pure ⟨_,rfl,"dict_keyiterator",_,p.typeIs,F.slot_dict_keyiterator_next.lookup,hP⟩
 ·refine Af (B4 S' ok) fun des' g' r'=> ?_
  have hz':des'.size=es.length:=D7 r'
  rw [List.length_map,←hz'] at p
  exact SF rm.handled p g' (by simp) fun h' sb=>hP _ rfl rfl (fun x o n e=>sb x o n e)
end
noncomputable abbrev hM:Nat:=18446744073709551616
noncomputable abbrev hP1:Nat:=11400714785074694791
noncomputable abbrev hP2:Nat:=14029467366897019727
noncomputable abbrev hP5:Nat:=2870177450012600261
noncomputable abbrev hI1:Nat:=614540362697595703
noncomputable abbrev hI2:Nat:=839798700976720815
noncomputable def KA (x:Nat):Nat:=(x*2147483648)%hM+x/8589934592
noncomputable def Bh (a h:Nat):Nat:=(KA ((a+h*hP2)%hM)*hP1)%hM
theorem Lv (x:Nat):KA x=(x%8589934592)*2147483648+x/8589934592:=by
 unfold KA
 rw [show hM=8589934592*2147483648 from rfl,Nat.mul_mod_mul_right]
theorem Mx {x y:Nat} (hx:x < hM) (hy:y < hM) (h:KA x=KA y):x=y:=by
 rw [Lv,Lv] at h
 have z:=Rk (Nat.div_lt_of_lt_mul hx) (Nat.div_lt_of_lt_mul hy) h
 rw [← Nat.mod_add_div x 8589934592,z.1,z.2,Nat.mod_add_div]
theorem I3 {x:Nat} (hx:x < hM):KA x < hM:=by
 rw [Lv]
 exact SC (k:=8589934592) (Nat.div_lt_of_lt_mul hx) (Nat.mod_lt _ (by decide))
theorem MK {p q x y:Nat} (hpq:p*q%hM=1) (hx:x < hM) (hy:y < hM) (h:(x*p)%hM=(y*p)%hM):x=y:=by
 have key:∀ z,z < hM→((z*p)%hM*q)%hM=z:=fun z hz=>by
  rw [Nat.mod_mul_mod,Nat.mul_assoc,←Nat.mul_mod_mod,hpq,Nat.mul_one,Nat.mod_eq_of_lt hz]
 rw [← key x hx,←key y hy,h]
theorem N5 {a a' h h':Nat} (e:Bh a h=Bh a' h'):(a+h*hP2)%hM=(a'+h'*hP2)%hM:=by
 have l1:=Nat.mod_lt (a+h*hP2) (show 0 < hM by decide)
 have l2:=Nat.mod_lt (a'+h'*hP2) (show 0 < hM by decide)
 exact Mx l1 l2 (MK (q:=hI1) (by decide +kernel) (I3 l1) (I3 l2) e)
noncomputable def hC (l:Nat):Nat:=(Bh hP5 l*hI2)%hM
theorem R9 {a w:Nat}:((a+w*hP2)%hM*hI2)%hM=((a*hI2)%hM+w)%hM:=by
 rw [Nat.mod_mul_mod,Nat.add_mul,Nat.mul_assoc,Nat.add_mod,←Nat.mul_mod_mod w,show (hP2*hI2)%hM=1 by decide +kernel,Nat.mul_one,←Nat.add_mod,Nat.mod_add_mod]
theorem OT:∀ l < 17,∀ k < 17,l≠k→65536≤(hC l+hM-hC k)%hM∧(hC l+hM-hC k)%hM≤hM-65536:=by decide +kernel
theorem Kh {l k w v:Nat} (e:Bh (Bh hP5 l) w=Bh (Bh hP5 k) v):(hC l+w)%hM=(hC k+v)%hM:=by
 have:=congrArg (fun z=>(z*hI2)%hM) (N5 e)
 simp only [R9] at this
 exact this
theorem QB (k:Nat):hC k < hM:=Nat.mod_lt _ (by decide)
theorem Q8:hM-65536+65536≤hM:=by decide
theorem Q9 {w x:Nat} (hw:w < 65536) (h:x≤hM-65536):x+w < hM:=Nat.lt_of_le_of_lt (Nat.add_le_add_right h w) (Nat.lt_of_lt_of_le (Nat.add_lt_add_left hw (hM-65536)) Q8)
theorem MZ {a c w:Nat} (h:c < hM):(c+((a+hM-c)%hM+w))%hM=(a+w)%hM:=SE (w:=w) (Nat.le_of_lt h)
theorem Ol {l k w v:Nat} (hw:w < 65536) (hv:v < 65536) (a:65536≤(hC l+hM-hC k)%hM∧(hC l+hM-hC k)%hM≤hM-65536) (e2:(hC l+w)%hM=(hC k+v)%hM):False:=by
 have z:=Jm (Q9 hw a.2) (Nat.lt_trans hv (by decide)) ((MZ (QB k)).trans e2)
 exact absurd (Nat.le_trans a.1 (Nat.le_trans (Nat.le_add_right _ w) (Nat.le_of_eq z))) (Nat.not_le_of_lt hv)
theorem Ok {l k w v:Nat} (hl:l < 17) (hk:k < 17) (hw:w < 65536) (hv:v < 65536) (e:Bh (Bh hP5 l) w=Bh (Bh hP5 k) v):l=k∧w=v:=by
 by_cases c:l=k
 ·subst c
  exact ⟨rfl,Jm (Nat.lt_trans hw (by decide)) (Nat.lt_trans hv (by decide)) (Kh e)⟩
 ·exact (Ol hw hv (OT l hl k hk c) (Kh e)).elim
theorem QV {C w Y:Nat} (hw:w < 65536) (hC:C < hM) (a:65536≤(Y%hM+hM-C)%hM) (e2:(C+w)%hM=Y%hM):False:=by
 have e:=MZ (a:=Y%hM) (c:=C) (w:=0) hC
 rw [Nat.add_zero,Nat.add_zero,Nat.mod_mod] at e
 have z:=Jm (Nat.mod_lt _ (by decide)) (Nat.lt_trans hw (by decide)) (e.trans e2.symm)
 exact absurd (z▸a) (Nat.not_le_of_lt hw)
theorem QU {l w X:Nat} (hl:l < 17) (hw:w < 65536) (hX:X < hM) (hc:∀ l < 17,65536≤((X*hI2)%hM+hM-hC l)%hM) (e:Bh (Bh hP5 l) w=(KA X*hP1)%hM):False:=by
 have l1:=Nat.mod_lt (Bh hP5 l+w*hP2) (show 0 < hM by decide)
 have e1:(Bh hP5 l+w*hP2)%hM=X:=Mx l1 hX (MK (q:=hI1) (by decide +kernel) (I3 l1) (I3 hX) e)
 have e2:(hC l+w)%hM=(X*hI2)%hM:=by
  have:=congrArg (fun z=>(z*hI2)%hM) e1
  simp only [R9] at this
  exact this
 exact QV hw (QB l) (hc l hl) e2
noncomputable def P5 (a:Nat):Nat:=(a+2870177450013471924)%hM
theorem Jx {l w:Nat} (hl:l < 17) (hw:w < 65536):P5 (Bh (Bh hP5 l) w)≠18446744073709551615:=fun e=>by
 have b:Bh (Bh hP5 l) w < hM:=Nat.mod_lt _ (by decide)
 have e:Bh (Bh hP5 l) w=15576566623696079691:=MM b (by decide) (e.trans (by decide))
 exact QU hl hw (X:=9148689060682678900) (by decide) (by decide +kernel) (e.trans (by decide +kernel))
noncomputable def Ju (a:Nat):Int:=if a==18446744073709551615 then 1546275796 else if a < 9223372036854775808 then a else (a:Int)-18446744073709551616
noncomputable def Dx (a:Nat) (h:Int):Nat:=Bh a (h%(hM:Int)).toNat
theorem P6 {f:Nat→Int→Nat} {c:Nat} (x y:Int) (hf:∀ a h,f a h=Dx a h):[x,y].foldl (init:=c) f=Dx (Dx c x) y:=by
 rw [List.foldl_cons,List.foldl_cons,List.foldl_nil,hf,hf]
theorem Hw (a:Nat) {n:Nat} (h:n < 65536):Dx a (n:Int)=Bh a n:=by
 unfold Dx
 have:((n:Int)%(hM:Int)).toNat=n:=Nat.mod_eq_of_lt (Nat.lt_trans h (by decide))
 rw [this]
theorem IX (x y:Int):Builtin.Tuple.tupleHashOf [x,y]=Ju (P5 (Dx (Dx hP5 x) y)):=by
 unfold Builtin.Tuple.tupleHashOf
 dsimp only
 rw [P6 x y (fun a h=>by delta Dx Bh KA; rfl)]
 generalize Dx (Dx _ x) y=z
 delta Ju P5
 have c1:([x,y].length^^^(2870177450012600261^^^3527539))=2870177450013471924:=by
  show (2^^^(2870177450012600261^^^3527539))=2870177450013471924
  decide +kernel
 have c2:(2^64:Nat)=hM:=by decide +kernel
 have c3:(2^63:Nat)=9223372036854775808:=by decide +kernel
 rw [c1,c2,c3]
 generalize (z+2870177450013471924)%hM=q
 rfl
theorem QQ {a:Nat} (ha:a < hM) (hn:a≠18446744073709551615):reduceHash (Ju a)=Ju a:=by
 unfold Ju
 have h1:(a==18446744073709551615)=false:=beq_eq_false_iff_ne.mpr hn
 rw [h1,if_neg (by decide)]
 delta reduceHash
 delta hM at ha
 by_cases c:a < 9223372036854775808
 ·rw [if_pos c,if_pos (by simp only [Bool.and_eq_true,decide_eq_true_eq]; exact And.intro Sh (Int.lt_toNat.mp (Nat.lt_of_lt_of_eq c (by decide)))),if_neg (by simp only [beq_iff_eq]; exact PY)]
 ·rw [if_neg c,if_pos (by simp only [Bool.and_eq_true,decide_eq_true_eq]; exact ⟨Int.le_sub_right_of_add_le (Int.ofNat_le.mpr (Nat.le_of_not_lt c)),Int.sub_right_lt_of_lt_add (ilt (Nat.le_of_lt ha))⟩),if_neg (by simp only [beq_iff_eq]; exact fun e=>hn (Int.ofNat.inj (Int.sub_eq_iff_eq_add.mp e)))]
theorem PP {a c:Nat} (ha:a < hM) (hc:c < hM) (n1:a≠18446744073709551615) (n2:c≠18446744073709551615) (e:Ju a=Ju c):a=c:=by
 have h1:(a==18446744073709551615)=false:=beq_eq_false_iff_ne.mpr n1
 have h2:(c==18446744073709551615)=false:=beq_eq_false_iff_ne.mpr n2
 unfold Ju at e
 simp only [h1,h2,Bool.false_eq_true,if_false] at e
 unfold hM at ha hc
 by_cases p:a < 9223372036854775808 <;> by_cases q:c < 9223372036854775808
 all_goals simp only [p,q,if_true,if_false] at e
 all_goals lia
theorem E3 {n:Nat} (h:n < 65536):hashInt (n:Int)=n:=by
 delta hashInt rawHash
 dsimp only
 rw [Int.natAbs_natCast]
 simp only [beq_iff_eq]
 repeat' split
 all_goals lia
theorem Q5 {l k w v:Nat} (hl:l < 17) (hk:k < 17) (hw:w < 65536) (hv:v < 65536) (e:Ap (kT (l,w))=Ap (kT (k,v))):l=k∧w=v:=by
 have key:∀ {l w:Nat},l < 17→w < 65536→Ap (kT (l,w))=Ju (P5 (Bh (Bh hP5 l) w)):=fun {l w} hl hw=>by
  show reduceHash (Builtin.Tuple.tupleHashOf [hashInt l,hashInt w])=_
  rw [E3 (show l < 65536 by lia),E3 hw,IX,Hw _ hw,Hw _ (show l < 65536 by lia)]
  exact QQ (Nat.mod_lt _ (by decide)) (Jx hl hw)
 rw [key hl hw,key hk hv] at e
 have e1:=PP (Nat.mod_lt _ (by decide)) (Nat.mod_lt _ (by decide)) (Jx hl hw) (Jx hk hv) e
 have b1:Bh (Bh hP5 l) w < hM:=Nat.mod_lt _ (by decide)
 have b2:Bh (Bh hP5 k) v < hM:=Nat.mod_lt _ (by decide)
 exact Ok hl hk hw hv (MM b1 b2 e1)
theorem HH (a:Addr) (des:Array DictEntry) (n:Nat) (hd:(a==sysModules)=false):Meets (Builtin.«dict.__len__» ⟨[.ref a],[]⟩) (fun U R s=>s.heap.get? a=some (BN des n)∧R (.ok (.ret (.int des.size s.toks))) {s with toks:=s.toks+1}):= .of_wp fun prog w A R s ⟨g,h⟩=>by
 have hT:s.TypeIs (.ref a) "dict":=⟨_,g,rfl⟩
 unfold Builtin.«dict.__len__»
 refine wpAny_bind ?_
 unfold Builtin.Dict.dictSlotNone
 refine wpAny_bind (wpAny_notOrdered_dict hT ?_)
 show wpAny _ _ (pure (Value.ref a)) _ _ s
 refine wpAny_pure ?_
 refine wpAny_bind (wpAny_pure (wpAny_bind (wpAny_bind (wpAny_dictEntries g rfl (wpAny_pure ?_)))))
 unfold Builtin.Dict.pendingCount
 rw [if_neg (by rw [hd]; exact Bool.false_ne_true)]
 refine wpAny_bind (wpAny_pure ?_)
 have e:((des.size:Int)+((0:Nat):Int))=des.size:=by simp
 show wpAny _ _ (retInt _) _ _ s
 exact wpAny_bind (wpAny_mkInt (wpAny_pure ⟨_,rfl,by simpa using h⟩))
section
variable {w:World} {b:Heap} {C:Cx} {ρ:LM} {σ:MS} {Q:MV→MS→Prop} {d:Nat}
theorem M1 (hB:BaseOk w b) {a:Addr} {es:List (MV×MV)} {n:Nat} (e:σ a=some (.dict es n)) (hl:es.length≤100000) (q:Q (.int es.length) σ):WC w b d (.builtin "len") [.ref a] σ Q:=fun A s vs rm S ⟨v,_,e1,rv,e2⟩=>by
 cases e2
 subst e1
 have rv:v= .ref a:=rv
 subst rv
 refine Af (B4 S e) fun des g r=> ?_
 have hz:des.size=es.length:=D7 r
 exact call_len_meets (n:=des.size) ⟨_,g,rfl⟩ F.slot_dict_len F.entry_dict_len (F.args_dict_len_1 _) (HH a des n (GR hB S e)) (Int.not_ofNat_neg _) (Int.not_le.mpr (ilt (Nat.le_trans (Nat.le_of_eq hz) (Nat.le_trans (Nat.le_of_eq (Eq.symm hz)) (Nat.le_trans (Nat.le_of_eq hz) hl))))) (fun Q' h=>⟨g,h⟩) ⟨_,σ,q,⟨s.toks+1,by rw [hz]⟩,S,Ev.toks ..⟩
end
namespace DF
theorem Hm:mroOf (.type "dict")=pure [.type "dict",.type "object"]:=by rw [mroOf_type]; kernel_rfl
theorem GJ:typeLookup (.type "dict") "__new__"=pure (some (.builtin "dict.__new__")):=by rw [typeLookup_type,builtinLookup_eq_fast]; kernel_rfl
theorem Hb:Slot "dict" "__init__" "dict.__init__" :=
 .of (owner:="dict") (n:="__init__") (by rw [typeLookup_type,builtinLookup_eq_fast]; kernel_rfl) (by decide +kernel) (by decide +kernel) (by decide +kernel)
  (by first | exact .inl (by decide +kernel) | exact .inr (by decide +kernel)) (by rw [isSubtype_type]; kernel_rfl)
theorem KZ:TypeCalled "dict" "dict.__new__" "dict.__init__" :=
 ⟨by decide +kernel,by decide +kernel,⟨_,_,Hm⟩,madeBy_type Hm GJ (by decide +kernel),by decide +kernel,by rw [isSubtype_type]; kernel_rfl,Hb⟩
theorem GG (a:Value):checkTypeCall "dict" ⟨[a],[]⟩=pure ():=by kernel_rfl
theorem Hl (a:Value):checkBuiltinCall "dict.__new__" ⟨[.type "dict",a],[]⟩=pure ():=by kernel_rfl
theorem HE:entryFor table "dict.__new__"=some Builtin.«dict.__new__»:=entryFor_of_tree (by kernel_rfl)
theorem GK:entryFor table "dict.__init__"=some Builtin.«dict.__init__»:=entryFor_of_tree (by kernel_rfl)
theorem HY (a c:Value):argsOk "dict.__init__" ⟨[a,c],[]⟩:=by unfold argsOk; kernel_rfl
theorem OM:isType (.type "dict")=pure true:=by kernel_rfl
theorem sub_dict_dict:isSubtype (.type "dict") (.type "dict")=pure true:=by rw [isSubtype_type]; kernel_rfl
theorem Jn:typeLookup (.type "dict") "__iter__"=pure (some (.builtin "dict.__iter__")):=F.slot_dict_iter.lookup
theorem Kr:typeLookup (.type "tuple") "__eq__"=pure (some (.builtin "tuple.__eq__")):=F.slot_tuple_eq.lookup
end DF
open DF
theorem O7 (x:Value):Meets (Builtin.«dict.__new__» ⟨[.type "dict",x],[]⟩) (fun U R s=>R (.ok (.ret (.ref s.heap.objs.size))) {s with heap:=s.heap.push (BN #[] 0)}):= .of_wp fun prog w A R s h=>by
 have f1:=OM
 have f2:=DF.sub_dict_dict
 have f3:=Hm
 obtain ⟨hp,g,d,tk,os⟩:=s
 wp_walk
 exact ⟨_,rfl,h⟩
open DF
section
variable {prog:Program} {w:World} {A:Around} {E:Value→Shared→Prop} {s:Shared}
theorem Kf {k:Addr} {Q:Bool→Shared→Prop} (hT:s.TypeIs (.ref k) "tuple") (h:Q false s):wpAny (model prog w) A (Builtin.Dict.quietEq (.ref k)) Q E s:=by
 unfold Builtin.Dict.quietEq
 exact wpAny_bind (wpAny_specialOf hT Kr (wpAny_pure h))
theorem NF {id:String} {a:Addr} {des:Array DictEntry} {n:Nat} {Q:Array DictEntry→Shared→Prop} (g:s.heap.get? a=some (BN des n)) (ht:∀ e∈des.toList,∃ k,e.key= .ref k∧s.TypeIs (.ref k) "tuple") (hh:∀ e∈des.toList,(des.filter (·.hash==e.hash)).size≤1) (h:Q des s) :
  wpAny (model prog w) A (Builtin.Dict.entriesForEmpty id a) Q E s:=by
 unfold Builtin.Dict.entriesForEmpty
 refine wpAny_bind (wpAny_dictEntries g rfl ?_)
 refine wpAny_bind (forIn_array_ _ (fun rest U s'=>s'=s∧∀ e∈rest,e∈des.toList) _ ?_ ?_ des _ ⟨rfl,fun U h=>h⟩)
 ·rintro e rest _ s' ⟨rfl,hr⟩
  have hm:=hr e (.head _)
  refine Af (ht e hm) fun k hk hT=> ?_
  rw [hk]
  refine wpAny_bind (Kf hT ?_)
  rw [if_pos (by rfl),if_neg (Nat.not_lt.mpr (hh e hm))]
  exact wpAny_pure ⟨rfl,fun x hx=>hr x (.tail _ hx)⟩
 ·rintro _ s' ⟨rfl,_⟩
  exact wpAny_pure h
end
namespace BF
theorem IF:mroOf (.type "bytes")=pure [.type "bytes",.type "object"]:=by rw [mroOf_type]; kernel_rfl
theorem Ga:typeLookup (.type "bytes") "__new__"=pure (some (.builtin "bytes.__new__")):=by rw [typeLookup_type,builtinLookup_eq_fast]; kernel_rfl
theorem GI:Slot "bytes" "__init__" "object.__init__" :=
 .of (owner:="object") (n:="__init__") (by rw [typeLookup_type,builtinLookup_eq_fast]; kernel_rfl) (by decide +kernel) (by decide +kernel) (by decide +kernel)
  (by first | exact .inl (by decide +kernel) | exact .inr (by decide +kernel)) (by rw [isSubtype_type]; kernel_rfl)
theorem D3:TypeCalled "bytes" "bytes.__new__" "object.__init__" :=
 ⟨by decide +kernel,by decide +kernel,⟨_,_,IF⟩,madeBy_type IF Ga (by decide +kernel),by decide +kernel,by rw [isSubtype_type]; kernel_rfl,GI⟩
theorem CA (a:Value):checkTypeCall "bytes" ⟨[a],[]⟩=pure ():=by kernel_rfl
theorem CU (a:Value):checkBuiltinCall "bytes.__new__" ⟨[.type "bytes",a],[]⟩=pure ():=by kernel_rfl
theorem CW:entryFor table "bytes.__new__"=some Builtin.«bytes.__new__»:=entryFor_of_tree (by kernel_rfl)
theorem Hp:typeLookup (.type "bytes") "__bytes__"=pure (some (.builtin "bytes.__bytes__")):=by rw [typeLookup_type,builtinLookup_eq_fast]; kernel_rfl
theorem Ic:typeLookup (.type "list") "__bytes__"=pure none:=by rw [typeLookup_type,builtinLookup_eq_fast]; kernel_rfl
theorem Ib:typeLookup (.type "list") "__index__"=pure none:=by rw [typeLookup_type,builtinLookup_eq_fast]; kernel_rfl
theorem Er:typeLookup (.type "list") "__buffer__"=pure none:=by rw [typeLookup_type,builtinLookup_eq_fast]; kernel_rfl
theorem Ks:typeLookup (.type "bytearray") "__bytes__"=pure none:=by rw [typeLookup_type,builtinLookup_eq_fast]; kernel_rfl
theorem Gy:typeLookup (.type "bytearray") "__index__"=pure none:=by rw [typeLookup_type,builtinLookup_eq_fast]; kernel_rfl
theorem DV:typeLookup (.type "bytearray") "__buffer__"=pure (some (.builtin "bytearray.__buffer__")):=by rw [typeLookup_type,builtinLookup_eq_fast]; kernel_rfl
theorem CV:typeLookup (.type "bytes") "__buffer__"=pure (some (.builtin "bytes.__buffer__")):=by rw [typeLookup_type,builtinLookup_eq_fast]; kernel_rfl
theorem Bj:isSubtype (.type "bytes") (.type "bytes")=pure true:=by rw [isSubtype_type]; kernel_rfl
theorem Gf:isType (.type "bytes")=pure true:=by kernel_rfl
theorem Qa:"bytearray.__buffer__".endsWith ("."++"__buffer__")=true:=by decide +kernel
theorem Qg:"bytearray.__buffer__".dropRight ("__buffer__".length+1)="bytearray":=by decide +kernel
theorem FY:isSubtype (.type "bytearray") (.type "bytearray")=pure true:=by rw [isSubtype_type]; kernel_rfl
theorem Rg:"bytes.__buffer__".endsWith ("."++"__buffer__")=true:=by decide +kernel
theorem Rj:"bytes.__buffer__".dropRight ("__buffer__".length+1)="bytes":=by decide +kernel
end BF
open BF
theorem HP (x:Array UInt8) (t:Tok):Gives (Builtin.«bytes.__new__» ⟨[.type "bytes",.bytes x t],[]⟩) (.val (.bytes x t)):= .of_wp fun M A E s Q h=>by
 obtain ⟨hp,g,d,tk,os⟩:=s
 have f1:=Gf
 have f2:=Bj
 have f3:typeOf (.bytes x t)=pure (.type "bytes"):=rfl
 have f4:=Hp
 wp_walk
 exact ⟨_,rfl,h⟩
open BF
namespace BF
theorem Nu:typeLookup (.type "bytearray") "__release_buffer__"=pure (some (.builtin "bytearray.__release_buffer__")):=by rw [typeLookup_type,builtinLookup_eq_fast]; kernel_rfl
theorem Oz:typeLookup (.type "bytes") "__release_buffer__"=pure none:=by rw [typeLookup_type,builtinLookup_eq_fast]; kernel_rfl
theorem O1:"bytearray.__release_buffer__".endsWith ("."++"__release_buffer__")=true:=by decide +kernel
theorem O4:"bytearray.__release_buffer__".dropRight ("__release_buffer__".length+1)="bytearray":=by decide +kernel
end BF
noncomputable abbrev Cw (x:Array UInt8):Obj:=⟨.type "bytearray",none,.bytearray x 0,#[]⟩
section
variable {M:Model} {A:Around} {E:Value→Shared→Prop} {s:Shared}
theorem QS {a:Addr} {Q:Bool→Shared→Prop} (hT:s.TypeIs (.ref a) "bytearray") (h:Q true s):wpAny M A (Builtin.Bytes.slotIsOwn (.ref a) "__buffer__") Q E s:=by
 unfold Builtin.Bytes.slotIsOwn
 refine wpAny_bind (wpAny_specialOf hT DV ?_)
 dsimp only
 rw [Qa,Qg]
 exact wpAny_isInstance hT FY h
theorem RP {x:Array UInt8} {t:Tok} {Q:Bool→Shared→Prop} (h:Q true s):wpAny M A (Builtin.Bytes.slotIsOwn (.bytes x t) "__buffer__") Q E s:=by
 unfold Builtin.Bytes.slotIsOwn
 refine wpAny_bind (wpAny_specialOf (typeIs_bytes s x t) CV ?_)
 dsimp only
 rw [Rg,Rj]
 exact wpAny_isInstance (typeIs_bytes s x t) Bj h
theorem Og {a:Addr} {Q:Bool→Shared→Prop} (hT:s.TypeIs (.ref a) "bytearray") (h:Q false s):wpAny M A (Builtin.Bytes.ownRelease (.ref a)) Q E s:=by
 delta Builtin.Bytes.ownRelease Builtin.Bytes.slotIsOwn
 refine wpAny_bind (wpAny_bind (wpAny_specialOf hT Nu ?_))
 dsimp only
 rw [O1,O4]
 exact wpAny_isInstance hT FY (wpAny_pure h)
theorem RM {x:Array UInt8} {t:Tok} {Q:Bool→Shared→Prop} (h:Q false s):wpAny M A (Builtin.Bytes.ownRelease (.bytes x t)) Q E s:=by
 delta Builtin.Bytes.ownRelease Builtin.Bytes.slotIsOwn
 exact wpAny_bind (wpAny_bind (wpAny_specialOf (typeIs_bytes s x t) Oz (wpAny_pure (wpAny_pure h))))
theorem Ja {a:Addr} {x:Array UInt8} {Q:Array UInt8→Shared→Prop} (hl:s.heap.get? a=some (Cw x)) (h:Q x s):wpAny M A (Builtin.Bytes.payload (.ref a)) Q E s:=by
 obtain ⟨hp,g,d,tk,os⟩:=s
 wp_walk using wpAny_loadPart' hl
 exact h
theorem Pj {id:String} {f:Bool} {a:Addr} {x:Array UInt8} {Q:Option (Array UInt8)→Shared→Prop} (hl:s.heap.get? a=some (Cw x)) (h:Q (some x) s):wpAny M A (Builtin.Bytes.buffer? id (.ref a) f) Q E s:=by
 have hT:s.TypeIs (.ref a) "bytearray":=⟨_,hl,rfl⟩
 unfold Builtin.Bytes.buffer?
 refine wpAny_bind (wpAny_specialOf hT DV ?_)
 dsimp only
 refine wpAny_bind (QS hT ?_)
 refine wpAny_bind (wpAny_specialOf hT DV ?_)
 refine wpAny_bind (Og hT ?_)
 exact wpAny_bind (Ja hl (wpAny_pure h))
theorem QE {id:String} {f:Bool} {x:Array UInt8} {t:Tok} {Q:Option (Array UInt8)→Shared→Prop} (h:Q (some x) s):wpAny M A (Builtin.Bytes.buffer? id (.bytes x t) f) Q E s:=by
 have hT:=typeIs_bytes s x t
 unfold Builtin.Bytes.buffer?
 refine wpAny_bind (wpAny_specialOf hT CV ?_)
 dsimp only
 refine wpAny_bind (RP ?_)
 refine wpAny_bind (wpAny_specialOf hT CV ?_)
 refine wpAny_bind (RM ?_)
 exact wpAny_bind (wpAny_pure (wpAny_pure h))
theorem Pi {id:String} {f:Bool} {a:Addr} {Q:Option (Array UInt8)→Shared→Prop} (hT:s.TypeIs (.ref a) "list") (h:Q none s):wpAny M A (Builtin.Bytes.buffer? id (.ref a) f) Q E s:=by
 unfold Builtin.Bytes.buffer?
 refine wpAny_bind (wpAny_specialOf hT Er ?_)
 dsimp only
 refine wpAny_bind (wpAny_specialOf hT Er ?_)
 exact wpAny_pure h
end
theorem Ld (a:Addr) (x:Array UInt8) (hz:x.size≤sizeLine):Meets (Builtin.«bytes.__new__» ⟨[.type "bytes",.ref a],[]⟩) (fun U R s=>s.heap.get? a=some (Cw x)∧R (.ok (.ret (.bytes x s.toks))) {s with toks:=s.toks+1}):= .of_wp fun prog w A R s h=>by
 obtain ⟨hp,g,d,tk,os⟩:=s; obtain ⟨hl,h⟩:=h
 have f1:=Gf
 have f2:=Bj
 have f3:Shared.TypeIs ⟨hp,g,d,tk,os⟩ (.ref a) "bytearray":=⟨_,hl,rfl⟩
 have f4:=Ks
 have f5:=Gy
 have hz':¬ x.size > sizeLine:=Nat.not_lt.mpr hz
 wp_walk using wpAny_loadPart' hl,Pj hl
 exact ⟨_,rfl,h⟩
open BF
theorem H7:isSubtype (.type "list") (.type "list")=pure true:=by rw [isSubtype_type]; kernel_rfl
section
variable {prog:Program} {w:World} {A:Around} {E:Value→Shared→Prop} {s:Shared}
theorem tc_ {M:Model} {α:Type} {m:Sem α} {k:Value→Sem α} {Q:α→Shared→Prop} (h:wpAny M A m Q (fun e s'=>wpAny M A (k e) Q E s') s):wpAny M A (m.tryCatch k) Q E s:=wpAny_tryCatch h
theorem Nw {id:String} {a:Addr} {items:Array Value} {Q:Unit→Shared→Prop} (t1:s.heap.IsList a items) (hz:items.size≤100000) (h:∀ n,Q () {s with toks:=n}):wpAny (model prog w) A (Builtin.Bytes.lengthHint id (.ref a)) Q E s:=by
 unfold Builtin.Bytes.lengthHint
 refine wpAny_bind (wpAny_specialOf t1.typeIs slot_list_len.lookup ?_)
 have e:splitId "list.__len__"=some ("list","__len__"):=by decide +kernel
 dsimp only
 rw [e]
 dsimp only
 refine wpAny_bind (wpAny_isInstance t1.typeIs H7 ?_)
 simp only [Bool.not_true,Bool.false_eq_true,if_false]
 exact wpAny_ite_true (by kernel_rfl) (wpAny_pure (h s.toks))
end
theorem Fp:plainId "bytes.__new__.loop"=true:=by decide +kernel
theorem KK:entryFor table "bytes.__new__.loop"=some Builtin.«bytes.__new__.loop»:=entryFor_of_fast (by kernel_rfl)
noncomputable def u8s (ns:List Int):List UInt8:=ns.map fun n=>n.toNat.toUInt8
theorem HU {h:Heap} {z:Addr} {x:Array UInt8} (f:Array UInt8→Array UInt8) (hz:h.get? z=some (Cw x)):(h.update z (Obj.mapBytearray f)).get? z=some (Cw (f x)):=Heap.get?_update_self _ hz rfl
theorem Cz {h:Heap} {z y:Addr} {o:Obj} (f:Obj→Obj) (ne:y≠z) (e:h.get? y=some o):(h.update z f).get? y=some o:=((Heap.SameBut.update ..).2 y ne).trans e
theorem MD {x:Array UInt8} {n:Nat} (h:x.size≤sizeLine):(Data.bytearray x n).pastItsLine=none:=by
 show (if x.size > sizeLine then some "bytearray:memory" else none)=none
 exact if_neg (Nat.not_lt.mpr h)
theorem Lf {M:Model} {A:Around} {E:Value→Shared→Prop} {s:Shared} {n:Int} {t:Tok} {Q:Int→Shared→Prop} (h:Q n s):wpAny M A (PySem.asIndex (.int n t)) Q E s:=by
 obtain ⟨hp,g,d,tk,os⟩:=s
 wp_walk
 exact h
theorem Mh (a it z:Addr) (items:Array Value) (ns:List Int) (hI:IntsAre items.toList ns) (hr:∀ x∈ns,0≤x∧x < 256) (hl:ns.length≤100000) (na:it≠a) (za:z≠a) (zi:z≠it) (k:Nat) :
  ∀ i (x:Array UInt8),ns.length-i=k→i≤ns.length→x.size≤i→Meets (Builtin.«bytes.__new__.loop» ⟨[.type "bytes",.ref it,.ref z],[]⟩) (fun A R s=>A.handled=none∧s.heap.IsListIter it a i∧s.heap.IsList a items∧s.heap.get? z=some (Cw x) ∧
   ∀ h' tk tk',(∀ y o,y≠it→y≠z→s.heap.get? y=some o→h'.get? y=some o)→R (.ok (.ret (.bytes (x++(u8s (ns.drop i)).toArray) tk))) {s with heap:=h',toks:=tk'}):=by
 have hlen:items.size=ns.length:=hI.length
 induction k with
 | zero =>
  intro i x hk hi hx prog w A R s ⟨hh,p,t1,g,h⟩
  have hie:i=ns.length:=Nat.le_antisymm hi (Nat.le_of_sub_eq_zero hk)
  subst hie
  unfold Builtin.«bytes.__new__.loop»
  refine wpAny_bind (wpAny_pyNext_list_end (A:=A.in1) hh p t1 (by rw [← hlen]; simp) fun h' sb=> ?_)
  have g':h'.get? z=some (Cw x):=sb z _ zi g
  refine wpAny_bind (Ja g' (wpAny_bind (wpAny_mkBytes ?_ (by rw [sizeLine_eq]; exact Nat.le_of_lt (Nat.lt_of_le_of_lt hx (Nat.lt_of_le_of_lt hl (by decide)))))))
  have e:x++(u8s (ns.drop ns.length)).toArray=x:=by simp [u8s]
  have h2:=h h' s.toks (s.toks+1) fun y o ne U q=>sb y o ne q
  rw [e] at h2
  exact wpAny_pure h2
 | succ k ih =>
  intro i x hk hi hx prog w A R s ⟨hh,p,t1,g,h⟩
  have hlt:i < ns.length:=Nat.lt_of_sub_eq_succ hk
  obtain ⟨u,hu,ru⟩:=Dp (b:={}) (h:=s.heap) (ints_vrs hI) (i:=i) (x:= .int ns[i]) (by rw [List.getElem?_map,List.getElem?_eq_getElem hlt]; rfl)
  obtain ⟨t,rfl⟩:=ru
  have hr':=hr _ (List.getElem_mem hlt)
  unfold Builtin.«bytes.__new__.loop»
  refine wpAny_bind (wpAny_pyNext_list_item p t1 (by rw [← Array.getElem?_toList]; exact hu) fun h' p' sb=> ?_)
  refine wpAny_bind (wpAny_holding (Lf (wpAny_bind (wpAny_letGo ?_))))
  refine wpAny_ite_false (by simp; exact And.intro hr'.1 hr'.2) ?_
  have g':h'.get? z=some (Cw x):=(sb.2 z zi).trans g
  have g2:(h'.update z (Obj.mapBytearray (·.push ns[i].toNat.toUInt8))).get? z=some (Cw (x.push ns[i].toNat.toUInt8)):=HU _ g'
  refine wpAny_bind ?_
  show wpAny _ _ (load z >>= _) _ _ _
  refine wpAny_bind (wpAny_load g' ?_)
  show wpAny _ _ (update z _ >>= _) _ _ _
  refine wpAny_bind (wpAny_update g' ?_)
  refine wpAny_lookBehind g2 ?_ ?_
  ·exact MD (by simp; rw [sizeLine_eq]; exact Nat.le_trans (Nat.add_le_add_right (Nat.le_trans hx (Nat.le_of_lt (Nat.lt_of_lt_of_le hlt hl))) _) (by decide))
  ·refine wpAny_pure ⟨plainId_quiet Fp _,codeAny_builtin KK ?_⟩
   ·rw [Around.under_plainId Fp _]
    refine ih (i+1) (x.push ns[i].toNat.toUInt8) (SS hk) hlt (by simp; exact hx) prog w A R _ ⟨hh,?_,?_,g2,fun h2 tk tk' k2=> ?_⟩
    ·refine Br p' fun o ho hc hd=> ?_
     exact Cu o (Cz _ zi.symm ho) hc hd
    ·refine Af t1 fun o ho r=> ?_
     exact AQ o (Cz _ za.symm ((sb.2 a na.symm).trans ho)) r
    ·have:=h h2 tk tk' fun y o n1 n2 e=>k2 y o n1 n2 (Cz _ n2 ((sb.2 y n1).trans e))
     have e:x.push ns[i].toNat.toUInt8++(u8s (ns.drop (i+1))).toArray=x++(u8s (ns.drop i)).toArray:=by
      refine Array.toList_inj.mp ?_
      rw [List.drop_eq_getElem_cons hlt]
      simp only [Array.toList_append,Array.toList_push,u8s,List.map_cons,List.append_assoc,List.singleton_append]
     rw [e]; exact this
theorem Il (a:Addr) (items:Array Value) (n:Nat) (ns:List Int) (hI:IntsAre items.toList ns) (hr:∀ x∈ns,0≤x∧x < 256) (hz:ns.length≤100000) :
  Meets (Builtin.«bytes.__new__» ⟨[.type "bytes",.ref a],[]⟩) (fun A R s=>A.handled=none∧s.heap.get? a=some (lOb items n) ∧
   ∀ h' tk tk',(∀ y o,s.heap.get? y=some o→h'.get? y=some o)→R (.ok (.ret (.bytes (u8s ns).toArray tk))) {s with heap:=h',toks:=tk'}):=fun prog w A R s h=>by
 obtain ⟨hp,g,d,tk,os⟩:=s; obtain ⟨hh,hl,h⟩:=h
 have hlen:items.size=ns.length:=hI.length
 have f1:=Gf
 have f2:=Bj
 have f3:Shared.TypeIs ⟨hp,g,d,tk,os⟩ (.ref a) "list":=⟨_,hl,rfl⟩
 have f4:=Ic
 have f5:=Ib
 have t1:hp.IsList a items:=⟨_,hl,rfl,_,rfl⟩
 have t2:(hp.push ⟨.type "list_iterator",none,.fields #[.ref a,.int 0 0],#[]⟩).IsList a items:=t1.push _
 have hz':items.size≤100000:=Nat.le_trans (Nat.le_of_eq hlen) hz
 wp_walk using tc_,wpAny_pyIter_list t1,Nw t2 hz',wpAny_loadPart' hl,Pi f3
 intro n'
 refine wpAny_bind (wpAny_newObj_type ?_)
 have ha:a < hp.objs.size:=Heap.lt_size hl
 have fin:Meets (Builtin.«bytes.__new__.loop» ⟨[.type "bytes",.ref hp.objs.size,.ref (hp.push ⟨.type "list_iterator",none,.fields #[.ref a,.int 0 0],#[]⟩).objs.size],[]⟩) _:=Mh a hp.objs.size (hp.push ⟨.type "list_iterator",none,.fields #[.ref a,.int 0 0],#[]⟩).objs.size items ns hI hr hz (Nat.ne_of_gt ha) (by rw [Heap.size_push]; exact Nat.ne_of_gt (Nat.lt_succ_of_lt ha)) (by rw [Heap.size_push]; exact Nat.ne_of_gt (Nat.lt_succ_self _)) ns.length 0 #[] rfl (Nat.zero_le _) (Nat.le_refl _)
 refine wpAny_pure ⟨plainId_quiet Fp _,codeAny_builtin KK ?_⟩
 rw [Around.under_plainId Fp _]
 refine fin prog w A R _ ⟨hh,?_,?_,?_,fun h2 tk tk' k2=> ?_⟩
 ·exact Cu _ (Heap.get?_push_of_some _ (AL _ rfl)) rfl rfl
 ·exact t2.push _
 ·exact AL _ rfl
 ·have:=h h2 tk tk' fun y o e=>k2 y o (Nat.ne_of_lt (Heap.lt_size e)) (by rw [Heap.size_push]; exact Nat.ne_of_lt (Nat.lt_succ_of_lt (Heap.lt_size e))) (Heap.get?_push_of_some _ (Heap.get?_push_of_some _ e))
  simpa using this
open BF
section
variable {w:World} {b:Heap} {C:Cx} {ρ:LM} {σ:MS} {Q:MV→MS→Prop} {d:Nat}
theorem Jy {x:Array UInt8} (q:Q (.bytes x) σ):WC w b d (.type "bytes") [.bytes x] σ Q:=fun A s vs rm S ⟨v,_,e1,⟨t,rv⟩,e2⟩=>by
 cases e2
 subst e1 rv
 exact callType_new D3 (by decide) (CA _) (CU _) (fun obj=>F.args_object_init_2 obj _) CW (HP x t).meets ⟨typeIs_bytes s x t,AC.pure q ⟨t,rfl⟩ S⟩
theorem Mk {h:Heap} {a:Addr} {x:Array UInt8} (S:St b σ h) (e:σ a=some (.barr x)):h.get? a=some (Cw x):=S.obj a _ e
theorem P9 {a:Addr} {x:Array UInt8} (e:σ a=some (.barr x)) (hz:x.size≤100000) (q:Q (.bytes x) σ):WC w b d (.type "bytes") [.ref a] σ Q:=fun A s vs rm S ⟨v,_,e1,rv,e2⟩=>by
 cases e2
 subst e1
 have rv:v= .ref a:=rv
 subst rv
 exact callType_new D3 (by decide) (CA _) (CU _) (fun obj=>F.args_object_init_2 obj _) CW (Ld a x (by rw [sizeLine_eq]; exact Nat.le_of_lt (Nat.lt_of_le_of_lt hz (by decide)))) ⟨Mk S e,typeIs_bytes _ x _,⟨_,σ,q,⟨s.toks,rfl⟩,S,Ev.toks ..⟩⟩
theorem GU {a:Addr} {ns:List Int} (e:σ a=some (.list (ns.map .int))) (hr:∀ x∈ns,0≤x∧x < 256) (hz:ns.length≤100000) (q:Q (.bytes (u8s ns).toArray) σ):WC w b d (.type "bytes") [.ref a] σ Q:=fun A s vs rm S ⟨v,_,e1,rv,e2⟩=>by
 cases e2
 subst e1
 have rv:v= .ref a:=rv
 subst rv
 refine CX (B1 S e) fun items n g1 r1=> ?_
 exact callType_new D3 (by decide) (CA _) (CU _) (fun obj=>F.args_object_init_2 obj _) CW (Il a items n ns (Ff r1) hr hz)
  ⟨rm.handled,g1,fun h' tk tk' k=>⟨typeIs_bytes _ _ _,⟨_,σ,q,⟨tk,rfl⟩,S.grow k,Ev.grow rfl rfl k⟩⟩⟩
end
open BF
namespace BF
theorem De:typeLookup (.type "slice") "__index__"=pure none:=by rw [typeLookup_type,builtinLookup_eq_fast]; kernel_rfl
theorem Ft:typeLookup (.type "int") "__index__"=pure (some (.builtin "int.__index__")):=F.slot_int_index.lookup
theorem H9:typeLookup (.type "bytes") (dunderR "add")=pure none:=by rw [typeLookup_type,builtinLookup_eq_fast]; kernel_rfl
theorem F4:fillsNumberSlot (.type "bytes") "add"=pure false:=PySem.fillsNumberSlot_seq (id:="bytes.__add__") (r:=none) FB.slot_bytes_add.lookup (by decide +kernel) H9 rfl
theorem H8:seqSlot? (.type "bytes") "__add__"=pure (some (.builtin "bytes.__add__")):=PySem.seqSlot_of FB.slot_bytes_add.lookup (by decide +kernel)
end BF
theorem Nj (x:Array UInt8) (a c:Nat) (hc:c≤x.size):Builtin.Bytes.sliced x a c 1=((x.toList.drop a).take (c-a)).toArray:=by
 unfold Builtin.Bytes.sliced
 rw [sliceRange_one,pick_run]
theorem Iv {M:Model} {A:Around} {E:Value→Shared→Prop} {s:Shared} {P:Fin→Shared→Prop} {x:Array UInt8} {t:Tok} {lo hi:Int} {a c:Nat} (hlo:lo=a) (hhi:hi=c) (hc:c≤x.size) (hz:x.size≤100000)
  (h:∀ tk n,P (.done (.ret (.bytes ((x.toList.drop a).take (c-a)).toArray tk))) {s with toks:=n}) {r:String} :
  wpAny M A (if (lo==0 && (1:Int)==1 && hi==x.size && !x.isEmpty)=true then do
    let q←typeOf (Value.bytes x t)
    if (q==Value.type "bytes")=true then do
     rule r
     ret (Value.bytes x t)
    else (do ret (← mkBytes (Builtin.Bytes.sliced x lo hi 1)))
   else (do ret (← mkBytes (Builtin.Bytes.sliced x lo hi 1)))) P E s:=by
 subst hlo hhi
 have fin:wpAny M A (do ret (← mkBytes (Builtin.Bytes.sliced x a c 1))) P E s:=by
  rw [Nj x a c hc]
  exact wpAny_bind (wpAny_mkBytes (wpAny_pure (h s.toks _)) (by simp; rw [sizeLine_eq]; exact Nat.le_trans (Nat.le_trans (Nat.le_trans (Nat.min_le_right _ _) (Nat.sub_le _ _)) hz) (by decide)))
 split
 ·rename_i hw
  simp only [Bool.and_eq_true,beq_iff_eq] at hw
  obtain ⟨⟨⟨h1,_⟩,h2⟩,_⟩:=hw
  refine wpAny_bind (wpAny_typeOf (T:="bytes") rfl ?_)
  refine NX (by decide) ?_
  refine wpAny_bind (wpAny_rule (wpAny_pure ?_))
  have ha:a=0:=Int.ofNat_inj.mp h1
  have hc':c=x.size:=Int.ofNat_inj.mp h2
  have:=h t s.toks
  rw [ha,hc',List.drop_zero,Nat.sub_zero,List.take_of_length_le (by simp)] at this
  exact this
 ·exact fin
theorem Mi (x:Array UInt8) (t:Tok) (sl:Addr) (a:Nat) (u:Tok) (hz:x.size≤100000):Meets (Builtin.«bytes.__getitem__» ⟨[.bytes x t,.ref sl],[]⟩) (fun U R s=>(∃ o,s.heap.get? sl=some o∧o.cls= .type "slice"∧o.data= .fields #[.int a u,.none,.none]) ∧
  ∀ tk n,R (.ok (.ret (.bytes (x.toList.drop a).toArray tk))) {s with toks:=n}):= .of_wp fun prog w A R s h=>by
 obtain ⟨hp,g,d,tk,os⟩:=s; obtain ⟨⟨⟨oc,od,oda,osl⟩,hl,hc,hd⟩,h⟩:=h
 dsimp only at hc hd
 subst hc hd
 have f3:Shared.TypeIs ⟨hp,g,d,tk,os⟩ (.ref sl) "slice":=⟨_,hl,rfl⟩
 have f4:=De
 have f5:typeOf (.int a u)=pure (.type "int"):=rfl
 have f6:=Ft
 have f7:typeOf (.bytes x t)=pure (.type "bytes"):=rfl
 have f8:=sliceIndices_raw (some (a:Int)) none none x.size (by simp)
 wp_walk using wpAny_loadPart' hl,wpAny_mkBytes
 refine Iv (a:=min a x.size) (c:=x.size) (by rw [if_neg (Int.not_ofNat_neg _)]; exact R0) (by simp) (Nat.le_refl _) hz fun tk n=>⟨_,rfl,?_⟩
 have e:((x.toList.drop (min a x.size)).take (x.size-min a x.size))=x.toList.drop a:=by
  rcases Nat.le_total a x.size with h | h
  ·rw [Nat.min_eq_left h,List.take_of_length_le (by simp)]
  ·rw [Nat.min_eq_right h,List.drop_of_length_le (by simp),List.drop_of_length_le (by simpa using h)]; simp
 rw [e]; exact h tk n
theorem Mg (x:Array UInt8) (t:Tok) (sl:Addr) (a:Nat) (u:Tok) (hz:x.size≤100000):Meets (Builtin.«bytes.__getitem__» ⟨[.bytes x t,.ref sl],[]⟩) (fun U R s=>(∃ o,s.heap.get? sl=some o∧o.cls= .type "slice"∧o.data= .fields #[.none,.int a u,.none]) ∧
  ∀ tk n,R (.ok (.ret (.bytes (x.toList.take a).toArray tk))) {s with toks:=n}):= .of_wp fun prog w A R s h=>by
 obtain ⟨hp,g,d,tk,os⟩:=s; obtain ⟨⟨⟨oc,od,oda,osl⟩,hl,hc,hd⟩,h⟩:=h
 dsimp only at hc hd
 subst hc hd
 have f3:Shared.TypeIs ⟨hp,g,d,tk,os⟩ (.ref sl) "slice":=⟨_,hl,rfl⟩
 have f4:=De
 have f5:typeOf (.int a u)=pure (.type "int"):=rfl
 have f6:=Ft
 have f7:typeOf (.bytes x t)=pure (.type "bytes"):=rfl
 have f8:=sliceIndices_raw none (some (a:Int)) none x.size (by simp)
 wp_walk using wpAny_loadPart' hl,wpAny_mkBytes
 refine Iv (a:=0) (c:=min a x.size) (by simp) (by rw [if_neg (Int.not_ofNat_neg _)]; exact R0) (Nat.min_le_right _ _) hz fun tk n=>⟨_,rfl,?_⟩
 have e:((x.toList.drop 0).take (min a x.size-0))=x.toList.take a:=by
  rw [List.drop_zero,Nat.sub_zero]
  rcases Nat.le_total a x.size with h | h
  ·rw [Nat.min_eq_left h]
  ·rw [Nat.min_eq_right h,List.take_of_length_le (by simp),List.take_of_length_le (by simpa using h)]
 rw [e]; exact h tk n
open BF
section
variable {w:World} {b:Heap} {C:Cx} {ρ:LM} {σ:MS} {Q:MV→MS→Prop} {d:Nat}
theorem Mu {x:Array UInt8} {a:Nat} (hz:x.size≤100000) (q:Q (.bytes (x.toList.drop a).toArray) σ):WSl w b d "bytes" (.bytes x) (.int a) .none σ Q:=fun A s ov vl vu sl rm S ⟨t,ro⟩ ⟨u,rl⟩ ru hs=>by
 have ru:vu= .none:=ru
 subst ro rl ru
 exact ⟨typeIs_bytes s x t,getItem_meets (typeIs_bytes s x t) (by decide) FB.slot_bytes_getitem FB.entry_bytes_getitem (FB.args_bytes_getitem_2 _ _) (Mi x t sl a u hz) ⟨hs,fun tk n=>⟨_,σ,q,⟨tk,rfl⟩,S,Ev.toks ..⟩⟩⟩
theorem RB {x:Array UInt8} {a:Nat} (hz:x.size≤100000) (q:Q (.bytes (x.toList.take a).toArray) σ):WSl w b d "bytes" (.bytes x) .none (.int a) σ Q:=fun A s ov vl vu sl rm S ⟨t,ro⟩ rl ⟨u,ru⟩ hs=>by
 have rl:vl= .none:=rl
 subst ro rl ru
 exact ⟨typeIs_bytes s x t,getItem_meets (typeIs_bytes s x t) (by decide) FB.slot_bytes_getitem FB.entry_bytes_getitem (FB.args_bytes_getitem_2 _ _) (Mg x t sl a u hz) ⟨hs,fun tk n=>⟨_,σ,q,⟨tk,rfl⟩,S,Ev.toks ..⟩⟩⟩
theorem QH {x:Array UInt8} {i:Nat} {c:UInt8} (hz:x.size≤100000) (hx:x.toList[i]?=some c) (q:Q (.int c.toNat) σ):WX w b d (.bytes x) (.int i) σ Q:=fun A s ov iv rm S ⟨t,ro⟩ ⟨u,ri⟩=>by
 subst ro ri
 have hl:i < x.toList.length:=(List.getElem?_eq_some_iff.mp hx).1
 refine Bq ("bytes") _ FB.slot_bytes_getitem.lookup (typeIs_bytes s x t) ?_
 have:=getItem_bytes (prog:=pw) (w:=w) (A:=A) (E:=noE) (s:=s) (t:=t) (u:=u) (l:=x.toList) (i:=(i:Int)) (Q:=AC b σ s Q) (by simp; exact Nat.le_of_lt (Nat.lt_of_le_of_lt hz (by decide))) (Int.natCast_nonneg _) (by exact_mod_cast hl) ⟨_,σ,q,⟨s.toks,?_⟩,S,Ev.toks ..⟩
 ·simpa using this
 ·have:x.toList.getD (i:Int).toNat 0=c:=by
   rw [List.getD_eq_getElem?_getD,Int.toNat_natCast,hx]; rfl
  rw [this]
theorem NN (x y:Array UInt8) (t u:Tok) (hz:x.size+y.size≤100000):Meets (Builtin.«bytes.__add__» ⟨[.bytes x t,.bytes y u],[]⟩) (fun U R s=>∀ tk n,R (.ok (.ret (.bytes (x++y) tk))) {s with toks:=n}):= .of_wp fun prog w A R s h=>by
 obtain ⟨hp,g,d,tk,os⟩:=s
 wp_walk using QE
 refine wpAny_ite_split (fun hx=> ?_) fun hx=> ?_
 ·have e:x++y=y:=by have:=Array.isEmpty_iff.mp hx; subst this; simp
  rw [e] at h
  wp_walk
  exact AQ _ rfl (h u tk)
 ·dsimp only
  refine wpAny_ite_split (fun hy=> ?_) fun hy=> ?_
  ·have e:x++y=x:=by have:=Array.isEmpty_iff.mp hy; subst this; simp
   rw [e] at h
   wp_walk
   exact AQ _ rfl (h t tk)
  ·have hn:¬ (Builtin.Bytes.tooLong (x.size+y.size)=true):=by unfold Builtin.Bytes.tooLong; simp; rw [sizeLine_eq]; exact Nat.le_of_lt (Nat.lt_of_le_of_lt hz (by decide))
   refine wpAny_ite_split (fun hq=>absurd hq hn) fun U=> ?_
   exact wpAny_bind (wpAny_mkBytes (wpAny_pure ⟨_,rfl,h _ _⟩) (by rw [Array.size_append,sizeLine_eq]; exact Nat.le_of_lt (Nat.lt_of_le_of_lt hz (by decide))))
theorem QG {x y:Array UInt8} (hz:x.size+y.size≤100000) (q:Q (.bytes (x++y)) σ):WO2 w b d (binaryOp .Add) (.bytes x) (.bytes y) σ Q:=fun A s v u rm S ⟨t,e⟩ ⟨t',f⟩=>by
 subst e f
 exact concat_meets (typeIs_bytes s x t) (typeIs_bytes s y t') F4 H8 FB.slot_bytes_add FB.entry_bytes_add (FB.args_bytes_add_2 _ _) (NN x y t t' hz) fun tk n=>⟨_,σ,q,⟨tk,rfl⟩,S,Ev.toks ..⟩
end
open BF
namespace BF
theorem BQ:Slot "bytes_iterator" "__next__" "bytes_iterator.__next__" :=
 .of (owner:="bytes_iterator") (n:="__next__") (by rw [typeLookup_type,builtinLookup_eq_fast]; kernel_rfl) (by decide +kernel) (by decide +kernel) (by decide +kernel)
  (by first | exact .inl (by decide +kernel) | exact .inr (by decide +kernel)) (by rw [isSubtype_type]; kernel_rfl)
theorem E5:entryFor table "bytes_iterator.__next__"=some Builtin.«bytes_iterator.__next__»:=entryFor_of_tree (by kernel_rfl)
theorem FT (a:Value):argsOk "bytes_iterator.__next__" ⟨[a],[]⟩:=by unfold argsOk; kernel_rfl
theorem Fh:Slot "bytes_iterator" "__iter__" "bytes_iterator.__iter__" :=
 .of (owner:="bytes_iterator") (n:="__iter__") (by rw [typeLookup_type,builtinLookup_eq_fast]; kernel_rfl) (by decide +kernel) (by decide +kernel) (by decide +kernel)
  (by first | exact .inl (by decide +kernel) | exact .inr (by decide +kernel)) (by rw [isSubtype_type]; kernel_rfl)
theorem Ig:entryFor table "bytes_iterator.__iter__"=some Builtin.«dict_keyiterator.__iter__»:=entryFor_alias (id':="dict_keyiterator.__iter__") (by kernel_rfl) rfl (by decide +kernel) (by kernel_rfl)
theorem JV (a:Value):argsOk "bytes_iterator.__iter__" ⟨[a],[]⟩:=by unfold argsOk; kernel_rfl
end BF
noncomputable def GZ (h:Heap) (a:Addr) (x:Array UInt8) (i:Nat):Prop:=∃ t,h.get? a=some ⟨.type "bytes_iterator",none,.fields #[.bytes x t,.int i 0],#[]⟩
section
variable {w:World} {b:Heap} {C:Cx} {ρ:LM} {σ:MS} {Q:MV→MS→Prop} {d:Nat}
theorem TE {h:Heap} {a:Addr} {x:Array UInt8} {t:Tok} {i:Nat} (g:h.get? a=some ⟨.type "bytes_iterator",none,.fields #[.bytes x t,.int i 0],#[]⟩):(h.update a (Obj.mapFields fun v=>v.setIfInBounds 1 (rawInt (i+1)))).get? a=some ⟨.type "bytes_iterator",none,.fields #[.bytes x t,.int (i+1:Nat) 0],#[]⟩ :=
 Heap.get?_update_self _ g rfl
theorem Ql {prog:Program} {A:Around} {E:Value→Shared→Prop} {s:Shared} {a:Addr} {x:Array UInt8} {i:Nat} {c:UInt8} {Q:Option Value→Shared→Prop} (p:GZ s.heap a x i) (hx:x[i]?=some c)
  (hQ:∀ h' tk n,GZ h' a x (i+1)→Heap.SameBut a s.heap h'→Q (some (.int c.toNat tk)) {s with heap:=h',toks:=n}):wpAny (model prog w) A (pyNext (.ref a)) Q E s:=by
 obtain ⟨t,g⟩:=p
 have hT:s.TypeIs (.ref a) "bytes_iterator":=⟨_,g,rfl⟩
 unfold pyNext
 refine wpAny_bind (wpAny_attempt (wpAny_callSpecial?_slot (name:=Str.ofString "__next__") hT BQ (wpAny_call_entry BQ hT E5 ?_ (FT _))))
 obtain ⟨hp,g0,d,tk,os⟩:=s
 have hxi:x[((i:Nat):Int).toNat]?=some c:=hx
 wp_walk using wpAny_loadPart' g
 rw [hxi]
 have D:=TE g
 refine wpAny_bind (wpAny_setField g rfl (by simp) (wpAny_bind (wpAny_mkInt (wpAny_pure ⟨_,rfl,wpAny_pure (hQ _ _ _ ⟨t,?_⟩ (Heap.SameBut.update ..))⟩))))
 exact D
theorem Ru {prog:Program} {A:Around} {E:Value→Shared→Prop} {s:Shared} {a:Addr} {x:Array UInt8} {i:Nat} {Q:Option Value→Shared→Prop} (hh:A.handled=none) (p:GZ s.heap a x i) (hx:x[i]?=none)
  (hQ:∀ h',Heap.ExtBut a s.heap h'→Q none {s with heap:=h'}):wpAny (model prog w) A (pyNext (.ref a)) Q E s:=by
 obtain ⟨t,g⟩:=p
 have hT:s.TypeIs (.ref a) "bytes_iterator":=⟨_,g,rfl⟩
 unfold pyNext
 refine wpAny_bind (wpAny_attempt (wpAny_callSpecial?_slot (name:=Str.ofString "__next__") hT BQ (wpAny_call_entry BQ hT E5 ?_ (FT _))))
 show wpAny _ _ (field (.ref a) 0 >>= _) _ _ s
 refine wpAny_bind (wpAny_field g rfl (x:= .bytes x t) rfl ?_)
 refine H4 (show ¬ ((Value.bytes x t==Value.none)=true) from Bool.false_ne_true) ?_
 refine wpAny_bind (wpAny_field g rfl (x:= .int i 0) rfl ?_)
 refine wpAny_bind (wpAny_pure ?_)
 have hxi:x[((i:Nat):Int).toNat]?=none:=hx
 rw [hxi]
 refine wpAny_bind (wpAny_rule (wpAny_bind (wpAny_setField g rfl (by simp) ?_)))
 show wpAny _ _ (newExc (.type "StopIteration") [] >>= _) _ _ _
 refine wpAny_bind ?_
 simp only [newExc,newTuple]
 refine wpAny_bind (wpAny_newObj_type ?_ (by size_fits))
 refine wpAny_bind (m:=firstArgMember _ _) (wpAny_of_eq (a:=Value.none) (by first | rfl | (simp only [firstArgMember]; rfl)) ?_)
 refine wpAny_newObj_type ?_ (by size_fits)
 unfold raiseNew
 refine wpAny_bind (wpAny_handled ?_)
 rw [show A.in1.handled=none from hh]
 refine wpAny_bind (wpAny_pure (wpAny_throw ?_))
 refine wpAny_bind (wpAny_isInstance (T:="StopIteration") (b:=true) ⟨_,Heap.get?_push_size _ rfl,rfl⟩ isSubtype_stop ?_)
 exact wpAny_pure (hQ _ (((Heap.SameBut.update ..).extBut.push _).push _))
theorem OL {prog:Program} {A:Around} {E:Value→Shared→Prop} {s:Shared} {x:Array UInt8} {t:Tok} {Q:Value→Shared→Prop} (hQ:Q (.ref s.heap.objs.size) {s with heap:=s.heap.push ⟨.type "bytes_iterator",none,.fields #[.bytes x t,.int 0 0],#[]⟩}) :
  wpAny (model prog w) A (pyIter (.bytes x t)) Q E s:=by
 have hT:=typeIs_bytes s x t
 refine wpAny_pyIter_slot hT FB.slot_bytes_iter (wpAny_call_entry FB.slot_bytes_iter hT FB.entry_bytes_iter ?_ (FB.args_bytes_iter_1 _))
 show wpAny _ _ (do ret (← newFields "bytes_iterator" [.bytes x t,rawInt 0])) _ _ s
 exact wpAny_bind (wpAny_newObj_type (wpAny_pure ⟨_,rfl,"bytes_iterator",_,⟨_,Heap.get?_push_size _ rfl,rfl⟩,BQ.lookup,hQ⟩))
theorem Q7 {x:Array UInt8}:WI w b d (.bytes x) σ (fun U=>True) (x.toList.map fun c=>MV.int c.toNat):=fun A s v P rm S ⟨t,e⟩ h=>by
 subst e
 have fr:=S.free
 refine OL (h _ _ (fun i h=>GZ h s.heap.objs.size x i) ?_ ⟨t,AL _ rfl⟩ (Ah _) (S.low_new (Ah _)) fr.2 rfl rfl (At _ _))
 refine ⟨fun i h ⟨t,g⟩=>⟨_,_,g,rfl⟩,fun i h h' ⟨t,g⟩ k=>⟨t,k _ g⟩,fun i d A s' σ' y P rm S' ok p hx hP=> ?_,fun i A s' P ⟨t,g⟩ hP=> ?_,fun d A s' σ' P rm S' ok p hP=> ?_⟩
 ·rw [List.getElem?_map] at hx
  refine Af (Option.map_eq_some_iff.mp hx) fun c hc e_2=> ?_
  subst e_2
  exact Ql p (by rw [← Array.getElem?_toList]; exact hc) fun h' tk n p' sb=>hP _ _ ⟨tk,rfl⟩ p' rfl rfl (fun x o n e=>(sb.2 x n).trans e)
 ·have hT:s'.TypeIs (.ref s.heap.objs.size) "bytes_iterator":=⟨_,g,rfl⟩
  refine wpAny_pyIter_slot hT Fh (wpAny_call_entry Fh hT Ig ?_ (JV _))
  show wpAny _ _ (ret _) _ _ s'
  exact wpAny_pure ⟨_,rfl,"bytes_iterator",_,hT,BQ.lookup,hP⟩
 ·exact Ru rm.handled p (by simp) fun h' sb=>hP _ rfl rfl (fun x o n e=>sb x o n e)
end
open DF
theorem NJ (c a:Addr) (des:Array DictEntry) (n:Nat) (hca:c≠a) (hd:(a==sysModules)=false) (hz:des.size≤100000) :
  Meets (Builtin.«dict.__init__» ⟨[.ref c,.ref a],[]⟩) (fun U R s=>s.heap.get? c=some (BN #[] 0)∧s.heap.get? a=some (BN des n)∧(∀ e∈des.toList,∃ k,e.key= .ref k∧s.TypeIs (.ref k) "tuple")∧(∀ e∈des.toList,(des.filter (·.hash==e.hash)).size≤1) ∧
   ∀ h' m,h'.get? c=some (BN des m)→Heap.SameBut c s.heap h'→R (.ok (.ret .none)) {s with heap:=h'}):= .of_wp fun prog w A R s q0_=>KN q0_ fun gc ga ht hh h=>by
 have hT:s.TypeIs (.ref c) "dict":=⟨_,gc,rfl⟩
 have hTa:s.TypeIs (.ref a) "dict":=⟨_,ga,rfl⟩
 unfold Builtin.«dict.__init__»
 refine wpAny_bind ?_
 unfold Builtin.Dict.selfAndRest
 refine wpAny_bind (wpAny_notOrdered_dict hT ?_)
 show wpAny _ _ (pure (c,[Value.ref a])) _ _ s
 refine wpAny_pure ?_
 unfold Builtin.Dict.updateCommon
 show wpAny _ _ (Builtin.Dict.updateFrom "dict.__init__" c (.ref a) [] .none) _ _ s
 unfold Builtin.Dict.updateFrom
 refine wpAny_bind (wpAny_typeOf hTa ?_)
 refine H4 (by decide) ?_
 refine wpAny_bind ?_
 unfold Builtin.Dict.merge
 refine wpAny_bind ?_
 unfold Builtin.Dict.readDirectly
 refine wpAny_bind (wpAny_isInstance hTa DF.sub_dict_dict ?_)
 simp only [Bool.not_true,Bool.false_eq_true,if_false]
 refine wpAny_bind (wpAny_specialOf hTa Jn (wpAny_pure ?_))
 refine NX (beq_self_eq_true _) ?_
 refine wpAny_bind (wpAny_pure ?_)
 have fin:∀ h' m,h'.get? c=some (BN des m)→Heap.SameBut c s.heap h'→wpAny (model prog w) A.in1 (do Builtin.Dict.addKeywords c []; ret Value.none) (fun fin s'=>∃ v,fin=Fin.done (Flow.ret v)∧R (Except.ok (Flow.ret v)) s') (fun e s'=>R (Except.error e) s') {s with heap:=h'} :=
  fun h' m g' sb=>wpAny_bind (wpAny_pure (wpAny_pure ⟨_,rfl,h h' m g' sb⟩))
 unfold Builtin.Dict.mergeDict
 have hne:(c==a)=false:=beq_eq_false_iff_ne.mpr hca
 simp only [hne,Bool.false_eq_true,if_false]
 refine wpAny_bind ?_
 unfold Builtin.Dict.showsAll
 simp only [hd,Bool.false_eq_true,if_false]
 refine wpAny_pure ?_
 refine wpAny_bind (wpAny_dictEntries ga rfl ?_)
 by_cases he:des.toList=[]
 ·have:des= #[]:=by rw [← Array.toList_inj]; exact he
  subst this
  have hfew:(decide ((#[]:Array DictEntry).size≤8) && (#[]:Array DictEntry).all fun e=>(keyPart e.key).isSome)=true:=by simp
  simp only [hfew,Bool.not_true,Bool.false_eq_true,if_false]
  refine wpAny_bind (wpAny_dictEpoch ga rfl (wpAny_bind (wpAny_dictEntries ga rfl ?_)))
  refine wpAny_of_eq (a:=()) (by first | rfl | simp) ?_
  exact fin s.heap 0 gc ⟨rfl,fun U U=>rfl⟩
 ·have hfew:(decide (des.size≤8) && des.all fun e=>(keyPart e.key).isSome)=false:=by
   obtain ⟨e,hm⟩:=List.exists_mem_of_ne_nil _ he
   refine Af (ht e hm) fun k hk U=> ?_
   rw [Bool.and_eq_false_iff]
   refine .inr ?_
   rw [Array.all_eq_false']
   exact ⟨e,Array.mem_toList_iff.mp hm,by rw [hk]; exact Bool.false_ne_true⟩
  simp only [hfew,Bool.not_false,if_true]
  refine wpAny_bind (wpAny_dictEntries gc rfl ?_)
  refine NX (by rfl) ?_
  refine wpAny_bind (NF ga ht hh ?_)
  have hne':(!des.isEmpty)=true:=by
   cases q:des.isEmpty with
   | false=>rfl
   | true=>have:=Array.isEmpty_iff.mp q; subst this; exact absurd rfl he
  refine NX hne' ?_
  refine wpAny_bind (wpAny_updateDictKeysTo (o:=BN #[] 0) gc rfl (wpAny_pure ?_) (by show des.size≤_; rw [sizeLine_eq]; exact Nat.le_of_lt (Nat.lt_of_le_of_lt hz (by decide))))
  exact fin _ 1 (Heap.get?_update_self _ gc rfl) (Heap.SameBut.update ..)
open DF
section
variable {w:World} {b:Heap} {C:Cx} {ρ:LM} {σ:MS} {d:Nat}
theorem Pw {h:Heap}:∀ {es:List ((Int×Int)×MV)} {l:List DictEntry},EsR b h (asE kT es) l→∀ e∈l,∃ k,e.key= .ref k∧∃ items,IsTup h k items:=by
 intro w_
 induction w_ with
 | nil =>
  intro l r e he
  have r:l=[]:=r; subst r; cases he
 | cons p_ es ih_ =>
  intro l r_53 e he
  obtain ⟨k,v⟩:=p_
  obtain ⟨e0,es',hl,hk,_,_,_,r⟩:=r_53
  subst hl
  rcases List.mem_cons.mp he with z | z
  ·refine BD hk fun a items e1 t U=> ?_
   exact ⟨a,by rw [z,e1],items,t⟩
  ·exact ih_ r e z
theorem Li {h:Heap} {f:Int→Bool}:∀ {es:List (MV×MV)} {l:List DictEntry},EsR b h es l→(l.filter fun e=>f e.hash).length=(es.filter fun p=>f (Ap p.1)).length∧∀ e∈l,∃ p∈es,e.hash=Ap p.1:=by
 intro es
 induction es with
 | nil=>intro l r; have r:l=[]:=r; subst r; exact ⟨rfl,fun U h=>(List.not_mem_nil h).elim⟩
 | cons p es ih =>
  intro l r
  refine Qc r fun e0 es' hl U U hh U g=> ?_
  subst hl
  have I:=ih g
  refine ⟨?_,fun e he=>(List.mem_cons.mp he).elim (fun z=>⟨p,.head _,by rw [z]; exact hh⟩) fun z=>Af (I.2 e z) fun p hp q=>AQ p (.tail _ hp) q⟩
  rw [List.filter_cons,List.filter_cons,show e0.hash=Ap p.1 from hh]
  cases f (Ap p.1) with
  | true=>exact congrArg Nat.succ I.1
  | false=>exact I.1
noncomputable def Mn (es:List ((Int×Int)×MV)):Prop:=(es.map (·.1)).Nodup∧∀ p∈es,∃ l w:Nat,p.1=((l:Int),(w:Int))∧l < 17∧w < 65536
theorem OV {es:List ((Int×Int)×MV)} (h:Mn es) (p:(Int×Int)×MV) (hp:p∈es):((asE kT es).filter fun q=>Ap q.1==Ap (kT p.1)).length≤1:=by
 obtain ⟨hn,hr⟩:=h
 refine BD (hr p hp) fun l w e hl hw=> ?_
 have:∀ es:List ((Int×Int)×MV),(es.map (·.1)).Nodup→(∀ p∈es,∃ l w:Nat,p.1=((l:Int),(w:Int))∧l < 17∧w < 65536)→((asE kT es).filter fun q=>Ap q.1==Ap (kT p.1)).length≤1∧((∀ q∈es,q.1≠p.1)→((asE kT es).filter fun q=>Ap q.1==Ap (kT p.1)).length=0):=by
  intro es
  induction es with
  | nil=>intro _ _; exact ⟨Nat.zero_le _,fun U=>rfl⟩
  | cons x xs ih =>
   intro n r
   rw [List.map_cons,List.nodup_cons] at n
   obtain ⟨i1,i2⟩:=ih n.2 fun p hp=>r p (.tail _ hp)
   refine BD (r x (.head _)) fun l' w' e' hl' hw'=> ?_
   have key:Ap (kT x.1)=Ap (kT p.1)→x.1=p.1:=fun q=>by
    rw [e,e'] at q ⊢
    obtain ⟨rfl,rfl⟩:=Q5 hl' hl hw' hw q
    rfl
   show ((asE kT (x::xs)).filter _).length≤1∧_
   rw [show asE kT (x::xs)=(kT x.1,x.2)::asE kT xs from rfl,List.filter_cons]
   cases q:(Ap (kT x.1)==Ap (kT p.1)) with
   | false =>
    simp only [Bool.false_eq_true,if_false]
    exact ⟨i1,fun h=>i2 fun y hy=>h y (.tail _ hy)⟩
   | true =>
    have hx:=key (beq_iff_eq.mp q)
    have z:=i2 fun y hy c=>n.1 (List.mem_map.mpr ⟨y,hy,by rw [c,hx]⟩)
    simp only [if_true,List.length_cons,z]
    exact ⟨Nat.le_refl _,fun h=>absurd hx (h x (.head _))⟩
 exact (this es hn hr).1
theorem Rd (hB:BaseOk w b) {Q:MV→MS→Prop} {a:Addr} {es:List ((Int×Int)×MV)} {n:Nat} (e:σ a=some (.dict (asE kT es) n)) (ho:Mn es) (hl:es.length≤100000) (q:∀ c m,σ c=none→Q (.ref c) (σ.set c (.dict (asE kT es) m))):WC w b d (.type "dict") [.ref a] σ Q:=fun A s vs rm S q0_=>BD q0_ fun v U e1 rv e2=>by
 cases e2
 subst e1
 have rv:v= .ref a:=rv
 subst rv
 refine Af (B4 S e) fun des g r=> ?_
 have hz:des.size=es.length:=by rw [← Array.length_toList,D7 r]; simp [asE]
 have fr:=S.free
 have hca:s.heap.objs.size≠a:=Ne.symm (Nat.ne_of_lt (Heap.lt_size g))
 refine callType_meets KZ (GG _) (Hl _) HE GK (O7 _) (Q₁:=fun obj s1=>obj= .ref s.heap.objs.size∧s1={s with heap:=s.heap.push (BN #[] 0)}) ⟨rfl,rfl⟩ ?_
 rintro obj s1 ⟨rfl,rfl⟩
 have kp:=At s.heap (BN #[] 0)
 refine Cv ⟨_,AL _ rfl,rfl⟩ (HY _ _) ⟨_,NJ s.heap.objs.size a des n hca (GR hB S e) (Nat.le_trans (Nat.le_of_eq hz) hl),AL _ rfl,kp _ _ g,fun x hx=> ?_,fun x hx=> ?_,fun h' m g' sb=> ?_⟩
 ·refine Af (Pw r x hx) fun k hk r_=> ?_
  obtain ⟨items,o,ho,hc,_⟩:=r_
  exact AQ k hk ⟨o,kp _ _ ho,hc⟩
 ·refine Af ((Li (f:=fun U=>true) r).2 x hx) fun p hp hh=> ?_
  refine Af (List.mem_map.mp hp) fun p' hp' e_2=> ?_
  subst e_2
  have h1:=(Li (f:=fun k=>k==Ap (kT p'.1)) r).1
  have h2:=OV ho p' hp'
  rw [hh]
  have:(des.filter fun y=>y.hash==Ap (kT p'.1)).size=(des.toList.filter fun y=>y.hash==Ap (kT p'.1)).length:=by
   rw [← Array.length_toList,Array.toList_filter]
  show (des.filter fun y=>y.hash==Ap (kT p'.1)).size≤1
  rw [this,h1]; exact h2
 ·have k:∀ y o,s.heap.get? y=some o→h'.get? y=some o:=fun y o ho=>(sb.2 y (Nat.ne_of_lt (Heap.lt_size ho))).trans (kp _ _ ho)
  refine ⟨rfl,?_⟩
  exact ⟨_,_,q _ m fr.1,rfl,S.new fr.2 (S.low_new (Ah _)) (fun d e=>by cases e) k fun K U=>⟨des,g',EF K _ _ r⟩,Ev.new' fr.1 (Ah _) (fun d e=>by cases e) k rfl rfl⟩
end
end
theorem TD:Builtin.Bytes.decodersThatHold.contains "type.__call__"=false:=by decide +kernel
theorem TB:Builtin.Bytes.decodersThatHold.contains "bytearray.__init__"=false:=by decide +kernel
theorem Tz:Builtin.Bytes.decodersThatHold.contains "bytearray.__setitem__"=false:=by decide +kernel
theorem Di:∃ F:Value→Code×Pos→Bool,(∀ v,Builtin.Bytes.exported v=(do return (← stack).any (F v)))∧(∀ v c p,(∀ id x,c≠ .builtin id x)→F v (c,p)=false) ∧
  (∀ v x p,F v (.builtin "type.__call__" x,p)=false)∧(∀ v p,F v (.builtin "claim.caller" {},p)=false)∧(∀ v x p,F v (.builtin "bytearray.__init__" x,p)=false)∧(∀ v x p,F v (.builtin "bytearray.__setitem__" x,p)=false):=by
 refine Tm _ (fun v=>rfl) ?_ ?_ ?_ ?_ ?_
 ·intro v c p h
  cases c <;> first | rfl | exact absurd rfl (h _ _)
 ·intro v x p
  obtain ⟨pos,kw⟩:=x
  rcases pos with _ | ⟨u,_ | ⟨u',_ | ⟨u'',r⟩⟩⟩
  ·rfl
  all_goals
   show (Builtin.Bytes.sameRef u v && Builtin.Bytes.decodersThatHold.contains "type.__call__")=false
   rw [TD,Bool.and_false]
 ·intro v p; rfl
 ·intro v x p
  obtain ⟨pos,kw⟩:=x
  rcases pos with _ | ⟨u,_ | ⟨u',_ | ⟨u'',r⟩⟩⟩
  ·rfl
  all_goals
   show (Builtin.Bytes.sameRef u v && Builtin.Bytes.decodersThatHold.contains "bytearray.__init__")=false
   rw [TB,Bool.and_false]
 ·intro v x p
  obtain ⟨pos,kw⟩:=x
  rcases pos with _ | ⟨u,_ | ⟨u',_ | ⟨u'',r⟩⟩⟩
  ·rfl
  all_goals
   show (Builtin.Bytes.sameRef u v && Builtin.Bytes.decodersThatHold.contains "bytearray.__setitem__")=false
   rw [Tz,Bool.and_false]
noncomputable def Re:Value→Code×Pos→Bool:=Di.choose
noncomputable def Dz (c:Code):Prop:=∀ v p,Re v (c,p)=false
noncomputable def Py (l:List (Code×Pos)):Prop:=∀ x∈l,Dz x.1
theorem DJ {c:Code} (h:∀ id x,c≠ .builtin id x):Dz c:=fun v p=>Di.choose_spec.2.1 v c p h
theorem O9 (x:Args):Dz (.builtin "type.__call__" x):=fun v p=>Di.choose_spec.2.2.1 v x p
theorem Pa:Dz (.builtin "claim.caller" {}):=fun v p=>Di.choose_spec.2.2.2.1 v p
theorem Pc (x:Args):Dz (.builtin "bytearray.__init__" x):=fun v p=>Di.choose_spec.2.2.2.2.1 v x p
theorem Pb (x:Args):Dz (.builtin "bytearray.__setitem__" x):=fun v p=>Di.choose_spec.2.2.2.2.2 v x p
noncomputable def wpN {α:Type} (M:Model) (A:Around) (t:Sem α) (Q:α→Shared→Prop) (E:Value→Shared→Prop) (s:Shared):Prop :=
 ∀ (Γ:Ctx) (p:Pos),Γ.In A→Dz Γ.code→Py Γ.below→Sem.wp M Γ t (fun a U s'=>Q a s') (fun e U s'=>E e s') p s
noncomputable def C0 (M:Model) (A:Around) (c:Code) (R:Result→Shared→Prop) (s:Shared):Prop :=
 ∀ (Γ:Ctx) (p:Pos),Γ.code=c→Γ.Below A→Py Γ.below→wpCode M Γ R p s
section
variable {α β:Type} {M:Model} {A:Around} {E:Value→Shared→Prop} {s:Shared}
theorem Ak {t:Sem α} {Q:α→Shared→Prop} (h:wpAny M A t Q E s):wpN M A t Q E s:=fun Γ p i _ _=>h Γ p i
theorem IO {c:Code} {R:Result→Shared→Prop} (h:codeAny M A c R s):C0 M A c R s:=fun Γ p e b _=>h Γ p e b
theorem Am {a:α} {Q:α→Shared→Prop} (h:Q a s):wpN M A (pure a) Q E s:=fun U U U U U=>h
theorem wpN_mono {t:Sem α} {Q Q':α→Shared→Prop} {E':Value→Shared→Prop} (h:wpN M A t Q E s) (hQ:∀ a s,Q a s→Q' a s) (hE:∀ e s,E e s→E' e s):wpN M A t Q' E' s :=
 fun Γ p i c l=>Sem.wp_mono M Γ t (fun a U s=>hQ a s) (fun e U s=>hE e s) p s (h Γ p i c l)
theorem Aa {m:Sem α} {f:α→Sem β} {Q:β→Shared→Prop} (h:wpN M A m (fun a s'=>wpN M A (f a) Q E s') E s):wpN M A (m >>= f) Q E s:=fun Γ p i c l=>by
 rw [Sem.wp_bind']
 exact Sem.wp_mono M Γ m (fun a p' s' h'=>h' Γ p' i c l) (fun U U U h'=>h') p s (h Γ p i c l)
theorem Ba {vs:List Value} {m:Sem α} {Q:α→Shared→Prop} (h:wpN M A m Q E s):wpN M A (holding vs m) Q E s:=fun Γ p i c l=>by rw [Sem.wp_holding]; exact h Γ p i c l
theorem Dn {m:Sem α} {k:Value→Sem Unit} {Q:α→Shared→Prop} (h:wpN M A m Q (fun U U=>False) s):wpN M A (m.onRaise k) Q E s:=fun Γ p i c l=>by
 rw [Sem.wp_onRaise]
 exact Sem.wp_mono M Γ m (fun U U U h'=>h') (fun e p' s' h'=>h'.elim) p s (h Γ p i c l)
theorem Ax {q:Pos} {Q:Unit→Shared→Prop} (h:Q () s):wpN M A (standAt q) Q E s:=Ak (wpAny_standAt h)
theorem PA {c:Code} {Q:Flow→Shared→Prop} (hc:C0 M (A.mark none) c (fun r s'=>match r with | .ok f=>Q f s' | .error e=>E e s') s):wpN M A (run c none) Q E s:=fun Γ p i cc l=>by
 rw [Sem.wp_run]
 exact hc _ p rfl (i.enter c none p (by intro x; cases x)) fun x hx=>by
  rcases List.mem_cons.mp hx with z | z
  ·rw [z]; exact cc
  ·exact l x z
theorem Ci {c:Code} {Q:Value→Shared→Prop} (hc:C0 M A c (fun r s'=>match r with | .ok (.ret v)=>Q v s' | .ok _=>False | .error e=>E e s') s):wpN M A (runValue c) Q E s:=fun Γ p i cc l=>by
 rw [Sem.wp_runValue]
 exact hc _ p rfl (i.enter c none p (by intro x; cases x)) fun x hx=>by
  rcases List.mem_cons.mp hx with z | z
  ·rw [z]; exact cc
  ·exact l x z
theorem B8 {c:Code} {R:Result→Shared→Prop} (cc:Dz c)
  (h:wpN M (A.under c) (M.den c) (fun fin s'=>match fin with | .done f=>R (.ok f) s' | .again c'=>c'.quiet=true∧C0 M A c' R s') (fun e s'=>R (.error e) s') s):C0 M A c R s:=fun Γ p hc hΓ l=>by
 rw [wpCode_iff_wp,hc]
 refine Sem.wp_mono M Γ _ (fun fin p' s' h'=> ?_) (fun U U U h'=>h') p s (h Γ p (hc▸hΓ.in) (hc▸cc) l)
 cases fin with
 | done f=>exact h'
 | again c'=>exact ⟨h'.1,h'.2 (Γ.goto c') p' rfl (hΓ.goto c') l⟩
theorem LW {c:Code} {R R':Result→Shared→Prop} (h:C0 M A c R s) (hR:∀ r s,R r s→R' r s):C0 M A c R' s:=fun Γ p hc hΓ l=>wpCode_mono hR (h Γ p hc hΓ l)
theorem IT {v:Value} {Q:Bool→Shared→Prop} (h:Q false s):wpN M A (Builtin.Bytes.exported v) Q E s:=fun Γ p i cc l=>by
 rw [Di.choose_spec.1 v]
 show Q (((Γ.code,p)::Γ.below).any (Re v)) s
 have:((Γ.code,p)::Γ.below).any (Re v)=false:=by
  rw [List.any_eq_false]
  intro x hx
  rcases List.mem_cons.mp hx with z | z
  ·rw [z,cc v p]; decide
  ·have:=l x z v x.2
   rw [show x=(x.1,x.2) from rfl,this]; decide
 rw [this]; exact h
end
section
variable (w:World) (b:Heap)
noncomputable def NE (C:Cx) (t:Env→Sem Value) (ρ:LM) (σ:MS) (Q:MV→MS→Prop):Prop :=
 ∀ (A:Around) (env:Env) (s:Shared),CxOk C A env→St b σ s.heap→Loc b env ρ σ s.heap→wpN (model pw w) A (t env) (AC b σ s Q) noE s
noncomputable def NB (C:Cx) (t:Env→Sem Bool) (ρ:LM) (σ:MS) (Q:Bool→MS→Prop):Prop :=
 ∀ (A:Around) (env:Env) (s:Shared),CxOk C A env→St b σ s.heap→Loc b env ρ σ s.heap→wpN (model pw w) A (t env) (FU b σ s Q) noE s
noncomputable def NL (C:Cx) (t:Env→Sem (List Value)) (ρ:LM) (σ:MS) (Q:List MV→MS→Prop):Prop :=
 ∀ (A:Around) (env:Env) (s:Shared),CxOk C A env→St b σ s.heap→Loc b env ρ σ s.heap→wpN (model pw w) A (t env) (Nd b σ s Q) noE s
noncomputable def NS (C:Cx) (t:Env→Sem Flow) (ρ:LM) (σ:MS) (Q:MF→LM→MS→Prop):Prop :=
 ∀ (A:Around) (env:Env) (s:Shared),CxOk C A env→St b σ s.heap→Loc b env ρ σ s.heap→wpN (model pw w) A (t env) (Cy b env σ s Q) noE s
noncomputable def NC (d:Nat) (f:Value) (as:List MV) (σ:MS) (Q:MV→MS→Prop):Prop :=
 ∀ (A:Around) (s:Shared) (vs:List Value),Rm d A→St b σ s.heap→VRs b s.heap as vs→wpN (model pw w) A (call f vs) (AC b σ s Q) noE s
end
section
variable {w:World} {b:Heap} {C:Cx} {ρ:LM} {σ:MS}
theorem WE.n {t:Env→Sem Value} {Q:MV→MS→Prop} (h:WE w b C t ρ σ Q):NE w b C t ρ σ Q:=fun A env s c S L=>Ak (h A env s c S L)
theorem WB.n {t:Env→Sem Bool} {Q:Bool→MS→Prop} (h:WB w b C t ρ σ Q):NB w b C t ρ σ Q:=fun A env s c S L=>Ak (h A env s c S L)
theorem WL.n {t:Env→Sem (List Value)} {Q:List MV→MS→Prop} (h:WL w b C t ρ σ Q):NL w b C t ρ σ Q:=fun A env s c S L=>Ak (h A env s c S L)
theorem WS.n {t:Env→Sem Flow} {Q:MF→LM→MS→Prop} (h:WS w b C t ρ σ Q):NS w b C t ρ σ Q:=fun A env s c S L=>Ak (h A env s c S L)
theorem WC.n {d:Nat} {f:Value} {as:List MV} {Q:MV→MS→Prop} (h:WC w b d f as σ Q):NC w b d f as σ Q:=fun A s vs c S L=>Ak (h A s vs c S L)
theorem NB.go {σ₀:MS} {s₀ s:Shared} {A:Around} {env:Env} {t:Env→Sem Bool} {Q:Bool→MS→Prop} (h:NB w b C t ρ σ Q) (c:CxOk C A env) (S:St b σ s.heap) (L:Loc b env ρ σ s.heap) (e:Ev noX σ₀ s₀ σ s) :
  wpN (model pw w) A (t env) (FU b σ₀ s₀ Q) noE s:=wpN_mono (h A env s c S L) (fun U U g=>g.ev e) fun U U x=>x
theorem NS.go {Q:MF→LM→MS→Prop} {σ₀:MS} {s₀ s:Shared} {A:Around} {env:Env} {t:Env→Sem Flow} (h:NS w b C t ρ σ Q) (c:CxOk C A env) (S:St b σ s.heap) (L:Loc b env ρ σ s.heap) (e:Ev (BL env) σ₀ s₀ σ s) :
  wpN (model pw w) A (t env) (Cy b env σ₀ s₀ Q) noE s:=wpN_mono (h A env s c S L) (fun U U g=>g.ev e) fun U U x=>x
theorem NS.sub {Q:MF→LM→MS→Prop} {ρ':LM} {t:Env→Sem Flow} (h:NS w b C t ρ' σ Q) (s:Sub ρ' ρ):NS w b C t ρ σ Q:=fun A env s0 c S L=>h A env s0 c S (L.sub s)
section
variable {Q:MF→LM→MS→Prop}
theorem AZ {st:Stmt} {rest:List Stmt} (h:NS w b C (exec st) ρ σ fun mf ρ1 σ1=>match mf with | .next=>NS w b C (execs rest) ρ1 σ1 Q | f=>Q f ρ1 σ1):NS w b C (execs (st::rest)) ρ σ Q :=
 fun A env s c S L=>by
  rw [execs_cons]
  refine Aa (wpN_mono (h A env s c S L) (fun f s1 g_=>g_.elim fun mf ρ1 σ1 q r S1 L1 e1=> ?_) fun U U x=>x)
  cases mf with
  | next=>have r:f= .next:=r; subst r; exact NS.go q c S1 L1 e1
  | brk=>have r:f= .brk:=r; subst r; exact Am ⟨.brk,ρ1,σ1,q,rfl,S1,L1,e1⟩
  | cont=>have r:f= .cont:=r; subst r; exact Am ⟨.cont,ρ1,σ1,q,rfl,S1,L1,e1⟩
  | ret mv=>obtain ⟨v,rfl,r⟩:=r; exact Am ⟨.ret mv,ρ1,σ1,q,⟨v,rfl,r⟩,S1,L1,e1⟩
theorem nsW {st:Stmt} {rest:List Stmt} (h:WS w b C (exec st) ρ σ fun mf ρ1 σ1=>match mf with | .next=>NS w b C (execs rest) ρ1 σ1 Q | f=>Q f ρ1 σ1):NS w b C (execs (st::rest)) ρ σ Q:=AZ h.n
theorem Jd {t:Expr} {x y:List Stmt} {pos:Pos} (h:NB w b C (tst t) ρ σ fun bb σ1=>if bb=true then NS w b C (execs x) ρ σ1 Q else NS w b C (execs y) ρ σ1 Q):NS w b C (exec (.If t x y pos)) ρ σ Q :=
 fun A env s c S L=>by
  rw [exec_If]
  refine Aa (Ax (Aa (wpN_mono (h A env s c S L) (fun bb s1 g_=>g_.elim fun σ1 h1 S1 e1=> ?_) fun U U x=>x)))
  cases bb
  ·exact NS.go h1 c S1 (e1.loc S L) e1.lift
  ·exact NS.go h1 c S1 (e1.loc S L) e1.lift
theorem LE {e:Expr} {pos:Pos} (h:NE w b C (eval e) ρ σ fun U σ1=>Q .next ρ σ1) (hs:∀ env,swapsWith e none pos.line env=pure false:=by intro _; rfl):NS w b C (exec (.Expr e pos)) ρ σ Q :=
 fun A env s c S L=>by
  rw [exec_Expr env e pos (Ky c.kind) (hs env)]
  exact Aa (Ax (Aa (wpN_mono (h A env s c S L) (fun v s1 g_=>g_.elim fun mv σ1 q r S1 e1=>Ak (wpAny_dropValue ⟨.next,ρ,σ1,q,rfl,S1,e1.loc S L,e1.lift⟩)) fun U U x=>x)))
theorem RT {e:Expr} {pos:Pos} (h:NE w b C (eval e) ρ σ fun mv σ1=>Q (.ret mv) ρ σ1):NS w b C (exec (.Return (some e) pos)) ρ σ Q :=
 fun A env s c S L=>by
  rw [exec_Return_some]
  exact Aa (Ax (Aa (wpN_mono (h A env s c S L) (fun v s1 g_=>g_.elim fun mv σ1 q r S1 e1=>Am ⟨.ret mv,ρ,σ1,q,⟨v,rfl,r⟩,S1,e1.loc S L,e1.lift⟩) fun U U x=>x)))
theorem Kj {x:Str} {p pos:Pos} {e:Expr} (h:NE w b C (eval e) ρ σ fun mv σ1=>Q .next (ρ.set x mv) σ1) (hk:AX C x=true:=by first | rfl | decide +kernel)
  (hs:∀ env,swapsWith e (some (.Name x p)) pos.line env=pure false:=by intro _; rfl):NS w b C (exec (.Assign [.Name x p] e pos)) ρ σ Q :=
 fun A env s c S L=>by
  rw [exec_Assign_Name env x p e pos (hs env)]
  exact Aa (Ax (Aa (wpN_mono (h A env s c S L) (fun v s1 g_=>g_.elim fun mv σ1 q r S1 e1=>Aa (Ax (Aa (Ak (wpAny_bindName
   (CB c S1 (e1.loc S L) hk r fun s' S' L' e'=>Am ⟨.next,_,σ1,q,rfl,S',L',e1.lift.trans e'⟩)))))) fun U U x=>x)))
theorem QT {o e:Expr} {x:Str} {p pos:Pos} (h:NE w b C (eval e) ρ σ fun v σ1=>WE w b C (eval o) ρ σ1 fun mo σ2=>WT w b C.d x mo v σ2 fun σ3=>Q .next ρ σ3)
  (hs:∀ env,swapsWith e (some (.Attribute o x p)) pos.line env=pure false:=by intro _; rfl):NS w b C (exec (.Assign [.Attribute o x p] e pos)) ρ σ Q:=fun A env s c S L=>by
 rw [plainObj_exec_Assign_Attribute o x p e pos (hs env)]
 refine Aa (Ax (Aa (wpN_mono (h A env s c S L) (fun v s1 g_=>g_.elim fun mv σ1 h1 r1 S1 e1=> ?_) fun U U x=>x)))
 rw [assign_Attribute]
 have L1:=e1.loc S L
 refine Aa (Aa (Ak (wpAny_holding (wpAny_mono (h1 A env s1 c S1 L1) (fun ov s2 g_=>g_.elim fun mo σ2 h2 r2 S2 e2=> ?_) fun U U x=>x))))
 refine Aa (Ax (Aa (Ak (wpAny_holding (wpAny_mono (h2 A s2 ov v c.room S2 r2 (e2.vr S1 (AG _) r1)) (fun U s3 g_=> ?_) fun U U x=>x)))))
 refine Br g_ fun σ3 q S3 e3=> ?_
 refine Ak (fun Γ p U=> ?_)
 rw [Sem.wp_release]
 exact Am (Q:=Cy b env σ s Q) ⟨.next,ρ,σ3,q,rfl,S3,e3.loc S2 (e2.loc S1 L1),(e1.trans (e2.trans e3)).lift⟩
theorem Oo {o i e:Expr} {p pos:Pos} (h:NE w b C (eval e) ρ σ fun v σ1=>WE w b C (eval o) ρ σ1 fun mo σ2=>WE w b C (eval i) ρ σ2 fun mi σ3=>WSt w b C.d mo mi v σ3 fun σ4=>Q .next ρ σ4)
  (hs:∀ env,swapsWith e (some (.Subscript o i p)) pos.line env=pure false:=by intro _; rfl):NS w b C (exec (.Assign [.Subscript o i p] e pos)) ρ σ Q:=fun A env s c S L=>by
 rw [exec_Assign_Subscript o i p e pos (hs env)]
 refine Aa (Ax (Aa (wpN_mono (h A env s c S L) (fun v s1 g_=>g_.elim fun mv σ1 h1 r1 S1 e1=> ?_) fun U U x=>x)))
 rw [assign_Subscript]
 have L1:=e1.loc S L
 refine Aa (Aa (Ak (wpAny_holding (wpAny_mono (h1 A env s1 c S1 L1) (fun ov s2 g_=>g_.elim fun mo σ2 h2 r2 S2 e2=> ?_) fun U U x=>x))))
 refine Aa (Ak (wpAny_holding (wpAny_mono (h2 A env s2 c S2 (e2.loc S1 L1)) (fun iv s3 g_=>g_.elim fun mi σ3 h3 r3 S3 e3=> ?_) fun U U x=>x)))
 refine Aa (Ax (Aa (Ak (wpAny_holding (wpAny_mono (h3 A s3 ov iv v c.room S3 (e3.vr S2 (AG _) r2) r3 ((e2.trans e3).vr S1 (AG _) r1)) (fun U s4 g_=> ?_) fun U U x=>x)))))
 refine Br g_ fun σ4 q S4 e4=> ?_
 refine Ak (fun Γ p U=> ?_)
 rw [Sem.wp_release]
 exact Am (Q:=Cy b env σ s Q) ⟨.next,ρ,σ4,q,rfl,S4,e4.loc S3 (e3.loc S2 (e2.loc S1 L1)),(e1.trans (e2.trans (e3.trans e4))).lift⟩
theorem PQ {elts:List Expr} {k:Nat} {tp pos:Pos} {e:Expr} (xs:List Str) (h:NE w b C (eval e) ρ σ fun mv σ1=>∃ vs,mv= .tup vs∧vs.length=xs.length∧Q .next (ρ.sets (xs.reverse.zip vs.reverse)) σ1)
  (hw:swappedStores [.Tuple elts k tp] e (EB C.names)=pure (some xs):=by rfl) (hk:(xs.all fun x=>AX C x)=true:=by first | rfl | decide +kernel)
  (hs:∀ env,swapsWithSole [.Tuple elts k tp] e pos.line env=pure false:=by intro _; rfl) :
  NS w b C (exec (.Assign [.Tuple elts k tp] e pos)) ρ σ Q:=fun A env s c S L=>by
 rw [exec_Assign,hs env]
 refine Aa (Ax (Aa (Am ?_)))
 rw [if_neg (by decide)]
 refine Aa (wpN_mono (h A env s c S L) (fun v s1 g_=>g_.elim fun mv σ1 q0_ r1 S1 e1=>Br q0_ fun vs hv hl q=> ?_) fun U U x=>x)
 rw [(Ei c.kind c.names).trans hw]
 refine Ak (wpAny_bind (wpAny_pure ?_))
 show wpAny (model pw w) A (do rule "assign.swapped-stores"; let items←unpackItems v xs.length none; assignInOrder (xs.reverse.map fun n=>bindName env n) items.reverse; pure Flow.next) (Cy b env σ s Q) noE s1
 subst hv
 refine BD r1 fun a items e_2 ht rs=> ?_
 subst e_2
 have L1:=e1.loc S L
 have hsz:xs.length=items.size:=by rw [← hl,←AH rs]; rfl
 rw [hsz]
 refine wpAny_bind (wpAny_rule (wpAny_bind (unpackItems_tuple c.room.handled ht fun h' hx=> ?_)))
 have kp:∀ x o,s1.heap.get? x=some o→h'.get? x=some o:=fun x o e=>hx x o (Nat.ne_of_lt (Heap.lt_size e)) e
 have e2:Ev noX σ1 s1 σ1 {s1 with heap:=h'}:=Ev.grow rfl rfl kp
 refine wpAny_bind (Ek (xs:=xs.reverse) (ρ:=ρ) Gs (ms:=vs.reverse) (by simp [hl]) (by rw [List.all_reverse]; exact hk) c (S1.grow kp) (e2.loc S1 L1) (e2.vrs S1 (AG _) (Mp rs)) fun s3 S3 L3 e3=>wpAny_pure ⟨.next,_,σ1,q,rfl,S3,L3,(e1.trans e2).lift.trans e3⟩)
end
section
variable {Q:MV→MS→Prop}
theorem LF {pos:Pos} {e:Expr} {es:List Expr} {Q:List MV→MS→Prop} (h:NE w b C (eval e) ρ σ fun v σ1=>NL w b C (AT pos es) ρ σ1 fun vs σ2=>Q (v::vs) σ2)
  (hs:∀ env,starEach (e::es) env=(false,eval e env)::starEach es env:=by intro _; rfl):NL w b C (AT pos (e::es)) ρ σ Q:=fun A env s c S L=>by
 show wpN _ A (spliced (backTo pos (starEach (e::es) env))) _ _ s
 rw [hs]
 show wpN _ A (spliced ((false,eval e env)::backTo pos (starEach es env))) _ _ s
 rw [spliced]
 refine Aa (wpN_mono (h A env s c S L) (fun v s1 g_=>g_.elim fun mv σ1 h1 r1 S1 e1=> ?_) fun U U x=>x)
 dsimp only [Bool.false_eq_true,if_false]
 exact Aa (Am (Aa (Ba (wpN_mono (h1 A env s1 c S1 (e1.loc S L)) (fun vs s2 g_=>g_.elim fun mvs σ2 q r2 S2 e2=>Am ⟨mv::mvs,σ2,q,⟨v,vs,rfl,e2.vr S1 (AG _) r1,r2⟩,S2,e1.trans e2⟩) fun U U x=>x))))
theorem nlW {pos:Pos} {e:Expr} {es:List Expr} {Q:List MV→MS→Prop} (h:WE w b C (eval e) ρ σ fun v σ1=>NL w b C (AT pos es) ρ σ1 fun vs σ2=>Q (v::vs) σ2)
  (hs:∀ env,starEach (e::es) env=(false,eval e env)::starEach es env:=by intro _; rfl):NL w b C (AT pos (e::es)) ρ σ Q:=LF h.n hs
theorem Hy {A:Around} {env:Env} {s:Shared} {pos:Pos} {f:Value} {es:List Expr} {P:Args→Shared→Prop} (hs:(starEach es env).all (fun x=> !x.1)=true)
  (h:wpN (model pw w) A (AT pos es env) (fun vs s'=>P ⟨vs,[]⟩ s') noE s):wpN (model pw w) A (evalArgs f true (backTo pos (starEach es env)) []) P noE s:=by
 cases q:starEach es env with
 | nil =>
  have h:wpN (model pw w) A (spliced (backTo pos (starEach es env))) (fun vs s'=>P ⟨vs,[]⟩ s') noE s:=h
  rw [q] at h
  exact h
 | cons x r =>
  obtain ⟨st,t⟩:=x
  rw [q,List.all_cons,Bool.and_eq_true] at hs
  have h1:st=false:=by cases st <;> first | rfl | simp at hs
  subst h1
  have h:wpN (model pw w) A (spliced (backTo pos (starEach es env))) (fun vs s'=>P ⟨vs,[]⟩ s') noE s:=h
  rw [q] at h
  show wpN _ A (evalArgs f true ((false,t)::backTo pos r) []) P noE s
  unfold evalArgs
  show wpN _ A (spliced ((false,t)::backTo pos r) >>= _) P noE s
  refine Aa (wpN_mono h (fun vs s' h'=> ?_) fun U U x=>x)
  refine Ba ?_
  exact Aa (Am (Aa (Am (Am h'))))
theorem HK {A:Around} {s:Shared} {pos:Pos} {f:Value} {first:List Value} {as:List (Bool×Sem Value)} {P:Value→Shared→Prop} (hk:Dv w b f) (hpl:as.any (·.1)=false)
  (h:wpN (model pw w) A (evalArgs f true as []) (fun x s1=>x.kw=[]∧(∀ a o,b.get? a=some o→s1.heap.get? a=some o)∧wpN (model pw w) A (call f (first++x.pos) []) P noE s1) noE s) :
  wpN (model pw w) A (callWith pos f first as []) P noE s:=by
 unfold callWith
 refine Aa (Ba (wpN_mono h (fun x s1 q0_=>CG q0_ fun hkw st h1=>Aa (Ax ?_)) fun U U x=>x))
 have tail:∀ {t:Sem Value},wpN (model pw w) A t P noE s1→wpN (model pw w) A (t >>= fun r=>holding [r] point >>= fun U=>pure r) P noE s1 :=
  fun ht=>Aa (wpN_mono ht (fun r s2 hr=>Ak (wpAny_bind (wpAny_holding (wpAny_point (wpAny_pure hr))))) fun U U x=>x)
 rw [show (as.any (·.1) || ([]:List (Option Str×Sem Value)).any (·.1.isNone))=false by rw [hpl]; rfl,hkw]
 refine Aa (Ak (hk A s1 _ st fun k=> ?_))
 have two:∀ {c:Prop} [Decidable c] {x y:Sem Value},wpN (model pw w) A x P noE s1→wpN (model pw w) A y P noE s1→wpN (model pw w) A (if c then x else y) P noE s1:=fun h k=>by split <;> assumption
 cases k
 ·exact two (tail h1) (tail (by unfold callMarked; exact fun Γ p hΓ cc cl=>by rw [Sem.wp_keep]; exact h1 Γ p hΓ cc cl))
 ·exact two (tail h1) (tail (by unfold callMarked; exact fun Γ p hΓ cc cl=>by rw [Sem.wp_keep]; exact h1 Γ p hΓ cc cl))
 ·exact tail h1
 ·exact tail (fun Γ p hΓ cc cl=>by rw [Sem.wp_operate]; exact h1 Γ p hΓ cc cl)
theorem Ji {fe:Expr} {es:List Expr} {pos:Pos} (h:WE w b C (eval fe) ρ σ fun f σ1=>∃ u,f= .raw u∧Dv w b u∧NL w b C (AT pos es) ρ σ1 fun as σ2=>NC w b C.d u as σ2 Q)
  (he:∀ env,eval (.Call fe es [] pos) env=(do callWith pos (← eval fe env) [] (backTo pos (starEach es env)) []):=by intro _; rfl)
  (hs:∀ env,(starEach es env).all (fun x=> !x.1)=true:=by intro _; rfl) (hs':∀ env,(backTo pos (starEach es env)).any (·.1)=false:=by intro _; rfl) :
  NE w b C (eval (.Call fe es [] pos)) ρ σ Q:=fun A env s c S L=>by
 rw [he]
 refine Aa (Ak (wpAny_mono (h A env s c S L) (fun f s1 g_=>g_.elim fun mf σ1 q0_ r1 S1 e1=>Br q0_ fun u hu hk h1=> ?_) fun U U x=>x))
 subst hu
 have r1:f=u:=r1
 subst r1
 refine HK hk (hs' env) (Hy (hs env) (wpN_mono (h1 A env s1 c S1 (e1.loc S L)) (fun vs s2 g_=>g_.elim fun mvs σ2 q r2 S2 e2=>⟨rfl,S2.stays,?_⟩) fun U U x=>x))
 exact wpN_mono (q A s2 vs c.room S2 r2) (fun U U g=>(g.ev e2).ev e1) fun U U x=>x
theorem DS {o:Expr} {x:Str} {ap pos:Pos} {es:List Expr} (h:WE w b C (eval o) ρ σ fun mv σ1=>∃ f first,GM w b x mv σ1 f first∧Dv w b f∧NL w b C (AT pos es) ρ σ1 fun as σ2=>NC w b C.d f (first++as) σ2 Q)
  (he:∀ env,eval (.Call (.Attribute o x ap) es [] pos) env=(do
   let ov←eval o env
   standAt ap.atName
   let (f,first)←holding [ov] (getMethod ov x (do return (← importBound o env).getD true))
   let cp←pure pos
   callWith cp f first (backTo pos (starEach es env)) []):=by intro _; with_unfolding_all rfl)
  (hs:∀ env,(starEach es env).all (fun x=> !x.1)=true:=by intro _; rfl) (hs':∀ env,(backTo pos (starEach es env)).any (·.1)=false:=by intro _; rfl) :
  NE w b C (eval (.Call (.Attribute o x ap) es [] pos)) ρ σ Q:=fun A env s c S L=>by
 rw [he]
 refine Aa (Ak (wpAny_mono (h A env s c S L) (fun ov s1 g_=>g_.elim fun mv σ1 q0_ r1 S1 e1=>BD q0_ fun f first hg hk h1=> ?_) fun U U x=>x))
 refine Aa (Ax (Aa (Ba (Ak (hg A s1 ov _ _ S1 r1 fun fv n rf=> ?_)))))
 have t1:Ev noX σ1 s1 σ1 {s1 with toks:=n}:=Ev.toks ..
 have L1:Loc b env ρ σ1 {s1 with toks:=n}.heap:=e1.loc S L
 refine Aa (Am (HK hk (hs' env) (Hy (hs env) (wpN_mono (h1 A env {s1 with toks:=n} c S1 L1) (fun vs s2 g_=>g_.elim fun mvs σ2 q r2 S2 e2=>⟨rfl,S2.stays,?_⟩) fun U U x=>x))))
 exact wpN_mono (q A s2 (fv++vs) c.room S2 (BI (e2.vrs (s:={s1 with toks:=n}) S1 (AG _) rf) r2)) (fun U U g=>(g.ev e2).ev (e1.trans t1)) fun U U x=>x
theorem RX {op:CmpOp} {l r:Expr} {pos:Pos} (h:NE w b C (eval l) ρ σ fun va σ1=>WE w b C (eval r) ρ σ1 fun vb σ2=>WK w b C.d op va vb σ2 fun bb σ3=>Q (.bool bb) σ3)
  (hm:behindInMarks op r=false:=by with_unfolding_all rfl):NE w b C (eval (.Compare l [op] [r] pos)) ρ σ Q :=
 fun A env s c S L Γ p hΓ cc cl=>by
  rw [eval_Compare1,markedBehindIn_of_false hm]
  simp only [Sem.wp_bind',Sem.wp_holding,Sem.wp_cmd_standAt,Sem.wp_operate]
  refine Sem.wp_mono _ Γ _ (fun va p1 s1 q0_=>FG q0_ fun a σ1 h1 r1 S1 e1=>Sem.wp_mono _ Γ _ (fun vb p2 s2 ⟨b',σ2,h2,r2,S2,e2⟩=> ?_) (fun U U U h'=>h') _ _ (h1 A env s1 c S1 (e1.loc S L) Γ _ hΓ)) (fun U U U h'=>h') _ _ (h A env s c S L Γ _ hΓ cc cl)
  exact Sem.wp_mono _ Γ _ (fun v _ s3 ⟨bb,σ3,hv,q,S3,e3⟩=>by subst hv; exact ⟨_,σ3,q,rfl,S3,e1.trans (e2.trans e3)⟩) (fun U U U h'=>h') _ _ (h2 A s2 va vb c.room S2 (e2.vr S1 (AG _) r1) r2 Γ _ hΓ)
theorem RW {es:List Expr} {k:Nat} {pos:Pos} (h:NL w b C (AT pos es) ρ σ fun vs σ1=>Nat.ble vs.length 1000=true∧Q (.tup vs) σ1):NE w b C (eval (.Tuple es k pos)) ρ σ Q:=fun A env s c S L=>by
 rw [arm_eval_Tuple]
 refine Aa (Ax (Aa (wpN_mono (h A env s c S L) (fun vs s1 g_=>g_.elim fun mvs σ1 q0_ r1 S1 e1=>And.elim (fun hl q=> ?_) q0_) fun U U x=>x)))
 refine CG (MH S1 r1) fun r2 S2 e2=> ?_
 exact Ak (wpAny_newTuple ⟨_,_,q,r2,S2,e1.trans e2⟩ (by have:=AH r1; have:=Nat.le_of_ble_eq_true hl; rw [sizeLine_eq]; exact Nat.le_of_lt (Nat.lt_of_le_of_lt (Nat.le_of_eq ‹_›) (Nat.lt_of_le_of_lt this (by decide)))))
end
section
variable {Q:Bool→MS→Prop}
theorem Qv {x:Expr} {pos:Pos} (h:NB w b C (tst x) ρ σ fun bb σ1=>Q (!bb) σ1):NB w b C (tst (.UnaryOp .Not x pos)) ρ σ Q:=fun A env s c S L=>by
 show wpN _ A (isTrue (.UnaryOp .Not x pos) env _) _ _ s
 rw [arm_isTrue_UnaryOp]
 exact Aa (wpN_mono (h A env s c S L) (fun U U g=>Am g) fun U U x=>x)
theorem Qu {e:Expr} (h:NE w b C (eval e) ρ σ fun mv σ1=>∃ bb,mv= .bool bb∧Q bb σ1)
  (he:∀ env whole,isTrue e env whole=(do let v←whole; standAt e.pos; holding [v] (truthy v)):=by intro _ _; rfl):NB w b C (tst e) ρ σ Q:=fun A env s c S L=>by
 show wpN _ A (isTrue e env _) _ _ s
 rw [he]
 refine Aa (wpN_mono (h A env s c S L) (fun v s1 g_=>g_.elim fun mv σ1 q0_ r1 S1 e1=>Af q0_ fun bb hb q=> ?_) fun U U x=>x)
 subst hb
 have r1:v= .bool bb:=r1
 subst r1
 exact Ak (wpAny_bind (wpAny_standAt (wpAny_holding (wpAny_truthy_bool ⟨σ1,q,S1,e1⟩))))
theorem SV {es:List Expr} {pos:Pos} (h:NB w b C (allTrue .Or es) ρ σ Q):NB w b C (tst (.BoolOp .Or es pos)) ρ σ Q:=fun A env s c S L=>by
 show wpN _ A (isTrue (.BoolOp .Or es pos) env _) _ _ s
 rw [arm_isTrue_BoolOp]
 exact h A env s c S L
theorem Os {e:Expr} {es:List Expr} (h:NB w b C (tst e) ρ σ fun bb σ1=>if bb=true then Q true σ1 else NB w b C (allTrue .Or es) ρ σ1 Q):NB w b C (allTrue .Or (e::es)) ρ σ Q:=fun A env s c S L=>by
 show wpN _ A (do match BoolOp.Or,←isTrue e env (eval e env) with | .And,false=>pure false | .Or,true=>pure true | _,_=>allTrue .Or es env) _ _ s
 refine Aa (wpN_mono (h A env s c S L) (fun bb s1 g_=>g_.elim fun σ1 h1 S1 e1=> ?_) fun U U x=>x)
 cases bb
 ·exact NB.go h1 c S1 (e1.loc S L) e1
 ·exact Am ⟨σ1,h1,S1,e1⟩
end
end
section
variable {prog:Program} {w:World} {A:Around} {E:Value→Shared→Prop} {s:Shared} {env:Env}
theorem EW {a:Addr} {AT:Args} {o:Obj} {fd:FuncData} {body:List Stmt} {R:Result→Shared→Prop} (hroom:A.depth < recursionLimit)
  (ho:s.heap.get? a=some o)
  (hd':o.data= .func fd) (hco:fd.scope.isCoroutine=false) (hgen:fd.scope.isGenerator=false) (hbody:fd.body= .stmts body) (hcd:s.heap.CodeRec fd.code fd.qualname)
  (h:wpAny (model prog w) A.in1 (bindArgs fd AT) (fun binds s₁ =>
   wpAny (model prog w) A.in1 (newFunctionEnv fd.scope fd.globals fd.closure binds (fd.qualname++".<locals>.") (some a) fd.code none fd.builtins)
    (fun env s₂=>s₂.heap.NoLimit∧C0 (model prog w) A (.func body env) R s₂) (fun e s'=>R (.error e) s') s₁) (fun e s'=>R (.error e) s') s) :
  C0 (model prog w) A (.call (.ref a) AT) R s:=by
 refine B8 (DJ fun U U e=>by cases e) ?_
 refine Ak ?_
 show wpAny _ A.in1 (callAny (.ref a) AT) _ _ s
 unfold callAny
 refine wpAny_bind (wpAny_load ho ?_)
 refine hide fun P_ k_=> ?_
 refine To hcd fun c oc vs tq hc hoc hdc hq=> ?_
 refine k_ ?_
 simp only [hd',callFunction,hco,hgen,hbody,hc]
 rw [hc] at h
 refine wpAny_bind (m:=field (.ref c) 1) (wpAny_field hoc hdc hq (wpAny_bind (wpAny_pure ?_)))
 exact wpAny_bind (wpAny_mono h (fun binds s₁ h₁=>wpAny_bind (wpAny_mono h₁ (fun env s₂ h₂=>wpAny_bind (wpAny_enterFrame h₂.1 hroom
  (wpAny_pure (And.intro rfl h₂.2)))) fun U U h'=>h')) fun U U h'=>h')
theorem LY {body:List Stmt} {R:Result→Shared→Prop}
  (h:wpN (model prog w) (A.deeper env) (execs body env) (fun f s'=>R (.ok (.ret (match f with | .ret v=>v | _=> .none))) s') (fun U U=>False) s) :
  C0 (model prog w) A (.func body env) R s:=by
 refine B8 (DJ fun U U e=>by cases e) ?_
 show wpN _ (A.deeper env) (do point; match←(execs body env).onRaise (leaving env) with | .ret v=>ret v | _=>ret .none) _ _ s
 refine Aa (Ak (wpAny_point (Aa (Dn (wpN_mono h (fun f s' h'=> ?_) fun U U h'=>h')))))
 cases f <;> exact Am h'
theorem PB {target:Expr} {iter:Expr} {body:List Stmt} {orelse:List Stmt} {pos:Pos} {Q:Flow→Shared→Prop}
  (h:wpAny (model prog w) A (eval iter env) (fun x s₁=>wpAny (model prog w) A (pyIter x) (fun it s₂ =>
   C0 (model prog w) A (.forLoop target it body orelse env) (fun r s'=>match r with | .ok f=>Q f s' | .error e=>False) s₂) noE s₁) noE s)
  (hs:∀ x,foldedSetIterable iter env x=pure x:=by intro _; rfl) :
  wpN (model prog w) A (exec (.For target iter body orelse pos) env) Q E s:=by
 rw [exec_For]
 refine Aa (Ax (Aa (Ak (wpAny_mono h (fun x s₁ h₁=> ?_) fun U U h'=>h'.elim))))
 rw [hs x]
 refine Aa (Am (Aa (Ax (Aa (Ak (wpAny_holding (wpAny_mono h₁ (fun it s₂ h₂=> ?_) fun U U h'=>h'.elim)))))))
 unfold runOwn
 refine Dn (PA (LW h₂ fun r s' h'=> ?_))
 cases r with
 | ok f=>exact h'
 | error e=>exact h'
theorem LX {c:Code} {R:Result→Shared→Prop} (cc:Dz c) (hq:c.quiet=true) (I:Nat→Shared→Prop)
  (turn:∀ n s,I n s→wpN (model prog w) (A.under c) ((model prog w).den c)
   (fun fin s'=>match fin with
    | .done f=>R (.ok f) s'
    | .again c'=>(c'=c∧∃ m,m < n∧I m s')∨(c'.quiet=true∧C0 (model prog w) A c' R s')) (fun e s'=>R (.error e) s') s)
  (n:Nat) (h:I n s):C0 (model prog w) A c R s:=by
 induction n using Nat.strongRecOn generalizing s with
 | ind n ih =>
  refine B8 cc (wpN_mono (turn n s h) (fun fin s' hf=> ?_) fun U U h'=>h')
  cases fin with
  | done f=>exact hf
  | again c' =>
   rcases hf with ⟨rfl,m,hm,hI⟩ | hf
   ·exact ⟨hq,ih m hm hI⟩
   ·exact hf
theorem Ii {R:Result→Shared→Prop} {target:Expr} {it:Value} {body orelse:List Stmt} {env:Env} (I:Nat→Shared→Prop)
  (turn:∀ n s,I n s→wpAny (model prog w) A (pyNext it) (fun r s₁=>match r with
   | none=>wpAny (model prog w) A (execs orelse env) (fun f s₃=>R (.ok f) s₃) noE s₁
   | some v=>wpAny (model prog w) A (letOwnedTupleGo target it v) (fun U s₁' =>
     wpAny (model prog w) A (assign target env v) (fun U s₂=>wpN (model prog w) A (execs body env) (fun f s₃=>match f with
      | .next | .cont=>∃ m,m < n∧I m s₃
      | .brk=>R (.ok .next) s₃
      | .ret v=>R (.ok (.ret v)) s₃) noE s₂) noE s₁') noE s₁) noE s)
  (n:Nat) (h:I n s):C0 (model prog w) A (.forLoop target it body orelse env) R s:=by
 refine LX (DJ fun U U e=>by cases e) rfl I (fun n s hI=> ?_) n h
 show wpN _ A ((forTurn target it body orelse env).onRaise (fun x=>do noteFrame x env; theTreesLotGoes x)) _ _ s
 refine Dn ?_
 unfold forTurn
 refine Aa (Ax (Aa (Dn (Ak (wpAny_mono (turn n s hI) (fun r s₁ h₁=> ?_) fun U U h'=>h')))))
 cases r with
 | none=>exact Am (.inr ⟨rfl,IO (codeAny_block (wpAny_mono h₁ (fun U U z=>z) fun U U h'=>h'.elim))⟩)
 | some v =>
  refine Aa (Ak (wpAny_mono h₁ (fun U s₁' h₁'=> ?_) fun U U h'=>h'))
  refine Aa (Ak (wpAny_mono h₁' (fun U s₂ h₂=>Aa (wpN_mono h₂ (fun f s₃ h₃=> ?_) fun U U h'=>h')) fun U U h'=>h'))
  cases f with
  | next=>exact Am (.inl ⟨rfl,h₃⟩)
  | cont=>exact Am (.inl ⟨rfl,h₃⟩)
  | brk=>exact Am h₃
  | ret v=>exact Am h₃
end
section
variable {w:World} {b:Heap}
theorem SP (hB:BaseOk w b) {f:Addr} {D:Stmt} {qual:Str} {dflt mod:Value} {code:Addr} {d:Nat} {as dv:List MV} {σ:MS} {Q:MV→MS→Prop} (pn:List Str)
  (hf:(KF w.params).lookup f=some (Ag D qual dflt mod code)) (hc:(code,qual)∈HJ)
  (hbind:∀ (s:Shared) (vs:List Value),(∀ a o,b.get? a=some o→s.heap.get? a=some o)→VRs b s.heap as vs→∃ us,VRs b s.heap dv us∧BindsTo s (Ew D qual dflt mod code) ⟨vs,[]⟩ (pn.zip (vs++us)))
  (hkind:(pn.all fun x=>(An D).names.lookup x==some .local || (An D).names.lookup x==some .cell)=true) (hnd:pn.Nodup)
  (hk:(An D).kind= .function) (hco:(An D).isCoroutine=false) (hgen:(An D).isGenerator=false) (hd:1≤d)
  (h:NS w b ⟨(An D).names,d-1⟩ (execs (Dw D)) (pn.zip (as++dv)) σ fun mf U σ'=>Q mf.val σ'):NC w b d (.ref f) as σ Q:=fun A s vs rm S r=>by
 refine Ci ?_
 have hf':s.heap.get? f=some (Ag D qual dflt mod code):=S.stays _ _ (hB.top.K _ _ hf)
 have hlim:s.heap.NoLimit:=hB.lim.keeps S.stays
 refine Af (hbind s vs S.stays r) fun us rus hbi=> ?_
 refine EW (fd:=Ew D qual dflt mod code) (body:=Dw D) (by have:=rm.depth; show A.depth < recursionLimit; exact Nat.lt_of_add_right_lt this) hf' rfl hco hgen rfl ((hB.top.codes _ hc).keeps S.stays) ?_
 refine hbi _ _ _ _ (wpAny_newFunctionEnv_cells hk (fun x hx=> ?_) fun env he s1 ic=> ?_)
 ·have hx1:x.1∈pn:=(List.of_mem_zip hx).1
  have q:=List.all_eq_true.mp hkind x.1 hx1
  rcases Bool.or_eq_true_iff.mp q with q | q
  ·exact .inl (beq_iff_eq.mp q)
  ·refine .inr ⟨beq_iff_eq.mp q,?_⟩
   obtain ⟨c,hc⟩:=CJ (x:=x.1) (An D).names (s.heap.objs.size+1) [] (.inl (beq_iff_eq.mp q))
   show ((cellsFrom (s.heap.objs.size+1) (An D).names []).lookup x.1).isSome=true
   rw [hc]; rfl
 ·obtain ⟨ic0,cell,apart,above⟩:=ic
  obtain ⟨⟨h1,tk1,e1⟩,hns,keep,fresh⟩:=ic0
  have hL:env.locals=s.heap.objs.size:=by rw [he]; rfl
  have hcs:env.cells=cellsFrom (s.heap.objs.size+1) (An D).names []:=by rw [he]; rfl
  have hscope:env.scope=An D:=by rw [he]; rfl
  have hcge:∀ x c,env.cells.lookup x=some c→s.heap.objs.size≤c:=fun x c hc=>Nat.le_of_lt (hL▸above x c (PySem.mem_of_lookup hc))
  have S1:St b σ s1.heap:=S.grow keep
  have g1:s1.gens=s.gens:=by rw [e1]
  have o1:s1.os=s.os:=by rw [e1]
  have nfree:∀ a,s.heap.objs.size≤a→¬ AF σ a:=fun a l ow=>by
   obtain ⟨o,ho⟩:=Cd S ow
   rw [BG l] at ho; cases ho
  refine ⟨hlim.keeps keep,LY ?_⟩
  have cok:CxOk ⟨(An D).names,d-1⟩ (A.deeper env) env:=by
   refine ⟨by rw [hscope]; exact hk,by rw [hscope],by rw [he]; rfl,by rw [he]; rfl,⟨?_,?_,?_⟩,fun x hx=> ?_⟩
   ·have:=rm.depth
    show A.depth+1+(d-1) < recursionLimit
    exact rm3 hd this
   ·have:=rm.units
    show A.units+3+8*(d-1) < cLine
    exact rm4 hd this
   ·exact rm.handled
   ·rw [hcs]; exact CJ _ _ _ (.inl hx)
  have vz:VRs b s1.heap (as++dv) (vs++us):=(Ev.grow (σ:=σ) (X:=noX) g1 o1 keep).vrs S (AG _) (BI r rus)
  have ndz:((pn.zip (vs++us)).map (·.1)).Nodup:=hnd.sublist Eg
  have L1:Loc b env (pn.zip (as++dv)) σ s1.heap:=by
   refine ⟨fun x mv hx=> ?_,⟨_,hns⟩,S.low_new (BG (by rw [hL]; exact Nat.le_refl _)),nfree _ (by rw [hL]; exact Nat.le_refl _),fun x c hc=> ?_⟩
   ·refine Af (J0 vz hx) fun v hm rv=> ?_
    refine AQ v ?_ rv
    have hx1:x∈pn:=(List.of_mem_zip hm).1
    have q:=List.all_eq_true.mp hkind x hx1
    have kd:env.kindOf x=(An D).names.lookup x:=by unfold Env.kindOf; rw [hscope]
    rcases Bool.or_eq_true_iff.mp q with q | q
    ·have kl:env.kindOf x=some .local:=kd.trans (beq_iff_eq.mp q)
     exact .inl ⟨kl,_,hns,Le kl ndz hm⟩
    ·have kc:env.kindOf x=some .cell:=kd.trans (beq_iff_eq.mp q)
     obtain ⟨c,hc⟩:=cok.cellsIn x (beq_iff_eq.mp q)
     refine Af (cell x c hc) fun o ho hd=> ?_
     rw [HT (by rw [kc]; exact fun e=>nomatch e) ndz hm] at hd
     exact .inr ⟨.inl kc,c,o,hc,ho,hd⟩
   ·refine Af (cell x c hc) fun o ho hd=> ?_
    refine JB ⟨o,_,ho,hd⟩ (S.low_new (BG (hcge x c hc))) (nfree _ (hcge x c hc)) (fun y hy=> ?_)
    exact name_of_addr apart (PySem.mem_of_lookup hy) (PySem.mem_of_lookup hc)
  refine wpN_mono (h (A.deeper env) env s1 cok S1 L1) (fun fl s2 g_=>g_.elim fun mf ρ' σ' q rf S2 L2 e2=> ?_) fun U U x=>x.elim
  have fin:Ev noX σ s σ' s2:=by
   have e01:Ev (BL env) σ s σ s1:=Ev.grow g1 o1 keep
   have e02:=e01.trans e2
   refine ⟨e02.dom,e02.gens,e02.os,fun a o ho no U=>e02.keep a o ho no ?_,e02.new⟩
   rintro (z | ⟨x,hx⟩)
   ·rw [z,hL,BG (Nat.le_refl _)] at ho; cases ho
   ·rw [BG (hcge x a hx)] at ho; cases ho
  cases mf with
  | next=>have rf:fl= .next:=rf; subst rf; exact ⟨.none,σ',q,rfl,S2,fin⟩
  | brk=>have rf:fl= .brk:=rf; subst rf; exact ⟨.none,σ',q,rfl,S2,fin⟩
  | cont=>have rf:fl= .cont:=rf; subst rf; exact ⟨.none,σ',q,rfl,S2,fin⟩
  | ret mv=>obtain ⟨v,rfl,rv⟩:=rf; exact ⟨mv,σ',q,rv,S2,fin⟩
end
section
variable {w:World} {b:Heap} {C:Cx} {ρ:LM} {σ:MS} {Q:MF→LM→MS→Prop}
end
section
open PySem.SeqAt
open BF
theorem LG:mroOf (.type "bytearray")=pure [.type "bytearray",.type "object"]:=by rw [mroOf_type]; kernel_rfl
theorem Ia:typeLookup (.type "bytearray") "__new__"=pure (some (.builtin "bytearray.__new__")):=by rw [typeLookup_type,builtinLookup_eq_fast]; kernel_rfl
theorem C1:Slot "bytearray" "__init__" "bytearray.__init__" :=
 .of (owner:="bytearray") (n:="__init__") (by rw [typeLookup_type,builtinLookup_eq_fast]; kernel_rfl) (by decide +kernel) (by decide +kernel) (by decide +kernel)
  (by first | exact .inl (by decide +kernel) | exact .inr (by decide +kernel)) (by rw [isSubtype_type]; kernel_rfl)
theorem Cf:TypeCalled "bytearray" "bytearray.__new__" "bytearray.__init__" :=
 ⟨by decide +kernel,by decide +kernel,⟨_,_,LG⟩,madeBy_type LG Ia (by decide +kernel),by decide +kernel,by rw [isSubtype_type]; kernel_rfl,C1⟩
theorem H5 (a:Value):checkTypeCall "bytearray" ⟨[a],[]⟩=pure ():=by kernel_rfl
theorem Jh (a:Value):checkBuiltinCall "bytearray.__new__" ⟨[.type "bytearray",a],[]⟩=pure ():=by kernel_rfl
theorem JA:entryFor table "bytearray.__new__"=some Builtin.«list.__new__»:=entryFor_alias (id':="list.__new__") (by kernel_rfl) rfl (by decide +kernel) (by kernel_rfl)
theorem Ih:entryFor table "bytearray.__init__"=some Builtin.«bytearray.__init__»:=entryFor_of_tree (by kernel_rfl)
theorem JW (a c:Value):argsOk "bytearray.__init__" ⟨[a,c],[]⟩:=by unfold argsOk; kernel_rfl
set_option maxRecDepth 1000000 in
set_option maxHeartbeats 4000000 in
theorem Jb:("bytearray.__new__".splitOn ".__new__").headD ""="bytearray":=by simp +decide [String.splitOn,String.splitOnAux]
section
variable {w:World} {A:Around} {E:Value→Shared→Prop} {s:Shared}
theorem KX (a:Value) {Q₁:Value→Shared→Prop} (h:Q₁ (.ref s.heap.objs.size) {s with heap:=s.heap.push (Cw #[])}) :
  codeAny (model pw w) A (.call (.builtin "bytearray.__new__") ⟨[.type "bytearray",a],[]⟩) (wants Q₁ E) s:=by
 refine codeAny_of_tree ?_
 show wpAny _ A.in1 (do checkBuiltinCall "bytearray.__new__" ⟨[.type "bytearray",a],[]⟩; again (.builtin "bytearray.__new__" ⟨[.type "bytearray",a],[]⟩)) _ _ s
 refine wpAny_bind (wpAny_of_eq (Jh a) (wpAny_pure ⟨plainId_quiet Cf.plain _,codeAny_builtin_stack JA rfl fun p st=> ?_⟩))
 rw [Around.under_plainId Cf.plain _]
 have hsub:=FY
 have hown:=Jb
 obtain ⟨hp,g,d,tk,os⟩:=s
 simp only [hown]
 wp_walk
 exact h
theorem SQ {AT:List Value} {P:Fin→Shared→Prop} (hct:checkTypeCall "bytearray" ⟨AT,[]⟩=pure ())
  (h:wpN (model pw w) A (call (.builtin "bytearray.__new__") (.type "bytearray"::AT)) (fun obj s1=>s1.TypeIs obj "bytearray"∧wpN (model pw w) A (call (.builtin "bytearray.__init__") (obj::AT)) (fun r s2=>r= .none∧P (.done (.ret obj)) s2) noE s1) noE s):wpN (model pw w) A (Builtin.«type.__call__» ⟨.type "bytearray"::AT,[]⟩) P noE s:=by
 have h1:=Cf.notType
 have h2:=Cf.canCreate
 have h3:=Cf.made
 have h4:=Cf.sub
 unfold Builtin.«type.__call__»
 simp only [h1,h2,hct,LG,h3,Bool.false_eq_true,if_false,pure_bind,List.isEmpty_cons]
 refine Aa (Ba (wpN_mono h (fun obj s1 ⟨hT,hi⟩=> ?_) fun U U x=>x))
 refine Aa (Ak (wpAny_isInstance hT h4 ?_))
 simp only [Bool.not_true,Bool.false_eq_true,if_false]
 refine Aa (Ba ?_)
 unfold callSpecial?
 refine Aa (Ak (wpAny_specialOf hT Cf.init.lookup ?_))
 refine Ba ?_
 rw [Cf.init.bind obj]
 refine Aa (Am (Aa (wpN_mono hi (fun r s2 ⟨hr,hP⟩=> ?_) fun U U x=>x)))
 subst hr
 exact Am (Am hP)
theorem Dy {id:String} {AT:Args} {b:Builtin} {R:Result→Shared→Prop} (cc:Dz (.builtin id AT)) (hb:entryFor table id=some b)
  (h:wpN (model pw w) (A.under (.builtin id AT)) (b AT)
   (fun fin s'=>match fin with | .done f=>R (.ok f) s' | .again c'=>c'.quiet=true∧C0 (model pw w) A c' R s') (fun e s'=>R (.error e) s') s) :
  C0 (model pw w) A (.builtin id AT) R s:=by
 refine B8 cc ?_
 show wpN _ _ (match entryFor table id with | some b=>b AT | none=>unsupported ((withoutEnding? id "#data").getD id)) _ _ s
 rw [hb]; exact h
theorem JI {src:Value} {P:Value→Shared→Prop}
  (h:wpN (model pw w) A.in1.in1 (Builtin.«bytearray.__init__» ⟨[.ref s.heap.objs.size,src],[]⟩) (fun fin s2=>fin= .done (.ret .none)∧P (.ref s.heap.objs.size) s2) noE {s with heap:=s.heap.push (Cw #[])}):wpN (model pw w) A (call (.type "bytearray") [src]) P noE s:=by
 refine Ci (B8 (DJ fun U U e=>by cases e) ?_)
 show wpN _ _ (callAny (.type "bytearray") _) _ _ _
 refine Am ⟨Code.quiet_builtin _ (by decide +kernel),Dy (O9 _) F.entry_type_call ?_⟩
 rw [Around.under_plain (weight_type_call_type "bytearray" [src] []) rfl]
 refine SQ (H5 _) ?_
 refine Ci (IO (codeAny_mono (KX (E:=noE) src (Q₁:=fun obj s1=>obj= .ref s.heap.objs.size∧s1={s with heap:=s.heap.push (Cw #[])}) ⟨rfl,rfl⟩) fun r s1 hr=> ?_))
 cases r with
 | error e=>exact hr
 | ok fl =>
  cases fl with
  | ret obj =>
   obtain ⟨rfl,rfl⟩:=hr
   have hT:Shared.TypeIs {s with heap:=s.heap.push (Cw #[])} (.ref s.heap.objs.size) "bytearray":=⟨_,AL _ rfl,rfl⟩
   refine ⟨hT,Ci (B8 (DJ fun U U e=>by cases e) ?_)⟩
   show wpN _ _ (do checkBuiltinCall "bytearray.__init__" ⟨[.ref s.heap.objs.size,src],[]⟩; again (.builtin "bytearray.__init__" ⟨[.ref s.heap.objs.size,src],[]⟩)) _ _ _
   refine Aa (Ak (C1.check _ _ _ _ _ _ _ _ hT (JW _ _) ?_))
   refine Am ⟨plainId_quiet C1.plain _,Dy (Pc _) Ih ?_⟩
   rw [Around.under_plainId C1.plain _]
   refine wpN_mono h (fun fin s2 hf=> ?_) fun U U x=>x
   obtain ⟨rfl,hP⟩:=hf
   exact ⟨rfl,hP⟩
  | _=>exact hr.elim
end
open BF
theorem Es:typeLookup (.type "bytes") "__index__"=pure none:=by rw [typeLookup_type,builtinLookup_eq_fast]; kernel_rfl
section
variable {w:World} {A:Around} {E:Value→Shared→Prop} {s:Shared}
theorem NV {M:Model} {c:Addr} {x:Array UInt8} {f:Array UInt8→Array UInt8} {Q:Unit→Shared→Prop} (gc:s.heap.get? c=some (Cw x)) (hz:(f x).size≤sizeLine)
  (h:Q () {s with heap:=s.heap.update c (Obj.mapBytearray f)}):wpAny M A (Builtin.Bytes.write (.ref c) f) Q E s:=by
 delta Builtin.Bytes.write updateBytearray
 refine wpAny_bind (wpAny_load gc ?_)
 refine wpAny_bind (wpAny_update gc ?_)
 unfold lookBehind
 have g2:=HU f gc
 refine wpAny_bind (wpAny_loadPart g2 ?_)
 rw [MD hz]
 exact wpAny_pure h
theorem NW {α:Type} {M:Model} {c:Prop} [Decidable c] {a b:Sem α} {Q:α→Shared→Prop} (hc:decide c=true) (h:wpN M A a Q E s):wpN M A (if c then a else b) Q E s:=by rw [if_pos (of_decide_eq_true hc)]; exact h
theorem G3 {α:Type} {M:Model} {c:Prop} [Decidable c] {a b:Sem α} {Q:α→Shared→Prop} (hc:decide c=false) (h:wpN M A b Q E s):wpN M A (if c then a else b) Q E s:=by rw [if_neg (of_decide_eq_false hc)]; exact h
theorem Jj {c:Addr} {src:Value} {x:Array UInt8} {P:Fin→Shared→Prop} (gc:s.heap.get? c=some (Cw #[])) (hsrc:(∃ t,src= .bytes x t)∨∃ a,src= .ref a∧a≠c∧s.heap.get? a=some (Cw x)) (hz:x.size≤100000)
  (h:∀ h',h'.get? c=some (Cw x)→Heap.SameBut c s.heap h'→P (.done (.ret .none)) {s with heap:=h'}) :
  wpN (model pw w) A (Builtin.«bytearray.__init__» ⟨[.ref c,src],[]⟩) P noE s:=by
 have hT:s.TypeIs (.ref c) "bytearray":=⟨_,gc,rfl⟩
 unfold Builtin.«bytearray.__init__»
 refine Aa (Ak (Og hT ?_))
 refine G3 rfl ?_
 have hb:Builtin.Bytes.bindOptional "bytearray.__init__" "bytearray" ["source","encoding","errors"] [src] []=pure [some src,none,none]:=by rfl
 rw [hb]
 refine Aa (Am ?_)
 dsimp only
 refine Aa (Am ?_)
 refine Aa (Am ?_)
 refine Aa ?_
 refine Aa (IT ?_)
 show wpN _ _ (Builtin.Bytes.exportsOf (.ref c) >>= fun r=>pure (decide (r > 0))) _ _ _
 refine Ak (wpAny_bind ?_)
 unfold Builtin.Bytes.exportsOf
 refine wpAny_bind (wpAny_load gc (wpAny_pure (wpAny_pure ?_)))
 refine Ak ?_
 refine wpAny_ite_false rfl ?_
 refine wpAny_bind (NV gc (by decide +kernel) ?_)
 have g1:(s.heap.update c (Obj.mapBytearray fun U=> #[])).get? c=some (Cw #[]):=HU (fun U=> #[]) gc
 have fin:∀ P':PySem.Fin→Shared→Prop,(∀ fin s',P fin s'→P' fin s')→wpAny (model pw w) A (do Builtin.Bytes.write (.ref c) fun U=>x; ret .none) P' noE {s with heap:=s.heap.update c (Obj.mapBytearray fun U=> #[])}:=fun P' hP'=>by
  refine wpAny_bind (NV g1 (by show x.size≤_; rw [sizeLine_eq]; exact Nat.le_of_lt (Nat.lt_of_le_of_lt hz (by decide))) (wpAny_pure (hP' _ _ (h _ (HU (fun U=>x) g1) ?_))))
  exact (Heap.SameBut.update ..).trans (Heap.SameBut.update ..)
 rcases hsrc with ⟨t,rfl⟩ | ⟨a,rfl,ne,ga⟩
 ·refine wpAny_bind (wpAny_pure ?_)
  refine wpAny_ite_false rfl ?_
  refine wpAny_bind (wpAny_pure ?_)
  refine wpAny_bind (wpAny_specialOf (typeIs_bytes _ x t) Es ?_)
  refine wpAny_ite_false rfl ?_
  refine wpAny_bind (QE ?_)
  exact wpAny_bind (wpAny_rule (fin _ fun U U z=>z))
 ·have g2:(s.heap.update c (Obj.mapBytearray fun U=> #[])).get? a=some (Cw x):=Cz _ ne ga
  have hT2:Shared.TypeIs {s with heap:=s.heap.update c (Obj.mapBytearray fun U=> #[])} (.ref a) "bytearray":=⟨_,g2,rfl⟩
  refine wpAny_bind (wpAny_bind (wpAny_load g2 (wpAny_pure ?_)))
  refine wpAny_ite_false rfl ?_
  refine wpAny_bind (wpAny_pure ?_)
  refine wpAny_bind (wpAny_specialOf hT2 Gy ?_)
  refine wpAny_ite_false rfl ?_
  refine wpAny_bind (Pj g2 ?_)
  exact wpAny_bind (wpAny_rule (fin _ fun U U z=>z))
end
section
variable {w:World} {b:Heap} {C:Cx} {ρ:LM} {σ:MS} {Q:MV→MS→Prop} {d:Nat}
theorem Na {c:Addr} {x:Array UInt8} {h h':Heap} (hn:h.get? c=none) (sb:Heap.SameBut c (h.push (Cw #[])) h'):∀ y o,h.get? y=some o→h'.get? y=some o:=fun y o e=>by
 have ne:y≠c:=fun q=>by rw [q,hn] at e; cases e
 exact (sb.2 y ne).trans (At _ _ _ _ e)
theorem M9 {s:Shared} {x:Array UInt8} {h':Heap} (S:St b σ s.heap) (g:h'.get? s.heap.objs.size=some (Cw x)) (sb:Heap.SameBut s.heap.objs.size (s.heap.push (Cw #[])) h') :
  σ s.heap.objs.size=none∧St b (σ.set s.heap.objs.size (.barr x)) h'∧Ev noX σ s (σ.set s.heap.objs.size (.barr x)) {s with heap:=h'}:=by
 have fr:=S.free
 have k:=Na (x:=x) (Ah _) sb
 exact ⟨fr.1,S.new fr.2 (S.low_new (Ah _)) (fun d e=>by cases e) k fun U U=>g,Ev.new' fr.1 (Ah _) (fun d e=>by cases e) k rfl rfl⟩
theorem fBA {x:Array UInt8} (hz:x.size≤100000) (q:∀ c,σ c=none→Q (.ref c) (σ.set c (.barr x))):NC w b d (.type "bytearray") [.bytes x] σ Q:=fun A s vs rm S ⟨v,_,e1,⟨t,rv⟩,e2⟩=>by
 cases e2
 subst e1 rv
 refine JI (Jj (AL _ rfl) (.inl ⟨t,rfl⟩) hz fun h' g sb=>⟨rfl,?_⟩)
 refine CG (M9 S g sb) fun n S' e'=> ?_
 exact DZ _ _ (q _ n) rfl S' e'
theorem Th {a:Addr} {x:Array UInt8} (e:σ a=some (.barr x)) (hz:x.size≤100000) (q:∀ c,σ c=none→Q (.ref c) (σ.set c (.barr x))):NC w b d (.type "bytearray") [.ref a] σ Q:=fun A s vs rm S ⟨v,_,e1,rv,e2⟩=>by
 cases e2
 subst e1
 have rv:v= .ref a:=rv
 subst rv
 have ga:=Mk S e
 refine JI (Jj (AL _ rfl) (.inr ⟨a,rfl,Nat.ne_of_lt (Heap.lt_size ga),At _ _ _ _ ga⟩) hz fun h' g sb=>⟨rfl,?_⟩)
 refine CG (M9 S g sb) fun n S' e'=> ?_
 exact DZ _ _ (q _ n) rfl S' e'
theorem Kv:Dv w b (.type "bytearray"):=Hq _
end
open BF
theorem CK:Slot "bytearray" "__setitem__" "bytearray.__setitem__" :=
 .of (owner:="bytearray") (n:="__setitem__") (by rw [typeLookup_type,builtinLookup_eq_fast]; kernel_rfl) (by decide +kernel) (by decide +kernel) (by decide +kernel)
  (by first | exact .inl (by decide +kernel) | exact .inr (by decide +kernel)) (by rw [isSubtype_type]; kernel_rfl)
theorem Jz:entryFor table "bytearray.__setitem__"=some Builtin.«bytearray.__setitem__»:=entryFor_of_tree (by kernel_rfl)
theorem Lg (a c e:Value):argsOk "bytearray.__setitem__" ⟨[a,c,e],[]⟩:=by unfold argsOk; kernel_rfl
theorem N4:isSubtype (.type "bytes") (.type "bytearray")=pure false:=by rw [isSubtype_type]; kernel_rfl
theorem N3:isSubtype (.type "bytes") (.type "complex")=pure false:=by rw [isSubtype_type]; kernel_rfl
theorem Jo:typeLookup (.type "bytes") "__int__"=pure none:=by rw [typeLookup_type,builtinLookup_eq_fast]; kernel_rfl
theorem Ho:typeLookup (.type "bytes") "__float__"=pure none:=by rw [typeLookup_type,builtinLookup_eq_fast]; kernel_rfl
section
variable {w:World} {A:Around} {E:Value→Shared→Prop} {s:Shared}
theorem Hi {sl:Addr} {Q:Value×Value×Value→Shared→Prop} (hl:s.heap.IsSliceOf sl .none .none .none) (h:Q (.none,.none,.none) s):wpAny (model pw w) A (Builtin.Bytes.sliceParts (.ref sl)) Q E s:=by
 obtain ⟨hp,g,d,tk,os⟩:=s
 obtain ⟨⟨oc,od,oda,osl⟩,hl,hc,hd⟩:=hl
 dsimp only at hc hd
 subst hc hd
 wp_walk using wpAny_loadPart' hl
 exact h
theorem QX {a sl:Addr} {x y:Array UInt8} {t:Tok} {P:Fin→Shared→Prop} (ga:s.heap.get? a=some (Cw y)) (hl:s.heap.IsSliceOf sl .none .none .none) (hs:x.size=y.size) (hz:x.size≤100000)
  (h:∀ h',h'.get? a=some (Cw x)→(∀ z o,z≠a→s.heap.get? z=some o→h'.get? z=some o)→P (.done (.ret .none)) {s with heap:=h'}) :
  wpN (model pw w) A (Builtin.«bytearray.__setitem__» ⟨[.ref a,.ref sl,.bytes x t],[]⟩) P noE s:=by
 have hT:s.TypeIs (.ref a) "bytearray":=⟨_,ga,rfl⟩
 have hTs:s.TypeIs (.ref sl) "slice":=let ⟨o,e,c,_⟩:=hl; ⟨o,e,c⟩
 have hTb:=typeIs_bytes s x t
 unfold Builtin.«bytearray.__setitem__»
 refine Aa ?_
 unfold Builtin.Bytes.subscript?
 refine Aa (Ak (wpAny_specialOf hTs De ?_))
 refine Am ?_
 refine Aa (Ak (wpAny_typeOf hTs ?_))
 refine G3 (by decide) ?_
 refine Aa (Ak (Hi hl ?_))
 refine Aa (Ak (wpAny_isInstance hTb N4 ?_))
 refine NW rfl ?_
 refine Aa (Ak ?_)
 refine wpAny_bind (wpAny_bind (wpAny_specialOf hTb Es (wpAny_pure ?_)))
 refine wpAny_bind (wpAny_bind (wpAny_specialOf hTb Jo (wpAny_pure ?_)))
 refine wpAny_bind (wpAny_bind (wpAny_specialOf hTb Ho (wpAny_pure ?_)))
 refine wpAny_isInstance hTb N3 ?_
 refine Aa (Am ?_)
 refine G3 rfl ?_
 refine Aa (Ak (wpAny_rule ?_))
 refine Aa (JI (Jj (AL _ rfl) (.inl ⟨t,rfl⟩) hz fun h' g sb=>⟨rfl,?_⟩))
 have k:=Na (x:=x) (Ah _) sb
 have ne:s.heap.objs.size≠a:=Ne.symm (Nat.ne_of_lt (Heap.lt_size ga))
 have ga':h'.get? a=some (Cw y):=k _ _ ga
 have hl':h'.IsSliceOf sl .none .none .none:=let ⟨o,e,r⟩:=hl; ⟨o,k _ _ e,r⟩
 refine Ak (wpAny_bind (wpAny_holding (Hi hl' ?_)))
 refine wpAny_bind (Ja g ?_)
 refine wpAny_bind (Ja ga' ?_)
 have f8:=sliceIndices_raw none none none y.size (by simp)
 refine wpAny_bind (wpAny_of_eq f8 ?_)
 have fb:sliceBounds none none none y.size=(0,(y.size:Int),1):=by rfl
 rw [fb]
 dsimp only
 refine NX (by rfl) ?_
 refine wpAny_bind (wpAny_rule ?_)
 refine H4 (by rw [hs]; simp) ?_
 have ex:((y.extract 0 (0:Int).toNat++x++y.extract (max (0:Int) y.size).toNat y.size))=x:=by
  have e1:(max (0:Int) y.size).toNat=y.size:=mx0
  rw [e1]; simp
 refine wpAny_bind (NV ga' (by rw [ex,sizeLine_eq]; exact Nat.le_of_lt (Nat.lt_of_le_of_lt hz (by decide))) ?_)
 refine wpAny_pure (h _ ?_ fun z o n e=>Cz _ n (k _ _ e))
 have:=HU (fun b=>b.extract 0 (0:Int).toNat++x++b.extract (max (0:Int) y.size).toNat b.size) ga'
 rw [ex] at this
 exact this
theorem RC {a sl:Addr} {x y:Array UInt8} {t:Tok} {Q:Unit→Shared→Prop} (ga:s.heap.get? a=some (Cw y)) (hl:s.heap.IsSliceOf sl .none .none .none) (hs:x.size=y.size) (hz:x.size≤100000)
  (h:∀ h',h'.get? a=some (Cw x)→(∀ z o,z≠a→s.heap.get? z=some o→h'.get? z=some o)→Q () {s with heap:=h'}):wpN (model pw w) A (setItem (.ref a) (.ref sl) (.bytes x t)) Q noE s:=by
 have hT:s.TypeIs (.ref a) "bytearray":=⟨_,ga,rfl⟩
 unfold setItem
 refine Ba (Aa (Ak (wpAny_sequenceKey hT (by decide) ?_)))
 unfold callSpecial?
 refine Aa (Aa (Ak (wpAny_specialOf hT CK.lookup ?_)))
 refine Ba ?_
 rw [CK.bind (.ref a)]
 refine Aa (Am (Aa ?_))
 refine Ci (B8 (DJ fun U U e=>by cases e) ?_)
 show wpN _ _ (do checkBuiltinCall "bytearray.__setitem__" ⟨[.ref a,.ref sl,.bytes x t],[]⟩; again (.builtin "bytearray.__setitem__" ⟨[.ref a,.ref sl,.bytes x t],[]⟩)) _ _ _
 refine Aa (Ak (CK.check _ _ _ _ _ _ _ _ hT (Lg _ _ _) ?_))
 refine Am ⟨plainId_quiet CK.plain _,Dy (Pb _) Jz ?_⟩
 rw [Around.under_plainId CK.plain _]
 exact QX ga hl hs hz fun h' g k=>Am (Am (h h' g k))
end
section
variable {w:World} {b:Heap} {C:Cx} {ρ:LM} {σ:MS} {d:Nat}
theorem PR {Q:MF→LM→MS→Prop} {o e:Expr} {p ps pos:Pos} (h:WE w b C (eval e) ρ σ fun v σ1=>∃ x,v= .bytes x∧WE w b C (eval o) ρ σ1 fun mo σ2=>∃ a y,mo= .ref a∧σ2 a=some (.barr y)∧x.size=y.size∧x.size≤100000∧Q .next ρ (σ2.set a (.barr x)))
  (hs:∀ env,swapsWith e (some (.Subscript o (.Slice none none none ps) p)) pos.line env=pure false:=by intro _; rfl):NS w b C (exec (.Assign [.Subscript o (.Slice none none none ps) p] e pos)) ρ σ Q:=fun A env s c S L=>by
 rw [exec_Assign_Subscript o (.Slice none none none ps) p e pos (hs env)]
 refine Aa (Ax (Aa (Ak (wpAny_mono (h A env s c S L) (fun v s1 g_=>g_.elim fun mv σ1 q0_ r1 S1 e1=>Af q0_ fun x hx h1=> ?_) fun U U x=>x))))
 subst hx
 obtain ⟨t,r1⟩:=r1
 subst r1
 rw [assign_Subscript]
 have L1:=e1.loc S L
 refine Aa (Aa (Ak (wpAny_holding (wpAny_mono (h1 A env s1 c S1 L1) (fun ov s2 g_=>g_.elim fun mo σ2 q0_ r2 S2 e2=>Sx q0_ fun a y ho ha hsz hz q=> ?_) fun U U x=>x))))
 subst ho
 have r2:ov= .ref a:=r2
 subst r2
 have L2:=e2.loc S1 L1
 refine Aa (Ak (wpAny_holding (wpAny_Slice ?_)))
 rw [evalPart_none]
 refine wpAny_pure (wpAny_pure (wpAny_pure ?_))
 have e3:Ev noX σ2 s2 σ2 {s2 with heap:=s2.heap.push ⟨.type "slice",none,.fields #[.none,.none,.none],#[]⟩}:=Ev.grow rfl rfl (At _ _)
 have S3:=S2.grow (At s2.heap ⟨.type "slice",none,.fields #[.none,.none,.none],#[]⟩)
 have ga:=Mk S3 ha
 refine Aa (Ax (Aa (Ba (RC ga (Heap.IsSliceOf.new ..) hsz hz fun h' g k=> ?_))))
 have e4:=Ev.upd (s:={s2 with heap:=s2.heap.push ⟨.type "slice",none,.fields #[.none,.none,.none],#[]⟩}) (s':={s2 with heap:=h'}) (o':= .barr x) S3 ha rfl (.inl rfl) k ⟨_,g⟩ rfl rfl
 have S4:=S3.upd (o':= .barr x) ha rfl (.inl rfl) k fun U U=>g
 refine Ak (fun Γ p _=> ?_)
 rw [Sem.wp_release]
 exact Am (Q:=Cy b env σ s Q) ⟨.next,ρ,_,q,rfl,S4,(e3.trans e4).loc S2 L2,(e1.trans (e2.trans (e3.trans e4))).lift⟩
end
end
noncomputable def GF:List (Code×Pos)→Bool
 | [(.builtin "claim.caller" ⟨[],[]⟩,_)]=>true
 | _=>false
theorem Ml {c:Code} {p:Pos} {l:List (Code×Pos)} (h:GF ((c,p)::l)=true):c= .builtin "claim.caller" {}∧l=[]:=by
 unfold GF at h
 split at h
 ·rename_i e
  simp only [List.cons.injEq,Prod.mk.injEq] at e
  exact ⟨e.1.1,e.2⟩
 ·cases h
noncomputable def Dd {α:Type} (t alt:Sem α):Sem α:=stack >>= fun st=>if GF st=true then t else alt
theorem looked_any {α:Type} {M:Model} {A:Around} {t alt:Sem α} {Q:α→Shared→Prop} {E:Value→Shared→Prop} {s:Shared} (h:wpN M A t Q E s) (h':wpAny M A alt Q E s):wpAny M A (Dd t alt) Q E s:=fun Γ p i=>by
 show Sem.wp M Γ (if GF ((Γ.code,p)::Γ.below)=true then t else alt) _ _ p s
 cases e:GF ((Γ.code,p)::Γ.below) with
 | false=>exact h' Γ p i
 | true =>
  obtain ⟨e1,e2⟩:=Ml e
  exact h Γ p i (by simp only [e1]; exact Pa) (by rw [e2]; exact fun U h=>nomatch h)
theorem LJ {α β:Type} {M:Model} {A:Around} {t:Sem α} {u:Sem β} {alt:Sem α} {alt':Sem β} {Q:α→Shared→Prop} {Q':β→Shared→Prop} {E:Value→Shared→Prop} {s:Shared} (h:wpAny M A (Dd t alt) Q E s)
  (h1:∀ Γ p,Γ.In A→Sem.wp M Γ t (fun a U s'=>Q a s') (fun e U s'=>E e s') p s→Sem.wp M Γ u (fun a U s'=>Q' a s') (fun e U s'=>E e s') p s)
  (h2:∀ Γ p,Γ.In A→Sem.wp M Γ alt (fun a U s'=>Q a s') (fun e U s'=>E e s') p s→Sem.wp M Γ alt' (fun a U s'=>Q' a s') (fun e U s'=>E e s') p s):wpAny M A (Dd u alt') Q' E s:=fun Γ p i=>by
 have h0:=h Γ p i
 have h0:Sem.wp M Γ (if GF ((Γ.code,p)::Γ.below)=true then t else alt) _ _ p s:=h0
 show Sem.wp M Γ (if GF ((Γ.code,p)::Γ.below)=true then u else alt') _ _ p s
 cases e:GF ((Γ.code,p)::Γ.below) with
 | false=>rw [e] at h0; exact h2 Γ p i h0
 | true=>rw [e] at h0; exact h1 Γ p i h0
theorem I0 {den:Code→Sem Fin} {prog:Program} {w:World} {n:Nat} {s s':Shared} {o:Outcome} {t alt:Sem Fin} (hz:s.asleep)
  (h:schedN den prog w n (.single s ⟨Dd t alt,.builtin "claim.caller" {},default,[]⟩)= .halted o s'):∃ m,schedN den prog w m (.single s ⟨t,.builtin "claim.caller" {},default,[]⟩)= .halted o s':=by
 cases n with
 | zero=>cases h
 | succ n =>
  have hs:step den prog w s ⟨Dd t alt,.builtin "claim.caller" {},default,[]⟩= .go s ⟨t,.builtin "claim.caller" {},default,[]⟩:=rfl
  rcases sstep_single den prog w s ⟨Dd t alt,.builtin "claim.caller" {},default,[]⟩ rfl hz with e | e
  ·unfold schedN at h
   rw [e,hs] at h
   exact ⟨n,h⟩
  ·have e:=hs.symm.trans e; cases e
theorem J7 {c:ClaimW} {tree:List Value→Sem Fin} {alt:Sem Fin} {w:World} {X:Addr→Prop} {Y:Prop} {Z:Heap→Prop} {s₁:Shared} (z1:s₁.asleep) (hc:c.CallFrom (fun vs=>⟨Dd (tree vs) alt,.builtin "claim.caller" {},default,[]⟩) w X Y Z s₁) :
  c.CallFrom (fun vs=>⟨tree vs,.builtin "claim.caller" {},default,[]⟩) w X Y Z s₁:=fun AT a1 a2 ord a3=>by
 refine CX (hc AT a1 a2 ord a3) fun vs s₂ hl r=>NH r fun n o s' hn rest=> ?_
 refine (I0 (Shared.asleep_of_life (layAllW_rest _ _ _ hl).2.2.2 z1) hn).elim fun m hm=> ?_
 exact Qb vs s₂ hl (Tj m o s' hm rest)
theorem QM {c:ClaimW} {tree:List Value→Sem Fin} {alt:Sem Fin} {defs keeps:List Str} {writes:Bool}
  (H:c.HoldsOpenBy (fun vs=>⟨Dd (tree vs) alt,.builtin "claim.caller" {},default,[]⟩) defs keeps writes):c.HoldsOpenBy (fun vs=>⟨tree vs,.builtin "claim.caller" {},default,[]⟩) defs keeps writes:=by
 refine Cv H.1 H.2.1 fun w=>⟨(H.2.2 w).1,fun s hs=> ?_⟩
 have A:AfterImport (opening c.prog) w s:=hs
 refine Br ((H.2.2 w).2 s hs) fun s₀ hf hg r=>Tt r fun s₁ hT hd hr hr' hc=> ?_
 exact Cu s₀ hf hg (Ss s₁ hT hd hr hr' (J7 (Shared.asleep_of_life (hT.2.1.trans (fence_lifeW hf)) A.life) hc))
theorem fa_is {w:World} {b:Heap} {mg:Str→Option Value} {fa:Addr} (hB:BaseOk w b) (g:b.Ns mainGlobals mg) (e:mg (S "law")=some (.ref fa)):fa=666:=by
 rw [On g hB.glob] at e
 have:Mine.glob (S "law")=some (.ref 666):=by rfl
 rw [this] at e; cases e; rfl
theorem holds_openL {r:OpenRow} {q:Program} {loose:List Str} {Xt:Shared→Bool} {XP:(Str→Option Value)→Heap→Prop} {α:Type} {Yf:Shared→α} {Ya:World→α} {YP:World→Heap→Prop} {d:DefRec} {kwd:List (Str×Expr)} {N:Nat}
  (left:LeftO r.prog q loose Xt Yf Ya N) (hY:∀ w s,Yf s=Ya w→YP w s.heap) (hYk:∀ w h h',YP w h→(∀ b o,h.get? b=some o→h'.get? b=some o)→YP w h')
  (hX:∀ s,Xt s=true→XP (s.heap.nsMap mainGlobals) s.heap) (hXk:∀ mg h h',XP mg h→(∀ b o,h.get? b=some o→h'.get? b=some o)→XP mg h')
  (hdef:defOf q r.name=some (d,kwd)) (hp:r.prog.theDef r.name=some (d.params,d.body,d.scope)) (hk:kwWritten? d.params.kwonlyargs d.params.kw_defaults=some kwd) (hRf:∀ s,Xt s=true→RecFacts r.records s.heap) (hwr:(!r.writes || r.records.isEmpty)=true)
  (k1:r.wellSaid=true) (ok:(chainsOk q && opensWell r.prog && (frees r.toRowW && r.within.isEmpty))=true) (hb:r.prog.bare) (hw:r.toRowW.promised)
  (walk:WalkO q loose XP YP r.toRowW d kwd fun f vs=>Dd (PySem.call f vs) (pure (.bool true))):r.Holds:=by
 refine ⟨k1,hw,QM (alt:=ret (.bool true)) (open_anyG (r:=r.toRowW) (run:=fun f vs=>Dd (PySem.call f vs) (pure (.bool true))) (tree:=fun vs=>Dd (do match←nsGet mainNs r.name with
   | some f=>do ret (← PySem.call f vs)
   | none=>unsupported "claim.caller:no-such-global") (ret (.bool true))) left hY hYk hX hXk hRf hwr ok hb hw
  (fun vs w s mg f Q E hg hf h=>LJ h (fun Γ p i h0=> ?_) fun Γ p i h0=>h0)
  (fun w s hg G n hn=> ?_) fun w s₀ s₁ mg mb G Y AT vs as hpre hlay L low=> ?_)⟩
 ·rw [Sem.wp_bind']
  show Sem.wp _ Γ (nsGet mainGlobals r.name) _ _ p s
  rw [Sem.wp_nsGet _ Γ _ p s hg,hf]
  show Sem.wp _ Γ (PySem.call f vs >>= fun v=>ret v) _ _ p s
  rw [Sem.wp_bind']
  exact h0
 ·obtain rfl:n=r.name:=by split at hn <;> simp_all
  exact pinned_of_view hg G hdef hp hk
 ·refine hide fun P_ k_=> ?_
  obtain ⟨a,o,pm,cd,doc,dV,kV,h1,h2,h3,h4,h5⟩:=G.fn hdef
  refine k_ ?_
  exact AQ (.ref a) h1 (walk w s₀ s₁ mg mb G Y a o pm cd doc dV kV h2 h3 h4 h5 (defOf_name hdef▸h1) L.gens AT vs as hpre hlay L.reads L.well (L.low low))
end Mine
set_option tactic.hygienic true in
set_option maxHeartbeats 8000000 in
theorem Mine.holds_of (H:∀ (w:World) (b:Heap) (ns:List Int) (σ:Mine.MS),Mine.BaseOk w b→ns.length≤63→Mine.NC w b 400 (.ref 666) [.flist (ns.map .int)] σ fun mv U=>mv= .bool true):PySem.Challenge.rw_nu0360_01.Holds:=by
 w_on
 refine holds_law Mine.law_said fun said=> ?_
 show Mine.RR.Holds
 refine Mine.holds_openL (q:=Mine.qv) (loose:=Mine.looseN) (Xt:=fun s=>xlAt Mine.qv [] s && recOk (RowW.records Mine.RR.toRowW) s) (XP:=XL Mine.qv []) (Yf:=Hook.obs Mine.myHook) (Ya:=Hook.val Mine.myHook) (YP:=Hook.says Mine.myHook) (N:=8064) ?hl (Hook.of Mine.myHook) (Hook.keeps Mine.myHook) (fun s e=>xl_of s (Bool.and_eq_true_iff.mp e).1) XL.keeps (by rfl) (by rfl) (by rfl) (fun s e=>recFacts_of (Bool.and_eq_true_iff.mp e).2) (by first | rfl | fail "open_line: no head takes a call that writes beside a table") (by first | assumption | decide +kernel) (by decide +kernel) ⟨rfl,rfl,rfl,rfl,rfl,by decide +kernel⟩ ?hw ?hc
 case hw=>w_witness2
 case hl=>exact Mine.leftO_tree (by kernel_rfl) (by kernel_rfl) (fun s=>by kernel_rfl) Mine.runs
 case hc =>
  intro w s₀ s₁ mg mb G Y fa o pm cd doc dV kV ho hd hcd hD hmg hg AT vals as hpre hlay hrd hwl hlo
  clear hd hcd hD ho
  have hB:Mine.BaseOk w s₁.heap:=⟨Y,G.T.nolimit,mb,G.T.b,G.T.builtins⟩
  have hfa:=Mine.fa_is hB G.T.g hmg
  subst hfa
  clear hmg
  wrow_args hpre hlay hrd hwl hlo
  rename_i ns _ _ _ _ _ _ _ sc its _ hL _ _ _ hI _ hlen _
  have St0:Mine.St s₁.heap (fun U=>none) s₁.heap:=⟨fun U U e=>e,fun U U e=>(nomatch e),fun a ow=>(by
   rcases ow with h | ⟨_,_,_,h⟩
   ·exact absurd h (by simp)
   ·exact absurd h (by simp)),fun U U U U e=>(nomatch e)⟩
  have hv:Mine.VRs s₁.heap s₁.heap [.flist (ns.map .int)] [.ref sc]:=⟨.ref sc,[],rfl,⟨sc,_,rfl,(let ⟨o,ho,_⟩:=hL; by rw [ho]; rfl),hL,by simpa using Mine.ints_vrs hI⟩,rfl⟩
  have hl:ns.length≤63:=by lia
  refine Mine.looked_any (Mine.wpN_mono (H w s₁.heap ns _ hB hl callerA s₁ [.ref sc] ⟨by decide,by decide,rfl⟩ St0 hv) (fun v s' g=> ?_) fun U U x=>x.elim) (wpAny_pure ?_)
  ·refine hide fun P_ k_=> ?_
   refine FG g fun mv σ' e_2 r S' e=> ?_
   subst e_2
   refine k_ ?_
   have r:v= .bool true:=r
   subst r
   refine GoodW.toG ⟨.inl ⟨_,.bool true,[],rfl,fun U=>rfl,.bool true,by kernel_rfl,fun U=>⟨.nil,fun U h=>nomatch h⟩⟩,fun a o ho=> ?_,e.os,e.gens.trans hg⟩
   exact S'.stays a o ho
  ·exact GoodW.toG ⟨.inl ⟨_,.bool true,[],rfl,fun U=>rfl,.bool true,by kernel_rfl,fun U=>⟨.nil,fun U h=>nomatch h⟩⟩,fun a o ho=>ho,rfl,hg⟩
namespace Mine
section
open PySem.SeqAt
noncomputable def Fj {α:Type} (n:Nat) (c:Nat→Nat→Bool):KasT α→Option α
 | .ret a=>some a
 | .ask i j k=>if i < n∧j < n∧i≠j then Fj n c (k (c i j)) else none
theorem Od {α:Type} {n:Nat} {c:Nat→Nat→Bool} {cmp:Nat→Nat→(Bool→Shared→Prop)→Shared→Prop} {Q:α→Shared→Prop} {s:Shared}
  (hc:∀ i j C,i < n→j < n→i≠j→C (c i j) s→cmp i j C s):∀ (t:KasT α) (a:α),Fj n c t=some a→Q a s→t.kasWp cmp Q s
 | .ret b=>by
  intro a e h
  cases e; exact h
 | .ask i j k=>by
  intro a e h
  unfold Fj at e
  split at e
  ·rename_i g
   exact hc i j _ g.1 g.2.1 g.2.2 (Od hc (k (c i j)) a e h)
  ·cases e
noncomputable def Fq (n:Nat):Nat→List (List Nat)
 | 0=>[[]]
 | k+1=>(Fq n k).flatMap fun l=>((List.range n).filter fun x=> !l.contains x).map fun x=>x::l
theorem Iz {n:Nat}:∀ {k:Nat} {l:List Nat},l.length=k→l.Nodup→(∀ x∈l,x < n)→l∈Fq n k
 | 0,l=>by
  intro h _ _
  have:=List.eq_nil_of_length_eq_zero h
  subst this; exact .head _
 | k+1,[]=>by
  intro h _ _
  cases h
 | k+1,x::l=>by
  intro h n' b
  unfold Fq
  rw [List.nodup_cons] at n'
  rw [List.mem_flatMap]
  refine ⟨l,Iz (by simpa using h) n'.2 fun y hy=>b y (.tail _ hy),?_⟩
  rw [List.mem_map]
  refine ⟨x,List.mem_filter.mpr ⟨List.mem_range.mpr (b x (.head _)),?_⟩,rfl⟩
  simpa using n'.1
noncomputable def Dq (n:Nat) (r:List Nat):Bool:=match Fj n (fun i j=>decide (r.getD i 0 < r.getD j 0)) (kas_sort n) with
 | some p=>p.toList.isPerm (List.range n) && (p.toList.map (fun i=>r.getD i 0)==List.range n)
 | none=>false
theorem RL:((Fq 2 2).all (Dq 2))=true:=by decide +kernel
theorem RK:((Fq 3 3).all (Dq 3))=true:=by decide +kernel
theorem RJ:((Fq 4 4).all (Dq 4))=true:=by decide +kernel
theorem RI:((Fq 5 5).all (Dq 5))=true:=by decide +kernel
theorem RH:((Fq 6 6).all (Dq 6))=true:=by decide +kernel
theorem Rq {α:Type} {p q:α→Bool}:∀ (l:List α),(∀ x∈l,p x=true→q x=true)→l.countP p≤l.countP q:=by
 intro w_
 induction w_ with
 | nil =>
  intro _
  exact Nat.le_refl _
 | cons x l ih_ =>
  intro h
  rw [List.countP_cons,List.countP_cons]
  have i:=ih_ fun y hy=>h y (.tail _ hy)
  have hx:=h x (.head _)
  cases e:p x <;> cases f:q x <;> simp_all <;> exact Nat.le_succ_of_le i
theorem O8 {α:Type} {p q:α→Bool}:∀ (l:List α),(∀ x∈l,p x=true→q x=true)→(∃ x∈l,p x=false∧q x=true)→l.countP p < l.countP q:=by
 intro w_
 induction w_ with
 | nil =>
  intro _ r_58
  obtain ⟨x,hx,_⟩:=r_58
  exact nomatch hx
 | cons y l ih_ =>
  intro h r_59
  obtain ⟨x,hx,h1,h2⟩:=r_59
  rw [List.countP_cons,List.countP_cons]
  have i:=Rq l fun z hz=>h z (.tail _ hz)
  have hy:=h y (.head _)
  rcases List.mem_cons.mp hx with z | z
  ·subst z
   rw [h1,h2]; simp; exact Nat.lt_succ_of_le i
  ·have j:=ih_ (fun z hz=>h z (.tail _ hz)) ⟨x,z,h1,h2⟩
   cases e:p y <;> cases f:q y <;> simp_all <;> exact Nat.lt_succ_of_le i
structure Strict {α:Type} (lt:α→α→Bool):Prop where
 irr:∀ a,lt a a=false
 tr:∀ a b c,lt a b=true→lt b c=true→lt a c=true
 tot:∀ a b,lt a b=false→lt b a=false→a=b
section
variable {α:Type} {lt:α→α→Bool}
noncomputable def Em (lt:α→α→Bool) (ks:List α) (a:α):Nat:=ks.countP fun x=>lt x a
theorem Mz (O:Strict lt) {ks:List α} {a b:α} (ha:a∈ks) (h:lt a b=true):Em lt ks a < Em lt ks b :=
 O8 ks (fun x U hx=>O.tr _ _ _ hx h) ⟨a,ha,O.irr a,h⟩
theorem Fl (O:Strict lt) {ks:List α} {a b:α} (ha:a∈ks) (hb:b∈ks):decide (Em lt ks a < Em lt ks b)=lt a b:=by
 cases h:lt a b with
 | true=>exact decide_eq_true (Mz O ha h)
 | false =>
  refine decide_eq_false fun c=> ?_
  cases h':lt b a with
  | true=>exact absurd (Mz O hb h') (Nat.lt_asymm c)
  | false=>rw [O.tot _ _ h h'] at c; exact Nat.lt_irrefl _ c
theorem Oi (O:Strict lt) {ks:List α} {a b:α} (ha:a∈ks) (hb:b∈ks) (e:Em lt ks a=Em lt ks b):a=b:=by
 have h1:=Fl O ha hb
 have h2:=Fl O hb ha
 rw [e] at h1 h2
 simp at h1 h2
 exact O.tot _ _ h1 h2
theorem PI (O:Strict lt) {ks:List α} {a:α} (ha:a∈ks):Em lt ks a < ks.length:=by
 have:=O8 (p:=fun x=>lt x a) (q:=fun U=>true) ks (fun U U U=>rfl) ⟨a,ha,O.irr a,rfl⟩
 simpa [Em] using this
theorem Cm {β:Type} {f:α→β}:∀ {l:List α},(∀ a∈l,∀ b∈l,f a=f b→a=b)→l.Nodup→(l.map f).Nodup:=by
 intro w_
 induction w_ with
 | nil =>
  intro _ _
  exact .nil
 | cons x l ih_ =>
  intro h n
  rw [List.nodup_cons] at n
  rw [List.map_cons,List.nodup_cons]
  refine ⟨fun c=> ?_,ih_ (fun a ha b hb=>h a (.tail _ ha) b (.tail _ hb)) n.2⟩
  refine Af (List.mem_map.mp c) fun y hy e=> ?_
  rw [h y (.tail _ hy) x (.head _) e] at hy
  exact n.1 hy
theorem Pt {n:Nat} (h2:2≤n) (h6:n≤6):((Fq n n).all (Dq n))=true:=by
 exact ((by decide:∀ n≤6,2≤n→n=2∨n=3∨n=4∨n=5∨n=6) n h6 h2).elim (fun e=>e▸RL) fun h=>h.elim (fun e=>e▸RK) fun h=>h.elim (fun e=>e▸RJ) fun h=>h.elim (fun e=>e▸RI) fun e=>e▸RH
set_option tactic.hygienic true in
theorem Ln (O:Strict lt) {ks:List α} (d:α) (hn:ks.Nodup) (h2:2≤ks.length) (h6:ks.length≤6):∃ p,Fj ks.length (fun i j=>lt (ks.getD i d) (ks.getD j d)) (kas_sort ks.length)=some p ∧
  p.toList.Perm (List.range ks.length)∧(p.toList.map fun i=>ks.getD i d).Pairwise (fun a b=>lt a b=true):=by
 have g:Dq ks.length (ks.map (Em lt ks))=true:=List.all_eq_true.mp (Pt h2 h6) _ (Iz (by simp) (Cm (fun a ha b hb e=>Oi O ha hb e) hn) fun x hx=>by
  refine Af (List.mem_map.mp hx) fun a ha e_2=> ?_
  subst e_2
  exact PI O ha)
 have hget:∀ i,i < ks.length→ks.getD i d∈ks∧(ks.map (Em lt ks)).getD i 0=Em lt ks (ks.getD i d):=fun i hi=>by
  have e1:ks.getD i d=ks[i]:=by simp [hi]
  rw [e1]
  refine ⟨List.getElem_mem hi,?_⟩
  have:i < (ks.map (Em lt ks)).length:=by simpa using hi
  simp [hi]
 have same:∀ (β:Type) (t:KasT β),Fj ks.length (fun i j=>decide ((ks.map (Em lt ks)).getD i 0 < (ks.map (Em lt ks)).getD j 0)) t=Fj ks.length (fun i j=>lt (ks.getD i d) (ks.getD j d)) t:=by
  intro β t
  induction t with
  | ret a=>rfl
  | ask i j k ih =>
   unfold Fj
   by_cases q:i < ks.length∧j < ks.length∧i≠j
   ·rw [if_pos q,if_pos q]
    have e:decide ((ks.map (Em lt ks)).getD i 0 < (ks.map (Em lt ks)).getD j 0)=lt (ks.getD i d) (ks.getD j d):=by
     rw [(hget i q.1).2,(hget j q.2.1).2]; exact Fl O (hget i q.1).1 (hget j q.2.1).1
    rw [e]; exact ih _
   ·rw [if_neg q,if_neg q]
 unfold Dq at g
 rw [same] at g
 split at g
 ·rename_i p hp
  refine Cu p hp (List.isPerm_iff.mp (Bool.and_eq_true_iff.mp g).1) ?_
  have h1:p.toList.Perm (List.range ks.length):=List.isPerm_iff.mp (Bool.and_eq_true_iff.mp g).1
  have h3:=beq_iff_eq.mp (Bool.and_eq_true_iff.mp g).2
  have hlt:∀ i∈p.toList,i < ks.length:=fun i hi=>List.mem_range.mp (h1.mem_iff.mp hi)
  have h4:((p.toList.map fun i=>ks.getD i d).map (Em lt ks))=List.range ks.length:=by
   rw [List.map_map,←h3]
   exact List.map_congr_left fun i hi=>((hget i (hlt i hi)).2).symm
  have h5:(List.range ks.length).Pairwise (· < ·):=List.pairwise_lt_range
  rw [← h4,List.pairwise_map] at h5
  refine List.Pairwise.imp_of_mem (fun {a b} ha hb hab=> ?_) h5
  refine Af (List.mem_map.mp ha) fun i hi e_2=> ?_
  subst e_2
  refine Af (List.mem_map.mp hb) fun j hj e_2=> ?_
  subst e_2
  rw [← Fl O (hget i (hlt i hi)).1 (hget j (hlt j hj)).1]
  exact decide_eq_true hab
 ·cases g
theorem EX (O:Strict lt) {l:List α}:∀ {m:List α},l.Perm m→l.Pairwise (fun a b=>lt a b=true)→m.Pairwise (fun a b=>lt a b=true)→l=m:=by
 induction l with
 | nil=>exact fun p U U=>(List.nil_perm.mp p).symm
 | cons a l ih =>
  intro m p h h'
  cases m with
  | nil=>exact (List.cons_ne_nil _ _ (List.perm_nil.mp p)).elim
  | cons b m =>
   have e:a=b:=(List.mem_cons.mp (p.mem_iff.mp (List.mem_cons_self ..))).elim id fun z=>(List.mem_cons.mp (p.mem_iff.mpr (List.mem_cons_self ..))).elim Eq.symm fun y=>(Bool.false_ne_true ((O.irr a).symm.trans (O.tr _ _ _ (List.rel_of_pairwise_cons h y) (List.rel_of_pairwise_cons h' z)))).elim
   subst e
   rw [ih (List.perm_cons a |>.mp p) (List.pairwise_cons.mp h).2 (List.pairwise_cons.mp h').2]
end
noncomputable def JZ (vs:List Value) (c:Nat→Nat→Bool) (out:List Value):Prop:=(vs.length < 2∧out=vs)∨(2≤vs.length∧∃ p,Fj vs.length c (kas_sort vs.length)=some p∧p.size=vs.length∧out=p.toList.map fun i=>vs.getD i .none)
section
variable {prog:Program} {w:World} {A:Around} {E:Value→Shared→Prop} {s:Shared}
theorem Ni {a:Addr} {vs out:List Value} {n:Nat} {P:PySem.Fin→Shared→Prop} {κ:SortKind} {c:Nat→Nat→Bool} (ho:s.heap.get? a=some (seqObj "list" vs.toArray n)) (h6:vs.length≤6)
  (hk:∀ s':Shared,(∀ x o,x≠a→s.heap.get? x=some o→s'.heap.get? x=some o)→2≤vs.length→∀ Q:SortKind→Shared→Prop,Q κ s'→wpAny (model prog w) A (keyKind' vs.toArray) Q E s')
  (hask:∀ s':Shared,(∀ x o,x≠a→s.heap.get? x=some o→s'.heap.get? x=some o)→∀ i j C,i < vs.length→j < vs.length→i≠j→C (c i j) s'→kas_ask prog w A κ vs i j C s')
  (hout:JZ vs c out) (h:P (.done (.ret .none)) {s with heap:=sortedHeap s.heap a vs out.toArray}):wpAny (model prog w) A (Builtin.«list.sort» ⟨[.ref a],[]⟩) P E s:=by
 rw [list_sort_plain]
 have ha:a < s.heap.objs.size:=Heap.lt_size ho
 refine wpAny_bind (listItems_at ho rfl ?_)
 refine wpAny_bind (listUpdate_at ho rfl ?_)
 obtain ⟨e1,ho1⟩:∃ e1,(s.heap.update a (Obj.mapSeq fun U=> #[])).get? a=some (seqObj "list" #[] e1):=⟨_,get?_update_seq ho (fun U=> #[])⟩
 refine wpAny_bind (seqEpoch_at ho1 rfl ?_)
 refine wpAny_bind (wpAny_newTuple ?_ (by show vs.length≤_; rw [sizeLine_eq]; exact Nat.le_of_lt (Nat.lt_of_le_of_lt h6 (by decide))))
 refine wpAny_bind (wpAny_newList ?_)
 refine wpAny_holding ?_
 have ho6:(((s.heap.update a (Obj.mapSeq fun U=> #[])).push (seqObj "tuple" vs.toArray 0)).push (seqObj "list" #[] 0)).get? a=some (seqObj "list" #[] e1):=At _ _ _ _ (At _ _ _ _ ho1)
 have keep:∀ x o,x≠a→s.heap.get? x=some o→(((s.heap.update a (Obj.mapSeq fun U=> #[])).push (seqObj "tuple" vs.toArray 0)).push (seqObj "list" #[] 0)).get? x=some o:=fun x o ne e=>At _ _ _ _ (At _ _ _ _ (Cz _ ne e))
 show wpAny (model prog w) A _ P E {s with heap:=((s.heap.update a (Obj.mapSeq fun U=> #[])).push (seqObj "tuple" vs.toArray 0)).push (seqObj "list" #[] 0)}
 dsimp only
 have hsz:vs.toArray.size=vs.length:=by simp
 rcases hout with ⟨h2,rfl⟩ | ⟨h2,p,hp,hps,rfl⟩
 ·have h2':out.toArray.size < 2:=by rw [hsz]; exact h2
  rw [if_pos h2',if_pos h2']
  refine wpAny_bind (wpAny_pure ?_)
  rw [StateT.run_pure]
  refine wpAny_bind (wpAny_pure ?_)
  dsimp only
  refine wpAny_bind (seqEpoch_at ho6 rfl ?_)
  have eo:(arrOf (SortSt.mk' general' (out.toArray.zip out.toArray) #[] 7 none)).map (·.2)=out.toArray:=by
   show (out.toArray.zip out.toArray).map (·.2)=_
   apply Array.toList_inj.mp
   rw [Array.toList_map]
   have e1:(out.toArray.zip out.toArray).toList=out.zip out:=pairsOf_toList out
   rw [e1,List.map_snd_zip (Nat.le_refl _)]
  rw [eo]
  refine wpAny_bind (listUpdate_at ho6 rfl ?_ (hsz2:=by show out.length≤_; rw [sizeLine_eq]; exact Nat.le_of_lt (Nat.lt_of_lt_of_le h2' (by decide))))
  simp only [bne_self_eq_false,Bool.false_eq_true,if_false]
  exact wpAny_pure h
 ·have h2':¬ vs.toArray.size < 2:=by rw [hsz]; exact Nat.not_lt_of_le h2
  rw [if_neg h2',if_neg h2']
  refine wpAny_bind (hk _ keep h2 _ ?_)
  refine wpAny_bind (wpAny_mono (kat_run (ks:=vs) (vs:=vs) (κ:=κ) (E:=E) (G:=fun p' s'=>p'=p∧s'={s with heap:=((s.heap.update a (Obj.mapSeq fun U=> #[])).push (seqObj "tuple" vs.toArray 0)).push (seqObj "list" #[] 0)})
   (Q:=fun st' s'=>(arrOf st').map (·.2)=List.toArray (p.toList.map fun i=>vs.getD i Value.none)∧failedOf st'=none∧s'={s with heap:=((s.heap.update a (Obj.mapSeq fun U=> #[])).push (seqObj "tuple" vs.toArray 0)).push (seqObj "list" #[] 0)})
   rfl h2 (Nat.lt_of_le_of_lt h6 (by decide)) (fun p' st' s' a1 a2 a3 a4=>by obtain ⟨rfl,rfl⟩:=a4; exact ⟨kat_snds rfl a2,a3,rfl⟩) (Od (hask _ keep) _ p hp ⟨rfl,rfl⟩)) ?_ fun U U e=>e)
  rintro ⟨⟨⟩,st'⟩ s' ⟨ho,hf,rfl⟩
  dsimp only at ho hf ⊢
  refine wpAny_bind (seqEpoch_at ho6 rfl ?_)
  rw [ho]
  refine wpAny_bind (listUpdate_at ho6 rfl ?_ (hsz2:=by show (p.toList.map fun i=>vs.getD i Value.none).length≤_; rw [List.length_map,Array.length_toList,hps,sizeLine_eq]; exact Nat.le_of_lt (Nat.lt_of_le_of_lt h6 (by decide))))
  rw [hf]
  simp only [bne_self_eq_false,Bool.false_eq_true,if_false]
  exact wpAny_pure h
theorem Ls {l:Addr} {vs out:List Value} {Q:Value→Shared→Prop} {κ:SortKind} {c:Nat→Nat→Bool} (hl:s.heap.IsList l vs.toArray) (h6:vs.length≤6)
  (hk:∀ s':Shared,(∀ x o,s.heap.get? x=some o→s'.heap.get? x=some o)→2≤vs.length→∀ Q:SortKind→Shared→Prop,Q κ s'→wpAny (model prog w) A.in1.in1 (keyKind' vs.toArray) Q E s')
  (hask:∀ s':Shared,(∀ x o,s.heap.get? x=some o→s'.heap.get? x=some o)→∀ i j C,i < vs.length→j < vs.length→i≠j→C (c i j) s'→kas_ask prog w A.in1.in1 κ vs i j C s')
  (hout:JZ vs c out) (h:Q (.ref (s.heap.objs.size+1)) {s with heap:=sortedAll s.heap vs out.toArray}):wpAny (model prog w) A (call (.builtin "sorted") [.ref l]) Q E s:=by
 refine Calls.call_function_entry kind_sorted plain_sorted entry_sorted (args_sorted1 _) ?_
 unfold Builtin.«sorted»
 refine wpAny_bind (m:=checkCount "sorted" 1 1 _) (wpAny_pure ?_)
 refine wpAny_bind (collect_list hl ?_ (by rw [sizeLine_eq]; exact Nat.le_trans h6 (by decide)))
 refine wpAny_bind (wpAny_newList ?_ (by rw [sizeLine_eq]; exact Nat.le_trans h6 (by decide)))
 have hsz:((s.heap.push (seqObj "list" #[] 0)).update s.heap.objs.size (Obj.mapSeq (· ++vs.toArray))).objs.size=s.heap.objs.size+1:=by
  rw [Heap.size_update,size_push']
 have hoL:(((s.heap.push (seqObj "list" #[] 0)).update s.heap.objs.size (Obj.mapSeq (· ++vs.toArray))).push (seqObj "list" vs.toArray 0)).get? (s.heap.objs.size+1)=some (seqObj "list" vs.toArray 0):=by
  rw [← hsz]; exact Heap.get?_push_size _ rfl
 have keep:∀ b o,s.heap.get? b=some o→(((s.heap.push (seqObj "list" #[] 0)).update s.heap.objs.size (Obj.mapSeq (· ++vs.toArray))).push (seqObj "list" vs.toArray 0)).get? b=some o:=fun b o q =>
  At _ _ _ _ (Cz _ (Nat.ne_of_lt (Heap.lt_size q)) (At _ _ _ _ q))
 show wpAny _ _ _ _ _ {s with heap:=((s.heap.push (seqObj "list" #[] 0)).update s.heap.objs.size (Obj.mapSeq (· ++vs.toArray))).push (seqObj "list" vs.toArray 0)}
 rw [hsz]
 refine wpAny_bind (wpAny_holding (wpAny_call_entry slot_list_sort ⟨_,hoL,rfl⟩ entry_list_sort (Ni hoL h6 (fun s' k=>hk s' fun x o e=>k x o (Nat.ne_of_lt (Nat.lt_succ_of_lt (Heap.lt_size e))) (keep x o e)) (fun s' k=>hask s' fun x o e=>k x o (Nat.ne_of_lt (Nat.lt_succ_of_lt (Heap.lt_size e))) (keep x o e)) hout ⟨_,rfl,?_⟩) (args_list_sort _)))
 exact wpAny_pure ⟨_,rfl,h⟩
end
open BF
theorem EY:Slot "bytes" "__lt__" "bytes.__lt__" :=
 .of (owner:="bytes") (n:="__lt__") (by rw [typeLookup_type,builtinLookup_eq_fast]; kernel_rfl) (by decide +kernel) (by decide +kernel) (by decide +kernel)
  (by first | exact .inl (by decide +kernel) | exact .inr (by decide +kernel)) (by rw [isSubtype_type]; kernel_rfl)
theorem HF:entryFor table "bytes.__lt__"=some Builtin.«bytes.__lt__»:=entryFor_of_tree (by kernel_rfl)
theorem Io (a c:Value):argsOk "bytes.__lt__" ⟨[a,c],[]⟩:=by unfold argsOk; kernel_rfl
noncomputable def ltB (x y:Array UInt8):Bool:=Builtin.Bytes.order x.toList y.toList== .lt
theorem LA:∀ x:List UInt8,Builtin.Bytes.order x x= .eq:=by
 intro w_
 induction w_ with
 | nil =>
  exact rfl
 | cons a x ih_ =>
  unfold Builtin.Bytes.order
  simp [ih_]
theorem HQ (x:Array UInt8) (t:Tok) (y:Array UInt8) (u:Tok):Gives (Builtin.«bytes.__lt__» ⟨[.bytes x t,.bytes y u],[]⟩) (.val (.bool (ltB x y))):=by
 refine .of_wp fun M A E s Q hq=> ?_
 have f1:=Bj
 show wpAny M A (isInstance (.bytes y u) (.type "bytes") >>= fun r=>_) _ E s
 refine wpAny_bind (wpAny_isInstance (typeIs_bytes s y u) Bj ?_)
 exact wpAny_pure ⟨_,rfl,hq⟩
theorem G7 (a c:UInt8):a < c∨a=c∨c < a:=by
 rcases Nat.lt_trichotomy a.toNat c.toNat with h | h | h
 ·exact .inl (UInt8.lt_iff_toNat_lt.mpr h)
 ·exact .inr (.inl (UInt8.toNat_inj.mp h))
 ·exact .inr (.inr (UInt8.lt_iff_toNat_lt.mpr h))
theorem IE:∀ x y:List UInt8,Builtin.Bytes.order x y=(Builtin.Bytes.order y x).swap
 | [],[]=>rfl
 | [],_::_=>rfl
 | _::_,[]=>rfl
 | a::x,c::y=>by
  unfold Builtin.Bytes.order
  rcases G7 a c with h | h | h
  ·have h':¬ c < a:=fun k=>UInt8.lt_irrefl _ (UInt8.lt_trans h k)
   simp [h,h']
  ·subst h; simp [UInt8.lt_irrefl,IE x y]
  ·have h':¬ a < c:=fun k=>UInt8.lt_irrefl _ (UInt8.lt_trans h k)
   simp [h,h']
theorem Ki:∀ {x y:List UInt8},Builtin.Bytes.order x y= .eq→x=y
 | [],[]=>by
  intro _
  exact rfl
 | [],_::_=>by
  intro h
  cases h
 | _::_,[]=>by
  intro h
  cases h
 | a::x,c::y=>by
  intro h
  unfold Builtin.Bytes.order at h
  rcases G7 a c with k | k | k
  ·simp [k] at h
  ·subst k; simp [UInt8.lt_irrefl] at h; rw [Ki h]
  ·have h':¬ a < c:=fun q=>UInt8.lt_irrefl _ (UInt8.lt_trans k q)
   simp [k,h'] at h
theorem Om {x:List UInt8}:∀ {y z:List UInt8},Builtin.Bytes.order x y= .lt→Builtin.Bytes.order y z= .lt→Builtin.Bytes.order x z= .lt:=by
 induction x with
 | nil =>
  intro y z h h'
  cases z with
  | cons _ _=>exact rfl
  | nil=>cases y with
   | nil=>exact h
   | cons _ _=>cases h'
 | cons a x ih =>
  intro y z h h'
  cases y with
  | nil=>cases h
  | cons c y=>cases z with
   | nil=>cases h'
   | cons e z =>
    unfold Builtin.Bytes.order at h h' ⊢
    rcases G7 a c with k | k | k
    ·rcases G7 c e with l | l | l
     ·simp [UInt8.lt_trans k l]
     ·subst l; simp [k]
     ·have l':¬ c < e:=fun q=>UInt8.lt_irrefl _ (UInt8.lt_trans l q)
      simp [l,l'] at h'
    ·subst k
     rcases G7 a e with l | l | l
     ·simp [l]
     ·subst l
      simp [UInt8.lt_irrefl] at h h' ⊢
      exact ih h h'
     ·have l':¬ a < e:=fun q=>UInt8.lt_irrefl _ (UInt8.lt_trans l q)
      simp [l,l'] at h'
    ·have k':¬ a < c:=fun q=>UInt8.lt_irrefl _ (UInt8.lt_trans k q)
     simp [k,k'] at h
theorem GP:Strict ltB where
 irr a:=by unfold ltB; rw [LA]; rfl
 tr a b c h1 h2:=by
  unfold ltB at *
  rw [beq_iff_eq] at *
  exact Om h1 h2
 tot a b h1 h2:=by
  unfold ltB at *
  have s:=IE a.toList b.toList
  have:Builtin.Bytes.order a.toList b.toList= .eq:=by
   cases e:Builtin.Bytes.order a.toList b.toList with
   | eq=>rfl
   | lt=>rw [e] at h1; exact absurd h1 (by decide)
   | gt =>
    rw [e] at s
    cases f:Builtin.Bytes.order b.toList a.toList with
    | eq=>rw [f] at s; cases s
    | gt=>rw [f] at s; cases s
    | lt=>rw [f] at h2; exact absurd h2 (by decide)
  exact Array.toList_inj.mp (Ki this)
section
variable {prog:Program} {w:World} {A:Around} {E:Value→Shared→Prop} {s:Shared}
theorem Gv {x y:Array UInt8} {t u:Tok} {Q:Bool→Shared→Prop} (h:Q (ltB x y) s):wpAny (model prog w) A (oneLt' true (.bytes x t) (.bytes y u)) Q E s:=by
 rw [oneLt'_eq]
 simp only [if_true]
 refine wpAny_bind (wpAny_cRoomFor_byValue rfl ?_)
 refine wpAny_bind (wpAny_callSpecialIfBound?_slot (typeIs_bytes s x t) EY (call_gives EY (typeIs_bytes s x t) HF (Io _ _) (HQ x t y u) ?_))
 exact wpAny_truthy_bool h
end
section
variable {w:World} {b:Heap} {C:Cx} {ρ:LM} {σ:MS} {d:Nat}
theorem G4 {h:Heap} {ms:List MV} {vs:List Value} (r:VRs b h ms vs) {i:Nat} (hi:i < ms.length):VR b h (ms.getD i .none) (vs.getD i .none):=by
 have e:ms[i]?=some (ms.getD i .none):=by simp [hi]
 refine Af (Dp r e) fun u hu ru=> ?_
 have:vs.getD i .none=u:=by rw [List.getD_eq_getElem?_getD,hu]; rfl
 rw [this]; exact ru
theorem J6 {h:Heap} {ms:List MV} {vs:List Value} (r:VRs b h ms vs):∀ {p:List Nat},(∀ i∈p,i < ms.length)→VRs b h (p.map fun i=>ms.getD i .none) (p.map fun i=>vs.getD i .none)
 | [],_=>rfl
 | i::p,hp=>⟨_,_,rfl,G4 r (hp i (.head _)),J6 r fun j hj=>hp j (.tail _ hj)⟩
theorem Oj {β:Type} {R:β→β→Prop} {l:List β} (h:l.length < 2):l.Pairwise R:=by
 match l,h with
 | [],_=>exact .nil
 | [x],_=>exact List.pairwise_singleton _ _
theorem KG {α:Type} {Q:MV→MS→Prop} {a:Addr} {rs:List α} (f:α→MV) (key:α→Array UInt8) (κ:SortKind) (e:σ a=some (.list (rs.map f))) (h6:rs.length≤6) (hn:(rs.map key).Nodup)
  (hk:∀ (A:Around) (s':Shared) (vs:List Value),VRs b s'.heap (rs.map f) vs→2≤vs.length→∀ Q:SortKind→Shared→Prop,Q κ s'→wpAny (model pw w) A (keyKind' vs.toArray) Q noE s')
  (hask:∀ (A:Around) (s':Shared) (x y:α) (v u:Value) C,Rm d A→VR b s'.heap (f x) v→VR b s'.heap (f y) u→key x≠key y→C (ltB (key x) (key y)) s'→wpAny (model pw w) A.in1.in1 (keyLt' κ v u) C (fun U U=>False) s')
  (q:∀ (rs':List α) (c:Addr),rs'.Perm rs→(rs'.map key).Pairwise (fun x y=>ltB x y=true)→σ c=none→Q (.ref c) (σ.set c (.list (rs'.map f)))):WC w b d (.builtin "sorted") [.ref a] σ Q:=fun A s vs rm S q0_=>BD q0_ fun v U e1 rv e2=>by
 cases e2
 subst e1
 have rv:v= .ref a:=rv
 subst rv
 refine Af (Bo S e) fun items t1 r1=> ?_
 obtain ⟨vs,rfl⟩:∃ vs:List Value,items=vs.toArray:=⟨items.toList,by simp⟩
 have r1:VRs b s.heap (rs.map f) vs:=by simpa using r1
 have hz:vs.length=rs.length:=by rw [AH r1,List.length_map]
 have up:∀ s':Shared,(∀ x o,s.heap.get? x=some o→s'.heap.get? x=some o)→VRs b s'.heap (rs.map f) vs:=fun s' k =>
  DM (fun U U q0_=>by obtain ⟨o,ho,r⟩:=q0_; exact ⟨o,k _ _ ho,r⟩) (fun _ _ _ ⟨o,ho,r⟩=>⟨o,k _ _ ho,r⟩) _ _ r1
 have main:∃ (out:List Value) (rs':List α),JZ vs (fun i j=>ltB ((rs.map key).getD i #[]) ((rs.map key).getD j #[])) out∧rs'.Perm rs∧(rs'.map key).Pairwise (fun x y=>ltB x y=true)∧VRs b s.heap (rs'.map f) out:=by
  by_cases h2:vs.length < 2
  ·refine DZ vs rs (.inl ⟨h2,rfl⟩) (.refl _) ?_ r1
   exact Oj (by rw [List.length_map,←hz]; exact h2)
  ·have hlen:(rs.map key).length=vs.length:=by rw [List.length_map,hz]
   refine Br (Ln GP #[] hn (Nat.le_trans (Nat.le_of_not_lt h2) (Nat.le_of_eq (Eq.symm hlen))) (Nat.le_trans (Nat.le_trans (Nat.le_of_eq hlen) (Nat.le_of_eq hz)) h6)) fun p hp hpm hpw=> ?_
   rw [hlen] at hp hpm
   have hlt:∀ i∈p.toList,i < rs.length:=fun i hi=>by have:=List.mem_range.mp (hpm.mem_iff.mp hi); exact Nat.lt_of_lt_of_eq this hz
   have hps:p.size=vs.length:=by rw [← Array.length_toList,hpm.length_eq,List.length_range]
   have hne:0 < rs.length:=Nat.lt_of_succ_le (Nat.add_one_le_add_one_iff.mp (Nat.le_trans (Nat.le_trans (Nat.le_of_not_lt h2) (Nat.le_of_eq hz)) (Nat.le_add_right _ _)))
   obtain ⟨d0,_⟩:=List.exists_mem_of_length_pos hne
   refine DZ (p.toList.map fun i=>vs.getD i .none) (p.toList.map fun i=>rs.getD i d0) (.inr ⟨Nat.le_of_not_lt h2,p,hp,hps,rfl⟩) ?_ ?_ ?_
   ·have h1:=hpm.map fun i=>rs.getD i d0
    have h2:(List.range vs.length).map (fun i=>rs.getD i d0)=rs:=by
     rw [hz]
     apply List.ext_getElem (by simp)
     intro i h1 h2
     simp [h2]
    rwa [h2] at h1
   ·rw [List.map_map]
    have e:(p.toList.map fun i=>(rs.map key).getD i #[])=p.toList.map (key ∘ fun i=>rs.getD i d0):=List.map_congr_left fun i hi=>by
     have:=hlt i hi
     simp [this]
    rw [← e]; exact hpw
   ·rw [List.map_map]
    have e:p.toList.map (f ∘ fun i=>rs.getD i d0)=p.toList.map fun i=>(rs.map f).getD i .none:=List.map_congr_left fun i hi=>by
     have:=hlt i hi
     simp [this]
    rw [e]
    exact J6 r1 fun i hi=>by rw [List.length_map]; exact hlt i hi
 refine FG main fun out rs' ho hperm hpw rout=> ?_
 refine Ls (c:=fun i j=>ltB ((rs.map key).getD i #[]) ((rs.map key).getD j #[])) (κ:=κ) (E:=noE) t1 (by lia) (fun s' k h2=>hk _ s' vs (up s' k) h2) (fun s' k i j C hi hj hij hC=> ?_) ho ?_
 ·unfold kas_ask
  have hne:0 < rs.length:=Nat.lt_of_lt_of_le (Nat.zero_lt_of_lt hj) (Nat.le_of_eq hz)
  obtain ⟨d0,_⟩:=List.exists_mem_of_length_pos hne
  have gi:(rs.map f).getD i .none=f (rs.getD i d0)∧(rs.map key).getD i #[]=key (rs.getD i d0):=by
   have:i < rs.length:=Nat.lt_of_lt_of_eq hi hz
   simp [this]
  have gj:(rs.map f).getD j .none=f (rs.getD j d0)∧(rs.map key).getD j #[]=key (rs.getD j d0):=by
   have:j < rs.length:=Nat.lt_of_lt_of_eq hj hz
   simp [this]
  have ri:=G4 (up s' k) (i:=i) (by rw [List.length_map]; exact Nat.lt_of_lt_of_eq hi hz)
  have rj:=G4 (up s' k) (i:=j) (by rw [List.length_map]; exact Nat.lt_of_lt_of_eq hj hz)
  rw [gi.1] at ri
  rw [gj.1] at rj
  refine hask A s' _ _ _ _ C rm ri rj (fun c=>hij ?_) (by rw [← gi.2,←gj.2]; exact hC)
  rw [← gi.2,←gj.2] at c
  have li:i < (rs.map key).length:=by rw [List.length_map]; exact Nat.lt_of_lt_of_eq hi hz
  have lj:j < (rs.map key).length:=by rw [List.length_map]; lia
  have c':(rs.map key)[i]=(rs.map key)[j]:=by simpa [show i < rs.length by lia,show j < rs.length by lia] using c
  rcases Nat.lt_trichotomy i j with z | z | z
  ·exact absurd c' ((List.pairwise_iff_getElem.mp hn) i j li lj z)
  ·exact z
  ·exact absurd c'.symm ((List.pairwise_iff_getElem.mp hn) j i lj li z)
 ·obtain ⟨en,he⟩:=sortedAll_at s.heap vs out.toArray
  have k:∀ x o,s.heap.get? x=some o→(sortedAll s.heap vs out.toArray).get? x=some o:=fun U U=>sortedAll_old
  have n1:s.heap.get? (s.heap.objs.size+1)=none:=BG (Nat.le_succ _)
  have ow1:¬ AF σ (s.heap.objs.size+1):=fun ow=>by obtain ⟨o,ho⟩:=Cd S ow; rw [n1] at ho; cases ho
  have na:σ (s.heap.objs.size+1)=none:=by
   cases q:σ (s.heap.objs.size+1) with
   | none=>rfl
   | some o=>exact absurd (BK q) ow1
  refine ⟨_,_,q rs' _ hperm hpw na,rfl,S.new ow1 (S.low_new n1) (fun d e=>by cases e) k fun U KS=>⟨out.toArray,en,he,?_⟩,Ev.new' na n1 (fun d e=>by cases e) k rfl rfl⟩
  exact KS _ _ rout
theorem Nf {h:Heap} {xs:List (Array UInt8)}:∀ {vs:List Value},VRs b h (xs.map .bytes) vs→∀ v∈vs,∃ x t,v= .bytes x t:=by
 induction xs with
 | nil=>intro vs r v hv; have r:vs=[]:=r; subst r; exact (List.not_mem_nil hv).elim
 | cons x xs ih =>
  intro vs r0 v hv
  refine BD r0 fun u us e ht r=> ?_
  subst e
  exact (List.mem_cons.mp hv).elim (fun z=>ht.elim fun t ht=>⟨x,t,z.trans ht⟩) (ih r v)
theorem KH {Q:MV→MS→Prop} {a:Addr} {xs:List (Array UInt8)} (e:σ a=some (.list (xs.map .bytes))) (h6:xs.length≤6) (hn:xs.Nodup)
  (q:∀ (xs':List (Array UInt8)) (c:Addr),xs'.Perm xs→xs'.Pairwise (fun x y=>ltB x y=true)→σ c=none→Q (.ref c) (σ.set c (.list (xs'.map .bytes)))):WC w b d (.builtin "sorted") [.ref a] σ Q:=by
 refine KG .bytes id oneType' e h6 (by simpa using hn) (fun A s' vs r h2 Q hQ=> ?_) (fun A s' x y v u C rm rx ry ne hC=> ?_) fun rs' c p pw n=>q rs' c p (by simpa using pw) n
 ·refine kas_kind (T:= .type "bytes") h2 (fun v hv=> ?_) (by decide +kernel) (by decide +kernel) hQ
  obtain ⟨x,t,rfl⟩:=Nf r v hv
  exact Looks.of_pure rfl
 ·obtain ⟨t,rfl⟩:=rx
  obtain ⟨t',rfl⟩:=ry
  rw [keyLt'_oneType]
  exact Gv hC
theorem Nl {h:Heap} {rs:List (Array UInt8×List MV)}:∀ {vs:List Value},VRs b h (rs.map fun r=>MV.tup (.bytes r.1::r.2)) vs→∃ fs,KatTups h vs fs∧fs.length=vs.length∧∀ v∈fs,∃ x t,v= .bytes x t:=by
 induction rs with
 | nil=>intro vs r; have r:vs=[]:=r; subst r; exact ⟨[],trivial,rfl,fun U h=>(List.not_mem_nil h).elim⟩
 | cons p rs ih =>
  intro vs r0
  refine BD r0 fun u us e r1 r=> ?_
  subst e
  refine BD r1 fun a items ha it r2=> ?_
  subst ha
  refine BD r2 fun v0 vr hi ht U=> ?_
  refine Br it fun o ho hc hd=>hd.elim fun n hd=> ?_
  refine Br (ih r) fun fs h1 h2 h3=> ?_
  refine Cu (v0::fs) (KatTups.cons ho hc hd ?_ h1) (congrArg Nat.succ h2) fun v hv=>(List.mem_cons.mp hv).elim (fun z=>ht.elim fun t ht=>⟨p.1,t,z.trans ht⟩) (h3 v)
  rw [← Array.getElem?_toList,hi]; rfl
theorem OX {Q:MV→MS→Prop} {a:Addr} {rs:List (Array UInt8×List MV)} (e:σ a=some (.list (rs.map fun r=>MV.tup (.bytes r.1::r.2)))) (h6:rs.length≤6) (hn:(rs.map (·.1)).Nodup)
  (q:∀ (rs':List (Array UInt8×List MV)) (c:Addr),rs'.Perm rs→(rs'.map (·.1)).Pairwise (fun x y=>ltB x y=true)→σ c=none→Q (.ref c) (σ.set c (.list (rs'.map fun r=>MV.tup (.bytes r.1::r.2))))):WC w b d (.builtin "sorted") [.ref a] σ Q:=by
 refine KG (fun r=>MV.tup (.bytes r.1::r.2)) (·.1) (tuples' true) e h6 hn (fun A s' vs r h2 Q hQ=> ?_) (fun A s' x y v u C rm rx ry ne hC=> ?_) q
 ·refine hide fun P_ k_=> ?_
  refine Br (Nl r) fun fs h1 hl h3=> ?_
  refine k_ ?_
  refine kat_kind (T:= .type "bytes") h1 (Nat.lt_of_succ_le (Nat.add_one_le_add_one_iff.mp (Nat.le_trans (Nat.le_trans h2 (Nat.le_of_eq (Eq.symm hl))) (Nat.le_add_right _ _)))) (fun v hv=> ?_) (by decide +kernel) hQ
  refine hide fun P_ k_=> ?_
  obtain ⟨x,t,rfl⟩:=h3 v hv
  refine k_ ?_
  exact Looks.of_pure rfl
 ·refine hide fun P_ k_=> ?_
  obtain ⟨a1,i1,rfl,⟨o1,ho1,_,n1,hd1⟩,v1,w1,hi1,⟨t1,rfl⟩,_⟩:=rx
  refine k_ ?_
  refine hide fun P_ k_=> ?_
  obtain ⟨a2,i2,rfl,⟨o2,ho2,_,n2,hd2⟩,v2,w2,hi2,⟨t2,rfl⟩,_⟩:=ry
  refine k_ ?_
  refine kat_lt ho1 hd1 ho2 hd2 ?_
  rw [hi1,hi2]
  have ef:(x.1.toList==y.1.toList)=false:=by
   rw [beq_eq_false_iff_ne]
   exact fun c=>ne (Array.toList_inj.mp c)
  have eq:=EqAt.of_rc (A:=A.in1.in1) (s:=s') (v:= .bytes x.1 t1) (u:= .bytes y.1 t2) rfl (fun e=>absurd (Value.bytes.inj e).1 ne) (RcAt.bytes_bytes x.1 t1 y.1 t2)
  show wpAny _ _ (eqBool (.bytes x.1 t1) (.bytes y.1 t2)) _ _ s'
  refine eq pw w _ _ ?_
  rw [ef]
  exact kat_no (Gv hC)
end
section
variable {w:World} {b:Heap} {C:Cx} {ρ:LM} {σ:MS} {Q:MV→MS→Prop} {d:Nat}
theorem SN {a c:Addr} {xs ys:List MV} (e:σ a=some (.list xs)) (f:σ c=some (.list ys)) (hz:xs.length+ys.length≤100000) (q:∀ z,σ z=none→Q (.ref z) (σ.set z (.list (xs++ys)))):WO2 w b d (binaryOp .Add) (.ref a) (.ref c) σ Q:=fun A s v u rm S rv ru=>by
 have rv:v= .ref a:=rv
 have ru:u= .ref c:=ru
 subst rv ru
 refine CX (B1 S e) fun i1 n1 g1 r1=> ?_
 refine CX (B1 S f) fun i2 n2 g2 r2=> ?_
 have h1:i1.size=xs.length:=AH r1
 have h2:i2.size=ys.length:=AH r2
 have r:VRs b s.heap (xs++ys) (i1++i2).toList:=by rw [Array.toList_append]; exact BI r1 r2
 refine CG (Hk S r) fun n S' e'=> ?_
 refine PySem.P.add_list g1 g2 ?_ (by rw [sizeLine_eq]; lia)
 exact DZ _ _ (q _ n) rfl S' e'
theorem Q4 {x:Str}:GM w b (S "split") (.str x) σ (.builtin "str.split") [.str x]:=fun A s v pl P S r q=>by
 obtain ⟨t,r⟩:=r
 subst r
 exact getMethod_builtin (typeIs_str s x t) PySem.F.plainAttrs_str PySem.F.slot_str_split PySem.F.type_str_split (fun a' e=>by cases e) (q [.str x t] s.toks ⟨_,_,rfl,⟨t,rfl⟩,rfl⟩)
theorem J4 {h:Heap}:∀ (n:Nat) (ss:List Str),VRs b h (ss.map .str) (strsFrom n ss)
 | _,[]=>rfl
 | n,x::ss=>⟨_,_,rfl,⟨_,rfl⟩,J4 (n+1) ss⟩
theorem Rb {x y:Str} {ps:List Str} (h1:(decide (x.length < y.length) || decide (PySem.Builtin.Str.strKind x < PySem.Builtin.Str.strKind y))=false) (hy:(y.length==0)=false)
  (hf:(PySem.Builtin.Str.occurrences x y 0 x.length (x.length+1)).isEmpty=false) (hx:Nat.ble x.length 100000=true) (hp:PySem.Builtin.Str.partsBetween x (PySem.Builtin.Str.occurrences x y 0 x.length (x.length+1)) y.length=ps) (hn:Nat.ble ps.length 100000=true)
  (q:∀ z,σ z=none→Q (.ref z) (σ.set z (.list (ps.map .str)))):WC w b d (.builtin "str.split") [.str x,.str y] σ Q:=fun A s vs rm S q0_=>by
 obtain ⟨v,_,e1,⟨t,rv⟩,u,_,e2,⟨t',ru⟩,e3⟩:=q0_
 cases e3
 subst e1 e2 rv ru
 have hx:=Nat.le_of_ble_eq_true hx
 have hn:=Nat.le_of_ble_eq_true hn
 refine call_meets PySem.F.slot_str_split (typeIs_str s x t) PySem.F.entry_str_split (PySem.F.args_str_split_2 _ _) (meets_str_split_sep x y t t' h1 hy hf (by rw [sizeLine_eq]; exact Nat.le_of_lt (Nat.lt_of_le_of_lt hx (by decide))) (by rw [hp,sizeLine_eq]; exact Nat.le_of_lt (Nat.lt_of_le_of_lt hn (by decide)))) ?_
 rw [hp]
 refine CG (Hk S (J4 s.toks ps)) fun n S' e'=> ?_
 exact DZ _ _ (q _ n) rfl S' ⟨e'.dom,e'.gens,e'.os,e'.keep,e'.new⟩
end
end
section
variable {b:Heap} {env:Env} {ia:Addr}
theorem Eu:∀ h:Heap,(∃ o vs,h.get? ia=some o∧o.data= .fields vs)→∀ ρ σ,Loc b env ρ σ h→¬ BL env ia:=by
 rintro h ⟨o,vs,ho,hd⟩ ρ σ L (e | ⟨y,hy⟩)
 ·refine Sw L.ns fun m o' es ep ho' hd' U=> ?_
  rw [← e,ho] at ho'; cases ho'; rw [hd] at hd'; cases hd'
 ·obtain ⟨⟨o',v',ho',hd'⟩,_⟩:=L.cells y ia hy
  rw [ho] at ho'; cases ho'; rw [hd] at hd'; cases hd'
theorem MX {σ3:MS} {ρ3:LM} {s3:Shared} {oi:Obj} {vi:Array Value} (hoi:s3.heap.get? ia=some oi) (hdi:oi.data= .fields vi) (lo:b.get? ia=none) (ow3:¬ AF σ3 ia) (S3:St b σ3 s3.heap) (L3:Loc b env ρ3 σ3 s3.heap) :
  ∀ s4:Shared,(∀ a o,a≠ia→s3.heap.get? a=some o→s4.heap.get? a=some o)→St b σ3 s4.heap∧Loc b env ρ3 σ3 s4.heap∧∀ v u,VR b s3.heap v u→VR b s4.heap v u:=by
 intro s4 k4
 have xo:XOk b (fun a=>a=ia) s3.heap:=GO lo (fun o ho xs n e=>by rw [hoi] at ho; cases ho; rw [hdi] at e; cases e)
 have S4:St b σ3 s4.heap:=S3.keep (X:=fun a=>a=ia) xo (fun a e=>e▸ow3) (fun a o e n=>k4 a o n e)
 obtain ⟨K,_⟩:=D6 S3 (DN xo) (fun a o e n=>k4 a o n e)
 have nx:=Eu _ ⟨oi,vi,hoi,hdi⟩ _ _ L3
 have hL:∀ m,s3.heap.Ns env.locals m→s4.heap.Ns env.locals m:=fun m q0_=>NH q0_ fun o es ep ho r=>⟨o,es,ep,k4 _ _ (fun z=>nx (.inl z.symm)) ho,r⟩
 refine Cv S4 ⟨fun y mv' hy=> ?_,let ⟨m,hm⟩:=L3.ns
 ⟨m,hL m hm⟩,L3.low,L3.own,fun y c hc=> ?_⟩ K
 ·refine Af (L3.val y mv' hy) fun u hu ru=> ?_
  refine AQ u ?_ (K _ _ ru)
  rcases hu with ⟨k,m',hm',hx⟩ | ⟨k,c,o,hc,ho,hd⟩
  ·exact .inl ⟨k,m',hL m' hm',hx⟩
  ·exact .inr ⟨k,c,o,hc,k4 _ _ (fun z=>nx (.inr ⟨y,z▸hc⟩)) ho,hd⟩
 ·obtain ⟨⟨o,v,ho,hd⟩,r⟩:=L3.cells y c hc
  exact ⟨⟨o,v,k4 _ _ (fun z=>nx (.inr ⟨y,z▸hc⟩)) ho,hd⟩,r⟩
theorem Gw {X:Addr→Prop} {σ σ1:MS} {s s1:Shared} (e1:Ev X σ s σ1 s1) {a:Addr} (fr:s1.heap.get? a=none):s.heap.get? a=none:=by
 cases q:s.heap.get? a with
 | none=>rfl
 | some o=>obtain ⟨o',h'⟩:=e1.dom a o q; rw [fr] at h'; cases h'
theorem MW {σ3:MS} {s3 s4:Shared} (ps:Nat→Heap→Prop) {i:Nat} (g4:s4.gens=s3.gens) (o4:s4.os=s3.os) (k4:∀ a o,a≠ia→s3.heap.get? a=some o→s4.heap.get? a=some o) (hp:∃ o vs,s4.heap.get? ia=some o∧o.data= .fields vs):Ev (fun a=>BL env a∨a=ia) σ3 s3 σ3 s4:=by
 refine ⟨fun a o e=> ?_,g4,o4,fun a o e U nx=>k4 a o (fun z=>nx (.inr z)) e,fun U U U z=>z⟩
 by_cases z:a=ia
 ·obtain ⟨o',v',ho',_⟩:=hp; exact ⟨o',z▸ho'⟩
 ·exact ⟨o,k4 a o z e⟩
theorem OJ {σ σ6:MS} {s s6:Shared} (e46:Ev (fun a=>BL env a∨a=ia) σ s σ6 s6) (fr2:s.heap.get? ia=none):Ev (BL env) σ s σ6 s6:=by
 refine ⟨e46.dom,e46.gens,e46.os,fun a o e no nx=>e46.keep a o e no fun q=>q.elim nx fun z=> ?_,e46.new⟩
 rw [z,fr2] at e; cases e
theorem OK {σ σ3:MS} {s s3 s4:Shared} (e3:Ev (fun a=>BL env a∨a=ia) σ s σ3 s3) (g4:s4.gens=s3.gens) (o4:s4.os=s3.os) (k4:∀ a o,a≠ia→s3.heap.get? a=some o→s4.heap.get? a=some o) (fr2:s.heap.get? ia=none):Ev (BL env) σ s σ3 s4:=by
 refine ⟨fun a o e=> ?_,g4.trans e3.gens,o4.trans e3.os,fun a o e no nx=> ?_,fun a o e q=>e3.new a o e q⟩
 ·obtain ⟨o',h'⟩:=e3.dom a o e
  exact ⟨o',k4 a o' (fun z=>by rw [z,fr2] at e; cases e) h'⟩
 ·have ne:a≠ia:=fun z=>by rw [z,fr2] at e; cases e
  exact k4 a o ne (e3.keep a o e no fun q=>q.elim nx ne)
end
inductive LoopI (b:Heap) (env:Env) (σ:MS) (s:Shared) (ia:Addr) (ps:Nat→Heap→Prop) (ok:MS→Prop) (len:Nat) (I:Nat→LM→MS→Prop) (n:Nat) (s':Shared):Prop where
 | mk (i:Nat) (ρ':LM) (σ':MS) (hn:n=len+1-i) (hle:i≤len) (hI:I i ρ' σ') (hok:ok σ') (S:St b σ' s'.heap) (L:Loc b env ρ' σ' s'.heap) (e:Ev (fun a=>BL env a∨a=ia) σ s σ' s') (ow:¬ AF σ' ia) (p:ps i s'.heap)
inductive LoopEnd (ok:MS→Prop) (I:LM→MS→Prop) (ρ2:LM) (σ2:MS):Prop where
 | mk (h:ok σ2) (ρ':LM) (s:Sub ρ' ρ2) (i:I ρ' σ2)
noncomputable abbrev OH (ok:MS→Prop) (I:Nat→LM→MS→Prop) (Q:MF→LM→MS→Prop) (i:Nat):MF→LM→MS→Prop:=fun mf ρ2 σ2=>match mf with
 | .next=>LoopEnd ok (I (i+1)) ρ2 σ2
 | .cont=>LoopEnd ok (I (i+1)) ρ2 σ2
 | .brk=>Q .next ρ2 σ2
 | .ret v=>Q (.ret v) ρ2 σ2
inductive ForD (w:World) (b:Heap) (C:Cx) (x:Str) (body:List Stmt) (Q:MF→LM→MS→Prop) (ρ:LM) (mv:MV) (σ1:MS):Prop where
 | mk (ok:MS→Prop) (elems:List MV) (I:Nat→LM→MS→Prop) (hi:WI w b C.d mv σ1 ok elems) (hok:ok σ1) (h0:∃ ρ',Sub ρ' ρ∧I 0 ρ' σ1)
  (turn:∀ i v ρ σ,elems[i]?=some v→I i ρ σ→ok σ→WS w b C (execs body) (ρ.set x v) σ (OH ok I Q i)) (fin:∀ ρ σ,I elems.length ρ σ→ok σ→Q .next ρ σ)
inductive ForN (w:World) (b:Heap) (C:Cx) (x:Str) (body:List Stmt) (Q:MF→LM→MS→Prop) (ρ:LM) (mv:MV) (σ1:MS):Prop where
 | mk (ok:MS→Prop) (elems:List MV) (I:Nat→LM→MS→Prop) (hi:WI w b C.d mv σ1 ok elems) (hok:ok σ1) (h0:∃ ρ',Sub ρ' ρ∧I 0 ρ' σ1)
  (turn:∀ i v ρ σ,elems[i]?=some v→I i ρ σ→ok σ→NS w b C (execs body) (ρ.set x v) σ (OH ok I Q i)) (fin:∀ ρ σ,I elems.length ρ σ→ok σ→Q .next ρ σ)
section
variable {w:World} {b:Heap} {C:Cx} {ρ:LM} {σ:MS} {Q:MF→LM→MS→Prop}
theorem EZ {x:Str} {p pos:Pos} {it:Expr} {body:List Stmt}
  (h:WE w b C (eval it) ρ σ (ForD w b C x body Q ρ))
  (hk:AX C x=true:=by first | rfl | decide +kernel) (hs:∀ env v,foldedSetIterable it env v=pure v:=by intro _ _; rfl):WS w b C (exec (.For (.Name x p) it body [] pos)) ρ σ Q:=fun A env s c S L=>by
 refine wpAny_For (wpAny_mono (h A env s c S L) (fun xv s1 g_=>g_.elim fun mv σ1 ⟨ok,elems,I,hi,hok,⟨ρ',sb,hI⟩,turn,fin⟩ r1 S1 e1=> ?_) fun U U x=>x) (hs env)
 refine hi A s1 xv _ c.room S1 r1 fun ia s2 ps it p0 fr lo ow g os k=> ?_
 have S2:=S1.grow k
 have L1:=e1.loc S L
 have L2:Loc b env ρ σ1 s2.heap:=(Ev.grow (X:=noX) g os k:Ev noX σ1 s1 σ1 s2).loc S1 L1
 have e2:Ev (BL env) σ s σ1 s2:=e1.lift.trans (Ev.grow g os k)
 have fr2:=Gw e1 fr
 refine codeAny_forLoop_any (LoopI b env σ s ia ps ok elems.length I) ?_ (elems.length+1)
  ⟨0,ρ',σ1,rfl,Nat.zero_le _,hI,hok,S2,L2.sub sb,e2.weaken fun U=> .inl,ow,p0⟩
 rintro n s3 ⟨i,ρ3,σ3,rfl,hle,hI3,hok3,S3,L3,e3,ow3,p3⟩
 refine CX (it.obj i _ p3) fun oi vi hoi hdi=> ?_
 have step:=MX hoi hdi lo ow3 S3 L3
 cases hv:elems[i]? with
 | none =>
  have hsz:i=elems.length:=Nat.le_antisymm hle (by simpa using hv)
  subst hsz
  refine wpAny_mono (it.stop _ A s3 σ3 _ c.room S3 hok3 p3 fun s4 g4 o4 k4=> ?_) (fun U U z=>z) fun U U x=>x.elim
  refine CG (step s4 k4) fun S4 L4 K4=> ?_
  refine wpAny_execs_nil ⟨.next,ρ3,σ3,fin ρ3 σ3 hI3 hok3,rfl,S4,L4,OK e3 g4 o4 k4 fr2⟩
 | some v =>
  have hlt:i < elems.length:=(List.getElem?_eq_some_iff.mp hv).1
  refine wpAny_mono (it.next i _ A s3 σ3 v _ c.room S3 hok3 p3 hv fun u s4 r4 p4 g4 o4 k4=> ?_) (fun U U z=>z) fun U U x=>x.elim
  refine CG (step s4 k4) fun S4 L4 K4=> ?_
  have r4':=K4 _ _ r4
  show wpAny _ A (letOwnedTupleGo (.Name x p) (.ref ia) u) _ _ s4
  refine wpAny_pure ?_
  refine wpAny_mono (wpAny_bind (m:=standAt p) (wpAny_standAt (wpAny_bindName (CB (E:=noE) (P:=fun U s5=>wpAny (model pw w) A (execs body env) (fun f s₃=>match f with
      | .next | .cont=>∃ m,m < elems.length+1-i∧LoopI b env σ s ia ps ok elems.length I m s₃
      | .brk=>Cy b env σ s Q .next s₃
      | .ret v=>Cy b env σ s Q (.ret v) s₃) noE s5) c S4 L4 hk r4' fun s5 S5 L5 e5=> ?_)))) (fun U s5 z=>wpAny_mono z (fun f s6 z=> ?_) fun U U x=>x.elim) fun U U x=>x.elim
  ·have p5:ps (i+1) s5.heap:=by
    refine it.keep _ _ _ p4 fun o ho=> ?_
    refine e5.keep _ _ ho ow3 ?_
    have ⟨o',v',ho',hd'⟩:=it.obj _ _ p4
    exact Eu _ ⟨o',v',ho',hd'⟩ _ _ L4
   refine wpAny_mono (turn i v ρ3 σ3 hv hI3 hok3 A env s5 c S5 L5) (fun f s6 g_=>g_.elim fun mf ρ6 σ6 q r S6 L6 e6=> ?_) fun U U x=>x
   have e4:Ev (fun a=>BL env a∨a=ia) σ3 s3 σ3 s4:=MW (i:=i) ps g4 o4 k4 (it.obj _ _ p4)
   have e46:Ev (fun a=>BL env a∨a=ia) σ s σ6 s6:=((e3.trans e4).trans (e5.weaken fun U=> .inl)).trans (e6.weaken fun U=> .inl)
   have ow6:¬ AF σ6 ia:=fun z=>by
    refine CX (it.obj _ _ p5) fun o' v' ho' U=> ?_
    exact ow3 (e6.new _ _ ho' z)
   have p6:ps (i+1) s6.heap:=by
    refine it.keep _ _ _ p5 fun o ho=>e6.keep _ _ ho ow3 ?_
    have ⟨o',v',ho',hd'⟩:=it.obj _ _ p5
    exact Eu _ ⟨o',v',ho',hd'⟩ _ _ L5
   have out:=OJ e46 fr2
   cases mf with
   | next=>have r:f= .next:=r; subst r; obtain ⟨hok6,ρ',sb',hI6⟩:=q; exact ⟨elems.length+1-(i+1),nLt hlt,i+1,ρ',σ6,rfl,hlt,hI6,hok6,S6,L6.sub sb',e46,ow6,p6⟩
   | cont=>have r:f= .cont:=r; subst r; obtain ⟨hok6,ρ',sb',hI6⟩:=q; exact ⟨elems.length+1-(i+1),nLt hlt,i+1,ρ',σ6,rfl,hlt,hI6,hok6,S6,L6.sub sb',e46,ow6,p6⟩
   | brk=>have r:f= .brk:=r; subst r; exact ⟨.next,ρ6,σ6,q,rfl,S6,L6,out⟩
   | ret mv=>obtain ⟨v,rfl,r⟩:=r; exact ⟨.ret mv,ρ6,σ6,q,⟨v,rfl,r⟩,S6,L6,out⟩
  ·cases f <;> exact z
theorem LD {x:Str} {p pos:Pos} {it:Expr} {body:List Stmt}
  (h:WE w b C (eval it) ρ σ (ForN w b C x body Q ρ))
  (hk:AX C x=true:=by first | rfl | decide +kernel) (hs:∀ env v,foldedSetIterable it env v=pure v:=by intro _ _; rfl):NS w b C (exec (.For (.Name x p) it body [] pos)) ρ σ Q:=fun A env s c S L=>by
 refine PB (wpAny_mono (h A env s c S L) (fun xv s1 g_=>g_.elim fun mv σ1 ⟨ok,elems,I,hi,hok,⟨ρ',sb,hI⟩,turn,fin⟩ r1 S1 e1=> ?_) fun U U x=>x) (hs env)
 refine hi A s1 xv _ c.room S1 r1 fun ia s2 ps it p0 fr lo ow g os k=> ?_
 have S2:=S1.grow k
 have L1:=e1.loc S L
 have L2:Loc b env ρ σ1 s2.heap:=(Ev.grow (X:=noX) g os k:Ev noX σ1 s1 σ1 s2).loc S1 L1
 have e2:Ev (BL env) σ s σ1 s2:=e1.lift.trans (Ev.grow g os k)
 have fr2:=Gw e1 fr
 refine Ii (LoopI b env σ s ia ps ok elems.length I) ?_ (elems.length+1)
  ⟨0,ρ',σ1,rfl,Nat.zero_le _,hI,hok,S2,L2.sub sb,e2.weaken fun U=> .inl,ow,p0⟩
 rintro n s3 ⟨i,ρ3,σ3,rfl,hle,hI3,hok3,S3,L3,e3,ow3,p3⟩
 refine CX (it.obj i _ p3) fun oi vi hoi hdi=> ?_
 have step:=MX hoi hdi lo ow3 S3 L3
 cases hv:elems[i]? with
 | none =>
  have hsz:i=elems.length:=Nat.le_antisymm hle (by simpa using hv)
  subst hsz
  refine wpAny_mono (it.stop _ A s3 σ3 _ c.room S3 hok3 p3 fun s4 g4 o4 k4=> ?_) (fun U U z=>z) fun U U x=>x.elim
  refine CG (step s4 k4) fun S4 L4 K4=> ?_
  refine wpAny_execs_nil ⟨.next,ρ3,σ3,fin ρ3 σ3 hI3 hok3,rfl,S4,L4,OK e3 g4 o4 k4 fr2⟩
 | some v =>
  have hlt:i < elems.length:=(List.getElem?_eq_some_iff.mp hv).1
  refine wpAny_mono (it.next i _ A s3 σ3 v _ c.room S3 hok3 p3 hv fun u s4 r4 p4 g4 o4 k4=> ?_) (fun U U z=>z) fun U U x=>x.elim
  refine CG (step s4 k4) fun S4 L4 K4=> ?_
  have r4':=K4 _ _ r4
  show wpAny _ A (letOwnedTupleGo (.Name x p) (.ref ia) u) _ _ s4
  refine wpAny_pure ?_
  refine wpAny_mono (wpAny_bind (m:=standAt p) (wpAny_standAt (wpAny_bindName (CB (E:=noE) (P:=fun U s5=>wpN (model pw w) A (execs body env) (fun f s₃=>match f with
      | .next | .cont=>∃ m,m < elems.length+1-i∧LoopI b env σ s ia ps ok elems.length I m s₃
      | .brk=>Cy b env σ s Q .next s₃
      | .ret v=>Cy b env σ s Q (.ret v) s₃) noE s5) c S4 L4 hk r4' fun s5 S5 L5 e5=> ?_)))) (fun U s5 z=>wpN_mono z (fun f s6 z=> ?_) fun U U x=>x.elim) fun U U x=>x.elim
  ·have p5:ps (i+1) s5.heap:=by
    refine it.keep _ _ _ p4 fun o ho=> ?_
    refine e5.keep _ _ ho ow3 ?_
    have ⟨o',v',ho',hd'⟩:=it.obj _ _ p4
    exact Eu _ ⟨o',v',ho',hd'⟩ _ _ L4
   refine wpN_mono (turn i v ρ3 σ3 hv hI3 hok3 A env s5 c S5 L5) (fun f s6 g_=>g_.elim fun mf ρ6 σ6 q r S6 L6 e6=> ?_) fun U U x=>x
   have e4:Ev (fun a=>BL env a∨a=ia) σ3 s3 σ3 s4:=MW (i:=i) ps g4 o4 k4 (it.obj _ _ p4)
   have e46:Ev (fun a=>BL env a∨a=ia) σ s σ6 s6:=((e3.trans e4).trans (e5.weaken fun U=> .inl)).trans (e6.weaken fun U=> .inl)
   have ow6:¬ AF σ6 ia:=fun z=>by
    refine CX (it.obj _ _ p5) fun o' v' ho' U=> ?_
    exact ow3 (e6.new _ _ ho' z)
   have p6:ps (i+1) s6.heap:=by
    refine it.keep _ _ _ p5 fun o ho=>e6.keep _ _ ho ow3 ?_
    have ⟨o',v',ho',hd'⟩:=it.obj _ _ p5
    exact Eu _ ⟨o',v',ho',hd'⟩ _ _ L5
   have out:=OJ e46 fr2
   cases mf with
   | next=>have r:f= .next:=r; subst r; obtain ⟨hok6,ρ',sb',hI6⟩:=q; exact ⟨elems.length+1-(i+1),nLt hlt,i+1,ρ',σ6,rfl,hlt,hI6,hok6,S6,L6.sub sb',e46,ow6,p6⟩
   | cont=>have r:f= .cont:=r; subst r; obtain ⟨hok6,ρ',sb',hI6⟩:=q; exact ⟨elems.length+1-(i+1),nLt hlt,i+1,ρ',σ6,rfl,hlt,hI6,hok6,S6,L6.sub sb',e46,ow6,p6⟩
   | brk=>have r:f= .brk:=r; subst r; exact ⟨.next,ρ6,σ6,q,rfl,S6,L6,out⟩
   | ret mv=>obtain ⟨v,rfl,r⟩:=r; exact ⟨.ret mv,ρ6,σ6,q,⟨v,rfl,r⟩,S6,L6,out⟩
  ·cases f <;> exact z
end
inductive CompI (b:Heap) (cenv:Env) (X:Addr→Prop) (σ:MS) (s:Shared) (ρ':LM) (ia acc:Addr) (ps:Nat→Heap→Prop) (ok:MS→Prop) (len:Nat) (Inv:Nat→List MV→MS→Prop) (n:Nat) (s':Shared):Prop where
 | mk (i:Nat) (out:List MV) (σ':MS) (hn:n=len+1-i) (hle:i≤len) (hI:Inv i out σ') (hok:ok σ') (S:St b σ' s'.heap) (L:Loc b cenv ρ' σ' s'.heap) (e:Ev X σ s σ' s') (ow:¬ AF σ' ia) (oa:¬ AF σ' acc) (p:ps i s'.heap) (ac:∃ items n,s'.heap.get? acc=some (lOb items n)∧VRs b s'.heap out items.toList) (hl:out.length≤i)
noncomputable abbrev MQ (w:World) (b:Heap) (C:Cx) (ρ:LM) (elt:Expr) (ok:MS→Prop) (Inv:Nat→List MV→MS→Prop) (i:Nat) (out:List MV):Bool→MS→Prop:=fun bb σ2=>if bb=true then WE w b C (eval elt) ρ σ2 fun r σ3=>ok σ3∧Inv (i+1) (out++[r]) σ3 else ok σ2∧Inv (i+1) out σ2
inductive CompD (w:World) (b:Heap) (C:Cx) (sc:Scope) (ρ':LM) (x:Str) (elt:Expr) (ifs:List Expr) (Z:List MV→MS→Prop) (mv:MV) (σ1:MS):Prop where
 | mk (ok:MS→Prop) (elems:List MV) (Inv:Nat→List MV→MS→Prop) (hlen:elems.length≤100000) (hi:WI w b C.d mv σ1 ok elems) (hok:ok σ1) (hI:Inv 0 [] σ1)
  (turn:∀ i v out σ,elems[i]?=some v→Inv i out σ→ok σ→WB w b ⟨Fk sc.names,C.d⟩ (Gp ifs) (ρ'.set x v) σ (MQ w b ⟨Fk sc.names,C.d⟩ (ρ'.set x v) elt ok Inv i out))
  (fin:∀ out σ',Inv elems.length out σ'→ok σ'→Z out σ')
section
variable {w:World} {b:Heap} {C:Cx} {ρ:LM} {σ:MS} {Q:MV→MS→Prop} {d:Nat}
theorem HI {A:Around} {env:Env} {s:Shared} {elt iter:Expr} {x:Str} {px pos:Pos} {ifs:List Expr} {sc:Scope} {ρ':LM} {use:Option (Value→Sem Unit)} {P:Value→Shared→Prop} (c:CxOk C A env) (S:St b σ s.heap) (L:Loc b env ρ σ s.heap)
  (hsc:Fe C sc=true) (hx:sc.names.lookup x=some .local) (hρ:Sub ρ' ρ) (ht:Ms sc ρ'=true)
  (hit:WE w b C (eval iter) ρ σ (CompD w b C sc ρ' x elt ifs fun out σ'=>∀ acc Ca s',σ' acc=none→St b (σ'.set acc (.list out)) s'.heap→Loc b env ρ (σ'.set acc (.list out)) s'.heap→Ev (fun a=>a=Ca) σ s (σ'.set acc (.list out)) s'→s.heap.get? Ca=none→b.get? Ca=none→¬ AF (σ'.set acc (.list out)) Ca →
   (∃ m,s'.heap.Ns Ca m)→¬ BL env Ca→compPost (model pw w) A noE use P (.ref acc) Ca (.ok .next) s'))
  (hs:∀ v,foldedSetIterable iter env v=pure v) :
  wpAny (model pw w) A (comprehension (.ListComp elt [⟨.Name x px,iter,ifs,0⟩] sc pos) sc env iter.pos (newList []) false (eval iter env) use) P noE s:=by
 have hsc':=hsc
 unfold Fe at hsc'
 rw [Bool.and_eq_true] at hsc'
 have hkind:sc.kind= .function:=beq_iff_eq.mp hsc'.1
 have hall:∀ p∈sc.names,p.2≠ .cell∧(p.2= .free→C.names.lookup p.1=some .cell)∧sc.names.lookup p.1=some p.2:=fun p hp=>by
  have q:=List.all_eq_true.mp hsc'.2 p hp
  simp only [Bool.and_eq_true,Bool.or_eq_true,bne_iff_ne,beq_iff_eq,ne_eq] at q
  exact Cv q.1.1 (fun f=>q.1.2.resolve_left fun z=>z f) q.2
 have hclos:=L0 (scope:=sc) (env:=env) fun p hp hf=>c.cellsIn p.1 ((hall p hp).2.1 hf)
 refine wpAny_comprehension_free rfl hs hclos hkind (fun p hp hl=>hl▸(hall p hp).2.2) ?_
 refine wpAny_mono (hit A env s c S L) (fun xv s1 g_=>g_.elim fun mv σ1 ⟨ok,elems,Inv,hlen,hi,hok,hI,turn,fin⟩ r1 S1 e1=> ?_) fun U U x=>x
 have L1:=e1.loc S L
 refine hi A s1 xv _ c.room S1 r1 fun ia s2 ps it p0 fr lo ow g2 o2 k2=> ?_
 refine wpAny_newList ?_ (by decide)
 refine wpAny_newFunctionEnv (fun p hp=>(hall p hp).1) (fun p hp=>by cases hp) (fun h1 hns hsb=> ?_) hkind
 generalize hH:s2.heap.push {cls:= .type "list",data:= .seq ([]:List Value).toArray}=H2 at hns hsb ⊢
 have hD:H2.objs.size=s2.heap.objs.size+1:=by rw [← hH]; exact Heap.size_push ..
 have k3:∀ a o,s2.heap.get? a=some o→H2.get? a=some o:=fun a o e=>hH▸Heap.get?_push_of_some _ e
 have acc3:H2.get? s2.heap.objs.size=some (lOb #[] 0):=hH▸AL _ rfl
 generalize hac:s2.heap.objs.size=acc at hD acc3 ⊢
 generalize hCa:H2.objs.size=Ca at hns hsb hD ⊢
 have k4:∀ a o,H2.get? a=some o→h1.get? a=some o:=fun a o e=>hsb.extBut a o (fun z=>by rw [z,←hCa] at e; exact absurd (Heap.lt_size e) (Nat.lt_irrefl _)) (Heap.get?_push_of_some _ e)
 have acc4:h1.get? acc=some (lOb #[] 0):=k4 _ _ acc3
 have n2:s2.heap.get? acc=none:=hac▸Ah _
 have nCa2:s2.heap.get? Ca=none:=BG (by rw [hac,hD]; exact Nat.le_succ _)
 have n1:∀ a,s2.heap.get? a=none→s1.heap.get? a=none:=fun a e=>by
  cases q:s1.heap.get? a with
  | none=>rfl
  | some o=>rw [k2 a o q] at e; cases e
 have n0:∀ a,s1.heap.get? a=none→s.heap.get? a=none:=fun a e=>by
  cases q:s.heap.get? a with
  | none=>rfl
  | some o=>obtain ⟨o',h'⟩:=e1.dom a o q; rw [e] at h'; cases h'
 have nOw:∀ a,s1.heap.get? a=none→¬ AF σ1 a:=fun a e z=>by obtain ⟨o,ho⟩:=Cd S1 z; rw [e] at ho; cases ho
 have hia:ia < acc:=by
  refine CX (it.obj _ _ p0) fun o vs ho U=> ?_
  exact hac▸Heap.lt_size ho
 have hlt:acc < Ca:=by rw [hD]; exact Nat.lt_succ_self _
 have hne:acc≠Ca:=Nat.ne_of_lt hlt
 have nia:ia≠Ca:=Nat.ne_of_lt (Nat.lt_trans hia hlt)
 have nai:acc≠ia:=(Nat.ne_of_lt hia).symm
 generalize hs4:({s2 with heap:=h1,toks:=s2.toks+([]:List (Str×Value)).length}:Shared)=s4
 have h4:s4.heap=h1:=by rw [← hs4]
 have e14:Ev noX σ1 s1 σ1 s4:=by
  rw [← hs4]
  exact Ev.grow g2 o2 fun a o e=>k4 _ _ (k3 _ _ (k2 _ _ e))
 have S4:St b σ1 s4.heap:=by rw [h4]; exact S1.grow fun a o e=>k4 _ _ (k3 _ _ (k2 _ _ e))
 have L4:=e14.loc S1 L1
 have eS:Ev noX σ s σ1 s4:=e1.trans e14
 let cenv:Env:={newEnv sc Ca env.globals (clF env sc.names []) env.qual none .none (some env) env.builtins with scope:=relabel sc env}
 have cL:cenv.locals=Ca:=rfl
 have cC:cenv.cells=clF env sc.names []:=rfl
 have cN:cenv.scope.names=Fk sc.names:=Lx c hsc
 have cok:CxOk ⟨Fk sc.names,C.d⟩ A cenv:=by
  refine ⟨hkind,cN,c.globals,c.builtins,c.room,fun y hy=> ?_⟩
  have hf:=Nn hy fun p hp=>(hall p hp).1
  obtain ⟨a,ha⟩:=c.cellsIn y ((hall _ hf).2.1 rfl)
  exact ⟨a,IP hf ha⟩
 have tk:∀ y mv,ρ'.lookup y=some mv→sc.names.lookup y=some .free:=fun y mv e=>beq_iff_eq.mp (List.all_eq_true.mp ht (y,mv) (mem_of_lookup e))
 have nx:∀ mv,ρ'.lookup x≠some mv:=fun mv e=>by have:=tk x mv e; rw [hx] at this; cases this
 have lowCa:b.get? Ca=none:=S1.low_new (n1 _ nCa2)
 have lowAcc:b.get? acc=none:=S1.low_new (n1 _ n2)
 have locE:∀ a,s1.heap.get? a=none→¬ BL env a:=by
  rintro a e (z | ⟨y,hy⟩)
  ·refine Tp L1.ns fun m o es ep ho U=> ?_
   rw [← z,e] at ho; cases ho
  ·obtain ⟨⟨o,v,ho,_⟩,_⟩:=L1.cells y a hy
   rw [e] at ho; cases ho
 have Lc:Loc b cenv ρ' σ1 s4.heap:=by
  refine ⟨fun y mv hy=> ?_,⟨_,h4▸hns⟩,lowCa,nOw _ (n1 _ nCa2),fun y a hy=> ?_⟩
  ·have hf:=tk y mv hy
   have hm:=PySem.mem_of_lookup hf
   refine Af (L4.val y mv (hρ _ (mem_of_lookup hy))) fun v hv rv=> ?_
   have kc:env.kindOf y=some .cell:=(c.kindOf y).trans ((hall _ hm).2.1 rfl)
   refine AQ v (.inr ⟨.inl ?_,?_⟩) rv
   ·show cenv.scope.names.lookup y=_
    rw [cN]; exact Ix hf
   ·rcases hv with ⟨z,_⟩ | ⟨_,a,o,ha,ho,hd⟩
    ·rw [kc] at z; cases z
    ·exact Bq a o (IP hm ha) ho hd
  ·refine Gj (L4.cells y a (EM hy)) fun q1 q2 q3 q4=> ?_
   exact JB q1 q2 q3 (fun z hz=>q4 z (EM hz))
 have locC:∀ a,s1.heap.get? a=none→a≠Ca→¬ BL cenv a:=by
  rintro a e ne (z | ⟨y,hy⟩)
  ·exact ne z
  ·exact locE a e (.inr ⟨y,EM hy⟩)
 let X:Addr→Prop:=fun a=>a=Ca∨a=ia∨a=acc
 have loop:codeAny (model pw w) A (.compLoop (.ListComp elt [⟨.Name x px,iter,ifs,0⟩] sc pos) 0 (.ref ia) (.ref acc) cenv) (compPost (model pw w) A noE use P (.ref acc) Ca) s4:=by
  refine codeAny_compLoop_tests (CompI b cenv X σ s ρ' ia acc ps ok elems.length Inv) ?_ (elems.length+1)
   ⟨0,[],σ1,rfl,Nat.zero_le _,hI,hok,S4,Lc,eS.lift,ow,nOw _ (n1 _ n2),it.keep _ _ _ p0 (fun o ho=>h4▸k4 _ _ (k3 _ _ ho)),⟨#[],0,h4▸acc4,rfl⟩,Nat.le_refl _⟩
  rintro n s5 ⟨i,out,σ5,rfl,hle,hI5,hok5,S5,L5,e5,owi,owa,p5,⟨items,na,ga,ra⟩,ho5⟩
  refine CX (it.obj i _ p5) fun oi vi hoi hdi=> ?_
  have nti:∀ its,¬ IsTup s5.heap ia its:=fun its q0_=>by obtain ⟨o,ho,_,q,hq⟩:=q0_; rw [hoi] at ho; cases ho; rw [hdi] at hq; cases hq
  have ic:¬ BL cenv ia:=locC ia fr nia
  cases hv:elems[i]? with
  | none =>
   have hsz:i=elems.length:=Nat.le_antisymm hle (by simpa using hv)
   subst hsz
   refine wpAny_mono (it.stop _ A s5 σ5 _ c.room S5 hok5 p5 fun s6 g6 o6 k6=> ?_) (fun U U z=>z) fun U U x=>x.elim
   have xi:XOk b (fun a=>a=ia) s5.heap:=fun a e=>e▸⟨lo,nti⟩
   have kk:∀ a o,s5.heap.get? a=some o→¬ a=ia→s6.heap.get? a=some o:=fun a o e n=>k6 a o n e
   have S6:St b σ5 s6.heap:=S5.keep (X:=fun a=>a=ia) xi (fun a e=>e▸owi) kk
   obtain ⟨K6,KS6⟩:=D6 S5 (DN xi) kk
   have na5:σ5 acc=none:=by
    cases q:σ5 acc with
    | none=>rfl
    | some o=>exact absurd (BK q) owa
   have ga6:s6.heap.get? acc=some (lOb items na):=k6 _ _ nai ga
   have S7:St b (σ5.set acc (.list out)) s6.heap:=S6.new owa lowAcc (fun d e=>by cases e) (fun U U e=>e) fun U U=>⟨items,na,ga6,KS6 _ _ ra⟩
   have e7:Ev (fun a=>a=Ca) σ s (σ5.set acc (.list out)) s6:=by
    refine ⟨fun a o e=> ?_,g6.trans e5.gens,o6.trans e5.os,fun a o e no nx=> ?_,fun a o e z=> ?_⟩
    ·obtain ⟨o',h'⟩:=e5.dom a o e
     exact ⟨o',k6 a o' (fun z=>by rw [z,n0 _ fr] at e; cases e) h'⟩
    ·refine k6 a o (fun z=>by rw [z,n0 _ fr] at e; cases e) (e5.keep a o e no ?_)
     rintro (z | z | z)
     ·exact nx z
     ·rw [z,n0 _ fr] at e; cases e
     ·rw [z,n0 _ (n1 _ n2)] at e; cases e
    ·rcases (EI na5 a).mp z with z | z | z
     ·exact e5.new a o e z
     ·rw [z,n0 _ (n1 _ n2)] at e; cases e
     ·cases z
   have nCaO:¬ AF (σ5.set acc (.list out)) Ca:=fun z=>by
    rcases (EI na5 Ca).mp z with z | z | z
    ·exact L5.own z
    ·exact hne z.symm
    ·cases z
   have x7:XOk b (fun a=>a=Ca) s.heap:=fun a e=>e▸⟨lowCa,fun its ⟨o,ho,_⟩=>by rw [n0 _ (n1 _ nCa2)] at ho; cases ho⟩
   exact fin out σ5 hI5 hok5 acc Ca s6 na5 S7 (L.other S e7 x7 (fun a z=>z▸locE Ca (n1 _ nCa2))) e7 (n0 _ (n1 _ nCa2)) lowCa nCaO (let ⟨m,o,es,ep,ho,r⟩:=L5.ns; ⟨m,o,es,ep,k6 _ _ nia.symm ho,r⟩) (locE Ca (n1 _ nCa2))
  | some v =>
   have hlti:i < elems.length:=(List.getElem?_eq_some_iff.mp hv).1
   refine wpAny_mono (it.next i _ A s5 σ5 v _ c.room S5 hok5 p5 hv fun u s6 r6 p6 g6 o6 k6=> ?_) (fun U U z=>z) fun U U x=>x.elim
   obtain ⟨S6,e6,x6⟩:=Qq (env:=env) S5 lo owi nti (fun a o n e=>k6 a o n e) (let ⟨o,vs,ho,_⟩:=it.obj _ _ p6; ⟨o,ho⟩) g6 o6
   have L6:=L5.other S5 e6 x6 (fun a z=>z▸ic)
   have r6':VR b s6.heap v u:=e6.vr S5 x6 r6
   refine wpAny_mono (E:=noE) (assign_Name (Ng (x:=x) (mv:=v) (P:=fun U s7=>wpAny (model pw w) A (Gp ifs cenv) (fun ok_1 s8=>if ok_1=true then wpAny (model pw w) A (eval elt cenv) (fun x_1 s9 =>
     wpAny (model pw w) A (call (.builtin "list.append") [.ref acc,x_1]) (fun U s₅=>∃ m,m < elems.length+1-i∧CompI b cenv X σ s ρ' ia acc ps ok elems.length Inv m s₅) noE s9) noE s8
     else ∃ m,m < elems.length+1-i∧CompI b cenv X σ s ρ' ia acc ps ok elems.length Inv m s8) noE s7) hkind S6 L6 (show cenv.scope.names.lookup x=some .local by rw [cN]; exact Ly hx) r6' fun s7 S7 L7 e7=> ?_))
    (fun U s7 z=>wpAny_mono z (fun ok_1 s8 z=> ?_) fun U U x=>x.elim) fun U U x=>x.elim
   ·have x7:=L6.xok
    have x7':XOk b (fun a=>a=cenv.locals) s6.heap:=fun a z=>z▸x7 _ (.inl rfl)
    have L7':Loc b cenv (ρ'.set x v) σ5 s7.heap:=L7
    have ga6:s6.heap.get? acc=some (lOb items na):=k6 _ _ nai ga
    have ga7:s7.heap.get? acc=some (lOb items na):=e7.keep _ _ ga6 owa hne
    have ra7:VRs b s7.heap out items.toList:=e7.vrs S6 x7' (e6.vrs S5 x6 ra)
    have p7:ps (i+1) s7.heap:=it.keep _ _ _ p6 fun o ho=>e7.keep _ _ ho owi nia
    have E7:Ev X σ s σ5 s7:=(e5.trans (e6.weaken fun a z=> .inr (.inl z))).trans (e7.weaken fun a z=> .inl z)
    refine wpAny_mono (turn i v out σ5 hv hI5 hok5 A cenv s7 cok S7 L7') (fun bb s8 g_=>g_.elim fun σ8 h8 S8 e8=> ?_) fun U U x=>x
    have L8:=e8.loc S7 L7'
    have ga8:s8.heap.get? acc=some (lOb items na):=e8.keep _ _ ga7 owa id
    have ra8:VRs b s8.heap out items.toList:=e8.vrs S7 (AG _) ra7
    have oi8:∃ o,s7.heap.get? ia=some o:=let ⟨o,vs,ho,_⟩:=it.obj _ _ p7; ⟨o,ho⟩
    have owi8:¬ AF σ8 ia:=fun z=>let ⟨o,ho⟩:=oi8; owi (e8.new _ o ho z)
    have owa8:¬ AF σ8 acc:=fun z=>owa (e8.new _ _ ga7 z)
    have p8:ps (i+1) s8.heap:=it.keep _ _ _ p7 fun o ho=>e8.keep _ _ ho owi id
    have E8:Ev X σ s σ8 s8:=E7.trans e8.lift
    have sub:∀ y mv,ρ'.lookup y=some mv→(ρ'.set x v).lookup y=some mv:=fun y mv e=>by
     have ne:y≠x:=fun z=>by rw [z] at e; exact nx mv e
     rw [DT,if_neg ne]; exact e
    cases bb with
    | false =>
     obtain ⟨hok8,hI8⟩:=h8
     exact ⟨elems.length+1-(i+1),nLt hlti,i+1,out,σ8,rfl,hlti,hI8,hok8,S8,L8.subl sub,E8,owi8,owa8,p8,⟨items,na,ga8,ra8⟩,Nat.le_succ_of_le ho5⟩
    | true =>
     refine wpAny_mono (h8 A cenv s8 cok S8 L8) (fun rv s9 g_=>g_.elim fun r σ9 ⟨hok9,hI9⟩ rr S9 e9=> ?_) fun U U x=>x
     have L9:=e9.loc S8 L8
     have ga9:s9.heap.get? acc=some (lOb items na):=e9.keep _ _ ga8 owa8 id
     have ra9:VRs b s9.heap out items.toList:=e9.vrs S8 (AG _) ra8
     have oi9:∃ o,s8.heap.get? ia=some o:=let ⟨o,vs,ho,_⟩:=it.obj _ _ p8; ⟨o,ho⟩
     have owi9:¬ AF σ9 ia:=fun z=>let ⟨o,ho⟩:=oi9; owi8 (e9.new _ o ho z)
     have owa9:¬ AF σ9 acc:=fun z=>owa8 (e9.new _ _ ga8 z)
     have p9:ps (i+1) s9.heap:=it.keep _ _ _ p8 fun o ho=>e9.keep _ _ ho owi8 id
     have hz:items.size=out.length:=AH ra9
     refine append_at ga9 (fun h' sb g'=> ?_) (by rw [sizeLine_eq]; exact Nat.le_of_lt (Nat.lt_of_lt_of_le (Nat.lt_of_lt_of_le (Nat.lt_of_le_of_lt (Nat.le_trans (Nat.le_of_eq hz) ho5) hlti) hlen) (by decide)))
     refine CG (Qq (env:=cenv) (s':={s9 with heap:=h'}) S9 lowAcc owa9 (Je ga9) (fun a o n e=>(sb.2 a n).trans e) ⟨_,g'⟩ rfl rfl) fun S10 e10 x10=> ?_
     have L10:=L9.other S9 e10 x10 (fun a z=>z▸locC acc (n1 _ n2) hne)
     have p10:ps (i+1) h':=it.keep _ _ _ p9 fun o ho=>(sb.2 ia nai.symm).trans ho
     refine ⟨elems.length+1-(i+1),nLt hlti,i+1,out++[r],σ9,rfl,hlti,hI9,hok9,S10,L10.subl sub,(E8.trans e9.lift).trans (e10.weaken fun a z=> .inr (.inr z)),owi9,owa9,p10,⟨_,_,g',?_⟩,by simp; exact ho5⟩
     rw [Array.toList_push]
     exact BI (e10.vrs S9 x10 ra9) ⟨rv,[],rfl,e10.vr S9 x10 rr,rfl⟩
   ·split at z
    ·rename_i q
     rw [if_pos q]
     exact wpAny_mono z (fun U U z=>wpAny_mono z (fun U U z=>z) fun U U x=>x.elim) fun U U x=>x.elim
    ·rename_i q
     rw [if_neg q]
     exact z
 exact codeAny_compStart_list loop (wpAny_mono (it.again 0 A s4 (fun it' s'=>codeAny (model pw w) A (.compLoop (.ListComp elt [⟨.Name x px,iter,ifs,0⟩] sc pos) 0 it' (.ref acc) cenv) (compPost (model pw w) A noE use P (.ref acc) Ca) s') (it.keep _ _ _ p0 (fun o ho=>h4▸k4 _ _ (k3 _ _ ho))) loop) (fun U U z=>z) fun U U x=>x.elim)
theorem CH {elt iter:Expr} {x:Str} {px pos:Pos} {ifs:List Expr} {sc:Scope} (ρ':LM)
  (hit:WE w b C (eval iter) ρ σ (CompD w b C sc ρ' x elt ifs fun out σ'=>∀ a,σ' a=none→Q (.ref a) (σ'.set a (.list out))))
  (hρ:Sub ρ' ρ) (hsc:Fe C sc=true:=by rfl) (hx:sc.names.lookup x=some .local:=by rfl) (ht:Ms sc ρ'=true:=by rfl) (hs:∀ env v,foldedSetIterable iter env v=pure v:=by intro _ _; rfl) :
  WE w b C (eval (.ListComp elt [⟨.Name x px,iter,ifs,0⟩] sc pos)) ρ σ Q:=fun A env s c S L=>by
 show wpAny _ A (comprehension (.ListComp elt [⟨.Name x px,iter,ifs,0⟩] sc pos) sc env iter.pos (newList []) false (eval iter env) none) _ _ s
 refine HI c S L hsc hx hρ ht (WE.mono hit fun mv σ1 ⟨ok,elems,Inv,hlen,hi,hok0,hI0,turn,fin⟩=>⟨ok,elems,Inv,hlen,hi,hok0,hI0,turn,fun out σ' hI hok acc Ca s' na S' L' e' fr lo ow hm nl=> ?_⟩) (hs env)
 obtain ⟨m,hm⟩:=hm
 refine AQ m hm (fun h' sb=> ?_)
 obtain ⟨S2,e2⟩:=J8 (X:=noX) (s'':={s' with heap:=h'}) S' (e'.weaken fun a z=> .inl z) fr lo ow (Ns.not_tup hm) (fun a o n e=>(sb.2 a n).trans e) rfl rfl
 exact DZ _ _ (fin out σ' hI hok acc na) rfl S2 e2
theorem Ob {Q:MF→LM→MS→Prop} {y:Str} {py ps:Pos} {elt iter:Expr} {x:Str} {px pos:Pos} {ifs:List Expr} {sc:Scope} (ρ':LM)
  (hit:WE w b C (eval iter) ρ σ (CompD w b C sc ρ' x elt ifs fun out σ'=>∀ a,σ' a=none→Q .next (ρ.set y (.ref a)) (σ'.set a (.list out))))
  (hρ:Sub ρ' ρ) (hsc:Fe C sc=true:=by rfl) (hx:sc.names.lookup x=some .local:=by rfl) (ht:Ms sc ρ'=true:=by rfl) (hs:∀ env v,foldedSetIterable iter env v=pure v:=by intro _ _; rfl)
  (hsw:swapsWith (.ListComp elt [⟨.Name x px,iter,ifs,0⟩] sc pos) (some (.Name y py)) ps.line (EB C.names)=pure true:=by rfl) (hk:AX C y=true:=by first | rfl | decide +kernel) :
  WS w b C (exec (.Assign [.Name y py] (.ListComp elt [⟨.Name x px,iter,ifs,0⟩] sc pos) ps)) ρ σ Q:=fun A env s c S L=>by
 rw [exec_Assign_Name_used _ _ _ _ ((Ir c.kind c.names).trans hsw)]
 refine wpAny_bind (wpAny_standAt (wpAny_bind ?_))
 show wpAny _ A (comprehension (.ListComp elt [⟨.Name x px,iter,ifs,0⟩] sc pos) sc env iter.pos (newList []) false (eval iter env) (some (assign (.Name y py) env)) >>= fun U=>pure ()) _ _ s
 refine wpAny_bind (HI (P:=fun U s'=>wpAny (model pw w) A (pure ()) (fun U s'=>wpAny (model pw w) A (pure Flow.next) (Cy b env σ s Q) noE s') noE s') c S L hsc hx hρ ht (WE.mono hit fun mv σ1 ⟨ok,elems,Inv,hlen,hi,hok0,hI0,turn,fin⟩=>⟨ok,elems,Inv,hlen,hi,hok0,hI0,turn,fun out σ' hI hok acc Ca s' na S' L' e' fr lo ow hm nl=> ?_⟩) (hs env))
 obtain ⟨m,hm⟩:=hm
 show wpAny (model pw w) A (assign (.Name y py) env (.ref acc)) _ noE s'
 refine assign_Name (CB (mv:= .ref acc) c S' L' hk rfl fun s2 S2 L2 e2=> ?_)
 have hm2:s2.heap.Ns Ca m:=let ⟨o,es,ep,ho,r⟩:=hm; ⟨o,es,ep,e2.keep _ _ ho ow nl,r⟩
 refine AQ m hm2 (fun h' sb=>wpAny_pure (wpAny_pure ?_))
 have e3:Ev (fun a=>a=Ca∨BL env a) σ s (σ'.set acc (.list out)) s2:=(e'.weaken fun a z=> .inl z).trans (e2.weaken fun a z=> .inr z)
 obtain ⟨S3,e4⟩:=J8 (X:=BL env) (s'':={s2 with heap:=h'}) S2 e3 fr lo ow (Ns.not_tup hm2) (fun a o n e=>(sb.2 a n).trans e) rfl rfl
 refine Sr .next _ _ (fin out σ' hI hok acc na) rfl S3 ?_ e4
 refine (L2.keepBut S2 (fun a o n e=>(sb.2 a n).trans e) lo (Ns.not_tup hm2) nl:Loc b env _ _ h')
end
noncomputable def Ext (σ σ':MS):Prop:=∀ a o,σ a=some o→σ' a=some o
theorem Ext.rfl {σ:MS}:Ext σ σ:=fun U U e=>e
theorem Ext.trans {σ σ' σ'':MS} (h:Ext σ σ') (k:Ext σ' σ''):Ext σ σ'':=fun a o e=>k a o (h a o e)
theorem Ext.new {σ:MS} {c:Addr} {o:MO} (n:σ c=none):Ext σ (σ.set c o):=fun a o' e=>by
 rw [MS.set_ne]
 ·exact e
 ·intro q; rw [q,n] at e; cases e
theorem Ext.step {σ σ':MS} {c:Addr} {o:MO} (h:Ext σ σ') (n:σ' c=none):Ext σ (σ'.set c o):=h.trans (Ext.new n)
theorem Ext.isNone {σ σ':MS} (h:Ext σ σ') {a:Addr} (n:σ' a=none):σ a=none:=by
 cases e:σ a with
 | none=>exact Eq.refl _
 | some o=>rw [h a o e] at n; cases n
theorem Ext.re {σ σ':MS} {c:Addr} {o:MO} (h:Ext σ σ') (n:σ c=none):Ext σ (σ'.set c o):=fun a o' e=>by
 rw [MS.set_ne]
 ·exact h a o' e
 ·intro q; rw [q,n] at e; cases e
theorem MS.set_old {σ:MS} {a c:Addr} {o o':MO} (n:σ c=none) (e:σ a=some o):(σ.set c o') a=some o:=Ext.new n a o e
theorem MS.ne_of {σ:MS} {a c:Addr} {o:MO} (n:σ c=none) (e:σ a=some o):a≠c:=fun q=>by rw [q,n] at e; cases e
theorem MS.set_get {σ:MS} {a c:Addr} {o:MO}:(σ.set a o) c=if c=a then some o else σ c:=by
 by_cases h:c=a
 ·subst h; rw [if_pos (Eq.refl _),MS.set_self]
 ·rw [if_neg h,MS.set_ne h]
theorem MS.set_set {σ:MS} {a:Addr} {o o':MO}:(σ.set a o).set a o'=σ.set a o':=by
 funext x; by_cases h:x=a
 ·subst h; rw [MS.set_self,MS.set_self]
 ·rw [MS.set_ne h,MS.set_ne h,MS.set_ne h]
noncomputable def AA {β:Type}:List (Int×β)→Int→β→List (Int×β)
 | [],k,v=>[(k,v)]
 | (j,u)::r,k,v=>if j=k then (j,v)::r else (j,u)::AA r k v
noncomputable def Dl {β:Type}:List (Int×β)→Int→List (Int×β)
 | [],_=>[]
 | (j,u)::r,k=>if j=k then r else (j,u)::Dl r k
section
variable {β γ:Type}
theorem HG (g:β→MV) (k:Int) (v:β):∀ l:List (Int×β),D0 (l.map fun p=>(p.1,g p.2)) k (g v)=(AA l k v).map fun p=>(p.1,g p.2)
 | []=>rfl
 | (j,u)::r=>by
  show (if j=k then (j,g v)::r.map _ else (j,g u)::D0 (r.map _) k (g v))=(if j=k then (j,v)::r else (j,u)::AA r k v).map _
  by_cases h:j=k
  ·rw [if_pos h,if_pos h]; rfl
  ·rw [if_neg h,if_neg h,HG g k v r]; rfl
theorem KR (g:β→MV) (k:Int):∀ l:List (Int×β),FI (l.map fun p=>(p.1,g p.2)) k=(Dl l k).map fun p=>(p.1,g p.2)
 | []=>rfl
 | (j,u)::r=>by
  show (if j=k then r.map _ else (j,g u)::FI (r.map _) k)=(if j=k then r else (j,u)::Dl r k).map _
  by_cases h:j=k
  ·rw [if_pos h,if_pos h]
  ·rw [if_neg h,if_neg h,KR g k r]; rfl
theorem ED (f:β→γ) (k:Int) (v:β):∀ l:List (Int×β),(AA l k v).map (fun p=>(p.1,f p.2))=AA (l.map fun p=>(p.1,f p.2)) k (f v)
 | []=>rfl
 | (j,u)::r=>by
  show (if j=k then (j,v)::r else (j,u)::AA r k v).map _=(if j=k then (j,f v)::r.map _ else (j,f u)::AA (r.map _) k (f v))
  by_cases h:j=k
  ·rw [if_pos h,if_pos h]; rfl
  ·rw [if_neg h,if_neg h,←ED f k v r]; rfl
theorem KT (f:β→γ) (k:Int):∀ l:List (Int×β),(Dl l k).map (fun p=>(p.1,f p.2))=Dl (l.map fun p=>(p.1,f p.2)) k
 | []=>rfl
 | (j,u)::r=>by
  show (if j=k then r else (j,u)::Dl r k).map _=(if j=k then r.map _ else (j,f u)::Dl (r.map _) k)
  by_cases h:j=k
  ·rw [if_pos h,if_pos h]
  ·rw [if_neg h,if_neg h,←KT f k r]; rfl
theorem Bx (f:β→γ) (k:Int):∀ l:List (Int×β),(l.map fun p=>(p.1,f p.2)).lookup k=(l.lookup k).map f
 | []=>rfl
 | (j,u)::r=>by
  rw [List.map_cons,List.lookup_cons,List.lookup_cons]
  cases h:(k==j) with
  | true=>rfl
  | false=>exact Bx f k r
theorem AE (k:Int) (v:β) (j:Int) (l:List (Int×β)):(AA l k v).lookup j=if j=k then some v else l.lookup j:=by
 induction l with
 | nil =>
  show List.lookup j [(k,v)]=_
  rw [List.lookup_cons]
  by_cases h:j=k
  ·rw [if_pos h,h,beq_self_eq_true]
  ·rw [if_neg h,beq_eq_false_iff_ne.mpr h]
 | cons p r ih =>
  obtain ⟨i,u⟩:=p
  show List.lookup j (if i=k then (i,v)::r else (i,u)::AA r k v)=_
  by_cases h:i=k
  ·subst h
   rw [if_pos rfl,List.lookup_cons,List.lookup_cons]
   by_cases q:j=i
   ·rw [if_pos q,q,beq_self_eq_true]
   ·rw [if_neg q,beq_eq_false_iff_ne.mpr q]
  ·rw [if_neg h,List.lookup_cons,List.lookup_cons]
   by_cases q:j=i
   ·subst q; rw [if_neg h,beq_self_eq_true]
   ·rw [beq_eq_false_iff_ne.mpr q]; exact ih
theorem BS (k:Int) (v:β):∀ l:List (Int×β),(AA l k v).map (·.1)=if (l.lookup k).isSome then l.map (·.1) else l.map (·.1)++[k]
 | []=>rfl
 | (i,u)::r=>by
  show (if i=k then (i,v)::r else (i,u)::AA r k v).map (·.1)=_
  by_cases h:i=k
  ·subst h; rw [if_pos rfl,List.lookup_cons]; simp
  ·rw [if_neg h,List.lookup_cons,beq_eq_false_iff_ne.mpr (Ne.symm h),List.map_cons,BS k v r]
   dsimp only
   split <;> rfl
theorem Bk {k:Int}:∀ {l:List (Int×β)},l.lookup k=none↔k∉l.map (·.1):=by
 intro w_
 induction w_ with
 | nil =>
  simp
 | cons p_ r ih_ =>
  obtain ⟨i,u⟩:=p_
  rw [List.lookup_cons,List.map_cons,List.mem_cons]
  by_cases h:k=i
  ·subst h; simp
  ·rw [beq_eq_false_iff_ne.mpr h]
   dsimp only
   rw [ih_]
   exact ⟨fun n c=>c.elim h n,fun n c=>n (.inr c)⟩
theorem LK {k:Int} {v:β}:∀ {l:List (Int×β)},l.lookup k=some v→(k,v)∈l
 | (i,u)::r,e=>by
  rw [List.lookup_cons] at e
  by_cases h:k=i
  ·subst h; simp at e; subst e; exact .head _
  ·rw [beq_eq_false_iff_ne.mpr h] at e; exact .tail _ (LK e)
theorem ML {κ β:Type} [BEq κ] [LawfulBEq κ] {k:κ} {v:β} {l:List (κ×β)}:(l.map (·.1)).Nodup→(k,v)∈l→l.lookup k=some v:=by
 induction l with
 | nil=>exact fun U e=>(List.not_mem_nil e).elim
 | cons p r ih =>
  intro n e
  obtain ⟨i,u⟩:=p
  have n:=List.nodup_cons.mp n
  rw [List.lookup_cons]
  refine (List.mem_cons.mp e).elim (fun h=> ?_) fun h=> ?_
  ·rw [← (Prod.mk.inj h).1,beq_self_eq_true,←(Prod.mk.inj h).2]
  ·rw [beq_eq_false_iff_ne.mpr fun q=>n.1 (List.mem_map.mpr ⟨(k,v),h,q⟩)]; exact ih n.2 h
theorem F5 {k:Int} {v:β} {l:List (Int×β)} (h:(l.map (·.1)).Nodup) (m:(k,v)∈l):l.lookup k=some v:=ML h m
theorem Ep {k j:Int} {l:List (Int×β)}:(l.map (·.1)).Nodup→(Dl l k).lookup j=if j=k then none else l.lookup j:=by
 induction l with
 | nil=>intro _; show none=if j=k then none else none; split <;> rfl
 | cons p r ih =>
  intro n
  obtain ⟨i,u⟩:=p
  have n:=List.nodup_cons.mp n
  show List.lookup j (if i=k then r else (i,u)::Dl r k)=_
  by_cases h:i=k
  ·subst h
   rw [if_pos rfl,List.lookup_cons]
   by_cases q:j=i
   ·subst q; rw [if_pos rfl]; exact Bk.mpr n.1
   ·rw [if_neg q,beq_eq_false_iff_ne.mpr q]
  ·rw [if_neg h,List.lookup_cons,List.lookup_cons]
   by_cases q:j=i
   ·subst q; rw [if_neg h,beq_self_eq_true]
   ·rw [beq_eq_false_iff_ne.mpr q]; exact ih n.2
theorem Nv {k:Int}:∀ {l:List (Int×β)},(Dl l k).map (·.1)=(l.map (·.1)).erase k:=by
 intro w_
 induction w_ with
 | nil =>
  exact rfl
 | cons p_ r ih_ =>
  obtain ⟨i,u⟩:=p_
  show (if i=k then r else (i,u)::Dl r k).map (·.1)=_
  rw [List.map_cons,List.erase_cons]
  by_cases h:i=k
  ·subst h; simp
  ·rw [if_neg h,beq_eq_false_iff_ne.mpr h,List.map_cons,ih_]; rfl
end
structure PN where
 len:Nat
 w:Nat
 slot:Int
 c0:Int
 c1:Int
structure TP where
 kw:Int
 vw:Int
 most:Int
 vals:List (Int×Array UInt8)
 nodes:List (Int×PN)
 root:Int
 free:List Int
 used:List Int
structure NA where
 a:Addr
 d:Addr
 c:Addr
structure TC where
 d:Addr
 va:Addr
 na:Addr
 fa:Addr
 ua:Addr
 kw:Int
 vw:Int
 most:Int
 vals:List (Int×(Addr×Array UInt8))
 vn:Nat
 nodes:List (Int×(NA×PN))
 nn:Nat
 root:Int
 free:List Int
 used:List Int
noncomputable def TC.pure (T:TC):TP:=⟨T.kw,T.vw,T.most,T.vals.map fun p=>(p.1,p.2.2),T.nodes.map fun p=>(p.1,p.2.2),T.root,T.free,T.used⟩
noncomputable def TC.attrs (T:TC):List (Str×MV):=[(S "kind",.str (S "trie")),(S "number",.int 5),(S "key_width",.int T.kw),(S "value_width",.int T.vw),(S "most",.int T.most),(S "values",.ref T.va),(S "nodes",.ref T.na),(S "root",.int T.root),(S "free_nodes",.ref T.fa),(S "used",.ref T.ua)]
noncomputable def TC.self (T:TC):MO:= .inst 585 T.d T.attrs
noncomputable def PN.attrs (n:PN) (c:Addr):List (Str×MV):=[(S "length",.int n.len),(S "worth",.int n.w),(S "slot",.int n.slot),(S "children",.ref c)]
noncomputable def CM (p:NA×PN):MO:= .inst 384 p.1.d (p.2.attrs p.1.c)
noncomputable def E2 (p:NA×PN):MO:= .list [.int p.2.c0,.int p.2.c1]
noncomputable def DO (l:List (Int×(Addr×Array UInt8))):List (Int×MV):=l.map fun p=>(p.1,.ref p.2.1)
noncomputable def Cg (l:List (Int×(NA×PN))):List (Int×MV):=l.map fun p=>(p.1,.ref p.2.1.a)
structure TA (σ:MS) (t:Addr) (T:TC):Prop where
 self:σ t=some T.self
 va:σ T.va=some (.dict (asE kI (DO T.vals)) T.vn)
 na:σ T.na=some (.dict (asE kI (Cg T.nodes)) T.nn)
 fa:σ T.fa=some (.list (T.free.map .int))
 ua:σ T.ua=some (.list (T.used.map .int))
 val:∀ s p,T.vals.lookup s=some p→σ p.1=some (.barr p.2)
 nod:∀ i p,T.nodes.lookup i=some p→σ p.1.a=some (CM p)∧σ p.1.c=some (E2 p)
 ap1:T.va≠T.na
 ap2:T.fa≠T.ua
 ap3:∀ i p,T.nodes.lookup i=some p→p.1.c≠T.fa∧p.1.c≠T.ua
 ap4:∀ i j p q,T.nodes.lookup i=some p→T.nodes.lookup j=some q→i≠j→p.1.a≠q.1.a∧p.1.c≠q.1.c
 ap5:∀ i j p q,T.vals.lookup i=some p→T.vals.lookup j=some q→i≠j→p.1≠q.1
noncomputable def TC.fp (T:TC) (t:Addr) (a:Addr):Prop:=a=t∨a=T.va∨a=T.na∨a=T.fa∨a=T.ua∨(∃ s p,T.vals.lookup s=some p∧a=p.1)∨∃ i p,T.nodes.lookup i=some p∧(a=p.1.a∨a=p.1.c)
theorem TA.ext {σ σ':MS} {t:Addr} {T:TC} (h:TA σ t T) (k:Ext σ σ'):TA σ' t T :=
 ⟨k _ _ h.self,k _ _ h.va,k _ _ h.na,k _ _ h.fa,k _ _ h.ua,fun s p e=>k _ _ (h.val s p e),fun i p e=>⟨k _ _ (h.nod i p e).1,k _ _ (h.nod i p e).2⟩,h.ap1,h.ap2,h.ap3,h.ap4,h.ap5⟩
theorem TA.keeps {σ σ':MS} {t:Addr} {T:TC} (h:TA σ t T) (k:∀ a,T.fp t a→σ' a=σ a):TA σ' t T :=
 ⟨(k _ (.inl rfl)).trans h.self,(k _ (.inr (.inl rfl))).trans h.va,(k _ (.inr (.inr (.inl rfl)))).trans h.na,(k _ (.inr (.inr (.inr (.inl rfl))))).trans h.fa,(k _ (.inr (.inr (.inr (.inr (.inl rfl)))))).trans h.ua,
  fun s p e=>(k _ (.inr (.inr (.inr (.inr (.inr (.inl ⟨s,p,e,rfl⟩))))))).trans (h.val s p e),
  fun i p e=>⟨(k _ (.inr (.inr (.inr (.inr (.inr (.inr ⟨i,p,e,.inl rfl⟩))))))).trans (h.nod i p e).1,(k _ (.inr (.inr (.inr (.inr (.inr (.inr ⟨i,p,e,.inr rfl⟩))))))).trans (h.nod i p e).2⟩,h.ap1,h.ap2,h.ap3,h.ap4,h.ap5⟩
theorem TA.there {σ:MS} {t:Addr} {T:TC} (h:TA σ t T) {a:Addr} (f:T.fp t a):σ a≠none:=by
 rcases f with rfl | rfl | rfl | rfl | rfl | ⟨s,p,e,rfl⟩ | ⟨i,p,e,rfl | rfl⟩
 ·rw [h.self]; exact fun c=>nomatch c
 ·rw [h.va]; exact fun c=>nomatch c
 ·rw [h.na]; exact fun c=>nomatch c
 ·rw [h.fa]; exact fun c=>nomatch c
 ·rw [h.ua]; exact fun c=>nomatch c
 ·rw [h.val s p e]; exact fun c=>nomatch c
 ·rw [(h.nod i p e).1]; exact fun c=>nomatch c
 ·rw [(h.nod i p e).2]; exact fun c=>nomatch c
structure Fr' (t:Addr) (T:TC) (σ σ':MS) (T':TC):Prop where
 keep:∀ a,σ a≠none→¬ T.fp t a→σ' a=σ a
 new:∀ a,T'.fp t a→T.fp t a∨σ a=none
 there:∀ a,σ a≠none→σ' a≠none
theorem Fr'.trans {t:Addr} {T T' T'':TC} {σ σ' σ'':MS} (h:Fr' t T σ σ' T') (k:Fr' t T' σ' σ'' T''):Fr' t T σ σ'' T'':=by
 refine ⟨fun a n f=> ?_,fun a f=> ?_,fun a n=>k.there a (h.there a n)⟩
 ·have e:=h.keep a n f
  have f':¬ T'.fp t a:=fun q=>(h.new a q).elim f n
  rw [k.keep a (by rw [e]; exact n) f',e]
 ·rcases k.new a f with q | q
  ·exact h.new a q
  ·by_cases n:σ a=none
   ·exact .inr n
   ·exact absurd q (h.there a n)
theorem Fr'.ext {t:Addr} {T:TC} {σ σ':MS} (h:Ext σ σ'):Fr' t T σ σ' T:=by
 refine ⟨fun a n U=> ?_,fun U f=> .inl f,fun a n=> ?_⟩
 ·cases e:σ a with
  | none=>exact absurd e n
  | some o=>exact h a o e
 ·cases e:σ a with
  | none=>exact absurd e n
  | some o=>rw [h a o e]; exact fun c=>nomatch c
theorem BU {t:Addr} {T T':TC} (h1:T'.va=T.va) (h2:T'.na=T.na) (h3:T'.fa=T.fa) (h4:T'.ua=T.ua) (h5:∀ s p,T'.vals.lookup s=some p→∃ s' p',T.vals.lookup s'=some p'∧p'.1=p.1) (h6:∀ i p,T'.nodes.lookup i=some p→∃ i' p',T.nodes.lookup i'=some p'∧p'.1=p.1) {a:Addr} (f:T'.fp t a):T.fp t a:=by
 rcases f with rfl | rfl | rfl | rfl | rfl | ⟨s,p,e,rfl⟩ | ⟨i,p,e,z⟩
 ·exact .inl rfl
 ·exact .inr (.inl h1)
 ·exact .inr (.inr (.inl h2))
 ·exact .inr (.inr (.inr (.inl h3)))
 ·exact .inr (.inr (.inr (.inr (.inl h4))))
 ·refine CX (h5 s p e) fun s' p' e' q=> ?_
  exact .inr (.inr (.inr (.inr (.inr (.inl ⟨s',p',e',q.symm⟩)))))
 ·refine CX (h6 i p e) fun i' p' e' q=> ?_
  exact .inr (.inr (.inr (.inr (.inr (.inr ⟨i',p',e',by rw [q]; exact z⟩)))))
theorem Bw {σ:MS} {a c:Addr} {o o':MO} (h:σ a=some o) (k:σ c=some o') (n:o≠o'):a≠c:=fun q=>by subst q; rw [h] at k; cases k; exact n rfl
section
variable {σ:MS} {t:Addr} {T:TC}
theorem TA.na_t (h:TA σ t T) {i:Int} {p:NA×PN} (e:T.nodes.lookup i=some p):p.1.a≠t:=Bw (h.nod i p e).1 h.self (by delta CM TC.self; intro q; injection q with q; exact absurd q (by decide))
theorem IM {β:Type} (g:β→MV) {k:Int} {v u:β} (e:g v=g u) {l:List (Int×β)}:l.lookup k=some u→(AA l k v).map (fun p=>(p.1,g p.2))=l.map fun p=>(p.1,g p.2):=by
 induction l with
 | nil=>exact fun h=>(Option.some_ne_none _ h.symm).elim
 | cons p r ih =>
  intro h
  obtain ⟨i,x⟩:=p
  rw [List.lookup_cons] at h
  show (if i=k then (i,v)::r else (i,x)::AA r k v).map (fun p=>(p.1,g p.2))=_
  by_cases q:i=k
  ·subst q
   rw [beq_self_eq_true] at h
   rw [if_pos rfl,List.map_cons,List.map_cons,e,Option.some.inj h]
  ·rw [beq_eq_false_iff_ne.mpr (Ne.symm q)] at h
   rw [if_neg q,List.map_cons,List.map_cons,ih h]
theorem TA.setRoot (h:TA σ t T) (r:Int):TA (σ.set t {T with root:=r}.self) t {T with root:=r}∧Fr' t T σ (σ.set t {T with root:=r}.self) {T with root:=r}:=by
 have nt:∀ {a o},σ a=some o→(∀ x y,o≠ .inst 585 x y)→a≠t:=fun e n=>Bw e h.self (n _ _)
 refine ⟨⟨MS.set_self ..,?_,?_,?_,?_,fun s p e=> ?_,fun i p e=>⟨?_,?_⟩,h.ap1,h.ap2,h.ap3,h.ap4,h.ap5⟩,⟨fun a n f=> ?_,fun a f=> .inl ?_,fun a n=> ?_⟩⟩
 ·rw [MS.set_ne (nt h.va (fun U U c=>nomatch c))]; exact h.va
 ·rw [MS.set_ne (nt h.na (fun U U c=>nomatch c))]; exact h.na
 ·rw [MS.set_ne (nt h.fa (fun U U c=>nomatch c))]; exact h.fa
 ·rw [MS.set_ne (nt h.ua (fun U U c=>nomatch c))]; exact h.ua
 ·rw [MS.set_ne (nt (h.val s p e) (fun U U c=>nomatch c))]; exact h.val s p e
 ·rw [MS.set_ne (h.na_t e)]; exact (h.nod i p e).1
 ·rw [MS.set_ne (nt (h.nod i p e).2 (fun U U c=>nomatch c))]; exact (h.nod i p e).2
 ·exact MS.set_ne fun q=>f (.inl q)
 ·exact BU (T:=T) rfl rfl rfl rfl (fun s p e=>⟨s,p,e,rfl⟩) (fun i p e=>⟨i,p,e,rfl⟩) f
 ·rw [MS.set_get]; split
  ·exact fun c=>nomatch c
  ·exact n
theorem C5 {a x:Addr} {o:MO} (n:σ a≠none):(σ.set x o) a≠none:=by
 rw [MS.set_get]; split
 ·exact fun c=>nomatch c
 ·exact n
theorem TA.setUsed (h:TA σ t T) (u:List Int):TA (σ.set T.ua (.list (u.map .int))) t {T with used:=u}∧Fr' t T σ (σ.set T.ua (.list (u.map .int))) {T with used:=u}:=by
 have nt:∀ {a o},σ a=some o→(∀ x,o≠ .list x)→a≠T.ua:=fun e n=>Bw e h.ua (n _)
 refine ⟨⟨?_,?_,?_,?_,MS.set_self ..,fun s p e=> ?_,fun i p e=>⟨?_,?_⟩,h.ap1,h.ap2,h.ap3,h.ap4,h.ap5⟩,⟨fun a n f=> ?_,fun a f=> .inl ?_,fun a n=>C5 n⟩⟩
 ·rw [MS.set_ne (nt h.self (fun U c=>nomatch c))]; exact h.self
 ·rw [MS.set_ne (nt h.va (fun U c=>nomatch c))]; exact h.va
 ·rw [MS.set_ne (nt h.na (fun U c=>nomatch c))]; exact h.na
 ·rw [MS.set_ne h.ap2]; exact h.fa
 ·rw [MS.set_ne (nt (h.val s p e) (fun U c=>nomatch c))]; exact h.val s p e
 ·rw [MS.set_ne (nt (h.nod i p e).1 (fun U c=>nomatch c))]; exact (h.nod i p e).1
 ·rw [MS.set_ne (h.ap3 i p e).2]; exact (h.nod i p e).2
 ·exact MS.set_ne fun q=>f (.inr (.inr (.inr (.inr (.inl q)))))
 ·exact BU (T:=T) rfl rfl rfl rfl (fun s p e=>⟨s,p,e,rfl⟩) (fun i p e=>⟨i,p,e,rfl⟩) f
theorem TA.setFree (h:TA σ t T) (u:List Int):TA (σ.set T.fa (.list (u.map .int))) t {T with free:=u}∧Fr' t T σ (σ.set T.fa (.list (u.map .int))) {T with free:=u}:=by
 have nt:∀ {a o},σ a=some o→(∀ x,o≠ .list x)→a≠T.fa:=fun e n=>Bw e h.fa (n _)
 refine ⟨⟨?_,?_,?_,MS.set_self ..,?_,fun s p e=> ?_,fun i p e=>⟨?_,?_⟩,h.ap1,h.ap2,h.ap3,h.ap4,h.ap5⟩,⟨fun a n f=> ?_,fun a f=> .inl ?_,fun a n=>C5 n⟩⟩
 ·rw [MS.set_ne (nt h.self (fun U c=>nomatch c))]; exact h.self
 ·rw [MS.set_ne (nt h.va (fun U c=>nomatch c))]; exact h.va
 ·rw [MS.set_ne (nt h.na (fun U c=>nomatch c))]; exact h.na
 ·rw [MS.set_ne h.ap2.symm]; exact h.ua
 ·rw [MS.set_ne (nt (h.val s p e) (fun U c=>nomatch c))]; exact h.val s p e
 ·rw [MS.set_ne (nt (h.nod i p e).1 (fun U c=>nomatch c))]; exact (h.nod i p e).1
 ·rw [MS.set_ne (h.ap3 i p e).1]; exact (h.nod i p e).2
 ·exact MS.set_ne fun q=>f (.inr (.inr (.inr (.inl q))))
 ·exact BU (T:=T) rfl rfl rfl rfl (fun s p e=>⟨s,p,e,rfl⟩) (fun i p e=>⟨i,p,e,rfl⟩) f
noncomputable def TC.putNode (T:TC) (i:Int) (p:NA×PN):TC:={T with nodes:=AA T.nodes i p}
theorem Ck {i j:Int} {p q r:NA×PN} (e:T.nodes.lookup i=some p) (hr:r.1=p.1) (f:(T.putNode i r).nodes.lookup j=some q):∃ q',T.nodes.lookup j=some q'∧q'.1=q.1∧((j=i∧q=r)∨(j≠i∧q=q')):=by
 have f:(AA T.nodes i r).lookup j=some q:=f
 rw [AE] at f
 by_cases z:j=i
 ·subst z; rw [if_pos rfl] at f; cases f; exact ⟨p,e,hr.symm,.inl ⟨rfl,rfl⟩⟩
 ·rw [if_neg z] at f; exact ⟨q,f,rfl,.inr ⟨z,rfl⟩⟩
theorem TA.reNode (h:TA σ t T) {i:Int} {p:NA×PN} (e:T.nodes.lookup i=some p) (n:PN) {σ':MS} (k:∀ a,a≠p.1.a→a≠p.1.c→σ' a=σ a) (k1:σ' p.1.a=some (CM (p.1,n))) (k2:σ' p.1.c=some (E2 (p.1,n))) :
  TA σ' t (T.putNode i (p.1,n))∧Fr' t T σ σ' (T.putNode i (p.1,n)):=by
 have ea:=(h.nod i p e).1
 have ec:=(h.nod i p e).2
 have na:∀ {a o},σ a=some o→(∀ x y,o≠ .inst 384 x y)→(∀ x,o≠ .list x)→σ' a=some o:=fun {a o} f n1 n2=>(k a (Bw f ea (n1 _ _)) (Bw f ec (n2 _))).trans f
 refine ⟨⟨?_,?_,?_,?_,?_,fun s q f=> ?_,fun j q f=> ?_,h.ap1,h.ap2,fun j q f=> ?_,fun j1 j2 q1 q2 f1 f2 nn=> ?_,h.ap5⟩,⟨fun a U f=> ?_,fun a f=> .inl ?_,fun a n0=> ?_⟩⟩
 ·exact na h.self (fun U U c=>by unfold TC.self at c; injection c with c; exact absurd c (by decide)) (fun U c=>nomatch c)
 ·exact na h.va (fun U U c=>nomatch c) (fun U c=>nomatch c)
 ·have:Cg (AA T.nodes i (p.1,n))=Cg T.nodes:=IM (u:=p) (v:=(p.1,n)) (fun q:NA×PN=>MV.ref q.1.a) rfl e
  show σ' T.na=some (.dict (asE kI (Cg (AA T.nodes i (p.1,n)))) T.nn)
  rw [this]
  exact na h.na (fun U U c=>nomatch c) (fun U c=>nomatch c)
 ·exact (k _ (Bw h.fa ea fun c=>nomatch c) (h.ap3 i p e).1.symm).trans h.fa
 ·exact (k _ (Bw h.ua ea fun c=>nomatch c) (h.ap3 i p e).2.symm).trans h.ua
 ·exact na (h.val s q f) (fun U U c=>nomatch c) (fun U c=>nomatch c)
 ·obtain ⟨q',f',e1,z | z⟩:=Ck (r:=(p.1,n)) e rfl f
  ·obtain ⟨rfl,rfl⟩:=z
   exact ⟨k1,k2⟩
  ·obtain ⟨ne,rfl⟩:=z
   have a4:=h.ap4 j i q p f' e ne
   exact ⟨(k _ a4.1 (Bw (h.nod j q f').1 ec fun c=>nomatch c)).trans (h.nod j q f').1,(k _ (Bw (h.nod j q f').2 ea fun c=>nomatch c) a4.2).trans (h.nod j q f').2⟩
 ·refine Br (Ck (r:=(p.1,n)) e rfl f) fun q' f' e1 U=> ?_
  rw [← e1]; exact h.ap3 j q' f'
 ·refine Br (Ck (r:=(p.1,n)) e rfl f1) fun q1' f1' e1 U=> ?_
  refine Br (Ck (r:=(p.1,n)) e rfl f2) fun q2' f2' e2 U=> ?_
  rw [← e1,←e2]; exact h.ap4 j1 j2 _ _ f1' f2' nn
 ·exact k a (fun q=>f (.inr (.inr (.inr (.inr (.inr (.inr ⟨i,p,e,.inl q⟩))))))) fun q=>f (.inr (.inr (.inr (.inr (.inr (.inr ⟨i,p,e,.inr q⟩))))))
 ·refine BU (T:=T) (T':=T.putNode i (p.1,n)) rfl rfl rfl rfl (fun s q f=>⟨s,q,f,rfl⟩) (fun j q f=> ?_) f
  refine Br (Ck (r:=(p.1,n)) e rfl f) fun q' f' e1 U=> ?_
  exact Qb j q' f' e1
 ·by_cases z1:a=p.1.a
  ·rw [z1,k1]; exact fun c=>nomatch c
  ·by_cases z2:a=p.1.c
   ·rw [z2,k2]; exact fun c=>nomatch c
   ·rw [k a z1 z2]; exact n0
theorem TA.setSlot (h:TA σ t T) {i:Int} {p:NA×PN} (e:T.nodes.lookup i=some p) (s:Int):TA (σ.set p.1.a (CM (p.1,{p.2 with slot:=s}))) t (T.putNode i (p.1,{p.2 with slot:=s}))∧Fr' t T σ (σ.set p.1.a (CM (p.1,{p.2 with slot:=s}))) (T.putNode i (p.1,{p.2 with slot:=s})) :=
 h.reNode e _ (fun a n1 n2=>MS.set_ne n1) (MS.set_self ..) ((MS.set_ne (Bw (h.nod i p e).2 (h.nod i p e).1 fun c=>nomatch c)).trans (h.nod i p e).2)
theorem TA.setKids (h:TA σ t T) {i:Int} {p:NA×PN} (e:T.nodes.lookup i=some p) (x y:Int):TA (σ.set p.1.c (E2 (p.1,{p.2 with c0:=x,c1:=y}))) t (T.putNode i (p.1,{p.2 with c0:=x,c1:=y}))∧Fr' t T σ (σ.set p.1.c (E2 (p.1,{p.2 with c0:=x,c1:=y}))) (T.putNode i (p.1,{p.2 with c0:=x,c1:=y})) :=
 h.reNode e _ (fun a n1 n2=>MS.set_ne n2) ((MS.set_ne (Bw (h.nod i p e).1 (h.nod i p e).2 fun c=>nomatch c)).trans (h.nod i p e).1) (MS.set_self ..)
theorem C2 {i:Int} {p:NA×PN}:(T.putNode i p).pure={T.pure with nodes:=AA T.pure.nodes i p.2}:=by
 show TP.mk _ _ _ _ _ _ _ _=_
 delta TC.putNode TC.pure
 dsimp only
 rw [ED]
theorem TA.addNode (h:TA σ t T) {i:Int} {p:NA×PN} {m:Nat} (e:T.nodes.lookup i=none) (oa:σ p.1.a=some (CM p)) (oc:σ p.1.c=some (E2 p)) (fa:¬ T.fp t p.1.a) (fc:¬ T.fp t p.1.c) :
  TA (σ.set T.na (.dict (asE kI (D0 (Cg T.nodes) i (.ref p.1.a))) m)) t {T with nodes:=AA T.nodes i p,nn:=m} ∧
  ∀ σ0,Ext σ0 σ→σ0 p.1.a=none→σ0 p.1.c=none→TA σ0 t T→Fr' t T σ0 (σ.set T.na (.dict (asE kI (D0 (Cg T.nodes) i (.ref p.1.a))) m)) {T with nodes:=AA T.nodes i p,nn:=m}:=by
 have na:∀ {a o},σ a=some o→(∀ x y,o≠ .dict x y)→(σ.set T.na (.dict (asE kI (D0 (Cg T.nodes) i (.ref p.1.a))) m)) a=some o:=fun {a o} f n=>by rw [MS.set_ne (Bw f h.na (n _ _))]; exact f
 have look:∀ j q,(AA T.nodes i p).lookup j=some q→(j=i∧q=p)∨(j≠i∧T.nodes.lookup j=some q):=fun j q f=>by
  rw [AE] at f
  by_cases z:j=i
  ·rw [if_pos z] at f; cases f; exact .inl ⟨z,rfl⟩
  ·rw [if_neg z] at f; exact .inr ⟨z,f⟩
 have other:∀ j q,T.nodes.lookup j=some q→p.1.a≠q.1.a∧p.1.c≠q.1.c:=fun j q f =>
  ⟨fun z=>fa (.inr (.inr (.inr (.inr (.inr (.inr ⟨j,q,f,.inl z⟩)))))),fun z=>fc (.inr (.inr (.inr (.inr (.inr (.inr ⟨j,q,f,.inr z⟩))))))⟩
 refine ⟨⟨na h.self (fun U U c=>nomatch c),?_,?_,na h.fa (fun U U c=>nomatch c),na h.ua (fun U U c=>nomatch c),fun s q f=>na (h.val s q f) (fun U U c=>nomatch c),fun j q f=> ?_,h.ap1,h.ap2,fun j q f=> ?_,fun j1 j2 q1 q2 f1 f2 n=> ?_,h.ap5⟩,
  fun σ0 x0 n1 n2 h0=>⟨fun a n f=> ?_,fun a f=> ?_,fun a n=>C5 ?_⟩⟩
 ·show (σ.set T.na _) T.va=_
  rw [MS.set_ne h.ap1]; exact h.va
 ·show (σ.set T.na _) T.na=some (.dict (asE kI (Cg (AA T.nodes i p))) m)
  rw [MS.set_self]
  have:=HG (fun q:NA×PN=>MV.ref q.1.a) i p T.nodes
  unfold Cg
  rw [← this]
 ·rcases look j q f with ⟨rfl,rfl⟩ | ⟨ne,f'⟩
  ·exact ⟨na oa (fun U U c=>nomatch c),na oc (fun U U c=>nomatch c)⟩
  ·exact ⟨na (h.nod j q f').1 (fun U U c=>nomatch c),na (h.nod j q f').2 (fun U U c=>nomatch c)⟩
 ·rcases look j q f with ⟨rfl,rfl⟩ | ⟨ne,f'⟩
  ·exact ⟨fun z=>fc (.inr (.inr (.inr (.inl z)))),fun z=>fc (.inr (.inr (.inr (.inr (.inl z)))))⟩
  ·exact h.ap3 j q f'
 ·rcases look j1 q1 f1 with ⟨rfl,rfl⟩ | ⟨m1,f1'⟩
  ·rcases look j2 q2 f2 with ⟨rfl,rfl⟩ | ⟨m2,f2'⟩
   ·exact absurd rfl n
   ·exact other j2 q2 f2'
  ·rcases look j2 q2 f2 with ⟨rfl,rfl⟩ | ⟨m2,f2'⟩
   ·exact ⟨(other j1 q1 f1').1.symm,(other j1 q1 f1').2.symm⟩
   ·exact h.ap4 j1 j2 q1 q2 f1' f2' n
 ·rw [MS.set_ne fun q=>f (.inr (.inr (.inl q)))]
  cases q:σ0 a with
  | none=>exact absurd q n
  | some o=>exact x0 a o q
 ·rcases f with rfl | rfl | rfl | rfl | rfl | ⟨s,q,e',rfl⟩ | ⟨j,q,e',z⟩
  ·exact .inl (.inl rfl)
  ·exact .inl (.inr (.inl rfl))
  ·exact .inl (.inr (.inr (.inl rfl)))
  ·exact .inl (.inr (.inr (.inr (.inl rfl))))
  ·exact .inl (.inr (.inr (.inr (.inr (.inl rfl)))))
  ·exact .inl (.inr (.inr (.inr (.inr (.inr (.inl ⟨s,q,e',rfl⟩))))))
  ·rcases look j q e' with ⟨rfl,rfl⟩ | ⟨ne,f'⟩
   ·rcases z with rfl | rfl
    ·exact .inr n1
    ·exact .inr n2
   ·exact .inl (.inr (.inr (.inr (.inr (.inr (.inr ⟨j,q,f',z⟩))))))
 ·cases q:σ0 a with
  | none=>exact absurd q n
  | some o=>rw [x0 a o q]; exact fun c=>nomatch c
theorem TA.cutNode (h:TA σ t T) {i:Int} {m:Nat} (hn:(T.nodes.map (·.1)).Nodup):TA (σ.set T.na (.dict (asE kI (FI (Cg T.nodes) i)) m)) t {T with nodes:=Dl T.nodes i,nn:=m} ∧
  Fr' t T σ (σ.set T.na (.dict (asE kI (FI (Cg T.nodes) i)) m)) {T with nodes:=Dl T.nodes i,nn:=m}:=by
 have na:∀ {a o},σ a=some o→(∀ x y,o≠ .dict x y)→(σ.set T.na (.dict (asE kI (FI (Cg T.nodes) i)) m)) a=some o:=fun {a o} f n=>by rw [MS.set_ne (Bw f h.na (n _ _))]; exact f
 have look:∀ j q,(Dl T.nodes i).lookup j=some q→T.nodes.lookup j=some q:=fun j q f=>by
  rw [Ep hn] at f
  by_cases z:j=i
  ·rw [if_pos z] at f; cases f
  ·rw [if_neg z] at f; exact f
 refine ⟨⟨na h.self (fun U U c=>nomatch c),?_,?_,na h.fa (fun U U c=>nomatch c),na h.ua (fun U U c=>nomatch c),fun s q f=>na (h.val s q f) (fun U U c=>nomatch c),
   fun j q f=>⟨na (h.nod j q (look j q f)).1 (fun U U c=>nomatch c),na (h.nod j q (look j q f)).2 (fun U U c=>nomatch c)⟩,h.ap1,h.ap2,fun j q f=>h.ap3 j q (look j q f),fun j1 j2 q1 q2 f1 f2 n=>h.ap4 j1 j2 q1 q2 (look _ _ f1) (look _ _ f2) n,h.ap5⟩,
  ⟨fun a n f=> ?_,fun a f=> .inl ?_,fun a n=>C5 n⟩⟩
 ·show (σ.set T.na _) T.va=_
  rw [MS.set_ne h.ap1]; exact h.va
 ·show (σ.set T.na _) T.na=some (.dict (asE kI (Cg (Dl T.nodes i))) m)
  rw [MS.set_self]
  have:=KR (fun q:NA×PN=>MV.ref q.1.a) i T.nodes
  unfold Cg
  rw [← this]
 ·exact MS.set_ne fun q=>f (.inr (.inr (.inl q)))
 ·exact BU (T:=T) (T':={T with nodes:=Dl T.nodes i,nn:=m}) rfl rfl rfl rfl (fun s q f=>⟨s,q,f,rfl⟩) (fun j q f=>⟨j,q,look j q f,rfl⟩) f
theorem TA.setVal (h:TA σ t T) {s:Int} {p:Addr×Array UInt8} (e:T.vals.lookup s=some p) (x:Array UInt8):TA (σ.set p.1 (.barr x)) t {T with vals:=AA T.vals s (p.1,x)}∧Fr' t T σ (σ.set p.1 (.barr x)) {T with vals:=AA T.vals s (p.1,x)}:=by
 have ep:=h.val s p e
 have na:∀ {a o},σ a=some o→(∀ x,o≠ .barr x)→(σ.set p.1 (.barr x)) a=some o:=fun {a o} f n=>by rw [MS.set_ne (Bw f ep (n _))]; exact f
 have look:∀ j q,(AA T.vals s (p.1,x)).lookup j=some q→∃ q',T.vals.lookup j=some q'∧q'.1=q.1∧((j=s∧q=(p.1,x))∨(j≠s∧q=q')):=fun j q f=>by
  rw [AE] at f
  by_cases z:j=s
  ·subst z; rw [if_pos rfl] at f; cases f; exact ⟨p,e,rfl,.inl ⟨rfl,rfl⟩⟩
  ·rw [if_neg z] at f; exact ⟨q,f,rfl,.inr ⟨z,rfl⟩⟩
 refine ⟨⟨na h.self (fun U c=>nomatch c),?_,na h.na (fun U c=>nomatch c),na h.fa (fun U c=>nomatch c),na h.ua (fun U c=>nomatch c),fun j q f=> ?_,fun i q f=>⟨na (h.nod i q f).1 (fun U c=>nomatch c),na (h.nod i q f).2 (fun U c=>nomatch c)⟩,h.ap1,h.ap2,h.ap3,h.ap4,fun j1 j2 q1 q2 f1 f2 n=> ?_⟩,
  ⟨fun a n f=> ?_,fun a f=> .inl ?_,fun a n=>C5 n⟩⟩
 ·have:DO (AA T.vals s (p.1,x))=DO T.vals:=IM (u:=p) (v:=(p.1,x)) (fun q:Addr×Array UInt8=>MV.ref q.1) rfl e
  show (σ.set p.1 (.barr x)) T.va=some (.dict (asE kI (DO (AA T.vals s (p.1,x)))) T.vn)
  rw [this]
  exact na h.va (fun U c=>nomatch c)
 ·obtain ⟨q',f',e1,z | z⟩:=look j q f
  ·obtain ⟨rfl,rfl⟩:=z
   exact MS.set_self ..
  ·obtain ⟨ne,rfl⟩:=z
   rw [MS.set_ne (h.ap5 j s q p f' e ne)]; exact h.val j q f'
 ·refine Br (look _ _ f1) fun q1' f1' e1 U=> ?_
  refine Br (look _ _ f2) fun q2' f2' e2 U=> ?_
  rw [← e1,←e2]; exact h.ap5 j1 j2 _ _ f1' f2' n
 ·exact MS.set_ne fun q=>f (.inr (.inr (.inr (.inr (.inr (.inl ⟨s,p,e,q⟩))))))
 ·refine BU (T:=T) (T':={T with vals:=AA T.vals s (p.1,x)}) rfl rfl rfl rfl (fun j q f=> ?_) (fun i q f=>⟨i,q,f,rfl⟩) f
  refine Br (look j q f) fun q' f' e1 U=> ?_
  exact Qb j q' f' e1
theorem TA.addVal (h:TA σ t T) {s:Int} {a0:Addr} {x:Array UInt8} {m:Nat} (e:T.vals.lookup s=none) (oa:σ a0=some (.barr x)) (fa:¬ T.fp t a0) :
  TA (σ.set T.va (.dict (asE kI (D0 (DO T.vals) s (.ref a0))) m)) t {T with vals:=AA T.vals s (a0,x),vn:=m} ∧
  ∀ σ0,Ext σ0 σ→σ0 a0=none→Fr' t T σ0 (σ.set T.va (.dict (asE kI (D0 (DO T.vals) s (.ref a0))) m)) {T with vals:=AA T.vals s (a0,x),vn:=m}:=by
 have na:∀ {a o},σ a=some o→(∀ x y,o≠ .dict x y)→(σ.set T.va (.dict (asE kI (D0 (DO T.vals) s (.ref a0))) m)) a=some o:=fun {a o} f n=>by rw [MS.set_ne (Bw f h.va (n _ _))]; exact f
 have look:∀ j q,(AA T.vals s (a0,x)).lookup j=some q→(j=s∧q=(a0,x))∨(j≠s∧T.vals.lookup j=some q):=fun j q f=>by
  rw [AE] at f
  by_cases z:j=s
  ·rw [if_pos z] at f; cases f; exact .inl ⟨z,rfl⟩
  ·rw [if_neg z] at f; exact .inr ⟨z,f⟩
 have other:∀ j q,T.vals.lookup j=some q→a0≠q.1:=fun j q f z=>fa (.inr (.inr (.inr (.inr (.inr (.inl ⟨j,q,f,z⟩))))))
 refine ⟨⟨na h.self (fun U U c=>nomatch c),?_,?_,na h.fa (fun U U c=>nomatch c),na h.ua (fun U U c=>nomatch c),fun j q f=> ?_,fun i q f=>⟨na (h.nod i q f).1 (fun U U c=>nomatch c),na (h.nod i q f).2 (fun U U c=>nomatch c)⟩,h.ap1,h.ap2,h.ap3,h.ap4,fun j1 j2 q1 q2 f1 f2 n=> ?_⟩,
  fun σ0 x0 n1=>⟨fun a n f=> ?_,fun a f=> ?_,fun a n=>C5 ?_⟩⟩
 ·show (σ.set T.va _) T.va=some (.dict (asE kI (DO (AA T.vals s (a0,x)))) m)
  rw [MS.set_self]
  have:=HG (fun q:Addr×Array UInt8=>MV.ref q.1) s (a0,x) T.vals
  unfold DO
  rw [← this]
 ·show (σ.set T.va _) T.na=_
  rw [MS.set_ne h.ap1.symm]; exact h.na
 ·rcases look j q f with ⟨rfl,rfl⟩ | ⟨ne,f'⟩
  ·exact na oa (fun U U c=>nomatch c)
  ·exact na (h.val j q f') (fun U U c=>nomatch c)
 ·rcases look j1 q1 f1 with ⟨rfl,rfl⟩ | ⟨m1,f1'⟩
  ·rcases look j2 q2 f2 with ⟨rfl,rfl⟩ | ⟨m2,f2'⟩
   ·exact absurd rfl n
   ·exact other j2 q2 f2'
  ·rcases look j2 q2 f2 with ⟨rfl,rfl⟩ | ⟨m2,f2'⟩
   ·exact (other j1 q1 f1').symm
   ·exact h.ap5 j1 j2 q1 q2 f1' f2' n
 ·rw [MS.set_ne fun q=>f (.inr (.inl q))]
  cases q:σ0 a with
  | none=>exact absurd q n
  | some o=>exact x0 a o q
 ·rcases f with rfl | rfl | rfl | rfl | rfl | ⟨j,q,e',rfl⟩ | ⟨j,q,e',z⟩
  ·exact .inl (.inl rfl)
  ·exact .inl (.inr (.inl rfl))
  ·exact .inl (.inr (.inr (.inl rfl)))
  ·exact .inl (.inr (.inr (.inr (.inl rfl))))
  ·exact .inl (.inr (.inr (.inr (.inr (.inl rfl)))))
  ·rcases look j q e' with ⟨rfl,rfl⟩ | ⟨ne,f'⟩
   ·exact .inr n1
   ·exact .inl (.inr (.inr (.inr (.inr (.inr (.inl ⟨j,q,f',rfl⟩))))))
  ·exact .inl (.inr (.inr (.inr (.inr (.inr (.inr ⟨j,q,e',z⟩))))))
 ·cases q:σ0 a with
  | none=>exact absurd q n
  | some o=>rw [x0 a o q]; exact fun c=>nomatch c
end
theorem Ge {p:Prop} [Decidable p] {A B:Prop} (h1:p→A) (h2:¬ p→B):if decide p=true then A else B:=by
 by_cases h:p
 ·rw [if_pos (decide_eq_true h)]; exact h1 h
 ·rw [if_neg (by rw [decide_eq_false h]; exact Bool.false_ne_true)]; exact h2 h
theorem Kx {α:Type} [BEq α] [LawfulBEq α] {x y:α} {A B:Prop} (h1:x=y→A) (h2:x≠y→B):if (x==y)=true then A else B:=by
 by_cases h:x=y
 ·rw [if_pos (beq_iff_eq.mpr h)]; exact h1 h
 ·rw [if_neg (by rw [beq_eq_false_iff_ne.mpr h]; exact Bool.false_ne_true)]; exact h2 h
theorem MU {α:Type} [BEq α] [LawfulBEq α] {x y:α} {A B:Prop} (h1:x≠y→A) (h2:x=y→B):if (x != y)=true then A else B:=by
 by_cases h:x=y
 ·rw [if_neg (by rw [bne,beq_iff_eq.mpr h]; exact Bool.false_ne_true)]; exact h2 h
 ·rw [if_pos (by rw [bne,beq_eq_false_iff_ne.mpr h]; rfl)]; exact h1 h
theorem PX {x:Bool} {A B:Prop} (h1:x=true→A) (h2:x=false→B):if x=true then A else B:=by
 cases x
 ·exact h2 rfl
 ·exact h1 rfl
noncomputable def DL (n:Nat):Nat:=if n=0 then 0 else n.log2+1
noncomputable def cut (size w l:Nat):Nat:=w/2^(size-l)*2^(size-l)
noncomputable def AI (size w i:Nat):Nat:=w/2^(size-1-i)%2
noncomputable def Av (one other most size:Nat):Nat:=min most (size-DL (one^^^other))
theorem OC (n:Nat):n&&&1=n%2:=Nat.and_one_is_mod n
theorem D4 (x y:Nat):Builtin.bitAnd (x:Int) (y:Int)=((x&&&y:Nat):Int):=by
 rw [PyProof.Rows.bitAnd_pp (Int.natCast_nonneg x) (Int.natCast_nonneg y)]; rfl
theorem Gr:∀ x y:Nat,x+y=(x^^^y)+2*(x&&&y):=by
 intro x
 induction x using Nat.strongRecOn with
 | ind x ih =>
  intro y
  by_cases h0:x=0
  ·subst h0; simp
  ·have i:=ih (x/2) (Nat.bitwise_rec_lemma h0) (y/2)
   have e1:(x^^^y)/2=(x/2)^^^(y/2):=Nat.xor_div_two
   have e2:(x&&&y)/2=(x/2)&&&(y/2):=Nat.and_div_two
   have g1:= @Nat.xor_mod_two_eq_one x y
   have g2:= @Nat.and_mod_two_eq_one x y
   have f1:(x^^^y)%2=(x%2+y%2)%2:=by
    rcases Nat.mod_two_eq_zero_or_one x with p | p <;> rcases Nat.mod_two_eq_zero_or_one y with q | q <;> rcases Nat.mod_two_eq_zero_or_one (x^^^y) with r | r <;> rw [p,q,r] at g1 <;> rw [p,q,r] <;> first | rfl | (exfalso; revert g1; decide)
   have f2:(x&&&y)%2=(x%2)*(y%2):=by
    rcases Nat.mod_two_eq_zero_or_one x with p | p <;> rcases Nat.mod_two_eq_zero_or_one y with q | q <;> rcases Nat.mod_two_eq_zero_or_one (x&&&y) with r | r <;> rw [p,q,r] at g2 <;> rw [p,q,r] <;> first | rfl | (exfalso; revert g2; decide)
   have f:(x^^^y)%2+2*((x&&&y)%2)=x%2+y%2:=by
    rw [f1,f2]
    exact (by decide:∀ p < 2,∀ q < 2,(p+q)%2+2*(p*q)=p+q) _ (Nat.mod_lt x (by decide)) _ (Nat.mod_lt y (by decide))
   rw [← e1,←e2] at i
   rw [← Nat.div_add_mod (x^^^y) 2,←Nat.div_add_mod (x&&&y) 2,Nat.mul_add 2 (2*_),Nat.add_add_add_comm (2*((x^^^y)/2)),←Nat.mul_add,←i,f,Nat.mul_add,←Nat.add_add_add_comm,Nat.div_add_mod,Nat.div_add_mod]
theorem Mj (x y:Nat):Builtin.bitXor (x:Int) (y:Int)=((x^^^y:Nat):Int):=by
 rw [bitXor_and,D4]
 have h:=Gr x y
 lia
theorem AY (x y:Nat):(x:Int).fdiv (y:Int)=((x/y:Nat):Int):=by
 rw [Int.fdiv_eq_ediv_of_nonneg _ (Int.natCast_nonneg y)]; rfl
theorem ET {n k:Nat}:DL n≤k↔n < 2^k:=by
 unfold DL
 by_cases h:n=0
 ·subst h; simp [Nat.two_pow_pos]
 ·rw [if_neg h,←Nat.log2_lt h]; lia
theorem NO {n m:Nat} (hm:1≤m) (h:2^(m-1)≤n):DL (n/2^m)+m=DL n:=by
 have h1:m≤DL n:=by
  rcases Nat.lt_or_ge (DL n) m with c | c
  ·have:=(ET (n:=n) (k:=m-1)).mp (Nat.le_sub_one_of_lt c)
   lia
  ·exact c
 have key:∀ j,m≤j→(DL n≤j↔DL (n/2^m)≤j-m):=fun j hj=>by
  rw [ET,ET,Nat.div_lt_iff_lt_mul (Nat.two_pow_pos m),←Nat.pow_add]
  rw [show j-m+m=j by lia]
 have a:=(key (DL n) h1).mp (Nat.le_refl _)
 have b:=(key (DL (n/2^m)+m) (Nat.le_add_left _ _)).mpr (Nat.le_of_eq (Nat.eq_sub_of_add_eq rfl))
 exact Nat.le_antisymm (Nat.add_le_of_le_sub h1 a) b
noncomputable abbrev fnC (D:Stmt) (d:Nat):Cx:=⟨(An D).names,d-1⟩
noncomputable abbrev kFn (Q:MV→MS→Prop):MF→LM→MS→Prop:=fun mf U σ'=>Q mf.val σ'
section
variable (w:World) (b:Heap) (C:Cx)
noncomputable abbrev OG (rest:List Stmt) (Q:MF→LM→MS→Prop):MF→LM→MS→Prop:=fun mf ρ1 σ1=>match mf with | .next=>WS w b C (execs rest) ρ1 σ1 Q | f=>Q f ρ1 σ1
noncomputable abbrev Te (rest:List Stmt) (ρ:LM) (x:Str) (Q:MF→LM→MS→Prop):MV→MS→Prop:=fun mv σ1=>WS w b C (execs rest) (ρ.set x mv) σ1 Q
noncomputable abbrev Tc (rest:List Stmt) (ρ:LM) (Q:MF→LM→MS→Prop):MV→MS→Prop:=fun U σ1=>WS w b C (execs rest) ρ σ1 Q
noncomputable abbrev Sg (op:Operator) (va:MV) (Q:MV→MS→Prop):MV→MS→Prop:=fun vb σ2=>WO2 w b C.d (binaryOp op) va vb σ2 Q
noncomputable abbrev Td (ρ:LM) (op:Operator) (r:Expr) (Q:MV→MS→Prop):MV→MS→Prop:=fun va σ1=>WE w b C (eval r) ρ σ1 (Sg w b C op va Q)
noncomputable abbrev Se (op:CmpOp) (va:MV) (Q:Bool→MS→Prop):MV→MS→Prop:=fun vb σ2=>WK w b C.d op va vb σ2 Q
noncomputable abbrev Sf (ρ:LM) (op:CmpOp) (r:Expr) (Q:Bool→MS→Prop):MV→MS→Prop:=fun va σ1=>WE w b C (eval r) ρ σ1 (Se w b C op va Q)
noncomputable abbrev kAt (x:Str) (Q:MV→MS→Prop):MV→MS→Prop:=fun mv σ1=>WO1 w b C.d (Ra x) mv σ1 Q
noncomputable abbrev Sb (o:MV) (Q:MV→MS→Prop):MV→MS→Prop:=fun k σ2=>WX w b C.d o k σ2 Q
noncomputable abbrev S0 (ρ:LM) (i:Expr) (Q:MV→MS→Prop):MV→MS→Prop:=fun o σ1=>WE w b C (eval i) ρ σ1 (Sb w b C o Q)
noncomputable abbrev MT (v:MV) (Q:List MV→MS→Prop):List MV→MS→Prop:=fun vs σ2=>Q (v::vs) σ2
noncomputable abbrev Tf (ρ:LM) (pos:Pos) (es:List Expr) (Q:List MV→MS→Prop):MV→MS→Prop:=fun v σ1=>WL w b C (AT pos es) ρ σ1 (MT v Q)
noncomputable abbrev MR (u:Value) (Q:MV→MS→Prop):List MV→MS→Prop:=fun as σ2=>WC w b C.d u as σ2 Q
noncomputable abbrev Sc (u:Value) (o:MV) (Q:MV→MS→Prop):List MV→MS→Prop:=fun as σ2=>WC w b C.d u (o::as) σ2 Q
noncomputable abbrev kMe (ρ:LM) (x:Str) (pos:Pos) (es:List Expr) (Q:MV→MS→Prop):MV→MS→Prop:=fun mv σ1=>∃ f first,GM w b x mv σ1 f first∧Dv w b f∧WL w b C (AT pos es) ρ σ1 fun as σ2=>WC w b C.d f (first++as) σ2 Q
noncomputable abbrev SY (Q:MV→MS→Prop):List MV→MS→Prop:=fun vs σ1=>Nat.ble vs.length 1000=true∧Q (.tup vs) σ1
end
noncomputable abbrev Ta (ρ:LM) (Q:MF→LM→MS→Prop):MV→MS→Prop:=fun mv σ1=>Q (.ret mv) ρ σ1
noncomputable abbrev kBv (Q:MV→MS→Prop):Bool→MS→Prop:=fun bb σ3=>Q (.bool bb) σ3
noncomputable def LP:Expr→Bool
 | .Starred ..=>true
 | _=>false
noncomputable def DR (es:List Expr):Bool:=es.all fun e=> !LP e
theorem It {e:Expr} (h:LP e=false) (es:List Expr) (env:Env):starEach (e::es) env=(false,eval e env)::starEach es env:=by
 cases e <;> first | rfl | cases h
theorem G9 {env:Env}:∀ {es:List Expr},DR es=true→(starEach es env).all (fun x=> !x.1)=true:=by
 intro w_
 induction w_ with
 | nil =>
  intro _
  exact rfl
 | cons e es ih_ =>
  intro h
  unfold DR at h
  rw [List.all_cons,Bool.and_eq_true] at h
  rw [It (by simpa using h.1),List.all_cons,ih_ h.2]; rfl
theorem Iu {env:Env} {pos:Pos} {es:List Expr} (h:DR es=true):(backTo pos (starEach es env)).any (·.1)=false:=by
 have h:=G9 (env:=env) h
 unfold backTo
 generalize starEach es env=l at h
 induction l with
 | nil=>rfl
 | cons a r ih =>
  obtain ⟨st,t⟩:=a
  rw [List.all_cons,Bool.and_eq_true] at h
  rw [List.map_cons,List.any_cons,ih h.2]
  have h1:st=false:=by simpa using h.1
  subst h1; rfl
noncomputable def Ov:List Expr→Option (List Str)
 | []=>some []
 | e::r=>(Jk e).bind fun x=>(Ov r).bind fun l=>some (x::l)
noncomputable def Oy (ρ:LM):List Str→Option (List MV)
 | []=>some []
 | x::r=>(ρ.lookup x).bind fun v=>(Oy ρ r).bind fun l=>some (v::l)
noncomputable def AP (xs:List Str):Bool:=xs.all fun x=> !(x==("__debug__":Str)) && !(x==("__classdict__":Str))
section
variable {w:World} {b:Heap} {C:Cx} {ρ:LM} {σ:MS}
section
variable {Q:MF→LM→MS→Prop}
theorem sCo {st:Stmt} {rest:List Stmt} (h:WS w b C (exec st) ρ σ (OG w b C rest Q)):WS w b C (execs (st::rest)) ρ σ Q:=Kd h
theorem scR {e:Expr} {pos:Pos} {rest:List Stmt} (h:WE w b C (eval e) ρ σ (Ta ρ Q)):WS w b C (execs (.Return (some e) pos::rest)) ρ σ Q:=Kd (QP h)
theorem scA {x:Str} {p pos:Pos} {e:Expr} {rest:List Stmt} (h:WE w b C (eval e) ρ σ (Te w b C rest ρ x Q)) (hk:AX C x=true:=by first | rfl | decide +kernel)
  (hs:∀ env,swapsWith e (some (.Name x p)) pos.line env=pure false:=by intro _; rfl):WS w b C (execs (.Assign [.Name x p] e pos::rest)) ρ σ Q:=Kd (Cj h hk hs)
theorem scE {e:Expr} {pos:Pos} {rest:List Stmt} (h:WE w b C (eval e) ρ σ (Tc w b C rest ρ Q)) (hs:∀ env,swapsWith e none pos.line env=pure false:=by intro _; rfl):WS w b C (execs (.Expr e pos::rest)) ρ σ Q:=Kd (Qt h hs)
theorem scI {t:Expr} {x y rest:List Stmt} {pos:Pos} (h:WB w b C (tst t) ρ σ fun bb σ1=>if bb=true then WS w b C (execs x) ρ σ1 (OG w b C rest Q) else WS w b C (execs y) ρ σ1 (OG w b C rest Q)):WS w b C (execs (.If t x y pos::rest)) ρ σ Q:=Kd (sIf h)
end
variable {Q:MV→MS→Prop}
theorem eBi {op:Operator} {l r:Expr} {pos:Pos} (h:WE w b C (eval l) ρ σ (Td w b C ρ op r Q)):WE w b C (eval (.BinOp l op r pos)) ρ σ Q:=Tx h
theorem tCm {Q:Bool→MS→Prop} {op:CmpOp} {l r:Expr} {pos:Pos} (h:WE w b C (eval l) ρ σ (Sf w b C ρ op r Q)) (hm:behindInMarks op r=false:=by with_unfolding_all rfl):WB w b C (tst (.Compare l [op] [r] pos)) ρ σ Q:=SR h hm
theorem eCm {op:CmpOp} {l r:Expr} {pos:Pos} (h:WE w b C (eval l) ρ σ (Sf w b C ρ op r (kBv Q))) (hm:behindInMarks op r=false:=by with_unfolding_all rfl):WE w b C (eval (.Compare l [op] [r] pos)) ρ σ Q:=Tw h hm
theorem Fd {o:Expr} {x:Str} {pos:Pos} (h:WE w b C (eval o) ρ σ (kAt w b C x Q))
  (he:∀ env,eval (.Attribute o x pos) env=(do
   let v←eval o env
   standAt pos.atName
   let r←holding [v] (getAttr v x true)
   letTemporaryGo o v r
   pure r):=by intro _; with_unfolding_all rfl):WE w b C (eval (.Attribute o x pos)) ρ σ Q:=SB h he
theorem eSu {v i:Expr} {pos:Pos} (h:WE w b C (eval v) ρ σ (S0 w b C ρ i Q))
  (hs:∀ x y,subscripted i false x y=operate [x,y] (getItem x y)∨subscripted i false x y=operate [y,x] (getItem x y):=by intro _ _; first | exact .inl rfl | exact .inr rfl):WE w b C (eval (.Subscript v i pos)) ρ σ Q:=Tv h hs
theorem eTu {es:List Expr} {k:Nat} {pos:Pos} (h:WL w b C (AT pos es) ρ σ (SY Q)):WE w b C (eval (.Tuple es k pos)) ρ σ Q:=Tu h
theorem eMe {o:Expr} {x:Str} {ap pos:Pos} {es:List Expr} (h:WE w b C (eval o) ρ σ (kMe w b C ρ x pos es Q))
  (he:∀ env,eval (.Call (.Attribute o x ap) es [] pos) env=(do
   let ov←eval o env
   standAt ap.atName
   let (f,first)←holding [ov] (getMethod ov x (do return (← importBound o env).getD true))
   let cp←pure pos
   callWith cp f first (backTo pos (starEach es env)) []):=by intro _; with_unfolding_all rfl)
  (hs:DR es=true:=by rfl):WE w b C (eval (.Call (.Attribute o x ap) es [] pos)) ρ σ Q:=Sz h he (fun env=>G9 hs) fun env=>Iu hs
theorem lCo {pos:Pos} {e:Expr} {es:List Expr} {Q:List MV→MS→Prop} (h:WE w b C (eval e) ρ σ (Tf w b C ρ pos es Q)) (hs:LP e=false:=by rfl):WL w b C (AT pos (e::es)) ρ σ Q:=Sa h (It hs es)
theorem eV {x:Str} {pos:Pos} {mv:MV} (q:Q mv σ) (hv:ρ.lookup x=some mv:=by rfl) (hd:AP [x]=true:=by rfl):WE w b C (eval (.Name x pos)) ρ σ Q:=by
 unfold AP at hd
 simp only [List.all_cons,List.all_nil,Bool.and_true,Bool.and_eq_true,Bool.not_eq_true'] at hd
 exact JC hv q hd.1 hd.2
theorem lV {x:Str} {pos p:Pos} {mv:MV} {es:List Expr} {Q:List MV→MS→Prop} (q:WL w b C (AT pos es) ρ σ (MT mv Q)) (hv:ρ.lookup x=some mv:=by rfl) (hd:AP [x]=true:=by rfl):WL w b C (AT pos (.Name x p::es)) ρ σ Q:=lCo (eV q hv hd)
theorem lI {i:Int} {k:Nat} {pos p:Pos} {es:List Expr} {Q:List MV→MS→Prop} (q:WL w b C (AT pos es) ρ σ (MT (.int i) Q)):WL w b C (AT pos (.Constant (.int i) k p::es)) ρ σ Q:=lCo (Ae q)
theorem lVs {pos:Pos}:∀ {es:List Expr} {vs:List MV} {xs:List Str} {Q:List MV→MS→Prop},Q vs σ→Ov es=some xs→Oy ρ xs=some vs→AP xs=true→WL w b C (AT pos es) ρ σ Q:=by
 intro w_
 induction w_ with
 | nil =>
  intro _ _ Q q hn hl _
  cases hn; cases hl; exact Ad q
 | cons e es ih_ =>
  intro vs xs Q q hn hl hp
  refine Af (Option.bind_eq_some_iff.mp hn) fun x h1 h2=> ?_
  refine Af (Option.bind_eq_some_iff.mp h2) fun l h3 h4=> ?_
  obtain ⟨p,rfl⟩:=MJ h1
  cases h4
  refine Af (Option.bind_eq_some_iff.mp hl) fun v h5 h6=> ?_
  refine Af (Option.bind_eq_some_iff.mp h6) fun us h7 h8=> ?_
  cases h8
  have hp':(AP [x] && AP l)=true:=by unfold AP at hp ⊢; rw [List.all_cons] at hp; rw [List.all_cons,List.all_nil,Bool.and_true]; exact hp
  rw [Bool.and_eq_true] at hp'
  exact lV (ih_ (Q:=MT v Q) q h3 h7 hp'.2) h5 hp'.1
theorem Aq {pos:Pos} {vs:List MV} {xs:List Str} {es:List Expr} {Q:List MV→MS→Prop} (q:Q vs σ) (hn:Ov es=some xs:=by rfl) (hl:Oy ρ xs=some vs:=by rfl) (hp:AP xs=true:=by rfl):WL w b C (AT pos es) ρ σ Q:=lVs q hn hl hp
theorem Gn {x:Str} {p pos:Pos} {es:List Expr} {u:Value} (h:WE w b C (eval (.Name x p)) ρ σ fun f σ1=>f= .raw u∧WL w b C (AT pos es) ρ σ1 (MR w b C u Q)) (hk:Dv w b u) (hs:DR es=true):WE w b C (eval (.Call (.Name x p) es [] pos)) ρ σ Q :=
 KO (WE.mono h fun f σ1 q0_=>by obtain ⟨e,q⟩:=q0_; exact ⟨u,e,hk,q⟩) (fun U=>rfl) (fun env=>G9 hs) fun env=>Iu hs
end
section
variable {w:World} {b:Heap} (hB:BaseOk w b) {C:Cx} {ρ:LM} {σ:MS} {Q:MV→MS→Prop}
include hB
theorem eG {x:Str} {pos:Pos} {v:Value} (q:Q (QY v) σ) (hx:C.names.lookup x=some .globalImplicit:=by rfl) (hv:glob x=some v:=by rfl) (hd:AP [x]=true:=by rfl):WE w b C (eval (.Name x pos)) ρ σ Q:=by
 unfold AP at hd
 simp only [List.all_cons,List.all_nil,Bool.and_true,Bool.and_eq_true,Bool.not_eq_true'] at hd
 exact SA hB hx hv q hd.1
noncomputable def Jc (x:Str):Bool:= !(x==("__debug__":Str)) && !(x==("__name__":Str))
theorem cG {x:Str} {p pos:Pos} {es:List Expr} {f:Addr} {D:Stmt} {qual:Str} {dflt mod:Value} {code:Addr} (q:WL w b C (AT pos es) ρ σ (MR w b C (.ref f) Q)) (hx:C.names.lookup x=some .globalImplicit:=by rfl) (hv:glob x=some (.ref f):=by rfl)
  (hf:(KF w.params).lookup f=some (Ag D qual dflt mod code):=by rfl) (hs:DR es=true:=by rfl) (hd:AP [x]=true:=by rfl):WE w b C (eval (.Call (.Name x p) es [] pos)) ρ σ Q :=
 Gn (eG hB ⟨rfl,q⟩ hx hv hd) (Hr (hB.top.K _ _ hf)) hs
theorem cTy {x:Str} {p pos:Pos} {es:List Expr} {n:String} (q:WL w b C (AT pos es) ρ σ (MR w b C (.type n) Q)) (hx:C.names.lookup x=some .globalImplicit:=by rfl) (hm:glob x=none:=by rfl) (hv:bootBuiltins x=some (.type n):=by rfl)
  (hs:DR es=true:=by rfl) (hd:Jc x=true:=by rfl):WE w b C (eval (.Call (.Name x p) es [] pos)) ρ σ Q:=by
 unfold Jc at hd
 rw [Bool.and_eq_true] at hd
 exact Gn (Qf hB hx hm hv ⟨rfl,q⟩ (by simpa using hd.2) (by simpa using hd.1)) (Hq _) hs
theorem cBu {x:Str} {p pos:Pos} {es:List Expr} {n:String} (q:WL w b C (AT pos es) ρ σ (MR w b C (.builtin n) Q)) (hx:C.names.lookup x=some .globalImplicit:=by rfl) (hm:glob x=none:=by rfl) (hv:bootBuiltins x=some (.builtin n):=by rfl)
  (hs:DR es=true:=by rfl) (hd:Jc x=true:=by rfl):WE w b C (eval (.Call (.Name x p) es [] pos)) ρ σ Q:=by
 unfold Jc at hd
 rw [Bool.and_eq_true] at hd
 exact Gn (Qf hB hx hm hv ⟨rfl,q⟩ (by simpa using hd.2) (by simpa using hd.1)) (Ar _) hs
theorem cM {y x:Str} {yp ap pos:Pos} {es:List Expr} {a Cl dd f:Addr} {t:List (Str×MV)} {D:Stmt} {qual:Str} {dflt mod:Value} {code:Addr} (ha:σ a=some (.inst Cl dd t)) (q:WL w b C (AT pos es) ρ σ (Sc w b C (.ref f) (.ref a) Q))
  (hv:ρ.lookup y=some (.ref a):=by rfl) (hc:GA Cl=true:=by rfl) (hm:(x,f)∈Jl Cl:=by decide +kernel) (hx:t.lookup x=none:=by rfl) (hf:(KF w.params).lookup f=some (Ag D qual dflt mod code):=by rfl)
  (he:∀ env,eval (.Call (.Attribute (.Name y yp) x ap) es [] pos) env=(do
   let ov←eval (.Name y yp) env
   standAt ap.atName
   let (f,first)←holding [ov] (getMethod ov x (do return (← importBound (.Name y yp) env).getD true))
   let cp←pure pos
   callWith cp f first (backTo pos (starEach es env)) []):=by intro _; with_unfolding_all rfl)
  (hs:DR es=true:=by rfl) (hd:AP [y]=true:=by rfl):WE w b C (eval (.Call (.Attribute (.Name y yp) x ap) es [] pos)) ρ σ Q :=
 eMe (eV ⟨_,_,mFn hB ha hc hm hx,Hr (hB.top.K _ _ hf),q⟩ hv hd) he hs
theorem aV {y x:Str} {yp pos:Pos} {a Cl dd:Addr} {t:List (Str×MV)} {r:MV} (ha:σ a=some (.inst Cl dd t)) (q:Q r σ) (hv:ρ.lookup y=some (.ref a):=by rfl) (hx:t.lookup x=some r:=by rfl) (hc:GA Cl=true:=by rfl)
  (hn:x∈GY Cl:=by decide +kernel) (hr:DQ r=true:=by rfl)
  (he:∀ env,eval (.Attribute (.Name y yp) x pos) env=(do
   let v←eval (.Name y yp) env
   standAt pos.atName
   let r←holding [v] (getAttr v x true)
   letTemporaryGo (.Name y yp) v r
   pure r):=by intro _; with_unfolding_all rfl) (hd:AP [y]=true:=by rfl):WE w b C (eval (.Attribute (.Name y yp) x pos)) ρ σ Q :=
 Fd (eV (Dg hB ha hx q hc hn hr) hv hd) he
theorem AR {f:Addr} {D:Stmt} {qual:Str} {dflt mod:Value} {code:Addr} {d:Nat} {as dv:List MV} (pn:List Str)
  (hbind:∀ (s:Shared) (vs:List Value),(∀ a o,b.get? a=some o→s.heap.get? a=some o)→VRs b s.heap as vs→∃ us,VRs b s.heap dv us∧BindsTo s (Ew D qual dflt mod code) ⟨vs,[]⟩ (pn.zip (vs++us)))
  (hd:1≤d) (h:WS w b (fnC D d) (execs (Dw D)) (pn.zip (as++dv)) σ (kFn Q)) (hf:(KF w.params).lookup f=some (Ag D qual dflt mod code):=by rfl) (hc:(code,qual)∈HJ:=by decide +kernel)
  (hkind:(pn.all fun x=>(An D).names.lookup x==some .local || (An D).names.lookup x==some .cell)=true:=by rfl) (hnd:pn.Nodup:=by decide)
  (hk:(An D).kind= .function:=by rfl) (hco:(An D).isCoroutine=false:=by rfl) (hgen:(An D).isGenerator=false:=by rfl):WC w b d (.ref f) as σ Q :=
 SO hB pn hf hc hbind hkind hnd hk hco hgen hd h
theorem Lh {f:Addr} {D:Stmt} {qual:Str} {dflt mod:Value} {code:Addr} {d:Nat} {as dv:List MV} (pn:List Str)
  (hbind:∀ (s:Shared) (vs:List Value),(∀ a o,b.get? a=some o→s.heap.get? a=some o)→VRs b s.heap as vs→∃ us,VRs b s.heap dv us∧BindsTo s (Ew D qual dflt mod code) ⟨vs,[]⟩ (pn.zip (vs++us)))
  (hd:1≤d) (h:NS w b (fnC D d) (execs (Dw D)) (pn.zip (as++dv)) σ (kFn Q)) (hf:(KF w.params).lookup f=some (Ag D qual dflt mod code):=by rfl) (hc:(code,qual)∈HJ:=by decide +kernel)
  (hkind:(pn.all fun x=>(An D).names.lookup x==some .local || (An D).names.lookup x==some .cell)=true:=by rfl) (hnd:pn.Nodup:=by decide)
  (hk:(An D).kind= .function:=by rfl) (hco:(An D).isCoroutine=false:=by rfl) (hgen:(An D).isGenerator=false:=by rfl):NC w b d (.ref f) as σ Q :=
 SP hB pn hf hc hbind hkind hnd hk hco hgen hd h
end
section
variable {b:Heap} {fd:FuncData} {pn:List Str}
theorem bd1 {a0:MV} (h:∀ v0,bindArgs fd ⟨[v0],[]⟩=pure (pn.zip ([v0]++[]))):∀ (s:Shared) (vs:List Value),(∀ a o,b.get? a=some o→s.heap.get? a=some o)→VRs b s.heap [a0] vs→∃ us,VRs b s.heap [] us∧BindsTo s fd ⟨vs,[]⟩ (pn.zip (vs++us)):=by
 rintro s vs st ⟨v0,_,rfl,_,rfl⟩
 exact AQ ([]) rfl (BindsTo.of_eq (h v0))
theorem bd2 {a0 a1:MV} (h:∀ v0 v1,bindArgs fd ⟨[v0,v1],[]⟩=pure (pn.zip ([v0,v1]++[]))):∀ (s:Shared) (vs:List Value),(∀ a o,b.get? a=some o→s.heap.get? a=some o)→VRs b s.heap [a0,a1] vs→∃ us,VRs b s.heap [] us∧BindsTo s fd ⟨vs,[]⟩ (pn.zip (vs++us)):=by
 rintro s vs st h_
 refine hide fun P_ k_=> ?_
 refine BD h_ fun v0 U e_2 U r_=> ?_
 subst e_2
 obtain ⟨v1,_,rfl,_,rfl⟩:=r_
 refine k_ ?_
 exact AQ ([]) rfl (BindsTo.of_eq (h v0 v1))
theorem bd3 {a0 a1 a2:MV} (h:∀ v0 v1 v2,bindArgs fd ⟨[v0,v1,v2],[]⟩=pure (pn.zip ([v0,v1,v2]++[]))):∀ (s:Shared) (vs:List Value),(∀ a o,b.get? a=some o→s.heap.get? a=some o)→VRs b s.heap [a0,a1,a2] vs→∃ us,VRs b s.heap [] us∧BindsTo s fd ⟨vs,[]⟩ (pn.zip (vs++us)):=by
 rintro s vs st h_
 refine hide fun P_ k_=> ?_
 obtain ⟨v0,_,rfl,_,v1,_,rfl,_,v2,_,rfl,_,rfl⟩:=h_
 refine k_ ?_
 exact ⟨[],rfl,BindsTo.of_eq (h v0 v1 v2)⟩
theorem bd4 {a0 a1 a2 a3:MV} (h:∀ v0 v1 v2 v3,bindArgs fd ⟨[v0,v1,v2,v3],[]⟩=pure (pn.zip ([v0,v1,v2,v3]++[]))):∀ (s:Shared) (vs:List Value),(∀ a o,b.get? a=some o→s.heap.get? a=some o)→VRs b s.heap [a0,a1,a2,a3] vs→∃ us,VRs b s.heap [] us∧BindsTo s fd ⟨vs,[]⟩ (pn.zip (vs++us)):=by
 rintro s vs st h_
 refine hide fun P_ k_=> ?_
 obtain ⟨v0,_,rfl,_,v1,_,rfl,_,v2,_,rfl,_,v3,_,rfl,_,rfl⟩:=h_
 refine k_ ?_
 exact ⟨[],rfl,BindsTo.of_eq (h v0 v1 v2 v3)⟩
theorem bd5 {a0 a1 a2 a3 a4:MV} (h:∀ v0 v1 v2 v3 v4,bindArgs fd ⟨[v0,v1,v2,v3,v4],[]⟩=pure (pn.zip ([v0,v1,v2,v3,v4]++[]))):∀ (s:Shared) (vs:List Value),(∀ a o,b.get? a=some o→s.heap.get? a=some o)→VRs b s.heap [a0,a1,a2,a3,a4] vs→∃ us,VRs b s.heap [] us∧BindsTo s fd ⟨vs,[]⟩ (pn.zip (vs++us)):=by
 rintro s vs st h_
 refine hide fun P_ k_=> ?_
 obtain ⟨v0,_,rfl,_,v1,_,rfl,_,v2,_,rfl,_,v3,_,rfl,_,v4,_,rfl,_,rfl⟩:=h_
 refine k_ ?_
 exact ⟨[],rfl,BindsTo.of_eq (h v0 v1 v2 v3 v4)⟩
theorem bd6 {a0 a1 a2 a3 a4 a5:MV} (h:∀ v0 v1 v2 v3 v4 v5,bindArgs fd ⟨[v0,v1,v2,v3,v4,v5],[]⟩=pure (pn.zip ([v0,v1,v2,v3,v4,v5]++[]))):∀ (s:Shared) (vs:List Value),(∀ a o,b.get? a=some o→s.heap.get? a=some o)→VRs b s.heap [a0,a1,a2,a3,a4,a5] vs→∃ us,VRs b s.heap [] us∧BindsTo s fd ⟨vs,[]⟩ (pn.zip (vs++us)):=by
 rintro s vs st h_
 refine hide fun P_ k_=> ?_
 obtain ⟨v0,_,rfl,_,v1,_,rfl,_,v2,_,rfl,_,v3,_,rfl,_,v4,_,rfl,_,v5,_,rfl,_,rfl⟩:=h_
 refine k_ ?_
 exact ⟨[],rfl,BindsTo.of_eq (h v0 v1 v2 v3 v4 v5)⟩
end
section
variable {w:World} {b:Heap} {C:Cx} {ρ:LM} {σ:MS}
theorem Qs {Q:MF→LM→MS→Prop} {x:Str} {p pos:Pos} {it:Expr} {body:List Stmt} (ok:MS→Prop) (elems:List MV) (I:Nat→LM→MS→Prop)
  (h:WE w b C (eval it) ρ σ fun mv σ1=>WI w b C.d mv σ1 ok elems∧ok σ1∧∃ ρ',Sub ρ' ρ∧I 0 ρ' σ1)
  (turn:∀ i v ρ σ,elems[i]?=some v→I i ρ σ→ok σ→WS w b C (execs body) (ρ.set x v) σ (OH ok I Q i)) (fin:∀ ρ σ,I elems.length ρ σ→ok σ→Q .next ρ σ)
  (hk:AX C x=true:=by first | rfl | decide +kernel) (hs:∀ env v,foldedSetIterable it env v=pure v:=by intro _ _; rfl):WS w b C (exec (.For (.Name x p) it body [] pos)) ρ σ Q :=
 EZ (WE.mono h fun mv σ1 g=>⟨ok,elems,I,g.1,g.2.1,g.2.2,turn,fin⟩) hk hs
theorem Ri {Q:MV→MS→Prop} {elt iter:Expr} {x:Str} {px pos:Pos} {ifs:List Expr} {sc:Scope} (ρ':LM) (ok:MS→Prop) (elems:List MV) (Inv:Nat→List MV→MS→Prop)
  (hit:WE w b C (eval iter) ρ σ fun mv σ1=>WI w b C.d mv σ1 ok elems∧ok σ1∧Inv 0 [] σ1)
  (turn:∀ i v out σ,elems[i]?=some v→Inv i out σ→ok σ→WB w b ⟨Fk sc.names,C.d⟩ (Gp ifs) (ρ'.set x v) σ (MQ w b ⟨Fk sc.names,C.d⟩ (ρ'.set x v) elt ok Inv i out))
  (fin:∀ out σ',Inv elems.length out σ'→ok σ'→∀ a,σ' a=none→Q (.ref a) (σ'.set a (.list out))) (hlen:elems.length≤100000)
  (hρ:Sub ρ' ρ) (hsc:Fe C sc=true:=by rfl) (hx:sc.names.lookup x=some .local:=by rfl) (ht:Ms sc ρ'=true:=by rfl) (hs:∀ env v,foldedSetIterable iter env v=pure v:=by intro _ _; rfl) :
  WE w b C (eval (.ListComp elt [⟨.Name x px,iter,ifs,0⟩] sc pos)) ρ σ Q :=
 CH ρ' (WE.mono hit fun mv σ1 g=>⟨ok,elems,Inv,hlen,g.1,g.2.1,g.2.2,turn,fin⟩) hρ hsc hx ht hs
theorem ctK {ρ':LM} {elt:Expr} {ok:MS→Prop} {Inv:Nat→List MV→MS→Prop} {i:Nat} {out:List MV} (h:WE w b C (eval elt) ρ' σ fun r σ3=>ok σ3∧Inv (i+1) (out++[r]) σ3):WB w b C (Gp []) ρ' σ (MQ w b C ρ' elt ok Inv i out):=ct0 (by show if true=true then _ else _; rw [if_pos rfl]; exact h)
end
section
variable {w:World} {b:Heap} {C:Cx} {ρ':LM} {σ:MS} {elt:Expr} {ok:MS→Prop} {Inv:Nat→List MV→MS→Prop} {i:Nat} {out:List MV}
theorem kcF (h:ok σ∧Inv (i+1) out σ):MQ w b C ρ' elt ok Inv i out false σ:=by
 show if false=true then _ else _
 rw [if_neg (by decide)]; exact h
end
theorem LoopEnd.of_ex {ok:MS→Prop} {I:LM→MS→Prop} {ρ2:LM} {σ2:MS} (h:ok σ2) (g:∃ ρ',Sub ρ' ρ2∧I ρ' σ2):LoopEnd ok I ρ2 σ2:=let ⟨ρ',s,i⟩:=g; ⟨h,ρ',s,i⟩
theorem TA.s {σ:MS} {t:Addr} {T:TC} (h:TA σ t T:=by repeat (first | assumption | exact MS.set_self .. | refine MS.set_old (by assumption) ?_ | refine Ext.get (by assumption) ?_)):σ t=some T.self:=h.self
theorem dl {a m d:Nat} (h:m≤d) (e:a+1≤m:=by decide):a≤d-1:=Nat.le_trans (Nat.le_sub_of_add_le e) (Nat.sub_le_sub_right h _)
theorem AW {w:World} {b:Heap} (hB:BaseOk w b) {f:Addr} {D:Stmt} {qual:Str} {dflt mod:Value} {code:Addr} (hf:(KF w.params).lookup f=some (Ag D qual dflt mod code)):Dv w b (.ref f):=Hr (hB.top.K _ _ hf)
section
variable {w:World} {b:Heap} (hB:BaseOk w b) {d:Nat} {σ:MS} {Q:MV→MS→Prop}
include hB
theorem Cr {size wo i:Nat} (h:i < size) (q:Q (.int (AI size wo i)) σ) (hd:1≤d):WC w b d (.ref 332) [.int wo,.int i,.int size] σ Q:=by
 refine AR hB (dv:=[]) (D:=AO 34) [S "worth",S "place",S "size"] ?_ hd ?_
 ·exact bd3 fun U U U=>by rfl
 refine scR ?_
 refine eBi ?_
 refine eBi ?_
 refine eV ?_
 refine eBi ?_
 refine eBi ?_
 refine eV ?_
 refine Ae ?_
 refine CZ ?_
 refine eV ?_
 refine CZ ?_
 have e:((size:Int)-1-(i:Int))=((size-1-i:Nat):Int):=cs1 h
 rw [e]
 refine Po ?_ (Int.natCast_nonneg _)
 refine Ae ?_
 refine Rv ?_
 have e2:(2:Int)^((size-1-i:Nat):Int).toNat=((2^(size-1-i):Nat):Int):=by simp
 rw [e2,AY]
 have:=D4 (wo/2^(size-1-i)) 1
 rw [OC] at this
 show Q (.int (Builtin.bitAnd ((wo/2^(size-1-i):Nat):Int) ((1:Nat):Int))) σ
 rw [this]
 exact q
theorem Mf {size wo l:Nat} (h:l≤size) (hs:size≤16) (hw:wo < 2^size) (q:Q (.int (cut size wo l)) σ) (hd:1≤d):WC w b d (.ref 325) [.int wo,.int l,.int size] σ Q:=by
 refine AR hB (dv:=[]) (D:=AO 33) [S "worth",S "length",S "size"] ?_ hd ?_
 ·exact bd3 fun U U U=>by rfl
 have e:((size:Int)-(l:Int))=((size-l:Nat):Int):=Eq.symm (Int.natCast_sub h)
 have e2:(2:Int)^((size-l:Nat):Int).toNat=((2^(size-l):Nat):Int):=by simp
 have hb:wo/2^(size-l) < 2^64:=by
  have h1:wo/2^(size-l)≤wo:=Nat.div_le_self _ _
  have h2:2^size≤65536:=Nat.pow_le_pow_right (by decide) hs
  exact Nat.lt_of_le_of_lt h1 (Nat.lt_of_lt_of_le (Nat.lt_of_lt_of_le hw h2) (by decide))
 refine scR ?_
 refine eBi ?_
 refine eBi ?_
 refine eV ?_
 refine eBi ?_
 refine eV ?_
 refine eV ?_
 refine CZ ?_
 rw [e]
 refine Po ?_ (Int.natCast_nonneg _)
 rw [e2,AY]
 refine eBi ?_
 refine eV ?_
 refine eV ?_
 refine CZ ?_
 rw [e]
 refine SM ?_ (Int.natCast_nonneg _) (il (Nat.le_trans (Nat.sub_le _ _) hs)) hb
 rw [e2,←Int.natCast_mul]
 exact q
theorem La {n:Nat} (q:Q (.int (DL n)) σ) (hd:1≤d):WC w b d (.ref 68) [.int n] σ Q:=by
 refine AR hB (dv:=[]) (D:=AO 4) [S "worth"] ?_ hd ?_
 ·exact bd1 fun U=>by rfl
 refine scA ?_
 refine Ae ?_
 refine sCo ?_
 refine I1 (fun m ρ σ'=>∃ x c:Nat,x=m∧c+DL x=DL n∧ρ=[(S "worth",.int x),(S "count",.int c)]∧σ'=σ) n ⟨[(S "worth",.int n),(S "count",.int 0)],?_,n,0,rfl,Nat.add_eq_right.mpr (by decide),rfl,rfl⟩ ?_
 ·intro p hp
  simp only [List.mem_cons,List.not_mem_nil,or_false] at hp
  rcases hp with rfl | rfl <;> rfl
 ·rintro m ρ σ' ⟨x,c,rfl,hc,rfl,rfl⟩
  refine tCm ?_
  refine eV ?_
  refine Ae ?_
  refine cGt ?_
  refine Ge (fun h=> ?_) (fun h=> ?_)
  ·refine scA ?_
   refine WE.mono (Q:=fun mv s=>∃ k:Nat,1≤k∧k≤8∧2^(k-1)≤x∧mv= .int k∧s=σ') ?_ ?_
   ·refine eIf ?_
    refine tCm ?_
    refine eV ?_
    refine Ae ?_
    refine cGt ?_
    refine Ge (fun h=> ?_) (fun h=> ?_)
    ·refine Ae ?_
     exact ⟨8,by decide,by decide,by show 128≤x; exact Nat.le_of_lt (Nat.lt_of_le_of_lt (Nat.le_add_left _ _) (Int.ofNat_lt.mp h)),rfl,rfl⟩
    ·refine Ae ?_
     exact ⟨1,by decide,by decide,by show 1≤x; exact Nat.succ_le_of_lt (Int.ofNat_lt.mp ‹_›),rfl,rfl⟩
   ·rintro mv s ⟨k,h1,h2,h3,rfl,rfl⟩
    have hx:0 < x:=Nat.lt_of_lt_of_le (Nat.two_pow_pos _) h3
    have hb:=NO h1 h3
    have e2:(2:Int)^((k:Nat):Int).toNat=((2^k:Nat):Int):=by simp
    refine scA ?_
    refine eBi ?_
    refine eV ?_
    refine eV ?_
    refine Po ?_ (Int.natCast_nonneg _)
    rw [e2,AY]
    refine scA ?_
    refine eBi ?_
    refine eV ?_
    refine eV ?_
    refine CQ ?_
    refine Ai ?_
    refine ⟨x/2^k,[(S "worth",.int ((x/2^k:Nat):Int)),(S "count",.int ((c+k:Nat):Int))],Nat.div_lt_self hx (Nat.one_lt_two_pow (Nat.one_le_iff_ne_zero.mp h1)),?_,x/2^k,c+k,rfl,by lia,rfl,rfl⟩
    intro p hp
    simp only [List.mem_cons,List.not_mem_nil,or_false] at hp
    rcases hp with rfl | rfl <;> rfl
  ·refine scR ?_
   refine eV ?_
   have:x=0:=Int.ofNat_inj.mp (Int.le_antisymm (Int.not_lt.mp h) (Int.natCast_nonneg _))
   subst this
   have:c=DL n:=by simpa [DL] using hc
   rw [this] at *
   exact q
end
theorem Sub.nil {ρ:LM}:Sub [] ρ:=fun U h=>nomatch h
theorem Sub.cons {ρ r:LM} {x:Str} {v:MV} (h:ρ.lookup x=some v) (k:Sub r ρ):Sub ((x,v)::r) ρ:=fun p hp=>by
 rcases List.mem_cons.mp hp with z | z
 ·subst z; exact h
 ·exact k p z
theorem Bc {β:Type} {f:Nat→β} {k i:Nat} {v:β} (h:((List.range k).map f)[i]?=some v):i < k∧v=f i:=by
 rw [List.getElem?_map] at h
 refine Af (Option.map_eq_some_iff.mp h) fun x hx e_2=> ?_
 subst e_2
 obtain ⟨hi,rfl⟩:=List.getElem?_eq_some_iff.mp hx
 exact ⟨by simpa using hi,by simp⟩
theorem Hg {β:Type} (f:Nat→β) (i:Nat):(List.range (i+1)).map f=(List.range i).map f++[f i]:=by rw [List.range_succ,List.map_append]; rfl
theorem Nb (x:Nat):x&&&255=x%256:=Nat.and_two_pow_sub_one_eq_mod x 8
theorem MB (i:Nat):2^(8*i)=256^i:=by rw [Nat.pow_mul]
noncomputable def CD (l k:Nat):List Nat:=(List.range k).map fun i=>l/256^i%256
noncomputable def Ch (size w:Nat):List Nat:=(List.range (size/8)).map fun i=>w/2^(size-8-8*i)%256
noncomputable def u8n (l:List Nat):List UInt8:=l.map fun n=>n.toUInt8
noncomputable def Bg (l:List Nat):Array UInt8:=(u8n l).toArray
theorem IV (l:List Nat):u8s (l.map fun n:Nat=>(n:Int))=u8n l:=by delta u8s u8n; rw [List.map_map]; exact List.map_congr_left fun U U=>rfl
noncomputable def BY (size l w:Nat):Array UInt8:=Bg (CD l 4++Ch size w)
noncomputable def Eo (l:List Nat):List Int:=l.map fun n:Nat=>(n:Int)
theorem MI (l:List Nat):(Eo l).map MV.int=l.map fun n:Nat=>MV.int n:=by unfold Eo; rw [List.map_map]; rfl
section
variable {w:World} {b:Heap} (hB:BaseOk w b) {d:Nat} {σ:MS} {Q:MV→MS→Prop}
include hB
theorem K9 {n k:Nat} (hk:k≤1000) (q:∀ σ',Ext σ σ'→Q (.bytes (Bg (CD n k))) σ') (hd:1≤d):WC w b d (.ref 73) [.int n,.int k] σ Q:=by
 refine AR hB (dv:=[]) (D:=AO 5) [S "worth",S "width"] ?_ hd ?_
 ·exact bd2 fun U U=>by rfl
 refine scR ?_
 refine cTy hB ?_
 refine lCo ?_
 refine Ri [(S "worth",.int n)] (fun U=>True) ((List.range k).map fun i:Nat=>MV.int i) (fun i out σ'=>out=(List.range i).map (fun i=>MV.int ((n/256^i%256:Nat):Int))∧Ext σ σ') ?_ ?_ ?_ (by simp; exact Nat.le_of_lt (Nat.lt_of_le_of_lt hk (by decide))) (Sub.cons (by rfl) (Sub.nil))
 ·refine cTy hB ?_
  refine Aq ?_
  exact CE fun c hc=>⟨Fb (MS.set_self ..) (Nat.le_of_lt (Nat.lt_of_le_of_lt hk (by decide))),trivial,rfl,Ext.new hc⟩
 ·rintro i v out σ' hv ⟨rfl,hE⟩ _
  obtain ⟨hi,rfl⟩:=Bc hv
  refine ctK ?_
  refine eBi ?_
  refine eBi ?_
  refine eV ?_
  refine eBi ?_
  refine Ae ?_
  refine eV ?_
  refine D5 ?_ (.of_left (by decide))
  refine Po ?_ z8
  refine Ae ?_
  refine Rv ⟨trivial,?_,hE⟩
  have e2:(2:Int)^((8:Int)*(i:Nat)).toNat=((2^(8*i):Nat):Int):=by
   rw [show ((8:Int)*(i:Nat)).toNat=8*i by lia]; simp
  rw [e2,AY,MB]
  have:=D4 (n/256^i) 255
  rw [Nb] at this
  rw [Hg,←this]
  rfl
 ·rintro out σ' ⟨rfl,hE⟩ _ a ha
  refine Ad ?_
  have e:(List.range ((List.range k).map fun i:Nat=>MV.int i).length).map (fun i=>MV.int ((n/256^i%256:Nat):Int))=(Eo (CD n k)).map MV.int:=by
   rw [MI,CD,List.map_map,List.length_map,List.length_range]; rfl
  rw [e]
  refine GU (MS.set_self ..) ?_ (by simp [Eo,CD]; exact Nat.le_of_lt (Nat.lt_of_le_of_lt hk (by decide))) ?_
  ·intro x hx
   refine Af (List.mem_map.mp hx) fun y hy e_2=> ?_
   subst e_2
   refine Af (List.mem_map.mp hy) fun i U e_2=> ?_
   subst e_2
   have:=Nat.mod_lt (n/256^i) (show 256 > 0 by decide)
   exact And.intro (Int.natCast_nonneg _) (Int.ofNat_lt.mpr this)
  ·unfold Eo
   rw [IV]
   exact q _ (hE.step ha)
end
noncomputable def flN:List Nat→Nat
 | []=>0
 | x::r=>x+256*flN r
theorem KB:∀ (l:List Nat) (i x:Nat),l[i]?=some x→flN (l.take (i+1))=flN (l.take i)+x*256^i
 | [],i=>by
  intro x h
  simp at h
 | y::l,0=>by
  intro x h
  simp at h; subst h; simp [flN]
 | y::l,i+1=>by
  intro x h
  have:=KB l i x (by simpa using h)
  simp only [List.take_succ_cons,flN,this,Nat.pow_succ]
  rw [Nat.mul_add,←Nat.mul_assoc,←Nat.mul_assoc,Nat.add_assoc,Nat.mul_comm 256 x,Nat.mul_right_comm]
noncomputable def beN (l:List Nat):Nat:=l.foldl (fun a x=>a*256+x) 0
theorem Pn (l:List Nat) (i x:Nat) (h:l[i]?=some x):beN (l.take (i+1))=beN (l.take i)*256+x:=by
 unfold beN
 rw [List.take_add_one,h,List.foldl_append]; rfl
theorem Jw {l:Nat} (h:l < 4294967296):flN (CD l 4)=l:=by
 show l/256^0%256+256*(l/256^1%256+256*(l/256^2%256+256*(l/256^3%256+256*0)))=l
 simp only [Nat.pow_zero,Nat.div_one,Nat.pow_one,show 256^2=65536 from rfl,show 256^3=16777216 from rfl]
 rw [Nat.mul_zero,Nat.add_zero,Nat.mod_eq_of_lt (show l/16777216 < 256 from Nat.div_lt_of_lt_mul h),show l/16777216=l/65536/256 from (Nat.div_div_eq_div_mul l 65536 256).symm,Nat.mod_add_div,show l/65536=l/256/256 from (Nat.div_div_eq_div_mul l 256 256).symm,Nat.mod_add_div,Nat.mod_add_div]
noncomputable def SZ (size:Nat):Prop:=size=8∨size=16
theorem JS {size w:Nat} (hs:SZ size) (h:w < 2^size):beN (Ch size w)=w:=by
 rcases hs with rfl | rfl
 ·show 0*256+w/2^(8-8-8*0)%256=w
  have h:w < 256:=h
  rw [show w/2^(8-8-8*0)=w from Nat.div_one w,Nat.mod_eq_of_lt h]; exact Nat.zero_add w
 ·show (0*256+w/2^(16-8-8*0)%256)*256+w/2^(16-8-8*1)%256=w
  have h:w < 65536:=h
  rw [show w/2^(16-8-8*1)=w from Nat.div_one w,show 0*256+w/2^(16-8-8*0)%256=w/256 from (Nat.zero_add _).trans (Nat.mod_eq_of_lt (Nat.div_lt_of_lt_mul h))]
  exact Nat.div_add_mod' w 256
theorem PG {l:List Nat} {i x:Nat} (h:l[i]?=some x) (hx:x < 256):∃ c:UInt8,(Bg l).toList[i]?=some c∧c.toNat=x:=by
 refine ⟨x.toUInt8,by simp [Bg,u8n,h],?_⟩
 simp [Nat.mod_eq_of_lt hx]
theorem BO (l:List Nat):(Bg l).size=l.length:=by simp [Bg,u8n]
theorem B2 (l k:Nat):(CD l k).length=k:=by simp [CD]
theorem CO (size w:Nat):(Ch size w).length=size/8:=by simp [Ch]
theorem GS {l k x:Nat} (h:x∈CD l k):x < 256:=by
 refine Af (List.mem_map.mp h) fun i U e_2=> ?_
 subst e_2
 exact Nat.mod_lt _ (by decide)
theorem FJ {size w x:Nat} (h:x∈Ch size w):x < 256:=by
 refine Af (List.mem_map.mp h) fun i U e_2=> ?_
 subst e_2
 exact Nat.mod_lt _ (by decide)
theorem EO (size l w:Nat):((BY size l w).toList.drop 4).toArray=Bg (Ch size w):=by
 delta BY Bg u8n
 rw [List.map_append,List.drop_append]
 simp [B2]
theorem Gc (size l w:Nat):((BY size l w).toList.take 4).toArray=Bg (CD l 4):=by
 delta BY Bg u8n
 rw [List.map_append,List.take_append]
 have:((CD l 4).map fun n=>UInt8.ofNat n).take 4=(CD l 4).map fun n=>UInt8.ofNat n:=List.take_of_length_le (by simp [B2])
 simp [B2,this]
theorem DE (size l w:Nat):(BY size l w).size=4+size/8:=by
 unfold BY; rw [BO,List.length_append,B2,CO]
theorem G6 {l:List Nat} (h:∀ x∈l,x < 256):(Bg l).toList.map (fun c=>MV.int c.toNat)=l.map fun x:Nat=>MV.int x:=by
 delta Bg u8n
 rw [List.map_map]
 refine List.map_congr_left fun x hx=> ?_
 simp [Nat.mod_eq_of_lt (h x hx)]
theorem SZ.le {size:Nat} (h:SZ size):size≤16:=by rcases h with rfl | rfl <;> exact by decide
section
variable {w:World} {b:Heap} (hB:BaseOk w b) {d:Nat} {σ:MS} {Q:MV→MS→Prop}
include hB
theorem Ij {l:List Nat} (hn:l.length≤1000) (hl:∀ x∈l,x < 256) (q:∀ σ',Ext σ σ'→Q (.int (flN l)) σ') (hd:1≤d):WC w b d (.ref 80) [.bytes (Bg l)] σ Q:=by
 refine AR hB (dv:=[]) (D:=AO 6) [S "octets"] ?_ hd ?_
 ·exact bd1 fun U=>by rfl
 refine scA ?_
 refine Ae ?_
 refine sCo ?_
 refine Qs (fun U=>True) ((List.range l.length).map fun i:Nat=>MV.int i) (fun i ρ σ'=>ρ=[(S "octets",.bytes (Bg l)),(S "worth",.int (flN (l.take i)))]∧Ext σ σ') ?_ ?_ ?_
 ·refine cTy hB ?_
  refine lCo ?_
  refine cBu hB ?_
  refine Aq ?_
  refine OZ (by rw [BO]; exact Nat.le_of_lt (Nat.lt_of_le_of_lt hn (by decide))) ?_
  rw [BO]
  refine Ad ?_
  exact CE fun c hc=>⟨Fb (MS.set_self ..) (Nat.le_of_lt (Nat.lt_of_le_of_lt hn (by decide))),trivial,_,(Sub.cons (by rfl) (Sub.cons (by rfl) (Sub.nil))),rfl,Ext.new hc⟩
 ·rintro i v ρ σ' hv ⟨rfl,hE⟩ _
  obtain ⟨hi,rfl⟩:=Bc hv
  have hx:l[i]?=some l[i]:=by simp [hi]
  have h256:=hl _ (List.getElem_mem hi)
  refine Af (PG hx h256) fun c hc hcn=> ?_
  refine scA ?_
  refine eBi ?_
  refine eV ?_
  refine eBi ?_
  refine eSu ?_
  refine eV ?_
  refine eV ?_
  refine QH (by rw [BO]; exact Nat.le_of_lt (Nat.lt_of_le_of_lt hn (by decide))) hc ?_
  refine eBi ?_
  refine Ae ?_
  refine eV ?_
  refine D5 ?_ (.of_left (by decide))
  refine SM ?_ z8 (by lia) (by rw [hcn]; exact iab (Nat.le_trans (Nat.le_of_eq (Eq.symm hcn)) (Nat.le_trans (Nat.le_of_eq hcn) (Nat.le_of_lt h256))))
  refine CQ ?_
  refine Ai ?_
  refine ⟨trivial,_,Sub.cons ?_ (Sub.cons ?_ Sub.nil),rfl,hE⟩
  ·rfl
  ·show some _=some _
   have e2:(2:Int)^((8:Int)*(i:Nat)).toNat=((256^i:Nat):Int):=by
    rw [show ((8:Int)*(i:Nat)).toNat=8*i by lia,←MB]; simp
   rw [KB l i _ hx,e2,hcn]; simp
 ·rintro ρ σ' ⟨rfl,hE⟩ _
  refine scR ?_
  refine eV ?_
  rw [List.length_map,List.length_range,List.take_length]
  exact q _ hE
theorem CP {size l wo:Nat} (hs:SZ size) (hl:l < 4294967296) (hw:wo < 2^size) (q:∀ σ',Ext σ σ'→Q (.tup [.int l,.int wo]) σ') (hd:2≤d):WC w b d (.ref 318) [.bytes (BY size l wo)] σ Q:=by
 have hd:1≤d:=Nat.le_trans (by decide) hd
 have h8:size/8≤2:=by rcases hs with rfl | rfl <;> decide
 refine AR hB (dv:=[]) (D:=AO 32) [S "key"] ?_ hd ?_
 ·exact bd1 fun U=>by rfl
 refine scA ?_
 refine Ae ?_
 refine sCo ?_
 refine Qs (fun U=>True) ((Ch size wo).map fun i:Nat=>MV.int i) (fun i ρ σ'=>ρ=[(S "key",.bytes (BY size l wo)),(S "worth",.int (beN ((Ch size wo).take i)))]∧Ext σ σ') ?_ ?_ ?_
 ·refine Gk FB.slot_bytes_getitem.lookup ?_
  refine eV ?_
  refine IA ?_
  refine eG hB ?_
  refine IB ?_
  refine Mu (a:=4) (by rw [DE]; exact Nat.le_trans (Nat.add_le_add_left h8 _) (by decide)) ?_
  rw [EO]
  refine Cv ?_ trivial ⟨_,(Sub.cons (by rfl) (Sub.cons (by rfl) (Sub.nil))),rfl,Ext.rfl⟩
  have:=Q7 (w:=w) (b:=b) (σ:=σ) (d:=d-1) (x:=Bg (Ch size wo))
  rw [G6 fun x hx=>FJ hx] at this
  exact this
 ·rintro i v ρ σ' hv h_ _
  refine hide fun P_ k_=> ?_
  obtain ⟨rfl,hE⟩:=h_
  refine k_ ?_
  rw [List.getElem?_map] at hv
  refine hide fun P_ k_=> ?_
  refine Af (Option.map_eq_some_iff.mp hv) fun x hx e_2=> ?_
  subst e_2
  refine k_ ?_
  refine scA ?_
  refine eBi ?_
  refine eBi ?_
  refine eV ?_
  refine Ae ?_
  refine D5 ?_ (.of_right (by decide))
  refine eV ?_
  refine CQ ?_
  refine Ai ?_
  refine ⟨trivial,_,Sub.cons ?_ (Sub.cons ?_ Sub.nil),rfl,hE⟩
  ·rfl
  ·show some _=some _
   rw [Pn _ i x hx]; simp
 ·rintro ρ σ' h_ _
  refine hide fun P_ k_=> ?_
  obtain ⟨rfl,hE⟩:=h_
  refine k_ ?_
  rw [List.length_map,List.take_length,JS hs hw]
  refine scR ?_
  refine eTu ?_
  refine lCo ?_
  refine cG hB ?_
  refine lCo ?_
  refine Gk FB.slot_bytes_getitem.lookup ?_
  refine eV ?_
  refine IB ?_
  refine IA ?_
  refine eG hB ?_
  refine RB (a:=4) (by rw [DE]; exact Nat.le_trans (Nat.add_le_add_left h8 _) (by decide)) ?_
  rw [Gc]
  refine Ad ?_
  refine Ij hB (by rw [B2]; exact by decide) (fun x hx=>GS hx) (fun σ2 h2=> ?_) (dl (m:=2) (by assumption))
  rw [Jw hl]
  refine Aq ?_
  exact ⟨by rfl,q _ (hE.trans h2)⟩
theorem GL {one other most size:Nat} (h1:one < 2^size) (h2:other < 2^size) (q:∀ σ',Ext σ σ'→Q (.int (Av one other most size)) σ') (hd:2≤d):WC w b d (.ref 339) [.int one,.int other,.int most,.int size] σ Q:=by
 have hd:1≤d:=Nat.le_trans (by decide) hd
 refine AR hB (dv:=[]) (D:=AO 35) [S "one",S "other",S "most",S "size"] ?_ hd ?_
 ·exact bd4 fun U U U U=>by rfl
 refine scR ?_
 refine cBu hB ?_
 refine lV ?_
 refine lCo ?_
 refine eBi ?_
 refine eV ?_
 refine cG hB ?_
 refine lCo ?_
 refine eBi ?_
 refine eV ?_
 refine eV ?_
 refine TF ?_
 rw [Mj]
 refine Ad ?_
 refine La hB ?_ (dl (m:=2) (by assumption))
 have hb:DL (one^^^other)≤size:=ET.mpr (Nat.xor_lt_two_pow h1 h2)
 refine CZ ?_
 refine Ad ?_
 refine Sp ?_
 have e:(if (size:Int)-(DL (one^^^other):Nat) < most then (size:Int)-(DL (one^^^other):Nat) else most)=((Av one other most size:Nat):Int):=by
  unfold Av
  rw [cs0 hb]
  exact R5
 rw [e]
 exact q _ Ext.rfl
theorem Md {size l wo:Nat} {a:Addr} (hs:SZ size) (hl:l < 4294967296) (e:σ a=some (.list ((Eo (Ch size wo)).map .int))) (q:∀ σ',Ext σ σ'→Q (.bytes (BY size l wo)) σ') (hd:2≤d):WC w b d (.ref 311) [.int l,.ref a] σ Q:=by
 have hd:1≤d:=Nat.le_trans (by decide) hd
 have h8:size/8≤2:=by rcases hs with rfl | rfl <;> decide
 refine AR hB (dv:=[]) (D:=AO 31) [S "length",S "data"] ?_ hd ?_
 ·exact bd2 fun U U=>by rfl
 refine scR ?_
 refine eBi ?_
 refine cG hB ?_
 refine lV ?_
 refine lCo ?_
 refine eG hB ?_
 refine Ad ?_
 refine K9 hB (k:=4) (by decide) (fun σ' hE=> ?_) (dl (m:=2) (by assumption))
 refine cTy hB ?_
 refine Aq ?_
 refine GU (hE _ _ e) ?_ (by simp [Eo,CO]; exact Nat.le_of_lt (Nat.lt_of_le_of_lt h8 (by decide))) ?_
 ·intro x hx
  refine Af (List.mem_map.mp hx) fun y hy e_2=> ?_
  subst e_2
  have:=FJ hy
  exact And.intro (Int.natCast_nonneg _) (Int.ofNat_lt.mpr this)
 ·unfold Eo
  rw [IV]
  refine QG ?_ ?_
  ·rw [BO,B2]
   simp [u8n,CO]; exact Nat.le_trans (Nat.add_le_add_left h8 _) (by decide)
  ·have:Bg (CD l 4)++(u8n (Ch size wo)).toArray=BY size l wo:=by
    delta BY Bg u8n
    rw [List.map_append]; simp
   rw [this]
   exact q _ hE
end
inductive Tr where
 | nil
 | node (id:Int) (n:PN) (a c:Tr)
noncomputable def Rep (ns:List (Int×PN)):Int→Tr→Prop
 | h,.nil=>h= -1
 | h,.node id n a c=>h=id∧id≠ -1∧ns.lookup id=some n∧Rep ns n.c0 a∧Rep ns n.c1 c
noncomputable def Tr.depth:Tr→Nat
 | .nil=>0
 | .node _ _ a c=>max a.depth c.depth+1
noncomputable def Ac (size l w:Nat):Tr→List (Int×PN)
 | .nil=>[]
 | .node id n a c=>if Av n.w w (min n.len l) size < n.len then [] else (id,n)::(if n.len=l then [] else if AI size w n.len=0 then Ac size l w a else Ac size l w c)
theorem Dt (size w i:Nat):AI size w i=0∨AI size w i=1:=Nat.mod_two_eq_zero_or_one _
theorem Rep.ge {ns:List (Int×PN)} {h:Int} {t:Tr} (r:Rep ns h t):h= -1↔t= .nil:=by
 cases t with
 | nil=>exact ⟨fun U=>rfl,fun U=>r⟩
 | node id n a c=>exact ⟨fun e=>absurd (r.1.symm.trans e) r.2.1,fun e=>nomatch e⟩
theorem Ay {T:TC} {i:Int} {n:PN} (e:T.pure.nodes.lookup i=some n):∃ p,T.nodes.lookup i=some p∧p.2=n:=by
 have e:(T.nodes.map fun p=>(p.1,p.2.2)).lookup i=some n:=e
 rw [Bx (fun q:NA×PN=>q.2) i T.nodes] at e
 refine Af (Option.map_eq_some_iff.mp e) fun p hp e_2=> ?_
 subst e_2
 exact AQ p hp rfl
theorem Bz {T:TC} {i:Int} {p:NA×PN} (e:T.nodes.lookup i=some p):T.pure.nodes.lookup i=some p.2:=by
 show (T.nodes.map fun p=>(p.1,p.2.2)).lookup i=some p.2
 rw [Bx (fun q:NA×PN=>q.2) i T.nodes,e]; rfl
theorem Ao {T:TC} {i:Int} {p:NA×PN} (e:T.nodes.lookup i=some p):(Cg T.nodes).lookup i=some (.ref p.1.a):=by
 unfold Cg
 rw [Bx (fun q:NA×PN=>MV.ref q.1.a) i T.nodes,e]; rfl
structure Wid (T:TC) (size:Nat):Prop where
 sz:SZ size
 kw:T.kw=((4+size/8:Nat):Int)
theorem Wid.size {T:TC} {size:Nat} (h:Wid T size):(8:Int)*(T.kw-4)=size:=by
 rw [h.kw]
 rcases h.sz with rfl | rfl <;> rfl
section
variable {w:World} {b:Heap} (hB:BaseOk w b) {d:Nat} {σ:MS} {Q:MV→MS→Prop}
include hB
theorem B9 {a:Addr} {p:NA×PN} (e:σ a=some (CM p)) (q:Q (.bool (p.2.slot != -1)) σ) (hd:1≤d):WC w b d (.ref 360) [.ref a] σ Q:=by
 refine AR hB (dv:=[]) (D:=As 36 1) [S "self"] ?_ hd ?_
 ·exact bd1 fun U=>by rfl
 refine scR ?_
 refine eCm ?_
 refine aV hB e ?_
 refine eG hB ?_
 refine cNe ?_
 exact q
theorem FO {a:Addr} {p:NA×PN} (e:σ a=some (CM p)) (f:σ p.1.c=some (E2 p)) (q:Q (.int (if p.2.c0= -1 then p.2.c1 else p.2.c0)) σ) (hd:1≤d):WC w b d (.ref 367) [.ref a] σ Q:=by
 refine AR hB (dv:=[]) (D:=As 36 2) [S "self"] ?_ hd ?_
 ·exact bd1 fun U=>by rfl
 refine scR ?_
 refine eIf ?_
 refine tCm ?_
 refine eSu ?_
 refine aV hB e ?_
 refine Ae ?_
 refine Bm f (by decide) (by decide) (by rfl) ?_
 refine eG hB ?_
 refine cNe ?_
 refine MU (fun h=> ?_) (fun h=> ?_)
 ·refine eSu ?_
  refine aV hB e ?_
  refine Ae ?_
  refine Bm f (by decide) (by decide) (by rfl) ?_
  rw [if_neg (by exact h)] at q
  exact q
 ·refine eSu ?_
  refine aV hB e ?_
  refine Ae ?_
  refine Bm f (by decide) (by decide) (by rfl) ?_
  rw [if_pos (by exact h)] at q
  exact q
theorem E6 {a:Addr} {p:NA×PN} (e:σ a=some (CM p)) (f:σ p.1.c=some (E2 p)) (q:Q (.int ((if p.2.c0= -1 then 0 else 1)+(if p.2.c1= -1 then 0 else 1))) σ) (hd:1≤d):WC w b d (.ref 374) [.ref a] σ Q:=by
 have key:∀ x:Int,(if (x != -1)=true then (1:Int) else 0)=if x= -1 then 0 else 1:=fun x=>by
  by_cases h:x= -1
  ·subst h; rfl
  ·rw [if_neg h,if_pos (by simpa using h)]
 refine AR hB (dv:=[]) (D:=As 36 3) [S "self"] ?_ hd ?_
 ·exact bd1 fun U=>by rfl
 refine scR ?_
 refine eBi ?_
 refine cTy hB ?_
 refine lCo ?_
 refine eCm ?_
 refine eSu ?_
 refine aV hB e ?_
 refine Ae ?_
 refine Bm f (by decide) (by decide) (by rfl) ?_
 refine eG hB ?_
 refine cNe ?_
 refine Ad ?_
 refine O0 ?_
 refine cTy hB ?_
 refine lCo ?_
 refine eCm ?_
 refine eSu ?_
 refine aV hB e ?_
 refine Ae ?_
 refine Bm f (by decide) (by decide) (by rfl) ?_
 refine eG hB ?_
 refine cNe ?_
 refine Ad ?_
 refine O0 ?_
 refine CQ ?_
 rw [key,key]
 exact q
variable {t:Addr} {T:TC} {size:Nat}
theorem CY (h:TA σ t T) (hw:Wid T size) (q:Q (.int size) σ) (hd:1≤d):WC w b d (.ref 409) [.ref t] σ Q:=by
 refine AR hB (dv:=[]) (D:=As 37 1) [S "self"] ?_ hd ?_
 ·exact bd1 fun U=>by rfl
 refine scR ?_
 refine eBi ?_
 refine Ae ?_
 refine eBi ?_
 refine aV hB TA.s ?_
 refine eG hB ?_
 refine CZ ?_
 refine D5 ?_ (.of_left (by decide))
 rw [hw.size]
 exact q
theorem M7 (h:TA σ t T) (hl:T.used.length≤1000) (q:Q (.int T.used.length) σ) (hd:1≤d):WC w b d (.ref 416) [.ref t] σ Q:=by
 refine AR hB (dv:=[]) (D:=As 37 2) [S "self"] ?_ hd ?_
 ·exact bd1 fun U=>by rfl
 refine scR ?_
 refine cBu hB ?_
 refine lCo ?_
 refine aV hB TA.s ?_
 refine Ad ?_
 refine E4 h.ua (by rw [List.length_map]; exact Nat.le_of_lt (Nat.lt_of_le_of_lt hl (by decide))) ?_
 rw [List.length_map]
 exact q
theorem K2 (h:TA σ t T) (hw:Wid T size) {a:Addr} {p:NA×PN} (e:σ a=some (CM p)) {l wo:Nat} (h1:p.2.w < 2^size) (h2:wo < 2^size) (q:∀ σ',Ext σ σ'→Q (.int (Av p.2.w wo (min p.2.len l) size)) σ') (hd:3≤d) :
  WC w b d (.ref 423) [.ref t,.ref a,.int l,.int wo] σ Q:=by
 have hd:1≤d:=Nat.le_trans (by decide) hd
 refine AR hB (dv:=[]) (D:=As 37 3) [S "self",S "node",S "length",S "worth"] ?_ hd ?_
 ·exact bd4 fun U U U U=>by rfl
 refine scR ?_
 refine cG hB ?_
 refine lCo ?_
 refine aV hB e ?_
 refine lV ?_
 refine lCo ?_
 refine cBu hB ?_
 refine lCo ?_
 refine aV hB e ?_
 refine Aq ?_
 refine Sp ?_
 have em:(if (l:Int) < (p.2.len:Nat) then (l:Int) else (p.2.len:Nat))=((min p.2.len l:Nat):Int):=R5
 rw [em]
 refine lCo ?_
 refine cM hB (f:=409) TA.s ?_
 refine Ad ?_
 refine CY hB h hw ?_ (dl (m:=3) (by assumption))
 refine Ad ?_
 exact GL hB h1 h2 (fun σ' hE=>q σ' hE) (dl (m:=3) (by assumption))
theorem JL (hA:TA σ t T) (hw:Wid T size) {tr:Tr} (hr:Rep T.pure.nodes T.root tr) (hw1:∀ i n,T.pure.nodes.lookup i=some n→n.w < 2^size) (hdp:tr.depth≤1000) {l wo:Nat} (hl:l≤size) (h2:wo < 2^size)
  (q:∀ σ' c,Ext σ σ'→σ c=none→σ' c=some (.list ((Ac size l wo tr).map fun p=> .int p.1))→Q (.ref c) σ') (hd:4≤d):WC w b d (.ref 430) [.ref t,.int l,.int wo] σ Q:=by
 have hd:1≤d:=Nat.le_trans (by decide) hd
 refine AR hB (dv:=[]) (D:=As 37 4) [S "self",S "length",S "worth"] ?_ hd ?_
 ·exact bd3 fun U U U=>by rfl
 refine sCo ?_
 refine Da [S "found",S "here"] ?_
 refine eTu ?_
 refine lCo ?_
 refine BW ?_
 refine Ad ?_
 refine ⟨rfl,fun f0 hf0=> ?_⟩
 have hT:TA (σ.set f0 (.list [])) t T:=hA.ext (Ext.new hf0)
 refine lCo ?_
 refine aV hB TA.s ?_
 refine Ad ?_
 refine ⟨rfl,_,rfl,rfl,?_⟩
 refine sCo ?_
 refine I1 (fun m ρ σ'=>∃ (sub:Tr) (pre:List (Int×PN)) (here:Int),sub.depth=m∧pre.length+m≤tr.depth∧Ac size l wo tr=pre++Ac size l wo sub∧Rep T.pure.nodes here sub∧ρ=[(S "self",.ref t),(S "length",.int l),(S "worth",.int wo),(S "found",.ref f0),(S "here",.int here)]∧Ext σ σ'∧σ' f0=some (.list (pre.map fun p=> .int p.1))) tr.depth
  ⟨_,(Sub.cons (by rfl) (Sub.cons (by rfl) (Sub.cons (by rfl) (Sub.cons (by rfl) (Sub.cons (by rfl) (Sub.nil)))))),tr,[],T.root,rfl,by simp,rfl,hr,rfl,Ext.new hf0,MS.set_self ..⟩ ?_
 rintro m ρ σ' ⟨sub,pre,here,rfl,hlen,hp,hrep,rfl,hE,hf⟩
 have hT':=hA.ext hE
 have leave:∀ σ2,Ext σ σ2→σ2 f0=some (.list ((Ac size l wo tr).map fun p=> .int p.1))→Q (.ref f0) σ2:=fun σ2 h2 h3=>q σ2 f0 h2 hf0 h3
 refine tCm ?_
 refine eV ?_
 refine eG hB ?_
 refine cNe ?_
 refine MU (fun h=> ?_) (fun h=> ?_)
 ·cases sub with
  | nil=>exact absurd hrep h
  | node id n a c =>
   refine KN hrep fun e_0 hid hlook ra rc=> ?_
   subst e_0
   refine Af (Ay hlook) fun p hpl e_2=> ?_
   subst e_2
   have hn:=hT'.nod _ p hpl
   have hwp:=hw1 _ _ hlook
   refine scA ?_
   refine eSu ?_
   refine aV hB TA.s ?_
   refine eV ?_
   refine AK (f:=kI) AB hT'.na (Ao hpl) ?_ trivial (dl (m:=4) (by assumption))
   refine scI ?_
   refine tCm ?_
   refine cM hB (f:=423) TA.s ?_
   refine Aq ?_
   refine K2 hB hT' hw hn.1 hwp h2 (fun σ2 hE2=> ?_) (dl (m:=4) (by assumption))
   have hT2:=hT'.ext hE2
   have hn2:=hT2.nod _ p hpl
   refine aV hB hn2.1 ?_
   refine cLt ?_
   refine Ge (fun h=> ?_) (fun h=> ?_)
   ·have hlt:Av p.2.w wo (min p.2.len l) size < p.2.len:=Int.ofNat_lt.mp h
    refine sCo ?_
    refine Oc ?_
    refine scR ?_
    refine eV ?_
    refine leave σ2 (hE.trans hE2) ?_
    rw [hp]
    unfold Ac
    rw [if_pos hlt,List.append_nil]
    exact hE2 _ _ hf
   ·have hge:¬ Av p.2.w wo (min p.2.len l) size < p.2.len:=Nat.not_lt_of_le (Int.ofNat_le.mp (Int.not_lt.mp h))
    have hle:p.2.len≤l:=by
     have:Av p.2.w wo (min p.2.len l) size≤min p.2.len l:=Nat.min_le_left _ _
     exact Nat.le_trans (Nat.le_trans (Nat.le_of_not_lt hge) this) (Nat.min_le_right _ _)
    refine Ai ?_
    refine scE ?_
    refine eMe ?_
    refine eV ?_
    refine Bq _ _ (DC (id:="list.append") (hE2 _ _ hf)) (Ar _) ?_
    refine Aq ?_
    refine C3 (hE2 _ _ hf) (by rw [List.length_map]; simp only [Tr.depth] at hlen; lia) ?_
    have hE3:Ext σ (σ2.set f0 (.list ((pre.map fun p=>MV.int p.1)++[.int here]))):=(hE.trans hE2).re hf0
    have hT3:=hA.ext hE3
    have hn3:=hT3.nod _ p hpl
    have hfin:(σ2.set f0 (.list ((pre.map fun p=>MV.int p.1)++[.int here]))) f0=some (.list ((pre++[(here,p.2)]).map fun p=> .int p.1)):=by rw [MS.set_self,List.map_append]; rfl
    refine scI ?_
    refine tCm ?_
    refine aV hB hn3.1 ?_
    refine eV ?_
    refine cEq ?_
    refine Kx (fun h=> ?_) (fun h=> ?_)
    ·refine sCo ?_
     refine Oc ?_
     refine scR ?_
     refine eV ?_
     refine leave _ hE3 ?_
     have e:p.2.len=l:=Int.ofNat_inj.mp h
     rw [hp]
     unfold Ac
     rw [if_neg hge,if_pos e]
     exact hfin
    ·have ne:p.2.len≠l:=by lia
     refine Ai ?_
     refine scA ?_
     refine eSu ?_
     refine aV hB hn3.1 ?_
     refine cG hB ?_
     refine lV ?_
     refine lCo ?_
     refine aV hB hn3.1 ?_
     refine lCo ?_
     refine cM hB (f:=409) TA.s ?_
     refine Ad ?_
     refine CY hB hT3 hw ?_ (dl (m:=4) (by assumption))
     refine Ad ?_
     refine Cr hB (Nat.lt_of_lt_of_le (Nat.lt_of_le_of_ne hle ne) hl) ?_ (dl (m:=4) (by assumption))
     have hnext:Ac size l wo tr=(pre++[(here,p.2)])++(if AI size wo p.2.len=0 then Ac size l wo a else Ac size l wo c):=by
      rw [hp]
      conv=>lhs; unfold Ac
      rw [if_neg hge,if_neg ne]; simp
     have hlen':(pre++[(here,p.2)]).length+(max a.depth c.depth)≤tr.depth:=by simp only [Tr.depth] at hlen; simp; lia
     rcases Dt size wo p.2.len with z | z
     ·rw [z] at hnext ⊢
      rw [if_pos rfl] at hnext
      refine Bm hn3.2 (by decide) (by decide) (by rfl) ?_
      refine Ai ?_
      exact ⟨a.depth,_,by simp only [Tr.depth]; exact Nat.lt_succ_of_le (Nat.le_max_left _ _),(Sub.cons (by rfl) (Sub.cons (by rfl) (Sub.cons (by rfl) (Sub.cons (by rfl) (Sub.cons (by rfl) (Sub.nil)))))),a,pre++[(here,p.2)],p.2.c0,rfl,by lia,hnext,ra,rfl,hE3,hfin⟩
     ·rw [z] at hnext ⊢
      rw [if_neg (by decide)] at hnext
      refine Bm hn3.2 (by decide) (by decide) (by rfl) ?_
      refine Ai ?_
      exact ⟨c.depth,_,by simp only [Tr.depth]; exact Nat.lt_succ_of_le (Nat.le_max_right _ _),(Sub.cons (by rfl) (Sub.cons (by rfl) (Sub.cons (by rfl) (Sub.cons (by rfl) (Sub.cons (by rfl) (Sub.nil)))))),c,pre++[(here,p.2)],p.2.c1,rfl,by lia,hnext,rc,rfl,hE3,hfin⟩
 ·have:sub= .nil:=hrep.ge.mp (by exact h)
  subst this
  refine scR ?_
  refine eV ?_
  refine leave _ hE ?_
  rw [hp,hf]
  simp [Ac]
end
theorem Bd:∀ l m:List Int,Bt (l.map .int) (m.map .int)=true
 | [],[]=>rfl
 | [],_::_=>rfl
 | _::_,[]=>rfl
 | x::l,y::m=>(show (true && Bt (l.map MV.int) (m.map MV.int))=true from Bd l m)
theorem Dr:∀ l:List Int,dps (l.map .int)=0:=by
 intro w_
 induction w_ with
 | nil =>
  exact rfl
 | cons x l ih_ =>
  simp only [List.map_cons,dps,dp,ih_]; rfl
theorem HB:∀ l m:List Int,CF (l.map .int) (m.map .int)=(l==m)
 | [],[]=>rfl
 | [],_::_=>rfl
 | _::_,[]=>rfl
 | x::l,y::m=>by
  show ((x==y) && CF (l.map MV.int) (m.map MV.int))=_
  rw [HB l m]; rfl
theorem EA (l:List Int):CF (l.map .int) []=(l==[]):=HB l []
theorem JX (x:Int):∀ l:List Int,(l.map MV.int).any (fun m=>eqM m (.int x))=l.contains x
 | []=>rfl
 | y::l=>by
  rw [List.map_cons,List.any_cons,JX x l,List.contains_cons]
  show (y==x || _)=_
  rw [Bool.beq_comm]
theorem Kc (x:Int) (l:List Int):∀ m∈l.map MV.int,shp m (.int x)=true:=fun m hm=>by
 refine Af (List.mem_map.mp hm) fun y U e_2=> ?_
 subst e_2
 rfl
noncomputable def Au (size l w:Nat) (tr:Tr):Option (Int×PN):=if size < l then none else match (Ac size l w tr).getLast? with
 | some p=>if p.2.len=l then some p else none
 | none=>none
noncomputable def PZ:Option (Int×PN)→Int
 | some p=>p.1
 | none=> -1
noncomputable def BB:Option (Int×PN)→Option Int
 | some p=>if p.2.slot= -1 then none else some p.2.slot
 | none=>none
noncomputable def EV:Option Int→MV
 | some i=> .int i
 | none=> .none
noncomputable def Et (l:List (Int×PN)):Option Int:=l.foldl (fun acc p=>if p.2.slot= -1 then acc else some p.2.slot) none
noncomputable def Hn (size l w:Nat) (tr:Tr):Option Int:=if size < l then none else Et (Ac size l w tr)
structure Shp (P:TP) (tr:Tr) (size:Nat):Prop where
 rep:Rep P.nodes P.root tr
 ok:∀ i n,P.nodes.lookup i=some n→n.w < 2^size∧n.len≤size
 dep:tr.depth≤1000
theorem BR {ns:List (Int×PN)} {size l w:Nat} {tr:Tr}:∀ {h:Int} {p:Int×PN},Rep ns h tr→p∈Ac size l w tr→ns.lookup p.1=some p.2∧p.1≠ -1:=by
 induction tr with
 | nil=>intro h p _ hp; exact (List.not_mem_nil hp).elim
 | node id n a c iha ihc =>
  intro h p r hp
  refine KN r fun U hid hl ra rc=> ?_
  unfold Ac at hp
  split at hp
  ·exact (List.not_mem_nil hp).elim
  ·refine (List.mem_cons.mp hp).elim (fun z=> ?_) fun z=> ?_
   ·subst z; exact ⟨hl,hid⟩
   ·split at z
    ·exact (List.not_mem_nil z).elim
    ·split at z
     ·exact iha ra z
     ·exact ihc rc z
theorem En {size l w:Nat}:∀ tr:Tr,(Ac size l w tr).length≤tr.depth
 | .nil=>Nat.le_refl _
 | .node id n a c=>by
  unfold Ac Tr.depth
  have:=En (size:=size) (l:=l) (w:=w) a
  have:=En (size:=size) (l:=l) (w:=w) c
  (repeat' split) <;> simp only [List.length_nil,List.length_cons] <;> lia
theorem Ey {P:TP} {tr:Tr} {size l w:Nat} (h:Shp P tr size) {p:Int×PN} (e:Au size l w tr=some p):P.nodes.lookup p.1=some p.2∧p.1≠ -1∧p.2.len=l∧p∈Ac size l w tr:=by
 unfold Au at e
 split at e
 ·cases e
 ·split at e
  ·rename_i q hq
   split at e
   ·rename_i hl
    cases e
    have hm:=List.mem_of_getLast? hq
    exact ⟨(BR h.rep hm).1,(BR h.rep hm).2,hl,hm⟩
   ·cases e
  ·cases e
section
variable {w:World} {b:Heap} (hB:BaseOk w b) {d:Nat} {σ:MS} {Q:MV→MS→Prop} {t:Addr} {T:TC} {size:Nat}
include hB
theorem Ds (hA:TA σ t T) (hw:Wid T size) {l wo:Nat} (q:Q (.bytes (BY size l wo)) σ) (hd:1≤d):WC w b d (.ref 129) [.ref t,.bytes (BY size l wo)] σ Q:=by
 have h8:size/8≤2:=by rcases hw.sz with rfl | rfl <;> decide
 refine AR hB (dv:=[]) (D:=As 24 1) [S "self",S "key"] ?_ hd ?_
 ·exact bd2 fun U U=>by rfl
 refine scI ?_
 refine tCm ?_
 refine cBu hB ?_
 refine Aq ?_
 refine OZ (by rw [DE]; exact Nat.le_trans (Nat.add_le_add_left h8 _) (by decide)) ?_
 rw [DE]
 refine aV hB TA.s ?_
 refine cNe ?_
 rw [hw.kw]
 refine B7 (by simp) ?_
 refine Ai ?_
 refine scR ?_
 refine cTy hB ?_
 refine Aq ?_
 exact Jy q
theorem Ik (hA:TA σ t T) {x:Array UInt8} (hx:(x.size:Int)=T.vw) (hz:x.size≤1000) (q:Q (.bytes x) σ) (hd:1≤d):WC w b d (.ref 136) [.ref t,.bytes x] σ Q:=by
 refine AR hB (dv:=[]) (D:=As 24 2) [S "self",S "octets"] ?_ hd ?_
 ·exact bd2 fun U U=>by rfl
 refine scI ?_
 refine tCm ?_
 refine cBu hB ?_
 refine Aq ?_
 refine OZ (Nat.le_of_lt (Nat.lt_of_le_of_lt hz (by decide))) ?_
 refine aV hB TA.s ?_
 refine cNe ?_
 rw [hx]
 refine B7 (by simp) ?_
 refine Ai ?_
 refine scR ?_
 refine cTy hB ?_
 refine Aq ?_
 exact Jy q
variable {tr:Tr} {l wo:Nat}
theorem JQ (hA:TA σ t T) (hw:Wid T size) (hs:Shp T.pure tr size) (hl:l < 4294967296) (h2:wo < 2^size) (q:∀ σ',Ext σ σ'→Q (.int (PZ (Au size l wo tr))) σ') (hd:5≤d):WC w b d (.ref 445) [.ref t,.bytes (BY size l wo)] σ Q:=by
 have hd:1≤d:=Nat.le_trans (by decide) hd
 refine AR hB (dv:=[]) (D:=As 37 6) [S "self",S "key"] ?_ hd ?_
 ·exact bd2 fun U U=>by rfl
 refine sCo ?_
 refine Lu [S "length",S "worth"] ?_
 refine cG hB ?_
 refine lCo ?_
 refine cM hB (f:=129) TA.s ?_
 refine Aq ?_
 refine Ds hB hA hw ?_ (dl (m:=5) (by assumption))
 refine Ad ?_
 refine CP hB hw.sz hl h2 (fun σ1 hE1=> ?_) (dl (m:=5) (by assumption))
 refine Cu _ rfl rfl ?_
 have hA1:=hA.ext hE1
 refine scI ?_
 refine tCm ?_
 refine eV ?_
 refine cM hB (f:=409) TA.s ?_
 refine Ad ?_
 refine CY hB hA1 hw ?_ (dl (m:=5) (by assumption))
 refine cGt ?_
 refine Ge (fun h=> ?_) (fun h=> ?_)
 ·refine scR ?_
  refine eG hB ?_
  have:Au size l wo tr=none:=by unfold Au; rw [if_pos (Int.ofNat_lt.mp h)]
  rw [this] at q
  exact q σ1 hE1
 ·have hle:¬ size < l:=Nat.not_lt_of_le (Int.ofNat_le.mp (Int.not_lt.mp h))
  refine Ai ?_
  refine scA ?_
  refine cM hB (f:=430) TA.s ?_
  refine Aq ?_
  refine JL hB hA1 hw hs.rep (fun i n e=>(hs.ok i n e).1) hs.dep (Nat.le_of_not_lt hle) h2 (fun σ2 c hE2 hc hcl=> ?_) (dl (m:=5) (by assumption))
  have hA2:=hA1.ext hE2
  have el:(Ac size l wo tr).map (fun p=>MV.int p.1)=((Ac size l wo tr).map (·.1)).map .int:=by rw [List.map_map]; rfl
  have hpl:=En (size:=size) (l:=l) (w:=wo) tr
  have hdp:=hs.dep
  refine scI ?_
  refine tOr ?_
  refine B0 ?_
  refine tCm ?_
  refine eV ?_
  refine BW ?_
  refine Ad ?_
  refine ⟨rfl,fun c2 hc2=> ?_⟩
  have hE3:Ext σ (σ2.set c2 (.list [])):=(hE1.trans hE2).step hc2
  have hA3:=hA.ext hE3
  have hcl3:(σ2.set c2 (.list [])) c=some (.list (((Ac size l wo tr).map (·.1)).map .int)):=by rw [← el]; exact MS.set_old hc2 hcl
  refine Q6 hcl3 (MS.set_self ..) ?_ (by rw [Dr]; show 0+1≤8*(d-1); exact n8 ‹5≤d›) (Bd _ []) (Bd _ _)
  rw [EA]
  refine Kx (fun h=> ?_) (fun h=> ?_)
  ·
   refine scR ?_
   refine eG hB ?_
   have:Au size l wo tr=none:=by
    unfold Au
    rw [if_neg hle,List.map_eq_nil_iff.mp h]; rfl
   rw [this] at q
   exact q _ hE3
  ·have hne:Ac size l wo tr≠[]:=fun c=>h (by rw [c]; rfl)
   obtain ⟨pl,hpl'⟩:∃ pl,(Ac size l wo tr).getLast?=some pl:=by
    cases e:(Ac size l wo tr).getLast? with
    | none=>exact absurd (List.getLast?_eq_none_iff.mp e) hne
    | some pl=>exact ⟨pl,rfl⟩
   have hmem:=List.mem_of_getLast? hpl'
   obtain ⟨hlk,hid⟩:=BR hs.rep hmem
   refine Af (Ay hlk) fun p hp hpe=> ?_
   have hn:=hA3.nod _ p hp
   have hlast:(((Ac size l wo tr).map (·.1)).map MV.int)[((-1:Int)+((((Ac size l wo tr).map (·.1)).map MV.int).length:Nat)).toNat]?=some (.int pl.1):=by
    have hpos:0 < (Ac size l wo tr).length:=List.length_pos_iff.mpr hne
    rw [List.length_map,List.length_map,show ((-1:Int)+((Ac size l wo tr).length:Nat)).toNat=(Ac size l wo tr).length-1 from tn1 hpos]
    rw [List.getLast?_eq_getElem?] at hpl'
    rw [List.getElem?_map,List.getElem?_map,hpl']; rfl
   have hlen1: -(((((Ac size l wo tr).map (·.1)).map MV.int).length:Nat):Int)≤ -1:=by
    have hpos:0 < (Ac size l wo tr).length:=List.length_pos_iff.mpr hne
    rw [List.length_map,List.length_map]; exact ngk hpos
   have eN:Au size l wo tr=if pl.2.len=l then some pl else none:=by
    unfold Au
    rw [if_neg hle,hpl']
   refine B0 ?_
   refine tCm ?_
   refine Fd ?_
   refine eSu ?_
   refine aV hB TA.s ?_
   refine eSu ?_
   refine eV ?_
   refine eUn ?_
   refine Ae ?_
   refine DP ?_
   refine Ll hcl3 (by decide) hlen1 (by decide) hlast ?_
   refine AK (f:=kI) AB hA3.na (Ao hp) ?_ trivial (dl (m:=5) (by assumption))
   refine Dg hB hn.1 (by rfl) ?_
   refine eV ?_
   refine cNe ?_
   rw [hpe]
   refine MU (fun h=> ?_) (fun h=> ?_)
   ·refine scR ?_
    refine eG hB ?_
    rw [eN,if_neg (by lia)] at q
    exact q _ hE3
   ·refine Hj ?_
    refine Ai ?_
    refine scR ?_
    refine eSu ?_
    refine eV ?_
    refine eUn ?_
    refine Ae ?_
    refine DP ?_
    refine Ll hcl3 (by decide) hlen1 (by decide) hlast ?_
    rw [eN,if_pos (Int.ofNat_inj.mp h)] at q
    exact q _ hE3
theorem JK (hA:TA σ t T) (hw:Wid T size) (hs:Shp T.pure tr size) (hl:l < 4294967296) (h2:wo < 2^size) (q:∀ σ',Ext σ σ'→Q (EV (BB (Au size l wo tr))) σ') (hd:6≤d):WC w b d (.ref 452) [.ref t,.bytes (BY size l wo)] σ Q:=by
 have hd:1≤d:=Nat.le_trans (by decide) hd
 refine AR hB (dv:=[]) (D:=As 37 7) [S "self",S "key"] ?_ hd ?_
 ·exact bd2 fun U U=>by rfl
 refine scA ?_
 refine cM hB (f:=445) TA.s ?_
 refine Aq ?_
 refine JQ hB hA hw hs hl h2 (fun σ1 hE1=> ?_) (dl (m:=6) (by assumption))
 have hA1:=hA.ext hE1
 refine scI ?_
 refine tOr ?_
 refine B0 ?_
 refine tCm ?_
 refine eV ?_
 refine eG hB ?_
 refine cEq ?_
 cases e:Au size l wo tr with
 | none =>
  rw [e] at q
  refine Ec (by decide) ?_
  refine sCo ?_
  refine Mw ?_
  exact q _ hE1
 | some p0 =>
  rw [e] at q
  refine Gj (Ey hs e) fun hlk hid hlen U=> ?_
  refine Af (Ay hlk) fun p hp hpe=> ?_
  have hn:=hA1.nod _ p hp
  refine B7 (by simpa [PZ] using hid) ?_
  refine B0 ?_
  refine H6 ?_
  refine GH ?_
  refine eMe ?_
  refine eSu ?_
  refine aV hB TA.s ?_
  refine eV ?_
  refine AK (f:=kI) AB hA1.na (Ao hp) ?_ trivial (dl (m:=6) (by assumption))
  refine Bq _ _ (mFn hB (f:=360) hn.1) (AW hB (by rfl)) ?_
  refine Ad ?_
  refine B9 hB hn.1 ?_ (dl (m:=6) (by assumption))
  refine AQ _ rfl ?_
  rw [hpe]
  by_cases hz:p0.2.slot= -1
  ·refine Ec (by simp [hz]) ?_
   refine sCo ?_
   refine Mw ?_
   have:BB (some p0)=none:=if_pos hz
   rw [this] at q
   exact q _ hE1
  ·refine B7 (by simpa using hz) ?_
   refine Hj ?_
   refine Ai ?_
   refine scR ?_
   refine Fd ?_
   refine eSu ?_
   refine aV hB TA.s ?_
   refine eV ?_
   refine AK (f:=kI) AB hA1.na (Ao hp) ?_ trivial (dl (m:=6) (by assumption))
   refine Dg hB hn.1 (by rfl) ?_
   have:BB (some p0)=some p.2.slot:=by rw [hpe]; exact if_neg hz
   rw [this] at q
   exact q _ hE1
end
theorem LL (l:List (Int×PN)) (i:Nat) (p:Int×PN) (h:l[i]?=some p):Et (l.take (i+1))=if p.2.slot= -1 then Et (l.take i) else some p.2.slot:=by
 unfold Et
 rw [List.take_add_one,h,List.foldl_append]; rfl
theorem E1 {l m:List Int}:l.Nodup→(∀ x∈l,x∈m)→l.length≤m.length:=by
 intro h k
 induction l generalizing m with
 | nil=>exact Nat.zero_le _
 | cons x l ih =>
  rw [List.nodup_cons] at h
  have hx:=k x (.head _)
  have:=ih (m:=m.erase x) h.2 fun y hy=>(List.mem_erase_of_ne fun e=>h.1 (by rw [← e]; exact hy)).mpr (k y (.tail _ hy))
  rw [List.length_erase_of_mem hx] at this
  have:0 < m.length:=List.length_pos_of_mem hx
  simp only [List.length_cons]; exact Nat.succ_le_of_lt (Iff.mp (Nat.le_sub_one_iff_lt this) ‹_›)
theorem Fv (l:List Int):∃ n:Nat,n≤l.length∧(n:Int)∉l∧∀ m:Nat,m < n→(m:Int)∈l:=by
 have h:∃ n:Nat,n≤l.length∧(n:Int)∉l:=by
  refine Classical.byContradiction fun c=> ?_
  have c:∀ n:Nat,n≤l.length→(n:Int)∈l:=fun n hn=>Classical.byContradiction fun k=>c ⟨n,hn,k⟩
  have:=E1 (l:=(List.range (l.length+1)).map fun n:Nat=>(n:Int)) (m:=l)
   (Cm (fun a U b U e=>Int.ofNat_inj.mp e) List.nodup_range) (fun x hx=>by
    refine Af (List.mem_map.mp hx) fun n hn e_2=> ?_
    subst e_2
    have:=List.mem_range.mp hn
    exact c n (Nat.le_of_lt_succ this))
  simp at this
  lia
 obtain ⟨n,hn⟩:=h
 induction n using Nat.strongRecOn with
 | ind n ih =>
  by_cases k:∀ m:Nat,m < n→(m:Int)∈l
  ·exact Cu n hn.1 hn.2 k
  ·have:∃ m:Nat,m < n∧(m:Int)∉l:=Classical.byContradiction fun c=>k fun m hm=>Classical.byContradiction fun z=>c ⟨m,hm,z⟩
   refine Af this fun m hm hz=> ?_
   exact ih m hm ⟨Nat.le_of_lt (Nat.lt_of_lt_of_le hm hn.1),hz⟩
noncomputable def Al (l:List Int):Nat:=(Fv l).choose
theorem II (l:List Int):Al l≤l.length:=(Fv l).choose_spec.1
theorem Df (l:List Int):(Al l:Int)∉l:=(Fv l).choose_spec.2.1
theorem EN (l:List Int) {m:Nat} (h:m < Al l):(m:Int)∈l:=(Fv l).choose_spec.2.2 m h
section
variable {w:World} {b:Heap} (hB:BaseOk w b) {d:Nat} {σ:MS} {Q:MV→MS→Prop} {t:Addr} {T:TC} {size:Nat} {tr:Tr} {l wo:Nat}
include hB
theorem K8 (hA:TA σ t T) (hw:Wid T size) (hs:Shp T.pure tr size) (hl:l < 4294967296) (h2:wo < 2^size) (q:∀ σ',Ext σ σ'→Q (EV (Hn size l wo tr)) σ') (hd:6≤d):WC w b d (.ref 438) [.ref t,.bytes (BY size l wo)] σ Q:=by
 have hd:1≤d:=Nat.le_trans (by decide) hd
 refine AR hB (dv:=[.int 0]) (D:=As 37 5) [S "self",S "key",S "processor"] ?_ hd ?_
 ·rintro s vs st ⟨v0,_,rfl,_,v1,_,rfl,_,rfl⟩
  exact AQ _ ⟨_,_,rfl,⟨_,rfl⟩,rfl⟩ (BindsTo.of_defaults rfl (st _ _ (hB.top.K 431 _ (by rfl))) rfl (by rfl) (by rfl))
 refine sCo ?_
 refine Lu [S "length",S "worth"] ?_
 refine cG hB ?_
 refine lCo ?_
 refine cM hB (f:=129) TA.s ?_
 refine Aq ?_
 refine Ds hB hA hw ?_ (dl (m:=6) (by assumption))
 refine Ad ?_
 refine CP hB hw.sz hl h2 (fun σ1 hE1=> ?_) (dl (m:=6) (by assumption))
 refine Cu _ rfl rfl ?_
 have hA1:=hA.ext hE1
 refine scI ?_
 refine tCm ?_
 refine eV ?_
 refine cM hB (f:=409) TA.s ?_
 refine Ad ?_
 refine CY hB hA1 hw ?_ (dl (m:=6) (by assumption))
 refine cGt ?_
 refine Ge (fun h=> ?_) (fun h=> ?_)
 ·refine scR ?_
  refine Ea ?_
  have:Hn size l wo tr=none:=by unfold Hn; rw [if_pos (Int.ofNat_lt.mp h)]
  rw [this] at q
  exact q σ1 hE1
 ·have hle:¬ size < l:=Nat.not_lt_of_le (Int.ofNat_le.mp (Int.not_lt.mp h))
  refine Ai ?_
  refine scA ?_
  refine Ea ?_
  refine sCo ?_
  refine EZ ?_
  refine cM hB (f:=430) TA.s ?_
  refine Aq ?_
  refine JL hB hA1 hw hs.rep (fun i n e=>(hs.ok i n e).1) hs.dep (Nat.le_of_not_lt hle) h2 (fun σ2 c hE2 hc hcl=> ?_) (dl (m:=6) (by assumption))
  refine ⟨_,_,fun i ρ σ'=>ρ=[(S "self",.ref t),(S "found",EV (Et ((Ac size l wo tr).take i)))]∧Ext σ2 σ',Hu hcl,hcl,⟨_,(Sub.cons (by rfl) (Sub.cons (by rfl) (Sub.nil))),rfl,Ext.rfl⟩,?_,?_⟩
  ·rintro i v ρ σ' hv ⟨rfl,hE⟩ hok
   rw [List.getElem?_map] at hv
   refine Af (Option.map_eq_some_iff.mp hv) fun p0 hp0 e_2=> ?_
   subst e_2
   obtain ⟨hlk,hid⟩:=BR hs.rep (List.mem_of_getElem? hp0)
   refine Af (Ay hlk) fun p hp hpe=> ?_
   have hA2:=(hA1.ext hE2).ext hE
   have hn:=hA2.nod _ p hp
   have hstep:=LL _ i p0 hp0
   refine scI ?_
   refine GH ?_
   refine eMe ?_
   refine eSu ?_
   refine aV hB TA.s ?_
   refine eV ?_
   refine AK (f:=kI) AB hA2.na (Ao hp) ?_ trivial (dl (m:=6) (by assumption))
   refine Bq _ _ (mFn hB (f:=360) hn.1) (AW hB (by rfl)) ?_
   refine Ad ?_
   refine B9 hB hn.1 ?_ (dl (m:=6) (by assumption))
   refine AQ _ rfl ?_
   rw [hpe]
   refine MU (fun h=> ?_) (fun h=> ?_)
   ·refine scA ?_
    refine Fd ?_
    refine eSu ?_
    refine aV hB TA.s ?_
    refine eV ?_
    refine AK (f:=kI) AB hA2.na (Ao hp) ?_ trivial (dl (m:=6) (by assumption))
    refine Dg hB hn.1 (by rfl) ?_
    refine Ai ?_
    refine Ai ?_
    rw [if_neg h] at hstep
    refine ⟨hok,_,Sub.cons (by rfl) (Sub.cons ?_ Sub.nil),rfl,hE⟩
    rw [hstep,←hpe]; rfl
   ·refine Ai ?_
    refine Ai ?_
    rw [if_pos h] at hstep
    refine ⟨hok,_,Sub.cons (by rfl) (Sub.cons ?_ Sub.nil),rfl,hE⟩
    rw [hstep]; rfl
  ·rintro ρ σ' ⟨rfl,hE⟩ _
   refine scR ?_
   refine eV ?_
   rw [List.length_map,List.take_length]
   have:Hn size l wo tr=Et (Ac size l wo tr):=by unfold Hn; rw [if_neg hle]
   rw [this] at q
   exact q _ ((hE1.trans hE2).trans hE)
end
noncomputable def Ab:Tr→List (Int×PN)
 | .nil=>[]
 | .node id n a c=>(id,n)::(Ab a++Ab c)
noncomputable def Tr.wt:Tr→Nat
 | .nil=>1
 | .node _ _ a c=>1+a.wt+c.wt
theorem Fo {ns:List (Int×PN)}:∀ {tr:Tr} {h:Int} {p:Int×PN},Rep ns h tr→p∈Ab tr→ns.lookup p.1=some p.2∧p.1≠ -1
 | .nil,_,_,_,hp=>by simp [Ab] at hp
 | .node id n a c,h,p,⟨_,hid,hl,ra,rc⟩,hp=>by
  unfold Ab at hp
  rcases List.mem_cons.mp hp with z | z
  ·subst z; exact ⟨hl,hid⟩
  ·rcases List.mem_append.mp z with z | z
   ·exact Fo ra z
   ·exact Fo rc z
theorem QI:∀ t:Tr,1≤t.wt
 | .nil=>Nat.le_refl _
 | .node _ _ a c=>by unfold Tr.wt; exact Nat.succ_le_of_lt (Nat.pos_of_neZero _)
theorem I6:∀ t:Tr,(Ab t).length < t.wt
 | .nil=>by simp [Ab,Tr.wt]
 | .node id n a c=>by
  have:=I6 a
  have:=I6 c
  simp only [Ab,Tr.wt,List.length_cons,List.length_append]; lia
theorem Hz {α:Type} (l:List α) (x:α):(l++[x]).eraseIdx ((l++[x]).length-1)=l:=by
 rw [List.length_append,List.length_singleton,Nat.add_sub_cancel,List.eraseIdx_append_of_length_le (Nat.le_refl _)]
 simp
theorem MY {α:Type} (f:α→Int) (l:List α):l.map (fun x=>MV.int (f x))=(l.map f).map .int:=by rw [List.map_map]; rfl
section
variable {w:World} {b:Heap} (hB:BaseOk w b) {d:Nat} {σ:MS} {Q:MV→MS→Prop} {t:Addr} {T:TC} {size:Nat} {tr:Tr} {l wo:Nat}
include hB
theorem JN (hA:TA σ t T) (hl:T.used.length≤1000) (q:Q (.int (Al T.used)) σ) (hd:2≤d):WC w b d (.ref 459) [.ref t] σ Q:=by
 have hd:1≤d:=Nat.le_trans (by decide) hd
 refine AR hB (dv:=[]) (D:=As 37 8) [S "self"] ?_ hd ?_
 ·exact bd1 fun U=>by rfl
 refine scA ?_
 refine Ae ?_
 refine sCo ?_
 refine I1 (fun m ρ σ'=>∃ k:Nat,k+m=Al T.used∧ρ=[(S "self",.ref t),(S "slot",.int k)]∧σ'=σ) (Al T.used) ⟨_,(Sub.cons (by rfl) (Sub.cons (by rfl) (Sub.nil))),0,Nat.add_eq_right.mpr (by decide),rfl,rfl⟩ ?_
 rintro m ρ σ' ⟨k,hk,rfl,rfl⟩
 refine tCm ?_
 refine eV ?_
 refine aV hB TA.s ?_
 refine Sd hA.ua ?_ (by rw [Dr]; exact n8z ‹2≤d›) (Bd _ _) (Kc _ _)
 rw [JX]
 refine PX (fun h=> ?_) (fun h=> ?_)
 ·have hm:(k:Int)∈T.used:=List.contains_iff_mem.mp h
  have:k≠Al T.used:=fun c=>Df T.used (c▸hm)
  refine scA ?_
  refine eBi ?_
  refine eV ?_
  refine Ae ?_
  refine CQ ?_
  refine Ai ?_
  have hm0:0 < m:=Nat.pos_of_ne_zero fun z=>this (by rw [← hk,z]; rfl)
  exact ⟨m-1,_,Nat.sub_lt hm0 (by decide),(Sub.cons (by rfl) (Sub.cons (by rfl) (Sub.nil))),k+1,by rw [Nat.add_assoc,Nat.add_sub_cancel' hm0]; exact hk,rfl,rfl⟩
 ·have hm:(k:Int)∉T.used:=fun c=>by rw [List.contains_iff_mem.mpr c] at h; cases h
  have:k=Al T.used:=by
   rcases Nat.lt_or_ge k (Al T.used) with z | z
   ·exact absurd (EN T.used z) hm
   ·exact Nat.le_antisymm (Nat.le.intro hk) z
  refine scR ?_
  refine eV ?_
  rw [this]
  exact q
theorem DK (hA:TA σ t T) (hr:Rep T.pure.nodes T.root tr) (hwt:tr.wt≤3000) (q:∀ σ' c,Ext σ σ'→σ c=none→σ' c=some (.list (((Ab tr).map (·.1)).map .int))→Q (.ref c) σ') (hd:2≤d):WC w b d (.ref 530) [.ref t] σ Q:=by
 have hd:1≤d:=Nat.le_trans (by decide) hd
 refine AR hB (dv:=[]) (D:=As 37 18) [S "self"] ?_ hd ?_
 ·exact bd1 fun U=>by rfl
 refine sCo ?_
 refine Da [S "found",S "todo"] ?_
 refine eTu ?_
 refine lCo ?_
 refine BW ?_
 refine Ad ?_
 refine ⟨rfl,fun f0 hf0=> ?_⟩
 have hA1:=hA.ext (Ext.new (o:= .list []) hf0)
 refine lCo ?_
 refine BW ?_
 refine lCo ?_
 refine aV hB TA.s ?_
 refine Ad ?_
 refine ⟨rfl,fun f1 hf1=> ?_⟩
 refine Ad ?_
 refine ⟨rfl,_,rfl,rfl,?_⟩
 have hne:f1≠f0:=fun c=>by rw [c,MS.set_self] at hf1; cases hf1
 have hf1':σ f1=none:=by rw [MS.set_ne hne] at hf1; exact hf1
 refine sCo ?_
 refine I1 (fun m ρ σ'=>∃ (ts:List (Int×Tr)) (pre:List (Int×PN)),(ts.map fun x=>x.2.wt).sum=m∧pre.length+m≤3000∧Ab tr=pre++ts.flatMap (fun x=>Ab x.2)∧(∀ x∈ts,Rep T.pure.nodes x.1 x.2)∧ρ=[(S "self",.ref t),(S "found",.ref f0),(S "todo",.ref f1)]∧Ext σ σ'∧σ' f0=some (.list ((pre.map (·.1)).map .int))∧σ' f1=some (.list ((ts.map (·.1)).reverse.map .int))) tr.wt
  ⟨_,(Sub.cons (by rfl) (Sub.cons (by rfl) (Sub.cons (by rfl) (Sub.nil)))),[(T.root,tr)],[],by simp,by simpa using hwt,by simp,fun x hx=>by simp at hx; subst hx; exact hr,rfl,(Ext.new hf0).step hf1,by rw [MS.set_ne hne.symm]; exact MS.set_self ..,MS.set_self ..⟩ ?_
 rintro m ρ σ' ⟨ts,pre,rfl,hlen,hp,hrs,rfl,hE,h0,h1⟩
 have lents:ts.length≤(ts.map fun x=>x.2.wt).sum:=by
  clear hlen hp hrs h1
  induction ts with
  | nil=>simp
  | cons x ts ih=>have:=QI x.2; simp only [List.length_cons,List.map_cons,List.sum_cons]; rw [Nat.add_comm ts.length]; exact Nat.add_le_add this ih
 refine tCm ?_
 refine eV ?_
 refine BW ?_
 refine Ad ?_
 refine ⟨rfl,fun c2 hc2=> ?_⟩
 have hE2:Ext σ (σ'.set c2 (.list [])):=hE.step hc2
 have h0':(σ'.set c2 (.list [])) f0=_:=MS.set_old hc2 h0
 have h1':(σ'.set c2 (.list [])) f1=_:=MS.set_old hc2 h1
 generalize hσ2:σ'.set c2 (.list [])=σ2 at hE2 h0' h1'
 have hc2':σ2 c2=some (.list []):=by rw [← hσ2]; exact MS.set_self ..
 refine Kw h1' hc2' ?_ (by rw [Dr]; exact n8z ‹2≤d›) (Bd _ []) (Bd _ _)
 rw [EA]
 cases ts with
 | nil =>
  refine B7 (by simp) ?_
  refine scR ?_
  refine eV ?_
  have:Ab tr=pre:=by simpa using hp
  rw [← this] at h0'
  exact q _ _ hE2 hf0 h0'
 | cons x ts =>
  obtain ⟨x,tx⟩:=x
  refine Ec (by simp) ?_
  have hrev:((((x,tx)::ts).map (·.1)).reverse.map MV.int)=(ts.map (·.1)).reverse.map .int++[.int x]:=by simp
  rw [hrev] at h1'
  have hlen1:((ts.map fun y:Int×Tr=>y.1).reverse.map MV.int++[MV.int x]).length≤100000:=by simp only [List.length_append,List.length_map,List.length_reverse,List.length_singleton]; simp only [List.length_cons] at lents; lia
  refine scA ?_
  refine eMe ?_
  refine eV ?_
  refine Bq _ _ (DC (id:="list.pop") h1') (Ar _) ?_
  refine Ad ?_
  refine So h1' hlen1 (v:= .int x) (by rw [List.length_append,List.length_singleton,Nat.add_sub_cancel]; simp) ?_
  rw [Hz]
  have hE3:Ext σ (σ2.set f1 (MO.list ((ts.map fun y:Int×Tr=>y.1).reverse.map MV.int))):=hE2.re hf1'
  have h03:(σ2.set f1 (.list ((ts.map (·.1)).reverse.map .int))) f0=_:=(MS.set_ne hne.symm).trans h0'
  have h13:(σ2.set f1 (.list ((ts.map (·.1)).reverse.map .int))) f1=_:=MS.set_self ..
  generalize σ2.set f1 (MO.list ((ts.map fun y:Int×Tr=>y.1).reverse.map MV.int))=σ3 at hE3 h03 h13
  have hA3:=hA.ext hE3
  have hrx:=hrs _ (.head _)
  have hrs':∀ y∈ts,Rep T.pure.nodes y.1 y.2:=fun y hy=>hrs y (.tail _ hy)
  refine scI ?_
  refine tCm ?_
  refine eV ?_
  refine eG hB ?_
  refine cNe ?_
  cases tx with
  | nil =>
   have hrx:x= -1:=hrx
   refine B7 (by rw [hrx]; decide) ?_
   refine Ai ?_
   refine Ai ?_
   exact ⟨_,_,by simp only [List.map_cons,List.sum_cons,Tr.wt]; exact Nat.lt_add_of_pos_left (by decide),(Sub.cons (by rfl) (Sub.cons (by rfl) (Sub.cons (by rfl) (Sub.nil)))),ts,pre,rfl,by simp only [List.map_cons,List.sum_cons,Tr.wt] at hlen; lia,by simpa [Ab] using hp,hrs',rfl,hE3,h03,h13⟩
  | node id n a c =>
   refine KN hrx fun hxi hid hlk ra rc=> ?_
   have hxi:x=id:=hxi
   subst hxi
   refine Af (Ay hlk) fun p hpl e_2=> ?_
   subst e_2
   refine Ec (by simpa using hid) ?_
   refine scE ?_
   refine eMe ?_
   refine eV ?_
   refine Bq _ _ (DC (id:="list.append") h03) (Ar _) ?_
   refine Aq ?_
   refine C3 h03 (by rw [List.length_map,List.length_map]; exact Nat.le_of_lt (Nat.lt_of_le_of_lt (Nat.le_add_right _ _) (Nat.lt_of_le_of_lt hlen (by decide)))) ?_
   have hE4:Ext σ (σ3.set f0 (.list ((pre.map (·.1)).map MV.int++[.int x]))):=hE3.re hf0
   have h04:(σ3.set f0 (.list ((pre.map (·.1)).map MV.int++[.int x]))) f0=some (.list (((pre++[(x,p.2)]).map (·.1)).map .int)):=by rw [MS.set_self]; simp
   have h14:(σ3.set f0 (.list ((pre.map (·.1)).map MV.int++[.int x]))) f1=_:=(MS.set_ne hne).trans h13
   generalize σ3.set f0 (MO.list ((pre.map fun y:Int×PN=>y.1).map MV.int++[MV.int x]))=σ4 at hE4 h04 h14
   have hA4:=hA.ext hE4
   have hn4:=hA4.nod _ p hpl
   refine scE ?_
   refine eMe ?_
   refine eV ?_
   refine Bq _ _ (DC (id:="list.append") h14) (Ar _) ?_
   refine lCo ?_
   refine eSu ?_
   refine Fd ?_
   refine eSu ?_
   refine aV hB TA.s ?_
   refine eV ?_
   refine AK (f:=kI) AB hA4.na (Ao hpl) ?_ trivial (dl (m:=2) (by assumption))
   refine Dg hB hn4.1 (by rfl) ?_
   refine Ae ?_
   refine Bm hn4.2 (by decide) (by decide) (by rfl) ?_
   refine Ad ?_
   have hl2:ts.length≤3000:=by simp only [List.length_cons] at lents; lia
   refine C3 h14 (by simp; exact Nat.le_of_lt (Nat.lt_of_le_of_lt hl2 (by decide))) ?_
   have hE5:Ext σ (σ4.set f1 (.list ((ts.map (·.1)).reverse.map MV.int++[.int p.2.c1]))):=hE4.re hf1'
   have h05:(σ4.set f1 (.list ((ts.map (·.1)).reverse.map MV.int++[.int p.2.c1]))) f0=_:=(MS.set_ne hne.symm).trans h04
   have h15:(σ4.set f1 (.list ((ts.map (·.1)).reverse.map MV.int++[.int p.2.c1]))) f1=_:=MS.set_self ..
   generalize σ4.set f1 (MO.list ((ts.map fun y:Int×Tr=>y.1).reverse.map MV.int++[MV.int p.2.c1]))=σ5 at hE5 h05 h15
   have hA5:=hA.ext hE5
   have hn5:=hA5.nod _ p hpl
   refine scE ?_
   refine eMe ?_
   refine eV ?_
   refine Bq _ _ (DC (id:="list.append") h15) (Ar _) ?_
   refine lCo ?_
   refine eSu ?_
   refine Fd ?_
   refine eSu ?_
   refine aV hB TA.s ?_
   refine eV ?_
   refine AK (f:=kI) AB hA5.na (Ao hpl) ?_ trivial (dl (m:=2) (by assumption))
   refine Dg hB hn5.1 (by rfl) ?_
   refine Ae ?_
   refine Bm hn5.2 (by decide) (by decide) (by rfl) ?_
   refine Ad ?_
   refine C3 h15 (by simp; exact Nat.le_of_lt (Nat.lt_of_le_of_lt hl2 (by decide))) ?_
   have hE6:Ext σ (σ5.set f1 (.list ((ts.map (·.1)).reverse.map MV.int++[.int p.2.c1]++[.int p.2.c0]))):=hE5.re hf1'
   have h06:(σ5.set f1 (.list ((ts.map (·.1)).reverse.map MV.int++[.int p.2.c1]++[.int p.2.c0]))) f0=_:=(MS.set_ne hne.symm).trans h05
   have h16:(σ5.set f1 (.list ((ts.map (·.1)).reverse.map MV.int++[.int p.2.c1]++[.int p.2.c0]))) f1=some (.list ((((p.2.c0,a)::(p.2.c1,c)::ts).map (·.1)).reverse.map .int)):=by rw [MS.set_self]; simp
   refine Ai ?_
   refine Ai ?_
   refine ⟨_,_,by simp only [List.map_cons,List.sum_cons,Tr.wt]; lia,(Sub.cons (by rfl) (Sub.cons (by rfl) (Sub.cons (by rfl) (Sub.nil)))),(p.2.c0,a)::(p.2.c1,c)::ts,pre++[(x,p.2)],rfl,?_,?_,?_,rfl,hE6,h06,h16⟩
   ·simp only [List.map_cons,List.sum_cons,Tr.wt,List.length_append,List.length_singleton] at hlen ⊢; lia
   ·rw [hp]; simp [Ab]
   ·intro y hy
    rcases List.mem_cons.mp hy with z | z
    ·subst z; exact ra
    ·rcases List.mem_cons.mp z with z | z
     ·subst z; exact rc
     ·exact hrs' y z
end
noncomputable def Ee (tr:Tr):List (Int×PN):=(Ab tr).filter fun p=>p.2.slot != -1
noncomputable def Gz (size:Nat) (p:Int×PN):Array UInt8:=BY size p.2.len p.2.w
structure KeysAre (size:Nat) (tr:Tr) (ks:List (Array UInt8)):Prop where
 perm:ks.Perm ((Ee tr).map (Gz size))
 rise:ks.Pairwise fun x y=>ltB x y=true
 few:ks.length≤6
theorem KeysAre.nodup {size:Nat} {tr:Tr} {ks:List (Array UInt8)} (h:KeysAre size tr ks):ks.Nodup:=h.rise.imp fun {a b} e c=>by rw [c,GP.irr] at e; cases e
theorem KC {α:Type} (f:α→Bool) (l:List α) (i:Nat) (x:α) (h:l[i]?=some x):(l.take (i+1)).filter f=(l.take i).filter f++if f x=true then [x] else []:=by
 rw [List.take_add_one,h,List.filter_append]
 cases hx:f x <;> simp [hx]
theorem Bp:∀ l m:List (Array UInt8),Bt (l.map .bytes) (m.map .bytes)=true
 | [],[]=>rfl
 | [],_::_=>rfl
 | _::_,[]=>rfl
 | x::l,y::m=>(show (true && Bt (l.map MV.bytes) (m.map MV.bytes))=true from Bp l m)
theorem C7:∀ l:List (Array UInt8),dps (l.map .bytes)=0:=by
 intro w_
 induction w_ with
 | nil =>
  exact rfl
 | cons x l ih_ =>
  simp only [List.map_cons,dps,dp,ih_]; rfl
theorem HC:∀ l:List (Array UInt8),CF (l.map .bytes) []=(l==[])
 | []=>rfl
 | x::l=>rfl
theorem DI (x y:Array UInt8):eqM (.bytes x) (.bytes y)=(x==y):=by
 show (x.toList==y.toList)=_
 by_cases h:x=y
 ·subst h; simp
 ·rw [beq_eq_false_iff_ne.mpr h,beq_eq_false_iff_ne]
  exact fun c=>h (Array.toList_inj.mp c)
theorem HD:∀ l m:List (Array UInt8),CF (l.map .bytes) (m.map .bytes)=(l==m)
 | [],[]=>rfl
 | [],_::_=>rfl
 | _::_,[]=>rfl
 | x::l,y::m=>by simp only [List.map_cons,CF,DI,HD l m,List.cons_beq_cons]
theorem IS (x:Array UInt8):∀ l:List (Array UInt8),(l.map MV.bytes).any (fun m=>eqM m (.bytes x))=l.contains x
 | []=>rfl
 | y::l=>by
  rw [List.map_cons,List.any_cons,IS x l,List.contains_cons,DI]
  rw [Bool.beq_comm]
theorem HZ:∀ l:List (Array UInt8),(l.map MV.bytes).any (fun m=>eqM m .none)=false:=by
 intro w_
 induction w_ with
 | nil =>
  exact rfl
 | cons y l ih_ =>
  rw [List.map_cons,List.any_cons,ih_]; rfl
noncomputable def LB:Option (Array UInt8)→MV
 | some x=> .bytes x
 | none=> .none
section
variable {w:World} {b:Heap} (hB:BaseOk w b) {d:Nat} {σ:MS} {Q:MV→MS→Prop} {t:Addr} {T:TC} {size:Nat} {tr:Tr} {l wo:Nat}
include hB
theorem Ma (hA:TA σ t T) (hw:Wid T size) {i:Int} {p:NA×PN} (hp:T.nodes.lookup i=some p) (h1:p.2.w < 2^size) (h2:p.2.len≤size) (q:∀ σ',Ext σ σ'→Q (.bytes (BY size p.2.len p.2.w)) σ') (hd:4≤d):WC w b d (.ref 537) [.ref t,.int i] σ Q:=by
 have hd:1≤d:=Nat.le_trans (by decide) hd
 have hs16:=hw.sz.le
 refine AR hB (dv:=[]) (D:=As 37 19) [S "self",S "here"] ?_ hd ?_
 ·exact bd2 fun U U=>by rfl
 refine sCo ?_
 refine Da [S "node",S "octets"] ?_
 refine eTu ?_
 refine lCo ?_
 refine eSu ?_
 refine aV hB TA.s ?_
 refine eV ?_
 refine AK (f:=kI) AB hA.na (Ao hp) ?_ trivial (dl (m:=4) (by assumption))
 refine lCo ?_
 refine BW ?_
 refine Ad ?_
 refine ⟨rfl,fun f0 hf0=> ?_⟩
 refine Ad ?_
 refine ⟨rfl,_,rfl,rfl,?_⟩
 have hA1:=hA.ext (Ext.new (o:= .list []) hf0)
 refine sCo ?_
 refine EZ ?_
 refine cTy hB ?_
 refine lCo ?_
 refine eBi ?_
 refine cM hB (f:=409) TA.s ?_
 refine Ad ?_
 refine CY hB hA1 hw ?_ (dl (m:=4) (by assumption))
 refine Ae ?_
 refine GN ?_ (by decide) (by decide)
 rw [show ((8:Int))=((8:Nat):Int) from rfl,AY]
 refine Ad ?_
 refine CE fun c hc=> ?_
 have hE2:Ext σ ((σ.set f0 (.list [])).set c (.rng ((size/8:Nat):Int))):=(Ext.new hf0).step hc
 refine ⟨_,_,fun j ρ σ'=>ρ=[(S "self",.ref t),(S "node",.ref p.1.a),(S "octets",.ref f0)]∧Ext σ σ'∧σ' f0=some (.list ((Eo ((Ch size p.2.w).take j)).map .int)),Fb (MS.set_self ..) (Nat.le_trans (Nat.div_le_div_right hs16) (by decide)),trivial,⟨_,(Sub.cons (by rfl) (Sub.cons (by rfl) (Sub.cons (by rfl) (Sub.nil)))),rfl,hE2,MS.set_old hc (MS.set_self ..)⟩,?_,?_⟩
 ·rintro j v ρ σ' hv ⟨rfl,hE,hf⟩ _
  obtain ⟨hj,rfl⟩:=Bc hv
  have hA2:=hA.ext hE
  have hn:=hA2.nod _ p hp
  have hsz:((size:Int)-8-8*(j:Nat))=((size-8-8*j:Nat):Int):=cs8 hj
  refine scE ?_
  refine eMe ?_
  refine eV ?_
  refine Bq _ _ (DC (id:="list.append") hf) (Ar _) ?_
  refine lCo ?_
  refine eBi ?_
  refine eBi ?_
  refine aV hB hn.1 ?_
  refine eBi ?_
  refine eBi ?_
  refine cM hB (f:=409) TA.s ?_
  refine Ad ?_
  refine CY hB hA2 hw ?_ (dl (m:=4) (by assumption))
  refine Ae ?_
  refine CZ ?_
  refine eBi ?_
  refine Ae ?_
  refine eV ?_
  refine D5 ?_ (.of_left (by decide))
  refine CZ ?_
  show WO2 w b _ _ (MV.int (p.2.w:Nat)) (MV.int ((size:Int)-8-8*(j:Nat))) _ _
  rw [hsz]
  refine Po ?_ (Int.natCast_nonneg _)
  refine Ae ?_
  refine Rv ?_
  have e2:(2:Int)^((size-8-8*j:Nat):Int).toNat=((2^(size-8-8*j):Nat):Int):=by simp
  rw [e2,AY]
  have e3:=D4 (p.2.w/2^(size-8-8*j)) 255
  rw [Nb] at e3
  refine Ad ?_
  refine C3 hf (by simp [Eo,Ch]; exact Nat.le_trans (Nat.le_trans (Nat.le_trans (Nat.min_le_right _ _) (Nat.div_le_self _ _)) hs16) (by decide)) ?_
  refine Ai ?_
  refine ⟨trivial,_,(Sub.cons (by rfl) (Sub.cons (by rfl) (Sub.cons (by rfl) (Sub.nil)))),rfl,hE.re hf0,?_⟩
  rw [MS.set_self]
  have hx:(Ch size p.2.w)[j]?=some (p.2.w/2^(size-8-8*j)%256):=by simp [Ch,hj]
  have e4:Eo ((Ch size p.2.w).take (j+1))=Eo ((Ch size p.2.w).take j)++[((p.2.w/2^(size-8-8*j)%256:Nat):Int)]:=by
   rw [List.take_add_one,hx]; simp [Eo]
  rw [e4,List.map_append]
  show some (MO.list (_++[MV.int (Builtin.bitAnd _ ((255:Nat):Int))]))=_
  rw [e3]; rfl
 ·rintro ρ σ' ⟨rfl,hE,hf⟩ _
  have hA2:=hA.ext hE
  have hn:=hA2.nod _ p hp
  have hf:σ' f0=some (.list ((Eo (Ch size p.2.w)).map .int)):=by
   rw [List.length_map,List.length_range,List.take_of_length_le (by rw [CO]; exact Nat.le_refl _)] at hf
   exact hf
  refine scR ?_
  refine cG hB ?_
  refine lCo ?_
  refine aV hB hn.1 ?_
  refine Aq ?_
  exact Md hB hw.sz (Nat.lt_of_le_of_lt h2 (Nat.lt_of_le_of_lt hs16 (by decide))) hf (fun σ2 hE2=>q σ2 (hE.trans hE2)) (dl (m:=4) (by assumption))
theorem JO (hA:TA σ t T) (hw:Wid T size) (hs:Shp T.pure tr size) (hwt:tr.wt≤3000) {ks:List (Array UInt8)} (hk:KeysAre size tr ks) (q:∀ σ' c,Ext σ σ'→σ c=none→σ' c=some (.list (ks.map .bytes))→Q (.ref c) σ') (hd:5≤d):WC w b d (.ref 542) [.ref t] σ Q:=by
 have hd:1≤d:=Nat.le_trans (by decide) hd
 have hpl:=I6 tr
 refine AR hB (dv:=[]) (D:=As 37 20) [S "self"] ?_ hd ?_
 ·exact bd1 fun U=>by rfl
 refine scR ?_
 refine cBu hB ?_
 refine lCo ?_
 refine CH [(S "self",.ref t)] ?_ (Sub.cons (by rfl) (Sub.nil))
 refine cM hB (f:=530) TA.s ?_
 refine Ad ?_
 refine DK hB hA hs.rep hwt (fun σ1 c1 hE1 hc1 hcl=> ?_) (dl (m:=5) (by assumption))
 refine ⟨_,_,fun i out σ'=>Ext σ1 σ'∧out=((((Ab tr).take i).filter fun p=>p.2.slot != -1).map fun p=> .bytes (Gz size p)),by simp; exact Nat.le_of_lt (Nat.lt_of_lt_of_le (Nat.lt_of_lt_of_le hpl hwt) (by decide)),Hu hcl,hcl,⟨Ext.rfl,rfl⟩,?_,?_⟩
 ·rintro i v out σ' hv ⟨hE,rfl⟩ hok
  rw [List.getElem?_map,List.getElem?_map] at hv
  refine Af (Option.map_eq_some_iff.mp hv) fun x hx e_2=> ?_
  subst e_2
  refine Af (Option.map_eq_some_iff.mp hx) fun p0 hp0 e_2=> ?_
  subst e_2
  obtain ⟨hlk,hid⟩:=Fo hs.rep (List.mem_of_getElem? hp0)
  refine Af (Ay hlk) fun p hp hpe=> ?_
  have hA2:=(hA.ext hE1).ext hE
  have hn:=hA2.nod _ p hp
  have hstep:=KC (fun p:Int×PN=>p.2.slot != -1) _ i p0 hp0
  have hok2:=hs.ok _ _ hlk
  refine ct1 ?_
  refine GH ?_
  refine eMe ?_
  refine eSu ?_
  refine aV hB TA.s ?_
  refine eV ?_
  refine AK (f:=kI) AB hA2.na (Ao hp) ?_ trivial (dl (m:=5) (by assumption))
  refine Bq _ _ (mFn hB (f:=360) hn.1) (AW hB (by rfl)) ?_
  refine Ad ?_
  refine B9 hB hn.1 ?_ (dl (m:=5) (by assumption))
  refine AQ _ rfl ?_
  rw [hpe]
  refine PX (fun h=> ?_) (fun h=> ?_)
  ·refine cM hB (f:=537) TA.s ?_
   refine Aq ?_
   refine Ma hB hA2 hw hp (by rw [hpe]; exact hok2.1) (by rw [hpe]; exact hok2.2) (fun σ3 hE3=> ?_) (dl (m:=5) (by assumption))
   refine Cv (hE3 _ _ hok) (hE.trans hE3) ?_
   rw [hstep,if_pos h,List.map_append,hpe]; rfl
  ·refine Cv hok hE ?_
   rw [hstep,if_neg (by rw [h]; exact Bool.false_ne_true),List.append_nil]
 ·rintro out σ' ⟨hE,rfl⟩ hok a ha
  refine Ad ?_
  have e:(((((Ab tr).take (((Ab tr).map (·.1)).map MV.int).length).filter fun p=>p.2.slot != -1).map fun p=>MV.bytes (Gz size p)))=((Ee tr).map (Gz size)).map .bytes:=by
   rw [List.length_map,List.length_map,List.take_length,List.map_map]; rfl
  rw [e]
  have hnd:((Ee tr).map (Gz size)).Nodup:=hk.perm.nodup_iff.mp hk.nodup
  have hfew:((Ee tr).map (Gz size)).length≤6:=by rw [← hk.perm.length_eq]; exact hk.few
  refine KH (MS.set_self ..) hfew hnd fun xs' c pm pw hc=> ?_
  have:xs'=ks:=EX GP (pm.trans hk.perm.symm) pw hk.rise
  subst this
  have hE4:Ext σ ((σ'.set a (.list (((Ee tr).map (Gz size)).map .bytes))).set c (.list (xs'.map .bytes))):=((hE1.trans hE).step ha).step hc
  exact q _ c hE4 (((hE1.trans hE).step ha).isNone hc) (MS.set_self ..)
theorem K7 (hA:TA σ t T) (hw:Wid T size) (hs:Shp T.pure tr size) (hwt:tr.wt≤3000) {ks:List (Array UInt8)} (hk:KeysAre size tr ks) (q:∀ σ',Ext σ σ'→Q (LB ks[0]?) σ') (hd:6≤d):WC w b d (.ref 549) [.ref t,.none] σ Q:=by
 have hd:1≤d:=Nat.le_trans (by decide) hd
 refine AR hB (dv:=[]) (D:=As 37 21) [S "self",S "key"] ?_ hd ?_
 ·exact bd2 fun U U=>by rfl
 refine scA ?_
 refine cM hB (f:=542) TA.s ?_
 refine Ad ?_
 refine JO hB hA hw hs hwt hk (fun σ1 c hE1 hc hcl=> ?_) (dl (m:=6) (by assumption))
 refine scI ?_
 refine tCm ?_
 refine eV ?_
 refine eV ?_
 refine Fz hcl ?_ (by rw [C7]; show 0+1≤8*(d-1); exact n8 ‹6≤d›) (Bp _ _) (fun m hm=>by obtain ⟨y,_,rfl⟩:=List.mem_map.mp hm; rfl)
 refine Ec (by rw [HZ]; exact (by rfl)) ?_
 refine scR ?_
 refine eIf ?_
 refine tCm ?_
 refine eV ?_
 refine BW ?_
 refine Ad ?_
 refine ⟨rfl,fun c2 hc2=> ?_⟩
 have hcl2:(σ1.set c2 (.list [])) c=_:=MS.set_old hc2 hcl
 refine Kw hcl2 (MS.set_self ..) ?_ (by rw [C7]; show 0+1≤8*(d-1); exact n8 ‹6≤d›) (Bp _ []) (Bp _ _)
 rw [HC]
 cases ks with
 | nil =>
  refine B7 (by simp) ?_
  refine Ea ?_
  exact q _ (hE1.step hc2)
 | cons k ks =>
  refine Ec (by simp) ?_
  refine eSu ?_
  refine eV ?_
  refine Ae ?_
  refine Bm hcl2 (by decide) (by decide) (by rfl) ?_
  exact q _ (hE1.step hc2)
theorem NM (hA:TA σ t T) (hw:Wid T size) (hs:Shp T.pure tr size) (hwt:tr.wt≤3000) {ks:List (Array UInt8)} (hk:KeysAre size tr ks) {i:Nat} {k:Array UInt8} (hi:ks[i]?=some k) (q:∀ σ',Ext σ σ'→Q (LB ks[i+1]?) σ') (hd:6≤d):WC w b d (.ref 549) [.ref t,.bytes k] σ Q:=by
 have hd:1≤d:=Nat.le_trans (by decide) hd
 have hlen:=hk.few
 obtain ⟨hik,hki⟩:=List.getElem?_eq_some_iff.mp hi
 refine AR hB (dv:=[]) (D:=As 37 21) [S "self",S "key"] ?_ hd ?_
 ·exact bd2 fun U U=>by rfl
 refine scA ?_
 refine cM hB (f:=542) TA.s ?_
 refine Ad ?_
 refine JO hB hA hw hs hwt hk (fun σ1 c hE1 hc hcl=> ?_) (dl (m:=6) (by assumption))
 refine scI ?_
 refine tCm ?_
 refine eV ?_
 refine eV ?_
 refine Fz hcl ?_ (by rw [C7]; show 0+1≤8*(d-1); exact n8 ‹6≤d›) (Bp _ _) (fun m hm=>by obtain ⟨y,_,rfl⟩:=List.mem_map.mp hm; rfl)
 refine B7 (by rw [IS]; exact (by rw [List.contains_iff_mem.mpr (List.mem_of_getElem? hi)]; exact Bool.false_ne_true)) ?_
 refine Ai ?_
 refine scA ?_
 refine eMe ?_
 refine eV ?_
 refine Bq _ _ (DC (id:="list.index") hcl) (Ar _) ?_
 refine Aq ?_
 refine Rc (j:=i) hcl (by rw [List.length_map]; exact Nat.le_of_lt (Nat.lt_of_le_of_lt hlen (by decide))) (Bp _ _) (fun m hm=>by obtain ⟨y,_,rfl⟩:=List.mem_map.mp hm; rfl) (by rw [C7]; show 0+1≤8*(d-1); exact n8 ‹6≤d›) (by rw [List.length_map]; exact hik) ?_ ?_ ?_
 ·rw [List.getElem?_map,hi]
  show some (eqM (.bytes k) (.bytes k))=_
  rw [DI]; simp
 ·intro m hm
  have hmk:m < ks.length:=Nat.lt_of_lt_of_le hm (Nat.le_of_lt hik)
  rw [List.getElem?_map,List.getElem?_eq_getElem hmk]
  show some (eqM (.bytes ks[m]) (.bytes k))=_
  rw [DI]
  have:ks[m]≠k:=fun c=>by
   have:=(List.pairwise_iff_getElem.mp hk.nodup) m i hmk hik hm
   exact this (c.trans hki.symm)
  rw [beq_eq_false_iff_ne.mpr this]
 ·refine scR ?_
  refine eIf ?_
  refine tCm ?_
  refine eBi ?_
  refine eV ?_
  refine Ae ?_
  refine CQ ?_
  refine cBu hB ?_
  refine Aq ?_
  refine E4 hcl (by rw [List.length_map]; exact Nat.le_of_lt (Nat.lt_of_le_of_lt hlen (by decide))) ?_
  rw [List.length_map]
  refine cLt ?_
  refine Ge (fun h=> ?_) (fun h=> ?_)
  ·have h':i+1 < ks.length:=Int.ofNat_lt.mp h
   refine eSu ?_
   refine eV ?_
   refine eBi ?_
   refine eV ?_
   refine Ae ?_
   refine CQ ?_
   refine Bm hcl (Int.natCast_nonneg (i+1)) (ilt (a:=i+1) (Nat.le_trans (Nat.le_of_lt h') hlen)) (x:= .bytes ks[i+1]) ?_ ?_
   ·rw [show ((i:Int)+1).toNat=i+1 from rfl,List.getElem?_map,List.getElem?_eq_getElem h']; rfl
   ·rw [List.getElem?_eq_getElem h'] at q
    exact q _ hE1
  ·refine Ea ?_
   rw [List.getElem?_eq_none (Nat.le_of_not_lt fun c=>h (Int.ofNat_lt.mpr c))] at q
   exact q _ hE1
theorem Qj (hA:TA σ t T) (hl:T.used.length < 64) (q:∀ σ' c (ns:List Int),Ext σ σ'→σ c=none→ns.Perm T.used→ns.Pairwise (· ≤ ·)→σ' c=some (.list (ns.map .int))→Q (.ref c) σ') (hd:1≤d):WC w b d (.ref 556) [.ref t] σ Q:=by
 refine AR hB (dv:=[]) (D:=As 37 22) [S "self"] ?_ hd ?_
 ·exact bd1 fun U=>by rfl
 refine scR ?_
 refine cBu hB ?_
 refine lCo ?_
 refine aV hB TA.s ?_
 refine Ad ?_
 exact KD hA.ua hl fun ns c pm pw hc=>q _ c ns (Ext.new hc) hc pm pw (MS.set_self ..)
end
theorem EG {T:TC} {s:Int} {p:Addr×Array UInt8} (e:T.vals.lookup s=some p):(DO T.vals).lookup s=some (.ref p.1):=by
 unfold DO
 rw [Bx (fun q:Addr×Array UInt8=>MV.ref q.1) s T.vals,e]; rfl
structure RowsAre (T:TC) (tr:Tr) (size:Nat) (ks:List (Array UInt8)) (f:Array UInt8→Int×Array UInt8):Prop where
 row:∀ k∈ks,∃ l wo,k=BY size l wo∧l < 4294967296∧wo < 2^size∧BB (Au size l wo tr)=some (f k).1∧∃ a,T.vals.lookup (f k).1=some (a,(f k).2)
 small:∀ k∈ks,(f k).2.size≤1000
noncomputable def Bb (f:Array UInt8→Int×Array UInt8) (k:Array UInt8):MV:= .tup [.bytes k,.int (f k).1,.bytes (f k).2]
section
variable {w:World} {b:Heap} (hB:BaseOk w b) {d:Nat} {σ:MS} {Q:MV→MS→Prop} {t:Addr} {T:TC} {size:Nat} {tr:Tr} {l wo:Nat}
include hB
theorem M6 (hA:TA σ t T) (hw:Wid T size) (hs:Shp T.pure tr size) (hl:l < 4294967296) (h2:wo < 2^size) {s:Int} {p:Addr×Array UInt8} (he:BB (Au size l wo tr)=some s) (hv:T.vals.lookup s=some p) (hz:p.2.size≤1000) (q:∀ σ',Ext σ σ'→Q (.bytes p.2) σ') (hd:7≤d) :
  WC w b d (.ref 222) [.ref t,.bytes (BY size l wo)] σ Q:=by
 have hd:1≤d:=Nat.le_trans (by decide) hd
 refine AR hB (dv:=[]) (D:=As 24 14) [S "self",S "key"] ?_ hd ?_
 ·exact bd2 fun U U=>by rfl
 refine scA ?_
 refine cM hB (f:=452) TA.s ?_
 refine Aq ?_
 refine JK hB hA hw hs hl h2 (fun σ1 hE1=> ?_) (dl (m:=7) (by assumption))
 rw [he]
 have hA1:=hA.ext hE1
 refine scR ?_
 refine eIf ?_
 refine tCm ?_
 refine eV ?_
 refine Ea ?_
 refine kIs (by rfl) ?_
 refine B7 (by simp [EV,isNone]) ?_
 refine cTy hB ?_
 refine lCo ?_
 refine eSu ?_
 refine aV hB TA.s ?_
 refine eV ?_
 refine AK (f:=kI) AB hA1.va (EG hv) ?_ trivial (dl (m:=7) (by assumption))
 refine Ad ?_
 exact P9 (hA1.val s p hv) (Nat.le_of_lt (Nat.lt_of_le_of_lt hz (by decide))) (q _ hE1)
theorem Qk (hA:TA σ t T) (hw:Wid T size) (hs:Shp T.pure tr size) (hwt:tr.wt≤3000) {ks:List (Array UInt8)} (hk:KeysAre size tr ks) {f:Array UInt8→Int×Array UInt8} (hf:RowsAre T tr size ks f) (q:∀ σ',Ext σ σ'→Q (.tup (ks.map (Bb f))) σ') (hd:8≤d) :
  WC w b d (.ref 568) [.ref t] σ Q:=by
 have hd:1≤d:=Nat.le_trans (by decide) hd
 have hlen:=hk.few
 refine AR hB (dv:=[]) (D:=As 37 24) [S "self"] ?_ hd ?_
 ·exact bd1 fun U=>by rfl
 refine scR ?_
 refine cTy hB ?_
 refine lCo ?_
 refine CH [(S "self",.ref t)] ?_ (Sub.cons (by rfl) (Sub.nil))
 refine cM hB (f:=542) TA.s ?_
 refine Ad ?_
 refine JO hB hA hw hs hwt hk (fun σ1 c1 hE1 hc1 hcl=> ?_) (dl (m:=8) (by assumption))
 refine ⟨_,_,fun i out σ'=>Ext σ1 σ'∧out=(ks.take i).map (Bb f),by simp; exact Nat.le_of_lt (Nat.lt_of_le_of_lt hlen (by decide)),Hu hcl,hcl,⟨Ext.rfl,rfl⟩,?_,?_⟩
 ·rintro i v out σ' hv ⟨hE,rfl⟩ hok
  rw [List.getElem?_map] at hv
  refine Af (Option.map_eq_some_iff.mp hv) fun k hk0 e_2=> ?_
  subst e_2
  refine Sx (hf.row k (List.mem_of_getElem? hk0)) fun l wo e_2 hl h2 he r_=> ?_
  subst e_2
  obtain ⟨a,hva⟩:=r_
  have hsm:=hf.small _ (List.mem_of_getElem? hk0)
  have hA2:=(hA.ext hE1).ext hE
  refine ctK ?_
  refine eTu ?_
  refine lV ?_
  refine lCo ?_
  refine cM hB (f:=452) TA.s ?_
  refine Aq ?_
  refine JK hB hA2 hw hs hl h2 (fun σ3 hE3=> ?_) (dl (m:=8) (by assumption))
  rw [he]
  have hA3:=hA2.ext hE3
  refine lCo ?_
  refine cM hB (f:=222) TA.s ?_
  refine Aq ?_
  refine M6 hB hA3 hw hs hl h2 he hva hsm (fun σ4 hE4=> ?_) (dl (m:=8) (by assumption))
  refine Ad ?_
  refine JB rfl (hE4 _ _ (hE3 _ _ hok)) ((hE.trans hE3).trans hE4) ?_
  rw [List.take_add_one,hk0,List.map_append]; rfl
 ·rintro out σ' ⟨hE,rfl⟩ hok a ha
  refine Ad ?_
  rw [List.length_map,List.take_length]
  exact OW (MS.set_self ..) (by rw [List.length_map]; exact Nat.le_of_lt (Nat.lt_of_le_of_lt hlen (by decide))) (q _ ((hE1.trans hE).step ha))
theorem Rs (hA:TA σ t T) (hw:Wid T size) (hs:Shp T.pure tr size) (hwt:tr.wt≤3000) {ks:List (Array UInt8)} (hk:KeysAre size tr ks) {f:Array UInt8→Int×Array UInt8} (hf:RowsAre T tr size ks f)
  (q:∀ σ',Ext σ σ'→Q (.tup [.str (S "trie"),.int 5,.int T.kw,.int T.vw,.int T.most,.tup (ks.map (Bb f))]) σ') (hd:9≤d):WC w b d (.ref 290) [.ref t] σ Q:=by
 have hd:1≤d:=Nat.le_trans (by decide) hd
 refine AR hB (dv:=[]) (D:=As 24 24) [S "self"] ?_ hd ?_
 ·exact bd1 fun U=>by rfl
 refine scR ?_
 refine eTu ?_
 refine lCo ?_
 refine aV hB TA.s ?_
 refine lCo ?_
 refine aV hB TA.s ?_
 refine lCo ?_
 refine aV hB TA.s ?_
 refine lCo ?_
 refine aV hB TA.s ?_
 refine lCo ?_
 refine aV hB TA.s ?_
 refine lCo ?_
 refine cM hB (f:=568) TA.s ?_
 refine Ad ?_
 refine Qk hB hA hw hs hwt hk hf (fun σ1 hE1=> ?_) (dl (m:=9) (by assumption))
 refine Ad ?_
 exact ⟨rfl,q _ hE1⟩
end
noncomputable def only (n:PN):Int:=if n.c0= -1 then n.c1 else n.c0
noncomputable def Aj (n:PN) (side:Nat) (child:Int):PN:=if side=0 then {n with c0:=child} else {n with c1:=child}
noncomputable def Co (P:TP) (parent:Int) (side:Nat) (child:Int):TP:=if parent= -1 then {P with root:=child} else match P.nodes.lookup parent with
 | some n=>{P with nodes:=AA P.nodes parent (Aj n side child)}
 | none=>P
noncomputable def Be (P:TP) (parent old new:Int):TP:=if parent= -1 then {P with root:=new} else match P.nodes.lookup parent with
 | some n=>{P with nodes:=AA P.nodes parent (Aj n (if n.c0=old then 0 else 1) new)}
 | none=>P
noncomputable def BX (P:TP) (here:Int):TP:={P with nodes:=Dl P.nodes here,free:=P.free++[here]}
noncomputable def Az (P:TP):Int:=match P.free.getLast? with
 | some h=>h
 | none=>P.nodes.length
noncomputable def Bv (P:TP) (size l w:Nat) (s:Int):TP:={P with nodes:=AA P.nodes (Az P) ⟨l,cut size w l,s,-1,-1⟩,free:=P.free.dropLast}
noncomputable def Aw (way:List Int):Int:=if way.length < 2 then -1 else way.getD (way.length-2) 0
noncomputable def AN (way:List Int):Int:=if way.length < 3 then -1 else way.getD (way.length-3) 0
noncomputable def BE (P:TP) (here:Int) (way:List Int):TP:=match P.nodes.lookup here with
 | none=>P
 | some n =>
  let P1:=BX (Be P (Aw way) here (only n)) here
  if Aw way≠ -1∧only n= -1 then match P1.nodes.lookup (Aw way) with
   | some m=>if m.slot= -1 then BX (Be P1 (AN way) (Aw way) (only m)) (Aw way) else P1
   | none=>P1
  else P1
theorem Wid.of {T T':TC} {size:Nat} (h:Wid T size) (e:T'.kw=T.kw):Wid T' size:=⟨h.sz,e.trans h.kw⟩
section
variable {w:World} {b:Heap} (hB:BaseOk w b) {d:Nat} {σ:MS} {Q:MV→MS→Prop} {t:Addr} {T:TC} {size:Nat} {tr:Tr} {l wo:Nat}
include hB
theorem Ha (hA:TA σ t T) {i:Int} {p:NA×PN} (hp:T.nodes.lookup i=some p) {side:Nat} {child:Int} (hs:side=0∨side=1) {R:MS→Prop} {dd:Nat}
  (q:∀ σ' T',TA σ' t T'→Fr' t T σ σ' T'→T'.pure={T.pure with nodes:=AA T.pure.nodes i (Aj p.2 side child)}→R σ'):WSt w b dd (.ref p.1.c) (.int side) (.int child) σ R:=by
 have hn:=hA.nod i p hp
 refine ME hn.2 (Int.natCast_nonneg _) (by show (side:Int) < (2:Nat); exact Int.ofNat_lt.mpr (Nat.lt_succ_of_le (Nat.le_one_iff_eq_zero_or_eq_one.mpr hs))) (by lia) ?_
 rcases hs with rfl | rfl
 ·obtain ⟨h1,h2⟩:=hA.setKids hp child p.2.c1
  exact q _ _ h1 h2 C2
 ·obtain ⟨h1,h2⟩:=hA.setKids hp p.2.c0 child
  exact q _ _ h1 h2 C2
theorem Me (hA:TA σ t T) {parent child:Int} {side:Nat} (hp:parent= -1∨(parent≠ -1∧∃ p,T.nodes.lookup parent=some p)) (hs:side=0∨side=1)
  (q:∀ σ' T',TA σ' t T'→Fr' t T σ σ' T'→T'.pure=Co T.pure parent side child→Q .none σ') (hd:2≤d):WC w b d (.ref 487) [.ref t,.int parent,.int side,.int child] σ Q:=by
 have hd:1≤d:=Nat.le_trans (by decide) hd
 refine AR hB (dv:=[]) (D:=As 37 12) [S "self",S "parent",S "side",S "child"] ?_ hd ?_
 ·exact bd4 fun U U U U=>by rfl
 refine scI ?_
 refine tCm ?_
 refine eV ?_
 refine eG hB ?_
 refine cEq ?_
 rcases hp with rfl | ⟨hp1,p,hp⟩
 ·refine Ec (by decide) ?_
  refine sCo ?_
  refine BV ?_
  refine eV ?_
  refine eV ?_
  refine BJ hB hA.self ?_
  obtain ⟨h1,h2⟩:=hA.setRoot child
  refine Ai ?_
  refine Ai ?_
  exact q _ _ h1 h2 (by unfold Co; rw [if_pos rfl]; rfl)
 ·refine B7 (by simpa using hp1) ?_
  refine sCo ?_
  refine D9 ?_
  refine eV ?_
  refine Fd ?_
  refine eSu ?_
  refine aV hB TA.s ?_
  refine eV ?_
  refine AK (f:=kI) AB hA.na (Ao hp) ?_ trivial (dl (m:=2) (by assumption))
  refine Dg hB (hA.nod _ _ hp).1 (by rfl) ?_
  refine eV ?_
  refine Ha hB hA hp hs fun σ' T' h1 h2 h3=> ?_
  refine Ai ?_
  refine Ai ?_
  exact q _ _ h1 h2 (by simp only [h3]; unfold Co; rw [if_neg hp1,Bz hp])
theorem Eb (hA:TA σ t T) {parent old new:Int} (hp:parent= -1∨(parent≠ -1∧∃ p,T.nodes.lookup parent=some p))
  (q:∀ σ' T',TA σ' t T'→Fr' t T σ σ' T'→T'.pure=Be T.pure parent old new→Q .none σ') (hd:2≤d):WC w b d (.ref 523) [.ref t,.int parent,.int old,.int new] σ Q:=by
 have hd:1≤d:=Nat.le_trans (by decide) hd
 refine AR hB (dv:=[]) (D:=As 37 17) [S "self",S "parent",S "old",S "new"] ?_ hd ?_
 ·exact bd4 fun U U U U=>by rfl
 refine scI ?_
 refine tCm ?_
 refine eV ?_
 refine eG hB ?_
 refine cEq ?_
 rcases hp with rfl | ⟨hp1,p,hp⟩
 ·refine Ec (by decide) ?_
  refine sCo ?_
  refine BV ?_
  refine eV ?_
  refine eV ?_
  refine BJ hB hA.self ?_
  obtain ⟨h1,h2⟩:=hA.setRoot new
  refine Ai ?_
  refine Ai ?_
  exact q _ _ h1 h2 (by unfold Be; rw [if_pos rfl]; rfl)
 ·refine B7 (by simpa using hp1) ?_
  have hn:=hA.nod _ _ hp
  refine scA ?_
  refine WE.mono (Q:=fun mv s=>mv= .int ((if p.2.c0=old then 0 else 1:Nat):Int)∧s=σ) ?_ ?_
  ·refine eIf ?_
   refine tCm ?_
   refine eSu ?_
   refine Fd ?_
   refine eSu ?_
   refine aV hB TA.s ?_
   refine eV ?_
   refine AK (f:=kI) AB hA.na (Ao hp) ?_ trivial (dl (m:=2) (by assumption))
   refine Dg hB hn.1 (by rfl) ?_
   refine Ae ?_
   refine Bm hn.2 (by decide) (by decide) (by rfl) ?_
   refine eV ?_
   refine cEq ?_
   refine Kx (fun h=> ?_) (fun h=> ?_)
   ·refine Ae ?_
    exact ⟨by rw [if_pos h]; rfl,rfl⟩
   ·refine Ae ?_
    exact ⟨by rw [if_neg h]; rfl,rfl⟩
  ·rintro mv s ⟨rfl,rfl⟩
   refine sCo ?_
   refine D9 ?_
   refine eV ?_
   refine Fd ?_
   refine eSu ?_
   refine aV hB TA.s ?_
   refine eV ?_
   refine AK (f:=kI) AB hA.na (Ao hp) ?_ trivial (dl (m:=2) (by assumption))
   refine Dg hB hn.1 (by rfl) ?_
   refine eV ?_
   refine Ha hB hA hp (by split <;> simp) fun σ' T' h1 h2 h3=> ?_
   refine Ai ?_
   refine Ai ?_
   exact q _ _ h1 h2 (by simp only [h3]; unfold Be; rw [if_neg hp1,Bz hp])
theorem GE (hA:TA σ t T) {here:Int} {p:NA×PN} (hp:T.nodes.lookup here=some p) (hnd:(T.nodes.map (·.1)).Nodup) (hz:T.nodes.length≤1000) (hf:T.free.length≤1000)
  (q:∀ σ' T',TA σ' t T'→Fr' t T σ σ' T'→T'.pure=BX T.pure here→Q .none σ') (hd:2≤d):WC w b d (.ref 480) [.ref t,.int here] σ Q:=by
 have hd:1≤d:=Nat.le_trans (by decide) hd
 refine AR hB (dv:=[]) (D:=As 37 11) [S "self",S "here"] ?_ hd ?_
 ·exact bd2 fun U U=>by rfl
 refine scE ?_
 refine eMe ?_
 refine aV hB TA.s ?_
 refine Bq _ _ (Qz hA.na) (Ar _) ?_
 refine Aq ?_
 refine QC (f:=kI) AB hA.na (by simp [Cg]; exact Nat.le_of_lt (Nat.lt_of_le_of_lt hz (by decide))) (Ao hp) ?_ trivial (dl (m:=2) (by assumption))
 obtain ⟨h1,h2⟩:=hA.cutNode (i:=here) (m:=T.nn+1) hnd
 generalize σ.set T.na (MO.dict (asE kI (FI (Cg T.nodes) here)) (T.nn+1))=σ1 at h1 h2 ⊢
 refine scE ?_
 refine eMe ?_
 refine aV hB h1.self ?_
 refine Bq _ _ (DC (id:="list.append") h1.fa) (Ar _) ?_
 refine Aq ?_
 refine C3 h1.fa (by simp only [List.length_map]; show T.free.length≤_; exact Nat.le_of_lt (Nat.lt_of_le_of_lt hf (by decide))) ?_
 obtain ⟨h3,h4⟩:=h1.setFree (T.free++[here])
 refine Ai ?_
 have e:((T.free++[here]).map MV.int)=T.free.map .int++[.int here]:=by exact List.map_append
 simp only [e] at h3 h4
 refine q _ _ h3 (h2.trans h4) ?_
 delta TC.pure BX
 dsimp only
 rw [KT]
end
section
variable {w:World} {b:Heap} (hB:BaseOk w b) {d:Nat} {σ:MS} {Q:MV→MS→Prop} {t:Addr} {T:TC} {size:Nat} {tr:Tr} {l wo:Nat}
include hB
theorem K5 {a dd:Addr} {l wo:Nat} {s:Int} (ha:σ a=some (.inst 384 dd [])) (q:∀ σ' c,σ c=none→c≠a→(∀ x,x≠a→x≠c→σ' x=σ x)→σ' a=some (CM (⟨a,dd,c⟩,⟨l,wo,s,-1,-1⟩))→σ' c=some (E2 (⟨a,dd,c⟩,⟨l,wo,s,-1,-1⟩))→Q .none σ') (hd:1≤d) :
  CC w b d (.ref 353) [.ref a,.int l,.int wo,.int s] σ Q:=by
 refine Pz hB (dv:=[]) (D:=As 36 0) [S "self",S "length",S "worth",S "slot"] (by rfl) (by decide +kernel) ?_ (by rfl) (by decide) (by rfl) (by rfl) (by rfl) hd ?_
 ·exact bd4 fun U U U U=>by rfl
 refine sCo ?_
 refine BV ?_
 refine eV ?_
 refine eV ?_
 refine BJ hB ha ?_
 refine sCo ?_
 refine BV ?_
 refine eV ?_
 refine eV ?_
 refine BJ hB (MS.set_self ..) ?_
 refine sCo ?_
 refine BV ?_
 refine eV ?_
 refine eV ?_
 refine BJ hB (MS.set_self ..) ?_
 refine sCo ?_
 refine BV ?_
 refine BW ?_
 refine lCo ?_
 refine eG hB ?_
 refine lCo ?_
 refine eG hB ?_
 refine Ad ?_
 refine ⟨rfl,fun c hc=> ?_⟩
 have hca:c≠a:=fun e=>by rw [e,MS.set_self] at hc; cases hc
 rw [MS.set_set,MS.set_set] at hc ⊢
 refine eV ?_
 refine BJ hB (MS.set_old hc (MS.set_self ..)) ?_
 refine Ai ?_
 rw [MS.set_ne hca] at hc
 refine q _ c hc hca (fun x h1 h2=>by rw [MS.set_ne h1,MS.set_ne h2,MS.set_ne h1]) (MS.set_self ..) ?_
 rw [MS.set_ne hca,MS.set_self]; rfl
theorem GD {l wo:Nat} {s:Int} (q:∀ σ' a dd c,Ext σ σ'→σ a=none→σ c=none→a≠c→σ' a=some (CM (⟨a,dd,c⟩,⟨l,wo,s,-1,-1⟩))→σ' c=some (E2 (⟨a,dd,c⟩,⟨l,wo,s,-1,-1⟩))→Q (.ref a) σ') (hd:2≤d) :
  WC w b d (.ref 384) [.int l,.int wo,.int s] σ Q:=by
 refine Kn hB (Nat.le_of_succ_le hd) (by rfl) (Sj _) (R4 _) (by rfl) fun a dd na nd ne ot=> ?_
 refine K5 hB (MS.set_self ..) (fun σ' c hc hca k h1 h2=> ?_) (Nat.le_sub_of_add_le hd)
 rw [MS.set_ne hca] at hc
 refine ⟨rfl,q σ' a dd c (fun x o e=> ?_) na hc hca.symm h1 h2⟩
 have x1:x≠a:=(ot x o e).1
 have x2:x≠c:=MS.ne_of hc e
 rw [k x x1 x2,MS.set_ne x1]; exact e
theorem HM (hA:TA σ t T) (hw:Wid T size) {l wo:Nat} {s:Int} (hl:l≤size) (h2:wo < 2^size) (hno:T.pure.nodes.lookup (Az T.pure)=none) (hz:T.nodes.length≤1000) (hf:T.free.length≤1000)
  (q:∀ σ' T',TA σ' t T'→Fr' t T σ σ' T'→T'.pure=Bv T.pure size l wo s→Q (.int (Az T.pure)) σ') (hd:4≤d):WC w b d (.ref 473) [.ref t,.int l,.int wo,.int s] σ Q:=by
 have hd:1≤d:=Nat.le_trans (by decide) hd
 refine AR hB (dv:=[]) (D:=As 37 10) [S "self",S "length",S "worth",S "slot"] ?_ hd ?_
 ·exact bd4 fun U U U U=>by rfl
 have tail:∀ (ρ:LM) σ1 T1,ρ.lookup (S "self")=some (.ref t)→ρ.lookup (S "length")=some (.int l)→ρ.lookup (S "worth")=some (.int wo)→ρ.lookup (S "slot")=some (.int s)→ρ.lookup (S "here")=some (.int (Az T.pure))→TA σ1 t T1→Fr' t T σ σ1 T1 →
   T1.kw=T.kw→T1.nodes=T.nodes→{T1.pure with nodes:=AA T.pure.nodes (Az T.pure) ⟨l,cut size wo l,s,-1,-1⟩}=Bv T.pure size l wo s →
   WS w b ⟨(An (As 37 10)).names,d-1⟩ (execs (((Dw (As 37 10)).drop 2))) ρ σ1 fun mf U σ'=>Q mf.val σ':=by
  intro ρ σ1 T1 e1 e2 e3 e4 e5 hA1 hF1 hk hn hp
  have hw1:Wid T1 size:=hw.of hk
  refine sCo ?_
  refine D9 ?_
  refine KO ?_
  refine eG hB ?_
  refine Cu _ rfl (EP hB (by rfl)) ?_
  refine lCo ?_
  refine JC e2 ?_
  refine lCo ?_
  refine cG hB ?_
  refine lCo ?_
  refine JC e3 ?_
  refine lCo ?_
  refine JC e2 ?_
  refine lCo ?_
  refine eMe ?_
  refine JC e1 ?_
  refine Bq _ _ (mFn hB (f:=409) hA1.self) (AW hB (by rfl)) ?_
  refine Ad ?_
  refine CY hB hA1 hw1 ?_ (dl (m:=4) (by assumption))
  refine Ad ?_
  refine Mf hB hl hw.sz.le h2 ?_ (dl (m:=4) (by assumption))
  refine lCo ?_
  refine JC e4 ?_
  refine Ad ?_
  refine GD hB (fun σ2 a dd c hE ha hc hac o1 o2=> ?_) (dl (m:=4) (by assumption))
  have hA2:=hA1.ext hE
  refine Fd ?_
  refine JC e1 ?_
  refine Dg hB hA2.self (by rfl) ?_
  refine JC e5 ?_
  have hl2:T1.nodes.lookup (Az T.pure)=none:=by
   rw [hn]
   cases e:T.nodes.lookup (Az T.pure) with
   | none=>rfl
   | some p=>rw [Bz e] at hno; cases hno
  refine IC (f:=kI) AB hA2.na (by simp [Cg]; rw [hn]; exact Nat.le_of_lt (Nat.lt_of_le_of_lt hz (by decide))) (fun m hm=> ?_) trivial (dl (m:=4) (by assumption))
  have nfa:¬ T1.fp t a:=fun f=>hA1.there f ha
  have nfc:¬ T1.fp t c:=fun f=>hA1.there f hc
  obtain ⟨h1,h2⟩:=hA2.addNode (p:=(⟨a,dd,c⟩,⟨l,cut size wo l,s,-1,-1⟩)) (m:=m) hl2 o1 o2 nfa nfc
  have hF2:=h2 σ1 hE ha hc hA1
  refine scR ?_
  refine JC e5 ?_
  refine q _ _ h1 (hF1.trans hF2) ?_
  rw [← hp]
  have e:=ED (fun q:NA×PN=>q.2) (Az T.pure) (⟨a,dd,c⟩,⟨l,cut size wo l,s,-1,-1⟩) T1.nodes
  have e':(AA T1.nodes (Az T.pure) (⟨a,dd,c⟩,⟨l,cut size wo l,s,-1,-1⟩)).map (fun p=>(p.1,p.2.2))=AA T.pure.nodes (Az T.pure) ⟨l,cut size wo l,s,-1,-1⟩:=by rw [e,hn]; rfl
  exact congrArg (fun z=>({T1.pure with nodes:=z}:TP)) e'
 refine scA ?_
 refine cBu hB ?_
 refine lCo ?_
 refine aV hB TA.s ?_
 refine Ad ?_
 refine M1 hB hA.na (by simp [Cg,asE]; exact Nat.le_of_lt (Nat.lt_of_le_of_lt hz (by decide))) ?_
 refine scI ?_
 refine tCm ?_
 refine aV hB TA.s ?_
 refine BW ?_
 refine Ad ?_
 refine ⟨rfl,fun c2 hc2=> ?_⟩
 have hA2:=hA.ext (Ext.new (o:= .list []) hc2)
 have hF2:Fr' t T σ (σ.set c2 (.list [])) T:=Fr'.ext (Ext.new hc2)
 refine Kw hA2.fa (MS.set_self ..) ?_ (by rw [Dr]; show 0+1≤8*(d-1); exact n8 ‹4≤d›) (Bd _ []) (Bd _ _)
 rw [EA]
 have hlen:((asE kI (Cg T.nodes)).length:Int)=T.pure.nodes.length:=by simp [asE,Cg,TC.pure]
 rw [hlen]
 generalize σ.set c2 (MO.list [])=σ2 at hA2 hF2 ⊢
 cases hfr:T.free.getLast? with
 | none =>
  have hnil:=List.getLast?_eq_none_iff.mp hfr
  have hid:Az T.pure=T.pure.nodes.length:=by unfold Az; show (match T.free.getLast? with | some h=>h | none=>_)=_; rw [hfr]
  refine B7 (by rw [hnil]; exact (by decide)) ?_
  refine Ai ?_
  rw [← hid]
  refine tail _ σ2 T (by rfl) (by rfl) (by rfl) (by rfl) (by rfl) hA2 hF2 rfl rfl ?_
  unfold Bv
  rw [show T.pure.free=[] from hnil]
  show TP.mk _ _ _ _ _ _ _ _=TP.mk _ _ _ _ _ _ _ _
  rw [show T.pure.free=[] from hnil]; rfl
 | some x =>
  obtain ⟨ys,hys⟩:=List.getLast?_eq_some_iff.mp hfr
  have hid:Az T.pure=x:=by unfold Az; show (match T.free.getLast? with | some h=>h | none=>_)=_; rw [hfr]
  have hfm:T.free.map MV.int=ys.map .int++[.int x]:=by rw [hys,List.map_append]; rfl
  refine Ec (by rw [hys]; simp) ?_
  have hfa2:=hA2.fa
  rw [hfm] at hfa2
  have hzz:(ys.map MV.int++[MV.int x]).length≤100000:=by rw [← hfm,List.length_map]; exact Nat.le_of_lt (Nat.lt_of_le_of_lt hf (by decide))
  refine scA ?_
  refine eMe ?_
  refine aV hB TA.s ?_
  refine Bq _ _ (DC (id:="list.pop") hfa2) (Ar _) ?_
  refine Ad ?_
  refine So hfa2 hzz (v:= .int x) (by rw [List.length_append,List.length_singleton,Nat.add_sub_cancel]; simp) ?_
  rw [Hz]
  obtain ⟨h3,h4⟩:=hA2.setFree ys
  generalize σ2.set T.fa (MO.list (ys.map MV.int))=σ3 at h3 h4 ⊢
  refine Ai ?_
  rw [hid] at tail
  refine tail _ σ3 _ (by rfl) (by rfl) (by rfl) (by rfl) (by rfl) h3 (hF2.trans h4) rfl rfl ?_
  unfold Bv
  rw [hid]
  show TP.mk _ _ _ _ _ _ _ _=TP.mk _ _ _ _ _ _ _ _
  rw [show T.pure.free=ys++[x] from hys,List.dropLast_concat]
  rfl
end
theorem FZ (T:TC):T.pure.nodes.map (·.1)=T.nodes.map (·.1):=by unfold TC.pure; dsimp only; rw [List.map_map]; rfl
theorem Fn (T:TC):T.nodes.length=T.pure.nodes.length:=by unfold TC.pure; simp
theorem Ku {β γ:Type} {l:List (Int×β)} {m:List (Int×γ)} (h:l.map (·.1)=m.map (·.1)):l.length=m.length:=by
 have:=congrArg List.length h
 simpa using this
theorem Db {P:TP} {a b c:Int}:(Be P a b c).nodes.map (·.1)=P.nodes.map (·.1):=by
 unfold Be
 split
 ·rfl
 ·split
  ·rename_i n e
   dsimp only
   rw [BS,e]; rfl
  ·rfl
theorem Lw {P:TP} {a b c x:Int} (h:x≠a):(Be P a b c).nodes.lookup x=P.nodes.lookup x:=by
 unfold Be
 split
 ·rfl
 ·split
  ·dsimp only
   rw [AE,if_neg h]
  ·rfl
theorem Fa {P:TP} {a b c:Int}:(Be P a b c).free=P.free:=by
 unfold Be
 split
 ·rfl
 ·split <;> rfl
theorem EH {P:TP} {a b c x:Int} {n:PN} (h:P.nodes.lookup x=some n):∃ m,(Be P a b c).nodes.lookup x=some m:=by
 by_cases q:x=a
 ·subst q
  unfold Be
  split
  ·exact ⟨n,h⟩
  ·rw [h]
   dsimp only
   rw [AE,if_pos rfl]
   exact ⟨_,rfl⟩
 ·rw [Lw q]; exact ⟨n,h⟩
theorem Jf {l:List Int} {x:Int} (h:l.Nodup):(l.erase x).Nodup:=h.sublist List.erase_sublist
section
variable {w:World} {b:Heap} (hB:BaseOk w b) {d:Nat} {σ:MS} {Q:MV→MS→Prop} {t:Addr} {T:TC} {size:Nat} {tr:Tr} {l wo:Nat}
include hB
theorem Lk {wa:Addr} {way:List Int} (h:σ wa=some (.list (way.map .int))) {k:Nat} (h1:1≤k) (h2:k≤way.length) (h3:k≤5) {dd:Nat} (q:Q (.int (way.getD (way.length-k) 0)) σ):WX w b dd (.ref wa) (.int (-(k:Nat))) σ Q:=by
 refine Ll h (ngz h1) (by rw [List.length_map]; exact ngk h2) (ng6 h3) (x:= .int (way.getD (way.length-k) 0)) ?_ q
 rw [List.length_map,show (-(k:Nat)+(way.length:Nat):Int).toNat=way.length-k from tnk,List.getElem?_map]
 have:way.length-k < way.length:=Nat.sub_lt (Nat.lt_of_succ_le (Nat.le_trans h1 h2)) (Nat.lt_of_succ_le h1)
 simp [this]
theorem Pf (hA:TA σ t T) {here:Int} {p:NA×PN} (hp:T.nodes.lookup here=some p) {wa:Addr} {way:List Int} (hwy:σ wa=some (.list (way.map .int))) (hfar:¬ T.fp t wa) (hwl:way.length≤1000)
  (hnd:(T.pure.nodes.map (·.1)).Nodup) (hz:T.pure.nodes.length≤1000) (hf:T.pure.free.length≤900)
  (hpar:Aw way= -1∨(Aw way≠ -1∧Aw way≠here∧∃ n,T.pure.nodes.lookup (Aw way)=some n))
  (habv:AN way= -1∨(AN way≠ -1∧AN way≠here∧AN way≠Aw way∧∃ n,T.pure.nodes.lookup (AN way)=some n))
  (q:∀ σ' T',TA σ' t T'→Fr' t T σ σ' T'→T'.pure=BE T.pure here way→Q .none σ') (hd:3≤d):WC w b d (.ref 516) [.ref t,.int here,.ref wa] σ Q:=by
 have hd:1≤d:=Nat.le_trans (by decide) hd
 have hn:=hA.nod _ _ hp
 have hlk:=Bz hp
 refine AR hB (dv:=[]) (D:=As 37 16) [S "self",S "here",S "way"] ?_ hd ?_
 ·exact bd3 fun U U U=>by rfl
 refine scA ?_
 refine eMe ?_
 refine eSu ?_
 refine aV hB TA.s ?_
 refine eV ?_
 refine AK (f:=kI) AB hA.na (Ao hp) ?_ trivial (dl (m:=3) (by assumption))
 refine Bq _ _ (mFn hB (f:=367) hn.1) (AW hB (by rfl)) ?_
 refine Ad ?_
 refine FO hB hn.1 hn.2 ?_ (dl (m:=3) (by assumption))
 rw [show (if p.2.c0= -1 then p.2.c1 else p.2.c0)=only p.2 from rfl]
 refine scA ?_
 refine WE.mono (Q:=fun mv s=>mv= .int (Aw way)∧s=σ) ?_ ?_
 ·refine eIf ?_
  refine tCm ?_
  refine cBu hB ?_
  refine Aq ?_
  refine E4 hwy (by rw [List.length_map]; exact Nat.le_of_lt (Nat.lt_of_le_of_lt hwl (by decide))) ?_
  rw [List.length_map]
  refine Ae ?_
  refine cLt ?_
  refine Ge (fun h=> ?_) (fun h=> ?_)
  ·refine eG hB ?_
   refine ⟨?_,rfl⟩
   unfold Aw
   rw [if_pos (Int.ofNat_lt.mp h)]; rfl
  ·refine eSu ?_
   refine eV ?_
   refine eUn ?_
   refine Ae ?_
   refine DP ?_
   refine Lk hB hwy (k:=2) (by decide) (Int.ofNat_le.mp (Int.not_lt.mp h)) (by decide) ⟨?_,rfl⟩
   unfold Aw
   rw [if_neg (Nat.not_lt_of_le (Int.ofNat_le.mp (Int.not_lt.mp h)))]
 rintro mv s ⟨rfl,rfl⟩
 refine scE ?_
 refine cM hB (f:=523) TA.s ?_
 refine Aq ?_
 refine Eb hB hA (hpar.imp id fun q0_=>by obtain ⟨h1,h2,n,h3⟩:=q0_; exact ⟨h1,let ⟨p',e,_⟩:=Ay h3; ⟨p',e⟩⟩) (fun σ1 T1 hA1 hF1 hP1=> ?_) (dl (m:=3) (by assumption))
 have hwy1:σ1 wa=some (.list (way.map .int)):=(hF1.keep wa (by rw [hwy]; exact fun c=>nomatch c) hfar).trans hwy
 have hfar1:¬ T1.fp t wa:=fun f=>(hF1.new wa f).elim hfar fun c=>by rw [hwy] at c; cases c
 have hpne:here≠Aw way∨Aw way= -1:=hpar.elim .inr fun h=> .inl h.2.1.symm
 obtain ⟨m1,hm1⟩:∃ m,T1.pure.nodes.lookup here=some m:=by rw [hP1]; exact EH hlk
 refine Af (Ay hm1) fun p1 hp1 U=> ?_
 have hk1:T1.nodes.map (·.1)=T.pure.nodes.map (·.1):=by rw [← FZ,hP1,Db]
 have hz1:T1.nodes.length≤1000:=by rw [Ku hk1]; exact hz
 have hf1:T1.free.length≤900:=by
  have:T1.pure.free=T.pure.free:=by rw [hP1,Fa]
  rw [show T1.free=T1.pure.free from rfl,this]; exact hf
 refine scE ?_
 refine cM hB (f:=480) hA1.self ?_
 refine Aq ?_
 refine GE hB hA1 hp1 (by rw [hk1]; exact hnd) hz1 (Nat.le_of_lt (Nat.lt_of_le_of_lt hf1 (by decide))) (fun σ2 T2 hA2 hF2 hP2=> ?_) (dl (m:=3) (by assumption))
 have hwy2:σ2 wa=some (.list (way.map .int)):=(hF2.keep wa (by rw [hwy1]; exact fun c=>nomatch c) hfar1).trans hwy1
 have hfar2:¬ T2.fp t wa:=fun f=>(hF2.new wa f).elim hfar1 fun c=>by rw [hwy1] at c; cases c
 have hF02:=hF1.trans hF2
 rw [hP1] at hP2
 have hsp:BE T.pure here way=if Aw way≠ -1∧only p.2= -1 then match T2.pure.nodes.lookup (Aw way) with
   | some m=>if m.slot= -1 then BX (Be T2.pure (AN way) (Aw way) (only m)) (Aw way) else T2.pure
   | none=>T2.pure
  else T2.pure:=by
  unfold BE
  rw [hlk]
  dsimp only
  rw [← hP2]
  try rfl
 have stop:BE T.pure here way=T2.pure→Q .none σ2:=fun e=>q _ _ hA2 hF02 e.symm
 refine scI ?_
 refine Lq ?_
 refine Dm ?_
 refine tCm ?_
 refine eV ?_
 refine eG hB ?_
 refine cNe ?_
 rcases hpar with hpar | ⟨hp1',hp2',n',hp3'⟩
 ·rw [if_neg (by rw [hpar]; decide)]
  rw [if_neg (by decide)]
  refine Ai ?_
  refine Ai ?_
  exact stop (by rw [hsp,if_neg (by intro c; exact c.1 hpar)])
 ·rw [if_pos (by simpa using hp1')]
  refine Dm ?_
  refine tCm ?_
  refine eV ?_
  refine eG hB ?_
  refine cEq ?_
  by_cases hch:only p.2= -1
  ·rw [if_pos (by rw [hch]; rfl)]
   obtain ⟨m,hm⟩:∃ m,T2.pure.nodes.lookup (Aw way)=some m:=by
    rw [hP2]
    unfold BX
    dsimp only
    rw [Ep (by rw [Db]; exact hnd),if_neg hp2']
    exact EH hp3'
   refine Af (Ay hm) fun p2 hp2 hpe2=> ?_
   have hn2:=hA2.nod _ _ hp2
   rw [hm] at hsp
   rw [if_pos ⟨hp1',hch⟩] at hsp
   refine Dm ?_
   refine H6 ?_
   refine GH ?_
   refine eMe ?_
   refine eSu ?_
   refine aV hB hA2.self ?_
   refine eV ?_
   refine AK (f:=kI) AB hA2.na (Ao hp2) ?_ trivial (dl (m:=3) (by assumption))
   refine Bq _ _ (mFn hB (f:=360) hn2.1) (AW hB (by rfl)) ?_
   refine Ad ?_
   refine B9 hB hn2.1 ?_ (dl (m:=3) (by assumption))
   refine AQ _ rfl ?_
   rw [hpe2]
   by_cases hsl:m.slot= -1
   ·rw [if_pos (by simp [hsl])]
    dsimp only at hsp
    rw [if_pos hsl] at hsp
    refine Pu ?_
    rw [if_pos rfl]
    refine scA ?_
    refine WE.mono (Q:=fun mv s=>mv= .int (AN way)∧s=σ2) ?_ ?_
    ·refine eIf ?_
     refine tCm ?_
     refine cBu hB ?_
     refine Aq ?_
     refine E4 hwy2 (by rw [List.length_map]; exact Nat.le_of_lt (Nat.lt_of_le_of_lt hwl (by decide))) ?_
     rw [List.length_map]
     refine Ae ?_
     refine cLt ?_
     refine Ge (fun h=> ?_) (fun h=> ?_)
     ·refine eG hB ?_
      refine ⟨?_,rfl⟩
      unfold AN
      rw [if_pos (Int.ofNat_lt.mp h)]; rfl
     ·refine eSu ?_
      refine eV ?_
      refine eUn ?_
      refine Ae ?_
      refine DP ?_
      refine Lk hB hwy2 (k:=3) (by decide) (nl3 h) (by decide) ⟨?_,rfl⟩
      unfold AN
      rw [if_neg (Nat.not_lt_of_le (nl3 h))]
    rintro mv s ⟨rfl,rfl⟩
    refine scE ?_
    refine cM hB (f:=523) hA2.self ?_
    refine lV ?_
    refine lV ?_
    refine lCo ?_
    refine eMe ?_
    refine eSu ?_
    refine aV hB hA2.self ?_
    refine eV ?_
    refine AK (f:=kI) AB hA2.na (Ao hp2) ?_ trivial (dl (m:=3) (by assumption))
    refine Bq _ _ (mFn hB (f:=367) hn2.1) (AW hB (by rfl)) ?_
    refine Ad ?_
    refine FO hB hn2.1 hn2.2 ?_ (dl (m:=3) (by assumption))
    rw [show (if p2.2.c0= -1 then p2.2.c1 else p2.2.c0)=only p2.2 from rfl,hpe2]
    refine Ad ?_
    have hab:AN way= -1∨(AN way≠ -1∧∃ p,T2.nodes.lookup (AN way)=some p):=habv.imp id fun ⟨h1,h2,h3,n,h4⟩=>⟨h1,by
     have:∃ m,T2.pure.nodes.lookup (AN way)=some m:=by
      rw [hP2]
      unfold BX
      dsimp only
      rw [Ep (by rw [Db]; exact hnd),if_neg h2]
      exact EH h4
     obtain ⟨m',hm'⟩:=this
     refine Af (Ay hm') fun p' e U=> ?_
     exact ⟨p',e⟩⟩
    refine Eb hB hA2 hab (fun σ3 T3 hA3 hF3 hP3=> ?_) (dl (m:=3) (by assumption))
    obtain ⟨m3,hm3⟩:∃ m,T3.pure.nodes.lookup (Aw way)=some m:=by rw [hP3]; exact EH hm
    refine Af (Ay hm3) fun p3 hp3 U=> ?_
    have hk2:T2.pure.nodes.map (·.1)=(T.pure.nodes.map (·.1)).erase here:=by
     rw [hP2]
     unfold BX
     dsimp only
     rw [Nv,Db]
    have hk3:T3.nodes.map (·.1)=(T.pure.nodes.map (·.1)).erase here:=by rw [← FZ,hP3,Db,hk2]
    have hz3:T3.nodes.length≤1000:=by
     have e1:=congrArg List.length hk3
     rw [List.length_map] at e1
     have e2:((T.pure.nodes.map (·.1)).erase here).length≤(T.pure.nodes.map (·.1)).length:=List.erase_sublist.length_le
     rw [List.length_map] at e2
     exact Nat.le_trans (Nat.le_trans (Nat.le_of_eq e1) e2) hz
    have hf3:T3.free.length≤1000:=by
     have:T3.pure.free=T.pure.free++[here]:=by
      rw [hP3,Fa,hP2]
      unfold BX
      dsimp only
      rw [Fa]
     rw [show T3.free=T3.pure.free from rfl,this]; simp; exact Nat.le_of_lt (Nat.lt_of_le_of_lt hf (by decide))
    refine scE ?_
    refine cM hB (f:=480) hA3.self ?_
    refine Aq ?_
    refine GE hB hA3 hp3 (by rw [hk3]; exact Jf hnd) hz3 hf3 (fun σ4 T4 hA4 hF4 hP4=> ?_) (dl (m:=3) (by assumption))
    refine Ai ?_
    refine Ai ?_
    exact q _ _ hA4 (hF02.trans (hF3.trans hF4)) (by rw [hP4,hP3,hsp])
   ·rw [if_neg (by simpa using hsl)]
    rw [if_neg (by decide)]
    dsimp only at hsp
    rw [if_neg hsl] at hsp
    refine Ai ?_
    refine Ai ?_
    exact stop hsp
  ·rw [if_neg (by simpa using hch)]
   rw [if_neg (by decide)]
   refine Ai ?_
   refine Ai ?_
   exact stop (by rw [hsp,if_neg (by intro c; exact hch c.2)])
end
noncomputable def Dk (P:TP) (p:Int×PN):TP:={P with used:=P.used.erase p.2.slot,nodes:=AA P.nodes p.1 {p.2 with slot:= -1}}
noncomputable def Fx (n:PN):Nat:=(if n.c0= -1 then 0 else 1)+(if n.c1= -1 then 0 else 1)
noncomputable def Gm (P:TP) (size l wo:Nat) (tr tr1:Tr):TP×Int:=if size < l then (P,-22) else match Au size l wo tr with
 | none=>(P,-2)
 | some p=>if p.2.slot= -1 then (P,-2) else (if Fx p.2 < 2 then BE (Dk P p) p.1 ((Ac size l wo tr1).map (·.1)) else Dk P p,0)
structure DelOk (P:TP) (size l wo:Nat) (tr tr1:Tr) (p:Int×PN):Prop where
 used:p.2.slot∈P.used
 shp:Shp (Dk P p) tr1 size
 nd:((Ac size l wo tr1).map (·.1)).Nodup
 last:((Ac size l wo tr1).map (·.1)).getLast?=some p.1
theorem J2 {way:List Int} {here:Int} (hn:way.Nodup) (hl:way.getLast?=some here) {k:Nat} (h1:1≤k) (h2:k < way.length):way.getD (way.length-1-k) 0∈way∧way.getD (way.length-1-k) 0≠here∧∀ j,1≤j→j < way.length→j≠k→way.getD (way.length-1-k) 0≠way.getD (way.length-1-j) 0:=by
 have hk:way.length-1-k < way.length:=Nat.sub_one_sub_lt_of_lt h2
 have hlast:way.length-1 < way.length:=Nat.sub_one_lt_of_lt hk
 have e:way.getD (way.length-1-k) 0=way[way.length-1-k]:=by simp [hk]
 have el:here=way[way.length-1]:=by
  rw [List.getLast?_eq_getElem?,List.getElem?_eq_getElem hlast] at hl
  exact (Option.some.inj hl).symm
 have inj:=List.pairwise_iff_getElem.mp hn
 refine ⟨by rw [e]; exact List.getElem_mem hk,?_,fun j j1 j2 ne=> ?_⟩
 ·rw [e,el]; exact inj _ _ hk hlast (Nat.sub_lt (Nat.add_lt_iff_lt_sub_right.mp (Nat.lt_of_le_of_lt h1 h2)) (Nat.lt_of_succ_le h1))
 ·have hj:way.length-1-j < way.length:=Nat.sub_lt_of_lt hlast
  have ej:way.getD (way.length-1-j) 0=way[way.length-1-j]:=by simp [hj]
  rw [e,ej]
  rcases Nat.lt_or_gt_of_ne ne with z | z
  ·exact inj _ _ hk hj (Nat.sub_lt_sub_left (Nat.lt_of_lt_of_le z (Nat.le_sub_one_of_lt h2)) z)
  ·exact (inj _ _ hj hk (Nat.sub_lt_sub_left (Nat.lt_of_lt_of_le z (Nat.le_sub_one_of_lt j2)) z)).symm
theorem LV {P:TP} {p:Int×PN} (h:P.nodes.lookup p.1=some p.2):(Dk P p).nodes.map (·.1)=P.nodes.map (·.1):=by
 unfold Dk
 dsimp only
 rw [BS,h]; rfl
section
variable {w:World} {b:Heap} (hB:BaseOk w b) {d:Nat} {σ:MS} {Q:MV→MS→Prop} {t:Addr} {T:TC} {size:Nat} {tr:Tr} {l wo:Nat}
include hB
theorem Ph (hA:TA σ t T) (hw:Wid T size) (hs:Shp T.pure tr size) (hl:l < 4294967296) (h2:wo < 2^size) {tr1:Tr} (hdel:l≤size→∀ p,Au size l wo tr=some p→p.2.slot≠ -1→DelOk T.pure size l wo tr tr1 p)
  (hnd:(T.pure.nodes.map (·.1)).Nodup) (hz:T.pure.nodes.length≤1000) (hf:T.pure.free.length≤900) (hu:T.used.length≤1000)
  (q:∀ σ' T',TA σ' t T'→Fr' t T σ σ' T'→T'.pure=(Gm T.pure size l wo tr tr1).1→Q (.int (Gm T.pure size l wo tr tr1).2) σ') (hd:6≤d):WC w b d (.ref 509) [.ref t,.bytes (BY size l wo)] σ Q:=by
 have hd:1≤d:=Nat.le_trans (by decide) hd
 refine AR hB (dv:=[]) (D:=As 37 15) [S "self",S "key"] ?_ hd ?_
 ·exact bd2 fun U U=>by rfl
 refine sCo ?_
 refine Lu [S "length",S "worth"] ?_
 refine cG hB ?_
 refine lCo ?_
 refine cM hB (f:=129) TA.s ?_
 refine Aq ?_
 refine Ds hB hA hw ?_ (dl (m:=6) (by assumption))
 refine Ad ?_
 refine CP hB hw.sz hl h2 (fun σ1 hE1=> ?_) (dl (m:=6) (by assumption))
 refine Cu _ rfl rfl ?_
 have hA1:=hA.ext hE1
 refine scI ?_
 refine tCm ?_
 refine eV ?_
 refine cM hB (f:=409) TA.s ?_
 refine Ad ?_
 refine CY hB hA1 hw ?_ (dl (m:=6) (by assumption))
 refine cGt ?_
 refine Ge (fun h=> ?_) (fun h=> ?_)
 ·refine scR ?_
  refine eUn ?_
  refine eG hB ?_
  refine DP ?_
  have e:Gm T.pure size l wo tr tr1=(T.pure,-22):=by unfold Gm; rw [if_pos (Int.ofNat_lt.mp h)]
  rw [e] at q
  exact q σ1 T hA1 (Fr'.ext hE1) rfl
 ·have hle:¬ size < l:=Nat.not_lt_of_le (Int.ofNat_le.mp (Int.not_lt.mp h))
  refine Ai ?_
  refine scA ?_
  refine cM hB (f:=445) TA.s ?_
  refine Aq ?_
  refine JQ hB hA1 hw hs hl h2 (fun σ2 hE2=> ?_) (dl (m:=6) (by assumption))
  have hA2:=hA1.ext hE2
  have hE02:=hE1.trans hE2
  refine scI ?_
  refine tOr ?_
  refine B0 ?_
  refine tCm ?_
  refine eV ?_
  refine eG hB ?_
  refine cEq ?_
  cases hex:Au size l wo tr with
  | none =>
   have e:Gm T.pure size l wo tr tr1=(T.pure,-2):=by unfold Gm; rw [if_neg hle,hex]
   rw [e] at q
   refine Ec (by decide) ?_
   refine scR ?_
   refine eUn ?_
   refine eG hB ?_
   refine DP ?_
   exact q σ2 T hA2 (Fr'.ext hE02) rfl
  | some p0 =>
   obtain ⟨i,n⟩:=p0
   refine Gj (Ey hs hex) fun hlk hid hlen U=> ?_
   refine Af (Ay hlk) fun p hp hpe=> ?_
   have hpe:p.2=n:=hpe
   have hn:=hA2.nod _ p hp
   refine B7 (by simpa [PZ] using hid) ?_
   refine B0 ?_
   refine H6 ?_
   refine GH ?_
   refine eMe ?_
   refine eSu ?_
   refine aV hB TA.s ?_
   refine eV ?_
   refine AK (f:=kI) AB hA2.na (Ao hp) ?_ trivial (dl (m:=6) (by assumption))
   refine Bq _ _ (mFn hB (f:=360) hn.1) (AW hB (by rfl)) ?_
   refine Ad ?_
   refine B9 hB hn.1 ?_ (dl (m:=6) (by assumption))
   refine AQ _ rfl ?_
   rw [hpe]
   by_cases hsl:n.slot= -1
   ·have e:Gm T.pure size l wo tr tr1=(T.pure,-2):=by unfold Gm; rw [if_neg hle,hex]; exact if_pos hsl
    rw [e] at q
    refine Ec (by simp [hsl]) ?_
    refine scR ?_
    refine eUn ?_
    refine eG hB ?_
    refine DP ?_
    exact q σ2 T hA2 (Fr'.ext hE02) rfl
   ·refine B7 (by simpa using hsl) ?_
    have D:=hdel (Nat.le_of_not_lt hle) (i,n) hex hsl
    have e:Gm T.pure size l wo tr tr1=(if Fx n < 2 then BE (Dk T.pure (i,n)) i ((Ac size l wo tr1).map (·.1)) else Dk T.pure (i,n),0):=by unfold Gm; rw [if_neg hle,hex]; exact if_neg hsl
    rw [e] at q
    refine Hj ?_
    refine Ai ?_
    refine scA ?_
    refine eSu ?_
    refine aV hB TA.s ?_
    refine eV ?_
    refine AK (f:=kI) AB hA2.na (Ao hp) ?_ trivial (dl (m:=6) (by assumption))
    refine scE ?_
    refine eMe ?_
    refine aV hB TA.s ?_
    refine Bq _ _ (DC (id:="list.remove") hA2.ua) (Ar _) ?_
    refine lCo ?_
    refine aV hB hn.1 ?_
    refine Ad ?_
    have hus:p.2.slot∈T.used:=by rw [hpe]; exact D.used
    refine P7 hA2.ua hus (Nat.le_of_lt (Nat.lt_of_le_of_lt hu (by decide))) ?_
    obtain ⟨hA3,hF3⟩:=hA2.setUsed (T.used.erase p.2.slot)
    generalize σ2.set T.ua (MO.list ((T.used.erase p.2.slot).map MV.int))=σ3 at hA3 hF3 ⊢
    have hn3:=hA3.nod _ p hp
    refine sCo ?_
    refine BV ?_
    refine eG hB ?_
    refine eV ?_
    refine BJ hB hn3.1 ?_
    obtain ⟨hA4,hF4⟩:=hA3.setSlot hp (-1)
    have hk4:(TC.putNode {T with used:=T.used.erase p.2.slot} i (p.1,{p.2 with slot:= -1})).kw=T.kw:=rfl
    have hl4:(TC.putNode {T with used:=T.used.erase p.2.slot} i (p.1,{p.2 with slot:= -1})).nodes.lookup i=some (p.1,{p.2 with slot:= -1}):=by unfold TC.putNode; dsimp only; rw [AE,if_pos rfl]
    have hP4:(TC.putNode {T with used:=T.used.erase p.2.slot} i (p.1,{p.2 with slot:= -1})).pure=Dk T.pure (i,n):=by rw [C2]; subst hpe; rfl
    generalize TC.putNode {T with used:=T.used.erase p.2.slot} i (p.1,{p.2 with slot:= -1})=T4 at hA4 hF4 hP4 hk4 hl4
    have hF04:Fr' t T σ _ T4:=(Fr'.ext hE02).trans (hF3.trans hF4)
    have hw4:=hw.of hk4
    generalize hx:σ3.set p.1.a (MO.inst 384 p.1.d _)=σ4
    rw [show σ3.set p.1.a (CM (p.1,{p.2 with slot:= -1}))=σ4 from hx] at hA4 hF04
    have hn4:=hA4.nod _ _ hl4
    have hlk4:=Bz hl4
    refine scI ?_
    refine tCm ?_
    refine cM hB (f:=374) hn4.1 ?_
    refine Ad ?_
    refine E6 hB hn4.1 hn4.2 ?_ (dl (m:=6) (by assumption))
    refine Ae ?_
    refine cLt ?_
    have hkn:((if p.2.c0= -1 then (0:Int) else 1)+(if p.2.c1= -1 then 0 else 1))=(Fx n:Nat):=by
     rw [← hpe]; unfold Fx
     split <;> split <;> rfl
    show if decide ((((if p.2.c0= -1 then (0:Int) else 1)+(if p.2.c1= -1 then 0 else 1))) < 2)=true then _ else _
    rw [hkn]
    refine Ge (fun h=> ?_) (fun h=> ?_)
    ·have hlt:Fx n < 2:=Int.ofNat_lt.mp h
     rw [if_pos hlt] at q
     refine scE ?_
     refine cM hB (f:=516) hA4.self ?_
     refine lV ?_
     refine lCo ?_
     refine cM hB (f:=430) hA4.self ?_
     refine Aq ?_
     have hs4:Shp T4.pure tr1 size:=by rw [hP4]; exact D.shp
     refine JL hB hA4 hw4 hs4.rep (fun i n e=>(hs4.ok i n e).1) hs4.dep (Nat.le_of_not_lt hle) h2 (fun σ5 c hE5 hc hcl=> ?_) (dl (m:=6) (by assumption))
     have hA5:=hA4.ext hE5
     have hcl':σ5 c=some (.list (((Ac size l wo tr1).map (·.1)).map .int)):=by rw [hcl,MY]
     have hwm:∀ x∈(Ac size l wo tr1).map (·.1),x≠ -1∧∃ n,T4.pure.nodes.lookup x=some n:=fun x hx=>by
      refine Af (List.mem_map.mp hx) fun y hy e_2=> ?_
      subst e_2
      exact ⟨(BR hs4.rep hy).2,_,(BR hs4.rep hy).1⟩
     have hpl:=En (size:=size) (l:=l) (w:=wo) tr1
     have hdp:=hs4.dep
     have hk1:T4.pure.nodes.map (·.1)=T.pure.nodes.map (·.1):=by rw [hP4]; exact LV hlk
     refine Ad ?_
     refine Pf hB hA5 hl4 hcl' (fun f=>hA4.there f hc) (by rw [List.length_map]; exact Nat.le_trans hpl hdp) (by rw [hk1]; exact hnd) (by rw [Ku hk1]; exact hz) (by rw [hP4]; exact hf) ?_ ?_ (fun σ6 T6 hA6 hF6 hP6=> ?_) (dl (m:=6) (by assumption))
     ·by_cases z:((Ac size l wo tr1).map (·.1)).length < 2
      ·exact .inl (by unfold Aw; rw [if_pos z])
      ·have hb:=J2 D.nd D.last (k:=1) (by decide) (Nat.lt_of_succ_le (Nat.le_of_not_lt z))
       have ep:Aw ((Ac size l wo tr1).map (·.1))=((Ac size l wo tr1).map (·.1)).getD (((Ac size l wo tr1).map (·.1)).length-1-1) 0:=by unfold Aw; rw [if_neg z]; rfl
       rw [ep]
       exact .inr ⟨(hwm _ hb.1).1,hb.2.1,(hwm _ hb.1).2⟩
     ·by_cases z:((Ac size l wo tr1).map (·.1)).length < 3
      ·exact .inl (by unfold AN; rw [if_pos z])
      ·have hb:=J2 D.nd D.last (k:=2) (by decide) (Nat.lt_of_succ_le (Nat.le_of_not_lt z))
       have ep:Aw ((Ac size l wo tr1).map (·.1))=((Ac size l wo tr1).map (·.1)).getD (((Ac size l wo tr1).map (·.1)).length-1-1) 0:=by unfold Aw; rw [if_neg (Nat.not_lt_of_le (Nat.add_one_le_add_one_iff.mp (Nat.le_trans (Nat.le_of_not_lt z) (Nat.le_add_right _ _))))]; rfl
       have ea:AN ((Ac size l wo tr1).map (·.1))=((Ac size l wo tr1).map (·.1)).getD (((Ac size l wo tr1).map (·.1)).length-1-2) 0:=by unfold AN; rw [if_neg z]; rfl
       rw [ea,ep]
       exact .inr ⟨(hwm _ hb.1).1,hb.2.1,hb.2.2 1 (by decide) (Nat.lt_of_succ_le (Nat.add_one_le_add_one_iff.mp (Nat.le_trans (Nat.le_of_not_lt z) (Nat.le_add_right _ _)))) (by decide),(hwm _ hb.1).2⟩
     ·refine Ai ?_
      refine scR ?_
      refine Ae ?_
      exact q _ _ hA6 (hF04.trans ((Fr'.ext hE5).trans hF6)) (by rw [hP6,hP4])
    ·have hlt:¬ Fx n < 2:=Nat.not_lt_of_le (nl2 h)
     rw [if_neg hlt] at q
     refine Ai ?_
     refine scR ?_
     refine Ae ?_
     exact q _ _ hA4 hF04 hP4
end
noncomputable def PT (P:TP) (s:Int) (x:Array UInt8):TP:={P with vals:=AA P.vals s x}
noncomputable def AD (P:TP) (x:Array UInt8):TP:={P with used:=P.used++[(Al P.used:Int)],vals:=AA P.vals (Al P.used) x}
theorem NZ {T:TC} {s:Int} {x:Array UInt8} (e:T.pure.vals.lookup s=some x):∃ a,T.vals.lookup s=some (a,x):=by
 have e:(T.vals.map fun p=>(p.1,p.2.2)).lookup s=some x:=e
 rw [Bx (fun q:Addr×Array UInt8=>q.2) s T.vals] at e
 obtain ⟨⟨a,y⟩,hp,rfl⟩:=Option.map_eq_some_iff.mp e
 exact ⟨a,hp⟩
theorem C8 {T:TC} {s:Int} {p:Addr×Array UInt8} (e:T.vals.lookup s=some p):T.pure.vals.lookup s=some p.2:=by
 show (T.vals.map fun p=>(p.1,p.2.2)).lookup s=some p.2
 rw [Bx (fun q:Addr×Array UInt8=>q.2) s T.vals,e]; rfl
theorem FX {T:TC} {s:Int} {p:Addr×Array UInt8}:(AA T.vals s p).map (fun p=>(p.1,p.2.2))=AA T.pure.vals s p.2:=ED (fun q:Addr×Array UInt8=>q.2) s p T.vals
section
variable {w:World} {b:Heap} (hB:BaseOk w b) {d:Nat} {σ:MS} {Q:MV→MS→Prop} {t:Addr} {T:TC} {size:Nat} {tr:Tr} {l wo:Nat}
include hB
theorem QD (hA:TA σ t T) {s:Int} {x:Array UInt8} (hx:x.size≤1000) (hsz:∀ y,T.pure.vals.lookup s=some y→y.size=x.size) (hvl:T.vals.length≤1000)
  (q:∀ σ' T',TA σ' t T'→Fr' t T σ σ' T'→T'.pure=PT T.pure s x→Q .none σ') (hd:2≤d):NC w b d (.ref 257) [.ref t,.int s,.bytes x] σ Q:=by
 have hd:1≤d:=Nat.le_trans (by decide) hd
 refine Lh hB (dv:=[]) (D:=As 24 19) [S "self",S "slot",S "octets"] ?_ hd ?_
 ·exact bd3 fun U U U=>by rfl
 refine AZ ?_
 refine Jd ?_
 refine WB.n ?_
 refine tCm ?_
 refine eV ?_
 refine aV hB TA.s ?_
 refine PW (f:=kI) AB hB hA.va ?_ trivial (dl (m:=2) (by assumption))
 cases e:T.vals.lookup s with
 | some p =>
  rw [EG e]
  refine Ec (by rfl) ?_
  refine AZ ?_
  refine PR ?_
  refine eV ?_
  refine AQ x rfl ?_
  refine eSu ?_
  refine aV hB TA.s ?_
  refine eV ?_
  refine AK (f:=kI) AB hA.va (EG e) ?_ trivial (dl (m:=2) (by assumption))
  obtain ⟨h1,h2⟩:=hA.setVal e x
  refine ⟨p.1,p.2,rfl,hA.val s p e,(hsz _ (C8 e)).symm,Nat.le_of_lt (Nat.lt_of_le_of_lt hx (by decide)),?_⟩
  refine WS.n ?_
  refine Ai ?_
  refine WS.n ?_
  refine Ai ?_
  refine q _ _ h1 h2 ?_
  exact congrArg (fun z=>({T.pure with vals:=z}:TP)) FX
 | none =>
  have hn:(DO T.vals).lookup s=none:=by
   unfold DO
   rw [Bx (fun q:Addr×Array UInt8=>MV.ref q.1) s T.vals,e]; rfl
  refine B7 (by rw [hn]; exact (by decide)) ?_
  refine AZ ?_
  refine Oo ?_
  refine Ji ?_
  refine Qf hB (by rfl) (by rfl) (by rfl) ?_
  refine Cu _ rfl Kv ?_
  refine nlW ?_
  refine eV ?_
  refine WL.n (Ad ?_)
  refine fBA (Nat.le_of_lt (Nat.lt_of_le_of_lt hx (by decide))) fun c hc=> ?_
  have hA1:=hA.ext (Ext.new (o:= .barr x) hc)
  refine aV hB TA.s ?_
  refine eV ?_
  refine IC (f:=kI) AB hA1.va (by simp [DO]; exact Nat.le_of_lt (Nat.lt_of_le_of_lt hvl (by decide))) (fun m hm=> ?_) trivial (dl (m:=2) (by assumption))
  obtain ⟨h1,h2⟩:=hA1.addVal (m:=m) e (MS.set_self ..) (fun f=>hA.there f hc)
  refine WS.n ?_
  refine Ai ?_
  refine WS.n ?_
  refine Ai ?_
  refine q _ _ h1 (h2 σ (Ext.new hc) hc) ?_
  exact congrArg (fun z=>({T.pure with vals:=z}:TP)) FX
theorem HL (hA:TA σ t T) {x:Array UInt8} (hx:x.size≤1000) (hsz:∀ y,T.pure.vals.lookup (Al T.used:Int)=some y→y.size=x.size) (hvl:T.vals.length≤1000) (hul:T.used.length≤1000)
  (q:∀ σ' T',TA σ' t T'→Fr' t T σ σ' T'→T'.pure=AD T.pure x→Q (.int (Al T.used)) σ') (hd:3≤d):NC w b d (.ref 466) [.ref t,.bytes x] σ Q:=by
 have hd:1≤d:=Nat.le_trans (by decide) hd
 refine Lh hB (dv:=[]) (D:=As 37 9) [S "self",S "octets"] ?_ hd ?_
 ·exact bd2 fun U U=>by rfl
 refine nsW ?_
 refine Cj ?_
 refine cM hB (f:=459) TA.s ?_
 refine Ad ?_
 refine JN hB hA hul ?_ (dl (m:=3) (by assumption))
 refine nsW ?_
 refine Qt ?_
 refine eMe ?_
 refine aV hB TA.s ?_
 refine Bq _ _ (DC (id:="list.append") hA.ua) (Ar _) ?_
 refine Aq ?_
 refine C3 hA.ua (by rw [List.length_map]; exact Nat.le_of_lt (Nat.lt_of_le_of_lt hul (by decide))) ?_
 obtain ⟨h1,h2⟩:=hA.setUsed (T.used++[(Al T.used:Int)])
 have e:(T.used++[(Al T.used:Int)]).map MV.int=T.used.map .int++[.int (Al T.used)]:=by rw [List.map_append]; rfl
 rw [e] at h1 h2
 generalize σ.set T.ua (MO.list (T.used.map MV.int++[MV.int (Al T.used)]))=σ1 at h1 h2 ⊢
 refine AZ ?_
 refine LE ?_
 refine DS ?_
 refine eV ?_
 refine Bq _ _ (mFn hB (f:=257) h1.self) (AW hB (by rfl)) ?_
 refine nlW ?_
 refine eV ?_
 refine nlW ?_
 refine eV ?_
 refine WL.n (Ad ?_)
 refine QD hB h1 hx hsz hvl (fun σ2 T2 hA2 hF2 hP2=> ?_) (dl (m:=3) (by assumption))
 refine WS.n ?_
 refine scR ?_
 refine eV ?_
 exact q _ _ hA2 (h2.trans hF2) hP2
end
noncomputable def AM (way:List (Int×PN)):Int:=match way.getLast? with
 | some p=>p.1
 | none=> -1
noncomputable def CL (size wo:Nat) (way:List (Int×PN)):Nat:=match way.getLast? with
 | some p=>AI size wo p.2.len
 | none=>0
noncomputable def DW (n:PN) (side:Nat):Int:=if side=0 then n.c0 else n.c1
noncomputable def BP (P:TP) (size wo:Nat) (way:List (Int×PN)):Int:=match way.getLast? with
 | some p=>DW p.2 (AI size wo p.2.len)
 | none=>P.root
noncomputable def BM (P:TP) (i:Int) (side:Nat) (c:Int):TP:=match P.nodes.lookup i with
 | some n=>{P with nodes:=AA P.nodes i (Aj n side c)}
 | none=>P
noncomputable def Hs (P:TP) (size l wo:Nat) (x:Array UInt8):TP:=Bv (AD P x) size l wo (Al P.used)
noncomputable def Id (P:TP) (size l wo:Nat) (x:Array UInt8) (tr:Tr):TP :=
 let way:=Ac size l wo tr
 let made:=Az (AD P x)
 let P2:=Hs P size l wo x
 if BP P size wo way= -1 then Co P2 (AM way) (CL size wo way) made else match P2.nodes.lookup (BP P size wo way) with
 | none=>P2
 | some node =>
  let common:=Av node.w wo (min node.len l) size
  if common=l then Co (BM P2 made (AI size node.w l) (BP P size wo way)) (AM way) (CL size wo way) made
  else Co (BM (BM (Bv P2 size common wo (-1)) (Az P2) (AI size wo common) made) (Az P2) (1-AI size wo common) (BP P size wo way)) (AM way) (CL size wo way) (Az P2)
set_option tactic.hygienic true in
theorem Gb {P:TP} {i c:Int} {s:Nat}:(BM P i s c).nodes.map (·.1)=P.nodes.map (·.1):=by
 unfold BM
 split
 ·rename_i n e
  dsimp only
  rw [BS,e]; rfl
 ·rfl
theorem Fy {P:TP} {i c x:Int} {s:Nat} {n:PN} (h:P.nodes.lookup x=some n):∃ m,(BM P i s c).nodes.lookup x=some m:=by
 unfold BM
 split
 ·dsimp only
  rw [AE]
  split
  ·exact ⟨_,rfl⟩
  ·exact ⟨n,h⟩
 ·exact ⟨n,h⟩
theorem Kl {P:TP} {size l wo:Nat} {s x:Int} {n:PN} (h:P.nodes.lookup x=some n):∃ m,(Bv P size l wo s).nodes.lookup x=some m:=by
 unfold Bv
 dsimp only
 rw [AE]
 split
 ·exact ⟨_,rfl⟩
 ·exact ⟨n,h⟩
theorem Kk {P:TP} {size l wo:Nat} {s:Int}:(Bv P size l wo s).nodes.lookup (Az P)=some ⟨l,cut size wo l,s,-1,-1⟩:=by
 unfold Bv
 dsimp only
 rw [AE,if_pos rfl]
theorem KP {β:Type} {k:Int} {v:β}:∀ l:List (Int×β),(AA l k v).length≤l.length+1
 | []=>Nat.le_refl _
 | (i,u)::r=>by
  unfold AA
  split
  ·simp
  ·have:=KP (k:=k) (v:=v) r
   simp only [List.length_cons]; exact Nat.add_le_add this (by decide)
theorem Ot {P:TP} {size l wo:Nat} {s:Int}:(Bv P size l wo s).nodes.length≤P.nodes.length+1:=KP _
theorem Nr {P:TP} {size l wo:Nat} {s:Int}:(Bv P size l wo s).free.length≤P.free.length:=by
 unfold Bv
 dsimp only
 rw [List.length_dropLast]; exact Nat.sub_le _ _
section
variable {w:World} {b:Heap} (hB:BaseOk w b) {d:Nat} {σ:MS} {Q:MV→MS→Prop} {t:Addr} {T:TC} {size:Nat} {tr:Tr} {l wo:Nat}
include hB
theorem Pg (hA:TA σ t T) (hw:Wid T size) (hs:Shp T.pure tr size) (hl:l≤size) (h2:wo < 2^size) {x:Array UInt8} (hx:x.size≤1000) (hsz:∀ y,T.pure.vals.lookup (Al T.used:Int)=some y→y.size=x.size)
  (hvl:T.vals.length≤1000) (hul:T.used.length≤1000) (hz:T.pure.nodes.length≤900) (hf:T.pure.free.length≤900)
  (hpar:∀ p,(Ac size l wo tr).getLast?=some p→p.2.len < size)
  (hno:T.pure.nodes.lookup (Az T.pure)=none)
  (hbel:BP T.pure size wo (Ac size l wo tr)= -1∨(BP T.pure size wo (Ac size l wo tr)≠ -1∧∃ n,T.pure.nodes.lookup (BP T.pure size wo (Ac size l wo tr))=some n∧(Av n.w wo (min n.len l) size=l→l < size)))
  (hno2:(Hs T.pure size l wo x).nodes.lookup (Az (Hs T.pure size l wo x))=none)
  (q:∀ σ' T',TA σ' t T'→Fr' t T σ σ' T'→T'.pure=Id T.pure size l wo x tr→Q .none σ') (hd:5≤d):NC w b d (.ref 502) [.ref t,.int l,.int wo,.bytes x] σ Q:=by
 have hd:1≤d:=Nat.le_trans (by decide) hd
 have hpl:=En (size:=size) (l:=l) (w:=wo) tr
 have hdp:=hs.dep
 have hnid:Az (AD T.pure x)=Az T.pure:=rfl
 refine Lh hB (dv:=[]) (D:=As 37 14) [S "self",S "length",S "worth",S "octets"] ?_ hd ?_
 ·exact bd4 fun U U U U=>by rfl
 refine nsW ?_
 refine Cj ?_
 refine cM hB (f:=430) TA.s ?_
 refine Aq ?_
 refine JL hB hA hw hs.rep (fun i n e=>(hs.ok i n e).1) hs.dep hl h2 (fun σ1 c hE1 hc hcl=> ?_) (dl (m:=5) (by assumption))
 rw [MY] at hcl
 have hA1:=hA.ext hE1
 refine nsW ?_
 refine Da [S "parent",S "side"] ?_
 refine eTu ?_
 refine lCo ?_
 refine eG hB ?_
 refine lI ?_
 refine Ad ?_
 refine ⟨rfl,_,rfl,rfl,?_⟩
 refine nsW ?_
 refine WS.mono (Q:=fun mf ρ1 σ2=>mf= .next∧Sub [(S "self",.ref t),(S "length",.int l),(S "worth",.int wo),(S "octets",.bytes x),(S "parent",.int (AM (Ac size l wo tr))),(S "side",.int (CL size wo (Ac size l wo tr)))] ρ1∧Ext σ σ2) ?_ ?_
 ·refine sIf ?_
  refine tCm ?_
  refine eV ?_
  refine BW ?_
  refine Ad ?_
  refine ⟨rfl,fun c2 hc2=> ?_⟩
  have hE2:Ext σ (σ1.set c2 (.list [])):=hE1.step hc2
  have hcl2:(σ1.set c2 (.list [])) c=_:=MS.set_old hc2 hcl
  refine Kw hcl2 (MS.set_self ..) ?_ (by rw [Dr]; show 0+1≤8*(d-1); exact n8 ‹5≤d›) (Bd _ []) (Bd _ _)
  rw [EA]
  have hA2:=hA.ext hE2
  cases hlast:(Ac size l wo tr).getLast? with
  | none =>
   have hnil:=List.getLast?_eq_none_iff.mp hlast
   rw [if_neg (by rw [hnil]; decide)]
   refine Ai ?_
   have e1:AM (Ac size l wo tr)= -1:=by unfold AM; rw [hlast]
   have e2:CL size wo (Ac size l wo tr)=0:=by unfold CL; rw [hlast]
   rw [e1,e2]
   exact Cv rfl (Sub.cons (by rfl) (Sub.cons (by rfl) (Sub.cons (by rfl) (Sub.cons (by rfl) (Sub.cons (by rfl) (Sub.cons (by rfl) (Sub.nil))))))) hE2
  | some p0 =>
   have hne:Ac size l wo tr≠[]:=fun e=>by rw [e] at hlast; cases hlast
   obtain ⟨hlk,hid⟩:=BR hs.rep (List.mem_of_getLast? hlast)
   refine Af (Ay hlk) fun p hp hpe=> ?_
   have hn:=hA2.nod _ p hp
   have e1:AM (Ac size l wo tr)=p0.1:=by unfold AM; rw [hlast]
   have e2:CL size wo (Ac size l wo tr)=AI size wo p0.2.len:=by unfold CL; rw [hlast]
   have hlen:1≤((Ac size l wo tr).map (·.1)).length:=by rw [List.length_map]; exact List.length_pos_iff.mpr hne
   have hgd:((Ac size l wo tr).map (·.1)).getD (((Ac size l wo tr).map (·.1)).length-1) 0=p0.1:=by
    rw [List.getLast?_eq_getElem?] at hlast
    rw [List.getD_eq_getElem?_getD,List.length_map,List.getElem?_map,hlast]; rfl
   rw [if_pos (by simpa using hne)]
   refine scA ?_
   refine eSu ?_
   refine eV ?_
   refine eUn ?_
   refine Ae ?_
   refine DP ?_
   refine Lk hB hcl2 (k:=1) (by decide) hlen (by decide) ?_
   rw [hgd]
   refine scA ?_
   refine cG hB ?_
   refine lV ?_
   refine lCo ?_
   refine Fd ?_
   refine eSu ?_
   refine aV hB TA.s ?_
   refine eV ?_
   refine AK (f:=kI) AB hA2.na (Ao hp) ?_ trivial (dl (m:=5) (by assumption))
   refine Dg hB hn.1 (by rfl) ?_
   refine lCo ?_
   refine cM hB (f:=409) TA.s ?_
   refine Ad ?_
   refine CY hB hA2 hw ?_ (dl (m:=5) (by assumption))
   refine Ad ?_
   rw [hpe]
   refine Cr hB (hpar _ hlast) ?_ (dl (m:=5) (by assumption))
   refine Ai ?_
   rw [e1,e2]
   exact Cv rfl (Sub.cons (by rfl) (Sub.cons (by rfl) (Sub.cons (by rfl) (Sub.cons (by rfl) (Sub.cons (by rfl) (Sub.cons (by rfl) (Sub.nil))))))) hE2
 rintro mf ρ1 σ2 ⟨rfl,hsub,hE2⟩
 refine NS.sub ?_ hsub
 have hA2:=hA.ext hE2
 refine nsW ?_
 refine Cj ?_
 refine WE.mono (Q:=fun mv s=>mv= .int (BP T.pure size wo (Ac size l wo tr))∧s=σ2) ?_ ?_
 ·refine eIf ?_
  refine tCm ?_
  refine eV ?_
  refine eG hB ?_
  refine cEq ?_
  cases hlast:(Ac size l wo tr).getLast? with
  | none =>
   have e1:AM (Ac size l wo tr)= -1:=by unfold AM; rw [hlast]
   rw [e1,if_pos (by decide)]
   refine aV hB TA.s ?_
   exact ⟨by unfold BP; rw [hlast]; rfl,rfl⟩
  | some p0 =>
   obtain ⟨hlk,hid⟩:=BR hs.rep (List.mem_of_getLast? hlast)
   refine Af (Ay hlk) fun p hp hpe=> ?_
   have hn:=hA2.nod _ p hp
   have e1:AM (Ac size l wo tr)=p0.1:=by unfold AM; rw [hlast]
   have e2:CL size wo (Ac size l wo tr)=AI size wo p0.2.len:=by unfold CL; rw [hlast]
   rw [e1,e2,if_neg (by simpa using hid)]
   refine eSu ?_
   refine Fd ?_
   refine eSu ?_
   refine aV hB TA.s ?_
   refine eV ?_
   refine AK (f:=kI) AB hA2.na (Ao hp) ?_ trivial (dl (m:=5) (by assumption))
   refine Dg hB hn.1 (by rfl) ?_
   refine eV ?_
   have e3:BP T.pure size wo (Ac size l wo tr)=DW p.2 (AI size wo p0.2.len):=by unfold BP; rw [hlast,hpe]
   rw [e3]
   rcases Dt size wo p0.2.len with z | z
   ·rw [z]
    exact Bm hn.2 (by decide) (by decide) (by rfl) ⟨rfl,rfl⟩
   ·rw [z]
    exact Bm hn.2 (by decide) (by decide) (by rfl) ⟨rfl,rfl⟩
 rintro mv s ⟨rfl,rfl⟩
 refine AZ ?_
 refine Kj ?_
 refine DS ?_
 refine eV ?_
 refine Bq _ _ (mFn hB (f:=473) hA2.self) (AW hB (by rfl)) ?_
 refine nlW ?_
 refine eV ?_
 refine nlW ?_
 refine eV ?_
 refine LF ?_
 refine DS ?_
 refine eV ?_
 refine Bq _ _ (mFn hB (f:=466) hA2.self) (AW hB (by rfl)) ?_
 refine nlW ?_
 refine eV ?_
 refine WL.n (Ad ?_)
 refine HL hB hA2 hx hsz hvl hul (fun σ3 T3 hA3 hF3 hP3=> ?_) (dl (m:=5) (by assumption))
 have hw3:Wid T3 size:=hw.of (by have:=congrArg TP.kw hP3; exact this)
 have hn3:T3.pure.nodes=T.pure.nodes:=by rw [hP3]; rfl
 have hfr3:T3.pure.free=T.pure.free:=by rw [hP3]; rfl
 have hid3:Az T3.pure=Az T.pure:=by rw [hP3]; rfl
 refine WL.n (Ad ?_)
 refine WC.n ?_
 refine HM hB hA3 hw3 hl h2 (by rw [hid3,hn3]; exact hno) (by rw [Fn,hn3]; exact Nat.le_of_lt (Nat.lt_of_le_of_lt hz (by decide))) (by rw [show T3.free=T3.pure.free from rfl,hfr3]; exact Nat.le_of_lt (Nat.lt_of_le_of_lt hf (by decide))) (fun σ4 T4 hA4 hF4 hP4=> ?_) (dl (m:=5) (by assumption))
 have hF04:Fr' t T σ σ4 T4:=(Fr'.ext hE2).trans (hF3.trans hF4)
 have hP4':T4.pure=Hs T.pure size l wo x:=by rw [hP4,hP3]; rfl
 have hw4:Wid T4 size:=hw.of (by have:=congrArg TP.kw hP4'; exact this)
 rw [hid3]
 generalize hmade:Az T.pure=made at hno ⊢
 have hlm:T4.pure.nodes.lookup made=some ⟨l,cut size wo l,Al T.used,-1,-1⟩:=by
  rw [hP4']
  have:=Kk (P:=AD T.pure x) (size:=size) (l:=l) (wo:=wo) (s:=Al T.used)
  rw [hnid,hmade] at this
  exact this
 refine WS.n ?_
 have hparT:∀ T5:TC,(∀ y n,T.pure.nodes.lookup y=some n→∃ m,T5.pure.nodes.lookup y=some m)→AM (Ac size l wo tr)= -1∨(AM (Ac size l wo tr)≠ -1∧∃ p,T5.nodes.lookup (AM (Ac size l wo tr))=some p):=fun T5 k=>by
  cases hlast:(Ac size l wo tr).getLast? with
  | none=>exact .inl (by unfold AM; rw [hlast])
  | some p0 =>
   obtain ⟨hlk,hid⟩:=BR hs.rep (List.mem_of_getLast? hlast)
   have e1:AM (Ac size l wo tr)=p0.1:=by unfold AM; rw [hlast]
   rw [e1]
   obtain ⟨m,hm⟩:=k _ _ hlk
   refine Af (Ay hm) fun p hp U=> ?_
   exact .inr ⟨hid,p,hp⟩
 have hside:CL size wo (Ac size l wo tr)=0∨CL size wo (Ac size l wo tr)=1:=by
  unfold CL
  split
  ·exact Dt ..
  ·exact .inl rfl
 have has4:∀ y n,T.pure.nodes.lookup y=some n→∃ m,T4.pure.nodes.lookup y=some m:=fun y n e=>by rw [hP4']; exact Kl (P:=AD T.pure x) e
 have hmade0:Az (AD T.pure x)=made:=hnid.trans hmade
 refine scI ?_
 refine tCm ?_
 refine eV ?_
 refine eG hB ?_
 refine cEq ?_
 rcases hbel with hbel | ⟨hb1,nb,hb2,hb3⟩
 ·rw [hbel,if_pos (by decide)]
  refine scE ?_
  refine cM hB (f:=487) hA4.self ?_
  refine Aq ?_
  refine Me hB hA4 (hparT T4 has4) hside (fun σ5 T5 hA5 hF5 hP5=> ?_) (dl (m:=5) (by assumption))
  refine sCo ?_
  refine Mw ?_
  refine q _ _ hA5 (hF04.trans hF5) ?_
  unfold Id
  rw [if_pos hbel,hmade0,hP5,hP4']
 ·rw [if_neg (by simpa using hb1)]
  generalize hbw:BP T.pure size wo (Ac size l wo tr)=below at hb1 hb2 ⊢
  have hbm:below≠made:=fun e=>by rw [e,hno] at hb2; cases hb2
  have hlb:T4.pure.nodes.lookup below=some nb:=by
   rw [hP4']
   show (AA T.pure.nodes (Az (AD T.pure x)) _).lookup below=_
   rw [hmade0,AE,if_neg hbm]; exact hb2
  refine Af (Ay hlb) fun pb hpb hpbe=> ?_
  have hnb:=hA4.nod _ _ hpb
  have hwb:=(hs.ok _ _ hb2).1
  have hins:Id T.pure size l wo x tr=if Av nb.w wo (min nb.len l) size=l then Co (BM T4.pure made (AI size nb.w l) below) (AM (Ac size l wo tr)) (CL size wo (Ac size l wo tr)) made
    else Co (BM (BM (Bv T4.pure size (Av nb.w wo (min nb.len l) size) wo (-1)) (Az T4.pure) (AI size wo (Av nb.w wo (min nb.len l) size)) made) (Az T4.pure) (1-AI size wo (Av nb.w wo (min nb.len l) size)) below) (AM (Ac size l wo tr)) (CL size wo (Ac size l wo tr)) (Az T4.pure):=by
   unfold Id
   dsimp only
   rw [hbw,if_neg hb1,hmade0,←hP4',hlb]
  have hcl:Av nb.w wo (min nb.len l) size≤l:=by unfold Av; exact Nat.le_trans (Nat.min_le_left _ _) (Nat.min_le_right _ _)
  refine Ai ?_
  refine scA ?_
  refine eSu ?_
  refine aV hB hA4.self ?_
  refine eV ?_
  refine AK (f:=kI) AB hA4.na (Ao hpb) ?_ trivial (dl (m:=5) (by assumption))
  refine scA ?_
  refine cM hB (f:=423) hA4.self ?_
  refine Aq ?_
  refine K2 hB hA4 hw4 hnb.1 (by rw [hpbe]; exact hwb) h2 (fun σ5 hE5=> ?_) (dl (m:=5) (by assumption))
  rw [hpbe]
  have hA5:=hA4.ext hE5
  have hF05:=hF04.trans (Fr'.ext hE5)
  have hnb5:=hA5.nod _ _ hpb
  refine scI ?_
  refine tCm ?_
  refine eV ?_
  refine eV ?_
  refine cEq ?_
  by_cases hcm:Av nb.w wo (min nb.len l) size=l
  ·rw [if_pos hcm] at hins
   rw [hcm,if_pos (by simp)]
   refine sCo ?_
   refine D9 ?_
   refine eV ?_
   refine Fd ?_
   refine eSu ?_
   refine aV hB hA5.self ?_
   refine eV ?_
   refine Af (Ay hlm) fun pm hpm U=> ?_
   refine AK (f:=kI) AB hA5.na (Ao hpm) ?_ trivial (dl (m:=5) (by assumption))
   refine Dg hB (hA5.nod _ _ hpm).1 (by rfl) ?_
   refine cG hB ?_
   refine lCo ?_
   refine aV hB hnb5.1 ?_
   refine lV ?_
   refine lCo ?_
   refine cM hB (f:=409) hA5.self ?_
   refine Ad ?_
   refine CY hB hA5 hw4 ?_ (dl (m:=5) (by assumption))
   refine Ad ?_
   rw [hpbe]
   refine Cr hB (hb3 hcm) ?_ (dl (m:=5) (by assumption))
   refine Ha hB hA5 hpm (Dt ..) fun σ6 T6 hA6 hF6 hP6=> ?_
   have hP6:T6.pure=BM T4.pure made (AI size nb.w l) below:=by
    rw [hP6]; unfold BM; rw [Bz hpm]
   refine scE ?_
   refine cM hB (f:=487) hA6.self ?_
   refine Aq ?_
   refine Me hB hA6 (hparT T6 fun y n e=>by rw [hP6]; obtain ⟨m,hm⟩:=has4 y n e; exact Fy hm) hside (fun σ7 T7 hA7 hF7 hP7=> ?_) (dl (m:=5) (by assumption))
   refine sCo ?_
   refine Mw ?_
   exact q _ _ hA7 (hF05.trans (hF6.trans hF7)) (by rw [hP7,hP6,hins])
  ·rw [if_neg hcm] at hins
   rw [if_neg (by simp; exact Nat.ToInt.of_diseq rfl rfl hcm)]
   generalize hcom:Av nb.w wo (min nb.len l) size=common at hcm hcl hins ⊢
   have hcs:common < size:=by lia
   refine Ai ?_
   refine scA ?_
   refine cM hB (f:=473) hA5.self ?_
   refine lV ?_
   refine lV ?_
   refine lCo ?_
   refine eG hB ?_
   refine Ad ?_
   have hz4:T4.nodes.length≤1000:=by
    rw [Fn,hP4']
    have:=Ot (P:=AD T.pure x) (size:=size) (l:=l) (wo:=wo) (s:=Al T.used)
    have e:(AD T.pure x).nodes.length=T.pure.nodes.length:=rfl
    show (Bv (AD T.pure x) size l wo (Al T.pure.used)).nodes.length≤1000
    have e2:T.pure.used=T.used:=rfl
    rw [e2]; exact Nat.le_trans (Nat.le_trans this (Nat.add_le_add_right (Nat.le_trans (Nat.le_of_eq e) hz) _)) (by decide)
   have hf4:T4.free.length≤1000:=by
    rw [show T4.free=T4.pure.free from rfl,hP4']
    have:=Nr (P:=AD T.pure x) (size:=size) (l:=l) (wo:=wo) (s:=Al T.used)
    have e:(AD T.pure x).free.length=T.pure.free.length:=rfl
    show (Bv (AD T.pure x) size l wo (Al T.pure.used)).free.length≤1000
    have e2:T.pure.used=T.used:=rfl
    rw [e2]; exact Nat.le_trans (Nat.le_trans (Nat.le_trans this (Nat.le_of_eq e)) hf) (by decide)
   refine HM hB hA5 hw4 (Nat.le_of_lt hcs) h2 (by rw [hP4']; exact hno2) hz4 hf4 (fun σ6 T6 hA6 hF6 hP6=> ?_) (dl (m:=5) (by assumption))
   have hw6:Wid T6 size:=hw4.of (by have:=congrArg TP.kw hP6; exact this)
   have hF06:=hF05.trans hF6
   have hlf:T6.pure.nodes.lookup (Az T4.pure)=some ⟨common,cut size wo common,-1,-1,-1⟩:=by rw [hP6]; exact Kk
   refine scA ?_
   refine cG hB ?_
   refine lV ?_
   refine lV ?_
   refine lCo ?_
   refine cM hB (f:=409) hA6.self ?_
   refine Ad ?_
   refine CY hB hA6 hw6 ?_ (dl (m:=5) (by assumption))
   refine Ad ?_
   refine Cr hB hcs ?_ (dl (m:=5) (by assumption))
   refine Af (Ay hlf) fun pf hpf U=> ?_
   refine sCo ?_
   refine D9 ?_
   refine eV ?_
   refine Fd ?_
   refine eSu ?_
   refine aV hB hA6.self ?_
   refine eV ?_
   refine AK (f:=kI) AB hA6.na (Ao hpf) ?_ trivial (dl (m:=5) (by assumption))
   refine Dg hB (hA6.nod _ _ hpf).1 (by rfl) ?_
   refine eV ?_
   refine Ha hB hA6 hpf (Dt ..) fun σ7 T7 hA7 hF7 hP7=> ?_
   have hP7:T7.pure=BM T6.pure (Az T4.pure) (AI size wo common) made:=by
    rw [hP7]; unfold BM; rw [Bz hpf]
   obtain ⟨mf,hmf⟩:∃ m,T7.pure.nodes.lookup (Az T4.pure)=some m:=by rw [hP7]; exact Fy hlf
   refine Af (Ay hmf) fun pg hpg U=> ?_
   have hone:((1:Int)-(AI size wo common:Nat))=((1-AI size wo common:Nat):Int):=by
    rcases Dt size wo common with z | z <;> rw [z] <;> rfl
   refine sCo ?_
   refine D9 ?_
   refine eV ?_
   refine Fd ?_
   refine eSu ?_
   refine aV hB hA7.self ?_
   refine eV ?_
   refine AK (f:=kI) AB hA7.na (Ao hpg) ?_ trivial (dl (m:=5) (by assumption))
   refine Dg hB (hA7.nod _ _ hpg).1 (by rfl) ?_
   refine eBi ?_
   refine Ae ?_
   refine eV ?_
   refine CZ ?_
   show WSt w b _ _ (MV.int ((1:Int)-(AI size wo common:Nat))) _ _ _
   rw [hone]
   refine Ha hB hA7 hpg (by rcases Dt size wo common with z | z <;> rw [z] <;> simp) fun σ8 T8 hA8 hF8 hP8=> ?_
   have hP8:T8.pure=BM T7.pure (Az T4.pure) (1-AI size wo common) below:=by
    rw [hP8]; unfold BM; rw [Bz hpg]
   refine scE ?_
   refine cM hB (f:=487) hA8.self ?_
   refine Aq ?_
   refine Me hB hA8 (hparT T8 fun y n e=>by
    obtain ⟨m,hm⟩:=has4 y n e
    rw [hP8,hP7,hP6]
    obtain ⟨m2,hm2⟩:=Kl (size:=size) (l:=common) (wo:=wo) (s:= -1) hm
    obtain ⟨m3,hm3⟩:=Fy (i:=Az T4.pure) (c:=made) (s:=AI size wo common) hm2
    exact Fy hm3) hside (fun σ9 T9 hA9 hF9 hP9=> ?_) (dl (m:=5) (by assumption))
   refine Ai ?_
   exact q _ _ hA9 (hF06.trans (hF7.trans (hF8.trans hF9))) (by rw [hP9,hP8,hP7,hP6,hins])
end
noncomputable def Bi (f:Int) (there:Bool):Int:=if f=0 then 0 else if f=1 then (if there=true then -17 else 0) else if f=2 then (if there=true then 0 else -2) else -22
noncomputable def G5 (P:TP) (size l wo:Nat) (x:Array UInt8) (f:Int) (tr:Tr):TP×Int :=
 if size < l then (P,-22) else
 if Bi f (BB (Au size l wo tr)).isSome≠0 then (P,Bi f (BB (Au size l wo tr)).isSome) else
 match BB (Au size l wo tr) with
 | some s=>(PT P s x,0)
 | none=>if P.most≤P.used.length then (P,-28) else match Au size l wo tr with
  | some p=>({AD P x with nodes:=AA P.nodes p.1 {p.2 with slot:=Al P.used}},0)
  | none=>(Id P size l wo x tr,0)
structure InsOk (P:TP) (size l wo:Nat) (x:Array UInt8) (tr:Tr):Prop where
 par:∀ p,(Ac size l wo tr).getLast?=some p→p.2.len < size
 no:P.nodes.lookup (Az P)=none
 bel:BP P size wo (Ac size l wo tr)= -1∨(BP P size wo (Ac size l wo tr)≠ -1∧∃ n,P.nodes.lookup (BP P size wo (Ac size l wo tr))=some n∧(Av n.w wo (min n.len l) size=l→l < size))
 no2:(Hs P size l wo x).nodes.lookup (Az (Hs P size l wo x))=none
section
variable {w:World} {b:Heap} (hB:BaseOk w b) {d:Nat} {σ:MS} {Q:MV→MS→Prop} {t:Addr} {T:TC} {size:Nat} {tr:Tr} {l wo:Nat}
include hB
theorem HN {f:Int} {there:Bool} (q:Q (.int (Bi f there)) σ) (hd2:2≤d):WC w b d (.ref 304) [.int f,.bool there] σ Q:=by
 have hd:1≤d:=Nat.le_trans (by decide) hd2
 refine AR hB (dv:=[]) (D:=AO 25) [S "flags",S "is_there"] ?_ hd ?_
 ·exact bd2 fun U U=>by rfl
 refine scI ?_
 refine tCm ?_
 refine eV ?_
 refine eTu ?_
 refine lCo ?_
 refine eG hB ?_
 refine lCo ?_
 refine eG hB ?_
 refine lCo ?_
 refine eG hB ?_
 refine Ad ?_
 refine ⟨rfl,?_⟩
 have hany:([MV.int 0,.int 1,.int 2].any fun m=>eqM m (.int f))=decide (f=0∨f=1∨f=2):=by
  show ((0:Int)==f || ((1:Int)==f || ((2:Int)==f || false)))=_
  rw [Bool.or_false,Bool.eq_iff_iff]
  simp only [Bool.or_eq_true,beq_iff_eq,decide_eq_true_eq]
  constructor
  ·rintro (h | h | h)
   ·exact .inl h.symm
   ·exact .inr (.inl h.symm)
   ·exact .inr (.inr h.symm)
  ·rintro (h | h | h)
   ·exact .inl h.symm
   ·exact .inr (.inl h.symm)
   ·exact .inr (.inr h.symm)
 refine MP (xs:=[.int 0,.int 1,.int 2]) ?_ (by show 0+1≤8*(d-1); exact n8 hd2 (Nat.le_of_lt_succ (by decide))) (by rfl) (fun m hm=>by
  simp only [List.mem_cons,List.not_mem_nil,or_false] at hm
  rcases hm with rfl | rfl | rfl <;> rfl)
 rw [hany]
 by_cases h:f=0∨f=1∨f=2
 ·rw [if_neg (by simp [h])]
  refine Ai ?_
  refine scI ?_
  refine Lq ?_
  refine Dm ?_
  refine tCm ?_
  refine eV ?_
  refine eG hB ?_
  refine cEq ?_
  refine Kx (fun h=> ?_) (fun h=> ?_)
  ·refine Dm ?_
   refine GH ?_
   refine eV ?_
   refine AQ _ rfl ?_
   cases there with
   | true =>
    rw [if_pos rfl]
    refine Pu ?_
    rw [if_pos rfl]
    refine scR ?_
    refine eBi ?_
    refine Ae ?_
    refine eG hB ?_
    refine CZ ?_
    have:Bi f true= -17:=by unfold Bi; rw [if_neg (by lia),if_pos (by lia),if_pos rfl]
    rw [this] at q
    exact q
   | false =>
    rw [if_neg (by decide),if_neg (by decide)]
    refine Ai ?_
    refine scI ?_
    refine Lq ?_
    refine Dm ?_
    refine tCm ?_
    refine eV ?_
    refine eG hB ?_
    refine cEq ?_
    rw [if_neg (by simp; exact Nat.ToInt.of_diseq (Eq.symm h) rfl (by decide)),if_neg (by decide)]
    refine Ai ?_
    refine scR ?_
    refine Ae ?_
    have:Bi f false=0:=by unfold Bi; rw [if_neg (by lia),if_pos (by lia),if_neg (by decide)]
    rw [this] at q
    exact q
  ·rw [if_neg (by decide)]
   refine Ai ?_
   refine scI ?_
   refine Lq ?_
   refine Dm ?_
   refine tCm ?_
   refine eV ?_
   refine eG hB ?_
   refine cEq ?_
   refine Kx (fun h=> ?_) (fun h=> ?_)
   ·refine Dm ?_
    refine H6 ?_
    refine GH ?_
    refine eV ?_
    refine AQ _ rfl ?_
    cases there with
    | true =>
     rw [if_neg (by decide),if_neg (by decide)]
     refine Ai ?_
     refine scR ?_
     refine Ae ?_
     have:Bi f true=0:=by unfold Bi; rw [if_neg (by lia),if_neg (by lia),if_pos (by lia),if_pos rfl]
     rw [this] at q
     exact q
    | false =>
     rw [if_pos (by decide)]
     refine Pu ?_
     rw [if_pos rfl]
     refine scR ?_
     refine eBi ?_
     refine Ae ?_
     refine eG hB ?_
     refine CZ ?_
     have:Bi f false= -2:=by unfold Bi; rw [if_neg (by lia),if_neg (by lia),if_pos (by lia),if_neg (by decide)]
     rw [this] at q
     exact q
   ·rw [if_neg (by decide)]
    refine Ai ?_
    refine scR ?_
    refine Ae ?_
    have:Bi f there=0:=by unfold Bi; rw [if_pos (by lia)]
    rw [this] at q
    exact q
 ·rw [if_pos (by simp [h])]
  refine scR ?_
  refine eBi ?_
  refine Ae ?_
  refine eG hB ?_
  refine CZ ?_
  have:Bi f there= -22:=by unfold Bi; rw [if_neg (by lia),if_neg (by lia),if_neg (by lia)]
  rw [this] at q
  exact q
theorem Pd (hA:TA σ t T) (hw:Wid T size) (hs:Shp T.pure tr size) (hl:l < 4294967296) (h2:wo < 2^size) {x:Array UInt8} (hx:(x.size:Int)=T.vw) (hx2:x.size≤1000) (hsz:∀ s y,T.pure.vals.lookup s=some y→y.size=x.size)
  (hvl:T.vals.length≤1000) (hul:T.used.length≤1000) (hz:T.pure.nodes.length≤900) (hf:T.pure.free.length≤900) (hins:l≤size→Au size l wo tr=none→InsOk T.pure size l wo x tr) {f:Int}
  (q:∀ σ' T',TA σ' t T'→Fr' t T σ σ' T'→T'.pure=(G5 T.pure size l wo x f tr).1→Q (.int (G5 T.pure size l wo x f tr).2) σ') (hd:7≤d):NC w b d (.ref 495) [.ref t,.bytes (BY size l wo),.bytes x,.int f] σ Q:=by
 have hd:1≤d:=Nat.le_trans (by decide) hd
 refine Lh hB (dv:=[.int 0]) (D:=As 37 13) [S "self",S "key",S "octets",S "flags",S "processor"] ?_ hd ?_
 ·rintro s vs st ⟨v0,_,rfl,_,v1,_,rfl,_,v2,_,rfl,_,v3,_,rfl,_,rfl⟩
  exact AQ _ ⟨_,_,rfl,⟨_,rfl⟩,rfl⟩ (BindsTo.of_defaults rfl (st _ _ (hB.top.K 488 _ (by rfl))) rfl (by rfl) (by rfl))
 refine nsW ?_
 refine Lu [S "length",S "worth"] ?_
 refine cG hB ?_
 refine lCo ?_
 refine cM hB (f:=129) TA.s ?_
 refine Aq ?_
 refine Ds hB hA hw ?_ (dl (m:=7) (by assumption))
 refine Ad ?_
 refine CP hB hw.sz hl h2 (fun σ1 hE1=> ?_) (dl (m:=7) (by assumption))
 refine Cu _ rfl rfl ?_
 have hA1:=hA.ext hE1
 refine nsW ?_
 refine Da [S "told",S "slot"] ?_
 refine eTu ?_
 refine lCo ?_
 refine cM hB (f:=136) TA.s ?_
 refine Aq ?_
 refine Ik hB hA1 hx hx2 ?_ (dl (m:=7) (by assumption))
 refine lCo ?_
 refine cM hB (f:=452) TA.s ?_
 refine Aq ?_
 refine JK hB hA1 hw hs hl h2 (fun σ2 hE2=> ?_) (dl (m:=7) (by assumption))
 have hA2:=hA1.ext hE2
 have hE02:=hE1.trans hE2
 refine Ad ?_
 refine ⟨rfl,_,rfl,rfl,?_⟩
 refine AZ ?_
 refine Jd ?_
 refine WB.n ?_
 refine tCm ?_
 refine eV ?_
 refine cM hB (f:=409) TA.s ?_
 refine Ad ?_
 refine CY hB hA2 hw ?_ (dl (m:=7) (by assumption))
 refine cGt ?_
 refine Ge (fun h=> ?_) (fun h=> ?_)
 ·refine WS.n ?_
  refine scR ?_
  refine eUn ?_
  refine eG hB ?_
  refine DP ?_
  have e:G5 T.pure size l wo x f tr=(T.pure,-22):=by unfold G5; rw [if_pos (Int.ofNat_lt.mp h)]
  rw [e] at q
  exact q σ2 T hA2 (Fr'.ext hE02) rfl
 have hle:¬ size < l:=Nat.not_lt_of_le (Int.ofNat_le.mp (Int.not_lt.mp h))
 have hisn:(!isNone (EV (BB (Au size l wo tr))))=(BB (Au size l wo tr)).isSome:=by cases BB (Au size l wo tr) <;> rfl
 have hpl:DQ (EV (BB (Au size l wo tr)))=true:=by cases BB (Au size l wo tr) <;> rfl
 refine WS.n ?_
 refine WS.mono (Q:=fun mf ρ σ'=>mf= .next∧ρ=_∧σ'=σ2) (Ai ⟨rfl,rfl,rfl⟩) ?_
 rintro mf ρ σ' ⟨rfl,rfl,rfl⟩
 refine nsW ?_
 refine Cj ?_
 refine cG hB ?_
 refine lV ?_
 refine lCo ?_
 refine eCm ?_
 refine eV ?_
 refine Ea ?_
 refine LO hpl ?_
 rw [hisn]
 refine Ad ?_
 refine HN hB ?_ (dl (m:=7) (by assumption))
 refine AZ ?_
 refine Jd ?_
 refine WB.n ?_
 refine tCm ?_
 refine eV ?_
 refine Ae ?_
 refine cNe ?_
 generalize hfa:Bi f (BB (Au size l wo tr)).isSome=fa
 by_cases hfa0:fa=0
 case neg =>
  rw [if_pos (by simpa using hfa0)]
  refine WS.n ?_
  refine scR ?_
  refine eV ?_
  have e:G5 T.pure size l wo x f tr=(T.pure,fa):=by unfold G5; rw [if_neg hle,hfa,if_pos hfa0]
  rw [e] at q
  exact q σ' T hA2 (Fr'.ext hE02) rfl
 rw [if_neg (by simp [hfa0])]
 refine WS.n ?_
 refine WS.mono (Q:=fun mf ρ σ2=>mf= .next∧ρ=_∧σ2=σ') (Ai ⟨rfl,rfl,rfl⟩) ?_
 rintro mf ρ σ2 ⟨rfl,rfl,rfl⟩
 have eu:G5 T.pure size l wo x f tr=match BB (Au size l wo tr) with
  | some s=>(PT T.pure s x,0)
  | none=>if T.pure.most≤T.pure.used.length then (T.pure,-28) else match Au size l wo tr with
   | some p=>({AD T.pure x with nodes:=AA T.pure.nodes p.1 {p.2 with slot:=Al T.pure.used}},0)
   | none=>(Id T.pure size l wo x tr,0):=by
  unfold G5
  rw [if_neg hle,hfa,if_neg (by simp [hfa0])]
 refine AZ ?_
 refine Jd ?_
 refine WB.n ?_
 refine tCm ?_
 refine eV ?_
 refine Ea ?_
 refine LO hpl ?_
 rw [hisn]
 cases hso:BB (Au size l wo tr) with
 | some s =>
  rw [hso] at eu
  dsimp only at eu
  rw [eu] at q
  rw [if_pos (by rfl)]
  refine AZ ?_
  refine LE ?_
  refine DS ?_
  refine eV ?_
  refine Bq _ _ (mFn hB (f:=257) hA2.self) (AW hB (by rfl)) ?_
  refine nlW ?_
  refine eV ?_
  refine nlW ?_
  refine eV ?_
  refine WL.n (Ad ?_)
  refine QD hB hA2 hx2 (fun y hy=>hsz s y hy) hvl (fun σ3 T3 hA3 hF3 hP3=> ?_) (dl (m:=7) (by assumption))
  refine WS.n ?_
  refine scR ?_
  refine Ae ?_
  exact q _ _ hA3 ((Fr'.ext hE02).trans hF3) hP3
 | none =>
  rw [hso] at eu
  dsimp only at eu
  rw [if_neg (by decide)]
  refine WS.n ?_
  refine WS.mono (Q:=fun mf ρ σ'=>mf= .next∧ρ=_∧σ'=σ2) (Ai ⟨rfl,rfl,rfl⟩) ?_
  rintro mf ρ σ' ⟨rfl,rfl,rfl⟩
  refine AZ ?_
  refine Jd ?_
  refine WB.n ?_
  refine tCm ?_
  refine cM hB (f:=416) hA2.self ?_
  refine Ad ?_
  refine M7 hB hA2 hul ?_ (dl (m:=7) (by assumption))
  refine aV hB hA2.self ?_
  refine cGe ?_
  by_cases hmo:T.most≤(T.used.length:Nat)
  ·rw [if_pos (decide_eq_true hmo)]
   rw [if_pos (by exact hmo)] at eu
   rw [eu] at q
   refine WS.n ?_
   refine scR ?_
   refine eUn ?_
   refine eG hB ?_
   refine DP ?_
   exact q σ' T hA2 (Fr'.ext hE02) rfl
  ·rw [if_neg (by rw [decide_eq_false hmo]; exact Bool.false_ne_true)]
   rw [if_neg (by exact hmo)] at eu
   refine WS.n ?_
   refine WS.mono (Q:=fun mf ρ σ2=>mf= .next∧ρ=_∧σ2=σ') (Ai ⟨rfl,rfl,rfl⟩) ?_
   rintro mf ρ σ2 ⟨rfl,rfl,rfl⟩
   refine nsW ?_
   refine Cj ?_
   refine cM hB (f:=445) hA2.self ?_
   refine Aq ?_
   refine JQ hB hA2 hw hs hl h2 (fun σ3 hE3=> ?_) (dl (m:=7) (by assumption))
   have hA3:=hA2.ext hE3
   have hE03:=hE02.trans hE3
   refine AZ ?_
   refine Jd ?_
   refine WB.n ?_
   refine tCm ?_
   refine eV ?_
   refine eG hB ?_
   refine cNe ?_
   cases hex:Au size l wo tr with
   | some p0 =>
    rw [hex] at eu
    dsimp only at eu
    rw [eu] at q
    refine Gj (Ey hs hex) fun hlk hid hlen U=> ?_
    refine Af (Ay hlk) fun p hp hpe=> ?_
    rw [if_pos (by simpa [PZ] using hid)]
    refine AZ ?_
    refine QT ?_
    refine DS ?_
    refine eV ?_
    refine Bq _ _ (mFn hB (f:=466) hA3.self) (AW hB (by rfl)) ?_
    refine nlW ?_
    refine eV ?_
    refine WL.n (Ad ?_)
    refine HL hB hA3 hx2 (fun y hy=>hsz _ y hy) hvl hul (fun σ4 T4 hA4 hF4 hP4=> ?_) (dl (m:=7) (by assumption))
    have hlk4:T4.pure.nodes.lookup p0.1=some p0.2:=by rw [hP4]; exact hlk
    refine Af (Ay hlk4) fun p4 hp4 hpe4=> ?_
    have hn4:=hA4.nod _ _ hp4
    refine eSu ?_
    refine aV hB hA4.self ?_
    refine eV ?_
    refine AK (f:=kI) AB hA4.na (Ao hp4) ?_ trivial (dl (m:=7) (by assumption))
    refine BJ hB hn4.1 ?_
    obtain ⟨hA5,hF5⟩:=hA4.setSlot hp4 (Al T.used)
    generalize hxx:σ4.set p4.1.a (MO.inst 384 p4.1.d _)=σ5
    rw [show σ4.set p4.1.a (CM (p4.1,{p4.2 with slot:=(Al T.used:Int)}))=σ5 from hxx] at hA5 hF5
    refine WS.n ?_
    refine Ai ?_
    refine WS.n ?_
    refine scR ?_
    refine Ae ?_
    refine q _ _ hA5 ((Fr'.ext hE03).trans (hF4.trans hF5)) ?_
    rw [C2,hpe4,hP4]
    rfl
   | none =>
    rw [hex] at eu
    dsimp only at eu
    rw [eu] at q
    have I:=hins (Nat.le_of_not_lt hle) hex
    rw [if_neg (by decide)]
    refine AZ ?_
    refine LE ?_
    refine DS ?_
    refine eV ?_
    refine Bq _ _ (mFn hB (f:=502) hA3.self) (AW hB (by rfl)) ?_
    refine nlW ?_
    refine eV ?_
    refine nlW ?_
    refine eV ?_
    refine nlW ?_
    refine eV ?_
    refine WL.n (Ad ?_)
    refine Pg hB hA3 hw hs (Nat.le_of_not_lt hle) h2 hx2 (fun y hy=>hsz _ y hy) hvl hul hz hf I.par I.no I.bel I.no2 (fun σ4 T4 hA4 hF4 hP4=> ?_) (dl (m:=7) (by assumption))
    refine WS.n ?_
    refine Ai ?_
    refine WS.n ?_
    refine scR ?_
    refine Ae ?_
    exact q _ _ hA4 ((Fr'.ext hE03).trans hF4) hP4
end
noncomputable def EC (kw vw most:Int):TP:=⟨kw,vw,most,[],[],-1,[],[]⟩
noncomputable def LN:List Str:=[S "array",S "hash",S "lru",S "rows",S "queue",S "stack",S "trie",S "ring"]
section
variable {w:World} {b:Heap} (hB:BaseOk w b) {d:Nat} {σ:MS} {Q:MV→MS→Prop} {t:Addr} {T:TC} {size:Nat} {tr:Tr} {l wo:Nat}
include hB
theorem K1 {v:Nat} (q:Q (.int ((v+7)/8*8+8:Nat)) σ) (hv:v≤1000) (hd:1≤d):WC w b d (.ref 87) [.int v] σ Q:=by
 refine AR hB (dv:=[]) (D:=AO 9) [S "width"] ?_ hd ?_
 ·exact bd1 fun U=>by rfl
 refine scR ?_
 refine eBi ?_
 refine eBi ?_
 refine eBi ?_
 refine eBi ?_
 refine eV ?_
 refine Ae ?_
 refine CQ ?_
 refine Ae ?_
 refine GN ?_ (by decide) (by decide)
 have e:((v:Int)+7).fdiv 8=((v+7)/8:Nat):=by
  rw [show ((v:Int)+7)=((v+7:Nat):Int) by lia,show (8:Int)=((8:Nat):Int) from rfl,AY]
 rw [e]
 refine Ae ?_
 refine D5 ?_ (.of_right (by decide))
 refine Ae ?_
 refine CQ ?_
 exact q
theorem FQ {kw:Int} (h1:5≤kw) (h2:kw≤20) (q:Q .none σ) (hd2:2≤d):WC w b d (.ref 101) [.str (S "trie"),.int kw] σ Q:=by
 have hd:1≤d:=Nat.le_trans (by decide) hd2
 refine AR hB (dv:=[]) (D:=AO 22) [S "kind",S "key_width"] ?_ hd ?_
 ·exact bd2 fun U U=>by rfl
 refine scI ?_
 refine tCm ?_
 refine eV ?_
 refine eTu ?_
 refine lCo ?_
 refine JD ?_
 refine lCo ?_
 refine JD ?_
 refine lCo ?_
 refine JD ?_
 refine Ad ?_
 refine ⟨rfl,?_⟩
 refine Tb (xs:=[.str (S "queue"),.str (S "stack"),.str (S "ring")]) ?_ (by show 0+1≤8*(d-1); exact n8 hd2 (Nat.le_of_lt_succ (by decide))) (by rfl) (fun m hm=>by
  simp only [List.mem_cons,List.not_mem_nil,or_false] at hm
  rcases hm with rfl | rfl | rfl <;> rfl)
 refine B7 (by decide +kernel) ?_
 refine scI ?_
 refine tCm ?_
 refine eV ?_
 refine JD ?_
 refine kEq ?_ (by show 0≤_; exact Nat.le_add_left _ _) (by rfl) (by rfl)
 refine Ec (by decide +kernel) ?_
 refine scI ?_
 refine H6 ?_
 refine N2 ?_
 refine Ae ?_
 refine eV ?_
 refine cLe ?_
 refine Ec (decide_eq_true h1) ?_
 refine Ae ?_
 refine cLe ?_
 refine B7 (by rw [decide_eq_true h2]; decide) ?_
 refine Ai ?_
 refine Ai ?_
 refine Ai ?_
 refine Ai ?_
 exact q
theorem HO {kw:Int} {vw most:Nat} (h1:5≤kw) (h2:kw≤20) (h3:1≤vw) (h4:vw≤8) (h5:1≤most) (h6:most≤100) (q:∀ σ',Ext σ σ'→Q .none σ') (hd3:3≤d):WC w b d (.ref 108) [.str (S "trie"),.int kw,.int vw,.int most] σ Q:=by
 have hd:1≤d:=Nat.le_trans (by decide) hd3
 refine AR hB (dv:=[]) (D:=AO 23) [S "kind",S "key_width",S "value_width",S "most"] ?_ hd ?_
 ·exact bd4 fun U U U U=>by rfl
 refine scI ?_
 refine tCm ?_
 refine eV ?_
 refine eMe ?_
 refine eG hB ?_
 refine Bq _ _ Q4 (Ar _) ?_
 refine lCo ?_
 refine JD ?_
 refine Ad ?_
 refine Rb (ps:=LN) (by decide +kernel) (by decide +kernel) (by decide +kernel) (by decide +kernel) (by decide +kernel) (by decide +kernel) fun z hz=> ?_
 have hE:=Ext.new (o:= .list (LN.map .str)) hz
 refine Fz (MS.set_self ..) ?_ (by rw [show dps (LN.map MV.str)=0 by decide +kernel]; show 0+1≤8*(d-1); exact n8 hd3 (Nat.le_of_lt (by decide))) (by decide +kernel) (fun m hm=>by
  refine Af (List.mem_map.mp hm) fun y U e_2=> ?_
  subst e_2
  rfl)
 refine B7 (by decide +kernel) ?_
 refine Ai ?_
 refine scE ?_
 refine cG hB ?_
 refine Aq ?_
 refine FQ hB h1 h2 ?_ (dl hd3)
 refine scI ?_
 refine tCm ?_
 refine eV ?_
 refine JD ?_
 refine kEq ?_ (by show 0≤_; exact Nat.le_add_left _ _) (by rfl) (by rfl)
 refine B7 (by decide +kernel) ?_
 refine Ai ?_
 refine scI ?_
 refine tCm ?_
 refine eV ?_
 refine Ae ?_
 refine cLt ?_
 refine B7 (by simp; exact Int.ofNat_le.mpr h3) ?_
 refine Ai ?_
 refine scI ?_
 refine tOr ?_
 refine B0 ?_
 refine tCm ?_
 refine eV ?_
 refine Ae ?_
 refine cLt ?_
 refine B7 (by simp; exact Int.ofNat_le.mpr h5) ?_
 refine B0 ?_
 refine tCm ?_
 refine eBi ?_
 refine eBi ?_
 refine cG hB ?_
 refine Aq ?_
 refine K1 hB ?_ (Nat.le_of_lt (Nat.lt_of_le_of_lt h4 (by decide))) (dl hd3)
 refine eBi ?_
 refine eV ?_
 refine Ae ?_
 refine CQ ?_
 have hsm:(vw+7)/8*8+8≤24:=Nat.add_le_add_right (Nat.le_trans (Nat.mul_le_mul_right _ (Nat.div_le_div_right (Nat.add_le_add_right h4 _))) (by decide)) _
 refine D5 ?_ (.of_left (by
  have:∀ k:Nat,k≤24→Builtin.Int.intBits (k:Int)≤64:=by decide
  exact this _ hsm))
 refine eIf ?_
 refine tCm ?_
 refine eV ?_
 refine JD ?_
 refine kEq ?_ (by show 0≤_; exact Nat.le_add_left _ _) (by rfl) (by rfl)
 refine B7 (by decide +kernel) ?_
 refine Ae ?_
 refine D5 ?_ (.of_right (by decide))
 refine eG hB ?_
 refine cGt ?_
 have hle:((((vw+7)/8*8+8:Nat):Int)*((most:Nat)+1))*1≤24*101:=by
  rw [Int.mul_one]
  exact Int.mul_le_mul (Int.ofNat_le.mpr hsm) (Int.add_le_iff_le_sub.mpr (il h6)) (Int.le_of_lt (Int.succ_ofNat_pos _)) (by decide)
 rw [if_neg (by
  rw [decide_eq_true_eq]
  show ¬ (1048576:Int) < _
  exact Int.not_lt.mpr (Int.le_trans hle (by decide)))]
 refine Hj ?_
 refine B7 (by decide) ?_
 refine Ai ?_
 refine Ai ?_
 exact q _ hE
theorem Mb {dd:Addr} {kw:Int} {vw most:Nat} (ht:σ t=some (.inst 585 dd [])) (h1:5≤kw) (h2:kw≤20) (h3:1≤vw) (h4:vw≤8) (h5:1≤most) (h6:most≤100)
  (q:∀ σ' va,(∀ x,x≠t→σ x≠none→σ' x=σ x)→σ va=none→va≠t→σ' va=some (.dict [] 0)→σ' t=some (.inst 585 dd [(S "kind",.str (S "trie")),(S "number",.int 5),(S "key_width",.int kw),(S "value_width",.int vw),(S "most",.int most),(S "values",.ref va)])→Q .none σ') (hd4:4≤d) :
  WC w b d (.ref 122) [.ref t,.str (S "trie"),.int 5,.int kw,.int vw,.int most] σ Q:=by
 have hd:1≤d:=Nat.le_trans (by decide) hd4
 refine AR hB (dv:=[]) (D:=As 24 0) [S "self",S "kind",S "number",S "key_width",S "value_width",S "most"] ?_ hd ?_
 ·exact bd6 fun U U U U U U=>by rfl
 refine scE ?_
 refine cG hB ?_
 refine Aq ?_
 refine HO hB h1 h2 h3 h4 h5 h6 (fun σ1 hE1=> ?_) (dl hd4)
 have ht1:=hE1 _ _ ht
 refine scI ?_
 refine H6 ?_
 refine N2 ?_
 refine Ae ?_
 refine eV ?_
 refine cLe ?_
 refine Ec (by decide) ?_
 refine eG hB ?_
 refine cLt ?_
 refine B7 (by decide) ?_
 refine Ai ?_
 refine sCo ?_
 refine BV ?_
 refine eV ?_
 refine eV ?_
 refine BJ hB ht1 ?_
 refine sCo ?_
 refine BV ?_
 refine eV ?_
 refine eV ?_
 refine BJ hB (MS.set_self ..) ?_
 refine sCo ?_
 refine BV ?_
 refine eV ?_
 refine eV ?_
 refine BJ hB (MS.set_self ..) ?_
 refine sCo ?_
 refine BV ?_
 refine eV ?_
 refine eV ?_
 refine BJ hB (MS.set_self ..) ?_
 refine sCo ?_
 refine BV ?_
 refine eV ?_
 refine eV ?_
 refine BJ hB (MS.set_self ..) ?_
 refine sCo ?_
 refine BV ?_
 refine JE fun va hva=> ?_
 have hvt:va≠t:=fun e=>by rw [e,MS.set_self] at hva; cases hva
 rw [MS.set_set,MS.set_set,MS.set_set,MS.set_set] at hva ⊢
 rw [MS.set_ne hvt] at hva
 refine eV ?_
 refine BJ hB (by rw [MS.set_ne hvt.symm]; exact MS.set_self ..) ?_
 refine Ai ?_
 refine q _ va (fun x hx hn=> ?_) (hE1.isNone hva) hvt (by rw [MS.set_ne hvt]; exact MS.set_self ..) (MS.set_self ..)
 have hx2:x≠va:=fun e=>hn (e▸hE1.isNone hva)
 rw [MS.set_ne hx,MS.set_ne hx2,MS.set_ne hx]
 cases e:σ x with
 | none=>exact absurd e hn
 | some o=>exact hE1 _ _ e
theorem K0 {dd:Addr} {kw:Int} {vw most:Nat} (ht:σ t=some (.inst 585 dd [])) (h1:5≤kw) (h2:kw≤20) (h3:1≤vw) (h4:vw≤8) (h5:1≤most) (h6:most≤100)
  (q:∀ σ' T',(∀ x,x≠t→σ x≠none→σ' x=σ x)→TA σ' t T'→T'.pure=EC kw vw most→(∀ x,T'.fp t x→x=t∨σ x=none)→Q .none σ') (hd5:5≤d) :
  CC w b d (.ref 402) [.ref t,.int 5,.int kw,.int vw,.int most] σ Q:=by
 have hd:1≤d:=Nat.le_trans (by decide) hd5
 refine Pz hB (dv:=[]) (D:=As 37 0) [S "self",S "number",S "key_width",S "value_width",S "most"] (by rfl) (by decide +kernel) ?_ (by rfl) (by decide) (by rfl) (by rfl) (by rfl) hd ?_
 ·exact bd5 fun U U U U U=>by rfl
 refine scE ?_
 refine eMe ?_
 refine eG hB ?_
 refine Bq _ _ (R8 hB (Ow _)) (AW hB (by rfl)) ?_
 refine lV ?_
 refine lCo ?_
 refine JD ?_
 refine Aq ?_
 refine Mb hB ht h1 h2 h3 h4 h5 h6 (fun σ1 va k1 hva hvt o1 o2=> ?_) (dl hd5)
 have nn:∀ y,σ y≠none→σ1 y≠none:=fun y hy=>by
  by_cases e:y=t
  ·rw [e,o2]; exact (fun c=>nomatch c)
  ·rw [k1 y e hy]; exact hy
 refine sCo ?_
 refine BV ?_
 refine JE fun na hna=> ?_
 have e1:σ na=none:=Classical.byContradiction fun c=>nn _ c hna
 have nat':na≠t:=fun e=>by rw [e,o2] at hna; cases hna
 have nava:na≠va:=fun e=>by rw [e,o1] at hna; cases hna
 refine eV ?_
 refine BJ hB (MS.set_old hna o2) ?_
 refine sCo ?_
 refine BV ?_
 refine eG hB ?_
 refine eV ?_
 refine BJ hB (MS.set_self ..) ?_
 rw [MS.set_set]
 refine sCo ?_
 refine BV ?_
 refine BW ?_
 refine Ad ?_
 refine ⟨rfl,fun fa hfa=> ?_⟩
 have fat:fa≠t:=fun e=>by rw [e,MS.set_self] at hfa; cases hfa
 have hfa:=hfa
 rw [MS.set_ne fat] at hfa
 have fana:fa≠na:=fun e=>by rw [e,MS.set_self] at hfa; cases hfa
 rw [MS.set_ne fana] at hfa
 have fava:fa≠va:=fun e=>by rw [e,o1] at hfa; cases hfa
 have e2:σ fa=none:=Classical.byContradiction fun c=>nn _ c hfa
 refine eV ?_
 refine BJ hB (by rw [MS.set_ne fat.symm]; exact MS.set_self ..) ?_
 refine sCo ?_
 refine BV ?_
 refine BW ?_
 refine Ad ?_
 refine ⟨rfl,fun ua hua=> ?_⟩
 have uat:ua≠t:=fun e=>by rw [e,MS.set_self] at hua; cases hua
 rw [MS.set_ne uat] at hua
 have uafa:ua≠fa:=fun e=>by rw [e,MS.set_self] at hua; cases hua
 rw [MS.set_ne uafa,MS.set_ne uat] at hua
 have uana:ua≠na:=fun e=>by rw [e,MS.set_self] at hua; cases hua
 rw [MS.set_ne uana] at hua
 have uava:ua≠va:=fun e=>by rw [e,o1] at hua; cases hua
 have e3:σ ua=none:=Classical.byContradiction fun c=>nn _ c hua
 refine eV ?_
 refine BJ hB (by rw [MS.set_ne uat.symm]; exact MS.set_self ..) ?_
 refine Ai ?_
 refine q _ ⟨dd,va,na,fa,ua,kw,vw,most,[],0,[],0,-1,[],[]⟩ (fun x hx hn=> ?_) ⟨MS.set_self ..,?_,?_,?_,?_,(fun s p e=>nomatch e),(fun i p e=>nomatch e),nava.symm,uafa.symm,(fun i p e=>nomatch e),(fun i j p q e=>nomatch e),(fun i j p q e=>nomatch e)⟩ rfl fun x hx=> ?_
 ·have x1:x≠na:=fun e=>hn (e▸e1)
  have x2:x≠fa:=fun e=>hn (e▸e2)
  have x3:x≠ua:=fun e=>hn (e▸e3)
  rw [MS.set_ne hx,MS.set_ne x3,MS.set_ne hx,MS.set_ne x2,MS.set_ne hx,MS.set_ne x1]
  exact k1 x hx hn
 ·show _=some (MO.dict [] 0)
  rw [MS.set_ne hvt,MS.set_ne uava.symm,MS.set_ne hvt,MS.set_ne fava.symm,MS.set_ne hvt,MS.set_ne nava.symm]
  exact o1
 ·show _=some (MO.dict [] 0)
  rw [MS.set_ne nat',MS.set_ne uana.symm,MS.set_ne nat',MS.set_ne fana.symm,MS.set_ne nat']
  exact MS.set_self ..
 ·show _=some (MO.list [])
  rw [MS.set_ne fat,MS.set_ne uafa.symm,MS.set_ne fat]
  exact MS.set_self ..
 ·show _=some (MO.list [])
  rw [MS.set_ne uat]
  exact MS.set_self ..
 ·rcases hx with rfl | rfl | rfl | rfl | rfl | ⟨s,p,e,_⟩ | ⟨i,p,e,_⟩
  ·exact .inl rfl
  ·exact .inr hva
  ·exact .inr e1
  ·exact .inr e2
  ·exact .inr e3
  ·cases e
  ·cases e
theorem GC {kw:Int} {vw most:Nat} (h1:5≤kw) (h2:kw≤20) (h3:1≤vw) (h4:vw≤8) (h5:1≤most) (h6:most≤100)
  (q:∀ σ' t T',Ext σ σ'→TA σ' t T'→T'.pure=EC kw vw most→(∀ x,T'.fp t x→σ x=none)→Q (.ref t) σ') (hd6:6≤d):WC w b d (.ref 585) [.int 5,.int kw,.int vw,.int most] σ Q:=by
 refine Kn hB (Nat.le_of_add_left_le hd6) (by rfl) (Si _) (R3 _) (by rfl) fun a dd na nd ne ot=> ?_
 refine K0 hB (MS.set_self ..) h1 h2 h3 h4 h5 h6 (fun σ' T' k hA hP hf=> ?_) (Nat.le_sub_of_add_le hd6)
 refine ⟨rfl,q σ' a T' (fun x o e=> ?_) hA hP fun x hx=> ?_⟩
 ·have x1:=(ot x o e).1
  rw [k x x1 (by rw [MS.set_ne x1,e]; exact (fun c=>nomatch c)),MS.set_ne x1]; exact e
 ·rcases hf x hx with z | z
  ·rw [z]; exact na
  ·by_cases e:x=a
   ·rw [e]; exact na
   ·rw [MS.set_ne e] at z; exact z
end
theorem Iq {β:Type} {l:List (Int×β)} {i:Nat} {k:Int} {v:β} (hn:(l.map (·.1)).Nodup) (h:l[i]?=some (k,v)):(l.take i).lookup k=none∧AA (l.take i) k v=l.take (i+1):=by
 have h1:(l.take i).lookup k=none:=by
  rw [Bk]
  intro c
  obtain ⟨j,hj,e⟩:=List.mem_iff_getElem.mp c
  have hj':j < i∧j < l.length:=by
   have:j < min i l.length:=by simpa using hj
   exact Nat.lt_min.mp this
  obtain ⟨hi,hik⟩:=List.getElem?_eq_some_iff.mp h
  have e2:(l.map (·.1))[j]'(by simpa using hj'.2)=(l.map (·.1))[i]'(by simpa using hi):=by
   rw [List.getElem_map,List.getElem_map,hik]
   rw [List.getElem_map,List.getElem_take] at e
   exact e
  exact (List.pairwise_iff_getElem.mp hn) j i (by simpa using hj'.2) (by simpa using hi) hj'.1 e2
 refine ⟨h1,?_⟩
 have snoc:∀ m:List (Int×β),m.lookup k=none→AA m k v=m++[(k,v)]:=by
  intro m
  induction m with
  | nil=>intro _; rfl
  | cons x m ih =>
   intro hm
   rw [List.lookup_cons] at hm
   by_cases q:k=x.1
   ·subst q; simp at hm
   ·rw [beq_eq_false_iff_ne.mpr q] at hm
    unfold AA
    rw [if_neg (Ne.symm q),ih hm]; rfl
 rw [snoc _ h1,List.take_add_one,h]; rfl
structure Cp (σ σk:MS) (t:Addr) (T:TC):Prop where
 ext:Ext σ σk
 ta:TA σk t T
 new:∀ x,T.fp t x→σ x=none
theorem Cp.step {σ σk σ':MS} {t:Addr} {T T':TC} (h:Cp σ σk t T) (f:Fr' t T σk σ' T') (a:TA σ' t T'):Cp σ σ' t T':=by
 refine ⟨fun x o e=> ?_,a,fun x hx=> ?_⟩
 ·have e1:=h.ext x o e
  rw [f.keep x (by rw [e1]; exact fun c=>nomatch c) fun c=>by rw [h.new x c] at e; cases e]; exact e1
 ·rcases f.new x hx with z | z
  ·exact h.new x z
  ·exact h.ext.isNone z
theorem Cp.more {σ σk σ':MS} {t:Addr} {T:TC} (h:Cp σ σk t T) (e:Ext σk σ'):Cp σ σ' t T:=⟨h.ext.trans e,h.ta.ext e,h.new⟩
section
variable {σ:MS} {t:Addr} {T:TC}
theorem TA.newFree (h:TA σ t T) {c:Addr} {u:List Int} (hc:σ c=some (.list (u.map .int))) (nf:¬ T.fp t c):TA (σ.set t {T with fa:=c,free:=u}.self) t {T with fa:=c,free:=u}:=by
 have nt:∀ {a o},σ a=some o→(∀ x y,o≠ .inst 585 x y)→(σ.set t {T with fa:=c,free:=u}.self) a=some o:=fun e n=>by rw [MS.set_ne (Bw e h.self (n _ _))]; exact e
 refine ⟨MS.set_self ..,nt h.va (fun U U c=>nomatch c),nt h.na (fun U U c=>nomatch c),nt hc (fun U U c=>nomatch c),nt h.ua (fun U U c=>nomatch c),fun s p e=>nt (h.val s p e) (fun U U c=>nomatch c),
  fun i p e=>⟨by rw [MS.set_ne (h.na_t e)]; exact (h.nod i p e).1,nt (h.nod i p e).2 (fun U U c=>nomatch c)⟩,h.ap1,fun e=>nf (.inr (.inr (.inr (.inr (.inl e))))),fun i p e=>⟨fun z=>nf (.inr (.inr (.inr (.inr (.inr (.inr ⟨i,p,e,.inr z.symm⟩)))))),(h.ap3 i p e).2⟩,h.ap4,h.ap5⟩
theorem TA.newUsed (h:TA σ t T) {c:Addr} {u:List Int} (hc:σ c=some (.list (u.map .int))) (nf:¬ T.fp t c):TA (σ.set t {T with ua:=c,used:=u}.self) t {T with ua:=c,used:=u}:=by
 have nt:∀ {a o},σ a=some o→(∀ x y,o≠ .inst 585 x y)→(σ.set t {T with ua:=c,used:=u}.self) a=some o:=fun e n=>by rw [MS.set_ne (Bw e h.self (n _ _))]; exact e
 refine ⟨MS.set_self ..,nt h.va (fun U U c=>nomatch c),nt h.na (fun U U c=>nomatch c),nt h.fa (fun U U c=>nomatch c),nt hc (fun U U c=>nomatch c),fun s p e=>nt (h.val s p e) (fun U U c=>nomatch c),
  fun i p e=>⟨by rw [MS.set_ne (h.na_t e)]; exact (h.nod i p e).1,nt (h.nod i p e).2 (fun U U c=>nomatch c)⟩,h.ap1,fun e=>nf (.inr (.inr (.inr (.inl e.symm)))),fun i p e=>⟨(h.ap3 i p e).1,fun z=>nf (.inr (.inr (.inr (.inr (.inr (.inr ⟨i,p,e,.inr z.symm⟩))))))⟩,h.ap4,h.ap5⟩
theorem TA.newVals (h:TA σ t T) {c:Addr} {n:Nat} (hc:σ c=some (.dict [] n)) (nf:¬ T.fp t c):TA (σ.set t {T with va:=c,vals:=[],vn:=n}.self) t {T with va:=c,vals:=[],vn:=n}:=by
 have nt:∀ {a o},σ a=some o→(∀ x y,o≠ .inst 585 x y)→(σ.set t {T with va:=c,vals:=[],vn:=n}.self) a=some o:=fun e n=>by rw [MS.set_ne (Bw e h.self (n _ _))]; exact e
 refine ⟨MS.set_self ..,nt hc (fun U U c=>nomatch c),nt h.na (fun U U c=>nomatch c),nt h.fa (fun U U c=>nomatch c),nt h.ua (fun U U c=>nomatch c),(fun s p e=>nomatch e),
  fun i p e=>⟨by rw [MS.set_ne (h.na_t e)]; exact (h.nod i p e).1,nt (h.nod i p e).2 (fun U U c=>nomatch c)⟩,fun e=>nf (.inr (.inr (.inl e))),h.ap2,h.ap3,h.ap4,(fun i j p q e=>nomatch e)⟩
theorem Cp.set {σ0:MS} {T':TC} {c:Addr} (h:Cp σ0 σ t T) (a:TA (σ.set t T'.self) t T') (hc:σ0 c=none) (f:∀ x,T'.fp t x→T.fp t x∨x=c):Cp σ0 (σ.set t T'.self) t T':=by
 refine ⟨fun x o e=> ?_,a,fun x hx=> ?_⟩
 ·rw [MS.set_ne]
  ·exact h.ext x o e
  ·intro z; rw [z,h.new t (.inl rfl)] at e; cases e
 ·rcases f x hx with z | z
  ·exact h.new x z
  ·rw [z]; exact hc
end
section
variable {w:World} {b:Heap} (hB:BaseOk w b) {d:Nat} {σ:MS} {Q:MV→MS→Prop} {t:Addr} {T:TC} {size:Nat} {tr:Tr} {l wo:Nat}
include hB
theorem Rr (hA:TA σ t T) {vw most:Nat} (hk1:5≤T.kw) (hk2:T.kw≤20) (hv:T.vw=vw) (hm:T.most=most) (h3:1≤vw) (h4:vw≤8) (h5:1≤most) (h6:most≤100)
  (q:∀ σ' t' T',Cp σ σ' t' T'→T'.pure=EC T.kw T.vw T.most→Q (.ref t') σ') (hd7:7≤d):WC w b d (.ref 575) [.ref t] σ Q:=by
 have hd:1≤d:=Nat.le_trans (by decide) hd7
 refine AR hB (dv:=[]) (D:=As 37 25) [S "self"] ?_ hd ?_
 ·exact bd1 fun U=>by rfl
 refine scR ?_
 refine KO ?_
 refine eG hB ?_
 refine Cu _ rfl (EP hB (by rfl)) ?_
 refine lCo ?_
 refine aV hB TA.s ?_
 refine lCo ?_
 refine aV hB TA.s ?_
 refine lCo ?_
 refine aV hB TA.s ?_
 refine lCo ?_
 refine aV hB TA.s ?_
 refine Ad ?_
 rw [hv,hm]
 refine GC hB hk1 hk2 h3 h4 h5 h6 (fun σ' t' T' hE hA' hP hf=> ?_) (dl hd7)
 exact q _ _ _ ⟨hE,hA',hf⟩ (by rw [hP,hv,hm])
theorem Mc (hA:TA σ t T) {vw most:Nat} (hk1:5≤T.kw) (hk2:T.kw≤20) (hv:T.vw=vw) (hm:T.most=most) (h3:1≤vw) (h4:vw≤8) (h5:1≤most) (h6:most≤100)
  (hnv:(T.vals.map (·.1)).Nodup) (hvl:T.vals.length≤1000) (hsz:∀ s p,T.vals.lookup s=some p→p.2.size≤1000)
  (q:∀ σ' t' T',Cp σ σ' t' T'→T'.pure={EC T.kw T.vw T.most with vals:=T.pure.vals}→Q (.ref t') σ') (hd8:8≤d):NC w b d (.ref 278) [.ref t] σ Q:=by
 have hd:1≤d:=Nat.le_trans (by decide) hd8
 refine Lh hB (dv:=[]) (D:=As 24 22) [S "self"] ?_ hd ?_
 ·exact bd1 fun U=>by rfl
 refine nsW ?_
 refine Cj ?_
 refine cM hB (f:=575) TA.s ?_
 refine Ad ?_
 refine Rr hB hA hk1 hk2 hv hm h3 h4 h5 h6 (fun σ1 t' T1 hC1 hP1=> ?_) (dl hd8)
 refine nsW ?_
 refine BV ?_
 refine JE fun va hva=> ?_
 have hC2:=hC1.more (Ext.new (o:= .dict [] 0) hva)
 refine eV ?_
 refine BJ hB hC2.ta.self ?_
 have hA3:=hC2.ta.newVals (MS.set_self ..) (fun f=>hC1.ta.there f hva)
 have hC3:=hC2.set hA3 (c:=va) (hC1.ext.isNone hva) (fun x hx=>by
  rcases hx with rfl | rfl | rfl | rfl | rfl | ⟨s,p,e,_⟩ | ⟨i,p,e,z⟩
  ·exact .inl (.inl rfl)
  ·exact .inr rfl
  ·exact .inl (.inr (.inr (.inl rfl)))
  ·exact .inl (.inr (.inr (.inr (.inl rfl))))
  ·exact .inl (.inr (.inr (.inr (.inr (.inl rfl)))))
  ·cases e
  ·exact .inl (.inr (.inr (.inr (.inr (.inr (.inr ⟨i,p,e,z⟩)))))))
 have hP3:({T1 with va:=va,vals:=[],vn:=0}:TC).pure={EC T.kw T.vw T.most with vals:=T.pure.vals.take 0}:=by
  have:({T1 with va:=va,vals:=[],vn:=0}:TC).pure={T1.pure with vals:=[]}:=rfl
  rw [this,hP1]; rfl
 generalize hx3:(σ1.set va (MO.dict [] 0)).set t' (MO.inst 585 T1.d _)=σ3
 rw [show (σ1.set va (MO.dict [] 0)).set t' ({T1 with va:=va,vals:=[],vn:=0}:TC).self=σ3 from hx3] at hC3
 generalize ({T1 with va:=va,vals:=[],vn:=0}:TC)=T3 at hC3 hP3
 refine AZ ?_
 refine LD ?_
 have hAt:=hA.ext hC3.ext
 refine aV hB hAt.self ?_
 refine ⟨_,_,fun i ρ σk=>∃ Tk,ρ=[(S "self",.ref t),(S "other",.ref t')]∧Cp σ σk t' Tk∧Tk.pure={EC T.kw T.vw T.most with vals:=T.pure.vals.take i},GB hB hAt.va,hAt.va,⟨_,(Sub.cons (by rfl) (Sub.cons (by rfl) (Sub.nil))),T3,rfl,hC3,hP3⟩,?_,?_⟩
 ·rintro i v ρ σk hvk ⟨Tk,rfl,hCk,hPk⟩ hok
  have hel:(asE kI (DO T.vals)).map (·.1)=T.vals.map fun p=>MV.int p.1:=by delta asE DO kI; rw [List.map_map,List.map_map]; rfl
  rw [hel,List.getElem?_map] at hvk
  obtain ⟨⟨s,p⟩,hsp,rfl⟩:=Option.map_eq_some_iff.mp hvk
  have hlk:=F5 hnv (List.mem_of_getElem? hsp)
  have hAk:=hA.ext hCk.ext
  have hpv:T.pure.vals[i]?=some (s,p.2):=by
   show (T.vals.map fun p=>(p.1,p.2.2))[i]?=_
   rw [List.getElem?_map,hsp]; rfl
  have hnv':(T.pure.vals.map (·.1)).Nodup:=by
   show ((T.vals.map fun p=>(p.1,p.2.2)).map (·.1)).Nodup
   rw [List.map_map]; exact hnv
  obtain ⟨n1,n2⟩:=Iq hnv' hpv
  have hno:Tk.vals.lookup s=none:=by
   cases e:Tk.vals.lookup s with
   | none=>rfl
   | some y =>
    have:=C8 e
    rw [hPk] at this
    have this:(T.pure.vals.take i).lookup s=some y.2:=this
    rw [n1] at this; cases this
  have hlenk:Tk.vals.length≤1000:=by
   have e1:Tk.pure.vals.length=Tk.vals.length:=by unfold TC.pure; simp
   rw [← e1,hPk]
   show (T.pure.vals.take i).length≤1000
   have e2:T.pure.vals.length=T.vals.length:=by unfold TC.pure; simp
   rw [List.length_take]; exact Nat.le_trans (Nat.le_trans (Nat.min_le_right _ _) (Nat.le_of_eq e2)) hvl
  refine AZ ?_
  refine Oo ?_
  refine Ji ?_
  refine Qf hB (by rfl) (by rfl) (by rfl) ?_
  refine ⟨_,rfl,Kv,?_⟩
  refine nlW ?_
  refine eSu ?_
  refine aV hB hAk.self ?_
  refine eV ?_
  refine AK (f:=kI) AB hAk.va (EG hlk) ?_ trivial (dl hd8)
  refine WL.n (Ad ?_)
  refine Th (hAk.val s p hlk) (by have:=hsz s p hlk; exact Nat.le_of_lt (Nat.lt_of_le_of_lt this (by decide))) fun c hc=> ?_
  have hCk2:=hCk.more (Ext.new (o:= .barr p.2) hc)
  refine aV hB hCk2.ta.self ?_
  refine eV ?_
  refine IC (f:=kI) AB hCk2.ta.va (by simp [DO]; exact Nat.le_of_lt (Nat.lt_of_le_of_lt hlenk (by decide))) (fun m hm=> ?_) trivial (dl hd8)
  obtain ⟨h1,h2⟩:=hCk2.ta.addVal (m:=m) hno (MS.set_self ..) (fun f=>hCk.ta.there f hc)
  refine WS.n ?_
  refine Ai ?_
  refine ⟨(hCk.step (h2 σk (Ext.new hc) hc) h1).ext _ _ hA.va,_,(Sub.cons (by rfl) (Sub.cons (by rfl) (Sub.nil))),_,rfl,hCk.step (h2 σk (Ext.new hc) hc) h1,?_⟩
  have e1:({Tk with vals:=AA Tk.vals s (c,p.2),vn:=m}:TC).pure={Tk.pure with vals:=AA Tk.pure.vals s p.2}:=congrArg (fun z=>({Tk.pure with vals:=z}:TP)) FX
  rw [e1,hPk]
  show TP.mk _ _ _ (AA (T.pure.vals.take i) s p.2) _ _ _ _=_
  rw [n2]
 ·rintro ρ σk ⟨Tk,rfl,hCk,hPk⟩ _
  refine WS.n ?_
  refine scR ?_
  refine eV ?_
  refine q _ _ _ hCk ?_
  rw [hPk]
  have:(asE kI (DO T.vals)).length=T.pure.vals.length:=by simp [asE,DO,TC.pure]
  rw [List.length_map,this,List.take_length]
theorem Rt (hA:TA σ t T) {vw most:Nat} (hk1:5≤T.kw) (hk2:T.kw≤20) (hv:T.vw=vw) (hm:T.most=most) (h3:1≤vw) (h4:vw≤8) (h5:1≤most) (h6:most≤100)
  (hnv:(T.vals.map (·.1)).Nodup) (hvl:T.vals.length≤1000) (hsz:∀ s p,T.vals.lookup s=some p→p.2.size≤1000) (hnn:(T.nodes.map (·.1)).Nodup) (hnl:T.nodes.length≤1000) (hfl:T.free.length≤1000) (hul:T.used.length≤1000)
  (q:∀ σ' t' T',Cp σ σ' t' T'→T'.pure=T.pure→Q (.ref t') σ') (hd9:9≤d):NC w b d (.ref 582) [.ref t] σ Q:=by
 have hd:1≤d:=Nat.le_trans (by decide) hd9
 refine Lh hB (dv:=[]) (D:=As 37 26) [S "self"] ?_ hd ?_
 ·exact bd1 fun U=>by rfl
 refine AZ ?_
 refine Kj ?_
 refine DS ?_
 refine eG hB ?_
 refine ⟨_,_,R8 hB (Ox _),AW hB (by rfl),?_⟩
 refine nlW ?_
 refine eV ?_
 refine WL.n (Ad ?_)
 refine Mc hB hA hk1 hk2 hv hm h3 h4 h5 h6 hnv hvl hsz (fun σ1 t' T1 hC1 hP1=> ?_) (dl hd9)
 have hA1:=hA.ext hC1.ext
 refine WS.n ?_
 refine sCo ?_
 refine EZ ?_
 refine aV hB hA1.self ?_
 refine ⟨_,_,fun i ρ σk=>∃ Tk,ρ=[(S "self",.ref t),(S "other",.ref t')]∧Cp σ σk t' Tk∧Tk.pure={EC T.kw T.vw T.most with vals:=T.pure.vals,nodes:=T.pure.nodes.take i},GB hB hA1.na,hA1.na,⟨_,(Sub.cons (by rfl) (Sub.cons (by rfl) (Sub.nil))),T1,rfl,hC1,hP1⟩,?_,?_⟩
 ·rintro i v ρ σk hvk ⟨Tk,rfl,hCk,hPk⟩ hok
  have hel:(asE kI (Cg T.nodes)).map (·.1)=T.nodes.map fun p=>MV.int p.1:=by delta asE Cg kI; rw [List.map_map,List.map_map]; rfl
  rw [hel,List.getElem?_map] at hvk
  obtain ⟨⟨s,p⟩,hsp,rfl⟩:=Option.map_eq_some_iff.mp hvk
  have hlk:=F5 hnn (List.mem_of_getElem? hsp)
  have hAk:=hA.ext hCk.ext
  have hn:=hAk.nod _ _ hlk
  have hpv:T.pure.nodes[i]?=some (s,p.2):=by
   show (T.nodes.map fun p=>(p.1,p.2.2))[i]?=_
   rw [List.getElem?_map,hsp]; rfl
  have hnv':(T.pure.nodes.map (·.1)).Nodup:=by rw [FZ]; exact hnn
  obtain ⟨n1,n2⟩:=Iq hnv' hpv
  have hno:Tk.nodes.lookup s=none:=by
   cases e:Tk.nodes.lookup s with
   | none=>rfl
   | some y =>
    have:=Bz e
    rw [hPk] at this
    have this:(T.pure.nodes.take i).lookup s=some y.2:=this
    rw [n1] at this; cases this
  have hlenk:Tk.nodes.length≤1000:=by
   rw [Fn,hPk]
   show (T.pure.nodes.take i).length≤1000
   have e2:=Fn T
   rw [List.length_take]; exact Nat.le_trans (Nat.le_trans (Nat.min_le_right _ _) (Nat.le_of_eq (Eq.symm e2))) hnl
  refine scA ?_
  refine eSu ?_
  refine aV hB hAk.self ?_
  refine eV ?_
  refine AK (f:=kI) AB hAk.na (Ao hlk) ?_ trivial (dl hd9)
  refine scA ?_
  refine KO ?_
  refine eG hB ?_
  refine ⟨_,rfl,EP hB (by rfl),?_⟩
  refine lCo ?_
  refine aV hB hn.1 ?_
  refine lCo ?_
  refine aV hB hn.1 ?_
  refine lCo ?_
  refine aV hB hn.1 ?_
  refine Ad ?_
  refine GD hB (fun σ2 a dd c hE ha hc hac o1 o2=> ?_) (dl hd9)
  have hn2:=(hAk.ext hE).nod _ _ hlk
  refine sCo ?_
  refine BV ?_
  refine cTy hB ?_
  refine lCo ?_
  refine aV hB hn2.1 ?_
  refine Ad ?_
  refine OY hn2.2 (by show 2≤100000; decide) fun c' hc'=> ?_
  have hac':a≠c':=fun e=>by rw [← e,o1] at hc'; cases hc'
  refine eV ?_
  refine BJ hB (MS.set_old hc' o1) ?_
  have hE3:Ext σk ((σ2.set c' (.list [.int p.2.c0,.int p.2.c1])).set a (CM (⟨a,dd,c'⟩,p.2))):=(hE.step hc').re ha
  generalize hx3:(σ2.set c' (MO.list _)).set a (MO.inst 384 dd _)=σ3
  rw [show (σ2.set c' (.list [.int p.2.c0,.int p.2.c1])).set a (CM (⟨a,dd,c'⟩,p.2))=σ3 from hx3] at hE3
  have g1:σ3 a=some (CM (⟨a,dd,c'⟩,p.2)):=by
   rw [← hx3]; exact MS.set_self ..
  have g2:σ3 c'=some (E2 (⟨a,dd,c'⟩,p.2)):=by
   rw [← hx3,MS.set_ne hac'.symm]; exact MS.set_self ..
  have hc'k:σk c'=none:=hE.isNone hc'
  have hC3:=hCk.more hE3
  refine sCo ?_
  refine D9 ?_
  refine eV ?_
  refine aV hB hC3.ta.self ?_
  refine eV ?_
  refine IC (f:=kI) AB hC3.ta.na (by simp [Cg]; exact Nat.le_of_lt (Nat.lt_of_le_of_lt hlenk (by decide))) (fun m hm=> ?_) trivial (dl hd9)
  obtain ⟨h1,h2⟩:=hC3.ta.addNode (p:=(⟨a,dd,c'⟩,p.2)) (m:=m) hno g1 g2 (fun f=>hCk.ta.there f ha) (fun f=>hCk.ta.there f hc'k)
  have hC4:=hCk.step (h2 σk hE3 ha hc'k hCk.ta) h1
  refine Ai ?_
  refine ⟨hC4.ext _ _ hA.na,_,(Sub.cons (by rfl) (Sub.cons (by rfl) (Sub.nil))),_,rfl,hC4,?_⟩
  have e0:=ED (fun q:NA×PN=>q.2) s (⟨a,dd,c'⟩,p.2) Tk.nodes
  have e1:({Tk with nodes:=AA Tk.nodes s (⟨a,dd,c'⟩,p.2),nn:=m}:TC).pure={Tk.pure with nodes:=AA Tk.pure.nodes s p.2}:=congrArg (fun z=>({Tk.pure with nodes:=z}:TP)) e0
  rw [e1,hPk]
  show TP.mk _ _ _ _ (AA (T.pure.nodes.take i) s p.2) _ _ _=_
  rw [n2]
 ·rintro ρ σk ⟨Tk,rfl,hCk,hPk⟩ _
  have hlen:((asE kI (Cg T.nodes)).map (·.1)).length=T.pure.nodes.length:=by simp [asE,Cg,TC.pure]
  rw [hlen,List.take_length] at hPk
  have hAk:=hA.ext hCk.ext
  refine sCo ?_
  refine BV ?_
  refine aV hB hAk.self ?_
  refine eV ?_
  refine BJ hB hCk.ta.self ?_
  obtain ⟨r1,r2⟩:=hCk.ta.setRoot T.root
  have hC5:=hCk.step r2 r1
  have hP5:({Tk with root:=T.root}:TC).pure={Tk.pure with root:=T.root}:=rfl
  rw [hPk] at hP5
  generalize hx5:σk.set t' (MO.inst 585 Tk.d _)=σ5
  rw [show σk.set t' ({Tk with root:=T.root}:TC).self=σ5 from hx5] at hC5
  generalize ({Tk with root:=T.root}:TC)=T5 at hC5 hP5
  have hA5:=hA.ext hC5.ext
  refine sCo ?_
  refine BV ?_
  refine cTy hB ?_
  refine lCo ?_
  refine aV hB hA5.self ?_
  refine Ad ?_
  refine OY hA5.fa (by rw [List.length_map]; exact Nat.le_of_lt (Nat.lt_of_le_of_lt hfl (by decide))) fun c hc=> ?_
  have hC6:=hC5.more (Ext.new (o:= .list (T.free.map .int)) hc)
  refine eV ?_
  refine BJ hB hC6.ta.self ?_
  have hA7:=hC6.ta.newFree (c:=c) (u:=T.free) (MS.set_self ..) (fun f=>hC5.ta.there f hc)
  have hC7:=hC6.set hA7 (c:=c) (hC5.ext.isNone hc) (fun x hx=>by
   rcases hx with rfl | rfl | rfl | rfl | rfl | ⟨s,p,e,z⟩ | ⟨i,p,e,z⟩
   ·exact .inl (.inl rfl)
   ·exact .inl (.inr (.inl rfl))
   ·exact .inl (.inr (.inr (.inl rfl)))
   ·exact .inr rfl
   ·exact .inl (.inr (.inr (.inr (.inr (.inl rfl)))))
   ·exact .inl (.inr (.inr (.inr (.inr (.inr (.inl ⟨s,p,e,z⟩))))))
   ·exact .inl (.inr (.inr (.inr (.inr (.inr (.inr ⟨i,p,e,z⟩)))))))
  have hP7:({T5 with fa:=c,free:=T.free}:TC).pure={T5.pure with free:=T.free}:=rfl
  rw [hP5] at hP7
  generalize hx7:(σ5.set c (MO.list _)).set t' (MO.inst 585 T5.d _)=σ7
  rw [show (σ5.set c (MO.list (T.free.map MV.int))).set t' ({T5 with fa:=c,free:=T.free}:TC).self=σ7 from hx7] at hC7
  generalize ({T5 with fa:=c,free:=T.free}:TC)=T7 at hC7 hP7
  have hA7:=hA.ext hC7.ext
  refine sCo ?_
  refine BV ?_
  refine cTy hB ?_
  refine lCo ?_
  refine aV hB hA7.self ?_
  refine Ad ?_
  refine OY hA7.ua (by rw [List.length_map]; exact Nat.le_of_lt (Nat.lt_of_le_of_lt hul (by decide))) fun c9 hc9=> ?_
  have hC8:=hC7.more (Ext.new (o:= .list (T.used.map .int)) hc9)
  refine eV ?_
  refine BJ hB hC8.ta.self ?_
  have hA9:=hC8.ta.newUsed (c:=c9) (u:=T.used) (MS.set_self ..) (fun f=>hC7.ta.there f hc9)
  have hC9:=hC8.set hA9 (c:=c9) (hC7.ext.isNone hc9) (fun x hx=>by
   rcases hx with rfl | rfl | rfl | rfl | rfl | ⟨s,p,e,z⟩ | ⟨i,p,e,z⟩
   ·exact .inl (.inl rfl)
   ·exact .inl (.inr (.inl rfl))
   ·exact .inl (.inr (.inr (.inl rfl)))
   ·exact .inl (.inr (.inr (.inr (.inl rfl))))
   ·exact .inr rfl
   ·exact .inl (.inr (.inr (.inr (.inr (.inr (.inl ⟨s,p,e,z⟩))))))
   ·exact .inl (.inr (.inr (.inr (.inr (.inr (.inr ⟨i,p,e,z⟩)))))))
  refine scR ?_
  refine eV ?_
  refine q _ _ _ hC9 ?_
  have hP9:({T7 with ua:=c9,used:=T.used}:TC).pure={T7.pure with used:=T.used}:=rfl
  rw [hP9,hP7]; rfl
end
noncomputable def BH (p:Addr) (σ σ':MS):Prop:=∀ a o,a≠p→σ a=some o→σ' a=some o
theorem BH.of {p:Addr} {σ σ':MS} (h:Ext σ σ'):BH p σ σ':=fun a o U e=>h a o e
theorem BH.trans {p:Addr} {σ σ' σ'':MS} (h:BH p σ σ') (k:BH p σ' σ''):BH p σ σ'':=fun a o n e=>k a o n (h a o n e)
theorem BH.set {p:Addr} {σ:MS} {o:MO}:BH p σ (σ.set p o):=fun a o' n e=>(MS.set_ne n).trans e
structure PenA (σ:MS) (p pc:Addr) (n:Nat):Prop where
 ok:∃ (cells:List Int),∃ spot:Nat,∃ rest:Nat,σ p=some (.list [.ref pc,.int spot,.int rest])∧σ pc=some (.list (cells.map .int))∧spot≤n∧cells.length≤60∧pc≠p
theorem PenA.ext {σ σ':MS} {p pc:Addr} {n m:Nat} (h:PenA σ p pc n) (e:Ext σ σ') (l:n≤m):PenA σ' p pc m:=by
 obtain ⟨⟨cells,spot,rest,h1,h2,h3,h4,h5⟩⟩:=h
 exact ⟨⟨cells,spot,rest,e _ _ h1,e _ _ h2,Nat.le_trans h3 l,h4,h5⟩⟩
theorem DH (x y:Nat):(x:Int).fmod (y:Int)=((x%y:Nat):Int):=by
 rw [Int.fmod_eq_emod_of_nonneg _ (Int.natCast_nonneg y)]; rfl
theorem FD (x:Int) {y:Int} (h:0 < y):∃ r:Nat,x.fmod y=r∧(r:Int) < y:=by
 rw [Int.fmod_eq_emod_of_nonneg _ (Int.le_of_lt h)]
 refine ⟨(x%y).toNat,?_,?_⟩
 ·rw [Int.toNat_of_nonneg (Int.emod_nonneg _ (Int.ne_of_gt h))]
 ·rw [Int.toNat_of_nonneg (Int.emod_nonneg _ (Int.ne_of_gt h))]; exact Int.emod_lt_of_pos _ h
section
variable {w:World} {b:Heap} (hB:BaseOk w b) {d:Nat} {σ:MS} {Q:MV→MS→Prop} {p pc:Addr} {n:Nat}
include hB
theorem SJ {ns:List Int} (hn:ns.length≤63) (q:∀ σ' p pc,Ext σ σ'→σ p=none→σ pc=none→p≠pc→PenA σ' p pc 0→Q (.ref p) σ') (hd:1≤d):WC w b d (.ref 592) [.flist (ns.map .int)] σ Q:=by
 refine AR hB (dv:=[]) (D:=AO 39) [S "script"] ?_ hd ?_
 ·exact bd1 fun U=>by rfl
 refine scR ?_
 refine BW ?_
 refine lCo ?_
 refine CH [] ?_ (Sub.nil)
 refine Gk (T:="list") F.slot_list_getitem.lookup ?_
 refine eV ?_
 refine IB ?_
 refine IA ?_
 refine Ae ?_
 refine ST (n:=60) (by rw [List.length_map]; exact Nat.le_of_lt (Nat.lt_of_le_of_lt hn (by decide))) fun c hc=> ?_
 have hx:(σ.set c (.list ((ns.map MV.int).take 60))) c=some (.list ((ns.take 60).map .int)):=by rw [MS.set_self,List.map_take]
 refine ⟨_,_,fun i out σ'=>out=((ns.take 60).take i).map .int∧Ext σ σ',by simp; exact Nat.le_trans (Nat.min_le_left _ _) (by decide),Hu hx,hx,⟨rfl,Ext.new hc⟩,?_,?_⟩
 ·rintro i v out σ' hv ⟨rfl,hE⟩ hok
  rw [List.getElem?_map] at hv
  refine Af (Option.map_eq_some_iff.mp hv) fun z hz e_2=> ?_
  subst e_2
  refine ctK ?_
  refine cTy hB ?_
  refine Aq ?_
  refine Dh ⟨hok,?_,hE⟩
  have hstep:(ns.take 60).take (i+1)=(ns.take 60).take i++[z]:=by
   have:=List.take_add_one (i:=i) (l:=ns.take 60)
   rw [this,hz]; rfl
  rw [hstep,List.map_append]; rfl
 ·rintro out σ' ⟨rfl,hE⟩ hok a ha
  have hE2:=hE.step (o:= .list ((((ns.take 60).take ((ns.take 60).map MV.int).length)).map .int)) ha
  refine lI ?_
  refine lI ?_
  refine Ad ?_
  refine ⟨rfl,fun c2 hc2=> ?_⟩
  have hE3:=hE2.step (o:= .list [.ref a,.int 0,.int 0]) hc2
  refine q _ c2 a hE3 (hE2.isNone hc2) (hE.isNone ha) (fun e=>by rw [e,MS.set_self] at hc2; cases hc2) ⟨⟨_,0,0,MS.set_self ..,MS.set_old hc2 (MS.set_self ..),Nat.le_refl _,by simp; exact Nat.min_le_left _ _,fun e=>by rw [← e,MS.set_self] at hc2; cases hc2⟩⟩
theorem EE (hp:PenA σ p pc n) (hn:n≤1000000) {many:Nat} (h1:1≤many) (h2:many≤65536) (q:∀ σ' (r:Nat),r < many→PenA σ' p pc (n+1)→BH p σ σ'→Q (.int r) σ') (hd2:2≤d):WC w b d (.ref 599) [.ref p,.int many] σ Q:=by
 have hd:1≤d:=Nat.le_trans (by decide) hd2
 obtain ⟨⟨cells,spot,rest,g1,g2,g3,g4,g5⟩⟩:=hp
 have hm:(0:Int) < many:=Int.ofNat_lt.mpr (Nat.lt_of_succ_le h1)
 refine AR hB (dv:=[]) (D:=AO 40) [S "pen",S "many"] ?_ hd ?_
 ·exact bd2 fun U U=>by rfl
 refine scI ?_
 refine tCm ?_
 refine eSu ?_
 refine eV ?_
 refine Ae ?_
 refine Bm g1 (by decide) (by decide) (by rfl) ?_
 refine Ae ?_
 refine cGt ?_
 refine Ge (fun h=> ?_) (fun h=> ?_)
 ·
  refine scA ?_
  refine eBi ?_
  refine cTy hB ?_
  refine lCo ?_
  refine eSu ?_
  refine eV ?_
  refine Ae ?_
  refine Bm g1 (by decide) (by decide) (by rfl) ?_
  refine Ad ?_
  refine Dh ?_
  refine eV ?_
  refine HV ?_ (Int.ne_of_gt hm)
  rw [DH]
  refine sCo ?_
  refine D9 ?_
  refine eBi ?_
  refine cTy hB ?_
  refine lCo ?_
  refine eSu ?_
  refine eV ?_
  refine Ae ?_
  refine Bm g1 (by decide) (by decide) (by rfl) ?_
  refine Ad ?_
  refine Dh ?_
  refine eV ?_
  refine GN ?_ (Int.ne_of_gt hm) (iab h2)
  rw [AY]
  refine eV ?_
  refine Ae ?_
  refine ME g1 (by decide) (by show (2:Int) < (3:Nat); decide) (by decide) ?_
  refine scR ?_
  refine eV ?_
  refine q _ (rest%many) (Nat.mod_lt _ (Nat.lt_of_succ_le h1)) ⟨⟨cells,spot,rest/many,?_,?_,Nat.le_succ_of_le g3,g4,g5⟩⟩ BH.set
  ·exact MS.set_self ..
  ·rw [MS.set_ne g5]; exact g2
 ·refine Ai ?_
  refine scA ?_
  refine eSu ?_
  refine eV ?_
  refine Ae ?_
  refine Bm g1 (by decide) (by decide) (by rfl) ?_
  refine sCo ?_
  refine D9 ?_
  refine eBi ?_
  refine eV ?_
  refine Ae ?_
  refine CQ ?_
  refine eV ?_
  refine Ae ?_
  refine ME g1 (by decide) (by show (1:Int) < (3:Nat); decide) (by decide) ?_
  have hx:(σ.set p (.list ([MV.ref pc,.int spot,.int rest].set (1:Int).toNat (.int ((spot:Int)+1))))) p=some (.list [.ref pc,.int ((spot+1:Nat):Int),.int rest]):=by
   rw [MS.set_self]; rfl
  have hc1:(σ.set p (.list ([MV.ref pc,.int spot,.int rest].set (1:Int).toNat (.int ((spot:Int)+1))))) pc=some (.list (cells.map .int)):=by rw [MS.set_ne g5]; exact g2
  have hB1:BH p σ (σ.set p (.list ([MV.ref pc,.int spot,.int rest].set (1:Int).toNat (.int ((spot:Int)+1))))):=BH.set
  generalize σ.set p (MO.list ([MV.ref pc,MV.int spot,MV.int rest].set (1:Int).toNat (MV.int ((spot:Int)+1))))=σ1 at hx hc1 hB1
  refine scA ?_
  refine eBi ?_
  refine eBi ?_
  refine eBi ?_
  refine Ae ?_
  refine eV ?_
  refine D5 ?_ (.of_left (by decide))
  refine Ae ?_
  refine CQ ?_
  refine eBi ?_
  refine cTy hB ?_
  refine lCo ?_
  refine cBu hB ?_
  refine lCo ?_
  refine Gk (T:="list") F.slot_list_getitem.lookup ?_
  refine eSu ?_
  refine eV ?_
  refine Ae ?_
  refine Bm hx (by decide) (by decide) (by rfl) ?_
  refine IB ?_
  refine IA ?_
  refine Ae ?_
  refine N8 (n:=1) hc1 (by rw [List.length_map]; exact Nat.le_of_lt (Nat.lt_of_le_of_lt g4 (by decide))) fun c hc=> ?_
  have hx2:(σ1.set c (.list ((cells.map MV.int).take 1))) c=some (.list ((cells.take 1).map .int)):=by rw [MS.set_self,List.map_take]
  have hE1:=Ext.new (o:= .list ((cells.map MV.int).take 1)) hc
  have hp1:=hE1 _ _ hx
  have hpc1:=hE1 _ _ hc1
  have hB2:BH p σ _:=hB1.trans (BH.of hE1)
  generalize σ1.set c (MO.list ((cells.map MV.int).take 1))=σ2 at hx2 hE1 hp1 hpc1 hB2
  refine Ad ?_
  refine Tg hx2 ?_
  refine Ad ?_
  refine Dh ?_
  refine Ae ?_
  refine HV ?_ (by decide)
  refine CQ ?_
  generalize (26053*(spot:Int)+1409+(cells.take 1).sum.fmod 1000003)=cell0
  refine sCo ?_
  refine WS.mono (Q:=fun mf ρ σ'=>mf= .next∧∃ cell:Int,Sub [(S "pen",.ref p),(S "many",.int many),(S "spot",.int spot),(S "cell",.int cell)] ρ∧Ext σ2 σ') ?_ ?_
  ·refine sIf ?_
   refine tCm ?_
   refine eSu ?_
   refine eV ?_
   refine Ae ?_
   refine Bm hp1 (by decide) (by decide) (by rfl) ?_
   refine BW ?_
   refine Ad ?_
   refine ⟨rfl,fun c2 hc2=> ?_⟩
   have hE2:=Ext.new (o:= .list []) hc2
   have hp2:=hE2 _ _ hp1
   have hpc2:=hE2 _ _ hpc1
   refine Kw hpc2 (MS.set_self ..) ?_ (by rw [Dr]; show 0+1≤8*(d-1); exact n8 hd2) (Bd _ []) (Bd _ _)
   rw [EA]
   cases cells with
   | nil =>
    rw [if_neg (by simp)]
    refine Ai ?_
    exact ⟨rfl,cell0,(Sub.cons (by rfl) (Sub.cons (by rfl) (Sub.cons (by rfl) (Sub.cons (by rfl) (Sub.nil))))),hE2⟩
   | cons z zs =>
    rw [if_pos (by simp)]
    refine scA ?_
    refine eSu ?_
    refine eSu ?_
    refine eV ?_
    refine Ae ?_
    refine Bm hp2 (by decide) (by decide) (by rfl) ?_
    refine eBi ?_
    refine cTy hB ?_
    refine Aq ?_
    refine Dh ?_
    refine cBu hB ?_
    refine lCo ?_
    refine eSu ?_
    refine eV ?_
    refine Ae ?_
    refine Bm hp2 (by decide) (by decide) (by rfl) ?_
    refine Ad ?_
    refine E4 hpc2 (by rw [List.length_map]; exact Nat.le_of_lt (Nat.lt_of_le_of_lt g4 (by decide))) ?_
    refine HV ?_ (by simp; exact Int.ne_of_gt (Int.succ_ofNat_pos _))
    rw [List.length_map,DH]
    have hlt:spot%(z::zs).length < (z::zs).length:=Nat.mod_lt _ (by simp)
    refine Bm hpc2 (Int.natCast_nonneg _) (Int.lt_of_le_of_lt (Int.ofNat_le.mpr (Nat.le_of_lt hlt)) (Int.lt_of_le_of_lt (Int.ofNat_le.mpr g4) (by decide))) (x:= .int ((z::zs).getD (spot%(z::zs).length) 0)) ?_ ?_
    ·have e:(z::zs)[spot%(z::zs).length]?=some ((z::zs).getD (spot%(z::zs).length) 0):=by
      rw [List.getD_eq_getElem?_getD,List.getElem?_eq_getElem hlt]; rfl
     rw [Int.toNat_natCast,List.getElem?_map,e]; rfl
    ·refine Ai ?_
     exact ⟨rfl,_,(Sub.cons (by rfl) (Sub.cons (by rfl) (Sub.cons (by rfl) (Sub.cons (by rfl) (Sub.nil))))),hE2⟩
  rintro mf ρ σ3 ⟨rfl,cell,hsub,hE3⟩
  refine WS.sub ?_ hsub
  have hp3:=hE3 _ _ hp1
  have hpc3:=hE3 _ _ hpc1
  have hB3:BH p σ σ3:=hB2.trans (BH.of hE3)
  have hpen:∀ r':Nat,∀ σ',σ' p=some (.list [.ref pc,.int ((spot+1:Nat):Int),.int r'])→σ' pc=some (.list (cells.map .int))→PenA σ' p pc (n+1):=fun r' σ' k1 k2=>⟨⟨cells,spot+1,r',k1,k2,Nat.add_le_add g3 (by decide),g4,g5⟩⟩
  refine scI ?_
  refine Lq ?_
  refine Dm ?_
  refine tCm ?_
  refine eV ?_
  refine cBu hB ?_
  refine lCo ?_
  refine eSu ?_
  refine eV ?_
  refine Ae ?_
  refine Bm hp3 (by decide) (by decide) (by rfl) ?_
  refine Ad ?_
  refine E4 hpc3 (by rw [List.length_map]; exact Nat.le_of_lt (Nat.lt_of_le_of_lt g4 (by decide))) ?_
  refine cLt ?_
  generalize (decide ((spot:Int) < ((cells.map MV.int).length:Nat)))=b1
  have last:WS w b ⟨(An (AO 40)).names,d-1⟩ (execs ((Dw (AO 40)).drop 6)) [(S "pen",.ref p),(S "many",.int many),(S "spot",.int spot),(S "cell",.int cell)] σ3 fun mf U σ'=>Q mf.val σ':=by
   refine scA ?_
   refine eBi ?_
   refine cTy hB ?_
   refine lCo ?_
   refine eBi ?_
   refine eBi ?_
   refine eBi ?_
   refine eBi ?_
   refine cTy hB ?_
   refine Aq ?_
   refine Dh ?_
   refine Ae ?_
   refine HV ?_ (by decide)
   refine Af (FD cell (y:=2147483587) (by decide)) fun r1 e1 l1=> ?_
   rw [e1]
   refine eBi ?_
   refine Ae ?_
   refine eV ?_
   refine D5 ?_ (.of_left (by decide))
   refine CQ ?_
   refine Ae ?_
   refine CQ ?_
   refine Ae ?_
   refine FS ?_ (by decide) (by decide) (show r1+26053*spot+1409 < 2^64 from Nat.lt_of_le_of_lt (Nat.add_le_add_right (Nat.add_le_add (Nat.le_of_lt (Int.ofNat_lt.mp l1)) (Nat.mul_le_mul_left _ (Nat.le_trans g3 hn))) _) (by decide))
   refine Ad ?_
   refine Dh ?_
   refine Ae ?_
   refine HV ?_ (by decide)
   generalize ((r1:Int)+26053*(spot:Nat)+1409)^((5:Int)).toNat=big1
   refine Af (FD big1 (y:=2147483629) (by decide)) fun r2 e2 l2=> ?_
   rw [e2]
   refine scA ?_
   refine eBi ?_
   refine cTy hB ?_
   refine lCo ?_
   refine eBi ?_
   refine eBi ?_
   refine eBi ?_
   refine eBi ?_
   refine eV ?_
   refine eBi ?_
   refine eBi ?_
   refine Ae ?_
   refine eV ?_
   refine D5 ?_ (.of_left (by decide))
   refine Ae ?_
   refine CQ ?_
   refine D5 ?_ (.of_left (intBits_le_64 ing (Int.lt_of_lt_of_le l2 (by decide))))
   refine eBi ?_
   refine eBi ?_
   refine Ae ?_
   refine eV ?_
   refine D5 ?_ (.of_left (by decide))
   refine eV ?_
   refine D5 ?_ (.of_right (intBits_le_64 ing (Int.lt_of_le_of_lt (Int.ofNat_le.mpr g3) (Int.lt_of_le_of_lt (Int.ofNat_le.mpr hn) (by decide)))))
   refine CQ ?_
   refine Ae ?_
   refine CQ ?_
   refine Ae ?_
   have hs:=Nat.le_trans g3 hn
   refine FS ?_ (by decide) (by decide) (show r2*(2*spot+3203)+26053*spot*spot+23 < 2^64 from Nat.lt_of_le_of_lt (Nat.add_le_add_right (Nat.add_le_add (Nat.mul_le_mul (Nat.le_of_lt (Int.ofNat_lt.mp l2)) (Nat.add_le_add_right (Nat.mul_le_mul_left 2 hs) _)) (Nat.mul_le_mul (Nat.mul_le_mul_left _ hs) hs)) _) (by decide))
   refine Ad ?_
   refine Dh ?_
   refine Ae ?_
   refine HV ?_ (by decide)
   generalize ((r2:Int)*(2*(spot:Int)+3203)+26053*(spot:Int)*(spot:Int)+23)^((3:Int)).toNat=big2
   refine Af (FD big2 (y:=2147483579) (by decide)) fun r3 e3 l3=> ?_
   rw [e3]
   refine scR ?_
   refine eBi ?_
   refine cTy hB ?_
   refine lCo ?_
   refine eBi ?_
   refine eV ?_
   refine Ae ?_
   refine GN ?_ (by decide) (by decide)
   refine Ad ?_
   refine Dh ?_
   refine eV ?_
   refine HV ?_ (Int.ne_of_gt hm)
   refine Af (FD ((r3:Int).fdiv 32) hm) fun r4 e4 l4=> ?_
   rw [e4]
   exact q σ3 r4 (Int.ofNat_lt.mp l4) (hpen rest σ3 hp3 hpc3) hB3
  cases b1 with
  | false =>
   rw [if_neg (by decide),if_neg (by decide)]
   refine Ai ?_
   exact last
  | true =>
   rw [if_pos rfl]
   refine Dm ?_
   refine tCm ?_
   refine cBu hB ?_
   refine Aq ?_
   refine Sq ?_
   refine eBi ?_
   refine Ae ?_
   refine Ae ?_
   refine FS ?_ (by decide) (by decide) (by decide)
   refine cGe ?_
   refine Ge (fun h=> ?_) (fun h=> ?_)
   ·refine Pu ?_
    rw [if_pos rfl]
    refine scA ?_
    refine eBi ?_
    refine eBi ?_
    refine Ae ?_
    refine eBi ?_
    refine cBu hB ?_
    refine Aq ?_
    refine Sq ?_
    refine eBi ?_
    refine Ae ?_
    refine Ae ?_
    refine FS ?_ (by decide) (by decide) (by decide)
    refine CZ ?_
    refine D5 ?_ (.of_left (by decide))
    refine cTy hB ?_
    refine lCo ?_
    refine eCm ?_
    refine eV ?_
    refine Ae ?_
    refine cLt ?_
    refine Ad ?_
    refine O0 ?_
    refine CQ ?_
    have hge:((10:Int)^((18:Int)).toNat)≤if cell < 0 then -cell else cell:=h
    obtain ⟨great,hgr⟩:∃ great:Nat,(2:Int)*((if cell < 0 then -cell else cell)-10^((18:Int)).toNat)+(if decide (cell < 0)=true then 1 else 0)=great:=by
     generalize (10:Int)^((18:Int)).toNat=z at hge ⊢
     refine ⟨(2*((if cell < 0 then -cell else cell)-z)+(if decide (cell < 0)=true then 1 else 0)).toNat,(Int.toNat_of_nonneg ?_).symm⟩
     split at hge <;> split <;> lia
    rw [hgr]
    refine sCo ?_
    refine D9 ?_
    refine eBi ?_
    refine cTy hB ?_
    refine Aq ?_
    refine Dh ?_
    refine eV ?_
    refine GN ?_ (Int.ne_of_gt hm) (iab h2)
    rw [AY]
    refine eV ?_
    refine Ae ?_
    refine ME hp3 (by decide) (by show (2:Int) < (3:Nat); decide) (by decide) ?_
    refine scR ?_
    refine eBi ?_
    refine cTy hB ?_
    refine Aq ?_
    refine Dh ?_
    refine eV ?_
    refine HV ?_ (Int.ne_of_gt hm)
    rw [DH]
    refine q _ (great%many) (Nat.mod_lt _ (Nat.lt_of_succ_le h1)) (hpen (great/many) _ ?_ ?_) (hB3.trans BH.set)
    ·exact MS.set_self ..
    ·rw [MS.set_ne g5]; exact hpc3
   ·rw [if_neg (by decide)]
    refine Ai ?_
    exact last
end
theorem MA (x y:Nat):((x:Int))^(((y:Nat):Int)).toNat=((x^y:Nat):Int):=by rw [Int.toNat_natCast,Int.natCast_pow]
theorem Bu (y:Nat):(2:Int)^(((y:Nat):Int)).toNat=((2^y:Nat):Int):=MA 2 y
theorem SZ.bd {size:Nat} (h:SZ size):2^size≤65536:=by rcases h with rfl | rfl <;> decide
noncomputable def pfx (p:Nat×Nat):Int×Int:=((p.1:Int),(p.2:Int))
theorem GQ {p q:Nat×Nat} (h:pfx p=pfx q):p=q:=by
 unfold pfx at h
 simp only [Prod.mk.injEq,Int.natCast_inj] at h
 exact Prod.ext h.1 h.2
noncomputable def kP (p:Nat×Nat):MV:= .tup [.int p.1,.int p.2]
section
variable {w:World} {b:Heap} (hB:BaseOk w b) {d:Nat} {σ:MS} {Q:MV→MS→Prop} {p pc:Addr} {n:Nat} {size:Nat}
include hB
theorem JJ (hp:PenA σ p pc n) (hn:n≤1000000) {c:Addr} {xs:List MV} (hc:σ c=some (.list xs)) (hcp:c≠p) (h1:1≤xs.length) (h2:xs.length≤1000) (q:∀ σ' (r:Nat) x,xs[r]?=some x→PenA σ' p pc (n+1)→BH p σ σ'→Q x σ') (hd3:3≤d):WC w b d (.ref 606) [.ref p,.ref c] σ Q:=by
 have hd:1≤d:=Nat.le_trans (by decide) hd3
 refine AR hB (dv:=[]) (D:=AO 41) [S "pen",S "some"] ?_ hd ?_
 ·exact bd2 fun U U=>by rfl
 refine scR ?_
 refine eSu ?_
 refine eV ?_
 refine cG hB ?_
 refine lV ?_
 refine lCo ?_
 refine cBu hB ?_
 refine Aq ?_
 refine E4 hc (Nat.le_of_lt (Nat.lt_of_le_of_lt h2 (by decide))) ?_
 refine Ad ?_
 refine EE hB hp hn h1 (Nat.le_of_lt (Nat.lt_of_le_of_lt h2 (by decide))) (fun σ1 r hr hp1 hB1=> ?_) (dl hd3)
 obtain ⟨x,hx⟩:∃ x,xs[r]?=some x:=⟨_,List.getElem?_eq_getElem hr⟩
 refine Bm (hB1 _ _ hcp hc) (Int.natCast_nonneg _) (Int.lt_of_le_of_lt (Int.ofNat_le.mpr (Nat.le_of_lt hr)) (Int.lt_of_le_of_lt (Int.ofNat_le.mpr h2) (by decide))) (by rw [Int.toNat_natCast]; exact hx) ?_
 exact q _ r x hx hp1 hB1
theorem K3 (hp:PenA σ p pc n) (hn:n≤900000) (hs:SZ size) (q:∀ σ' (l wo:Nat),l≤size→wo < 2^size→PenA σ' p pc (n+4)→BH p σ σ'→Q (kP (l,wo)) σ') (hd4:4≤d):WC w b d (.ref 613) [.ref p,.int size] σ Q:=by
 have hd:1≤d:=Nat.le_trans (by decide) hd4
 have h16:=hs.le
 have h8:8≤size:=by rcases hs with rfl | rfl <;> decide
 have hbd:=hs.bd
 have hpo:=Nat.two_pow_pos size
 refine AR hB (dv:=[]) (D:=AO 42) [S "pen",S "size"] ?_ hd ?_
 ·exact bd2 fun U U=>by rfl
 refine scA ?_
 refine cG hB ?_
 refine lV ?_
 refine lCo ?_
 refine BW ?_
 refine lI ?_
 refine lI ?_
 refine lI ?_
 refine lI ?_
 refine lI ?_
 refine lV ?_
 refine lV ?_
 refine lCo ?_
 refine eBi ?_
 refine eV ?_
 refine Ae ?_
 refine CZ ?_
 refine lCo ?_
 refine cG hB ?_
 refine lV ?_
 refine lCo ?_
 refine eBi ?_
 refine eV ?_
 refine Ae ?_
 refine CQ ?_
 refine Ad ?_
 have e1:((size:Int)+1)=((size+1:Nat):Int):=Int.ofNat_add_one_out _
 rw [e1]
 refine EE hB hp (Nat.le_of_lt (Nat.lt_of_le_of_lt hn (by decide))) (Nat.le_add_left _ _) (Nat.succ_le_of_lt (Nat.lt_of_le_of_lt h16 (by decide))) (fun σ1 r hr hp1 hB1=> ?_) (dl hd4)
 refine Ad ?_
 refine ⟨rfl,fun c hc=> ?_⟩
 have hcp:c≠p:=fun e=>by obtain ⟨⟨_,_,_,g,_⟩⟩:=hp1; rw [← e,hc] at g; cases g
 have hE1:=Ext.new (o:= .list [.int 0,.int 1,.int 2,.int 3,.int 4,.int size,.int size,.int ((size:Int)-1),.int r]) hc
 refine Ad ?_
 refine JJ hB (hp1.ext hE1 (Nat.le_refl _)) (Nat.succ_le_of_lt (Nat.lt_of_le_of_lt hn (by decide))) (MS.set_self ..) hcp (by show 1≤9; decide) (by show 9≤1000; decide) (fun σ2 j x hx hp2 hB2=> ?_) (dl hd4)
 have hl:∃ l:Nat,x= .int l∧l≤size:=by
  match j,hx with
  | 0,h=>cases h; exact ⟨0,rfl,Nat.le_add_left _ _⟩
  | 1,h=>cases h; exact ⟨1,rfl,Nat.le_of_add_left_le h8⟩
  | 2,h=>cases h; exact ⟨2,rfl,Nat.le_of_add_left_le h8⟩
  | 3,h=>cases h; exact ⟨3,rfl,Nat.le_of_add_left_le h8⟩
  | 4,h=>cases h; exact ⟨4,rfl,Nat.le_of_add_left_le h8⟩
  | 5,h=>cases h; exact ⟨size,rfl,Nat.le_refl _⟩
  | 6,h=>cases h; exact ⟨size,rfl,Nat.le_refl _⟩
  | 7,h=>cases h; exact ⟨size-1,by congr 1; exact Eq.symm (Int.natCast_sub (Nat.le_of_add_left_le h8)),Nat.sub_le _ _⟩
  | 8,h=>cases h; exact ⟨r,rfl,Nat.le_of_lt_succ hr⟩
  | k+9,h=>cases h
 obtain ⟨l,rfl,hl⟩:=hl
 have hB02:=hB1.trans ((BH.of hE1).trans hB2)
 refine scA ?_
 refine cG hB ?_
 refine lV ?_
 refine lCo ?_
 refine BW ?_
 refine lI ?_
 refine lCo ?_
 refine eBi ?_
 refine eBi ?_
 refine Ae ?_
 refine eV ?_
 refine FS ?_ (Int.natCast_nonneg _) (Int.le_trans (Int.ofNat_le.mpr h16) (by decide)) (by decide)
 refine Ae ?_
 refine CZ ?_
 refine lCo ?_
 refine eBi ?_
 refine Ae ?_
 refine eBi ?_
 refine eV ?_
 refine Ae ?_
 refine CZ ?_
 have e2:((size:Int)-1)=((size-1:Nat):Int):=Eq.symm (Int.natCast_sub (Nat.le_of_add_left_le h8))
 have e3:((size:Int)-2)=((size-2:Nat):Int):=Eq.symm (Int.natCast_sub (Nat.le_of_add_left_le h8))
 have e4:((size:Int)-3)=((size-3:Nat):Int):=Eq.symm (Int.natCast_sub (Nat.le_of_add_left_le h8))
 rw [e2]
 refine FS ?_ (Int.natCast_nonneg _) (il (Nat.le_trans (Nat.sub_le _ _) h16)) (by decide)
 refine lCo ?_
 refine eBi ?_
 refine Ae ?_
 refine eBi ?_
 refine Ae ?_
 refine eBi ?_
 refine eV ?_
 refine Ae ?_
 refine CZ ?_
 rw [e3]
 refine FS ?_ (Int.natCast_nonneg _) (il (Nat.le_trans (Nat.sub_le _ _) h16)) (by decide)
 refine D5 ?_ (.of_left (by decide))
 refine lCo ?_
 refine eBi ?_
 refine Ae ?_
 refine eBi ?_
 refine Ae ?_
 refine eBi ?_
 refine eV ?_
 refine Ae ?_
 refine CZ ?_
 rw [e4]
 refine FS ?_ (Int.natCast_nonneg _) (il (Nat.le_trans (Nat.sub_le _ _) h16)) (by decide)
 refine D5 ?_ (.of_left (by decide))
 refine lCo ?_
 refine cG hB ?_
 refine lV ?_
 refine lCo ?_
 refine eBi ?_
 refine Ae ?_
 refine eV ?_
 refine FS ?_ (Int.natCast_nonneg _) (Int.le_trans (Int.ofNat_le.mpr h16) (by decide)) (by decide)
 rw [Bu,Bu,Bu,Bu]
 refine Ad ?_
 refine EE hB hp2 (Nat.le_trans (Nat.add_le_add_right (Nat.add_le_add_right hn _) _) (by decide)) (Nat.succ_le_of_lt hpo) hbd (fun σ3 r2 hr2 hp3 hB3=> ?_) (dl hd4)
 refine Ad ?_
 refine ⟨rfl,fun c2 hc2=> ?_⟩
 have hcp2:c2≠p:=fun e=>by obtain ⟨⟨_,_,_,g,_⟩⟩:=hp3; rw [← e,hc2] at g; cases g
 have hE3:=Ext.new (o:= .list [.int 0,.int (((2^size:Nat):Int)-1),.int ((2^(size-1):Nat):Int),.int (3*((2^(size-2):Nat):Int)),.int (5*((2^(size-3):Nat):Int)),.int r2]) hc2
 refine Ad ?_
 refine JJ hB (hp3.ext hE3 (Nat.le_refl _)) (Nat.le_trans (Nat.add_le_add_right (Nat.add_le_add_right (Nat.add_le_add_right hn _) _) _) (by decide)) (MS.set_self ..) hcp2 (by show 1≤6; decide) (by show 6≤1000; decide) (fun σ4 j x hx hp4 hB4=> ?_) (dl hd4)
 have hw:∃ wo:Nat,x= .int wo∧wo < 2^size:=by
  have q1:2^size=2^(size-1)*2:=by rw [← Nat.pow_succ]; congr 1; exact (Nat.sub_add_cancel (Nat.le_trans (by decide:1≤8) h8)).symm
  have q2:2^size=2^(size-2)*4:=by
   have:2^(size-2)*2^2=2^size:=by rw [← Nat.pow_add,Nat.sub_add_cancel (Nat.le_trans (by decide:2≤8) h8)]
   exact Eq.symm this
  have q3:2^size=2^(size-3)*8:=by
   have:2^(size-3)*2^3=2^size:=by rw [← Nat.pow_add,Nat.sub_add_cancel (Nat.le_trans (by decide:3≤8) h8)]
   exact Eq.symm this
  exact (List.mem_cons.mp (List.mem_of_getElem? hx)).elim (fun e=>⟨0,e,hpo⟩) fun h=>(List.mem_cons.mp h).elim (fun e=>⟨2^size-1,e.trans (congrArg MV.int (Int.natCast_sub (Nat.succ_le_of_lt hpo)).symm),Nat.sub_lt hpo (by decide)⟩) fun h=>(List.mem_cons.mp h).elim (fun e=>⟨2^(size-1),e,(Nat.pow_lt_pow_iff_pow_mul_le_pow (by decide)).mpr (Nat.le_of_eq (Eq.symm q1))⟩) fun h=>(List.mem_cons.mp h).elim (fun e=>⟨3*2^(size-2),e,by rw [q2]; exact Qw (Nat.two_pow_pos _) (by decide)⟩) fun h=>(List.mem_cons.mp h).elim (fun e=>⟨5*2^(size-3),e,by rw [q3]; exact Qw (Nat.two_pow_pos _) (by decide)⟩) fun h=>⟨r2,List.mem_singleton.mp h,hr2⟩
 obtain ⟨wo,rfl,hwo⟩:=hw
 refine scR ?_
 refine eTu ?_
 refine Aq ?_
 exact ⟨rfl,q σ4 l wo hl hwo hp4 (hB02.trans (hB3.trans ((BH.of hE3).trans hB4)))⟩
theorem ES {l wo:Nat} (hs:SZ size) (q:∀ σ',Ext σ σ'→Q (.bytes (BY size l wo)) σ') (hd:1≤d):WC w b d (.ref 618) [.int l,.int wo,.int size] σ Q:=by
 have h16:=hs.le
 refine AR hB (dv:=[]) (D:=AO 43) [S "length",S "worth",S "size"] ?_ hd ?_
 ·exact bd3 fun U U U=>by rfl
 refine sCo ?_
 refine Ob [(S "length",.int l)] ?_ (Sub.cons (by rfl) (Sub.nil))
 refine cTy hB ?_
 refine lI ?_
 refine Ad ?_
 refine CE fun c hc=> ?_
 refine ⟨_,_,fun i out σ'=>out=((CD l 4).take i).map (fun n:Nat=>MV.int n)∧Ext σ σ',by decide,Fb (n:=4) (MS.set_self ..) (by decide),trivial,⟨rfl,Ext.new hc⟩,?_,?_⟩
 ·rintro i v out σ' hv ⟨rfl,hE⟩ _
  obtain ⟨hi,rfl⟩:=Bc hv
  refine ctK ?_
  refine eBi ?_
  refine cTy hB ?_
  refine lCo ?_
  refine eBi ?_
  refine eV ?_
  refine eBi ?_
  refine Ae ?_
  refine eV ?_
  refine FS ?_ (Int.natCast_nonneg _) (Int.ofNat_le.mpr (Nat.le_of_lt (Nat.lt_of_lt_of_le hi (by decide)))) (by decide)
  have e1:=MA 256 i
  rw [show ((256:Nat):Int)=256 from rfl] at e1
  rw [e1]
  refine GN ?_ (by have:0 < 256^i:=Nat.pow_pos (by decide); exact Int.natCast_ne_zero_iff_pos.mpr this) ?_
  ·rw [AY]
   refine Ad ?_
   refine Dh ?_
   refine Ae ?_
   refine HV ?_ (by decide)
   rw [show (256:Int)=((256:Nat):Int) from rfl,DH]
   refine Cv trivial ?_ hE
   have hx:(CD l 4)[i]?=some (l/256^i%256):=by simp [CD,hi]
   have hstep:(CD l 4).take (i+1)=(CD l 4).take i++[l/256^i%256]:=by
    have:=List.take_add_one (i:=i) (l:=CD l 4)
    rw [this,hx]; rfl
   rw [hstep,List.map_append]; rfl
  ·have:256^i≤4294967296:=Nat.pow_le_pow_right (n:=256) (by decide) (show i≤4 by lia)
   rw [Int.natAbs_natCast]
   exact Nat.lt_of_le_of_lt this (by decide)
 ·rintro out σ1 ⟨rfl,hE1⟩ _ a ha
  have el:((CD l 4).take ((List.range 4).map fun i:Nat=>MV.int i).length)=CD l 4:=List.take_of_length_le (by rw [B2]; decide)
  rw [el]
  have hE2:=hE1.step (o:= .list ((CD l 4).map fun n:Nat=>MV.int n)) ha
  refine scR ?_
  refine cTy hB ?_
  refine lCo ?_
  refine eBi ?_
  refine eV ?_
  refine CH [(S "worth",.int wo),(S "size",.int size)] ?_ (Sub.cons (by rfl) (Sub.cons (by rfl) (Sub.nil)))
  refine cTy hB ?_
  refine lCo ?_
  refine eBi ?_
  refine eV ?_
  refine Ae ?_
  refine GN ?_ (by decide) (by decide)
  rw [show (8:Int)=((8:Nat):Int) from rfl,AY]
  refine Ad ?_
  refine CE fun c2 hc2=> ?_
  have hE3:=hE2.step (o:= .rng ((size/8:Nat):Int)) hc2
  refine ⟨fun σ'=>σ' a=some (.list ((CD l 4).map fun n:Nat=>MV.int n)),(List.range (size/8)).map (fun i:Nat=>MV.int i),fun i out σ'=>out=((Ch size wo).take i).map (fun n:Nat=>MV.int n)∧Ext σ σ',by rw [List.length_map,List.length_range]; exact Nat.le_trans (Nat.div_le_div_right h16) (by decide),?_,MS.set_old hc2 (MS.set_self ..),⟨rfl,hE3⟩,?_,?_⟩
  ·have:=Fb (w:=w) (b:=b) (d:=d-1) (n:=size/8) (MS.set_self (σ1.set a (.list ((CD l 4).map fun n:Nat=>MV.int n))) c2 (.rng ((size/8:Nat):Int))) (Nat.le_trans (Nat.div_le_div_right h16) (by decide))
   exact fun A s v P rm S r k=>this A s v P rm S r fun ia s' pos it p0 fr lo ow g os kk=>k ia s' pos ⟨it.obj,it.keep,fun i d A s σ v P rm S U p e h=>it.next i d A s σ v P rm S trivial p e h,it.again,fun d A s σ P rm S U p h=>it.stop d A s σ P rm S trivial p h⟩ p0 fr lo ow g os kk
  ·rintro i v out σ' hv ⟨rfl,hE⟩ hok
   obtain ⟨hi,rfl⟩:=Bc hv
   have hsz:((size:Int)-8-8*(i:Nat))=((size-8-8*i:Nat):Int):=cs8 hi
   refine ctK ?_
   refine eBi ?_
   refine cTy hB ?_
   refine lCo ?_
   refine eBi ?_
   refine eV ?_
   refine eBi ?_
   refine Ae ?_
   refine eBi ?_
   refine eBi ?_
   refine eV ?_
   refine Ae ?_
   refine CZ ?_
   refine eBi ?_
   refine Ae ?_
   refine eV ?_
   refine D5 ?_ (.of_left (by decide))
   refine CZ ?_
   show WO2 w b _ _ (MV.int (2:Int)) (MV.int ((size:Int)-8-8*(i:Nat))) _ _
   rw [hsz]
   refine FS ?_ (Int.natCast_nonneg _) (il (Nat.le_trans (Nat.sub_le _ _) (Nat.le_trans (Nat.sub_le _ _) h16))) (by decide)
   rw [Bu]
   have hpp:=Nat.two_pow_pos (size-8-8*i)
   have hpb:2^(size-8-8*i)≤2^16:=Nat.pow_le_pow_right (by decide) (Nat.le_trans (Nat.le_trans (Nat.sub_le _ _) (Nat.sub_le _ _)) h16)
   have e16:2^16=65536:=rfl
   refine GN ?_ (Int.natCast_ne_zero_iff_pos.mpr hpp) (iab (Nat.le_trans hpb (Nat.le_of_eq e16)))
   rw [AY]
   refine Ad ?_
   refine Dh ?_
   refine Ae ?_
   refine HV ?_ (by decide)
   rw [show (256:Int)=((256:Nat):Int) from rfl,DH]
   refine Cv hok ?_ hE
   have hx:(Ch size wo)[i]?=some (wo/2^(size-8-8*i)%256):=by simp [Ch,hi]
   have hstep:(Ch size wo).take (i+1)=(Ch size wo).take i++[wo/2^(size-8-8*i)%256]:=by
    have:=List.take_add_one (i:=i) (l:=Ch size wo)
    rw [this,hx]; rfl
   rw [hstep,List.map_append]; rfl
  ·rintro out σ4 ⟨rfl,hE4⟩ hok a2 ha2
   have el2:((Ch size wo).take ((List.range (size/8)).map fun i:Nat=>MV.int i).length)=Ch size wo:=List.take_of_length_le (by rw [CO,List.length_map,List.length_range]; exact Nat.le_refl _)
   rw [el2]
   refine SN (MS.set_old ha2 hok) (MS.set_self ..) (by simp [B2,CO]; exact Nat.le_trans (Nat.add_le_add_left (Nat.div_le_div_right h16) _) (by decide)) fun z hz=> ?_
   refine Ad ?_
   have eb:(CD l 4).map (fun n:Nat=>MV.int n)++(Ch size wo).map (fun n:Nat=>MV.int n)=(Eo (CD l 4++Ch size wo)).map .int:=by rw [MI,List.map_append]
   rw [eb]
   refine GU (MS.set_self ..) ?_ (by simp [Eo,B2,CO]; exact Nat.le_trans (Nat.add_le_add_left (Nat.div_le_div_right h16) _) (by decide)) ?_
   ·intro x hx
    refine Af (List.mem_map.mp hx) fun y hy e_2=> ?_
    subst e_2
    have:y < 256:=(List.mem_append.mp hy).elim GS FJ
    exact And.intro (Int.natCast_nonneg _) (Int.ofNat_lt.mpr this)
   ·unfold Eo
    rw [IV]
    exact q _ ((hE4.step ha2).step hz)
theorem Go {l wo:Nat} (hl:l≤size) (h16:size≤16) (hw:wo < 2^size) (hbd:2^size≤65536) (q:Q (kP (l,cut size wo l)) σ) (hd:1≤d):WC w b d (.ref 625) [.int l,.int wo,.int size] σ Q:=by
 have e:((size:Int)-(l:Int))=((size-l:Nat):Int):=Eq.symm (Int.natCast_sub hl)
 have hpp:=Nat.two_pow_pos (size-l)
 have hpb:2^(size-l)≤2^16:=Nat.pow_le_pow_right (by decide) (Nat.le_trans (Nat.sub_le _ _) h16)
 have e16:2^16=65536:=rfl
 refine AR hB (dv:=[]) (D:=AO 44) [S "length",S "worth",S "size"] ?_ hd ?_
 ·exact bd3 fun U U U=>by rfl
 refine scR ?_
 refine eTu ?_
 refine lV ?_
 refine lCo ?_
 refine eBi ?_
 refine cTy hB ?_
 refine lCo ?_
 refine eBi ?_
 refine eV ?_
 refine eBi ?_
 refine Ae ?_
 refine eBi ?_
 refine eV ?_
 refine eV ?_
 refine CZ ?_
 rw [e]
 refine FS ?_ (Int.natCast_nonneg _) (il (Nat.le_trans (Nat.sub_le _ _) h16)) (by decide)
 rw [Bu]
 refine GN ?_ (Int.natCast_ne_zero_iff_pos.mpr hpp) (iab (Nat.le_trans hpb (Nat.le_of_eq e16)))
 rw [AY]
 refine Ad ?_
 refine Dh ?_
 refine eBi ?_
 refine Ae ?_
 refine eBi ?_
 refine eV ?_
 refine eV ?_
 refine CZ ?_
 rw [e]
 refine FS ?_ (Int.natCast_nonneg _) (il (Nat.le_trans (Nat.sub_le _ _) h16)) (by decide)
 rw [Bu]
 refine D5 ?_ (.of_right (intBits_le_64 ing (Int.lt_of_le_of_lt (Int.ofNat_le.mpr hpb) (by decide))))
 rw [← Int.natCast_mul]
 refine Ad ?_
 exact ⟨rfl,q⟩
theorem Lb {l wo:Nat} {o:Nat×Nat} (ho:o.1≤size) (h16:size≤16) (hw:wo < 2^size) (hbd:2^size≤65536) (q:Q (.bool (decide (o.1≤l) && (cut size wo o.1==o.2))) σ) (hd2:2≤d):WC w b d (.ref 632) [kP o,.int l,.int wo,.int size] σ Q:=by
 have hd:1≤d:=Nat.le_trans (by decide) hd2
 refine AR hB (dv:=[]) (D:=AO 45) [S "one",S "length",S "worth",S "size"] ?_ hd ?_
 ·exact bd4 fun U U U U=>by rfl
 refine scR ?_
 refine M3 ?_
 refine Pp ?_
 refine eCm ?_
 refine eSu ?_
 refine eV ?_
 refine Ae ?_
 refine CT (by decide) (by decide) (by rfl) ?_
 refine eV ?_
 refine cLe ?_
 refine AQ _ rfl ?_
 by_cases h:o.1≤l
 ·refine Ec (decide_eq_true (Int.ofNat_le.mpr h)) ?_
  rw [decide_eq_true h,Bool.true_and] at q
  refine QF ?_
  refine eCm ?_
  refine cG hB ?_
  refine lCo ?_
  refine eSu ?_
  refine eV ?_
  refine Ae ?_
  refine CT (by decide) (by decide) (by rfl) ?_
  refine Aq ?_
  refine Go hB ho h16 hw hbd ?_ (dl hd2)
  refine eV ?_
  refine kEq ?_ (by show 1≤8*(d-1); exact n8 hd2 (Nat.le_of_lt_succ (by decide))) (by rfl) (by rfl)
  have:eqM (kP (o.1,cut size wo o.1)) (kP o)=(cut size wo o.1==o.2):=by
   show ((o.1:Int)==(o.1:Int) && (((cut size wo o.1:Nat):Int)==(o.2:Int) && true))=_
   rw [beq_self_eq_true,Bool.true_and,Bool.and_true]
   by_cases e:cut size wo o.1=o.2
   ·rw [e]; simp
   ·rw [beq_eq_false_iff_ne.mpr e,beq_eq_false_iff_ne]; exact Nat.ToInt.of_diseq rfl rfl e
  rw [this]
  exact q
 ·refine B7 (by simp; exact Nat.lt_of_not_le h) ?_
  rw [decide_eq_false h,Bool.false_and] at q
  exact q
end
noncomputable abbrev AU:=List ((Nat×Nat)×(Int×Array UInt8))
noncomputable def Ed:AU→Nat×Nat→Int×Array UInt8→AU
 | [],k,v=>[(k,v)]
 | (j,u)::r,k,v=>if j=k then (j,v)::r else (j,u)::Ed r k v
noncomputable def Gg:AU→Nat×Nat→AU
 | [],_=>[]
 | (j,u)::r,k=>if j=k then r else (j,u)::Gg r k
noncomputable def Fc (v:Int×Array UInt8):MV:= .tup [.int v.1,.bytes v.2]
noncomputable def AJ (H:AU):List ((Int×Int)×MV):=H.map fun e=>(pfx e.1,Fc e.2)
theorem LQ (k:Nat×Nat) (v:Int×Array UInt8):∀ H:AU,D0 (AJ H) (pfx k) (Fc v)=AJ (Ed H k v)
 | []=>rfl
 | (j,u)::r=>by
  show (if pfx j=pfx k then (pfx j,Fc v)::AJ r else (pfx j,Fc u)::D0 (AJ r) (pfx k) (Fc v))=AJ (if j=k then (j,v)::r else (j,u)::Ed r k v)
  by_cases h:j=k
  ·subst h; rw [if_pos rfl,if_pos rfl]; rfl
  ·rw [if_neg fun e=>h (GQ e),if_neg h,LQ k v r]; rfl
theorem OS (k:Nat×Nat):∀ H:AU,FI (AJ H) (pfx k)=AJ (Gg H k)
 | []=>rfl
 | (j,u)::r=>by
  show (if pfx j=pfx k then AJ r else (pfx j,Fc u)::FI (AJ r) (pfx k))=AJ (if j=k then r else (j,u)::Gg r k)
  by_cases h:j=k
  ·subst h; rw [if_pos rfl,if_pos rfl]
  ·rw [if_neg fun e=>h (GQ e),if_neg h,OS k r]; rfl
theorem lkD {α β:Type} [DecidableEq α] (k j:α) (v:β) (r:List (α×β)): @List.lookup α β instBEqOfDecidableEq k ((j,v)::r)=if k=j then some v else @List.lookup α β instBEqOfDecidableEq k r:=by
 show (match decide (k=j) with | true=>some v | false=> @List.lookup α β instBEqOfDecidableEq k r)=_
 by_cases h:k=j
 ·rw [if_pos h,decide_eq_true h]
 ·rw [if_neg h,decide_eq_false h]
theorem DU (k:Nat×Nat):∀ H:AU,@List.lookup (Int×Int) MV instBEqOfDecidableEq (pfx k) (AJ H)=(H.lookup k).map Fc
 | []=>rfl
 | (j,u)::r=>by
  show @List.lookup (Int×Int) MV instBEqOfDecidableEq (pfx k) ((pfx j,Fc u)::AJ r)=_
  rw [lkD,List.lookup_cons]
  by_cases h:k=j
  ·subst h; simp
  ·rw [beq_eq_false_iff_ne.mpr h,if_neg fun e=>h (GQ e)]
   exact DU k r
theorem GT {k:Nat×Nat} {v:Int×Array UInt8} {H:AU} (h:(H.map (·.1)).Nodup) (m:(k,v)∈H):H.lookup k=some v:=ML h m
theorem FC {k:Nat×Nat} {v:Int×Array UInt8}:∀ {H:AU},H.lookup k=some v→(k,v)∈H
 | (i,u)::r,e=>by
  rw [List.lookup_cons] at e
  by_cases h:k=i
  ·subst h; simp at e; subst e; exact .head _
  ·rw [beq_eq_false_iff_ne.mpr h] at e; exact .tail _ (FC e)
theorem Ce {H:AU} (h:(H.map (·.1)).Nodup):((AJ H).map (·.1)).Nodup:=by
 have:(AJ H).map (·.1)=(H.map (·.1)).map pfx:=by unfold AJ; rw [List.map_map,List.map_map]; rfl
 rw [this]
 exact Cm (fun a U b U e=>GQ e) h
noncomputable def CS (σ:MS) (h:Addr) (H:AU):Prop:=∃ n,σ h=some (.dict (asE kT (AJ H)) n)
theorem CS.ext {σ σ':MS} {h:Addr} {H:AU} (a:CS σ h H) (e:Ext σ σ'):CS σ' h H:=let ⟨n,g⟩:=a; ⟨n,e _ _ g⟩
noncomputable def JF (H:AU) (most size l wo:Nat) (x:Array UInt8) (f:Int):AU×Int :=
 if size < l∨¬ (f=0∨f=1∨f=2) then (H,-22) else match H.lookup (l,cut size wo l) with
 | some v=>if f=1 then (H,-17) else (Ed H (l,cut size wo l) (v.1,x),0)
 | none=>if f=2 then (H,-2) else if H.length=most then (H,-28) else (Ed H (l,cut size wo l) (Al (H.map (·.2.1)),x),0)
noncomputable def Im (size l wo:Nat) (o:Nat×Nat):Bool:=decide (o.1≤l) && (cut size wo o.1==o.2)
noncomputable def B6 (size l wo:Nat) (acc:Option Int×Int) (e:(Nat×Nat)×(Int×Array UInt8)):Option Int×Int:=if (decide (l≤size) && (Im size l wo e.1 && decide (acc.2 < (e.1.1:Int))))=true then (some e.2.1,(e.1.1:Int)) else acc
noncomputable def CN (H:AU) (size l wo:Nat):Option Int×Int:=H.foldl (B6 size l wo) (none,-1)
theorem NI (H:AU) (size l wo i:Nat) (e:(Nat×Nat)×(Int×Array UInt8)) (h:H[i]?=some e):CN (H.take (i+1)) size l wo=B6 size l wo (CN (H.take i) size l wo) e:=by
 unfold CN
 rw [List.take_add_one,h,List.foldl_append]; rfl
theorem Hx {p:Nat→Bool} {k:Nat} (hk:p k=true) (hlt:∀ i,i < k→p i=false):∀ {m:Nat},k < m→((List.range m).filter p)[0]?=some k
 | m+1,h=>by
  rw [List.range_succ,List.filter_append]
  by_cases q:k < m
  ·have i:=Hx hk hlt (m:=m) q
   have hne:0 < ((List.range m).filter p).length:=by
    rcases Nat.eq_zero_or_pos ((List.range m).filter p).length with z | z
    ·rw [List.eq_nil_of_length_eq_zero z] at i; cases i
    ·exact z
   rw [List.getElem?_append_left hne]; exact i
  ·have:k=m:=Nat.eq_of_lt_succ_of_not_lt h q
   subst this
   have e:(List.range k).filter p=[]:=by
    rw [List.filter_eq_nil_iff]
    intro a ha
    rw [hlt a (List.mem_range.mp ha)]; decide
   rw [e]; simp [hk]
structure HOk (H:AU) (size most:Nat):Prop where
 nd:(H.map (·.1)).Nodup
 le:∀ e∈H,e.1.1≤size
 few:H.length≤most
theorem By (H:AU):(asE kT (AJ H)).map (·.1)=H.map fun e=>kP e.1:=by delta asE AJ; rw [List.map_map,List.map_map]; rfl
section
variable {w:World} {b:Heap} (hB:BaseOk w b) {d:Nat} {σ:MS} {Q:MV→MS→Prop} {h:Addr} {H:AU} {size most:Nat}
include hB
theorem JR (hH:CS σ h H) (hok:HOk H size most) (hm:most≤100) (hs:SZ size) {l wo:Nat} (hw:wo < 2^size) {x:Array UInt8} {f:Int} (q:∀ σ',CS σ' h (JF H most size l wo x f).1→BH h σ σ'→Q (.int (JF H most size l wo x f).2) σ') (hd3:3≤d) :
  WC w b d (.ref 637) [.ref h,.int most,kP (l,wo),.bytes x,.int f,.int size] σ Q:=by
 have hd:1≤d:=Nat.le_trans (by decide) hd3
 obtain ⟨n,g⟩:=hH
 have hfew:=hok.few
 refine AR hB (dv:=[]) (D:=AO 46) [S "held",S "most",S "front",S "octets",S "flags",S "size"] ?_ hd ?_
 ·exact bd6 fun U U U U U U=>by rfl
 refine sCo ?_
 refine Lu [S "length",S "worth"] ?_
 refine eV ?_
 refine Cu _ rfl rfl ?_
 have hany:([MV.int 0,.int 1,.int 2].any fun m=>eqM m (.int f))=decide (f=0∨f=1∨f=2):=by
  show ((0:Int)==f || ((1:Int)==f || ((2:Int)==f || false)))=_
  rw [Bool.or_false,Bool.eq_iff_iff]
  simp only [Bool.or_eq_true,beq_iff_eq,decide_eq_true_eq]
  constructor
  ·rintro (h | h | h)
   ·exact .inl h.symm
   ·exact .inr (.inl h.symm)
   ·exact .inr (.inr h.symm)
  ·rintro (h | h | h)
   ·exact .inl h.symm
   ·exact .inr (.inl h.symm)
   ·exact .inr (.inr h.symm)
 have bad:size < l∨¬ (f=0∨f=1∨f=2)→Q (.int (-22)) σ:=fun c=>by
  have e:JF H most size l wo x f=(H,-22):=by unfold JF; rw [if_pos c]
  rw [e] at q
  exact q σ ⟨n,g⟩ fun U U U e=>e
 refine scI ?_
 refine tOr ?_
 refine B0 ?_
 refine tCm ?_
 refine eV ?_
 refine eV ?_
 refine cGt ?_
 by_cases hl:size < l
 ·rw [if_pos (decide_eq_true (by show (size:Int) < l; exact Int.ofNat_lt.mpr hl))]
  rw [if_pos rfl]
  refine scR ?_
  refine eUn ?_
  refine Ae ?_
  refine DP ?_
  exact bad (.inl hl)
 rw [if_neg (by simp; exact Nat.le_of_not_lt hl)]
 refine B0 ?_
 refine tCm ?_
 refine eV ?_
 refine eTu ?_
 refine lI ?_
 refine lI ?_
 refine lI ?_
 refine Ad ?_
 refine ⟨rfl,?_⟩
 refine MP (xs:=[.int 0,.int 1,.int 2]) ?_ (by show 0+1≤8*(d-1); exact n8 hd3 (Nat.le_of_lt (by decide))) (by rfl) (fun m hm=>by
  simp only [List.mem_cons,List.not_mem_nil,or_false] at hm
  rcases hm with rfl | rfl | rfl <;> rfl)
 rw [hany]
 by_cases hf:f=0∨f=1∨f=2
 case neg =>
  rw [if_pos (by simp [hf])]
  rw [if_pos rfl]
  refine scR ?_
  refine eUn ?_
  refine Ae ?_
  refine DP ?_
  exact bad (.inr hf)
 rw [if_neg (by simp [hf])]
 refine Hj ?_
 rw [if_neg (by decide)]
 have eu:JF H most size l wo x f=match H.lookup (l,cut size wo l) with
   | some v=>if f=1 then (H,-17) else (Ed H (l,cut size wo l) (v.1,x),0)
   | none=>if f=2 then (H,-2) else if H.length=most then (H,-28) else (Ed H (l,cut size wo l) (Al (H.map (·.2.1)),x),0):=by
  unfold JF
  rw [if_neg (by rintro (c | c); exact hl c; exact c hf)]
 have hnd:=Ce hok.nd
 have hlen:(AJ H).length=H.length:=by simp [AJ]
 refine Ai ?_
 refine scA ?_
 refine cG hB ?_
 refine Aq ?_
 refine Go hB (Nat.le_of_not_lt hl) hs.le hw hs.bd ?_ (dl hd3)
 refine scI ?_
 refine tCm ?_
 refine eV ?_
 refine eV ?_
 refine PW (f:=kT) (k:=pfx (l,cut size wo l)) Cn hB g ?_ hnd (dl hd3)
 rw [DU]
 cases hlk:H.lookup (l,cut size wo l) with
 | some v =>
  rw [hlk] at eu
  dsimp only at eu
  rw [if_pos (by rfl)]
  refine scI ?_
  refine tCm ?_
  refine eV ?_
  refine Ae ?_
  refine cEq ?_
  by_cases h1:f=1
  ·rw [if_pos (by simp [h1])]
   rw [if_pos h1] at eu
   rw [eu] at q
   refine scR ?_
   refine eUn ?_
   refine Ae ?_
   refine DP ?_
   exact q σ ⟨n,g⟩ fun U U U e=>e
  ·rw [if_neg (by simpa using h1)]
   rw [if_neg h1] at eu
   rw [eu] at q
   have hlk2: @List.lookup (Int×Int) MV instBEqOfDecidableEq (pfx (l,cut size wo l)) (AJ H)=some (Fc v):=by rw [DU,hlk]; rfl
   refine Ai ?_
   refine sCo ?_
   refine D9 ?_
   refine eTu ?_
   refine lCo ?_
   refine eSu ?_
   refine eSu ?_
   refine eV ?_
   refine eV ?_
   refine AK (f:=kT) (k:=pfx (l,cut size wo l)) Cn g hlk2 ?_ hnd (dl hd3)
   refine Ae ?_
   refine CT (by decide) (by decide) (by rfl) ?_
   refine Aq ?_
   refine ⟨rfl,?_⟩
   refine eV ?_
   refine eV ?_
   refine IC (f:=kT) (k:=pfx (l,cut size wo l)) Cn g (by rw [hlen]; exact Nat.le_of_lt (Nat.lt_of_le_of_lt hfew (Nat.lt_of_le_of_lt hm (by decide)))) (fun m hm=> ?_) hnd (dl hd3)
   have e1:=LQ (l,cut size wo l) (v.1,x) H
   refine scR ?_
   refine Ae ?_
   refine q _ ⟨m,?_⟩ BH.set
   rw [MS.set_self]
   show some (MO.dict (asE kT (D0 (AJ H) (pfx (l,cut size wo l)) (Fc (v.1,x)))) m)=_
   rw [e1]
 | none =>
  rw [hlk] at eu
  dsimp only at eu
  rw [if_neg (by decide)]
  refine Ai ?_
  refine scI ?_
  refine tCm ?_
  refine eV ?_
  refine Ae ?_
  refine cEq ?_
  by_cases h2:f=2
  ·rw [if_pos (by simp [h2])]
   rw [if_pos h2] at eu
   rw [eu] at q
   refine scR ?_
   refine eUn ?_
   refine Ae ?_
   refine DP ?_
   exact q σ ⟨n,g⟩ fun U U U e=>e
  rw [if_neg (by simpa using h2)]
  rw [if_neg h2] at eu
  refine Ai ?_
  refine scI ?_
  refine tCm ?_
  refine cBu hB ?_
  refine Aq ?_
  have hl3:(asE kT (AJ H)).length=H.length:=by simp [asE,AJ]
  refine M1 hB g (by rw [hl3]; exact Nat.le_of_lt (Nat.lt_of_le_of_lt hfew (Nat.lt_of_le_of_lt hm (by decide)))) ?_
  rw [hl3]
  refine eV ?_
  refine cEq ?_
  by_cases h3:H.length=most
  ·rw [if_pos (by simp [h3])]
   rw [if_pos h3] at eu
   rw [eu] at q
   refine scR ?_
   refine eUn ?_
   refine Ae ?_
   refine DP ?_
   exact q σ ⟨n,g⟩ fun U U U e=>e
  rw [if_neg (by simp; exact Nat.ToInt.of_diseq rfl rfl h3)]
  rw [if_neg h3] at eu
  rw [eu] at q
  refine Ai ?_
  refine sCo ?_
  refine Ke ?_
  refine CH [(S "held",.ref h)] ?_ (Sub.cons (by rfl) (Sub.nil))
  refine eV ?_
  refine ⟨_,_,fun i out σ'=>out=((H.map (·.2.1)).take i).map .int∧Ext σ σ',by rw [By]; simp; exact Nat.le_of_lt (Nat.lt_of_le_of_lt hfew (Nat.lt_of_le_of_lt hm (by decide))),GB hB g,g,⟨rfl,Ext.rfl⟩,?_,?_⟩
  ·rintro i v out σ' hv ⟨rfl,hE⟩ hok'
   rw [By,List.getElem?_map] at hv
   refine Af (Option.map_eq_some_iff.mp hv) fun e0 he0 e_2=> ?_
   subst e_2
   have hlk2: @List.lookup (Int×Int) MV instBEqOfDecidableEq (pfx e0.1) (AJ H)=some (Fc e0.2):=by rw [DU,GT hok.nd (List.mem_of_getElem? he0)]; rfl
   refine ctK ?_
   refine eSu ?_
   refine eSu ?_
   refine eV ?_
   refine eV ?_
   refine AK (f:=kT) (k:=pfx e0.1) Cn hok' hlk2 ?_ hnd (dl hd3)
   refine Ae ?_
   refine CT (by decide) (by decide) (by rfl) ⟨hok',?_,hE⟩
   have hx:(H.map (·.2.1))[i]?=some e0.2.1:=by rw [List.getElem?_map,he0]; rfl
   have hstep:(H.map (·.2.1)).take (i+1)=(H.map (·.2.1)).take i++[e0.2.1]:=by
    have:=List.take_add_one (i:=i) (l:=H.map (·.2.1))
    rw [this,hx]; rfl
   rw [hstep,List.map_append]; rfl
  ·rintro out σ1 ⟨rfl,hE⟩ hok' ua hua
   have el:(H.map (·.2.1)).take ((asE kT (AJ H)).map (·.1)).length=H.map (·.2.1):=List.take_of_length_le (by rw [By]; simp)
   rw [el]
   have hE1:=hE.step (o:= .list ((H.map (·.2.1)).map .int)) hua
   have gu:(σ1.set ua (.list ((H.map (·.2.1)).map .int))) ua=_:=MS.set_self ..
   generalize σ1.set ua (MO.list ((H.map fun e=>e.2.1).map MV.int))=σ2 at hE1 gu ⊢
   generalize hus:(H.map (·.2.1))=us at gu q ⊢
   have husl:us.length=H.length:=by rw [← hus,List.length_map]
   refine sCo ?_
   refine D9 ?_
   refine eTu ?_
   refine lCo ?_
   refine eSu ?_
   refine CH [(S "used",.ref ua)] ?_ (Sub.cons (by rfl) (Sub.nil))
   refine cTy hB ?_
   refine Aq ?_
   refine CE fun c hc=> ?_
   have hE2:=hE1.step (o:= .rng (most:Nat)) hc
   refine ⟨fun σ'=>σ' ua=some (.list (us.map .int)),(List.range most).map (fun i:Nat=>MV.int i),fun i out σ'=>out=((List.range i).filter fun k:Nat=> !us.contains (k:Int)).map (fun k:Nat=>MV.int k)∧Ext σ σ',by rw [List.length_map,List.length_range]; exact Nat.le_of_lt (Nat.lt_of_le_of_lt hm (by decide)),?_,MS.set_old hc gu,⟨rfl,hE2⟩,?_,?_⟩
   ·have:=Fb (w:=w) (b:=b) (d:=d-1) (n:=most) (MS.set_self σ2 c (.rng (most:Nat))) (Nat.le_of_lt (Nat.lt_of_le_of_lt hm (by decide)))
    exact fun A s v P rm S r k=>this A s v P rm S r fun ia s' pos it p0 fr lo ow g os kk=>k ia s' pos ⟨it.obj,it.keep,fun i d A s σ v P rm S U p e h=>it.next i d A s σ v P rm S trivial p e h,it.again,fun d A s σ P rm S U p h=>it.stop d A s σ P rm S trivial p h⟩ p0 fr lo ow g os kk
   ·rintro i v out σ' hv ⟨rfl,hE⟩ hok'
    obtain ⟨hi,rfl⟩:=Bc hv
    refine ct1 ?_
    refine tCm ?_
    refine eV ?_
    refine eV ?_
    refine Fz hok' ?_ (by rw [Dr]; show 0+1≤8*(d-1); exact n8 hd3) (Bd _ _) (Kc _ _)
    rw [JX]
    refine PX (fun z=> ?_) (fun z=> ?_)
    ·refine eV ?_
     refine Cv hok' ?_ hE
     rw [List.range_succ,List.filter_append,List.map_append]
     rw [List.filter_cons,z]; rfl
    ·refine Cv hok' ?_ hE
     rw [List.range_succ,List.filter_append,List.map_append]
     rw [List.filter_cons,z,if_neg (by decide),List.filter_nil,List.map_nil,List.append_nil]
   ·rintro out σ3 ⟨rfl,hE3⟩ hok3 a3 ha3
    have el3:((List.range most).map fun i:Nat=>MV.int i).length=most:=by simp
    rw [el3]
    have hE4:=hE3.step (o:= .list (((List.range most).filter fun k:Nat=> !us.contains (k:Int)).map fun k:Nat=>MV.int k)) ha3
    have hle:=II us
    have hfst:((List.range most).filter fun k:Nat=> !us.contains (k:Int))[0]?=some (Al us):=by
     refine Hx ?_ (fun i hi=> ?_) (by lia)
     ·have:=Df us
      simpa using this
     ·have:=EN us hi
      simpa using this
    refine Ae ?_
    refine Bm (MS.set_self ..) (by decide) (by decide) (x:= .int (Al us)) (by rw [show (0:Int).toNat=0 from rfl,List.getElem?_map,hfst]; rfl) ?_
    refine Aq ?_
    refine ⟨rfl,?_⟩
    have g4:=hE4 _ _ g
    refine eV ?_
    refine eV ?_
    refine IC (f:=kT) (k:=pfx (l,cut size wo l)) Cn g4 (by rw [hlen]; exact Nat.le_trans (Nat.le_trans hfew hm) (by decide)) (fun m hm=> ?_) hnd (dl hd3)
    have e1:=LQ (l,cut size wo l) ((Al us:Int),x) H
    refine scR ?_
    refine Ae ?_
    refine q _ ⟨m,?_⟩ ((BH.of hE4).trans BH.set)
    rw [MS.set_self]
    show some (MO.dict (asE kT (D0 (AJ H) (pfx (l,cut size wo l)) (Fc ((Al us:Int),x)))) m)=_
    rw [e1]
theorem FP (hH:CS σ h H) (hok:HOk H size most) (hm:most≤100) (hs:SZ size) {l wo:Nat} (hw:wo < 2^size) (q:Q (EV (CN H size l wo).1) σ) (hd4:4≤d):WC w b d (.ref 644) [.ref h,kP (l,wo),.int size] σ Q:=by
 have hd:1≤d:=Nat.le_trans (by decide) hd4
 obtain ⟨n,g⟩:=hH
 have hfew:=hok.few
 have hnd:=Ce hok.nd
 refine AR hB (dv:=[]) (D:=AO 47) [S "held",S "front",S "size"] ?_ hd ?_
 ·exact bd3 fun U U U=>by rfl
 refine sCo ?_
 refine Lu [S "length",S "worth"] ?_
 refine eV ?_
 refine Cu _ rfl rfl ?_
 refine sCo ?_
 refine Lu [S "found",S "longest"] ?_
 refine eTu ?_
 refine lCo ?_
 refine Ea ?_
 refine lCo ?_
 refine eUn ?_
 refine Ae ?_
 refine DP ?_
 refine Ad ?_
 refine ⟨rfl,_,rfl,rfl,?_⟩
 refine sCo ?_
 refine EZ ?_
 refine eV ?_
 refine ⟨_,_,fun i ρ σ'=>ρ=[(S "held",.ref h),(S "size",.int size),(S "length",.int l),(S "worth",.int wo),(S "found",EV (CN (H.take i) size l wo).1),(S "longest",.int (CN (H.take i) size l wo).2)]∧σ'=σ,GB hB g,g,⟨_,(Sub.cons (by rfl) (Sub.cons (by rfl) (Sub.cons (by rfl) (Sub.cons (by rfl) (Sub.cons (by rfl) (Sub.cons (by rfl) (Sub.nil))))))),rfl,rfl⟩,?_,?_⟩
 ·rintro i v ρ σ' hv ⟨rfl,rfl⟩ hok'
  rw [By,List.getElem?_map] at hv
  refine Af (Option.map_eq_some_iff.mp hv) fun e0 he0 e_2=> ?_
  subst e_2
  have hem:=List.mem_of_getElem? he0
  have hlk2: @List.lookup (Int×Int) MV instBEqOfDecidableEq (pfx e0.1) (AJ H)=some (Fc e0.2):=by rw [DU,GT hok.nd hem]; rfl
  have hstep:=NI H size l wo i e0 he0
  generalize CN (H.take i) size l wo=acc at hstep
  have no:(decide (l≤size) && (Im size l wo e0.1 && decide (acc.2 < (e0.1.1:Int))))=false→CN (H.take (i+1)) size l wo=acc:=fun c=>by rw [hstep]; unfold B6; rw [c]; rfl
  have stop:CN (H.take (i+1)) size l wo=acc→(∃ ρ',Sub ρ' (LM.set [(S "held",.ref h),(S "size",.int size),(S "length",.int l),(S "worth",.int wo),(S "found",EV acc.1),(S "longest",.int acc.2)] (S "one") (kP e0.1))∧ρ'=[(S "held",.ref h),(S "size",.int size),(S "length",.int l),(S "worth",.int wo),(S "found",EV (CN (H.take (i+1)) size l wo).1),(S "longest",.int (CN (H.take (i+1)) size l wo).2)]∧σ'=σ'):=fun c=>by
   rw [c]; exact ⟨_,(Sub.cons (by rfl) (Sub.cons (by rfl) (Sub.cons (by rfl) (Sub.cons (by rfl) (Sub.cons (by rfl) (Sub.cons (by rfl) (Sub.nil))))))),rfl,rfl⟩
  refine scI ?_
  refine Lq ?_
  refine Dm ?_
  refine tCm ?_
  refine eV ?_
  refine eV ?_
  refine cLe ?_
  by_cases hl:l≤size
  case neg =>
   rw [if_neg (by simp; exact Nat.lt_of_not_le hl),if_neg (by decide)]
   refine Ai ?_
   refine Ai ?_
   exact LoopEnd.of_ex hok' (stop (no (by rw [decide_eq_false hl]; rfl)))
  rw [if_pos (decide_eq_true (Int.ofNat_le.mpr hl))]
  refine Dm ?_
  refine GH ?_
  refine cG hB ?_
  refine Aq ?_
  refine Lb hB (hok.le _ hem) hs.le hw hs.bd ?_ (dl hd4)
  refine AQ _ rfl ?_
  show if Im size l wo e0.1=true then _ else _
  refine PX (fun z=> ?_) (fun z=> ?_)
  ·refine Dm ?_
   refine tCm ?_
   refine eSu ?_
   refine eV ?_
   refine Ae ?_
   refine CT (by decide) (by decide) (by rfl) ?_
   refine eV ?_
   refine cGt ?_
   by_cases hgt:acc.2 < (e0.1.1:Int)
   ·rw [if_pos (decide_eq_true hgt)]
    refine Pu ?_
    rw [if_pos rfl]
    refine sCo ?_
    refine Da [S "found",S "longest"] ?_
    refine eTu ?_
    refine lCo ?_
    refine eSu ?_
    refine eSu ?_
    refine eV ?_
    refine eV ?_
    refine AK (f:=kT) (k:=pfx e0.1) Cn g hlk2 ?_ hnd (dl hd4)
    refine Ae ?_
    refine CT (by decide) (by decide) (by rfl) ?_
    refine lCo ?_
    refine eSu ?_
    refine eV ?_
    refine Ae ?_
    refine CT (by decide) (by decide) (by rfl) ?_
    refine Ad ?_
    refine ⟨rfl,_,rfl,rfl,?_⟩
    have e2:CN (H.take (i+1)) size l wo=(some e0.2.1,(e0.1.1:Int)):=by rw [hstep]; unfold B6; rw [decide_eq_true hl,z,decide_eq_true hgt]; rfl
    refine Ai ?_
    refine Ai ?_
    refine LoopEnd.of_ex hok' ?_
    show ∃ ρ':List (Str×MV),_∧ρ'=[(S "held",.ref h),(S "size",.int size),(S "length",.int l),(S "worth",.int wo),(S "found",EV (CN (H.take (i+1)) size l wo).1),(S "longest",.int (CN (H.take (i+1)) size l wo).2)]∧_
    rw [e2]
    exact Cu _ (Sub.cons (by rfl) (Sub.cons (by rfl) (Sub.cons (by rfl) (Sub.cons (by rfl) (Sub.cons (by rfl) (Sub.cons (by rfl) (Sub.nil))))))) rfl rfl
   ·rw [if_neg (by simpa using hgt),if_neg (by decide)]
    refine Ai ?_
    refine Ai ?_
    exact LoopEnd.of_ex hok' (stop (no (by rw [decide_eq_false hgt]; simp)))
  ·rw [if_neg (by decide)]
   refine Ai ?_
   refine Ai ?_
   exact LoopEnd.of_ex hok' (stop (no (by rw [z]; simp)))
 ·rintro ρ σ' ⟨rfl,rfl⟩ _
  rw [By,List.length_map,List.take_length]
  refine scR ?_
  refine eV ?_
  exact q
end
noncomputable def DG (size:Nat) (e:(Nat×Nat)×(Int×Array UInt8)):Array UInt8:=BY size e.1.1 e.1.2
structure Agr (P:TP) (tr:Tr) (H:AU) (size width most:Nat):Prop where
 ok:HOk H size most
 six:H.length≤6
 wo:∀ e∈H,e.1.2 < 2^size
 knd:(H.map (DG size)).Nodup
 ents:(H.map (DG size)).Perm ((Ee tr).map (Gz size))
 used:P.used.Perm (H.map fun e=>e.2.1)
 row:∀ e∈H,BB (Au size e.1.1 e.1.2 tr)=some e.2.1∧P.vals.lookup e.2.1=some e.2.2
 sm:∀ e∈H,e.2.2.size≤1000
 vw:P.vw=width
 most:P.most=most
noncomputable def DD (H:AU) (size:Nat) (k:Array UInt8):Int×Array UInt8:=match H.find? fun e=>DG size e==k with
 | some e=>e.2
 | none=>(0,#[])
theorem OU {size:Nat} {H:AU} {e:(Nat×Nat)×(Int×Array UInt8)}:(H.map (DG size)).Nodup→e∈H→(H.find? fun j=>DG size j==DG size e)=some e:=by
 induction H with
 | nil=>exact fun U h=>(List.not_mem_nil h).elim
 | cons j r ih =>
  intro n h
  have n:=List.nodup_cons.mp n
  rw [List.find?_cons]
  refine (List.mem_cons.mp h).elim (fun h=> ?_) fun h=> ?_
  ·rw [h,beq_self_eq_true]
  ·rw [beq_eq_false_iff_ne.mpr fun q=>n.1 (by rw [q]; exact List.mem_map.mpr ⟨e,h,rfl⟩)]; exact ih n.2 h
theorem PU {H:AU} {size:Nat} {e:(Nat×Nat)×(Int×Array UInt8)} (n:(H.map (DG size)).Nodup) (h:e∈H):DD H size (DG size e)=e.2:=by
 unfold DD; rw [OU n h]
theorem Ip {T:TC} {s:Int} {x:Array UInt8} (e:T.pure.vals.lookup s=some x):∃ a,T.vals.lookup s=some (a,x):=by
 have:T.pure.vals.lookup s=(T.vals.lookup s).map (·.2):=Bx _ _ _
 rw [this] at e
 refine Af (Option.map_eq_some_iff.mp e) fun p h e_2=> ?_
 subst e_2
 exact ⟨p.1,h⟩
theorem ND (l:List Int):CF (l.map .int) (l.map .int)=true:=by rw [HB]; simp
theorem HA (l:List (Array UInt8)):CF (l.map .bytes) (l.map .bytes)=true:=by rw [HD]; simp
theorem FA:∀ {l m:List Int},l.Perm m→l.Pairwise (· ≤ ·)→m.Pairwise (· ≤ ·)→l=m:=fun p h k=>p.eq_of_pairwise (fun a b U U=>Int.le_antisymm) h k
theorem DX {w:World} {b:Heap} {d:Nat} {σ:MS} {ok:MS→Prop} {a:Addr} {n:Nat} (e:σ a=some (.rng n)) (hn:n≤100000):WI w b d (.ref a) σ ok ((List.range n).map fun i:Nat=>MV.int i):=by
 have:=Fb (w:=w) (b:=b) (d:=d) e hn
 exact fun A s v P rm S r k=>this A s v P rm S r fun ia s' pos it p0 fr lo ow g os kk=>k ia s' pos ⟨it.obj,it.keep,fun i d A s σ v P rm S U p e h=>it.next i d A s σ v P rm S trivial p e h,it.again,fun d A s σ P rm S U p h=>it.stop d A s σ P rm S trivial p h⟩ p0 fr lo ow g os kk
theorem Iw (f:Array UInt8→Int×Array UInt8):∀ ks:List (Array UInt8),Bt (ks.map (Bb f)) (ks.map (Bb f))=true
 | []=>rfl
 | k::r=>by
  show (shp (Bb f k) (Bb f k) && Bt (r.map (Bb f)) (r.map (Bb f)))=true
  rw [Iw f r]; rfl
theorem KQ (f:Array UInt8→Int×Array UInt8):∀ ks:List (Array UInt8),dps (ks.map (Bb f))≤1
 | []=>Nat.zero_le _
 | k::r=>by
  show max (dp (Bb f k)) (dps (r.map (Bb f)))≤1
  have:=KQ f r
  have h:dp (Bb f k)=1:=rfl
  exact Nat.max_le_of_le_of_le (Nat.le_of_eq h) this
section
variable {w:World} {b:Heap} (hB:BaseOk w b) {d:Nat} {σ:MS} {Q:MV→MS→Prop} {t h:Addr} {T:TC} {tr:Tr} {H:AU} {size width most:Nat}
include hB
theorem JP (hA:TA σ t T) (hw:Wid T size) (hs:Shp T.pure tr size) (hwt:tr.wt≤3000) (ag:Agr T.pure tr H size width most) (hH:CS σ h H) (q:∀ σ',Ext σ σ'→Q (.bool true) σ') (hd10:10≤d) :
  WC w b d (.ref 649) [.ref t,.ref h,.int size,.int width,.int most] σ Q:=by
 have hd:1≤d:=Nat.le_trans (by decide) hd10
 obtain ⟨n,g⟩:=hH
 have h6:=ag.six
 have hsz:=hw.sz
 have hlU:T.used.length=H.length:=by have:=ag.used.length_eq; simpa [TC.pure] using this
 have hnd:=Ce ag.ok.nd
 have hlen:(asE kT (AJ H)).length=H.length:=by simp [asE,AJ]
 have hlk2:∀ e∈H,@List.lookup (Int×Int) MV instBEqOfDecidableEq (pfx e.1) (AJ H)=some (Fc e.2):=fun e he=>by rw [DU,GT ag.ok.nd he]; rfl
 refine AR hB (dv:=[]) (D:=AO 48) [S "trie",S "held",S "size",S "width",S "most"] ?_ hd ?_
 ·exact bd5 fun U U U U U=>by rfl
 refine scA ?_
 refine cBu hB ?_
 refine lCo ?_
 refine CH [(S "size",.int size)] ?_ (Sub.cons (by rfl) (Sub.nil))
 refine eV ?_
 refine ⟨_,_,fun i out σ'=>out=((H.take i).map (DG size)).map .bytes∧Ext σ σ',by rw [By]; simp; exact Nat.le_of_lt (Nat.lt_of_le_of_lt h6 (by decide)),GB hB g,g,⟨rfl,Ext.rfl⟩,?_,?_⟩
 ·rintro i v out σ' hv ⟨rfl,hE⟩ hok'
  rw [By,List.getElem?_map] at hv
  obtain ⟨e0,he0,rfl⟩:=Option.map_eq_some_iff.mp hv
  refine ctK ?_
  refine cG hB ?_
  refine lCo ?_
  refine eSu ?_
  refine eV ?_
  refine Ae ?_
  refine CT (by decide) (by decide) (by rfl) ?_
  refine lCo ?_
  refine eSu ?_
  refine eV ?_
  refine Ae ?_
  refine CT (by decide) (by decide) (by rfl) ?_
  refine Aq ?_
  refine ES hB hsz (fun σ3 hE3=> ?_) (dl hd10)
  refine ⟨hE3 _ _ hok',?_,hE.trans hE3⟩
  rw [List.take_add_one,he0,List.map_append,List.map_append]; rfl
 rintro out σ1 ⟨rfl,hE1⟩ hok1 c1 hc1
 rw [By,List.length_map,List.take_length]
 have hE1:=hE1.step (o:= .list ((H.map (DG size)).map .bytes)) hc1
 refine Ad ?_
 refine KH (MS.set_self ..) (by rw [List.length_map]; exact h6) ag.knd fun ks c2 pm pw hc2=> ?_
 have hE2:=hE1.step (o:= .list (ks.map .bytes)) hc2
 have gk:((σ1.set c1 (.list ((H.map (DG size)).map .bytes))).set c2 (.list (ks.map .bytes))) c2=some (.list (ks.map .bytes)):=MS.set_self ..
 generalize (σ1.set c1 (MO.list ((H.map (DG size)).map MV.bytes))).set c2 (MO.list (ks.map MV.bytes))=σ2 at hE2 gk ⊢
 clear hE1 hok1 hc1 hc2
 have hkl:ks.length=H.length:=by rw [pm.length_eq,List.length_map]
 have hk:KeysAre size tr ks:=⟨pm.trans ag.ents,pw,Nat.le_trans (Nat.le_of_eq hkl) h6⟩
 have hA2:=hA.ext hE2
 have g2:=hE2 _ _ g
 refine scI ?_
 refine tOr ?_
 refine B0 ?_
 refine tCm ?_
 refine cM hB (f:=542) TA.s ?_
 refine Ad ?_
 refine JO hB hA2 hw hs hwt hk (fun σ3 c3 hE3 hc3 g3=> ?_) (dl hd10)
 have gk3:=hE3 _ _ gk
 have hA3:=hA2.ext hE3
 have gh3:=hE3 _ _ g2
 refine eV ?_
 refine Kw g3 gk3 ?_ (by rw [C7]; show 0+1≤8*(d-1); exact n8 hd10) (Bp _ _) (Bp _ _)
 rw [HA,if_neg (by decide)]
 refine B0 ?_
 refine tCm ?_
 refine cM hB (f:=416) TA.s ?_
 refine Ad ?_
 refine M7 hB hA3 (Nat.le_trans (Nat.le_trans (Nat.le_of_eq hlU) h6) (by decide)) ?_ (dl hd10)
 refine cBu hB ?_
 refine Aq ?_
 refine M1 hB gh3 (by rw [hlen]; exact Nat.le_of_lt (Nat.lt_of_le_of_lt h6 (by decide))) ?_
 rw [hlen]
 refine cNe ?_
 rw [if_neg (by simp [hlU])]
 refine B0 ?_
 refine tCm ?_
 refine cM hB (f:=556) TA.s ?_
 refine Ad ?_
 refine Qj hB hA3 (Nat.lt_of_le_of_lt (Nat.le_trans (Nat.le_of_eq hlU) h6) (by decide)) (fun σ4 c4 ns hE4 hc4 pm4 pw4 g4=> ?_) (dl hd10)
 have gh4:=hE4 _ _ gh3
 refine cBu hB ?_
 refine lCo ?_
 refine CH [(S "held",.ref h)] ?_ (Sub.cons (by rfl) (Sub.nil))
 refine eV ?_
 refine ⟨_,_,fun i out σ'=>out=((H.map (·.2.1)).take i).map .int∧Ext σ4 σ',by rw [By]; simp; exact Nat.le_of_lt (Nat.lt_of_le_of_lt h6 (by decide)),GB hB gh4,gh4,⟨rfl,Ext.rfl⟩,?_,?_⟩
 ·rintro i v out σ' hv ⟨rfl,hE⟩ hok'
  rw [By,List.getElem?_map] at hv
  obtain ⟨e0,he0,rfl⟩:=Option.map_eq_some_iff.mp hv
  refine ctK ?_
  refine eSu ?_
  refine eSu ?_
  refine eV ?_
  refine eV ?_
  refine AK (f:=kT) (k:=pfx e0.1) Cn hok' (hlk2 _ (List.mem_of_getElem? he0)) ?_ hnd (dl hd10)
  refine Ae ?_
  refine CT (by decide) (by decide) (by rfl) ⟨hok',?_,hE⟩
  have hx:(H.map (·.2.1))[i]?=some e0.2.1:=by rw [List.getElem?_map,he0]; rfl
  rw [List.take_add_one (i:=i) (l:=H.map (·.2.1)),hx,List.map_append]; rfl
 rintro out σ5 ⟨rfl,hE5⟩ hok5 c5 hc5
 rw [By,List.length_map,show H.length=(H.map (·.2.1)).length by simp,List.take_length]
 have hE5:=hE5.step (o:= .list ((H.map (·.2.1)).map .int)) hc5
 refine Ad ?_
 refine KD (MS.set_self ..) (by rw [List.length_map]; exact Nat.lt_of_le_of_lt h6 (by decide)) fun ms c6 pm6 pw6 hc6=> ?_
 have e6:ns=ms:=FA (pm4.trans (ag.used.trans pm6.symm)) pw4 pw6
 subst e6
 have hE6:=hE5.step (o:= .list (ns.map .int)) hc6
 have g6:((σ5.set c5 (.list ((H.map (·.2.1)).map .int))).set c6 (.list (ns.map .int))) c6=some (.list (ns.map .int)):=MS.set_self ..
 generalize (σ5.set c5 (MO.list ((H.map fun e=>e.2.1).map MV.int))).set c6 (MO.list (ns.map MV.int))=σ6 at hE6 g6 ⊢
 refine Kw (hE6 _ _ g4) g6 ?_ (by rw [Dr]; show 0+1≤8*(d-1); exact n8 hd10) (Bd _ _) (Bd _ _)
 rw [ND,if_neg (by decide)]
 refine Hj ?_
 rw [if_neg (by decide)]
 have hE46:=(hE3.trans hE4).trans hE6
 have hE06:=hE2.trans hE46
 have gk6:=hE46 _ _ gk
 have hA6:=hA.ext hE06
 have gh6:=hE06 _ _ g
 clear hE5 hok5 hc5 hc6 hE6 g6
 refine Ai ?_
 refine scA ?_
 refine BW ?_
 refine Ad ?_
 refine ⟨rfl,fun ra hra=> ?_⟩
 have gr0:(σ6.set ra (.list [])) ra=some (.list []):=MS.set_self ..
 have hE7:Ext σ6 (σ6.set ra (.list [])):=Ext.new hra
 have hF:=fun e (he:e∈H)=>PU (size:=size) ag.knd he
 refine sCo ?_
 refine EZ ?_
 refine eV ?_
 refine ⟨_,_,fun i ρ σ'=>ρ=[(S "trie",.ref t),(S "held",.ref h),(S "size",.int size),(S "width",.int width),(S "most",.int most),(S "keys",.ref c2),(S "rows",.ref ra)]∧Ext σ6 σ'∧σ' ra=some (.list (((H.take i).map (DG size)).map (Bb (DD H size)))),GB hB (hE7 _ _ gh6),hE7 _ _ gh6,⟨_,(Sub.cons (by rfl) (Sub.cons (by rfl) (Sub.cons (by rfl) (Sub.cons (by rfl) (Sub.cons (by rfl) (Sub.cons (by rfl) (Sub.cons (by rfl) (Sub.nil)))))))),rfl,hE7,gr0⟩,?_,?_⟩
 ·rintro i v ρ σ' hv ⟨rfl,hE,gr⟩ hok'
  rw [By,List.getElem?_map] at hv
  obtain ⟨e0,he0,rfl⟩:=Option.map_eq_some_iff.mp hv
  have hem:=List.mem_of_getElem? he0
  obtain ⟨hsl,hvl⟩:=ag.row _ hem
  obtain ⟨va,hva⟩:=Ip hvl
  have hA7:=hA6.ext hE
  have hl32:e0.1.1 < 4294967296:=by have:=ag.ok.le _ hem; have:=hsz.le; exact Nat.lt_of_le_of_lt (Nat.le_trans ‹_› this) (by decide)
  refine scA ?_
  refine cG hB ?_
  refine lCo ?_
  refine eSu ?_
  refine eV ?_
  refine Ae ?_
  refine CT (by decide) (by decide) (by rfl) ?_
  refine lCo ?_
  refine eSu ?_
  refine eV ?_
  refine Ae ?_
  refine CT (by decide) (by decide) (by rfl) ?_
  refine Aq ?_
  refine ES hB hsz (fun σ8 hE8=> ?_) (dl hd10)
  have hA8:=hA7.ext hE8
  refine scI ?_
  refine tOr ?_
  refine B0 ?_
  refine tCm ?_
  refine cM hB (f:=222) TA.s ?_
  refine Aq ?_
  refine M6 hB hA8 hw hs hl32 (ag.wo _ hem) hsl hva (ag.sm _ hem) (fun σ9 hE9=> ?_) (dl hd10)
  have hA9:=hA8.ext hE9
  have gh9:=hE9 _ _ (hE8 _ _ hok')
  refine eSu ?_
  refine eSu ?_
  refine eV ?_
  refine eV ?_
  refine AK (f:=kT) (k:=pfx e0.1) Cn gh9 (hlk2 _ hem) ?_ hnd (dl hd10)
  refine Ae ?_
  refine CT (by decide) (by decide) (by rfl) ?_
  refine kNe ?_ (by show 0≤8*(d-1); exact Nat.le_add_left _ _) (by rfl) (by rfl) (fun z=>⟨(fun c=>nomatch c),(fun c=>nomatch c)⟩)
  rw [if_neg (by rw [DI]; simp)]
  refine B0 ?_
  refine tCm ?_
  refine cM hB (f:=452) TA.s ?_
  refine Aq ?_
  refine JK hB hA9 hw hs hl32 (ag.wo _ hem) (fun σ10 hE10=> ?_) (dl hd10)
  rw [hsl]
  have gh10:=hE10 _ _ gh9
  refine eSu ?_
  refine eSu ?_
  refine eV ?_
  refine eV ?_
  refine AK (f:=kT) (k:=pfx e0.1) Cn gh10 (hlk2 _ hem) ?_ hnd (dl hd10)
  refine Ae ?_
  refine CT (by decide) (by decide) (by rfl) ?_
  refine kNe ?_ (by show 0≤8*(d-1); exact Nat.le_add_left _ _) (by rfl) (by rfl) (fun z=>⟨(fun c=>nomatch c),(fun c=>nomatch c)⟩)
  rw [if_neg (by show ¬ (!((e0.2.1:Int)==e0.2.1))=true; simp)]
  refine Hj ?_
  rw [if_neg (by decide)]
  have hE810:=(hE8.trans hE9).trans hE10
  have gr10:=hE810 _ _ gr
  refine Ai ?_
  refine scE ?_
  refine eMe ?_
  refine eV ?_
  refine ⟨_,_,DC (id:="list.append") gr10,Ar _,?_⟩
  refine lCo ?_
  refine eTu ?_
  refine lV ?_
  refine lCo ?_
  refine eSu ?_
  refine eSu ?_
  refine eV ?_
  refine eV ?_
  refine AK (f:=kT) (k:=pfx e0.1) Cn gh10 (hlk2 _ hem) ?_ hnd (dl hd10)
  refine Ae ?_
  refine CT (by decide) (by decide) (by rfl) ?_
  refine lCo ?_
  refine eSu ?_
  refine eSu ?_
  refine eV ?_
  refine eV ?_
  refine AK (f:=kT) (k:=pfx e0.1) Cn gh10 (hlk2 _ hem) ?_ hnd (dl hd10)
  refine Ae ?_
  refine CT (by decide) (by decide) (by rfl) ?_
  refine Ad ?_
  refine ⟨by rfl,?_⟩
  refine Ad ?_
  refine C3 gr10 (by rw [List.length_map,List.length_map,List.length_take]; exact Nat.le_trans (Nat.le_trans (Nat.min_le_right _ _) h6) (by decide)) ?_
  have hrh:ra≠h:=fun e=>by rw [e,gh6] at hra; cases hra
  refine Ai ?_
  refine ⟨by rw [MS.set_ne hrh.symm]; exact gh10,_,(Sub.cons (by rfl) (Sub.cons (by rfl) (Sub.cons (by rfl) (Sub.cons (by rfl) (Sub.cons (by rfl) (Sub.cons (by rfl) (Sub.cons (by rfl) (Sub.nil)))))))),rfl,(hE.trans hE810).re hra,?_⟩
  rw [MS.set_self,List.take_add_one,he0,List.map_append,List.map_append]
  have:Bb (DD H size) (DG size e0)= .tup [.bytes (DG size e0),.int e0.2.1,.bytes e0.2.2]:=by unfold Bb; rw [hF _ hem]
  show _=some (MO.list (_++[Bb (DD H size) (DG size e0)]))
  rw [this]; rfl
 rintro ρ σ7 ⟨rfl,hE7,gr⟩ hok7
 rw [By,List.length_map,List.take_length] at gr
 have hA7:=hA6.ext hE7
 have hf:RowsAre T tr size ks (DD H size):=by
  constructor
  ·intro k hk'
   obtain ⟨e,he,rfl⟩:=List.mem_map.mp (pm.mem_iff.mp hk')
   obtain ⟨h1,h2⟩:=ag.row _ he
   rw [hF _ he]
   obtain ⟨a,ha⟩:=Ip h2
   exact ⟨_,_,rfl,by have:=ag.ok.le _ he; have:=hsz.le; exact Nat.lt_of_le_of_lt (Nat.le_trans ‹_› this) (by decide),ag.wo _ he,h1,a,ha⟩
  ·intro k hk'
   obtain ⟨e,he,rfl⟩:=List.mem_map.mp (pm.mem_iff.mp hk')
   rw [hF _ he]; exact ag.sm _ he
 refine scI ?_
 refine tCm ?_
 refine cM hB (f:=290) TA.s ?_
 refine Ad ?_
 refine Rs hB hA7 hw hs hwt hk hf (fun σ8 hE8=> ?_) (dl hd10)
 refine eTu ?_
 refine lCo ?_
 refine JD ?_
 refine lI ?_
 refine lCo ?_
 refine eBi ?_
 refine Ae ?_
 refine eBi ?_
 refine eV ?_
 refine Ae ?_
 refine GN ?_ (by decide) (by decide)
 rw [show (8:Int)=((8:Nat):Int) from rfl,AY]
 refine CQ ?_
 refine lV ?_
 refine lV ?_
 refine lCo ?_
 refine cTy hB ?_
 refine lCo ?_
 refine cBu hB ?_
 refine Aq ?_
 have er:(((H.map (DG size)).map (Bb (DD H size))))=(H.map fun e=>(DG size e,[MV.int e.2.1,MV.bytes e.2.2])).map fun r=>MV.tup (.bytes r.1::r.2):=by
  rw [List.map_map,List.map_map]
  refine List.map_congr_left fun e he=> ?_
  show Bb (DD H size) (DG size e)=_
  unfold Bb; rw [hF _ he]; rfl
 rw [er] at gr
 refine OX (hE8 _ _ gr) (by rw [List.length_map]; exact h6) (by rw [List.map_map]; exact ag.knd) fun rs' c9 pm9 pw9 hc9=> ?_
 have ek:rs'.map (·.1)=ks:=by
  refine EX GP ((pm9.map _).trans ?_) pw9 pw
  rw [List.map_map]; exact pm.symm
 have er':(rs'.map fun r=>MV.tup (.bytes r.1::r.2))=ks.map (Bb (DD H size)):=by
  rw [← ek,List.map_map]
  refine List.map_congr_left fun r hr=> ?_
  obtain ⟨e,he,rfl⟩:=List.mem_map.mp (pm9.mem_iff.mp hr)
  show _=Bb (DD H size) (DG size e)
  unfold Bb; rw [hF _ he]
 rw [er']
 have hE9:=hE8.step (o:= .list (ks.map (Bb (DD H size)))) hc9
 have g9:(σ8.set c9 (.list (ks.map (Bb (DD H size))))) c9=some (.list (ks.map (Bb (DD H size)))):=MS.set_self ..
 generalize σ8.set c9 (MO.list (ks.map (Bb (DD H size))))=σ9 at hE9 g9 ⊢
 have hA9:=hA7.ext hE9
 have gk9:=hE9 _ _ (hE7 _ _ gk6)
 refine Ad ?_
 refine OW g9 (by rw [List.length_map]; exact Nat.le_trans (Nat.le_trans (Nat.le_of_eq hkl) h6) (by decide)) ?_
 refine Ad ?_
 refine ⟨by rfl,?_⟩
 have ekw:T.kw=4+((size/8:Nat):Int):=by rw [hw.kw]; exact Nat.ToInt.add_congr (by decide) rfl
 have evw:T.vw=(width:Int):=ag.vw
 have emo:T.most=(most:Int):=ag.most
 rw [ekw,evw,emo]
 have hsh:shp (.tup [.str (S "trie"),.int 5,.int (4+((size/8:Nat):Int)),.int width,.int most,.tup (ks.map (Bb (DD H size)))]) (.tup [.str (S "trie"),.int 5,.int (4+((size/8:Nat):Int)),.int width,.int most,.tup (ks.map (Bb (DD H size)))])=true:=by
  show (true && (true && (true && (true && (true && (Bt (ks.map (Bb (DD H size))) (ks.map (Bb (DD H size))) && true))))))=true
  rw [Iw]; rfl
 refine kNe ?_ ?_ hsh hsh (fun z=>⟨(fun c=>nomatch c),(fun c=>nomatch c)⟩)
 rotate_left
 ·show max 0 (max 0 (max 0 (max 0 (max 0 (max (dps (ks.map (Bb (DD H size)))+1) 0)))))+1≤8*(d-1)
  simp only [Nat.zero_max,Nat.max_zero]
  exact n8e (Nat.succ_le_of_lt (Nat.lt_of_le_of_lt (KQ (DD H size) ks) (by decide))) hd10
 rw [Cq _ hsh,if_neg (by decide)]
 refine Ai ?_
 refine sCo ?_
 refine Da [S "walked",S "key"] ?_
 refine eTu ?_
 refine lCo ?_
 refine BW ?_
 refine Ad ?_
 refine ⟨rfl,fun wa hwa=> ?_⟩
 have hE10:Ext σ9 (σ9.set wa (.list [])):=Ext.new hwa
 have hA10:=hA9.ext hE10
 refine lCo ?_
 refine cM hB (f:=549) TA.s ?_
 refine lCo ?_
 refine Ea ?_
 refine Ad ?_
 refine K7 hB hA10 hw hs hwt hk (fun σ11 hE11=> ?_) (dl hd10)
 have gw11:=hE11 _ _ (MS.set_self σ9 wa (.list []))
 have hEw:=hE10.trans hE11
 have gk11:=hEw _ _ gk9
 refine Ad ?_
 refine ⟨rfl,_,rfl,rfl,?_⟩
 refine sCo ?_
 refine EZ ?_
 refine cTy hB ?_
 refine lCo ?_
 refine eBi ?_
 refine cBu hB ?_
 refine Aq ?_
 refine E4 gk11 (by rw [List.length_map]; exact Nat.le_trans (Nat.le_trans (Nat.le_of_eq hkl) h6) (by decide)) ?_
 rw [List.length_map]
 refine Ae ?_
 refine CQ ?_
 refine Ad ?_
 refine CE fun c12 hc12=> ?_
 have hE12:=hEw.step (o:= .rng ((ks.length:Int)+1)) hc12
 have gw12:(σ11.set c12 (.rng ((ks.length:Int)+1))) wa=_:=MS.set_old hc12 gw11
 have gr12:(σ11.set c12 (.rng (((ks.length+1:Nat):Nat):Int))) c12=some (.rng ((ks.length+1:Nat):Int)):=MS.set_self ..
 refine ⟨fun U=>True,(List.range (ks.length+1)).map (fun i:Nat=>MV.int i),fun i ρ σ'=>ρ=[(S "trie",.ref t),(S "held",.ref h),(S "size",.int size),(S "width",.int width),(S "most",.int most),(S "keys",.ref c2),(S "rows",.ref ra),(S "walked",.ref wa),(S "key",LB ks[i]?)]∧Ext σ9 σ'∧σ' wa=some (.list ((ks.take i).map .bytes)),DX gr12 (Nat.le_trans (Nat.add_le_add_right (Nat.le_trans (Nat.le_of_eq hkl) h6) _) (by decide)),trivial,⟨_,(Sub.cons (by rfl) (Sub.cons (by rfl) (Sub.cons (by rfl) (Sub.cons (by rfl) (Sub.cons (by rfl) (Sub.cons (by rfl) (Sub.cons (by rfl) (Sub.cons (by rfl) (Sub.cons (by rfl) (Sub.nil)))))))))),rfl,hE12,gw12⟩,?_,?_⟩
 ·rintro i v ρ σ' hv ⟨rfl,hE,gw⟩ _
  obtain ⟨hi,rfl⟩:=Bc hv
  have hA':=hA9.ext hE
  refine scI ?_
  refine tCm ?_
  refine eV ?_
  refine Ea ?_
  refine LO (by cases ks[i]? <;> rfl) ?_
  by_cases hik:i < ks.length
  ·have e1:ks[i]?=some ks[i]:=List.getElem?_eq_getElem hik
   rw [e1,if_pos (by rfl)]
   refine scE ?_
   refine eMe ?_
   refine eV ?_
   refine ⟨_,_,DC (id:="list.append") gw,Ar _,?_⟩
   refine Aq ?_
   refine C3 gw (by rw [List.length_map,List.length_take]; exact Nat.le_trans (Nat.le_trans (Nat.le_trans (Nat.min_le_right _ _) (Nat.le_of_eq hkl)) h6) (by decide)) ?_
   have hE13:Ext σ9 (σ'.set wa (.list ((ks.take i).map .bytes++[LB (some ks[i])]))):=hE.re hwa
   have gw13:(σ'.set wa (.list ((ks.take i).map .bytes++[LB (some ks[i])]))) wa=_:=MS.set_self ..
   generalize σ'.set wa (MO.list ((ks.take i).map MV.bytes++[LB (some ks[i])]))=σ13 at hE13 gw13 ⊢
   have hA13:=hA9.ext hE13
   refine scA ?_
   refine cM hB (f:=549) TA.s ?_
   refine Aq ?_
   refine NM hB hA13 hw hs hwt hk e1 (fun σ14 hE14=> ?_) (dl hd10)
   refine Ai ?_
   refine Ai ?_
   refine ⟨trivial,_,(Sub.cons (by rfl) (Sub.cons (by rfl) (Sub.cons (by rfl) (Sub.cons (by rfl) (Sub.cons (by rfl) (Sub.cons (by rfl) (Sub.cons (by rfl) (Sub.cons (by rfl) (Sub.cons (by rfl) (Sub.nil)))))))))),rfl,hE13.trans hE14,?_⟩
   rw [hE14 _ _ gw13,List.take_add_one,e1,List.map_append]; rfl
  ·have e1:ks[i]?=none:=List.getElem?_eq_none (Nat.le_of_not_lt hik)
   have e2:ks[i+1]?=none:=List.getElem?_eq_none (Nat.le_of_lt (Nat.lt_succ_of_le (Nat.le_of_not_lt hik)))
   rw [e1,if_neg (by decide)]
   refine Ai ?_
   refine Ai ?_
   refine LoopEnd.of_ex trivial ?_
   show ∃ ρ':List (Str×MV),_∧ρ'=[(S "trie",.ref t),(S "held",.ref h),(S "size",.int size),(S "width",.int width),(S "most",.int most),(S "keys",.ref c2),(S "rows",.ref ra),(S "walked",.ref wa),(S "key",LB ks[i+1]?)]∧_
   rw [e2]
   refine ⟨_,(Sub.cons (by rfl) (Sub.cons (by rfl) (Sub.cons (by rfl) (Sub.cons (by rfl) (Sub.cons (by rfl) (Sub.cons (by rfl) (Sub.cons (by rfl) (Sub.cons (by rfl) (Sub.cons (by rfl) (Sub.nil)))))))))),rfl,hE,?_⟩
   rw [gw,List.take_of_length_le (Nat.le_of_not_lt hik),List.take_of_length_le (Nat.le_of_lt (Nat.lt_succ_of_le (Nat.le_of_not_lt hik)))]
 rintro ρ σ13 ⟨rfl,hE,gw⟩ _
 rw [List.length_map,List.length_range,List.take_of_length_le (Nat.le_add_right _ _)] at gw
 refine scR ?_
 refine eCm ?_
 refine eV ?_
 refine eV ?_
 refine Q6 gw (hE _ _ gk9) ?_ (by rw [C7]; show 0+1≤8*(d-1); exact n8 hd10) (Bp _ _) (Bp _ _)
 rw [HA]
 exact q _ (((hE06.trans hE7).trans hE9).trans hE)
end
noncomputable def plc (p:Int×PN):Nat×Nat:=(p.2.len,p.2.w)
structure Right (P:TP) (tr:Tr) (H:AU) (size:Nat):Prop where
 cnt:(Ab tr).length=P.nodes.length
 inn:∀ e∈H,e.1∈(Ab tr).map plc
 ent:∀ p∈Ab tr,(p.2.slot≠ -1↔plc p∈H.map (·.1))
 two:∀ p∈Ab tr,p.2.slot= -1→p.2.c0≠ -1∧p.2.c1≠ -1
 kid:∀ p∈Ab tr,∀ s,s < 2→DW p.2 s≠ -1→∃ q,P.nodes.lookup (DW p.2 s)=some q∧p.2.len+1≤q.len∧cut size q.w p.2.len=p.2.w∧q.w/2^(size-1-p.2.len)%2=s
 nd:((Ab tr).map plc).Nodup
theorem Rf (p q:Nat×Nat):eqM (kP p) (kP q)=decide (p=q):=by
 show ((p.1:Int)==(q.1:Int) && ((p.2:Int)==(q.2:Int) && true))=_
 rw [Bool.and_true,Bool.eq_iff_iff]
 simp only [Bool.and_eq_true,beq_iff_eq,decide_eq_true_eq]
 constructor
 ·rintro ⟨h,k⟩; exact Prod.ext (Int.ofNat_inj.mp h) (Int.ofNat_inj.mp k)
 ·rintro rfl; exact ⟨rfl,rfl⟩
theorem IZ:∀ l m:List (Nat×Nat),Bt (l.map kP) (m.map kP)=true
 | [],_=>rfl
 | _::_,[]=>rfl
 | x::r,y::s=>by
  show (shp (kP x) (kP y) && Bt (r.map kP) (s.map kP))=true
  rw [IZ r s]; rfl
theorem O6:∀ l:List (Nat×Nat),dps (l.map kP)≤1:=by
 intro w_
 induction w_ with
 | nil =>
  exact Nat.zero_le _
 | cons x r ih_ =>
  show max (dp (kP x)) (dps (r.map kP))≤1
  have:=ih_
  have h:dp (kP x)=1:=rfl
  exact Nat.max_le_of_le_of_le (Nat.le_of_eq h) this
theorem Mm (x:Nat×Nat):∀ l:List (Nat×Nat),(l.map kP).any (fun m=>eqM m (kP x))=decide (x∈l)
 | []=>by simp
 | y::r=>by
  rw [List.map_cons,List.any_cons,Rf,Mm x r,Bool.eq_iff_iff]
  simp only [Bool.or_eq_true,decide_eq_true_eq,List.mem_cons]
  constructor
  ·rintro (h | h); exact .inl h.symm; exact .inr h
  ·rintro (h | h); exact .inl h.symm; exact .inr h
noncomputable def adr (T:TC) (i:Int):Addr:=match T.nodes.lookup i with
 | some p=>p.1.a
 | none=>0
theorem OR {H:AU} {k:Nat×Nat} (n:(H.map (·.1)).Nodup):(H.lookup k).isSome=decide (k∈H.map (·.1)):=by
 rw [Bool.eq_iff_iff,decide_eq_true_eq]
 constructor
 ·intro h
  obtain ⟨v,e⟩:=Option.isSome_iff_exists.mp h
  exact List.mem_map.mpr ⟨_,FC e,rfl⟩
 ·intro h
  refine Af (List.mem_map.mp h) fun e he e_2=> ?_
  subst e_2
  rw [GT n (v:=e.2) he]; rfl
section
variable {w:World} {b:Heap} (hB:BaseOk w b) {d:Nat} {σ:MS} {Q:MV→MS→Prop} {t h:Addr} {T:TC} {tr:Tr} {H:AU} {size:Nat}
include hB
theorem FN (hA:TA σ t T) (hw:Wid T size) (hs:Shp T.pure tr size) (hwt:tr.wt≤3000) (hnn:T.nodes.length≤1000) (rt:Right T.pure tr H size) (ok:HOk H size most) (hm:most≤100) (hH:CS σ h H) (q:∀ σ',Ext σ σ'→Q (.bool true) σ') (hd10:10≤d) :
  WC w b d (.ref 654) [.ref t,.ref h,.int size] σ Q:=by
 have hd:1≤d:=Nat.le_trans (by decide) hd10
 obtain ⟨n,g⟩:=hH
 have hsz:=hw.sz
 have hfew:=ok.few
 have hnd:=Ce ok.nd
 have hlen:(asE kT (AJ H)).length=H.length:=by simp [asE,AJ]
 have hcl:(Ab tr).length=T.nodes.length:=by rw [rt.cnt]; simp [TC.pure]
 have hnd0:∀ p∈Ab tr,∃ z,T.nodes.lookup p.1=some z∧z.2=p.2∧adr T p.1=z.1.a:=fun p hp=>by
  obtain ⟨h1,h2⟩:=Fo hs.rep hp
  obtain ⟨z,h3,h4⟩:=Ay h1
  exact ⟨z,h3,h4,by unfold adr; rw [h3]⟩
 refine AR hB (dv:=[]) (D:=AO 49) [S "trie",S "held",S "size"] ?_ hd ?_
 ·exact bd3 fun U U U=>by rfl
 refine sCo ?_
 refine Ob [(S "trie",.ref t)] ?_ (Sub.cons (by rfl) (Sub.nil))
 refine cM hB (f:=530) TA.s ?_
 refine Ad ?_
 refine DK hB hA hs.rep hwt (fun σ1 c1 hE1 hc1 g1=> ?_) (dl hd10)
 refine ⟨_,_,fun i out σ'=>out=((Ab tr).take i).map (fun p=> .ref (adr T p.1))∧Ext σ1 σ',by simp; exact Nat.le_of_lt (Nat.lt_of_le_of_lt (Nat.le_of_eq hcl) (Nat.lt_of_le_of_lt hnn (by decide))),Hu g1,g1,⟨rfl,Ext.rfl⟩,?_,?_⟩
 ·rintro i v out σ' hv ⟨rfl,hE⟩ hok
  rw [List.getElem?_map,List.getElem?_map] at hv
  obtain ⟨_,hv2,rfl⟩:=Option.map_eq_some_iff.mp hv
  obtain ⟨p0,hp0,rfl⟩:=Option.map_eq_some_iff.mp hv2
  obtain ⟨z,hz1,hz2,hz3⟩:=hnd0 p0 (List.mem_of_getElem? hp0)
  have hA':=(hA.ext hE1).ext hE
  refine ctK ?_
  refine eSu ?_
  refine aV hB TA.s ?_
  refine eV ?_
  refine AK (f:=kI) AB hA'.na (Ao hz1) ?_ trivial (dl hd10)
  refine ⟨hok,?_,hE⟩
  rw [List.take_add_one,hp0,List.map_append]
  show _=_++[MV.ref (adr T p0.1)]
  rw [hz3]
 rintro out σ2 ⟨rfl,hE2⟩ hok2 nl hnl
 rw [List.length_map,List.length_map,List.take_length]
 have hE2:=hE1.trans (hE2.step (o:= .list ((Ab tr).map fun p=> .ref (adr T p.1))) hnl)
 have gn:(σ2.set nl (.list ((Ab tr).map fun p=> .ref (adr T p.1)))) nl=some (.list ((Ab tr).map fun p=> .ref (adr T p.1))):=MS.set_self ..
 generalize σ2.set nl (MO.list ((Ab tr).map fun p=>MV.ref (adr T p.1)))=σ2' at hE2 gn ⊢
 clear hok2 hnl
 have hA2:=hA.ext hE2
 refine sCo ?_
 refine Ke ?_
 refine CH [] ?_ (Sub.nil)
 refine eV ?_
 refine ⟨_,_,fun i out σ'=>out=(((Ab tr).take i).map plc).map kP∧σ'=σ2',by simp; exact Nat.le_of_lt (Nat.lt_of_le_of_lt (Nat.le_of_eq hcl) (Nat.lt_of_le_of_lt hnn (by decide))),Hu gn,gn,⟨rfl,rfl⟩,?_,?_⟩
 ·rintro i v out σ' hv ⟨rfl,rfl⟩ hok
  rw [List.getElem?_map] at hv
  obtain ⟨p0,hp0,rfl⟩:=Option.map_eq_some_iff.mp hv
  obtain ⟨z,hz1,hz2,hz3⟩:=hnd0 p0 (List.mem_of_getElem? hp0)
  have hn:=hA2.nod _ _ hz1
  rw [hz3]
  refine ctK ?_
  refine eTu ?_
  refine lCo ?_
  refine aV hB hn.1 ?_
  refine lCo ?_
  refine aV hB hn.1 ?_
  refine Ad ?_
  refine ⟨rfl,hok,?_,rfl⟩
  rw [List.take_add_one,hp0,List.map_append,List.map_append,hz2]; rfl
 rintro out σ3 ⟨rfl,rfl⟩ _ pl hpl
 rw [List.length_map,List.take_length]
 have hE3:=hE2.step (o:= .list (((Ab tr).map plc).map kP)) hpl
 have gp:(σ3.set pl (.list (((Ab tr).map plc).map kP))) pl=some (.list (((Ab tr).map plc).map kP)):=MS.set_self ..
 have gn3:=MS.set_old (o':= .list (((Ab tr).map plc).map kP)) hpl gn
 generalize σ3.set pl (MO.list (((Ab tr).map plc).map kP))=σ4 at hE3 gp gn3 ⊢
 clear hpl
 have hA4:=hA.ext hE3
 have gh4:=hE3 _ _ g
 have hll:(Ab tr).length=(Cg T.nodes).length:=by rw [hcl]; simp [Cg]
 refine scI ?_
 refine tOr ?_
 refine B0 ?_
 refine tCm ?_
 refine cBu hB ?_
 refine Aq ?_
 refine E4 gn3 (by rw [List.length_map]; exact Nat.le_trans (Nat.le_trans (Nat.le_of_eq hcl) hnn) (by decide)) ?_
 refine cBu hB ?_
 refine lCo ?_
 refine aV hB TA.s ?_
 refine Ad ?_
 refine M1 hB hA4.na (by simp [asE,Cg]; exact Nat.le_of_lt (Nat.lt_of_le_of_lt hnn (by decide))) ?_
 refine cNe ?_
 rw [if_neg (by simp [asE,hll])]
 refine B0 ?_
 refine tCm ?_
 refine CH [(S "places",.ref pl)] ?_ (Sub.cons (by rfl) (Sub.nil))
 refine eV ?_
 refine ⟨_,_,fun i out σ'=>out=[]∧σ'=σ4,by rw [By]; simp; exact Nat.le_trans (Nat.le_trans hfew hm) (by decide),GB hB gh4,gh4,⟨rfl,rfl⟩,?_,?_⟩
 ·rintro i v out σ' hv ⟨rfl,rfl⟩ hok
  rw [By,List.getElem?_map] at hv
  obtain ⟨e0,he0,rfl⟩:=Option.map_eq_some_iff.mp hv
  refine ct1 ?_
  refine tCm ?_
  refine eV ?_
  refine eV ?_
  refine Fz gp ?_ (by have:=O6 ((Ab tr).map plc); show _≤8*(d-1); exact n8d this hd10) (IZ _ _) (fun m hm=>by obtain ⟨y,_,rfl⟩:=List.mem_map.mp hm; rfl)
  rw [Mm,decide_eq_true (rt.inn _ (List.mem_of_getElem? he0))]
  exact kcF ⟨hok,rfl,rfl⟩
 rintro out σ5 ⟨rfl,rfl⟩ _ oa hoa
 have hE5:Ext σ5 (σ5.set oa (.list [])):=Ext.new hoa
 refine BW ?_
 refine Ad ?_
 refine ⟨rfl,fun ob hob=> ?_⟩
 have hE6:=hE5.step (o:= .list []) hob
 refine Kw (xs:=[]) (ys:=[]) (MS.set_old hob (MS.set_self ..)) (MS.set_self ..) ?_ (by show 1≤8*(d-1); exact n8 hd10) (by rfl) (by rfl)
 rw [if_neg (by decide)]
 refine Hj ?_
 rw [if_neg (by decide)]
 have gn6:=hE6 _ _ gn3
 have gp6:=hE6 _ _ gp
 have hA6:=hA4.ext hE6
 have gh6:=hE6 _ _ gh4
 have hE06:=hE3.trans hE6
 generalize (σ5.set oa (MO.list [])).set ob (MO.list [])=σ6 at hE6 gn6 gp6 hA6 gh6 hE06 ⊢
 refine Ai ?_
 refine sCo ?_
 refine EZ ?_
 refine eV ?_
 refine ⟨_,_,fun i ρ σ'=>ρ=[(S "trie",.ref t),(S "held",.ref h),(S "size",.int size),(S "nodes",.ref nl),(S "places",.ref pl)]∧Ext σ6 σ',Hu gn6,gn6,⟨_,(Sub.cons (by rfl) (Sub.cons (by rfl) (Sub.cons (by rfl) (Sub.cons (by rfl) (Sub.cons (by rfl) (Sub.nil)))))),rfl,Ext.rfl⟩,?_,?_⟩
 ·rintro i v ρ σ' hv ⟨rfl,hE⟩ hok
  rw [List.getElem?_map] at hv
  obtain ⟨p0,hp0,rfl⟩:=Option.map_eq_some_iff.mp hv
  have hem:=List.mem_of_getElem? hp0
  obtain ⟨z,hz1,hz2,hz3⟩:=hnd0 p0 hem
  have hA7:=hA6.ext hE
  have gh7:=hE _ _ gh6
  have hn:=hA7.nod _ _ hz1
  rw [hz3]
  have hen:=rt.ent _ hem
  have hkid:=rt.kid _ hem
  have htwo:=rt.two _ hem
  rw [← hz2] at hen hkid htwo
  have hok1:=hs.ok _ _ (Bz hz1)
  refine scI ?_
  refine tOr ?_
  refine B0 ?_
  refine tCm ?_
  refine cM hB (f:=360) hn.1 ?_
  refine Ad ?_
  refine B9 hB hn.1 ?_ (dl hd10)
  refine eCm ?_
  refine eTu ?_
  refine lCo ?_
  refine aV hB hn.1 ?_
  refine lCo ?_
  refine aV hB hn.1 ?_
  refine Ad ?_
  refine ⟨rfl,?_⟩
  refine eV ?_
  refine PW (f:=kT) (k:=pfx (z.2.len,z.2.w)) Cn hB gh7 ?_ hnd (dl hd10)
  have hzp:plc p0=(z.2.len,z.2.w):=by rw [hz2]; rfl
  rw [DU,Option.isSome_map,OR ok.nd]
  have e1:(z.2.slot != -1)=decide ((z.2.len,z.2.w)∈H.map (·.1)):=by
   rw [hzp] at hen
   rw [Bool.eq_iff_iff,decide_eq_true_eq,bne_iff_ne]; exact hen
  refine kNe ?_ (by show 0≤8*(d-1); exact Nat.le_add_left _ _) (by rfl) (by rfl) (fun z=>⟨(fun c=>nomatch c),(fun c=>nomatch c)⟩)
  rw [e1,if_neg (by show ¬ (!(_==_))=true; simp)]
  refine B0 ?_
  refine WB.mono (Q:=fun bb σ''=>bb=false∧σ''=σ') ?_ ?_
  ·refine Lq ?_
   refine Dm ?_
   refine H6 ?_
   refine GH ?_
   refine cM hB (f:=360) hn.1 ?_
   refine Ad ?_
   refine B9 hB hn.1 ?_ (dl hd10)
   refine ⟨_,rfl,?_⟩
   by_cases hsl:z.2.slot= -1
   ·obtain ⟨k0,k1⟩:=htwo hsl
    rw [if_pos (by simp [hsl])]
    refine Dm ?_
    refine tCm ?_
    refine cM hB (f:=374) hn.1 ?_
    refine Ad ?_
    refine E6 hB hn.1 hn.2 ?_ (dl hd10)
    rw [if_neg k0,if_neg k1]
    refine Ae ?_
    refine cNe ?_
    rw [if_neg (by decide)]
    exact ⟨rfl,rfl⟩
   ·rw [if_neg (by simpa using hsl)]
    exact ⟨rfl,rfl⟩
  rintro bb σ'' ⟨rfl,rfl⟩
  rw [if_neg (by decide)]
  refine Hj ?_
  rw [if_neg (by decide)]
  have hzw:z.2.w < 2^size:=hok1.1
  refine Ai ?_
  refine sCo ?_
  refine EZ ?_
  refine cTy hB ?_
  refine lI ?_
  refine Ad ?_
  refine CE fun c8 hc8=> ?_
  have hE8:=hE.step (o:= .rng (2:Int)) hc8
  have gn8:=MS.set_old (o':= .rng (2:Int)) hc8 hok
  have gr8:(σ''.set c8 (.rng ((2:Nat):Int))) c8=some (.rng ((2:Nat):Int)):=MS.set_self ..
  refine ⟨fun U=>True,(List.range 2).map (fun i:Nat=>MV.int i),fun i ρ σ'=>ρ=[(S "trie",.ref t),(S "held",.ref h),(S "size",.int size),(S "nodes",.ref nl),(S "places",.ref pl),(S "node",.ref z.1.a)]∧Ext σ6 σ',DX gr8 (by decide),trivial,⟨_,(Sub.cons (by rfl) (Sub.cons (by rfl) (Sub.cons (by rfl) (Sub.cons (by rfl) (Sub.cons (by rfl) (Sub.cons (by rfl) (Sub.nil))))))),rfl,hE8⟩,?_,?_⟩
  ·rintro s v ρ σ9 hv ⟨rfl,hE9⟩ _
   obtain ⟨hs2,rfl⟩:=Bc hv
   have hA9:=hA6.ext hE9
   have hn9:=hA9.nod _ _ hz1
   have hk9:σ9 z.1.c=some (.list [.int z.2.c0,.int z.2.c1]):=hn9.2
   have hkx:[MV.int z.2.c0,.int z.2.c1][((s:Nat):Int).toNat]?=some (.int (DW z.2 s)):=by rcases (show s=0∨s=1 from Nat.le_one_iff_eq_zero_or_eq_one.mp (Nat.le_of_lt_succ hs2)) with rfl | rfl <;> rfl
   have stop:True∧∃ ρ':List (Str×MV),Sub ρ' (LM.set [(S "trie",.ref t),(S "held",.ref h),(S "size",.int size),(S "nodes",.ref nl),(S "places",.ref pl),(S "node",.ref z.1.a)] (S "side") (.int s))∧ρ'=[(S "trie",.ref t),(S "held",.ref h),(S "size",.int size),(S "nodes",.ref nl),(S "places",.ref pl),(S "node",.ref z.1.a)]∧Ext σ6 σ9:=⟨trivial,_,(Sub.cons (by rfl) (Sub.cons (by rfl) (Sub.cons (by rfl) (Sub.cons (by rfl) (Sub.cons (by rfl) (Sub.cons (by rfl) (Sub.nil))))))),rfl,hE9⟩
   refine scI ?_
   refine tCm ?_
   refine eSu ?_
   refine aV hB hn9.1 ?_
   refine eV ?_
   refine Bm hk9 (Int.natCast_nonneg _) (Int.lt_of_lt_of_le (Int.ofNat_lt.mpr hs2) (by decide)) hkx ?_
   refine eUn ?_
   refine Ae ?_
   refine DP ?_
   refine cNe ?_
   by_cases hk:DW z.2 s= -1
   ·rw [if_neg (by simp [hk])]
    refine Ai ?_
    refine Ai ?_
    exact LoopEnd.of_ex stop.1 stop.2
   obtain ⟨q',hq,hle,Gg,hbit⟩:=hkid s hs2 hk
   obtain ⟨y,hy,hyq⟩:=Ay hq
   have hyq:y.2=q':=hyq
   subst hyq
   have hokq:=hs.ok _ _ hq
   have hy9:=hA9.nod _ _ hy
   rw [if_pos (by simpa using hk)]
   refine scA ?_
   refine eSu ?_
   refine aV hB TA.s ?_
   refine eSu ?_
   refine aV hB hn9.1 ?_
   refine eV ?_
   refine Bm hk9 (Int.natCast_nonneg _) (Int.lt_of_lt_of_le (Int.ofNat_lt.mpr hs2) (by decide)) hkx ?_
   refine AK (f:=kI) AB hA9.na (Ao hy) ?_ trivial (dl hd10)
   refine scI ?_
   refine H6 ?_
   refine GH ?_
   refine cG hB ?_
   refine lCo ?_
   refine eTu ?_
   refine lCo ?_
   refine aV hB hn9.1 ?_
   refine lCo ?_
   refine aV hB hn9.1 ?_
   refine Ad ?_
   refine ⟨rfl,?_⟩
   refine lCo ?_
   refine eBi ?_
   refine aV hB hy9.1 ?_
   refine Ae ?_
   refine CZ ?_
   refine lCo ?_
   refine aV hB hy9.1 ?_
   refine Aq ?_
   rw [show ((y.2.len:Int)-1)=((y.2.len-1:Nat):Int) from cs0 (Nat.le_trans (Nat.le_add_left 1 _) hle)]
   refine Lb hB (o:=(z.2.len,z.2.w)) hok1.2 hsz.le hokq.1 hsz.bd ?_ (dl hd10)
   refine ⟨_,rfl,?_⟩
   rw [if_neg (by rw [Gg]; simp; exact Nat.le_sub_of_add_le hle)]
   refine Ai ?_
   refine scI ?_
   refine tCm ?_
   refine eBi ?_
   refine cTy hB ?_
   refine lCo ?_
   refine eBi ?_
   refine aV hB hy9.1 ?_
   refine eBi ?_
   refine Ae ?_
   refine eBi ?_
   refine eBi ?_
   refine eV ?_
   refine Ae ?_
   refine CZ ?_
   refine aV hB hn9.1 ?_
   refine CZ ?_
   have hyl:y.2.len≤size:=hokq.2
   have hs16:=hsz.le
   have hsub:((size:Int)-1-z.2.len)=((size-1-z.2.len:Nat):Int):=cs1 (Nat.lt_of_lt_of_le (Nat.lt_of_succ_le hle) hyl)
   rw [hsub]
   refine FS ?_ (Int.natCast_nonneg _) (il (Nat.le_trans (Nat.sub_le _ _) (Nat.le_trans (Nat.sub_le _ _) hs16))) (by decide)
   rw [Bu]
   have hpp:=Nat.two_pow_pos (size-1-z.2.len)
   have hpb:2^(size-1-z.2.len)≤2^16:=Nat.pow_le_pow_right (by decide) (by have:=hsz.le; exact Nat.le_trans (Nat.le_trans (Nat.sub_le _ _) (Nat.sub_le _ _)) this)
   have e16:2^16=65536:=rfl
   refine GN ?_ (Int.natCast_ne_zero_iff_pos.mpr hpp) (iab (Nat.le_trans hpb (Nat.le_of_eq e16)))
   rw [AY]
   refine Ad ?_
   refine Dh ?_
   refine Ae ?_
   refine HV ?_ (by decide)
   rw [show (2:Int)=((2:Nat):Int) from rfl,DH,hbit]
   refine eV ?_
   refine cNe ?_
   rw [if_neg (by simp)]
   refine Ai ?_
   refine Ai ?_
   refine Ai ?_
   exact ⟨trivial,_,(Sub.cons (by rfl) (Sub.cons (by rfl) (Sub.cons (by rfl) (Sub.cons (by rfl) (Sub.cons (by rfl) (Sub.cons (by rfl) (Sub.nil))))))),rfl,hE9⟩
  rintro ρ σ9 ⟨rfl,hE9⟩ _
  have gn9:=hE9 _ _ gn6
  refine Ai ?_
  exact ⟨gn9,_,(Sub.cons (by rfl) (Sub.cons (by rfl) (Sub.cons (by rfl) (Sub.cons (by rfl) (Sub.cons (by rfl) (Sub.nil)))))),rfl,hE9⟩
 rintro ρ σ7 ⟨rfl,hE7⟩ _
 have gp7:=hE7 _ _ gp6
 generalize hL:(Ab tr).map plc=L at gp7
 have hLn:L.Nodup:=by rw [← hL]; exact rt.nd
 have hLl:L.length≤1000:=by rw [← hL,List.length_map,hcl]; exact hnn
 have hdp:=O6
 refine scR ?_
 refine eCm ?_
 refine CH [(S "places",.ref pl)] ?_ (Sub.cons (by rfl) (Sub.nil))
 refine cTy hB ?_
 refine lCo ?_
 refine cBu hB ?_
 refine Aq ?_
 refine E4 gp7 (by rw [List.length_map]; exact Nat.le_of_lt (Nat.lt_of_le_of_lt hLl (by decide))) ?_
 rw [List.length_map]
 refine Ad ?_
 refine CE fun c8 hc8=> ?_
 have hE8:Ext σ7 (σ7.set c8 (.rng (L.length:Int))):=Ext.new hc8
 refine ⟨fun U=>True,(List.range L.length).map (fun i:Nat=>MV.int i),fun i out σ'=>out=[]∧Ext σ7 σ',by simp; exact Nat.le_of_lt (Nat.lt_of_le_of_lt hLl (by decide)),DX (MS.set_self ..) (Nat.le_of_lt (Nat.lt_of_le_of_lt hLl (by decide))),trivial,⟨rfl,hE8⟩,?_,?_⟩
 ·rintro s v out σ9 hv ⟨rfl,hE9⟩ _
  obtain ⟨hs2,rfl⟩:=Bc hv
  have gp9:=hE9 _ _ gp7
  refine ct1 ?_
  refine tCm ?_
  refine eSu ?_
  refine eV ?_
  refine eV ?_
  refine Bm gp9 (Int.natCast_nonneg _) (ilt (Nat.le_trans (Nat.le_of_lt hs2) hLl)) (x:=kP L[s]) (by rw [show ((s:Nat):Int).toNat=s from rfl,List.getElem?_map,List.getElem?_eq_getElem hs2]; rfl) ?_
  refine Gk (T:="list") F.slot_list_getitem.lookup ?_
  refine eV ?_
  refine IB ?_
  refine IA ?_
  refine eV ?_
  refine N8 (n:=s) gp9 (by rw [List.length_map]; exact Nat.le_of_lt (Nat.lt_of_le_of_lt hLl (by decide))) fun c hc=> ?_
  have hx2:(σ9.set c (.list ((L.map kP).take s))) c=some (.list ((L.take s).map kP)):=by rw [MS.set_self,List.map_take]
  have hE10:=hE9.step (o:= .list ((L.map kP).take s)) hc
  refine Sd hx2 ?_ (by have:=hdp (L.take s); show _≤8*(d-1); exact n8d this hd10) (IZ _ _) (fun m hm=>by obtain ⟨y,_,rfl⟩:=List.mem_map.mp hm; rfl)
  have hno:L[s]∉L.take s:=fun hin=>by
   obtain ⟨j,hj,e⟩:=List.mem_iff_getElem.mp hin
   rw [List.length_take] at hj
   rw [List.getElem_take] at e
   exact (List.pairwise_iff_getElem.mp hLn) j s (Nat.lt_of_lt_of_le hj (Nat.min_le_right _ _)) hs2 (Nat.lt_of_lt_of_le hj (Nat.min_le_left _ _)) e
  rw [Mm,decide_eq_false hno]
  exact kcF ⟨trivial,rfl,hE10⟩
 rintro out σ8 ⟨rfl,hE9⟩ _ oa hoa
 have hE10:=hE9.step (o:= .list []) hoa
 refine BW ?_
 refine Ad ?_
 refine ⟨rfl,fun ob hob=> ?_⟩
 have hE11:=hE10.step (o:= .list []) hob
 refine Q6 (xs:=[]) (ys:=[]) (MS.set_old hob (MS.set_self ..)) (MS.set_self ..) ?_ (by show 1≤8*(d-1); exact n8 hd10) (by rfl) (by rfl)
 exact q _ ((hE06.trans hE7).trans hE11)
end
noncomputable def hid:Tr→Int
 | .nil=> -1
 | .node id _ _ _=>id
structure Und (size:Nat) (n:PN) (s:Nat) (m:PN):Prop where
 len:n.len < m.len
 cut:cut size m.w n.len=n.w
 bit:AI size m.w n.len=s
noncomputable def WfT (size:Nat):Tr→Prop
 | .nil=>True
 | .node id n a c=>id≠ -1∧n.c0=hid a∧n.c1=hid c∧cut size n.w n.len=n.w∧(∀ q∈Ab a,Und size n 0 q.2)∧(∀ q∈Ab c,Und size n 1 q.2)∧WfT size a∧WfT size c
structure Inv (P:TP) (tr:Tr) (H:AU) (size width most:Nat):Prop where
 sz:SZ size
 wd:1≤width∧width≤2
 mo:2≤most∧most≤6
 kw:P.kw=((4+size/8:Nat):Int)
 vw:P.vw=width
 pmost:P.most=most
 root:P.root=hid tr
 nod:P.nodes.Perm (Ab tr)
 keys:(P.nodes.map (·.1)).Nodup
 wf:WfT size tr
 ok:∀ p∈Ab tr,p.2.w < 2^size∧p.2.len≤size
 two:∀ p∈Ab tr,p.2.slot= -1→p.2.c0≠ -1∧p.2.c1≠ -1
 free:∃ n,n≤11∧(P.nodes.map (·.1)++P.free).Perm ((List.range n).map fun i:Nat=>(i:Int))
 hok:HOk H size most
 hw:∀ e∈H,e.1.2 < 2^size
 hsz:∀ e∈H,e.2.2.size=width
 ents:(H.map fun e=>(e.1,e.2.1)).Perm ((Ee tr).map fun p=>(plc p,p.2.slot))
 used:P.used.Perm (H.map fun e=>e.2.1)
 usedN:P.used.Nodup
 slots:∀ s:Int,s∈P.used→0≤s∧s < (most:Int)
 vals:∀ e∈H,P.vals.lookup e.2.1=some e.2.2
 vsz:∀ s y,P.vals.lookup s=some y→y.size=width
 vkeys:(P.vals.map (·.1)).Nodup
 vlen:∀ s:Int,s∈P.vals.map (·.1)→0≤s∧s < (most:Int)
noncomputable def Ef (H:AU) (size l wo:Nat):AU×Int:=if size < l then (H,-22) else if (H.lookup (l,cut size wo l)).isSome then (Gg H (l,cut size wo l),0) else (H,-2)
theorem D1 {size w v l:Nat}:cut size w l=cut size v l↔w/2^(size-l)=v/2^(size-l):=by
 unfold cut
 constructor
 ·intro h; exact Nat.eq_of_mul_eq_mul_right (Nat.two_pow_pos _) h
 ·intro h; rw [h]
theorem M5 {size w k l:Nat} (h:k≤l) (hl:l≤size):cut size w l/2^(size-k)=w/2^(size-k):=by
 have e:size-k=(size-l)+(l-k):=Eq.symm (Nat.sub_add_sub_cancel hl h)
 unfold cut
 rw [e,Nat.pow_add,←Nat.div_div_eq_div_mul,←Nat.div_div_eq_div_mul,Nat.mul_div_cancel _ (Nat.two_pow_pos _)]
theorem FL {size w k l:Nat} (h:k≤l) (hl:l≤size):cut size (cut size w l) k=cut size w k:=by
 rw [D1,M5 h hl]
theorem FK {size w l:Nat} (hl:l≤size):cut size (cut size w l) l=cut size w l:=FL (Nat.le_refl _) hl
theorem JG {size w l:Nat} (h:w < 2^size):cut size w l < 2^size:=Nat.lt_of_le_of_lt (Nat.div_mul_le_self _ _) h
theorem GX {size w k l:Nat} (h:k < l) (hl:l≤size):AI size (cut size w l) k=AI size w k:=by
 unfold AI
 have:=M5 (size:=size) (w:=w) (k:=k+1) (l:=l) h hl
 rw [show size-1-k=size-(k+1) from s1k size k,this]
theorem HS (size w i:Nat):AI size w i < 2:=Nat.mod_lt _ (by decide)
theorem KV {size w v l:Nat} (hl:l < size):cut size w (l+1)=cut size v (l+1)↔cut size w l=cut size v l∧AI size w l=AI size v l:=by
 rw [D1,D1]
 unfold AI
 rw [show size-1-l=size-(l+1) from s1k size l]
 have e:size-l=(size-(l+1))+1:=Eq.symm (Nat.pred_inj (Nat.succ_pos _) (Iff.mpr Nat.lt_sub_iff_add_lt' hl) (Nat.pred_succ _))
 rw [e,Nat.pow_add,←Nat.div_div_eq_div_mul,←Nat.div_div_eq_div_mul]
 generalize w/2^(size-(l+1))=x
 generalize v/2^(size-(l+1))=y
 rw [Nat.pow_one]
 exact Nat.ext_div_mod_iff 2 x y
theorem Lj {w v j:Nat}:w^^^v < 2^j↔w/2^j=v/2^j:=by
 have e:(w^^^v)/2^j=(w/2^j)^^^(v/2^j):=by
  rw [← Nat.shiftRight_eq_div_pow,←Nat.shiftRight_eq_div_pow,←Nat.shiftRight_eq_div_pow,Nat.shiftRight_xor_distrib]
 rw [← Nat.div_eq_zero_iff_lt (Nat.two_pow_pos _),e]
 generalize w/2^j=x
 generalize v/2^j=y
 constructor
 ·intro h
  have h1:=Gr x y
  have h2:x&&&y≤x:=Nat.and_le_left
  have h3:x&&&y≤y:=Nat.and_le_right
  lia
 ·rintro rfl; exact Nat.xor_self _
theorem He {size w v m k:Nat} (hm:m≤size) (hw:w < 2^size) (hv:v < 2^size):k≤Av w v m size↔k≤m∧cut size w k=cut size v k:=by
 unfold Av
 rw [Nat.le_min,D1,←Lj,←ET]
 have hb:DL (w^^^v)≤size:=ET.mpr (Nat.xor_lt_two_pow hw hv)
 constructor
 ·rintro ⟨h1,h2⟩; exact ⟨h1,Nat.le_sub_of_add_le (Nat.add_le_of_le_sub' hb h2)⟩
 ·rintro ⟨h1,h2⟩; exact ⟨h1,Nat.le_sub_of_add_le (Nat.add_le_of_le_sub' (Nat.le_trans h1 hm) h2)⟩
noncomputable def Beg (size l w:Nat) (n:PN):Prop:=n.len≤l∧cut size w n.len=n.w
noncomputable instance (size l w:Nat) (n:PN):Decidable (Beg size l w n):=inferInstanceAs (Decidable (_∧_))
theorem C9 {size l w:Nat} {n:PN} (hn:n.len≤size) (hnw:n.w < 2^size) (hc:cut size n.w n.len=n.w) (hw:w < 2^size) (hl:l≤size):Av n.w w (min n.len l) size < n.len↔¬ Beg size l w n:=by
 have h:=He (size:=size) (w:=n.w) (v:=w) (m:=min n.len l) (k:=n.len) (Nat.le_trans (Nat.min_le_left _ _) hn) hnw hw
 rw [hc] at h
 constructor
 ·intro h1 h2
  have:=h.mpr ⟨by have:=h2.1; exact Nat.le_min_of_le_of_le (Nat.le_refl _) this,h2.2.symm⟩
  lia
 ·intro h1
  rcases Nat.lt_or_ge (Av n.w w (min n.len l) size) n.len with z | z
  ·exact z
  ·have:=h.mp z
   exact absurd ⟨Nat.le_trans this.1 (Nat.min_le_right _ _),this.2.symm⟩ h1
noncomputable def OkT (size:Nat) (l:List (Int×PN)):Prop:=∀ p∈l,p.2.w < 2^size∧p.2.len≤size
theorem Und.beg {size l w s:Nat} {n m:PN} (u:Und size n s m) (hm:m.len≤size) (h:Beg size l w m):Beg size l w n∧n.len≠l∧AI size w n.len=s:=by
 obtain ⟨h1,h2⟩:=h
 have:=u.len
 refine ⟨⟨Nat.le_of_lt (Nat.lt_of_lt_of_le this h1),?_⟩,Nat.ne_of_lt (Nat.lt_of_lt_of_le this h1),?_⟩
 ·rw [← FL (l:=m.len) (Nat.le_of_lt this) hm,h2,u.cut]
 ·rw [← GX u.len hm,h2,u.bit]
theorem DB {size l w:Nat} (hw:w < 2^size) (hl:l≤size) {tr:Tr} (h:WfT size tr) (ok:OkT size (Ab tr)):∀ p,p∈Ac size l w tr↔p∈Ab tr∧Beg size l w p.2:=by
 induction tr with
 | nil=>intro p; simp [Ac,Ab]
 | node id n a c ia ic =>
  intro p
  have ok0:=ok (id,n) (.head _)
  have oa:OkT size (Ab a):=fun q hq=>ok q (.tail _ (List.mem_append_left _ hq))
  have oc:OkT size (Ab c):=fun q hq=>ok q (.tail _ (List.mem_append_right _ hq))
  have ua:=h.2.2.2.2.1
  have uc:=h.2.2.2.2.2.1
  have ia:=ia h.2.2.2.2.2.2.1 oa p
  have ic:=ic h.2.2.2.2.2.2.2 oc p
  have hsb:=C9 ok0.2 ok0.1 h.2.2.2.1 hw hl
  show p∈(if Av n.w w (min n.len l) size < n.len then [] else (id,n)::(if n.len=l then [] else if AI size w n.len=0 then Ac size l w a else Ac size l w c))↔p∈(id,n)::(Ab a++Ab c)∧_
  clear h ok
  by_cases hb:Beg size l w n
  ·rw [if_neg fun c=>hsb.mp c hb]
   constructor
   ·intro h
    rcases List.mem_cons.mp h with rfl | h
    ·exact ⟨.head _,hb⟩
    ·by_cases h1:n.len=l
     ·rw [if_pos h1] at h; cases h
     ·rw [if_neg h1] at h
      by_cases h2:AI size w n.len=0
      ·rw [if_pos h2] at h
       exact ⟨.tail _ (List.mem_append_left _ (ia.mp h).1),(ia.mp h).2⟩
      ·rw [if_neg h2] at h
       exact ⟨.tail _ (List.mem_append_right _ (ic.mp h).1),(ic.mp h).2⟩
   ·rintro ⟨h,hp⟩
    rcases List.mem_cons.mp h with rfl | h
    ·exact .head _
    ·refine .tail _ ?_
     rcases List.mem_append.mp h with h | h
     ·obtain ⟨_,h1,h2⟩:=(ua p h).beg (oa p h).2 hp
      rw [if_neg h1,if_pos h2]; exact ia.mpr ⟨h,hp⟩
     ·obtain ⟨_,h1,h2⟩:=(uc p h).beg (oc p h).2 hp
      rw [if_neg h1,if_neg (Nat.ne_of_gt (Nat.lt_of_sub_eq_succ h2))]; exact ic.mpr ⟨h,hp⟩
  ·rw [if_pos (hsb.mpr hb)]
   constructor
   ·intro h; cases h
   ·rintro ⟨h,hp⟩
    rcases List.mem_cons.mp h with rfl | h
    ·exact absurd hp hb
    ·rcases List.mem_append.mp h with h | h
     ·exact absurd ((ua p h).beg (oa p h).2 hp).1 hb
     ·exact absurd ((uc p h).beg (oc p h).2 hp).1 hb
theorem Hh {size l w:Nat} (hw:w < 2^size) (hl:l≤size) {tr:Tr} (h:WfT size tr) (ok:OkT size (Ab tr)):(Ac size l w tr).Pairwise fun p q=>p.2.len < q.2.len:=by
 induction tr with
 | nil=>exact List.Pairwise.nil
 | node id n a c ia ic =>
  have oa:OkT size (Ab a):=fun q hq=>ok q (.tail _ (List.mem_append_left _ hq))
  have oc:OkT size (Ab c):=fun q hq=>ok q (.tail _ (List.mem_append_right _ hq))
  have wa:=h.2.2.2.2.2.2.1
  have wc:=h.2.2.2.2.2.2.2
  show List.Pairwise _ (if Av n.w w (min n.len l) size < n.len then [] else (id,n)::(if n.len=l then [] else if AI size w n.len=0 then Ac size l w a else Ac size l w c))
  split
  ·exact .nil
  ·refine List.pairwise_cons.mpr ⟨fun q hq=> ?_,?_⟩
   ·split at hq
    ·cases hq
    ·split at hq
     ·exact (h.2.2.2.2.1 q ((DB hw hl wa oa q).mp hq).1).len
     ·exact (h.2.2.2.2.2.1 q ((DB hw hl wc oc q).mp hq).1).len
   ·split
    ·exact .nil
    ·split
     ·exact ia wa oa
     ·exact ic wc oc
theorem Iy {size:Nat} {tr:Tr}:WfT size tr→((Ab tr).map plc).Nodup:=by
 induction tr with
 | nil=>exact fun U=>List.nodup_nil
 | node id n a c iha ihc =>
  intro wf
  refine Qd wf fun U U U hc ua uc wa wc=> ?_
  show (plc (id,n)::(Ab a++Ab c).map plc).Nodup
  rw [List.nodup_cons,List.map_append,List.nodup_append]
  have lt:∀ (t:Tr) s,(∀ q∈Ab t,Und size n s q.2)→plc (id,n)∉(Ab t).map plc:=fun t s u h=>Af (List.mem_map.mp h) fun q hq e=>Nat.lt_irrefl _ (Nat.lt_of_lt_of_le (u q hq).len (Nat.le_of_eq (congrArg Prod.fst e)))
  refine JB (fun h=>(List.mem_append.mp h).elim (lt a 0 ua) (lt c 1 uc)) (iha wa) (ihc wc) (fun x hx y hy e=> ?_)
  subst e
  refine Af (List.mem_map.mp hx) fun q hq e1=>Af (List.mem_map.mp hy) fun r hr e2=> ?_
  have h1:=(ua q hq).bit
  rw [show q.2.w=r.2.w from congrArg Prod.snd (e1.trans e2.symm),(uc r hr).bit] at h1; cases h1
theorem Jr {α β:Type} (f:α→β):∀ {l:List α},(l.map f).Nodup→∀ {p q:α},p∈l→q∈l→f p=f q→p=q:=by
 intro l_
 induction l_ with
 | nil=>exact fun U U U h=>(List.not_mem_nil h).elim
 | cons x l ih =>
  intro n  p  q  hp  hq  e
  have n:=List.nodup_cons.mp n
  rcases List.mem_cons.mp hp with h1 | h1 <;> rcases List.mem_cons.mp hq with h2 | h2
  ·rw [h1,h2]
  ·exact (n.1 (List.mem_map.mpr ⟨q,h2,by rw [← e,h1]⟩)).elim
  ·exact (n.1 (List.mem_map.mpr ⟨p,h1,by rw [e,h2]⟩)).elim
  ·exact ih n.2 h1 h2 e
theorem MC {size:Nat} {tr:Tr} (h:WfT size tr) {p q:Int×PN} (hp:p∈Ab tr) (hq:q∈Ab tr) (e:plc p=plc q):p=q:=Jr plc (Iy h) hp hq e
theorem Pq {l:List (Int×PN)} (h:l.Pairwise fun p q=>p.2.len < q.2.len) {p q:Int×PN} (hl:l.getLast?=some p) (hq:q∈l):q=p∨q.2.len < p.2.len:=by
 rcases List.eq_nil_or_concat l with rfl | ⟨l0,x,rfl⟩
 ·cases hl
 ·rw [List.concat_eq_append] at hl hq h
  rw [List.getLast?_append] at hl
  have hx:x=p:=by simpa using hl
  subst hx
  rcases List.mem_append.mp hq with hq | hq
  ·rw [List.pairwise_append] at h
   exact .inr (h.2.2 q hq x (List.mem_singleton.mpr rfl))
  ·exact .inl (List.mem_singleton.mp hq)
theorem EQ {size l w:Nat} (hw:w < 2^size) (hl:l≤size) {tr:Tr} (wf:WfT size tr) (ok:OkT size (Ab tr)) (p:Int×PN):Au size l w tr=some p↔p∈Ab tr∧p.2.len=l∧p.2.w=cut size w l:=by
 unfold Au
 rw [if_neg (Nat.not_lt_of_le hl)]
 have hi:=DB hw hl wf ok
 have ha:=Hh hw hl wf ok
 constructor
 ·intro h
  cases hg:(Ac size l w tr).getLast? with
  | none=>rw [hg] at h; cases h
  | some q =>
   rw [hg] at h
   dsimp only at h
   split at h
   ·rename_i e
    cases h
    obtain ⟨h1,h2⟩:=(hi p).mp (List.mem_of_getLast? hg)
    exact ⟨h1,e,by rw [← h2.2,e]⟩
   ·cases h
 ·rintro ⟨h1,h2,h3⟩
  have hm:p∈Ac size l w tr:=(hi p).mpr ⟨h1,Nat.le_of_eq h2,by rw [h2,h3]⟩
  cases hg:(Ac size l w tr).getLast? with
  | none =>
   rw [List.getLast?_eq_none_iff] at hg
   rw [hg] at hm; cases hm
  | some q =>
   dsimp only
   have hq:=(hi q).mp (List.mem_of_getLast? hg)
   rcases Pq ha hg hm with rfl | z
   ·rw [if_pos h2]
   ·have:=hq.2.1; lia
theorem QW {α β:Type} {f:α→β}:∀ {l:List α},(l.map f).Nodup→l.Nodup:=by
 intro w_
 induction w_ with
 | nil =>
  intro _
  exact List.nodup_nil
 | cons x l ih_ =>
  intro n
  rw [List.map_cons,List.nodup_cons] at n
  exact List.nodup_cons.mpr ⟨fun h=>n.1 (List.mem_map.mpr ⟨x,h,rfl⟩),ih_ n.2⟩
theorem Of {size:Nat} {ns:List (Int×PN)} {tr:Tr}:WfT size tr→(∀ p∈Ab tr,ns.lookup p.1=some p.2)→Rep ns (hid tr) tr:=by
 induction tr with
 | nil=>exact fun U U=>rfl
 | node id n a c iha ihc =>
  intro wf h
  refine Qd wf fun h1 h2 h3 U U U wa wc=>Sv rfl h1 (h (id,n) (.head _)) ?_ ?_
  ·rw [h2]; exact iha wa fun p hp=>h p (.tail _ (List.mem_append_left _ hp))
  ·rw [h3]; exact ihc wc fun p hp=>h p (.tail _ (List.mem_append_right _ hp))
theorem FH:∀ tr:Tr,tr.depth≤(Ab tr).length
 | .nil=>Nat.le_refl _
 | .node id n a c=>by
  show max a.depth c.depth+1≤((id,n)::(Ab a++Ab c)).length
  have:=FH a; have:=FH c
  rw [List.length_cons,List.length_append]; exact mx ‹_› this
theorem NU:∀ tr:Tr,tr.wt=2*(Ab tr).length+1
 | .nil=>rfl
 | .node id n a c=>by
  show 1+a.wt+c.wt=2*((id,n)::(Ab a++Ab c)).length+1
  rw [List.length_cons,List.length_append,NU a,NU c]; lia
theorem Js {size:Nat}:∀ {tr:Tr},WfT size tr→(hid tr= -1↔tr= .nil)
 | .nil=>by
  intro _
  exact ⟨fun U=>rfl,fun U=>rfl⟩
 | .node _ _ _ _=>by
  intro r_68
  obtain ⟨h,_⟩:=r_68
  exact ⟨fun e=>absurd e h,fun e=>nomatch e⟩
noncomputable def CR (l:List (Int×PN)):Prop:=∀ p∈l,p.2.slot= -1→p.2.c0≠ -1∧p.2.c1≠ -1
theorem KW {size:Nat} {tr:Tr}:WfT size tr→CR (Ab tr)→(Ab tr).length≤2*(Ee tr).length∧(tr≠ .nil→(Ab tr).length+1≤2*(Ee tr).length):=by
 induction tr with
 | nil=>exact fun U U=>⟨Nat.le_refl _,fun c=>absurd rfl c⟩
 | node id n a c iha ihc =>
  intro wf tw
  refine Qd wf fun h1 h2 h3 U U U wa wc=> ?_
  have ia:=iha wa fun p hp=>tw p (.tail _ (List.mem_append_left _ hp))
  have ic:=ihc wc fun p hp=>tw p (.tail _ (List.mem_append_right _ hp))
  have e:Ee (.node id n a c)=(if (n.slot != -1)=true then [(id,n)] else [])++(Ee a++Ee c):=by
   show List.filter _ ((id,n)::(Ab a++Ab c))=_
   rw [List.filter_cons,List.filter_append]
   split <;> rfl
  have el:(Ab (.node id n a c)).length=1+((Ab a).length+(Ab c).length):=(congrArg Nat.succ List.length_append).trans (Nat.succ_eq_one_add _)
  rw [e,el,List.length_append,List.length_append]
  by_cases hs:n.slot= -1
  ·have k:=tw (id,n) (.head _) hs
   have na:a≠ .nil:=fun c=>k.1 (by show n.c0= -1; rw [h2,c]; rfl)
   have nc:c≠ .nil:=fun e=>k.2 (by show n.c1= -1; rw [h3,e]; rfl)
   rw [if_neg (by simp [hs]),List.length_nil]
   have z:1+((Ab a).length+(Ab c).length)+1≤2*(0+((Ee a).length+(Ee c).length)):=by
    rw [Nat.zero_add,Nat.mul_add,Nat.add_comm 1]
    exact Nat.le_trans (Nat.le_of_eq (Nat.add_add_add_comm (Ab a).length 1 (Ab c).length 1).symm) (Nat.add_le_add (ia.2 na) (ic.2 nc))
   exact ⟨Nat.le_of_succ_le z,fun U=>z⟩
  ·rw [if_pos (by simpa using hs)]
   have z:1+((Ab a).length+(Ab c).length)+1≤2*(1+((Ee a).length+(Ee c).length)):=by
    rw [Nat.mul_add,Nat.mul_add 2 (List.length _),Nat.add_right_comm]
    exact Nat.add_le_add_left (Nat.add_le_add ia.1 ic.1) 2
   exact ⟨Nat.le_of_succ_le z,fun U=>z⟩
theorem QK {size:Nat} {tr:Tr} (h:WfT size tr):∀ p∈Ab tr,cut size p.2.w p.2.len=p.2.w:=by
 induction tr with
 | nil=>intro p hp; cases hp
 | node id n a c ia ic =>
  intro p hp
  rcases List.mem_cons.mp hp with rfl | hp
  ·exact h.2.2.2.1
  ·rcases List.mem_append.mp hp with hp | hp
   ·exact ia h.2.2.2.2.2.2.1 p hp
   ·exact ic h.2.2.2.2.2.2.2 p hp
theorem Jt {size:Nat}:∀ {tr:Tr},hid tr≠ -1→∃ q,(hid tr,q)∈Ab tr
 | .nil=>by
  intro h
  exact absurd rfl h
 | .node id n a c=>by
  intro _
  exact ⟨n,.head _⟩
theorem QJ {size:Nat} {tr:Tr} (h:WfT size tr):∀ p∈Ab tr,∀ s,s < 2→DW p.2 s≠ -1→∃ q,(DW p.2 s,q)∈Ab tr∧Und size p.2 s q:=by
 induction tr with
 | nil=>intro p hp; cases hp
 | node id n a c ia ic =>
  intro p hp s hs hk
  rcases List.mem_cons.mp hp with rfl | hp
  ·rcases (show s=0∨s=1 by lia) with rfl | rfl
   ·have e:DW (id,n).2 0=hid a:=h.2.1
    rw [e] at hk ⊢
    obtain ⟨q,hq⟩:=Jt (size:=size) hk
    exact ⟨q,.tail _ (List.mem_append_left _ hq),h.2.2.2.2.1 _ hq⟩
   ·have e:DW (id,n).2 1=hid c:=h.2.2.1
    rw [e] at hk ⊢
    obtain ⟨q,hq⟩:=Jt (size:=size) hk
    exact ⟨q,.tail _ (List.mem_append_right _ hq),h.2.2.2.2.2.1 _ hq⟩
  ·rcases List.mem_append.mp hp with hp | hp
   ·obtain ⟨q,g,u⟩:=ia h.2.2.2.2.2.2.1 p hp s hs hk
    exact ⟨q,.tail _ (List.mem_append_left _ g),u⟩
   ·obtain ⟨q,g,u⟩:=ic h.2.2.2.2.2.2.2 p hp s hs hk
    exact ⟨q,.tail _ (List.mem_append_right _ g),u⟩
theorem HR {l m:List Nat} (hl:∀ x∈l,x < 256) (hm:∀ x∈m,x < 256) (e:Bg l=Bg m):l=m:=by
 have h1:=G6 hl
 rw [e,G6 hm] at h1
 have:Function.Injective fun x:Nat=>MV.int (x:Int):=fun a c h=>by injection h with h; exact Int.ofNat_inj.mp h
 exact (List.map_inj_right (fun a c h=>this h)).mp h1.symm
theorem OF {size l w m v:Nat} (hs:SZ size) (hl:l < 4294967296) (hm:m < 4294967296) (hw:w < 2^size) (hv:v < 2^size) (e:BY size l w=BY size m v):(l,w)=(m,v):=by
 have h1:=Gc size l w
 have h2:=EO size l w
 rw [e,Gc] at h1
 rw [e,EO] at h2
 have e1:=HR (fun x hx=>GS hx) (fun x hx=>GS hx) h1
 have e2:=HR (fun x hx=>FJ hx) (fun x hx=>FJ hx) h2
 have e3:=Jw hl
 have e4:=JS hs hw
 rw [← e1,Jw hm] at e3
 rw [← e2,JS hs hv] at e4
 rw [e3,e4]
section
variable {P:TP} {tr:Tr} {H:AU} {size width most l wo:Nat}
theorem Inv.okT (I:Inv P tr H size width most):OkT size (Ab tr):=I.ok
theorem Inv.look_iff (I:Inv P tr H size width most) {i:Int} {n:PN}:P.nodes.lookup i=some n↔(i,n)∈Ab tr:=⟨fun h=>I.nod.mem_iff.mp (LK h),fun h=>F5 I.keys (I.nod.mem_iff.mpr h)⟩
theorem Inv.rep (I:Inv P tr H size width most):Rep P.nodes P.root tr:=by
 rw [I.root]; exact Of I.wf fun p hp=>I.look_iff.mpr hp
theorem Inv.entLen (I:Inv P tr H size width most):(Ee tr).length=H.length:=by have:=I.ents.length_eq; simpa using this.symm
theorem Inv.lens (I:Inv P tr H size width most):tr.wt≤100∧P.nodes.length≤11∧P.free.length≤11∧P.used.length≤6∧P.vals.length≤6∧H.length≤6:=by
 have h1:=I.hok.few
 have h2:=I.mo
 have h3:=KW I.wf I.two
 rw [I.entLen] at h3
 have h4:(Ab tr).length≤11:=by
  by_cases c:tr= .nil
  ·rw [c]; exact Nat.zero_le _
  ·have:=h3.2 c; exact Nat.le_of_succ_le_succ (Nat.le_trans (Nat.le_trans this (Nat.mul_le_mul_left _ (Nat.le_trans h1 h2.2))) (by decide))
 have h5:=I.nod.length_eq
 have h6:=I.used.length_eq
 rw [List.length_map] at h6
 refine Af I.free fun n hn hp=> ?_
 have h7:=hp.length_eq
 rw [List.length_append,List.length_map,List.length_map,List.length_range] at h7
 have h8:P.vals.length≤most:=by
  have:=E1 (m:=(List.range most).map fun i:Nat=>(i:Int)) I.vkeys fun s hs=>by
   obtain ⟨a,b⟩:=I.vlen s hs
   exact List.mem_map.mpr ⟨s.toNat,List.mem_range.mpr (Iff.mpr (Int.toNat_lt a) b),Int.natCast_toNat_eq_self.mpr a⟩
  simpa using this
 refine ⟨by rw [NU]; exact Nat.le_trans (Nat.add_le_add_right (Nat.mul_le_mul_left _ h4) _) (by decide),Nat.le_trans (Nat.le_of_eq h5) h4,by lia,Nat.le_trans (Nat.le_trans (Nat.le_of_eq h6) h1) h2.2,Nat.le_trans h8 h2.2,Nat.le_trans h1 h2.2⟩
theorem Inv.shp (I:Inv P tr H size width most):Shp P tr size:=by
 refine ⟨I.rep,fun i n h=>I.ok _ (I.look_iff.mp h),?_⟩
 have h1:=FH tr
 have h2:=I.lens.2.1
 have h3:=I.nod.length_eq
 exact Nat.le_trans (Nat.le_trans (Nat.le_trans h1 (Nat.le_of_eq (Eq.symm h3))) h2) (by decide)
theorem Inv.node (I:Inv P tr H size width most) {e:(Nat×Nat)×(Int×Array UInt8)} (he:e∈H):∃ p∈Ab tr,plc p=e.1∧p.2.slot=e.2.1∧p.2.slot≠ -1:=by
 have:=I.ents.mem_iff.mp (List.mem_map.mpr ⟨e,he,rfl⟩)
 refine Af (List.mem_map.mp this) fun p hp h=> ?_
 obtain ⟨h1,h2⟩:=List.mem_filter.mp hp
 exact ⟨p,h1,congrArg Prod.fst h,congrArg Prod.snd h,by simpa using h2⟩
theorem Inv.entry (I:Inv P tr H size width most) {p:Int×PN} (hp:p∈Ab tr) (hs:p.2.slot≠ -1):∃ e∈H,e.1=plc p∧e.2.1=p.2.slot:=by
 have:=I.ents.mem_iff.mpr (List.mem_map.mpr ⟨p,List.mem_filter.mpr ⟨hp,by simpa using hs⟩,rfl⟩)
 refine Af (List.mem_map.mp this) fun e he h=> ?_
 exact Cu e he (congrArg Prod.fst h) (congrArg Prod.snd h)
theorem Inv.exact (I:Inv P tr H size width most) (hw:wo < 2^size) (hl:l≤size) (p:Int×PN):Au size l wo tr=some p↔p∈Ab tr∧plc p=(l,cut size wo l):=by
 rw [EQ hw hl I.wf I.okT]
 constructor
 ·rintro ⟨h1,h2,h3⟩; exact ⟨h1,Prod.ext h2 h3⟩
 ·rintro ⟨h1,h2⟩; exact ⟨h1,congrArg Prod.fst h2,congrArg Prod.snd h2⟩
theorem Inv.self_cut (I:Inv P tr H size width most) {e:(Nat×Nat)×(Int×Array UInt8)} (he:e∈H):cut size e.1.2 e.1.1=e.1.2:=by
 refine Br (I.node he) fun p hp h1 U=> ?_
 have:=QK I.wf p hp
 rw [← h1]; exact this
theorem Inv.agr (I:Inv P tr H size width most):Agr P tr H size width most:=by
 have hs16:=I.sz.le
 have hwd:=I.wd
 refine ⟨I.hok,I.lens.2.2.2.2.2,I.hw,?_,?_,I.used,fun e he=>⟨?_,I.vals e he⟩,fun e he=>by rw [I.hsz e he]; exact Nat.le_of_lt (Nat.lt_of_le_of_lt hwd.2 (by decide)),I.vw,I.pmost⟩
 ·refine Cm (fun a ha c hc h=> ?_) (QW I.hok.nd)
  have h1:=I.hok.le a ha
  have h2:=I.hok.le c hc
  have:=OF I.sz (Nat.lt_of_le_of_lt h1 (Nat.lt_of_le_of_lt hs16 (by decide))) (Nat.lt_of_le_of_lt h2 (Nat.lt_of_le_of_lt hs16 (by decide))) (I.hw a ha) (I.hw c hc) h
  exact Jr (·.1) I.hok.nd ha hc this
 ·have:=I.ents.map (fun x=>BY size x.1.1 x.1.2)
  rw [List.map_map,List.map_map] at this
  exact this
 ·refine KM (I.node he) fun p hp h1 h2 h3=> ?_
  rw [(I.exact (I.hw e he) (I.hok.le e he) p).mpr ⟨hp,by rw [h1,I.self_cut he]⟩]
  show (if p.2.slot= -1 then none else some p.2.slot)=_
  rw [if_neg h3,h2]
theorem Inv.right (I:Inv P tr H size width most):Right P tr H size where
 cnt:=I.nod.length_eq.symm
 inn e he:=by
  refine Br (I.node he) fun p hp h1 U=> ?_
  exact List.mem_map.mpr ⟨p,hp,h1⟩
 ent p hp:=by
  constructor
  ·intro h
   refine Br (I.entry hp h) fun e he h1 U=> ?_
   exact List.mem_map.mpr ⟨e,he,h1⟩
  ·intro h
   refine Af (List.mem_map.mp h) fun e he h1=> ?_
   refine KM (I.node he) fun q hq h2 h3 h4=> ?_
   have:=MC I.wf hq hp (h2.trans h1)
   rw [← this]; exact h4
 two:=I.two
 kid p hp s hs hk:=by
  refine Af (QJ I.wf p hp s hs hk) fun q hq u=> ?_
  exact LT q (I.look_iff.mpr hq) u.len u.cut u.bit
 nd:=Iy I.wf
theorem M4 {size l wo:Nat}:∀ H:AU,(∃ s m,CN H size l wo=(some s,m)∧l≤size∧∃ e∈H,Im size l wo e.1=true∧e.2.1=s∧(e.1.1:Int)=m∧∀ f∈H,Im size l wo f.1=true→f.1.1≤e.1.1)∨(CN H size l wo=(none,-1)∧(l≤size→∀ f∈H,Im size l wo f.1=false)):=by
 intro H
 have h:∀ (K:AU),K.reverse.reverse=K:=fun K=>List.reverse_reverse K
 rw [← h H]
 induction H.reverse with
 | nil=>exact .inr ⟨rfl,fun U f hf=>nomatch hf⟩
 | cons x r ih =>
  rw [List.reverse_cons]
  generalize r.reverse=K at ih
  have e:CN (K++[x]) size l wo=B6 size l wo (CN K size l wo) x:=by unfold CN; rw [List.foldl_append]; rfl
  rw [e]
  have mem:∀ f,f∈K++[x]↔f∈K∨f=x:=fun f=>by simp
  by_cases hl:l≤size
  ·by_cases hb:Im size l wo x.1=true
   ·rcases ih with ⟨s,m,e1,_,y,hy,h1,h2,h3,h4⟩ | ⟨e1,h1⟩
    ·by_cases hlt:m < (x.1.1:Int)
     ·left
      refine Bq x.2.1 x.1.1 ?_ hl ⟨x,(mem x).mpr (.inr rfl),hb,rfl,rfl,fun f hf hfb=> ?_⟩
      ·rw [e1]; unfold B6; rw [decide_eq_true hl,hb,decide_eq_true hlt]; rfl
      ·rcases (mem f).mp hf with hf | rfl
       ·have:=h4 f hf hfb; lia
       ·exact Nat.le_refl _
     ·left
      refine Bq s m ?_ hl ⟨y,(mem y).mpr (.inl hy),h1,h2,h3,fun f hf hfb=> ?_⟩
      ·rw [e1]; unfold B6; rw [decide_eq_false hlt]; simp
      ·rcases (mem f).mp hf with hf | rfl
       ·exact h4 f hf hfb
       ·lia
    ·left
     refine Bq x.2.1 x.1.1 ?_ hl ⟨x,(mem x).mpr (.inr rfl),hb,rfl,rfl,fun f hf hfb=> ?_⟩
     ·rw [e1]; unfold B6
      have:(-1:Int) < (x.1.1:Int):=ing
      rw [decide_eq_true hl,hb,decide_eq_true this]; rfl
     ·rcases (mem f).mp hf with hf | rfl
      ·rw [h1 hl f hf] at hfb; cases hfb
      ·exact Nat.le_refl _
   ·have hb':Im size l wo x.1=false:=by simpa using hb
    have e2:B6 size l wo (CN K size l wo) x=CN K size l wo:=by unfold B6; rw [hb']; simp
    rw [e2]
    rcases ih with ⟨s,m,e1,_,y,hy,h1,h2,h3,h4⟩ | ⟨e1,h1⟩
    ·left
     refine Bq s m e1 hl ⟨y,(mem y).mpr (.inl hy),h1,h2,h3,fun f hf hfb=> ?_⟩
     rcases (mem f).mp hf with hf | rfl
     ·exact h4 f hf hfb
     ·rw [hb'] at hfb; cases hfb
    ·right
     refine ⟨e1,fun U f hf=> ?_⟩
     rcases (mem f).mp hf with hf | rfl
     ·exact h1 hl f hf
     ·exact hb'
  ·have e2:B6 size l wo (CN K size l wo) x=CN K size l wo:=by unfold B6; rw [decide_eq_false hl]; simp
   rw [e2]
   rcases ih with ⟨s,m,e1,h0,_⟩ | ⟨e1,h1⟩
   ·exact absurd h0 hl
   ·exact .inr ⟨e1,fun c=>absurd c hl⟩
theorem OB:∀ L:List (Int×PN),L.Pairwise (fun p q=>p.2.len < q.2.len)→(∃ p∈L,p.2.slot≠ -1∧Et L=some p.2.slot∧∀ q∈L,q.2.slot≠ -1→q.2.len≤p.2.len)∨(Et L=none∧∀ q∈L,q.2.slot= -1):=by
 intro L
 rw [← List.reverse_reverse L]
 induction L.reverse with
 | nil=>exact fun U=> .inr ⟨rfl,fun q hq=>nomatch hq⟩
 | cons x r ih =>
  rw [List.reverse_cons]
  generalize r.reverse=K at ih
  intro hp
  rw [List.pairwise_append] at hp
  have ih:=ih hp.1
  have e:Et (K++[x])=if x.2.slot= -1 then Et K else some x.2.slot:=by unfold Et; rw [List.foldl_append]; rfl
  have mem:∀ f,f∈K++[x]↔f∈K∨f=x:=fun f=>by simp
  rw [e]
  by_cases hx:x.2.slot= -1
  ·rw [if_pos hx]
   rcases ih with ⟨p,h1,h2,h3,h4⟩ | ⟨h1,h2⟩
   ·left
    refine LT p ((mem p).mpr (.inl h1)) h2 h3 (fun q hq hs=> ?_)
    rcases (mem q).mp hq with hq | rfl
    ·exact h4 q hq hs
    ·exact absurd hx hs
   ·right
    refine ⟨h1,fun q hq=> ?_⟩
    rcases (mem q).mp hq with hq | rfl
    ·exact h2 q hq
    ·exact hx
  ·rw [if_neg hx]
   left
   refine LT x ((mem x).mpr (.inr rfl)) hx rfl (fun q hq U=> ?_)
   rcases (mem q).mp hq with hq | rfl
   ·exact Nat.le_of_lt (hp.2.2 q hq x (List.mem_singleton.mpr rfl))
   ·exact Nat.le_refl _
theorem Inv.look (I:Inv P tr H size width most) (hw:wo < 2^size):Hn size l wo tr=(CN H size l wo).1:=by
 unfold Hn
 by_cases hl:size < l
 ·rw [if_pos hl]
  rcases M4 (size:=size) (l:=l) (wo:=wo) H with ⟨s,m,_,h,_⟩ | ⟨e,_⟩
  ·lia
  ·rw [e]
 have hl:l≤size:=Nat.le_of_not_lt hl
 rw [if_neg ‹_›]
 have hi:=DB hw hl I.wf I.okT
 have ha:=Hh hw hl I.wf I.okT
 have bg:∀ o:Nat×Nat,Im size l wo o=true↔o.1≤l∧cut size wo o.1=o.2:=fun o=>by unfold Im; simp
 rcases OB _ ha with ⟨p,h1,h2,h3,h4⟩ | ⟨h1,h2⟩ <;> rcases M4 (size:=size) (l:=l) (wo:=wo) H with ⟨s,m,e,_,y,hy,g1,g2,g3,g4⟩ | ⟨e,g⟩
 ·rw [h3,e]
  obtain ⟨hp,hpb⟩:=(hi p).mp h1
  refine Br (I.entry hp h2) fun f hf f1 f2=> ?_
  refine KM (I.node hy) fun q hq q1 q2 q3=> ?_
  have hqb:Beg size l wo q.2:=by
   have:=(bg _).mp g1
   rw [← q1] at this; exact this
  have hqp:=h4 q ((hi q).mpr ⟨hq,hqb⟩) q3
  have hfy:=g4 f hf ((bg _).mpr (by rw [f1]; exact hpb))
  rw [f1,←q1] at hfy
  have el:p.2.len=q.2.len:=Nat.le_antisymm hfy hqp
  have ew:p.2.w=q.2.w:=by rw [← hpb.2,←hqb.2,el]
  have:p=q:=MC I.wf hp hq (Prod.ext el ew)
  rw [this,q2,g2]
 ·obtain ⟨hp,hpb⟩:=(hi p).mp h1
  refine Br (I.entry hp h2) fun f hf f1 f2=> ?_
  have:=g hl f hf
  rw [(bg _).mpr (by rw [f1]; exact hpb)] at this; cases this
 ·refine KM (I.node hy) fun q hq q1 q2 q3=> ?_
  have hqb:Beg size l wo q.2:=by
   have:=(bg _).mp g1
   rw [← q1] at this; exact this
  exact absurd (h2 q ((hi q).mpr ⟨hq,hqb⟩)) q3
 ·rw [h1,e]
theorem Inv.init (sz:SZ size) (wd:1≤width∧width≤2) (mo:2≤most∧most≤6):Inv (EC ((4+size/8:Nat):Int) width most) .nil [] size width most where
 sz:=sz
 wd:=wd
 mo:=mo
 kw:=rfl
 vw:=rfl
 pmost:=rfl
 root:=rfl
 nod:= .refl _
 keys:=List.nodup_nil
 wf:=trivial
 ok p hp:=nomatch hp
 two p hp:=nomatch hp
 free:=⟨0,by decide,.refl _⟩
 hok:=⟨List.nodup_nil,(fun e he=>nomatch he),Nat.zero_le _⟩
 hw e he:=nomatch he
 hsz e he:=nomatch he
 ents:= .refl _
 used:= .refl _
 usedN:=List.nodup_nil
 slots s hs:=nomatch hs
 vals e he:=nomatch he
 vsz s y h:=nomatch h
 vkeys:=List.nodup_nil
 vlen s hs:=nomatch hs
end
theorem OQ {k:Nat×Nat} {v:Int×Array UInt8}:∀ {H:AU},H.lookup k=none→Ed H k v=H++[(k,v)]:=by
 intro w_
 induction w_ with
 | nil =>
  intro _
  exact rfl
 | cons p_ r ih_ =>
  intro e
  obtain ⟨j,u⟩:=p_
  rw [List.lookup_cons] at e
  by_cases h:k=j
  ·subst h; simp at e
  ·rw [beq_eq_false_iff_ne.mpr h] at e
   unfold Ed
   rw [if_neg (Ne.symm h),ih_ e]; rfl
theorem OP {k:Nat×Nat} {v x:Int×Array UInt8} (hx:x.1=v.1):∀ {H:AU},H.lookup k=some v→(Ed H k x).map (fun e=>(e.1,e.2.1))=H.map fun e=>(e.1,e.2.1):=by
 intro l_
 induction l_ with
 | nil=>exact fun e=>(Option.some_ne_none _ e.symm).elim
 | cons p_ r ih =>
  intro e
  obtain ⟨j,u⟩:=p_
  rw [List.lookup_cons] at e
  show (if j=k then (j,x)::r else (j,u)::Ed r k x).map (fun e=>(e.1,e.2.1))=_
  by_cases h:k=j
  ·subst h
   rw [beq_self_eq_true] at e; have e:=Option.some.inj e; subst e
   rw [if_pos rfl,List.map_cons,List.map_cons,hx]
  ·rw [beq_eq_false_iff_ne.mpr h] at e
   rw [if_neg (Ne.symm h),List.map_cons,List.map_cons,ih e]
theorem Km {k:Nat×Nat} {x:Int×Array UInt8}:∀ {H:AU},(H.map (·.1)).Nodup→∀ e,e∈Ed H k x→e=(k,x)∨(e∈H∧e.1≠k)
 | []=>by
  intro _ e h
  exact .inl (List.mem_singleton.mp h)
 | (j,u)::r=>by
  intro n e h
  rw [List.map_cons,List.nodup_cons] at n
  unfold Ed at h
  by_cases q:j=k
  ·subst q
   rw [if_pos rfl] at h
   rcases List.mem_cons.mp h with h | h
   ·exact .inl h
   ·exact .inr ⟨.tail _ h,fun c=>n.1 (List.mem_map.mpr ⟨e,h,c⟩)⟩
  ·rw [if_neg q] at h
   rcases List.mem_cons.mp h with h | h
   ·exact .inr ⟨by rw [h]; exact .head _,by rw [h]; exact q⟩
   ·exact (Km n.2 e h).imp id fun z=>⟨.tail _ z.1,z.2⟩
theorem Kz {k:Nat×Nat}:∀ {H:AU},H.lookup k=none→k∉H.map (·.1):=fun {H} h c=>by
 refine Af (List.mem_map.mp c) fun e he e_2=> ?_
 subst e_2
 clear c
 induction H with
 | nil=>cases he
 | cons a r ih =>
  obtain ⟨j,u⟩:=a
  rw [List.lookup_cons] at h
  by_cases q:e.1=j
  ·rw [q] at h; simp at h
  ·rw [beq_eq_false_iff_ne.mpr q] at h
   rcases List.mem_cons.mp he with z | z
   ·rw [z] at q; exact q rfl
   ·exact ih z h
theorem Kt {l m:List Int} (p:l.Perm m):Al l=Al m:=by
 have h1:=Df l
 have h2:=Df m
 rcases Nat.lt_trichotomy (Al l) (Al m) with h | h | h
 ·exact absurd (p.mem_iff.mpr (EN m h)) h1
 ·exact h
 ·exact absurd (p.mem_iff.mp (EN l h)) h2
noncomputable def Bf (l:List (Int×PN)):List ((Nat×Nat)×Int):=(l.filter fun p=>p.2.slot != -1).map fun p=>(plc p,p.2.slot)
theorem Bl {l m:List (Int×PN)} (p:l.Perm m):(Bf l).Perm (Bf m):=(p.filter _).map _
theorem B3 (l m:List (Int×PN)):Bf (l++m)=Bf l++Bf m:=by unfold Bf; rw [List.filter_append,List.map_append]
theorem Bs (p:Int×PN) (l:List (Int×PN)):Bf (p::l)=if p.2.slot= -1 then Bf l else (plc p,p.2.slot)::Bf l:=by
 unfold Bf
 rw [List.filter_cons]
 by_cases h:p.2.slot= -1
 ·rw [if_pos h,if_neg (by simp [h])]
 ·rw [if_neg h,if_pos (by simpa using h)]; rfl
section
variable {P:TP} {tr:Tr} {H:AU} {size width most l wo:Nat}
theorem Inv.hlook (I:Inv P tr H size width most) (hw:wo < 2^size) (hl:l≤size):BB (Au size l wo tr)=(H.lookup (l,cut size wo l)).map (·.1):=by
 cases hk:H.lookup (l,cut size wo l) with
 | some v =>
  refine KM (I.node (FC hk)) fun p hp h1 h2 h3=> ?_
  rw [(I.exact hw hl p).mpr ⟨hp,h1⟩]
  show (if p.2.slot= -1 then none else some p.2.slot)=_
  rw [if_neg h3,h2]; rfl
 | none =>
  cases he:Au size l wo tr with
  | none=>rfl
  | some p =>
   show (if p.2.slot= -1 then none else some p.2.slot)=none
   by_cases h3:p.2.slot= -1
   ·rw [if_pos h3]
   ·obtain ⟨hp,h1⟩:=(I.exact hw hl p).mp he
    refine Br (I.entry hp h3) fun e he h4 U=> ?_
    exact absurd (List.mem_map.mpr ⟨e,he,h4.trans h1⟩) (Kz hk)
theorem Inv.usedLen (I:Inv P tr H size width most):P.used.length=H.length:=by have:=I.used.length_eq; simpa using this
theorem Inv.slot_in (I:Inv P tr H size width most) {e:(Nat×Nat)×(Int×Array UInt8)} (he:e∈H):e.2.1∈P.used:=I.used.mem_iff.mpr (List.mem_map.mpr ⟨e,he,rfl⟩)
theorem Inv.lay (I:Inv P tr H size width most) {k:Nat×Nat} {v:Int×Array UInt8} {x:Array UInt8} (hk:H.lookup k=some v) (hx:x.size=width):Inv (PT P v.1 x) tr (Ed H k (v.1,x)) size width most:=by
 have hm:=FC hk
 have ho:=OP (x:=(v.1,x)) (v:=v) rfl hk
 have hmem:=Km (k:=k) (x:=(v.1,x)) I.hok.nd
 have hkeys:(Ed H k (v.1,x)).map (·.1)=H.map (·.1):=by
  have:=congrArg (List.map Prod.fst) ho
  rw [List.map_map,List.map_map] at this; exact this
 have hsl:(Ed H k (v.1,x)).map (fun e=>e.2.1)=H.map fun e=>e.2.1:=by
  have:=congrArg (List.map Prod.snd) ho
  rw [List.map_map,List.map_map] at this; exact this
 have hlen:(Ed H k (v.1,x)).length=H.length:=by have:=congrArg List.length ho; simpa using this
 refine ⟨I.sz,I.wd,I.mo,I.kw,I.vw,I.pmost,I.root,I.nod,I.keys,I.wf,I.ok,I.two,I.free,⟨by rw [hkeys]; exact I.hok.nd,fun e he=> ?_,by rw [hlen]; exact I.hok.few⟩,fun e he=> ?_,fun e he=> ?_,by rw [ho]; exact I.ents,by rw [hsl]; exact I.used,I.usedN,I.slots,fun e he=> ?_,fun s y h=> ?_,?_,?_⟩
 ·rcases hmem e he with rfl | ⟨h,_⟩
  ·have:=I.hok.le _ hm; exact this
  ·exact I.hok.le e h
 ·rcases hmem e he with rfl | ⟨h,_⟩
  ·have:=I.hw _ hm; exact this
  ·exact I.hw e h
 ·rcases hmem e he with rfl | ⟨h,_⟩
  ·exact hx
  ·exact I.hsz e h
 ·show (AA P.vals v.1 x).lookup e.2.1=_
  rw [AE]
  rcases hmem e he with rfl | ⟨h,hne⟩
  ·rw [if_pos rfl]
  ·have hn:(H.map fun e=>e.2.1).Nodup:=I.used.nodup_iff.mp I.usedN
   rw [if_neg fun c=>hne (by have:=Jr (fun e:(Nat×Nat)×(Int×Array UInt8)=>e.2.1) hn h hm c; rw [this])]
   exact I.vals e h
 ·have h:(AA P.vals v.1 x).lookup s=some y:=h
  rw [AE] at h
  split at h
  ·cases h; exact hx
  ·exact I.vsz s y h
 ·show ((AA P.vals v.1 x).map (·.1)).Nodup
  rw [BS,if_pos (by rw [I.vals _ hm]; rfl)]; exact I.vkeys
 ·show ∀ s:Int,s∈(AA P.vals v.1 x).map (·.1)→_
  rw [BS,if_pos (by rw [I.vals _ hm]; rfl)]; exact I.vlen
theorem Inv.add (I:Inv P tr H size width most) {P':TP} {tr':Tr} {x:Array UInt8} (hw:wo < 2^size) (hl:l≤size) (hk:H.lookup (l,cut size wo l)=none) (hx:x.size=width) (hf:H.length < most)
  (e1:P'.kw=P.kw) (e2:P'.vw=P.vw) (e3:P'.most=P.most) (e4:P'.vals=AA P.vals (Al P.used) x) (e5:P'.used=P.used++[(Al P.used:Int)])
  (root:P'.root=hid tr') (nod:P'.nodes.Perm (Ab tr')) (keys:(P'.nodes.map (·.1)).Nodup) (wf:WfT size tr') (ok:OkT size (Ab tr')) (two:CR (Ab tr'))
  (free:∃ n,(n≤11∨n≤P'.nodes.length)∧(P'.nodes.map (·.1)++P'.free).Perm ((List.range n).map fun i:Nat=>(i:Int)))
  (ents:(Bf (Ab tr')).Perm (Bf (Ab tr)++[((l,cut size wo l),(Al P.used:Int))])):Inv P' tr' (Ed H (l,cut size wo l) (Al (H.map (·.2.1)),x)) size width most:=by
 have hp:=Kt I.used
 have hU:=I.usedLen
 have hle:=II P.used
 have hno:=Df P.used
 have hmo:=I.mo
 rw [← hp,OQ hk]
 generalize (Al P.used)=s at *
 have mem:∀ f,f∈H++[((l,cut size wo l),((s:Int),x))]↔f∈H∨f=((l,cut size wo l),((s:Int),x)):=fun f=>by simp
 have hents:(H.map fun e=>(e.1,e.2.1)).Perm (Bf (Ab tr)):=I.ents
 have hE:((H++[((l,cut size wo l),((s:Int),x))]).map fun e=>(e.1,e.2.1)).Perm (Bf (Ab tr')):=by
  rw [List.map_append]
  exact (hents.append_right _).trans ents.symm
 have hcnt:=KW wf two
 have hlen:(Ee tr').length=H.length+1:=by
  have:=hE.length_eq
  unfold Bf at this
  rw [List.length_map,List.length_map,List.length_append] at this
  exact this.symm
 have hnl:P'.nodes.length≤11:=by
  rw [nod.length_eq]
  by_cases c:tr'= .nil
  ·rw [c]; exact Nat.zero_le _
  ·have:=hcnt.2 c; lia
 refine ⟨I.sz,I.wd,I.mo,by rw [e1]; exact I.kw,by rw [e2]; exact I.vw,by rw [e3]; exact I.pmost,root,nod,keys,wf,ok,two,?_,⟨?_,fun e he=> ?_,?_⟩,fun e he=> ?_,fun e he=> ?_,hE,?_,?_,fun z hz=> ?_,fun e he=> ?_,fun z y h=> ?_,?_,?_⟩
 ·obtain ⟨n,hn,h⟩:=free
  exact ⟨n,by lia,h⟩
 ·rw [List.map_append,List.nodup_append]
  refine ⟨I.hok.nd,(by simp),fun a ha c hc e=> ?_⟩
  rw [List.map_singleton,List.mem_singleton] at hc
  have hc:c=(l,cut size wo l):=hc
  exact Kz hk (by rw [← hc,←e]; exact ha)
 ·rcases (mem e).mp he with h | rfl
  ·exact I.hok.le e h
  ·exact hl
 ·rw [List.length_append]; exact hf
 ·rcases (mem e).mp he with h | rfl
  ·exact I.hw e h
  ·exact JG hw
 ·rcases (mem e).mp he with h | rfl
  ·exact I.hsz e h
  ·exact hx
 ·rw [e5,List.map_append]
  exact I.used.append_right _
 ·rw [e5,List.nodup_append]
  refine ⟨I.usedN,(by simp),fun a ha c hc e=> ?_⟩
  rw [List.mem_singleton] at hc
  exact hno (by rw [← hc,←e]; exact ha)
 ·rw [e5] at hz
  rcases List.mem_append.mp hz with h | h
  ·exact I.slots z h
  ·rw [List.mem_singleton.mp h]; exact And.intro (Int.natCast_nonneg _) (Int.ofNat_lt.mpr (Nat.lt_of_le_of_lt (Nat.le_trans hle (Nat.le_of_eq hU)) hf))
 ·rw [e4,AE]
  rcases (mem e).mp he with h | rfl
  ·rw [if_neg fun c=>hno (by rw [← c]; exact I.slot_in h)]
   exact I.vals e h
  ·rw [if_pos rfl]
 ·rw [e4,AE] at h
  split at h
  ·cases h; exact hx
  ·exact I.vsz z y h
 ·rw [e4,BS]
  split
  ·exact I.vkeys
  ·rename_i h
   rw [List.nodup_append]
   refine ⟨I.vkeys,(by simp),fun a ha c hc e=> ?_⟩
   rw [List.mem_singleton] at hc
   have:P.vals.lookup (s:Int)=none:=by
    cases hq:P.vals.lookup (s:Int) with
    | none=>rfl
    | some y=>rw [hq] at h; exact absurd rfl h
   exact Bk.mp this (by rw [← hc,←e]; exact ha)
 ·intro z hz
  rw [e4,BS] at hz
  split at hz
  ·exact I.vlen z hz
  ·rcases List.mem_append.mp hz with h | h
   ·exact I.vlen z h
   ·rw [List.mem_singleton.mp h]; exact And.intro (Int.natCast_nonneg _) (Int.ofNat_lt.mpr (Nat.lt_of_le_of_lt (Nat.le_trans hle (Nat.le_of_eq hU)) hf))
end
structure Fm where
 id:Int
 n:PN
 s:Nat
 o:Tr
noncomputable def wrp (f:Fm) (t:Tr):Tr:=if f.s=0 then .node f.id (Aj f.n f.s (hid t)) t f.o else .node f.id (Aj f.n f.s (hid t)) f.o t
noncomputable def Bn:List Fm→Tr→Tr
 | [],t=>t
 | f::r,t=>Bn r (wrp f t)
noncomputable def A9:List Fm→Int→List (Int×PN)
 | [],_=>[]
 | f::r,h=>(f.id,Aj f.n f.s h)::(Ab f.o++A9 r f.id)
noncomputable def BA:List Fm→Int→List (Int×PN)
 | [],_=>[]
 | f::r,h=>BA r f.id++[(f.id,Aj f.n f.s h)]
theorem DY (f:Fm) (t:Tr):hid (wrp f t)=f.id:=by unfold wrp; split <;> rfl
theorem AS (n:PN) (s:Nat) (h:Int):(Aj n s h).len=n.len:=by unfold Aj; split <;> rfl
theorem El (n:PN) (s:Nat) (h:Int):(Aj n s h).w=n.w:=by unfold Aj; split <;> rfl
theorem B5 (n:PN) (s:Nat) (h:Int):(Aj n s h).slot=n.slot:=by unfold Aj; split <;> rfl
theorem Qr (n:PN) (s:Nat) (h k:Int):Aj (Aj n s h) s k=Aj n s k:=by unfold Aj; split <;> rfl
theorem OE (n:PN) (s:Nat) (h:Int):DW (Aj n s h) s=h:=by delta DW Aj; split <;> rfl
theorem IY (n:PN) {s:Nat} {h:Int} (e:DW n s=h):Aj n s h=n:=by
 subst e; delta DW Aj; split <;> rfl
theorem Und.of_sk {size s k:Nat} {n m:PN} {h:Int} (u:Und size n s m):Und size (Aj n k h) s m:=⟨by rw [AS]; exact u.len,by rw [AS,El]; exact u.cut,by rw [AS]; exact u.bit⟩
theorem Und.un_sk {size s k:Nat} {n m:PN} {h:Int} (u:Und size (Aj n k h) s m):Und size n s m:=⟨by have:=u.len; rw [AS] at this; exact this,by have:=u.cut; rw [AS,El] at this; exact this,by have:=u.bit; rw [AS] at this; exact this⟩
theorem Und.to_sk {size s k:Nat} {n m:PN} {h:Int} (u:Und size n s m):Und size n s (Aj m k h):=⟨by rw [AS]; exact u.len,by rw [El]; exact u.cut,by rw [El]; exact u.bit⟩
theorem Und.fr_sk {size s k:Nat} {n m:PN} {h:Int} (u:Und size n s (Aj m k h)):Und size n s m:=⟨by have:=u.len; rw [AS] at this; exact this,by have:=u.cut; rw [El] at this; exact this,by have:=u.bit; rw [El] at this; exact this⟩
theorem Und.trans {size s k:Nat} {n m q:PN} (u:Und size n s m) (v:Und size m k q) (hm:m.len≤size):Und size n s q:=by
 have h1:=u.len
 have h2:=v.len
 refine ⟨Nat.lt_of_lt_of_le h1 (Nat.le_of_lt h2),?_,?_⟩
 ·rw [← u.cut,←v.cut,FL (Nat.le_of_lt h1) hm]
 ·rw [← u.bit,←v.cut,GX h1 hm]
theorem CI {f:Fm} {t:Tr} {q:Int×PN}:q∈Ab (wrp f t)↔q∈Ab t∨q=(f.id,Aj f.n f.s (hid t))∨q∈Ab f.o:=by
 unfold wrp
 split
 ·show q∈_::(Ab t++Ab f.o)↔_
  rw [List.mem_cons,List.mem_append]
  constructor
  ·rintro (h | h | h)
   ·exact .inr (.inl h)
   ·exact .inl h
   ·exact .inr (.inr h)
  ·rintro (h | h | h)
   ·exact .inr (.inl h)
   ·exact .inl h
   ·exact .inr (.inr h)
 ·show q∈_::(Ab f.o++Ab t)↔_
  rw [List.mem_cons,List.mem_append]
  constructor
  ·rintro (h | h | h)
   ·exact .inr (.inl h)
   ·exact .inr (.inr h)
   ·exact .inl h
  ·rintro (h | h | h)
   ·exact .inr (.inr h)
   ·exact .inl h
   ·exact .inr (.inl h)
theorem I5 (f:Fm) (t:Tr):(Ab (wrp f t)).Perm (Ab t++((f.id,Aj f.n f.s (hid t))::Ab f.o)):=by
 unfold wrp
 split
 ·show (_::(Ab t++Ab f.o)).Perm _
  exact List.perm_middle.symm
 ·show (_::(Ab f.o++Ab t)).Perm _
  exact (List.Perm.cons _ List.perm_append_comm).trans List.perm_middle.symm
theorem BZ:∀ (ctx:List Fm) (t:Tr),(Ab (Bn ctx t)).Perm (Ab t++A9 ctx (hid t)):=by
 intro w_
 induction w_ with
 | nil =>
  intro t
  show (Ab t).Perm (Ab t++[]); rw [List.append_nil]
 | cons f r ih_ =>
  intro t
  have h:=ih_ (wrp f t)
  rw [DY] at h
  refine h.trans (((I5 f t).append_right _).trans ?_)
  rw [List.append_assoc]; exact .refl _
theorem Kg (f:Fm):∀ (ctx:List Fm) (t:Tr),Bn (ctx++[f]) t=wrp f (Bn ctx t)
 | []=>by
  intro _
  exact rfl
 | g::r=>by
  intro t
  exact Kg f r (wrp g t)
theorem J1 (f:Fm):∀ (ctx:List Fm) (t:Tr),BA (ctx++[f]) (hid t)=(f.id,Aj f.n f.s (hid (Bn ctx t)))::BA ctx (hid t)
 | []=>by
  intro _
  exact rfl
 | g::r=>by
  intro t
  have h:=J1 f r (wrp g t)
  rw [DY] at h
  show BA (r++[f]) g.id++[_]=_
  rw [h]; rfl
theorem Hv (f:Fm) (r:List Fm) (t u:Tr):hid (Bn (f::r) t)=hid (Bn (f::r) u):=by
 induction r generalizing f t u with
 | nil=>show hid (wrp f t)=hid (wrp f u); rw [DY,DY]
 | cons g r ih=>exact ih g (wrp f t) (wrp f u)
theorem C4 (f:Fm) (r:List Fm) (h:Int):(BA (f::r) h).getLast?=some (f.id,Aj f.n f.s h):=List.getLast?_concat ..
noncomputable def WfF (size:Nat) (f:Fm):Prop:=f.id≠ -1∧cut size f.n.w f.n.len=f.n.w∧DW f.n (1-f.s)=hid f.o∧(∀ q∈Ab f.o,Und size f.n (1-f.s) q.2)∧WfT size f.o
noncomputable def InC (size:Nat) (ctx:List Fm) (m:PN):Prop:=∀ f∈ctx,Und size f.n f.s m
noncomputable def Px (size:Nat):List Fm→Prop
 | []=>True
 | f::r=>WfF size f∧InC size r f.n∧(∀ q∈Ab f.o,InC size r q.2)∧Px size r
theorem Lm {size:Nat} {f:Fm} {t:Tr} (hs:f.s < 2):WfT size (wrp f t)↔WfF size f∧WfT size t∧∀ q∈Ab t,Und size f.n f.s q.2:=by
 obtain ⟨id,n,s,o⟩:=f
 have hs:s < 2:=hs
 rcases (show s=0∨s=1 by lia) with rfl | rfl
 ·constructor
  ·rintro ⟨h1,h2,h3,h4,h5,h6,h7,h8⟩
   exact Cv ⟨h1,h4,h3,fun q hq=>(h6 q hq).un_sk,h8⟩ h7 (fun q hq=>(h5 q hq).un_sk)
  ·rintro ⟨⟨h1,h4,h3,h6,h8⟩,h7,h5⟩
   exact Rh h1 rfl h3 h4 (fun q hq=>(h5 q hq).of_sk) (fun q hq=>(h6 q hq).of_sk) h7 h8
 ·constructor
  ·rintro ⟨h1,h2,h3,h4,h5,h6,h7,h8⟩
   exact Cv ⟨h1,h4,h2,fun q hq=>(h5 q hq).un_sk,h7⟩ h8 (fun q hq=>(h6 q hq).un_sk)
  ·rintro ⟨⟨h1,h4,h3,h6,h8⟩,h7,h5⟩
   exact Rh h1 h3 rfl h4 (fun q hq=>(h6 q hq).of_sk) (fun q hq=>(h5 q hq).of_sk) h8 h7
theorem InC.of_sk {size k:Nat} {ctx:List Fm} {m:PN} {h:Int}:InC size ctx (Aj m k h)↔InC size ctx m:=⟨fun u f hf=>(u f hf).fr_sk,fun u f hf=>(u f hf).to_sk⟩
theorem Do {size:Nat} {ctx:List Fm} {t:Tr} (hs:∀ f∈ctx,f.s < 2):(WfT size (Bn ctx t)↔Px size ctx∧WfT size t∧∀ q∈Ab t,InC size ctx q.2):=by
 induction ctx generalizing t with
 | nil=>exact ⟨fun h=>⟨trivial,h,fun U U f hf=>nomatch hf⟩,fun h=>h.2.1⟩
 | cons f r ih0 =>
  have ih:=ih0 (t:=wrp f t) fun g hg=>hs g (.tail _ hg)
  have hw:=Lm (size:=size) (t:=t) (hs f (.head _))
  refine ih.trans ?_
  rw [hw]
  constructor
  ·rintro ⟨h1,⟨h2,h3,h4⟩,h5⟩
   refine Cv ⟨h2,InC.of_sk.mp (h5 _ (CI.mpr (.inr (.inl rfl)))),fun q hq=>h5 q (CI.mpr (.inr (.inr hq))),h1⟩ h3 (fun q hq g hg=> ?_)
   rcases List.mem_cons.mp hg with rfl | hg
   ·exact h4 q hq
   ·exact h5 q (CI.mpr (.inl hq)) g hg
  ·rintro ⟨⟨h2,h6,h7,h1⟩,h3,h5⟩
   refine Cv h1 ⟨h2,h3,fun q hq=>h5 q hq f (.head _)⟩ (fun q hq=> ?_)
   rcases CI.mp hq with h | rfl | h
   ·exact fun g hg=>h5 q h g (.tail _ hg)
   ·exact InC.of_sk.mpr h6
   ·exact h7 q h
noncomputable def Stp (size l w:Nat) (f:Fm):Prop:=f.s < 2∧Beg size l w f.n∧f.n.len < l∧AI size w f.n.len=f.s
theorem NT {size l w:Nat} (hw:w < 2^size) (hl:l≤size) {tr:Tr} (wf:WfT size tr) (ok:OkT size (Ab tr)):∃ ctx t,Bn ctx t=tr∧(∀ f∈ctx,Stp size l w f)∧((t= .nil∧Ac size l w tr=BA ctx (hid t))∨∃ id n a c,t= .node id n a c∧((¬ Beg size l w n∧Ac size l w tr=BA ctx (hid t))∨(Beg size l w n∧n.len=l∧Ac size l w tr=BA ctx (hid t)++[(id,n)]))):=by
 induction tr with
 | nil=>exact ⟨[],.nil,rfl,(fun f hf=>nomatch hf),.inl ⟨rfl,rfl⟩⟩
 | node id n a c ia ic =>
  have h2:=wf.2.1
  have h3:=wf.2.2.1
  have hc:=wf.2.2.2.1
  have wa:=wf.2.2.2.2.2.2.1
  have wc:=wf.2.2.2.2.2.2.2
  have ok0:=ok (id,n) (.head _)
  have oa:OkT size (Ab a):=fun q hq=>ok q (.tail _ (List.mem_append_left _ hq))
  have oc:OkT size (Ab c):=fun q hq=>ok q (.tail _ (List.mem_append_right _ hq))
  have hsb:=C9 ok0.2 ok0.1 hc hw hl
  have ep:Ac size l w (.node id n a c)=(if Av n.w w (min n.len l) size < n.len then [] else (id,n)::(if n.len=l then [] else if AI size w n.len=0 then Ac size l w a else Ac size l w c)):=rfl
  by_cases hb:Beg size l w n
  ·rw [if_neg fun c=>hsb.mp c hb] at ep
   by_cases hn:n.len=l
   ·rw [if_pos hn] at ep
    exact Bq ([]) _ rfl (fun f hf=>nomatch hf) (.inr ⟨id,n,a,c,rfl,.inr ⟨hb,hn,ep⟩⟩)
   ·rw [if_neg hn] at ep
    have hlt:n.len < l:=Nat.lt_of_le_of_ne hb.1 hn
    have step:∀ (s:Nat) (k o:Tr),s < 2→AI size w n.len=s→wrp ⟨id,n,s,o⟩ k= .node id n a c→DW n s=hid k→Ac size l w (.node id n a c)=(id,n)::Ac size l w k→(∃ ctx t,Bn ctx t=k∧(∀ f∈ctx,Stp size l w f)∧((t= .nil∧Ac size l w k=BA ctx (hid t))∨∃ id n a c,t= .node id n a c∧((¬ Beg size l w n∧Ac size l w k=BA ctx (hid t))∨(Beg size l w n∧n.len=l∧Ac size l w k=BA ctx (hid t)++[(id,n)]))))→∃ ctx t,Bn ctx t= .node id n a c∧(∀ f∈ctx,Stp size l w f)∧((t= .nil∧Ac size l w (.node id n a c)=BA ctx (hid t))∨∃ id1 n1 a1 c1,t= .node id1 n1 a1 c1∧((¬ Beg size l w n1∧Ac size l w (.node id n a c)=BA ctx (hid t))∨(Beg size l w n1∧n1.len=l∧Ac size l w (.node id n a c)=BA ctx (hid t)++[(id1,n1)]))):=by
     rintro s k o hs hbit hwr hk hp h_
     refine hide fun P_ k_=> ?_
     refine BD h_ fun ctx t e1 e2 e3=> ?_
     refine k_ ?_
     have ew:BA (ctx++[⟨id,n,s,o⟩]) (hid t)=(id,n)::BA ctx (hid t):=by
      rw [J1,e1]
      show (id,Aj n s (hid k))::_=_
      rw [IY n hk]
     refine ⟨ctx++[⟨id,n,s,o⟩],t,by rw [Kg,e1,hwr],fun f hf=> ?_,?_⟩
     ·rcases List.mem_append.mp hf with hf | hf
      ·exact e2 f hf
      ·rw [List.mem_singleton.mp hf]; exact ⟨hs,hb,hlt,hbit⟩
     ·rw [hp,ew]
      rcases e3 with ⟨e3,e4⟩ | ⟨id1,n1,a1,c1,e3,e4⟩
      ·exact .inl ⟨e3,by rw [e4]⟩
      ·refine .inr ⟨id1,n1,a1,c1,e3,?_⟩
       rcases e4 with ⟨e4,e5⟩ | ⟨e4,e5,e6⟩
       ·exact .inl ⟨e4,by rw [e5]⟩
       ·exact .inr ⟨e4,e5,by rw [e6]; rfl⟩
    by_cases h0:AI size w n.len=0
    ·rw [if_pos h0] at ep
     refine step 0 a c (by decide) h0 ?_ h2 ep (ia wa oa)
     show Tr.node id (Aj n 0 (hid a)) a c=_
     rw [IY (s:=0) n h2]
    ·rw [if_neg h0] at ep
     have h0:AI size w n.len=1:=by have:=HS size w n.len; lia
     refine step 1 c a (by decide) h0 ?_ h3 ep (ic wc oc)
     show Tr.node id (Aj n 1 (hid c)) a c=_
     rw [IY (s:=1) n h3]
  ·rw [if_pos (hsb.mpr hb)] at ep
   exact Bq ([]) _ rfl (fun f hf=>nomatch hf) (.inr ⟨id,n,a,c,rfl,.inl ⟨hb,ep⟩⟩)
section
variable {β:Type}
theorem O5 {k:Int} {v:β}:∀ {l:List (Int×β)},l.lookup k=none→AA l k v=l++[(k,v)]:=by
 intro w_
 induction w_ with
 | nil =>
  intro _
  exact rfl
 | cons p_ r ih_ =>
  intro e
  obtain ⟨j,u⟩:=p_
  rw [List.lookup_cons] at e
  by_cases h:k=j
  ·subst h; simp at e
  ·rw [beq_eq_false_iff_ne.mpr h] at e
   show (if j=k then (j,v)::r else (j,u)::AA r k v)=_
   rw [if_neg (Ne.symm h),ih_ e]; rfl
theorem NK {k:Int} {u:β}:∀ {l:List (Int×β)},l.lookup k=some u→l.Perm ((k,u)::Dl l k):=by
 intro l_
 induction l_ with
 | nil=>exact fun e=>(Option.some_ne_none _ e.symm).elim
 | cons p_ r ih =>
  intro e
  obtain ⟨j,x⟩:=p_
  rw [List.lookup_cons] at e
  show List.Perm _ ((k,u)::(if j=k then r else (j,x)::Dl r k))
  by_cases h:k=j
  ·subst h; rw [beq_self_eq_true] at e; have e:=Option.some.inj e; subst e; rw [if_pos rfl]
  ·rw [beq_eq_false_iff_ne.mpr h] at e
   rw [if_neg (Ne.symm h)]
   exact ((ih e).cons _).trans (List.Perm.swap _ _ _)
theorem IL {k:Int} {u v:β}:∀ {l:List (Int×β)},l.lookup k=some u→(AA l k v).Perm ((k,v)::Dl l k)
 | (j,x)::r,e=>by
  rw [List.lookup_cons] at e
  show List.Perm (if j=k then (j,v)::r else (j,x)::AA r k v) ((k,v)::(if j=k then r else (j,x)::Dl r k))
  by_cases h:k=j
  ·subst h; rw [if_pos rfl,if_pos rfl]
  ·rw [beq_eq_false_iff_ne.mpr h] at e
   rw [if_neg (Ne.symm h),if_neg (Ne.symm h)]
   exact ((IL e).cons _).trans (List.Perm.swap _ _ _)
theorem Cc {l R:List (Int×β)} {k:Int} {u:β} (nd:(l.map (·.1)).Nodup) (p:l.Perm ((k,u)::R)):l.lookup k=some u:=F5 nd (p.mem_iff.mpr (.head _))
theorem IN {l R:List (Int×β)} {k:Int} {u:β} (nd:(l.map (·.1)).Nodup) (p:l.Perm ((k,u)::R)):(Dl l k).Perm R :=
 ((NK (Cc nd p)).symm.trans p).cons_inv
theorem ER {l R:List (Int×β)} {k:Int} {u v:β} (nd:(l.map (·.1)).Nodup) (p:l.Perm ((k,u)::R)):(AA l k v).Perm ((k,v)::R) :=
 (IL (Cc nd p)).trans ((IN nd p).cons _)
theorem Gl {l:List (Int×β)} {k:Int} {u v:β} (e:l.lookup k=some u):(AA l k v).map (·.1)=l.map (·.1):=by rw [BS,e]; rfl
end
theorem Nx {k:Nat×Nat} {u:Int×Array UInt8}:∀ {H:AU},H.lookup k=some u→H.Perm ((k,u)::Gg H k):=by
 intro l_
 induction l_ with
 | nil=>exact fun e=>(Option.some_ne_none _ e.symm).elim
 | cons p_ r ih =>
  intro e
  obtain ⟨j,x⟩:=p_
  rw [List.lookup_cons] at e
  show List.Perm _ ((k,u)::(if j=k then r else (j,x)::Gg r k))
  by_cases h:k=j
  ·subst h; rw [beq_self_eq_true] at e; have e:=Option.some.inj e; subst e; rw [if_pos rfl]
  ·rw [beq_eq_false_iff_ne.mpr h] at e
   rw [if_neg (Ne.symm h)]
   exact ((ih e).cons _).trans (List.Perm.swap _ _ _)
noncomputable def Du (P P':TP):Prop:=P'.kw=P.kw∧P'.vw=P.vw∧P'.most=P.most∧P'.vals=P.vals∧P'.used=P.used
theorem Du.trans {P P' P'':TP} (h:Du P P') (k:Du P' P''):Du P P'':=⟨k.1.trans h.1,k.2.1.trans h.2.1,k.2.2.1.trans h.2.2.1,k.2.2.2.1.trans h.2.2.2.1,k.2.2.2.2.trans h.2.2.2.2⟩
noncomputable def BC:List Fm→Int
 | []=> -1
 | f::_=>f.id
noncomputable def D8:List Fm→Nat
 | []=>0
 | f::_=>f.s
theorem PM {ctx:List Fm} {h:Int}:AM (BA ctx h)=BC ctx:=by
 cases ctx with
 | nil=>rfl
 | cons f r=>unfold AM; rw [C4]; rfl
theorem N9 {size l wo:Nat} {ctx:List Fm} {h:Int} (hs:∀ f∈ctx,Stp size l wo f):CL size wo (BA ctx h)=D8 ctx:=by
 cases ctx with
 | nil=>rfl
 | cons f r =>
  unfold CL
  rw [C4]
  show AI size wo (Aj f.n f.s h).len=f.s
  rw [AS]; exact (hs f (.head _)).2.2.2
theorem M8 {P:TP} {size l wo:Nat} {ctx:List Fm} {t:Tr} (hs:∀ f∈ctx,Stp size l wo f) (hr:P.root=hid (Bn ctx t)):BP P size wo (BA ctx (hid t))=hid t:=by
 cases ctx with
 | nil=>exact hr
 | cons f r =>
  unfold BP
  rw [C4]
  show DW (Aj f.n f.s (hid t)) (AI size wo (Aj f.n f.s (hid t)).len)=hid t
  rw [AS,(hs f (.head _)).2.2.2,OE]
theorem Jp {P:TP} {i c:Int} {s:Nat} {n:PN} {R:List (Int×PN)} (nd:(P.nodes.map (·.1)).Nodup) (p:P.nodes.Perm ((i,n)::R)):(BM P i s c).nodes.Perm ((i,Aj n s c)::R)∧(BM P i s c).root=P.root∧(BM P i s c).free=P.free∧Du P (BM P i s c):=by
 have e:=Cc nd p
 unfold BM
 rw [e]
 exact Rh (ER nd p) rfl rfl rfl rfl rfl rfl rfl
theorem P0 {P:TP} {ctx:List Fm} {h k:Int} {R:List (Int×PN)} {t u:Tr} (ne:∀ f∈ctx,f.id≠ -1) (nd:(P.nodes.map (·.1)).Nodup) (p:P.nodes.Perm (R++A9 ctx h)) (hr:P.root=hid (Bn ctx t)) (hu:hid u=k) :
  (Co P (BC ctx) (D8 ctx) k).nodes.Perm (R++A9 ctx k)∧(Co P (BC ctx) (D8 ctx) k).nodes.map (·.1)=P.nodes.map (·.1)∧(Co P (BC ctx) (D8 ctx) k).root=hid (Bn ctx u)∧(Co P (BC ctx) (D8 ctx) k).free=P.free∧Du P (Co P (BC ctx) (D8 ctx) k):=by
 cases ctx with
 | nil=>exact ⟨p,rfl,hu.symm,rfl,rfl,rfl,rfl,rfl,rfl⟩
 | cons f r =>
  have p':P.nodes.Perm ((f.id,Aj f.n f.s h)::(R++(Ab f.o++A9 r f.id))):=p.trans List.perm_middle
  have e:=Cc nd p'
  have h1:BC (f::r)=f.id:=rfl
  have h2:D8 (f::r)=f.s:=rfl
  unfold Co
  rw [h1,h2,if_neg (ne f (.head _)),e]
  refine Su ?_ (Gl e) (hr.trans (Hv f r t u)) rfl rfl rfl rfl rfl rfl
  show (AA P.nodes f.id (Aj (Aj f.n f.s h) f.s k)).Perm _
  rw [Qr]
  exact (ER nd p').trans List.perm_middle.symm
theorem My {P:TP} {ctx:List Fm} {h k:Int} {R:List (Int×PN)} {t u:Tr} (ne:∀ f∈ctx,f.id≠ -1) (sd:∀ f r,ctx=f::r→f.s < 2∧(f.s=1→f.n.c0≠h)) (nd:(P.nodes.map (·.1)).Nodup) (p:P.nodes.Perm (R++A9 ctx h)) (hr:P.root=hid (Bn ctx t)) (hu:hid u=k) :
  (Be P (BC ctx) h k).nodes.Perm (R++A9 ctx k)∧(Be P (BC ctx) h k).nodes.map (·.1)=P.nodes.map (·.1)∧(Be P (BC ctx) h k).root=hid (Bn ctx u)∧(Be P (BC ctx) h k).free=P.free∧Du P (Be P (BC ctx) h k):=by
 cases ctx with
 | nil=>exact ⟨p,rfl,hu.symm,rfl,rfl,rfl,rfl,rfl,rfl⟩
 | cons f r =>
  have p':P.nodes.Perm ((f.id,Aj f.n f.s h)::(R++(Ab f.o++A9 r f.id))):=p.trans List.perm_middle
  have e:=Cc nd p'
  have h1:BC (f::r)=f.id:=rfl
  obtain ⟨s1,s2⟩:=sd f r rfl
  have h2:(if (Aj f.n f.s h).c0=h then 0 else 1)=f.s:=by
   rcases (show f.s=0∨f.s=1 by lia) with z | z
   ·rw [z]; exact if_pos rfl
   ·rw [z]; exact if_neg (s2 z)
  unfold Be
  rw [h1,if_neg (ne f (.head _)),e]
  dsimp only
  rw [h2]
  refine Su ?_ (Gl e) (hr.trans (Hv f r t u)) rfl rfl rfl rfl rfl rfl
  show (AA P.nodes f.id (Aj (Aj f.n f.s h) f.s k)).Perm _
  rw [Qr]
  exact (ER nd p').trans List.perm_middle.symm
noncomputable def FV (P:TP):Prop:=∃ n,(n≤11∨n≤P.nodes.length)∧(P.nodes.map (·.1)++P.free).Perm ((List.range n).map fun i:Nat=>(i:Int))
theorem I4 (n:Nat):((List.range n).map fun i:Nat=>(i:Int)).Nodup:=Cm (fun a U b U e=>Int.ofNat_inj.mp e) List.nodup_range
theorem Jg {P:TP} {size l w:Nat} {s:Int} (F:FV P):P.nodes.lookup (Az P)=none∧Az P≠ -1∧(Bv P size l w s).nodes=P.nodes++[(Az P,⟨l,cut size w l,s,-1,-1⟩)]∧FV (Bv P size l w s):=by
 refine Af F fun n hn hp=> ?_
 have hlen:=hp.length_eq
 rw [List.length_append,List.length_map,List.length_map,List.length_range] at hlen
 have nd:=hp.nodup_iff.mpr (I4 n)
 have hno:P.nodes.lookup (Az P)=none∧Az P≠ -1∧∃ m,(m≤11∨m≤P.nodes.length+1)∧(P.nodes.map (·.1)++[Az P]++P.free.dropLast).Perm ((List.range m).map fun i:Nat=>(i:Int)):=by
  rcases List.eq_nil_or_concat P.free with e | ⟨l0,x,e⟩
  ·have en:Az P=P.nodes.length:=by unfold Az; rw [e]; rfl
   rw [e,List.append_nil] at hp
   rw [e] at hlen
   have hlen:P.nodes.length=n:=hlen
   rw [en]
   refine ⟨Bk.mpr fun h=> ?_,PY,n+1,by lia,?_⟩
   ·refine Af (List.mem_map.mp (hp.mem_iff.mp h)) fun i hi h=> ?_
    have:=List.mem_range.mp hi
    lia
   ·rw [e]
    show (_++[]).Perm _
    rw [List.append_nil,List.range_succ,List.map_append,hlen]
    exact hp.append_right _
  ·have en:Az P=x:=by unfold Az; rw [e,List.concat_eq_append,List.getLast?_concat]
   rw [List.concat_eq_append] at e
   rw [e,←List.append_assoc] at nd
   have hx:x∈P.nodes.map (·.1)++P.free:=by rw [e]; simp
   rw [en]
   refine ⟨Bk.mpr fun h=> ?_,?_,n,by lia,?_⟩
   ·rw [List.nodup_append] at nd
    exact nd.2.2 x (List.mem_append_left _ h) x (List.mem_singleton.mpr rfl) rfl
   ·refine Af (List.mem_map.mp (hp.mem_iff.mp hx)) fun i U h=> ?_
    lia
   ·rw [e,List.dropLast_concat,List.append_assoc]
    refine List.Perm.trans ?_ hp
    rw [e]
    exact List.Perm.append_left _ List.perm_append_comm
 refine CG hno fun h1 h2 r_=> ?_
 obtain ⟨m,h3,h4⟩:=r_
 have h5:(Bv P size l w s).nodes=P.nodes++[(Az P,⟨l,cut size w l,s,-1,-1⟩)]:=O5 h1
 refine JB h1 h2 h5 ⟨m,?_,?_⟩
 ·rw [h5,List.length_append]; exact h3
 ·rw [h5,List.map_append]; exact h4
theorem Ou {l:List (Int×PN)} {k:Int} {v:PN} (nd:(l.map (·.1)).Nodup) (h:l.lookup k=none):((l++[(k,v)]).map (·.1)).Nodup:=by
 rw [List.map_append,List.nodup_append]
 exact ⟨nd,(by simp),fun a ha c hc e=>Bk.mp h (by rw [List.map_singleton,List.mem_singleton] at hc; rw [← show c=k from hc,←e]; exact ha)⟩
theorem IK {P:TP} {R:List (Int×PN)} {i:Int} {n:PN} (nd:(P.nodes.map (·.1)).Nodup) (p:P.nodes.Perm ((i,n)::R)):(BX P i).nodes.Perm R∧((BX P i).nodes.map (·.1)).Nodup∧((BX P i).nodes.map (·.1)++(BX P i).free).Perm (P.nodes.map (·.1)++P.free):=by
 have h:=IN nd p
 refine Cv h ?_ ?_
 ·have:=((p.map (·.1)).nodup_iff.mp nd)
  rw [List.map_cons,List.nodup_cons] at this
  exact ((h.map (·.1)).nodup_iff).mpr this.2
 ·show ((Dl P.nodes i).map (·.1)++(P.free++[i])).Perm _
  refine ((h.map (·.1)).append_right _).trans (List.Perm.trans ?_ ((p.map (·.1)).append_right _).symm)
  rw [← List.append_assoc,List.map_cons]
  exact List.perm_append_comm
theorem FF {ctx:List Fm} {h k:Int}:Bf (A9 ctx h)=Bf (A9 ctx k):=by
 cases ctx with
 | nil=>rfl
 | cons f r =>
  show Bf (_::_)=Bf (_::_)
  rw [Bs,Bs]
  dsimp only
  rw [B5,B5]
  unfold plc
  dsimp only
  rw [AS,AS,El,El]
theorem LC {size:Nat} {ctx:List Fm} {h k:Int} (o:OkT size (A9 ctx h)):OkT size (A9 ctx k):=by
 cases ctx with
 | nil=>exact o
 | cons f r =>
  intro p hp
  rcases List.mem_cons.mp hp with rfl | hp
  ·have:=o _ (.head _)
   dsimp only at this ⊢
   rw [El,AS] at this ⊢
   exact this
  ·exact o p (.tail _ hp)
theorem IW {ctx:List Fm} {h k:Int} (hk:k≠ -1) (o:CR (A9 ctx h)):CR (A9 ctx k):=by
 cases ctx with
 | nil=>exact o
 | cons f r =>
  intro p hp hs
  rcases List.mem_cons.mp hp with rfl | hp
  ·have o0:=o _ (.head _)
   dsimp only at o0 hs ⊢
   rw [B5] at o0 hs
   unfold Aj at o0 ⊢
   by_cases z:f.s=0
   ·rw [if_pos z] at o0 ⊢
    exact ⟨hk,(o0 hs).2⟩
   ·rw [if_neg z] at o0 ⊢
    exact ⟨(o0 hs).1,hk⟩
  ·exact o p (.tail _ hp) hs
structure Gd (size:Nat) (P:TP) (tr:Tr):Prop where
 root:P.root=hid tr
 nod:P.nodes.Perm (Ab tr)
 keys:(P.nodes.map (·.1)).Nodup
 wf:WfT size tr
 ok:OkT size (Ab tr)
 two:CR (Ab tr)
 free:FV P
theorem JH {size:Nat} {ctx:List Fm} (h:Px size ctx):∀ f∈ctx,f.id≠ -1:=by
 induction ctx with
 | nil=>intro f hf; cases hf
 | cons g r ih =>
  intro f hf
  rcases List.mem_cons.mp hf with rfl | hf
  ·exact h.1.1
  ·exact ih h.2.2.2 f hf
theorem EK {size:Nat} {l m:List (Int×PN)}:OkT size (l++m)↔OkT size l∧OkT size m:=⟨fun h=>⟨fun p hp=>h p (List.mem_append_left _ hp),fun p hp=>h p (List.mem_append_right _ hp)⟩,fun h p hp=>(List.mem_append.mp hp).elim (h.1 p) (h.2 p)⟩
theorem DA {l m:List (Int×PN)}:CR (l++m)↔CR l∧CR m:=⟨fun h=>⟨fun p hp=>h p (List.mem_append_left _ hp),fun p hp=>h p (List.mem_append_right _ hp)⟩,fun h p hp=>(List.mem_append.mp hp).elim (h.1 p) (h.2 p)⟩
theorem Dc {size:Nat} {l m:List (Int×PN)} (p:l.Perm m) (h:OkT size l):OkT size m:=fun q hq=>h q (p.mem_iff.mpr hq)
theorem Cb {l m:List (Int×PN)} (p:l.Perm m) (h:CR l):CR m:=fun q hq=>h q (p.mem_iff.mpr hq)
theorem Jv {size:Nat} {P:TP} {ctx:List Fm} {h:Int} {t u:Tr} (fr:FV P) (nd:(P.nodes.map (·.1)).Nodup) (p:P.nodes.Perm (Ab u++A9 ctx h)) (hr:P.root=hid (Bn ctx t)) (hu:hid u≠ -1) (s2:∀ f∈ctx,f.s < 2)
  (cw:Px size ctx) (wu:WfT size u) (iu:∀ q∈Ab u,InC size ctx q.2) (ou:OkT size (Ab u)) (tu:CR (Ab u)) (oc:OkT size (A9 ctx h)) (tc:CR (A9 ctx h)) :
  Gd size (Co P (BC ctx) (D8 ctx) (hid u)) (Bn ctx u)∧Du P (Co P (BC ctx) (D8 ctx) (hid u)):=by
 refine KN (P0 (u:=u) (JH cw) nd p hr rfl) fun h1 h2 h3 h4 h5=> ?_
 have pp:=BZ ctx u
 refine ⟨⟨h3,h1.trans pp.symm,by rw [h2]; exact nd,(Do s2).mpr ⟨cw,wu,iu⟩,Dc pp.symm (EK.mpr ⟨ou,LC oc⟩),Cb pp.symm (DA.mpr ⟨tu,IW hu tc⟩),?_⟩,h5⟩
 refine Af fr fun n hn hp=> ?_
 refine ⟨n,?_,by rw [h2,h4]; exact hp⟩
 have:=congrArg List.length h2
 rw [List.length_map,List.length_map] at this
 lia
noncomputable def AV (size l w:Nat) (s:Int):PN:=⟨l,cut size w l,s,-1,-1⟩
theorem J9 {size l w k:Nat} {s:Int} {f:Fm} (hk:k≤size) (hf:Stp size l w f) (h:f.n.len < k):Und size f.n f.s (AV size k w s):=by
 refine ⟨h,?_,?_⟩
 ·show cut size (cut size w k) f.n.len=f.n.w
  rw [FL (Nat.le_of_lt h) hk,hf.2.1.2]
 ·show AI size (cut size w k) f.n.len=f.s
  rw [GX h hk,hf.2.2.2]
theorem PC {size l w:Nat} {s i:Int} (hl:l≤size) (hi:i≠ -1):WfT size (.node i (AV size l w s) .nil .nil):=⟨hi,rfl,rfl,FK hl,fun q hq=>(nomatch hq),fun q hq=>(nomatch hq),trivial,trivial⟩
theorem M0 {size l w:Nat} {n:PN} {ctx:List Fm} (hw:w < 2^size) (hl:l≤size) (ow:n.w < 2^size) (ol:n.len≤size) (hc:cut size n.w n.len=n.w) (hb:¬ Beg size l w n) (hs:∀ f∈ctx,Stp size l w f) (hi:InC size ctx n) {k:Nat} (hk:Av n.w w (min n.len l) size=k) :
  k < n.len∧k≤l∧cut size n.w k=cut size w k∧(∀ f∈ctx,f.n.len < k)∧(k < l→AI size n.w k=1-AI size w k):=by
 subst hk
 have sb:=(C9 ol ow hc hw hl).mpr hb
 have si:∀ k,k≤Av n.w w (min n.len l) size↔k≤min n.len l∧cut size n.w k=cut size w k:=fun k=>He (Nat.le_trans (Nat.min_le_left _ _) ol) ow hw
 have s0:=(si _).mp (Nat.le_refl _)
 refine ⟨sb,Nat.le_trans s0.1 (Nat.min_le_right _ _),s0.2,fun f hf=> ?_,fun hlt=> ?_⟩
 ·refine Gj (hs f hf) fun h1 h2 h3 h4=> ?_
  have u:=hi f hf
  have h5:=u.len
  exact (si (f.n.len+1)).mpr ⟨Nat.le_min_of_le_of_le (Nat.succ_le_of_lt h5) (Nat.succ_le_of_lt h3),(KV (Nat.lt_of_lt_of_le h5 ol)).mpr ⟨by rw [u.cut,h2.2],by rw [u.bit,h4]⟩⟩
 ·generalize Av n.w w (min n.len l) size=k at *
  have h1:¬ AI size n.w k=AI size w k:=fun e=>by
   have:=(si (k+1)).mpr ⟨Nat.le_min_of_le_of_le (Nat.succ_le_of_lt sb) (Nat.succ_le_of_lt hlt),(KV (Nat.lt_of_lt_of_le hlt hl)).mpr ⟨s0.2,e⟩⟩
   exact Nat.not_succ_le_self k this
  exact SL (HS size n.w k) (HS size w k) h1
section
variable {P:TP} {tr:Tr} {H:AU} {size width most l wo:Nat}
theorem Inv.freeP (I:Inv P tr H size width most):FV P:=let ⟨n,h,p⟩:=I.free; ⟨n,.inl h,p⟩
theorem Inv.at (I:Inv P tr H size width most) (hw:wo < 2^size) (hl:l≤size) {p:Int×PN} (he:Au size l wo tr=some p):∃ ctx a c,Bn ctx (.node p.1 p.2 a c)=tr∧(∀ f∈ctx,Stp size l wo f)∧Ac size l wo tr=BA ctx p.1++[p]:=by
 refine CG ((EQ hw hl I.wf I.okT p).mp he) fun hm e1 e2=> ?_
 have hb:Beg size l wo p.2:=⟨Nat.le_of_eq e1,by rw [e2,e1]⟩
 have hp:=(DB hw hl I.wf I.okT p).mpr ⟨hm,hb⟩
 unfold Au at he
 rw [if_neg (Nat.not_lt_of_le hl)] at he
 obtain ⟨ctx,t,h1,h2,⟨h3,h4⟩ | ⟨id,n,a,c,h3,⟨h4,h5⟩ | ⟨h4,h5,h6⟩⟩⟩:=NT hw hl I.wf I.okT
 ·exfalso
  rw [h4] at he
  cases ctx with
  | nil=>cases he
  | cons f r =>
   rw [C4] at he
   dsimp only at he
   have:=(h2 f (.head _)).2.2.1
   rw [AS,if_neg (Nat.ne_of_lt this)] at he
   cases he
 ·exfalso
  rw [h5] at he
  cases ctx with
  | nil=>cases he
  | cons f r =>
   rw [C4] at he
   dsimp only at he
   have:=(h2 f (.head _)).2.2.1
   rw [AS,if_neg (Nat.ne_of_lt this)] at he
   cases he
 ·rw [h6,List.getLast?_concat] at he
  dsimp only at he
  rw [if_pos h5] at he
  cases he
  subst h3
  exact Ti ctx a c h1 h2 h6
theorem Inv.not_at (I:Inv P tr H size width most) (hw:wo < 2^size) (hl:l≤size) (he:Au size l wo tr=none):∃ ctx t,Bn ctx t=tr∧(∀ f∈ctx,Stp size l wo f)∧Ac size l wo tr=BA ctx (hid t)∧(t= .nil∨∃ id n a c,t= .node id n a c∧¬ Beg size l wo n):=by
 unfold Au at he
 rw [if_neg (Nat.not_lt_of_le hl)] at he
 obtain ⟨ctx,t,h1,h2,⟨h3,h4⟩ | ⟨id,n,a,c,h3,⟨h4,h5⟩ | ⟨h4,h5,h6⟩⟩⟩:=NT hw hl I.wf I.okT
 ·exact DZ ctx t h1 h2 h4 (.inl h3)
 ·exact DZ ctx t h1 h2 h5 (.inr ⟨id,n,a,c,h3,h4⟩)
 ·rw [h6,List.getLast?_concat] at he
  dsimp only at he
  rw [if_pos h5] at he
  cases he
theorem Inv.insOk (I:Inv P tr H size width most) (hw:wo < 2^size) {x:Array UInt8} (hl:l≤size) (he:Au size l wo tr=none):InsOk P size l wo x tr:=by
 refine FG (I.not_at hw hl he) fun ctx t h1 h2 h3 h4=> ?_
 have F1:FV (AD P x):=I.freeP
 have n1:=Jg (size:=size) (l:=l) (w:=wo) (s:=Al P.used) F1
 have n2:=Jg (size:=size) (l:=l) (w:=wo) (s:=Al P.used) n1.2.2.2
 refine ⟨fun p hp=> ?_,n1.1,?_,n2.1⟩
 ·rw [h3] at hp
  cases ctx with
  | nil=>cases hp
  | cons f r =>
   rw [C4] at hp
   cases hp
   have:=(h2 f (.head _)).2.2.1
   show (Aj f.n f.s (hid t)).len < size
   rw [AS]; exact Nat.lt_of_lt_of_le this hl
 ·rw [h3,M8 h2 (by rw [h1]; exact I.root)]
  rcases h4 with rfl | ⟨id,n,a,c,rfl,hb⟩
  ·exact .inl rfl
  ·right
   have wf:=I.wf
   rw [← h1] at wf
   have hm:(id,n)∈Ab tr:=by rw [← h1]; exact (BZ ctx _).mem_iff.mpr (List.mem_append_left _ (.head _))
   have wn:=((Do fun f hf=>(h2 f hf).1).mp wf).2.1
   refine ⟨wn.1,n,I.look_iff.mpr hm,fun e=> ?_⟩
   obtain ⟨ow,ol⟩:=I.ok _ hm
   have:=(M0 (ctx:=[]) hw hl ow ol wn.2.2.2.1 hb (fun f hf=>nomatch hf) (fun f hf=>nomatch hf) e).1
   have ol:n.len≤size:=ol
   exact Nat.lt_of_lt_of_le this ol
end
section
variable {P:TP} {tr:Tr} {H:AU} {size width most l wo:Nat}
theorem Inv.ins (I:Inv P tr H size width most) (hw:wo < 2^size) {x:Array UInt8} (hl:l≤size) (he:Au size l wo tr=none) :
  ∃ tr',Gd size (Id P size l wo x tr) tr'∧Du (AD P x) (Id P size l wo x tr)∧(Bf (Ab tr')).Perm (Bf (Ab tr)++[((l,cut size wo l),(Al P.used:Int))]):=by
 refine FG (I.not_at hw hl he) fun ctx t h1 h2 h3 h4=> ?_
 have s2:∀ f∈ctx,f.s < 2:=fun f hf=>(h2 f hf).1
 have wf:=I.wf
 have wf:=h1▸wf
 refine CG ((Do s2).mp wf) fun cw wt it=> ?_
 have pp:=BZ ctx t
 have pp:=h1▸pp
 obtain ⟨ot,oc⟩:=EK.mp (Dc pp I.ok)
 obtain ⟨tt,tc⟩:=DA.mp (Cb pp I.two)
 have ep:=Bl pp
 simp only [B3] at ep
 have F1:FV (AD P x):=I.freeP
 refine Gj (Jg (size:=size) (l:=l) (w:=wo) (s:=Al P.used) F1) fun na1 na2 na3 F2=> ?_
 have nd2:=Ou (v:=AV size l wo (Al P.used)) I.keys na1
 have e2:Hs P size l wo x=Bv (AD P x) size l wo (Al P.used):=rfl
 have hs0:(Al P.used:Int)≠ -1:=PY
 generalize (Al P.used:Int)=s at na3 F2 nd2 e2 hs0 ⊢
 have pl:(AV size l wo s).slot=s:=rfl
 generalize hmade:Az (AD P x)=made at na1 na2 na3 nd2
 have same2:Du (AD P x) (Bv (AD P x) size l wo s):=⟨rfl,rfl,rfl,rfl,rfl⟩
 have root2:(Bv (AD P x) size l wo s).root=hid (Bn ctx t):=by rw [h1]; exact I.root
 have na3:(Bv (AD P x) size l wo s).nodes=P.nodes++[(made,AV size l wo s)]:=na3
 have p2:(Bv (AD P x) size l wo s).nodes.Perm ((made,AV size l wo s)::(Ab t++A9 ctx (hid t))):=by
  rw [na3]
  exact (List.perm_append_comm (l₂:=[(made,AV size l wo s)])).trans ((I.nod.trans pp).cons _)
 have e0:Id P size l wo x tr=if hid t= -1 then Co (Bv (AD P x) size l wo s) (BC ctx) (D8 ctx) made else match (Bv (AD P x) size l wo s).nodes.lookup (hid t) with
   | none=>Bv (AD P x) size l wo s
   | some node=>if Av node.w wo (min node.len l) size=l then Co (BM (Bv (AD P x) size l wo s) made (AI size node.w l) (hid t)) (BC ctx) (D8 ctx) made
    else Co (BM (BM (Bv (Bv (AD P x) size l wo s) size (Av node.w wo (min node.len l) size) wo (-1)) (Az (Bv (AD P x) size l wo s)) (AI size wo (Av node.w wo (min node.len l) size)) made) (Az (Bv (AD P x) size l wo s)) (1-AI size wo (Av node.w wo (min node.len l) size)) (hid t)) (BC ctx) (D8 ctx) (Az (Bv (AD P x) size l wo s)):=by
  unfold Id
  dsimp only
  rw [e2,hmade,h3,PM,N9 h2,M8 h2 (by exact h1▸I.root)]
  try rfl
 rw [← na3] at nd2
 rw [e0]
 clear e0
 generalize Bv (AD P x) size l wo s=P2 at F2 nd2 e2 same2 root2 na3 p2 ⊢
 have iL:∀ q∈Ab (.node made (AV size l wo s) .nil .nil),InC size ctx q.2:=fun q hq=>by
  have hq:q∈[(made,AV size l wo s)]:=hq
  rw [List.mem_singleton.mp hq]
  exact fun f hf=>J9 hl (h2 f hf) (h2 f hf).2.2.1
 have oL:OkT size [(made,AV size l wo s)]:=fun p hp=>by
  rw [List.mem_singleton.mp hp]; exact ⟨JG hw,hl⟩
 have tL:∀ n:PN,n.slot=s→CR [(made,n)]:=fun n hn p hp=>by
  rw [List.mem_singleton.mp hp]
  exact fun c=>absurd (hn.symm.trans c) hs0
 have wL:WfT size (.node made (AV size l wo s) .nil .nil):=PC hl na2
 rcases h4 with rfl | ⟨id,n,a,c,rfl,hb⟩
 ·rw [if_pos (show hid .nil= -1 from rfl)]
  obtain ⟨g1,g2⟩:=Jv (u:= .node made (AV size l wo s) .nil .nil) F2 nd2 p2 root2 na2 s2 cw wL iL oL (tL _ rfl) oc tc
  refine Cu _ g1 (same2.trans g2) ?_
  refine (Bl (BZ ctx _)).trans ?_
  simp only [B3,FF (h:=hid _) (k:=hid Tr.nil)]
  show (Bf [(made,AV size l wo s)]++Bf (A9 ctx (hid .nil))).Perm _
  rw [Bs,if_neg (show ¬ (made,AV size l wo s).2.slot= -1 from hs0)]
  exact (ep.symm.cons _).trans (List.perm_append_comm (l₁:=[_]))
 ·have hm:(id,n)∈Ab (.node id n a c):= .head _
  obtain ⟨ow,ol⟩:=ot _ hm
  have hid1:id≠ -1:=wt.1
  have hl2:P2.nodes.lookup id=some n:=by
   refine F5 nd2 (p2.mem_iff.mpr (.tail _ (List.mem_append_left _ hm)))
  rw [show hid (.node id n a c)=id from rfl,if_neg hid1,hl2]
  dsimp only
  refine KN (M0 hw hl ow ol wt.2.2.2.1 hb h2 (it _ hm) rfl) fun f1 f2 f3 f4 f5=> ?_
  have und:∀ (m:PN) s,Und size m s n→∀ q∈Ab (.node id n a c),Und size m s q.2:=fun m s u q hq=>by
   rcases List.mem_cons.mp hq with rfl | hq
   ·exact u
   ·rcases List.mem_append.mp hq with hq | hq
    ·exact u.trans (wt.2.2.2.2.1 q hq) ol
    ·exact u.trans (wt.2.2.2.2.2.1 q hq) ol
  by_cases hk:Av n.w wo (min n.len l) size=l
  ·rw [if_pos hk]
   rw [hk] at f1 f3
   refine Gj (Jp (s:=AI size n.w l) (c:=id) nd2 p2) fun k1 k2 k3 k4=> ?_
   have kk:(BM P2 made (AI size n.w l) id).nodes.map (·.1)=P2.nodes.map (·.1):=Gb
   have pg:=I5 ⟨made,AV size l wo s,AI size n.w l,.nil⟩ (.node id n a c)
   have fr:FV (BM P2 made (AI size n.w l) id):=by
    refine Af F2 fun m hm hp=> ?_
    refine ⟨m,?_,by rw [kk,k3]; exact hp⟩
    have:=congrArg List.length kk
    simp only [List.length_map,List.length_map] at this
    lia
   have ul:Und size (AV size l wo s) (AI size n.w l) n:=⟨f1,f3,rfl⟩
   have wg:WfF size ⟨made,AV size l wo s,AI size n.w l,.nil⟩:=⟨na2,FK hl,by
    rcases Dt size n.w l with z | z
    ·show DW _ (1-AI size n.w l)=_
     rw [z]; rfl
    ·show DW _ (1-AI size n.w l)=_
     rw [z]; rfl,fun q hq=>(nomatch hq),trivial⟩
   have wu:WfT size (wrp ⟨made,AV size l wo s,AI size n.w l,.nil⟩ (.node id n a c)):=(Lm (HS _ _ _)).mpr ⟨wg,wt,und _ _ ul⟩
   have iu:∀ q∈Ab (wrp ⟨made,AV size l wo s,AI size n.w l,.nil⟩ (.node id n a c)),InC size ctx q.2:=fun q hq=>by
    rcases CI.mp hq with h | rfl | h
    ·exact it q h
    ·exact InC.of_sk.mpr (iL _ (.head _))
    ·cases h
   have ou:OkT size (Ab (wrp ⟨made,AV size l wo s,AI size n.w l,.nil⟩ (.node id n a c))):=fun q hq=>by
    rcases CI.mp hq with h | rfl | h
    ·exact ot q h
    ·dsimp only; rw [El,AS]; exact oL _ (.head _)
    ·cases h
   have tu:CR (Ab (wrp ⟨made,AV size l wo s,AI size n.w l,.nil⟩ (.node id n a c))):=fun q hq=>by
    rcases CI.mp hq with h | rfl | h
    ·exact tt q h
    ·exact tL _ (B5 ..) _ (.head _)
    ·cases h
   have pu:(BM P2 made (AI size n.w l) id).nodes.Perm (Ab (wrp ⟨made,AV size l wo s,AI size n.w l,.nil⟩ (.node id n a c))++A9 ctx id):=by
    refine k1.trans ?_
    refine List.Perm.trans ?_ (pg.symm.append_right _)
    exact (List.perm_append_comm (l₁:=[_]) (l₂:=Ab (.node id n a c))).append_right _
   have hu:hid (wrp ⟨made,AV size l wo s,AI size n.w l,.nil⟩ (.node id n a c))=made:=DY ..
   obtain ⟨g1,g2⟩:=Jv fr (by rw [kk]; exact nd2) pu (k2.trans root2) (by rw [hu]; exact na2) s2 cw wu iu ou tu oc tc
   rw [hu] at g1 g2
   refine Cu _ g1 ((same2.trans k4).trans g2) ?_
   refine (Bl (BZ ctx _)).trans ?_
   rw [B3,FF (h:=hid _) (k:=hid (.node id n a c))]
   refine ((Bl pg).append_right _).trans ?_
   rw [B3,Bs,if_neg (by dsimp only; rw [B5]; exact hs0)]
   unfold plc
   dsimp only
   rw [AS,El,B5]
   show ((Bf (Ab (.node id n a c))++[((l,cut size wo l),s)])++_).Perm _
   rw [List.append_assoc]
   refine List.Perm.trans ?_ (ep.symm.append_right _)
   rw [List.append_assoc]
   exact List.Perm.append_left _ List.perm_append_comm
  ·rw [if_neg hk]
   have hlt:Av n.w wo (min n.len l) size < l:=Nat.lt_of_le_of_ne f2 hk
   have f5:=f5 hlt
   generalize Av n.w wo (min n.len l) size=k at *
   have hks:k≤size:=Nat.le_of_lt (Nat.lt_of_lt_of_le hlt hl)
   refine Gj (Jg (size:=size) (l:=k) (w:=wo) (s:= -1) F2) fun nb1 nb2 nb3 F3=> ?_
   generalize hfork:Az P2=fork at *
   have nb3:(Bv P2 size k wo (-1)).nodes=P2.nodes++[(fork,AV size k wo (-1))]:=nb3
   have nd3:=Ou (v:=AV size k wo (-1)) nd2 nb1
   rw [← nb3] at nd3
   have p3:(Bv P2 size k wo (-1)).nodes.Perm ((fork,AV size k wo (-1))::((made,AV size l wo s)::(Ab (.node id n a c)++A9 ctx id))):=by
    rw [nb3]
    exact (List.perm_append_comm (l₂:=[(fork,AV size k wo (-1))])).trans (p2.cons _)
   have same3:Du P2 (Bv P2 size k wo (-1)):=⟨rfl,rfl,rfl,rfl,rfl⟩
   have root3:(Bv P2 size k wo (-1)).root=hid (Bn ctx (.node id n a c)):=root2
   generalize Bv P2 size k wo (-1)=P3 at *
   have hbt:=HS size wo k
   generalize hown:AI size wo k=own at *
   refine Gj (Jp (s:=own) (c:=made) nd3 p3) fun k1 k2 k3 k4=> ?_
   have kk:(BM P3 fork own made).nodes.map (·.1)=P3.nodes.map (·.1):=Gb
   have nd4:((BM P3 fork own made).nodes.map (·.1)).Nodup:=by rw [kk]; exact nd3
   refine Gj (Jp (s:=1-own) (c:=id) nd4 k1) fun j1 j2 j3 j4=> ?_
   have jj:(BM (BM P3 fork own made) fork (1-own) id).nodes.map (·.1)=P3.nodes.map (·.1):=Gb.trans kk
   have fr:FV (BM (BM P3 fork own made) fork (1-own) id):=by
    refine Af F3 fun m hm hp=> ?_
    refine ⟨m,?_,by rw [jj,j3,k3]; exact hp⟩
    have:=congrArg List.length jj
    rw [List.length_map,List.length_map] at this
    lia
   have same4:=((same2.trans same3).trans k4).trans j4
   have root4:=(j2.trans k2).trans root3
   generalize BM (BM P3 fork own made) fork (1-own) id=P4 at *
   have nd5:(P4.nodes.map (·.1)).Nodup:=by rw [jj]; exact nd3
   obtain ⟨g,hg⟩:∃ g:Fm,g=⟨fork,Aj (AV size k wo (-1)) own made,1-own,.node made (AV size l wo s) .nil .nil⟩:=⟨_,rfl⟩
   have pg:=I5 g (.node id n a c)
   have oo:1-(1-own)=own:=Nat.sub_sub_self (Nat.le_of_lt_succ hbt)
   have wg:WfF size g:=by
    subst hg
    refine Sv nb2 ?_ ?_ (fun q hq=> ?_) wL
    ·dsimp only; rw [El,AS]; exact FK hks
    ·dsimp only; rw [oo,OE]; rfl
    ·have hq:q∈[(made,AV size l wo s)]:=hq
     rw [List.mem_singleton.mp hq]
     dsimp only
     rw [oo]
     refine Und.of_sk ⟨hlt,?_,?_⟩
     ·exact FL (Nat.le_of_lt hlt) hl
     ·show AI size (cut size wo l) k=own
      rw [GX hlt hl]; exact hown
   have ug:Und size g.n g.s n:=by
    subst hg
    exact Und.of_sk ⟨f1,f3,f5⟩
   have g2:g.s < 2:=by subst hg; show 1-own < 2; exact Nat.sub_lt_succ _ _
   have wu:WfT size (wrp g (.node id n a c)):=(Lm g2).mpr ⟨wg,wt,und _ _ ug⟩
   have gi:∀ h,(g.id,Aj g.n g.s h)=(fork,Aj (Aj (AV size k wo (-1)) own made) (1-own) h):=fun h=>by subst hg; rfl
   have go:Ab g.o=[(made,AV size l wo s)]:=by subst hg; rfl
   have iu:∀ q∈Ab (wrp g (.node id n a c)),InC size ctx q.2:=fun q hq=>by
    rcases CI.mp hq with h | rfl | h
    ·exact it q h
    ·rw [gi]
     exact InC.of_sk.mpr (InC.of_sk.mpr fun f hf=>J9 hks (h2 f hf) (f4 f hf))
    ·rw [go] at h
     exact iL q h
   have ou:OkT size (Ab (wrp g (.node id n a c))):=fun q hq=>by
    rcases CI.mp hq with h | rfl | h
    ·exact ot q h
    ·rw [gi]; dsimp only; rw [El,AS,El,AS]; exact ⟨JG hw,hks⟩
    ·rw [go] at h; exact oL q h
   have tu:CR (Ab (wrp g (.node id n a c))):=fun q hq=>by
    rcases CI.mp hq with h | rfl | h
    ·exact tt q h
    ·rw [gi]
     intro _
     dsimp only
     rw [show hid (.node id n a c)=id from rfl]
     rcases (show own=0∨own=1 by lia) with z | z
     ·rw [z]; exact ⟨na2,hid1⟩
     ·rw [z]; exact ⟨hid1,na2⟩
    ·rw [go] at h; exact tL _ rfl q h
   have pu:P4.nodes.Perm (Ab (wrp g (.node id n a c))++A9 ctx id):=by
    refine j1.trans ?_
    refine List.Perm.trans ?_ (pg.symm.append_right _)
    rw [gi,go]
    exact (List.perm_append_comm (l₁:=[_,_]) (l₂:=Ab (.node id n a c))).append_right _
   have hu:hid (wrp g (.node id n a c))=fork:=by rw [DY]; subst hg; rfl
   obtain ⟨G1,G2⟩:=Jv fr nd5 pu root4 (by rw [hu]; exact nb2) s2 cw wu iu ou tu oc tc
   rw [hu] at G1 G2
   refine Cu _ G1 (same4.trans G2) ?_
   refine (Bl (BZ ctx _)).trans ?_
   rw [B3,FF (h:=hid _) (k:=hid (.node id n a c))]
   refine ((Bl pg).append_right _).trans ?_
   rw [gi,go,B3,Bs,if_pos (by dsimp only; rw [B5,B5]; rfl),Bs,if_neg (show ¬ (made,AV size l wo s).2.slot= -1 from hs0)]
   show ((Bf (Ab (.node id n a c))++[((l,cut size wo l),s)])++_).Perm _
   rw [List.append_assoc]
   refine List.Perm.trans ?_ (ep.symm.append_right _)
   rw [List.append_assoc]
   exact List.Perm.append_left _ List.perm_append_comm
end
noncomputable def reS (n:PN) (s:Int):PN:={n with slot:=s}
theorem Und.frS {size k:Nat} {n m:PN} {s:Int} (u:Und size n k m):Und size (reS n s) k m:=⟨u.len,u.cut,u.bit⟩
theorem Und.toS {size k:Nat} {n m:PN} {s:Int} (u:Und size n k m):Und size n k (reS m s):=⟨u.len,u.cut,u.bit⟩
theorem No {size l w:Nat} (hw:w < 2^size) (hl:l≤size) {ctx:List Fm} {t:Tr} (hs:∀ f∈ctx,Stp size l w f):Ac size l w (Bn ctx t)=BA ctx (hid t)++Ac size l w t:=by
 induction ctx generalizing t with
 | nil=>rfl
 | cons f r ih0 =>
  refine hide fun P_ k_=> ?_
  refine Gj (hs f (.head _)) fun h1 h2 h3 h4=> ?_
  refine k_ ?_
  show Ac size l w (Bn r (wrp f t))=_
  rw [ih0 fun g hg=>hs g (.tail _ hg),DY]
  show _=BA r f.id++[(f.id,Aj f.n f.s (hid t))]++Ac size l w t
  simp only [List.append_assoc]
  congr 1
  have hb:Beg size l w (Aj f.n f.s (hid t)):=⟨by rw [AS]; exact h2.1,by rw [AS,El]; exact h2.2⟩
  have hsb:=C9 (size:=size) (l:=l) (w:=w) (n:=Aj f.n f.s (hid t)) (by rw [AS]; exact Nat.le_of_lt (Nat.lt_of_lt_of_le h3 hl)) (by rw [El,←h2.2]; exact JG hw) (by simp only [AS,El,←h2.2]; exact FK (Nat.le_of_lt (Nat.lt_of_lt_of_le h3 hl))) hw hl
  have e:∀ a c,Ac size l w (.node f.id (Aj f.n f.s (hid t)) a c)=(f.id,Aj f.n f.s (hid t))::(if f.s=0 then Ac size l w a else Ac size l w c):=fun a c=>by
   show (if _ then _ else _::(if (Aj f.n f.s (hid t)).len=l then _ else if AI size w (Aj f.n f.s (hid t)).len=0 then _ else _))=_
   rw [if_neg fun c=>hsb.mp c hb,AS,if_neg (Nat.ne_of_lt h3),h4]
  unfold wrp
  by_cases z:f.s=0
  ·rw [if_pos z,e,if_pos z]; rfl
  ·rw [if_neg z,e,if_neg z]; rfl
theorem QR {L:List Int} {a b:Int}:Aw (L++[a]++[b])=a:=by
 unfold Aw
 rw [if_neg (by simp),List.length_append,List.length_append,List.length_singleton,List.length_singleton,List.append_assoc,List.getD_eq_getElem?_getD,List.getElem?_append_right (by lia)]
 rw [show L.length+1+1-2-L.length=0 by lia]; rfl
theorem Rx {L:List Int} {a b c:Int}:AN (L++[a]++[b]++[c])=a:=by
 unfold AN
 rw [if_neg (by simp),List.length_append,List.length_append,List.length_append,List.length_singleton,List.length_singleton,List.length_singleton,List.append_assoc,List.append_assoc,List.getD_eq_getElem?_getD,List.getElem?_append_right (by lia)]
 rw [show L.length+1+1+1-3-L.length=0 by lia]; rfl
theorem PO {ctx:List Fm} {h:Int} {q:Int×PN}:Aw ((BA ctx h++[q]).map (·.1))=BC ctx:=by
 cases ctx with
 | nil=>rfl
 | cons f r =>
  show Aw ((BA r f.id++[(f.id,_)]++[q]).map fun p:Int×PN=>p.1)=f.id
  rw [List.map_append,List.map_append]
  exact QR
theorem Qn {f:Fm} {r:List Fm} {h:Int} {q:Int×PN}:AN ((BA (f::r) h++[q]).map (·.1))=BC r:=by
 cases r with
 | nil=>rfl
 | cons g r =>
  show AN ((BA r g.id++[(g.id,_)]++[(f.id,_)]++[q]).map fun p:Int×PN=>p.1)=g.id
  simp only [List.map_append,List.map_append,List.map_append]
  exact Rx
section
variable {P:TP} {tr:Tr} {H:AU} {size width most l wo:Nat}
theorem Inv.reslot (I:Inv P tr H size width most) {ctx:List Fm} {i:Int} {n:PN} {a c:Tr} (hs:∀ f∈ctx,f.s < 2) (h:Bn ctx (.node i n a c)=tr) (s:Int) :
  P.nodes.Perm ((i,n)::((Ab a++Ab c)++A9 ctx i))∧(AA P.nodes i (reS n s)).Perm ((i,reS n s)::((Ab a++Ab c)++A9 ctx i))∧(Ab (Bn ctx (.node i (reS n s) a c))).Perm ((i,reS n s)::((Ab a++Ab c)++A9 ctx i))∧(AA P.nodes i (reS n s)).map (·.1)=P.nodes.map (·.1)∧hid (Bn ctx (.node i (reS n s) a c))=hid tr∧WfT size (Bn ctx (.node i (reS n s) a c))∧OkT size (Ab (Bn ctx (.node i (reS n s) a c))):=by
 have pp:=BZ ctx (.node i n a c)
 rw [h] at pp
 have p0:P.nodes.Perm ((i,n)::((Ab a++Ab c)++A9 ctx i)):=I.nod.trans pp
 have p1:(Ab (Bn ctx (.node i (reS n s) a c))).Perm ((i,reS n s)::((Ab a++Ab c)++A9 ctx i)):=BZ ctx (.node i (reS n s) a c)
 have wf:=I.wf
 have wf:=h▸wf
 refine hide fun P_ k_=> ?_
 obtain ⟨cw,⟨w1,w2,w3,w4,w5,w6,w7,w8⟩,it⟩:=(Do hs).mp wf
 refine k_ ?_
 refine Tn p0 (ER I.keys p0) p1 (Gl (Cc I.keys p0)) ?_ ((Do hs).mpr ⟨cw,⟨w1,w2,w3,w4,fun q hq=>(w5 q hq).frS,fun q hq=>(w6 q hq).frS,w7,w8⟩,fun q hq=> ?_⟩) (Dc p1.symm fun q hq=> ?_)
 ·rw [← h]
  cases ctx with
  | nil=>rfl
  | cons f r=>exact Hv f r _ _
 ·rcases List.mem_cons.mp hq with rfl | hq
  ·exact fun f hf=>(it (i,n) (.head _) f hf).toS
  ·exact it q (.tail _ hq)
 ·have o:=Dc pp I.ok
  rcases List.mem_cons.mp hq with rfl | hq
  ·exact o (i,n) (.head _)
  ·exact o q (.tail _ hq)
theorem Inv.upd (I:Inv P tr H size width most) (hw:wo < 2^size) {x:Array UInt8} (hx:x.size=width) (f:Int):(G5 P size l wo x f tr).2=(JF H most size l wo x f).2∧∃ tr',Inv (G5 P size l wo x f tr).1 tr' (JF H most size l wo x f).1 size width most:=by
 delta G5 JF
 by_cases hl:size < l
 ·rw [if_pos hl,if_pos (Or.inl hl)]; exact ⟨rfl,tr,I⟩
 rw [if_neg hl]
 have hl':l≤size:=Nat.le_of_not_lt hl
 by_cases hf:f=0∨f=1∨f=2
 rotate_left
 ·have h0:f≠0:=fun c=>hf (.inl c)
  have h1:f≠1:=fun c=>hf (.inr (.inl c))
  have h2:f≠2:=fun c=>hf (.inr (.inr c))
  have e:∀ b,Bi f b= -22:=fun b=>by unfold Bi; rw [if_neg h0,if_neg h1,if_neg h2]
  rw [e,if_pos (by decide),if_pos (Or.inr hf)]; exact ⟨rfl,tr,I⟩
 rw [if_neg (show ¬ (size < l∨¬ (f=0∨f=1∨f=2)) from fun c=>c.elim hl fun c=>c hf),I.hlook hw hl']
 cases hk:H.lookup (l,cut size wo l) with
 | some v =>
  dsimp only [Option.map_some,Option.isSome_some]
  by_cases f1:f=1
  ·subst f1
   rw [if_pos (by decide),if_pos rfl]; exact ⟨rfl,tr,I⟩
  ·have e:Bi f true=0:=by rcases hf with rfl | rfl | rfl <;> first | rfl | exact absurd rfl f1
   rw [if_neg (show ¬ (Bi f true≠0) from fun c=>c e),if_neg f1]
   exact ⟨rfl,tr,I.lay hk hx⟩
 | none =>
  dsimp only [Option.map_none,Option.isSome_none]
  by_cases f2:f=2
  ·subst f2
   rw [if_pos (by decide),if_pos rfl]; exact ⟨rfl,tr,I⟩
  ·have e:Bi f false=0:=by rcases hf with rfl | rfl | rfl <;> first | rfl | exact absurd rfl f2
   rw [if_neg (show ¬ (Bi f false≠0) from fun c=>c e),if_neg f2]
   have hU:=I.usedLen
   have hm:=I.pmost
   have hfew:=I.hok.few
   by_cases hfull:H.length=most
   ·rw [if_pos (by lia),if_pos hfull]; exact ⟨rfl,tr,I⟩
   rw [if_neg (by lia),if_neg hfull]
   have hlt:H.length < most:=Nat.lt_of_le_of_ne hfew hfull
   cases he:Au size l wo tr with
   | none =>
    refine hide fun P_ k_=> ?_
    refine Br (I.ins hw hl' he (x:=x)) fun tr' g sm en=> ?_
    refine k_ ?_
    refine hide fun P_ k_=> ?_
    refine Af g.free fun n hn hp=> ?_
    refine k_ ?_
    exact ⟨rfl,tr',I.add hw hl' hk hx hlt sm.1 sm.2.1 sm.2.2.1 sm.2.2.2.1 sm.2.2.2.2 g.root g.nod g.keys g.wf g.ok g.two g.free en⟩
   | some p =>
    refine hide fun P_ k_=> ?_
    obtain ⟨i,n⟩:=p
    refine k_ ?_
    refine hide fun P_ k_=> ?_
    refine CG ((EQ hw hl' I.wf I.okT (i,n)).mp he) fun hm e1 e2=> ?_
    refine k_ ?_
    have hs1:n.slot= -1:=by
     have:=I.hlook hw hl'
     simp only [he,hk] at this
     by_cases z:n.slot= -1
     ·exact z
     ·have this:(if n.slot= -1 then none else some n.slot)=none:=this
      have this:=(if_neg z).symm.trans this; cases this
    refine hide fun P_ k_=> ?_
    refine NG (I.at hw hl' he) fun ctx a c h1 h2 U=> ?_
    refine k_ ?_
    refine hide fun P_ k_=> ?_
    refine Sy (I.reslot (fun f hf=>(h2 f hf).1) h1 (Al P.used)) fun p0 p1 p2 p3 p4 p5 p6=> ?_
    refine k_ ?_
    have hs0:(Al P.used:Int)≠ -1:=PY
    have pp:=I.nod.symm.trans p0
    have tw:=Cb pp I.two
    refine ⟨rfl,Bn ctx (.node i (reS n (Al P.used)) a c),I.add hw hl' hk hx hlt rfl rfl rfl rfl rfl (I.root.trans p4.symm) (p1.trans p2.symm) ?_ p5 p6 (Cb p2.symm fun q hq=> ?_) ?_ ?_⟩
    ·show ((AA P.nodes i (reS n (Al P.used))).map (·.1)).Nodup
     exact p3▸I.keys
    ·rcases List.mem_cons.mp hq with rfl | hq
     ·exact fun c=>absurd c hs0
     ·exact tw q (.tail _ hq)
    ·refine hide fun P_ k_=> ?_
     refine Af I.free fun m hm hp=> ?_
     refine k_ ?_
     refine AQ m (.inl hm) ?_
     show ((AA P.nodes i (reS n (Al P.used))).map (·.1)++P.free).Perm _
     exact p3▸hp
    ·have q1:=Bl p2
     have q2:=Bl pp
     rw [Bs,if_neg (show ¬ (i,reS n (Al P.used)).2.slot= -1 from hs0)] at q1
     rw [Bs,if_pos (show (i,n).2.slot= -1 from hs1)] at q2
     have q3:plc (i,reS n (Al P.used))=(l,cut size wo l):=Prod.ext e1 e2
     rw [q3] at q1
     exact (q1.trans (q2.symm.cons _)).trans (List.perm_append_comm (l₁:=[_]))
theorem Inv.sub (I:Inv P tr H size width most) {P':TP} {tr':Tr} {k:Nat×Nat} {v:Int×Array UInt8} (hk:H.lookup k=some v)
  (e1:P'.kw=P.kw) (e2:P'.vw=P.vw) (e3:P'.most=P.most) (e4:P'.vals=P.vals) (e5:P'.used=P.used.erase v.1)
  (root:P'.root=hid tr') (nod:P'.nodes.Perm (Ab tr')) (keys:(P'.nodes.map (·.1)).Nodup) (wf:WfT size tr') (ok:OkT size (Ab tr')) (two:CR (Ab tr'))
  (free:(P'.nodes.map (·.1)++P'.free).Perm (P.nodes.map (·.1)++P.free))
  (ents:(Bf (Ab tr)).Perm ((k,v.1)::Bf (Ab tr'))):Inv P' tr' (Gg H k) size width most:=by
 have hp:=Nx hk
 have sub:∀ e,e∈Gg H k→e∈H:=fun e he=>hp.mem_iff.mpr (.tail _ he)
 have hlen:=hp.length_eq
 simp only [List.length_cons] at hlen
 have hfew:=I.hok.few
 have nd:=(hp.map (·.1)).nodup_iff.mp I.hok.nd
 rw [List.map_cons,List.nodup_cons] at nd
 have hE:(H.map fun e=>(e.1,e.2.1)).Perm (Bf (Ab tr)):=I.ents
 refine ⟨I.sz,I.wd,I.mo,by rw [e1]; exact I.kw,by rw [e2]; exact I.vw,by rw [e3]; exact I.pmost,root,nod,keys,wf,ok,two,?_,⟨nd.2,fun e he=>I.hok.le e (sub e he),Nat.le_of_lt (Nat.lt_of_lt_of_le (Nat.lt_of_succ_le (Nat.le_of_eq (Eq.symm hlen))) hfew)⟩,fun e he=>I.hw e (sub e he),fun e he=>I.hsz e (sub e he),?_,?_,?_,fun s hs=> ?_,fun e he=>by rw [e4]; exact I.vals e (sub e he),by exact e4▸I.vsz,by rw [e4]; exact I.vkeys,by rw [e4]; exact I.vlen⟩
 ·refine Af I.free fun n hn h=> ?_
  exact AQ n hn (free.trans h)
 ·have q:=((hp.map fun e:(Nat×Nat)×(Int×Array UInt8)=>(e.1,e.2.1)).symm.trans hE).trans ents
  simp only [List.map_cons] at q
  exact q.cons_inv
 ·rw [e5]
  have:=(I.used.trans (hp.map fun e=>e.2.1)).erase v.1
  rw [List.map_cons,List.erase_cons_head] at this
  exact this
 ·simp only [e5]; exact I.usedN.erase _
 ·rw [e5] at hs
  exact I.slots s (List.mem_of_mem_erase hs)
end
theorem N0 {ctx:List Fm} {h k:Int} (o:CR (A9 ctx h)) (hd:∀ f r,ctx=f::r→f.n.slot≠ -1):CR (A9 ctx k):=by
 cases ctx with
 | nil=>exact o
 | cons f r =>
  intro p hp hs
  rcases List.mem_cons.mp hp with rfl | hp
  ·dsimp only at hs
   rw [B5] at hs
   exact absurd hs (hd f r rfl)
  ·exact o p (.tail _ hp) hs
section
variable {P:TP} {tr:Tr} {H:AU} {size width most l wo:Nat}
theorem Nh {D:TP} {ctx:List Fm} {i:Int} {n:PN} {u t0:Tr} (hne:i≠ -1) (s2:∀ f∈ctx,f.s < 2) (cw:Px size ctx) (wu:WfT size u) (iu:∀ q∈Ab u,InC size ctx q.2)
  (nd:(D.nodes.map (·.1)).Nodup) (p:D.nodes.Perm ((i,n)::(Ab u++A9 ctx i))) (hr:D.root=hid (Bn ctx t0)) (ho:only n=hid u) (ou:OkT size (Ab u)) (oc:OkT size (A9 ctx i)) (tu:CR (Ab u)) (tc:CR (A9 ctx i)) {q:Int×PN} {h:Int} :
  ∃ tr',(BE D i ((BA ctx h++[q]).map (·.1))).root=hid tr'∧(BE D i ((BA ctx h++[q]).map (·.1))).nodes.Perm (Ab tr')∧((BE D i ((BA ctx h++[q]).map (·.1))).nodes.map (·.1)).Nodup∧WfT size tr'∧OkT size (Ab tr')∧CR (Ab tr') ∧
   ((BE D i ((BA ctx h++[q]).map (·.1))).nodes.map (·.1)++(BE D i ((BA ctx h++[q]).map (·.1))).free).Perm (D.nodes.map (·.1)++D.free)∧Du D (BE D i ((BA ctx h++[q]).map (·.1)))∧Bf (Ab u++A9 ctx i)=Bf (Ab u)++Bf (A9 ctx i)∧(Bf (Ab tr')).Perm (Bf (Ab u++A9 ctx i)):=by
 have hl:=Cc nd p
 have ndp:=(p.map (·.1)).nodup_iff.mp nd
 rw [List.map_cons,List.nodup_cons] at ndp
 have sd:∀ f r,ctx=f::r→f.s < 2∧(f.s=1→f.n.c0≠i):=fun f r e=>by
  subst e
  refine ⟨s2 f (.head _),fun e1 e2=> ?_⟩
  have h1:=cw.1.2.2.1
  rw [e1] at h1
  have h1:f.n.c0=hid f.o:=h1
  rw [e2] at h1
  obtain ⟨m,hm⟩:=Jt (size:=size) (tr:=f.o) (by rw [← h1]; exact hne)
  rw [← h1] at hm
  exact ndp.1 (List.mem_map.mpr ⟨_,List.mem_append_right _ (.tail _ (List.mem_append_left _ hm)),rfl⟩)
 refine KN (My (R:=(i,n)::Ab u) (u:=u) (JH cw) sd nd p hr rfl) fun r1 r2 r3 r4 r5=> ?_
 have nd1:((Be D (BC ctx) i (hid u)).nodes.map (·.1)).Nodup:=by rw [r2]; exact nd
 refine CG (IK (i:=i) (n:=n) nd1 r1) fun d1 d2 d3=> ?_
 rw [r2,r4] at d3
 have d5:Du D (BX (Be D (BC ctx) i (hid u)) i):=r5
 have d6:(BX (Be D (BC ctx) i (hid u)) i).root=hid (Bn ctx u):=r3
 have es:BE D i ((BA ctx h++[q]).map (·.1))=if BC ctx≠ -1∧hid u= -1 then match (BX (Be D (BC ctx) i (hid u)) i).nodes.lookup (BC ctx) with
   | some m=>if m.slot= -1 then BX (Be (BX (Be D (BC ctx) i (hid u)) i) (AN ((BA ctx h++[q]).map (·.1))) (BC ctx) (only m)) (BC ctx) else BX (Be D (BC ctx) i (hid u)) i
   | none=>BX (Be D (BC ctx) i (hid u)) i
  else BX (Be D (BC ctx) i (hid u)) i:=by
  unfold BE
  rw [hl]
  dsimp only
  rw [PO,ho]
  try rfl
 rw [es]
 clear es
 generalize BX (Be D (BC ctx) i (hid u)) i=P1 at *
 have eu:Bf (Ab u++A9 ctx i)=Bf (Ab u)++Bf (A9 ctx i):=B3 _ _
 have pu:=BZ ctx u
 have wp:WfT size (Bn ctx u):=(Do s2).mpr ⟨cw,wu,iu⟩
 have op:OkT size (Ab (Bn ctx u)):=Dc pu.symm (EK.mpr ⟨ou,LC oc⟩)
 have en:(Bf (Ab (Bn ctx u))).Perm (Bf (Ab u++A9 ctx i)):=by
  refine (Bl pu).trans ?_
  rw [B3,FF (h:=hid u) (k:=i),←eu]
 have one:CR (A9 ctx (hid u))→∃ tr',P1.root=hid tr'∧P1.nodes.Perm (Ab tr')∧(P1.nodes.map (·.1)).Nodup∧WfT size tr'∧OkT size (Ab tr')∧CR (Ab tr')∧(P1.nodes.map (·.1)++P1.free).Perm (D.nodes.map (·.1)++D.free)∧Du D P1∧Bf (Ab u++A9 ctx i)=Bf (Ab u)++Bf (A9 ctx i)∧(Bf (Ab tr')).Perm (Bf (Ab u++A9 ctx i)):=fun z =>
  ⟨Bn ctx u,d6,d1.trans pu.symm,d2,wp,op,Cb pu.symm (DA.mpr ⟨tu,z⟩),d3,d5,eu,en⟩
 by_cases hu:hid u= -1
 ·cases ctx with
  | nil =>
   rw [if_neg (show ¬ (BC []≠ -1∧hid u= -1) from fun c=>c.1 rfl)]
   exact one fun p hp=>nomatch hp
  | cons f r =>
   have un:u= .nil:=(Js wu).mp hu
   subst un
   have hf:f.id≠ -1:=JH cw f (.head _)
   rw [if_pos (show BC (f::r)≠ -1∧hid .nil= -1 from ⟨hf,rfl⟩)]
   have d1:P1.nodes.Perm ((f.id,Aj f.n f.s (-1))::(Ab f.o++A9 r f.id)):=d1
   have hl1:=Cc d2 d1
   rw [show BC (f::r)=f.id from rfl,hl1]
   dsimp only
   rw [B5]
   by_cases hsl:f.n.slot= -1
   ·rw [if_pos hsl,Qn]
    have t0:=tc _ (.head _) (by dsimp only; rw [B5]; exact hsl)
    have hs2:=s2 f (.head _)
    have ko:=cw.1.2.2.1
    have hom:only (Aj f.n f.s (-1))=hid f.o∧hid f.o≠ -1:=by
     rcases (show f.s=0∨f.s=1 by lia) with z | z
     ·rw [z] at ko t0 ⊢
      have ko:f.n.c1=hid f.o:=ko
      have t1:f.n.c1≠ -1:=t0.2
      refine ⟨?_,by rw [← ko]; exact t1⟩
      show (if (-1:Int)= -1 then f.n.c1 else -1)=_
      rw [if_pos rfl,ko]
     ·rw [z] at ko t0 ⊢
      have ko:f.n.c0=hid f.o:=ko
      have t1:f.n.c0≠ -1:=t0.1
      refine ⟨?_,by rw [← ko]; exact t1⟩
      show (if f.n.c0= -1 then (-1:Int) else f.n.c0)=_
      rw [if_neg t1,ko]
    rw [hom.1]
    have wf':=cw.1.2.2.2.2
    refine Gj cw fun U U c3 c4=> ?_
    have nd1p:=(d1.map (·.1)).nodup_iff.mp d2
    rw [List.map_cons,List.nodup_cons] at nd1p
    have sr:∀ g r',r=g::r'→g.s < 2∧(g.s=1→g.n.c0≠f.id):=fun g r' e=>by
     subst e
     refine ⟨s2 g (.tail _ (.head _)),fun e1 e2=> ?_⟩
     have h1:=c4.1.2.2.1
     rw [e1] at h1
     have h1:g.n.c0=hid g.o:=h1
     rw [e2] at h1
     obtain ⟨m,hm⟩:=Jt (size:=size) (tr:=g.o) (by rw [← h1]; exact hf)
     rw [← h1] at hm
     exact nd1p.1 (List.mem_map.mpr ⟨_,List.mem_append_right _ (.tail _ (List.mem_append_left _ hm)),rfl⟩)
    refine KN (My (P:=P1) (ctx:=r) (h:=f.id) (R:=(f.id,Aj f.n f.s (-1))::Ab f.o) (t:=wrp f .nil) (u:=f.o) (JH c4) sr d2 d1 d6 rfl) fun a1 a2 a3 a4 a5=> ?_
    have nd3:((Be P1 (BC r) f.id (hid f.o)).nodes.map (·.1)).Nodup:=by rw [a2]; exact d2
    refine CG (IK (i:=f.id) (n:=Aj f.n f.s (-1)) nd3 a1) fun b1 b2 b3=> ?_
    rw [a2,a4] at b3
    have pf:=BZ r f.o
    have oc':OkT size (Ab f.o)∧OkT size (A9 r f.id):=EK.mp fun q hq=>oc q (.tail _ hq)
    have tc':CR (Ab f.o)∧CR (A9 r f.id):=DA.mp fun q hq=>tc q (.tail _ hq)
    refine Tl (Bn r f.o) a3 (b1.trans pf.symm) b2 ((Do fun g hg=>s2 g (.tail _ hg)).mpr ⟨c4,wf',c3⟩) (Dc pf.symm (EK.mpr ⟨oc'.1,LC oc'.2⟩)) (Cb pf.symm (DA.mpr ⟨tc'.1,IW hom.2 tc'.2⟩)) (b3.trans d3) (d5.trans a5) ⟨eu,?_⟩
    refine (Bl pf).trans ?_
    rw [eu,B3,FF (h:=hid f.o) (k:=f.id)]
    show List.Perm _ (Bf []++Bf ((f.id,Aj f.n f.s i)::(Ab f.o++A9 r f.id)))
    rw [Bs,if_pos (by dsimp only; rw [B5]; exact hsl),B3]
    exact .refl _
   ·rw [if_neg hsl]
    exact one (N0 tc fun g r' e=>by cases e; exact hsl)
 ·rw [if_neg fun c=>hu c.2]
  exact one (IW hu tc)
theorem Inv.del (I:Inv P tr H size width most) (hw:wo < 2^size):∃ tr1,(l≤size→∀ p,Au size l wo tr=some p→p.2.slot≠ -1→DelOk P size l wo tr tr1 p)∧(Gm P size l wo tr tr1).2=(Ef H size l wo).2∧∃ tr',Inv (Gm P size l wo tr tr1).1 tr' (Ef H size l wo).1 size width most:=by
 delta Gm Ef
 by_cases hl:size < l
 ·rw [if_pos hl]
  exact ⟨tr,fun h=>absurd hl (Nat.not_lt_of_le h),by rw [if_pos hl],tr,by rw [if_pos hl]; exact I⟩
 have hl':l≤size:=Nat.le_of_not_lt hl
 rw [if_neg hl]
 have hlook:=I.hlook hw hl'
 cases hk:H.lookup (l,cut size wo l) with
 | none =>
  rw [hk] at hlook
  refine AQ tr (fun U p e hs=> ?_) ?_
  ·rw [e] at hlook
   have hlook:(if p.2.slot= -1 then none else some p.2.slot)=none:=hlook
   rw [if_neg hs] at hlook; cases hlook
  ·rw [if_neg hl,if_neg (by simp)]
   cases he:Au size l wo tr with
   | none=>exact ⟨rfl,tr,I⟩
   | some p =>
    dsimp only
    rw [he] at hlook
    have hlook:(if p.2.slot= -1 then none else some p.2.slot)=none:=hlook
    by_cases hs:p.2.slot= -1
    ·rw [if_pos hs]; exact ⟨rfl,tr,I⟩
    ·rw [if_neg hs] at hlook; cases hlook
 | some v =>
  rw [hk] at hlook
  cases he:Au size l wo tr with
  | none=>rw [he] at hlook; cases hlook
  | some p =>
   refine hide fun P_ k_=> ?_
   obtain ⟨i,n⟩:=p
   refine k_ ?_
   rw [he] at hlook
   have hlook:(if n.slot= -1 then none else some n.slot)=some v.1:=hlook
   by_cases hs:n.slot= -1
   ·rw [if_pos hs] at hlook; cases hlook
   rw [if_neg hs] at hlook
   have hv:n.slot=v.1:=Option.some.inj hlook
   refine hide fun P_ k_=> ?_
   refine CG ((EQ hw hl' I.wf I.okT (i,n)).mp he) fun hm e1 e2=> ?_
   refine k_ ?_
   refine hide fun P_ k_=> ?_
   refine NG (I.at hw hl' he) fun ctx a c h1 h2 h3=> ?_
   refine k_ ?_
   have s2:∀ f∈ctx,f.s < 2:=fun f hf=>(h2 f hf).1
   refine hide fun P_ k_=> ?_
   refine Sy (I.reslot s2 h1 (-1)) fun p0 p1 p2 p3 p4 p5 p6=> ?_
   refine k_ ?_
   have wf:=I.wf
   rw [← h1] at wf
   refine hide fun P_ k_=> ?_
   refine CG ((Do s2).mp wf) fun cw wt it=> ?_
   refine k_ ?_
   refine hide fun P_ k_=> ?_
   refine Qd wt fun hne w2 w3 w4 w5 w6 w7 w8=> ?_
   refine k_ ?_
   have pp:=I.nod.symm.trans p0
   have tw:=Cb pp I.two
   have ndD:((Dk P (i,n)).nodes.map (·.1)).Nodup:=by
    show ((AA P.nodes i (reS n (-1))).map (·.1)).Nodup
    rw [p3]; exact I.keys
   have pD:(Dk P (i,n)).nodes.Perm (Ab (Bn ctx (.node i (reS n (-1)) a c))):=p1.trans p2.symm
   have rD:(Dk P (i,n)).root=hid (Bn ctx (.node i (reS n (-1)) a c)):=I.root.trans p4.symm
   have fD:((Dk P (i,n)).nodes.map (·.1)++(Dk P (i,n)).free).Perm (P.nodes.map (·.1)++P.free):=by
    show ((AA P.nodes i (reS n (-1))).map (·.1)++P.free).Perm _
    rw [p3]
   have qE:=Bl pp
   rw [Bs,if_neg (show ¬ (i,n).2.slot= -1 from hs)] at qE
   have q3:plc (i,n)=(l,cut size wo l):=Prod.ext e1 e2
   rw [q3] at qE
   have qE:(Bf (Ab tr)).Perm (((l,cut size wo l),v.1)::Bf ((Ab a++Ab c)++A9 ctx i)):=by rw [← hv]; exact qE
   have hpt:Ac size l wo (Bn ctx (.node i (reS n (-1)) a c))=BA ctx i++[(i,reS n (-1))]:=by
    rw [No hw hl' h2]
    show BA ctx i++_=_
    congr 1
    have hb:Beg size l wo (reS n (-1)):=by
     have hb:Beg size l wo n:=⟨by show n.len≤l; have e1:n.len=l:=e1; exact Nat.le_of_eq e1,by have e1:n.len=l:=e1; have e2:n.w=cut size wo l:=e2; rw [e2,e1]⟩
     exact hb
    have okn:=I.ok _ hm
    have hsb:=C9 (size:=size) (l:=l) (w:=wo) (n:=reS n (-1)) okn.2 okn.1 w4 hw hl'
    show (if Av (reS n (-1)).w wo (min (reS n (-1)).len l) size < (reS n (-1)).len then [] else (i,reS n (-1))::(if (reS n (-1)).len=l then [] else _))=_
    rw [if_neg fun c=>hsb.mp c hb,if_pos (show (reS n (-1)).len=l from e1)]
   have idN:((Ab (Bn ctx (.node i (reS n (-1)) a c))).map (·.1)).Nodup:=(pD.map (·.1)).nodup_iff.mp ndD
   refine AQ (Bn ctx (.node i (reS n (-1)) a c)) (fun U p e U=> ?_) ?_
   ·cases e
    refine ⟨?_,⟨?_,fun j m hj=> ?_,?_⟩,?_,?_⟩
    ·show n.slot∈P.used
     rw [hv]; exact I.slot_in (FC hk)
    ·rw [rD]
     exact Of p5 fun q hq=>F5 ndD (pD.mem_iff.mpr hq)
    ·exact p6 _ (pD.mem_iff.mp (LK hj))
    ·have h4:=FH (Bn ctx (.node i (reS n (-1)) a c))
     have h5:=I.lens.2.1
     have h6:=pD.length_eq
     have h7:=congrArg List.length p3
     rw [List.length_map,List.length_map] at h7
     have h8:(Dk P (i,n)).nodes.length=P.nodes.length:=h7
     exact Nat.le_trans (Nat.le_trans (Nat.le_trans (Nat.le_trans h4 (Nat.le_of_eq (Eq.symm h6))) (Nat.le_of_eq h8)) h5) (by decide)
    ·have asc:=Hh hw hl' p5 p6
     have mem:=DB hw hl' p5 p6
     refine List.pairwise_map.mpr (asc.imp_of_mem fun {x y} hx hy hlt e=> ?_)
     have:=Jr (·.1) idN ((mem x).mp hx).1 ((mem y).mp hy).1 e
     rw [this] at hlt
     lia
    ·rw [hpt,List.map_append]
     exact List.getLast?_concat ..
   ·rw [if_neg hl,if_pos (by rfl)]
    dsimp only
    rw [if_neg hs]
    refine ⟨rfl,?_⟩
    by_cases hk2:Fx n < 2
    ·rw [if_pos hk2,hpt]
     have hu:∃ u,Ab a++Ab c=Ab u∧only (reS n (-1))=hid u∧WfT size u∧(∀ q∈Ab u,InC size ctx q.2):=by
      unfold Fx at hk2
      by_cases z:n.c0= -1
      ·have:a= .nil:=(Js w7).mp (by rw [← w2]; exact z)
       subst this
       refine LT c rfl ?_ w8 (fun q hq=>it q (.tail _ hq))
       show (if n.c0= -1 then n.c1 else n.c0)=_
       rw [if_pos z,w3]
      ·rw [if_neg z] at hk2
       have z1:n.c1= -1:=by
        by_cases z1:n.c1= -1
        ·exact z1
        ·rw [if_neg z1] at hk2; lia
       have:c= .nil:=(Js w8).mp (by rw [← w3]; exact z1)
       subst this
       refine LT a (List.append_nil _) ?_ w7 (fun q hq=>it q (.tail _ (List.mem_append_left _ hq)))
       show (if n.c0= -1 then n.c1 else n.c0)=_
       rw [if_neg z,w2]
     refine hide fun P_ k_=> ?_
     refine KM hu fun u hu1 hu2 hu3 hu4=> ?_
     refine k_ ?_
     have hpD:(Dk P (i,n)).nodes.Perm ((i,reS n (-1))::(Ab u++A9 ctx i)):=by rw [← hu1]; exact p1
     have okD:=Dc (pp.trans (by rw [hu1])) I.ok
     have twD:CR ((i,n)::(Ab u++A9 ctx i)):=by rw [← hu1]; exact tw
     have o2:=EK.mp fun q hq=>okD q (.tail _ hq)
     have t2:=DA.mp fun q hq=>twD q (.tail _ hq)
     refine hide fun P_ k_=> ?_
     refine Ts (Nh (q:=(i,reS n (-1))) (h:=i) hne s2 cw hu3 hu4 ndD hpD rD hu2 o2.1 o2.2 t2.1 t2.2) fun tr' g1 g2 g3 g4 g5 g6 g7 g8 r_=> ?_
     obtain ⟨_,g9⟩:=r_
     refine k_ ?_
     refine ⟨tr',I.sub hk g8.1 g8.2.1 g8.2.2.1 g8.2.2.2.1 ?_ g1 g2 g3 g4 g5 g6 (g7.trans fD) ?_⟩
     ·rw [g8.2.2.2.2]
      show P.used.erase n.slot=_
      rw [hv]
     ·rw [hu1] at qE
      exact qE.trans (g9.symm.cons _)
    ·rw [if_neg hk2]
     have kk:n.c0≠ -1∧n.c1≠ -1:=by
      unfold Fx at hk2
      constructor
      ·intro z; rw [if_pos z] at hk2; revert hk2; split <;> lia
      ·intro z; rw [if_pos z] at hk2; revert hk2; split <;> lia
     refine ⟨_,I.sub hk rfl rfl rfl rfl ?_ rD pD ndD p5 p6 (Cb p2.symm fun q hq=> ?_) fD ?_⟩
     ·show P.used.erase n.slot=_
      rw [hv]
     ·rcases List.mem_cons.mp hq with rfl | hq
      ·exact fun U=>kk
      ·exact tw q (.tail _ hq)
     ·have q1:=Bl p2
      rw [Bs,if_pos (show (i,reS n (-1)).2.slot= -1 from rfl)] at q1
      exact qE.trans (q1.symm.cons _)
end
structure Wd (σ:MS) (p pc t h:Addr) (T:TC) (H:AU) (n:Nat):Prop where
 pen:PenA σ p pc n
 ta:TA σ t T
 held:CS σ h H
 a1:¬ T.fp t p
 a2:¬ T.fp t pc
 a3:¬ T.fp t h
 a4:p≠h
 a5:pc≠h
structure Fw (p h t:Addr) (T:TC) (σ σ':MS) (T':TC):Prop where
 keep:∀ a o,σ a=some o→a≠p→a≠h→¬ T.fp t a→σ' a=some o
 new:∀ a,T'.fp t a→T.fp t a∨σ a=none
 there:∀ a,σ a≠none→σ' a≠none
theorem Fw.trans {p h t:Addr} {T T' T'':TC} {σ σ' σ'':MS} (f:Fw p h t T σ σ' T') (g:Fw p h t T' σ' σ'' T''):Fw p h t T σ σ'' T'' where
 keep a o e n1 n2 n3:=g.keep a o (f.keep a o e n1 n2 n3) n1 n2 fun c=>(f.new a c).elim n3 fun z=>by rw [z] at e; cases e
 new a c:=(g.new a c).elim (f.new a) fun z=>by
  by_cases h:σ a=none
  ·exact .inr h
  ·exact absurd z (f.there a h)
 there a e:=g.there a (f.there a e)
theorem BH.there {p:Addr} {σ σ':MS} (e:BH p σ σ') (hp:σ' p≠none) (a:Addr) (n:σ a≠none):σ' a≠none:=by
 by_cases h:a=p
 ·subst h; exact hp
 ·obtain ⟨o,ho⟩:=Option.ne_none_iff_exists'.mp n
  rw [e a o h ho]; exact fun c=>nomatch c
theorem Fw.ofP {p h t:Addr} {T:TC} {σ σ':MS} (e:BH p σ σ') (hp:σ' p≠none):Fw p h t T σ σ' T:=⟨fun a o g n U U=>e a o n g,fun U f=> .inl f,e.there hp⟩
theorem Fw.ofH {p h t:Addr} {T:TC} {σ σ':MS} (e:BH h σ σ') (hp:σ' h≠none):Fw p h t T σ σ' T:=⟨fun a o g U n U=>e a o n g,fun U f=> .inl f,e.there hp⟩
theorem Fw.ofT {p h t:Addr} {T T':TC} {σ σ':MS} (f:Fr' t T σ σ' T'):Fw p h t T σ σ' T':=⟨fun a o g U U n=>by rw [f.keep a (by rw [g]; exact fun c=>nomatch c) n,g],f.new,f.there⟩
theorem PenA.here {σ:MS} {p pc:Addr} {n:Nat} (h:PenA σ p pc n):σ p≠none∧σ pc≠none:=by
 obtain ⟨⟨_,_,_,h1,h2,_⟩⟩:=h
 rw [h1,h2]; exact ⟨(fun c=>nomatch c),(fun c=>nomatch c)⟩
theorem CS.here {σ:MS} {h:Addr} {H:AU} (k:CS σ h H):σ h≠none:=by
 obtain ⟨_,g⟩:=k
 rw [g]; exact fun c=>nomatch c
theorem TA.extB {p:Addr} {σ σ':MS} {t:Addr} {T:TC} (k:TA σ t T) (e:BH p σ σ') (n:¬ T.fp t p):TA σ' t T:=k.keeps fun a f=>by
 obtain ⟨o,ho⟩:=Option.ne_none_iff_exists'.mp (k.there f)
 rw [ho,e a o (fun c=>n (c▸f)) ho]
theorem CS.extB {p:Addr} {σ σ':MS} {h:Addr} {H:AU} (k:CS σ h H) (e:BH p σ σ') (n:h≠p):CS σ' h H:=let ⟨m,g⟩:=k; ⟨m,e _ _ n g⟩
theorem PenA.extB {q:Addr} {σ σ':MS} {p pc:Addr} {n:Nat} (h:PenA σ p pc n) (e:BH q σ σ') (n1:p≠q) (n2:pc≠q):PenA σ' p pc n:=by
 obtain ⟨⟨cells,spot,rest,h1,h2,r⟩⟩:=h
 exact ⟨⟨cells,spot,rest,e _ _ n1 h1,e _ _ n2 h2,r⟩⟩
section
variable {σ σ':MS} {p pc t h:Addr} {T T':TC} {H H':AU} {n m:Nat}
theorem Wd.ofP (W:Wd σ p pc t h T H n) (e:BH p σ σ') (k:PenA σ' p pc m):Wd σ' p pc t h T H m:=⟨k,W.ta.extB e W.a1,W.held.extB e W.a4.symm,W.a1,W.a2,W.a3,W.a4,W.a5⟩
theorem Wd.ofH (W:Wd σ p pc t h T H n) (e:BH h σ σ') (k:CS σ' h H'):Wd σ' p pc t h T H' n:=⟨W.pen.extB e W.a4 W.a5,W.ta.extB e W.a3,k,W.a1,W.a2,W.a3,W.a4,W.a5⟩
theorem Wd.ofT (W:Wd σ p pc t h T H n) (k:TA σ' t T') (f:Fr' t T σ σ' T'):Wd σ' p pc t h T' H n:=by
 obtain ⟨⟨cells,spot,rest,h1,h2,r⟩⟩:=W.pen
 obtain ⟨m,g⟩:=W.held
 have e1:σ p≠none:=by rw [h1]; exact fun c=>nomatch c
 have e2:σ pc≠none:=by rw [h2]; exact fun c=>nomatch c
 have e3:σ h≠none:=by rw [g]; exact fun c=>nomatch c
 exact ⟨⟨⟨cells,spot,rest,by rw [f.keep p e1 W.a1,h1],by rw [f.keep pc e2 W.a2,h2],r⟩⟩,k,⟨m,by rw [f.keep h e3 W.a3,g]⟩,
  (fun c=>(f.new p c).elim W.a1 e1),(fun c=>(f.new pc c).elim W.a2 e2),(fun c=>(f.new h c).elim W.a3 e3),W.a4,W.a5⟩
theorem Wd.ext (W:Wd σ p pc t h T H n) (e:Ext σ σ') (l:n≤m):Wd σ' p pc t h T H m:=⟨W.pen.ext e l,W.ta.ext e,W.held.ext e,W.a1,W.a2,W.a3,W.a4,W.a5⟩
end
section
variable {w:World} {b:Heap} (hB:BaseOk w b) {d:Nat} {σ:MS} {Q:MV→MS→Prop} {p pc t h:Addr} {T:TC} {tr:Tr} {H:AU} {size width most n:Nat}
include hB
theorem JM {size l wo:Nat} (hs:SZ size) (hl:l < 4294967296) (q:∀ σ',Ext σ σ'→Q (.bytes (BY size l wo)) σ') (hd:2≤d):WC w b d (.ref 311) [.int l,.bytes (Bg (Ch size wo))] σ Q:=by
 have hd:1≤d:=Nat.le_trans (by decide) hd
 have h8:size/8≤2:=by rcases hs with rfl | rfl <;> decide
 refine AR hB (dv:=[]) (D:=AO 31) [S "length",S "data"] ?_ hd ?_
 ·exact bd2 fun U U=>by rfl
 refine scR ?_
 refine eBi ?_
 refine cG hB ?_
 refine lV ?_
 refine lCo ?_
 refine eG hB ?_
 refine Ad ?_
 refine K9 hB (k:=4) (by decide) (fun σ' hE=> ?_) (dl (m:=2) (by assumption))
 refine cTy hB ?_
 refine Aq ?_
 refine Jy ?_
 refine QG ?_ ?_
 ·rw [BO,B2,BO,CO]; exact Nat.le_trans (Nat.add_le_add_left h8 _) (by decide)
 ·have:Bg (CD l 4)++Bg (Ch size wo)=BY size l wo:=by
   delta BY Bg u8n
   rw [List.map_append]; simp
  rw [this]
  exact q _ hE
theorem Pe (W:Wd σ p pc t h T H n) (I:Inv T.pure tr H size width most) (hn:n≤100000) (q:∀ σ' T' tr' H' n',Wd σ' p pc t h T' H' n'→n'≤n+20→Fw p h t T σ σ' T'→Inv T'.pure tr' H' size width most→Q (.bool true) σ') (hd9:9≤d) :
  NC w b d (.ref 659) [.ref p,.ref t,.ref h,.int size,.int width,.int most] σ Q:=by
 have hd:1≤d:=Nat.le_trans (by decide) hd9
 have hsz:=I.sz
 have hs16:=hsz.le
 have hwd:=I.wd
 have hmo:=I.mo
 refine Lh hB (dv:=[]) (D:=AO 50) [S "pen",S "trie",S "held",S "size",S "width",S "most"] ?_ hd ?_
 ·exact bd6 fun U U U U U U=>by rfl
 refine nsW ?_
 refine Da [S "way",S "front"] ?_
 refine eTu ?_
 refine lCo ?_
 refine cG hB ?_
 refine lV ?_
 refine lI ?_
 refine Ad ?_
 refine EE (many:=8) hB W.pen (Nat.le_of_lt (Nat.lt_of_le_of_lt hn (by decide))) (by decide) (by decide) (fun σ1 way hway hp1 hB1=> ?_) (dl hd9)
 have W1:=W.ofP hB1 hp1
 have F1:Fw p h t T σ σ1 T:=Fw.ofP hB1 hp1.here.1
 refine lCo ?_
 refine cG hB ?_
 refine Aq ?_
 refine K3 hB W1.pen (Nat.succ_le_of_lt (Nat.lt_of_le_of_lt hn (by decide))) hsz (fun σ2 l0 wo hl0 hwo hp2 hB2=> ?_) (dl hd9)
 have W2:=W1.ofP hB2 hp2
 have F2:=F1.trans (Fw.ofP hB2 hp2.here.1)
 refine Ad ?_
 refine ⟨rfl,_,rfl,rfl,?_⟩
 refine nsW ?_
 refine WS.mono (Q:=fun mf ρ σ'=>∃ l,l≤size+1∧mf= .next∧Sub [(S "pen",.ref p),(S "trie",.ref t),(S "held",.ref h),(S "size",.int size),(S "width",.int width),(S "most",.int most),(S "front",kP (l,wo)),(S "way",.int way)] ρ∧Wd σ' p pc t h T H (n+6)∧Fw p h t T σ σ' T) ?_ ?_
 ·refine sIf ?_
  refine tCm ?_
  refine cG hB ?_
  refine lV ?_
  refine lI ?_
  refine Ad ?_
  refine EE (many:=12) hB W2.pen (Nat.le_trans (Nat.add_le_add_right (Nat.add_le_add_right hn _) _) (by decide)) (by decide) (by decide) (fun σ3 r hr hp3 hB3=> ?_) (dl hd9)
  have W3:=W2.ofP hB3 hp3
  have F3:=F2.trans (Fw.ofP hB3 hp3.here.1)
  refine Ae ?_
  refine cEq ?_
  by_cases hr0:(r:Int)=0
  ·rw [if_pos (by simpa using hr0)]
   refine scA ?_
   refine eTu ?_
   refine lCo ?_
   refine eBi ?_
   refine eV ?_
   refine Ae ?_
   refine CQ ?_
   refine lCo ?_
   refine eSu ?_
   refine eV ?_
   refine Ae ?_
   refine CT (by decide) (by decide) (by rfl) ?_
   refine Ad ?_
   refine ⟨rfl,?_⟩
   refine Ai ?_
   refine Ss (size+1) (Nat.le_refl _) rfl ?_ W3 F3
   show Sub [_,_,_,_,_,_,(S "front",MV.tup [.int ((size+1:Nat):Int),.int wo]),_] _
   rw [show ((size+1:Nat):Int)=(size:Int)+1 by lia]
   exact (Sub.cons (by rfl) (Sub.cons (by rfl) (Sub.cons (by rfl) (Sub.cons (by rfl) (Sub.cons (by rfl) (Sub.cons (by rfl) (Sub.cons (by rfl) (Sub.cons (by rfl) (Sub.nil)))))))))
  ·rw [if_neg (by simpa using hr0)]
   refine Ai ?_
   exact ⟨l0,Nat.le_succ_of_le hl0,rfl,(Sub.cons (by rfl) (Sub.cons (by rfl) (Sub.cons (by rfl) (Sub.cons (by rfl) (Sub.cons (by rfl) (Sub.cons (by rfl) (Sub.cons (by rfl) (Sub.cons (by rfl) (Sub.nil))))))))),W3,F3⟩
 rintro mf ρ σ3 ⟨l,hl,rfl,hsub,W3,F3⟩
 refine NS.sub ?_ hsub
 have hl32:l < 4294967296:=Nat.lt_of_le_of_lt (Nat.le_trans hl (Nat.add_le_add_right hs16 _)) (by decide)
 refine nsW ?_
 refine Cj ?_
 refine cG hB ?_
 refine lCo ?_
 refine eSu ?_
 refine eV ?_
 refine Ae ?_
 refine CT (by decide) (by decide) (by rfl) ?_
 refine lCo ?_
 refine eSu ?_
 refine eV ?_
 refine Ae ?_
 refine CT (by decide) (by decide) (by rfl) ?_
 refine Aq ?_
 refine ES hB hsz (fun σ4 hE4=> ?_) (dl hd9)
 refine nsW ?_
 refine sIf ?_
 refine tOr ?_
 refine B0 ?_
 refine tCm ?_
 refine cG hB ?_
 refine Aq ?_
 refine CP hB hsz hl32 hwo (fun σ5 hE5=> ?_) (dl hd9)
 refine eV ?_
 refine kNe ?_ (by show 1≤8*(d-1); exact n8 hd9) (by rfl) (by rfl) (fun z=>⟨(fun c=>nomatch c),(fun c=>nomatch c)⟩)
 rw [show eqM (.tup [.int l,.int wo]) (kP (l,wo))=true from Cq _ (by rfl),if_neg (by decide)]
 refine B0 ?_
 refine tCm ?_
 refine cG hB ?_
 refine lCo ?_
 refine eSu ?_
 refine eV ?_
 refine Ae ?_
 refine CT (by decide) (by decide) (by rfl) ?_
 refine lCo ?_
 refine Gk FB.slot_bytes_getitem.lookup ?_
 refine eV ?_
 refine IA ?_
 refine Ae ?_
 refine IB ?_
 refine Mu (a:=4) (by rw [DE]; exact Nat.le_trans (Nat.add_le_add_left (Nat.div_le_div_right hs16) _) (by decide)) ?_
 rw [EO]
 refine Ad ?_
 refine JM hB hsz hl32 (fun σ6 hE6=> ?_) (dl hd9)
 have hE36:=(hE4.trans hE5).trans hE6
 have W6:=W3.ext hE36 (Nat.le_refl _)
 have F6:=F3.trans (Fw.ofT (Fr'.ext hE36))
 refine eV ?_
 refine kNe ?_ (by show 0≤8*(d-1); exact Nat.le_add_left _ _) (by rfl) (by rfl) (fun z=>⟨(fun c=>nomatch c),(fun c=>nomatch c)⟩)
 rw [Cq _ (by rfl),if_neg (by decide)]
 refine Hj ?_
 rw [if_neg (by decide)]
 refine Ai ?_
 refine AZ ?_
 refine Jd ?_
 refine WB.n ?_
 refine tCm ?_
 refine eV ?_
 refine Ae ?_
 refine cLt ?_
 by_cases hw4:(way:Int) < 4
 ·rw [if_pos (decide_eq_true hw4)]
  refine nsW ?_
  refine Da [S "octets",S "flags"] ?_
  refine eTu ?_
  refine lCo ?_
  refine cTy hB ?_
  refine lCo ?_
  refine CH [(S "pen",.ref p)] ?_ (Sub.cons (by rfl) (Sub.nil))
  refine cTy hB ?_
  refine Aq ?_
  refine CE fun c hc=> ?_
  have hE7:Ext σ6 (σ6.set c (.rng (width:Int))):=Ext.new hc
  have W7:=W6.ext hE7 (Nat.le_refl _)
  have F7:=F6.trans (Fw.ofT (Fr'.ext hE7))
  refine ⟨fun U=>True,(List.range width).map (fun i:Nat=>MV.int i),fun i out σ'=>∃ xs:List Int,out=xs.map .int∧xs.length=i∧(∀ x∈xs,0≤x∧x < 256)∧Wd σ' p pc t h T H (n+6+i)∧Fw p h t T σ σ' T,by simp; exact Nat.le_of_lt (Nat.lt_of_le_of_lt hwd.2 (by decide)),DX (MS.set_self ..) (Nat.le_of_lt (Nat.lt_of_le_of_lt hwd.2 (by decide))),trivial,⟨[],rfl,rfl,(fun x hx=>nomatch hx),W7,F7⟩,?_,?_⟩
  ·rintro i v out σ8 hv ⟨xs,rfl,hxl,hxs,W8,F8⟩ _
   obtain ⟨hi,rfl⟩:=Bc hv
   refine ctK ?_
   refine cG hB ?_
   refine lV ?_
   refine lI ?_
   refine Ad ?_
   refine EE (many:=256) hB W8.pen (Nat.le_trans (Nat.add_le_add (Nat.add_le_add_right hn _) (Nat.le_of_lt (Nat.lt_of_lt_of_le hi hwd.2))) (by decide)) (by decide) (by decide) (fun σ9 r hr hp9 hB9=> ?_) (dl hd9)
   refine ⟨trivial,xs++[(r:Int)],by rw [List.map_append]; rfl,by simp [hxl],?_,W8.ofP hB9 hp9,F8.trans (Fw.ofP hB9 hp9.here.1)⟩
   intro x hx
   rcases List.mem_append.mp hx with hx | hx
   ·exact hxs x hx
   ·rw [List.mem_singleton.mp hx]; exact And.intro (Int.natCast_nonneg _) (Int.ofNat_lt.mpr hr)
  rintro out σ8 ⟨xs,rfl,hxl,hxs,W8,F8⟩ _ a ha
  rw [List.length_map,List.length_range] at hxl W8
  have hE9:Ext σ8 (σ8.set a (.list (xs.map .int))):=Ext.new ha
  have W9:=W8.ext hE9 (Nat.le_refl _)
  have F9:=F8.trans (Fw.ofT (Fr'.ext hE9))
  refine Ad ?_
  refine GU (MS.set_self ..) hxs (Nat.le_trans (Nat.le_trans (Nat.le_of_eq hxl) hwd.2) (by decide)) ?_
  have hxz:((u8s xs).toArray).size=width:=by simp [u8s,hxl]
  generalize (u8s xs).toArray=x at hxz
  refine lCo ?_
  refine cG hB ?_
  refine lV ?_
  refine lCo ?_
  refine BW ?_
  refine lI ?_
  refine lI ?_
  refine lI ?_
  refine lI ?_
  refine lI ?_
  refine lI ?_
  refine Ad ?_
  refine ⟨rfl,fun c2 hc2=> ?_⟩
  have hE10:=Ext.new (o:= .list [.int 0,.int 0,.int 0,.int 1,.int 2,.int 3]) hc2
  have W10:=W9.ext hE10 (Nat.le_refl _)
  have F10:=F9.trans (Fw.ofT (Fr'.ext hE10))
  refine Ad ?_
  have hcp:c2≠p:=fun e=>W9.pen.here.1 (e▸hc2)
  refine JJ hB W10.pen (Nat.le_trans (Nat.add_le_add (Nat.add_le_add_right hn _) (Nat.le_trans (Nat.le_of_eq (Eq.symm hxz)) (Nat.le_trans (Nat.le_of_eq hxz) hwd.2))) (by decide)) (MS.set_self ..) hcp (by decide) (by decide) (fun σ11 r y hy hp11 hB11=> ?_) (dl hd9)
  have W11:=W10.ofP hB11 hp11
  have F11:=F10.trans (Fw.ofP hB11 hp11.here.1)
  have hyi:∃ f:Int,y= .int f:=by
   rcases r with _ | _ | _ | _ | _ | _ | r
   ·exact ⟨_,(Option.some.inj hy).symm⟩
   ·exact ⟨_,(Option.some.inj hy).symm⟩
   ·exact ⟨_,(Option.some.inj hy).symm⟩
   ·exact ⟨_,(Option.some.inj hy).symm⟩
   ·exact ⟨_,(Option.some.inj hy).symm⟩
   ·exact ⟨_,(Option.some.inj hy).symm⟩
   ·cases hy
  obtain ⟨f,rfl⟩:=hyi
  refine Ad ?_
  refine ⟨rfl,_,rfl,rfl,?_⟩
  have hA11:=W11.ta
  refine Qe I.lens fun hwt hnl hfl hul hvl hHl=> ?_
  have hul':T.used.length≤6:=hul
  have hvl':T.vals.length≤6:=by simpa [TC.pure] using hvl
  have hwid:Wid T size:=⟨hsz,I.kw⟩
  refine AZ ?_
  refine RT ?_
  refine RX ?_
  refine DS ?_
  refine eV ?_
  refine Bq _ _ (mFn hB (f:=495) hA11.self) (AW hB (by rfl)) ?_
  refine nlW ?_
  refine eV ?_
  refine nlW ?_
  refine eV ?_
  refine nlW ?_
  refine eV ?_
  refine WL.n (Ad ?_)
  refine Pd hB hA11 hwid I.shp hl32 hwo (x:=x) (by rw [hxz]; exact I.vw.symm) (Nat.le_trans (Nat.le_trans (Nat.le_of_eq hxz) hwd.2) (by decide)) (fun s y hy=>by rw [I.vsz s y hy,hxz]) (Nat.le_of_lt (Nat.lt_of_le_of_lt hvl' (by decide))) (Nat.le_of_lt (Nat.lt_of_le_of_lt hul' (by decide))) (Nat.le_of_lt (Nat.lt_of_le_of_lt hnl (by decide))) (Nat.le_of_lt (Nat.lt_of_le_of_lt hfl (by decide))) (fun hl he=>I.insOk hwo hl he) (fun σ12 T12 hA12 hF12 hP12=> ?_) (dl hd9)
  have W12:=W11.ofT hA12 hF12
  have F12:=F11.trans (Fw.ofT hF12)
  obtain ⟨eu,tr',hI⟩:=I.upd (l:=l) hwo hxz f
  refine cG hB ?_
  refine Aq ?_
  refine JR hB W12.held I.hok (Nat.le_of_lt (Nat.lt_of_le_of_lt hmo.2 (by decide))) hsz hwo (fun σ13 hH13 hB13=> ?_) (dl hd9)
  have W13:=W12.ofH hB13 hH13
  have F13:=F12.trans (Fw.ofH hB13 hH13.here)
  refine kEq ?_ (by show 0≤8*(d-1); exact Nat.le_add_left _ _) (by rfl) (by rfl)
  rw [eu,Cq _ (by rfl)]
  rw [← hP12] at hI
  exact q _ _ _ _ _ W13 (by lia) F13 hI
 rw [if_neg (by simpa using hw4)]
 refine WS.n ?_
 refine WS.mono (Q:=fun mf ρ σ'=>mf= .next∧ρ=_∧σ'=σ6) (Ai ⟨rfl,rfl,rfl⟩) ?_
 rintro mf ρ σ6 ⟨rfl,rfl,rfl⟩
 have hA6:=W6.ta
 refine Qe I.lens fun hwt hnl hfl hul hvl hHl=> ?_
 have hul':T.used.length≤6:=hul
 have hwid:Wid T size:=⟨hsz,I.kw⟩
 have hnd:=Ce I.hok.nd
 have hkl:(AJ H).length=H.length:=by simp [AJ]
 refine nsW ?_
 refine sIf ?_
 refine tCm ?_
 refine eV ?_
 refine Ae ?_
 refine cLt ?_
 by_cases hw6:(way:Int) < 6
 ·rw [if_pos (decide_eq_true hw6)]
  refine sCo ?_
  refine WS.mono (Q:=fun mf ρ σ'=>mf= .next∧Sub [(S "trie",.ref t),(S "held",.ref h),(S "key",.bytes (BY size l wo)),(S "one",if l≤size then kP (l,cut size wo l) else .none)] ρ∧σ'=σ6) ?_ ?_
  ·refine Cj ?_
   refine eIf ?_
   refine tCm ?_
   refine eSu ?_
   refine eV ?_
   refine Ae ?_
   refine CT (by decide) (by decide) (by rfl) ?_
   refine eV ?_
   refine cLe ?_
   by_cases hls:l≤size
   ·rw [if_pos (decide_eq_true (Int.ofNat_le.mpr hls)),if_pos hls]
    refine cG hB ?_
    refine lCo ?_
    refine eSu ?_
    refine eV ?_
    refine Ae ?_
    refine CT (by decide) (by decide) (by rfl) ?_
    refine lCo ?_
    refine eSu ?_
    refine eV ?_
    refine Ae ?_
    refine CT (by decide) (by decide) (by rfl) ?_
    refine Aq ?_
    refine Go hB hls hs16 hwo hsz.bd ?_ (dl hd9)
    exact Cv rfl (Sub.cons (by rfl) (Sub.cons (by rfl) (Sub.cons (by rfl) (Sub.cons (by rfl) (Sub.nil))))) rfl
   ·rw [if_neg (by simp; exact Nat.lt_of_not_le hls),if_neg hls]
    refine Ea ?_
    exact Cv rfl (Sub.cons (by rfl) (Sub.cons (by rfl) (Sub.cons (by rfl) (Sub.cons (by rfl) (Sub.nil))))) rfl
  rintro mf ρ σ6 ⟨rfl,hsb,rfl⟩
  refine WS.sub ?_ hsb
  obtain ⟨m0,g0⟩:=W6.held
  have hisn:isNone (if l≤size then kP (l,cut size wo l) else .none)=decide (size < l):=by
   by_cases hls:l≤size
   ·rw [if_pos hls,decide_eq_false (Nat.not_lt_of_le hls)]; rfl
   ·rw [if_neg hls,decide_eq_true (Nat.lt_of_not_le hls)]; rfl
  have hpl:DQ (if l≤size then kP (l,cut size wo l) else .none)=true:=by split <;> rfl
  have hpk:l≤size→(if l≤size then kP (l,cut size wo l) else MV.none)=kT (pfx (l,cut size wo l)):=fun h=>by rw [if_pos h]; rfl
  generalize hone:(if l≤size then kP (l,cut size wo l) else MV.none)=one at hisn hpl hpk ⊢
  refine sCo ?_
  refine WS.mono (Q:=fun mf ρ σ'=>mf= .next∧Sub [(S "trie",.ref t),(S "held",.ref h),(S "key",.bytes (BY size l wo)),(S "one",one),(S "due",.int (Ef H size l wo).2)] ρ∧σ'=σ6) ?_ ?_
  ·refine Cj ?_
   refine eIf ?_
   refine tCm ?_
   refine eV ?_
   refine Ea ?_
   refine kIs hpl ?_
   rw [hisn]
   by_cases hls:size < l
   ·rw [if_pos (decide_eq_true hls)]
    have e:(Ef H size l wo).2= -22:=by unfold Ef; rw [if_pos hls]
    rw [e]
    refine eUn ?_
    refine Ae ?_
    refine DP ?_
    exact Cv rfl (Sub.cons (by rfl) (Sub.cons (by rfl) (Sub.cons (by rfl) (Sub.cons (by rfl) (Sub.cons (by rfl) (Sub.nil)))))) rfl
   ·rw [if_neg (by simpa using hls)]
    rw [hpk (Nat.le_of_not_lt hls)]
    refine eIf ?_
    refine tCm ?_
    refine eV ?_
    refine eV ?_
    refine PW (f:=kT) (k:=pfx (l,cut size wo l)) Cn hB g0 ?_ hnd (dl hd9)
    rw [DU,Option.isSome_map]
    by_cases hin:(H.lookup (l,cut size wo l)).isSome=true
    ·rw [if_pos hin]
     have e:(Ef H size l wo).2=0:=by unfold Ef; rw [if_neg hls,if_pos hin]
     rw [e]
     refine Ae ?_
     exact Cv rfl (Sub.cons (by rfl) (Sub.cons (by rfl) (Sub.cons (by rfl) (Sub.cons (by rfl) (Sub.cons (by rfl) (Sub.nil)))))) rfl
    ·rw [if_neg hin]
     have e:(Ef H size l wo).2= -2:=by unfold Ef; rw [if_neg hls,if_neg hin]
     rw [e]
     refine eUn ?_
     refine Ae ?_
     refine DP ?_
     exact Cv rfl (Sub.cons (by rfl) (Sub.cons (by rfl) (Sub.cons (by rfl) (Sub.cons (by rfl) (Sub.cons (by rfl) (Sub.nil)))))) rfl
  rintro mf ρ σ6 ⟨rfl,hsb,rfl⟩
  refine WS.sub ?_ hsb
  generalize hdue:(Ef H size l wo).2=due
  refine sCo ?_
  refine WS.mono (Q:=fun mf ρ σ'=>mf= .next∧Sub [(S "trie",.ref t),(S "key",.bytes (BY size l wo)),(S "due",.int due)] ρ∧Wd σ' p pc t h T (Ef H size l wo).1 (n+6)∧Fw p h t T σ σ' T) ?_ ?_
  ·refine sIf ?_
   refine tCm ?_
   refine eV ?_
   refine Ae ?_
   refine cEq ?_
   by_cases hd0:due=0
   ·rw [if_pos (by simp [hd0])]
    have hls:¬ size < l:=fun c=>by rw [← hdue] at hd0; unfold Ef at hd0; rw [if_pos c] at hd0; exact absurd (show (-22:Int)=0 from hd0) (by decide)
    have hin:(H.lookup (l,cut size wo l)).isSome=true:=by
     by_cases c:(H.lookup (l,cut size wo l)).isSome=true
     ·exact c
     ·rw [← hdue] at hd0; unfold Ef at hd0; rw [if_neg hls,if_neg c] at hd0; exact absurd (show (-2:Int)=0 from hd0) (by decide)
    obtain ⟨v0,hv0⟩:=Option.isSome_iff_exists.mp hin
    have e:(Ef H size l wo).1=Gg H (l,cut size wo l):=by unfold Ef; rw [if_neg hls,if_pos hin]
    rw [hpk (Nat.le_of_not_lt hls),e]
    have hlk2: @List.lookup (Int×Int) MV instBEqOfDecidableEq (pfx (l,cut size wo l)) (AJ H)=some (Fc v0):=by rw [DU,hv0]; rfl
    refine scE ?_
    refine eMe ?_
    refine eV ?_
    refine Bq _ _ (Qz g0) (Ar _) ?_
    refine Aq ?_
    refine QC (f:=kT) (k:=pfx (l,cut size wo l)) Cn g0 (by rw [hkl]; exact Nat.le_of_lt (Nat.lt_of_le_of_lt hHl (by decide))) hlk2 ?_ hnd (dl hd9)
    rw [OS]
    refine Ai ?_
    have hH7:CS (σ6.set h (.dict (asE kT (AJ (Gg H (l,cut size wo l)))) (m0+1))) h (Gg H (l,cut size wo l)):=⟨_,MS.set_self ..⟩
    exact JB rfl (Sub.cons (by rfl) (Sub.cons (by rfl) (Sub.cons (by rfl) (Sub.nil)))) (W6.ofH BH.set hH7) (F6.trans (Fw.ofH BH.set hH7.here))
   ·rw [if_neg (by simpa using hd0)]
    have e:(Ef H size l wo).1=H:=by
     rw [← hdue] at hd0
     unfold Ef at hd0 ⊢
     by_cases hls:size < l
     ·rw [if_pos hls]
     ·rw [if_neg hls] at hd0 ⊢
      by_cases hin:(H.lookup (l,cut size wo l)).isSome=true
      ·rw [if_pos hin] at hd0; exact absurd rfl hd0
      ·rw [if_neg hin]
    rw [e]
    refine Ai ?_
    exact JB rfl (Sub.cons (by rfl) (Sub.cons (by rfl) (Sub.cons (by rfl) (Sub.nil)))) W6 F6
  rintro mf ρ σ7 ⟨rfl,hsb,W7,F7⟩
  refine WS.sub ?_ hsb
  have hA7:=W7.ta
  refine Br (I.del (l:=l) hwo) fun tr1 hdel eu r_=> ?_
  obtain ⟨tr',hI⟩:=r_
  refine scR ?_
  refine eCm ?_
  refine cM hB (f:=509) TA.s ?_
  refine Aq ?_
  refine Ph hB hA7 hwid I.shp hl32 hwo (tr1:=tr1) hdel I.keys (Nat.le_of_lt (Nat.lt_of_le_of_lt hnl (by decide))) (Nat.le_of_lt (Nat.lt_of_le_of_lt hfl (by decide))) (Nat.le_of_lt (Nat.lt_of_le_of_lt hul' (by decide))) (fun σ8 T8 hA8 hF8 hP8=> ?_) (dl hd9)
  refine eV ?_
  refine kEq ?_ (by show 0≤8*(d-1); exact Nat.le_add_left _ _) (by rfl) (by rfl)
  rw [eu,hdue,Cq _ (by rfl)]
  rw [← hP8] at hI
  exact q _ _ _ _ _ (W7.ofT hA8 hF8) (Nat.add_le_add_left (by decide) _) (F7.trans (Fw.ofT hF8)) hI
 rw [if_neg (by simpa using hw6)]
 refine Ai ?_
 refine nsW ?_
 refine QP ?_
 refine eCm ?_
 refine cM hB (f:=438) TA.s ?_
 refine Aq ?_
 refine K8 hB hA6 hwid I.shp hl32 hwo (fun σ7 hE7=> ?_) (dl hd9)
 have W7:=W6.ext hE7 (Nat.le_refl _)
 refine cG hB ?_
 refine Aq ?_
 refine FP hB W7.held I.hok (Nat.le_of_lt (Nat.lt_of_le_of_lt hmo.2 (by decide))) hsz hwo ?_ (dl hd9)
 have hsp:∀ o:Option Int,shp (EV o) (EV o)=true:=fun o=>by cases o <;> rfl
 rw [I.look hwo]
 refine kEq ?_ (by cases (CN H size l wo).1 <;> exact Nat.zero_le _) (hsp _) (hsp _)
 rw [Cq _ (hsp _)]
 exact q _ _ _ _ _ W7 (Nat.add_le_add_left (by decide) _) (F6.trans (Fw.ofT (Fr'.ext hE7))) I
end
structure Side (σ:MS) (p h t:Addr) (T:TC) (t2:Addr) (T2:TC) (h2:Addr) (H2:AU):Prop where
 ta:TA σ t2 T2
 held:CS σ h2 H2
 ap:∀ a,T2.fp t2 a∨a=h2→a≠p∧a≠h∧¬ T.fp t a
theorem Side.turn {σ σ':MS} {p h t t2 h2:Addr} {T T' T2:TC} {H2:AU} (S:Side σ p h t T t2 T2 h2 H2) (F:Fw p h t T σ σ' T'):Side σ' p h t T' t2 T2 h2 H2:=by
 obtain ⟨m,g⟩:=S.held
 refine ⟨S.ta.keeps fun a f=> ?_,⟨m,?_⟩,fun a f=> ?_⟩
 ·obtain ⟨o,ho⟩:=Option.ne_none_iff_exists'.mp (S.ta.there f)
  refine CG (S.ap a (.inl f)) fun n1 n2 n3=> ?_
  rw [F.keep a o ho n1 n2 n3,ho]
 ·refine CG (S.ap h2 (.inr rfl)) fun n1 n2 n3=> ?_
  exact F.keep _ _ g n1 n2 n3
 ·refine CG (S.ap a f) fun n1 n2 n3=> ?_
  refine Cv n1 n2 (fun c=>(F.new a c).elim n3 fun z=> ?_)
  rcases f with f | rfl
  ·exact S.ta.there f z
  ·rw [g] at z; cases z
theorem Side.ext {σ σ':MS} {p h t t2 h2:Addr} {T T2:TC} {H2:AU} (S:Side σ p h t T t2 T2 h2 H2) (e:Ext σ σ'):Side σ' p h t T t2 T2 h2 H2:=⟨S.ta.ext e,S.held.ext e,S.ap⟩
section
variable {w:World} {b:Heap} (hB:BaseOk w b) {d:Nat} {σ:MS} {Q:MV→MS→Prop}
include hB
theorem SK {ns:List Int} (hn:ns.length≤63) (q:∀ σ',Q (.bool true) σ') (hd12:12≤d):NC w b d (.ref 666) [.flist (ns.map .int)] σ Q:=by
 have hd:1≤d:=Nat.le_trans (by decide) hd12
 refine Lh hB (dv:=[]) (D:=AO 51) [S "script"] ?_ hd ?_
 ·exact bd1 fun U=>by rfl
 refine nsW ?_
 refine Cj ?_
 refine cG hB ?_
 refine Aq ?_
 refine SJ hB hn (fun σ1 p pc hE1 hp0 hpc0 hpp hp1=> ?_) (dl hd12)
 refine nsW ?_
 refine Da [S "size",S "width",S "most"] ?_
 refine eTu ?_
 refine lCo ?_
 refine cG hB ?_
 refine lV ?_
 refine lCo ?_
 refine BW ?_
 refine lI ?_
 refine lI ?_
 refine Ad ?_
 refine ⟨rfl,fun c2 hc2=> ?_⟩
 have hE2:=Ext.new (o:= .list [.int 8,.int 16]) hc2
 have hcp:c2≠p:=fun e=>hp1.here.1 (e▸hc2)
 refine Ad ?_
 refine JJ hB (hp1.ext hE2 (Nat.le_refl _)) (by decide) (MS.set_self ..) hcp (by decide) (by decide) (fun σ3 r y hy hp3 hB3=> ?_) (dl hd12)
 have hys:∃ size:Nat,SZ size∧y= .int size:=by
  rcases r with _ | _ | r
  ·exact AQ 8 (.inl rfl) ((Option.some.inj hy).symm)
  ·exact AQ 16 (.inr rfl) ((Option.some.inj hy).symm)
  ·cases hy
 refine Af hys fun size hsz e_2=> ?_
 subst e_2
 refine lCo ?_
 refine eBi ?_
 refine Ae ?_
 refine cG hB ?_
 refine lV ?_
 refine lI ?_
 refine Ad ?_
 refine EE (many:=2) hB hp3 (by decide) (by decide) (by decide) (fun σ4 r1 hr1 hp4 hB4=> ?_) (dl hd12)
 refine CQ ?_
 refine lCo ?_
 refine eBi ?_
 refine Ae ?_
 refine cG hB ?_
 refine lV ?_
 refine lI ?_
 refine Ad ?_
 refine EE (many:=5) hB hp4 (by decide) (by decide) (by decide) (fun σ5 r2 hr2 hp5 hB5=> ?_) (dl hd12)
 refine CQ ?_
 refine Ad ?_
 refine ⟨rfl,_,rfl,rfl,?_⟩
 obtain ⟨width,hwe⟩:∃ width,width=1+r1:=⟨_,rfl⟩
 obtain ⟨most,hme⟩:∃ most,most=2+r2:=⟨_,rfl⟩
 rw [show (1:Int)+(r1:Nat)=(width:Nat) by rw [hwe]; rfl,show (2:Int)+(r2:Nat)=(most:Nat) by rw [hme]; rfl]
 have hs16:=hsz.le
 refine nsW ?_
 refine Da [S "trie",S "held"] ?_
 refine eTu ?_
 refine lCo ?_
 refine KO ?_
 refine eG hB ?_
 refine Cu _ rfl (EP hB (by rfl)) ?_
 refine lI ?_
 refine lCo ?_
 refine eBi ?_
 refine Ae ?_
 refine eBi ?_
 refine eV ?_
 refine Ae ?_
 refine GN ?_ (by decide) (by decide)
 rw [show (8:Int)=((8:Nat):Int) from rfl,AY]
 refine CQ ?_
 refine Aq ?_
 rw [show (4:Int)+((size/8:Nat):Int)=((4+size/8:Nat):Int) from rfl]
 have h8:size/8=1∨size/8=2:=by rcases hsz with rfl | rfl <;> decide
 refine GC hB (by lia) (il (Nat.add_le_add_left (Nat.div_le_div_right hs16) _)) (by lia) (Nat.le_trans (Nat.le_trans (Nat.le_of_eq hwe) (Nat.add_le_add_left (Nat.le_of_lt hr1) _)) (by decide)) (by lia) (Nat.le_trans (Nat.le_trans (Nat.le_of_eq hme) (Nat.add_le_add_left (Nat.le_of_lt hr2) _)) (by decide)) (fun σ6 t T hE6 hA6 hP6 hN6=> ?_) (dl hd12)
 refine lCo ?_
 refine JE fun h hh=> ?_
 refine Ad ?_
 refine ⟨rfl,_,rfl,rfl,?_⟩
 have hE7:=Ext.new (o:= .dict [] 0) hh
 have hp6:=hp5.ext hE6 (Nat.le_refl _)
 have W7:Wd (σ6.set h (.dict [] 0)) p pc t h T [] 3:=by
  refine ⟨hp6.ext hE7 (by decide),hA6.ext hE7,⟨0,MS.set_self ..⟩,fun c=>hp5.here.1 (hN6 _ c),fun c=>hp5.here.2 (hN6 _ c),fun c=>hA6.there c hh,fun e=>hp6.here.1 (e▸hh),fun e=>hp6.here.2 (e▸hh)⟩
 have I7:Inv T.pure .nil [] size width most:=by rw [hP6]; exact Inv.init hsz (by lia) (by lia)
 generalize σ6.set h (MO.dict [] 0)=σ7 at W7 ⊢
 clear hE7 hh hp6 hA6 hN6 hE6 hP6
 refine AZ ?_
 refine LD ?_
 refine cTy hB ?_
 refine lI ?_
 refine Ad ?_
 refine CE fun c hc=> ?_
 have hE8:Ext σ7 (σ7.set c (.rng (16:Int))):=Ext.new hc
 have gr8:(σ7.set c (.rng ((16:Nat):Int))) c=some (.rng ((16:Nat):Int)):=MS.set_self ..
 refine ⟨fun U=>True,(List.range 16).map (fun i:Nat=>MV.int i),fun i ρ σ'=>ρ=[(S "pen",.ref p),(S "trie",.ref t),(S "held",.ref h),(S "size",.int size),(S "width",.int width),(S "most",.int most)]∧∃ T tr H n,Wd σ' p pc t h T H n∧n≤100*i+10∧Inv T.pure tr H size width most,DX gr8 (by decide),trivial,⟨_,(Sub.cons (by rfl) (Sub.cons (by rfl) (Sub.cons (by rfl) (Sub.cons (by rfl) (Sub.cons (by rfl) (Sub.cons (by rfl) (Sub.nil))))))),rfl,T,.nil,[],3,W7.ext hE8 (Nat.le_refl _),by decide,I7⟩,?_,?_⟩
 ·rintro i v ρ σ9 hv ⟨rfl,T,tr,H,n,W9,hn9,I9⟩ _
  obtain ⟨hi,rfl⟩:=Bc hv
  refine AZ ?_
  refine Jd ?_
  refine SV (Os (Qv (Qu ?_)))
  refine Ji ?_
  refine eG hB ?_
  refine Cu _ rfl (AW hB (by rfl)) ?_
  refine nlW ?_
  refine eV ?_
  refine nlW ?_
  refine eV ?_
  refine nlW ?_
  refine eV ?_
  refine nlW ?_
  refine eV ?_
  refine nlW ?_
  refine eV ?_
  refine nlW ?_
  refine eV ?_
  refine WL.n (Ad ?_)
  refine Pe hB W9 I9 (Nat.le_trans (Nat.le_trans hn9 (Nat.add_le_add_right (Nat.mul_le_mul_left _ (Nat.le_of_lt hi)) _)) (by decide)) (fun σ10 T' tr' H' n' W10 hn10 F10 I10=> ?_) (dl hd12)
  refine AQ true rfl ?_
  refine B7 (by decide) ?_
  refine Os ?_
  refine Qe I10.lens fun hwt hnl hfl hul hvl hHl=> ?_
  have hnl':T'.nodes.length≤11:=by simpa [TC.pure] using hnl
  refine WB.n ?_
  refine H6 ?_
  refine GH ?_
  refine cG hB ?_
  refine Aq ?_
  refine FN hB W10.ta ⟨hsz,I10.kw⟩ I10.shp (Nat.le_of_lt (Nat.lt_of_le_of_lt hwt (by decide))) (Nat.le_of_lt (Nat.lt_of_le_of_lt hnl' (by decide))) I10.right I10.hok (Nat.le_trans (Nat.le_trans (Nat.le_of_eq hme) (Nat.add_le_add_left (Nat.le_of_lt hr2) _)) (by decide)) W10.held (fun σ11 hE11=> ?_) (dl hd12)
  refine AQ true rfl ?_
  refine B7 (by decide) ?_
  refine WB.n ?_
  refine Hj ?_
  refine B7 (by decide) ?_
  refine WS.n ?_
  refine Ai ?_
  refine WS.n ?_
  refine Ai ?_
  exact ⟨trivial,_,(Sub.cons (by rfl) (Sub.cons (by rfl) (Sub.cons (by rfl) (Sub.cons (by rfl) (Sub.cons (by rfl) (Sub.cons (by rfl) (Sub.nil))))))),rfl,T',tr',H',n',W10.ext hE11 (Nat.le_refl _),by lia,I10⟩
 rintro ρ σ8 ⟨rfl,T,tr,H,n,W8,hn8,I8⟩ _
 rw [List.length_map,List.length_range] at hn8
 refine Qe I8.lens fun hwt hnl hfl hul hvl hHl=> ?_
 have hnl':T.nodes.length≤11:=by simpa [TC.pure] using hnl
 have hvl':T.vals.length≤6:=by simpa [TC.pure] using hvl
 have hul':T.used.length≤6:=hul
 have hfl':T.free.length≤11:=hfl
 have hwid:Wid T size:=⟨hsz,I8.kw⟩
 refine nsW ?_
 refine sIf ?_
 refine H6 ?_
 refine GH ?_
 refine cG hB ?_
 refine Aq ?_
 refine JP hB W8.ta hwid I8.shp (Nat.le_of_lt (Nat.lt_of_le_of_lt hwt (by decide))) I8.agr W8.held (fun σ9 hE9=> ?_) (dl hd12)
 refine AQ true rfl ?_
 refine B7 (by decide) ?_
 have W9:=W8.ext hE9 (Nat.le_refl _)
 refine Ai ?_
 refine nsW ?_
 refine EZ ?_
 refine cTy hB ?_
 refine lI ?_
 refine Ad ?_
 refine CE fun c hc=> ?_
 have hE10:Ext σ9 (σ9.set c (.rng (3:Int))):=Ext.new hc
 have gr10:(σ9.set c (.rng ((3:Nat):Int))) c=some (.rng ((3:Nat):Int)):=MS.set_self ..
 refine ⟨fun U=>True,(List.range 3).map (fun i:Nat=>MV.int i),fun i ρ σ'=>ρ=[(S "pen",.ref p),(S "trie",.ref t),(S "held",.ref h),(S "size",.int size),(S "width",.int width),(S "most",.int most)]∧∃ m,Wd σ' p pc t h T H m∧m≤3000+10*i,DX gr10 (by decide),trivial,⟨_,(Sub.cons (by rfl) (Sub.cons (by rfl) (Sub.cons (by rfl) (Sub.cons (by rfl) (Sub.cons (by rfl) (Sub.cons (by rfl) (Sub.nil))))))),rfl,n,W9.ext hE10 (Nat.le_refl _),Nat.le_of_lt (Nat.lt_of_le_of_lt hn8 (by decide))⟩,?_,?_⟩
 ·rintro i v ρ σ11 hv ⟨rfl,m,W11,hm11⟩ _
  obtain ⟨hi,rfl⟩:=Bc hv
  refine scA ?_
  refine cG hB ?_
  refine Aq ?_
  refine K3 hB W11.pen (Nat.le_trans (Nat.le_trans hm11 (Nat.add_le_add_left (Nat.mul_le_mul_left _ (Nat.le_of_lt hi)) _)) (by decide)) hsz (fun σ12 l wo hl hwo hp12 hB12=> ?_) (dl hd12)
  have W12:=W11.ofP hB12 hp12
  have hA12:=W12.ta
  refine scI ?_
  refine tCm ?_
  refine cM hB (f:=438) TA.s ?_
  refine lCo ?_
  refine cG hB ?_
  refine lCo ?_
  refine eSu ?_
  refine eV ?_
  refine Ae ?_
  refine CT (by decide) (by decide) (by rfl) ?_
  refine lCo ?_
  refine eSu ?_
  refine eV ?_
  refine Ae ?_
  refine CT (by decide) (by decide) (by rfl) ?_
  refine Aq ?_
  refine ES hB hsz (fun σ13 hE13=> ?_) (dl hd12)
  have W13:=W12.ext hE13 (Nat.le_refl _)
  refine Ad ?_
  refine K8 hB W13.ta hwid I8.shp (Nat.lt_of_le_of_lt (Nat.le_trans hl hs16) (by decide)) hwo (fun σ14 hE14=> ?_) (dl hd12)
  have W14:=W13.ext hE14 (Nat.le_refl _)
  refine cG hB ?_
  refine Aq ?_
  refine FP hB W14.held I8.hok (Nat.le_trans (Nat.le_trans (Nat.le_of_eq hme) (Nat.add_le_add_left (Nat.le_of_lt hr2) _)) (by decide)) hsz hwo ?_ (dl hd12)
  have hsp:∀ o:Option Int,shp (EV o) (EV o)=true:=fun o=>by cases o <;> rfl
  have hnb:∀ (o:Option Int) z,EV o≠ .bytes z:=fun o z c=>by cases o <;> cases c
  rw [I8.look hwo]
  refine kNe ?_ (by cases (CN H size l wo).1 <;> exact Nat.zero_le _) (hsp _) (hsp _) (fun z=>⟨fun U=>hnb _ _,fun U=>hnb _ _⟩)
  refine B7 (by rw [Cq _ (hsp _)]; exact (by decide)) ?_
  refine Ai ?_
  refine Ai ?_
  exact ⟨trivial,_,(Sub.cons (by rfl) (Sub.cons (by rfl) (Sub.cons (by rfl) (Sub.cons (by rfl) (Sub.cons (by rfl) (Sub.cons (by rfl) (Sub.nil))))))),rfl,_,W14,by lia⟩
 rintro ρ σ10 ⟨rfl,m,W10,hm10⟩ _
 rw [List.length_map,List.length_range] at hm10
 refine AZ ?_
 refine PQ [S "twin",S "kept"] ?_
 refine RW (LF ?_)
 refine DS ?_
 refine eV ?_
 refine Bq _ _ (mFn hB (f:=582) W10.ta.self) (AW hB (by rfl)) ?_
 refine WL.n (Ad ?_)
 have ekw:T.kw=((4+size/8:Nat):Int):=I8.kw
 refine Rt hB W10.ta (vw:=width) (most:=most) (by lia) (by lia) I8.vw I8.pmost (by lia) (Nat.le_trans (Nat.le_trans (Nat.le_of_eq hwe) (Nat.add_le_add_left (Nat.le_of_lt hr1) _)) (by decide)) (by lia) (Nat.le_trans (Nat.le_trans (Nat.le_of_eq hme) (Nat.add_le_add_left (Nat.le_of_lt hr2) _)) (by decide)) (by have:=I8.vkeys; unfold TC.pure at this; rw [List.map_map] at this; exact this) (Nat.le_of_lt (Nat.lt_of_le_of_lt hvl' (by decide)))
  (fun s x hx=>by rw [I8.vsz s _ (C8 hx)]; exact Nat.le_trans (Nat.le_trans (Nat.le_of_eq hwe) (Nat.add_le_add_left (Nat.le_of_lt hr1) _)) (by decide)) (by have:=I8.keys; unfold TC.pure at this; rw [List.map_map] at this; exact this) (Nat.le_of_lt (Nat.lt_of_le_of_lt hnl' (by decide))) (Nat.le_of_lt (Nat.lt_of_le_of_lt hfl' (by decide))) (Nat.le_of_lt (Nat.lt_of_le_of_lt hul' (by decide))) (fun σ11 t2 T2 hC hP=> ?_) (dl hd12)
 have W11:=W10.ext hC.ext (Nat.le_refl _)
 obtain ⟨m0,g0⟩:=W11.held
 have hko:Mn (AJ H):=⟨Ce I8.hok.nd,fun e he=>by
  refine Af (List.mem_map.mp he) fun e0 he0 e_2=> ?_
  subst e_2
  have h1:=I8.hok.le _ he0
  have h2:=I8.hw _ he0
  have h3:=hsz.bd
  exact ⟨e0.1.1,e0.1.2,rfl,Nat.lt_of_le_of_lt (Nat.le_trans h1 hs16) (by decide),Nat.lt_of_lt_of_le h2 h3⟩⟩
 refine nlW ?_
 refine cTy hB ?_
 refine Aq ?_
 refine Rd hB g0 hko (by simp [AJ]; exact Nat.le_of_lt (Nat.lt_of_le_of_lt hHl (by decide))) fun h2 m2 hh2=> ?_
 refine WL.n (Ad ?_)
 refine ⟨rfl,_,rfl,rfl,?_⟩
 have hE12:=Ext.new (o:= .dict (asE kT (AJ H)) m2) hh2
 have W12:=W11.ext hE12 (Nat.le_refl _)
 have S12:Side (σ11.set h2 (.dict (asE kT (AJ H)) m2)) p h t T t2 T2 h2 H:=by
  refine ⟨hC.ta.ext hE12,⟨m2,MS.set_self ..⟩,fun a f=> ?_⟩
  rcases f with f | rfl
  ·have hn:=hC.new a f
   exact Cv (fun e=>W10.pen.here.1 (e▸hn)) (fun e=>W10.held.here (e▸hn)) (fun c=>W10.ta.there c hn)
  ·exact Cv (fun e=>W11.pen.here.1 (e▸hh2)) (fun e=>W11.held.here (e▸hh2)) (fun c=>W11.ta.there c hh2)
 have I2:Inv T2.pure tr H size width most:=by rw [hP]; exact I8
 generalize σ11.set h2 (MO.dict (asE kT (AJ H)) m2)=σ12 at W12 S12 ⊢
 obtain ⟨H0,hH0⟩:∃ H0,H0=H:=⟨_,rfl⟩
 rw [← hH0] at S12 I2
 refine AZ ?_
 refine LD ?_
 refine cTy hB ?_
 refine lI ?_
 refine Ad ?_
 refine CE fun c hc=> ?_
 have hE13:Ext σ12 (σ12.set c (.rng (2:Int))):=Ext.new hc
 have gr13:(σ12.set c (.rng ((2:Nat):Int))) c=some (.rng ((2:Nat):Int)):=MS.set_self ..
 refine ⟨fun U=>True,(List.range 2).map (fun i:Nat=>MV.int i),fun i ρ σ'=>ρ=[(S "pen",.ref p),(S "trie",.ref t),(S "held",.ref h),(S "size",.int size),(S "width",.int width),(S "most",.int most),(S "twin",.ref t2),(S "kept",.ref h2)]∧∃ T tr H n,Wd σ' p pc t h T H n∧n≤100*i+4000∧Inv T.pure tr H size width most∧Side σ' p h t T t2 T2 h2 H0,DX gr13 (by decide),trivial,⟨_,(Sub.cons (by rfl) (Sub.cons (by rfl) (Sub.cons (by rfl) (Sub.cons (by rfl) (Sub.cons (by rfl) (Sub.cons (by rfl) (Sub.cons (by rfl) (Sub.cons (by rfl) (Sub.nil))))))))),rfl,T,tr,H,m,W12.ext hE13 (Nat.le_refl _),Nat.le_of_lt (Nat.lt_of_le_of_lt hm10 (by decide)),I8,S12.ext hE13⟩,?_,?_⟩
 ·rintro i v ρ σ14 hv ⟨rfl,T,tr,H,n,W14,hn14,I14,S14⟩ _
  obtain ⟨hi,rfl⟩:=Bc hv
  refine AZ ?_
  refine Jd ?_
  refine Qv (Qu ?_)
  refine Ji ?_
  refine eG hB ?_
  refine Cu _ rfl (AW hB (by rfl)) ?_
  refine nlW ?_
  refine eV ?_
  refine nlW ?_
  refine eV ?_
  refine nlW ?_
  refine eV ?_
  refine nlW ?_
  refine eV ?_
  refine nlW ?_
  refine eV ?_
  refine nlW ?_
  refine eV ?_
  refine WL.n (Ad ?_)
  refine Pe hB W14 I14 (Nat.le_trans (Nat.le_trans hn14 (Nat.add_le_add_right (Nat.mul_le_mul_left _ (Nat.le_of_lt hi)) _)) (by decide)) (fun σ15 T' tr' H' n' W15 hn15 F15 I15=> ?_) (dl hd12)
  refine AQ true rfl ?_
  refine B7 (by decide) ?_
  refine WS.n ?_
  refine Ai ?_
  refine WS.n ?_
  refine Ai ?_
  exact ⟨trivial,_,(Sub.cons (by rfl) (Sub.cons (by rfl) (Sub.cons (by rfl) (Sub.cons (by rfl) (Sub.cons (by rfl) (Sub.cons (by rfl) (Sub.cons (by rfl) (Sub.cons (by rfl) (Sub.nil))))))))),rfl,T',tr',H',n',W15,by lia,I15,S14.turn F15⟩
 rintro ρ σ13 ⟨rfl,T,tr',H,n,W13,hn13,I13,S13⟩ _
 obtain ⟨hwt2,_⟩:=I2.lens
 obtain ⟨hwt3,_⟩:=I13.lens
 have hnl2:T2.nodes.length≤11:=by have:=I2.lens.2.1; simpa [TC.pure] using this
 refine nsW ?_
 refine QP ?_
 refine M3 ?_
 refine Pp ?_
 refine cG hB ?_
 refine Aq ?_
 refine JP hB S13.ta ⟨hsz,I2.kw⟩ I2.shp (Nat.le_of_lt (Nat.lt_of_le_of_lt hwt2 (by decide))) I2.agr S13.held (fun σ14 hE14=> ?_) (dl hd12)
 refine AQ true rfl ?_
 refine Ec (by rfl) ?_
 have S14:=S13.ext hE14
 refine Pp ?_
 refine cG hB ?_
 refine Aq ?_
 refine FN hB S14.ta ⟨hsz,I2.kw⟩ I2.shp (Nat.le_of_lt (Nat.lt_of_le_of_lt hwt2 (by decide))) (Nat.le_of_lt (Nat.lt_of_le_of_lt hnl2 (by decide))) I2.right I2.hok (Nat.le_trans (Nat.le_trans (Nat.le_of_eq hme) (Nat.add_le_add_left (Nat.le_of_lt hr2) _)) (by decide)) S14.held (fun σ15 hE15=> ?_) (dl hd12)
 refine AQ true rfl ?_
 refine Ec (by rfl) ?_
 have W15:=W13.ext (hE14.trans hE15) (Nat.le_refl _)
 refine QF ?_
 refine cG hB ?_
 refine Aq ?_
 refine JP hB W15.ta ⟨hsz,I13.kw⟩ I13.shp (Nat.le_of_lt (Nat.lt_of_le_of_lt hwt3 (by decide))) I13.agr W15.held (fun σ16 hE16=> ?_) (dl hd12)
 exact q _
end
theorem the_law:PySem.Challenge.rw_nu0360_01.Holds:=holds_of fun w b ns σ hB hn=>SK hB hn (fun U=>rfl) (by decide)
end Mine
theorem PySem.Challenge.cw_nu0360_01_holds : PySem.Challenge.rw_nu0360_01.Holds :=
  Mine.the_law
