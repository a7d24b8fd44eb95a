import PyProof.Rows.All
import PyProof.ForAny
import PyProof.Cells
import PyProof.CompFree
import PyProof.MeetsIn
import PyProof.DictDisplay
import PyProof.TupleKey
import PyProof.DictRoadsH
import PyProof.DictWalks
import PyProof.EqAt
import PyProof.IsRules
import PyProof.NeData
import PyProof.WalksMore
import PyProof.InstEq
import PyProof.WalksPairs
import PyProof.Rows.SeqCalls
import PyProof.Rows.SetFrom
import KE.KLam
import KE.KDictSum
import KE.KLcPair
import KE.KNestM
import KE.KSortTup
import Wide.FinOn
import OpenK.AllK
import Wide.All
import Lean
import PySem.Challenge.RW_pc0383_01
set_option Elab.async false
set_option linter.all false
set_option maxRecDepth 100000
set_option maxHeartbeats 1000000000
open PySem PySem.W PyProof.Rows PySem.Calls Builtin
namespace Mine
set_option genSizeOf false
def aR:Lean.Syntax:=Lean.Unhygienic.run `(Lean.Parser.Tactic.tacticSeq|rfl)
def aD:Lean.Syntax:=Lean.Unhygienic.run `(Lean.Parser.Tactic.tacticSeq|decide)
def aI:Lean.Syntax:=Lean.Unhygienic.run `(Lean.Parser.Tactic.tacticSeq|intro _;rfl)
def aJ:Lean.Syntax:=Lean.Unhygienic.run `(Lean.Parser.Tactic.tacticSeq|intro _ _;rfl)
def aK:Lean.Syntax:=Lean.Unhygienic.run `(Lean.Parser.Tactic.tacticSeq|kernel_rfl)
def aW:Lean.Syntax:=Lean.Unhygienic.run `(Lean.Parser.Tactic.tacticSeq|with_unfolding_all rfl)
def aN:Lean.Syntax:=Lean.Unhygienic.run `(Lean.Parser.Tactic.tacticSeq|exact Nat.le_of_ble_eq_true rfl)
def P9:Lean.Syntax:=Lean.Unhygienic.run `(Lean.Parser.Tactic.tacticSeq|(repeat intro _);rfl)
def PZ:Lean.Syntax:=Lean.Unhygienic.run `(Lean.Parser.Tactic.tacticSeq|(repeat intro _);kernel_rfl)
def QA:Lean.Syntax:=Lean.Unhygienic.run `(Lean.Parser.Tactic.tacticSeq|simp)
def Qj:Lean.Syntax:=Lean.Unhygienic.run `(Lean.Parser.Tactic.tacticSeq|exact ⟨rfl,fun V=>⟨rfl,Nat.le_refl _⟩⟩)
def aF:Lean.Syntax:=Lean.Unhygienic.run `(Lean.Parser.Tactic.tacticSeq|exact Eq.refl PySem.ScopeKind.function)
def aE:Lean.Syntax:=Lean.Unhygienic.run `(Lean.Parser.Tactic.tacticSeq|exact Eq.refl false)
def aL:Lean.Syntax:=Lean.Unhygienic.run `(Lean.Parser.Tactic.tacticSeq|exact Eq.refl (some PySem.NameKind.local))
def aG:Lean.Syntax:=Lean.Unhygienic.run `(Lean.Parser.Tactic.tacticSeq|exact Eq.refl (some PySem.NameKind.globalImplicit))
def aP:Lean.Syntax:=Lean.Unhygienic.run `(Lean.Parser.Tactic.tacticSeq|exact Eq.refl (pure false:PySem.Sem Bool))
section
variable {P:Prop} {A0 A1 A2 A3 A4 A5 A6:Type}
theorem Nh {a b k K:Nat} (h:b≤k) (q:k≤K):min a b≤K:=Nat.le_trans (Nat.min_le_right a b) (Nat.le_trans h q)
theorem MQ {a b j:Nat} (h:j <min a b):j <b:=Nat.lt_of_lt_of_le h (Nat.min_le_right a b)
theorem Qy {a b j:Nat} (h:j <min a b):j <a:=Nat.lt_of_lt_of_le h (Nat.min_le_left a b)
theorem PX {a b j:Nat} (h:j <min a b) (e:j=a):P:=absurd (Qy h) (e▸Nat.lt_irrefl j)
theorem PH {u n j k c:Nat} (h:u+20*(n+j)+20 <c) (q:k≤20*j+20):u+k <c:=Nat.lt_of_le_of_lt (Nat.add_le_add_left (Nat.le_trans q (Nat.add_le_add_right (Nat.mul_le_mul_left 20 (Nat.le_add_left j n)) 20)) u) (Nat.add_assoc u _ 20▸h)
theorem IK {u n k c:Nat} (h:u+20*n+20 <c) (q:k≤20):u+k <c:=PH (j:=0) h q
theorem Nf {u m k c:Nat} (h:u+m <c) (q:k≤m):u+k <c:=Nat.lt_of_le_of_lt (Nat.add_le_add_left q u) h
theorem QB {u n k c:Nat} (h:u+20*(n+1)+20 <c) (q:k≤20):u+k+20*n+20 <c:=Nat.lt_of_le_of_lt (Nat.add_le_add_right (by rw [Nat.add_assoc];exact Nat.add_le_add_left (Nat.add_comm k _▸Nat.add_le_add_left q (20*n)) u) 20) h
theorem Rd {u n c:Nat} (h:u+20*(n+1)+20 <c):u+1+20*n+20 <c:=QB h (by decide)
theorem PV {u n c:Nat} (h:u+20*(n+1)+20 <c):u+1+1+20*n+20 <c:=QB (k:=2) h (by decide)
theorem PM {u n a b c:Nat} (h:u+20*n+20 <c) (q:a≤20):u+min a b <c:=IK h (Nat.le_trans (Nat.min_le_left a b) q)
theorem Py {u n a b c:Nat} (h:u+20*n+20 <c) (q:a≤19):u+1+min a b <c:=by
 rw [Nat.add_assoc]
 exact IK h (Nat.le_trans (Nat.add_le_add_left (Nat.le_trans (Nat.min_le_left a b) q) 1) (by decide))
theorem QK {u m a b c:Nat} (h:u+m <c) (q:a≤m):u+min a b <c:=Nf h (Nat.le_trans (Nat.min_le_left a b) q)
theorem kQ {u n c:Nat} (h:u+20*n+20 <c) (q:18≤20):u+18 <c:=IK h q
theorem Kw {u m c:Nat} (h:u+m <c) (q:42≤m):u+42 <c:=Nf h q
theorem PT {u m c:Nat} (h:u+m <c) (q:9≤m):u+9 <c:=Nf h q
theorem Qo {k n m:Nat} (h:k≤n) (e:m=n):k≤m:=e▸h
theorem u5 {α:Type _} {a:Option α} {x:α} (n:a=none) (h:a=some x):P:=nomatch n.symm.trans h
theorem QG {α β:Type _} {f:α→Option β} {a b:α} {x:β} (q:b=a) (n:f a=none) (h:f b=some x):P:=u5 (q▸n) h
theorem nj {α:Type _} {a:Option α} (e:∃x,a=some x) (n:a=none):P:=e.elim fun V h=>u5 n h
theorem mN {α:Type _} {a:α}:a∉([]:List α):=fun h=>nomatch h
theorem lr {a b:Nat} (h:autoParam (Nat.ble a b=true) aR):a≤b:=Nat.le_of_ble_eq_true h
theorem mL {α:Type _} {a:α} {l m:List α} (h:a∈l):a∈l++m:=List.mem_append_left m h
theorem mR {α:Type _} {a:α} {l m:List α} (h:a∈m):a∈l++m:=List.mem_append_right l h
theorem jT {α:Type _} {a0 x:α} {l:List α}:x∈a0::x::l:=.tail _ (.head _)
theorem uO {α:Type _} {a0 a1 x:α} {l:List α}:x∈a0::a1::x::l:=.tail _ jT
theorem M1 {α:Type _} {a0 a1 a2 x:α} {l:List α}:x∈a0::a1::a2::x::l:=.tail _ uO
theorem PY {α:Type _} {a0 a1 a2 a3 x:α} {l:List α}:x∈a0::a1::a2::a3::x::l:=.tail _ M1
theorem zH {a b k K:Nat} (e:a=b) (h:b≤k) (q:k≤K):a≤K:=e▸Nat.le_trans h q
theorem QS {a b k K:Nat} (e:a≤b) (h:b≤k) (q:k≤K):a≤K:=Nat.le_trans e (Nat.le_trans h q)
theorem Qr {u n c:Nat} (h:u+n <c):u <c:=Nat.lt_of_le_of_lt (Nat.le_add_right u n) h
theorem NU {n i:Nat} (h:i <n):n - (i+1) <n - i:=Nat.sub_succ_lt_self n i h
theorem Qd {i:Nat} (h:i <2):1 - i <2:=by omega
theorem MB {i:Nat}:(1+(i:Int) - 1).toNat=i:=by rw [Int.add_comm,Int.add_sub_cancel];exact Int.toNat_natCast i
theorem IA {k n m:Nat} (h:k <n) (e:m=n):k <m:=e▸h
theorem Qe {k n m:Nat} (h:k <n) (e:n=m):k <m:=e▸h
theorem bC {a b:Prop} (z:a∧b) (f:a→b→P):P:=f z.1 z.2
theorem av {a b:Prop} (f:a→b→P) (z:a∧b):P:=bC z f
theorem cQ {a:A0→Prop} (z:∃x0,a x0) (f:∀x0,a x0→P):P:=z.elim fun y1 w1=>f y1 w1
theorem PK {a:A0→Prop} (f:∀x0,a x0→P) (z:∃x0,a x0):P:=cQ z f
theorem Kk {a b c:Prop} (z:(a∧b)∧c) (f:a→b→c→P):P:=f z.1.1 z.1.2 z.2
theorem cB {a b c:Prop} (z:a∧b∧c) (f:a→b→c→P):P:=f z.1 z.2.1 z.2.2
theorem ft {a b c:Prop} (f:a→b→c→P) (z:a∧b∧c):P:=cB z f
theorem u3 {a:Prop} {b:A0→Prop} (z:a∧∃x0,b x0) (f:a→∀x0,b x0→P):P:=z.2.elim fun y1 w1=>f z.1 y1 w1
theorem ab {a b:A0→Prop} (z:∃x0,a x0∧b x0) (f:∀x0,a x0→b x0→P):P:=z.elim fun y1 w1=>f y1 w1.1 w1.2
theorem sH {a b:A0→Prop} (f:∀x0,a x0→b x0→P) (z:∃x0,a x0∧b x0):P:=ab z f
theorem fw {a:A0→A1→Prop} (z:∃x0,∃x1,a x0 x1) (f:∀x0 x1,a x0 x1→P):P:=z.elim fun y1 w1=>w1.elim fun y2 w2=>f y1 y2 w2
theorem JW {a b c d:Prop} (z:((a∧b)∧c)∧d) (f:a→b→c→d→P):P:=f z.1.1.1 z.1.1.2 z.1.2 z.2
theorem df {a b c d:Prop} (z:a∧b∧c∧d) (f:a→b→c→d→P):P:=f z.1 z.2.1 z.2.2.1 z.2.2.2
theorem iA {a b c d:Prop} (f:a→b→c→d→P) (z:a∧b∧c∧d):P:=df z f
theorem IE {a:Prop} {b c:A0→Prop} (z:a∧∃x0,b x0∧c x0) (f:a→∀x0,b x0→c x0→P):P:=z.2.elim fun y1 w1=>f z.1 y1 w1.1 w1.2
theorem rh {a:Prop} {b c:A0→Prop} (f:a→∀x0,b x0→c x0→P) (z:a∧∃x0,b x0∧c x0):P:=IE z f
theorem ar {a b c:A0→Prop} (z:∃x0,a x0∧b x0∧c x0) (f:∀x0,a x0→b x0→c x0→P):P:=z.elim fun y1 w1=>f y1 w1.1 w1.2.1 w1.2.2
theorem kD {a b c:A0→Prop} (f:∀x0,a x0→b x0→c x0→P) (z:∃x0,a x0∧b x0∧c x0):P:=ar z f
theorem ao {a b:A0→A1→Prop} (z:∃x0,∃x1,a x0 x1∧b x0 x1) (f:∀x0 x1,a x0 x1→b x0 x1→P):P:=z.elim fun y1 w1=>w1.elim fun y2 w2=>f y1 y2 w2.1 w2.2
theorem kO {a b:A0→A1→Prop} (f:∀x0 x1,a x0 x1→b x0 x1→P) (z:∃x0,∃x1,a x0 x1∧b x0 x1):P:=ao z f
theorem fF {a b c d e:Prop} (z:a∧b∧c∧d∧e) (f:a→b→c→d→e→P):P:=f z.1 z.2.1 z.2.2.1 z.2.2.2.1 z.2.2.2.2
theorem CC {a:Prop} {b c d:A0→Prop} (z:a∧∃x0,b x0∧c x0∧d x0) (f:a→∀x0,b x0→c x0→d x0→P):P:=z.2.elim fun y1 w1=>f z.1 y1 w1.1 w1.2.1 w1.2.2
theorem aM {a:Prop} {b c d:A0→Prop} (f:a→∀x0,b x0→c x0→d x0→P) (z:a∧∃x0,b x0∧c x0∧d x0):P:=CC z f
theorem uX {c:A0→Prop} {a b:A0→A1→Prop} (z:∃x0,(∃x1,a x0 x1∧b x0 x1)∧c x0) (f:∀x0 x1,a x0 x1→b x0 x1→c x0→P):P:=z.elim fun y1 w1=>w1.1.elim fun y2 w2=>f y1 y2 w2.1 w2.2 w1.2
theorem tB {c:A0→Prop} {a b:A0→A1→Prop} (f:∀x0 x1,a x0 x1→b x0 x1→c x0→P) (z:∃x0,(∃x1,a x0 x1∧b x0 x1)∧c x0):P:=uX z f
theorem cY {a b c d:A0→Prop} (z:∃x0,a x0∧b x0∧c x0∧d x0) (f:∀x0,a x0→b x0→c x0→d x0→P):P:=z.elim fun y1 w1=>f y1 w1.1 w1.2.1 w1.2.2.1 w1.2.2.2
theorem mE {a b c d:A0→Prop} (f:∀x0,a x0→b x0→c x0→d x0→P) (z:∃x0,a x0∧b x0∧c x0∧d x0):P:=cY z f
theorem cH {a b c:A0→A1→Prop} (z:∃x0,∃x1,a x0 x1∧b x0 x1∧c x0 x1) (f:∀x0 x1,a x0 x1→b x0 x1→c x0 x1→P):P:=z.elim fun y1 w1=>w1.elim fun y2 w2=>f y1 y2 w2.1 w2.2.1 w2.2.2
theorem eX {a b c:A0→A1→Prop} (f:∀x0 x1,a x0 x1→b x0 x1→c x0 x1→P) (z:∃x0,∃x1,a x0 x1∧b x0 x1∧c x0 x1):P:=cH z f
theorem cn {a b:A0→A1→A2→Prop} (z:∃x0,∃x1,∃x2,a x0 x1 x2∧b x0 x1 x2) (f:∀x0 x1 x2,a x0 x1 x2→b x0 x1 x2→P):P:=z.elim fun y1 w1=>w1.elim fun y2 w2=>w2.elim fun y3 w3=>f y1 y2 y3 w3.1 w3.2
theorem mU {a b:A0→A1→A2→Prop} (f:∀x0 x1 x2,a x0 x1 x2→b x0 x1 x2→P) (z:∃x0,∃x1,∃x2,a x0 x1 x2∧b x0 x1 x2):P:=cn z f
theorem cI {a:A0→A1→A2→A3→Prop} (z:∃x0,∃x1,∃x2,∃x3,a x0 x1 x2 x3) (f:∀x0 x1 x2 x3,a x0 x1 x2 x3→P):P:=z.elim fun y1 w1=>w1.elim fun y2 w2=>w2.elim fun y3 w3=>w3.elim fun y4 w4=>f y1 y2 y3 y4 w4
theorem yG {a:Prop} {b c d:A0→A1→Prop} (z:a∧∃x0,∃x1,b x0 x1∧c x0 x1∧d x0 x1) (f:a→∀x0 x1,b x0 x1→c x0 x1→d x0 x1→P):P:=z.2.elim fun y1 w1=>w1.elim fun y2 w2=>f z.1 y1 y2 w2.1 w2.2.1 w2.2.2
theorem vI {a:Prop} {b c d:A0→A1→Prop} (f:a→∀x0 x1,b x0 x1→c x0 x1→d x0 x1→P) (z:a∧∃x0,∃x1,b x0 x1∧c x0 x1∧d x0 x1):P:=yG z f
theorem zh {d:A0→Prop} {a b c:A0→A1→Prop} (z:∃x0,(∃x1,a x0 x1∧b x0 x1∧c x0 x1)∧d x0) (f:∀x0 x1,a x0 x1→b x0 x1→c x0 x1→d x0→P):P:=z.elim fun y1 w1=>w1.1.elim fun y2 w2=>f y1 y2 w2.1 w2.2.1 w2.2.2 w1.2
theorem bI {a b c d:A0→A1→Prop} (z:∃x0,∃x1,a x0 x1∧b x0 x1∧c x0 x1∧d x0 x1) (f:∀x0 x1,a x0 x1→b x0 x1→c x0 x1→d x0 x1→P):P:=z.elim fun y1 w1=>w1.elim fun y2 w2=>f y1 y2 w2.1 w2.2.1 w2.2.2.1 w2.2.2.2
theorem ak {a b c d:A0→A1→Prop} (f:∀x0 x1,a x0 x1→b x0 x1→c x0 x1→d x0 x1→P) (z:∃x0,∃x1,a x0 x1∧b x0 x1∧c x0 x1∧d x0 x1):P:=bI z f
theorem a8 {a b c:A0→A1→A2→Prop} (z:∃x0,∃x1,∃x2,a x0 x1 x2∧b x0 x1 x2∧c x0 x1 x2) (f:∀x0 x1 x2,a x0 x1 x2→b x0 x1 x2→c x0 x1 x2→P):P:=z.elim fun y1 w1=>w1.elim fun y2 w2=>w2.elim fun y3 w3=>f y1 y2 y3 w3.1 w3.2.1 w3.2.2
theorem um {e:Prop} {a b c d:A0→A1→Prop} (z:(∃x0,∃x1,a x0 x1∧b x0 x1∧c x0 x1∧d x0 x1)∧e) (f:∀x0 x1,a x0 x1→b x0 x1→c x0 x1→d x0 x1→e→P):P:=z.1.elim fun y1 w1=>w1.elim fun y2 w2=>f y1 y2 w2.1 w2.2.1 w2.2.2.1 w2.2.2.2 z.2
theorem qY {e:Prop} {a b c d:A0→A1→Prop} (f:∀x0 x1,a x0 x1→b x0 x1→c x0 x1→d x0 x1→e→P) (z:(∃x0,∃x1,a x0 x1∧b x0 x1∧c x0 x1∧d x0 x1)∧e):P:=um z f
theorem uc {a:Prop} {b c d e:A0→A1→Prop} (z:a∧∃x0,∃x1,b x0 x1∧c x0 x1∧d x0 x1∧e x0 x1) (f:a→∀x0 x1,b x0 x1→c x0 x1→d x0 x1→e x0 x1→P):P:=z.2.elim fun y1 w1=>w1.elim fun y2 w2=>f z.1 y1 y2 w2.1 w2.2.1 w2.2.2.1 w2.2.2.2
theorem cV {a:Prop} {b c d e:A0→A1→Prop} (f:a→∀x0 x1,b x0 x1→c x0 x1→d x0 x1→e x0 x1→P) (z:a∧∃x0,∃x1,b x0 x1∧c x0 x1∧d x0 x1∧e x0 x1):P:=uc z f
theorem dJ {a b c d e:A0→A1→Prop} (z:∃x0,∃x1,a x0 x1∧b x0 x1∧c x0 x1∧d x0 x1∧e x0 x1) (f:∀x0 x1,a x0 x1→b x0 x1→c x0 x1→d x0 x1→e x0 x1→P):P:=z.elim fun y1 w1=>w1.elim fun y2 w2=>f y1 y2 w2.1 w2.2.1 w2.2.2.1 w2.2.2.2.1 w2.2.2.2.2
theorem kR {a b c d e:A0→A1→Prop} (f:∀x0 x1,a x0 x1→b x0 x1→c x0 x1→d x0 x1→e x0 x1→P) (z:∃x0,∃x1,a x0 x1∧b x0 x1∧c x0 x1∧d x0 x1∧e x0 x1):P:=dJ z f
theorem ic {a b c d:A0→A1→A2→Prop} (z:∃x0,∃x1,∃x2,a x0 x1 x2∧b x0 x1 x2∧c x0 x1 x2∧d x0 x1 x2) (f:∀x0 x1 x2,a x0 x1 x2→b x0 x1 x2→c x0 x1 x2→d x0 x1 x2→P):P:=z.elim fun y1 w1=>w1.elim fun y2 w2=>w2.elim fun y3 w3=>f y1 y2 y3 w3.1 w3.2.1 w3.2.2.1 w3.2.2.2
theorem jJ {d:A0→Prop} {a b c:A0→A1→A2→A3→Prop} (z:∃x0,(∃x1,∃x2,∃x3,a x0 x1 x2 x3∧b x0 x1 x2 x3∧c x0 x1 x2 x3)∧d x0) (f:∀x0 x1 x2 x3,a x0 x1 x2 x3→b x0 x1 x2 x3→c x0 x1 x2 x3→d x0→P):P:=z.elim fun y1 w1=>w1.1.elim fun y2 w2=>w2.elim fun y3 w3=>w3.elim fun y4 w4=>f y1 y2 y3 y4 w4.1 w4.2.1 w4.2.2 w1.2
theorem gb {a b c d:A0→A1→A2→A3→Prop} (z:∃x0,∃x1,∃x2,∃x3,a x0 x1 x2 x3∧b x0 x1 x2 x3∧c x0 x1 x2 x3∧d x0 x1 x2 x3) (f:∀x0 x1 x2 x3,a x0 x1 x2 x3→b x0 x1 x2 x3→c x0 x1 x2 x3→d x0 x1 x2 x3→P):P:=z.elim fun y1 w1=>w1.elim fun y2 w2=>w2.elim fun y3 w3=>w3.elim fun y4 w4=>f y1 y2 y3 y4 w4.1 w4.2.1 w4.2.2.1 w4.2.2.2
theorem pM {a b c d:A0→A1→A2→A3→Prop} (f:∀x0 x1 x2 x3,a x0 x1 x2 x3→b x0 x1 x2 x3→c x0 x1 x2 x3→d x0 x1 x2 x3→P) (z:∃x0,∃x1,∃x2,∃x3,a x0 x1 x2 x3∧b x0 x1 x2 x3∧c x0 x1 x2 x3∧d x0 x1 x2 x3):P:=gb z f
theorem g8 {e:A0→Prop} {a b c d:A0→A1→A2→A3→Prop} (z:∃x0,(∃x1,∃x2,∃x3,a x0 x1 x2 x3∧b x0 x1 x2 x3∧c x0 x1 x2 x3∧d x0 x1 x2 x3)∧e x0) (f:∀x0 x1 x2 x3,a x0 x1 x2 x3→b x0 x1 x2 x3→c x0 x1 x2 x3→d x0 x1 x2 x3→e x0→P):P:=z.elim fun y1 w1=>w1.1.elim fun y2 w2=>w2.elim fun y3 w3=>w3.elim fun y4 w4=>f y1 y2 y3 y4 w4.1 w4.2.1 w4.2.2.1 w4.2.2.2 w1.2
theorem bG {a b c d e g:A0→A1→A2→Prop} (z:∃x0,∃x1,∃x2,a x0 x1 x2∧b x0 x1 x2∧c x0 x1 x2∧d x0 x1 x2∧e x0 x1 x2∧g x0 x1 x2) (f:∀x0 x1 x2,a x0 x1 x2→b x0 x1 x2→c x0 x1 x2→d x0 x1 x2→e x0 x1 x2→g x0 x1 x2→P):P:=z.elim fun y1 w1=>w1.elim fun y2 w2=>w2.elim fun y3 w3=>f y1 y2 y3 w3.1 w3.2.1 w3.2.2.1 w3.2.2.2.1 w3.2.2.2.2.1 w3.2.2.2.2.2
theorem gK {a b c d e g:A0→A1→A2→Prop} (f:∀x0 x1 x2,a x0 x1 x2→b x0 x1 x2→c x0 x1 x2→d x0 x1 x2→e x0 x1 x2→g x0 x1 x2→P) (z:∃x0,∃x1,∃x2,a x0 x1 x2∧b x0 x1 x2∧c x0 x1 x2∧d x0 x1 x2∧e x0 x1 x2∧g x0 x1 x2):P:=bG z f
theorem nG {a b c d e:A0→A1→A2→A3→Prop} (z:∃x0,∃x1,∃x2,∃x3,a x0 x1 x2 x3∧b x0 x1 x2 x3∧c x0 x1 x2 x3∧d x0 x1 x2 x3∧e x0 x1 x2 x3) (f:∀x0 x1 x2 x3,a x0 x1 x2 x3→b x0 x1 x2 x3→c x0 x1 x2 x3→d x0 x1 x2 x3→e x0 x1 x2 x3→P):P:=z.elim fun y1 w1=>w1.elim fun y2 w2=>w2.elim fun y3 w3=>w3.elim fun y4 w4=>f y1 y2 y3 y4 w4.1 w4.2.1 w4.2.2.1 w4.2.2.2.1 w4.2.2.2.2
theorem mD {a b c d e:A0→A1→A2→A3→Prop} (f:∀x0 x1 x2 x3,a x0 x1 x2 x3→b x0 x1 x2 x3→c x0 x1 x2 x3→d x0 x1 x2 x3→e x0 x1 x2 x3→P) (z:∃x0,∃x1,∃x2,∃x3,a x0 x1 x2 x3∧b x0 x1 x2 x3∧c x0 x1 x2 x3∧d x0 x1 x2 x3∧e x0 x1 x2 x3):P:=nG z f
theorem lV {a b h:A0→Prop} {c d e g:A0→A1→A2→Prop} (z:∃x0,a x0∧b x0∧(∃x1,∃x2,c x0 x1 x2∧d x0 x1 x2∧e x0 x1 x2∧g x0 x1 x2)∧h x0) (f:∀x0,a x0→b x0→∀x1 x2,c x0 x1 x2→d x0 x1 x2→e x0 x1 x2→g x0 x1 x2→h x0→P):P:=z.elim fun y1 w1=>w1.2.2.1.elim fun y2 w2=>w2.elim fun y3 w3=>f y1 w1.1 w1.2.1 y2 y3 w3.1 w3.2.1 w3.2.2.1 w3.2.2.2 w1.2.2.2
theorem jQ {a b c d e g h:A0→A1→A2→A3→Prop} (z:∃x0,∃x1,∃x2,∃x3,a x0 x1 x2 x3∧b x0 x1 x2 x3∧c x0 x1 x2 x3∧d x0 x1 x2 x3∧e x0 x1 x2 x3∧g x0 x1 x2 x3∧h x0 x1 x2 x3) (f:∀x0 x1 x2 x3,a x0 x1 x2 x3→b x0 x1 x2 x3→c x0 x1 x2 x3→d x0 x1 x2 x3→e x0 x1 x2 x3→g x0 x1 x2 x3→h x0 x1 x2 x3→P):P:=z.elim fun y1 w1=>w1.elim fun y2 w2=>w2.elim fun y3 w3=>w3.elim fun y4 w4=>f y1 y2 y3 y4 w4.1 w4.2.1 w4.2.2.1 w4.2.2.2.1 w4.2.2.2.2.1 w4.2.2.2.2.2.1 w4.2.2.2.2.2.2
theorem jk {a b c d e g h:A0→A1→A2→A3→Prop} (f:∀x0 x1 x2 x3,a x0 x1 x2 x3→b x0 x1 x2 x3→c x0 x1 x2 x3→d x0 x1 x2 x3→e x0 x1 x2 x3→g x0 x1 x2 x3→h x0 x1 x2 x3→P) (z:∃x0,∃x1,∃x2,∃x3,a x0 x1 x2 x3∧b x0 x1 x2 x3∧c x0 x1 x2 x3∧d x0 x1 x2 x3∧e x0 x1 x2 x3∧g x0 x1 x2 x3∧h x0 x1 x2 x3):P:=jQ z f
theorem jP {a b c d:A0→A1→A2→A3→A4→A5→A6→Prop} (z:∃x0,∃x1,∃x2,∃x3,∃x4,∃x5,∃x6,a x0 x1 x2 x3 x4 x5 x6∧b x0 x1 x2 x3 x4 x5 x6∧c x0 x1 x2 x3 x4 x5 x6∧d x0 x1 x2 x3 x4 x5 x6) (f:∀x0 x1 x2 x3 x4 x5 x6,a x0 x1 x2 x3 x4 x5 x6→b x0 x1 x2 x3 x4 x5 x6→c x0 x1 x2 x3 x4 x5 x6→d x0 x1 x2 x3 x4 x5 x6→P):P:=z.elim fun y1 w1=>w1.elim fun y2 w2=>w2.elim fun y3 w3=>w3.elim fun y4 w4=>w4.elim fun y5 w5=>w5.elim fun y6 w6=>w6.elim fun y7 w7=>f y1 y2 y3 y4 y5 y6 y7 w7.1 w7.2.1 w7.2.2.1 w7.2.2.2
theorem jB {a b c d:A0→A1→A2→A3→A4→A5→A6→Prop} (f:∀x0 x1 x2 x3 x4 x5 x6,a x0 x1 x2 x3 x4 x5 x6→b x0 x1 x2 x3 x4 x5 x6→c x0 x1 x2 x3 x4 x5 x6→d x0 x1 x2 x3 x4 x5 x6→P) (z:∃x0,∃x1,∃x2,∃x3,∃x4,∃x5,∃x6,a x0 x1 x2 x3 x4 x5 x6∧b x0 x1 x2 x3 x4 x5 x6∧c x0 x1 x2 x3 x4 x5 x6∧d x0 x1 x2 x3 x4 x5 x6):P:=jP z f
theorem iI {a b c d e g h i:A0→A1→A2→A3→Prop} (z:∃x0,∃x1,∃x2,∃x3,a x0 x1 x2 x3∧b x0 x1 x2 x3∧c x0 x1 x2 x3∧d x0 x1 x2 x3∧e x0 x1 x2 x3∧g x0 x1 x2 x3∧h x0 x1 x2 x3∧i x0 x1 x2 x3) (f:∀x0 x1 x2 x3,a x0 x1 x2 x3→b x0 x1 x2 x3→c x0 x1 x2 x3→d x0 x1 x2 x3→e x0 x1 x2 x3→g x0 x1 x2 x3→h x0 x1 x2 x3→i x0 x1 x2 x3→P):P:=z.elim fun y1 w1=>w1.elim fun y2 w2=>w2.elim fun y3 w3=>w3.elim fun y4 w4=>f y1 y2 y3 y4 w4.1 w4.2.1 w4.2.2.1 w4.2.2.2.1 w4.2.2.2.2.1 w4.2.2.2.2.2.1 w4.2.2.2.2.2.2.1 w4.2.2.2.2.2.2.2
theorem qz {c d e:A0→A1→Prop} {a b:A0→A1→A2→Prop} (z:∃x0,∃x1,(∃x2,a x0 x1 x2∧b x0 x1 x2)∧c x0 x1∧d x0 x1∧e x0 x1) (f:∀x0 x1 x2,a x0 x1 x2→b x0 x1 x2→c x0 x1→d x0 x1→e x0 x1→P):P:=z.elim fun y1 w1=>w1.elim fun y2 w2=>w2.1.elim fun y3 w3=>f y1 y2 y3 w3.1 w3.2 w2.2.1 w2.2.2.1 w2.2.2.2
theorem d8 {c d e:A0→A1→Prop} {a b:A0→A1→A2→Prop} (f:∀x0 x1 x2,a x0 x1 x2→b x0 x1 x2→c x0 x1→d x0 x1→e x0 x1→P) (z:∃x0,∃x1,(∃x2,a x0 x1 x2∧b x0 x1 x2)∧c x0 x1∧d x0 x1∧e x0 x1):P:=qz z f
theorem tW {c d:A0→A1→Prop} {a b:A0→A1→A2→Prop} (z:∃x0,∃x1,(∃x2,a x0 x1 x2∧b x0 x1 x2)∧c x0 x1∧d x0 x1) (f:∀x0 x1 x2,a x0 x1 x2→b x0 x1 x2→c x0 x1→d x0 x1→P):P:=z.elim fun y1 w1=>w1.elim fun y2 w2=>w2.1.elim fun y3 w3=>f y1 y2 y3 w3.1 w3.2 w2.2.1 w2.2.2
theorem dT {c d:A0→A1→Prop} {a b:A0→A1→A2→Prop} (f:∀x0 x1 x2,a x0 x1 x2→b x0 x1 x2→c x0 x1→d x0 x1→P) (z:∃x0,∃x1,(∃x2,a x0 x1 x2∧b x0 x1 x2)∧c x0 x1∧d x0 x1):P:=tW z f
theorem j9 {a b c d e:A0→Prop} (z:∃x0,a x0∧b x0∧c x0∧d x0∧e x0) (f:∀x0,a x0→b x0→c x0→d x0→e x0→P):P:=z.elim fun y1 w1=>f y1 w1.1 w1.2.1 w1.2.2.1 w1.2.2.2.1 w1.2.2.2.2
theorem jC {a b c d e:A0→Prop} (f:∀x0,a x0→b x0→c x0→d x0→e x0→P) (z:∃x0,a x0∧b x0∧c x0∧d x0∧e x0):P:=j9 z f
theorem a9 {a b:A0→Prop} (x0:A0) (p0:a x0) (p1:b x0):∃x0,a x0∧b x0:=⟨x0,p0,p1⟩
theorem cb {a b c:A0→Prop} (x0:A0) (p0:a x0) (p1:b x0) (p2:c x0):∃x0,a x0∧b x0∧c x0:=⟨x0,p0,p1,p2⟩
theorem l6 {a b c d:Prop} (p0:a) (p1:b) (p2:c) (p3:d):a∧b∧c∧d:=⟨p0,p1,p2,p3⟩
theorem fZ {a b:A0→A1→Prop} (x0:A0) (x1:A1) (p0:a x0 x1) (p1:b x0 x1):∃x0,∃x1,a x0 x1∧b x0 x1:=⟨x0,x1,p0,p1⟩
theorem J9 {a:A0→A1→Prop} (x0:A0) (x1:A1) (p0:a x0 x1):∃x0,∃x1,a x0 x1:=⟨x0,x1,p0⟩
theorem fA {a:Prop} {b c d:A0→Prop} (p0:a) (x0:A0) (p1:b x0) (p2:c x0) (p3:d x0):a∧∃x0,b x0∧c x0∧d x0:=⟨p0,x0,p1,p2,p3⟩
theorem o6 {a:Prop} {b c d:A0→A1→Prop} (p0:a) (x0:A0) (x1:A1) (p1:b x0 x1) (p2:c x0 x1) (p3:d x0 x1):a∧∃x0,∃x1,b x0 x1∧c x0 x1∧d x0 x1:=⟨p0,x0,x1,p1,p2,p3⟩
theorem dm {a b c d:A0→A1→Prop} (x0:A0) (x1:A1) (p0:a x0 x1) (p1:b x0 x1) (p2:c x0 x1) (p3:d x0 x1):∃x0,∃x1,a x0 x1∧b x0 x1∧c x0 x1∧d x0 x1:=⟨x0,x1,p0,p1,p2,p3⟩
theorem hZ {a b c:A0→A1→Prop} (x0:A0) (x1:A1) (p0:a x0 x1) (p1:b x0 x1) (p2:c x0 x1):∃x0,∃x1,a x0 x1∧b x0 x1∧c x0 x1:=⟨x0,x1,p0,p1,p2⟩
theorem lz {a b c d e:A0→A1→A2→A3→Prop} (x0:A0) (x1:A1) (x2:A2) (x3:A3) (p0:a x0 x1 x2 x3) (p1:b x0 x1 x2 x3) (p2:c x0 x1 x2 x3) (p3:d x0 x1 x2 x3) (p4:e x0 x1 x2 x3):∃x0,∃x1,∃x2,∃x3,a x0 x1 x2 x3∧b x0 x1 x2 x3∧c x0 x1 x2 x3∧d x0 x1 x2 x3∧e x0 x1 x2 x3:=⟨x0,x1,x2,x3,p0,p1,p2,p3,p4⟩
theorem yJ {a b c d:A0→Prop} (x0:A0) (p0:a x0) (p1:b x0) (p2:c x0) (p3:d x0):∃x0,a x0∧b x0∧c x0∧d x0:=⟨x0,p0,p1,p2,p3⟩
theorem sQ {a b c d e:Prop} (p0:a) (p1:b) (p2:c) (p3:d) (p4:e):a∧b∧c∧d∧e:=⟨p0,p1,p2,p3,p4⟩
theorem d9 {a b c d e f:A0→A1→A2→Prop} (x0:A0) (x1:A1) (x2:A2) (p0:a x0 x1 x2) (p1:b x0 x1 x2) (p2:c x0 x1 x2) (p3:d x0 x1 x2) (p4:e x0 x1 x2) (p5:f x0 x1 x2):∃x0,∃x1,∃x2,a x0 x1 x2∧b x0 x1 x2∧c x0 x1 x2∧d x0 x1 x2∧e x0 x1 x2∧f x0 x1 x2:=⟨x0,x1,x2,p0,p1,p2,p3,p4,p5⟩
theorem yb {a b:A0→Prop} {c:A0→A1→Prop} (x0:A0) (p0:a x0) (p1:b x0) (x1:A1) (p2:c x0 x1):∃x0,a x0∧b x0∧∃x1,c x0 x1:=⟨x0,p0,p1,x1,p2⟩
theorem JL {a b c d:A0→A1→A2→Prop} (x0:A0) (x1:A1) (x2:A2) (p0:a x0 x1 x2) (p1:b x0 x1 x2) (p2:c x0 x1 x2) (p3:d x0 x1 x2):∃x0,∃x1,∃x2,a x0 x1 x2∧b x0 x1 x2∧c x0 x1 x2∧d x0 x1 x2:=⟨x0,x1,x2,p0,p1,p2,p3⟩
theorem Oo {a:Prop} {b c:A0→Prop} (p0:a) (x0:A0) (p1:b x0) (p2:c x0):a∧∃x0,b x0∧c x0:=⟨p0,x0,p1,p2⟩
theorem wI {a b c d e:A0→Prop} (x0:A0) (p0:a x0) (p1:b x0) (p2:c x0) (p3:d x0) (p4:e x0):∃x0,a x0∧b x0∧c x0∧d x0∧e x0:=⟨x0,p0,p1,p2,p3,p4⟩
theorem Pc {a:Prop} {b:A0→Prop} (p0:a) (x0:A0) (p1:b x0):a∧∃x0,b x0:=⟨p0,x0,p1⟩
theorem gQ {a b c d:A0→A1→A2→A3→Prop} (x0:A0) (x1:A1) (x2:A2) (x3:A3) (p0:a x0 x1 x2 x3) (p1:b x0 x1 x2 x3) (p2:c x0 x1 x2 x3) (p3:d x0 x1 x2 x3):∃x0,∃x1,∃x2,∃x3,a x0 x1 x2 x3∧b x0 x1 x2 x3∧c x0 x1 x2 x3∧d x0 x1 x2 x3:=⟨x0,x1,x2,x3,p0,p1,p2,p3⟩
theorem vy {a b c:A0→A1→A2→Prop} (x0:A0) (x1:A1) (x2:A2) (p0:a x0 x1 x2) (p1:b x0 x1 x2) (p2:c x0 x1 x2):∃x0,∃x1,∃x2,a x0 x1 x2∧b x0 x1 x2∧c x0 x1 x2:=⟨x0,x1,x2,p0,p1,p2⟩
theorem yM {a b:A0→A1→A2→Prop} (x0:A0) (x1:A1) (x2:A2) (p0:a x0 x1 x2) (p1:b x0 x1 x2):∃x0,∃x1,∃x2,a x0 x1 x2∧b x0 x1 x2:=⟨x0,x1,x2,p0,p1⟩
end
set_option tactic.hygienic false
set_option compiler.extract_closed false
set_option hygiene false in
local macro_rules | `(tactic|rewrite $s:rwRuleSeq)=>do
 let ts←s.raw[1].getSepArgs.mapM fun r=>do
  let t:Lean.Term:=⟨r[1]⟩
  let q:Lean.TSyntax `Lean.Parser.Tactic.rwRuleSeq:=⟨s.raw.setArg 1 (Lean.mkNullNode #[r])⟩
  let u:Lean.Term:=⟨if r[0].isNone then t else Lean.Syntax.mkApp (Lean.mkIdent `Eq.symm) #[t]⟩
  `(tactic|first |refine Eq.substr ($u ..) ?_ |refine Eq.substr (propext ($u ..)) ?_ |rewrite (occs:=.all)$q:rwRuleSeq)
 `(tactic|($[$ts];*))
set_option hygiene false in
local macro_rules
 | `(tactic|rintro $p:rintroPat)=>do
 let l:=p.raw[0]
 if !l.isOfKind `Lean.Parser.Tactic.rcasesPat.tuple then Lean.Macro.throwUnsupported
 let r:=l[1].getSepArgs
 let m:Lean.TSyntax `Lean.Parser.Tactic.rcasesPatMed:=⟨r[0]![0]⟩
 let t←if m.raw[0].getNumArgs=1 then
   let a:Lean.TSyntax `rintroPat:=⟨Lean.mkNode `Lean.Parser.Tactic.rintroPat.one #[m.raw[0][0]]⟩
   `(tactic|rintro $a:rintroPat)
  else `(tactic|(intro zq;rcases zq with $m:rcasesPatMed))
 if r.size=1 then return t
 let a:Lean.TSyntax `rintroPat:=⟨Lean.mkNode `Lean.Parser.Tactic.rintroPat.one #[l.setArg 1 (Lean.mkNullNode (l[1].getArgs.extract 2 l[1].getNumArgs))]⟩
 if p.raw.getNumArgs=2 then `(tactic|($t<;>rintro $a:rintroPat))
 else `(tactic|((first |refine Mine.exI ?_ |refine Mine.anI ?_); $t<;>rintro $a:rintroPat))
 | `(tactic|obtain $p:rcasesPatMed:= $e:term)=>do
 let l:=p.raw[0][0]
 if p.raw[0].getNumArgs !=1|| !l.isOfKind `Lean.Parser.Tactic.rcasesPat.tuple then Lean.Macro.throwUnsupported
 let a:Lean.TSyntax `rintroPat:=⟨Lean.mkNode `Lean.Parser.Tactic.rintroPat.one #[l,l]⟩
 let i:Lean.Ident:=⟨e.raw⟩
 let c←if e.raw.isIdent then `(tactic|(revert $i;first |refine Mine.exI ?_ |refine Mine.anI ?_)) else `(tactic|first |refine Mine.exE $e ?_ |refine Mine.anE $e ?_)
 `(tactic|first |($c;rintro $a:rintroPat) |rcases $e:term with $p)
noncomputable abbrev pw:Program:=PySem.Challenge.pw_pc0383_01
noncomputable def dz (i:Nat):Stmt:=(pw.main.body[i]?).getD default
noncomputable def dS (i j:Nat):Stmt:=match dz i with
 | .ClassDef _ _ _ b _ _ _ _ _ _ _=>(b[j]?).getD default
 |_=>default
noncomputable def Pe:Stmt→Str×Arguments×List Stmt×Scope
 | .FunctionDef n a b _ _ _ sc _ _ _=>(n,a,b,sc)
 |_=>default
noncomputable def cu (st:Stmt):List Stmt:=(Pe st).2.2.1
noncomputable def cJ (st:Stmt) (q:Str) (dfl pm cd:Value):FuncData:={name:=(Pe st).1,qualname:=q,params:=(Pe st).2.1,body:=.stmts (cu st),scope:=(Pe st).2.2.2,globals:=mainGlobals,closure:=[],defaults:=dfl,kwdefaults:=.none,doc:=.none,pyModule:=pm,annotations:=none,code:=cd,closureTuple:=.none,builtins:=builtinsNs}
noncomputable abbrev FN (st:Stmt) (q:Str) (dfl pm cd:Value):Data:=.func (cJ st q dfl pm cd)
noncomputable def ke (P:Params) (n:String) (t:Nat) (v:Value):DictEntry:=⟨PyData.keyHash P (Str.ofString n),.str (Str.ofString n) t,v⟩
noncomputable def cO (i:Addr) (a b:String) (t u v:Nat) (l n p q z:Int) (xs:List Value) (e:Nat):Addr×Obj:=
 (i,⟨.type "code",none,.fields ((([.str (Str.ofString a) t,.str (Str.ofString b) u,.str "/claim/cut.py" v,.int l 0,.int n 0,.int p 0,.int q 0,.int z 0]:List Value)++xs)++ [.str "/claim/cut.py" e]:List Value).toArray,#[]⟩)
noncomputable def fO (i:Addr) (st:Stmt) (q:String) (d:Value) (m:String) (t:Nat) (c:Addr):Addr×Obj:=(i,⟨.type "function",none,FN st (Str.ofString q) d (.str (Str.ofString m) t) (.ref c),#[]⟩)
noncomputable def K (P:Params):Frag:=
 let k:=ke P
 [
 (2,⟨.none,none,(.dict #[k "type.__subclasses__.Exception.0" 221 (.int (38) 0),k "type.__subclasses__.Exception.n" 222 (.int (1) 0)] 2),#[]⟩),
 (3,⟨.type "dict",none,(.dict #[k "__name__" 165 (.str "law_pc0383_01" 876),k "__doc__" 166 (.none),k "__package__" 167 (.none),k "__loader__" 168 (.builtin "__main__.__loader__#opaque"),k "__spec__" 169 (.none),k "__annotations__" 170 (.ref 6),k "__builtins__" 171 (.ref 4),k "__file__" 173 (.str "/claim/cut.py" 172),k "__cached__" 174 (.none),k "_wall" 193 (.ref 21),k "SwitchError" 224 (.ref 38),k "TableError" 240 (.ref 51),k "StateError" 256 (.ref 63),k "ACTIVITY" 260 (.int (1) 259),k "SHORT" 262 (.int (2) 261),k "AGGREGATION" 264 (.int (4) 263),k "SYNCHRONIZATION" 266 (.int (8) 265),k "COLLECTING" 268 (.int (16) 267),k "DISTRIBUTING" 270 (.int (32) 269),k "DEFAULTED" 272 (.int (64) 271),k "EXPIRED" 274 (.int (128) 273),k "NOBODY" 282 (.ref 68),k "Lacpdu" 323 (.ref 93),k "has_bit" 331 (.ref 104),k "with_bit" 341 (.ref 111),k "SHORT_WAIT" 345 (.int (3) 344),k "LONG_WAIT" 347 (.int (90) 346),k "QUICK_TURN" 349 (.int (1) 348),k "SLOW_TURN" 351 (.int (30) 350),k "JOIN_WAIT" 353 (.int (2) 352),k "HOLD" 355 (.int (3) 354),k "LacpRow" 408 (.ref 143),k "LacpPort" 525 (.ref 234),k "BITS_OF" 543 (.ref 239),k "move_mux" 552 (.ref 246),k "next_mux" 562 (.ref 253),k "step_mux" 571 (.ref 260),k "have_waited" 577 (.ref 265),k "wait_second" 584 (.ref 272),k "KNOWN_BITS" 590 (.int (15) 589),k "begin_link" 597 (.ref 279),k "end_link" 604 (.ref 286),k "fall_silent" 611 (.ref 293),k "is_same_end" 619 (.ref 300),k "knows_us" 627 (.ref 307),k "is_in_step" 635 (.ref 314),k "hear" 644 (.ref 321),k "pass_second" 651 (.ref 328),k "message_of" 658 (.ref 335),k "Chooser" 739 (.ref 388),k "MOST_ROUNDS" 743 (.int (12) 742),k "Bundles" 875 (.ref 488),k "_law_pool" 888 (.ref 499),k "_law_take" 897 (.ref 506),k "_law_one" 905 (.ref 513),k "_law_scene" 916 (.ref 520),k "_law_exchange" 922 (.ref 525),k "_law_pass" 932 (.ref 532),k "_law_turn_link" 942 (.ref 539),k "_law_works" 951 (.ref 546),k "_law_groups" 964 (.ref 553),k "_law_rest_right" 970 (.ref 558),k "_law_rows" 984 (.ref 565),k "_law_few_right" 990 (.ref 570),k "law" 996 (.ref 575)] 65),#[]⟩),
 (66,⟨.type "tuple",none,(.seq #[.int (0) 275,.int (0) 276] 0),#[]⟩),
 (67,⟨.type "tuple",none,(.seq #[.int (0) 278,.int (0) 279] 0),#[]⟩),
 (68,⟨.type "tuple",none,(.seq #[.ref 66,.int (0) 277,.ref 67,.int (56) 281] 0),#[]⟩),
 (76,⟨.type "tuple",none,(.seq #[.int (0) 295] 0),#[]⟩),
 cO 82 "__init__" "Lacpdu.__init__" 296 297 298 26 4 0 0 3 [.ref 77,.bool true,.int (181) 0,.ref 78,.none,.ref 79,.ref 80,.ref 81,.int (303) 0,.int (26) 0] 304,
 fO 83 (dS 15 0) "Lacpdu.__init__" (.ref 76) "switchloom.lacpdus" 257 82,
 (92,⟨.type "dict",none,(.dict #[k "__module__" 290 (.str "switchloom.lacpdus" 257),k "__firstlineno__" 294 (.int (24) 293),k "__init__" 305 (.ref 83),k "told" 312 (.ref 90),k "__static_attributes__" 316 (.ref 91),k "__dict__" 318 (.ref 94),k "__weakref__" 320 (.ref 95),k "__doc__" 321 (.none)] 4),#[]⟩),
 (93,⟨.type "type",none,(.cls {name:="Lacpdu",bases:=[.type "object"],mro:=[.ref 93,.type "object"],ns:=92,qualname:="Lacpdu",hasDict:=true,slotNames:=[],subclasses:=[],abstract:=false,collection:=none,hasDel:=false}),#[none,none,(some (.str "Lacpdu" 283)),(some (.str "Lacpdu" 291)),(some (.builtin "object.__new__")),(some (.bool true))]⟩),
 cO 103 "has_bit" "has_bit" 324 325 326 33 2 0 0 3 [.ref 98,.bool true,.int (181) 0,.ref 99,.none,.ref 100,.ref 101,.ref 102,.int (329) 0,.int (33) 0] 330,
 fO 104 (dz 16) "has_bit" (.none) "switchloom.lacpdus" 257 103,
 cO 110 "with_bit" "with_bit" 332 333 334 35 3 0 0 3 [.ref 105,.bool true,.int (181) 0,.ref 106,.none,.ref 107,.ref 108,.ref 109,.int (339) 0,.int (35) 0] 340,
 fO 111 (dz 17) "with_bit" (.none) "switchloom.lacpdus" 257 110,
 (119,⟨.type "tuple",none,(.seq #[.bool true,.bool false,.bool true] 0),#[]⟩),
 cO 125 "__init__" "LacpRow.__init__" 368 369 370 47 7 0 0 3 [.ref 120,.bool true,.int (181) 0,.ref 121,.none,.ref 122,.ref 123,.ref 124,.int (378) 0,.int (47) 0] 379,
 fO 126 (dS 25 0) "LacpRow.__init__" (.ref 119) "switchloom.lacp_port" 342 125,
 cO 132 "port_id" "LacpRow.port_id" 381 382 383 55 1 0 0 3 [.ref 127,.bool true,.int (181) 0,.ref 128,.none,.ref 129,.ref 130,.ref 131,.int (385) 0,.int (55) 0] 386,
 fO 133 (dS 25 1) "LacpRow.port_id" (.none) "switchloom.lacp_port" 342 132,
 cO 139 "bits" "LacpRow.bits" 388 389 390 58 1 0 0 3 [.ref 134,.bool true,.int (181) 0,.ref 135,.none,.ref 136,.ref 137,.ref 138,.int (392) 0,.int (58) 0] 393,
 fO 140 (dS 25 2) "LacpRow.bits" (.none) "switchloom.lacp_port" 342 139,
 (142,⟨.type "dict",none,(.dict #[k "__module__" 363 (.str "switchloom.lacp_port" 342),k "__firstlineno__" 367 (.int (45) 366),k "__init__" 380 (.ref 126),k "port_id" 387 (.ref 133),k "bits" 394 (.ref 140),k "__static_attributes__" 401 (.ref 141),k "__dict__" 403 (.ref 144),k "__weakref__" 405 (.ref 145),k "__doc__" 406 (.none)] 4),#[]⟩),
 (143,⟨.type "type",none,(.cls {name:="LacpRow",bases:=[.type "object"],mro:=[.ref 143,.type "object"],ns:=142,qualname:="LacpRow",hasDict:=true,slotNames:=[],subclasses:=[],abstract:=false,collection:=none,hasDel:=false}),#[none,none,(some (.str "LacpRow" 356)),(some (.str "LacpRow" 364)),(some (.builtin "object.__new__")),(some (.bool true))]⟩),
 cO 160 "__init__" "LacpPort.__init__" 421 422 423 62 3 0 0 3 [.ref 155,.bool true,.int (181) 0,.ref 156,.none,.ref 157,.ref 158,.ref 159,.int (427) 0,.int (62) 0] 428,
 fO 161 (dS 26 0) "LacpPort.__init__" (.none) "switchloom.lacp_port" 342 160,
 cO 167 "is_up" "LacpPort.is_up" 430 431 432 76 1 0 0 3 [.ref 162,.bool true,.int (181) 0,.ref 163,.none,.ref 164,.ref 165,.ref 166,.int (434) 0,.int (76) 0] 435,
 fO 168 (dS 26 1) "LacpPort.is_up" (.none) "switchloom.lacp_port" 342 167,
 cO 174 "own" "LacpPort.own" 437 438 439 79 2 0 0 3 [.ref 169,.bool true,.int (181) 0,.ref 170,.none,.ref 171,.ref 172,.ref 173,.int (442) 0,.int (79) 0] 443,
 fO 175 (dS 26 2) "LacpPort.own" (.none) "switchloom.lacp_port" 342 174,
 cO 181 "others" "LacpPort.others" 445 446 447 82 2 0 0 3 [.ref 176,.bool true,.int (181) 0,.ref 177,.none,.ref 178,.ref 179,.ref 180,.int (450) 0,.int (82) 0] 451,
 fO 182 (dS 26 3) "LacpPort.others" (.none) "switchloom.lacp_port" 342 181,
 cO 188 "set_own" "LacpPort.set_own" 453 454 455 85 3 0 0 3 [.ref 183,.bool true,.int (181) 0,.ref 184,.none,.ref 185,.ref 186,.ref 187,.int (460) 0,.int (85) 0] 461,
 fO 189 (dS 26 4) "LacpPort.set_own" (.none) "switchloom.lacp_port" 342 188,
 cO 195 "is_lone" "LacpPort.is_lone" 463 464 465 90 1 0 0 3 [.ref 190,.bool true,.int (181) 0,.ref 191,.none,.ref 192,.ref 193,.ref 194,.int (467) 0,.int (90) 0] 468,
 fO 196 (dS 26 5) "LacpPort.is_lone" (.none) "switchloom.lacp_port" 342 195,
 cO 202 "group" "LacpPort.group" 470 471 472 93 1 0 0 3 [.ref 197,.bool true,.int (181) 0,.ref 198,.none,.ref 199,.ref 200,.ref 201,.int (475) 0,.int (93) 0] 476,
 fO 203 (dS 26 6) "LacpPort.group" (.none) "switchloom.lacp_port" 342 202,
 cO 209 "talks" "LacpPort.talks" 478 479 480 97 1 0 0 3 [.ref 204,.bool true,.int (181) 0,.ref 205,.none,.ref 206,.ref 207,.ref 208,.int (482) 0,.int (97) 0] 483,
 fO 210 (dS 26 7) "LacpPort.talks" (.none) "switchloom.lacp_port" 342 209,
 cO 216 "turn" "LacpPort.turn" 485 486 487 100 1 0 0 3 [.ref 211,.bool true,.int (181) 0,.ref 212,.none,.ref 213,.ref 214,.ref 215,.int (489) 0,.int (100) 0] 490,
 fO 217 (dS 26 8) "LacpPort.turn" (.none) "switchloom.lacp_port" 342 216,
 cO 223 "heard_wait" "LacpPort.heard_wait" 492 493 494 103 1 0 0 3 [.ref 218,.bool true,.int (181) 0,.ref 219,.none,.ref 220,.ref 221,.ref 222,.int (496) 0,.int (103) 0] 497,
 fO 224 (dS 26 9) "LacpPort.heard_wait" (.none) "switchloom.lacp_port" 342 223,
 (233,⟨.type "dict",none,(.dict #[k "__module__" 416 (.str "switchloom.lacp_port" 342),k "__firstlineno__" 420 (.int (60) 419),k "__init__" 429 (.ref 161),k "is_up" 436 (.ref 168),k "own" 444 (.ref 175),k "others" 452 (.ref 182),k "set_own" 462 (.ref 189),k "is_lone" 469 (.ref 196),k "group" 477 (.ref 203),k "talks" 484 (.ref 210),k "turn" 491 (.ref 217),k "heard_wait" 498 (.ref 224),k "told_bits" 505 (.ref 231),k "__static_attributes__" 518 (.ref 232),k "__dict__" 520 (.ref 235),k "__weakref__" 522 (.ref 236),k "__doc__" 523 (.none)] 4),#[]⟩),
 (234,⟨.type "type",none,(.cls {name:="LacpPort",bases:=[.type "object"],mro:=[.ref 234,.type "object"],ns:=233,qualname:="LacpPort",hasDict:=true,slotNames:=[],subclasses:=[],abstract:=false,collection:=none,hasDel:=false}),#[none,none,(some (.str "LacpPort" 409)),(some (.str "LacpPort" 417)),(some (.builtin "object.__new__")),(some (.bool true))]⟩),
 (239,⟨.type "dict",none,(.dict #[k "detached" 528 (.int (0) 529),k "waiting" 530 (.int (0) 531),k "attached" 532 (.int (8) 265),k "collecting" 533 (.int (24) 534),k "distributing" 535 (.int (56) 537)] 5),#[]⟩),
 cO 245 "move_mux" "move_mux" 544 545 546 110 2 0 0 3 [.ref 240,.bool true,.int (181) 0,.ref 241,.none,.ref 242,.ref 243,.ref 244,.int (550) 0,.int (110) 0] 551,
 fO 246 (dz 29) "move_mux" (.none) "switchloom.lacp_mux" 526 245,
 cO 252 "next_mux" "next_mux" 553 554 555 115 2 0 0 3 [.ref 247,.bool true,.int (181) 0,.ref 248,.none,.ref 249,.ref 250,.ref 251,.int (560) 0,.int (115) 0] 561,
 fO 253 (dz 30) "next_mux" (.none) "switchloom.lacp_mux" 526 252,
 cO 259 "step_mux" "step_mux" 563 564 565 133 2 0 0 3 [.ref 254,.bool true,.int (181) 0,.ref 255,.none,.ref 256,.ref 257,.ref 258,.int (569) 0,.int (133) 0] 570,
 fO 260 (dz 31) "step_mux" (.none) "switchloom.lacp_mux" 526 259,
 cO 264 "have_waited" "have_waited" 572 573 574 143 2 0 0 3 [.ref 261,.bool true,.int (181) 0,.ref 262,.none,.none,.none,.ref 263,.int (575) 0,.int (143) 0] 576,
 fO 265 (dz 32) "have_waited" (.none) "switchloom.lacp_mux" 526 264,
 cO 271 "wait_second" "wait_second" 578 579 580 146 1 0 0 3 [.ref 266,.bool true,.int (181) 0,.ref 267,.none,.ref 268,.ref 269,.ref 270,.int (582) 0,.int (146) 0] 583,
 fO 272 (dz 33) "wait_second" (.none) "switchloom.lacp_mux" 526 271,
 cO 278 "begin_link" "begin_link" 591 592 593 151 1 0 0 3 [.ref 273,.bool true,.int (181) 0,.ref 274,.none,.ref 275,.ref 276,.ref 277,.int (595) 0,.int (151) 0] 596,
 fO 279 (dz 36) "begin_link" (.none) "switchloom.lacp_receive" 585 278,
 cO 285 "end_link" "end_link" 598 599 600 158 1 0 0 3 [.ref 280,.bool true,.int (181) 0,.ref 281,.none,.ref 282,.ref 283,.ref 284,.int (602) 0,.int (158) 0] 603,
 fO 286 (dz 37) "end_link" (.none) "switchloom.lacp_receive" 585 285,
 cO 292 "fall_silent" "fall_silent" 605 606 607 166 1 0 0 3 [.ref 287,.bool true,.int (181) 0,.ref 288,.none,.ref 289,.ref 290,.ref 291,.int (609) 0,.int (166) 0] 610,
 fO 293 (dz 38) "fall_silent" (.none) "switchloom.lacp_receive" 585 292,
 cO 299 "is_same_end" "is_same_end" 612 613 614 176 2 0 0 3 [.ref 294,.bool true,.int (181) 0,.ref 295,.none,.ref 296,.ref 297,.ref 298,.int (617) 0,.int (176) 0] 618,
 fO 300 (dz 39) "is_same_end" (.none) "switchloom.lacp_receive" 585 299,
 cO 306 "knows_us" "knows_us" 620 621 622 178 2 0 0 3 [.ref 301,.bool true,.int (181) 0,.ref 302,.none,.ref 303,.ref 304,.ref 305,.int (625) 0,.int (178) 0] 626,
 fO 307 (dz 40) "knows_us" (.none) "switchloom.lacp_receive" 585 306,
 cO 313 "is_in_step" "is_in_step" 628 629 630 180 2 0 0 3 [.ref 308,.bool true,.int (181) 0,.ref 309,.none,.ref 310,.ref 311,.ref 312,.int (633) 0,.int (180) 0] 634,
 fO 314 (dz 41) "is_in_step" (.none) "switchloom.lacp_receive" 585 313,
 cO 320 "hear" "hear" 636 637 638 186 2 0 0 3 [.ref 315,.bool true,.int (181) 0,.ref 316,.none,.ref 317,.ref 318,.ref 319,.int (642) 0,.int (186) 0] 643,
 fO 321 (dz 42) "hear" (.none) "switchloom.lacp_receive" 585 320,
 cO 327 "pass_second" "pass_second" 645 646 647 202 1 0 0 3 [.ref 322,.bool true,.int (181) 0,.ref 323,.none,.ref 324,.ref 325,.ref 326,.int (649) 0,.int (202) 0] 650,
 fO 328 (dz 43) "pass_second" (.none) "switchloom.lacp_receive" 585 327,
 cO 334 "message_of" "message_of" 652 653 654 214 1 0 0 3 [.ref 329,.bool true,.int (181) 0,.ref 330,.none,.ref 331,.ref 332,.ref 333,.int (656) 0,.int (214) 0] 657,
 fO 335 (dz 44) "message_of" (.none) "switchloom.lacp_receive" 585 334,
 cO 348 "__init__" "Chooser.__init__" 673 674 675 225 3 0 0 3 [.ref 343,.bool true,.int (181) 0,.ref 344,.none,.ref 345,.ref 346,.ref 347,.int (679) 0,.int (225) 0] 680,
 fO 349 (dS 46 0) "Chooser.__init__" (.none) "switchloom.lacp_select" 659 348,
 cO 353 "number_of" "Chooser.number_of" 682 683 684 230 2 0 0 3 [.ref 350,.bool true,.int (181) 0,.ref 351,.none,.none,.none,.ref 352,.int (685) 0,.int (230) 0] 686,
 fO 354 (dS 46 1) "Chooser.number_of" (.none) "switchloom.lacp_select" 659 353,
 cO 358 "drop_empty" "Chooser.drop_empty" 688 689 690 239 2 0 0 3 [.ref 355,.bool true,.int (181) 0,.ref 356,.none,.none,.none,.ref 357,.int (691) 0,.int (239) 0] 692,
 fO 359 (dS 46 2) "Chooser.drop_empty" (.none) "switchloom.lacp_select" 659 358,
 cO 365 "rank" "Chooser.rank" 694 695 696 246 2 0 0 3 [.ref 360,.bool true,.int (181) 0,.ref 361,.none,.ref 362,.ref 363,.ref 364,.int (699) 0,.int (246) 0] 700,
 fO 366 (dS 46 3) "Chooser.rank" (.none) "switchloom.lacp_select" 659 365,
 cO 372 "worked" "Chooser.worked" 702 703 704 249 2 0 0 3 [.ref 367,.bool true,.int (181) 0,.ref 368,.none,.ref 369,.ref 370,.ref 371,.int (708) 0,.int (249) 0] 709,
 fO 373 (dS 46 4) "Chooser.worked" (.none) "switchloom.lacp_select" 659 372,
 cO 377 "choose" "Chooser.choose" 711 712 713 252 2 0 0 3 [.ref 374,.bool true,.int (181) 0,.ref 375,.none,.none,.none,.ref 376,.int (714) 0,.int (252) 0] 715,
 fO 378 (dS 46 5) "Chooser.choose" (.none) "switchloom.lacp_select" 659 377,
 cO 384 "settle" "Chooser.settle" 717 718 719 267 3 0 0 3 [.ref 379,.bool true,.int (181) 0,.ref 380,.none,.ref 381,.ref 382,.ref 383,.int (726) 0,.int (267) 0] 727,
 fO 385 (dS 46 6) "Chooser.settle" (.none) "switchloom.lacp_select" 659 384,
 (387,⟨.type "dict",none,(.dict #[k "__module__" 668 (.str "switchloom.lacp_select" 659),k "__firstlineno__" 672 (.int (223) 671),k "__init__" 681 (.ref 349),k "number_of" 687 (.ref 354),k "drop_empty" 693 (.ref 359),k "rank" 701 (.ref 366),k "worked" 710 (.ref 373),k "choose" 716 (.ref 378),k "settle" 728 (.ref 385),k "__static_attributes__" 732 (.ref 386),k "__dict__" 734 (.ref 389),k "__weakref__" 736 (.ref 390),k "__doc__" 737 (.none)] 4),#[]⟩),
 (388,⟨.type "type",none,(.cls {name:="Chooser",bases:=[.type "object"],mro:=[.ref 388,.type "object"],ns:=387,qualname:="Chooser",hasDict:=true,slotNames:=[],subclasses:=[],abstract:=false,collection:=none,hasDel:=false}),#[none,none,(some (.str "Chooser" 661)),(some (.str "Chooser" 669)),(some (.builtin "object.__new__")),(some (.bool true))]⟩),
 (400,⟨.type "tuple",none,(.seq #[.int (8) 756] 0),#[]⟩),
 cO 406 "__init__" "Bundles.__init__" 757 758 759 278 4 0 0 3 [.ref 401,.bool true,.int (181) 0,.ref 402,.none,.ref 403,.ref 404,.ref 405,.int (765) 0,.int (278) 0] 766,
 fO 407 (dS 49 0) "Bundles.__init__" (.ref 400) "switchloom.lacp" 740 406,
 cO 411 "all_ports" "Bundles.all_ports" 768 769 770 286 1 0 0 3 [.ref 408,.bool true,.int (181) 0,.ref 409,.none,.none,.none,.ref 410,.int (771) 0,.int (286) 0] 772,
 fO 412 (dS 49 1) "Bundles.all_ports" (.none) "switchloom.lacp" 740 411,
 cO 418 "port" "Bundles.port" 774 775 776 289 2 0 0 3 [.ref 413,.bool true,.int (181) 0,.ref 414,.none,.ref 415,.ref 416,.ref 417,.int (779) 0,.int (289) 0] 780,
 fO 419 (dS 49 2) "Bundles.port" (.none) "switchloom.lacp" 740 418,
 cO 425 "rest" "Bundles.rest" 782 783 784 294 1 0 0 3 [.ref 420,.bool true,.int (181) 0,.ref 421,.none,.ref 422,.ref 423,.ref 424,.int (790) 0,.int (294) 0] 791,
 fO 426 (dS 49 3) "Bundles.rest" (.none) "switchloom.lacp" 740 425,
 cO 432 "link_up" "Bundles.link_up" 793 794 795 304 2 0 0 3 [.ref 427,.bool true,.int (181) 0,.ref 428,.none,.ref 429,.ref 430,.ref 431,.int (799) 0,.int (304) 0] 800,
 fO 433 (dS 49 4) "Bundles.link_up" (.none) "switchloom.lacp" 740 432,
 cO 439 "link_down" "Bundles.link_down" 802 803 804 310 2 0 0 3 [.ref 434,.bool true,.int (181) 0,.ref 435,.none,.ref 436,.ref 437,.ref 438,.int (808) 0,.int (310) 0] 809,
 fO 440 (dS 49 5) "Bundles.link_down" (.none) "switchloom.lacp" 740 439,
 cO 446 "receive" "Bundles.receive" 811 812 813 316 3 0 0 3 [.ref 441,.bool true,.int (181) 0,.ref 442,.none,.ref 443,.ref 444,.ref 445,.int (817) 0,.int (316) 0] 818,
 fO 447 (dS 49 6) "Bundles.receive" (.none) "switchloom.lacp" 740 446,
 cO 453 "second" "Bundles.second" 820 821 822 320 1 0 0 3 [.ref 448,.bool true,.int (181) 0,.ref 449,.none,.ref 450,.ref 451,.ref 452,.int (825) 0,.int (320) 0] 826,
 fO 454 (dS 49 7) "Bundles.second" (.none) "switchloom.lacp" 740 453,
 cO 460 "take_sent" "Bundles.take_sent" 828 829 830 326 1 0 0 3 [.ref 455,.bool true,.int (181) 0,.ref 456,.none,.ref 457,.ref 458,.ref 459,.int (835) 0,.int (326) 0] 836,
 fO 461 (dS 49 8) "Bundles.take_sent" (.none) "switchloom.lacp" 740 460,
 cO 465 "members" "Bundles.members" 838 839 840 334 2 0 0 3 [.ref 462,.bool true,.int (181) 0,.ref 463,.none,.none,.none,.ref 464,.int (841) 0,.int (334) 0] 842,
 fO 466 (dS 49 9) "Bundles.members" (.none) "switchloom.lacp" 740 465,
 cO 479 "bundle_of" "Bundles.bundle_of" 852 853 854 340 2 0 0 3 [.ref 474,.bool true,.int (181) 0,.ref 475,.none,.ref 476,.ref 477,.ref 478,.int (857) 0,.int (340) 0] 858,
 fO 480 (dS 49 11) "Bundles.bundle_of" (.none) "switchloom.lacp" 740 479,
 (487,⟨.type "dict",none,(.dict #[k "__module__" 751 (.str "switchloom.lacp" 740),k "__firstlineno__" 755 (.int (276) 754),k "__init__" 767 (.ref 407),k "all_ports" 773 (.ref 412),k "port" 781 (.ref 419),k "rest" 792 (.ref 426),k "link_up" 801 (.ref 433),k "link_down" 810 (.ref 440),k "receive" 819 (.ref 447),k "second" 827 (.ref 454),k "take_sent" 837 (.ref 461),k "members" 843 (.ref 466),k "collectors" 851 (.ref 473),k "bundle_of" 859 (.ref 480),k "bundles" 865 (.ref 485),k "__static_attributes__" 868 (.ref 486),k "__dict__" 870 (.ref 489),k "__weakref__" 872 (.ref 490),k "__doc__" 873 (.none)] 4),#[]⟩),
 (488,⟨.type "type",none,(.cls {name:="Bundles",bases:=[.type "object"],mro:=[.ref 488,.type "object"],ns:=487,qualname:="Bundles",hasDict:=true,slotNames:=[],subclasses:=[],abstract:=false,collection:=none,hasDel:=false}),#[none,none,(some (.str "Bundles" 744)),(some (.str "Bundles" 752)),(some (.builtin "object.__new__")),(some (.bool true))]⟩),
 cO 498 "_law_pool" "_law_pool" 878 879 880 346 2 0 0 3 [.ref 493,.bool true,.int (181) 0,.ref 494,.none,.ref 495,.ref 496,.ref 497,.int (886) 0,.int (346) 0] 887,
 fO 499 (dz 51) "_law_pool" (.none) "law_pc0383_01" 876 498,
 cO 505 "_law_take" "_law_take" 889 890 891 351 2 0 0 3 [.ref 500,.bool true,.int (181) 0,.ref 501,.none,.ref 502,.ref 503,.ref 504,.int (895) 0,.int (351) 0] 896,
 fO 506 (dz 52) "_law_take" (.none) "law_pc0383_01" 876 505,
 cO 512 "_law_one" "_law_one" 898 899 900 358 2 0 0 3 [.ref 507,.bool true,.int (181) 0,.ref 508,.none,.ref 509,.ref 510,.ref 511,.int (903) 0,.int (358) 0] 904,
 fO 513 (dz 53) "_law_one" (.none) "law_pc0383_01" 876 512,
 cO 519 "_law_scene" "_law_scene" 906 907 908 360 5 0 0 3 [.ref 514,.bool true,.int (181) 0,.ref 515,.none,.ref 516,.ref 517,.ref 518,.int (914) 0,.int (360) 0] 915,
 fO 520 (dz 54) "_law_scene" (.none) "law_pc0383_01" 876 519,
 cO 524 "_law_exchange" "_law_exchange" 917 918 919 362 1 0 0 3 [.ref 521,.bool true,.int (181) 0,.ref 522,.none,.none,.none,.ref 523,.int (920) 0,.int (362) 0] 921,
 fO 525 (dz 55) "_law_exchange" (.none) "law_pc0383_01" 876 524,
 cO 531 "_law_pass" "_law_pass" 923 924 925 371 2 0 0 3 [.ref 526,.bool true,.int (181) 0,.ref 527,.none,.ref 528,.ref 529,.ref 530,.int (930) 0,.int (371) 0] 931,
 fO 532 (dz 56) "_law_pass" (.none) "law_pc0383_01" 876 531,
 cO 538 "_law_turn_link" "_law_turn_link" 933 934 935 377 2 0 0 3 [.ref 533,.bool true,.int (181) 0,.ref 534,.none,.ref 535,.ref 536,.ref 537,.int (940) 0,.int (377) 0] 941,
 fO 539 (dz 57) "_law_turn_link" (.none) "law_pc0383_01" 876 538,
 cO 545 "_law_works" "_law_works" 943 944 945 388 2 0 0 3 [.ref 540,.bool true,.int (181) 0,.ref 541,.none,.ref 542,.ref 543,.ref 544,.int (949) 0,.int (388) 0] 950,
 fO 546 (dz 58) "_law_works" (.none) "law_pc0383_01" 876 545,
 cO 552 "_law_groups" "_law_groups" 952 953 954 391 2 0 0 3 [.ref 547,.bool true,.int (181) 0,.ref 548,.none,.ref 549,.ref 550,.ref 551,.int (962) 0,.int (391) 0] 963,
 fO 553 (dz 59) "_law_groups" (.none) "law_pc0383_01" 876 552,
 cO 557 "_law_rest_right" "_law_rest_right" 965 966 967 400 4 0 0 3 [.ref 554,.bool true,.int (181) 0,.ref 555,.none,.none,.none,.ref 556,.int (968) 0,.int (400) 0] 969,
 fO 558 (dz 60) "_law_rest_right" (.none) "law_pc0383_01" 876 557,
 cO 564 "_law_rows" "_law_rows" 971 972 973 424 2 0 0 3 [.ref 559,.bool true,.int (181) 0,.ref 560,.none,.ref 561,.ref 562,.ref 563,.int (982) 0,.int (424) 0] 983,
 fO 565 (dz 61) "_law_rows" (.none) "law_pc0383_01" 876 564,
 cO 569 "_law_few_right" "_law_few_right" 985 986 987 431 0 0 0 3 [.ref 566,.bool true,.int (181) 0,.ref 567,.none,.none,.none,.ref 568,.int (988) 0,.int (431) 0] 989,
 fO 570 (dz 62) "_law_few_right" (.none) "law_pc0383_01" 876 569,
 cO 574 "law" "law" 991 992 993 439 1 0 0 3 [.ref 571,.bool true,.int (181) 0,.ref 572,.none,.none,.none,.ref 573,.int (994) 0,.int (439) 0] 995,
 fO 575 (dz 63) "law" (.none) "law_pc0383_01" 876 574]
noncomputable def vw:Program:=view pw [63]
noncomputable def MS:List Str:=[Str.ofString "_wall",Str.ofString "SwitchError",Str.ofString "TableError",Str.ofString "StateError",Str.ofString "ACTIVITY",Str.ofString "SHORT",Str.ofString "AGGREGATION",Str.ofString "SYNCHRONIZATION",Str.ofString "COLLECTING",Str.ofString "DISTRIBUTING",Str.ofString "DEFAULTED",Str.ofString "EXPIRED",Str.ofString "NOBODY",Str.ofString "Lacpdu",Str.ofString "has_bit",Str.ofString "with_bit",Str.ofString "SHORT_WAIT",Str.ofString "LONG_WAIT",Str.ofString "QUICK_TURN",Str.ofString "SLOW_TURN",Str.ofString "JOIN_WAIT",Str.ofString "HOLD",Str.ofString "LacpRow",Str.ofString "LacpPort",Str.ofString "BITS_OF",Str.ofString "move_mux",Str.ofString "next_mux",Str.ofString "step_mux",Str.ofString "have_waited",Str.ofString "wait_second",Str.ofString "KNOWN_BITS",Str.ofString "begin_link",Str.ofString "end_link",Str.ofString "fall_silent",Str.ofString "is_same_end",Str.ofString "knows_us",Str.ofString "is_in_step",Str.ofString "hear",Str.ofString "pass_second",Str.ofString "message_of",Str.ofString "Chooser",Str.ofString "MOST_ROUNDS",Str.ofString "Bundles",Str.ofString "_law_pool",Str.ofString "_law_take",Str.ofString "_law_one",Str.ofString "_law_scene",Str.ofString "_law_exchange",Str.ofString "_law_pass",Str.ofString "_law_turn_link",Str.ofString "_law_works",Str.ofString "_law_groups",Str.ofString "_law_rest_right",Str.ofString "_law_rows",Str.ofString "_law_few_right"]
noncomputable def Xr (s:Shared):Bool:=recOk (RowW.records PySem.Challenge.rw_pc0383_01.row.toRowW) s
noncomputable def Pz:List Addr:=[2,3,66,67,68,76,82,83,92,93,103,104,110,111,119,125,126,132,133,139,140,142,143,160,161,167,168,174,175,181,182,188,189,195,196,202,203,209,210,216,217,223,224,233,234,239,245,246,252,253,259,260,264,265,271,272,278,279,285,286,292,293,299,300,306,307,313,314,320,321,327,328,334,335,348,349,353,354,358,359,365,366,372,373,377,378,384,385,387,388,400,406,407,411,412,418,419,425,426,432,433,439,440,446,447,453,454,460,461,465,466,479,480,487,488,498,499,505,506,512,513,519,520,524,525,531,532,538,539,545,546,552,553,557,558,564,565,569,570,574,575]
theorem Mk (P:Params):Pz=(K P).map (·.1):=by kernel_rfl
noncomputable abbrev Qb:=List (Option Obj)×(Option Obj×Option (Value×(Option Addr×Data)))
noncomputable def uw (s:Shared):Qb:=(Pz.map s.heap.get?,s.heap.get? 368,(s.heap.get? 4).map fun o=>(o.cls,o.dict,o.data))
noncomputable def zk (w:World):Qb:=((K w.params).map fun p=>some p.2,some (tabObj #[]),some (.type "module",some builtinsNs,.plain))
noncomputable def qH (den:Code→Sem Fin) (p:Program) (w:World) (n₀:Nat) (ann:Option Value):Nat→SharedT→Thread→Option SharedT
 |0,_,_=>none
 |n+1,s,t=>match through t with
  |true=>some s
  |false=>match Fast.tw6613529449190102663 n₀ ann t with
   |false=>none
   |true=>match Fast.tw10156331382660048174 den p w s t with
    |some (s',t')=>qH den p w n₀ ann n s' t'
    |none=>none
theorem nq {p:Program} {w:World} {n₀:Nat} {ann:Option Value}:∀{n:Nat} {s s':SharedT} {t:Thread},
  qH (Fast.tw11892475500146522536 Fast.tw14364793385576792824) p w n₀ ann n s t=some s'→topRun treeTable p w n₀ ann n s.abs t=some s'.abs
 |0,_,_,_,h=>by cases h
 |n+1,s,s',t,h=>by
  unfold qH at h
  unfold topRun
  cases ht:through t with
  |true=>rw [ht] at h;cases h;rfl
  |false=>
   rw [ht] at h
   have e1:Fast.tw6613529449190102663 n₀ ann t=stepOk n₀ ann t:=by rw [←Fast.te6613529449190102663]
   have e2:Fast.tw10156331382660048174 (Fast.tw11892475500146522536 Fast.tw14364793385576792824) p w s t=stepT (denote treeTable) p w s t:=by
    rw [←Fast.te10156331382660048174,←Fast.te11892475500146522536,←Fast.te14364793385576792824]
   dsimp only at h
   rw [e1,e2] at h
   cases hk:stepOk n₀ ann t with
   |false=>rw [hk] at h;cases h
   |true=>
    rw [hk] at h
    cases hs:stepT (denote treeTable) p w s t with
    |none=>rw [hs] at h;cases h
    |some r=>obtain ⟨s₂,t₂⟩:=r;rw [hs] at h;rw [stepT_spec hs];exact nq h
noncomputable def N:Nat:=8248
noncomputable def T0 (P:Params):BT:=((((((((((BT.nil.ins 0 (boot_o_0 P)).ins 1 (boot_o_1 P)).ins 2 (boot_o_2 P)).ins 3 (boot_o_3 P)).ins 4 (boot_o_4 P)).ins 5 (boot_o_5 P)).ins 6 (boot_o_6 P)).ins 7 (boot_o_7 P)).ins 8 (boot_o_8 P)).ins 9 (boot_o_9 P)).ins 10 (boot_o_10 P)
noncomputable def s0 (w:World) (os:OsState):SharedT:=⟨T0 w.params,11,{},#[],boot_drawn,boot_toks,os⟩
theorem Mj (w:World) (os:OsState):(s0 w os).abs=⟨boot_heap w.params,#[],boot_drawn,boot_toks,os⟩:=by kernel_rfl
noncomputable def gF (w:World) (os:OsState):Option SharedT:=qH (Fast.tw11892475500146522536 Fast.tw14364793385576792824) pw w 11 (some (.ref 6)) N (s0 w os) (topStub pw)
noncomputable def Kr (w:World) (s₁:Shared):Bool:=staticsOk (importedModules pw.main.body) (boot_heap w.params) s₁.heap&&namesBound pw s₁.heap&&gensDone s₁&&laidKept (boot_heap w.params) s₁.heap
noncomputable def row:String:="special-get-raises"
noncomputable def gT (s:SharedT) (a:Addr):Option Obj:=match Nat.blt a s.n with
 |true=>alive ((s.tree.get a).getD default)
 |false=>none
theorem Oc (s:SharedT):s.abs.heap.get?=gT s:=funext fun a=>by
 unfold gT SharedT.abs Heap.get?
 dsimp only
 rw [absHeap_at]
 cases h:Nat.blt a s.n with
 |true=>
  rw [if_pos (show a <s.n from Nat.le_of_ble_eq_true h)]
  generalize (s.tree.get a).getD default=o
  obtain ⟨c,d,dt,sl⟩:=o
  cases dt<;>rfl
 |false=>rw [if_neg (fun q:a <s.n=>absurd (Nat.ble_eq_true_of_le q) (show ¬ Nat.blt a s.n=true from h▸Bool.false_ne_true))]
noncomputable def Mr (s:SharedT):Qb:=(Pz.map (gT s),gT s 368,(gT s 4).map fun o=>(o.cls,o.dict,o.data))
noncomputable def Mv (w:World) (s:SharedT):=(Kr w s.abs,Fast.tw4187177175401517315 vw MS (importedModules pw.main.body) Xr true s.abs,Mr s)
theorem r0:∀(w:World) (os:OsState),(gF (w.withFollow row false) os).map (Mv (w.withFollow row false))=some (true,openGood vw MS,zk (w.withFollow row false)):=by
 intro w os
 kernel_rfl
theorem r1:∀(w:World) (os:OsState),(gF (w.withFollow row true) os).map (Mv (w.withFollow row true))=some (true,openGood vw MS,zk (w.withFollow row true)):=by
 intro w os
 kernel_rfl
theorem r2 (w:World) (os:OsState):(gF w os).map (Mv w)=some (true,openGood vw MS,zk w):=by
 have e:=World.withFollow_self w row
 cases hb:w.params.followText row with
 |false=>rw [hb] at e;rw [←e];exact r0 _ _
 |true=>rw [hb] at e;rw [←e];exact r1 _ _
theorem PG:LeftO pw vw MS Xr uw zk N:=fun w=>by
 refine ab (Option.map_eq_some_iff.mp (boot_open (p:=pw) (N:=N) (by kernel_rfl) (by decide) (fun s=>by rfl) w)) fun s₀ a b=>?_
 obtain ⟨heap,gens,drawn,toks,os⟩:=s₀
 refine bC (Prod.mk.inj b) fun zr28 b=>?_;subst zr28
 refine bC (Prod.mk.inj b) fun zr29 b=>?_;subst zr29
 refine bC (Prod.mk.inj b) fun zr30 zr31=>?_;subst zr30;subst zr31
 refine ab (Option.map_eq_some_iff.mp (r2 w os)) fun st h1 h2=>?_
 refine bC (Prod.mk.inj h2) fun a1 h2=>?_
 refine bC (Prod.mk.inj h2) fun a2 a3=>?_
 have h:=nq h1
 rw [Mj] at h
 unfold openEnds
 rw [a,Option.bind_some]
 unfold topFrom
 have e1:((boot_heap w.params).isNs mainGlobals&&(Array.mk []:Array GenState).size==0)=true:=by kernel_rfl
 have e2:(boot_heap w.params).objs.size=11:=by kernel_rfl
 have e3:(boot_heap w.params).nsMap mainGlobals "__annotations__"=some (.ref 6):=by kernel_rfl
 dsimp only
 rw [e1,e2,e3]
 dsimp only
 rw [show topRun treeTable pw w 11 (some (.ref 6)) N ⟨boot_heap w.params,Array.mk [],boot_drawn,boot_toks,os⟩ (topStub pw)=some st.abs from h,Option.bind_some]
 unfold Kr at a1
 rw [a1]
 dsimp only
 rw [Option.map_some,Fast.te4187177175401517315,a2,show uw st.abs=zk w from (by unfold uw;rw [Oc];exact a3)]
noncomputable def Sub (h h':Heap):Prop:=∀b o,h.get? b=some o→h'.get? b=some o
theorem Sub.rfl' {h:Heap}:Sub h h:=fun V V e=>e
theorem Sub.trans {a b c:Heap} (x:Sub a b) (y:Sub b c):Sub a c:=fun V V e=>y _ _ (x _ _ e)
theorem Sub.push {h:Heap} (o:Obj):Sub h (h.push o):=fun V V e=>Heap.get?_push_of_some _ e
theorem tA {n i:Nat} (h:i <n):∃k,n - i=k+1∧n - (i+1)=k:=a9 (n - (i+1)) ((Nat.succ_pred_eq_of_pos (Nat.sub_pos_of_lt h)).symm) rfl
theorem bR {n k:Nat} (h:n≤k) (hk:autoParam (k≤100000) aD):n≤sizeLine:=by rw [sizeLine_eq];exact QS h hk lr
structure cA (w:World) (h:Heap):Prop where
 k:(K w.params).In h
 t:∃p loose mg mb,TopRead p loose mg mb h
theorem cA.keeps {w:World} {h h':Heap} (x:cA w h) (k:Sub h h'):cA w h':=
 ⟨x.k.keeps k,cI x.t fun p l mg mb t=>⟨p,l,mg,mb,t.keeps k⟩⟩
noncomputable abbrev sh (s:Shared) (h:Heap) (t:Nat):Shared:={s with heap:=h,toks:=t}
noncomputable def bg {α:Type} (w:World) (A:Around) (t:Sem α) (s:Shared) (R:α→Heap→Prop):Prop:=
 ∀(Q:α→Shared→Prop) (E:Value→Shared→Prop),(∀a h' t',R a h'→Q a (sh s h' t'))→wpAny (model pw w) A t Q E s
noncomputable def Qn:Flow→Value | .ret v=>v |_=>.none
noncomputable def nx (c:Bool):Flow:=cond c .next .cont
variable {A:Around}
section
variable {α:Type} {w:World} {s:Shared}
noncomputable def Nx (w:World) (A:Around) (rest:List Stmt) (env:Env) (s:Shared) (RF:Flow→Heap→Prop):Flow→Heap→Prop
 | .next,h=>∀t,bg w A (execs rest env) (sh s h t) RF
 |f,h=>RF f h
theorem bg.mono {t:Sem α} {R R':α→Heap→Prop} (h:bg w A t s R) (k:∀a h',R a h'→R' a h'):bg w A t s R':=fun Q E q=>h Q E fun a h' t' r=>q a h' t' (k a h' r)
end
inductive D where
 |none |bool (b:Bool) |int (i:Int) |str (x:Str) |tup (ds:List D) |ref (a:Addr)
noncomputable abbrev e7 (vs:List Value) (n:Nat):Obj:={cls:=.type "tuple",data:=.seq vs.toArray n}
mutual
inductive RD (h:Heap):Value→D→Prop
 |none:RD h .none .none
 |bool (b):RD h (.bool b) (.bool b)
 |int (i t):RD h (.int i t) (.int i)
 |str (x t):RD h (.str x t) (.str x)
 |tup {a vs n ds}:h.get? a=some (e7 vs n)→bp h vs ds→RD h (.ref a) (.tup ds)
 |ref (a):RD h (.ref a) (.ref a)
inductive bp (h:Heap):List Value→List D→Prop
 |nil:bp h [] []
 |cons {v vs d ds}:RD h v d→bp h vs ds→bp h (v::vs) (d::ds)
end
inductive Kj |tup (vs:List Value) |code (vs:Array Value) (d:Option Addr) (sl:Array (Option Value))
noncomputable def Kj.obj:Kj→Nat→Obj | .tup vs,n=>e7 vs n | .code vs d sl,_=>{cls:=.type "code",data:=.fields vs,dict:=d,slots:=sl}
theorem Kj.cls (k:Kj) (n:Nat):(k.obj n).cls= .type "tuple"∨(k.obj n).cls= .type "code":=by cases k;exact .inl rfl;exact .inr rfl
theorem fW {k:Kj} {n:Nat} {o:Obj} {es ep} (e:some (k.obj n)=some o) (hd:o.data= .dict es ep):False:=by cases e;cases k<;>cases hd
theorem ia {k:Kj} {n:Nat} {o:Obj} (e:some (k.obj n)=some o) (h:autoParam (o.cls≠ .type "tuple") aD) (h':autoParam (o.cls≠ .type "code") aD):False:=by cases e;exact (k.cls n).elim h h'
noncomputable def bl (h h':Heap):Prop:=∀a (k:Kj) n,h.get? a=some (k.obj n)→h'.get? a=some (k.obj n)
theorem bl.tup {h h':Heap} (t:bl h h') {a:Addr} {vs:List Value} {n:Nat} (e:h.get? a=some (e7 vs n)):h'.get? a=some (e7 vs n):=t a (.tup vs) n e
theorem bl.code {h h':Heap} (t:bl h h') {a:Addr} {o:Obj} {vs:Array Value} (e:h.get? a=some o) (hc:o.cls= .type "code") (hd:o.data= .fields vs):h'.get? a=some o:=by
 obtain ⟨c,d,da,sl⟩:=o;cases hc;cases hd;exact t a (.code vs d sl) 0 e
theorem bl.trans {a b c:Heap} (x:bl a b) (y:bl b c):bl a c:=fun V V V e=>y _ _ _ (x _ _ _ e)
theorem Sub.t {h h':Heap} (x:Sub h h'):bl h h':=fun V V V e=>x _ _ e
theorem RD.mono {h h':Heap} (k:bl h h') {v:Value} {d:D} (r:RD h v d):RD h' v d:=
 RD.rec (motive_1:=fun v d V=>RD h' v d) (motive_2:=fun vs ds V=>bp h' vs ds) .none .bool .int .str (fun e V i=>.tup (k.tup e) i) .ref .nil (fun V V i j=>.cons i j) r
theorem bp.mono {h h':Heap} (k:bl h h') {vs:List Value} {ds:List D} (r:bp h vs ds):bp h' vs ds:=
 bp.rec (motive_1:=fun v d V=>RD h' v d) (motive_2:=fun vs ds V=>bp h' vs ds) .none .bool .int .str (fun e V i=>.tup (k.tup e) i) .ref .nil (fun V V i j=>.cons i j) r
theorem noA {α:Type _} {x:α} {G:Prop} (e:none=some x):G:=nomatch e
theorem noB {α:Type _} {x:α} {G:Prop} (e:some x=none):G:=nomatch e
theorem noD {G:Prop} (e:false=true):G:=nomatch e
theorem noM {α:Type _} {x:α} {G:Prop} (e:x∈ []):G:=nomatch e
theorem bp.ind {h:Heap} {P:List Value→List D→Prop} (n:P [] []) (c:∀v vs d ds,RD h v d→bp h vs ds→P vs ds→P (v::vs) (d::ds)) {vs:List Value} {ds:List D} (r:bp h vs ds):P vs ds:=
 bp.rec (motive_1:=fun V V V=>True) (motive_2:=fun vs ds V=>P vs ds) trivial (fun V=>trivial) (fun V V=>trivial) (fun V V=>trivial) (fun V V V=>trivial) (fun V=>trivial) n (fun a r V i=>c _ _ _ _ a r i) r
theorem bp.length {h:Heap} {vs:List Value} {ds:List D} (r:bp h vs ds):vs.length=ds.length:=
 bp.ind (P:=fun vs ds=>vs.length=ds.length) rfl (fun V V V V V V e=>congrArg (· +1) e) r
theorem bp.get {h:Heap} {vs:List Value} {ds:List D} (r:bp h vs ds) {k:Nat} {d:D} (e:ds[k]? =some d):∃v,vs[k]? =some v∧RD h v d:=
 bp.ind (P:=fun vs ds=>∀(k:Nat) (d:D),ds[k]? =some d→∃v,vs[k]? =some v∧RD h v d) (fun V V e=>noA e) (fun v V V V a V i k=>k.casesOn (fun V e=>a9 v rfl (Option.some.inj e▸a)) fun k=>i k) r k d e
theorem bp.take {h:Heap} {vs:List Value} {ds:List D} (r:bp h vs ds) (k:Nat):bp h (vs.take k) (ds.take k):=
 bp.ind (P:=fun vs ds=>∀k,bp h (vs.take k) (ds.take k)) (fun k=>k.casesOn .nil fun V=>.nil) (fun V V V V a V i k=>k.casesOn .nil fun k=>.cons a (i k)) r k
theorem bp.append {h:Heap} {vs ws:List Value} {ds es:List D} (r:bp h vs ds) (k:bp h ws es):bp h (vs++ws) (ds++es):=
 bp.ind (P:=fun vs ds=>bp h (vs++ws) (ds++es)) k (fun V V V V a V i=>.cons a i) r
theorem RD.isTup {h:Heap} {v:Value} {ds:List D} (r:RD h v (.tup ds)):∃a vs n,v= .ref a∧h.get? a=some (e7 vs n)∧bp h vs ds:=by
 cases r with |tup e r=>exact ⟨_,_,_,rfl,e,r⟩
theorem ki {h:Heap} {a:Addr} {vs:List Value} {n:Nat} (e:h.get? a=some (e7 vs n)):IsTup h a vs.toArray:=yb _ e rfl n rfl
theorem RD.handed {h:Heap} {v:Value} {d:D} (r:RD h v d):handedIn v=true:=by cases r<;>rfl
theorem Pb {α:Type _} {P:α→Prop}:∀z∈([]:List α),P z:=fun V h=>noM h
theorem BP {α:Type _} {P:α→Prop} {a:α} {l:List α} (p:P a) (q:∀z∈l,P z):∀z∈a::l,P z:=fun z h=>(List.mem_cons.mp h).elim (fun e=>e▸p) (q z)
theorem MZ {α:Type _} {P:α→Prop} {l m:List α} (p:∀z∈l,P z) (q:∀z∈m,P z):∀z∈l++m,P z:=fun z h=>(List.mem_append.mp h).elim (p z) (q z)
theorem gz {α:Type _} {P:α→Prop} {a:α} (p:P a):∀z∈ [a],P z:=BP p Pb
theorem DO {α:Type _} {P:α→Prop} {a b:α} (p0:P a) (p1:P b):∀z∈ [a,b],P z:=BP p0 (gz p1)
theorem ON {α:Type _} {P:α→Prop} {a b c:α} (p0:P a) (p1:P b) (p2:P c):∀z∈ [a,b,c],P z:=BP p0 (DO p1 p2)
theorem QY {α:Type _} {P:α→Prop} {a b c d:α} (p0:P a) (p1:P b) (p2:P c) (p3:P d):∀z∈ [a,b,c,d],P z:=BP p0 (ON p1 p2 p3)
theorem ur {α:Type _} {x a:α} (h:x∈ [a]):x=a:=List.mem_singleton.mp h
theorem Cv {α:Type _} {x a b:α} (h:x∈ [a,b]):x=a∨x=b:=(List.mem_cons.mp h).imp_right ur
theorem PI {α:Type _} {x a b c:α} (h:x∈ [a,b,c]):x=a∨x=b∨x=c:=(List.mem_cons.mp h).imp_right Cv
theorem Qw {α:Type _} {x a b c d:α} (h:x∈ [a,b,c,d]):x=a∨x=b∨x=c∨x=d:=(List.mem_cons.mp h).imp_right PI
noncomputable def QW (v:Value) (G:Prop):D→Prop
 | .none=>.none=v→G
 | .bool b=>.bool b=v→G
 | .int i=>∀t,.int i t=v→G
 | .str x=>∀t,.str x t=v→G
 | .ref a=>.ref a=v→G
 | .tup _=>False
theorem iv {h:Heap} {v:Value} {d:D} {G:Prop} (r:RD h v d) (k:QW v G d):G:=by
 cases r with
 |none=>exact k rfl
 |bool=>exact k rfl
 |int=>exact k _ rfl
 |str=>exact k _ rfl
 |ref=>exact k rfl
 |tup=>exact k.elim
theorem EO {h:Heap} {v:Value} {i:Int} {G:Prop} (r:RD h v (.int i)) (k:∀t,.int i t=v→G):G:=by cases r;exact k _ rfl
theorem ivC {h:Heap} {vs:List Value} {d:D} {ds:List D} {G:Prop} (r:bp h vs (d::ds)) (k:∀v ws,RD h v d→bp h ws ds→v::ws=vs→G):G:=by cases r with |cons a b=>exact k _ _ a b rfl
structure ma where
 m:Str→Option Value
 c:Str→Option Value:=fun V=>none
structure At (env:Env) (h0:Heap) (m:ma) (h:Heap):Prop where
 sub:Sub h0 h
 ns:h.Ns env.locals m.m
 cs:∀n a,env.cells.lookup n=some a→h.IsCell a (m.c n)
theorem At.step {env:Env} {h0 h h':Heap} {m:ma} (x:At env h0 m h) (k:Sub h h'):At env h0 m h':=⟨x.sub.trans k,x.ns.keeps k,fun n a e=>(x.cs n a e).keeps k⟩
theorem At.here {env:Env} {h0 h:Heap} {m:ma} (x:At env h0 m h):At env h m h:=⟨Sub.rfl',x.ns,x.cs⟩
noncomputable def Q3 (w:World) (A:Around) (env:Env) (h0:Heap) (m:ma) (e:Expr) (V0:Value→Heap→Prop):Prop:=
 ∀s,At env h0 m s.heap→bg w A (eval e env) s fun v h'=>Sub s.heap h'∧V0 v h'
noncomputable def Ev (w:World) (A:Around) (env:Env) (h0:Heap) (m:ma) (e:Expr) (d:D):Prop:=Q3 w A env h0 m e fun v h'=>RD h' v d
noncomputable def w9 (w:World) (A:Around) (env:Env) (h0:Heap) (m:ma) (e:Expr) (b:Bool):Prop:=
 ∀s,At env h0 m s.heap→bg w A (isTrue e env (eval e env)) s fun c h'=>Sub s.heap h'∧c=b
variable {env:Env} {h0:Heap} {m:ma} {e e2:Expr} {pos:Pos} {d:D} {b:Bool}
section
variable {w:World} {i j:Int}
theorem cw {x:Str} {v:Value} (hv:m.m x=some v) (r:RD h0 v d)
  (hk:autoParam (env.scope.kind= .function) aF) (hl:autoParam (env.kindOf x=some .local) aL) (hd:autoParam ((x==("__debug__":Str))=false) aE):Ev w A env h0 m (.Name x pos) d:=
 fun s k Q E q=>wpAny_Name (wpAny_loadName_local hk hl k.ns hv (q v s.heap s.toks ⟨Sub.rfl',r.mono k.sub.t⟩)) hd
theorem HL {x:Str} {v:Value} {c:Addr} (hv:m.c x=some v) (r:RD h0 v d) (hc:env.cells.lookup x=some c)
  (hk:autoParam (env.scope.kind= .function) aF) (hl:autoParam (env.kindOf x=some .cell) aR) (hd:autoParam ((x==("__debug__":Str))=false) aE):Ev w A env h0 m (.Name x pos) d:=
 fun s k Q E q=>wpAny_Name (wpAny_loadName_cell hk hl hc (hv▸k.cs x c hc) (q v s.heap s.toks ⟨Sub.rfl',r.mono k.sub.t⟩)) hd
theorem pE {x:Str} {v:Value} (P:cA w h0) (hg:env.globals=mainGlobals) (e:nsIn (K w.params) mainGlobals x=some (some v)) (r:RD h0 v d)
  (hk:autoParam (env.scope.kind= .function) aF) (hx:autoParam (env.kindOf x=some .globalImplicit) aG) (hd:autoParam ((x==("__debug__":Str))=false) aE):Ev w A env h0 m (.Name x pos) d:=by
 intro s k Q E q
 refine cI P.t fun p l mg mb t=>?_
 exact Name_function_global hk hx (loadGlobal_global (by rw [hg];exact t.g.keeps k.sub) (mg_of P.k t.g e) (q v s.heap s.toks ⟨Sub.rfl',r.mono k.sub.t⟩)) hd
theorem gc {k:Nat}:Ev w A env h0 m (.Constant (.int i) k pos) (.int i):=fun s V Q E q=>wpAny_Constant_int (q _ _ _ ⟨Sub.rfl',.int i _⟩)
theorem MH {x:Str} {k:Nat}:Ev w A env h0 m (.Constant (.str x) k pos) (.str x):=fun s V Q E q=>Constant_str (q _ _ _ ⟨Sub.rfl',.str x _⟩)
theorem BY {k:Nat}:Ev w A env h0 m (.Constant (.bool b) k pos) (.bool b):=fun s V Q E q=>Constant_bool (q _ s.heap s.toks ⟨Sub.rfl',.bool b⟩)
theorem IJ {k:Nat}:Ev w A env h0 m (.Constant .none k pos) .none:=fun s V Q E q=>Constant_none (q _ s.heap s.toks ⟨Sub.rfl',.none⟩)
structure sI (h:Heap) (x C dx:Addr) (es:List DictEntry) (n:Nat):Prop where
 i:h.get? x=some (instObj C dx)
 d:h.get? dx=some (dictOf es n)
theorem sI.at' {h:Heap} {x C dx:Addr} {es:List DictEntry} {n:Nat} (I:sI h x C dx es n):InstAt h x (instObj C dx) C (some (dictOf es n)):=⟨I.i,rfl,rfl,I.d⟩
theorem sI.keeps {h h':Heap} {x C dx:Addr} {es:List DictEntry} {n:Nat} (I:sI h x C dx es n) (k:Sub h h'):sI h' x C dx es n:=⟨k _ _ I.i,k _ _ I.d⟩
noncomputable def jA (K:Frag) (C:Addr) (name:Str):Bool:=plainGet K C name&&hasDictIn K C&&findIn K (.ref C) name==some none
theorem Ax {K:Frag} {C:Addr} {name:Str} {es:List DictEntry} {n:Nat} {v:Value} (o:jA K C name=true) (g:getL name es=some (some v)):findObj K C (some (dictOf es n)) name=some (.value v):=by
 simp only [jA,Bool.and_eq_true,beq_iff_eq] at o
 exact findObj_own o.1.2 o.2 rfl g
theorem Jv {name:Str} {x C dx:Addr} {es:List DictEntry} {n:Nat} {v:Value} (P:cA w h0) (he:Ev w A env h0 m e (.ref x)) (I:sI h0 x C dx es n) (o:jA (K w.params) C name=true) (g:getL name es=some (some v)) (r:RD h0 v d)
  (hm:autoParam (eval (.Attribute e name pos) env=(do
   let o←eval e env
   standAt pos.atName
   let r←holding [o] (getAttr o name true)
   letTemporaryGo e o r
   pure r)) aW):
  Ev w A env h0 m (.Attribute e name pos) d:=by
 intro s k Q E q
 refine Attribute_any_ (he s k _ _ fun v' h' t'=>av fun k' r'=>?_) hm
 cases r'
 have kk:=k.sub.trans k'
 have o':=o
 simp only [jA,Bool.and_eq_true] at o'
 exact get_value (P.k.keeps kk) (I.keeps kk).at' (plainGet_of o'.1.1).1 (Ax o g) r.handed (q v h' _ ⟨k',r.mono kk.t⟩)
theorem HV {ds:List D} {k:Nat} (he:Ev w A env h0 m e (.tup ds)) (hi:Ev w A env h0 m e2 (.int k)) (hd:ds[k]? =some d) (hk:autoParam (k <1000) aD)
  (hs:autoParam (∀o i,subscripted e2 false o i=operate [o,i] (getItem o i)) aJ):Ev w A env h0 m (.Subscript e e2 pos) d:=by
 intro s ks Q E q
 refine Subscript_ (he s ks _ _ fun v1 h1 t1=>av fun k1 r1=>?_)
 refine hi (sh s h1 t1) (ks.step k1) _ _ fun v2 h2 t2=>av fun k2 r2=>?_
 cases r2
 obtain ⟨a,vs,n,rfl,ha,rs⟩:=(r1.mono k2.t).isTup
 refine ab (rs.get hd) fun v hv hr=>?_
 have hlen:=rs.length
 have hlt:k <vs.length:=(List.getElem?_eq_some_iff.mp hv).1
 have hT:((sh s h2 t2):Shared).TypeIs (.ref a) "tuple":=a9 _ ha rfl
 refine tail_any hT slot_tuple_getitem.lookup ?_ (hs _ _)
 refine getItem_tuple (ki ha) (Int.le_trans (by decide) (Int.natCast_nonneg k)) (Int.lt_trans (Int.ofNat_lt.mpr hk) (by decide)) (j:=k) ?_ (by simpa using hv) (q v h2 t2 ⟨k1.trans k2,hr⟩)
 simp only [List.size_toArray]
 unfold seqIndex?
 simp
 rw [if_neg (fun z=>absurd (Int.natCast_nonneg k) (Int.not_le_of_gt z))]
 exact ⟨⟨Int.natCast_nonneg k,Int.ofNat_lt.mpr hlt⟩,Int.toNat_natCast k⟩
end
set_option hygiene false in
local macro_rules | `(tactic|cases $t:elimTarget)=>do
 let x:Lean.Ident:=⟨t.raw[1]⟩
 if !t.raw[0].isNone|| !x.raw.isIdent then Lean.Macro.throwUnsupported
 let a:= #[`Mine.noA,`Mine.noB,`Mine.noC,`Mine.noD,`Mine.noM].map fun n=>Lean.Syntax.mkApp (Lean.mkIdent n) #[x]
 `(tactic|first
  |subst $x $[|(with_reducible exact $a)]*
  |(with_reducible refine Mine.noE $x ?_;clear $x)
  |(have zq:=Option.some.inj $x;clear $x;cases zq)
  |(refine Mine.iv $x ?_;clear $x;first |(intro zq;subst zq) |(intro _ zq;subst zq) |(intro _ zq;cases zq) |(intro zq;cases zq))
  |(refine Mine.ivL $x ?_;clear $x;intro zq;cases zq)
  |(injection $x;done)
  |(injection $x with zq zr zs;cases zq;cases zr;cases zs)
  |(injection $x with zq zr;cases zq;cases zr)
  |(injection $x with zq;cases zq)
  |cases ($x))
set_option hygiene false in
local macro_rules | `(tactic|cases $x:ident with |cons $a:ident $b:ident=> $s:tacticSeq)=> `(tactic|first
  |(refine Mine.ivC $x ?_;clear $x;intro _ _ $a:ident $b:ident zq;cases zq;($s))
  |cases ($x) with |cons $a $b=> $s)
structure Rm (n:Nat) (A:Around):Prop where
 d:A.depth+n <recursionLimit
 u:A.units+20*n+20 <cLine
 h:A.handled=none
theorem Rm.deeper {n:Nat} {A:Around} (r:Rm (n+1) A) (env:Env):Rm n (A.deeper env):=
 ⟨by have:=r.d;show A.depth+1+n <_;lia,by have:=r.u;show A.units+3+20*n+20 <_;lia,r.h⟩
theorem Rm.depth {n:Nat} {A:Around} (r:Rm n A):A.depth <recursionLimit:=by have:=r.d;exact Qr this
theorem Rm.u50 {n:Nat} {A:Around} (r:Rm (n+2) A):A.units+50 <cLine:=by have:=r.u;exact PH this lr
theorem Rm.units {n:Nat} {A:Around} (r:Rm n A):A.units <cLine:=by have:=r.u;lia
variable {e1:Expr} {d1 d2:D} {b1 b2:Bool}
section
variable {w:World} {e3:Expr} {i j:Int} {rest:List Expr}
noncomputable def iD (w:World) (A:Around) (h0:Heap) (op:CmpOp) (d1 d2:D) (b:Bool):Prop:=
 ∀s v1 v2,Sub h0 s.heap→RD s.heap v1 d1→RD s.heap v2 d2→bg w A (compareOp op v1 v2) s fun v h'=>Sub s.heap h'∧v= .bool b
theorem jF:iD w A h0 .Eq (.int i) (.int j) (i==j):=fun s v1 v2 V r1 r2 Q E q=>by cases r1;cases r2;exact P.eq_int (q _ s.heap s.toks ⟨Sub.rfl',rfl⟩)
theorem nf:iD w A h0 .NotEq (.int i) (.int j) (i !=j):=fun s v1 v2 V r1 r2 Q E q=>by cases r1;cases r2;exact P.ne_int (q _ s.heap s.toks ⟨Sub.rfl',rfl⟩)
theorem zC:iD w A h0 .Lt (.int i) (.int j) (decide (i <j)):=fun s v1 v2 V r1 r2 Q E q=>by cases r1;cases r2;exact P.lt_int (q _ s.heap s.toks ⟨Sub.rfl',rfl⟩)
theorem rK:iD w A h0 .LtE (.int i) (.int j) (decide (i≤j)):=fun s v1 v2 V r1 r2 Q E q=>by cases r1;cases r2;exact P.le_int (q _ s.heap s.toks ⟨Sub.rfl',rfl⟩)
theorem eU:iD w A h0 .Gt (.int i) (.int j) (decide (i >j)):=fun s v1 v2 V r1 r2 Q E q=>by cases r1;cases r2;exact P.gt_int (q _ s.heap s.toks ⟨Sub.rfl',rfl⟩)
theorem rF:iD w A h0 .GtE (.int i) (.int j) (decide (i≥j)):=fun s v1 v2 V r1 r2 Q E q=>by cases r1;cases r2;exact P.ge_int (q _ s.heap s.toks ⟨Sub.rfl',rfl⟩)
mutual
noncomputable def D.py:D→PyData
 | .none=>.none | .bool b=>.bool b | .int i=>.int i | .str x=>.str x | .ref _=>.none
 | .tup ds=>.tuple (D.pys ds)
noncomputable def D.pys:List D→List PyData
 | []=>[] |d::ds=>d.py::D.pys ds
end
mutual
noncomputable def D.flat:Nat→D→Bool
 |_,.none=>true |_,.bool _=>true |_,.int _=>true |_,.str x=>PyData.strOk x |_,.ref _=>false
 |0,.tup _=>false
 |n+1,.tup ds=>D.flats n ds
noncomputable def D.flats:Nat→List D→Bool
 |_,[]=>true |n,d::ds=>d.flat n&&D.flats n ds
end
theorem oA {n:Nat} {a:Addr} {G:Prop} (k:D.flat n (.ref a)=true):G:=by cases n<;>exact noD k
theorem RD.reads {h:Heap} {v:Value} {d:D} {n:Nat} (r:RD h v d) (f:d.flat n=true):∃as,Reads h v d.py as:=
 RD.rec (motive_1:=fun v d V=>∀n,d.flat n=true→∃as,Reads h v d.py as) (motive_2:=fun vs ds V=>∀n,D.flats n ds=true→∃as,ReadsAll h vs (D.pys ds) as)
  (fun V V=>⟨_,.none⟩) (fun b V V=>⟨_,.bool b⟩) (fun i t V V=>⟨_,.int i t⟩) (fun x t V V=>⟨_,.str x t⟩)
  (fun e V ih n f=>by
   cases n with
   |zero=>exact noD f
   |succ n=>exact (ih n f).elim fun as q=>⟨as,.tuple e rfl rfl q⟩)
  (fun V V f=>oA f) (fun V V=>⟨_,.nil⟩)
  (fun V V i1 i2 n f=>(i1 n (Bool.and_eq_true_iff.mp f).1).elim fun V q=>(i2 n (Bool.and_eq_true_iff.mp f).2).elim fun V p=>⟨_,.cons q p⟩) r n f
theorem D.lay {d:D} {n:Nat} (f:d.flat n=true):d.py.canLay0=true∧d.py.depth≤n:=
 D.rec (motive_1:=fun d=>∀n,d.flat n=true→d.py.canLay0=true∧d.py.depth≤n) (motive_2:=fun ds=>∀n,D.flats n ds=true→PyData.canLayAll0 (D.pys ds)=true∧PyData.depthAll (D.pys ds)≤n)
  (fun V V=>⟨rfl,Nat.zero_le _⟩) (fun V V V=>⟨rfl,Nat.zero_le _⟩) (fun V V V=>⟨rfl,Nat.zero_le _⟩)
  (fun V n f=>⟨by cases n<;>exact f,Nat.zero_le _⟩)
  (fun ds ih n f=>by
   cases n with
   |zero=>exact noD f
   |succ n=>exact ⟨(ih n f).1,Nat.succ_le_succ (ih n f).2⟩)
  (fun V V f=>oA f) (fun V V=>⟨rfl,Nat.zero_le _⟩)
  (fun V V i1 i2 n f=>⟨Bool.and_eq_true_iff.mpr ⟨(i1 n (Bool.and_eq_true_iff.mp f).1).1,(i2 n (Bool.and_eq_true_iff.mp f).2).1⟩,Nat.max_le.mpr ⟨(i1 n (Bool.and_eq_true_iff.mp f).1).2,(i2 n (Bool.and_eq_true_iff.mp f).2).2⟩⟩) d n f
theorem bp.reads {h:Heap} {vs:List Value} {ds:List D} {n:Nat} (r:bp h vs ds):D.flats n ds=true→∃as,ReadsAll h vs (D.pys ds) as:=
 bp.ind (P:=fun vs ds=>D.flats n ds=true→∃as,ReadsAll h vs (D.pys ds) as) (fun V=>⟨_,.nil⟩) (fun V V V V a V i f=>(a.reads (Bool.and_eq_true_iff.mp f).1).elim fun V q=>(i (Bool.and_eq_true_iff.mp f).2).elim fun V p=>⟨_,.cons q p⟩) r
theorem D.lays {ds:List D} {n:Nat} (f:D.flats n ds=true):PyData.canLayAll0 (D.pys ds)=true∧PyData.depthAll (D.pys ds)≤n:=⟨(D.lay (d:=.tup ds) (n:=n+1) f).1,Nat.le_of_succ_le_succ (D.lay (d:=.tup ds) (n:=n+1) f).2⟩
noncomputable def D.eqv (d e:D):Bool:=PyData.eqv d.py e.py
theorem pe {n:Nat} (R:Rm n A) (f1:autoParam (d1.flat 9=true) aD) (f2:autoParam (d2.flat 9=true) aD):iD w A h0 .Eq d1 d2 (d1.eqv d2):=fun s v1 v2 V r1 r2 Q E q=>by
 refine cQ (r1.reads f1) fun as a=>?_
 refine cQ (r2.reads f2) fun bs b=>?_
 have l1:=D.lay f1
 have l2:=D.lay f2
 exact SeqAt.compareEq_reads a b l1.1 l2.1 (PM R.u (Nat.le_trans l1.2 (Nat.le_of_ble_eq_true rfl))) (q _ s.heap s.toks ⟨Sub.rfl',rfl⟩)
theorem mV {n:Nat} (R:Rm n A) (f1:autoParam (d1.flat 9=true) aD) (f2:autoParam (d2.flat 9=true) aD):iD w A h0 .NotEq d1 d2 (!d1.eqv d2):=fun s v1 v2 V r1 r2 Q E q=>by
 refine cQ (r1.reads f1) fun as a=>?_
 refine cQ (r2.reads f2) fun bs b=>?_
 have l1:=D.lay f1
 have l2:=D.lay f2
 exact SeqAt.compareNe_reads a b l1.1 l2.1 (PM R.u (Nat.le_trans l1.2 (Nat.le_of_ble_eq_true rfl))) (q _ s.heap s.toks ⟨Sub.rfl',rfl⟩)
noncomputable def D.isNone:D→Bool | .none=>true |_=>false
theorem yh:iD w A h0 .Is d .none d.isNone:=fun s v1 v2 V r1 r2 Q E q=>by
 cases r2
 cases r1<;>exact wpAny_is_plain (by rfl) (q _ s.heap s.toks ⟨Sub.rfl',by rfl⟩)
theorem fU:iD w A h0 .IsNot d .none (!d.isNone):=fun s v1 v2 V r1 r2 Q E q=>by
 cases r2
 cases r1<;>exact wpAny_isNot_plain (by rfl) (q _ s.heap s.toks ⟨Sub.rfl',by rfl⟩)
theorem Ay {op:CmpOp} (h1:Ev w A env h0 m e1 d1) (h2:Ev w A env h0 m e2 d2) (hc:iD w A h0 op d1 d2 b) (hm:autoParam (behindInMarks op e2=false) aW):Ev w A env h0 m (.Compare e1 [op] [e2] pos) (.bool b):=by
 intro s k Q E q
 refine wpAny_Compare1 (h1 s k _ _ fun v1 g1 t1=>av fun k1 r1=>?_) hm
 refine h2 (sh s g1 t1) (k.step k1) _ _ fun v2 g2 t2=>av fun k2 r2=>?_
 refine hc (sh s g2 t2) v1 v2 ((k.sub.trans k1).trans k2) (r1.mono k2.t) r2 _ _ fun v3 g3 t3=>av fun k3 r3=>?_
 exact q v3 g3 t3 ⟨(k1.trans k2).trans k3,by rw [r3];exact .bool b⟩
theorem qG {op:CmpOp} (h1:Ev w A env h0 m e1 d1) (h2:Ev w A env h0 m e2 d2) (hc:iD w A h0 op d1 d2 b) (hm:autoParam (behindInMarks op e2=false) aW):w9 w A env h0 m (.Compare e1 [op] [e2] pos) b:=by
 intro s k Q E q
 refine wpAny_isTrue_Compare1 (h1 s k _ _ fun v1 g1 t1=>av fun k1 r1=>?_) hm
 refine h2 (sh s g1 t1) (k.step k1) _ _ fun v2 g2 t2=>av fun k2 r2=>?_
 refine hc (sh s g2 t2) v1 v2 ((k.sub.trans k1).trans k2) (r1.mono k2.t) r2 _ _ fun v3 g3 t3=>av fun k3 r3=>?_
 rw [r3]
 exact wpAny_truthy_bool (q b g3 t3 ⟨(k1.trans k2).trans k3,rfl⟩)
theorem L9 (h1:Ev w A env h0 m e (.bool b)) (he:autoParam (∀whole,isTrue e env whole=(do let v←whole;standAt e.pos;holding [v] (truthy v))) aI):w9 w A env h0 m e b:=by
 intro s k Q E q
 refine isTrue_plain (h1 s k _ _ fun v g t=>av fun k1 r1=>?_) (he _)
 cases r1
 exact wpAny_truthy_bool (q b g t ⟨k1,rfl⟩)
theorem Jf (h1:w9 w A env h0 m e b):w9 w A env h0 m (.UnaryOp .Not e pos) (!b):=by
 intro s k Q E q
 refine isTrue_not (h1 s k _ _ fun c g t=>av fun k1 r1=>?_)
 exact q _ g t ⟨k1,by rw [r1]⟩
theorem Fq:w9 w A env h0 m (.BoolOp .And [] pos) true:=fun s V Q E q=>isTrue_and_nil (q _ s.heap s.toks ⟨Sub.rfl',rfl⟩)
theorem HW:w9 w A env h0 m (.BoolOp .Or [] pos) false:=fun s V Q E q=>isTrue_or_nil (q _ s.heap s.toks ⟨Sub.rfl',rfl⟩)
theorem hV {op:BoolOp} {es:List Expr} {w1 w2:Sem Value}:isTrue (.BoolOp op es pos) env w1=isTrue (.BoolOp op es pos) env w2:=rfl
theorem I1 (h1:w9 w A env h0 m e b1) (h2:b1=true→w9 w A env h0 m (.BoolOp .And rest pos) b2):w9 w A env h0 m (.BoolOp .And (e::rest) pos) (b1&&b2):=by
 intro s k Q E q
 refine isTrue_and (h1 s k _ _ fun c g t=>av fun k1 r1=>?_)
 subst r1
 cases c with
 |false=>exact q _ g t ⟨k1,rfl⟩
 |true=>
  rw [if_pos rfl,hV (w2:=eval (.BoolOp .And rest pos) env)]
  exact h2 rfl (sh s g t) (k.step k1) _ _ fun c2 g2 t2=>av fun k2 r2=>q _ g2 t2 ⟨k1.trans k2,by rw [r2];rfl⟩
theorem MD (h1:w9 w A env h0 m e b1) (h2:b1=false→w9 w A env h0 m (.BoolOp .Or rest pos) b2):w9 w A env h0 m (.BoolOp .Or (e::rest) pos) (b1||b2):=by
 intro s k Q E q
 refine isTrue_or (h1 s k _ _ fun c g t=>av fun k1 r1=>?_)
 subst r1
 cases c with
 |true=>exact q _ g t ⟨k1,rfl⟩
 |false=>
  rw [if_neg (by decide),hV (w2:=eval (.BoolOp .Or rest pos) env)]
  exact h2 rfl (sh s g t) (k.step k1) _ _ fun c2 g2 t2=>av fun k2 r2=>q _ g2 t2 ⟨k1.trans k2,by rw [r2];rfl⟩
theorem K8 (h1:Ev w A env h0 m e (.bool b)):Ev w A env h0 m (.UnaryOp .Not e pos) (.bool (!b)):=by
 intro s k Q E q
 refine UnaryOp_ (h1 s k _ _ fun v g t=>av fun k1 r1=>?_)
 cases r1
 exact not_of (wpAny_truthy_bool (q _ g t ⟨k1,.bool _⟩))
theorem MG {op:BoolOp} (h1:Ev w A env h0 m e d):Ev w A env h0 m (.BoolOp op [e] pos) d:=h1
theorem Lk (h1:Ev w A env h0 m e1 (.bool b1)) (h2:b1=true→Ev w A env h0 m (.BoolOp .And (e2::rest) pos) (.bool b2)):Ev w A env h0 m (.BoolOp .And (e1::e2::rest) pos) (.bool (b1&&b2)):=by
 intro s k Q E q
 refine BoolOp_and (h1 s k _ _ fun v g t=>av fun k1 r1=>?_)
 cases r1
 refine wpAny_truthy_bool ?_
 cases b1 with
 |false=>exact q _ g t ⟨k1,.bool _⟩
 |true=>exact h2 rfl (sh s g t) (k.step k1) _ _ fun c2 g2 t2=>av fun k2 r2=>q _ g2 t2 ⟨k1.trans k2,r2⟩
theorem OF (h1:Ev w A env h0 m e1 (.bool b1)) (h2:b1=false→Ev w A env h0 m (.BoolOp .Or (e2::rest) pos) (.bool b2)):Ev w A env h0 m (.BoolOp .Or (e1::e2::rest) pos) (.bool (b1||b2)):=by
 intro s k Q E q
 refine BoolOp_or (h1 s k _ _ fun v g t=>av fun k1 r1=>?_)
 cases r1
 refine wpAny_truthy_bool ?_
 cases b1 with
 |true=>exact q _ g t ⟨k1,.bool _⟩
 |false=>exact h2 rfl (sh s g t) (k.step k1) _ _ fun c2 g2 t2=>av fun k2 r2=>q _ g2 t2 ⟨k1.trans k2,r2⟩
theorem KW (ht:w9 w A env h0 m e1 b) (h1:b=true→Ev w A env h0 m e2 d) (h2:b=false→Ev w A env h0 m e3 d):Ev w A env h0 m (.IfExp e1 e2 e3 pos) d:=by
 intro s k Q E q
 refine IfExp_ (ht s k _ _ fun c g t=>av fun k1 r1=>?_)
 subst r1
 cases c with
 |true=>exact h1 rfl (sh s g t) (k.step k1) _ _ fun c2 g2 t2=>av fun k2 r2=>q _ g2 t2 ⟨k1.trans k2,r2⟩
 |false=>exact h2 rfl (sh s g t) (k.step k1) _ _ fun c2 g2 t2=>av fun k2 r2=>q _ g2 t2 ⟨k1.trans k2,r2⟩
noncomputable def DK (w:World) (A:Around) (h0:Heap) (op:Operator) (d1 d2 d:D):Prop:=
 ∀s v1 v2,Sub h0 s.heap→RD s.heap v1 d1→RD s.heap v2 d2→bg w A (binaryOp op v1 v2) s fun v h'=>Sub s.heap h'∧RD h' v d
theorem fJ {op:Operator} (h1:Ev w A env h0 m e1 d1) (h2:Ev w A env h0 m e2 d2) (hc:DK w A h0 op d1 d2 d):Ev w A env h0 m (.BinOp e1 op e2 pos) d:=by
 intro s k Q E q
 refine wpAny_BinOp (h1 s k _ _ fun v1 g1 t1=>av fun k1 r1=>?_)
 refine h2 (sh s g1 t1) (k.step k1) _ _ fun v2 g2 t2=>av fun k2 r2=>?_
 refine hc (sh s g2 t2) v1 v2 ((k.sub.trans k1).trans k2) (r1.mono k2.t) r2 _ _ fun v3 g3 t3=>av fun k3 r3=>?_
 exact q v3 g3 t3 ⟨(k1.trans k2).trans k3,r3⟩
theorem vk:DK w A h0 .BitAnd (.int i) (.int j) (.int (Builtin.bitAnd i j)):=fun s v1 v2 V r1 r2 Q E q=>by cases r1;cases r2;exact and_int (q _ s.heap _ ⟨Sub.rfl',.int _ _⟩)
theorem GR:DK w A h0 .BitOr (.int i) (.int j) (.int (Builtin.bitOr i j)):=fun s v1 v2 V r1 r2 Q E q=>by cases r1;cases r2;exact or_int (q _ s.heap _ ⟨Sub.rfl',.int _ _⟩)
theorem HZ:DK w A h0 .BitXor (.int i) (.int j) (.int (Builtin.bitXor i j)):=fun s v1 v2 V r1 r2 Q E q=>by cases r1;cases r2;exact xor_int (q _ s.heap _ ⟨Sub.rfl',.int _ _⟩)
theorem e9:DK w A h0 .Add (.int i) (.int j) (.int (i+j)):=fun s v1 v2 V r1 r2 Q E q=>by cases r1;cases r2;exact add_int (q _ s.heap _ ⟨Sub.rfl',.int _ _⟩)
theorem je:DK w A h0 .Sub (.int i) (.int j) (.int (i - j)):=fun s v1 v2 V r1 r2 Q E q=>by cases r1;cases r2;exact sub_int (q _ s.heap _ ⟨Sub.rfl',.int _ _⟩)
noncomputable def Cj (w:World) (A:Around) (env:Env) (h0:Heap) (m:ma) (es:List Expr) (ds:List D):Prop:=
 ∀s pos,At env h0 m s.heap→bg w A (spliced (backTo pos (starEach es env))) s fun vs h'=>Sub s.heap h'∧bp h' vs ds
theorem gC:Cj w A env h0 m [] []:=fun s pos k Q E q=>args_nil (q _ s.heap s.toks ⟨Sub.rfl',.nil⟩)
theorem dF {es:List Expr} {ds:List D} (h1:Ev w A env h0 m e d) (h2:Cj w A env h0 m es ds) (he:autoParam (starEach (e::es) env=(false,eval e env)::starEach es env) aR):Cj w A env h0 m (e::es) (d::ds):=by
 intro s pos k Q E q
 refine args_cons (h1 s k _ _ fun v1 g1 t1=>av fun k1 r1=>?_) he
 refine h2 (sh s g1 t1) pos (k.step k1) _ _ fun vs g2 t2=>av fun k2 r2=>?_
 exact q _ g2 t2 ⟨k1.trans k2,.cons (r1.mono k2.t) r2⟩
theorem yc {es:List Expr} {ds:List D} {k0:Nat} (h:Cj w A env h0 m es ds) (hz:autoParam (ds.length≤100) aN):Ev w A env h0 m (.Tuple es k0 pos) (.tup ds):=by
 intro s k Q E q
 refine Tuple_ (h s pos k _ _ fun vs g t=>av fun k1 r1=>?_)
 refine wpAny_newTuple (q _ _ _ ⟨k1.trans (Sub.push _),.tup (Heap.get?_push_size _ rfl) (r1.mono (Sub.push _).t)⟩) ?_
 have:=r1.length
 rw [sizeLine_eq];exact zH this hz lr
end
structure O5 (P:Params) (f:Addr) (st:Stmt) (q:Str) (dfl pm cd:Value):Prop where
 o:(K P).lookup f=some ⟨.type "function",none,FN st q dfl pm cd,#[]⟩
 c:codeIn (K P) cd q=true
 plain:(cJ st q dfl pm cd).scope.isCoroutine=false∧(cJ st q dfl pm cd).scope.isGenerator=false∧(cJ st q dfl pm cd).scope.kind= .function
 cells:(cJ st q dfl pm cd).scope.names.all (fun x=>x.2 != .cell)=true
structure eB (P:Params) (f:Addr) (st:Stmt) (q:Str) (dfl pm cd:Value):Prop where
 o:(K P).lookup f=some ⟨.type "function",none,FN st q dfl pm cd,#[]⟩
 c:codeIn (K P) cd q=true
 plain:(cJ st q dfl pm cd).scope.isCoroutine=false∧(cJ st q dfl pm cd).scope.isGenerator=false∧(cJ st q dfl pm cd).scope.kind= .function
variable {es:List Expr} {p1:Pos} {ds:List D}
section
variable {w:World} {s:Shared}
theorem zV {f:Addr} {st:Stmt} {q:Str} {dfl pm cd:Value} {args:List Value} {binds:List (Str×Value)} {n:Nat} (r:Rm (n+1) A) (P:cA w s.heap) (F:O5 w.params f st q dfl pm cd)
  (hbind:BindsTo s (cJ st q dfl pm cd) ⟨args,[]⟩ binds) (hloc:(binds.all fun x=>(cJ st q dfl pm cd).scope.names.lookup x.1==some .local)=true)
  {R:Value→Heap→Prop}
  (h:∀h1 t1,Sub s.heap h1→h1.Ns s.heap.objs.size (fun x=>binds.reverse.lookup x)→Rm n (A.deeper (callEnv (cJ st q dfl pm cd) s.heap.objs.size f))→
   bg w (A.deeper (callEnv (cJ st q dfl pm cd) s.heap.objs.size f)) (execs (cu st) (callEnv (cJ st q dfl pm cd) s.heap.objs.size f)) (sh s h1 t1) fun fl h'=>R (Qn fl) h'):
  bg w A (call (.ref f) args) s R:=by
 intro Q E k
 refine cI P.t fun p l mg mb t=>?_
 have ho:=P.k _ _ F.o
 refine wpAny_call (codeAny_call_def (fd:=cJ st q dfl pm cd) r.depth ho rfl t.nolimit ?_ rfl hbind ?_ ?_ (fun h1 hns hk=>?_) F.plain.1 F.plain.2.1 F.plain.2.2)
 ·exact codeRec_of P.k F.c
 ·intro x hx;have:=List.all_eq_true.mp F.cells x hx;simpa using this
 ·intro x hx;have:=List.all_eq_true.mp hloc x hx;simpa using this
 ·exact h h1 _ hk hns (r.deeper _) _ _ fun fl h' t' hr=>k _ h' t' hr
noncomputable def Fn (w:World) (A:Around) (h0:Heap) (f:Addr) (args:List D) (d:D):Prop:=
 ∀s vs,Sub h0 s.heap→bp s.heap vs args→bg w A (call (.ref f) vs) s fun v h'=>Sub s.heap h'∧RD h' v d
theorem jV {f:Addr} {first:List Value} {r:List Expr} {Q:Value→Shared→Prop} {E:Value→Shared→Prop} (P:cA w s.heap) (hk:keepIn (K w.params) (.ref f)=true) (ha:At env h0 m s.heap) (ev:Cj w A env h0 m (e::r) ds)
  (h:∀vs h1 t1,Sub s.heap h1→bp h1 vs ds→wpAny (model pw w) A (call (.ref f) (first++vs)) Q E (sh s h1 t1))
  (he:starEach (e::r) env=(false,eval e env)::starEach r env) (hpl:(backTo pos (starEach r env)).any (·.1)=false):
  wpAny (model pw w) A (callWith pos (.ref f) first (backTo pos (starEach (e::r) env)) []) Q E s:=
 callWith_K (h₀:=s.heap) P.k hk (ev s pos ha _ _ fun vs h1 t1=>av fun k1 r1=>⟨P.k.keeps k1,h vs h1 t1 k1 r1⟩) he hpl
theorem J8 {x:Str} {f:Addr} {r:List Expr} (P:cA w h0) (hg:env.globals=mainGlobals) (en:nsIn (K w.params) mainGlobals x=some (some (.ref f))) (hk:keepIn (K w.params) (.ref f)=true) (ev:Cj w A env h0 m (e::r) ds) (fn:Fn w A h0 f ds d)
  (hkf:autoParam (env.scope.kind= .function) aF) (hx:autoParam (env.kindOf x=some .globalImplicit) aG) (hd:autoParam ((x==("__debug__":Str))=false) aE)
  (he:autoParam (starEach (e::r) env=(false,eval e env)::starEach r env) aR) (hpl:autoParam ((backTo pos (starEach r env)).any (·.1)=false) aE):
  Ev w A env h0 m (.Call (.Name x p1) (e::r) [] pos) d:=by
 intro s k Q E q
 refine Call_ (pE (w:=w) (A:=A) (m:=m) P hg en (.ref f) hkf hx hd s k _ _ fun v h1 t1=>av fun k1 r1=>?_) (by rfl)
 cases r1
 refine jV (h0:=h0) (m:=m) (ds:=ds) (P.keeps (k.sub.trans k1)) hk (k.step k1) ev (fun vs h2 t2 k2 r2=>?_) he hpl
 exact fn (sh s h2 t2) vs ((k.sub.trans k1).trans k2) r2 _ _ fun v h3 t3=>av fun k3 r3=>q v h3 t3 ⟨(k1.trans k2).trans k3,r3⟩
noncomputable def de (K:Frag) (C:Addr) (name:Str) (f:Addr):Bool:=plainGet K C name&&findIn K (.ref C) name==some (some (.ref f))&&isFn K (.ref f)&&keepIn K (.ref f)
theorem Jo {pl:Sem Bool} {name:Str} {o:Expr} {x C dx f:Addr} {es:List DictEntry} {n:Nat} {r:List Expr} (P:cA w h0) (ho:Ev w A env h0 m o (.ref x)) (I:sI h0 x C dx es n) (om:de (K w.params) C name f=true) (g:getL name es=some none)
  (ev:Cj w A env h0 m (e::r) ds) (fn:Fn w A h0 f (.ref x::ds) d)
  (he:autoParam (starEach (e::r) env=(false,eval e env)::starEach r env) aR) (hpl:autoParam ((backTo pos (starEach r env)).any (·.1)=false) aE)
  (hm:autoParam (eval (.Call (.Attribute o name p1) (e::r) [] pos) env=(do
   let ov←eval o env
   standAt p1.atName
   let (f,first)←holding [ov] (getMethod ov name pl)
   callWith pos f first (backTo pos (starEach (e::r) env)) [])) aR):
  Ev w A env h0 m (.Call (.Attribute o name p1) (e::r) [] pos) d:=by
 intro s k Q E q
 simp only [de,Bool.and_eq_true,beq_iff_eq] at om
 refine MethodCall_ (pl:=pl) (ho s k _ _ fun v h1 t1=>av fun k1 r1=>?_) hm
 cases r1
 have kk:=k.sub.trans k1
 refine method_fn (P.k.keeps kk) (I.keeps kk).at' (plainGet_of om.1.1.1).1 (plainGet_of om.1.1.1).2 om.1.1.2 (beq_iff_eq.mp om.1.2) (by show (lookIn name (dictOf es n)).map _=_;rw [lookIn_dict,g];rfl) ?_
 refine jV (h0:=h0) (m:=m) (ds:=ds) (P.keeps kk) om.2 (k.step k1) ev (fun vs h2 t2 k2 r2=>?_) he hpl
 exact fn (sh s h2 t2) (.ref x::vs) (kk.trans k2) (.cons (.ref x) r2) _ _ fun v h3 t3=>av fun k3 r3=>q v h3 t3 ⟨(k1.trans k2).trans k3,r3⟩
theorem FY {pl:Sem Bool} {name:Str} {o:Expr} {x C dx f:Addr} {es:List DictEntry} {n:Nat} (P:cA w h0) (ho:Ev w A env h0 m o (.ref x)) (I:sI h0 x C dx es n) (om:de (K w.params) C name f=true) (g:getL name es=some none)
  (fn:Fn w A h0 f [.ref x] d)
  (hm:autoParam (eval (.Call (.Attribute o name p1) [] [] pos) env=(do
   let ov←eval o env
   standAt p1.atName
   let (f,first)←holding [ov] (getMethod ov name pl)
   callWith pos f first (backTo pos (starEach [] env)) [])) aR):
  Ev w A env h0 m (.Call (.Attribute o name p1) [] [] pos) d:=by
 intro s k Q E q
 simp only [de,Bool.and_eq_true,beq_iff_eq] at om
 refine MethodCall_ (pl:=pl) (ho s k _ _ fun v h1 t1=>av fun k1 r1=>?_) hm
 cases r1
 have kk:=k.sub.trans k1
 refine method_fn (P.k.keeps kk) (I.keeps kk).at' (plainGet_of om.1.1.1).1 (plainGet_of om.1.1.1).2 om.1.1.2 (beq_iff_eq.mp om.1.2) (by show (lookIn name (dictOf es n)).map _=_;rw [lookIn_dict,g];rfl) ?_
 refine callWith_K0 (P.keeps kk).k om.2 ?_
 exact fn (sh s h1 t1) [.ref x] kk (.cons (.ref x) .nil) _ _ fun v h3 t3=>av fun k3 r3=>q v h3 t3 ⟨k1.trans k3,r3⟩
section
variable {R:Flow→Heap→Prop} {rest:List Stmt}
theorem F7 (h:R (.ret .none) s.heap):bg w A (execs (.Return none pos::rest) env) s R:=
 fun Q E q=>wpAny_execs_cons (wpAny_Return_none (q _ s.heap s.toks h))
theorem Io (h:R .next s.heap):bg w A (execs [] env) s R:=fun Q E q=>wpAny_execs_nil (q _ s.heap s.toks h)
noncomputable def O9 (L:Addr) (h h':Heap):Prop:=∀b o,b≠L→h.get? b=some o→h'.get? b=some o
noncomputable def ma.set (m:ma) (x:Str) (v:Value):ma:=⟨fun y=>if y=x then some v else m.m y,m.c⟩
theorem Ic {hO:Heap} {tO:Nat} {x:Str} (ha:At env h0 m hO) (he:Ev w A env h0 m e d)
  (h:∀v h1 h2 t2,Sub hO h1→O9 env.locals h1 h2→bl h1 h2→At env h2 (m.set x v) h2→RD h2 v d→bg w A (execs rest env) (sh s h2 t2) R)
  (hl:autoParam (env.kindOf x=some .local) aL) (hk:autoParam (env.scope.kind= .function) aF)
  (hs:autoParam (swapsWith e (some (.Name x p1)) pos.line env=pure false) aP):bg w A (execs (.Assign [.Name x p1] e pos::rest) env) (sh s hO tO) R:=by
 intro Q E q
 refine wpAny_execs_cons (wpAny_Assign_Name (he (sh s hO tO) ha _ _ fun v h1 t1=>av fun k r=>?_) hs)
 refine wpAny_storeName_local hl (ha.ns.keeps k) (fun h2 hn hb=>?_) (by rw [hk];rfl)
 have bt:O9 env.locals h1 h2:=fun b o hne e=>(hb.2 b hne).trans e
 refine a8 (ha.ns.keeps k) fun o es ep ho hd V=>?_
 have tt:bl h1 h2:=fun a vs n e=>bt _ _ (fun q=>by rw [←q,e] at ho;exact fW ho hd) e
 refine h v h1 h2 _ k bt tt ⟨Sub.rfl',hn,fun n a e=>?_⟩ (r.mono tt) Q E q
 refine ab ((ha.cs n a e).keeps k) fun oc hoc hdc=>?_
 exact a9 oc (bt _ _ (fun q=>by rw [q,ho] at hoc;cases hoc;rw [hd] at hdc;cases hdc) hoc) hdc
theorem H3 {g h h':Heap} {L:Addr} (hL:g.objs.size≤L) (k:Sub g h) (bt:O9 L h h'):Sub g h':=fun b o e=>bt b o (fun q=>Nat.lt_irrefl _ (Nat.lt_of_lt_of_le (q▸Heap.lt_size e) hL)) (k b o e)
theorem rB {hO:Heap} {tO:Nat} {x:Str} {g:Heap} (hL:g.objs.size≤env.locals) (ha:At env g m hO) (he:Ev w A env g m e d)
  (h:∀v h2 t2,At env g (m.set x v) h2→RD h2 v d→bl hO h2→bg w A (execs rest env) (sh s h2 t2) R)
  (hl:autoParam (env.kindOf x=some .local) aL) (hk:autoParam (env.scope.kind= .function) aF)
  (hs:autoParam (swapsWith e (some (.Name x p1)) pos.line env=pure false) aP):bg w A (execs (.Assign [.Name x p1] e pos::rest) env) (sh s hO tO) R:=
 Ic ha he (fun v h1 h2 t2 k bt tt a r=>h v h2 t2 ⟨H3 hL (ha.sub.trans k) bt,a.ns,a.cs⟩ r (fun a vs n e=>tt a vs n (k _ _ e))) hl hk hs
end
end
open PySem PySem.W PyProof.Rows PySem.Calls Builtin Builtin.ObjectAttr
noncomputable def n8 (name:Str) (d:D):List (Str×D)→List (Str×D)
 | []=>[(name,d)]
 |(n,e)::r=>if (n==name)=true then (n,d)::r else (n,e)::n8 name d r
theorem fN {α:Type} {x y:Str} {a d:α} {L:List (Str×α)} (e:((y,a)::L).lookup x=some d):(x=y∧a=d)∨(x≠y∧L.lookup x=some d):=by
 rw [List.lookup_cons] at e
 cases c:x==y with
 |true=>rw [c] at e;exact .inl ⟨eq_of_beq c,Option.some.inj e⟩
 |false=>rw [c] at e;exact .inr ⟨ne_of_beq_false c,e⟩
noncomputable def qi (P:Params) (h:Heap):List (Str×D)→List DictEntry→Prop:=
 List.rec (fun es=>es= []) fun p V ih es=>∃t v es',es=⟨PyData.keyHash P p.1,.str p.1 t,v⟩::es'∧RD h v p.2∧ih es'
variable {h h':Heap} {fs:List (Str×D)} {name:Str}
section
variable {P:Params} {es:List DictEntry}
theorem qi.ind {R:List (Str×D)→List DictEntry→Prop} (n:R [] []) (c:∀x t v d fs es,RD h v d→qi P h fs es→R fs es→R ((x,d)::fs) (⟨PyData.keyHash P x,.str x t,v⟩::es)) (r:qi P h fs es):R fs es:=by
 induction fs generalizing es with
 |nil=>subst r;exact n
 |cons p fs ih=>
  refine a8 r fun t v es' e rv r2=>?_
  subst e
  exact c p.1 t v p.2 fs es' rv r2 (ih r2)
theorem qi.mono (r:qi P h fs es) (k:bl h h'):qi P h' fs es:=qi.ind (R:=qi P h') rfl (fun V t v V V es' rv V ih=>⟨t,v,es',rfl,rv.mono k,ih⟩) r
theorem wy (r:qi P h fs es):es.length=fs.length:=qi.ind (R:=fun fs es=>es.length=fs.length) rfl (fun V V V V V V V V e=>congrArg (· +1) e) r
theorem Ml (r:qi P h fs es):fs.lookup name=some d→∃v,(es.find? (·.key.isStr name)).map (·.val)=some v∧RD h v d:=
 qi.ind (R:=fun fs es=>fs.lookup name=some d→∃v,(es.find? (·.key.isStr name)).map (·.val)=some v∧RD h v d) (fun e=>noA e) (fun x t v u fs es rv V ih g=>by
  rcases fN g with ⟨q,z⟩ |⟨q,z⟩
  ·rw [List.find?_cons_of_pos (p:=fun e:DictEntry=>e.key.isStr name) (a:=⟨_,.str x t,v⟩) (show (x==name)=true by rw [q];exact beq_self_eq_true x)]
   exact ⟨v,rfl,z▸rv⟩
  ·rw [List.find?_cons_of_neg (p:=fun e:DictEntry=>e.key.isStr name) (a:=⟨_,.str x t,v⟩) (fun c:(x==name)=true=>q (eq_of_beq c).symm)]
   exact ih z) r
theorem yS (r:qi P h fs es):es.any (·.refKey)=false:=qi.ind (R:=fun V es=>es.any (·.refKey)=false) rfl (fun V V V V V V V V ih=>ih) r
theorem Ii (r:qi P h fs es):fs.lookup name=none→es.find? (·.key.isStr name)=none:=
 qi.ind (R:=fun fs es=>fs.lookup name=none→es.find? (·.key.isStr name)=none) (fun V=>rfl) (fun x t v u fs es V V ih g=>by
  rw [List.lookup_cons] at g
  cases c:name==x with
  |true=>rw [c] at g;exact noB g
  |false=>
   rw [c] at g
   rw [List.find?_cons_of_neg (p:=fun e:DictEntry=>e.key.isStr name) (a:=⟨_,.str x t,v⟩) (fun c':(x==name)=true=>ne_of_beq_false c (eq_of_beq c').symm)]
   exact ih g) r
theorem Md {t0:Tok} {v0:Value} (r0:RD h v0 d) (r:qi P h fs es):qi P h (n8 name d fs) (putL name (PyData.keyHash P name) (.str name t0) v0 es):=
 qi.ind (R:=fun fs es=>qi P h (n8 name d fs) (putL name (PyData.keyHash P name) (.str name t0) v0 es)) ⟨t0,v0,[],rfl,r0,rfl⟩ (fun x t v u fs es rv r ih=>by
  by_cases q:(x==name)=true
  ·rw [n8,if_pos q]
   show qi P h _ (if (x==name)=true then _ else _)
   rw [if_pos q]
   exact ⟨t,v0,es,rfl,r0,r⟩
  ·rw [n8,if_neg q]
   show qi P h _ (if (x==name)=true then _ else _)
   rw [if_neg q]
   exact ⟨t,v,_,rfl,rv,ih⟩) r
end
structure Ob (w:World) (h:Heap) (x C dx:Addr) (fs:List (Str×D)):Prop where
 ex:∃es k,sI h x C dx es k∧qi w.params h fs es
variable {C dx:Addr} {v:Value}
section
variable {w:World} {s:Shared} {x:Addr}
theorem Ob.get (O:Ob w h x C dx fs) (e:fs.lookup name=some d):∃es n v,sI h x C dx es n∧getL name es=some (some v)∧RD h v d:=by
 refine ao O.ex fun es k I r=>?_
 refine ab (Ml r e) fun v hv hr=>?_
 refine ab (Option.map_eq_some_iff.mp hv) fun en h1 h2=>?_
 exact ⟨_,_,v,I,by unfold getL;rw [h1];dsimp only;rw [h2],hr⟩
theorem Ob.miss (O:Ob w h x C dx fs) (e:fs.lookup name=none):∃es n,sI h x C dx es n∧getL name es=some none:=by
 refine ao O.ex fun es k I r=>?_
 exact fZ _ _ I (by unfold getL;rw [Ii r e];dsimp only;rw [yS r];rfl)
theorem Ob.inst (O:Ob w h x C dx fs):h.get? x=some (instObj C dx):=ao O.ex fun V V I V=>I.i
theorem Ob.isDict (O:Ob w h x C dx fs):∃es n,h.get? dx=some (dictOf es n):=ao O.ex fun V V I V=>(J9 _ _ I.d)
theorem Ob.ne (O:Ob w h x C dx fs):x≠dx:=fun q=>by
 refine fw O.isDict fun es n e=>?_
 have:=O.inst
 rw [q,e] at this;cases this
noncomputable def cv (M:List Addr) (h h':Heap):Prop:=∀b o,b∉M→h.get? b=some o→h'.get? b=some o
theorem Sub.keep {M:List Addr} (k:Sub h h'):cv M h h':=fun b o V e=>k b o e
theorem cv.trans {M:List Addr} {h'':Heap} (a:cv M h h') (b:cv M h' h''):cv M h h'':=fun c o n e=>b c o n (a c o n e)
theorem cv.more {M N:List Addr} (a:cv M h h') (s:∀b∈M,b∈N):cv N h h':=fun b o n e=>a b o (fun q=>n (s b q)) e
noncomputable def l9 (h:Heap) (a:Addr):Prop:=∀(k:Kj) n,h.get? a≠some (k.obj n)
theorem cv.t {M:List Addr} (a:cv M h h') (n:∀b∈M,l9 h b):bl h h':=fun b vs k e=>a b _ (fun q=>n b q vs k e) e
theorem Ob.noTup (O:Ob w h x C dx fs):l9 h dx:=fun vs n e=>by
 refine fw O.isDict fun es k e'=>?_
 rw [e'] at e;exact fW e.symm rfl
theorem Ob.keep {M:List Addr} (O:Ob w h x C dx fs) (k:cv M h h') (t:bl h h') (hx:x∉M) (hd:dx∉M):Ob w h' x C dx fs:=by
 refine ao O.ex fun es n I r=>?_
 exact ⟨es,n,⟨k _ _ hx I.i,k _ _ hd I.d⟩,qi.mono r t⟩
theorem Ob.sub (O:Ob w h x C dx fs) (k:Sub h h'):Ob w h' x C dx fs:=O.keep (M:=[]) k.keep k.t mN mN
noncomputable def uQ (K:Frag) (C:Addr) (name:Str):Bool:=findIn K (.ref C) "__setattr__"==some (some (.builtin "object.__setattr__"))&&plainOver K C&&takerIn K C name==some none&&hasDictIn K C
theorem xj (P:cA w s.heap) (O:Ob w s.heap x C dx fs) (ok:uQ (K w.params) C name=true) (r:RD s.heap v d) (hz:autoParam (fs.length≤100) aN):
  bg w A (setAttr (.ref x) name v) s fun V h'=>cv [dx] s.heap h'∧Ob w h' x C dx (n8 name d fs):=by
 intro Q E q
 refine ao O.ex fun es n I rs=>?_
 simp only [uQ,Bool.and_eq_true,beq_iff_eq] at ok
 refine JW ok fun hs hp ht hh=>?_
 refine set_plain P.k I.at' hs (osa_open (s:={s with toks:=s.toks+1}) P.k I.at' hp ht fun b=>?_)
 refine ab (any_some hh) fun cd hc hd'=>?_
 have e1:=Md (name:=name) (t0:=s.toks+1) r rs
 have eo:=putName_dict name (PyData.keyHash w.params name) (.str name (s.toks+1)) v es n
 generalize putL name (PyData.keyHash w.params name) (.str name (s.toks+1)) v es=es' at e1 eo
 have D':=Heap.get?_update_self (Obj.putName name (PyData.keyHash w.params name) (.str name (s.toks+1)) v) I.d (by rw [eo];rfl)
 rw [eo] at D'
 have kp:cv [dx] s.heap (s.heap.update dx (Obj.putName name (PyData.keyHash w.params name) (.str name (s.toks+1)) v)):=fun b o hb e=>(Heap.get?_update_ne _ _ _ _ (by simpa using hb)).trans e
 have tt:=kp.t (fun b hb=>by rw [List.mem_singleton.mp hb];exact O.noTup)
 refine wpAny_bind (wpAny_pure (wpAny_bind (wpAny_bind (wpAny_loadPart I.i (wpAny_bind (Looks.here (s:={s with toks:=s.toks+1}) (looks_clsIn P.k hc) ?_))))))
 rw [hd']
 refine wpAny_pure (a:=some dx) (wpAny_bind (wpAny_pure (wpAny_bind ?_)))
 unfold nsSet
 refine wpAny_bind (wpAny_bind (wpAny_askSetting (wpAny_pure (wpAny_bind (wpAny_mkText (wpAny_bind (wpAny_loadPart I.d ?_)))))))
 have c:(!es.toArray.any (·.key.isStr name)&&es.toArray.any (·.refKey))=false:=by
  have:es.toArray.any (·.refKey)=false:=by
   rw [←Array.any_toList];exact yS rs
  rw [this,Bool.and_false]
 dsimp only
 rw [aRefKeyMayBeTheName_at,c]
 refine wpAny_updatePart I.d ?_
 have hlen:es'.length≤101:=by
  rw [wy e1]
  have:∀l:List (Str×D),(n8 name d l).length≤l.length+1:=by
   intro l
   induction l with
   |nil=>simp [n8]
   |cons y l ih=>obtain ⟨a,b⟩:=y;simp only [n8];split<;>simp only [List.length_cons]<;>omega
  have:=this fs
  omega
 refine wpAny_bind (wpAny_lookBehind D' (pastItsLine_dict (by first |(refine bR (k:=2000) ?_;rw [List.size_toArray];omega) |(rw [List.size_toArray,sizeLine_eq];exact Nat.le_trans hlen lr))) ?_)
 exact wpAny_pure (q () _ _ ⟨kp,es',_,⟨kp _ _ (by simpa using O.ne) I.i,D'⟩,qi.mono e1 tt⟩)
end
namespace PL
noncomputable abbrev Ng:Nat:=1
noncomputable abbrev KP:Nat:=2
noncomputable abbrev DG:Nat:=4
noncomputable abbrev uK:Nat:=8
noncomputable abbrev Bb:Nat:=16
noncomputable abbrev QF:Nat:=32
noncomputable abbrev AH:Nat:=64
noncomputable abbrev OR:Nat:=128
inductive c6 where |disabled |expired |current |defaulted deriving DecidableEq
inductive ai where |un |sel |stb deriving DecidableEq
inductive eR where |det |wai |att |col |dis deriving DecidableEq
noncomputable abbrev aT:=Int×Int
structure dq where
 sys:aT
 key:Int
 pid:aT
 st:Nat
 deriving DecidableEq
noncomputable def gZ:dq:=⟨(0,0),0,(0,0),56⟩
noncomputable def dq.has (i:dq) (b:Nat):Bool:=i.st&&&b !=0
noncomputable def dq.with (i:dq) (b:Nat) (v:Bool):dq:={i with st:=if v then i.st|||b else (i.st|||b) - b}
noncomputable def dq.same3 (i j:dq):Bool:=i.sys==j.sys&&i.key==j.key&&i.pid==j.pid
set_option genInjectivity false in
structure pK where
 number:Int
 priority:Int
 key:Int
 act:Bool
 sho:Bool
 joi:Bool
noncomputable def pK.pid (r:pK):aT:=(r.priority,r.number)
noncomputable def pK.bits (r:pK):Nat:=(if r.act then 1 else 0)+(if r.sho then 2 else 0)+(if r.joi then 4 else 0)
set_option genInjectivity false in
structure ah where
 row:pK
 actor:dq
 partner:dq
 heard:c6
 hl:Int
 choice:ai
 mux:eR
 bundle:Option Int
 jl:Int
 tl:Int
 ms:Bool
 sm:Int
structure ag where
 key:Int
 sys:aT
 pkey:Int
 num:Int
 deriving DecidableEq
structure oM where
 actor:dq
 partner:dq
namespace ah
noncomputable def fresh (system:aT) (r:pK):ah:={row:=r,actor:=⟨system,r.key,r.pid,r.bits|||AH⟩,partner:=gZ,heard:=.disabled,hl:=0,choice:=.un,mux:=.det,bundle:=none,jl:=0,tl:=0,ms:=false,sm:=0}
noncomputable def isUp (p:ah):Bool:=p.heard != .disabled
noncomputable def own (p:ah) (b:Nat):Bool:=p.actor.has b
noncomputable def oth (p:ah) (b:Nat):Bool:=p.partner.has b
noncomputable def setOwn (p:ah) (b:Nat) (v:Bool):ah:={p with actor:=p.actor.with b v}
noncomputable def turns (p:ah) (b:Nat) (v:Bool):Bool:=p.actor.with b v !=p.actor
noncomputable def isLone (p:ah):Bool:=!p.own DG|| !p.oth DG||p.own AH
noncomputable def group (p:ah):ag:=⟨p.row.key,p.partner.sys,p.partner.key,if p.isLone then p.row.number else 0⟩
noncomputable def talks (p:ah):Bool:=p.isUp&&(p.own Ng||p.oth Ng)
noncomputable def turn (p:ah):Int:=if p.oth KP then 1 else 30
noncomputable def heardWait (p:ah):Int:=if p.own KP then 3 else 90
end ah
noncomputable def fP:eR→Nat | .det=>0 | .wai=>0 | .att=>8 | .col=>24 | .dis=>56
noncomputable def bk (word:eR) (p:ah) (b:Nat):ah:=
 let v:=fP word&&&b !=0
 if p.turns b v then {p.setOwn b v with ms:=true} else p.setOwn b v
noncomputable def cz (p:ah) (word:eR):ah:=[uK,Bb,QF].foldl (bk word) {p with mux:=word}
noncomputable def ay (p:ah) (ready:Bool):eR:=match p.mux with
 | .det=>if p.choice != .un then .wai else .det
 | .wai=>if p.choice== .un then .det else if p.choice== .sel&&ready then .att else .wai
 | .att=>if !(p.choice== .sel) then .det else if p.oth uK then .col else .att
 | .col=>if !(p.choice== .sel)|| !p.oth uK then .att else if p.oth Bb then .dis else .col
 | .dis=>if !(p.choice== .sel)|| !p.oth uK then .att else if p.oth Bb then .dis else .col
noncomputable def bW (p:ah) (ready:Bool):ah:=
 let word:=ay p ready
 if word=p.mux then p else
  let p:=cz p word
  let p:=if word= .wai then {p with jl:=2} else p
  if word= .det then {p with bundle:=none} else p
noncomputable def steps (p:ah) (ready:Bool):Bool:=ay p ready !=p.mux
noncomputable def cx (ps:List ah) (b:Option Int):Bool:=ps.all fun q=>!(q.bundle==b&&q.mux== .wai&&q.choice== .sel&&decide (q.jl >0))
noncomputable def dQ (p:ah):ah:=if p.mux== .wai&&decide (p.jl >0) then {p with jl:=p.jl - 1} else p
noncomputable def ee (p:ah):ah:=
 let p:={p with heard:=.expired,hl:=3,partner:=(p.partner.with uK false).with KP true}
 let p:={p.setOwn OR true with ms:=true}
 {p with tl:=p.turn}
noncomputable def ju (p:ah):ah:=
 let p:={p with heard:=.disabled,hl:=0,choice:=.un,partner:=gZ}
 {(p.setOwn OR false).setOwn AH true with ms:=false}
noncomputable def dj (p:ah):ah:=
 if p.heard== .current then ee p else
  let p:={p with heard:=.defaulted}
  let p:=if !p.partner.same3 gZ|| !p.own AH then {p with choice:=.un} else p
  (({p with partner:=gZ}:ah).setOwn OR false).setOwn AH true
noncomputable def fG (a b:dq):Bool:=a.same3 b&&a.has DG==b.has DG
noncomputable def oG (p:ah) (d:oM):Bool:=d.partner.same3 p.actor&&((d.partner.st^^^p.actor.st)&&&15==0)
noncomputable def eN (p:ah) (d:oM):Bool:=
 if !d.actor.has uK then false
 else if !d.actor.has Ng&& !(p.own Ng&&d.partner.has Ng) then false
 else fG d.partner p.actor|| !d.actor.has DG
noncomputable def ql (p:ah) (d:oM):ah:=
 if !p.isUp then p else
  let p:=if !fG d.actor p.partner||p.own AH then {p with choice:=.un} else p
  let p:=if !oG p d then {p with ms:=true} else p
  let slow:=!p.oth KP
  let p:={p with partner:=d.actor.with uK (eN p d)}
  let p:=(p.setOwn AH false).setOwn OR false
  let p:={p with heard:=.current,hl:=p.heardWait}
  if slow&&p.oth KP then {p with tl:=0,ms:=true} else p
noncomputable def b6 (p:ah):ah:=
 let p:={p with sm:=0}
 if !p.isUp then p else
  let p:ah:=if p.heard != .defaulted then
    let p:ah:={p with hl:=p.hl - 1}
    if decide (p.hl≤0) then dj p else p
   else p
  let p:ah:={p with tl:=min p.tl p.turn - 1}
  if decide (p.tl≤0) then {p with tl:=p.turn,ms:=true} else p
noncomputable def cj (p:ah):ah×Option oM:=
 let p:=if !p.talks then {p with ms:=false} else p
 if !p.ms||decide (p.sm≥3) then (p,none)
 else ({p with ms:=false,sm:=p.sm+1},some ⟨p.actor,p.partner⟩)
noncomputable def eF (a b:aT):Bool:=decide (a.1 <b.1)||(a.1==b.1&&decide (a.2≤b.2))
noncomputable def bH (used:List Int):Nat→Int→Int
 |0,n=>n
 |k+1,n=>if n∈used then bH used k (n+1) else n
noncomputable def aX (ns:List (ag×Int)) (g:ag):Option Int:=ns.lookup g
noncomputable def bb (ns:List (ag×Int)) (g:ag):List (ag×Int)×Int:=match aX ns g with
 |some n=>(ns,n)
 |none=>let n:=bH (ns.map (·.2)) ns.length 1;(ns++ [(g,n)],n)
noncomputable def iM (ns:List (ag×Int)) (ps:List ah):List (ag×Int):=
 ns.filter fun x=>((ps.filter ah.isUp).map ah.group).contains x.1||(ps.map ah.bundle).contains (some x.2)
noncomputable def rank (system:aT) (p:ah):aT:=if eF system p.partner.sys||p.isLone then p.actor.pid else p.partner.pid
noncomputable def mX (a b:aT):Bool:=decide (a.1 <b.1)||(a.1==b.1&&decide (a.2 <b.2))
noncomputable def sorted? (ns:List (ag×Int)) (p:ah):Option ag:=
 if !p.isUp then none else if p.bundle.isSome&&aX ns p.group !=p.bundle then none else some p.group
noncomputable def kY (ns:List (ag×Int)) (p:ah):ah:=match sorted? ns p with |some _=>p |none=>{p with choice:=.un}
noncomputable def bc (number:Int) (chosen:Bool) (p:ah):ah:=
 if p.choice== .un&&p.mux != .det then p else {p with bundle:=some number,choice:=if chosen then .sel else .stb}
end PL
open PL
variable {u o:Expr} {p2:Pos}
section
variable {w:World} {es:List D} {x:Addr}
theorem JU (h1:autoParam (0 <ds.length) aN) (h2:autoParam (0 <es.length) aN) (hz:autoParam (ds.length+es.length≤100) aN):DK w A h0 .Add (.tup ds) (.tup es) (.tup (ds++es)):=by
 intro s v1 v2 _ r1 r2 Q E q
 obtain ⟨a,vs,n,rfl,ha,ra⟩:=r1.isTup
 obtain ⟨b,ws,k,rfl,hb,rb⟩:=r2.isTup
 have la:=ra.length
 have lb:=rb.length
 refine concat_meets (a9 _ ha rfl) (a9 _ hb rfl) noFill_tuple_add seq_tuple_add PySem.F.slot_tuple_add PySem.F.entry_tuple_add (PySem.F.args_tuple_add_2 _ _)
  (tuple_addW2 a b vs.toArray ws.toArray n k none none #[] #[] (by simp;intro q;subst q;simp at la;omega) (by simp;intro q;subst q;simp at lb;omega) (by first |(refine bR (k:=2000) ?_;rw [List.size_toArray,List.size_toArray];omega) |(rw [List.size_toArray,List.size_toArray,sizeLine_eq];omega))) ⟨ha,hb,?_⟩
 have e:vs.toArray++ws.toArray=(vs++ws).toArray:=by simp
 rw [e]
 exact q _ _ _ ⟨Sub.push _,.tup (Heap.get?_push_size _ rfl) ((ra.append rb).mono (Sub.push _).t)⟩
theorem yQ (b n:Nat) (hb:b≤n):Builtin.Slice.sliceAdjust none (some (b:Int)) 1 (n:Int)=((0:Int),(b:Int)):=by
 unfold Builtin.Slice.sliceAdjust
 have h1:¬((1:Int) <0):=by omega
 have h2:¬((b:Int) <0):=by omega
 simp only [h1,h2,if_false]
 congr 1
 exact Int.min_eq_left (Int.ofNat_le.mpr hb)
theorem CU (xs:Array Value) (b:Nat):((List.range b).filterMap fun (k:Nat)=>xs[((0:Int)+(k:Int)*1).toNat]?).toArray=(xs.toList.take b).toArray:=by
 have e:(fun (k:Nat)=>xs[((0:Int)+(k:Int)*1).toNat]?)=fun k=>xs[k]? :=by
  funext k
  have:((0:Int)+(k:Int)*1).toNat=k:=by rw [Int.mul_one,Int.zero_add];exact Int.toNat_natCast k
  rw [this]
 rw [e]
 congr 1
 induction b with
 |zero=>simp
 |succ b ih=>
  rw [List.range_succ,List.filterMap_append,ih,List.take_add_one]
  congr 1
  rw [Array.getElem?_toList]
  simp only [List.filterMap_cons,List.filterMap_nil]
  cases xs[b]? <;>rfl
theorem ID {k:Nat} (he:Ev w A env h0 m e (.tup ds)) (hu:Ev w A env h0 m u (.int k)) (hk:autoParam (k <ds.length) aN) (hz:autoParam (ds.length≤100) aN)
  (hs:autoParam (∀o i,subscripted (.Slice none (some u) none p2) false o i=operate [i,o] (getItem o i)) aJ):
  Ev w A env h0 m (.Subscript e (.Slice none (some u) none p2) pos) (.tup (ds.take k)):=by
 intro s ks Q E q
 refine Subscript_ (he s ks _ _ fun v1 h1 t1=>av fun k1 r1=>?_)
 have sl:eval (.Slice none (some u) none p2) env=(do
  let l←valueOrNone (evalOpt none env)
  let u←holding [l] (valueOrNone (evalOpt (some u) env))
  let s←holding [l,u] (valueOrNone (evalOpt none env))
  newFields "slice" [l,u,s]):=rfl
 rw [sl]
 refine wpAny_bind (wpAny_pure (wpAny_bind (wpAny_holding (hu (sh s h1 t1) (ks.step k1) _ _ fun v2 h2 t2=>av fun k2 r2=>?_))))
 refine EO r2 fun tk ez0=>?_;subst ez0
 refine wpAny_bind (wpAny_holding (wpAny_pure ?_))
 refine wpAny_newObj_type ?_ (by show (3:Nat)≤_;rw [sizeLine_eq];decide)
 obtain ⟨a,vs,n,rfl,ha,rs⟩:=(r1.mono k2.t).isTup
 have hlen:=rs.length
 have hslO:(h2.push {cls:=.type "slice",data:=.fields #[Value.none,.int k tk,.none]}).get? h2.objs.size=some {cls:=.type "slice",data:=.fields #[Value.none,.int k tk,.none]}:=Heap.get?_push_size _ rfl
 have ha':(h2.push {cls:=.type "slice",data:=.fields #[Value.none,.int k tk,.none]}).get? a=some (e7 vs n):=Heap.get?_push_of_some _ ha
 have hT:({s with heap:=h2.push {cls:=.type "slice",data:=.fields #[Value.none,.int k tk,.none]},toks:=t2}:Shared).TypeIs (.ref a) "tuple":=a9 _ ha' rfl
 have hTs:({s with heap:=h2.push {cls:=.type "slice",data:=.fields #[Value.none,.int k tk,.none]},toks:=t2}:Shared).TypeIs (.ref h2.objs.size) "slice":=a9 _ hslO rfl
 refine tail_any hT slot_tuple_getitem.lookup ?_ (hs _ _)
 unfold getItem
 try with_reducible refine wpAny_holding ?_
 refine wpAny_bind (wpAny_sequenceKey (T:="tuple") hT (by decide) ?_)
 refine wpAny_bind (wpAny_callSpecial?_slot (name:="__getitem__") hT slot_tuple_getitem
  (wpAny_call_entry slot_tuple_getitem hT entry_tuple_getitem ?_ (args_tuple_getitem _ _)))
 show wpAny _ _ (Builtin.Tuple.tupleItemsOf (.ref a) >>= _) _ _ _
 refine wpAny_bind (tupleItemsOf_ (ki ha') ?_)
 refine wpAny_bind (wpAny_typeOf hTs ?_)
 rw [if_pos (by decide)]
 have hap:wpAny (model pw w) A.in1 (Builtin.Slice.sliceApplied (.ref h2.objs.size) (pure ((vs.toArray.size:Nat):Int))) (fun r s'=>r=((0:Int),(1:Int),k)∧s'={s with heap:=h2.push {cls:=.type "slice",data:=.fields #[Value.none,.int k tk,.none]},toks:=t2}) E {s with heap:=h2.push {cls:=.type "slice",data:=.fields #[Value.none,.int k tk,.none]},toks:=t2}:=by
  unfold Builtin.Slice.sliceApplied Builtin.Slice.sliceFields
  refine wpAny_bind (wpAny_bind (wpAny_field hslO rfl (x:=.none) rfl (wpAny_bind (wpAny_field hslO rfl (x:=.int k tk) rfl (wpAny_bind (wpAny_field hslO rfl (x:=.none) rfl (wpAny_pure ?_)))))))
  refine wpAny_bind (slicePart_none ?_)
  show wpAny _ _ (if ((1:Int)==0)=true then _ else _) _ _ _
  rw [if_neg (by decide)]
  refine wpAny_bind (slicePart_none (wpAny_bind (slicePart_int (wpAny_bind (wpAny_pure ?_)))))
  show wpAny _ _ (match Builtin.Slice.sliceAdjust none (some (k:Int)) 1 ((vs.toArray.size:Nat):Int) with |(lo,hi)=>pure (lo,(1:Int),Builtin.Slice.slicePlaces lo hi 1)) _ _ _
  rw [yQ k _ (by rw [List.size_toArray];omega)]
  show wpAny _ _ (pure ((0:Int),(1:Int),Builtin.Slice.slicePlaces ((0:Nat):Int) (k:Int) 1)) _ _ _
  rw [places_from 0 k (Nat.zero_le ..)]
  exact wpAny_pure ⟨rfl,rfl⟩
 refine wpAny_bind (wpAny_mono hap (fun r s' hr=>?_) fun V V x=>x)
 refine bC hr fun zr3 zr4=>?_;subst zr3;subst zr4
 have hno:¬(((0:Int)==0&&(1:Int)==1&&k==vs.toArray.size)=true):=by
  have:(k==vs.toArray.size)=false:=by rw [beq_eq_false_iff_ne,List.size_toArray];omega
  rw [this];simp
 show wpAny _ _ (if ((0:Int)==0&&(1:Int)==1&&k==vs.toArray.size)=true then _ else _) _ _ _
 rw [if_neg hno,CU]
 have hsz:sizeOk (.seq (vs.toArray.toList.take k).toArray):=by
  show (vs.toArray.toList.take k).toArray.size≤sizeLine
  rw [List.size_toArray,List.length_take,sizeLine_eq]
  omega
 have gF:Q (.ref ((h2.push {cls:=.type "slice",data:=.fields #[Value.none,.int k tk,.none]}).objs.size)) {s with heap:=(h2.push {cls:=.type "slice",data:=.fields #[Value.none,.int k tk,.none]}).push {cls:=.type "tuple",data:=.seq (vs.toArray.toList.take k).toArray},toks:=t2}:=by
  refine q _ _ _ ⟨((k1.trans k2).trans (Sub.push _)).trans (Sub.push _),?_⟩
  refine .tup (vs:=vs.take k) (n:=0) (Heap.get?_push_size _ rfl) ?_
  exact (rs.take k).mono ((Sub.push _).trans (Sub.push _)).t
 first
  |exact wpAny_bind (m:=Builtin.Tuple.tupleExact _) (wpAny_newObj_type (wpAny_pure (a9 _ rfl (wpAny_pure gF))) hsz)
  |exact wpAny_bind (m:=Builtin.Tuple.tupleExact _) (wpAny_newObj_type (wpAny_bind (wpAny_pure (wpAny_pure ⟨_,rfl,wpAny_pure gF⟩))) hsz)
  |exact wpAny_bind (wpAny_bind (m:=Builtin.Tuple.tupleExact _) (wpAny_newObj_type (wpAny_pure (wpAny_pure ⟨_,rfl,wpAny_pure gF⟩)) hsz))
  |exact wpAny_bind (wpAny_bind (m:=Builtin.Tuple.tupleExact _) (wpAny_newObj_type (wpAny_pure ⟨_,rfl,wpAny_pure gF⟩) hsz))
end
theorem qB (i j:Nat):Builtin.bitAnd (i:Int) (j:Int)=((i&&&j:Nat):Int):=by
 unfold Builtin.bitAnd
 simp
theorem C7 (x:Int):Builtin.bitNot x= -x - 1:=by first |rfl |(unfold Builtin.bitNot;omega)
theorem Ai (i j:Nat):Builtin.bitOr (i:Int) (j:Int)=((i|||j:Nat):Int):=by
 unfold Builtin.bitOr Builtin.bitAnd
 simp only [C7]
 have h1:decide ((0:Int)≤ -(i:Int) - 1)=false:=decide_eq_false (by omega)
 have h2:decide ((0:Int)≤ -(j:Int) - 1)=false:=decide_eq_false (by omega)
 rw [h1,h2]
 have e1:(-(-(i:Int) - 1) - 1).toNat=i:=by lia
 have e2:(-(-(j:Int) - 1) - 1).toNat=j:=by lia
 simp only [e1,e2]
 lia
theorem Ha:∀(n i j:Nat),i≤n→i|||j=(i&&&j)+(i^^^j)
 |0,i,j,h=>by
  obtain rfl:i=0:=by lia
  simp
 |n+1,i,j,h=>by
  by_cases h0:i=0
  ·subst h0;simp
  ·have ih:=Ha n (i / 2) (j / 2) (by lia)
   have d1:(i|||j)/ 2=i / 2|||j / 2:=Nat.or_div_two
   have d2:(i&&&j)/ 2=i / 2&&&j / 2:=Nat.and_div_two
   have d3:(i^^^j)/ 2=i / 2^^^j / 2:=Nat.xor_div_two
   have m1:(i|||j)% 2=i % 2|||j % 2:=by have:=Nat.or_mod_two_pow (a:=i) (b:=j) (n:=1);simpa using this
   have m2:(i&&&j)% 2=i % 2&&&j % 2:=by have:=Nat.and_mod_two_pow (a:=i) (b:=j) (n:=1);simpa using this
   have m3:(i^^^j)% 2=i % 2^^^j % 2:=by have:=Nat.xor_mod_two_pow (a:=i) (b:=j) (n:=1);simpa using this
   have c:i % 2|||j % 2=(i % 2&&&j % 2)+(i % 2^^^j % 2):=by
    rcases Nat.mod_two_eq_zero_or_one i with a |a<;>rcases Nat.mod_two_eq_zero_or_one j with b |b<;>rw [a,b]<;>rfl
   have le2:i % 2&&&j % 2≤1:=Nat.le_trans Nat.and_le_left (by lia)
   lia
theorem Ih (i j:Nat):Builtin.bitXor (i:Int) (j:Int)=((i^^^j:Nat):Int):=by
 unfold Builtin.bitXor
 rw [qB,Ai]
 have:=Ha i i j (Nat.le_refl _)
 lia
theorem BL (i:Nat):((i:Int) !=0)=(i !=0):=by
 cases i with
 |zero=>rfl
 |succ n=>simp;lia
theorem Js (i:Nat):((i:Int)==0)=(i==0):=by
 cases i with
 |zero=>rfl
 |succ n=>simp;lia
variable {pm:Value} {n:Nat} {f:Addr}
section
variable {st:Stmt} {q:Str} {dfl cd:Value}
theorem QR {g h1:Heap} {L:Addr} {m:Str→Option Value} (k:Sub g h1) (ns:h1.Ns L m):At (callEnv (cJ st q dfl pm cd) L f) g ⟨m,fun V=>none⟩ h1:=
 ⟨k,ns,fun n a e=>noA e⟩
end
section
variable {w:World} {es:List D} {x:Addr}
theorem vz (P:cA w h0) (ho:Ev w A env h0 m o (.ref x)) (O:Ob w h0 x C dx fs) (ok:jA (K w.params) C name=true) (g:fs.lookup name=some d)
  (hm:autoParam (eval (.Attribute o name pos) env=(do
   let ov←eval o env
   standAt pos.atName
   let r←holding [ov] (getAttr ov name true)
   letTemporaryGo o ov r
   pure r)) aW):Ev w A env h0 m (.Attribute o name pos) d:=by
 refine a8 (O.get g) fun es k v I hg hr=>?_
 exact Jv P ho I ok hg hr hm
theorem Bu {r:List Expr} {pl:Sem Bool} (P:cA w h0) (ho:Ev w A env h0 m o (.ref x)) (O:Ob w h0 x C dx fs) (om:de (K w.params) C name f=true) (g:fs.lookup name=none)
  (ev:Cj w A env h0 m (e::r) ds) (fn:Fn w A h0 f (.ref x::ds) d)
  (he:autoParam (starEach (e::r) env=(false,eval e env)::starEach r env) aR) (hpl:autoParam ((backTo pos (starEach r env)).any (·.1)=false) aE)
  (hm:autoParam (eval (.Call (.Attribute o name p1) (e::r) [] pos) env=(do
   let ov←eval o env
   standAt p1.atName
   let (f,first)←holding [ov] (getMethod ov name pl)
   callWith pos f first (backTo pos (starEach (e::r) env)) [])) aR):
  Ev w A env h0 m (.Call (.Attribute o name p1) (e::r) [] pos) d:=by
 refine ao (O.miss g) fun es k I hg=>?_
 exact Jo P ho I om hg ev fn he hpl hm
theorem FE {pl:Sem Bool} (P:cA w h0) (ho:Ev w A env h0 m o (.ref x)) (O:Ob w h0 x C dx fs) (om:de (K w.params) C name f=true) (g:fs.lookup name=none)
  (fn:Fn w A h0 f [.ref x] d)
  (hm:autoParam (eval (.Call (.Attribute o name p1) [] [] pos) env=(do
   let ov←eval o env
   standAt p1.atName
   let (f,first)←holding [ov] (getMethod ov name pl)
   callWith pos f first (backTo pos (starEach [] env)) [])) aR):
  Ev w A env h0 m (.Call (.Attribute o name p1) [] [] pos) d:=by
 refine ao (O.miss g) fun es k I hg=>?_
 exact FY P ho I om hg fn hm
end
noncomputable def c6.s:c6→Str | .disabled=>"disabled" | .expired=>"expired" | .current=>"current" | .defaulted=>"defaulted"
noncomputable def ai.s:ai→Str | .un=>"unselected" | .sel=>"selected" | .stb=>"standby"
noncomputable def eR.s:eR→Str | .det=>"detached" | .wai=>"waiting" | .att=>"attached" | .col=>"collecting" | .dis=>"distributing"
noncomputable def aw (p:aT):D:=.tup [.int p.1,.int p.2]
noncomputable def b8 (i:dq):D:=.tup [aw i.sys,.int i.key,aw i.pid,.int i.st]
noncomputable def c5:Option Int→D |none=>.none |some i=>.int i
noncomputable def bx (g:ag):D:=.tup [.int g.key,aw g.sys,.int g.pkey,.int g.num]
noncomputable def dZ (r:pK):List (Str×D):=[("number",.int r.number),("priority",.int r.priority),("key",.int r.key),("is_active",.bool r.act),("is_short",.bool r.sho),("may_join",.bool r.joi)]
noncomputable def fE (rx:Addr) (p:ah):List (Str×D):=[("row",.ref rx),("actor",b8 p.actor),("partner",b8 p.partner),("heard",.str (c6.s p.heard)),("heard_left",.int p.hl),("choice",.str (ai.s p.choice)),("mux",.str (eR.s p.mux)),
 ("bundle",c5 p.bundle),("join_left",.int p.jl),("turn_left",.int p.tl),("must_send",.bool p.ms),("sent_many",.int p.sm)]
structure jf (w:World) (h:Heap) (x dx rx rdx:Addr) (p:ah):Prop where
 o:Ob w h x 234 dx (fE rx p)
 r:Ob w h rx 143 rdx (dZ p.row)
theorem jf.sub {w:World} {h h':Heap} {x dx rx rdx:Addr} {p:ah} (O:jf w h x dx rx rdx p) (k:Sub h h'):jf w h' x dx rx rdx p:=⟨O.o.sub k,O.r.sub k⟩
theorem rZ (a b:c6):D.eqv (.str (c6.s a)) (.str (c6.s b))=(a==b):=by cases a<;>cases b<;>decide+kernel
theorem pZ (a b:ai):D.eqv (.str (ai.s a)) (.str (ai.s b))=(a==b):=by cases a<;>cases b<;>decide+kernel
theorem EZ (a b:eR):D.eqv (.str (eR.s a)) (.str (eR.s b))=(a==b):=by cases a<;>cases b<;>decide+kernel
theorem g6 (a:c6):(D.str (c6.s a)).flat 9=true:=by cases a<;>decide+kernel
theorem h8 (a:ai):(D.str (ai.s a)).flat 9=true:=by cases a<;>decide+kernel
theorem oH (a:eR):(D.str (eR.s a)).flat 9=true:=by cases a<;>decide+kernel
theorem fk {P:Params} {f:Addr} {st:Stmt} {q:Str} {dfl pm cd:Value} (o:autoParam ((K P).lookup f=some ⟨.type "function",none,FN st q dfl pm cd,#[]⟩) aK) (c:autoParam (codeIn (K P) cd q=true) aK) (p1:autoParam ((cJ st q dfl pm cd).scope.isCoroutine=false) aK) (p2:autoParam ((cJ st q dfl pm cd).scope.isGenerator=false) aK) (p3:autoParam ((cJ st q dfl pm cd).scope.kind= .function) aK):eB P f st q dfl pm cd:=⟨o,c,p1,p2,p3⟩
theorem eB.at {P:Params} {f:Addr} {st:Stmt} {q:Str} {dfl pm cd:Value} (F:eB P f st q dfl pm cd) (c:autoParam ((cJ st q dfl pm cd).scope.names.all (fun x=>x.2 != .cell)=true) aK):O5 P f st q dfl pm cd:=⟨F.o,F.c,F.plain,c⟩
theorem nY (P:Params):eB P 83 (dS 15 0) "Lacpdu.__init__" (.ref 76) (.str "switchloom.lacpdus" 257) (.ref 82):=fk
theorem CF (P:Params):eB P 104 (dz 16) "has_bit" (.none) (.str "switchloom.lacpdus" 257) (.ref 103):=fk
theorem zR (P:Params):eB P 111 (dz 17) "with_bit" (.none) (.str "switchloom.lacpdus" 257) (.ref 110):=fk
theorem my (P:Params):eB P 126 (dS 25 0) "LacpRow.__init__" (.ref 119) (.str "switchloom.lacp_port" 342) (.ref 125):=fk
theorem nW (P:Params):eB P 133 (dS 25 1) "LacpRow.port_id" (.none) (.str "switchloom.lacp_port" 342) (.ref 132):=fk
theorem rM (P:Params):eB P 140 (dS 25 2) "LacpRow.bits" (.none) (.str "switchloom.lacp_port" 342) (.ref 139):=fk
theorem lY (P:Params):eB P 161 (dS 26 0) "LacpPort.__init__" (.none) (.str "switchloom.lacp_port" 342) (.ref 160):=fk
theorem pn (P:Params):eB P 168 (dS 26 1) "LacpPort.is_up" (.none) (.str "switchloom.lacp_port" 342) (.ref 167):=fk
theorem rC (P:Params):eB P 175 (dS 26 2) "LacpPort.own" (.none) (.str "switchloom.lacp_port" 342) (.ref 174):=fk
theorem nJ (P:Params):eB P 182 (dS 26 3) "LacpPort.others" (.none) (.str "switchloom.lacp_port" 342) (.ref 181):=fk
theorem mC (P:Params):eB P 189 (dS 26 4) "LacpPort.set_own" (.none) (.str "switchloom.lacp_port" 342) (.ref 188):=fk
theorem m6 (P:Params):eB P 196 (dS 26 5) "LacpPort.is_lone" (.none) (.str "switchloom.lacp_port" 342) (.ref 195):=fk
theorem pf (P:Params):eB P 203 (dS 26 6) "LacpPort.group" (.none) (.str "switchloom.lacp_port" 342) (.ref 202):=fk
theorem pH (P:Params):eB P 210 (dS 26 7) "LacpPort.talks" (.none) (.str "switchloom.lacp_port" 342) (.ref 209):=fk
theorem qw (P:Params):eB P 217 (dS 26 8) "LacpPort.turn" (.none) (.str "switchloom.lacp_port" 342) (.ref 216):=fk
theorem jL (P:Params):eB P 224 (dS 26 9) "LacpPort.heard_wait" (.none) (.str "switchloom.lacp_port" 342) (.ref 223):=fk
theorem z8 (P:Params):eB P 246 (dz 29) "move_mux" (.none) (.str "switchloom.lacp_mux" 526) (.ref 245):=fk
theorem Ad (P:Params):eB P 253 (dz 30) "next_mux" (.none) (.str "switchloom.lacp_mux" 526) (.ref 252):=fk
theorem AK (P:Params):eB P 260 (dz 31) "step_mux" (.none) (.str "switchloom.lacp_mux" 526) (.ref 259):=fk
theorem tY (P:Params):eB P 265 (dz 32) "have_waited" (.none) (.str "switchloom.lacp_mux" 526) (.ref 264):=fk
theorem tV (P:Params):eB P 272 (dz 33) "wait_second" (.none) (.str "switchloom.lacp_mux" 526) (.ref 271):=fk
theorem vl (P:Params):eB P 279 (dz 36) "begin_link" (.none) (.str "switchloom.lacp_receive" 585) (.ref 278):=fk
theorem Az (P:Params):eB P 286 (dz 37) "end_link" (.none) (.str "switchloom.lacp_receive" 585) (.ref 285):=fk
theorem t8 (P:Params):eB P 293 (dz 38) "fall_silent" (.none) (.str "switchloom.lacp_receive" 585) (.ref 292):=fk
theorem t9 (P:Params):eB P 300 (dz 39) "is_same_end" (.none) (.str "switchloom.lacp_receive" 585) (.ref 299):=fk
theorem AY (P:Params):eB P 307 (dz 40) "knows_us" (.none) (.str "switchloom.lacp_receive" 585) (.ref 306):=fk
theorem vG (P:Params):eB P 314 (dz 41) "is_in_step" (.none) (.str "switchloom.lacp_receive" 585) (.ref 313):=fk
theorem Lm (P:Params):eB P 321 (dz 42) "hear" (.none) (.str "switchloom.lacp_receive" 585) (.ref 320):=fk
theorem uq (P:Params):eB P 328 (dz 43) "pass_second" (.none) (.str "switchloom.lacp_receive" 585) (.ref 327):=fk
theorem ve (P:Params):eB P 335 (dz 44) "message_of" (.none) (.str "switchloom.lacp_receive" 585) (.ref 334):=fk
theorem m7 (P:Params):eB P 349 (dS 46 0) "Chooser.__init__" (.none) (.str "switchloom.lacp_select" 659) (.ref 348):=fk
theorem lX (P:Params):eB P 354 (dS 46 1) "Chooser.number_of" (.none) (.str "switchloom.lacp_select" 659) (.ref 353):=fk
theorem jW (P:Params):eB P 359 (dS 46 2) "Chooser.drop_empty" (.none) (.str "switchloom.lacp_select" 659) (.ref 358):=fk
theorem q9 (P:Params):eB P 366 (dS 46 3) "Chooser.rank" (.none) (.str "switchloom.lacp_select" 659) (.ref 365):=fk
theorem pk (P:Params):eB P 373 (dS 46 4) "Chooser.worked" (.none) (.str "switchloom.lacp_select" 659) (.ref 372):=fk
theorem oQ (P:Params):eB P 378 (dS 46 5) "Chooser.choose" (.none) (.str "switchloom.lacp_select" 659) (.ref 377):=fk
theorem ph (P:Params):eB P 385 (dS 46 6) "Chooser.settle" (.none) (.str "switchloom.lacp_select" 659) (.ref 384):=fk
theorem mO (P:Params):eB P 407 (dS 49 0) "Bundles.__init__" (.ref 400) (.str "switchloom.lacp" 740) (.ref 406):=fk
theorem l5 (P:Params):eB P 412 (dS 49 1) "Bundles.all_ports" (.none) (.str "switchloom.lacp" 740) (.ref 411):=fk
theorem rD (P:Params):eB P 419 (dS 49 2) "Bundles.port" (.none) (.str "switchloom.lacp" 740) (.ref 418):=fk
theorem te (P:Params):eB P 426 (dS 49 3) "Bundles.rest" (.none) (.str "switchloom.lacp" 740) (.ref 425):=fk
theorem nF (P:Params):eB P 433 (dS 49 4) "Bundles.link_up" (.none) (.str "switchloom.lacp" 740) (.ref 432):=fk
theorem lT (P:Params):eB P 440 (dS 49 5) "Bundles.link_down" (.none) (.str "switchloom.lacp" 740) (.ref 439):=fk
theorem oB (P:Params):eB P 447 (dS 49 6) "Bundles.receive" (.none) (.str "switchloom.lacp" 740) (.ref 446):=fk
theorem pg (P:Params):eB P 454 (dS 49 7) "Bundles.second" (.none) (.str "switchloom.lacp" 740) (.ref 453):=fk
theorem lZ (P:Params):eB P 461 (dS 49 8) "Bundles.take_sent" (.none) (.str "switchloom.lacp" 740) (.ref 460):=fk
theorem nV (P:Params):eB P 466 (dS 49 9) "Bundles.members" (.none) (.str "switchloom.lacp" 740) (.ref 465):=fk
theorem lW (P:Params):eB P 480 (dS 49 11) "Bundles.bundle_of" (.none) (.str "switchloom.lacp" 740) (.ref 479):=fk
theorem vf (P:Params):eB P 499 (dz 51) "_law_pool" (.none) (.str "law_pc0383_01" 876) (.ref 498):=fk
theorem wN (P:Params):eB P 506 (dz 52) "_law_take" (.none) (.str "law_pc0383_01" 876) (.ref 505):=fk
theorem yC (P:Params):eB P 513 (dz 53) "_law_one" (.none) (.str "law_pc0383_01" 876) (.ref 512):=fk
theorem tT (P:Params):eB P 520 (dz 54) "_law_scene" (.none) (.str "law_pc0383_01" 876) (.ref 519):=fk
theorem oT (P:Params):eB P 525 (dz 55) "_law_exchange" (.none) (.str "law_pc0383_01" 876) (.ref 524):=fk
theorem wD (P:Params):eB P 532 (dz 56) "_law_pass" (.none) (.str "law_pc0383_01" 876) (.ref 531):=fk
theorem oz (P:Params):eB P 539 (dz 57) "_law_turn_link" (.none) (.str "law_pc0383_01" 876) (.ref 538):=fk
theorem tH (P:Params):eB P 546 (dz 58) "_law_works" (.none) (.str "law_pc0383_01" 876) (.ref 545):=fk
theorem sv (P:Params):eB P 553 (dz 59) "_law_groups" (.none) (.str "law_pc0383_01" 876) (.ref 552):=fk
theorem mK (P:Params):eB P 558 (dz 60) "_law_rest_right" (.none) (.str "law_pc0383_01" 876) (.ref 557):=fk
theorem vO (P:Params):eB P 565 (dz 61) "_law_rows" (.none) (.str "law_pc0383_01" 876) (.ref 564):=fk
theorem nZ (P:Params):eB P 570 (dz 62) "_law_few_right" (.none) (.str "law_pc0383_01" 876) (.ref 569):=fk
theorem K0 (P:Params):eB P 575 (dz 63) "law" (.none) (.str "law_pc0383_01" 876) (.ref 574):=fk
theorem fH (P:Params):nsIn (K P) mainGlobals "ACTIVITY"=some (some (.int (1) 259)):=by kernel_rfl
theorem lG (P:Params):nsIn (K P) mainGlobals "SHORT"=some (some (.int (2) 261)):=by kernel_rfl
theorem dH (P:Params):nsIn (K P) mainGlobals "AGGREGATION"=some (some (.int (4) 263)):=by kernel_rfl
theorem bX (P:Params):nsIn (K P) mainGlobals "SYNCHRONIZATION"=some (some (.int (8) 265)):=by kernel_rfl
theorem i7 (P:Params):nsIn (K P) mainGlobals "COLLECTING"=some (some (.int (16) 267)):=by kernel_rfl
theorem sD (P:Params):nsIn (K P) mainGlobals "DISTRIBUTING"=some (some (.int (32) 269)):=by kernel_rfl
theorem dP (P:Params):nsIn (K P) mainGlobals "DEFAULTED"=some (some (.int (64) 271)):=by kernel_rfl
theorem lL (P:Params):nsIn (K P) mainGlobals "EXPIRED"=some (some (.int (128) 273)):=by kernel_rfl
theorem og (P:Params):nsIn (K P) mainGlobals "NOBODY"=some (some (.ref 68)):=by kernel_rfl
theorem Hi (P:Params):nsIn (K P) mainGlobals "Lacpdu"=some (some (.ref 93)):=by kernel_rfl
theorem CO (P:Params):nsIn (K P) mainGlobals "has_bit"=some (some (.ref 104)):=by kernel_rfl
theorem Aj (P:Params):nsIn (K P) mainGlobals "with_bit"=some (some (.ref 111)):=by kernel_rfl
theorem n9 (P:Params):nsIn (K P) mainGlobals "SHORT_WAIT"=some (some (.int (3) 344)):=by kernel_rfl
theorem zl (P:Params):nsIn (K P) mainGlobals "LONG_WAIT"=some (some (.int (90) 346)):=by kernel_rfl
theorem vg (P:Params):nsIn (K P) mainGlobals "QUICK_TURN"=some (some (.int (1) 348)):=by kernel_rfl
theorem y8 (P:Params):nsIn (K P) mainGlobals "SLOW_TURN"=some (some (.int (30) 350)):=by kernel_rfl
theorem xi (P:Params):nsIn (K P) mainGlobals "JOIN_WAIT"=some (some (.int (2) 352)):=by kernel_rfl
theorem M3 (P:Params):nsIn (K P) mainGlobals "HOLD"=some (some (.int (3) 354)):=by kernel_rfl
theorem uH (P:Params):nsIn (K P) mainGlobals "LacpRow"=some (some (.ref 143)):=by kernel_rfl
theorem Ar (P:Params):nsIn (K P) mainGlobals "LacpPort"=some (some (.ref 234)):=by kernel_rfl
theorem CZ (P:Params):nsIn (K P) mainGlobals "BITS_OF"=some (some (.ref 239)):=by kernel_rfl
theorem zI (P:Params):nsIn (K P) mainGlobals "move_mux"=some (some (.ref 246)):=by kernel_rfl
theorem Ak (P:Params):nsIn (K P) mainGlobals "next_mux"=some (some (.ref 253)):=by kernel_rfl
theorem z9 (P:Params):nsIn (K P) mainGlobals "step_mux"=some (some (.ref 260)):=by kernel_rfl
theorem tK (P:Params):nsIn (K P) mainGlobals "have_waited"=some (some (.ref 265)):=by kernel_rfl
theorem tG (P:Params):nsIn (K P) mainGlobals "wait_second"=some (some (.ref 272)):=by kernel_rfl
theorem vK (P:Params):nsIn (K P) mainGlobals "KNOWN_BITS"=some (some (.int (15) 589)):=by kernel_rfl
theorem oK (P:Params):nsIn (K P) mainGlobals "begin_link"=some (some (.ref 279)):=by kernel_rfl
theorem z4 (P:Params):nsIn (K P) mainGlobals "end_link"=some (some (.ref 286)):=by kernel_rfl
theorem ue (P:Params):nsIn (K P) mainGlobals "fall_silent"=some (some (.ref 293)):=by kernel_rfl
theorem mf (P:Params):nsIn (K P) mainGlobals "is_same_end"=some (some (.ref 300)):=by kernel_rfl
theorem AJ (P:Params):nsIn (K P) mainGlobals "knows_us"=some (some (.ref 307)):=by kernel_rfl
theorem w8 (P:Params):nsIn (K P) mainGlobals "is_in_step"=some (some (.ref 314)):=by kernel_rfl
theorem L8 (P:Params):nsIn (K P) mainGlobals "hear"=some (some (.ref 321)):=by kernel_rfl
theorem tZ (P:Params):nsIn (K P) mainGlobals "pass_second"=some (some (.ref 328)):=by kernel_rfl
theorem nK (P:Params):nsIn (K P) mainGlobals "message_of"=some (some (.ref 335)):=by kernel_rfl
theorem Dq (P:Params):nsIn (K P) mainGlobals "Chooser"=some (some (.ref 388)):=by kernel_rfl
theorem tI (P:Params):nsIn (K P) mainGlobals "MOST_ROUNDS"=some (some (.int (12) 742)):=by kernel_rfl
theorem uS (P:Params):nsIn (K P) mainGlobals "Bundles"=some (some (.ref 488)):=by kernel_rfl
theorem vD (P:Params):nsIn (K P) mainGlobals "_law_pool"=some (some (.ref 499)):=by kernel_rfl
theorem jh (P:Params):nsIn (K P) mainGlobals "_law_take"=some (some (.ref 506)):=by kernel_rfl
theorem km (P:Params):nsIn (K P) mainGlobals "_law_one"=some (some (.ref 513)):=by kernel_rfl
theorem mu (P:Params):nsIn (K P) mainGlobals "_law_scene"=some (some (.ref 520)):=by kernel_rfl
theorem iE (P:Params):nsIn (K P) mainGlobals "_law_exchange"=some (some (.ref 525)):=by kernel_rfl
theorem oJ (P:Params):nsIn (K P) mainGlobals "_law_pass"=some (some (.ref 532)):=by kernel_rfl
theorem fq (P:Params):nsIn (K P) mainGlobals "_law_turn_link"=some (some (.ref 539)):=by kernel_rfl
theorem tN (P:Params):nsIn (K P) mainGlobals "_law_works"=some (some (.ref 546)):=by kernel_rfl
theorem rP (P:Params):nsIn (K P) mainGlobals "_law_groups"=some (some (.ref 553)):=by kernel_rfl
theorem gP (P:Params):nsIn (K P) mainGlobals "_law_rest_right"=some (some (.ref 558)):=by kernel_rfl
theorem oh (P:Params):nsIn (K P) mainGlobals "_law_rows"=some (some (.ref 565)):=by kernel_rfl
theorem oq (P:Params):nsIn (K P) mainGlobals "_law_few_right"=some (some (.ref 570)):=by kernel_rfl
theorem NW (P:Params):nsIn (K P) mainGlobals "law"=some (some (.ref 575)):=by kernel_rfl
variable {s:Shared} {r:List Expr} {body orelse:List Stmt} {R:Value→Heap→Prop} {RF:Flow→Heap→Prop}
section
variable {w:World} {es:List D} {x:Addr} {rest:List Stmt}
theorem yX {hO:Heap} {tO:Nat} {pl:Sem Bool} (ha:At env h0 m hO) (P:cA w h0) (ho:Ev w A env h0 m o (.ref x)) (O:Ob w h0 x C dx fs) (om:de (K w.params) C name f=true) (g:fs.lookup name=none) (ev:Cj w A env h0 m (e::r) ds)
  (h:∀vs h1 t1,Sub hO h1→bp h1 vs ds→bg w A (call (.ref f) (.ref x::vs)) (sh s h1 t1) R)
  (he:autoParam (starEach (e::r) env=(false,eval e env)::starEach r env) aR) (hpl:autoParam ((backTo pos (starEach r env)).any (·.1)=false) aE)
  (hm:autoParam (eval (.Call (.Attribute o name p1) (e::r) [] pos) env=(do
   let ov←eval o env
   standAt p1.atName
   let (f,first)←holding [ov] (getMethod ov name pl)
   callWith pos f first (backTo pos (starEach (e::r) env)) [])) aR):bg w A (eval (.Call (.Attribute o name p1) (e::r) [] pos) env) (sh s hO tO) R:=by
 intro Q E q
 refine ao (O.miss g) fun es n I gn=>?_
 simp only [de,Bool.and_eq_true,beq_iff_eq] at om
 refine MethodCall_ (pl:=pl) (ho (sh s hO tO) ha _ _ fun v h1 t1=>av fun k1 r1=>?_) hm
 cases r1
 have kk:=ha.sub.trans k1
 refine method_fn (P.k.keeps kk) (I.keeps kk).at' (plainGet_of om.1.1.1).1 (plainGet_of om.1.1.1).2 om.1.1.2 (beq_iff_eq.mp om.1.2) (by show (lookIn name (dictOf es n)).map _=_;rw [lookIn_dict,gn];rfl) ?_
 refine jV (h0:=h0) (m:=m) (ds:=ds) (P.keeps kk) om.2 (ha.step k1) ev (fun vs h2 t2 k2 r2=>?_) he hpl
 exact h vs h2 t2 (k1.trans k2) r2 _ _ fun v h3 t3 r3=>q v h3 t3 r3
theorem u6 {hO:Heap} {tO:Nat} {pl:Sem Bool} (ha:At env h0 m hO) (P:cA w h0) (ho:Ev w A env h0 m o (.ref x)) (O:Ob w h0 x C dx fs) (om:de (K w.params) C name f=true) (g:fs.lookup name=none)
  (h:∀h1 t1,Sub hO h1→bg w A (call (.ref f) [.ref x]) (sh s h1 t1) R)
  (hm:autoParam (eval (.Call (.Attribute o name p1) [] [] pos) env=(do
   let ov←eval o env
   standAt p1.atName
   let (f,first)←holding [ov] (getMethod ov name pl)
   callWith pos f first (backTo pos (starEach [] env)) [])) aR):bg w A (eval (.Call (.Attribute o name p1) [] [] pos) env) (sh s hO tO) R:=by
 intro Q E q
 refine ao (O.miss g) fun es n I gn=>?_
 simp only [de,Bool.and_eq_true,beq_iff_eq] at om
 refine MethodCall_ (pl:=pl) (ho (sh s hO tO) ha _ _ fun v h1 t1=>av fun k1 r1=>?_) hm
 cases r1
 have kk:=ha.sub.trans k1
 refine method_fn (P.k.keeps kk) (I.keeps kk).at' (plainGet_of om.1.1.1).1 (plainGet_of om.1.1.1).2 om.1.1.2 (beq_iff_eq.mp om.1.2) (by show (lookIn name (dictOf es n)).map _=_;rw [lookIn_dict,gn];rfl) ?_
 refine callWith_K0 (P.keeps kk).k om.2 ?_
 exact h h1 t1 k1 _ _ fun v h3 t3 r3=>q v h3 t3 r3
theorem j5 {hO:Heap} {tO:Nat} (h:bg w A (eval e env) (sh s hO tO) fun v h'=>(∀a,v≠ .ref a)∧∀t',bg w A (execs rest env) (sh s h' t') RF)
  (hi:autoParam (interactive env=false) aE) (hs:autoParam (swapsWith e none pos.line env=pure false) aP):bg w A (execs (.Expr e pos::rest) env) (sh s hO tO) RF:=by
 intro Q E q
 refine wpAny_execs_cons (wpAny_Expr (h _ _ fun v h' t'=>av fun a b=>?_) hi hs)
 cases v<;>first |exact b t' Q E q |exact absurd rfl (a _)
theorem JA {hO:Heap} {tO:Nat} {b:Bool} (ht:bg w A (isTrue e env (eval e env)) (sh s hO tO) fun c h'=>∀t',bg w A (execs (if c then body else orelse) env) (sh s h' t') (Nx w A rest env s RF)):
  bg w A (execs (.If e body orelse pos::rest) env) (sh s hO tO) RF:=by
 intro Q E q
 refine wpAny_execs_cons (wpAny_If (ht _ _ fun c h' t' k=>?_))
 have gF:∀(fl:Flow) (h2:Heap) (t2:Nat),Nx w A rest env s RF fl h2→
   (match fl with | .next=>wpAny (model pw w) A (execs rest env) Q E (sh s h2 t2) |f=>Q f (sh s h2 t2)):=by
  intro fl h2 t2 z
  cases fl<;>first |exact z t2 Q E q |exact q _ h2 t2 z
 cases c with
 |true=>rw [if_pos rfl];exact k t' _ _ fun fl h2 t2 z=>gF fl h2 t2 z
 |false=>rw [if_neg (by decide)];exact k t' _ _ fun fl h2 t2 z=>gF fl h2 t2 z
theorem ou (h:bg w A (eval e env) s fun v h'=>RF (.ret v) h'):bg w A (execs (.Return (some e) pos::rest) env) s RF:=
 fun Q E q=>wpAny_execs_cons (wpAny_Return_some (h _ _ fun v h' t' k=>q _ h' t' k))
end
noncomputable def lR (w:World) (h:Heap) (M:List Addr):Prop:=∃B,cA w B∧Sub B h∧∀b∈M,B.get? b=none
theorem lR.pin {w:World} {h:Heap} {M:List Addr} (F:lR w h M):cA w h:=ar F fun V P k V=>P.keeps k
theorem lR.sub {w:World} {h h':Heap} {M:List Addr} (F:lR w h M) (k:Sub h h'):lR w h' M:=ar F fun B P k0 z=>(cb B P (k0.trans k) z)
theorem lR.less {w:World} {h:Heap} {M N:List Addr} (F:lR w h M) (s:∀b∈N,b∈M):lR w h N:=ar F fun B P k0 z=>(cb B P k0 (fun b hb=>z b (s b hb)))
theorem Ob.apart {w:World} {h:Heap} {x C dx x' C' dx':Addr} {fs fs':List (Str×D)} (O:Ob w h x C dx fs) (O':Ob w h x' C' dx' fs'):x≠dx':=fun q=>by
 refine fw O'.isDict fun es n e=>?_
 have:=O.inst
 rw [q,e] at this;cases this
theorem Ob.apartD {w:World} {h:Heap} {x C dx x' C' dx':Addr} {fs fs':List (Str×D)} (O:Ob w h x C dx fs) (O':Ob w h x' C' dx' fs') (hl:fs.length≠fs'.length):dx≠dx':=fun q=>by
 refine ao O.ex fun es k I r=>?_
 refine ao O'.ex fun es' k' I' r'=>?_
 have e:=I.d
 rw [q,I'.d] at e
 have z:=congrArg (fun o:Option Obj=>match o with |some ⟨_,_,.dict es _,_⟩=>es.size |_=>0) e
 simp only [List.size_toArray] at z
 rw [wy r,wy r'] at z
 exact hl z.symm
theorem jf.apart {w:World} {h:Heap} {x dx rx rdx:Addr} {p:ah} (O:jf w h x dx rx rdx p):rx∉ [dx]∧rdx∉ [dx]:=
 ⟨by simpa using O.r.apart O.o,by simpa using O.r.apartD O.o (by simp [dZ,fE])⟩
theorem rT {h h':Heap} {L:Addr} {m:Str→Option Value} (n:h.Ns L m) (k:∀o,h.get? L=some o→h'.get? L=some o):h'.Ns L m:=by
 refine cn n fun o es ep ho r=>?_
 exact ⟨o,es,ep,k _ ho,r⟩
variable {RN:Heap→Prop} {iter:Expr}
section
variable {w:World} {target:Expr} {rest:List Stmt}
structure OH (w:World) (A:Around) (env:Env) (s:Shared) (target:Expr) (body:List Stmt) (RN:Heap→Prop) (RF:Flow→Heap→Prop) (I:Addr) (fp wr:List Addr) (n:Nat) (P:Nat→Value→Prop) (St:Nat→Heap→Prop) (Inv:Nat→Heap→Prop):Prop where
 walks:Walks pw w A I fp wr n P St
 stab:∀i h h',Inv i h→St i h→cv wr h h'→Inv i h'
 own:∀i (s:Shared) v,St i s.heap→bg w A (letOwnedTupleGo target (.ref I) v) s fun V h'=>h'=s.heap
 step:∀i v h t,i <n→P i v→St (i+1) h→Inv i h→bg w A (assign target env v) (sh s h t) fun V h2=>∀t2,bg w A (execs body env) (sh s h2 t2) fun fl h3=>
  (∀b∈fp,∀o,h.get? b=some o→h3.get? b=some o)∧match fl with | .next | .cont=>Inv (i+1) h3 | .brk=>RN h3 | .ret v=>RF (.ret v) h3
 done:∀h,Inv n h→RN h
theorem Gb {I:Addr} {fp wr:List Addr} {n:Nat} {P:Nat→Value→Prop} {St:Nat→Heap→Prop} {Inv:Nat→Heap→Prop} {h0:Heap} {t0:Nat} (L:OH w A env s target body RN RF I fp wr n P St Inv) (i0:Inv 0 h0) (s0:St 0 h0)
  (Q:Flow→Shared→Prop) (E:Value→Shared→Prop) (qn:∀h t,RN h→Q .next (sh s h t)) (qr:∀v h t,RF (.ret v) h→Q (.ret v) (sh s h t)):
  codeAny (model pw w) A (.forLoop target (.ref I) body [] env) (fun r s'=>match r with | .ok f=>Q f s' | .error e=>cameBackBy (model pw w) A env E e s') (sh s h0 t0):=by
 refine codeAny_forLoop_any (fun k s'=>∃h t,s'=(sh s h t)∧k≤n∧Inv (n - k) h∧St (n - k) h) ?_ n (dm h0 t0 rfl (Nat.le_refl _) (by rw [Nat.sub_self];exact i0) (by rw [Nat.sub_self];exact s0))
 intro k s' zq
 obtain ⟨h,t,rfl,hk,hI,hS⟩:=zq
 cases k with
 |zero=>
  rw [Nat.sub_zero] at hI hS
  refine L.walks.done _ _ _ hS fun h' tk kp=>?_
  exact wpAny_execs_nil (qn h' tk (L.done h' (L.stab n h h' hI hS kp)))
 |succ k=>
  have hlt:n - (k+1) <n:=Nat.sub_lt (Nat.lt_of_lt_of_le (Nat.succ_pos k) hk) (Nat.succ_pos k)
  have e1:n - (k+1)+1=n - k:=Nat.sub_add_cancel (Nat.sub_pos_of_lt hk)
  refine L.walks.item _ _ _ _ hlt hS fun v h' tk hP hS' kp=>?_
  have hI':=L.stab _ h h' hI hS kp
  refine L.own _ (sh s h' tk) v hS' _ _ fun V h1 t1 e=>?_
  subst e
  refine L.step _ v h1 t1 hlt hP hS' hI' _ _ fun V h2 t2 z=>?_
  refine z t2 _ _ fun fl h3 t3=>av fun kf z3=>?_
  rw [e1] at hS' z3
  cases fl with
  |next=>exact ⟨k,Nat.lt_succ_self k,h3,t3,rfl,Nat.le_of_lt hk,z3,L.walks.frame _ _ _ hS' kf⟩
  |cont=>exact ⟨k,Nat.lt_succ_self k,h3,t3,rfl,Nat.le_of_lt hk,z3,L.walks.frame _ _ _ hS' kf⟩
  |brk=>exact qn h3 t3 z3
  |ret v=>exact qr v h3 t3 z3
theorem Ji {hO:Heap} {tO:Nat} (he:bg w A (eval iter env) (sh s hO tO) fun v h1=>∀t1,bg w A (pyIter v) (sh s h1 t1) fun it h2=>∃I fp wr n P St Inv,it= .ref I∧OH w A env (sh s hO tO) target body RN RF I fp wr n P St Inv∧Inv 0 h2∧St 0 h2)
  (hr:∀h t,RN h→bg w A (execs rest env) (sh s h t) RF)
  (hs:autoParam (∀x,foldedSetIterable iter env x=pure x) aI):bg w A (execs (.For target iter body [] pos::rest) env) (sh s hO tO) RF:=by
 intro Q E q
 refine wpAny_execs_cons (wpAny_For (he _ _ fun v h1 t1 z=>?_) hs)
 refine z t1 _ _ fun it h2 t2=>jB fun I fp wr n P St Inv e L i0 s0=>?_
 subst e
 refine Gb (s:=(sh s hO tO)) L i0 s0 _ E (fun h t r=>hr h t r Q E q) fun v h t r=>q _ h t r
theorem Et {x:Str} {p1:Pos} {I:Addr} {v:Value}:bg w A (letOwnedTupleGo (.Name x p1) (.ref I) v) s fun V h'=>h'=s.heap:=fun Q E q=>wpAny_pure (q () s.heap s.toks rfl)
noncomputable abbrev bh (vs:List Value) (n:Nat):Obj:={cls:=.type "list",data:=.seq vs.toArray n}
theorem bL {h:Heap} {a:Addr} {vs:List Value} {n:Nat} (e:h.get? a=some (bh vs n)):h.IsList a vs.toArray:=yb _ e rfl n rfl
theorem ux {l:Addr} {vs:List Value} {n:Nat} (hl:s.heap.get? l=some (bh vs n)):bg w A (pyIter (.ref l)) s fun it h2=>it= .ref s.heap.objs.size∧Sub s.heap h2∧h2.IsListIter s.heap.objs.size l 0∧h2.IsList l vs.toArray:=
 fun Q E q=>wpAny_pyIter_list (bL hl) (q _ _ s.toks (l6 rfl (Sub.push _) (cb _ (Heap.get?_push_size _ rfl) rfl rfl) ((bL hl).at fun o e=>Heap.get?_push_of_some _ e)))
theorem FK {l:Addr} {vs:List Value} {n:Nat} (hl:s.heap.get? l=some (e7 vs n)):bg w A (pyIter (.ref l)) s fun it h2=>it= .ref s.heap.objs.size∧Sub s.heap h2∧h2.IsTupleIter s.heap.objs.size l 0∧h2.IsTuple l vs.toArray:=by
 intro Q E q
 have hT:s.heap.IsTuple l vs.toArray:=yb _ hl rfl n rfl
 refine wpAny_pyIter_tuple hT (q _ _ s.toks (l6 rfl (Sub.push _) (cb _ (Heap.get?_push_size _ rfl) rfl rfl) (hT.at fun o e=>Heap.get?_push_of_some _ e)))
end
noncomputable def cN (h:Heap) (a:Addr) (ds:List D):Prop:=∃vs n,h.get? a=some (bh vs n)∧bp h vs ds
theorem cN.keep {h h':Heap} {a:Addr} {ds:List D} {M:List Addr} (x:cN h a ds) (k:cv M h h') (t:bl h h') (ha:a∉M):cN h' a ds:=ao x fun vs n e r=>(fZ vs n (k _ _ ha e) (r.mono t))
theorem cN.sub {h h':Heap} {a:Addr} {ds:List D} (x:cN h a ds) (k:Sub h h'):cN h' a ds:=x.keep (M:=[]) k.keep k.t mN
theorem cN.lt {h:Heap} {a:Addr} {ds:List D} (x:cN h a ds):a <h.objs.size:=ao x fun V V e V=>Heap.lt_size e
theorem aA {h:Heap} {a:Addr} (e:h.objs.size≤a):h.get? a=none:=by
 cases q:h.get? a with
 |none=>rfl
 |some o=>exact absurd (Heap.lt_size q) (Nat.not_lt.mpr e)
structure qu (w:World) (A:Around) (hb:Heap) (I src:Addr) (h:Heap) (ds:List D):Prop where
 ex:∃fp P St,Walks pw w A I fp [I] ds.length P St∧St 0 h∧(∀b∈fp,b=I∨b=src)∧(∀i h,St i h→∀b∈fp,∃o,h.get? b=some o)∧(∀i v,P i v→∃d,ds[i]? =some d∧RD h v d)∧(∀i h,St i h→l9 h I)
 new:hb.get? I=none
theorem qu.less {w:World} {A:Around} {hb hc:Heap} {I src:Addr} {h:Heap} {ds:List D} (x:qu w A hb I src h ds) (k:Sub hc hb):qu w A hc I src h ds:=⟨x.ex,by
 cases q:hc.get? I with
 |none=>rfl
 |some o=>have:=k _ _ q;exact u5 x.new this⟩
section
variable {w:World}
theorem bp.at {h:Heap} {vs:List Value} {ds:List D} (r:bp h vs ds) {i:Nat} {v:Value} (e:vs.toArray[i]? =some v):∃d,ds[i]? =some d∧RD h v d:=by
 have hl:=r.length
 have e':vs[i]? =some v:=by simpa using e
 have hi:i <ds.length:=by rw [←hl];exact (List.getElem?_eq_some_iff.mp e').1
 refine ab (r.get (k:=i) (d:=ds[i]) (List.getElem?_eq_getElem hi)) fun u h1 h2=>?_
 rw [h1] at e';cases e'
 exact a9 _ (List.getElem?_eq_getElem hi) h2
theorem th {l:Addr} (hh:A.handled=none) (L:cN s.heap l ds):bg w A (pyIter (.ref l)) s fun it h2=>it= .ref s.heap.objs.size∧Sub s.heap h2∧qu w A s.heap s.heap.objs.size l h2 ds:=by
 refine ao L fun vs n e r=>?_
 refine (ux e).mono ?_
 intro it h2 zq
 refine df zq fun h1 k h3 h4=>?_
 refine ⟨h1,k,(d9 [s.heap.objs.size,l] (fun i v=>vs.toArray[i]? =some v) (fun i h=>h.IsListIter s.heap.objs.size l i∧h.IsList l vs.toArray) ?_ ⟨h3,h4⟩ (fun b hb=>?_) (fun i h st b hb=>?_) (fun i v hv=>(r.mono k.t).at hv) (fun i h st vs n e=>?_)),aA (Nat.le_refl _)⟩
 ·have:=Walks.list (prog:=pw) (w:=w) hh s.heap.objs.size l (Nat.ne_of_lt (Heap.lt_size e)) vs.toArray
  rw [show ds.length=vs.toArray.size from r.length.symm]
  exact this
 ·simpa using hb
 ·replace hb:=Cv hb
  rcases hb with rfl |rfl
  ·refine ab st.1 fun o ho V=>?_;exact ⟨_,ho⟩
  ·refine ab st.2 fun o ho V=>?_;exact ⟨_,ho⟩
 ·refine ar st.1 fun o ho hc V=>?_
  rw [e] at ho;exact ia ho (by rw [hc];decide) (by rw [hc];decide)
theorem E9 {l:Addr} {vs:List Value} {n:Nat} (hh:A.handled=none) (e:s.heap.get? l=some (e7 vs n)) (r:bp s.heap vs ds):bg w A (pyIter (.ref l)) s fun it h2=>it= .ref s.heap.objs.size∧Sub s.heap h2∧qu w A s.heap s.heap.objs.size l h2 ds:=by
 refine (FK e).mono ?_
 intro it h2 zq
 refine df zq fun h1 k h3 h4=>?_
 refine ⟨h1,k,(d9 [s.heap.objs.size,l] (fun i v=>vs.toArray[i]? =some v) (fun i h=>h.IsTupleIter s.heap.objs.size l i∧h.IsTuple l vs.toArray) ?_ ⟨h3,h4⟩ (fun b hb=>?_) (fun i h st b hb=>?_) (fun i v hv=>(r.mono k.t).at hv) (fun i h st vs n e=>?_)),aA (Nat.le_refl _)⟩
 ·have:=Walks.tuple (prog:=pw) (w:=w) hh s.heap.objs.size l (Nat.ne_of_lt (Heap.lt_size e)) vs.toArray
  rw [show ds.length=vs.toArray.size from r.length.symm]
  exact this
 ·simpa using hb
 ·replace hb:=Cv hb
  rcases hb with rfl |rfl
  ·refine ab st.1 fun o ho V=>?_;exact ⟨_,ho⟩
  ·refine ab st.2 fun o ho V=>?_;exact ⟨_,ho⟩
 ·refine ar st.1 fun o ho hc V=>?_
  rw [e] at ho;exact ia ho (by rw [hc];decide) (by rw [hc];decide)
end
structure ng (F:List Addr) (S:Heap→Prop):Prop where
 mo:∀h h',S h→bl h h'→(∀b∈F,∀o,h.get? b=some o→h'.get? b=some o)→S h'
 ex:∀h,S h→∀b∈F,∃o,h.get? b=some o
theorem ng.and {F G:List Addr} {S T:Heap→Prop} (a:ng F S) (b:ng G T):ng (F++G) fun h=>S h∧T h:=
 ⟨fun h h'=>av fun x y t k=>⟨a.mo h h' x t fun b hb=>k b (List.mem_append_left _ hb),b.mo h h' y t fun b hb=>k b (List.mem_append_right _ hb)⟩,
 fun h=>av fun x y c hc=>(List.mem_append.mp hc).elim (a.ex h x c) (b.ex h y c)⟩
theorem ng.sub {F:List Addr} {S:Heap→Prop} (a:ng F S) {h h':Heap} (x:S h) (k:Sub h h'):S h':=a.mo h h' x k.t fun b V o e=>k b o e
theorem ng.keep {F M:List Addr} {S:Heap→Prop} (a:ng F S) {h h':Heap} (x:S h) (k:cv M h h') (t:bl h h') (d:∀b∈F,b∉M):S h':=a.mo h h' x t fun b hb o e=>k b o (d b hb) e
theorem lK {a:Addr} {ds:List D}:ng [a] fun h=>cN h a ds:=⟨fun V V=>kO fun vs n e r t k=>fZ vs n (k a (.head _) _ e) (r.mono t),fun V=>kO fun V V e V b hb=>by rw [List.mem_singleton.mp hb];exact ⟨_,e⟩⟩
variable {rdx rx:Addr}
section
variable {w:World} {x:Addr} {p:ah}
theorem Ob.mo {h h':Heap} {x C dx:Addr} {fs:List (Str×D)} (O:Ob w h x C dx fs) (t:bl h h') (kx:∀o,h.get? x=some o→h'.get? x=some o) (kd:∀o,h.get? dx=some o→h'.get? dx=some o):Ob w h' x C dx fs:=by
 refine ao O.ex fun es n I r=>?_
 exact ⟨es,n,⟨kx _ I.i,kd _ I.d⟩,qi.mono r t⟩
theorem jd {x C dx:Addr} {fs:List (Str×D)}:ng [x,dx] fun h=>Ob w h x C dx fs:=
 ⟨fun h h' O t k=>O.mo t (fun o e=>k _ (.head _) o e) (fun o e=>k _ jT o e),fun h O b hb=>by
  replace hb:=Cv hb
  rcases hb with rfl |rfl
  ·exact ⟨_,O.inst⟩
  ·refine fw O.isDict fun V V e=>?_;exact ⟨_,e⟩⟩
theorem kG:ng [x,dx,rx,rdx] fun h=>jf w h x dx rx rdx p:=
 ⟨fun h h' O t k=>⟨O.o.mo t (fun o e=>k _ (.head _) o e) (fun o e=>k _ jT o e),O.r.mo t (fun o e=>k _ uO o e) (fun o e=>k _ M1 o e)⟩,fun h O b hb=>by
  replace hb:=Qw hb
  rcases hb with rfl |rfl |rfl |rfl
  ·exact ⟨_,O.o.inst⟩
  ·refine fw O.o.isDict fun V V e=>?_;exact ⟨_,e⟩
  ·exact ⟨_,O.r.inst⟩
  ·refine fw O.r.isDict fun V V e=>?_;exact ⟨_,e⟩⟩
end
section
variable {b:Nat}
theorem ox (a b:aT):D.eqv (aw a) (aw b)=(a==b):=by
 obtain ⟨a1,a2⟩:=a;obtain ⟨b1,b2⟩:=b
 simp only [D.eqv,aw,D.py,D.pys,PyData.eqv,PyData.eqvAll,Bool.and_true]
 rfl
theorem Fc (a b:dq):D.eqv (b8 a) (b8 b)=(a==b):=by
 have h1:=ox a.sys b.sys
 have h2:=ox a.pid b.pid
 have e:D.eqv (b8 a) (b8 b)=(D.eqv (aw a.sys) (aw b.sys)&&((a.key==b.key)&&(D.eqv (aw a.pid) (aw b.pid)&&((a.st:Int)==(b.st:Int))))):=by
  simp only [D.eqv,b8,D.py,D.pys,PyData.eqv,PyData.eqvAll,Bool.and_true]
 rw [e,h1,h2]
 obtain ⟨a1,a2,a3,a4⟩:=a;obtain ⟨b1,b2,b3,b4⟩:=b
 rw [Bool.eq_iff_iff]
 simp only [Bool.and_eq_true,beq_iff_eq,dq.mk.injEq,Int.natCast_inj]
theorem uW (i:dq):(b8 i).flat 9=true:=by rfl
end
structure nh {w:World} {KK:Type} [DecidableEq KK] (knd:KeyKind pw w KK) (h:Heap) (a:Addr) (kds:List (KK×D)):Prop where
 ex:∃kvs:List (KK×Value),h.DictOf knd a kvs∧kvs.map (·.1)=kds.map (·.1)∧bp h (kvs.map (·.2)) (kds.map (·.2))
section
variable {w:World} {KK:Type} [DecidableEq KK] {knd:KeyKind pw w KK} {a:Addr} {kds:List (KK×D)} {k:KK}
theorem M8 (D0:h.DictOf knd a kvs) (k:∀o,h.get? a=some o→h'.get? a=some o):h'.DictOf knd a kvs:=cn D0 fun o es ep ho r=>⟨o,es,ep,k _ ho,r⟩
theorem jD:ng [a] fun h=>nh knd h a kds:=⟨fun h h' X t k=>ar X.ex fun kvs d e r=>⟨kvs,M8 d fun o e=>k a (.head _) o e,e,r.mono t⟩,fun h X b hb=>by
 rw [List.mem_singleton.mp hb]
 refine ab X.ex fun kvs d V=>?_
 refine cn d fun o V V ho V=>?_
 exact ⟨_,ho⟩⟩
theorem nh.sub (x:nh knd h a kds) (k:Sub h h'):nh knd h' a kds:=jD.sub x k
theorem A8 {K V0:Type} {f:V0→Value} {h:Heap} (P:List (K×D)→List (K×V0)→Prop) (n:P [] []) (c:∀k d kds x xs,xs.map (·.1)=kds.map (·.1)→bp h (xs.map fun x=>f x.2) (kds.map (·.2))→RD h (f x) d→P kds xs→P ((k,d)::kds) ((k,x)::xs)):
  ∀(kds:List (K×D)) (xs:List (K×V0)),xs.map (·.1)=kds.map (·.1)→bp h (xs.map fun x=>f x.2) (kds.map (·.2))→P kds xs:=
 List.rec (fun xs=>List.casesOn xs (fun V V=>n) fun V V e=>nomatch e) fun a kds ih xs=>List.casesOn xs (fun e=>nomatch e) fun b xs e r=>
  ivC (d:=a.2) (ds:=kds.map (·.2)) r fun v ws r1 r2 q=>by
   cases q
   have e2:=(List.cons.inj e).2
   have z:=c b.1 a.2 kds b.2 xs e2 r2 r1 (ih xs e2 r2)
   have e1:b.1=a.1:=(List.cons.inj e).1
   revert z
   exact Eq.rec (motive:=fun y V=>P ((y,a.2)::kds) (b::xs)→P (a::kds) (b::xs)) (fun z=>z) e1.symm
noncomputable def Ju {K V0:Type} (f:V0→Value) (h:Heap) (o:Option (K×D)) (u:Option (K×V0)):Prop:=(∀d,o.map (·.2)=some d→∃v,u.map (·.2)=some v∧RD h (f v) d)∧(o.map (·.2)=none→u.map (·.2)=none)
theorem Ko {K V0:Type} [DecidableEq K] {f:V0→Value} {h:Heap} {kds:List (K×D)} {xs:List (K×V0)} (e:xs.map (·.1)=kds.map (·.1)) (r:bp h (xs.map fun x=>f x.2) (kds.map (·.2))) (k:K):
  Ju f h (kds.find? fun x=>x.1=k) (xs.find? fun x=>x.1=k):=
 A8 (fun kds xs=>Ju f h (kds.find? fun x=>x.1=k) (xs.find? fun x=>x.1=k)) ⟨fun V e=>noA e,fun V=>rfl⟩ (fun k1 d1 kds x xs V V r i=>
  let g (b:Bool) (z:Ju f h (kds.find? fun x=>x.1=k) (xs.find? fun x=>x.1=k)):Ju f h (match b with |true=>some (k1,d1) |false=>kds.find? fun x=>x.1=k) (match b with |true=>some (k1,x) |false=>xs.find? fun x=>x.1=k):=by
   cases b with
   |true=>exact ⟨fun d e=>⟨x,rfl,Option.some.inj e▸r⟩,fun e=>noB e⟩
   |false=>exact z
  g _ i) kds xs e r
theorem xr {h:Heap} {kds:List (KK×D)} {kvs:List (KK×Value)} (e:kvs.map (·.1)=kds.map (·.1)) (r:bp h (kvs.map (·.2)) (kds.map (·.2))) (k:KK):
  (∀d,(kds.find? fun x=>x.1=k).map (·.2)=some d→∃v,valueAt kvs k=some v∧RD h v d)∧((kds.find? fun x=>x.1=k).map (·.2)=none→valueAt kvs k=none):=Ko (f:=fun v=>v) e r k
noncomputable abbrev fu (kds:List (KK×D)) (k:KK):Option D:=(kds.find? fun x=>x.1=k).map (·.2)
theorem nh.get (x:nh knd h a kds) (e:fu kds k=some d):∃kvs v,h.DictOf knd a kvs∧valueAt kvs k=some v∧RD h v d:=by
 refine ar x.ex fun kvs D0 e1 r=>?_
 refine ab ((xr e1 r k).1 d e) fun v h1 h2=>?_
 exact hZ kvs v D0 h1 h2
theorem nh.some (x:nh knd h a kds):∃kvs,h.DictOf knd a kvs∧(valueAt kvs k).isSome=(fu kds k).isSome:=by
 refine ar x.ex fun kvs D0 e1 r=>?_
 refine a9 kvs D0 ?_
 have:=xr e1 r k
 cases q:fu kds k with
 |none=>rw [this.2 q];rfl
 |some d=>refine ab (this.1 d q) fun v e V=>?_;rw [e];rfl
end
section
variable {w:World} {dk:D} {a:Addr} {KK:Type} [DecidableEq KK] {knd:KeyKind pw w KK} {kds:List (KK×D)} {k:KK}
theorem xN (he:Ev w A env h0 m e (.ref a)) (hi:Ev w A env h0 m e2 dk) (hk:∀h v,RD h v dk→knd.is k v=true) (dc:nh knd h0 a kds) (hd:fu kds k=some d)
  (hs:autoParam (∀o i,subscripted e2 false o i=operate [o,i] (getItem o i)) aJ):Ev w A env h0 m (.Subscript e e2 pos) d:=by
 intro s ks Q E q
 refine Subscript_ (he s ks _ _ fun v1 h1 t1=>av fun k1 r1=>?_)
 refine hi (sh s h1 t1) (ks.step k1) _ _ fun v2 h2 t2=>av fun k2 r2=>?_
 cases r1
 refine cH ((dc.sub (ks.sub.trans (k1.trans k2))).get hd) fun kvs v dd hv hr=>?_
 refine tail_any dd.typeIs slot_dict_getitem.lookup ?_ (hs _ _)
 exact wpAny_getItem_of (hk _ _ r2) dd.mapOf hv (q v h2 _ ⟨k1.trans k2,hr⟩)
theorem xp (hk:∀h v,RD h v dk→knd.is k v=true) (dc:nh knd h0 a kds) (hd:(a==sysModules)=false):iD w A h0 .In dk (.ref a) (fu kds k).isSome:=by
 intro s v1 v2 k0 r1 r2 Q E q
 cases r2
 refine ab ((dc.sub k0).some (k:=k)) fun kvs dd hv=>?_
 exact wpAny_in_of (hk _ _ r1) hd dd.mapOf (hv▸q _ s.heap _ ⟨Sub.rfl',rfl⟩)
theorem sX (hk:∀h v,RD h v dk→knd.is k v=true) (dc:nh knd h0 a kds) (hd:(a==sysModules)=false):iD w A h0 .NotIn dk (.ref a) (!(fu kds k).isSome):=by
 intro s v1 v2 k0 r1 r2 Q E q
 cases r2
 refine ab ((dc.sub k0).some (k:=k)) fun kvs dd hv=>?_
 exact wpAny_notIn_of (hk _ _ r1) hd dd.mapOf (hv▸q _ s.heap _ ⟨Sub.rfl',rfl⟩)
theorem rz {x:Str}:∀h v,RD h v (.str x)→(strKind pw w).is x v=true:=fun h v r=>by cases r;exact strKind_is _ _ _ _
theorem gj {i:Int}:∀h v,RD h v (.int i)→(intKind pw w).is i v=true:=fun h v r=>by cases r;exact intKind_is _ _ _ _
theorem MN (P:Params):(K P).lookup 239=some ⟨.type "dict",none,.dict #[⟨PyData.keyHash P "detached",.str "detached" 528,.int 0 529⟩,⟨PyData.keyHash P "waiting",.str "waiting" 530,.int 0 531⟩,⟨PyData.keyHash P "attached",.str "attached" 532,.int 8 265⟩,⟨PyData.keyHash P "collecting",.str "collecting" 533,.int 24 534⟩,⟨PyData.keyHash P "distributing",.str "distributing" 535,.int 56 537⟩] 5,#[]⟩:=by kernel_rfl
noncomputable def Ks:List (Str×D):=[("detached",.int 0),("waiting",.int 0),("attached",.int 8),("collecting",.int 24),("distributing",.int 56)]
theorem Hx {h:Heap} (P:cA w h):nh (strKind pw w) h 239 Ks:=by
 refine ⟨(cb [("detached",.int 0 529),("waiting",.int 0 531),("attached",.int 8 265),("collecting",.int 24 534),("distributing",.int 56 537)] (d9 _ _ _ (P.k _ _ (MN _)) ⟨rfl,rfl,rfl⟩ rfl ?_ ?_ (by decide)) rfl ?_)⟩
 ·intro e he
  simp only [List.mem_toArray,List.mem_cons,List.not_mem_nil,or_false] at he
  rcases he with rfl |rfl |rfl |rfl |rfl<;>exact a9 _ (strKind_is _ _ _ _) rfl
 ·exact .cons (strKind_is _ _ _ _) rfl (.cons (strKind_is _ _ _ _) rfl (.cons (strKind_is _ _ _ _) rfl (.cons (strKind_is _ _ _ _) rfl (.cons (strKind_is _ _ _ _) rfl .nil))))
 ·exact .cons (.int _ _) (.cons (.int _ _) (.cons (.int _ _) (.cons (.int _ _) (.cons (.int _ _) .nil))))
theorem Ik (u:eR):fu Ks (eR.s u)=some (.int (fP u)):=by cases u<;>with_unfolding_all rfl
end
section
variable {w:World}
theorem fS (r:Rm n A) (a b:eR):iD w A h0 .Eq (.str (eR.s a)) (.str (eR.s b)) (a==b):=by rw [←EZ];exact pe r (oH _) (oH _)
theorem gO (r:Rm n A) (a b:ai):iD w A h0 .Eq (.str (ai.s a)) (.str (ai.s b)) (a==b):=by rw [←pZ];exact pe r (h8 _) (h8 _)
theorem tJ (r:Rm n A) (a b:ai):iD w A h0 .NotEq (.str (ai.s a)) (.str (ai.s b)) (a !=b):=by rw [bne,←pZ];exact mV r (h8 _) (h8 _)
theorem DE (r:Rm n A) (a b:c6):iD w A h0 .Eq (.str (c6.s a)) (.str (c6.s b)) (a==b):=by rw [←rZ];exact pe r (g6 _) (g6 _)
theorem v8 (r:Rm n A) (a b:c6):iD w A h0 .NotEq (.str (c6.s a)) (.str (c6.s b)) (a !=b):=by rw [bne,←rZ];exact mV r (g6 _) (g6 _)
end
section
variable {w:World}
theorem lP {h:Heap} (P:cA w h):RD h (.ref 68) (b8 gZ):=
 .tup (n:=0) (vs:=[.ref 66,.int 0 277,.ref 67,.int 56 281]) (P.k _ _ (by kernel_rfl)) (.cons (.tup (n:=0) (vs:=[.int 0 275,.int 0 276]) (P.k _ _ (by kernel_rfl)) (.cons (.int _ _) (.cons (.int _ _) .nil))) (.cons (.int _ _) (.cons (.tup (n:=0) (vs:=[.int 0 278,.int 0 279]) (P.k _ _ (by kernel_rfl)) (.cons (.int _ _) (.cons (.int _ _) .nil))) (.cons (.int _ _) .nil))))
end
noncomputable def jX (d:oM):List (Str×D):=[("actor",b8 d.actor),("partner",b8 d.partner),("most_delay",.int 0)]
noncomputable abbrev BU (w:World) (h:Heap) (y dy:Addr) (d:oM):Prop:=Ob w h y 93 dy (jX d)
section
variable {w:World}
theorem uL (a b:dq):D.eqv (.tup [aw a.sys,.int a.key,aw a.pid]) (.tup [aw b.sys,.int b.key,aw b.pid])=a.same3 b:=by
 have h1:=ox a.sys b.sys
 have h2:=ox a.pid b.pid
 have e:D.eqv (.tup [aw a.sys,.int a.key,aw a.pid]) (.tup [aw b.sys,.int b.key,aw b.pid])=(D.eqv (aw a.sys) (aw b.sys)&&((a.key==b.key)&&D.eqv (aw a.pid) (aw b.pid))):=by
  simp only [D.eqv,D.py,D.pys,PyData.eqv,PyData.eqvAll,Bool.and_true]
 rw [e,h1,h2];exact (Bool.and_assoc ..).symm
noncomputable def i3 (a:dq):D:=.tup [aw a.sys,.int a.key,aw a.pid]
theorem Ex (r:Rm n A) (a b:dq):iD w A h0 .Eq (i3 a) (i3 b) (a.same3 b):=by rw [←uL];exact pe r (by rfl) (by rfl)
theorem C2 (r:Rm n A) (a b:dq):iD w A h0 .NotEq (i3 a) (i3 b) (!a.same3 b):=by rw [←uL];exact mV r (by rfl) (by rfl)
theorem NT {env:Env} {m:ma} {e u:Expr} {pos p2:Pos} {a:dq} (he:Ev w A env h0 m e (b8 a)) (hu:Ev w A env h0 m u (.int (3:Nat)))
  (hs:autoParam (∀o i,subscripted (.Slice none (some u) none p2) false o i=operate [i,o] (getItem o i)) aJ):Ev w A env h0 m (.Subscript e (.Slice none (some u) none p2) pos) (i3 a):=
 ID (k:=3) he hu (by exact Nat.le_of_ble_eq_true rfl) (by exact Nat.le_of_ble_eq_true rfl) hs
theorem Eo (r:Rm n A) (a b:Bool):iD w A h0 .Eq (.bool a) (.bool b) (a==b):=by
 have e:(a==b)=D.eqv (.bool a) (.bool b):=by cases a<;>cases b<;>decide+kernel
 rw [e];exact pe r (by rfl) (by rfl)
end
variable {id T:String} {x:Str}
section
variable {w:World} {i j:Int}
theorem pX (ha:At env h0 m s.heap) (P:cA w h0) (hg:env.globals=mainGlobals) (hb:env.builtins=builtinsNs) (e:nsIn (K w.params) mainGlobals x=some none) (hv:bootBuiltins x=some v) (hn:autoParam ((x==("__name__":Str))=false) aE)
  (hk:autoParam (env.scope.kind= .function) aF) (hx:autoParam (env.kindOf x=some .globalImplicit) aG) (hd:autoParam ((x==("__debug__":Str))=false) aE):bg w A (eval (.Name x pos) env) s fun u h'=>u=v∧h'=s.heap:=by
 intro Q E q
 refine cI P.t fun p l mg mb t=>?_
 refine Name_function_global hk hx (loadGlobal_builtin (by rw [hg];exact t.g.keeps ha.sub) (mg_none_of P.k t.g e) (by rw [hb];exact t.b.keeps ha.sub) ((t.builtins x (fun q=>by rw [q] at hn;revert hn;decide)).trans hv) (q v s.heap s.toks ⟨rfl,rfl⟩)) hd
theorem d7 {hO:Heap} {tO:Nat} (ha:At env h0 m hO) (P:cA w h0) (hg:env.globals=mainGlobals) (hb:env.builtins=builtinsNs) (en:nsIn (K w.params) mainGlobals x=some none) (hv:bootBuiltins x=some (.builtin id))
  (h:∀t,bg w A (spliced (backTo pos (starEach (e::r) env))) (sh s hO t) fun vs h1=>∀t1,bg w A (call (.builtin id) vs) (sh s h1 t1) R)
  (hn:autoParam ((x==("__name__":Str))=false) aE) (hk:autoParam (env.scope.kind= .function) aF) (hx:autoParam (env.kindOf x=some .globalImplicit) aG) (hd:autoParam ((x==("__debug__":Str))=false) aE)
  (he:autoParam (starEach (e::r) env=(false,eval e env)::starEach r env) aR) (hpl:autoParam ((backTo pos (starEach r env)).any (·.1)=false) aE):bg w A (eval (.Call (.Name x p1) (e::r) [] pos) env) (sh s hO tO) R:=by
 intro Q E q
 refine Call_ (pX ha P hg hb en hv hn hk hx hd _ _ fun v h1 t1=>av fun e1 e2=>?_) (by rfl)
 subst e1 e2
 refine callWith_builtin1 (h t1 _ _ fun vs h2 t2 z=>?_) he hpl
 exact z t2 Q E q
theorem fC {hO:Heap} {tO:Nat} (ha:At env h0 m hO) (P:cA w h0) (hg:env.globals=mainGlobals) (hb:env.builtins=builtinsNs) (en:nsIn (K w.params) mainGlobals x=some none) (hv:bootBuiltins x=some (.type T))
  (h:∀t,bg w A (spliced (backTo pos (starEach (e::r) env))) (sh s hO t) fun vs h1=>∀t1,bg w A (call (.type T) vs) (sh s h1 t1) R)
  (hn:autoParam ((x==("__name__":Str))=false) aE) (hk:autoParam (env.scope.kind= .function) aF) (hx:autoParam (env.kindOf x=some .globalImplicit) aG) (hd:autoParam ((x==("__debug__":Str))=false) aE)
  (he:autoParam (starEach (e::r) env=(false,eval e env)::starEach r env) aR) (hpl:autoParam ((backTo pos (starEach r env)).any (·.1)=false) aE):bg w A (eval (.Call (.Name x p1) (e::r) [] pos) env) (sh s hO tO) R:=by
 intro Q E q
 refine Call_ (pX ha P hg hb en hv hn hk hx hd _ _ fun v h1 t1=>av fun e1 e2=>?_) (by rfl)
 subst e1 e2
 refine callWith_type1 (h t1 _ _ fun vs h2 t2 z=>?_) he hpl
 exact z t2 Q E q
theorem Cj.go {hO:Heap} (ev:Cj w A env h0 m (e::r) ds) (ha:At env h0 m hO) {R:List Value→Heap→Prop} (h:∀vs h1,Sub hO h1→bp h1 vs ds→R vs h1):∀t,bg w A (spliced (backTo pos (starEach (e::r) env))) (sh s hO t) R:=
 fun t=>(ev (sh s hO t) pos ha).mono fun vs h1=>av fun k r=>h vs h1 k r
theorem bS {R0:Value→Heap→Prop} {R:List Value→Heap→Prop} (h:bg w A (eval e env) s R0) (k:∀v h1,R0 v h1→R [v] h1) (he:autoParam (starEach [e] env=(false,eval e env)::starEach [] env) aR):bg w A (spliced (backTo pos (starEach [e] env))) s R:=by
 intro Q E q
 refine args_cons (h _ _ fun v1 g1 t1 r1=>?_) he
 exact args_nil (q _ g1 t1 (k v1 g1 r1))
theorem LS (P:Params):nsIn (K P) mainGlobals "min"=some none:=by kernel_rfl
theorem Ms (hh:A.handled=none) (P:cA w h0) (hg:env.globals=mainGlobals) (hb:env.builtins=builtinsNs) (h1:Ev w A env h0 m e1 (.int i)) (h2:Ev w A env h0 m e2 (.int j))
  (hk:autoParam (env.scope.kind= .function) aF) (hx:autoParam (env.kindOf "min"=some .globalImplicit) aG)
  (he:autoParam (starEach [e1,e2] env=(false,eval e1 env)::starEach [e2] env) aR) (he2:autoParam (starEach [e2] env=(false,eval e2 env)::starEach [] env) aR) (hpl:autoParam ((backTo pos (starEach [e2] env)).any (·.1)=false) aE):Ev w A env h0 m (.Call (.Name "min" p1) [e1,e2] [] pos) (.int (min i j)):=by
 intro s ha
 refine d7 ha P hg hb (LS _) boot_min ((dF h1 (dF h2 gC he2) he).go ha fun vs h1 k1 rs t1=>?_) (by decide) hk hx (by decide) he hpl
 cases rs with |cons r1 rs=>
 cases rs with |cons r2 rs=>
 cases rs
 cases r1
 cases r2
 intro Q E q
 refine min_two_ints hh fun h' tk hk=>q _ h' tk ⟨k1.trans hk,?_⟩
 by_cases c:j <i
 ·rw [if_pos c,Int.min_eq_right (by lia)];exact .int _ _
 ·rw [if_neg c,Int.min_eq_left (by lia)];exact .int _ _
end
noncomputable def Bq (w:World) (A:Around) (f:Addr) (vs:List Value) (s:Shared) (R:Value→Heap→Prop):Prop:=
 ∀(Q:Result→Shared→Prop),(∀v h' t',R v h'→Q (.ok (.ret v)) (sh s h' t'))→codeAny (model pw w) A (.call (.ref f) ⟨vs,[]⟩) Q s
variable {vs:List Value} {fI:Addr}
section
variable {w:World}
theorem Rm.make (r:Rm (n+1) A):Rm n (A.under (.builtin "type.__call__" ⟨.ref C::vs,[]⟩)):=
 ⟨by rw [depth_under_make];have:=r.d;omega,by rw [units_under_make];have:=r.u;exact Rd this,r.h⟩
theorem Ee (P:cA w s.heap) (hm:makesIn (K w.params) C=true) (hi:findIn (K w.params) (.ref C) "__init__"=some (some (.ref fI))) (hf:typeIn (K w.params) (.ref fI)=some (.type "function"))
  (h:Bq w (A.under (.builtin "type.__call__" ⟨.ref C::vs,[]⟩)) fI (.ref (s.heap.objs.size+1)::vs) {s with heap:=(s.heap.push emptyDict).push (instObj C s.heap.objs.size)} fun v h2=>v= .none∧R (.ref (s.heap.objs.size+1)) h2):
  bg w A (call (.ref C) vs) s R:=by
 intro Q E k
 obtain ⟨hh,g,d,t,os⟩:=s
 refine wpAny_call (make_core (makes_of P.k hm) (looks_findIn P.k hi) (fun self=>bind_fn P.k self hf) (.inl rfl) ?_)
 refine h _ fun v h' t'=>av fun e z=>⟨e,?_⟩
 exact k _ h' t' z
end
variable {M:List Addr}
section
variable {w:World}
noncomputable def Kq (w:World) (A:Around) (env:Env) (s:Shared) (iter:Expr) (M:List Addr) (ds:List D):Prop:=
 bg w A (eval iter env) s fun v h1=>Sub s.heap h1∧∀t1,bg w A (pyIter v) (sh s h1 t1) fun it h2=>Sub h1 h2∧∃I src,it= .ref I∧qu w A s.heap I src h2 ds∧src∉M
end
noncomputable def nN (sc:Scope) (n:Nat) (binds:List (Str×Value)):Bool:=binds.all fun x=>sc.names.lookup x.1==some .local||(sc.names.lookup x.1==some .cell&&((cellsFrom (n+1) sc.names []).lookup x.1).isSome)
noncomputable def PB (st:Stmt) (q:Str) (dfl pm cd:Value) (L f:Addr) (binds:List (Str×Value)):ma:=
 ⟨bindL (callEnvC (cJ st q dfl pm cd) L f).kindOf binds fun V=>none,bindC (callEnvC (cJ st q dfl pm cd) L f).kindOf binds fun V=>none⟩
noncomputable def su (w:World) (A:Around) (env:Env) (h0:Heap) (m:ma) (e:Expr) (ds:List D):Prop:=
 ∀s,At env h0 m s.heap→bg w A (eval e env) s fun v h'=>Sub s.heap h'∧∃a,v= .ref a∧cN h' a ds∧s.heap.get? a=none
variable {l:Addr}
section
variable {w:World}
theorem yP (hh:A.handled=none) (he:bg w A (eval iter env) s fun v h1=>Sub s.heap h1∧∃l,v= .ref l∧cN h1 l ds∧l∉M):Kq w A env s iter M ds:=by
 refine he.mono fun v h1=>aM fun k1 l e L hl=>⟨k1,fun t1=>?_⟩
 subst e
 exact (th hh L).mono fun it h2=>ft fun e k J=>o6 k _ _ e (J.less k1) hl
theorem Hw (hh:A.handled=none) (ha:At env h0 m s.heap) (he:Ev w A env h0 m iter (.ref l)) (L:cN s.heap l ds) (hl:l∉M):Kq w A env s iter M ds:=
 yP hh ((he s ha).mono fun v h1=>av fun k r=>fA k l (by cases r;rfl) (L.sub k) hl)
theorem JK (hh:A.handled=none) (ha:At env h0 m s.heap) (he:su w A env h0 m iter ds) (hM:∀b∈M,∃o,s.heap.get? b=some o):Kq w A env s iter M ds:=
 yP hh ((he s ha).mono fun v h1=>aM fun k l e L n=>fA k l e L (fun q=>by exact nj (hM l q) n))
section
variable {α:Type} {its:List α} {g:α→D}
theorem td {d:D} {i:Nat} (e:(its.map g)[i]? =some d):∃a,its[i]? =some a∧d=g a:=by
 rw [List.getElem?_map] at e
 refine ab (Option.map_eq_some_iff.mp e) fun a h1 h2=>?_
 exact a9 a h1 h2.symm
end
end
noncomputable def lp (ds es:List D):Bool:=PyData.eqv (.list (D.pys ds)) (.list (D.pys es))
section
variable {w:World} {elts:List Expr}
theorem cN.reads (L:cN h l ds) (f:D.flats 9 ds=true):∃as,Reads h (.ref l) (.list (D.pys ds)) as:=by
 refine ao L fun vs n e r=>?_
 refine cQ (r.reads f) fun as q=>?_
 exact ⟨_,.list e rfl rfl (by simpa using q)⟩
theorem iR (f:D.flats 9 ds=true):(PyData.list (D.pys ds)).canLay0=true∧(PyData.list (D.pys ds)).depth≤10:=by
 have:=D.lays f
 simp only [PyData.canLay0,PyData.depth,this.1,true_and]
 omega
theorem kL (ev:Cj w A env h0 m elts ds) (hz:autoParam (ds.length≤100) aN):su w A env h0 m (.List elts pos) ds:=by
 intro s ha Q E q
 refine List_ (ev s pos ha _ _ fun vs g t=>av fun k1 r1=>?_)
 have:=r1.length
 refine wpAny_newList (q _ _ _ (fA (k1.trans (Sub.push _)) _ rfl (fZ vs 0 (Heap.get?_push_size _ rfl) (r1.mono (Sub.push _).t)) ?_)) ?_
 ·cases e:s.heap.get? g.objs.size with
  |none=>rfl
  |some o=>exact absurd (Heap.lt_size (k1 _ _ e)) (Nat.lt_irrefl _)
 ·rw [sizeLine_eq];exact zH this hz lr
theorem cN.isList (L:cN h l ds):∃xs:Array Value,h.IsList l xs∧xs.size=ds.length:=by
 refine ao L fun vs n e r=>?_
 exact a9 vs.toArray (bL e) (by rw [List.size_toArray,r.length])
theorem Ir (R:Rm n A) (h1:su w A env h0 m e1 ds) (h2:su w A env h0 m e2 []) (hm:autoParam (behindInMarks .Eq e2=false) aW):Ev w A env h0 m (.Compare e1 [.Eq] [e2] pos) (.bool ds.isEmpty):=by
 intro s k Q E q
 refine wpAny_Compare1 (h1 s k _ _ fun v1 g1 t1=>aM fun k1 a ea L1 V=>?_) hm
 refine h2 (sh s g1 t1) (k.step k1) _ _ fun v2 g2 t2=>aM fun k2 b eb L2 V=>?_
 subst ea eb
 refine ab ((L1.sub k2).isList) fun xs l1 z1=>?_
 refine ab L2.isList fun ys l2 z2=>?_
 have gF:=q (.bool ds.isEmpty) g2 t2 ⟨k1.trans k2,.bool _⟩
 cases ds with
 |nil=>
  have:=SeqAt.RcAt.lists (A:=A) (s:=sh s g2 t2) (e:=fun V=>true) l1 l2 (by rw [z1,z2]) R.units (fun j j1 V=>by rw [z1] at j1;exact absurd j1 (Nat.not_lt_zero _))
  refine this _ _ E _ ?_
  rw [show ((List.range xs.size).all fun V=>true)=true by simp]
  exact gF
 |cons d ds=>
  exact SeqAt.RcAt.lists_lengths (A:=A) (s:=sh s g2 t2) l1 l2 (by rw [z1,z2];rfl) R.units _ _ E _ gF
end
set_option genInjectivity false in
structure PA where
 x:Addr
 dx:Addr
 rx:Addr
 rdx:Addr
noncomputable abbrev af:=PA×ah
noncomputable def lQ (w:World) (h:Heap) (ps:List af):Prop:=∀a∈ps,jf w h a.1.x a.1.dx a.1.rx a.1.rdx a.2
noncomputable def ba (a:af):D:=.ref a.1.x
section
variable {w:World} {ps:List af} {b:Option Int}
theorem jY (a b:Option Int):D.eqv (c5 a) (c5 b)=(a==b):=by
 cases a<;>cases b<;>simp [D.eqv,c5,D.py,PyData.eqv]
theorem j6 (a:Option Int):(c5 a).flat 9=true:=by cases a<;>rfl
theorem Cs (r:Rm n A) (a b:Option Int):iD w A h0 .Eq (c5 a) (c5 b) (a==b):=by rw [←jY];exact pe r (j6 _) (j6 _)
theorem zY (r:Rm n A) (a b:Option Int):iD w A h0 .NotEq (c5 a) (c5 b) (a !=b):=by rw [bne,←jY];exact mV r (j6 _) (j6 _)
noncomputable def qe (b:Option Int) (q:ah):Bool:=q.bundle==b&&(q.mux== .wai&&q.choice== .sel)
theorem sS:cx (ps.map (·.2)) b=(((ps.filter (qe b∘(·.2))).filter (fun a=>decide (a.2.jl >0))).map ba).isEmpty:=by
 delta cx
 induction ps with
 |nil=>rfl
 |cons a ps ih=>
  rw [List.map_cons,List.all_cons,ih,List.filter_cons]
  cases h1:qe b a.2 with
  |false=>
   have:(qe b∘(·.2)) a=false:=h1
   rw [if_neg (by rw [this];simp)]
   have:(!(a.2.bundle==b&&a.2.mux== .wai&&a.2.choice== .sel&&decide (a.2.jl >0)))=true:=by
    delta qe at h1
    revert h1
    cases a.2.bundle==b<;>cases a.2.mux== .wai<;>cases a.2.choice== .sel<;>simp
   rw [this,Bool.true_and]
  |true=>
   have:(qe b∘(·.2)) a=true:=h1
   rw [if_pos this,List.filter_cons]
   have:(!(a.2.bundle==b&&a.2.mux== .wai&&a.2.choice== .sel&&decide (a.2.jl >0)))= !decide (a.2.jl >0):=by
    delta qe at h1
    revert h1
    cases a.2.bundle==b<;>cases a.2.mux== .wai<;>cases a.2.choice== .sel<;>simp
   rw [this]
   cases decide (a.2.jl >0)<;>simp
end
mutual
noncomputable def D.keyOk:Nat→D→Bool
 |_,.int _=>true
 |n+1,.tup ds=>D.keysOk n ds
 |_,_=>false
noncomputable def D.keysOk:Nat→List D→Bool
 |_,[]=>true
 |n,d::ds=>d.keyOk n&&D.keysOk n ds
end
mutual
noncomputable def Fx:D→Int
 | .int i=>hashInt i
 | .tup ds=>reduceHash (Builtin.Tuple.tupleHashOf (ip ds))
 |_=>0
noncomputable def ip:List D→List Int
 | []=>[]
 |d::ds=>Fx d::ip ds
end
mutual
noncomputable def Fv:D→Nat
 | .int _=>1
 | .tup ds=>ti ds+1
 |_=>0
noncomputable def ti:List D→Nat
 | []=>0
 |d::ds=>Fv d+ti ds
end
theorem jm {s:Shared} {a:Addr} {vs:List Value} {n:Nat} (e:s.heap.get? a=some (e7 vs n)):s.TypeIs (.ref a) "tuple":=a9 _ e rfl
section
variable {P:Nat→D→Prop} {Q:Nat→List D→Prop}
mutual
theorem oe (i:∀n x,P n (.int x)) (t:∀n ds,Q n ds→P (n+1) (.tup ds)) (z:∀n,Q n []) (c:∀n d ds,P n d→Q n ds→Q n (d::ds)):∀(n:Nat) (d:D),d.keyOk n=true→P n d
 |n,.int x,_=>i n x
 |n+1,.tup ds,k=>t n ds (zd i t z c n ds k)
 |0,.tup _,k=>noD k
 |_,.none,k=>noD k
 |_,.bool _,k=>noD k
 |_,.str _,k=>noD k
 |_,.ref _,k=>noD k
theorem zd (i:∀n x,P n (.int x)) (t:∀n ds,Q n ds→P (n+1) (.tup ds)) (z:∀n,Q n []) (c:∀n d ds,P n d→Q n ds→Q n (d::ds)):∀(n:Nat) (ds:List D),D.keysOk n ds=true→Q n ds
 |n,[],_=>z n
 |n,d::ds,k=>c n d ds (oe i t z c n d (Bool.and_eq_true_iff.mp k).1) (zd i t z c n ds (Bool.and_eq_true_iff.mp k).2)
end
end
section
variable {w:World} {E:Value→Shared→Prop}
noncomputable def N4 (w:World) (E:Value→Shared→Prop) (n:Nat) (d:D):Prop:=∀(A:Around) (s:Shared) (v:Value) (Q:Int→Shared→Prop),RD s.heap v d→A.units+2*n <cLine→Q (Fx d) {s with toks:=s.toks+Fv d}→wpAny (model pw w) A (pyHash v) Q E s
theorem Ej:∀(n:Nat) (d:D),d.keyOk n=true→N4 w E n d:=
 oe (Q:=fun n ds=>∀(A:Around) (s:Shared) (vs:List Value) (Q:Array Int→Shared→Prop) (b:Array Int),bp s.heap vs ds→A.units+2*n <cLine→Q (b++(ip ds).toArray) {s with toks:=s.toks+ti ds}→
  wpAny (model pw w) A (forIn vs b fun v r=>do let k←pyHash v;pure (.yield (r.push k))) Q E s) (fun n i A s v Q r hu q=>by
  cases r
  exact wpAny_pyHash_int q) (fun n ds ih A s v Q r hu q=>by
  refine a8 r.isTup fun a vs m e ho r2=>?_
  subst e
  have hT:s.TypeIs (.ref a) "tuple":=jm ho
  unfold pyHash
  refine wpAny_bind (wpAny_cRoomFor_or (.inr (Qr hu)) ?_)
  refine wpAny_bind (wpAny_specialOf hT F.slot_tuple_hash.lookup ?_)
  show wpAny _ _ (if (some (Value.builtin "tuple.__hash__")==some Value.none)=true then _ else _) Q E s
  rw [if_neg (by rw [beq_builtin_none];exact Bool.false_ne_true)]
  refine wpAny_bind (wpAny_specialOf hT F.slot_tuple_hash.lookup ?_)
  show wpAny _ _ (callSpecialIfBoundUnlessNone? (.ref a) "__hash__" _ >>= _) Q E s
  refine wpAny_bind (wpAny_callSpecialIfBoundUnlessNone?_slot hT F.slot_tuple_hash (wpAny_call_entry F.slot_tuple_hash hT F.entry_tuple_hash ?_ (F.args_tuple_hash_1 _)))
  show wpAny _ _ (Builtin.Tuple.tupleItemsOf (.ref a) >>= _) _ _ s
  refine wpAny_bind (wpAny_tupleItemsOf ho rfl ?_)
  refine wpAny_bind ?_
  rw [←Array.forIn_toList]
  refine ih _ s vs _ #[] r2 (by show A.units+1+2*n <cLine;lia) ?_
  rw [Array.empty_append]
  show wpAny _ _ (retInt (Builtin.Tuple.tupleHashOf (ip ds))) _ _ _
  refine wpAny_ret_mkInt ?_
  show wpAny _ _ (if (decide (-(2:Int)^ 63≤Builtin.Tuple.tupleHashOf (ip ds))&&decide (Builtin.Tuple.tupleHashOf (ip ds) <2 ^ 63))=true then _ else _) Q E _
  replace q:Q (reduceHash (Builtin.Tuple.tupleHashOf (ip ds))) {s with toks:=s.toks+ti ds+1}:=q
  unfold reduceHash at q
  by_cases hr:(decide (-(2:Int)^ 63≤Builtin.Tuple.tupleHashOf (ip ds))&&decide (Builtin.Tuple.tupleHashOf (ip ds) <2 ^ 63))=true
  ·rw [if_pos hr]
   rw [if_pos hr] at q
   exact wpAny_pure q
  ·rw [if_neg hr]
   rw [if_neg hr] at q
   exact wpAny_bind (wpAny_rule (wpAny_pure q))) (fun n A s vs Q b r hu q=>by
  cases r
  exact wpAny_pure ((Array.append_empty (xs:=b))▸q)) (fun n d ds h1 h2 A s vs Q b r hu q=>by
  cases r with |cons r1 r=>
  rw [List.forIn_cons]
  refine wpAny_bind (wpAny_bind (h1 A s _ _ r1 hu (wpAny_pure ?_)))
  refine h2 A _ _ _ _ r hu ?_
  simpa [Nat.add_assoc,ip,ti] using q)
theorem It:∀(n:Nat) (d:D),d.keyOk n=true→∀(A:Around) (s:Shared) (v:Value) (Q:Bool→Shared→Prop),RD s.heap v d→Q true s→wpAny (model pw w) A (eqIsQuiet n v) Q E s:=
 oe (Q:=fun n ds=>∀(A:Around) (s:Shared) (vs:List Value) (Q:Option Bool×PUnit→Shared→Prop),bp s.heap vs ds→Q (none,⟨⟩) s→
  wpAny (model pw w) A (forIn vs ((none,⟨⟩):Option Bool×PUnit) fun y r=>do let __do_lift←eqIsQuiet n y;if (!__do_lift)=true then pure (.done (some false,⟨⟩)) else pure (.yield (none,⟨⟩))) Q E s) (fun n i A s v Q r q=>by
  cases r
  rw [eqIsQuiet_byValue _ rfl]
  exact wpAny_pure q) (fun n ds ih A s v Q r q=>by
  refine a8 r.isTup fun a vs m e ho r2=>?_
  subst e
  have hT:s.TypeIs (.ref a) "tuple":=jm ho
  unfold eqIsQuiet
  refine wpAny_bind (wpAny_specialOf hT F.slot_tuple_eq.lookup ?_)
  show wpAny _ _ (isInstance (.ref a) (.type "tuple") >>= _) _ _ s
  refine wpAny_bind (wpAny_isInstance hT isSubtype_tuple_tuple ?_)
  refine wpAny_bind (wpAny_seqItems ho rfl ?_)
  refine wpAny_bind ?_
  show wpAny _ _ (forIn vs.toArray _ _) _ _ s
  rw [←Array.forIn_toList]
  exact ih _ s vs _ r2 (wpAny_pure q)) (fun n A s vs Q r q=>by
  cases r
  exact wpAny_pure q) (fun n d ds h1 h2 A s vs Q r q=>by
  cases r with |cons r1 r=>
  rw [List.forIn_cons]
  exact wpAny_bind (wpAny_bind (h1 A s _ _ r1 (wpAny_pure (h2 A s _ _ r q)))))
end
theorem c7:∀(n:Nat) (d:D),d.keyOk n=true→d.flat n=true:=
 oe (Q:=fun n ds=>D.flats n ds=true) (fun n x=>n.casesOn rfl fun V=>rfl) (fun V V h=>h) (fun V=>rfl) (fun V V V a b=>Bool.and_eq_true_iff.mpr ⟨a,b⟩)
noncomputable def QX (v:Value) (e:D):Prop:=match v with
 | .none=>.none=e
 | .bool b=>.bool b=e
 | .int i _=>.int i=e
 | .str x _=>.str x=e
 |_=>True
theorem RD.val {h:Heap} {v:Value} {e:D} (r:RD h v e):QX v e:=by cases r<;>first |rfl |trivial
theorem RD.tupv {h:Heap} {a:Addr} {vs:List Value} {n m:Nat} {e:D} (r:RD h (.ref a) e) (k:e.flat n=true) (ho:h.get? a=some (e7 vs m)):∃es k,e= .tup es∧n=k+1∧D.flats k es=true∧bp h vs es:=by
 cases r with
 |tup ho' r=>
  have e1:=ho.symm.trans ho'
  cases e1
  cases n with
  |zero=>exact noD k
  |succ n=>exact dm _ n rfl rfl k r
 |ref=>exact oA k
theorem RD.uniqF {h:Heap} (n:Nat) (d e:D) {v:Value} (k1:d.flat n=true) (k2:e.flat n=true) (r1:RD h v d) (r2:RD h v e):d=e:=
 RD.rec (motive_1:=fun v d V=>∀n e,d.flat n=true→e.flat n=true→RD h v e→d=e) (motive_2:=fun vs ds V=>∀n es,D.flats n ds=true→D.flats n es=true→bp h vs es→ds=es)
  (fun V V V V r=>r.val) (fun V V V V V r=>r.val) (fun V V V V V V r=>r.val) (fun V V V V V V r=>r.val)
  (fun ho V ih n e k1 k2 r=>bI (r.tupv k2 ho) fun es k e1 e2 k3 r3=>by subst e1;subst e2;exact congrArg D.tup (ih k es k1 k3 r3))
  (fun V n V k=>oA k)
  (fun V V V V r=>by cases r;rfl)
  (fun V V i1 i2 n es k1 k2 r=>by
   cases r with |cons a r=>
   rw [i1 n _ (Bool.and_eq_true_iff.mp k1).1 (Bool.and_eq_true_iff.mp k2).1 a,i2 n _ (Bool.and_eq_true_iff.mp k1).2 (Bool.and_eq_true_iff.mp k2).2 r]) r1 n e k1 k2 r2
theorem iZ:∀(n:Nat) (d e:D),d.keyOk n=true→e.keyOk n=true→(PyData.eqv d.py e.py=true↔d=e):=by
 suffices H:∀(n:Nat) (d:D),d.keyOk n=true→∀e:D,e.keyOk n=true→(PyData.eqv d.py e.py=true↔d=e) from fun n d e a b=>H n d a e b
 refine oe (Q:=fun n ds=>∀es,D.keysOk n es=true→(PyData.eqvAll (D.pys ds) (D.pys es)=true↔ds=es)) ?_ ?_ ?_ ?_
 ·intro n i e k
  cases e with
  |int j=>exact ⟨fun z=>congrArg D.int (eq_of_beq z),fun z=>z▸beq_self_eq_true i⟩
  |tup es=>exact ⟨fun z=>noD z,fun z=>nomatch z⟩
  |_=>exact noD k
 ·intro n ds ih e k
  cases e with
  |int j=>exact ⟨fun z=>noD z,fun z=>nomatch z⟩
  |tup es=>exact ⟨fun z=>congrArg D.tup ((ih es k).mp z),fun z=>(ih es k).mpr (D.tup.inj z)⟩
  |_=>exact noD k
 ·intro n es k
  cases es with
  |nil=>exact ⟨fun V=>rfl,fun V=>rfl⟩
  |cons e es=>exact ⟨fun z=>noD z,fun z=>nomatch z⟩
 ·intro n d ds h1 h2 es k
  cases es with
  |nil=>exact ⟨fun z=>noD z,fun z=>nomatch z⟩
  |cons e es=>
   have a:=h1 e (Bool.and_eq_true_iff.mp k).1
   have b:=h2 es (Bool.and_eq_true_iff.mp k).2
   exact ⟨fun z=>congr (congrArg List.cons (a.mp (Bool.and_eq_true_iff.mp z).1)) (b.mp (Bool.and_eq_true_iff.mp z).2),fun z=>Bool.and_eq_true_iff.mpr ⟨a.mpr (List.cons.inj z).1,b.mpr (List.cons.inj z).2⟩⟩
theorem Cy {h h':Heap} {d:Addr} {o:Obj} {es ep} (ho:h.get? d=some o) (hd:o.data= .dict es ep) (hs:Heap.SameBut d h h'):bl h h':=by
 intro a vs n e
 refine (hs.2 a ?_).trans e
 rintro rfl
 rw [ho] at e
 exact fW e.symm hd
structure tx (K:Type) where
 enc:K→D
 ok:∀k,(enc k).keyOk 8=true
 tup:∀k,∃ds,enc k= .tup ds
 inj:∀x y,enc x=enc y→x=y
noncomputable def bU (w:World) {K:Type} [DecidableEq K] (c:tx K):HeapKind pw w K where
 is h k a:=RD h (.ref a) (c.enc k)
 hash k:=Fx (c.enc k)
 draws k:=Fv (c.enc k)
 room A:=A.units+17 <cLine
 inj hx hy:=c.inj _ _ (RD.uniqF 8 _ _ (c7 _ _ (c.ok _)) (c7 _ _ (c.ok _)) hx hy)
 keeps x ho hd hs:=x.mono (Cy ho hd hs)
 pyHash {A E s k a Q} hu hk h:=Ej 8 _ (c.ok _) A s _ Q hk (Nf hu (Nat.le_of_ble_eq_true rfl)) h
 eqBool {A E s x y a b Q} hu hx hy h:=by
  have fx:=c7 8 _ (c.ok x)
  have fy:=c7 8 _ (c.ok y)
  obtain ⟨as,ra⟩:=hx.reads fx
  obtain ⟨bs,rb⟩:=hy.reads fy
  have lx:=D.lay fx
  have ly:=D.lay fy
  refine SeqAt.eqAt_reads _ _ A s _ _ as bs ra rb lx.1 ly.1 (QK hu (Nat.le_trans lx.2 (Nat.le_of_ble_eq_true rfl))) _ _ E _ ?_
  have:PyData.eqv (c.enc x).py (c.enc y).py=decide (x=y):=by
   rw [Bool.eq_iff_iff,decide_eq_true_iff,iZ 8 _ _ (c.ok x) (c.ok y)]
   exact ⟨c.inj _ _,fun e=>by rw [e]⟩
  rw [this];exact h
 quiet {A E s k a Q} hk h:=It (w:=w) (E:=E) 8 (c.enc k) (c.ok k) A s _ Q hk h
noncomputable def jt (h:Heap) (d:Addr) (ks:List Value) (ep:Nat):Prop:=∃o es,h.get? d=some o∧o.ExactDict∧o.data= .dict es ep∧es.toList.map (·.key)=ks
section
variable {w:World} {E:Value→Shared→Prop} {d it:Addr} {ks:List Value} {ep i:Nat}
theorem jt.typeIs (x:jt s.heap d ks ep):s.TypeIs (.ref d) "dict":=cH x fun o es ho hc V=>(a9 o ho hc.1)
theorem jt.at {h h':Heap} (x:jt h d ks ep) (e:∀o,h.get? d=some o→h'.get? d=some o):jt h' d ks ep:=ao x fun o es ho r=>(fZ o es (e _ ho) r)
theorem jt.lt {h:Heap} (x:jt h d ks ep):d <h.objs.size:=ao x fun V V ho V=>Heap.lt_size ho
theorem zg {Q:Value→Shared→Prop} (hd:(d==sysModules)=false) (hm:jt s.heap d ks ep)
  (hQ:Q (.ref s.heap.objs.size) {s with heap:=s.heap.push {cls:=.type "dict_keyiterator",data:=.fields #[.ref d,.int 0 0,.int ks.length 0,.int ep 0]}}):
  wpAny (model pw w) A (pyIter (.ref d)) Q E s:=by
 have hT:=hm.typeIs
 refine bI (id hm) fun o es ho hc hdat hk=>?_
 refine wpAny_pyIter_slot hT F.slot_dict_iter (wpAny_call_entry F.slot_dict_iter hT F.entry_dict_iter ?_ (F.args_dict_iter_1 _))
 unfold Builtin.«dict.__iter__»
 refine wpAny_bind ?_
 unfold Builtin.Dict.dictSlotNone
 refine wpAny_bind (wpAny_notOrdered_dict hT ?_)
 show wpAny _ _ (pure (Value.ref d)) _ _ s
 refine wpAny_pure ?_
 show wpAny _ _ (Builtin.Dict.showsAll d >>= _) _ _ s
 unfold Builtin.Dict.showsAll
 rw [if_neg (by rw [hd];exact Bool.false_ne_true)]
 refine wpAny_bind (wpAny_pure ?_)
 refine wpAny_bind (wpAny_dictEntries ho hdat ?_)
 refine wpAny_bind (wpAny_dictEpoch ho hdat ?_)
 have hsz:es.size=ks.length:=by rw [←hk];simp
 refine wpAny_bind (wpAny_newObj_type (wpAny_pure ⟨_,rfl,"dict_keyiterator",_,(a9 _ (Heap.get?_push_size _ rfl) rfl),F.slot_dict_keyiterator_next.lookup,?_⟩))
 simpa [rawInt,hsz] using hQ
theorem DP {v:Value} {Q:Option Value→Shared→Prop} (hit:s.heap.IsKeyIter it d i ks.length ep)
  (hm:jt s.heap d ks ep) (hx:ks[i]? =some v)
  (hQ:∀h',h'.IsKeyIter it d (i+1) ks.length ep→Heap.SameBut it s.heap h'→Q (some v) {s with heap:=h'}):
  wpAny (model pw w) A (pyNext (.ref it)) Q E s:=by
 refine ar (id hit) fun o ho hc hd=>?_
 refine bI (id hm) fun od es hod hcd hdd hk=>?_
 unfold pyNext
 refine wpAny_bind (wpAny_attempt (wpAny_callSpecial?_slot (name:="__next__") hit.typeIs F.slot_dict_keyiterator_next
  (wpAny_call_entry F.slot_dict_keyiterator_next hit.typeIs F.entry_dict_keyiterator_next ?_ (F.args_dict_keyiterator_next_1 _))))
 refine wpAny_bind (wpAny_pure ?_)
 refine wpAny_bind ?_
 refine wpAny_bind ?_
 first |refine wpAny_bind (wpAny_typeNameOfWhole_keyiter hit.typeIs (wpAny_pure ?_)) |refine wpAny_bind (wpAny_typeNameOf_keyiter hit.typeIs (wpAny_pure ?_))
 refine wpAny_bind (wpAny_fieldsOf ho hd ?_)
 rw [if_neg (show ¬(Builtin.Dict_items.ownsTuple "dict_keyiterator"=true) from by decide)]
 show wpAny _ _ (if (Value.ref d==Value.none)=true then _ else _) _ _ s
 rw [if_neg (show ¬((Value.ref d==Value.none)=true) from Bool.false_ne_true)]
 refine wpAny_bind (wpAny_pure ?_)
 refine wpAny_bind (wpAny_dictEntries hod hdd ?_)
 have hsz:es.size=ks.length:=by rw [←hk];simp
 rw [if_neg (by rw [hsz];simp)]
 refine wpAny_bind (wpAny_pure ?_)
 refine wpAny_bind (wpAny_dictEpoch hod hdd ?_)
 rw [if_neg (by simp)]
 refine wpAny_pure ?_
 have hlt:i <ks.length:=(List.getElem?_eq_some_iff.mp hx).1
 have hlt':i <es.size:=by rw [hsz];exact hlt
 have hkey:es[i].key=v:=by
  rw [←hk,List.getElem?_map,Array.getElem?_toList,Array.getElem?_eq_getElem hlt'] at hx
  simpa using hx
 dsimp only
 rw [if_neg (show ¬((i:Int) <0) from by lia),Int.toNat_natCast,Array.getElem?_eq_getElem hlt']
 refine wpAny_bind ?_
 first |refine wpAny_bind (wpAny_typeNameOfWhole_keyiter hit.typeIs (wpAny_pure ?_)) |refine wpAny_bind (wpAny_typeNameOf_keyiter hit.typeIs (wpAny_pure ?_))
 refine wpAny_bind (wpAny_isOneOf_keyiter hit.typeIs ?_)
 show wpAny _ _ (setField (.ref it) 1 (rawInt ((i:Int)+1)) >>= _) _ _ s
 refine wpAny_bind (wpAny_setField ho hd (by simp) ?_)
 have hit':(s.heap.update it (Obj.mapFields (·.setIfInBounds 1 (rawInt ((i:Int)+1))))).IsKeyIter it d (i+1) ks.length ep:=
  (cb _ (Heap.get?_update_self _ ho (Obj.isFreed_of_fields (Obj.data_mapFields hd _))) ((Obj.cls_mapFields ..).trans hc) (by rw [Obj.data_mapFields hd];simp [rawInt]))
 refine wpAny_bind (wpAny_holding ?_)
 refine wpAny_bind (wpAny_isOneOf_keyiter (s:={s with heap:=s.heap.update it (Obj.mapFields (·.setIfInBounds 1 (rawInt ((i:Int)+1))))}) hit'.typeIs ?_)
 show wpAny _ _ (pure es[i].key) _ _ _
 rw [hkey]
 exact wpAny_pure (wpAny_pure (a9 _ rfl (wpAny_pure (hQ _ hit' (Heap.SameBut.update ..)))))
theorem JT {Q:Option Value→Shared→Prop} (hh:A.handled=none) (hit:s.heap.IsKeyIter it d i ks.length ep)
  (hm:jt s.heap d ks ep) (hx:ks[i]? =none)
  (hQ:∀h',Heap.ExtBut it s.heap h'→Q none {s with heap:=h'}):wpAny (model pw w) A (pyNext (.ref it)) Q E s:=by
 refine ar (id hit) fun o ho hc hd=>?_
 refine bI (id hm) fun od es hod hcd hdd hk=>?_
 unfold pyNext
 refine wpAny_bind (wpAny_attempt (wpAny_callSpecial?_slot (name:="__next__") hit.typeIs F.slot_dict_keyiterator_next
  (wpAny_call_entry F.slot_dict_keyiterator_next hit.typeIs F.entry_dict_keyiterator_next ?_ (F.args_dict_keyiterator_next_1 _))))
 refine wpAny_bind (wpAny_pure ?_)
 refine wpAny_bind ?_
 refine wpAny_bind ?_
 first |refine wpAny_bind (wpAny_typeNameOfWhole_keyiter hit.typeIs (wpAny_pure ?_)) |refine wpAny_bind (wpAny_typeNameOf_keyiter hit.typeIs (wpAny_pure ?_))
 refine wpAny_bind (wpAny_fieldsOf ho hd ?_)
 rw [if_neg (show ¬(Builtin.Dict_items.ownsTuple "dict_keyiterator"=true) from by decide)]
 show wpAny _ _ (if (Value.ref d==Value.none)=true then _ else _) _ _ s
 rw [if_neg (show ¬((Value.ref d==Value.none)=true) from Bool.false_ne_true)]
 refine wpAny_bind (wpAny_pure ?_)
 refine wpAny_bind (wpAny_dictEntries hod hdd ?_)
 have hsz:es.size=ks.length:=by rw [←hk];simp
 rw [if_neg (by rw [hsz];simp)]
 refine wpAny_bind (wpAny_pure ?_)
 refine wpAny_bind (wpAny_dictEpoch hod hdd ?_)
 rw [if_neg (by simp)]
 refine wpAny_pure ?_
 have hge:es.size≤i:=by rw [hsz];simpa using hx
 dsimp only
 rw [if_neg (show ¬((i:Int) <0) from by lia),Int.toNat_natCast,Array.getElem?_eq_none hge]
 refine wpAny_bind ?_
 first |refine wpAny_bind (wpAny_typeNameOfWhole_keyiter hit.typeIs (wpAny_pure ?_)) |refine wpAny_bind (wpAny_typeNameOf_keyiter hit.typeIs (wpAny_pure ?_))
 show wpAny _ _ (setField (.ref it) 0 .none >>= _) _ _ s
 refine wpAny_bind (wpAny_setField ho hd (by simp) ?_)
 show wpAny _ _ (newExc (.type "StopIteration") [] >>= _) _ _ _
 refine wpAny_bind ?_
 simp only [newExc,newTuple]
 refine wpAny_bind (wpAny_newObj_type ?_ (by size_fits))
 refine wpAny_bind (m:=firstArgMember _ _) (wpAny_of_eq (a:=Value.none) (by first |rfl |(simp only [firstArgMember];rfl)) ?_)
 refine wpAny_newObj_type ?_ (by size_fits)
 delta raiseNew
 dsimp only
 refine wpAny_bind (wpAny_handled ?_)
 rw [show A.in1.handled=none from hh]
 refine wpAny_bind (wpAny_pure (wpAny_throw ?_))
 refine wpAny_bind (wpAny_isInstance (T:="StopIteration") (b:=true) (a9 _ (Heap.get?_push_size _ rfl) rfl) isSubtype_stop ?_)
 exact wpAny_pure (hQ _ (((Heap.SameBut.update ..).extBut.push _).push _))
theorem jt.extBut {h h':Heap} {b:Addr} (x:jt h d ks ep) (hs:Heap.ExtBut b h h') (hab:d≠b):jt h' d ks ep:=x.at fun o e=>hs d o hab e
theorem uI {I:Addr} (hh:A.handled=none) (hne:d≠I):
  Walks pw w A I [I,d] [I] ks.length (fun i v=>ks[i]? =some v) (fun i h=>h.IsKeyIter I d i ks.length ep∧jt h d ks ep) where
 sub:=fun b hb=>by simp at hb;simp [hb]
 frame:=fun V V V st hk=>⟨st.1.at fun o e=>hk I (.head _) o e,st.2.at fun o e=>hk d jT o e⟩
 item:=fun i s Q E hi st hQ=>by
  refine DP st.1 st.2 (List.getElem?_eq_getElem hi) fun h' hit' hs'=>?_
  exact hQ _ h' s.toks (List.getElem?_eq_getElem hi) ⟨hit',st.2.extBut hs'.extBut hne⟩ fun b o hb e=>hs'.extBut b o (fun h=>hb (by simp [h])) e
 done:=fun s Q E st hQ=>JT hh st.1 st.2 (by simp) fun h' he'=>hQ h' s.toks fun b o hb e=>he' b o (fun h=>hb (by simp [h])) e
 self:=fun V V V V st hQ=>wpAny_pyIter_keyiter st.1 hQ
theorem BB (lo:(d==sysModules)=false):KdlSrc pw w "dict" d d ks.length (fun i v=>ks[i]? =some v) (fun h=>jt h d ks ep) where
 type:=fun s hm=>jt.typeIs hm
 there:=fun V hm=>⟨hm.lt,hm.lt⟩
 keep:=fun V V hm hk=>hm.at fun o e=>hk d (.inl rfl) o e
 notList:=by decide
 notTuple:=by decide
 hint:=fun V V s V hm hq=>kdl_hint_dict (jt.typeIs hm) hq
 iter:=fun V V hh hm=>hZ _ _ (fun V V hq=>zg lo hm hq) (uI hh (Nat.ne_of_lt hm.lt)) ⟨(cb _ (Heap.get?_push_size _ rfl) rfl rfl),hm.at fun o e=>Heap.get?_push_of_some _ e⟩
theorem uU {P:Nat→Value→Prop} {acc:Array Value} (h:ItemsOf (fun i v=>ks[i]? =some v) acc ks.length):acc.toList=ks:=by
 apply List.ext_getElem?
 intro j
 by_cases hj:j <ks.length
 ·have:j <acc.size:=by rw [h.1];exact hj
  have e:=h.2 j acc[j] (Array.getElem?_eq_getElem this)
  rw [e,Array.getElem?_toList,Array.getElem?_eq_getElem this]
 ·rw [List.getElem?_eq_none (by rw [Array.length_toList,h.1];exact Nat.le_of_not_lt hj),List.getElem?_eq_none (Nat.le_of_not_lt hj)]
end
noncomputable def Mq (h:Heap) (d:Addr) (ds:List D):Prop:=∃ks ep,jt h d ks ep∧bp h ks ds
section
variable {w:World} {d:Addr}
theorem GZ (hh:A.handled=none) (lo:(d==sysModules)=false) (L:Mq s.heap d ds):bg w A (pyIter (.ref d)) s fun it h2=>it= .ref s.heap.objs.size∧Sub s.heap h2∧qu w A s.heap s.heap.objs.size d h2 ds:=by
 refine ao L fun ks ep R r=>?_
 intro Q E q
 refine zg lo R (q _ _ s.toks ⟨rfl,Sub.push _,(d9 [s.heap.objs.size,d] (fun i v=>ks[i]? =some v) (fun i h=>h.IsKeyIter s.heap.objs.size d i ks.length ep∧jt h d ks ep) ?_ ⟨(cb _ (Heap.get?_push_size _ rfl) rfl rfl),R.at fun o e=>Heap.get?_push_of_some _ e⟩ (fun b hb=>by simpa using hb) (fun i h st b hb=>?_) (fun i v hv=>?_) (fun i h st vs n e=>?_)),aA (Nat.le_refl _)⟩)
 ·have:=uI (w:=w) (A:=A) (ks:=ks) (ep:=ep) (I:=s.heap.objs.size) hh (Nat.ne_of_lt R.lt)
  rw [show ds.length=ks.length from r.length.symm]
  exact this
 ·replace hb:=Cv hb
  rcases hb with rfl |rfl
  ·refine ab st.1 fun o ho V=>?_;exact ⟨_,ho⟩
  ·refine ao st.2 fun o es ho V=>?_;exact ⟨_,ho⟩
 ·refine ab (bp.at (h:=s.heap) r (i:=i) (v:=v) (by simpa using hv)) fun d' h1 h2=>?_
  exact a9 d' h1 (h2.mono (Sub.push _).t)
 ·refine ar st.1 fun o ho hc V=>?_
  rw [e] at ho;exact ia ho (by rw [hc];decide) (by rw [hc];decide)
theorem Fm (hh:A.handled=none) (lo:(d==sysModules)=false) (hz:ds.length≤1000) (L:Mq s.heap d ds):bg w A (call (.type "list") [.ref d]) s fun v h'=>Sub s.heap h'∧∃a,v= .ref a∧cN h' a ds∧s.heap.get? a=none:=by
 refine ao L fun ks ep R r=>?_
 intro Q E q
 refine kdl_call (BB (w:=w) lo) hh R (by first |(refine bR (k:=2000) ?_;rw [r.length];exact Nat.le_trans hz lr) |(rw [r.length,sizeLine_eq];lia)) fun h' tk acc c hk hg hacc=>q _ h' tk (fA hk _ rfl (fZ ks c ?_ (r.mono (Sub.t hk))) (aA (Nat.le_refl _)))
 have:=uU (P:=fun i v=>ks[i]? =some v) hacc
 rw [←this];delta bh;rw [Array.toArray_toList];exact hg
end
mutual
noncomputable def qt (le:Bool):D→D→Bool
 | .int i,.int j=>if le then decide (i≤j) else decide (i <j)
 | .tup ds,.tup es=>jI le ds es
 |_,_=>false
noncomputable def jI (le:Bool):List D→List D→Bool
 | [],[]=>le
 | [],_::_=>true
 |_::_,[]=>false
 |d::ds,e::es=>if D.eqv d e then jI le ds es else qt le d e
end
mutual
noncomputable def mr:Nat→D→D→Bool
 |_,.int _,.int _=>true
 |n+1,.tup ds,.tup es=>iu n ds es
 |_,_,_=>false
noncomputable def iu:Nat→List D→List D→Bool
 |_,[],[]=>true
 |n,d::ds,e::es=>d.keyOk n&&e.keyOk n&&mr n d e&&iu n ds es
 |_,_,_=>false
end
noncomputable def JS (le:Bool):CmpOp:=if le then .LtE else .Lt
section
variable {w:World} {E:Value→Shared→Prop}
theorem Mp {n:Nat} {d e:D} (k1:d.keyOk n=true) (k2:e.keyOk n=true) {A:Around} {s:Shared} {u v:Value} {Q:Bool→Shared→Prop} (r1:RD s.heap u d) (r2:RD s.heap v e) (hu:A.units+n <cLine) (q:Q (D.eqv d e) s):wpAny (model pw w) A (eqBool u v) Q E s:=by
 refine cQ (r1.reads (c7 n _ k1)) fun as ra=>?_
 refine cQ (r2.reads (c7 n _ k2)) fun bs rb=>?_
 have lx:=D.lay (c7 n _ k1)
 have ly:=D.lay (c7 n _ k2)
 exact SeqAt.eqAt_reads _ _ A s _ _ as bs ra rb lx.1 ly.1 (QK hu lx.2) _ _ E _ q
theorem M7 {le:Bool} {A:Around} {s:Shared} {i j:Int} {t u:Tok} {Q:Value→Shared→Prop} (q:Q (.bool (qt le (.int i) (.int j))) s):wpAny (model pw w) A (richCompare (JS le) (.int i t) (.int j u)) Q E s:=by
 cases le with
 |true=>exact P.le_int q
 |false=>exact P.lt_int q
theorem J7 {P:Nat→D→D→Prop} (i:∀n i j,P n (.int i) (.int j)) (t:∀n ds es,(∀d e,mr n d e=true→P n d e)→iu n ds es=true→P (n+1) (.tup ds) (.tup es)) (n:Nat):∀(d e:D),mr n d e=true→P n d e:=by
 induction n with
 |zero=>
  intro d e h
  cases d with
  |int=>cases e with
   |int=>exact i _ _ _
   |_=>exact noD h
  |tup=>cases e<;>exact noD h
  |_=>exact noD h
 |succ n ih=>
  intro d e h
  cases d with
  |int=>cases e with
   |int=>exact i _ _ _
   |_=>exact noD h
  |tup ds=>cases e with
   |tup es=>exact t n ds es ih h
   |_=>exact noD h
  |_=>exact noD h
theorem kN {n:Nat} {d:D} {ds es:List D} (h:iu n (d::ds) es=true):∃e es',es=e::es'∧d.keyOk n=true∧e.keyOk n=true∧mr n d e=true∧iu n ds es'=true:=by
 cases es with
 |nil=>exact noD h
 |cons e es=>
  have h:(d.keyOk n&&e.keyOk n&&mr n d e&&iu n ds es)=true:=h
  rw [Bool.and_eq_true,Bool.and_eq_true,Bool.and_eq_true] at h
  exact ⟨e,es,rfl,h.1.1.1,h.1.1.2,h.1.2,h.2⟩
theorem ye (le:Bool) (n:Nat) (A:Around) (s:Shared) (hu:A.units+n <cLine)
  (ih:∀(d e:D),mr n d e=true→∀(u v:Value) (Q:Value→Shared→Prop),RD s.heap u d→RD s.heap v e→Q (.bool (qt le d e)) s→wpAny (model pw w) A (richCompare (JS le) u v) Q E s):
  ∀(ds es:List D) (vs ws:List Value),iu n ds es=true→bp s.heap vs ds→bp s.heap ws es→∀(R:Option Fin×Unit→Shared→Prop),
   (∀r,(r=none∧jI le ds es=le)∨r=some (Fin.done (.ret (.bool (jI le ds es))))→R (r,()) s)→
   wpAny (model pw w) A (forIn (vs.zip ws) ((none,()):Option Fin×Unit) fun x __s=>do
    let __do_lift←eqBool x.fst x.snd
    if (!__do_lift)=true then do
      rule "tuple.compare.by-the-first-pair-that-differs"
      let __do_lift←richCompare (JS le) x.fst x.snd
      let __do_lift←ret __do_lift
      pure (ForInStep.done (some __do_lift,()))
     else pure (ForInStep.yield (none,()))) R E s:=by
 intro ds
 induction ds with
 |nil=>
  intro es vs ws ok r1 r2 R q
  cases es with
  |cons=>exact noD ok
  |nil=>
   cases r1
   cases r2
   rw [List.zip_nil_left,List.forIn_nil]
   exact wpAny_pure (q none (.inl ⟨rfl,rfl⟩))
 |cons d ds loop=>
  intro es vs ws ok r1 r2 R q
  obtain ⟨e,es,rfl,k1,k2,ko,kr⟩:=kN ok
  cases r1 with |cons a1 r1=>
  cases r2 with |cons a2 r2=>
  rw [List.zip_cons_cons,List.forIn_cons]
  refine wpAny_bind (wpAny_bind (Mp k1 k2 a1 a2 hu ?_))
  cases hc:D.eqv d e with
  |true=>
   rw [if_neg (show ¬((!true)=true) from Bool.false_ne_true)]
   refine wpAny_pure (loop es _ _ kr r1 r2 R fun r h=>q r ?_)
   rw [show jI le (d::ds) (e::es)=jI le ds es from if_pos hc];exact h
  |false=>
   rw [if_pos (show (!false)=true from rfl)]
   refine wpAny_bind (wpAny_rule (wpAny_bind (ih d e ko _ _ _ a1 a2 ?_)))
   refine wpAny_bind (wpAny_pure (wpAny_pure (wpAny_pure (q _ (.inr ?_)))))
   rw [show jI le (d::ds) (e::es)=qt le d e from if_neg (by rw [hc];exact Bool.false_ne_true)]
theorem mW {n:Nat}:∀(ds es:List D),iu n ds es=true→ds.length=es.length:=fun ds=>by
 induction ds with
 |nil=>intro es h;cases es with
  |nil=>rfl
  |cons=>exact noD h
 |cons d ds ih=>intro es h;exact dJ (kN h) fun e es' q V V V kr=>by subst q;exact congrArg (· +1) (ih es' kr)
theorem LV (le:Bool):∀(n:Nat) (d e:D),mr n d e=true→∀(A:Around) (s:Shared) (u v:Value) (Q:Value→Shared→Prop),RD s.heap u d→RD s.heap v e→A.units+3*n+3 <cLine→Q (.bool (qt le d e)) s→wpAny (model pw w) A (richCompare (JS le) u v) Q E s:=by
 refine J7 (fun n i j A s u v Q r1 r2 hu q=>?_) (fun n ds es ih ok A s u v Q r1 r2 hu q=>?_)
 ·cases r1
  cases r2
  exact M7 q
 ·replace q:Q (.bool (jI le ds es)) s:=q
  refine a8 r1.isTup fun a vs m e1 ha r3=>?_
  refine a8 r2.isTup fun b ws m' e2 hb r4=>?_
  subst e1
  subst e2
  clear r1 r2
  have ta:s.TypeIs (.ref a) "tuple":=jm ha
  have tb:s.TypeIs (.ref b) "tuple":=jm hb
  cases le with
  |true=>
   refine wpAny_richCompare_same_room (op:=.LtE) ta tb F.slot_tuple_le (wpAny_call_entry F.slot_tuple_le ta F.entry_tuple_le ?_ (F.args_tuple_le_2 _ _)) (by omega)
   show wpAny _ _ (isInstance (.ref b) (.type "tuple") >>= _) _ _ s
   refine wpAny_bind (wpAny_isInstance tb isSubtype_tuple_tuple ?_)
   rw [if_neg (show ¬((!true)=true) from Bool.false_ne_true)]
   refine wpAny_bind (wpAny_tupleItemsOf ha rfl ?_)
   refine wpAny_bind (wpAny_tupleItemsOf hb rfl ?_)
   refine wpAny_bind ?_
   rw [List.toList_toArray,List.toList_toArray]
   refine ye true n A.in1 s (by show A.units+1+n <cLine;omega) (fun d e k u v Q r1 r2 q=>ih d e k A.in1 s u v Q r1 r2 (by show A.units+1+3*n+3 <cLine;omega) q) ds es vs ws ok r3 r4 _ ?_
   rintro r (⟨rfl,hc⟩ |rfl)
   ·refine wpAny_pure (cb _ rfl (fun e=>nomatch e) ?_)
    rw [hc] at q
    have hz:Tuple.tupleCompareSizes .LtE vs.toArray.size ws.toArray.size= .bool true:=by
     rw [List.size_toArray,List.size_toArray,r3.length,r4.length,mW _ _ ok]
     simp [Tuple.tupleCompareSizes]
    rw [hz];exact q
   ·exact wpAny_pure (cb _ rfl (fun e=>nomatch e) q)
  |false=>
   refine wpAny_richCompare_same_room (op:=.Lt) ta tb F.slot_tuple_lt (wpAny_call_entry F.slot_tuple_lt ta F.entry_tuple_lt ?_ (F.args_tuple_lt_2 _ _)) (by omega)
   show wpAny _ _ (isInstance (.ref b) (.type "tuple") >>= _) _ _ s
   refine wpAny_bind (wpAny_isInstance tb isSubtype_tuple_tuple ?_)
   rw [if_neg (show ¬((!true)=true) from Bool.false_ne_true)]
   refine wpAny_bind (wpAny_tupleItemsOf ha rfl ?_)
   refine wpAny_bind (wpAny_tupleItemsOf hb rfl ?_)
   refine wpAny_bind ?_
   rw [List.toList_toArray,List.toList_toArray]
   refine ye false n A.in1 s (by show A.units+1+n <cLine;omega) (fun d e k u v Q r1 r2 q=>ih d e k A.in1 s u v Q r1 r2 (by show A.units+1+3*n+3 <cLine;omega) q) ds es vs ws ok r3 r4 _ ?_
   rintro r (⟨rfl,hc⟩ |rfl)
   ·refine wpAny_pure (cb _ rfl (fun e=>nomatch e) ?_)
    rw [hc] at q
    have hz:Tuple.tupleCompareSizes .Lt vs.toArray.size ws.toArray.size= .bool false:=by
     rw [List.size_toArray,List.size_toArray,r3.length,r4.length,mW _ _ ok]
     simp [Tuple.tupleCompareSizes]
    rw [hz];exact q
   ·exact wpAny_pure (cb _ rfl (fun e=>nomatch e) q)
end
section
variable {w:World} {e:D}
theorem Me (R:Rm n A) (ok:mr 5 d e=true):iD w A h0 .Lt d e (qt false d e):=fun s v1 v2 V r1 r2 Q E q=>
 LV (w:=w) false 5 d e ok A s v1 v2 Q r1 r2 (by have:=R.u;exact kQ this lr) (q _ s.heap s.toks ⟨Sub.rfl',rfl⟩)
theorem M0 (R:Rm n A) (ok:mr 5 d e=true):iD w A h0 .LtE d e (qt true d e):=fun s v1 v2 V r1 r2 Q E q=>
 LV (w:=w) true 5 d e ok A s v1 v2 Q r1 r2 (by have:=R.u;exact kQ this lr) (q _ s.heap s.toks ⟨Sub.rfl',rfl⟩)
end
noncomputable def nP {α:Type} (lt:Nat→Nat→Bool):KasT α→α
 | .ret a=>a
 | .ask i j k=>nP lt (k (lt i j))
noncomputable def xU {α:Type} (n:Nat) (p:α→Bool):KasT α→Bool
 | .ret a=>p a
 | .ask i j k=>decide (i <n)&&decide (j <n)&&xU n p (k true)&&xU n p (k false)
noncomputable def dw (n:Nat) (lt:Nat→Nat→Bool):List Nat:=(nP lt (kas_sort n)).toList
noncomputable def xA (n:Nat) (p:Array Nat):Bool:=p.size==n&&p.toList.all (fun i=>decide (i <n))&&(List.range n).all fun i=>p.toList.contains i
theorem PW:xU 2 (xA 2) (kas_sort 2)=true:=by decide+kernel
theorem Qh:xU 3 (xA 3) (kas_sort 3)=true:=by decide+kernel
theorem PD {n:Nat} (h2:2≤n) (h3:n≤3):n=2∨n=3:=by lia
theorem uJ {n:Nat} (h2:2≤n) (h3:n≤3):xU n (xA n) (kas_sort n)=true:=by
 obtain rfl |rfl:=PD h2 h3
 ·exact PW
 ·exact Qh
theorem lH {α:Type} {n:Nat} {p:α→Bool} {lt:Nat→Nat→Bool}:∀(t:KasT α),xU n p t=true→p (nP lt t)=true
 | .ret a,h=>h
 | .ask i j k,h=>by
  simp only [xU,Bool.and_eq_true] at h
  unfold nP
  cases lt i j with
  |true=>exact lH (k true) h.1.2
  |false=>exact lH (k false) h.2
theorem mM {α:Type} {n:Nat} {p:α→Bool} {lt:Nat→Nat→Bool} {cmp:Nat→Nat→(Bool→Shared→Prop)→Shared→Prop} {G:α→Shared→Prop} {s:Shared} (hc:∀i j C,i <n→j <n→C (lt i j) s→cmp i j C s):
  ∀(t:KasT α),xU n p t=true→G (nP lt t) s→t.kasWp cmp G s
 | .ret a,_,h=>h
 | .ask i j k,hk,h=>by
  simp only [xU,Bool.and_eq_true,decide_eq_true_eq] at hk
  refine hc i j _ hk.1.1.1 hk.1.1.2 ?_
  unfold nP at h
  show (k (lt i j)).kasWp cmp G s
  cases q:lt i j with
  |true=>rw [q] at h;exact mM hc (k true) hk.1.2 h
  |false=>rw [q] at h;exact mM hc (k false) hk.2 h
noncomputable def dO (kds:List D):Prop:=(∀d∈kds,∀e∈kds,mr 5 d e=true)∧((∀d∈kds,∃i,d= .int i)∨(∀d∈kds,∃i r,d= .tup (.int i::r))∨(∀d∈kds,∃u r,d= .tup (.tup u::r)))
noncomputable def bK (kds:List D) (i j:Nat):Bool:=qt false (kds.getD i .none) (kds.getD j .none)
noncomputable def az {α:Type} (kds:List D) (xs:List α):List α:=xs.head?.elim xs fun a=>if xs.length <2 then xs else (dw xs.length (bK kds)).map fun i=>xs.getD i a
theorem cX {α:Type} {kds:List D} {xs:List α} (c:xs.length <2):az kds xs=xs:=by
 cases xs with
 |nil=>rfl
 |cons a r=>exact if_pos c
theorem cS {α:Type} (kds:List D) {xs:List α} (c:¬ xs.length <2):∃d,az kds xs=(dw xs.length (bK kds)).map fun i=>xs.getD i d:=by
 cases xs with
 |nil=>exact absurd Nat.zero_lt_two c
 |cons a r=>exact ⟨a,if_neg c⟩
theorem rH {α:Type} {xs:List α} {i:Nat} {d d':α} (h:i <xs.length):xs.getD i d=xs.getD i d':=by
 rw [List.getD_eq_getElem?_getD,List.getD_eq_getElem?_getD,List.getElem?_eq_getElem h];rfl
theorem gG {n:Nat} {lt:Nat→Nat→Bool} (h2:2≤n) (h3:n≤3):∀i∈dw n lt,i <n:=by
 have:=lH (lt:=lt) (kas_sort n) (uJ h2 h3)
 simp only [xA,Bool.and_eq_true,List.all_eq_true,decide_eq_true_eq] at this
 exact this.1.2
section
variable {w:World} {E:Value→Shared→Prop}
theorem NI {Q:Bool→Shared→Prop} (hu:A.units+30 <cLine):∀(ds es:List D) (vs ws:List Value) (i:Nat),iu 4 ds es=true→bp s.heap vs ds→bp s.heap ws es→(b=true→i=0→∀d r e q,ds=d::r→es=e::q→∃x y,d= .int x∧e= .int y)→Q (jI false ds es) s→KatLex pw w A b false Q (vs.zip ws) i s:=by
 intro ds
 induction ds with
 |nil=>
  intro es vs ws i ok r1 r2 hb q
  cases es with
  |cons=>exact absurd ok Bool.false_ne_true
  |nil=>
   cases r1
   cases r2
   exact kat_nil q
 |cons d ds loop=>
  intro es vs ws i ok r1 r2 hb q
  obtain ⟨e,es,rfl,k1,k2,ko,kr⟩:=kN ok
  cases r1 with | @cons v vs _ _ a1 r1=>
  cases r2 with | @cons u ws _ _ a2 r2=>
  rw [List.zip_cons_cons]
  refine kat_cons (Mp k1 k2 a1 a2 (Nf hu lr) ?_)
  cases hc:D.eqv d e with
  |true=>
   refine kat_yes (loop es vs ws (i+1) kr r1 r2 (fun V h=>by lia) ?_)
   rw [show jI false (d::ds) (e::es)=jI false ds es from if_pos hc] at q;exact q
  |false=>
   rw [show jI false (d::ds) (e::es)=qt false d e from if_neg (by rw [hc];exact Bool.false_ne_true)] at q
   refine kat_no ?_
   cases hbb:b&&i==0 with
   |true=>
    simp only [Bool.and_eq_true,beq_iff_eq] at hbb
    refine ao (hb hbb.1 hbb.2 d ds e es rfl rfl) fun x y zr20 zr21=>?_;subst zr20;subst zr21
    cases a1
    cases a2
    exact oneLt_int q
   |false=>
    refine kat_one _ _ ?_
    exact LV (w:=w) false 4 d e ko A s v u _ a1 a2 (by lia) q
theorem g7 {h:Heap} {vs:List Value} {ds:List D} (r:bp h vs ds) {i:Nat} (hi:i <ds.length):RD h (vs.getD i .none) (ds.getD i .none)∧ds.getD i .none∈ds:=
 bp.ind (P:=fun vs ds=>∀i,i <ds.length→RD h (vs.getD i .none) (ds.getD i .none)∧ds.getD i .none∈ds) (fun V z=>absurd z (Nat.not_lt_zero _)) (fun V V V V a V ih i=>i.casesOn (fun V=>⟨a,.head _⟩) fun i z=>⟨(ih i (Nat.lt_of_succ_lt_succ z)).1,.tail _ (ih i (Nat.lt_of_succ_lt_succ z)).2⟩) r i hi
theorem tD {h:Heap} {p:D→Prop} {vs:List Value} {kds:List D} (r:bp h vs kds):(∀d∈kds,∃u r,d= .tup (u::r)∧p u)→∃fs us,KatTups h vs fs∧bp h fs us∧fs.length=kds.length∧∀u∈us,p u:=
 bp.ind (P:=fun vs kds=>(∀d∈kds,∃u r,d= .tup (u::r)∧p u)→∃fs us,KatTups h vs fs∧bp h fs us∧fs.length=kds.length∧∀u∈us,p u) (fun V=>dm [] [] KatTups.nil .nil rfl (fun V h=>noM h)) (fun v V d V a r ih h=>by
  refine bI (ih fun d hd=>h d (List.mem_cons_of_mem _ hd)) fun fs us h1 h2 h3 h4=>?_
  refine ao (h _ (List.mem_cons_self ..)) fun u q e pu=>?_
  subst e
  refine a8 a.isTup fun x vs n e ho r=>?_
  subst e
  cases r with |cons rv r=>
  exact dm (_::fs) (u::us) (KatTups.cons ho rfl rfl rfl h1) (.cons rv h2) (congrArg (· +1) h3) (fun z hz=>(List.mem_cons.mp hz).elim (fun e=>e▸pu) (h4 z))) r
theorem Dh {vs:List Value} {kds:List D} {Q:SortKind→Shared→Prop} (hu:A.units+40 <cLine) (r:bp s.heap vs kds) (ok:dO kds) (h2:2≤kds.length)
  (q:∀κ,(∀i j C,i <kds.length→j <kds.length→C (bK kds i j) s→kas_ask pw w A κ vs i j C s)→Q κ s):wpAny (model pw w) A (keyKind' vs.toArray) Q E s:=by
 have hl:=r.length
 refine bC ok fun o1 o2=>?_
 have tupd:∀(b:Bool) i j (C:Bool→Shared→Prop),i <kds.length→j <kds.length→(∀d∈kds,∃u r,d= .tup (u::r)∧(b=true→∃x,u= .int x))→C (bK kds i j) s→kas_ask pw w A (tuples' b) vs i j C s:=by
  intro b i j C hi hj ht hC
  refine bC (g7 r hi) fun ri mi=>?_
  refine bC (g7 r hj) fun rj mj=>?_
  have oij:=o1 _ mi _ mj
  unfold kas_ask
  unfold bK at hC
  refine ao (ht _ mi) fun u1 q1 e1 p1=>?_
  refine ao (ht _ mj) fun u2 q2 e2 p2=>?_
  rw [e1,e2] at oij hC
  rw [e1] at ri
  rw [e2] at rj
  generalize vs.getD i .none=vi at ri ⊢
  generalize vs.getD j .none=vj at rj ⊢
  cases ri with | @tup a xs n _ ha ra=>
  cases rj with | @tup c ys n' _ hc rc=>
  refine kat_lt ha rfl hc rfl ?_
  change iu 4 _ _=true at oij
  rw [show decide (xs.toArray.size <ys.toArray.size)=false by
   rw [List.size_toArray,List.size_toArray,ra.length,rc.length,mW _ _ oij];simp]
  refine NI (Nf hu lr) _ _ _ _ 0 oij ra rc (fun hb V d r e q h1 h2=>?_) hC
  cases h1
  cases h2
  refine cQ (p1 hb) fun x zr22=>?_;subst zr22
  refine cQ (p2 hb) fun y zr23=>?_;subst zr23
  exact fZ x y rfl rfl
 rcases o2 with hi |ht |ht
 ·refine kas_kind (T:=.type "int") (Qo h2 hl) (fun v hv=>?_) (by decide) (by decide) (q _ fun i j C hi' hj' hC=>?_)
  ·obtain ⟨i,hi',e⟩:=List.getElem_of_mem hv
   refine bC (g7 r (i:=i) (Qe hi' hl)) fun ri mi=>?_
   refine cQ (hi _ mi) fun z ez=>?_
   rw [ez] at ri
   have:vs.getD i .none=v:=by simp [hi',e]
   rw [this] at ri
   cases ri
   exact Looks.of_pure rfl
  ·refine bC (g7 r hi') fun ri mi=>?_
   refine bC (g7 r hj') fun rj mj=>?_
   unfold kas_ask
   unfold bK at hC
   refine cQ (hi _ mi) fun x e1=>?_
   refine cQ (hi _ mj) fun y e2=>?_
   rw [e1,e2] at hC
   rw [e1] at ri
   rw [e2] at rj
   generalize vs.getD i .none=vi at ri ⊢
   generalize vs.getD j .none=vj at rj ⊢
   cases ri
   cases rj
   exact kat_lt_int hC
 ·refine bI (tD (p:=fun u=>∃x,u= .int x) r (fun d hd=>by refine fw (ht d hd) fun i q e=>?_;exact ⟨_,q,e,i,rfl⟩)) fun fs us h1 h2' h3 h4=>?_
  refine kat_kind (T:=.type "int") h1 (by omega) (fun v hv=>?_) (by decide) (q _ fun i j C hi hj hC=>tupd _ i j C hi hj (fun d hd=>by refine fw (ht d hd) fun i q e=>?_;exact fZ _ q e (fun V=>⟨_,rfl⟩)) hC)
  obtain ⟨i,hi',e⟩:=List.getElem_of_mem hv
  refine bC (g7 h2' (i:=i) (by rw [←h2'.length];exact hi')) fun ri mi=>?_
  refine cQ (h4 _ mi) fun z ez=>?_
  rw [ez] at ri
  have:fs.getD i .none=v:=by simp [hi',e]
  rw [this] at ri
  cases ri
  exact Looks.of_pure rfl
 ·refine bI (tD (p:=fun u=>∃x,u= .tup x) r (fun d hd=>by refine fw (ht d hd) fun i q e=>?_;exact ⟨_,q,e,i,rfl⟩)) fun fs us h1 h2' h3 h4=>?_
  refine kat_kind (T:=.type "tuple") h1 (by omega) (fun v hv=>?_) (by decide) (q _ fun i j C hi hj hC=>tupd _ i j C hi hj (fun d hd=>by refine fw (ht d hd) fun i q e=>?_;exact fZ _ q e (fun h=>absurd h (by decide))) hC)
  obtain ⟨i,hi',e⟩:=List.getElem_of_mem hv
  refine bC (g7 h2' (i:=i) (by rw [←h2'.length];exact hi')) fun ri mi=>?_
  refine cQ (h4 _ mi) fun z ez=>?_
  rw [ez] at ri
  have:fs.getD i .none=v:=by simp [hi',e]
  rw [this] at ri
  cases ri with |tup ho r=>exact (Looks.ld ho).andThen .now
theorem vb {ks vs:List Value} {kds:List D} {P:PySem.Fin→Shared→Prop} {f:SortSt→Sem PySem.Fin} (hu:A.units+40 <cLine) (r:bp s.heap ks kds) (ok:dO kds) (hl:kds.length=vs.length) (h3:vs.length≤3)
  (q:∀st,(arrOf st).map (·.2)=List.toArray (az kds vs)→failedOf st=none→wpAny (model pw w) A (f st) P E s):
  wpAny (model pw w) A (do
   let kind←if vs.toArray.size <2 then pure general' else keyKind' ks.toArray
   let ((),st)←(if vs.toArray.size <2 then pure () else sortRuns').run (SortSt.mk' kind (ks.toArray.zip vs.toArray) #[] 7 none)
   f st) P E s:=by
 have hlk:ks.length=vs.length:=by rw [r.length,hl]
 by_cases h2:vs.length <2
 ·have hz:vs.toArray.size <2:=by rw [List.size_toArray];exact h2
  rw [if_pos hz,if_pos hz]
  refine wpAny_bind (wpAny_pure ?_)
  refine wpAny_bind (wpAny_pure ?_)
  refine q _ ?_ rfl
  rw [cX h2]
  show (ks.toArray.zip vs.toArray).map (·.2)=_
  apply Array.toList_inj.mp
  rw [Array.toList_map,Array.toList_zip]
  exact List.map_snd_zip (Nat.le_of_eq hlk.symm)
 ·have hz:¬ vs.toArray.size <2:=by rw [List.size_toArray];exact h2
  rw [if_neg hz,if_neg hz]
  refine wpAny_bind (Dh hu r ok (by lia) fun κ ask=>?_)
  have hk:=mM (n:=vs.length) (p:=xA vs.length) (lt:=bK kds) (cmp:=kas_ask pw w A κ ks) (G:=fun p s'=>s'=s∧p=nP (bK kds) (kas_sort vs.length)) (s:=s)
   (fun i j C hi hj hC=>ask i j C (IA hi hl) (IA hj hl) hC) (kas_sort vs.length) (uJ (Nat.le_of_not_lt h2) h3) ⟨rfl,rfl⟩
  refine wpAny_bind (wpAny_mono (kat_run (E:=E) (Q:=fun st' s'=>s'=s∧(arrOf st').map (·.2)=List.toArray (az kds vs)∧failedOf st'=none) hlk (Nat.le_of_not_lt h2) (Nat.lt_of_le_of_lt h3 lr) (fun p st' s' a1 a2 a3 ⟨a4,a5⟩=>⟨a4,?_,a3⟩) hk) ?_ fun V V e=>e)
  ·rintro ⟨⟨⟩,st'⟩ s' ⟨rfl,h1,h2⟩
   exact q st' h1 h2
  ·rw [kat_snds hlk a2,a5]
   refine cQ (cS kds h2) fun d e=>?_
   rw [e]
   exact congrArg List.toArray (List.map_congr_left fun i hi=>rH (gG (Nat.le_of_not_lt h2) h3 i hi))
end
theorem Ao {n:Nat} {lt:Nat→Nat→Bool} (h2:2≤n) (h3:n≤3):(dw n lt).length=n:=by
 have:=lH (lt:=lt) (kas_sort n) (uJ h2 h3)
 simp only [xA,Bool.and_eq_true,beq_iff_eq] at this
 exact this.1.1
theorem Ac {n:Nat} {lt:Nat→Nat→Bool} (h2:2≤n) (h3:n≤3):∀i,i <n→i∈dw n lt:=by
 have:=lH (lt:=lt) (kas_sort n) (uJ h2 h3)
 simp only [xA,Bool.and_eq_true,List.all_eq_true,List.mem_range] at this
 intro i hi
 have:=this.2 i hi
 delta dw
 exact List.elem_iff.mp this
theorem Gr {h:Heap} {vs:List Value} {ds:List D} (r:bp h vs ds) {i:Nat} (hi:i <ds.length) {x:Value} {y:D}:RD h (vs.getD i x) (ds.getD i y):=by
 have:=(g7 r hi).1
 rwa [rH (r.length.symm▸hi),rH hi] at this
theorem sE {h:Heap} {vs:List Value} {ds kds:List D} (r:bp h vs ds) (h3:ds.length≤3):bp h (az kds vs) (az kds ds):=by
 by_cases h2:ds.length <2
 ·rw [cX h2,cX (r.length▸h2)];exact r
 ·refine cQ (cS kds h2) fun x e=>?_
  refine cQ (cS kds (r.length▸h2)) fun y e2=>?_
  rw [e,e2,r.length]
  have hl:=gG (lt:=bK kds) (n:=ds.length) (Nat.le_of_not_lt h2) h3
  revert hl
  generalize dw ds.length (bK kds)=l
  intro hl
  induction l with
  |nil=>exact .nil
  |cons i l ih=>
   rw [List.map_cons,List.map_cons]
   exact .cons (Gr r (hl i (List.mem_cons_self ..))) (ih fun j hj=>hl j (List.mem_cons_of_mem _ hj))
theorem dW {α:Type} {kds:List D} {xs:List α} (h3:xs.length≤3):(az kds xs).length=xs.length:=by
 by_cases h2:xs.length <2
 ·rw [cX h2]
 ·refine cQ (cS kds h2) fun x e=>?_
  rw [e,List.length_map,Ao (Nat.le_of_not_lt h2) h3]
theorem dI {h:Heap} {a b:Addr} {o:Obj} {f:Obj→Obj} (n:b≠a) (e:h.get? b=some o):(h.update a f).get? b=some o:=(Heap.get?_update_other _ _ (Ne.symm n)).trans e
theorem y9 {h:Heap} {a:Addr} {vs:List Value} {n:Nat} {f:Obj→Obj} (e:h.get? a=some (bh vs n)):bl h (h.update a f):=fun b ws k eb=>dI (fun q=>by rw [q,e] at eb;exact ia eb.symm (fun z=>absurd (Value.type.inj z) (by decide)) (fun z=>absurd (Value.type.inj z) (by decide))) eb
variable {src fa:Addr}
section
variable {w:World} {E:Value→Shared→Prop} {kds:List D}
noncomputable def Ph (w:World) (A:Around) (src:Addr) (ds:List D) (h:Heap):Prop:=
 ∀(s:Shared) (Q:List Value→Shared→Prop) (E:Value→Shared→Prop),Sub h s.heap→(∀h' tk vs,Sub s.heap h'→bp h' vs ds→Q vs (sh s h' tk))→wpAny (model pw w) A (collect (.ref src)) Q E s
theorem vW {h:Heap} (L:cN h src ds) (hz:ds.length≤1000):Ph w A src ds h:=by
 intro s Q E k q
 refine ao (L.sub k) fun vs n e r=>?_
 refine collect_list (bL e) ?_ (by first |(refine bR (k:=2000) ?_;rw [r.length];exact Nat.le_trans hz lr) |(rw [r.length,sizeLine_eq];lia))
 have k1:Sub s.heap ((s.heap.push (seqObj "list" #[] 0)).update s.heap.objs.size (Obj.mapSeq (· ++vs.toArray))):=fun b o eb=>dI (Nat.ne_of_lt (Heap.lt_size eb)) (Heap.get?_push_of_some _ eb)
 exact q _ s.toks vs k1 (r.mono k1.t)
theorem By {h:Heap} (hh:A.handled=none) (lo:(src==sysModules)=false) (L:Mq h src ds) (hz:ds.length≤1000):Ph w A.in1 src ds h:=by
 intro s Q E k q
 refine ao L fun ks ep R r=>?_
 refine kdu_collect (A:=A.in1) (BB (w:=w) lo) hh (R.at fun o e=>k _ _ e) (by first |(refine bR (k:=2000) ?_;rw [r.length];exact Nat.le_trans hz lr) |(rw [r.length,sizeLine_eq];lia)) fun h' tk acc hk hacc=>?_
 rw [uU (P:=fun i v=>ks[i]? =some v) hacc]
 exact q h' tk ks hk ((r.mono k.t).mono (Sub.t hk))
theorem ji (hu:A.units+50 <cLine) (c:Ph w A.in1 src ds s.heap) (ok:dO ds) (h3:ds.length≤3):
  bg w A (call (.builtin "sorted") [.ref src]) s fun v h'=>Sub s.heap h'∧∃a,v= .ref a∧cN h' a (az ds ds)∧s.heap.get? a=none:=by
 intro Q E q
 refine Calls.call_function_entry kind_sorted plain_sorted entry_sorted (args_sorted1 _) ?_
 unfold Builtin.«sorted»
 refine wpAny_bind (m:=checkCount "sorted" 1 1 _) (wpAny_pure ?_)
 refine wpAny_bind (c s _ _ Sub.rfl' fun h1 tk vs k1 r=>?_)
 have hl:=r.length
 refine wpAny_bind (wpAny_newList ?_ (by first |(refine bR (k:=2000) ?_;rw [hl];exact Nat.le_trans h3 lr) |(rw [hl,sizeLine_eq];lia)))
 have hoL:(h1.push (bh vs 0)).get? h1.objs.size=some (bh vs 0):=Heap.get?_push_size _ rfl
 refine wpAny_bind (wpAny_holding (wpAny_call_entry slot_list_sort (a9 _ hoL rfl) entry_list_sort ?body (args_list_sort _)))
 case body=>
  rw [list_sort_plain]
  refine wpAny_bind (listItems_at hoL rfl ?_)
  refine wpAny_bind (listUpdate_at hoL rfl ?_ (by first |(refine bR (k:=2000) ?_;rw [List.size_toArray];exact zH hl h3 lr) |(rw [List.size_toArray,sizeLine_eq];lia)) (Nat.zero_le _))
  obtain ⟨e1,ho1⟩:∃e1,((h1.push (bh vs 0)).update h1.objs.size (Obj.mapSeq fun V=>(#[]:Array Value))).get? h1.objs.size=some (bh [] e1):=⟨_,get?_update_seq hoL fun V=> #[]⟩
  refine wpAny_bind (seqEpoch_at ho1 rfl ?_)
  refine wpAny_bind (wpAny_newTuple ?_ (by show vs.length≤_;rw [hl,sizeLine_eq];exact Nat.le_trans h3 lr))
  refine wpAny_bind (wpAny_newList ?_ (Nat.zero_le _))
  refine wpAny_holding ?_
  have kA:Sub h1 ((h1.push (bh vs 0)).update h1.objs.size (Obj.mapSeq fun V=>(#[]:Array Value))):=fun b o eb=>dI (Nat.ne_of_lt (Heap.lt_size eb)) (Heap.get?_push_of_some _ eb)
  have kB:Sub ((h1.push (bh vs 0)).update h1.objs.size (Obj.mapSeq fun V=>(#[]:Array Value))) ((((h1.push (bh vs 0)).update h1.objs.size (Obj.mapSeq fun V=>(#[]:Array Value))).push (e7 vs 0)).push (bh [] 0)):=(Sub.push _).trans (Sub.push _)
  have ho2:=kB _ _ ho1
  have k3:=kA.trans kB
  show wpAny (model pw w) A.in1.in1 _ _ _ {s with heap:=(((h1.push (bh vs 0)).update h1.objs.size (Obj.mapSeq fun V=>(#[]:Array Value))).push (e7 vs 0)).push (bh [] 0),toks:=tk}
  generalize (((h1.push (bh vs 0)).update h1.objs.size (Obj.mapSeq fun V=>(#[]:Array Value))).push (e7 vs 0)).push (bh [] 0)=h4 at ho2 k3 ⊢
  have r4:=r.mono k3.t
  refine vb (A:=A.in1.in1) (ks:=vs) (vs:=vs) (kds:=ds) (f:=fun st=>do
   let sorted:=(arrOf st).map (·.2)
   let touched:=(←seqEpoch h1.objs.size) !=e1
   Builtin.List.listUpdate (.ref h1.objs.size) fun V=>sorted
   if let some e:=failedOf st then rule "list.sort.comparison-raised";throw e
   if touched then rule "list.sort.modified";raiseError "ValueError" "list modified during sort"
   ret .none) (by show A.units+1+1+40 <cLine;exact Kw hu lr) r4 ok hl.symm (zH hl h3 lr) fun st e1' e2=>?_
  dsimp only
  rw [e1',e2]
  refine wpAny_bind (seqEpoch_at ho2 rfl ?_)
  have hz:(az ds vs).toArray.size≤3:=by rw [List.size_toArray,dW (zH hl h3 lr)];exact zH hl h3 lr
  refine wpAny_bind (listUpdate_at ho2 rfl ?_ (Nat.zero_le _) (by show (az ds vs).toArray.size≤_;rw [sizeLine_eq];exact Nat.le_trans hz lr))
  simp only [bne_self_eq_false,Bool.false_eq_true,if_false]
  obtain ⟨c2,hc2⟩:∃c2,(h4.update h1.objs.size (Obj.mapSeq fun V=>(az ds vs).toArray)).get? h1.objs.size=some (bh (az ds vs) c2):=⟨_,get?_update_seq ho2 fun V=>(az ds vs).toArray⟩
  refine wpAny_pure (a9 _ rfl ?_)
  have kF:Sub h1 (h4.update h1.objs.size (Obj.mapSeq fun V=>(az ds vs).toArray)):=fun b o eb=>dI (Nat.ne_of_lt (Heap.lt_size eb)) (k3 _ _ eb)
  refine wpAny_pure (a9 _ rfl (q _ _ tk (fA (k1.trans kF) _ rfl (fZ (az ds vs) c2 hc2 (sE (r4.mono (y9 ho2)) h3)) ?_)))
  cases z:s.heap.get? h1.objs.size with
  |none=>rfl
  |some o=>exact absurd (Heap.lt_size (k1 _ _ z)) (Nat.lt_irrefl _)
theorem bp.app1 {h:Heap} {vs:List Value} {ds:List D} {v:Value} {d:D} (r:bp h vs ds) (a:RD h v d):bp h (vs++ [v]) (ds++ [d]):=r.append (.cons a .nil)
theorem zu (hu:A.units+50 <cLine) (c:Ph w A.in1 src ds s.heap) (ok:dO kds) (hlk:kds.length=ds.length) (h3:ds.length≤3)
  (turn:∀(j:Nat) (d k:D),ds[j]? =some d→kds[j]? =some k→Fn w A.in1.in1 s.heap fa [d] k):
  bg w A (call (.builtin "sorted") [.ref src] [("key",.ref fa)]) s fun v h'=>Sub s.heap h'∧∃a,v= .ref a∧cN h' a (az kds ds)∧s.heap.get? a=none:=by
 intro Q E q
 refine call_function_entry_kw kind_sorted plain_sorted entry_sorted (ksk_s1 _ _) ?_
 unfold Builtin.«sorted»
 refine wpAny_bind (m:=checkCount "sorted" 1 1 _) (wpAny_pure ?_)
 refine wpAny_bind (c s _ _ Sub.rfl' fun h1 tk vs k1 r=>?_)
 have hl:=r.length
 refine wpAny_bind (wpAny_newList ?_ (by first |(refine bR (k:=2000) ?_;rw [hl];exact Nat.le_trans h3 lr) |(rw [hl,sizeLine_eq];lia)))
 have hoL:(h1.push (bh vs 0)).get? h1.objs.size=some (bh vs 0):=Heap.get?_push_size _ rfl
 refine wpAny_bind (wpAny_holding (wpAny_call_entry_kw slot_list_sort (a9 _ hoL rfl) entry_list_sort ?body (ksk_l1 _ _)))
 case body=>
  show wpAny (model pw w) A.in1.in1 (Builtin.«list.sort» ⟨[.ref h1.objs.size],[("key",.ref fa)]⟩) _ _ _
  rw [ksk_t1]
  unfold ksk_tree
  refine wpAny_bind (listItems_at hoL rfl ?_)
  refine wpAny_bind (listUpdate_at hoL rfl ?_ (by first |(refine bR (k:=2000) ?_;rw [List.size_toArray];exact zH hl h3 lr) |(rw [List.size_toArray,sizeLine_eq];lia)) (Nat.zero_le _))
  obtain ⟨e1,ho1⟩:∃e1,((h1.push (bh vs 0)).update h1.objs.size (Obj.mapSeq fun V=>(#[]:Array Value))).get? h1.objs.size=some (bh [] e1):=⟨_,get?_update_seq hoL fun V=> #[]⟩
  refine wpAny_bind (seqEpoch_at ho1 rfl ?_)
  refine wpAny_bind (wpAny_newTuple ?_ (by show vs.length≤_;rw [hl,sizeLine_eq];exact Nat.le_trans h3 lr))
  refine wpAny_bind (wpAny_newList ?_ (Nat.zero_le _))
  refine wpAny_holding ?_
  have kA:Sub h1 ((h1.push (bh vs 0)).update h1.objs.size (Obj.mapSeq fun V=>(#[]:Array Value))):=fun b o eb=>dI (Nat.ne_of_lt (Heap.lt_size eb)) (Heap.get?_push_of_some _ eb)
  have hk2:((((h1.push (bh vs 0)).update h1.objs.size (Obj.mapSeq fun V=>(#[]:Array Value))).push (e7 vs 0)).push (bh [] 0)).get? (((h1.push (bh vs 0)).update h1.objs.size (Obj.mapSeq fun V=>(#[]:Array Value))).push (e7 vs 0)).objs.size=some (bh [] 0):=Heap.get?_push_size _ rfl
  have kB:Sub ((h1.push (bh vs 0)).update h1.objs.size (Obj.mapSeq fun V=>(#[]:Array Value))) ((((h1.push (bh vs 0)).update h1.objs.size (Obj.mapSeq fun V=>(#[]:Array Value))).push (e7 vs 0)).push (bh [] 0)):=(Sub.push _).trans (Sub.push _)
  have hlt:(((h1.push (bh vs 0)).update h1.objs.size (Obj.mapSeq fun V=>(#[]:Array Value))).push (e7 vs 0)).objs.size=h1.objs.size+2:=by rw [size_push',Heap.size_update,size_push']
  have ho2:=kB _ _ ho1
  have k3:=kA.trans kB
  show wpAny (model pw w) A.in1.in1 (ksk_rest h1.objs.size (.ref fa) false vs.toArray e1 (.ref (((h1.push (bh vs 0)).update h1.objs.size (Obj.mapSeq fun V=>(#[]:Array Value))).push (e7 vs 0)).objs.size)) _ _ {s with heap:=(((h1.push (bh vs 0)).update h1.objs.size (Obj.mapSeq fun V=>(#[]:Array Value))).push (e7 vs 0)).push (bh [] 0),toks:=tk}
  generalize (((h1.push (bh vs 0)).update h1.objs.size (Obj.mapSeq fun V=>(#[]:Array Value))).push (e7 vs 0)).objs.size=kS at hk2 hlt ⊢
  generalize (((h1.push (bh vs 0)).update h1.objs.size (Obj.mapSeq fun V=>(#[]:Array Value))).push (e7 vs 0)).push (bh [] 0)=h4 at ho2 k3 hk2 ⊢
  generalize ea:h1.objs.size=a at*
  have naK:a≠kS:=by lia
  have old:∀b o,h1.get? b=some o→b≠a∧b≠kS:=fun b o eb=>by
   have h:=Heap.lt_size eb
   rw [ea] at h
   exact ⟨Nat.ne_of_lt h,Nat.ne_of_lt (by rw [hlt];exact Nat.lt_of_lt_of_le h (Nat.le_add_right _ _))⟩
  unfold ksk_rest
  refine wpAny_bind (wpAny_rule ?_)
  rw [←Array.forIn_toList]
  simp only [List.toList_toArray]
  refine wpAny_bind (ksk_fold (fun j s'=>∃h tk ks e,s'=(sh s h tk)∧Sub h1 h∧h.get? kS=some (bh ks e)∧h.get? a=some (bh [] e1)∧bp h ks (kds.take j)) vs 0 _ (lz h4 tk [] 0 rfl k3 hk2 ho2 (by simp;exact .nil)) (fun j x s' hx=>?_) fun s'=>?_)
  ·rw [Nat.zero_add]
   intro zq
   obtain ⟨h,tk1,ks,e,rfl,kh,hk,ha,rk⟩:=zq
   have hj:j <vs.length:=(List.getElem?_eq_some_iff.mp hx).1
   refine ab (bp.at r (i:=j) (v:=x) (by simpa using hx)) fun d hd rd=>?_
   have hkd:kds[j]? =some (kds[j]'(by lia)):=List.getElem?_eq_getElem _
   refine wpAny_bind (wpAny_attempt (turn j d _ hd hkd (sh s h tk1) [x] (k1.trans kh) (.cons (rd.mono kh.t) .nil) _ _ fun u h5 t5=>av fun k5 r5=>?_))
   dsimp only
   have hk5:=k5 _ _ hk
   have ha5:=k5 _ _ ha
   have hkl:ks.length≤3:=by rw [rk.length,List.length_take];lia
   refine wpAny_bind (listUpdate_at hk5 rfl ?_ (by first |(refine bR (k:=2000) ?_;rw [List.size_toArray];exact Nat.le_trans hkl lr) |(rw [List.size_toArray,sizeLine_eq];lia)) (Nat.le_trans (Nat.le_of_eq (Array.size_push ..)) (by first |(refine bR (k:=2000) ?_;rw [List.size_toArray];lia) |(rw [List.size_toArray,sizeLine_eq];lia))))
   have eA:(List.toArray ks).push u=List.toArray (ks++ [u]):=by simp
   obtain ⟨c2,hc2⟩:∃c2,(h5.update kS (Obj.mapSeq (·.push u))).get? kS=some (bh (ks++ [u]) c2):=⟨_,by delta bh;rw [←eA];exact get?_update_seq hk5 (·.push u)⟩
   refine wpAny_pure ⟨rfl,_,t5,ks++ [u],c2,rfl,fun b o eb=>dI (old b o eb).2 (k5 _ _ (kh _ _ eb)),hc2,dI naK ha5,?_⟩
   rw [List.take_add_one,hkd]
   exact ((rk.mono k5.t).app1 r5).mono (y9 hk5)
  ·rw [Nat.zero_add]
   intro zq
   obtain ⟨h,tk1,ks,e,rfl,kh,hk,ha,rk⟩:=zq
   have rk':bp h ks kds:=by rwa [List.take_of_length_le (by lia)] at rk
   skip
   refine wpAny_bind (listItems_at hk rfl ?_)
   unfold ksk_end
   rw [if_neg Bool.false_ne_true]
   refine vb (A:=A.in1.in1) (ks:=ks) (vs:=vs) (kds:=kds) (f:=fun st=>ksk_tail a false e1 (.ref kS) st) (by show A.units+1+1+40 <cLine;exact Kw hu lr) rk' ok (by lia) (zH hl h3 lr) fun st e1' e2=>?_
   unfold ksk_tail
   rw [e1',e2]
   refine wpAny_bind (listUpdate_at hk rfl ?_ (by first |(refine bR (k:=2000) ?_;rw [List.size_toArray,rk'.length];exact zH hlk h3 lr) |(rw [List.size_toArray,rk'.length,sizeLine_eq];lia)) (Nat.zero_le _))
   refine wpAny_bind (wpAny_letGo ?_)
   have ha6:(h.update kS (Obj.mapSeq fun V=>(#[]:Array Value))).get? a=some (bh [] e1):=dI naK ha
   refine wpAny_bind (seqEpoch_at ha6 rfl ?_)
   have hz:(az kds vs).toArray.size≤3:=by rw [List.size_toArray,dW (zH hl h3 lr)];exact zH hl h3 lr
   refine wpAny_bind (listUpdate_at ha6 rfl ?_ (Nat.zero_le _) (by simp only [Bool.false_eq_true,if_false];rw [sizeLine_eq];exact Nat.le_trans hz lr))
   simp only [bne_self_eq_false,Bool.false_eq_true,if_false]
   obtain ⟨c2,hc2⟩:∃c2,((h.update kS (Obj.mapSeq fun V=>(#[]:Array Value))).update a (Obj.mapSeq fun V=>(az kds vs).toArray)).get? a=some (bh (az kds vs) c2):=⟨_,get?_update_seq ha6 fun V=>(az kds vs).toArray⟩
   have kF:Sub h1 ((h.update kS (Obj.mapSeq fun V=>(#[]:Array Value))).update a (Obj.mapSeq fun V=>(az kds vs).toArray)):=fun b o eb=>dI (old b o eb).1 (dI (old b o eb).2 (kh _ _ eb))
   refine wpAny_pure (a9 _ rfl ?_)
   refine wpAny_pure (a9 _ rfl (q _ _ tk1 (fA (k1.trans kF) _ rfl (fZ (az kds vs) c2 hc2 ((sE r h3).mono kF.t)) ?_)))
   cases z:s.heap.get? a with
   |none=>rfl
   |some o=>exact absurd (Heap.lt_size (k1 _ _ z)) (by rw [ea];exact Nat.lt_irrefl _)
end
variable {dv:D}
section
variable {w:World} {KK:Type} [DecidableEq KK] {c:tx KK} {d a:Addr} {k:KK} {kds:List (KK×D)} {xs:List (KK×Addr×Value)}
noncomputable def Hj (kds:List (KK×D)) (k:KK) (d:D):List (KK×D):=if (fu kds k).isSome then kds.map fun x=>if x.1=k then (x.1,d) else x else kds++ [(k,d)]
noncomputable def rL (kds:List (KK×D)) (k:KK):List (KK×D):=kds.filter fun x=>decide (x.1≠k)
structure cM (w:World) (c:tx KK) (h:Heap) (d:Addr) (kds:List (KK×D)):Prop where
 ex:∃xs,h.DictOfH (bU w c) d xs∧xs.map (·.1)=kds.map (·.1)∧bp h (xs.map (·.2.2)) (kds.map (·.2))
theorem AF (x:h.DictOfH (bU w c) d xs) (t:bl h h') (k:∀o,h.get? d=some o→h'.get? d=some o):h'.DictOfH (bU w c) d xs:=
 bG x fun o es ep ho hc hd he hi hn=>(d9 o es ep (k _ ho) hc hd he (fun y hy=>(hi y hy).mono t) hn)
theorem gS:ng [d] fun h=>cM w c h d kds:=⟨fun h h' X t k=>ar X.ex fun xs x e r=>⟨xs,AF x t (fun o e=>k d (.head _) o e),e,r.mono t⟩,fun h X b hb=>by
 rw [List.mem_singleton.mp hb]
 refine ab X.ex fun xs x V=>?_
 refine cn x fun o V V ho V=>?_
 exact ⟨_,ho⟩⟩
theorem cM.sub (x:cM w c h d kds) (k:Sub h h'):cM w c h' d kds:=gS.sub x k
theorem cM.nodup (x:cM w c h d kds):(kds.map (·.1)).Nodup:=by
 obtain ⟨xs,⟨_,_,_,_,_,_,_,_,n⟩,e,_⟩:=x.ex
 rwa [e] at n
theorem cM.noTup (x:cM w c h d kds):l9 h d:=fun vs n e=>by
 refine g8 x.ex fun xs o es ep ho hc hd V V=>?_
 rw [e] at ho
 exact fW ho hd
theorem F6 {h:Heap} {kds:List (KK×D)} {xs:List (KK×Addr×Value)} (e:xs.map (·.1)=kds.map (·.1)) (r:bp h (xs.map (·.2.2)) (kds.map (·.2))) (k:KK):
  (∀d,fu kds k=some d→∃p,atKey xs k=some p∧RD h p.2 d)∧(fu kds k=none→atKey xs k=none):=Ko (f:=fun v:Addr×Value=>v.2) e r k
theorem cM.at_some (x:cM w c h d kds) (e:fu kds k=some dv):∃xs p,h.DictOfH (bU w c) d xs∧atKey xs k=some p∧RD h p.2 dv:=by
 refine ar x.ex fun xs X e1 r=>?_
 refine ab ((F6 e1 r k).1 _ e) fun p h1 h2=>?_
 exact hZ xs p X h1 h2
theorem cM.at_is (x:cM w c h d kds) (k:KK):∃xs,h.DictOfH (bU w c) d xs∧(atKey xs k).isSome=(fu kds k).isSome∧RD h (((atKey xs k).map (·.2)).getD .none) ((fu kds k).getD .none):=by
 refine ar x.ex fun xs X e1 r=>?_
 refine a9 xs X ?_
 have:=F6 e1 r k
 cases q:fu kds k with
 |none=>rw [this.2 q];exact ⟨rfl,.none⟩
 |some d=>refine ab (this.1 d q) fun v e r=>?_;rw [e];exact ⟨rfl,r⟩
theorem JR {h:Heap} {kds:List (KK×D)} {xs:List (KK×Addr×Value)} (e:xs.map (·.1)=kds.map (·.1)) (r:bp h (xs.map (·.2.2)) (kds.map (·.2))) (rv:RD h v dv) (k:KK):
  (xs.map (putAt k v)).map (·.1)=(kds.map fun x=>if x.1=k then (x.1,dv) else x).map (·.1)∧bp h ((xs.map (putAt k v)).map (·.2.2)) ((kds.map fun x=>if x.1=k then (x.1,dv) else x).map (·.2)):=
 A8 (f:=fun v:Addr×Value=>v.2) (fun kds xs=>(xs.map (putAt k v)).map (·.1)=(kds.map fun x=>if x.1=k then (x.1,dv) else x).map (·.1)∧bp h ((xs.map (putAt k v)).map (·.2.2)) ((kds.map fun x=>if x.1=k then (x.1,dv) else x).map (·.2))) ⟨rfl,.nil⟩ (fun k1 d1 kds x xs V V r1 i=>by
  by_cases q:k1=k
  ·have e1:putAt k v (k1,x)=(k1,x.1,v):=if_pos q
   have e2:(if k1=k then (k1,dv) else (k1,d1))=(k1,dv):=if_pos q
   show (putAt k v (k1,x)).1::_=(if k1=k then (k1,dv) else (k1,d1)).1::_∧bp h ((putAt k v (k1,x)).2.2::_) ((if k1=k then (k1,dv) else (k1,d1)).2::_)
   rw [e1,e2]
   exact ⟨congrArg (k1:: ·) i.1,.cons rv i.2⟩
  ·have e1:putAt k v (k1,x)=(k1,x):=if_neg q
   have e2:(if k1=k then (k1,dv) else (k1,d1))=(k1,d1):=if_neg q
   show (putAt k v (k1,x)).1::_=(if k1=k then (k1,dv) else (k1,d1)).1::_∧bp h ((putAt k v (k1,x)).2.2::_) ((if k1=k then (k1,dv) else (k1,d1)).2::_)
   rw [e1,e2]
   exact ⟨congrArg (k1:: ·) i.1,.cons r1 i.2⟩) kds xs e r
theorem yH (e:xs.map (·.1)=kds.map (·.1)) (r:bp h (xs.map (·.2.2)) (kds.map (·.2))) (rv:RD h v dv) (X:h.DictOfH (bU w c) d (storedH xs k a v)):cM w c h d (Hj kds k dv):=by
 have:=F6 e r k
 refine ⟨(a9 _ X ?_)⟩
 unfold storedH Hj
 cases q:fu kds k with
 |none=>
  rw [this.2 q,if_neg (by decide),if_neg (by decide),List.map_append,List.map_append,List.map_append,List.map_append,e]
  exact ⟨rfl,r.append (.cons rv .nil)⟩
 |some u=>
  refine ab (this.1 u q) fun p e2 V=>?_
  rw [e2,if_pos (by rfl),if_pos (by rfl)]
  exact JR e r rv k
theorem vF {xs:List (KK×Addr×Value)} {kds:List (KK×D)} {j:Nat} {p:Addr×Value} (e:xs.map (·.1)=kds.map (·.1)) (n:(xs.map (·.1)).Nodup) (hj:xs[j]? =some (k,p)) (r:bp h (xs.map (·.2.2)) (kds.map (·.2))):
  (xs.eraseIdx j).map (·.1)=(rL kds k).map (·.1)∧bp h ((xs.eraseIdx j).map (·.2.2)) ((rL kds k).map (·.2)):=
 A8 (f:=fun v:Addr×Value=>v.2) (fun kds xs=>∀j,(xs.map (·.1)).Nodup→xs[j]? =some (k,p)→(xs.eraseIdx j).map (·.1)=(rL kds k).map (·.1)∧bp h ((xs.eraseIdx j).map (·.2.2)) ((rL kds k).map (·.2))) (fun V V hj=>noA hj) (fun k1 d1 kds x xs e r r1 i j n hj=>by
  have n:=List.nodup_cons.mp n
  cases j with
  |zero=>
   have ek:k1=k:=congrArg Prod.fst (Option.some.inj hj)
   have:rL ((k1,d1)::kds) k=kds:=(List.filter_cons_of_neg (by simpa using ek)).trans (List.filter_eq_self.mpr fun x hx=>decide_eq_true fun q=>n.1 (by rw [e];exact (q.trans ek.symm)▸List.mem_map_of_mem hx))
   rw [this]
   exact ⟨e,r⟩
  |succ j=>
   have hne:k1≠k:=fun q=>n.1 (by rw [q];exact List.mem_map_of_mem (f:=(·.1)) (List.mem_of_getElem? (show xs[j]? =some (k,p) from hj)))
   have:rL ((k1,d1)::kds) k=(k1,d1)::rL kds k:=List.filter_cons_of_pos (by simpa using hne)
   rw [this]
   exact ⟨congrArg (k1:: ·) (i j n.2 hj).1,.cons r1 (i j n.2 hj).2⟩) kds xs e r j n hj
theorem cM.dks (x:cM w c h d kds):Mq h d (kds.map fun x=>c.enc x.1):=by
 obtain ⟨xs,⟨o,es,ep,ho,hc,hd,he,hi,hn⟩,e,r⟩:=x.ex
 clear x hn
 refine fZ (xs.map (fun x=>.ref x.2.1)) ep (dm o es ho hc hd (by rw [he,List.map_map];rfl)) ?_
 clear he hd ho r
 induction xs generalizing kds with
 |nil=>cases kds with
  |nil=>exact .nil
  |cons=>simp at e
 |cons x xs ih=>cases kds with
  |nil=>simp at e
  |cons y kds=>
   simp only [List.map_cons,List.cons.injEq] at e
   exact .cons (by show RD h _ (c.enc y.1);rw [←e.1];exact hi x (List.mem_cons_self ..)) (ih (fun z hz=>hi z (List.mem_cons_of_mem _ hz)) e.2)
theorem nh.dks {kds:List (Int×D)} (x:nh (intKind pw w) h d kds):Mq h d (kds.map fun x=>.int x.1):=by
 obtain ⟨kvs,⟨o,es,ep,ho,hc,hd,hk,hp,hn⟩,e,r⟩:=x.ex
 refine fZ (es.toList.map (·.key)) ep (dm o es ho hc hd rfl) ?_
 clear r hn hk hd ho
 generalize es.toList=l at hp
 have hkey:bp h (l.map (·.key)) (kvs.map fun x=>.int x.1):=by
  clear e
  induction hp with
  |nil=>exact .nil
  |cons h1 h2 _ ih=>
   refine cQ (Value.isInt_shape h1) fun t ht=>?_
   rw [List.map_cons,List.map_cons,ht]
   exact .cons (.int _ _) ih
 rw [show (kds.map fun x=>D.int x.1)=kvs.map fun x=>.int x.1 by
  have e1:(kds.map fun x=>D.int x.1)=(kds.map (·.1)).map D.int:=by rw [List.map_map];rfl
  rw [e1,←e,List.map_map];rfl]
 exact hkey
end
section
variable {w:World}
theorem iy {hO:Heap} {tO:Nat} {pl:Sem Bool} (n6:Slot T name id) (ty:typeOf (.builtin id)=pure (.type "method_descriptor")) (pa:PlainAttrs T)
  (h:bg w A (eval o env) (sh s hO tO) fun ov h1=>(∃a ob,ov= .ref a∧h1.get? a=some ob∧ob.cls= .type T∧ob.dict=none)∧∀t1,bg w A (spliced (backTo pos (starEach (e::r) env))) (sh s h1 t1) fun vs h2=>∀t2,bg w A (call (.builtin id) (ov::vs)) (sh s h2 t2) R)
  (he:autoParam (starEach (e::r) env=(false,eval e env)::starEach r env) aR) (hpl:autoParam ((backTo pos (starEach r env)).any (·.1)=false) aE)
  (hm:autoParam (eval (.Call (.Attribute o name p1) (e::r) [] pos) env=(do
   let ov←eval o env
   standAt p1.atName
   let (f,first)←holding [ov] (getMethod ov name pl)
   callWith pos f first (backTo pos (starEach (e::r) env)) [])) aR):bg w A (eval (.Call (.Attribute o name p1) (e::r) [] pos) env) (sh s hO tO) R:=by
 intro Q E q
 refine MethodCall_ (pl:=pl) (h _ _ fun ov h1 t1=>qY fun a ob e' ho hc hd z=>?_) hm
 subst e'
 refine getMethod_builtin (a9 ob ho hc) pa n6 ty (fun b e=>by cases e;exact a9 ob ho hd) ?_
 have z':=z t1
 rw [he] at z' ⊢
 refine callWith_builtin (by show (false||(backTo pos (starEach r env)).any (·.1))=false;rw [hpl];rfl) (evalArgs_plain (z' _ _ fun vs h2 t2 y=>?_))
 exact y t2 Q E q
end
section
variable {w:World} {d a:Addr} {KK:Type} [DecidableEq KK] {c:tx KK} {kds:List (KK×D)} {k:KK}
theorem js {α β:Type} (f:α→β):∀(l:List α) (j:Nat),(l.eraseIdx j).map f=(l.map f).eraseIdx j
 | [],_=>rfl
 |_::_,0=>rfl
 |x::l,j+1=>by simp only [List.eraseIdx_cons_succ,List.map_cons,js f l j]
theorem cM.obj (x:cM w c s.heap d kds):∃ob,s.heap.get? d=some ob∧ob.cls= .type "dict"∧ob.dict=none:=by
 refine jJ x.ex fun xs o es ep ho hc V V=>?_
 exact cb o ho hc.1 hc.2.1
theorem SameBut.kp {h h':Heap} {d:Addr} (hs:Heap.SameBut d h h'):cv [d] h h':=fun b o hb e=>(hs.2 b (by simpa using hb)).trans e
theorem cM.tsub {h h':Heap} {d:Addr} {kds:List (KK×D)} (x:cM w c h d kds) (hs:Heap.SameBut d h h'):bl h h':=(SameBut.kp hs).t fun b hb=>by rw [List.mem_singleton.mp hb];exact x.noTup
noncomputable def Ni (kds:List (KK×D)) (k:KK) (dv:D):List (KK×D):=if (fu kds k).isSome then kds else kds++ [(k,dv)]
theorem Lw {E:Value→Shared→Prop} {xs:List (KK×Addr×Value)} {dflt:Value} {Q:Value→Shared→Prop} (hu:A.units+17 <cLine) (hk:RD s.heap (.ref a) (c.enc k)) (X:s.heap.DictOfH (bU w c) d xs) (hsz:xs.length≤sizeLine)
  (q1:∀p,atKey xs k=some p→Q p.2 {s with toks:=s.toks+(bU w c).draws k})
  (q2:atKey xs k=none→∀h',h'.DictOfH (bU w c) d (storedH xs k a dflt)→Heap.SameBut d s.heap h'→Q dflt (sh s h' (s.toks+(bU w c).draws k))):
  wpAny (model pw w) A (dictSetDefault d (.ref a) dflt) Q E s:=by
 have hkey:(bU w c).is s.heap k a:=hk
 refine bG X fun o es ep ho hc hd he his hn=>?_
 unfold dictSetDefault
 refine wpAny_holding ?_
 refine wpAny_bind ((bU w c).pyHash hu hkey ?_)
 refine wpAny_bind (wpAny_dictFind_heap (knd:=bU w c) (s:={s with toks:=s.toks+(bU w c).draws k}) hu hkey ho hd he his hn ?_ ?_)
 ·intro hno
  have hnot:k∉xs.map (·.1):=not_mem_keys_of_get hno
  refine wpAny_bind (wpAny_rule (wpAny_bind (wpAny_updateDictKeys (hz:=by have e:=size_of_entries he;exact zH e hsz lr) (s:={s with toks:=s.toks+(bU w c).draws k}) ho hd (wpAny_pure (q2 (atKey_none_of_get hno) _ (d9 _ _ (ep+1) (Heap.get?_update_self _ ho (Obj.isFreed_of_dict (Obj.data_mapDictKeys hd _))) (hc.mapDictKeys _) (Obj.data_mapDictKeys hd _) ?_ ?_ ?_) (Heap.SameBut.update ..))))))
  ·rw [storedH_new (atKey_none_of_get hno)]
   simp [he,entryOfKey]
  ·rw [storedH_new (atKey_none_of_get hno)]
   intro x hx
   rcases List.mem_append.mp hx with hx |hx
   ·exact (bU w c).keeps (his x hx) ho hd (Heap.SameBut.update ..)
   ·simp only [List.mem_singleton] at hx
    subst hx
    exact (bU w c).keeps hkey ho hd (Heap.SameBut.update ..)
  ·rw [storedH_new (atKey_none_of_get hno),List.map_append,List.nodup_append]
   refine ⟨hn,by simp,?_⟩
   intro x hx y hy
   simp only [List.map_cons,List.map_nil,List.mem_singleton] at hy
   subst hy
   exact fun e=>hnot (e▸hx)
 ·intro j p hj
  refine wpAny_bind (wpAny_dictEntries (s:={s with toks:=s.toks+(bU w c).draws k}) ho hd ?_)
  rw [entry_at he j,hj]
  exact wpAny_bind (wpAny_rule (wpAny_pure (q1 p (atKey_of_get hn hj))))
theorem JN (R:Rm n A) (x:cM w c s.heap d kds) (hd:(d==sysModules)=false) (hk:RD s.heap (.ref a) (c.enc k)) (rv:RD s.heap v dv) (hz:kds.length≤1000):
  bg w A (call (.builtin "dict.setdefault") [.ref d,.ref a,v]) s fun u h'=>cv [d] s.heap h'∧bl s.heap h'∧cM w c h' d (Ni kds k dv)∧RD h' u ((fu kds k).getD dv):=by
 intro Q E q
 refine ar x.ex fun xs X e r=>?_
 have hT:s.TypeIs (.ref d) "dict":=ar x.obj fun ob h1 h2 V=>(a9 ob h1 h2)
 have hal:=F6 e r k
 have hl:xs.length=kds.length:=by have:=congrArg List.length e;simpa using this
 refine wpAny_call_entry F.slot_dict_setdefault hT F.entry_dict_setdefault ?_ (F.args_dict_setdefault_3 _ _ _)
 unfold Builtin.«dict.setdefault»
 refine wpAny_bind ?_
 unfold Builtin.Dict.keyAndDefault
 refine wpAny_bind (wpAny_notOrdered_dict hT ?_)
 show wpAny _ _ (pure (d,Value.ref a,some v)) _ _ s
 refine wpAny_pure ?_
 show wpAny _ _ (if (d==sysModules)=true then _ else (dictSetDefault d (.ref a) v >>= _)) _ _ s
 rw [if_neg (by rw [hd];exact Bool.false_ne_true)]
 refine wpAny_bind (Lw (w:=w) (c:=c) (k:=k) (by show A.units+1+17 <cLine;have:=R.u;exact kQ this lr) hk X (by first |(refine bR (k:=2000) ?_;rw [hl];exact Nat.le_trans hz lr) |(rw [hl,sizeLine_eq];omega)) (fun p hp=>?_) fun hn h' X' hs=>?_)
 ·refine wpAny_pure (a9 _ rfl (q _ s.heap _ (l6 (fun V V V e=>e) (fun V V V e=>e) ?_ ?_)))
  ·unfold Ni
   cases z:fu kds k with
   |none=>exact u5 (hal.2 z) hp
   |some u=>rw [if_pos (by rfl)];exact x
  ·cases z:fu kds k with
   |none=>exact u5 (hal.2 z) hp
   |some u=>
    refine ab (hal.1 u z) fun p' h1 h2=>?_
    rw [hp] at h1;cases h1
    exact h2
 ·have tt:=x.tsub hs
  have z:fu kds k=none:=by
   cases z:fu kds k with
   |none=>rfl
   |some u=>refine ab (hal.1 u z) fun p h1 V=>?_;exact u5 hn h1
  have key:=yH (c:=c) (k:=k) (dv:=dv) e (r.mono tt) (rv.mono tt) X'
  refine wpAny_pure (a9 _ rfl (q _ h' _ (l6 (SameBut.kp hs) tt ?_ ?_)))
  ·unfold Ni Hj at*
   rw [z] at key ⊢
   exact key
  ·rw [z];exact rv.mono tt
theorem Hm (R:Rm n A) (x:cM w c s.heap d kds) (hd:(d==sysModules)=false) (hk:RD s.heap (.ref a) (c.enc k)):
  bg w A (call (.builtin "dict.get") [.ref d,.ref a]) s fun u h'=>Sub s.heap h'∧RD h' u ((fu kds k).getD .none):=by
 intro Q E q
 refine ar (x.at_is k) fun xs X e1 e2=>?_
 refine call_meetsIn F.slot_dict_get X.typeIs F.entry_dict_get (F.args_dict_get_2 _ _) (meetsH_dict_get (bU w c) d a hd) (o6 (by show A.units+1+17 <cLine;have:=R.u;exact kQ this lr) k xs hk X ?_)
 exact q _ s.heap _ ⟨Sub.rfl',e2⟩
theorem Fz (R:Rm n A) (x:cM w c s.heap d kds) (hk:RD s.heap (.ref a) (c.enc k)) (hs:(fu kds k).isSome=true) (hz:kds.length≤1000):
  bg w A (call (.builtin "dict.pop") [.ref d,.ref a]) s fun u h'=>cv [d] s.heap h'∧bl s.heap h'∧cM w c h' d (rL kds k)∧RD h' u ((fu kds k).getD .none):=by
 intro Q E q
 refine ar x.ex fun xs X e r=>?_
 have hT:s.TypeIs (.ref d) "dict":=ar x.obj fun ob h1 h2 V=>(a9 ob h1 h2)
 have hal:=F6 e r k
 have hl:xs.length=kds.length:=by have:=congrArg List.length e;simpa using this
 have hu:(bU w c).room A.in1:=by show A.units+1+17 <cLine;have:=R.u;exact kQ this lr
 have hkey:(bU w c).is s.heap k a:=hk
 refine bG X fun o es ep ho hc hd he his hn=>?_
 refine wpAny_call_entry F.slot_dict_pop hT F.entry_dict_pop ?_ (F.args_dict_pop_2 _ _)
 unfold Builtin.«dict.pop»
 refine wpAny_bind ?_
 unfold Builtin.Dict.keyAndDefault
 refine wpAny_bind (wpAny_notOrdered_dict hT ?_)
 show wpAny _ _ (pure (d,Value.ref a,none)) _ _ s
 refine wpAny_pure ?_
 dsimp only
 rw [if_neg (show ¬(keyPart (Value.ref a)).isSome=true from Bool.false_ne_true)]
 refine wpAny_bind (wpAny_dictEntries ho hd (wpAny_bind (wpAny_pure ?_)))
 have hne:es.isEmpty=false:=by
  have h1:=size_of_entries he
  cases kds with
  |nil=>simp [fu] at hs
  |cons y kds=>rw [hl] at h1;simp only [List.length_cons] at h1;simp only [Array.isEmpty];rw [h1];simp
 rw [hne]
 rw [if_neg Bool.false_ne_true]
 unfold Builtin.Dict.takeOut
 refine wpAny_bind (wpAny_holding ?_)
 refine wpAny_bind ((bU w c).pyHash hu hkey ?_)
 refine wpAny_bind (wpAny_dictFind_heap (knd:=bU w c) (s:={s with toks:=s.toks+(bU w c).draws k}) hu hkey ho hd he his hn ?_ ?_)
 ·intro hno
  have:=atKey_none_of_get hno
  cases z:fu kds k with
  |none=>rw [z] at hs;cases hs
  |some u=>refine ab (hal.1 u z) fun p h1 V=>?_;exact u5 this h1
 ·intro j p hj
  have hjl:j <es.size:=by rw [size_of_entries he];exact (List.getElem?_eq_some_iff.mp hj).1
  refine wpAny_bind (wpAny_dictEntries (s:={s with toks:=s.toks+(bU w c).draws k}) ho hd ?_)
  rw [entry_at he j,hj]
  dsimp only [Option.map_some]
  have hsm:=Heap.SameBut.update s.heap d (Obj.mapDictKeys (·.eraseIdxIfInBounds j))
  have hes:(es.eraseIdxIfInBounds j).toList=(xs.eraseIdx j).map (entryOfKey (bU w c)):=by
   rw [Array.eraseIdxIfInBounds,dif_pos hjl,Array.toList_eraseIdx,he]
   exact (js ..).symm
  refine wpAny_bind (wpAny_updateDictKeys (hz:=by have e:=size_of_entries he;rw [e,hl,sizeLine_eq];exact Nat.le_trans hz lr) (hf:=by have:=congrArg List.length hes;have e2:=size_of_entries he;have e3:=List.length_eraseIdx_le (l:=xs) (i:=j);simp only [Array.length_toList,List.length_map] at this;omega) (s:={s with toks:=s.toks+(bU w c).draws k}) ho hd (wpAny_pure ?_))
  have tt:=x.tsub hsm
  have X':(s.heap.update d (Obj.mapDictKeys (·.eraseIdxIfInBounds j))).DictOfH (bU w c) d (xs.eraseIdx j):=
   (d9 _ _ (ep+1) (Heap.get?_update_self _ ho (Obj.isFreed_of_dict (Obj.data_mapDictKeys hd _))) (hc.mapDictKeys _) (Obj.data_mapDictKeys hd _) hes (fun y hy=>(bU w c).keeps (his y (List.mem_of_mem_eraseIdx hy)) ho hd hsm) (by rw [js];exact (List.eraseIdx_sublist ..).nodup hn))
  refine bC (vF e hn hj (r.mono tt)) fun i1 i2=>?_
  simp only [Option.isNone_some,Bool.false_eq_true,if_false]
  refine wpAny_bind (wpAny_letGo ?_)
  refine wpAny_pure (a9 _ rfl (q _ _ _ (l6 (SameBut.kp hsm) tt ⟨_,X',i1,i2⟩ ?_)))
  have hp:=atKey_of_get hn hj
  cases z:fu kds k with
  |none=>exact u5 (hal.2 z) hp
  |some u=>
   refine ab (hal.1 u z) fun p' h1 h2=>?_
   rw [hp] at h1;cases h1
   exact h2.mono tt
end
theorem qc (u:List Int):∀(k:Nat) (n:Int),n≤bH u k n
 |0,n=>Int.le_refl _
 |k+1,n=>by
  unfold bH
  split
  ·have:=qc u k (n+1);lia
  ·exact Int.le_refl _
theorem kz {u v:List Int}:∀(k:Nat) (n:Int),(∀m,n≤m→(m∈u↔m∈v))→bH u k n=bH v k n
 |0,n,_=>rfl
 |k+1,n,h=>by
  unfold bH
  rw [kz k (n+1) fun m hm=>h m (by lia)]
  by_cases c:n∈u
  ·rw [if_pos c,if_pos ((h n (Int.le_refl _)).mp c)]
  ·rw [if_neg c,if_neg (fun q=>c ((h n (Int.le_refl _)).mpr q))]
theorem ik:∀(k:Nat) (u:List Int) (n:Int),u.length≤k→bH u k n∉u
 |0,u,n,h=>by
  have:u= []:=List.length_eq_zero_iff.mp (by lia)
  rw [this];exact mN
 |k+1,u,n,h=>by
  unfold bH
  by_cases c:n∈u
  ·rw [if_pos c]
   have e:bH u k (n+1)=bH (u.erase n) k (n+1):=kz k (n+1) fun m hm=>(List.mem_erase_of_ne (by lia)).symm
   rw [e]
   have:=ik k (u.erase n) (n+1) (by rw [List.length_erase_of_mem c];omega)
   intro q
   have g:=qc (u.erase n) k (n+1)
   exact this ((List.mem_erase_of_ne (by lia)).mpr q)
  ·rw [if_neg c];exact c
theorem xC {w:World} {h:Heap} {x dx:Addr} {fs:List (Str×D)} (P:cA w h) (O:Ob w h x 234 dx fs):h.CmpInst x 234 [.type "object"]:=by
 have k:=P.k
 exact ⟨_,"LacpPort","LacpPort",233,[.type "object"],true,[],[],false,none,none,none,none,some (.str "LacpPort" 409),some (.str "LacpPort" 417),some (.bool true),"object.__new__",_,
  O.inst,rfl,k _ _ (by kernel_rfl),.of_isNs (isNs_of_in k (by kernel_rfl)),nsMap_none_of_in k (by kernel_rfl) (by kernel_rfl),nsMap_none_of_in k (by kernel_rfl) (by kernel_rfl)⟩
theorem DD {w:World} {A:Around} {s:Shared} {x dx y dy:Addr} {fs gs:List (Str×D)} (P:cA w s.heap) (hu:A.units <cLine) (O:Ob w s.heap x 234 dx fs) (O':Ob w s.heap y 234 dy gs):SeqAt.EqAt A s (.ref x) (.ref y) (decide (x=y)):=by
 intro prog w' E Q q
 unfold eqBool
 refine wpAny_holding ?_
 by_cases hxy:x=y
 ·subst hxy
  rw [if_pos (by simp)]
  rw [decide_eq_true rfl] at q
  exact wpAny_bind (wpAny_rule (wpAny_pure q))
 ·rw [if_neg (by simpa using hxy)]
  rw [decide_eq_false hxy] at q
  refine wpAny_bind ?_
  exact richCompare_eq_other F.cmp_object F.cmp_object (xC P O) (xC P O') hxy hu (wpAny_truthy_bool q)
theorem iz {n:Nat}:∀{ds:List D},D.flats n ds=true→∀d∈ds,d.flat n=true
 | [],_,d,h=>by simp at h
 |e::ds,k,d,h=>by
  simp only [D.flats,Bool.and_eq_true] at k
  rcases List.mem_cons.mp h with rfl |h
  ·exact k.1
  ·exact iz k.2 d h
theorem bp.zip_mem {h:Heap} {vs:List Value} {ds:List D} (r:bp h vs ds):∀y∈vs,∃d,(y,d)∈vs.zip ds∧d∈ds∧RD h y d:=
 bp.ind (P:=fun vs ds=>∀y∈vs,∃d,(y,d)∈vs.zip ds∧d∈ds∧RD h y d) (fun V z=>noM z) (fun V V d V a V i y hy=>(List.mem_cons.mp hy).elim (fun e=>cb d (e▸ .head _) (.head _) (e▸a)) fun hy=>ar (i y hy) fun d h1 h2 h3=>cb d (.tail _ h1) (.tail _ h2) h3) r
theorem bp.zip_rd {h:Heap} {vs:List Value} {ds:List D} (r:bp h vs ds):∀y d,(y,d)∈vs.zip ds→d∈ds∧RD h y d:=
 bp.ind (P:=fun vs ds=>∀y d,(y,d)∈vs.zip ds→d∈ds∧RD h y d) (fun V V z=>noM z) (fun v V e V a V i y d hy=>(List.mem_cons.mp hy).elim (fun q=>⟨Prod.mk.inj q |>.2▸ .head _,(Prod.mk.inj q).1▸(Prod.mk.inj q).2▸a⟩) fun hy=>⟨.tail _ (i y d hy).1,(i y d hy).2⟩) r
theorem bp.any {h:Heap} {p:Value→Bool} {q:D→Bool} {vs:List Value} {ds:List D} (r:bp h vs ds):(∀y d,(y,d)∈vs.zip ds→p y=q d)→vs.any p=ds.any q:=
 bp.ind (P:=fun vs ds=>(∀y d,(y,d)∈vs.zip ds→p y=q d)→vs.any p=ds.any q) (fun V=>rfl) (fun v V d V V V i hp=>congr (congrArg or (hp v d (.head _))) (i fun y d hy=>hp y d (.tail _ hy))) r
noncomputable def gx (d:D) (ds:List D):Bool:=ds.any fun e=>D.eqv e d
section
variable {w:World}
open Classical in
theorem Cg {s:Shared} {vs:List Value} {v:Value} (R:Rm n A) (r:bp s.heap vs ds) (rv:RD s.heap v d) (f1:D.flats 9 ds=true) (f2:d.flat 9=true):
  ∃e:Value→Bool,(∀y,y∈vs.toArray→SeqAt.EqAt A.in1 s y v (e y))∧vs.toArray.any e=gx d ds:=by
 let e:Value→Bool:=fun y=>decide (∃d',(y,d')∈vs.zip ds∧D.eqv d' d=true)
 have he:∀y d',(y,d')∈vs.zip ds→e y=D.eqv d' d:=fun y d' hy=>by
  refine bC (r.zip_rd y d' hy) fun m' r'=>?_
  cases c:D.eqv d' d with
  |true=>exact decide_eq_true (a9 d' hy c)
  |false=>
   refine decide_eq_false ?_
   intro zq
   refine ab zq fun d2 h2 c2=>?_
   refine bC (r.zip_rd y d2 h2) fun m2 r2=>?_
   rw [RD.uniqF 9 d2 d' (iz f1 _ m2) (iz f1 _ m') r2 r',c] at c2
   cases c2
 refine a9 e (fun y hy=>?_) ?_
 ·refine ar (r.zip_mem y (by simpa using hy)) fun d' h1 h2 h3=>?_
  rw [he y d' h1]
  refine cQ (h3.reads (iz f1 _ h2)) fun as ra=>?_
  refine cQ (rv.reads f2) fun bs rb=>?_
  have lx:=D.lay (iz f1 _ h2)
  have ly:=D.lay f2
  exact SeqAt.eqAt_reads _ _ A.in1 s _ _ as bs ra rb lx.1 ly.1 (Py R.u (Nat.le_trans lx.2 (Nat.le_of_ble_eq_true rfl)))
 ·rw [List.any_toArray];exact r.any he
theorem gV (R:Rm n A) (L:cN h0 l ds) (f1:D.flats 9 ds=true) (f2:d.flat 9=true):iD w A h0 .In d (.ref l) (gx d ds):=by
 intro s v1 v2 k r1 r2 Q E q
 cases r2
 refine ao (L.sub k) fun vs m e r=>?_
 refine ab (Cg R r r1 f1 f2) fun p h1 h2=>?_
 exact SeqAt.in_listAt p (bL e) h1 (by rw [h2];exact q _ s.heap s.toks ⟨Sub.rfl',rfl⟩)
theorem ie (R:Rm n A) (L:cN h0 l ds) (f1:D.flats 9 ds=true) (f2:d.flat 9=true):iD w A h0 .NotIn d (.ref l) (!gx d ds):=by
 intro s v1 v2 k r1 r2 Q E q
 cases r2
 refine ao (L.sub k) fun vs m e r=>?_
 refine ab (Cg R r r1 f1 f2) fun p h1 h2=>?_
 exact SeqAt.notIn_listAt p (bL e) h1 (by rw [h2];exact q _ s.heap s.toks ⟨Sub.rfl',rfl⟩)
theorem wO {x:Addr} {as:List Addr} (R:Rm n A) (P:cA w h0) (L:cN h0 l (as.map D.ref)) (hx:∃dx fs,Ob w h0 x 234 dx fs) (ha:∀a∈as,∃dx fs,Ob w h0 a 234 dx fs):iD w A h0 .In (.ref x) (.ref l) (as.contains x):=by
 intro s v1 v2 k r1 r2 Q E q
 cases r1
 cases r2
 refine ao (L.sub k) fun vs m e r=>?_
 have hv:vs=as.map Value.ref:=by
  clear e L ha q
  induction as generalizing vs with
  |nil=>cases r;rfl
  |cons a as ih=>cases r with |cons r1 r=>cases r1;rw [List.map_cons,ih _ r]
 subst hv
 refine SeqAt.in_listAt (fun y=>match y with | .ref b=>decide (b=x) |_=>false) (bL e) (fun y hy=>?_) ?_
 ·refine ab (List.mem_map.mp (by simpa using hy:y∈as.map Value.ref)) fun a hm zr5=>?_;subst zr5
  refine fw hx fun dx fs O=>?_
  refine fw (ha a hm) fun da gs O'=>?_
  exact DD (P.keeps k) (by have:=R.u;show A.units+1 <cLine;exact IK this lr) (O'.sub k) (O.sub k)
 ·have:(as.map Value.ref).toArray.any (fun y=>match y with | .ref b=>decide (b=x) |_=>false)=as.contains x:=by
   rw [List.any_toArray,List.any_map,List.contains_eq_any_beq]
   congr 1
   funext b
   simp [Bool.beq_eq_decide_eq,eq_comm,BEq.beq,instBEqOfDecidableEq]
  rw [this]
  exact q _ s.heap s.toks ⟨Sub.rfl',rfl⟩
end
theorem tx.ref {KK:Type} {h:Heap} {v:Value} {k:KK} (c:tx KK) (r:RD h v (c.enc k)):∃a,v= .ref a:=(c.tup k).elim fun V e=>a8 ((e▸r:RD h v (.tup _)).isTup) fun a V V q V V=>⟨a,q⟩
variable {i:Expr} {nd:Addr}
section
variable {w:World} {rest:List Stmt} {KK:Type} [DecidableEq KK] {c:tx KK} {kds:List (KK×D)} {k:KK}
theorem II (hh:A.handled=none) (ha:At env h0 m s.heap) (he:Ev w A env h0 m iter (.ref nd)) (lo:(nd==sysModules)=false) (L:Mq s.heap nd ds) (hl:nd∉M):Kq w A env s iter M ds:=by
 refine (he s ha).mono fun v h1=>av fun k1 r=>⟨k1,fun t1=>?_⟩
 cases r
 refine ao L fun ks ep R r=>?_
 exact (GZ hh lo (fZ ks ep (R.at fun o e=>k1 _ _ e) (r.mono k1.t))).mono fun it h2=>ft fun e k J=>o6 k _ _ e (J.less k1) hl
theorem xT (R:Rm n A) (x:cM w c h0 nd kds) (lo:(nd==sysModules)=false):iD w A h0 .NotIn (c.enc k) (.ref nd) (!(fu kds k).isSome):=by
 intro s v1 v2 k0 r1 r2 Q E q
 cases r2
 refine cQ (c.ref r1) fun a zr6=>?_;subst zr6
 refine ar ((x.sub k0).at_is k) fun xs X e1 V=>?_
 have gF:=q (.bool (!(fu kds k).isSome)) s.heap (s.toks+(bU w c).draws k) ⟨Sub.rfl',rfl⟩
 have hu:(bU w c).room A.in1:=by show A.units+1+17 <cLine;have:=R.u;exact kQ this lr
 show wpAny _ _ (do return .bool (!(←contains (.ref nd) (.ref a)))) Q E s
 refine wpAny_bind ?_
 unfold contains
 refine wpAny_holding ?_
 refine wpAny_bind (wpAny_specialOf X.typeIs slot_dict_contains.lookup ?_)
 show wpAny _ _ (if (some (Value.builtin "dict.__contains__")==some Value.none)=true then _ else _) _ E s
 rw [if_neg (by rw [beq_builtin_none];exact Bool.false_ne_true)]
 refine wpAny_bind (wpAny_callSpecialUnlessNone?_slot (name:="__contains__") X.typeIs slot_dict_contains
  (wpAny_call_entry slot_dict_contains X.typeIs entry_dict_contains ?_ (args_dict_contains _ _)))
 show wpAny _ _ (dictGet nd (.ref a) >>= _) _ _ s
 refine wpAny_bind (wpAny_dictGet_heap (knd:=bU w c) hu r1 X ?_)
 cases hf:atKey xs k with
 |some p=>
  rw [hf] at e1
  rw [←e1] at gF
  show wpAny _ _ (ret (.bool true)) _ _ _
  exact wpAny_pure (a9 _ rfl (wpAny_truthy_bool (wpAny_pure gF)))
 |none=>
  rw [hf] at e1
  rw [←e1] at gF
  show wpAny _ _ (Builtin.Dict.pendingKey? nd (.ref a) >>= _) _ _ _
  exact wpAny_bind (wpAny_pendingKey_other lo (wpAny_pure (a9 _ rfl (wpAny_truthy_bool (wpAny_pure gF)))))
theorem Gw (R:Rm n A) (he:Ev w A env h0 m e (.ref nd)) (hi:Ev w A env h0 m i (c.enc k)) (x:cM w c h0 nd kds) (hd:fu kds k=some d)
  (hs:autoParam (∀o j,subscripted i false o j=operate [o,j] (getItem o j)) aJ):Ev w A env h0 m (.Subscript e i pos) d:=by
 intro s ks Q E q
 refine Subscript_ (he s ks _ _ fun v1 h1 t1=>av fun k1 r1=>?_)
 refine hi (sh s h1 t1) (ks.step k1) _ _ fun v2 h2 t2=>av fun k2 r2=>?_
 cases r1
 refine cQ (c.ref r2) fun a zr7=>?_;subst zr7
 refine cH ((x.sub (ks.sub.trans (k1.trans k2))).at_some hd) fun xs p X hp hr=>?_
 refine tail_any X.typeIs slot_dict_getitem.lookup ?_ (hs _ _)
 exact wpAny_getItem_heap (knd:=bU w c) (by show A.units+1+17 <cLine;have:=R.u;exact kQ this lr) r2 X hp (q _ h2 _ ⟨k1.trans k2,hr⟩)
theorem Dj {hO:Heap} {tO:Nat} {test:Expr} (I:Nat→Heap→Prop) (k0:Nat) (i0:I k0 hO)
  (turn:∀k h t,I k h→bg w A (isTrue test env (eval test env)) (sh s h t) fun b h2=>(b=true→∀t2,bg w A (execs body env) (sh s h2 t2) fun fl h3=>match fl with | .next | .cont=>∃k' <k,I k' h3 | .brk=>RN h3 | .ret v=>RF (.ret v) h3)∧(b=false→RN h2))
  (hr:∀h t,RN h→bg w A (execs rest env) (sh s h t) RF):bg w A (execs (.While test body [] pos::rest) env) (sh s hO tO) RF:=by
 intro Q E q
 refine wpAny_execs_cons (wpAny_While (codeAny_whileLoop (fun k s'=>∃h t,s'=(sh s h t)∧I k h) ?_ k0 (fZ hO tO rfl i0)))
 intro k s' zq
 refine ao zq fun h t zr8 hi=>?_;subst zr8
 refine turn k h t hi _ _ fun b h2 t2=>av fun z1 z2=>?_
 cases b with
 |true=>
  rw [if_pos rfl]
  refine z1 rfl t2 _ _ fun fl h3 t3 z=>?_
  cases fl with
  |next=>refine ab z fun k' hk i'=>?_;exact ⟨k',hk,h3,t3,rfl,i'⟩
  |cont=>refine ab z fun k' hk i'=>?_;exact ⟨k',hk,h3,t3,rfl,i'⟩
  |brk=>exact hr h3 t3 z Q E q
  |ret v=>exact q _ h3 t3 z
 |false=>
  rw [if_neg (by decide)]
  exact wpAny_execs_nil (hr h2 t2 (z2 rfl) Q E q)
end
noncomputable def aH:tx ag:=⟨bx,fun k=>rfl,fun k=>⟨_,rfl⟩,fun x y e=>by
 cases x;cases y
 simp only [bx,aw,D.tup.injEq,List.cons.injEq,D.int.injEq] at e
 obtain ⟨e1,⟨e2,e3,_⟩,e4,e5,_⟩:=e
 subst e1 e4 e5
 congr 1
 exact Prod.ext e2 e3⟩
theorem cM.ne_lst {w:World} {KK:Type} [DecidableEq KK] {c:tx KK} {h:Heap} {d l:Addr} {kds:List (KK×D)} {ds:List D} (x:cM w c h d kds) (L:cN h l ds):l≠d:=by
 rintro rfl
 refine jJ x.ex fun xs o es ep ho hc V V=>?_
 refine ao L fun vs n e V=>?_
 rw [e] at ho
 obtain rfl:=Option.some.inj ho
 exact absurd (Value.type.inj hc.1) (by decide)
noncomputable def qx (ns:List (ag×Int)):List (ag×D):=ns.map fun x=>(x.1,D.int x.2)
theorem j7 {ns:List (ag×Int)} {gq:ag}:fu (qx ns) gq=(aX ns gq).map D.int:=by
 delta fu aX qx
 induction ns with
 |nil=>rfl
 |cons x ns ih=>
  rw [List.map_cons,List.find?_cons,List.lookup_cons]
  by_cases c:x.1=gq
  ·simp [c]
  ·have:(gq==x.1)=false:=by simpa using fun e=>c e.symm
   simp only [c,decide_false,this]
   exact ih
noncomputable def FX (sys:aT) (most:Int) (nd:Addr):List (Str×D):=[("system",aw sys),("most",.int most),("numbers",.ref nd)]
structure uP (w:World) (h:Heap) (C dC nd:Addr) (sys:aT) (most:Int) (ns:List (ag×Int)):Prop where
 o:Ob w h C 388 dC (FX sys most nd)
 n:cM w aH h nd (qx ns)
 ap:C≠nd∧dC≠nd
theorem qO {w:World} {C dC nd:Addr} {sys:aT} {most:Int} {ns:List (ag×Int)}:ng [C,dC,nd] fun h=>uP w h C dC nd sys most ns:=
 ⟨fun h h' O t k=>⟨O.o.mo t (fun o e=>k _ (.head _) o e) (fun o e=>k _ jT o e),gS.mo h h' O.n t fun b hb o e=>k b (by rw [List.mem_singleton.mp hb];exact uO) o e,O.ap⟩,fun h O b hb=>by
  replace hb:=PI hb
  rcases hb with rfl |rfl |rfl
  ·exact ⟨_,O.o.inst⟩
  ·refine fw O.o.isDict fun V V e=>?_;exact ⟨_,e⟩
  ·exact gS.ex _ O.n _ (.head _)⟩
variable {gq:ag}
section
variable {ns:List (ag×Int)}
theorem eQ {i:Int} (e:aX ns gq=some i):bb ns gq=(ns,i):=by unfold bb;rw [e]
theorem eL (e:aX ns gq=none):bb ns gq=(ns++ [(gq,bH (ns.map (·.2)) ns.length 1)],bH (ns.map (·.2)) ns.length 1):=by unfold bb;rw [e]
theorem vR {i:Int} {l:List Int}:gx (.int i) (l.map D.int)=decide (i∈l):=by
 delta gx
 rw [List.any_map,Bool.eq_iff_iff,List.any_eq_true,decide_eq_true_iff]
 constructor
 ·intro zq
  refine ab zq fun x hx e=>?_
  have:x=i:=by simpa [D.eqv,D.py,PyData.eqv] using e
  exact this▸hx
 ·intro h
  exact a9 i h (by simp [D.eqv,D.py,PyData.eqv])
theorem dX {l:List Int}:D.flats 9 (l.map D.int)=true:=by
 induction l with
 |nil=>rfl
 |cons x l ih=>rw [List.map_cons,D.flats,ih];rfl
theorem uF {ns:List (ag×Int)} (hn:((qx ns).map (·.1)).Nodup) {a:ag×Int} (ha:a∈ns):aX ns a.1=some a.2:=by
 delta aX
 delta qx at hn
 rw [List.map_map] at hn
 induction ns with
 |nil=>simp at ha
 |cons x ns ih=>
  rw [List.map_cons,List.nodup_cons] at hn
  rw [List.lookup_cons]
  rcases List.mem_cons.mp ha with rfl |ha
  ·simp
  ·have:a.1≠x.1:=fun q=>hn.1 (by show x.1∈_;rw [←q];exact List.mem_map_of_mem (f:=(fun x=>x.1)∘fun x:ag×Int=>(x.1,D.int x.2)) ha)
   have:(a.1==x.1)=false:=by simpa using this
   rw [this]
   exact ih hn.2 ha
end
structure Bk (pos:Pos) (q:Str) (h:Heap):Prop where
 ex:∃ps,h.get? 368=some (tabObj ps)∧TriplesOk ps.toList∧(codeAmong pos ps.toList=none∨∃c' o vs t,codeAmong pos ps.toList=some (.ref c')∧h.get? c'=some o∧o.cls= .type "code"∧o.data= .fields vs∧vs[1]? =some (.str q t))
 bi:∃o,h.get? 4=some o∧o.cls= .type "module"∧o.dict=some builtinsNs∧o.data= .plain
theorem Bm {pos:Pos} {q:Str}:ng [368,4] fun h=>Bk pos q h:=
 ⟨fun h h' X tt k=>ar X.ex fun ps e t z=>ab X.bi fun o ho r=>⟨(cb ps (k _ (.head _) _ e) t (z.imp id (mD fun c' o vs t h1 h2 h3 h4 h5=>lz c' o vs t h1 (tt.code h2 h3 h4) h3 h4 h5))),o,k _ jT _ ho,r⟩,fun h X b hb=>by
  rcases Cv hb with rfl |rfl
  ·exact ab X.ex fun ps e V=>⟨_,e⟩
  ·exact ab X.bi fun o ho V=>⟨_,ho⟩⟩
theorem Ke (P:Params):codeHdIn (K P) 372 368=true:=by kernel_rfl
theorem QV (P:Params):nsIn (K P) mainGlobals "__builtins__"=some (some (.ref 4)):=by kernel_rfl
variable {params:Arguments} {scope:Scope}
section
variable {w:World} {body:Expr} {q:Str} {x:Str×Addr} {r:List (Str×Addr)}
theorem aS {h h0:Heap} {a:Addr} (e:h.get? a=none) (k:Sub h0 h):h0.get? a=none:=by
 cases q:h0.get? a with
 |none=>rfl
 |some o=>have:=k _ _ q;exact u5 e this
theorem zJ (P:cA w s.heap) (T:Bk pos q s.heap) (hcode:env.code= .ref 372) (hg0:env.globals=mainGlobals) (hdef:defaultsOf params env=([],[])) (hcl:closureFor scope env=pure (x::r)) (hq:env.qual++"<lambda>"=q):
  bg w A (eval (.Lambda params body scope pos) env) s fun v h'=>∃f c' ct pm,v= .ref f∧cv [368] s.heap h'∧bl s.heap h'∧Bk pos q h'∧h'.get? f=some (kla_obj "<lambda>" q params body scope (x::r) pm c' ct)∧h'.CodeRec (.ref c') q∧s.heap.get? f=none:=by
 intro Q E k
 subst hq
 refine cI P.t fun p l mg mb t=>?_
 obtain ⟨⟨ps,hP,ht,z⟩,ob,hb,b1,b2,b3⟩:=T
 have C:=codeHd_of_K P.k (Ke w.params)
 have hm4:=mg_of P.k t.g (QV w.params)
 have hgP:mainGlobals≠368:=by decide
 refine kla_eval hdef ?_
 rcases z with hnf |⟨c',oc,vs,tq,hf,hoc,hcc,hcd,hcv⟩
 ·rw [makeFunction_eq]
  simp only [List.zip_nil_right,List.filterMap_nil,List.isEmpty_nil,if_true,pure_bind]
  unfold makeTail
  rw [hcl,hg0]
  refine wpAny_bind (wpAny_pure ?_)
  simp only [List.isEmpty_cons,Bool.false_eq_true,if_false]
  refine wpAny_bind (wpAny_newTextTuple ?_)
  generalize hH:s.heap.push {cls:=.type "tuple",data:=.seq (List.toArray _)}=H
  have kH:Sub s.heap H:=hH▸Sub.push _
  have hP1:=kH _ _ hP
  have hb1:=kH _ _ hb
  have g1:=t.g.keeps kH
  have C1:=C.keeps kH
  have n4:(4:Addr)≠368:=by decide
  refine wpAny_bind (wpAny_functionCodeX (s:={s with heap:=H}) hcode (C1.code hP1 ht) (C1.tab hP1) hnf fun c' h' tk hx hge hlt hic hrec htb htab=>?_)
  have kx:cv [368] H h':=fun b o hn e=>hx b o (by simpa using hn) e
  have g2:=g1.extBut hx hgP
  have hb2:=hx _ _ n4 hb1
  refine wpAny_bind (wpAny_builtinsFor g2 hm4 (by decide) hb2 b1 b2 b3 ?_)
  refine wpAny_bind (wpAny_nsGet g2 ?_)
  refine wpAny_bind (wpAny_pure (wpAny_newObj_type ?_ (by size_fits)))
  have kF:cv [368] s.heap (h'.push (kla_obj "<lambda>" (env.qual++"<lambda>") params body scope (x::r) ((mg "__name__").getD .none) c' (.ref s.heap.objs.size))):=(kH.keep.trans kx).trans (Sub.push _).keep
  refine lV htab fun P' V V o1 vs1 f1 f2 f3 V V=>?_
  refine gb (id hrec) fun c2 o2 vs2 t2 e2 f4 f5 f6=>?_
  cases e2
  rw [f1] at f4
  obtain rfl:=Option.some.inj f4
  have ht':TriplesOk (ps++ #[rawInt pos.line,rawInt pos.col,.ref c']).toList:=by
   rw [Array.toList_append];exact TriplesOk_snoc _ _ _ _ ht
  refine k _ _ tk ⟨_,c',_,_,rfl,kF,kF.t fun b hb k' n' e=>?_,⟨(cb _ (Heap.get?_push_of_some _ htb.2) ht' (.inr (lz c' _ vs2 t2 ?_ (Heap.get?_push_of_some _ f1) f2 f5 f6))),_,Heap.get?_push_of_some _ hb2,b1,b2,b3⟩,Heap.get?_push_size _ rfl,hrec.push _,?_⟩
  ·rw [List.mem_singleton.mp hb,hP] at e
   exact ia e.symm (fun z=>by cases z) (fun z=>by cases z)
  ·rw [Array.toList_append]
   exact codeAmong_snoc _ ht hnf
  ·exact aS (aA (Nat.le_of_lt (Nat.lt_of_le_of_lt hge hlt))) kH
 ·refine kla_makeFunctionHit hcl hg0 t.g hcode C hP ht hf ⟨4,ob,hm4,by decide,by decide,by decide,hb,b1,b2,b3⟩ fun ctv h' tk k0 hge=>?_
  have kS:Sub s.heap (h'.push {cls:=.type "function",data:=.func (kla_fn "<lambda>" (env.qual++"<lambda>") params body scope (x::r) ((mg "__name__").getD .none) (.ref c') ctv)}):=Sub.trans k0 (Sub.push _)
  exact k _ _ tk ⟨_,c',_,_,rfl,kS.keep,kS.t,⟨(cb ps (kS _ _ hP) ht (.inr (lz c' oc vs tq hf (kS _ _ hoc) hcc hcd hcv))),_,kS _ _ hb,b1,b2,b3⟩,Heap.get?_push_size _ rfl,⟨c',oc,vs,tq,rfl,kS _ _ hoc,hcd,hcv⟩,aA hge⟩
end
section
variable {w:World} {q x1:Str} {body:Expr} {cl:List (Str×Addr)} {ct:Value} {c':Addr} {c:Str→Option Value}
theorem CT (r:Rm (n+1) A) (P:cA w h0) (ho:h0.get? f=some (kla_obj name q params body scope cl pm c' ct)) (hcd:h0.CodeRec (.ref c') q) (hbind:∀v,bindArgs (kla_fn name q params body scope cl pm (.ref c') ct) ⟨[v],[]⟩=pure [(x1,v)]) (hloc:scope.names.lookup x1=some .local)
  (hcells:∀n a,cl.lookup n=some a→h0.IsCell a (c n))
  (h:∀(A':Around) (s:Shared) (g h1:Heap) (v:Value) (L:Addr) (t:Nat),Rm n A'→Sub h0 g→Sub g h1→RD g v d1→At (envX q scope L f (.ref c') cl) g ⟨fun y=>[(x1,v)].reverse.lookup y,c⟩ h1→cA w g→
   bg w A' (eval body (envX q scope L f (.ref c') cl)) (sh s h1 t) fun v h'=>Sub g h'∧RD h' v d)
  (hco:autoParam (scope.isCoroutine=false) aE) (hgen:autoParam (scope.isGenerator=false) aE) (hk:autoParam (scope.kind= .function) aF) (hcell:autoParam ((scope.names.all fun y=>y.2 != .cell)=true) aK):Fn w A h0 f [d1] d:=by
 intro s vs k rs
 cases rs with |cons r1 rs=>
 cases rs
 intro Q E q
 refine cI ((P.keeps k).t) fun p l mg mb t=>?_
 refine wpAny_call (kla_callFunE r.depth (k _ _ ho) rfl hco hgen rfl (hcd.keeps k) ?_)
 rw [hbind]
 refine wpAny_pure (wpAny_newFunctionEnv (fun y hy=>by have:=List.all_eq_true.mp hcell y hy;simpa using this) (by intro y hy;rw [List.mem_singleton.mp hy];exact hloc) (fun h₁ hns hsb=>⟨t.nolimit.fresh _ hsb,?_⟩) hk)
 have k1:Sub s.heap h₁:=fun b o e=>hsb.extBut b o (Nat.ne_of_lt (Heap.lt_size e)) (Heap.get?_push_of_some _ e)
 refine kla_codeExpr (h _ s s.heap h₁ _ s.heap.objs.size _ (r.deeper _) k k1 r1 ⟨k1,hns,fun m a e=>(hcells m a e).keeps (k.trans k1)⟩ (P.keeps k) _ _ fun v h' t' hr=>q v h' t' hr)
end
theorem Dt (a b:aT):qt true (aw a) (aw b)=eF a b:=by
 delta aw eF
 show (if (a.1==b.1)=true then (if (a.2==b.2)=true then true else decide (a.2≤b.2)) else decide (a.1≤b.1))=_
 have e:∀x y:Int,decide (x≤y)=(decide (x <y)||x==y):=fun x y=>by rw [Bool.eq_iff_iff];simp;lia
 by_cases h1:a.1=b.1
 ·by_cases h2:a.2=b.2
  ·simp [h1,h2]
  ·simp [h1,h2]
 ·have h1':(a.1==b.1)=false:=by simpa using h1
  simp [h1',h1,e]
theorem bp.drop {h:Heap} {vs:List Value} {ds:List D} (r:bp h vs ds) (k:Nat):bp h (vs.drop k) (ds.drop k):=
 bp.ind (P:=fun vs ds=>∀k,bp h (vs.drop k) (ds.drop k)) (fun k=>k.casesOn .nil fun V=>.nil) (fun V V V V a r i k=>k.casesOn (.cons a r) i) r k
variable {k:Nat}
section
variable {w:World}
theorem zm {hO:Heap} {tO:Nat} (hz:ds.length≤1000) (he:bg w A (eval e env) (sh s hO tO) fun v h1=>∃l,v= .ref l∧cN h1 l ds∧∀t1,bg w A (eval u env) (sh s h1 t1) fun v2 h2=>Sub h1 h2∧RD h2 v2 (.int (k:Nat))∧∀h3 D,Sub h2 h3→cN h3 D (ds.take k)→h2.get? D=none→R (.ref D) h3)
  (hs:autoParam (∀o i,subscripted (.Slice none (some u) none p2) false o i=operate [i,o] (getItem o i)) aJ):bg w A (eval (.Subscript e (.Slice none (some u) none p2) pos) env) (sh s hO tO) R:=by
 intro Q E q
 refine Subscript_ (he _ _ fun v1 h1 t1=>kD fun l e1 L z=>?_)
 subst e1
 refine wpAny_Slice ?_
 rw [evalPart_none]
 refine wpAny_pure ?_
 rw [evalPart_some]
 refine z t1 _ _ fun v2 h2 t2=>ft fun k2 r2 gF=>?_
 refine wpAny_pure ?_
 refine EO r2 fun tk ez0=>?_;subst ez0
 refine ao (L.sub k2) fun vs n el r=>?_
 have hl:vs.length=ds.length:=r.length
 have il:=bL el
 dsimp only
 generalize hH:h2.push {cls:=.type "slice",data:=.fields #[.none,.int k tk,.none]}=H
 have kH:Sub h2 H:=hH▸Sub.push _
 have eH:h2.objs.size <H.objs.size:=by rw [←hH,size_push'];exact Nat.lt_succ_self _
 have is:H.IsSliceOf h2.objs.size .none (.int k tk) .none:=hH▸Heap.IsSliceOf.new ..
 have il':H.IsList l vs.toArray:=bL (kH _ _ el)
 refine tail_any il'.typeIs slot_list_getitem.lookup ?_ (hs _ _)
 refine wpAny_getItem_list_slice il' is .none (.int _ _) .none (by simp) ?_ (by first |(refine bR (k:=2000) ?_;rw [List.size_toArray,hl];exact Nat.le_trans hz lr) |(rw [List.size_toArray,hl,sizeLine_eq];lia))
 rw [slicePick_upto']
 refine q _ _ t2 (gF _ _ (kH.trans (Sub.push _)) (fZ (vs.take k) 0 ?_ (((r.take k).mono kH.t).mono (Sub.push _).t)) ?_)
 ·rw [List.toList_toArray];exact Heap.get?_push_size _ rfl
 ·cases zz:h2.get? H.objs.size with
  |none=>rfl
  |some o=>exact absurd (Heap.lt_size (kH _ _ zz)) (Nat.lt_irrefl _)
theorem FC {hO:Heap} {tO:Nat} (hz:ds.length≤1000) (he:bg w A (eval e env) (sh s hO tO) fun v h1=>∃l,v= .ref l∧cN h1 l ds∧∀t1,bg w A (eval u env) (sh s h1 t1) fun v2 h2=>Sub h1 h2∧RD h2 v2 (.int (k:Nat))∧∀h3 D,Sub h2 h3→cN h3 D (ds.drop k)→h2.get? D=none→R (.ref D) h3)
  (hs:autoParam (∀o i,subscripted (.Slice (some u) none none p2) false o i=operate [i,o] (getItem o i)) aJ):bg w A (eval (.Subscript e (.Slice (some u) none none p2) pos) env) (sh s hO tO) R:=by
 intro Q E q
 refine Subscript_ (he _ _ fun v1 h1 t1=>kD fun l e1 L z=>?_)
 subst e1
 refine wpAny_Slice ?_
 rw [evalPart_some]
 refine z t1 _ _ fun v2 h2 t2=>ft fun k2 r2 gF=>?_
 rw [evalPart_none]
 refine wpAny_pure (wpAny_pure ?_)
 refine EO r2 fun tk ez0=>?_;subst ez0
 refine ao (L.sub k2) fun vs n el r=>?_
 have hl:vs.length=ds.length:=r.length
 have il:=bL el
 dsimp only
 generalize hH:h2.push {cls:=.type "slice",data:=.fields #[.int k tk,.none,.none]}=H
 have kH:Sub h2 H:=hH▸Sub.push _
 have is:H.IsSliceOf h2.objs.size (.int k tk) .none .none:=hH▸Heap.IsSliceOf.new ..
 have il':H.IsList l vs.toArray:=bL (kH _ _ el)
 refine tail_any il'.typeIs slot_list_getitem.lookup ?_ (hs _ _)
 refine wpAny_getItem_list_slice il' is (.int _ _) .none .none (by simp) ?_ (by first |(refine bR (k:=2000) ?_;rw [List.size_toArray,hl];exact Nat.le_trans hz lr) |(rw [List.size_toArray,hl,sizeLine_eq];lia))
 rw [slicePick_from']
 refine q _ _ t2 (gF _ _ (kH.trans (Sub.push _)) (fZ (vs.drop k) 0 ?_ (((r.drop k).mono kH.t).mono (Sub.push _).t)) ?_)
 ·rw [List.toList_toArray];exact Heap.get?_push_size _ rfl
 ·cases zz:h2.get? H.objs.size with
  |none=>rfl
  |some o=>exact absurd (Heap.lt_size (kH _ _ zz)) (Nat.lt_irrefl _)
end
theorem iK (P:Params):nsIn (K P) mainGlobals "sorted"=some none:=by kernel_rfl
theorem Rm.in2 {n:Nat} {A:Around} (r:Rm (n+1) A):Rm n A.in1.in1:=⟨by have:=r.d;show A.depth+n <_;lia,by have:=r.u;show A.units+1+1+20*n+20 <_;exact PV this,r.h⟩
section
variable {w:World} {l:Expr} {kp:Pos}
theorem HS {x:Str} {v:Value} {c:Addr} {d:D} (hv:m.c x=some v) (r:RD h0 v d) (hc:env.cells.lookup x=some c)
  (hk:autoParam (env.scope.kind= .function) aF) (hl:autoParam (env.kindOf x=some .free) aR) (hd:autoParam ((x==("__debug__":Str))=false) aE) (hn:autoParam ((x==("__classdict__":Str))=false) aE):Ev w A env h0 m (.Name x pos) d:=
 fun s k Q E q=>wpAny_Name (wpAny_loadName_free hk hl hc (hv▸k.cs x c hc) (q v s.heap s.toks ⟨Sub.rfl',r.mono k.sub.t⟩) hn) hd
theorem tU {hO:Heap} {tO:Nat} (ha:At env h0 m hO) (P:cA w h0) (hg:env.globals=mainGlobals) (hb:env.builtins=builtinsNs)
  (h:∀t,bg w A (eval e env) (sh s hO t) fun v h1=>∃a,v= .ref a∧∀t1,bg w A (eval l env) (sh s h1 t1) fun f h2=>∃fa,f= .ref fa∧∀t2,bg w A (call (.builtin "sorted") [.ref a] [("key",.ref fa)]) (sh s h2 t2) R)
  (hk:autoParam (env.scope.kind= .function) aF) (hx:autoParam (env.kindOf "sorted"=some .globalImplicit) aG)
  (he:autoParam (starEach [e] env=(false,eval e env)::starEach [] env) aR) (hpl:autoParam ((backTo pos (starEach [e] env)).any (·.1)=false) aE)
  (hc:autoParam (eval (.Call (.Name "sorted" p1) [e] [⟨some "key",l,kp⟩] pos) env=(do callWith pos (←eval (.Name "sorted" p1) env) [] (backTo pos (starEach [e] env)) (backToKw pos (keywordEach [⟨some "key",l,kp⟩] env)))) aR):
  bg w A (eval (.Call (.Name "sorted" p1) [e] [⟨some "key",l,kp⟩] pos) env) (sh s hO tO) R:=by
 intro Q E q
 rw [hc]
 refine wpAny_bind (pX ha P hg hb (iK _) boot_sorted (by decide) hk hx (by decide) _ _ fun v h1 t1=>av fun e1 e2=>?_)
 subst e1 e2
 refine callWith_kw (args_cons (h t1 _ _ fun v2 h2 t2=>sH fun a ea z=>args_nil ?_) he) (by rw [he];rfl) hpl
 subst ea
 refine kws_cons (z t2 _ _ fun f h3 t3=>sH fun fa ef y=>kws_nil ?_)
 subst ef
 exact y t3 Q E q
end
noncomputable def qZ (its:List af):List Addr:=its.flatMap fun a=>[a.1.x,a.1.dx,a.1.rx,a.1.rdx]
theorem r7 {w:World} {its:List af}:ng (qZ its) fun h=>lQ w h its:=
 ⟨fun h h' O t k a ha=>kG.mo h h' (O a ha) t fun b hb o e=>k b (List.mem_flatMap.mpr (a9 a ha hb)) o e,fun h O b hb=>by
  refine ab (List.mem_flatMap.mp hb) fun a ha hb=>?_
  exact kG.ex h (O a ha) b hb⟩
noncomputable def Fp:Pos:=⟨250,33,250,80⟩
noncomputable def GD:Str:="Chooser.worked.<locals>.<lambda>"
noncomputable abbrev Di (h:Heap):Prop:=Bk Fp GD h
noncomputable def nz (sys:aT) (p:ah):D:=.tup [aw (PL.rank sys p),.int p.row.number]
noncomputable def dN (sys:aT) (most:Int) (its:List af):List af:=(az (its.map fun a=>nz sys a.2) its).take most.toNat
theorem eV {α β:Type} {kds:List D} {xs:List α} (f:α→β) (h3:xs.length≤3):az kds (xs.map f)=(az kds xs).map f:=by
 have hl:(xs.map f).length=xs.length:=List.length_map ..
 by_cases c:xs.length <2
 ·rw [cX c,cX (hl▸c)]
 ·refine cQ (cS kds c) fun x e=>?_
  refine cQ (cS kds (hl▸c)) fun y e2=>?_
  rw [e,e2,hl,List.map_map]
  refine List.map_congr_left fun i hi=>?_
  have:=gG (Nat.le_of_not_lt c) h3 i hi
  show (xs.map f).getD i y=f (xs.getD i x)
  rw [List.getD_eq_getElem?_getD,List.getD_eq_getElem?_getD,List.getElem?_map,List.getElem?_eq_getElem this];rfl
theorem yu {sys:aT} {its:List af}:dO (its.map fun a=>nz sys a.2):=by
 refine ⟨fun d hd e he=>?_,.inr (.inr fun d hd=>?_)⟩
 ·refine ab (List.mem_map.mp hd) fun a V zr9=>?_;subst zr9
  refine ab (List.mem_map.mp he) fun b V zr10=>?_;subst zr10
  rfl
 ·refine ab (List.mem_map.mp hd) fun a V zr11=>?_;subst zr11
  exact J9 _ _ rfl
noncomputable abbrev sF:Scope:={kind:=.function,names:=[("port",.local),("self",.free)],isGenerator:=false,isCoroutine:=false}
set_option genInjectivity false in
structure EC where
 C:Addr
 dC:Addr
 nd:Addr
 sys:aT
 most:Int
noncomputable def PA.pl (a:PA):List Addr:=[a.x,a.dx,a.rx,a.rdx]
noncomputable def oO (pas:List PA):List Addr:=pas.flatMap PA.pl
noncomputable def EF (c:EC) (pas:List PA):List Addr:=[368,4,c.C,c.dC,c.nd]++oO pas
structure QJ (w:World) (h:Heap) (c:EC) (its:List af) (ns:List (ag×Int)):Prop where
 tab:Di h
 num:uP w h c.C c.dC c.nd c.sys c.most ns
 ps:lQ w h its
theorem mz {its:List af}:qZ its=oO (its.map (·.1)):=by delta qZ oO;rw [List.flatMap_map];rfl
theorem vU:∀{pas:List PA} {i j:Nat} {a b:PA} {z:Addr},(oO pas).Nodup→pas[i]? =some a→pas[j]? =some b→z∈a.pl→z∈b.pl→i=j
 | [],i,j,a,b,z,_,e,_,_,_=>by simp at e
 |p::ps,0,0,a,b,z,_,_,_,_,_=>rfl
 |p::ps,0,j+1,a,b,z,n,e1,e2,h1,h2=>by
  simp at e1 e2;subst e1
  delta oO at n
  rw [List.flatMap_cons,List.nodup_append] at n
  exact absurd rfl (n.2.2 z h1 z (List.mem_flatMap.mpr (a9 b (List.mem_of_getElem? e2) h2)))
 |p::ps,i+1,0,a,b,z,n,e1,e2,h1,h2=>by
  simp at e1 e2;subst e2
  delta oO at n
  rw [List.flatMap_cons,List.nodup_append] at n
  exact absurd rfl (n.2.2 z h2 z (List.mem_flatMap.mpr (a9 a (List.mem_of_getElem? e1) h1)))
 |p::ps,i+1,j+1,a,b,z,n,e1,e2,h1,h2=>by
  simp at e1 e2
  delta oO at n
  rw [List.flatMap_cons,List.nodup_append] at n
  rw [vU (pas:=ps) n.2.1 e1 e2 h1 h2]
variable {its:List af} {a:af} {p':ah} {j:Nat}
section
variable {w:World} {c:EC} {ns:List (ag×Int)} {pas:List PA}
theorem Oi (e:its.map (·.1)=pas):ng (EF c pas) fun h=>QJ w h c its ns:=by
 have f:=(Bm (pos:=Fp) (q:=GD)).and ((qO (w:=w) (C:=c.C) (dC:=c.dC) (nd:=c.nd) (sys:=c.sys) (most:=c.most) (ns:=ns)).and (r7 (w:=w) (its:=its)))
 rw [mz,e] at f
 exact ⟨fun h h' X t k=>cB (f.mo h h' ⟨X.1,X.2,X.3⟩ t k) fun a b d=>⟨a,b,d⟩,fun h X=>f.ex h ⟨X.1,X.2,X.3⟩⟩
theorem pq (e:its.map (·.1)=pas) (hj:its[j]? =some a):pas[j]? =some a.1:=by rw [←e,List.getElem?_map,hj];rfl
theorem lQ.step (x:lQ w h its) (hj:its[j]? =some a) (nd:(oO (its.map (·.1))).Nodup) (k:cv [a.1.dx] h h') (t:bl h h') (O:jf w h' a.1.x a.1.dx a.1.rx a.1.rdx p'):lQ w h' (its.set j (a.1,p')):=by
 intro b hb
 obtain ⟨i,hi,e⟩:=List.mem_iff_getElem.mp hb
 rw [List.length_set] at hi
 rw [List.getElem_set] at e
 by_cases q:j=i
 ·rw [if_pos q] at e;subst e;exact O
 ·rw [if_neg q] at e
  have hb':its[i]? =some b:=by rw [List.getElem?_eq_getElem hi,e]
  refine kG.mo h h' (x b (List.mem_of_getElem? hb')) t fun z hz o e=>k z o (fun hz'=>q ?_) e
  rw [List.mem_singleton] at hz'
  subst hz'
  exact vU nd (pq rfl hj) (pq rfl hb') (by simp [PA.pl]) hz
noncomputable def bY (f:af→af) (i:Nat) (its:List af):List af:=(its.take i).map f++its.drop i
theorem gD {f:af→af}:bY f its.length its=its.map f:=by delta bY;rw [List.take_length,List.drop_length,List.append_nil]
theorem C9 {f:af→af} (hf:∀a,(f a).1=a.1) {i:Nat}:(bY f i its).map (·.1)=its.map (·.1):=by
 delta bY
 rw [List.map_append,List.map_map,show ((fun x:af=>x.1)∘f)=fun a:af=>a.1 from funext hf,←List.map_append,List.take_append_drop]
theorem kI {f:af→af} {i:Nat} (e:its[i]? =some a):(bY f i its)[i]? =some a:=by
 delta bY
 have hi:=(List.getElem?_eq_some_iff.mp e).1
 rw [List.getElem?_append_right (by rw [List.length_map,List.length_take];exact Nat.min_le_left ..),List.length_map,List.length_take,Nat.min_eq_left (Nat.le_of_lt hi),Nat.sub_self,List.getElem?_drop,Nat.add_zero,e]
theorem qE {p':ah} (e:its[j]? =some a):(its.set j (a.1,p')).map (·.1)=its.map (·.1):=by
 apply List.ext_getElem?
 intro i
 rw [List.getElem?_map,List.getElem?_map,List.getElem?_set]
 by_cases q:j=i
 ·subst q
  rw [if_pos rfl,if_pos (List.getElem?_eq_some_iff.mp e).1,e];rfl
 ·rw [if_neg q]
theorem eW {f:af→af} {i:Nat} (e:its[i]? =some a):bY f (i+1) its=(bY f i its).set i (f a):=by
 delta bY
 have hi:=(List.getElem?_eq_some_iff.mp e).1
 rw [List.set_append_right (s:=(its.take i).map f) (t:=its.drop i) i (f a) (by rw [List.length_map,List.length_take];exact Nat.min_le_left ..),List.length_map,List.length_take,Nat.min_eq_left (Nat.le_of_lt hi),Nat.sub_self,List.take_add_one,e,List.map_append,List.append_assoc]
 congr 1
 have:its.drop i=a::its.drop (i+1):=by rw [List.drop_eq_getElem_cons hi];rw [List.getElem?_eq_getElem hi] at e;rw [Option.some.inj e]
 rw [this];rfl
end
noncomputable def pW (ch:List af) (a:af):Bool:=(ch.map (·.1.x)).contains a.1.x
noncomputable def c9 (number:Int) (ch:List af) (a:af):af:=(a.1,bc number (pW ch a) a.2)
section
theorem An {w:World} {A:Around} {h0:Heap} {n:Nat} (r:Rm n A) (a b:eR):iD w A h0 .NotEq (.str (eR.s a)) (.str (eR.s b)) (a !=b):=by rw [bne,←EZ];exact mV r (oH _) (oH _)
variable {c:EC}
theorem jG {α:Type} {kds:List D} {xs:List α} (h3:xs.length≤3):∀a∈az kds xs,a∈xs:=by
 intro a ha
 by_cases c:xs.length <2
 ·rwa [cX c] at ha
 ·refine cQ (cS kds c) fun x e=>?_
  rw [e] at ha
  refine ab (List.mem_map.mp ha) fun i hi zr12=>?_;subst zr12
  have:=gG (Nat.le_of_not_lt c) h3 i hi
  rw [List.getD_eq_getElem?_getD,List.getElem?_eq_getElem this]
  exact List.getElem_mem _
theorem tu {sys:aT} {most:Int} (h3:its.length≤3):∀a∈dN sys most its,a∈its:=fun a ha=>jG h3 a (List.mem_of_mem_take ha)
end
theorem I6 (P:Params):nsIn (K P) mainGlobals "list"=some none:=by kernel_rfl
theorem uB {g:ag} {gs:List ag}:gx (bx g) (gs.map bx)=gs.contains g:=by
 delta gx
 rw [List.any_map,Bool.eq_iff_iff,List.any_eq_true,List.contains_iff_mem]
 constructor
 ·intro zq
  refine ab zq fun x hx e=>?_
  have:bx x=bx g:=(iZ 8 _ _ (aH.ok _) (aH.ok _)).mp e
  exact aH.inj _ _ this▸hx
 ·intro h
  exact a9 g h ((iZ 8 _ _ (aH.ok _) (aH.ok _)).mpr rfl)
theorem B5 {i:Int} {bs:List (Option Int)}:gx (.int i) (bs.map c5)=bs.contains (some i):=by
 delta gx
 rw [List.any_map,Bool.eq_iff_iff,List.any_eq_true,List.contains_iff_mem]
 constructor
 ·intro zq
  refine ab zq fun x hx e=>?_
  have:(x==some i)=true:=by rw [←jY];exact e
  rw [←eq_of_beq this];exact hx
 ·intro h
  exact a9 (some i) h (by show D.eqv (c5 (some i)) (c5 (some i))=true;rw [jY];simp)
theorem sN {bs:List (Option Int)}:D.flats 9 (bs.map c5)=true:=by
 induction bs with
 |nil=>rfl
 |cons x l ih=>rw [List.map_cons,D.flats,ih,j6];rfl
theorem vY {bs:List ag}:D.flats 9 (bs.map bx)=true:=by
 induction bs with
 |nil=>rfl
 |cons x l ih=>rw [List.map_cons,D.flats,ih];rfl
noncomputable def dR {α:Type} (p:α→Bool) (i:Nat) (xs:List α):List α:=(xs.take i).filter p++xs.drop i
theorem qN {α:Type} {xs:List α} {i:Nat} {a:α} (e:xs[i]? =some a):xs.drop i=a::xs.drop (i+1):=by
 have hi:=(List.getElem?_eq_some_iff.mp e).1
 rw [List.drop_eq_getElem_cons hi];rw [List.getElem?_eq_getElem hi] at e;rw [Option.some.inj e]
theorem x9 {α:Type} {p:α→Bool} {i:Nat} {xs:List α} {a:α} (e:xs[i]? =some a) (h:p a=true):dR p (i+1) xs=dR p i xs:=by
 delta dR
 rw [List.take_add_one,e,List.filter_append,qN e]
 simp [h]
theorem Am {α:Type} {p:α→Bool} {xs:List α}:dR p xs.length xs=xs.filter p:=by delta dR;rw [List.take_length,List.drop_length,List.append_nil]
theorem zF {α:Type} {p:α→Bool} {i:Nat} {xs:List α} {a:α} (e:xs[i]? =some a):a∈dR p i xs:=by delta dR;rw [qN e];exact mR (.head _)
theorem zT {p:ag×Int→Bool} {i:Nat} {xs:List (ag×Int)} {a:ag×Int} (e:xs[i]? =some a) (h:p a=false) (nd:((qx (dR p i xs)).map (·.1)).Nodup):rL (qx (dR p i xs)) a.1=qx (dR p (i+1) xs):=by
 have e1:dR p (i+1) xs=(xs.take i).filter p++xs.drop (i+1):=by delta dR;rw [List.take_add_one,e,List.filter_append];simp [h]
 rw [e1]
 have e2:dR p i xs=(xs.take i).filter p++a::xs.drop (i+1):=by delta dR;rw [qN e]
 rw [e2] at nd ⊢
 delta rL qx at*
 rw [List.map_map,List.map_append,List.map_cons,List.nodup_append] at nd
 refine cB nd fun n1 n2 n3=>?_
 rw [List.nodup_cons] at n2
 rw [List.map_append,List.map_cons,List.filter_append,List.filter_cons,if_neg (by simp),List.map_append]
 congr 1
 ·refine List.filter_eq_self.mpr fun x hx=>?_
  refine ab (List.mem_map.mp hx) fun y hy zr13=>?_;subst zr13
  exact decide_eq_true (n3 _ (List.mem_map_of_mem hy) _ (by simp))
 ·refine List.filter_eq_self.mpr fun x hx=>?_
  refine ab (List.mem_map.mp hx) fun y hy zr14=>?_;subst zr14
  exact decide_eq_true fun q=>n2.1 (by show a.1∈_;rw [←show y.1=a.1 from q];exact List.mem_map_of_mem (f:=(fun x=>x.1)∘fun x:ag×Int=>(x.1,D.int x.2)) hy)
section
variable {ns:List (ag×Int)}
noncomputable def jg (ps:List ah) (x:ag×Int):Bool:=((ps.filter ah.isUp).map ah.group).contains x.1||(ps.map ah.bundle).contains (some x.2)
theorem qA {ps:List ah}:iM ns ps=ns.filter (jg ps):=rfl
end
variable {y:Str}
section
variable {w:World} {F:List Addr} {E:Heap→Prop} {x Gd:Addr} {KK:Type} [DecidableEq KK] {c:tx KK} {kds:List (KK×D)} {k:KK}
theorem pI (L:cN h x ds):l9 h x:=fun k n e=>by
 refine ao L fun vs q e' V=>?_
 rw [e'] at e
 exact ia e.symm (fun z=>absurd (Value.type.inj z) (by decide)) (fun z=>absurd (Value.type.inj z) (by decide))
theorem rm (L:cN s.heap x ds) (r:RD s.heap v d) (hz:ds.length≤1000):bg w A (call (.builtin "list.append") [.ref x,v]) s fun u h'=>u= .none∧cv [x] s.heap h'∧bl s.heap h'∧cN h' x (ds++ [d]):=by
 intro Q E q
 have L0:=L
 refine ao L fun vs n e rs=>?_
 have hl:=rs.length
 refine wpAny_list_append_plain (items:=vs.toArray) ⟨n,e⟩ (fun h'=>PK fun n' e' hs=>q _ h' s.toks (l6 rfl (SameBut.kp hs) ?_ ?_)) (by first |(refine bR (k:=2000) ?_;rw [List.size_toArray,hl];exact Nat.le_trans hz lr) |(rw [List.size_toArray,hl,sizeLine_eq];lia))
 ·exact (SameBut.kp hs).t fun b hb=>by rw [List.mem_singleton.mp hb];exact pI L0
 ·have t:bl s.heap h':=(SameBut.kp hs).t fun b hb=>by rw [List.mem_singleton.mp hb];exact pI L0
  refine fZ (vs++ [v]) n' ?_ ((rs.mono t).append (.cons (r.mono t) .nil))
  rw [e']
  simp [bh,seqObj]
theorem AG {pl:Sem Bool} (R:Rm n A) (ha:At env s.heap m s.heap) (ho:Ev w A env s.heap m o (.ref Gd)) (hi:Ev w A env s.heap m i (c.enc k)) (x:cM w c s.heap Gd kds) (lo:(Gd==sysModules)=false) (hz:kds.length≤1000)
  (he:autoParam (starEach [i,.List [] p2] env=(false,eval i env)::starEach [.List [] p2] env) aR) (he2:autoParam (starEach [.List [] p2] env=(false,eval (.List [] p2) env)::starEach [] env) aR)
  (hpl:autoParam ((backTo pos (starEach [.List [] p2] env)).any (·.1)=false) aE)
  (hm:autoParam (eval (.Call (.Attribute o "setdefault" p1) [i,.List [] p2] [] pos) env=(do
   let ov←eval o env
   standAt p1.atName
   let (f,first)←holding [ov] (getMethod ov "setdefault" pl)
   callWith pos f first (backTo pos (starEach [i,.List [] p2] env)) [])) aR):
  bg w A (eval (.Call (.Attribute o "setdefault" p1) [i,.List [] p2] [] pos) env) s fun u h'=>∃h1 y,Sub s.heap h1∧s.heap.get? y=none∧cN h1 y []∧cv [Gd] h1 h'∧bl h1 h'∧cM w c h1 Gd kds∧cM w c h' Gd (Ni kds k (.ref y))∧RD h' u ((fu kds k).getD (.ref y)):=by
 refine iy (pl:=pl) PySem.F.slot_dict_setdefault PySem.F.type_dict_setdefault PySem.F.plainAttrs_dict ((ho s ha).mono fun v h1=>av fun k1 r1=>?_) he hpl hm
 cases r1
 have x1:=x.sub k1
 refine ar (x1.obj (s:={s with heap:=h1})) fun ob b1 b2 b3=>?_
 refine ⟨(dm _ ob rfl b1 b2 b3),fun t1=>?_⟩
 intro Q E q
 refine args_cons (hi (sh s h1 t1) (ha.step k1) _ _ fun v2 h2 t2=>av fun k2 r2=>?_) he
 refine args_cons (kL (h0:=s.heap) (m:=m) (ds:=[]) gC (by simp) (sh s h2 t2) (ha.step (k1.trans k2)) _ _ fun v3 h3 t3=>aM fun k3 y ey Ly ny=>args_nil ?_) he2
 subst ey
 refine cQ (c.tup k) fun dds hd=>?_
 refine cn ((hd▸r2:RD h2 v2 (.tup dds)).isTup) fun a vs nn ea V=>?_
 subst ea
 have k123:=k1.trans (k2.trans k3)
 refine q _ h3 t3 fun t4=>(JN (dv:=.ref y) R (x1.sub (k2.trans k3)) lo (r2.mono k3.t) (.ref y) hz).mono fun u h4=>iA fun k4 t4' H ru=>?_
 exact ⟨h3,y,k123,aS ny (k1.trans k2),Ly,k4,t4',x1.sub (k2.trans k3),H,ru⟩
structure qk (w:World) (c:tx KK) (h:Heap) (Gd:Addr) (es:List (KK×Addr×List D)):Prop where
 d:cM w c h Gd (es.map fun e=>(e.1,.ref e.2.1))
 ls:∀e∈es,cN h e.2.1 e.2.2
 nd:(es.map (·.2.1)).Nodup
noncomputable def kb (es:List (KK×Addr×List D)):List Addr:=es.map (·.2.1)
noncomputable def mY (es:List (KK×Addr×List D)) (k:KK) (y:Addr):List (KK×Addr×List D):=if (es.map (·.1)).contains k then es else es++ [(k,y,[])]
noncomputable def v9 (es:List (KK×Addr×List D)) (k:KK) (d:D):List (KK×Addr×List D):=es.map fun e=>if e.1=k then (e.1,e.2.1,e.2.2++ [d]) else e
theorem BE {es:List (KK×Addr×List D)}:kb (v9 es k d)=kb es:=by
 delta kb v9
 rw [List.map_map]
 refine List.map_congr_left fun e V=>?_
 show (if e.1=k then _ else e).2.1=e.2.1
 by_cases q:e.1=k
 ·rw [if_pos q]
 ·rw [if_neg q]
theorem qX {es:List (KK×Addr×List D)}:ng (Gd::kb es) fun h=>qk w c h Gd es:=
 ⟨fun h h' x t kp=>⟨gS.mo h h' x.d t fun b hb o e=>kp b (by rw [List.mem_singleton.mp hb];exact .head _) o e,fun e he=>lK.mo h h' (x.ls e he) t fun b hb o eo=>kp b (by rw [List.mem_singleton.mp hb];exact List.mem_cons_of_mem _ (List.mem_map_of_mem he)) o eo,x.nd⟩,
 fun h x b hb=>by
  rcases List.mem_cons.mp hb with rfl |hb
  ·exact gS.ex h x.d b (.head _)
  ·refine ab (List.mem_map.mp hb) fun e he zr15=>?_;subst zr15
   exact lK.ex h (x.ls e he) _ (.head _)⟩
theorem qK {es:List (KK×Addr×List D)}:(fu (es.map fun e=>(e.1,D.ref e.2.1)) k)=(es.find? fun e=>e.1=k).map fun e=>D.ref e.2.1:=by
 delta fu
 rw [List.find?_map,Option.map_map]
 rfl
theorem qk.sd {es:List (KK×Addr×List D)} {y:Addr} (x:qk w c h Gd es) (Ly:cN h y []) (ny:y∉kb es) (kp:cv [Gd] h h') (t:bl h h') (H:cM w c h' Gd (Ni (es.map fun e=>(e.1,.ref e.2.1)) k (.ref y))):qk w c h' Gd (mY es k y):=by
 have hl:∀{z ds},cN h z ds→cN h' z ds:=fun {z ds} L=>L.keep kp t (by rw [List.mem_singleton];exact x.d.ne_lst L)
 delta mY
 delta Ni at H
 rw [qK] at H
 by_cases q:(es.map (·.1)).contains k=true
 ·rw [if_pos q]
  refine ab (List.mem_map.mp (List.contains_iff_mem.mp q)) fun e he ek=>?_
  rw [if_pos (by rw [Option.isSome_map,List.find?_isSome];exact a9 e he (by simpa using ek))] at H
  exact ⟨H,fun e he=>hl (x.ls e he),x.nd⟩
 ·rw [if_neg q]
  have hnone:es.find? (fun e=>e.1=k)=none:=by
   rw [List.find?_eq_none]
   intro e he
   have:e.1≠k:=fun z=>q (List.contains_iff_mem.mpr (z▸List.mem_map_of_mem he))
   simpa using this
  rw [hnone,if_neg (by simp)] at H
  refine ⟨by rw [List.map_append];exact H,fun e he=>?_,?_⟩
  ·rcases List.mem_append.mp he with he |he
   ·exact hl (x.ls e he)
   ·rw [List.mem_singleton.mp he];exact hl Ly
  ·rw [List.map_append,List.nodup_append]
   exact ⟨x.nd,by simp,fun a ha b hb q=>ny (by simp at hb;rw [←hb,←q];exact ha)⟩
theorem qk.ap {es:List (KK×Addr×List D)} {e0:KK×Addr×List D} (x:qk w c h Gd es) (he0:e0∈es) (ek:e0.1=k) (kp:cv [e0.2.1] h h') (t:bl h h') (L:cN h' e0.2.1 (e0.2.2++ [d])):qk w c h' Gd (v9 es k d):=by
 refine ⟨?_,fun e he=>?_,by have:=BE (k:=k) (d:=d) (es:=es);unfold kb at this;rw [this];exact x.nd⟩
 ·have e1:(v9 es k d).map (fun e=>(e.1,D.ref e.2.1))=es.map fun e=>(e.1,D.ref e.2.1):=by
   unfold v9
   rw [List.map_map]
   refine List.map_congr_left fun e V=>?_
   show ((if e.1=k then _ else e).1,D.ref (if e.1=k then _ else e).2.1)=_
   by_cases q:e.1=k
   ·rw [if_pos q]
   ·rw [if_neg q]
  rw [e1]
  refine gS.keep x.d kp t fun b hb=>?_
  rw [List.mem_singleton] at hb ⊢
  rw [hb];exact Ne.symm (x.d.ne_lst (x.ls e0 he0))
 ·have nk:=x.d.nodup
  rw [List.map_map] at nk
  refine ab (List.mem_map.mp he) fun e1 he1 zr16=>?_;subst zr16
  by_cases q:e1.1=k
  ·have:e1=e0:=by
    have inj:∀{l:List (KK×Addr×List D)},(l.map ((fun x=>x.1)∘fun e:KK×Addr×List D=>(e.1,D.ref e.2.1))).Nodup→e1∈l→e0∈l→e1=e0:=by
     intro l
     induction l with
     |nil=>intro _ h;simp at h
     |cons a l ih=>
      intro hn h1 h2
      rw [List.map_cons,List.nodup_cons] at hn
      rcases List.mem_cons.mp h1 with q1 |h1'<;>rcases List.mem_cons.mp h2 with q2 |h2'
      ·rw [q1,q2]
      ·exact absurd (List.mem_map.mpr (a9 e0 h2' (by rw [←q1];exact ek.trans q.symm))) hn.1
      ·exact absurd (List.mem_map.mpr (a9 e1 h1' (by rw [←q2];exact q.trans ek.symm))) hn.1
      ·exact ih hn.2 h1' h2'
    exact inj nk he1 he0
   subst this
   rw [if_pos q];exact L
  ·rw [if_neg q]
   refine (x.ls e1 he1).keep kp t fun hb=>q ?_
   rw [List.mem_singleton] at hb
   have inj:∀{l:List (KK×Addr×List D)},(l.map (·.2.1)).Nodup→e1∈l→e0∈l→e1.2.1=e0.2.1→e1=e0:=by
    intro l
    induction l with
    |nil=>intro _ h;simp at h
    |cons a l ih=>
     intro hn h1 h2 hq
     rw [List.map_cons,List.nodup_cons] at hn
     rcases List.mem_cons.mp h1 with q1 |h1'<;>rcases List.mem_cons.mp h2 with q2 |h2'
     ·rw [q1,q2]
     ·exact absurd (List.mem_map.mpr (a9 e0 h2' (by rw [←q1];exact hq.symm))) hn.1
     ·exact absurd (List.mem_map.mpr (a9 e1 h1' (by rw [←q2];exact hq))) hn.1
     ·exact ih hn.2 h1' h2' hq
   rw [inj x.nd he1 he0 hb,ek]
end
section
variable {x:Addr}
theorem BJ (L:cN h x ds):∃ob,h.get? x=some ob∧ob.cls= .type "list"∧ob.dict=none:=ao L fun vs n e V=>(cb _ e rfl rfl)
end
noncomputable def zS (gs:List (ag×List af)) (k:ag):List (ag×List af):=if (gs.map (·.1)).contains k then gs else gs++ [(k,[])]
noncomputable def Kp (gs:List (ag×List af)) (k:ag) (a:af):List (ag×List af):=gs.map fun e=>if e.1=k then (e.1,e.2++ [a]) else e
noncomputable def DZ (ns:List (ag×Int)) (gs:List (ag×List af)) (a:af):List (ag×List af):=match sorted? ns a.2 with |none=>gs |some k=>Kp (zS gs k) k a
noncomputable def iB (ns:List (ag×Int)) (its:List af):List (ag×List af):=its.foldl (DZ ns) []
noncomputable def jM (ns:List (ag×Int)) (its:List af) (k:ag):List af:=its.filter fun a=>decide (sorted? ns a.2=some k)
theorem oR {ns:List (ag×Int)} {its:List af} {a:af}:iB ns (its++ [a])=DZ ns (iB ns its) a:=by delta iB;rw [List.foldl_append];rfl
theorem uE {ns:List (ag×Int)} {its:List af} {a:af} {k:ag}:jM ns (its++ [a]) k=jM ns its k++if sorted? ns a.2=some k then [a] else []:=by
 delta jM
 rw [List.filter_append,List.filter_cons]
 by_cases q:sorted? ns a.2=some k
 ·simp [q]
 ·simp [q]
theorem BM {gs:List (ag×List af)} {k:ag} {a:af}:(Kp gs k a).map (·.1)=gs.map (·.1):=by
 delta Kp
 rw [List.map_map]
 refine List.map_congr_left fun e V=>?_
 show (if e.1=k then _ else e).1=e.1
 by_cases q:e.1=k
 ·rw [if_pos q]
 ·rw [if_neg q]
structure Ku (ns:List (ag×Int)) (its:List af) (gs:List (ag×List af)):Prop where
 nd:(gs.map (·.1)).Nodup
 mem:∀e∈gs,e.2=jM ns its e.1
 all:∀a∈its,∀k,sorted? ns a.2=some k→k∈gs.map (·.1)
 ne:∀e∈gs,e.2≠ []
 len:gs.length≤its.length
theorem EY {ns:List (ag×Int)}:∀(r:List af),Ku ns r.reverse (iB ns r.reverse)
 | []=>⟨by simp [iB],by simp [iB],by simp,by simp [iB],by simp [iB]⟩
 |a::r=>by
  have ih:=EY (ns:=ns) r
  rw [List.reverse_cons,oR]
  generalize iB ns r.reverse=gs at ih
  generalize r.reverse=its at ih
  unfold DZ
  cases hs:sorted? ns a.2 with
  |none=>
   refine ⟨ih.nd,fun e he=>?_,fun b hb k hk=>?_,ih.ne,by dsimp only;rw [List.length_append];have:=ih.len;omega⟩
   ·rw [uE,hs,if_neg (by simp),List.append_nil];exact ih.mem e he
   ·rcases List.mem_append.mp hb with hb |hb
    ·exact ih.all b hb k hk
    ·rw [List.mem_singleton.mp hb,hs] at hk;cases hk
  |some k=>
   dsimp only
   have nd1:((zS gs k).map (·.1)).Nodup:=by
    unfold zS
    by_cases q:(gs.map (·.1)).contains k=true
    ·rw [if_pos q];exact ih.nd
    ·rw [if_neg q,List.map_append,List.nodup_append]
     exact ⟨ih.nd,by simp,fun x hx y hy z=>q (by simp at hy;rw [←hy,←z];exact List.contains_iff_mem.mpr hx)⟩
   have mem1:∀e∈zS gs k,e.2=jM ns its e.1:=fun e he=>by
    unfold zS at he
    by_cases q:(gs.map (·.1)).contains k=true
    ·rw [if_pos q] at he;exact ih.mem e he
    ·rw [if_neg q] at he
     rcases List.mem_append.mp he with he |he
     ·exact ih.mem e he
     ·rw [List.mem_singleton.mp he]
      symm
      show jM ns its k= []
      unfold jM
      rw [List.filter_eq_nil_iff]
      intro b hb z
      exact q (List.contains_iff_mem.mpr (ih.all b hb k (of_decide_eq_true z)))
   have hk1:k∈(zS gs k).map (·.1):=by
    unfold zS
    by_cases q:(gs.map (·.1)).contains k=true
    ·rw [if_pos q];exact List.contains_iff_mem.mp q
    ·rw [if_neg q,List.map_append];simp
   have sub1:∀k',k'∈gs.map (·.1)→k'∈(zS gs k).map (·.1):=fun k' h=>by
    unfold zS
    by_cases q:(gs.map (·.1)).contains k=true
    ·rw [if_pos q];exact h
    ·rw [if_neg q,List.map_append];exact List.mem_append_left _ h
   refine ⟨by rw [BM];exact nd1,fun e he=>?_,fun b hb k' hk=>?_,fun e he=>?_,?_⟩
   ·unfold Kp at he
    obtain ⟨e1,he1,rfl⟩:=List.mem_map.mp he
    rw [uE,hs]
    by_cases q:e1.1=k
    ·rw [if_pos q,if_pos (by rw [q])]
     show e1.2++ [a]=_
     rw [mem1 e1 he1]
    ·rw [if_neg q,if_neg (fun z=>q (Option.some.inj z).symm),List.append_nil];exact mem1 e1 he1
   ·rw [BM]
    rcases List.mem_append.mp hb with hb |hb
    ·exact sub1 k' (ih.all b hb k' hk)
    ·rw [List.mem_singleton.mp hb,hs] at hk;cases hk;exact hk1
   ·unfold Kp at he
    obtain ⟨e1,he1,rfl⟩:=List.mem_map.mp he
    by_cases q:e1.1=k
    ·rw [if_pos q];simp
    ·rw [if_neg q]
     unfold zS at he1
     by_cases q2:(gs.map (·.1)).contains k=true
     ·rw [if_pos q2] at he1;exact ih.ne e1 he1
     ·rw [if_neg q2] at he1
      rcases List.mem_append.mp he1 with he1 |he1
      ·exact ih.ne e1 he1
      ·rw [List.mem_singleton.mp he1] at q;exact absurd rfl q
   ·unfold Kp zS
    rw [List.length_map]
    by_cases q:(gs.map (·.1)).contains k=true
    ·rw [if_pos q,List.length_append];have:=ih.len;omega
    ·rw [if_neg q,List.length_append,List.length_append];have:=ih.len;simp;exact this
theorem fT {ns:List (ag×Int)} {its:List af}:Ku ns its (iB ns its):=by have:=EY (ns:=ns) its.reverse;rwa [List.reverse_reverse] at this
noncomputable def bZ (ns:List (ag×Int)) (its:List af):List ag:=az (((iB ns its).map (·.1)).map bx) ((iB ns its).map (·.1))
noncomputable def gM (ns:List (ag×Int)) (ks:List ag):List (ag×Int):=ks.foldl (fun ns g=>(bb ns g).1) ns
noncomputable def eC (ns:List (ag×Int)) (its:List af) (g:ag):Int:=(aX (gM ns (bZ ns its)) g).getD 0
noncomputable def fK (sys:aT) (most:Int) (ns:List (ag×Int)) (its:List af) (k:Nat) (a:af):af:=(a.1,match sorted? ns a.2 with
 |none=>{a.2 with choice:=.un}
 |some g=>if ((bZ ns its).take k).contains g then bc (eC ns its g) (pW (dN sys most (jM ns its g)) a) a.2 else a.2)
noncomputable def aY (sys:aT) (most:Int) (ns:List (ag×Int)) (its:List af):List af:=its.map fun a=>(a.1,match sorted? ns a.2 with
 |none=>{a.2 with choice:=.un}
 |some g=>bc (eC ns its g) (pW (dN sys most (jM ns its g)) a) a.2)
noncomputable def cK (sys:aT) (most:Int) (ns:List (ag×Int)) (its:List af):List (ag×Int):=iM (gM ns (bZ ns its)) ((aY sys most ns its).map (·.2))
theorem za {ns:List (ag×Int)} {g:ag}:aX (bb ns g).1 g=some (bb ns g).2:=by
 cases q:aX ns g with
 |some i=>rw [eQ q];exact q
 |none=>
  rw [eL q]
  delta aX at q ⊢
  rw [List.lookup_append,q];simp
theorem DF {ns:List (ag×Int)} {g g':ag} {i:Int} (h:aX ns g=some i):aX (bb ns g').1 g=some i:=by
 cases q:aX ns g' with
 |some j=>rw [eQ q];exact h
 |none=>
  rw [eL q]
  delta aX at h ⊢
  rw [List.lookup_append,h];simp
theorem jy {g:ag} {i:Int}:∀{ks:List ag} {ns:List (ag×Int)},aX ns g=some i→aX (gM ns ks) g=some i
 | [],ns,h=>h
 |k::ks,ns,h=>jy (ks:=ks) (DF h)
theorem rS:∀{ks:List ag} {ns:List (ag×Int)},(gM ns ks).length≤ns.length+ks.length
 | [],ns=>Nat.le_refl _
 |k::ks,ns=>by
  have h:=rS (ks:=ks) (ns:=(bb ns k).1)
  have:(bb ns k).1.length≤ns.length+1:=by
   cases q:aX ns k with
   |some j=>rw [eQ q];exact Nat.le_succ _
   |none=>rw [eL q,List.length_append];simp
  show (gM (bb ns k).1 ks).length≤_
  rw [List.length_cons];lia
theorem Lz {ns:List (ag×Int)} {its:List af} {k:Nat} {g:ag} (e:(bZ ns its)[k]? =some g):(bb (gM ns ((bZ ns its).take k)) g).2=eC ns its g:=by
 delta eC
 have h1:gM ns (bZ ns its)=gM (bb (gM ns ((bZ ns its).take k)) g).1 ((bZ ns its).drop (k+1)):=by
  conv=>lhs;rw [←List.take_append_drop k (bZ ns its),qN e]
  delta gM
  rw [List.foldl_append,List.foldl_cons]
 rw [h1,jy za];rfl
theorem Dp {ns:List (ag×Int)} {ks:List ag} {k:Nat} {g:ag} (e:ks[k]? =some g):gM ns (ks.take (k+1))=(bb (gM ns (ks.take k)) g).1:=by
 delta gM
 rw [List.take_add_one,e,List.foldl_append];rfl
theorem pb {ns:List (ag×Int)} {its:List af} (h3:its.length≤3) {g:ag}:g∈bZ ns its↔g∈(iB ns its).map (·.1):=by
 have hl:((iB ns its).map (·.1)).length≤3:=by rw [List.length_map];exact Nat.le_trans fT.len h3
 refine ⟨jG hl g,fun h=>?_⟩
 delta bZ
 generalize (iB ns its).map (·.1)=ks at*
 by_cases c:ks.length <2
 ·rw [cX c];exact h
 ·refine cQ (cS (ks.map bx) c) fun x ex=>?_
  rw [ex]
  obtain ⟨i,hi,e⟩:=List.mem_iff_getElem.mp h
  exact List.mem_map.mpr (a9 i (Ac (Nat.le_of_not_lt c) hl i hi) (by rw [List.getD_eq_getElem?_getD,List.getElem?_eq_getElem hi,e];rfl))
theorem MY {sys:aT} {most:Int} {ns:List (ag×Int)} {its:List af} (h3:its.length≤3):its.map (fK sys most ns its (bZ ns its).length)=aY sys most ns its:=by
 refine List.map_congr_left fun a ha=>?_
 unfold fK
 cases hs:sorted? ns a.2 with
 |none=>rfl
 |some g=>
  dsimp only
  rw [List.take_length,if_pos (List.contains_iff_mem.mpr ((pb h3).mpr (fT.all a ha g hs)))]
theorem Jp {sys:aT} {most:Int} {ns:List (ag×Int)} {its:List af} {a:af}:fK sys most ns its 0 a=(a.1,kY ns a.2):=by
 unfold fK kY
 cases sorted? ns a.2<;>rfl
theorem M5 {n:Nat} (h2:2≤n) (h3:n≤3):xU n (fun p:Array Nat=>decide p.toList.Nodup) (kas_sort n)=true:=by
 obtain rfl |rfl:=PD h2 h3
 ·decide+kernel
 ·decide+kernel
theorem wi {n:Nat} {lt:Nat→Nat→Bool} (h2:2≤n) (h3:n≤3):(dw n lt).Nodup:=of_decide_eq_true (lH (p:=fun p:Array Nat=>decide p.toList.Nodup) _ (M5 h2 h3))
theorem gB {α β:Type} {f:α→β}:∀{l:List α},l.Nodup→(∀x∈l,∀y∈l,f x=f y→x=y)→(l.map f).Nodup
 | [],_,_=>by simp
 |a::l,n,h=>by
  rw [List.nodup_cons] at n
  rw [List.map_cons,List.nodup_cons]
  refine ⟨fun q=>?_,gB n.2 fun x hx y hy=>h x (by simp [hx]) y (by simp [hy])⟩
  obtain ⟨b,hb,e⟩:=List.mem_map.mp q
  exact n.1 (h b (by simp [hb]) a (.head _) e▸hb)
theorem vT {α:Type} {l:List α} (n:l.Nodup) {i j:Nat} (hi:i <l.length) (hj:j <l.length) (e:l[i]=l[j]):i=j:=by
 have p:=List.pairwise_iff_getElem.mp n
 rcases Nat.lt_trichotomy i j with q |q |q
 ·exact absurd e (p i j hi hj q)
 ·exact q
 ·exact absurd e.symm (p j i hj hi q)
theorem ja {α:Type} {kds:List D} {xs:List α} (h3:xs.length≤3) (n:xs.Nodup):(az kds xs).Nodup:=by
 by_cases c:xs.length <2
 ·rw [cX c];exact n
 ·refine cQ (cS kds c) fun x ex=>?_
  rw [ex]
  refine gB (wi (Nat.le_of_not_lt c) h3) fun i hi j hj e=>?_
  have li:=gG (Nat.le_of_not_lt c) h3 i hi
  have lj:=gG (Nat.le_of_not_lt c) h3 j hj
  rw [List.getD_eq_getElem?_getD,List.getD_eq_getElem?_getD,List.getElem?_eq_getElem li,List.getElem?_eq_getElem lj] at e
  exact vT n li lj e
theorem yV {ns:List (ag×Int)} {its:List af} (h3:its.length≤3):(bZ ns its).Nodup:=
 ja (by rw [List.length_map];exact Nat.le_trans fT.len h3) fT.nd
theorem uz {ns:List (ag×Int)} {its:List af} (h3:its.length≤3):(bZ ns its).length≤3:=by
 delta bZ
 have:((iB ns its).map (·.1)).length≤3:=by rw [List.length_map];exact Nat.le_trans fT.len h3
 rw [dW this];exact this
theorem CV {α:Type} {l:List α} {k:Nat} {a:α} (n:l.Nodup) (e:l[k]? =some a):a∉l.take k:=fun q=>by
 obtain ⟨i,hi,e2⟩:=List.mem_iff_getElem.mp q
 rw [List.getElem_take] at e2
 rw [List.length_take] at hi
 obtain ⟨hk,e1⟩:=List.getElem?_eq_some_iff.mp e
 have:=vT n (i:=i) (j:=k) (MQ hi) hk (e2.trans e1.symm)
 exact PX hi this
noncomputable def iF (a:af):D:=.tup [.str (ai.s a.2.choice),c5 a.2.bundle]
theorem x8:∀(xs ys:List af),lp (xs.map iF) (ys.map iF)=((xs.map fun a=>(a.2.choice,a.2.bundle))==ys.map fun a=>(a.2.choice,a.2.bundle))
 | [],[]=>by simp [lp,D.pys,PyData.eqv,PyData.eqvAll]
 | [],_::_=>by simp [lp,D.pys,PyData.eqv,PyData.eqvAll]
 |_::_,[]=>by simp [lp,D.pys,PyData.eqv,PyData.eqvAll]
 |x::xs,y::ys=>by
  have ih:=x8 xs ys
  unfold lp at ih ⊢
  simp only [PyData.eqv] at ih
  simp only [List.map_cons,D.pys,PyData.eqv,PyData.eqvAll]
  rw [ih]
  have e1:PyData.eqv (D.py (iF x)) (D.py (iF y))=(x.2.choice==y.2.choice&&x.2.bundle==y.2.bundle):=by
   unfold iF
   simp only [D.py,D.pys,PyData.eqv,PyData.eqvAll,Bool.and_true]
   have h1:=pZ x.2.choice y.2.choice
   have h2:=jY x.2.bundle y.2.bundle
   unfold D.eqv at h1 h2
   simp only [D.py,PyData.eqv] at h1
   rw [h1,h2]
  rw [e1];rfl
theorem mG:∀{xs:List af},D.flats 9 (xs.map iF)=true
 | []=>rfl
 |x::xs=>by
  rw [List.map_cons,D.flats,mG (xs:=xs),Bool.and_true]
  show D.flats 8 [.str (ai.s x.2.choice),c5 x.2.bundle]=true
  simp only [D.flats,Bool.and_true]
  have:∀o:Option Int,(c5 o).flat 8=true:=fun o=>by cases o<;>rfl
  rw [this,Bool.and_true]
  cases x.2.choice<;>decide+kernel
section
variable {w:World} {KK:Type} [DecidableEq KK] {c:tx KK} {kds:List (KK×D)} {k:KK} {es:List D}
theorem H8 {pl:Sem Bool} (R:Rm n A) (ho:Ev w A env h0 m o (.ref nd)) (hi:Ev w A env h0 m i (c.enc k)) (x:cM w c h0 nd kds) (lo:(nd==sysModules)=false)
  (he:autoParam (starEach [i] env=(false,eval i env)::starEach [] env) aR)
  (hm:autoParam (eval (.Call (.Attribute o "get" p1) [i] [] pos) env=(do
   let ov←eval o env
   standAt p1.atName
   let (f,first)←holding [ov] (getMethod ov "get" pl)
   callWith pos f first (backTo pos (starEach [i] env)) [])) aR):Ev w A env h0 m (.Call (.Attribute o "get" p1) [i] [] pos) ((fu kds k).getD .none):=by
 intro s ha
 refine iy (pl:=pl) PySem.F.slot_dict_get PySem.F.type_dict_get PySem.F.plainAttrs_dict ((ho s ha).mono fun v h1=>av fun k1 r1=>?_) he (by rfl) hm
 cases r1
 have x1:=x.sub (ha.sub.trans k1)
 refine ar (x1.obj (s:={s with heap:=h1})) fun ob b1 b2 b3=>?_
 refine ⟨(dm _ ob rfl b1 b2 b3),fun t1=>bS ((hi (sh s h1 t1) (ha.step k1)).mono fun v2 h2=>av fun k2 r2=>(⟨k2,r2⟩:Sub h1 h2∧RD h2 v2 (c.enc k))) (fun v2 h2=>av fun k2 r2 t2=>?_) he⟩
 refine cQ (c.tup k) fun ds hd=>?_
 refine cn ((hd▸r2:RD h2 v2 (.tup ds)).isTup) fun a vs q ea V=>?_
 subst ea
 exact (Hm R (x1.sub k2) lo r2).mono fun u h3=>av fun k3 ru=>⟨(k1.trans k2).trans k3,ru⟩
theorem GQ (R:Rm n A) (h1:su w A env h0 m e1 ds) (h2:Ev w A env h0 m e2 (.ref l)) (L2:cN h0 l es) (f1:D.flats 9 ds=true) (f2:D.flats 9 es=true) (hm:autoParam (behindInMarks .NotEq e2=false) aW):Ev w A env h0 m (.Compare e1 [.NotEq] [e2] pos) (.bool (!lp ds es)):=by
 intro s k Q E q
 refine wpAny_Compare1 (h1 s k _ _ fun v1 g1 t1=>aM fun k1 a ea L1 V=>?_) hm
 refine h2 (sh s g1 t1) (k.step k1) _ _ fun v2 g2 t2=>av fun k2 r2=>?_
 subst ea
 cases r2
 refine cQ ((L1.sub k2).reads f1) fun as ra=>?_
 refine cQ ((L2.sub (k.sub.trans (k1.trans k2))).reads f2) fun bs rb=>?_
 exact SeqAt.compareNe_reads ra rb (iR f1).1 (iR f2).1 (PM R.u (Nat.le_trans (iR f1).2 (Nat.le_of_ble_eq_true rfl))) (q _ g2 t2 ⟨k1.trans k2,.bool _⟩)
end
noncomputable def qM:Stmt→List Stmt | .For _ _ b _ _=>b |_=>[]
section
variable {ns:List (ag×Int)}
noncomputable def nE (ns:List (ag×Int)) (a:af):af:=(a.1,kY ns a.2)
noncomputable def dxs (its:List af):List Addr:=its.map (·.1.dx)
theorem N9 {ns:List (ag×Int)} {g:ag}:(fu (qx ns) g).getD .none=c5 (aX ns g):=by
 rw [j7]
 cases aX ns g<;>rfl
noncomputable def mS (ns:List (ag×Int)) (its:List af) (es:List (ag×Addr×List D)):Prop:=es.map (fun e=>(e.1,e.2.2))=(iB ns its).map fun e=>(e.1,e.2.map ba)
theorem Mn {gs:List (ag×List af)} {es:List (ag×Addr×List D)} {k:ag} {y:Addr} {a:af} (h:es.map (fun e=>(e.1,e.2.2))=gs.map fun e=>(e.1,e.2.map ba)):
  (v9 (mY es k y) k (ba a)).map (fun e=>(e.1,e.2.2))=(Kp (zS gs k) k a).map fun e=>(e.1,e.2.map ba):=by
 have h1:es.map (·.1)=gs.map (·.1):=by
  have:=congrArg (List.map (·.1)) h
  rwa [List.map_map,List.map_map] at this
 have h2:(mY es k y).map (fun e=>(e.1,e.2.2))=(zS gs k).map fun e=>(e.1,e.2.map ba):=by
  delta mY zS
  rw [h1]
  by_cases q:(gs.map (·.1)).contains k=true
  ·rw [if_pos q,if_pos q];exact h
  ·rw [if_neg q,if_neg q,List.map_append,List.map_append,h];rfl
 generalize mY es k y=e1 at h2
 generalize zS gs k=g1 at h2
 delta v9 Kp
 clear h h1
 induction e1 generalizing g1 with
 |nil=>cases g1 with |nil=>rfl |cons=>simp at h2
 |cons x e1 ih=>
  cases g1 with
  |nil=>simp at h2
  |cons z g1=>
   simp only [List.map_cons,List.cons.injEq,Prod.mk.injEq] at h2
   simp only [List.map_cons,List.cons.injEq]
   refine ⟨?_,ih _ h2.2⟩
   by_cases q:x.1=k
   ·rw [if_pos q,if_pos (h2.1.1▸q)]
    simp [h2.1.1,h2.1.2]
   ·rw [if_neg q,if_neg (h2.1.1▸q)]
    simp [h2.1.1,h2.1.2]
theorem Jh {its:List af} {es:List (ag×Addr×List D)} (r:mS ns its es):es.length≤its.length∧∀e∈es,e.2.2.length≤its.length:=by
 have hl:=congrArg List.length r
 rw [List.length_map,List.length_map] at hl
 refine ⟨by rw [hl];exact fT.len,fun e he=>?_⟩
 have:(e.1,e.2.2)∈es.map fun e=>(e.1,e.2.2):=List.mem_map_of_mem (f:=fun e:ag×Addr×List D=>(e.1,e.2.2)) he
 rw [r] at this
 refine ab (List.mem_map.mp this) fun z hz ez=>?_
 rw [←(Prod.mk.inj ez).2,List.length_map,fT.mem z hz]
 exact List.length_filter_le ..
end
theorem va {w:World} {A:Around} {env:Env} {s:Shared} {pos:Pos} {KK:Type} [DecidableEq KK] {c:tx KK} (P:cA w s.heap):bg w A (eval (.Dict [] [] pos) env) s fun v h'=>∃a,v= .ref a∧Sub s.heap h'∧s.heap.get? a=none∧cM w c h' a ([]:List (KK×D))∧(a==sysModules)=false:=by
 intro Q E q
 refine cI P.t fun p l mg mb t=>?_
 exact wpAny_Dict_empty (q _ _ s.toks (wI _ rfl (Sub.push _) (aA (Nat.le_refl _)) ⟨[],.new _,rfl,.nil⟩ (beq_eq_false_iff_ne.mpr (Nat.ne_of_gt (modules_low t.nolimit)))))
section
variable {ns:List (ag×Int)}
theorem HX {p:af→Bool}:(oO ((its.filter p).map (·.1))).Sublist (oO (its.map (·.1))):=by
 delta oO
 induction its with
 |nil=>exact List.Sublist.refl _
 |cons a its ih=>
  rw [List.filter_cons]
  by_cases q:p a=true
  ·rw [if_pos q,List.map_cons,List.map_cons,List.flatMap_cons,List.flatMap_cons]
   exact (List.Sublist.refl _).append ih
  ·rw [if_neg q,List.map_cons,List.flatMap_cons]
   exact ih.trans (List.sublist_append_right _ _)
theorem qQ {its:List af} {k:ag}:∀a∈jM ns its k,a∈its∧sorted? ns a.2=some k:=fun a ha=>⟨(List.mem_filter.mp ha).1,of_decide_eq_true (List.mem_filter.mp ha).2⟩
theorem vd {sys:aT} {most:Int} {k:Nat}:(its.map (fK sys most ns its k)).map (·.1)=its.map (·.1):=by rw [List.map_map];rfl
theorem ub {ks:List ag}:dO (ks.map bx):=by
 refine ⟨fun d hd e he=>?_,.inr (.inl fun d hd=>?_)⟩
 ·refine ab (List.mem_map.mp hd) fun a V zr17=>?_;subst zr17
  refine ab (List.mem_map.mp he) fun b V zr18=>?_;subst zr18
  rfl
 ·refine ab (List.mem_map.mp hd) fun a V zr19=>?_;subst zr19
  exact J9 _ _ rfl
noncomputable def d4 (sys:aT) (most:Int) (ns:List (ag×Int)) (its:List af):Bool:=!(((aY sys most ns its).map fun a=>(a.2.choice,a.2.bundle))==its.map fun a=>(a.2.choice,a.2.bundle))
end
theorem oX {α:Type} {n:Nat} {p:α→Bool} {lt lt':Nat→Nat→Bool} (h:∀i j,i <n→j <n→lt i j=lt' i j):∀(t:KasT α),xU n p t=true→nP lt t=nP lt' t
 | .ret a,_=>rfl
 | .ask i j k,e=>by
  simp only [xU,Bool.and_eq_true,decide_eq_true_eq] at e
  show nP lt (k (lt i j))=nP lt' (k (lt' i j))
  rw [h i j e.1.1.1 e.1.1.2]
  cases lt' i j with
  |true=>exact oX h _ e.1.2
  |false=>exact oX h _ e.2
theorem vJ {n:Nat} {lt lt':Nat→Nat→Bool} (h2:2≤n) (h3:n≤3) (h:∀i j,i <n→j <n→lt i j=lt' i j):dw n lt=dw n lt':=by
 delta dw
 rw [oX h _ (uJ h2 h3)]
theorem zD:dw 2 (fun i j=>decide (i <j))= [0,1]:=by decide+kernel
theorem Au:dw 3 (fun i j=>decide (i <j))= [0,1,2]:=by decide+kernel
theorem CD {α:Type} {kds:List D} {xs:List α} (h3:xs.length≤3) (h:∀i j,i <xs.length→j <xs.length→bK kds i j=decide (i <j)):az kds xs=xs:=by
 by_cases c:xs.length <2
 ·exact cX c
 ·refine cQ (cS kds c) fun x e=>?_
  rw [e,vJ (Nat.le_of_not_lt c) h3 h]
  clear e
  match xs,c,h3 with
  | [a,b],_,_=>rw [show ([a,b]:List α).length=2 from rfl,zD];rfl
  | [a,b,d],_,_=>rw [show ([a,b,d]:List α).length=3 from rfl,Au];rfl
  |_::_::_::_::_,_,h=>simp at h
  | [],c,_=>simp at c
  | [a],c,_=>simp at c
theorem Du {xs:List Int} (h3:xs.length≤3) (asc:xs.Pairwise (· < ·)):az (xs.map D.int) xs=xs:=by
 refine CD h3 fun i j hi hj=>?_
 delta bK
 rw [List.getD_eq_getElem?_getD,List.getD_eq_getElem?_getD,List.getElem?_map,List.getElem?_map,List.getElem?_eq_getElem hi,List.getElem?_eq_getElem hj]
 show decide (xs[i] <xs[j])=_
 have p:=List.pairwise_iff_getElem.mp asc
 rw [decide_eq_decide]
 constructor
 ·intro h
  rcases Nat.lt_trichotomy i j with q |q |q
  ·exact q
  ·subst q;lia
  ·have:=p j i hj hi q;lia
 ·exact p i j hi hj
theorem yN {xs:List Int}:dO (xs.map D.int):=by
 refine ⟨fun d hd e he=>?_,.inl fun d hd=>?_⟩
 ·refine ab (List.mem_map.mp hd) fun a V zr24=>?_;subst zr24
  refine ab (List.mem_map.mp he) fun b V zr25=>?_;subst zr25
  rfl
 ·refine ab (List.mem_map.mp hd) fun a V zr26=>?_;subst zr26
  exact ⟨_,rfl⟩
noncomputable def dK (a:Int) (n:Nat):List D:=(List.range n).map fun (i:Nat)=>.int (a+i)
theorem rE (P:Params):nsIn (K P) mainGlobals "range"=some none:=by kernel_rfl
theorem AB (P:Params):nsIn (K P) mainGlobals "len"=some none:=by kernel_rfl
section
variable {w:World} {x:Addr}
theorem mH {r:Addr} {a:Int} {n:Nat} {t u v:Tok} (hh:A.handled=none) (ha: -1000≤a∧a≤1000) (hn:n≤1000) (hr:IsRange s.heap r a (a+n) 1 t u v):bg w A (pyIter (.ref r)) s fun it h2=>it= .ref s.heap.objs.size∧Sub s.heap h2∧qu w A s.heap s.heap.objs.size r h2 (dK a n):=by
 intro Q E q
 have hsz:Builtin.Range.rangeSize a (a+n) 1=n:=by rw [rangeSize_one];split<;>lia
 refine wpAny_pyIter_range hr (small_one (by omega) (by omega) (by omega) (by omega)) (q _ _ s.toks ⟨rfl,Sub.push _,⟨[s.heap.objs.size],fun i v=>i <n∧∃t,v= .int (a+i*1) t,fun i h=>IsRangeIter h s.heap.objs.size (a+(i:Nat)*1) ((n:Int) - (i:Nat)) 1,?_,?_,fun b hb=>.inl (by simpa using hb),fun i h st b hb=>?_,fun i v hv=>?_,fun i h st vs k e=>?_⟩,aA (Nat.le_refl _)⟩)
 ·have:=Walks.range (prog:=pw) (w:=w) hh s.heap.objs.size a 1 n
  rw [show (dK a n).length=n by delta dK;rw [List.length_map,List.length_range]]
  exact {this with item:=fun i s Q E hi st hQ=>this.item i s Q E hi st fun v h' tk hp=>hQ v h' tk ⟨hi,hp⟩}
 ·show IsRangeIter _ _ _ _ _
  rw [hsz]
  simpa using Heap.get?_push_size _ rfl
 ·rw [List.mem_singleton.mp hb];exact ⟨_,st⟩
 ·refine u3 hv fun hi t zr27=>?_;subst zr27
  refine a9 (.int (a+i*1)) ?_ (.int _ _)
  delta dK
  rw [List.getElem?_map,List.getElem?_range hi,Int.mul_one];rfl
 ·have st':h.get? s.heap.objs.size=_:=st
  rw [e] at st';exact ia st' (fun z=>absurd (Value.type.inj z) (by decide)) (fun z=>absurd (Value.type.inj z) (by decide))
theorem m9 (hh:A.handled=none) (ha:At env h0 m s.heap) (P:cA w h0) (hg:env.globals=mainGlobals) (hb:env.builtins=builtinsNs) {n:Nat} (hn:n≤1000) (he:Ev w A env h0 m e (.int n))
  (hk:autoParam (env.scope.kind= .function) aF) (hx:autoParam (env.kindOf "range"=some .globalImplicit) aG) (hea:autoParam (starEach [e] env=(false,eval e env)::starEach [] env) aR):
  bg w A (eval (.Call (.Name "range" p1) [e] [] pos) env) s fun v h1=>Sub s.heap h1∧∀t1,bg w A (pyIter v) (sh s h1 t1) fun it h2=>Sub h1 h2∧∃I src,it= .ref I∧qu w A s.heap I src h2 (dK 0 n)∧s.heap.get? src=none∧src≠I∧∃o,h2.get? src=some o:=by
 refine fC ha P hg hb (rE _) boot_range (fun t=>bS (R0:=fun v h1=>Sub s.heap h1∧RD h1 v (.int n)) (he {s with toks:=t} ha) (fun v h1=>av fun k1 r1 t1=>?_) hea) (by decide) hk hx (by decide) hea (by rfl)
 refine EO r1 fun tk ez0=>?_;subst ez0
 intro Q E q
 refine call_range_1 (q _ _ _ ⟨k1.trans (Sub.push _),fun t2=>?_⟩)
 refine (mH (a:=0) (n:=n) hh (by lia) hn (by rw [Int.zero_add];exact Heap.get?_push_size _ rfl)).mono ?_
 intro it h3 zq
 refine cB zq fun e k3 J=>?_
 exact ⟨k3,_,_,e,J.less (k1.trans (Sub.push _)),aS (aA (Nat.le_refl _)) k1,Nat.ne_of_lt (by rw [size_push'];exact Nat.lt_succ_self _),_,k3 _ _ (Heap.get?_push_size _ rfl)⟩
theorem rf (hh:A.handled=none) (ha:At env h0 m s.heap) (P:cA w h0) (hg:env.globals=mainGlobals) (hb:env.builtins=builtinsNs) {n:Nat} {a:Int} (ha': -1000≤a∧a≤1000) (hn:n≤1000) (he1:Ev w A env h0 m e1 (.int a)) (he2:Ev w A env h0 m e2 (.int (a+n)))
  (hk:autoParam (env.scope.kind= .function) aF) (hx:autoParam (env.kindOf "range"=some .globalImplicit) aG) (hea:autoParam (starEach [e1,e2] env=(false,eval e1 env)::starEach [e2] env) aR) (hea2:autoParam (starEach [e2] env=(false,eval e2 env)::starEach [] env) aR) (hpl:autoParam ((backTo pos (starEach [e2] env)).any (·.1)=false) aE):
  bg w A (eval (.Call (.Name "range" p1) [e1,e2] [] pos) env) s fun v h1=>Sub s.heap h1∧∀t1,bg w A (pyIter v) (sh s h1 t1) fun it h2=>Sub h1 h2∧∃I src,it= .ref I∧qu w A s.heap I src h2 (dK a n)∧s.heap.get? src=none∧src≠I∧∃o,h2.get? src=some o:=by
 refine fC ha P hg hb (rE _) boot_range ((dF he1 (dF he2 gC hea2) hea).go ha fun vs h1 k1 rs t1=>?_) (by decide) hk hx (by decide) hea hpl
 cases rs with |cons r1 rs=>
 cases rs with |cons r2 rs=>
 cases rs
 cases r1
 cases r2
 intro Q E q
 refine call_range_2 (q _ _ _ ⟨k1.trans (Sub.push _),fun t2=>?_⟩)
 refine (mH (a:=a) (n:=n) hh ha' hn (Heap.get?_push_size _ rfl)).mono ?_
 intro it h3 zq
 refine cB zq fun e k3 J=>?_
 exact ⟨k3,_,_,e,J.less (k1.trans (Sub.push _)),aS (aA (Nat.le_refl _)) k1,Nat.ne_of_lt (by show h1.objs.size <(h1.objs.push _).size;rw [Array.size_push];exact Nat.lt_succ_self _),_,k3 _ _ (Heap.get?_push_size _ rfl)⟩
noncomputable def Kz (w:World) (A:Around) (h0:Heap) (f:Addr) (args:List D) (ds:List D):Prop:=
 ∀s vs,Sub h0 s.heap→bp s.heap vs args→bg w A (call (.ref f) vs) s fun v h'=>Sub s.heap h'∧∃a,v= .ref a∧cN h' a ds∧s.heap.get? a=none
theorem CB {pl:Sem Bool} (P:cA w h0) (ho:Ev w A env h0 m o (.ref x)) (O:Ob w h0 x C dx fs) (om:de (K w.params) C name f=true) (gn:fs.lookup name=none) (fn:Kz w A h0 f [.ref x] ds)
  (hm:autoParam (eval (.Call (.Attribute o name p1) [] [] pos) env=(do
   let ov←eval o env
   standAt p1.atName
   let (f,first)←holding [ov] (getMethod ov name pl)
   callWith pos f first (backTo pos (starEach [] env)) [])) aR):su w A env h0 m (.Call (.Attribute o name p1) [] [] pos) ds:=by
 intro s ha
 refine u6 ha P ho O om gn (fun h1 t1 k1=>(fn (sh s h1 t1) _ (ha.sub.trans k1) (.cons (.ref x) .nil)).mono fun v h2=>aM fun k2 a e L n=>fA (k1.trans k2) a e L (aS n k1)) hm
theorem Hb {pl:Sem Bool} {r:List Expr} {es:List D} (P:cA w h0) (ho:Ev w A env h0 m o (.ref x)) (O:Ob w h0 x C dx fs) (om:de (K w.params) C name f=true) (gn:fs.lookup name=none) (ev:Cj w A env h0 m (e::r) es) (fn:Kz w A h0 f (.ref x::es) ds)
  (he:autoParam (starEach (e::r) env=(false,eval e env)::starEach r env) aR) (hpl:autoParam ((backTo pos (starEach r env)).any (·.1)=false) aE)
  (hm:autoParam (eval (.Call (.Attribute o name p1) (e::r) [] pos) env=(do
   let ov←eval o env
   standAt p1.atName
   let (f,first)←holding [ov] (getMethod ov name pl)
   callWith pos f first (backTo pos (starEach (e::r) env)) [])) aR):su w A env h0 m (.Call (.Attribute o name p1) (e::r) [] pos) ds:=by
 intro s ha
 refine yX ha P ho O om gn ev (fun vs h1 t1 k1 rs=>(fn (sh s h1 t1) _ (ha.sub.trans k1) (.cons (.ref x) rs)).mono fun v h2=>aM fun k2 a e L n=>fA (k1.trans k2) a e L (aS n k1)) he hpl hm
end
set_option genInjectivity false in
structure BC where
 B:Addr
 dB:Addr
 pd:Addr
 c:EC
noncomputable def Np (b:BC):List (Str×D):=[("ports",.ref b.pd),("chooser",.ref b.c.C)]
noncomputable def iL (its:List af):List Int:=its.map (·.2.row.number)
noncomputable def qv (its:List af):List (Int×D):=its.map fun a=>(a.2.row.number,.ref a.1.x)
structure CP (w:World) (h:Heap) (b:BC) (its:List af) (ns:List (ag×Int)):Prop where
 e:QJ w h b.c its ns
 o:Ob w h b.B 488 b.dB (Np b)
 d:nh (intKind pw w) h b.pd (qv its)
noncomputable def BF (b:BC) (pas:List PA):List Addr:=EF b.c pas++ [b.B,b.dB,b.pd]
section
variable {w:World} {b:BC} {ns:List (ag×Int)} {pas:List PA} {k:Int}
theorem Ny (e:its.map (·.1)=pas):ng (BF b pas) fun h=>CP w h b its ns:=by
 have:=(Oi (w:=w) (c:=b.c) (ns:=ns) e).and ((jd (w:=w) (x:=b.B) (C:=488) (dx:=b.dB) (fs:=Np b)).and (jD (knd:=intKind pw w) (a:=b.pd) (kds:=qv its)))
 exact ⟨fun h h' X t k=>cB (this.mo h h' ⟨X.1,X.2,X.3⟩ t k) fun a b c=>⟨a,b,c⟩,fun h X=>this.ex h ⟨X.1,X.2,X.3⟩⟩
theorem KO (nd:(iL its).Nodup) (ha:a∈its):fu (qv its) a.2.row.number=some (.ref a.1.x):=by
 delta fu qv
 delta iL at nd
 induction its with
 |nil=>simp at ha
 |cons z its ih=>
  rw [List.map_cons,List.nodup_cons] at nd
  rw [List.map_cons,List.find?_cons]
  rcases List.mem_cons.mp ha with rfl |ha
  ·simp
  ·have:z.2.row.number≠a.2.row.number:=fun q=>nd.1 (q▸List.mem_map_of_mem (f:=fun a:af=>a.2.row.number) ha)
   simp only [this,decide_false]
   exact ih nd.2 ha
theorem lO:∀{xs:List Int},xs.Pairwise (· < ·)→xs.Nodup:=fun p=>p.imp fun h=>Int.ne_of_lt h
end
section
variable {w:World} {i j:Int}
theorem fj (hm:IntMulOk i j):DK w A h0 .Mult (.int i) (.int j) (.int (i*j)):=fun s v1 v2 V r1 r2 Q E q=>by cases r1;cases r2;exact PyProof.Rows.mul_int (q _ s.heap _ ⟨Sub.rfl',.int _ _⟩) hm
theorem Ls (hh:A.handled=none) (P:cA w h0) (hg:env.globals=mainGlobals) (hb:env.builtins=builtinsNs) (he:Ev w A env h0 m e (.ref l)) (L:cN h0 l ds) (hz:ds.length≤1000)
  (hk:autoParam (env.scope.kind= .function) aF) (hx:autoParam (env.kindOf "len"=some .globalImplicit) aG) (hea:autoParam (starEach [e] env=(false,eval e env)::starEach [] env) aR):Ev w A env h0 m (.Call (.Name "len" p1) [e] [] pos) (.int ds.length):=by
 intro s ha
 refine d7 ha P hg hb (AB _) boot_len (fun t=>bS (R0:=fun v h1=>Sub s.heap h1∧RD h1 v (.ref l)) (he {s with toks:=t} ha) (fun v h1=>av fun k1 r1 t1=>?_) hea) (by decide) hk hx (by decide) hea (by rfl)
 cases r1
 intro Q E q
 refine ao (L.sub (ha.sub.trans k1)) fun vs n el r=>?_
 have hl:=r.length
 refine call_len_list (bL el) (by rw [List.size_toArray,hl];lia) (q _ _ _ ⟨k1,?_⟩)
 rw [List.size_toArray,hl];exact .int _ _
theorem IB {hO:Heap} {tO:Nat} (h:bg w A (eval e1 env) (sh s hO tO) fun v h1=>∃b,v= .bool b∧if b=true then R (.bool true) h1 else∀t1,bg w A (eval e2 env) (sh s h1 t1) R):bg w A (eval (.BoolOp .Or [e1,e2] pos) env) (sh s hO tO) R:=by
 intro Q E q
 refine BoolOp_or (h _ _ fun v h1 t1=>sH fun b e z=>?_)
 subst e
 refine wpAny_truthy_bool ?_
 cases b with
 |true=>exact q _ h1 t1 z
 |false=>exact BoolOp_one (z t1 Q E q)
end
noncomputable def jc (its:List af) (j:Nat):List af:=match its[j]? with |none=>its |some a=>its.set j (a.1,bW a.2 (cx (its.map (·.2)) a.2.bundle))
noncomputable def yA (its:List af) (j:Nat):Bool:=match its[j]? with |none=>false |some a=>steps a.2 (cx (its.map (·.2)) a.2.bundle)
noncomputable def cC (its:List af):Nat→List af |0=>its |j+1=>jc (cC its j) j
noncomputable def ud (c0:Bool) (its:List af):Nat→Bool |0=>c0 |j+1=>yA (cC its j) j||ud c0 its j
structure EI where
 its:List af
 ns:List (ag×Int)
noncomputable def bA (sys:aT) (most:Int) (e:EI):EI:=let its1:=aY sys most e.ns e.its;⟨cC its1 its1.length,cK sys most e.ns e.its⟩
noncomputable def h9 (sys:aT) (most:Int) (e:EI):Bool:=let its1:=aY sys most e.ns e.its;ud (d4 sys most e.ns e.its) its1 its1.length
noncomputable def iC (sys:aT) (most:Int):Nat→EI→Option EI
 |0,_=>none
 |k+1,e=>if 400 <e.ns.length then none else if h9 sys most e then iC sys most k (bA sys most e) else some (bA sys most e)
noncomputable def ax (its its':List af):Prop:=its'.map (fun a=>(a.1,a.2.row))=its.map fun a=>(a.1,a.2.row)
theorem ax.pas {its its':List af} (e:ax its its'):its'.map (·.1)=its.map (·.1):=by
 have:=congrArg (List.map (·.1)) e
 rwa [List.map_map,List.map_map] at this
theorem ax.nums {its its':List af} (e:ax its its'):iL its'=iL its:=by
 have:=congrArg (List.map fun x:PA×pK=>x.2.number) e
 rwa [List.map_map,List.map_map] at this
theorem ax.pd {its its':List af} (e:ax its its'):qv its'=qv its:=by
 have:=congrArg (List.map fun x:PA×pK=>(x.2.number,D.ref x.1.x)) e
 rwa [List.map_map,List.map_map] at this
theorem ax.refs {its its':List af} (e:ax its its'):its'.map ba=its.map ba:=by
 have:=congrArg (List.map fun x:PA×pK=>D.ref x.1.x) e
 rwa [List.map_map,List.map_map] at this
theorem ax.len {its its':List af} (e:ax its its'):its'.length=its.length:=by have:=congrArg List.length e;rwa [List.length_map,List.length_map] at this
theorem ax.dxs {its its':List af} (e:ax its its'):dxs its'=dxs its:=by
 have:=congrArg (List.map fun x:PA×pK=>x.1.dx) e
 rwa [List.map_map,List.map_map] at this
theorem ax.refl {its:List af}:ax its its:=rfl
theorem ax.trans {a b c:List af} (x:ax a b) (y:ax b c):ax a c:=Eq.trans (show c.map _=b.map _ from y) x
theorem i4 {its:List af} {j:Nat} {a:af} {p':ah} (e:its[j]? =some a) (hr:p'.row=a.2.row):ax its (its.set j (a.1,p')):=by
 delta ax
 apply List.ext_getElem?
 intro i
 rw [List.getElem?_map,List.getElem?_map,List.getElem?_set]
 by_cases q:j=i
 ·subst q
  rw [if_pos rfl,if_pos (List.getElem?_eq_some_iff.mp e).1,e]
  simp [hr]
 ·rw [if_neg q]
theorem xt {p:ah} {b:Bool}:(bW p b).row=p.row:=by
 delta bW
 have hm:∀(u:eR) (bs:List Nat) (p:ah),(bs.foldl (bk u) p).row=p.row:=fun u bs=>by
  induction bs with
  |nil=>intro p;rfl
  |cons b bs ih=>
   intro p
   rw [List.foldl_cons,ih]
   delta bk
   dsimp only
   split<;>rfl
 have h2:∀u,(cz p u).row=p.row:=fun u=>by delta cz;rw [hm]
 dsimp only
 split
 ·rfl
 ·split<;>split<;>first |exact h2 _ |(show (cz p _).row=_;exact h2 _)
set_option tactic.hygienic true in
theorem AQ {its:List af} {j:Nat}:ax its (jc its j):=by
 delta jc
 split
 ·exact ax.refl
 ·rename_i a e;exact i4 e xt
theorem pN {its:List af}:∀{j:Nat},ax its (cC its j)
 |0=>ax.refl
 |j+1=>(pN (j:=j)).trans AQ
theorem mw {sys:aT} {most:Int} {ns:List (ag×Int)} {its:List af}:ax its (aY sys most ns its):=by
 unfold ax aY
 rw [List.map_map]
 refine List.map_congr_left fun a V=>?_
 simp only [Function.comp]
 split
 ·rfl
 ·delta bc
  split<;>rfl
theorem pT {sys:aT} {most:Int} {e:EI}:ax e.its (bA sys most e).its:=mw.trans pN
noncomputable def Nr (sys:aT) (most:Int) (e:EI):Nat→EI |0=>e |i+1=>bA sys most (Nr sys most e i)
theorem BH {sys:aT} {most:Int} {e:EI}:∀i,ax e.its (Nr sys most e i).its
 |0=>ax.refl
 |i+1=>(BH i).trans pT
theorem fe {c:Prop} [Decidable c] {p q:ah} {r:pK} (h1:p.row=r) (h2:q.row=r):(if c then p else q).row=r:=by split<;>assumption
theorem qP {p:ah} {b:Nat} {v:Bool}:(p.setOwn b v).row=p.row:=rfl
theorem uM {p:ah}:(ee p).row=p.row:=by
 delta ee
 extract_lets p0 p1 p2
 have h1:p1.row=p.row:=by simp only [p1,p0,qP]
 clear_value p1
 have h2:p2.row=p.row:=by simp only [p2,h1]
 exact h2
theorem Cu {p:ah}:(ju p).row=p.row:=by
 delta ju
 extract_lets p0 p1
 have h1:p1.row=p.row:=by simp only [p1,p0,qP]
 exact h1
theorem s7 {p:ah} {q:oM}:(ql p q).row=p.row:=by
 delta ql
 refine fe rfl ?_
 extract_lets p1 p2 slow p3 p4 p5
 have h1:p1.row=p.row:=fe rfl rfl
 have h2:p2.row=p.row:=fe h1 h1
 clear_value p2
 have h5:p5.row=p2.row:=by simp only [p5,p4,p3,qP]
 clear_value p5
 have h:p5.row=p.row:=by rw [h5,h2]
 exact fe h h
theorem G9 {p:ah}:(dj p).row=p.row:=by
 delta dj
 refine fe rfl ?_
 extract_lets p0 p1
 have h1:p1.row=p.row:=by
  show (if _ then _ else p0).row=_
  exact fe rfl rfl
 clear_value p1
 simp only [qP,h1]
theorem yy {p:ah}:(b6 p).row=p.row:=by
 delta b6
 extract_lets p1 p2 p3 p4
 have h3:p3.row=p.row:=by
  refine fe ?_ rfl
  exact fe G9 rfl
 clear_value p3
 have h4:p4.row=p.row:=by simp only [p4,h3]
 clear_value p4
 exact fe rfl (fe h4 h4)
theorem Ce {p:ah}:(cj p).1.row=p.row:=by
 delta cj
 extract_lets p1
 have h1:p1.row=p.row:=fe rfl rfl
 clear_value p1
 split<;>exact h1
theorem ze {p:ah}:(dQ p).row=p.row:=by delta dQ;split<;>rfl
noncomputable def jK (sys:aT) (most:Int) (e:EI):Option EI:=iC sys most (12*(e.its.length+1)) e
noncomputable def zx (its:List af) (j:Nat) (f:ah→ah):List af:=match its[j]? with |none=>its |some a=>its.set j (a.1,f a.2)
set_option tactic.hygienic true in
theorem vP {its:List af} {j:Nat} {f:ah→ah} (hf:∀p,(f p).row=p.row):ax its (zx its j f):=by
 delta zx
 split
 ·exact ax.refl
 ·rename_i a e;exact i4 e (hf _)
noncomputable def Hz (sys:aT) (most:Int) (j:Nat) (e:EI):Option EI:=match e.its[j]? with |none=>none |some a=>if a.2.isUp then some e else jK sys most ⟨zx e.its j ee,e.ns⟩
noncomputable def mh (sys:aT) (most:Int) (j:Nat) (e:EI):Option EI:=match e.its[j]? with |none=>none |some a=>if a.2.isUp then jK sys most ⟨zx e.its j ju,e.ns⟩ else some e
noncomputable def l8 (sys:aT) (most:Int) (j:Nat) (q:oM) (e:EI):Option EI:=jK sys most ⟨zx e.its j fun p=>ql p q,e.ns⟩
noncomputable def Ap (a:af):af:=(a.1,dQ (b6 a.2))
noncomputable def tP (sys:aT) (most:Int) (e:EI):Option EI:=jK sys most ⟨e.its.map Ap,e.ns⟩
theorem uY {sys:aT} {most:Int} {e':EI}:∀{k:Nat} {e:EI},iC sys most k e=some e'→ax e.its e'.its
 |0,e,h=>by cases h
 |k+1,e,h=>by
  unfold iC at h
  split at h
  ·cases h
  ·split at h
   ·exact pT.trans (uY h)
   ·cases h;exact pT
theorem lB {sys:aT} {most:Int} {e e':EI} (h:jK sys most e=some e'):ax e.its e'.its:=uY h
theorem IP {sys:aT} {most:Int} {j:Nat} {e e':EI} (h:Hz sys most j e=some e'):ax e.its e'.its:=by
 delta Hz at h
 split at h
 ·cases h
 ·split at h
  ·cases h;exact ax.refl
  ·exact (vP fun V=>uM).trans (lB h)
theorem Dc {sys:aT} {most:Int} {j:Nat} {e e':EI} (h:mh sys most j e=some e'):ax e.its e'.its:=by
 delta mh at h
 split at h
 ·cases h
 ·split at h
  ·exact (vP fun V=>Cu).trans (lB h)
  ·cases h;exact ax.refl
theorem uy {sys:aT} {most:Int} {j:Nat} {q:oM} {e e':EI} (h:l8 sys most j q e=some e'):ax e.its e'.its:=(vP fun V=>s7).trans (lB h)
theorem JB {its:List af}:ax its (its.map Ap):=by
 delta ax
 rw [List.map_map]
 refine List.map_congr_left fun a V=>?_
 show (a.1,(dQ (b6 a.2)).row)=(a.1,a.2.row)
 rw [ze,yy]
theorem xV {sys:aT} {most:Int} {e e':EI} (h:tP sys most e=some e'):ax e.its e'.its:=JB.trans (lB h)
variable {pas:List PA} {its':List af}
section
variable {b:BC}
structure gy (b:BC) (its:List af):Prop where
 lo:(b.c.nd==sysModules)=false
 lo2:(b.pd==sysModules)=false
 h3:its.length≤3
 hm:0≤b.c.most
 asc:(iL its).Pairwise (· < ·)
 nd:(BF b (its.map (·.1))).Nodup
theorem gy.fr (x:gy b its) (f:ax its its'):gy b its':=⟨x.lo,x.lo2,by rw [f.len];exact x.h3,x.hm,by rw [f.nums];exact x.asc,by rw [f.pas];exact x.nd⟩
end
theorem oZ {w:World} {A:Around} {env:Env} {s:Shared} {pos:Pos}:bg w A (eval (.List [] pos) env) s fun v h'=>∃a,v= .ref a∧Sub s.heap h'∧s.heap.get? a=none∧cN h' a []:=by
 intro Q E q
 refine List_ (args_nil ?_)
 exact wpAny_newList (q _ _ s.toks ⟨_,rfl,Sub.push _,aA (Nat.le_refl _),[],0,Heap.get?_push_size _ rfl,.nil⟩) (by simp [sizeLine_eq])
set_option genInjectivity false in
structure SM where
 num:Int
 y:Addr
 dy:Addr
 q:oM
noncomputable def LO (e:SM):D:=.tup [.int e.num,.ref e.y]
noncomputable def HE (es:List SM):List Addr:=es.flatMap fun e=>[e.y,e.dy]
noncomputable def MW (w:World) (h:Heap) (es:List SM):Prop:=∀e∈es,BU w h e.y e.dy e.q
theorem El {w:World} {es:List SM}:ng (HE es) fun h=>MW w h es:=
 ⟨fun h h' O t k a ha=>jd.mo h h' (O a ha) t fun b hb o e=>k b (List.mem_flatMap.mpr (a9 a ha hb)) o e,fun h O b hb=>by
  refine ab (List.mem_flatMap.mp hb) fun a ha hb=>?_
  exact jd.ex h (O a ha) b hb⟩
noncomputable def pC (a:af):af:=(a.1,(cj a.2).1)
noncomputable def eY (its:List af):List (Int×oM):=its.filterMap fun a=>(cj a.2).2.map fun q=>(a.2.row.number,q)
theorem Jx:ax its (its.map pC):=by
 delta ax
 rw [List.map_map]
 refine List.map_congr_left fun a V=>?_
 show (a.1,(cj a.2).1.row)=(a.1,a.2.row)
 rw [Ce]
theorem FI (P:Params):nsIn (K P) mainGlobals "int"=some none:=by kernel_rfl
section
variable {w:World} {c:Bool}
theorem Cq (P:cA w h0) (hg:env.globals=mainGlobals) (hb:env.builtins=builtinsNs) (he:Ev w A env h0 m e (.bool c))
  (hk:autoParam (env.scope.kind= .function) aF) (hx:autoParam (env.kindOf "int"=some .globalImplicit) aG) (hea:autoParam (starEach [e] env=(false,eval e env)::starEach [] env) aR):Ev w A env h0 m (.Call (.Name "int" p1) [e] [] pos) (.int (if c then 1 else 0)):=by
 intro s ha
 refine fC ha P hg hb (FI _) boot_int (fun t=>bS (R0:=fun v h1=>Sub s.heap h1∧RD h1 v (.bool c)) (he {s with toks:=t} ha) (fun v h1=>av fun k1 r1 t1=>?_) hea) (by decide) hk hx (by decide) hea (by rfl)
 cases r1
 intro Q E q
 exact call_int_bool (q _ _ _ ⟨k1,.int _ _⟩)
end
section
variable {bd:Option Int}
noncomputable def LW (bd:Option Int) (a:af):Bool:=a.2.bundle==bd&&a.2.mux== .dis
end
theorem nh.noTup {w:World} {KK:Type} [DecidableEq KK] {knd:KeyKind pw w KK} {h:Heap} {a:Addr} {kds:List (KK×D)} (x:nh knd h a kds):l9 h a:=fun vs n e=>by
 refine g8 x.ex fun kvs o es ep ho hc hd V V=>?_
 rw [e] at ho
 exact fW ho hd
section
variable {w:World}
theorem JE (P:cA w s.heap):bg w A (eval (.Dict [] [] pos) env) s fun v h'=>∃a,v= .ref a∧Sub s.heap h'∧s.heap.get? a=none∧nh (intKind pw w) h' a ([]:List (Int×D))∧(a==sysModules)=false:=by
 intro Q E q
 refine cI P.t fun p l mg mb t=>?_
 exact wpAny_Dict_empty (q _ _ s.toks (wI _ rfl (Sub.push _) (aA (Nat.le_refl _)) ⟨[],.new _,rfl,.nil⟩ (beq_eq_false_iff_ne.mpr (Nat.ne_of_gt (modules_low t.nolimit)))))
end
set_option genInjectivity false in
structure RI where
 rx:Addr
 rdx:Addr
 row:pK
noncomputable def s6 (w:World) (h:Heap) (rs:List RI):Prop:=∀r∈rs,Ob w h r.rx 143 r.rdx (dZ r.row)
noncomputable def gf (rs:List RI):List Addr:=rs.flatMap fun r=>[r.rx,r.rdx]
theorem xM {w:World} {rs:List RI}:ng (gf rs) fun h=>s6 w h rs:=
 ⟨fun h h' O t k a ha=>jd.mo h h' (O a ha) t fun b hb o e=>k b (List.mem_flatMap.mpr (a9 a ha hb)) o e,fun h O b hb=>by
  refine ab (List.mem_flatMap.mp hb) fun a ha hb=>?_
  exact jd.ex h (O a ha) b hb⟩
noncomputable def nc (its:List af):List Addr:=its.flatMap fun a=>[a.1.x,a.1.dx]
noncomputable def Eg (w:World) (h:Heap) (its:List af):Prop:=∀a∈its,Ob w h a.1.x 234 a.1.dx (fE a.1.rx a.2)
theorem Gn {w:World} {its:List af}:ng (nc its) fun h=>Eg w h its:=
 ⟨fun h h' O t k a ha=>jd.mo h h' (O a ha) t fun b hb o e=>k b (List.mem_flatMap.mpr (a9 a ha hb)) o e,fun h O b hb=>by
  refine ab (List.mem_flatMap.mp hb) fun a ha hb=>?_
  exact jd.ex h (O a ha) b hb⟩
variable {sys:aT}
section
variable {w:World} {rs:List RI} {rl:Addr}
noncomputable def lq (sys:aT) (rs:List RI) (its:List af):Prop:=its.map (fun a=>(a.1.rx,a.1.rdx,a.2))=rs.map fun r=>(r.rx,r.rdx,ah.fresh sys r.row)
theorem lq.rows (h:lq sys rs its):its.flatMap (fun a:af=>[a.1.rx,a.1.rdx])=gf rs:=by
 have:=congrArg (fun l:List (Addr×Addr×ah)=>l.flatMap fun x=>[x.1,x.2.1]) h
 simpa [List.flatMap_map,gf] using this
theorem lq.nums (h:lq sys rs its):iL its=rs.map (·.row.number):=by
 have:=congrArg (List.map fun x:Addr×Addr×ah=>x.2.2.row.number) h
 rwa [List.map_map,List.map_map] at this
theorem lq.len (h:lq sys rs its):its.length=rs.length:=by have:=congrArg List.length h;rwa [List.length_map,List.length_map] at this
noncomputable abbrev nS (w:World) (x dx pd rl:Addr) (rs:List RI) (its:List af) (h:Heap):Prop:=((Ob w h x 488 dx [("ports",.ref pd)]∧nh (intKind pw w) h pd (qv its))∧(s6 w h rs∧cN h rl (rs.map fun r=>.ref r.rx)))∧Eg w h its
end
noncomputable def i6 (h:Heap) (a:Addr) (ds:List D):Prop:=∃vs,h.IsList a vs.toArray∧bp h vs ds
theorem cN.w {h:Heap} {a:Addr} {ds:List D} (x:cN h a ds):i6 h a ds:=ao x fun vs n e r=>(a9 vs (bL e) r)
theorem gW {a:Addr} {ds:List D}:ng [a] fun h=>i6 h a ds:=⟨fun V V=>tB fun vs o e c r t k=>a9 vs (a9 o (k a (.head _) _ e) c) (r.mono t),fun V=>tB fun V o e V V b hb=>by rw [List.mem_singleton.mp hb];exact ⟨_,e⟩⟩
theorem i6.noTup {h:Heap} {x:Addr} {ds:List D} (L:i6 h x ds):l9 h x:=fun k n e=>by
 refine zh L fun vs o e' c V V=>?_
 rw [e'] at e
 exact ia e.symm (by rw [c];exact fun z=>absurd (Value.type.inj z) (by decide)) (by rw [c];exact fun z=>absurd (Value.type.inj z) (by decide))
theorem bp.set {h:Heap} {vs:List Value} {ds:List D} {v:Value} {d:D} (r:bp h vs ds) (x:RD h v d) (k:Nat):bp h (vs.set k v) (ds.set k d):=
 bp.ind (P:=fun vs ds=>∀k,bp h (vs.set k v) (ds.set k d)) (fun V=>.nil) (fun V V V V a r i k=>k.casesOn (.cons x r) fun k=>.cons a (i k)) r k
variable {w:World}
section
variable {a b:Int}
theorem lu (hb:b≠0):DK w A h0 .Mod (.int a) (.int b) (.int (a.fmod b)):=fun s v1 v2 V r1 r2 Q E q=>by cases r1;cases r2;exact mod_int hb (q _ s.heap _ ⟨Sub.rfl',.int _ _⟩)
theorem xn (hb:b≠0) (hp:Builtin.divisionGoesByPylong a b=false):DK w A h0 .FloorDiv (.int a) (.int b) (.int (a.fdiv b)):=fun s v1 v2 V r1 r2 Q E q=>by cases r1;cases r2;exact PyProof.Rows.floordiv_int hb (q _ s.heap _ ⟨Sub.rfl',.int _ _⟩) (.inl hp)
theorem nH (P:cA w h0) (hg:env.globals=mainGlobals) (hb:env.builtins=builtinsNs) (he:Ev w A env h0 m e (.int a))
  (hk:autoParam (env.scope.kind= .function) aF) (hx:autoParam (env.kindOf "int"=some .globalImplicit) aG) (hea:autoParam (starEach [e] env=(false,eval e env)::starEach [] env) aR):Ev w A env h0 m (.Call (.Name "int" p1) [e] [] pos) (.int a):=by
 intro s ha
 refine fC ha P hg hb (FI _) boot_int (fun t=>bS (R0:=fun v h1=>Sub s.heap h1∧RD h1 v (.int a)) (he {s with toks:=t} ha) (fun v h1=>av fun k1 r1 t1=>?_) hea) (by decide) hk hx (by decide) hea (by rfl)
 cases r1
 intro Q E q
 exact call_int_int (q _ _ _ ⟨k1,.int _ _⟩)
theorem yx (he:Ev w A env h0 m e (.ref l)) (hi:Ev w A env h0 m i (.int k)) (L:i6 h0 l ds) (hd:ds[k]? =some d) (hk:autoParam (k <1000) aD)
  (hs:autoParam (∀o j,subscripted i false o j=operate [o,j] (getItem o j)) aJ):Ev w A env h0 m (.Subscript e i pos) d:=by
 intro s ks Q E q
 refine Subscript_ (he s ks _ _ fun v1 h1 t1=>av fun k1 r1=>?_)
 refine hi (sh s h1 t1) (ks.step k1) _ _ fun v2 h2 t2=>av fun k2 r2=>?_
 cases r1
 cases r2
 refine ab (gW.sub L (ks.sub.trans (k1.trans k2))) fun vs il rs=>?_
 refine ab (rs.get hd) fun v hv hr=>?_
 refine tail_any il.typeIs slot_list_getitem.lookup ?_ (hs _ _)
 exact wpAny_getItem_list il (Int.natCast_nonneg ..) (by omega) (by simpa using hv) (q v h2 t2 ⟨k1.trans k2,hr⟩)
end
noncomputable def GU (src:Addr) (h:Heap):Prop:=∃a b:Int,i6 h src [.int a,.int b]∧0≤a∧0≤b∧b <2147483647
theorem HI:ng [src] fun h=>GU src h:=⟨fun h h'=>kO fun a b L x t k=>fZ a b (gW.mo h h' L t k) x,fun h=>kO fun a b L V=>gW.ex h L⟩
theorem LN (P:Params):nsIn (K P) mainGlobals "max"=some none:=by kernel_rfl
section
variable {i j:Int}
theorem Mf (he:Ev w A env h0 m e (.int i)):Ev w A env h0 m (.UnaryOp .USub e pos) (.int (-i)):=by
 intro s ks Q E q
 refine UnaryOp_ (he s ks _ _ fun v1 h1 t1=>av fun k1 r1=>?_)
 cases r1
 exact neg_int (q _ h1 _ ⟨k1,.int _ _⟩)
theorem JJ (hk:k≤1000000) (hi:i.natAbs <2 ^ 64):DK w A h0 .Pow (.int i) (.int (k:Int)) (.int (i ^ k)):=fun s v1 v2 V r1 r2 Q E q=>by
 cases r1;cases r2
 exact pow_int_small (Int.natCast_nonneg ..) (by lia) hi (q _ s.heap _ ⟨Sub.rfl',.int _ _⟩)
theorem Le (hh:A.handled=none) (P:cA w h0) (hg:env.globals=mainGlobals) (hb:env.builtins=builtinsNs) (h1:Ev w A env h0 m e1 (.int i)) (h2:Ev w A env h0 m e2 (.int j))
  (hk:autoParam (env.scope.kind= .function) aF) (hx:autoParam (env.kindOf "max"=some .globalImplicit) aG)
  (he:autoParam (starEach [e1,e2] env=(false,eval e1 env)::starEach [e2] env) aR) (he2:autoParam (starEach [e2] env=(false,eval e2 env)::starEach [] env) aR) (hpl:autoParam ((backTo pos (starEach [e2] env)).any (·.1)=false) aE):Ev w A env h0 m (.Call (.Name "max" p1) [e1,e2] [] pos) (.int (max i j)):=by
 intro s ha
 refine d7 ha P hg hb (LN _) boot_max ((dF h1 (dF h2 gC he2) he).go ha fun vs h1 k1 rs t1=>?_) (by decide) hk hx (by decide) he hpl
 cases rs with |cons r1 rs=>
 cases rs with |cons r2 rs=>
 cases rs
 cases r1
 cases r2
 intro Q E q
 refine max_two_ints hh fun h' tk hk=>q _ h' tk ⟨k1.trans hk,?_⟩
 by_cases c:j >i
 ·rw [if_pos c,Int.max_eq_right (by lia)];exact .int _ _
 ·rw [if_neg c,Int.max_eq_left (by lia)];exact .int _ _
theorem HM (P:cA w h0) (hg:env.globals=mainGlobals) (hb:env.builtins=builtinsNs) (he:Ev w A env h0 m e (.ref l)) (L:i6 h0 l ds) (hz:(ds.length:Int) <2 ^ 62)
  (hk:autoParam (env.scope.kind= .function) aF) (hx:autoParam (env.kindOf "len"=some .globalImplicit) aG) (hea:autoParam (starEach [e] env=(false,eval e env)::starEach [] env) aR):Ev w A env h0 m (.Call (.Name "len" p1) [e] [] pos) (.int ds.length):=by
 intro s ha
 refine d7 ha P hg hb (AB _) boot_len (fun t=>bS (R0:=fun v h1=>Sub s.heap h1∧RD h1 v (.ref l)) (he {s with toks:=t} ha) (fun v h1=>av fun k1 r1 t1=>?_) hea) (by decide) hk hx (by decide) hea (by rfl)
 cases r1
 intro Q E q
 refine ab (gW.sub L (ha.sub.trans k1)) fun vs il r=>?_
 have hl:=r.length
 refine call_len_list il (by rw [List.size_toArray,hl];lia) (q _ _ _ ⟨k1,?_⟩)
 rw [List.size_toArray,hl];exact .int _ _
end
section
variable {sl:Addr} {c:Int}
noncomputable abbrev FT (L:Nat):Env:=callEnv (cJ (dz 51) "_law_pool" .none (.str "law_pc0383_01" 876) (.ref 498)) L 499
theorem EA {v2:Value} (r:Rm (n+1) A) (P:cA w s.heap) (L:i6 s.heap sl (.int c::ds)) (hz:(ds.length:Int)+1 <2 ^ 62) (r2:RD s.heap v2 (.int 0)):
  bg w A (call (.ref 499) [.ref sl,v2]) s fun v h'=>Sub s.heap h'∧∃src,v= .ref src∧GU src h'∧s.heap.get? src=none:=by
 refine EO r2 fun tk ez0=>?_;subst ez0
 refine zV (n:=n) r P ((vf _).at) (binds:=[(Str.ofString "script",Value.ref sl),(Str.ofString "k",.int 0 tk)]) (BindsTo.of_eq (by rfl)) (by kernel_rfl) fun h1 t1 k1 ns R=>?_
 have ha:At (FT s.heap.objs.size) s.heap ⟨fun y=>[(Str.ofString "script",Value.ref sl),(Str.ofString "k",.int 0 tk)].reverse.lookup y,fun V=>none⟩ h1:=QR k1 ns
 have hlen:decide ((0:Int) <(((.int c::ds:List D).length:Nat):Int))=true:=by simp
 refine rB (Nat.le_refl _) ha (d:=.int c) (KW (b:=decide ((0:Int) <(((.int c::ds:List D).length:Nat):Int))) (qG (cw (by rfl) (.int _ _)) (HM P rfl rfl (cw (by rfl) (.ref sl)) L (by simp;lia)) zC) (fun V=>yx (k:=0) (cw (by rfl) (.ref sl)) (cw (by rfl) (.int _ _)) L rfl) (fun e=>by rw [hlen] at e;cases e)) fun v2 h2 t2 a2 rv2 tt2=>?_
 refine EO rv2 fun tc ez0=>?_;subst ez0
 refine rB (Nat.le_refl _) a2 (d:=.int (max c (-1 - c))) (Le R.h P rfl rfl (nH P rfl rfl (cw (by rfl) (.int _ _))) (nH P rfl rfl (fJ (Mf gc) (cw (by rfl) (.int _ _)) je))) fun v3 h3 t3 a3 rv3 tt3=>?_
 refine EO rv3 fun tb ez0=>?_;subst ez0
 have hbig:0≤max c (-1 - c):=by lia
 generalize max c (-1 - c)=big at*
 have bits:∀x:Int, -(2 ^ 64) <x→x <2 ^ 64→Builtin.Int.intBits x≤64:=fun x h1 h2=>intBits_le_64 h1 h2
 refine rB (Nat.le_refl _) a3 (d:=.int (((big.fmod 2147483629+7919*0*0+31*0+17)*48271).fmod 2147483647)) (fJ (nH P rfl rfl (fJ (fJ (fJ (fJ (fJ (nH P rfl rfl (cw (by rfl) (.int _ _))) gc (lu (by decide))) (fJ (fJ gc (cw (by rfl) (.int _ _)) (fj (IntMulOk.of_left (by decide+kernel)))) (cw (by rfl) (.int _ _)) (fj (IntMulOk.of_right (by decide+kernel)))) e9) (fJ gc (cw (by rfl) (.int _ _)) (fj (IntMulOk.of_left (by decide+kernel)))) e9) gc e9) gc (fj (IntMulOk.of_right (by decide+kernel))))) gc (lu (by decide))) fun v4 h4 t4 a4 rv4 tt4=>?_
 have fb:0≤(((big.fmod 2147483629+7919*0*0+31*0+17)*48271).fmod 2147483647)∧(((big.fmod 2147483629+7919*0*0+31*0+17)*48271).fmod 2147483647) <2147483647:=⟨Int.fmod_nonneg_of_pos _ (by decide),Int.fmod_lt_of_pos _ (by decide)⟩
 generalize (((big.fmod 2147483629+7919*0*0+31*0+17)*48271).fmod 2147483647)=mixed at*
 refine EO rv4 fun tm ez0=>?_;subst ez0
 refine ou ?_
 refine bg.mono (R:=fun v h'=>Sub h4 h'∧∃a,v= .ref a∧cN h' a [.int (big*(if decide (big≥10 ^ 18)=true then 1 else 0)),.int mixed]∧h4.get? a=none) ?_ fun v h'=>aM fun k5 a e L5 nw=>⟨a4.sub.trans k5,a,by exact e,⟨_,_,L5.w,by split<;>lia,fb.1,fb.2⟩,aS nw a4.sub⟩
 refine (?_:su w _ (FT s.heap.objs.size) h4 (((⟨fun y=>[(Str.ofString "script",Value.ref sl),(Str.ofString "k",.int 0 tk)].reverse.lookup y,fun V=>none⟩:ma).set (Str.ofString "cell") (.int c tc)).set (Str.ofString "big") (.int big tb) |>.set (Str.ofString "mixed") (.int mixed tm)) _ _) (sh s h4 t4) a4.here
 have P4:=P.keeps a4.sub
 exact kL (dF (fJ (cw (by rfl) (.int _ _)) (Cq P4 rfl rfl (Ay (cw (by rfl) (.int _ _)) (fJ gc gc (JJ (k:=18) (by decide) (by decide))) rF)) (fj (IntMulOk.of_right (by split<;>decide+kernel)))) (dF (cw (by rfl) (.int _ _)) gC))
end
section
variable {g:Heap} {rest:List Expr} {RL:List Value→Heap→Prop} {k:Int}
theorem t7 {hO:Heap} {tO:Nat} (h:bg w A (eval e env) (sh s hO tO) fun v h1=>∀t1,bg w A (spliced (backTo pos (starEach rest env))) (sh s h1 t1) fun vs h2=>RL (v::vs) h2) (he:autoParam (starEach (e::rest) env=(false,eval e env)::starEach rest env) aR):bg w A (spliced (backTo pos (starEach (e::rest) env))) (sh s hO tO) RL:=
 fun Q E q=>args_cons (h _ _ fun v h1 t1 z=>z t1 _ _ fun vs h2 t2 y=>q _ h2 t2 y) he
theorem vt (h:RL [] s.heap):bg w A (spliced (backTo pos (starEach [] env))) s RL:=fun Q E q=>args_nil (q _ s.heap s.toks h)
theorem C5 {hO:Heap} {tO:Nat} (ha:At env hO m hO) (P:cA w hO) (hg:env.globals=mainGlobals) (en:nsIn (K w.params) mainGlobals y=some (some (.ref f))) (hk:keepIn (K w.params) (.ref f)=true)
  (h:∀t,bg w A (spliced (backTo pos (starEach (e::r) env))) (sh s hO t) fun vs h1=>cA w h1∧∀t1,bg w A (call (.ref f) vs) (sh s h1 t1) R)
  (hkf:autoParam (env.scope.kind= .function) aF) (hx:autoParam (env.kindOf y=some .globalImplicit) aG) (hd:autoParam ((y==("__debug__":Str))=false) aE)
  (he:autoParam (starEach (e::r) env=(false,eval e env)::starEach r env) aR) (hpl:autoParam ((backTo pos (starEach r env)).any (·.1)=false) aE):bg w A (eval (.Call (.Name y p1) (e::r) [] pos) env) (sh s hO tO) R:=by
 intro Q E q
 refine cI P.t fun p l mg mb t=>?_
 refine Call_ (Name_function_global hkf hx (loadGlobal_global (by rw [hg];exact t.g) (mg_of P.k t.g en) ?_) hd) (by rfl)
 refine callWith_K (h₀:=hO) P.k hk (h tO _ _ fun vs h1 t1=>av fun P1 z=>⟨P1.k,z t1 Q E q⟩) he hpl
end
noncomputable def cG (rs:List RI):List (Int×D):=rs.map fun r=>(r.row.number,.ref r.rx)
noncomputable def cU (rs:List RI):List Int:=rs.map (·.row.number)
noncomputable def ed (k:Nat):List Int:=(List.range k).map fun (j:Nat)=>1+(j:Int)
noncomputable def kM (r:RI):Prop:=(r.row.key=4∨r.row.key=5)∧(r.row.priority=8∨r.row.priority=3)
theorem IF (hok:∀e∈ds,e.keyOk 8=true) (hd:d.keyOk 8=true) (hz:ds.length≤1000) {j:Nat} (hj:ds[j]? =some d) (hno:∀m,m <j→ds[m]?≠some d):
  ∀(k i:Nat),j - i <k→i≤j→MeetsIn pw w (Builtin.«list.remove.loop» ⟨[.ref l,v,rawInt i],[]⟩)
   (fun A R s=>A.units+30 <cLine∧s.heap.get? l=some (bh vs n)∧bp s.heap vs ds∧RD s.heap v d∧R (.ok (.ret .none)) {s with heap:=s.heap.update l (Obj.mapSeq fun xs=>xs.eraseIdxIfInBounds j)}):=fun k=>by
 induction k with
 |zero=>exact fun i h=>absurd h (Nat.not_lt_zero _)
 |succ k ih=>
  intro i hk hij A R s ⟨hu,ho,rs,rv,q⟩
  have hl:=rs.length
  have hjl:=(List.getElem?_eq_some_iff.mp hj).1
  have hi:i <ds.length:=by lia
  unfold Builtin.«list.remove.loop»
  dsimp only [rawInt]
  refine wpAny_bind (listItems_at ho rfl ?_)
  have hiv:i <vs.length:=by lia
  have e1:(vs.toArray)[((i:Int)).toNat]? =some (vs[i]'hiv):=by simp [hiv]
  rw [e1]
  dsimp only
  refine ab (rs.at (i:=i) (v:=vs[i]'hiv) (by simp [hiv])) fun di hdi ri=>?_
  have kdi:=hok di (List.mem_of_getElem? hdi)
  refine wpAny_bind (Mp (w:=w) (n:=8) kdi hd ri rv (by show A.units+1+8 <cLine;exact PT hu lr) ?_)
  by_cases q2:i=j
  ·subst q2
   rw [hj] at hdi
   cases hdi
   rw [show D.eqv d d=true from (iZ 8 d d hd hd).mpr rfl,if_pos rfl]
   exact wpAny_bind (listUpdate_at ho rfl (wpAny_pure (by simpa using q)) (by first |(refine bR (k:=2000) ?_;rw [List.size_toArray];exact zH hl hz lr) |(rw [List.size_toArray,sizeLine_eq];lia)) (Nat.le_trans (size_eraseIdxIfInBounds_le _ _) (by first |(refine bR (k:=2000) ?_;rw [List.size_toArray];lia) |(rw [List.size_toArray,sizeLine_eq];exact zH hl hz lr))))
  ·have hne:di≠d:=fun z=>hno i (by omega) (z▸hdi)
   have:D.eqv di d=false:=by
    rw [Bool.eq_false_iff]
    exact fun z=>hne ((iZ 8 di d kdi hd).mp z)
   rw [this,if_neg (by decide)]
   have hc:((i:Int)+1)=((i+1:Nat):Int):=by push_cast;rfl
   rw [hc]
   refine wpAny_pure ⟨plainId_quiet MeetsSeq.plain_remove_loop _,codeAny_builtin MeetsSeq.entry_remove_loop (by
    rw [Around.under_plainId MeetsSeq.plain_remove_loop _]
    exact ih (i+1) (by lia) (by omega) A R s (sQ hu ho rs rv q))⟩
theorem AI {A:Around} {s:Shared} (hu:A.units+30 <cLine) (L:cN s.heap l ds) (rv:RD s.heap v d) (hok:∀e∈ds,e.keyOk 8=true) (hd:d.keyOk 8=true) (hz:ds.length≤1000) {j:Nat} (hj:ds[j]? =some d) (hno:∀m,m <j→ds[m]?≠some d):
  bg w A (call (.builtin "list.remove") [.ref l,v]) s fun u h'=>u= .none∧cv [l] s.heap h'∧bl s.heap h'∧cN h' l (ds.eraseIdx j):=by
 intro Q E q
 have L0:=L
 refine ao L fun vs n ho rs=>?_
 have hjl:=(List.getElem?_eq_some_iff.mp hj).1
 have hl:=rs.length
 refine call_meetsIn (S:=fun A R s=>A.units+30 <cLine∧s.heap.get? l=some (bh vs n)∧bp s.heap vs ds∧RD s.heap v d∧R (.ok (.ret .none)) {s with heap:=s.heap.update l (Obj.mapSeq fun xs=>xs.eraseIdxIfInBounds j)}) PySem.F.slot_list_remove (a9 _ ho rfl) PySem.F.entry_list_remove (PySem.F.args_list_remove_2 _ _) (fun A R s h=>?_) (sQ hu ho rs rv ?_)
 ·show wpAny _ _ (Builtin.«list.remove» ⟨[.ref l,v],[]⟩) _ _ _
  unfold Builtin.«list.remove»
  refine wpAny_bind (m:=selfAndOne "list.remove" _) (wpAny_pure ?_)
  exact wpAny_pure ⟨plainId_quiet MeetsSeq.plain_remove_loop _,codeAny_builtin MeetsSeq.entry_remove_loop (by
   rw [Around.under_plainId MeetsSeq.plain_remove_loop _]
   exact IF hok hd hz hj hno (j+1) 0 (Nat.lt_succ_self _) (Nat.zero_le _) A R s h)⟩
 ·have hs:Heap.SameBut l s.heap (s.heap.update l (Obj.mapSeq fun xs=>xs.eraseIdxIfInBounds j)):=Heap.SameBut.update ..
  have t:bl s.heap (s.heap.update l (Obj.mapSeq fun xs=>xs.eraseIdxIfInBounds j)):=(SameBut.kp hs).t fun b hb=>by rw [List.mem_singleton.mp hb];exact pI L0
  refine q _ _ s.toks (l6 rfl (SameBut.kp hs) t ?_)
  have e:=get?_update_seq ho fun xs:Array Value=>xs.eraseIdxIfInBounds j
  have e2:(vs.toArray).eraseIdxIfInBounds j=(vs.eraseIdx j).toArray:=by simp
  rw [e2] at e
  refine fZ (vs.eraseIdx j) _ e ?_
  ·have:∀{vs:List Value} {ds:List D} {h:Heap},bp h vs ds→∀j,bp h (vs.eraseIdx j) (ds.eraseIdx j):=by
    intro vs ds h r
    induction vs generalizing ds with
    |nil=>cases r;intro j;exact .nil
    |cons x vs ih=>
     cases r with |cons a r=>
     intro j
     cases j with
     |zero=>exact r
     |succ j=>exact .cons a (ih r j)
   exact this (rs.mono t) j
set_option genInjectivity false in
structure WC where
 b:Nat→BC
 sc:Addr
 el:Addr
 ll:Addr
 ul:Addr
 links:List (Int×Int)
 many:Nat
noncomputable abbrev E2:=Nat→EI
noncomputable def upd (e:E2) (i:Nat) (x:EI):E2:=fun j=>if j=i then x else e j
noncomputable def lk (l:Int×Int) (i:Nat):Int:=if i=0 then l.1 else l.2
noncomputable def au (l:Int×Int):D:=.tup [.int l.1,.int l.2]
noncomputable def Ol (c:WC):List D:=[.ref (c.b 0).B,.ref (c.b 1).B]
noncomputable def KN (c:WC):List (Str×D):=[("ends",.ref c.el),("links",.ref c.ll),("up",.ref c.ul)]
noncomputable def bQ (e e':E2):Prop:=∀i,i <2→ax (e i).its (e' i).its
theorem bQ.refl {e:E2}:bQ e e:=fun V V=>ax.refl
theorem bQ.trans {a b c:E2} (x:bQ a b) (y:bQ b c):bQ a c:=fun i h=>(x i h).trans (y i h)
theorem hX {e:E2} {i:Nat} {x:EI} (f:ax (e i).its x.its):bQ e (upd e i x):=fun j V=>by
 delta upd
 by_cases q:j=i
 ·rw [if_pos q,q];exact f
 ·rw [if_neg q];exact ax.refl
section
variable {c:WC} {up:List (Int×Int)} {i:Nat}
theorem lS {P:Nat→Prop} (h0:P 0) (h1:P 1):∀i,i <2→P i
 |0,_=>h0
 |1,_=>h1
 |k+2,h=>by omega
noncomputable def ig (v:Int):Nat:=(v - 1).toNat
theorem BW:fu (KN c) "ends"=some (.ref c.el):=by with_unfolding_all rfl
theorem xP:fu (KN c) "links"=some (.ref c.ll):=by with_unfolding_all rfl
theorem xo:fu (KN c) "up"=some (.ref c.ul):=by with_unfolding_all rfl
end
theorem nX (l:Int×Int):(au l).keyOk 8=true:=rfl
theorem pv {a b:Int×Int} (h:au a=au b):a=b:=by
 delta au at h
 simp only [D.tup.injEq,List.cons.injEq,D.int.injEq,and_true] at h
 exact Prod.ext h.1 h.2
theorem Ey {l:Int×Int} {ls:List (Int×Int)}:gx (au l) (ls.map au)=ls.contains l:=by
 delta gx
 rw [List.any_map,Bool.eq_iff_iff,List.any_eq_true,List.contains_iff_mem]
 constructor
 ·intro zq
  refine ab zq fun x hx e=>?_
  exact pv ((iZ 8 _ _ (nX _) (nX _)).mp e)▸hx
 ·intro h
  exact a9 l h ((iZ 8 _ _ (nX _) (nX _)).mpr rfl)
theorem xX {ls:List (Int×Int)}:D.flats 9 (ls.map au)=true:=by
 induction ls with
 |nil=>rfl
 |cons x l ih=>rw [List.map_cons,D.flats,ih];rfl
theorem yl {l:Int×Int}:∀{ls:List (Int×Int)},l∈ls→∃j,(ls.map au)[j]? =some (au l)∧(∀m,m <j→(ls.map au)[m]?≠some (au l))∧(ls.map au).eraseIdx j=(ls.erase l).map au
 | [],h=>by simp at h
 |x::ls,h=>by
  by_cases q:x=l
  ·refine cb 0 (by simp [q]) (fun m hm=>by lia) ?_
   subst q
   simp
  ·have h':l∈ls:=by
    rcases List.mem_cons.mp h with h |h
    ·exact absurd h.symm q
    ·exact h
   obtain ⟨j,h1,h2,h3⟩:=yl h'
   refine cb (j+1) (by simpa using h1) (fun m hm=>?_) ?_
   ·cases m with
    |zero=>simp only [List.map_cons,List.getElem?_cons_zero];exact fun z=>q (pv (Option.some.inj z))
    |succ m=>simpa using h2 m (Nat.lt_of_succ_lt_succ hm)
   ·have:(x==l)=false:=by simpa using q
    rw [List.erase_cons,this,List.map_cons,List.eraseIdx_cons_succ,h3];rfl
theorem iT {P:Nat→Prop} {s:Nat} (h:s <2) (a:P 0) (b:P 1):P s:=by
 cases s with
 |zero=>exact a
 |succ s=>cases s with
  |zero=>exact b
  |succ s=>exact absurd h (Nat.not_lt_of_le (Nat.le_add_left 2 s))
theorem Nj {s:Nat} (h:s <2):s≠1 - s∧1 - s≠s∧1 - s <2∧1 - (1 - s)=s:=iT (P:=fun s=>s≠1 - s∧1 - s≠s∧1 - s <2∧1 - (1 - s)=s) h (by decide) (by decide)
variable {link:Int×Int}
section
variable {c:WC} {e:E2} {up:List (Int×Int)} {x:Nat→EI}
noncomputable def eK (e:E2) (x:Nat→EI):Nat→E2 |0=>e |1=>upd e 0 (x 0) |_+2=>upd (upd e 0 (x 0)) 1 (x 1)
theorem Bt {i:Nat} (hi:i <2):eK e x (i+1)=upd (eK e x i) i (x i):=iT (P:=fun i=>eK e x (i+1)=upd (eK e x i) i (x i)) hi rfl rfl
theorem N5 {i:Nat} (hi:i <2):eK e x i i=e i:=iT (P:=fun i=>eK e x i i=e i) hi rfl rfl
theorem vu (f:∀i,i <2→ax (e i).its (x i).its):∀k,bQ e (eK e x k)
 |0=>bQ.refl
 |1=>hX (f 0 (by decide))
 |k+2=>by
  refine (hX (f 0 (by decide))).trans (hX ?_)
  show ax (e 1).its (x 1).its
  exact f 1 (by decide)
noncomputable def iG (isUp:Bool) (c:WC) (e:E2) (link:Int×Int) (i:Nat):Option EI:=if isUp then Hz (c.b i).c.sys (c.b i).c.most (ig (lk link i)) (e i) else mh (c.b i).c.sys (c.b i).c.most (ig (lk link i)) (e i)
noncomputable def Lj (isUp:Bool) (up:List (Int×Int)) (link:Int×Int):List (Int×Int):=if isUp then up++ [link] else up.erase link
theorem oo {isUp:Bool} {i:Nat} {y:EI} (h:iG isUp c e link i=some y):ax (e i).its y.its:=by
 delta iG at h
 split at h
 ·exact IP h
 ·exact Dc h
theorem Gy {i:Nat} {d:D} {n:Nat} (h:(dK 0 n)[i]? =some d):i <n∧d= .int (i:Nat):=by
 have hi:=(List.getElem?_eq_some_iff.mp h).1
 unfold dK at h hi
 rw [List.length_map,List.length_range] at hi
 rw [List.getElem?_map,List.getElem?_range hi] at h
 refine ⟨hi,?_⟩
 have:=(Option.some.inj h).symm
 rw [this]
 show D.int (0+(i:Int))=_
 rw [Int.zero_add]
end
noncomputable def ma.setc (m:ma) (x:Str) (v:Value):ma:=⟨m.m,fun y=>if y=x then some v else m.c y⟩
theorem xG {l b:Addr} {ds:List D} (hu:A.units <cLine) (L:cN s.heap l ds) (B:cN s.heap b []) (hne:l≠b):SeqAt.EqAt A s (.ref l) (.ref b) ds.isEmpty:=by
 refine SeqAt.EqAt.of_refs hne ?_
 refine ab L.isList fun xs l1 z1=>?_
 refine ab B.isList fun ys l2 z2=>?_
 cases ds with
 |nil=>
  have:=SeqAt.RcAt.lists (A:=A) (s:=s) (e:=fun V=>true) l1 l2 (by rw [z1,z2]) hu (fun j j1 V=>by rw [z1] at j1;exact absurd j1 (Nat.not_lt_zero _))
  rw [show ((List.range xs.size).all fun V=>true)=true by simp] at this
  exact this
 |cons d ds=>exact SeqAt.RcAt.lists_lengths (A:=A) (s:=s) l1 l2 (by rw [z1,z2];rfl) hu
noncomputable def f7 (e:E2) (i:Nat):EI:=⟨(e i).its.map pC,(e i).ns⟩
noncomputable def pL (links:List (Int×Int)) (i:Nat) (num:Int):List Int:=(links.filter fun l=>lk l i==num).map fun l=>lk l (1 - i)
noncomputable def dg (c:WC) (i:Nat):List (Int×oM)→EI→Option EI
 | [],x=>some x
 |m::r,x=>match pL c.links i m.1 with
  | []=>none
  |gl::_=>if 1≤gl∧gl≤c.many then (match l8 (c.b (1 - i)).c.sys (c.b (1 - i)).c.most (ig gl) m.2 x with |none=>none |some y=>dg c i r y) else none
noncomputable def q7 (c:WC) (e:E2):Option E2:=match dg c 0 (eY (e 0).its) (f7 e 1) with
 |none=>none
 |some x1=>match dg c 1 (eY (e 1).its) (f7 e 0) with
  |none=>none
  |some x0=>some fun i=>if i=0 then x0 else x1
noncomputable def kJ (e:E2):Bool:=(eY (e 0).its).isEmpty&&(eY (e 1).its).isEmpty
noncomputable def gX (c:WC):Nat→E2→Option E2
 |0,e=>some e
 |k+1,e=>if kJ e then some (f7 e) else match q7 c e with |none=>none |some e'=>gX c k e'
set_option tactic.hygienic true in
theorem qh {c:WC} {i:Nat} {m:Int×oM} {r:List (Int×oM)} {x y:EI} (h:dg c i (m::r) x=some y):
  ∃gl gr z,pL c.links i m.1=gl::gr∧(1≤gl∧gl≤c.many)∧l8 (c.b (1 - i)).c.sys (c.b (1 - i)).c.most (ig gl) m.2 x=some z∧dg c i r z=some y:=by
 unfold dg at h
 split at h
 ·cases h
 ·rename_i gl gr hg
  split at h
  ·rename_i hb
   split at h
   ·cases h
   ·rename_i z hz;exact ⟨gl,gr,z,hg,hb,hz,h⟩
  ·cases h
theorem kj {c:WC} {i:Nat} {ms:List (Int×oM)}:∀{x y:EI},dg c i ms x=some y→ax x.its y.its:=
 List.rec (motive:=fun ms=>∀{x y:EI},dg c i ms x=some y→ax x.its y.its) (fun h=>Option.some.inj h▸ax.refl) (fun m r ih {x y} h=>ic (qh h) fun gl gr z V V hz hd=>(uy hz).trans (ih hd)) ms
theorem gE {e:E2}:bQ e (f7 e):=fun i V=>Jx
set_option tactic.hygienic true in
theorem uD {c:WC} {e e':E2} (h:q7 c e=some e'):bQ e e':=by
 unfold q7 at h
 split at h
 ·cases h
 ·rename_i x1 h1
  split at h
  ·cases h
  ·rename_i x0 h0
   cases h
   exact lS (gE 0 (by decide) |>.trans (kj h0)) (gE 1 (by decide) |>.trans (kj h1))
set_option tactic.hygienic true in
theorem oP {c:WC}:∀{k:Nat} {e e':E2},gX c k e=some e'→bQ e e'
 |0,e,e',h=>by cases h;exact bQ.refl
 |k+1,e,e',h=>by
  unfold gX at h
  split at h
  ·cases h;exact gE
  ·split at h
   ·cases h
   ·rename_i z hz;exact (uD hz).trans (oP h)
theorem Df (he:su w A env h0 m e ds) (hi:Ev w A env h0 m i (.int k)) (hd:ds[k]? =some d) (hk:autoParam (k <1000) aD)
  (hs:autoParam (∀o j,subscripted i false o j=operate [o,j] (getItem o j)) aJ):Ev w A env h0 m (.Subscript e i pos) d:=by
 intro s ks Q E q
 refine Subscript_ (he s ks _ _ fun v1 h1 t1=>aM fun k1 l e1 L V=>?_)
 subst e1
 refine hi (sh s h1 t1) (ks.step k1) _ _ fun v2 h2 t2=>av fun k2 r2=>?_
 cases r2
 refine ab (gW.sub L.w k2) fun vs il rs=>?_
 refine ab (rs.get hd) fun v hv hr=>?_
 refine tail_any il.typeIs slot_list_getitem.lookup ?_ (hs _ _)
 exact wpAny_getItem_list il (Int.natCast_nonneg ..) (by omega) (by simpa using hv) (q v h2 t2 ⟨k1.trans k2,hr⟩)
section
variable {e:E2}
structure EG (w:World) (h:Heap) (f:Addr) (es:List SM):Prop where
 l:cN h f (es.map LO)
 s:MW w h es
theorem Ef {f:Addr} {es:List SM}:ng (f::HE es) fun h=>EG w h f es:=by
 have:=(lK (a:=f) (ds:=es.map LO)).and (El (w:=w) (es:=es))
 exact ⟨fun h h' x t k=>bC (this.mo h h' ⟨x.l,x.s⟩ t k) fun a b=>⟨a,b⟩,fun h x=>this.ex h ⟨x.l,x.s⟩⟩
noncomputable def fh (e:E2) (k:Nat):E2:=fun i=>if i <k then f7 e i else e i
theorem Cz {k:Nat}:fh e (k+1)=upd (fh e k) k (f7 e k):=by
 funext i
 delta fh upd
 by_cases q:i=k
 ·subst q;simp
 ·rw [if_neg q]
  have:(i <k+1)=(i <k):=by rw [eq_iff_iff];omega
  simp only [this]
noncomputable def Pu (e:E2) (fs:List (Addr×List SM)):Prop:=∀j f,fs[j]? =some f→f.2.map (fun x=>(x.num,x.q))=eY (e j).its
end
variable {Dl f0 f1:Addr} {d0:List D} {p3:Pos}
section
variable {d1:List D}
theorem xx (R:Rm (n+1) A) (he:Ev w A env h0 m e1 (.ref Dl)) (L:cN h0 Dl [.ref f0,.ref f1]) (L0:cN h0 f0 d0) (L1:cN h0 f1 d1)
  (h1:autoParam (starEach [.List [] p1,.List [] p2] env=(false,eval (.List [] p1) env)::starEach [.List [] p2] env) aR) (h2:autoParam (starEach [.List [] p2] env=(false,eval (.List [] p2) env)::starEach [] env) aR) (hm:autoParam (behindInMarks .Eq (.List [.List [] p1,.List [] p2] p3)=false) aW):
  w9 w A env h0 m (.Compare e1 [.Eq] [.List [.List [] p1,.List [] p2] p3] pos) (d0.isEmpty&&d1.isEmpty):=by
 intro s ks Q E q
 refine wpAny_isTrue_Compare1 (he s ks _ _ fun v1 g1 t1=>av fun k1 r1=>?_) hm
 cases r1
 refine List_ (args_cons (oZ _ _ fun v2 g2 t2=>mE fun a e2 k2 n2 La=>args_cons (oZ _ _ fun v3 g3 t3=>mE fun b e3 k3 n3 Lb=>args_nil ?_) h2) h1)
 subst e2 e3
 refine wpAny_newList ?_ (by simp [sizeLine_eq])
 have k4:Sub g3 (g3.push {cls:=.type "list",data:=.seq [Value.ref a,Value.ref b].toArray}):=Sub.push _
 have kk:=(ks.sub.trans k1).trans ((k2.trans k3).trans k4)
 have LD:=L.sub kk
 have L0':=L0.sub kk
 have L1':=L1.sub kk
 have La':=(La.sub k3).sub k4
 have Lb':=Lb.sub k4
 have L0g:=L0.sub (ks.sub.trans k1)
 have L1g:=(L1.sub (ks.sub.trans k1)).sub k2
 have ne0:f0≠a:=fun z=>by refine ao L0g fun V V e V=>?_;exact QG z n2 e
 have ne1:f1≠b:=fun z=>by refine ao L1g fun V V e V=>?_;exact QG z n3 e
 have il2:((g3.push {cls:=.type "list",data:=.seq [Value.ref a,Value.ref b].toArray})).IsList g3.objs.size #[.ref a,.ref b]:=yb _ (Heap.get?_push_size _ rfl) rfl 0 rfl
 have il1:((g3.push {cls:=.type "list",data:=.seq [Value.ref a,Value.ref b].toArray})).IsList Dl #[.ref f0,.ref f1]:=by
  refine ao LD fun vs nn e r=>?_
  cases r with |cons r0 r=>
  cases r with |cons r1 r=>
  cases r
  cases r0
  cases r1
  exact bL e
 have hu:A.units+1 <cLine:=by have:=R.u;exact PH this lr
 have gF:=SeqAt.RcAt.lists (A:=A) (s:={s with heap:=g3.push {cls:=.type "list",data:=.seq [Value.ref a,Value.ref b].toArray},toks:=t3}) (e:=fun j=>if j=0 then d0.isEmpty else d1.isEmpty) il1 il2 rfl R.units (fun j j1 j2=>?_)
 ·refine gF _ _ E _ ?_
  rw [show ((List.range (#[Value.ref f0,Value.ref f1]:Array Value).size).all fun j=>if j=0 then d0.isEmpty else d1.isEmpty)=(d0.isEmpty&&d1.isEmpty) by simp [List.range_succ]]
  exact wpAny_truthy_bool (q _ _ t3 ⟨k1.trans ((k2.trans k3).trans k4),rfl⟩)
 ·match j,j1 with
  |0,_=>exact xG (A:=A.in1) hu L0' La' ne0
  |1,_=>exact xG (A:=A.in1) hu L1' Lb' ne1
  |j+2,j1=>exact absurd j1 (by simp)
end
noncomputable def CN (c:WC) (e:E2):Option E2:=match tP (c.b 0).c.sys (c.b 0).c.most (e 0) with
 |none=>none
 |some x0=>match tP (c.b 1).c.sys (c.b 1).c.most (e 1) with
  |none=>none
  |some x1=>some fun i=>if i=0 then x0 else x1
noncomputable def kU (c:WC) (e:E2):Option E2:=match gX c 8 e with
 |none=>none
 |some e1=>CN c e1
noncomputable def fv (c:WC):Nat→E2→Option E2
 |0,e=>gX c 8 e
 |k+1,e=>match kU c e with |none=>none |some e'=>fv c k e'
set_option tactic.hygienic true in
theorem FJ {c:WC} {e e':E2} (h:CN c e=some e'):bQ e e':=by
 unfold CN at h
 split at h
 ·cases h
 ·rename_i x0 h0
  split at h
  ·cases h
  ·rename_i x1 h1
   cases h
   exact lS (xV h0) (xV h1)
set_option tactic.hygienic true in
theorem uv {c:WC} {e e':E2} (h:kU c e=some e'):bQ e e':=by
 unfold kU at h
 split at h
 ·cases h
 ·rename_i e1 h1;exact (oP h1).trans (FJ h)
set_option tactic.hygienic true in
theorem oV {c:WC}:∀{k:Nat} {e e':E2},fv c k e=some e'→bQ e e'
 |0,e,e',h=>oP h
 |k+1,e,e',h=>by
  unfold fv at h
  split at h
  ·cases h
  ·rename_i z hz;exact (uv hz).trans (oV h)
theorem Pt {P:Nat→Prop} {s:Nat} (h:s <3) (a:P 0) (b:P 1) (c:P 2):P s:=by
 cases s with
 |zero=>exact a
 |succ s=>exact iT (P:=fun s=>P (s+1)) (Nat.lt_of_succ_lt_succ h) b c
theorem lJ {α β:Type} {f:α→β}:∀{l:List α},(l.map f).Nodup→∀{x y:α},x∈l→y∈l→f x=f y→x=y
 | [],_,x,_,hx,_,_=>by simp at hx
 |a::l,n,x,y,hx,hy,e=>by
  rw [List.map_cons,List.nodup_cons] at n
  rcases List.mem_cons.mp hx with h1 |h1<;>rcases List.mem_cons.mp hy with h2 |h2
  ·rw [h1,h2]
  ·subst h1;exact absurd (e▸List.mem_map_of_mem h2) n.1
  ·subst h2;exact absurd (e▸List.mem_map_of_mem h1) n.1
  ·exact lJ n.2 h1 h2 e
theorem wz {α:Type} [DecidableEq α]:∀{xs ys:List α},xs.Nodup→(∀x∈xs,x∈ys)→xs.length≤ys.length
 | [],_,_,_=>Nat.zero_le _
 |x::xs,ys,n,h=>by
  rw [List.nodup_cons] at n
  have hx:=h x (.head _)
  have ih:=wz (ys:=ys.erase x) n.2 fun y hy=>(List.mem_erase_of_ne (fun q:y=x=>n.1 (q▸hy))).mpr (h y (by simp [hy]))
  rw [List.length_erase_of_mem hx] at ih
  have:=List.length_pos_of_mem hx
  rw [List.length_cons];lia
structure jN (ns:List (ag×Int)):Prop where
 k:(ns.map (·.1)).Nodup
 v:(ns.map (·.2)).Nodup
section
variable {ns:List (ag×Int)} {g g':ag} {i:Int} {p:ag×Int→Bool}
theorem qR:∀{ns:List (ag×Int)},aX ns g=some i→(g,i)∈ns
 | [],h=>by cases h
 |(k,v)::r,h=>by
  delta aX at h
  rw [List.lookup_cons] at h
  by_cases c:g=k
  ·subst c;simp at h;subst h;exact .head _
  ·have:(g==k)=false:=by simpa using c
   rw [this] at h
   exact List.mem_cons_of_mem _ (qR (ns:=r) h)
theorem vN:∀{ns:List (ag×Int)},(ns.map (·.1)).Nodup→(g,i)∈ns→aX ns g=some i
 | [],_,h=>by cases h
 |(k,v)::r,n,h=>by
  rw [List.map_cons,List.nodup_cons] at n
  delta aX
  rw [List.lookup_cons]
  rcases List.mem_cons.mp h with h |h
  ·cases h;simp
  ·have:g≠k:=fun q=>n.1 (q▸List.mem_map_of_mem (f:=(·.1)) h)
   have:(g==k)=false:=by simpa using this
   rw [this]
   exact vN n.2 h
theorem yY (ok:jN ns) (h:aX ns g=some i) (h':aX ns g'=some i):g=g':=congrArg (·.1) (lJ ok.v (qR h) (qR h') rfl)
theorem OM (ok:jN ns):jN (bb ns g).1:=by
 cases q:aX ns g with
 |some j=>rw [eQ q];exact ok
 |none=>
  rw [eL q]
  refine ⟨?_,?_⟩
  ·rw [List.map_append,List.nodup_append]
   refine ⟨ok.k,by simp,fun x hx y hy e=>?_⟩
   simp at hy
   subst hy
   obtain ⟨⟨a,b⟩,hz,rfl⟩:=List.mem_map.mp hx
   cases e
   rw [vN ok.k hz] at q;cases q
  ·rw [List.map_append,List.nodup_append]
   refine ⟨ok.v,by simp,fun x hx y hy e=>?_⟩
   simp at hy
   subst hy
   exact ik _ _ _ (by rw [List.length_map];exact Nat.le_refl _) (e▸hx)
theorem jE:∀{ks:List ag} {ns:List (ag×Int)},jN ns→jN (gM ns ks)
 | [],_,h=>h
 |k::ks,ns,h=>jE (ks:=ks) (OM h)
theorem zo:∀{ks:List ag} {ns:List (ag×Int)},g∈ks→(aX (gM ns ks) g).isSome
 |k::ks,ns,h=>by
  show (aX (gM (bb ns k).1 ks) g).isSome
  rcases List.mem_cons.mp h with h |h
  ·subst h;rw [jy za];rfl
  ·exact zo h
theorem lN (ok:jN ns):jN (ns.filter p):=⟨ok.k.sublist (List.filter_sublist.map _),ok.v.sublist (List.filter_sublist.map _)⟩
theorem qf (ok:jN ns) (h:aX ns g=some i) (hp:p (g,i)=true):aX (ns.filter p) g=some i:=vN (lN ok).k (List.mem_filter.mpr ⟨qR h,hp⟩)
theorem xB {ps:List ah} (ok:jN ns):(iM ns ps).length≤ps.length+ps.length:=by
 rw [qA]
 have ok':=lN (p:=jg ps) ok
 generalize hm:ns.filter (jg ps)=ms at ok'
 have hk:∀x∈ms,jg ps x=true:=fun x hx=>by rw [←hm] at hx;exact (List.mem_filter.mp hx).2
 have sp:ms.length=(ms.filter fun x=>((ps.filter ah.isUp).map ah.group).contains x.1).length+(ms.filter fun x=>!((ps.filter ah.isUp).map ah.group).contains x.1).length:=by
  rw [←List.countP_eq_length_filter,←List.countP_eq_length_filter,List.length_eq_countP_add_countP (fun x:ag×Int=>((ps.filter ah.isUp).map ah.group).contains x.1) (l:=ms)]
  congr 1
  refine List.countP_congr fun x V=>?_
  simp
 have l1:(ms.filter fun x=>((ps.filter ah.isUp).map ah.group).contains x.1).length≤ps.length:=by
  have:=wz (xs:=(ms.filter fun x=>((ps.filter ah.isUp).map ah.group).contains x.1).map (·.1)) (ys:=(ps.filter ah.isUp).map ah.group) (ok'.k.sublist (List.filter_sublist.map _)) fun x hx=>by
   refine ab (List.mem_map.mp hx) fun y hy zr54=>?_;subst zr54
   exact List.contains_iff_mem.mp (List.mem_filter.mp hy).2
  rw [List.length_map,List.length_map] at this
  exact Nat.le_trans this (List.length_filter_le _ _)
 have l2:(ms.filter fun x=>!((ps.filter ah.isUp).map ah.group).contains x.1).length≤ps.length:=by
  have:=wz (xs:=(ms.filter fun x=>!((ps.filter ah.isUp).map ah.group).contains x.1).map fun x=>some x.2) (ys:=ps.map ah.bundle) (by
   have h1:=ok'.v.sublist ((List.filter_sublist (p:=fun x:ag×Int=>!((ps.filter ah.isUp).map ah.group).contains x.1)).map (·.2))
   have:(ms.filter fun x=>!((ps.filter ah.isUp).map ah.group).contains x.1).map (fun x=>some x.2)=((ms.filter fun x=>!((ps.filter ah.isUp).map ah.group).contains x.1).map (·.2)).map some:=by rw [List.map_map];rfl
   rw [this]
   exact gB h1 fun x V y V e=>Option.some.inj e) fun x hx=>by
   refine ab (List.mem_map.mp hx) fun y hy zr55=>?_;subst zr55
   refine bC (List.mem_filter.mp hy) fun y1 y2=>?_
   have:=hk y y1
   unfold jg at this
   rw [Bool.not_eq_true'] at y2
   rw [y2,Bool.false_or] at this
   exact List.contains_iff_mem.mp this
  rwa [List.length_map,List.length_map] at this
 lia
end
theorem mI {α:Type} {n:Nat} {p:α→Bool} {lt lt':Nat→Nat→Bool} (h:∀i j,i <n→j <n→lt i j=lt' i j):∀(t:KasT α),xU n p t=true→nP lt t=nP lt' t
 | .ret a,_=>rfl
 | .ask i j k,hk=>by
  simp only [xU,Bool.and_eq_true,decide_eq_true_eq] at hk
  unfold nP
  rw [h i j hk.1.1.1 hk.1.1.2]
  cases lt' i j with
  |true=>exact mI h (k true) hk.1.2
  |false=>exact mI h (k false) hk.2
noncomputable def Pm (a b c d e f:Bool) (i j:Nat):Bool:=match i,j with |0,1=>a |1,0=>b |0,2=>c |2,0=>d |1,2=>e |2,1=>f |_,_=>false
noncomputable def o8 (n:Nat) (lt:Nat→Nat→Bool) (i:Nat):Nat:=(List.range n).countP fun j=>lt j i
noncomputable def qU (n:Nat) (lt:Nat→Nat→Bool):Bool:=(List.range n).all fun i=>(dw n lt)[o8 n lt i]? ==some i
theorem I4:∀a:Bool,qU 2 (Pm a (!a) false false false false)=true:=by decide+kernel
theorem JO:∀a c e:Bool,(a&&e&& !c)=false→(!a&& !e&&c)=false→qU 3 (Pm a (!a) c (!c) e (!e))=true:=by decide+kernel
structure Pk (n:Nat) (lt:Nat→Nat→Bool):Prop where
 ir:∀i,i <n→lt i i=false
 as:∀i j,i <n→j <n→i≠j→lt i j= !lt j i
 tr:∀i j k,i <n→j <n→k <n→lt i j=true→lt j k=true→lt i k=true
theorem CX {n:Nat} {lt:Nat→Nat→Bool} (h2:2≤n) (h3:n≤3) (o:Pk n lt) {i:Nat} (hi:i <n):(dw n lt)[o8 n lt i]? =some i:=by
 have main:∀lt':Nat→Nat→Bool,(∀i j,i <n→j <n→lt i j=lt' i j)→qU n lt'=true→(dw n lt)[o8 n lt i]? =some i:=fun lt' e h=>by
  have e1:dw n lt=dw n lt':=by delta dw;rw [mI (n:=n) (p:=xA n) e _ (uJ h2 h3)]
  have e2:o8 n lt i=o8 n lt' i:=by
   delta o8
   refine List.countP_congr fun j hj=>?_
   rw [e j i (List.mem_range.mp hj) hi]
  rw [e1,e2]
  delta qU at h
  exact eq_of_beq (List.all_eq_true.mp h i (List.mem_range.mpr hi))
 obtain rfl |rfl:=PD h2 h3
 ·refine main (Pm (lt 0 1) (!lt 0 1) false false false false) (fun i j hi hj=>?_) (I4 _)
  apply iT (s:=i) hi<;>apply iT (s:=j) hj
  ·exact o.ir 0 (by decide)
  ·rfl
  ·exact o.as 1 0 (by decide) (by decide) (by decide)
  ·exact o.ir 1 (by decide)
 ·refine main (Pm (lt 0 1) (!lt 0 1) (lt 0 2) (!lt 0 2) (lt 1 2) (!lt 1 2)) (fun i j hi hj=>?_) (JO _ _ _ ?_ ?_)
  ·apply Pt (s:=i) hi<;>apply Pt (s:=j) hj
   ·exact o.ir 0 (by decide)
   ·rfl
   ·rfl
   ·exact o.as 1 0 (by decide) (by decide) (by decide)
   ·exact o.ir 1 (by decide)
   ·rfl
   ·exact o.as 2 0 (by decide) (by decide) (by decide)
   ·exact o.as 2 1 (by decide) (by decide) (by decide)
   ·exact o.ir 2 (by decide)
  ·have t:=o.tr 0 1 2 (by decide) (by decide) (by decide)
   cases h1:lt 0 1<;>cases h2:lt 1 2<;>cases h3:lt 0 2<;>simp_all
  ·have t:=o.tr 2 1 0 (by decide) (by decide) (by decide)
   have a1:=o.as 2 1 (by decide) (by decide) (by decide)
   have a2:=o.as 1 0 (by decide) (by decide) (by decide)
   have a3:=o.as 2 0 (by decide) (by decide) (by decide)
   cases h1:lt 0 1<;>cases h2:lt 1 2<;>cases h3:lt 0 2<;>simp_all
theorem CQ {α:Type} {kds:List D} {xs:List α} (h3:xs.length≤3) (o:Pk xs.length (bK kds)) {i:Nat} (hi:i <xs.length):(az kds xs)[o8 xs.length (bK kds) i]? =some xs[i]:=by
 by_cases c:xs.length <2
 ·rw [cX c]
  have h1:xs.length=1:=by lia
  have hi0:i=0:=by lia
  subst hi0
  have:o8 xs.length (bK kds) 0=0:=by delta o8;rw [h1];simp [o.ir 0 hi]
  rw [this,List.getElem?_eq_getElem hi]
 ·refine cQ (cS kds c) fun x e=>?_
  rw [e,List.getElem?_map,CX (Nat.le_of_not_lt c) h3 o hi]
  simp [hi]
theorem CG {α:Type} {kds:List D} {xs:List α} {m i:Nat} (h3:xs.length≤3) (nd:xs.Nodup) (o:Pk xs.length (bK kds)) (hi:i <xs.length):xs[i]∈(az kds xs).take m↔o8 xs.length (bK kds) i <m:=by
 have at':=CQ h3 o hi
 generalize o8 xs.length (bK kds) i=k at*
 obtain ⟨hk,e⟩:=List.getElem?_eq_some_iff.mp at'
 constructor
 ·intro h
  obtain ⟨j,hj,ej⟩:=List.mem_iff_getElem.mp h
  rw [List.getElem_take] at ej
  rw [List.length_take] at hj
  have:=vT (ja h3 nd) (i:=j) (j:=k) (MQ hj) hk (ej.trans e.symm)
  lia
 ·intro h
  rw [←e]
  exact List.mem_iff_getElem.mpr ⟨k,by rw [List.length_take];lia,by rw [List.getElem_take]⟩
noncomputable def iO (sys:aT) (p q:ah):Bool:=decide ((rank sys p).1 <(rank sys q).1∨((rank sys p).1=(rank sys q).1∧((rank sys p).2 <(rank sys q).2∨((rank sys p).2=(rank sys q).2∧p.row.number <q.row.number))))
theorem Ff (sys:aT) (p q:ah):qt false (nz sys p) (nz sys q)=iO sys p q:=by
 delta nz iO aw
 show (if ((rank sys p).1==(rank sys q).1&&((rank sys p).2==(rank sys q).2&&true))=true then (if (p.row.number==q.row.number)=true then false else decide (p.row.number <q.row.number)) else (if ((rank sys p).1==(rank sys q).1)=true then (if ((rank sys p).2==(rank sys q).2)=true then false else decide ((rank sys p).2 <(rank sys q).2)) else decide ((rank sys p).1 <(rank sys q).1)))=_
 generalize (rank sys p).1=a
 generalize (rank sys p).2=b
 generalize p.row.number=c
 generalize (rank sys q).1=a'
 generalize (rank sys q).2=b'
 generalize q.row.number=c'
 by_cases h1:a=a'<;>by_cases h2:b=b'<;>by_cases h3:c=c'<;>simp [h1,h2,h3]
variable {most:Int}
noncomputable def GX (sys:aT) (most:Int) (its:List af) (p:ah):Bool:=decide (its.countP (fun b=>iO sys b.2 p) <most.toNat)
theorem jq {i j:Nat} (hi:i <its.length) (hj:j <its.length):bK (its.map fun a=>nz sys a.2) i j=iO sys its[i].2 its[j].2:=by
 delta bK
 rw [List.getD_eq_getElem?_getD,List.getD_eq_getElem?_getD,List.getElem?_map,List.getElem?_map,List.getElem?_eq_getElem hi,List.getElem?_eq_getElem hj]
 exact Ff ..
theorem O0 {a b c:Int} {p q r:Prop} (f:p→q→r) (x:a <b∨a=b∧p) (y:b <c∨b=c∧q):a <c∨a=c∧r:=
 x.elim (fun x=>.inl (y.elim (fun y=>Int.lt_trans x y) fun y=>y.1▸x)) fun x=>y.elim (fun y=>.inl (x.1▸y)) fun y=>.inr ⟨x.1.trans y.1,f x.2 y.2⟩
theorem Ox {a b:Int} {p q:Prop} (h:p↔¬ q):(a <b∨a=b∧p)↔¬(b <a∨b=a∧q):=
 ⟨fun x y=>x.elim (fun x=>y.elim (fun y=>Int.lt_irrefl _ (Int.lt_trans x y)) fun y=>Int.lt_irrefl _ (y.1▸x)) fun x=>y.elim (fun y=>Int.lt_irrefl _ (x.1▸y)) fun y=>h.mp x.2 y.2,
 fun n=>(Int.lt_trichotomy a b).elim .inl fun z=>z.elim (fun e=>.inr ⟨e,h.mpr fun w=>n (.inr ⟨e.symm,w⟩)⟩) fun g=>absurd (.inl g) n⟩
theorem D9 (nd:(its.map (·.2.row.number)).Nodup):Pk its.length (bK (its.map fun a=>nz sys a.2)):=by
 refine ⟨fun i hi=>?_,fun i j hi hj n=>?_,fun i j k hi hj hk h1 h2=>?_⟩
 ·rw [jq hi hi];delta iO;simp
 ·rw [jq hi hj,jq hj hi]
  have:its[i].2.row.number≠its[j].2.row.number:=fun e=>by
   have:=vT nd (i:=i) (j:=j) (by rw [List.length_map];exact hi) (by rw [List.length_map];exact hj) (by rw [List.getElem_map,List.getElem_map];exact e)
   exact n this
  delta iO
  rw [Bool.eq_iff_iff,Bool.not_eq_true',decide_eq_true_eq,decide_eq_false_iff_not]
  exact Ox (Ox ⟨fun h k=>Int.lt_irrefl _ (Int.lt_trans h k),fun h=>(Int.lt_or_gt_of_ne this).resolve_right h⟩)
 ·rw [jq hi hj] at h1
  rw [jq hj hk] at h2
  rw [jq hi hk]
  delta iO at*
  rw [decide_eq_true_eq] at*
  exact O0 (O0 Int.lt_trans) h1 h2
theorem qg {α:Type} {p:α→Bool}:∀{xs:List α},(List.range xs.length).countP (fun j=>match xs[j]? with |some x=>p x |none=>false)=xs.countP p
 | []=>rfl
 |x::xs=>by
  rw [List.length_cons,List.range_succ_eq_map,List.countP_cons,List.countP_cons,List.countP_map]
  congr 1
  rw [←qg (xs:=xs)]
  refine List.countP_congr fun j V=>?_
  simp
theorem Dw (h3:its.length≤3) (hx:(its.map (·.1.x)).Nodup) (nd:(its.map (·.2.row.number)).Nodup) (ha:a∈its):pW (dN sys most its) a=GX sys most its a.2:=by
 have ndi:its.Nodup:=List.Pairwise.imp (fun {x y} (h:x.1.x≠y.1.x) (e:x=y)=>h (congrArg (fun z:af=>z.1.x) e)) (List.pairwise_map.mp hx)
 obtain ⟨i,hi,rfl⟩:=List.mem_iff_getElem.mp ha
 have tk:=CG (m:=most.toNat) h3 ndi (D9 (sys:=sys) nd) hi
 have ec:o8 its.length (bK (its.map fun a=>nz sys a.2)) i=its.countP (fun b=>iO sys b.2 its[i].2):=by
  rw [←qg]
  delta o8
  refine List.countP_congr fun j hj=>?_
  have hj:=List.mem_range.mp hj
  rw [jq hj hi,List.getElem?_eq_getElem hj]
 rw [ec] at tk
 rw [Bool.eq_iff_iff]
 delta pW GX
 rw [List.contains_iff_mem,decide_eq_true_eq,←tk]
 constructor
 ·intro h
  refine ab (List.mem_map.mp h) fun b hb e=>?_
  have:b=its[i]:=lJ hx (tu h3 b hb) (List.getElem_mem hi) e
  rw [←this];exact hb
 ·intro h
  exact List.mem_map_of_mem (f:=fun x:af=>x.1.x) h
noncomputable def gY (f:Bool) (b:Int) (p:ah):ah:=if p.isUp then bc b f p else {p with choice:=.un}
noncomputable def qy (r f:Bool) (b:Int) (p:ah):ah:=bW (gY f b p) r
noncomputable def oN (r f:Bool) (b:Int):Nat→ah→ah |0,p=>p |k+1,p=>oN r f b k (qy r f b p)
structure Sm (p q:ah):Prop where
 row:q.row=p.row
 par:q.partner=p.partner
 hrd:q.heard=p.heard
 pid:q.actor.pid=p.actor.pid
 st:p.actor.st <256→q.actor.st <256∧q.own DG=p.own DG∧q.own AH=p.own AH
theorem Sm.refl {p:ah}:Sm p p:=⟨rfl,rfl,rfl,rfl,fun h=>⟨h,rfl,rfl⟩⟩
theorem Sm.trans {p q r:ah} (a:Sm p q) (b:Sm q r):Sm p r:=⟨b.row.trans a.row,b.par.trans a.par,b.hrd.trans a.hrd,b.pid.trans a.pid,fun h=>⟨(b.st (a.st h).1).1,(b.st (a.st h).1).2.1.trans (a.st h).2.1,(b.st (a.st h).1).2.2.trans (a.st h).2.2⟩⟩
theorem Sm.of {p q:ah} (e:q.row=p.row) (e2:q.partner=p.partner) (e3:q.heard=p.heard) (e4:q.actor=p.actor):Sm p q:=⟨e,e2,e3,e4▸rfl,fun h=>⟨e4.symm▸h,congrArg (dq.has · DG) e4,congrArg (dq.has · AH) e4⟩⟩
theorem G5:∀n:Fin 256,∀v:Bool,∀b∈ [8,16,32],(if v then n.1|||b else (n.1|||b) - b) <256∧((if v then n.1|||b else (n.1|||b) - b)&&&4 !=0)=(n.1&&&4 !=0)∧((if v then n.1|||b else (n.1|||b) - b)&&&64 !=0)=(n.1&&&64 !=0):=by decide+kernel
theorem Ab {p:ah} {u:eR} {b:Nat} (hb:b∈ [8,16,32]):Sm p (bk u p b):=by
 have h:∀q:ah,q=p.setOwn b (fP u&&&b !=0)→Sm p q:=fun q e=>e▸⟨rfl,rfl,rfl,rfl,fun h=>G5 ⟨_,h⟩ _ b hb⟩
 delta bk
 dsimp only
 split
 ·exact (h _ rfl).trans (Sm.of rfl rfl rfl rfl)
 ·exact h _ rfl
theorem I7 {p:ah} {u:eR}:Sm p (cz p u):=
 (((Sm.of rfl rfl rfl rfl:Sm p {p with mux:=u}).trans (Ab (.head _))).trans (Ab jT)).trans (Ab uO)
theorem tv (u:eR) (q:ah) (b:Nat):(bk u q b).mux=q.mux∧(bk u q b).choice=q.choice∧(bk u q b).bundle=q.bundle∧(bk u q b).jl=q.jl:=by
 delta bk
 dsimp only
 split<;>exact l6 rfl rfl rfl rfl
theorem o7 {p:ah} {u:eR}:(cz p u).mux=u∧(cz p u).choice=p.choice∧(cz p u).bundle=p.bundle∧(cz p u).jl=p.jl:=
 have a:=tv u {p with mux:=u} uK
 have b:=tv u (bk u {p with mux:=u} uK) Bb
 have c:=tv u (bk u (bk u {p with mux:=u} uK) Bb) QF
 (l6 (c.1.trans (b.1.trans a.1)) (c.2.1.trans (b.2.1.trans a.2.1)) (c.2.2.1.trans (b.2.2.1.trans a.2.2.1)) (c.2.2.2.trans (b.2.2.2.trans a.2.2.2)))
noncomputable def zK (p:ah) (u:eR):ah:=
 let q:=cz p u
 let q:=if u= .wai then {q with jl:=2} else q
 if u= .det then {q with bundle:=none} else q
theorem eg {p:ah} {r:Bool}:bW p r=if ay p r=p.mux then p else zK p (ay p r):=rfl
theorem OZ {p:ah} {u:eR}:Sm p (zK p u):=by
 have h:=I7 (p:=p) (u:=u)
 cases u
 ·exact h.trans (Sm.of rfl rfl rfl rfl)
 ·exact h.trans (Sm.of rfl rfl rfl rfl)
 ·exact h
 ·exact h
 ·exact h
theorem IQ {p:ah} {r:Bool}:Sm p (bW p r):=by
 rw [eg]
 split
 ·exact .refl
 ·exact OZ
theorem sO {f:Bool} {b:Int} {p:ah}:Sm p (gY f b p):=by
 delta gY bc
 split
 ·split
  ·exact .refl
  ·exact .of rfl rfl rfl rfl
 ·exact .of rfl rfl rfl rfl
theorem kc {r f:Bool} {b:Int} {p:ah}:Sm p (qy r f b p):=sO.trans IQ
theorem o9 {r f:Bool} {b:Int}:∀{k:Nat} {p:ah},Sm p (oN r f b k p)
 |0,_=>.refl
 |k+1,_=>kc.trans o9
section
variable {p q q':ah}
theorem Sm.up (s:Sm p q):q.isUp=p.isUp:=congrArg (fun x:c6=>x != .disabled) s.hrd
theorem Sm.oth (s:Sm p q) (b:Nat):q.oth b=p.oth b:=congrArg (dq.has · b) s.par
theorem Sm.lone (s:Sm p q) (h:p.actor.st <256):q.isLone=p.isLone:=by delta ah.isLone;rw [(s.st h).2.1,(s.st h).2.2,s.oth]
theorem Sm.group (s:Sm p q) (h:p.actor.st <256):q.group=p.group:=by delta ah.group;rw [s.row,s.par,s.lone h]
theorem Sm.rank (s:Sm p q) (h:p.actor.st <256):PL.rank sys q=PL.rank sys p:=by delta PL.rank;rw [s.par,s.lone h,s.pid]
theorem Sm.key (s:Sm p q) (s':Sm p' q') (h:p.actor.st <256) (h':p'.actor.st <256):iO sys q q'=iO sys p p':=by delta iO;rw [s.rank h,s'.rank h',s.row,s'.row]
end
structure Sk where
 ch:ai
 mux:eR
 bd:Bool
 deriving DecidableEq
noncomputable def sk (π:Option Int→Bool) (p:ah):Sk:=⟨p.choice,p.mux,π p.bundle⟩
noncomputable def MX (f:Bool) (x:Sk):Sk:=if x.ch== .un&&x.mux != .det then x else ⟨if f then .sel else .stb,x.mux,true⟩
noncomputable def xQ (r syn col:Bool) (x:Sk):eR:=match x.mux with
 | .det=>if x.ch != .un then .wai else .det
 | .wai=>if x.ch== .un then .det else if x.ch== .sel&&r then .att else .wai
 | .att=>if !(x.ch== .sel) then .det else if syn then .col else .att
 | .col=>if !(x.ch== .sel)|| !syn then .att else if col then .dis else .col
 | .dis=>if !(x.ch== .sel)|| !syn then .att else if col then .dis else .col
noncomputable def HK (r syn col:Bool) (x:Sk):Sk:=if xQ r syn col x=x.mux then x else ⟨x.ch,xQ r syn col x,if xQ r syn col x= .det then false else x.bd⟩
noncomputable def Af (r f syn col:Bool) (x:Sk):Sk:=HK r syn col (MX f x)
noncomputable def Kh (r f syn col:Bool):Nat→Sk→Sk |0,x=>x |k+1,x=>Kh r f syn col k (Af r f syn col x)
section
variable {π:Option Int→Bool} {p:ah} {r f:Bool} {b:Int}
theorem Nz {u:eR} (h0:π none=false):sk π (zK p u)=⟨p.choice,u,if u= .det then false else π p.bundle⟩:=by
 refine df (o7 (p:=p) (u:=u)) fun h1 h2 h3 h4=>?_
 have h5:π (cz p u).bundle=π p.bundle:=congrArg π h3
 cases u with
 |det=>exact congr (congr (congrArg Sk.mk h2) h1) h0
 |wai=>exact congr (congr (congrArg Sk.mk h2) h1) h5
 |att=>exact congr (congr (congrArg Sk.mk h2) h1) h5
 |col=>exact congr (congr (congrArg Sk.mk h2) h1) h5
 |dis=>exact congr (congr (congrArg Sk.mk h2) h1) h5
theorem Cc (h0:π none=false):sk π (bW p r)=HK r (p.oth uK) (p.oth Bb) (sk π p):=by
 rw [eg]
 delta HK
 show sk π (if ay p r=p.mux then p else _)=if ay p r=p.mux then sk π p else _
 split
 ·rfl
 ·exact Nz h0
theorem FU (h0:π none=false) (h1:π (some b)=true) (hu:p.isUp=true):sk π (qy r f b p)=Af r f (p.oth uK) (p.oth Bb) (sk π p):=by
 have e:sk π (gY f b p)=MX f (sk π p):=by
  delta gY bc MX
  rw [if_pos hu]
  show sk π (if (p.choice== .un&&p.mux != .det)=true then p else _)=if (p.choice== .un&&p.mux != .det)=true then _ else _
  split
  ·rfl
  ·exact congrArg (Sk.mk _ _) h1
 delta qy
 rw [Cc h0,sO.oth,sO.oth,e];rfl
theorem Ec (h0:π none=false) (h1:π (some b)=true):∀{k:Nat} {p:ah},p.isUp=true→sk π (oN r f b k p)=Kh r f (p.oth uK) (p.oth Bb) k (sk π p)
 |0,_,_=>rfl
 |k+1,p,hu=>by
  have:=Ec h0 h1 (k:=k) (p:=qy r f b p) (kc.up.trans hu)
  rw [kc.oth,kc.oth,FU h0 h1 hu] at this
  exact this
noncomputable def LZ (r syn col:Bool) (x:Sk):Sk:=HK r syn col ⟨.un,x.mux,x.bd⟩
noncomputable def MK (r syn col:Bool):Nat→Sk→Sk |0,x=>x |k+1,x=>MK r syn col k (LZ r syn col x)
theorem NH (h0:π none=false) (hu:p.isUp=false):sk π (qy r f b p)=LZ r (p.oth uK) (p.oth Bb) (sk π p):=by
 have e:sk π (gY f b p)=⟨.un,p.mux,π p.bundle⟩:=by
  delta gY
  rw [if_neg (by rw [hu];decide)];rfl
 delta qy
 rw [Cc h0,sO.oth,sO.oth,e];rfl
theorem DR (h0:π none=false):∀{k:Nat} {p:ah},p.isUp=false→sk π (oN r f b k p)=MK r (p.oth uK) (p.oth Bb) k (sk π p)
 |0,_,_=>rfl
 |k+1,p,hu=>by
  have:=DR h0 (k:=k) (p:=qy r f b p) (kc.up.trans hu)
  rw [kc.oth,kc.oth,NH h0 hu] at this
  exact this
end
noncomputable def yj:List eR:=[.det,.wai,.att,.col,.dis]
noncomputable def ow:List ai:=[.un,.sel,.stb]
theorem we (m:eR):m∈yj:=by cases m<;>decide
theorem lA (m:ai):m∈ow:=by cases m<;>decide
noncomputable def K9 (r f syn col:Bool) (x:Sk):Bool:=Af r f syn col x=x∧x.ch=(if f then .sel else .stb)∧x.mux≠ .det∧x.bd=true
theorem Mu:∀c∈ow,∀m∈yj,∀r f syn col bd:Bool,K9 r f syn col (Kh r f syn col 8 ⟨c,m,bd⟩)=true:=by decide+kernel
theorem MI {r f syn col:Bool} {x:Sk}:Af r f syn col (Kh r f syn col 8 x)=Kh r f syn col 8 x∧(Kh r f syn col 8 x).ch=(if f then .sel else .stb)∧(Kh r f syn col 8 x).mux≠ .det∧(Kh r f syn col 8 x).bd=true:=
 of_decide_eq_true (Mu _ (lA _) _ (we _) r f syn col _)
theorem Mc:∀c∈ow,∀m∈yj,∀r syn col bd:Bool,LZ r syn col (MK r syn col 8 ⟨c,m,bd⟩)=MK r syn col 8 ⟨c,m,bd⟩∧(MK r syn col 8 ⟨c,m,bd⟩).ch= .un∧(MK r syn col 8 ⟨c,m,bd⟩).mux= .det∧(m≠ .det∨bd=false→(MK r syn col 8 ⟨c,m,bd⟩).bd=false):=by decide+kernel
theorem DT:∀c∈ow,∀m∈yj,∀r f syn col bd:Bool,c≠ .un→m≠ .det→f=true∨m= .wai→(Af r f syn col ⟨c,m,bd⟩).ch≠ .un∧(Af r f syn col ⟨c,m,bd⟩).mux≠ .det∧(f=true∨(Af r f syn col ⟨c,m,bd⟩).mux= .wai):=by decide+kernel
noncomputable def CS (sys:aT) (p:ah) (b:af):Bool:=b.2.isUp&&(b.2.group==p.group&&iO sys b.2 p)
noncomputable def rR (sys:aT) (most:Int) (its:List af) (p:ah):Bool:=decide (its.countP (CS sys p) <most.toNat)
structure gk (sys:aT) (most J:Int) (fl:Int→Bool) (e:EI):Prop where
 h3:e.its.length≤3
 hx:(e.its.map (·.1.x)).Nodup
 nd:(e.its.map (·.2.row.number)).Nodup
 ok:jN e.ns
 ln:e.ns.length≤6
 st:∀a∈e.its,a.2.actor.st <256
 fit:∀a∈e.its,a.2.isUp=true→a.2.bundle=none∨∃b,a.2.bundle=some b∧aX e.ns a.2.group=some b
 jl:∀a∈e.its,a.2.mux= .wai→a.2.jl=J
 en:J=2∨∀a∈e.its,a.2.isUp=true→a.2.choice≠ .un∧a.2.mux≠ .det∧(fl a.2.row.number=true∨a.2.mux= .wai)
 fl:∀a∈e.its,a.2.isUp=true→rR sys most e.its a.2=fl a.2.row.number
 J0:0≤J
section
variable {J:Int} {fl:Int→Bool} {e:EI}
theorem gk.srt (C:gk sys most J fl e) (ha:a∈e.its):sorted? e.ns a.2=if a.2.isUp then some a.2.group else none:=by
 unfold sorted?
 cases hu:a.2.isUp with
 |false=>rfl
 |true=>
  have:(a.2.bundle.isSome&&aX e.ns a.2.group !=a.2.bundle)=false:=by
   rcases C.fit a ha hu with h |⟨b,h,h'⟩
   ·rw [h];rfl
   ·rw [h,h'];exact bne_self_eq_false (some b)
  rw [this];rfl
theorem gk.mem (C:gk sys most J fl e) {g:ag}:jM e.ns e.its g=e.its.filter fun b=>b.2.isUp&&b.2.group==g:=by
 delta jM
 refine List.filter_congr fun b hb=>?_
 rw [C.srt hb]
 cases b.2.isUp with
 |false=>rfl
 |true=>exact (Bool.eq_iff_iff.mpr ⟨fun h=>beq_iff_eq.mpr (Option.some.inj (of_decide_eq_true h)),fun h=>decide_eq_true (congrArg some (beq_iff_eq.mp h))⟩)
theorem gk.chosen (C:gk sys most J fl e) (ha:a∈e.its) (hu:a.2.isUp=true):pW (dN sys most (jM e.ns e.its a.2.group)) a=fl a.2.row.number:=by
 rw [←C.fl a ha hu,C.mem]
 have sub:(e.its.filter fun b=>b.2.isUp&&b.2.group==a.2.group).Sublist e.its:=List.filter_sublist
 rw [Dw (Nat.le_trans sub.length_le C.h3) (C.hx.sublist (sub.map _)) (C.nd.sublist (sub.map _)) (List.mem_filter.mpr ⟨ha,by rw [hu];exact beq_self_eq_true _⟩)]
 delta GX rR
 rw [List.countP_filter]
 congr 2
 refine List.countP_congr fun b V=>?_
 delta CS
 rw [Bool.and_comm,Bool.and_assoc]
theorem gk.choose (C:gk sys most J fl e):aY sys most e.ns e.its=e.its.map fun a=>(a.1,gY (fl a.2.row.number) (eC e.ns e.its a.2.group) a.2):=by
 refine List.map_congr_left fun a ha=>?_
 rw [C.srt ha]
 delta gY
 cases hu:a.2.isUp with
 |false=>rfl
 |true=>show (a.1,bc _ (pW _ a) a.2)=_;rw [C.chosen ha hu];rfl
theorem MC {p:ah} {r r':Bool} (h:¬(p.mux= .wai∧p.choice= .sel)):ay p r=ay p r':=by
 unfold ay
 cases hm:p.mux<;>try rfl
 cases hc:p.choice<;>try rfl
 exact absurd ⟨hm,hc⟩ h
theorem B4 {p:ah} {u:eR}:(zK p u).mux=u∧(zK p u).jl=(if u= .wai then 2 else p.jl):=by
 refine df (o7 (p:=p) (u:=u)) fun h1 h2 h3 h4=>?_
 cases u with
 |det=>exact ⟨h1,h4⟩
 |wai=>exact ⟨h1,rfl⟩
 |att=>exact ⟨h1,h4⟩
 |col=>exact ⟨h1,h4⟩
 |dis=>exact ⟨h1,h4⟩
theorem IV:∀c∈ow,∀m∈yj,∀r syn col:Bool,xQ r syn col ⟨c,m,true⟩= .wai→m= .wai∨(m= .det∧c≠ .un):=by decide+kernel
theorem D3 {p:ah} {r:Bool} (h:ay p r= .wai):p.mux= .wai∨(p.mux= .det∧p.choice≠ .un):=IV _ (lA _) _ (we _) r (p.oth uK) (p.oth Bb) h
set_option tactic.hygienic true in
theorem Bj {p:ah} {r:Bool} {J:Int} (h:p.mux= .wai→p.jl=J) (en:J=2∨(p.mux= .det→p.choice= .un)):(bW p r).mux= .wai→(bW p r).jl=J:=by
 rw [eg]
 split
 ·exact h
 ·rename_i hn
  intro q
  rw [B4.1] at q
  rw [B4.2,if_pos q]
  rcases D3 q with w |⟨d,c⟩
  ·exact absurd (q.trans w.symm) hn
  ·rcases en with rfl |z
   ·rfl
   ·exact absurd (z d) c
noncomputable def Kt (r:Bool) (a:af):af:=(a.1,bW a.2 r)
theorem MF (hJ:0≤J) {k:Nat} (jl:∀b∈bY (Kt (decide (J=0))) k its,b.2.mux= .wai→b.2.jl=J) (ha:a∈bY (Kt (decide (J=0))) k its) (hm:a.2.mux= .wai) (hc:a.2.choice= .sel):
  cx ((bY (Kt (decide (J=0))) k its).map (·.2)) a.2.bundle=decide (J=0):=by
 delta cx
 by_cases h:J=0
 ·refine Eq.trans ?_ (decide_eq_true h).symm
  refine List.all_eq_true.mpr fun q hq=>?_
  refine ab (List.mem_map.mp hq) fun b hb zr61=>?_;subst zr61
  rw [Bool.not_eq_true']
  by_cases m:b.2.mux= .wai
  ·have:=jl b hb m
   rw [this,h];exact Bool.and_false _
  ·have:(b.2.mux== .wai)=false:=beq_false_of_ne m
   rw [this,Bool.and_false];rfl
 ·refine Eq.trans ?_ (decide_eq_false h).symm
  have hj:=jl a ha hm
  refine List.all_eq_false.mpr (a9 a.2 (List.mem_map_of_mem ha) ?_)
  have h2:decide (a.2.jl >0)=true:=decide_eq_true (by rw [hj];lia)
  rw [hm,hc,h2,beq_self_eq_true];decide
theorem r8 (hJ:0≤J) (jl:∀a∈its,a.2.mux= .wai→a.2.jl=J) (en:J=2∨∀a∈its,a.2.mux= .det→a.2.choice= .un) (c0:Bool):∀k,k≤its.length→cC its k=bY (Kt (decide (J=0))) k its∧ud c0 its k=(c0||(its.take k).any fun a=>steps a.2 (decide (J=0)))
 |0,_=>⟨rfl,by rw [List.take_zero];exact (Bool.or_false _).symm⟩
 |k+1,hk=>by
  obtain ⟨ih1,ih2⟩:=r8 hJ jl en c0 k (Nat.le_of_succ_le hk)
  have e:=List.getElem?_eq_getElem (l:=its) (i:=k) hk
  have ea:=kI (f:=Kt (decide (J=0))) e
  have hin:=List.mem_of_getElem? ea
  have jl':∀b∈bY (Kt (decide (J=0))) k its,b.2.mux= .wai→b.2.jl=J:=fun b hb=>by
   rcases List.mem_append.mp hb with hb |hb
   ·obtain ⟨c,hc,rfl⟩:=List.mem_map.mp hb
    have hc:=List.mem_of_mem_take hc
    exact Bj (jl c hc) (en.imp id fun z=>z c hc)
   ·exact jl b (List.mem_of_mem_drop hb)
  have nx:ay its[k].2 (cx ((bY (Kt (decide (J=0))) k its).map (·.2)) its[k].2.bundle)=ay its[k].2 (decide (J=0)):=by
   by_cases c:its[k].2.mux= .wai∧its[k].2.choice= .sel
   ·rw [MF hJ jl' hin c.1 c.2]
   ·exact MC c
  constructor
  ·show jc (cC its k) k=_
   rw [ih1,eW e]
   delta jc
   rw [ea]
   show List.set _ _ (_,bW _ _)=List.set _ _ (_,bW _ _)
   rw [eg,eg,nx]
  ·show (yA (cC its k) k||ud c0 its k)=_
   rw [ih1,ih2,List.take_add_one,e,List.any_append]
   delta yA
   rw [ea]
   have:steps its[k].2 (cx ((bY (Kt (decide (J=0))) k its).map (·.2)) its[k].2.bundle)=steps its[k].2 (decide (J=0)):=by delta steps;rw [nx]
   dsimp only
   rw [this]
   show _=(c0||(_||(steps its[k].2 _||false)))
   rw [Bool.or_false,Bool.or_comm,Bool.or_assoc]
end
noncomputable def wA (J:Int) (fl:Int→Bool) (nb:ag→Int) (a:af):af:=(a.1,qy (decide (J=0)) (fl a.2.row.number) (nb a.2.group) a.2)
section
variable {J:Int} {fl:Int→Bool} {e:EI} {p:ah} {f r:Bool} {b:Int}
theorem jo:(gY f b p).mux=p.mux∧(gY f b p).jl=p.jl:=by
 delta gY bc
 split
 ·split<;>exact ⟨rfl,rfl⟩
 ·exact ⟨rfl,rfl⟩
theorem vQ (hu:p.isUp=false):(gY f b p).choice= .un:=by
 delta gY
 rw [if_neg (by rw [hu];decide)]
theorem wd (h1:(gY f b p).choice=p.choice) (h2:(gY f b p).bundle=p.bundle):gY f b p=p:=by
 have e:gY f b p={p with choice:=(gY f b p).choice,bundle:=(gY f b p).bundle}:=by
  delta gY bc
  split
  ·split<;>rfl
  ·rfl
 rw [e,h1,h2]
theorem Kx (hu:p.isUp=true):(gY f b p).bundle=p.bundle∨(gY f b p).bundle=some b:=by
 delta gY bc
 rw [if_pos hu]
 split
 ·exact .inl rfl
 ·exact .inr rfl
theorem H4:(bW p r).bundle=none∨(bW p r).bundle=p.bundle:=by
 rw [eg]
 split
 ·exact .inr rfl
 ·refine df (o7 (p:=p) (u:=ay p r)) fun V V h V=>?_
  cases hn:ay p r with
  |det=>exact .inl rfl
  |wai=>rw [hn] at h;exact .inr h
  |att=>rw [hn] at h;exact .inr h
  |col=>rw [hn] at h;exact .inr h
  |dis=>rw [hn] at h;exact .inr h
theorem wQ (h:qy r f b p=p):gY f b p=p∧steps (gY f b p) r=false:=by
 delta qy at h
 have hm:ay (gY f b p) r=(gY f b p).mux:=by
  have:=congrArg ah.mux h
  rw [eg] at this
  by_cases c:ay (gY f b p) r=(gY f b p).mux
  ·exact c
  ·rw [if_neg c,B4.1] at this
   rw [this];exact jo.1.symm
 rw [eg,if_pos hm] at h
 refine ⟨h,?_⟩
 delta steps
 rw [hm];exact bne_self_eq_false _
theorem Bl (h:gY f b p=p) (hs:steps (gY f b p) r=false):qy r f b p=p:=by
 have hm:ay (gY f b p) r=(gY f b p).mux:=by
  delta steps at hs
  exact eq_of_beq (by rw [bne,Bool.not_eq_false'] at hs;exact hs)
 delta qy
 rw [eg,if_pos hm,h]
theorem gk.num (C:gk sys most J fl e) (ha:a∈e.its) (hu:a.2.isUp=true):aX (cK sys most e.ns e.its) a.2.group=some (eC e.ns e.its a.2.group):=by
 delta cK
 rw [qA]
 have hk:a.2.group∈bZ e.ns e.its:=(pb C.h3).mpr (fT.all a ha _ (by rw [C.srt ha,hu];rfl))
 refine qf (jE C.ok) ?_ ?_
 ·refine cQ (Option.isSome_iff_exists.mp (zo (ns:=e.ns) hk)) fun n hn=>?_
  delta eC
  rw [hn];rfl
 ·delta jg
  refine Bool.or_eq_true_iff.mpr (.inl (List.contains_iff_mem.mpr (List.mem_map.mpr (a9 (gY (fl a.2.row.number) (eC e.ns e.its a.2.group) a.2) (List.mem_filter.mpr ⟨?_,sO.up.trans hu⟩) (sO.group (C.st a ha))))))
  rw [C.choose,List.map_map]
  exact List.mem_map_of_mem (f:=(fun x:af=>x.2)∘fun a:af=>(a.1,gY (fl a.2.row.number) (eC e.ns e.its a.2.group) a.2)) ha
theorem gk.steps (C:gk sys most J fl e):(bA sys most e).its=e.its.map (wA J fl (eC e.ns e.its))∧h9 sys most e=(d4 sys most e.ns e.its||(aY sys most e.ns e.its).any fun a=>PL.steps a.2 (decide (J=0))):=by
 have S:=r8 (its:=aY sys most e.ns e.its) C.J0 (fun c hc m=>by
  rw [C.choose] at hc
  refine ab (List.mem_map.mp hc) fun a ha zr62=>?_;subst zr62
  exact jo.2.trans (C.jl a ha (jo.1.symm.trans m))) (C.en.imp id fun z c hc m=>by
  rw [C.choose] at hc
  refine ab (List.mem_map.mp hc) fun a ha zr63=>?_;subst zr63
  cases hu:a.2.isUp with
  |true=>exact absurd (jo.1.symm.trans m) (z a ha hu).2.1
  |false=>exact vQ hu) (d4 sys most e.ns e.its) _ (Nat.le_refl _)
 constructor
 ·show cC _ _=_
  rw [S.1,gD,C.choose,List.map_map];rfl
 ·show ud _ _ _=_
  rw [S.2,List.take_length]
theorem gk.still (C:gk sys most J fl e) (h:∀a∈e.its,qy (decide (J=0)) (fl a.2.row.number) (eC e.ns e.its a.2.group) a.2=a.2):h9 sys most e=false:=by
 have e1:aY sys most e.ns e.its=e.its:=by
  rw [C.choose]
  exact (List.map_congr_left fun a ha=>congrArg (Prod.mk a.1) (wQ (h a ha)).1).trans (List.map_id _)
 rw [C.steps.2]
 have h1:d4 sys most e.ns e.its=false:=by
  delta d4
  rw [e1,beq_self_eq_true];rfl
 rw [h1,Bool.false_or,e1]
 refine List.any_eq_false.mpr fun a ha=>?_
 have:=(wQ (h a ha)).2
 rw [(wQ (h a ha)).1] at this
 rw [this];decide
theorem gk.stop (C:gk sys most J fl e) (h:h9 sys most e=false):∀a∈e.its,qy (decide (J=0)) (fl a.2.row.number) (eC e.ns e.its a.2.group) a.2=a.2:=by
 rw [C.steps.2] at h
 refine bC (Bool.or_eq_false_iff.mp h) fun h1 h2=>?_
 unfold d4 at h1
 rw [Bool.not_eq_false',C.choose,List.map_map] at h1
 have h1:=List.map_inj_left.mp (eq_of_beq h1)
 rw [C.choose] at h2
 intro a ha
 have s:=h1 a ha
 have s1:(gY (fl a.2.row.number) (eC e.ns e.its a.2.group) a.2).choice=a.2.choice:=congrArg Prod.fst s
 have s2:(gY (fl a.2.row.number) (eC e.ns e.its a.2.group) a.2).bundle=a.2.bundle:=congrArg Prod.snd s
 have:=List.any_eq_false.mp h2 _ (List.mem_map_of_mem ha)
 exact Bl (wd s1 s2) (Bool.eq_false_iff.mpr this)
theorem EL {J:Int} {fl:Int→Bool} {nb:ag→Int} {its:List af} (st:∀a∈its,a.2.actor.st <256) (ha:a∈its):rR sys most (its.map (wA J fl nb)) (wA J fl nb a).2=rR sys most its a.2:=by
 delta rR
 rw [List.countP_map]
 congr 2
 refine List.countP_congr fun c hc=>?_
 show CS sys (wA J fl nb a).2 (wA J fl nb c)=true↔_
 delta CS
 have sa:Sm a.2 (wA J fl nb a).2:=kc
 have sc:Sm c.2 (wA J fl nb c).2:=kc
 rw [sc.up,sc.group (st c hc),sa.group (st a ha),sc.key sa (st c hc) (st a ha)]
theorem gk.next (C:gk sys most J fl e):gk sys most J fl (bA sys most e)∧∀a∈e.its,a.2.isUp=true→eC (bA sys most e).ns (bA sys most e).its a.2.group=eC e.ns e.its a.2.group:=by
 have hits:=C.steps.1
 have mem:∀a'∈(bA sys most e).its,∃a∈e.its,a'=wA J fl (eC e.ns e.its) a:=fun a' ha'=>by
  rw [hits] at ha'
  refine ab (List.mem_map.mp ha') fun a ha e=>?_
  exact a9 a ha e.symm
 have sm:∀a,Sm a.2 (wA J fl (eC e.ns e.its) a).2:=fun a=>kc
 have hok:jN (bA sys most e).ns:=lN (jE C.ok)
 have m1:(bA sys most e).its.map (·.1.x)=e.its.map (·.1.x):=by rw [hits,List.map_map];rfl
 have m2:(bA sys most e).its.map (·.2.row.number)=e.its.map (·.2.row.number):=by
  rw [hits,List.map_map]
  exact List.map_congr_left fun a V=>congrArg pK.number (sm a).row
 refine ⟨⟨by rw [hits,List.length_map];exact C.h3,m1▸C.hx,m2▸C.nd,hok,?_,fun a' ha'=>?_,fun a' ha' hu=>?_,fun a' ha'=>?_,C.en.imp id fun z a' ha' hu=>?_,fun a' ha' hu=>?_,C.J0⟩,fun a ha hu=>?_⟩
 ·have:=xB (ps:=(aY sys most e.ns e.its).map (·.2)) (jE (ks:=bZ e.ns e.its) C.ok)
  rw [List.length_map,C.choose,List.length_map] at this
  have h3:=C.h3
  show (iM _ _).length≤6
  rw [C.choose]
  exact Nat.le_trans this (Nat.add_le_add h3 h3)
 ·refine ab (mem a' ha') fun a ha zr64=>?_;subst zr64
  exact ((sm a).st (C.st a ha)).1
 ·refine ab (mem a' ha') fun a ha zr65=>?_;subst zr65
  have hu':a.2.isUp=true:=(sm a).up.symm.trans hu
  have hn:=C.num ha hu'
  have hg:=(sm a).group (C.st a ha)
  rcases H4 (p:=gY (fl a.2.row.number) (eC e.ns e.its a.2.group) a.2) (r:=decide (J=0)) with h |h
  ·exact .inl h
  ·rcases Kx (f:=fl a.2.row.number) (b:=eC e.ns e.its a.2.group) hu' with h2 |h2
   ·rcases C.fit a ha hu' with h3 |⟨b,h3,h4⟩
    ·exact .inl (h.trans (h2.trans h3))
    ·refine .inr (a9 b (h.trans (h2.trans h3)) ?_)
     rw [hg]
     have:eC e.ns e.its a.2.group=b:=by delta eC;rw [jy h4];rfl
     exact this▸hn
   ·exact .inr (a9 _ (h.trans h2) (by rw [hg];exact hn))
 ·refine ab (mem a' ha') fun a ha zr66=>?_;subst zr66
  refine Bj (fun m=>jo.2.trans (C.jl a ha (jo.1.symm.trans m))) (C.en.imp id fun z m=>?_)
  cases hu:a.2.isUp with
  |true=>exact absurd (jo.1.symm.trans m) (z a ha hu).2.1
  |false=>exact vQ hu
 ·refine ab (mem a' ha') fun a ha zr67=>?_;subst zr67
  have hu':a.2.isUp=true:=(sm a).up.symm.trans hu
  refine cB (z a ha hu') fun z1 z2 z3=>?_
  have S:=FU (π:=Option.isSome) (r:=decide (J=0)) (f:=fl a.2.row.number) (b:=eC e.ns e.its a.2.group) rfl rfl hu'
  have T:=DT _ (lA _) _ (we _) (decide (J=0)) (fl a.2.row.number) (a.2.oth uK) (a.2.oth Bb) a.2.bundle.isSome z1 z2 z3
  have s1:=congrArg Sk.ch S
  have s2:=congrArg Sk.mux S
  refine ⟨fun q=>T.1 (s1.symm.trans q),fun q=>T.2.1 (s2.symm.trans q),T.2.2.imp (fun q=>?_) fun q=>s2.trans q⟩
  rw [(sm a).row];exact q
 ·refine ab (mem a' ha') fun a ha zr68=>?_;subst zr68
  have hu':a.2.isUp=true:=(sm a).up.symm.trans hu
  rw [hits,EL C.st ha,C.fl a ha hu',(sm a).row]
 ·have hn:aX (bA sys most e).ns a.2.group=_:=C.num ha hu
  show (aX (gM _ (bZ (bA sys most e).ns (bA sys most e).its)) _).getD 0=_
  rw [jy hn];rfl
theorem J5 {b':Int} (hu:p.isUp=false):qy r f b p=qy r f b' p:=by
 delta qy gY
 rw [if_neg (by rw [hu];decide),if_neg (by rw [hu];decide)]
noncomputable def M6 (J:Int) (fl:Int→Bool) (nb:ag→Int) (k:Nat) (a:af):af:=(a.1,oN (decide (J=0)) (fl a.2.row.number) (nb a.2.group) k a.2)
theorem xE (h:qy r f b p=p):∀k,oN r f b k p=p
 |0=>rfl
 |k+1=>by
  show oN r f b k (qy r f b p)=p
  rw [h];exact xE h k
theorem gk.go {nb:ag→Int} (k:Nat):∀(m:Nat) {e:EI},gk sys most J fl e→(∀a∈e.its,a.2.isUp=true→eC e.ns e.its a.2.group=nb a.2.group)→(∀a∈e.its,qy (decide (J=0)) (fl a.2.row.number) (nb a.2.group) (M6 J fl nb m a).2=(M6 J fl nb m a).2)→
  ∃ns',iC sys most (m+1+k) e=some ⟨e.its.map (M6 J fl nb m),ns'⟩∧jN ns'∧ns'.length≤6∧∀a∈e.its,a.2.isUp=true→aX ns' a.2.group=some (nb a.2.group):=by
 have sameb:∀{e:EI},(∀a∈e.its,a.2.isUp=true→eC e.ns e.its a.2.group=nb a.2.group)→∀a∈e.its,wA J fl (eC e.ns e.its) a=wA J fl nb a:=fun {e} hn a ha=>by
  delta wA
  cases hu:a.2.isUp with
  |true=>rw [hn a ha hu]
  |false=>rw [J5 hu]
 have gF:∀{e:EI} {m:Nat},gk sys most J fl e→(∀a∈e.its,a.2.isUp=true→eC e.ns e.its a.2.group=nb a.2.group)→(∀a∈e.its,wA J fl nb a=a)→iC sys most (m+1) e=some (bA sys most e)∧(bA sys most e).its=e.its∧jN (bA sys most e).ns∧(bA sys most e).ns.length≤6∧∀a∈e.its,a.2.isUp=true→aX (bA sys most e).ns a.2.group=some (nb a.2.group):=fun {e m} C hn h=>by
  have hm:=C.still fun a ha=>congrArg Prod.snd ((sameb hn a ha).trans (h a ha))
  have hl:¬ 400 <e.ns.length:=fun q=>absurd (Nat.lt_of_lt_of_le q C.ln) (by decide)
  refine sQ ?_ ?_ C.next.1.ok C.next.1.ln (fun a ha hu=>hn a ha hu▸C.num ha hu)
  ·show (if _ then _ else _)=_
   rw [if_neg hl,hm];rfl
  ·rw [C.steps.1]
   exact (List.map_congr_left fun a ha=>(sameb hn a ha).trans (h a ha)).trans (List.map_id _)
 intro m
 induction m with
 |zero=>
  intro e C hn h
  have h':∀a∈e.its,wA J fl nb a=a:=fun a ha=>congrArg (Prod.mk a.1) (h a ha)
  refine cB (gF (m:=k) C hn h') fun f1 f2 f3=>?_
  refine a9 _ ?_ f3
  rw [Nat.zero_add,Nat.add_comm 1 k,f1]
  exact congrArg (fun x=>some (EI.mk x (bA sys most e).ns)) (f2.trans (List.map_id _).symm)
 |succ m ih=>
  intro e C hn h
  cases hm:h9 sys most e with
  |false=>
   have h':∀a∈e.its,wA J fl nb a=a:=fun a ha=>(sameb hn a ha).symm.trans (congrArg (Prod.mk a.1) (C.stop hm a ha))
   refine cB (gF (m:=m+1+k) C hn h') fun f1 f2 f3=>?_
   refine a9 _ ?_ f3
   rw [Nat.add_right_comm,f1]
   refine congrArg (fun x=>some (EI.mk x (bA sys most e).ns)) (f2.trans ?_)
   refine ((List.map_congr_left fun a ha=>?_).trans (List.map_id _)).symm
   exact congrArg (Prod.mk a.1) (xE (congrArg Prod.snd (h' a ha)) (m+1))
  |true=>
   have hits:(bA sys most e).its=e.its.map (wA J fl nb):=C.steps.1.trans (List.map_congr_left (sameb hn))
   have sm:∀a,Sm a.2 (wA J fl nb a).2:=fun a=>kc
   have hcomp:∀a∈e.its,M6 J fl nb m (wA J fl nb a)=M6 J fl nb (m+1) a:=fun a ha=>by
    delta M6
    rw [(sm a).row,(sm a).group (C.st a ha)];rfl
   obtain ⟨ns',r1,r2,r3,r4⟩:=ih C.next.1 (fun a' ha' hu=>by
    rw [hits] at ha'
    refine ab (List.mem_map.mp ha') fun a ha zr69=>?_;subst zr69
    have hu':=(sm a).up.symm.trans hu
    rw [(sm a).group (C.st a ha),C.next.2 a ha hu',hn a ha hu']) fun a' ha'=>by
    rw [hits] at ha'
    refine ab (List.mem_map.mp ha') fun a ha zr70=>?_;subst zr70
    rw [hcomp a ha,(sm a).row,(sm a).group (C.st a ha)]
    exact h a ha
   refine yJ ns' ?_ r2 r3 (fun a ha hu=>?_)
   ·have hl:¬ 400 <e.ns.length:=fun q=>absurd (Nat.lt_of_lt_of_le q C.ln) (by decide)
    rw [Nat.add_right_comm]
    show (if _ then _ else _)=_
    rw [if_neg hl,hm,if_pos rfl,r1,hits,List.map_map]
    exact congrArg (fun x=>some (EI.mk x ns')) (List.map_congr_left hcomp)
   ·have:=r4 (wA J fl nb a) (by rw [hits];exact List.mem_map_of_mem ha) ((sm a).up.trans hu)
    rwa [(sm a).group (C.st a ha)] at this
noncomputable def k8:Nat:=Classical.choose (⟨8,rfl⟩:∃n:Nat,n=8)
theorem yq:k8=8:=Classical.choose_spec (⟨8,rfl⟩:∃n:Nat,n=8)
set_option tactic.hygienic true in
theorem Ky (hu:p.isUp=true):(oN r f b k8 p).choice=(if f then .sel else .stb)∧(oN r f b k8 p).mux≠ .det∧(oN r f b k8 p).bundle=some b∧qy r f b (oN r f b k8 p)=oN r f b k8 p:=by
 have S:=Ec (π:=fun x=>decide (x=some b)) (r:=r) (f:=f) rfl (decide_eq_true rfl) (k:=k8) hu
 refine df (MI (r:=r) (f:=f) (syn:=p.oth uK) (col:=p.oth Bb) (x:=sk (fun x=>decide (x=some b)) p)) fun F1 F2 F3 F4=>?_
 rw [←yq,←S] at F1 F2 F3 F4
 have hb:(oN r f b k8 p).bundle=some b:=of_decide_eq_true F4
 have hu':(oN r f b k8 p).isUp=true:=o9.up.trans hu
 refine l6 F2 F3 hb ?_
 have S2:=FU (π:=fun x=>decide (x=some b)) (r:=r) (f:=f) (b:=b) rfl (decide_eq_true rfl) hu'
 rw [o9.oth,o9.oth,F1] at S2
 generalize oN r f b k8 p=q at F2 hb hu' S2 ⊢
 have hc:gY f b q=q:=by
  refine wd ?_ ((Kx hu').elim id fun h=>h.trans hb.symm)
  delta gY bc
  rw [if_pos hu']
  split
  ·rfl
  ·exact F2.symm
 have hm:(qy r f b q).mux=q.mux:=congrArg Sk.mux S2
 delta qy at hm ⊢
 rw [hc] at hm ⊢
 rw [eg] at hm ⊢
 split
 ·rfl
 ·rename_i hn
  rw [if_neg hn,B4.1] at hm
  exact absurd hm hn
theorem Cr (hu:p.isUp=false):(oN r f b k8 p).choice= .un∧(oN r f b k8 p).mux= .det∧(p.mux≠ .det∨p.bundle=none→(oN r f b k8 p).bundle=none)∧qy r f b (oN r f b k8 p)=oN r f b k8 p:=by
 have S:=DR (π:=Option.isSome) (r:=r) (f:=f) (b:=b) rfl (k:=k8) hu
 refine df (Mc _ (lA p.choice) _ (we p.mux) r (p.oth uK) (p.oth Bb) p.bundle.isSome) fun F1 F2 F3 F4=>?_
 rw [←yq] at F2 F3 F4
 have S1:(oN r f b k8 p).choice= .un:=(congrArg Sk.ch S).trans F2
 have S2:(oN r f b k8 p).mux= .det:=(congrArg Sk.mux S).trans F3
 refine l6 S1 S2 (fun h=>?_) ?_
 ·have:=(congrArg Sk.bd S).trans (F4 (h.imp id fun q=>by rw [q];rfl))
  exact Option.isNone_iff_eq_none.mp (by rw [←Option.not_isSome];exact congrArg not this)
 ·have hu':(oN r f b k8 p).isUp=false:=o9.up.trans hu
  generalize oN r f b k8 p=q at S1 S2 hu' ⊢
  have hc:gY f b q=q:=by
   refine wd ((vQ hu').trans S1.symm) ?_
   delta gY
   rw [if_neg (by rw [hu'];decide)]
  refine Bl hc ?_
  rw [hc]
  unfold PL.steps ay
  rw [S1,S2];rfl
theorem gk.rest (C:gk sys most J fl e) {fuel:Nat} (hf:9≤fuel):∃nb ns',iC sys most fuel e=some ⟨e.its.map (M6 J fl nb k8),ns'⟩∧jN ns'∧ns'.length≤6∧∀a∈e.its,a.2.isUp=true→aX ns' a.2.group=some (nb a.2.group):=by
 refine ⟨eC e.ns e.its,?_⟩
 have:=C.go (nb:=eC e.ns e.its) (fuel - 9) k8 (fun V V V=>rfl) fun a ha=>?_
 ·have e1:k8+1+(fuel - 9)=fuel:=by rw [yq];exact Nat.add_sub_cancel' hf
  rw [e1] at this
  exact this
 ·cases hu:a.2.isUp with
  |true=>exact (Ky hu).2.2.2
  |false=>exact (Cr hu).2.2.2
end
set_option genInjectivity false in
structure LP where
 ast:Nat
 kn:Bool
 pst:Nat
 heard:c6
 hl:Int
 mux:eR
 jl:Int
 tl:Int
 ms:Bool
 sm:Int
set_option genInjectivity false in
structure mn where
 row:pK
 sys:aT
 osys:aT
 okey:Int
 opid:aT
structure MA where
 ast:Nat
 kn:Bool
 pst:Nat
noncomputable def wb (n b:Nat) (v:Bool):Nat:=if v then n|||b else (n|||b) - b
noncomputable def hb (n b:Nat):Bool:=n&&&b !=0
noncomputable def m8 (s:aT) (k:Int) (d:aT) (kn:Bool) (st:Nat):dq:=match kn with |true=>⟨s,k,d,st⟩ |false=>⟨(0,0),0,(0,0),st⟩
noncomputable def mk (X:mn) (l:LP) (c:ai) (b:Option Int):ah:=⟨X.row,⟨X.sys,X.row.key,X.row.pid,l.ast⟩,m8 X.osys X.okey X.opid l.kn l.pst,l.heard,l.hl,c,l.mux,b,l.jl,l.tl,l.ms,l.sm⟩
noncomputable def LP.up (l:LP):Bool:=l.heard != .disabled
noncomputable def LP.lone (l:LP):Bool:=!hb l.ast 4|| !hb l.pst 4||hb l.ast 64
noncomputable def q8 (l:LP):LP:={l with heard:=.expired,hl:=3,pst:=wb (wb l.pst 8 false) 2 true,ast:=wb l.ast 128 true,ms:=true,tl:=if hb (wb (wb l.pst 8 false) 2 true) 2 then 1 else 30}
noncomputable def pV (l:LP):LP:={l with heard:=.disabled,hl:=0,kn:=false,pst:=56,ast:=wb (wb l.ast 128 false) 64 true,ms:=false}
noncomputable def K3 (l:LP):LP:=if l.heard== .current then q8 l else {l with heard:=.defaulted,kn:=false,pst:=56,ast:=wb (wb l.ast 128 false) 64 true}
noncomputable def MJ (l:LP) (c:ai):ai:=if l.heard== .current then c else if l.kn|| !hb l.ast 64 then .un else c
noncomputable def iN (l:LP) (m:MA):Bool:=l.kn&&(hb m.ast 4==hb l.pst 4)
noncomputable def lg (l:LP) (m:MA):Bool:=m.kn&&((m.pst^^^l.ast)&&&15==0)
noncomputable def qI (l:LP) (m:MA):Bool:=if !hb m.ast 8 then false else if !hb m.ast 1&& !(hb l.ast 1&&hb m.pst 1) then false else (m.kn&&(hb m.pst 4==hb l.ast 4))|| !hb m.ast 4
noncomputable def Br (l:LP) (m:MA) (kns ins:Bool):LP:=
 let l1:LP:={l with kn:=true,pst:=wb m.ast 8 ins,ast:=wb (wb l.ast 64 false) 128 false,heard:=.current,hl:=if hb (wb (wb l.ast 64 false) 128 false) 2 then 3 else 90,ms:=if kns then l.ms else true}
 if !hb l.pst 2&&hb (wb m.ast 8 ins) 2 then {l1 with tl:=0,ms:=true} else l1
noncomputable def cg (l:LP) (m:MA):LP:=if l.up then Br l m (lg l m) (qI l m) else l
noncomputable def uZ (l:LP) (m:MA) (c:ai):ai:=if l.up&&(!iN l m||hb l.ast 64) then .un else c
noncomputable def Gi (l:LP):Int:=if hb l.pst 2 then 1 else 30
noncomputable def zf (l:LP):LP:=let l:={l with tl:=min l.tl (Gi l) - 1};if decide (l.tl≤0) then {l with tl:=Gi l,ms:=true} else l
noncomputable def Pr (l:LP):LP:={l with sm:=0,hl:=l.hl - 1}
noncomputable def rp (l:LP):LP:=if l.up then (if l.heard != .defaulted then (if decide (l.hl - 1≤0) then zf (K3 (Pr l)) else zf (Pr l)) else zf {l with sm:=0}) else {l with sm:=0}
noncomputable def tR (l:LP) (c:ai):ai:=if l.up&&(l.heard != .defaulted&&decide (l.hl - 1≤0)) then MJ l c else c
noncomputable def KR (l:LP):LP:=if l.mux== .wai&&decide (l.jl >0) then {l with jl:=l.jl - 1} else l
noncomputable def lU (l:LP):LP:=KR (rp l)
noncomputable def jw (l:LP):Bool:=l.up&&(hb l.ast 1||hb l.pst 1)
noncomputable def dD (l:LP):LP:=if jw l then l else {l with ms:=false}
noncomputable def cP (l:LP):Bool:=(dD l).ms&& !decide (l.sm≥3)
noncomputable def dp (l:LP):LP:=if cP l then {dD l with ms:=false,sm:=l.sm+1} else dD l
noncomputable def mA (l:LP):Option MA:=if cP l then some ⟨l.ast,l.kn,l.pst⟩ else none
noncomputable def zA (X:mn) (m:MA):oM:=⟨⟨X.osys,X.okey,X.opid,m.ast⟩,m8 X.sys X.row.key X.row.pid m.kn m.pst⟩
noncomputable def Nq (X:mn) (m:MA):oM:=⟨⟨X.sys,X.row.key,X.row.pid,m.ast⟩,m8 X.osys X.okey X.opid m.kn m.pst⟩
structure mn.Ok (X:mn):Prop where
 s:(X.sys==((0:Int),(0:Int)))=false
 o:(X.osys==((0:Int),(0:Int)))=false
section
variable {X:mn} {l:LP} {c:ai} {b:Option Int} {m:MA}
theorem i8 {s d:aT} {k:Int} {kn:Bool} {st:Nat}:(m8 s k d kn st).has n=hb st n:=by cases kn<;>rfl
theorem vV:(mk X l c b).oth n=hb l.pst n:=i8
theorem Lf:(mk X l c b).own n=hb l.ast n:=rfl
theorem ET:(mk X l c b).isUp=l.up:=rfl
theorem qD:(mk X l c b).isLone=l.lone:=by delta ah.isLone;rw [vV];rfl
theorem zc:ee (mk X l c b)=mk X (q8 l) c b:=by
 obtain ⟨ast,kn,pst,heard,hl,mux,jl,tl,ms,sm⟩:=l
 cases kn<;>rfl
theorem Mo:ju (mk X l c b)=mk X (pV l) .un b:=rfl
theorem FA {s d:aT} {k:Int} {kn:Bool} {st st':Nat} (h:(s==((0:Int),(0:Int)))=false):dq.same3 ⟨s,k,d,st'⟩ (m8 s k d kn st)=kn:=by
 delta dq.same3
 cases kn with
 |true=>show (s==s&&k==k&&d==d)=true;rw [beq_self_eq_true,beq_self_eq_true,beq_self_eq_true];rfl
 |false=>show (s==(0,0)&&k==0&&d==(0,0))=false;rw [h];rfl
theorem yp {s d:aT} {k:Int} {kn:Bool} {st st':Nat} (h:(s==((0:Int),(0:Int)))=false):dq.same3 (m8 s k d kn st) ⟨s,k,d,st'⟩=kn:=by
 delta dq.same3
 cases kn with
 |true=>show (s==s&&k==k&&d==d)=true;rw [beq_self_eq_true,beq_self_eq_true,beq_self_eq_true];rfl
 |false=>
  show ((0,0)==s&&0==k&&(0,0)==d)=false
  rw [Bool.beq_comm,h];rfl
theorem HO {s d:aT} {k:Int} {kn:Bool} {st:Nat} (h:(s==((0:Int),(0:Int)))=false):dq.same3 (m8 s k d kn st) gZ= !kn:=by
 delta dq.same3
 cases kn with
 |true=>show (s==(0,0)&&k==0&&d==(0,0))=false;rw [h];rfl
 |false=>rfl
theorem LQ (ok:X.Ok):dj (mk X l c b)=mk X (K3 l) (MJ l c) b:=by
 delta dj K3 MJ
 show (if (l.heard== .current)=true then _ else _)=_
 cases l.heard== .current with
 |true=>exact zc
 |false=>
  dsimp only
  rw [if_neg Bool.false_ne_true,if_neg Bool.false_ne_true,if_neg Bool.false_ne_true]
  have:(!(m8 X.osys X.okey X.opid l.kn l.pst).same3 gZ|| !(mk X l c b).own AH)=(l.kn|| !hb l.ast 64):=by rw [HO ok.o,Bool.not_not];rfl
  show (ah.setOwn _ OR false).setOwn AH true=_
  rw [show (!({mk X l c b with heard:=c6.defaulted}:ah).partner.same3 gZ|| !({mk X l c b with heard:=c6.defaulted}:ah).own AH)=(l.kn|| !hb l.ast 64) from this]
  cases l.kn|| !hb l.ast 64<;>rfl
theorem Bd (ok:X.Ok):ql (mk X l c b) (zA X m)=mk X (cg l m) (uZ l m c) b:=by
 delta ql cg uZ
 rw [ET]
 cases l.up with
 |false=>rfl
 |true=>
  have e1:fG (zA X m).actor (mk X l c b).partner=iN l m:=by
   delta fG iN
   rw [show (zA X m).actor.same3 (mk X l c b).partner=l.kn from FA ok.o,show (mk X l c b).partner.has DG=hb l.pst 4 from i8];rfl
  have e2:∀c',oG (mk X l c' b) (zA X m)=lg l m:=fun c'=>by
   delta oG lg
   rw [show (zA X m).partner.same3 (mk X l c' b).actor=m.kn from yp ok.s]
   show (m.kn&&(((m8 X.sys X.row.key X.row.pid m.kn m.pst).st^^^l.ast)&&&15==0))=(m.kn&&((m.pst^^^l.ast)&&&15==0))
   cases m.kn<;>rfl
  have e3:∀(l':LP) c',l'.ast=l.ast→eN (mk X l' c' b) (zA X m)=qI l m:=fun l' c' e=>by
   delta eN qI fG
   rw [show (zA X m).partner.same3 (mk X l' c' b).actor=m.kn from yp ok.s,show (zA X m).partner.has Ng=hb m.pst 1 from i8,show (zA X m).partner.has DG=hb m.pst 4 from i8,←e];rfl
  rw [e1,Lf]
  have f1:(if (!iN l m||hb l.ast 64)=true then {mk X l c b with choice:=.un} else mk X l c b)=mk X l (if (true&&(!iN l m||hb l.ast 64))=true then .un else c) b:=by
   cases (!iN l m||hb l.ast 64)<;>rfl
  dsimp only
  rw [if_neg (by decide),if_pos rfl,show (if (!iN l m||hb l.ast AH)=true then ({mk X l c b with choice:=.un}:ah) else mk X l c b)=_ from f1]
  generalize (if (true&&(!iN l m||hb l.ast 64))=true then ai.un else c)=c'
  rw [e2]
  have f2:(if (!lg l m)=true then {mk X l c' b with ms:=true} else mk X l c' b)=mk X {l with ms:=if lg l m then l.ms else true} c' b:=by
   cases lg l m<;>rfl
  rw [f2,e3 {l with ms:=if lg l m then l.ms else true} c' rfl,vV]
  delta Br
  generalize lg l m=k1
  generalize qI l m=k2
  show (if (!hb l.pst 2&&hb (wb m.ast 8 k2) 2)=true then _ else _)=_
  cases hq: !hb l.pst 2&&hb (wb m.ast 8 k2) 2 with
  |true=>rw [if_pos rfl];rfl
  |false=>rw [if_neg Bool.false_ne_true];rfl
theorem vS (c:ai) (l:LP):(let p:={mk X l c b with tl:=min (mk X l c b).tl (mk X l c b).turn - 1};if decide (p.tl≤0) then ({p with tl:=p.turn,ms:=true}:ah) else p)=mk X (zf l) c b:=by
 obtain ⟨ast,kn,pst,heard,hl,mux,jl,tl,ms,sm⟩:=l
 delta zf Gi ah.turn
 dsimp only
 rw [vV,show∀p:ah,p.partner=(mk X ⟨ast,kn,pst,heard,hl,mux,jl,tl,ms,sm⟩ c b).partner→p.oth KP=hb pst 2 from fun p e=>by delta ah.oth;rw [e];exact i8]
 ·show (if decide (min tl (if hb pst 2 then 1 else 30) - 1≤0)=true then _ else _)=_
  cases decide (min tl (if hb pst 2 then 1 else 30) - 1≤0)<;>rfl
 ·rfl
theorem Iz (ok:X.Ok):b6 (mk X l c b)=mk X (rp l) (tR l c) b:=by
 delta b6 rp tR
 show (if (!l.up)=true then _ else _)=_
 cases l.up with
 |false=>rfl
 |true=>
  dsimp only
  rw [if_neg (by decide),if_pos rfl]
  show (let p:ah:=(if (l.heard != .defaulted)=true then (if decide (l.hl - 1≤0)=true then dj (mk X (Pr l) c b) else mk X (Pr l) c b) else mk X {l with sm:=0} c b);let p:ah:={p with tl:=min p.tl p.turn - 1};if decide (p.tl≤0)=true then ({p with tl:=p.turn,ms:=true}:ah) else p)=_
  cases hd:l.heard != .defaulted with
  |false=>exact vS c _
  |true=>
   cases hz:decide (l.hl - 1≤0) with
   |false=>exact vS c _
   |true=>
    dsimp only
    rw [if_pos rfl,if_pos rfl,LQ ok]
    exact vS _ _
theorem LI (ok:X.Ok):dQ (b6 (mk X l c b))=mk X (lU l) (tR l c) b:=by
 rw [Iz ok]
 delta lU KR dQ
 show (if ((rp l).mux== .wai&&decide ((rp l).jl >0))=true then _ else _)=_
 cases ((rp l).mux== .wai&&decide ((rp l).jl >0))<;>rfl
theorem G8:cj (mk X l c b)=(mk X (dp l) c b,(mA l).map (Nq X)):=by
 have e0:(mk X l c b).talks=jw l:=by delta ah.talks;rw [vV];rfl
 have e1:(if (!jw l)=true then ({mk X l c b with ms:=false}:ah) else mk X l c b)=mk X (dD l) c b:=by
  delta dD
  cases jw l<;>rfl
 delta cj
 rw [e0]
 dsimp only
 rw [e1]
 have e2:(dD l).sm=l.sm∧(dD l).ast=l.ast∧(dD l).kn=l.kn∧(dD l).pst=l.pst:=by delta dD;cases jw l<;>exact l6 rfl rfl rfl rfl
 have e3:(!(mk X (dD l) c b).ms||decide ((mk X (dD l) c b).sm≥3))= !cP l:=by
  show (!(dD l).ms||decide ((dD l).sm≥3))=_
  delta cP
  rw [e2.1,Bool.not_and,Bool.not_not]
 rw [e3]
 delta dp mA
 cases cP l with
 |false=>rfl
 |true=>
  refine df e2 fun a1 a2 a3 a4=>?_
  show (mk X {dD l with ms:=false,sm:=(dD l).sm+1} c b,some (Nq X ⟨(dD l).ast,(dD l).kn,(dD l).pst⟩))=_
  rw [a1,a2,a3,a4];rfl
end
noncomputable def yk (u:eR) (l:LP) (b:Nat):LP:={l with ast:=wb l.ast b (fP u&&&b !=0),ms:=if wb l.ast b (fP u&&&b !=0) !=l.ast then true else l.ms}
noncomputable def pF (u:eR) (l:LP):LP:=
 let l:=yk u (yk u (yk u {l with mux:=u} 8) 16) 32
 if u= .wai then {l with jl:=2} else l
noncomputable def xf (r:Bool) (l:LP) (c:ai):eR:=xQ r (hb l.pst 8) (hb l.pst 16) ⟨c,l.mux,true⟩
noncomputable def vB (r:Bool) (l:LP) (c:ai):LP:=if xf r l c=l.mux then l else pF (xf r l c) l
noncomputable def jn (f:Bool) (l:LP) (c:ai):ai:=if l.up then (if c== .un&&l.mux != .det then c else if f then .sel else .stb) else .un
noncomputable def zU (r f:Bool):Nat→LP→ai→LP |0,l,_=>l |k+1,l,c=>zU r f k (vB r l (jn f l c)) (jn f l c)
noncomputable def cW (r f:Bool) (l:LP) (c:ai):LP:=zU r f k8 l c
noncomputable def eS (l:LP) (f:Bool):ai:=if l.up then (if f then .sel else .stb) else .un
noncomputable def gR (X:mn) (l:LP):ag:=⟨X.row.key,(m8 X.osys X.okey X.opid l.kn l.pst).sys,(m8 X.osys X.okey X.opid l.kn l.pst).key,if l.lone then X.row.number else 0⟩
section
variable {X:mn} {l:LP} {c c':ai} {b b':Option Int} {u:eR} {r f:Bool} {b0:Int}
theorem jU:(mk X l c b).group=gR X l:=by
 delta ah.group
 rw [qD];rfl
theorem Jr {s d:aT} {k:Int} {m n:Nat}:((⟨s,k,d,m⟩:dq) !=⟨s,k,d,n⟩)=(m !=n):=by
 by_cases h:m=n
 ·subst h;rw [bne_self_eq_false,bne_self_eq_false]
 ·rw [bne_iff_ne.mpr h,bne_iff_ne]
  exact fun q=>h (congrArg dq.st q)
theorem zW {n:Nat}:bk u (mk X l c b) n=mk X (yk u l n) c b:=by
 delta bk yk
 have:(mk X l c b).turns n (fP u&&&n !=0)=(wb l.ast n (fP u&&&n !=0) !=l.ast):=Jr
 dsimp only
 rw [this]
 cases wb l.ast n (fP u&&&n !=0) !=l.ast<;>rfl
theorem Kg:zK (mk X l c b) u=mk X (pF u l) c (if u= .det then none else b):=by
 have:cz (mk X l c b) u=mk X (yk u (yk u (yk u {l with mux:=u} 8) 16) 32) c b:=by
  show bk u (bk u (bk u (mk X {l with mux:=u} c b) 8) 16) 32=_
  rw [zW,zW,zW]
 delta zK pF
 rw [this]
 cases u<;>rfl
theorem HR:∃b',bW (mk X l c b) r=mk X (vB r l c) c b':=by
 have e:ay (mk X l c b) r=xf r l c:=by
  delta xf
  rw [←i8 (s:=X.osys) (k:=X.okey) (d:=X.opid) (kn:=l.kn) (n:=8),←i8 (s:=X.osys) (k:=X.okey) (d:=X.opid) (kn:=l.kn) (n:=16)];rfl
 rw [eg,e]
 delta vB
 show∃b',(if xf r l c=l.mux then _ else _)=_
 split
 ·exact ⟨b,rfl⟩
 ·exact ⟨_,Kg⟩
theorem OK:∃b',gY f b0 (mk X l c b)=mk X l (jn f l c) b':=by
 delta gY bc jn
 show∃b',(if l.up=true then _ else _)=_
 split
 ·show∃b',(if (c== .un&&l.mux != .det)=true then _ else _)=_
  split
  ·exact ⟨b,rfl⟩
  ·exact ⟨some b0,rfl⟩
 ·exact ⟨b,rfl⟩
theorem AE:∀{k:Nat} {l:LP} {c:ai} {b:Option Int},∃c' b',oN r f b0 k (mk X l c b)=mk X (zU r f k l c) c' b'
 |0,l,c,b=>J9 c b rfl
 |k+1,l,c,b=>by
  obtain ⟨b1,h1⟩:=OK (X:=X) (l:=l) (c:=c) (b:=b) (f:=f) (b0:=b0)
  obtain ⟨b2,h2⟩:=HR (X:=X) (l:=l) (c:=jn f l c) (b:=b1) (r:=r)
  show∃c' b',oN r f b0 k (bW (gY f b0 (mk X l c b)) r)=_
  rw [h1,h2]
  exact AE
theorem Jk (h:l.up=true∨l.mux≠ .det∨b=none):oN r f b0 k8 (mk X l c b)=mk X (cW r f l c) (eS l f) (if l.up then some b0 else none):=by
 refine fw (AE (X:=X) (r:=r) (f:=f) (b0:=b0) (k:=k8) (l:=l) (c:=c) (b:=b)) fun c' b' e=>?_
 delta eS
 cases hu:l.up with
 |true=>
  refine df (Ky (r:=r) (f:=f) (b:=b0) (p:=mk X l c b) hu) fun h1 V h2 V=>?_
  rw [e] at h1 h2 ⊢
  rw [show c'=_ from h1,show b'=_ from h2];rfl
 |false=>
  refine df (Cr (r:=r) (f:=f) (b:=b0) (p:=mk X l c b) hu) fun h1 V h2 V=>?_
  have h2:=h2 (h.elim (fun q=>by rw [hu] at q;cases q) id)
  rw [e] at h1 h2 ⊢
  rw [show c'=_ from h1,show b'=_ from h2];rfl
theorem Bn:(vB r l c).kn=l.kn∧(vB r l c).pst=l.pst:=by
 delta vB
 split
 ·exact ⟨rfl,rfl⟩
 ·delta pF;split<;>exact ⟨rfl,rfl⟩
theorem rq:∀{k:Nat} {l:LP} {c:ai},(zU r f k l c).kn=l.kn∧(zU r f k l c).pst=l.pst
 |0,_,_=>⟨rfl,rfl⟩
 |k+1,l,c=>⟨(rq (k:=k)).1.trans Bn.1,(rq (k:=k)).2.trans Bn.2⟩
noncomputable def cls (l:LP):Bool×Bool×Bool:=(l.up,l.kn,l.lone)
theorem fM (hl:l.ast <256):(cW r f l c).ast <256∧cls (cW r f l c)=cls l:=by
 refine fw (AE (X:=⟨⟨0,0,0,true,true,true⟩,(0,0),(0,0),0,(0,0)⟩) (r:=r) (f:=f) (b0:=0) (k:=k8) (l:=l) (c:=c) (b:=none)) fun c' b' e=>?_
 have s:Sm (mk ⟨⟨0,0,0,true,true,true⟩,(0,0),(0,0),0,(0,0)⟩ l c none) (mk ⟨⟨0,0,0,true,true,true⟩,(0,0),(0,0),0,(0,0)⟩ (cW r f l c) c' b'):=e▸o9
 have h3:=s.lone hl
 rw [qD,qD] at h3
 have h1:(cW r f l c).up=l.up:=s.up
 have h2:(cW r f l c).kn=l.kn:=rq.1
 refine ⟨(s.st hl).1,?_⟩
 delta cls
 rw [h1,h2,h3]
noncomputable def pJ (X:mn) (k:Bool×Bool×Bool):ag:=⟨X.row.key,(m8 X.osys X.okey X.opid k.2.1 0).sys,(m8 X.osys X.okey X.opid k.2.1 0).key,if k.2.2 then X.row.number else 0⟩
noncomputable def DM (sys:aT) (X:mn) (k:Bool×Bool×Bool):aT:=if eF sys (m8 X.osys X.okey X.opid k.2.1 0).sys||k.2.2 then X.row.pid else (m8 X.osys X.okey X.opid k.2.1 0).pid
noncomputable def O6 (sys:aT) (X Y:mn) (k j:Bool×Bool×Bool):Bool:=decide ((DM sys X k).1 <(DM sys Y j).1∨((DM sys X k).1=(DM sys Y j).1∧((DM sys X k).2 <(DM sys Y j).2∨((DM sys X k).2=(DM sys Y j).2∧X.row.number <Y.row.number))))
noncomputable def Om (sys:aT) (X Y:mn) (k j:Bool×Bool×Bool):Bool:=j.1&&(pJ Y j==pJ X k&&O6 sys Y X j k)
theorem fg:gR X l=pJ X (cls l):=by
 delta gR pJ cls
 cases l.kn<;>rfl
theorem FW {sys:aT}:PL.rank sys (mk X l c b)=DM sys X (cls l):=by
 delta PL.rank DM
 rw [qD]
 delta cls mk
 dsimp only
 cases l.kn<;>rfl
theorem LX {sys:aT} {Y:mn} {l':LP} {z:PA}:CS sys (mk X l c b) (z,mk Y l' c' b')=Om sys X Y (cls l) (cls l'):=by
 delta CS Om iO O6
 rw [FW,FW]
 show (l'.up&&((mk Y l' c' b').group==(mk X l c b).group&&_))=_
 rw [jU,jU,fg,fg];rfl
end
noncomputable def yZ (pa:Nat→PA) (X:Nat→mn) (σ:Nat→LP) (c:Nat→ai) (b:Nat→Option Int) (i:Nat):af:=(pa i,mk (X i) (σ i) (c i) (b i))
noncomputable def lst (n:Nat) (pa:Nat→PA) (X:Nat→mn) (σ:Nat→LP) (c:Nat→ai) (b:Nat→Option Int):List af:=(List.range n).map (yZ pa X σ c b)
noncomputable def fX (sys:aT) (most:Int) (n:Nat) (X:Nat→mn) (κ:Nat→Bool×Bool×Bool) (i:Nat):Bool:=decide ((List.range n).countP (fun k=>Om sys (X i) (X k) (κ i) (κ k)) <most.toNat)
structure EW (n:Nat) (pa:Nat→PA) (X:Nat→mn):Prop where
 n3:n≤3
 hx:((List.range n).map fun i=>(pa i).x).Nodup
 num:∀i,i <n→(X i).row.number=1+(i:Int)
 ok:∀i,(X i).Ok
structure fR (n:Nat) (pa:Nat→PA) (X:Nat→mn) (sys:aT) (most:Int) (fl:Nat→Bool) (σ:Nat→LP) (e:EI):Prop where
 eq:∃b,e.its=lst n pa X σ (fun i=>eS (σ i) (fl i)) b∧(∀i,i <n→(σ i).up=true→∃k,b i=some k∧aX e.ns (gR (X i) (σ i))=some k)∧∀i,i <n→(σ i).up=false→b i=none
 ok:jN e.ns
 ln:e.ns.length≤6
 ast:∀i,i <n→(σ i).ast <256
 fl:∀i,i <n→(σ i).up=true→fX sys most n X (fun k=>cls (σ k)) i=fl i
variable {pa:Nat→PA} {fl:Nat→Bool} {σ τ:Nat→LP}
section
variable {X:Nat→mn} {J:Int} {c:Nat→ai} {b:Nat→Option Int} {ns:List (ag×Int)} {i:Nat}
theorem pQ {i:Nat}:ig (1+(i:Int))=i:=by delta ig;exact MB ..
theorem Er {c':ai} {b':Option Int}:rR sys most (lst n pa X σ c b) (mk (X i) (σ i) c' b')=fX sys most n X (fun k=>cls (σ k)) i:=by
 delta rR fX lst
 rw [List.countP_map]
 congr 2
 exact List.countP_congr fun k V=>by rw [←LX (c:=c') (b:=b') (c':=c k) (b':=b k) (z:=pa k)];rfl
theorem lE {κ κ':Nat→Bool×Bool×Bool} (h:∀k,k <n→κ' k=κ k) (hi:i <n):fX sys most n X κ' i=fX sys most n X κ i:=by
 delta fX
 congr 2
 exact List.countP_congr fun k hk=>by rw [h k (List.mem_range.mp hk),h i hi]
theorem Ou (W:EW n pa X) (ok:jN ns) (ln:ns.length≤6) (J0:0≤J) (ast:∀i,i <n→(τ i).ast <256) (fit:∀i,i <n→(τ i).up=true→b i=none∨∃k,b i=some k∧aX ns (gR (X i) (τ i))=some k)
  (dn:∀i,i <n→(τ i).up=false→(τ i).mux≠ .det∨b i=none) (jl:∀i,i <n→(τ i).mux= .wai→(τ i).jl=J) (en:J=2∨∀i,i <n→(τ i).up=true→c i≠ .un∧(τ i).mux≠ .det∧(fl i=true∨(τ i).mux= .wai))
  (hf:∀i,i <n→(τ i).up=true→fX sys most n X (fun k=>cls (τ k)) i=fl i) {fuel:Nat} (hfu:9≤fuel):
  ∃e',iC sys most fuel ⟨lst n pa X τ c b,ns⟩=some e'∧fR n pa X sys most fl (fun i=>cW (decide (J=0)) (fl i) (τ i) (c i)) e':=by
 have mem:∀a∈lst n pa X τ c b,∃i,i <n∧a=yZ pa X τ c b i:=fun a ha=>by
  refine ab (List.mem_map.mp ha) fun i hi e=>?_
  exact a9 i (List.mem_range.mp hi) e.symm
 have fx:∀i,i <n→fl (ig (X i).row.number)=fl i:=fun i hi=>by rw [W.num i hi,pQ]
 have C:gk sys most J (fun v=>fl (ig v)) ⟨lst n pa X τ c b,ns⟩:=by
  refine ⟨by show (lst _ _ _ _ _ _).length≤3;delta lst;rw [List.length_map,List.length_range];exact W.n3,?_,?_,ok,ln,fun a ha=>?_,fun a ha hu=>?_,fun a ha m=>?_,en.imp id fun z a ha hu=>?_,fun a ha hu=>?_,J0⟩
  ·show ((lst n pa X τ c b).map _).Nodup
   delta lst
   rw [List.map_map];exact W.hx
  ·show ((lst n pa X τ c b).map _).Nodup
   delta lst
   rw [List.map_map]
   refine gB List.nodup_range fun i hi j hj e=>?_
   have e:(X i).row.number=(X j).row.number:=e
   rw [W.num i (List.mem_range.mp hi),W.num j (List.mem_range.mp hj)] at e
   exact Int.ofNat.inj (Int.add_left_cancel e)
  ·refine ab (mem a ha) fun i hi zr71=>?_;subst zr71;exact ast i hi
  ·refine ab (mem a ha) fun i hi zr72=>?_;subst zr72
   show _∨∃k,_∧aX ns (mk (X i) (τ i) (c i) (b i)).group=_
   rw [jU]
   exact fit i hi hu
  ·refine ab (mem a ha) fun i hi zr73=>?_;subst zr73;exact jl i hi m
  ·refine ab (mem a ha) fun i hi zr74=>?_;subst zr74
   have:=z i hi hu
   exact ⟨this.1,this.2.1,this.2.2.imp (fun q=>(fx i hi).trans q) id⟩
  ·refine ab (mem a ha) fun i hi zr75=>?_;subst zr75
   exact (Er).trans ((hf i hi hu).trans (fx i hi).symm)
 refine bI (C.rest hfu) fun nb ns' h1 h2 h3 h4=>?_
 have kp:∀i,i <n→(cW (decide (J=0)) (fl i) (τ i) (c i)).ast <256∧cls (cW (decide (J=0)) (fl i) (τ i) (c i))=cls (τ i):=fun i hi=>fM (ast i hi)
 have ku:∀i,i <n→(cW (decide (J=0)) (fl i) (τ i) (c i)).up=(τ i).up:=fun i hi=>congrArg (·.1) (kp i hi).2
 refine ⟨_,h1,(cb (fun i=>if (τ i).up then some (nb (gR (X i) (τ i))) else none) ?_ (fun i hi hu=>?_) (fun i hi hu=>?_)),h2,h3,fun i hi=>(kp i hi).1,fun i hi hu=>?_⟩
 ·show (lst n pa X τ c b).map _=_
  delta lst
  rw [List.map_map]
  refine List.map_congr_left fun i hi=>?_
  have hi:=List.mem_range.mp hi
  show (pa i,oN (decide (J=0)) (fl (ig (X i).row.number)) (nb (mk (X i) (τ i) (c i) (b i)).group) k8 (mk (X i) (τ i) (c i) (b i)))=(pa i,mk (X i) (cW (decide (J=0)) (fl i) (τ i) (c i)) (eS (cW (decide (J=0)) (fl i) (τ i) (c i)) (fl i)) _)
  rw [fx i hi,Jk (by
   cases hu:(τ i).up with
   |true=>exact .inl rfl
   |false=>exact .inr (dn i hi hu)),jU]
  delta eS
  rw [ku i hi]
 ·rw [ku i hi] at hu
  refine a9 (nb (gR (X i) (τ i))) (if_pos hu) ?_
  rw [fg,(kp i hi).2,←fg]
  have:=h4 (yZ pa X τ c b i) (List.mem_map_of_mem (List.mem_range.mpr hi)) hu
  rwa [show (yZ pa X τ c b i).2.group=gR (X i) (τ i) from jU] at this
 ·rw [ku i hi] at hu
  exact if_neg (by rw [hu];decide)
 ·rw [ku i hi] at hu
  exact (lE (fun k hk=>(kp k hk).2) hi).trans (hf i hi hu)
end
noncomputable def eh {α:Type} (f:Nat→α) (j:Nat) (x:α) (i:Nat):α:=if i=j then x else f i
theorem bq {α:Type} {f:Nat→α} {j:Nat} {x:α}:eh f j x j=x:=if_pos rfl
theorem bo {α:Type} {f:Nat→α} {i j:Nat} {x:α} (h:i≠j):eh f j x i=f i:=if_neg h
noncomputable def Pq (r f:Bool):Nat→LP→ai→LP |0,l,_=>l |k+1,l,c=>if xf r l (jn f l c)=l.mux then l else Pq r f k (pF (xf r l (jn f l c)) l) (jn f l c)
noncomputable def nB (r f:Bool) (l:LP) (c:ai):LP:=Pq r f 8 l c
theorem Oa {f:Bool} {l:LP} {c:ai}:jn f l (jn f l c)=jn f l c:=by
 delta jn
 cases l.up with
 |false=>rfl
 |true=>
  cases l.mux != .det with
  |true=>cases c<;>cases f<;>rfl
  |false=>cases c<;>cases f<;>rfl
theorem AW {r f:Bool} {l:LP}:∀(k:Nat) {c:ai},xf r l (jn f l c)=l.mux→zU r f k l c=l
 |0,_,_=>rfl
 |k+1,c,h=>by
  have h2:vB r l (jn f l c)=l:=if_pos h
  show zU r f k (vB r l (jn f l c)) (jn f l c)=l
  rw [h2]
  exact AW k (by rw [Oa];exact h)
theorem Gh {r f:Bool}:∀(k:Nat) {l:LP} {c:ai},zU r f k l c=Pq r f k l c
 |0,_,_=>rfl
 |k+1,l,c=>by
  unfold Pq
  by_cases h:xf r l (jn f l c)=l.mux
  ·rw [if_pos h];exact AW _ h
  ·rw [if_neg h,←Gh k]
   show zU r f k (vB r l (jn f l c)) (jn f l c)=_
   rw [show vB r l (jn f l c)=_ from if_neg h]
theorem fV {r f:Bool} {l:LP} {c:ai}:cW r f l c=nB r f l c:=(congrArg (fun k=>zU r f k l c) yq).trans (Gh 8)
theorem Ll {f:Bool} {l:LP}:jn f l (eS l f)=eS l f:=by
 delta jn eS
 cases l.up with
 |false=>rfl
 |true=>cases f<;>rfl
theorem EJ {r f:Bool} {l:LP} (h:xf r l (eS l f)=l.mux):cW r f l (eS l f)=l:=AW _ (by rw [Ll];exact h)
section
variable {l:LP} {c:ai} {r f:Bool}
theorem GK {u:eR}:(pF u l).up=l.up:=by delta pF;split<;>rfl
theorem wK {u:eR}:(pF u l).mux=u:=by delta pF;split<;>rfl
theorem rn (hu:l.up=true):eS l f≠ .un:=by
 delta eS
 rw [if_pos hu]
 cases f<;>decide
theorem LF (hm:l.mux= .wai) (hc:c≠ .un):xf false l c= .wai:=by
 unfold xf xQ
 rw [hm]
 cases c with
 |un=>exact absurd rfl hc
 |sel=>rfl
 |stb=>rfl
theorem KU (hu:l.up=true) (hm:c= .un→l.mux= .det):jn f l c≠ .un:=by
 delta jn
 rw [if_pos hu]
 cases c with
 |un=>rw [hm rfl];cases f<;>decide
 |sel=>cases f<;>exact nofun
 |stb=>cases f<;>exact nofun
theorem z7 (hu:l.up=true) (hm:l.mux= .wai):∀(k:Nat) {c:ai},c≠ .un→zU false f k l c=l
 |0,_,_=>rfl
 |k+1,c,hc=>by
  have h1:jn f l c≠ .un:=KU hu fun q=>absurd q hc
  have h2:vB false l (jn f l c)=l:=by delta vB;rw [LF hm h1,hm];exact if_pos rfl
  show zU false f k (vB false l (jn f l c)) (jn f l c)=l
  rw [h2];exact z7 hu hm k h1
theorem sz (hu:l.up=true) (hm:l.mux= .wai) (hc:c≠ .un):cW false f l c=l:=z7 hu hm _ hc
theorem xW (hu:l.up=true) (hm:l.mux= .det):cW false f l c=pF .wai l:=by
 have h1:jn f l c≠ .un:=KU hu fun V=>hm
 have h2:vB false l (jn f l c)=pF .wai l:=by
  have:xf false l (jn f l c)= .wai:=by
   unfold xf xQ
   rw [hm]
   exact if_pos (bne_iff_ne.mpr h1)
  delta vB
  rw [this,hm];exact if_neg (by decide)
 delta cW
 rw [yq]
 show zU false f 7 (vB false l (jn f l c)) (jn f l c)=_
 rw [h2]
 exact z7 (GK.trans hu) wK 7 h1
theorem u7 (hu:l.up=false) (hm:l.mux= .det):cW r f l c=l:=by
 have:∀(k:Nat) (c:ai),zU r f k l c=l:=fun k=>by
  induction k with
  |zero=>exact fun V=>rfl
  |succ k ih=>
   intro c
   have h1:jn f l c= .un:=by delta jn;rw [hu];rfl
   have h2:vB r l (jn f l c)=l:=by
    have:xf r l (jn f l c)= .det:=by unfold xf xQ;rw [hm,h1];rfl
    delta vB
    rw [this,hm];exact if_pos rfl
   show zU r f k (vB r l (jn f l c)) (jn f l c)=l
   rw [h2];exact ih _
 exact this _ _
end
noncomputable def xd (l:LP):Bool:=decide (l.ast <256)&&(if l.up then l.mux== .wai&&l.jl==2 else l.mux== .det)
noncomputable def Ez (J:Int) (f:Bool) (l:LP):Bool:=decide (l.ast <256)&&(l.mux != .wai||l.jl==J)&&(if l.up then l.mux != .det&&(J==2||f||l.mux== .wai) else l.mux== .det)&&(xf (decide (J=0)) l (eS l f)==l.mux)
structure NM (J:Int) (f:Bool) (l:LP):Prop where
 ast:l.ast <256
 jl:l.mux= .wai→l.jl=J
 up:l.up=true→l.mux≠ .det∧(J=2∨f=true∨l.mux= .wai)
 dn:l.up=false→l.mux= .det
 fix:cW (decide (J=0)) f l (eS l f)=l
theorem wm {J:Int} {f:Bool} {l:LP} (h:Ez J f l=true):NM J f l:=by
 delta Ez at h
 refine bC (Bool.and_eq_true_iff.mp h) fun h h4=>?_
 refine bC (Bool.and_eq_true_iff.mp h) fun h h3=>?_
 refine bC (Bool.and_eq_true_iff.mp h) fun h1 h2=>?_
 refine ⟨of_decide_eq_true h1,fun m=>?_,fun u=>?_,fun u=>?_,EJ (eq_of_beq h4)⟩
 ·rw [m] at h2;exact eq_of_beq h2
 ·rw [if_pos u] at h3
  refine bC (Bool.and_eq_true_iff.mp h3) fun a b=>?_
  refine ⟨bne_iff_ne.mp a,?_⟩
  rcases Bool.or_eq_true_iff.mp b with b |b
  ·exact (Bool.or_eq_true_iff.mp b).elim (fun q=>.inl (eq_of_beq q)) fun q=>.inr (.inl q)
  ·exact .inr (.inr (eq_of_beq b))
 ·rw [u] at h3;exact eq_of_beq h3
theorem fc {l:LP} {f:Bool} (h:xd l=true):NM 2 f l∧(l.up=true→l.mux= .wai):=by
 delta xd at h
 refine bC (Bool.and_eq_true_iff.mp h) fun h1 h3=>?_
 cases hu:l.up with
 |true=>
  rw [if_pos hu] at h3
  refine bC (Bool.and_eq_true_iff.mp h3) fun a b=>?_
  have a:=eq_of_beq a
  exact ⟨⟨of_decide_eq_true h1,fun V=>eq_of_beq b,fun V=>⟨fun q=>(by rw [a] at q;cases q),.inl rfl⟩,fun q=>(by rw [hu] at q;cases q),sz hu a (rn hu)⟩,fun V=>a⟩
 |false=>
  rw [hu] at h3
  have a:=eq_of_beq h3
  exact ⟨⟨of_decide_eq_true h1,fun m=>(by rw [a] at m;cases m),fun q=>(by rw [hu] at q;cases q),fun V=>a,u7 hu a⟩,fun q=>(by cases q)⟩
section
variable {X:Nat→mn} {J:Int} {c:Nat→ai} {b:Nat→Option Int} {ns:List (ag×Int)} {i:Nat} {e:EI}
theorem rW (hj:j <n):(lst n pa X σ c b)[j]? =some (yZ pa X σ c b j):=by
 delta lst
 rw [List.getElem?_map,List.getElem?_range hj];rfl
theorem wU {f:ah→ah} {l':LP} {c':ai} (hj:j <n) (hf:f (mk (X j) (σ j) (c j) (b j))=mk (X j) l' c' (b j)):zx (lst n pa X σ c b) j f=lst n pa X (eh σ j l') (eh c j c') b:=by
 delta zx
 rw [rW hj]
 show (lst n pa X σ c b).set j (pa j,f (mk (X j) (σ j) (c j) (b j)))=_
 rw [hf]
 apply List.ext_getElem?
 intro i
 have hlen:(lst n pa X σ c b).length=n:=by delta lst;rw [List.length_map,List.length_range]
 rw [List.getElem?_set]
 by_cases q:j=i
 ·subst q
  rw [if_pos rfl,if_pos (hlen.symm▸hj),rW hj]
  delta yZ
  rw [bq,bq]
 ·rw [if_neg q]
  delta lst
  rw [List.getElem?_map,List.getElem?_map]
  by_cases hi:i <n
  ·rw [List.getElem?_range hi]
   show some (yZ pa X σ c b i)=some (yZ pa X (eh σ j l') (eh c j c') b i)
   delta yZ
   rw [bo (Ne.symm q),bo (Ne.symm q)]
  ·rw [List.getElem?_eq_none (by rw [List.length_range];exact Nat.le_of_not_lt hi)];rfl
theorem Cp {f:ah→ah} {τ:Nat→LP} {c':Nat→ai} (hf:∀i,f (mk (X i) (σ i) (c i) (b i))=mk (X i) (τ i) (c' i) (b i)):(lst n pa X σ c b).map (fun a=>(a.1,f a.2))=lst n pa X τ c' b:=by
 delta lst
 rw [List.map_map]
 exact List.map_congr_left fun i V=>congrArg (Prod.mk (pa i)) (hf i)
theorem o4 {σ':Nat→LP} {c':Nat→ai} (h:∀i,i <n→σ' i=σ i∧c' i=c i):lst n pa X σ' c' b=lst n pa X σ c b:=by
 delta lst
 refine List.map_congr_left fun i hi=>?_
 delta yZ
 rw [(h i (List.mem_range.mp hi)).1,(h i (List.mem_range.mp hi)).2]
theorem fR.congr {σ':Nat→LP} (E:fR n pa X sys most fl σ e) (h:∀i,i <n→σ' i=σ i):fR n pa X sys most fl σ' e:=by
 obtain ⟨⟨b,e1,e2,e3⟩,ok,ln,ast,hf⟩:=E
 refine ⟨(cb b (e1.trans (o4 fun i hi=>⟨(h i hi).symm,by rw [h i hi]⟩)) (fun i hi=>?_) (fun i hi=>?_)),ok,ln,fun i hi=>?_,fun i hi hu=>?_⟩
 ·rw [h i hi];exact e2 i hi
 ·rw [h i hi];exact e3 i hi
 ·rw [h i hi];exact ast i hi
 ·rw [h i hi] at hu
  exact (lE (fun k hk=>by rw [h k hk]) hi).trans (hf i hi hu)
theorem Co {its:List af}:9≤12*(its.length+1):=by lia
theorem wu {fl':Nat→Bool} {l':LP} {c':ai} {b':Nat→Option Int} (W:EW n pa X) (ok:jN ns) (ln:ns.length≤6) (J0:0≤J) (hj:j <n) (R:∀i,i <n→i≠j→NM J (fl i) (σ i)) (e2:∀i,i <n→i≠j→(σ i).up=true→∃k,b' i=some k∧aX ns (gR (X i) (σ i))=some k) (e3:∀i,i <n→i≠j→(σ i).up=false→b' i=none)
  (h1:l'.ast <256) (h2:l'.up=true→b' j=none∨∃k,b' j=some k∧aX ns (gR (X j) l')=some k) (h3:l'.up=false→l'.mux≠ .det∨b' j=none) (h4:l'.mux= .wai→l'.jl=J) (h5:J=2∨(l'.up=true→c'≠ .un∧l'.mux≠ .det∧(fl' j=true∨l'.mux= .wai))) (mono:J=2∨∀i,fl i=true→fl' i=true)
  (hf:∀i,i <n→(eh σ j l' i).up=true→fX sys most n X (fun k=>cls (eh σ j l' k)) i=fl' i):
  ∀{fuel:Nat},9≤fuel→∃e',iC sys most fuel ⟨lst n pa X (eh σ j l') (eh (fun i=>eS (σ i) (fl i)) j c') b',ns⟩=some e'∧fR n pa X sys most fl' (fun i=>if i=j then cW (decide (J=0)) (fl' j) l' c' else cW (decide (J=0)) (fl' i) (σ i) (eS (σ i) (fl i))) e':=by
 intro fuel hfu
 have sp:∀{P:Nat→LP→ai→Prop},P j l' c'→(∀i,i <n→i≠j→P i (σ i) (eS (σ i) (fl i)))→∀i,i <n→P i (eh σ j l' i) (eh (fun i=>eS (σ i) (fl i)) j c' i):=fun {P} a b i hi=>by
  by_cases q:i=j
  ·subst q;rw [bq,bq];exact a
  ·rw [bo q,bo q];exact b i hi q
 have:=Ou (fl:=fl') (J:=J) (c:=eh (fun i=>eS (σ i) (fl i)) j c') (b:=b') W ok ln J0 (τ:=eh σ j l')
  (sp (P:=fun V l V=>l.ast <256) h1 fun i hi q=>(R i hi q).ast)
  (sp (P:=fun i l V=>l.up=true→b' i=none∨∃k,b' i=some k∧aX ns (gR (X i) l)=some k) h2 fun i hi q hu=>.inr (e2 i hi q hu))
  (sp (P:=fun i l V=>l.up=false→l.mux≠ .det∨b' i=none) h3 fun i hi q hu=>.inr (e3 i hi q hu))
  (sp (P:=fun V l V=>l.mux= .wai→l.jl=J) h4 fun i hi q=>(R i hi q).jl)
  (if hJ:J=2 then .inl hJ else .inr (sp (P:=fun i l c=>l.up=true→c≠ .un∧l.mux≠ .det∧(fl' i=true∨l.mux= .wai)) (h5.resolve_left hJ) fun i hi q hu=>⟨rn hu,((R i hi q).up hu).1,(((R i hi q).up hu).2.resolve_left hJ).imp (mono.resolve_left hJ i) id⟩)) hf hfu
 refine ab this fun e' r E=>?_
 refine a9 e' r (E.congr fun i hi=>?_)
 by_cases q:i=j
 ·subst q;rw [if_pos rfl,bq,bq]
 ·rw [if_neg q,bo q,bo q]
end
section
variable {l:LP} {m:MA} {c:ai}
theorem sq:(cg l m).mux=l.mux∧(cg l m).jl=l.jl:=by
 have h:∀(c:Bool) (a b:LP),a.mux=l.mux∧a.jl=l.jl→b.mux=l.mux∧b.jl=l.jl→(if c=true then a else b).mux=l.mux∧(if c=true then a else b).jl=l.jl:=fun c a b x y=>by cases c;exact y;exact x
 exact h l.up _ _ (h _ _ _ ⟨rfl,rfl⟩ ⟨rfl,rfl⟩) ⟨rfl,rfl⟩
theorem Jw (hu:l.up=true) (hk:l.kn=false):uZ l m c= .un:=by
 delta uZ iN
 rw [hu,hk];rfl
theorem Lp (hs:iN l m=true) (hd:hb l.ast 64=false):uZ l m c=c:=by
 delta uZ
 rw [hs,hd,Bool.not_true,Bool.or_false,Bool.and_false];rfl
end
section
variable {X:Nat→mn} {J:Int} {c:Nat→ai} {b:Nat→Option Int} {i:Nat} {e:EI} {m:MA}
theorem vq:(lst n pa X σ c b).length=n:=by delta lst;rw [List.length_map,List.length_range]
theorem yr {f f':Bool} {l:LP} (h:xd l=true):cW (decide ((2:Int)=0)) f l (eS l f')=l:=by
 cases hu:l.up with
 |true=>exact sz hu ((fc (f:=f) h).2 hu) (rn hu)
 |false=>exact u7 hu ((fc (f:=f) h).1.dn hu)
theorem Oy (W:EW n pa X) (E:fR n pa X sys most fl σ e) (A:∀i,i <n→xd (σ i)=true) (hj:j <n) (hd:(σ j).up=false) (hb:(q8 (σ j)).ast <256):
  ∃e' fl',Hz sys most j e=some e'∧fR n pa X sys most fl' (eh σ j (pF .wai (q8 (σ j)))) e':=by
 obtain ⟨⟨b,e1,e2,e3⟩,ok,ln,ast,hf⟩:=E
 have hm:(q8 (σ j)).mux= .det:=(fc (f:=true) (A j hj)).1.dn hd
 obtain ⟨e',h1,h2⟩:=wu (J:=2) (fl:=fl) (σ:=σ) (l':=q8 (σ j)) (c':=.un) (b':=b) (fl':=fX sys most n X fun k=>cls (eh σ j (q8 (σ j)) k)) W ok ln (by decide) hj (fun i hi V=>(fc (A i hi)).1) (fun i hi V=>e2 i hi) (fun i hi V=>e3 i hi)
  hb (fun V=>.inl (e3 j hj hd)) (fun q=>by cases q) (fun q=>by rw [hm] at q;cases q) (.inl rfl) (.inl rfl) (fun i hi V=>rfl) (Co (its:=zx e.its j ee))
 refine fZ e' _ ?_ (h2.congr fun i hi=>?_)
 ·delta Hz
  rw [e1,rW hj]
  show (if (σ j).up=true then _ else _)=_
  rw [hd,if_neg Bool.false_ne_true]
  have:zx (lst n pa X σ (fun i=>eS (σ i) (fl i)) b) j ee=lst n pa X (eh σ j (q8 (σ j))) (eh (fun i=>eS (σ i) (fl i)) j .un) b:=wU hj (by rw [zc];delta eS;rw [hd];rfl)
  rw [e1,this] at h1
  delta jK
  rw [this];exact h1
 ·by_cases q:i=j
  ·subst q
   rw [if_pos rfl,bq]
   exact (xW rfl hm).symm
  ·rw [if_neg q,bo q]
   exact (yr (A i hi)).symm
theorem EK (W:EW n pa X) (E:fR n pa X sys most fl σ e) (J0:0≤J) (R:∀i,i <n→NM J (fl i) (σ i)) (hj:j <n) (hs:iN (σ j) m=true) (hd:hb (σ j).ast 64=false) (ha:(cg (σ j) m).ast <256) (hc:cls (cg (σ j) m)=cls (σ j)):
  ∃e',l8 sys most j (zA (X j) m) e=some e'∧fR n pa X sys most fl (eh σ j (cW (decide (J=0)) (fl j) (cg (σ j) m) (eS (σ j) (fl j)))) e':=by
 obtain ⟨⟨b,e1,e2,e3⟩,ok,ln,ast,hf⟩:=E
 have hu:(cg (σ j) m).up=(σ j).up:=congrArg (·.1) hc
 have hg:gR (X j) (cg (σ j) m)=gR (X j) (σ j):=by rw [fg,fg,hc]
 obtain ⟨hm,hjl⟩:=sq (l:=σ j) (m:=m)
 have cl:∀i,cls (eh σ j (cg (σ j) m) i)=cls (σ i):=fun i=>by
  by_cases q:i=j
  ·subst q;rw [bq,hc]
  ·rw [bo q]
 obtain ⟨e',h1,h2⟩:=wu (J:=J) (fl:=fl) (σ:=σ) (l':=cg (σ j) m) (c':=eS (σ j) (fl j)) (b':=b) (fl':=fl) W ok ln J0 hj (fun i hi V=>R i hi) (fun i hi V=>e2 i hi) (fun i hi V=>e3 i hi)
  ha (fun q=>.inr (by rw [hg];exact e2 j hj (hu.symm.trans q))) (fun q=>.inr (e3 j hj (hu.symm.trans q))) (fun q=>hjl.trans ((R j hj).jl (hm.symm.trans q)))
  (Decidable.or_iff_not_imp_left.mpr fun hJ q=>⟨rn (hu.symm.trans q),by rw [hm];exact ((R j hj).up (hu.symm.trans q)).1,by rw [hm];exact ((R j hj).up (hu.symm.trans q)).2.resolve_left hJ⟩) (.inr fun V h=>h) (fun i hi q=>by
   have q:(σ i).up=true:=(congrArg (·.1) (cl i)).symm.trans q
   exact (lE (fun k V=>cl k) hi).trans (hf i hi q)) (Co (its:=zx e.its j fun p=>ql p (zA (X j) m)))
 refine a9 e' ?_ (h2.congr fun i hi=>?_)
 ·have:zx (lst n pa X σ (fun i=>eS (σ i) (fl i)) b) j (fun p=>ql p (zA (X j) m))=lst n pa X (eh σ j (cg (σ j) m)) (eh (fun i=>eS (σ i) (fl i)) j (eS (σ j) (fl j))) b:=wU hj (by rw [Bd (W.ok j),Lp hs hd])
  delta l8 jK
  rw [e1] at h1 ⊢
  rw [this] at h1 ⊢
  exact h1
 ·by_cases q:i=j
  ·subst q;rw [if_pos rfl,bq]
  ·rw [if_neg q,bo q,(R i hi).fix]
noncomputable def Kd (J:Int) (f:Bool) (l:LP):Bool:=decide ((lU l).ast <256)&&(decide (cls (lU l)=cls l)&&(((lU l).mux != .wai||(lU l).jl==J)&&(J==2|| !l.up||(tR l (eS l f) != .un&&(lU l).mux != .det&&(f||(lU l).mux== .wai)))))
theorem NV (W:EW n pa X) (E:fR n pa X sys most fl σ e) (J0:0≤J) (S:∀i,i <n→Kd J (fl i) (σ i)=true):
  ∃e',tP sys most e=some e'∧fR n pa X sys most fl (fun i=>cW (decide (J=0)) (fl i) (lU (σ i)) (tR (σ i) (eS (σ i) (fl i)))) e':=by
 obtain ⟨⟨b,e1,e2,e3⟩,ok,ln,ast,hf⟩:=E
 have s:=fun i hi=>Bool.and_eq_true_iff.mp (S i hi)
 have cl:∀i,i <n→cls (lU (σ i))=cls (σ i):=fun i hi=>of_decide_eq_true (Bool.and_eq_true_iff.mp (s i hi).2).1
 have s2:=fun i hi=>Bool.and_eq_true_iff.mp (Bool.and_eq_true_iff.mp (s i hi).2).2
 have hu:∀i,i <n→(lU (σ i)).up=(σ i).up:=fun i hi=>congrArg (·.1) (cl i hi)
 have:=Ou (fl:=fl) (J:=J) (τ:=fun i=>lU (σ i)) (c:=fun i=>tR (σ i) (eS (σ i) (fl i))) (b:=b) W ok ln J0 (fun i hi=>of_decide_eq_true (s i hi).1)
  (fun i hi q=>.inr (by rw [fg,cl i hi,←fg];exact e2 i hi ((hu i hi).symm.trans q))) (fun i hi q=>.inr (e3 i hi ((hu i hi).symm.trans q)))
  (fun i hi q=>by have:=(s2 i hi).1;rw [q] at this;exact eq_of_beq this)
  (Decidable.or_iff_not_imp_left.mpr fun hJ i hi q=>by
   have h:=(s2 i hi).2
   rw [(hu i hi).symm.trans q,beq_false_of_ne hJ] at h
   refine bC (Bool.and_eq_true_iff.mp h) fun h h3=>?_
   refine bC (Bool.and_eq_true_iff.mp h) fun h1 h2=>?_
   exact ⟨bne_iff_ne.mp h1,bne_iff_ne.mp h2,(Bool.or_eq_true_iff.mp h3).imp id eq_of_beq⟩)
  (fun i hi q=>(lE cl hi).trans (hf i hi ((hu i hi).symm.trans q))) (sys:=sys) (most:=most) (Co (its:=e.its.map Ap))
 refine ab this fun e' h1 h2=>?_
 refine a9 e' ?_ h2
 have m:(lst n pa X σ (fun i=>eS (σ i) (fl i)) b).map Ap=lst n pa X (fun i=>lU (σ i)) (fun i=>tR (σ i) (eS (σ i) (fl i))) b:=Cp (f:=fun p=>dQ (b6 p)) fun i=>LI (W.ok i)
 delta tP jK
 rw [e1] at h1 ⊢
 rw [m] at h1 ⊢
 exact h1
theorem Lv {fl':Nat→Bool} (W:EW n pa X) (E:fR n pa X sys most fl σ e) (R:∀i,i <n→NM 0 (fl i) (σ i)) (hj:j <n) (hu:(σ j).up=true) (ha:(pV (σ j)).ast <256) (mono:∀i,fl i=true→fl' i=true) (hf:∀i,i <n→(eh σ j (pV (σ j)) i).up=true→fX sys most n X (fun k=>cls (eh σ j (pV (σ j)) k)) i=fl' i):
  ∃e',mh sys most j e=some e'∧fR n pa X sys most fl' (fun i=>if i=j then cW true (fl' j) (pV (σ j)) .un else cW true (fl' i) (σ i) (eS (σ i) (fl i))) e':=by
 obtain ⟨⟨b,e1,e2,e3⟩,ok,ln,ast,hf0⟩:=E
 obtain ⟨e',h1,h2⟩:=wu (J:=0) (fl:=fl) (σ:=σ) (l':=pV (σ j)) (c':=.un) (b':=b) (fl':=fl') W ok ln (by decide) hj (fun i hi V=>R i hi) (fun i hi V=>e2 i hi) (fun i hi V=>e3 i hi)
  ha (fun q=>by cases q) (fun V=>.inl ((R j hj).up hu).1) (fun q=>(R j hj).jl q) (.inr fun q=>by cases q) (.inr mono) hf (Co (its:=zx e.its j ju))
 refine a9 e' ?_ h2
 have:zx (lst n pa X σ (fun i=>eS (σ i) (fl i)) b) j ju=lst n pa X (eh σ j (pV (σ j))) (eh (fun i=>eS (σ i) (fl i)) j .un) b:=wU hj Mo
 delta mh
 rw [e1,rW hj]
 show (if (σ j).up=true then _ else _)=_
 rw [if_pos hu]
 delta jK
 rw [e1] at h1
 rw [this] at h1 ⊢
 exact h1
end
section
variable {X:Nat→mn} {i:Nat} {e:EI} {m:MA}
theorem Gf (W:EW n pa X) (E:fR n pa X sys most fl σ e) (A:∀i,i <n→xd (σ i)=true) (hj:j <n) (hu:(σ j).up=true) (hk:(σ j).kn=false) (ha:(cg (σ j) m).ast <256) (ha2:(pF .det (cg (σ j) m)).ast <256):
  ∃e' fl',l8 sys most j (zA (X j) m) e=some e'∧fR n pa X sys most fl' (eh σ j (pF .wai (pF .det (cg (σ j) m)))) e':=by
 obtain ⟨⟨b,e1,e2,e3⟩,ok,ln,ast,hf⟩:=E
 obtain ⟨hmux,hjl⟩:=sq (l:=σ j) (m:=m)
 have wj:(σ j).mux= .wai:=(fc (f:=true) (A j hj)).2 hu
 have HD:(cg (σ j) m).up=true:=by unfold cg;rw [hu];unfold Br;dsimp only;rw [if_pos rfl];split<;>rfl
 have knl:(cg (σ j) m).kn=true:=by unfold cg;rw [hu];unfold Br;dsimp only;rw [if_pos rfl];split<;>rfl
 generalize hL:cg (σ j) m=L at*
 generalize hits:lst n pa X (eh σ j L) (eh (fun i=>eS (σ i) (fl i)) j .un) b=its
 have onE:zx (lst n pa X σ (fun i=>eS (σ i) (fl i)) b) j (fun p=>ql p (zA (X j) m))=its:=(wU hj (by rw [Bd (W.ok j),Jw hu hk,hL])).trans hits
 have len:its.length=n:=by rw [←hits];exact vq
 obtain ⟨k0,bj,lj⟩:=e2 j hj hu
 have gne:gR (X j) L≠gR (X j) (σ j):=fun q=>by
  have q:=congrArg ag.sys q
  unfold gR at q
  dsimp only at q
  rw [knl,hk] at q
  have q:(X j).osys=((0:Int),(0:Int)):=q
  have:=(W.ok j).o
  rw [q] at this;exact absurd this (by decide)
 have sj:sorted? e.ns (mk (X j) L .un (b j))=none:=by
  unfold sorted?
  rw [ET,HD,jU]
  show (if ((b j).isSome&&aX e.ns (gR (X j) L) !=b j)=true then none else _)=none
  rw [bj]
  refine if_pos (bne_iff_ne.mpr fun q=>gne (yY ok q lj))
 have si:∀i,i <n→∀c',sorted? e.ns (mk (X i) (σ i) c' (b i))=if (σ i).up then some (gR (X i) (σ i)) else none:=fun i hi c'=>by
  unfold sorted?
  rw [ET,jU]
  cases hui:(σ i).up with
  |false=>rfl
  |true=>
   obtain ⟨k,b1,b2⟩:=e2 i hi hui
   show (if ((b i).isSome&&aX e.ns (gR (X i) (σ i)) !=b i)=true then none else _)=_
   rw [b1,b2,bne_self_eq_false];rfl
 obtain ⟨F,hF⟩:∃F:Nat→Bool,∀i,F i=pW (dN sys most (jM e.ns its (gR (X i) (σ i)))) (yZ pa X (eh σ j L) (eh (fun i=>eS (σ i) (fl i)) j .un) b i):=⟨_,fun V=>rfl⟩
 have ch:aY sys most e.ns its=lst n pa X (eh σ j L) (eh (fun i=>eS (σ i) (F i)) j .un) b:=by
  unfold aY
  refine (congrArg (List.map _) hits.symm).trans ?_
  unfold lst
  rw [List.map_map]
  refine List.map_congr_left fun i hi=>?_
  have hi:=List.mem_range.mp hi
  have hF:=hF i
  show (pa i,match sorted? e.ns (mk (X i) (eh σ j L i) (eh _ j .un i) (b i)) with |none=>_ |some g=>_)=_
  by_cases q:i=j
  ·subst q
   unfold yZ
   rw [bq,bq,bq,sj];rfl
  ·unfold yZ at hF ⊢
   rw [bo q,bo q] at hF ⊢
   rw [bo q,si i hi]
   unfold eS at hF ⊢
   cases hui:(σ i).up with
   |false=>rfl
   |true=>
    obtain ⟨k,b1,b2⟩:=e2 i hi hui
    have N:∀its',eC e.ns its' (gR (X i) (σ i))=k:=fun its'=>by unfold eC;rw [jy b2];rfl
    rw [hui] at hF
    refine congrArg (Prod.mk (pa i)) ?_
    show bc (eC e.ns _ (gR (X i) (σ i))) _ _=_
    rw [N,←show F i=_ from hF]
    unfold bc
    show (if ((if fl i=true then ai.sel else ai.stb)== .un&&(σ i).mux != .det)=true then _ else _)=_
    rw [show ((if fl i=true then ai.sel else ai.stb)== .un)=false by cases fl i<;>rfl,b1];rfl
 have ok1:jN (cK sys most e.ns its):=lN (jE ok)
 have ln1:(cK sys most e.ns its).length≤6:=by
  have h:=xB (ps:=(aY sys most e.ns its).map (·.2)) (jE (ks:=bZ e.ns its) ok)
  rw [List.length_map,ch,vq] at h
  unfold cK
  rw [ch]
  exact Nat.le_trans h (Nat.add_le_add W.n3 W.n3)
 have lk1:∀i,i <n→i≠j→(σ i).up=true→∃k,b i=some k∧aX (cK sys most e.ns its) (gR (X i) (σ i))=some k:=fun i hi q hui=>by
  obtain ⟨k,b1,b2⟩:=e2 i hi hui
  refine a9 k b1 ?_
  unfold cK
  rw [qA,ch]
  refine qf (jE ok) (jy b2) ?_
  unfold jg
  refine Bool.or_eq_true_iff.mpr (.inl (List.contains_iff_mem.mpr (List.mem_map.mpr (a9 (mk (X i) (σ i) (eS (σ i) (F i)) (b i)) (List.mem_filter.mpr ⟨List.mem_map.mpr (a9 (yZ pa X (eh σ j L) (eh (fun i=>eS (σ i) (F i)) j .un) b i) (List.mem_map_of_mem (List.mem_range.mpr hi)) ?_),hui⟩) jU))))
  unfold yZ
  rw [bo q,bo q]
 have nxj:ay (mk (X j) L .un (b j)) false= .det:=by
  unfold ay
  rw [show (mk (X j) L .un (b j)).mux= .wai from hmux.trans wj];rfl
 have S:=r8 (J:=2) (its:=aY sys most e.ns its) (by decide) (fun a ha hm=>by
  rw [ch] at ha
  refine ab (List.mem_map.mp ha) fun i hi zr76=>?_;subst zr76
  have hi:=List.mem_range.mp hi
  show (eh σ j L i).jl=2
  have hm:(eh σ j L i).mux= .wai:=hm
  by_cases q:i=j
  ·subst q
   rw [bq]
   exact hjl.trans ((fc (f:=true) (A i hj)).1.jl wj)
  ·rw [bo q] at hm ⊢
   exact (fc (f:=true) (A i hi)).1.jl hm) (.inl rfl) (d4 sys most e.ns its) _ (Nat.le_refl _)
 rw [gD,List.take_length] at S
 have its2:(bA sys most ⟨its,e.ns⟩).its=lst n pa X (eh σ j (pF .det L)) (eh (fun i=>eS (σ i) (F i)) j .un) (eh b j none):=by
  show cC _ _=_
  rw [S.1,ch]
  unfold lst
  rw [List.map_map]
  refine List.map_congr_left fun i hi=>?_
  have hi:=List.mem_range.mp hi
  refine congrArg (Prod.mk (pa i)) ?_
  show bW (mk (X i) (eh σ j L i) (eh (fun i=>eS (σ i) (F i)) j .un i) (b i)) false=mk (X i) (eh σ j (pF .det L) i) (eh (fun i=>eS (σ i) (F i)) j .un i) (eh b j none i)
  by_cases q:i=j
  ·subst q
   rw [bq,bq,bq,bq,eg,nxj,if_neg (by rw [show (mk (X i) L .un (b i)).mux= .wai from hmux.trans wj];decide),Kg];rfl
  ·rw [bo q,bo q,bo q,bo q,eg]
   refine if_pos ?_
   have A:=fc (f:=true) (A i hi)
   cases hui:(σ i).up with
   |true=>
    have w:=A.2 hui
    unfold ay eS
    rw [show (mk (X i) (σ i) (if (σ i).up=true then if F i=true then ai.sel else .stb else .un) (b i)).mux= .wai from w,hui]
    cases F i<;>rfl
   |false=>
    have w:=A.1.dn hui
    unfold ay eS
    rw [show (mk (X i) (σ i) (if (σ i).up=true then if F i=true then ai.sel else .stb else .un) (b i)).mux= .det from w,hui];rfl
 have mv:h9 sys most ⟨its,e.ns⟩=true:=by
  show ud _ _ _=true
  rw [S.2]
  refine Bool.or_eq_true_iff.mpr (.inr (List.any_eq_true.mpr (a9 (yZ pa X (eh σ j L) (eh (fun i=>eS (σ i) (F i)) j .un) b j) ?_ ?_)))
  ·rw [ch];exact List.mem_map_of_mem (List.mem_range.mpr hj)
  ·unfold yZ
   rw [bq,bq]
   show (ay (mk (X j) L .un (b j)) false !=(mk (X j) L .un (b j)).mux)=true
   rw [nxj,show (mk (X j) L .un (b j)).mux= .wai from hmux.trans wj];rfl
 obtain ⟨e',h1,h2⟩:=wu (J:=2) (fl:=F) (σ:=σ) (l':=pF .det L) (c':=.un) (b':=eh b j none) (ns:=cK sys most e.ns its) (fl':=fX sys most n X fun k=>cls (eh σ j (pF .det L) k)) W ok1 ln1 (by decide) hj (fun i hi V=>(fc (A i hi)).1) (fun i hi q hui=>by rw [bo q];exact lk1 i hi q hui) (fun i hi q hui=>by rw [bo q];exact e3 i hi hui)
  ha2 (fun V=>.inl bq) (fun V=>.inr bq) (fun q=>by rw [wK] at q;cases q) (.inl rfl) (.inl rfl) (fun i hi V=>rfl) (fuel:=12*(n+1) - 1) (by lia)
 refine fZ e' _ ?_ (h2.congr fun i hi=>?_)
 ·unfold l8 jK
  rw [e1,onE]
  show iC sys most (12*(its.length+1)) ⟨its,e.ns⟩=some e'
  rw [len,show 12*(n+1)=12*(n+1) - 1+1 by lia]
  show (if _ then _ else if h9 sys most ⟨its,e.ns⟩=true then iC sys most (12*(n+1) - 1) (bA sys most ⟨its,e.ns⟩) else _)=_
  rw [if_neg (fun q=>absurd (Nat.lt_of_lt_of_le q ln) (by decide)),mv,if_pos rfl]
  have:bA sys most ⟨its,e.ns⟩=⟨lst n pa X (eh σ j (pF .det L)) (eh (fun i=>eS (σ i) (F i)) j .un) (eh b j none),cK sys most e.ns its⟩:=by rw [←its2];rfl
  rw [this];exact h1
 ·by_cases q:i=j
  ·subst q
   rw [if_pos rfl,bq]
   exact (xW (GK.trans HD) wK).symm
  ·rw [if_neg q,bo q]
   exact (yr (A i hi)).symm
end
noncomputable def hr (J:Int) (f:Bool) (l:LP) (m:MA):Option LP:=
 if J=2 then
  if xd l&&(l.up&&decide ((cg l m).ast <256)) then
   if l.kn then (if iN l m&&(!hb l.ast 64&&(decide (cls (cg l m)=cls l)&&xd (cg l m))) then some (cg l m) else none)
   else if decide ((pF .det (cg l m)).ast <256)&&xd (pF .wai (pF .det (cg l m))) then some (pF .wai (pF .det (cg l m))) else none
  else none
 else
  if iN l m&&(!hb l.ast 64&&(decide ((cg l m).ast <256)&&(decide (cls (cg l m)=cls l)&&Ez J f (nB (decide (J=0)) f (cg l m) (eS l f))))) then some (nB (decide (J=0)) f (cg l m) (eS l f)) else none
noncomputable def HG (J:Int) (f:Bool) (l:LP):Option MA→Option LP
 |none=>some l
 |some m=>hr J f l m
noncomputable def SI (n:Nat) (pa:Nat→PA) (X:Nat→mn) (sys:aT) (most J:Int) (f:Nat→Bool) (τ:Nat→LP) (x:EI):Prop:=
 if J=2 then (∀i,i <n→xd (τ i)=true)∧∃fl,fR n pa X sys most fl τ x else (∀i,i <n→Ez J (f i) (τ i)=true)∧fR n pa X sys most f τ x
theorem dU {α:Type} {c:Bool} {a b:α} (h:(if c=true then some a else none)=some b):c=true∧a=b:=by
 cases c with
 |true=>exact ⟨rfl,Option.some.inj h⟩
 |false=>cases h
theorem aZ {a b:Bool} (h:(a&&b)=true):a=true∧b=true:=Bool.and_eq_true_iff.mp h
section
variable {X:Nat→mn} {J:Int} {f:Nat→Bool} {x:EI} {p:Nat} {m:MA} {l':LP}
theorem SI.congr {τ':Nat→LP} (S:SI n pa X sys most J f τ x) (h:∀i,i <n→τ' i=τ i):SI n pa X sys most J f τ' x:=by
 delta SI at S ⊢
 by_cases c:J=2
 ·rw [if_pos c] at S ⊢
  exact ⟨fun i hi=>by rw [h i hi];exact S.1 i hi,cQ S.2 fun fl E=>⟨fl,E.congr h⟩⟩
 ·rw [if_neg c] at S ⊢
  exact ⟨fun i hi=>by rw [h i hi];exact S.1 i hi,S.2.congr h⟩
theorem qJ {P:Nat→LP→Prop} (h1:P p l') (h2:∀i,i <n→P i (τ i)):∀i,i <n→P i (eh τ p l' i):=fun i hi=>by
 by_cases q:i=p
 ·subst q;rw [bq];exact h1
 ·rw [bo q];exact h2 i hi
theorem JG (W:EW n pa X) (J0:0≤J) (S:SI n pa X sys most J f τ x) (hp:p <n) (h:hr J (f p) (τ p) m=some l'):∃e',l8 sys most p (zA (X p) m) x=some e'∧SI n pa X sys most J f (eh τ p l') e':=by
 delta SI at S
 delta hr at h
 by_cases c:J=2
 ·rw [if_pos c] at S h
  refine u3 S fun A fl E=>?_
  by_cases c1:(xd (τ p)&&((τ p).up&&decide ((cg (τ p) m).ast <256)))=true
  ·rw [if_pos c1] at h
   refine bC (aZ c1) fun V c1=>?_
   refine bC (aZ c1) fun hu ha=>?_
   have ha:=of_decide_eq_true ha
   by_cases c2:(τ p).kn=true
   ·rw [if_pos c2] at h
    refine bC (dU h) fun q zr56=>?_;subst zr56
    refine bC (aZ q) fun q1 q=>?_
    refine bC (aZ q) fun q2 q=>?_
    refine bC (aZ q) fun q3 q4=>?_
    have q3:=of_decide_eq_true q3
    have A':=fun i hi=>fc (f:=fl i) (A i hi)
    refine ab (EK (J:=2) W E (by decide) (fun i hi=>(A' i hi).1) hp q1 (by rw [Bool.not_eq_true'] at q2;exact q2) ha q3) fun e' h1 h2=>?_
    refine a9 e' h1 ?_
    delta SI
    rw [if_pos c]
    refine Pc (qJ (P:=fun V l=>xd l=true) q4 A) fl (h2.congr fun i hi=>?_)
    by_cases q:i=p
    ·subst q
     rw [bq,bq]
     exact (sz ((congrArg (·.1) q3).trans hu) (sq.1.trans ((A' i hi).2 hu)) (rn hu)).symm
    ·rw [bo q,bo q]
   ·rw [if_neg c2] at h
    refine bC (dU h) fun q zr57=>?_;subst zr57
    refine bC (aZ q) fun q1 q4=>?_
    refine ao (Gf W E A hp hu (Bool.eq_false_iff.mpr c2) ha (of_decide_eq_true q1)) fun e' fl' h1 h2=>?_
    refine a9 e' h1 ?_
    delta SI
    rw [if_pos c]
    exact Pc (qJ (P:=fun V l=>xd l=true) q4 A) fl' h2
  ·exact u5 (if_neg c1) h
 ·rw [if_neg c] at S h
  refine bC S fun A E=>?_
  refine bC (dU h) fun q zr58=>?_;subst zr58
  refine bC (aZ q) fun q1 q=>?_
  refine bC (aZ q) fun q2 q=>?_
  refine bC (aZ q) fun q3 q=>?_
  refine bC (aZ q) fun q4 q5=>?_
  refine ab (EK W E J0 (fun i hi=>wm (A i hi)) hp q1 (by rw [Bool.not_eq_true'] at q2;exact q2) (of_decide_eq_true q3) (of_decide_eq_true q4)) fun e' h1 h2=>?_
  refine a9 e' h1 ?_
  delta SI
  rw [if_neg c]
  rw [fV] at h2
  exact ⟨qJ (P:=fun i l=>Ez J (f i) l=true) q5 A,h2⟩
theorem Iy {l:LP}:(dp l).pst=l.pst:=by
 have h:∀(c:Bool) (a b:LP),a.pst=l.pst→b.pst=l.pst→(if c=true then a else b).pst=l.pst:=fun c a b x y=>by cases c;exact y;exact x
 have ho:(dD l).pst=l.pst:=h (jw l) _ _ rfl rfl
 exact h (cP l) _ _ ho ho
theorem jv {l:LP}:(dp l).up=l.up∧(dp l).ast=l.ast∧cls (dp l)=cls l∧(dp l).mux=l.mux∧(dp l).jl=l.jl:=by
 have h:∀(c:Bool) (a b:LP),(a.up=l.up∧a.ast=l.ast∧cls a=cls l∧a.mux=l.mux∧a.jl=l.jl)→(b.up=l.up∧b.ast=l.ast∧cls b=cls l∧b.mux=l.mux∧b.jl=l.jl)→((if c=true then a else b).up=l.up∧(if c=true then a else b).ast=l.ast∧cls (if c=true then a else b)=cls l∧(if c=true then a else b).mux=l.mux∧(if c=true then a else b).jl=l.jl):=fun c a b x y=>by
  cases c;exact y;exact x
 have ho:(dD l).up=l.up∧(dD l).ast=l.ast∧cls (dD l)=cls l∧(dD l).mux=l.mux∧(dD l).jl=l.jl:=h (jw l) _ _ (sQ rfl rfl rfl rfl rfl) (sQ rfl rfl rfl rfl rfl)
 exact h (cP l) _ _ ho ho
theorem JZ {l:LP} (h:xd l=true):xd (dp l)=true:=by
 refine fF (jv (l:=l)) fun a b V d e=>?_
 delta xd at h ⊢
 rw [a,b,d,e];exact h
theorem Ib {l:LP} {f:Bool} (h:Ez J f l=true):Ez J f (dp l)=true:=by
 refine fF (jv (l:=l)) fun a b V d e=>?_
 delta Ez xf eS at h ⊢
 rw [a,b,d,e,Iy];exact h
theorem fR.snt {fl:Nat→Bool} (E:fR n pa X sys most fl τ x):fR n pa X sys most fl (fun i=>dp (τ i)) ⟨x.its.map pC,x.ns⟩:=by
 obtain ⟨⟨b,e1,e2,e3⟩,ok,ln,ast,hf⟩:=E
 refine ⟨(cb b ?_ (fun i hi hu=>?_) (fun i hi hu=>?_)),ok,ln,fun i hi=>?_,fun i hi hu=>?_⟩
 ·show x.its.map pC=_
  rw [e1]
  refine (Cp (f:=fun p=>(cj p).1) (τ:=fun i=>dp (τ i)) (c':=fun i=>eS (τ i) (fl i)) fun i=>by rw [G8]).trans (o4 fun i hi=>⟨rfl,?_⟩)
  delta eS
  rw [jv.1]
 ·rw [fg,jv.2.2.1,←fg]
  exact e2 i hi (jv.1.symm.trans hu)
 ·exact e3 i hi (jv.1.symm.trans hu)
 ·rw [jv.2.1];exact ast i hi
 ·exact (lE (fun k hk=>jv.2.2.1) hi).trans (hf i hi (jv.1.symm.trans hu))
theorem Fo (S:SI n pa X sys most J f τ x):SI n pa X sys most J f (fun i=>dp (τ i)) ⟨x.its.map pC,x.ns⟩:=by
 delta SI at S ⊢
 by_cases c:J=2
 ·rw [if_pos c] at S ⊢
  exact ⟨fun i hi=>JZ (S.1 i hi),cQ S.2 fun fl E=>⟨fl,E.snt⟩⟩
 ·rw [if_neg c] at S ⊢
  exact ⟨fun i hi=>Ib (S.1 i hi),S.2.snt⟩
theorem zb {α β:Type} {f g:α→Option β}:∀{l:List α},(∀x∈l,f x=g x)→l.filterMap f=l.filterMap g
 | [],_=>rfl
 |x::l,h=>by rw [List.filterMap_cons,List.filterMap_cons,h x (List.mem_cons_self ..),zb fun y hy=>h y (List.mem_cons_of_mem _ hy)]
theorem fR.msgs {fl:Nat→Bool} (W:EW n pa X) (E:fR n pa X sys most fl τ x):eY x.its=(List.range n).filterMap fun i=>(mA (τ i)).map fun m=>(1+(i:Int),Nq (X i) m):=by
 obtain ⟨⟨b,e1,_⟩,_⟩:=E
 rw [e1]
 delta eY lst
 rw [List.filterMap_map]
 refine zb fun i hi=>?_
 show (cj (Mine.mk (X i) (τ i) (eS (τ i) (fl i)) (b i))).2.map (fun q=>((X i).row.number,q))=_
 rw [G8,Option.map_map,W.num i (List.mem_range.mp hi)];rfl
theorem SI.msgs (W:EW n pa X) (S:SI n pa X sys most J f τ x):eY x.its=(List.range n).filterMap fun i=>(mA (τ i)).map fun m=>(1+(i:Int),Nq (X i) m):=by
 delta SI at S
 by_cases c:J=2
 ·rw [if_pos c] at S;refine u3 S fun V fl E=>?_;exact E.msgs W
 ·rw [if_neg c] at S;exact S.2.msgs W
end
structure G7 (c:WC) (π:Nat→Nat) (pa:Nat→Nat→PA) (X:Nat→Nat→mn):Prop where
 w:∀s,s <2→EW c.many (pa s) (X s)
 pi:∀j,j <c.many→π j <c.many∧π (π j)=j
 goal:∀s j,s <2→j <c.many→pL c.links s (1+(j:Int))= [1+(π j:Int)]
 mir:∀s j m,s <2→j <c.many→Nq (X s j) m=zA (X (1 - s) (π j)) m
section
variable {c:WC} {π:Nat→Nat} {pa:Nat→Nat→PA} {X:Nat→Nat→mn} {J:Int} {f:Nat→Bool} {μ:Nat→Option MA} {s:Nat}
theorem jz (N:G7 c π pa X) (J0:0≤J) (hs:s <2):∀(l:List Nat),l.Nodup→(∀j∈l,j <c.many)→∀{τ:Nat→LP} {x:EI} (τ':Nat→LP),SI c.many (pa (1 - s)) (X (1 - s)) (c.b (1 - s)).c.sys (c.b (1 - s)).c.most J f τ x→(∀p,p <c.many→π p∈l→HG J (f p) (τ p) (μ (π p))=some (τ' p))→(∀p,p <c.many→π p∉l→τ' p=τ p)→
  ∃y,dg c s (l.filterMap fun j=>(μ j).map fun m=>(1+(j:Int),Nq (X s j) m)) x=some y∧SI c.many (pa (1 - s)) (X (1 - s)) (c.b (1 - s)).c.sys (c.b (1 - s)).c.most J f τ' y
 | [],_,_,τ,x,τ',S,_,h2=>a9 x rfl (S.congr fun p hp=>h2 p hp mN)
 |j::l,nd,hl,τ,x,τ',S,h1,h2=>by
  rw [List.nodup_cons] at nd
  have hj:=hl j (List.mem_cons_self ..)
  obtain ⟨pj,ppj⟩:=N.pi j hj
  have pin:∀p,p <c.many→π p=j→p=π j:=fun p hp e=>by rw [←e,(N.pi p hp).2]
  cases hm:μ j with
  |none=>
   rw [List.filterMap_cons,hm]
   refine jz N J0 hs l nd.2 (fun k hk=>hl k (List.mem_cons_of_mem _ hk)) τ' S (fun p hp hq=>h1 p hp (List.mem_cons_of_mem _ hq)) fun p hp hq=>?_
   by_cases q:π p=j
   ·have:=h1 p hp (q▸List.mem_cons_self ..)
    rw [q,hm] at this
    exact (Option.some.inj this).symm
   ·exact h2 p hp fun z=>(List.mem_cons.mp z).elim q hq
  |some m=>
   rw [List.filterMap_cons,hm]
   have g:=h1 (π j) pj (by rw [ppj];exact List.mem_cons_self ..)
   rw [ppj,hm] at g
   obtain ⟨z,z1,z2⟩:=JG (N.w (1 - s) (Qd hs)) J0 S pj g
   show∃y,(match pL c.links s (1+(j:Int)) with | []=>none |gl::_=>_)=some y∧_
   rw [N.goal s j hs hj]
   dsimp only
   rw [N.mir s j m hs hj,if_pos ⟨by lia,by lia⟩,pQ,z1]
   dsimp only
   refine jz N J0 hs l nd.2 (fun k hk=>hl k (List.mem_cons_of_mem _ hk)) τ' z2 (fun p hp hq=>?_) fun p hp hq=>?_
   ·have ne:p≠π j:=fun e=>nd.1 (by rw [e,ppj] at hq;exact hq)
    rw [bo ne]
    exact h1 p hp (List.mem_cons_of_mem _ hq)
   ·by_cases q:p=π j
    ·subst q;rw [bq]
    ·rw [bo q]
     exact h2 p hp fun z=>(List.mem_cons.mp z).elim (fun e=>q (pin p hp e)) hq
end
noncomputable def sg (π:Nat→Nat) (S:Nat→LP×LP) (s p:Nat):LP:=match s with |0=>(S p).1 |_=>(S (π p)).2
noncomputable def sf (π:Nat→Nat) (F:Nat→Bool) (s p:Nat):Bool:=match s with |0=>F p |_=>F (π p)
noncomputable def rl (J:Int) (f:Bool) (L:LP×LP):Option (LP×LP):=match HG J f (dp L.1) (mA L.2),HG J f (dp L.2) (mA L.1) with |some a,some b=>some (a,b) |_,_=>none
noncomputable def j8 (L:LP×LP):Bool:=!cP L.1&& !cP L.2
noncomputable def xl (J:Int) (f:Bool):Nat→LP×LP→Option (LP×LP)
 |0,L=>some L
 |k+1,L=>if j8 L then some (dp L.1,dp L.2) else match rl J f L with |some L'=>xl J f k L' |none=>none
section
variable {J:Int} {f:Bool} {L L':LP×LP} {l:LP}
theorem oa:mA l=none↔cP l=false:=by
 delta mA
 cases cP l with
 |true=>exact ⟨nofun,nofun⟩
 |false=>exact ⟨fun V=>rfl,fun V=>rfl⟩
theorem IC:dD (dD l)=dD l∧cP (dD l)=cP l:=by
 have h:∀(c:Bool),jw l=c→dD (dD l)=dD l∧cP (dD l)=cP l:=fun c hc=>by
  have h0:dD l=if c then l else {l with ms:=false}:=by delta dD;rw [hc]
  cases c with
  |true=>rw [h0];exact ⟨h0,rfl⟩
  |false=>
   have h2:dD {l with ms:=false}={l with ms:=false}:=by
    delta dD
    rw [show jw {l with ms:=false}=false from hc];rfl
   rw [h0]
   refine ⟨h2,?_⟩
   delta cP
   rw [show (if false=true then l else {l with ms:=false})={l with ms:=false} from rfl,h2,h0];rfl
 exact h _ rfl
theorem uV (h:cP l=false):cP (dp l)=false∧dp (dp l)=dp l:=by
 have e:∀l:LP,cP l=false→dp l=dD l:=fun l h=>by delta dp;rw [h];rfl
 rw [e l h]
 have:=IC (l:=l)
 exact ⟨this.2.trans h,(e _ (this.2.trans h)).trans this.1⟩
theorem Jn (h:xl J f (k+1) L=some L'):∃L1,rl J f L=some L1∧xl J f k L1=some L'∧(j8 L=true→L'=(dp L.1,dp L.2)):=by
 unfold xl at h
 cases q:j8 L with
 |false=>
  rw [q] at h
  cases r:rl J f L with
  |none=>rw [r] at h;cases h
  |some L1=>rw [r] at h;exact cb L1 rfl h nofun
 |true=>
  rw [q] at h
  obtain rfl:=Option.some.inj h
  delta j8 at q
  refine bC (aZ q) fun q1 q2=>?_
  rw [Bool.not_eq_true'] at q1 q2
  refine bC (uV q1) fun a1 b1=>?_
  refine bC (uV q2) fun a2 b2=>?_
  refine cb (dp L.1,dp L.2) ?_ ?_ (fun V=>rfl)
  ·delta rl
   rw [oa.mpr q1,oa.mpr q2];rfl
  ·cases k with
   |zero=>rfl
   |succ k=>
    unfold xl
    have q':j8 (dp L.1,dp L.2)=true:=by
     delta j8
     dsimp only
     rw [a1,a2];rfl
    rw [q',if_pos rfl]
    dsimp only
    rw [b1,b2]
end
variable {S':Nat→LP×LP}
section
variable {c:WC} {π:Nat→Nat} {pa:Nat→Nat→PA} {X:Nat→Nat→mn} {J:Int} {F:Nat→Bool} {S:Nat→LP×LP} {e:E2} {s:Nat}
noncomputable def GI (c:WC) (π:Nat→Nat) (pa:Nat→Nat→PA) (X:Nat→Nat→mn) (J:Int) (F:Nat→Bool) (S:Nat→LP×LP) (e:E2):Prop:=
 ∀s,s <2→SI c.many (pa s) (X s) (c.b s).c.sys (c.b s).c.most J (sf π F s) (sg π S s) (e s)
theorem GN {f:Bool} {L L':LP×LP} (h:rl J f L=some L'):HG J f (dp L.1) (mA L.2)=some L'.1∧HG J f (dp L.2) (mA L.1)=some L'.2:=by
 delta rl at h
 cases h1:HG J f (dp L.1) (mA L.2) with
 |none=>rw [h1] at h;cases h
 |some a=>
  cases h2:HG J f (dp L.2) (mA L.1) with
  |none=>rw [h1,h2] at h;cases h
  |some b=>rw [h1,h2] at h;cases h;exact ⟨rfl,rfl⟩
theorem Hv (N:G7 c π pa X) (J0:0≤J) (G:GI c π pa X J F S e) (h:∀j,j <c.many→rl J (F j) (S j)=some (S' j)):∃e',q7 c e=some e'∧GI c π pa X J F S' e':=by
 have rng:∀p,p <c.many→π p∈List.range c.many:=fun p hp=>List.mem_range.mpr (N.pi p hp).1
 have snt:∀s,s <2→SI c.many (pa s) (X s) (c.b s).c.sys (c.b s).c.most J (sf π F s) (fun i=>dp (sg π S s i)) (f7 e s):=fun s hs=>Fo (G s hs)
 have D1:=jz (s:=0) (μ:=fun j=>mA (sg π S 0 j)) N J0 (by decide) (List.range c.many) List.nodup_range (fun j hj=>List.mem_range.mp hj) (fun p=>(S' (π p)).2) (snt 1 (by decide))
  (fun p hp V=>(GN (h (π p) (N.pi p hp).1)).2) (fun p hp q=>absurd (rng p hp) q)
 have D0:=jz (s:=1) (μ:=fun j=>mA (sg π S 1 j)) N J0 (by decide) (List.range c.many) List.nodup_range (fun j hj=>List.mem_range.mp hj) (fun p=>(S' p).1) (snt 0 (by decide))
  (fun p hp V=>by
   show HG J (F p) (dp (S p).1) (mA (S (π (π p))).2)=_
   rw [(N.pi p hp).2];exact (GN (h p hp)).1) (fun p hp q=>absurd (rng p hp) q)
 refine ab D1 fun x1 a1 b1=>?_
 refine ab D0 fun x0 a0 b0=>?_
 refine a9 (fun i=>if i=0 then x0 else x1) ?_ (lS b0 b1)
 have m0:=(G 0 (by decide)).msgs (N.w 0 (by decide))
 have m1:=(G 1 (by decide)).msgs (N.w 1 (by decide))
 unfold q7
 rw [m0,show dg c 0 _ (f7 e 1)=some x1 from a1]
 dsimp only
 rw [m1,show dg c 1 _ (f7 e 0)=some x0 from a0]
theorem AO {α β:Type} {g:α→Option β}:∀{l:List α},l.filterMap g= []→∀x∈l,g x=none
 | [],_,_,h=>by cases h
 |y::l,e,x,h=>by
  rw [List.filterMap_cons] at e
  cases hy:g y with
  |some z=>rw [hy] at e;cases e
  |none=>
   rw [hy] at e
   rcases List.mem_cons.mp h with q |q
   ·rw [q];exact hy
   ·exact AO e x q
theorem qV (N:G7 c π pa X) (J0:0≤J):∀(k:Nat) {S:Nat→LP×LP} {e:E2},GI c π pa X J F S e→(∀j,j <c.many→xl J (F j) k (S j)=some (S' j))→∃e',gX c k e=some e'∧GI c π pa X J F S' e'
 |0,S,e,G,h=>⟨e,rfl,fun s hs=>(G s hs).congr fun i hi=>by
   apply iT (s:=s) hs;exact (congrArg (·.1) (Option.some.inj (h i hi)).symm);exact (congrArg (·.2) (Option.some.inj (h (π i) (N.pi i hi).1)).symm)⟩
 |k+1,S,e,G,h=>by
  have st:=fun j hj=>Jn (h j hj)
  unfold gX
  cases q:kJ e with
  |true=>
   rw [if_pos rfl]
   refine a9 _ rfl ?_
   have m0:=(G 0 (by decide)).msgs (N.w 0 (by decide))
   have m1:=(G 1 (by decide)).msgs (N.w 1 (by decide))
   delta kJ at q
   obtain ⟨q0,q1⟩:=aZ q
   rw [m0] at q0
   rw [m1] at q1
   have n0:∀j,j <c.many→cP (S j).1=false:=fun j hj=>oa.mp (Option.map_eq_none_iff.mp (AO (List.isEmpty_iff.mp q0) j (List.mem_range.mpr hj)))
   have n1:∀j,j <c.many→cP (S j).2=false:=fun j hj=>by
    have:=oa.mp (Option.map_eq_none_iff.mp (AO (List.isEmpty_iff.mp q1) (π j) (List.mem_range.mpr (N.pi j hj).1)))
    rw [show sg π S 1 (π j)=(S j).2 from congrArg (fun z=>(S z).2) (N.pi j hj).2] at this
    exact this
   have qs:∀j,j <c.many→S' j=(dp (S j).1,dp (S j).2):=fun j hj=>by
    obtain ⟨_,_,_,z⟩:=st j hj
    refine z ?_
    delta j8
    rw [n0 j hj,n1 j hj];rfl
   intro s hs
   refine (Fo (G s hs)).congr fun i hi=>?_
   apply iT (s:=s) hs;exact (congrArg (·.1) (qs i hi));exact (congrArg (·.2) (qs (π i) (N.pi i hi).1))
  |false=>
   rw [if_neg (by decide)]
   obtain ⟨T,hT⟩:∃T:Nat→LP×LP,∀j,j <c.many→rl J (F j) (S j)=some (T j)∧xl J (F j) k (T j)=some (S' j):=by
    refine ⟨fun j=>(rl J (F j) (S j)).getD (S j),fun j hj=>?_⟩
    obtain ⟨L1,a,b,_⟩:=st j hj
    dsimp only
    rw [a];exact ⟨rfl,b⟩
   obtain ⟨e1,a,b⟩:=Hv N J0 G fun j hj=>(hT j hj).1
   rw [a]
   exact qV N J0 k b fun j hj=>(hT j hj).2
noncomputable def sl (J:Int) (f:Bool) (l:LP):Option LP:=if Kd J f l&&Ez J f (nB (decide (J=0)) f (lU l) (tR l (eS l f))) then some (nB (decide (J=0)) f (lU l) (tR l (eS l f))) else none
noncomputable def GE (c:WC) (π:Nat→Nat) (pa:Nat→Nat→PA) (X:Nat→Nat→mn) (F:Nat→Bool) (S:Nat→LP×LP) (e:E2):Prop:=
 ∀s,s <2→fR c.many (pa s) (X s) (c.b s).c.sys (c.b s).c.most (sf π F s) (sg π S s) (e s)
theorem GI.ge (h:J≠2) (G:GI c π pa X J F S e):GE c π pa X F S e:=fun s hs=>by
 have:=G s hs
 unfold SI at this
 rw [if_neg h] at this
 exact this.2
theorem Gg (N:G7 c π pa X) (J0:0≤J) (hJ:J≠2) (G:GE c π pa X F S e) (h:∀j,j <c.many→sl J (F j) (S j).1=some (S' j).1∧sl J (F j) (S j).2=some (S' j).2):∃e',CN c e=some e'∧GI c π pa X J F S' e':=by
 have one:∀s,s <2→∀i,i <c.many→sl J (sf π F s i) (sg π S s i)=some (sg π S' s i):=fun s hs i hi=>by
  apply iT (s:=s) hs;exact ((h i hi).1);exact ((h (π i) (N.pi i hi).1).2)
 have side:∀s,s <2→∃x,tP (c.b s).c.sys (c.b s).c.most (e s)=some x∧SI c.many (pa s) (X s) (c.b s).c.sys (c.b s).c.most J (sf π F s) (sg π S' s) x:=fun s hs=>by
  have inv:=fun i hi=>dU (one s hs i hi)
  refine ab (NV (J:=J) (N.w s hs) (G s hs) J0 fun i hi=>(aZ (inv i hi).1).1) fun x a b=>?_
  refine a9 x a ?_
  delta SI
  rw [if_neg hJ]
  have e1:∀i,i <c.many→cW (decide (J=0)) (sf π F s i) (lU (sg π S s i)) (tR (sg π S s i) (eS (sg π S s i) (sf π F s i)))=sg π S' s i:=fun i hi=>fV.trans (inv i hi).2
  exact ⟨fun i hi=>(inv i hi).2▸(aZ (inv i hi).1).2,b.congr fun i hi=>(e1 i hi).symm⟩
 refine ab (side 0 (by decide)) fun x0 a0 b0=>?_
 refine ab (side 1 (by decide)) fun x1 a1 b1=>?_
 refine a9 (fun i=>if i=0 then x0 else x1) ?_ (lS b0 b1)
 unfold CN
 rw [a0]
 dsimp only
 rw [a1]
end
noncomputable def HD (l:LP):Option LP:=if !l.up&&(decide ((q8 l).ast <256)&&xd (pF .wai (q8 l))) then some (pF .wai (q8 l)) else none
noncomputable def DH (f:Bool) (l:LP):Option LP:=if l.up&&(decide ((pV l).ast <256)&&Ez 0 f (nB true f (pV l) .un)) then some (nB true f (pV l) .un) else none
noncomputable def K7 (f f':Bool) (l:LP):Option LP:=if Ez 0 f' (nB true f' l (eS l f)) then some (nB true f' l (eS l f)) else none
noncomputable def f9 (g:LP→Option LP) (L:LP×LP):Option (LP×LP):=match g L.1,g L.2 with |some a,some b=>some (a,b) |_,_=>none
theorem ff {g:LP→Option LP} {L L':LP×LP} (h:f9 g L=some L'):g L.1=some L'.1∧g L.2=some L'.2:=by
 delta f9 at h
 cases h1:g L.1 with
 |none=>rw [h1] at h;cases h
 |some a=>
  cases h2:g L.2 with
  |none=>rw [h1,h2] at h;cases h
  |some b=>rw [h1,h2] at h;cases h;exact ⟨rfl,rfl⟩
noncomputable def CY (f:Bool):Nat→LP×LP→Option (LP×LP)
 |0,L=>xl 0 f 8 L
 |k+1,L=>(xl 0 f 8 L).bind fun L1=>(f9 (sl 0 f) L1).bind (CY f k)
noncomputable def PN (f:Bool) (L:LP×LP):Option (LP×LP):=(f9 (sl 1 f) L).bind fun L2=>(xl 1 f 8 L2).bind fun L3=>(f9 (sl 0 f) L3).bind (CY f 4)
theorem dG {α β:Type} {o:Option α} {g:α→Option β} {b:β} (h:o.bind g=some b):∃a,o=some a∧g a=some b:=by
 cases o with
 |none=>cases h
 |some a=>exact a9 a rfl h
section
variable {c:WC} {π:Nat→Nat} {pa:Nat→Nat→PA} {X:Nat→Nat→mn} {J:Int} {F F':Nat→Bool} {S:Nat→LP×LP} {e:E2} {s:Nat}
theorem fR.flags {n:Nat} {pa:Nat→PA} {X:Nat→mn} {sys:aT} {most:Int} {fl fl':Nat→Bool} {σ:Nat→LP} {e:EI} (E:fR n pa X sys most fl σ e) (h:∀i,i <n→(σ i).up=true→fX sys most n X (fun k=>cls (σ k)) i=fl' i):fR n pa X sys most fl' σ e:=by
 obtain ⟨⟨b,e1,e2⟩,ok,ln,ast,hf⟩:=E
 refine ⟨(a9 b (e1.trans (o4 fun i hi=>⟨rfl,?_⟩)) e2),ok,ln,ast,h⟩
 delta eS
 cases hu:(σ i).up with
 |false=>rfl
 |true=>rw [←hf i hi hu,h i hi hu]
theorem Kb (N:G7 c π pa X) (J0:0≤J) {J':Int} (J0':0≤J') (hJ:J≠2) (hJ':J'≠2) (G:GI c π pa X J F S e) {S1 S2:Nat→LP×LP} (h1:∀j,j <c.many→xl J (F j) 8 (S j)=some (S1 j)) (h2:∀j,j <c.many→f9 (sl J' (F j)) (S1 j)=some (S2 j)):
  ∃e',kU c e=some e'∧GI c π pa X J' F S2 e':=by
 refine ab (qV N J0 8 G h1) fun e1 a1 b1=>?_
 refine ab (Gg N J0' hJ' (b1.ge hJ) fun j hj=>ff (h2 j hj)) fun e2 a2 b2=>?_
 refine a9 e2 ?_ b2
 unfold kU
 rw [a1];exact a2
theorem kP {α:Type} {n:Nat} {g:Nat→Option α} (x:α) (h:∀j,j <n→∃a,g j=some a):∃T:Nat→α,∀j,j <n→g j=some (T j):=
 ⟨fun j=>(g j).getD x,fun j hj=>by
  refine cQ (h j hj) fun a e=>?_
  dsimp only
  rw [e];rfl⟩
theorem Ep (N:G7 c π pa X):∀(k:Nat) {S:Nat→LP×LP} {e:E2},GI c π pa X 0 F S e→(∀j,j <c.many→CY (F j) k (S j)=some (S' j))→∃e',fv c k e=some e'∧GI c π pa X 0 F S' e'
 |0,S,e,G,h=>qV N (by decide) 8 G h
 |k+1,S,e,G,h=>by
  obtain ⟨S1,h1⟩:=kP (S 0) (n:=c.many) (g:=fun j=>xl 0 (F j) 8 (S j)) fun j hj=>let ⟨a,e,_⟩:=dG (h j hj);⟨a,e⟩
  have r1:∀j,j <c.many→(f9 (sl 0 (F j)) (S1 j)).bind (CY (F j) k)=some (S' j):=fun j hj=>by
   obtain ⟨a,x,y⟩:=dG (h j hj)
   rw [h1 j hj] at x;cases x;exact y
  obtain ⟨S2,h2⟩:=kP (S 0) (n:=c.many) (g:=fun j=>f9 (sl 0 (F j)) (S1 j)) fun j hj=>let ⟨a,e,_⟩:=dG (r1 j hj);⟨a,e⟩
  obtain ⟨e1,a1,b1⟩:=Kb N (by decide) (J':=0) (by decide) (by decide) (by decide) G h1 h2
  obtain ⟨e2,a2,b2⟩:=Ep N k b1 fun j hj=>by
   obtain ⟨a,x,y⟩:=dG (r1 j hj)
   rw [h2 j hj] at x;cases x;exact y
  refine a9 e2 ?_ b2
  unfold fv
  rw [a1];exact a2
theorem Gx (N:G7 c π pa X) (G:GI c π pa X 2 F S e) {S1:Nat→LP×LP} (h1:∀j,j <c.many→xl 2 (F j) 8 (S j)=some (S1 j)) (hf:∀s,s <2→∀i,i <c.many→(sg π S1 s i).up=true→fX (c.b s).c.sys (c.b s).c.most c.many (X s) (fun k=>cls (sg π S1 s k)) i=sf π F s i) (h2:∀j,j <c.many→PN (F j) (S1 j)=some (S' j)):
  ∃e',fv c 6 e=some e'∧GI c π pa X 0 F S' e':=by
 refine ab (qV N (by decide) 8 G h1) fun e1 a1 b1=>?_
 have ge:GE c π pa X F S1 e1:=fun s hs=>by
  have:=b1 s hs
  unfold SI at this
  rw [if_pos rfl] at this
  refine u3 this fun V fl E=>?_
  exact E.flags (hf s hs)
 refine cQ (kP (S 0) (n:=c.many) (g:=fun j=>f9 (sl 1 (F j)) (S1 j)) fun j hj=>ab (dG (h2 j hj)) fun a e V=>⟨a,e⟩) fun S2 g2=>?_
 refine ab (Gg (J:=1) N (by decide) (by decide) ge fun j hj=>ff (g2 j hj)) fun e2 a2 b2=>?_
 have r2:∀j,j <c.many→(xl 1 (F j) 8 (S2 j)).bind (fun L3=>(f9 (sl 0 (F j)) L3).bind (CY (F j) 4))=some (S' j):=fun j hj=>by
  refine ab (dG (h2 j hj)) fun a x y=>?_
  rw [g2 j hj] at x;cases x;exact y
 refine cQ (kP (S 0) (n:=c.many) (g:=fun j=>xl 1 (F j) 8 (S2 j)) fun j hj=>ab (dG (r2 j hj)) fun a e V=>⟨a,e⟩) fun S3 g3=>?_
 have r3:∀j,j <c.many→(f9 (sl 0 (F j)) (S3 j)).bind (CY (F j) 4)=some (S' j):=fun j hj=>by
  refine ab (dG (r2 j hj)) fun a x y=>?_
  rw [g3 j hj] at x;cases x;exact y
 refine cQ (kP (S 0) (n:=c.many) (g:=fun j=>f9 (sl 0 (F j)) (S3 j)) fun j hj=>ab (dG (r3 j hj)) fun a e V=>⟨a,e⟩) fun S4 g4=>?_
 refine ab (Kb (J:=1) (J':=0) N (by decide) (by decide) (by decide) (by decide) b2 g3 g4) fun e4 a4 b4=>?_
 obtain ⟨e5,a5,b5⟩:=Ep N 4 b4 fun j hj=>by
  refine ab (dG (r3 j hj)) fun a x y=>?_
  rw [g4 j hj] at x;cases x;exact y
 refine a9 e5 ?_ b5
 show (match kU c e with |none=>none |some e'=>fv c 5 e')=_
 have:kU c e=some e2:=by unfold kU;rw [a1];exact a2
 rw [this]
 show (match kU c e2 with |none=>none |some e'=>fv c 4 e')=_
 rw [a4];exact a5
theorem Ht (N:G7 c π pa X) {a b:LP} (hj:j <c.many):∀i,i <c.many→sg π (eh S j (a,b)) 0 i=eh (sg π S 0) j a i∧sg π (eh S j (a,b)) 1 i=eh (sg π S 1) (π j) b i:=fun i hi=>by
 constructor
 ·show (eh S j (a,b) i).1=_
  by_cases q:i=j
  ·subst q;rw [bq,bq]
  ·rw [bo q,bo q];rfl
 ·show (eh S j (a,b) (π i)).2=_
  by_cases q:i=π j
  ·subst q;rw [(N.pi j hj).2,bq,bq]
  ·rw [bo q,bo fun z=>q (by rw [←z,(N.pi i hi).2])];rfl
noncomputable def cF (π:Nat→Nat) (j:Nat):Int×Int:=(1+(j:Int),1+(π j:Int))
theorem OU (N:G7 c π pa X) (G:GI c π pa X 2 F S e) (hj:j <c.many) {a b:LP} (h0:HD (S j).1=some a) (h1:HD (S j).2=some b):∃x:Nat→EI,(∀s,s <2→iG true c e (cF π j) s=some (x s))∧GI c π pa X 2 F (eh S j (a,b)) (eK e x 2):=by
 have side:∀s,s <2→∀p a,p <c.many→HD (sg π S s p)=some a→∃y,Hz (c.b s).c.sys (c.b s).c.most p (e s)=some y∧SI c.many (pa s) (X s) (c.b s).c.sys (c.b s).c.most 2 (sf π F s) (eh (sg π S s) p a) y:=fun s hs p a hp h=>by
  have G:=G s hs
  unfold SI at G
  rw [if_pos rfl] at G
  refine u3 G fun A fl E=>?_
  refine bC (dU h) fun q zr59=>?_;subst zr59
  refine bC (aZ q) fun q1 q=>?_
  refine bC (aZ q) fun q2 q3=>?_
  refine ao (Oy (N.w s hs) E A hp (by rw [Bool.not_eq_true'] at q1;exact q1) (of_decide_eq_true q2)) fun y fl' r E'=>?_
  refine a9 y r ?_
  unfold SI
  rw [if_pos rfl]
  exact Pc (qJ (P:=fun V l=>xd l=true) q3 A) fl' E'
 refine ab (side 0 (by decide) j a hj h0) fun y0 r0 s0=>?_
 refine ab (side 1 (by decide) (π j) b (N.pi j hj).1 (by
  show HD (S (π (π j))).2=_
  rw [(N.pi j hj).2];exact h1)) fun y1 r1 s1=>?_
 refine a9 (fun i=>if i=0 then y0 else y1) (lS ?_ ?_) (lS ?_ ?_)
 ·show Hz _ _ (ig (1+(j:Int))) _=_
  rw [pQ];exact r0
 ·show Hz _ _ (ig (1+(π j:Int))) _=_
  rw [pQ];exact r1
 ·exact s0.congr fun i hi=>(Ht N hj i hi).1
 ·exact s1.congr fun i hi=>(Ht N hj i hi).2
theorem Iq (N:G7 c π pa X) (G:GI c π pa X 0 F S e) (hj:j <c.many) (mono:∀k,F k=true→F' k=true) (hS:S' j=S' j) (h:∀k,k <c.many→k≠j→f9 (K7 (F k) (F' k)) (S k)=some (S' k)) (hd:f9 (DH (F' j)) (S j)=some (S' j))
  (hf:∀s,s <2→∀i,i <c.many→(sg π S' s i).up=true→fX (c.b s).c.sys (c.b s).c.most c.many (X s) (fun k=>cls (sg π S' s k)) i=sf π F' s i):∃x:Nat→EI,(∀s,s <2→iG false c e (cF π j) s=some (x s))∧GI c π pa X 0 F' S' (eK e x 2):=by
 have mono2:∀s,s <2→∀i,sf π F s i=true→sf π F' s i=true:=lS mono fun i=>mono (π i)
 have side:∀s,s <2→∀p,p <c.many→DH (sf π F' s p) (sg π S s p)=some (sg π S' s p)→(∀i,i <c.many→i≠p→K7 (sf π F s i) (sf π F' s i) (sg π S s i)=some (sg π S' s i))→∃y,mh (c.b s).c.sys (c.b s).c.most p (e s)=some y∧SI c.many (pa s) (X s) (c.b s).c.sys (c.b s).c.most 0 (sf π F' s) (sg π S' s) y:=fun s hs p hp h1 h2=>by
  have G:=G s hs
  unfold SI at G
  rw [if_neg (by decide)] at G
  refine bC G fun A E=>?_
  refine bC (dU h1) fun q e1=>?_
  refine bC (aZ q) fun q1 q=>?_
  refine bC (aZ q) fun q2 q3=>?_
  have q2:=of_decide_eq_true q2
  have e2:=fun i hi n=>dU (h2 i hi n)
  have cl:∀i,i <c.many→cls (eh (sg π S s) p (pV (sg π S s p)) i)=cls (sg π S' s i):=fun i hi=>by
   by_cases q:i=p
   ·subst q
    rw [bq,←e1,←fV]
    exact (fM q2).2.symm
   ·rw [bo q,←(e2 i hi q).2,←fV]
    exact (fM (wm (A i hi)).ast).2.symm
  have mono':∀i,sf π F s i=true→sf π F' s i=true:=mono2 s hs
  have hf':∀i,i <c.many→(eh (sg π S s) p (pV (sg π S s p)) i).up=true→fX (c.b s).c.sys (c.b s).c.most c.many (X s) (fun k=>cls (eh (sg π S s) p (pV (sg π S s p)) k)) i=sf π F' s i:=fun i hi u=>by
   have u:(sg π S' s i).up=true:=(congrArg (·.1) (cl i hi)).symm.trans u
   exact (lE (κ:=fun k=>cls (sg π S' s k)) (fun k hk=>cl k hk) hi).trans (hf s hs i hi u)
  refine ab (Lv (fl':=sf π F' s) (N.w s hs) E (fun i hi=>wm (A i hi)) hp q1 q2 mono' hf') fun y r E'=>?_
  refine a9 y r ?_
  unfold SI
  rw [if_neg (by decide)]
  refine ⟨fun i hi=>?_,E'.congr fun i hi=>?_⟩
  ·by_cases q:i=p
   ·subst q;rw [←e1];exact q3
   ·rw [←(e2 i hi q).2];exact (e2 i hi q).1
  ·by_cases q:i=p
   ·subst q;rw [if_pos rfl,fV];exact e1.symm
   ·rw [if_neg q,fV];exact (e2 i hi q).2.symm
 refine ab (side 0 (by decide) j hj (ff hd).1 fun i hi n=>(ff (h i hi n)).1) fun y0 r0 s0=>?_
 refine ab (side 1 (by decide) (π j) (N.pi j hj).1 (by
  show DH (F' (π (π j))) (S (π (π j))).2=some (S' (π (π j))).2
  rw [(N.pi j hj).2];exact (ff hd).2) fun i hi n=>(ff (h (π i) (N.pi i hi).1 fun z=>n (by rw [←z,(N.pi i hi).2]))).2) fun y1 r1 s1=>?_
 refine a9 (fun i=>if i=0 then y0 else y1) (lS ?_ ?_) (lS s0 s1)
 ·show mh _ _ (ig (1+(j:Int))) _=_
  rw [pQ];exact r0
 ·show mh _ _ (ig (1+(π j:Int))) _=_
  rw [pQ];exact r1
end
noncomputable def Oh (a s j:Bool):Nat:=(if a then 1 else 0)+(if s then 2 else 0)+(if j then 4 else 0)
noncomputable def sZ (a s j:Bool):LP:=⟨Oh a s j|||64,false,56,.disabled,0,.det,0,0,false,0⟩
noncomputable def Mz (o:Option (LP×LP)) (p:LP×LP→Bool):Bool:=match o with |some L=>p L |none=>false
noncomputable def oD (talk joint f:Bool) (L:LP×LP):Bool:=decide (cls L.1=(true,talk,!joint))&&(decide (cls L.2=(true,talk,!joint))&&(decide (L.1.mux=if f then .dis else .wai)&&decide (L.2.mux=if f then .dis else .wai)))
noncomputable def Bz (L:LP×LP):Bool:=!L.1.up&& !L.2.up
noncomputable def Qp (a0 s0 j0 a1 s1 j1:Bool):Option (LP×LP):=(f9 HD (sZ a0 s0 j0,sZ a1 s1 j1)).bind (xl 2 true 8)
noncomputable def xh (talk joint:Bool) (L1:LP×LP) (f:Bool):Bool:=Mz (PN f L1) fun L2=>oD talk joint f L2&&
 (Mz ((f9 (K7 f true) L2).bind (CY true 6)) (oD talk joint true)&&((f||Mz ((f9 (K7 f f) L2).bind (CY f 6)) (oD talk joint f))&&Mz ((f9 (DH true) L2).bind (CY true 6)) Bz))
noncomputable def ND (a0 s0 j0 a1 s1 j1:Bool):Bool:=Mz (Qp a0 s0 j0 a1 s1 j1) fun L1=>
 decide (cls L1.1=(true,a0||a1,!(j0&&j1&&(a0||a1))))&&(decide (cls L1.2=(true,a0||a1,!(j0&&j1&&(a0||a1))))&&(xh (a0||a1) (j0&&j1&&(a0||a1)) L1 true&&(!(j0&&j1&&(a0||a1))||xh (a0||a1) (j0&&j1&&(a0||a1)) L1 false)))
theorem IY:∀a0 s0 j0 a1 s1 j1:Bool,ND a0 s0 j0 a1 s1 j1=true:=by
 intro a0 s0 j0
 cases a0<;>cases s0<;>cases j0<;>decide+kernel
set_option genInjectivity false in
structure gu where
 many:Nat
 most:Int
 sy:Nat→aT
 row:Nat→Nat→pK
 sw:Bool
noncomputable def ka (b:Bool) (j:Nat):Nat:=if b then (match j with |0=>1 |1=>0 |j=>j) else j
structure gu.Ok (g:gu):Prop where
 m:g.many=2∨g.many=3
 most:1≤g.most
 s0:(g.sy 0==((0:Int),(0:Int)))=false
 s1:(g.sy 1==((0:Int),(0:Int)))=false
 ord:eF (g.sy 1) (g.sy 0)= !eF (g.sy 0) (g.sy 1)
 num:∀s i,(g.row s i).number=1+(i:Int)
namespace gu
noncomputable def π (g:gu):Nat→Nat:=ka g.sw
noncomputable def X (g:gu) (s j:Nat):mn:=⟨g.row s j,g.sy s,g.sy (1 - s),(g.row (1 - s) (g.π j)).key,(g.row (1 - s) (g.π j)).pid⟩
noncomputable def talk (g:gu) (j:Nat):Bool:=(g.row 0 j).act||(g.row 1 (g.π j)).act
noncomputable def joint (g:gu) (j:Nat):Bool:=(g.row 0 j).joi&&(g.row 1 (g.π j)).joi&&g.talk j
noncomputable def lid (g:gu) (j:Nat):aT:=if eF (g.sy 0) (g.sy 1) then (g.row 0 j).pid else (g.row 1 (g.π j)).pid
noncomputable def keys (g:gu) (j:Nat):Int×Int:=((g.row 0 j).key,(g.row 1 (g.π j)).key)
noncomputable def lower (g:gu) (k j:Nat):Bool:=mX (g.lid k) (g.lid j)
noncomputable def F (g:gu) (U:Nat→Bool) (j:Nat):Bool:=!g.joint j||decide ((List.range g.many).countP (fun k=>U k&&(g.joint k&&(g.keys k==g.keys j&&g.lower k j))) <g.most.toNat)
noncomputable def cl (g:gu) (j:Nat):Bool×Bool×Bool:=(true,g.talk j,!g.joint j)
end gu
theorem Ia (b:Bool) (j:Nat):ka b (ka b j)=j:=by
 cases b with
 |false=>rfl
 |true=>match j with |0=>rfl |1=>rfl |j+2=>rfl
theorem GA {b:Bool} {n j:Nat} (hn:n=2∨n=3) (h:j <n):ka b j <n:=by
 cases b with
 |false=>exact h
 |true=>
  match j with
  |0=>rcases hn with rfl |rfl<;>decide
  |1=>rcases hn with rfl |rfl<;>decide
  |j+2=>exact h
theorem C4 {b:Bool} {n:Nat} (hn:n=2∨n=3) (p:Nat→Bool):(List.range n).countP (fun j=>p (ka b j))=(List.range n).countP p:=by
 cases b with
 |false=>rfl
 |true=>
  rcases hn with rfl |rfl
  ·show [0,1].countP (fun j=>p (ka true j))= [0,1].countP p
   rw [List.countP_cons,List.countP_cons,List.countP_cons,List.countP_cons,List.countP_nil,List.countP_nil]
   show 0+(if p 0=true then 1 else 0)+(if p 1=true then 1 else 0)=0+(if p 1=true then 1 else 0)+(if p 0=true then 1 else 0)
   exact Nat.add_right_comm ..
  ·show [0,1,2].countP (fun j=>p (ka true j))= [0,1,2].countP p
   rw [List.countP_cons,List.countP_cons,List.countP_cons,List.countP_cons,List.countP_cons,List.countP_cons,List.countP_nil,List.countP_nil]
   show 0+(if p 2=true then 1 else 0)+(if p 0=true then 1 else 0)+(if p 1=true then 1 else 0)=0+(if p 2=true then 1 else 0)+(if p 1=true then 1 else 0)+(if p 0=true then 1 else 0)
   exact Nat.add_right_comm ..
section
variable {g:gu} {s i:Nat}
theorem kX:g.π (g.π j)=j:=Ia _ _
theorem Bi (h:g.joint j=true):g.talk j=true:=(aZ h).2
noncomputable def gu.lnk (g:gu) (s i:Nat):Nat:=match s with |0=>i |_=>g.π i
theorem BR (h:g.lnk s i=g.lnk s k):i=k:=by
 match s with
 |0=>exact h
 |s+1=>exact (kX (g:=g)).symm.trans ((congrArg g.π h).trans kX)
theorem sU (ok:g.Ok) (h:g.joint (g.lnk s i)=false):(pJ (g.X s i) (g.cl (g.lnk s i))).num=1+(i:Int):=by
 delta pJ gu.cl
 dsimp only
 rw [h]
 exact ok.num s i
theorem lM (h:g.joint (g.lnk s i)=true):pJ (g.X s i) (g.cl (g.lnk s i))=⟨(g.row s i).key,g.sy (1 - s),(g.row (1 - s) (g.π i)).key,0⟩:=by
 delta pJ gu.cl
 dsimp only
 rw [h,Bi h];rfl
theorem qT (ok:g.Ok) (hs:s <2):pJ (g.X s i) (g.cl (g.lnk s i))=pJ (g.X s k) (g.cl (g.lnk s k))↔i=k∨(g.joint (g.lnk s i)=true∧g.joint (g.lnk s k)=true∧g.keys (g.lnk s i)=g.keys (g.lnk s k)):=by
 have key:g.keys (g.lnk s i)=g.keys (g.lnk s k)↔(g.row s i).key=(g.row s k).key∧(g.row (1 - s) (g.π i)).key=(g.row (1 - s) (g.π k)).key:=by
  apply iT (s:=s) hs
  ·exact Prod.ext_iff
  ·show ((g.row 0 (g.π i)).key,(g.row 1 (g.π (g.π i))).key)=((g.row 0 (g.π k)).key,(g.row 1 (g.π (g.π k))).key)↔_
   rw [kX,kX,Prod.ext_iff]
   exact And.comm
 cases hi:g.joint (g.lnk s i) with
 |false=>
  refine ⟨fun h=>?_,fun h=>h.elim (fun q=>q▸rfl) fun q=>(by cases q.1)⟩
  have:=congrArg ag.num h
  rw [sU ok hi] at this
  cases hk:g.joint (g.lnk s k) with
  |false=>rw [sU ok hk] at this;exact .inl (by lia)
  |true=>
   rw [lM hk] at this
   have:1+(i:Int)=0:=this
   lia
 |true=>
  cases hk:g.joint (g.lnk s k) with
  |false=>
   refine ⟨fun h=>?_,fun h=>h.elim (fun q=>q▸rfl) fun q=>(by cases q.2.1)⟩
   have:=congrArg ag.num h
   rw [sU ok hk,lM hi] at this
   have:0=1+(k:Int):=this
   lia
  |true=>
   rw [lM hi,lM hk]
   constructor
   ·intro h
    exact .inr ⟨rfl,rfl,key.mpr ⟨congrArg ag.key h,congrArg ag.pkey h⟩⟩
   ·rintro (rfl |⟨_,_,h⟩)
    ·rfl
    ·refine bC (key.mp h) fun a b=>?_
     rw [a,b]
theorem ym (ok:g.Ok) (hs:s <2) (h:g.joint (g.lnk s i)=true):DM (g.sy s) (g.X s i) (g.cl (g.lnk s i))=g.lid (g.lnk s i):=by
 delta DM gu.cl
 dsimp only
 rw [h,Bi h]
 apply iT (s:=s) hs
 ·delta gu.lid
  show (if (eF (g.sy 0) (g.sy 1)||false)=true then (g.row 0 i).pid else (g.row 1 (g.π i)).pid)=_
  rw [Bool.or_false];rfl
 ·delta gu.lid
  show (if (eF (g.sy 1) (g.sy 0)||false)=true then (g.row 1 i).pid else (g.row 0 (g.π i)).pid)=if eF (g.sy 0) (g.sy 1)=true then (g.row 0 (g.π i)).pid else (g.row 1 (g.π (g.π i))).pid
  rw [Bool.or_false,ok.ord,kX]
  cases eF (g.sy 0) (g.sy 1)<;>rfl
theorem I8 (ok:g.Ok) (h:(g.lid i).2=(g.lid k).2):i=k:=by
 delta gu.lid at h
 cases hp:eF (g.sy 0) (g.sy 1) with
 |true=>
  rw [hp,if_pos rfl,if_pos rfl] at h
  have h:(g.row 0 i).number=(g.row 0 k).number:=h
  rw [ok.num,ok.num] at h;lia
 |false=>
  rw [hp,if_neg Bool.false_ne_true,if_neg Bool.false_ne_true] at h
  have h:(g.row 1 (g.π i)).number=(g.row 1 (g.π k)).number:=h
  rw [ok.num,ok.num] at h
  have:g.π i=g.π k:=by lia
  exact BR (s:=1) this
theorem ER (ok:g.Ok) (hs:s <2) (hi:g.joint (g.lnk s i)=true) (hk:g.joint (g.lnk s k)=true):O6 (g.sy s) (g.X s k) (g.X s i) (g.cl (g.lnk s k)) (g.cl (g.lnk s i))=g.lower (g.lnk s k) (g.lnk s i):=by
 delta O6 gu.lower mX
 rw [ym ok hs hi,ym ok hs hk]
 have n1:(g.X s k).row.number=1+(k:Int):=ok.num s k
 have n2:(g.X s i).row.number=1+(i:Int):=ok.num s i
 rw [n1,n2]
 have inj:(g.lid (g.lnk s k)).2=(g.lid (g.lnk s i)).2→k=i:=fun h=>BR (I8 ok h)
 rw [Bool.eq_iff_iff,decide_eq_true_iff,Bool.or_eq_true_iff,Bool.and_eq_true_iff,decide_eq_true_iff,decide_eq_true_iff,beq_iff_eq]
 constructor
 ·rintro (h |⟨h,h2 |⟨h2,h3⟩⟩)
  ·exact .inl h
  ·exact .inr ⟨h,h2⟩
  ·have:=inj h2;lia
 ·rintro (h |⟨h,h2⟩)
  ·exact .inl h
  ·exact .inr ⟨h,.inl h2⟩
theorem uR (ok:g.Ok) {U:Nat→Bool} {κ:Nat→Bool×Bool×Bool} (hs:s <2) (h:∀i,i <g.many→(κ i).1=U (g.lnk s i)∧(U (g.lnk s i)=true→κ i=g.cl (g.lnk s i))) (hi:i <g.many) (hu:(κ i).1=true):fX (g.sy s) g.most g.many (g.X s) κ i=g.F U (g.lnk s i):=by
 have ui:=(h i hi).1.symm.trans hu
 have ci:=(h i hi).2 ui
 have m1:0 <g.most.toNat:=by have:=ok.most;lia
 delta fX gu.F
 cases hj:g.joint (g.lnk s i) with
 |false=>
  rw [show (!false)=true from rfl,Bool.true_or]
  refine decide_eq_true ?_
  rw [List.countP_eq_zero.mpr]
  ·exact m1
  ·intro k hk q
   have hk:=List.mem_range.mp hk
   delta Om at q
   refine bC (aZ q) fun q1 q=>?_
   refine bC (aZ q) fun q2 q3=>?_
   have ck:=(h k hk).2 ((h k hk).1.symm.trans q1)
   rw [ci,ck] at q2
   rcases (qT ok hs).mp (eq_of_beq q2) with rfl |z
   ·delta O6 at q3
    have:=of_decide_eq_true q3
    lia
   ·rw [hj] at z;exact absurd z.2.1 (by decide)
 |true=>
  rw [show (!true)=false from rfl,Bool.false_or]
  congr 2
  have e:(List.range g.many).countP (fun k=>U k&&(g.joint k&&(g.keys k==g.keys (g.lnk s i)&&g.lower k (g.lnk s i))))=(List.range g.many).countP (fun k=>U (g.lnk s k)&&(g.joint (g.lnk s k)&&(g.keys (g.lnk s k)==g.keys (g.lnk s i)&&g.lower (g.lnk s k) (g.lnk s i)))):=by
   apply iT (s:=s) hs;exact rfl;exact ((C4 (b:=g.sw) ok.m fun k=>U k&&(g.joint k&&(g.keys k==g.keys (g.lnk 1 i)&&g.lower k (g.lnk 1 i)))).symm)
  rw [e]
  refine List.countP_congr fun k hk=>?_
  have hk:=List.mem_range.mp hk
  delta Om
  rw [(h k hk).1]
  cases hu:U (g.lnk s k) with
  |false=>exact Iff.rfl
  |true=>
   have ck:=(h k hk).2 hu
   rw (occs:=.all) [Bool.true_and,Bool.true_and,ci,ck]
   cases hjk:g.joint (g.lnk s k) with
   |false=>
    rw (occs:=.all) [Bool.false_and,beq_false_of_ne,Bool.false_and]
    intro q
    rcases (qT ok hs).mp q with rfl |z
    ·rw [hj] at hjk;cases hjk
    ·rw [hjk] at z;cases z.1
   |true=>
    rw (occs:=.all) [ER ok hs hj hjk,Bool.true_and]
    have:(pJ (g.X s k) (g.cl (g.lnk s k))==pJ (g.X s i) (g.cl (g.lnk s i)))=(g.keys (g.lnk s k)==g.keys (g.lnk s i)):=by
     rw [Bool.eq_iff_iff,beq_iff_eq,beq_iff_eq,qT ok hs]
     exact ⟨fun q=>q.elim (fun z=>z▸rfl) fun z=>z.2.2,fun q=>.inr ⟨hjk,hj,q⟩⟩
    rw [this]
end
noncomputable def gu.fr (g:gu) (s i:Nat):LP:=sZ (g.row s i).act (g.row s i).sho (g.row s i).joi
noncomputable def gu.S0 (g:gu) (j:Nat):LP×LP:=(g.fr 0 j,g.fr 1 (g.π j))
noncomputable def gu.links (g:gu):List (Int×Int):=(List.range g.many).map (cF g.π)
theorem Ft:∀b:Bool,∀n∈ [2,3],∀s∈ [0,1],∀j∈List.range n,pL ((List.range n).map (cF (ka b))) s (1+(j:Int))= [1+(ka b j:Int)]:=by decide+kernel
structure mq (g:gu) (c:WC) (pa:Nat→Nat→PA) (e:E2):Prop where
 ok:g.Ok
 many:c.many=g.many
 sys:∀s,s <2→(c.b s).c.sys=g.sy s∧(c.b s).c.most=g.most
 links:c.links=g.links
 hx:∀s,s <2→((List.range g.many).map fun i=>(pa s i).x).Nodup
 its:∀s,s <2→(e s).its=(List.range g.many).map (fun i=>(pa s i,ah.fresh (g.sy s) (g.row s i)))∧(e s).ns= []
section
variable {g:gu} {c:WC} {pa:Nat→Nat→PA} {e:E2}
theorem mq.ctx (H:mq g c pa e) {s:Nat} (hs:s <2) (i:Nat):(g.X s i).Ok:=by
 apply iT (s:=s) hs;exact (⟨H.ok.s0,H.ok.s1⟩);exact (⟨H.ok.s1,H.ok.s0⟩)
theorem mq.net (H:mq g c pa e):G7 c g.π pa g.X:=by
 have m:=H.many
 refine ⟨fun s hs=>⟨by rw [m];rcases H.ok.m with h |h<;>rw [h]<;>decide,by rw [m];exact H.hx s hs,fun i V=>H.ok.num s i,fun i=>?_⟩,fun j hj=>⟨?_,kX⟩,fun s j hs hj=>?_,fun s j q hs hj=>?_⟩
 ·exact H.ctx hs i
 ·rw [m] at hj ⊢;exact GA H.ok.m hj
 ·rw [H.links]
  rw [m] at hj
  refine Ft g.sw g.many (by rcases H.ok.m with h |h<;>rw [h]<;>decide) s ?_ j (List.mem_range.mpr hj)
  apply iT (s:=s) hs;exact (by decide);exact (by decide)
 ·apply iT (s:=s) hs
  ·show (⟨⟨g.sy 0,(g.row 0 j).key,(g.row 0 j).pid,q.ast⟩,_⟩:oM)=⟨⟨g.sy 0,(g.row 0 (g.π (g.π j))).key,(g.row 0 (g.π (g.π j))).pid,q.ast⟩,_⟩
   rw [kX];rfl
  ·show (⟨⟨g.sy 1,(g.row 1 j).key,(g.row 1 j).pid,q.ast⟩,_⟩:oM)=⟨⟨g.sy 1,(g.row 1 (g.π (g.π j))).key,(g.row 1 (g.π (g.π j))).pid,q.ast⟩,_⟩
   rw [kX];rfl
theorem ED:∀a s j:Bool,xd (sZ a s j)=true∧(sZ a s j).up=false:=by decide+kernel
theorem HU {Q:LP→Prop} {S:Nat→LP×LP} {s:Nat} (hs:s <2) (i:Nat) (a:Q (S (g.lnk s i)).1) (b:Q (S (g.lnk s i)).2):Q (sg g.π S s i):=iT (P:=fun s=>Q (S (g.lnk s i)).1→Q (S (g.lnk s i)).2→Q (sg g.π S s i)) hs (fun a V=>a) (fun V b=>b) a b
theorem Ew {F:Nat→Bool} {s:Nat} (hs:s <2) (i:Nat):sf g.π F s i=F (g.lnk s i):=by
 apply iT (s:=s) hs;exact rfl;exact rfl
theorem K2 {s:Nat} (hs:s <2) (i:Nat):sg g.π g.S0 s i=g.fr s i:=by
 apply iT (s:=s) hs;exact rfl;exact (by show g.fr 1 (g.π (g.π i))=_;rw [kX])
theorem mq.gi (H:mq g c pa e) (F:Nat→Bool):GI c g.π pa g.X 2 F g.S0 e:=fun s hs=>by
 have fo:=fun i=>ED (g.row s i).act (g.row s i).sho (g.row s i).joi
 have E:fR c.many (pa s) (g.X s) (c.b s).c.sys (c.b s).c.most (fun V=>true) (g.fr s) (e s):=by
  refine bC (H.its s hs) fun h1 h2=>?_
  refine ⟨(cb (fun V=>none) ?_ (fun i hi hu=>?_) (fun i hi V=>rfl)),h2▸⟨.nil,.nil⟩,h2▸Nat.zero_le _,fun i V=>(fc (f:=true) (fo i).1).1.ast,fun i hi hu=>?_⟩
  ·rw [h1,H.many]
   delta lst
   refine List.map_congr_left fun i V=>congrArg (Prod.mk (pa s i)) ?_
   show _=Mine.mk (g.X s i) (g.fr s i) (eS (g.fr s i) true) none
   delta eS
   rw [show (g.fr s i).up=false from (fo i).2];rfl
  ·exact absurd ((fo i).2.symm.trans hu) (by decide)
  ·exact absurd ((fo i).2.symm.trans hu) (by decide)
 delta SI
 rw [if_pos rfl]
 refine Pc (fun i hi=>?_) _ (E.congr fun i hi=>K2 hs i)
 rw [K2 hs];exact (fo i).1
theorem NP {f f':Bool} {l:LP} {o:Option MA}:HG 2 f l o=HG 2 f' l o:=by
 cases o with
 |none=>rfl
 |some m=>
  show hr 2 f l m=hr 2 f' l m
  delta hr
  rw [if_pos rfl,if_pos rfl]
theorem Qv {f f':Bool}:∀(k:Nat) {L:LP×LP},xl 2 f k L=xl 2 f' k L
 |0,_=>rfl
 |k+1,L=>by
  have e:rl 2 f L=rl 2 f' L:=by delta rl;rw [NP (f:=f) (f':=f') (l:=dp L.1),NP (f:=f) (f':=f') (l:=dp L.2)]
  unfold xl
  rw [e]
  cases j8 L with
  |true=>rfl
  |false=>
   cases rl 2 f' L with
   |none=>rfl
   |some L'=>exact Qv k
theorem vC {o:Option (LP×LP)} {p:LP×LP→Bool} (h:Mz o p=true):∃L,o=some L∧p L=true:=by
 cases o with
 |none=>cases h
 |some L=>exact a9 L rfl h
structure KL (g:gu) (j:Nat) (L1:LP×LP) (f:Bool) (L2:LP×LP):Prop where
 p:PN f L1=some L2
 gd:oD (g.talk j) (g.joint j) f L2=true
 t:∃L3 L4,f9 (K7 f true) L2=some L3∧CY true 6 L3=some L4∧oD (g.talk j) (g.joint j) true L4=true
 f:f=false→∃L3 L4,f9 (K7 f f) L2=some L3∧CY f 6 L3=some L4∧oD (g.talk j) (g.joint j) f L4=true
 d:∃L3 L4,f9 (DH true) L2=some L3∧CY true 6 L3=some L4∧Bz L4=true
theorem CW {g:gu} {j:Nat} {L1:LP×LP} {f:Bool} (h:xh (g.talk j) (g.joint j) L1 f=true):∃L2,KL g j L1 f L2:=by
 refine ab (vC h) fun L2 h1 h=>?_
 refine bC (aZ h) fun h2 h=>?_
 refine bC (aZ h) fun h3 h=>?_
 refine bC (aZ h) fun h4 h5=>?_
 have lS:∀{o:Option (LP×LP)} {q:LP×LP→Option (LP×LP)} {p:LP×LP→Bool},Mz (o.bind q) p=true→∃L3 L4,o=some L3∧q L3=some L4∧p L4=true:=fun {o q p} h=>by
  refine ab (vC h) fun L4 a b=>?_
  refine ab (dG a) fun L3 c d=>?_
  exact hZ L3 L4 c d b
 exact ⟨L2,h1,h2,lS h3,fun q=>lS ((Bool.or_eq_true_iff.mp h4).resolve_left (by rw [q];decide)),lS h5⟩
structure Qc (g:gu) (j:Nat) (U L1:LP×LP):Prop where
 u:f9 HD (g.S0 j)=some U
 x:xl 2 true 8 U=some L1
 c1:cls L1.1=g.cl j
 c2:cls L1.2=g.cl j
 t:xh (g.talk j) (g.joint j) L1 true=true
 f:g.joint j=true→xh (g.talk j) (g.joint j) L1 false=true
theorem EV (g:gu) (j:Nat):∃U L1,Qc g j U L1:=by
 refine ab (vC (IY (g.row 0 j).act (g.row 0 j).sho (g.row 0 j).joi (g.row 1 (g.π j)).act (g.row 1 (g.π j)).sho (g.row 1 (g.π j)).joi)) fun L1 h1 h=>?_
 refine ab (dG h1) fun U u1 u2=>?_
 refine bC (aZ h) fun a h=>?_
 refine bC (aZ h) fun b h=>?_
 refine bC (aZ h) fun t f=>?_
 exact ⟨U,L1,u1,u2,of_decide_eq_true a,of_decide_eq_true b,t,fun q=>(Bool.or_eq_true_iff.mp f).resolve_left (by
  have q:((g.row 0 j).joi&&(g.row 1 (g.π j)).joi&&((g.row 0 j).act||(g.row 1 (g.π j)).act))=true:=q
  rw [q];decide)⟩
structure r6 (g:gu) (U F:Nat→Bool) (s:Nat) (x:EI) (B:Nat→Int):Prop where
 len:x.its.length=g.many
 at':∀i,i <g.many→∃a,x.its[i]? =some a∧a.2.row.number=1+(i:Int)∧(U (g.lnk s i)=true→a.2.bundle=some (B i)∧a.2.mux=if F (g.lnk s i) then .dis else .wai)∧(U (g.lnk s i)=false→a.2.bundle=none)
 eq:∀i k,i <g.many→k <g.many→U (g.lnk s i)=true→U (g.lnk s k)=true→(B i=B k↔i=k∨(g.joint (g.lnk s i)=true∧g.joint (g.lnk s k)=true∧g.keys (g.lnk s i)=g.keys (g.lnk s k)))
theorem r9 (ok:g.Ok) {s i:Nat} (hi:i <g.many):g.lnk s i <g.many:=by
 match s with
 |0=>exact hi
 |s+1=>exact GA ok.m hi
theorem B9 (H:mq g c pa e) {e':E2} {J:Int} (hJ:J≠2) {U F:Nat→Bool} {S:Nat→LP×LP} (G:GI c g.π pa g.X J F S e') (h1:∀j,j <g.many→U j=true→oD (g.talk j) (g.joint j) (F j) (S j)=true) (h2:∀j,j <g.many→U j=false→Bz (S j)=true) {s:Nat} (hs:s <2):∃B,r6 g U F s (e' s) B:=by
 obtain ⟨⟨b,e1,e2,e3⟩,ok,ln,ast,hf⟩:=G.ge hJ s hs
 rw [H.many] at e1 e2 e3
 have up:∀i,i <g.many→U (g.lnk s i)=true→(sg g.π S s i).up=true∧cls (sg g.π S s i)=g.cl (g.lnk s i)∧(sg g.π S s i).mux=if F (g.lnk s i) then .dis else .wai:=fun i hi hu=>by
  have h:=h1 _ (r9 H.ok hi) hu
  refine bC (aZ h) fun a h=>?_
  refine bC (aZ h) fun b h=>?_
  refine bC (aZ h) fun c' d=>?_
  exact HU (Q:=fun l=>l.up=true∧cls l=g.cl (g.lnk s i)∧l.mux=if F (g.lnk s i) then .dis else .wai) hs i ⟨congrArg (·.1) (of_decide_eq_true a),of_decide_eq_true a,of_decide_eq_true c'⟩ ⟨congrArg (·.1) (of_decide_eq_true b),of_decide_eq_true b,of_decide_eq_true d⟩
 have dn:∀i,i <g.many→U (g.lnk s i)=false→(sg g.π S s i).up=false:=fun i hi hu=>by
  have h:=h2 _ (r9 H.ok hi) hu
  refine bC (aZ h) fun a b=>?_
  rw [Bool.not_eq_true'] at a b
  exact HU (Q:=fun l=>l.up=false) hs i a b
 have gr:∀i,i <g.many→U (g.lnk s i)=true→∃k,b i=some k∧aX (e' s).ns (pJ (g.X s i) (g.cl (g.lnk s i)))=some k:=fun i hi hu=>by
  refine cB (up i hi hu) fun a1 a2 V=>?_
  rw [←a2,←fg];exact e2 i hi a1
 refine ⟨fun i=>(b i).getD 0,by rw [e1];exact vq,fun i hi=>yJ _ (by rw [e1];exact rW hi) (H.ok.num s i) (fun hu=>⟨?_,(up i hi hu).2.2⟩) (fun hu=>e3 i hi (dn i hi hu)),fun i k hi hk ui uk=>?_⟩
 ·refine ab (gr i hi hu) fun k b1 V=>?_
  show b i=some ((b i).getD 0)
  rw [b1];rfl
 ·refine ab (gr i hi ui) fun x x1 x2=>?_
  refine ab (gr k hk uk) fun y y1 y2=>?_
  rw [x1,y1,←qT H.ok hs]
  show x=y↔_
  constructor
  ·rintro rfl;exact yY ok x2 y2
  ·intro q
   rw [q,y2] at x2
   exact (Option.some.inj x2).symm
end
section
variable {g:gu} {c:WC} {pa:Nat→Nat→PA} {e:E2}
theorem QD (H:mq g c pa e) (F:Nat→Bool) {U:Nat→LP×LP} (hU:∀j,f9 HD (g.S0 j)=some (U j)):∀m,m≤g.many→∃en:Nat→E2,en 0=e∧(∀j,j <m→∃x:Nat→EI,(∀s,s <2→iG true c (en j) (cF g.π j) s=some (x s))∧en (j+1)=eK (en j) x 2)∧GI c g.π pa g.X 2 F (fun j=>if j <m then U j else g.S0 j) (en m)
 |0,_=>cb (fun V=>e) rfl (fun j hj=>absurd hj (Nat.not_lt_zero j)) (H.gi F)
 |m+1,hm=>by
  obtain ⟨en,h0,h1,G⟩:=QD H F hU m (Nat.le_of_succ_le hm)
  have hS:(if m <m then U m else g.S0 m)=g.S0 m:=if_neg (Nat.lt_irrefl m)
  have hu:=ff (hU m)
  obtain ⟨x,x1,x2⟩:=OU H.net G (j:=m) (by rw [H.many];exact hm) (a:=(U m).1) (b:=(U m).2) (by rw [hS];exact hu.1) (by rw [hS];exact hu.2)
  refine cb (fun i=>if i≤m then en i else eK (en m) x 2) ((if_pos (Nat.zero_le m)).trans h0) (fun j hj=>?_) ?_
  ·by_cases q:j=m
   ·subst q
    refine a9 x ?_ ?_
    ·dsimp only
     rw [if_pos (Nat.le_refl j)];exact x1
    ·dsimp only
     rw [if_pos (Nat.le_refl j),if_neg (Nat.not_succ_le_self j)]
   ·have hj':j <m:=Nat.lt_of_le_of_ne (Nat.le_of_lt_succ hj) q
    obtain ⟨y,y1,y2⟩:=h1 j hj'
    refine a9 y ?_ ?_
    ·dsimp only
     rw [if_pos (Nat.le_of_lt hj')];exact y1
    ·dsimp only
     rw [if_pos (Nat.le_of_lt hj'),if_pos (show j+1≤m from hj')];exact y2
  ·dsimp only
   rw [if_neg (Nat.not_succ_le_self m)]
   intro s hs
   refine (x2 s hs).congr fun i V=>?_
   have:∀j,(fun j=>if j <m+1 then U j else g.S0 j) j=eh (fun j=>if j <m then U j else g.S0 j) m ((U m).1,(U m).2) j:=fun j=>by
    dsimp only
    by_cases q:j=m
    ·subst q;rw [bq,if_pos (Nat.lt_succ_self j)]
    ·rw [bo q]
     by_cases z:j <m
     ·rw [if_pos z,if_pos (Nat.lt_succ_of_lt z)]
     ·rw [if_neg z,if_neg fun y=>z (Nat.lt_of_le_of_ne (Nat.le_of_lt_succ y) q)]
   rw [funext this]
theorem MV {U V0:Nat→Bool} (h:∀k,V0 k=true→U k=true) {j:Nat} (hf:g.F U j=true):g.F V0 j=true:=by
 delta gu.F at hf ⊢
 refine (Bool.or_eq_true_iff.mp hf).elim (fun q=>by rw [q];rfl) fun q=>Bool.or_eq_true_iff.mpr (.inr (decide_eq_true ?_))
 refine Nat.lt_of_le_of_lt (List.countP_mono_left fun k V q=>?_) (of_decide_eq_true q)
 refine bC (aZ q) fun a b=>?_
 rw [h k a];exact b
theorem Hk {t j f:Bool} {L:LP×LP} (h:oD t j f L=true):cls L.1=(true,t,!j)∧cls L.2=(true,t,!j):=by
 refine bC (aZ h) fun a h=>?_
 exact ⟨of_decide_eq_true a,of_decide_eq_true (aZ h).1⟩
theorem Jc (H:mq g c pa e):∃(en:Nat→E2) (e1:E2),en 0=e∧(∀j,j <g.many→∃x:Nat→EI,(∀s,s <2→iG true c (en j) (cF g.π j) s=some (x s))∧en (j+1)=eK (en j) x 2)∧
  fv c 6 (en g.many)=some e1∧(∀s,s <2→∃B,r6 g (fun V=>true) (g.F fun V=>true) s (e1 s) B)∧
  ∀d,d <g.many→∃(x:Nat→EI) (e3:E2),(∀s,s <2→iG false c e1 (cF g.π d) s=some (x s))∧fv c 6 (eK e1 x 2)=some e3∧∀s,s <2→∃B,r6 g (fun k=>decide (k≠d)) (g.F fun k=>decide (k≠d)) s (e3 s) B:=by
 refine cQ (Classical.axiomOfChoice fun j=>EV g j) fun U hU=>?_
 refine cQ (Classical.axiomOfChoice hU) fun L1 hL=>?_
 have F0:∀j,g.F (fun V=>true) j=false→g.joint j=true:=fun j q=>by
  delta gu.F at q
  have:=(Bool.or_eq_false_iff.mp q).1
  rw [Bool.not_eq_false'] at this;exact this
 refine cQ (Classical.axiomOfChoice (r:=fun j L2=>KL g j (L1 j) (g.F (fun V=>true) j) L2) fun j=>CW (by
  cases q:g.F (fun V=>true) j with
  |true=>exact (hL j).t
  |false=>exact (hL j).f (F0 j q))) fun L2 h2=>?_
 refine ar (QD H (g.F fun V=>true) (fun j=>(hL j).u) g.many (Nat.le_refl _)) fun en n0 n1 G=>?_
 have N:=H.net
 have lm:∀{s i},i <c.many→g.lnk s i <g.many:=fun {s i} hi=>r9 H.ok (by rw [←H.many];exact hi)
 have kp:∀{S:Nat→LP×LP} {s:Nat},s <2→∀i,(cls (S (g.lnk s i)).1=g.cl (g.lnk s i)∧cls (S (g.lnk s i)).2=g.cl (g.lnk s i))→cls (sg g.π S s i)=g.cl (g.lnk s i):=fun {S s} hs i h=>by
  exact HU (Q:=fun l=>cls l=g.cl (g.lnk s i)) hs i h.1 h.2
 refine ab (Gx (F:=g.F fun V=>true) (S1:=L1) (S':=L2) N G (fun j hj=>by
  show xl 2 (g.F (fun V=>true) j) 8 (if j <g.many then U j else g.S0 j)=_
  rw [if_pos (by rw [←H.many];exact hj),Qv (f':=true)];exact (hL j).x) (fun s hs i hi hu=>by
  rw [(H.sys s hs).1,(H.sys s hs).2,H.many,Ew hs]
  refine uR H.ok hs (fun k hk=>?_) (by rw [←H.many];exact hi) hu
  have:=kp hs k ⟨(hL (g.lnk s k)).c1,(hL (g.lnk s k)).c2⟩
  exact ⟨congrArg (·.1) this,fun V=>this⟩) fun j V=>(h2 j).p) fun e1 p1 G1=>?_
 refine ⟨en,e1,n0,n1,p1,fun s hs=>B9 H (by decide) G1 (fun j V V=>(h2 j).gd) (fun j V q=>by cases q) hs,fun d hd=>?_⟩
 have FF:∀k,g.F (fun V=>true) k=true→g.F (fun k=>decide (k≠d)) k=true:=fun k=>MV fun V V=>rfl
 obtain ⟨F',hF,hFd⟩:∃F':Nat→Bool,(∀k,k≠d→F' k=g.F (fun k=>decide (k≠d)) k)∧F' d=true:=a9 (fun k=>if k=d then true else g.F (fun k=>decide (k≠d)) k) (fun k q=>if_neg q) (if_pos rfl)
 have ex:∀k,∃L3 L4,(k≠d→f9 (K7 (g.F (fun V=>true) k) (F' k)) (L2 k)=some L3∧oD (g.talk k) (g.joint k) (F' k) L4=true)∧(k=d→f9 (DH (F' k)) (L2 k)=some L3∧Bz L4=true)∧CY (F' k) 6 L3=some L4:=fun k=>by
  by_cases q:k=d
  ·subst q
   refine cH ((h2 k).d) fun L3 L4 a b c'=>?_
   refine hZ L3 L4 (fun z=>absurd rfl z) (fun V=>⟨?_,c'⟩) ?_
   ·rw [hFd];exact a
   ·rw [hFd];exact b
  ·cases qF:F' k with
   |true=>
    refine cH ((h2 k).t) fun L3 L4 a b c'=>?_
    exact hZ L3 L4 (fun V=>⟨a,c'⟩) (fun z=>absurd z q) b
   |false=>
    have f0:g.F (fun V=>true) k=false:=by
     cases z:g.F (fun V=>true) k with
     |false=>rfl
     |true=>
      have:=FF k z
      rw [←hF k q,qF] at this;cases this
    refine cH ((h2 k).f f0) fun L3 L4 a b c'=>?_
    rw [f0] at a b c' ⊢
    exact hZ L3 L4 (fun V=>⟨a,c'⟩) (fun z=>absurd z q) b
 refine cQ (Classical.axiomOfChoice ex) fun L3 ex=>?_
 refine cQ (Classical.axiomOfChoice ex) fun L4 ex=>?_
 have ast:∀k,k <c.many→(L2 k).1.ast <256∧(L2 k).2.ast <256:=fun k hk=>by
  have a:=G1.ge (by decide) 0 (by decide)
  have b:=G1.ge (by decide) 1 (by decide)
  refine ⟨a.ast k hk,?_⟩
  have:=b.ast (g.π k) (N.pi k hk).1
  rwa [show sg g.π L2 1 (g.π k)=(L2 k).2 from congrArg (fun z=>(L2 z).2) kX] at this
 have c3:∀k,k <c.many→k≠d→cls (L3 k).1=g.cl k∧cls (L3 k).2=g.cl k:=fun k hk q=>by
  refine bC (ff ((ex k).1 q).1) fun a b=>?_
  refine bC (dU a) fun V a=>?_
  refine bC (dU b) fun V b=>?_
  refine bC (Hk (h2 k).gd) fun x y=>?_
  rw [←a,←b,←fV,←fV]
  exact ⟨(fM (ast k hk).1).2.trans x,(fM (ast k hk).2).2.trans y⟩
 have d3:(L3 d).1.up=false∧(L3 d).2.up=false:=by
  refine bC (ff ((ex d).2.1 rfl).1) fun a b=>?_
  refine bC (dU a) fun a1 a=>?_
  refine bC (dU b) fun b1 b=>?_
  refine bC (aZ a1) fun V a1=>?_
  refine bC (aZ b1) fun V b1=>?_
  rw [←a,←b,←fV,←fV]
  exact ⟨congrArg (·.1) (fM (of_decide_eq_true (aZ a1).1)).2,congrArg (·.1) (fM (of_decide_eq_true (aZ b1).1)).2⟩
 refine ab (Iq (F':=F') (S':=L3) N G1 (j:=d) (by rw [H.many];exact hd) (fun k z=>by
  by_cases q:k=d
  ·rw [q];exact hFd
  ·rw [hF k q];exact FF k z) rfl (fun k V q=>((ex k).1 q).1) ((ex d).2.1 rfl).1 (fun s hs i hi hu=>by
  rw [(H.sys s hs).1,(H.sys s hs).2,H.many,Ew hs]
  have hk:∀k,k <g.many→(cls (sg g.π L3 s k)).1=decide (g.lnk s k≠d)∧(decide (g.lnk s k≠d)=true→cls (sg g.π L3 s k)=g.cl (g.lnk s k)):=fun k hk=>by
   by_cases q:g.lnk s k=d
   ·refine ⟨?_,fun z=>absurd q (of_decide_eq_true z)⟩
    rw [decide_eq_false (fun z=>z q)]
    exact HU (Q:=fun l=>(cls l).1=false) hs k (q▸d3.1) (q▸d3.2)
   ·have:=kp hs k (c3 (g.lnk s k) (by rw [H.many];exact r9 H.ok hk) q)
    exact ⟨(congrArg (·.1) this).trans (decide_eq_true q).symm,fun V=>this⟩
  have hi:i <g.many:=by rw [←H.many];exact hi
  have ne:g.lnk s i≠d:=of_decide_eq_true ((hk i hi).1.symm.trans hu)
  rw [hF _ ne]
  exact uR H.ok hs hk hi hu)) fun x x1 G2=>?_
 refine ab (Ep N 6 G2 fun k V=>(ex k).2.2) fun e3 p3 G3=>?_
 refine hZ x e3 x1 p3 (fun s hs=>?_)
 refine cQ (B9 (U:=fun k=>decide (k≠d)) (F:=F') H (by decide) G3 (fun j V q=>((ex j).1 (of_decide_eq_true q)).2) (fun j V q=>((ex j).2.1 (Decidable.not_not.mp (of_decide_eq_false q))).2) hs) fun B V0=>?_
 exact ⟨B,V0.len,fun i hi=>by
  refine cY (V0.at' i hi) fun a a1 a2 a3 a4=>?_
  exact yJ a a1 a2 (fun q=>by rw [←hF _ (of_decide_eq_true q)];exact a3 q) a4,V0.eq⟩
end
noncomputable abbrev Gz (e:Expr) (pos:Pos) (env:Env):Sem Value:=do let x←eval e env;standAt pos;Pure.pure x
theorem Dv (h:bg w A (eval e env) s R):bg w A (Gz e pos env) s R:=fun Q E q=>wpAny_bind (h _ _ fun v h1 t1 z=>wpAny_bind (wpAny_standAt (wpAny_pure (q _ _ _ z))))
theorem tX {R:List (Value×Value)→Heap→Prop} (h:R [] s.heap):bg w A (evalPairs []) s R:=fun Q E q=>by unfold evalPairs;exact wpAny_pure (q _ _ s.toks h)
theorem rJ {hO:Heap} {tO:Nat} {k v:Sem Value} {rest:List (Sem Value×Sem Value)} {R:List (Value×Value)→Heap→Prop} (h:bg w A k (sh s hO tO) fun kv h1=>∀t1,bg w A v (sh s h1 t1) fun vv h2=>∀t2,bg w A (evalPairs rest) (sh s h2 t2) fun vs h3=>R ((kv,vv)::vs) h3):bg w A (evalPairs ((k,v)::rest)) (sh s hO tO) R:=fun Q E q=>by
 unfold evalPairs
 refine wpAny_bind (h _ _ fun kv h1 t1 z=>wpAny_bind (wpAny_holding (z t1 _ _ fun vv h2 t2 z2=>wpAny_bind (wpAny_holding (z2 t2 _ _ fun vs h3 t3 z3=>wpAny_pure (q _ _ _ z3))))))
theorem CE (h:bg w A (spliced (backTo pos (starEach es env))) s fun vs h1=>vs.length≤1000∧∃ds,bp h1 vs ds∧∀h2 a,Sub h1 h2→h1.get? a=none→cN h2 a ds→R (.ref a) h2):bg w A (eval (.List es pos) env) s R:=by
 intro Q E q
 refine List_ (h _ _ fun vs h1 t1=>rh fun hl ds rd z=>?_)
 exact wpAny_newList (q _ _ _ (z _ _ (Sub.push _) (aA (Nat.le_refl _)) (fZ vs 0 (Heap.get?_push_size _ rfl) (rd.mono (Sub.push _).t)))) (by first |(refine bR (k:=2000) ?_;exact Nat.le_trans hl lr) |(rw [sizeLine_eq];omega))
variable {many:Nat}
theorem yR {many:Nat}:(ed many).Pairwise (· < ·):=by
 delta ed
 rw [List.pairwise_map]
 exact List.pairwise_lt_range.imp fun h=>by omega
section
variable {es:List D}
theorem Il (R:Rm n A) (h1:Ev w A env h0 m e1 d) (h2:su w A env h0 m e2 ds) (f1:D.flats 9 ds=true) (f2:d.flat 9=true) (hm:autoParam (behindInMarks .In e2=false) aW):w9 w A env h0 m (.Compare e1 [.In] [e2] pos) (gx d ds):=by
 intro s k Q E q
 refine wpAny_isTrue_Compare1 (h1 s k _ _ fun v1 g1 t1=>av fun k1 r1=>?_) hm
 refine h2 (sh s g1 t1) (k.step k1) _ _ fun v2 g2 t2=>aM fun k2 a ea L V=>?_
 refine gV R L f1 f2 (sh s g2 t2) v1 v2 Sub.rfl' (r1.mono k2.t) (ea▸ .ref a) _ _ fun v3 g3 t3=>av fun k3 r3=>?_
 rw [r3]
 exact wpAny_truthy_bool (q _ g3 t3 ⟨(k1.trans k2).trans k3,rfl⟩)
theorem Jy (R:Rm n A) (h1:su w A env h0 m e1 ds) (h2:su w A env h0 m e2 es) (f1:D.flats 9 ds=true) (f2:D.flats 9 es=true) (hm:autoParam (behindInMarks .NotEq e2=false) aW):w9 w A env h0 m (.Compare e1 [.NotEq] [e2] pos) (!lp ds es):=by
 intro s k Q E q
 refine wpAny_isTrue_Compare1 (h1 s k _ _ fun v1 g1 t1=>aM fun k1 a ea L1 V=>?_) hm
 refine h2 (sh s g1 t1) (k.step k1) _ _ fun v2 g2 t2=>aM fun k2 b eb L2 V=>?_
 subst ea eb
 refine cQ ((L1.sub k2).reads f1) fun as ra=>?_
 refine cQ (L2.reads f2) fun bs rb=>?_
 exact SeqAt.compareNe_reads ra rb (iR f1).1 (iR f2).1 (by have:=R.u;have:=(iR f1).2;omega) (wpAny_truthy_bool (q _ g2 t2 ⟨k1.trans k2,rfl⟩))
end
noncomputable def gN (its:List af) (bd:Option Int):List Int:=(its.filter (LW bd)).map fun a=>a.2.row.number
theorem wq {i:Int} {is:List Int}:gx (.int i) (is.map D.int)=is.contains i:=vR.trans (List.contains_eq_mem ..).symm
noncomputable def mP (its:List af) (a:af):Option Int:=if a.2.bundle.isSome&&(gN its a.2.bundle).contains a.2.row.number then a.2.bundle else none
theorem zQ (o:Option Int):(!(c5 o).isNone)=o.isSome:=by cases o<;>rfl
theorem ib {h:Heap} {v:Value} {a:Addr} (r:RD h v (.ref a)):v= .ref a:=by cases r;rfl
theorem zX (R:Rm n A) (P:cA w h0) (hg:env.globals=mainGlobals) (hb:env.builtins=builtinsNs) (he:Ev w A env h0 m e (.ref l)) (L:cN h0 l ds) (ok:dO ds) (h3:ds.length≤3) (hu:A.units+50 <cLine)
  (hk:autoParam (env.scope.kind= .function) aF) (hx:autoParam (env.kindOf "sorted"=some .globalImplicit) aG) (hea:autoParam (starEach [e] env=(false,eval e env)::starEach [] env) aR):su w A env h0 m (.Call (.Name "sorted" p1) [e] [] pos) (az ds ds):=by
 intro s ha
 refine d7 ha P hg hb (iK _) boot_sorted (fun t=>bS (R0:=fun v h1=>Sub s.heap h1∧RD h1 v (.ref l)) (he {s with toks:=t} ha) (fun v h1=>av fun k1 r1 t1=>?_) hea) (by decide) hk hx (by decide) hea (by rfl)
 rw [ib r1]
 exact (ji hu (vW (L.sub (ha.sub.trans k1)) (Nat.le_trans h3 lr)) ok h3).mono fun v h2=>aM fun k2 a e2 L2 n2=>fA (k1.trans k2) a e2 L2 (aS n2 k1)
theorem yg (R:Rm n A) (P:cA w h0) (hg:env.globals=mainGlobals) (hb:env.builtins=builtinsNs) (he:su w A env h0 m e ds) (ok:dO ds) (h3:ds.length≤3) (hu:A.units+50 <cLine)
  (hk:autoParam (env.scope.kind= .function) aF) (hx:autoParam (env.kindOf "sorted"=some .globalImplicit) aG) (hea:autoParam (starEach [e] env=(false,eval e env)::starEach [] env) aR):su w A env h0 m (.Call (.Name "sorted" p1) [e] [] pos) (az ds ds):=by
 intro s ha
 refine d7 ha P hg hb (iK _) boot_sorted (fun t=>bS (R0:=fun v h1=>Sub s.heap h1∧∃a,v= .ref a∧cN h1 a ds) ((he {s with toks:=t} ha).mono fun v h1=>aM fun k a e L V=>Oo k a e L) (fun v h1=>rh fun k1 a e1 L1 t1=>?_) hea) (by decide) hk hx (by decide) hea (by rfl)
 rw [e1]
 exact (ji hu (vW L1 (Nat.le_trans h3 lr)) ok h3).mono fun v h2=>aM fun k2 a e2 L2 n2=>fA (k1.trans k2) a e2 L2 (aS n2 k1)
noncomputable def cL:tx (Int×Int):=⟨aw,fun k=>rfl,fun k=>⟨_,rfl⟩,fun x y e=>pv e⟩
structure FO (w:World) (h:Heap) (rl:Addr) (fd:Nat→Addr) (rs:Nat→List RI):Prop where
 l:cN h rl [.ref (fd 0),.ref (fd 1)]
 d:∀s,s <2→nh (intKind pw w) h (fd s) (cG (rs s))
 r:∀s,s <2→s6 w h (rs s)
structure rX (rs:Nat→List RI) (q:Int×Int→Nat→RI) (l:Int×Int):Prop where
 m:∀s,s <2→q l s∈rs s
 a:∀s,s <2→fu (cG (rs s)) (lk l s)=some (.ref (q l s).rx)
noncomputable def pP (q:Int×Int→Nat→RI) (l:Int×Int):Bool:=(q l 0).row.joi&&((q l 1).row.joi&&((q l 0).row.act||(q l 1).row.act))
noncomputable def iU (q:Int×Int→Nat→RI) (l:Int×Int):Int×Int:=((q l 0).row.key,(q l 1).row.key)
section
variable {q:Int×Int→Nat→RI}
theorem Cd {K:Type} [DecidableEq K] {l:List K} {k:K}:l.contains k=true↔k∈l:=List.contains_iff_mem
structure qp (q:Int×Int→Nat→RI) (ls:List (Int×Int)) (es:List ((Int×Int)×Addr×List D)):Prop where
 of:∀x∈es,x.2.2=(ls.filter fun l=>pP q l&&iU q l==x.1).map au∧x.2.2≠ []
 al:∀l∈ls,pP q l=true→iU q l∈es.map (·.1)
set_option tactic.hygienic true in
theorem qp.snoc {ls:List (Int×Int)} {l:Int×Int} {es:List ((Int×Int)×Addr×List D)} {y:Addr} (G:qp q ls es) (nd:(es.map (·.1)).Nodup) (hj:pP q l=true):qp q (ls++ [l]) (v9 (mY es (iU q l) y) (iU q l) (au l)):=by
 have kk:∀k,k∈es.map (·.1)∨k=iU q l→k∈(v9 (mY es (iU q l) y) (iU q l) (au l)).map (·.1):=fun k h=>by
  have h1:(v9 (mY es (iU q l) y) (iU q l) (au l)).map (·.1)=(mY es (iU q l) y).map (·.1):=by
   unfold v9
   rw [List.map_map]
   refine List.map_congr_left fun x V=>?_
   show (if x.1=iU q l then _ else x).1=x.1
   split<;>rfl
  rw [h1]
  unfold mY
  split
  ·rename_i hc
   exact h.elim id fun z=>z▸Cd.mp hc
  ·rw [List.map_append]
   exact h.elim (List.mem_append_left _) fun z=>List.mem_append_right _ (by rw [z];exact List.mem_singleton_self _)
 have nn:iU q l∉es.map (·.1)→(ls.filter fun z=>pP q z&&iU q z==iU q l)= []:=fun hc=>by
  rw [List.filter_eq_nil_iff]
  intro z hz p
  refine bC (aZ p) fun a b=>?_
  have:=G.al z hz a
  rw [eq_of_beq b] at this
  exact hc this
 refine ⟨fun x hx=>?_,fun z hz p=>?_⟩
 ·unfold v9 at hx
  refine ab (List.mem_map.mp hx) fun x0 h0 zr39=>?_;subst zr39
  have G0:x0.2.2=(ls.filter fun z=>pP q z&&iU q z==x0.1).map au∧(x0.2.2≠ []∨x0.1=iU q l):=by
   unfold mY at h0
   split at h0
   ·exact ⟨(G.of x0 h0).1,.inl (G.of x0 h0).2⟩
   ·rename_i hc
    have hc:iU q l∉es.map (·.1):=fun z=>hc (Cd.mpr z)
    rcases List.mem_append.mp h0 with h |h
    ·exact ⟨(G.of x0 h).1,.inl (G.of x0 h).2⟩
    ·rw [List.mem_singleton.mp h]
     exact ⟨by rw [nn hc];rfl,.inr rfl⟩
  rw [List.filter_append,List.map_append]
  by_cases hk:x0.1=iU q l
  ·rw [if_pos hk]
   refine ⟨?_,by simp⟩
   show x0.2.2++ [au l]=_
   rw [G0.1]
   have:([l].filter fun z=>pP q z&&iU q z==x0.1)= [l]:=by
    rw [List.filter_cons,hj,hk]
    simp
   dsimp only
   rw [this];rfl
  ·rw [if_neg hk]
   refine ⟨?_,G0.2.resolve_right hk⟩
   have:([l].filter fun z=>pP q z&&iU q z==x0.1)= []:=by
    rw [List.filter_cons]
    have:(iU q l==x0.1)=false:=beq_false_of_ne fun z=>hk z.symm
    rw [this,Bool.and_false];rfl
   rw [this,List.map_nil,List.append_nil];exact G0.1
 ·rcases List.mem_append.mp hz with h |h
  ·exact kk _ (.inl (G.al z h p))
  ·rw [List.mem_singleton.mp h];exact kk _ (.inr rfl)
theorem qp.skip {ls:List (Int×Int)} {l:Int×Int} {es:List ((Int×Int)×Addr×List D)} (G:qp q ls es) (hj:pP q l=false):qp q (ls++ [l]) es:=by
 refine ⟨fun x hx=>?_,fun z hz p=>?_⟩
 ·rw [List.filter_append,show ([l].filter fun z=>pP q z&&iU q z==x.1)= [] by rw [List.filter_cons,hj];rfl,List.append_nil]
  exact G.of x hx
 ·rcases List.mem_append.mp hz with h |h
  ·exact G.al z h p
  ·rw [List.mem_singleton.mp h,hj] at p;cases p
end
section
variable {e:E2} {q:Int×Int→Nat→RI}
noncomputable def lh (q:Int×Int→Nat→RI) (ls:List (Int×Int)):List (Int×Int):=ls.filter fun l=>!pP q l
theorem oL {ls:List (Int×Int)}:dO (ls.map au):=by
 refine ⟨fun d hd e he=>?_,.inr (.inl fun d hd=>?_)⟩
 ·refine ab (List.mem_map.mp hd) fun a V zr40=>?_;subst zr40
  refine ab (List.mem_map.mp he) fun b V zr41=>?_;subst zr41
  rfl
 ·refine ab (List.mem_map.mp hd) fun a V zr42=>?_;subst zr42
  exact J9 _ _ rfl
theorem Mw {es:List ((Int×Int)×Addr×List D)} {k:Int×Int} {y:Addr} {d:D}:(v9 (mY es k y) k d).length≤es.length+1:=by
 delta v9 mY
 rw [List.length_map]
 split
 ·exact Nat.le_succ _
 ·rw [List.length_append];exact Nat.le_refl _
theorem Ge {l:Int×Int}:pP q l=((q l 0).row.joi&&((q l 1).row.joi&&(((q l 0).row.act||((q l 1).row.act||false))&&true))):=by delta pP;rw [Bool.or_false,Bool.and_true]
theorem s8 {ls:List (Int×Int)} {l:Int×Int}:lh q (ls++ [l])=lh q ls++if pP q l then [] else [l]:=by
 delta lh
 rw [List.filter_append,List.filter_cons]
 cases pP q l<;>rfl
end
theorem M9 (P:Params):nsIn (K P) mainGlobals "set"=some none:=by kernel_rfl
theorem yD {h:Heap} {b:Int}:∀{k:Nat} {vs:List Value},bp h vs (List.replicate k (D.int b))→IntsAre vs (List.replicate k b)
 |0,_,r=>by cases r;exact .nil
 |k+1,_,r=>by
  cases r with |cons r1 r=>
  cases r1
  exact .cons b _ (yD r)
theorem BD {b:Int} {val:Nat→Int} {n:Nat} (hv:∀j,j <n→val j=b):∀i,i <n→(firstMet val (i+1)).length=1
 |0,h=>rfl
 |i+1,h=>by
  have ih:=BD hv i (Nat.lt_of_succ_lt h)
  rw [firstMet_succ,step_length,hv (i+1) h,firstMet_any]
  have:((List.range (i+1)).map val).any (· ==b)=true:=List.any_eq_true.mpr (a9 b (List.mem_map.mpr (a9 0 (List.mem_range.mpr (Nat.succ_pos i)) (hv 0 (Nat.lt_of_le_of_lt (Nat.zero_le _) h)))) (beq_self_eq_true b))
  rw [this,if_pos rfl];exact ih
section
variable {b:Int}
theorem Dz (hh:A.handled=none) (P:cA w h0) (hg:env.globals=mainGlobals) (hb:env.builtins=builtinsNs) (he:Ev w A env h0 m e (.ref l)) (L:cN h0 l (List.replicate (k+1) (.int b))) (hz:k≤50)
  (hk:autoParam (env.scope.kind= .function) aF) (hx:autoParam (env.kindOf "len"=some .globalImplicit) aG) (hx2:autoParam (env.kindOf "set"=some .globalImplicit) aG) (hea:autoParam (starEach [.Call (.Name "set" p2) [e] [] p3] env=(false,eval (.Call (.Name "set" p2) [e] [] p3) env)::starEach [] env) aR) (heb:autoParam (starEach [e] env=(false,eval e env)::starEach [] env) aR):
  Ev w A env h0 m (.Call (.Name "len" p1) [.Call (.Name "set" p2) [e] [] p3] [] pos) (.int 1):=by
 intro s ha
 refine d7 ha P hg hb (AB _) boot_len (fun t=>bS (R0:=fun v h1=>Sub s.heap h1∧∃a,v= .ref a∧h1.SetOf (intKind pw w) a (fun k'=>(firstMet (fun i=>(List.replicate (k+1) b).getD i 0) (k+1)).any (· ==k')) 1) ?_ (fun v h1=>rh fun k1 a e1 S1 t1=>?_) hea) (by decide) hk hx (by decide) hea (by rfl)
 ·refine fC (s:={s with toks:=t}) ha P hg hb (M9 _) boot_set (fun t=>bS (R0:=fun v h1=>Sub s.heap h1∧RD h1 v (.ref l)) (he {s with toks:=t} ha) (fun v h1=>av fun k1 r1 t1=>?_) heb) (by decide) hk hx2 (by decide) heb (by rfl)
  rw [ib r1]
  refine ao (L.sub (ha.sub.trans k1)) fun vs nn el rvs=>?_
  have hl:vs.length=k+1:=by have:=rvs.length;rwa [List.length_replicate] at this
  intro Q E q
  refine call_set_list (ns:=List.replicate (k+1) b) hh (bL el) (by simpa using yD rvs) (by rw [List.size_toArray,hl];unfold scanBound;lia) fun h' tk hS hk'=>?_
  rw [show vs.toArray.size=k+1 from hl] at hS
  rw [BD (b:=b) (n:=k+1) (fun j hj=>by rw [List.getD_eq_getElem?_getD,List.getElem?_replicate,if_pos hj];rfl) k (Nat.lt_succ_self k)] at hS
  exact q _ h' tk (Oo (k1.trans fun b o e=>hk' b o (Heap.lt_size e) e) _ rfl hS)
 ·subst e1
  refine iI S1 fun o es ep t ho hex hd V V V hf hsz=>?_
  intro Q E q
  refine call_len_set ho hex hd hf (by rw [hsz];decide) (q _ h1 _ ⟨k1,?_⟩)
  rw [hsz];exact .int 1 _
end
variable {up:List (Int×Int)}
section
variable {c:WC} {e:E2}
structure IS (c:WC) (e:E2) (bd:Nat→Int×Int→Option Int) (l:Int×Int):Prop where
 a:∀s,s <2→∃a∈(e s).its,a.2.row.number=lk l s∧a.2.bundle=bd s l
theorem Ae {s:Shared} {p1 p2 p3:Pos} {k:Nat} (hh:A.handled=none) (ha:At env h0 m s.heap) (P:cA w h0) (hg:env.globals=mainGlobals) (hb:env.builtins=builtinsNs)
  (hk:autoParam (env.scope.kind= .function) aF) (hx:autoParam (env.kindOf "range"=some .globalImplicit) aG):Kq w A env s (.Call (.Name "range" p1) [.Constant (.int 2) k p2] [] p3) [] (([0,1]:List Nat).map fun i=>D.int (i:Nat)):=
 (m9 (s:=s) (h0:=h0) (n:=2) hh ha P hg hb (by decide) gc hk hx).mono fun v h5=>av fun k5 z=>⟨k5,fun t5=>(z t5).mono fun it h6=>cV fun k6 I sr e J ns V=>o6 k6 I sr e J (fun q=>by cases q)⟩
theorem Ki {c:WC} {i:Nat} (h:i <2):(Ol c)[i]? =some (D.ref (c.b i).B):=iT (P:=fun i=>(Ol c)[i]? =some (D.ref (c.b i).B)) h rfl rfl
set_option genInjectivity false in
structure QC where
 c:WC
 e:E2
 up:List (Int×Int)
 rl:Addr
 fd:Nat→Addr
 rs:Nat→List RI
 sl:Addr
 sy:Nat→aT
 fo:Addr
 lo:Addr
 es:List ((Int×Int)×Addr×List D)
 lone:List (Int×Int)
 se:Addr
 s0:Addr
 s1:Addr
noncomputable def QC.sa (q:QC) (i:Nat):Addr:=match i with |0=>q.s0 |_=>q.s1
end
noncomputable def app (sn:Nat→List Int) (i:Nat) (b:Int) (s:Nat):List Int:=if s=i then sn s++ [b] else sn s
noncomputable def hK (sn:Nat→List Int) (b:Nat→Int):Nat→Nat→List Int |0=>sn |1=>app sn 0 (b 0) |_=>app (app sn 0 (b 0)) 1 (b 1)
theorem yU {sn:Nat→List Int} {b:Nat→Int} {i:Nat} (h:i <2):hK sn b i i=sn i∧hK sn b (i+1)=app (hK sn b i) i (b i):=iT (P:=fun i=>hK sn b i i=sn i∧hK sn b (i+1)=app (hK sn b i) i (b i)) h ⟨rfl,rfl⟩ ⟨(if_neg (by decide):(if (1:Nat)=0 then sn 1++ [b 0] else sn 1)=sn 1),rfl⟩
theorem u0:∀(xs:List Int),lp (xs.map D.int) (xs.map D.int)=true
 | []=>by decide
 |x::xs=>by
  have ih:=u0 xs
  unfold lp at ih ⊢
  simp only [PyData.eqv] at ih
  simp only [List.map_cons,D.pys,D.py,PyData.eqv,PyData.eqvAll,beq_self_eq_true,Bool.true_and]
  exact ih
section
variable {q:QC} {i:Nat}
theorem QC.se_at (hi:i <2):([.ref q.s0,.ref q.s1]:List Mine.D)[i]? =some (.ref (q.sa i)):=by
 apply iT (s:=i) hi;exact rfl;exact rfl
structure DS (q:QC) (B:Nat→Int×Int→Int) (l:Int×Int):Prop where
 a:∀s,s <2→∃a∈(q.e s).its,a.2.row.number=lk l s∧mP (q.e s).its a=some (B s l)
 m:∀s,s <2→gN (q.e s).its (some (B s l))= [lk l s]
end
noncomputable def xe (sn:Nat→List Int) (B:Nat→Int×Int→Int) (ls:List (Int×Int)) (s:Nat):List Int:=sn s++ls.map (B s)
theorem Cw (a b:aT):qt false (aw a) (aw b)=mX a b:=by
 delta aw mX
 show (if (a.1==b.1)=true then (if (a.2==b.2)=true then false else decide (a.2 <b.2)) else decide (a.1 <b.1))=_
 by_cases h1:a.1=b.1
 ·by_cases h2:a.2=b.2
  ·simp [h1,h2]
  ·simp [h1,h2]
 ·have h1':(a.1==b.1)=false:=by simpa using h1
  simp [h1',h1]
section
variable {KK:Type} [DecidableEq KK] {c:tx KK} {kds:List (KK×D)}
theorem yF (R:Rm n A) (P:cA w h0) (hg:env.globals=mainGlobals) (hb:env.builtins=builtinsNs) (he:Ev w A env h0 m e (.ref l)) (L:cM w c h0 l kds) (lo:(l==sysModules)=false) (ok:dO (kds.map fun x=>c.enc x.1)) (h3:kds.length≤3) (hu:A.units+50 <cLine)
  (hk:autoParam (env.scope.kind= .function) aF) (hx:autoParam (env.kindOf "sorted"=some .globalImplicit) aG) (hea:autoParam (starEach [e] env=(false,eval e env)::starEach [] env) aR):su w A env h0 m (.Call (.Name "sorted" p1) [e] [] pos) (az (kds.map fun x=>c.enc x.1) (kds.map fun x=>c.enc x.1)):=by
 intro s ha
 refine d7 ha P hg hb (iK _) boot_sorted (fun t=>bS (R0:=fun v h1=>Sub s.heap h1∧RD h1 v (.ref l)) (he {s with toks:=t} ha) (fun v h1=>av fun k1 r1 t1=>?_) hea) (by decide) hk hx (by decide) hea (by rfl)
 rw [ib r1]
 exact (ji hu (By R.h lo (L.sub (ha.sub.trans k1)).dks (by rw [List.length_map];exact Nat.le_trans h3 lr)) ok (by rw [List.length_map];exact h3)).mono fun v h2=>aM fun k2 a e2 L2 n2=>fA (k1.trans k2) a e2 L2 (aS n2 k1)
theorem Hh (he:Ev w A env h0 m e (.ref l)) (L:cN h0 l ds) (hz:ds.length≤1000) (hu:Ev w A env h0 m u (.int (k:Nat))) (hs:autoParam (∀o i,subscripted (.Slice none (some u) none p2) false o i=operate [i,o] (getItem o i)) aJ):su w A env h0 m (.Subscript e (.Slice none (some u) none p2) pos) (ds.take k):=by
 intro s ha
 refine zm hz ((he s ha).mono fun v h1=>av fun k1 r1=>cb l (ib r1) (L.sub (ha.sub.trans k1)) (fun t1=>(hu (sh s h1 t1) (ha.step k1)).mono fun v2 h2=>av fun k2 r2=>⟨k2,r2,fun h3 D k3 LD nD=>fA ((k1.trans k2).trans k3) D rfl LD (aS nD (k1.trans k2))⟩)) hs
end
structure QE (q:QC) (bd:Nat→Int×Int→Option Int) (Bg:Nat→Int) (gl wk:List (Int×Int)):Prop where
 ne:∃k,gl.length=k+1∧k≤2
 b:∀l∈gl,IS q.c q.e bd l∧∀s,s <2→bd s l=some (Bg s)
 m:∀s,s <2→lp ((gN (q.e s).its (some (Bg s))).map D.int) (az (wk.map fun l=>D.int (lk l s)) (wk.map fun l=>D.int (lk l s)))=true
 wk:wk.length≤3
theorem IL {is:List Int}:gx .none (is.map D.int)=false:=by
 delta gx
 rw [List.any_map,List.any_eq_false]
 intro i _
 show ¬ D.eqv .none (.int i)=true
 delta D.eqv
 simp [D.py,PyData.eqv]
section
variable {b:Int}
theorem C8 {is:List Int}:dO (is.map D.int):=by
 refine ⟨fun d hd e he=>?_,.inl fun d hd=>?_⟩
 ·refine ab (List.mem_map.mp hd) fun a V zr32=>?_;subst zr32
  refine ab (List.mem_map.mp he) fun b V zr33=>?_;subst zr33
  rfl
 ·refine ab (List.mem_map.mp hd) fun a V zr34=>?_;subst zr34
  exact ⟨_,rfl⟩
end
noncomputable def bD (sy:Nat→aT):Nat:=if mX (sy 0) (sy 1) then 0 else 1
theorem iS {sy:Nat→aT}:bD sy <2:=by delta bD;split<;>decide
noncomputable def HC (Rw:Int×Int→Nat→RI) (s:Nat) (l:Int×Int):D:=.tup [.int (Rw l s).row.priority,.int (lk l s),au l]
noncomputable def HA (Rw:Int×Int→Nat→RI) (s:Nat) (most:Nat) (gl:List (Int×Int)):List (Int×Int):=(az (gl.map (HC Rw s)) gl).take most
noncomputable def tS (es:List ((Int×Int)×Addr×List D)):List (Int×Int):=az ((es.map (·.1)).map aw) (es.map (·.1))
structure N2 (q:QC) (bd:Nat→Int×Int→Option Int) (Rw:Int×Int→Nat→RI) (most:Nat) (Bg:Nat→Int×Int→Int) (GL:Int×Int→List (Int×Int)):Prop where
 g:∀x∈q.es,x.2.2=(GL x.1).map au∧QE q bd (fun s=>Bg s x.1) (GL x.1) (HA Rw (bD q.sy) most (GL x.1))∧∀l∈GL x.1,rX q.rs Rw l
 inj:∀s,s <2→∀k∈q.es.map (·.1),∀k'∈q.es.map (·.1),Bg s k=Bg s k'→k=k'
 len:q.es.length≤3
 lo:(q.fo==sysModules)=false
theorem CH {Rw:Int×Int→Nat→RI} {s:Nat} {gl:List (Int×Int)}:dO (gl.map (HC Rw s)):=by
 refine ⟨fun d hd e he=>?_,.inr (.inl fun d hd=>?_)⟩
 ·refine ab (List.mem_map.mp hd) fun a V zr35=>?_;subst zr35
  refine ab (List.mem_map.mp he) fun b V zr36=>?_;subst zr36
  rfl
 ·refine ab (List.mem_map.mp hd) fun a V zr37=>?_;subst zr37
  exact J9 _ _ rfl
noncomputable def Hr (Bg:Nat→Int×Int→Int) (ks:List (Int×Int)) (s:Nat):List Int:=ks.map (Bg s)
theorem LC {es:List ((Int×Int)×Addr×List D)} {x:(Int×Int)×Addr×List D} (nd:(es.map (·.1)).Nodup) (hx:x∈es):fu (es.map fun e=>(e.1,D.ref e.2.1)) x.1=some (.ref x.2.1):=by
 rw [qK]
 cases hf:es.find? fun e=>e.1=x.1 with
 |none=>
  have:=List.find?_eq_none.mp hf x hx
  simp at this
 |some y=>
  have h1:y.1=x.1:=by simpa using List.find?_some hf
  have h2:=List.mem_of_find?_eq_some hf
  rw [lJ nd h2 hx h1];rfl
noncomputable def B6 (Rw:Int×Int→Nat→RI) (up:List (Int×Int)) (k:Int×Int):List (Int×Int):=up.filter fun l=>pP Rw l&&iU Rw l==k
noncomputable def Nc (Rw:Int×Int→Nat→RI) (up:List (Int×Int)) (Bv:Nat→Int×Int→Int) (s:Nat) (k:Int×Int):Int:=match B6 Rw up k with | []=>0 |l::_=>Bv s l
structure pY (c:WC) (e:E2) (up:List (Int×Int)) (rs:Nat→List RI) (sy:Nat→aT) (most:Nat) (bd:Nat→Int×Int→Option Int) (Rw:Int×Int→Nat→RI) (Bv:Nat→Int×Int→Int):Prop where
 hl:∀l∈c.links,IS c e bd l∧(l∉up→bd 0 l=none∧bd 1 l=none)
 sub:∀l∈up,l∈c.links
 bv:∀l∈up,∀s,s <2→bd s l=some (Bv s l)
 eq:∀l∈up,∀l'∈up,∀s,s <2→(Bv s l=Bv s l'↔l=l'∨(pP Rw l=true∧pP Rw l'=true∧iU Rw l=iU Rw l'))
 m:∀l∈up,pP Rw l=true→∀s,s <2→lp ((gN (e s).its (some (Bv s l))).map D.int) (az ((HA Rw (bD sy) most (B6 Rw up (iU Rw l))).map fun l=>D.int (lk l s)) ((HA Rw (bD sy) most (B6 Rw up (iU Rw l))).map fun l=>D.int (lk l s)))=true
 lm:∀l∈up,pP Rw l=false→∀s,s <2→(∃a∈(e s).its,a.2.row.number=lk l s∧mP (e s).its a=some (Bv s l))∧gN (e s).its (some (Bv s l))= [lk l s]
 nd:up.Nodup
 hu:up.length≤3
 hq:∀l∈up,rX rs Rw l
 hs:az (up.map au) (up.map au)=up.map au
variable {Rw:Int×Int→Nat→RI} {Bv:Nat→Int×Int→Int} {bd:Nat→Int×Int→Option Int}
section
variable {q:QC} {most:Nat}
theorem iX {up:List (Int×Int)} {k l:Int×Int} (h:l∈B6 Rw up k):l∈up∧pP Rw l=true∧iU Rw l=k:=by
 refine bC (List.mem_filter.mp h) fun a b=>?_
 refine bC (aZ b) fun b c=>?_
 exact ⟨a,b,eq_of_beq c⟩
theorem iH {up:List (Int×Int)} {es:List ((Int×Int)×Addr×List D)} (G:qp Rw up es) {k:Int×Int} (hk:k∈es.map (·.1)) (s:Nat):∃l,l∈B6 Rw up k∧Nc Rw up Bv s k=Bv s l:=by
 refine ab (List.mem_map.mp hk) fun x hx zr38=>?_;subst zr38
 refine bC (G.of x hx) fun a b=>?_
 delta Nc
 cases h:B6 Rw up x.1 with
 |nil=>
  have h:(up.filter fun l=>pP Rw l&&iU Rw l==x.1)= []:=h
  rw [h] at a;exact absurd a b
 |cons l t=>exact a9 l (List.mem_cons_self ..) rfl
theorem pY.all (o:pY q.c q.e q.up q.rs q.sy most bd Rw Bv) (G:qp Rw q.up q.es) (h3:q.es.length≤3) (lo:(q.fo==sysModules)=false):N2 q bd Rw most (Nc Rw q.up Bv) (B6 Rw q.up):=by
 have le:∀k,(B6 Rw q.up k).length≤3:=fun k=>Nat.le_trans (List.length_filter_le ..) o.hu
 refine ⟨fun x hx=>⟨(G.of x hx).1,⟨?_,fun l hl=>?_,fun s hs=>?_,?_⟩,fun l hl=>o.hq l (iX hl).1⟩,fun s hs k hk k' hk' e=>?_,h3,lo⟩
 ·refine ab (iH (Bv:=Bv) G (List.mem_map.mpr (a9 x hx rfl)) 0) fun l hl V=>?_
  have:=List.length_pos_of_mem hl
  have:=le x.1
  exact a9 ((B6 Rw q.up x.1).length - 1) (by omega) (by omega)
 ·refine cB (iX hl) fun a b c=>?_
  refine ⟨(o.hl l (o.sub l a)).1,fun s hs=>?_⟩
  refine ab (iH (Bv:=Bv) G (List.mem_map.mpr (a9 x hx rfl)) s) fun l0 h0 e0=>?_
  refine cB (iX h0) fun a0 b0 c0=>?_
  show bd s l=some (Nc Rw q.up Bv s x.1)
  rw [o.bv l a s hs,e0,(o.eq l a l0 a0 s hs).mpr (.inr ⟨b,b0,c.trans c0.symm⟩)]
 ·refine ab (iH (Bv:=Bv) G (List.mem_map.mpr (a9 x hx rfl)) s) fun l0 h0 e0=>?_
  refine cB (iX h0) fun a0 b0 c0=>?_
  have:=o.m l0 a0 b0 s hs
  rw [c0] at this
  show lp ((gN (q.e s).its (some (Nc Rw q.up Bv s x.1))).map D.int) _=true
  rw [e0];exact this
 ·delta HA
  rw [List.length_take,dW (le _)]
  have:=le x.1
  exact Nh this lr
 ·refine ab (iH (Bv:=Bv) G hk s) fun l hl el=>?_
  refine ab (iH (Bv:=Bv) G hk' s) fun l' hl' el'=>?_
  refine cB (iX hl) fun a b c=>?_
  refine cB (iX hl') fun a' b' c'=>?_
  rw [el,el'] at e
  rcases (o.eq l a l' a' s hs).mp e with z |⟨_,_,z⟩
  ·rw [←c,←c',z]
  ·rw [←c,←c',z]
theorem rV {up:List (Int×Int)} {l:Int×Int} (h:l∈lh Rw up):l∈up∧pP Rw l=false:=by
 refine bC (List.mem_filter.mp h) fun a b=>?_
 exact ⟨a,by rwa [Bool.not_eq_true'] at b⟩
theorem pY.lone (o:pY q.c q.e q.up q.rs q.sy most bd Rw Bv) (hlo:q.lone=lh Rw q.up):∀l∈q.lone,DS q Bv l:=fun l hl=>by
 rw [hlo] at hl
 refine bC (rV hl) fun a b=>?_
 exact ⟨fun s hs=>(o.lm l a b s hs).1,fun s hs=>(o.lm l a b s hs).2⟩
theorem pY.hn (o:pY q.c q.e q.up q.rs q.sy most bd Rw Bv) (G:qp Rw q.up q.es) (h3:q.es.length≤3) (hlo:q.lone=lh Rw q.up):
  ∀i l,q.lone[i]? =some l→∀s,s <2→Bv s l∉xe (Hr (Nc Rw q.up Bv) (tS q.es)) Bv (q.lone.take i) s:=fun i l hi s hs p=>by
 have hl:=List.mem_of_getElem? hi
 rw [hlo] at hl
 refine bC (rV hl) fun a b=>?_
 rcases List.mem_append.mp p with p |p
 ·refine ab (List.mem_map.mp p) fun k hk e=>?_
  have hk:=jG (by rw [List.length_map];exact h3) k hk
  refine ab (iH (Bv:=Bv) G hk s) fun l' hl' el'=>?_
  refine cB (iX hl') fun a' b' c'=>?_
  rw [el'] at e
  rcases (o.eq l' a' l a s hs).mp e with z |⟨_,z,_⟩
  ·rw [z,b] at b';cases b'
  ·rw [b] at z;cases z
 ·refine ab (List.mem_map.mp p) fun l' hl' e=>?_
  have h1:=List.mem_of_mem_take hl'
  rw [hlo] at h1
  refine bC (rV h1) fun a' b'=>?_
  rcases (o.eq l' a' l a s hs).mp e with z |⟨z,_⟩
  ·subst z
   obtain ⟨j,hj,ej⟩:=List.mem_take_iff_getElem.mp hl'
   have nd:q.lone.Nodup:=by rw [hlo];exact o.nd.filter _
   have:j=i:=(List.getElem?_inj (MQ hj) nd).mp (by rw [hi,List.getElem?_eq_getElem (MQ hj),ej])
   exact PX hj this
  ·rw [b'] at z;cases z
end
structure Aq (c:WC) (e0:E2) (rs:Nat→List RI) (sy:Nat→aT) (most:Nat):Prop where
 len:c.links.length≤3
 nd:c.links.Nodup
 rng:∀l∈c.links,∀s,s <2→1≤lk l s∧lk l s≤c.many
 run:∃(en:Nat→E2) (e1:E2),en 0=e0∧(∀j l,c.links[j]? =some l→∃x:Nat→EI,(∀s,s <2→iG true c (en j) l s=some (x s))∧en (j+1)=eK (en j) x 2)∧fv c 6 (en c.links.length)=some e1∧
  (∃bd Rw Bv,pY c e1 c.links rs sy most bd Rw Bv)∧∀l∈c.links,∃(x:Nat→EI) (e3:E2),(∀s,s <2→iG false c e1 l s=some (x s))∧fv c 6 (eK e1 x 2)=some e3∧∃bd Rw Bv,pY c e3 (c.links.erase l) rs sy most bd Rw Bv
theorem zO {rs:List RI} {r:RI} (nd:(cU rs).Nodup) (hr:r∈rs):fu (cG rs) r.row.number=some (.ref r.rx):=by
 have nd2:((cG rs).map (·.1)).Nodup:=by
  delta cG
  rw [List.map_map];exact nd
 have hx:((r.row.number,D.ref r.rx):Int×D)∈cG rs:=List.mem_map.mpr (a9 r hr rfl)
 delta fu
 cases hf:(cG rs).find? fun e=>e.1=r.row.number with
 |none=>
  have:=List.find?_eq_none.mp hf _ hx
  simp at this
 |some y=>
  have h1:y.1=r.row.number:=by simpa using List.find?_some hf
  have h2:=List.mem_of_find?_eq_some hf
  rw [lJ nd2 h2 hx h1];rfl
section
variable {kds:List (Int×D)}
theorem yt (R:Rm n A) (P:cA w h0) (hg:env.globals=mainGlobals) (hb:env.builtins=builtinsNs) (he:Ev w A env h0 m e (.ref l)) (L:nh (intKind pw w) h0 l kds) (lo:(l==sysModules)=false) (asc:(kds.map (·.1)).Pairwise (· < ·)) (h3:kds.length≤3) (hu:A.units+50 <cLine)
  (hk:autoParam (env.scope.kind= .function) aF) (hx:autoParam (env.kindOf "sorted"=some .globalImplicit) aG) (hea:autoParam (starEach [e] env=(false,eval e env)::starEach [] env) aR):su w A env h0 m (.Call (.Name "sorted" p1) [e] [] pos) (kds.map fun x=>D.int x.1):=by
 intro s ha
 have e1:(kds.map fun x=>D.int x.1)=(kds.map (·.1)).map D.int:=by rw [List.map_map];rfl
 have hl:(kds.map (·.1)).length≤3:=by rw [List.length_map];exact h3
 have es:az ((kds.map (·.1)).map D.int) ((kds.map (·.1)).map D.int)=(kds.map (·.1)).map D.int:=by
  rw [eV D.int hl,Du hl asc]
 refine d7 ha P hg hb (iK _) boot_sorted (fun t=>bS (R0:=fun v h1=>Sub s.heap h1∧RD h1 v (.ref l)) (he {s with toks:=t} ha) (fun v h1=>av fun k1 r1 t1=>?_) hea) (by decide) hk hx (by decide) hea (by rfl)
 rw [ib r1]
 have K1:Mq h1 l ((kds.map (·.1)).map D.int):=by have:=(L.sub (ha.sub.trans k1)).dks;rwa [e1] at this
 refine (ji (ds:=(kds.map (·.1)).map D.int) hu (By R.h lo K1 (by rw [List.length_map];exact Nat.le_trans hl lr)) yN (by rw [List.length_map];exact hl)).mono fun v h2=>aM fun k2 a e2 L2 n2=>fA (k1.trans k2) a e2 (by rw [e1,←es];exact L2) (aS n2 k1)
end
theorem Q8 {f:Nat→Addr} {i:Nat} (h:i <2):([D.ref (f 0),D.ref (f 1)]:List D)[i]? =some (D.ref (f i)):=iT (P:=fun i=>([D.ref (f 0),D.ref (f 1)]:List D)[i]? =some (D.ref (f i))) h rfl rfl
noncomputable def QT:Scope:={kind:=.function,names:=[(".0",.local),("side",.cell),("sorted",.globalImplicit)],isGenerator:=false,isCoroutine:=false}
noncomputable def Q6:Scope:={kind:=.function,names:=[(".0",.local),("number",.local),("side",.free)],isGenerator:=false,isCoroutine:=false}
theorem AZ (R:Rm (n+1) A) (he:Ev w A env h0 m e1 (.ref l)) (L:i6 h0 l ds) (hm:autoParam (behindInMarks .Eq (.List [] p1)=false) aW):w9 w A env h0 m (.Compare e1 [.Eq] [.List [] p1] pos) ds.isEmpty:=by
 intro s ks Q E q
 refine wpAny_isTrue_Compare1 (he s ks _ _ fun v1 g1 t1=>av fun k1 r1=>?_) hm
 obtain rfl:=ib r1
 refine oZ (s:=sh s g1 t1) _ _ fun v2 g2 t2=>mE fun b e2 k2 n2 Lb=>?_
 subst e2
 have k2:Sub g1 g2:=k2
 have n2:g1.get? b=none:=n2
 refine uX L fun vs o ho hc rvs=>?_
 have l1:g2.IsList l vs.toArray:=a9 o (k2 _ _ (k1 _ _ (ks.sub _ _ ho))) hc
 refine ab Lb.isList fun ys l2 z2=>?_
 have hu:A.units <cLine:=R.units
 cases ds with
 |nil=>
  have z1:vs.toArray.size=0:=by rw [List.size_toArray,rvs.length];rfl
  have:=SeqAt.RcAt.lists (A:=A) (s:=sh s g2 t2) (e:=fun V=>true) l1 l2 (by rw [z1,z2];rfl) hu (fun j j1 V=>by rw [z1] at j1;exact absurd j1 (Nat.not_lt_zero _))
  rw [show ((List.range vs.toArray.size).all fun V=>true)=true by simp] at this
  exact this _ _ E _ (wpAny_truthy_bool (q _ g2 t2 ⟨k1.trans k2,rfl⟩))
 |cons d ds=>exact SeqAt.RcAt.lists_lengths (A:=A) (s:=sh s g2 t2) l1 l2 (by rw [List.size_toArray,rvs.length,z2];simp) hu _ _ E _ (wpAny_truthy_bool (q _ g2 t2 ⟨k1.trans k2,rfl⟩))
noncomputable def u9 (sy:Nat→aT):Prop:=(sy 0=(1,5)∧sy 1=(2,5))∨(sy 0=(3,9)∧sy 1=(3,7))
section
variable {es:List D}
theorem D4 (he:Ev w A env h0 m e (.ref l)) (L:cN h0 l ds) (hz:ds.length≤1000) (hu:Ev w A env h0 m u (.int (k:Nat))) (hs:autoParam (∀o i,subscripted (.Slice (some u) none none p2) false o i=operate [i,o] (getItem o i)) aJ):su w A env h0 m (.Subscript e (.Slice (some u) none none p2) pos) (ds.drop k):=by
 intro s ha
 refine FC hz ((he s ha).mono fun v h1=>av fun k1 r1=>cb l (ib r1) (L.sub (ha.sub.trans k1)) (fun t1=>(hu (sh s h1 t1) (ha.step k1)).mono fun v2 h2=>av fun k2 r2=>⟨k2,r2,fun h3 D k3 LD nD=>fA ((k1.trans k2).trans k3) D rfl LD (aS nD (k1.trans k2))⟩)) hs
theorem HY (h1:su w A env h0 m e1 ds) (h2:su w A env h0 m e2 es) (hz:ds.length+es.length≤1000):su w A env h0 m (.BinOp e1 .Add e2 pos) (ds++es):=by
 intro s k Q E q
 refine wpAny_BinOp (h1 s k _ _ fun v1 g1 t1=>aM fun k1 a ea La V=>?_)
 refine h2 (sh s g1 t1) (k.step k1) _ _ fun v2 g2 t2=>aM fun k2 b eb Lb V=>?_
 subst ea eb
 refine ao (La.sub k2) fun vs n ha ra=>?_
 refine ao Lb fun ws n' hb rb=>?_
 have la:=ra.length
 have lb:=rb.length
 refine concat_meets (a9 _ ha rfl) (a9 _ hb rfl) noFill_list_add seq_list_add PySem.F.slot_list_add PySem.F.entry_list_add (PySem.F.args_list_add_2 _ _)
  (list_addW a b vs.toArray ws.toArray n n' none none #[] #[] (by first |(refine bR (k:=2000) ?_;rw [List.size_toArray,List.size_toArray];omega) |(rw [List.size_toArray,List.size_toArray,sizeLine_eq];omega))) ⟨ha,hb,?_⟩
 have e:vs.toArray++ws.toArray=(vs++ws).toArray:=by simp
 rw [e]
 have kk:Sub g2 (g2.push {cls:=.type "list",data:=.seq (vs++ws).toArray}):=Sub.push _
 exact q _ _ _ (fA ((k1.trans k2).trans kk) _ rfl (fZ (vs++ws) 0 (Heap.get?_push_size _ rfl) ((ra.append rb).mono kk.t)) (aS (aA (Nat.le_refl _)) (k1.trans k2)))
end
noncomputable def bJ (many:Nat) (sw:Bool):List (Int×Int):=(List.range many).map (cF (ka sw))
theorem Gp {many:Nat} (h:many=2∨many=3): [au (1,2),au (2,1)]++((bJ many false).map au).drop 2=(bJ many true).map au:=by
 rcases h with rfl |rfl<;>rfl
structure HP where
 W:List Addr
 F:List Addr
 S:Heap→Prop
 fr:ng F S
 wf:∀z∈W,z∈F
theorem ng.andP {F:List Addr} {S:Heap→Prop} {p:Prop} (f:ng F S):ng F fun h=>S h∧p:=⟨fun h h' x t k=>⟨f.mo h h' x.1 t k,x.2⟩,fun h x=>f.ex h x.1⟩
noncomputable def rO (P Q:HP):Prop:=(∀z∈P.W,z∉Q.F)∧∀z∈Q.W,z∉P.F
noncomputable def Wl (Ps:List HP):List Addr:=Ps.flatMap (·.W)
noncomputable def Fl (Ps:List HP):List Addr:=Ps.flatMap (·.F)
noncomputable def sel (ks:List Nat) (Ps:List HP):List HP:=ks.filterMap (Ps[·]?)
structure AP where
 g:Heap
 W:List Addr
 F:List Addr
structure Fi (w:World) (E:AP) (Ps:List HP) (h:Heap):Prop where
 fr:lR w E.g E.W
 ew:∀z∈E.W,z∈E.F
 kp:cv E.W E.g h
 tt:bl E.g h
 S:∀P∈Ps,P.S h
 sep:Ps.Pairwise rO
 ext:∀P∈Ps,(∀z∈P.W,z∈E.W∨E.g.get? z=none)∧∀z∈P.F,z∈E.F∨E.g.get? z=none
variable {E:AP} {Ps Qs Pre Rs:List HP} {P Q:HP} {z:Addr} {ks:List Nat}
section
variable {rs:List Nat}
theorem rO.symm (a:rO P Q):rO Q P:=⟨a.2,a.1⟩
theorem cf (h:z∈Wl Ps):∃P∈Ps,z∈P.W:=List.mem_flatMap.mp h
theorem et (h:P∈Ps) (hz:z∈P.W):z∈Wl Ps:=List.mem_flatMap.mpr (a9 P h hz)
theorem bV (h:P∈Ps) (hz:z∈P.F):z∈Fl Ps:=List.mem_flatMap.mpr (a9 P h hz)
theorem sR (h:z∈Wl Ps):z∈Fl Ps:=(cf h).elim fun P q=>bV q.1 (P.wf z q.2)
theorem Fi.old (X:Fi w E Ps h) (n:h.get? z=none):z∈E.W∨E.g.get? z=none:=by
 cases q:E.g.get? z with
 |none=>exact .inr rfl
 |some o=>exact .inl (Classical.byContradiction fun c=>u5 n (X.kp z o c q))
theorem Fi.frsh (X:Fi w E Ps h) (Z:List Addr) (hz:∀z∈Z,z∈E.W∨E.g.get? z=none):lR w h Z:=by
 refine ar X.fr fun B p k n=>?_
 have nn:∀{z o},B.get? z=some o→z∈E.W∨E.g.get? z=none→False:=fun e q=>q.elim (fun q=>u5 (n _ q) e) fun q=>u5 q (k _ _ e)
 exact ⟨B,p,fun b o e=>X.kp b o (fun q=>nn e (.inl q)) (k _ _ e),fun z q=>by
  cases c:B.get? z with
  |none=>rfl
  |some o=>exact (nn c (hz z q)).elim⟩
theorem Fi.wl (X:Fi w E Ps h):∀z∈Wl Ps,z∈E.W∨E.g.get? z=none:=fun z q=>(cf q).elim fun P q=>(X.ext P q.1).1 z q.2
theorem Fi.pin (X:Fi w E Ps h):cA w h:=(X.frsh [] fun V q=>noM q).pin
theorem Fi.ex (X:Fi w E Ps h) (hP:P∈Ps) (hz:z∈P.F):∃o,h.get? z=some o:=P.fr.ex h (X.S P hP) z hz
theorem Fi.hid {Z:List Addr} (X:Fi w E Ps h) (k:cv Z h h') (t:bl h h') (zE:∀z∈Z,z∈E.W∨E.g.get? z=none) (zP:∀P∈Ps,∀z∈P.F,z∉Z):Fi w E Ps h':=
 ⟨X.fr,X.ew,fun b o n e=>k b o (fun q=>(zE b q).elim n fun q=>u5 q e) (X.kp b o n e),X.tt.trans t,fun P hP=>P.fr.keep (X.S P hP) k t (zP P hP),X.sep,X.ext⟩
theorem Fi.sub (X:Fi w E Ps h) (k:Sub h h'):Fi w E Ps h':=X.hid (Z:=[]) k.keep k.t (fun V q=>noM q) fun V V V V=>mN
theorem gI {α:Type} {R:α→α→Prop} (sy:∀{a b},R a b→R b a) {l:List α} (p:l.Pairwise R) {i j:Nat} {a b:α} (n:i≠j) (ha:l[i]? =some a) (hb:l[j]? =some b):R a b:=by
 obtain ⟨i1,e1⟩:=List.getElem?_eq_some_iff.mp ha
 obtain ⟨j1,e2⟩:=List.getElem?_eq_some_iff.mp hb
 subst e1 e2
 have q:=List.pairwise_iff_getElem.mp p
 exact (Nat.lt_or_gt_of_ne n).elim (fun c=>q i j i1 j1 c) fun c=>sy (q j i j1 i1 c)
theorem qW (h:P∈sel ks Ps):∃k∈ks,Ps[k]? =some P:=List.mem_filterMap.mp h
theorem k9 (h:P∈sel ks Ps):P∈Ps:=(qW h).elim fun V q=>List.mem_of_getElem? q.2
theorem mx:Wl (Ps++Qs)=Wl Ps++Wl Qs:=List.flatMap_append ..
theorem rg:Fl (Ps++Qs)=Fl Ps++Fl Qs:=List.flatMap_append ..
theorem H6:sel (ks++rs) Ps=sel ks Ps++sel rs Ps:=List.filterMap_append ..
theorem yv (p:Ps.Pairwise rO):∀ks:List Nat,ks.Nodup→(sel ks Ps).Pairwise rO:=fun ks nd=>by
 rw [sel,List.pairwise_filterMap]
 exact nd.imp fun n a ha b hb=>gI rO.symm p n ha hb
theorem Fi.sel (X:Fi w E Ps h) (nd:ks.Nodup):Fi w E (sel ks Ps) h:=
 ⟨X.fr,X.ew,X.kp,X.tt,fun P q=>X.S P (k9 q),yv X.sep ks nd,fun P q=>X.ext P (k9 q)⟩
theorem Fi.call {W F:List Addr} (X:Fi w E (Pre++Rs) h) (Y:Fi w ⟨h,W,F⟩ Qs h') (hW:∀z∈W,z∈Wl Pre) (hF:∀z∈F,z∈Fl Pre):Fi w E (Qs++Rs) h':=by
 have inl:∀{P},P∈Pre→P∈Pre++Rs:=fun q=>List.mem_append_left _ q
 have inr:∀{P},P∈Rs→P∈Pre++Rs:=fun q=>List.mem_append_right _ q
 refine cB (List.pairwise_append.mp X.sep) fun s1 s2 s3=>?_
 have oW:∀z∈W,z∈E.W∨E.g.get? z=none:=fun z q=>(cf (hW z q)).elim fun P q=>(X.ext P (inl q.1)).1 z q.2
 have offW:∀P∈Rs,∀z∈P.F,z∉W:=fun P hP z hz q=>(cf (hW z q)).elim fun Q q=>(s3 Q q.1 P hP).1 z q.2 hz
 refine ⟨X.fr,X.ew,fun b o n e=>Y.kp b o (fun q=>(oW b q).elim n fun q=>u5 q e) (X.kp b o n e),X.tt.trans Y.tt,fun P hP=>(List.mem_append.mp hP).elim (Y.S P) fun q=>P.fr.keep (X.S P (inr q)) Y.kp Y.tt (offW P q),List.pairwise_append.mpr ⟨Y.sep,s2,fun P hP Q hQ=>⟨fun z hz q=>?_,fun z hz q=>?_⟩⟩,fun P hP=>?_⟩
 ·exact ((Y.ext P hP).1 z hz).elim (offW Q hQ z q) fun n=>nj (X.ex (inr hQ) q) n
 ·refine ((Y.ext P hP).2 z q).elim (fun q=>?_) fun n=>nj (X.ex (inr hQ) (Q.wf z hz)) n
  refine ab (List.mem_flatMap.mp (hF z q)) fun P0 h0 h1=>?_
  exact (s3 P0 h0 Q hQ).2 z hz h1
 ·rcases List.mem_append.mp hP with q |q
  ·refine ⟨fun z hz=>((Y.ext P q).1 z hz).elim (oW z) X.old,fun z hz=>((Y.ext P q).2 z hz).elim (fun q=>?_) fun n=>(X.old n).imp_left (X.ew z)⟩
   refine ab (List.mem_flatMap.mp (hF z q)) fun P0 h0 h1=>?_
   exact (X.ext P0 (inl h0)).2 z h1
  ·exact X.ext P (inr q)
theorem Fi.one (X:Fi w E Ps h) (hP:P∈Ps) (k:cv P.W h h') (t:bl h h') (st:Q.S h') (hW:∀z∈Q.W,z∈P.W∨h.get? z=none) (hF:∀z∈Q.F,z∈P.F∨h.get? z=none):Fi w ⟨h,P.W,P.F⟩ [Q] h':=
 ⟨X.frsh _ (X.ext P hP).1,P.wf,k,t,fun R hR=>List.mem_singleton.mp hR▸st,List.pairwise_singleton ..,fun R hR=>List.mem_singleton.mp hR▸⟨hW,hF⟩⟩
theorem Fi.push (X:Fi w E Ps h) (k:Sub h h') (st:Q.S h') (n:∀z∈Q.F,h.get? z=none):Fi w E (Q::Ps) h':=
 have Y:=X.sub k
 ⟨Y.fr,Y.ew,Y.kp,Y.tt,fun P hP=>(List.mem_cons.mp hP).elim (fun e=>e▸st) (Y.S P),List.pairwise_cons.mpr ⟨fun P hP=>⟨fun z hz q=>nj (X.ex hP q) (n z (Q.wf z hz)),fun z hz q=>nj (X.ex hP (P.wf z hz)) (n z q)⟩,Y.sep⟩,
 fun P hP=>(List.mem_cons.mp hP).elim (fun e=>e▸⟨fun z hz=>X.old (n z (Q.wf z hz)),fun z hz=>(X.old (n z hz)).imp_left (X.ew z)⟩) (X.ext P)⟩
theorem Fi.conv (X:Fi w E Ps h) (Q:HP) (ks rs:List Nat) (nd:rs.Nodup) (st:Q.S h) (hW:∀z∈Q.W,z∈Wl (Mine.sel ks Ps)) (hF:∀z∈Q.F,z∈Fl (Mine.sel ks Ps))
  (ro:∀k∈ks,k∈rs→∀P,Ps[k]? =some P→P.W= []):Fi w E (Q::Mine.sel rs Ps) h:=by
 have Y:=X.sel nd
 refine ⟨Y.fr,Y.ew,Y.kp,Y.tt,fun P hP=>(List.mem_cons.mp hP).elim (fun e=>e▸st) (Y.S P),List.pairwise_cons.mpr ⟨fun P hP=>?_,Y.sep⟩,fun P hP=>(List.mem_cons.mp hP).elim (fun e=>e▸⟨fun z hz=>?_,fun z hz=>?_⟩) (Y.ext P)⟩
 ·refine ab (qW hP) fun r hr er=>?_
  have ap:∀{k P0},k∈ks→Ps[k]? =some P0→(k=r→False)→rO P0 P:=fun {k P0} hk ek n=>gI rO.symm X.sep n ek er
  refine ⟨fun z hz q=>?_,fun z hz q=>?_⟩
  ·refine ab (cf (hW z hz)) fun P0 h0 h1=>?_
   refine ab (qW h0) fun k hk ek=>?_
   by_cases c:k=r
   ·rw [ro k hk (c▸hr) P0 ek] at h1;exact noM h1
   ·exact (ap hk ek c).1 z h1 q
  ·refine ab (List.mem_flatMap.mp (hF z q)) fun P0 h0 h1=>?_
   refine ab (qW h0) fun k hk ek=>?_
   by_cases c:k=r
   ·rw [ro k hk (c▸hr) P (c▸er)] at hz;exact noM hz
   ·exact (ap hk ek c).2 z hz h1
 ·exact (cf (hW z hz)).elim fun P0 q=>(X.ext P0 (k9 q.1)).1 z q.2
 ·refine ab (List.mem_flatMap.mp (hF z hz)) fun P0 h0 h1=>?_
  exact (X.ext P0 (k9 h0)).2 z h1
end
structure jO (Ps Qs:List HP) (h h':Heap):Prop where
 t:bl h h'
 k:cv (Wl Ps) h h'
 w:∀z∈Wl Qs,z∈Wl Ps∨h.get? z=none
 f:∀z∈Fl Qs,z∈Fl Ps∨h.get? z=none
variable {h1:Heap}
section
variable {h2:Heap}
theorem jO.sub (k:Sub h h1):jO Ps Ps h h1:=⟨k.t,k.keep,fun V q=>.inl q,fun V q=>.inl q⟩
theorem jO.old (a:jO Ps Qs h h1) (n:h1.get? z=none):z∈Wl Ps∨h.get? z=none:=Classical.or_iff_not_imp_left.mpr fun c=>by
 cases e:h.get? z with
 |none=>rfl
 |some o=>exact u5 n (a.k z o c e)
theorem jO.trans (a:jO Ps Qs h h1) (b:jO Qs Rs h1 h2):jO Ps Rs h h2:=
 ⟨a.t.trans b.t,fun x o n e=>b.k x o (fun q=>(a.w x q).elim n fun q=>u5 q e) (a.k x o n e),fun z q=>(b.w z q).elim (a.w z) a.old,fun z q=>(b.f z q).elim (a.f z) fun n=>(a.old n).imp_left sR⟩
theorem dh (h:z∈Fl Ps):∃P∈Ps,z∈P.F:=List.mem_flatMap.mp h
theorem jO.push (k:Sub h h1) (n:∀z∈Q.F,h.get? z=none):jO Ps (Q::Ps) h h1:=⟨k.t,k.keep,fun z q=>by
  refine ab (cf q) fun P a b=>?_
  exact (List.mem_cons.mp a).elim (fun e=>.inr (n z (e▸P.wf z b))) fun a=>.inl (et a b),fun z q=>by
  refine ab (dh q) fun P a b=>?_
  exact (List.mem_cons.mp a).elim (fun e=>.inr (n z (e▸b))) fun a=>.inl (bV a b)⟩
end
noncomputable abbrev LL:=List (Str×D)
noncomputable def Lo (env:Env) (z:Addr):Prop:=z=env.locals∨∃n,env.cells.lookup n=some z
noncomputable def lv (env:Env) (m:ma) (x:Str):Option Value:=if env.kindOf x=some .cell then m.c x else m.m x
structure Pd (env:Env):Prop where
 k:env.scope.kind= .function
 g:env.globals=mainGlobals
 b:env.builtins=builtinsNs
noncomputable def jR (env:Env):List Addr:=env.locals::env.cells.map fun p=>(env.cells.lookup p.1).getD env.locals
theorem dE {env:Env} {z:Addr}:z∈jR env↔Lo env z:=by
 refine ⟨fun h=>(List.mem_cons.mp h).elim .inl fun h=>?_,fun h=>h.elim (fun e=>e▸ .head _) fun zz=>cQ zz fun n e=>?_⟩
 ·refine ab (List.mem_map.mp h) fun p hp e=>?_
  cases q:env.cells.lookup p.1 with
  |none=>rw [q] at e;exact .inl e.symm
  |some a=>rw [q] at e;exact .inr ⟨p.1,by rw [q,←e];rfl⟩
 ·exact .tail _ (List.mem_map.mpr (a9 _ (mem_of_lookup e) (by simp [e])))
structure xF (w:World) (env:Env) (m:ma) (L:LL) (Ps:List HP) (h:Heap):Prop where
 a:At env h m h
 l:∀x d,L.lookup x=some d→∃v,lv env m x=some v∧RD h v d
 S:∀P∈Ps,P.S h
 fr:lR w h (jR env)
 ce:∀n a,env.cells.lookup n=some a→a≠env.locals∧∀k,env.cells.lookup k=some a→k=n
 of:∀P∈Ps,∀z∈P.F,¬ Lo env z
 v:Pd env
structure St (w:World) (E:AP) (env:Env) (m:ma) (L:LL) (Ps:List HP) (h:Heap):Prop where
 f:Fi w E Ps h
 a:At env h m h
 l:∀x d,L.lookup x=some d→∃v,lv env m x=some v∧RD h v d
 lo:∀z,Lo env z→z∈E.W∨E.g.get? z=none
 ce:∀n a,env.cells.lookup n=some a→a≠env.locals∧∀k,env.cells.lookup k=some a→k=n
 of:∀P∈Ps,∀z∈P.F,¬ Lo env z
 v:Pd env
variable {L:LL}
section
variable {rs:List Nat}
theorem St.pst (X:St w E env m L Ps h):xF w env m L Ps h:=⟨X.a,X.l,X.f.S,X.f.frsh _ fun z q=>X.lo z (dE.mp q),X.ce,X.of,X.v⟩
theorem xF.p (X:xF w env m L Ps h):cA w h:=X.fr.pin
theorem St.loEx (X:St w E env m L Ps h) (q:Lo env z):∃o,h.get? z=some o:=q.elim (fun e=>e▸cn X.a.ns fun o V V e V=>⟨o,e⟩) fun zz=>cQ zz fun n e=>ab (X.a.cs n z e) fun o e V=>⟨o,e⟩
theorem St.new (X:St w E env m L Ps h) (n:h.get? z=none):¬ Lo env z:=fun q=>nj (X.loEx q) n
theorem yL {g:Heap} (l:∀x d,L.lookup x=some d→∃v,lv env m x=some v∧RD g v d) (t:bl g h):∀x d,L.lookup x=some d→∃v,lv env m x=some v∧RD h v d:=fun x d e=>ab (l x d e) fun v a b=>a9 v a (b.mono t)
theorem At.kp {g:Heap} (a:At env g m g) (k:∀z,Lo env z→∀o,g.get? z=some o→h.get? z=some o):At env h m h:=
 ⟨Sub.rfl',rT a.ns fun o e=>k _ (.inl rfl) o e,fun n b e=>ab (a.cs n b e) fun oc hc hd=>a9 oc (k _ (.inr ⟨n,e⟩) _ hc) hd⟩
theorem St.sub (X:St w E env m L Ps h) (k:Sub h h'):St w E env m L Ps h':=⟨X.f.sub k,X.a.kp fun z V o e=>k z o e,yL X.l k.t,X.lo,X.ce,X.of,X.v⟩
theorem St.call {W F:List Addr} (X:St w E env m L (Pre++Rs) h) (Y:Fi w ⟨h,W,F⟩ Qs h') (hW:∀z∈W,z∈Wl Pre) (hF:∀z∈F,z∈Fl Pre):St w E env m L (Qs++Rs) h':=
 ⟨X.f.call Y hW hF,X.a.kp fun z hz o e=>Y.kp z o (fun q=>(cf (hW z q)).elim fun P q=>X.of P (List.mem_append_left _ q.1) z (P.wf z q.2) hz) e,yL X.l Y.tt,X.lo,X.ce,fun P hP z hz=>(List.mem_append.mp hP).elim (fun q=>((Y.ext P q).2 z hz).elim (fun q=>by
  refine ab (List.mem_flatMap.mp (hF z q)) fun P0 h0 h1=>?_
  exact X.of P0 (List.mem_append_left _ h0) z h1) X.new) fun q=>X.of P (List.mem_append_right _ q) z hz,X.v⟩
theorem St.sel (X:St w E env m L Ps h) (nd:ks.Nodup):St w E env m L (sel ks Ps) h:=⟨X.f.sel nd,X.a,X.l,X.lo,X.ce,fun P q=>X.of P (k9 q),X.v⟩
theorem St.push (X:St w E env m L Ps h) (k:Sub h h') (st:Q.S h') (n:∀z∈Q.F,h.get? z=none):St w E env m L (Q::Ps) h':=
 have Y:=X.sub k
 ⟨X.f.push k st n,Y.a,Y.l,Y.lo,Y.ce,fun P hP z hz=>(List.mem_cons.mp hP).elim (fun e=>X.new (n z (e▸hz))) fun q=>X.of P q z hz,X.v⟩
theorem St.conv (X:St w E env m L Ps h) (Q:HP) (ks rs:List Nat) (nd:rs.Nodup) (st:Q.S h) (hW:∀z∈Q.W,z∈Wl (Mine.sel ks Ps)) (hF:∀z∈Q.F,z∈Fl (Mine.sel ks Ps))
  (ro:∀k∈ks,k∈rs→∀P,Ps[k]? =some P→P.W= []):St w E env m L (Q::Mine.sel rs Ps) h:=
 ⟨X.f.conv Q ks rs nd st hW hF ro,X.a,X.l,X.lo,X.ce,fun P hP z hz=>(List.mem_cons.mp hP).elim (fun e=>by
  refine ab (List.mem_flatMap.mp (hF z (e▸hz))) fun P0 h0 h1=>?_
  exact X.of P0 (k9 h0) z h1) fun q=>X.of P (k9 q) z hz,X.v⟩
theorem St.loc (X:St w E env m L Ps h) {L':LL} (e:∀x d,L'.lookup x=some d→L.lookup x=some d):St w E env m L' Ps h:=⟨X.f,X.a,fun x d q=>X.l x d (e x d q),X.lo,X.ce,X.of,X.v⟩
theorem St.set (X:St w E env m L Ps h) (bt:O9 env.locals h h') (t:bl h h') (a:At env h' (m.set y v) h') (r:RD h' v d) (hl:env.kindOf y=some .local):St w E env (m.set y v) ((y,d)::L) Ps h':=
 ⟨X.f.hid (Z:=[env.locals]) (fun b o n e=>bt b o (fun q=>n (q▸ .head _)) e) t (fun z q=>X.lo z (.inl (List.mem_singleton.mp q))) fun P hP z hz q=>X.of P hP z hz (.inl (List.mem_singleton.mp q)),a,fun x e q=>by
  refine (fN q).elim (fun q=>a9 v ?_ (q.2▸r)) fun q=>?_
  ·rw [q.1,lv,if_neg (by rw [hl];decide)];exact if_pos rfl
  ·refine ab (X.l x e q.2) fun u a b=>?_
   exact a9 u (by rw [←a,lv,lv];exact congrArg (ite _ _) (if_neg q.1)) (b.mono t),X.lo,X.ce,X.of,X.v⟩
theorem St.perm (X:St w E env m L Ps h) (p:Ps.Perm Qs):St w E env m L Qs h:=
 ⟨⟨X.f.fr,X.f.ew,X.f.kp,X.f.tt,fun P q=>X.f.S P (p.mem_iff.mpr q),(p.pairwise_iff fun a=>a.symm).mp X.f.sep,fun P q=>X.f.ext P (p.mem_iff.mpr q)⟩,X.a,X.l,X.lo,X.ce,fun P q=>X.of P (p.mem_iff.mpr q),X.v⟩
theorem Cf {α:Type _} {a:α}:∀{l:List α} {k:Nat},l[k]? =some a→l.Perm (a::l.eraseIdx k)
 |x::l,0,e=>by cases e;exact .refl _
 |x::l,k+1,e=>(List.Perm.cons x (Cf (l:=l) (k:=k) e)).trans (.swap ..)
theorem xv {α:Type _} {a b:α}:∀{l:List α} {k:Nat},l[k]? =some a→(b::l.eraseIdx k).Perm (l.set k b)
 |x::l,0,e=>.refl _
 |x::l,k+1,e=>(List.Perm.swap ..).trans (.cons x (xv (l:=l) (k:=k) e))
theorem St.upd (X:St w E env m L Ps h) {k:Nat} (hP:Ps[k]? =some P) (kp:cv P.W h h') (t:bl h h') (st:Q.S h') (hW:∀z∈Q.W,z∈P.W∨h.get? z=none) (hF:∀z∈Q.F,z∈P.F∨h.get? z=none):St w E env m L (Ps.set k Q) h':=by
 exact (St.call (Pre:=[P]) (Qs:=[Q]) (X.perm (Cf hP)) (X.f.one (List.mem_of_getElem? hP) kp t st hW hF) (fun z hz=>by simpa [Wl] using hz) fun z hz=>by simpa [Fl] using hz).perm (xv hP)
end
noncomputable def bT (env:Env) (x:Str):Bool:=env.scope.kind== .function&&(env.kindOf x==some .local||(env.kindOf x==some .cell&&(env.cells.lookup x).isSome))&& !(x==("__debug__":Str))
theorem St.hid {Z:List Addr} (X:St w E env m L Ps h) (k:cv Z h h') (t:bl h h') (zE:∀z∈Z,z∈E.W∨E.g.get? z=none) (zP:∀P∈Ps,∀z∈P.F,z∉Z) (zL:∀z∈Z,¬ Lo env z):St w E env m L Ps h':=
 ⟨X.f.hid k t zE zP,X.a.kp fun z q o e=>k z o (fun hz=>zL z hz q) e,yL X.l t,X.lo,X.ce,X.of,X.v⟩
noncomputable def n6 (env:Env) (x:Str):Addr:=if env.kindOf x=some .cell then (env.cells.lookup x).getD env.locals else env.locals
theorem Jq {x:Str}:Lo env (n6 env x):=by
 unfold n6
 split
 ·cases q:env.cells.lookup x with
  |none=>exact .inl rfl
  |some a=>exact .inr ⟨x,q⟩
 ·exact .inl rfl
noncomputable def Kl (env:Env) (xs:List Str) (h h':Heap):Prop:=∀b o,(∀x∈xs,b≠n6 env x)→h.get? b=some o→h'.get? b=some o
theorem Kl.no {xs:List Str} {b:Addr} {o:Obj} (k:Kl env xs h h') (n:¬ Lo env b) (e:h.get? b=some o):h'.get? b=some o:=k b o (fun x V q=>n (q▸Jq)) e
theorem St.setC {a:Addr} (X:St w E env m L Ps h) (hl:env.kindOf y=some .cell) (hc:env.cells.lookup y=some a) (hb:Heap.SameBut a h h') (hv:h'.IsCell a (some v)) (r:RD h v d):St w E env (m.setc y v) ((y,d)::L) Ps h'∧bl h h':=by
 have la:Lo env a:=.inr ⟨y,hc⟩
 have k:cv [a] h h':=fun b o n e=>(hb.2 b fun q=>n (q▸ .head _)).trans e
 have t:bl h h':=k.t fun b hb' vs n e=>by
  rw [List.mem_singleton.mp hb'] at e
  refine ab (X.a.cs y a hc) fun oc ho hd=>?_
  rw [ho] at e
  cases vs<;>cases e<;>cases hd
 refine ⟨⟨X.f.hid k t (fun z q=>List.mem_singleton.mp q▸X.lo a la) (fun P hP z hz q=>X.of P hP z hz (List.mem_singleton.mp q▸la)),⟨Sub.rfl',rT X.a.ns fun o e=>k _ o (fun q=>(X.ce y a hc).1 (List.mem_singleton.mp q).symm) e,fun n b e=>?_⟩,fun x e q=>?_,X.lo,X.ce,X.of,X.v⟩,t⟩
 ·by_cases q:n=y
  ·subst q
   rw [hc] at e;cases e
   simpa [ma.setc] using hv
  ·refine ab (X.a.cs n b e) fun oc ho hd=>?_
   exact a9 oc (k b oc (fun z=>q ((X.ce y a hc).2 n (List.mem_singleton.mp z▸e))) ho) (by rw [hd];simp [ma.setc,q])
 ·refine (fN q).elim (fun q=>a9 v ?_ (q.2▸r.mono t)) fun q=>?_
  ·rw [q.1,lv,if_pos hl];exact if_pos rfl
  ·refine ab (X.l x e q.2) fun u a b=>?_
   exact a9 u (by rw [←a,lv,lv];exact congrArg (ite _ · _) (if_neg q.1)) (b.mono t)
theorem eO {A:Around} {s:Shared} {Q:Unit→Shared→Prop} {EE:Value→Shared→Prop} (X:St w E env m L Ps s.heap) (r:RD s.heap v d) (hk:bT env y=true) (q:∀m' h2 t2,St w E env m' ((y,d)::L) Ps h2→Kl env [y] s.heap h2→bl s.heap h2→Q () (sh s h2 t2)):wpAny (model pw w) A (storeName env y v) Q EE s:=by
 simp only [bT,Bool.and_eq_true,beq_iff_eq,Bool.or_eq_true,Bool.not_eq_true'] at hk
 refine Kk hk fun k1 k2 k3=>?_
 rcases k2 with k2 |⟨k2,k4⟩
 ·refine wpAny_storeName_local k2 X.a.ns (fun h2 hn hb=>?_) (by rw [k1];rfl)
  have bt:O9 env.locals s.heap h2:=fun b o hne e=>(hb.2 b hne).trans e
  refine a8 X.a.ns fun o es ep ho hd V=>?_
  have tt:bl s.heap h2:=fun a vs n e=>bt _ _ (fun q=>by rw [←q,e] at ho;exact fW ho hd) e
  have a2:At env h2 (m.set y v) h2:=⟨Sub.rfl',hn,fun n a e=>ab (X.a.cs n a e) fun oc hc hd=>a9 oc (bt _ _ (X.ce n a e).1 hc) hd⟩
  exact q _ h2 _ (X.set bt tt a2 (r.mono tt) k2) (fun b o n e=>bt b o (by rw [←show n6 env y=env.locals from if_neg (by rw [k2];decide)];exact n y (.head _)) e) tt
 ·refine cQ (Option.isSome_iff_exists.mp k4) fun a hc=>?_
  refine wpAny_storeName_cell k1 k2 hc (X.a.cs y a hc) fun h2 hv hb=>?_
  have Y:=X.setC k2 hc hb hv r
  exact q _ h2 s.toks Y.1 (fun b o n e=>(hb.2 b (by rw [←show n6 env y=a from (if_pos k2).trans (by rw [hc];rfl)];exact n y (.head _))).trans e) Y.2
noncomputable def sm:Expr→Bool | .Starred .. =>false | .ListComp .. =>false | .SetComp .. =>false | .DictComp .. =>false | .Set .. =>false | .Slice .. =>false |_=>true
noncomputable def ns:Expr→Bool | .Starred .. =>false |_=>true
theorem aQ (h:ns e=true):starEach (e::r) env=(false,eval e env)::starEach r env:=by cases e<;>first |rfl |cases h
theorem l7:∀{r:List Expr},r.all ns=true→(backTo pos (starEach r env)).any (·.1)=false
 | [],_=>rfl
 |e::r,h=>by
  have h:=Bool.and_eq_true_iff.mp h
  rw [aQ h.1]
  exact l7 h.2
noncomputable def nb:Expr→Bool | .Call (.Name ..) .. =>false |_=>true
set_option tactic.hygienic true in
theorem Bf {o:Expr} {x:Str} {W:Sem Value} (h:nb o=true):attributeBase o x env W=W:=by
 cases o<;>try rfl
 rename_i f _ _ _
 cases f<;>first |rfl |cases h
theorem IM {o:Expr} {x:Str} (h:nb o=true):eval (.Attribute o x pos) env=(do
   let v←eval o env
   standAt pos.atName
   let r←holding [v] (getAttr v x true)
   letTemporaryGo o v r
   pure r):=by
 show (do let v←attributeBase o x env (eval o env);_)=_
 rw [Bf h]
noncomputable abbrev Q7 (o:Expr) (env:Env):Sem Bool:=do return (←importBound o env).getD true
noncomputable def qa (o:Expr) (es:List Expr) (p1 pos:Pos):Bool:=(nb o&&es.all ns)&&(decide (es.length <30)&&p1.endLine==pos.line)
theorem GP:∀{r:List Expr},r.all ns=true→(backTo pos (starEach r env)).all (!·.1)=true
 | [],_=>rfl
 |e::r,h=>by
  have h:=Bool.and_eq_true_iff.mp h
  rw [aQ h.1]
  exact GP h.2
theorem rU {o:Expr} {x:Str} {es:List Expr} {p1:Pos} (h:qa o es p1 pos=true):eval (.Call (.Attribute o x p1) es [] pos) env=(do
   let ov←eval o env
   standAt p1.atName
   let (f,first)←holding [ov] (getMethod ov x (Q7 o env))
   callWith pos f first (backTo pos (starEach es env)) []):=by
 refine bC (Bool.and_eq_true_iff.mp h) fun h1 h2=>?_
 refine bC (Bool.and_eq_true_iff.mp h1) fun h1 h3=>?_
 refine bC (Bool.and_eq_true_iff.mp h2) fun h2 h4=>?_
 have fm:methodCallForm (es.length+0) (backTo pos (starEach es env)) []=true:=by
  unfold methodCallForm
  rw [GP h3]
  simpa using h2
 show (do let ov←attributeBase o x env (eval o env);standAt p1.atName;methodCall o x p1 pos env ov (es.length+0) (backTo pos (starEach es env)) [])=_
 rw [Bf h1]
 unfold methodCall calleeOf methodCallPos
 rw [fm,h4]
 rfl
theorem qd {t:Option Expr} {l:Nat} (h:sm e=true):swapsWith e t l env=pure false:=by cases e<;>first |rfl |cases h
theorem me {op:CmpOp} (h:sm e=true):behindInMarks op e=false:=by cases e<;>first |rfl |cases h
theorem Bh {x:Value} (h:sm e=true):foldedSetIterable e env x=pure x:=by cases e<;>first |rfl |cases h
theorem mQ {o i:Value} (h:sm e=true):subscripted e false o i=operate [o,i] (getItem o i):=by cases e<;>first |rfl |cases h
structure Cx (w:World) (n:Nat) where
 A:Around
 r:Rm n A
 E:AP
structure Po where
 ret:D→List HP→Prop
 nx:LL→List HP→Prop
 ct:LL→List HP→Prop
noncomputable def Px (w:World) (E:AP) (env:Env) (J:Po):Flow→Heap→Prop
 | .next,h=>∃m L Ps,J.nx L Ps∧St w E env m L Ps h
 | .cont,h=>∃m L Ps,J.ct L Ps∧St w E env m L Ps h
 | .ret v,h=>∃d Ps,J.ret d Ps∧RD h v d∧Fi w E Ps h
 | .brk,_=>False
noncomputable def Tr (c:Cx w n) (env:Env) (L:LL) (Ps:List HP) (ss:List Stmt) (J:Po):Prop:=∀s h t m,St w c.E env m L Ps h→bg w c.A (execs ss env) (sh s h t) (Px w c.E env J)
noncomputable def Xe (c:Cx w n) (env:Env) (L:LL) (Ps:List HP) (e:Expr) (K:D→List HP→Prop):Prop:=∀s h t m,St w c.E env m L Ps h→bg w c.A (eval e env) (sh s h t) fun v h'=>∃d Qs,K d Qs∧RD h' v d∧St w c.E env m L Qs h'∧jO Ps Qs h h'
noncomputable def Xa (c:Cx w n) (env:Env) (L:LL) (Ps:List HP) (es:List Expr) (K:List D→List HP→Prop):Prop:=∀s h t m pos,St w c.E env m L Ps h→bg w c.A (spliced (backTo pos (starEach es env))) (sh s h t) fun vs h'=>∃ds Qs,K ds Qs∧bp h' vs ds∧St w c.E env m L Qs h'∧jO Ps Qs h h'
noncomputable def Xt (c:Cx w n) (env:Env) (L:LL) (Ps:List HP) (e:Expr) (K:Bool→List HP→Prop):Prop:=∀s h t m,St w c.E env m L Ps h→bg w c.A (isTrue e env (eval e env)) (sh s h t) fun b h'=>∃Qs,K b Qs∧St w c.E env m L Qs h'∧jO Ps Qs h h'
noncomputable def Xp (c:Cx w n) (env:Env) (L:LL) (Ps:List HP) (e:Expr) (d:D):Prop:=∀h m,xF w env m L Ps h→Ev w c.A env h m e d
noncomputable def Xl (c:Cx w n) (env:Env) (L:LL) (Ps:List HP) (e:Expr) (ds:List D):Prop:=∀h m,xF w env m L Ps h→su w c.A env h m e ds
noncomputable def Xq (c:Cx w n) (env:Env) (L:LL) (Ps:List HP) (es:List Expr) (ds:List D):Prop:=∀h m,xF w env m L Ps h→Cj w c.A env h m es ds
noncomputable def Xu (c:Cx w n) (env:Env) (L:LL) (Ps:List HP) (e:Expr) (b:Bool):Prop:=∀h m,xF w env m L Ps h→w9 w c.A env h m e b
noncomputable def Sp (w:World) (n:Nat) (f:Addr) (ds:List D) (Pre:List HP) (Q:(D→List HP→Prop)→Prop):Prop:=
 ∀A,Rm n A→∀K,Q K→∀s vs,bp s.heap vs ds→lR w s.heap (Wl Pre)→(∀P∈Pre,P.S s.heap)→Pre.Pairwise rO→bg w A (call (.ref f) vs) s fun v h'=>∃d Qs,K d Qs∧RD h' v d∧Fi w ⟨s.heap,Wl Pre,Fl Pre⟩ Qs h'
noncomputable def Jt (w:World) (n:Nat) (f:Addr) (ds:List D) (Ps:List HP) (K:D→List HP→Prop):Prop:=
 ∃k Pre Rs Q,Sp w k f ds Pre Q∧k≤n∧Ps.Perm (Pre++Rs)∧Q fun d Qs=>K d (Qs++Rs)
noncomputable def Nk (c:Cx w n) (env:Env) (rest:List Stmt) (J:Po):Po:=⟨J.ret,fun L Ps=>Tr c env L Ps rest J,J.ct⟩
noncomputable def KS (c:Cx w n) (env:Env) (L:LL) (y:Str) (rest:List Stmt) (J:Po) (d:D) (Ps:List HP):Prop:=Tr c env ((y,d)::L) Ps rest J
noncomputable def KE (c:Cx w n) (env:Env) (L:LL) (rest:List Stmt) (J:Po) (d:D) (Ps:List HP):Prop:=d= .none∧Tr c env L Ps rest J
noncomputable def KT (c:Cx w n) (env:Env) (L:LL) (body orelse rest:List Stmt) (J:Po) (b:Bool) (Ps:List HP):Prop:=(b=true→Tr c env L Ps body (Nk c env rest J))∧(b=false→Tr c env L Ps orelse (Nk c env rest J))
noncomputable def DN (K:D→List HP→Prop):Po:=⟨K,fun V Ps=>K .none Ps,fun V V=>False⟩
noncomputable abbrev iJ (L0 L:LL):Prop:=L0.map (fun p=>L.lookup p.1)=L0.map fun p=>some p.2
noncomputable def N7 (I:(LL→List HP→Prop)→Prop) (L:LL) (Ps:List HP):Prop:=∃L0,iJ L0 L∧∀K,I K→K L0 Ps
noncomputable def Lu (J:Po) (I:(LL→List HP→Prop)→Prop):Po:=⟨J.ret,N7 I,N7 I⟩
theorem C6 {α β:Type} {f g:α→β} {l:List α} (e:l.map f=l.map g) {a:α} (h:a∈l):f a=g a:=by
 obtain ⟨i,hi,q⟩:=List.mem_iff_getElem.mp h
 have:=congrArg (·[i]?) e
 simp only [List.getElem?_map,List.getElem?_eq_getElem hi,q,Option.map_some,Option.some.injEq] at this
 exact this
theorem iJ.look {L0 L:LL} (s:iJ L0 L) {x:Str} {d:D} (e:L0.lookup x=some d):L.lookup x=some d:=C6 s (mem_of_lookup e)
set_option tactic.hygienic true in
theorem iJ.app {L0 L:LL} (s:iJ L0 L):∀(Y:LL) {x:Str} {d:D},(Y++L0).lookup x=some d→(Y++L).lookup x=some d
 | [],_,_,e=>s.look e
 |(y,a)::Y,x,d,e=>by
  rw [List.cons_append,List.lookup_cons] at e ⊢
  split
  ·rename_i c;rw [c] at e;exact e
  ·rename_i c;rw [c] at e;exact s.app Y e
theorem Rm.le {m n:Nat} {A:Around} (r:Rm n A) (h:m≤n):Rm m A:=⟨by have:=r.d;lia,by have:=r.u;lia,r.h⟩
noncomputable def dY (env:Env) (y:Str):Bool:=env.kindOf y==some .globalImplicit&& !(y==("__debug__":Str))
noncomputable def Hs (Ps:List HP) (S:Heap→Prop):Prop:=∀h,(∀P∈Ps,P.S h)→S h
noncomputable abbrev aq (a:Addr) (ds:List D):HP:=⟨[a],[a],fun h=>cN h a ds,lK,fun V h=>h⟩
section
variable {w:World} {n k:Nat} {c:Cx w n} {env:Env} {E:AP} {m:ma} {L:LL} {Ps Qs Pre Rs:List HP} {P Q:HP} {h h':Heap} {e e1 e2 o i:Expr} {es r:List Expr} {pos p1:Pos} {K:D→List HP→Prop} {KA:List D→List HP→Prop} {KB:Bool→List HP→Prop} {x y:Str} {d d1 d2:D} {ds:List D} {b b1 b2:Bool} {f a C dx:Addr} {fs:List (Str×D)} {S T:Heap→Prop} {k0:Nat} {op:CmpOp} {QQ:(D→List HP→Prop)→Prop}
theorem hs (k:Nat) (e:autoParam (Ps[k]? =some P) aR):Hs Ps P.S:=fun h q=>q P (List.mem_of_getElem? e)
theorem Hs.mp (O:Hs Ps S) (f:∀h,S h→T h):Hs Ps T:=fun h q=>f h (O h q)
theorem bN (h:dY env y=true):env.kindOf y=some .globalImplicit∧(y==("__debug__":Str))=false:=by simpa [dY] using h
theorem fD (h:qa o (e::r) p1 pos=true):ns e=true∧r.all ns=true:=by
 simp only [qa,List.all_cons,Bool.and_eq_true] at h
 exact h.1.2
theorem OP {A:Around} (p:xF w env m L Ps h) (e:L.lookup x=some d) (hk:bT env x=true):Ev w A env h m (.Name x pos) d:=by
 refine ab (p.l x d e) fun v a r=>?_
 simp only [bT,Bool.and_eq_true,beq_iff_eq,Bool.or_eq_true,Bool.not_eq_true'] at hk
 refine Kk hk fun k1 k2 k3=>?_
 rcases k2 with k2 |⟨k2,k4⟩
 ·exact cw (by rw [←a,lv,if_neg (by rw [k2];decide)]) r k1 k2 k3
 ·refine cQ (Option.isSome_iff_exists.mp k4) fun cc hc=>?_
  exact HL (by rw [←a,lv,if_pos k2]) r hc k1 k2 k3
theorem aa (e:L.lookup x=some d) (hk:autoParam (bT env x=true) aR):Xp c env L Ps (.Name x pos) d:=fun V V p=>OP p e hk
theorem aj {i:Int}:Xp c env L Ps (.Constant (.int i) k0 pos) (.int i):=fun V V V=>gc
theorem bu:Xp c env L Ps (.Constant (.str x) k0 pos) (.str x):=fun V V V=>MH
theorem gh:Xp c env L Ps (.Constant .none k0 pos) .none:=fun V V V=>IJ
theorem nQ (a:Xp c env L Ps e1 d1) (b:Xp c env L Ps e2 d2) (hc:∀h,iD w c.A h op d1 d2 b1) (hs:autoParam (sm e2=true) aR):Xp c env L Ps (.Compare e1 [op] [e2] pos) (.bool b1):=fun h m p=>Ay (a h m p) (b h m p) (hc h) (me hs)
theorem LH (a:Xp c env L Ps e1 d1) (b:Xp c env L Ps e2 d2) (O:Hs Ps S) (hc:∀h,S h→iD w c.A h op d1 d2 b1) (hs:autoParam (sm e2=true) aR):Xp c env L Ps (.Compare e1 [op] [e2] pos) (.bool b1):=fun h m p=>Ay (a h m p) (b h m p) (hc h (O h p.S)) (me hs)
theorem b7 {op:Operator} (a:Xp c env L Ps e1 d1) (b:Xp c env L Ps e2 d2) (hc:∀h,DK w c.A h op d1 d2 d):Xp c env L Ps (.BinOp e1 op e2 pos) d:=fun h m p=>fJ (a h m p) (b h m p) (hc h)
theorem bB (b:Xp c env L Ps o (.ref a)) (O:Hs Ps fun h=>Ob w h a C dx fs) (ok:jA (Mine.K w.params) C x=true) (g:fs.lookup x=some d) (hn:autoParam (nb o=true) aR):Xp c env L Ps (.Attribute o x pos) d:=fun h m p=>vz p.p (b h m p) (O h p.S) ok g (IM hn)
theorem iw {k:Nat} (a:Xp c env L Ps e (.tup ds)) (b:Xp c env L Ps i (.int k)) (g:ds[k]? =some d) (hk:autoParam (k <1000) aD) (hs:autoParam (sm i=true) aR):Xp c env L Ps (.Subscript e i pos) d:=fun h m p=>HV (a h m p) (b h m p) g hk fun V V=>mQ hs
theorem dM {k:Nat} (b1:Xp c env L Ps e (.ref a)) (b:Xp c env L Ps i (.int k)) (O:Hs Ps fun h=>i6 h a ds) (g:ds[k]? =some d) (hk:autoParam (k <1000) aD) (hs:autoParam (sm i=true) aR):Xp c env L Ps (.Subscript e i pos) d:=fun h m p=>yx (b1 h m p) (b h m p) (O h p.S) g hk fun V V=>mQ hs
theorem i9 {KK:Type} [DecidableEq KK] {knd:KeyKind pw w KK} {kds:List (KK×D)} {key:KK} {dk:D} (b1:Xp c env L Ps e (.ref a)) (b:Xp c env L Ps i dk) (hk:∀h v,RD h v dk→knd.is key v=true) (O:Hs Ps fun h=>nh knd h a kds) (g:fu kds key=some d) (hs:autoParam (sm i=true) aR):Xp c env L Ps (.Subscript e i pos) d:=fun h m p=>xN (b1 h m p) (b h m p) hk (O h p.S) g fun V V=>mQ hs
theorem gU (a:Xq c env L Ps es ds) (hz:autoParam (ds.length≤100) aN):Xp c env L Ps (.Tuple es k0 pos) (.tup ds):=fun h m p=>yc (a h m p) hz
theorem BS (a:Xp c env L Ps e (.bool b)):Xp c env L Ps (.UnaryOp .Not e pos) (.bool (!b)):=fun h m p=>K8 (a h m p)
theorem o5 (t:Xu c env L Ps e b) (h1:b=true→Xp c env L Ps e1 d) (h2:b=false→Xp c env L Ps e2 d):Xp c env L Ps (.IfExp e e1 e2 pos) d:=fun h m p=>KW (t h m p) (fun q=>h1 q h m p) fun q=>h2 q h m p
theorem gJ (a:Xq c env L Ps (e::r) ds) (en:nsIn (Mine.K w.params) mainGlobals y=some (some (.ref f))) (hk:keepIn (Mine.K w.params) (.ref f)=true) (O:Hs Ps S) (fn:∀h,cA w h→S h→Fn w c.A h f ds d) (hy:autoParam (dY env y=true) aR) (hn:autoParam ((e::r).all ns=true) aR):Xp c env L Ps (.Call (.Name y p1) (e::r) [] pos) d:=fun h m p=>
 have hn:=Bool.and_eq_true_iff.mp hn
 J8 p.p p.v.g en hk (a h m p) (fn h p.p (O h p.S)) p.v.k (bN hy).1 (bN hy).2 (aQ hn.1) (l7 hn.2)
theorem oY (b:Xp c env L Ps o (.ref a)) (O:Hs Ps fun h=>Ob w h a C dx fs) (q:Xq c env L Ps (e::r) ds) (om:de (Mine.K w.params) C x f=true) (g:fs.lookup x=none) (O2:Hs Ps S) (fn:∀h,cA w h→S h→Fn w c.A h f (.ref a::ds) d) (hm:autoParam (qa o (e::r) p1 pos=true) aR):Xp c env L Ps (.Call (.Attribute o x p1) (e::r) [] pos) d:=fun h m p=>
 have hn:=fD hm
 Bu p.p (b h m p) (O h p.S) om g (q h m p) (fn h p.p (O2 h p.S)) (aQ hn.1) (l7 hn.2) (rU hm)
theorem vn (b:Xp c env L Ps o (.ref a)) (O:Hs Ps fun h=>Ob w h a C dx fs) (om:de (Mine.K w.params) C x f=true) (g:fs.lookup x=none) (O2:Hs Ps S) (fn:∀h,cA w h→S h→Fn w c.A h f [.ref a] d) (hm:autoParam (qa o [] p1 pos=true) aR):Xp c env L Ps (.Call (.Attribute o x p1) [] [] pos) d:=fun h m p=>FE p.p (b h m p) (O h p.S) om g (fn h p.p (O2 h p.S)) (rU hm)
theorem aC:Xq c env L Ps [] []:=fun V V V=>gC
theorem ae (a:Xp c env L Ps e d) (b:Xq c env L Ps es ds) (hn:autoParam (ns e=true) aR):Xq c env L Ps (e::es) (d::ds):=fun h m p=>dF (a h m p) (b h m p) (aQ hn)
theorem bF (a:Xp c env L Ps e1 d1) (b:Xp c env L Ps e2 d2) (hc:∀h,iD w c.A h op d1 d2 b1) (hs:autoParam (sm e2=true) aR):Xu c env L Ps (.Compare e1 [op] [e2] pos) b1:=fun h m p=>qG (a h m p) (b h m p) (hc h) (me hs)
theorem iq (a:Xp c env L Ps e1 d1) (b:Xp c env L Ps e2 d2) (O:Hs Ps S) (hc:∀h,S h→iD w c.A h op d1 d2 b1) (hs:autoParam (sm e2=true) aR):Xu c env L Ps (.Compare e1 [op] [e2] pos) b1:=fun h m p=>qG (a h m p) (b h m p) (hc h (O h p.S)) (me hs)
noncomputable def pt:Expr→Bool | .UnaryOp .. =>false | .BoolOp .. =>false | .IfExp .. =>false | .Compare .. =>false |_=>true
theorem BX {W:Sem Value} (h:pt e=true):isTrue e env W=(do let v←W;standAt e.pos;holding [v] (truthy v)):=by cases e<;>first |rfl |cases h
theorem dA (a:Xp c env L Ps e (.bool b)) (hp:autoParam (pt e=true) aR):Xu c env L Ps e b:=fun h m p=>L9 (a h m p) fun V=>BX hp
theorem fY (a:Xu c env L Ps e b):Xu c env L Ps (.UnaryOp .Not e pos) (!b):=fun h m p=>Jf (a h m p)
theorem zN:Xu c env L Ps (.BoolOp .And [] pos) true:=fun V V V=>Fq
theorem Ci:Xu c env L Ps (.BoolOp .Or [] pos) false:=fun V V V=>HW
theorem fB (a:Xu c env L Ps e b1) (b:b1=true→Xu c env L Ps (.BoolOp .And r pos) b2):Xu c env L Ps (.BoolOp .And (e::r) pos) (b1&&b2):=fun h m p=>I1 (a h m p) fun q=>b q h m p
theorem nO (a:Xu c env L Ps e b1) (b:b1=false→Xu c env L Ps (.BoolOp .Or r pos) b2):Xu c env L Ps (.BoolOp .Or (e::r) pos) (b1||b2):=fun h m p=>MD (a h m p) fun q=>b q h m p
theorem zw (e1:Xp c env L Ps e d) (k:K d Ps):Xe c env L Ps e K:=fun s h t m X=>(e1 h m X.pst (sh s h t) X.a).mono fun v h' q=>⟨d,Ps,k,q.2,X.sub q.1,.sub q.1⟩
theorem Hu (e1:Xl c env L Ps e ds) (k:∀a,K (.ref a) (aq a ds::Ps)):Xe c env L Ps e K:=fun s h t m X=>(e1 h m X.pst (sh s h t) X.a).mono fun v h'=>aM fun k1 a e l n=>⟨.ref a,_,k a,e▸ .ref a,X.push k1 l (fun z q=>List.mem_singleton.mp q▸n),.push k1 fun z q=>List.mem_singleton.mp q▸n⟩
theorem QL (e1:Xu c env L Ps e b) (k:KB b Ps):Xt c env L Ps e KB:=fun s h t m X=>(e1 h m X.pst (sh s h t) X.a).mono fun v h' q=>⟨Ps,q.2▸k,X.sub q.1,.sub q.1⟩
theorem Q0 (e1:Xe c env L Ps e fun d Qs=>∃b,d= .bool b∧KB b Qs) (hp:autoParam (pt e=true) aR):Xt c env L Ps e KB:=fun s h t m X Q E q=>
 isTrue_plain (e1 s h t m X _ _ fun v h1 t1=>d8 fun d Qs b e k r Y tt=>by subst e;cases r;exact wpAny_truthy_bool (q b h1 t1 ⟨Qs,k,Y,tt⟩)) (BX hp)
theorem AN (e1:Xq c env L Ps es ds) (k:KA ds Ps):Xa c env L Ps es KA:=fun s h t m pos X=>(e1 h m X.pst (sh s h t) pos X.a).mono fun v h' q=>⟨ds,Ps,k,q.2,X.sub q.1,.sub q.1⟩
theorem cR (k:KA [] Ps):Xa c env L Ps [] KA:=fun s h t m pos X=>vt ⟨[],Ps,k,.nil,X,.sub Sub.rfl'⟩
theorem dr (e1:Xe c env L Ps e fun d Qs=>Xa c env L Qs es fun ds Rs=>KA (d::ds) Rs) (hn:autoParam (ns e=true) aR):Xa c env L Ps (e::es) KA:=fun s h t m pos X=>
 t7 ((e1 s h t m X).mono fun v h1=>ak fun d Qs k r Y t1 tk=>(k s h1 tk m pos Y).mono fun vs h2=>ak fun ds Rs k2 rs Z t2=>⟨d::ds,Rs,k2,.cons (r.mono t2.t) rs,Z,t1.trans t2⟩) (aQ hn)
theorem eM (hl:L.lookup x=some d) (k:Xa c env L Ps es fun ds Rs=>KA (d::ds) Rs) (hm:autoParam (bT env x=true) aR):Xa c env L Ps (.Name x p1::es) KA:=dr (zw (aa hl hm) k) rfl
theorem Nu (q1:Xe c env L Ps e1 fun d1 Qs=>∃d2 b,Xp c env L Qs e2 d2∧(∀h,iD w c.A h op d1 d2 b)∧K (.bool b) Qs) (hs:autoParam (sm e2=true) aR):Xe c env L Ps (.Compare e1 [op] [e2] pos) K:=fun s h t m X Q E q=>
 wpAny_Compare1 (q1 s h t m X _ _ fun v1 g1 t1=>ak fun d1 Qs zz5 r1 Y tt=>cH zz5 fun d2 b a1 a2 k=>a1 g1 m Y.pst (sh s g1 t1) Y.a _ _ fun v2 g2 t2=>av fun k2 r2=>a2 g1 (sh s g2 t2) v1 v2 k2 (r1.mono k2.t) r2 _ _ fun v3 g3 t3=>av fun k3 r3=>q v3 g3 t3 ⟨.bool b,Qs,k,r3▸ .bool b,Y.sub (k2.trans k3),tt.trans (.sub (k2.trans k3))⟩) (me hs)
theorem Jt.run {s:Shared} {vs:List Value} (C:Jt w n f ds Ps K) (X:St w c.E env m L Ps s.heap) (rs:bp s.heap vs ds):bg w c.A (call (.ref f) vs) s fun v h'=>∃d Qs,K d Qs∧RD h' v d∧St w c.E env m L Qs h'∧jO Ps Qs s.heap h':=by
 refine gb C fun k Pre Rs Q sp hk pm q=>?_
 have Y:=X.perm pm
 have wl:∀{z},z∈Wl (Pre++Rs)→z∈Wl Ps:=fun q=>(cf q).elim fun P q=>et (pm.mem_iff.mpr q.1) q.2
 have fl:∀{z},z∈Fl (Pre++Rs)→z∈Fl Ps:=fun q=>(dh q).elim fun P q=>bV (pm.mem_iff.mpr q.1) q.2
 refine (sp c.A (c.r.le hk) _ q s vs rs (Y.f.frsh _ fun z q=>(cf q).elim fun P q=>(Y.f.ext P (List.mem_append_left _ q.1)).1 z q.2) (fun P hP=>Y.f.S P (List.mem_append_left _ hP)) (List.pairwise_append.mp Y.f.sep).1).mono fun v h'=>eX fun d Qs kk r Z=>⟨d,_,kk,r,Y.call Z (fun V h=>h) (fun V h=>h),Z.tt,Z.kp.more fun b q=>wl (mx▸mL q),fun z q=>?_,fun z q=>?_⟩
 ·exact (List.mem_append.mp (mx▸q)).elim (fun q=>(cf q).elim fun P q=>((Z.ext P q.1).1 z q.2).imp_left fun q=>wl (mx▸mL q)) fun q=>.inl (wl (mx▸mR q))
 ·exact (List.mem_append.mp (rg▸q)).elim (fun q=>(dh q).elim fun P q=>((Z.ext P q.1).2 z q.2).imp_left fun q=>fl (rg▸mL q)) fun q=>.inl (fl (rg▸mR q))
theorem gg (sp:Sp w k f ds Pre QQ) (q:QQ fun d Qs=>K d (Qs++Rs)) (hk:autoParam (Nat.ble k n=true) aR):Jt w n f ds (Pre++Rs) K:=⟨k,Pre,Rs,QQ,sp,Nat.le_of_ble_eq_true hk,.refl _,q⟩
theorem bw (en:nsIn (Mine.K w.params) mainGlobals y=some (some (.ref f))) (hk:keepIn (Mine.K w.params) (.ref f)=true) (xs:Xa c env L Ps (e::r) fun ds Qs=>Jt w n f ds Qs K) (hy:autoParam (dY env y=true) aR) (hn:autoParam ((e::r).all ns=true) aR):Xe c env L Ps (.Call (.Name y p1) (e::r) [] pos) K:=fun s h t m X=>
 have hn:=Bool.and_eq_true_iff.mp hn
 C5 X.a X.f.pin X.v.g en hk (fun t=>(xs s h t m pos X).mono fun vs h1=>ak fun ds Qs C rs Y tt=>⟨Y.f.pin,fun t1=>(C.run (s:=sh s h1 t1) Y rs).mono fun v h'=>ak fun d Rs k r Z t2=>⟨d,Rs,k,r,Z,tt.trans t2⟩⟩) X.v.k (bN hy).1 (bN hy).2 (aQ hn.1) (l7 hn.2)
theorem ij (b:Xp c env L Ps o (.ref a)) (O:Hs Ps fun h=>Ob w h a C dx fs) (q:Xq c env L Ps (e::r) ds) (om:de (Mine.K w.params) C x f=true) (gn:fs.lookup x=none) (C:Jt w n f (.ref a::ds) Ps K) (hm:autoParam (qa o (e::r) p1 pos=true) aR):Xe c env L Ps (.Call (.Attribute o x p1) (e::r) [] pos) K:=fun s h t m X=>
 have hn:=fD hm
 yX X.a X.f.pin (b h m X.pst) (O h X.f.S) om gn (q h m X.pst) (fun vs h1 t1 k1 rs=>(C.run (s:=sh s h1 t1) (X.sub k1) (.cons (.ref a) rs)).mono fun v h'=>ak fun d Rs k r Z t2=>⟨d,Rs,k,r,Z,(jO.sub k1).trans t2⟩) (aQ hn.1) (l7 hn.2) (rU hm)
theorem w0 (b:Xp c env L Ps o (.ref a)) (O:Hs Ps fun h=>Ob w h a C dx fs) (om:de (Mine.K w.params) C x f=true) (gn:fs.lookup x=none) (C:Jt w n f [.ref a] Ps K) (hm:autoParam (qa o [] p1 pos=true) aR):Xe c env L Ps (.Call (.Attribute o x p1) [] [] pos) K:=fun s h t m X=>
 u6 X.a X.f.pin (b h m X.pst) (O h X.f.S) om gn (fun h1 t1 k1=>(C.run (s:=sh s h1 t1) (X.sub k1) (.cons (.ref a) .nil)).mono fun v h'=>ak fun d Rs k r Z t2=>⟨d,Rs,k,r,Z,(jO.sub k1).trans t2⟩) (rU hm)
end
section
variable {w:World} {n k:Nat} {c:Cx w n} {env:Env} {E:AP} {m:ma} {L L0:LL} {Ps Qs Pre Rs:List HP} {P Q:HP} {h h':Heap} {e e1 e2 o i tgt iter:Expr} {r:List Expr} {pos p1 px:Pos} {rest body orelse:List Stmt} {J:Po} {K:D→List HP→Prop} {x y:Str} {d:D} {ds:List D} {b:Bool} {f a dx src l:Addr} {I:(LL→List HP→Prop)→Prop} {S:Heap→Prop} {k1:Nat} {QQ:(D→List HP→Prop)→Prop} {ks rs:List Nat}
theorem pS:∀(A B:List HP),sel (List.range' A.length B.length) (A++B)=B
 |A,[]=>rfl
 |A,b::B=>by
  rw [sel,List.length_cons,List.range'_succ,List.filterMap_cons,List.getElem?_append_right (Nat.le_refl _),Nat.sub_self]
  have:=pS (A++ [b]) B
  rw [List.length_append,List.append_assoc] at this
  exact congrArg (b:: ·) this
theorem He (pm:(ks++rs).Perm (List.range k)) (hl:Ps.length=k):Ps.Perm (sel ks Ps++sel rs Ps):=by
 have e:=pS [] Ps
 have:=(pm.filterMap (Ps[·]?)).symm
 rw [←hl,List.range_eq_range'] at this
 rw [←H6]
 exact (Eq.symm (show sel (List.range' 0 Ps.length) Ps=Ps from e)▸List.Perm.refl _:Ps.Perm (sel (List.range' 0 Ps.length) Ps)).trans this
theorem zy (ks rs:List Nat) (sp:Sp w k f ds Pre QQ) (q:QQ fun d Qs=>K d (Qs++sel rs Ps)) (hs:autoParam (sel ks Ps=Pre) aK) (pm:autoParam ((ks++rs).isPerm (List.range Ps.length)=true) aK) (hk:autoParam (Nat.ble k n=true) aR):Jt w n f ds Ps K:=gQ k Pre _ QQ sp (Nat.le_of_ble_eq_true hk) (hs▸He (List.isPerm_iff.mp pm) rfl) q
theorem cT (k:J.nx L Ps):Tr c env L Ps [] J:=fun s h t m X=>Io (yM m L Ps k X)
theorem bM (k:Tr c env L Ps rest J):Tr c env L Ps [] (Nk c env rest J):=cT k
theorem b9 (k:∀K,I K→K L0 Ps) (hl:iJ L0 L):Tr c env L Ps [] (Lu J I):=cT (a9 L0 hl k)
theorem zG (p:Ps.Perm Qs) (k:Tr c env L Qs rest J):Tr c env L Ps rest J:=fun s h t m X=>k s h t m (X.perm p)
theorem cq (ks:List Nat) (k:Tr c env L (sel ks Ps) rest J) (nd:autoParam (ks.Nodup) aD):Tr c env L Ps rest J:=fun s h t m X=>k s h t m (X.sel nd)
theorem xR (e1:Xe c env L Ps e (KS c env L y rest J)) (hk:autoParam (bT env y=true) aR) (hs:autoParam (sm e=true) aR):Tr c env L Ps (.Assign [.Name y p1] e pos::rest) J:=fun s h t m X Q E q=>
 wpAny_execs_cons (wpAny_Assign_Name (e1 s h t m X _ _ fun v h1 t1=>ak fun d Qs k r Y V=>eO (s:=sh s h1 t1) Y r hk fun m' h2 t2 Z V V=>k s h2 t2 m' Z Q E q) (qd hs))
theorem gw (e1:Xp c env L Ps e d) (k:Tr c env ((y,d)::L) Ps rest J) (hk:autoParam (bT env y=true) aR) (hs:autoParam (sm e=true) aR):Tr c env L Ps (.Assign [.Name y p1] e pos::rest) J:=xR (zw e1 k) hk hs
theorem kW (e1:Xe c env L Ps e J.ret):Tr c env L Ps (.Return (some e) pos::rest) J:=fun s h t m X=>ou ((e1 s h t m X).mono fun v h1=>ak fun d Qs k r Y V=>hZ d Qs k r Y.f)
theorem bz (e1:Xp c env L Ps e d) (k:J.ret d Ps):Tr c env L Ps (.Return (some e) pos::rest) J:=kW (zw e1 k)
theorem sV (k:J.ret .none Ps):Tr c env L Ps (.Return none pos::rest) J:=fun s h t m X=>F7 (hZ .none Ps k .none X.f)
theorem EP (e1:Xt c env L Ps e (KT c env L body orelse rest J)):Tr c env L Ps (.If e body orelse pos::rest) J:=fun s h t m X=>
 JA (b:=true) ((e1 s h t m X).mono fun b h1=>kD fun Qs k Y V t1=>by
  have gF:∀fl h2,Px w c.E env (Nk c env rest J) fl h2→Nx w c.A rest env s (Px w c.E env J) fl h2:=fun fl h2 z=>by
   cases fl with
   |next=>refine cn z fun m2 L2 P2 k2 Z=>?_;exact fun t2=>k2 s h2 t2 m2 Z
   |_=>exact z
  cases b with
  |true=>rw [if_pos rfl];exact (k.1 rfl s h1 t1 m Y).mono gF
  |false=>rw [if_neg (by decide)];exact (k.2 rfl s h1 t1 m Y).mono gF)
theorem cZ (e1:Xu c env L Ps e b) (h1:b=true→Tr c env L Ps body (Nk c env rest J)) (h2:b=false→Tr c env L Ps orelse (Nk c env rest J)):Tr c env L Ps (.If e body orelse pos::rest) J:=EP (QL e1 ⟨h1,h2⟩)
theorem Fh (e1:Xe c env L Ps e (KE c env L rest J)) (hs:autoParam (sm e=true) aR):Tr c env L Ps (.Expr e pos::rest) J:=fun s h t m X=>
 j5 ((e1 s h t m X).mono fun v h1=>ak fun d Qs k r Y V=>⟨fun a q=>(by subst q;refine bC k fun e V=>?_;subst e;cases r),fun t1=>k.2 s h1 t1 m Y⟩) (by rw [interactive,X.v.k];rfl) (qd hs)
theorem kE (k:Tr c env L Ps rest J):KE c env L rest J .none Ps:=⟨rfl,k⟩
noncomputable def Kc (w:World) (A:Around) (tgt:Expr) (I src:Addr) (h:Heap) (ds:List D):Prop:=
 ∃fp P St,Walks pw w A I fp [I] ds.length P St∧St 0 h∧(∀b∈fp,b=I∨b=src)∧(∀i h,St i h→∀b∈fp,∃o,h.get? b=some o)∧(∀i v,P i v→∃d,ds[i]? =some d∧RD h v d)∧(∀i h,St i h→l9 h I)∧∀i (s:Shared) v,St i s.heap→bg w A (letOwnedTupleGo tgt (.ref I) v) s fun V h'=>h'=s.heap
theorem Kc.nm {A:Around} {hb:Heap} {I src:Addr} (J:qu w A hb I src h ds):Kc w A (.Name x px) I src h ds:=
 bG J.ex fun fp P S W s0 f1 f2 hP nt=>⟨fp,P,S,W,s0,f1,f2,hP,nt,fun i s v V=>Et⟩
structure Qu (w:World) (A:Around) (env:Env) (tgt:Expr) (E:AP) (Ps:List HP) (I src:Addr) (h:Heap) (ds:List D):Prop where
 ex:Kc w A tgt I src h ds
 nI:¬ Lo env I
 nS:¬ Lo env src
 eI:I∈E.W∨E.g.get? I=none
 oI:∀P∈Ps,I∉P.F
 oS:∀P∈Ps,src∉P.W
 xS:∃o,h.get? src=some o
 ne:src≠I
noncomputable def Xi (c:Cx w n) (env:Env) (L:LL) (Ps:List HP) (tgt e:Expr) (K:List D→List HP→Prop):Prop:=∀s h t m,St w c.E env m L Ps h→bg w c.A (eval e env) (sh s h t) fun v h1=>∀t1,bg w c.A (pyIter v) (sh s h1 t1) fun it h2=>
 ∃I src ds Qs,it= .ref I∧K ds Qs∧St w c.E env m L Qs h2∧Qu w c.A env tgt c.E Qs I src h2 ds
noncomputable def Tg (w:World) (A:Around) (env:Env) (tgt:Expr) (d:D) (Y:LL):Prop:=∀(E:AP) m L Ps (s:Shared) v,St w E env m L Ps s.heap→RD s.heap v d→bg w A (assign tgt env v) s fun V h2=>(∃m',St w E env m' (Y++L) Ps h2)∧Kl env (Y.map (·.1)) s.heap h2∧bl s.heap h2
theorem KY {A:Around} (hk:bT env x=true):Tg w A env (.Name x px) d [(x,d)]:=fun E m L Ps s v X r Q EE q=>
 wpAny_assign_Name (eO X r hk fun m' h2 t2 Y k t=>q () h2 t2 ⟨⟨m',Y⟩,k,t⟩)
noncomputable def N3 (c:Cx w n) (env:Env) (L:LL) (tgt:Expr) (body rest:List Stmt) (J:Po) (ds:List D) (Qs:List HP):Prop:=
 ∃(Inv:Nat→(LL→List HP→Prop)→Prop) (L0:LL),iJ L0 L∧(∀K,Inv 0 K→K L0 Qs)∧(∀i d,ds[i]? =some d→∃Y,Tg w c.A env tgt d Y∧∀c':Cx w n,Inv i fun L Ps=>Tr c' env (Y++L) Ps body (Lu J (Inv (i+1))))∧Inv ds.length fun L Ps=>Tr c env L Ps rest J
theorem yW {α:Type} {its:List α} {g:α→D} (Inv:Nat→(LL→List HP→Prop)→Prop) (i0:∀K,Inv 0 K→K L0 Qs) (step:∀(c':Cx w n) i z,its[i]? =some z→Inv i fun L Ps=>Tr c' env ((x,g z)::L) Ps body (Lu J (Inv (i+1)))) (done:Inv its.length fun L Ps=>Tr c env L Ps rest J) (hl:autoParam (iJ L0 L) aR) (hk:autoParam (bT env x=true) aR):N3 c env L (.Name x px) body rest J (its.map g) Qs:=
 (dm Inv L0 hl i0 (fun i d e=>ab (td e) fun z a b=>a9 _ (KY hk) (fun c'=>b▸step c' i z a)) ((List.length_map g:(its.map g).length=its.length)▸done))
theorem P7 {k:Nat} {i0:Int} (Inv:Nat→(LL→List HP→Prop)→Prop) (z0:∀K,Inv 0 K→K L0 Qs) (step:∀(c':Cx w n) i,i <k→Inv i fun L Ps=>Tr c' env ((x,.int (i0+(i:Nat)))::L) Ps body (Lu J (Inv (i+1)))) (done:Inv k fun L Ps=>Tr c env L Ps rest J) (hl:autoParam (iJ L0 L) aR) (hk:autoParam (bT env x=true) aR):N3 c env L (.Name x px) body rest J (dK i0 k) Qs:=
 yW (its:=List.range k) (g:=fun (i:Nat)=>.int (i0+i)) Inv z0 (fun c' i z e=>by
  obtain ⟨h1,h2⟩:=List.getElem?_eq_some_iff.mp e
  rw [List.getElem_range] at h2
  rw [List.length_range] at h1
  subst h2
  exact step c' i h1) (List.length_range▸done) hl hk
theorem LY {k:Nat}:dK 0 k=(List.range k).map fun (i:Nat)=>D.int i:=List.map_congr_left fun i V=>congrArg D.int (Int.zero_add _)
theorem vZ {k:Nat} (Inv:Nat→(LL→List HP→Prop)→Prop) (z0:∀K,Inv 0 K→K L0 Qs) (step:∀(c':Cx w n) i,i <k→Inv i fun L Ps=>Tr c' env ((x,.int (i:Nat))::L) Ps body (Lu J (Inv (i+1)))) (done:Inv k fun L Ps=>Tr c env L Ps rest J) (hl:autoParam (iJ L0 L) aR) (hk:autoParam (bT env x=true) aR):N3 c env L (.Name x px) body rest J (dK 0 k) Qs:=
 LY▸yW (its:=List.range k) (g:=fun (i:Nat)=>D.int i) Inv z0 (fun c' i z e=>by
  obtain ⟨h1,h2⟩:=List.getElem?_eq_some_iff.mp e
  rw [List.getElem_range] at h2
  rw [List.length_range] at h1
  subst h2
  exact step c' i h1) (List.length_range▸done) hl hk
noncomputable def Oz (env:Env):HP:=⟨jR env,jR env,fun h=>∀z∈jR env,∃o,h.get? z=some o,⟨fun h h' S t k z hz=>let ⟨o,e⟩:=S z hz;⟨o,k z hz o e⟩,fun h S=>S⟩,fun V h=>h⟩
theorem Fi.ofBody (X:St w E env m L Ps h) (Y:Fi w ⟨h,jR env++Wl Ps,jR env++Fl Ps⟩ Qs h'):Fi w E Qs h':=by
 have Z:Fi w E (Oz env::Ps) h:=⟨X.f.fr,X.f.ew,X.f.kp,X.f.tt,fun P hP=>(List.mem_cons.mp hP).elim (fun e=>e▸fun z hz=>X.loEx (dE.mp hz)) (X.f.S P),List.pairwise_cons.mpr ⟨fun P hP=>⟨fun z hz q=>X.of P hP z q (dE.mp hz),fun z hz q=>X.of P hP z (P.wf z hz) (dE.mp q)⟩,X.f.sep⟩,
  fun P hP=>(List.mem_cons.mp hP).elim (fun e=>e▸⟨fun z hz=>X.lo z (dE.mp hz),fun z hz=>(X.lo z (dE.mp hz)).imp_left (X.f.ew z)⟩) (X.f.ext P)⟩
 have:=Fi.call (Pre:=Oz env::Ps) (Rs:=[]) (by rw [List.append_nil];exact Z) Y (fun z hz=>by rw [Wl,List.flatMap_cons];exact hz) (fun z hz=>by rw [Fl,List.flatMap_cons];exact hz)
 rwa [List.append_nil] at this
theorem St.enter (X:St w E env m L Ps h):St w ⟨h,jR env++Wl Ps,jR env++Fl Ps⟩ env m L Ps h:=
 ⟨⟨X.f.frsh _ fun z q=>(List.mem_append.mp q).elim (fun q=>X.lo z (dE.mp q)) (X.f.wl z),fun z q=>(List.mem_append.mp q).elim mL fun q=>mR (sR q),fun V V V e=>e,fun V V V e=>e,X.f.S,X.f.sep,fun P hP=>⟨fun z hz=>.inl (mR (et hP hz)),fun z hz=>.inl (mR (bV hP hz))⟩⟩,X.a,X.l,fun z q=>.inl (mL (dE.mpr q)),X.ce,X.of,X.v⟩
theorem c8 (he:Xi c env L Ps tgt iter (N3 c env L tgt body rest J)) (hs:autoParam (sm iter=true) aR):Tr c env L Ps (.For tgt iter body [] pos::rest) J:=by
 intro s h t m X
 refine Ji (RN:=fun h=>∃m L Ps,Tr c env L Ps rest J∧St w c.E env m L Ps h) ((he s h t m X).mono fun v h1 z t1=>(z t1).mono fun it h2=>pM fun I src ds Qs e zz6 Y Z=>bI zz6 fun Inv L0 sl i0 step done=>?_) (fun h t=>mU fun m L Ps k X=>k s h t m X) fun V=>Bh hs
 obtain ⟨⟨fp,P,S,W,s0,f1,f2,hP,nt,own⟩,nI,nS,eI,oI,oS,xS,ne⟩:=Z
 have hIf:I∈fp:=W.sub I (.head _)
 refine ⟨I,fp,[I],ds.length,P,S,fun i h=>(∃m L Ps,N7 (Inv i) L Ps∧St w c.E env m L Ps h∧(∀P∈Ps,I∉P.F∧src∉P.W))∧(∃o,h.get? src=some o)∧bl h2 h,e,⟨W,fun i h h'=>ft fun zz7 xs tt=>a8 zz7 fun m L Ps il X off st k=>?_,own,fun i v h t hi hp st=>ft fun zz8 xs tt=>a8 zz8 fun m L Ps zz9 X off=>ab zz9 fun L1 sl1 k1=>?_,fun h=>av fun zz10 V=>a8 zz10 fun m L Ps zz11 X off=>ab zz11 fun L1 sl1 k1=>yM m L1 Ps (k1 _ done) (X.loc fun x d e=>sl1.look e)⟩,⟨(vy m L Qs (a9 L0 sl i0) Y (fun P hP=>⟨oI P hP,oS P hP⟩)),xS,fun V V V e=>e⟩,s0⟩
 ·have t2:=cv.t k fun b hb=>by rw [List.mem_singleton.mp hb];exact nt _ _ st
  refine ⟨(vy m L Ps il (X.hid k t2 (fun z hz=>List.mem_singleton.mp hz▸eI) (fun P hP z hz q=>(off P hP).1 (List.mem_singleton.mp q▸hz)) (fun z hz=>List.mem_singleton.mp hz▸nI)) off),?_,tt.trans t2⟩
  refine cQ xs fun o ho=>?_
  exact ⟨o,k src o (by rw [List.mem_singleton];exact ne) ho⟩
 ·refine ab (hP i v hp) fun d hd rd=>?_
  refine ab (step i d hd) fun Y tg body'=>?_
  refine (tg c.E m L Ps (sh s h t) v X (rd.mono tt)).mono fun V h3=>ft fun zz12 kl t3=>cQ zz12 fun m3 X3 t4=>?_
  have X4:St w c.E env m3 (Y++L1) Ps h3:=X3.loc fun x d e=>sl1.app Y e
  refine cQ xs fun o ho=>?_
  have hoI:=f2 _ _ st I hIf
  refine cQ hoI fun oi hoi=>?_
  have exI:h3.get? I=some oi:=kl.no nI hoi
  have exS:h3.get? src=some o:=kl.no nS ho
  refine (k1 _ (body' ⟨c.A,c.r,_⟩) s h3 t4 m3 X4.enter).mono fun fl h5 z=>?_
  have gF:∀{Ps'},Fi w ⟨h3,jR env++Wl Ps,jR env++Fl Ps⟩ Ps' h5→(∀b∈fp,∀o,h.get? b=some o→h5.get? b=some o)∧(∀P∈Ps',I∉P.F∧src∉P.W)∧(∃o,h5.get? src=some o)∧bl h2 h5∧Fi w c.E Ps' h5:=fun {Ps'} F=>by
   have nw:∀b,(b=I∨b=src)→b∉jR env++Wl Ps:=fun b hb q=>(List.mem_append.mp q).elim (fun q=>hb.elim (fun e=>nI (e▸dE.mp q)) fun e=>nS (e▸dE.mp q)) fun q=>(cf q).elim fun P0 q=>hb.elim (fun e=>(off P0 q.1).1 (e▸P0.wf _ q.2)) fun e=>(off P0 q.1).2 (e▸q.2)
   have nl:∀b,(b=I∨b=src)→¬ Lo env b:=fun b hb=>hb.elim (fun e=>e▸nI) fun e=>e▸nS
   refine sQ (fun b hb o e=>F.kp b o (nw b (f1 b hb)) (kl.no (nl b (f1 b hb)) e)) (fun P' hP'=>⟨fun q=>?_,fun q=>?_⟩) ⟨o,F.kp src o (nw src (.inr rfl)) exS⟩ (tt.trans (t3.trans F.tt)) (Fi.ofBody X4 F)
   ·refine ((F.ext P' hP').2 I q).elim (fun q=>?_) fun n=>u5 n exI
    refine (List.mem_append.mp q).elim (fun q=>nI (dE.mp q)) fun q=>?_
    refine ab (List.mem_flatMap.mp q) fun P0 a b=>?_
    exact (off P0 a).1 b
   ·exact ((F.ext P' hP').1 src q).elim (nw src (.inr rfl)) fun n=>u5 n exS
  cases fl with
  |next=>
   refine cn z fun m5 L5 P5 il X5=>?_
   refine fF (gF X5.f) fun a1 a2 a3 a4 a5=>?_
   exact l6 a1 (vy m5 L5 P5 il ⟨a5,X5.a,X5.l,X4.lo,X5.ce,X5.of,X5.v⟩ a2) a3 a4
  |cont=>
   refine cn z fun m5 L5 P5 il X5=>?_
   refine fF (gF X5.f) fun a1 a2 a3 a4 a5=>?_
   exact l6 a1 (vy m5 L5 P5 il ⟨a5,X5.a,X5.l,X4.lo,X5.ce,X5.of,X5.v⟩ a2) a3 a4
  |brk=>exact z.elim
  |ret v=>
   refine cH z fun d5 P5 k5 r5 F5=>?_
   refine fF (gF F5) fun a1 a2 a3 a4 a5=>?_
   exact o6 a1 d5 P5 k5 r5 a5
noncomputable def l4:Nat→(List Value→Prop)→Prop
 |0,P=>P []
 |k+1,P=>∀v,l4 k fun vs=>P (v::vs)
theorem l4.elim {k:Nat} {P:List Value→Prop} (a:l4 k P) (vs:List Value) (e:vs.length=k):P vs:=by
 induction vs generalizing k P with
 |nil=>subst e;exact a
 |cons v vs ih=>subst e;exact ih (a v) rfl
theorem l4.mono {k:Nat} {P P':List Value→Prop} (a:l4 k P) (f:∀vs,P vs→P' vs):l4 k P':=by
 induction k generalizing P P' with
 |zero=>exact f _ a
 |succ k ih=>exact fun v=>ih (a v) fun vs=>f (v::vs)
theorem xg {kf:Str→Option NameKind}:∀(bs:List (Str×Value)) (ml:Str→Option Value),x∉bs.map (·.1)→bindL kf bs ml x=ml x
 | [],_,_=>rfl
 |(n,v)::r,ml,q=>by
  have q:x≠n∧x∉r.map (·.1):=⟨fun e=>q (e▸ .head _),fun h=>q (.tail _ h)⟩
  rw [bindL,xg r _ q.2]
  split
  ·exact if_neg q.1
  ·rfl
theorem xD {kf:Str→Option NameKind}:∀(bs:List (Str×Value)) (ml:Str→Option Value),x∉bs.map (·.1)→bindC kf bs ml x=ml x
 | [],_,_=>rfl
 |(n,v)::r,ml,q=>by
  have q:x≠n∧x∉r.map (·.1):=⟨fun e=>q (e▸ .head _),fun h=>q (.tail _ h)⟩
  rw [bindC,xD r _ q.2]
  split
  ·rfl
  ·exact if_neg q.1
theorem uN {kf:Str→Option NameKind} {v:Value}:∀(bs:List (Str×Value)) (ml mc:Str→Option Value),(bs.map (·.1)).Nodup→(∀b∈bs,kf b.1=some .local∨kf b.1=some .cell)→bs.lookup x=some v→(if kf x=some .cell then bindC kf bs mc x else bindL kf bs ml x)=some v
 |(n,u)::r,ml,mc,nd,hk,e=>by
  obtain ⟨n1,n2⟩:=List.nodup_cons.mp nd
  rw [bindL,bindC]
  rcases fN e with ⟨q,z⟩ |⟨q,z⟩
  ·subst q z
   rw [xg r _ n1,xD r _ n1]
   rcases hk _ (.head _) with q |q
   ·simp [show kf x=some .local from q]
   ·simp [show kf x=some .cell from q]
  ·exact uN r _ _ n2 (fun b h=>hk b (.tail _ h)) z
theorem Gs {h:Heap} {xs:List Str} {ds:List D} {vs:List Value} (r:bp h vs ds):(xs.zip ds).lookup x=some d→∃v,(xs.zip vs).lookup x=some v∧RD h v d:=
 bp.ind (P:=fun vs ds=>∀xs:List Str,(xs.zip ds).lookup x=some d→∃v,(xs.zip vs).lookup x=some v∧RD h v d) (fun xs e=>by rw [List.zip_nil_right] at e;exact noA e) (fun v vs d' ds a V ih xs e=>by
  cases xs with
  |nil=>exact noA e
  |cons y xs=>
   rw [List.zip_cons_cons] at e ⊢
   rw [List.lookup_cons]
   rcases fN e with ⟨q,z⟩ |⟨q,z⟩
   ·subst q z;rw [beq_self_eq_true];exact a9 _ rfl a
   ·rw [beq_false_of_ne q];exact ih xs z) r xs
noncomputable def Pf (w:World) (n:Nat) (f:Addr) (ds:List D) (Pre:List HP) (Q:(D→List HP→Prop)→Prop):Prop:=
 ∀A,Rm n A→∀K,Q K→∀s vs,bp s.heap vs ds→lR w s.heap (Wl Pre)→(∀P∈Pre,P.S s.heap)→Pre.Pairwise rO→Bq w A f vs s fun v h'=>∃d Qs,K d Qs∧RD h' v d∧Fi w ⟨s.heap,Wl Pre,Fl Pre⟩ Qs h'
theorem Pf.sp {Q:(D→List HP→Prop)→Prop} (x:Pf w n f ds Pre Q):Sp w n f ds Pre Q:=fun A r K q s vs rs fr st sep QQ V k=>wpAny_call (x A r K q s vs rs fr st sep _ fun v h t z=>k v h t z)
theorem lC {k:Nat} {Pre:List HP} {Q:(D→List HP→Prop)→Prop} {st:Stmt} {q:Str} {dfl pm cd:Value} {dx:List D} (vx:List Value→List Value) (xs:List Str) (F:∀P,eB P f st q dfl pm cd) (hb:l4 ds.length fun vs=>∀s,cA w s.heap→BindsTo s (cJ st q dfl pm cd) ⟨vs,[]⟩ (xs.zip (vx vs))) (hl:l4 ds.length fun vs=>∀n,nN (cJ st q dfl pm cd).scope n (xs.zip (vx vs))=true)
  (hv:∀h vs,bp h vs ds→bp h (vx vs) dx) (h:∀(c:Cx w k) l K,Q K→Tr c (callEnvC (cJ st q dfl pm cd) l f) (xs.zip dx) Pre (cu st) (DN K)) (nd:xs.Nodup) (hx:xs.length=dx.length):Pf w (k+1) f ds Pre Q:=by
 intro A R K q0 s vs rs0 fr st0 sep
 have hl':=hl.elim vs rs0.length s.heap.objs.size
 have F:=F w.params
 have rs:=hv _ _ rs0
 intro QQ kk
 refine cI fr.pin.t fun p lo mg mb t=>?_
 have ho:=fr.pin.k _ _ F.o
 have hcs:=fun x hx=>List.all_eq_true.mp hl' x hx
 refine codeAny_call_function (fd:=cJ st q dfl pm cd) R.depth ho rfl F.plain.1 F.plain.2.1 rfl ?_ ?_
 ·exact codeRec_of fr.pin.k F.c
 refine hb.elim vs rs0.length s fr.pin _ _ _ _ ?_
 refine wpAny_newFunctionEnv_cells F.plain.2.2 (fun x hx=>by simpa using hcs x hx) fun env he s1 x=>?_
 subst he
 refine ⟨t.nolimit.keeps x.toInCall.keep,codeAny_func ?_⟩
 refine fw x.toInCall.same fun h1 t1 e=>?_
 subst e
 have k1:Sub s.heap h1:=x.toInCall.keep
 have new:∀z,Lo (callEnvC (cJ st q dfl pm cd) s.heap.objs.size f) z→s.heap.get? z=none:=fun z hz=>hz.elim (fun e=>e▸aA (Nat.le_refl _)) fun zz=>cQ zz fun n e=>aA (Nat.le_of_lt (x.above n z (mem_of_lookup e)))
 have X:St w ⟨s.heap,Wl Pre,Fl Pre⟩ (callEnvC (cJ st q dfl pm cd) s.heap.objs.size f) (PB st q dfl pm cd s.heap.objs.size f (xs.zip (vx vs))) (xs.zip dx) Pre h1:=
  ⟨⟨fr,fun V=>sR,k1.keep,k1.t,fun P hP=>P.fr.sub (st0 P hP) k1,sep,fun P hP=>⟨fun z hz=>.inl (et hP hz),fun z hz=>.inl (bV hP hz)⟩⟩,⟨Sub.rfl',x.toInCall.ns,x.cell⟩,fun y d e=>by
   refine ab (Gs rs e) fun v e1 r=>?_
   exact a9 v (uN _ _ _ (by rw [List.map_fst_zip (Nat.le_of_eq (hx.trans rs.length.symm))];exact nd) (fun b hb=>by have:=hcs b hb;simp at this;exact this.imp_right (·.1)) e1) (r.mono k1.t),fun z hz=>.inr (new z hz),fun n a e=>⟨Nat.ne_of_gt (x.above n a (mem_of_lookup e)),fun k e2=>name_of_addr x.apart (mem_of_lookup e2) (mem_of_lookup e)⟩,fun P hP z hz q=>nj (P.fr.ex _ (st0 P hP) z hz) (new z q),⟨F.plain.2.2,rfl,rfl⟩⟩
 refine h ⟨_,R.deeper _,⟨s.heap,Wl Pre,Fl Pre⟩⟩ _ K q0 s h1 t1 _ X _ _ fun fl h' t' z=>kk _ h' t' ?_
 cases fl with
 |next=>refine cn z fun m L Ps k Y=>?_;exact hZ .none Ps k .none Y.f
 |cont=>refine cn z fun m L Ps k Y=>?_;exact k.elim
 |brk=>exact z.elim
 |ret v=>exact z
theorem bf {k:Nat} {Pre:List HP} {Q:(D→List HP→Prop)→Prop} {st:Stmt} {q:Str} {dfl pm cd:Value} (xs:List Str) (F:∀P,eB P f st q dfl pm cd) (h:∀(c:Cx w k) l K,Q K→Tr c (callEnvC (cJ st q dfl pm cd) l f) (xs.zip ds) Pre (cu st) (DN K)) (hb:autoParam (l4 ds.length fun vs=>bindArgs (cJ st q dfl pm cd) ⟨vs,[]⟩=pure (xs.zip vs)) P9) (hl:autoParam (l4 ds.length fun vs=>∀n,nN (cJ st q dfl pm cd).scope n (xs.zip vs)=true) PZ) (nd:autoParam (xs.Nodup) aD) (hx:autoParam (xs.length=ds.length) aR):Sp w (k+1) f ds Pre Q:=
 (lC id xs F (hb.mono fun V e V V=>BindsTo.of_eq e) hl (fun V V r=>r) h nd hx).sp
end
noncomputable abbrev jH (w:World) (x C dx:Addr) (fs:List (Str×D)):HP:=⟨[x,dx],[x,dx],fun h=>Ob w h x C dx fs,jd,fun V h=>h⟩
noncomputable abbrev d6 (w:World) (a:Addr) (kds:List (Int×D)):HP:=⟨[a],[a],fun h=>nh (intKind pw w) h a kds∧(a==sysModules)=false,jD.andP,fun V h=>h⟩
noncomputable abbrev HP.ro (P:HP):HP:=⟨[],P.F,P.S,P.fr,fun V h=>noM h⟩
section
variable {w:World} {n k:Nat} {c:Cx w n} {env:Env} {E:AP} {m:ma} {L:LL} {Ps Qs Pre Rs:List HP} {P Q:HP} {h h':Heap} {e e1 e2 o i j:Expr} {r:List Expr} {pos p1 p2 px py tp vp:Pos} {rest:List Stmt} {J:Po} {K:D→List HP→Prop} {KA:List D→List HP→Prop} {x y:Str} {d d1 d2:D} {ds:List D} {b:Bool} {f a C dx I src l:Addr} {fs:List (Str×D)} {k0 k1:Nat} {S:Heap→Prop}
theorem pG {A:Around} (X:St w E env m L Ps h) (J:qu w A h I src h' ds) (ne:src≠I) (xs:∃o,h'.get? src=some o) (nS:¬ Lo env src) (oS:∀P∈Ps,src∉P.W):Qu w A env (.Name x px) E Ps I src h' ds:=
 ⟨.nm J,X.new J.new,nS,X.f.old J.new,fun P hP q=>nj (X.f.ex hP q) J.new,oS,xs,ne⟩
theorem St.offN (X:St w E env m L Ps h) (n:h.get? a=none):∀P∈Ps,a∉P.W:=fun P hP q=>nj (X.f.ex hP (P.wf a q)) n
theorem Nd (e1:Xl c env L Ps e ds) (k:KA ds Ps):Xi c env L Ps (.Name x px) e KA:=fun s h t m X=>(e1 h m X.pst (sh s h t) X.a).mono fun v h1=>aM fun k1 a e l n t1=>e▸(th c.r.h (s:=sh s h1 t1) l).mono fun it h2=>ft fun e2 k2 J=>
 (gQ _ a ds Ps e2 k ((X.sub k1).sub k2) (pG X (J.less k1) (Nat.ne_of_lt l.lt) (ao l fun V V e V=>⟨_,k2 _ _ e⟩) (X.new n) (X.offN n)))
theorem xO (k:Nat) (e1:Xp c env L Ps e (.ref l)) (O:Hs Ps fun h=>cN h l ds) (q:KA ds Ps) (hP:autoParam (Ps[k]? =some P) aR) (hW:autoParam (P.W= []) aR) (hl:autoParam (l∈P.F) QA):Xi c env L Ps (.Name x px) e KA:=fun s h t m X=>by
 have a2:=O h X.f.S
 refine (e1 h m X.pst (sh s h t) X.a).mono fun v h1=>av fun k1 r1 t1=>?_
 cases r1
 refine (th c.r.h (s:=sh s h1 t1) (a2.sub k1)).mono fun it h2=>ft fun e2 k2 J=>gQ _ l ds Ps e2 q ((X.sub k1).sub k2) (pG X (J.less k1) (Nat.ne_of_lt (a2.sub k1).lt) (ao a2 fun V V e V=>⟨_,k2 _ _ (k1 _ _ e)⟩) (X.of P (List.mem_of_getElem? hP) l hl) fun P2 h2 z=>?_)
 refine cQ (List.mem_iff_getElem?.mp h2) fun j hj=>?_
 by_cases q:j=k
 ·subst q;rw [hP] at hj;cases hj;rw [hW] at z;exact noM z
 ·exact (gI rO.symm X.f.sep q hj hP).1 l z hl
theorem g9 {k:Nat} (e1:Xp c env L Ps e (.int (k:Nat))) (q:KA (dK 0 k) Ps) (hk:k≤1000) (hx:autoParam (dY env "range"=true) aR) (hn:autoParam (ns e=true) aR):Xi c env L Ps (.Name x px) (.Call (.Name "range" p1) [e] [] pos) KA:=fun s h t m X=>
 (m9 (s:=sh s h t) c.r.h X.a X.f.pin X.v.g X.v.b hk (e1 h m X.pst) X.v.k (bN hx).1 (aQ hn)).mono fun v h1=>av fun k1 z t1=>(z t1).mono fun it h2=>cV fun k2 I src e J n zz13=>bC zz13 fun ne xs=>gQ I src _ Ps e q ((X.sub k1).sub k2) (pG X J ne xs (X.new n) (X.offN n))
theorem GS {k:Nat} {i:Int} (e1:Xp c env L Ps o (.int i)) (e2:Xp c env L Ps e (.int (i+k))) (q:KA (dK i k) Ps) (hi: -1000≤i∧i≤1000) (hk:k≤1000) (hx:autoParam (dY env "range"=true) aR) (hn:autoParam ([o,e].all ns=true) aR):Xi c env L Ps (.Name x px) (.Call (.Name "range" p1) [o,e] [] pos) KA:=fun s h t m X=>
 have hn:=Bool.and_eq_true_iff.mp hn
 have hn2:=Bool.and_eq_true_iff.mp hn.2
 (rf (s:=sh s h t) c.r.h X.a X.f.pin X.v.g X.v.b hi hk (e1 h m X.pst) (e2 h m X.pst) X.v.k (bN hx).1 (aQ hn.1) (aQ hn2.1) (l7 hn.2)).mono fun v h1=>av fun k1 z t1=>(z t1).mono fun it h2=>cV fun k2 I src e J n zz14=>bC zz14 fun ne xs=>gQ I src _ Ps e q ((X.sub k1).sub k2) (pG X J ne xs (X.new n) (X.offN n))
theorem BO (k:∀a,K (.ref a) (d6 w a []::Ps)):Xe c env L Ps (.Dict [] [] pos) K:=fun s h t m X=>(JE (s:=sh s h t) X.f.pin).mono fun v h1=>jC fun a e k1 n D0 lo=>dm (.ref a) _ (k a) (e▸ .ref a) (X.push k1 ⟨D0,lo⟩ (fun z hz=>List.mem_singleton.mp hz▸n)) (.push k1 fun z hz=>List.mem_singleton.mp hz▸n)
theorem mJ (q1:Xe c env L Ps e1 fun d1 Qs=>Xe c env L Qs e2 fun d2 Rs=>Tr c env ((x,d1)::(y,d2)::L) Rs rest J) (hx:autoParam (bT env x=true) aR) (hy:autoParam (bT env y=true) aR)
  (hs:autoParam (swapsWithSole [.Tuple [.Name x px,.Name y py] k0 tp] (.Tuple [e1,e2] k1 vp) pos.line env=pure false) aP)
  (hw:autoParam (swappedStores [.Tuple [.Name x px,.Name y py] k0 tp] (.Tuple [e1,e2] k1 vp) env=pure (some [x,y])) aW)
  (hn:autoParam ([e1,e2].all ns=true) aR):
  Tr c env L Ps (.Assign [.Tuple [.Name x px,.Name y py] k0 tp] (.Tuple [e1,e2] k1 vp) pos::rest) J:=by
 have hn:=Bool.and_eq_true_iff.mp hn
 have hn2:=Bool.and_eq_true_iff.mp hn.2
 intro s h t m X Q E q
 refine wpAny_execs_cons (Assign_Tuple_swapped (names:=[x,y]) (Tuple_ ?_) hs hw)
 refine args_cons (q1 s h t m X _ _ fun v1 g1 t1=>ak fun d1 Qs z r1 X1 V=>args_cons (z s g1 t1 m X1 _ _ fun v2 g2 t2=>ak fun d2 Rs k r2 X2 tt=>args_nil ?_) (aQ hn2.1)) (aQ hn.1)
 refine wpAny_newTuple ?_ (by simp [sizeLine_eq])
 have hT:({s with heap:=g2.push (e7 [v1,v2] 0),toks:=t2}:Shared).heap.get? g2.objs.size=some (e7 [v1,v2] 0):=Heap.get?_push_size _ rfl
 refine unpackItems_tuple (s:={s with heap:=g2.push (e7 [v1,v2] 0),toks:=t2}) (items:= #[v1,v2]) c.r.h (ki hT) fun h3 he3=>?_
 have k3:Sub g2 h3:=fun b o e=>he3 b o (Nat.ne_of_lt (by rw [size_push'];exact Nat.lt_succ_of_lt (Heap.lt_size e))) (Heap.get?_push_of_some _ e)
 show wpAny _ c.A (do holding [v1] (bindName env y v2);do holding [] (bindName env x v1);pure ()) _ _ _
 refine wpAny_bind (wpAny_holding (bindName_ (eO (s:=sh s h3 t2) (X2.sub k3) (r2.mono k3.t) hy fun m4 h4 t4 X4 V tt4=>?_)))
 refine wpAny_bind (wpAny_holding (bindName_ (eO (s:=sh s h4 t4) X4 (((r1.mono tt.t).mono k3.t).mono tt4) hx fun m5 h5 t5 X5 V V=>wpAny_pure ?_)))
 exact k s h5 t5 m5 X5 Q E q
theorem D8 {pd:Addr} {i1:Int} {kds:List (Int×D)} (j:Nat) (e1:Xe c env L Ps e fun d Qs=>Qs[j]? =some (d6 w pd kds)∧(Xp c env L Qs o (.ref pd)∧Xp c env L Qs i (.int i1))∧Tr c env L (Qs.set j (d6 w pd (kds++ [(i1,d)]))) rest J)
  (hk:i1∉kds.map (·.1)) (hz:kds.length≤1000) (hs:autoParam (sm e=true) aR):Tr c env L Ps (.Assign [.Subscript o i p1] e pos::rest) J:=by
 intro s h t m X Q E q
 refine wpAny_execs_cons (wpAny_Assign_Subscript (e1 s h t m X _ _ fun v h1 t1=>ak fun d Qs zz15 r Y V=>cB zz15 fun hj hoi k=>?_) (qd hs))
 refine hoi.1 h1 m Y.pst (sh s h1 t1) Y.a _ _ fun v2 h2 t2=>av fun k2 r2=>?_
 refine hoi.2 h1 m Y.pst (sh s h2 t2) (Y.a.step k2) _ _ fun v3 h3 t3=>av fun k3 r3=>?_
 cases r2
 refine EO r3 fun tk ez0=>?_;subst ez0
 have kk:=k2.trans k3
 have Y3:=Y.sub kk
 refine bC (Y3.f.S _ (List.mem_of_getElem? hj)) fun x lo=>?_
 refine ar x.ex fun kvs D0 e1 rr=>?_
 have hl:kvs.length=kds.length:=by have:=congrArg List.length e1;simpa using this
 have hany:kvs.any (fun kv=>kv.1=i1)=false:=by
  rw [List.any_eq_false]
  intro kv hkv q
  have:kv.1=i1:=by simpa using q
  exact hk (by rw [←e1,←this];exact List.mem_map_of_mem hkv)
 refine wpAny_setItem_pairs (knd:=intKind pw w) (intKind_is _ _ _ _) D0 (fun h4 Y' hs'=>?_) (by rw [hl,sizeLine_eq];omega)
 have kp:cv [pd] h3 h4:=SameBut.kp hs'
 have t4:bl h3 h4:=kp.t fun b hb=>by rw [List.mem_singleton.mp hb];exact x.noTup
 rw [show stored kvs i1 v=kvs++ [(i1,v)] by unfold stored;rw [hany];rfl] at Y'
 refine k s h4 _ m (Y3.upd (Q:=d6 w pd (kds++ [(i1,d)])) hj kp t4 ⟨⟨_,Y',by rw [List.map_append,List.map_append,e1];rfl,?_⟩,lo⟩ (fun z hz=>.inl hz) fun z hz=>.inl hz) Q E q
 rw [List.map_append,List.map_append]
 exact (rr.mono t4).append (.cons ((r.mono kk.t).mono t4) .nil)
theorem mZ (j:Nat) (e1:Xe c env L Ps e fun d Qs=>Qs[j]? =some (jH w a C dx fs)∧Xp c env L Qs o (.ref a)∧Tr c env L (Qs.set j (jH w a C dx (n8 x d fs))) rest J) (ok:uQ (Mine.K w.params) C x=true)
  (hz:autoParam (fs.length≤100) aN) (hs:autoParam (sm e=true) aR):Tr c env L Ps (.Assign [.Attribute o x p1] e pos::rest) J:=by
 intro s h t m X Q E q
 refine wpAny_execs_cons (plainObj_wpAny_Assign_Attribute (e1 s h t m X _ _ fun v h1 t1=>ak fun d Qs zz16 r Y V=>cB zz16 fun hj ho k=>?_) (qd hs))
 refine ho h1 m Y.pst (sh s h1 t1) Y.a _ _ fun ov h2 t2=>av fun k2 r2=>?_
 cases r2
 have Y2:=Y.sub k2
 have O:Ob w h2 a C dx fs:=Y2.f.S _ (List.mem_of_getElem? hj)
 refine xj (s:=sh s h2 t2) Y2.f.pin O ok (r.mono k2.t) hz _ _ fun V h3 t3=>av fun kp O3=>?_
 exact k s h3 t3 m (Y2.upd (Q:=jH w a C dx (n8 x d fs)) hj (kp.more fun V q=>.tail _ q) (kp.t fun b hb=>List.mem_singleton.mp hb▸O.noTup) O3 (fun z hz=>.inl hz) fun z hz=>.inl hz) Q E q
theorem tf (Q:HP) (ks rs:List Nat) (k:Tr c env L (Q::sel rs Ps) rest J) (st:∀h,Ps.Pairwise rO→(∀P∈Ps,P.S h)→Q.S h) (hW:∀z∈Q.W,z∈Wl (sel ks Ps)) (hF:∀z∈Q.F,z∈Fl (sel ks Ps)) (ro:∀k∈ks,k∈rs→∀P,Ps[k]? =some P→P.W= []) (nd:autoParam (rs.Nodup) aD):Tr c env L Ps rest J:=
 fun s h t m X=>k s h t m (X.conv Q ks rs nd (st h X.f.sep X.f.S) hW hF ro)
noncomputable def Mg (P1 P2 Q:HP):Prop:=(∀h,rO P1 P2→P1.S h→P2.S h→Q.S h)∧(∀z∈Q.W,z∈P1.W∨z∈P2.W)∧∀z∈Q.F,z∈P1.F∨z∈P2.F
theorem Dk {P1 P2 Q:HP} (i j:Nat) (rs:List Nat) (mg:Mg P1 P2 Q) (k:Tr c env L (Q::sel rs Ps) rest J) (h1:autoParam (Ps[i]? =some P1) aR) (h2:autoParam (Ps[j]? =some P2) aR) (nd:autoParam ((i::j::rs).Nodup) aD):Tr c env L Ps rest J:=by
 have e:sel [i,j] Ps= [P1,P2]:=by rw [sel,List.filterMap_cons,h1,List.filterMap_cons,h2];rfl
 refine bC (List.nodup_cons.mp nd) fun a b=>?_
 refine bC (List.nodup_cons.mp b) fun b d=>?_
 refine tf Q [i,j] rs k (fun h sp q=>mg.1 h (gI rO.symm sp (fun q:i=j=>a (by rw [q];exact .head _)) h1 h2) (q _ (List.mem_of_getElem? h1)) (q _ (List.mem_of_getElem? h2))) (fun z q=>?_) (fun z q=>?_) (fun k hk hr=>?_) d
 ·rw [e];exact (mg.2.1 z q).elim (fun q=>et (.head _) q) fun q=>et jT q
 ·rw [e];exact (mg.2.2 z q).elim (fun q=>bV (.head _) q) fun q=>bV jT q
 ·rcases Cv hk with rfl |rfl
  ·exact absurd (List.mem_cons_of_mem _ hr) a
  ·exact absurd hr b
theorem D6 (Q:HP) (hF:Q.F= []) (st:∀h,Q.S h) (rs:List Nat) (k:Tr c env L (Q::sel rs Ps) rest J) (nd:autoParam (rs.Nodup) aD):Tr c env L Ps rest J:=
 tf Q [] rs k (fun h V V=>st h) (fun z q=>noM (hF▸Q.wf z q)) (fun z q=>noM (hF▸q)) (fun V h=>noM h) nd
theorem Bw {id:String} {ds':List D} (jx:Nat) (n6:Slot "list" x id) (ty:typeOf (.builtin id)=pure (.type "method_descriptor")) (hP:Ps[jx]? =some (aq a ds)) (q1:Xp c env L Ps o (.ref a)) (q2:Xp c env L Ps j d)
  (go:∀{s:Shared} {v},cN s.heap a ds→RD s.heap v d→bg w c.A (call (.builtin id) [.ref a,v]) s fun u h'=>u= .none∧cv [a] s.heap h'∧bl s.heap h'∧cN h' a ds')
  (k:Tr c env L (Ps.set jx (aq a ds')) rest J) (hm:autoParam (qa o [j] p1 pos=true) aR):
  Tr c env L Ps (.Expr (.Call (.Attribute o x p1) [j] [] pos) p2::rest) J:=by
 intro s h t m X
 have hn:=fD hm
 refine j5 (iy n6 ty PySem.F.plainAttrs_list ((q1 h m X.pst (sh s h t) X.a).mono fun v h1=>av fun k1 r1=>?_) (aQ hn.1) (by rfl) (rU hm)) (by rw [interactive,X.v.k];rfl) rfl
 cases r1
 have X1:=X.sub k1
 have L1:cN h1 a ds:=X1.f.S _ (List.mem_of_getElem? hP)
 refine ⟨ar (BJ L1) fun ob a b c=>dm _ ob rfl a b c,fun t1=>bS ((q2 h m X.pst (sh s h1 t1) (X.a.step k1)).mono fun v2 h2 q=>(q:Sub h1 h2∧RD h2 v2 d)) (fun v2 h2=>av fun k2 r2 t2=>?_) (aQ hn.1)⟩
 have X2:=X1.sub k2
 refine (go (s:=sh s h2 t2) (X2.f.S _ (List.mem_of_getElem? hP)) r2).mono fun u h3=>iA fun e3 k3 t3 L3=>⟨fun a q=>(by rw [e3] at q;cases q),fun t4=>?_⟩
 exact k s h3 t4 m (X2.upd (Q:=aq a ds') hP k3 t3 L3 (fun z hz=>.inl hz) fun z hz=>.inl hz)
theorem Sp.mono {QQ QQ':(D→List HP→Prop)→Prop} (sp:Sp w n f ds Pre QQ) (k:∀K,QQ' K→QQ K):Sp w n f ds Pre QQ':=fun A r K q=>sp A r K (k K q)
end
noncomputable def Bc (env:Env) (names:List (Str×NameKind)) (acc:List (Str×Addr)):List (Str×Addr):=names.foldl (fun cs x=>if x.2== .free then (x.1,(env.cells.lookup x.1).getD 0)::cs else cs) acc
theorem E5 {env:Env} {f:Str×NameKind→List (Str×Addr)→Sem (ForInStep (List (Str×Addr)))} (hf:∀x cs,f x cs=if x.2== .free then (do let a←cellOf env x.1;pure (.yield ((x.1,a)::cs))) else pure (.yield cs)):∀(names:List (Str×NameKind)) (acc:List (Str×Addr)),(names.all fun x=>x.2 != .free||(env.cells.lookup x.1).isSome)=true→forIn names acc f=(pure (Bc env names acc):Sem _)
 | [],acc,_=>rfl
 |x::r,acc,h=>by
  obtain ⟨h1,h2⟩:=Bool.and_eq_true_iff.mp h
  rw [List.forIn_cons,hf]
  have ih:=E5 hf r
  cases q:x.2==NameKind.free with
  |false=>
   rw [if_neg (by simp)]
   have e:Bc env (x::r) acc=Bc env r acc:=by
    show Bc env r (if (x.2==NameKind.free)=true then _ else acc)=_
    rw [q];rfl
   rw [e,←ih acc h2];rfl
  |true=>
   rw [if_pos rfl]
   have q2:(env.cells.lookup x.1).isSome=true:=by simpa [bne,q] using h1
   obtain ⟨a,ha⟩:=Option.isSome_iff_exists.mp q2
   have e:Bc env (x::r) acc=Bc env r ((x.1,a)::acc):=by
    show Bc env r (if (x.2==NameKind.free)=true then (x.1,(env.cells.lookup x.1).getD 0)::acc else acc)=_
    rw [q,ha];rfl
   rw [e,←ih _ h2,show cellOf env x.1=pure a by unfold cellOf;rw [ha]];rfl
theorem Rf {scope:Scope} {env:Env} (h:(scope.names.all fun x=>x.2 != .free||(env.cells.lookup x.1).isSome)=true):closureFor scope env=pure (Bc env scope.names []):=by
 unfold closureFor
 show (do let s←forIn scope.names [] _;pure s)=_
 rw [E5 (env:=env) (fun x cs=>rfl) scope.names [] h]
 rfl
theorem zv {env:Env}:∀(names:List (Str×NameKind)) (acc:List (Str×Addr)),(names.all fun x=>x.2 != .free||(env.cells.lookup x.1).isSome)=true→(∀n a,acc.lookup n=some a→env.cells.lookup n=some a)→∀n a,(Bc env names acc).lookup n=some a→env.cells.lookup n=some a
 | [],_,_,i,n,a,e=>i n a e
 |x::r,acc,h,i,n,a,e=>by
  obtain ⟨h1,h2⟩:=Bool.and_eq_true_iff.mp h
  refine zv r (if x.2==NameKind.free then (x.1,(env.cells.lookup x.1).getD 0)::acc else acc) h2 (fun n a e=>?_) n a e
  cases q:x.2==NameKind.free with
  |false=>rw [q] at e;exact i n a e
  |true=>
   rw [q] at e
   rw [if_pos rfl] at e
   have q2:(env.cells.lookup x.1).isSome=true:=by simpa [bne,q] using h1
   obtain ⟨b,hb⟩:=Option.isSome_iff_exists.mp q2
   rw [hb] at e
   refine (fN e).elim (fun q=>by rw [q.1,hb,←q.2];rfl) fun q=>i n a q.2
theorem iQ:∀(names:List (Str×NameKind)) (n:Nat) (acc:List (Str×Addr)),cellsFrom n names acc=cellsFrom n names []++acc
 | [],_,_=>rfl
 |(x,q)::r,n,acc=>by
  unfold cellsFrom
  split
  ·rw [iQ r _ (_::acc),iQ r _ [_],List.append_assoc];rfl
  ·exact iQ r n acc
set_option tactic.hygienic true in
theorem oU:∀(names:List (Str×NameKind)) (n:Nat) {x:Str} {a:Addr},(x,a)∈cellsFrom n names []→(x,NameKind.cell)∈names
 |(y,q)::r,n,x,a,h=>by
  unfold cellsFrom at h
  split at h
  ·rename_i hq
   rw [iQ] at h
   rcases List.mem_append.mp h with h |h
   ·exact .tail _ (oU r _ h)
   ·cases List.mem_singleton.mp h
    rw [eq_of_beq hq];exact .head _
  ·exact .tail _ (oU r _ h)
noncomputable def JF (cs:List (Str×Addr)) (f:Str→Option Value) (n:Str):Option Value:=if (cs.lookup n).isSome then none else f n
noncomputable abbrev cE (scope:Scope) (env:Env) (C:Addr):Env:=compEnvC scope (cellsFrom (C+1) scope.names (Bc env scope.names [])) C env
variable {c:Cx w n} {tgt elt:Expr} {px py:Pos} {rest:List Stmt} {KB:Bool→List HP→Prop} {J:Po} {k1:Nat} {S:Heap→Prop}
section
variable {Lc:LL} {cond:Expr} {ifs:List Expr} {spos:Pos} {K:D→List HP→Prop} {a I:Addr}
noncomputable def J3 (scope:Scope) (env:Env) (Lc:LL):Bool:=(scope.kind== .function&&scope.names.all fun y=>y.2 != .local||scope.names.lookup y.1==some .local)&&((scope.names.all fun y=>y.2 != .free||(env.cells.lookup y.1).isSome)&&Lc.all fun p=>(env.kindOf p.1==some .cell&&(relabel scope env).names.lookup p.1==some .cell)&&scope.names.all fun y=>y.2 != .cell||y.1 !=p.1)
structure QH (scope:Scope) (env:Env) (Lc:LL):Prop where
 a2:scope.kind= .function
 a3:∀y∈scope.names,y.2= .local→scope.names.lookup y.1=some .local
 a5:closureFor scope env=pure (Bc env scope.names [])
 a6:∀n a,(Bc env scope.names []).lookup n=some a→env.cells.lookup n=some a
 a7:∀p∈Lc,env.kindOf p.1=some .cell∧(relabel scope env).names.lookup p.1=some .cell∧(p.1,NameKind.cell)∉scope.names
theorem Nw (h:J3 scope env Lc=true):QH scope env Lc:=by
 simp only [J3,Bool.and_eq_true,beq_iff_eq] at h
 obtain ⟨⟨h2,h3⟩,h5,h6⟩:=h
 refine ⟨h2,fun y hy hl=>?_,Rf h5,zv _ _ h5 fun V V e=>noA e,fun p hp=>?_⟩
 ·have:=List.all_eq_true.mp h3 y hy
  rw [hl] at this
  simpa using this
 ·have:=List.all_eq_true.mp h6 p hp
  simp only [Bool.and_eq_true,beq_iff_eq] at this
  refine ⟨this.1.1,this.1.2,fun q=>?_⟩
  have:=List.all_eq_true.mp this.2 _ q
  simp at this
theorem PU (h:scope.kind= .function) (v:Pd env):Pd (cE scope env C):=⟨h,v.g,v.b⟩
theorem jO.nw (g:jO Ps Qs h0 h) (k:∀b o,(∃o,h0.get? b=some o)→h.get? b=some o→h'.get? b=some o) (t:bl h h'):jO Ps Qs h0 h':=⟨g.t.trans t,fun b o n e=>k b o ⟨o,e⟩ (g.k b o n e),g.w,g.f⟩
theorem jO.add (g:jO Ps Qs h0 h) (n:∀z∈Q.F,h0.get? z=none):jO Ps (Q::Qs) h0 h:=⟨g.t,g.k,fun z q=>(List.mem_append.mp (show z∈Q.W++Wl Qs from q)).elim (fun q=>.inr (n z (Q.wf z q))) (g.w z),fun z q=>(List.mem_append.mp (show z∈Q.F++Fl Qs from q)).elim (fun q=>.inr (n z q)) (g.f z)⟩
theorem St.add (X:St w E env m L Ps h) (st:Q.S h) (ap:∀P∈Ps,∀z∈P.F,z∉Q.F) (eE:∀z∈Q.F,(z∈E.W∨E.g.get? z=none)∧¬ Lo env z):St w E env m L (Q::Ps) h:=
 ⟨⟨X.f.fr,X.f.ew,X.f.kp,X.f.tt,BP st X.f.S,List.pairwise_cons.mpr ⟨fun P hP=>⟨fun z hz q=>ap P hP z q (Q.wf z hz),fun z hz q=>ap P hP z (P.wf z hz) q⟩,X.f.sep⟩,BP ⟨fun z hz=>(eE z (Q.wf z hz)).1,fun z hz=>(eE z hz).1.imp_left (X.f.ew z)⟩ X.f.ext⟩,X.a,X.l,X.lo,X.ce,BP (fun z hz=>(eE z hz).2) X.of,X.v⟩
theorem Hf {A:Around} {QQ:Env→Shared→Prop} {EE:Value→Shared→Prop} {s:Shared} (X:St w E env m L Ps h0) (hs:QH scope env Lc) (sL:iJ Lc L) (sub:Sub h0 s.heap)
  (k:∀h3 m2,Sub s.heap h3→(∀z,Lo (cE scope env s.heap.objs.size) z→Lo env z∨s.heap.get? z=none)→St w E (cE scope env s.heap.objs.size) m2 Lc Ps h3→QQ (cE scope env s.heap.objs.size) (sh s h3 s.toks)):
  wpAny (model pw w) A (newFunctionEnv scope env.globals (Bc env scope.names []) [] env.qual none .none (some env)) (fun cenv s4=>QQ {cenv with scope:=relabel scope env} s4) EE s:=by
 have ok:=cellsFrom_ok scope.names (s.heap.push {cls:=.type "dict",data:=.dict #[]}) (s.heap.objs.size+1) [] ⟨fun V V hm=>(nomatch hm),.nil⟩ (Nat.le_of_eq (Heap.size_push ..).symm)
 rw [Heap.size_push] at ok
 simp only [newFunctionEnv,Option.isSome_some,if_true]
 refine wpAny_bind (wpAny_alloc ?_)
 refine wpAny_bind (wpAny_layCells _ (fun name kind cells=>by cases hkc:kind==NameKind.cell<;>simp [hkc]) _ _ _ _ ?_)
 rw [List.forIn_nil]
 refine wpAny_bind (wpAny_pure (wpAny_pure ?_))
 dsimp only
 rw [Heap.size_push]
 have look:∀{n a},(cE scope env s.heap.objs.size).cells.lookup n=some a→(cellsFrom (s.heap.objs.size+1) scope.names []).lookup n=some a∨(cellsFrom (s.heap.objs.size+1) scope.names []).lookup n=none∧env.cells.lookup n=some a:=fun {n a} e=>by
  have e:(cellsFrom (s.heap.objs.size+1) scope.names (Bc env scope.names [])).lookup n=some a:=e
  rw [iQ,List.lookup_append] at e
  cases q:(cellsFrom (s.heap.objs.size+1) scope.names []).lookup n with
  |none=>rw [q] at e;exact .inr ⟨rfl,hs.a6 n a e⟩
  |some b=>rw [q] at e;exact .inl e
 have own:=fun {n a} (e:(cellsFrom (s.heap.objs.size+1) scope.names []).lookup n=some a)=>ok.empty n a (mem_of_lookup e)
 have kk:Sub s.heap (pushCells (s.heap.push {cls:=.type "dict",data:=.dict #[]}) scope.names):=fun b o e=>pushCells_keeps _ _ b o (Heap.get?_push_of_some _ e)
 have new:∀{n a},(cellsFrom (s.heap.objs.size+1) scope.names []).lookup n=some a→s.heap.get? a=none:=fun e=>aA (Nat.le_of_succ_le (own e).2)
 have C0:s.heap.get? s.heap.objs.size=none:=aA (Nat.le_refl _)
 have ex:∀{n a},env.cells.lookup n=some a→∃o,s.heap.get? a=some o:=fun {n a} e=>cQ (X.loEx (.inr ⟨n,e⟩)) fun o e=>⟨o,sub _ _ e⟩
 have lo2:∀z,Lo (cE scope env s.heap.objs.size) z→Lo env z∨s.heap.get? z=none:=fun z q=>q.elim (fun e=>.inr (e▸C0)) fun zz=>cQ zz fun n e=>(look e).elim (fun e=>.inr (new e)) fun e=>.inl (.inr ⟨n,e.2⟩)
 refine k _ ⟨fun V=>none,JF (cellsFrom (s.heap.objs.size+1) scope.names []) m.c⟩ kk lo2 ⟨X.f.sub (sub.trans kk),⟨Sub.rfl',(Heap.Ns.new s.heap (.type "dict")).keeps (pushCells_keeps _ _),fun n a e=>?_⟩,fun y d e=>?_,fun z q=>(lo2 z q).elim (X.lo z) fun n=>X.f.old (aS n sub),fun n a e=>⟨fun q=>?_,fun k e2=>?_⟩,fun P hP z hz q=>(lo2 z q).elim (X.of P hP z hz) fun n=>nj (X.f.ex hP hz) (aS n sub),PU hs.a2 X.v⟩
 ·show Heap.IsCell _ a (JF _ _ _)
  rcases look e with e |⟨e0,e⟩
  ·rw [JF,e]
   exact (own e).1
  ·rw [JF,e0]
   exact (X.a.cs n a e).keeps (sub.trans kk)
 ·refine ab (X.l y d (sL.look e)) fun u a b=>?_
  refine cB (hs.a7 _ (mem_of_lookup e)) fun z1 z2 z3=>?_
  refine a9 u ?_ (b.mono (sub.trans kk).t)
  rw [lv,if_pos z1] at a
  refine (if_pos z2).trans ((if_neg fun q=>?_).trans a)
  refine cQ (Option.isSome_iff_exists.mp q) fun b q=>?_
  exact z3 (oU _ _ (mem_of_lookup q))
 ·exact (look e).elim (fun e=>Nat.ne_of_gt (own e).2 q) fun e=>nj (ex e.2) (q▸C0)
 ·exact (look e).elim (fun e=>(look e2).elim (fun e2=>name_of_addr ok.apart (mem_of_lookup e2) (mem_of_lookup e)) fun e2=>nj (ex e2.2) (new e)) fun e=>(look e2).elim (fun e2=>nj (ex e.2) (new e2)) fun e2=>(X.ce n a e.2).2 k e2.2
noncomputable def Sc (c:Cx w n) (env:Env) (L:LL) (Ps:List HP) (tgt iter:Expr) (ds:List D):Prop:=∀s m,St w c.E env m L Ps s.heap→bg w c.A (eval iter env) s fun v h1=>Sub s.heap h1∧∀t1,bg w c.A (pyIter v) (sh s h1 t1) fun it h2=>Sub h1 h2∧∃I src,it= .ref I∧Kc w c.A tgt I src h2 ds∧s.heap.get? I=none∧src∉Wl Ps
noncomputable def Xf (c:Cx w n) (env:Env) (L:LL) (Ps:List HP) (ifs:List Expr) (K:Bool→List HP→Prop):Prop:=∀s h t m,St w c.E env m L Ps h→bg w c.A (forIn ifs true fun c r=>if r=true then do let ok←isTrue c env (eval c env);pure (ForInStep.yield ok) else pure (ForInStep.yield r)) (sh s h t) fun b h'=>∃Qs,K b Qs∧St w c.E env m L Qs h'∧jO Ps Qs h h'
theorem M4 (k:KB true Ps):Xf c env L Ps [] KB:=fun s h t m X Q E q=>wpAny_tests_nil (q true h t (cb Ps k X (.sub Sub.rfl')))
theorem Ot (e1:Xt c env L Ps e KB):Xf c env L Ps [e] KB:=fun s h t m X Q E q=>wpAny_tests_one (e1 s h t m X Q E q)
structure CL (w:World) (E:AP) (env:Env) (Lc:LL) (Ps:List HP) (Inv:(List D→List HP→Prop)→Prop) (h0 h2:Heap) (I Dl:Addr) (fp:List Addr) (i:Nat) (h:Heap) (ys:Array Value) (yd:List D) (Rs:List HP) (m:ma):Prop where
 p:h.PlainList Dl ys
 r:bp h ys.toList yd
 n:yd.length≤i
 i:∀K,Inv K→K yd Rs
 x:St w E env m Lc Rs h
 g:jO Ps Rs h0 h
 t:bl h2 h
 o:∀P∈Rs,(∀z∈ [I,Dl],z∉P.F)∧∀z∈fp,z∉P.W
noncomputable def Ra (c:Cx w n) (scope:Scope) (env:Env) (Lc:LL) (Inv:Nat→(List D→List HP→Prop)→Prop) (tgt:Expr) (ifs:List Expr) (elt:Expr) (i:Nat) (d:D) (C:Addr):Prop:=
 ∃Y,Tg w c.A (cE scope env C) tgt d Y∧(∀x∈Y.map (·.1),C≤n6 (cE scope env C) x∧Lc.lookup x=none)∧Inv i fun ys Qs=>Xf c (cE scope env C) (Y++Lc) Qs ifs fun b Rs=>if b=true then Xe c (cE scope env C) (Y++Lc) Rs elt fun du Rs=>∀K,Inv (i+1) K→K (ys++ [du]) Rs else∀K,Inv (i+1) K→K ys Rs
theorem Fu {Y:LL} (n:∀x∈Y.map (·.1),Lc.lookup x=none) (e:Lc.lookup x=some d):(Y++Lc).lookup x=some d:=by
 rw [List.lookup_append]
 cases q:Y.lookup x with
 |none=>exact e
 |some u=>rw [n x (List.mem_map.mpr (a9 _ (mem_of_lookup q) rfl))] at e;exact noA e
theorem HT {Zs fp:List Addr} (o:∀P∈Ps,(∀z∈Zs,z∉P.F)∧∀z∈fp,z∉P.W) (g:jO Ps Qs h h') (e1:∀z∈Zs,∃o,h.get? z=some o) (e2:∀z∈fp,∃o,h.get? z=some o):∀P∈Qs,(∀z∈Zs,z∉P.F)∧∀z∈fp,z∉P.W:=fun P hP=>
 ⟨fun z hz q=>(g.f z (bV hP q)).elim (fun q=>(dh q).elim fun P0 q=>(o P0 q.1).1 z hz q.2) fun n=>nj (e1 z hz) n,fun z hz q=>(g.w z (et hP q)).elim (fun q=>(cf q).elim fun P0 q=>(o P0 q.1).2 z hz q.2) fun n=>nj (e2 z hz) n⟩
noncomputable def Cm (c:Cx w n) (env:Env) (L:LL) (Ps:List HP) (elt tgt iter:Expr) (ifs:List Expr) (scope:Scope) (pos:Pos) (K:List D→List HP→Prop):Prop:=
 ∀(s:Shared) (h:Heap) (t:Nat) (m:ma) (spos:Pos) (use:Option (Value→Sem Unit)) (QQ:Value→Shared→Prop) (EE:Value→Shared→Prop),St w c.E env m L Ps h→
  (∀C Dl yd Rs h1 t1,K yd Rs→St w c.E env m L (aq Dl yd::Rs) h1→jO Ps (aq Dl yd::Rs) h h1→(∃m,h1.Ns C m)→h.get? C=none→(∀P∈aq Dl yd::Rs,C∉P.F)→compPost (model pw w) c.A EE use QQ (.ref Dl) C (.ok .next) (sh s h1 t1))→
  wpAny (model pw w) c.A (comprehension (.ListComp elt [⟨tgt,iter,ifs,0⟩] scope pos) scope env spos (newList []) false (eval iter env) use) QQ EE (sh s h t)
theorem uT (Inv:Nat→(List D→List HP→Prop)→Prop) (src:Sc c env L Ps tgt iter ds) (i0:∀K,Inv 0 K→K [] Ps) (he:∀i d,ds[i]? =some d→∀C,Ra c scope env Lc Inv tgt ifs elt i d C)
  (hz:ds.length≤1000) (sL:iJ Lc L) (hs:J3 scope env Lc=true) (hi:sm iter=true):Cm c env L Ps elt tgt iter ifs scope pos fun yd Rs=>∀K,Inv ds.length K→K yd Rs:=fun s h t m spos use QQ EE X hQ=>by
 have hs:=Nw hs
 refine wpAny_comprehension_free rfl (fun V=>Bh hi) hs.a5 hs.a2 hs.a3 (src (sh s h t) m X _ _ fun v h1 t1=>av fun k1 z=>z t1 _ _ fun it h2 t2=>cV fun k2 I sr e zz17 nI oS=>bG zz17 fun fp P S W s0 f1 f2 hP zz18=>bC zz18 fun nt own=>?_)
 subst e
 have b2:Sub h h2:=k1.trans k2
 have hIf:I∈fp:=W.sub I (.head _)
 refine wpAny_newObj_type ?_
 dsimp only
 have hacc:=Heap.get?_push_size h2 (o:={cls:=.type "list",dict:=none,data:=.seq ([]:List Value).toArray}) rfl
 generalize hH2:h2.push {cls:=.type "list",dict:=none,data:=.seq ([]:List Value).toArray}=H2 at hacc ⊢
 have kH:Sub h2 H2:=fun b o e=>hH2▸Heap.get?_push_of_some _ e
 have nD:h.get? h2.objs.size=none:=aS (aA (Nat.le_refl _)) b2
 have nDf:∀b∈fp,b≠h2.objs.size:=fun b hb q=>nj (f2 0 _ s0 b hb) (q▸aA (Nat.le_refl _))
 generalize hDl:h2.objs.size=Dl at hacc nD nDf ⊢
 refine Hf (QQ:=fun e s4=>codeAny (model pw w) c.A (.compStart (.ListComp elt [⟨tgt,iter,ifs,0⟩] scope pos) 0 (.ref I) (.ref Dl) e) (compPost (model pw w) c.A EE use QQ (.ref Dl) e.locals) s4) (s:=sh s H2 t2) X hs sL (b2.trans kH) fun h3 m2 k3 new Y3=>?_
 have nC:h.get? H2.objs.size=none:=aS (aA (Nat.le_refl _)) (b2.trans kH)
 have nsl:∀{z},H2.objs.size≤z→h.get? z=none:=fun q=>aS (aA q) (b2.trans kH)
 have exI:∃o,H2.get? I=some o:=cQ (f2 0 _ s0 I hIf) fun o e=>⟨o,kH _ _ e⟩
 have nl:∀{z},(∃o,H2.get? z=some o)→h.get? z=none→¬ Lo (cE scope env H2.objs.size) z:=fun x n q=>(new _ q).elim (fun q=>nj (X.loEx q) n) fun n=>nj x n
 have exD:∃o,H2.get? Dl=some o:=⟨_,hacc⟩
 have nlI:=nl exI nI
 have nlD:=nl exD nD
 have nlf:∀b∈fp,∀Y:List Str,(∀x∈Y,H2.objs.size≤n6 (cE scope env H2.objs.size) x)→∀x∈Y,b≠n6 (cE scope env H2.objs.size) x:=fun b hb Y hY x hx q=>cQ (f2 0 _ s0 b hb) fun o e=>Nat.lt_irrefl _ (Nat.lt_of_lt_of_le (Heap.lt_size (kH _ _ e)) (q▸hY x hx))
 have loop:codeAny (model pw w) c.A (.compLoop (.ListComp elt [⟨tgt,iter,ifs,0⟩] scope pos) 0 (.ref I) (.ref Dl) (cE scope env H2.objs.size)) (compPost (model pw w) c.A EE use QQ (.ref Dl) H2.objs.size) (sh s h3 t2):=by
  obtain ⟨CI,mk,el⟩:∃CI:Nat→Shared→Prop,(∀{h' tk i ys yd Rs m'},i≤ds.length→S i h'→CL w c.E (cE scope env H2.objs.size) Lc Ps (Inv i) h h2 I Dl fp i h' ys yd Rs m'→CI (ds.length - i) (sh s h' tk))∧∀k s',CI k s'→∃h' tk i ys yd Rs m',s'=sh s h' tk∧i≤ds.length∧k=ds.length - i∧S i h'∧CL w c.E (cE scope env H2.objs.size) Lc Ps (Inv i) h h2 I Dl fp i h' ys yd Rs m':=by
   refine ⟨_,?_,fun V V x=>x⟩
   exact fun a b c=>⟨_,_,_,_,_,_,_,rfl,a,rfl,b,c⟩
  refine codeAny_loop rfl CI ?_ ds.length (mk (i:=0) (Nat.zero_le _) (W.frame _ _ _ s0 fun b V o e=>k3 _ _ (kH _ _ e)) ⟨⟨_,k3 _ _ hacc⟩,.nil,Nat.le_refl _,i0,Y3,.sub ((b2.trans kH).trans k3),(kH.trans k3).t,fun P hP=>⟨DO (fun q=>nj (X.f.ex hP q) nI) fun q=>nj (X.f.ex hP q) nD,fun z hz q=>(f1 z hz).elim (fun e=>nj (X.f.ex hP (P.wf z q)) (e▸nI)) fun e=>oS (e▸et hP q)⟩⟩)
  intro k s' ci
  obtain ⟨h',tk,i,ys,yd,Rs,m',rfl,hi,rfl,hS,Z⟩:=el _ _ ci
  show wpAny _ _ ((compTurn (.ListComp elt [⟨tgt,iter,ifs,0⟩] scope pos) 0 (.ref I) (.ref Dl) (cE scope env H2.objs.size)).onRaise (fun x=>do noteFrame x (cE scope env H2.objs.size);theTreesLotGoes x)) _ _ _
  refine wpAny_noted ?_
  rw [compTurn_list]
  refine wpAny_bind (wpAny_standAt (wpAny_bind ?_))
  have hidI:=fun {h1} (k1:cv [I] h' h1)=>(have t1:bl h' h1:=k1.t fun b hb=>by rw [List.mem_singleton.mp hb];exact nt _ _ hS
   (l6 t1 (Z.x.hid k1 t1 (gz (X.f.old nI)) (fun P hP z hz q=>(Z.o P hP).1 I (.head _) (ur q▸hz)) (gz nlI)) (Z.g.nw (fun b o x e=>k1 b o (fun q=>nj x (ur q▸nI)) e) t1) (Z.p.at fun o e=>k1 Dl o (fun q=>nDf I hIf (ur q).symm) e)):bl h' h1∧St w c.E (cE scope env H2.objs.size) m' Lc Rs h1∧jO Ps Rs h h1∧h1.PlainList Dl ys)
  by_cases hlt:i <ds.length
  ·refine W.item i _ _ _ hlt hS fun v h1 tk1 hPv hS1 k1=>?_
   refine df (hidI k1) fun t1 X1 g1 hl1=>?_
   refine ab (hP i v hPv) fun d hd rd=>?_
   refine ar (he i d hd H2.objs.size) fun Y tg ysl he=>?_
   have he:=Z.i _ he
   refine wpAny_bind (own (i+1) (sh s h1 tk1) v hS1 _ _ fun V h1' tk1' e1=>?_)
   subst e1
   refine wpAny_bind (tg _ _ _ _ (sh s h1' tk1') v X1 (rd.mono (Z.t.trans t1)) _ _ fun V h3 t3=>ft fun zz19 kl tt3=>cQ zz19 fun m3 X3=>wpAny_bind (he s h3 t3 m3 X3 _ _ fun ok h4 t4=>kD fun Q4 k4 X4 g4=>?_))
   have hS3:S (i+1) h3:=W.frame _ _ _ hS1 fun b hb o e=>kl b o (nlf b hb _ fun x hx=>(ysl x hx).1) e
   have hl3:h3.PlainList Dl ys:=hl1.at fun o e=>kl.no nlD e
   have g3:jO Ps Rs h h3:=g1.nw (fun b o x e=>kl b o (fun y hy q=>nj x (q▸nsl (ysl y hy).1)) e) tt3
   have gF:∀{Q' h6},jO Rs Q' h3 h6→S (i+1) h6∧h6.PlainList Dl ys∧jO Ps Q' h h6∧bl h' h6∧∀P∈Q',(∀z∈ [I,Dl],z∉P.F)∧∀z∈fp,z∉P.W:=fun g=>
    (sQ (W.frame _ _ _ hS3 fun b hb o e=>g.k b o (fun q=>(cf q).elim fun P q=>(Z.o P q.1).2 b hb q.2) e) (hl3.at fun o e=>g.k Dl o (fun q=>(cf q).elim fun P q=>(Z.o P q.1).1 Dl jT (P.wf _ q.2)) e) (g3.trans g) ((t1.trans tt3).trans g.t) (HT Z.o g (DO (f2 _ _ hS3 I hIf) (cQ hl3 fun V e=>⟨_,e⟩)) (f2 _ _ hS3)))
   have off:=fun {x d}=>Fu (x:=x) (d:=d) fun y hy=>(ysl y hy).2
   cases ok with
   |false=>
    refine fF (gF g4) fun a1 a2 a3 a4 a5=>?_
    exact wpAny_pure ⟨rfl,_,NU hlt,mk hlt a1 ⟨a2,Z.r.mono a4,Nat.le_succ_of_le Z.n,k4,X4.loc fun V V=>off,a3,Z.t.trans a4,a5⟩⟩
   |true=>
    refine wpAny_bind (wpAny_bind (k4 s h4 t4 m3 X4 _ _ fun u h5 t5=>ak fun du Q5 k5 ru X5 g5=>?_))
    refine fF (gF (g4.trans g5)) fun a1 a2 a3 a4 a5=>?_
    have ry:=Z.r.mono a4
    have hys:ys.size≤sizeLine:=by rw [←Array.length_toList,ry.length,sizeLine_eq];exact Nat.le_trans Z.n (Nat.le_trans (Nat.le_of_lt hlt) (Nat.le_trans hz (Nat.le_of_ble_eq_true rfl)))
    refine wpAny_bind (wpAny_list_append_plain (hsz:=hys) a2 fun h6 hl6 hs6=>wpAny_pure (wpAny_pure ?_))
    have k6:cv [Dl] h5 h6:=fun b o hb e=>(hs6.2 b fun q=>hb (q▸ .head _)).trans e
    have t6:bl h5 h6:=k6.t fun b hb vs n e=>by refine cQ a2 fun n' e'=>?_;rw [ur hb,e'] at e;exact ia e.symm (fun z=>absurd (Value.type.inj z) (by decide)) (fun z=>absurd (Value.type.inj z) (by decide))
    refine ⟨rfl,_,NU hlt,mk hlt (W.frame _ _ _ a1 fun b hb o e=>k6 b o (fun q=>nDf b hb (ur q)) e) ⟨hl6,?_,by rw [List.length_append];exact Nat.succ_le_succ Z.n,k5,(X5.loc fun V V=>off).hid k6 t6 (gz (X.f.old nD)) (fun P hP z hz q=>(a5 P hP).1 Dl jT (ur q▸hz)) (gz nlD),a3.nw (fun b o x e=>k6 b o (fun q=>nj x (ur q▸nD)) e) t6,(Z.t.trans a4).trans t6,a5⟩⟩
    rw [Array.toList_push]
    exact (ry.mono t6).append (.cons (ru.mono t6) .nil)
  ·have hin:i=ds.length:=Nat.le_antisymm hi (Nat.le_of_not_lt hlt)
   subst hin
   refine W.done _ _ _ hS fun h1 tk1 k1=>wpAny_pure ?_
   refine df (hidI k1) fun t1 X1 g1 zz6=>cQ zz6 fun nl1 el1=>?_
   exact hQ H2.objs.size Dl yd Rs h1 tk1 Z.i (St.add ⟨X1.f,X.a.kp fun z hz o e=>g1.k z o (fun q=>(cf q).elim fun P q=>X.of P q.1 z (P.wf z q.2) hz) e,yL X.l g1.t,X.lo,X.ce,fun P hP z hz q=>(g1.f z (bV hP hz)).elim (fun r=>(dh r).elim fun P0 r=>X.of P0 r.1 z r.2 q) fun n=>nj (X.loEx q) n,X.v⟩ (fZ ys.toList nl1 (by simpa using el1) (Z.r.mono t1)) (fun P hP z hz q=>(Z.o P hP).1 Dl jT (ur q▸hz)) (gz ⟨X.f.old nD,X.new nD⟩)) (g1.add (gz nD)) ⟨_,X1.a.ns⟩ nC (BP (fun q=>nlD (.inl (ur q).symm)) fun P hP q=>X1.of P hP _ q (.inl rfl))
 exact codeAny_compStart_list loop (W.self 0 _ _ _ (W.frame _ _ _ s0 fun b V o e=>k3 _ _ (kH _ _ e)) loop)
theorem Og {K':List D→List HP→Prop} (C0:Cm c env L Ps elt tgt iter ifs scope pos K') (k:∀yd Rs,K' yd Rs→∀a,K (.ref a) (aq a yd::Rs)):Xe c env L Ps (.ListComp elt [⟨tgt,iter,ifs,0⟩] scope pos) K:=fun s h t m X Q E q=>by
 rw [eval_ListComp]
 refine C0 _ _ _ _ _ _ _ _ X fun C Dl yd Rs h1 t1 hI Y g ns nC off=>cQ ns fun m1 ns=>a9 m1 ns (fun h2 hs2=>?_)
 have kC:cv [C] h1 h2:=fun b o hb e=>hs2.extBut b o (fun q=>hb (q▸ .head _)) e
 have tC:bl h1 h2:=kC.t fun b hb vs n e=>by refine a8 ns fun o es ep ho hd V=>?_;rw [ur hb,ho] at e;exact fW e.symm hd
 exact q _ h2 t1 (dm (.ref Dl) _ (k _ _ hI Dl) (.ref Dl) (Y.hid kC tC (gz (X.f.old nC)) (fun P hP z hz q=>off P hP (ur q▸hz)) (gz (X.new nC))) (g.nw (fun b o x e=>kC b o (fun q=>nj x (ur q▸nC)) e) tC))
theorem Of {K':List D→List HP→Prop} (C0:Cm c env L Ps elt tgt iter ifs scope pos K') (k:∀yd Rs,K' yd Rs→∀a,Tr c env ((y,.ref a)::L) (aq a yd::Rs) rest J) (hy:autoParam (bT env y=true) aR) (hsw:autoParam (swapsWith (.ListComp elt [⟨tgt,iter,ifs,0⟩] scope pos) (some (.Name y py)) spos.line env=pure true) aR):Tr c env L Ps (.Assign [.Name y py] (.ListComp elt [⟨tgt,iter,ifs,0⟩] scope pos) spos::rest) J:=fun s h t m X Q E q=>by
 refine wpAny_execs_cons ?_
 rw [exec_Assign_Name_used _ _ _ _ hsw]
 refine wpAny_bind (wpAny_standAt (wpAny_bind ?_))
 show wpAny _ c.A (do let _←comprehension (.ListComp elt [⟨tgt,iter,ifs,0⟩] scope pos) scope env _ (newList []) false (eval iter env) (some (assign (.Name y py) env))) _ _ _
 refine wpAny_bind (C0 _ _ _ _ _ _ _ _ X fun C Dl yd Rs h1 t1 hI Y g ns nC off=>?_)
 show wpAny _ c.A (assign (.Name y py) env (.ref Dl)) _ _ _
 refine wpAny_assign_Name (eO (s:=sh s h1 t1) Y (.ref Dl) hy fun m2 h2 t2 Y2 kl V=>?_)
 have nl:=X.new nC
 refine cQ ns fun m1 ns=>?_
 have ns:h2.Ns C m1:=rT ns fun o e=>kl.no nl e
 refine a9 m1 ns (fun h3 hs3=>wpAny_pure (wpAny_pure ?_))
 have kC:cv [C] h2 h3:=fun b o hb e=>hs3.extBut b o (fun q=>hb (q▸ .head _)) e
 have tC:bl h2 h3:=kC.t fun b hb vs n e=>by refine a8 ns fun o es ep ho hd V=>?_;rw [ur hb,ho] at e;exact fW e.symm hd
 exact k _ _ hI Dl s h3 t2 m2 (Y2.hid kC tC (gz (X.f.old nC)) (fun P hP z hz q=>off P hP (ur q▸hz)) (gz nl)) Q E q
theorem xF.sub (p:xF w env m L Ps h) (k:Sub h h'):xF w env m L Ps h':=⟨(p.a.step k).here,yL p.l k.t,fun P q=>P.fr.sub (p.S P q) k,p.fr.sub k,p.ce,p.of,p.v⟩
noncomputable abbrev bE (Bs:List HP):HP:=⟨[],Fl Bs,fun h=>∀P∈Bs,P.S h,⟨fun h h' S t k P hP=>P.fr.mo h h' (S P hP) t fun z hz o e=>k z (bV hP hz) o e,fun h S z hz=>let ⟨P,a,b⟩:=dh hz;P.fr.ex h (S P a) z b⟩,fun V h=>noM h⟩
theorem xF.one (p:xF w env m L Ps h):St w ⟨h,jR env,jR env++Fl Ps⟩ env m L [bE Ps] h:=
 ⟨⟨p.fr,fun V=>mL,fun V V V e=>e,fun V V V e=>e,gz p.S,List.pairwise_singleton ..,gz ⟨fun z q=>noM q,fun z q=>.inl (mR q)⟩⟩,p.a,p.l,fun z q=>.inl (dE.mpr q),p.ce,gz fun z q=>(dh q).elim fun P q=>p.of P q.1 z q.2,p.v⟩
theorem xF.all (p:xF w env m L [bE Ps] h):xF w env m L Ps h:=⟨p.a,p.l,p.S _ (.head _),p.fr,p.ce,fun P hP z hz=>p.of _ (.head _) z (bV hP hz),p.v⟩
noncomputable abbrev Cx.on (c:Cx w n) (E:AP):Cx w n:=⟨c.A,c.r,E⟩
theorem QZ (x:∀E,Xe (c.on E) env L [bE Ps] e fun d Qs=>∃a,d= .ref a∧Qs= [aq a ds,bE Ps]):Xl c env L Ps e ds:=fun h m p s ha=>
 (x _ s s.heap s.toks m (p.sub ha.sub).one).mono fun v h1=>d8 fun d Qs a e1 e2 r Y g=>by
  subst e1 e2
  exact fA (fun b o e=>g.k b o (fun q=>noM q) e) a (ib r) (Y.f.S _ (.head _)) ((g.w a (.head _)).elim (fun q=>noM q) id)
noncomputable abbrev PC (c:Cx w n) (env:Env) (L:LL) (Ps:List HP) (elt tgt iter:Expr) (ifs:List Expr) (scope:Scope) (pos:Pos) (ds:List D):Prop:=∀E,Cm (c.on E) env L [bE Ps] elt tgt iter ifs scope pos fun yd Rs=>yd=ds∧Rs= [bE Ps]
theorem Qg (C0:PC c env L Ps elt tgt iter ifs scope pos ds):Cm c env L Ps elt tgt iter ifs scope pos fun yd Rs=>yd=ds∧Rs=Ps:=fun s h t m spos use QQ EE X hQ=>C0 ⟨h,jR env,jR env++Fl Ps⟩ s h t m spos use QQ EE X.pst.one fun C Dl yd Rs h1 t1=>av fun e1 e2 Y g ns nC off=>by
 subst e1 e2
 have k1:Sub h h1:=fun b o e=>g.k b o (fun q=>noM q) e
 have nD:∀z∈(aq Dl yd).F,h.get? z=none:=gz ((g.w Dl (.head _)).elim (fun q=>noM q) id)
 exact hQ C Dl _ Ps h1 t1 ⟨rfl,rfl⟩ (X.push k1 (Y.f.S _ (.head _)) nD) (.push k1 nD) ns nC (BP (off _ (.head _)) fun P hP q=>nj (X.f.ex hP q) nC)
theorem Sc.of (q:∀s m,St w c.E env m L Ps s.heap→Kq w c.A env s iter (Wl Ps) ds):Sc c env L Ps (.Name x px) iter ds:=fun s m X=>(q s m X).mono fun v h1=>av fun k1 z=>⟨k1,fun t1=>(z t1).mono fun it h2=>vI fun k2 I sr e J n=>⟨k2,I,sr,e,.nm J,J.new,n⟩⟩
noncomputable def DL (c:Cx w n) (env:Env) (L:LL) (Ps:List HP) (iter:Expr) (ds:List D):Prop:=∀s m,xF w env m L Ps s.heap→Kq w c.A env s iter [] ds
theorem sG (e1:Xp c env L Ps e (.ref l)) (O:Hs Ps fun h=>cN h l ds):DL c env L Ps e ds:=fun s m p=>Hw c.r.h p.a (e1 _ m p) (O _ p.S) mN
theorem Qf (e1:Xl c env L Ps e ds):DL c env L Ps e ds:=fun s m p=>JK c.r.h p.a (e1 _ m p) fun V q=>noM q
theorem DL.sc (q:DL c env L Ps iter ds):∀E,Sc (c.on E) env L [bE Ps] (.Name x px) iter ds:=fun E=>.of fun s m X=>q s m X.pst.all
noncomputable def QI (c:Cx w n) (scope:Scope) (env:Env) (Lc:LL) (tgt:Expr) (d:D) (Y:LL):Prop:=∀C,Tg w c.A (cE scope env C) tgt d Y∧∀x∈Y.map (·.1),C≤n6 (cE scope env C) x∧Lc.lookup x=none
noncomputable def Tn (scope:Scope) (env:Env) (Lc:LL) (x:Str):Prop:=Lc.lookup x=none∧∀C,bT (cE scope env C) x=true∧C≤n6 (cE scope env C) x
theorem Tn.g (t:Tn scope env Lc x):QI c scope env Lc (.Name x px) d [(x,d)]:=fun C=>⟨KY (t.2 C).1,gz ⟨(t.2 C).2,t.1⟩⟩
noncomputable def QM (c:Cx w n) (env:Env) (L:LL) (Ps:List HP):List Expr→Bool→Prop
 | [],b=>b=true
 |e::_,b=>Xu c env L Ps e b
section
variable {α:Type} {its:List α} {g:α→D} {p:α→Bool} {f:α→D} {Y:α→LL}
theorem Mh (Lc:LL) (src:∀E,Sc (c.on E) env L [bE Ps] tgt iter (its.map g)) (tg:∀a∈its,QI c scope env Lc tgt (g a) (Y a)) (he:∀a∈its,∀C,QM c (cE scope env C) (Y a++Lc) Ps ifs (p a)∧(p a=true→Xp c (cE scope env C) (Y a++Lc) Ps elt (f a))) (hn:ifs.length≤1) (hz:its.length≤1000) (sL:iJ Lc L) (hs:J3 scope env Lc=true) (hi:sm iter=true):PC c env L Ps elt tgt iter ifs scope pos ((its.filter p).map f):=fun E=>by
 have:=uT (pos:=pos) (ifs:=ifs) (elt:=elt) (fun i K=>K (((its.take i).filter p).map f) [bE Ps]) (src E) (fun K k=>k) (fun i d e C=>?_) (by rw [List.length_map];exact hz) sL hs hi
 ·exact fun s h t m sp u QQ EE X hQ=>this s h t m sp u QQ EE X fun C Dl yd Rs h1 t1 z=>hQ C Dl yd Rs h1 t1 (z (fun yd Rs=>yd=_∧Rs=_) (by rw [List.length_map,List.take_length];exact ⟨rfl,rfl⟩))
 ·refine ab (td e) fun a ha zr86=>?_;subst zr86
  have hm:=List.mem_of_getElem? ha
  refine bC (he a hm C) fun u ev=>?_
  have nx:((its.take (i+1)).filter p).map f=((its.take i).filter p).map f++if p a=true then [f a] else []:=by
   rw [List.take_add_one,ha,List.filter_append,List.map_append]
   cases q:p a<;>simp [q]
  have gF:(if p a=true then Xe (c.on E) (cE scope env C) (Y a++Lc) [bE Ps] elt (fun du Rs=>∀K:List D→List HP→Prop,K (((its.take (i+1)).filter p).map f) [bE Ps]→K (((its.take i).filter p).map f++ [du]) Rs) else∀K:List D→List HP→Prop,K (((its.take (i+1)).filter p).map f) [bE Ps]→K (((its.take i).filter p).map f) [bE Ps]):=by
   rw [nx]
   cases q:p a with
   |true=>exact zw (fun h m z=>ev q h m z.all) fun K k=>k
   |false=>exact fun K k=>by simpa using k
  refine cb (Y a) ((tg a hm C).1) ((tg a hm C).2) ?_
  match ifs,u,hn with
  | [],u,_=>exact M4 (by rw [show p a=true from u] at gF;exact gF)
  | [e],u,_=>exact Ot (QL (fun h m z=>u h m z.all) gF)
theorem NL (l:List α):l.filter (fun V=>true)=l:=List.filter_eq_self.mpr fun V V=>rfl
theorem pc (Lc:LL) (src:DL c env L Ps iter (its.map g)) (he:∀a∈its,∀C,Xp c (cE scope env C) ((x,g a)::Lc) Ps elt (f a)) (hz:its.length≤1000) (sL:autoParam (iJ Lc L) aR) (hs:autoParam (J3 scope env Lc=true) aR) (hi:autoParam (sm iter=true) aR) (tn:autoParam (Tn scope env Lc x) Qj):PC c env L Ps elt (.Name x px) iter [] scope pos (its.map f):=
 NL its▸Mh (p:=fun V=>true) Lc src.sc (fun a V=>tn.g) (fun a ha C=>⟨rfl,fun V=>he a ha C⟩) (Nat.zero_le _) hz sL hs hi
theorem NZ (Lc:LL) (src:DL c env L Ps iter (its.map g)) (he:∀a∈its,∀C,Xu c (cE scope env C) ((x,g a)::Lc) Ps cond (p a)∧(p a=true→Xp c (cE scope env C) ((x,g a)::Lc) Ps elt (f a))) (hz:its.length≤1000) (sL:autoParam (iJ Lc L) aR) (hs:autoParam (J3 scope env Lc=true) aR) (hi:autoParam (sm iter=true) aR) (tn:autoParam (Tn scope env Lc x) Qj):PC c env L Ps elt (.Name x px) iter [cond] scope pos ((its.filter p).map f):=
 Mh Lc src.sc (fun a V=>tn.g) he (Nat.le_refl _) hz sL hs hi
end
theorem iY (C0:PC c env L Ps elt tgt iter ifs scope pos ds):Xl c env L Ps (.ListComp elt [⟨tgt,iter,ifs,0⟩] scope pos) ds:=QZ fun E=>Og (C0 E) fun yd Rs e a=>a9 a rfl (by rw [e.1,e.2])
theorem kT (C0:PC c env L Ps elt tgt iter ifs scope pos ds) (k:∀a,Tr c env ((y,.ref a)::L) (aq a ds::Ps) rest J) (hy:autoParam (bT env y=true) aR) (hsw:autoParam (swapsWith (.ListComp elt [⟨tgt,iter,ifs,0⟩] scope pos) (some (.Name y py)) spos.line env=pure true) aR):Tr c env L Ps (.Assign [.Name y py] (.ListComp elt [⟨tgt,iter,ifs,0⟩] scope pos) spos::rest) J:=
 Of (Qg C0) (fun yd Rs e a=>e.1▸e.2▸k a) hy hsw
theorem OD (Inv:Nat→(List D→List HP→Prop)→Prop) (Lc:LL) (src:Sc c env L Ps (.Name x px) iter ds) (i0:∀K,Inv 0 K→K [] Ps) (he:∀i d,ds[i]? =some d→∀C,Inv i fun ys Qs=>Xf c (cE scope env C) ((x,d)::Lc) Qs ifs fun b Rs=>if b=true then Xe c (cE scope env C) ((x,d)::Lc) Rs elt fun du Rs=>∀K,Inv (i+1) K→K (ys++ [du]) Rs else∀K,Inv (i+1) K→K ys Rs) (hz:ds.length≤1000) (tn:autoParam (Tn scope env Lc x) Qj) (sL:autoParam (iJ Lc L) aR) (hs:autoParam (J3 scope env Lc=true) aR) (hi:autoParam (sm iter=true) aR):Cm c env L Ps elt (.Name x px) iter ifs scope pos fun yd Rs=>∀K,Inv ds.length K→K yd Rs:=
 uT Inv src i0 (fun i d e C=>cb [(x,d)] ((tn.g (px:=px) C).1) ((tn.g (c:=c) (px:=px) (d:=d) C).2) (he i d e C)) hz sL hs hi
theorem Ql {I:(List D→List HP→Prop)→Prop} (C0:Cm c env L Ps elt tgt iter ifs scope pos fun yd Rs=>∀K,I K→K yd Rs) (k:I fun ys Qs=>∀a,Tr c env ((y,.ref a)::L) (aq a ys::Qs) rest J) (hy:autoParam (bT env y=true) aR) (hsw:autoParam (swapsWith (.ListComp elt [⟨tgt,iter,ifs,0⟩] scope pos) (some (.Name y py)) spos.line env=pure true) aR):Tr c env L Ps (.Assign [.Name y py] (.ListComp elt [⟨tgt,iter,ifs,0⟩] scope pos) spos::rest) J:=Of C0 (fun yd Rs z=>z _ k) hy hsw
theorem Qi {I:(List D→List HP→Prop)→Prop} (C0:Cm c env L Ps elt tgt iter ifs scope pos fun yd Rs=>∀K,I K→K yd Rs) (k:I fun ys Qs=>∀a,K (.ref a) (aq a ys::Qs)):Xe c env L Ps (.ListComp elt [⟨tgt,iter,ifs,0⟩] scope pos) K:=Og C0 fun yd Rs z=>z _ k
end
variable {L0:LL} {tp:Pos} {KA:List D→List HP→Prop} {k0:Nat} {QQ:(D→List HP→Prop)→Prop}
section
variable {K:D→List HP→Prop}
theorem Jb (p:Ps.Perm Qs) {z:Addr} (h:z∈Wl Ps):z∈Wl Qs:=(cf h).elim fun P q=>et (p.mem_iff.mp q.1) q.2
theorem H5 (p:Ps.Perm Qs) {z:Addr} (h:z∈Fl Ps):z∈Fl Qs:=(dh h).elim fun P q=>bV (p.mem_iff.mp q.1) q.2
theorem EU (e1:Xe c env L Ps e fun d Qs=>∃Rs,Qs.Perm Rs∧K d Rs):Xe c env L Ps e K:=fun s h t m X=>(e1 s h t m X).mono fun v h'=>d8 fun d Qs Rs p k r Y G=>⟨d,Rs,k,r,Y.perm p,G.t,G.k,fun z q=>G.w z (Jb p.symm q),fun z q=>G.f z (H5 p.symm q)⟩
theorem HJ (p:Ps.Perm (Pre++Rs)) (sp:Sp w k f ds Pre QQ) (q:QQ fun d Qs=>K d (Qs++Rs)) (hk:autoParam (Nat.ble k n=true) aR):Jt w n f ds Ps K:=gQ k Pre Rs QQ sp (Nat.le_of_ble_eq_true hk) p q
theorem Gq {k:Nat} (a:Xl c env L Ps e ds) (b:Xp c env L Ps i (.int k)) (g:ds[k]? =some d) (hk:autoParam (k <1000) aD) (hs:autoParam (sm i=true) aR):Xp c env L Ps (.Subscript e i pos) d:=fun h m p=>Df (a h m p) (b h m p) g hk fun V V=>mQ hs
set_option tactic.hygienic true in
theorem GG {A:Around} (hh:A.handled=none) (hx:bT env x=true) (hy:bT env y=true):Tg w A env (.Tuple [.Name x px,.Name y py] k0 tp) (.tup [d1,d2]) [(y,d2),(x,d1)]:=fun E m L Ps s v X r Q EE q=>by
 obtain ⟨a,vs,nn,rfl,ha,rvs⟩:=r.isTup
 cases rvs with |cons r0 rvs=>
 cases rvs with |cons r1 rvs=>
 cases rvs
 rename_i v0 v1
 refine assign_Tuple_tuple (s:=s) (items:= #[v0,v1]) hh (ki ha) (by rfl) (by rfl) fun h' hext=>?_
 have kx:Sub s.heap h':=fun b o eb=>hext b o (Nat.ne_of_lt (Heap.lt_size eb)) eb
 show wpAny _ _ (do holding [v1] (assign (.Name x px) env v0);do holding [] (assign (.Name y py) env v1);pure ()) _ _ _
 refine wpAny_bind (wpAny_holding (wpAny_assign_Name (eO (s:=sh s h' s.toks) (X.sub kx) (r0.mono kx.t) hx fun m1 h1 t1 X1 k1 tt1=>?_)))
 refine wpAny_bind (wpAny_holding (wpAny_assign_Name (eO (s:=sh s h1 t1) X1 ((r1.mono kx.t).mono tt1) hy fun m2 h2 t2 X2 k2 tt2=>wpAny_pure ?_)))
 exact q _ h2 t2 ⟨⟨m2,X2⟩,fun b o n e=>k2 b o (gz (n y (.head _))) (k1 b o (gz (n x jT)) (kx b o e)),kx.t.trans (tt1.trans tt2)⟩
theorem Kc.lst {A:Around} {s:Shared} {es:List Expr} (hh:A.handled=none) (a:cN s.heap l ds):bg w A (pyIter (.ref l)) s fun it h2=>it= .ref s.heap.objs.size∧Sub s.heap h2∧Kc w A (.Tuple es k0 tp) s.heap.objs.size l h2 ds:=by
 refine ao a fun vs nn el rvs=>?_
 refine (ux (s:=s) el).mono fun it h2=>iA fun e2 k2 i2 il2=>?_
 have hW':=Walks.list (prog:=pw) (w:=w) hh s.heap.objs.size l (Nat.ne_of_lt (Heap.lt_size el)) vs.toArray
 rw [show vs.toArray.size=ds.length from rvs.length] at hW'
 refine ⟨e2,k2,_,fun i v=>vs.toArray[i]? =some v,_,hW',⟨i2,il2⟩,fun b hb=>by simpa using hb,fun i h st b hb=>?_,fun i v hv=>(rvs.mono k2.t).at hv,fun i h st vs n e=>?_,fun i s v st Q E q=>?_⟩
 ·rcases Cv hb with rfl |rfl
  ·exact ab st.1 fun o ho V=>⟨o,ho⟩
  ·exact ab st.2 fun o ho V=>⟨o,ho⟩
 ·refine ar st.1 fun o ho hc V=>?_
  rw [e] at ho;exact ia ho (by rw [hc];decide) (by rw [hc];decide)
 ·cases v<;>first |exact wpAny_letOwnedTupleGo_listiter st.1 (q () s.heap s.toks rfl) |exact wpAny_pure (q () s.heap s.toks rfl)
theorem Oe (k:Nat) (e1:Xp c env L Ps e (.ref l)) (O:Hs Ps fun h=>cN h l ds) (q:KA ds Ps) (hP:autoParam (Ps[k]? =some P) aR) (hW:autoParam (P.W= []) aR) (hl:autoParam (l∈P.F) QA):Xi c env L Ps (.Tuple [.Name x px,.Name y py] k0 tp) e KA:=fun s h t m X=>by
 have a2:=O h X.f.S
 refine (e1 h m X.pst (sh s h t) X.a).mono fun v h1=>av fun k1 r1 t1=>?_
 cases r1
 have a3:=a2.sub k1
 have n0:h1.get? h1.objs.size=none:=aA (Nat.le_refl _)
 have X1:=X.sub k1
 refine (Kc.lst (s:=sh s h1 t1) c.r.h a3).mono fun it h2=>ft fun e2 k2 J=>⟨_,l,ds,Ps,e2,q,X1.sub k2,J,X1.new n0,X.of P (List.mem_of_getElem? hP) l hl,X1.f.old n0,fun P2 hP2 q=>nj (X1.f.ex hP2 q) n0,fun P2 h2 z=>?_,(ao a3 fun V V e V=>⟨_,k2 _ _ e⟩),Nat.ne_of_lt a3.lt⟩
 refine cQ (List.mem_iff_getElem?.mp h2) fun j hj=>?_
 by_cases q:j=k
 ·subst q;rw [hP] at hj;cases hj;rw [hW] at z;exact noM z
 ·exact (gI rO.symm X.f.sep q hj hP).1 l z hl
theorem PR {α:Type} {its:List α} {g1 g2:α→D} {body:List Stmt} (Inv:Nat→(LL→List HP→Prop)→Prop) (i0:∀K,Inv 0 K→K L0 Qs) (step:∀(c':Cx w n) i z,its[i]? =some z→Inv i fun L Ps=>Tr c' env ((y,g2 z)::(x,g1 z)::L) Ps body (Lu J (Inv (i+1)))) (done:Inv its.length fun L Ps=>Tr c env L Ps rest J) (hl:autoParam (iJ L0 L) aR) (hx:autoParam (bT env x=true) aR) (hy:autoParam (bT env y=true) aR):N3 c env L (.Tuple [.Name x px,.Name y py] k0 tp) body rest J (its.map fun z=>.tup [g1 z,g2 z]) Qs:=
 (dm Inv L0 hl i0 (fun i d e=>ab (td e) fun z a b=>a9 _ (b▸GG c.r.h hx hy) (fun c'=>step c' i z a)) ((List.length_map (fun z=>D.tup [g1 z,g2 z]):(its.map _).length=its.length)▸done))
end
section
variable {w:World} {n k:Nat} {c:Cx w n} {env:Env} {E:AP} {m:ma} {L:LL} {Ps Qs Pre Rs:List HP} {P Q:HP} {h h0 h':Heap} {e e1 e2 i j:Expr} {es r:List Expr} {pos:Pos} {rest:List Stmt} {J:Po} {K:D→List HP→Prop} {x:Str} {d:D} {ds:List D} {f fI a C l:Addr} {KK:Type} [DecidableEq KK]
theorem Fi.start (fr:lR w h (Wl Ps)) (st:∀P∈Ps,P.S h) (sep:Ps.Pairwise rO):Fi w ⟨h,Wl Ps,Fl Ps⟩ Ps h:=⟨fr,fun V=>sR,fun V V V e=>e,fun V V V e=>e,st,sep,fun P hP=>⟨fun z hz=>.inl (et hP hz),fun z hz=>.inl (bV hP hz)⟩⟩
theorem sY {Q:Addr→Addr→(D→List HP→Prop)→Prop} (hm:makesIn (Mine.K w.params) C=true) (hi:findIn (Mine.K w.params) (.ref C) "__init__"=some (some (.ref fI))) (hf:typeIn (Mine.K w.params) (.ref fI)=some (.type "function")) (sp:∀x dx,Pf w n fI (.ref x::ds) (jH w x C dx []::Pre) (Q x dx)):Sp w (n+1) C ds Pre fun K=>∀x dx,Q x dx fun d Qs=>d= .none∧K (.ref x) Qs:=by
 intro A r K q s vs rs fr st sep
 have k1:Sub s.heap ((s.heap.push emptyDict).push (instObj C s.heap.objs.size)):=(Sub.push _).trans (Sub.push _)
 have Y:=(Fi.start fr st sep).push (Q:=jH w (s.heap.objs.size+1) C s.heap.objs.size []) k1 ⟨[],0,⟨by heap_get,Heap.get?_push_of_some _ (Heap.get?_push_size _ rfl)⟩,rfl⟩ (DO (aA (Nat.le_succ _)) (aA (Nat.le_refl _)))
 refine Ee fr.pin hm hi hf fun QQ kk=>sp _ _ _ r.make _ (q _ _) {s with heap:=(s.heap.push emptyDict).push (instObj C s.heap.objs.size)} _ (.cons (.ref _) (rs.mono k1.t)) (Y.frsh _ Y.wl) Y.S Y.sep QQ fun v h' t'=>eX fun d Qs zz20 rd Z=>bC zz20 fun e k=>kk v h' t' (o6 ?_ _ Qs k (.ref _) ?_)
 ·subst e;cases rd;rfl
 ·have:=Fi.call (Rs:=[]) (Pre:=jH w (s.heap.objs.size+1) C s.heap.objs.size []::Pre) (by rw [List.append_nil];exact Y) Z (fun V h=>h) fun V h=>h
  rwa [List.append_nil] at this
theorem HN {K':D→HP→Prop} (run:∀A,Rm n A→∀s vs,cA w s.heap→(∀P∈Pre,P.S s.heap)→bp s.heap vs ds→bg w A (call (.ref f) vs) s fun v h'=>∃d Q,K' d Q∧RD h' v d∧Sub s.heap h'∧Q.S h'∧∀z∈Q.F,s.heap.get? z=none):Sp w n f ds Pre fun K=>∀d Q,K' d Q→K d (Q::Pre):=fun A r K q s vs rs fr st sep=>
 (run A r s vs fr.pin st rs).mono fun v h'=>kR fun d Q k' rd k S nw=>hZ d _ (q d Q k') rd ((Fi.start fr st sep).push k S nw)
theorem jZ (e1:Xa c env L Ps es fun ds Qs=>ds.length≤1000∧∀a,K (.ref a) (aq a ds::Qs)):Xe c env L Ps (.List es pos) K:=fun s h t m X=>
 CE ((e1 s h t m pos X).mono fun vs h1=>ak fun ds Qs zz21 rs Y G=>bC zz21 fun hz k=>⟨rs.length▸hz,ds,rs,fun h2 a k2 n l=>
  have nn:∀z∈(aq a ds).F,h1.get? z=none:=fun z hz=>List.mem_singleton.mp hz▸n
  (dm _ _ (k a) (.ref a) (Y.push k2 l nn) (G.trans (.push k2 nn)))⟩)
theorem Lq (j:Nat) (k:Tr c env L (Ps.set j P.ro) rest J) (hP:autoParam (Ps[j]? =some P) aR):Tr c env L Ps rest J:=fun s h t m X=>k s h t m (X.upd (Q:=P.ro) hP (fun V V V e=>e) (fun V V V e=>e) (X.f.S P (List.mem_of_getElem? hP)) (fun V q=>noM q) fun V q=>.inl q)
theorem Ct (P:cA w h):(h.objs.size==sysModules)=false:=by
 refine cI P.t fun p l mg mb t=>?_
 exact beq_eq_false_iff_ne.mpr (Nat.ne_of_gt (modules_low t.nolimit))
noncomputable abbrev j4 (w:World) (knd:KeyKind pw w KK) (a:Addr) (kds:List (KK×D)):HP:=⟨[a],[a],fun h=>nh knd h a kds∧(a==sysModules)=false,jD.andP,fun V h=>h⟩
noncomputable def Xd (c:Cx w n) (env:Env) (L:LL) (Ps:List HP) (pos:Pos) (ks es:List Expr) (knd:KeyKind pw w KK) (KD:List (KK×D)→List HP→Prop):Prop:=∀s h t m,St w c.E env m L Ps h→bg w c.A (evalPairs ((ks.zip es).map fun p=>(eval p.1 env,Gz p.2 pos env))) (sh s h t) fun vs h'=>∃kvs kds Qs,KD kds Qs∧Carries knd vs kvs∧kvs.map (·.1)=kds.map (·.1)∧bp h' (kvs.map (·.2)) (kds.map (·.2))∧St w c.E env m L Qs h'∧jO Ps Qs h h'
theorem Bo:∀es:List Expr,evalEach es env=es.map fun e=>eval e env
 | []=>rfl
 |e::es=>congrArg (eval e env:: ·) (Bo es)
theorem xm:∀es:List Expr,evalEachOpt (es.map some) env=es.map fun e=>some (eval e env)
 | []=>rfl
 |e::es=>congrArg (some (eval e env):: ·) (xm es)
section
variable {knd:KeyKind pw w KK} {KD:List (KK×D)→List HP→Prop} {ks:List Expr} {key:KK}
theorem Fy (k:KD [] Ps):Xd c env L Ps pos [] [] knd KD:=fun s h t m X=>tX (d9 [] [] Ps k trivial rfl .nil X (.sub Sub.rfl'))
theorem mB (key:KK) (q1:Xp c env L Ps i d) (hk:∀h v,RD h v d→knd.is key v=true) (q2:Xe c env L Ps e fun d Qs=>Xd c env L Qs pos ks es knd fun kds Rs=>KD ((key,d)::kds) Rs):Xd c env L Ps pos (i::ks) (e::es) knd KD:=fun s h t m X=>
 rJ ((q1 h m X.pst (sh s h t) X.a).mono fun kv h0=>av fun k0 r0 t1=>Dv ((q2 s h0 t1 m (X.sub k0)).mono fun v h1=>ak fun d Qs k rd Y G t2=>(k s h1 t2 m Y).mono fun vs h2=>gK fun kvs kds Rs kk c e2 r2 Z G2=>d9 ((key,v)::kvs) ((key,d)::kds) Rs kk ⟨hk _ _ r0,rfl,c⟩ (congrArg (key:: ·) e2) (.cons (rd.mono G2.t) r2) Z ((jO.sub k0).trans (G.trans G2))))
theorem AV {keys:List (Option Expr)} (ks:List Expr) (e1:∀a,Xd c env L (j4 w knd a []::Ps) pos ks es knd fun kds Qs=>∃j:Nat,Qs[j]? =some (j4 w knd a [])∧(kds.map (·.1)).Nodup∧K (.ref a) (Qs.set j (j4 w knd a kds)))
  (hs:autoParam (keys=ks.map some) aR) (h0:autoParam ((ks.zip es).isEmpty=false) aE) (hz:autoParam (Nat.ble (ks.zip es).length 15=true) aR):Xe c env L Ps (.Dict keys es pos) K:=fun s h t m X Q EE q=>by
 have nn:∀z∈(j4 w knd h.objs.size []).F,h.get? z=none:=fun z hz=>List.mem_singleton.mp hz▸aA (Nat.le_refl _)
 have k0:Sub h (h.push {cls:=.type "dict",data:=.dict #[]}):=Sub.push _
 have S0:(j4 w knd h.objs.size []).S (h.push {cls:=.type "dict",data:=.dict #[]}):=⟨⟨[],.new _,rfl,.nil⟩,Ct X.f.pin⟩
 have hs:(evalEachOpt keys env).zip ((evalEach es env).map fun v=>do let x←v;standAt pos;Pure.pure x)=((ks.zip es).map fun p=>(eval p.1 env,Gz p.2 pos env)).map fun p=>(some p.1,p.2):=by
  rw [hs,xm,Bo,List.map_map,List.zip_map,List.map_map]
  exact List.map_congr_left fun p V=>rfl
 refine wpAny_Dict_pairs (knd:=knd) hs (fun q=>by rw [List.map_eq_nil_iff] at q;rw [q] at h0;cases h0) (by rw [List.length_map];exact Nat.le_of_ble_eq_true hz) (e1 h.objs.size s _ t m (X.push k0 S0 nn) _ _ fun vs h1 t1=>gK fun kvs kds Qs zz22 ca e2 rr Y G=>ar zz22 fun j hj nd k=>cb kvs ca ?_ (fun h2 D sb=>?_))
 ·refine ar (Y.f.S _ (List.mem_of_getElem? hj)).1.ex fun z D e V=>?_
  cases z with
  |nil=>exact D
  |cons a b=>cases e
 ·have D0:nh knd h1 h.objs.size []:=(Y.f.S _ (List.mem_of_getElem? hj)).1
  have kp:cv [h.objs.size] h1 h2:=SameBut.kp sb
  have t2:bl h1 h2:=kp.t fun b hb=>List.mem_singleton.mp hb▸D0.noTup
  rw [merged_nil_of_nodup _ (e2▸nd)] at D
  have D2:nh knd h2 h.objs.size kds∧(h.objs.size==sysModules)=false:=⟨⟨kvs,D,e2,rr.mono t2⟩,Ct X.f.pin⟩
  have mm:∀{P:HP},P∈Qs.set j (j4 w knd h.objs.size kds)→∃P0∈Qs,P0.W=P.W∧P0.F=P.F:=fun a=>(List.mem_or_eq_of_mem_set a).elim (fun a=>cb _ a rfl rfl) fun e=>cb _ (List.mem_of_getElem? hj) (e▸rfl) (e▸rfl)
  have G2:jO Qs (Qs.set j (j4 w knd h.objs.size kds)) h1 h2:=⟨t2,kp.more fun b hb=>et (P:=j4 w knd h.objs.size []) (List.mem_of_getElem? hj) hb,fun z hz=>ab (cf hz) fun P a b=>ar (mm a) fun P0 a e V=>.inl (et a (e▸b)),fun z hz=>ab (dh hz) fun P a b=>ar (mm a) fun P0 a V e=>.inl (bV a (e▸b))⟩
  exact q _ h2 _ (dm _ _ k (.ref _) (Y.upd (P:=j4 w knd h.objs.size []) hj kp t2 D2 (fun z hz=>.inl hz) fun z hz=>.inl hz) ((jO.push k0 nn).trans (G.trans G2)))
end
end
variable {Bs:List HP} {p4:Pos} {nm:Str} {ds1 ds2:List D}
section
variable {j:Expr} {p5 p6:Pos} {K:D→List HP→Prop} {a:Addr} {KK:Type} [DecidableEq KK]
theorem ha (k:Nat) (e:autoParam (Bs[k]? =some P) aR):Hs (bE Bs::Ps) P.S:=fun h q=>q _ (.head _) P (List.mem_of_getElem? e)
theorem GF {A:Around} (sp:Sp w n f ds [bE Bs] fun K=>∀Qs,K d Qs) (r:Rm n A) (p:cA w h) (S:∀P∈Bs,P.S h):Fn w A h f ds d:=fun s vs k rs=>
 (sp A r (fun d' V=>d'=d) (fun V=>rfl) s vs rs (cb s.heap (p.keeps k) (fun V V e=>e) (fun V q=>noM q)) (fun P q=>List.mem_singleton.mp q▸fun P hP=>P.fr.sub (S P hP) k) (List.pairwise_singleton ..)).mono fun v h'=>eX fun d' Qs e rd X=>⟨fun b o eb=>X.kp b o (fun q=>noM q) eb,e▸rd⟩
theorem Fg (j k:Nat) (q:Tr c env L (P.ro::Ps) rest J) (hP:autoParam (Ps[j]? =some (bE Bs)) aR) (hB:autoParam (Bs[k]? =some P) aR):Tr c env L Ps rest J:=fun s h t m X=>q s h t m (by
 have hm:=List.mem_of_getElem? hP
 have:=X.conv P.ro [j] (List.range' 0 Ps.length) List.nodup_range' (X.f.S _ hm P (List.mem_of_getElem? hB)) (fun z q=>noM q) (fun z q=>bV (P:=bE Bs) (List.mem_filterMap.mpr (a9 j (.head _) hP)) (bV (List.mem_of_getElem? hB) q)) fun k a V P e=>by
  rw [List.mem_singleton.mp a,hP] at e
  exact (Option.some.inj e)▸rfl
 have e:=pS [] Ps
 rw [show sel (List.range' 0 Ps.length) Ps=Ps from e] at this
 exact this)
theorem FG (e1:Xe c env L Ps e fun d Qs=>∃d1 d2,d= .tup [d1,d2]∧Tr c env ((y,d2)::(x,d1)::L) Qs rest J) (hx:autoParam (bT env x=true) aR) (hy:autoParam (bT env y=true) aR)
  (hs:autoParam (swapsWithSole [.Tuple [.Name x px,.Name y py] k0 tp] e pos.line env=pure false) aP) (hw:autoParam (swappedStores [.Tuple [.Name x px,.Name y py] k0 tp] e env=pure none) aW):
  Tr c env L Ps (.Assign [.Tuple [.Name x px,.Name y py] k0 tp] e pos::rest) J:=fun s h t m X Q EE q=>
 wpAny_execs_cons (PyProof.Rows.Assign_Tuple (e1 s h t m X _ _ fun v h1 t1=>ak fun d Qs zz23 r Y V=>ao zz23 fun d1 d2 e k=>GG c.r.h hx hy _ _ _ _ (sh s h1 t1) v Y (e▸r) _ _ fun V h2 t2=>av fun zz24 V=>cQ zz24 fun m' Z=>k s h2 t2 m' Z Q EE q) hs hw)
theorem DU (q1:Xe c env L Ps e1 fun d1 Qs=>Xe c env L Qs e2 fun d2 Rs=>K (.tup [d1,d2]) Rs) (hn:autoParam ([e1,e2].all ns=true) aR):Xe c env L Ps (.Tuple [e1,e2] k0 pos) K:=fun s h t m X Q EE q=>by
 have hn:=Bool.and_eq_true_iff.mp hn
 have hn2:=Bool.and_eq_true_iff.mp hn.2
 refine Tuple_ (args_cons (q1 s h t m X _ _ fun v1 g1 t1=>ak fun d1 Qs z r1 X1 G1=>args_cons (z s g1 t1 m X1 _ _ fun v2 g2 t2=>ak fun d2 Rs k r2 X2 G2=>args_nil ?_) (aQ hn2.1)) (aQ hn.1))
 refine wpAny_newTuple ?_ (by simp [sizeLine_eq])
 have k3:Sub g2 (g2.push (e7 [v1,v2] 0)):=Sub.push _
 exact q _ _ _ (dm _ Rs k (.tup (n:=0) (vs:=[v1,v2]) (Heap.get?_push_size _ rfl) (.cons ((r1.mono G2.t).mono k3.t) (.cons (r2.mono k3.t) .nil))) (X2.sub k3) (G1.trans (G2.trans (.sub k3))))
noncomputable abbrev e8 (w:World) (en:tx KK) (a:Addr) (es:List (KK×Addr×List D)):HP:=⟨a::kb es,a::kb es,fun h=>qk w en h a es∧(a==sysModules)=false,qX.andP,fun V h=>h⟩
theorem Fb {en:tx KK} (k:∀a,K (.ref a) (e8 w en a []::Ps)):Xe c env L Ps (.Dict [] [] pos) K:=fun s h t m X=>(va (c:=en) (s:=sh s h t) X.f.pin).mono fun v h1=>jC fun a e k1 n D0 lo=>dm (.ref a) _ (k a) (e▸ .ref a) (X.push k1 ⟨⟨D0,fun V h=>noM h,.nil⟩,lo⟩ (fun z hz=>List.mem_singleton.mp hz▸n)) (.push k1 fun z hz=>List.mem_singleton.mp hz▸n)
theorem OO {es:List (KK×Addr×List D)} {key:KK} {u:Value} {ya:Addr} (ru:RD h u ((fu (es.map fun e=>(e.1,D.ref e.2.1)) key).getD (.ref ya))):∃e0∈mY es key ya,e0.1=key∧u= .ref e0.2.1:=by
 rw [qK] at ru
 unfold mY
 cases hf:es.find? (fun e=>e.1=key) with
 |some e1=>
  rw [hf] at ru
  have hm1:=List.mem_of_find?_eq_some hf
  have hk1:e1.1=key:=by have:=List.find?_some hf;simpa using this
  rw [if_pos (List.contains_iff_mem.mpr (hk1▸List.mem_map_of_mem hm1))]
  cases ru
  exact cb e1 hm1 hk1 rfl
 |none=>
  rw [hf] at ru
  rw [if_neg (by
   intro q
   refine ab (List.mem_map.mp (List.contains_iff_mem.mp q)) fun e he ek=>?_
   have:=List.find?_eq_none.mp hf e he
   simp [ek] at this)]
  cases ru
  exact cb (key,ya,[]) (mR (.head _)) rfl rfl
theorem Ho {es:List (KK×Addr×List D)} {key:KK} {y b:Addr} (h:b∈kb (mY es key y)):b∈kb es∨b=y:=by
 delta mY at h
 split at h
 ·exact .inl h
 ·delta kb at h
  rw [List.map_append] at h
  exact (List.mem_append.mp h).imp id List.mem_singleton.mp
theorem GB {en:tx KK} {es:List (KK×Addr×List D)} {key:KK} (j:Nat) (hP:Ps[j]? =some (e8 w en a es)) (q1:Xp c env L Ps o (.ref a)) (q2:Xp c env L Ps i (en.enc key)) (hl:L.lookup nm=some d) (hz:es.length≤500) (hzl:∀e∈es,e.2.2.length≤500)
  (k:∀y,Tr c env L (Ps.set j (e8 w en a (v9 (mY es key y) key d))) rest J) (hm:autoParam (qa o [i,.List [] p2] p1 p3=true) aR) (hn:autoParam (bT env nm=true) aR) (hm2:autoParam (qa (.Call (.Attribute o "setdefault" p1) [i,.List [] p2] [] p3) [.Name nm px] p4 p5=true) aR):
  Tr c env L Ps (.Expr (.Call (.Attribute (.Call (.Attribute o "setdefault" p1) [i,.List [] p2] [] p3) "append" p4) [.Name nm px] [] p5) p6::rest) J:=by
 intro s h t m X
 have hn1:=fD hm
 have hn2:=Bool.and_eq_true_iff.mp hn1.2
 refine bC (X.f.S _ (List.mem_of_getElem? hP)) fun G lo=>?_
 refine j5 (iy PySem.F.slot_list_append PySem.F.type_list_append PySem.F.plainAttrs_list ((AG (s:=sh s h t) c.r X.a (q1 h m X.pst) (q2 h m X.pst) G.d lo (by rw [List.length_map];exact Nat.le_trans hz lr) (aQ hn1.1) (aQ hn2.1) (l7 hn1.2) (rU hm)).mono fun u h2=>kR fun h1 y k1 ny Ly k2 zz25=>df zz25 fun t2 H1 H2 ru=>?_) (aQ rfl) (by rfl) (rU hm2)) (by rw [interactive,X.v.k];rfl) rfl
 have ny:h.get? y=none:=ny
 have k1:Sub h h1:=k1
 have nyA:y∉kb es:=fun q=>nj (qX.ex _ G y (.tail _ q)) ny
 have G2:=(qX.sub G k1).sd Ly nyA k2 t2 H2
 have kp2:cv (a::kb es) h h2:=fun b o nb e=>k2 b o (fun q=>nb (List.mem_singleton.mp q▸ .head _)) (k1 _ _ e)
 have sub2:∀z∈(e8 w en a (mY es key y)).W,z∈(e8 w en a es).W∨h.get? z=none:=fun z q=>(List.mem_cons.mp q).elim (fun q=>.inl (q▸ .head _)) fun q=>(Ho q).imp (fun q=>.tail _ q) fun q=>by rw [q];exact ny
 have X2:=X.upd (Q:=e8 w en a (mY es key y)) hP kp2 (k1.t.trans t2) ⟨G2,lo⟩ sub2 sub2
 refine ar (OO ru) fun e0 he0 ek0 zr87=>?_;subst zr87
 have Lx:=G2.ls e0 he0
 have hzx:e0.2.2.length≤1000:=by
  unfold mY at he0
  split at he0
  ·exact Nat.le_trans (hzl e0 he0) lr
  ·rcases List.mem_append.mp he0 with he0 |he0
   ·exact Nat.le_trans (hzl e0 he0) lr
   ·rw [List.mem_singleton.mp he0];exact Nat.zero_le _
 refine ⟨ar (BJ Lx) fun ob a b c=>dm _ ob rfl a b c,fun t3=>bS ((aa hl hn h2 m X2.pst (sh s h2 t3) X2.a).mono fun v3 h3 q=>(q:Sub h2 h3∧RD h3 v3 d)) (fun v3 h3=>av fun k3 r3 t4=>?_) (aQ rfl)⟩
 refine (rm (s:=sh s h3 t4) (Lx.sub k3) r3 hzx).mono fun u4 h4=>iA fun e4 k4 t4 L4=>⟨fun a q=>(by rw [e4] at q;cases q),fun t5=>?_⟩
 have X3:=X2.sub k3
 have hjl:(Ps.set j (e8 w en a (mY es key y)))[j]? =some (e8 w en a (mY es key y)):=by rw [List.getElem?_set_self (List.getElem?_eq_some_iff.mp hP).1]
 have e5:kb (v9 (mY es key y) key d)=kb (mY es key y):=BE
 have wf5:∀z∈a::kb (v9 (mY es key y) key d),z∈a::kb (mY es key y)∨h3.get? z=none:=fun z q=>.inl (by rwa [e5] at q)
 have X4:=X3.upd (P:=e8 w en a (mY es key y)) (Q:=e8 w en a (v9 (mY es key y) key d)) hjl (k4.more fun b hb=>.tail _ (List.mem_singleton.mp hb▸List.mem_map_of_mem (f:=fun e:KK×Addr×List D=>e.2.1) he0)) t4 ⟨(qX.sub G2 k3).ap he0 ek0 k4 t4 L4,lo⟩ wf5 wf5
 rw [List.set_set] at X4
 exact k y s h4 t5 m X4
theorem gp {p:Prop} (O:Hs Ps fun V=>p) (k:p→Tr c env L Ps rest J):Tr c env L Ps rest J:=fun s h t m X=>k (O h X.f.S) s h t m X
theorem N1 (hn:Nat.ble 2 n=true) (q1:Xp c env L Ps e (.ref l)) (O:Hs Ps fun h=>cN h l ds) (ok:dO ds) (h3:ds.length≤3) (hx:autoParam (dY env "sorted"=true) aR) (hs:autoParam (ns e=true) aR):Xl c env L Ps (.Call (.Name "sorted" p1) [e] [] pos) (az ds ds):=fun h m p=>zX c.r p.p p.v.g p.v.b (q1 h m p) (O h p.S) ok h3 (c.r.le (m:=2) (Nat.le_of_ble_eq_true hn)).u50 p.v.k (bN hx).1 (aQ hs)
theorem DW (hn:Nat.ble 2 n=true) (q1:Xl c env L Ps e ds) (ok:dO ds) (h3:ds.length≤3) (hx:autoParam (dY env "sorted"=true) aR) (hs:autoParam (ns e=true) aR):Xl c env L Ps (.Call (.Name "sorted" p1) [e] [] pos) (az ds ds):=fun h m p=>yg c.r p.p p.v.g p.v.b (q1 h m p) ok h3 (c.r.le (m:=2) (Nat.le_of_ble_eq_true hn)).u50 p.v.k (bN hx).1 (aQ hs)
theorem Ed {en:tx KK} {kds:List (KK×D)} (hn:Nat.ble 2 n=true) (q1:Xp c env L Ps e (.ref l)) (O:Hs Ps fun h=>cM w en h l kds∧(l==sysModules)=false) (ok:dO (kds.map fun x=>en.enc x.1)) (h3:kds.length≤3) (hx:autoParam (dY env "sorted"=true) aR) (hs:autoParam (ns e=true) aR):Xl c env L Ps (.Call (.Name "sorted" p1) [e] [] pos) (az (kds.map fun x=>en.enc x.1) (kds.map fun x=>en.enc x.1)):=fun h m p=>yF c.r p.p p.v.g p.v.b (q1 h m p) (O h p.S).1 (O h p.S).2 ok h3 (c.r.le (m:=2) (Nat.le_of_ble_eq_true hn)).u50 p.v.k (bN hx).1 (aQ hs)
theorem Eb (q1:Xl c env L Ps e1 ds1) (q2:Xl c env L Ps e2 ds2) (f1:D.flats 9 ds1=true) (f2:D.flats 9 ds2=true) (hs:autoParam (sm e2=true) aR):Xu c env L Ps (.Compare e1 [.NotEq] [e2] pos) (!lp ds1 ds2):=fun h m p=>Jy c.r (q1 h m p) (q2 h m p) f1 f2 (me hs)
theorem qj (q:Xq c env L Ps es ds) (hz:autoParam (ds.length≤100) aN):Xl c env L Ps (.List es pos) ds:=fun h m p=>kL (q h m p) hz
end
section
variable {K:D→List HP→Prop} {a:Addr} {KK:Type} [DecidableEq KK] {f:D→D}
set_option tactic.hygienic true in
theorem I3 {A:Around} {d3:D} {z:Str} {pz:Pos} (hh:A.handled=none) (hx:bT env x=true) (hy:bT env y=true) (hz:bT env z=true):Tg w A env (.Tuple [.Name x px,.Name y py,.Name z pz] k0 tp) (.tup [d1,d2,d3]) [(z,d3),(y,d2),(x,d1)]:=fun E m L Ps s v X r Q EE q=>by
 obtain ⟨a,vs,nn,rfl,ha,rvs⟩:=r.isTup
 cases rvs with |cons r0 rvs=>
 cases rvs with |cons r1 rvs=>
 cases rvs with |cons r2 rvs=>
 cases rvs
 rename_i v0 v1 v2
 refine assign_Tuple_tuple (s:=s) (items:= #[v0,v1,v2]) hh (ki ha) (by rfl) (by rfl) fun h' hext=>?_
 have kx:Sub s.heap h':=fun b o eb=>hext b o (Nat.ne_of_lt (Heap.lt_size eb)) eb
 show wpAny _ _ (do holding [v1,v2] (assign (.Name x px) env v0);do holding [v2] (assign (.Name y py) env v1);do holding [] (assign (.Name z pz) env v2);pure ()) _ _ _
 refine wpAny_bind (wpAny_holding (wpAny_assign_Name (eO (s:=sh s h' s.toks) (X.sub kx) (r0.mono kx.t) hx fun m1 h1 t1 X1 k1 tt1=>?_)))
 have u1:=kx.t.trans tt1
 refine wpAny_bind (wpAny_holding (wpAny_assign_Name (eO (s:=sh s h1 t1) X1 (r1.mono u1) hy fun m2 h2 t2 X2 k2 tt2=>?_)))
 have u2:=u1.trans tt2
 refine wpAny_bind (wpAny_holding (wpAny_assign_Name (eO (s:=sh s h2 t2) X2 (r2.mono u2) hz fun m3 h3 t3 X3 k3 tt3=>wpAny_pure ?_)))
 exact q _ h3 t3 ⟨⟨m3,X3⟩,fun b o n e=>k3 b o (gz (n z (.head _))) (k2 b o (gz (n y jT)) (k1 b o (gz (n x uO)) (kx b o e))),u2.trans tt3⟩
theorem Q1 {es:List Expr} (e1:Xl c env L Ps e ds):∀E,Sc (c.on E) env L [bE Ps] (.Tuple es k0 tp) e ds:=fun E s m X=>(e1 _ m X.pst.all s X.a).mono fun v h1=>aM fun k1 a e l n=>e▸⟨k1,fun t1=>(Kc.lst c.r.h (s:=sh s h1 t1) l).mono fun it h2=>ft fun e2 k2 J=>⟨k2,_,a,e2,J,aS (aA (Nat.le_refl _)) k1,fun q=>noM q⟩⟩
theorem Q9 {α:Type} {its:List α} {g1 g2 g3 f:α→D} {z:Str} {pz:Pos} (Lc:LL) (src:Xl c env L Ps iter (its.map fun a=>.tup [g1 a,g2 a,g3 a])) (he:∀a∈its,∀C,Xp c (cE scope env C) ((z,g3 a)::(y,g2 a)::(x,g1 a)::Lc) Ps elt (f a)) (hz:its.length≤1000) (t1:Tn scope env Lc x∧Tn scope env Lc y∧Tn scope env Lc z:=by exact ⟨⟨rfl,fun V=>⟨rfl,Nat.le_refl _⟩⟩,⟨rfl,fun V=>⟨rfl,Nat.le_refl _⟩⟩,⟨rfl,fun V=>⟨rfl,Nat.le_refl _⟩⟩⟩) (sL:autoParam (iJ Lc L) aR) (hs:autoParam (J3 scope env Lc=true) aR) (hi:autoParam (sm iter=true) aR):PC c env L Ps elt (.Tuple [.Name x px,.Name y py,.Name z pz] k0 tp) iter [] scope pos (its.map f):=
 have ⟨t1,t2,t3⟩:=t1
 NL its▸Mh (p:=fun V=>true) Lc (Q1 src) (fun a V C=>⟨I3 c.r.h (t1.2 C).1 (t2.2 C).1 (t3.2 C).1,ON ⟨(t3.2 C).2,t3.1⟩ ⟨(t2.2 C).2,t2.1⟩ ⟨(t1.2 C).2,t1.1⟩⟩) (fun a ha C=>⟨rfl,fun V=>he a ha C⟩) (Nat.zero_le _) hz sL hs hi
theorem Gk (b:Xp c env L Ps o (.ref a)) (O:Hs Ps fun h=>Ob w h a C dx fs) (q:Xq c env L Ps (e::r) ds) (om:de (Mine.K w.params) C x fa=true) (g:fs.lookup x=none) (O2:Hs Ps S) (fn:∀h,cA w h→S h→Kz w c.A h fa (.ref a::ds) ds1) (hm:autoParam (qa o (e::r) p1 pos=true) aR):Xl c env L Ps (.Call (.Attribute o x p1) (e::r) [] pos) ds1:=fun h m p=>
 have hn:=fD hm
 Hb p.p (b h m p) (O h p.S) om g (q h m p) (fn h p.p (O2 h p.S)) (aQ hn.1) (l7 hn.2) (rU hm)
theorem Na {kk:Nat} (he:Xp c env L Ps e (.ref l)) (O:Hs Ps fun h=>cN h l ds) (hz:ds.length≤1000) (hu:Xp c env L Ps i (.int (kk:Nat))):Xl c env L Ps (.Subscript e (.Slice none (some i) none p2) pos) (ds.take kk):=fun h m p=>Hh (he h m p) (O h p.S) hz (hu h m p)
theorem lI {en:tx KK} {kds:List (KK×D)} {key:KK} (b1:Xp c env L Ps e (.ref l)) (b:Xp c env L Ps i (en.enc key)) (O:Hs Ps fun h=>cM w en h l kds) (g:fu kds key=some d) (hs:autoParam (sm i=true) aR):Xp c env L Ps (.Subscript e i pos) d:=fun h m p=>Gw c.r (b1 h m p) (b h m p) (O h p.S) g fun V V=>mQ hs
theorem Eu {b:Int} {k:Nat} (q1:Xp c env L Ps e (.ref l)) (O:Hs Ps fun h=>cN h l (List.replicate (k+1) (.int b))) (hz:k≤50) (hx:autoParam (dY env "len"=true) aR) (hx2:autoParam (dY env "set"=true) aR) (hn:autoParam (ns e=true) aR):Xp c env L Ps (.Call (.Name "len" p1) [.Call (.Name "set" p2) [e] [] p3] [] pos) (.int 1):=fun h m p=>Dz c.r.h p.p p.v.g p.v.b (q1 h m p) (O h p.S) hz p.v.k (bN hx).1 (bN hx2).1 rfl (aQ hn)
theorem Ip {k0:Nat} (hx:autoParam (dY env "range"=true) aR):DL c env L Ps (.Call (.Name "range" p1) [.Constant (.int 2) k0 p2] [] p3) (([0,1]:List Nat).map fun i=>D.int (i:Nat)):=fun s m p=>Ae c.r.h p.a p.p p.v.g p.v.b p.v.k (bN hx).1
end
section
variable {w:World} {n:Nat} {c:Cx w n} {env:Env} {E:AP} {m:ma} {L:LL} {Ps Qs Bs:List HP} {P Q:HP} {e e1 e2 o i j:Expr} {pos p1 p2 px:Pos} {K:D→List HP→Prop} {KA:List D→List HP→Prop} {KB:Bool→List HP→Prop} {x:Str} {d d1 d2:D} {ds ds1 ds2:List D} {l:Addr} {op:CmpOp} {k0:Nat}
theorem OB (ks:List Nat) (e:autoParam (sel ks Ps=Bs) aR):Hs Ps fun h=>∀P∈Bs,P.S h:=fun h q P hP=>q P (k9 (e▸hP))
theorem KX (hn:Nat.ble 1 n=true) (q1:Xp c env L Ps e1 (.ref l)) (O:Hs Ps fun h=>i6 h l ds):Xu c env L Ps (.Compare e1 [.Eq] [.List [] p1] pos) ds.isEmpty:=fun h m p=>AZ (n:=0) (c.r.le (Nat.le_of_ble_eq_true hn)) (q1 h m p) (O h p.S)
theorem EX {i:Int} (q:Xe c env L Ps e fun d Qs=>∃j,d= .int j∧K (.int (i+j)) Qs):Xe c env L Ps (.BinOp (.Constant (.int i) k0 p1) .Add e pos) K:=fun s h t m X Q E qq=>
 wpAny_BinOp (wpAny_Constant_int (q s h _ m X _ _ fun v2 h2 t2=>d8 fun d Qs j e k r Y G=>by
  subst e
  cases r
  exact add_int (qq _ h2 _ ⟨_,Qs,k,.int _ _,Y,G⟩)))
theorem NB (q1:Xe c env L Ps e1 fun d1 Qs=>∃d2 b,Xp c env L Qs e2 d2∧(∀h,iD w c.A h op d1 d2 b)∧KB b Qs) (hs:autoParam (sm e2=true) aR):Xt c env L Ps (.Compare e1 [op] [e2] pos) KB:=fun s h t m X Q E q=>
 wpAny_isTrue_Compare1 (q1 s h t m X _ _ fun v1 g1 t1=>ak fun d1 Qs zz3 r1 Y tt=>cH zz3 fun d2 b a1 a2 k=>a1 g1 m Y.pst (sh s g1 t1) Y.a _ _ fun v2 g2 t2=>av fun k2 r2=>a2 g1 (sh s g2 t2) v1 v2 k2 (r1.mono k2.t) r2 _ _ fun v3 g3 t3=>av fun k3 r3=>by
  rw [r3]
  exact wpAny_truthy_bool (q b g3 t3 ⟨Qs,k,Y.sub (k2.trans k3),tt.trans (.sub (k2.trans k3))⟩)) (me hs)
theorem Mt {kk:Nat} (he:Xp c env L Ps e (.ref l)) (O:Hs Ps fun h=>cN h l ds) (hz:ds.length≤1000) (hu:Xp c env L Ps i (.int (kk:Nat))):Xl c env L Ps (.Subscript e (.Slice (some i) none none p2) pos) (ds.drop kk):=fun h m p=>D4 (he h m p) (O h p.S) hz (hu h m p)
theorem NQ (h1:Xl c env L Ps e1 ds1) (h2:Xl c env L Ps e2 ds2) (hz:ds1.length+ds2.length≤1000):Xl c env L Ps (.BinOp e1 .Add e2 pos) (ds1++ds2):=fun h m p=>HY (h1 h m p) (h2 h m p) hz
theorem E4 {k:Nat} {i:Int} (e1:Xp c env L Ps o (.int i)) (e2:Xp c env L Ps e (.int (i+k))) (hi: -1000≤i∧i≤1000) (hk:k≤1000) (hx:autoParam (dY env "range"=true) aR) (hn:autoParam ([o,e].all ns=true) aR):DL c env L Ps (.Call (.Name "range" p1) [o,e] [] pos) (dK i k):=fun s m p=>
 have hn:=Bool.and_eq_true_iff.mp hn
 have hn2:=Bool.and_eq_true_iff.mp hn.2
 (rf (s:=s) c.r.h p.a p.p p.v.g p.v.b hi hk (e1 _ m p) (e2 _ m p) p.v.k (bN hx).1 (aQ hn.1) (aQ hn2.1) (l7 hn.2)).mono fun v h5=>av fun k5 z=>⟨k5,fun t5=>(z t5).mono fun it h6=>cV fun k6 I sr e J n V=>⟨k6,I,sr,e,J,fun q=>noM q⟩⟩
theorem Fs (q:Xe c env L Ps e fun d Qs=>∃k:Nat,d= .int k∧k≤1000∧KA (dK 0 k) Qs) (hx:autoParam (dY env "range"=true) aR) (hn:autoParam (ns e=true) aR):Xi c env L Ps (.Name x px) (.Call (.Name "range" p1) [e] [] pos) KA:=fun s h t m X=>by
 refine fC (s:=sh s h t) X.a X.f.pin X.v.g X.v.b (rE _) boot_range (fun t=>bS (R0:=fun v h1=>∃(k:Nat) (Qs:List HP),k≤1000∧KA (dK 0 k) Qs∧RD h1 v (.int k)∧St w c.E env m L Qs h1) ((q s h t m X).mono fun v h1=>ak fun d Qs zz4 r Y G=>ar zz4 fun k e hk kk=>⟨k,Qs,hk,kk,e▸r,Y⟩) (fun v h1=>ak fun k Qs hk kk r Y t1=>?_) (aQ hn)) (by decide) X.v.k (bN hx).1 (by decide) (aQ hn) (by rfl)
 cases r
 intro Q E qq
 refine call_range_1 (qq _ _ _ fun t2=>?_)
 refine (mH (a:=0) (n:=k) c.r.h (by lia) hk (by rw [Int.zero_add];exact Heap.get?_push_size _ rfl)).mono fun it h3=>ft fun e k3 J=>?_
 have n1:h1.get? h1.objs.size=none:=aA (Nat.le_refl _)
 exact ⟨_,h1.objs.size,_,Qs,e,kk,(Y.sub (Sub.push _)).sub k3,pG Y (J.less (Sub.push _)) (Nat.ne_of_lt (by rw [size_push'];exact Nat.lt_succ_self _)) ⟨_,k3 _ _ (Heap.get?_push_size _ rfl)⟩ (Y.new n1) (Y.offN n1)⟩
end
noncomputable abbrev PO (w:World) (a:PA) (p:ah) (h:Heap):Prop:=jf w h a.x a.dx a.rx a.rdx p
noncomputable abbrev AS (w:World) (a:PA) (p:ah):HP:=⟨[],[a.x,a.dx,a.rx,a.rdx],PO w a p,kG,fun V h=>noM h⟩
noncomputable abbrev I5 (w:World) (x C dx:Addr) (fs:List (Str×D)):HP:=(jH w x C dx fs).ro
variable {bv:Bool} {p:ah} {I:dq}
section
variable {m:Nat} {u2:Expr} {a:PA} {b i:Nat} {I2:dq} {y1 dy:Addr} {row:pK} {q:oM}
theorem uo {st:Stmt} {qn:Str} {dfl pm cd:Value} (Bs:List HP) (xs:List Str) (F:∀P,eB P f st qn dfl pm cd) (h:∀(c:Cx w n) l K,(∀Qs,K d Qs)→Tr c (callEnvC (cJ st qn dfl pm cd) l f) (xs.zip ds) [bE Bs] (cu st) (DN K)) (r:Rm m A) (P:cA w h0) (S:∀P∈Bs,P.S h0) (hn:autoParam (Nat.ble (n+1) m=true) aR)
  (hb:autoParam (l4 ds.length fun vs=>bindArgs (cJ st qn dfl pm cd) ⟨vs,[]⟩=pure (xs.zip vs)) P9) (hl:autoParam (l4 ds.length fun vs=>∀n,nN (cJ st qn dfl pm cd).scope n (xs.zip vs)=true) PZ) (nd:autoParam (xs.Nodup) aD) (hx:autoParam (xs.length=ds.length) aR):Fn w A h0 f ds d:=
 GF (bf xs F h hb hl nd hx) (r.le (Nat.le_of_ble_eq_true hn)) P S
theorem FV (q1:Xp c env L Ps e (.bool b1)) (q2:b1=true→Xp c env L Ps (.BoolOp .And (u::es) pos) (.bool b2)):Xp c env L Ps (.BoolOp .And (e::u::es) pos) (.bool (b1&&b2)):=fun h m p=>Lk (q1 h m p) fun t=>q2 t h m p
theorem Iu (q1:Xp c env L Ps e (.bool b1)) (q2:b1=false→Xp c env L Ps (.BoolOp .Or (u::es) pos) (.bool b2)):Xp c env L Ps (.BoolOp .Or (e::u::es) pos) (.bool (b1||b2)):=fun h m p=>OF (q1 h m p) fun t=>q2 t h m p
theorem uA {op:BoolOp} (q1:Xp c env L Ps e d):Xp c env L Ps (.BoolOp op [e] pos) d:=fun h m p=>MG (q1 h m p)
theorem xJ {b:Bool} (a:Xu c env L Ps e b):Xu c env L Ps (.BoolOp .Or [e] pos) b:=fun h m p=>by
 have:=nO (r:=[]) a (fun V=>Ci (pos:=pos)) h m p
 rwa [Bool.or_false] at this
theorem g0 {b:Bool} (a:Xu c env L Ps e b):Xu c env L Ps (.BoolOp .And [e] pos) b:=fun h m p=>by
 have:=fB (r:=[]) a (fun V=>zN (pos:=pos)) h m p
 rwa [Bool.and_true] at this
theorem Fe {gv:Value} (e:nsIn (Mine.K w.params) mainGlobals y=some (some gv)) (r:∀h,cA w h→RD h gv d) (hy:autoParam (dY env y=true) aR):Xp c env L Ps (.Name y pos) d:=fun h m p=>pE p.p p.v.g e (r h p.p) p.v.k (bN hy).1 (bN hy).2
theorem gH {j:Int} {t:Tok} (e:nsIn (Mine.K w.params) mainGlobals y=some (some (.int j t))) (hy:autoParam (dY env y=true) aR):Xp c env L Ps (.Name y pos) (.int j):=Fe e (fun V V=>.int _ _) hy
theorem vr:Xp c env L Ps (.Constant (.bool bv) b pos) (.bool bv):=fun V V V=>BY
theorem hT:Hs Ps fun V=>True:=fun V V=>trivial
theorem bP (O:Hs Ps (PO w a p)) (ho:Xp c env L Ps o (.ref a.x)) (g:(fE a.rx p).lookup x=some d) (ok:autoParam (jA (Mine.K w.params) 234 x=true) aK) (hn:autoParam (nb o=true) aR):Xp c env L Ps (.Attribute o x pos) d:=bB ho (O.mp fun V S=>S.o) ok g hn
theorem MT (O:Hs Ps (PO w a p)) (ho:Xp c env L Ps o (.ref a.x)) (g:(dZ p.row).lookup x=some d) (ok:autoParam (jA (Mine.K w.params) 143 x=true) aK) (hn:autoParam (nb o=true) aR):Xp c env L Ps (.Attribute (.Attribute o "row" p1) x pos) d:=bB (bP O ho rfl (by kernel_rfl) hn) (O.mp fun V S=>S.r) ok g
theorem q6 (O:Hs Ps (PO w a p)) (ho:Xp c env L Ps o (.ref a.x)) (fn:∀h,cA w h→PO w a p h→Fn w c.A h f [.ref a.x] d) (om:autoParam (de (Mine.K w.params) 234 x f=true) aK) (g:autoParam ((fE a.rx p).lookup x=none) aR) (hm:autoParam (qa o [] p1 pos=true) aR):Xp c env L Ps (.Call (.Attribute o x p1) [] [] pos) d:=vn ho (O.mp fun V S=>S.o) om g O fn hm
theorem aO {Bs:List HP}:Hs (bE (AS w a p::Bs)::Ps) (PO w a p):=ha 0 (P:=AS w a p)
theorem AX (r:Rm m A) (P:cA w h0) (hn:autoParam (Nat.ble 1 m=true) aR):Fn w A h0 104 [b8 I,.int b] (.bool (I.has b)):=by
 rw [show I.has b=(Builtin.bitAnd (I.st:Int) (b:Int) !=0) by rw [qB,BL];rfl]
 exact uo (n:=0) [] ["info","bit"] CF (fun c l K q=>bz (nQ (b7 (iw (aa rfl) aj rfl) (aa rfl) fun V=>vk) aj fun V=>nf) (q _)) r P Pb hn
theorem yf (q1:Xp c env L Ps e (b8 I)) (q2:Xp c env L Ps u (.int b)) (hn:autoParam (Nat.ble 1 n=true) aR) (hy:autoParam (dY env "has_bit"=true) aR) (hs:autoParam ([e,u].all ns=true) aR):Xp c env L Ps (.Call (.Name "has_bit" p1) [e,u] [] pos) (.bool (I.has b)):=
 have h2:=Bool.and_eq_true_iff.mp hs
 have h3:=Bool.and_eq_true_iff.mp h2.2
 gJ (ae q1 (ae q2 aC h3.1) h2.1) (CO _) (by kernel_rfl) hT (fun h P V=>AX c.r P hn) hy hs
theorem AL (q:Xp c env L Ps e (b8 I)):Xp c env L Ps (.Subscript e (.Slice none (some (.Constant (.int 3) k0 p1)) none p2) pos) (i3 I):=fun h m p=>NT (q h m p) gc
theorem Cn (i:dq) (b:Nat) (v:Bool):((i.with b v).st:Int)=if v=true then ((i.st|||b:Nat):Int) else ((i.st|||b:Nat):Int) - (b:Int):=by
 unfold dq.with
 cases v with
 |true=>rfl
 |false=>
  show (((i.st|||b) - b:Nat):Int)=_
  have:b≤i.st|||b:=Nat.right_le_or
  rw [if_neg (by decide)]
  omega
theorem zj (r:Rm m A) (P:cA w h0) (hn:autoParam (Nat.ble 1 m=true) aR):Fn w A h0 111 [b8 I,.int b,.bool bv] (b8 (I.with b bv)):=by
 refine uo (n:=0) [] ["info","bit","is_set"] zR (fun c l K q=>gw (d:=.int ((I.st|||b:Nat):Int)) (Ai .. ▸b7 (iw (aa rfl) aj rfl) (aa rfl) fun V=>GR) (bz (d:=b8 (I.with b bv)) (b7 (AL (aa rfl)) (gU (ds:=[.int (I.with b bv).st]) (ae (o5 (b:=bv) (dA (aa rfl)) (fun hv=>?_) fun hv=>?_) aC)) fun V=>JU) (q _))) r P Pb hn
 ·rw [Cn,if_pos hv];exact aa rfl
 ·rw [Cn,if_neg (ne_true_of_eq_false hv)];exact b7 (aa rfl) (aa rfl) fun V=>je
theorem Ij (q1:Xp c env L Ps e (b8 I)) (q2:Xp c env L Ps u (.int b)) (q3:Xp c env L Ps u2 (.bool bv)) (hn:autoParam (Nat.ble 1 n=true) aR) (hy:autoParam (dY env "with_bit"=true) aR) (hs:autoParam ([e,u,u2].all ns=true) aR):Xp c env L Ps (.Call (.Name "with_bit" p1) [e,u,u2] [] pos) (b8 (I.with b bv)):=
 have h2:=Bool.and_eq_true_iff.mp hs
 have h3:=Bool.and_eq_true_iff.mp h2.2
 have h4:=Bool.and_eq_true_iff.mp h3.2
 gJ (ae q1 (ae q2 (ae q3 aC h4.1) h3.1) h2.1) (Aj _) (by kernel_rfl) hT (fun h P V=>zj c.r P hn) hy hs
theorem E6 (r:Rm m A) (P:cA w h0) (O:PO w a p h0) (hn:autoParam (Nat.ble 1 m=true) aR):Fn w A h0 168 [.ref a.x] (.bool p.isUp):=by
 rw [show p.isUp= !(D.eqv (.str (c6.s p.heard)) (.str (c6.s .disabled))) by rw [rZ];rfl]
 exact uo (n:=0) [AS w a p] ["self"] pn (fun c l K q=>bz (nQ (bP aO (aa rfl) rfl) bu fun V=>mV c.r (g6 _) (by decide+kernel)) (q _)) r P (gz O) hn
theorem A9 (O:Hs Ps (PO w a p)) (ho:Xp c env L Ps o (.ref a.x)) (hn:autoParam (Nat.ble 1 n=true) aR) (hm:autoParam (qa o [] p1 pos=true) aR):Xp c env L Ps (.Call (.Attribute o "is_up" p1) [] [] pos) (.bool p.isUp):=q6 O ho (fun V P S=>E6 c.r P S hn) (by kernel_rfl) rfl hm
theorem rN (O:Hs Ps (PO w a p)) (ho:Xp c env L Ps o (.ref a.x)) (hb:Xp c env L Ps u (.int b)) (hn:autoParam (Nat.ble 2 n=true) aR) (hm:autoParam (qa o [u] p1 pos=true) aR):Xp c env L Ps (.Call (.Attribute o "own" p1) [u] [] pos) (.bool (p.own b)):=
 oY ho (O.mp fun V S=>S.o) (ae hb aC (fD hm).1) (by kernel_rfl) rfl O (fun V P S=>uo (n:=1) [AS w a p] ["self","bit"] rC (fun c l K q=>bz (yf (bP aO (aa rfl) rfl) (aa rfl)) (q _)) c.r P (gz S) hn) hm
theorem oj (O:Hs Ps (PO w a p)) (ho:Xp c env L Ps o (.ref a.x)) (hb:Xp c env L Ps u (.int b)) (hn:autoParam (Nat.ble 2 n=true) aR) (hm:autoParam (qa o [u] p1 pos=true) aR):Xp c env L Ps (.Call (.Attribute o "others" p1) [u] [] pos) (.bool (p.oth b)):=
 oY ho (O.mp fun V S=>S.o) (ae hb aC (fD hm).1) (by kernel_rfl) rfl O (fun V P S=>uo (n:=1) [AS w a p] ["self","bit"] nJ (fun c l K q=>bz (yf (bP aO (aa rfl) rfl) (aa rfl)) (q _)) c.r P (gz S) hn) hm
theorem sM (r:Rm m A) (P:cA w h0) (O:PO w a p h0) (hn:autoParam (Nat.ble 3 m=true) aR):Fn w A h0 196 [.ref a.x] (.bool p.isLone):=by
 rw [show p.isLone=(!p.own DG||(!p.oth DG||p.own AH)) by delta ah.isLone;rw [Bool.or_assoc]]
 exact uo (n:=2) [AS w a p] ["self"] m6 (fun c l K q=>bz (Iu (BS (rN (b:=4) aO (aa rfl) (gH (dH _)))) fun V=>Iu (BS (oj (b:=4) aO (aa rfl) (gH (dH _)))) fun V=>uA (rN (b:=64) aO (aa rfl) (gH (dP _)))) (q _)) r P (gz O) hn
theorem GC (r:Rm m A) (P:cA w h0) (O:PO w a p h0) (hn:autoParam (Nat.ble 3 m=true) aR):Fn w A h0 210 [.ref a.x] (.bool p.talks):=
 uo (n:=2) [AS w a p] ["self"] pH (fun c l K q=>bz (FV (A9 aO (aa rfl)) fun V=>uA (Iu (rN (b:=1) aO (aa rfl) (gH (fH _))) fun V=>uA (oj (b:=1) aO (aa rfl) (gH (fH _))))) (q _)) r P (gz O) hn
theorem vL (r:Rm m A) (P:cA w h0) (O:PO w a p h0) (hn:autoParam (Nat.ble 3 m=true) aR):Fn w A h0 217 [.ref a.x] (.int p.turn):=
 uo (n:=2) [AS w a p] ["self"] qw (fun c l K q=>bz (o5 (b:=p.oth KP) (dA (oj (b:=2) aO (aa rfl) (gH (lG _)))) (fun hb=>by delta ah.turn;rw [hb];exact gH (vg _)) fun hb=>by delta ah.turn;rw [hb];exact gH (y8 _)) (q _)) r P (gz O) hn
theorem tQ (r:Rm m A) (P:cA w h0) (O:PO w a p h0) (hn:autoParam (Nat.ble 3 m=true) aR):Fn w A h0 224 [.ref a.x] (.int p.heardWait):=
 uo (n:=2) [AS w a p] ["self"] jL (fun c l K q=>bz (o5 (b:=p.own KP) (dA (rN (b:=2) aO (aa rfl) (gH (lG _)))) (fun hb=>by delta ah.heardWait;rw [hb];exact gH (n9 _)) fun hb=>by delta ah.heardWait;rw [hb];exact gH (zl _)) (q _)) r P (gz O) hn
theorem tE (r:Rm m A) (P:cA w h0) (O:PO w a p h0) (hn:autoParam (Nat.ble 4 m=true) aR):Fn w A h0 203 [.ref a.x] (bx p.group):=
 uo (n:=3) [AS w a p] ["self"] pf (fun c l K q=>gw (d:=.int p.group.num) (o5 (b:=p.isLone) (dA (q6 aO (aa rfl) fun V P S=>sM c.r P S)) (fun hb=>by rw [show p.group.num=p.row.number by delta ah.group;rw [hb];rfl];exact MT aO (aa rfl) rfl) fun hb=>by rw [show p.group.num=0 by delta ah.group;rw [hb];rfl];exact aj)
  (bz (gU (ae (MT aO (aa rfl) rfl) (ae (iw (bP aO (aa rfl) rfl) aj rfl) (ae (iw (bP aO (aa rfl) rfl) aj rfl) (ae (aa rfl) aC))))) (q _))) r P (gz O) hn
theorem iP {ready:Bool} {z:eR} (e1:ay p ready=z) (q:Xp c env L Ps e (.str (eR.s z))):Xp c env L Ps e (.str (eR.s (ay p ready))):=e1▸q
theorem zi {ready:Bool} (r:Rm m A) (P:cA w h0) (O:PO w a p h0) (hn:autoParam (Nat.ble 3 m=true) aR):Fn w A h0 253 [.ref a.x,.bool ready] (.str (eR.s (ay p ready))):=by
 refine uo (n:=2) [AS w a p] ["port","is_ready"] Ad (fun c l K q=>gw (bP aO (aa rfl) rfl) (cZ (bF (aa rfl) (bu (x:=eR.s .det)) fun V=>fS c.r _ _) (fun e=>?_) fun e1=>bM (cZ (bF (aa rfl) (bu (x:=eR.s .wai)) fun V=>fS c.r _ _) (fun e=>?_) fun e2=>bM (gw (nQ (bP aO (aa rfl) rfl) (bu (x:=ai.s .sel)) fun V=>gO c.r _ _) (cZ (bF (aa rfl) (bu (x:=eR.s .att)) fun V=>fS c.r _ _) (fun e=>?_) fun e3=>bM ?_))))) r P (gz O) hn
 ·have e:=beq_iff_eq.mp e
  exact bz (o5 (bF (bP aO (aa rfl) rfl) (bu (x:=ai.s .un)) fun V=>tJ c.r _ _) (fun t=>iP (z:=.wai) (by unfold ay;rw [e];exact if_pos t) bu) fun t=>iP (z:=p.mux) (by unfold ay;rw [e];exact if_neg (ne_true_of_eq_false t)) (aa rfl)) (q _)
 ·have e:=beq_iff_eq.mp e
  refine cZ (bF (bP aO (aa rfl) rfl) (bu (x:=ai.s .un)) fun V=>gO c.r _ _) (fun t=>bz (iP (z:=.det) (by unfold ay;rw [e];exact if_pos t) bu) (q _)) fun t=>bM (bz (o5 (fB (bF (bP aO (aa rfl) rfl) (bu (x:=ai.s .sel)) fun V=>gO c.r _ _) fun V=>g0 (dA (aa rfl))) (fun t2=>iP (z:=.att) ?_ bu) fun t2=>iP (z:=p.mux) ?_ (aa rfl)) (q _))
  ·unfold ay;rw [e];exact (if_neg (ne_true_of_eq_false t)).trans (if_pos t2)
  ·unfold ay;rw [e];exact (if_neg (ne_true_of_eq_false t)).trans (if_neg (ne_true_of_eq_false t2))
 ·have e:=beq_iff_eq.mp e
  refine cZ (fY (dA (aa rfl))) (fun t=>bz (iP (z:=.det) (by unfold ay;rw [e];exact if_pos t) bu) (q _)) fun t=>bM (bz (o5 (dA (oj (b:=8) aO (aa rfl) (gH (bX _)))) (fun t2=>iP (z:=.col) ?_ bu) fun t2=>iP (z:=p.mux) ?_ (aa rfl)) (q _))
  ·unfold ay;rw [e];exact (if_neg (ne_true_of_eq_false t)).trans (if_pos t2)
  ·unfold ay;rw [e];exact (if_neg (ne_true_of_eq_false t)).trans (if_neg (ne_true_of_eq_false t2))
 ·have en:p.mux= .col∨p.mux= .dis:=by cases h:p.mux<;>rw [h] at e1 e2 e3<;>first |exact .inl rfl |exact .inr rfl |exact absurd e1 (by decide) |exact absurd e2 (by decide) |exact absurd e3 (by decide)
  have nx:ay p ready=if (!(p.choice== .sel)|| !p.oth uK)=true then .att else if p.oth Bb=true then .dis else .col:=by unfold ay;rcases en with en |en<;>rw [en]
  refine cZ (nO (fY (dA (aa rfl))) fun V=>xJ (fY (dA (oj (b:=8) aO (aa rfl) (gH (bX _)))))) (fun t=>bz (iP (z:=.att) (nx.trans (if_pos t)) bu) (q _)) fun t=>bM ?_
  have nx:=nx.trans (if_neg (ne_true_of_eq_false t))
  refine cZ (bF (aa rfl) (bu (x:=eR.s .col)) fun V=>fS c.r _ _) (fun e=>bz (o5 (dA (oj (b:=16) aO (aa rfl) (gH (i7 _)))) (fun t2=>iP (z:=.dis) (nx.trans (if_pos t2)) bu) fun t2=>iP (z:=p.mux) ((nx.trans (if_neg (ne_true_of_eq_false t2))).trans (beq_iff_eq.mp e).symm) (aa rfl)) (q _)) fun e4=>bM (bz (o5 (dA (oj (b:=16) aO (aa rfl) (gH (i7 _)))) (fun t2=>iP (z:=p.mux) ((nx.trans (if_pos t2)).trans (en.resolve_left fun q=>?_).symm) (aa rfl)) fun t2=>iP (z:=.col) (nx.trans (if_neg (ne_true_of_eq_false t2))) bu) (q _))
  rw [q] at e4;cases e4
theorem KC {Q:HP} {Bs:List HP}:Hs (bE (AS w a p::Q::Bs)::Ps) Q.S:=ha 1
theorem j3 (r:Rm m A) (P:cA w h0) (hn:autoParam (Nat.ble 2 m=true) aR):Fn w A h0 300 [b8 I,b8 I2] (.bool (fG I I2)):=
 uo (n:=1) [] ["one","other"] t9 (fun c l K q=>bz (FV (nQ (AL (aa rfl)) (AL (aa rfl)) fun V=>Ex c.r _ _) fun V=>uA (nQ (yf (b:=4) (aa rfl) (gH (dH _))) (yf (b:=4) (aa rfl) (gH (dH _))) fun V=>Eo c.r _ _)) (q _)) r P Pb hn
theorem xu (r:Rm m A) (P:cA w h0) (O:PO w a p h0) (U:BU w h0 y1 dy q) (hn:autoParam (Nat.ble 1 m=true) aR):Fn w A h0 307 [.ref a.x,.ref y1] (.bool (oG p q)):=by
 rw [show oG p q=(q.partner.same3 p.actor&&(Builtin.bitAnd (Builtin.bitXor (q.partner.st:Int) (p.actor.st:Int)) ((15:Nat):Int)==0)) by rw [Ih,qB,Js];rfl]
 exact uo (n:=0) [AS w a p,I5 w y1 93 dy (jX q)] ["port","pdu"] AY (fun c l K qq=>bz (FV (nQ (AL (bB (aa rfl) (KC (Q:=I5 w y1 93 dy (jX q))) (by kernel_rfl) rfl)) (AL (bP aO (aa rfl) rfl)) fun V=>Ex c.r _ _) fun V=>uA (nQ (b7 (b7 (iw (bB (aa rfl) (KC (Q:=I5 w y1 93 dy (jX q))) (by kernel_rfl) rfl) aj rfl) (iw (bP aO (aa rfl) rfl) aj rfl) fun V=>HZ) (gH (vK _)) fun V=>vk) aj fun V=>jF)) (qq _)) r P (DO O U) hn
theorem uf (r:Rm m A) (P:cA w h0) (O:PO w a p h0) (U:BU w h0 y1 dy q) (hn:autoParam (Nat.ble 3 m=true) aR):Fn w A h0 314 [.ref a.x,.ref y1] (.bool (eN p q)):=by
 refine uo (n:=2) [AS w a p,I5 w y1 93 dy (jX q)] ["port","pdu"] vG (fun c l K qq=>cZ (fY (dA (yf (b:=8) (bB (aa rfl) (KC (Q:=I5 w y1 93 dy (jX q))) (by kernel_rfl) rfl) (gH (bX _))))) (fun t=>bz (d:=.bool (eN p q)) ?_ (qq _)) fun t=>bM (cZ (fB (fY (dA (yf (b:=1) (bB (aa rfl) (KC (Q:=I5 w y1 93 dy (jX q))) (by kernel_rfl) rfl) (gH (fH _))))) fun V=>g0 (fY (fB (dA (rN (b:=1) aO (aa rfl) (gH (fH _)))) fun V=>g0 (dA (yf (b:=1) (bB (aa rfl) (KC (Q:=I5 w y1 93 dy (jX q))) (by kernel_rfl) rfl) (gH (fH _))))))) (fun t2=>bz (d:=.bool (eN p q)) ?_ (qq _)) fun t2=>bM (bz (d:=.bool (eN p q)) ?_ (qq _)))) r P (DO O U) hn
 ·rw [show eN p q=false from if_pos t];exact vr
 ·rw [show eN p q=false from (if_neg (ne_true_of_eq_false t)).trans (if_pos t2)];exact vr
 ·rw [show eN p q=(fG q.partner p.actor|| !q.actor.has DG) from (if_neg (ne_true_of_eq_false t)).trans (if_neg (ne_true_of_eq_false t2))]
  exact Iu (gJ (ae (bB (aa rfl) (KC (Q:=I5 w y1 93 dy (jX q))) (by kernel_rfl) rfl) (ae (bP aO (aa rfl) rfl) aC)) (mf _) (by kernel_rfl) hT fun h P V=>j3 c.r P) fun V=>uA (BS (yf (b:=4) (bB (aa rfl) (KC (Q:=I5 w y1 93 dy (jX q))) (by kernel_rfl) rfl) (gH (dH _))))
end
variable {nu:List (ag×Int)}
section
variable {m:Nat} {dC:Addr} {row:pK} {b:BC} {ps:List af} {bd:Option Int} {kds:List (Int×D)}
theorem ME (sp:Sp w n f ds [bE Bs] fun K=>∀a,K (.ref a) [aq a ds2,bE Bs]) (r:Rm n A) (p:cA w h) (S:∀P∈Bs,P.S h):Kz w A h f ds ds2:=fun s vs k rs=>
 (sp A r (fun d Qs=>∃a,d= .ref a∧Qs= [aq a ds2,bE Bs]) (fun a=>a9 a rfl rfl) s vs rs (cb s.heap (p.keeps k) (fun V V e=>e) (fun V q=>noM q)) (gz fun P hP=>P.fr.sub (S P hP) k) (List.pairwise_singleton ..)).mono fun v h'=>dT fun d Qs a e1 e2 rd X=>by
  subst e1 e2
  exact fA (fun b o eb=>X.kp b o (fun q=>noM q) eb) a (ib rd) (X.S _ (.head _)) (((X.ext _ (.head _)).1 a (.head _)).elim (fun q=>noM q) id)
theorem OA {st:Stmt} {qn:Str} {dfl pm cd:Value} (Bs:List HP) (xs:List Str) (F:∀P,eB P f st qn dfl pm cd) (h:∀(c:Cx w n) l K,(∀a,K (.ref a) [aq a ds2,bE Bs])→Tr c (callEnvC (cJ st qn dfl pm cd) l f) (xs.zip ds) [bE Bs] (cu st) (DN K)) (r:Rm m A) (P:cA w h0) (S:∀P∈Bs,P.S h0) (hn:autoParam (Nat.ble (n+1) m=true) aR)
  (hb:autoParam (l4 ds.length fun vs=>bindArgs (cJ st qn dfl pm cd) ⟨vs,[]⟩=pure (xs.zip vs)) P9) (hl:autoParam (l4 ds.length fun vs=>∀n,nN (cJ st qn dfl pm cd).scope n (xs.zip vs)=true) PZ) (nd:autoParam (xs.Nodup) aD) (hx:autoParam (xs.length=ds.length) aR):Kz w A h0 f ds ds2:=
 ME (bf xs F h hb hl nd hx) (r.le (Nat.le_of_ble_eq_true hn)) P S
theorem Bx (q:Xp c env L Ps o (.ref l)) (O:Hs Ps fun h=>Ob w h l C dx fs) (om:de (Mine.K w.params) C x f=true) (g:fs.lookup x=none) (O2:Hs Ps S) (fn:∀h,cA w h→S h→Kz w c.A h f [.ref l] ds) (hm:autoParam (qa o [] p1 pos=true) aR):Xl c env L Ps (.Call (.Attribute o x p1) [] [] pos) ds:=fun h m p=>
 CB p.p (q h m p) (O h p.S) om g (fn h p.p (O2 h p.S)) (rU hm)
theorem OQ (q:Xl c env L Ps e ds):Xp c env L Ps (.Compare e [.Eq] [.List [] p1] pos) (.bool ds.isEmpty):=fun h m p=>Ir c.r (q h m p) (kL gC)
theorem Oj (q1:Xp c env L Ps e1 d) (q2:Xl c env L Ps e2 ds) (f1:D.flats 9 ds=true) (f2:d.flat 9=true) (hs:autoParam (sm e2=true) aR):Xu c env L Ps (.Compare e1 [.In] [e2] pos) (gx d ds):=fun h m p=>Il c.r (q1 h m p) (q2 h m p) f1 f2 (me hs)
theorem FL (hN:Nat.ble 2 n=true) (he:Xp c env L Ps e (.ref l)) (O:Hs Ps fun h=>nh (intKind pw w) h l kds∧(l==sysModules)=false) (asc:(kds.map (·.1)).Pairwise (· < ·)) (h3:kds.length≤3) (hx:autoParam (dY env "sorted"=true) aR) (hn:autoParam (ns e=true) aR):Xl c env L Ps (.Call (.Name "sorted" p1) [e] [] pos) (kds.map fun x=>D.int x.1):=fun h m p=>yt c.r p.p p.v.g p.v.b (he h m p) (O h p.S).1 (O h p.S).2 asc h3 (c.r.le (Nat.le_of_ble_eq_true hN)).u50 p.v.k (bN hx).1 (aQ hn)
theorem rI (r:Rm m A) (P:cA w h0) (LL:cN h0 l (ps.map ba)) (hz:ps.length≤100) (O:lQ w h0 ps) (hn:autoParam (Nat.ble 1 m=true) aR):Fn w A h0 265 [.ref l,c5 bd] (.bool (cx (ps.map (·.2)) bd)):=by
 rw [sS]
 have pO:∀{a Ps},a∈ps→Hs (bE [aq l (ps.map ba),⟨[],qZ ps,fun h=>lQ w h ps,r7,fun V h=>noM h⟩]::Ps) (PO w a.1 a.2):=fun {a Ps} ha h q=>q _ (.head _) _ jT a ha
 exact uo (n:=0) [aq l (ps.map ba),⟨[],qZ ps,fun h=>lQ w h ps,r7,fun V h=>noM h⟩] ["ports","bundle"] tY (fun c lo K q=>kT (NZ (its:=ps) (g:=ba) (f:=ba) (p:=qe bd∘fun x:af=>x.2) [("bundle",c5 bd)] (sG (aa rfl) (ha 0 (P:=aq l (ps.map ba)))) (fun a hm C=>⟨fB (bF (bP (pO hm) (aa rfl) rfl) (aa rfl) fun V=>Cs c.r _ _) fun V=>fB (bF (bP (pO hm) (aa rfl) rfl) (bu (x:=eR.s .wai)) fun V=>fS c.r _ _) fun V=>g0 (bF (bP (pO hm) (aa rfl) rfl) (bu (x:=ai.s .sel)) fun V=>gO c.r _ _),fun V=>aa rfl⟩) (Nat.le_trans hz lr)) fun Dl=>bz (OQ (iY (NZ (its:=ps.filter (qe bd∘fun x:af=>x.2)) (g:=ba) (f:=ba) (p:=fun a:af=>decide (a.2.jl >0)) [] (sG (aa rfl) (hs 0 (P:=aq Dl _))) (fun a hm C=>⟨bF (bP (fun h q=>q _ jT _ jT a (List.mem_filter.mp hm).1) (aa rfl) rfl) aj fun V=>eU,fun V=>aa rfl⟩) (Nat.le_trans (List.length_filter_le ..) (Nat.le_trans hz lr))))) (q _)) r P (DO LL O) hn
theorem Aa (r:Rm m A) (P:cA w h0) (O:Ob w h0 rx 143 rdx (dZ row)) (hn:autoParam (Nat.ble 1 m=true) aR):Fn w A h0 133 [.ref rx] (aw row.pid):=
 uo (n:=0) [jH w rx 143 rdx (dZ row)] ["self"] nW (fun c l K q=>bz (gU (ds:=[.int row.priority,.int row.number]) (ae (bB (aa rfl) (ha 0 (P:=jH w rx 143 rdx (dZ row))) (by kernel_rfl) rfl) (ae (bB (aa rfl) (ha 0 (P:=jH w rx 143 rdx (dZ row))) (by kernel_rfl) rfl) aC))) (q _)) r P (gz O) hn
theorem vh {bv:Bool} (q:Xp c env L Ps e (.bool bv)) (hx:autoParam (dY env "int"=true) aR) (hn:autoParam (ns e=true) aR):Xp c env L Ps (.Call (.Name "int" p1) [e] [] pos) (.int (if bv=true then 1 else 0)):=fun h m p=>Cq p.p p.v.g p.v.b (q h m p) p.v.k (bN hx).1 (aQ hn)
theorem JX (r:Rm m A) (P:cA w h0) (O:Ob w h0 rx 143 rdx (dZ row)) (hn:autoParam (Nat.ble 1 m=true) aR):Fn w A h0 140 [.ref rx] (.int (row.bits:Nat)):=by
 rw [show (row.bits:Int)=(1*(if row.act=true then 1 else 0)+2*(if row.sho=true then 1 else 0))+4*(if row.joi=true then 1 else 0) by
  delta pK.bits
  cases row.act<;>cases row.sho<;>cases row.joi<;>rfl]
 exact uo (n:=0) [jH w rx 143 rdx (dZ row)] ["self"] rM (fun c l K q=>bz (b7 (b7 (b7 (gH (fH _)) (vh (bB (aa rfl) (ha 0 (P:=jH w rx 143 rdx (dZ row))) (by kernel_rfl) rfl)) fun V=>fj (IntMulOk.of_left (by decide+kernel))) (b7 (gH (lG _)) (vh (bB (aa rfl) (ha 0 (P:=jH w rx 143 rdx (dZ row))) (by kernel_rfl) rfl)) fun V=>fj (IntMulOk.of_left (by decide+kernel))) fun V=>e9) (b7 (gH (dH _)) (vh (bB (aa rfl) (ha 0 (P:=jH w rx 143 rdx (dZ row))) (by kernel_rfl) rfl)) fun V=>fj (IntMulOk.of_left (by decide+kernel))) fun V=>e9) (q _)) r P (gz O) hn
theorem J4 {a:PA} (r:Rm m A) (P:cA w h0) (OC:Ob w h0 C 388 dC (FX sys most nd)) (O:PO w a p h0) (hn:autoParam (Nat.ble 4 m=true) aR):Fn w A h0 366 [.ref C,.ref a.x] (aw (PL.rank sys p)):=by
 refine uo (n:=3) [AS w a p,jH w C 388 dC (FX sys most nd)] ["self","port"] q9 (fun c l K q=>bz (o5 (b:=eF sys p.partner.sys||p.isLone) (nO (bF (d1:=aw sys) (d2:=aw p.partner.sys) (bB (aa rfl) (KC (Q:=jH w C 388 dC (FX sys most nd))) (by kernel_rfl) rfl) (iw (k:=0) (bP aO (aa rfl) rfl) aj rfl) fun V=>by rw [←Dt];exact M0 c.r rfl) fun V=>xJ (dA (q6 aO (aa rfl) fun V P S=>sM c.r P S))) (fun hb=>?_) fun hb=>?_) (q _)) r P (DO O OC) hn
 ·rw [show PL.rank sys p=p.actor.pid from if_pos hb];exact iw (k:=2) (bP aO (aa rfl) rfl) aj rfl
 ·rw [show PL.rank sys p=p.partner.pid from if_neg (ne_true_of_eq_false hb)];exact iw (k:=2) (bP aO (aa rfl) rfl) aj rfl
noncomputable abbrev bO (w:World) (b:BC) (its:List af) (nu:List (ag×Int)):HP:=⟨[],BF b (its.map (·.1)),fun h=>CP w h b its nu,Ny rfl,fun V h=>noM h⟩
theorem aB:Hs (bE [bO w b its nu]::Ps) fun h=>CP w h b its nu:=ha 0 (P:=bO w b its nu)
theorem Pl (hm:a∈its):Hs (bE [bO w b its nu]::Ps) (PO w a.1 a.2):=aB.mp fun V S=>S.e.ps a hm
theorem nM (r:Rm m A) (P:cA w h0) (X:CP w h0 b its nu) (lo:(b.pd==sysModules)=false) (h3:its.length≤3) (asc:(iL its).Pairwise (· < ·)) (hn:autoParam (Nat.ble 4 m=true) aR):Kz w A h0 412 [.ref b.B] (its.map ba):=by
 have e0:((qv its).map fun x=>D.int x.1)=its.map fun a=>D.int a.2.row.number:=by unfold qv;rw [List.map_map];rfl
 exact OA (n:=3) [bO w b its nu] ["self"] l5 (fun c l K q=>kW (Hu (iY (pc (its:=its) (g:=fun a=>.int a.2.row.number) (f:=ba) [("self",.ref b.B)] (Qf (e0▸FL rfl (bB (aa rfl) (aB.mp fun V S=>S.o) (by kernel_rfl) rfl) (aB.mp fun V S=>⟨S.d,lo⟩) (by unfold qv;rw [List.map_map];exact asc) (by unfold qv;rw [List.length_map];exact h3))) (fun a hm C=>i9 (bB (aa rfl) (aB.mp fun V S=>S.o) (by kernel_rfl) rfl) (aa rfl) gj (aB.mp fun V S=>S.d) (KO (lO asc) hm)) (Nat.le_trans h3 lr))) q)) r P (gz X) hn
theorem BQ (r:Rm m A) (P:cA w h0) (X:CP w h0 b its nu) (lo:(b.pd==sysModules)=false) (nd:(iL its).Nodup) (hm:a∈its) (hn:autoParam (Nat.ble 2 m=true) aR):Fn w A h0 419 [.ref b.B,.int a.2.row.number] (.ref a.1.x):=by
 have hat:=KO nd hm
 refine uo (n:=1) [bO w b its nu] ["self","number"] rD (fun c l K q=>cZ (iq (aa rfl) (bB (aa rfl) (aB.mp fun V S=>S.o) (by kernel_rfl) rfl) (aB.mp fun V S=>S.d) fun V D=>sX gj D lo) (fun e=>by rw [hat] at e;cases e) fun V=>bM (bz (i9 (bB (aa rfl) (aB.mp fun V S=>S.o) (by kernel_rfl) rfl) (aa rfl) gj (aB.mp fun V S=>S.d) hat) (q _))) r P (gz X) hn
theorem Cb (r:Rm m A) (P:cA w h0) (x:gy b its) (X:CP w h0 b its nu) (hn:autoParam (Nat.ble 6 m=true) aR):Kz w A h0 466 [.ref b.B,c5 bd] ((gN its bd).map D.int):=by
 rw [show (gN its bd).map D.int=(its.filter (LW bd)).map fun a=>D.int a.2.row.number by delta gN;rw [List.map_map];rfl]
 exact OA (n:=5) [bO w b its nu] ["self","bundle"] nV (fun c l K q=>kW (Hu (iY (NZ (its:=its) (g:=ba) [("bundle",c5 bd)] (Qf (Bx (aa rfl) (aB.mp fun V S=>S.o) (by kernel_rfl) rfl aB fun V P S=>nM c.r P S x.lo2 x.h3 x.asc)) (fun a hm C=>⟨fB (bF (bP (Pl hm) (aa rfl) rfl) (aa rfl) fun V=>Cs c.r _ _) fun V=>g0 (bF (bP (Pl hm) (aa rfl) rfl) (bu (x:=eR.s .dis)) fun V=>fS c.r _ _),fun V=>MT (Pl hm) (aa rfl) rfl⟩) (Nat.le_trans x.h3 lr))) q)) r P (gz X) hn
theorem nU (r:Rm m A) (P:cA w h0) (x:gy b its) (X:CP w h0 b its nu) (hm:a∈its) (hn:autoParam (Nat.ble 4 m=true) aR):Fn w A h0 480 [.ref b.B,.int a.2.row.number] (c5 a.2.bundle):=
 uo (n:=3) [bO w b its nu] ["self","number"] lW (fun c l K q=>bz (bP (Pl hm) (oY (aa rfl) (aB.mp fun V S=>S.o) (ae (aa rfl) aC) (by kernel_rfl) rfl aB fun V P S=>BQ c.r P S x.lo2 (lO x.asc) hm) rfl) (q _)) r P (gz X) hn
theorem En (r:Rm m A) (P:cA w h0) (x:gy b its) (X:CP w h0 b its nu) (hm:a∈its) (hn:autoParam (Nat.ble 7 m=true) aR):Fn w A h0 546 [.ref b.B,.int a.2.row.number] (c5 (mP its a)):=by
 refine uo (n:=6) [bO w b its nu] ["end","number"] tH (fun c l K q=>gw (oY (aa rfl) (aB.mp fun V S=>S.o) (ae (aa rfl) aC) (by kernel_rfl) rfl aB fun V P S=>nU c.r P x S hm) (bz (d:=c5 (mP its a)) (o5 (b:=a.2.bundle.isSome&&(gN its a.2.bundle).contains a.2.row.number) (fB (bF (aa rfl) gh fun V=>by rw [←zQ];exact fU) fun V=>g0 ?_) (fun hb=>?_) fun hb=>?_) (q _))) r P (gz X) hn
 ·rw [←wq]
  exact Oj (aa rfl) (Gk (aa rfl) (aB.mp fun V S=>S.o) (ae (aa rfl) aC) (by kernel_rfl) rfl aB fun V P S=>Cb c.r P x S) dX rfl
 ·rw [show mP its a=a.2.bundle from if_pos hb];exact aa rfl
 ·rw [show mP its a=none from if_neg (ne_true_of_eq_false hb)];exact gh
end
theorem wg {its:List af}:∀z∈dxs its,z∈qZ its:=fun z hz=>by
 refine ab (List.mem_map.mp hz) fun a ha e=>?_
 exact List.mem_flatMap.mpr (a9 a ha (e▸jT))
noncomputable abbrev iV (w:World) (its:List af):HP:=⟨dxs its,qZ its,fun h=>lQ w h its∧(oO (its.map (·.1))).Nodup,r7.andP,wg⟩
noncomputable abbrev eJ (w:World) (a:PA) (p:ah):HP:=iV w [(a,p)]
noncomputable def wH (p:ah) (v:c6):ah:={p with heard:=v}
noncomputable def QO (p:ah) (v:Int):ah:={p with hl:=v}
noncomputable def wP (p:ah) (v:dq):ah:={p with partner:=v}
noncomputable def wC (p:ah) (v:ai):ah:={p with choice:=v}
noncomputable def wT (p:ah) (v:Int):ah:={p with tl:=v}
noncomputable def wM (p:ah) (v:Bool):ah:={p with ms:=v}
noncomputable def wS (p:ah) (v:Int):ah:={p with sm:=v}
noncomputable def wX (p:ah) (v:eR):ah:={p with mux:=v}
noncomputable def wJ (p:ah) (v:Int):ah:={p with jl:=v}
noncomputable def wB (p:ah) (v:Option Int):ah:={p with bundle:=v}
theorem xI {its its':List af} (e:its'.map (·.1)=its.map (·.1)):dxs its'=dxs its∧qZ its'=qZ its:=⟨by
 have:=congrArg (List.map fun a:PA=>a.dx) e
 rwa [List.map_map,List.map_map] at this,by rw [mz,mz,e]⟩
section
variable {ap:af} {a:PA} {b i:Nat} {v:Int}
theorem pO:Hs (eJ w a p::Rs) (PO w a p):=fun h q=>(q _ (.head _)).1 (a,p) (.head _)
theorem vH (j:Nat) (hP:Ps[j]? =some (iV w its)) (hi:its[i]? =some ap) (ho:Xp c env L Ps o (.ref ap.1.x)) (e1:Xp c env L Ps e d) (k:Tr c env L (Ps.set j (iV w (its.set i (ap.1,p')))) rest J)
  (hp:autoParam (n8 x d (fE ap.1.rx ap.2)=fE ap.1.rx p') aR) (hr:autoParam (p'.row=ap.2.row) aR) (ok:autoParam (uQ (Mine.K w.params) 234 x=true) aK) (hs:autoParam (sm e=true) aR):Tr c env L Ps (.Assign [.Attribute o x p1] e pos::rest) J:=by
 intro s h t m X Q E q
 refine wpAny_execs_cons (plainObj_wpAny_Assign_Attribute (e1 h m X.pst (sh s h t) X.a _ _ fun v h1 t1=>av fun k1 r=>?_) (qd hs))
 have Y:=X.sub k1
 refine ho h1 m Y.pst (sh s h1 t1) Y.a _ _ fun ov h2 t2=>av fun k2 r2=>?_
 cases r2
 have Y2:=Y.sub k2
 refine bC (Y2.f.S _ (List.mem_of_getElem? hP)) fun O nd=>?_
 have Pa:=O ap (List.mem_of_getElem? hi)
 refine xj (s:=sh s h2 t2) Y2.f.pin Pa.o ok (r.mono k2.t) (by exact Nat.le_of_ble_eq_true rfl) _ _ fun V h3 t3=>av fun kp O3=>?_
 have t4:bl h2 h3:=kp.t fun b hb=>List.mem_singleton.mp hb▸Pa.o.noTup
 have wf:=xI (qE (p':=p') hi)
 have hd:ap.1.dx∈dxs its:=List.mem_map_of_mem (f:=fun a:af=>a.1.dx) (List.mem_of_getElem? hi)
 exact k s h3 t3 m (Y2.upd (Q:=iV w (its.set i (ap.1,p'))) hP (kp.more fun b hb=>List.mem_singleton.mp hb▸hd) t4 ⟨O.step hi nd kp t4 ⟨hp▸O3,hr▸Pa.r.keep kp t4 Pa.apart.1 Pa.apart.2⟩,by rw [qE hi];exact nd⟩ (fun z hz=>.inl (show z∈dxs its from wf.1▸hz)) fun z hz=>.inl (show z∈qZ its from wf.2▸hz)) Q E q
theorem qm (e1:Xp c env L (eJ w a p::Rs) e d) (k:Tr c env L (eJ w a p'::Rs) rest J) (hl:L.lookup nm=some (.ref a.x)) (hp:n8 x d (fE a.rx p)=fE a.rx p') (hr:p'.row=p.row) (ok:uQ (Mine.K w.params) 234 x=true) (hm:bT env nm=true) (hs:sm e=true):Tr c env L (eJ w a p::Rs) (.Assign [.Attribute (.Name nm px) x p1] e pos::rest) J:=
 vH (its:=[(a,p)]) (i:=0) 0 rfl rfl (aa hl hm) e1 k hp hr ok hs
theorem qS (z:c6) (e1:Xp c env L (eJ w a p::Rs) e (.str (c6.s z))) (k:Tr c env L (eJ w a (wH p z)::Rs) rest J) (hl:autoParam (L.lookup nm=some (.ref a.x)) aR) (hm:autoParam (bT env nm=true) aR) (hs:autoParam (sm e=true) aR):Tr c env L (eJ w a p::Rs) (.Assign [.Attribute (.Name nm px) "heard" p1] e pos::rest) J:=qm e1 k hl rfl rfl (by kernel_rfl) hm hs
theorem Jl (e1:Xp c env L (eJ w a p::Rs) e (.int v)) (k:Tr c env L (eJ w a (QO p v)::Rs) rest J) (hl:autoParam (L.lookup nm=some (.ref a.x)) aR) (hm:autoParam (bT env nm=true) aR) (hs:autoParam (sm e=true) aR):Tr c env L (eJ w a p::Rs) (.Assign [.Attribute (.Name nm px) "heard_left" p1] e pos::rest) J:=qm e1 k hl rfl rfl (by kernel_rfl) hm hs
theorem lD (e1:Xp c env L (eJ w a p::Rs) e (b8 I)) (k:Tr c env L (eJ w a (wP p I)::Rs) rest J) (hl:autoParam (L.lookup nm=some (.ref a.x)) aR) (hm:autoParam (bT env nm=true) aR) (hs:autoParam (sm e=true) aR):Tr c env L (eJ w a p::Rs) (.Assign [.Attribute (.Name nm px) "partner" p1] e pos::rest) J:=qm e1 k hl rfl rfl (by kernel_rfl) hm hs
theorem LU (k:Tr c env L (eJ w a (wC p .un)::Rs) rest J) (hl:autoParam (L.lookup nm=some (.ref a.x)) aR) (hm:autoParam (bT env nm=true) aR):Tr c env L (eJ w a p::Rs) (.Assign [.Attribute (.Name nm px) "choice" p1] (.Constant (.str "unselected") b p2) pos::rest) J:=qm (p':=wC p .un) bu k hl rfl rfl (by kernel_rfl) hm rfl
theorem JY (e1:Xp c env L (eJ w a p::Rs) e (.int v)) (k:Tr c env L (eJ w a (wT p v)::Rs) rest J) (hl:autoParam (L.lookup nm=some (.ref a.x)) aR) (hm:autoParam (bT env nm=true) aR) (hs:autoParam (sm e=true) aR):Tr c env L (eJ w a p::Rs) (.Assign [.Attribute (.Name nm px) "turn_left" p1] e pos::rest) J:=qm e1 k hl rfl rfl (by kernel_rfl) hm hs
theorem xY (k:Tr c env L (eJ w a (wM p bv)::Rs) rest J) (hl:autoParam (L.lookup nm=some (.ref a.x)) aR) (hm:autoParam (bT env nm=true) aR):Tr c env L (eJ w a p::Rs) (.Assign [.Attribute (.Name nm px) "must_send" p1] (.Constant (.bool bv) b p2) pos::rest) J:=qm (p':=wM p bv) vr k hl rfl rfl (by kernel_rfl) hm rfl
theorem NJ (e1:Xp c env L (eJ w a p::Rs) e (.int v)) (k:Tr c env L (eJ w a (wS p v)::Rs) rest J) (hl:autoParam (L.lookup nm=some (.ref a.x)) aR) (hm:autoParam (bT env nm=true) aR) (hs:autoParam (sm e=true) aR):Tr c env L (eJ w a p::Rs) (.Assign [.Attribute (.Name nm px) "sent_many" p1] e pos::rest) J:=qm e1 k hl rfl rfl (by kernel_rfl) hm hs
theorem rG:Sp w 2 189 [.ref a.x,.int b,.bool bv] [eJ w a p] fun K=>K (.bool (p.turns b bv)) [eJ w a (p.setOwn b bv)]:=by
 have e:p.turns b bv= !(D.eqv (b8 (p.setOwn b bv).actor) (b8 p.actor)):=by rw [Fc];rfl
 rw [e]
 refine bf ["self","bit","is_set"] mC fun c l K q=>?_
 refine gw (bP pO (aa rfl) rfl) (qm (p':=p.setOwn b bv) (Ij (aa rfl) (aa rfl) (aa rfl)) ?_ rfl rfl rfl (by kernel_rfl) rfl rfl)
 exact bz (nQ (bP pO (aa rfl) rfl) (aa rfl) fun h=>mV c.r (uW _) (uW _)) q
noncomputable def nr:D→Bool | .ref _=>false | .tup _=>false |_=>true
theorem De (e1:Xe c env L Ps e fun d Qs=>nr d=true∧Tr c env L Qs rest J) (hs:autoParam (sm e=true) aR):Tr c env L Ps (.Expr e pos::rest) J:=fun s h t m X=>
 j5 ((e1 s h t m X).mono fun v h1=>ak fun d Qs k r Y V=>⟨fun a q=>(by subst q;cases r<;>cases k.1),fun t1=>k.2 s h1 t1 m Y⟩) (by rw [interactive,X.v.k];rfl) (qd hs)
theorem rY (b:Nat) (q1:Xp c env L (eJ w a p::Rs) u (.int b)) (k:Tr c env L (eJ w a (p.setOwn b bv)::Rs) rest J) (hl:autoParam (L.lookup nm=some (.ref a.x)) aR) (hn:autoParam (Nat.ble 2 n=true) aR) (hm:autoParam (qa (.Name nm px) [u,.Constant (.bool bv) i p4] p1 pos=true) aR) (hk:autoParam (bT env nm=true) aR):
  Tr c env L (eJ w a p::Rs) (.Expr (.Call (.Attribute (.Name nm px) "set_own" p1) [u,.Constant (.bool bv) i p4] [] pos) p2::rest) J:=
 De (ij (aa hl hk) (pO.mp fun V S=>S.o) (ae q1 (ae vr aC) (fD hm).1) (by kernel_rfl) rfl (gg (Rs:=Rs) rG ⟨rfl,k⟩ hn) hm)
end
section
variable {K:D→List HP→Prop} {a:PA} {b i:Nat} {v:Int}
theorem nT {b:Bool} (e:b=false):¬ b=true:=e▸Bool.false_ne_true
theorem Av {Q:(D→List HP→Prop)→Prop} {k:Nat} {Pre:List HP} (en:nsIn (Mine.K w.params) mainGlobals y=some (some (.ref f))) (q1:Xq c env L (Pre++Rs) (e::r) ds) (sp:Sp w k f ds Pre Q) (q:Q fun d Qs=>nr d=true∧Tr c env L (Qs++Rs) rest J) (hk:autoParam (keepIn (Mine.K w.params) (.ref f)=true) aK) (hn:autoParam (Nat.ble k n=true) aR) (hy:autoParam (dY env y=true) aR) (hs:autoParam ((e::r).all ns=true) aR):Tr c env L (Pre++Rs) (.Expr (.Call (.Name y p1) (e::r) [] pos) p2::rest) J:=
 De (bw en hk (AN q1 (gg sp q hn)) hy hs)
noncomputable abbrev uh (w:World) (y dy:Addr) (q:oM):HP:=jH w y 93 dy (jX q)
theorem OL {i j:Int} (q1:Xp c env L Ps e (.int i)) (q2:Xp c env L Ps u (.int j)) (hy:autoParam (dY env "min"=true) aR) (hn:autoParam ([e,u].all ns=true) aR):Xp c env L Ps (.Call (.Name "min" p1) [e,u] [] pos) (.int (min i j)):=fun h m p=>
 have h2:=Bool.and_eq_true_iff.mp hn
 have h3:=Bool.and_eq_true_iff.mp h2.2
 Ms c.r.h p.p p.v.g p.v.b (q1 h m p) (q2 h m p) p.v.k (bN hy).1 (aQ h2.1) (aQ h3.1) (l7 h2.2)
theorem kK {b:Bool} {body:List Stmt} {p1:ah} (t:Xu c env L (eJ w a p::Rs) e b) (h1:b=true→∀J',Tr c env L (eJ w a p1::Rs) [] J'→Tr c env L (eJ w a p::Rs) body J') (k:Tr c env L (eJ w a (if b=true then p1 else p)::Rs) rest J):Tr c env L (eJ w a p::Rs) (.If e body [] pos::rest) J:=
 cZ t (fun e=>h1 e _ (bM (by rwa [if_pos e] at k))) fun e=>bM (by rwa [if_neg (nT e)] at k)
theorem OJ {ds:List D} {KA:List D→List HP→Prop} (e1:Xp c env L Ps e (.tup ds)) (q:KA ds Ps) (nt:∀h,(∀P∈Ps,P.S h)→∀P∈Ps,∀z∈P.W,l9 h z):Xi c env L Ps (.Name x px) e KA:=fun s h t m X=>(e1 h m X.pst (sh s h t) X.a).mono fun v h1=>av fun k1 r1 t1=>by
 obtain ⟨a,vs,nn,rfl,ha,r⟩:=r1.isTup
 have X1:=X.sub k1
 have nL:¬ Lo env a:=fun q=>q.elim (fun e=>by refine a8 X1.a.ns fun o es ep ho hd V=>?_;rw [←e,ha] at ho;cases ho;cases hd) fun zz=>cQ zz fun n e=>by refine ab (X1.a.cs n a e) fun oc hc hd=>?_;rw [ha] at hc;cases hc;cases hd
 exact (E9 c.r.h (s:=sh s h1 t1) ha r).mono fun it h2=>ft fun e2 k2 J=>gQ _ a ds Ps e2 q (X1.sub k2) (pG X (J.less k1) (Nat.ne_of_lt (Heap.lt_size ha)) ⟨_,k2 _ _ ha⟩ nL fun P hP z=>nt h1 X1.f.S P hP a z (.tup vs) nn ha)
theorem md:Sp w 4 279 [.ref a.x] [eJ w a p] fun K=>K .none [eJ w a (ee p)]:=by
 refine bf ["port"] vl fun c l K q=>?_
 refine qS .expired bu (Jl (gH (n9 _)) (lD (Ij (b:=2) (Ij (b:=8) (bP pO (aa rfl) rfl) (gH (bX _)) vr) (gH (lG _)) vr) (rY 128 (gH (lL _)) (xY (JY (q6 pO (aa rfl) fun h P S=>vL c.r P S) (cT q))))))
theorem xH:Sp w 4 286 [.ref a.x] [eJ w a p] fun K=>K .none [eJ w a (ju p)]:=by
 refine bf ["port"] Az fun c l K q=>?_
 exact qS .disabled bu (Jl aj (LU (lD (I:=gZ) (Fe (og _) fun V P=>lP P) (rY 128 (gH (lL _)) (rY 64 (gH (dP _)) (xY (cT q)))))))
theorem sC:Sp w 5 293 [.ref a.x] [eJ w a p] fun K=>K .none [eJ w a (dj p)]:=by
 refine bf ["port"] t8 fun c l K q=>?_
 refine cZ (bF (bP pO (aa rfl) rfl) (bu (x:=c6.s .current)) fun h=>DE c.r _ _) (fun e=>?_) fun e=>bM ?_
 ·rw [show dj p=ee p from if_pos e] at q
  exact Av (Rs:=[]) (oK _) (ae (aa rfl) aC) md ⟨rfl,sV q⟩
 ·rw [show dj p=_ from if_neg (nT e)] at q
  exact qS .defaulted bu (kK (nO (bF (AL (bP pO (aa rfl) rfl)) (AL (Fe (og _) fun V P=>lP P)) fun h=>C2 c.r _ _) fun V=>xJ (fY (dA (rN (b:=64) pO (aa rfl) (gH (dP _)))))) (fun V J' k=>LU k) (lD (I:=gZ) (Fe (og _) fun V P=>lP P) (rY 128 (gH (lL _)) (rY 64 (gH (dP _)) (cT q)))))
theorem rQ:Sp w 6 328 [.ref a.x] [eJ w a p] fun K=>K .none [eJ w a (b6 p)]:=by
 refine bf ["port"] uq fun c l K q=>?_
 refine NJ aj (cZ (fY (dA (A9 pO (aa rfl)))) (fun e=>?_) fun e=>bM ?_)
 ·rw [show b6 p=wS p 0 from if_pos e] at q
  exact sV q
 ·rw [show b6 p=_ from if_neg (nT e)] at q
  refine kK (bF (bP pO (aa rfl) rfl) (bu (x:=c6.s .defaulted)) fun h=>v8 c.r _ _) (fun V J' k=>Jl (b7 (bP pO (aa rfl) rfl) aj fun V=>je) (kK (bF (bP pO (aa rfl) rfl) aj fun V=>rK) (fun V J' k=>Av (ue _) (ae (aa rfl) aC) sC ⟨rfl,k⟩) k)) ?_
  exact JY (b7 (OL (bP pO (aa rfl) rfl) (q6 pO (aa rfl) fun h P S=>vL c.r P S)) aj fun V=>je) (kK (bF (bP pO (aa rfl) rfl) aj fun V=>rK) (fun V J' k=>JY (q6 pO (aa rfl) fun h P S=>vL c.r P S) (xY k)) (cT q))
theorem sx:Sp w 1 272 [.ref a.x] [eJ w a p] fun K=>K .none [eJ w a (dQ p)]:=by
 refine bf ["port"] tV fun c l K q=>?_
 exact kK (fB (bF (bP pO (aa rfl) rfl) (bu (x:=eR.s .wai)) fun h=>fS c.r _ _) fun V=>g0 (bF (bP pO (aa rfl) rfl) aj fun V=>eU)) (fun V J' k=>qm (p':=wJ p (p.jl - 1)) (b7 (bP pO (aa rfl) rfl) aj fun V=>je) k rfl rfl rfl (by kernel_rfl) rfl rfl) (cT q)
theorem pU {y dy:Addr} {q:oM}:Hs [eJ w a p,(uh w y dy q).ro] fun h=>PO w a p h∧BU w h y dy q:=fun h S=>⟨pO h S,S _ jT⟩
theorem NS {y dy:Addr} {q:oM} (hl:L.lookup nm=some (.ref y)) (hm:autoParam (bT env nm=true) aR):Xp c env L [eJ w a p,(uh w y dy q).ro] (.Attribute (.Name nm px) "actor" pos) (b8 q.actor):=bB (aa hl hm) (hs 1 (P:=(uh w y dy q).ro)) (by kernel_rfl) rfl
theorem Iw {y dy:Addr} {q:oM}:Sp w 4 321 [.ref a.x,.ref y] [eJ w a p,(uh w y dy q).ro] fun K=>K .none [eJ w a (ql p q),(uh w y dy q).ro]:=by
 refine bf ["port","pdu"] Lm fun c l K k=>?_
 refine cZ (fY (dA (A9 pO (aa rfl)))) (fun e=>?_) fun e=>bM ?_
 ·rw [show ql p q=p from if_pos e] at k
  exact sV k
 ·rw [show ql p q=_ from if_neg (nT e)] at k
  refine kK (nO (fY (dA (gJ (ae (NS rfl) (ae (bP pO (aa rfl) rfl) aC)) (mf _) (by kernel_rfl) hT fun h P V=>j3 c.r P))) fun V=>xJ (dA (rN (b:=64) pO (aa rfl) (gH (dP _))))) (fun V J' k=>LU k) ?_
  refine kK (fY (dA (gJ (ae (aa rfl) (ae (aa rfl) aC)) (AJ _) (by kernel_rfl) pU fun h P S=>xu c.r P S.1 S.2))) (fun V J' k=>xY k) ?_
  refine gw (BS (oj (b:=2) pO (aa rfl) (gH (lG _)))) ?_
  refine lD (Ij (b:=8) (NS rfl) (gH (bX _)) (gJ (ae (aa rfl) (ae (aa rfl) aC)) (w8 _) (by kernel_rfl) pU fun h P S=>uf c.r P S.1 S.2)) ?_
  refine rY 64 (gH (dP _)) (rY 128 (gH (lL _)) (qS .current bu (Jl (q6 pO (aa rfl) fun h P S=>tQ c.r P S) ?_)))
  exact kK (fB (dA (aa rfl)) fun V=>g0 (dA (oj (b:=2) pO (aa rfl) (gH (lG _))))) (fun V J' k=>JY aj (xY k)) (cT k)
theorem K5 {q:oM}:Sp w 2 93 [b8 q.actor,b8 q.partner] [] fun K=>∀y dy,K (.ref y) [uh w y dy q]:=
 (sY (n:=1) (ds:=[b8 q.actor,b8 q.partner]) (Pre:=[]) (Q:=fun y dy K=>K .none [uh w y dy q]) (by kernel_rfl) (by kernel_rfl) (by kernel_rfl) fun x dx=>lC (fun vs=>vs++ [.int 0 295]) ["self","actor","partner","most_delay"] nY (fun v1 v2 v3 s P=>BindsTo.of_defaults (T:=76) (o:=e7 [.int 0 295] 0) (items:= #[.int 0 295]) (n:=0) (by rfl) (P.k _ _ (by kernel_rfl)) (by rfl) (by rfl) (by rfl)) (fun v1 v2 v3 n=>by kernel_rfl) (fun h vs r=>r.append (.cons (.int 0 295) .nil))
  (fun c l K q=>mZ 0 (zw (aa rfl) ⟨rfl,aa rfl,mZ 0 (zw (aa rfl) ⟨rfl,aa rfl,mZ 0 (zw (aa rfl) ⟨rfl,aa rfl,cT q⟩) (by kernel_rfl)⟩) (by kernel_rfl)⟩) (by kernel_rfl)) (by decide) rfl).mono fun K k x dx=>⟨rfl,k x dx⟩
noncomputable def OW (w:World) (a:PA) (r:ah×Option oM) (K:D→List HP→Prop):Prop:=match r with
 |(p,none)=>K .none [eJ w a p]
 |(p,some q)=>∀y dy,K (.ref y) [eJ w a p,uh w y dy q]
theorem tM:Sp w 4 335 [.ref a.x] [eJ w a p] (OW w a (cj p)):=by
 refine bf ["port"] ve fun c l K q=>?_
 refine kK (fY (dA (q6 pO (aa rfl) fun h P S=>GC c.r P S))) (fun V J' k=>xY k) ?_
 revert q
 show OW w a (let p:=if (!p.talks)=true then wM p false else p;if !p.ms||decide (p.sm≥3) then (p,none) else (wS (wM p false) (p.sm+1),some ⟨p.actor,p.partner⟩)) K→_
 generalize (if (!p.talks)=true then wM p false else p)=p1
 intro q
 refine cZ (nO (fY (dA (bP pO (aa rfl) rfl))) fun V=>xJ (bF (bP pO (aa rfl) rfl) (gH (M3 _)) fun V=>rF)) (fun e=>?_) fun e=>bM ?_
 ·rw [if_pos e] at q
  exact bz gh q
 ·rw [if_neg (nT e)] at q
  refine xY (NJ (b7 (bP pO (aa rfl) rfl) aj fun V=>e9) ?_)
  exact kW (EU (bw (Hi _) (by kernel_rfl) (AN (ae (bP pO (aa rfl) rfl) (ae (bP pO (aa rfl) rfl) aC)) (gg (Pre:=[]) (K5 (q:=⟨p1.actor,p1.partner⟩)) fun y dy=>a9 _ (.swap ..) (q y dy)))))
end
section
variable {a:PA} {u:eR}
theorem FR {α β:Type} [DecidableEq α] {u v:α} {x y:β}:(if (u==v)=true then x else y)=if u=v then x else y:=by by_cases h:u=v<;>simp [h]
theorem Mb (hl:L.lookup nm=some (.str (eR.s u))) (hy:autoParam (dY env "BITS_OF"=true) aR) (hm:autoParam (bT env nm=true) aR):Xp c env L Ps (.Subscript (.Name "BITS_OF" px) (.Name nm p1) pos) (.int (fP u)):=fun h m p=>
 xN (pE p.p p.v.g (CZ _) (.ref 239) p.v.k (bN hy).1 (bN hy).2) (aa (c:=c) (Ps:=Ps) hl hm h m p) rz (Hx p.p) (Ik u) fun V V=>mQ rfl
theorem NR:∀h,(∀P∈ [eJ w a p],P.S h)→∀P∈ [eJ w a p],∀z∈P.W,l9 h z:=fun h S P hP z hz=>by
 rw [List.mem_singleton.mp hP] at hz
 exact List.mem_singleton.mp hz▸((S _ (.head _)).1 (a,p) (.head _)).o.noTup
theorem yI:Sp w 3 246 [.ref a.x,.str (eR.s u)] [eJ w a p] fun K=>K .none [eJ w a (cz p u)]:=by
 refine bf ["port","word"] z8 fun c l K q=>?_
 refine qm (p':=wX p u) (d:=.str (eR.s u)) (aa rfl) (c8 (OJ (gU (ae (gH (bX _)) (ae (gH (i7 _)) (ae (gH (sD _)) aC)))) ?_ NR)) rfl rfl rfl (by kernel_rfl) rfl rfl
 refine yW (its:=([8,16,32]:List Nat)) (g:=fun b=>.int b) (L0:=[("port",.ref a.x),("word",.str (eR.s u))]) (fun i K=>K [("port",.ref a.x),("word",.str (eR.s u))] [eJ w a ((([8,16,32]:List Nat).take i).foldl (bk u) (wX p u))]) (fun K k=>k) (fun c' i b hb=>?_) (cT q)
 have ef:(([8,16,32]:List Nat).take (i+1)).foldl (bk u) (wX p u)=bk u ((([8,16,32]:List Nat).take i).foldl (bk u) (wX p u)) b:=by rw [List.take_add_one,hb,List.foldl_append];rfl
 generalize (([8,16,32]:List Nat).take i).foldl (bk u) (wX p u)=p1 at ef
 have eb:(fP u&&&b !=0)=(Builtin.bitAnd (fP u:Int) (b:Int) !=0):=by rw [qB,BL]
 have gF:∀K:LL→List HP→Prop,(∀L,K L [eJ w a ((([8,16,32]:List Nat).take (i+1)).foldl (bk u) (wX p u))]→K L [eJ w a (bk u p1 b)]):=fun K L k=>ef▸k
 refine EP (Q0 (ij (aa rfl) (pO.mp fun V S=>S.o) (ae (aa rfl) (ae (eb▸nQ (b7 (Mb rfl) (aa rfl) fun V=>vk) aj fun V=>nf) aC)) (by kernel_rfl) rfl (gg (Rs:=[]) rG (cb _ rfl (fun e=>xY (bM (b9 (L0:=[("port",.ref a.x),("word",.str (eR.s u))]) (fun K k=>?_) rfl))) (fun e=>bM (b9 (L0:=[("port",.ref a.x),("word",.str (eR.s u))]) (fun K k=>?_) rfl))))))
 ·have:=gF K _ k
  rwa [show bk u p1 b=wM (p1.setOwn b (fP u&&&b !=0)) true from if_pos e] at this
 ·have:=gF K _ k
  rwa [show bk u p1 b=p1.setOwn b (fP u&&&b !=0) from if_neg (nT e)] at this
theorem yB:Sp w 4 260 [.ref a.x,.bool bv] [eJ w a p] fun K=>K (.bool (steps p bv)) [eJ w a (bW p bv)]:=by
 refine bf ["port","is_ready"] AK fun c l K q=>?_
 refine gw (gJ (ae (aa rfl) (ae (aa rfl) aC)) (Ak _) (by kernel_rfl) pO fun h P S=>zi c.r P S) ?_
 rw [show steps p bv=(ay p bv !=p.mux) from rfl,show bW p bv=if ay p bv=p.mux then p else if ay p bv= .det then wB (if ay p bv= .wai then wJ (cz p (ay p bv)) 2 else cz p (ay p bv)) none else if ay p bv= .wai then wJ (cz p (ay p bv)) 2 else cz p (ay p bv) from rfl] at q
 generalize ay p bv=u at q
 refine cZ (bF (aa rfl) (bP pO (aa rfl) rfl) fun h=>fS c.r _ _) (fun e=>?_) fun e=>bM ?_
 ·rw [show (u !=p.mux)=false by rw [bne,e];rfl,if_pos (eq_of_beq e)] at q
  exact bz vr q
 ·rw [show (u !=p.mux)=true by rw [bne,e];rfl,if_neg (by simpa using e)] at q
  refine Av (Rs:=[]) (zI _) (ae (aa rfl) (ae (aa rfl) aC)) yI ⟨rfl,?_⟩
  refine kK (bF (aa rfl) (bu (x:=eR.s .wai)) fun h=>fS c.r _ _) (fun V J' k=>qm (p':=wJ (cz p u) 2) (gH (xi _)) k rfl rfl rfl (by kernel_rfl) rfl rfl) ?_
  rw [FR]
  refine kK (bF (aa rfl) (bu (x:=eR.s .det)) fun h=>fS c.r _ _) (fun V J' k=>qm (p':=wB _ none) gh k rfl rfl rfl (by kernel_rfl) rfl rfl) ?_
  rw [FR]
  exact bz vr q
end
section
variable {Pre' As:List HP} {Q:(D→List HP→Prop)→Prop} {g:Heap} {W F W' F':List Addr}
theorem Fi.ewf (X:Fi w ⟨g,W,F⟩ Ps h) (hW:∀z∈W,z∈W') (hF:∀z∈F,z∈F') (fr:lR w g W') (ew:∀z∈W',z∈F'):Fi w ⟨g,W',F'⟩ Ps h:=
 ⟨fr,ew,X.kp.more hW,X.tt,X.S,X.sep,fun P hP=>⟨fun z hz=>((X.ext P hP).1 z hz).imp_left (hW z),fun z hz=>((X.ext P hP).2 z hz).imp_left (hF z)⟩⟩
theorem Sp.perm (sp:Sp w n f ds Pre Q) (p:Pre.Perm Pre'):Sp w n f ds Pre' Q:=fun A r K q s vs rs fr st sep=>
 have wl:∀z∈Wl Pre,z∈Wl Pre':=fun z q=>(cf q).elim fun P q=>et (p.mem_iff.mp q.1) q.2
 (sp A r K q s vs rs (fr.less wl) (fun P hP=>st P (p.mem_iff.mp hP)) ((p.pairwise_iff fun a=>a.symm).mpr sep)).mono fun v h'=>eX fun d Qs k r X=>hZ d Qs k r (X.ewf wl (fun z q=>(dh q).elim fun P q=>bV (p.mem_iff.mp q.1) q.2) fr fun V=>sR)
theorem Sp.lens {ι:Type} {d:ι→D} {As' Rs':ι→List HP} {B:HP} {B':ι→HP} (sp:Sp w n f ds (As++Rs) fun K=>∀i,K (d i) (As' i++Rs' i))
  (h1:∀h,B.S h→(∀P∈As,P.S h)∧As.Pairwise rO) (hW:∀z∈Wl As,z∈B.W) (hF:∀z∈Fl As,z∈B.F)
  (wf:∀i,((B' i).W,(B' i).F)=(B.W,B.F)) (fa:∀i,Fl (As' i)=Fl As)
  (hR:∀i,∀R∈Rs' i,(∀z∈R.F,z∈Fl Rs)∨R.W=R.F)
  (h2:∀i h h',B.S h→bl h h'→(∀z∈B.F,z∉Wl As→∀o,h.get? z=some o→h'.get? z=some o)→(∀P∈As' i,P.S h')→(B' i).S h'):
  Sp w n f ds (B::Rs) fun K=>∀i,K (d i) (B' i::Rs' i):=by
 intro A r K q s vs rs fr st sep
 refine bC (List.pairwise_cons.mp sep) fun aB pR=>?_
 have SB:=st B (.head _)
 refine bC (h1 _ SB) fun sA pA=>?_
 have wl:∀z∈Wl (As++Rs),z∈Wl (B::Rs):=fun z q=>(List.mem_append.mp (mx▸q)).elim (fun q=>et (.head _) (hW z q)) fun q=>(cf q).elim fun P q=>et (.tail _ q.1) q.2
 have fl:∀z∈Fl (As++Rs),z∈Fl (B::Rs):=fun z q=>(List.mem_append.mp (rg▸q)).elim (fun q=>bV (.head _) (hF z q)) fun q=>(dh q).elim fun P q=>bV (.tail _ q.1) q.2
 refine (sp A r (fun d' Qs=>∃i,d'=d i∧Qs=As' i++Rs' i) (fun i=>a9 i rfl rfl) s vs rs (fr.less wl) (fun P hP=>(List.mem_append.mp hP).elim (sA P) fun q=>st P (.tail _ q)) (List.pairwise_append.mpr ⟨pA,pR,fun P hP R hR=>⟨fun z hz q=>(aB R hR).1 z (hW z (et hP hz)) q,fun z hz q=>(aB R hR).2 z hz (hF z (bV hP q))⟩⟩)).mono fun v h'=>dT fun d' Qs i e1 e2 rd X=>?_
 subst e1 e2
 refine bC (Prod.mk.inj (wf i)) fun wW wF=>?_
 refine cB (List.pairwise_append.mp X.sep) fun s1 s2 s3=>?_
 have old:∀{z},z∈B.F→s.heap.get? z=none→False:=fun hz n=>nj (B.fr.ex _ SB _ hz) n
 have off:∀{z},z∈B.F→z∉Wl Rs:=fun hz q=>(cf q).elim fun R q=>(aB R q.1).2 _ q.2 hz
 have inA:∀{z R},R∈Rs' i→z∈R.W→z∈Fl As→False:=fun {z R} hR' hz q=>by
  refine ab (dh (fa i▸q)) fun P a b=>?_
  exact (s3 P a R hR').2 z hz b
 refine ⟨d i,_,q i,rd,fr,fun V=>sR,X.kp.more wl,X.tt,fun P hP=>(List.mem_cons.mp hP).elim (fun e=>e▸h2 i _ _ SB X.tt (fun z hz n o e=>X.kp z o (fun q=>(List.mem_append.mp (mx▸q)).elim n (off hz)) e) fun P hP=>X.S P (List.mem_append_left _ hP)) fun q=>X.S P (List.mem_append_right _ q),List.pairwise_cons.mpr ⟨fun R hR'=>⟨fun z hz q=>?_,fun z hz q=>?_⟩,s2⟩,
  fun P hP=>(List.mem_cons.mp hP).elim (fun e=>e▸⟨fun z hz=>.inl (et (.head _) (wW▸hz)),fun z hz=>.inl (bV (.head _) (wF▸hz))⟩) fun q=>⟨fun z hz=>((X.ext P (List.mem_append_right _ q)).1 z hz).imp_left (wl z),fun z hz=>((X.ext P (List.mem_append_right _ q)).2 z hz).imp_left (fl z)⟩⟩
 ·rw [wW] at hz
  have zB:=B.wf z hz
  have z3:z∈Fl Rs→False:=fun q=>(dh q).elim fun R q=>(aB R q.1).1 z hz q.2
  rcases hR i R hR' with a |a
  ·exact z3 (a z q)
  ·refine ((X.ext R (List.mem_append_right _ hR')).2 z q).elim (fun q2=>?_) (old zB)
   exact (List.mem_append.mp (rg▸q2)).elim (inA hR' (a▸q)) z3
 ·rw [wF] at q
  refine ((X.ext R (List.mem_append_right _ hR')).1 z hz).elim (fun q2=>?_) (old q)
  exact (List.mem_append.mp (mx▸q2)).elim (fun q=>inA hR' hz (sR q)) (off q)
end
variable {Rs':List HP}
section
variable {mem mem':List af} {a:PA}
theorem wc {z:Addr}:z∈qZ its↔∃a∈its,z∈a.1.pl:=List.mem_flatMap
theorem Es (nd:(oO (its.map (·.1))).Nodup) {a b:af} (ha:a∈its) (hb:b∈its) {z:Addr} (h1:z∈a.1.pl) (h2:z∈b.1.pl):a=b:=by
 refine cQ (List.getElem?_of_mem ha) fun i hi=>?_
 refine cQ (List.getElem?_of_mem hb) fun j hj=>?_
 obtain rfl:=vU nd (pq rfl hi) (pq rfl hj) h1 h2
 exact Option.some.inj (hi.symm.trans hj)
theorem Jm (h:∀a∈mem,a∈its):∀z∈qZ mem,z∈qZ its:=fun z q=>ab (wc.mp q) fun a ha hz=>wc.mpr (a9 a (h a ha) hz)
theorem IU (h:∀a∈mem,a∈its):∀z∈dxs mem,z∈dxs its:=fun z q=>ab (List.mem_map.mp q) fun a ha hz=>List.mem_map.mpr (a9 a (h a ha) hz)
theorem Nt {P:HP} {z:Addr}:z∈Wl [P]↔z∈P.W:=by rw [Wl,List.flatMap_cons,List.flatMap_nil,List.append_nil]
theorem PF {P:HP} {z:Addr}:z∈Fl [P]↔z∈P.F:=by rw [Fl,List.flatMap_cons,List.flatMap_nil,List.append_nil]
theorem yz {ι:Type} {d:ι→D} {mem' its':ι→List af} {Rs':ι→List HP} (sp:Sp w n f ds (iV w mem::Rs) fun K=>∀i,K (d i) (iV w (mem' i)::Rs' i)) (hm:∀a∈mem,a∈its) (hs:(oO (mem.map (·.1))).Sublist (oO (its.map (·.1)))) (e1:∀i,(mem' i).map (·.1)=mem.map (·.1)) (e2:∀i,(its' i).map (·.1)=its.map (·.1)) (up:∀i,(oO (its.map (·.1))).Nodup→∀b∈its' i,b∈mem' i∨(b∈its∧b∉mem))
  (hR:∀i,∀R∈Rs' i,(∀z∈R.F,z∈Fl Rs)∨R.W=R.F):Sp w n f ds (iV w its::Rs) fun K=>∀i,K (d i) (iV w (its' i)::Rs' i):=
 Sp.lens (As:=[iV w mem]) (As':=fun i=>[iV w (mem' i)]) (B':=fun i=>iV w (its' i)) sp (fun h (S:lQ w h its∧_)=>⟨gz ⟨fun a ha=>S.1 a (hm a ha),S.2.sublist hs⟩,List.pairwise_singleton ..⟩)
  (fun z hz=>IU hm z (Nt.mp hz)) (fun z hz=>Jm hm z (PF.mp hz)) (fun i=>congr (congrArg Prod.mk (xI (e2 i)).1) (xI (e2 i)).2) (fun i=>show qZ (mem' i)++ []=qZ mem++ [] by rw [(xI (e1 i)).2]) hR fun i h h' (S:lQ w h its∧_) t k O=>⟨fun b hb=>(up i S.2 b hb).elim (fun q=>(O _ (.head _)).1 b q) fun q=>
   kG.mo h h' (S.1 b q.1) t fun z hz o e=>k z (wc.mpr (a9 b q.1 hz)) (fun q2=>by
    refine ab (List.mem_map.mp (show z∈dxs mem from Nt.mp q2)) fun a ha zr89=>?_;subst zr89
    exact q.2 (Es S.2 (hm a ha) q.1 jT hz▸ha)) o e,by rw [e2 i];exact S.2⟩
theorem JQ (sp:Sp w n f ds (iV w mem::Rs) fun K=>K d (iV w mem'::Rs')) (hm:∀a∈mem,a∈its) (hs:(oO (mem.map (·.1))).Sublist (oO (its.map (·.1)))) (e1:mem'.map (·.1)=mem.map (·.1)) (e2:its'.map (·.1)=its.map (·.1)) (up:(oO (its.map (·.1))).Nodup→∀b∈its',b∈mem'∨(b∈its∧b∉mem))
  (hR:∀R∈Rs',(∀z∈R.F,z∈Fl Rs)∨R.W=R.F):Sp w n f ds (iV w its::Rs) fun K=>K d (iV w its'::Rs'):=
 (yz (ι:=Unit) (d:=fun V=>d) (mem':=fun V=>mem') (its':=fun V=>its') (Rs':=fun V=>Rs') (sp.mono fun K k=>k ()) hm hs (fun V=>e1) (fun V=>e2) (fun V=>up) fun V=>hR).mono fun K k V=>k
theorem Ov {ι:Type} {d:ι→D} {p':ι→ah} {Rs':ι→List HP} (sp:Sp w n f ds (eJ w a p::Rs) fun K=>∀i,K (d i) (eJ w a (p' i)::Rs' i)) (hj:its[j]? =some (a,p)) (hR:∀i,∀R∈Rs' i,(∀z∈R.F,z∈Fl Rs)∨R.W=R.F):Sp w n f ds (iV w its::Rs) fun K=>∀i,K (d i) (iV w (its.set j (a,p' i))::Rs' i):=
 have hin:=List.mem_of_getElem? hj
 yz (mem':=fun i=>[(a,p' i)]) sp (gz hin) (show (a.pl++ []).Sublist (oO (its.map fun b:af=>b.1)) by rw [List.append_nil];exact List.sublist_flatten_of_mem (List.mem_map.mpr (a9 a (List.mem_map.mpr (a9 _ hin rfl)) rfl))) (fun V=>rfl) (fun V=>qE hj) (fun k nd b hb=>by
  refine cQ (List.getElem?_of_mem hb) fun i hi=>?_
  rw [List.getElem?_set] at hi
  by_cases q:j=i
  ·rw [if_pos q] at hi
   split at hi
   ·exact .inl (Option.some.inj hi▸ .head _)
   ·cases hi
  ·rw [if_neg q] at hi
   refine .inr ⟨List.mem_of_getElem? hi,fun z=>q ?_⟩
   rw [List.mem_singleton.mp z] at hi
   exact vU nd (pq rfl hj) (pq rfl hi) (z:=a.x) (.head _) (.head _)) hR
end
noncomputable abbrev jS (w:World) (c:EC) (nu:List (ag×Int)):HP:=⟨[c.nd],[c.C,c.dC,c.nd],fun h=>uP w h c.C c.dC c.nd c.sys c.most nu∧(c.nd==sysModules)=false,qO.andP,fun V h=>List.mem_singleton.mp h▸uO⟩
variable {q:EC} {g:ag}
section
variable {KK:Type} [DecidableEq KK] {en:tx KK} {kds:List (KK×D)} {v:Int}
theorem OT (e1:Xp c env L Ps e (.ref l)) (O:Hs Ps fun h=>cM w en h l kds∧(l==sysModules)=false):DL c env L Ps e (kds.map fun x=>en.enc x.1):=fun s m p=>II c.r.h p.a (e1 _ m p) (O _ p.S).2 (O _ p.S).1.dks mN
theorem NG (e1:Xp c env L Ps e (.ref l)) (O:Hs Ps fun h=>cM w en h l kds∧(l==sysModules)=false) (hz:kds.length≤1000) (hx:autoParam (dY env "list"=true) aR) (hs:autoParam (ns e=true) aR):Xl c env L Ps (.Call (.Name "list" p1) [e] [] pos) (kds.map fun x=>en.enc x.1):=fun h0 m p s ha=>
 fC (s:=s) ha p.p p.v.g p.v.b (I6 _) boot_list (fun t=>bS (R0:=fun v h1=>Sub s.heap h1∧RD h1 v (.ref l)) (e1 h0 m p (sh s s.heap t) ha) (fun v h1 z t1=>by
  cases z.2
  have k1:=ha.sub.trans z.1
  exact (Fm (s:=sh s h1 t1) c.r.h (O h0 p.S).2 (by rwa [List.length_map]) ((O h0 p.S).1.sub k1).dks).mono fun v h2=>aM fun k2 a e2 L2 n2=>fA (z.1.trans k2) a e2 L2 (aS n2 z.1)) (aQ hs)) (by decide) p.v.k (bN hx).1 (by decide) (aQ hs) (by rfl)
theorem Rm.room {A:Around} (r:Rm n A):(bU w aH).room A.in1:=kQ (by have:=r.u;exact this) lr
theorem GV (h:aX nu g=none):Hj (qx nu) g (.int v)=qx (nu++ [(g,v)]):=by
 delta Hj
 rw [j7,h,if_neg (by decide),qx,qx,List.map_append];rfl
theorem EB {j:Nat} {nu':List (ag×Int)} {h':Heap} (X:St w E env m L Ps h) (hP:Ps[j]? =some (jS w q nu)) (kp:cv [q.nd] h h') (t:bl h h') (H:cM w aH h' q.nd (qx nu')):St w E env m L (Ps.set j (jS w q nu')) h':=
 have N:=X.f.S _ (List.mem_of_getElem? hP)
 X.upd (Q:=jS w q nu') hP kp t ⟨⟨N.1.o.mo t (fun o e=>kp _ _ (fun z=>N.1.ap.1 (List.mem_singleton.mp z)) e) (fun o e=>kp _ _ (fun z=>N.1.ap.2 (List.mem_singleton.mp z)) e),H,N.1.ap⟩,N.2⟩ (fun V=>.inl) fun V=>.inl
theorem MO (j:Nat) (hP:Ps[j]? =some (jS w q nu)) (he:Xp c env L Ps e (.int v)) (ho:Xp c env L Ps o (.ref q.nd)) (hi:Xp c env L Ps i (bx g)) (hz:nu.length≤500) (hn:aX nu g=none) (k:Tr c env L (Ps.set j (jS w q (nu++ [(g,v)]))) rest J) (hs:autoParam (sm e=true) aR):Tr c env L Ps (.Assign [.Subscript o i p1] e pos::rest) J:=fun s h t m X Q E q=>by
 refine wpAny_execs_cons (wpAny_Assign_Subscript (he h m X.pst (sh s h t) X.a _ _ fun v h1 t1=>av fun k1 r1=>?_) (qd hs))
 refine ho h m X.pst (sh s h1 t1) (X.a.step k1) _ _ fun ov h2 t2=>av fun k2 r2=>hi h m X.pst (sh s h2 t2) (X.a.step (k1.trans k2)) _ _ fun iv h3 t3=>av fun k3 r3=>?_
 cases r2
 refine cQ (aH.ref r3) fun a zr90=>?_;subst zr90
 have Y:=X.sub ((k1.trans k2).trans k3)
 have N:=(Y.f.S _ (List.mem_of_getElem? hP)).1.n
 refine ar N.ex fun xs Z e1 r=>?_
 refine wpAny_setItem_heap (knd:=bU w aH) c.r.room r3 Z (fun h4 Y' hs'=>?_) (bR (k:=2000) (by
  have:=congrArg List.length e1
  rw [List.length_map,List.length_map,qx,List.length_map] at this
  rw [this];exact Nat.le_trans hz lr))
 have t4:=N.tsub hs'
 exact k s h4 _ m (EB Y hP (SameBut.kp hs') t4 (GV hn▸yH e1 (r.mono t4) ((r1.mono (k2.trans k3).t).mono t4) Y')) Q E q
theorem Ln (j:Nat) {nu':List (ag×Int)} (hP:Ps[j]? =some (jS w q nu)) (ho:Xp c env L Ps o (.ref q.nd)) (hi:Xp c env L Ps i (bx g)) (hz:nu.length≤500) (hl:aX nu g=some v) (hd:((qx nu).map (·.1)).Nodup→rL (qx nu) g=qx nu') (k:Tr c env L (Ps.set j (jS w q nu')) rest J) (hm:autoParam (qa o [i] p1 pos=true) aR):Tr c env L Ps (.Expr (.Call (.Attribute o "pop" p1) [i] [] pos) p2::rest) J:=fun s h t m X=>by
 have hn:=fD hm
 have ha:fu (qx nu) g=some (.int v):=by rw [j7,hl];rfl
 refine j5 (iy PySem.F.slot_dict_pop PySem.F.type_dict_pop PySem.F.plainAttrs_dict ((ho h m X.pst (sh s h t) X.a).mono fun u h1=>av fun k1 r1=>?_) (aQ hn.1) (by rfl) (rU hm)) (by rw [interactive,X.v.k];rfl) rfl
 cases r1
 have X1:=X.sub k1
 refine cQ ((X1.f.S _ (List.mem_of_getElem? hP)).1.n.obj (s:=sh s h1 t)) fun ob b=>?_
 refine ⟨(fZ _ ob rfl b),fun t1=>bS ((hi h m X.pst (sh s h1 t1) (X.a.step k1)).mono fun v2 h2 q=>(q:Sub h1 h2∧RD h2 v2 (bx g))) (fun v2 h2=>av fun k2 r2 t2=>?_) (aQ hn.1)⟩
 refine cQ (aH.ref r2) fun a zr91=>?_;subst zr91
 have X2:=X1.sub k2
 have N:=(X2.f.S _ (List.mem_of_getElem? hP)).1.n
 refine (Fz (s:=sh s h2 t2) c.r N r2 (by rw [ha];rfl) (by rw [qx,List.length_map];exact Nat.le_trans hz lr)).mono fun u h3=>iA fun k3 t3 H ru=>⟨fun b z=>?_,fun t4=>k s h3 t4 m (EB X2 hP k3 t3 (hd N.nodup▸H))⟩
 rw [ha] at ru
 subst z;cases ru
theorem IH (Inv:Nat→(LL→List HP→Prop)→Prop) (k0:Nat) (i0:∀K,Inv k0 K→K L0 Ps) (turn:∀k,Inv k fun L Ps=>∃b,Xu c env L Ps e b∧(b=true→Tr c env L Ps body ⟨J.ret,fun L Ps=>∃k' <k,N7 (Inv k') L Ps,fun V V=>False⟩)∧(b=false→Tr c env L Ps rest J)) (hl:autoParam (iJ L0 L) aR):Tr c env L Ps (.While e body [] pos::rest) J:=fun s h t m X=>
 Dj (RN:=fun h=>∃m L Ps,Tr c env L Ps rest J∧St w c.E env m L Ps h) (fun k h=>∃m L Ps,N7 (Inv k) L Ps∧St w c.E env m L Ps h) k0 (yM m L Ps (a9 L0 hl i0) X) (fun k h t=>mU fun m L Ps zz27 X=>ab zz27 fun L1 sl k1=>
  let ⟨b,q1,q2,q3⟩:=k1 _ (turn k)
  have X:=X.loc fun x d e=>sl.look e
  (q1 h m X.pst (sh s h t) X.a).mono fun b2 h2=>av fun k2 e2=>e2▸⟨fun e t2=>(q2 e s h2 t2 m (X.sub k2)).mono fun fl h3 z=>match fl,z with
   | .next,⟨m,L,Ps,⟨k',hk,il⟩,Y⟩=>⟨k',hk,m,L,Ps,il,Y⟩
   | .ret v,z=>z,fun e=>yM m L1 Ps (q3 e) (X.sub k2)⟩) fun h t=>mU fun m L Ps k X=>k s h t m X
end
theorem tj (j:Nat) (hP:autoParam (Ps[j]? =some (jS w q nu)) aR):Hs Ps (jS w q nu).S:=hs j hP
theorem H9 (j:Nat) (ha:a∈its) (hP:autoParam (Ps[j]? =some (iV w its)) aR):Hs Ps (PO w a.1 a.2):=(hs j hP).mp fun V S=>S.1 a ha
theorem ug (O:Hs Ps (jS w q nu).S) (hl:L.lookup nm=some (.ref q.C)) (hm:autoParam (bT env nm=true) aR):Xp c env L Ps (.Attribute (.Name nm px) "numbers" pos) (.ref q.nd):=bB (aa hl hm) (O.mp fun V S=>S.1.o) (by kernel_rfl) rfl
theorem Qq (O:Hs Ps (jS w q nu).S) (hl:L.lookup nm=some (.ref q.C)) (hm:autoParam (bT env nm=true) aR):DL c env L Ps (.Attribute (.Name nm px) "numbers" pos) (nu.map fun x=>bx x.1):=by
 have:DL c env L Ps (.Attribute (.Name nm px) "numbers" pos) _:=OT (en:=aH) (ug O hl hm) (O.mp fun V S=>⟨S.1.n,S.2⟩)
 rwa [qx,List.map_map] at this
theorem Qm (O:Hs Ps (jS w q nu).S) (hz:nu.length≤500) (hl:L.lookup nm=some (.ref q.C)) (hm:autoParam (bT env nm=true) aR) (hx:autoParam (dY env "list"=true) aR):Xl c env L Ps (.Call (.Name "list" p1) [.Attribute (.Name nm px) "numbers" p2] [] pos) (nu.map fun x=>bx x.1):=by
 have:=NG (en:=aH) (pos:=pos) (p1:=p1) (ug (pos:=p2) (px:=px) (c:=c) O hl hm) (O.mp fun V S=>⟨S.1.n,S.2⟩) (by rw [qx,List.length_map];exact Nat.le_trans hz lr) hx
 rwa [qx,List.map_map] at this
theorem wY (hz:nu.length≤500):Sp w 1 354 [.ref q.C,bx g] [jS w q nu] fun K=>K (.int (bb nu g).2) [jS w q (bb nu g).1]:=by
 refine bf ["self","group"] (fun P=>lX P) fun c l K k=>gp ((tj 0).mp fun V S=>S.1.n.nodup) fun nd=>?_
 have gt:∀{nu:List (ag×Int)} {i:Int},aX nu g=some i→fu (qx nu) g=some (.int i):=fun h=>by rw [j7,h];rfl
 refine cZ (iq (aa rfl) (ug (tj 0) rfl) (tj 0) fun h S=>xT (c:=aH) (k:=g) c.r S.1.n S.2) (fun e=>?_) fun e=>bM ?_
 ·have e0:aX nu g=none:=by
   rw [j7] at e
   cases z:aX nu g with
   |none=>rfl
   |some i=>rw [z] at e;cases e
  rw [eL e0] at k
  refine kT (pc (its:=nu) (f:=fun x=>.int x.2) [("self",.ref q.C)] (Qq (tj 0) rfl) (fun a ha C=>lI (en:=aH) (key:=a.1) (ug (tj 0) rfl) (aa rfl) ((tj 0).mp fun V S=>S.1.n) (by rw [j7,uF nd ha];rfl)) (Nat.le_trans hz lr)) (fun a=>?_)
  rw [show nu.map (fun x=>D.int x.2)=(nu.map (·.2)).map D.int from (List.map_map ..).symm]
  refine gw aj (IH (L0:=[("number",.int 1),("used",.ref a),("self",.ref q.C),("group",bx g)]) (fun k K=>∀i,bH (nu.map (·.2)) k i=bH (nu.map (·.2)) nu.length 1→K [("number",.int i),("used",.ref a),("self",.ref q.C),("group",bx g)] [aq a ((nu.map (·.2)).map D.int),jS w q nu]) nu.length (fun K k=>k 1 rfl) fun kk i hf=>cb _ (iq (aa rfl) (aa rfl) (hs 0) fun h S=>gV c.r S dX rfl) (fun e=>?_) (fun e=>?_))
  ·rw [vR] at e
   have hin:=of_decide_eq_true e
   cases kk with
   |zero=>exact absurd hin (by rw [show i=bH (nu.map (·.2)) nu.length 1 from hf];exact ik _ _ _ (by rw [List.length_map];exact Nat.le_refl _))
   |succ kk=>exact gw (b7 (aa rfl) aj fun V=>e9) (cT ⟨kk,Nat.lt_succ_self _,_,rfl,fun K k=>k (i+1) (by rw [←hf,bH,if_pos hin])⟩)
  ·rw [vR] at e
   have hin:=of_decide_eq_false e
   have ei:i=bH (nu.map (·.2)) nu.length 1:=by
    rw [←hf]
    cases kk with
    |zero=>rfl
    |succ kk=>rw [bH,if_neg hin]
   rw [←ei] at k
   refine MO 1 rfl (aa rfl) (ug (tj 1) rfl) (aa rfl) hz e0 (bM (cq [1] (bz (lI (en:=aH) (key:=g) (ug (tj 0) rfl) (aa rfl) ((tj 0).mp fun V S=>S.1.n) (gt ?_)) k)))
   delta aX at e0 ⊢
   rw [List.lookup_append,e0];simp
 ·cases z:aX nu g with
  |none=>rw [j7,z] at e;cases e
  |some i=>
   rw [eQ z] at k
   exact bz (lI (en:=aH) (key:=g) (ug (tj 0) rfl) (aa rfl) ((tj 0).mp fun V S=>S.1.n) (gt z)) k
theorem ua (hz:nu.length≤500) (h3:its.length≤100):Sp w 6 359 [.ref q.C,.ref l] [jS w q nu,iV w its,(aq l (its.map ba)).ro] fun K=>K .none [jS w q (iM nu (its.map (·.2))),iV w its,(aq l (its.map ba)).ro]:=by
 refine bf ["self","ports"] jW fun c lo K k=>?_
 have h4:its.length≤1000:=Nat.le_trans h3 lr
 refine kT (pc (f:=fun a=>c5 a.2.bundle) [] (sG (aa rfl) (hs 2 (P:=(aq l (its.map ba)).ro))) (fun a ha C=>bP (H9 1 ha) (aa rfl) rfl) h4) (fun hd=>?_)
 refine kT (NZ (f:=fun a=>bx a.2.group) (p:=fun a=>a.2.isUp) [] (sG (aa rfl) (hs 3 (P:=(aq l (its.map ba)).ro))) (fun a ha C=>⟨dA (A9 (H9 2 ha) (aa rfl)),fun V=>q6 (H9 2 ha) (aa rfl) fun h P S=>tE c.r P S⟩) h4) (fun gd=>?_)
 have eD:its.map (fun a:af=>c5 a.2.bundle)=((its.map (·.2)).map ah.bundle).map c5:=by rw [List.map_map,List.map_map];rfl
 have eG:(its.filter fun a=>a.2.isUp).map (fun a:af=>bx a.2.group)=(((its.map (·.2)).filter ah.isUp).map ah.group).map bx:=by rw [List.filter_map,List.map_map,List.map_map];rfl
 rw [eD,eG]
 generalize hB:(its.map (·.2)).map ah.bundle=bs
 generalize hG:((its.map (·.2)).filter ah.isUp).map ah.group=gs
 have hD:jg (its.map (·.2))=fun x=>gs.contains x.1||bs.contains (some x.2):=by delta jg;rw [hB,hG]
 rw [qA,hD] at k
 refine c8 (Nd (Qm (tj 2) hz rfl) (yW (L0:=[("self",.ref q.C),("held",.ref hd),("groups",.ref gd)]) (fun i K=>K [("self",.ref q.C),("held",.ref hd),("groups",.ref gd)] [aq gd (gs.map bx),aq hd (bs.map c5),jS w q (dR (fun x:ag×Int=>gs.contains x.1||bs.contains (some x.2)) i nu),iV w its,(aq l (its.map ba)).ro]) (fun K k=>k) (fun c' i a ha=>?_) ?_))
 ·refine gp ((tj 2).mp fun V S=>S.1.n.nodup) fun nd=>?_
  have hl:=uF nd (zF ha)
  have hz2:(dR (fun x:ag×Int=>gs.contains x.1||bs.contains (some x.2)) i nu).length≤500:=by
   delta dR
   have h1:=List.length_filter_le (fun x:ag×Int=>gs.contains x.1||bs.contains (some x.2)) (nu.take i)
   rw [List.length_append,List.length_drop]
   rw [List.length_take] at h1
   have:=(List.getElem?_eq_some_iff.mp ha).1
   omega
  refine cZ (fB (iq (aa rfl) (aa rfl) (hs 0) fun h S=>ie c'.r S vY rfl) fun V=>g0 (iq (lI (en:=aH) (key:=a.1) (ug (tj 2) rfl) (aa rfl) ((tj 2).mp fun V S=>S.1.n) (by rw [j7,hl];rfl)) (aa rfl) (hs 1) fun h S=>ie c'.r S sN rfl)) (fun e=>?_) fun e=>bM (b9 (L0:=[("self",.ref q.C),("held",.ref hd),("groups",.ref gd)]) (fun K k=>?_) rfl)
  ·rw [uB,B5,Bool.and_eq_true,Bool.not_eq_true',Bool.not_eq_true'] at e
   exact Ln 2 rfl (ug (tj 2) rfl) (aa rfl) hz2 hl (zT ha (by rw [e.1,e.2];rfl)) (bM (b9 (L0:=[("self",.ref q.C),("held",.ref hd),("groups",.ref gd)]) (fun K k=>k) rfl))
  ·rw [uB,B5] at e
   rwa [x9 ha (by revert e;cases gs.contains a.1<;>cases bs.contains (some a.2)<;>exact fun h=>by first |rfl |cases h)] at k
 ·rw [Am]
  exact cq [2,3,4] (cT k)
noncomputable abbrev aV:HP:=⟨[368],[368,4],fun h=>Di h,Bm,fun z h=>List.mem_singleton.mp h▸ .head _⟩
noncomputable abbrev qo (l:Addr) (ds:List D):HP:=(aq l ds).ro
variable {op:CmpOp}
section
variable {v:Int}
theorem Qa (k:J.ct L Ps):Tr c env L Ps (.Continue pos::rest) J:=fun s h t m X Q E q=>wpAny_execs_cons (wpAny_Continue (q .cont h t (yM m L Ps k X)))
theorem LB (a:Xp c env L Ps e1 d1) (b:Xp c env L Ps e2 d2) (O:Hs Ps S) (hc:∀h,cA w h→S h→iD w c.A h op d1 d2 b1) (hs:autoParam (sm e2=true) aR):Xu c env L Ps (.Compare e1 [op] [e2] pos) b1:=fun h m p=>qG (a h m p) (b h m p) (hc h p.p (O h p.S)) (me hs)
noncomputable abbrev Wk (w:World) (q:EC) (nu:List (ag×Int)) (its:List af) (l:Addr):List HP:=[aV,jS w q nu,iV w its,qo l (its.map ba)]
theorem Dm (h3:its.length≤3) (hm:0≤q.most):Sp w 8 373 [.ref q.C,.ref l] (Wk w q nu its l) fun K=>∀a,K (.ref a) (aq a ((dN q.sys q.most its).map ba)::Wk w q nu its l):=by
 refine bf ["self","ports"] pk fun c L K k=>kW fun s h t m X=>?_
 have hlen:(az (its.map fun a=>nz q.sys a.2) its).length≤3:=by rw [dW h3];exact h3
 refine zm (k:=q.most.toNat) (ds:=(az (its.map fun a=>nz q.sys a.2) its).map ba) (by rw [List.length_map];exact Nat.le_trans hlen lr) ?_ (fun V V=>rfl)
 refine tU X.a X.f.pin rfl rfl fun t2=>(aa (c:=c) rfl rfl h m X.pst (sh s h t2) X.a).mono fun v h2 z=>?_
 cases z.2
 refine a9 _ rfl (fun t3=>?_)
 have X2:=X.sub z.1
 refine (zJ (s:=sh s h2 t3) (x:=(Str.ofString "self",L+1)) (r:=[]) X2.f.pin (X2.f.S aV (.head _)) rfl rfl (by rfl) (by rfl) (by rfl)).mono fun v h3'=>jk fun f c' ct pm e1 k3 tt3 T3 ho hc hn=>?_
 subst e1
 refine a9 _ rfl (fun t4=>?_)
 have X3:St w c.E _ m _ (Wk w q nu its l) h3':=X2.upd (k:=0) (P:=aV) (Q:=aV) rfl k3 tt3 T3 (fun V=>.inl) fun V=>.inl
 have O:uP w h3' q.C q.dC q.nd q.sys q.most nu:=(X3.f.S (jS w q nu) jT).1
 have Pp:lQ w h3' its:=(X3.f.S (iV w its) uO).1
 have ll:cN h3' l (its.map ba):=X3.f.S (qo l (its.map ba)) M1
 refine ab (X3.l "self" (.ref q.C) rfl) fun u hu ru=>?_
 obtain rfl:=ib ru
 have hself:h3'.IsCell (L+1) (some (.ref q.C)):=(show m.c "self"=some (.ref q.C) from hu)▸X3.a.cs (Str.ofString "self") (L+1) (by rfl)
 refine (zu (s:=sh s h3' t4) (kds:=its.map fun a:af=>nz q.sys a.2) (ds:=its.map ba) (c.r.le (m:=2) (by decide)).u50 (vW ll (by rw [List.length_map];exact Nat.le_trans h3 lr)) yu (by simp) (by simpa using h3) (fun j d k hd hk=>?_)).mono fun v h5=>aM fun k5 a e5 L5 n5=>?_
 ·refine ab (td hd) fun a ha zr92=>?_;subst zr92
  refine ab (td hk) fun a' ha' zr93=>?_;subst zr93
  rw [ha] at ha'
  obtain rfl:=Option.some.inj ha'
  have Pa:=Pp a (List.mem_of_getElem? ha)
  refine CT (n:=5) (c:=fun V=>some (.ref q.C)) (x1:=Str.ofString "port") c.r.in2 X3.f.pin ho hc (fun v=>by rfl) (by rfl) (fun m b e=>?_) fun A2 s2 g2 h6 v6 L6 t6 R2 kg kh rv at6 P6=>?_
  ·refine (fN e).elim (fun q=>q.2▸hself) fun q=>noA q.2
  ·have Pg:=Pa.sub kg
   have OCg:=O.o.sub kg
   have rl:∀pos,Ev w A2 (envX GD sF L6 f (.ref c') [(Str.ofString "self",L+1)]) g2 ⟨fun y=>[(Str.ofString "port",v6)].reverse.lookup y,fun V=>some (.ref q.C)⟩ (.Name (Str.ofString "port") pos) (.ref a.1.x):=fun pos=>cw (by rfl) rv
   have rs:∀pos,Ev w A2 (envX GD sF L6 f (.ref c') [(Str.ofString "self",L+1)]) g2 ⟨fun y=>[(Str.ofString "port",v6)].reverse.lookup y,fun V=>some (.ref q.C)⟩ (.Name (Str.ofString "self") pos) (.ref q.C):=fun pos=>HS (v:=.ref q.C) (c:=L+1) (by rfl) (.ref q.C) (by rfl)
   refine bg.mono (R:=fun v h'=>Sub h6 h'∧RD h' v (nz q.sys a.2)) ?_ fun v h'=>av fun k r=>⟨kh.trans k,r⟩
   refine (?_:Ev w A2 (envX GD sF L6 f (.ref c') [(Str.ofString "self",L+1)]) g2 ⟨fun y=>[(Str.ofString "port",v6)].reverse.lookup y,fun V=>some (.ref q.C)⟩ _ (nz q.sys a.2)) (sh s2 h6 t6) at6
   exact yc (ds:=[aw (PL.rank q.sys a.2),.int a.2.row.number]) (dF (Bu P6 (rs _) OCg (by kernel_rfl) rfl (dF (rl _) gC) (J4 (a:=a.1) R2 P6 OCg Pg)) (dF (vz P6 (vz P6 (rl _) Pg.o (by kernel_rfl) rfl) Pg.r (by kernel_rfl) rfl) gC))
 ·subst e5
  refine cb a rfl (by rw [←eV ba h3];exact L5) (fun t6=>?_)
  have X5:=X3.sub k5
  rw [Int.toNat_of_nonneg hm]
  refine (bB (aa (c:=c) rfl rfl) ((tj (Ps:=Wk w q nu its l) (w:=w) (q:=q) (nu:=nu) 1 rfl).mp fun V S=>S.1.o) (by kernel_rfl) rfl rfl h5 m X5.pst (sh s h5 t6) X5.a).mono fun v6 h6 z2=>⟨z2.1,z2.2,fun h7 D7 k7 L7 n7=>?_⟩
  have k57:=z2.1.trans k7
  have n3:h3'.get? D7=none:=aS n7 (k5.trans z2.1)
  have nn:∀z∈(aq D7 ((dN q.sys q.most its).map ba)).F,h3'.get? z=none:=fun z hz=>List.mem_singleton.mp hz▸n3
  exact dm (.ref D7) _ (k D7) (.ref D7) (X3.push (Q:=aq D7 ((dN q.sys q.most its).map ba)) (k5.trans k57) (by rw [show (dN q.sys q.most its).map ba=((az (its.map fun a=>nz q.sys a.2) its).map ba).take q.most.toNat by delta dN;rw [List.map_take]];exact L7) nn) ((jO.sub z.1).trans (jO.trans ⟨tt3,k3.more fun b hb=>et (P:=aV) (.head _) hb,fun V=>.inl,fun V=>.inl⟩ (.push (k5.trans k57) nn)))
end
section
variable {ch:List af} {num:Int}
theorem xw {α:Type} {l:List α} {i:Nat} {a:α} (h:l[i]? =some a):l.set i a=l:=by
 obtain ⟨h1,h2⟩:=List.getElem?_eq_some_iff.mp h
 rw [←h2,List.set_getElem_self]
theorem AD {α:Type} {l:List α} {i:Nat} {a b:α} (h:l[i]? =some a):(l.set i b)[i]? =some b:=by rw [List.getElem?_set,if_pos rfl,if_pos (List.getElem?_eq_some_iff.mp h).1]
theorem Ds (e:(a.2.choice== .un&&a.2.mux != .det)=true):c9 num ch a=a:=by
 delta c9 bc
 rw [if_pos e]
theorem AR (e:(a.2.choice== .un&&a.2.mux != .det)=false):c9 num ch a=(a.1,wC (wB a.2 (some num)) (if pW ch a then .sel else .stb)):=by
 delta c9 bc
 rw [if_neg (nT e)];rfl
theorem CA (hz:nu.length≤500) (h3:its.length≤3) (hm:0≤q.most):Sp w 9 385 [.ref q.C,bx g,.ref l] [iV w its,qo l (its.map ba),jS w q nu,aV] fun K=>K .none [iV w (its.map (c9 (bb nu g).2 (dN q.sys q.most its))),qo l (its.map ba),jS w q (bb nu g).1,aV]:=by
 refine bf ["self","group","ports"] ph fun c lo K k=>?_
 refine mJ (ij (aa rfl) ((tj 2).mp fun V S=>S.1.o) (ae (aa rfl) aC) (by kernel_rfl) rfl (zy [2] [0,1,3] (wY hz) (ij (aa rfl) ((tj 0).mp fun V S=>S.1.o) (ae (aa rfl) aC) (by kernel_rfl) rfl (zy [3,0,1,2] [] (Dm (nu:=(bb nu g).1) h3 hm) fun b=>?_))))
 have hw:=tu (its:=its) (sys:=q.sys) (most:=q.most) h3
 generalize (bb nu g).2=num at k
 generalize (bb nu g).1=nu' at k
 generalize dN q.sys q.most its=ch at k hw
 refine c8 (xO 4 (aa rfl) (hs 4 (P:=qo l (its.map ba))) (yW (L0:=[("number",.int num),("chosen",.ref b)]) (fun i K=>K [("number",.int num),("chosen",.ref b)] [aq b (ch.map ba),aV,jS w q nu',iV w (bY (c9 num ch) i its),qo l (its.map ba)]) (fun K k=>k) (fun c' i a ha=>?_) (by rw [gD];exact cq [3,4,2,1] (cT k))))
 have hj:=kI (f:=c9 num ch) ha
 have O:=H9 (w:=w) (Ps:=[aq b (ch.map ba),aV,jS w q nu',iV w (bY (c9 num ch) i its),qo l (its.map ba)]) 3 (List.mem_of_getElem? hj)
 refine cZ (fB (bF (bP O (aa rfl) rfl) (bu (x:=ai.s .un)) fun h=>gO c'.r _ _) fun V=>g0 (bF (bP O (aa rfl) rfl) (bu (x:=eR.s .det)) fun h=>An c'.r _ _)) (fun e=>Qa (a9 [("number",.int num),("chosen",.ref b)] rfl (fun K k=>?_))) fun e=>bM ?_
 ·rwa [eW ha,Ds e,xw hj] at k
 ·have hj2:=AD (b:=(a.1,wB a.2 (some num))) hj
  have cm:∀h,cA w h→lQ w h ((bY (c9 num ch) i its).set i (a.1,wB a.2 (some num)))∧cN h b (ch.map ba)→iD w c'.A h .In (.ref a.1.x) (.ref b) (pW ch a):=fun h P S=>by
   refine wO (as:=ch.map (·.1.x)) c'.r P (by have:=S.2;rwa [show ch.map ba=(ch.map (·.1.x)).map D.ref by rw [List.map_map];rfl] at this) (J9 _ _ ((S.1 _ (List.mem_of_getElem? hj2)).o)) fun z hz=>?_
   refine ab (List.mem_map.mp hz) fun y hy zr94=>?_;subst zr94
   have e6:((bY (c9 num ch) i its).set i (a.1,wB a.2 (some num))).map (·.1)=its.map (·.1):=(qE hj).trans (C9 (f:=c9 num ch) fun V=>rfl)
   refine ab (List.mem_map.mp (show y.1∈((bY (c9 num ch) i its).set i (a.1,wB a.2 (some num))).map (·.1) from e6▸List.mem_map_of_mem (hw y hy))) fun u hu eu=>?_
   have:=S.1 u hu
   rw [eu] at this
   exact J9 _ _ this.o
  refine vH 3 rfl hj (aa rfl) (aa rfl) (p':=wB a.2 (some num)) (vH 3 rfl hj2 (aa rfl) (d:=.str (ai.s (if pW ch a then .sel else .stb))) (p':=wC (wB a.2 (some num)) (if pW ch a then .sel else .stb)) (o5 (b:=pW ch a) (LB (aa rfl) (aa rfl) (fun h S=>⟨(S _ M1).1,S _ (.head _)⟩) cm) (fun e=>by rw [e];exact bu) fun e=>by rw [e];exact bu) (b9 (L0:=[("number",.int num),("chosen",.ref b)]) (fun K k=>?_) rfl))
  rw [eW ha,AR e] at k
  show K _ [_,_,_,iV w (((bY (c9 num ch) i its).set i _).set i _),_]
  rwa [List.set_set]
end
section
variable {Qs':List HP} {B:HP}
theorem Fi.perm (X:Fi w E Qs h) (p:Qs.Perm Qs'):Fi w E Qs' h:=⟨X.fr,X.ew,X.kp,X.tt,fun P q=>X.S P (p.mem_iff.mpr q),(p.pairwise_iff fun a=>a.symm).mp X.sep,fun P q=>X.ext P (p.mem_iff.mpr q)⟩
theorem Sp.post (sp:Sp w n f ds Pre fun K=>K d Qs) (p:Qs.Perm Qs'):Sp w n f ds Pre fun K=>K d Qs':=fun A r K q s vs rs fr st sep=>(sp A r (fun d' Q=>d'=d∧Q=Qs) ⟨rfl,rfl⟩ s vs rs fr st sep).mono fun v h'=>eX fun d' Q zz28 rd X=>bC zz28 fun e1 e2=>⟨d,Qs',q,e1▸rd,Fi.perm (e2▸X) p⟩
theorem yT (e:Rs'.map (·.F)=Rs.map (·.F)):∀R∈Rs',(∀z∈R.F,z∈Fl Rs)∨R.W=R.F:=fun R hR=>.inl fun z hz=>by
 refine ab (List.mem_map.mp (e▸List.mem_map_of_mem (f:=fun P:HP=>P.F) hR:R.F∈Rs.map (·.F))) fun P hP eP=>?_
 exact bV hP (by rw [eP];exact hz)
theorem Kv (sp:Sp w n f ds (P.ro::Rs) fun K=>K d (P.ro::Rs')) (h1:∀h,B.S h→P.S h) (hF:∀z∈P.F,z∈B.F) (hR:∀R∈Rs',(∀z∈R.F,z∈Fl Rs)∨R.W=R.F):Sp w n f ds (B::Rs) fun K=>K d (B::Rs'):=
 (Sp.lens (ι:=Unit) (As:=[P.ro]) (As':=fun V=>[P.ro]) (d:=fun V=>d) (Rs':=fun V=>Rs') (B':=fun V=>B) (sp.mono fun K k=>k ()) (fun h S=>⟨gz (h1 h S),List.pairwise_singleton ..⟩) (fun z hz=>noM (Nt.mp hz)) (fun z hz=>hF z (PF.mp hz)) (fun V=>rfl) (fun V=>rfl) (fun V=>hR) fun V h h' S t k V=>B.fr.mo h h' S t fun z hz o e=>k z hz (fun q=>noM (Nt.mp q)) o e).mono fun K k V=>k
end
variable {gd:Addr}
section
variable {es:List (ag×Addr×List D)} {KK:Type} [DecidableEq KK] {en:tx KK} {kds:List (KK×D)} {key:KK}
theorem Lr (ho:Xp c env L Ps o (.ref l)) (hi:Xp c env L Ps i (en.enc key)) (O:Hs Ps fun h=>cM w en h l kds∧(l==sysModules)=false) (hm:autoParam (qa o [i] p1 pos=true) aR):Xp c env L Ps (.Call (.Attribute o "get" p1) [i] [] pos) ((fu kds key).getD .none):=fun h m p=>H8 c.r (ho h m p) (hi h m p) (O h p.S).1 (O h p.S).2 (aQ (fD hm).1) (rU hm)
theorem N6 (h1:Xl c env L Ps e1 ds1) (h2:Xp c env L Ps e2 (.ref l)) (O:Hs Ps fun h=>cN h l ds2) (f1:D.flats 9 ds1=true) (f2:D.flats 9 ds2=true) (hs:autoParam (sm e2=true) aR):Xp c env L Ps (.Compare e1 [.NotEq] [e2] pos) (.bool (!lp ds1 ds2)):=fun h m p=>GQ c.r (h1 h m p) (h2 h m p) (O h p.S) f1 f2 (me hs)
theorem Mm (hg:(bZ nu its)[k]? =some gq) {a:af} (hs:sorted? nu a.2=some gq):fK q.sys q.most nu its (k+1) a=c9 (eC nu its gq) (dN q.sys q.most (jM nu its gq)) a:=by
 unfold fK c9
 rw [hs]
 dsimp only
 rw [if_pos (List.contains_iff_mem.mpr (by rw [List.take_add_one,hg];simp))]
theorem JP (hg:(bZ nu its)[k]? =some gq) {a:af} (hs:¬ sorted? nu a.2=some gq):fK q.sys q.most nu its (k+1) a=fK q.sys q.most nu its k a:=by
 unfold fK
 cases hz:sorted? nu a.2 with
 |none=>rfl
 |some g'=>
  dsimp only
  rw [show ((bZ nu its).take (k+1)).contains g'=((bZ nu its).take k).contains g' from by
   rw [Bool.eq_iff_iff,List.contains_iff_mem,List.contains_iff_mem,List.take_add_one,hg,List.mem_append]
   exact ⟨fun h=>h.elim id fun h=>absurd (by rw [hz,List.mem_singleton.mp h]) hs,.inl⟩]
theorem Mx (hg:(bZ nu its)[k]? =some gq) (h3:its.length≤3):∀a∈jM nu its gq,fK q.sys q.most nu its k a=a:=fun a ha=>by
 unfold fK
 rw [(qQ a ha).2]
 dsimp only
 rw [if_neg (fun q=>CV (yV h3) hg (List.contains_iff_mem.mp q))]
theorem E7 {e0:ag×Addr×List D} (hg:(bZ nu its)[k]? =some gq) (h3:its.length≤3) (hz:nu.length≤400) (hm:0≤q.most) (he0:e0∈es) (el0:e0.2.2=(jM nu its gq).map ba):
  Sp w 9 385 [.ref q.C,bx gq,.ref e0.2.1] [e8 w aH gd es,iV w (its.map (fK q.sys q.most nu its k)),jS w q (gM nu ((bZ nu its).take k)),aV] fun K=>K .none [e8 w aH gd es,iV w (its.map (fK q.sys q.most nu its (k+1))),jS w q (gM nu ((bZ nu its).take (k+1))),aV]:=by
 have hsz:(gM nu ((bZ nu its).take k)).length≤500:=by
  have:=rS (ks:=(bZ nu its).take k) (ns:=nu)
  have:=uz (ns:=nu) h3
  rw [List.length_take] at*
  lia
 have hmem:=Mx (q:=q) hg h3
 have b:=CA (w:=w) (g:=gq) (l:=e0.2.1) hsz (Nat.le_trans (List.length_filter_le ..) h3:(jM nu its gq).length≤3) hm
 rw [Lz hg,←Dp hg] at b
 have e2:(its.map (fK q.sys q.most nu its (k+1))).map (·.1)=(its.map (fK q.sys q.most nu its k)).map (·.1):=vd.trans vd.symm
 have b2:=JQ (its:=its.map (fK q.sys q.most nu its k)) (its':=its.map (fK q.sys q.most nu its (k+1))) b (fun a ha=>List.mem_map.mpr ⟨a,(qQ a ha).1,hmem a ha⟩) (by rw [vd];exact HX) (by rw [List.map_map];rfl) e2 (fun nd b hb=>?_) (yT rfl)
 ·rw [←el0] at b2
  exact (Kv (B:=e8 w aH gd es) (P:=aq e0.2.1 e0.2.2) ((b2.perm (.swap ..)).post (.swap ..)) (fun h S=>S.1.ls e0 he0) (fun z hz=>List.mem_singleton.mp hz▸ .tail _ (List.mem_map_of_mem (f:=fun e:ag×Addr×List D=>e.2.1) he0)) (yT (congrArg (· ::_) (xI e2).2)))
 ·refine ab (List.mem_map.mp hb) fun a ha zr95=>?_;subst zr95
  by_cases hs:sorted? nu a.2=some gq
  ·rw [Mm hg hs]
   exact .inl (List.mem_map_of_mem (List.mem_filter.mpr ⟨ha,decide_eq_true hs⟩))
  ·rw [JP hg hs]
   refine .inr ⟨List.mem_map_of_mem ha,fun z=>hs ?_⟩
   rw [vd] at nd
   have:=Es nd ha (qQ _ z).1 (z:=a.1.x) (.head _) (.head _)
   rw [this]
   exact (qQ _ z).2
end
section
variable {db lo:Addr} {es:List (ag×Addr×List D)} {i:Nat}
noncomputable abbrev yn (q:EC) (l gd db:Addr):LL:=[("groups",.ref gd),("before",.ref db),("self",.ref q.C),("ports",.ref l)]
noncomputable abbrev vo (lo:Nat):Env:=callEnvC (cJ (dS 46 5) "Chooser.choose" .none (.str "switchloom.lacp_select" 659) (.ref 377)) lo 378
noncomputable abbrev HQ (w:World) (q:EC) (nu:List (ag×Int)) (its0 its:List af) (l gd db:Addr) (es:List (ag×Addr×List D)):List HP:=[e8 w aH gd es,aq db (its0.map iF),jS w q nu,iV w its,aV,qo l (its0.map ba)]
theorem Fw (h:sorted? nu a.2=some gq):nE nu a=a:=by delta nE kY;rw [h]
theorem Hy (h:sorted? nu a.2=none):nE nu a=(a.1,wC a.2 .un):=by delta nE kY;rw [h];rfl
theorem JD {c:Cx w 11} (h3:its.length≤3) (q1:∀es,mS nu its es→Tr c (vo lo) (yn q l gd db) (HQ w q nu its (its.map (nE nu)) l gd db es) rest J):Tr c (vo lo) (yn q l gd db) (HQ w q nu its its l gd db []) ((cu (dS 46 5)).getD 2 (.Pass ⟨0,0,0,0⟩)::rest) J:=by
 refine c8 (xO 5 (aa rfl) (hs 5 (P:=qo l (its.map ba))) (yW (L0:=yn q l gd db) (fun i K=>∀es,mS nu (its.take i) es→K (yn q l gd db) (HQ w q nu its (bY (nE nu) i its) l gd db es)) (fun K k=>k [] rfl) (fun c' i a ha es rel=>?_) fun es rel=>?_))
 ·have hj:=kI (f:=nE nu) ha
  have htk:its.take (i+1)=its.take i++ [a]:=by rw [List.take_add_one,ha];rfl
  have O:=H9 (w:=w) (Ps:=HQ w q nu its (bY (nE nu) i its) l gd db es) 3 (List.mem_of_getElem? hj)
  have un:∀{J':Po} {p1 p2 p3 p4:Pos},sorted? nu a.2=none→(Tr c' (vo lo) (("port",ba a)::yn q l gd db) (HQ w q nu its (bY (nE nu) (i+1) its) l gd db es) [] J')→Tr c' (vo lo) (("port",ba a)::yn q l gd db) (HQ w q nu its (bY (nE nu) i its) l gd db es) [.Assign [.Attribute (.Name "port" p1) "choice" p2] (.Constant (.str "unselected") 0 p3) p4] J':=fun hs k=>
   vH 3 rfl hj (aa rfl) bu (p':=wC a.2 .un) (by rw [eW ha,Hy hs] at k;exact k)
  have gF:sorted? nu a.2=none→Tr c' (vo lo) (("port",ba a)::yn q l gd db) (HQ w q nu its (bY (nE nu) (i+1) its) l gd db es) [] (Lu J fun K=>∀es,mS nu (its.take (i+1)) es→K (yn q l gd db) (HQ w q nu its (bY (nE nu) (i+1) its) l gd db es)):=fun hs=>b9 (L0:=yn q l gd db) (fun K k=>k es (by
   delta mS at rel ⊢
   rw [htk,oR]
   delta DZ
   rw [hs];exact rel)) rfl
  refine cZ (fY (dA (A9 O (aa rfl)))) (fun e=>?_) fun e=>?_
  ·have hs:sorted? nu a.2=none:=if_pos e
   exact un hs (bM (gF hs))
  ·refine cZ (b:=a.2.bundle.isSome&&(aX nu a.2.group !=a.2.bundle)) (fB (b1:=a.2.bundle.isSome) (bF (d1:=c5 a.2.bundle) (bP O (aa rfl) rfl) gh fun h=>by rw [show a.2.bundle.isSome= !(c5 a.2.bundle).isNone by cases a.2.bundle<;>rfl];exact fU) fun V=>g0 (bF (Lr (en:=aH) (key:=a.2.group) (ug (tj 2) rfl) (q6 O (aa rfl) fun h P S=>tE c'.r P S) ((tj 2).mp fun V S=>⟨S.1.n,S.2⟩)) (bP O (aa rfl) rfl) fun h=>by rw [N9];exact zY c'.r _ _)) (fun e2=>?_) fun e2=>?_
   ·have hs:sorted? nu a.2=none:=(if_neg (nT e)).trans (if_pos e2)
    exact un hs (bM (bM (gF hs)))
   ·have hs:sorted? nu a.2=some a.2.group:=(if_neg (nT e)).trans (if_neg (nT e2))
    have rl:=Jh rel
    have ht:(its.take i).length≤500:=by rw [List.length_take];exact Nh h3 lr
    refine GB 0 rfl (aa rfl) (q6 O (aa rfl) fun h P S=>tE c'.r P S) rfl (Nat.le_trans rl.1 ht) (fun e he=>Nat.le_trans (rl.2 e he) ht) fun y=>bM (bM (b9 (L0:=yn q l gd db) (fun K k=>?_) rfl))
    have:=k (v9 (mY es a.2.group y) a.2.group (ba a)) (by
     delta mS at rel ⊢
     rw [htk,oR]
     delta DZ
     rw [hs]
     exact Mn rel)
    rwa [eW ha,Fw hs,xw hj] at this
 ·have:=q1 es (by rwa [List.take_length] at rel)
  rwa [gD]
theorem OI {KK:Type} [DecidableEq KK] {es:List (KK×Addr×List D)} {x:KK×Addr×List D} (nd:(es.map (·.1)).Nodup) (hx:x∈es):fu (es.map fun e=>(e.1,D.ref e.2.1)) x.1=some (.ref x.2.1):=by
 rw [qK]
 cases hf:es.find? fun e=>e.1=x.1 with
 |none=>
  have:=List.find?_eq_none.mp hf x hx
  simp at this
 |some y=>
  have h1:y.1=x.1:=by simpa using List.find?_some hf
  have h2:=List.mem_of_find?_eq_some hf
  rw [lJ nd h2 hx h1];rfl
theorem Dr {c:Cx w 11} (h3:its.length≤3) (hz:nu.length≤400) (hm:0≤q.most) (rel:mS nu its es) (k:Tr c (vo lo) (yn q l gd db) [e8 w aH gd es,aq db (its.map iF),jS w q (gM nu (bZ nu its)),iV w (aY q.sys q.most nu its),aV,qo l (its.map ba)] rest J):Tr c (vo lo) (yn q l gd db) (HQ w q nu its (its.map (nE nu)) l gd db es) ((cu (dS 46 5)).getD 3 (.Pass ⟨0,0,0,0⟩)::rest) J:=by
 have hkeys:es.map (fun e=>bx e.1)=((iB nu its).map (·.1)).map bx:=by
  have:=congrArg (List.map fun x:ag×List D=>bx x.1) rel
  rw [List.map_map,List.map_map] at this
  rw [List.map_map];exact this
 have hkl:((iB nu its).map (·.1)).length≤3:=by rw [List.length_map];exact Nat.le_trans fT.len h3
 have e0:(es.map fun e=>(e.1,D.ref e.2.1)).map (fun x=>aH.enc x.1)=((iB nu its).map (·.1)).map bx:=by rw [List.map_map];exact hkeys
 have hl:∀{Rs:List HP} {p1 p2 pos:Pos},Xl c (vo lo) (yn q l gd db) (e8 w aH gd es::Rs) (.Call (.Name "sorted" p1) [.Name "groups" p2] [] pos) ((bZ nu its).map bx):=fun {Rs p1 p2 pos}=>by
  have:=Ed (c:=c) (en:=aH) (kds:=es.map fun e=>(e.1,D.ref e.2.1)) (p1:=p1) (pos:=pos) (by rfl) (aa (env:=vo lo) (L:=yn q l gd db) (Ps:=e8 w aH gd es::Rs) (x:="groups") (pos:=p2) rfl rfl) ((hs 0 (P:=e8 w aH gd es)).mp fun V S=>⟨S.1.d,S.2⟩) (by rw [e0];exact ub) (by have:=congrArg List.length e0;rw [List.length_map,List.length_map,List.length_map] at this;rw [List.length_map,this];exact hkl)
  rwa [e0,eV bx hkl] at this
 refine c8 (Nd hl (yW (L0:=yn q l gd db) (fun k K=>K (yn q l gd db) [e8 w aH gd es,aq db (its.map iF),jS w q (gM nu ((bZ nu its).take k)),iV w (its.map (fK q.sys q.most nu its k)),aV,qo l (its.map ba)]) (fun K k=>?_) (fun c' i gq hg=>?_) (by rw [List.take_length,MY h3];exact k)))
 ·rwa [show fK q.sys q.most nu its 0=nE nu from funext fun a=>Jp] at k
 ·refine gp ((hs 0 (P:=e8 w aH gd es)).mp fun V S=>S.1.d.nodup) fun nk=>?_
  rw [List.map_map] at nk
  refine ab (List.mem_map.mp ((pb h3).mp (List.mem_of_getElem? hg))) fun ge hge zr88=>?_;subst zr88
  refine ab (List.mem_map.mp (rel▸List.mem_map_of_mem (f:=fun e:ag×List af=>(e.1,e.2.map ba)) hge:(ge.1,ge.2.map ba)∈es.map fun e=>(e.1,e.2.2))) fun e0 he0 ez=>?_
  refine bC (Prod.mk.inj ez) fun ek0 el0=>?_
  rw [fT.mem ge hge] at el0
  have hd:=OI nk he0
  rw [ek0] at hd
  exact De (ij (aa rfl) ((tj 2).mp fun V S=>S.1.o) (ae (aa rfl) (ae (lI (en:=aH) (key:=ge.1) (aa rfl) (aa rfl) ((hs 0 (P:=e8 w aH gd es)).mp fun V S=>S.1.d) hd) aC)) (by kernel_rfl) rfl (zy [0,3,2,4] [1,5] (E7 hg h3 hz hm he0 el0) ⟨rfl,cq [0,4,2,1,3,5] (b9 (L0:=yn q l gd db) (fun K k=>k) rfl)⟩))
theorem Hl {e:Expr} {d:D} {p0:Pos} (ks:List Nat) (e1:Xp c env L Ps e d) (k:J.ret d (sel ks Ps)) (nd:autoParam (ks.Nodup) aD):Tr c env L Ps (.Return (some e) p0::rest) J:=fun s h t m X=>ou ((e1 h m X.pst (sh s h t) X.a).mono fun v h1=>av fun k1 r=>⟨d,_,k,r,((X.sub k1).sel nd).f⟩)
theorem C3 (hz:nu.length≤400) (h3:its.length≤3) (hm:0≤q.most):Sp w 12 378 [.ref q.C,.ref l] [jS w q nu,iV w its,aV,qo l (its.map ba)] fun K=>K (.bool (d4 q.sys q.most nu its)) [jS w q (cK q.sys q.most nu its),iV w (aY q.sys q.most nu its),aV,qo l (its.map ba)]:=by
 refine bf ["self","ports"] oQ fun c lo K k=>?_
 have h4:its.length≤1000:=Nat.le_trans h3 lr
 have hpr:(aY q.sys q.most nu its).map ba=its.map ba:=by unfold aY;rw [List.map_map];rfl
 have hl:(aY q.sys q.most nu its).length=its.length:=by unfold aY;rw [List.length_map]
 have hz5:(gM nu (bZ nu its)).length≤500:=by
  have:=rS (ks:=bZ nu its) (ns:=nu)
  have:=uz (ns:=nu) h3
  omega
 refine kT (pc (f:=iF) [] (sG (aa rfl) (hs 3 (P:=qo l (its.map ba)))) (fun a ha C=>gU (ds:=[.str (ai.s a.2.choice),c5 a.2.bundle]) (ae (bP (H9 1 ha) (aa rfl) rfl) (ae (bP (H9 1 ha) (aa rfl) rfl) aC))) h4) (fun db=>xR (Fb (en:=aH) fun gd=>JD h3 fun es rel=>Dr h3 hz hm rel ?_))
 have sp:=ua (w:=w) (q:=q) (l:=l) hz5 (its:=aY q.sys q.most nu its) (by rw [hl];exact Nat.le_trans h3 (by decide))
 rw [hpr] at sp
 refine De (ij (aa rfl) ((tj 2).mp fun V S=>S.1.o) (ae (aa rfl) aC) (by kernel_rfl) rfl (zy [2,3,5] [0,1,4] sp ⟨rfl,?_⟩))
 refine Hl [0,1,5,2] (N6 (ds1:=(aY q.sys q.most nu its).map iF) (ds2:=its.map iF) (iY (pc (g:=ba) [] (sG (aa rfl) (by rw [hpr];exact hs 2 (P:=qo l (its.map ba)))) (fun a ha C=>gU (ds:=[.str (ai.s a.2.choice),c5 a.2.bundle]) (ae (bP (H9 1 ha) (aa rfl) rfl) (ae (bP (H9 1 ha) (aa rfl) rfl) aC))) (by rw [hl];exact h4))) (aa rfl) (hs 4 (P:=aq db (its.map iF))) mG mG) ?_
 rw [x8]
 exact k
end
structure oE (w:World) (h:Heap) (b:BC) (its:List af) (ns:List (ag×Int)):Prop where
 num:uP w h b.c.C b.c.dC b.c.nd b.c.sys b.c.most ns
 ps:lQ w h its
 o:Ob w h b.B 488 b.dB (Np b)
 d:nh (intKind pw w) h b.pd (qv its)
 ok:gy b its
noncomputable def HB (b:BC) (its:List af):List Addr:=[b.c.C,b.c.dC,b.c.nd]++(qZ its++ [b.B,b.dB,b.pd])
theorem MR {w:World} {b:BC} {its:List af} {ns:List (ag×Int)}:ng (HB b its) fun h=>oE w h b its ns:=by
 have f:=(qO (w:=w) (C:=b.c.C) (dC:=b.c.dC) (nd:=b.c.nd) (sys:=b.c.sys) (most:=b.c.most) (ns:=ns)).and ((r7 (w:=w) (its:=its)).and ((jd (w:=w) (x:=b.B) (C:=488) (dx:=b.dB) (fs:=Np b)).and (jD (knd:=intKind pw w) (a:=b.pd) (kds:=qv its))))
 exact ⟨fun h h' x t k=>df (f.mo h h' ⟨x.num,x.ps,x.o,x.d⟩ t k) fun a b c d=>⟨a,b,c,d,x.ok⟩,fun h x=>f.ex h ⟨x.num,x.ps,x.o,x.d⟩⟩
noncomputable abbrev cD (w:World) (b:BC) (its:List af) (ns:List (ag×Int)):HP:=⟨b.c.nd::dxs its,HB b its,fun h=>oE w h b its ns,MR,BP (mL uO) fun z hz=>mR (mL (wg z hz))⟩
section
variable {b:BC} {ns:List (ag×Int)} {a:PA} {ι:Type} {d:ι→D} {Rs' Qs:ι→List HP}
theorem ax.ps {its its':List af} (f:ax its its'):qZ its'=qZ its:=by rw [mz,mz,f.pas]
theorem Sp.frame (P:HP) (sp:Sp w n f ds Pre fun K=>∀i,K (d i) (Qs i)):Sp w n f ds (P::Pre) fun K=>∀i,K (d i) (P::Qs i):=fun A r K q s vs rs fr st sep=>
 have pp:(P::Pre).Perm (Pre++ [P]):=(List.perm_append_singleton P Pre).symm
 have st2:=fun Q hQ=>st Q (.tail _ hQ)
 (sp A r (fun d' Q=>∃i,d'=d i∧Q=Qs i) (fun i=>⟨i,rfl,rfl⟩) s vs rs (fr.less fun z hz=>(cf hz).elim fun Q q=>et (.tail _ q.1) q.2) st2 (List.pairwise_cons.mp sep).2).mono fun v h'=>dT fun d' Q i e1 e2 rd X=>⟨d i,_,q i,e1▸rd,Fi.perm (Fi.call (Pre:=Pre) (Rs:=[P]) (Fi.perm (Fi.start fr st sep) pp) X (fun V h=>h) fun V h=>h) (e2▸(List.perm_append_singleton P (Qs i)))⟩
theorem yK (ok:gy b its):(oO (its.map (·.1))).Nodup∧(∀z∈ [b.c.C,b.c.dC,b.c.nd],z∉qZ its)∧∀z∈ [b.B,b.dB,b.pd],z≠b.c.nd∧z∉qZ its:=by
 refine cB (List.nodup_append.mp (show (EF b.c (its.map (·.1))++ [b.B,b.dB,b.pd]).Nodup from ok.nd)) fun n1 V n3=>?_
 refine cB (List.nodup_append.mp (show ([368,4,b.c.C,b.c.dC,b.c.nd]++oO (its.map (·.1))).Nodup from n1)) fun V m2 m3=>?_
 rw [mz]
 exact ⟨m2,fun z hz q=>m3 z (.tail _ (.tail _ hz)) z q rfl,fun z hz=>⟨fun e=>n3 b.c.nd (mL PY) z hz e.symm,fun q=>n3 z (mR q) z hz rfl⟩⟩
theorem F9 {its':ι→List af} {ns':ι→List (ag×Int)} (sp:Sp w n f ds ([jS w b.c ns,iV w its]++Rs) fun K=>∀i,K (d i) ([jS w b.c (ns' i),iV w (its' i)]++Rs' i)) (fr:∀i,ax its (its' i)) (hR:∀i,∀R∈Rs' i,(∀z∈R.F,z∈Fl Rs)∨R.W=R.F):Sp w n f ds (cD w b its ns::Rs) fun K=>∀i,K (d i) (cD w b (its' i) (ns' i)::Rs' i):=by
 have w2:∀{z},z∈Wl [jS w b.c ns,iV w its]→z=b.c.nd∨z∈dxs its:=fun q=>by
  refine ab (cf q) fun P a c=>?_
  rcases Cv a with rfl |rfl
  ·exact .inl (List.mem_singleton.mp c)
  ·exact .inr c
 refine Sp.lens (As:=[jS w b.c ns,iV w its]) (As':=fun i=>[jS w b.c (ns' i),iV w (its' i)]) (B':=fun i=>cD w b (its' i) (ns' i)) sp (fun h (S:oE w h b its ns)=>?_) (fun z q=>(w2 q).elim (fun e=>e▸ .head _) (.tail _)) (fun z q=>?_) (fun i=>?_) (fun i=>?_) hR fun i h h' (S:oE w h b its ns) t k O=>?_
 ·refine cB (yK S.ok) fun a1 a2 V=>?_
  exact ⟨DO ⟨S.num,S.ok.lo⟩ ⟨S.ps,a1⟩,List.pairwise_cons.mpr ⟨gz ⟨fun z hz q=>a2 z (List.mem_singleton.mp hz▸uO) q,fun z hz q=>a2 z q (wg z hz)⟩,List.pairwise_singleton ..⟩⟩
 ·refine ab (dh q) fun P a c=>?_
  rcases Cv a with rfl |rfl
  ·exact mL c
  ·exact mR (mL c)
 ·show (b.c.nd::dxs (its' i),HB b (its' i))=(b.c.nd::dxs its,HB b its)
  rw [HB,HB,(fr i).ps,(fr i).dxs]
 ·show [b.c.C,b.c.dC,b.c.nd]++(qZ (its' i)++ [])= [b.c.C,b.c.dC,b.c.nd]++(qZ its++ [])
  rw [(fr i).ps]
 ·refine cB (yK S.ok) fun V V a3=>?_
  have off:∀z∈ [b.B,b.dB,b.pd],∀o,h.get? z=some o→h'.get? z=some o:=fun z hz=>k z (mR (mR hz)) fun q=>(w2 q).elim (a3 z hz).1 fun q=>(a3 z hz).2 (wg z q)
  exact ⟨(O _ (.head _)).1,(O _ jT).1,S.o.mo t (off _ (.head _)) (off _ jT),(fr i).pd▸jD.mo h h' S.d t fun z hz=>List.mem_singleton.mp hz▸off b.pd uO,S.ok.fr (fr i)⟩
theorem E8 {p':ι→ah} (sp:Sp w n f ds (eJ w a p::Rs) fun K=>∀i,K (d i) (eJ w a (p' i)::Rs' i)) (hj:its[j]? =some (a,p)) (hr:∀i,(p' i).row=p.row) (hR:∀i,∀R∈Rs' i,(∀z∈R.F,z∈Fl Rs)∨R.W=R.F):Sp w n f ds (cD w b its ns::Rs) fun K=>∀i,K (d i) (cD w b (its.set j (a,p' i)) ns::Rs' i):=
 F9 (ns':=fun V=>ns) (Sp.frame (jS w b.c ns) (Ov sp hj hR)) (fun i=>i4 hj (hr i)) hR
theorem s9 {p':ah} {d:D} (sp:Sp w n f ds (eJ w a p::Rs) fun K=>K d (eJ w a p'::Rs)) (hj:its[j]? =some (a,p)) (hr:p'.row=p.row):Sp w n f ds (cD w b its ns::Rs) fun K=>K d (cD w b (its.set j (a,p')) ns::Rs):=
 (E8 (ι:=Unit) (d:=fun V=>d) (p':=fun V=>p') (Rs':=fun V=>Rs) (sp.mono fun K k=>k ()) hj (fun V=>hr) (fun V=>yT rfl)).mono fun K k V=>k
end
section
variable {K:D→List HP→Prop} {b:BC} {lo:Addr} {ei e':EI}
theorem oE.bat (x:oE w h b its nu) (t:Di h):CP w h b its nu:=⟨⟨t,x.num,x.ps⟩,x.o,x.d⟩
theorem xq (j:Nat) (hP:autoParam (Ps[j]? =some (cD w b its nu)) aR):Hs Ps fun h=>oE w h b its nu:=hs j hP
theorem Dg (i j:Nat) (h1:autoParam (Ps[i]? =some aV) aR) (h2:autoParam (Ps[j]? =some (cD w b its nu)) aR):Hs Ps fun h=>CP w h b its nu∧gy b its:=fun h S=>
 have B:=S _ (List.mem_of_getElem? h2)
 ⟨B.bat (S aV (List.mem_of_getElem? h1)),B.ok⟩
theorem KZ (q:Xp c env L Ps e (.ref l)) (O:Hs Ps fun h=>cN h l ds) (hz:ds.length≤1000) (hx:autoParam (dY env "len"=true) aR) (hs:autoParam (ns e=true) aR):Xp c env L Ps (.Call (.Name "len" p1) [e] [] pos) (.int ds.length):=fun h m p=>Ls c.r.h p.p p.v.g p.v.b (q h m p) (O h p.S) hz p.v.k (bN hx).1 (aQ hs)
theorem PQ (q1:Xe c env L Ps e1 fun d Qs=>∃b,d= .bool b∧(b=true→K (.bool true) Qs)∧(b=false→Xe c env L Qs e2 K)):Xe c env L Ps (.BoolOp .Or [e1,e2] pos) K:=fun s h t m X=>IB ((q1 s h t m X).mono fun v h1=>ak fun d Qs zz26 r Y G=>ar zz26 fun b e k1 k2=>⟨b,by subst e;cases r;rfl,by
 cases b with
 |true=>exact ⟨_,Qs,k1 rfl,.bool true,Y,G⟩
 |false=>exact fun t1=>(k2 rfl s h1 t1 m Y).mono fun v h2=>ak fun d2 Q2 k r2 Z G2=>⟨d2,Q2,k,r2,Z,G.trans G2⟩⟩)
theorem z6 (O:Hs Ps fun h=>CP w h b its nu∧gy b its) (ha:a∈its) (hl:L.lookup nm=some (.ref b.B)) (q:Xp c env L Ps e (.int a.2.row.number)) (hn:autoParam (Nat.ble 2 n=true) aR) (hm:autoParam (qa (.Name nm px) [e] p1 pos=true) aR) (hk:autoParam (bT env nm=true) aR):Xp c env L Ps (.Call (.Attribute (.Name nm px) "port" p1) [e] [] pos) (.ref a.1.x):=
 oY (aa hl hk) (O.mp fun V S=>S.1.o) (ae q aC (fD hm).1) (by kernel_rfl) rfl O (fun V P S=>BQ c.r P S.1 S.2.lo2 (lO S.2.asc) ha hn) hm
theorem vM (O:Hs Ps fun h=>CP w h b its nu∧gy b its) (hl:L.lookup nm=some (.ref b.B)) (hn:autoParam (Nat.ble 4 n=true) aR) (hm:autoParam (qa (.Name nm px) [] p1 pos=true) aR) (hk:autoParam (bT env nm=true) aR):Xl c env L Ps (.Call (.Attribute (.Name nm px) "all_ports" p1) [] [] pos) (its.map ba):=
 Bx (aa hl hk) (O.mp fun V S=>S.1.o) (by kernel_rfl) rfl O (fun V P S=>nM c.r P S.1 S.2.lo2 S.2.h3 S.2.asc hn) hm
noncomputable abbrev KV (b:BC) (l:Addr):LL:=[("ports",.ref l),("self",.ref b.B)]
noncomputable abbrev Rp (w:World) (b:BC) (its:List af) (l:Addr) (e:EI):List HP:=[qo l (its.map ba),aV,cD w b e.its e.ns]
noncomputable abbrev OY (lo:Nat):Env:=callEnvC (cJ (dS 49 3) "Bundles.rest" .none (.str "switchloom.lacp" 740) (.ref 425)) lo 426
theorem AM (hl:ei.ns.length≤400) (hf:ax its ei.its) (ok:gy b its):Sp w 12 378 [.ref b.c.C,.ref l] [cD w b ei.its ei.ns,aV,qo l (its.map ba)] fun K=>K (.bool (d4 b.c.sys b.c.most ei.ns ei.its)) [cD w b (aY b.c.sys b.c.most ei.ns ei.its) (cK b.c.sys b.c.most ei.ns ei.its),aV,qo l (its.map ba)]:=by
 have sp:=C3 (w:=w) (q:=b.c) (l:=l) hl (show ei.its.length≤3 by rw [hf.len];exact ok.h3) ok.hm
 rw [hf.refs] at sp
 exact (F9 (ι:=Unit) (d:=fun V=>.bool (d4 b.c.sys b.c.most ei.ns ei.its)) (its':=fun V=>aY b.c.sys b.c.most ei.ns ei.its) (ns':=fun V=>cK b.c.sys b.c.most ei.ns ei.its) (Rs':=fun V=>[aV,qo l (its.map ba)]) (sp.mono fun K k=>k ()) (fun V=>mw) fun V=>yT rfl).mono fun K k V=>k
theorem DI {c:Cx w 15} {d:D} (hl:ei.ns.length≤400) (hf:ax its ei.its) (ok:gy b its) (k0:h9 b.c.sys b.c.most ei=false→J.ret .none [aV,cD w b (bA b.c.sys b.c.most ei).its (bA b.c.sys b.c.most ei).ns]) (k1:h9 b.c.sys b.c.most ei=true→∀u,Tr c (OY lo) (("is_changed",u)::("turn",d)::KV b l) (Rp w b its l (bA b.c.sys b.c.most ei)) [] J):
  Tr c (OY lo) (("turn",d)::KV b l) (Rp w b its l ei) (qM ((cu (dS 49 3)).getD 1 (.Pass ⟨0,0,0,0⟩))) J:=by
 refine xR (ij (bB (aa rfl) ((xq 2).mp fun V S=>S.o) (by kernel_rfl) rfl) ((xq 2).mp fun V S=>S.num.o) (ae (aa rfl) aC) (by kernel_rfl) rfl (zy [2,1,0] [] (AM hl hf ok) ?_))
 delta h9 bA at k0 k1
 dsimp only at k0 k1
 have hf1:ax its (aY b.c.sys b.c.most ei.ns ei.its):=hf.trans mw
 generalize aY b.c.sys b.c.most ei.ns ei.its=it1 at k0 k1 hf1
 generalize cK b.c.sys b.c.most ei.ns ei.its=ns1 at k0 k1
 generalize d4 b.c.sys b.c.most ei.ns ei.its=c0 at k0 k1
 refine c8 (xO 2 (aa rfl) (hs 2 (P:=qo l (its.map ba))) (yW (L0:=("is_changed",.bool c0)::("turn",d)::KV b l) (fun j K=>K (("is_changed",.bool (ud c0 it1 j))::("turn",d)::KV b l) [cD w b (cC it1 j) ns1,aV,qo l (its.map ba)]) (fun K k=>k) (fun c' j a ha=>?_) ?_))
 ·have hfj:ax its (cC it1 j):=hf1.trans pN
  obtain ⟨a',ha',ea⟩:∃a',(cC it1 j)[j]? =some a'∧a'.1=a.1:=by
   have:=congrArg (fun l:List PA=>l[j]?) hfj.pas
   simp only [List.getElem?_map,ha,Option.map_some] at this
   exact Option.map_eq_some_iff.mp this
  have hone:cC it1 (j+1)=(cC it1 j).set j (a'.1,bW a'.2 (cx ((cC it1 j).map (·.2)) a'.2.bundle)):=by
   show jc (cC it1 j) j=_
   unfold jc
   rw [ha']
  have hch:ud c0 it1 (j+1)=(steps a'.2 (cx ((cC it1 j).map (·.2)) a'.2.bundle)||ud c0 it1 j):=by
   show (yA (cC it1 j) j||_)=_
   unfold yA
   rw [ha']
  have O:Hs [cD w b (cC it1 j) ns1,aV,qo l (its.map ba)] (PO w a'.1 a'.2):=(xq 0).mp fun V S=>S.ps a' (List.mem_of_getElem? ha')
  have e1:ba a= .ref a'.1.x:=by rw [ea];rfl
  rw [e1]
  refine xR (PQ (bw (z9 _) (by kernel_rfl) (AN (ae (aa rfl) (ae (gJ (ae (aa rfl) (ae (bP O (aa rfl) rfl) aC)) (tK _) (by kernel_rfl) (S:=fun h=>cN h l ((cC it1 j).map ba)∧lQ w h (cC it1 j)) (fun h S=>⟨hfj.refs▸S (qo l (its.map ba)) uO,(S _ (.head _)).ps⟩) fun h P S=>rI c'.r P S.1 (by rw [hfj.len];exact Nat.le_trans ok.h3 (by decide)) S.2) aC)) (gg (Rs:=[aV,qo l (its.map ba)]) (Pre:=[cD w b (cC it1 j) ns1]) (s9 yB ha' xt) ⟨_,rfl,fun e=>?_,fun e=>zw (aa rfl) ?_⟩))))
  all_goals refine b9 (L0:=("is_changed",.bool (ud c0 it1 (j+1)))::("turn",d)::KV b l) (fun K k=>?_) (by rw [hch,e];rfl)
  all_goals rwa [hone] at k
 ·rw [←hf1.len]
  refine cZ (fY (dA (aa rfl))) (fun e=>cq [1,0] (sV (k0 ?_))) fun e=>cq [2,1,0] (bM (k1 ?_ _))
  ·simpa using e
  ·simpa using e
theorem DX (hres:jK b.c.sys b.c.most ⟨its,nu⟩=some e'):Sp w 16 426 [.ref b.B] [aV,cD w b its nu] fun K=>K .none [aV,cD w b e'.its e'.ns]:=by
 refine bf ["self"] te fun c lo K q=>gp ((xq 1).mp fun V S=>S.ok) fun ok=>?_
 have hN:12*(its.length+1)≤1000:=by have:=ok.h3;omega
 refine xR (Hu (vM (Dg 0 1) rfl) fun l=>Lq 0 (c8 (g9 (k:=12*(its.length+1)) ?_ ?_ hN)))
 ·rw [show (.int ((12*(its.length+1):Nat):Int):D)= .int ((12:Int)*(((its.map ba).length:Nat)+1)) by rw [List.length_map];congr 1]
  exact b7 (gH (tI _)) (b7 (KZ (aa rfl) (hs 0 (P:=qo l (its.map ba))) (by rw [List.length_map];exact Nat.le_trans ok.h3 lr)) aj fun V=>e9) fun V=>fj (IntMulOk.of_left (by decide+kernel))
 ·refine vZ (L0:=KV b l) (fun i K=>iC b.c.sys b.c.most (12*(its.length+1) - i) (Nr b.c.sys b.c.most ⟨its,nu⟩ i)=some e'→K (KV b l) (Rp w b its l (Nr b.c.sys b.c.most ⟨its,nu⟩ i))) (fun K k=>k hres) (fun c' i hi l3=>?_) fun l3=>by rw [Nat.sub_self] at l3;cases l3
  refine ab (tA hi) fun k0 hk0 hk1=>?_
  rw [hk0] at l3
  unfold iC at l3
  have hlen:(Nr b.c.sys b.c.most ⟨its,nu⟩ i).ns.length≤400:=Nat.le_of_not_lt fun z=>u5 (if_pos z) l3
  rw [if_neg (Nat.not_lt_of_le hlen)] at l3
  refine DI hlen (BH (e:=⟨its,nu⟩) i) ok (fun e=>?_) fun e u=>b9 (L0:=KV b l) (fun K k=>k ?_) rfl
  ·rw [if_neg (nT e)] at l3
   cases l3
   exact q
  ·rw [if_pos e] at l3
   rw [hk1];exact l3
end
variable {ds':List D}
section
variable {K:D→List HP→Prop} {b:BC} {lo:Addr} {e':EI} {Q:(D→List HP→Prop)→Prop}
theorem oy (ks rs:List Nat) (en:nsIn (Mine.K w.params) mainGlobals y=some (some (.ref f))) (q1:Xq c env L Ps (e::r) ds) (sp:Sp w k f ds Pre Q) (q:Q fun d Qs=>nr d=true∧Tr c env L (Qs++sel rs Ps) rest J) (hs:autoParam (sel ks Ps=Pre) aK) (pm:autoParam ((ks++rs).isPerm (List.range Ps.length)=true) aK) (hk:autoParam (keepIn (Mine.K w.params) (.ref f)=true) aK) (hn:autoParam (Nat.ble k n=true) aR) (hy:autoParam (dY env y=true) aR) (h2:autoParam ((e::r).all Mine.ns=true) aR):Tr c env L Ps (.Expr (.Call (.Name y p1) (e::r) [] pos) p2::rest) J:=
 De (bw en hk (AN q1 (zy ks rs sp q hs pm hn)) hy h2)
theorem wh (hl:L.lookup nm=some (.ref b.B)) (hres:jK b.c.sys b.c.most ⟨its,nu⟩=some e') (q:Tr c env L ([aV,cD w b e'.its e'.ns]++Rs) rest J) (hn:autoParam (Nat.ble 16 n=true) aR) (hk:autoParam (bT env nm=true) aR) (hm:autoParam (qa (.Name nm px) [] p1 pos=true) aR):Tr c env L ([aV,cD w b its nu]++Rs) (.Expr (.Call (.Attribute (.Name nm px) "rest" p1) [] [] pos) p2::rest) J:=
 De (w0 (aa hl hk) ((xq 1).mp fun V S=>S.o) (by kernel_rfl) rfl (gg (DX hres) ⟨rfl,q⟩ hn) hm)
theorem Qt (j:Nat) (ha:a∈its) (hP:autoParam (Ps[j]? =some (cD w b its nu)) aR):Hs Ps (PO w a.1 a.2):=(hs j hP).mp fun V S=>S.ps a ha
theorem Al {f:ah→ah} (hj:its[j]? =some a):zx its j f=its.set j (a.1,f a.2):=by delta zx;rw [hj]
theorem O4 (hj:its[j]? =some a) (hres:Hz b.c.sys b.c.most j ⟨its,nu⟩=some e'):Sp w 18 433 [.ref b.B,.int a.2.row.number] [aV,cD w b its nu] fun K=>K .none [aV,cD w b e'.its e'.ns]:=by
 refine bf ["self","number"] nF fun c lo K q=>gw (z6 (Dg 0 1) (List.mem_of_getElem? hj) rfl (aa rfl)) ?_
 unfold Hz at hres
 dsimp only at hres
 rw [hj,Al hj] at hres
 dsimp only at hres
 refine cZ (fY (dA (A9 ((xq 1).mp fun V S=>S.ps a (List.mem_of_getElem? hj)) (aa rfl)))) (fun e=>?_) fun e=>bM ?_
 ·rw [if_neg (by simpa using e)] at hres
  exact oy [1] [0] (oK _) (ae (aa rfl) aC) (s9 (Rs:=[]) md hj uM) ⟨rfl,cq [1,0] (wh (Rs:=[]) rfl hres (bM (cT q)))⟩
 ·rw [if_pos (by simpa using e)] at hres
  cases hres
  exact cT q
theorem Jd (hj:its[j]? =some a) (hres:mh b.c.sys b.c.most j ⟨its,nu⟩=some e'):Sp w 18 440 [.ref b.B,.int a.2.row.number] [aV,cD w b its nu] fun K=>K .none [aV,cD w b e'.its e'.ns]:=by
 refine bf ["self","number"] lT fun c lo K q=>gw (z6 (Dg 0 1) (List.mem_of_getElem? hj) rfl (aa rfl)) ?_
 unfold mh at hres
 dsimp only at hres
 rw [hj,Al hj] at hres
 dsimp only at hres
 refine cZ (dA (A9 ((xq 1).mp fun V S=>S.ps a (List.mem_of_getElem? hj)) (aa rfl))) (fun e=>?_) fun e=>bM ?_
 ·rw [if_pos e] at hres
  exact oy [1] [0] (z4 _) (ae (aa rfl) aC) (s9 (Rs:=[]) xH hj Cu) ⟨rfl,cq [1,0] (wh (Rs:=[]) rfl hres (bM (cT q)))⟩
 ·rw [if_neg (nT e)] at hres
  cases hres
  exact cT q
theorem CR (hres:tP b.c.sys b.c.most ⟨its,nu⟩=some e'):Sp w 18 454 [.ref b.B] [aV,cD w b its nu] fun K=>K .none [aV,cD w b e'.its e'.ns]:=by
 refine bf ["self"] pg fun c lo K q=>?_
 refine c8 (Nd (vM (Dg 0 1) rfl) (yW (L0:=[("self",.ref b.B)]) (fun i K=>K [("self",.ref b.B)] [aV,cD w b (bY Ap i its) nu]) (fun K k=>k) (fun c' i a ha=>?_) (by rw [gD];exact wh (Rs:=[]) rfl hres (cT q))))
 have hj:=kI (f:=Ap) ha
 refine oy [1] [0] (tZ _) (ae (aa rfl) aC) (s9 (b:=b) (ns:=nu) (Rs:=[]) rQ hj yy) ⟨rfl,?_⟩
 refine oy [0] [1] (tG _) (ae (aa rfl) aC) (s9 (b:=b) (ns:=nu) (Rs:=[]) sx (AD (b:=(a.1,b6 a.2)) hj) ze) ⟨rfl,cq [1,0] (b9 (L0:=[("self",.ref b.B)]) (fun K k=>?_) rfl)⟩
 rw [eW ha] at k
 show K _ [aV,cD w b (((bY Ap i its).set i _).set i _) nu]
 rwa [List.set_set]
section
variable {jx:Nat} {j:Expr}
theorem kZ (jx:Nat) (hP:Ps[jx]? =some (aq l ds)) (q1:Xp c env L Ps o (.ref l)) (q2:Xp c env L Ps j d) (hz:ds.length≤1000) (q:ds++ [d]=ds') (k:Tr c env L (Ps.set jx (aq l ds')) rest J) (hm:autoParam (qa o [j] p1 pos=true) aR):Tr c env L Ps (.Expr (.Call (.Attribute o "append" p1) [j] [] pos) p2::rest) J:=
 Bw (ds':=ds') jx PySem.F.slot_list_append PySem.F.type_list_append hP q1 q2 (fun L r=>q▸rm L r hz) k hm
end
noncomputable abbrev AU (w:World) (f:Addr) (es:List SM):HP:=⟨[],f::HE es,fun h=>EG w h f es,Ef,fun V h=>noM h⟩
theorem Aw {es:List SM} {g:Addr} {x:SM} (hx:x∈es) (hj:its[j]? =some a) (hres:l8 b.c.sys b.c.most j x.q ⟨its,nu⟩=some e'):Sp w 18 447 [.ref b.B,.int a.2.row.number,.ref x.y] [aV,cD w b its nu,AU w g es] fun K=>K .none [aV,cD w b e'.its e'.ns,AU w g es]:=by
 refine bf ["self","number","pdu"] oB fun c lo K q=>?_
 delta l8 at hres
 dsimp only at hres
 rw [Al hj] at hres
 have sp:=((s9 (b:=b) (ns:=nu) (Iw (w:=w) (y:=x.y) (dy:=x.dy) (q:=x.q)) hj s7).perm (.swap ..)).post (.swap ..)
 have sp:=Kv (B:=AU w g es) sp (fun h S=>S.s x hx) (fun z hz=>.tail _ (List.mem_flatMap.mpr ⟨x,hx,hz⟩)) (yT (congrArg ([·]) (show HB b (its.set j (a.1,ql a.2 x.q))=HB b its by rw [HB,HB,(i4 hj s7).ps])))
 exact oy [2,1] [0] (L8 _) (ae (z6 (Dg 0 1) (List.mem_of_getElem? hj) rfl (aa rfl)) (ae (aa rfl) aC)) sp ⟨rfl,cq [2,1,0] (wh (Rs:=[AU w g es]) rfl hres (cT q))⟩
noncomputable abbrev Nn (w:World) (es:List SM):HP:=⟨HE es,HE es,fun h=>MW w h es,El,fun V h=>h⟩
theorem Gu {es:List SM} {x:SM}:HE (es++ [x])=HE es++ [x.y,x.dy]:=by delta HE;rw [List.flatMap_append];rfl
theorem NO {es:List SM} {x:SM}:Mg (uh w x.y x.dy x.q) (Nn w es) (Nn w (es++ [x])):=
 have g:∀z∈HE (es++ [x]),z∈ [x.y,x.dy]∨z∈HE es:=fun z q=>(List.mem_append.mp (Gu▸q)).symm
 ⟨fun h V a b=>MZ b (gz a),g,g⟩
set_option tactic.hygienic true in
theorem vE:Sp w 8 461 [.ref b.B] [aV,cD w b its nu] fun K=>∀fa es,es.map (fun e=>(e.num,e.q))=eY its→K (.ref fa) [aV,cD w b (its.map pC) nu,AU w fa es]:=by
 refine bf ["self"] lZ fun c lo K q=>gp ((xq 1).mp fun V S=>S.ok.h3) fun h3=>?_
 refine xR (jZ (cR ⟨Nat.zero_le _,fun fa=>D6 (Nn w []) rfl (fun V V h=>noM h) [0,1,2] ?_⟩))
 refine c8 (Nd (vM (Dg 2 3) rfl) (yW (L0:=[("found",.ref fa),("self",.ref b.B)]) (fun i K=>∀es:List SM,es.map (fun e=>(e.num,e.q))=eY (its.take i)→K [("found",.ref fa),("self",.ref b.B)] [Nn w es,aq fa (es.map LO),aV,cD w b (bY pC i its) nu]) (fun K k=>k [] rfl) (fun c' i a ha es rel=>?_) fun es rel=>?_))
 ·have hj:=kI (f:=pC) ha
  have htk:eY (its.take (i+1))=eY (its.take i)++((cj a.2).2.map fun q=>(a.2.row.number,q)).toList:=by
   delta eY
   rw [List.take_add_one,ha,List.filterMap_append]
   congr 1
  have e2:(bY pC i its).set i (a.1,(cj a.2).1)=bY pC (i+1) its:=by rw [eW ha];rfl
  have sp:=tM (w:=w) (a:=a.1) (p:=a.2)
  have hr:=Ce (p:=a.2)
  generalize cj a.2=r at sp htk e2 hr
  obtain ⟨p',m⟩:=r
  cases m with
  |none=>
   have sp:=s9 (b:=b) (ns:=nu) (Rs:=[]) sp hj hr
   rw [e2] at sp
   refine xR (bw (nK _) (by kernel_rfl) (AN (ae (aa rfl) aC) (zy [3] [0,1,2] sp ?_)))
   exact cZ (bF (aa rfl) gh fun h=>fU) (fun e=>by cases e) fun V=>bM (cq [1,2,3,0] (b9 (L0:=[("found",.ref fa),("self",.ref b.B)]) (fun K k=>k es (by rw [htk,rel];simp)) rfl))
  |some m=>
   have sp:=E8 (ι:=Addr×Addr) (b:=b) (ns:=nu) (d:=fun i=>.ref i.1) (p':=fun V=>p') (Rs:=[]) (Rs':=fun i=>[uh w i.1 i.2 m]) (sp.mono fun K k y dy=>k (y,dy)) hj (fun V=>hr) fun V=>gz (.inr rfl)
   rw [e2] at sp
   refine xR (bw (nK _) (by kernel_rfl) (AN (ae (aa rfl) aC) (zy [3] [0,1,2] sp fun y=>?_)))
   have hes:es.length≤3:=by
    have h1:=congrArg List.length rel
    rw [List.length_map] at h1
    have h2:(eY (its.take i)).length≤(its.take i).length:=List.length_filterMap_le ..
    rw [List.length_take] at h2
    omega
   have hin:(a.1,p')∈bY pC (i+1) its:=e2▸List.mem_of_getElem? (AD hj)
   refine cZ (bF (aa rfl) gh fun h=>fU) (fun V=>?_) fun e=>by cases e
   refine kZ 3 rfl (aa rfl) (gU (ds:=[.int a.2.row.number,.ref y.1]) (ae (bB (bP (Qt 0 hin) (aa rfl) rfl) ((Qt 0 hin).mp fun V S=>S.r) (by kernel_rfl) (by rw [hr];rfl)) (ae (aa rfl) aC))) (by rw [List.length_map];exact Nat.le_trans hes lr) (by rw [List.map_append];rfl) (Dk 1 2 [3,4,0] (NO (x:=⟨a.2.row.number,y.1,y.2,m⟩)) (bM (b9 (L0:=[("found",.ref fa),("self",.ref b.B)]) (fun K k=>k (es++ [⟨a.2.row.number,y.1,y.2,m⟩]) (by rw [htk,List.map_append,rel];rfl)) rfl)))
 ·rw [gD]
  refine tf (AU w fa es) [0,1] [2,3] (Hl [1,2,0] (aa rfl) (q fa es (by rwa [List.take_length] at rel))) (fun h V S=>⟨S (aq fa (es.map LO)) jT,S (Nn w es) (.head _)⟩) (fun z hz=>noM hz) (fun z hz=>(List.mem_cons.mp hz).elim (fun e=>bV (P:=aq fa (es.map LO)) jT (e▸ .head _)) fun q=>bV (P:=Nn w es) (.head _) q) fun k hk hr=>by rcases Cv hk with rfl |rfl<;>cases hr<;>rename_i h<;>cases h<;>rename_i h<;>cases h
end
noncomputable abbrev fQ (a:Addr):HP:=⟨[a],[a],GU a,HI,fun V h=>h⟩
noncomputable abbrev Ja (a:Addr) (ds:List D):HP:=⟨[a],[a],fun h=>i6 h a ds,gW,fun V h=>h⟩
section
variable {K:D→List HP→Prop} {x:Addr} {a b top:Int}
theorem wZ (q:Xp c env L Ps e (.int a)) (hx:autoParam (dY env "int"=true) aR) (hs:autoParam (ns e=true) aR):Xp c env L Ps (.Call (.Name "int" p1) [e] [] pos) (.int a):=fun h m p=>nH p.p p.v.g p.v.b (q h m p) p.v.k (bN hx).1 (aQ hs)
theorem Ma {ι:Type} {P':ι→HP} (j:Nat) (hP:Ps[j]? =some P) (e:∀h,P.S h→∃i,(P' i).S h) (k:∀i,Tr c env L (Ps.set j (P' i)) rest J) (wf:∀i,(P' i).W=P.W∧(P' i).F=P.F:=by intro _;exact ⟨rfl,rfl⟩):Tr c env L Ps rest J:=fun s h t m X=>
 let ⟨i,S⟩:=e h (X.f.S P (List.mem_of_getElem? hP))
 k i s h t m (X.upd (Q:=P' i) hP (fun V V V e=>e) (fun V V V e=>e) S (fun z q=>.inl ((wf i).1▸q)) fun z q=>.inl ((wf i).2▸q))
theorem Hp (j:Nat) (hP:Ps[j]? =some (Ja l ds)) (he:Xp c env L Ps e d) (ho:Xp c env L Ps o (.ref l)) (hi:Xp c env L Ps i (.int (k:Nat))) (q:Tr c env L (Ps.set j (Ja l (ds.set k d))) rest J) (hk:autoParam (k <ds.length) aD) (hz:autoParam (ds.length≤1000) aD) (hs:autoParam (sm e=true) aR):Tr c env L Ps (.Assign [.Subscript o i p1] e pos::rest) J:=fun s h t m X Q E qq=>by
 refine wpAny_execs_cons (wpAny_Assign_Subscript (he h m X.pst (sh s h t) X.a _ _ fun v h1 t1 z1=>?_) (qd hs))
 refine ho h m X.pst (sh s h1 t1) (X.a.step z1.1) _ _ fun ov h2 t2 z2=>hi h m X.pst (sh s h2 t2) (X.a.step (z1.1.trans z2.1)) _ _ fun iv h3 t3 z3=>?_
 cases z2.2
 refine bC z3 fun k3 r3=>?_
 refine EO r3 fun tk ez0=>?_;subst ez0
 have Y:=X.sub ((z1.1.trans z2.1).trans k3)
 have L3:i6 h3 l ds:=Y.f.S _ (List.mem_of_getElem? hP)
 refine ab L3 fun vs il rs=>?_
 have hl:=rs.length
 refine wpAny_setItem_list il (Int.natCast_nonneg ..) (by lia) (by rw [List.size_toArray];lia) fun h4 hl4 hs'=>?_
 have t4:bl h3 h4:=(SameBut.kp hs').t fun b hb=>by rw [List.mem_singleton.mp hb];exact (show i6 h3 l ds from ⟨vs,il,rs⟩).noTup
 exact q s h4 _ m (Y.upd (Q:=Ja l (ds.set k d)) hP (SameBut.kp hs') t4 ⟨vs.set k v,by simpa using hl4,(rs.mono t4).set ((z1.2.mono (z2.1.trans k3).t).mono t4) k⟩ (fun V=>.inl) fun V=>.inl) Q E qq
theorem K4 (he:Xp c env L Ps e (.ref l)) (hi:Xe c env L Ps i fun d Qs=>∃(k:Nat) (u:D),d= .int k∧ds[k]? =some u∧ds.length≤1000∧Hs Qs (fun h=>i6 h l ds)∧K u Qs) (hs:autoParam (sm i=true) aR):Xe c env L Ps (.Subscript e i pos) K:=fun s h t m X Q E q=>by
 refine Subscript_ (he h m X.pst (sh s h t) X.a _ _ fun v1 h1 t1 z1=>hi s h1 t1 m (X.sub z1.1) _ _ fun v2 h2 t2=>ak fun d Qs zz29 r2 Y G=>dJ zz29 fun k u e2 hk hz O kk=>?_)
 cases z1.2
 subst e2
 refine EO r2 fun tk ez0=>?_;subst ez0
 refine ab (O h2 Y.f.S) fun vs il rs=>?_
 refine ab (rs.get hk) fun v hv hr=>?_
 refine tail_any il.typeIs slot_list_getitem.lookup ?_ (mQ hs)
 exact wpAny_getItem_list il (Int.natCast_nonneg ..) (by have:=(List.getElem?_eq_some_iff.mp hk).1;lia) (by simpa using hv) (q v h2 t2 ⟨u,Qs,kk,hr,Y,(jO.sub z1.1).trans G⟩)
theorem eZ (e1:Xp c env L (jH w x C dx fs::Rs) e d) (k:Tr c env L (jH w x C dx (n8 y d fs)::Rs) rest J) (hl:autoParam (L.lookup nm=some (.ref x)) aR) (ok:autoParam (uQ (Mine.K w.params) C y=true) aK) (hz:autoParam (fs.length≤100) aN) (hs:autoParam (sm e=true) aR) (hm:autoParam (bT env nm=true) aR):Tr c env L (jH w x C dx fs::Rs) (.Assign [.Attribute (.Name nm px) y p1] e pos::rest) J:=
 mZ 0 (zw e1 ⟨rfl,aa hl hm,k⟩) ok hz hs
theorem Gv (j:Nat) (Q:HP) (hP:Ps[j]? =some P) (st:∀h,P.S h→Q.S h) (e1:Xp c env L Ps e d) (k:J.ret d (Ps.set j Q)) (wf:Q.W=P.W∧Q.F=P.F:=by exact ⟨rfl,rfl⟩):Tr c env L Ps (.Return (some e) pos::rest) J:=fun s h t m X=>
 ou ((e1 h m X.pst (sh s h t) X.a).mono fun v h1=>av fun k1 r=>
  have Y:=X.sub k1
  ⟨d,_,k,r,(Y.upd (Q:=Q) hP (fun V V V e=>e) (fun V V V e=>e) (st h1 (Y.f.S P (List.mem_of_getElem? hP))) (fun z q=>.inl (wf.1▸q)) fun z q=>.inl (wf.2▸q)).f⟩)
theorem Lh (hl:L.lookup nm=some (.ref src)) (hm:autoParam (bT env nm=true) aR):Xp c env L [Ja src [.int a,.int b]] (.Subscript (.Name nm px) (.Constant (.int 0) k p2) pos) (.int a):=dM (k:=0) (aa hl hm) aj (hs 0 (P:=Ja src [.int a,.int b])) rfl
theorem LR (hl:L.lookup nm=some (.ref src)) (hm:autoParam (bT env nm=true) aR):Xp c env L [Ja src [.int a,.int b]] (.Subscript (.Name nm px) (.Constant (.int 1) k p2) pos) (.int b):=dM (k:=1) (aa hl hm) aj (hs 0 (P:=Ja src [.int a,.int b])) rfl
theorem vm (h1:1≤top) (h2:top≤100):Sp w 1 506 [.ref src,.int top] [fQ src] fun K=>∀i,0≤i→i <top→K (.int i) [fQ src]:=by
 refine bf ["source","top"] wN fun c lo K q=>?_
 have hnp:∀x:Int,Builtin.divisionGoesByPylong x top=false:=fun x=>PyProof.noPylong_small (by omega)
 have fb:∀x y:Int,0 <y→0≤x.fmod y∧x.fmod y <y:=fun x y h=>⟨Int.fmod_nonneg_of_pos _ h,Int.fmod_lt_of_pos _ h⟩
 refine Ma (P':=fun p:{p:Int×Int // 0≤p.1∧0≤p.2∧p.2 <2147483647}=>Ja src [.int p.1.1,.int p.1.2]) 0 rfl (fun h=>kO fun a b La x=>⟨⟨(a,b),x⟩,La⟩) fun ⟨(a,b),ha,hb,hb2⟩=>?_
 show Tr c _ _ [Ja src [.int a,.int b]] _ _
 refine cZ (b:=decide (a >0)) (bF (Lh rfl) aj fun V=>eU) (fun e=>?_) fun e=>bM ?_
 ·refine gw (b7 (wZ (Lh rfl)) (aa rfl) fun V=>lu (by omega)) (Hp (k:=0) 0 rfl (b7 (Lh rfl) (aa rfl) fun V=>xn (by omega) (hnp _)) (aa rfl) aj ?_ (by simp) (by simp))
  exact Gv 0 (fQ src) rfl (fun h S=>⟨_,b,S,Int.fdiv_nonneg ha (by omega),hb,hb2⟩) (aa rfl) (q _ (fb a top (by omega)).1 (fb a top (by omega)).2)
 ·have fb1:=fb (b*39373+7) 2147483647 (by decide)
  refine Hp (k:=1) 0 rfl (b7 (wZ (b7 (b7 (LR rfl) aj fun V=>fj (IntMulOk.of_right (by decide+kernel))) aj fun V=>e9)) aj fun V=>lu (by decide)) (aa rfl) aj ?_ (by simp) (by simp)
  generalize (b*39373+7).fmod 2147483647=b' at fb1
  have m2:IntMulOk b' b':=IntMulOk.of_left (intBits_le_64 (by omega) (by omega))
  exact Gv 0 (fQ src) rfl (fun h S=>⟨a,b',S,ha,fb1.1,fb1.2⟩) (b7 (wZ (b7 (b7 (wZ (b7 (LR rfl) (LR rfl) fun V=>fj m2)) aj fun V=>lu (by decide)) aj fun V=>xn (by decide) (PyProof.noPylong_small (by decide)))) (aa rfl) fun V=>lu (b:=top) (by omega)) (q _ (fb _ top (by omega)).1 (fb _ top (by omega)).2)
theorem BN {P:HP} (hl:l∈P.F) (hS:∀h,P.S h→cN h l ds) (h1:1≤ds.length) (h2:ds.length≤100):Sp w 3 513 [.ref src,.ref l] [fQ src,P] fun K=>∀d∈ds,K d [fQ src,P]:=by
 refine bf ["source","things"] yC fun c lo K q=>?_
 refine kW (K4 (ds:=ds) (aa rfl) (bw (jh _) (by kernel_rfl) (AN (ae (aa rfl) (ae (KZ (aa rfl) ((hs 1).mp hS) (Nat.le_trans h2 lr)) aC)) (gg (Rs:=[P]) (vm (top:=ds.length) (by lia) (by lia)) fun i i0 i1=>?_))))
 have hi:i.toNat <ds.length:=by lia
 exact ⟨i.toNat,_,congrArg D.int (Int.toNat_of_nonneg i0).symm,List.getElem?_eq_getElem hi,Nat.le_trans h2 lr,(hs 1).mp fun h S=>(hS h S).w,q _ (List.getElem_mem hi)⟩
end
section
variable {K:D→List HP→Prop} {row:pK} {a:Addr}
noncomputable abbrev DY:List Str:=["self","number","priority","key","is_active","is_short","may_join"]
theorem GO (vx:List Value→List Value) (hb:l4 (ds.length+1) fun vs=>∀s,cA w s.heap→BindsTo s (cJ (dS 25 0) "LacpRow.__init__" (.ref 119) (.str "switchloom.lacp_port" 342) (.ref 125)) ⟨vs,[]⟩ (DY.zip (vx vs))) (hl:l4 (ds.length+1) fun vs=>∀n,nN (cJ (dS 25 0) "LacpRow.__init__" (.ref 119) (.str "switchloom.lacp_port" 342) (.ref 125)).scope n (DY.zip (vx vs))=true)
  (hv:∀h x vs,bp h vs (.ref x::ds)→bp h (vx vs) [.ref x,.int row.number,.int row.priority,.int row.key,.bool row.act,.bool row.sho,.bool row.joi]):Sp w 2 143 ds [] fun K=>∀y dy,K (.ref y) [jH w y 143 dy (dZ row)]:=
 (sY (n:=1) (ds:=ds) (Pre:=[]) (Q:=fun y dy K=>K .none [jH w y 143 dy (dZ row)]) (by kernel_rfl) (by kernel_rfl) (by kernel_rfl) fun x dx=>lC vx DY my hb hl (fun h vs=>hv h x vs)
  (fun c l K q=>eZ (aa rfl) (eZ (aa rfl) (eZ (aa rfl) (eZ (aa rfl) (eZ (aa rfl) (eZ (aa rfl) (cT q))))))) (by decide) rfl).mono fun K k x dx=>⟨rfl,k x dx⟩
theorem JM:Sp w 2 143 [.int row.number,.int row.priority,.int row.key,.bool row.act,.bool row.sho,.bool row.joi] [] fun K=>∀y dy,K (.ref y) [jH w y 143 dy (dZ row)]:=
 GO id (fun v1 v2 v3 v4 v5 v6 v7 s P=>BindsTo.of_defaults (T:=119) (o:=e7 [.bool true,.bool false,.bool true] 0) (items:= #[.bool true,.bool false,.bool true]) (n:=0) (by rfl) (P.k _ _ (by kernel_rfl)) (by rfl) (by rfl) (by rfl)) (fun v1 v2 v3 v4 v5 v6 v7 n=>by kernel_rfl) fun h x vs r=>r
theorem G4 (O:∀h,P.S h→Ob w h rx 143 rdx (dZ row)):Sp w 4 234 [aw sys,.ref rx] [P] fun K=>∀x dx,K (.ref x) [jH w x 234 dx (fE rx (ah.fresh sys row)),P]:=
 (sY (n:=3) (ds:=[aw sys,.ref rx]) (Pre:=[P]) (Q:=fun x dx K=>K .none [jH w x 234 dx (fE rx (ah.fresh sys row)),P]) (by kernel_rfl) (by kernel_rfl) (by kernel_rfl) fun x dx=>lC id ["self","system","row"] lY (fun v1 v2 v3 s P=>BindsTo.of_eq (by rfl)) (fun v1 v2 v3 n=>by kernel_rfl) (fun h vs r=>r)
  (fun c l K q=>by
   have O1:∀{P0:HP},Hs [P0,P] fun h=>Ob w h rx 143 rdx (dZ row):=fun h S=>O h (S P jT)
   refine eZ (aa rfl) (eZ (d:=b8 (ah.fresh sys row).actor) ?_ (eZ (d:=b8 gZ) (Fe (og _) fun V P=>lP P) (eZ bu (eZ aj (eZ bu (eZ bu (eZ gh (eZ aj (eZ aj (eZ vr (eZ aj (cT q))))))))))))
   rw [show b8 (ah.fresh sys row).actor= .tup [aw sys,.int row.key,aw row.pid,.int (Builtin.bitOr (row.bits:Nat) ((64:Nat):Int))] by rw [Ai];rfl]
   exact gU (ae (aa rfl) (ae (bB (aa rfl) O1 (by kernel_rfl) rfl) (ae (vn (aa rfl) O1 (by kernel_rfl) rfl O1 fun h P S=>Aa c.r P S) (ae (b7 (vn (aa rfl) O1 (by kernel_rfl) rfl O1 fun h P S=>JX c.r P S) (gH (dP _)) fun V=>GR) aC))))) (by decide) rfl).mono fun K k x dx=>⟨rfl,k x dx⟩
noncomputable abbrev Qz (w:World) (a:Addr):HP:=⟨[a],[a],fun h=>cM w aH h a ([]:List (ag×D))∧(a==sysModules)=false,gS.andP,fun V h=>h⟩
theorem Oq (k:∀a,K (.ref a) (Qz w a::Ps)):Xe c env L Ps (.Dict [] [] pos) K:=fun s h t m X=>(va (c:=aH) (s:=sh s h t) X.f.pin).mono fun v h1=>jC fun a e k1 n D0 lo=>⟨.ref a,_,k a,e▸ .ref a,X.push k1 ⟨D0,lo⟩ (fun z hz=>List.mem_singleton.mp hz▸n),.push k1 fun z hz=>List.mem_singleton.mp hz▸n⟩
noncomputable abbrev xZ (w:World) (C dC nd:Addr) (sys:aT) (most:Int):HP:=⟨[C,dC,nd],[C,dC,nd],fun h=>uP w h C dC nd sys most []∧(C≠dC∧(nd==sysModules)=false),qO.andP,fun V h=>h⟩
theorem Nb {x dx nd:Addr}:Mg (jH w x 388 dx (FX sys most nd)) (Qz w nd) (xZ w x dx nd sys most):=
 have g:∀z∈ [x,dx,nd],z∈ [x,dx]∨z∈ [nd]:=fun z hz=>(List.mem_append (s:=[x,dx]) (t:=[nd])).mp hz
 ⟨fun h a O H=>⟨⟨O,H.1,fun e=>a.1 x (.head _) (e▸ .head _),fun e=>a.1 dx jT (e▸ .head _)⟩,O.ne,H.2⟩,g,g⟩
theorem zZ:Sp w 3 388 [aw sys,.int most] [] fun K=>∀C dC nd,K (.ref C) [xZ w C dC nd sys most]:=
 (sY (n:=2) (ds:=[aw sys,.int most]) (Pre:=[]) (Q:=fun C dC K=>∀nd,K .none [xZ w C dC nd sys most]) (by kernel_rfl) (by kernel_rfl) (by kernel_rfl) fun x dx=>lC id ["self","system","most"] m7 (fun v1 v2 v3 s P=>BindsTo.of_eq (by rfl)) (fun v1 v2 v3 n=>by kernel_rfl) (fun h vs r=>r)
  (fun c l K q=>eZ (aa rfl) (eZ (aa rfl) (mZ 1 (Oq fun nd=>⟨rfl,aa rfl,Dk 1 0 [] Nb (cT (q nd))⟩) (by kernel_rfl)))) (by decide) rfl).mono fun K k C dC nd=>⟨rfl,k C dC nd⟩
end
noncomputable abbrev cy (w:World) (rs:List RI):HP:=⟨gf rs,gf rs,fun h=>s6 w h rs∧(gf rs).Nodup,xM.andP,fun V h=>h⟩
section
variable {K:D→List HP→Prop}
theorem Sp.drop {Q:(D→List HP→Prop)→Prop} (sp:Sp w n f ds Pre Q):Sp w n f ds Pre fun K=>Q fun d Qs=>∃ks:List Nat,ks.Nodup∧K d (sel ks Qs):=fun A r K q s vs rs fr st sep=>(sp A r _ q s vs rs fr st sep).mono fun v h'=>dT fun d Qs ks nd k r X=>⟨d,_,k,r,X.sel nd⟩
theorem BK (h1:1≤ds.length) (h2:ds.length≤100):Sp w 3 513 [.ref src,.ref l] [fQ src,aq l ds] fun K=>∀d∈ds,K d [fQ src]:=(BN (.head _) (fun V S=>S) h1 h2).drop.mono fun K k d hd=>⟨[0],by decide,k d hd⟩
end
section
variable {K:D→List HP→Prop}
theorem Qk {rs:List RI} {i:Nat} (h:cU rs=ed i):(1+(i:Int))∉(cG rs).map (·.1):=fun q=>by
 unfold cG at q
 rw [List.map_map] at q
 have:(1+(i:Int))∈ed i:=by rw [←h];exact q
 refine ab (List.mem_map.mp this) fun j hj ej=>?_
 have:=List.mem_range.mp hj
 lia
theorem Pw {rs:List RI} {i:Nat} (h:cU rs=ed i):rs.length=i:=by
 have:=congrArg List.length h
 unfold cU ed at this
 rwa [List.length_map,List.length_map,List.length_range] at this
theorem CJ {rs:List RI} {r:RI}:cG (rs++ [r])=cG rs++ [(r.row.number,.ref r.rx)]:=List.map_append ..
theorem K6 {rs:List RI} {r:RI}:Mg (jH w r.rx 143 r.rdx (dZ r.row)) (cy w rs) (cy w (rs++ [r])):=
 have e:gf (rs++ [r])=gf rs++ [r.rx,r.rdx]:=by unfold gf;rw [List.flatMap_append];rfl
 have g:∀z,z∈gf (rs++ [r])→z∈ [r.rx,r.rdx]∨z∈gf rs:=fun z q=>(List.mem_append.mp (e▸q)).symm
 ⟨fun h p a b=>⟨MZ b.1 (gz a),e▸List.nodup_append.mpr ⟨b.2,List.nodup_cons.mpr ⟨fun q=>a.ne (ur q),List.nodup_cons.mpr ⟨mN,.nil⟩⟩,fun z hz u hu q=>p.1 u hu (q▸hz)⟩⟩,g,g⟩
noncomputable def KQ (w:World) (src fd:Addr) (K:List HP→Prop) (i:Nat):Prop:=∀rs,cU rs=ed i→(∀r∈rs,kM r)→K [fQ src,cy w rs,d6 w fd (cG rs)]
theorem AA {Rs:List HP} {kt:Nat} {nm:Str} {top:Int} {p1 p2 p3 p4:Pos} (hl:L.lookup nm=some (.ref src)) (k:∀i,0≤i→i <top→K (.int i) ([fQ src]++Rs)) (h:autoParam (1≤top∧top≤100) aD) (hm:autoParam (bT env nm=true) aR) (hx:autoParam (dY env "_law_take"=true) aR) (hn:autoParam (Nat.ble 1 n=true) aR):Xe c env L ([fQ src]++Rs) (.Call (.Name "_law_take" p1) [.Name nm p2,.Constant (.int top) kt p3] [] p4) K:=
 bw (jh _) (by kernel_rfl) (AN (ae (aa hl hm) (ae aj aC)) (gg (vm h.1 h.2) k hn)) hx
theorem vA {Rs:List HP} {kt k2:Nat} {nm:Str} {top j:Int} {op:CmpOp} {g:Int→Bool} {p1 p2 p3 p4 p5 p6:Pos} (hl:L.lookup nm=some (.ref src)) (hc:∀A h i,iD w A h op (.int i) (.int j) (g i)) (k:∀b,K (.bool b) ([fQ src]++Rs)) (h:autoParam (1≤top∧top≤100) aD) (hm:autoParam (bT env nm=true) aR) (hx:autoParam (dY env "_law_take"=true) aR) (hn:autoParam (Nat.ble 1 n=true) aR):Xe c env L ([fQ src]++Rs) (.Compare (.Call (.Name "_law_take" p1) [.Name nm p2,.Constant (.int top) kt p3] [] p4) [op] [.Constant (.int j) k2 p5] p6) K:=
 Nu (AA hl (fun i V V=>⟨_,_,aj,fun h=>hc _ h i,k _⟩) h hm hx hn)
theorem Km {Rs:List HP} {nm:Str} {es:List Expr} {p1 p2 p3 p4:Pos} (hl:L.lookup nm=some (.ref src)) (he:Xq c env L ([fQ src]++Rs) es ds) (k:∀d∈ds,K d ([fQ src]++Rs)) (hz:autoParam (1≤ds.length∧ds.length≤100) aD) (hm:autoParam (bT env nm=true) aR) (hx:autoParam (dY env "_law_one"=true) aR) (hn:autoParam (Nat.ble 3 n=true) aR):Xe c env L ([fQ src]++Rs) (.Call (.Name "_law_one" p1) [.Name nm p2,.List es p3] [] p4) K:=
 bw (km _) (by kernel_rfl) (eM hl (dr (Hu (fun h m p=>kL (he h m p) hz.2) fun a=>cR (HJ (Pre:=[fQ src,aq a ds]) (.swap ..) (BK hz.1 hz.2) k hn))) hm) hx
theorem BZ (hm:many≤3):Sp w 6 565 [.ref src,.int many] [fQ src] fun K=>∀fd,KQ w src fd (K (.ref fd)) many:=by
 refine bf ["source","many"] vO fun c l K q=>?_
 refine xR (BO fun fd=>D6 (cy w []) rfl (fun V=>⟨fun V h=>noM h,.nil⟩) [1,0] (cq [1,0,2] (c8 (GS (k:=many) (i:=1) aj ?_ ?_ (by decide) (Nat.le_trans hm lr)))))
 ·rw [Int.add_comm]
  exact b7 (aa rfl) aj fun V=>e9
 refine P7 (L0:=[("source",.ref src),("found",.ref fd)]) (fun i K=>KQ w src fd (K [("source",.ref src),("found",.ref fd)]) i) (fun K k=>k [] rfl Pb) (fun c' i hi rs h1 h2=>?_) fun rs h1 h2=>bz (aa rfl) (q fd rs h1 h2)
 refine mJ (vA (Rs:=[_,_]) rfl (fun V V V=>eU) fun b1=>vA (Rs:=[_,_]) rfl (fun V V V=>jF) fun b2=>?_)
 refine mJ (Km (ds:=[.int 4,.int 4,.int 4,.int 5]) (Rs:=[_,_]) rfl (ae aj (ae aj (ae aj (ae aj aC)))) fun d1 hd1=>Km (ds:=[.int 8,.int 8,.int 3]) (Rs:=[_,_]) rfl (ae aj (ae aj (ae aj aC))) fun d2 hd2=>?_)
 obtain ⟨kk,rfl,ck⟩:∃k,d1= .int k∧(k=4∨k=5):=by
  rcases Qw hd1 with rfl |rfl |rfl |rfl
  ·exact ⟨4,rfl,.inl rfl⟩
  ·exact ⟨4,rfl,.inl rfl⟩
  ·exact ⟨4,rfl,.inl rfl⟩
  ·exact ⟨5,rfl,.inr rfl⟩
 obtain ⟨pp,rfl,cp⟩:∃k,d2= .int k∧(k=8∨k=3):=by
  rcases PI hd2 with rfl |rfl |rfl
  ·exact ⟨8,rfl,.inl rfl⟩
  ·exact ⟨8,rfl,.inl rfl⟩
  ·exact ⟨3,rfl,.inr rfl⟩
 refine D8 (i1:=1+i) (kds:=cG rs) (pd:=fd) 3 (bw (uH _) (by kernel_rfl) (eM rfl (eM rfl (eM rfl (eM rfl (eM rfl (dr (vA (Rs:=[_,_]) rfl (fun V V V=>eU) fun b3=>cR (gg (Pre:=[]) (JM (row:=⟨1+i,pp,kk,b1,b2,b3⟩)) fun y dy=>⟨rfl,⟨aa rfl,aa rfl⟩,?_⟩)))))))))
  (Qk h1) (by unfold cG;rw [List.length_map,Pw h1];lia)
 rw [←CJ (r:=⟨y,dy,⟨1+i,pp,kk,_,_,_⟩⟩)]
 refine Dk 0 2 [1,3] (K6 (r:=⟨y,dy,_⟩)) (cq [1,0,2] (b9 (fun K k=>k (rs++ [_]) ?_ ?_) rfl))
 ·unfold cU ed at h1 ⊢
  rw [List.map_append,h1,List.range_succ,List.map_append];rfl
 ·exact MZ h2 (gz ⟨ck,cp⟩)
end
section
variable {j:Expr} {ix:Nat}
theorem EH (jx:Nat) (hP:Ps[jx]? =some (aq l ds)) (q1:Xp c env L Ps o (.ref l)) (q2:Xp c env L Ps j d) (hn:Nat.ble 1 n=true) (hz:ds.length≤1000) (hok:∀e∈ds,e.keyOk 8=true) (hd:d.keyOk 8=true) (hi:ds[ix]? =some d) (hno:∀m,m <ix→ds[m]?≠some d) (q:ds.eraseIdx ix=ds') (k:Tr c env L (Ps.set jx (aq l ds')) rest J) (hm:autoParam (qa o [j] p1 pos=true) aR):Tr c env L Ps (.Expr (.Call (.Attribute o "remove" p1) [j] [] pos) p2::rest) J:=
 Bw (ds':=ds') jx PySem.F.slot_list_remove PySem.F.type_list_remove hP q1 q2 (fun L r=>q▸AI (by have:=(c.r.le (Nat.le_of_ble_eq_true hn)).u;omega) L r hok hd hz hi hno) k hm
end
noncomputable abbrev iW (w:World) (c:WC):HP:=⟨[],[c.sc]++([c.el]++ [c.ll]),fun h=>nh (strKind pw w) h c.sc (KN c)∧(cN h c.el (Ol c)∧cN h c.ll (c.links.map au)),jD.and (lK.and lK),fun V h=>noM h⟩
noncomputable abbrev bn (w:World) (c:WC) (e:E2) (i:Nat):HP:=cD w (c.b i) (e i).its (e i).ns
noncomputable abbrev Wd (w:World) (c:WC) (e:E2) (up:List (Int×Int)):List HP:=[aV,bn w c e 0,bn w c e 1,iW w c,aq c.ul (up.map au)]
noncomputable abbrev Wi (w:World) (c:WC) (e:E2) (i:Nat) (Rs:List HP):List HP:=aV::bn w c e i::bn w c e (1 - i)::Rs
noncomputable def Nm (c:WC) (e:E2):Prop:=∀i,i <2→iL (e i).its=ed c.many
theorem Nm.fr {c:WC} {e e':E2} (x:Nm c e) (f:bQ e e'):Nm c e':=fun i h=>(f i h).nums.trans (x i h)
theorem G6 {its:List af} {many:Nat} (hn:iL its=ed many) {v:Int} (h1:1≤v∧v≤many):∃a,its[ig v]? =some a∧a.2.row.number=v:=by
 have hl:its.length=many:=by
  have:=congrArg List.length hn
  unfold iL ed at this
  rwa [List.length_map,List.length_map,List.length_range] at this
 have hx:ig v <its.length:=by unfold ig;omega
 refine a9 _ (List.getElem?_eq_getElem hx) ?_
 have:=congrArg (fun l:List Int=>l[ig v]?) hn
 unfold iL ed at this
 simp only [List.getElem?_map,List.getElem?_eq_getElem hx,Option.map_some] at this
 rw [List.getElem?_range (by unfold ig;omega)] at this
 rw [Option.some.inj this]
 show 1+((ig v:Nat):Int)=v
 unfold ig
 omega
theorem Nm.at {c:WC} {e:E2} (x:Nm c e) {i:Nat} (hi:i <2) {v:Int} (h1:1≤v∧v≤c.many):∃a,(e i).its[ig v]? =some a∧a.2.row.number=v:=G6 (x i hi) h1
section
variable {k:Cx w n} {c:WC} {e:E2} {i:Nat} {a b:Expr} {x:EI}
theorem lF (hi:i <2):(Wi w c e i Rs).Perm (Wi w c e 0 Rs):=by apply iT (s:=i) hi;exact .refl _;exact .cons _ (.swap ..)
theorem MM (hi:i <2):Wi w c (upd e i x) i Rs=aV::cD w (c.b i) x.its x.ns::bn w c e (1 - i)::Rs:=by
 have h1:upd e i x i=x:=if_pos rfl
 have h2:upd e i x (1 - i)=e (1 - i):=if_neg (Nj hi).2.1
 rw [Wi,bn,bn,h1,h2]
theorem zM (hi:i <2) (q:Tr k env L (Wi w c (upd e i x) 0 Rs) rest J):Tr k env L ([aV,cD w (c.b i) x.its x.ns]++(bn w c e (1 - i)::Rs)) rest J:=zG (by
 have:=lF (w:=w) (c:=c) (e:=upd e i x) (Rs:=Rs) hi
 rwa [MM hi] at this) q
theorem wV {Ps:List HP} {nm:Str} {d:D} (O:Hs Ps (iW w c).S) (hs:Xp k env L Ps a (.ref c.sc)) (hd:fu (KN c) nm=some d):Xp k env L Ps (.Subscript a (.Constant (.str nm) k0 p1) p2) d:=i9 hs bu rz (O.mp fun V S=>S.1) hd
theorem F8 {Ps:List HP} (O:Hs Ps (iW w c).S) (hi:i <2) (hs:Xp k env L Ps a (.ref c.sc)) (hb:Xp k env L Ps b (.int (i:Nat))) (h2:autoParam (sm b=true) aR):Xp k env L Ps (.Subscript (.Subscript a (.Constant (.str "ends") k0 p1) p2) b p3) (.ref (c.b i).B):=
 dM (k:=i) (wV O hs BW) hb (O.mp fun V S=>S.2.1.w) (Ki hi) (Nat.lt_of_lt_of_le hi lr) h2
theorem pD {Ps:List HP} (hi:i <2) (hl:Xp k env L Ps a (au link)) (hb:Xp k env L Ps b (.int (i:Nat))) (h2:autoParam (sm b=true) aR):Xp k env L Ps (.Subscript a b p3) (.int (lk link i)):=iw (k:=i) hl hb (by apply iT (s:=i) hi;exact rfl;exact rfl) (Nat.lt_of_lt_of_le hi lr) h2
theorem zp (j:Nat) {Ps:List HP} {b:BC} {its:List af} {ns:List (ag×Int)} (hP:autoParam (Ps[j]? =some (cD w b its ns)) aR):Hs Ps fun h=>Ob w h b.B 488 b.dB (Np b):=(Mine.hs j hP).mp fun V S=>S.o
theorem yw {l:Addr} {ls:List (Int×Int)} (R:Rm n A) (L:cN h l (ls.map au)):iD w A h .NotIn (au link) (.ref l) (!ls.contains link):=by rw [←Ey];exact ie R L xX rfl
theorem jb (hn:Nm c e) (hu:up.length≤10) (hl:∀i,i <2→1≤lk link i∧lk link i≤c.many) (y:Nat→EI) (hres:∀i,i <2→iG (!up.contains link) c e link i=some (y i)):
  Sp w 20 539 [.ref c.sc,au link] (Wd w c e up) fun K=>K .none (Wd w c (eK e y 2) (Lj (!up.contains link) up link)):=by
 have fk:=vu fun i hi=>oo (hres i hi)
 refine bf ["scene","link"] oz fun k l K q=>?_
 refine gw (LH (aa rfl) (wV (hs 3) (aa rfl) xo) (hs 4) fun h S=>yw k.r S) ?_
 generalize hb:(!up.contains link)=isUp at hres q
 refine c8 (g9 (k:=2) aj ?_ (by decide))
 refine vZ (L0:=[("scene",.ref c.sc),("link",au link),("is_up",.bool isUp)]) (fun i K=>K [("scene",.ref c.sc),("link",au link),("is_up",.bool isUp)] (Wd w c (eK e y i) up)) (fun K k=>k) (fun k' i hi=>?_) ?_
 ·refine ab ((hn.fr (fk i)).at hi (hl i hi)) fun a ha hnum=>?_
  have hxi:iG isUp c (eK e y i) link i=some (y i):=by delta iG;rw [N5 hi];exact hres i hi
  delta iG at hxi
  refine zG (lF hi).symm (cZ (dA (aa rfl)) (fun eu=>?_) fun eu=>?_)
  ·rw [if_pos eu] at hxi
   exact Fh (ij (F8 (hs 3) hi (aa rfl) (aa rfl)) (zp 1) (ae (hnum▸pD hi (aa rfl) (aa rfl)) aC) (by kernel_rfl) rfl (gg (O4 ha hxi) (kE (bM (zM hi (Bt hi▸b9 (fun K k=>k) rfl))))))
  ·rw [if_neg (by rw [eu];decide)] at hxi
   exact Fh (ij (F8 (hs 3) hi (aa rfl) (aa rfl)) (zp 1) (ae (hnum▸pD hi (aa rfl) (aa rfl)) aC) (by kernel_rfl) rfl (gg (Jd ha hxi) (kE (bM (zM hi (Bt hi▸b9 (fun K k=>k) rfl))))))
 ·refine cZ (dA (aa rfl)) (fun eu=>?_) fun eu=>?_
  ·rw [Lj,if_pos eu] at q
   exact kZ (d:=au link) 4 rfl (wV (hs 3) (aa rfl) xo) (aa rfl) (by rw [List.length_map];exact Nat.le_trans hu lr) (List.map_append (l₂:=[link])).symm (bM (cT q))
  ·rw [Lj,if_neg (by rw [eu];decide)] at q
   refine ar (yl (l:=link) (ls:=up) (List.contains_iff_mem.mp (by rw [eu] at hb;simpa using hb))) fun ix h1 h2 h3=>?_
   exact EH (d:=au link) (ix:=ix) 4 rfl (wV (hs 3) (aa rfl) xo) (aa rfl) (by rfl) (by rw [List.length_map];exact Nat.le_trans hu lr) (fun d hd=>by refine ab (List.mem_map.mp hd) fun l V zr51=>?_;subst zr51;rfl) rfl h1 h2 h3 (bM (cT q))
end
variable {e':E2}
section
variable {k:Cx w n} {c:WC} {e ei:E2} {i:Nat} {x:EI} {d1:List D}
theorem LG (hl:Nat.ble 1 n=true) (q1:Xp k env L Ps e1 (.ref Dl)) (O:Hs Ps fun h=>cN h Dl [.ref f0,.ref f1]∧(cN h f0 d0∧cN h f1 d1)):Xu k env L Ps (.Compare e1 [.Eq] [.List [.List [] p1,.List [] p2] p3] pos) (d0.isEmpty&&d1.isEmpty):=fun h m p=>
 have z:=O h p.S
 xx (n:=0) (k.r.le (Nat.le_of_ble_eq_true hl)) (q1 h m p) z.1 z.2.1 z.2.2
noncomputable abbrev DJ (w:World) (f:Addr×List SM):HP:=AU w f.1 f.2
theorem wt {ms:List (Int×oM)} {j:Nat} {m:Int×oM} (hm:ms[j]? =some m):ms.drop j=m::ms.drop (j+1):=by
 obtain ⟨h,e⟩:=List.getElem?_eq_some_iff.mp hm
 rw [List.drop_eq_getElem_cons h,e]
noncomputable abbrev uG (w:World) (c:WC) (up:List (Int×Int)) (p:Nat→Addr×List SM) (Dl:Addr):List HP:=[iW w c,aq c.ul (up.map au),DJ w (p 0),DJ w (p 1),aq Dl [.ref (p 0).1,.ref (p 1).1]]
theorem FD {Rs:List HP} (hi:i <2):Hs (Wi w c e 0 Rs) fun h=>Ob w h (c.b i).B 488 (c.b i).dB (Np (c.b i)):=by apply iT (s:=i) hi;exact (zp 1);exact (zp 2)
theorem Ek {k0:Nat} {e:Expr} (e1:Xp k env L Ps e (.int (k0:Nat))) (hk:k0≤1000) (hx:autoParam (dY env "range"=true) aR) (hn:autoParam (ns e=true) aR) (s:Shared) (m:ma) (X:St w k.E env m L Ps s.heap):Kq w k.A env s (.Call (.Name "range" p1) [e] [] pos) (Wl Ps) (dK 0 k0):=
 (m9 (s:=s) k.r.h X.a X.f.pin X.v.g X.v.b hk (e1 _ m X.pst) X.v.k (bN hx).1 (aQ hn)).mono fun v h5=>av fun k5 z=>⟨k5,fun t5=>(z t5).mono fun it h6=>cV fun k6 I sr e J n V=>⟨k6,I,sr,e,J,fun q=>(cf q).elim fun P q=>X.offN n P q.1 q.2⟩⟩
theorem Dy {a b s:HP} {Ss:List HP} (hi:i <2) (hs:s=s):([aV,cD w (c.b i) ((fh e i i).its.map pC) (fh e i i).ns,s]++(bn w c (fh e i) (1 - i)::a::b::Ss)).Perm (Wi w c (fh e (i+1)) 0 (a::b::(Ss++ [s]))):=by
 have e0:fh e i i=e i:=by delta fh;simp
 have e1:fh e (i+1) i=⟨(fh e i i).its.map pC,(fh e i i).ns⟩:=by rw [e0];delta fh;simp [f7]
 have e2:fh e (i+1) (1 - i)=fh e i (1 - i):=by rw [Cz];exact if_neg (Nj hi).2.1
 refine .trans ?_ (lF hi)
 simp only [Wi,bn,e1,e2]
 exact .cons _ (.cons _ ((List.perm_append_comm (l₁:=[s]) (l₂:=bn w c (fh e i) (1 - i)::a::b::Ss))))
noncomputable abbrev Rg (w:World) (c:WC) (e:E2) (up:List (Int×Int)) (p:Nat→Addr×List SM) (Dl:Addr) (s:Nat):List HP:=[bn w c e s,iW w c,aq c.ul (up.map au),DJ w (p (1 - s)),aq Dl [.ref (p 0).1,.ref (p 1).1]]
theorem Qx {p:Nat→Addr×List SM} {z:EI} (hs:i <2):(Wi w c (upd e (1 - i) z) 0 (uG w c up p Dl)).Perm ([aV,cD w (c.b (1 - i)) z.its z.ns,DJ w (p i)]++Rg w c e up p Dl i):=by
 have h1:upd e (1 - i) z (1 - i)=z:=if_pos rfl
 have h2:upd e (1 - i) z i=e i:=if_neg (Nj hs).1
 have hj:1 - i <2:=(Nj hs).2.2.1
 have h3:1 - (1 - i)=i:=(Nj hs).2.2.2
 refine (lF hj).symm.trans ?_
 rw [Wi,bn,bn,h3,h1,h2]
 refine .cons _ (.cons _ ?_)
 apply iT (s:=i) hs
 ·exact (List.perm_append_comm (l₁:=[bn w c e 0,iW w c,aq c.ul (up.map au)]) (l₂:=[DJ w (p 0)])).append_right [DJ w (p 1),_]
 ·exact (List.perm_append_comm (l₁:=[bn w c e 1,iW w c,aq c.ul (up.map au),DJ w (p 0)]) (l₂:=[DJ w (p 1)])).append_right [_]
theorem Ea {j:Nat}:upd e j (e j)=e:=funext fun k=>by
 delta upd
 by_cases q:k=j
 ·rw [if_pos q,q]
 ·rw [if_neg q]
theorem CK {k0:Nat} {p:Nat→Addr×List SM} (hr:gX c (k0+1) e=some e') (hq:kJ e=false) (r0:(p 0).2.map (fun x=>(x.num,x.q))=eY (e 0).its) (r1:(p 1).2.map (fun x=>(x.num,x.q))=eY (e 1).its):
  ∃(ez:E2) (eD:Nat→E2),gX c k0 ez=some e'∧bQ e ez∧eD 0=f7 e∧(∀i,i <2→eD 2 i=ez i)∧(∀i,i <2→bQ e (eD i))∧∀s,s <2→∃y,dg c s ((p s).2.map fun x=>(x.num,x.q)) (eD s (1 - s))=some y∧eD (s+1)=upd (eD s) (1 - s) y:=by
 unfold gX at hr
 rw [if_neg (by rw [hq];decide)] at hr
 cases hR:q7 c e with
 |none=>rw [hR] at hr;cases hr
 |some ez=>
  rw [hR] at hr
  have fz:=uD hR
  unfold q7 at hR
  cases hd1:dg c 0 (eY (e 0).its) (f7 e 1) with
  |none=>rw [hd1] at hR;cases hR
  |some x1=>
  rw [hd1] at hR
  dsimp only at hR
  cases hd0:dg c 1 (eY (e 1).its) (f7 e 0) with
  |none=>rw [hd0] at hR;cases hR
  |some x0=>
  rw [hd0] at hR
  cases hR
  refine ⟨_,fun k=>match k with |0=>f7 e |1=>upd (f7 e) 1 x1 |_=>upd (upd (f7 e) 1 x1) 0 x0,hr,fz,rfl,lS rfl rfl,?_,?_⟩
  ·exact lS gE (gE.trans (hX (kj hd1)))
  ·exact lS ⟨x1,r0▸hd1,rfl⟩ ⟨x0,r1▸hd0,rfl⟩
theorem BA {s:Nat} (h:s <2):(Int.ofNat 1) - (s:Int)=((1 - s:Nat):Int):=by apply iT (s:=s) h;exact rfl;exact rfl
theorem qb (hn:Nm c e) (hll:c.links.length≤10) (hres:gX c 8 e=some e'):Sp w 22 525 [.ref c.sc] (Wd w c e up) fun K=>K .none (Wd w c e' up):=by
 refine bf ["scene"] oT fun k l K q=>?_
 refine c8 (g9 (k:=8) aj ?_ (by decide))
 refine vZ (L0:=[("scene",.ref c.sc)]) (fun i K=>∀ei,Nm c ei→gX c (8 - i) ei=some e'→K [("scene",.ref c.sc)] (Wd w c ei up)) (fun K k=>k e hn hres) (fun k' i hi ei hn hr=>?_) fun ei hn hr=>?_
 ·refine ab (tA hi) fun k0 hk0 hk1=>?_
  rw [hk0] at hr
  rw [hk1]
  have f2:bQ ei (f7 ei):=gE
  refine Ql (OD (ds:=dK 0 2) (fun k K=>∀fs:List (Addr×List SM),fs.length=k→Pu ei fs→K (fs.map fun f=>.ref f.1) (Wi w c (fh ei k) 0 (iW w c::aq c.ul (up.map au)::fs.map (DJ w)))) [("scene",.ref c.sc)] (.of (Ek aj (by decide))) (fun K k=>k [] rfl fun j f hf=>by simp at hf) (fun i d hd C fs hl hrel=>?_) (by decide)) (fun fs hl hrel Dl=>?_)
  ·refine bC (Gy hd) fun hi zr52=>?_;subst zr52
   refine M4 (EU (w0 (F8 (hs 3) hi (aa rfl) (aa rfl)) (FD hi) (by kernel_rfl) rfl (HJ (lF hi).symm vE fun fa es rel=>⟨_,Dy hi rfl,fun K k=>?_⟩)))
   have:=k (fs++ [(fa,es)]) (by rw [List.length_append,hl];rfl) fun j f hf=>?_
   ·rwa [List.map_append,List.map_append] at this
   ·by_cases q:j <fs.length
    ·rw [List.getElem?_append_left q] at hf;exact hrel j f hf
    ·rw [List.getElem?_append_right (Nat.le_of_not_lt q)] at hf
     have h1:=(List.getElem?_eq_some_iff.mp hf).1
     rw [List.length_singleton] at h1
     have hj:j=i:=by omega
     rw [show j - fs.length=0 by omega] at hf
     cases hf
     have e0:fh ei i i=ei i:=by delta fh;simp
     rw [hj,←e0];exact rel
  ·obtain ⟨p,rfl,r0,r1⟩:∃p:Nat→Addr×List SM,fs= [p 0,p 1]∧(p 0).2.map (fun x=>(x.num,x.q))=eY (ei 0).its∧(p 1).2.map (fun x=>(x.num,x.q))=eY (ei 1).its:=by
    match fs,hl with
    | [a,b],_=>exact ⟨fun i=>if i=0 then a else b,rfl,hrel 0 a rfl,hrel 1 b rfl⟩
   refine cq [1,2,3,4,5,6,7,0] (cZ (LG (f0:=(p 0).1) (f1:=(p 1).1) (d0:=(p 0).2.map LO) (d1:=(p 1).2.map LO) (Dl:=Dl) (by rfl) (aa rfl) fun h q=>⟨hs 7 (P:=aq Dl [.ref (p 0).1,.ref (p 1).1]) rfl h q,(hs 5 (P:=DJ w (p 0)) rfl h q).l,(hs 6 (P:=DJ w (p 1)) rfl h q).l⟩) (fun eq=>?_) fun eq=>?_)
   ·have hq:kJ ei=true:=by
     delta kJ
     rw [←r0,←r1,List.isEmpty_map,List.isEmpty_map]
     rwa [List.isEmpty_map,List.isEmpty_map] at eq
    unfold gX at hr
    rw [if_pos hq] at hr
    cases hr
    exact cq [0,1,2,3,4] (sV q)
   ·have hq:kJ ei=false:=by
     delta kJ
     rw [←r0,←r1,List.isEmpty_map,List.isEmpty_map]
     rwa [List.isEmpty_map,List.isEmpty_map] at eq
    refine dJ (CK hr hq r0 r1) fun ez eD hr fz hD0 hD1 zz5=>bC zz5 fun hD2 hdl=>?_
    refine bM ?_
    refine c8 (g9 (k:=2) aj ?_ (by decide))
    refine vZ (L0:=[("scene",.ref c.sc),("sent",.ref Dl)]) (fun s K=>K [("scene",.ref c.sc),("sent",.ref Dl)] (Wi w c (eD s) 0 (uG w c up p Dl))) (fun K k=>by
     have z:K [("scene",.ref c.sc),("sent",.ref Dl)] (Wi w c (eD 0) 0 (uG w c up p Dl)):=k
     rw [hD0] at z
     exact z) (fun k2 s hs2=>?_) ?_
    ·refine ab (hdl s hs2) fun y hy ey=>?_
     have hj:1 - s <2:=(Nj hs2).2.2.1
     have sP:(Wi w c (eD s) 0 (uG w c up p Dl))[5+s]? =some (DJ w (p s)):=by apply iT (s:=s) hs2;exact rfl;exact rfl
     refine c8 (Oe (l:=(p s).1) (ds:=(p s).2.map fun z=>.tup [.int z.num,.ref z.y]) (5+s) (dM (k:=s) (aa rfl) (aa rfl) ((hs 7 (P:=aq Dl [.ref (p 0).1,.ref (p 1).1])).mp fun V S=>S.w) (by apply iT (s:=s) hs2;exact rfl;exact rfl) (by omega)) ((hs (5+s) sP).mp fun h S=>S.l) ?_ sP rfl (.head _))
     refine PR (L0:=[("side",.int (s:Nat)),("scene",.ref c.sc),("sent",.ref Dl)]) (fun j K=>∀z,iL z.its=ed c.many→dg c s (((p s).2.map fun x=>(x.num,x.q)).drop j) z=some y→K [("side",.int (s:Nat)),("scene",.ref c.sc),("sent",.ref Dl)] (Wi w c (upd (eD s) (1 - s) z) 0 (uG w c up p Dl))) (fun K k=>?_) (fun k3 j x hx z hz hdz=>?_) fun z hz hdz=>?_
     ·have:=k (eD s (1 - s)) ((hn.fr (hD2 s hs2)) (1 - s) hj) hy
      rwa [Ea] at this
     ·have hmj:((p s).2.map fun x=>(x.num,x.q))[j]? =some (x.num,x.q):=by rw [List.getElem?_map,hx];rfl
      rw [wt hmj] at hdz
      refine ic (qh hdz) fun gl gr z1 hg hb hz1 hdz1=>?_
      refine ab (G6 hz hb) fun a ha hnum=>?_
      refine gw (Gq (k:=0) (iY (NZ (its:=c.links) (g:=au) (p:=fun l=>lk l s==x.num) (f:=fun l=>.int (lk l (1 - s))) [("side",.int (s:Nat)),("number",.int x.num)] (sG (wV (hs 3) (aa rfl) xP) ((hs 3 (P:=iW w c)).mp fun V S=>S.2.2)) (fun l hl C=>⟨bF (pD hs2 (aa rfl) (aa rfl)) (aa rfl) fun V=>jF,fun V=>pD hj (aa rfl) (BA hs2▸b7 aj (aa rfl) fun V=>je)⟩) (by omega))) aj (d:=.int gl) ?_) ?_
      ·have:=congrArg (fun l:List Int=>(l.map D.int)[0]?) hg
       unfold pL at this
       rw [List.map_map] at this
       simpa using this
      ·refine Fh (EU (ij (F8 (hs 3) hj (aa rfl) (BA hs2▸b7 aj (aa rfl) fun V=>je)) (FD hj) (ae (d:=.int a.2.row.number) (hnum▸aa rfl) (ae (aa rfl) aC)) (by kernel_rfl) rfl (HJ (Qx hs2) (Aw (es:=(p s).2) (List.mem_of_getElem? hx) ha hz1) ⟨_,(Qx hs2).symm,kE (b9 (fun K k=>k z1 ((uy hz1).nums.trans hz) hdz1) rfl)⟩)))
     ·rw [show ((p s).2.map fun x=>(x.num,x.q)).drop (p s).2.length= [] by rw [List.drop_eq_nil_iff,List.length_map];exact Nat.le_refl _] at hdz
      cases hdz
      exact b9 (fun K k=>by
       have z:K [("scene",.ref c.sc),("sent",.ref Dl)] (Wi w c (eD (s+1)) 0 (uG w c up p Dl)):=k
       rw [ey] at z
       exact z) rfl
    ·have b0:bn w c (eD 2) 0=bn w c ez 0:=by rw [bn,bn,hD1 0 (by decide)]
     have b1:bn w c (eD 2) 1=bn w c ez 1:=by rw [bn,bn,hD1 1 (by decide)]
     refine cq [0,1,2,3,4] (b9 (L0:=[("scene",.ref c.sc)]) (fun K k=>?_) rfl)
     have z:=k ez (hn.fr fz) hr
     rw [Wd,←b0,←b1] at z
     exact z
 ·cases hr
  exact cT q
end
section
variable {c:WC} {e:E2}
theorem DA {k0:Nat} (hr:fv c (k0+1) e=some e'):∃(e1 ez:E2) (eD:Nat→E2),gX c 8 e=some e1∧bQ e ez∧fv c k0 ez=some e'∧eD 0=e1∧(∀i,i <2→eD 2 i=ez i)∧∀s,s <2→∃y,tP (c.b s).c.sys (c.b s).c.most (eD s s)=some y∧eD (s+1)=upd (eD s) s y:=by
 unfold fv at hr
 cases hR:kU c e with
 |none=>rw [hR] at hr;cases hr
 |some ez=>
  rw [hR] at hr
  have fz:=uv hR
  unfold kU at hR
  cases hE:gX c 8 e with
  |none=>rw [hE] at hR;cases hR
  |some e1=>
   rw [hE] at hR
   dsimp only at hR
   unfold CN at hR
   cases h0:tP (c.b 0).c.sys (c.b 0).c.most (e1 0) with
   |none=>rw [h0] at hR;cases hR
   |some x0=>
   rw [h0] at hR
   dsimp only at hR
   cases h1:tP (c.b 1).c.sys (c.b 1).c.most (e1 1) with
   |none=>rw [h1] at hR;cases hR
   |some x1=>
   rw [h1] at hR
   cases hR
   exact ⟨e1,_,fun k=>match k with |0=>e1 |1=>upd e1 0 x0 |_=>upd (upd e1 0 x0) 1 x1,rfl,fz,hr,rfl,lS rfl rfl,lS ⟨x0,h0,rfl⟩ ⟨x1,h1,rfl⟩⟩
theorem Bp (hn:Nm c e) (hll:c.links.length≤10) (hm:many≤100) (hres:fv c many e=some e'):Sp w 24 532 [.ref c.sc,.int many] (Wd w c e up) fun K=>K .none (Wd w c e' up):=by
 refine bf ["scene","many"] wD fun k l K q=>?_
 refine c8 (g9 (k:=many) (aa rfl) ?_ (Nat.le_trans hm lr))
 refine vZ (L0:=[("scene",.ref c.sc)]) (fun i K=>∀ei,Nm c ei→fv c (many - i) ei=some e'→K [("scene",.ref c.sc)] (Wd w c ei up)) (fun K k=>k e hn hres) (fun k' i hi ei hn hr=>?_) fun ei hn hr=>?_
 ·refine ab (tA hi) fun k0 hk0 hk1=>?_
  rw [hk0] at hr
  rw [hk1]
  refine bG (DA hr) fun e1 ez eD h1 fz hp hD0 hD2 hsec=>?_
  refine Fh (bw (iE _) (by kernel_rfl) (eM rfl (cR (gg (Rs:=[]) (qb hn hll h1) (kE ?_)))))
  subst hD0
  refine c8 (g9 (k:=2) aj ?_ (by decide))
  refine vZ (L0:=[("scene",.ref c.sc)]) (fun s K=>K [("scene",.ref c.sc)] (Wd w c (eD s) up)) (fun K k=>k) (fun k2 s hs2=>?_) ?_
  ·refine ab (hsec s hs2) fun y hy ey=>?_
   exact zG (lF hs2).symm (Fh (w0 (F8 (hs 3) hs2 (aa rfl) (aa rfl)) (zp 1) (by kernel_rfl) rfl (gg (CR hy) (kE (zM hs2 (ey▸b9 (fun K k=>k) rfl))))))
  ·have b0:bn w c (eD 2) 0=bn w c ez 0:=by rw [bn,bn,hD2 0 (by decide)]
   have b1:bn w c (eD 2) 1=bn w c ez 1:=by rw [bn,bn,hD2 1 (by decide)]
   refine b9 (L0:=[("scene",.ref c.sc)]) (fun K k=>?_) rfl
   have z:=k ez (hn.fr fz) hp
   rw [Wd,←b0,←b1] at z
   exact z
 ·rw [Nat.sub_self] at hr
  exact Fh (bw (iE _) (by kernel_rfl) (eM rfl (cR (gg (Rs:=[]) (qb hn hll hr) (kE (cT q))))))
end
noncomputable abbrev i5 (w:World) (rs:List RI):HP:=⟨[],gf rs,fun h=>s6 w h rs∧(4::gf rs).Nodup,xM.andP,fun V h=>noM h⟩
noncomputable abbrev IT (w:World) (its:List af):HP:=⟨nc its,nc its,fun h=>Eg w h its∧(nc its).Nodup,Gn.andP,fun V h=>h⟩
theorem uu {Rs:List HP}:∀{Os:List HP},(Os++Rs).Pairwise rO→(∀P∈Os,P.W=P.F∧P.F.Nodup)→(Fl Rs).Nodup→(Fl (Os++Rs)).Nodup
 | [],_,_,h=>h
 |P::Os,p,o,h=>by
  obtain ⟨p1,p2⟩:=List.pairwise_cons.mp p
  obtain ⟨o1,o2⟩:=o P (.head _)
  show (P.F++Fl (Os++Rs)).Nodup
  exact List.nodup_append.mpr ⟨o2,uu p2 (fun Q q=>o Q (.tail _ q)) h,fun z hz u hu q=>let ⟨Q,a,b⟩:=dh hu;(p1 Q a).1 z (o1▸hz) (q▸b)⟩
theorem yE {its:List af}:(oO (its.map (·.1))).Perm (nc its++its.flatMap fun a:af=>[a.1.rx,a.1.rdx]):=by
 induction its with
 |nil=>exact .refl _
 |cons a its ih=>
  show (a.1.pl++oO (its.map (·.1))).Perm (([a.1.x,a.1.dx]++nc its)++([a.1.rx,a.1.rdx]++its.flatMap fun a:af=>[a.1.rx,a.1.rdx]))
  refine (List.Perm.append_left _ ih).trans ?_
  rw [List.append_assoc]
  show ([a.1.x,a.1.dx]++([a.1.rx,a.1.rdx]++(nc its++_))).Perm _
  refine .append_left _ ?_
  rw [←List.append_assoc,←List.append_assoc]
  exact .append_right _ List.perm_append_comm
section
variable {r:RI} {rs:List RI} {rl:Addr} {b:BC}
theorem Jg (hr:r∈rs):Sp w 4 234 [aw sys,.ref r.rx] [i5 w rs] fun K=>∀x dx,K (.ref x) [jH w x 234 dx (fE r.rx (ah.fresh sys r.row)),i5 w rs]:=G4 (rdx:=r.rdx) fun h S=>S.1 r hr
theorem I9 (a:af) (e:a.2=ah.fresh sys r.row∧a.1.rx=r.rx):Mg (jH w a.1.x 234 a.1.dx (fE r.rx (ah.fresh sys r.row))) (IT w its) (IT w (its++ [a])):=
 have q:nc (its++ [a])=nc its++ [a.1.x,a.1.dx]:=by unfold nc;rw [List.flatMap_append];rfl
 have g:∀z,z∈nc (its++ [a])→z∈ [a.1.x,a.1.dx]∨z∈nc its:=fun z h=>(List.mem_append.mp (q▸h)).symm
 ⟨fun h p x y=>⟨MZ y.1 (gz (e.1▸e.2▸x)),q▸List.nodup_append.mpr ⟨y.2,List.nodup_cons.mpr ⟨fun q=>x.ne (ur q),List.nodup_cons.mpr ⟨mN,.nil⟩⟩,fun z hz u hu q=>p.1 u hu (q▸hz)⟩⟩,g,g⟩
theorem H7 {i:Nat} (asc:(rs.map (·.row.number)).Pairwise (· < ·)) (rel:lq sys (rs.take i) its) (hi:rs[i]? =some r):r.row.number∉(qv its).map (·.1):=fun q=>by
 have e:(qv its).map (·.1)=(rs.take i).map (·.row.number):=by
  delta qv
  rw [List.map_map]
  exact rel.nums
 rw [e] at q
 refine ab (List.mem_map.mp q) fun r' hr' e'=>?_
 obtain ⟨j,hj,ej⟩:=List.mem_iff_getElem.mp hr'
 rw [List.length_take] at hj
 rw [List.getElem_take] at ej
 obtain ⟨hi,ei⟩:=List.getElem?_eq_some_iff.mp hi
 have:=List.pairwise_iff_getElem.mp asc j i (by rw [List.length_map];exact MQ hj) (by rw [List.length_map];exact hi) (Qy hj)
 rw [List.getElem_map,List.getElem_map,ej,ei,e'] at this
 lia
theorem Ei {kds:List (Int×D)} {k:Int} (h:k∉kds.map (·.1)):(fu kds k).isSome=false:=by
 delta fu
 cases hf:kds.find? (fun x=>x.1=k) with
 |none=>rfl
 |some z=>exact absurd (by have:=List.find?_some hf;rw [←show z.1=k by simpa using this];exact List.mem_map_of_mem (f:=(·.1)) (List.mem_of_find?_eq_some hf)) h
theorem Mi {C dC nd x dx pd:Addr} {lo:HP} (rel:lq sys rs its) (h3:rs.length≤3) (hm:0≤most) (asc:(rs.map (·.row.number)).Pairwise (· < ·)) (sep: [xZ w C dC nd sys most,IT w its,jH w x 488 dx [("ports",.ref pd),("chooser",.ref C)],d6 w pd (qv its),i5 w rs,lo,aV].Pairwise rO)
  (S:∀P∈ [xZ w C dC nd sys most,IT w its,jH w x 488 dx [("ports",.ref pd),("chooser",.ref C)],d6 w pd (qv its),i5 w rs,lo,aV],P.S h):oE w h ⟨x,dx,pd,⟨C,dC,nd,sys,most⟩⟩ its []:=by
 refine cB (S _ (.head _)) fun N C1 lo3=>?_
 refine bC (S _ jT) fun A nA=>?_
 have O:=S _ uO
 refine bC (S _ M1) fun D lo2=>?_
 refine bC (S _ PY) fun R nR=>?_
 have hps:lQ w h its:=fun a ha=>⟨A a ha,by
  have:(a.1.rx,a.1.rdx,a.2)∈its.map fun a:af=>(a.1.rx,a.1.rdx,a.2):=List.mem_map_of_mem (f:=fun a:af=>(a.1.rx,a.1.rdx,a.2)) ha
  rw [rel] at this
  refine ab (List.mem_map.mp this) fun r0 hr0 e0=>?_
  have h1:=congrArg (·.1) e0
  have h2:=congrArg (·.2.1) e0
  have h3:=congrArg (·.2.2) e0
  dsimp only at h1 h2 h3
  rw [←h1,←h2,←h3]
  exact R r0 hr0⟩
 refine ⟨N,hps,O,D,lo3,lo2,by rw [rel.len];exact h3,hm,by rw [rel.nums];exact asc,?_⟩
 have p:=yv sep [0,1,2,3,6,4] (by decide)
 have nd4:([C,dC,nd]:List Addr).Nodup:=List.nodup_cons.mpr ⟨fun q=>(List.mem_cons.mp q).elim C1 fun q=>N.ap.1 (ur q),List.nodup_cons.mpr ⟨fun q=>N.ap.2 (ur q),List.nodup_cons.mpr ⟨mN,.nil⟩⟩⟩
 have nd2:([x,dx]:List Addr).Nodup:=List.nodup_cons.mpr ⟨fun q=>O.ne (ur q),List.nodup_cons.mpr ⟨mN,.nil⟩⟩
 have n368:368∉gf rs:=fun q=>((gI rO.symm p (i:=4) (j:=5) (by decide) rfl rfl:rO aV (i5 w rs))).1 368 (.head _) q
 have:=uu (Os:=[xZ w C dC nd sys most,IT w its,jH w x 488 dx [("ports",.ref pd),("chooser",.ref C)],d6 w pd (qv its)]) (Rs:=[aV,i5 w rs]) p (QY ⟨rfl,nd4⟩ ⟨rfl,nA⟩ ⟨rfl,nd2⟩ ⟨rfl,List.nodup_cons.mpr ⟨mN,.nil⟩⟩) (by
  show (368::4::(gf rs++ [])).Nodup
  rw [List.append_nil]
  exact List.nodup_cons.mpr ⟨fun q=>(List.mem_cons.mp q).elim (by decide) n368,nR⟩)
 refine (List.Perm.nodup_iff ?_).mpr this
 have e:its.flatMap (fun a:af=>[a.1.rx,a.1.rdx])=gf rs:=rel.rows
 show ((([368,4]++ [C,dC,nd])++oO (its.map fun a:af=>a.1))++([x,dx]++ [pd])).Perm ([C,dC,nd]++(nc its++([x,dx]++([pd]++([368,4]++(gf rs++ []))))))
 refine ((List.Perm.append_left _ yE).append_right _).trans ?_
 rw [e]
 refine List.perm_iff_count.mpr fun z=>?_
 simp only [List.count_append,List.count_nil]
 lia
theorem Ld (z:Addr) (h:z∈dxs its):z∈nc its:=by
 refine ab (List.mem_map.mp h) fun a ha e=>?_
 exact List.mem_flatMap.mpr ⟨a,ha,e▸jT⟩
theorem LK (rel:lq sys rs its) (z:Addr) (h:z∈qZ its):z∈nc its∨z∈gf rs:=by
 rw [mz] at h
 exact rel.rows▸List.mem_append.mp (yE.mem_iff.mp h)
theorem sT (h3:rs.length≤3) (hm:0≤most) (asc:(rs.map (·.row.number)).Pairwise (· < ·)):Sp w 8 488 [aw sys,.ref rl,.int most] [aV,i5 w rs,(aq rl (rs.map fun r:RI=>D.ref r.rx)).ro] fun K=>∀b its,b.c.sys=sys→b.c.most=most→lq sys rs its→K (.ref b.B) [cD w b its [],aV,i5 w rs]:=by
 refine Sp.mono (sY (n:=7) (fI:=407) (Q:=fun x dx K=>∀b its,b.B=x→b.c.sys=sys→b.c.most=most→lq sys rs its→K .none [cD w b its [],aV,i5 w rs]) (by kernel_rfl) (by kernel_rfl) (by kernel_rfl) fun x dx=>lC id ["self","system","rows","most"] mO (fun v1 v2 v3 v4 s P=>BindsTo.of_defaults (T:=400) (o:=e7 [.int 8 756] 0) (items:= #[.int 8 756]) (n:=0) (by rfl) (P.k _ _ (by kernel_rfl)) (by rfl) (by rfl) (by rfl)) (fun v1 v2 v3 v4 n=>by kernel_rfl) (fun V V r=>r) (fun k l K q=>?_) (by decide) rfl) fun K q x dx b its e1 e2 e3 e4=>⟨rfl,e1▸q b its e2 e3 e4⟩
 refine mZ 1 (BO fun pd=>⟨rfl,aa rfl,?_⟩) (by kernel_rfl)
 refine D6 (IT w []) rfl (fun V=>⟨fun V h=>noM h,.nil⟩) [1,0,3,4,2] (c8 (xO 4 (aa rfl) (hs 4 (P:=(aq rl (rs.map fun r:RI=>D.ref r.rx)).ro)) ?_))
 refine yW (L0:=[("self",.ref x),("system",aw sys),("rows",.ref rl),("most",.int most)]) (fun i K=>∀its,lq sys (rs.take i) its→K [("self",.ref x),("system",aw sys),("rows",.ref rl),("most",.int most)] [IT w its,jH w x 488 dx [("ports",.ref pd)],d6 w pd (qv its),i5 w rs,(aq rl (rs.map fun r:RI=>D.ref r.rx)).ro,aV]) (fun K k=>k [] rfl) (fun k' i r hi its rel=>?_) fun its rel=>?_
 ·have hr:=List.mem_of_getElem? hi
  have np:=H7 asc rel hi
  refine cZ (iq (bB (aa rfl) ((hs 3 (P:=i5 w rs)).mp fun V S=>S.1 r hr) (by kernel_rfl) rfl) (bB (aa rfl) (hs 1 (P:=jH w x 488 dx [("ports",.ref pd)])) (by kernel_rfl) rfl) (hs 2 (P:=d6 w pd (qv its))) fun h S=>xp gj S.1 S.2) (fun e=>by rw [Ei np] at e;cases e) fun V=>bM ?_
  refine D8 (i1:=r.row.number) (kds:=qv its) (pd:=pd) 4 (bw (Ar _) (by kernel_rfl) (eM rfl (eM rfl (cR (zy [3] [0,1,2,4,5] (Jg hr) fun y dy=>⟨rfl,⟨bB (aa rfl) (hs 3 (P:=jH w x 488 dx [("ports",.ref pd)])) (by kernel_rfl) rfl,bB (aa rfl) ((hs 1 (P:=i5 w rs)).mp fun V S=>S.1 r hr) (by kernel_rfl) rfl⟩,?_⟩))))) np (by delta qv;rw [List.length_map,rel.len,List.length_take];exact Nh h3 lr)
  refine Dk 0 2 [3,4,1,5,6] (I9 ⟨⟨y,dy,r.rx,r.rdx⟩,ah.fresh sys r.row⟩ ⟨rfl,rfl⟩) (b9 (L0:=[("self",.ref x),("system",aw sys),("rows",.ref rl),("most",.int most)]) (fun K k=>?_) rfl)
  have:=k (its++ [⟨⟨y,dy,r.rx,r.rdx⟩,ah.fresh sys r.row⟩]) (by
   delta lq at rel ⊢
   rw [List.take_add_one,hi,List.map_append,List.map_append,rel];rfl)
  rwa [qv,List.map_append] at this
 ·rw [List.take_length] at rel
  refine mZ 2 (bw (Dq _) (by kernel_rfl) (eM rfl (eM rfl (cR (gg (Pre:=[]) zZ fun C dC nd=>⟨rfl,aa rfl,?_⟩))))) (by kernel_rfl)
  refine tf (cD w ⟨x,dx,pd,⟨C,dC,nd,sys,most⟩⟩ its []) [0,1,2,3,4] [6,4] (cT (q ⟨x,dx,pd,⟨C,dC,nd,sys,most⟩⟩ its rfl rfl rfl rel)) (fun h sep S=>Mi rel h3 hm asc sep S)
   (BP (et (P:=xZ w C dC nd sys most) (.head _) uO) fun z hz=>et (P:=IT w its) jT (Ld z hz))
   (MZ (fun z q=>bV (P:=xZ w C dC nd sys most) (.head _) q) (MZ (fun z q=>(LK rel z q).elim (bV (P:=IT w its) jT) (bV (P:=i5 w rs) PY)) (ON (bV (P:=jH w x 488 dx _) uO (.head _)) (bV (P:=jH w x 488 dx _) uO jT) (bV (P:=d6 w pd (qv its)) M1 (.head _)))))
   fun k hk hr P e=>(Cv hr).elim (fun q=>absurd (q▸hk) (by decide)) fun q=>by subst q;cases e;rfl
end
structure ML (sy:Nat→aT) (most:Int) (rs:Nat→List RI) (ll:Addr) (links:List (Int×Int)) (many:Nat) (c:WC) (e:E2):Prop where
 b:∀i,i <2→(c.b i).c.sys=sy i∧(c.b i).c.most=most∧lq (sy i) (rs i) (e i).its∧(e i).ns= []
 cl:c.ll=ll∧c.links=links∧c.many=many
noncomputable def OE (w:World) (Ps Qs:List HP):Prop:=∀E h,Fi w E Ps h→Fi w E Qs h
variable {ll:Addr} {rs:Nat→List RI} {sy:Nat→aT}
section
variable {sl rl sc el ul:Addr} {l:Nat→Addr} {links:List (Int×Int)} {b0 b1:BC} {c:WC} {e:E2} {i0 i1:List af} {d0:D}
theorem Sp.see {f:Addr} {ds:List D} {Pre:List HP} {Q:(D→List HP→Prop)→Prop} (sp:Sp w n f ds Pre Q):Sp w n f ds Pre fun K=>Q fun d Qs=>∃Rs,OE w Qs Rs∧K d Rs:=fun A r K q s vs rs fr st sep=>(sp A r _ q s vs rs fr st sep).mono fun v h'=>dT fun d Qs Rs se k r X=>⟨d,Rs,k,r,se _ _ X⟩
theorem QN {ks ks2:List Nat} {Ps:List HP} (h:(ks.all fun k=>!ks2.contains k)=true):∀k∈ks,k∈ks2→∀P,Ps[k]? =some P→P.W= []:=fun k a b=>by
 have:=List.all_eq_true.mp h k a
 rw [List.contains_iff_mem.mpr b] at this
 cases this
theorem Ag {R S0 S1:HP}:OE w [aq ul [],aq c.el (Ol c),bn w c e 1,aV,R,bn w c e 0,S0,j4 w (strKind pw w) c.sc (KN c),S1,P,aq c.ll (c.links.map au)] [aV,bn w c e 0,bn w c e 1,iW w c,aq ul [],S0,R,S1]:=fun E h X=>
 (X.conv (iW w c) [7,1,10] [3,5,2,0,6,4,8] (by decide) ⟨(X.S (j4 w (strKind pw w) c.sc (KN c)) (List.mem_of_getElem? (i:=7) rfl)).1,X.S _ jT,X.S _ (List.mem_of_getElem? (i:=10) rfl)⟩ (fun z q=>noM q) (ON (bV (P:=j4 w (strKind pw w) c.sc (KN c)) (.head _) (.head _)) (bV (P:=aq c.el (Ol c)) jT (.head _)) (bV (P:=aq c.ll (c.links.map au)) uO (.head _))) (QN (by rfl))).sel (ks:=[1,2,3,0,4,5,6,7]) (by decide)
noncomputable abbrev xy (rl:Addr) (l:Nat→Addr) (rs:Nat→List RI):List HP:=[aq rl [.ref (l 0),.ref (l 1)],aq (l 0) ((rs 0).map fun r:RI=>D.ref r.rx),aq (l 1) ((rs 1).map fun r:RI=>D.ref r.rx)]
noncomputable abbrev BV (rl:Addr) (l:Nat→Addr) (rs:Nat→List RI):HP:=bE (xy rl l rs)
theorem yO (hm:0≤most) (hl:many≤3) (nums:∀i,i <2→(rs i).map (·.row.number)=ed many):Sp w 9 520 [d0,.ref sl,.int most,.ref rl,.ref ll] [aq sl [aw (sy 0),aw (sy 1)],BV rl l rs,i5 w (rs 0),i5 w (rs 1),aV,aq ll (links.map au)]
  fun K=>∀c e,ML sy most rs ll links many c e→K (.ref c.sc) [aV,bn w c e 0,bn w c e 1,iW w c,aq c.ul [],i5 w (rs 0),i5 w (rs 1),aq sl [aw (sy 0),aw (sy 1)]]:=by
 have h3:∀i,i <2→(rs i).length≤3:=fun i hi=>by
  have:=congrArg List.length (nums i hi)
  unfold ed at this
  rw [List.length_map,List.length_map,List.length_range] at this
  rw [this];exact hl
 have asc:∀i,i <2→((rs i).map (·.row.number)).Pairwise (· < ·):=fun i hi=>nums i hi▸yR
 refine Sp.mono (Sp.see (Q:=fun K=>∀b0 b1 i0 i1 sc el ul,b0.c.sys=sy 0→b0.c.most=most→lq (sy 0) (rs 0) i0→b1.c.sys=sy 1→b1.c.most=most→lq (sy 1) (rs 1) i1→K (.ref sc) [aq ul [],aq el [.ref b0.B,.ref b1.B],cD w b1 i1 [],aV,i5 w (rs 1),cD w b0 i0 [],i5 w (rs 0),j4 w (strKind pw w) sc [("ends",.ref el),("links",.ref ll),("up",.ref ul)],aq sl [aw (sy 0),aw (sy 1)],(aq rl [.ref (l 0),.ref (l 1)]).ro,aq ll (links.map au)])
  (bf ["source","systems","most","rows","links"] tT fun k L K q=>?_)) fun K q b0 b1 i0 i1 sc el ul x1 x2 x3 y1 y2 y3=>⟨_,Ag (c:=⟨fun i=>if i=0 then b0 else b1,sc,el,ll,ul,links,many⟩) (e:=fun i=>⟨if i=0 then i0 else i1,[]⟩),q ⟨fun i=>if i=0 then b0 else b1,sc,el,ll,ul,links,many⟩ (fun i=>⟨if i=0 then i0 else i1,[]⟩) ⟨lS ⟨x1,x2,x3,rfl⟩ ⟨y1,y2,y3,rfl⟩,rfl,rfl,rfl⟩⟩
 refine (Fg (P:=aq (l 1) ?d0) (Bs:=xy rl l rs) 1 2 ?q0 ?a0 ?b0:_)
 case a0=>exact rfl
 case b0=>exact rfl
 refine (Fg (P:=aq (l 0) ?d1) (Bs:=xy rl l rs) 2 1 ?q1 ?a1 ?b1:_)
 case a1=>exact rfl
 case b1=>exact rfl
 refine (Fg (P:=aq rl ?d2) (Bs:=xy rl l rs) 3 0 ?q2 ?a2 ?b2:_)
 case a2=>exact rfl
 case b2=>exact rfl
 refine @cq _ _ _ _ _ _ _ _ [3,0,1,2,5,6,7,8] ?_ (by decide)
 refine kW ?_
 refine (AV (knd:=strKind pw w) [?x,?y,?z] (fun sc=>?k) ?a ?b ?c:_)
 case a=>exact rfl
 case b=>exact rfl
 case c=>exact rfl
 refine mB "ends" bu rz (jZ (dr (bw (uS _) (by kernel_rfl) (AN (ae (dM (k:=0) (aa rfl) aj ((hs 1 (P:=aq sl [aw (sy 0),aw (sy 1)])).mp fun V S=>S.w) rfl) (ae (dM (k:=0) (aa rfl) aj ((hs 2 (P:=(aq rl [.ref (l 0),.ref (l 1)]).ro)).mp fun V S=>S.w) rfl) (ae (aa rfl) aC))) ?_) (by rfl))))
 refine zy [7,5,3] [0,1,2,4,6,8] (sT (h3 0 (by decide)) hm (asc 0 (by decide))) fun b0 i0 x1 x2 x3=>?_
 refine dr (bw (uS _) (by kernel_rfl) (AN (ae (dM (k:=1) (aa rfl) aj ((hs 4 (P:=aq sl [aw (sy 0),aw (sy 1)])).mp fun V S=>S.w) rfl) (ae (dM (k:=1) (aa rfl) aj ((hs 5 (P:=(aq rl [.ref (l 0),.ref (l 1)]).ro)).mp fun V S=>S.w) rfl) (ae (aa rfl) aC))) ?_))
 refine zy [1,7,6] [0,2,3,4,5,8] (sT (h3 1 (by decide)) hm (asc 1 (by decide))) fun b1 i1 y1 y2 y3=>?_
 refine cR ⟨Nat.le_of_ble_eq_true rfl,fun el=>?_⟩
 refine mB "links" bu rz (zw (aa rfl) (mB "up" bu rz (jZ (cR ⟨Nat.le_of_ble_eq_true rfl,fun ul=>?_⟩))))
 exact Fy ⟨7,rfl,by simp only [List.map_cons,List.map_nil];decide,q b0 b1 i0 i1 sc el ul x1 x2 x3 y1 y2 y3⟩
end
noncomputable abbrev gL (c:WC) (rl fo lo:Addr):LL:=[("scene",.ref c.sc),("rows",.ref rl),("found",.ref fo),("lone",.ref lo)]
noncomputable abbrev Rb (w:World) (c:WC) (e:E2) (up:List (Int×Int)) (rl:Addr) (fd:Nat→Addr) (rs:Nat→List RI) (sl:Addr) (sy:Nat→aT):List HP:=
 [aV,bn w c e 0,bn w c e 1,iW w c,aq c.ul (up.map au),aq rl [.ref (fd 0),.ref (fd 1)],d6 w (fd 0) (cG (rs 0)),d6 w (fd 1) (cG (rs 1)),i5 w (rs 0),i5 w (rs 1),aq sl [aw (sy 0),aw (sy 1)]]
variable {fd:Nat→Addr}
section
variable {k:Cx w n} {c:WC} {e:E2} {rl sl:Addr} {q:Int×Int→Nat→RI} {l:Int×Int} {i:Nat} {a b:Expr} {K:D→List HP→Prop}
theorem MU (O:rX rs q l) (hi:i <2):Hs (bE (Rb w c e up rl fd rs sl sy)::Qs) fun h=>Ob w h (q l i).rx 143 (q l i).rdx (dZ (q l i).row):=by apply iT (s:=i) hi;exact (ha 8 (P:=i5 w (rs 0))).mp fun V S=>S.1 _ (O.m 0 (by decide));exact (ha 9 (P:=i5 w (rs 1))).mp fun V S=>S.1 _ (O.m 1 (by decide))
theorem OV (hi:i <2):Hs (bE (Rb w c e up rl fd rs sl sy)::Qs) fun h=>nh (intKind pw w) h (fd i) (cG (rs i)):=by apply iT (s:=i) hi;exact (ha 6 (P:=d6 w (fd 0) (cG (rs 0)))).mp fun V S=>S.1;exact (ha 7 (P:=d6 w (fd 1) (cG (rs 1)))).mp fun V S=>S.1
theorem DV (O:rX rs q l) (hi:i <2) (h1:Xp k env L (bE (Rb w c e up rl fd rs sl sy)::Qs) a (.ref rl)) (h2:Xp k env L (bE (Rb w c e up rl fd rs sl sy)::Qs) e2 (.int (i:Nat))) (h3:Xp k env L (bE (Rb w c e up rl fd rs sl sy)::Qs) b (.int (lk l i))) (s1:autoParam (sm e2=true) aR) (s2:autoParam (sm b=true) aR):Xp k env L (bE (Rb w c e up rl fd rs sl sy)::Qs) (.Subscript (.Subscript a e2 p1) b p2) (.ref (q l i).rx):=
 i9 (dM (k:=i) (d:=.ref (fd i)) h1 h2 ((ha 5 (P:=aq rl [.ref (fd 0),.ref (fd 1)])).mp fun V S=>S.w) (by apply iT (s:=i) hi;exact rfl;exact rfl) (Nat.lt_of_lt_of_le hi lr) s1) h3 gj (OV hi) (O.a i hi) s2
theorem mF (O:rX rs q l) (hi:i <2) (h1:Xp k env L (bE (Rb w c e up rl fd rs sl sy)::Qs) a (.ref (q l i).rx)) (g:(dZ (q l i).row).lookup x=some d) (ok:autoParam (jA (Mine.K w.params) 143 x=true) aK) (hn:autoParam (nb a=true) aR):Xp k env L (bE (Rb w c e up rl fd rs sl sy)::Qs) (.Attribute a x pos) d:=bB h1 (MU O hi) ok g hn
theorem GJ {en:tx (Int×Int)} {fo:Addr} {es:List ((Int×Int)×Addr×List D)} {Ps:List HP} (j:Nat) (hP:autoParam (Ps[j]? =some (e8 w en fo es)) aR):Hs Ps fun V=>(es.map (·.1)).Nodup:=(hs j hP).mp fun h S=>by
 have:=S.1.d.nodup
 rwa [List.map_map] at this
theorem oF {l:Int×Int} (h:up[i]? =some l):up.take (i+1)=up.take i++ [l]:=by rw [List.take_add_one,h];rfl
theorem DB (hu:up.length≤3) (hq:∀l∈up,rX rs q l) (hs':az (up.map au) (up.map au)=up.map au):Sp w 5 553 [.ref c.sc,.ref rl] [bE (Rb w c e up rl fd rs sl sy)] fun K=>∀fo lo es,qp q up es→es.length≤3→K (.tup [.ref fo,.ref lo]) [bE (Rb w c e up rl fd rs sl sy),e8 w cL fo es,aq lo ((lh q up).map au)]:=by
 refine bf ["scene","rows"] sv fun k l K qq=>?_
 refine mJ (Fb (en:=cL) fun fo=>jZ (cR ⟨Nat.zero_le _,fun lo=>cq [2,1,0] (c8 (Nd (hs'▸N1 (by rfl) (wV (c:=c) (ha 3) (aa rfl) xo) ((ha 4 (P:=aq c.ul (up.map au))).mp fun V S=>S) oL (by rw [List.length_map];exact hu)) ?_))⟩))
 refine yW (L0:=gL c rl fo lo) (fun i K=>∀es,qp q (up.take i) es→es.length≤i→K (gL c rl fo lo) [bE (Rb w c e up rl fd rs sl sy),e8 w cL fo es,aq lo ((lh q (up.take i)).map au)]) (fun K k=>k [] ⟨fun x hx=>(noM hx),fun l hl=>(noM hl)⟩ (Nat.le_refl _)) (fun k' i l hl es rel ln=>?_) fun es rel ln=>?_
 ·have O:=hq l (List.mem_of_getElem? hl)
  have hi3:i <3:=Nat.lt_of_lt_of_le (List.getElem?_eq_some_iff.mp hl).1 hu
  refine mJ (zw (DV (i:=0) O (by decide) (aa rfl) aj (pD (i:=0) (by decide) (aa rfl) aj)) (zw (DV (i:=1) O (by decide) (aa rfl) aj (pD (i:=1) (by decide) (aa rfl) aj)) ?_))
  rw [oF hl]
  refine cZ (fB (dA (mF (i:=0) O (by decide) (aa rfl) rfl)) fun V=>fB (dA (mF (i:=1) O (by decide) (aa rfl) rfl)) fun V=>fB (nO (dA (mF (i:=0) O (by decide) (aa rfl) rfl)) fun V=>nO (dA (mF (i:=1) O (by decide) (aa rfl) rfl)) fun V=>Ci) fun V=>zN) (fun ej=>?_) fun ej=>?_
  ·rw [←Ge] at ej
   refine gp (GJ 1) fun nk=>GB (en:=cL) (key:=iU q l) (d:=au l) 1 rfl (aa rfl) (gU (ae (mF (i:=0) O (by decide) (aa rfl) rfl) (ae (mF (i:=1) O (by decide) (aa rfl) rfl) aC))) rfl (by omega) (fun x hx=>?_) fun y=>bM (b9 (L0:=gL c rl fo lo) (fun K k=>?_) rfl)
   ·rw [(rel.of x hx).1,List.length_map]
    have:=List.length_filter_le (fun l=>pP q l&&iU q l==x.1) (up.take i)
    rw [List.length_take] at this
    omega
   ·have:=k _ (rel.snoc (y:=y) nk ej) (Nat.le_trans Mw (Nat.succ_le_succ ln))
    rwa [s8,ej,if_pos rfl,List.append_nil] at this
  ·rw [←Ge] at ej
   refine kZ 2 rfl (aa rfl) (aa rfl) (by rw [List.length_map];exact Nat.le_trans (List.length_filter_le ..) (by rw [List.length_take];exact Nh hu lr)) rfl (bM (b9 (L0:=gL c rl fo lo) (fun K k=>?_) rfl))
   have:=k _ (rel.skip ej) (Nat.le_succ_of_le ln)
   rwa [s8,ej,List.map_append] at this
 ·rw [List.take_length] at rel ⊢
  exact bz (gU (ae (aa rfl) (ae (aa rfl) aC))) (qq fo lo es rel (Nat.le_trans ln hu))
end
noncomputable abbrev QP (w:World) (q:QC) (sn:Nat→List Int) (Rs:List HP:=[]):List HP:=bE (Rb w q.c q.e q.up q.rl q.fd q.rs q.sl q.sy)::(e8 w cL q.fo q.es).ro::(aq q.lo (q.lone.map au)).ro::aq q.se [.ref q.s0,.ref q.s1]::aq q.s0 ((sn 0).map D.int)::aq q.s1 ((sn 1).map D.int)::Rs
noncomputable abbrev qL (q:QC) (most:Int):LL:=[("seen",.ref q.se),("ends",.ref q.c.el),("lone",.ref q.lo),("groups",.ref q.fo),("scene",.ref q.c.sc),("rows",.ref q.rl),("systems",.ref q.sl),("most",.int most)]
variable {lo:Nat}
section
variable {k:Cx w n} {q:QC} {sn sk:Nat→List Int} {most:Nat} {c:WC} {e:E2} {rl sl:Addr} {l:Int×Int} {i:Nat} {a b:Expr} {B:Nat→Int×Int→Int} {Bg:Nat→Int} {v:Int}
noncomputable abbrev PS (w:World) (c:WC) (e:E2) (i:Nat) (h:Heap):Prop:=CP w h (c.b i) (e i).its (e i).ns∧gy (c.b i) (e i).its
theorem Eh (hi:i <2):Hs (bE (Rb w c e up rl fd rs sl sy)::Qs) (PS w c e i):=fun h q=>
 have t:=ha 0 (P:=aV) (Bs:=Rb w c e up rl fd rs sl sy) (Ps:=Qs) rfl h q
 have x:oE w h (c.b i) (e i).its (e i).ns:=by apply iT (s:=i) hi;exact ha 1 (P:=bn w c e 0) (Bs:=Rb w c e up rl fd rs sl sy) (Ps:=Qs) rfl h q;exact ha 2 (P:=bn w c e 1) (Bs:=Rb w c e up rl fd rs sl sy) (Ps:=Qs) rfl h q
 ⟨x.bat t,x.ok⟩
theorem yi (hi:i <2) (h1:Xp k env L (bE (Rb w c e up rl fd rs sl sy)::Qs) a (.ref c.el)) (h2:Xp k env L (bE (Rb w c e up rl fd rs sl sy)::Qs) b (.int (i:Nat))) (s1:autoParam (sm b=true) aR):Xp k env L (bE (Rb w c e up rl fd rs sl sy)::Qs) (.Subscript a b p1) (.ref (c.b i).B):=dM (k:=i) (d:=.ref (c.b i).B) h1 h2 ((ha 3 (P:=iW w c)).mp fun V S=>S.2.1.w) (Ki hi) (Nat.lt_of_lt_of_le hi lr) s1
theorem Kn (hi:i <2) (hb:IS c e bd l) (hn:Nat.ble 4 n=true) (h1:Xp k env L (bE (Rb w c e up rl fd rs sl sy)::Qs) a (.ref (c.b i).B)) (h2:Xp k env L (bE (Rb w c e up rl fd rs sl sy)::Qs) b (.int (lk l i))) (hm:autoParam (qa a [b] p2 p3=true) aR):Xp k env L (bE (Rb w c e up rl fd rs sl sy)::Qs) (.Call (.Attribute a "bundle_of" p2) [b] [] p3) (c5 (bd i l)):=by
 refine ar (hb.a i hi) fun x hx hnum hbd=>?_
 rw [←hbd]
 exact oY h1 ((Eh hi).mp fun V S=>S.1.o) (ae (hnum▸h2) aC (fD hm).1) (by kernel_rfl) rfl (Eh hi) (fun h p S=>nU k.r p S.2 S.1 hx hn) hm
theorem KH (hi:i <2) (hn:Nat.ble 6 n=true) (h1:Xp k env L (bE (Rb w c e up rl fd rs sl sy)::Qs) a (.ref (c.b i).B)) (h2:Xp k env L (bE (Rb w c e up rl fd rs sl sy)::Qs) b (.int v)) (hm:autoParam (qa a [b] p2 p3=true) aR):Xl k env L (bE (Rb w c e up rl fd rs sl sy)::Qs) (.Call (.Attribute a "members" p2) [b] [] p3) ((gN (e i).its (some v)).map D.int):=
 Gk h1 ((Eh hi).mp fun V S=>S.1.o) (ae h2 aC (fD hm).1) (by kernel_rfl) rfl (Eh hi) (fun h p S=>Cb (bd:=some v) k.r p S.2 S.1 hn) hm
theorem JC (hi:i <2):(QP w q sk Qs)[4+i]? =some (aq (q.sa i) ((sk i).map D.int)):=by apply iT (s:=i) hi;exact rfl;exact rfl
theorem wG (hi:i <2) (h1:Xp k env L Ps a (.ref q.se)) (h2:Xp k env L Ps b (.int (i:Nat))) (O:Hs Ps (aq q.se [.ref q.s0,.ref q.s1]).S) (s1:autoParam (sm b=true) aR):Xp k env L Ps (.Subscript a b p1) (.ref (q.sa i)):=dM (k:=i) (d:=.ref (q.sa i)) h1 h2 (O.mp fun V S=>S.w) (QC.se_at hi) (Nat.lt_of_lt_of_le hi lr) s1
theorem Fj (hi:i <2):(QP w q sk Qs).set (4+i) (aq (q.sa i) ((sk i).map D.int++ [.int v]))=QP w q (app sk i v) Qs:=by
 apply iT (s:=i) hi
 ·have e0:app sk 0 v 0=sk 0++ [v]:=if_pos rfl
  have e1:app sk 0 v 1=sk 1:=if_neg (by decide)
  rw [QP,QP,e0,e1,List.map_append];rfl
 ·have e0:app sk 1 v 0=sk 0:=if_neg (by decide)
  have e1:app sk 1 v 1=sk 1++ [v]:=if_pos rfl
  rw [QP,QP,e0,e1,List.map_append];rfl
theorem LM {i:Nat} (h:i∈ [0,1]):i <2:=(Cv h).elim (fun e=>e▸by decide) fun e=>e▸by decide
noncomputable abbrev rA (i:Nat):Stmt:=(cu (dz 60)).getD i (.Pass ⟨0,0,0,0⟩)
noncomputable abbrev tF (l:Nat):Env:=callEnvC (cJ (dz 60) "_law_rest_right" .none (.str "law_pc0383_01" 876) (.ref 557)) l 558
theorem Dd {ls:List (Int×Int)} {l:Int×Int}:∀{s:Nat},s <2→hK (xe sn B ls) (fun s=>B s l) 2 s=xe sn B (ls++ [l]) s
 |0,_=>by
  show (app (app (xe sn B ls) 0 (B 0 l)) 1 (B 1 l)) 0=_
  delta app xe
  rw [if_neg (by decide),if_pos rfl,List.map_append,List.append_assoc];rfl
 |1,_=>by
  show (app (app (xe sn B ls) 0 (B 0 l)) 1 (B 1 l)) 1=_
  delta app xe
  rw [if_pos rfl,if_neg (by decide),List.map_append,List.append_assoc];rfl
variable {k:Cx w 8}
theorem IZ (hl:∀l∈q.c.links,IS q.c q.e bd l∧(l∉q.up→bd 0 l=none∧bd 1 l=none)) (hk:Tr k (tF lo) (qL q most) (QP w q sn) rest J):Tr k (tF lo) (qL q most) (QP w q sn) (rA 2::rest) J:=by
 refine c8 (xO 0 (wV (c:=q.c) (ha 3) (aa rfl) xP) ((ha 3 (P:=iW w q.c)).mp fun V S=>S.2.2) ?_ rfl rfl (bV (P:=iW w q.c) M1 uO))
 refine yW (L0:=qL q most) (fun i K=>K (qL q most) (QP w q sn)) (fun K k=>k) (fun k' i l hli=>?_) hk
 refine bC (hl l (List.mem_of_getElem? hli)) fun hbd hno=>?_
 refine cZ (fB (iq (aa rfl) (wV (c:=q.c) (ha 3) (aa rfl) xo) (ha 4 (P:=aq q.c.ul (q.up.map au))) fun h S=>yw k'.r S) fun V=>fB (Eb (iY (pc (f:=fun i=>c5 (bd i l)) [("link",au l),("ends",.ref q.c.el)] Ip (fun i hi C=>Kn (LM hi) hbd (by rfl) (yi (LM hi) (aa rfl) (aa rfl)) (pD (LM hi) (aa rfl) (aa rfl))) (by decide))) (qj (ae gh (ae gh aC))) (sN (bs:=[bd 0 l,bd 1 l])) rfl) fun V=>zN) (fun hb=>?_) fun hb=>bM (b9 (fun K k=>k) rfl)
 refine bC (aZ hb) fun a b=>?_
 refine bC (hno fun z=>by rw [List.contains_iff_mem.mpr z] at a;cases a) fun b0 b1=>?_
 rw [show ([0,1]:List Nat).map (fun i=>c5 (bd i l))= [.none,.none] by show [c5 (bd 0 l),c5 (bd 1 l)]=_;rw [b0,b1];rfl] at b
 exact absurd (aZ b).1 (by decide)
theorem IG (hl:∀l∈q.lone,DS q B l) (hn:∀i l,q.lone[i]? =some l→∀s,s <2→B s l∉xe sn B (q.lone.take i) s) (h5:∀s,s <2→(sn s).length+q.lone.length≤500) (hk:Tr k (tF lo) (qL q most) (QP w q (xe sn B q.lone)) rest J):Tr k (tF lo) (qL q most) (QP w q sn) (rA 4::rest) J:=by
 refine c8 (xO 2 (aa rfl) (hs 2 (P:=(aq q.lo (q.lone.map au)).ro)) ?_)
 refine yW (L0:=qL q most) (fun i K=>K (qL q most) (QP w q (xe sn B (q.lone.take i)))) (fun K k=>?_) (fun k' i l hli=>?_) (by rw [List.take_length];exact hk)
 ·have e:∀s,xe sn B [] s=sn s:=fun s=>List.append_nil _
  rwa [List.take_zero,QP,e,e] at k
 have hin:=List.mem_of_getElem? hli
 obtain hl:=hl l hin
 refine c8 (g9 (k:=2) aj ?_ (by decide))
 refine vZ (L0:=("link",au l)::qL q most) (fun s K=>K (("link",au l)::qL q most) (QP w q (hK (xe sn B (q.lone.take i)) (fun s=>B s l) s))) (fun K k=>k) (fun k2 s hs2=>?_) ?_
 ·refine ar (hl.a s hs2) fun x hx hnum hw=>?_
  refine bC (yU (sn:=xe sn B (q.lone.take i)) (b:=fun s=>B s l) hs2) fun e1 e2=>?_
  have n1:=hn i l hli s hs2
  have z5:((xe sn B (q.lone.take i)) s).length≤500:=by
   delta xe
   rw [List.length_append,List.length_map,List.length_take]
   have:=h5 s hs2
   omega
  rw [←e1] at n1 z5
  rw [e2]
  clear e1 e2
  generalize hK (xe sn B (q.lone.take i)) (fun s=>B s l) s=sk at*
  refine gw (gJ (d:=.int (B s l)) (ae (yi hs2 (aa rfl) (aa rfl)) (ae (pD hs2 (aa rfl) (aa rfl)) aC)) (tN _) (by kernel_rfl) (Eh hs2) fun h p S=>by
   have:=En k2.r p S.2 S.1 hx
   rw [hnum,hw] at this
   exact this) ?_
  refine cZ (nO (bF (aa rfl) gh fun V=>yh) fun V=>nO (iq (aa rfl) (wG hs2 (aa rfl) (aa rfl) (hs 3)) (hs (4+s) (JC hs2)) fun h S=>gV k2.r S dX rfl) fun V=>nO (Eb (KH hs2 (by rfl) (yi hs2 (aa rfl) (aa rfl)) (aa rfl)) (qj (ae (pD hs2 (aa rfl) (aa rfl)) aC)) dX rfl) fun V=>Ci) (fun hb=>?_) fun V=>bM (kZ (4+s) (JC hs2) (wG hs2 (aa rfl) (aa rfl) (hs 3)) (aa rfl) (by rw [List.length_map];exact Nat.le_trans z5 lr) rfl (Fj hs2▸b9 (fun K k=>k) rfl))
  rw [hl.m s hs2,wq,Bool.eq_false_iff.mpr fun z=>n1 (List.contains_iff_mem.mp z),show lp (([lk l s]:List Int).map D.int) [.int (lk l s)]=true from u0 [lk l s]] at hb
  exact absurd hb (by show ¬(false||(false||(false||false)))=true;decide)
 ·refine b9 (L0:=qL q most) (fun K k=>?_) rfl
  have e:∀s,s <2→hK (xe sn B (q.lone.take i)) (fun s=>B s l) 2 s=xe sn B (q.lone.take (i+1)) s:=fun s hs=>by rw [oF hli];exact Dd hs
  rw [QP,←e 0 (by decide),←e 1 (by decide)] at k
  exact k
theorem zt {n:Nat} {k:Cx w n} {L0:LL} {ss:List Stmt} (x:Tr k env L0 Ps ss J) (hl:autoParam (iJ L0 L) aR):Tr k env L Ps ss J:=fun s h t m X=>x s h t m (X.loc fun x d e=>hl.look e)
noncomputable abbrev wL (q:QC) (most:Int) (y wa:Addr):LL:=("working",.ref wa)::("links",.ref y)::qL q most
theorem FZ {gl wk:List (Int×Int)} {y wa:Addr} (hg:QE q bd Bg gl wk) (hn:∀s,s <2→Bg s∉sn s) (h5:∀s,s <2→(sn s).length≤500) {ky:Int×Int} (hes:(ky,y,gl.map au)∈q.es)
  (hk:Tr k (tF lo) (wL q most y wa) (QP w q (hK sn Bg 2) [aq wa (wk.map au)]) rest J):Tr k (tF lo) (wL q most y wa) (QP w q sn [aq wa (wk.map au)]) ((qM (rA 3)).getD 3 (.Pass ⟨0,0,0,0⟩)::rest) J:=by
 refine c8 (g9 (k:=2) aj ?_ (by decide))
 refine vZ (L0:=wL q most y wa) (fun s K=>K (wL q most y wa) (QP w q (hK sn Bg s) [aq wa (wk.map au)])) (fun K k=>k) (fun k2 s hs2=>?_) hk
 refine bC (yU (sn:=sn) (b:=Bg) hs2) fun e1 e2=>?_
 have n1:=hn s hs2
 have z5:=h5 s hs2
 rw [←e1] at n1 z5
 rw [e2]
 clear e1 e2
 generalize hK sn Bg s=sk at*
 refine ab hg.ne fun kn hkn hk2=>?_
 have hgl:gl.length≤3:=by omega
 have eb:gl.map (fun l=>c5 (bd s l))=(List.replicate (kn+1) (Bg s)).map D.int:=by
  rw [List.map_replicate,←hkn]
  exact List.eq_replicate_iff.mpr ⟨List.length_map ..,fun d hd=>by refine ab (List.mem_map.mp hd) fun l hl zr53=>?_;subst zr53;rw [(hg.b l hl).2 s hs2];rfl⟩
 refine kT (pc (f:=fun l=>c5 (bd s l)) [("side",.int (s:Nat)),("ends",.ref q.c.el)] (sG (aa rfl) ((hs 1 (P:=(e8 w cL q.fo q.es).ro)).mp fun V S=>S.1.ls _ hes)) (fun l hl C=>Kn hs2 (hg.b l hl).1 (by rfl) (yi hs2 (aa rfl) (aa rfl)) (pD hs2 (aa rfl) (aa rfl))) (Nat.le_trans hgl lr)) (fun Dl=>?_)
 rw [eb]
 have O7:∀{sk},Hs (QP w q sk [aq wa (wk.map au),aq Dl ((List.replicate (kn+1) (Bg s)).map D.int)]) fun h=>cN h Dl ((List.replicate (kn+1) (Bg s)).map D.int):=hs 7 (P:=aq Dl ((List.replicate (kn+1) (Bg s)).map D.int))
 have pB:∀{n:Nat} {k:Cx w n} {L:LL} {sk} {p1 p2 p3:Pos} {kk:Nat},L.lookup (Str.ofString "bundles")=some (D.ref Dl)→Xp k (tF lo) L (QP w q sk [aq wa (wk.map au),aq Dl ((List.replicate (kn+1) (Bg s)).map D.int)]) (.Subscript (.Name "bundles" p1) (.Constant (.int 0) kk p2) p3) (.int (Bg s)):=fun h=>dM (k:=0) (aa h) aj (O7.mp fun V S=>S.w) rfl
 refine cq [1,2,3,4,5,6,7,0] (cZ (nO (iq gh (aa rfl) O7 fun h S=>gV k2.r S dX rfl) fun V=>nO (bF (Eu (b:=Bg s) (k:=kn) (aa rfl) (O7.mp fun h S=>by rwa [List.map_replicate] at S) (Nat.le_trans hk2 lr)) aj fun V=>nf) fun V=>nO (iq (pB rfl) (wG hs2 (aa rfl) (aa rfl) (hs 3)) (hs (4+s) (JC hs2)) fun h S=>gV k2.r S dX rfl) fun V=>Ci) (fun hb=>?_) fun V=>bM (kZ (4+s) (JC hs2) (wG hs2 (aa rfl) (aa rfl) (hs 3)) (pB rfl) (by rw [List.length_map];exact Nat.le_trans z5 lr) rfl ?_))
 ·rw [IL,wq,Bool.eq_false_iff.mpr fun z=>n1 (List.contains_iff_mem.mp z)] at hb
  exact absurd hb (by decide)
 ·show Tr k2 (tF lo) _ ((QP w q sk [aq wa (wk.map au),aq Dl ((List.replicate (kn+1) (Bg s)).map D.int)]).set (4+s) (aq (q.sa s) ((sk s).map D.int++ [.int (Bg s)]))) _ _
  rw [Fj hs2]
  refine cZ (Eb (KH hs2 (by rfl) (yi hs2 (aa rfl) (aa rfl)) (pB rfl)) (DW (by rfl) (iY (pc (f:=fun l=>.int (lk l s)) [("side",.int (s:Nat))] (sG (aa rfl) (hs 6 (P:=aq wa (wk.map au)))) (fun l hl C=>pD hs2 (aa rfl) (aa rfl)) (Nat.le_trans hg.wk lr))) (by have:=C8 (is:=wk.map fun l=>lk l s);rwa [List.map_map] at this) (by rw [List.length_map];exact hg.wk)) dX ?_) (fun hb=>by rw [hg.m s hs2] at hb;cases hb) fun V=>bM (cq [0,1,2,3,4,5,6] (b9 (fun K k=>k) rfl))
  rw [show az (wk.map fun l=>D.int (lk l s)) (wk.map fun l=>D.int (lk l s))=((az (wk.map fun l=>D.int (lk l s)) wk).map fun l=>lk l s).map D.int by rw [eV (fun l=>D.int (lk l s)) hg.wk,List.map_map];rfl]
  exact dX
end
section
variable {k:Cx w 8} {q:QC} {most:Nat} {Bg:Nat→Int×Int→Int} {GL:Int×Int→List (Int×Int)}
theorem GW {ks:List (Int×Int)} {k:Int×Int} {s:Nat} (h:s <2):hK (Hr Bg ks) (fun s=>Bg s k) 2 s=Hr Bg (ks++ [k]) s:=by
 apply iT (s:=s) h
 ·show (app (app (Hr Bg ks) 0 (Bg 0 k)) 1 (Bg 1 k)) 0=_
  delta app Hr
  rw [if_neg (by decide),if_pos rfl,List.map_append];rfl
 ·show (app (app (Hr Bg ks) 0 (Bg 0 k)) 1 (Bg 1 k)) 1=_
  delta app Hr
  rw [if_pos rfl,if_neg (by decide),List.map_append];rfl
theorem JH (h3:q.es.length≤3):az ((q.es.map fun e=>(e.1,D.ref e.2.1)).map fun x=>cL.enc x.1) ((q.es.map fun e=>(e.1,D.ref e.2.1)).map fun x=>cL.enc x.1)=(tS q.es).map aw:=by
 have e1:((q.es.map fun e=>(e.1,D.ref e.2.1)).map fun x=>cL.enc x.1)=(q.es.map (·.1)).map aw:=by rw [List.map_map,List.map_map];rfl
 rw [e1,eV _ (by rw [List.length_map];exact h3)];rfl
theorem J1 (hA:N2 q bd Rw most Bg GL) (nk:(q.es.map (·.1)).Nodup) (hk:Tr k (tF lo) (qL q most) (QP w q (Hr Bg (tS q.es))) rest J):Tr k (tF lo) (qL q most) (QP w q fun V=>[]) (rA 3::rest) J:=by
 have lk3:(q.es.map (·.1)).length≤3:=by rw [List.length_map];exact hA.len
 have hmem:∀k∈tS q.es,k∈q.es.map (·.1):=jG lk3
 have hnd:(tS q.es).Nodup:=ja lk3 nk
 have OG:∀{sk Qs},Hs (QP w q sk Qs) (e8 w cL q.fo q.es).S:=hs 1 (P:=(e8 w cL q.fo q.es).ro)
 have ok:dO ((q.es.map fun e=>(e.1,D.ref e.2.1)).map fun x=>cL.enc x.1):=by
  have:((q.es.map fun e=>(e.1,D.ref e.2.1)).map fun x=>cL.enc x.1)=(q.es.map (·.1)).map au:=by rw [List.map_map,List.map_map];rfl
  rw [this];exact oL
 refine c8 (Nd (JH hA.len▸Ed (en:=cL) (by rfl) (aa rfl) (OG.mp fun V S=>⟨S.1.d,S.2⟩) ok (by rw [List.length_map];exact hA.len)) ?_)
 refine yW (L0:=qL q most) (fun i K=>K (qL q most) (QP w q (Hr Bg ((tS q.es).take i)))) (fun K k=>k) (fun k' i ky hky=>?_) (by rw [List.take_length];exact hk)
 have xU:=hmem ky (List.mem_of_getElem? hky)
 obtain ⟨⟨xk,xa,xl⟩,hx,hxk⟩:=List.mem_map.mp xU
 refine cB (hA.g _ hx) fun hx1 hx2 hx3=>?_
 obtain rfl:xk=ky:=hxk
 obtain rfl:xl=(GL xk).map au:=hx1
 have hga:=LC nk hx
 have hgl:(GL xk).length≤3:=by refine ab hx2.ne fun k a b=>?_;have:(GL xk).length=k+1:=a;omega
 have OS:∀{sk Qs},Hs (QP w q sk Qs) fun h=>i6 h q.sl [aw (q.sy 0),aw (q.sy 1)]:=(ha 10 (P:=aq q.sl [aw (q.sy 0),aw (q.sy 1)])).mp fun V S=>S.w
 refine FG (DU (zw (lI (en:=cL) (key:=xk) (aa rfl) (aa rfl) (OG.mp fun V S=>S.1.d) hga) (zw (d:=.int (bD q.sy:Nat)) (o5 (bF (dM (k:=0) (aa rfl) aj OS rfl) (dM (k:=1) (aa rfl) aj OS rfl) fun V=>Me k'.r rfl) (fun e=>?_) fun e=>?_) ⟨_,_,rfl,?_⟩)))
 ·rw [Cw] at e
  rw [show bD q.sy=0 from if_pos e];exact aj
 ·rw [Cw] at e
  rw [show bD q.sy=1 from if_neg (by rw [e];decide)];exact aj
 have e3:az ((GL xk).map (HC Rw (bD q.sy))) ((GL xk).map (HC Rw (bD q.sy)))=(az ((GL xk).map (HC Rw (bD q.sy))) (GL xk)).map (HC Rw (bD q.sy)):=eV _ hgl
 have hz:(az ((GL xk).map (HC Rw (bD q.sy))) (GL xk)).length≤100:=by rw [dW hgl];exact Nat.le_trans hgl lr
 refine xR (Hu (e3▸DW (by rfl) (iY (pc (f:=HC Rw (bD q.sy)) [("rows",.ref q.rl),("least",.int (bD q.sy:Nat))] (sG (aa rfl) (OG.mp fun V S=>S.1.ls _ hx)) (fun l hl C=>gU (ae (mF (hx3 l hl) iS (DV (hx3 l hl) iS (aa rfl) (aa rfl) (pD iS (aa rfl) (aa rfl))) rfl) (ae (pD iS (aa rfl) (aa rfl)) (ae (aa rfl) aC)))) (Nat.le_trans hgl lr))) CH (by rw [List.length_map];exact hgl)) fun ra=>?_)
 refine cq [1,2,3,4,5,6,0] (kT (Q9 (its:=HA Rw (bD q.sy) most (GL xk)) (f:=au) [] (List.map_take▸Na (kk:=most) (aa rfl) (hs 6 (P:=aq ra _)) (by rw [List.length_map];exact Nat.le_trans hz lr) (aa rfl)) (fun l hl C=>aa rfl) (by unfold HA;rw [List.length_take];exact Nh hz lr)) (fun wa=>?_))
 refine cq [1,2,3,4,5,6,0] (zt (L0:=wL q most xa wa) (FZ hx2 (fun s hs=>?_) (fun s hs=>?_) hx (cq [0,1,2,3,4,5] (b9 (L0:=qL q most) (fun K k=>?_) rfl))))
 ·intro p
  refine ab (List.mem_map.mp p) fun k' hk' e=>?_
  have:=hA.inj s hs k' (hmem _ (List.mem_of_mem_take hk')) xk xU e
  subst this
  obtain ⟨j,hj,ej⟩:=List.mem_take_iff_getElem.mp hk'
  have:j=i:=(List.getElem?_inj (MQ hj) hnd).mp (by rw [hky,List.getElem?_eq_getElem (MQ hj),ej])
  exact PX hj this
 ·delta Hr
  rw [List.length_map,List.length_take]
  have:(tS q.es).length≤3:=by delta tS;rw [dW lk3];exact lk3
  exact Nh this lr
 ·rw [oF hky,QP,←GW (s:=0) (by decide),←GW (s:=1) (by decide)] at k
  exact k
theorem Hn {n:Nat} {k:Cx w n} {env:Env} {L:LL} {Ps:List HP} {b:Bool} {k0:Nat} {pos:Pos}:Xp k env L Ps (.Constant (.bool b) k0 pos) (.bool b):=fun V V V=>BY
theorem B8 {c:WC} {e:E2} {up:List (Int×Int)} {rl sl:Addr} {fd:Nat→Addr} {rs:Nat→List RI} {sy:Nat→aT} {Bv:Nat→Int×Int→Int} (o:pY c e up rs sy most bd Rw Bv):Sp w 9 558 [.ref c.sc,.ref rl,.ref sl,.int (most:Int)] [bE (Rb w c e up rl fd rs sl sy)] fun K=>∀Qs,K (.bool true) Qs:=by
 refine bf ["scene","rows","systems","most"] mK fun k l K qq=>?_
 refine FG (bw (rP _) (by kernel_rfl) (eM rfl (eM rfl (cR (gg (Rs:=[]) (DB o.hu o.hq o.hs) fun fo lo es G l3=>⟨_,_,rfl,?_⟩)))))
 refine FG (DU (zw (wV (c:=c) (ha 3) (aa rfl) BW) (jZ (dr (jZ (cR ⟨Nat.zero_le _,fun s0=>dr (jZ (cR ⟨Nat.zero_le _,fun s1=>cR ⟨Nat.le_of_ble_eq_true rfl,fun se=>⟨_,_,rfl,?_⟩⟩⟩))⟩))))))
 refine cq [3,4,5,0,2,1] (gp (GJ 1) fun nk=>gp ((hs 1 (P:=e8 w cL fo es)).mp fun V S=>S.2) fun lof=>Lq (P:=e8 w cL fo es) 1 (Lq (P:=aq lo ((lh Rw up).map au)) 2 ?_))
 generalize hq:(⟨c,e,up,rl,fd,rs,sl,sy,fo,lo,es,lh Rw up,se,s0,s1⟩:QC)=q
 have o':pY q.c q.e q.up q.rs q.sy most bd Rw Bv:=by rw [←hq];exact o
 have G':qp Rw q.up q.es:=by rw [←hq];exact G
 have l3':q.es.length≤3:=by rw [←hq];exact l3
 have hlo:q.lone=lh Rw q.up:=by rw [←hq]
 have lof':(q.fo==sysModules)=false:=by rw [←hq];exact lof
 have nk':(q.es.map (·.1)).Nodup:=by rw [←hq];exact nk
 have go:Tr k (tF l) (qL q most) (QP w q fun V=>[]) (rA 2::rA 3::rA 4::(cu (dz 60)).drop 5) (DN K):=IZ o'.hl (J1 (o'.all G' l3' lof') nk' (IG (o'.lone hlo) (o'.hn G' l3' hlo) (fun s hs=>?_) (bz Hn (qq _))))
 ·rw [←hq] at go
  exact go
 ·have a:(tS q.es).length≤3:=by delta tS;rw [dW (by rw [List.length_map];exact l3'),List.length_map];exact l3'
  have b:q.lone.length≤3:=by rw [hlo];exact Nat.le_trans (List.length_filter_le ..) o'.hu
  delta Hr
  rw [List.length_map];omega
end
noncomputable abbrev xK (l:Nat):Env:=callEnvC (cJ (dz 63) "law" .none (.str "law_pc0383_01" 876) (.ref 574)) l 575
noncomputable abbrev Td (w:World) (c:WC) (e:E2) (up:List (Int×Int)) (src rl:Addr) (fd:Nat→Addr) (rs:Nat→List RI) (sl:Addr) (sy:Nat→aT):List HP:=
 Wd w c e up++ [fQ src,aq rl [.ref (fd 0),.ref (fd 1)],d6 w (fd 0) (cG (rs 0)),d6 w (fd 1) (cG (rs 1)),i5 w (rs 0),i5 w (rs 1),aq sl [aw (sy 0),aw (sy 1)]]
noncomputable abbrev tL (c:WC) (rl sl src:Addr) (most:Int):LL:=[("scene",.ref c.sc),("links",.ref c.ll),("systems",.ref sl),("rows",.ref rl),("most",.int most),("source",.ref src)]
variable {e0:E2}
section
variable {k:Cx w 24} {c:WC} {e:E2} {rl sl:Addr} {most:Nat}
theorem Hc (hn:Nm c e) (hll:c.links.length≤10) (hp:fv c 6 e=some e') (o:pY c e' up rs sy most bd Rw Bv) (hk:Tr k (xK lo) (("turn",d)::tL c rl sl src most) (Td w c e' up src rl fd rs sl sy) rest J):Tr k (xK lo) (("turn",d)::tL c rl sl src most) (Td w c e up src rl fd rs sl sy) ((qM ((cu (dz 63)).getD 9 (.Pass ⟨0,0,0,0⟩))).getD 1 (.Pass ⟨0,0,0,0⟩)::(qM ((cu (dz 63)).getD 9 (.Pass ⟨0,0,0,0⟩))).getD 2 (.Pass ⟨0,0,0,0⟩)::rest) J:=by
 refine Fh (bw (oJ _) (by kernel_rfl) (AN (ae (aa rfl) (ae aj aC)) (gg (Bp (many:=6) hn hll (by decide) hp) (kE ?_))))
 exact cZ (fY (dA (gJ (d:=.bool true) (ae (aa rfl) (ae (aa rfl) (ae (aa rfl) (ae (aa rfl) aC)))) (gP _) (by kernel_rfl) (OB (Bs:=Rb w c e' up rl fd rs sl sy) [0,1,2,3,4,6,7,8,9,10,11]) fun h p S=>GF (B8 o) (k.r.le (by decide)) p S))) (fun hb=>by cases hb) fun V=>bM hk
theorem B3 {n:Nat} {k:Cx w n} {env:Env} {L:LL} {As Bs:List HP} {kt:Nat} {nm:Str} {top:Int} {p1 p2 p3 p4:Pos} {K:D→List HP→Prop} (hl:L.lookup nm=some (.ref src)) (q:∀i,0≤i→i <top→K (.int i) (As++fQ src::Bs)) (h:autoParam (1≤top∧top≤100) aD) (hm:autoParam (bT env nm=true) aR) (hx:autoParam (dY env "_law_take"=true) aR) (hn:autoParam (Nat.ble 1 n=true) aR):Xe k env L (As++fQ src::Bs) (.Call (.Name "_law_take" p1) [.Name nm p2,.Constant (.int top) kt p3] [] p4) K:=
 EU (bw (jh _) (by kernel_rfl) (AN (ae (aa hl hm) (ae aj aC)) (HJ (Pre:=[fQ src]) List.perm_middle (vm h.1 h.2) (fun i a b=>⟨_,(List.perm_middle (l₁:=As)).symm,q i a b⟩) hn)) hx)
noncomputable def Rc (T:E2) (e1:E2) (ls:List (Int×Int)) (i:Nat) (e:E2) (up:List (Int×Int)):Prop:=match i with |0=>e=T∧up=ls |1=>e=e1∧up=ls |_=>True
theorem Ck {α:Type} [BEq α] [LawfulBEq α] {ls:List α} {i:Nat} {l:α} (nd:ls.Nodup) (hl:ls[i]? =some l):(ls.take i).contains l=false:=Bool.eq_false_iff.mpr fun z=>by
 obtain ⟨j,hj,ej⟩:=List.mem_take_iff_getElem.mp (List.contains_iff_mem.mp z)
 have:j=i:=(List.getElem?_inj (by omega) nd).mp (by rw [hl,List.getElem?_eq_getElem (by omega),ej])
 omega
theorem Dn (T:Aq c e0 rs sy most) (hn:Nm c e0) (hne:c.links≠ []) (hk:∀k:Cx w 24,∀e up,Tr k (xK lo) (tL c rl sl src most) (Td w c e up src rl fd rs sl sy) rest J):Tr k (xK lo) (tL c rl sl src most) (Td w c e0 [] src rl fd rs sl sy) ((cu (dz 63)).getD 8 (.Pass ⟨0,0,0,0⟩)::(cu (dz 63)).getD 9 (.Pass ⟨0,0,0,0⟩)::rest) J:=by
 refine dJ T.run fun en e1 E0 E1 E2 zz1 E3=>fw zz1 fun bd Rw zz2=>cQ zz2 fun Bv o1=>?_
 have hl10:c.links.length≤10:=Nat.le_trans T.len lr
 refine c8 (xO 3 (aa rfl) ((hs 3 (P:=iW w c)).mp fun V S=>S.2.2) ?_ rfl rfl uO)
 refine yW (L0:=tL c rl sl src most) (fun i K=>Nm c (en i)→K (tL c rl sl src most) (Td w c (en i) (c.links.take i) src rl fd rs sl sy)) (fun K k=>?_) (fun k' i l hl hn=>?_) fun hn=>?_
 ·have:=k (E0▸hn)
  rwa [E0] at this
 ·refine ab (E1 i l hl) fun x hx ex=>?_
  have hno:=Ck T.nd hl
  have st:=jb (w:=w) (up:=c.links.take i) hn (by rw [List.length_take];omega) (T.rng l (List.mem_of_getElem? hl)) x (by rw [hno];exact hx)
  rw [hno] at st
  rw [ex,oF hl]
  exact Fh (bw (fq _) (by kernel_rfl) (eM rfl (eM rfl (cR (gg st (kE (b9 (fun K k=>k (hn.fr (vu (fun i hi=>oo (hx i hi)) 2))) rfl)))))))
 ·rw [List.take_length]
  generalize en c.links.length=eT at*
  refine c8 (Fs (EX (B3 (As:=Wd w c eT c.links) rfl fun i i0 i1=>⟨i,rfl,(1+i).toNat,?_,?_,?_⟩)))
  ·rw [Int.toNat_of_nonneg (by omega)]
  ·omega
  refine vZ (L0:=tL c rl sl src most) (fun i K=>∀e up,Nm c e→Rc eT e1 c.links i e up→K (tL c rl sl src most) (Td w c e up src rl fd rs sl sy)) (fun K k=>k _ _ hn ⟨rfl,rfl⟩) (fun k' j hj e up hn hs=>?_) fun e up V V=>hk _ _ _
  match j,hj,hs with
  |0,_,hs=>
   refine bC hs fun zr43 zr44=>?_;subst zr43;subst zr44
   exact cZ (bF (aa rfl) aj fun V=>eU) (fun hb=>absurd hb (by decide)) fun V=>bM (Hc hn hl10 E2 o1 (b9 (fun K k=>k _ _ (hn.fr (oV E2)) ⟨rfl,rfl⟩) rfl))
  |1,_,hs=>
   refine bC hs fun zr45 zr46=>?_;subst zr45;subst zr46
   refine cZ (bF (aa rfl) aj fun V=>eU) (fun V=>Fh (bw (fq _) (by kernel_rfl) (eM rfl (dr (EU (bw (km _) (by kernel_rfl) (eM rfl (eM rfl (cR (zy [5,3] [0,1,2,4,6,7,8,9,10,11] (BN (P:=iW w c) (ds:=c.links.map au) uO (fun V S=>S.2.2) ?_ ?_) fun d hd=>⟨Td w c e c.links src rl fd rs sl sy,(He (Ps:=Td w c e c.links src rl fd rs sl sy) (ks:=[5,3]) (rs:=[0,1,2,4,6,7,8,9,10,11]) (List.isPerm_iff.mp (by kernel_rfl)) rfl).symm,?_⟩)))))))))) fun hb=>absurd hb (by decide)
   ·rw [List.length_map];exact List.length_pos_iff.mpr hne
   ·rw [List.length_map];exact Nat.le_trans T.len lr
   ·refine ab (List.mem_map.mp hd) fun l hl zr47=>?_;subst zr47
    refine cH (E3 l hl) fun x e3 hx p3 zz3=>fw zz3 fun bd3 Rw3 zz4=>cQ zz4 fun Bv3 o3=>?_
    have hc:c.links.contains l=true:=List.contains_iff_mem.mpr hl
    have st:=jb (w:=w) (up:=c.links) hn hl10 (T.rng l hl) x (by rw [hc];exact hx)
    rw [hc] at st
    have n3:=hn.fr (vu (fun i hi=>oo (hx i hi)) 2)
    exact cR (gg st (kE (bM (Hc n3 hl10 p3 o3 (b9 (fun K k=>k _ _ (n3.fr (oV p3)) trivial) rfl)))))
  |j+2,hj,_=>omega
end
variable {scr:Addr}
section
variable {k:Cx w 24} {K:D→List HP→Prop} {rl:Addr}
theorem St.allp {E:AP} {env:Env} {m:ma} {As Bs:List HP} {h:Heap} (X:St w E env m L (As++Bs) h):St w E env m L (bE As::Bs) h:=
 have ⟨_,s2,s3⟩:=List.pairwise_append.mp X.f.sep
 ⟨⟨X.f.fr,X.f.ew,X.f.kp,X.f.tt,BP (fun P q=>X.f.S P (mL q)) (fun P q=>X.f.S P (mR q)),List.pairwise_cons.mpr ⟨fun P hP=>⟨fun z q=>noM q,fun z hz q=>(dh q).elim fun P0 q=>(s3 P0 q.1 P hP).2 z hz q.2⟩,s2⟩,BP ⟨fun z q=>noM q,fun z q=>(dh q).elim fun P0 q=>(X.f.ext P0 (mL q.1)).2 z q.2⟩ fun P q=>X.f.ext P (mR q)⟩,X.a,X.l,X.lo,X.ce,BP (fun z q=>(dh q).elim fun P0 q=>X.of P0 (mL q.1) z q.2) fun P q=>X.of P (mR q),X.v⟩
theorem Nv {n:Nat} {k:Cx w n} {env:Env} {e:Expr} (x:∀E,Xe (k.on E) env L [bE Ps] e fun d Qs=>∃As Bs,Qs=As++ [bE Ps]∧As.Perm Bs∧(∀P∈As,P.W=P.F)∧K d (bE Bs::Ps)):Xe k env L Ps e K:=fun s h t m X=>(x ⟨h,jR env,jR env++Fl Ps⟩ s h t m X.pst.one).mono fun v h1=>ak fun d Qs zz1 r Y g=>bI zz1 fun As Bs e p o kk=>by
 subst e
 have k1:Sub h h1:=fun b o e=>g.k b o (fun q=>noM q) e
 have nw:∀P∈As,∀z∈P.F,h.get? z=none:=fun P hP z hz=>(g.w z (et (mL hP) (o P hP▸hz))).elim (fun q=>noM q) id
 have Z:St w k.E env m L (As++Ps) h1:=St.call (Pre:=[]) (W:=[]) (F:=[]) X ⟨X.f.frsh [] fun V q=>noM q,fun V q=>noM q,k1.keep,k1.t,fun P q=>Y.f.S P (mL q),(List.pairwise_append.mp Y.f.sep).1,fun P hP=>⟨fun z hz=>.inr (nw P hP z (P.wf z hz)),fun z hz=>.inr (nw P hP z hz)⟩⟩ (fun V q=>noM q) fun V q=>noM q
 exact ⟨d,_,kk,r,(Z.perm (p.append_right Ps)).allp,k1.t,k1.keep,fun z q=>.inl q,fun z q=>(List.mem_append.mp (show z∈Fl Bs++Fl Ps from q)).elim (fun q=>(dh q).elim fun P q=>.inr (nw P (p.mem_iff.mpr q.1) z q.2)) .inl⟩
theorem Ca {β:Type _} {l:Nat→Addr} {i:Nat} {a:Addr} (F:Nat→Addr→β):((List.range (i+1)).map fun j=>F j (if j=i then a else l j))=((List.range i).map fun j=>F j (l j))++ [F i a]:=by
 rw [List.range_succ,List.map_append]
 exact congr (congrArg _ (List.map_congr_left fun j hj=>congrArg (F j) (if_neg (Nat.ne_of_lt (List.mem_range.mp hj))))) (congrArg (fun a=>[F i a]) (if_pos rfl))
theorem KG {n:Nat} {k:Cx w n} {env:Env} {x:Str} {elt:Expr} {scope:Scope} {px p1 p2:Pos} (hl:L.lookup (Str.ofString "rows")=some (D.ref rl)) (O:Hs Ps fun h=>FO w h rl fd rs) (he:∀i,i <2→∀C Qs,Hs Qs (fun h=>∀P∈Ps,P.S h)→Xl k (cE scope env C) [(x,.ref (fd i))] Qs elt ((rs i).map fun r:RI=>D.ref r.rx)) (q:∀rl2 l,K (.ref rl2) (BV rl2 l rs::Ps)) (tn:Tn scope env [] x) (hs:autoParam (J3 scope env []=true) aR) (hk:autoParam (bT env (Str.ofString "rows")=true) aR):
  Xe k env L Ps (.ListComp elt [⟨.Name x px,.Name "rows" p1,[],0⟩] scope p2) K:=by
 refine Nv fun E=>Qi (OD (fun i K=>∀l:Nat→Addr,K ((List.range i).map fun j=>.ref (l j)) (((List.range i).map fun j=>aq (l j) ((rs j).map fun r:RI=>D.ref r.rx)).reverse++ [bE Ps])) [] (DL.sc (sG (aa hl hk) (O.mp fun V S=>S.l)) E) (fun K k=>k fun V=>0) (fun i d hd C l=>M4 ?_) (Nat.le_of_ble_eq_true rfl) tn rfl hs) (fun l rl2=>⟨[_,_,_],xy rl2 l rs,rfl,.cons _ (.swap ..),ON rfl rfl rfl,q rl2 l⟩)
 have hi:i <2:=(List.getElem?_eq_some_iff.mp hd).1
 rw [Q8 hi] at hd
 cases hd
 refine Hu (he i hi C _ fun h q=>q (bE Ps) (mR (.head _))) fun a K' kk=>?_
 have:=kk fun j=>if j=i then a else l j
 rw [Ca (fun j a=>aq a ((rs j).map fun r:RI=>D.ref r.rx)),Ca (fun V a=>D.ref a),List.reverse_append] at this
 exact this
theorem Li {p1 p2 p3 p4 p5 p6 p7 p8 p9 p10 p11:Pos} (hl:L.lookup (Str.ofString "rows")=some (D.ref rl)) (O:Hs Ps fun h=>FO w h rl fd rs∧∀i,i <2→(fd i==sysModules)=false) (nums:∀i,i <2→cU (rs i)=ed many) (hm:many≤3) (q:∀rl2 l,K (.ref rl2) (BV rl2 l rs::Ps)):
  Xe k (xK lo) L Ps (.ListComp (.ListComp (.Subscript (.Name "side" p1) (.Name "number" p2) p3) [⟨.Name "number" p4,.Call (.Name "sorted" p5) [.Name "side" p6] [] p7,[],0⟩] Q6 p8) [⟨.Name "side" p9,.Name "rows" p10,[],0⟩] QT p11) K:=by
 refine KG hl (O.mp fun V S=>S.1) (fun i hi C Qs O2=>?_) q ⟨rfl,fun V=>⟨rfl,Nat.le_succ _⟩⟩
 have O3:=fun h q=>O h (O2 h q)
 have len:(rs i).length≤3:=by
  have:=congrArg List.length (nums i hi)
  unfold cU ed at this
  rw [List.length_map,List.length_map,List.length_range] at this
  exact zH this hm lr
 have asc:(cU (rs i)).Pairwise (· < ·):=by rw [nums i hi];exact yR
 have e0:((cG (rs i)).map fun x=>D.int x.1)=(rs i).map fun r=>D.int r.row.number:=by unfold cG;rw [List.map_map];rfl
 exact iY (pc (g:=fun r:RI=>D.int r.row.number) [("side",.ref (fd i))] (Qf (e0▸FL (kds:=cG (rs i)) rfl (aa rfl) (fun h q=>⟨(O3 h q).1.d i hi,(O3 h q).2 i hi⟩) (by unfold cG;rw [List.map_map];exact asc) (by unfold cG;rw [List.length_map];exact len))) (fun r hr C'=>i9 (aa rfl) (aa rfl) gj (fun h q=>(O3 h q).1.d i hi) (zO (lO asc) hr)) (Nat.le_trans len lr))
noncomputable abbrev yo (w:World) (a:Addr) (ds:List D):HP:=⟨[],[a],fun h=>i6 h a ds,gW,fun V h=>noM h⟩
theorem IX {n:Nat} {c:Int} {ds:List D} (hz:(ds.length:Int)+1 <2 ^ 62):Sp w (n+1) 499 [.ref scr,.int 0] [yo w scr (.int c::ds)] fun K=>∀src,K (.ref src) [fQ src,yo w scr (.int c::ds)]:=
 (HN (K':=fun d Q=>∃src,d= .ref src∧Q=fQ src) fun A R s vs P S q=>by
  cases q with |cons r1 q=>
  cases q with |cons r2 q=>
  cases q
  cases r1
  exact (EA R P (S _ (.head _)) hz r2).mono fun v h'=>aM fun k src e S n1=>⟨.ref src,_,⟨src,rfl,rfl⟩,e▸ .ref src,k,S,gz n1⟩).mono fun K k d Q=>sH fun src e1 e2=>e1▸e2▸k src
end
noncomputable def oC:Prop:=∀(c:WC) (e:E2) (rs:Nat→List RI) (sy:Nat→aT) (most many:Nat) (ll:Addr) (sw:Bool),(many=2∨many=3)→1≤most→most≤3→u9 sy→(∀i,i <2→cU (rs i)=ed many)→(∀i,i <2→∀r∈rs i,kM r)→
 ML sy most rs ll (bJ many sw) many c e→(∀i,i <2→gy (c.b i) (e i).its)→Aq c e rs sy most
variable {sw:Bool}
section
variable {k:Cx w 24} {K:D→List HP→Prop} {rl sl:Addr} {most:Nat}
theorem H0 {n:Nat} {k:Cx w n} {rs:List RI} (i j:Nat) (ks:List Nat) (q:Tr k env L (i5 w rs::sel ks Ps) rest J) (h1:autoParam (Ps[i]? =some (cy w rs)) aR) (h2:autoParam (Ps[j]? =some aV) aR) (nd:autoParam (ks.Nodup) aD) (ni:autoParam ((!ks.contains i&&i !=j)=true) aR):Tr k env L Ps rest J:=by
 refine bC (Bool.and_eq_true_iff.mp ni) fun n1 n2=>?_
 have n3:i≠j:=by simpa using n2
 have e:sel [i] Ps= [cy w rs]:=by rw [sel,List.filterMap_cons,h1];rfl
 refine tf (i5 w rs) [i] ks q (fun h sep S=>?_) (fun z q=>noM q) (fun z q=>bV (P:=cy w rs) (e▸ .head _) q) (fun k a b=>?_) nd
 ·have x:=S _ (List.mem_of_getElem? h1)
  exact ⟨x.1,List.nodup_cons.mpr ⟨fun q=>(gI rO.symm sep n3 h1 h2).1 4 q jT,x.2⟩⟩
 ·rw [List.mem_singleton.mp a] at b
  rw [List.contains_iff_mem.mpr b] at n1;cases n1
noncomputable abbrev hL (ll sl rl src:Addr) (many most:Int):LL:=[("links",.ref ll),("systems",.ref sl),("rows",.ref rl),("many",.int many),("most",.int most),("source",.ref src)]
theorem Hd (br:oC) (hmany:many=2∨many=3) (m1:1≤most) (m3:most≤3) (so:u9 sy) (nums:∀i,i <2→cU (rs i)=ed many) (ok:∀i,i <2→∀r∈rs i,kM r) (q:∀Qs,K (.bool true) (aV::Qs)):Tr k (xK lo) (hL ll sl rl src many most) [aq ll ((bJ many sw).map au),aq sl [aw (sy 0),aw (sy 1)],fQ src,aq rl [.ref (fd 0),.ref (fd 1)],cy w (rs 0),cy w (rs 1),d6 w (fd 0) (cG (rs 0)),d6 w (fd 1) (cG (rs 1)),aV] ((cu (dz 63)).drop 7) (DN K):=by
 have hm:many≤3:=by omega
 refine H0 (rs:=rs 0) 4 8 [0,1,2,3,5,6,7,8] (H0 (rs:=rs 1) 5 8 [0,1,2,3,4,6,7,8] ?_)
 refine xR (bw (mu _) (by kernel_rfl) (eM rfl (eM rfl (eM rfl (dr (Li (fd:=fd) (rs:=rs) rfl ?_ nums hm fun rl2 l=>eM rfl (cR (zy [4,0,2,1,9,3] [5,6,7,8] (yO (l:=l) (sy:=sy) (links:=bJ many sw) (Int.natCast_nonneg most) hm nums) fun c e NF=>?_))))))))
 ·exact fun h S=>⟨⟨S _ (List.mem_of_getElem? (i:=5) rfl),lS (S (d6 w (fd 0) (cG (rs 0))) (List.mem_of_getElem? (i:=6) rfl)).1 (S (d6 w (fd 1) (cG (rs 1))) (List.mem_of_getElem? (i:=7) rfl)).1,lS (S (i5 w (rs 0)) (List.mem_of_getElem? (i:=1) rfl)).1 (S (i5 w (rs 1)) (.head _)).1⟩,lS (S (d6 w (fd 0) (cG (rs 0))) (List.mem_of_getElem? (i:=6) rfl)).2 (S (d6 w (fd 1) (cG (rs 1))) (List.mem_of_getElem? (i:=7) rfl)).2⟩
 ·obtain ⟨rfl,hc,hma⟩:=NF.cl
  have NF':=NF
  refine gp ((hs 1 (P:=bn w c e 0)).mp fun V S=>S.ok) fun ok0=>gp ((hs 2 (P:=bn w c e 1)).mp fun V S=>S.ok) fun ok1=>?_
  have T:=br c e rs sy most many c.ll sw hmany m1 m3 so nums ok NF (lS ok0 ok1)
  have hn:Nm c e:=fun i hi=>((NF.b i hi).2.2.1.nums).trans (by rw [hma];exact nums i hi)
  refine cq [0,1,2,3,4,8,9,10,11,5,6,7] (zt (L0:=tL c rl sl src most) (Dn (rest:=(cu (dz 63)).drop 10) T hn (fun z=>?_) fun k e up=>bz Hn (q _)))
  rw [hc] at z
  rcases hmany with rfl |rfl<;>cases z
end
noncomputable def fi (rs:Nat→List RI) (s i:Nat):pK:=match (rs (if s=0 then 0 else 1))[i]? with |some r=>{r.row with number:=1+(i:Int)} |none=>⟨1+(i:Int),0,0,false,false,false⟩
noncomputable def aU (rs:Nat→List RI) (sy:Nat→aT) (most many:Nat) (sw:Bool):gu:=⟨many,most,sy,fi rs,sw⟩
theorem Hg {rs:Nat→List RI} {sy:Nat→aT} {most many:Nat} {sw:Bool} (h:many=2∨many=3) (h1:1≤most) (so:u9 sy):(aU rs sy most many sw).Ok:=by
 refine ⟨h,by show (1:Int)≤(most:Int);omega,?_,?_,?_,fun s i=>?_⟩
 ·show (sy 0==((0:Int),(0:Int)))=false
  rcases so with ⟨a,b⟩ |⟨a,b⟩<;>rw [a]<;>decide
 ·show (sy 1==((0:Int),(0:Int)))=false
  rcases so with ⟨a,b⟩ |⟨a,b⟩<;>rw [b]<;>decide
 ·show eF (sy 1) (sy 0)= !eF (sy 0) (sy 1)
  rcases so with ⟨a,b⟩ |⟨a,b⟩<;>rw [a,b]<;>decide
 ·show (fi rs s i).number=_
  delta fi
  split<;>rfl
noncomputable def Iv (e:E2) (s i:Nat):PA:=match (e s).its[i]? with |some a=>a.1 |none=>⟨0,0,0,0⟩
section
variable {e:E2}
theorem BI {s i:Nat} {r:RI} (nums:∀i,i <2→cU (rs i)=ed many) (hs:s <2) (hi:(rs s)[i]? =some r):r.row.number=1+(i:Int):=by
 have h1:(cU (rs s))[i]? =some r.row.number:=by delta cU;rw [List.getElem?_map,hi];rfl
 have hm:i <many:=by
  have:=(List.getElem?_eq_some_iff.mp h1).1
  rw [nums s hs] at this
  delta ed at this
  rwa [List.length_map,List.length_range] at this
 rw [nums s hs] at h1
 delta ed at h1
 rw [List.getElem?_map,List.getElem?_range hm] at h1
 exact (Option.some.inj h1).symm
theorem Gj {s i:Nat} {r:RI} (nums:∀i,i <2→cU (rs i)=ed many) (hs:s <2) (hi:(rs s)[i]? =some r):fi rs s i=r.row:=by
 have e0:(if s=0 then 0 else 1)=s:=by split<;>omega
 delta fi
 rw [e0,hi]
 show ({r.row with number:=1+(i:Int)}:pK)=r.row
 rw [←BI nums hs hi]
theorem A7 {s:Nat} (nums:∀i,i <2→cU (rs i)=ed many) (hs:s <2):(rs s).length=many:=by
 have:=congrArg List.length (nums s hs)
 unfold cU ed at this
 rwa [List.length_map,List.length_map,List.length_range] at this
theorem FH {s:Nat} (nums:∀i,i <2→cU (rs i)=ed many) (hs:s <2) (rel:lq (sy s) (rs s) (e s).its):(e s).its=(List.range many).map fun i=>(Iv e s i,ah.fresh (sy s) (fi rs s i)):=by
 have hl:(e s).its.length=many:=by
  have:=congrArg List.length rel
  rw [List.length_map,List.length_map] at this
  rw [this,A7 nums hs]
 refine List.ext_getElem? fun i=>?_
 rw [List.getElem?_map]
 by_cases hi:i <many
 ·rw [List.getElem?_range hi]
  have ha:(e s).its[i]? =some ((e s).its[i]'(IA hi hl)):=List.getElem?_eq_getElem (IA hi hl)
  have hr:(rs s)[i]? =some ((rs s)[i]'(by rw [A7 nums hs];exact hi)):=List.getElem?_eq_getElem _
  have h1:=congrArg (fun l=>l[i]?) rel
  simp only [List.getElem?_map,ha,hr,Option.map_some,Option.some.injEq,Prod.mk.injEq] at h1
  show _=some (Iv e s i,ah.fresh (sy s) (fi rs s i))
  rw [Gj nums hs hr]
  delta Iv
  rw [ha]
  show some _=some (_,_)
  rw [←h1.2.2]
 ·rw [List.getElem?_eq_none (by omega),List.getElem?_eq_none (by rw [List.length_range];exact Nat.le_of_not_lt hi)];rfl
theorem KJ:∀(pas:List PA),List.Sublist (pas.map (·.x)) (oO pas)
 | []=>List.Sublist.refl _
 |a::r=>by
  have ih:=KJ r
  show List.Sublist (a.x::r.map (·.x)) ([a.x,a.dx,a.rx,a.rdx]++oO r)
  exact (((ih.cons _).cons _).cons _).cons_cons _
end
noncomputable def b3 (a b c:Bool):Nat→Bool |0=>a |1=>b |_=>c
noncomputable def HF (sw:Bool) (s i:Nat):Nat:=match s with |0=>i |_=>ka sw i
noncomputable def Ba (sw:Bool) (p:Nat→Bool) (s j:Nat):aT:=(if p (HF sw s j) then 8 else 3,1+(HF sw s j:Int))
noncomputable def Pn (p:Nat→Bool) (s:Nat) (l:Int×Int):D:=.tup [.int (if p (lk l s - 1).toNat then 8 else 3),.int (lk l s),au l]
noncomputable def nv (sw:Bool) (n:Nat) (G:Nat→Bool):List (Int×Int):=((List.range n).filter G).map (cF (ka sw))
noncomputable def mT (sw:Bool) (n:Nat) (p G:Nat→Bool) (m s0 s:Nat):Bool:=
 let W:=((az ((nv sw n G).map (Pn p s0)) (nv sw n G)).take m).map fun l=>D.int (lk l s)
 lp (((List.range n).filter fun i=>G (HF sw s i)&&decide ((List.range n).countP (fun k=>G k&&mX (Ba sw p s0 k) (Ba sw p s0 (HF sw s i))) <m)).map fun (i:Nat)=>D.int (1+(i:Int))) (az W W)
theorem NX:∀sw:Bool,∀n∈ [2,3],∀a b c d e f:Bool,∀m∈ [1,2,3],∀s0∈ [0,1],∀s∈ [0,1],mT sw n (b3 a b c) (b3 d e f) m s0 s=true:=fun sw=>by cases sw<;>decide+kernel
theorem NY:∀sw:Bool,∀n∈ [2,3],∀d e f:Bool,let u:=nv sw n (b3 d e f);az (u.map au) u=u:=by decide+kernel
theorem Im:∀n∈ [2,3],∀i∈List.range n,(List.range n).filter (fun k=>decide (k=i))= [i]:=by decide+kernel
theorem Lg:∀sw:Bool,∀n∈ [2,3],∀d∈List.range n,((List.range n).map (cF (ka sw))).erase (cF (ka sw) d)=nv sw n fun k=>decide (k≠d):=by decide+kernel
theorem Gl:∀sw:Bool,∀n∈ [2,3],((List.range n).map (cF (ka sw))).Nodup:=by decide+kernel
theorem EN {p:Nat→Bool} {k:Nat} (h:k <3):b3 (p 0) (p 1) (p 2) k=p k:=Pt (P:=fun k=>b3 (p 0) (p 1) (p 2) k=p k) h rfl rfl rfl
noncomputable def Nl (l:Int×Int) (s:Nat):Nat:=(lk l s - 1).toNat
noncomputable def NK (e:E2) (s:Nat) (l:Int×Int):Option Int:=match (e s).its[Nl l s]? with |some a=>a.2.bundle |none=>none
noncomputable def qC (rs:Nat→List RI) (l:Int×Int) (s:Nat):RI:=match (rs s)[Nl l s]? with |some r=>r |none=>⟨0,0,fi rs s (Nl l s)⟩
noncomputable def NA (B:Nat→Nat→Int) (s:Nat) (l:Int×Int):Int:=B s (Nl l s)
noncomputable def P8:af:=(⟨0,0,0,0⟩,ah.fresh (0,0) ⟨0,0,0,false,false,false⟩)
theorem uC {n:Nat} (h:n=2∨n=3):n∈ [2,3]:=by rcases h with rfl |rfl<;>decide
theorem Kf {s:Nat} (h:s <2):s∈ [0,1]:=match s,h with |0,_=>by decide |1,_=>by decide
theorem Jz {α:Type} (d:α) (l:List α) {n:Nat} (h:l.length=n):l=(List.range n).map fun i=>l[i]?.getD d:=by
 subst h
 refine List.ext_getElem? fun i=>?_
 rw [List.getElem?_map]
 by_cases hi:i <l.length
 ·rw [List.getElem?_range hi,List.getElem?_eq_getElem hi,Option.map_some,List.getElem?_eq_getElem hi];rfl
 ·rw [List.getElem?_eq_none (Nat.le_of_not_lt hi),List.getElem?_eq_none (by rw [List.length_range];exact Nat.le_of_not_lt hi)];rfl
variable {U:Nat→Bool}
section
variable {g:gu} {F:Nat→Bool} {s i:Nat} {x:EI} {B:Nat→Int}
theorem Be (hs:s <2):Nl (cF g.π j) s=g.lnk s j:=by
 apply iT (s:=s) hs;exact (by show (1+(j:Int) - 1).toNat=j;exact MB ..);exact (by show (1+(g.π j:Int) - 1).toNat=g.π j;exact MB ..)
theorem EM (hs:s <2):lk (cF g.π j) s=1+(g.lnk s j:Int):=by
 apply iT (s:=s) hs;exact rfl;exact rfl
theorem wx:g.lnk s (g.lnk s j)=j:=by
 match s with
 |0=>rfl
 |s+1=>exact kX
theorem r6.mems (V0:r6 g U F s x B) (b:Int):gN x.its (some b)=((List.range g.many).filter fun i=>U (g.lnk s i)&&(B i==b&&F (g.lnk s i))).map fun (i:Nat)=>1+(i:Int):=by
 have e:=Jz P8 x.its V0.len
 delta gN
 rw [e,List.filter_map,List.map_map]
 have at':∀i∈List.range g.many,LW (some b) (x.its[i]?.getD P8)=(U (g.lnk s i)&&(B i==b&&F (g.lnk s i)))∧(x.its[i]?.getD P8).2.row.number=1+(i:Int):=fun i hi=>by
  refine cY (V0.at' i (List.mem_range.mp hi)) fun a h1 h2 h3 h4=>?_
  rw [h1]
  refine ⟨?_,h2⟩
  show (a.2.bundle==some b&&a.2.mux== .dis)=_
  cases q:U (g.lnk s i) with
  |false=>rw [h4 q];rfl
  |true=>
   rw [(h3 q).1,(h3 q).2]
   show (some (B i)==some b&&_)=(B i==b&&F (g.lnk s i))
   cases F (g.lnk s i)<;>rfl
 exact (congrArg _ (List.filter_congr fun i hi=>(at' i hi).1)).trans (List.map_congr_left fun i hi=>(at' i (List.mem_filter.mp hi).1).2)
theorem r6.port (V0:r6 g U F s x B) (hi:i <g.many):∃a∈x.its,x.its[i]? =some a∧a.2.row.number=1+(i:Int)∧(U (g.lnk s i)=true→a.2.bundle=some (B i))∧(U (g.lnk s i)=false→a.2.bundle=none):=by
 refine cY (V0.at' i hi) fun a h1 h2 h3 h4=>?_
 exact wI a (List.mem_of_getElem? h1) h1 h2 (fun q=>(h3 q).1) h4
end
theorem NN {g:gu} {e:E2} {s j:Nat} {a:af} (hs:s <2) (h:(e s).its[g.lnk s j]? =some a):NK e s (cF g.π j)=a.2.bundle:=by
 delta NK
 rw [Be hs,h]
theorem Od {g:gu} {B:Nat→Nat→Int} {s j:Nat} (hs:s <2):NA B s (cF g.π j)=B s (g.lnk s j):=by
 delta NA
 rw [Be hs]
theorem gA {sw:Bool} {n:Nat} {G:Nat→Bool} {l:Int×Int}:l∈nv sw n G↔∃j,j <n∧G j=true∧cF (ka sw) j=l:=by
 delta nv
 rw [List.mem_map]
 exact ⟨sH fun j h e=>cb j (List.mem_range.mp (List.mem_filter.mp h).1) ((List.mem_filter.mp h).2) e,kD fun j h q e=>a9 j (List.mem_filter.mpr ⟨List.mem_range.mpr h,q⟩) e⟩
theorem DQ {sw:Bool} {n:Nat} {G:Nat→Bool} (h:n≤3):nv sw n G=nv sw n (b3 (G 0) (G 1) (G 2)):=by
 delta nv
 rw [List.filter_congr fun k hk=>(EN (p:=G) (Nat.lt_of_lt_of_le (List.mem_range.mp hk) h)).symm]
theorem Ah {sw:Bool} {n:Nat} {G:Nat→Bool} {p:Int×Int→Bool} {q:Nat→Bool} (h:∀j,j <n→p (cF (ka sw) j)=q j):(nv sw n G).filter p=nv sw n fun j=>G j&&q j:=by
 delta nv
 rw [List.filter_map,List.filter_filter]
 refine congrArg _ (List.filter_congr fun j hj=>?_)
 rw [Bool.and_comm]
 exact congrArg _ (h j (List.mem_range.mp hj))
theorem GH {π:Nat→Nat} {i j:Nat} (h:cF π i=cF π j):i=j:=by
 have:1+(i:Int)=1+(j:Int):=congrArg Prod.fst h
 omega
structure kq (rs:Nat→List RI) (sy:Nat→aT) (most many:Nat):Prop where
 m:many=2∨many=3
 m1:1≤most
 m3:most≤3
 so:u9 sy
 nums:∀i,i <2→cU (rs i)=ed many
 ok:∀i,i <2→∀r∈rs i,kM r
section
variable {most s i:Nat}
theorem kq.le (H:kq rs sy most many):many≤3:=by rcases H.m with h |h<;>lia
theorem kq.at' (H:kq rs sy most many) (hs:s <2) (hi:i <many):∃r∈rs s,(rs s)[i]? =some r∧r.row=fi rs s i∧r.row.number=1+(i:Int):=by
 have hl:i <(rs s).length:=by rw [A7 H.nums hs];exact hi
 have h:=List.getElem?_eq_getElem hl
 exact yJ _ (List.getElem_mem hl) h ((Gj H.nums hs h).symm) (BI H.nums hs h)
theorem kq.lnk (H:kq rs sy most many) (hj:j <many):(aU rs sy most many sw).lnk s j <many:=r9 (g:=aU rs sy most many sw) (Hg H.m H.m1 H.so) hj
theorem sJ (H:kq rs sy most many) (hs:s <2) (hj:j <many):∃r∈rs s,qC rs (cF (aU rs sy most many sw).π j) s=r∧r.row=fi rs s ((aU rs sy most many sw).lnk s j)∧r.row.number=1+((aU rs sy most many sw).lnk s j:Int):=by
 refine cY (H.at' (i:=(aU rs sy most many sw).lnk s j) hs (H.lnk hj)) fun r h1 h2 h3 h4=>?_
 refine yJ r h1 ?_ h3 h4
 delta qC
 rw [Be hs,h2]
theorem sW (H:kq rs sy most many) (hj:j <many):pP (qC rs) (cF (aU rs sy most many sw).π j)=(aU rs sy most many sw).joint j∧iU (qC rs) (cF (aU rs sy most many sw).π j)=(aU rs sy most many sw).keys j:=by
 refine cY (sJ (sw:=sw) H (s:=0) (by decide) hj) fun r V h1 h2 V=>?_
 refine cY (sJ (sw:=sw) H (s:=1) (by decide) hj) fun q V h3 h4 V=>?_
 delta pP iU
 rw [h1,h3,h2,h4,←Bool.and_assoc]
 exact ⟨rfl,rfl⟩
theorem OX (H:kq rs sy most many) (hj:j <many):rX rs (qC rs) (cF (aU rs sy most many sw).π j):=by
 have nd:∀s,s <2→(cU (rs s)).Nodup:=fun s hs=>by
  rw [H.nums s hs]
  rcases H.m with h |h<;>rw [h]<;>decide
 refine ⟨fun s hs=>?_,fun s hs=>?_⟩
 ·refine ar (sJ (sw:=sw) H hs hj) fun r h0 h1 V=>?_
  rw [h1];exact h0
 ·refine cY (sJ (sw:=sw) H hs hj) fun r h0 h1 V h2=>?_
  rw [h1,EM hs,←h2]
  exact zO (nd s hs) h0
noncomputable def IW (rs:Nat→List RI) (s:Nat):Nat→Bool:=b3 (decide ((fi rs s 0).priority=8)) (decide ((fi rs s 1).priority=8)) (decide ((fi rs s 2).priority=8))
theorem Ka (H:kq rs sy most many) (hs:s <2) (hi:i <many):(fi rs s i).priority=if IW rs s i=true then 8 else 3:=by
 have e:IW rs s i=decide ((fi rs s i).priority=8):=EN (p:=fun i=>decide ((fi rs s i).priority=8)) (Nat.lt_of_lt_of_le hi H.le)
 refine cY (H.at' hs hi) fun r h1 V h2 V=>?_
 rw [e,←h2]
 rcases (H.ok s hs r h1).2 with q |q<;>rw [q]<;>rfl
theorem FP (H:kq rs sy most many) (hk:k <many):(aU rs sy most many sw).lid k=Ba sw (IW rs (bD sy)) (bD sy) k:=by
 have e:∀s,s <2→(fi rs s (HF sw s k)).pid=Ba sw (IW rs s) s k:=fun s hs=>by
  have hl:HF sw s k <many:=by
   exact iT (P:=fun s=>(aU rs sy most many sw).lnk s k <many→HF sw s k <many) hs id id (H.lnk hk)
  delta pK.pid Ba
  rw [Ka H hs hl]
  refine cY (H.at' hs hl) fun r V V h2 h3=>?_
  rw [←h2,h3]
 delta gu.lid bD
 show (if eF (sy 0) (sy 1)=true then (fi rs 0 k).pid else (fi rs 1 (ka sw k)).pid)=_
 rcases H.so with ⟨a,b⟩ |⟨a,b⟩
 ·rw [a,b];exact e 0 (by decide)
 ·rw [a,b];exact e 1 (by decide)
theorem N0 (H:kq rs sy most many) (G:Nat→Bool) (hs:s <2):(nv sw many G).map (HC (qC rs) s)=(nv sw many G).map (Pn (IW rs s) s):=by
 refine List.map_congr_left fun l hl=>?_
 refine ar (gA.mp hl) fun j hj V zr77=>?_;subst zr77
 refine cY (sJ (sw:=sw) H hs hj) fun r h0 h1 h2 h3=>?_
 have h1:qC rs (cF (ka sw) j) s=r:=h1
 delta HC Pn
 rw [h1,h2,Ka H hs (H.lnk hj)]
 show _=D.tup [.int (if IW rs s (Nl (cF (aU rs sy most many sw).π j) s)=true then 8 else 3),_,_]
 rw [Be hs]
end
variable {B:Nat→Nat→Int}
section
variable {most s i:Nat} {e:E2}
noncomputable def rt (g:gu) (U:Nat→Bool) (j k:Nat):Bool:=U k&&(g.joint k&&g.keys k==g.keys j)
theorem FQ (H:kq rs sy most many) (hj:j <many):B6 (qC rs) (nv sw many U) (iU (qC rs) (cF (ka sw) j))=nv sw many (rt (aU rs sy most many sw) U j):=by
 delta B6
 refine (Ah (q:=fun k=>(aU rs sy most many sw).joint k&&(aU rs sy most many sw).keys k==(aU rs sy most many sw).keys j) fun k hk=>?_)
 refine bC (sW (sw:=sw) (sy:=sy) (most:=most) H hk) fun a b=>?_
 refine bC (sW (sw:=sw) (sy:=sy) (most:=most) H hj) fun V b'=>?_
 show (pP (qC rs) (cF (aU rs sy most many sw).π k)&&iU (qC rs) (cF (aU rs sy most many sw).π k)==iU (qC rs) (cF (aU rs sy most many sw).π j))=_
 rw [a,b,b']
theorem Ig {g:gu} (hj:g.joint i=true) (hk:g.keys i=g.keys j):g.F U i=decide ((List.range g.many).countP (fun k=>rt g U j k&&g.lower k i) <g.most.toNat):=by
 delta gu.F
 rw [hj,show (!true)=false from rfl,Bool.false_or,hk]
 refine congrArg (fun n=>decide (n <g.most.toNat)) (List.countP_congr fun k V=>?_)
 delta rt
 rw (occs:=.all) [Bool.and_assoc,Bool.and_assoc]
theorem DC (H:kq rs sy most many) (V0:r6 (aU rs sy most many sw) U ((aU rs sy most many sw).F U) s (e s) (B s)) (hs:s <2) (hj:j <many) (uj:U j=true) (jj:(aU rs sy most many sw).joint j=true):
  lp ((gN (e s).its (some (B s ((aU rs sy most many sw).lnk s j)))).map D.int) (az ((HA (qC rs) (bD sy) most (B6 (qC rs) (nv sw many U) (iU (qC rs) (cF (ka sw) j)))).map fun l=>D.int (lk l s)) ((HA (qC rs) (bD sy) most (B6 (qC rs) (nv sw many U) (iU (qC rs) (cF (ka sw) j)))).map fun l=>D.int (lk l s)))=true:=by
 generalize hg:aU rs sy most many sw=g at*
 have gm:g.many=many:=by rw [←hg];rfl
 have go:g.most.toNat=most:=by rw [←hg];rfl
 have gl:∀i,g.lnk s i=HF sw s i:=fun i=>by
  rw [←hg]
  apply iT (s:=s) hs;exact rfl;exact rfl
 have ll:g.lnk s (g.lnk s j)=j:=wx
 have lt:∀i,i <many→g.lnk s i <many:=fun i hi=>by rw [←hg];exact H.lnk hi
 obtain ⟨G,hG⟩:∃G:Nat→Bool,G=b3 (rt g U j 0) (rt g U j 1) (rt g U j 2):=⟨_,rfl⟩
 have Ga:∀k,k <many→G k=rt g U j k:=fun k hk=>by rw [hG];exact EN (p:=rt g U j) (Nat.lt_of_lt_of_le hk H.le)
 have e1:HA (qC rs) (bD sy) most (B6 (qC rs) (nv sw many U) (iU (qC rs) (cF (ka sw) j)))=(az ((nv sw many G).map (Pn (IW rs (bD sy)) (bD sy))) (nv sw many G)).take most:=by
  delta HA
  rw [FQ (sy:=sy) (most:=most) H hj,hg,DQ (G:=rt g U j) H.le,←hG,N0 H G iS]
 rw [e1,V0.mems,gm,List.map_map]
 have e2:(List.range many).filter (fun i=>U (g.lnk s i)&&(B s i==B s (g.lnk s j)&&g.F U (g.lnk s i)))=(List.range many).filter fun i=>G (HF sw s i)&&decide ((List.range many).countP (fun k=>G k&&mX (Ba sw (IW rs (bD sy)) (bD sy) k) (Ba sw (IW rs (bD sy)) (bD sy) (HF sw s i))) <most):=by
  refine List.filter_congr fun i hi=>?_
  have hi:=List.mem_range.mp hi
  rw [←gl i,Ga _ (lt i hi)]
  cases ui:U (g.lnk s i) with
  |false=>delta rt;rw [ui];rfl
  |true=>
   have hB:(B s i==B s (g.lnk s j))=(g.joint (g.lnk s i)&&g.keys (g.lnk s i)==g.keys j):=by
    rw [Bool.eq_iff_iff,beq_iff_eq,V0.eq i (g.lnk s j) (gm▸hi) (gm▸lt j hj) ui (ll.symm▸uj),ll,Bool.and_eq_true_iff,beq_iff_eq]
    exact ⟨fun q=>q.elim (fun q=>by rw [q,ll];exact ⟨jj,rfl⟩) fun q=>⟨q.1,q.2.2⟩,fun q=>.inr ⟨q.1,jj,q.2⟩⟩
   delta rt
   rw [hB,ui,Bool.true_and,Bool.true_and]
   cases q1:g.joint (g.lnk s i) with
   |false=>rfl
   |true=>
    cases q2:g.keys (g.lnk s i)==g.keys j with
    |false=>rfl
    |true=>
     rw [Ig q1 (eq_of_beq q2),gm,go]
     refine congrArg (fun n=>true&&true&&decide (n <most)) (List.countP_congr fun k hk=>?_)
     have hk:=List.mem_range.mp hk
     rw [Ga k hk]
     delta gu.lower
     rw [←hg,FP H hk,FP H (hg▸lt i hi)]
 rw [e2]
 have b:(bD sy)∈ [0,1]:=Kf iS
 have m:most∈ [1,2,3]:=by
  rcases (show most=1∨most=2∨most=3 by have:=H.m1;have:=H.m3;lia) with h |h |h<;>rw [h]<;>decide
 rw [hG]
 exact NX sw many (uC H.m) _ _ _ _ _ _ most m (bD sy) b s (Kf hs)
end
section
variable {most s i:Nat} {c:WC} {e:E2}
theorem Em (H:kq rs sy most many) (V0:r6 (aU rs sy most many sw) U ((aU rs sy most many sw).F U) s (e s) (B s)) (hj:j <many) (uj:U j=true) (jj:(aU rs sy most many sw).joint j=false):
  gN (e s).its (some (B s ((aU rs sy most many sw).lnk s j)))= [1+((aU rs sy most many sw).lnk s j:Int)]:=by
 have hl:=H.lnk (sw:=sw) (s:=s) hj
 have ll:(aU rs sy most many sw).lnk s ((aU rs sy most many sw).lnk s j)=j:=wx
 have ul:U ((aU rs sy most many sw).lnk s ((aU rs sy most many sw).lnk s j))=true:=ll.symm▸uj
 have e2:(List.range (aU rs sy most many sw).many).filter (fun i=>U ((aU rs sy most many sw).lnk s i)&&(B s i==B s ((aU rs sy most many sw).lnk s j)&&(aU rs sy most many sw).F U ((aU rs sy most many sw).lnk s i)))= [(aU rs sy most many sw).lnk s j]:=by
  refine (List.filter_congr fun i hi=>?_).trans (Im many (uC H.m) _ (List.mem_range.mpr hl))
  have hi:i <many:=List.mem_range.mp hi
  by_cases q:i=(aU rs sy most many sw).lnk s j
  ·subst q
   have f:(aU rs sy most many sw).F U j=true:=by delta gu.F;rw [jj];rfl
   rw [ul,ll,f,beq_self_eq_true,decide_eq_true rfl];rfl
  ·rw [decide_eq_false q]
   cases ui:U ((aU rs sy most many sw).lnk s i) with
   |false=>rfl
   |true=>
    rw [beq_false_of_ne (fun z=>((V0.eq i _ hi hl ui ul).mp z).elim q fun z=>by rw [ll,jj] at z;exact absurd z.2.1 Bool.false_ne_true)]
    rfl
 rw [V0.mems,e2];rfl
theorem O8 (H:kq rs sy most many) (hc:c.links=bJ many sw) (V0:∀s,s <2→r6 (aU rs sy most many sw) U ((aU rs sy most many sw).F U) s (e s) (B s)):pY c e (nv sw many U) rs sy most (NK e) (qC rs) (NA B):=by
 have ll:∀{s j},(aU rs sy most many sw).lnk s ((aU rs sy most many sw).lnk s j)=j:=wx
 have lt:∀{s j},j <many→(aU rs sy most many sw).lnk s j <many:=fun h=>H.lnk h
 have lk':∀{s j},s <2→lk (cF (ka sw) j) s=1+((aU rs sy most many sw).lnk s j:Int):=fun h=>EM (g:=aU rs sy most many sw) h
 have bv':∀{s j},s <2→NA B s (cF (ka sw) j)=B s ((aU rs sy most many sw).lnk s j):=fun h=>Od (g:=aU rs sy most many sw) h
 have port:∀s,s <2→∀j,j <many→∃a∈(e s).its,a.2.row.number=lk (cF (ka sw) j) s∧a.2.bundle=NK e s (cF (ka sw) j)∧(U j=true→a.2.bundle=some (NA B s (cF (ka sw) j)))∧(U j=false→a.2.bundle=none):=fun s hs j hj=>by
  obtain ⟨a,h1,h2,h3,h4,h5⟩:=(V0 s hs).port (lt hj)
  rw [ll] at h4 h5
  exact wI a h1 (h3.trans (lk' hs).symm) ((NN (g:=aU rs sy most many sw) hs h2).symm) (fun q=>(h4 q).trans (congrArg some (bv' hs).symm)) h5
 have rj:∀{j},j <many→pP (qC rs) (cF (ka sw) j)=(aU rs sy most many sw).joint j∧iU (qC rs) (cF (ka sw) j)=(aU rs sy most many sw).keys j:=fun h=>sW H h
 refine ⟨fun l hl=>?_,fun l hl=>?_,fun l hl s hs=>?_,fun l hl l' hl' s hs=>?_,fun l hl q s hs=>?_,fun l hl q s hs=>?_,?_,?_,fun l hl=>?_,?_⟩
 ·rw [hc] at hl
  refine ab (List.mem_map.mp hl) fun j hj zr78=>?_;subst zr78
  have hj:=List.mem_range.mp hj
  refine ⟨⟨fun s hs=>?_⟩,fun q=>?_⟩
  ·obtain ⟨a,h1,h2,h3,_⟩:=port s hs j hj
   exact cb a h1 h2 h3
  ·have uj:U j=false:=Bool.eq_false_iff.mpr fun z=>q (gA.mpr (cb j hj z rfl))
   exact lS (P:=fun s=>NK e s (cF (ka sw) j)=none) (j9 (port 0 (by decide) j hj) fun V V V h V g=>h.symm.trans (g uj)) (j9 (port 1 (by decide) j hj) fun V V V h V g=>h.symm.trans (g uj)) |> fun z=>⟨z 0 (by decide),z 1 (by decide)⟩
 ·refine ar (gA.mp hl) fun j hj V zr79=>?_;subst zr79
  rw [hc]
  exact List.mem_map.mpr (a9 j (List.mem_range.mpr hj) rfl)
 ·refine ar (gA.mp hl) fun j hj uj zr80=>?_;subst zr80
  obtain ⟨a,_,_,h3,h4,_⟩:=port s hs j hj
  exact h3.symm.trans (h4 uj)
 ·refine ar (gA.mp hl) fun j hj uj zr81=>?_;subst zr81
  refine ar (gA.mp hl') fun k hk uk zr82=>?_;subst zr82
  rw [bv' hs,bv' hs,(rj hj).1,(rj hk).1,(rj hj).2,(rj hk).2]
  have:=(V0 s hs).eq _ _ (lt (s:=s) hj) (lt (s:=s) hk) (ll.symm▸uj) (ll.symm▸uk)
  rw [ll,ll] at this
  refine this.trans (or_congr_left ⟨fun q=>?_,fun q=>by rw [GH q]⟩)
  have:=congrArg ((aU rs sy most many sw).lnk s) q
  rw [ll,ll] at this
  rw [this]
 ·refine ar (gA.mp hl) fun j hj uj zr83=>?_;subst zr83
  rw [(rj hj).1] at q
  rw [bv' hs]
  exact DC H (V0 s hs) hs hj uj q
 ·refine ar (gA.mp hl) fun j hj uj zr84=>?_;subst zr84
  rw [(rj hj).1] at q
  obtain ⟨a,h1,h2,_,h4,_⟩:=port s hs j hj
  have m:=Em H (V0 s hs) hj uj q
  rw [←bv' hs,←lk' hs] at m
  refine ⟨(cb a h1 h2 ?_),m⟩
  delta mP
  rw [h4 uj,m,h2,if_pos]
  rw [Option.isSome_some,Bool.true_and,List.contains_iff_mem]
  exact List.mem_singleton_self _
 ·have:=(Gl sw many (uC H.m)).sublist ((List.filter_sublist (p:=fun j=>U j)).map (cF (ka sw)):(nv sw many U).Sublist _)
  exact this
 ·delta nv
  rw [List.length_map]
  refine Nat.le_trans (List.length_filter_le ..) ?_
  rw [List.length_range];exact H.le
 ·refine ar (gA.mp hl) fun j hj V zr85=>?_;subst zr85
  exact OX H hj
 ·have:=NY sw many (uC H.m) (U 0) (U 1) (U 2)
  rw [←DQ H.le] at this
  have h3:(nv sw many U).length≤3:=by
   delta nv
   rw [List.length_map]
   refine Nat.le_trans (List.length_filter_le ..) ?_
   rw [List.length_range];exact H.le
  rw [eV au h3]
  exact congrArg _ this
end
theorem J6 {sw:Bool} {n:Nat}:nv sw n (fun V=>true)=bJ n sw:=by
 delta nv bJ
 rw [List.filter_eq_self.mpr fun V V=>rfl]
section
variable {c:WC} {e:E2} {most:Nat}
theorem Dx (hm:many=2∨many=3) (h1:1≤most) (so:u9 sy) (nums:∀i,i <2→cU (rs i)=ed many) (N:ML sy most rs ll (bJ many sw) many c e) (ok:∀i,i <2→gy (c.b i) (e i).its):mq (aU rs sy most many sw) c (Iv e) e:=by
 refine ⟨Hg hm h1 so,N.cl.2.2,fun s hs=>⟨(N.b s hs).1,(N.b s hs).2.1⟩,N.cl.2.1,fun s hs=>?_,fun s hs=>⟨FH nums hs (N.b s hs).2.2.1,(N.b s hs).2.2.2⟩⟩
 have nd:=(ok s hs).nd
 have h1:(oO ((e s).its.map (·.1))).Nodup:=(List.nodup_append.mp (List.nodup_append.mp nd).1).2.1
 have h2:=h1.sublist (KJ _)
 rw [FH nums hs (N.b s hs).2.2.1,List.map_map,List.map_map] at h2
 exact h2
end
theorem B2:oC:=fun c e rs sy most many ll sw hm h1 h3 so nums ok N eo=>by
 have H:kq rs sy most many:=⟨hm,h1,h3,so,nums,ok⟩
 have st:=Dx hm h1 so nums N eo
 have hc:c.links=bJ many sw:=N.cl.2.1
 have len:(bJ many sw).length=many:=by delta bJ;rw [List.length_map,List.length_range]
 have at':∀{j l},c.links[j]? =some l→j <many∧cF (ka sw) j=l:=fun {j l} h=>by
  rw [hc] at h
  have hj:j <many:=by rw [←len];exact (List.getElem?_eq_some_iff.mp h).1
  delta bJ at h
  rw [List.getElem?_map,List.getElem?_range hj] at h
  exact ⟨hj,Option.some.inj h⟩
 have mem:∀{l},l∈c.links→∃j,j <many∧cF (ka sw) j=l:=fun {l} h=>by
  rw [hc] at h
  refine ab (List.mem_map.mp h) fun j hj e=>?_
  exact a9 j (List.mem_range.mp hj) e
 have pick:∀{U:Nat→Bool} {e1:E2},(∀s,s <2→∃B,r6 (aU rs sy most many sw) U ((aU rs sy most many sw).F U) s (e1 s) B)→∃bd Rw Bv,pY c e1 (nv sw many U) rs sy most bd Rw Bv:=fun {U e1} v=>by
  refine cQ (v 0 (by decide)) fun B0 v0=>?_
  refine cQ (v 1 (by decide)) fun B1 v1=>?_
  exact ⟨_,_,_,O8 (B:=fun s=>if s=0 then B0 else B1) H hc (lS v0 v1)⟩
 refine dJ (Jc st) fun en e1 n0 n1 p1 v1 dn=>?_
 refine ⟨by rw [hc,len];exact H.le,by rw [hc];exact Gl sw many (uC hm),fun l hl s hs=>?_,en,e1,n0,fun j l hl=>?_,?_,?_,fun l hl=>?_⟩
 ·refine ab (mem hl) fun j hj zr48=>?_;subst zr48
  have:=H.lnk (sw:=sw) (s:=s) hj
  rw [show lk (cF (ka sw) j) s=_ from EM (g:=aU rs sy most many sw) hs,N.cl.2.2]
  omega
 ·refine bC (at' hl) fun hj zr49=>?_;subst zr49
  exact n1 j hj
 ·rw [hc,len];exact p1
 ·have:=pick v1
  rw [J6] at this
  rw [hc];exact this
 ·refine ab (mem hl) fun d hd zr50=>?_;subst zr50
  refine cH (dn d hd) fun x e3 x1 p3 v3=>?_
  refine hZ x e3 x1 p3 ?_
  have:=pick v3
  rw [←Lg sw many (uC hm) d (List.mem_range.mpr hd)] at this
  rw [hc];exact this
section
variable {a b c:Int}
noncomputable def jr (a b c:Int):pK:=⟨a,b,c,true,false,true⟩
end
noncomputable def Pj:Nat→aT |0=>(1,5) |_=>(2,5)
noncomputable def QU:Scope:={kind:=.function,names:=[(".0",.local),("side",.local)],isGenerator:=false,isCoroutine:=false}
section
variable {g:Heap}
theorem CM (P:cA w s.heap) (hg:env.globals=mainGlobals) (en:nsIn (K w.params) mainGlobals y=some (some (.ref f))) (hk:keepIn (K w.params) (.ref f)=true) (h:∀t,bg w A (call (.ref f) []) {s with toks:=t} R)
  (hkf:autoParam (env.scope.kind= .function) aF) (hx:autoParam (env.kindOf y=some .globalImplicit) aG) (hd:autoParam ((y==("__debug__":Str))=false) aE):bg w A (eval (.Call (.Name y p1) [] [] pos) env) s R:=by
 intro Q E q
 refine cI P.t fun p l mg mb t=>?_
 exact Call_ (Name_function_global hkf hx (loadGlobal_global (by rw [hg];exact t.g) (mg_of P.k t.g en) (callWith_K0 P.k hk (h s.toks Q E q))) hd) (by rfl)
end
noncomputable abbrev Hq (l:Nat):Env:=callEnvC (cJ (dz 62) "_law_few_right" .none (.str "law_pc0383_01" 876) (.ref 569)) l 570
section
variable {w:World} {n:Nat} {k:Cx w n} {lo:Nat} {env:Env} {L:LL} {Ps:List HP} {K:D→List HP→Prop} {rl:Addr} {fd:Nat→Addr} {rs:Nat→List RI} {a b c:Int}
theorem JI:Sp w 2 143 [.int a,.int b,.int c] [] fun K=>∀r:RI,r.row=jr a b c→K (.ref r.rx) [cy w [r]]:=fun A r K q s vs rs fr st sep=>
 (GO (row:=jr a b c) (ds:=[.int a,.int b,.int c]) (fun vs=>vs++ [.bool true,.bool false,.bool true]) (fun v1 v2 v3 v4 s P=>BindsTo.of_defaults (T:=119) (o:=e7 [.bool true,.bool false,.bool true] 0) (items:= #[.bool true,.bool false,.bool true]) (n:=0) (by rfl) (P.k _ _ (by kernel_rfl)) (by rfl) (by rfl) (by rfl)) (fun v1 v2 v3 v4 n=>by kernel_rfl) (fun h x vs r=>r.append (.cons (.bool true) (.cons (.bool false) (.cons (.bool true) .nil)))) A r (fun d Qs=>∃y dy,d= .ref y∧Qs= [jH w y 143 dy (dZ (jr a b c))]) (fun y dy=>⟨y,dy,rfl,rfl⟩) s vs rs fr st sep).mono fun v h'=>eX fun d Qs zz2 rd X=>ao zz2 fun y dy e1 e2=>by
  subst e1 e2
  have O:Ob w h' y 143 dy (dZ (jr a b c)):=X.S _ (.head _)
  exact ⟨.ref y,[cy w [⟨y,dy,jr a b c⟩]],q ⟨y,dy,jr a b c⟩ rfl,rd,X.conv (cy w [⟨y,dy,jr a b c⟩]) [0] [] .nil ⟨gz O,List.nodup_cons.mpr ⟨fun q=>O.ne (ur q),List.nodup_cons.mpr ⟨mN,.nil⟩⟩⟩ (fun z hz=>Nt.mpr hz) (fun z hz=>PF.mpr hz) fun V V h=>noM h⟩
theorem BG {r1 r2:List RI}:Mg (cy w r1) (cy w r2) (cy w (r1++r2)):=
 have e:gf (r1++r2)=gf r1++gf r2:=by unfold gf;rw [List.flatMap_append]
 have g:∀z,z∈gf (r1++r2)→z∈gf r1∨z∈gf r2:=fun z q=>List.mem_append.mp (e▸q)
 ⟨fun h p a b=>⟨MZ a.1 b.1,e▸List.nodup_append.mpr ⟨a.2,b.2,fun z hz u hu q=>p.1 z hz (q▸hu)⟩⟩,g,g⟩
theorem wR {p0 p1 p2 p3 p4:Pos} {k1 k2 k3:Nat} (q:∀r:RI,r.row=jr a b c→K (.ref r.rx) (cy w [r]::Ps)) (hn:autoParam (Nat.ble 2 n=true) aR) (hx:autoParam (dY env "LacpRow"=true) aR):Xe k env L Ps (.Call (.Name "LacpRow" p0) [.Constant (.int a) k1 p1,.Constant (.int b) k2 p2,.Constant (.int c) k3 p3] [] p4) K:=
 bw (uH _) (by kernel_rfl) (AN (ae aj (ae aj (ae aj aC))) (gg (Pre:=[]) JI q hn)) hx
theorem JV {f:Addr} {y:Str} {p1 pos:Pos} (en:nsIn (Mine.K w.params) mainGlobals y=some (some (.ref f))) (hk:keepIn (Mine.K w.params) (.ref f)=true) (C:Jt w n f [] Ps K) (hy:autoParam (dY env y=true) aR):Xe k env L Ps (.Call (.Name y p1) [] [] pos) K:=fun s h t m X=>
 CM X.f.pin X.v.g en hk (fun t=>(C.run (s:=sh s h t) X .nil).mono fun v h'=>ak fun d Rs k r Z t2=>⟨d,Rs,k,r,Z,t2⟩) X.v.k (bN hy).1 (bN hy).2
theorem Je {k:Cx w 24} {p1 p2 p3 p4 p5 p6 p7 p8 p9 p10:Pos} {k1 k2:Nat} (hl:L.lookup (Str.ofString "rows")=some (D.ref rl)) (O:Hs Ps fun h=>FO w h rl fd rs) (nums:∀i,i <2→cU (rs i)=ed 2) (tw:∀i,i <2→∃ra rb:RI,rs i= [ra,rb]∧ra.row.number=1∧rb.row.number=2∧True) (q:∀rl2 l,K (.ref rl2) (BV rl2 l rs::Ps)):
  Xe k (Hq lo) L Ps (.ListComp (.List [.Subscript (.Name "side" p1) (.Constant (.int 1) k1 p2) p3,.Subscript (.Name "side" p4) (.Constant (.int 2) k2 p5) p6] p7) [⟨.Name "side" p8,.Name "rows" p9,[],0⟩] QU p10) K:=by
 refine KG hl O (fun i hi C Qs O2=>?_) q ⟨rfl,fun V=>⟨rfl,Nat.le_refl _⟩⟩
 have O3:=fun h q=>(O h (O2 h q)).d i hi
 refine bI (tw i hi) fun ra rb e a b V=>?_
 have at1:∀r∈rs i,∀j:Int,r.row.number=j→fu (cG (rs i)) j=some (.ref r.rx):=fun r hr j q=>q▸zO (by rw [nums i hi];decide) hr
 have he: [D.ref ra.rx,D.ref rb.rx]=(rs i).map fun r:RI=>D.ref r.rx:=by rw [e];rfl
 exact he▸qj (ae (i9 (aa rfl) aj gj O3 (at1 ra (by rw [e];exact .head _) 1 a)) (ae (i9 (aa rfl) aj gj O3 (at1 rb (by rw [e];exact jT) 2 b)) aC)) (Nat.le_of_ble_eq_true rfl)
theorem D5 {k:Cx w 24} {K:D→List HP→Prop} (q:∀rl f0 f1 (r1 r2 r3 r4:RI),r1.row=jr 1 8 4→r2.row=jr 2 3 4→r3.row=jr 1 3 4→r4.row=jr 2 8 4→Tr k (Hq lo) [("rows",.ref rl)] [aq rl [.ref f0,.ref f1],cy w [r4],cy w [r3],j4 w (intKind pw w) f1 [(1,.ref r3.rx),(2,.ref r4.rx)],cy w [r2],cy w [r1],j4 w (intKind pw w) f0 [(1,.ref r1.rx),(2,.ref r2.rx)],aV] ((cu (dz 62)).drop 1) (DN K)):Tr k (Hq lo) [] [aV] (cu (dz 62)) (DN K):=by
 refine @xR _ _ _ _ _ _ _ _ _ _ _ _ ?_ rfl rfl
 refine @jZ _ _ _ _ _ _ _ _ _ ?_
 refine @dr _ _ _ _ _ _ _ _ _ ?_ rfl
 refine (AV (knd:=intKind pw w) [?x,?y] (fun fd0=>?k) ?a ?b ?c:_)
 case a=>exact rfl
 case b=>exact rfl
 case c=>exact rfl
 refine @mB _ _ _ _ _ _ _ _ _ _ _ _ _ _ _ _ 1 aj gj (@wR _ _ _ _ _ _ _ _ _ _ _ _ _ _ _ _ _ _ (fun r1 e1=> @mB _ _ _ _ _ _ _ _ _ _ _ _ _ _ _ _ 2 aj gj (@wR _ _ _ _ _ _ _ _ _ _ _ _ _ _ _ _ _ _ (fun r2 e2=>Fy ⟨2,rfl,by simp only [List.map_cons,List.map_nil];decide,?_⟩) rfl rfl)) rfl rfl)
 refine @dr _ _ _ _ _ _ _ _ _ ?_ rfl
 refine (AV (knd:=intKind pw w) [?x2,?y2] (fun fd1=>?k2) ?a2 ?b2 ?c2:_)
 case a2=>exact rfl
 case b2=>exact rfl
 case c2=>exact rfl
 exact @mB _ _ _ _ _ _ _ _ _ _ _ _ _ _ _ _ 1 aj gj (@wR _ _ _ _ _ _ _ _ _ _ _ _ _ _ _ _ _ _ (fun r3 e3=> @mB _ _ _ _ _ _ _ _ _ _ _ _ _ _ _ _ 2 aj gj (@wR _ _ _ _ _ _ _ _ _ _ _ _ _ _ _ _ _ _ (fun r4 e4=>Fy ⟨2,rfl,by simp only [List.map_cons,List.map_nil];decide,cR ⟨Nat.le_of_ble_eq_true rfl,fun rl=> @q rl fd0 fd1 r1 r2 r3 r4 e1 e2 e3 e4⟩⟩) rfl rfl)) rfl rfl)
end
section
variable {k:Cx w 24} {K:D→List HP→Prop} {rl sl:Addr} {most:Nat}
noncomputable abbrev R5 (w:World) (rl:Addr) (fd:Nat→Addr) (rs:Nat→List RI):List HP:=[aq rl [.ref (fd 0),.ref (fd 1)],cy w (rs 0),cy w (rs 1),d6 w (fd 0) (cG (rs 0)),d6 w (fd 1) (cG (rs 1)),aV]
theorem GY (br:oC) (hmany:many=2∨many=3) (m1:1≤most) (m3:most≤3) (so:u9 sy) (nums:∀i,i <2→cU (rs i)=ed many) (ok:∀i,i <2→∀r∈rs i,kM r) (q:∀Qs,K (.bool true) (aV::Qs)):Tr k (xK lo) [("systems",.ref sl),("rows",.ref rl),("many",.int many),("most",.int most),("source",.ref src)] (aq sl [aw (sy 0),aw (sy 1)]::fQ src::R5 w rl fd rs) ((cu (dz 63)).drop 5) (DN K):=by
 have hm:many≤3:=by omega
 have len:((bJ many false).map au).length≤500:=by delta bJ;rw [List.length_map,List.length_map,List.length_range];exact Nat.le_trans hm (by decide)
 have e0:(List.range many).map (fun (j:Nat)=>au (1+(j:Int),1+(j:Int)))=(bJ many false).map au:=by delta bJ;rw [List.map_map];rfl
 refine kT (pc (x:="number") (its:=List.range many) (g:=fun (j:Nat)=>.int (1+(j:Int))) (f:=fun (j:Nat)=>au (1+(j:Int),1+(j:Int))) [] (E4 (i:=1) (k:=many) aj ?_ (by decide) (Nat.le_trans hm lr)) (fun j hj C=>gU (ae (aa rfl) (ae (aa rfl) aC))) (by rw [List.length_range];exact Nat.le_trans hm lr)) (fun ll=>?_)
 ·rw [Int.add_comm];exact b7 (aa rfl) aj fun V=>e9
 rw [e0]
 refine EP (NB (B3 (As:=[aq ll ((bJ many false).map au),aq sl [aw (sy 0),aw (sy 1)]]) rfl fun i V V=>⟨_,_,aj,fun V=>jF,fun V=>?_,fun V=>?_⟩))
 ·refine @xR _ _ _ _ _ _ _ _ _ _ _ _ (@Hu _ _ _ _ _ _ _ _ _ (Gp hmany▸ @NQ _ _ _ _ _ _ _ _ _ _ _ (qj (ae (gU (ae aj (ae aj aC))) (ae (gU (ae aj (ae aj aC))) aC))) (Mt (kk:=2) (aa rfl) (hs 0 (P:=aq ll ((bJ many false).map au))) ?_ aj) ?_) fun l2=>bM (cq [0,2,3,4,5,6,7,8,9] (zt (L0:=hL l2 sl rl src many most) (Hd (sw:=true) br hmany m1 m3 so nums ok q)))) rfl rfl
  ·exact Nat.le_trans len (by decide)
  ·rw [List.length_drop];exact Nat.le_trans (Nat.add_le_add (show _≤500 from Nat.le_of_ble_eq_true rfl) (Nat.le_trans (Nat.sub_le ..) len)) (by decide)
 ·exact bM (Hd (sw:=false) br hmany m1 m3 so nums ok q)
theorem x7 {n:Nat} {k:Cx w n} {env:Env} {L:LL} {Ps:List HP} {i j:Int} {k0 k1 k2:Nat} {p1 p2 p3:Pos}:Xp k env L Ps (.Tuple [.Constant (.int i) k0 p1,.Constant (.int j) k1 p2] k2 p3) (aw (i,j)):=gU (ds:=[.int _,.int _]) (ae aj (ae aj aC))
theorem LA (br:oC) (hmany:many=2∨many=3) (m1:1≤most) (m3:most≤3) (nums:∀i,i <2→cU (rs i)=ed many) (ok:∀i,i <2→∀r∈rs i,kM r) (q:∀Qs,K (.bool true) (aV::Qs)):Tr k (xK lo) [("rows",.ref rl),("many",.int many),("most",.int most),("source",.ref src)] (fQ src::R5 w rl fd rs) ((cu (dz 63)).drop 4) (DN K):=by
 refine xR (bw (km _) (by kernel_rfl) (eM rfl (@dr _ _ _ _ _ _ _ _ _ (@jZ _ _ _ _ _ _ _ _ _ (@dr _ _ _ _ _ _ _ _ _ (@Hu _ _ _ _ _ _ _ _ _ (qj (ae x7 (ae x7 aC))) fun a=> @dr _ _ _ _ _ _ _ _ _ (@Hu _ _ _ _ _ _ _ _ _ (qj (ae x7 (ae x7 aC))) fun b=>cR ⟨Nat.le_of_ble_eq_true rfl,fun l=>cR (zy [3,0] [1,2,4,5,6,7,8,9] (BK (ds:=[.ref a,.ref b]) ?_ ?_) fun d hd=>?_)⟩) rfl) rfl)) rfl)))
 ·exact Nat.le_of_ble_eq_true rfl
 ·exact Nat.le_of_ble_eq_true rfl
 ·rcases Cv hd with rfl |rfl
  ·exact cq [2,0,3,4,5,6,7,8] (GY (sy:=fun i=>if i=0 then (1,5) else (2,5)) br hmany m1 m3 (.inl ⟨rfl,rfl⟩) nums ok q)
  ·exact cq [1,0,3,4,5,6,7,8] (GY (sy:=fun i=>if i=0 then (3,9) else (3,7)) br hmany m1 m3 (.inr ⟨rfl,rfl⟩) nums ok q)
end
section
variable {k:Cx w 24} {K:D→List HP→Prop} {rl:Addr} {most:Nat}
theorem LJ {c:Int} {ds:List D} (br:oC) (hz:(ds.length:Int)+1 <2 ^ 62):Sp w 25 575 [.ref scr] [aV,yo w scr (.int c::ds)] fun K=>∀Qs,K (.bool true) (aV::Qs):=by
 refine bf ["script"] K0 fun k l K q=>?_
 refine cZ (KX (by rfl) (aa rfl) (hs 1 (P:=yo w scr (.int c::ds)))) (fun hb=>by cases hb) fun V=>bM ?_
 refine xR (bw (vD _) (by kernel_rfl) (AN (ae (aa rfl) (ae aj aC)) (zy [1] [0] (IX (n:=22) (c:=c) (scr:=scr) hz) fun src=>cq [0,2] ?_)))
 refine mJ (EX (AA (Rs:=[aV]) rfl fun i i0 i1=>⟨i,rfl,EX (AA (Rs:=[aV]) rfl fun j j0 j1=>⟨j,rfl,?_⟩)⟩))
 obtain ⟨many,em,hmany⟩:∃many:Nat,2+i=many∧(many=2∨many=3):=⟨(2+i).toNat,(Int.toNat_of_nonneg (by omega)).symm,by omega⟩
 obtain ⟨most,eo,m1,m3⟩:∃most:Nat,1+j=most∧1≤most∧most≤3:=⟨(1+j).toNat,(Int.toNat_of_nonneg (by omega)).symm,by omega,by omega⟩
 rw [em,eo]
 have hm:many≤3:=by omega
 refine xR (jZ (dr (bw (oh _) (by kernel_rfl) (eM rfl (eM rfl (cR (gg (Rs:=[aV]) (BZ hm) fun fd0 rs0 n0 o0=>dr (bw (oh _) (by kernel_rfl) (eM rfl (eM rfl (cR (gg (Rs:=[cy w rs0,d6 w fd0 (cG rs0),aV]) (BZ hm) fun fd1 rs1 n1 o1=>cR ⟨Nat.le_of_ble_eq_true rfl,fun rl=>?_⟩))))))))))))
 obtain ⟨rs,rfl,rfl⟩:∃rs:Nat→List RI,rs 0=rs0∧rs 1=rs1:=⟨fun i=>if i=0 then rs0 else rs1,rfl,rfl⟩
 obtain ⟨fd,rfl,rfl⟩:∃fd:Nat→Addr,fd 0=fd0∧fd 1=fd1:=⟨fun i=>if i=0 then fd0 else fd1,rfl,rfl⟩
 exact cq [1,0,4,2,5,3,6] (zt (L0:=[("rows",.ref rl),("many",.int many),("most",.int most),("source",.ref src)]) (LA (fd:=fd) br hmany m1 m3 (lS n0 n1) (lS o0 o1) q))
end
section
variable {k:Cx w 24} {K:D→List HP→Prop} {rl sl:Addr} {c:WC}
noncomputable abbrev fL (c:WC) (rl sl:Addr):LL:=[("scene",.ref c.sc),("systems",.ref sl),("links",.ref c.ll),("rows",.ref rl)]
noncomputable abbrev Fd (w:World) (rl:Addr) (fd:Nat→Addr) (rs:Nat→List RI) (sl:Addr) (sy:Nat→aT):List HP:=[aq rl [.ref (fd 0),.ref (fd 1)],d6 w (fd 0) (cG (rs 0)),d6 w (fd 1) (cG (rs 1)),i5 w (rs 0),i5 w (rs 1),aq sl [aw (sy 0),aw (sy 1)]]
theorem J2 (T:Aq c e0 rs sy 1) (hn:Nm c e0) (q:∀Qs,K (.bool true) (aV::Qs)):Tr k (Hq lo) (fL c rl sl) (Wd w c e0 []++Fd w rl fd rs sl sy) ((cu (dz 62)).drop 3) (DN K):=by
 obtain ⟨en,e1,E0,E1,E2,⟨bd,Rw,Bv,o1⟩,_⟩:=T.run
 have hl10:c.links.length≤10:=Nat.le_trans T.len lr
 refine c8 (xO 3 (aa rfl) ((hs 3 (P:=iW w c)).mp fun V S=>S.2.2) ?_ rfl rfl uO)
 refine yW (L0:=fL c rl sl) (fun i K=>Nm c (en i)→K (fL c rl sl) (Wd w c (en i) (c.links.take i)++Fd w rl fd rs sl sy)) (fun K k=>?_) (fun k' i l hl hn=>?_) fun hn=>?_
 ·have:=k (E0▸hn)
  rwa [E0] at this
 ·refine ab (E1 i l hl) fun x hx ex=>?_
  have hno:=Ck T.nd hl
  have st:=jb (w:=w) (up:=c.links.take i) hn (by rw [List.length_take];omega) (T.rng l (List.mem_of_getElem? hl)) x (by rw [hno];exact hx)
  rw [hno] at st
  rw [ex,oF hl]
  exact Fh (bw (fq _) (by kernel_rfl) (eM rfl (eM rfl (cR (gg st (kE (b9 (fun K k=>k (hn.fr (vu (fun i hi=>oo (hx i hi)) 2))) rfl)))))))
 ·rw [List.take_length]
  refine Fh (bw (oJ _) (by kernel_rfl) (AN (ae (aa rfl) (ae aj aC)) (gg (Bp (many:=6) hn hl10 (by decide) E2) (kE ?_))))
  exact bz (gJ (d:=.bool true) (ae (aa rfl) (ae (aa rfl) (ae (aa rfl) (ae aj aC)))) (gP _) (by kernel_rfl) (OB (Bs:=Rb w c e1 c.links rl fd rs sl sy) [0,1,2,3,4,5,6,7,8,9,10]) fun h p S=>GF (B8 (most:=1) o1) (k.r.le (by decide)) p S) (q _)
end
section
variable {w:World} {k:Cx w 24} {lo:Nat} {K:D→List HP→Prop} {rl:Addr} {fd:Nat→Addr} {rs:Nat→List RI}
theorem Gm (nums:∀i,i <2→cU (rs i)=ed 2) (tw:∀i,i <2→∃ra rb:RI,rs i= [ra,rb]∧ra.row.number=1∧rb.row.number=2∧True) (ok:∀i,i <2→∀r∈rs i,kM r) (q:∀Qs,K (.bool true) (aV::Qs)):Tr k (Hq lo) [("rows",.ref rl)] [i5 w (rs 0),i5 w (rs 1),aq rl [.ref (fd 0),.ref (fd 1)],d6 w (fd 1) (cG (rs 1)),d6 w (fd 0) (cG (rs 0)),aV] ((cu (dz 62)).drop 1) (DN K):=by
 refine @mJ _ _ _ _ _ _ _ _ _ _ _ _ _ _ _ _ _ _ _ (@Hu _ _ _ _ _ _ _ _ [aw (Pj 0),aw (Pj 1)] (qj (ae x7 (ae x7 aC))) fun sl=> @Hu _ _ _ _ _ _ _ _ ((bJ 2 false).map au) (qj (ds:=(bJ 2 false).map au) (ae x7 (ae x7 aC))) fun ll=>?_) rfl rfl rfl rfl rfl
 refine xR ?_ rfl rfl
 refine (bw (mu _) (by kernel_rfl) ?xa ?xb ?xc:_)
 case xb=>exact rfl
 case xc=>exact rfl
 refine dr ?_ rfl
 refine jZ ?_
 refine cR ⟨Nat.zero_le _,fun a0=>?_⟩
 refine eM rfl (dr (zw aj (dr (Je (fd:=fd) (rs:=rs) rfl ?_ nums tw fun rl2 l=>eM rfl (cR (zy [3,0,4,5,9,2] [1,6,7,8] (yO (most:=1) (l:=l) (sy:=Pj) (links:=bJ 2 false) (by decide) (Nat.le_of_ble_eq_true rfl) nums) fun c e NF=>?_))))))
 ·exact fun h S=>⟨S _ (List.mem_of_getElem? (i:=5) rfl),lS (S (d6 w (fd 0) (cG (rs 0))) (List.mem_of_getElem? (i:=7) rfl)).1 (S (d6 w (fd 1) (cG (rs 1))) (List.mem_of_getElem? (i:=6) rfl)).1,lS (S (i5 w (rs 0)) (List.mem_of_getElem? (i:=3) rfl)).1 (S (i5 w (rs 1)) (List.mem_of_getElem? (i:=4) rfl)).1⟩
 ·obtain ⟨rfl,hc,hma⟩:=NF.cl
  refine gp ((hs 1 (P:=bn w c e 0)).mp fun V S=>S.ok) fun ok0=>gp ((hs 2 (P:=bn w c e 1)).mp fun V S=>S.ok) fun ok1=>?_
  exact cq [0,1,2,3,4,9,11,10,5,6,7] (zt (L0:=fL c rl sl) (J2 (fd:=fd) (B2 c e rs Pj 1 2 c.ll false (.inl rfl) (Nat.le_refl _) (by decide) (.inl ⟨rfl,rfl⟩) nums ok NF (lS ok0 ok1)) (fun i hi=>((NF.b i hi).2.2.1.nums).trans (by rw [hma];exact nums i hi)) q))
end
section
variable {K:D→List HP→Prop} {rl:Addr}
theorem B7 {r1 r2:RI} {b b2:Int} (e1:r1.row=jr 1 b 4) (e2:r2.row=jr 2 b2 4):cG [r1,r2]= [(1,.ref r1.rx),(2,.ref r2.rx)]∧cU [r1,r2]=ed 2∧∃ra rb:RI,[r1,r2]= [ra,rb]∧ra.row.number=1∧rb.row.number=2∧True:=by
 have n1:r1.row.number=1:=congrArg pK.number e1
 have n2:r2.row.number=2:=congrArg pK.number e2
 refine ⟨?_,?_,r1,r2,rfl,n1,n2,trivial⟩
 ·show [(r1.row.number,D.ref r1.rx),(r2.row.number,D.ref r2.rx)]=_
  rw [n1,n2]
 ·show [r1.row.number,r2.row.number]=_
  rw [n1,n2];rfl
theorem vX {r:RI} {a b:Int} (e:r.row=jr a b 4) (hb:b=8∨b=3):kM r:=⟨.inl (congrArg pK.key e),by rw [e];exact hb⟩
theorem I0 {n:Nat} {k:Cx w n} {env:Env} {L:LL} {ss:List Stmt} {J:Po} {l a b t:HP} {r1 r2 r3 r4:RI} (ht:t=aV) (q:Tr k env L [i5 w [r1,r2],i5 w [r3,r4],l,a,b,aV] ss J):Tr k env L [l,cy w [r4],cy w [r3],a,cy w [r2],cy w [r1],b,t] ss J:=
 ht▸Dk 5 4 [0,1,2,3,6,7] (BG (r1:=[r1]) (r2:=[r2])) (Dk 3 2 [0,1,4,5,6] (BG (r1:=[r3]) (r2:=[r4])) (H0 (rs:=[r3,r4]) 0 5 [1,2,3,4,5] (H0 (rs:=[r1,r2]) 1 5 [0,2,3,4,5] q)))
theorem ES {n:Nat} {k:Cx w n} {env:Env} {L:LL} {ss:List Stmt} {J:Po} {f0 f1:Addr} {r1 r2 r3 r4:RI}
  (q:∀(fd:Nat→Addr) (rs:Nat→List RI),(∀i,i <2→cU (rs i)=ed 2)→(∀i,i <2→∃ra rb:RI,rs i= [ra,rb]∧ra.row.number=1∧rb.row.number=2∧True)→(∀i,i <2→∀r∈rs i,kM r)→Tr k env L [i5 w (rs 0),i5 w (rs 1),aq rl [.ref (fd 0),.ref (fd 1)],d6 w (fd 1) (cG (rs 1)),d6 w (fd 0) (cG (rs 0)),aV] ss J)
  (e1:r1.row=jr 1 8 4) (e2:r2.row=jr 2 3 4) (e3:r3.row=jr 1 3 4) (e4:r4.row=jr 2 8 4):Tr k env L [aq rl [.ref f0,.ref f1],cy w [r4],cy w [r3],j4 w (intKind pw w) f1 [(1,.ref r3.rx),(2,.ref r4.rx)],cy w [r2],cy w [r1],j4 w (intKind pw w) f0 [(1,.ref r1.rx),(2,.ref r2.rx)],aV] ss J:=by
 refine cB (B7 e1 e2) fun d0 n0 t0=>?_
 refine cB (B7 e3 e4) fun d1 n1 t1=>?_
 have k0:∀r∈ [r1,r2],kM r:=DO (vX e1 (.inl rfl)) (vX e2 (.inr rfl))
 have k1:∀r∈ [r3,r4],kM r:=DO (vX e3 (.inr rfl)) (vX e4 (.inl rfl))
 have:=q (fun i=>if i=0 then f0 else f1) (fun i=>if i=0 then [r1,r2] else [r3,r4]) (lS n0 n1) (lS t0 t1) (lS k0 k1)
 rw [←d0,←d1]
 exact I0 rfl this
theorem MP:Sp w 25 570 [] [aV] fun K=>∀Qs,K (.bool true) (aV::Qs):=by
 refine bf [] nZ fun k l K q=>?_
 refine @D5 w l k K ?q
 intro rl f0 f1 r1 r2 r3 r4 e1 e2 e3 e4
 refine (ES ?_ e1 e2 e3 e4:_)
 intro fd rs n t o
 refine @Gm w k l K rl fd rs ?_ ?_ ?_ ?_
 all_goals assumption
theorem Jj {scr:Addr}:Sp w 26 575 [.ref scr] [aV,yo w scr []] fun K=>∀Qs,K (.bool true) (aV::Qs):=by
 refine bf ["script"] K0 fun k l K q=>?_
 exact cZ (KX (by rfl) (aa rfl) (hs 1 (P:=yo w scr []))) (fun V=>kW (JV (oq _) (by kernel_rfl) (gg (Rs:=[yo w scr []]) MP fun Qs=>q _))) fun hb=>by cases hb
end
noncomputable def NC:DefRec:=match dz 63 with | .FunctionDef n a b _ _ _ sc _ _ p=>⟨n,a,b,sc,p⟩ |_=>⟨default,default,default,default,default⟩
theorem N8 {w:World} {s₀:Shared} {h:Heap} (Y:uw s₀=zk w) (k:Sub s₀.heap h):(K w.params).In h∧h.get? 368=some (tabObj #[])∧∃o,h.get? 4=some o∧o.cls= .type "module"∧o.dict=some builtinsNs∧o.data= .plain:=by
 obtain ⟨a,b⟩:=Prod.mk.inj Y
 obtain ⟨b,c⟩:=Prod.mk.inj b
 refine ab (Option.map_eq_some_iff.mp c) fun o e c=>?_
 obtain ⟨c1,c⟩:=Prod.mk.inj c
 obtain ⟨c2,c3⟩:=Prod.mk.inj c
 exact ⟨(Frag.in_of (Mk _) a).keeps k,k _ _ b,o,k _ _ e,c1,c2,c3⟩
theorem wo {h:Heap} {a:Addr} {mm:Str→Option Value} (e0:h.get? 368=some (tabObj #[])) (x:h.Ns a mm):(hideAll h [368]).Ns a mm:=
 a8 x fun o es ep e hd r=>⟨o,es,ep,hideAll_get _ e (fun q=>by rw [List.mem_singleton.mp q,e0] at e;cases e;cases hd),hd,r⟩
theorem Ow (P:Params):(K P).lookup 368=none:=by kernel_rfl
theorem Ie {w:World} {h:Heap} {p:Program} {loose:List Str} {mg mb:Str→Option Value} (KI:(K w.params).In h) (e0:h.get? 368=some (tabObj #[])) (T:TopRead p loose mg mb h):lR w h [368]:=
 (cb (hideAll h [368]) ⟨fun a o e=>hideAll_get _ (KI a o e) (fun q=>by rw [List.mem_singleton.mp q,Ow] at e;cases e),p,loose,mg,mb,wo e0 T.g,wo e0 T.b,ab T.nolimit fun mc a r=>(a9 mc (wo e0 a) r),T.builtins,T.free⟩ (fun b o e=>of_hideAll _ e) (fun b hb=>hideAll_none _ hb))
theorem My {R:WRecords} {d:WData} (h:WShape.has R d .int=true):∃i,d= .int i:=by
 cases d<;>first |exact ⟨_,rfl⟩ |(cases h;done)
theorem HH {R:WRecords} {cl:Str→Option Addr} {h:Heap} (xs:List WData):∀{vs:List Value} {as:List Addr},WShape.hasItems R xs .int=true→ReadsAllW R cl h vs xs as→∃is:List Int,is.length=xs.length∧bp h vs (is.map D.int):=by
 induction xs with
 |nil=>intro vs as _ r;cases r;exact a9 [] rfl .nil
 |cons x xs ih=>
  intro vs as hi r
  cases r with |cons r rs=>
  have h1:=Bool.and_eq_true_iff.mp hi
  refine cQ (My h1.1) fun i e=>?_
  subst e
  cases r
  exact ab (ih h1.2 rs) fun is e q=>a9 (i::is) (congrArg (· +1) e) (.cons (.int _ _) q)
theorem PJ:WalkX vw MS (fun V V=>True) uw zk PySem.Challenge.rw_pc0383_01.row.toRowW NC [] fun f vs=>PySem.call f vs:=by
 intro w s₀ s₁ mg mb G Y fa o pm cd doc dV kV ho hd hcd hD hmg hg args vals as L hpre hlay hrd hwl hlo
 refine cB (N8 Y L.keeps) fun KI e0 bi=>?_
 have T:=topRead_of G.T
 have hfa:fa=575:=by
  have h1:mg "law"=some (.ref 575):=mg_of KI T.g (NW w.params)
  have h2:mg "law"=some (.ref fa):=hmg
  rw [h1] at h2;cases h2;rfl
 subst hfa
 obtain ⟨h1,h2⟩:=pre_splitW hpre
 obtain ⟨d,r,rfl,h3,h4⟩:=hasAllW_cons h1
 obtain ⟨xs,rfl,h5⟩:=hasW_list h3
 obtain rfl:r= []:=by
  cases r with
  |nil=>rfl
  |cons=>cases h4
 obtain ⟨v,a,as',rfl,hv,hi⟩:∃v a as',vals= [v]∧v= .ref a∧∃ot vs n,s₁.heap.get? a=some ot∧ot.cls= .type "list"∧ot.data= .seq vs n∧ReadsAllW (RowW.records PySem.Challenge.rw_pc0383_01.row.toRowW) (classAt s₀.heap) s₁.heap vs.toList xs as':=by
  cases hrd with |cons q qs=>
  cases qs
  cases q with |list a b c d=>exact ⟨_,_,_,rfl,rfl,_,_,_,a,b,c,d⟩
 subst hv
 refine ic hi fun ot vs n g1 g2 g3 g4=>?_
 refine ab (HH _ h5 g4) fun is hl rd=>?_
 have len:xs.length≤63:=by
  have hc:=condW_of h2 (by wtm_val)
  rw [Bool.and_true,Bool.not_eq_true',decide_eq_false_iff_not] at hc
  omega
 have F:=Ie KI e0 T
 have tab:Di s₁.heap:=⟨(cb (#[]) e0 trivial (.inl rfl)),bi⟩
 have lst:i6 s₁.heap a (is.map D.int):=a9 vs.toList (yb ot g1 g2 n (by rw [Array.toArray_toList];exact g3)) rd
 have R:Rm 27 callerA:=⟨by decide,by decide,rfl⟩
 have hne:a≠368:=fun q=>by
  rw [q,e0] at g1;cases g1;cases g2
 have main:bg w callerA (call (.ref 575) [.ref a]) s₁ fun v h'=>cv [368] s₁.heap h'∧bl s₁.heap h'∧RD h' v (.bool true)∧Di h':=by
  have go:∀{n:Nat} {ds:List D},n≤27→i6 s₁.heap a ds→Sp w n 575 [.ref a] [aV,yo w a ds] (fun K=>∀Qs,K (.bool true) (aV::Qs))→bg w callerA (call (.ref 575) [.ref a]) s₁ fun v h'=>cv [368] s₁.heap h'∧bl s₁.heap h'∧RD h' v (.bool true)∧Di h':=fun {n ds} hn l sp=>
   (sp callerA (R.le hn) (fun d Qs=>d= .bool true∧∃Q,Qs=aV::Q) (fun Qs=>⟨rfl,Qs,rfl⟩) s₁ [.ref a] (.cons (.ref a) .nil) F (DO tab l) (List.pairwise_cons.mpr ⟨fun P q=>List.mem_singleton.mp q▸⟨fun z hz q=>hne ((List.mem_singleton.mp q).symm.trans (List.mem_singleton.mp hz)),fun z hz=>noM hz⟩,List.pairwise_singleton ..⟩)).mono fun v h'=>eX fun d Qs zz30 rd X=>u3 zz30 fun e Q e2=>⟨X.kp,X.tt,e▸rd,X.S aV (e2▸ .head _)⟩
  cases his:is with
  |nil=>
   rw [his] at lst
   exact go (by decide) lst Jj
  |cons c ds=>
   rw [his] at lst
   refine go (by decide) lst (LJ B2 ?_)
   rw [List.length_map]
   rw [his] at hl
   simp only [List.length_cons] at hl
   omega
 refine main _ _ fun v h' t'=>iA fun kp tt r tb=>?_
 cases r
 refine l6 (.inl ⟨_,.bool true,[],rfl,fun V=>rfl,.bool true,by kernel_rfl,fun V=>⟨.nil,fun V h=>by cases h⟩⟩) ⟨fun b ob e=>?_,fun b ob e=>?_⟩ rfl ?_
 ·by_cases q:b=368
  ·subst q
   rw [e0] at e
   cases e
   refine ab tb.ex fun ps e1 V=>?_
   obtain ⟨oc,vc,_,_,_,_,_,_,_,c1,c2,c3,c4,_⟩:=codeHd_of_K KI (Ke w.params)
   exact .inr (.inl ⟨(JL 372 oc vc c1 c2 c3 c4),rfl,#[],ps,rfl,by rw [e1,Array.empty_append]⟩)
  ·exact .inl (kp b ob (fun z=>q (List.mem_singleton.mp z)) e)
 ·by_cases q:b=368
  ·subst q
   refine ab tb.ex fun ps e1 V=>?_
   exact ⟨_,e1⟩
  ·exact ⟨ob,kp b ob (fun z=>q (List.mem_singleton.mp z)) e⟩
 ·show AllBare s₁.gens
  rw [L.gens];exact AllBare.empty
theorem PE:PySem.Challenge.rw_pc0383_01.wellSaid=true:=by
 refine (congrFun Fast.te9446332074065402090 _).trans ?_
 delta Fast.tw9446332074065402090 Fast.tw17960256430627541270 Fast.tw2436336058641802641 Fast.tw12908688711261696721
 repeat' with_reducible refine look_both ?_ ?_
 rotate_left 4
 ·rw [show R.filterR _ _= [] from ?e]
  case e=>decide+kernel
  decide+kernel
 all_goals decide+kernel
theorem whole:PySem.Challenge.rw_pc0383_01.Holds:=by
 refine holds_law PE fun said=>?_
 refine holds_openX (r:=PySem.Challenge.rw_pc0383_01.row) (q:=vw) (loose:=MS) (Xt:=Xr) (XP:=fun V V=>True) (Yf:=uw) (Ya:=zk) (d:=NC) (kwd:=[]) (N:=N) PG (fun V V=>trivial) (fun V V V V V=>trivial) (by kernel_rfl) (by kernel_rfl) (by kernel_rfl) (fun s e=>recFacts_of e) (by kernel_rfl) said (by decide+kernel) ⟨rfl,rfl,rfl,rfl,rfl,by decide+kernel⟩ (a9 [.list []] (by decide+kernel) (by decide+kernel)) PJ
end Mine
theorem PySem.Challenge.cw_pc0383_01_holds : PySem.Challenge.rw_pc0383_01.Holds :=
  Mine.whole
