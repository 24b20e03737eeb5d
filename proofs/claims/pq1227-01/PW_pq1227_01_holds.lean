import PyProof.Rows.All
import PyProof.CallFns
import PyProof.CompFree
import PyProof.EnumMake
import PyProof.ExcBaseAll.ValueError
import PyProof.ExcRepr
import PyProof.InstStoreFacts
import PyProof.StrLawsRepr
import KE.BitLaws
import KE.BytesMake
import KE.BytesK
import KE.BytesMul
import KE.KBoundM
import KE.KBytesWalk
import KE.KBytesCut
import KE.KLam
import KE.KFromBytes
import KE.KNestM
import Wide.FinOn
import OpenK.AllK
import Wide.All
import Lean
import PySem.Challenge.RW_pq1227_01
set_option Elab.async false
set_option maxRecDepth 100000
set_option maxHeartbeats 4000000
set_option linter.all false
set_option linter.deprecated false
set_option compiler.extract_closed false
set_option bootstrap.genMatcherCode false
set_option hygiene false
set_option genSizeOf false
set_option genInjectivity false
namespace Mine
open PySem PySem.W PySem.Calls PyProof.Rows PySem.W.X
def kt(k:Lean.Name) (a:String):Lean.Syntax:=.node .none ``Lean.Parser.Tactic.tacticSeq #[.node .none ``Lean.Parser.Tactic.tacticSeq1Indented #[.node .none `null #[.node .none k #[.atom .none a]]]]
def kK:Lean.Syntax:=kt `tacticKernel_rfl "kernel_rfl"
def kA:Lean.Syntax:=kt ``Lean.Parser.Tactic.assumption "assumption"
def kD:Lean.Syntax:=kt `PyProof.Rows.tacticDa_there "da_there"
def kL:Lean.Syntax:=kt `PyProof.Rows.tacticLaw_side "law_side"
def kT:Lean.Syntax:=kt `PyProof.Rows.tacticDa_tab "da_tab"
def kW:Lean.Syntax:=kt `PyProof.Rows.tacticNews_at "news_at"
def kR:Lean.Syntax:=kt ``Lean.Parser.Tactic.tacticRfl "rfl"
def kI:Lean.Syntax:=.node .none ``Lean.Parser.Tactic.tacticSeq #[.node .none ``Lean.Parser.Tactic.tacticSeq1Indented #[.node .none `null #[.node .none ``Lean.Parser.Tactic.intro #[.atom .none "intro",.node .none `null #[.node .none ``Lean.Parser.Term.hole #[.atom .none "_"]]],.atom .none ";",.node .none ``Lean.Parser.Tactic.tacticRfl #[.atom .none "rfl"]]]]
theorem oA{A0:Prop}{A1:Prop}{P:Prop}(h:A0∧A1) (k:A0→A1→P):P:=k h.1 h.2
theorem oE{T0:Sort _}{A0:T0→Prop}{P:Prop}(h:∃a,A0 a) (k:∀a,A0 a→P):P:=h.elim k
theorem wT{A0:Prop}{A1:Prop}{A2:Prop}{P:Prop}(h:A0∧A1∧A2) (k:A0→A1→A2→P):P:=oA h.2 (k h.1)
theorem oAE{T0:Sort _}{A0:Prop}{A1:T0→Prop}{P:Prop}(h:A0∧∃a,A1 a) (k:A0→∀a,A1 a→P):P:=oE h.2 (k h.1)
theorem f9{T0:Sort _}{A0:T0→Prop}{A1:T0→Prop}{P:Prop}(h:∃a,A0 a∧A1 a) (k:∀a,A0 a→A1 a→P):P:=h.elim fun a h=>oA h (k a)
theorem oEE{T0 T1:Sort _}{A0:T0→T1→Prop}{P:Prop}(h:∃a,∃b,A0 a b) (k:∀a,∀b,A0 a b→P):P:=h.elim fun a h=>oE h (k a)
theorem Bk{A0:Prop}{A1:Prop}{A2:Prop}{A3:Prop}{P:Prop}(h:A0∧A1∧A2∧A3) (k:A0→A1→A2→A3→P):P:=wT h.2 (k h.1)
theorem IU{T0:Sort _}{A0:Prop}{A1:Prop}{A2:T0→Prop}{P:Prop}(h:A0∧A1∧∃a,A2 a) (k:A0→A1→∀a,A2 a→P):P:=oAE h.2 (k h.1)
theorem RL{T0:Sort _}{A0:Prop}{A1:T0→Prop}{A2:T0→Prop}{P:Prop}(h:A0∧∃a,A1 a∧A2 a) (k:A0→∀a,A1 a→A2 a→P):P:=f9 h.2 (k h.1)
theorem V3{T0:Sort _}{A0:T0→Prop}{A1:T0→Prop}{A2:T0→Prop}{P:Prop}(h:∃a,A0 a∧A1 a∧A2 a) (k:∀a,A0 a→A1 a→A2 a→P):P:=h.elim fun a h=>wT h (k a)
theorem aM{T0 T1:Sort _}{A0:T0→T1→Prop}{A1:T0→T1→Prop}{P:Prop}(h:∃a,∃b,A0 a b∧A1 a b) (k:∀a,∀b,A0 a b→A1 a b→P):P:=h.elim fun a h=>f9 h (k a)
theorem bO{A0:Prop}{A1:Prop}{A2:Prop}{A3:Prop}{A4:Prop}{P:Prop}(h:A0∧A1∧A2∧A3∧A4) (k:A0→A1→A2→A3→A4→P):P:=Bk h.2 (k h.1)
theorem wU{T0:Sort _}{A0:T0→Prop}{A1:T0→Prop}{A2:T0→Prop}{A3:T0→Prop}{P:Prop}(h:∃a,A0 a∧A1 a∧A2 a∧A3 a) (k:∀a,A0 a→A1 a→A2 a→A3 a→P):P:=h.elim fun a h=>Bk h (k a)
theorem pK{T0 T1:Sort _}{A0:T0→Prop}{A1:T0→Prop}{A2:T0→T1→Prop}{P:Prop}(h:∃a,A0 a∧A1 a∧∃b,A2 a b) (k:∀a,A0 a→A1 a→∀b,A2 a b→P):P:=h.elim fun a h=>IU h (k a)
theorem p8{T0 T1:Sort _}{A0:T0→T1→Prop}{A1:T0→T1→Prop}{A2:T0→T1→Prop}{P:Prop}(h:∃a,∃b,A0 a b∧A1 a b∧A2 a b) (k:∀a,∀b,A0 a b→A1 a b→A2 a b→P):P:=h.elim fun a h=>V3 h (k a)
theorem bP{T0 T1 T2:Sort _}{A0:T0→T1→T2→Prop}{A1:T0→T1→T2→Prop}{P:Prop}(h:∃a,∃b,∃c,A0 a b c∧A1 a b c) (k:∀a,∀b,∀c,A0 a b c→A1 a b c→P):P:=h.elim fun a h=>aM h (k a)
theorem rX{A0:Prop}{A1:Prop}{A2:Prop}{A3:Prop}{A4:Prop}{A5:Prop}{P:Prop}(h:A0∧A1∧A2∧A3∧A4∧A5) (k:A0→A1→A2→A3→A4→A5→P):P:=bO h.2 (k h.1)
theorem Hp{T0:Sort _}{A0:T0→Prop}{A1:T0→Prop}{A2:T0→Prop}{A3:T0→Prop}{A4:T0→Prop}{P:Prop}(h:∃a,A0 a∧A1 a∧A2 a∧A3 a∧A4 a) (k:∀a,A0 a→A1 a→A2 a→A3 a→A4 a→P):P:=h.elim fun a h=>bO h (k a)
theorem aN{T0 T1:Sort _}{A0:T0→T1→Prop}{A1:T0→T1→Prop}{A2:T0→T1→Prop}{A3:T0→T1→Prop}{P:Prop}(h:∃a,∃b,A0 a b∧A1 a b∧A2 a b∧A3 a b) (k:∀a,∀b,A0 a b→A1 a b→A2 a b→A3 a b→P):P:=h.elim fun a h=>wU h (k a)
theorem Hq{T0 T1 T2:Sort _}{A0:T0→T1→T2→Prop}{A1:T0→T1→T2→Prop}{A2:T0→T1→T2→Prop}{P:Prop}(h:∃a,∃b,∃c,A0 a b c∧A1 a b c∧A2 a b c) (k:∀a,∀b,∀c,A0 a b c→A1 a b c→A2 a b c→P):P:=h.elim fun a h=>p8 h (k a)
theorem Hr{T0 T1 T2 T3:Sort _}{A0:T0→T1→T2→T3→Prop}{A1:T0→T1→T2→T3→Prop}{P:Prop}(h:∃a,∃b,∃c,∃d,A0 a b c d∧A1 a b c d) (k:∀a,∀b,∀c,∀d,A0 a b c d→A1 a b c d→P):P:=h.elim fun a h=>bP h (k a)
theorem wV{A0:Prop}{A1:Prop}{A2:Prop}{A3:Prop}{A4:Prop}{A5:Prop}{A6:Prop}{P:Prop}(h:A0∧A1∧A2∧A3∧A4∧A5∧A6) (k:A0→A1→A2→A3→A4→A5→A6→P):P:=rX h.2 (k h.1)
theorem wW{T0 T1 T2 T3:Sort _}{A0:Prop}{A1:T0→T1→T2→T3→Prop}{A2:T0→T1→T2→T3→Prop}{P:Prop}(h:A0∧∃a,∃b,∃c,∃d,A1 a b c d∧A2 a b c d) (k:A0→∀a,∀b,∀c,∀d,A1 a b c d→A2 a b c d→P):P:=Hr h.2 (k h.1)
theorem Q1{T0 T1:Sort _}{A0:T0→T1→Prop}{A1:T0→T1→Prop}{A2:T0→T1→Prop}{A3:T0→T1→Prop}{A4:T0→T1→Prop}{P:Prop}(h:∃a,∃b,A0 a b∧A1 a b∧A2 a b∧A3 a b∧A4 a b) (k:∀a,∀b,A0 a b→A1 a b→A2 a b→A3 a b→A4 a b→P):P:=h.elim fun a h=>Hp h (k a)
theorem Y0{T0 T1 T2:Sort _}{A0:T0→T1→T2→Prop}{A1:T0→T1→T2→Prop}{A2:T0→T1→T2→Prop}{A3:T0→T1→T2→Prop}{P:Prop}(h:∃a,∃b,∃c,A0 a b c∧A1 a b c∧A2 a b c∧A3 a b c) (k:∀a,∀b,∀c,A0 a b c→A1 a b c→A2 a b c→A3 a b c→P):P:=h.elim fun a h=>aN h (k a)
theorem pL{A0:Prop}{A1:Prop}{A2:Prop}{A3:Prop}{A4:Prop}{A5:Prop}{A6:Prop}{A7:Prop}{P:Prop}(h:A0∧A1∧A2∧A3∧A4∧A5∧A6∧A7) (k:A0→A1→A2→A3→A4→A5→A6→A7→P):P:=wV h.2 (k h.1)
theorem Bl{T0:Sort _}{A0:T0→Prop}{A1:T0→Prop}{A2:T0→Prop}{A3:T0→Prop}{A4:T0→Prop}{A5:T0→Prop}{A6:T0→Prop}{P:Prop}(h:∃a,A0 a∧A1 a∧A2 a∧A3 a∧A4 a∧A5 a∧A6 a) (k:∀a,A0 a→A1 a→A2 a→A3 a→A4 a→A5 a→A6 a→P):P:=h.elim fun a h=>wV h (k a)
theorem pM{T0 T1 T2:Sort _}{A0:T0→T1→T2→Prop}{A1:T0→T1→T2→Prop}{A2:T0→T1→T2→Prop}{A3:T0→T1→T2→Prop}{A4:T0→T1→T2→Prop}{P:Prop}(h:∃a,∃b,∃c,A0 a b c∧A1 a b c∧A2 a b c∧A3 a b c∧A4 a b c) (k:∀a,∀b,∀c,A0 a b c→A1 a b c→A2 a b c→A3 a b c→A4 a b c→P):P:=h.elim fun a h=>Q1 h (k a)
theorem N2{T0 T1 T2 T3:Sort _}{A0:T0→T1→T2→T3→Prop}{A1:T0→T1→T2→T3→Prop}{A2:T0→T1→T2→T3→Prop}{A3:T0→T1→T2→T3→Prop}{P:Prop}(h:∃a,∃b,∃c,∃d,A0 a b c d∧A1 a b c d∧A2 a b c d∧A3 a b c d) (k:∀a,∀b,∀c,∀d,A0 a b c d→A1 a b c d→A2 a b c d→A3 a b c d→P):P:=h.elim fun a h=>Y0 h (k a)
theorem yP{A0:Prop}{A1:Prop}{A2:Prop}{A3:Prop}{A4:Prop}{A5:Prop}{A6:Prop}{A7:Prop}{A8:Prop}{P:Prop}(h:A0∧A1∧A2∧A3∧A4∧A5∧A6∧A7∧A8) (k:A0→A1→A2→A3→A4→A5→A6→A7→A8→P):P:=pL h.2 (k h.1)
theorem aO{T0 T1 T2 T3:Sort _}{A0:T0→T1→T2→T3→Prop}{A1:T0→T1→T2→T3→Prop}{A2:T0→T1→T2→T3→Prop}{A3:T0→T1→T2→T3→Prop}{A4:T0→T1→T2→T3→Prop}{P:Prop}(h:∃a,∃b,∃c,∃d,A0 a b c d∧A1 a b c d∧A2 a b c d∧A3 a b c d∧A4 a b c d) (k:∀a,∀b,∀c,∀d,A0 a b c d→A1 a b c d→A2 a b c d→A3 a b c d→A4 a b c d→P):P:=h.elim fun a h=>pM h (k a)
theorem aP{T0 T1 T2 T3 T4:Sort _}{A0:T0→T1→T2→T3→T4→Prop}{A1:T0→T1→T2→T3→T4→Prop}{A2:T0→T1→T2→T3→T4→Prop}{A3:T0→T1→T2→T3→T4→Prop}{P:Prop}(h:∃a,∃b,∃c,∃d,∃e,A0 a b c d e∧A1 a b c d e∧A2 a b c d e∧A3 a b c d e) (k:∀a,∀b,∀c,∀d,∀e,A0 a b c d e→A1 a b c d e→A2 a b c d e→A3 a b c d e→P):P:=h.elim fun a h=>N2 h (k a)
theorem dR{A0:Prop}{A1:Prop}{A2:Prop}{A3:Prop}{A4:Prop}{A5:Prop}{A6:Prop}{A7:Prop}{A8:Prop}{A9:Prop}{P:Prop}(h:A0∧A1∧A2∧A3∧A4∧A5∧A6∧A7∧A8∧A9) (k:A0→A1→A2→A3→A4→A5→A6→A7→A8→A9→P):P:=yP h.2 (k h.1)
theorem V4{T0 T1 T2 T3 T4:Sort _}{A0:T0→T1→T2→T3→T4→Prop}{A1:T0→T1→T2→T3→T4→Prop}{A2:T0→T1→T2→T3→T4→Prop}{A3:T0→T1→T2→T3→T4→Prop}{A4:T0→T1→T2→T3→T4→Prop}{P:Prop}(h:∃a,∃b,∃c,∃d,∃e,A0 a b c d e∧A1 a b c d e∧A2 a b c d e∧A3 a b c d e∧A4 a b c d e) (k:∀a,∀b,∀c,∀d,∀e,A0 a b c d e→A1 a b c d e→A2 a b c d e→A3 a b c d e→A4 a b c d e→P):P:=h.elim fun a h=>aO h (k a)
theorem pN{T0 T1 T2 T3 T4:Sort _}{A0:Prop}{A1:T0→T1→T2→T3→T4→Prop}{A2:T0→T1→T2→T3→T4→Prop}{A3:T0→T1→T2→T3→T4→Prop}{A4:T0→T1→T2→T3→T4→Prop}{A5:T0→T1→T2→T3→T4→Prop}{P:Prop}(h:A0∧∃a,∃b,∃c,∃d,∃e,A1 a b c d e∧A2 a b c d e∧A3 a b c d e∧A4 a b c d e∧A5 a b c d e) (k:A0→∀a,∀b,∀c,∀d,∀e,A1 a b c d e→A2 a b c d e→A3 a b c d e→A4 a b c d e→A5 a b c d e→P):P:=V4 h.2 (k h.1)
theorem g4{T0 T1 T2 T3 T4 T5:Sort _}{A0:T0→T1→T2→T3→T4→T5→Prop}{A1:T0→T1→T2→T3→T4→T5→Prop}{A2:T0→T1→T2→T3→T4→T5→Prop}{A3:T0→T1→T2→T3→T4→T5→Prop}{A4:T0→T1→T2→T3→T4→T5→Prop}{P:Prop}(h:∃a,∃b,∃c,∃d,∃e,∃f,A0 a b c d e f∧A1 a b c d e f∧A2 a b c d e f∧A3 a b c d e f∧A4 a b c d e f) (k:∀a,∀b,∀c,∀d,∀e,∀f,A0 a b c d e f→A1 a b c d e f→A2 a b c d e f→A3 a b c d e f→A4 a b c d e f→P):P:=h.elim fun a h=>V4 h (k a)
theorem iZ{T0 T1 T2 T3 T4 T5 T6:Sort _}{A0:T0→T1→T2→T3→T4→T5→T6→Prop}{A1:T0→T1→T2→T3→T4→T5→T6→Prop}{A2:T0→T1→T2→T3→T4→T5→T6→Prop}{A3:T0→T1→T2→T3→T4→T5→T6→Prop}{A4:T0→T1→T2→T3→T4→T5→T6→Prop}{P:Prop}(h:∃a,∃b,∃c,∃d,∃e,∃f,∃g,A0 a b c d e f g∧A1 a b c d e f g∧A2 a b c d e f g∧A3 a b c d e f g∧A4 a b c d e f g) (k:∀a,∀b,∀c,∀d,∀e,∀f,∀g,A0 a b c d e f g→A1 a b c d e f g→A2 a b c d e f g→A3 a b c d e f g→A4 a b c d e f g→P):P:=h.elim fun a h=>g4 h (k a)
theorem T8{T0 T1 T2 T3 T4 T5 T6 T7:Sort _}{A0:T0→T1→T2→T3→T4→T5→T6→T7→Prop}{A1:T0→T1→T2→T3→T4→T5→T6→T7→Prop}{A2:T0→T1→T2→T3→T4→T5→T6→T7→Prop}{A3:T0→T1→T2→T3→T4→T5→T6→T7→Prop}{A4:T0→T1→T2→T3→T4→T5→T6→T7→Prop}{P:Prop}(h:∃a,∃b,∃c,∃d,∃e,∃f,∃g,∃h,A0 a b c d e f g h∧A1 a b c d e f g h∧A2 a b c d e f g h∧A3 a b c d e f g h∧A4 a b c d e f g h) (k:∀a,∀b,∀c,∀d,∀e,∀f,∀g,∀h,A0 a b c d e f g h→A1 a b c d e f g h→A2 a b c d e f g h→A3 a b c d e f g h→A4 a b c d e f g h→P):P:=h.elim fun a h=>iZ h (k a)
theorem nb{a b:Nat}(h:Nat.ble a b=true):a≤b:=Nat.le_of_ble_eq_true h
theorem X0{α:Type _}{a b:List α}:(a++b).length=a.length+b.length:=List.length_append
theorem X6{α:Type _}:([]:List α).length=0:=List.length_nil
theorem X7{α:Type _}{a:α}{b:List α}:(a::b).length=b.length+1:=List.length_cons
theorem X8{α:Type _}{i:Nat}{l:List α}:(l.take i).length=min i l.length:=List.length_take
theorem X9{α:Type _}{i:Nat}{l:List α}:(l.drop i).length=l.length - i:=List.length_drop
theorem dg{x z:Nat}(h:z=x/256):x%256+256*z=x:=h▸Nat.mod_add_div x 256
theorem tn{a:Int}{b:Nat}(h:a≤b):a.toNat≤b:=Int.toNat_le.mpr h
theorem TR(b:Nat):0<1+b:=Nat.lt_of_lt_of_le Nat.one_pos (Nat.le_add_right 1 b)
theorem lc{a b:Nat}(h:(a:Int)<(b:Int)):a<b:=Int.ofNat_lt.mp h
theorem cl{a b:Nat}(h:a<b):(a:Int)<(b:Int):=Int.ofNat_lt.mpr h
theorem aQ{a b:Nat}(h:a≤b):(a:Int)≤(b:Int):=Int.ofNat_le.mpr h
theorem Em{a b:Nat}(h:(a:Int)≤(b:Int)):a≤b:=Int.ofNat_le.mp h
theorem TS{a b:Nat}:((a:Int)-(b:Int)).toNat=a-b:=Int.toNat_sub a b
theorem G3{a b c:Int}(h:a≤b) (h2:b<c):a<c:=Int.lt_of_le_of_lt h h2
theorem rY{a b c:Int}(h:a<b) (h2:b≤c):a<c:=Int.lt_of_lt_of_le h h2
theorem TT{a:Int}{b:Nat}(h0:(0:Int)≤a) (h:a<(b:Int)):a.natAbs<b:=Int.ofNat_lt.mp (Int.natAbs_of_nonneg h0▸h)
theorem Gi{a b:Nat}:(a≤(b+(a-b))):=Nat.add_comm (a-b) b▸Nat.le_add_of_sub_le (Nat.le_refl (a-b))
theorem pO{a:Nat}(h1:(a≤500)):(a≤1000):=Nat.le_trans ‹_› (nb rfl)
theorem En{a b:Nat}(h1:(a≤1000))(h2:(b≤500)):((a+b)≤1000000):=by lia
theorem Eo{a:Nat}(h1:(a≤1000)):(a≤1000000):=Nat.le_trans ‹_› (nb rfl)
theorem Gj{a b:Nat}(h1:(b≤1000))(h2:(a≤1000)):((a+b)≤1000000):=by lia
theorem Gk{a:Nat}(h1:(a≤1000000)):(a≤16777216):=Nat.le_trans ‹_› (nb rfl)
theorem Hs{a:Int}(h1:(0≤a)):(¬(a<0)):=by lia
theorem Ht{a:Nat}(h1:(a≤5)):(a≤100):=Nat.le_trans ‹_› (nb rfl)
theorem IR{a:Nat}(h1:(a≤1000)):((((((a+1)+1)+1)+1)+1)≤1000000):=by lia
theorem IV{a b:Int}(h1:(0≤b))(h2:(b≤a)):(0≤a):=by lia
theorem Bm{a b:Nat}(h1:(b≤1000))(h2:(a≤500)):((a+b)≤100000):=by lia
theorem Bn{a:Nat}(h1:(a<32)):(a≤100):=Nat.le_trans (Nat.le_of_lt ‹_›) (nb rfl)
theorem Bo{a:Nat}(h1:(a=1)):(a≤1000):=Nat.le_trans (Nat.le_of_eq ‹_›) (nb rfl)
theorem Bp{a:Nat}(h1:(a≤5)):(a<32):=Nat.lt_of_le_of_lt ‹_› (nb rfl)
theorem Er{a b:Nat}(h1:(a=1))(h2:(b≤1000)):((a+b)≤100000):=by lia
theorem Hu{a b:Nat}(h1:(a=b))(h2:(b≤1000)):(a≤16777216):=by lia
theorem Es{a b:Nat}(h1:(a≤(3+b)))(h2:(b≤5)):(a≤100):=Nat.le_trans h1 (Nat.le_trans (Nat.add_le_add_left h2 3) (nb rfl))
theorem Et{a b:Nat}(h1:(b≤500))(h2:(a≤500)):((a+b)≤1000):=Nat.le_trans (Nat.add_le_add h2 h1) (nb rfl)
theorem Eu{a:Nat}(h1:(a=3)):(a≤1000000):=Nat.le_trans (Nat.le_of_eq ‹_›) (nb rfl)
theorem Ew{a:Nat}(h1:(a=4)):(a≤1000000):=Nat.le_trans (Nat.le_of_eq ‹_›) (nb rfl)
theorem Ey{a:Nat}(h1:(a≤1000000)):(a≤1099511627776):=Nat.le_trans ‹_› (nb rfl)
theorem Ez{a:Nat}(h1:(a≤100000)):(a≤1000000):=Nat.le_trans ‹_› (nb rfl)
theorem EA{a:Nat}(h1:(a≤1000)):(((((((a+1)+1)+1)+1)+1)+1)≤1000000):=Nat.le_trans (Nat.add_le_add_right h1 6) (nb rfl)
theorem EB{a:Nat}(h1:(a≤53)):(a<100):=Nat.lt_of_le_of_lt ‹_› (nb rfl)
theorem EC{a:Nat}{b:Int}(h1:(¬((Int.toNat b)≤a))):(a≤(Int.toNat b)):=Nat.le_of_lt (Nat.not_le.mp h1)
theorem Hv{a b c:Nat}(h1:((a+(c+1))≤990))(h2:(b=1000)):(a<b):=Nat.lt_of_le_of_lt (Nat.le_trans (Nat.le_add_right a (c+1)) h1) (h2▸(nb rfl))
theorem Hw{a b:Nat}(h1:((a+(b+1))≤990)):(((a+1)+b)≤990):=Nat.le_trans (Nat.le_of_eq (Nat.add_right_comm a 1 b)) h1
theorem Hx{a b:Nat}(h1:(a=3))(h2:(b≤1000)):((a+b)≤100000):=Nat.le_trans (Nat.add_le_add (Nat.le_of_eq h1) h2) (nb rfl)
theorem Hy{a b:Nat}(h1:(a≤(3+b)))(h2:(b≤5)):((((((((0+1)+1)+1)+1)+1)+1)+a)≤1000000):=Nat.le_trans (Nat.add_le_add_left (Nat.le_trans h1 (Nat.add_le_add_left h2 3)) 6) (nb rfl)
theorem Hz{a b:Nat}(h1:(a≤b))(h2:(¬(a<b))):(a=b):=Nat.le_antisymm h1 (Nat.not_lt.mp h2)
theorem HA{a b:Nat}(h1:(b<a)):((a-(b+1))<(a-b)):=Nat.sub_succ_lt_self _ _ h1
theorem HB{a:Nat}(h1:(a<256)):((0≤(a:Int))∧((a:Int)<256)):=⟨Int.natCast_nonneg a,cl h1⟩
theorem HC{a:Nat}(h1:(a<32)):(a≤1000000):=Nat.le_trans (Nat.le_of_lt ‹_›) (nb rfl)
theorem HD{a:Nat}(h1:(a≤100)):(a≤400):=Nat.le_trans ‹_› (nb rfl)
theorem HE{a:Nat}(h1:(a≤100)):(a≤500):=Nat.le_trans ‹_› (nb rfl)
theorem HF{a:Nat}(h1:(a≤15)):(a<32):=Nat.lt_of_le_of_lt ‹_› (nb rfl)
theorem HG{a:Nat}(h1:(a≤400)):(a≤1000):=Nat.le_trans ‹_› (nb rfl)
theorem HH{a:Nat}:((3+(min 1 a))≤(3+a)):=Nat.add_le_add_left (Nat.min_le_right _ _) 3
theorem ED{b:Nat}{a:Int}:((Int.toNat (max 0 (min a (b:Int))))=(min (Int.toNat a) b)):=by
 cases a with
 | ofNat n=>show(max (0:Int) (min (n:Int) (b:Int))).toNat=min n b;rw[Int.max_eq_right (Int.le_min.mpr ⟨Int.natCast_nonneg n,Int.natCast_nonneg b⟩)];exact(Nat.le_total n b).elim (fun h=>by rw[Int.min_eq_left (Int.ofNat_le.mpr h),Nat.min_eq_left h];rfl) (fun h=>by rw[Int.min_eq_right (Int.ofNat_le.mpr h),Nat.min_eq_right h];rfl)
 | negSucc n=>rw[Int.min_eq_left (Int.le_trans (Int.le_of_lt (Int.negSucc_lt_zero n)) (Int.natCast_nonneg b))];exact(Nat.zero_min b).symm
theorem IW{a b c d e f g:Nat}(h1:(a=0))(h2:(c=7))(h3:(d=7))(h4:(b=8))(h5:(f=8))(h6:(e≤1921))(h7:(g≤1921)):(((((((a+b)+c)+d)+e)+f)+g)≤1000000):=Nat.le_trans (Nat.add_le_add (Nat.add_le_add (Nat.add_le_add (Nat.add_le_add (Nat.add_le_add (Nat.add_le_add (Nat.le_of_eq h1) (Nat.le_of_eq h4)) (Nat.le_of_eq h2)) (Nat.le_of_eq h3)) h6) (Nat.le_of_eq h5)) h7) (nb rfl)
theorem IX{a b c d e f:Nat}(h1:(a=0))(h2:(b=5))(h3:(c=7))(h4:(e=8))(h5:(f≤1921))(h6:(d≤1921)):((((((a+b)+c)+d)+e)+f)≤1000000):=Nat.le_trans (Nat.add_le_add (Nat.add_le_add (Nat.add_le_add (Nat.add_le_add (Nat.add_le_add (Nat.le_of_eq h1) (Nat.le_of_eq h2)) (Nat.le_of_eq h3)) h6) (Nat.le_of_eq h4)) h5) (nb rfl)
theorem IY{a b c:Nat}(h1:((a+(c+1))=b)):(a<b):=Nat.lt_of_lt_of_le (Nat.lt_add_of_pos_right (Nat.succ_pos c)) (Nat.le_of_eq h1)
theorem IZ{a b c:Nat}(h1:((a+b)=c)):((a+b)≤c):=Nat.le_of_eq h1
theorem Ja{a b c:Nat}(h1:((a+b)≤c)):(¬((((a+b):Nat):Int)>(c:Int))):=Int.not_lt.mpr (aQ h1)
theorem Jb{a b c:Nat}(h1:((a+c)≤990))(h2:(b≤c)):((a+b)≤990):=Nat.le_trans (Nat.add_le_add_left h2 a) h1
theorem Jc{a b c:Nat}(h1:((b+1)≤c))(h2:((a+c)≤990)):(((a+1)+b)≤990):=Nat.le_trans (Nat.le_of_eq ((Nat.add_assoc a 1 b).trans (congrArg (a+·) (Nat.add_comm 1 b)))) (Nat.le_trans (Nat.add_le_add_left h1 a) h2)
theorem Jd{a b c:Nat}(h1:(b=(a+c)))(h2:(b≤400)):(a≤400):=Nat.le_trans (Nat.le_add_right a c) (h1▸h2)
theorem Je{a b c:Nat}(h1:(c<32))(h2:(a=6))(h3:(b≤(3+c))):((a+b)≤100):=Nat.le_trans (Nat.add_le_add (Nat.le_of_eq h2) (Nat.le_trans h3 (Nat.add_le_add_left (Nat.le_of_lt h1) 3))) (nb rfl)
theorem Jf{a b:Int}(h1:(0≤b))(h2:((b+1)≤a)):(0≤(a+1)):=Int.le_trans (Int.le_trans h1 (Int.le_trans (Int.le_add_of_nonneg_right (by decide)) h2)) (Int.le_add_of_nonneg_right (by decide))
theorem Jg{a b:Int}(h1:(0≤b))(h2:((b+1)≤a)):(0≤a):=by lia
theorem Jh{a b:Int}(h1:((a+1)≤b)):(a≤((b+1)+1)):=by lia
theorem Ji{a b:Int}(h1:(a≤(b+19))):(((a+1)+1)≤(b+100)):=Int.le_trans (Int.add_le_add_right (Int.add_le_add_right h1 1) 1) (by rw[Int.add_assoc,Int.add_assoc];exact Int.add_le_add_left (by decide) b)
theorem Jj{a b:Nat}(h1:(((b:Int)-(a:Int))≥4)):((a+4)≤b):=Em (Int.add_le_of_le_sub_left h1)
theorem Jk{a b:Nat}(h1:(((b:Int)-(a:Int))≥8)):((a+8)≤b):=Em (Int.add_le_of_le_sub_left h1)
theorem Jl{a b:Nat}(h1:((a+b)≤1000000)):((a+b)≤16777216):=Nat.le_trans ‹_› (nb rfl)
theorem Jm{a b:Nat}(h1:((a+b)≤1000)):((a+b)≤1000000):=Nat.le_trans ‹_› (nb rfl)
theorem Jo{a b:Nat}(h1:((b:Int)<3))(h2:(a=(1+b))):(a≤3):=Nat.le_trans (Nat.le_of_eq (h2.trans (Nat.add_comm 1 b))) (lc h1)
theorem Jp{a b:Nat}(h1:(a<(min 24 b))):(a<b):=Nat.lt_of_lt_of_le h1 (Nat.min_le_right _ _)
theorem Jq{a b:Nat}(h1:(a=(1+b))):(1≤a):=Nat.le_trans (Nat.le_add_right 1 b) (Nat.le_of_eq h1.symm)
theorem Jr{a b:Nat}(h1:(a=4))(h2:(b≤1000)):((a+b)≤100000):=by lia
theorem Js{a b:Nat}(h1:(a=b))(h2:(b≤1000000)):((a:Int)<9223372036854775808):=G3 (aQ (h1▸h2)) (by decide)
theorem Jt{a:Int}(h1:(0≤a)):((-(2^63))≤a):=by lia
theorem Ju{a:Int}(h1:(1≤a)):(0≤a):=Int.le_of_lt ‹_›
theorem Jv{a:Int}(h1:(1≤a)):(a≠0):=by lia
theorem Jw{a:Int}(h1:(a<(2^29))):(a<(2^40)):=Int.lt_trans h1 (by decide)
theorem Jx{a:Nat}(h1:(0<a)):((min 1 a)=1):=Nat.min_eq_left ‹_›
theorem Jy{a:Nat}(h1:(0=(1+a))):False:=by lia
theorem Jz{a:Nat}(h1:(4≤a)):(((4:Nat):Int)≤((a:Int)-((0:Nat):Int))):=Int.ofNat_le.mpr ‹_›
theorem JA{a:Nat}(h1:(4≤a)):(¬(((a:Int)-((0:Nat):Int))<4)):=Int.not_lt.mpr ((Int.sub_zero (a:Int)).symm▸aQ h1)
theorem JB{a:Nat}(h1:(a<256)):((a%256)=a):=Nat.mod_eq_of_lt h1
theorem JC{a:Nat}(h1:(a<32)):((0+a)≤1000000):=Nat.le_trans (Nat.add_le_add_left (Nat.le_of_lt h1) 0) (nb rfl)
theorem JD{a:Nat}(h1:(a<32)):(a<256):=Nat.lt_of_lt_of_le ‹_› (nb rfl)
theorem JE{a:Nat}(h1:(a<32)):(a≤1000):=Nat.le_trans (Nat.le_of_lt ‹_›) (nb rfl)
theorem JF{a:Nat}(h1:(a<32)):(a≤500):=Nat.le_trans (Nat.le_of_lt ‹_›) (nb rfl)
theorem JG{a:Nat}(h1:(a=4)):(((4:Nat):Int)≤((a:Int)-((0:Nat):Int))):=h1.symm▸(by decide)
theorem JH{a:Nat}(h1:(a=4)):(a≤4):=Nat.le_trans (Nat.le_of_eq ‹_›) (nb rfl)
theorem JI{a:Nat}(h1:(a≤1000)):((((((((a+1)+1)+1)+1)+1)+1)+1)≤1000000):=by lia
theorem JJ{a:Nat}(h1:(a≤1000)):(((((((a+1)+1)+1)+1)+1)+1)≤100000):=by lia
theorem JK{a:Nat}(h1:(a≤1000)):((a:Int)<(2^40)):=G3 (aQ h1) (by decide)
theorem JL{a:Nat}(h1:(a≤1000)):(a≤16777216):=Nat.le_trans ‹_› (nb rfl)
theorem JM{a:Nat}(h1:(a≤100)):(a<100000):=Nat.lt_of_le_of_lt ‹_› (nb rfl)
theorem JN{a:Nat}(h1:(a≤100)):(a≤100000):=Nat.le_trans ‹_› (nb rfl)
theorem JO{a:Nat}(h1:(a≤400)):(a≤500):=Nat.le_trans ‹_› (nb rfl)
theorem JP{a:Nat}(h1:(a≤5)):(a≤16):=Nat.le_trans ‹_› (nb rfl)
theorem JQ{a:Nat}(h1:(a≤63)):(a≤1000000):=Nat.le_trans ‹_› (nb rfl)
theorem JR{a:Nat}(h1:(¬((-1)<0))):((Int.toNat (max 0 (min (-1) (a:Int))))=(a-1)):=by lia
theorem JS{a:Nat}:(0≤(8*(a:Int))):=by simp +arith
theorem JT{a:Nat}:(4<((((((((a+1)+1)+1)+1)+1)+1):Nat):Int)):=cl (a:=4) (b:=a+6) (Nat.lt_of_lt_of_le (by decide) (Nat.le_add_left 6 a))
theorem JU{a:Nat}:(4<(((((((a+1)+1)+1)+1)+1):Nat):Int)):=by simp +arith
theorem JV{a:Nat}:((Int.toNat (max 0 (min ((-1)+(a:Int)) (a:Int))))=(a-1)):=by
 cases a with
 | zero=>rfl
 | succ n=>rw[ED,show(-(1:Int))+((n+1:Nat):Int)=(n:Int) by rw[Int.natCast_succ,Int.add_comm,Int.add_neg_cancel_right],Int.toNat_natCast];exact Nat.min_eq_left (Nat.le_succ n)
theorem JW{a:Nat}:((min 8 a)≤8):=Nat.min_le_left _ _
theorem JX{a:Nat}:(¬(0≤((-(a:Int))-1))):=by simp +arith
theorem JY{b c:Nat}{a:Int}(h1:(a<(c:Int)))(h2:(b=c)):(a<(b:Int)):=h2.symm▸h1
theorem JZ{b:Nat}{a:Int}(h1:(a<(b:Int)))(h2:(b≤1000)):(a<(2^63)):=rY h1 (Int.le_trans (aQ h2) (by decide))
theorem RM :(((0:Int)≤(0:Int))∧((0:Int)<(256:Int))):=by simp +arith
theorem RN{a b c d e f g:Nat}(h1:(a=0))(h2:(c=7))(h3:(d=7))(h4:(b=8))(h5:(f=8))(h6:(e≤1921))(h7:(g≤1921)):(((((((a+b)+c)+d)+e)+f)+g)≤10000):=Nat.le_trans (Nat.add_le_add (Nat.add_le_add (Nat.add_le_add (Nat.add_le_add (Nat.add_le_add (Nat.add_le_add (Nat.le_of_eq h1) (Nat.le_of_eq h4)) (Nat.le_of_eq h2)) (Nat.le_of_eq h3)) h6) (Nat.le_of_eq h5)) h7) (nb rfl)
theorem RO{a b c d e f:Nat}(h1:((c+d)=(e+f)))(h2:((a+d)=f))(h3:(c≤100))(h4:(b≤100)):((a+b)≤1000):=Nat.le_trans (Nat.add_le_add (Nat.le_trans (Nat.le_of_add_le_add_right (Nat.le_trans (Nat.le_of_eq h2) (Nat.le_trans (Nat.le_add_left f e) (Nat.le_of_eq h1.symm)))) h3) h4) (nb rfl)
theorem RP{a b c d e f:Nat}(h1:((d≤(e-b))∧((d≤(1+c))∧(1≤d))))(h2:(a≤(f+d)))(h3:(f≤b)):(a≤(b+(1+c))):=Nat.le_trans h2 (Nat.add_le_add h3 h1.2.1)
theorem RQ{a b c d e f:Nat}(h1:(a=0))(h2:(b=5))(h3:(c=7))(h4:(e=8))(h5:(f≤1921))(h6:(d≤1921)):((((((a+b)+c)+d)+e)+f)≤10000):=Nat.le_trans (Nat.add_le_add (Nat.add_le_add (Nat.add_le_add (Nat.add_le_add (Nat.add_le_add (Nat.le_of_eq h1) (Nat.le_of_eq h2)) (Nat.le_of_eq h3)) h6) (Nat.le_of_eq h4)) h5) (nb rfl)
theorem RR{a b c d e f:Nat}(h1:(a=0))(h2:(c=7))(h3:(d=7))(h4:(b=8))(h5:(f=8))(h6:(e≤1921)):((((((a+b)+c)+d)+e)+f)≤1000000):=Nat.le_trans (Nat.add_le_add (Nat.add_le_add (Nat.add_le_add (Nat.add_le_add (Nat.add_le_add (Nat.le_of_eq h1) (Nat.le_of_eq h4)) (Nat.le_of_eq h2)) (Nat.le_of_eq h3)) h6) (Nat.le_of_eq h5)) (nb rfl)
theorem Ka{a b c d e:Nat}(h1:(((c%2)=1)↔(((d%2)=1)∧((e%2)=1))))(h2:(((a%2)=1)↔(((d%2)=1)∨((e%2)=1))))(h3:(((b%2)=1)↔(¬(((d%2)=1)↔((e%2)=1)))))(h4:((a/2)=((b/2)+(c/2)))):(a=(b+c)):=by
 have m0:∀ {x:Nat},¬ x%2=1→x%2=0:=fun{x} h=>(Nat.mod_two_eq_zero_or_one x).resolve_right h
 have key:a%2=b%2+c%2:=by
  by_cases D:d%2=1
  ·by_cases E:e%2=1
   ·rw[h2.mpr (.inl D),h1.mpr ⟨D,E⟩,m0 fun k=>h3.mp k ⟨fun _=>E,fun _=>D⟩]
   ·rw[h2.mpr (.inl D),m0 fun k=>E (h1.mp k).2,h3.mpr fun k=>E (k.mp D)]
  ·by_cases E:e%2=1
   ·rw[h2.mpr (.inr E),m0 fun k=>D (h1.mp k).1,h3.mpr fun k=>D (k.mpr E)]
   ·rw[m0 fun k=>(h2.mp k).elim D E,m0 fun k=>D (h1.mp k).1,m0 fun k=>h3.mp k ⟨fun x=>absurd x D,fun x=>absurd x E⟩]
 exact(Nat.div_add_mod a 2).symm.trans (by rw[h4,key,Nat.mul_add,Nat.add_add_add_comm,Nat.div_add_mod,Nat.div_add_mod])
theorem Kd{a b c d e:Nat}(h1:((b+c)=(d+e)))(h2:(b<d))(h3:(c≤e)):(a=0):=absurd (Nat.add_lt_add_of_lt_of_le h2 h3) (h1▸Nat.lt_irrefl _)
theorem Ke{a b c d e:Nat}(h1:((b≤(c-d))∧((b≤(1+e))∧(1≤b))))(h2:(c≤400))(h3:(a≤d)):((a+b)≤1000):=Nat.le_trans (Nat.add_le_add h3 h1.1) (Nat.le_trans (Nat.add_le_add (Nat.le_refl d) (Nat.sub_le c d)) (Nat.le_trans (Nat.add_le_add (Nat.le_trans (Nat.le_of_lt (Nat.lt_of_sub_pos (Nat.lt_of_lt_of_le h1.2.2 h1.1))) h2) h2) (nb rfl)))
theorem Kf{a b c d e:Nat}(h1:((d:Int)<3))(h2:(e=(1+d)))(h3:(a=6))(h4:(b≤(20*e)))(h5:(c≤4)):(((a+b)+c)≤100):=Nat.le_trans (Nat.add_le_add (Nat.add_le_add (Nat.le_of_eq h3) (Nat.le_trans h4 (Nat.mul_le_mul_left 20 (h2▸Nat.add_le_add_left (Nat.le_of_lt (lc h1)) 1)))) h5) (nb rfl)
theorem Ki{a b c d e:Nat}(h1:(a=0))(h2:(b=5))(h3:(c=7))(h4:(e=8))(h5:(d≤1921)):(((((a+b)+c)+d)+e)≤1000000):=Nat.le_trans (Nat.add_le_add (Nat.add_le_add (Nat.add_le_add (Nat.add_le_add (Nat.le_of_eq h1) (Nat.le_of_eq h2)) (Nat.le_of_eq h3)) h5) (Nat.le_of_eq h4)) (nb rfl)
theorem Kj{a b c d e:Nat}(h1:(a=0))(h2:(c=7))(h3:(d=7))(h4:(b=8))(h5:(e≤1921)):(((((a+b)+c)+d)+e)≤1000000):=Nat.le_trans (Nat.add_le_add (Nat.add_le_add (Nat.add_le_add (Nat.add_le_add (Nat.le_of_eq h1) (Nat.le_of_eq h4)) (Nat.le_of_eq h2)) (Nat.le_of_eq h3)) h5) (nb rfl)
theorem Kk{a b c d e:Nat}(h1:(c=(b+d)))(h2:(e=(a+c)))(h3:(e≤400)):((a+b)≤1000000):=Nat.le_trans (Nat.le_trans (Nat.add_le_add_left (h1▸Nat.le_add_right b d) a) (h2▸h3)) (nb rfl)
theorem Kl{a b c d e:Nat}(h1:(d≠e)):((a+(256*(b+(256*(c+(256*(d+(256*0))))))))≠(a+(256*(b+(256*(c+(256*(e+(256*0))))))))):=fun h=>h1 (Nat.add_right_cancel (Nat.eq_of_mul_eq_mul_left (by decide) (Nat.add_left_cancel (Nat.eq_of_mul_eq_mul_left (by decide) (Nat.add_left_cancel (Nat.eq_of_mul_eq_mul_left (by decide) (Nat.add_left_cancel h)))))))
theorem Km{a b c d:Nat}(h1:((0+(((a+1)+c)+d))≤b)):((0+(a+1))≤b):=Nat.le_trans (Nat.add_le_add_left (Nat.le_trans (Nat.le_add_right _ c) (Nat.le_add_right _ d)) 0) h1
theorem Kn{a b c d:Nat}(h1:((0+(((c+1)+a)+d))≤b)):(a≤b):=Nat.le_trans (Nat.le_trans (Nat.le_trans (Nat.le_add_left a (c+1)) (Nat.le_add_right _ d)) (Nat.le_of_eq (Nat.zero_add _).symm)) h1
theorem Ko{a b c d:Nat}(h1:((a+d)≤c))(h2:(b<(Int.toNat (d:Int)))):(((a:Int)+(0+(b:Int)))<(c:Int)):=by rw[Int.zero_add];exact cl (Nat.lt_of_lt_of_le (Nat.add_lt_add_left h2 a) h1)
theorem Kp{a b c d:Nat}(h1:((b+c)≤1000))(h2:((d+a)≤(b+c))):(a≤1000):=Nat.le_trans (Nat.le_add_left a d) (Nat.le_trans h2 h1)
theorem Kq{a b c d:Nat}(h1:((b+c)≤d))(h2:(a<(Int.toNat (c:Int))))(h3:(d≤1000)):((8*(a:Int))≤1000000):=Int.le_trans (Int.mul_le_mul_of_nonneg_left (aQ (Nat.le_trans (Nat.le_of_lt h2) (Nat.le_trans (Nat.le_trans (Nat.le_add_left c b) h1) h3))) (by decide)) (by decide)
theorem Kr{a b c d:Nat}(h1:((b:Int)<9))(h2:((d≤(c-a))∧((d≤(1+b))∧(1≤d)))):((a+(1+b))≤(c+9)):=Nat.add_le_add (Nat.le_trans (Nat.le_of_lt (Nat.lt_of_sub_pos (Nat.lt_of_lt_of_le h2.2.2 h2.1))) (Nat.le_refl c)) (Nat.add_comm 1 b▸lc h1)
theorem Ks{a b c d:Nat}(h1:((c+d)≤b))(h2:(a<(Int.toNat (d:Int)))):(a<(b-c)):=Nat.lt_of_lt_of_le h2 (Nat.le_sub_of_add_le (Nat.add_comm c d▸h1))
theorem Ku{a b c d:Nat}(h1:((d+a)≤(b+c))):(a≤(b+c)):=Nat.le_trans (Nat.le_add_left a d) h1
theorem Kv{a b c d:Nat}(h1:((d≤(a-b))∧((d≤(1+c))∧(1≤d)))):((a-(b+(1+c)))<(a-b)):=by rw[← Nat.sub_sub];exact Nat.sub_lt (Nat.lt_of_lt_of_le h1.2.2 h1.1) (TR c)
theorem Kw{a b c d:Nat}(h1:(a=0))(h2:(b=5))(h3:(c=7))(h4:(d≤1921)):((((a+b)+c)+d)≤1000000):=Nat.le_trans (Nat.add_le_add (Nat.add_le_add (Nat.add_le_add (Nat.le_of_eq h1) (Nat.le_of_eq h2)) (Nat.le_of_eq h3)) h4) (nb rfl)
theorem Kx{a b c d:Nat}(h1:(a=0))(h2:(c=7))(h3:(d=7))(h4:(b=8)):((((a+b)+c)+d)≤1000000):=Nat.le_trans (Nat.add_le_add (Nat.add_le_add (Nat.add_le_add (Nat.le_of_eq h1) (Nat.le_of_eq h4)) (Nat.le_of_eq h2)) (Nat.le_of_eq h3)) (nb rfl)
theorem Ky{a b c d:Nat}(h1:(a=6))(h2:(b≤(3+d)))(h3:(d≤15))(h4:(c≤4)):(((a+b)+c)≤100):=Nat.le_trans (Nat.add_le_add (Nat.add_le_add (Nat.le_of_eq h1) (Nat.le_trans h2 (Nat.add_le_add_left h3 3))) h4) (nb rfl)
theorem Kz{a b c d:Nat}(h1:(b≤(20*c)))(h2:(a≤(3+d)))(h3:(d≤16)):((a+b)≤(20*(c+1))):=Nat.le_trans (Nat.le_of_eq (Nat.add_comm a b)) <| Nat.le_trans (Nat.add_le_add h1 (Nat.le_trans h2 (Nat.le_trans (Nat.add_le_add_left h3 3) (nb rfl)))) (Nat.le_refl (20*c+20))
theorem KA{a b c d:Nat}(h1:(c=4))(h2:(a=6))(h3:(b≤(20*d)))(h4:(d≤3)):(((a+b)+c)≤1000000):=Nat.le_trans (Nat.add_le_add (Nat.add_le_add (Nat.le_of_eq h2) (Nat.le_trans h3 (Nat.mul_le_mul_left 20 h4))) (Nat.le_of_eq h1)) (nb rfl)
theorem KB{a b c d:Nat}:((a+((256*b)+(256*(c*d))))=((a+(256*b))+(256*(c*d)))):=by simp +arith
theorem KC{a b c:Int}(h1:(0≤b))(h2:(c≤a))(h3:(b≤c)):(0≤a):=Int.le_trans h1 (Int.le_trans h3 h2)
theorem KD{a b c:Nat}(h1:((a+(10*((c+1)+1)))≤100))(h2:(b≤10)):(((a+b)+(10*(c+1)))≤100):=Nat.le_trans (Nat.add_assoc a b _▸Nat.add_le_add_left (Nat.le_trans (Nat.add_le_add_right h2 _) (Nat.le_of_eq (Nat.add_comm 10 (10*(c+1))))) a) h1
theorem KI{a b c:Nat}(h1:((a+((b+1)+1))=c)):(((a+1)+(b+1))=c):=(Nat.add_right_comm a 1 (b+1)).trans h1
theorem KJ{a b c:Nat}(h1:((a+((c+1)+1))=b)):((a+1)≠b):=fun h=>absurd (Nat.add_left_cancel (h1.trans h.symm)) (fun e=>Nat.noConfusion (Nat.succ.inj e))
theorem KK{a b c:Nat}(h1:((a+(b+1))=c)):(((a+1)+b)=c):=(Nat.add_right_comm a 1 b).trans h1
theorem KL{a b c:Nat}(h1:((a+b)<c))(h2:(c≤1000)):((a+b)≤1000):=Nat.le_trans (Nat.le_of_lt h1) h2
theorem KM{a b c:Nat}(h1:((a+b)<c))(h2:(c≤1000)):(a≤1000):=Nat.le_trans (Nat.le_add_right a b) (Nat.le_trans (Nat.le_of_lt h1) h2)
theorem KN{a b c:Nat}(h1:((a+b)<c)):((((a+b):Nat):Int)<(c:Int)):=Int.ofNat_lt.mpr ‹_›
theorem KO{a b c:Nat}(h1:((a+b)<c)):((a+b)≠c):=Nat.ne_of_lt ‹_›
theorem KP{a b c:Nat}(h1:((a+b)<c)):((a+b)≤c):=Nat.le_of_lt ‹_›
theorem KQ{a b c:Nat}(h1:((b+a)=c))(h2:(c≤100)):(a≤1000):=Nat.le_trans (Nat.le_trans (Nat.le_add_left a b) (Nat.le_of_eq h1)) (Nat.le_trans h2 (nb rfl))
theorem KR{a b c:Nat}(h1:((b+a)≤c))(h2:(c≤1000)):((a:Int)<(2^62)):=G3 (aQ (Nat.le_trans (Nat.le_trans (Nat.le_add_left a b) h1) h2)) (by decide)
theorem KT{a b c:Nat}(h1:((b:Int)<3))(h2:(c=(1+b)))(h3:(a≤(5*c))):(a≤15):=Nat.le_trans h3 (Nat.mul_le_mul_left 5 (Nat.le_trans (Nat.le_of_eq (h2.trans (Nat.add_comm 1 b))) (lc h1)))
theorem KU{a b c:Nat}(h1:(a<(((((c+1)+1)+1)+1)+1)))(h2:(c=(1+b))):((a-5)<(1+b)):=Nat.lt_of_le_of_lt (Nat.sub_le_sub_right (Nat.le_of_lt_succ h1) 5) (Nat.lt_of_lt_of_le (Nat.pred_lt (n:=c) (Nat.ne_of_gt (h2.symm▸TR b))) (Nat.le_of_eq h2))
theorem KV{a b c:Nat}(h1:(a<(2^8)))(h2:(b<c)):((a+(256*b))<(c*(2^8))):=Nat.lt_of_lt_of_le (Nat.add_lt_add_right h1 _) (Nat.le_trans (Nat.le_of_eq (show 2^8+256*b=(b+1)*2^8 from(Nat.add_comm _ _).trans (Nat.mul_comm 256 (b+1)))) (Nat.mul_le_mul_right (2^8) h2))
theorem KW{a b c:Nat}(h1:(a<100000))(h2:(c<2))(h3:(b<4)):((((8*a)+(2*b))+c)<16777216):=Nat.lt_of_le_of_lt (Nat.add_le_add (Nat.add_le_add (Nat.mul_le_mul_left 8 (Nat.le_of_lt h1)) (Nat.mul_le_mul_left 2 (Nat.le_of_lt h3))) (Nat.le_of_lt h2)) (nb rfl)
theorem KX{a b c:Nat}(h1:(a=0))(h2:(b=5))(h3:(c=7)):(((a+b)+c)≤1000000):=Nat.le_trans (Nat.add_le_add (Nat.add_le_add (Nat.le_of_eq h1) (Nat.le_of_eq h2)) (Nat.le_of_eq h3)) (nb rfl)
theorem KY{a b c:Nat}(h1:(a=0))(h2:(c=7))(h3:(b=8)):(((a+b)+c)≤1000000):=Nat.le_trans (Nat.add_le_add (Nat.add_le_add (Nat.le_of_eq h1) (Nat.le_of_eq h3)) (Nat.le_of_eq h2)) (nb rfl)
theorem KZ{a b c:Nat}(h1:(a=6))(h2:(b≤(20*c)))(h3:(c≤3)):(((a+b)+0)≤1000000):=Nat.le_trans (Nat.add_le_add (Nat.add_le_add (Nat.le_of_eq h1) (Nat.le_trans h2 (Nat.mul_le_mul_left 20 h3))) (Nat.le_refl 0)) (nb rfl)
theorem La{a b c:Nat}(h1:(a=6))(h2:(b≤(20*c)))(h3:(c≤3)):((a+b)≤1000000):=Nat.le_trans (Nat.add_le_add (Nat.le_of_eq h1) (Nat.le_trans h2 (Nat.mul_le_mul_left 20 h3))) (nb rfl)
theorem Lc{a b c:Nat}(h1:(a=(c+b))):(((a:Int)-(b:Int))=(c:Int)):=by rw[h1,Int.natCast_add,Int.add_sub_cancel]
theorem Ld{a b c:Nat}(h1:(b<(Int.toNat ((c:Int)-(a:Int))))):((a+b)<c):=Nat.add_comm b a▸Nat.add_lt_of_lt_sub (TS▸h1)
theorem Le{a b c:Nat}(h1:(b<(c-a))):((a+b)<c):=Nat.add_comm b a▸Nat.add_lt_of_lt_sub h1
theorem Lf{a b c:Nat}(h1:(b=(c+a)))(h2:(b≤400)):(a≤400):=Nat.le_trans (Nat.le_trans (Nat.le_add_left a c) (Nat.le_of_eq h1.symm)) h2
theorem Lg{a b c:Nat}(h1:(b=c))(h2:(c≤900))(h3:(a≤(b+1))):(a≤1000):=Nat.le_trans h3 (Nat.le_trans (Nat.add_le_add_right (h1▸h2) 1) (nb rfl))
theorem Lh{a b c:Nat}(h1:(b≤((10*c)+2)))(h2:(c≤10000))(h3:(a≤1000)):((((a+1)+b)+1)≤16777216):=Nat.le_trans (Nat.add_le_add_right (Nat.add_le_add (Nat.add_le_add_right h3 1) (Nat.le_trans h1 (Nat.add_le_add_right (Nat.mul_le_mul_left 10 h2) 2))) 1) (nb rfl)
theorem Li{a b c:Nat}(h1:(b≤(5*c)))(h2:(a≤5)):((a+b)≤(5*(c+1))):=Nat.le_trans (Nat.le_of_eq (Nat.add_comm a b)) (Nat.add_le_add h1 h2)
theorem Lj{a b c:Nat}(h1:(c<b)):(((min (1+a) (b-c))≤(b-c))∧(((min (1+a) (b-c))≤(1+a))∧(1≤(min (1+a) (b-c))))):=⟨Nat.min_le_right _ _,Nat.min_le_left _ _,Nat.le_min.mpr ⟨Nat.le_add_right _ _,Nat.sub_pos_of_lt h1⟩⟩
theorem Lk{a b c:Nat}(h1:(¬(b≤a))):(a<(b+c)):=Nat.lt_of_lt_of_le (Nat.not_le.mp h1) (Nat.le_add_right b c)
theorem Ll{a b c:Nat}:(((a+b)+c)=(a+(b+c))):=by simp +arith
theorem Lm{a b:Int}(h1:(0≤b))(h2:(b≤a)):((-(2^62))≤a):=by lia
theorem Ln{a b:Int}(h1:(a≤b)):(a≤(b+1)):=by lia
theorem Lo{a b:Int}(h1:(a≤b)):(¬(a>b)):=by lia
theorem Lp{a b:Int}(h1:(b<(2^29)))(h2:(a≤(b+19))):((a+1)<(2^40)):=G3 (Int.add_le_add_right (Int.le_trans h2 (Int.add_le_add_right (Int.le_of_lt h1) 19)) 1) (by decide)
theorem Lq{a b:Int}(h1:(b<(2^29)))(h2:(a≤(b+19))):(a<(2^40)):=G3 (Int.le_trans h2 (Int.add_le_add_right (Int.le_of_lt h1) 19)) (by decide)
theorem Lr{a b:Int}(h1:(b<a)):((a-b)=(((Int.toNat (a-b)):Nat):Int)):=(Int.toNat_of_nonneg (Int.sub_nonneg_of_le (Int.le_of_lt h1))).symm
theorem Ls{a b:Int}(h1:(b≤1000000))(h2:(a≤b)):(a<(2^62)):=G3 (Int.le_trans h2 h1) (by decide)
theorem Lu{a b:Int}(h1:(b≤4000))(h2:(a≤(b+100))):(a≤5000):=Int.le_trans h2 (Int.le_trans (Int.add_le_add_right h1 100) (by decide))
theorem Lv{a b:Int}(h1:(b≤5000))(h2:(a≤(b+500))):(a<(2^29)):=G3 (Int.le_trans h2 (Int.add_le_add_right h1 500)) (by decide)
theorem Lw{a b:Int}(h1:(¬(b<a))):(0=(((Int.toNat (a-b)):Nat):Int)):=by rw[Int.toNat_of_nonpos (Int.sub_nonpos_of_le (Int.not_lt.mp h1))];rfl
theorem Lx{a b:Nat}(h1:(((a:Int)+4)≤(b:Int))):((a+4)≤b):=Em h1
theorem Ly{a b:Nat}(h1:(((a:Int)+8)≤(b:Int))):((a+8)≤b):=by lia
theorem Lz{a b:Nat}(h1:(((a:Int)-(b:Int))≥4)):(4≤(a-b)):=Nat.le_sub_of_add_le (Em (Int.add_le_of_le_sub_right h1))
theorem LA{a b:Nat}(h1:(((a:Int)-(b:Int))≥8)):(8≤(a-b)):=Nat.le_sub_of_add_le (Em (Int.add_le_of_le_sub_right h1))
theorem LB{a b:Nat}(h1:(((a:Int)-(b:Int))≥8)):((a-(b+8))<(a-b)):=by rw[← Nat.sub_sub];exact Nat.sub_lt (Nat.sub_pos_of_lt (lc (Int.lt_of_sub_pos (rY (by decide) h1)))) (by decide)
theorem LC{a b:Nat}(h1:(((b:Int)+4)≤(a:Int))):(4≤(a-b)):=Nat.le_sub_of_add_le (Nat.add_comm b 4▸Em h1)
theorem LD{a b:Nat}(h1:(((b:Int)+8)≤(a:Int))):(8≤(a-b)):=Nat.le_sub_of_add_le (Nat.add_comm b 8▸Em h1)
theorem LF{a b:Nat}(h1:(((b:Int)+8)≤(a:Int))):((a-(b+8))<(a-b)):=by rw[← Nat.sub_sub];exact Nat.sub_lt (Nat.sub_pos_of_lt (Nat.lt_of_lt_of_le (Nat.lt_add_of_pos_right (by decide)) (Em h1))) (by decide)
theorem LH{a b:Nat}(h1:(0<b))(h2:(a=1)):(a≤b):=Nat.le_trans (Nat.le_of_eq h2) h1
theorem LI{a b:Nat}(h1:(0<b)):(a<(a+b)):=Nat.add_lt_add_left ‹_› _
theorem LJ{a b:Nat}(h1:(110<b))(h2:(a<100)):((a+10)<b):=Nat.lt_trans (Nat.add_lt_add_right h2 10) h1
theorem LK{a b:Nat}(h1:((a+(10*(b+1)))≤100)):(a≤400):=Nat.le_trans (Nat.le_trans (Nat.le_add_right a _) h1) (nb rfl)
theorem LL{a b:Nat}(h1:((a+10)<b)):((a+1)<b):=Nat.lt_of_le_of_lt (Nat.add_le_add_left (nb rfl) a) h1
theorem LM{a b:Nat}(h1:((a+1)=b)):((a:Int)=((b:Int)-1)):=by rw[← h1,Int.natCast_succ,Int.add_sub_cancel]
theorem LN{a b:Nat}(h1:((a-b)=0))(h2:(¬(a≤b))):False:=h2 (Nat.sub_eq_zero_iff_le.mp h1)
theorem LO{a b:Nat}(h1:((a:Int)<(b:Int))):(a<b):=lc h1
theorem LP{a b:Nat}(h1:((a:Int)>1)):((a≤1)→(b=0)):=fun h=>absurd (lc (a:=1) h1) (Nat.not_lt.mpr h)
theorem LQ{a b:Nat}(h1:((b:Int)<5))(h2:(a=(1+b))):(a≤1000000):=Nat.le_trans (h2▸Nat.add_le_add_left (Nat.le_of_lt (lc h1)) 1) (nb rfl)
theorem LR{a b:Nat}(h1:((b:Int)<5))(h2:(a=(1+b))):(a≤5):=Nat.le_trans (Nat.le_of_eq (h2.trans (Nat.add_comm 1 b))) (lc h1)
theorem LS{a b:Nat}(h1:((b:Int)<6))(h2:(a=b)):(a≤1000000):=Nat.le_trans (h2▸Nat.le_of_lt (lc (b:=6) h1)) (nb rfl)
theorem LT{a b:Nat}(h1:((b:Int)<6))(h2:(a=b)):(a≤5):=h2▸Nat.le_of_lt_succ (lc h1)
theorem LU{a b:Nat}(h1:(a<(1+b)))(h2:(b≤4)):(a≤1000):=Nat.le_trans (Nat.le_of_lt h1) (Nat.le_trans (Nat.add_le_add_left h2 1) (nb rfl))
theorem LV{a b:Nat}(h1:(a<(1+b))):((((((((a+1)+1)+1)+1)+1):Nat):Int)<(6+(b:Int))):=by rw[Int.add_comm 6 b];exact cl (Nat.add_lt_add_right (Nat.add_comm 1 b▸h1) 5)
theorem LW{a b:Nat}(h1:(a<(b+1)))(h2:(¬(a=b))):(a<b):=Nat.lt_of_le_of_ne (Nat.le_of_lt_succ h1) h2
theorem LX{a b:Nat}(h1:(a<(min 24 b))):(a<24):=Nat.lt_of_lt_of_le h1 (Nat.min_le_left _ _)
theorem LY{a b:Nat}(h1:(a<b))(h2:(b=3)):(a<3):=h2▸h1
theorem LZ{a b:Nat}(h1:(a<b))(h2:(b=4)):(a<4):=h2▸h1
theorem Ma{a b:Nat}(h1:(a<b))(h2:(b≤500)):(a≤1000):=Nat.le_trans (Nat.le_of_lt h1) (Nat.le_trans h2 (nb rfl))
theorem Mb{a b:Nat}(h1:(a<b))(h2:(b≤5)):(a<5):=Nat.lt_of_lt_of_le ‹_› ‹_›
theorem Mc{a b:Nat}(h1:(a<b)):((min a b)=a):=Nat.min_eq_left (Nat.le_of_lt ‹_›)
theorem Md{a b:Nat}(h1:(a=0))(h2:(b=5)):((a+b)≤1000000):=by lia
theorem Me{a b:Nat}(h1:(a=0))(h2:(b=8)):((a+b)≤1000000):=Nat.le_trans (Nat.add_le_add (Nat.le_of_eq h1) (Nat.le_of_eq h2)) (nb rfl)
theorem Mf{a b:Nat}(h1:(a=b))(h2:(b≤500)):(a≤500):=h1▸h2
theorem Mg{a b:Nat}(h1:(a=b)):((a:Int)=(b:Int)):=by lia
theorem Mh{a b:Nat}(h1:(a=b)):(a≤b):=by lia
theorem Mi{a b:Nat}(h1:(a≠(b%4294967296))):((a:Int)≠(((b%4294967296):Nat):Int)):=fun h=>h1 (Int.ofNat_inj.mp h)
theorem Mj{a b:Nat}(h1:(a≠b)):(¬((a:Int)=(b:Int))):=by lia
theorem Mk{a b:Nat}(h1:(a≤(20*b)))(h2:(b≤3)):(a≤1000000):=Nat.le_trans h1 (Nat.le_trans (Nat.mul_le_mul_left 20 h2) (nb rfl))
theorem Ml{a b:Nat}(h1:(a≤1000)):((min a b)≤1000):=Nat.le_trans (Nat.min_le_left _ _) h1
theorem Mm{a b:Nat}(h1:(a≤b)):((a:Int)≤(b:Int)):=Int.ofNat_le.mpr ‹_›
theorem Mn{a b:Nat}(h1:(b<32))(h2:(a=6)):(((a+3)+(min (b-1) b))≤100):=Nat.le_trans (Nat.add_le_add (Nat.le_of_eq (congrArg (·+3) h2)) (Nat.le_trans (Nat.min_le_right _ _) (Nat.le_of_lt h1))) (nb rfl)
theorem Mo{a b:Nat}(h1:(b<a)):(0<((a:Int)-(b:Int))):=Int.sub_pos_of_lt (cl h1)
theorem Mp{a b:Nat}(h1:(b<a)):((min 1 (a-b))=1):=Nat.min_eq_left (Nat.sub_pos_of_lt h1)
theorem Mq{a b:Nat}(h1:(b=0))(h2:(a=b)):(a=0):=by lia
theorem Mr{a b:Nat}(h1:(b=0))(h2:(¬((b:Int)<(a:Int)))):(a=0):=Nat.eq_zero_of_not_pos fun h=>h2 (h1.symm▸cl h)
theorem Ms{a b:Nat}(h1:(b=(a+1)))(h2:(b≤3)):((10*(a+1))≤100):=show 10*(a+1)≤10*10 from Nat.mul_le_mul_left 10 (Nat.le_trans (Nat.le_of_eq h1.symm) (Nat.le_trans h2 (nb rfl)))
theorem Mt{a b:Nat}(h1:(b=(a+1))):((0+(a+1))=b):=by lia
theorem Mu{a b:Nat}(h1:(b≤100000)):((min a b)≤1000000):=Nat.le_trans (Nat.min_le_right _ _) (Nat.le_trans h1 (nb rfl))
theorem Mv{a b:Nat}(h1:(b≤100))(h2:(a≤100)):((a+b)≤1000000):=by lia
theorem Mw{a b:Nat}(h1:(¬(((a:Int)-(b:Int))≥4))):(¬(4≤(a-b))):=fun h=>h1 (Int.le_sub_left_of_add_le (aQ (Nat.add_le_of_le_sub' (Nat.le_of_lt (Nat.lt_of_sub_pos (Nat.lt_of_lt_of_le (Nat.succ_pos 3) h))) h)))
theorem Mx{a b:Nat}(h1:(¬(((a:Int)-(b:Int))≥8))):(¬(8≤(a-b))):=fun h=>h1 (Int.le_sub_left_of_add_le (aQ (Nat.add_le_of_le_sub' (Nat.le_of_lt (Nat.lt_of_sub_pos (Nat.lt_of_lt_of_le (Nat.succ_pos 7) h))) h)))
theorem My{a b:Nat}(h1:(¬(((b:Int)+4)≤(a:Int)))):(¬(4≤(a-b))):=fun h=>h1 (aQ (Nat.add_le_of_le_sub' (Nat.le_of_lt (Nat.lt_of_sub_pos (Nat.lt_of_lt_of_le (Nat.succ_pos 3) h))) h))
theorem Mz{a b:Nat}(h1:(¬(((b:Int)+8)≤(a:Int)))):(¬(8≤(a-b))):=fun h=>h1 (aQ (Nat.add_le_of_le_sub' (Nat.le_of_lt (Nat.lt_of_sub_pos (Nat.lt_of_lt_of_le (Nat.succ_pos 7) h))) h))
theorem MA{a b:Nat}(h1:(¬((a+1)=b))):((a:Int)≠((b:Int)-1)):=by lia
theorem MB{a b:Nat}(h1:(¬((b:Int)<(a:Int)))):(a≤b):=Nat.not_lt.mp fun h=>h1 (cl h)
theorem MC{a b:Nat}(h1:(¬(b≤a))):(a≤b):=by lia
theorem MD{a b:Nat}:(((((8*a)+(2*b))+1)%2)=1):=(Nat.add_assoc (8*a) (2*b) 1▸show(8*a+2*b+1)%2=1 from(show 8*a+2*b+1=1+2*(4*a+b) from(Nat.add_comm _ 1).trans (congrArg (1+·) ((Nat.mul_add 2 (4*a) b).trans (congrArg (·+2*b) (Nat.mul_assoc 2 4 a).symm)).symm))▸Nat.add_mul_mod_self_left 1 2 (4*a+b))
theorem ME{a b:Nat}:((((a:Int)*256)+(b:Int))=(((b+(256*a)):Nat):Int)):=by simp +arith
theorem MF{a b:Nat}:((((a:Int)+(b:Int))-(b:Int))≤((a:Int)+(b:Int))):=by simp +arith
theorem MG{a b:Nat}:((((a:Int)-(b:Int))-1)=((a:Int)-((b:Int)+1))):=by simp +arith
theorem MH{a b:Nat}:(((Int.toNat ((a:Int)+(1+(b:Int))))-a)=(1+b)):=Nat.add_sub_cancel_left _ _
theorem MI{a b:Nat}:(((Int.toNat ((a:Int)+(b:Int)))-a)=b):=Nat.add_sub_cancel_left _ _
theorem MJ{a b:Nat}:(0≤(((a:Int)+(b:Int))-(b:Int))):=by simp +arith
theorem MK{a b:Nat}:((Int.toNat (((a:Int)+(b:Int))-(b:Int)))=a):=by simp +arith
theorem ML{a b:Nat}:((a:Int)≤((a:Int)+(1+(b:Int)))):=by lia
theorem MM{a b:Nat}:(a≤(b+(Int.toNat ((a:Int)-(b:Int))))):=TS (a:=a) (b:=b)▸Gi
theorem MN{a c:Nat}{b d:Int}(h1:(c<((Int.toNat d)-(Int.toNat b))))(h2:(¬(c<((min (Int.toNat d) a)-(Int.toNat b))))):(a≤((Int.toNat b)+c)):=by
 refine Nat.le_of_not_lt fun h3=>h2 (Nat.lt_sub_of_add_lt (Nat.lt_min.mpr ⟨?_,?_⟩))
 ·rw[Nat.add_comm];exact Nat.add_lt_of_lt_sub' h1
 ·rw[Nat.add_comm];exact h3
theorem MO{a c:Nat}{b d:Int}(h1:(¬(a<((Int.toNat b)-(Int.toNat d))))):(¬(a<((min (Int.toNat b) c)-(Int.toNat d)))):=fun h2=>h1 (Nat.lt_of_lt_of_le h2 (Nat.sub_le_sub_right (Nat.min_le_left _ _) _))
theorem MP{a c:Nat}{b:Int}(h1:((a:Int)≤(b-(c:Int)))):(¬((a:Int)>(b-(c:Int)))):=Int.not_lt.mpr h1
theorem MQ{a c:Nat}{b:Int}(h1:((c:Int)=b))(h2:(a<c)):((a:Int)<b):=h1▸cl h2
theorem MR{a c:Nat}{b:Int}(h1:(¬((Int.toNat b)≤a))):(a≤((Int.toNat b)+c)):=Nat.le_trans (Nat.le_of_lt (Nat.not_le.mp h1)) (Nat.le_add_right _ c)
theorem MS{a c:Nat}{b:Int}(h1:(¬((Int.toNat b)≤a))):(a≤((min (Int.toNat b) a)+c)):=Nat.le_trans (by rw[Nat.min_eq_right (Nat.le_of_lt (Nat.not_le.mp h1))];exact Nat.le_refl a) (Nat.le_add_right _ c)
theorem MT{a:Int}(h1:(0<a)):((a-0)=(((Int.toNat a):Nat):Int)):=(Int.sub_zero a).trans (Int.toNat_of_nonneg (Int.le_of_lt h1)).symm
theorem MU{a:Int}(h1:(0≤a))(h2:(a<(2^40))):((Int.natAbs a)<(2^40)):=TT h1 h2
theorem MV{a:Int}(h1:(0≤a))(h2:(a<2)):((a=0)∨(a=1)):=(Int.lt_or_eq_of_le (Int.le_of_lt_add_one (b:=1) h2)).elim (fun h=>.inl (Int.le_antisymm (Int.le_of_lt_add_one (b:=0) h) h1)) .inr
theorem MW{a:Int}(h1:(0≤a)):((-(2^62))≤a):=by lia
theorem MX{a:Int}(h1:(0≤a)):((-(2^64))<(a+1)):=rY (by decide) (Int.add_le_add_right h1 1)
theorem MY{a:Int}(h1:(0≤a)):(0≤((a+1)+1)):=by lia
theorem MZ{a:Int}(h1:(0≤a)):(0≤(a+1)):=by lia
theorem Na{a:Int}(h1:(1≤a))(h2:(a<1000)):((Int.natAbs a)<1073741824):=TT (Int.le_trans (by decide) h1) (rY h2 (by decide))
theorem Nb{a:Int}(h1:(1≤a))(h2:(¬(a=1))):(2≤a):=(Int.lt_or_eq_of_le h1).elim id (fun e=>absurd e.symm h2)
theorem Nc{a:Int}(h1:(a<(2^29))):(((a+1)+1)<(2^30)):=G3 (Int.add_le_add_right (Int.add_le_add_right (Int.le_of_lt h1) 1) 1) (by decide)
theorem Nd{a:Int}(h1:(a<(2^29))):((a+1)<(2^40)):=G3 (Int.add_le_add_right (Int.le_of_lt h1) 1) (by decide)
theorem Nf{a:Int}(h1:(a<(2^40))):((a+1)<(2^64)):=G3 (Int.add_le_add_right (Int.le_of_lt h1) 1) (by decide)
theorem Ng{a:Int}(h1:(a<1000000)):(a<(2^63)):=Int.lt_trans h1 (by decide)
theorem Nh{a:Int}(h1:(a≤1000000)):(a<(2^62)):=G3 h1 (by decide)
theorem Ni{a:Int}(h1:(a≤1000)):((Int.toNat a)≤1000):=tn (b:=1000) h1
theorem Nj{a:Int}(h1:(a≤1000)):(a≤1048576):=Int.le_trans h1 (by decide)
theorem Nk{a:Int}(h1:(a≤1024)):(¬(131072<a)):=Int.not_lt.mpr (Int.le_trans h1 (by decide))
theorem Nl{a:Int}(h1:(a≤4000)):(a<(2^29)):=G3 h1 (by decide)
theorem Nm{a:Int}(h1:(a≤4000)):(a≤5000):=Int.le_trans h1 (by decide)
theorem Nn{a:Int}(h1:(a≤5000)):(a<(2^30)):=G3 h1 (by decide)
theorem No{a:Int}(h1:(¬(0<a))):(0=(((Int.toNat a):Nat):Int)):=by rw[Int.toNat_of_nonpos (Int.not_lt.mp h1)];rfl
theorem Np{a:Int}:(((-((-a)-1))-1)=a):=by simp +arith
theorem Nq{a:Int}:((a+((0:Nat):Int))=a):=by simp +arith
theorem Nr{a:Int}:((a+1)≤((a+1)+(6*((0:Nat):Int)))):=by simp +arith
theorem Nt{a:Int}:(a≤(a+((0:Nat):Int))):=by simp +arith
theorem Nu{a:Nat}(h1:(0<a)):(1≤(a:Int)):=Int.ofNat_lt.mpr ‹_›
theorem Nv{a:Nat}(h1:(0<a)):((a-(a-1))=1):=Nat.sub_sub_self h1
theorem Nw{a:Nat}(h1:(0<a)):((a:Int)>0):=Int.ofNat_lt.mpr ‹_›
theorem Nx{a:Nat}(h1:(0<a)):(a=((a-1)+1)):=(Nat.sub_add_cancel h1).symm
theorem Ny{a:Nat}(h1:(1≤a)):(1≤(a:Int)):=Int.ofNat_le.mpr ‹_›
theorem Nz{a:Nat}(h1:((a:Int)<3)):((1+a)≤100000):=Nat.le_trans (Nat.add_le_add_left (Nat.le_of_lt (lc (b:=3) h1)) 1) (nb rfl)
theorem NA{a:Nat}(h1:((a:Int)<3)):((97+a)<256):=Nat.lt_trans (Nat.add_lt_add_left (lc h1) 97) (nb rfl)
theorem NB{a:Nat}(h1:((a:Int)<3)):(a<3):=lc h1
theorem NC{a:Nat}(h1:((a:Int)<5)):((1+a)≤100):=Nat.le_trans (Nat.add_le_add_left (Nat.le_of_lt (lc (b:=5) h1)) 1) (nb rfl)
theorem ND{a:Nat}(h1:((a:Int)<6)):(a≤100):=by lia
theorem NE{a:Nat}(h1:(a<(2^8))):((Int.natAbs (a:Int))<(2^64)):=Nat.lt_of_lt_of_le ‹_› (nb rfl)
theorem NG{a:Nat}(h1:(a<(2^8))):((a:Int)≤1024):=Int.ofNat_le.mpr (Nat.le_trans (Nat.le_of_lt ‹_›) (nb rfl))
theorem NH{a:Nat}(h1:(a<16777216)):(((a%256)+(256*(((a/256)%256)+(256*(((a/65536)%256)+(256*0))))))=a):=dg (dg (Eq.trans (Nat.mod_eq_of_lt (Nat.div_lt_of_lt_mul h1)) (Nat.div_div_eq_div_mul a 256 256).symm))
theorem NI{a:Nat}(h1:(a<256)):((a:Int)<256):=Int.ofNat_lt.mpr ‹_›
theorem NJ{a:Nat}(h1:(a<32)):((2870177450012600261+a)<18446744073709551616):=Nat.lt_of_lt_of_le (Nat.add_lt_add_left h1 _) (nb rfl)
theorem NK{a:Nat}(h1:(a<32)):((a+1)<256):=Nat.lt_of_le_of_lt ‹_› (nb rfl)
theorem NL{a:Nat}(h1:(a<32)):((a+1)≤1000):=Nat.lt_of_lt_of_le ‹_› (nb rfl)
theorem NM{a:Nat}(h1:(a<32)):((a:Int)<32):=cl (b:=32) h1
theorem NN{a:Nat}(h1:(a<32)):((a:Int)≤1000000):=Int.ofNat_le.mpr (Nat.le_trans (Nat.le_of_lt ‹_›) (nb rfl))
theorem NO{a:Nat}(h1:(a<32)):((a:Int)≤1024):=Int.ofNat_le.mpr (Nat.le_trans (Nat.le_of_lt ‹_›) (nb rfl))
theorem NP{a:Nat}(h1:(a<32)):(a<100000):=Nat.lt_of_lt_of_le ‹_› (nb rfl)
theorem NQ{a:Nat}(h1:(a<32)):(¬(((((0+a):Nat):Int)-0)≥32)):=fun h=>absurd (Em (b:=0+a) (Int.sub_zero ((0+a:Nat):Int)▸h)) (Nat.not_le.mpr ((Nat.zero_add a).symm▸h1))
theorem NR{a:Nat}(h1:(a<3)):((a:Int)≤1000000):=Int.ofNat_le.mpr (Nat.le_trans (Nat.le_of_lt ‹_›) (nb rfl))
theorem NS{a:Nat}(h1:(a<4294967296)):(((a%256)+(256*(((a/256)%256)+(256*(((a/65536)%256)+(256*(((a/16777216)%256)+(256*0))))))))=a):=dg (dg (Eq.trans (dg (Eq.trans (Nat.mod_eq_of_lt (Nat.div_lt_of_lt_mul h1)) (Nat.div_div_eq_div_mul a 65536 256).symm)) (Nat.div_div_eq_div_mul a 256 256).symm))
theorem NT{a:Nat}(h1:(a=1)):(0<(a:Int)):=by lia
theorem NU{a:Nat}(h1:(a=1)):(a≤1000000):=Nat.le_trans (Nat.le_of_eq ‹_›) (nb rfl)
theorem NV{a:Nat}(h1:(a=1)):(a≤100):=Nat.le_trans (Nat.le_of_eq ‹_›) (nb rfl)
theorem NW{a:Nat}(h1:(a=1)):(a≤500):=Nat.le_trans (Nat.le_of_eq ‹_›) (nb rfl)
theorem NX{a:Nat}(h1:(a=3)):(((3:Nat):Int)≤((a:Int)-((0:Nat):Int))):=h1.symm▸(by decide)
theorem NY{a:Nat}(h1:(a=3)):(a≤100):=Nat.le_trans (Nat.le_of_eq ‹_›) (nb rfl)
theorem NZ{a:Nat}(h1:(a=3)):(a≤3):=Nat.le_trans (Nat.le_of_eq ‹_›) (nb rfl)
theorem Oa{a:Nat}(h1:(a=5)):(a≤1000000):=Nat.le_trans (Nat.le_of_eq ‹_›) (nb rfl)
theorem Ob{a:Nat}(h1:(a=7)):(a≤1000000):=Nat.le_trans (Nat.le_of_eq ‹_›) (nb rfl)
theorem Oc{a:Nat}(h1:(a≤1000000)):(¬((a*1)≥(2^63))):=Nat.not_le.mpr (Nat.lt_of_le_of_lt (Nat.le_of_eq (Nat.mul_one a)) (Nat.lt_of_le_of_lt h1 (nb rfl)))
theorem Od{a:Nat}(h1:(a≤1000000)):(¬(a>16777216)):=Nat.not_lt.mpr (Nat.le_trans h1 (nb rfl))
theorem Oe{a:Nat}(h1:(a≤100000)):((a:Int)≤1000000):=Int.ofNat_le.mpr (Nat.le_trans ‹_› (nb rfl))
theorem Of{a:Nat}(h1:(a≤1000)):((((((((a+1)+1)+1)+1)+1)+1)+1)≤100000):=Nat.le_trans (Nat.add_le_add_right h1 7) (nb rfl)
theorem Og{a:Nat}(h1:(a≤1000)):((a+1)≤(16777216+1)):=Nat.lt_of_le_of_lt ‹_› (nb rfl)
theorem Oh{a:Nat}(h1:(a≤1000)):((a:Int)<9223372036854775808):=G3 (aQ h1) (by decide)
theorem Oi{a:Nat}(h1:(a≤100)):((3+a)≤1000000):=Nat.le_trans (Nat.add_le_add_left h1 3) (nb rfl)
theorem Oj{a:Nat}(h1:(a≤100)):((a:Int)≤1000):=Int.ofNat_le.mpr (Nat.le_trans ‹_› (nb rfl))
theorem Ol{a:Nat}(h1:(a≤100)):(a≤1000000):=Nat.le_trans ‹_› (nb rfl)
theorem Om{a:Nat}(h1:(a≤1099511627776)):(¬((a:Int)≥(2^63))):=by lia
theorem On{a:Nat}(h1:(a≤10)):((a:Int)≤1024):=Int.ofNat_le.mpr (Nat.le_trans ‹_› (nb rfl))
theorem Oo{a:Nat}(h1:(a≤10)):(a≤100):=Nat.le_trans ‹_› (nb rfl)
theorem Op{a:Nat}(h1:(a≤15)):(a<256):=Nat.lt_of_le_of_lt ‹_› (nb rfl)
theorem Oq{a:Nat}(h1:(a≤15)):(a≤1000000):=Nat.le_trans ‹_› (nb rfl)
theorem Os{a:Nat}(h1:(a≤15)):(a≤16):=Nat.le_trans ‹_› (nb rfl)
theorem Ot{a:Nat}(h1:(a≤15)):(a≤400):=Nat.le_trans ‹_› (nb rfl)
theorem Ou{a:Nat}(h1:(a≤16)):(a≤100):=Nat.le_trans ‹_› (nb rfl)
theorem Ov{a:Nat}(h1:(a≤1)):((0≤(32+(4*(a:Int))))∧((32+(4*(a:Int)))<256)):=⟨Int.add_nonneg (by decide) (Int.mul_nonneg (by decide) (Int.natCast_nonneg a)),G3 (Int.add_le_add_left (Int.mul_le_mul_of_nonneg_left (aQ h1) (by decide)) 32) (by decide)⟩
theorem Ow{a:Nat}(h1:(a≤1)):((0≤(4*(a:Int)))∧((4*(a:Int))<256)):=⟨Int.mul_nonneg (by decide) (Int.natCast_nonneg a),G3 (Int.mul_le_mul_of_nonneg_left (aQ h1) (by decide)) (by decide)⟩
theorem Ox{a:Nat}(h1:(a≤3)):(a≤1000000):=Nat.le_trans ‹_› (nb rfl)
theorem Oy{a:Nat}(h1:(a≤3)):(a≤100000):=Nat.le_trans ‹_› (nb rfl)
theorem Oz{a:Nat}(h1:(a≤500)):((a:Int)≤1000):=Int.ofNat_le.mpr (Nat.le_trans ‹_› (nb rfl))
theorem OA{a:Nat}(h1:(a≤5)):((9+(a-1))≤1000000):=Nat.le_trans (Nat.add_le_add_left (Nat.le_trans (Nat.sub_le a 1) h1) 9) (nb rfl)
theorem OB{a:Nat}(h1:(a≤5)):((a+1)<256):=Nat.lt_of_le_of_lt (Nat.add_le_add_right h1 1) (nb rfl)
theorem OC{a:Nat}(h1:(a≤5)):(a<256):=Nat.lt_of_le_of_lt ‹_› (nb rfl)
theorem OD{a:Nat}(h1:(a≤5)):(a≤10):=Nat.le_trans ‹_› (nb rfl)
theorem OE{a:Nat}(h1:(a≤63)):(a≤1000):=Nat.le_trans ‹_› (nb rfl)
theorem OF{a:Nat}(h1:(a≤64)):((a:Int)≤1000000):=Int.ofNat_le.mpr (Nat.le_trans ‹_› (nb rfl))
theorem OG{a:Nat}(h1:(a≤64)):((a:Int)≤64):=Int.ofNat_le.mpr ‹_›
theorem OH{a:Nat}(h1:(a≤8)):((8*a)≤64):=Nat.mul_le_mul_left 8 h1
theorem OI{a:Nat}(h1:(¬(((63:Nat):Int)<(a:Int)))):(a≤63):=Nat.not_lt.mp fun h=>h1 (cl h)
theorem OJ{a:Nat}(h1:(¬((a:Int)=0))):((a:Int)>0):=cl (a:=0) (Nat.pos_of_ne_zero fun e=>h1 (e▸rfl))
theorem OK{a:Nat}(h1:(¬((a:Int)>0))):(a≤1):=Nat.le_trans (Nat.not_lt.mp fun h=>h1 (cl (a:=0) h)) (nb rfl)
theorem OL{a:Nat}(h1:(¬(a<5))):(5≤a):=Nat.not_lt.mp ‹_›
theorem OM{a:Nat}(h1:(¬(a=0))):((a/2)<a):=Nat.div_lt_self (Nat.pos_of_ne_zero h1) (by decide)
theorem ON{a:Nat}:(((5+(a:Int))+1)=(6+(a:Int))):=by simp +arith
theorem OO{a:Nat}:(((8*a)%2)=0):=Nat.mul_mod_right 2 (4*a)▸congrArg (·%2) (Nat.mul_assoc 2 4 a).symm▸rfl
theorem OP{a:Nat}:((0+(a:Int))=(a:Int)):=by simp +arith
theorem OQ{a:Nat}:((0≤(((a%256):Nat):Int))∧((((a%256):Nat):Int)<256)):=⟨Int.natCast_nonneg _,cl (Nat.mod_lt a (by decide))⟩
theorem OR{a:Nat}:(((Int.toNat ((a:Int)+4))-a)=4):=Nat.add_sub_cancel_left _ _
theorem OS{a:Nat}:(((Int.toNat ((a:Int)+8))-a)=8):=Nat.add_sub_cancel_left _ _
theorem OT{a:Nat}:(((a%256)%256)=(a%256)):=by simp +arith
theorem OU{a:Nat}:((((a%4294967296):Nat):Int)<(2^40)):=rY (cl (Nat.mod_lt a (by decide))) (by decide)
theorem OV{a:Nat}:(((a:Int)-(a:Int))≤0):=by simp +arith
theorem OW{a:Nat}:(4<(((((((((a+1)+1)+1)+1)+1)+1)+1):Nat):Int)):=cl (a:=4) (b:=a+7) (Nat.lt_of_lt_of_le (by decide) (Nat.le_add_left 7 a))
theorem OX{a:Nat}:((Int.toNat (64-(a:Int)))=(64-a)):=Int.toNat_sub 64 a
theorem OY{a:Nat}:((a:Int)≤(((a+1):Nat):Int)):=by simp +arith
theorem OZ{a:Nat}:((a:Int)≤((a:Int)+4)):=by simp +arith
theorem Pa{a:Nat}:((a:Int)≤((a:Int)+8)):=by simp +arith
theorem Pb{a:Nat}:((min 4 a)≤8):=Nat.le_trans (Nat.min_le_left _ _) (nb rfl)
theorem Pc{a:Nat}:(¬((a:Int)<0)):=by simp +arith
theorem Pd{a:Nat}{b:Int}(h1:((a*(Int.toNat b))≤(1000*1000))):((a*(Int.toNat b))≤16777216):=Nat.le_trans ‹_› (nb rfl)
theorem Pe{b c:Nat}{a d:Int}(h1:((b:Int)<3))(h2:(c<(1+b)))(h3:(d<(2^29)))(h4:(a≤((d+1)+(6*(c:Int))))):((a+1)<(2^30)):=G3 (Int.add_le_add_right (Int.le_trans h4 (Int.add_le_add (Int.add_le_add_right (Int.le_of_lt h3) 1) (Int.mul_le_mul_of_nonneg_left (aQ (Nat.le_trans (Nat.le_of_lt h2) (Nat.add_le_add_left (Nat.le_of_lt (lc h1)) 1))) (by decide)))) 1) (by decide)
theorem Pf{b c:Nat}{a d:Int}(h1:((b:Int)<3))(h2:(c<(1+b)))(h3:(d<(2^29)))(h4:(a≤((d+1)+(6*(c:Int))))):(a<(2^40)):=G3 (Int.le_trans h4 (Int.add_le_add (Int.add_le_add_right (Int.le_of_lt h3) 1) (Int.mul_le_mul_of_nonneg_left (aQ (Nat.le_trans (Nat.le_of_lt h2) (Nat.add_le_add_left (Nat.le_of_lt (lc h1)) 1))) (by decide)))) (by decide)
theorem Pg{b c:Nat}{a d:Int}(h1:(b<3))(h2:(c<(Int.toNat ((b:Int)-0))))(h3:(d≤(1+(700*(c:Int)))))(h4:(a≤(d+100))):(a<(2^30)):=G3 (Int.le_trans h4 (Int.add_le_add_right (Int.le_trans h3 (Int.add_le_add_left (Int.mul_le_mul_of_nonneg_left (aQ (Nat.le_of_lt (Nat.lt_of_lt_of_le h2 (Nat.le_of_lt h1)))) (by decide)) 1)) 100)) (by decide)
theorem Ph{b c:Nat}{a:Int}(h1:(a<(2^30)))(h2:(b<c))(h3:(c≤100)):((a+(b:Int))<(2^40)):=G3 (Int.add_le_add (Int.le_of_lt h1) (aQ (Nat.le_trans (Nat.le_of_lt h2) h3))) (by decide)
theorem Pi{b c:Nat}{a:Int}(h1:(b<3))(h2:(c<(Int.toNat ((b:Int)-0))))(h3:(a≤(1+(700*(c:Int))))):(a<(2^29)):=G3 (Int.le_trans h3 (Int.add_le_add_left (Int.mul_le_mul_of_nonneg_left (aQ (Nat.le_of_lt (Nat.lt_of_lt_of_le h2 (Nat.le_of_lt h1)))) (by decide)) 1)) (by decide)
theorem Pj{b d:Nat}{a c:Int}(h1:((b:Int)<6))(h2:(a≤((c+1)+(6*(d:Int))))):(((a+1)+(b:Int))≤((c+1)+(6*(((d+1):Nat):Int)))):=Int.le_trans (Int.add_le_add (Int.add_le_add_right h2 1) (Int.le_of_lt_add_one (b:=5) h1)) (by rw[Int.natCast_succ,Int.mul_add,Int.add_assoc,Int.add_assoc (c+1)];exact Int.le_refl _)
theorem Pk{b:Nat}{a c d:Int}(h1:(c≤(1+(700*(b:Int)))))(h2:(d≤(c+100)))(h3:(a≤(d+500))):(a≤(1+(700*(((b+1):Nat):Int)))):=Int.le_trans h3 (Int.le_trans (Int.add_le_add_right (Int.le_trans h2 (Int.add_le_add_right h1 100)) 500) (by rw[Int.natCast_succ,Int.mul_add,← Int.add_assoc,Int.add_assoc _ 100 500];exact Int.add_le_add_left (by decide) _))
theorem Pl{b:Nat}{a:Int}(h1:(0≤a))(h2:(a<(b:Int)))(h3:(b≤1099511627776)):(((-(2^63))≤a)∧(a<(2^63))):=⟨Int.le_trans (by decide) h1,rY h2 (Int.le_trans (aQ h3) (by decide))⟩
theorem Pm{b:Nat}{a:Int}(h1:(0≤a))(h2:(a<(b:Int))):((Int.toNat a)<b):=Int.toNat_lt h1 |>.mpr h2
theorem Pn{b:Nat}{a:Int}(h1:(0≤a)):(0≤(a+(b:Int))):=by lia
theorem Po{b:Nat}{a:Int}(h1:(a<(b:Int)))(h2:(b≤1000000)):(a<(2^63)):=rY h1 (Int.le_trans (aQ h2) (by decide))
theorem Pp{b:Nat}{a:Int}(h1:(b<3))(h2:(a≤(1+(700*(b:Int))))):(a≤4000):=Int.le_trans h2 (Int.le_trans (Int.add_le_add_left (Int.mul_le_mul_of_nonneg_left (aQ (Nat.le_of_lt h1)) (by decide)) 1) (by decide))
theorem Pq{b:Nat}{a:Int}:(((a+(b:Int))+1)=(a+((b:Int)+1))):=by simp +arith
theorem Pr{b:Nat}{a:Int}:((a+(((b+1):Nat):Int))=((a+(b:Int))+1)):=by simp +arith
theorem Ps{b:Nat}{a:Int}:((a+((b:Int)*1))=(a+(b:Int))):=by simp +arith
theorem Pt{c d:Nat}{a b:Int}(h1:(a=(((b+1)+1)+(((1+c):Nat):Int))))(h2:(d=(1+c)))(h3:(d≤5)):(a≤(b+100)):=Int.le_trans (Int.le_of_eq h1) (by rw[Int.add_assoc,Int.add_assoc];exact Int.add_le_add_left (Int.add_le_add_left (Int.add_le_add_left (aQ (b:=5) (h2▸h3)) 1) 1 |> (Int.le_trans · (by decide))) b)
theorem Pu{c d:Nat}{a b:Int}(h1:(a≤(b+(c:Int)))):((a+1)≤(b+(((c+(1+d)):Nat):Int))):=Int.le_trans (Int.add_le_add_right h1 1) (by rw[Int.add_assoc];exact Int.add_le_add_left (aQ (a:=c+1) (Nat.add_le_add_left (Nat.le_add_right 1 d) c)) b)
theorem Pv{c d:Nat}{a b:Int}(h1:(b<(2^30)))(h2:(c<d))(h3:(d≤400))(h4:(a≤(b+(c:Int)))):(a<(2^40)):=G3 (Int.le_trans h4 (Int.add_le_add (Int.le_of_lt h1) (aQ (Nat.le_trans (Nat.le_of_lt h2) h3)))) (by decide)
theorem Pw{c d:Nat}{a b:Int}(h1:(c≤400))(h2:(d≤(c+9)))(h3:(a≤(b+(d:Int)))):(a≤(b+500)):=Int.le_trans h3 (Int.add_le_add_left (aQ (Nat.le_trans h2 (Nat.le_trans (Nat.add_le_add_right h1 9) (nb rfl)))) b)
theorem Px{c:Nat}{a b:Int}(h1:((a+1)≤b)):((a+1)≤((b+1)+(c:Int))):=Int.le_trans h1 (Int.le_trans (Int.le_add_of_nonneg_right (by decide)) (Int.le_add_of_nonneg_right (Int.natCast_nonneg c)))
theorem Py{c:Nat}{a b:Int}(h1:((c:Int)<3))(h2:(a≤((b+1)+(6*(((1+c):Nat):Int))))):(a≤(b+19)):=Int.le_trans h2 (by rw[Int.add_assoc];exact Int.add_le_add_left (Int.add_le_add_left (Int.mul_le_mul_of_nonneg_left (aQ (b:=3) (Nat.add_comm 1 c▸lc (b:=3) h1)) (by decide)) 1) b)
theorem Pz{c:Nat}{a b:Int}(h1:(b=(((a+1)+1)+(((1+c):Nat):Int)))):(a≤b):=Int.le_trans (Int.le_trans (Int.le_add_of_nonneg_right (by decide)) (Int.le_add_of_nonneg_right (by decide))) (Int.le_trans (Int.le_add_of_nonneg_right (Int.natCast_nonneg (1+c))) (Int.le_of_eq h1.symm))
noncomputable def PA(t:Thread):Bool:=match t.cur with
 | .loadIfAlive ..=>false
 | _=>true
noncomputable def EE(st:SharedT→Thread→Option (SharedT×Thread)) (ok:Thread→Bool) (b:Nat):Nat→SharedT→Thread→Option (Flow×SharedT×Code×Pos)
 | 0,_,_=>none
 | n+1,s,t=>match endAt b t with
  | some f=>some (f,s,t.code,t.pos)
  | none=>match ok t with
   | false=>none
   | true=>match PA t with
    | false=>none
    | true=>match st s t with
     | some (s',t')=>EE st ok b n s' t'
     | none=>none
noncomputable def PB(st:SharedT→Thread→Option (SharedT×Thread)) (ok:Thread→Bool):Nat→SharedT→Thread→Option (SharedT×Thread)
 | 0,s,t=>some (s,t)
 | n+1,s,t=>match through t with
  | true=>none
  | false=>match ok t with
   | false=>none
   | true=>match PA t with
    | false=>none
    | true=>match st s t with
     | some (s',t')=>PB st ok n s' t'
     | none=>none
structure Gl (S:SharedT) (s:Shared):Prop where
 size:s.heap.objs.size=S.n
 life:s.heap.life=S.life
 gens:s.gens=S.gens
 drawn:s.drawn=S.drawn
 toks:s.toks=S.toks
 os:s.os=S.os
 sub:∀a o,a<S.n→S.tree.get a=some o→alive o=some o→s.heap.get? a=some o
noncomputable def unk(S:SharedT) (a:Addr):Prop:=a<S.n∧∀o,S.tree.get a=some o→alive o=none
structure Kept (S:SharedT) (s:Shared) (S':SharedT) (s':Shared):Prop where
 keep:∀a o,unk S a→s.heap.get? a=some o→s'.heap.get? a=some o
 unk:∀a,unk S a→unk S' a
theorem Kept.refl(S:SharedT) (s:Shared):Kept S s S s:=⟨fun _ _ _ h=>h,fun _ h=>h⟩
theorem Kept.trans{S S' S'':SharedT}{s s' s'':Shared}(a:Kept S s S' s') (b:Kept S' s' S'' s''):Kept S s S'' s'':=
 ⟨fun x o u h=>b.keep x o (a.unk x u) (a.keep x o u h),fun x u=>b.unk x (a.unk x u)⟩
theorem J7{o o':Obj}(h:alive o=some o'):o'=o∧alive o=some o∧o.isFreed=false:=by
 obtain⟨c,d,dt,sl⟩:=o
 cases dt <;> first |(cases h;exact⟨rfl,rfl,rfl⟩) |(simp [alive] at h)
theorem Bq{o:Obj}(h:o.isFreed=false):alive o=some o:=by
 obtain⟨c,d,dt,sl⟩:=o
 cases dt <;> first |rfl |(simp [Obj.isFreed] at h)
noncomputable def pP(den:Code→Sem Fin) (p:Program) (w:World) (S:SharedT) (s:Shared) (t:Thread) (r:SharedT×Thread):Prop:=∃s',step den p w s t=.go s' r.2∧Gl r.1 s'∧Kept S s r.1 s'
theorem iB{α:Type}{b:Bool}{x:Option Obj}{f:Obj→α}{r:α}{P:Prop}(h:(match b with |true=>(match x with |some o=>(match alive o with |some o'=>some (f o') |none=>none) |none=>none) |false=>none)=some r)
  (k:b=true→∀o,x=some o→alive o=some o→o.isFreed=false→f o=r→P):P:=by
 cases b with
 | false=>cases h
 | true=>cases x with
  | none=>cases h
  | some o=>
   have h:(match alive o with |some o'=>some (f o') |none=>none)=some r:=h
   cases al:alive o with
   | none=>rw[al] at h;cases h
   | some o'=>
    have h2:some (f o')=some r:=by rw[al] at h;exact h
    obtain⟨rfl,al',fr⟩:=J7 al
    exact k rfl _ rfl al' fr (Option.some.inj h2)
theorem Br{α:Type}{b:Bool}{x r:α}{P:Prop}(h:(match b with |true=>some x |false=>none)=some r) (k:b=true→x=r→P):P:=by
 cases b with
 | false=>cases h
 | true=>exact k rfl (Option.some.inj h)
section
variable{den:Code→Sem Fin}{p:Program}{w:World}{T:BT}{n:Nat}{life:Life}{gens:Array GenState}{drawn:Drawn}{toks:Nat}{os:OsState}{H:Heap}{code:Code}{pos:Pos}{stack:List Frame}{r:SharedT×Thread}
theorem pQ{cur:Sem Fin}(e1:H.objs.size=n) (e2:H.life=life) (sub:∀a o,a<n→T.get a=some o→alive o=some o→H.get? a=some o)
  (h1:∀a q k,cur≠.load a q k) (h2:∀a q f k,cur≠.update a q f k) (h3:∀o k,cur≠.alloc o k) (h4:∀a k,cur≠.loadIfAlive a k)
  (hh:(match step den p w ⟨{},gens,drawn,toks,os⟩ ⟨cur,code,pos,stack⟩ with
    | .go s' t'=>some ((⟨T,n,life,s'.gens,s'.drawn,s'.toks,s'.os⟩:SharedT),t')
    | .halt _ _=>none)=some r):pP den p w ⟨T,n,life,gens,drawn,toks,os⟩ ⟨H,gens,drawn,toks,os⟩ ⟨cur,code,pos,stack⟩ r:=by
 cases q:step den p w ⟨{},gens,drawn,toks,os⟩ ⟨cur,code,pos,stack⟩ with
 | halt o s=>rw[q] at hh;cases hh
 | go s₀ t₀=>
  rw[q] at hh
  exact Option.some.inj hh▸⟨_,PySem.W.step_heap h1 h2 h3 h4 q,⟨e1,e2,rfl,rfl,rfl,rfl,sub⟩,fun _ _ _ hh=>hh,fun _ hh=>hh⟩
theorem rZ{a:Addr}{q:Option Value}{k:Obj→Sem Fin}(e1:H.objs.size=n) (e2:H.life=life) (sub:∀a o,a<n→T.get a=some o→alive o=some o→H.get? a=some o)
  (h:stepT den p w ⟨T,n,life,gens,drawn,toks,os⟩ ⟨.load a q k,code,pos,stack⟩=some r):pP den p w ⟨T,n,life,gens,drawn,toks,os⟩ ⟨H,gens,drawn,toks,os⟩ ⟨.load a q k,code,pos,stack⟩ r:=
 iB (b:=Nat.blt a n) (x:=T.get a) (f:=fun o=>((⟨T,n,life,gens,drawn,toks,os⟩:SharedT),(⟨k o,code,pos,stack⟩:Thread))) h fun e o g al fr eq=>eq▸⟨⟨H,gens,drawn,toks,os⟩,by simp only[step,sub a _ (Nat.le_of_ble_eq_true e) g al],⟨e1,e2,rfl,rfl,rfl,rfl,sub⟩,fun _ _ _ hh=>hh,fun _ hh=>hh⟩
theorem jA{a:Addr}{q:Option Value}{f:Obj→Obj}{k:Unit→Sem Fin}(e1:H.objs.size=n) (e2:H.life=life) (sub:∀a o,a<n→T.get a=some o→alive o=some o→H.get? a=some o)
  (h:stepT den p w ⟨T,n,life,gens,drawn,toks,os⟩ ⟨.update a q f k,code,pos,stack⟩=some r):pP den p w ⟨T,n,life,gens,drawn,toks,os⟩ ⟨H,gens,drawn,toks,os⟩ ⟨.update a q f k,code,pos,stack⟩ r:=
 iB (b:=Nat.blt a n) (x:=T.get a) (f:=fun _=>((⟨T.set a f,n,life,gens,drawn,toks,os⟩:SharedT),(⟨k (),code,pos,stack⟩:Thread))) h fun e o g al fr eq=>by
  have ho:=sub a _ (Nat.le_of_ble_eq_true e) g al
  have hs:Heap.SameBut a H (H.update a f):=Heap.SameBut.update ..
  refine eq▸⟨⟨H.update a f,gens,drawn,toks,os⟩,by simp only[step,ho,Option.isSome_some,if_true],⟨hs.1.trans e1,e2,rfl,rfl,rfl,rfl,fun b o' hb hg ha=>?_⟩,fun b o' u hb=>?_,fun b u=>⟨u.1,fun o' hg=>?_⟩⟩
  ·have hg:=(BT.get_set (i:=b) ..).symm.trans hg
   by_cases hba:b=a
   ·rw[if_pos hba,g] at hg
    cases hg
    exact hba.symm▸Heap.get?_update_self f ho (J7 ha).2.2
   ·rw[if_neg hba] at hg
    exact(hs.2 b hba).trans (sub b o' hb hg ha)
  ·exact(hs.2 b fun z=>Option.some_ne_none _ (al.symm.trans (u.2 _ (z▸g)))).trans hb
  ·have hg:=(BT.get_set (i:=b) ..).symm.trans hg
   rw[if_neg (fun z:b=a=>Option.some_ne_none _ (al.symm.trans (u.2 _ (z▸g))))] at hg
   exact u.2 o' hg
theorem pR{o:Obj}{k:Addr→Sem Fin}(e1:H.objs.size=n) (e2:H.life=life) (sub:∀a o,a<n→T.get a=some o→alive o=some o→H.get? a=some o)
  (h:stepT den p w ⟨T,n,life,gens,drawn,toks,os⟩ ⟨.alloc o k,code,pos,stack⟩=some r):pP den p w ⟨T,n,life,gens,drawn,toks,os⟩ ⟨H,gens,drawn,toks,os⟩ ⟨.alloc o k,code,pos,stack⟩ r:=
 Br (b:=((T.ins n o).get n).isSome) (x:=((⟨T.ins n o,n+1,life,gens,drawn,toks,os⟩:SharedT),(⟨k n,code,pos,stack⟩:Thread))) h fun e eq=>by
  refine eq▸⟨⟨H.push o,gens,drawn,toks,os⟩,by simp only[step,e1],⟨(Heap.size_push ..).trans (congrArg (· + 1) e1),e2,rfl,rfl,rfl,rfl,fun b o' hb hg ha=>?_⟩,fun b o' u hb=>Heap.get?_push_of_some _ hb,fun b u=>⟨Nat.lt_succ_of_lt u.1,fun o' hg=>?_⟩⟩
  ·have hg:=(BT.get_ins (i:=b) o T n e).symm.trans hg
   by_cases hbn:b=n
   ·rw[if_pos hbn] at hg
    cases hg
    exact(e1.trans hbn.symm)▸Heap.get?_push_size _ (J7 ha).2.2
   ·rw[if_neg hbn] at hg
    exact Heap.get?_push_of_some _ (sub b o' (LW hb hbn) hg ha)
  ·have hg:=(BT.get_ins (i:=b) o T n e).symm.trans hg
   rw[if_neg (Nat.ne_of_lt u.1)] at hg
   exact u.2 o' hg
end
theorem iC{den:Code→Sem Fin}{p:Program}{w:World}{S S':SharedT}{s:Shared}{t t':Thread}(R:Gl S s) (hq:PA t=true) (h:stepT den p w S t=some (S',t')) :
  pP den p w S s t (S',t'):=by
 obtain⟨T,n,life,gens,drawn,toks,os⟩:=S
 obtain⟨H,gens₁,drawn₁,toks₁,os₁⟩:=s
 obtain⟨e1,e2,e3,e4,e5,e6,sub⟩:=R
 dsimp only at e1 e2 e3 e4 e5 e6 sub
 subst e3 e4 e5 e6
 revert h
 obtain⟨cur,code,pos,stack⟩:=t
 intro h
 cases cur with
 | load a q k=>exact rZ e1 e2 sub h
 | update a q f k=>exact jA e1 e2 sub h
 | alloc o k=>exact pR e1 e2 sub h
 | loadIfAlive a k=>cases hq
 | _=>exact pQ e1 e2 sub (fun _ _ _ z=>nomatch z) (fun _ _ _ _ z=>nomatch z) (fun _ _ z=>nomatch z) (fun _ _ z=>nomatch z) h
theorem pS{p:Program}{w:World}{n₀:Nat}{ann:Option Value}{b:Nat}:∀ {n:Nat}{S S':SharedT}{s:Shared}{t:Thread}{f:Flow}{c:Code}{q:Pos},Gl S s→
  EE (stepT (denote treeTable) p w) (stepOk n₀ ann) b n S t=some (f,S',c,q)→∃s',segRun treeTable p w n₀ ann b n s t=some (f,s',c,q)∧Gl S' s'∧Kept S s S' s'
 | 0,_,_,_,_,_,_,_,_,h=>by cases h
 | n+1,S,S',s,t,f,c,q,R,h=>by
  unfold EE at h
  unfold segRun
  cases he:endAt b t with
  | some x=>rw[he] at h;cases h;exact⟨s,rfl,R,.refl _ _⟩
  | none=>
   rw[he] at h
   cases hk:stepOk n₀ ann t with
   | false=>rw[hk] at h;cases h
   | true=>
    rw[hk] at h
    cases hq:PA t with
    | false=>rw[hq] at h;cases h
    | true=>
     rw[hq] at h
     cases hs:stepT (denote treeTable) p w S t with
     | none=>rw[hs] at h;cases h
     | some r=>
      obtain⟨S₂,t₂⟩:=r
      rw[hs] at h
      refine V3 (iC R hq hs) fun s₂ e₂ R₂ K₂=>?_
      refine V3 (pS R₂ h) fun s₃ e₃ R₃ K₃=>?_
      exact⟨s₃,by rw[e₂];exact e₃,R₃,K₂.trans K₃⟩
theorem wX{p:Program}{w:World}{n₀:Nat}{ann:Option Value}:∀ {n:Nat}{S S':SharedT}{s:Shared}{t t':Thread},Gl S s→
  PB (stepT (denote treeTable) p w) (stepOk n₀ ann) n S t=some (S',t')→∃s',topGo treeTable p w n₀ ann n s t=some (s',t')∧Gl S' s'∧Kept S s S' s'
 | 0,S,S',s,t,t',R,h=>by
  simp only[PB,Option.some.injEq,Prod.mk.injEq] at h
  refine oA (h) fun zq1 zq2=>?_;subst zq1;subst zq2
  exact⟨s,rfl,R,.refl _ _⟩
 | n+1,S,S',s,t,t',R,h=>by
  unfold PB at h
  unfold topGo
  cases ht:through t with
  | true=>rw[ht] at h;cases h
  | false=>
   rw[ht] at h
   cases hk:stepOk n₀ ann t with
   | false=>rw[hk] at h;cases h
   | true=>
    rw[hk] at h
    cases hq:PA t with
    | false=>rw[hq] at h;cases h
    | true=>
     rw[hq] at h
     cases hs:stepT (denote treeTable) p w S t with
     | none=>rw[hs] at h;cases h
     | some r=>
      obtain⟨S₂,t₂⟩:=r
      rw[hs] at h
      refine V3 (iC R hq hs) fun s₂ e₂ R₂ K₂=>?_
      refine V3 (wX R₂ h) fun s₃ e₃ R₃ K₃=>?_
      exact⟨s₃,by rw[e₂];exact e₃,R₃,K₂.trans K₃⟩
noncomputable def pT:Obj:= { cls:=.none,data:=.freed }
noncomputable def full:Nat→BT
 | 0=>.nil
 | d+1=>.node pT (full d) (full d)
noncomputable def jB(l:List (Addr×Obj)):BT:=l.foldr (fun p T=>T.set p.1 fun _=>p.2) (full 12)
noncomputable abbrev pw:Program:=PySem.Challenge.pw_pq1227_01
noncomputable abbrev S(s:String):Str:=PySem.Str.ofString s
noncomputable def hs(P:Params) (s:Str):Int:=if s.cps.isEmpty then 0 else reduceHash (P.strHash s.cps)
noncomputable def en(P:Params) (s:Str) (t:Tok) (v:Value):DictEntry:=⟨hs P s,.str s t,v⟩
noncomputable def cp(n:Tok):Value:=.str "/claim/cut.py" n
noncomputable def CO(s:Str) (t:Tok) (s':Str) (t' t2:Tok) (a b c d e:Int) (r:Addr) (g:Bool) (h:Int) (v v1 v2 v3 v4:Value) (i j:Int) (t3:Tok):Obj:=
 ⟨.type "code",none,.fields #[.str s t,.str s' t',cp t2,.int a 0,.int b 0,.int c 0,.int d 0,.int e 0,.ref r,.bool g,.int h 0,v,v1,v2,v3,v4,.int i 0,.int j 0,cp t3], #[]⟩
noncomputable def cO(s:Str) (t:Tok) (s':Str) (t' t2:Tok) (a b c d e:Int) (r:Addr) (g:Bool) (h:Int) (v v2 v3 v4:Value) (i j:Int) (t3:Tok):Obj:=CO s t s' t' t2 a b c d e r g h v .none v2 v3 v4 i j t3
noncomputable def RS:List Stmt→Nat→Stmt
 | [],_=>.Pass ⟨0,0,0,0⟩
 | s::_,0=>s
 | _::r,n+1=>RS r n
noncomputable def EF:Stmt→List Stmt
 | .ClassDef _ _ _ body _ _ _ _ _ _ _=>body
 | _=>[]
noncomputable def st(i:Nat):Stmt:=RS pw.main.body i
noncomputable def me(i j:Nat):Stmt:=RS (EF (st i)) j
noncomputable def fd(s:Stmt) (qual:Str) (dV kV doc pm cd ct:Value) (g b:Addr):FuncData:=match s with
 | .FunctionDef name args body _ _ _ scope _ _ _=> { name,qualname:=qual,params:=args,body:=.stmts body,scope,globals:=g,closure:=[],defaults:=dV,kwdefaults:=kV,doc,pyModule:=pm,annotations:=none,code:=cd,closureTuple:=ct,builtins:=b }
 | _=>default
noncomputable def fO(s:Stmt) (q:Str) (v doc m cd:Value):Obj:=⟨.type "function",none,.func (fd s q v .none doc m cd .none 3 0), #[]⟩
noncomputable def sA:Env:= { scope:=pw.main.scope,locals:=mainNs,globals:=mainNs,cells:=[],code:=.ref 13,frame:=some 14 }
noncomputable def cM:Code:=.body (behindTheImports pw) sA
noncomputable def RT(i m:Nat):List Stmt:=((behindTheImports pw).drop i).take m
noncomputable def HI:Frame:=topFrame ⟨0,0,0,0⟩
noncomputable def RU(as:List Addr) (r:Flow×SharedT×Code×Pos):Flow×Nat×Nat×Life×Array GenState×Drawn×OsState×Code×Pos×List (Option Obj):=
 (r.1,r.2.1.n,r.2.1.toks,r.2.1.life,r.2.1.gens,r.2.1.drawn,r.2.1.os,r.2.2.1,r.2.2.2,as.map r.2.1.tree.get)
noncomputable def Bs(stp:(Code→Sem PySem.Fin)→Program→World→SharedT→Thread→Option (SharedT×Thread)) (den:(String→Option Builtin)→Code→Sem PySem.Fin) (tb:String→Option Builtin) (ok:Nat→Option Value→Thread→Bool) (ex:List Stmt→Env→Sem Flow)
  (i m fuel:Nat) (L:Params→List (Addr×Obj)) (n t:Nat) (p:Pos) (R:Params→List (Addr×Obj)) (n' t':Nat) (p':Pos) (w:World):Prop:=
 ∀os:OsState,(EE (stp (den tb) pw w) (ok 11 (some (.ref 6))) 1 fuel ⟨jB (L w.params),n,{}, #[],{},t,os⟩ ⟨(ex (RT i m) sA).wrap doneF deadEnd id id,cM,p,[HI]⟩).map (RU ((R w.params).map (·.1))) =
  some (.next,n',t',{}, #[],{},os,cM,p',(R w.params).map fun q=>some q.2)
noncomputable abbrev G6:=Bs stepT denote treeTable stepOk execs
noncomputable abbrev Bt:=Bs PySem.W.Fast.tw10156331382660048174 PySem.W.Fast.tw11892475500146522536 PySem.W.Fast.tw14364793385576792824 PySem.W.Fast.tw6613529449190102663 PySem.W.Fast.tw12563942051412417395
theorem p9{i m fuel:Nat}{L:Params→List (Addr×Obj)}{n t:Nat}{p:Pos}{R:Params→List (Addr×Obj)}{n' t':Nat}{p':Pos}{w:World}(h:Bt i m fuel L n t p R n' t' p' w):G6 i m fuel L n t p R n' t' p' w:=by
 unfold G6
 rw[PySem.W.Fast.te10156331382660048174,PySem.W.Fast.te11892475500146522536,PySem.W.Fast.te14364793385576792824,PySem.W.Fast.te6613529449190102663,PySem.W.Fast.te12563942051412417395]
 exact h
noncomputable def B2(P:Params):Obj:=⟨.type "dict",none,.dict #[en P "__name__" 1 (.str "builtins" 160),en P "__doc__" 2 (.builtin "builtins.__doc__:str#opaque"),en P "__package__" 3 (.builtin "builtins.__package__:str#opaque"),en P "__loader__" 4 (.builtin "builtins.__loader__:shared#opaque"),en P "__spec__" 5 (.builtin "builtins.__spec__#opaque"),en P "__build_class__" 6 (.builtin "__build_class__"),en P "__import__" 7 (.builtin "__import__"),en P "abs" 8 (.builtin "abs"),en P "all" 9 (.builtin "all"),en P "any" 10 (.builtin "any"),en P "ascii" 11 (.builtin "ascii"),en P "bin" 12 (.builtin "bin"),en P "breakpoint" 13 (.builtin "breakpoint"),en P "callable" 14 (.builtin "callable"),en P "chr" 15 (.builtin "chr"),en P "compile" 16 (.builtin "compile"),en P "delattr" 17 (.builtin "delattr"),en P "dir" 18 (.builtin "dir"),en P "divmod" 19 (.builtin "divmod"),en P "eval" 20 (.builtin "eval"),en P "exec" 21 (.builtin "exec"),en P "format" 22 (.builtin "format"),en P "getattr" 23 (.builtin "getattr"),en P "globals" 24 (.builtin "globals"),en P "hasattr" 25 (.builtin "hasattr"),en P "hash" 26 (.builtin "hash"),en P "hex" 27 (.builtin "hex"),en P "id" 28 (.builtin "id"),en P "input" 29 (.builtin "input"),en P "isinstance" 30 (.builtin "isinstance"),en P "issubclass" 31 (.builtin "issubclass"),en P "iter" 32 (.builtin "iter"),en P "aiter" 33 (.builtin "aiter"),en P "len" 34 (.builtin "len"),en P "locals" 35 (.builtin "locals"),en P "max" 36 (.builtin "max"),en P "min" 37 (.builtin "min"),en P "next" 38 (.builtin "next"),en P "anext" 39 (.builtin "anext"),en P "oct" 40 (.builtin "oct"),en P "ord" 41 (.builtin "ord"),en P "pow" 42 (.builtin "pow"),en P "print" 43 (.builtin "print"),en P "repr" 44 (.builtin "repr"),en P "round" 45 (.builtin "round"),en P "setattr" 46 (.builtin "setattr"),en P "sorted" 47 (.builtin "sorted"),en P "sum" 48 (.builtin "sum"),en P "vars" 49 (.builtin "vars"),en P "None" 50 .none,en P "Ellipsis" 51 .ellipsis,en P "NotImplemented" 52 .notImplemented,en P "False" 53 (.bool false),en P "True" 54 (.bool true),en P "bool" 55 (.type "bool"),en P "memoryview" 56 (.type "memoryview"),en P "bytearray" 57 (.type "bytearray"),en P "bytes" 58 (.type "bytes"),en P "classmethod" 59 (.type "classmethod"),en P "complex" 60 (.type "complex"),en P "dict" 61 (.type "dict"),en P "enumerate" 62 (.type "enumerate"),en P "filter" 63 (.type "filter"),en P "float" 64 (.type "float"),en P "frozenset" 65 (.type "frozenset"),en P "property" 66 (.type "property"),en P "int" 67 (.type "int"),en P "list" 68 (.type "list"),en P "map" 69 (.type "map"),en P "object" 70 (.type "object"),en P "range" 71 (.type "range"),en P "reversed" 72 (.type "reversed"),en P "set" 73 (.type "set"),en P "slice" 74 (.type "slice"),en P "staticmethod" 75 (.type "staticmethod"),en P "str" 76 (.type "str"),en P "super" 77 (.type "super"),en P "tuple" 78 (.type "tuple"),en P "type" 79 (.type "type"),en P "zip" 80 (.type "zip"),en P "__debug__" 81 (.bool true),en P "BaseException" 82 (.type "BaseException"),en P "BaseExceptionGroup" 83 (.type "BaseExceptionGroup"),en P "Exception" 84 (.type "Exception"),en P "GeneratorExit" 85 (.type "GeneratorExit"),en P "KeyboardInterrupt" 86 (.type "KeyboardInterrupt"),en P "SystemExit" 87 (.type "SystemExit"),en P "ArithmeticError" 88 (.type "ArithmeticError"),en P "AssertionError" 89 (.type "AssertionError"),en P "AttributeError" 90 (.type "AttributeError"),en P "BufferError" 91 (.type "BufferError"),en P "EOFError" 92 (.type "EOFError"),en P "ImportError" 93 (.type "ImportError"),en P "LookupError" 94 (.type "LookupError"),en P "MemoryError" 95 (.type "MemoryError"),en P "NameError" 96 (.type "NameError"),en P "OSError" 97 (.type "OSError"),en P "ReferenceError" 98 (.type "ReferenceError"),en P "RuntimeError" 99 (.type "RuntimeError"),en P "StopAsyncIteration" 100 (.type "StopAsyncIteration"),en P "StopIteration" 101 (.type "StopIteration"),en P "SyntaxError" 102 (.type "SyntaxError"),en P "SystemError" 103 (.type "SystemError"),en P "TypeError" 104 (.type "TypeError"),en P "ValueError" 105 (.type "ValueError"),en P "Warning" 106 (.type "Warning"),en P "FloatingPointError" 107 (.type "FloatingPointError"),en P "OverflowError" 108 (.type "OverflowError"),en P "ZeroDivisionError" 109 (.type "ZeroDivisionError"),en P "BytesWarning" 110 (.type "BytesWarning"),en P "DeprecationWarning" 111 (.type "DeprecationWarning"),en P "EncodingWarning" 112 (.type "EncodingWarning"),en P "FutureWarning" 113 (.type "FutureWarning"),en P "ImportWarning" 114 (.type "ImportWarning"),en P "PendingDeprecationWarning" 115 (.type "PendingDeprecationWarning"),en P "ResourceWarning" 116 (.type "ResourceWarning"),en P "RuntimeWarning" 117 (.type "RuntimeWarning"),en P "SyntaxWarning" 118 (.type "SyntaxWarning"),en P "UnicodeWarning" 119 (.type "UnicodeWarning"),en P "UserWarning" 120 (.type "UserWarning"),en P "BlockingIOError" 121 (.type "BlockingIOError"),en P "ChildProcessError" 122 (.type "ChildProcessError"),en P "ConnectionError" 123 (.type "ConnectionError"),en P "FileExistsError" 124 (.type "FileExistsError"),en P "FileNotFoundError" 125 (.type "FileNotFoundError"),en P "InterruptedError" 126 (.type "InterruptedError"),en P "IsADirectoryError" 127 (.type "IsADirectoryError"),en P "NotADirectoryError" 128 (.type "NotADirectoryError"),en P "PermissionError" 129 (.type "PermissionError"),en P "ProcessLookupError" 130 (.type "ProcessLookupError"),en P "TimeoutError" 131 (.type "TimeoutError"),en P "IndentationError" 132 (.type "IndentationError"),en P "_IncompleteInputError" 133 (.type "_IncompleteInputError"),en P "IndexError" 134 (.type "IndexError"),en P "KeyError" 135 (.type "KeyError"),en P "ModuleNotFoundError" 136 (.type "ModuleNotFoundError"),en P "NotImplementedError" 137 (.type "NotImplementedError"),en P "PythonFinalizationError" 138 (.type "PythonFinalizationError"),en P "RecursionError" 139 (.type "RecursionError"),en P "UnboundLocalError" 140 (.type "UnboundLocalError"),en P "UnicodeError" 141 (.type "UnicodeError"),en P "BrokenPipeError" 142 (.type "BrokenPipeError"),en P "ConnectionAbortedError" 143 (.type "ConnectionAbortedError"),en P "ConnectionRefusedError" 144 (.type "ConnectionRefusedError"),en P "ConnectionResetError" 145 (.type "ConnectionResetError"),en P "TabError" 146 (.type "TabError"),en P "UnicodeDecodeError" 147 (.type "UnicodeDecodeError"),en P "UnicodeEncodeError" 148 (.type "UnicodeEncodeError"),en P "UnicodeTranslateError" 149 (.type "UnicodeTranslateError"),en P "ExceptionGroup" 150 (.type "ExceptionGroup"),en P "EnvironmentError" 151 (.type "OSError"),en P "IOError" 152 (.type "OSError"),en P "open" 153 (.builtin "open"),en P "quit" 154 (.builtin "builtins.quit#opaque"),en P "exit" 155 (.builtin "builtins.exit#opaque"),en P "copyright" 156 (.builtin "builtins.copyright#opaque"),en P "credits" 157 (.builtin "builtins.credits#opaque"),en P "license" 158 (.builtin "builtins.license#opaque"),en P "help" 159 (.builtin "builtins.help#opaque")] 159, #[]⟩
noncomputable def RV(P:Params):Obj:=⟨.type "dict",none,.dict #[en P "builtins" 162 (.ref 4),en P "__main__" 163 (.ref 5)] 2, #[]⟩
noncomputable def B4(P:Params):Obj:=⟨.none,none,(.dict #[] 0), #[]⟩
noncomputable def PC(P:Params):List DictEntry:=[en P "__doc__" 166 .none,en P "__package__" 167 .none,en P "__loader__" 168 (.builtin "__main__.__loader__#opaque"),en P "__spec__" 169 .none,en P "__annotations__" 170 (.ref 6),en P "__builtins__" 171 (.ref 4),en P "__file__" 173 (cp 172),en P "__cached__" 174 .none]
noncomputable def PD(P:Params):Obj:=⟨.type "dict",none,.dict (en P "__name__" 165 (.str "__main__" 164)::PC P).toArray 9, #[]⟩
noncomputable def x4(P:Params):Obj:=⟨(.type "module"),(some 0),.plain, #[]⟩
noncomputable def RW(P:Params):Obj:=⟨(.type "module"),(some 3),.plain, #[]⟩
noncomputable def RX(P:Params):Obj:=⟨.type "dict",none,.dict #[] 0, #[]⟩
noncomputable def RY(P:Params):Obj:=⟨.type "tuple",none,.seq #[] 0, #[]⟩
noncomputable def RZ(P:Params):Obj:=⟨.none,none,(.fields #[]), #[]⟩
noncomputable def Sa(P:Params):Obj:=cO "<module>" 176 "<module>" 177 178 1 0 0 0 0 7 false 175 (.ref 8) .none .none .none 179 1 180
noncomputable def PE(P:Params):Obj:=⟨(.type "frame"),none,.plain, #[some (.ref 9),some (.ref 3),some (.ref 3),none,some (.str "__main__" 164),none,some (.ref 0)]⟩
noncomputable def PF(P:Params):Obj:=⟨.type "tuple",none,.seq #[] 0, #[]⟩
noncomputable def Gm(P:Params):List Value:=[]
noncomputable def Gn(P:Params):Obj:=⟨.none,none,(.fields (Gm P).toArray), #[]⟩
noncomputable def u6(P:Params):Obj:=cO "<module>" 182 "<module>" 183 184 1 0 0 0 0 11 false 181 (.ref 12) .none .none .none 185 1 186
noncomputable def PG(P:Params):Obj:=⟨(.type "frame"),none,.plain, #[some (.ref 13),some (.ref 3),some (.ref 3),none,some (.str "__main__" 164),none,some (.ref 0)]⟩
noncomputable def PH(P:Params):List DictEntry:=PC P++[en P "_wall" 193 (.ref 21),en P "PressError" 223 (.ref 39),en P "CutShort" 239 (.ref 52),en P "BadBlock" 255 (.ref 64),en P "BadSymbol" 271 (.ref 76),en P "BadDistance" 287 (.ref 88),en P "BadHeader" 303 (.ref 100)]
noncomputable def PJ(P:Params):Obj:=⟨.type "dict",none,.dict (en P "__name__" 165 (.str "threepress.errors" 194)::PH P).toArray 16, #[]⟩
noncomputable def Go(P:Params):List Value:=Gm P++[(.int 1 0),(.int 0 0),(.ref 20),(.int 5 0),(.int 0 0),(.ref 27),(.int 10 0),(.int 0 0),(.ref 48),(.int 12 0),(.int 0 0),(.ref 60),(.int 14 0),(.int 0 0),(.ref 72),(.int 16 0),(.int 0 0),(.ref 84),(.int 18 0),(.int 0 0),(.ref 96)]
noncomputable def Gp(P:Params):Obj:=⟨.none,none,(.fields (Go P).toArray), #[]⟩
noncomputable def wY(P:Params):Obj:=⟨.type "tuple",none,.seq #[(.str "" 208)] 0, #[]⟩
noncomputable def Bu(P:Params):Obj:=cO "__init__" 209 "PressError.__init__" 210 211 7 2 0 0 3 30 true 181 (.ref 31) (.ref 32) (.ref 33) (.ref 34) 214 7 215
noncomputable def Bv(P:Params):Obj:=fO (me 2 0) "PressError.__init__" (.ref 29) .none (.str "threepress.errors" 194) (.ref 35)
noncomputable def dS(P:Params):Obj:=⟨.type "dict",none,.dict #[en P "__module__" 203 (.str "threepress.errors" 194),en P "__firstlineno__" 207 (.int (5) 206),en P "__init__" 216 (.ref 36),en P "__static_attributes__" 218 (.ref 37),en P "__weakref__" 220 (.ref 40),en P "__doc__" 221 .none] 3, #[]⟩
noncomputable def Gq(P:Params):Obj:=⟨.type "type",none,(.cls { name:= "PressError",bases:=[(.type "ValueError")],mro:=[(.ref 39),(.type "ValueError"),(.type "Exception"),(.type "BaseException"),(.type "object")],ns:=38,qualname:= "PressError",hasDict:=true,slotNames:=[],subclasses:=[(.ref 52),(.ref 64),(.ref 76),(.ref 88),(.ref 100)],abstract:=false,collection:=none,hasDel:=false }), #[some (.ref 22),none,some (.str "PressError" 196),some (.str "PressError" 204),some (.builtin "ValueError.__new__"),some (.bool true)]⟩
noncomputable def Bw(P:Params):Obj:=⟨.type "dict",none,.dict #[en P "__module__" 247 (.str "threepress.errors" 194),en P "__firstlineno__" 251 (.int (12) 250),en P "__static_attributes__" 252 (.ref 62),en P "__doc__" 253 .none] 2, #[]⟩
noncomputable def Bx(P:Params):Obj:=⟨.type "type",none,(.cls { name:= "BadBlock",bases:=[(.ref 39)],mro:=[(.ref 64),(.ref 39),(.type "ValueError"),(.type "Exception"),(.type "BaseException"),(.type "object")],ns:=63,qualname:= "BadBlock",hasDict:=true,slotNames:=[],subclasses:=[],abstract:=false,collection:=none,hasDel:=false }), #[some (.ref 55),none,some (.str "BadBlock" 240),some (.str "BadBlock" 248),some (.builtin "ValueError.__new__"),some (.bool true)]⟩
noncomputable def By(P:Params):Obj:=⟨.type "dict",none,.dict #[en P "__module__" 295 (.str "threepress.errors" 194),en P "__firstlineno__" 299 (.int (18) 298),en P "__static_attributes__" 300 (.ref 98),en P "__doc__" 301 .none] 2, #[]⟩
noncomputable def sB(P:Params):Obj:=⟨.type "type",none,(.cls { name:= "BadHeader",bases:=[(.ref 39)],mro:=[(.ref 100),(.ref 39),(.type "ValueError"),(.type "Exception"),(.type "BaseException"),(.type "object")],ns:=99,qualname:= "BadHeader",hasDict:=true,slotNames:=[],subclasses:=[],abstract:=false,collection:=none,hasDel:=false }), #[some (.ref 91),none,some (.str "BadHeader" 288),some (.str "BadHeader" 296),some (.builtin "ValueError.__new__"),some (.bool true)]⟩
noncomputable def PK(P:Params):List DictEntry:=PH P++[en P "BadTable" 319 (.ref 112),en P "BadSequence" 335 (.ref 124),en P "Trailing" 351 (.ref 136),en P "Unsupported" 367 (.ref 148),en P "BadArgument" 383 (.ref 160),en P "BadCheck" 412 (.ref 179)]
noncomputable def PL(P:Params):Obj:=⟨.type "dict",none,.dict (en P "__name__" 165 (.str "threepress.errors" 194)::PK P).toArray 22, #[]⟩
noncomputable def Gr(P:Params):List Value:=Go P++[(.int 20 0),(.int 0 0),(.ref 108),(.int 22 0),(.int 0 0),(.ref 120),(.int 24 0),(.int 0 0),(.ref 132),(.int 26 0),(.int 0 0),(.ref 144),(.int 28 0),(.int 0 0),(.ref 156),(.int 30 0),(.int 0 0),(.ref 168)]
noncomputable def Gs(P:Params):Obj:=⟨.none,none,(.fields (Gr P).toArray), #[]⟩
noncomputable def Gu(P:Params):Obj:=⟨.type "type",none,(.cls { name:= "PressError",bases:=[(.type "ValueError")],mro:=[(.ref 39),(.type "ValueError"),(.type "Exception"),(.type "BaseException"),(.type "object")],ns:=38,qualname:= "PressError",hasDict:=true,slotNames:=[],subclasses:=[(.ref 52),(.ref 64),(.ref 76),(.ref 88),(.ref 100),(.ref 112),(.ref 124),(.ref 136),(.ref 148),(.ref 160),(.ref 179)],abstract:=false,collection:=none,hasDel:=false }), #[some (.ref 22),none,some (.str "PressError" 196),some (.str "PressError" 204),some (.builtin "ValueError.__new__"),some (.bool true)]⟩
noncomputable def sC(P:Params):Obj:=⟨.type "dict",none,.dict #[en P "__module__" 343 (.str "threepress.errors" 194),en P "__firstlineno__" 347 (.int (24) 346),en P "__static_attributes__" 348 (.ref 134),en P "__doc__" 349 .none] 2, #[]⟩
noncomputable def sD(P:Params):Obj:=⟨.type "type",none,(.cls { name:= "Trailing",bases:=[(.ref 39)],mro:=[(.ref 136),(.ref 39),(.type "ValueError"),(.type "Exception"),(.type "BaseException"),(.type "object")],ns:=135,qualname:= "Trailing",hasDict:=true,slotNames:=[],subclasses:=[],abstract:=false,collection:=none,hasDel:=false }), #[some (.ref 127),none,some (.str "Trailing" 336),some (.str "Trailing" 344),some (.builtin "ValueError.__new__"),some (.bool true)]⟩
noncomputable def sE(P:Params):Obj:=cO "__init__" 396 "BadCheck.__init__" 397 398 32 4 0 0 3 170 true 181 (.ref 171) (.ref 172) (.ref 173) (.ref 174) 403 32 404
noncomputable def sF(P:Params):Obj:=fO (me 13 0) "BadCheck.__init__" .none .none (.str "threepress.errors" 194) (.ref 175)
noncomputable def sG(P:Params):Obj:=⟨.type "dict",none,.dict #[en P "__module__" 391 (.str "threepress.errors" 194),en P "__firstlineno__" 395 (.int (30) 394),en P "__init__" 405 (.ref 176),en P "__static_attributes__" 409 (.ref 177),en P "__doc__" 410 .none] 2, #[]⟩
noncomputable def sH(P:Params):Obj:=⟨.type "type",none,(.cls { name:= "BadCheck",bases:=[(.ref 39)],mro:=[(.ref 179),(.ref 39),(.type "ValueError"),(.type "Exception"),(.type "BaseException"),(.type "object")],ns:=178,qualname:= "BadCheck",hasDict:=true,slotNames:=[],subclasses:=[],abstract:=false,collection:=none,hasDel:=false }), #[some (.ref 163),none,some (.str "BadCheck" 384),some (.str "BadCheck" 392),some (.builtin "ValueError.__new__"),some (.bool true)]⟩
noncomputable def PM(P:Params):List DictEntry:=PK P++[en P "BadSize" 441 (.ref 198),en P "NeedsDictionary" 466 (.ref 217),en P "WrongDictionary" 493 (.ref 236),en P "TooLarge" 522 (.ref 255),en P "need_count" 531 (.ref 264),en P "need_value" 539 (.ref 271),en P "end_of" 549 (.ref 278),en P "from_little" 559 (.ref 285),en P "little" 565 (.ref 290),en P "gathered" 579 (.ref 297)]
noncomputable def PN(P:Params):Obj:=⟨.type "dict",none,.dict (en P "__name__" 165 (.str "threepress.bits" 523)::PM P).toArray 32, #[]⟩
noncomputable def Gv(P:Params):List Value:=Gr P++[(.int 37 0),(.int 0 0),(.ref 187),(.int 44 0),(.int 0 0),(.ref 206),(.int 49 0),(.int 0 0),(.ref 225),(.int 55 0),(.int 0 0),(.ref 244),(.int 63 0),(.int 0 0),(.ref 263),(.int 66 0),(.int 0 0),(.ref 270),(.int 70 0),(.int 0 0),(.ref 277),(.int 75 0),(.int 0 0),(.ref 284),(.int 80 0),(.int 0 0),(.ref 289),(.int 83 0),(.int 0 0),(.ref 296)]
noncomputable def Gw(P:Params):Obj:=⟨.none,none,(.fields (Gv P).toArray), #[]⟩
noncomputable def Bz(P:Params):Obj:=⟨.type "type",none,(.cls { name:= "PressError",bases:=[(.type "ValueError")],mro:=[(.ref 39),(.type "ValueError"),(.type "Exception"),(.type "BaseException"),(.type "object")],ns:=38,qualname:= "PressError",hasDict:=true,slotNames:=[],subclasses:=[(.ref 52),(.ref 64),(.ref 76),(.ref 88),(.ref 100),(.ref 112),(.ref 124),(.ref 136),(.ref 148),(.ref 160),(.ref 179),(.ref 198),(.ref 217),(.ref 236),(.ref 255)],abstract:=false,collection:=none,hasDel:=false }), #[some (.ref 22),none,some (.str "PressError" 196),some (.str "PressError" 204),some (.builtin "ValueError.__new__"),some (.bool true)]⟩
noncomputable def sI(P:Params):Obj:=cO "__init__" 425 "BadSize.__init__" 426 427 39 4 0 0 3 189 true 181 (.ref 190) (.ref 191) (.ref 192) (.ref 193) 432 39 433
noncomputable def sJ(P:Params):Obj:=fO (me 14 0) "BadSize.__init__" .none .none (.str "threepress.errors" 194) (.ref 194)
noncomputable def sK(P:Params):Obj:=⟨.type "dict",none,.dict #[en P "__module__" 420 (.str "threepress.errors" 194),en P "__firstlineno__" 424 (.int (37) 423),en P "__init__" 434 (.ref 195),en P "__static_attributes__" 438 (.ref 196),en P "__doc__" 439 .none] 2, #[]⟩
noncomputable def sL(P:Params):Obj:=⟨.type "type",none,(.cls { name:= "BadSize",bases:=[(.ref 39)],mro:=[(.ref 198),(.ref 39),(.type "ValueError"),(.type "Exception"),(.type "BaseException"),(.type "object")],ns:=197,qualname:= "BadSize",hasDict:=true,slotNames:=[],subclasses:=[],abstract:=false,collection:=none,hasDel:=false }), #[some (.ref 182),none,some (.str "BadSize" 413),some (.str "BadSize" 421),some (.builtin "ValueError.__new__"),some (.bool true)]⟩
noncomputable def sM(P:Params):Obj:=cO "__init__" 454 "NeedsDictionary.__init__" 455 456 46 2 0 0 3 208 true 181 (.ref 209) (.ref 210) (.ref 211) (.ref 212) 459 46 460
noncomputable def sN(P:Params):Obj:=fO (me 15 0) "NeedsDictionary.__init__" .none .none (.str "threepress.errors" 194) (.ref 213)
noncomputable def sO(P:Params):Obj:=⟨.type "dict",none,.dict #[en P "__module__" 449 (.str "threepress.errors" 194),en P "__firstlineno__" 453 (.int (44) 452),en P "__init__" 461 (.ref 214),en P "__static_attributes__" 463 (.ref 215),en P "__doc__" 464 .none] 2, #[]⟩
noncomputable def sP(P:Params):Obj:=⟨.type "type",none,(.cls { name:= "NeedsDictionary",bases:=[(.ref 39)],mro:=[(.ref 217),(.ref 39),(.type "ValueError"),(.type "Exception"),(.type "BaseException"),(.type "object")],ns:=216,qualname:= "NeedsDictionary",hasDict:=true,slotNames:=[],subclasses:=[],abstract:=false,collection:=none,hasDel:=false }), #[some (.ref 201),none,some (.str "NeedsDictionary" 442),some (.str "NeedsDictionary" 450),some (.builtin "ValueError.__new__"),some (.bool true)]⟩
noncomputable def sQ(P:Params):Obj:=cO "__init__" 506 "TooLarge.__init__" 507 508 57 4 0 0 3 246 true 181 (.ref 247) (.ref 248) (.ref 249) (.ref 250) 513 57 514
noncomputable def sR(P:Params):Obj:=fO (me 17 0) "TooLarge.__init__" .none .none (.str "threepress.errors" 194) (.ref 251)
noncomputable def sS(P:Params):Obj:=⟨.type "dict",none,.dict #[en P "__module__" 501 (.str "threepress.errors" 194),en P "__firstlineno__" 505 (.int (55) 504),en P "__init__" 515 (.ref 252),en P "__static_attributes__" 519 (.ref 253),en P "__doc__" 520 .none] 2, #[]⟩
noncomputable def sT(P:Params):Obj:=⟨.type "type",none,(.cls { name:= "TooLarge",bases:=[(.ref 39)],mro:=[(.ref 255),(.ref 39),(.type "ValueError"),(.type "Exception"),(.type "BaseException"),(.type "object")],ns:=254,qualname:= "TooLarge",hasDict:=true,slotNames:=[],subclasses:=[],abstract:=false,collection:=none,hasDel:=false }), #[some (.ref 239),none,some (.str "TooLarge" 494),some (.str "TooLarge" 502),some (.builtin "ValueError.__new__"),some (.bool true)]⟩
noncomputable def sU(P:Params):Obj:=cO "need_count" 525 "need_count" 526 527 63 1 0 0 3 258 true 181 (.ref 259) (.ref 260) (.ref 261) (.ref 262) 529 63 530
noncomputable def sV(P:Params):Obj:=fO (st 19) "need_count" .none .none (.str "threepress.bits" 523) (.ref 263)
noncomputable def sW(P:Params):Obj:=cO "end_of" 540 "end_of" 541 542 70 3 0 0 3 272 true 181 (.ref 273) (.ref 274) (.ref 275) (.ref 276) 547 70 548
noncomputable def sX(P:Params):Obj:=fO (st 21) "end_of" .none .none (.str "threepress.bits" 523) (.ref 277)
noncomputable def sY(P:Params):Obj:=cO "from_little" 550 "from_little" 551 552 75 1 0 0 3 279 true 181 (.ref 280) (.ref 281) (.ref 282) (.ref 283) 557 75 558
noncomputable def sZ(P:Params):Obj:=fO (st 22) "from_little" .none .none (.str "threepress.bits" 523) (.ref 284)
noncomputable def PO(P:Params):List DictEntry:=PM P++[en P "BackReader" 643 (.ref 342),en P "Octets" 738 (.ref 420),en P "MOST_64" 746 (.int (18446744073709551615) 745),en P "low_first" 757 (.ref 431),en P "left_turned" 767 (.ref 438),en P "XxHash64" 853 (.ref 484),en P "xxh64" 863 (.ref 496),en P "LEAST_LOG_fse" 867 (.int (5) 866),en P "MOST_LOG" 869 (.int (20) 868),en P "places_of" 876 (.ref 503),en P "high_bit" 883 (.ref 510),en P "counts_fault" 889 (.ref 515)]
noncomputable def PP(P:Params):Obj:=⟨.type "dict",none,.dict (en P "__name__" 165 (.str "threepress.fse" 864)::PO P).toArray 44, #[]⟩
noncomputable def Gx(P:Params):List Value:=Gv P++[(.int 91 0),(.int 0 0),(.ref 303),(.int 119 0),(.int 0 0),(.ref 352),(.int 156 0),(.int 0 0),(.ref 430),(.int 161 0),(.int 0 0),(.ref 437),(.int 164 0),(.int 0 0),(.ref 444),(.int 219 0),(.int 0 0),(.ref 495),(.int 226 0),(.int 0 0),(.ref 502),(.int 228 0),(.int 0 0),(.ref 509),(.int 230 0),(.int 0 0),(.ref 514)]
noncomputable def Gy(P:Params):Obj:=⟨.none,none,(.fields (Gx P).toArray), #[]⟩
noncomputable def jC(P:Params):Obj:=⟨.type "tuple",none,.seq #[(.int (0) 656),.none] 0, #[]⟩
noncomputable def tA(P:Params):Obj:=cO "__init__" 657 "Octets.__init__" 658 659 121 4 0 0 3 355 true 181 (.ref 356) (.ref 357) (.ref 358) (.ref 359) 664 121 665
noncomputable def tB(P:Params):Obj:=fO (me 26 0) "Octets.__init__" (.ref 354) .none (.str "threepress.bits" 523) (.ref 360)
noncomputable def tC(P:Params):Obj:=cO "left" 667 "Octets.left" 668 669 126 1 0 0 3 362 true 181 (.ref 363) (.ref 364) (.ref 365) (.ref 366) 671 126 672
noncomputable def tD(P:Params):Obj:=fO (me 26 1) "Octets.left" .none .none (.str "threepress.bits" 523) (.ref 367)
noncomputable def tE(P:Params):Obj:=cO "take" 682 "Octets.take" 683 684 133 2 0 0 3 376 true 181 (.ref 377) (.ref 378) (.ref 379) (.ref 380) 687 133 688
noncomputable def tF(P:Params):Obj:=fO (me 26 3) "Octets.take" .none .none (.str "threepress.bits" 523) (.ref 381)
noncomputable def tG(P:Params):Obj:=cO "octet" 698 "Octets.octet" 699 700 143 1 0 0 3 390 true 181 (.ref 391) (.ref 392) (.ref 393) (.ref 394) 702 143 703
noncomputable def tH(P:Params):Obj:=fO (me 26 5) "Octets.octet" .none .none (.str "threepress.bits" 523) (.ref 395)
noncomputable def tI(P:Params):Obj:=cO "little" 705 "Octets.little" 706 707 146 2 0 0 3 397 true 181 (.ref 398) (.ref 399) (.ref 400) (.ref 401) 710 146 711
noncomputable def tJ(P:Params):Obj:=fO (me 26 6) "Octets.little" .none .none (.str "threepress.bits" 523) (.ref 402)
noncomputable def tK(P:Params):Obj:=⟨.type "dict",none,.dict #[en P "__module__" 651 (.str "threepress.bits" 523),en P "__firstlineno__" 655 (.int (119) 654),en P "__init__" 666 (.ref 361),en P "left" 673 (.ref 368),en P "ahead" 681 (.ref 375),en P "take" 689 (.ref 382),en P "skip" 697 (.ref 389),en P "octet" 704 (.ref 396),en P "little" 712 (.ref 403),en P "big" 720 (.ref 410),en P "rest" 727 (.ref 417),en P "__static_attributes__" 731 (.ref 418),en P "__dict__" 733 (.ref 421),en P "__weakref__" 735 (.ref 422),en P "__doc__" 736 .none] 4, #[]⟩
noncomputable def tL(P:Params):Obj:=⟨.type "type",none,(.cls { name:= "Octets",bases:=[(.type "object")],mro:=[(.ref 420),(.type "object")],ns:=419,qualname:= "Octets",hasDict:=true,slotNames:=[],subclasses:=[],abstract:=false,collection:=none,hasDel:=false }), #[none,none,some (.str "Octets" 644),some (.str "Octets" 652),some (.builtin "object.__new__"),some (.bool true)]⟩
noncomputable def tM(P:Params):Obj:=cO "low_first" 747 "low_first" 748 749 156 3 0 0 3 425 true 181 (.ref 426) (.ref 427) (.ref 428) (.ref 429) 755 156 756
noncomputable def tO(P:Params):Obj:=fO (st 29) "low_first" .none .none (.str "threepress.checks" 739) (.ref 430)
noncomputable def tP(P:Params):Obj:=cO "left_turned" 758 "left_turned" 759 760 161 3 0 0 3 432 true 181 (.ref 433) (.ref 434) (.ref 435) (.ref 436) 765 161 766
noncomputable def tQ(P:Params):Obj:=fO (st 30) "left_turned" .none .none (.str "threepress.checks" 739) (.ref 437)
noncomputable def jD(P:Params):Obj:=⟨.type "tuple",none,.seq #[(.int (0) 792)] 0, #[]⟩
noncomputable def tR(P:Params):Obj:=cO "__init__" 793 "XxHash64.__init__" 794 795 172 2 0 0 3 447 true 181 (.ref 448) (.ref 449) (.ref 450) (.ref 451) 799 172 800
noncomputable def tS(P:Params):Obj:=fO (me 31 6) "XxHash64.__init__" (.ref 446) .none (.str "threepress.checks" 739) (.ref 452)
noncomputable def tT(P:Params):Obj:=cO "feed" 802 "XxHash64.feed" 803 804 179 2 0 0 3 454 true 181 (.ref 455) (.ref 456) (.ref 457) (.ref 458) 809 179 810
noncomputable def tU(P:Params):Obj:=fO (me 31 7) "XxHash64.feed" .none .none (.str "threepress.checks" 739) (.ref 459)
noncomputable def tV(P:Params):Obj:=cO "mixed" 812 "XxHash64.mixed" 813 814 189 3 0 0 3 461 true 181 (.ref 462) (.ref 463) (.ref 464) (.ref 465) 818 189 819
noncomputable def tW(P:Params):Obj:=fO (me 31 8) "XxHash64.mixed" .none .none (.str "threepress.checks" 739) (.ref 466)
noncomputable def tX(P:Params):Obj:=cO "whole" 821 "XxHash64.whole" 822 823 193 1 0 0 3 468 true 181 (.ref 469) (.ref 470) (.ref 471) (.ref 472) 828 193 829
noncomputable def tY(P:Params):Obj:=fO (me 31 9) "XxHash64.whole" .none .none (.str "threepress.checks" 739) (.ref 473)
noncomputable def tZ(P:Params):Obj:=cO "value" 831 "XxHash64.value" 832 833 203 1 0 0 3 475 true 181 (.ref 476) (.ref 477) (.ref 478) (.ref 479) 839 203 840
noncomputable def uA(P:Params):Obj:=fO (me 31 10) "XxHash64.value" .none .none (.str "threepress.checks" 739) (.ref 480)
noncomputable def uB(P:Params):Obj:=⟨.type "dict",none,.dict #[en P "__module__" 775 (.str "threepress.checks" 739),en P "__firstlineno__" 779 (.int (164) 778),en P "PIECE" 781 (.int (32) 780),en P "ONE" 783 (.int (11400714785074694791) 782),en P "TWO" 785 (.int (14029467366897019727) 784),en P "THREE" 787 (.int (1609587929392839161) 786),en P "FOUR" 789 (.int (9650029242287828579) 788),en P "FIVE" 791 (.int (2870177450012600261) 790),en P "__init__" 801 (.ref 453),en P "feed" 811 (.ref 460),en P "mixed" 820 (.ref 467),en P "whole" 830 (.ref 474),en P "value" 841 (.ref 481),en P "__static_attributes__" 846 (.ref 482),en P "__dict__" 848 (.ref 485),en P "__weakref__" 850 (.ref 486),en P "__doc__" 851 .none] 4, #[]⟩
noncomputable def uC(P:Params):Obj:=⟨.type "type",none,(.cls { name:= "XxHash64",bases:=[(.type "object")],mro:=[(.ref 484),(.type "object")],ns:=483,qualname:= "XxHash64",hasDict:=true,slotNames:=[],subclasses:=[],abstract:=false,collection:=none,hasDel:=false }), #[none,none,some (.str "XxHash64" 768),some (.str "XxHash64" 776),some (.builtin "object.__new__"),some (.bool true)]⟩
noncomputable def jE(P:Params):Obj:=⟨.type "tuple",none,.seq #[(.int (0) 854)] 0, #[]⟩
noncomputable def uD(P:Params):Obj:=cO "xxh64" 855 "xxh64" 856 857 219 2 0 0 3 490 true 181 (.ref 491) (.ref 492) (.ref 493) (.ref 494) 861 219 862
noncomputable def uE(P:Params):Obj:=fO (st 32) "xxh64" (.ref 489) .none (.str "threepress.checks" 739) (.ref 495)
noncomputable def PQ(P:Params):List DictEntry:=PO P++[en P "spread" 895 (.ref 520),en P "FseTable" 956 (.ref 556),en P "RleTable" 1013 (.ref 596),en P "CountBits" 1074 (.ref 638),en P "read_counts" 1080 (.ref 647),en P "FseReader" 1140 (.ref 692),en P "LONGEST" 1144 (.int (11) 1143),en P "MOST_SYMBOLS" 1146 (.int (256) 1145),en P "WEIGHT_LOGS" 1149 (.ref 697),en P "MOST_PACKED" 1151 (.int (127) 1150),en P "LEAST_FOUR" 1153 (.int (6) 1152),en P "JUMP" 1155 (.int (6) 1154),en P "used_symbols" 1161 (.ref 702),en P "check_code" 1171 (.ref 709)]
noncomputable def PR(P:Params):Obj:=⟨.type "dict",none,.dict (en P "__name__" 165 (.str "threepress.zhuff" 1141)::PQ P).toArray 58, #[]⟩
noncomputable def Gz(P:Params):List Value:=Gx P++[(.int 238 0),(.int 0 0),(.ref 519),(.int 256 0),(.int 0 0),(.ref 526),(.int 283 0),(.int 0 0),(.ref 566),(.int 298 0),(.int 0 0),(.ref 606),(.int 329 0),(.int 0 0),(.ref 646),(.int 344 0),(.int 0 0),(.ref 653),(.int 367 0),(.int 0 0),(.ref 701),(.int 369 0),(.int 0 0),(.ref 708)]
noncomputable def GA(P:Params):Obj:=⟨.none,none,(.fields (Gz P).toArray), #[]⟩
noncomputable def PS(P:Params):List DictEntry:=PQ P++[en P "lengths_of" 1177 (.ref 714),en P "HuffTable" 1252 (.ref 764),en P "unpack_fours" 1263 (.ref 775),en P "unpack_states" 1279 (.ref 782),en P "read_table" 1289 (.ref 789),en P "read_table_zhuff" 1290 (.ref 789),en P "decode_stream" 1302 (.ref 796),en P "four_parts" 1310 (.ref 803),en P "decode_four" 1316 (.ref 808),en P "RAW_zlits" 1320 (.int (0) 1319),en P "RLE" 1322 (.int (1) 1321),en P "COMPRESSED" 1324 (.int (2) 1323),en P "TREELESS" 1326 (.int (3) 1325),en P "LEAST_FOR_FOUR" 1328 (.int (6) 1327),en P "PLAIN_BITS" 1332 (.ref 809),en P "CODED_BITS" 1337 (.ref 810),en P "LiteralsHead" 1396 (.ref 849),en P "plain_form" 1405 (.ref 860),en P "plain_head" 1416 (.ref 868),en P "coded_form" 1428 (.ref 875),en P "coded_head" 1442 (.ref 883),en P "read_head" 1452 (.ref 890),en P "read_plain_head" 1463 (.ref 897),en P "read_coded_head" 1477 (.ref 904),en P "read_literals" 1487 (.ref 911),en P "read_coded" 1500 (.ref 918),en P "PREDEFINED" 1504 (.int (0) 1503),en P "SINGLE" 1506 (.int (1) 1505),en P "DESCRIBED" 1508 (.int (2) 1507),en P "MOST_OFFSET_CODE" 1510 (.int (31) 1509),en P "MANY_ROWS" 1512 (.int (32512) 1511),en P "rows_from" 1523 (.ref 925),en P "literal_extras" 1529 (.ref 932),en P "match_extras" 1535 (.ref 939)]
noncomputable def PT(P:Params):Obj:=⟨.type "dict",none,.dict (en P "__name__" 165 (.str "threepress.zseq" 1501)::PS P).toArray 92, #[]⟩
noncomputable def GB(P:Params):List Value:=Gz P++[(.int 385 0),(.int 0 0),(.ref 713),(.int 406 0),(.int 0 0),(.ref 720),(.int 448 0),(.int 0 0),(.ref 774),(.int 454 0),(.int 0 0),(.ref 781),(.int 481 0),(.int 0 0),(.ref 788),(.int 490 0),(.int 0 0),(.ref 795),(.int 500 0),(.int 0 0),(.ref 802),(.int 505 0),(.int 0 0),(.ref 807),(.int 526 0),(.int 0 0),(.ref 816),(.int 553 0),(.int 0 0),(.ref 859),(.int 558 0),(.int 0 0),(.ref 867),(.int 566 0),(.int 0 0),(.ref 874),(.int 573 0),(.int 0 0),(.ref 882),(.int 582 0),(.int 0 0),(.ref 889),(.int 588 0),(.int 0 0),(.ref 896),(.int 596 0),(.int 0 0),(.ref 903),(.int 601 0),(.int 0 0),(.ref 910),(.int 609 0),(.int 0 0),(.ref 917),(.int 626 0),(.int 0 0),(.ref 924),(.int 632 0),(.int 0 0),(.ref 931),(.int 634 0),(.int 0 0),(.ref 938)]
noncomputable def GD(P:Params):Obj:=⟨.none,none,(.fields (GB P).toArray), #[]⟩
noncomputable def BA(P:Params):Obj:=cO "rows_from" 1513 "rows_from" 1514 1515 626 2 0 0 3 919 true 181 (.ref 920) (.ref 921) (.ref 922) (.ref 923) 1521 626 1522
noncomputable def BB(P:Params):Obj:=fO (st 87) "rows_from" .none .none (.str "threepress.zseq" 1501) (.ref 924)
noncomputable def BC(P:Params):Obj:=cO "literal_extras" 1524 "literal_extras" 1525 1526 632 0 0 0 3 926 true 181 (.ref 927) (.ref 928) (.ref 929) (.ref 930) 1527 632 1528
noncomputable def BD(P:Params):Obj:=fO (st 88) "literal_extras" .none .none (.str "threepress.zseq" 1501) (.ref 931)
noncomputable def BE(P:Params):Obj:=cO "match_extras" 1530 "match_extras" 1531 1532 634 0 0 0 3 933 true 181 (.ref 934) (.ref 935) (.ref 936) (.ref 937) 1533 634 1534
noncomputable def BF(P:Params):Obj:=fO (st 89) "match_extras" .none .none (.str "threepress.zseq" 1501) (.ref 938)
noncomputable def PU(P:Params):List DictEntry:=PS P++[en P "Rows" 2063 (.ref 1084)]
noncomputable def PV(P:Params):Obj:=⟨.type "dict",none,.dict (en P "__name__" 165 (.str "threepress.zseq" 1501)::PU P).toArray 93, #[]⟩
noncomputable def GE(P:Params):List Value:=GB P++[(.int 636 0),(.int 0 0),(.ref 945)]
noncomputable def GF(P:Params):Obj:=⟨.none,none,(.fields (GE P).toArray), #[]⟩
noncomputable def PW(P:Params):List DictEntry:=PU P++[en P "code_in" 2077 (.ref 1095),en P "value_in" 2089 (.ref 1102),en P "ll_code" 2096 (.ref 1109),en P "ll_value" 2104 (.ref 1116),en P "ml_code" 2111 (.ref 1123),en P "ml_value" 2119 (.ref 1130),en P "of_code" 2127 (.ref 1137),en P "of_value" 2135 (.ref 1144),en P "Alphabet" 2199 (.ref 1182),en P "LITERAL_COUNTS" 2215 (.ref 1204),en P "LITERALS" 2240 (.ref 1206),en P "OFFSETS" 2273 (.ref 1220)]
noncomputable def PX(P:Params):Obj:=⟨.type "dict",none,.dict (en P "__name__" 165 (.str "threepress.zseq" 1501)::PW P).toArray 105, #[]⟩
noncomputable def GG(P:Params):List Value:=GE P++[(.int 639 0),(.int 0 0),(.ref 1094),(.int 650 0),(.int 0 0),(.ref 1101),(.int 657 0),(.int 0 0),(.ref 1108),(.int 659 0),(.int 0 0),(.ref 1115),(.int 661 0),(.int 0 0),(.ref 1122),(.int 663 0),(.int 0 0),(.ref 1129),(.int 665 0),(.int 0 0),(.ref 1136),(.int 670 0),(.int 0 0),(.ref 1143),(.int 676 0),(.int 0 0),(.ref 1150)]
noncomputable def GH(P:Params):Obj:=⟨.none,none,(.fields (GG P).toArray), #[]⟩
noncomputable def wZ(P:Params):Obj:=cO "__init__" 2148 "Alphabet.__init__" 2149 2150 678 7 0 0 3 1152 true 181 (.ref 1153) (.ref 1154) (.ref 1155) (.ref 1156) 2158 678 2159
noncomputable def xA(P:Params):Obj:=fO (me 99 0) "Alphabet.__init__" .none .none (.str "threepress.zseq" 1501) (.ref 1157)
noncomputable def xB(P:Params):Obj:=⟨.type "dict",none,.dict #[en P "__module__" 2143 (.str "threepress.zseq" 1501),en P "__firstlineno__" 2147 (.int (676) 2146),en P "__init__" 2160 (.ref 1158),en P "extra_count" 2168 (.ref 1165),en P "value" 2177 (.ref 1172),en P "code" 2185 (.ref 1179),en P "__static_attributes__" 2192 (.ref 1180),en P "__dict__" 2194 (.ref 1183),en P "__weakref__" 2196 (.ref 1184),en P "__doc__" 2197 .none] 4, #[]⟩
noncomputable def xC(P:Params):Obj:=⟨.type "type",none,(.cls { name:= "Alphabet",bases:=[(.type "object")],mro:=[(.ref 1182),(.type "object")],ns:=1181,qualname:= "Alphabet",hasDict:=true,slotNames:=[],subclasses:=[],abstract:=false,collection:=none,hasDel:=false }), #[none,none,some (.str "Alphabet" 2136),some (.str "Alphabet" 2144),some (.builtin "object.__new__"),some (.bool true)]⟩
noncomputable def PY(P:Params):List DictEntry:=(PW P).set 61 (en P "read_table" 1289 (.ref 1306))++[en P "MATCHES" 2308 (.ref 1233),en P "KINDS" 2309 (.ref 1235),en P "Tables" 2375 (.ref 1281),en P "read_count" 2383 (.ref 1292),en P "described" 2393 (.ref 1299),en P "read_table_zseq" 2405 (.ref 1306),en P "read_rows" 2423 (.ref 1313),en P "read_sequences" 2437 (.ref 1321),en P "Offsets" 2528 (.ref 1381),en P "FRAME_MAGIC" 2532 (.int (4247762216) 2531),en P "SKIP_MAGIC" 2534 (.int (407710288) 2533),en P "OLDEST_MAGIC" 2536 (.int (4247762206) 2535),en P "FIRST_LEGACY" 2538 (.int (4247762210) 2537),en P "LAST_LEGACY" 2540 (.int (4247762215) 2539),en P "MOST_BLOCK" 2542 (.int (131072) 2541),en P "LEAST_LOG_zframe" 2544 (.int (10) 2543),en P "RAW_zframe" 2546 (.int (0) 2545),en P "RUN" 2548 (.int (1) 2547),en P "RESERVED" 2550 (.int (3) 2549),en P "IDENT_COUNTS" 2555 (.ref 1386)]
noncomputable def PZ(P:Params):Obj:=⟨.type "dict",none,.dict (en P "__name__" 165 (.str "threepress.zframe" 2529)::PY P).toArray 125, #[]⟩
noncomputable def GI(P:Params):List Value:=GG P++[(.int 705 0),(.int 0 0),(.ref 1241),(.int 730 0),(.int 0 0),(.ref 1291),(.int 737 0),(.int 0 0),(.ref 1298),(.int 740 0),(.int 0 0),(.ref 1305),(.int 754 0),(.int 0 0),(.ref 1312),(.int 777 0),(.int 0 0),(.ref 1320),(.int 794 0),(.int 0 0),(.ref 1327)]
noncomputable def GJ(P:Params):Obj:=⟨.none,none,(.fields (GI P).toArray), #[]⟩
noncomputable def cX(P:Params):Obj:=⟨.type "tuple",none,.seq #[.none,.none,.none] 0, #[]⟩
noncomputable def jF(P:Params):Obj:=cO "__init__" 2322 "Tables.__init__" 2323 2324 707 4 0 0 3 1244 true 181 (.ref 1245) (.ref 1246) (.ref 1247) (.ref 1248) 2329 707 2330
noncomputable def jG(P:Params):Obj:=fO (me 105 0) "Tables.__init__" (.ref 1243) .none (.str "threepress.zseq" 1501) (.ref 1249)
noncomputable def jH(P:Params):Obj:=⟨.type "dict",none,.dict #[en P "__module__" 2317 (.str "threepress.zseq" 1501),en P "__firstlineno__" 2321 (.int (705) 2320),en P "__init__" 2331 (.ref 1250),en P "held" 2339 (.ref 1257),en P "put" 2347 (.ref 1264),en P "predefined" 2355 (.ref 1271),en P "copy" 2363 (.ref 1278),en P "__static_attributes__" 2368 (.ref 1279),en P "__dict__" 2370 (.ref 1282),en P "__weakref__" 2372 (.ref 1283),en P "__doc__" 2373 .none] 4, #[]⟩
noncomputable def jI(P:Params):Obj:=⟨.type "type",none,(.cls { name:= "Tables",bases:=[(.type "object")],mro:=[(.ref 1281),(.type "object")],ns:=1280,qualname:= "Tables",hasDict:=true,slotNames:=[],subclasses:=[],abstract:=false,collection:=none,hasDel:=false }), #[none,none,some (.str "Tables" 2310),some (.str "Tables" 2318),some (.builtin "object.__new__"),some (.bool true)]⟩
noncomputable def cZ(P:Params):Obj:=⟨.type "tuple",none,.seq #[(.int (1) 2450),(.int (4) 2451),(.int (8) 2452)] 0, #[]⟩
noncomputable def jJ(P:Params):Obj:=cO "__init__" 2453 "Offsets.__init__" 2454 2455 796 4 0 0 3 1330 true 181 (.ref 1331) (.ref 1332) (.ref 1333) (.ref 1334) 2460 796 2461
noncomputable def jK(P:Params):Obj:=fO (me 112 0) "Offsets.__init__" (.ref 1329) .none (.str "threepress.zseq" 1501) (.ref 1335)
noncomputable def jL(P:Params):Obj:=⟨.type "dict",none,.dict #[en P "__module__" 2445 (.str "threepress.zseq" 1501),en P "__firstlineno__" 2449 (.int (794) 2448),en P "__init__" 2462 (.ref 1336),en P "row" 2469 (.ref 1343),en P "copy" 2476 (.ref 1350),en P "told_by" 2486 (.ref 1357),en P "move" 2495 (.ref 1364),en P "distance" 2506 (.ref 1371),en P "value" 2517 (.ref 1378),en P "__static_attributes__" 2521 (.ref 1379),en P "__dict__" 2523 (.ref 1382),en P "__weakref__" 2525 (.ref 1383),en P "__doc__" 2526 .none] 4, #[]⟩
noncomputable def jM(P:Params):Obj:=⟨.type "type",none,(.cls { name:= "Offsets",bases:=[(.type "object")],mro:=[(.ref 1381),(.type "object")],ns:=1380,qualname:= "Offsets",hasDict:=true,slotNames:=[],subclasses:=[],abstract:=false,collection:=none,hasDel:=false }), #[none,none,some (.str "Offsets" 2438),some (.str "Offsets" 2446),some (.builtin "object.__new__"),some (.bool true)]⟩
noncomputable def jN(P:Params):Obj:=⟨.type "tuple",none,.seq #[(.int (0) 2551),(.int (1) 2552),(.int (2) 2553),(.int (4) 2554)] 0, #[]⟩
noncomputable def GK(P:Params):List DictEntry:=PY P++[en P "window_of" 2563 (.ref 1393),en P "FrameHeader" 2608 (.ref 1418),en P "is_skip_magic" 2615 (.ref 1429),en P "check_magic" 2622 (.ref 1436),en P "field_counts" 2631 (.ref 1443),en P "read_header" 2646 (.ref 1450),en P "BlockHead" 2679 (.ref 1467),en P "read_block_head" 2687 (.ref 1478),en P "pick_dictionary" 2696 (.ref 1485),en P "FrameState" 2820 (.ref 1560),en P "next_magic" 2830 (.ref 1571)]
noncomputable def GL(P:Params):Obj:=⟨.type "dict",none,.dict (en P "__name__" 165 (.str "threepress.zframe" 2529)::GK P).toArray 136, #[]⟩
noncomputable def BG(P:Params):List Value:=GI P++[(.int 853 0),(.int 0 0),(.ref 1392),(.int 856 0),(.int 0 0),(.ref 1399),(.int 867 0),(.int 0 0),(.ref 1428),(.int 869 0),(.int 0 0),(.ref 1435),(.int 874 0),(.int 0 0),(.ref 1442),(.int 880 0),(.int 0 0),(.ref 1449),(.int 899 0),(.int 0 0),(.ref 1456),(.int 905 0),(.int 0 0),(.ref 1477),(.int 908 0),(.int 0 0),(.ref 1484),(.int 917 0),(.int 0 0),(.ref 1491),(.int 1005 0),(.int 0 0),(.ref 1570)]
noncomputable def BH(P:Params):Obj:=⟨.none,none,(.fields (BG P).toArray), #[]⟩
noncomputable def jO(P:Params):Obj:=cO "window_of" 2556 "window_of" 2557 2558 853 1 0 0 3 1387 true 181 (.ref 1388) (.ref 1389) (.ref 1390) (.ref 1391) 2561 853 2562
noncomputable def jP(P:Params):Obj:=fO (st 125) "window_of" .none .none (.str "threepress.zframe" 2529) (.ref 1392)
noncomputable def dA(P:Params):Obj:=⟨.type "tuple",none,.seq #[.none,(.int (0) 2576),(.bool false),(.bool false)] 0, #[]⟩
noncomputable def jQ(P:Params):Obj:=cO "__init__" 2577 "FrameHeader.__init__" 2578 2579 858 6 0 0 3 1402 true 181 (.ref 1403) (.ref 1404) (.ref 1405) (.ref 1406) 2586 858 2587
noncomputable def jR(P:Params):Obj:=fO (me 126 0) "FrameHeader.__init__" (.ref 1401) .none (.str "threepress.zframe" 2529) (.ref 1407)
noncomputable def jS(P:Params):Obj:=⟨.type "dict",none,.dict #[en P "__module__" 2571 (.str "threepress.zframe" 2529),en P "__firstlineno__" 2575 (.int (856) 2574),en P "__init__" 2588 (.ref 1408),en P "told" 2595 (.ref 1415),en P "__static_attributes__" 2601 (.ref 1416),en P "__dict__" 2603 (.ref 1419),en P "__weakref__" 2605 (.ref 1420),en P "__doc__" 2606 .none] 4, #[]⟩
noncomputable def jT(P:Params):Obj:=⟨.type "type",none,(.cls { name:= "FrameHeader",bases:=[(.type "object")],mro:=[(.ref 1418),(.type "object")],ns:=1417,qualname:= "FrameHeader",hasDict:=true,slotNames:=[],subclasses:=[],abstract:=false,collection:=none,hasDel:=false }), #[none,none,some (.str "FrameHeader" 2564),some (.str "FrameHeader" 2572),some (.builtin "object.__new__"),some (.bool true)]⟩
noncomputable def jU(P:Params):Obj:=cO "is_skip_magic" 2609 "is_skip_magic" 2610 2611 867 1 0 0 3 1423 true 181 (.ref 1424) (.ref 1425) (.ref 1426) (.ref 1427) 2613 867 2614
noncomputable def jV(P:Params):Obj:=fO (st 127) "is_skip_magic" .none .none (.str "threepress.zframe" 2529) (.ref 1428)
noncomputable def jW(P:Params):Obj:=cO "check_magic" 2616 "check_magic" 2617 2618 869 1 0 0 3 1430 true 181 (.ref 1431) (.ref 1432) (.ref 1433) (.ref 1434) 2620 869 2621
noncomputable def jX(P:Params):Obj:=fO (st 128) "check_magic" .none .none (.str "threepress.zframe" 2529) (.ref 1435)
noncomputable def jY(P:Params):Obj:=cO "field_counts" 2623 "field_counts" 2624 2625 874 1 0 0 3 1437 true 181 (.ref 1438) (.ref 1439) (.ref 1440) (.ref 1441) 2629 874 2630
noncomputable def jZ(P:Params):Obj:=fO (st 129) "field_counts" .none .none (.str "threepress.zframe" 2529) (.ref 1442)
noncomputable def kB(P:Params):Obj:=cO "read_header" 2632 "read_header" 2633 2634 880 1 0 0 3 1444 true 181 (.ref 1445) (.ref 1446) (.ref 1447) (.ref 1448) 2644 880 2645
noncomputable def kC(P:Params):Obj:=fO (st 130) "read_header" .none .none (.str "threepress.zframe" 2529) (.ref 1449)
noncomputable def kE(P:Params):Obj:=cO "__init__" 2659 "BlockHead.__init__" 2660 2661 901 4 0 0 3 1458 true 181 (.ref 1459) (.ref 1460) (.ref 1461) (.ref 1462) 2666 901 2667
noncomputable def kF(P:Params):Obj:=fO (me 131 0) "BlockHead.__init__" .none .none (.str "threepress.zframe" 2529) (.ref 1463)
noncomputable def kG(P:Params):Obj:=⟨.type "dict",none,.dict #[en P "__module__" 2654 (.str "threepress.zframe" 2529),en P "__firstlineno__" 2658 (.int (899) 2657),en P "__init__" 2668 (.ref 1464),en P "__static_attributes__" 2672 (.ref 1465),en P "__dict__" 2674 (.ref 1468),en P "__weakref__" 2676 (.ref 1469),en P "__doc__" 2677 .none] 4, #[]⟩
noncomputable def kH(P:Params):Obj:=⟨.type "type",none,(.cls { name:= "BlockHead",bases:=[(.type "object")],mro:=[(.ref 1467),(.type "object")],ns:=1466,qualname:= "BlockHead",hasDict:=true,slotNames:=[],subclasses:=[],abstract:=false,collection:=none,hasDel:=false }), #[none,none,some (.str "BlockHead" 2647),some (.str "BlockHead" 2655),some (.builtin "object.__new__"),some (.bool true)]⟩
noncomputable def kJ(P:Params):Obj:=cO "read_block_head" 2680 "read_block_head" 2681 2682 905 1 0 0 3 1472 true 181 (.ref 1473) (.ref 1474) (.ref 1475) (.ref 1476) 2685 905 2686
noncomputable def kM(P:Params):Obj:=fO (st 132) "read_block_head" .none .none (.str "threepress.zframe" 2529) (.ref 1477)
noncomputable def kO(P:Params):Obj:=cO "pick_dictionary" 2688 "pick_dictionary" 2689 2690 908 2 0 0 3 1479 true 181 (.ref 1480) (.ref 1481) (.ref 1482) (.ref 1483) 2694 908 2695
noncomputable def kP(P:Params):Obj:=fO (st 133) "pick_dictionary" .none .none (.str "threepress.zframe" 2529) (.ref 1484)
noncomputable def dB(P:Params):Obj:=⟨.type "tuple",none,.seq #[(.ref 1493),(.int (8388608) 2711),(.int (131072) 2541)] 0, #[]⟩
noncomputable def kQ(P:Params):Obj:=cO "__init__" 2712 "FrameState.__init__" 2713 2714 919 5 0 0 3 1495 true 181 (.ref 1496) (.ref 1497) (.ref 1498) (.ref 1499) 2721 919 2722
noncomputable def kS(P:Params):Obj:=fO (me 134 0) "FrameState.__init__" (.ref 1494) .none (.str "threepress.zframe" 2529) (.ref 1500)
noncomputable def kU(P:Params):Obj:=cO "content_count" 2735 "FrameState.content_count" 2736 2737 941 2 0 0 3 1509 true 181 (.ref 1510) (.ref 1511) (.ref 1512) (.ref 1513) 2740 941 2741
noncomputable def kX(P:Params):Obj:=fO (me 134 2) "FrameState.content_count" .none .none (.str "threepress.zframe" 2529) (.ref 1514)
noncomputable def kY(P:Params):Obj:=cO "block" 2743 "FrameState.block" 2744 2745 948 3 0 0 3 1516 true 181 (.ref 1517) (.ref 1518) (.ref 1519) (.ref 1520) 2750 948 2751
noncomputable def kZ(P:Params):Obj:=fO (me 134 3) "FrameState.block" .none .none (.str "threepress.zframe" 2529) (.ref 1521)
noncomputable def lA(P:Params):Obj:=cO "close" 2790 "FrameState.close" 2791 2792 997 1 0 0 3 1544 true 181 (.ref 1545) (.ref 1546) (.ref 1547) (.ref 1548) 2794 997 2795
noncomputable def lB(P:Params):Obj:=fO (me 134 7) "FrameState.close" .none .none (.str "threepress.zframe" 2529) (.ref 1549)
noncomputable def lC(P:Params):Obj:=cO "check" 2797 "FrameState.check" 2798 2799 1001 2 0 0 3 1551 true 181 (.ref 1552) (.ref 1553) (.ref 1554) (.ref 1555) 2803 1001 2804
noncomputable def lD(P:Params):Obj:=fO (me 134 8) "FrameState.check" .none .none (.str "threepress.zframe" 2529) (.ref 1556)
noncomputable def lE(P:Params):Obj:=⟨.type "dict",none,.dict #[en P "__module__" 2704 (.str "threepress.zframe" 2529),en P "__firstlineno__" 2708 (.int (917) 2707),en P "__init__" 2723 (.ref 1501),en P "begin_with" 2734 (.ref 1508),en P "content_count" 2742 (.ref 1515),en P "block" 2752 (.ref 1522),en P "packed" 2762 (.ref 1529),en P "play" 2777 (.ref 1536),en P "copy" 2789 (.ref 1543),en P "close" 2796 (.ref 1550),en P "check" 2805 (.ref 1557),en P "__static_attributes__" 2813 (.ref 1558),en P "__dict__" 2815 (.ref 1561),en P "__weakref__" 2817 (.ref 1562),en P "__doc__" 2818 .none] 4, #[]⟩
noncomputable def lF(P:Params):Obj:=⟨.type "type",none,(.cls { name:= "FrameState",bases:=[(.type "object")],mro:=[(.ref 1560),(.type "object")],ns:=1559,qualname:= "FrameState",hasDict:=true,slotNames:=[],subclasses:=[],abstract:=false,collection:=none,hasDel:=false }), #[none,none,some (.str "FrameState" 2697),some (.str "FrameState" 2705),some (.builtin "object.__new__"),some (.bool true)]⟩
noncomputable def lG(P:Params):Obj:=cO "next_magic" 2821 "next_magic" 2822 2823 1005 2 0 0 3 1565 true 181 (.ref 1566) (.ref 1567) (.ref 1568) (.ref 1569) 2828 1005 2829
noncomputable def lH(P:Params):Obj:=fO (st 135) "next_magic" .none .none (.str "threepress.zframe" 2529) (.ref 1570)
noncomputable def Qa(P:Params):List DictEntry:=GK P++[en P "StreamReader" 2946 (.ref 1646),en P "_law_ones" 2954 (.ref 1651),en P "_law_purse" 2963 (.ref 1658),en P "_law_coin" 2972 (.ref 1665),en P "_law_turned" 2980 (.ref 1672),en P "_law_sum" 2996 (.ref 1679),en P "_law_low" 3002 (.ref 1684),en P "_law_head" 3012 (.ref 1691),en P "_law_block" 3021 (.ref 1698),en P "_law_frame" 3027 (.ref 1703),en P "_law_spoilt" 3033 (.ref 1708),en P "_law_fed" 3045 (.ref 1715),en P "_law_refusal" 3053 (.ref 1722),en P "law" 3074 (.ref 1729)]
noncomputable def iD(P:Params):Obj:=⟨.type "dict",none,.dict (en P "__name__" 165 (.str "law_pq1227_01" 2947)::Qa P).toArray 150, #[]⟩
noncomputable def HJ(P:Params):List Value:=BG P++[(.int 1016 0),(.int 0 0),(.ref 1577),(.int 1129 0),(.int 0 0),(.ref 1657),(.int 1134 0),(.int 0 0),(.ref 1664),(.int 1140 0),(.int 0 0),(.ref 1671),(.int 1143 0),(.int 0 0),(.ref 1678),(.int 1159 0),(.int 0 0),(.ref 1683),(.int 1161 0),(.int 0 0),(.ref 1690),(.int 1166 0),(.int 0 0),(.ref 1697),(.int 1169 0),(.int 0 0),(.ref 1702),(.int 1177 0),(.int 0 0),(.ref 1707),(.int 1194 0),(.int 0 0),(.ref 1714),(.int 1200 0),(.int 0 0),(.ref 1721),(.int 1206 0),(.int 0 0),(.ref 1728)]
noncomputable def uF(P:Params):Obj:=⟨.none,none,(.fields (HJ P).toArray), #[]⟩
noncomputable def lI(P:Params):Obj:=⟨.type "tuple",none,.seq #[] 0, #[]⟩
noncomputable def dC(P:Params):Obj:=⟨.type "tuple",none,.seq #[(.ref 1579),(.int (8388608) 2845),(.int (131072) 2541)] 0, #[]⟩
noncomputable def lJ(P:Params):Obj:=cO "__init__" 2846 "StreamReader.__init__" 2847 2848 1018 4 0 0 3 1581 true 181 (.ref 1582) (.ref 1583) (.ref 1584) (.ref 1585) 2853 1018 2854
noncomputable def lK(P:Params):Obj:=fO (me 136 0) "StreamReader.__init__" (.ref 1580) .none (.str "threepress.zframe" 2529) (.ref 1586)
noncomputable def lL(P:Params):Obj:=cO "feed" 2856 "StreamReader.feed" 2857 2858 1031 2 0 0 3 1588 true 181 (.ref 1589) (.ref 1590) (.ref 1591) (.ref 1592) 2863 1031 2864
noncomputable def lM(P:Params):Obj:=fO (me 136 1) "StreamReader.feed" .none .none (.str "threepress.zframe" 2529) (.ref 1593)
noncomputable def lN(P:Params):Obj:=cO "finish" 2866 "StreamReader.finish" 2867 2868 1045 1 0 0 3 1595 true 181 (.ref 1596) (.ref 1597) (.ref 1598) (.ref 1599) 2871 1045 2872
noncomputable def lO(P:Params):Obj:=fO (me 136 2) "StreamReader.finish" .none .none (.str "threepress.zframe" 2529) (.ref 1600)
noncomputable def lP(P:Params):Obj:=cO "taken" 2874 "StreamReader.taken" 2875 2876 1056 2 0 0 3 1602 true 181 (.ref 1603) (.ref 1604) (.ref 1605) (.ref 1606) 2880 1056 2881
noncomputable def lQ(P:Params):Obj:=fO (me 136 3) "StreamReader.taken" .none .none (.str "threepress.zframe" 2529) (.ref 1607)
noncomputable def lR(P:Params):Obj:=cO "step" 2883 "StreamReader.step" 2884 2885 1061 1 0 0 3 1609 true 181 (.ref 1610) (.ref 1611) (.ref 1612) (.ref 1613) 2887 1061 2888
noncomputable def lS(P:Params):Obj:=fO (me 136 4) "StreamReader.step" .none .none (.str "threepress.zframe" 2529) (.ref 1614)
noncomputable def lT(P:Params):Obj:=cO "begin" 2898 "StreamReader.begin" 2899 2900 1084 1 0 0 3 1623 true 181 (.ref 1624) (.ref 1625) (.ref 1626) (.ref 1627) 2909 1084 2910
noncomputable def lU(P:Params):Obj:=fO (me 136 6) "StreamReader.begin" .none .none (.str "threepress.zframe" 2529) (.ref 1628)
noncomputable def lV(P:Params):Obj:=cO "block" 2912 "StreamReader.block" 2913 2914 1106 1 0 0 3 1630 true 181 (.ref 1631) (.ref 1632) (.ref 1633) (.ref 1634) 2918 1106 2919
noncomputable def lW(P:Params):Obj:=fO (me 136 7) "StreamReader.block" .none .none (.str "threepress.zframe" 2529) (.ref 1635)
noncomputable def lX(P:Params):Obj:=cO "close" 2921 "StreamReader.close" 2922 2923 1118 1 0 0 3 1637 true 181 (.ref 1638) (.ref 1639) (.ref 1640) (.ref 1641) 2925 1118 2926
noncomputable def lY(P:Params):Obj:=fO (me 136 8) "StreamReader.close" .none .none (.str "threepress.zframe" 2529) (.ref 1642)
noncomputable def lZ(P:Params):Obj:=⟨.type "dict",none,.dict #[en P "__module__" 2838 (.str "threepress.zframe" 2529),en P "__firstlineno__" 2842 (.int (1016) 2841),en P "__init__" 2855 (.ref 1587),en P "feed" 2865 (.ref 1594),en P "finish" 2873 (.ref 1601),en P "taken" 2882 (.ref 1608),en P "step" 2889 (.ref 1615),en P "skip" 2897 (.ref 1622),en P "begin" 2911 (.ref 1629),en P "block" 2920 (.ref 1636),en P "close" 2927 (.ref 1643),en P "__static_attributes__" 2939 (.ref 1644),en P "__dict__" 2941 (.ref 1647),en P "__weakref__" 2943 (.ref 1648),en P "__doc__" 2944 .none] 4, #[]⟩
noncomputable def mB(P:Params):Obj:=⟨.type "type",none,(.cls { name:= "StreamReader",bases:=[(.type "object")],mro:=[(.ref 1646),(.type "object")],ns:=1645,qualname:= "StreamReader",hasDict:=true,slotNames:=[],subclasses:=[],abstract:=false,collection:=none,hasDel:=false }), #[none,none,some (.str "StreamReader" 2831),some (.str "StreamReader" 2839),some (.builtin "object.__new__"),some (.bool true)]⟩
noncomputable def mC(P:Params):Obj:=⟨.type "tuple",none,.seq #[(.int (11400714785074694791) 2949),(.int (14029467366897019727) 2950),(.int (1609587929392839161) 2951),(.int (9650029242287828579) 2952),(.int (2870177450012600261) 2953)] 0, #[]⟩
noncomputable def mD(P:Params):Obj:=cO "_law_purse" 2955 "_law_purse" 2956 2957 1129 1 0 0 3 1652 true 181 (.ref 1653) (.ref 1654) (.ref 1655) (.ref 1656) 2961 1129 2962
noncomputable def mE(P:Params):Obj:=fO (st 139) "_law_purse" .none .none (.str "law_pq1227_01" 2947) (.ref 1657)
noncomputable def mF(P:Params):Obj:=cO "_law_coin" 2964 "_law_coin" 2965 2966 1134 2 0 0 3 1659 true 181 (.ref 1660) (.ref 1661) (.ref 1662) (.ref 1663) 2970 1134 2971
noncomputable def mG(P:Params):Obj:=fO (st 140) "_law_coin" .none .none (.str "law_pq1227_01" 2947) (.ref 1664)
noncomputable def mH(P:Params):Obj:=cO "_law_turned" 2973 "_law_turned" 2974 2975 1140 2 0 0 3 1666 true 181 (.ref 1667) (.ref 1668) (.ref 1669) (.ref 1670) 2978 1140 2979
noncomputable def mJ(P:Params):Obj:=fO (st 141) "_law_turned" .none .none (.str "law_pq1227_01" 2947) (.ref 1671)
noncomputable def mK(P:Params):Obj:=cO "_law_sum" 2981 "_law_sum" 2982 2983 1143 1 0 0 3 1673 true 181 (.ref 1674) (.ref 1675) (.ref 1676) (.ref 1677) 2994 1143 2995
noncomputable def mL(P:Params):Obj:=fO (st 142) "_law_sum" .none .none (.str "law_pq1227_01" 2947) (.ref 1678)
noncomputable def mM(P:Params):Obj:=cO "_law_low" 2997 "_law_low" 2998 2999 1159 2 0 0 3 1680 true 181 (.ref 1681) .none .none (.ref 1682) 3000 1159 3001
noncomputable def mN(P:Params):Obj:=fO (st 143) "_law_low" .none .none (.str "law_pq1227_01" 2947) (.ref 1683)
noncomputable def mO(P:Params):Obj:=cO "_law_head" 3003 "_law_head" 3004 3005 1161 3 0 0 3 1685 true 181 (.ref 1686) (.ref 1687) (.ref 1688) (.ref 1689) 3010 1161 3011
noncomputable def mP(P:Params):Obj:=fO (st 144) "_law_head" .none .none (.str "law_pq1227_01" 2947) (.ref 1690)
noncomputable def mQ(P:Params):Obj:=cO "_law_block" 3013 "_law_block" 3014 3015 1166 2 0 0 3 1692 true 181 (.ref 1693) (.ref 1694) (.ref 1695) (.ref 1696) 3019 1166 3020
noncomputable def mR(P:Params):Obj:=fO (st 145) "_law_block" .none .none (.str "law_pq1227_01" 2947) (.ref 1697)
noncomputable def mS(P:Params):Obj:=cO "_law_frame" 3022 "_law_frame" 3023 3024 1169 1 0 0 3 1699 true 181 (.ref 1700) .none .none (.ref 1701) 3025 1169 3026
noncomputable def mT(P:Params):Obj:=fO (st 146) "_law_frame" .none .none (.str "law_pq1227_01" 2947) (.ref 1702)
noncomputable def mU(P:Params):Obj:=cO "_law_spoilt" 3028 "_law_spoilt" 3029 3030 1177 2 0 0 3 1704 true 181 (.ref 1705) .none .none (.ref 1706) 3031 1177 3032
noncomputable def mV(P:Params):Obj:=fO (st 147) "_law_spoilt" .none .none (.str "law_pq1227_01" 2947) (.ref 1707)
noncomputable def mW(P:Params):Obj:=cO "_law_fed" 3034 "_law_fed" 3035 3036 1194 3 0 0 3 1709 true 181 (.ref 1710) (.ref 1711) (.ref 1712) (.ref 1713) 3043 1194 3044
noncomputable def mX(P:Params):Obj:=fO (st 148) "_law_fed" .none .none (.str "law_pq1227_01" 2947) (.ref 1714)
noncomputable def mY(P:Params):Obj:=cO "_law_refusal" 3046 "_law_refusal" 3047 3048 1200 1 0 0 3 1716 true 181 (.ref 1717) (.ref 1718) (.ref 1719) (.ref 1720) 3051 1200 3052
noncomputable def mZ(P:Params):Obj:=fO (st 149) "_law_refusal" .none .none (.str "law_pq1227_01" 2947) (.ref 1721)
noncomputable def xD(P:Params):Obj:=⟨.none,none,(.fields #[]), #[]⟩
noncomputable def nA(P:Params):Obj:=cO "law" 3054 "law" 3055 3056 1206 1 0 0 3 1723 true 181 (.ref 1724) (.ref 1725) (.ref 1726) (.ref 1727) 3072 1206 3073
noncomputable def Q3(P:Params):Obj:=fO (st 150) "law" .none .none (.str "law_pq1227_01" 2947) (.ref 1728)
noncomputable def Rt(P:Params):List (Addr×Obj):=[(0,B2 P),(1,RV P),(2,B4 P),(3,PD P),(4,x4 P),(5,RW P),(6,RX P),(7,RY P),(8,RZ P),(9,Sa P),(10,PE P),(11,PF P),(12,Gn P),(13,u6 P),(14,PG P)]
noncomputable def KF(P:Params):List (Addr×Obj):=[(0,B2 P),(2,B4 P),(3,iD P),(4,x4 P),(12,uF P),(13,u6 P),(29,wY P),(35,Bu P),(36,Bv P),(38,dS P),(39,Bz P),(63,Bw P),(64,Bx P),(99,By P),(100,sB P),(135,sC P),(136,sD P),(175,sE P),(176,sF P),(178,sG P),(179,sH P),(194,sI P),(195,sJ P),(197,sK P),(198,sL P),(213,sM P),(214,sN P),(216,sO P),(217,sP P),(251,sQ P),(252,sR P),(254,sS P),(255,sT P),(263,sU P),(264,sV P),(277,sW P),(278,sX P),(284,sY P),(285,sZ P),(354,jC P),(360,tA P),(361,tB P),(367,tC P),(368,tD P),(381,tE P),(382,tF P),(395,tG P),(396,tH P),(402,tI P),(403,tJ P),(419,tK P),(420,tL P),(430,tM P),(431,tO P),(437,tP P),(438,tQ P),(446,jD P),(452,tR P),(453,tS P),(459,tT P),(460,tU P),(466,tV P),(467,tW P),(473,tX P),(474,tY P),(480,tZ P),(481,uA P),(483,uB P),(484,uC P),(489,jE P),(495,uD P),(496,uE P),(1243,cX P),(1249,jF P),(1250,jG P),(1280,jH P),(1281,jI P),(1329,cZ P),(1335,jJ P),(1336,jK P),(1380,jL P),(1381,jM P),(1386,jN P),(1392,jO P),(1393,jP P),(1401,dA P),(1407,jQ P),(1408,jR P),(1417,jS P),(1418,jT P),(1428,jU P),(1429,jV P),(1435,jW P),(1436,jX P),(1442,jY P),(1443,jZ P),(1449,kB P),(1450,kC P),(1463,kE P),(1464,kF P),(1466,kG P),(1467,kH P),(1477,kJ P),(1478,kM P),(1484,kO P),(1485,kP P),(1494,dB P),(1500,kQ P),(1501,kS P),(1514,kU P),(1515,kX P),(1521,kY P),(1522,kZ P),(1549,lA P),(1550,lB P),(1556,lC P),(1557,lD P),(1559,lE P),(1560,lF P),(1570,lG P),(1571,lH P),(1579,lI P),(1580,dC P),(1586,lJ P),(1587,lK P),(1593,lL P),(1594,lM P),(1600,lN P),(1601,lO P),(1607,lP P),(1608,lQ P),(1614,lR P),(1615,lS P),(1628,lT P),(1629,lU P),(1635,lV P),(1636,lW P),(1642,lX P),(1643,lY P),(1645,lZ P),(1646,mB P),(1651,mC P),(1657,mD P),(1658,mE P),(1664,mF P),(1665,mG P),(1671,mH P),(1672,mJ P),(1678,mK P),(1679,mL P),(1683,mM P),(1684,mN P),(1690,mO P),(1691,mP P),(1697,mQ P),(1698,mR P),(1702,mS P),(1703,mT P),(1707,mU P),(1708,mV P),(1714,mW P),(1715,mX P),(1721,mY P),(1722,mZ P),(1724,xD P),(1728,nA P),(1729,Q3 P)]
theorem dT:∀(d a:Nat) (o:Obj),(full d).get a=some o→o=pT
 | 0,_,_,h=>by cases h
 | d+1,a,o,h=>by
  unfold full at h
  rw[BT.get_node] at h
  by_cases h0:a=0
  ·rw[if_pos h0] at h;exact(Option.some.inj h).symm
  ·rw[if_neg h0] at h
   by_cases h1:a%2=1
   ·rw[if_pos h1] at h;exact dT d _ _ h
   ·rw[if_neg h1] at h;exact dT d _ _ h
theorem dU:∀(l:List (Addr×Obj)) {a:Nat}{o:Obj},(jB l).get a=some o→alive o=some o→(a,o)∈l
 | [],a,o,h,ha=>by
  have:=dT 12 a o h
  subst this
  cases ha
 | p::l,a,o,h,ha=>by
  have e:jB (p::l)=(jB l).set p.1 fun _=>p.2:=rfl
  rw[e,BT.get_set] at h
  by_cases hp:a=p.1
  ·rw[if_pos hp] at h
   cases q:(jB l).get p.1 with
   | none=>rw[q] at h;cases h
   | some x=>
    rw[q] at h
    obtain rfl:p.2=o:=Option.some.inj h
    subst hp
    exact .head _
  ·rw[if_neg hp] at h
   exact .tail _ (dU l h ha)
noncomputable def TU(l:List (Addr×Obj)) (a:Addr):Bool:=l.all fun p=> !Nat.beq p.1 a
theorem EG{l:List (Addr×Obj)}{a:Addr}(h:TU l a=true) {o:Obj}:(a,o)∉ l:=fun hm=>by
 have:=List.all_eq_true.mp h _ hm
 rw[show Nat.beq a a=true from Nat.beq_refl a] at this
 cases this
structure At (n t:Nat) (s₀ s:Shared) (F:List (Addr×Obj)):Prop where
 size:s.heap.objs.size=n
 toks:s.toks=t
 life:s.heap.life= {}
 gens:s.gens= #[]
 drawn:s.drawn= {}
 os:s.os=s₀.os
 get:∀p∈F,s.heap.get? p.1=some p.2
theorem At.rel{n t:Nat}{s₀ s:Shared}{F:List (Addr×Obj)}(A:At n t s₀ s F) {L:List (Addr×Obj)}(hL:L.map (fun q=>F.lookup q.1)=L.map fun q=>some q.2):Gl ⟨jB L,n,{}, #[],{},t,s₀.os⟩ s:=by
 refine⟨A.size,A.life,A.gens,A.drawn,A.toks,A.os,fun a o _ hg ha=>?_⟩
 have hm:=dU L hg ha
 have e:F.lookup a=some o:=by
  have:=List.map_inj_left.mp hL (a,o) hm
  exact this
 refine A.get (a,o) ?_
 clear hL hm hg A
 induction F with
 | nil=>cases e
 | cons p F ih=>
  rw[List.lookup_cons] at e
  by_cases hp:(a == p.1)=true
  ·rw[hp] at e
   obtain rfl:p.2=o:=Option.some.inj e
   have:a=p.1:=beq_iff_eq.mp hp
   subst this
   exact .head _
  ·rw[Bool.not_eq_true] at hp
   rw[hp] at e
   exact .tail _ (ih e)
noncomputable def G7(L R F:List (Addr×Obj)):List (Addr×Obj):=R++F.filter fun q=>TU L q.1
noncomputable def xE(n:Nat) (R:List (Addr×Obj)):Bool:=R.all fun q=>Nat.blt q.1 n && !q.2.isFreed
theorem At.next{n t n' t':Nat}{s₀ s:Shared}{F:List (Addr×Obj)}(A:At n t s₀ s F) {L R:List (Addr×Obj)}{S':SharedT}{s':Shared}
  (hR:xE n' R=true) (Rl:Gl S' s') (K:Kept ⟨jB L,n,{}, #[],{},t,s₀.os⟩ s S' s') (e1:S'.n=n') (e2:S'.toks=t') (e3:S'.life= {}) (e4:S'.gens= #[]) (e5:S'.drawn= {}) (e6:S'.os=s₀.os)
  (e7:(R.map (·.1)).map S'.tree.get=R.map fun q=>some q.2):At n' t' s₀ s' (G7 L R F):=by
 refine⟨Rl.size.trans e1,Rl.toks.trans e2,Rl.life.trans e3,Rl.gens.trans e4,Rl.drawn.trans e5,Rl.os.trans e6,fun p hp=>?_⟩
 rcases List.mem_append.mp hp with hp |hp
 ·have h1:=List.all_eq_true.mp hR p hp
  refine oA (Bool.and_eq_true_iff.mp h1) fun h2 h3=>?_
  rw[List.map_map] at e7
  have h4:S'.tree.get p.1=some p.2:=List.map_inj_left.mp e7 p hp
  exact Rl.sub p.1 p.2 (by rw[e1];exact Nat.le_of_ble_eq_true h2) h4 (Bq (by simpa using h3))
 ·refine oA (List.mem_filter.mp hp) fun hp ho=>?_
  have hg:=A.get p hp
  refine K.keep p.1 p.2 ⟨by show p.1<n;rw[← A.size];exact Heap.lt_size hg,fun o ho'=>?_⟩ hg
  cases q:alive o with
  | none=>rfl
  | some o'=>
   refine wT (J7 q) fun zq1 al _=>?_;subst zq1
   exact absurd (dU L ho' al) (EG ho)
theorem yQ{as:List Addr}{r:Flow×SharedT×Code×Pos}{f:Flow}{n t:Nat}{l:Life}{g:Array GenState}{d:Drawn}{os:OsState}{c:Code}{q:Pos}{xs:List (Option Obj)}(h:RU as r=(f,n,t,l,g,d,os,c,q,xs)) :
  r.1=f∧r.2.1.n=n∧r.2.1.toks=t∧r.2.1.life=l∧r.2.1.gens=g∧r.2.1.drawn=d∧r.2.1.os=os∧r.2.2.1=c∧r.2.2.2=q∧as.map r.2.1.tree.get=xs:=by
 simp only[RU,Prod.mk.injEq] at h
 exact h
theorem q0{i m fuel:Nat}{L:Params→List (Addr×Obj)}{n t:Nat}{p:Pos}{R:Params→List (Addr×Obj)}{n' t':Nat}{p':Pos}{w:World}{s₀ s:Shared}{F:List (Addr×Obj)}
  (h:G6 i m fuel L n t p R n' t' p' w) (hR:xE n' (R w.params)=true) (A:At n t s₀ s F) (hL:(L w.params).map (fun q=>F.lookup q.1)=(L w.params).map fun q=>some q.2) :
  ∃s',(∀N r,topRun treeTable pw w 11 (some (.ref 6)) N s' (restOf ((behindTheImports pw).drop (i+m)) sA cM p' [HI])=some r→
    topRun treeTable pw w 11 (some (.ref 6)) (fuel+N) s (restOf ((behindTheImports pw).drop i) sA cM p [HI])=some r)∧At n' t' s₀ s' (G7 (L w.params) (R w.params) F):=by
 have h:=h s₀.os
 refine f9 (Option.map_eq_some_iff.mp h) fun zq1 hr hs=>?_;obtain⟨f,S',c,q⟩:=zq1
 refine dR (yQ hs) fun e0 e1 e2 e3 e4 e5 e6 e7 e8 e9=>?_
 dsimp only at e0 e1 e2 e3 e4 e5 e6 e7 e8 e9
 subst e0 e7 e8
 refine V3 (pS (A.rel hL) hr) fun s' hseg Rl K=>?_
 refine⟨s',fun N r hN=>?_,A.next hR Rl K e1 e2 e3 e4 e5 e6 e9⟩
 have sp:(behindTheImports pw).drop i=RT i m++(behindTheImports pw).drop (i+m):=by
  unfold RT
  rw[← List.drop_drop,List.take_append_drop]
 rw[sp]
 exact piece_app hseg hN
noncomputable def L0(P:Params):List (Addr×Obj):=[(0,B2 P),(2,B4 P),(3,PD P),(4,x4 P),(12,Gn P),(13,u6 P)]
noncomputable def R0(P:Params):List (Addr×Obj):=[(0,B2 P),(2,B4 P),(3,PJ P),(4,x4 P),(12,Gp P),(13,u6 P),(29,wY P),(35,Bu P),(36,Bv P),(38,dS P),(39,Gq P),(63,Bw P),(64,Bx P),(99,By P),(100,sB P)]
theorem HK:∀w,G6 0 8 1324 L0 15 187 ⟨0,0,0,0⟩ R0 103 304 ⟨18,0,19,8⟩ w:=fun w=>p9 fun os=>by kernel_rfl
noncomputable def L1(P:Params):List (Addr×Obj):=[(0,B2 P),(2,B4 P),(3,PJ P),(4,x4 P),(12,Gp P),(13,u6 P),(38,dS P),(39,Gq P)]
noncomputable def R1(P:Params):List (Addr×Obj):=[(0,B2 P),(2,B4 P),(3,PL P),(4,x4 P),(12,Gs P),(13,u6 P),(38,dS P),(39,Gu P),(135,sC P),(136,sD P),(175,sE P),(176,sF P),(178,sG P),(179,sH P)]
theorem HL:∀w,G6 8 6 1315 L1 103 304 ⟨18,0,19,8⟩ R1 182 413 ⟨30,0,36,26⟩ w:=fun w=>p9 fun os=>by kernel_rfl
noncomputable def L2(P:Params):List (Addr×Obj):=[(0,B2 P),(2,B4 P),(3,PL P),(4,x4 P),(12,Gs P),(13,u6 P),(38,dS P),(39,Gu P)]
noncomputable def R2(P:Params):List (Addr×Obj):=[(0,B2 P),(2,B4 P),(3,PN P),(4,x4 P),(12,Gw P),(13,u6 P),(38,dS P),(39,Bz P),(194,sI P),(195,sJ P),(197,sK P),(198,sL P),(213,sM P),(214,sN P),(216,sO P),(217,sP P),(251,sQ P),(252,sR P),(254,sS P),(255,sT P),(263,sU P),(264,sV P),(277,sW P),(278,sX P),(284,sY P),(285,sZ P)]
theorem HM:∀w,G6 14 11 1185 L2 182 413 ⟨30,0,36,26⟩ R2 298 580 ⟨83,0,90,35⟩ w:=fun w=>p9 fun os=>by kernel_rfl
noncomputable def L3(P:Params):List (Addr×Obj):=[(0,B2 P),(2,B4 P),(3,PN P),(4,x4 P),(12,Gw P),(13,u6 P)]
noncomputable def R3(P:Params):List (Addr×Obj):=[(0,B2 P),(2,B4 P),(3,PP P),(4,x4 P),(12,Gy P),(13,u6 P),(354,jC P),(360,tA P),(361,tB P),(367,tC P),(368,tD P),(381,tE P),(382,tF P),(395,tG P),(396,tH P),(402,tI P),(403,tJ P),(419,tK P),(420,tL P),(430,tM P),(431,tO P),(437,tP P),(438,tQ P),(446,jD P),(452,tR P),(453,tS P),(459,tT P),(460,tU P),(466,tV P),(467,tW P),(473,tX P),(474,tY P),(480,tZ P),(481,uA P),(483,uB P),(484,uC P),(489,jE P),(495,uD P),(496,uE P)]
theorem HN:∀w,G6 25 14 1498 L3 298 580 ⟨83,0,90,35⟩ R3 516 890 ⟨230,0,237,15⟩ w:=fun w=>p9 fun os=>by kernel_rfl
noncomputable def L4(P:Params):List (Addr×Obj):=[(0,B2 P),(2,B4 P),(3,PP P),(4,x4 P),(12,Gy P),(13,u6 P)]
noncomputable def R4(P:Params):List (Addr×Obj):=[(0,B2 P),(2,B4 P),(3,PR P),(4,x4 P),(12,GA P),(13,u6 P)]
theorem HO:∀w,G6 39 15 1496 L4 516 890 ⟨230,0,237,15⟩ R4 710 1172 ⟨369,0,384,18⟩ w:=fun w=>p9 fun os=>by kernel_rfl
noncomputable def L5(P:Params):List (Addr×Obj):=[(0,B2 P),(2,B4 P),(3,PR P),(4,x4 P),(12,GA P),(13,u6 P)]
noncomputable def R5(P:Params):List (Addr×Obj):=[(0,B2 P),(2,B4 P),(3,PT P),(4,x4 P),(12,GD P),(13,u6 P),(924,BA P),(925,BB P),(931,BC P),(932,BD P),(938,BE P),(939,BF P)]
theorem HP:∀w,G6 54 36 1469 L5 710 1172 ⟨369,0,384,18⟩ R5 940 1536 ⟨634,0,635,74⟩ w:=fun w=>p9 fun os=>by kernel_rfl
noncomputable def L6(P:Params):List (Addr×Obj):=[(0,B2 P),(2,B4 P),(3,PT P),(4,x4 P),(12,GD P),(13,u6 P),(924,BA P),(925,BB P),(931,BC P),(932,BD P),(938,BE P),(939,BF P)]
noncomputable def R6(P:Params):List (Addr×Obj):=[(0,B2 P),(2,B4 P),(3,PV P),(4,x4 P),(12,GF P),(13,u6 P)]
noncomputable abbrev Sb(w:World):Prop:=Bt 90 1 7004 L6 940 1536 ⟨634,0,635,74⟩ R6 1089 2064 ⟨636,0,638,42⟩ w
theorem p6f(w:World):Sb (w.withFollow "special-get-raises" false):=fun os=>by kernel_rfl
theorem p6t(w:World):Sb (w.withFollow "special-get-raises" true):=fun os=>by kernel_rfl
theorem HQ:∀w,G6 90 1 7004 L6 940 1536 ⟨634,0,635,74⟩ R6 1089 2064 ⟨636,0,638,42⟩ w:=fun w=>p9 (byRow2 "special-get-raises" (P:=Sb) p6f p6t w)
noncomputable def L7(P:Params):List (Addr×Obj):=[(0,B2 P),(2,B4 P),(3,PV P),(4,x4 P),(12,GF P),(13,u6 P)]
noncomputable def R7(P:Params):List (Addr×Obj):=[(0,B2 P),(2,B4 P),(3,PX P),(4,x4 P),(12,GH P),(13,u6 P),(1157,wZ P),(1158,xA P),(1181,xB P),(1182,xC P)]
theorem HR:∀w,G6 91 12 1450 L7 1089 2064 ⟨636,0,638,42⟩ R7 1222 2274 ⟨702,0,702,7⟩ w:=fun w=>p9 fun os=>by kernel_rfl
noncomputable def L8(P:Params):List (Addr×Obj):=[(0,B2 P),(2,B4 P),(3,PX P),(4,x4 P),(12,GH P),(13,u6 P),(1157,wZ P),(1158,xA P),(1181,xB P),(1182,xC P)]
noncomputable def R8(P:Params):List (Addr×Obj):=[(0,B2 P),(2,B4 P),(3,PZ P),(4,x4 P),(12,GJ P),(13,u6 P),(1243,cX P),(1249,jF P),(1250,jG P),(1280,jH P),(1281,jI P),(1329,cZ P),(1335,jJ P),(1336,jK P),(1380,jL P),(1381,jM P),(1386,jN P)]
theorem HS:∀w,G6 103 22 1479 L8 1222 2274 ⟨702,0,702,7⟩ R8 1387 2556 ⟨852,0,852,12⟩ w:=fun w=>p9 fun os=>by kernel_rfl
noncomputable def L9(P:Params):List (Addr×Obj):=[(0,B2 P),(2,B4 P),(3,PZ P),(4,x4 P),(12,GJ P),(13,u6 P)]
noncomputable def R9(P:Params):List (Addr×Obj):=[(0,B2 P),(2,B4 P),(3,GL P),(4,x4 P),(12,BH P),(13,u6 P),(1392,jO P),(1393,jP P),(1401,dA P),(1407,jQ P),(1408,jR P),(1417,jS P),(1418,jT P),(1428,jU P),(1429,jV P),(1435,jW P),(1436,jX P),(1442,jY P),(1443,jZ P),(1449,kB P),(1450,kC P),(1463,kE P),(1464,kF P),(1466,kG P),(1467,kH P),(1477,kJ P),(1478,kM P),(1484,kO P),(1485,kP P),(1494,dB P),(1500,kQ P),(1501,kS P),(1514,kU P),(1515,kX P),(1521,kY P),(1522,kZ P),(1549,lA P),(1550,lB P),(1556,lC P),(1557,lD P),(1559,lE P),(1560,lF P),(1570,lG P),(1571,lH P)]
theorem HT:∀w,G6 125 11 1259 L9 1387 2556 ⟨852,0,852,12⟩ R9 1572 2831 ⟨1005,0,1015,16⟩ w:=fun w=>p9 fun os=>by kernel_rfl
noncomputable def Ru(P:Params):List (Addr×Obj):=[(0,B2 P),(2,B4 P),(3,GL P),(4,x4 P),(12,BH P),(13,u6 P)]
noncomputable def Sd(P:Params):List (Addr×Obj):=[(0,B2 P),(2,B4 P),(3,iD P),(4,x4 P),(12,uF P),(13,u6 P),(1579,lI P),(1580,dC P),(1586,lJ P),(1587,lK P),(1593,lL P),(1594,lM P),(1600,lN P),(1601,lO P),(1607,lP P),(1608,lQ P),(1614,lR P),(1615,lS P),(1628,lT P),(1629,lU P),(1635,lV P),(1636,lW P),(1642,lX P),(1643,lY P),(1645,lZ P),(1646,mB P),(1651,mC P),(1657,mD P),(1658,mE P),(1664,mF P),(1665,mG P),(1671,mH P),(1672,mJ P),(1678,mK P),(1679,mL P),(1683,mM P),(1684,mN P),(1690,mO P),(1691,mP P),(1697,mQ P),(1698,mR P),(1702,mS P),(1703,mT P),(1707,mU P),(1708,mV P),(1714,mW P),(1715,mX P),(1721,mY P),(1722,mZ P),(1724,xD P),(1728,nA P),(1729,Q3 P)]
theorem EH:∀w,G6 136 15 915 Ru 1572 2831 ⟨1005,0,1015,16⟩ Sd 1730 3075 ⟨1206,0,1224,57⟩ w:=fun w=>p9 fun os=>by kernel_rfl
noncomputable def Lb(P:Params):List (Addr×Obj):=[(0,boot_o_0 P),(1,boot_o_1 P),(2,boot_o_2 P),(3,boot_o_3 P),(4,boot_o_4 P),(5,boot_o_5 P),(6,boot_o_6 P),(7,boot_o_7 P),(8,boot_o_8 P),(9,boot_o_9 P),(10,boot_o_10 P)]
noncomputable def thB:Thread:=⟨denote treeTable cM,cM,⟨0,0,0,0⟩,[HI]⟩
noncomputable def Qc(as:List Addr) (r:SharedT×Thread):Nat×Nat×Life×Array GenState×Drawn×OsState×Thread×List (Option Obj):=
 (r.1.n,r.1.toks,r.1.life,r.1.gens,r.1.drawn,r.1.os,r.2,as.map r.1.tree.get)
theorem Se(w:World) (os:OsState):(PB (stepT (denote treeTable) pw w) (stepOk 11 (some (.ref 6))) 12 ⟨jB (Lb w.params),11,{}, #[],{},181,os⟩ (topStub pw)).map (Qc ((Rt w.params).map (·.1))) =
  some (15,187,{}, #[],{},os,thB,(Rt w.params).map fun q=>some q.2):=by kernel_rfl
theorem Sf(P:Params):xE 15 (Rt P)=true:=by kernel_rfl
theorem lkb(P:Params):(Lb P).map (fun q=>(Lb P).lookup q.1)=(Lb P).map fun q=>some q.2:=by kernel_rfl
theorem HU(w:World) (s:Shared):segRun treeTable pw w 11 (some (.ref 6)) 1 1 s (blockOf (behindTheImports pw) sA cM ⟨0,0,0,0⟩ [HI])=some (.next,s,cM,⟨0,0,0,0⟩):=by kernel_rfl
theorem Sg(w:World) (s:Shared) (p:Pos):topRun treeTable pw w 11 (some (.ref 6)) 2 s (restOf [] sA cM p [HI])=some s:=by kernel_rfl
theorem Qd:(behindTheImports pw).drop 151=[]:=by kernel_rfl
noncomputable abbrev F0(P:Params):List (Addr×Obj):=G7 (Lb P) (Rt P) (Lb P)
theorem Sh(P:Params):xE 103 (R0 P)=true:=by kernel_rfl
theorem lk0(P:Params):(L0 P).map (fun q=>(F0 P).lookup q.1)=(L0 P).map fun q=>some q.2:=by kernel_rfl
noncomputable abbrev F1(P:Params):List (Addr×Obj):=G7 (L0 P) (R0 P) (F0 P)
theorem Si(P:Params):xE 182 (R1 P)=true:=by kernel_rfl
theorem lk1(P:Params):(L1 P).map (fun q=>(F1 P).lookup q.1)=(L1 P).map fun q=>some q.2:=by kernel_rfl
noncomputable abbrev F2(P:Params):List (Addr×Obj):=G7 (L1 P) (R1 P) (F1 P)
theorem Sj(P:Params):xE 298 (R2 P)=true:=by kernel_rfl
theorem lk2(P:Params):(L2 P).map (fun q=>(F2 P).lookup q.1)=(L2 P).map fun q=>some q.2:=by kernel_rfl
noncomputable abbrev F3(P:Params):List (Addr×Obj):=G7 (L2 P) (R2 P) (F2 P)
theorem Sk(P:Params):xE 516 (R3 P)=true:=by kernel_rfl
theorem lk3(P:Params):(L3 P).map (fun q=>(F3 P).lookup q.1)=(L3 P).map fun q=>some q.2:=by kernel_rfl
noncomputable abbrev F4(P:Params):List (Addr×Obj):=G7 (L3 P) (R3 P) (F3 P)
theorem Sl(P:Params):xE 710 (R4 P)=true:=by kernel_rfl
theorem lk4(P:Params):(L4 P).map (fun q=>(F4 P).lookup q.1)=(L4 P).map fun q=>some q.2:=by kernel_rfl
noncomputable abbrev F5(P:Params):List (Addr×Obj):=G7 (L4 P) (R4 P) (F4 P)
theorem Sm(P:Params):xE 940 (R5 P)=true:=by kernel_rfl
theorem lk5(P:Params):(L5 P).map (fun q=>(F5 P).lookup q.1)=(L5 P).map fun q=>some q.2:=by kernel_rfl
noncomputable abbrev F6(P:Params):List (Addr×Obj):=G7 (L5 P) (R5 P) (F5 P)
theorem Sn(P:Params):xE 1089 (R6 P)=true:=by kernel_rfl
theorem lk6(P:Params):(L6 P).map (fun q=>(F6 P).lookup q.1)=(L6 P).map fun q=>some q.2:=by kernel_rfl
noncomputable abbrev F7(P:Params):List (Addr×Obj):=G7 (L6 P) (R6 P) (F6 P)
theorem So(P:Params):xE 1222 (R7 P)=true:=by kernel_rfl
theorem lk7(P:Params):(L7 P).map (fun q=>(F7 P).lookup q.1)=(L7 P).map fun q=>some q.2:=by kernel_rfl
noncomputable abbrev F8(P:Params):List (Addr×Obj):=G7 (L7 P) (R7 P) (F7 P)
theorem Sp(P:Params):xE 1387 (R8 P)=true:=by kernel_rfl
theorem lk8(P:Params):(L8 P).map (fun q=>(F8 P).lookup q.1)=(L8 P).map fun q=>some q.2:=by kernel_rfl
noncomputable abbrev F9(P:Params):List (Addr×Obj):=G7 (L8 P) (R8 P) (F8 P)
theorem Sq(P:Params):xE 1572 (R9 P)=true:=by kernel_rfl
theorem lk9(P:Params):(L9 P).map (fun q=>(F9 P).lookup q.1)=(L9 P).map fun q=>some q.2:=by kernel_rfl
noncomputable abbrev TV(P:Params):List (Addr×Obj):=G7 (L9 P) (R9 P) (F9 P)
theorem Qe(P:Params):xE 1730 (Sd P)=true:=by kernel_rfl
theorem Ss(P:Params):(Ru P).map (fun q=>(TV P).lookup q.1)=(Ru P).map fun q=>some q.2:=by kernel_rfl
noncomputable abbrev F11(P:Params):List (Addr×Obj):=G7 (Ru P) (Sd P) (TV P)
theorem lkE(P:Params):(KF P).map (fun q=>(F11 P).lookup q.1)=(KF P).map fun q=>some q.2:=by kernel_rfl
theorem B7{F:List (Addr×Obj)}{a:Addr}{o:Obj}(e:F.lookup a=some o):(a,o)∈F:=by
 induction F with
 | nil=>cases e
 | cons p F ih=>
  rw[List.lookup_cons] at e
  by_cases hp:(a == p.1)=true
  ·rw[hp] at e
   obtain rfl:p.2=o:=Option.some.inj e
   have:a=p.1:=beq_iff_eq.mp hp
   subst this
   exact .head _
  ·rw[Bool.not_eq_true] at hp
   rw[hp] at e
   exact .tail _ (ih e)
theorem EI(w:World) (s₀:Shared) (A:At 11 181 s₀ s₀ (Lb w.params)):∃M s₁,topRun treeTable pw w 11 (some (.ref 6)) M s₀ (topStub pw)=some s₁∧At 1730 3075 s₀ s₁ (KF w.params):=by
 refine f9 (Option.map_eq_some_iff.mp (Se w s₀.os)) fun zq1 hr hs=>?_;obtain⟨S',t'⟩:=zq1
 simp only[Qc,Prod.mk.injEq] at hs
 refine pL (hs) fun e1 e2 e3 e4 e5 e6 e7 e8=>?_
 subst e7
 refine V3 (wX (A.rel (lkb _)) hr) fun s hgo Rl K=>?_
 have A0:At 15 187 s₀ s (F0 w.params):=A.next (Sf _) Rl K e1 e2 e3 e4 e5 e6 e8
 refine f9 (q0 (HK w) (Sh _) A0 (lk0 _)) fun s1 k0 A1=>?_
 refine f9 (q0 (HL w) (Si _) A1 (lk1 _)) fun s2 k1 A2=>?_
 refine f9 (q0 (HM w) (Sj _) A2 (lk2 _)) fun s3 k2 A3=>?_
 refine f9 (q0 (HN w) (Sk _) A3 (lk3 _)) fun s4 k3 A4=>?_
 refine f9 (q0 (HO w) (Sl _) A4 (lk4 _)) fun s5 k4 A5=>?_
 refine f9 (q0 (HP w) (Sm _) A5 (lk5 _)) fun s6 k5 A6=>?_
 refine f9 (q0 (HQ w) (Sn _) A6 (lk6 _)) fun s7 k6 A7=>?_
 refine f9 (q0 (HR w) (So _) A7 (lk7 _)) fun s8 k7 A8=>?_
 refine f9 (q0 (HS w) (Sp _) A8 (lk8 _)) fun s9 k8 A9=>?_
 refine f9 (q0 (HT w) (Sq _) A9 (lk9 _)) fun s10 k9 A10=>?_
 refine f9 (q0 (EH w) (Qe _) A10 (Ss _)) fun s11 k10 A11=>?_
 refine⟨12+(1+(1324+(1315+(1185+(1498+(1496+(1469+(7004+(1450+(1479+(1259+(915+2)))))))))))),s11,go_top hgo (piece_block (HU w s) ?_),⟨A11.size,A11.toks,A11.life,A11.gens,A11.drawn,A11.os,fun p hp=>?_⟩⟩
 ·have e:topRun treeTable pw w 11 (some (.ref 6)) 2 s11 (restOf ((behindTheImports pw).drop 151) sA cM ⟨1206,0,1224,57⟩ [HI])=some s11:=by rw[Qd];exact Sg w s11 _
  exact k0 _ _ (k1 _ _ (k2 _ _ (k3 _ _ (k4 _ _ (k5 _ _ (k6 _ _ (k7 _ _ (k8 _ _ (k9 _ _ (k10 _ _ e))))))))))
 ·exact A11.get p (B7 (List.map_inj_left.mp (lkE w.params) p hp))
theorem uG:opening pw=plainProg pw.main.scope.names:=by kernel_rfl
theorem BI(s:Shared):fenceModules? pw s=some s:=by kernel_rfl
theorem xF:importedModules pw.main.body=[]:=by kernel_rfl
theorem uH(w:World):∃s,AfterRun (opening pw) w s∧(∀s',AfterRun (opening pw) w s'→s'=s)∧s.heap=boot_heap w.params∧s.gens= #[]∧s.drawn=boot_drawn∧s.toks=boot_toks∧s.asleep:=by
 refine f9 (Option.map_eq_some_iff.mp (boot_plain w pw.main.scope.names)) fun s hs hv=>?_
 simp only[Prod.mk.injEq] at hv
 rw[← uG,← table_eq_tree] at hs
 have A:=AfterImport.of_importEnds hs
 exact⟨s,A,fun s' hs'=>AfterImport.unique hs' A,hv.1,hv.2.1,hv.2.2.1,hv.2.2.2,A.life⟩
noncomputable def u4(P:Params):Heap:=absHeap (jB (KF P)) 1730 {}
theorem q7{h h':Heap}{a:Addr}(e:h.get? a=h'.get? a):h.isNs a=h'.isNs a:=by unfold Heap.isNs;rw[e]
theorem J8{h h':Heap}{a:Addr}(e:h.get? a=h'.get? a):h.nsKeys a=h'.nsKeys a:=by unfold Heap.nsKeys;rw[e]
theorem r8{h h':Heap}{a:Addr}(e:h.get? a=h'.get? a):h.nsMap a=h'.nsMap a:=by funext n;unfold Heap.nsMap;rw[e]
theorem gH{h h':Heap}{a:Addr}(e:h.get? a=h'.get? a):h.nsPairs a=h'.nsPairs a:=by unfold Heap.nsPairs;rw[e]
noncomputable def BJ(P:Params):Bool:=
 (boot_heap P).isNs mainGlobals && (u4 P).isNs mainGlobals && (u4 P).isNs builtinsNs && staticsOk [] (boot_heap P) (u4 P) && namesBound pw (u4 P) && laidKept (boot_heap P) (u4 P) && (u4 P).accountedOkI []
theorem HV(P:Params):BJ P=true:=by kernel_rfl
theorem Su(P:Params):(u4 P).bltView=bltViewBooted:=by kernel_rfl
theorem Sv(P:Params):(boot_heap P).nsMap mainGlobals "__annotations__" = some (.ref 6):=by kernel_rfl
theorem m0(P:Params):(u4 P).get? 0=some (B2 P)∧(u4 P).get? 2=some (B4 P)∧(u4 P).get? 3=some (iD P):=⟨by kernel_rfl,by kernel_rfl,by kernel_rfl⟩
theorem k0(P:Params):(KF P).lookup 0=some (B2 P)∧(KF P).lookup 2=some (B4 P)∧(KF P).lookup 3=some (iD P)∧(KF P).lookup 4=some (x4 P):=⟨by kernel_rfl,by kernel_rfl,by kernel_rfl,by kernel_rfl⟩
theorem bm0(P:Params):(u4 P).nsMap mainGlobals "__builtins__" = some (.ref 4)∧(x4 P).cls=.type "module"∧(x4 P).dict=some builtinsNs:=⟨by kernel_rfl,by kernel_rfl,by kernel_rfl⟩
theorem GN(P:Params):(boot_heap P).objs.size=11:=by kernel_rfl
theorem Qg(P:Params):(boot_heap P).life= {}:=by kernel_rfl
theorem HW:boot_drawn= {}:=by kernel_rfl
theorem Qh:boot_toks=181:=by kernel_rfl
theorem EJ(w:World) {s₀:Shared}(h1:s₀.heap=boot_heap w.params) (h2:s₀.gens= #[]) (h3:s₀.drawn=boot_drawn) (h4:s₀.toks=boot_toks) (h5:s₀.asleep) :
  ∃s₁,TopRan pw w s₀ s₁∧s₁.asleep∧At 1730 3075 s₀ s₁ (KF w.params):=by
 have A:At 11 181 s₀ s₀ (Lb w.params):=⟨by rw[h1,GN],by rw[h4,Qh],by rw[h1,Qg],h2,by rw[h3,HW],rfl,fun p hp=>by
  rw[h1]
  simp only[Lb,List.mem_cons,List.not_mem_nil,or_false] at hp
  rcases hp with rfl |rfl |rfl |rfl |rfl |rfl |rfl |rfl |rfl |rfl |rfl <;> kernel_rfl⟩
 refine aM (EI w s₀ A) fun M s₁ hr A₁=>?_
 have L:=HV w.params
 unfold BJ at L
 simp only[Bool.and_eq_true] at L
 refine oA (L) fun zq1 l6=>?_;refine oA (zq1) fun zq2 l5=>?_;refine oA (zq2) fun zq3 l4=>?_;refine oA (zq3) fun zq4 l3=>?_;refine oA (zq4) fun zq5 l2=>?_;refine oA (zq5) fun l0 l1=>?_
 have get {a:Addr}{o:Obj}(e:(KF w.params).lookup a=some o):s₁.heap.get? a=some o:=A₁.get (a,o) (B7 e)
 refine Bk (k0 w.params) fun k1 k2 k3 k4=>?_
 refine wT (m0 w.params) fun n1 n2 n3=>?_
 have g0:s₁.heap.get? builtinsNs=(u4 w.params).get? builtinsNs:=(get k1).trans n1.symm
 have g2:s₁.heap.get? cStatics=(u4 w.params).get? cStatics:=(get k2).trans n2.symm
 have g3:s₁.heap.get? mainGlobals=(u4 w.params).get? mainGlobals:=(get k3).trans n3.symm
 have hg₀:s₀.heap.isNs mainGlobals=true:=by rw[h1];exact l0
 have hg:s₁.heap.isNs mainGlobals=true:=(q7 g3).trans l1
 have hb:s₁.heap.isNs builtinsNs=true:=(q7 g0).trans l2
 have hr':=hr
 rw[← table_eq_tree] at hr'
 have h11:(11:Nat)=s₀.heap.objs.size:=by rw[h1,GN]
 refine Bk (topRun_spec _ _ _ _ h5 hr') fun a l os fr=>?_
 have hst:staticsOk [] s₀.heap s₁.heap=true:=by
  have:staticsOk [] s₀.heap s₁.heap=staticsOk [] (boot_heap w.params) (u4 w.params):=by
   unfold staticsOk
   rw[q7 g2,J8 g2,r8 g2,h1]
  rw[this];exact l3
 have hnb:namesBound pw s₁.heap=true:=by
  have:namesBound pw s₁.heap=namesBound pw (u4 w.params):=by
   unfold namesBound
   rw[q7 g3,J8 g3]
  rw[this];exact l4
 have hlk:laidKept s₀.heap s₁.heap=true:=by
  have:laidKept s₀.heap s₁.heap=laidKept (boot_heap w.params) (u4 w.params):=by
   unfold laidKept
   rw[q7 g3,r8 g3,h1]
  rw[this];exact l5
 have hac:s₁.heap.accountedOkI []=true:=by
  have:s₁.heap.accountedOkI []=(u4 w.params).accountedOkI []:=by
   unfold Heap.accountedOkI
   rw[q7 g2,J8 g2,r8 g2]
  rw[this];exact l6
 have hbl:s₁.heap.bltView=bltViewBooted:=by
  have:s₁.heap.bltView=(u4 w.params).bltView:=by
   unfold Heap.bltView
   rw[gH g0]
  rw[this];exact Su _
 refine⟨s₁,⟨a,l,Shared.rest_eq os,fun b o hb' hn=>fr b o (by rw[h11];exact Heap.lt_size hb') (fun q=>hn (.inl q)) (fun q=>hn (.inr (.inl q))) (fun q=>hn (.inr (.inr ?_))) hb',
  ?_,?_,Pin.keysAreStrs_of hg,fun x hx=>(Pin.builtinOf_eq hb x).trans (Heap.of_bltView hb hbl x hx),?_,?_,names_of_bound hnb,laid_of_kept hlk⟩,Shared.asleep_of_life l h5,A₁⟩
 ·rw[Pin.globalOf_eq hg₀,← q,h1];exact Sv _
 ·rw[xF];exact Heap.accountedI_of_ok hac
 ·rw[xF];exact statics_of_ok hst
 ·refine wT (bm0 w.params) fun b1 b2 b3=>?_
  exact⟨4,_,by rw[Pin.globalOf_eq hg,r8 g3];exact b1,get k4,b2,b3⟩
 ·rw[A₁.gens];intro g hgm;simp at hgm
theorem Qi{a b:Bool}(x:a=true) (y:b=true):(a && b)=true:=by rw[x,y];rfl
theorem EK:Fast.tw6116379765354995101 ⟨fun sc n _=>Fast.tw15985051520779696433 sc n,fun _ _ _ ok=>ok,fun _=>true,true,false,fun a b=>a && b⟩ pw.main=true:=by kernel_rfl
theorem EL:TablesWhole.wModule TablesWhole.holds pw.main=true:=by
 delta TablesWhole.holds
 rw[Fast.te6116379765354995101,Fast.te15985051520779696433]
 exact EK
theorem yR(p:Program) (h:TablesWhole.wModule TablesWhole.holds p.main=true) (h1:p.modules=[]) (h2:p.parses=[]) (h3:p.harvested=[]):p.tablesWhole=true:=by
 unfold Program.tablesWhole TablesWhole.wProgram
 rw[h1,h2,h3]
 exact Qi h rfl
theorem EM:pw.tablesWhole=true:=yR pw EL rfl rfl rfl
theorem Qj:pw.bare:=⟨rfl,rfl,rfl,rfl,rfl,EM⟩
theorem HX:opensWell pw=true:=by kernel_rfl
theorem Qk{l:List Stmt}{s:Bool}{a b c:Str}{f:Str→Bool}(ha:f a=false) (hb:f b=false) (hc:f c=false) (h:noRoadLSs { strict:=s,foot:=none,bare:=[] } l=true):noRoadLSs { strict:=s,foot:=none,bare:=[a,b,c].filter f } l=true:=by
 rw[List.filter_cons,List.filter_cons,List.filter_cons,ha,hb,hc]
 exact h
set_option maxHeartbeats 0 in
theorem Ql:PySem.Challenge.rw_pq1227_01.wellSaid=true:=by
 delta OpenLaw.wellSaid
 repeat' (first |with_reducible refine Qi ?_ ?_ |(delta OpenRow.wellSaid) |(delta OpenRow.partSaid) |(delta OpenScript.wellSaid) |(delta looksOpen))
 all_goals (try with_reducible refine Qk ?_ ?_ ?_ ?_)
 all_goals (try rw[Fast.te8377067652309620493])
 all_goals (try rw[Fast.te17119622794617984870])
 all_goals (try rw[Fast.te8326940854005059898])
 all_goals (try rw[Fast.te17868728402115742887])
 all_goals (try rw[Fast.te13343964577679436407])
 all_goals (try rw[Fast.te6984425678791042302])
 all_goals (try rw[Fast.named_eq])
 all_goals decide +kernel
theorem uI(h:PySem.Challenge.rw_pq1227_01.row.wellSaid=true→PySem.Challenge.rw_pq1227_01.row.Holds):PySem.Challenge.rw_pq1227_01.Holds:=holds_law Ql h
section
open Sem (wp)
noncomputable def x5:Code→Bool
 | .builtin id _=> !Builtin.Bytes.decodersThatHold.contains id
 | _=>true
noncomputable def pU(l:List (Code×Pos)):Prop:=∀x∈l,x5 x.1=true
noncomputable def c8{α:Type}(M:Model) (A:Around) (t:Sem α) (Q:α→Shared→Prop) (E:Value→Shared→Prop) (s:Shared):Prop:=
 ∀Γ p,Γ.In A→x5 Γ.code=true→pU Γ.below→wp M Γ t (fun a _ s'=>Q a s') (fun e _ s'=>E e s') p s
noncomputable def j4(M:Model) (A:Around) (c:Code) (R:Result→Shared→Prop) (s:Shared):Prop:=
 ∀Γ p,Γ.code=c→x5 c=true→Γ.Below A→pU Γ.below→wpCode M Γ R p s
section
variable{α β:Type}{M:Model}{A:Around}{E:Value→Shared→Prop}{s:Shared}
theorem a6{t:Sem α}{Q:α→Shared→Prop}(h:wpAny M A t Q E s):c8 M A t Q E s:=fun Γ p hΓ _ _=>h Γ p hΓ
theorem Y1{c:Code}{R:Result→Shared→Prop}(h:codeAny M A c R s):j4 M A c R s:=fun Γ p hc _ hΓ _=>h Γ p hc hΓ
theorem b7{a:α}{Q:α→Shared→Prop}(h:Q a s):c8 M A (pure a) Q E s:=fun _ _ _ _ _=>h
theorem b6{t:Sem α}{Q Q':α→Shared→Prop}{E':Value→Shared→Prop}(h:c8 M A t Q E s) (hQ:∀a s,Q a s→Q' a s) (hE:∀e s,E e s→E' e s):c8 M A t Q' E' s:=
 fun Γ p hΓ hd hc=>Sem.wp_mono M Γ t (fun a _ s=>hQ a s) (fun e _ s=>hE e s) p s (h Γ p hΓ hd hc)
theorem c5{t:Sem α}{Q Q':α→Shared→Prop}(h:c8 M A t Q E s) (hQ:∀a s,Q a s→Q' a s):c8 M A t Q' E s:=b6 h hQ fun _ _ x=>x
theorem a7{m:Sem α}{k:α→Sem β}{Q:β→Shared→Prop}(h:c8 M A m (fun a s'=>c8 M A (k a) Q E s') E s):c8 M A (m >>= k) Q E s:=fun Γ p hΓ hd hc=>by
 rw[Sem.wp_bind']
 exact Sem.wp_mono M Γ m (fun a p' s' h'=>h' Γ p' hΓ hd hc) (fun _ _ _ h'=>h') p s (h Γ p hΓ hd hc)
theorem j8{m:Sem α}{k:Value→Sem Unit}{Q:α→Shared→Prop}(h:c8 M A m Q (fun e s'=>c8 M A (k e) (fun _ s''=>E e s'') E s') s):c8 M A (m.onRaise k) Q E s:=fun Γ p hΓ hd hc=>by
 rw[Sem.wp_onRaise]
 exact Sem.wp_mono M Γ m (fun _ _ _ h'=>h') (fun e p' s' h'=>h' Γ p' hΓ hd hc) p s (h Γ p hΓ hd hc)
theorem N3{m:Sem α}{Q:Except Value α→Shared→Prop}(h:c8 M A m (fun a=>Q (.ok a)) (fun e=>Q (.error e)) s):c8 M A m.attempt Q E s:=fun Γ p hΓ hd hc=>by
 rw[Sem.wp_attempt];exact h Γ p hΓ hd hc
theorem c0{vs:List Value}{m:Sem α}{Q:α→Shared→Prop}(h:c8 M A m Q E s):c8 M A (holding vs m) Q E s:=fun Γ p hΓ hd hc=>by
 rw[Sem.wp_holding];exact h Γ p hΓ hd hc
theorem c3{pos:Pos}{Q:Unit→Shared→Prop}(h:Q () s):c8 M A (standAt pos) Q E s:=fun _ _ _ _ _=>h
theorem EN{c:Prop} [Decidable c] {a b:Sem α}{Q:α→Shared→Prop}(h:if c then c8 M A a Q E s else c8 M A b Q E s):c8 M A (if c then a else b) Q E s:=by split <;> simp_all
theorem w0{c:Code}{R R':Result→Shared→Prop}(h:j4 M A c R s) (hR:∀r s,R r s→R' r s):j4 M A c R' s:=fun Γ p hc hd hΓ hb=>wpCode_mono hR (h Γ p hc hd hΓ hb)
theorem N4{Γ:Ctx}{p:Pos}(hd:x5 Γ.code=true) (hc:pU Γ.below):pU ((Γ.code,p)::Γ.below):=fun x hx=>by
 rcases List.mem_cons.mp hx with rfl |hx
 ·exact hd
 ·exact hc x hx
theorem dD{c:Code}{h:Option Value}{Q:Flow→Shared→Prop}(hn:x5 c=true) (hc:j4 M (A.mark h) c (fun r s'=>match r with | .ok f=>Q f s' | .error e=>E e s') s) (hnb:h≠some byPass:=by intro x;cases x):c8 M A (run c h) Q E s:=
 fun Γ p hΓ hd hb=>by rw[Sem.wp_run];exact hc _ p rfl hn (hΓ.enter c h p hnb) (N4 hd hb)
theorem nB{c:Code}{Q:Value→Shared→Prop}(hn:x5 c=true) (hc:j4 M A c (fun r s'=>match r with | .ok (.ret v)=>Q v s' | .ok _=>False | .error e=>E e s') s):c8 M A (runValue c) Q E s:=
 fun Γ p hΓ hd hb=>by rw[Sem.wp_runValue];exact hc _ p rfl hn (hΓ.enter c none p (by intro x;cases x)) (N4 hd hb)
theorem z6{f:Value}{pos:List Value}{kw:List (Str×Value)}{Q:Value→Shared→Prop}(hc:j4 M A (.call f ⟨pos,kw⟩) (fun r s'=>match r with | .ok (.ret v)=>Q v s' | .ok _=>False | .error e=>E e s') s):c8 M A (call f pos kw) Q E s:=
 nB rfl hc
theorem d7{c:Code}{R:Result→Shared→Prop}
  (h:c8 M (A.under c) (M.den c) (fun fin s'=>match fin with | .done f=>R (.ok f) s' | .again c'=>c'.quiet=true∧x5 c'=true∧j4 M A c' R s') (fun e s'=>R (.error e) s') s):j4 M A c R s:=fun Γ p hc hd hΓ hb=>by
 rw[wpCode_iff_wp,hc]
 refine Sem.wp_mono M Γ _ (fun fin p' s' h'=>?_) (fun _ _ _ h'=>h') p s (h Γ p (hc▸hΓ.in) (hc▸hd) hb)
 cases fin with
 | done f=>exact h'
 | again c'=>exact⟨h'.1,h'.2.2 (Γ.goto c') p' rfl h'.2.1 (hΓ.goto c') hb⟩
theorem V5{c:Code}{R:Result→Shared→Prop}(hq:c.quiet=true) (I:Nat→Shared→Prop)
  (turn:∀n s,I n s→c8 M (A.under c) (M.den c) (fun fin s'=>match fin with
   | .done f=>R (.ok f) s'
   | .again c'=>(c'=c∧∃m,m<n∧I m s')∨(c'.quiet=true∧x5 c'=true∧j4 M A c' R s')) (fun e s'=>R (.error e) s') s)
  (n:Nat) (h:I n s):j4 M A c R s:=by
 induction n using Nat.strongRecOn generalizing s with
 | ind n ih=>
  intro Γ p hc hd hΓ hb
  refine d7 (b6 (turn n s h) (fun fin s' hf=>?_) fun _ _ h'=>h') Γ p hc hd hΓ hb
  cases fin with
  | done f=>exact hf
  | again c'=>
   rcases hf with ⟨rfl,m,hm,hI⟩ |hf
   ·exact⟨hq,hd,ih m hm hI⟩
   ·exact hf
theorem pV{f:Code×Pos→Bool}(hf:∀c p,x5 c=true→c.isGuard=false→f (c,p)=false):∀l:List (Code×Pos),pU l→guardsOf l=[]→l.any f=false
 | [],_,_=>rfl
 | (c,p)::l,hc,hg=>by
  rw[guardsOf_cons] at hg
  refine oA (List.append_eq_nil_iff.mp hg) fun g1 g2=>?_
  have hn:c.isGuard=false:=by
   cases q:c.isGuard with
   | false=>rfl
   | true=>simp [Code.guards,q] at g1
  rw[List.any_cons,hf c p (hc _ (.head _)) hn,pV hf l (fun x hx=>hc x (.tail _ hx)) g2]
  rfl
theorem BK(i:String) (args:Args) (h:guardIds.contains i=true):(Code.builtin i args).isGuard=true:=by
 unfold Code.isGuard
 exact h
theorem N5{i s:String}{args:Args}(h:(Code.builtin i args).isGuard=false) (hs:guardIds.contains s=true):i≠s:=fun e=>by
 rw[e,BK s args hs] at h
 cases h
theorem Y2{v:Value}{Q:Bool→Shared→Prop}(hg:A.guards=some []) (h:Q false s):c8 M A (Builtin.Bytes.exported v) Q E s:=fun Γ p hΓ hd hb=>by
 unfold Builtin.Bytes.exported
 rw[Sem.wp_bind']
 have e:=fun f hf=>pV (f:=f) hf ((Γ.code,p)::Γ.below) (N4 hd hb) (by rw[guardsOf_cons];exact hΓ.2.2.2.1 [] hg)
 refine(?_:Q (List.any ((Γ.code,p)::Γ.below) _) s)
 rw[e]
 ·exact h
 ·clear e h hg hΓ hd hb
  intro c p hn hgd
  cases c with
  | builtin i args=>
   delta Builtin.Bytes.exported.match_1
   refine(dif_neg (N5 (s:= "bytearray.__contains__") hgd (by decide +kernel))).trans ?_
   refine(dif_neg (N5 (s:= "bytearray.__mod__") hgd (by decide +kernel))).trans ?_
   refine(dif_neg (N5 (s:= "bytearray.__rmod__") hgd (by decide +kernel))).trans ?_
   refine(dif_neg (N5 (s:= "_struct.pack_into.held") hgd (by decide +kernel))).trans ?_
   refine(dif_neg (N5 (s:= "bytearray.find.held") hgd (by decide +kernel))).trans ?_
   clear hgd
   rcases args with ⟨_ | ⟨x,_⟩,_⟩
   ·rfl
   ·have hk:Builtin.Bytes.decodersThatHold.contains i=false:=by simpa [x5] using hn
    exact(congrArg (Builtin.Bytes.sameRef x v && ·) hk).trans (Bool.and_false _)
  | _=>rfl
end
end
section
open Sem (wp)
section
variable{M:Model}{A:Around}{E:Value→Shared→Prop}{s:Shared}{env:Env}
theorem y7{vs:List Value}{m:Sem Value}{Q:Value→Shared→Prop}(h:c8 M A m Q E s):c8 M A (operate vs m) Q E s:=fun Γ p hΓ hd hc=>by rw[Sem.wp_operate];exact h Γ p hΓ hd hc
theorem D5{x:Str}{v:Value}{Q:Unit→Shared→Prop}(h:c8 M A (storeName env x v) Q E s):c8 M A (bindName env x v) Q E s:=fun Γ p hΓ hd hc=>by rw[Sem.wp_bindName];exact h Γ p hΓ hd hc
theorem BL{α:Type}{vs:List Value}{m:Sem α}{Q:α→Shared→Prop}(h:c8 M A m Q E s):c8 M A (m.keep vs) Q E s:=fun Γ p hΓ hd hc=>by rw[Sem.wp_keep];exact h Γ p hΓ hd hc
theorem HY{l r:Expr}{op:Operator}{pos:Pos}{Q:Value→Shared→Prop}(h:c8 M A (eval l env) (fun a s₁=>c8 M A (eval r env) (fun b s₂=>c8 M A (binaryOp op a b) Q E s₂) E s₁) E s):c8 M A (eval (.BinOp l op r pos) env) Q E s:=by
 rw[eval_BinOp]
 exact a7 (c5 h fun a s₁ h₁=>a7 (c0 (c5 h₁ fun b s₂ h₂=>a7 (c3 (y7 h₂)))))
theorem yS{l r:Expr}{op:CmpOp}{pos:Pos}{Q:Value→Shared→Prop}(hm:behindInMarks op r=false) (h:c8 M A (eval l env) (fun a s₁=>c8 M A (eval r env) (fun b s₂=>c8 M A (compareOp op a b) Q E s₂) E s₁) E s) :
  c8 M A (eval (.Compare l [op] [r] pos) env) Q E s:=by
 rw[eval_Compare1,markedBehindIn_of_false hm]
 exact a7 (c5 h fun a s₁ h₁=>a7 (c0 (c5 h₁ fun b s₂ h₂=>a7 (c3 (y7 h₂)))))
theorem gJ{l r:Expr}{op:CmpOp}{pos:Pos}{whole:Sem Value}{Q:Bool→Shared→Prop}(hm:behindInMarks op r=false)
  (h:c8 M A (eval l env) (fun a s₁=>c8 M A (eval r env) (fun b s₂=>c8 M A (compareOp op a b) (fun c s₃=>c8 M A (truthy c) Q E s₃) E s₂) E s₁) E s):c8 M A (isTrue (.Compare l [op] [r] pos) env whole) Q E s:=by
 rw[isTrue_Compare1,markedBehindIn_of_false hm]
 exact a7 (c5 h fun a s₁ h₁=>a7 (c0 (c5 h₁ fun b s₂ h₂=>a7 (c3 (a7 (y7 (c5 h₂ fun c s₃ h₃=>c0 h₃)))))))
theorem uJ{e:Expr}{whole:Sem Value}{Q:Bool→Shared→Prop}(he:isTrue e env whole=(do let v ← whole;standAt e.pos;holding [v] (truthy v))) (h:c8 M A whole (fun v s₁=>c8 M A (truthy v) Q E s₁) E s):c8 M A (isTrue e env whole) Q E s:=by
 rw[he]
 exact a7 (c5 h fun v s₁ h₁=>a7 (c3 (c0 h₁)))
theorem BM{x:Expr}{pos:Pos}{whole:Sem Value}{Q:Bool→Shared→Prop}(h:c8 M A (isTrue x env (eval x env)) (fun b s₁=>Q (!b) s₁) E s):c8 M A (isTrue (.UnaryOp .Not x pos) env whole) Q E s:=by
 rw[arm_isTrue_UnaryOp]
 exact a7 (c5 h fun b s₁ h₁=>b7 h₁)
theorem HZ{t a b:Expr}{pos:Pos}{Q:Value→Shared→Prop}(h:c8 M A (isTrue t env (eval t env)) (fun c s₁=>if c then c8 M A (eval a env) Q E s₁ else c8 M A (eval b env) Q E s₁) E s):c8 M A (eval (.IfExp t a b pos) env) Q E s:=by
 rw[arm_eval_IfExp]
 exact a7 (c5 h fun c s₁ h₁=>by cases c <;> exact h₁)
theorem N6{Q:List Value→Shared→Prop}(h:Q [] s):c8 M A (spliced []) Q E s:=b7 h
theorem D6{x:Sem Value}{rest:List (Bool×Sem Value)}{Q:List Value→Shared→Prop}(h:c8 M A x (fun v s₁=>c8 M A (spliced rest) (fun vs s₂=>Q (v::vs) s₂) E s₁) E s):c8 M A (spliced ((false,x)::rest)) Q E s:=by
 rw[spliced]
 refine a7 (c5 h fun v s₁ h₁=>?_)
 simp only[Bool.false_eq_true,if_false]
 exact a7 (b7 (a7 (c0 (c5 h₁ fun vs s₂ h₂=>b7 h₂))))
theorem bQ{f:Value}{x:Sem Value}{rest:List (Bool×Sem Value)}{Q:Args→Shared→Prop}(h:c8 M A (spliced ((false,x)::rest)) (fun vs s'=>Q ⟨vs,[]⟩ s') E s):c8 M A (evalArgs f true ((false,x)::rest) []) Q E s:=by
 unfold evalArgs
 refine(?_:c8 M A (spliced ((false,x)::rest) >>= _) Q E s)
 refine a7 (c5 h fun vs s' h'=>c0 ?_)
 exact a7 (b7 (a7 (b7 (b7 h'))))
theorem nC{f:Value}{Q:Args→Shared→Prop}(h:Q ⟨[],[]⟩ s):c8 M A (evalArgs f true [] []) Q E s:=a6 (evalArgs_nil3 h)
theorem Q4{pos:Pos}{f:Value}{first:List Value}{P:Heap→Prop}{args:List (Bool×Sem Value)}{keywords:List (Option Str×Sem Value)}{Q:Value→Shared→Prop}(hplain:(args.any (·.1) || keywords.any (·.1.isNone))=false)
  (hk:∀h,P h→∃k,(k=Keeper.frame∨k=Keeper.machine∨k=Keeper.boundFrame)∧Looks M h (keeperOf f) k)
  (h:c8 M A (evalArgs f true args keywords) (fun a s₁=>P s₁.heap∧c8 M A (call f (first++a.pos) a.kw) Q E s₁) E s):c8 M A (callWith pos f first args keywords) Q E s:=by
 unfold callWith
 refine a7 (c0 (c5 h fun a s₁ h₁=>a7 (c3 ?_)))
 refine f9 (hk _ h₁.1) fun k hk' L=>?_
 simp only[hplain]
 refine a7 (a6 (L.here ?_))
 have tail:∀ {t:Sem Value},c8 M A t Q E s₁→c8 M A (t >>= fun r=>holding [r] point >>= fun _=>pure r) Q E s₁:=
  fun ht=>a7 (c5 ht fun r s₂ hr=>a7 (c0 (a6 (wpAny_point (b7 hr)))))
 have marked (mk:Value):c8 M A (callMarked mk f (first++a.pos) a.kw) Q E s₁:=by unfold callMarked;exact BL h₁.2
 rcases hk' with rfl |rfl |rfl <;> dsimp only <;> first |exact tail h₁.2 |(split <;> first |exact tail h₁.2 |exact tail (marked _))
theorem B8{x:Str}{np pos:Pos}{args:List Expr}{keywords:List Keyword}{Q:Value→Shared→Prop}(h:c8 M A (eval (.Name x np) env) (fun f s₁=>c8 M A (callWith pos f [] (backTo pos (starEach args env)) (backToKw pos (keywordEach keywords env))) Q E s₁) E s) :
  c8 M A (eval (.Call (.Name x np) args keywords pos) env) Q E s:=by
 refine(?_:c8 M A (do callWith pos (← eval (.Name x np) env) [] (backTo pos (starEach args env)) (backToKw pos (keywordEach keywords env))) Q E s)
 exact a7 h
theorem pW{o:Expr}{name:Str}{apos pos:Pos}{args:List Expr}{pl:Sem Bool}{Q:Value→Shared→Prop}
  (h:c8 M A (eval o env) (fun ov s₁=>c8 M A (getMethod ov name pl) (fun fx s₂=>c8 M A (callWith pos fx.1 fx.2 (backTo pos (starEach args env)) []) Q E s₂) E s₁) E s)
  (he:eval (.Call (.Attribute o name apos) args [] pos) env=(do
   let ov ← eval o env
   standAt apos.atName
   let(f,first) ← holding [ov] (getMethod ov name pl)
   callWith pos f first (backTo pos (starEach args env)) [])):c8 M A (eval (.Call (.Attribute o name apos) args [] pos) env) Q E s:=by
 rw[he]
 exact a7 (c5 h fun ov s₁ h₁=>a7 (c3 (a7 (c0 (c5 h₁ fun fx s₂ h₂=>h₂)))))
theorem uK{st:Stmt}{rest:List Stmt}{Q:Flow→Shared→Prop}(h:c8 M A (exec st env) (fun f s'=>match f with | .next=>c8 M A (execs rest env) Q E s' |f=>Q f s') E s):c8 M A (execs (st::rest) env) Q E s:=by
 rw[execs_cons]
 refine a7 (c5 h fun f s' h'=>?_)
 cases f <;> first |exact h' |exact b7 h'
theorem EO{e:Expr}{pos:Pos}{Q:Flow→Shared→Prop}(h:c8 M A (eval e env) (fun v=>Q (.ret v)) E s):c8 M A (exec (.Return (some e) pos) env) Q E s:=by
 rw[exec_Return_some]
 exact a7 (c3 (a7 (c5 h fun v s' h'=>b7 h')))
theorem cIf{t:Expr}{a b:List Stmt}{pos:Pos}{Q:Flow→Shared→Prop}(h:c8 M A (isTrue t env (eval t env)) (fun c s₂=>if c then c8 M A (execs a env) Q E s₂ else c8 M A (execs b env) Q E s₂) E s):c8 M A (exec (.If t a b pos) env) Q E s:=by
 rw[exec_If]
 exact a7 (c3 (a7 (c5 h fun c s' h'=>by cases c <;> exact h')))
theorem bR{x:Str}{pos' pos:Pos}{value:Expr}{Q:Flow→Shared→Prop}(hs:swapsWith value (some (.Name x pos')) pos.line env=pure false) (h:c8 M A (eval value env) (fun v s₁=>c8 M A (storeName env x v) (fun _=>Q .next) E s₁) E s) :
  c8 M A (exec (.Assign [.Name x pos'] value pos) env) Q E s:=by
 rw[exec_Assign_Name env x pos' value pos hs]
 exact a7 (c3 (a7 (c5 h fun v s₁ h₁=>a7 (c3 (a7 (D5 (c5 h₁ fun _ s₂ h₂=>b7 h₂)))))))
theorem G8{vs ks:List Value}{Q:Unit→Shared→Prop}(h:Q () s):c8 M A (release vs ks) Q E s:=a6 (wpAny_release h)
theorem pX{o value:Expr}{attr:Str}{pos' pos:Pos}{Q:Flow→Shared→Prop}(hs:swapsWith value (some (.Attribute o attr pos')) pos.line env=pure false)
  (h:c8 M A (eval value env) (fun v s₁=>c8 M A (eval o env) (fun ov s₂=>c8 M A (setAttr ov attr v) (fun _=>Q .next) E s₂) E s₁) E s):c8 M A (exec (.Assign [.Attribute o attr pos'] value pos) env) Q E s:=by
 rw[plainObj_exec_Assign_Attribute o attr pos' value pos hs]
 simp only[assign_Attribute]
 exact a7 (c3 (a7 (c5 h fun v s₁ h₁=>a7 (a7 (c0 (c5 h₁ fun ov s₂ h₂=>a7 (c3 (a7 (c0 (c5 h₂ fun _ s₃ h₃=>G8 (b7 h₃)))))))))))
noncomputable def D1(M:Model) (A:Around) (env:Env) (E:Value→Shared→Prop):Value→Shared→Prop:=fun x s'=>c8 M A (noteFrame x env) (fun _ s''=>E x s'') E s'
noncomputable def M5(M:Model) (A:Around) (env:Env) (E:Value→Shared→Prop):Value→Shared→Prop:=
 fun x s'=>c8 M A (do
  if (← field x 1) == .none then unsupported "frame.own-activation:exception-without-traceback"
  setFlight x env.frame) (fun _ s''=>E x s'') E s'
theorem aR{α:Type}{m:Sem α}{Q:α→Shared→Prop}(h:c8 M A m Q (D1 M A env E) s):c8 M A (m.onRaise fun x=>do noteFrame x env;theTreesLotGoes x) Q E s:=
 j8 (b6 h (fun _ _ q=>q) fun _ _ hx=>a7 (c5 hx fun _ _ e=>a6 (wpAny_theTreesLotGoes e)))
theorem dW{c:Code}{Q:Flow→Shared→Prop}(hn:x5 c=true) (hc:j4 M A c (fun r s'=>match r with | .ok f=>Q f s' | .error e=>M5 M A env E e s') s):c8 M A (runOwn c env) Q E s:=by
 unfold runOwn
 exact j8 (dD hn (by cases A;exact hc))
theorem Ia{t:Expr}{a b:List Stmt}{pos:Pos}{Q:Flow→Shared→Prop}(h:j4 M A (.whileLoop t a b env) (fun r s'=>match r with | .ok f=>Q f s' | .error e=>M5 M A env E e s') s):c8 M A (exec (.While t a b pos) env) Q E s:=by
 rw[exec_While]
 exact a7 (c3 (dW rfl h))
theorem yT{target iter:Expr}{a b:List Stmt}{pos:Pos}{Q:Flow→Shared→Prop}(hs:∀x,foldedSetIterable iter env x=pure x)
  (h:c8 M A (eval iter env) (fun x s₁=>c8 M A (pyIter x) (fun it s₂=>j4 M A (.forLoop target it a b env) (fun r s'=>match r with | .ok f=>Q f s' | .error e=>M5 M A env E e s') s₂) E s₁) E s):c8 M A (exec (.For target iter a b pos) env) Q E s:=by
 rw[exec_For]
 exact a7 (c3 (a7 (c5 h fun x s₁ h₁=>a7 (a6 (wpAny_of_eq (hs x) (a7 (c3 (a7 (c0 (c5 h₁ fun it s₂ h₂=>dW rfl h₂))))))))))
end
end
section
open Sem (wp)
section
variable{prog:Program}{w:World}{A:Around}{E:Value→Shared→Prop}{s:Shared}{R:Result→Shared→Prop}
theorem GO{body:List Stmt}{env:Env}
  (h:c8 (model prog w) (A.deeper env) (execs body env) (fun f s'=>R (.ok (.ret (match f with | .ret v=>v |_=>.none))) s')
   (fun e s'=>c8 (model prog w) (A.deeper env) (leaving env e) (fun _ s''=>R (.error e) s'') (fun e' s''=>R (.error e') s'') s') s):j4 (model prog w) A (.func body env) R s:=by
 refine d7 ?_
 show c8 _ (A.deeper env) (do point;match ← (execs body env).onRaise (leaving env) with | .ret v=>ret v |_=>ret .none) _ _ s
 refine a7 (a6 (wpAny_point (a7 (j8 (c5 h fun f s' h'=>?_)))))
 cases f <;> exact b7 h'
theorem BN{a:Addr}{o:Obj}{fd:FuncData}{body:List Stmt}{args:Args}{binds:List (Str×Value)}
  (hroom:A.depth<recursionLimit) (ho:s.heap.get? a=some o) (hdata:o.data=.func fd) (hlim:s.heap.NoLimit) (hcd:s.heap.CodeRec fd.code fd.qualname) (hbody:fd.body=.stmts body) (hbind:BindsTo s fd args binds)
  (hcell:∀x∈fd.scope.names,x.2≠.cell) (hloc:∀x∈binds,fd.scope.names.lookup x.1=some .local)
  (hco:fd.scope.isCoroutine=false) (hgen:fd.scope.isGenerator=false) (hk:fd.scope.kind=.function)
  (h:∀h₀,h₀.Ns s.heap.objs.size (fun x=>binds.reverse.lookup x)→(∀b o,s.heap.get? b=some o→h₀.get? b=some o)→
   c8 (model prog w) (A.deeper (callEnv fd s.heap.objs.size a)) (execs body (callEnv fd s.heap.objs.size a)) (fun f s'=>R (.ok (.ret (match f with | .ret v=>v |_=>.none))) s')
    (fun e s'=>c8 (model prog w) (A.deeper (callEnv fd s.heap.objs.size a)) (leaving (callEnv fd s.heap.objs.size a) e) (fun _ s''=>R (.error e) s'') (fun e' s''=>R (.error e') s'') s')
    { s with heap:=h₀,toks:=s.toks+binds.length }):j4 (model prog w) A (.call (.ref a) args) R s:=by
 refine d7 ?_
 refine(?_:c8 _ A.in1 (callAny (.ref a) args) _ _ s)
 simp only[callAny]
 refine a7 (a6 (wpAny_load ho ?_))
 refine N2 (hcd) fun c oc vs tq hc hoc hdc hq=>?_
 have hc':=hc
 simp only[hdata,callFunction,hco,hgen,hbody]
 rw[hc]
 refine a7 (m:=field (.ref c) 1) (a6 (wpAny_field hoc hdc hq (a7 (b7 ?_))))
 refine a7 (a6 (hbind _ _ _ _ (a7 (a6 (wpAny_newFunctionEnv hcell hloc (fun h₀ hns hsb=>?_) hk)))))
 refine a7 (a6 (wpAny_enterFrame (hlim.fresh _ hsb) hroom (b7 ⟨rfl,rfl,?_⟩)))
 rw[← hc]
 exact GO (h h₀ hns fun b o e=>hsb.extBut b o (Nat.ne_of_lt (Heap.lt_size e)) (Heap.get?_push_of_some _ e))
theorem Y3{target:Expr}{it:Value}{body orelse:List Stmt}{env:Env}(I:Nat→Shared→Prop)
  (turn:∀n s,I n s→c8 (model prog w) A (pyNext it) (fun r s₁=>match r with
   | none=>c8 (model prog w) A (execs orelse env) (fun f s₃=>R (.ok f) s₃) (D1 (model prog w) A env fun e s'=>R (.error e) s') s₁
   | some v=>c8 (model prog w) A (letOwnedTupleGo target it v) (fun _ s₁'=>
     c8 (model prog w) A (assign target env v) (fun _ s₂=>c8 (model prog w) A (execs body env) (fun f s₃=>match f with
      | .next | .cont=>∃m,m<n∧I m s₃
      | .brk=>R (.ok .next) s₃
      | .ret v=>R (.ok (.ret v)) s₃) (D1 (model prog w) A env fun e s'=>R (.error e) s') s₂) (D1 (model prog w) A env fun e s'=>R (.error e) s') s₁') (D1 (model prog w) A env fun e s'=>R (.error e) s') s₁) (D1 (model prog w) A env fun e s'=>R (.error e) s') s)
  (n:Nat) (h:I n s):j4 (model prog w) A (.forLoop target it body orelse env) R s:=by
 refine V5 rfl I (fun n s hI=>?_) n h
 show c8 _ A ((forTurn target it body orelse env).onRaise (fun x=>do noteFrame x env;theTreesLotGoes x)) _ _ s
 refine aR ?_
 simp only[forTurn]
 refine a7 (c3 (a7 (j8 (b6 (turn n s hI) (fun r s₁ h₁=>?_) fun _ _ h'=>c3 h'))))
 cases r with
 | none=>
  refine b7 (.inr ⟨rfl,rfl,d7 ?_⟩)
  show c8 _ _ (do return Fin.done (← (execs orelse env).onRaise (fun x=>do noteFrame x env;theTreesLotGoes x))) _ _ s₁
  exact a7 (aR (c5 h₁ fun f s' h'=>b7 h'))
 | some v=>
  refine a7 (c5 h₁ fun _ s₁' h₁'=>a7 (c5 h₁' fun _ s₂ h₂=>a7 (c5 h₂ fun f s₃ h₃=>?_)))
  cases f with
  | next=>exact b7 (.inl ⟨rfl,h₃⟩)
  | cont=>exact b7 (.inl ⟨rfl,h₃⟩)
  | brk=>exact b7 h₃
  | ret v=>exact b7 h₃
theorem uL{test:Expr}{body orelse:List Stmt}{env:Env}(I:Nat→Shared→Prop)
  (turn:∀n s,I n s→c8 (model prog w) A (isTrue test env (eval test env)) (fun b s₂=>
    if b then c8 (model prog w) A (execs body env) (fun f s₃=>match f with
      | .next | .cont=>∃m,m<n∧I m s₃
      | .brk=>R (.ok .next) s₃
      | .ret v=>R (.ok (.ret v)) s₃) (D1 (model prog w) A env fun e s'=>R (.error e) s') s₂
    else c8 (model prog w) A (execs orelse env) (fun f s₃=>R (.ok f) s₃) (D1 (model prog w) A env fun e s'=>R (.error e) s') s₂) (D1 (model prog w) A env fun e s'=>R (.error e) s') s)
  (n:Nat) (h:I n s):j4 (model prog w) A (.whileLoop test body orelse env) R s:=by
 refine V5 rfl I (fun n s hI=>?_) n h
 show c8 _ A ((whileTurn test body orelse env).onRaise (fun x=>do noteFrame x env;theTreesLotGoes x)) _ _ s
 refine aR ?_
 simp only[whileTurn]
 refine a7 (c5 (turn n s hI) fun b s₂ h₂=>?_)
 cases b with
 | false=>
  simp only[Bool.false_eq_true,if_false] at h₂ ⊢
  exact a7 (c5 h₂ fun f s₃ h₃=>b7 h₃)
 | true=>
  simp only[if_true] at h₂ ⊢
  refine a7 (c5 h₂ fun f s₃ h₃=>?_)
  cases f with
  | next=>exact b7 (.inl ⟨rfl,h₃⟩)
  | cont=>exact b7 (.inl ⟨rfl,h₃⟩)
  | brk=>exact b7 h₃
  | ret v=>exact b7 h₃
end
end
noncomputable def KG(P:Params):List (Addr×Obj):=[(0,B2 P),(2,B4 P),(3,iD P),(4,x4 P),(12,uF P),(13,u6 P),(29,wY P),(35,Bu P),(36,Bv P),(38,dS P),(39,Bz P),(63,Bw P),(64,Bx P),(99,By P),(100,sB P),(135,sC P),(136,sD P),(175,sE P),(176,sF P),(178,sG P),(179,sH P),(194,sI P),(195,sJ P),(197,sK P),(198,sL P),(213,sM P),(214,sN P),(216,sO P),(217,sP P),(251,sQ P),(252,sR P),(254,sS P),(255,sT P),(263,sU P),(264,sV P),(277,sW P),(278,sX P),(284,sY P),(285,sZ P),(354,jC P),(360,tA P),(361,tB P),(367,tC P),(368,tD P),(381,tE P),(382,tF P),(395,tG P),(396,tH P),(402,tI P),(403,tJ P),(419,tK P),(420,tL P),(430,tM P),(431,tO P),(437,tP P),(438,tQ P),(446,jD P),(452,tR P),(453,tS P),(459,tT P),(460,tU P),(466,tV P),(467,tW P),(473,tX P),(474,tY P),(480,tZ P),(481,uA P),(483,uB P),(484,uC P),(489,jE P),(495,uD P),(496,uE P),(1243,cX P),(1249,jF P),(1250,jG P),(1280,jH P),(1281,jI P),(1329,cZ P),(1335,jJ P),(1336,jK P),(1380,jL P),(1381,jM P),(1386,jN P),(1392,jO P),(1393,jP P),(1401,dA P),(1407,jQ P),(1408,jR P),(1417,jS P),(1418,jT P),(1428,jU P),(1429,jV P),(1435,jW P),(1436,jX P),(1442,jY P),(1443,jZ P),(1449,kB P),(1450,kC P),(1463,kE P),(1464,kF P),(1466,kG P),(1467,kH P),(1477,kJ P),(1478,kM P),(1484,kO P),(1485,kP P),(1494,dB P),(1500,kQ P),(1501,kS P),(1514,kU P),(1515,kX P),(1521,kY P),(1522,kZ P),(1549,lA P),(1550,lB P),(1556,lC P),(1557,lD P),(1559,lE P),(1560,lF P),(1570,lG P),(1571,lH P),(1579,lI P),(1580,dC P),(1586,lJ P),(1587,lK P),(1593,lL P),(1594,lM P),(1600,lN P),(1601,lO P),(1607,lP P),(1608,lQ P),(1614,lR P),(1615,lS P),(1628,lT P),(1629,lU P),(1635,lV P),(1636,lW P),(1642,lX P),(1643,lY P),(1645,lZ P),(1646,mB P),(1651,mC P),(1657,mD P),(1658,mE P),(1664,mF P),(1665,mG P),(1671,mH P),(1672,mJ P),(1678,mK P),(1679,mL P),(1683,mM P),(1684,mN P),(1690,mO P),(1691,mP P),(1697,mQ P),(1698,mR P),(1702,mS P),(1703,mT P),(1707,mU P),(1708,mV P),(1714,mW P),(1715,mX P),(1721,mY P),(1722,mZ P),(1728,nA P),(1729,Q3 P)]
theorem yU(P:Params):KG P=(KF P).filter fun p=>p.1 != 1724:=by kernel_rfl
theorem H9{k a:Addr}{o:Obj}:∀ {l:List (Addr×Obj)},(l.filter fun p=>p.1 != k).lookup a=some o→l.lookup a=some o∧a≠k
 | [],h=>by cases h
 | (b,x)::l,h=>by
  by_cases e:(b != k)=true
  ·rw[show((b,x)::l).filter (fun p:Addr×Obj=>p.1 != k)=(b,x)::l.filter (fun p=>p.1 != k) from List.filter_cons_of_pos e] at h
   rw[List.lookup_cons] at h ⊢
   by_cases q:(a == b)=true
   ·rw[q] at h ⊢
    exact⟨h,by rw[beq_iff_eq.mp q];simpa using e⟩
   ·rw[Bool.not_eq_true] at q
    rw[q] at h ⊢
    exact H9 h
  ·rw[show((b,x)::l).filter (fun p:Addr×Obj=>p.1 != k)=l.filter (fun p=>p.1 != k) from List.filter_cons_of_neg e] at h
   obtain⟨h1,h2⟩:=H9 h
   refine⟨?_,h2⟩
   have hb:b=k:=by simpa using e
   rw[List.lookup_cons,show(a == b)=false from beq_eq_false_iff_ne.mpr (by rw[hb];exact h2)]
   exact h1
theorem Sw(P:Params):(KG P).lookup 0=some (B2 P)∧(KG P).lookup 2=some (B4 P)∧(KG P).lookup 3=some (iD P)∧(KG P).lookup 4=some (x4 P):=⟨by kernel_rfl,by kernel_rfl,by kernel_rfl,by kernel_rfl⟩
inductive AV where
 | none
 | bool (b:Bool)
 | int (i:Int)
 | bytes (b:List UInt8)
 | str (s:Str)
 | ref (a:Addr)
 | lit (v:Value)
inductive Rep:AV→Value→Prop
 | none:Rep .none .none
 | bool (b):Rep (.bool b) (.bool b)
 | int (i t):Rep (.int i) (.int i t)
 | bytes (b t):Rep (.bytes b) (.bytes b.toArray t)
 | str (s t):Rep (.str s) (.str s t)
 | ref (a):Rep (.ref a) (.ref a)
 | lit (v):Rep (.lit v) v
inductive All2 {α β:Type}(R:α→β→Prop):List α→List β→Prop
 | nil:All2 R [] []
 | cons {a b as bs}:R a b→All2 R as bs→All2 R (a::as) (b::bs)
noncomputable abbrev BO(x:AV) (P:Value→Prop):Prop:=match x with
 | .none=>P .none
 | .bool b=>P (.bool b)
 | .int i=>∀t,P (.int i t)
 | .bytes b=>∀t,P (.bytes b.toArray t)
 | .str s=>∀t,P (.str s t)
 | .ref a=>P (.ref a)
 | .lit v=>P v
theorem I5{x:AV}{P:Value→Prop}(h:BO x P):∀a,Rep x a→P a:=by
 intro a r
 cases r <;> first |exact h |exact h _
theorem r6{x y:AV}{P:Value→Value→Prop}(h:BO x fun a=>BO y (P a)):∀a b,Rep x a→Rep y b→P a b:=fun a b ra rb=>I5 (I5 (P:=fun a=>BO y (P a)) h a ra) b rb
noncomputable def BP:List AV→(List Value→Prop)→Prop
 | [],P=>P []
 | x::xs,P=>BO x fun a=>BP xs fun l=>P (a::l)
theorem y8{vs:List AV}{P:List Value→Prop}(h:BP vs P) (cvs:List Value) (r:All2 Rep vs cvs):P cvs:=by
 induction r generalizing P with
 | nil=>exact h
 | cons r _ ih=>exact ih (P:=fun l=>P (_::l)) (I5 (P:=fun a=>BP _ fun l=>P (a::l)) h _ r)
inductive AO where
 | inst (C d:Addr)
 | dict (fs:List (Str×AV))
 | ba (b:List UInt8)
 | list (xs:List AV)
 | tup (xs:List AV)
 | cell (v:Option AV)
 | exc (C:Addr) (d:Option Addr) (t:Addr) (tb:AV)
 | tb (fl:Option Addr)
 | ns (ks:List Str)
 | raw (o:Obj)
noncomputable def dX(p:Str×AV) (e:DictEntry):Prop:=(∃t,e.key=.str p.1 t)∧Rep p.2 e.val
noncomputable def Ib:Option Addr→Value
 | some L=>rawInt L
 | none=>.none
inductive RepO:AO→Obj→Prop
 | inst (C d):RepO (.inst C d) (instObj C d)
 | dict {fs es} (n):All2 dX fs es→(fs.map (·.1)).Nodup→RepO (.dict fs) (dictOf es n)
 | ba (b):RepO (.ba b) { cls:=.type "bytearray",data:=.bytearray b.toArray 0 }
 | list {xs vs o} (n):All2 Rep xs vs→o.cls=.type "list"→o.data=.seq vs.toArray n→RepO (.list xs) o
 | tup {xs vs o} (n):All2 Rep xs vs→o.cls=.type "tuple"→o.data=.seq vs.toArray n→RepO (.tup xs) o
 | cell {v cv o}:Rep v cv→o.data=.cell (some cv)→RepO (.cell (some v)) o
 | cell0 {o}:o.data=.cell none→RepO (.cell none) o
 | exc {C d t tb tbv v2 v3 v4 v5 o}:Rep tb tbv→o.cls=.ref C→o.dict=d→o.data=.fields #[.ref t,tbv,v2,v3,v4,v5]→RepO (.exc C d t tb) o
 | tb {fl ts o}:o.data=.fields ts→ts[3]?=some (Ib fl)→RepO (.tb fl) o
 | ns {ks es ep o}:o.data=.dict es ep→StrKeys es→UniqKeys es→(∀y,nsFind es y≠none→y∈ks)→RepO (.ns ks) o
 | raw (o):RepO (.raw o) o
noncomputable abbrev Rep.Q(x:AV) (v:Value):Prop:=match x with
 | .none=>Value.none=v
 | .bool b=>Value.bool b=v
 | .int i=>∃t,Value.int i t=v
 | .bytes b=>∃t,Value.bytes b.toArray t=v
 | .str s=>∃t,Value.str s t=v
 | .ref a=>Value.ref a=v
 | .lit u=>u=v
theorem Rep.inv{x:AV}{v:Value}(r:Rep x v):Rep.Q x v:=by cases r <;> first |rfl |exact⟨_,rfl⟩
noncomputable abbrev RepO.Q(a:AO) (o:Obj):Prop:=match a with
 | .inst C d=>instObj C d=o
 | .dict fs=>∃es n,All2 dX fs es∧(fs.map (·.1)).Nodup∧dictOf es n=o
 | .ba b=>({ cls:=.type "bytearray",data:=.bytearray b.toArray 0 }:Obj)=o
 | .list xs=>∃n vs,All2 Rep xs vs∧o.cls=.type "list"∧o.data=.seq vs.toArray n
 | .tup xs=>∃n vs,All2 Rep xs vs∧o.cls=.type "tuple"∧o.data=.seq vs.toArray n
 | .cell v=>match v with
  | some v=>∃cv,Rep v cv∧o.data=.cell (some cv)
  | none=>o.data=.cell none
 | .exc C d t t2=>∃tbv v2 v3 v4 v5,Rep t2 tbv∧o.cls=.ref C∧o.dict=d∧o.data=.fields #[.ref t,tbv,v2,v3,v4,v5]
 | .tb fl=>∃ts,o.data=.fields ts∧ts[3]?=some (Ib fl)
 | .ns ks=>∃es ep,o.data=.dict es ep∧StrKeys es∧UniqKeys es∧(∀y,nsFind es y≠none→y∈ks)
 | .raw o'=>o'=o
theorem RepO.inv{a:AO}{o:Obj}(r:RepO a o):RepO.Q a o:=by
 cases r with
 | inst |ba |raw=>rfl
 | dict n h1 h2=>exact⟨_,n,h1,h2,rfl⟩
 | list n h1 h2 h3=>exact⟨n,_,h1,h2,h3⟩
 | tup n h1 h2 h3=>exact⟨n,_,h1,h2,h3⟩
 | cell h1 h2=>exact⟨_,h1,h2⟩
 | cell0 h=>exact h
 | exc h1 h2 h3 h4=>exact⟨_,_,_,_,_,h1,h2,h3,h4⟩
 | tb h1 h2=>exact⟨_,h1,h2⟩
 | ns h1 h2 h3 h4=>exact⟨_,_,h1,h2,h3,h4⟩
noncomputable abbrev b0:=List (Str×Option AV)
noncomputable abbrev AH:=List (Addr×AO)
structure FI where
 qual:Str
 scope:Scope
 func:Option Addr
 cd:Value
 locs:List Str
structure Fx where
 A:Around
 base:Heap
 outer:List Env
 stk:List Env
 h₀:Heap
 L:Addr
 frame:Addr
 cells:List (Str×Addr)
 os:OsState
noncomputable def FI.env(f:FI) (fx:Fx):Env:=
 { scope:=f.scope,locals:=fx.L,globals:=mainGlobals,cells:=fx.cells,qual:=f.qual++ ".<locals>.",func:=f.func,code:=f.cd,frame:=some fx.frame,builtins:=builtinsNs }
structure FI.Ok (f:FI):Prop where
 kind:f.scope.kind=.function
 loc:∀y∈f.locs,f.scope.names.lookup y=some .local
 nodup:f.locs.Nodup
noncomputable def FI.chk(f:FI):Bool:=(match f.scope.kind with | .function=>true |_=>false) && (f.locs.all fun x=>f.scope.names.lookup x == some .local) && decide f.locs.Nodup
theorem FI.ok_of{f:FI}(h:f.chk=true):f.Ok:=by
 unfold FI.chk at h
 rw[Bool.and_eq_true,Bool.and_eq_true] at h
 obtain⟨⟨h1,h2⟩,h3⟩:=h
 refine⟨?_,fun y hy=>by simpa using List.all_eq_true.mp h2 y hy,of_decide_eq_true h3⟩
 cases hk:f.scope.kind <;> simp_all
structure N7 (fx:Fx) (h₀:Heap):Prop where
 dom:∀b,fx.h₀.get? b=none→h₀.get? b=none
 up:∀b o,fx.h₀.get? b=some o→∃sl,h₀.get? b=some { o with slots:=sl }
 stays:fx.base.StaysIn h₀
 frames:h₀.FunFrames fx.base fx.outer
structure GM (fx:Fx) where
 h₀:Heap
 gd:N7 fx h₀
 m:Str→Option Value
noncomputable def GM.set{fx:Fx}(g:GM fx) (m:Str→Option Value):GM fx:=⟨g.h₀,g.gd,m⟩
noncomputable def bS(f:FI) (ρ:b0) (m:Str→Option Value):Prop:=
 ρ.map (·.1)=f.locs∧∀x v,(x,some v)∈ρ→∃cv,m x=some cv∧Rep v cv
structure Sat' (f:FI) (fx:Fx) (ρ:b0) (H:AH) (s:Shared) (m:GM fx) (news:List (Addr×Obj)):Prop where
 fr:Fr m.h₀ fx.L s.heap m.m
 nw:News m.h₀ fx.L s.heap news
 rho:bS f ρ m.m
 items:∀p∈H,∃o,(p.1,o)∈news∧RepO p.2 o
 keys:(H.map (·.1)).Nodup
 nodup:(news.map (·.1)).Nodup
 gens:s.gens= #[]
 os:s.os=fx.os
inductive Sat (f:FI) (fx:Fx) (ρ:b0) (H:AH) (s:Shared):Prop
 | mk (m:GM fx) (news:List (Addr×Obj)) (S:Sat' f fx ρ H s m news)
structure Cx (w:World) (f:FI) (fx:Fx) (n:Nat):Prop where
 ok:f.Ok
 frames:fx.A.frames=some fx.stk
 stk:fx.stk=fx.outer∨(fx.stk=f.env fx::fx.outer∧fx.frame=fx.L)
 K:Frag.In (KG w.params) fx.base
 room:fx.A.depth+n≤990
 guards:fx.A.guards=some []
theorem Sat'.K{w:World}{f:FI}{fx:Fx}{n:Nat}{ρ:b0}{H:AH}{s:Shared}{m:GM fx}{news:List (Addr×Obj)}(_:Sat' f fx ρ H s m news) (c:Cx w f fx n):Frag.In (KG w.params) m.h₀:=c.K.keeps m.gd.stays
theorem Sat'.KH{w:World}{f:FI}{fx:Fx}{n:Nat}{ρ:b0}{H:AH}{s:Shared}{m:GM fx}{news:List (Addr×Obj)}(S:Sat' f fx ρ H s m news) (c:Cx w f fx n):Frag.In (KG w.params) s.heap:=(S.K c).keeps S.fr.keep
inductive pY {α β:Type}(f:FI) (fx:Fx) (rep:β→α→Prop) (Q:β→b0→AH→Prop) (v:α) (s:Shared):Prop
 | mk (b:β) (ρ:b0) (H:AH) (r:rep b v) (S:Sat f fx ρ H s) (q:Q b ρ H)
noncomputable abbrev gG(f:FI) (fx:Fx) (X:AV→b0→AH→Prop):Value→Shared→Prop:=pY f fx Rep X
noncomputable def Tr{α β:Type}(w:World) (f:FI) (fx:Fx) (X:AV→b0→AH→Prop) (rep:β→α→Prop) (t:Sem α) (ρ:b0) (H:AH) (Q:β→b0→AH→Prop):Prop:=
 ∀s,Sat f fx ρ H s→c8 (model pw w) fx.A t (pY f fx rep Q) (gG f fx X) s
noncomputable abbrev Ev(w:World) (f:FI) (fx:Fx) (X:AV→b0→AH→Prop) (e:Expr) (ρ:b0) (H:AH) (Q:AV→b0→AH→Prop):Prop:=Tr w f fx X Rep (eval e (f.env fx)) ρ H Q
inductive AF where
 | next |brk |cont
 | ret (v:AV)
inductive RepF:AF→Flow→Prop
 | next:RepF .next .next
 | brk:RepF .brk .brk
 | cont:RepF .cont .cont
 | ret {v cv}:Rep v cv→RepF (.ret v) (.ret cv)
noncomputable abbrev RepF.Q(a:AF) (f:Flow):Prop:=match a with
 | .next=>Flow.next=f
 | .brk=>Flow.brk=f
 | .cont=>Flow.cont=f
 | .ret v=>∃cv,Rep v cv∧Flow.ret cv=f
theorem RepF.inv{a:AF}{f:Flow}(r:RepF a f):RepF.Q a f:=by
 cases r with
 | ret r=>exact⟨_,r,rfl⟩
 | _=>rfl
noncomputable abbrev Ex(w:World) (f:FI) (fx:Fx) (X:AV→b0→AH→Prop) (ss:List Stmt) (ρ:b0) (H:AH) (Q:AF→b0→AH→Prop):Prop:=Tr w f fx X RepF (execs ss (f.env fx)) ρ H Q
noncomputable abbrev bT(w:World) (f:FI) (fx:Fx) (X:AV→b0→AH→Prop) (st:Stmt) (ρ:b0) (H:AH) (Q:AF→b0→AH→Prop):Prop:=Tr w f fx X RepF (exec st (f.env fx)) ρ H Q
noncomputable abbrev Te(w:World) (f:FI) (fx:Fx) (X:AV→b0→AH→Prop) (e:Expr) (ρ:b0) (H:AH) (Q:Bool→b0→AH→Prop):Prop:=Tr w f fx X Eq (isTrue e (f.env fx) (eval e (f.env fx))) ρ H Q
inductive In1 {α β:Type}(k:α) (v:β):List (α×β)→Prop
 | here {l}:In1 k v ((k,v)::l)
 | there {p l}:In1 k v l→In1 k v (p::l)
inductive Put1 {α β:Type}(k:α) (v:β):List (α×β)→List (α×β)→Prop
 | here {u l}:Put1 k v ((k,u)::l) ((k,v)::l)
 | there {p l l'}:Put1 k v l l'→Put1 k v (p::l) (p::l')
theorem In1.mem{α β:Type}{k:α}{v:β}{l:List (α×β)}(h:In1 k v l):(k,v)∈l:=by
 induction h with
 | here=>exact .head _
 | there _ ih=>exact .tail _ ih
theorem Put1.keys{α β:Type}{k:α}{v:β}{l l':List (α×β)}(h:Put1 k v l l'):l'.map (·.1)=l.map (·.1):=by
 induction h with
 | here=>rfl
 | there _ ih=>simp only[List.map_cons,ih]
theorem Put1.mem{α β:Type}{k:α}{v:β}{l l':List (α×β)}(h:Put1 k v l l'):∀x u,(x,u)∈l'→(x=k∧u=v)∨((x,u)∈l∧((l.map (·.1)).Nodup→x≠k)):=by
 induction h with
 | here=>
  intro x u hm
  rcases List.mem_cons.mp hm with e |hm2
  ·cases e;exact .inl ⟨rfl,rfl⟩
  ·refine .inr ⟨.tail _ hm2,fun hn e=>?_⟩
   subst e
   exact(List.nodup_cons.mp hn).1 (List.mem_map_of_mem (f:=(·.1)) hm2)
 | @there p l l' hp ih=>
  intro x u hm
  rcases List.mem_cons.mp hm with e |hm
  ·refine .inr ⟨by rw[← e];exact .head _,fun hn e'=>?_⟩
   subst e'
   have:x∈l.map (·.1):=by
    clear ih hn hm
    induction hp with
    | here=>exact .head _
    | there _ ih=>exact .tail _ ih
   exact(List.nodup_cons.mp hn).1 (by rw[← e];exact this)
  ·rcases ih x u hm with h | ⟨h1,h2⟩
   ·exact .inl h
   ·exact .inr ⟨.tail _ h1,fun hn=>h2 (List.nodup_cons.mp hn).2⟩
section
variable{w:World}{f:FI}{fx:Fx}{X:AV→b0→AH→Prop}{ρ:b0}{H:AH}
theorem z7{α β:Type}{rep:β→α→Prop}{t:Sem α}{Q Q':β→b0→AH→Prop}(h:Tr w f fx X rep t ρ H Q) (hQ:∀b ρ' H',Q b ρ' H'→Q' b ρ' H'):Tr w f fx X rep t ρ H Q':=
 fun s hs=>b6 (h s hs) (fun _ _ ⟨b,ρ',H',h1,h2,h3⟩=>⟨b,ρ',H',h1,h2,hQ _ _ _ h3⟩) fun _ _ x=>x
theorem Sat'.toks{s:Shared}{m:GM fx}{news:List (Addr×Obj)}(S:Sat' f fx ρ H s m news) (t:Nat):Sat' f fx ρ H { s with toks:=t } m news:=⟨S.fr,S.nw,S.rho,S.items,S.keys,S.nodup,S.gens,S.os⟩
theorem Sat.toks{s:Shared}(S:Sat f fx ρ H s) (t:Nat):Sat f fx ρ H { s with toks:=t }:=let⟨m,news,h⟩:=S; ⟨m,news,h.toks t⟩
theorem m7{x:Str}{p:Pos}{v:AV}{Q:AV→b0→AH→Prop}(ok:f.Ok) (hx:In1 x (some v) ρ) (hd:(x == ("__debug__":Str))=false) (h:Q v ρ H):Ev w f fx X (.Name x p) ρ H Q:=by
 intro s ⟨m,news,S⟩
 obtain⟨cv,e,r⟩:=S.rho.2 x v hx.mem
 have hl:(f.env fx).kindOf x=some .local:=ok.loc x (by rw[← S.rho.1];exact List.mem_map_of_mem (f:=(·.1)) hx.mem)
 exact a6 (wpAny_Name (wpAny_loadName_local ok.kind hl S.fr.ns e ⟨v,ρ,H,r,⟨m,news,S⟩,h⟩) hd)
theorem u1{i:Int}{k:Nat}{p:Pos}{Q:AV→b0→AH→Prop}(h:Q (.int i) ρ H):Ev w f fx X (.Constant (.int i) k p) ρ H Q:=by
 intro s S
 exact a6 (wpAny_Constant_int ⟨_,ρ,H,.int _ _,S.toks _,h⟩)
theorem EP{k:Nat}{p:Pos}{Q:AV→b0→AH→Prop}(h:Q .none ρ H):Ev w f fx X (.Constant .none k p) ρ H Q:=by
 intro s S
 exact a6 (wpAny_Constant_none ⟨_,ρ,H,.none,S,h⟩)
theorem xG{b:Bool}{k:Nat}{p:Pos}{Q:AV→b0→AH→Prop}(h:Q (.bool b) ρ H):Ev w f fx X (.Constant (.bool b) k p) ρ H Q:=by
 intro s S
 exact a6 (wpAny_Constant_bool ⟨_,ρ,H,.bool _,S,h⟩)
theorem pZ{b:List UInt8}{k:Nat}{p:Pos}{Q:AV→b0→AH→Prop}(h:Q (.bytes b) ρ H):Ev w f fx X (.Constant (.bytes b) k p) ρ H Q:=by
 intro s S
 exact a6 (Constant_bytes ⟨_,ρ,H,.bytes _ _,S.toks _,h⟩)
theorem Ic{x:Str}{k:Nat}{p:Pos}{Q:AV→b0→AH→Prop}(h:Q (.str x) ρ H):Ev w f fx X (.Constant (.str x) k p) ρ H Q:=by
 intro s S
 exact a6 (wpAny_Constant_str ⟨_,ρ,H,.str _ _,S.toks _,h⟩)
noncomputable abbrev S9(w:World) (f:FI) (fx:Fx) (X:AV→b0→AH→Prop) (t:Value→Value→Sem Value) (x y:AV) (ρ:b0) (H:AH) (Q:AV→b0→AH→Prop):Prop:=∀a b,Rep x a→Rep y b→Tr w f fx X Rep (t a b) ρ H Q
noncomputable abbrev xH(w:World) (f:FI) (fx:Fx) (X:AV→b0→AH→Prop) (x:AV) (ρ:b0) (H:AH) (Q:Bool→b0→AH→Prop):Prop:=∀a,Rep x a→Tr w f fx X Eq (truthy a) ρ H Q
noncomputable abbrev xI(w:World) (f:FI) (fx:Fx) (X:AV→b0→AH→Prop) (t:Value→Value→Sem Value) (x:AV) (Q:AV→b0→AH→Prop) (y:AV) (ρ:b0) (H:AH):Prop:=S9 w f fx X t x y ρ H Q
noncomputable abbrev Id(w:World) (f:FI) (fx:Fx) (X:AV→b0→AH→Prop) (t:Value→Value→Sem Value) (r:Expr) (Q:AV→b0→AH→Prop) (x:AV) (ρ:b0) (H:AH):Prop:=Ev w f fx X r ρ H (xI w f fx X t x Q)
noncomputable abbrev EQ(w:World) (f:FI) (fx:Fx) (X:AV→b0→AH→Prop) (Q:Bool→b0→AH→Prop) (v:AV) (ρ:b0) (H:AH):Prop:=xH w f fx X v ρ H Q
noncomputable abbrev kN(w:World) (f:FI) (fx:Fx) (X:AV→b0→AH→Prop) (rest:List Stmt) (Q:AF→b0→AH→Prop) (fl:AF) (ρ:b0) (H:AH):Prop:=match fl with
 | .next=>Ex w f fx X rest ρ H Q
 | fl=>Q fl ρ H
noncomputable abbrev GP(w:World) (f:FI) (fx:Fx) (X:AV→b0→AH→Prop) (rest:List Stmt) (Q:AF→b0→AH→Prop) (ρ:b0) (H:AH):Prop:=Ex w f fx X rest ρ H Q
noncomputable abbrev Sx(w:World) (f:FI) (fx:Fx) (X:AV→b0→AH→Prop) (a b:List Stmt) (Q:AF→b0→AH→Prop) (c:Bool) (ρ:b0) (H:AH):Prop:=match c with
 | true=>Ex w f fx X a ρ H Q
 | false=>Ex w f fx X b ρ H Q
noncomputable abbrev Sy(w:World) (f:FI) (fx:Fx) (X:AV→b0→AH→Prop) (a b:Expr) (Q:AV→b0→AH→Prop) (c:Bool) (ρ:b0) (H:AH):Prop:=match c with
 | true=>Ev w f fx X a ρ H Q
 | false=>Ev w f fx X b ρ H Q
noncomputable abbrev Qm(Q:AF→b0→AH→Prop) (v:AV):b0→AH→Prop:=Q (.ret v)
inductive ER (x:Str) (Q:b0→AH→Prop) (v:AV) (ρ:b0) (H:AH):Prop
 | mk (ρ₂:b0) (hp:Put1 x (some v) ρ ρ₂) (q:Q ρ₂ H)
inductive BQ (Q:b0→AH→Prop) (v:AV) (ρ:b0) (H:AH):Prop
 | mk (e:v=.none) (q:Q ρ H)
theorem c4{l r:Expr}{op:Operator}{p:Pos}{Q:AV→b0→AH→Prop}(h:Ev w f fx X l ρ H (Id w f fx X (binaryOp op) r Q)):Ev w f fx X (.BinOp l op r p) ρ H Q:=
 fun s S=>HY (b6 (h s S) (fun a s₁ ⟨x,ρ₁,H₁,rx,S₁,h₁⟩=>b6 (h₁ s₁ S₁) (fun b s₂ ⟨y,ρ₂,H₂,ry,S₂,h₂⟩=>h₂ a b rx ry s₂ S₂) fun _ _ x=>x) fun _ _ x=>x)
theorem V6{l r:Expr}{op:CmpOp}{p:Pos}{Q:AV→b0→AH→Prop}(hm:behindInMarks op r=false) (h:Ev w f fx X l ρ H (Id w f fx X (compareOp op) r Q)):Ev w f fx X (.Compare l [op] [r] p) ρ H Q:=
 fun s S=>yS hm (b6 (h s S) (fun a s₁ ⟨x,ρ₁,H₁,rx,S₁,h₁⟩=>b6 (h₁ s₁ S₁) (fun b s₂ ⟨y,ρ₂,H₂,ry,S₂,h₂⟩=>h₂ a b rx ry s₂ S₂) fun _ _ x=>x) fun _ _ x=>x)
theorem y3{i j:Int}{Q:AV→b0→AH→Prop}(h:Q (.int (i+j)) ρ H):S9 w f fx X (binaryOp .Add) (.int i) (.int j) ρ H Q:=by
 refine r6 ?_
 rintro _ _ s S
 exact a6 (add_int ⟨_,ρ,H,.int _ _,S.toks _,h⟩)
theorem w2{i j:Int}{Q:AV→b0→AH→Prop}(h:Q (.int (i - j)) ρ H):S9 w f fx X (binaryOp .Sub) (.int i) (.int j) ρ H Q:=by
 refine r6 ?_
 rintro _ _ s S
 exact a6 (sub_int ⟨_,ρ,H,.int _ _,S.toks _,h⟩)
theorem x6{i j:Int}{Q:AV→b0→AH→Prop}(hm:IntMulOk i j) (h:Q (.int (i*j)) ρ H):S9 w f fx X (binaryOp .Mult) (.int i) (.int j) ρ H Q:=by
 refine r6 ?_
 rintro _ _ s S
 exact a6 (mul_int ⟨_,ρ,H,.int _ _,S.toks _,h⟩ hm)
theorem j9{i j:Int}{Q:AV→b0→AH→Prop}(h:Q (.int (Builtin.bitAnd i j)) ρ H):S9 w f fx X (binaryOp .BitAnd) (.int i) (.int j) ρ H Q:=by
 refine r6 ?_
 rintro _ _ s S
 exact a6 (and_int ⟨_,ρ,H,.int _ _,S.toks _,h⟩)
theorem BR{i j:Int}{Q:AV→b0→AH→Prop}(h:Q (.int (Builtin.bitOr i j)) ρ H):S9 w f fx X (binaryOp .BitOr) (.int i) (.int j) ρ H Q:=by
 refine r6 ?_
 rintro _ _ s S
 exact a6 (or_int ⟨_,ρ,H,.int _ _,S.toks _,h⟩)
theorem N8{i j:Int}{Q:AV→b0→AH→Prop}(h:Q (.int (Builtin.bitXor i j)) ρ H):S9 w f fx X (binaryOp .BitXor) (.int i) (.int j) ρ H Q:=by
 refine r6 ?_
 rintro _ _ s S
 exact a6 (xor_int ⟨_,ρ,H,.int _ _,S.toks _,h⟩)
theorem BS{i n:Int}{Q:AV→b0→AH→Prop}(hn:0≤n) (h:Q (.int (i.fdiv (2 ^ n.toNat))) ρ H):S9 w f fx X (binaryOp .RShift) (.int i) (.int n) ρ H Q:=by
 refine r6 ?_
 rintro _ _ s S
 exact a6 (rshift_int hn ⟨_,ρ,H,.int _ _,S.toks _,h⟩)
theorem T9{i j:Int}{Q:AV→b0→AH→Prop}(h:Q (.bool (i == j)) ρ H):S9 w f fx X (compareOp .Eq) (.int i) (.int j) ρ H Q:=by
 refine r6 ?_
 rintro _ _ s S
 exact a6 (eq_int ⟨_,ρ,H,.bool _,S,h⟩)
theorem qA{i j:Int}{Q:AV→b0→AH→Prop}(h:Q (.bool (i != j)) ρ H):S9 w f fx X (compareOp .NotEq) (.int i) (.int j) ρ H Q:=by
 refine r6 ?_
 rintro _ _ s S
 exact a6 (ne_int ⟨_,ρ,H,.bool _,S,h⟩)
theorem xJ{i j:Int}{Q:AV→b0→AH→Prop}(h:Q (.bool (decide (i<j))) ρ H):S9 w f fx X (compareOp .Lt) (.int i) (.int j) ρ H Q:=by
 refine r6 ?_
 rintro _ _ s S
 exact a6 (lt_int ⟨_,ρ,H,.bool _,S,h⟩)
theorem bU{i j:Int}{Q:AV→b0→AH→Prop}(h:Q (.bool (decide (i≤j))) ρ H):S9 w f fx X (compareOp .LtE) (.int i) (.int j) ρ H Q:=by
 refine r6 ?_
 rintro _ _ s S
 exact a6 (le_int ⟨_,ρ,H,.bool _,S,h⟩)
theorem N9{i j:Int}{Q:AV→b0→AH→Prop}(h:Q (.bool (decide (i > j))) ρ H):S9 w f fx X (compareOp .Gt) (.int i) (.int j) ρ H Q:=by
 refine r6 ?_
 rintro _ _ s S
 exact a6 (gt_int ⟨_,ρ,H,.bool _,S,h⟩)
theorem Qn{i j:Int}{Q:AV→b0→AH→Prop}(h:Q (.bool (decide (i ≥ j))) ρ H):S9 w f fx X (compareOp .GtE) (.int i) (.int j) ρ H Q:=by
 refine r6 ?_
 rintro _ _ s S
 exact a6 (ge_int ⟨_,ρ,H,.bool _,S,h⟩)
theorem f8{Q:AF→b0→AH→Prop}(h:Q .next ρ H):Ex w f fx X [] ρ H Q:=fun s S=>a6 (wpAny_execs_nil ⟨_,ρ,H,.next,S,h⟩)
theorem b8{st:Stmt}{rest:List Stmt}{Q:AF→b0→AH→Prop}(h:bT w f fx X st ρ H (kN w f fx X rest Q)):Ex w f fx X (st::rest) ρ H Q:=by
 intro s S
 refine uK (b6 (h s S) (fun fl s₁ hh=>?_) fun _ _ x=>x)
 obtain⟨b,ρ₁,H₁,r,S₁,h₁⟩:=hh
 cases r with
 | next=>exact h₁ s₁ S₁
 | brk=>exact⟨_,ρ₁,H₁,.brk,S₁,h₁⟩
 | cont=>exact⟨_,ρ₁,H₁,.cont,S₁,h₁⟩
 | ret r=>exact⟨_,ρ₁,H₁,.ret r,S₁,h₁⟩
theorem w8{e:Expr}{p:Pos}{Q:AF→b0→AH→Prop}(h:Ev w f fx X e ρ H (Qm Q)):bT w f fx X (.Return (some e) p) ρ H Q:=
 fun s S=>EO (b6 (h s S) (fun v s₁ ⟨b,ρ₁,H₁,r,S₁,h₁⟩=>⟨_,ρ₁,H₁,.ret r,S₁,h₁⟩) fun _ _ x=>x)
theorem B5{t:Expr}{a b:List Stmt}{p:Pos}{Q:AF→b0→AH→Prop}(h:Te w f fx X t ρ H (Sx w f fx X a b Q)):bT w f fx X (.If t a b p) ρ H Q:=by
 intro s S
 refine cIf (b6 (h s S) (fun c s₁ hh=>?_) fun _ _ x=>x)
 obtain⟨c',ρ₁,H₁,rfl,S₁,h₁⟩:=hh
 cases c' with
 | true=>exact h₁ s₁ S₁
 | false=>exact h₁ s₁ S₁
theorem z8{t a b:Expr}{p:Pos}{Q:AV→b0→AH→Prop}(h:Te w f fx X t ρ H (Sy w f fx X a b Q)):Ev w f fx X (.IfExp t a b p) ρ H Q:=by
 intro s S
 refine HZ (b6 (h s S) (fun c s₁ hh=>?_) fun _ _ x=>x)
 obtain⟨c',ρ₁,H₁,rfl,S₁,h₁⟩:=hh
 cases c' with
 | true=>exact h₁ s₁ S₁
 | false=>exact h₁ s₁ S₁
theorem q8{e:Expr}{Q:Bool→b0→AH→Prop}(he:isTrue e (f.env fx) (eval e (f.env fx))=(do let v ← eval e (f.env fx);standAt e.pos;holding [v] (truthy v)))
  (h:Ev w f fx X e ρ H (EQ w f fx X Q)):Te w f fx X e ρ H Q:=
 fun s S=>uJ he (b6 (h s S) (fun v s₁ ⟨b,ρ₁,H₁,r,S₁,h₁⟩=>h₁ v r s₁ S₁) fun _ _ x=>x)
theorem d6{l r:Expr}{op:CmpOp}{p:Pos}{Q:Bool→b0→AH→Prop}(hm:behindInMarks op r=false)
  (h:Ev w f fx X l ρ H (Id w f fx X (compareOp op) r (EQ w f fx X Q))):Te w f fx X (.Compare l [op] [r] p) ρ H Q:=
 fun s S=>gJ hm (b6 (h s S) (fun a s₁ ⟨x,ρ₁,H₁,rx,S₁,h₁⟩=>b6 (h₁ s₁ S₁) (fun b s₂ ⟨y,ρ₂,H₂,ry,S₂,h₂⟩=>b6 (h₂ a b rx ry s₂ S₂)
  (fun c s₃ ⟨z,ρ₃,H₃,rz,S₃,h₃⟩=>h₃ c rz s₃ S₃) fun _ _ x=>x) fun _ _ x=>x) fun _ _ x=>x)
theorem Ie{e:Expr}{p:Pos}{Q:Bool→b0→AH→Prop}(h:Te w f fx X e ρ H fun b=>Q (!b)):Te w f fx X (.UnaryOp .Not e p) ρ H Q:=
 fun s S=>BM (b6 (h s S) (fun v s₁ ⟨b,ρ₁,H₁,r,S₁,h₁⟩=>⟨_,ρ₁,H₁,by rw[r],S₁,h₁⟩) fun _ _ x=>x)
theorem Y4{b:Bool}{Q:Bool→b0→AH→Prop}(h:Q b ρ H):xH w f fx X (.bool b) ρ H Q:=by
 refine I5 ?_
 rintro s S
 exact a6 (wpAny_truthy_bool ⟨_,ρ,H,rfl,S,h⟩)
theorem Put1.in{α β:Type}{k:α}{v:β}{l l':List (α×β)}(h:Put1 k v l l'):k∈l.map (·.1):=by
 induction h with
 | here=>exact .head _
 | there _ ih=>exact .tail _ ih
theorem ES{x:Str}{v:AV}{cv:Value}{ρ':b0}{m:Str→Option Value}(ok:f.Ok) (hp:Put1 x (some v) ρ ρ') (r:Rep v cv) (h:bS f ρ m):bS f ρ' (fun y=>if y=x then some cv else m y):=by
 refine⟨hp.keys.trans h.1,fun y u hy=>?_⟩
 rcases hp.mem y (some u) hy with ⟨rfl,e⟩ | ⟨h1,h2⟩
 ·cases e;exact⟨cv,if_pos rfl,r⟩
 ·have:=h2 (by rw[h.1];exact ok.nodup)
  obtain⟨cv,e1,e2⟩:=h.2 y u h1
  exact⟨cv,(if_neg this).trans e1,e2⟩
theorem r9{M:Model}{A:Around}{E:Value→Shared→Prop}{x:Str}{v:AV}{cv:Value}{ρ':b0}{s:Shared}{m:GM fx}{news:List (Addr×Obj)}{Q:Unit→Shared→Prop}(ok:f.Ok) (hp:Put1 x (some v) ρ ρ') (r:Rep v cv) (S:Sat' f fx ρ H s m news)
  (h:∀h',Sat f fx ρ' H { s with heap:=h',toks:=s.toks+1 }→Q () { s with heap:=h',toks:=s.toks+1 }):wpAny M A (storeName (f.env fx) x cv) Q E s:=by
 have hx:x∈f.locs:=by rw[← S.rho.1];exact hp.in
 refine wpAny_storeName_local (env:=f.env fx) (ok.loc x hx) S.fr.ns (fun h' hn hs=>h h' ?_) (by show(f.scope.kind == .class || (f.scope.kind == .module && fx.L != mainGlobals))=false;rw[ok.kind];rfl)
 exact⟨m.set (fun y=>if y=x then some cv else m.m y),news,S.fr.set hn hs,S.nw.set hs,ES ok hp r S.rho,S.items,S.keys,S.nodup,S.gens,S.os⟩
theorem m6{x:Str}{p p':Pos}{e:Expr}{Q:AF→b0→AH→Prop}(ok:f.Ok)
  (h:Ev w f fx X e ρ H (ER x (Q .next))) (hs:swapsWith e (some (.Name x p')) p.line (f.env fx)=pure false):bT w f fx X (.Assign [.Name x p'] e p) ρ H Q:=by
 intro s S
 refine bR hs (b6 (h s S) (fun v s₁ hh=>?_) fun _ _ x=>x)
 obtain⟨b,ρ₁,H₁,r,⟨m,news,S₁⟩,ρ₂,hp,hQ⟩:=hh
 exact a6 (r9 ok hp r S₁ fun h' S'=>⟨_,ρ₂,H₁,.next,S',hQ⟩)
end
section
variable{w:World}{f:FI}{fx:Fx}{X:AV→b0→AH→Prop}{ρ:b0}{H:AH}{s:Shared}{m:GM fx}{news:List (Addr×Obj)}{n:Nat}
theorem Sat'.fresh(S:Sat' f fx ρ H s m news):∀p∈news,p.1<s.heap.objs.size:=fun p hp=>Heap.lt_size (S.nw p hp).1
theorem Sat'.push{o:Obj}{ao:AO}{s':Shared}(S:Sat' f fx ρ H s m news) (hf:o.isFreed=false) (hr:RepO ao o) (hh:s'.heap=s.heap.push o) (hg:s'.gens=s.gens) (ho:s'.os=s.os) :
  Sat' f fx ρ ((s.heap.objs.size,ao)::H) s' m ((s.heap.objs.size,o)::news):=by
 have fr:=S.fresh
 refine⟨hh▸S.fr.push _,hh▸S.nw.push S.fr _ hf,S.rho,fun p hp=>?_,List.nodup_cons.mpr ⟨fun q=>?_,S.keys⟩,List.nodup_cons.mpr ⟨fun q=>?_,S.nodup⟩,hg.trans S.gens,ho.trans S.os⟩
 ·rcases List.mem_cons.mp hp with rfl |hp
  ·exact⟨o,.head _,hr⟩
  ·refine f9 (S.items p hp) fun x h1 h2=>?_
   exact⟨x,.tail _ h1,h2⟩
 ·refine f9 (List.mem_map.mp q) fun p hp e=>?_
  refine f9 (S.items p hp) fun x h1 _=>?_
  have:=fr _ h1
  exact absurd this (by rw[show p.1=s.heap.objs.size from e];exact Nat.lt_irrefl _)
 ·refine f9 (List.mem_map.mp q) fun p hp e=>?_
  exact absurd (fr p hp) (by rw[show p.1=s.heap.objs.size from e];exact Nat.lt_irrefl _)
theorem Sat.sub{H':AH}(S:Sat f fx ρ H s) (h:∀p∈H',p∈H) (hn:(H'.map (·.1)).Nodup):Sat f fx ρ H' s:=
 let⟨m,news,S⟩:=S
 ⟨m,news,S.fr,S.nw,S.rho,fun p hp=>S.items p (h p hp),hn,S.nodup,S.gens,S.os⟩
theorem uM{d:Addr}{o o':Obj}:∀ {news:List (Addr×Obj)},(d,o)∈news→(news.map (·.1)).Nodup→
  ∃news',Upd d o o' news news'∧news'.map (·.1)=news.map (·.1)∧(d,o')∈news'∧∀p∈news,p.1≠d→p∈news'
 | (x,ox)::r,hm,hn=>by
  have hn':=List.nodup_cons.mp hn
  by_cases hx:x=d
  ·subst hx
   have:ox=o:=by
    rcases List.mem_cons.mp hm with e |e
    ·exact(congrArg Prod.snd e).symm
    ·exact absurd (List.mem_map_of_mem (f:=(·.1)) e) hn'.1
   subst this
   refine⟨(x,o')::r,.head fun p hp q=>hn'.1 (q▸List.mem_map_of_mem (f:=(·.1)) hp),rfl,.head _,fun p hp hne=>?_⟩
   rcases List.mem_cons.mp hp with rfl |hp
   ·exact absurd rfl hne
   ·exact .tail _ hp
  ·have hm':(d,o)∈r:=by
    rcases List.mem_cons.mp hm with e |e
    ·exact absurd (congrArg Prod.fst e).symm hx
    ·exact e
   refine wU (uM (o':=o') hm' hn'.2) fun n' a b c e=>?_
   refine⟨(x,ox)::n',.tail hx a,by simp only[List.map_cons,b],.tail _ c,fun p hp hne=>?_⟩
   rcases List.mem_cons.mp hp with rfl |hp
   ·exact .head _
   ·exact .tail _ (e p hp hne)
theorem Sat'.upd{d:Addr}{ao':AO}{o':Obj}{H':AH}{news':List (Addr×Obj)}{s':Shared}(S:Sat' f fx ρ H s m news) (hp:Put1 d ao' H H') (hr:RepO ao' o')
  (F':Fr m.h₀ fx.L s'.heap m.m) (N':News m.h₀ fx.L s'.heap news') (k1:news'.map (·.1)=news.map (·.1)) (k2:(d,o')∈news') (k3:∀p∈news,p.1≠d→p∈news') (hg:s'.gens=s.gens) (ho:s'.os=s.os):Sat' f fx ρ H' s' m news':=by
 refine⟨F',N',S.rho,fun p hp'=>?_,by rw[hp.keys];exact S.keys,by rw[k1];exact S.nodup,hg.trans S.gens,ho.trans S.os⟩
 obtain⟨x,u⟩:=p
 rcases hp.mem x u hp' with ⟨rfl,rfl⟩ | ⟨h1,h2⟩
 ·exact⟨o',k2,hr⟩
 ·refine f9 (S.items _ h1) fun y a b=>?_
  exact⟨y,k3 _ a (h2 S.keys),b⟩
theorem Qo(P:Params):(u4 P).isNs mainGlobals=true:=by kernel_rfl
theorem Sz(P:Params):(u4 P).isNs builtinsNs=true:=by kernel_rfl
theorem Qp(P:Params):(u4 P).isNs cStatics=true∧(u4 P).nsMap cStatics "sys.recursionlimit" = none:=⟨by kernel_rfl,by kernel_rfl⟩
noncomputable def G4(P:Params) (x:Str):Option Value:=match nsIn (KG P) mainGlobals x with
 | some (some v)=>some v
 | some none=>(match nsIn (KG P) builtinsNs x with
  | some r=>r
  | none=>none)
 | none=>none
theorem BU{K:Frag}{h:Heap}{ns:Addr}{m:Str→Option Value}{x:Str}{r:Option Value}(Y:Frag.In K h) (G:h.Ns ns m) (e:nsIn K ns x=some r):m x=r:=by
 refine Y0 (G) fun o es ep ho hd _ hf=>?_
 unfold nsIn at e
 split at e
 ·rename_i c d es' n' sl q
  have z:=Y _ _ q
  rw[ho] at z
  cases z
  cases hd
  have hm:m x=(es.toList.find? (·.key.isStr x)).map (·.val):=by
   rw[← hf,Array.find?_toList]
   rfl
  rw[hm]
  split at e
  ·rename_i en he
   rw[he]
   exact Option.some.inj e
  ·rename_i he
   rw[he]
   split at e
   ·cases e
   ·exact Option.some.inj e
 ·cases e
variable{h:Heap}
theorem GQ(K:Frag.In (KG w.params) h):h.Ns builtinsNs ((u4 w.params).nsMap builtinsNs):=by
 have g:h.get? builtinsNs=(u4 w.params).get? builtinsNs:=(K _ _ (Sw w.params).1).trans (m0 w.params).1.symm
 rw[← r8 g]
 exact .of_isNs ((q7 g).trans (Sz _))
theorem qB(K:Frag.In (KG w.params) h):h.Ns mainGlobals ((u4 w.params).nsMap mainGlobals):=by
 have g:h.get? mainGlobals=(u4 w.params).get? mainGlobals:=(K _ _ (Sw w.params).2.2.1).trans (m0 w.params).2.2.symm
 rw[← r8 g]
 exact .of_isNs ((q7 g).trans (Qo _))
theorem Q5(K:Frag.In (KG w.params) h):h.NoLimit:=by
 have g:h.get? cStatics=(u4 w.params).get? cStatics:=(K _ _ (Sw w.params).2.1).trans (m0 w.params).2.1.symm
 refine⟨(u4 w.params).nsMap cStatics,?_,(Qp _).2⟩
 rw[← r8 g]
 exact .of_isNs ((q7 g).trans (Qp _).1)
theorem G9{m:Str→Option Value}{x:Str}{p:Pos}{v:Value}{Q:Value→Shared→Prop}{E:Value→Shared→Prop}{A:Around}{env:Env}{h₀:Heap}{L:Addr}(F:Fr h₀ L s.heap m) (K:Frag.In (KG w.params) h₀) (hv:G4 w.params x=some v) (hk:env.scope.kind=.function)
  (hx:env.kindOf x=some .globalImplicit) (hg:env.globals=mainGlobals) (hb:env.builtins=builtinsNs) (hd:(x == ("__debug__":Str))=false) (h:Q v s):wpAny (model pw w) A (eval (.Name x p) env) Q E s:=by
 have K':=K.keeps F.keep
 have n3:s.heap.Ns env.globals ((u4 w.params).nsMap mainGlobals):=by rw[hg];exact qB K'
 have n0:s.heap.Ns env.builtins ((u4 w.params).nsMap builtinsNs):=by rw[hb];exact GQ K'
 unfold G4 at hv
 split at hv
 ·rename_i u q
  cases hv
  exact Name_function_global hk hx (loadGlobal_global (env:=env) n3 (BU K' (qB K') q) h) hd
 ·rename_i q
  split at hv
  ·rename_i r q2
   subst hv
   exact Name_function_global hk hx (loadGlobal_builtin (env:=env) n3 (BU K' (qB K') q) n0 (BU K' (GQ K') q2) h) hd
  ·cases hv
 ·cases hv
inductive GV:AV→Value→Prop
 | ref (a):GV (.ref a) (.ref a)
 | int (i t):GV (.int i) (.int i t)
 | lit (v):GV (.lit v) v
theorem GV.rep{a:AV}{v:Value}(h:GV a v):Rep a v:=by cases h <;> constructor
theorem ET{x:Str}{p:Pos}{v:Value}{av:AV}{Q:AV→b0→AH→Prop}(C:Cx w f fx n) (hv:G4 w.params x=some v) (hr:GV av v) (hx:(f.scope.names.lookup x == some .globalImplicit)=true)
  (hd:(x == ("__debug__":Str))=false) (h:Q av ρ H):Ev w f fx X (.Name x p) ρ H Q:=by
 intro s ⟨m,news,S⟩
 refine a6 (G9 (env:=f.env fx) S.fr (S.K C) hv C.ok.kind (beq_iff_eq.mp hx) rfl rfl hd ?_)
 exact⟨av,ρ,H,hr.rep,⟨m,news,S⟩,h⟩
noncomputable abbrev Ea(w:World) (f:FI) (fx:Fx) (X:AV→b0→AH→Prop) (es:List Expr) (ρ:b0) (H:AH) (Q:List AV→b0→AH→Prop):Prop:=∀pos,Tr w f fx X (All2 Rep) (spliced (backTo pos (starEach es (f.env fx)))) ρ H Q
theorem g7{Q:List AV→b0→AH→Prop}(h:Q [] ρ H):Ea w f fx X [] ρ H Q:=fun pos s S=>N6 ⟨_,ρ,H,.nil,S,h⟩
noncomputable abbrev SA(w:World) (f:FI) (fx:Fx) (X:AV→b0→AH→Prop) (es:List Expr) (Q:List AV→b0→AH→Prop) (v:AV) (ρ:b0) (H:AH):Prop:=Ea w f fx X es ρ H fun vs=>Q (v::vs)
theorem a8{e:Expr}{es:List Expr}{Q:List AV→b0→AH→Prop}(h:Ev w f fx X e ρ H (SA w f fx X es Q))
  (he:autoParam (starEach (e::es) (f.env fx)=(false,eval e (f.env fx))::starEach es (f.env fx)) kK):Ea w f fx X (e::es) ρ H Q:=by
 intro pos s S
 rw[he]
 refine D6 (b6 (h s S) (fun v s₁ hh=>?_) fun _ _ x=>x)
 obtain⟨b,ρ₁,H₁,r,S₁,h₁⟩:=hh
 refine b6 (h₁ pos s₁ S₁) (fun vs s₂ hh=>?_) fun _ _ x=>x
 obtain⟨bs,ρ₂,H₂,rs,S₂,h₂⟩:=hh
 exact⟨b::bs,ρ₂,H₂,.cons r rs,S₂,h₂⟩
theorem iE{name:Str}{b:DictEntry}{bs:List DictEntry}(h1:b.key.isStr name=false) (h2:b.refKey=false):getL name (b::bs)=getL name bs:=by
 unfold getL
 simp [List.find?_cons,h1,h2]
theorem yV{name:Str}{b:DictEntry}{bs:List DictEntry}(h1:b.key.isStr name=true):getL name (b::bs)=some (some b.val):=by
 unfold getL
 simp [List.find?_cons,h1]
theorem xK{name:Str}{v:AV}{fs:List (Str×AV)}{es:List DictEntry}(q:All2 dX fs es) (hl:fs.lookup name=some v):∃cv,getL name es=some (some cv)∧Rep v cv:=by
 induction q with
 | nil=>cases hl
 | @cons a b as bs h r ih=>
  obtain⟨x,u⟩:=a
  refine oA (h) fun zq1 hv=>?_;refine oE (zq1) fun t hk=>?_
  have e1:b.key.isStr name=(x == name):=by rw[hk];rfl
  rw[List.lookup_cons] at hl
  by_cases e:x=name
  ·subst e
   rw[beq_self_eq_true] at hl
   cases hl
   exact⟨_,yV (e1.trans (beq_self_eq_true _)),hv⟩
  ·have h1:(x == name)=false:=beq_eq_false_iff_ne.mpr e
   have h2:(name == x)=false:=beq_eq_false_iff_ne.mpr (Ne.symm e)
   rw[h2] at hl
   refine f9 (ih hl) fun cv g hr=>?_
   refine⟨cv,?_,hr⟩
   rw[iE (e1.trans h1) (by unfold DictEntry.refKey;rw[hk])]
   exact g
theorem Q6{name:Str}{fs:List (Str×AV)}{es:List DictEntry}(q:All2 dX fs es) (hl:fs.lookup name=none):getL name es=some none:=by
 induction q with
 | nil=>rfl
 | @cons a b as bs h r ih=>
  obtain⟨x,u⟩:=a
  refine oA (h) fun zq1 hv=>?_;refine oE (zq1) fun t hk=>?_
  have e1:b.key.isStr name=(x == name):=by rw[hk];rfl
  rw[List.lookup_cons] at hl
  by_cases e:x=name
  ·subst e
   rw[beq_self_eq_true] at hl
   cases hl
  ·have h1:(x == name)=false:=beq_eq_false_iff_ne.mpr e
   have h2:(name == x)=false:=beq_eq_false_iff_ne.mpr (Ne.symm e)
   rw[h2] at hl
   have g:=ih hl
   rw[iE (e1.trans h1) (by unfold DictEntry.refKey;rw[hk])]
   exact g
end
noncomputable def AV.fine:AV→Bool
 | .lit v=>handedIn v
 | _=>true
theorem EU{a:AV}{v:Value}(h:a.fine=true) (r:Rep a v):handedIn v=true:=by cases r <;> first |rfl |exact h
section
variable{w:World}{f:FI}{fx:Fx}{X:AV→b0→AH→Prop}{ρ:b0}{H:AH}{s:Shared}{m:GM fx}{news:List (Addr×Obj)}{n:Nat}
theorem U0{name:Str}{v:AV}:∀ {fs:List (Str×AV)},(name,v)∈fs→(fs.map (·.1)).Nodup→fs.lookup name=some v
 | (x,u)::r,hm,hn=>by
  rw[List.lookup_cons]
  have hn':=List.nodup_cons.mp hn
  rcases List.mem_cons.mp hm with e |e
  ·cases e;rw[beq_self_eq_true]
  ·have:(name == x)=false:=beq_eq_false_iff_ne.mpr fun q=>hn'.1 (q▸List.mem_map_of_mem (f:=(·.1)) e)
   rw[this]
   exact U0 e hn'.2
theorem C4{name:Str}:∀ {fs:List (Str×AV)},(fs.map (·.1)).contains name=false→fs.lookup name=none
 | [],_=>rfl
 | (x,u)::r,h=>by
  rw[List.map_cons,List.contains_cons,Bool.or_eq_false_iff] at h
  rw[List.lookup_cons,h.1]
  exact C4 h.2
theorem Sat'.inst{a C d:Addr}{fs:List (Str×AV)}(S:Sat' f fx ρ H s m news) (h1:In1 a (.inst C d) H) (h2:In1 d (.dict fs) H) :
  ∃es n,(a,instObj C d)∈news∧(d,dictOf es n)∈news∧All2 dX fs es∧(fs.map (·.1)).Nodup∧InstAt s.heap a (instObj C d) C (some (dictOf es n)):=by
 refine f9 (S.items _ h1.mem) fun o1 m1 r1=>?_
 refine f9 (S.items _ h2.mem) fun o2 m2 r2=>?_
 obtain rfl:=RepO.inv r1
 cases r2
 rename_i es n rs nd
 exact⟨es,n,m1,m2,rs,nd,InstAt.of_news S.nw m1 m2⟩
noncomputable abbrev yW(w:World) (f:FI) (fx:Fx) (X:AV→b0→AH→Prop) (x:AV) (name:Str) (ρ:b0) (H:AH) (Q:AV→b0→AH→Prop):Prop:=∀a,Rep x a→Tr w f fx X Rep (getAttr a name true) ρ H Q
noncomputable abbrev SB(w:World) (f:FI) (fx:Fx) (X:AV→b0→AH→Prop) (name:Str) (Q:AV→b0→AH→Prop) (x:AV) (ρ:b0) (H:AH):Prop:=yW w f fx X x name ρ H Q
theorem d1{o:Expr}{name:Str}{p:Pos}{Q:AV→b0→AH→Prop}(h:Ev w f fx X o ρ H (SB w f fx X name Q))
  (he:autoParam (attributeBase o name (f.env fx) (eval o (f.env fx))=eval o (f.env fx)) kK):Ev w f fx X (.Attribute o name p) ρ H Q:=by
 intro s S
 rw[arm_eval_Attribute,he]
 exact a7 (b6 (h s S) (fun v s₁ ⟨b,ρ₁,H₁,r,S₁,h₁⟩=>a7 (c3 (a7 (c0 (c5 (h₁ v r s₁ S₁) fun r s₂ h₂=>a7 (a6 (wpAny_letTemporaryGo (b7 h₂)))))))) fun _ _ x=>x)
noncomputable def xL(P:Params) (C:Addr) (name:Str):Bool:=plainGet (KG P) C name && hasDictIn (KG P) C && (match findIn (KG P) (.ref C) name with |some a=>noGet (KG P) a |none=>false)
theorem nD{C d a:Addr}{name:Str}{fs:List (Str×AV)}{v:AV}{Q:AV→b0→AH→Prop}(c:Cx w f fx n) (h1:In1 a (.inst C d) H) (h2:In1 d (.dict fs) H) (h3:In1 name v fs) (ho:xL w.params C name=true) (hv:v.fine=true)
  (h:Q v ρ H):yW w f fx X (.ref a) name ρ H Q:=by
 refine I5 ?_
 rintro s ⟨m,news,S⟩
 refine Q1 (S.inst h1 h2) fun es k _ _ rs nd I=>?_
 refine f9 (xK rs (U0 h3.mem nd)) fun cv g r=>?_
 unfold xL at ho
 rw[Bool.and_eq_true,Bool.and_eq_true] at ho
 refine oA (ho) fun zq1 o3=>?_;refine oA (zq1) fun o1 o2=>?_
 split at o3
 ·rename_i at_ q
  exact a6 (get_own S.fr (S.K c) I o1 o2 q o3 g (EU hv r) ⟨v,ρ,H,r,⟨m,news,S.toks _⟩,h⟩)
 ·cases o3
noncomputable def dY(P:Params) (C:Addr) (name:Str) (a:Value):Bool:=(typeIn (KG P) (.ref C) == some (.type "type")) && readsIn (KG P) C (.type "type") && (match findCls (KG P) (.ref C) (.type "type") name with |some (.val b)=>b == a |_=>false) && handedIn a
theorem Ig{C:Addr}{name:Str}{v:Value}{av:AV}{Q:AV→b0→AH→Prop}(c:Cx w f fx n) (ho:dY w.params C name v=true) (hr:GV av v) (h:Q av ρ H):yW w f fx X (.ref C) name ρ H Q:=by
 refine I5 ?_
 rintro s ⟨m,news,S⟩
 unfold dY at ho
 rw[Bool.and_eq_true,Bool.and_eq_true,Bool.and_eq_true] at ho
 refine oA (ho) fun zq1 o4=>?_;refine oA (zq1) fun zq2 o3=>?_;refine oA (zq2) fun o1 o2=>?_
 split at o3
 ·rename_i b q
  rw[beq_iff_eq.mp o3] at q
  exact a6 (cls_val S.fr (S.K c) (beq_iff_eq.mp o1) o2 q o4 ⟨av,ρ,H,hr.rep,⟨m,news,S.toks _⟩,h⟩)
 ·cases o3
noncomputable abbrev gK(w:World) (f:FI) (fx:Fx) (X:AV→b0→AH→Prop) (x:AV) (name:Str) (v:AV) (ρ:b0) (H:AH) (Q:b0→AH→Prop):Prop:=∀a b,Rep x a→Rep v b→Tr w f fx X (Eq (α:=Unit)) (setAttr a name b) ρ H fun _=>Q
noncomputable abbrev Qq(w:World) (f:FI) (fx:Fx) (X:AV→b0→AH→Prop) (name:Str) (v:AV) (Q:b0→AH→Prop) (x:AV) (ρ:b0) (H:AH):Prop:=gK w f fx X x name v ρ H Q
noncomputable abbrev Ih(w:World) (f:FI) (fx:Fx) (X:AV→b0→AH→Prop) (o:Expr) (name:Str) (Q:b0→AH→Prop) (v:AV) (ρ:b0) (H:AH):Prop:=Ev w f fx X o ρ H (Qq w f fx X name v Q)
theorem J9{o e:Expr}{name:Str}{p p':Pos}{Q:AF→b0→AH→Prop}(h:Ev w f fx X e ρ H (Ih w f fx X o name (Q .next)))
  (hs:autoParam (swapsWith e (some (.Attribute o name p')) p.line (f.env fx)=pure false) kR):bT w f fx X (.Assign [.Attribute o name p'] e p) ρ H Q:=by
 intro s S
 refine pX hs (b6 (h s S) (fun v s₁ hh=>?_) fun _ _ x=>x)
 obtain⟨b,ρ₁,H₁,r,S₁,h₁⟩:=hh
 refine b6 (h₁ s₁ S₁) (fun ov s₂ hh=>?_) fun _ _ x=>x
 obtain⟨x,ρ₂,H₂,rx,S₂,h₂⟩:=hh
 refine b6 (h₂ _ _ rx r s₂ S₂) (fun u s₃ hh=>?_) fun _ _ x=>x
 obtain⟨_,ρ₃,H₃, -,S₃,h₃⟩:=hh
 exact⟨_,ρ₃,H₃,.next,S₃,h₃⟩
inductive App1 {α β:Type}(k:α) (v:β):List (α×β)→List (α×β)→Prop
 | nil:App1 k v [] [(k,v)]
 | cons {p l l'}:App1 k v l l'→App1 k v (p::l) (p::l')
theorem App1.eq{α β:Type}{k:α}{v:β}{l l':List (α×β)}(h:App1 k v l l'):l'=l++[(k,v)]:=by
 induction h with
 | nil=>rfl
 | cons _ ih=>rw[ih];rfl
theorem BV{name:Str}{v:AV}{cv:Value}{hsh:Int}{key:Value}(r:Rep v cv) {fs fs':List (Str×AV)}{es:List DictEntry}(q:Put1 name v fs fs') (rs:All2 dX fs es) (nd:(fs.map (·.1)).Nodup):All2 dX fs' (putL name hsh key cv es)∧(putL name hsh key cv es).length=es.length:=by
 induction q generalizing es with
 | here=>
  cases rs with
  | @cons _ b _ bs h rs=>
  refine oA (h) fun zq1 hv=>?_;refine oE (zq1) fun t hk=>?_
  have e1:b.key.isStr name=true:=by rw[hk];exact beq_self_eq_true _
  unfold putL
  rw[if_pos e1]
  exact⟨.cons ⟨⟨t,hk⟩,r⟩ rs,rfl⟩
 | @there p _ _ hp ih=>
  cases rs with
  | @cons _ b _ bs h rs=>
  refine oA (h) fun zq1 hv=>?_;refine oE (zq1) fun t hk=>?_
  have nd':=List.nodup_cons.mp nd
  have e1:b.key.isStr name=false:=by
   rw[hk]
   exact beq_eq_false_iff_ne.mpr fun(q:p.1=name)=>nd'.1 (by show p.1∈_;rw[q];exact hp.in)
  refine oA (ih rs nd'.2) fun a l=>?_
  unfold putL
  rw[if_neg (by rw[e1];decide)]
  exact⟨.cons ⟨⟨t,hk⟩,hv⟩ a,by rw[List.length_cons,l,List.length_cons]⟩
theorem BW{name:Str}{v:AV}{cv:Value}{hsh:Int}{t:Tok}(r:Rep v cv) {fs:List (Str×AV)}{es:List DictEntry}(q:All2 dX fs es) (h:(fs.map (·.1)).contains name=false):All2 dX (fs++[(name,v)]) (putL name hsh (.str name t) cv es)∧(putL name hsh (.str name t) cv es).length=es.length+1:=by
 induction q with
 | nil=>exact⟨.cons ⟨⟨t,rfl⟩,r⟩ .nil,rfl⟩
 | @cons a b as bs hh rs ih=>
  refine oA (hh) fun zq1 hv=>?_;refine oE (zq1) fun t' hk=>?_
  rw[List.map_cons,List.contains_cons,Bool.or_eq_false_iff] at h
  have e1:b.key.isStr name=false:=by
   rw[hk]
   exact beq_eq_false_iff_ne.mpr (Ne.symm (beq_eq_false_iff_ne.mp h.1))
  refine oA (ih h.2) fun x l=>?_
  unfold putL
  rw[if_neg (by rw[e1];decide)]
  exact⟨.cons ⟨⟨t',hk⟩,hv⟩ x,by rw[List.length_cons,l,List.length_cons]⟩
theorem All2.len{α β:Type}{R:α→β→Prop}{as:List α}{bs:List β}(h:All2 R as bs):bs.length=as.length:=by
 induction h with
 | nil=>rfl
 | cons _ _ ih=>rw[List.length_cons,List.length_cons,ih]
noncomputable def U1(P:Params) (C:Addr) (name:Str):Bool:=(findIn (KG P) (.ref C) "__setattr__" == some (some (.builtin "object.__setattr__"))) && plainOver (KG P) C && (match takerIn (KG P) C name with |some none=>true |_=>false) && hasDictIn (KG P) C
theorem xM{C d a:Addr}{name:Str}{fs fs':List (Str×AV)}{v:AV}{H':AH}{Q:b0→AH→Prop}(c:Cx w f fx n) (h1:In1 a (.inst C d) H) (h2:In1 d (.dict fs) H) (ho:U1 w.params C name=true)
  (hp:Put1 d (.dict fs') H H') (hL:fs.length≤900) (hnd:(fs.map (·.1)).Nodup→(fs'.map (·.1)).Nodup) (hg:(fs.lookup name).isSome=true∨fs.lookup name=none)
  (hput:∀es cv hsh t,All2 dX fs es→Rep v cv→(fs.map (·.1)).Nodup→All2 dX fs' (putL name hsh (.str name t) cv es)∧(putL name hsh (.str name t) cv es).length≤es.length+1) (h:Q ρ H'):gK w f fx X (.ref a) name v ρ H Q:=by
 rintro _ b ⟨⟩ r s ⟨m,news,S⟩
 refine Q1 (S.inst h1 h2) fun es k _ m2 rs nd I=>?_
 unfold U1 at ho
 rw[Bool.and_eq_true,Bool.and_eq_true,Bool.and_eq_true] at ho
 refine oA (ho) fun zq1 o4=>?_;refine oA (zq1) fun zq2 o3=>?_;refine oA (zq2) fun o1 o2=>?_
 split at o3
 ·rename_i q
  refine oA (hput es b (PyData.keyHash w.params name) (s.toks+1) rs r nd) fun p1 p2=>?_
  refine wU (uM (o':=dictOf (putL name (PyData.keyHash w.params name) (.str name (s.toks+1)) b es) (putN name es k)) m2 S.nodup) fun news' U k1 k2 k3=>?_
  have hl:(getL name es).isSome=true:=by
   rcases hg with hg |hg
   ·refine oE (Option.isSome_iff_exists.mp hg) fun u hu=>?_
    refine f9 (xK rs hu) fun cv g _=>?_
    rw[g];rfl
   ·rw[Q6 rs hg];rfl
  refine a6 (set_dict S.fr (S.K c) S.nw I rfl (beq_iff_eq.mp o1) o2 q o4 hl rfl U (by have:=rs.len;exact Lg this hL p2) fun h' F' N'=>⟨(),ρ,H',rfl,⟨m,news',?_⟩,h⟩)
  exact S.upd hp (.dict _ p1 (hnd nd)) F' N' k1 k2 k3 rfl rfl
 ·cases o3
theorem BX{C d a:Addr}{name:Str}{fs fs':List (Str×AV)}{v:AV}{H':AH}{Q:b0→AH→Prop}(c:Cx w f fx n) (h1:In1 a (.inst C d) H) (h2:In1 d (.dict fs) H) (h3:Put1 name v fs fs') (hp:Put1 d (.dict fs') H H')
  (ho:U1 w.params C name=true) (hL:fs.length≤900) (h:Q ρ H'):gK w f fx X (.ref a) name v ρ H Q:=by
 refine xM c h1 h2 ho hp hL (fun nd=>by rw[h3.keys];exact nd) (.inl ?_) (fun es cv hsh t rs r nd=>?_) h
 ·refine f9 (List.mem_map.mp h3.in) fun p hp' e=>?_
  have:∃u,fs.lookup name=some u:=by
   clear h h1 h2 ho hp hL h3
   induction fs with
   | nil=>cases hp'
   | cons q l ih=>
    rw[List.lookup_cons]
    by_cases z:(name == q.1)=true
    ·rw[z];exact⟨_,rfl⟩
    ·rw[Bool.not_eq_true] at z
     rw[z]
     rcases List.mem_cons.mp hp' with rfl |hp'
     ·rw[show p.1=name from e,beq_self_eq_true] at z;cases z
     ·exact ih hp'
  refine oE (this) fun u e=>?_
  rw[e];rfl
 ·refine oA (BV (hsh:=hsh) (key:=.str name t) r h3 rs nd) fun x y=>?_
  exact⟨x,by rw[y];exact Nat.le_add_right _ _⟩
theorem BY{C d a:Addr}{name:Str}{fs fs':List (Str×AV)}{v:AV}{H':AH}{Q:b0→AH→Prop}(c:Cx w f fx n) (h1:In1 a (.inst C d) H) (h2:In1 d (.dict fs) H) (h3:App1 name v fs fs') (hp:Put1 d (.dict fs') H H')
  (hn:(fs.map (·.1)).contains name=false) (ho:U1 w.params C name=true) (hL:fs.length≤900) (h:Q ρ H'):gK w f fx X (.ref a) name v ρ H Q:=by
 refine xM c h1 h2 ho hp hL (fun nd=>?_) (.inr (C4 hn)) (fun es cv hsh t rs r nd=>?_) h
 ·rw[h3.eq,List.map_append]
  refine List.nodup_append.mpr ⟨nd,List.nodup_cons.mpr ⟨(nomatch ·),.nil⟩,fun x hx y hy=>?_⟩
  intro e
  have hy':y=name:=by simpa using hy
  have:(fs.map (·.1)).contains name=true:=by rw[← hy',← e];simpa using hx
  rw[hn] at this;cases this
 ·refine oA (BW (hsh:=hsh) (t:=t) r rs hn) fun x y=>?_
  rw[h3.eq]
  exact⟨x,by rw[y];exact Nat.le_refl _⟩
end
noncomputable def BZ:Stmt→Bool
 | .FunctionDef ..=>true
 | _=>false
noncomputable def K1:Stmt→Str
 | .FunctionDef n _ _ _ _ _ _ _ _ _=>n
 | _=> ""
noncomputable def K2:Stmt→Arguments
 | .FunctionDef _ a _ _ _ _ _ _ _ _=>a
 | _=>default
noncomputable def j5:Stmt→List Stmt
 | .FunctionDef _ _ b _ _ _ _ _ _ _=>b
 | _=>[]
noncomputable def d2:Stmt→Scope
 | .FunctionDef _ _ _ _ _ _ s _ _ _=>s
 | _=>default
theorem iF{s:Stmt}(h:BZ s=true) (q:Str) (dV kV doc pm cd ct:Value):fd s q dV kV doc pm cd ct 3 0=fnX (K1 s) q (K2 s) (j5 s) (d2 s) [] dV kV doc pm none cd ct:=by
 cases s <;> first |rfl |exact absurd h Bool.false_ne_true
structure FnD where
 stmt:Stmt
 qual:Str
 dV:Value
 kV:Value
 doc:Value
 pm:Value
 cd:Value
 ct:Value
 addr:Addr
 ps:List Str
 others:List Str
noncomputable def FnD.fi(d:FnD):FI:=⟨d.qual,d2 d.stmt,some d.addr,d.cd,d.ps++d.others⟩
noncomputable def FnD.fd(d:FnD):FuncData:=Mine.fd d.stmt d.qual d.dV d.kV d.doc d.pm d.cd d.ct 3 0
noncomputable def FnD.obj(d:FnD):Obj:=⟨.type "function",none,.func d.fd, #[]⟩
noncomputable def EV:NameKind→Bool
 | .cell=>false
 | _=>true
noncomputable def FnD.chk(P:Params) (d:FnD):Bool:=BZ d.stmt && codeIn (KG P) d.cd d.qual && d.fi.chk && ((d2 d.stmt).names.all fun x=>EV x.2) && !(d2 d.stmt).isCoroutine && !(d2 d.stmt).isGenerator && keepIn (KG P) (.ref d.addr)
structure FnD.Ok (P:Params) (d:FnD):Prop where
 at_:(KG P).lookup d.addr=some d.obj
 chk:d.chk P=true
noncomputable def c6(w:World) (n:Nat) (a:Addr) (vs:List AV) (H:AH) (X:AV→AH→Prop) (Q:AV→AH→Prop):Prop:=
 ∀(f:FI) (fx:Fx) (ρ:b0) (A:Around) (k:Nat),Cx w f fx k→A.frames=some fx.stk→A.depth+n≤990→A.guards=some []→A.handled=none→∀s,Sat f fx ρ H s→∀cvs,All2 Rep vs cvs→
  j4 (model pw w) A (.call (.ref a) ⟨cvs,[]⟩) (fun r s'=>match r with
   | .ok (.ret v)=>∃b H',Rep b v∧Sat f fx ρ H' s'∧Q b H'
   | .ok _=>False
   | .error e=>∃b H',Rep b e∧Sat f fx ρ H' s'∧X b H') s
section
variable{w:World}{f:FI}{fx:Fx}{X:AV→b0→AH→Prop}{ρ:b0}{H:AH}{n:Nat}
theorem uN{ps:List Str}{vs:List AV}{cvs:List Value}{x:Str}{v:AV}(q:All2 Rep vs cvs) (hm:(x,v)∈ps.zip vs):∃cv,(x,cv)∈ps.zip cvs∧Rep v cv:=by
 induction q generalizing ps with
 | nil=>rw[List.zip_nil_right] at hm;cases hm
 | @cons a b _ _ h _ ih=>
  cases ps with
  | nil=>cases hm
  | cons p ps=>
   rcases List.mem_cons.mp hm with e |e
   ·cases e;exact⟨b,.head _,h⟩
   ·refine f9 (ih e) fun cv h1 h2=>?_
    exact⟨cv,.tail _ h1,h2⟩
theorem H0{β:Type}{name:Str}{v:β}:∀ {fs:List (Str×β)},(name,v)∈fs→(fs.map (·.1)).Nodup→fs.lookup name=some v
 | (x,u)::r,hm,hn=>by
  rw[List.lookup_cons]
  have hn':=List.nodup_cons.mp hn
  rcases List.mem_cons.mp hm with e |e
  ·cases e;rw[beq_self_eq_true]
  ·have:(name == x)=false:=beq_eq_false_iff_ne.mpr fun q=>hn'.1 (q▸List.mem_map_of_mem (f:=(·.1)) e)
   rw[this]
   exact H0 e hn'.2
theorem Y5{β:Type}:∀ {ps:List Str}{vs:List β},ps.length=vs.length→(ps.zip vs).map (·.1)=ps
 | [],_,_=>by cases ‹List β› <;> rfl
 | p::ps,v::vs,h=>by rw[List.zip_cons_cons,List.map_cons,Y5 (Nat.succ.inj h)]
noncomputable def j6(ps others:List Str) (vs:List AV):b0:=(ps.zip vs).map (fun p=>(p.1,some p.2))++others.map (·,none)
theorem EW{d:FnD}{vs:List AV}{cvs:List Value}(hl:d.ps.length=vs.length) (hn:(d.ps++d.others).Nodup) (h:All2 Rep vs cvs):bS d.fi (j6 d.ps d.others vs) (fun x=>(d.ps.zip cvs).reverse.lookup x):=by
 refine⟨?_,fun x v hm=>?_⟩
 ·refine(?_:List.map _ (_++_)=d.ps++d.others)
  rw[List.map_append,List.map_map,List.map_map]
  have e1:List.map ((fun x:Str×Option AV=>x.1) ∘ fun p:Str×AV=>(p.1,some p.2)) (d.ps.zip vs)=d.ps:=Y5 hl
  have e2:List.map ((fun x:Str×Option AV=>x.1) ∘ fun x:Str=>(x,none)) d.others=d.others:=List.map_id _
  rw[e1,e2]
 ·rcases List.mem_append.mp hm with hm |hm
  ·refine f9 (List.mem_map.mp hm) fun p hp e=>?_
   cases e
   refine f9 (uN h hp) fun cv h1 h2=>?_
   refine⟨cv,H0 (List.mem_reverse.mpr h1) ?_,h2⟩
   rw[List.map_reverse,Y5 (hl.trans h.len.symm)]
   exact(List.reverse_perm _).nodup_iff.mpr (List.nodup_append.mp hn).1
  ·refine f9 (List.mem_map.mp hm) fun p hp e=>?_
   cases e
theorem Sat'.ff{s:Shared}{m:GM fx}{news:List (Addr×Obj)}(S:Sat' f fx ρ H s m news) (c:Cx w f fx n):(hideAll s.heap (news.map (·.1))).FunFrames fx.base fx.stk∧m.h₀.StaysIn (hideAll s.heap (news.map (·.1))):=by
 have nm:∀b o,m.h₀.get? b=some o→b∉ news.map (·.1):=fun b o e q=>by
  refine f9 (List.mem_map.mp q) fun p hp zq1=>?_;subst zq1
  rw[(S.nw p hp).2.2] at e;cases e
 have st:m.h₀.StaysIn (hideAll s.heap (news.map (·.1))):=fun b o e=>hideAll_get _ (S.fr.keep b o e) (nm b o e)
 have lo:(hideAll s.heap (news.map (·.1))).FunFrames fx.base fx.outer:=m.gd.frames.of_keeps fun b o e _=>⟨o,st b o e,rfl⟩
 refine⟨?_,st⟩
 rcases c.stk with e | ⟨e,e2⟩
 ·rw[e];exact lo
 ·refine Y0 (S.fr.ns) fun oL es ep hL hLd hLk hLf=>?_
  have nL:fx.L∉ news.map (·.1):=fun q=>by
   refine f9 (List.mem_map.mp q) fun p hp e=>?_
   exact(S.nw p hp).2.1 e
  rw[e]
  refine⟨by show f.scope.kind≠.module;rw[c.ok.kind];decide,⟨fx.L,oL,by show some fx.frame= _;rw[e2],?_,hideAll_get _ hL nL,fun vs q=>by rw[hLd] at q;cases q⟩,lo⟩
  cases hq:fx.base.get? fx.L with
  | none=>rfl
  | some o=>exact absurd (Nat.lt_of_lt_of_le (Heap.lt_size (m.gd.stays _ o hq)) S.fr.above) (Nat.lt_irrefl _)
noncomputable def relabel(h₀ h:Heap):Heap:= { h₀ with objs:=h₀.objs.mapIdx fun i o=>match h.get? i with |some o'=> { o with slots:=o'.slots } |none=>o }
theorem bV{h₀ h:Heap}(hk:∀b o,h₀.get? b=some o→∃sl,h.get? b=some { o with slots:=sl }) (b:Addr):(h₀.get? b=none→(relabel h₀ h).get? b=none)∧∀o,h₀.get? b=some o→(relabel h₀ h).get? b=h.get? b:=by
 have e:(relabel h₀ h).objs[b]?=(h₀.objs[b]?).map fun o=>match h.get? b with |some o'=> { o with slots:=o'.slots } |none=>o:=by
  unfold relabel
  simp only[Array.getElem?_mapIdx]
 have fr:∀(o:Obj) (sl:Array (Option Value)),({ o with slots:=sl }:Obj).isFreed=o.isFreed:=fun o sl=>by cases o with |mk c d dt s=>cases dt <;> rfl
 refine⟨fun q=>Option.eq_none_iff_forall_ne_some.mpr fun o1 z=>?_,fun o q=>?_⟩
 ·have z:=Heap.get?_some_iff.mp z
  refine f9 (Option.map_eq_some_iff.mp (e.symm.trans z.1)) fun o h1 h2=>?_
  have hf:o.isFreed=false:=by
   rw[← z.2,← h2]
   cases h.get? b with
   | none=>rfl
   | some o'=>exact(fr o o'.slots).symm
  exact Option.some_ne_none _ ((Heap.get?_some_iff.mpr ⟨h1,hf⟩).symm.trans q)
 ·refine oE (hk b o q) fun sl hs=>?_
  have q:=Heap.get?_some_iff.mp q
  rw[hs]
  refine Heap.get?_some_iff.mpr ⟨?_,(fr o sl).trans q.2⟩
  rw[e,q.1,Option.map_some,hs]
theorem Sat'.back{s s':Shared}{m:GM fx}{news news':List (Addr×Obj)}{H':AH}{f':FI}{fx':Fx}{ρ':b0}{m':GM fx'}(S:Sat' f fx ρ H s m news) (hg:m.h₀.StaysIn fx'.h₀) (hL:∃oL,s.heap.get? fx.L=some oL∧fx'.h₀.get? fx.L=some oL)
  (hb:fx'.base=fx.base) (ho:fx'.os=fx.os) (S':Sat' f' fx' ρ' H' s' m' news'):Sat f fx ρ H' s':=by
 have up:∀b o,m.h₀.get? b=some o→∃sl,m'.h₀.get? b=some { o with slots:=sl }:=fun b o e=>m'.gd.up b o (hg b o e)
 have upH:∀b o,m.h₀.get? b=some o→∃sl,s'.heap.get? b=some { o with slots:=sl }:=fun b o e=>let⟨sl,q⟩:=up b o e; ⟨sl,S'.fr.keep _ _ q⟩
 have R:=bV upH
 refine Y0 (S.fr.ns) fun oL es ep hLs hLd hLk hLf=>?_
 refine f9 (hL) fun oL' h1 h2=>?_
 rw[hLs] at h1
 obtain rfl:=Option.some.inj h1
 refine oE (m'.gd.up _ _ h2) fun slL h3=>?_
 have gd:N7 fx (relabel m.h₀ s'.heap):=by
  refine⟨fun b e=>(R b).1 (m.gd.dom b e),fun b o e=>?_,fun b o e=>?_,?_⟩
  ·refine oE (m.gd.up b o e) fun sl q=>?_
   refine oE (upH _ _ q) fun sl' q'=>?_
   exact⟨sl',((R b).2 _ q).trans q'⟩
  ·have q:=m.gd.stays b o e
   rw[(R b).2 _ q]
   exact S'.fr.keep _ _ (m'.gd.stays _ _ (hb▸e))
  ·refine m.gd.frames.of_keeps fun b o e _=>?_
   refine oE (upH _ _ e) fun sl' q'=>?_
   exact⟨_,((R b).2 _ e).trans q',rfl⟩
 refine⟨⟨relabel m.h₀ s'.heap,gd,m.m⟩,news',⟨⟨_,es,ep,S'.fr.keep _ _ h3,hLd,hLk,hLf⟩,fun b o e=>?_,?_⟩,fun p hp=>⟨(S'.nw p hp).1,fun q=>?_,?_⟩,S.rho,S'.items,S'.keys,S'.nodup,S'.gens,S'.os.trans ho⟩
 ·cases q:m.h₀.get? b with
  | none=>rw[(R b).1 q] at e;cases e
  | some o'=>rw[(R b).2 _ q] at e;exact e
 ·have:(relabel m.h₀ s'.heap).objs.size=m.h₀.objs.size:=by unfold relabel;simp
  refine(?_:(relabel m.h₀ s'.heap).objs.size≤fx.L)
  rw[this]
  exact S.fr.above
 ·have:=(S'.nw p hp).2.2
  rw[q,h3] at this;cases this
 ·refine(R _).1 ?_
  cases q:m.h₀.get? p.1 with
  | none=>rfl
  | some o=>
   refine oE (up _ _ q) fun sl q'=>?_
   have:=(S'.nw p hp).2.2
   rw[q'] at this;cases this
noncomputable abbrev dZ(w:World) (f:FI) (fx:Fx) (X:AV→b0→AH→Prop) (XS:AV→AH→Prop):Prop:=∀e s,gG f fx X e s→
 c8 (model pw w) fx.A (leaving (f.env fx) e) (fun _=>gG f fx (fun b _ H=>XS b H) e) (gG f fx fun b _ H=>XS b H) s
theorem f6{d:FnD}{vs dv:List AV}{ρ₀:b0}{X:Fx→AV→b0→AH→Prop}{XS:AV→AH→Prop}{Q:AV→AH→Prop}(hd:d.Ok w.params) (dcv:List Value) (hdv:All2 Rep dv dcv) (hl:d.ps.length=(vs++dv).length) (hρ:ρ₀=j6 d.ps d.others (vs++dv))
  (hbind:∀(s:Shared) (cvs:List Value),Frag.In (KG w.params) s.heap→cvs.length=vs.length→BindsTo s d.fd ⟨cvs,[]⟩ (d.ps.zip (cvs++dcv)))
  (h:∀fx,Cx w d.fi fx n→fx.A.handled=none→fx.stk=d.fi.env fx::fx.outer→fx.frame=fx.L→Ex w d.fi fx (X fx) (j5 d.stmt) ρ₀ H (fun fl _ H'=>Q (match fl with | .ret v=>v |_=>.none) H')∧dZ w d.fi fx (X fx) XS):c6 w (n+1) d.addr vs H XS Q:=by
 intro f fx ρ A k c hfr hroom hgd hh s ⟨m,news,S⟩ cvs hv
 subst hρ
 obtain⟨hat,hck⟩:=hd
 simp only[FnD.chk,Bool.and_eq_true,Bool.not_eq_true'] at hck
 refine oA (hck) fun zq1 k7=>?_;refine oA (zq1) fun zq2 k6=>?_;refine oA (zq2) fun zq3 k5=>?_;refine oA (zq3) fun zq4 k4=>?_;refine oA (zq4) fun zq5 k3=>?_;refine oA (zq5) fun k1 k2=>?_
 have ok:=FI.ok_of k3
 have KS:=S.KH c
 have hall:All2 Rep (vs++dv) (cvs++dcv):=by
  clear hl hbind h S
  induction hv with
  | nil=>exact hdv
  | cons r _ ih=>exact .cons r ih
 have hlen:d.ps.length=(cvs++dcv).length:=hl.trans hall.len.symm
 refine oA (S.ff c) fun FF st=>?_
 refine BN (fd:=fnX (K1 d.stmt) d.qual (K2 d.stmt) (j5 d.stmt) (d2 d.stmt) [] d.dV d.kV d.doc d.pm none d.cd d.ct) (body:=j5 d.stmt) (binds:=d.ps.zip (cvs++dcv)) (by have:recursionLimit=1000:=rfl;exact Hv hroom this) (KS _ _ hat)
  (by show _= _;exact congrArg Data.func (iF k1 _ _ _ _ _ _ _)) (Q5 KS) (codeRec_of KS k2) rfl (by have:=hbind s cvs KS hv.len;unfold FnD.fd at this;rw[iF k1] at this;exact this) (fun x hx=>?_) (fun y hy=>ok.loc _ ?_) k5 k6 ok.kind (fun h₁ hns hk₁=>?_)
 ·intro e
  have:=List.all_eq_true.mp k4 x hx
  rw[e] at this
  cases this
 ·refine List.mem_append_left _ ?_
  have:=List.mem_map_of_mem (f:=(·.1)) hy
  rw[Y5 hlen] at this
  exact this
 ·let g:=hideAll s.heap (news.map (·.1))
  let L':=s.heap.objs.size
  let fx':Fx:=⟨A.deeper (callEnv (fnX (K1 d.stmt) d.qual (K2 d.stmt) (j5 d.stmt) (d2 d.stmt) [] d.dV d.kV d.doc d.pm none d.cd d.ct) L' d.addr),fx.base,fx.stk,d.fi.env ⟨A,fx.base,fx.stk,fx.stk,g,L',L',[],fx.os⟩::fx.stk,g,L',L',[],fx.os⟩
  have gd:N7 fx' g:=⟨fun _ e=>e,fun b o e=>⟨o.slots,e⟩,fun b o e=>st b o (m.gd.stays b o e),FF⟩
  have cx:Cx w d.fi fx' n:=⟨ok,Around.frames_deeper hfr,.inr ⟨rfl,rfl⟩,c.K,by show A.depth+1+n≤990;exact Hw hroom,hgd⟩
  have sat:Sat' d.fi fx' (j6 d.ps d.others (vs++dv)) H { s with heap:=h₁,toks:=s.toks+(d.ps.zip (cvs++dcv)).length } ⟨g,gd,_⟩ news:=
   ⟨⟨hns,fun b o e=>hk₁ b o (of_hideAll _ e),Nat.le_of_eq (hideAll_size _ _)⟩,fun p hp=>⟨hk₁ _ _ (S.nw p hp).1,Nat.ne_of_lt (Heap.lt_size (S.nw p hp).1),hideAll_none _ (List.mem_map_of_mem hp)⟩,EW hl ok.nodup hall,S.items,S.keys,S.nodup,S.gens,S.os⟩
  refine oA (h fx' cx hh rfl rfl) fun hb hx=>?_
  have bk:∀ {s':Shared}{H':AH}{ρ':b0},Sat d.fi fx' ρ' H' s'→Sat f fx ρ H' s':=fun⟨m',news',S'⟩=>by
   refine bP (S.fr.ns) fun oL es ep hLs r=>?_
   exact S.back (fx':=fx') st ⟨oL,hLs,hideAll_get _ hLs fun q=>by
    refine f9 (List.mem_map.mp q) fun p hp e=>?_
    exact(S.nw p hp).2.1 e⟩ rfl rfl S'
  refine b6 (hb _ ⟨_,news,sat⟩) (fun fl s' hq=>?_) fun e s' hq=>?_
  ·obtain⟨b,ρ',H',r,S',q⟩:=hq
   have back:=bk S'
   cases r with
   | ret r=>exact⟨_,H',r,back,q⟩
   | next=>exact⟨_,H',.none,back,q⟩
   | brk=>exact⟨_,H',.none,back,q⟩
   | cont=>exact⟨_,H',.none,back,q⟩
  ·exact b6 (hx e s' hq) (fun _ s'' ⟨b,ρ',H',r,S',q⟩=>⟨b,H',r,bk S',q⟩) fun e' s'' ⟨b,ρ',H',r,S',q⟩=>⟨b,H',r,bk S',q⟩
theorem O0{d:FnD}{vs dv:List AV}{ρ₀:b0}{Q:AV→AH→Prop}(hd:d.Ok w.params) (dcv:List Value) (hdv:All2 Rep dv dcv) (hl:d.ps.length=(vs++dv).length) (hρ:ρ₀=j6 d.ps d.others (vs++dv))
  (hbind:∀(s:Shared) (cvs:List Value),Frag.In (KG w.params) s.heap→cvs.length=vs.length→BindsTo s d.fd ⟨cvs,[]⟩ (d.ps.zip (cvs++dcv)))
  (h:∀fx,Cx w d.fi fx n→fx.A.handled=none→Ex w d.fi fx (fun _ _ _=>False) (j5 d.stmt) ρ₀ H fun fl _ H'=>Q (match fl with | .ret v=>v |_=>.none) H'):c6 w (n+1) d.addr vs H (fun _ _=>False) Q:=
 f6 (X:=fun _ _ _ _=>False) hd dcv hdv hl hρ hbind fun fx c hh _ _=>⟨h fx c hh,fun _ _ ⟨_,_,_,_,_,z⟩=>z.elim⟩
noncomputable abbrev w3(w:World) (f:FI) (fx:Fx) (X:AV→b0→AH→Prop) (a:Addr) (vs:List AV) (ρ:b0) (H:AH) (Q:AV→b0→AH→Prop):Prop:=∀cvs,All2 Rep vs cvs→Tr w f fx X Rep (call (.ref a) cvs) ρ H Q
theorem uO{A:Around}{E:Value→Shared→Prop}{s:Shared}{env:Env}{pos:Pos}{g:Value}{first:List Value}{e:Expr}{rest:List Expr}{K:Frag}{Q:Value→Shared→Prop}(hk:keepIn K g=true)
  (he:starEach (e::rest) env=(false,eval e env)::starEach rest env) (hplain:(backTo pos (starEach rest env)).any (·.1)=false)
  (h:c8 (model pw w) A (spliced (backTo pos (starEach (e::rest) env))) (fun vs s₁=>Frag.In K s₁.heap∧c8 (model pw w) A (call g (first++vs)) Q E s₁) E s):c8 (model pw w) A (callWith pos g first (backTo pos (starEach (e::rest) env)) []) Q E s:=by
 rw[he] at h ⊢
 exact Q4 (by show((false || (backTo pos (starEach rest env)).any (·.1)) || false)=false;rw[hplain];rfl) (keeps_K hk) (bQ h)
theorem xN{A:Around}{E:Value→Shared→Prop}{s:Shared}{env:Env}{pos:Pos}{g:Value}{first:List Value}{K:Frag}{Q:Value→Shared→Prop}(Y:Frag.In K s.heap) (hk:keepIn K g=true)
  (h:c8 (model pw w) A (call g (first++[])) Q E s):c8 (model pw w) A (callWith pos g first (backTo pos (starEach [] env)) []) Q E s:=Q4 rfl (keeps_K hk) (nC ⟨Y,h⟩)
noncomputable abbrev uP(w:World) (f:FI) (fx:Fx) (X:AV→b0→AH→Prop) (a:Addr) (Q:AV→b0→AH→Prop) (vs:List AV) (ρ:b0) (H:AH):Prop:=w3 w f fx X a vs ρ H Q
noncomputable abbrev Ca(w:World) (f:FI) (fx:Fx) (X:AV→b0→AH→Prop) (g a:Addr) (Q:AV→b0→AH→Prop) (vs:List AV) (ρ:b0) (H:AH):Prop:=w3 w f fx X g (.ref a::vs) ρ H Q
theorem O1{x:Str}{np pos:Pos}{a:Addr}{Q:AV→b0→AH→Prop}(c:Cx w f fx n) (hv:G4 w.params x=some (.ref a)) (hx:(f.scope.names.lookup x == some .globalImplicit)=true)
  (hd:(x == ("__debug__":Str))=false) (hk:keepIn (KG w.params) (.ref a)=true) (h:w3 w f fx X a [] ρ H Q):Ev w f fx X (.Call (.Name x np) [] [] pos) ρ H Q:=by
 intro s S
 refine B8 ?_
 obtain⟨m,news,S'⟩:=S
 refine a6 (G9 (env:=f.env fx) S'.fr (S'.K c) hv c.ok.kind (beq_iff_eq.mp hx) rfl rfl hd ?_)
 exact xN (S'.KH c) hk (h _ .nil s ⟨m,news,S'⟩)
theorem p0{x:Str}{np pos:Pos}{e:Expr}{es:List Expr}{a:Addr}{Q:AV→b0→AH→Prop}(c:Cx w f fx n) (hv:G4 w.params x=some (.ref a)) (hx:(f.scope.names.lookup x == some .globalImplicit)=true)
  (hd:(x == ("__debug__":Str))=false) (hk:keepIn (KG w.params) (.ref a)=true) (h:Ea w f fx X (e::es) ρ H (uP w f fx X a Q))
  (he:autoParam (starEach (e::es) (f.env fx)=(false,eval e (f.env fx))::starEach es (f.env fx)) kR) (hp:autoParam ((backTo pos (starEach es (f.env fx))).any (·.1)=false) kR):Ev w f fx X (.Call (.Name x np) (e::es) [] pos) ρ H Q:=by
 intro s S
 refine B8 ?_
 obtain⟨m,news,S'⟩:=S
 refine a6 (G9 (env:=f.env fx) S'.fr (S'.K c) hv c.ok.kind (beq_iff_eq.mp hx) rfl rfl hd ?_)
 refine uO hk he hp (b6 (h pos s ⟨m,news,S'⟩) (fun vs s₁ hh=>?_) fun _ _ x=>x)
 obtain⟨bs,ρ₁,H₁,rs,⟨m₁,news₁,S₁⟩,h₁⟩:=hh
 exact⟨S₁.KH c,h₁ _ rs s₁ ⟨m₁,news₁,S₁⟩⟩
theorem y4{a:Addr}{vs:List AV}{H₂:AH}{XS:AV→AH→Prop}{QS:AV→AH→Prop}{Q:AV→b0→AH→Prop}{k:Nat}(c:Cx w f fx n) (hh:fx.A.handled=none) (hs:c6 w k a vs H₂ XS QS) (hk:k≤n)
  (hp:H.Perm H₂) (hX:∀b H',XS b H'→X b ρ H') (h:∀b H',QS b H'→Q b ρ H'):w3 w f fx X a vs ρ H Q:=by
 intro cvs hv s S
 have S₂:Sat f fx ρ H₂ s:=S.sub (fun p hp'=>hp.mem_iff.mpr hp') (by
  obtain⟨_,_,S'⟩:=S
  exact((hp.map (·.1)).nodup_iff).mp S'.keys)
 have room:=c.room
 refine z6 (w0 (hs f fx ρ fx.A n c c.frames (by exact Jb room hk) c.guards hh s S₂ cvs hv) fun r s' q=>?_)
 cases r with
 | error e=>
  refine p8 (q) fun b H' r S' q=>?_
  exact⟨b,ρ,H',r,S',hX b H' q⟩
 | ok fl=>
  cases fl with
  | ret v=>
   refine p8 (q) fun b H' r S' q=>?_
   exact⟨b,ρ,H',r,S',h b H' q⟩
  | _=>exact q.elim
inductive Del1 {α:Type}(p:α):List α→List α→Prop
 | here {l}:Del1 p (p::l) l
 | there {q l l'}:Del1 p l l'→Del1 p (q::l) (q::l')
inductive DelN {α:Type}:List α→List α→List α→Prop
 | nil {l}:DelN [] l l
 | cons {p ps l l₁ l₂}:Del1 p l l₁→DelN ps l₁ l₂→DelN (p::ps) l l₂
theorem Del1.perm{α:Type}{p:α}{l l':List α}(h:Del1 p l l'):l.Perm (p::l'):=by
 induction h with
 | here=>exact .refl _
 | there _ ih=>exact(ih.cons _).trans (.swap _ _ _)
theorem DelN.perm{α:Type}{ps l l':List α}(h:DelN ps l l'):l.Perm (ps++l'):=by
 induction h with
 | nil=>exact .refl _
 | cons h _ ih=>exact h.perm.trans (ih.cons _)
noncomputable def I0(P:Params) (C:Addr) (name:Str) (g:Addr):Bool:=plainGet (KG P) C name && (match findIn (KG P) (.ref C) name with |some (some (.ref a))=>a == g |_=>false) && isFn (KG P) (.ref g) && keepIn (KG P) (.ref g)
noncomputable abbrev I6(w:World) (f:FI) (fx:Fx) (X:AV→b0→AH→Prop) (x:AV) (name:Str) (args:List Expr) (ρ:b0) (H:AH) (Q:AV→b0→AH→Prop):Prop:=∀a,Rep x a→∀pos pl s,Sat f fx ρ H s→
 c8 (model pw w) fx.A (getMethod a name pl) (fun g s₂=>c8 (model pw w) fx.A (callWith pos g.1 g.2 (backTo pos (starEach args (f.env fx))) []) (pY f fx Rep Q) (gG f fx X) s₂)
  (gG f fx X) s
noncomputable abbrev GR(w:World) (f:FI) (fx:Fx) (X:AV→b0→AH→Prop) (name:Str) (args:List Expr) (Q:AV→b0→AH→Prop) (x:AV) (ρ:b0) (H:AH):Prop:=I6 w f fx X x name args ρ H Q
theorem yX{o:Expr}{name:Str}{apos pos:Pos}{args:List Expr}{pl:Sem Bool}{Q:AV→b0→AH→Prop}(h:Ev w f fx X o ρ H (GR w f fx X name args Q))
  (he:autoParam (eval (.Call (.Attribute o name apos) args [] pos) (f.env fx)=(do
   let ov ← eval o (f.env fx)
   standAt apos.atName
   let(g,first) ← holding [ov] (getMethod ov name pl)
   callWith pos g first (backTo pos (starEach args (f.env fx))) [])) kR):Ev w f fx X (.Call (.Attribute o name apos) args [] pos) ρ H Q:=
 fun s S=>pW (b6 (h s S) (fun v s₁ ⟨b,ρ₁,H₁,r,S₁,h₁⟩=>h₁ v r pos pl s₁ S₁) fun _ _ x=>x) he
theorem EX{C d a g:Addr}{name:Str}{fs:List (Str×AV)}{Q:AV→b0→AH→Prop}(c:Cx w f fx n) (h1:In1 a (.inst C d) H) (h2:In1 d (.dict fs) H) (hm:I0 w.params C name g=true) (hn:(fs.map (·.1)).contains name=false)
  (h:w3 w f fx X g [.ref a] ρ H Q):I6 w f fx X (.ref a) name [] ρ H Q:=by
 refine I5 ?_
 rintro pos pl s ⟨m,news,S⟩
 refine Q1 (S.inst h1 h2) fun es k _ _ rs nd I=>?_
 simp only[I0,Bool.and_eq_true] at hm
 refine oA (hm) fun zq1 o4=>?_;refine oA (zq1) fun zq2 o3=>?_;refine oA (zq2) fun o1 o2=>?_
 split at o2
 ·rename_i a' q
  rw[beq_iff_eq.mp o2] at q
  exact a6 (method_inst S.fr (S.K c) I o1 q o3 (Q6 rs (C4 hn)) (xN (first:=[.ref a]) (S.KH c) o4 (h _ (.cons (.ref a) .nil) s ⟨m,news,S⟩)))
 ·cases o2
theorem nE{C d a g:Addr}{name:Str}{fs:List (Str×AV)}{e:Expr}{es:List Expr}{Q:AV→b0→AH→Prop}(c:Cx w f fx n) (h1:In1 a (.inst C d) H) (h2:In1 d (.dict fs) H) (hm:I0 w.params C name g=true) (hn:(fs.map (·.1)).contains name=false)
  (h:Ea w f fx X (e::es) ρ H (Ca w f fx X g a Q))
  (he:autoParam (starEach (e::es) (f.env fx)=(false,eval e (f.env fx))::starEach es (f.env fx)) kR) (hp:autoParam (∀pos,(backTo pos (starEach es (f.env fx))).any (·.1)=false) kI):I6 w f fx X (.ref a) name (e::es) ρ H Q:=by
 refine I5 ?_
 rintro pos pl s ⟨m,news,S⟩
 refine Q1 (S.inst h1 h2) fun es' k _ _ rs nd I=>?_
 simp only[I0,Bool.and_eq_true] at hm
 refine oA (hm) fun zq1 o4=>?_;refine oA (zq1) fun zq2 o3=>?_;refine oA (zq2) fun o1 o2=>?_
 split at o2
 ·rename_i a' q
  rw[beq_iff_eq.mp o2] at q
  refine a6 (method_inst S.fr (S.K c) I o1 q o3 (Q6 rs (C4 hn)) (uO (first:=[.ref a]) o4 he (hp pos) (b6 (h pos s ⟨m,news,S⟩) (fun vs s₁ hh=>?_) fun _ _ x=>x)))
  obtain⟨bs,ρ₁,H₁,rs,⟨m₁,news₁,S₁⟩,h₁⟩:=hh
  exact⟨S₁.KH c,h₁ _ (.cons (.ref a) rs) s₁ ⟨m₁,news₁,S₁⟩⟩
 ·cases o2
end
theorem Qt{P:List Value→Prop}(h:∀a,P [a]):∀l,l.length=1→P l
 | [],e=>by cases e
 | [a],_=>h a
 | _::_::_,e=>by cases e
theorem Cb{n:Nat}{P:List Value→Prop}(h:∀a l,l.length=n→P (a::l)):∀l,l.length=n+1→P l
 | [],e=>by cases e
 | a::l,e=>h a l (Nat.succ.inj e)
theorem Qu{P:List Value→Prop}(h:∀a b,P [a,b]):∀l,l.length=2→P l:=Cb fun a=>Qt (P:=fun l=>P (a::l)) (h a)
theorem Qv{P:List Value→Prop}(h:∀a b c,P [a,b,c]):∀l,l.length=3→P l:=Cb fun a=>Qu (P:=fun l=>P (a::l)) (h a)
theorem Qw{P:List Value→Prop}(h:∀a b c d,P [a,b,c,d]):∀l,l.length=4→P l:=Cb fun a=>Qv (P:=fun l=>P (a::l)) (h a)
theorem Qx{P:List Value→Prop}(h:∀a b c d e,P [a,b,c,d,e]):∀l,l.length=5→P l:=Cb fun a=>Qw (P:=fun l=>P (a::l)) (h a)
theorem SC{P:List Value→Prop}(h:∀a b c d e f,P [a,b,c,d,e,f]):∀l,l.length=6→P l:=Cb fun a=>Qx (P:=fun l=>P (a::l)) (h a)
noncomputable abbrev f4(w:World) (d:FnD) (n:Nat) (dv:List Value):Prop:=∀(s:Shared) (cvs:List Value),Frag.In (KG w.params) s.heap→cvs.length=n→BindsTo s d.fd ⟨cvs,[]⟩ (d.ps.zip (cvs++dv))
theorem aS{w:World}{d:FnD}{dv:List Value}(h:∀s,Frag.In (KG w.params) s.heap→∀a0,BindsTo s d.fd ⟨[a0],[]⟩ (d.ps.zip ([a0]++dv))):f4 w d 1 dv:=fun s cvs K=>Qt (P:=fun cvs=>BindsTo s d.fd ⟨cvs,[]⟩ (d.ps.zip (cvs++dv))) (h s K) cvs
theorem pJ{w:World}{d:FnD}{dv:List Value}(h:∀s,Frag.In (KG w.params) s.heap→∀a0 a1,BindsTo s d.fd ⟨[a0,a1],[]⟩ (d.ps.zip ([a0,a1]++dv))):f4 w d 2 dv:=fun s cvs K=>Qu (P:=fun cvs=>BindsTo s d.fd ⟨cvs,[]⟩ (d.ps.zip (cvs++dv))) (h s K) cvs
theorem Ii{w:World}{d:FnD}{dv:List Value}(h:∀s,Frag.In (KG w.params) s.heap→∀a0 a1 a2,BindsTo s d.fd ⟨[a0,a1,a2],[]⟩ (d.ps.zip ([a0,a1,a2]++dv))):f4 w d 3 dv:=fun s cvs K=>Qv (P:=fun cvs=>BindsTo s d.fd ⟨cvs,[]⟩ (d.ps.zip (cvs++dv))) (h s K) cvs
theorem Rv{w:World}{d:FnD}{dv:List Value}(h:∀s,Frag.In (KG w.params) s.heap→∀a0 a1 a2 a3,BindsTo s d.fd ⟨[a0,a1,a2,a3],[]⟩ (d.ps.zip ([a0,a1,a2,a3]++dv))):f4 w d 4 dv:=fun s cvs K=>Qw (P:=fun cvs=>BindsTo s d.fd ⟨cvs,[]⟩ (d.ps.zip (cvs++dv))) (h s K) cvs
theorem bd5{w:World}{d:FnD}{dv:List Value}(h:∀s,Frag.In (KG w.params) s.heap→∀a0 a1 a2 a3 a4,BindsTo s d.fd ⟨[a0,a1,a2,a3,a4],[]⟩ (d.ps.zip ([a0,a1,a2,a3,a4]++dv))):f4 w d 5 dv:=fun s cvs K=>Qx (P:=fun cvs=>BindsTo s d.fd ⟨cvs,[]⟩ (d.ps.zip (cvs++dv))) (h s K) cvs
theorem bd6{w:World}{d:FnD}{dv:List Value}(h:∀s,Frag.In (KG w.params) s.heap→∀a0 a1 a2 a3 a4 a5,BindsTo s d.fd ⟨[a0,a1,a2,a3,a4,a5],[]⟩ (d.ps.zip ([a0,a1,a2,a3,a4,a5]++dv))):f4 w d 6 dv:=fun s cvs K=>SC (P:=fun cvs=>BindsTo s d.fd ⟨cvs,[]⟩ (d.ps.zip (cvs++dv))) (h s K) cvs
noncomputable def d36:FnD:=⟨me 2 0,S "PressError.__init__",(.ref 29),.none,.none,(.str (S "threepress.errors") 194),(.ref 35),.none,36,["self", "reason"],[]⟩
theorem EY(a0 a1:AV):([("self",some a0),("reason",some a1)]:b0)=j6 d36.ps d36.others [a0,a1]:=rfl
noncomputable def Ij:List Value:=[]
theorem Cc{w:World}:f4 w d36 2 Ij:=pJ fun _ K _ _=>.of_defaults (T:=29) rfl (K 29 (wY w.params) (by kernel_rfl)) rfl rfl rfl
theorem Ik(P:Params):d36.Ok P:=⟨by kernel_rfl,by kernel_rfl⟩
noncomputable def d176:FnD:=⟨me 13 0,S "BadCheck.__init__",.none,.none,.none,(.str (S "threepress.errors") 194),(.ref 175),.none,176,["self", "kind", "told", "found"],[]⟩
theorem Cd(a0 a1 a2 a3:AV):([("self",some a0),("kind",some a1),("told",some a2),("found",some a3)]:b0)=j6 d176.ps d176.others [a0,a1,a2,a3]:=rfl
theorem yY{w:World}:f4 w d176 4 []:=Rv fun _ _ _ _ _ _=>.of_eq (by kernel_rfl)
theorem EZ(P:Params):d176.Ok P:=⟨by kernel_rfl,by kernel_rfl⟩
noncomputable def d195:FnD:=⟨me 14 0,S "BadSize.__init__",.none,.none,.none,(.str (S "threepress.errors") 194),(.ref 194),.none,195,["self", "kind", "told", "found"],[]⟩
theorem Ce(a0 a1 a2 a3:AV):([("self",some a0),("kind",some a1),("told",some a2),("found",some a3)]:b0)=j6 d195.ps d195.others [a0,a1,a2,a3]:=rfl
theorem yZ{w:World}:f4 w d195 4 []:=Rv fun _ _ _ _ _ _=>.of_eq (by kernel_rfl)
theorem Fa(P:Params):d195.Ok P:=⟨by kernel_rfl,by kernel_rfl⟩
noncomputable def d214:FnD:=⟨me 15 0,S "NeedsDictionary.__init__",.none,.none,.none,(.str (S "threepress.errors") 194),(.ref 213),.none,214,["self", "ident"],[]⟩
theorem Cf(a0 a1:AV):([("self",some a0),("ident",some a1)]:b0)=j6 d214.ps d214.others [a0,a1]:=rfl
theorem zA{w:World}:f4 w d214 2 []:=pJ fun _ _ _ _=>.of_eq (by kernel_rfl)
theorem Fb(P:Params):d214.Ok P:=⟨by kernel_rfl,by kernel_rfl⟩
noncomputable def d252:FnD:=⟨me 17 0,S "TooLarge.__init__",.none,.none,.none,(.str (S "threepress.errors") 194),(.ref 251),.none,252,["self", "kind", "size", "most"],[]⟩
theorem Cg(a0 a1 a2 a3:AV):([("self",some a0),("kind",some a1),("size",some a2),("most",some a3)]:b0)=j6 d252.ps d252.others [a0,a1,a2,a3]:=rfl
theorem zB{w:World}:f4 w d252 4 []:=Rv fun _ _ _ _ _ _=>.of_eq (by kernel_rfl)
theorem Fc(P:Params):d252.Ok P:=⟨by kernel_rfl,by kernel_rfl⟩
noncomputable def d264:FnD:=⟨st 19,S "need_count",.none,.none,.none,(.str (S "threepress.bits") 523),(.ref 263),.none,264,["count"],[]⟩
theorem Ch(a0:AV):([("count",some a0)]:b0)=j6 d264.ps d264.others [a0]:=rfl
theorem zD{w:World}:f4 w d264 1 []:=aS fun _ _ _=>.of_eq (by kernel_rfl)
theorem Fd(P:Params):d264.Ok P:=⟨by kernel_rfl,by kernel_rfl⟩
noncomputable def d278:FnD:=⟨st 21,S "end_of",.none,.none,.none,(.str (S "threepress.bits") 523),(.ref 277),.none,278,["octets", "start", "end"],["stop"]⟩
theorem Ci(a0 a1 a2:AV):([("octets",some a0),("start",some a1),("end",some a2),("stop",none)]:b0)=j6 d278.ps d278.others [a0,a1,a2]:=rfl
theorem zG{w:World}:f4 w d278 3 []:=Ii fun _ _ _ _ _=>.of_eq (by kernel_rfl)
theorem Fe(P:Params):d278.Ok P:=⟨by kernel_rfl,by kernel_rfl⟩
noncomputable def d285:FnD:=⟨st 22,S "from_little",.none,.none,.none,(.str (S "threepress.bits") 523),(.ref 284),.none,285,["octets"],["value", "place", "octet"]⟩
theorem Cj(a0:AV):([("octets",some a0),("value",none),("place",none),("octet",none)]:b0)=j6 d285.ps d285.others [a0]:=rfl
theorem zH{w:World}:f4 w d285 1 []:=aS fun _ _ _=>.of_eq (by kernel_rfl)
theorem Ff(P:Params):d285.Ok P:=⟨by kernel_rfl,by kernel_rfl⟩
noncomputable def d361:FnD:=⟨me 26 0,S "Octets.__init__",(.ref 354),.none,.none,(.str (S "threepress.bits") 523),(.ref 360),.none,361,["self", "octets", "start", "end"],[]⟩
theorem Ck(a0 a1 a2 a3:AV):([("self",some a0),("octets",some a1),("start",some a2),("end",some a3)]:b0)=j6 d361.ps d361.others [a0,a1,a2,a3]:=rfl
noncomputable def xO:List Value:=[(.int (0) 656),.none]
theorem zI{w:World}:f4 w d361 2 xO:=pJ fun _ K _ _=>.of_defaults (T:=354) rfl (K 354 (jC w.params) (by kernel_rfl)) rfl rfl rfl
theorem Fg(P:Params):d361.Ok P:=⟨by kernel_rfl,by kernel_rfl⟩
noncomputable def d368:FnD:=⟨me 26 1,S "Octets.left",.none,.none,.none,(.str (S "threepress.bits") 523),(.ref 367),.none,368,["self"],[]⟩
theorem Cl(a0:AV):([("self",some a0)]:b0)=j6 d368.ps d368.others [a0]:=rfl
theorem zJ{w:World}:f4 w d368 1 []:=aS fun _ _ _=>.of_eq (by kernel_rfl)
theorem Fh(P:Params):d368.Ok P:=⟨by kernel_rfl,by kernel_rfl⟩
noncomputable def d382:FnD:=⟨me 26 3,S "Octets.take",.none,.none,.none,(.str (S "threepress.bits") 523),(.ref 381),.none,382,["self", "count"],[]⟩
theorem Cm(a0 a1:AV):([("self",some a0),("count",some a1)]:b0)=j6 d382.ps d382.others [a0,a1]:=rfl
theorem zK{w:World}:f4 w d382 2 []:=pJ fun _ _ _ _=>.of_eq (by kernel_rfl)
theorem Fi(P:Params):d382.Ok P:=⟨by kernel_rfl,by kernel_rfl⟩
noncomputable def d396:FnD:=⟨me 26 5,S "Octets.octet",.none,.none,.none,(.str (S "threepress.bits") 523),(.ref 395),.none,396,["self"],[]⟩
theorem Cn(a0:AV):([("self",some a0)]:b0)=j6 d396.ps d396.others [a0]:=rfl
theorem zL{w:World}:f4 w d396 1 []:=aS fun _ _ _=>.of_eq (by kernel_rfl)
theorem Fj(P:Params):d396.Ok P:=⟨by kernel_rfl,by kernel_rfl⟩
noncomputable def d403:FnD:=⟨me 26 6,S "Octets.little",.none,.none,.none,(.str (S "threepress.bits") 523),(.ref 402),.none,403,["self", "count"],[]⟩
theorem Co(a0 a1:AV):([("self",some a0),("count",some a1)]:b0)=j6 d403.ps d403.others [a0,a1]:=rfl
theorem zO{w:World}:f4 w d403 2 []:=pJ fun _ _ _ _=>.of_eq (by kernel_rfl)
theorem Fk(P:Params):d403.Ok P:=⟨by kernel_rfl,by kernel_rfl⟩
noncomputable def d431:FnD:=⟨st 29,S "low_first",.none,.none,.none,(.str (S "threepress.checks") 739),(.ref 430),.none,431,["octets", "begin", "count"],["found", "at"]⟩
theorem Cp(a0 a1 a2:AV):([("octets",some a0),("begin",some a1),("count",some a2),("found",none),("at",none)]:b0)=j6 d431.ps d431.others [a0,a1,a2]:=rfl
theorem zP{w:World}:f4 w d431 3 []:=Ii fun _ _ _ _ _=>.of_eq (by kernel_rfl)
theorem Fl(P:Params):d431.Ok P:=⟨by kernel_rfl,by kernel_rfl⟩
noncomputable def d438:FnD:=⟨st 30,S "left_turned",.none,.none,.none,(.str (S "threepress.checks") 739),(.ref 437),.none,438,["value", "count", "width"],["ones"]⟩
theorem Cq(a0 a1 a2:AV):([("value",some a0),("count",some a1),("width",some a2),("ones",none)]:b0)=j6 d438.ps d438.others [a0,a1,a2]:=rfl
theorem zQ{w:World}:f4 w d438 3 []:=Ii fun _ _ _ _ _=>.of_eq (by kernel_rfl)
theorem Fn(P:Params):d438.Ok P:=⟨by kernel_rfl,by kernel_rfl⟩
noncomputable def d453:FnD:=⟨me 31 6,S "XxHash64.__init__",(.ref 446),.none,.none,(.str (S "threepress.checks") 739),(.ref 452),.none,453,["self", "seed"],["first"]⟩
theorem Cr(a0 a1:AV):([("self",some a0),("seed",some a1),("first",none)]:b0)=j6 d453.ps d453.others [a0,a1]:=rfl
noncomputable def Fo:List Value:=[]
theorem zR{w:World}:f4 w d453 2 Fo:=pJ fun _ K _ _=>.of_defaults (T:=446) rfl (K 446 (jD w.params) (by kernel_rfl)) rfl rfl rfl
theorem Fp(P:Params):d453.Ok P:=⟨by kernel_rfl,by kernel_rfl⟩
noncomputable def d460:FnD:=⟨me 31 7,S "XxHash64.feed",.none,.none,.none,(.str (S "threepress.checks") 739),(.ref 459),.none,460,["self", "octets"],["begin", "at"]⟩
theorem Cs(a0 a1:AV):([("self",some a0),("octets",some a1),("begin",none),("at",none)]:b0)=j6 d460.ps d460.others [a0,a1]:=rfl
theorem zU{w:World}:f4 w d460 2 []:=pJ fun _ _ _ _=>.of_eq (by kernel_rfl)
theorem Fq(P:Params):d460.Ok P:=⟨by kernel_rfl,by kernel_rfl⟩
noncomputable def d467:FnD:=⟨me 31 8,S "XxHash64.mixed",.none,.none,.none,(.str (S "threepress.checks") 739),(.ref 466),.none,467,["self", "lane", "value"],[]⟩
theorem Ct(a0 a1 a2:AV):([("self",some a0),("lane",some a1),("value",some a2)]:b0)=j6 d467.ps d467.others [a0,a1,a2]:=rfl
theorem zW{w:World}:f4 w d467 3 []:=Ii fun _ _ _ _ _=>.of_eq (by kernel_rfl)
theorem Fs(P:Params):d467.Ok P:=⟨by kernel_rfl,by kernel_rfl⟩
noncomputable def d474:FnD:=⟨me 31 9,S "XxHash64.whole",.none,.none,.none,(.str (S "threepress.checks") 739),(.ref 473),.none,474,["self"],["found", "lane", "turn"]⟩
theorem Cu(a0:AV):([("self",some a0),("found",none),("lane",none),("turn",none)]:b0)=j6 d474.ps d474.others [a0]:=rfl
theorem zX{w:World}:f4 w d474 1 []:=aS fun _ _ _=>.of_eq (by kernel_rfl)
theorem Ft(P:Params):d474.Ok P:=⟨by kernel_rfl,by kernel_rfl⟩
noncomputable def d481:FnD:=⟨me 31 10,S "XxHash64.value",.none,.none,.none,(.str (S "threepress.checks") 739),(.ref 480),.none,481,["self"],["found", "begin", "end", "at"]⟩
theorem Cv(a0:AV):([("self",some a0),("found",none),("begin",none),("end",none),("at",none)]:b0)=j6 d481.ps d481.others [a0]:=rfl
theorem zY{w:World}:f4 w d481 1 []:=aS fun _ _ _=>.of_eq (by kernel_rfl)
theorem Fu(P:Params):d481.Ok P:=⟨by kernel_rfl,by kernel_rfl⟩
noncomputable def d496:FnD:=⟨st 32,S "xxh64",(.ref 489),.none,.none,(.str (S "threepress.checks") 739),(.ref 495),.none,496,["octets", "seed"],["found"]⟩
theorem Cw(a0 a1:AV):([("octets",some a0),("seed",some a1),("found",none)]:b0)=j6 d496.ps d496.others [a0,a1]:=rfl
noncomputable def xP:List Value:=[(.int (0) 854)]
theorem zZ{w:World}:f4 w d496 1 xP:=aS fun _ K _=>.of_defaults (T:=489) rfl (K 489 (jE w.params) (by kernel_rfl)) rfl rfl rfl
theorem Fv(P:Params):d496.Ok P:=⟨by kernel_rfl,by kernel_rfl⟩
noncomputable def d1250:FnD:=⟨me 105 0,S "Tables.__init__",(.ref 1243),.none,.none,(.str (S "threepress.zseq") 1501),(.ref 1249),.none,1250,["self", "literals", "offsets", "matches"],[]⟩
theorem Aa(a0 a1 a2 a3:AV):([("self",some a0),("literals",some a1),("offsets",some a2),("matches",some a3)]:b0)=j6 d1250.ps d1250.others [a0,a1,a2,a3]:=rfl
noncomputable def qC:List Value:=[.none,.none,.none]
theorem uQ{w:World}:f4 w d1250 1 qC:=aS fun _ K _=>.of_defaults (T:=1243) rfl (K 1243 (cX w.params) (by kernel_rfl)) rfl rfl rfl
theorem Cy(P:Params):d1250.Ok P:=⟨by kernel_rfl,by kernel_rfl⟩
noncomputable def d1336:FnD:=⟨me 112 0,S "Offsets.__init__",(.ref 1329),.none,.none,(.str (S "threepress.zseq") 1501),(.ref 1335),.none,1336,["self", "one", "two", "three"],[]⟩
theorem Ab(a0 a1 a2 a3:AV):([("self",some a0),("one",some a1),("two",some a2),("three",some a3)]:b0)=j6 d1336.ps d1336.others [a0,a1,a2,a3]:=rfl
noncomputable def qD:List Value:=[(.int (1) 2450),(.int (4) 2451),(.int (8) 2452)]
theorem uR{w:World}:f4 w d1336 1 qD:=aS fun _ K _=>.of_defaults (T:=1329) rfl (K 1329 (cZ w.params) (by kernel_rfl)) rfl rfl rfl
theorem Cz(P:Params):d1336.Ok P:=⟨by kernel_rfl,by kernel_rfl⟩
noncomputable def d1393:FnD:=⟨st 125,S "window_of",.none,.none,.none,(.str (S "threepress.zframe") 2529),(.ref 1392),.none,1393,["octet"],["base"]⟩
theorem Ac(a0:AV):([("octet",some a0),("base",none)]:b0)=j6 d1393.ps d1393.others [a0]:=rfl
theorem uS{w:World}:f4 w d1393 1 []:=aS fun _ _ _=>.of_eq (by kernel_rfl)
theorem CA(P:Params):d1393.Ok P:=⟨by kernel_rfl,by kernel_rfl⟩
noncomputable def d1408:FnD:=⟨me 126 0,S "FrameHeader.__init__",(.ref 1401),.none,.none,(.str (S "threepress.zframe") 2529),(.ref 1407),.none,1408,["self", "window", "size", "ident", "checksum", "single"],[]⟩
theorem Ad(a0 a1 a2 a3 a4 a5:AV):([("self",some a0),("window",some a1),("size",some a2),("ident",some a3),("checksum",some a4),("single",some a5)]:b0)=j6 d1408.ps d1408.others [a0,a1,a2,a3,a4,a5]:=rfl
noncomputable def CB:List Value:=[]
theorem uT{w:World}:f4 w d1408 6 CB:=bd6 fun _ K _ _ _ _ _ _=>.of_defaults (T:=1401) rfl (K 1401 (dA w.params) (by kernel_rfl)) rfl rfl rfl
theorem CC(P:Params):d1408.Ok P:=⟨by kernel_rfl,by kernel_rfl⟩
noncomputable def d1429:FnD:=⟨st 127,S "is_skip_magic",.none,.none,.none,(.str (S "threepress.zframe") 2529),(.ref 1428),.none,1429,["magic"],[]⟩
theorem Ae(a0:AV):([("magic",some a0)]:b0)=j6 d1429.ps d1429.others [a0]:=rfl
theorem uU{w:World}:f4 w d1429 1 []:=aS fun _ _ _=>.of_eq (by kernel_rfl)
theorem CD(P:Params):d1429.Ok P:=⟨by kernel_rfl,by kernel_rfl⟩
noncomputable def d1436:FnD:=⟨st 128,S "check_magic",.none,.none,.none,(.str (S "threepress.zframe") 2529),(.ref 1435),.none,1436,["magic"],[]⟩
theorem iG(a0:AV):([("magic",some a0)]:b0)=j6 d1436.ps d1436.others [a0]:=rfl
theorem eA{w:World}:f4 w d1436 1 []:=aS fun _ _ _=>.of_eq (by kernel_rfl)
theorem qE(P:Params):d1436.Ok P:=⟨by kernel_rfl,by kernel_rfl⟩
noncomputable def d1443:FnD:=⟨st 129,S "field_counts",.none,.none,.none,(.str (S "threepress.zframe") 2529),(.ref 1442),.none,1443,["descriptor"],["single", "size_count"]⟩
theorem iH(a0:AV):([("descriptor",some a0),("single",none),("size_count",none)]:b0)=j6 d1443.ps d1443.others [a0]:=rfl
theorem eB{w:World}:f4 w d1443 1 []:=aS fun _ _ _=>.of_eq (by kernel_rfl)
theorem qF(P:Params):d1443.Ok P:=⟨by kernel_rfl,by kernel_rfl⟩
noncomputable def d1450:FnD:=⟨st 130,S "read_header",.none,.none,.none,(.str (S "threepress.zframe") 2529),(.ref 1449),.none,1450,["cursor"],["descriptor", "window_count", "ident_count", "size_count", "single", "window", "ident", "size"]⟩
theorem aT(a0:AV):([("cursor",some a0),("descriptor",none),("window_count",none),("ident_count",none),("size_count",none),("single",none),("window",none),("ident",none),("size",none)]:b0)=j6 d1450.ps d1450.others [a0]:=rfl
theorem V7{w:World}:f4 w d1450 1 []:=aS fun _ _ _=>.of_eq (by kernel_rfl)
theorem eC(P:Params):d1450.Ok P:=⟨by kernel_rfl,by kernel_rfl⟩
noncomputable def d1464:FnD:=⟨me 131 0,S "BlockHead.__init__",.none,.none,.none,(.str (S "threepress.zframe") 2529),(.ref 1463),.none,1464,["self", "last", "kind", "size"],[]⟩
theorem Af(a0 a1 a2 a3:AV):([("self",some a0),("last",some a1),("kind",some a2),("size",some a3)]:b0)=j6 d1464.ps d1464.others [a0,a1,a2,a3]:=rfl
theorem uV{w:World}:f4 w d1464 4 []:=Rv fun _ _ _ _ _ _=>.of_eq (by kernel_rfl)
theorem CE(P:Params):d1464.Ok P:=⟨by kernel_rfl,by kernel_rfl⟩
noncomputable def d1478:FnD:=⟨st 132,S "read_block_head",.none,.none,.none,(.str (S "threepress.zframe") 2529),(.ref 1477),.none,1478,["cursor"],["value"]⟩
theorem Ag(a0:AV):([("cursor",some a0),("value",none)]:b0)=j6 d1478.ps d1478.others [a0]:=rfl
theorem uW{w:World}:f4 w d1478 1 []:=aS fun _ _ _=>.of_eq (by kernel_rfl)
theorem CF(P:Params):d1478.Ok P:=⟨by kernel_rfl,by kernel_rfl⟩
noncomputable def d1485:FnD:=⟨st 133,S "pick_dictionary",.none,.none,.none,(.str (S "threepress.zframe") 2529),(.ref 1484),.none,1485,["dictionaries", "ident"],["dictionary"]⟩
theorem iI(a0 a1:AV):([("dictionaries",some a0),("ident",some a1),("dictionary",none)]:b0)=j6 d1485.ps d1485.others [a0,a1]:=rfl
theorem eD{w:World}:f4 w d1485 2 []:=pJ fun _ _ _ _=>.of_eq (by kernel_rfl)
theorem qG(P:Params):d1485.Ok P:=⟨by kernel_rfl,by kernel_rfl⟩
noncomputable def d1501:FnD:=⟨me 134 0,S "FrameState.__init__",(.ref 1494),.none,.none,(.str (S "threepress.zframe") 2529),(.ref 1500),.none,1501,["self", "header", "dictionaries", "most_window", "most_block"],["dictionary"]⟩
theorem iJ(a0 a1 a2 a3 a4:AV):([("self",some a0),("header",some a1),("dictionaries",some a2),("most_window",some a3),("most_block",some a4),("dictionary",none)]:b0)=j6 d1501.ps d1501.others [a0,a1,a2,a3,a4]:=rfl
noncomputable def CG:List Value:=[]
theorem eE{w:World}:f4 w d1501 5 CG:=bd5 fun _ K _ _ _ _ _=>.of_defaults (T:=1494) rfl (K 1494 (dB w.params) (by kernel_rfl)) rfl rfl rfl
theorem qH(P:Params):d1501.Ok P:=⟨by kernel_rfl,by kernel_rfl⟩
noncomputable def d1515:FnD:=⟨me 134 2,S "FrameState.content_count",.none,.none,.none,(.str (S "threepress.zframe") 2529),(.ref 1514),.none,1515,["self", "head"],[]⟩
theorem aU(a0 a1:AV):([("self",some a0),("head",some a1)]:b0)=j6 d1515.ps d1515.others [a0,a1]:=rfl
theorem V8{w:World}:f4 w d1515 2 []:=pJ fun _ _ _ _=>.of_eq (by kernel_rfl)
theorem eF(P:Params):d1515.Ok P:=⟨by kernel_rfl,by kernel_rfl⟩
noncomputable def d1522:FnD:=⟨me 134 3,S "FrameState.block",.none,.none,.none,(.str (S "threepress.zframe") 2529),(.ref 1521),.none,1522,["self", "head", "content"],["begin"]⟩
theorem Q7(a0 a1 a2:AV):([("self",some a0),("head",some a1),("content",some a2),("begin",none)]:b0)=j6 d1522.ps d1522.others [a0,a1,a2]:=rfl
theorem K4{w:World}:f4 w d1522 3 []:=Ii fun _ _ _ _ _=>.of_eq (by kernel_rfl)
theorem Y6(P:Params):d1522.Ok P:=⟨by kernel_rfl,by kernel_rfl⟩
noncomputable def d1550:FnD:=⟨me 134 7,S "FrameState.close",.none,.none,.none,(.str (S "threepress.zframe") 2529),(.ref 1549),.none,1550,["self"],[]⟩
theorem aV(a0:AV):([("self",some a0)]:b0)=j6 d1550.ps d1550.others [a0]:=rfl
theorem V9{w:World}:f4 w d1550 1 []:=aS fun _ _ _=>.of_eq (by kernel_rfl)
theorem eG(P:Params):d1550.Ok P:=⟨by kernel_rfl,by kernel_rfl⟩
noncomputable def d1557:FnD:=⟨me 134 8,S "FrameState.check",.none,.none,.none,(.str (S "threepress.zframe") 2529),(.ref 1556),.none,1557,["self", "told"],["found"]⟩
theorem iK(a0 a1:AV):([("self",some a0),("told",some a1),("found",none)]:b0)=j6 d1557.ps d1557.others [a0,a1]:=rfl
theorem eH{w:World}:f4 w d1557 2 []:=pJ fun _ _ _ _=>.of_eq (by kernel_rfl)
theorem qI(P:Params):d1557.Ok P:=⟨by kernel_rfl,by kernel_rfl⟩
noncomputable def d1571:FnD:=⟨st 135,S "next_magic",.none,.none,.none,(.str (S "threepress.zframe") 2529),(.ref 1570),.none,1571,["cursor", "frames"],["place", "magic"]⟩
theorem iL(a0 a1:AV):([("cursor",some a0),("frames",some a1),("place",none),("magic",none)]:b0)=j6 d1571.ps d1571.others [a0,a1]:=rfl
theorem eI{w:World}:f4 w d1571 2 []:=pJ fun _ _ _ _=>.of_eq (by kernel_rfl)
theorem qJ(P:Params):d1571.Ok P:=⟨by kernel_rfl,by kernel_rfl⟩
noncomputable def d1587:FnD:=⟨me 136 0,S "StreamReader.__init__",(.ref 1580),.none,.none,(.str (S "threepress.zframe") 2529),(.ref 1586),.none,1587,["self", "dictionaries", "most_window", "most_block"],[]⟩
theorem Ah(a0 a1 a2 a3:AV):([("self",some a0),("dictionaries",some a1),("most_window",some a2),("most_block",some a3)]:b0)=j6 d1587.ps d1587.others [a0,a1,a2,a3]:=rfl
noncomputable def qK:List Value:=[(.ref 1579),(.int (8388608) 2845),(.int (131072) 2541)]
theorem uX{w:World}:f4 w d1587 1 qK:=aS fun _ K _=>.of_defaults (T:=1580) rfl (K 1580 (dC w.params) (by kernel_rfl)) rfl rfl rfl
theorem CI(P:Params):d1587.Ok P:=⟨by kernel_rfl,by kernel_rfl⟩
noncomputable def d1594:FnD:=⟨me 136 1,S "StreamReader.feed",.none,.none,.none,(.str (S "threepress.zframe") 2529),(.ref 1593),.none,1594,["self", "octets"],["error", "found"]⟩
theorem aW(a0 a1:AV):([("self",some a0),("octets",some a1),("error",none),("found",none)]:b0)=j6 d1594.ps d1594.others [a0,a1]:=rfl
theorem W0{w:World}:f4 w d1594 2 []:=pJ fun _ _ _ _=>.of_eq (by kernel_rfl)
theorem eJ(P:Params):d1594.Ok P:=⟨by kernel_rfl,by kernel_rfl⟩
noncomputable def d1601:FnD:=⟨me 136 2,S "StreamReader.finish",.none,.none,.none,(.str (S "threepress.zframe") 2529),(.ref 1600),.none,1601,["self"],["magic"]⟩
theorem Ai(a0:AV):([("self",some a0),("magic",none)]:b0)=j6 d1601.ps d1601.others [a0]:=rfl
theorem uY{w:World}:f4 w d1601 1 []:=aS fun _ _ _=>.of_eq (by kernel_rfl)
theorem CJ(P:Params):d1601.Ok P:=⟨by kernel_rfl,by kernel_rfl⟩
noncomputable def d1608:FnD:=⟨me 136 3,S "StreamReader.taken",.none,.none,.none,(.str (S "threepress.zframe") 2529),(.ref 1607),.none,1608,["self", "count"],["found"]⟩
theorem Aj(a0 a1:AV):([("self",some a0),("count",some a1),("found",none)]:b0)=j6 d1608.ps d1608.others [a0,a1]:=rfl
theorem uZ{w:World}:f4 w d1608 2 []:=pJ fun _ _ _ _=>.of_eq (by kernel_rfl)
theorem CK(P:Params):d1608.Ok P:=⟨by kernel_rfl,by kernel_rfl⟩
noncomputable def d1615:FnD:=⟨me 136 4,S "StreamReader.step",.none,.none,.none,(.str (S "threepress.zframe") 2529),(.ref 1614),.none,1615,["self"],[]⟩
theorem B9(a0:AV):([("self",some a0)]:b0)=j6 d1615.ps d1615.others [a0]:=rfl
theorem y5{w:World}:f4 w d1615 1 []:=aS fun _ _ _=>.of_eq (by kernel_rfl)
theorem E2(P:Params):d1615.Ok P:=⟨by kernel_rfl,by kernel_rfl⟩
noncomputable def d1629:FnD:=⟨me 136 6,S "StreamReader.begin",.none,.none,.none,(.str (S "threepress.zframe") 2529),(.ref 1628),.none,1629,["self"],["cursor", "magic", "window_count", "ident_count", "size_count", "count", "header"]⟩
theorem y9(a0:AV):([("self",some a0),("cursor",none),("magic",none),("window_count",none),("ident_count",none),("size_count",none),("count",none),("header",none)]:b0)=j6 d1629.ps d1629.others [a0]:=rfl
theorem w4{w:World}:f4 w d1629 1 []:=aS fun _ _ _=>.of_eq (by kernel_rfl)
theorem C5(P:Params):d1629.Ok P:=⟨by kernel_rfl,by kernel_rfl⟩
noncomputable def d1636:FnD:=⟨me 136 7,S "StreamReader.block",.none,.none,.none,(.str (S "threepress.zframe") 2529),(.ref 1635),.none,1636,["self"],["count", "head"]⟩
theorem u7(a0:AV):([("self",some a0),("count",none),("head",none)]:b0)=j6 d1636.ps d1636.others [a0]:=rfl
theorem t6{w:World}:f4 w d1636 1 []:=aS fun _ _ _=>.of_eq (by kernel_rfl)
theorem x8(P:Params):d1636.Ok P:=⟨by kernel_rfl,by kernel_rfl⟩
noncomputable def d1643:FnD:=⟨me 136 8,S "StreamReader.close",.none,.none,.none,(.str (S "threepress.zframe") 2529),(.ref 1642),.none,1643,["self"],[]⟩
theorem Q8(a0:AV):([("self",some a0)]:b0)=j6 d1643.ps d1643.others [a0]:=rfl
theorem K5{w:World}:f4 w d1643 1 []:=aS fun _ _ _=>.of_eq (by kernel_rfl)
theorem Y7(P:Params):d1643.Ok P:=⟨by kernel_rfl,by kernel_rfl⟩
noncomputable def d1658:FnD:=⟨st 139,S "_law_purse",.none,.none,.none,(.str (S "law_pq1227_01") 2947),(.ref 1657),.none,1658,["script"],["great", "cell"]⟩
theorem Ak(a0:AV):([("script",some a0),("great",none),("cell",none)]:b0)=j6 d1658.ps d1658.others [a0]:=rfl
theorem vA{w:World}:f4 w d1658 1 []:=aS fun _ _ _=>.of_eq (by kernel_rfl)
theorem CL(P:Params):d1658.Ok P:=⟨by kernel_rfl,by kernel_rfl⟩
noncomputable def d1665:FnD:=⟨st 140,S "_law_coin",.none,.none,.none,(.str (S "law_pq1227_01") 2947),(.ref 1664),.none,1665,["purse", "ways"],["found"]⟩
theorem Al(a0 a1:AV):([("purse",some a0),("ways",some a1),("found",none)]:b0)=j6 d1665.ps d1665.others [a0,a1]:=rfl
theorem vB{w:World}:f4 w d1665 2 []:=pJ fun _ _ _ _=>.of_eq (by kernel_rfl)
theorem CM(P:Params):d1665.Ok P:=⟨by kernel_rfl,by kernel_rfl⟩
noncomputable def d1672:FnD:=⟨st 141,S "_law_turned",.none,.none,.none,(.str (S "law_pq1227_01") 2947),(.ref 1671),.none,1672,["value", "count"],[]⟩
theorem Am(a0 a1:AV):([("value",some a0),("count",some a1)]:b0)=j6 d1672.ps d1672.others [a0,a1]:=rfl
theorem vC{w:World}:f4 w d1672 2 []:=pJ fun _ _ _ _=>.of_eq (by kernel_rfl)
theorem CN(P:Params):d1672.Ok P:=⟨by kernel_rfl,by kernel_rfl⟩
noncomputable def d1679:FnD:=⟨st 142,S "_law_sum",.none,.none,.none,(.str (S "law_pq1227_01") 2947),(.ref 1678),.none,1679,["octets"],["one", "two", "three", "four", "five", "whole", "spot", "lane", "octet"]⟩
theorem An(a0:AV):([("octets",some a0),("one",none),("two",none),("three",none),("four",none),("five",none),("whole",none),("spot",none),("lane",none),("octet",none)]:b0)=j6 d1679.ps d1679.others [a0]:=rfl
theorem vD{w:World}:f4 w d1679 1 []:=aS fun _ _ _=>.of_eq (by kernel_rfl)
theorem CP(P:Params):d1679.Ok P:=⟨by kernel_rfl,by kernel_rfl⟩
noncomputable def GS:FnD:=⟨st 143,S "_law_low",.none,.none,.none,(.str (S "law_pq1227_01") 2947),(.ref 1683),.none,1684,["value", "count"],[]⟩
theorem vE{w:World}:f4 w GS 2 []:=pJ fun _ _ _ _=>.of_eq (by kernel_rfl)
-- law has cells
noncomputable def d1691:FnD:=⟨st 144,S "_law_head",.none,.none,.none,(.str (S "law_pq1227_01") 2947),(.ref 1690),.none,1691,["size", "is_checked", "window"],["start"]⟩
theorem iM(a0 a1 a2:AV):([("size",some a0),("is_checked",some a1),("window",some a2),("start",none)]:b0)=j6 d1691.ps d1691.others [a0,a1,a2]:=rfl
theorem eK{w:World}:f4 w d1691 3 []:=Ii fun _ _ _ _ _=>.of_eq (by kernel_rfl)
theorem qL(P:Params):d1691.Ok P:=⟨by kernel_rfl,by kernel_rfl⟩
noncomputable def d1698:FnD:=⟨st 145,S "_law_block",.none,.none,.none,(.str (S "law_pq1227_01") 2947),(.ref 1697),.none,1698,["text", "is_last"],["kind"]⟩
theorem Ao(a0 a1:AV):([("text",some a0),("is_last",some a1),("kind",none)]:b0)=j6 d1698.ps d1698.others [a0,a1]:=rfl
theorem vF{w:World}:f4 w d1698 2 []:=pJ fun _ _ _ _=>.of_eq (by kernel_rfl)
theorem CQ(P:Params):d1698.Ok P:=⟨by kernel_rfl,by kernel_rfl⟩
noncomputable def d1703:FnD:=⟨st 146,S "_law_frame",.none,.none,.none,(.str (S "law_pq1227_01") 2947),(.ref 1702),.none,1703,["purse"],["texts", "text", "is_checked", "made"]⟩
theorem vG{w:World}:f4 w d1703 1 []:=aS fun _ _ _=>.of_eq (by kernel_rfl)
-- law has cells
noncomputable def GT:FnD:=⟨st 147,S "_law_spoilt",.none,.none,.none,(.str (S "law_pq1227_01") 2947),(.ref 1707),.none,1708,["purse", "is_first"],["way", "text", "begun", "right"]⟩
theorem vH{w:World}:f4 w GT 2 []:=pJ fun _ _ _ _=>.of_eq (by kernel_rfl)
-- law has cells
noncomputable def d1715:FnD:=⟨st 148,S "_law_fed",.none,.none,.none,(.str (S "law_pq1227_01") 2947),(.ref 1714),.none,1715,["reader", "octets", "purse"],["told", "place", "count"]⟩
theorem Ap(a0 a1 a2:AV):([("reader",some a0),("octets",some a1),("purse",some a2),("told",none),("place",none),("count",none)]:b0)=j6 d1715.ps d1715.others [a0,a1,a2]:=rfl
theorem vI{w:World}:f4 w d1715 3 []:=Ii fun _ _ _ _ _=>.of_eq (by kernel_rfl)
theorem CR(P:Params):d1715.Ok P:=⟨by kernel_rfl,by kernel_rfl⟩
noncomputable def d1722:FnD:=⟨st 149,S "_law_refusal",.none,.none,.none,(.str (S "law_pq1227_01") 2947),(.ref 1721),.none,1722,["act"],["error"]⟩
theorem Aq(a0:AV):([("act",some a0),("error",none)]:b0)=j6 d1722.ps d1722.others [a0]:=rfl
theorem vJ{w:World}:f4 w d1722 1 []:=aS fun _ _ _=>.of_eq (by kernel_rfl)
theorem CS(P:Params):d1722.Ok P:=⟨by kernel_rfl,by kernel_rfl⟩
noncomputable def d1729:FnD:=⟨st 150,S "law",.none,.none,.none,(.str (S "law_pq1227_01") 2947),(.ref 1728),.none,1729,["script"],["purse", "reader", "many", "turn", "octets", "text", "is_checked", "begun", "wrong", "kind", "right", "first", "again", "last"]⟩
theorem vK{w:World}:f4 w d1729 1 []:=aS fun _ _ _=>.of_eq (by kernel_rfl)
-- law has cells
noncomputable abbrev methT:List ((Addr×Str)×Addr):=[((420, "left"),368),((420, "take"),382),((420, "octet"),396),((420, "little"),403),((484, "feed"),460),((484, "mixed"),467),((484, "whole"),474),((484, "value"),481),((1560, "content_count"),1515),((1560, "block"),1522),((1560, "close"),1550),((1560, "check"),1557),((1646, "feed"),1594),((1646, "finish"),1601),((1646, "taken"),1608),((1646, "step"),1615),((1646, "begin"),1629),((1646, "block"),1636),((1646, "close"),1643)]
noncomputable abbrev clsT:List ((Addr×Str)×Value):=[((484, "PIECE"),(.int (32) 780)),((484, "ONE"),(.int (11400714785074694791) 782)),((484, "TWO"),(.int (14029467366897019727) 784)),((484, "THREE"),(.int (1609587929392839161) 786)),((484, "FOUR"),(.int (9650029242287828579) 788)),((484, "FIVE"),(.int (2870177450012600261) 790))]
noncomputable abbrev globT:List (Str×Value):=[(PySem.Str.ofString "PressError",(.ref 39)),(PySem.Str.ofString "BadBlock",(.ref 64)),(PySem.Str.ofString "BadHeader",(.ref 100)),(PySem.Str.ofString "Trailing",(.ref 136)),(PySem.Str.ofString "BadCheck",(.ref 179)),(PySem.Str.ofString "BadSize",(.ref 198)),(PySem.Str.ofString "NeedsDictionary",(.ref 217)),(PySem.Str.ofString "TooLarge",(.ref 255)),(PySem.Str.ofString "need_count",(.ref 264)),(PySem.Str.ofString "end_of",(.ref 278)),(PySem.Str.ofString "from_little",(.ref 285)),(PySem.Str.ofString "Octets",(.ref 420)),(PySem.Str.ofString "MOST_64",(.int (18446744073709551615) 745)),(PySem.Str.ofString "low_first",(.ref 431)),(PySem.Str.ofString "left_turned",(.ref 438)),(PySem.Str.ofString "XxHash64",(.ref 484)),(PySem.Str.ofString "xxh64",(.ref 496)),(PySem.Str.ofString "LEAST_LOG_fse",(.int (5) 866)),(PySem.Str.ofString "MOST_LOG",(.int (20) 868)),(PySem.Str.ofString "LONGEST",(.int (11) 1143)),(PySem.Str.ofString "MOST_SYMBOLS",(.int (256) 1145)),(PySem.Str.ofString "MOST_PACKED",(.int (127) 1150)),(PySem.Str.ofString "LEAST_FOUR",(.int (6) 1152)),(PySem.Str.ofString "JUMP",(.int (6) 1154)),(PySem.Str.ofString "RAW_zlits",(.int (0) 1319)),(PySem.Str.ofString "RLE",(.int (1) 1321)),(PySem.Str.ofString "COMPRESSED",(.int (2) 1323)),(PySem.Str.ofString "TREELESS",(.int (3) 1325)),(PySem.Str.ofString "LEAST_FOR_FOUR",(.int (6) 1327)),(PySem.Str.ofString "PREDEFINED",(.int (0) 1503)),(PySem.Str.ofString "SINGLE",(.int (1) 1505)),(PySem.Str.ofString "DESCRIBED",(.int (2) 1507)),(PySem.Str.ofString "MOST_OFFSET_CODE",(.int (31) 1509)),(PySem.Str.ofString "MANY_ROWS",(.int (32512) 1511)),(PySem.Str.ofString "Tables",(.ref 1281)),(PySem.Str.ofString "Offsets",(.ref 1381)),(PySem.Str.ofString "FRAME_MAGIC",(.int (4247762216) 2531)),(PySem.Str.ofString "SKIP_MAGIC",(.int (407710288) 2533)),(PySem.Str.ofString "OLDEST_MAGIC",(.int (4247762206) 2535)),(PySem.Str.ofString "FIRST_LEGACY",(.int (4247762210) 2537)),(PySem.Str.ofString "LAST_LEGACY",(.int (4247762215) 2539)),(PySem.Str.ofString "MOST_BLOCK",(.int (131072) 2541)),(PySem.Str.ofString "LEAST_LOG_zframe",(.int (10) 2543)),(PySem.Str.ofString "RAW_zframe",(.int (0) 2545)),(PySem.Str.ofString "RUN",(.int (1) 2547)),(PySem.Str.ofString "RESERVED",(.int (3) 2549)),(PySem.Str.ofString "IDENT_COUNTS",(.ref 1386)),(PySem.Str.ofString "window_of",(.ref 1393)),(PySem.Str.ofString "FrameHeader",(.ref 1418)),(PySem.Str.ofString "is_skip_magic",(.ref 1429)),(PySem.Str.ofString "check_magic",(.ref 1436)),(PySem.Str.ofString "field_counts",(.ref 1443)),(PySem.Str.ofString "read_header",(.ref 1450)),(PySem.Str.ofString "BlockHead",(.ref 1467)),(PySem.Str.ofString "read_block_head",(.ref 1478)),(PySem.Str.ofString "pick_dictionary",(.ref 1485)),(PySem.Str.ofString "FrameState",(.ref 1560)),(PySem.Str.ofString "next_magic",(.ref 1571)),(PySem.Str.ofString "StreamReader",(.ref 1646)),(PySem.Str.ofString "_law_ones",(.ref 1651)),(PySem.Str.ofString "_law_purse",(.ref 1658)),(PySem.Str.ofString "_law_coin",(.ref 1665)),(PySem.Str.ofString "_law_turned",(.ref 1672)),(PySem.Str.ofString "_law_sum",(.ref 1679)),(PySem.Str.ofString "_law_low",(.ref 1684)),(PySem.Str.ofString "_law_head",(.ref 1691)),(PySem.Str.ofString "_law_block",(.ref 1698)),(PySem.Str.ofString "_law_frame",(.ref 1703)),(PySem.Str.ofString "_law_spoilt",(.ref 1708)),(PySem.Str.ofString "_law_fed",(.ref 1715)),(PySem.Str.ofString "_law_refusal",(.ref 1722)),(PySem.Str.ofString "law",(.ref 1729)),(PySem.Str.ofString "len",(.builtin "len")),(PySem.Str.ofString "isinstance",(.builtin "isinstance")),(PySem.Str.ofString "min",(.builtin "min")),(PySem.Str.ofString "abs",(.builtin "abs")),(PySem.Str.ofString "divmod",(.builtin "divmod")),(PySem.Str.ofString "repr",(.builtin "repr")),(PySem.Str.ofString "bytes",(.type "bytes")),(PySem.Str.ofString "bytearray",(.type "bytearray")),(PySem.Str.ofString "int",(.type "int")),(PySem.Str.ofString "bool",(.type "bool")),(PySem.Str.ofString "range",(.type "range")),(PySem.Str.ofString "ValueError",(.type "ValueError")),(PySem.Str.ofString "enumerate",(.type "enumerate")),(PySem.Str.ofString "zip",(.type "zip"))]
theorem CT(P:Params):(methT.all fun p=>I0 P p.1.1 p.1.2 p.2)=true:=by kernel_rfl
theorem Fw(P:Params):(clsT.all fun p=>dY P p.1.1 p.1.2 p.2)=true:=by kernel_rfl
theorem CU(P:Params):(globT.map fun p=>G4 P p.1)=globT.map fun p=>some p.2:=by kernel_rfl
theorem f7{P:Params}{x:Str}{v:Value}(h:In1 x v globT):G4 P x=some v:=by
 have h2:∀(l:List (Str×Value)),(l.map fun p=>G4 P p.1)=(l.map fun p=>some p.2)→∀p∈l,G4 P p.1=some p.2:=fun l e p hp=>by
  induction l with
  | nil=>cases hp
  | cons q l ih=>
   refine oA (List.cons.inj e) fun e1 e2=>?_
   rcases List.mem_cons.mp hp with rfl |hp
   ·exact e1
   ·exact ih e2 hp
 exact h2 globT (CU P) (x,v) h.mem
theorem eL{P:Params}{C g:Addr}{x:Str}(h:In1 (C,x) g methT):I0 P C x g=true:=by
 have e:=List.all_eq_true.mp (CT P) ((C,x),g) h.mem
 exact e
theorem TW{P:Params}{C:Addr}{x:Str}{v:Value}(h:In1 (C,x) v clsT):dY P C x v=true:=by
 have e:=List.all_eq_true.mp (Fw P) ((C,x),v) h.mem
 exact e
section
variable{w:World}{f:FI}{fx:Fx}{X:AV→b0→AH→Prop}{ρ:b0}{H:AH}{s:Shared}{m:GM fx}{news:List (Addr×Obj)}{n:Nat}
theorem Sat'.moved{d:Addr}{ao':AO}{o o':Obj}{H':AH}{s':Shared}(S:Sat' f fx ρ H s m news) (hm:(d,o)∈news) (hp:Put1 d ao' H H') (hr:RepO ao' o') (h1:s'.heap.get? d=some o')
  (h2:∀b ob,b≠d→s.heap.get? b=some ob→s'.heap.get? b=some ob) (hg:s'.gens=s.gens) (ho:s'.os=s.os):Sat f fx ρ H' s':=by
 refine wU (uM (o':=o') hm S.nodup) fun news' U k1 k2 k3=>?_
 have D:=S.nw _ hm
 refine bP (S.fr.ns) fun oL es ep hL r=>?_
 have F':Fr m.h₀ fx.L s'.heap m.m:=⟨⟨oL,es,ep,h2 _ _ (Ne.symm D.2.1) hL,r⟩,fun b x e=>h2 b x (fun q=>by rw[q,D.2.2] at e;cases e) (S.fr.keep b x e),S.fr.above⟩
 refine aN (U.split) fun pre post e1 e2 n1 n2=>?_
 have N':News m.h₀ fx.L s'.heap news':=by
  intro p hp'
  rw[e2] at hp'
  rcases List.mem_append.mp hp' with q |q
  ·have P:=S.nw p (e1▸List.mem_append_left _ q)
   exact⟨h2 _ _ (n1 p q) P.1,P.2⟩
  ·rcases List.mem_cons.mp q with rfl |q
   ·exact⟨h1,D.2⟩
   ·have P:=S.nw p (e1▸List.mem_append_right _ (.tail _ q))
    exact⟨h2 _ _ (n2 p q) P.1,P.2⟩
 exact⟨m,news',S.upd hp hr F' N' k1 k2 k3 hg ho⟩
theorem Sat'.dropped{d:Addr}{o:Obj}{H':AH}{s':Shared}(S:Sat' f fx ρ H s m news) (hm:(d,o)∈news) (hsub:∀p∈H',p∈H∧p.1≠d) (hnd:(H'.map (·.1)).Nodup)
  (h2:∀b ob,b≠d→s.heap.get? b=some ob→s'.heap.get? b=some ob) (hg:s'.gens=s.gens) (ho:s'.os=s.os):Sat f fx ρ H' s':=by
 have D:=S.nw _ hm
 refine bP (S.fr.ns) fun oL es ep hL r=>?_
 have F':Fr m.h₀ fx.L s'.heap m.m:=⟨⟨oL,es,ep,h2 _ _ (Ne.symm D.2.1) hL,r⟩,fun b x e=>h2 b x (fun q=>by rw[q,D.2.2] at e;cases e) (S.fr.keep b x e),S.fr.above⟩
 refine⟨m,news.filter (fun p=>p.1 != d),F',fun p hp=>?_,S.rho,fun p hp=>?_,hnd,?_,hg.trans S.gens,ho.trans S.os⟩
 ·refine oA (List.mem_filter.mp hp) fun hp1 hp2=>?_
  have P:=S.nw p hp1
  exact⟨h2 _ _ (by simpa using hp2) P.1,P.2⟩
 ·refine oA (hsub p hp) fun a b=>?_
  refine f9 (S.items p a) fun ob h3 h4=>?_
  exact⟨ob,List.mem_filter.mpr ⟨h3,by simpa using b⟩,h4⟩
 ·exact(List.filter_sublist.map _).nodup S.nodup
noncomputable def CV(p:Addr×Obj):Addr×AO:=(p.1,.raw p.2)
noncomputable abbrev Y8(I:Addr) (o:Obj) (R:List (Addr×Obj)) (G:AH):AH:=(I,.raw o)::(R.map CV++G)
theorem dE{α:Type}{A:Around}{t:Sem α}{Q Q':α→Shared→Prop}{E:Value→Shared→Prop}(h:c8 (model pw w) A t Q (gG f fx fun _ _ _=>False) s) (hq:∀v s',Q v s'→Q' v s') :
  c8 (model pw w) A t Q' E s:=b6 h hq fun _ _ ⟨_,_,_,_,_,z⟩=>z.elim
theorem qM{x:Str}{px:Pos}{body:List Stmt}{I:Addr}{o₀:Obj}{R:List (Addr×Obj)}{G₀:AH}{P:Nat→Value→Prop}{St:Nat→Heap→Prop}{k:Nat}{Q:AF→b0→AH→Prop}(c:Cx w f fx k)
  (W:Walks pw w fx.A I (I::R.map (·.1)) [I] n P St) (hob:∀i h,St i h→∃o,h.get? I=some o) (J:Nat→b0→AH→Prop)
  (hS:Sat f fx ρ (Y8 I o₀ R G₀) s) (hSt:St 0 s.heap) (hJ:J 0 ρ G₀)
  (turn:∀i cv ρ G o,i<n→P i cv→J i ρ G→∃v ρ',Rep v cv∧Put1 x (some v) ρ ρ'∧Ex w f fx (fun _ _ _=>False) body ρ' (Y8 I o R G) fun fl ρ₂ H₂=>(fl=.next∨fl=.cont)∧∃G',(∀p∈Y8 I o R G',p∈H₂)∧((Y8 I o R G').map (·.1)).Nodup∧J (i+1) ρ₂ G')
  (done:∀ρ G,J n ρ G→Q .next ρ G) :
  j4 (model pw w) fx.A (.forLoop (.Name x px) (.ref I) body [] (f.env fx)) (fun r s'=>match r with
   | .ok fl=>pY f fx RepF Q fl s'
   | .error e=>M5 (model pw w) fx.A (f.env fx) (gG f fx X) e s') s:=by
 refine Y3 (fun j s'=>∃i ρ G o,j=n - i∧i≤n∧Sat f fx ρ (Y8 I o R G) s'∧St i s'.heap∧J i ρ G) (fun j s₁ hI=>?_) (n - 0) ⟨0,ρ,G₀,o₀,rfl,Nat.zero_le _,hS,hSt,hJ⟩
 refine aO (hI) fun i ρ₁ G o zq1 hi zq2 st hJ₁=>?_;subst zq1;obtain⟨m₁,news₁,S₁⟩:=zq2
 refine f9 (S₁.items (I,.raw o) (.head _)) fun oI mI rI=>?_
 obtain rfl:=RepO.inv rI
 have nd:=S₁.keys
 by_cases hlt:i<n
 ·refine a6 (W.item i s₁ _ _ hlt st fun v h' tk hP st' hk=>?_)
  refine p8 (turn i v ρ₁ G       (match h'.get? I with |some o'=>o' |none=>o) hlt hP hJ₁) fun v' ρ' rv hput hbody=>?_
  refine oE (hob _ _ st') fun o' ho'=>?_
  rw[ho'] at hbody
  dsimp only at hbody
  have S₂:Sat f fx ρ₁ (Y8 I o' R G) { s₁ with heap:=h',toks:=tk }:=S₁.moved (s':= { s₁ with heap:=h',toks:=tk }) mI .here (.raw o') ho' (fun b ob hb e=>hk b ob (fun q=>hb (List.mem_singleton.mp q)) e) rfl rfl
  refine b7 ?_
  obtain⟨m₂,news₂,S₂⟩:=S₂
  refine a6 (wpAny_assign_Name (r9 c.ok hput rv S₂ fun h₃ S₃=>?_))
  refine dE (hbody _ S₃) fun fl s₄ hq=>?_
  obtain⟨b,ρ₂,H₂,rb,S₄,hb,G',hsub,hnd,hJ'⟩:=hq
  have S₅:=S₄.sub hsub hnd
  have st₅:St (i+1) s₄.heap:=by
   refine W.frame (i+1) h' s₄.heap st' fun b hb ob e=>?_
   obtain⟨m₅,news₅,S₅⟩:=S₅
   rcases List.mem_cons.mp hb with rfl |hb
   ·rw[ho'] at e;cases e
    refine f9 (S₅.items (b,.raw o') (.head _)) fun x hx rx=>?_
    obtain rfl:=RepO.inv rx
    exact S₅.nw.get hx
   ·refine f9 (List.mem_map.mp hb) fun q hq zq1=>?_;subst zq1
    have hm:(q.1,AO.raw q.2)∈Y8 I o' R G':=.tail _ (List.mem_append_left _ (List.mem_map_of_mem (f:=CV) hq))
    refine f9 (S₅.items _ hm) fun x hx rx=>?_
    obtain rfl:=RepO.inv rx
    have hm2:(q.1,AO.raw q.2)∈Y8 I o' R G:=.tail _ (List.mem_append_left _ (List.mem_map_of_mem (f:=CV) hq))
    refine f9 (S₂.items _ hm2) fun y hy ry=>?_
    obtain rfl:=RepO.inv ry
    have:=S₂.nw.get hy
    rw[show h'.get? q.1=some ob from e] at this
    cases this
    exact S₅.nw.get hx
  have next:∃m,m<n - i∧∃i' ρ G o,m=n - i'∧i'≤n∧Sat f fx ρ (Y8 I o R G) s₄∧St i' s₄.heap∧J i' ρ G:=⟨n - (i+1),by exact HA hlt,i+1,ρ₂,G',o',rfl,hlt,S₅,st₅,hJ'⟩
  rcases hb with rfl |rfl
  ·obtain rfl:=RepF.inv rb;exact next
  ·obtain rfl:=RepF.inv rb;exact next
 ·obtain rfl:i=n:=by exact Hz hi hlt
  refine a6 (W.done s₁ _ _ st fun h' tk hk=>?_)
  have S₂:Sat f fx ρ₁ G { s₁ with heap:=h',toks:=tk }:=S₁.dropped (s':= { s₁ with heap:=h',toks:=tk }) mI (fun p hp=>⟨.tail _ (List.mem_append_right _ hp),fun(q:p.1=I)=>(List.nodup_cons.mp nd).1 (by
   show I∈_
   rw[← q]
   exact List.mem_map_of_mem (f:=(·.1)) (List.mem_append_right _ hp))⟩) (by
    have:=(List.nodup_cons.mp nd).2
    rw[List.map_append] at this
    exact(List.nodup_append.mp this).2.1) (fun b ob hb e=>hk b ob (fun q=>hb (List.mem_singleton.mp q)) e) rfl rfl
  exact a6 (wpAny_execs_nil ⟨_,ρ₁,G,.next,S₂,done _ _ hJ₁⟩)
inductive xQ (ps:AH) (J:b0→AH→Prop) (fl:AF) (ρ:b0) (H:AH):Prop
 | mk (e:fl=.next∨fl=.cont) (G:AH) (d:DelN ps H G) (j:J ρ G)
inductive Qy (w:World) (f:FI) (fx:Fx) (x:Str) (v:AV) (body:List Stmt) (J:b0→AH→Prop) (I:Addr) (o:Obj)  (ρ:b0) (G:AH):Prop
 | mk (ρ':b0) (hp:Put1 x (some v) ρ ρ') (h:Ex w f fx (fun _ _ _=>False) body ρ' ((I,.raw o)::G) (xQ [(I,.raw o)] J))
noncomputable abbrev qN(w:World) (f:FI) (fx:Fx) (x:Str) (body:List Stmt) (n:Nat) (val:Nat→AV) (J:Nat→b0→AH→Prop):Prop:=∀i ρ G I o,i<n→J i ρ G→
 Qy w f fx x (val i) body (J (i+1)) I o ρ G
theorem aX{I:Addr}{a:AO}{H₂ G':AH}(h:DelN [(I,a)] H₂ G') (nd:(H₂.map (·.1)).Nodup):(∀p∈(I,a)::G',p∈H₂)∧(((I,a)::G').map (·.1)).Nodup:=
 ⟨fun p hp=>h.perm.mem_iff.mpr hp,((h.perm.map (·.1)).nodup_iff).mp nd⟩
theorem eM{x:Str}{px:Pos}{body:List Stmt}{I:Addr}{a:Int}{G₀:AH}{k:Nat}{Q:AF→b0→AH→Prop}{J:Nat→b0→AH→Prop}{o₀:Obj}(c:Cx w f fx k) (hh:fx.A.handled=none)
  (hS:Sat f fx ρ ((I,.raw o₀)::G₀) s) (hSt:IsRangeIter s.heap I (a+((0:Nat):Int)*1) ((n:Int) - ((0:Nat):Int)) 1) (hJ:J 0 ρ G₀) (turn:qN w f fx x body n (fun i=>.int (a+i)) J) (done:∀ρ G,J n ρ G→Q .next ρ G) :
  j4 (model pw w) fx.A (.forLoop (.Name x px) (.ref I) body [] (f.env fx)) (fun r s'=>match r with
   | .ok fl=>pY f fx RepF Q fl s'
   | .error e=>M5 (model pw w) fx.A (f.env fx) (gG f fx X) e s') s:=by
 refine qM (R:=[]) c (Walks.range hh I a 1 n) (fun i h st=>⟨_,st⟩) J hS hSt hJ (fun i cv ρ G o hi hP hJ=>?_) done
 refine oE (hP) fun t zq1=>?_;subst zq1
 rw[show a+(i:Int)*1=a+i by exact Ps]
 obtain⟨ρ',hp,hb⟩:=turn i ρ G I o hi hJ
 refine⟨_,ρ',.int _ _,hp,fun s S=>?_⟩
 refine b6 (hb s S) (fun fl s' hq=>?_) fun _ _ z=>z
 obtain⟨b,ρ₂,H₂,rb,S₂,h1,G',h2,h3⟩:=hq
 obtain⟨_,_,S₂'⟩:=id S₂
 refine oA (aX h2 S₂'.keys) fun h4 h5=>?_
 exact⟨b,ρ₂,H₂,rb,S₂,h1,G',h4,h5,h3⟩
theorem eN{A:Around}{E:Value→Shared→Prop}{s:Shared}{pos:Pos}{id:String}{first:List Value}{args:List (Bool×Sem Value)}{Q:Value→Shared→Prop}(hplain:args.any (·.1)=false)
  (h:c8 (model pw w) A (evalArgs (.builtin id) true args []) (fun a s₁=>c8 (model pw w) A (call (.builtin id) (first++a.pos) a.kw) Q E s₁) E s):c8 (model pw w) A (callWith pos (.builtin id) first args []) Q E s:=by
 unfold callWith
 refine a7 (c0 (c5 h fun a s₁ h₁=>a7 (c3 ?_)))
 simp only[hplain,List.any_nil,Bool.or_false]
 refine a7 (b7 ?_)
 exact a7 (c5 h₁ fun r s₂ hr=>a7 (c0 (a6 (wpAny_point (b7 hr)))))
theorem vL{A:Around}{E:Value→Shared→Prop}{s:Shared}{pos:Pos}{T:String}{first:List Value}{args:List (Bool×Sem Value)}{Q:Value→Shared→Prop}(hplain:args.any (·.1)=false)
  (h:c8 (model pw w) A (evalArgs (.type T) true args []) (fun a s₁=>c8 (model pw w) A (call (.type T) (first++a.pos) a.kw) Q E s₁) E s):c8 (model pw w) A (callWith pos (.type T) first args []) Q E s:=by
 unfold callWith
 refine a7 (c0 (c5 h fun a s₁ h₁=>a7 (c3 ?_)))
 simp only[hplain,List.any_nil,Bool.or_false]
 refine a7 (b7 ?_)
 exact a7 (c5 h₁ fun r s₂ hr=>a7 (c0 (a6 (wpAny_point (b7 hr)))))
inductive Qz (w:World) (f:FI) (fx:Fx) (X:AV→b0→AH→Prop) (x:Str) (body:List Stmt) (Q:b0→AH→Prop) (v:AV) (ρ:b0) (H:AH):Prop
 | mk (N:Int) (J:Nat→b0→AH→Prop) (e:v=.int N) (h1: -(2 ^ 62)≤N) (h2:N<2 ^ 62) (j:J 0 ρ H) (t:qN w f fx x body N.toNat (fun i=>.int (0+i)) J) (q:∀ρ G,J N.toNat ρ G→Q ρ G)
theorem nF{x:Str}{px np pos rpos:Pos}{e:Expr}{body:List Stmt}{k:Nat}{Q:AF→b0→AH→Prop}(c:Cx w f fx k) (hh:fx.A.handled=none) (hg:G4 w.params "range" = some (.type "range")) (hx:(f.scope.names.lookup ("range":Str) == some .globalImplicit)=true)
  (h:Ev w f fx X e ρ H (Qz w f fx X x body (Q .next)))
  (hse:autoParam (∀pos,backTo pos (starEach [e] (f.env fx))=[(false,eval e (f.env fx))]) kI)
  (hs:autoParam (∀x,foldedSetIterable (.Call (.Name "range" np) [e] [] rpos) (f.env fx) x=pure x) kI):bT w f fx X (.For (.Name x px) (.Call (.Name "range" np) [e] [] rpos) body [] pos) ρ H Q:=by
 intro s S
 refine yT hs ?_
 refine B8 ?_
 obtain⟨m,news,S'⟩:=S
 refine a6 (G9 (env:=f.env fx) S'.fr (S'.K c) hg c.ok.kind (beq_iff_eq.mp hx) rfl rfl (by decide) ?_)
 show c8 _ _ (callWith rpos _ [] (backTo rpos (starEach [e] (f.env fx))) []) _ _ _
 rw[hse]
 refine vL rfl (bQ (D6 (b6 (h s ⟨m,news,S'⟩) (fun nv s₁ h₁=>N6 ?_) fun _ _ e=>e)))
 obtain⟨b,ρ₁,H₁,r,⟨m₁,news₁,S₁⟩,N,J,rfl,hlo,hhi,hJ,turn,done⟩:=h₁
 obtain⟨tN,rfl⟩:∃t,nv=.int N t:=by obtain⟨_,rfl⟩:=Rep.inv r;exact⟨_,rfl⟩
 refine a6 (call_range_1 ?_)
 refine a6 (wpAny_pyIter_range (IsRange.new ..) (small_one (by decide) (by decide) hlo hhi) ?_)
 have S₂:=S₁.push (ao:=.raw _) (s':= { s₁ with heap:=s₁.heap.push _,toks:=s₁.toks+1+1 }) (o:= { cls:=.type "range",data:=.fields #[.int 0 s₁.toks,.int N tN,.int 1 (s₁.toks+1)] }) rfl (.raw _) rfl rfl rfl
 have S₃:=S₂.push (ao:=.raw _) (s':= { s₁ with heap:=(s₁.heap.push _).push _,toks:=s₁.toks+1+1 }) (o:= { cls:=.type "range_iterator",data:=.fields #[rawInt 0,rawInt (Builtin.Range.rangeSize 0 N 1),rawInt 1] }) rfl (.raw _) rfl rfl rfl
 have hsz:Builtin.Range.rangeSize 0 N 1=(N.toNat:Int):=by rw[rangeSize_one];split <;> (first |exact MT ‹_› |exact No ‹_›)
 have S₄:=Sat.sub (H':=(_,_)::H₁) ⟨_,_,S₃⟩ (fun p hp=>by
  rcases List.mem_cons.mp hp with rfl |hp
  ·exact .head _
  ·exact .tail _ (.tail _ hp)) (by
  have:=S₃.keys
  simp only[List.map_cons] at this ⊢
  exact(List.Sublist.cons₂ _ (List.Sublist.cons _ (List.Sublist.refl _))).nodup this)
 refine eM (G₀:=H₁) c hh S₄ ?_ hJ turn done
 ·have e1:(0+((0:Nat):Int)*1)=0:=by simp
  have e2:((N.toNat:Int) - ((0:Nat):Int))=Builtin.Range.rangeSize 0 N 1:=by rw[hsz];simp
  rw[e1,e2]
  exact Heap.get?_push_size _ rfl
end
open Builtin.Bytes
theorem CW{prog:Program}{w:World}{A:Around}{R:Result→Shared→Prop}{s:Shared}{id:String}{args:Args}{b:Builtin}(hp:plainId id=true) (hb:entryFor table id=some b)
  (h:c8 (model prog w) A.in1 (b args) (fun fin s'=>match fin with | .done f=>R (.ok f) s' | .again c'=>c'.quiet=true∧x5 c'=true∧j4 (model prog w) A c' R s') (fun e s'=>R (.error e) s') s):j4 (model prog w) A (.builtin id args) R s:=by
 refine d7 ?_
 rw[Around.under_plainId hp args]
 refine(?_:c8 _ _ (match entryFor table id with |some b=>b args |none=>unsupported ((withoutEnding? id "#data").getD id)) _ _ s)
 rw[hb]
 exact h
theorem Y9{prog:Program}{w:World}{A:Around}{R:Result→Shared→Prop}{s:Shared}{id:String}{args:Args}{b:Builtin}(hp:plainId id=true) (hn:x5 (.builtin id args)=true) (hb:entryFor table id=some b)
  (h:c8 (model prog w) A.in1 (checkBuiltinCall id args) (fun _ s₁=>c8 (model prog w) A.in1 (b args) (fun fin s'=>match fin with | .done f=>R (.ok f) s' | .again c'=>c'.quiet=true∧x5 c'=true∧j4 (model prog w) A c' R s') (fun e s'=>R (.error e) s') s₁) (fun e s'=>R (.error e) s') s) :
  j4 (model prog w) A (.call (.builtin id) args) R s:=by
 refine d7 ?_
 show c8 _ A.in1 (do checkBuiltinCall id args;again (.builtin id args)) _ _ s
 exact a7 (c5 h fun _ s₁ h₁=>b7 ⟨plainId_quiet hp args,hn,CW hp hb h₁⟩)
theorem aY{prog:Program}{w:World}{A:Around}{E:Value→Shared→Prop}{s:Shared}{T:String}{name:Str}{id:String}{b:Builtin}{self:Value}{rest:List Value}{Q:Value→Shared→Prop}(h:Slot T name id) (hT:s.TypeIs self T) (hn:x5 (.builtin id {})=true)
  (hb:entryFor table id=some b) (ha:argsOk id ⟨self::rest,[]⟩) (hc:c8 (model prog w) A.in1 (b ⟨self::rest,[]⟩) (fun fin s'=>∃v,fin=.done (.ret v)∧Q v s') E s):c8 (model prog w) A (call (.builtin id) (self::rest)) Q E s:=by
 refine z6 (Y9 h.plain hn hb (a6 (h.check _ _ _ _ _ _ _ _ hT ha (c5 hc fun fin s' q=>?_))))
 refine f9 (q) fun v zq1 hv=>?_;subst zq1
 exact hv
noncomputable abbrev u3(x:Array UInt8) (n:Nat):Obj:= { cls:=.type "bytearray",data:=.bytearray x n }
section
variable{w:World}{A:Around}{E:Value→Shared→Prop}{s:Shared}{a:Addr}{x:Array UInt8}
theorem h9{n:Nat}(ho:s.heap.get? a=some (u3 x n)):s.TypeIs (.ref a) "bytearray":=⟨_,ho,rfl⟩
theorem C0{Q:Array UInt8→Shared→Prop}{n:Nat}{M:Model}(ho:s.heap.get? a=some (u3 x n)) (h:Q x s):wpAny M A (payload (.ref a)) Q E s:=by
 unfold payload payload?
 exact wpAny_bind (wpAny_bind (wpAny_load ho (wpAny_pure (wpAny_pure h))))
theorem iN{Q:Unit→Shared→Prop}{M:Model}(hg:A.guards=some []) (ho:s.heap.get? a=some (u3 x 0)) (h:Q () s):c8 M A (checkResize (.ref a)) Q E s:=by
 unfold checkResize
 refine a7 ?_
 refine(?_:c8 M A (exported (.ref a) >>= fun b=>_) _ E s)
 refine a7 (Y2 hg ?_)
 refine(?_:c8 M A (exportsOf (.ref a) >>= fun k=>_) _ E s)
 unfold exportsOf
 refine a7 (a6 (wpAny_bind (wpAny_load ho (wpAny_pure ?_))))
 exact b7 (b7 h)
theorem eO{Q:Unit→Shared→Prop}{M:Model}{n:Nat}(g:Array UInt8→Array UInt8) (ho:s.heap.get? a=some (u3 x n)) (hz:(g x).size≤sizeLine)
  (h:∀h',h'.get? a=some (u3 (g x) n)→Heap.SameBut a s.heap h'→Q () { s with heap:=h' }):wpAny M A (write (.ref a) g) Q E s:=by
 refine(?_:wpAny M A (updateBytearray a g) Q E s)
 unfold updateBytearray
 refine wpAny_bind (wpAny_load ho ?_)
 have up:(s.heap.update a (Obj.mapBytearray g)).get? a=some (u3 (g x) n):=Heap.get?_update_self _ ho rfl
 refine wpAny_bind (wpAny_update ho (wpAny_lookBehind up ?_ (h _ up (Heap.SameBut.update ..))))
 refine(?_:(if (g x).size > sizeLine then some "bytearray:memory" else none)=none)
 rw[if_neg (Nat.not_lt.mpr hz)]
theorem O2:Slot "bytearray" "extend" "bytearray.extend":=
 .of (owner:= "bytearray") (n:= "extend") (by rw[typeLookup_type,builtinLookup_eq_fast];kernel_rfl) (by decide +kernel) (by decide +kernel) (by decide +kernel)
  (by first |exact .inl (by decide +kernel) |exact .inr (by decide +kernel)) (by rw[isSubtype_type];kernel_rfl)
theorem cN:entryFor table "bytearray.extend" = some Builtin.«bytearray.extend»:=by first |exact entryFor_of_fast (by kernel_rfl) |exact entryFor_of_tree (by kernel_rfl)
theorem eQ(u v:Value):argsOk "bytearray.extend" ⟨[u,v],[]⟩:=by unfold argsOk;kernel_rfl
theorem eR{b:Array UInt8}{t:Tok}{id:String}{fl:Int}:takeBufferQuiet? id (.bytes b t) fl=pure (some (b,none)):=by
 have e:takeBuffer? id (.bytes b t) fl=pure (some (b,none)):=by
  unfold takeBuffer?
  rw[KBy.special_eq KBy.look_buffer,KBy.own_buffer]
  have e2:∀full,buffer? id (.bytes b t) full=pure (some b):=fun full=>by
   unfold buffer?
   rw[KBy.special_eq KBy.look_buffer,KBy.own_buffer,KBy.own_release]
   kernel_rfl
  simp only[e2]
  kernel_rfl
 unfold takeBufferQuiet?
 rw[e]
 rfl
theorem Ar{b:Array UInt8}{t:Tok}{Q:Value→Shared→Prop}(hg:A.guards=some []) (ho:s.heap.get? a=some (u3 x 0)) (hz:x.size+b.size≤sizeLine)
  (h:∀h',h'.get? a=some (u3 (x++b) 0)→Heap.SameBut a s.heap h'→Q .none { s with heap:=h' }):c8 (model pw w) A (call (.builtin "bytearray.extend") [.ref a,.bytes b t]) Q E s:=by
 refine aY O2 (h9 ho) (by decide +kernel) cN (eQ _ _) ?_
 unfold Builtin.«bytearray.extend»
 refine a7 (a6 (wpAny_of_eq (a:=(Value.ref a,Value.bytes b t)) rfl ?_))
 dsimp only
 refine a7 (a6 (wpAny_of_eq (KBy.special_eq KBy.look_buffer) ?_))
 refine a7 (a6 (wpAny_rule ?_))
 refine a7 (a6 (C0 ho ?_))
 refine a7 (a6 (wpAny_of_eq eR ?_))
 show c8 _ _ (do
  if !b.isEmpty then checkResize (.ref a)
  write (.ref a) (·++b)
  ret .none) _ _ _
 have fin:c8 (model pw w) A.in1 (write (.ref a) (·++b)) (fun _ s'=>c8 (model pw w) A.in1 (ret .none) (fun fin s'=>∃v,fin=.done (.ret v)∧Q v s') E s') E s:=
  a6 (eO _ ho (by rw[Array.size_append];exact hz) fun h' h1 h2=>b7 ⟨_,rfl,h h' h1 h2⟩)
 cases hb:b.isEmpty with
 | true=>exact a7 fin
 | false=>exact a7 (iN (A:=A.in1) hg ho (a7 fin))
end
open Builtin.Bytes
section
theorem U2:Slot "bytearray" "clear" "bytearray.clear":=
 .of (owner:= "bytearray") (n:= "clear") (by rw[typeLookup_type,builtinLookup_eq_fast];kernel_rfl) (by decide +kernel) (by decide +kernel) (by decide +kernel)
  (by exact .inr (by decide +kernel)) (by rw[isSubtype_type];kernel_rfl)
theorem eS:entryFor table "bytearray.clear" = some Builtin.«bytearray.clear»:=by exact entryFor_of_fast (by kernel_rfl)
theorem gL(u:Value):argsOk "bytearray.clear" ⟨[u],[]⟩:=by unfold argsOk;kernel_rfl
theorem bW:Slot "bytearray" "__len__" "bytearray.__len__":=
 .of (owner:= "bytearray") (n:= "__len__") (by rw[typeLookup_type,builtinLookup_eq_fast];kernel_rfl) (by decide +kernel) (by decide +kernel) (by decide +kernel)
  (by exact .inl (by decide +kernel)) (by rw[isSubtype_type];kernel_rfl)
theorem nG:entryFor table "bytearray.__len__" = some Builtin.«bytearray.__len__»:=by exact entryFor_of_fast (by kernel_rfl)
theorem qO(u:Value):argsOk "bytearray.__len__" ⟨[u],[]⟩:=by unfold argsOk;kernel_rfl
theorem slot_ba_item:Slot "bytearray" "__getitem__" "bytearray.__getitem__":=
 .of (owner:= "bytearray") (n:= "__getitem__") (by rw[typeLookup_type,builtinLookup_eq_fast];kernel_rfl) (by decide +kernel) (by decide +kernel) (by decide +kernel)
  (by exact .inl (by decide +kernel)) (by rw[isSubtype_type];kernel_rfl)
theorem U3:entryFor table "bytearray.__getitem__" = some Builtin.«bytearray.__getitem__»:=by exact entryFor_of_fast (by kernel_rfl)
theorem Z0(u v:Value):argsOk "bytearray.__getitem__" ⟨[u,v],[]⟩:=by unfold argsOk;kernel_rfl
variable{w:World}{A:Around}{E:Value→Shared→Prop}{s:Shared}{a:Addr}{x:Array UInt8}
theorem CX{Q:Value→Shared→Prop}(hg:A.guards=some []) (ho:s.heap.get? a=some (u3 x 0))
  (h:∀h',h'.get? a=some (u3 #[] 0)→Heap.SameBut a s.heap h'→Q .none { s with heap:=h' }):c8 (model pw w) A (call (.builtin "bytearray.clear") [.ref a]) Q E s:=by
 refine aY U2 (h9 ho) (by decide +kernel) eS (gL _) ?_
 unfold Builtin.«bytearray.clear»
 refine a7 (a6 (wpAny_of_eq (a:=Value.ref a) rfl ?_))
 refine a7 (a6 (C0 ho ?_))
 have fin:c8 (model pw w) A.in1 (write (.ref a) fun _=> #[]) (fun _ s'=>c8 (model pw w) A.in1 (ret .none) (fun fin s'=>∃v,fin=.done (.ret v)∧Q v s') E s') E s:=
  a6 (eO (fun _=> #[]) ho (Nat.zero_le _) fun h' h1 h2=>b7 ⟨_,rfl,h h' h1 h2⟩)
 cases hb:x.isEmpty with
 | true=>exact a7 fin
 | false=>exact a7 (iN (A:=A.in1) hg ho (a7 fin))
theorem Il{Q:Value→Shared→Prop}{n:Nat}(ho:s.heap.get? a=some (u3 x n)) (hz:x.size≤1099511627776) (h:∀t k,Q (.int x.size t) { s with toks:=k }):wpAny (model pw w) A (call (.builtin "len") [.ref a]) Q E s:=by
 refine call_len_slot (n:=x.size) (h9 ho) bW (fun Q' hq=>?_) (by exact Pc) (by exact Om hz) (h _ _)
 refine wpAny_call_entry bW (h9 ho) nG ?_ (qO _)
 unfold Builtin.«bytearray.__len__»
 refine wpAny_bind (wpAny_of_eq (a:=(Value.ref a,[])) rfl ?_)
 refine wpAny_bind (C0 ho ?_)
 exact wpAny_bind (wpAny_mkInt (wpAny_pure ⟨_,rfl,hq⟩))
theorem Fy{Q:Value→Shared→Prop}{n:Nat}{i:Int}{u:Tok}(ho:s.heap.get? a=some (u3 x n)) (hz:x.size≤1099511627776) (h0:0≤i) (h1:i<x.size) (h:∀t k,Q (.int (x.toList.getD i.toNat 0).toNat t) { s with toks:=k }) :
  wpAny (model pw w) A (getItem (.ref a) (.int i u)) Q E s:=by
 refine wpAny_getItem_slot (h9 ho) (by decide) slot_ba_item ?_
 refine wpAny_call_entry slot_ba_item (h9 ho) U3 ?_ (Z0 _ _)
 unfold Builtin.«bytearray.__getitem__»
 refine wpAny_bind (wpAny_of_eq (a:=(Value.ref a,[.int i u])) rfl ?_)
 dsimp only
 refine wpAny_bind ?_
 unfold subscript?
 refine wpAny_bind (wpAny_specialOf (typeIs_int s i u) PySem.F.slot_int_index.lookup ?_)
 have hf:fitsIndex i=true:=by simp only[fitsIndex,Bool.and_eq_true,decide_eq_true_eq];exact Pl h0 h1 hz
 refine(?_:wpAny _ _ (if (!fitsIndex i)=true then _ else pure (some i)) _ E s)
 rw[hf]
 refine wpAny_pure ?_
 refine wpAny_bind (C0 ho ?_)
 have hl:i.toNat<x.size:=by exact Pm h0 h1
 have e1:(seqIndex? i x.size).bind (x[·]?)=some (x.toList.getD i.toNat 0):=by
  have hn:¬ i<0:=by exact Hs h0
  have:seqIndex? i x.size=some i.toNat:=by simp [seqIndex?,hn,h0,h1]
  rw[this]
  simp [hl]
 rw[e1]
 exact wpAny_bind (wpAny_mkInt (wpAny_pure ⟨_,rfl,h _ _⟩))
end
open Builtin.Bytes
section
variable{w:World}{A:Around}{E:Value→Shared→Prop}{s:Shared}{a:Addr}{x:Array UInt8}
theorem CY{Q:Value→Shared→Prop}{n:Nat}{sl:Addr}{l u:Value}{lo hi:Option Int}(ho:s.heap.get? a=some (u3 x n)) (hs:s.heap.IsSliceOf sl l u .none) (hl:IsPart l lo) (hu:IsPart u hi) (hz:(KBy.picked x lo hi).size≤sizeLine)
  (h:Q (.ref s.heap.objs.size) { s with heap:=s.heap.push (u3 (KBy.picked x lo hi) 0) }):wpAny (model pw w) A (getItem (.ref a) (.ref sl)) Q E s:=by
 obtain⟨o,hso,hc,hd⟩:=hs
 have hT:s.TypeIs (.ref sl) "slice":=⟨o,hso,hc⟩
 refine wpAny_getItem_slot (h9 ho) (by decide) slot_ba_item ?_
 refine wpAny_call_entry slot_ba_item (h9 ho) U3 ?_ (Z0 _ _)
 unfold Builtin.«bytearray.__getitem__»
 refine wpAny_bind (wpAny_of_eq (a:=(Value.ref a,[.ref sl])) rfl ?_)
 dsimp only
 refine wpAny_bind ?_
 unfold subscript?
 refine wpAny_bind (wpAny_specialOf hT slice_no_index (wpAny_pure ?_))
 refine wpAny_bind (wpAny_typeOf hT ?_)
 refine(?_:wpAny _ _ (sliceParts (.ref sl) >>= fun r=>_) _ _ s)
 refine wpAny_bind ?_
 unfold sliceParts
 refine wpAny_bind (wpAny_field (x:=.none) hso hd rfl ?_)
 kby_none
 refine wpAny_ite (KBy.ite_no (show ¬ ((Value.none == rawInt 0)=true) from Bool.false_ne_true) ?_)
 refine wpAny_bind (wpAny_field (x:=l) hso hd rfl ?_)
 have go:wpAny (model pw w) A.in1 (sliceIndices (rawPart lo) (rawPart hi) (rawPart none) x.size) (fun r s'=>r=sliceBounds lo hi none x.size∧s'=s) (fun _ _=>False) s:=
  wpAny_of_eq (sliceIndices_raw lo hi none x.size (fun e=>nomatch e)) ⟨rfl,rfl⟩
 cases hl <;> cases hu <;> (first
  | (kby_none;(refine wpAny_bind (wpAny_field (x:=.none) hso hd rfl ?_));kby_none)
  | (kby_none;(refine wpAny_bind (wpAny_field (x:=.int _ _) hso hd rfl ?_));kby_int)
  | (kby_int;(refine wpAny_bind (wpAny_field (x:=.none) hso hd rfl ?_));kby_none)
  | (kby_int;(refine wpAny_bind (wpAny_field (x:=.int _ _) hso hd rfl ?_));kby_int)) <;> refine wpAny_pure ?_
 all_goals
  refine wpAny_bind (C0 ho ?_)
  refine wpAny_bind (wpAny_mono go (fun r s' hr=>?_) fun _ _ e=>e.elim)
  obtain⟨hr1,hr2⟩:=hr
  subst hr1 hr2
  exact wpAny_bind (wpAny_newObj_type (wpAny_pure ⟨_,rfl,h⟩) hz)
end
section
open Builtin.Bytes
open Sem (wp)
theorem vM:mroOf (.type "bytearray")=pure [.type "bytearray",.type "object"]:=by rw[mroOf_type];kernel_rfl
theorem gM:typeLookup (.type "bytearray") "__new__" = pure (some (.builtin "bytearray.__new__")):=by rw[typeLookup_type,builtinLookup_eq_fast];kernel_rfl
theorem slot_ba_init:Slot "bytearray" "__init__" "bytearray.__init__":=
 .of (owner:= "bytearray") (n:= "__init__") (by rw[typeLookup_type,builtinLookup_eq_fast];kernel_rfl) (by decide +kernel) (by decide +kernel) (by decide +kernel)
  (by first |exact .inl (by decide +kernel) |exact .inr (by decide +kernel)) (by rw[isSubtype_type];kernel_rfl)
theorem eT:isSubtype (.type "bytearray") (.type "bytearray")=pure true:=by rw[isSubtype_type];kernel_rfl
theorem ba_called:TypeCalled "bytearray" "bytearray.__new__" "bytearray.__init__":=
 ⟨by decide +kernel,by decide +kernel,⟨_,_,vM⟩,madeBy_type vM gM (by decide +kernel),by decide +kernel,eT,slot_ba_init⟩
theorem qP:checkTypeCall "bytearray" ⟨[],[]⟩=pure ():=by kernel_rfl
theorem vN:checkBuiltinCall "bytearray.__new__" ⟨[.type "bytearray"],[]⟩=pure ():=by kernel_rfl
theorem Z1:plainId "bytearray.__new__" = true:=by decide +kernel
theorem nH:entryFor table "bytearray.__new__" = some Builtin.«list.__new__»:=entryFor_alias (id':= "list.__new__") (by kernel_rfl) rfl (by decide +kernel) (by kernel_rfl)
theorem gN:entryFor table "bytearray.__init__" = some Builtin.«bytearray.__init__»:=by first |exact entryFor_of_fast (by kernel_rfl) |exact entryFor_of_tree (by kernel_rfl)
theorem nI(u:Value):argsOk "bytearray.__init__" ⟨[u],[]⟩:=by unfold argsOk;kernel_rfl
set_option maxRecDepth 1000000 in
set_option maxHeartbeats 4000000 in
theorem CZ:("bytearray.__new__".splitOn ".__new__").headD "" = "bytearray":=by simp +decide [String.splitOn,String.splitOnAux]
theorem bX{prog:Program}{w:World}{id:String}{args:Args}{b:Builtin}(hb:entryFor table id=some b):(model prog w).den (.builtin id args)=b args:=by
 refine(?_:(match entryFor table id with |some b=>b args |none=>unsupported ((withoutEnding? id "#data").getD id))= _)
 rw[hb]
theorem B6{α:Type}{M:Model}{A:Around}{E:Value→Shared→Prop}{s:Shared}{c:Bool}{a b:Sem α}{Q:α→Shared→Prop}(hc:c=false) (h:c8 M A b Q E s):c8 M A (if c=true then a else b) Q E s:=by subst hc;exact h
theorem Da{α:Type}{M:Model}{A:Around}{E:Value→Shared→Prop}{s:Shared}{c:Bool}{a b:Sem α}{Q:α→Shared→Prop}(hc:c=true) (h:c8 M A a Q E s):c8 M A (if c=true then a else b) Q E s:=by subst hc;exact h
section
variable{prog:Program}{w:World}{A:Around}{E:Value→Shared→Prop}{s:Shared}
theorem Im{Q:Value→Shared→Prop}(h:Q (.ref s.heap.objs.size) { s with heap:=s.heap.push (u3 #[] 0) }):codeAny (model prog w) A (.call (.builtin "bytearray.__new__") ⟨[.type "bytearray"],[]⟩) (wants Q E) s:=by
 refine codeAny_of_tree ?_
 show wpAny _ A.in1 (do checkBuiltinCall "bytearray.__new__" ⟨[.type "bytearray"],[]⟩;again (.builtin "bytearray.__new__" ⟨[.type "bytearray"],[]⟩)) _ _ s
 refine wpAny_bind (wpAny_of_eq vN (wpAny_pure ⟨plainId_quiet Z1 _,codeAny_builtin_stack nH rfl fun p st=>?_⟩))
 rw[Around.under_plainId Z1 _]
 have hsub:=eT
 have hown:=CZ
 obtain⟨hp,g,d,tk,os⟩:=s
 simp only[hown]
 wp_walk
 exact h
theorem cP:typeLookup (.type "bytearray") "__release_buffer__" = pure (some (.builtin "bytearray.__release_buffer__")):=by rw[typeLookup_type,builtinLookup_eq_fast];kernel_rfl
theorem eU{Q:Bool→Shared→Prop}{a:Addr}{x:Array UInt8}{n:Nat}(ho:s.heap.get? a=some (u3 x n)) (h:Q false s):wpAny (model prog w) A (ownRelease (.ref a)) Q E s:=by
 unfold ownRelease slotIsOwn
 refine wpAny_bind (wpAny_bind (wpAny_specialOf (h9 ho) cP ?_))
 dsimp only
 have e1:(!"bytearray.__release_buffer__".endsWith ("."++ "__release_buffer__"))=false:=by decide +kernel
 have e2: "bytearray.__release_buffer__".dropRight ("__release_buffer__".length+1)= "bytearray":=by decide +kernel
 refine bm_if_false e1 ?_
 rw[e2]
 exact wpAny_isInstance (h9 ho) eT (wpAny_pure h)
theorem Db:bindOptional "bytearray.__init__" "bytearray" ["source", "encoding", "errors"] [] []=pure [none,none,none]:=by kernel_rfl
theorem Fz{Q:Value→Shared→Prop}{a:Addr}(hg:A.guards=some []) (ho:s.heap.get? a=some (u3 #[] 0)) (h:∀h',h'.get? a=some (u3 #[] 0)→Heap.SameBut a s.heap h'→Q .none { s with heap:=h' }) :
  c8 (model prog w) A (Builtin.«bytearray.__init__» ⟨[.ref a],[]⟩) (fun fin s'=>∃v,fin=.done (.ret v)∧Q v s') E s:=by
 unfold Builtin.«bytearray.__init__»
 dsimp only
 refine a7 (a6 (eU ho ?_))
 refine B6 rfl ?_
 refine a7 (a6 (wpAny_of_eq Db ?_))
 dsimp only
 refine a7 (a6 (wpAny_of_eq (a:=()) rfl ?_))
 refine a7 (a6 (wpAny_of_eq (a:=()) rfl ?_))
 refine a7 ?_
 refine(?_:c8 _ A (exported (.ref a) >>= fun b=>_) _ E s)
 refine a7 (Y2 hg ?_)
 refine(?_:c8 _ A (exportsOf (.ref a) >>= fun k=>_) _ E s)
 unfold exportsOf
 refine a7 (a6 (wpAny_bind (wpAny_load ho (wpAny_pure ?_))))
 refine b7 ?_
 refine B6 rfl ?_
 refine a7 (a6 (eO (fun _=> #[]) ho (Nat.zero_le _) fun h' h1 h2=>?_))
 refine a7 (a6 (wpAny_of_eq (a:=()) rfl ?_))
 exact b7 ⟨_,rfl,h h' h1 h2⟩
theorem FA{Q:Value→Shared→Prop}(hg:A.guards=some []) (h:∀h',h'.get? s.heap.objs.size=some (u3 #[] 0)→(∀b o,s.heap.get? b=some o→h'.get? b=some o)→Q (.ref s.heap.objs.size) { s with heap:=h' }):c8 (model prog w) A (call (.type "bytearray") []) Q E s:=by
 refine z6 (d7 ?_)
 refine(?_:c8 _ _ (callAny (.type "bytearray") _) _ _ _)
 refine b7 ⟨Code.quiet_builtin _ (by decide +kernel),rfl,d7 ?_⟩
 rw[bX PySem.F.entry_type_call]
 rw[Around.under_plain (weight_type_call_type "bytearray" [] []) rfl]
 unfold Builtin.«type.__call__»
 dsimp only
 refine B6 ba_called.notType ?_
 refine B6 ba_called.canCreate ?_
 refine a7 (a6 (wpAny_of_eq qP ?_))
 refine a7 (a6 (wpAny_of_eq vM ?_))
 refine B6 rfl ?_
 refine a7 (a6 (wpAny_of_eq ba_called.made ?_))
 dsimp only
 refine a7 (b7 ?_)
 refine a7 (c0 (a6 (wpAny_call (Im ?_))))
 have ho:(s.heap.push (u3 #[] 0)).get? s.heap.objs.size=some (u3 #[] 0):=Heap.get?_push_size _ rfl
 have hT:=h9 (s:= { s with heap:=s.heap.push (u3 #[] 0) }) ho
 refine a7 (a6 (wpAny_isInstance hT eT ?_))
 refine B6 rfl ?_
 refine a7 (c0 ?_)
 unfold callSpecial?
 refine a7 (a6 (wpAny_specialOf hT slot_ba_init.lookup ?_))
 dsimp only
 refine c0 ?_
 refine a7 (a6 (wpAny_of_eq (slot_ba_init.bind _) ?_))
 dsimp only
 refine a7 ?_
 refine aY (A:=A.in1) slot_ba_init hT (by decide +kernel) gN (nI _) ?_
 refine Fz (A:=A.in1.in1) hg ho fun h' h1 h2=>?_
 refine b7 ?_
 dsimp only
 refine B6 rfl ?_
 refine b7 (h h' h1 fun b o e=>?_)
 exact(h2.2 b (Nat.ne_of_lt (Heap.lt_size e))).trans (Heap.get?_push_of_some _ e)
end
end
open Builtin.Bytes
section
variable{prog:Program}{w:World}{A:Around}{E:Value→Shared→Prop}{s:Shared}
theorem qQ:typeLookup (.type "bytearray") "__bytes__" = pure none:=by rw[typeLookup_type,builtinLookup_eq_fast];kernel_rfl
theorem qR:typeLookup (.type "bytearray") "__index__" = pure none:=by rw[typeLookup_type,builtinLookup_eq_fast];kernel_rfl
theorem E3:typeLookup (.type "bytearray") "__buffer__" = pure (some (.builtin "bytearray.__buffer__")):=by rw[typeLookup_type,builtinLookup_eq_fast];kernel_rfl
theorem gO:typeLookup (.type "bytes") "__bytes__" = pure (some (.builtin "bytes.__bytes__")):=by rw[typeLookup_type,builtinLookup_eq_fast];kernel_rfl
theorem gP{Q:Bool→Shared→Prop}{a:Addr}{x:Array UInt8}{n:Nat}(ho:s.heap.get? a=some (u3 x n)) (h:Q true s):wpAny (model prog w) A (slotIsOwn (.ref a) "__buffer__") Q E s:=by
 unfold slotIsOwn
 refine wpAny_bind (wpAny_specialOf (h9 ho) E3 ?_)
 dsimp only
 have e1:(!"bytearray.__buffer__".endsWith ("."++ "__buffer__"))=false:=by decide +kernel
 have e2: "bytearray.__buffer__".dropRight ("__buffer__".length+1)= "bytearray":=by decide +kernel
 refine bm_if_false e1 ?_
 rw[e2]
 exact wpAny_isInstance (h9 ho) eT h
theorem As{Q:Option (Array UInt8)→Shared→Prop}{a:Addr}{x:Array UInt8}{n:Nat}{id:String}{full:Bool}(ho:s.heap.get? a=some (u3 x n)) (h:Q (some x) s):wpAny (model prog w) A (buffer? id (.ref a) full) Q E s:=by
 unfold buffer?
 refine wpAny_bind (wpAny_specialOf (h9 ho) E3 ?_)
 try dsimp only
 refine wpAny_bind (gP ho ?_)
 refine bm_if_false rfl ?_
 refine wpAny_bind (wpAny_specialOf (h9 ho) E3 ?_)
 try dsimp only
 refine wpAny_bind (eU ho ?_)
 refine bm_if_false rfl ?_
 exact wpAny_bind (C0 ho (wpAny_pure h))
theorem qS{Q:Value→Shared→Prop}{a:Addr}{x:Array UInt8}{n:Nat}(ho:s.heap.get? a=some (u3 x n)) (hz:x.size≤sizeLine) (h:∀t k,Q (.bytes x t) { s with toks:=k }) :
  codeAny (model prog w) A (.call (.builtin "bytes.__new__") ⟨[.type "bytes",.ref a],[]⟩) (wants Q E) s:=by
 refine codeAny_of_tree ?_
 show wpAny _ A.in1 (do checkBuiltinCall "bytes.__new__" ⟨[.type "bytes",.ref a],[]⟩;again (.builtin "bytes.__new__" ⟨[.type "bytes",.ref a],[]⟩)) _ _ s
 refine wpAny_bind (wpAny_of_eq (PySem.F.bm_newCall _) (wpAny_pure ⟨plainId_quiet PySem.F.bm_plain _,codeAny_builtin PySem.F.bm_entry ?_⟩))
 rw[Around.under_plainId PySem.F.bm_plain _]
 have hT:=h9 ho
 unfold Builtin.«bytes.__new__»
 refine wpAny_bind (wpAny_of_eq (a:=true) rfl ?_)
 refine bm_if_false rfl ?_
 refine wpAny_bind (wpAny_of_eq PySem.F.bm_sub ?_)
 refine bm_if_false rfl ?_
 refine wpAny_bind (wpAny_of_eq (PySem.F.bm_bind _) ?_)
 refine wpAny_bind (wpAny_of_eq (a:=()) rfl ?_)
 refine wpAny_bind (wpAny_of_eq (a:=()) rfl ?_)
 refine bm_if_false rfl ?_
 refine wpAny_bind (wpAny_specialOf hT qQ ?_)
 refine wpAny_bind (wpAny_bind ?_)
 refine(?_:wpAny _ _ (load a >>= _) _ _ _)
 refine wpAny_bind (wpAny_load ho ?_)
 refine wpAny_pure (wpAny_pure ?_)
 refine bm_if_false rfl ?_
 refine wpAny_bind (wpAny_specialOf hT qR ?_)
 refine bm_if_true rfl ?_
 first
  | show wpAny _ _ (buffer? "bytes.__new__" (.ref a) true >>= _) _ _ _
  | (refine wpAny_bind ?_;show wpAny _ _ (buffer? "bytes.__new__" (.ref a) true >>= _) _ _ _)
 refine wpAny_bind (As ho ?_)
 dsimp only
 refine wpAny_bind (wpAny_rule ?_)
 refine wpAny_bind (wpAny_mkBytes ?_ hz)
 refine(?_:wpAny _ _ (if (Value.type "bytes" == Value.type "bytes")=true then ret (.bytes x _) else _) _ _ _)
 exact bm_if_true (by decide +kernel) (wpAny_pure (h _ _))
theorem gQ{Q:Value→Shared→Prop}{a:Addr}{x:Array UInt8}{n:Nat}(ho:s.heap.get? a=some (u3 x n)) (hz:x.size≤sizeLine) (h:∀t k,Q (.bytes x t) { s with toks:=k }):wpAny (model prog w) A (call (.type "bytes") [.ref a]) Q E s:=by
 refine callType_codes (Q₁:=fun obj s₁=>s₁.TypeIs obj "bytes"∧Q obj s₁) PySem.F.bm_called (PySem.F.bm_typeCall _) PySem.F.entry_object_init (qS ho hz fun t k=>⟨typeIs_bytes _ _ _,h t k⟩) fun obj s₁ h₁=>?_
 exact⟨h₁.1,PySem.F.args_object_init_2 obj _,object_init_meets PySem.F.bm_called.init.lookup PySem.F.bm_called.made (by decide) prog w A.in1 _ s₁ ⟨h₁.1,rfl,h₁.2⟩⟩
theorem eV{Q:Value→Shared→Prop}{x:Array UInt8}{t:Tok}(h:Q (.bytes x t) s):codeAny (model prog w) A (.call (.builtin "bytes.__new__") ⟨[.type "bytes",.bytes x t],[]⟩) (wants Q E) s:=by
 refine codeAny_of_tree ?_
 show wpAny _ A.in1 (do checkBuiltinCall "bytes.__new__" ⟨[.type "bytes",.bytes x t],[]⟩;again (.builtin "bytes.__new__" ⟨[.type "bytes",.bytes x t],[]⟩)) _ _ s
 refine wpAny_bind (wpAny_of_eq (PySem.F.bm_newCall _) (wpAny_pure ⟨plainId_quiet PySem.F.bm_plain _,codeAny_builtin PySem.F.bm_entry ?_⟩))
 rw[Around.under_plainId PySem.F.bm_plain _]
 have hT:s.TypeIs (.bytes x t) "bytes":=typeIs_bytes _ _ _
 unfold Builtin.«bytes.__new__»
 refine wpAny_bind (wpAny_of_eq (a:=true) rfl ?_)
 refine bm_if_false rfl ?_
 refine wpAny_bind (wpAny_of_eq PySem.F.bm_sub ?_)
 refine bm_if_false rfl ?_
 refine wpAny_bind (wpAny_of_eq (PySem.F.bm_bind _) ?_)
 refine wpAny_bind (wpAny_of_eq (a:=()) rfl ?_)
 refine wpAny_bind (wpAny_of_eq (a:=()) rfl ?_)
 refine bm_if_false rfl ?_
 refine wpAny_bind (wpAny_specialOf hT gO ?_)
 dsimp only
 refine wpAny_bind (wpAny_rule ?_)
 refine wpAny_bind (wpAny_typeOf hT ?_)
 refine bm_if_true rfl ?_
 refine(?_:wpAny _ _ (if (Value.type "bytes" == Value.type "bytes")=true then ret (.bytes x _) else _) _ _ _)
 exact bm_if_true (by decide +kernel) (wpAny_pure h)
theorem aZ{Q:Value→Shared→Prop}{x:Array UInt8}{t:Tok}(h:Q (.bytes x t) s):wpAny (model prog w) A (call (.type "bytes") [.bytes x t]) Q E s:=by
 refine callType_codes (Q₁:=fun obj s₁=>s₁.TypeIs obj "bytes"∧Q obj s₁) PySem.F.bm_called (PySem.F.bm_typeCall _) PySem.F.entry_object_init (eV ⟨typeIs_bytes _ _ _,h⟩) fun obj s₁ h₁=>?_
 exact⟨h₁.1,PySem.F.args_object_init_2 obj _,object_init_meets PySem.F.bm_called.init.lookup PySem.F.bm_called.made (by decide) prog w A.in1 _ s₁ ⟨h₁.1,rfl,h₁.2⟩⟩
end
section
variable{M:Model}{A:Around}{E:Value→Shared→Prop}{s:Shared}{env:Env}
theorem eW{value slice:Expr}{pos:Pos}{Q:Value→Shared→Prop}(h:c8 M A (eval value env) (fun o s₁=>c8 M A (eval slice env) (fun i s₂=>c8 M A (subscriptTail value slice o i) Q E s₂) E s₁) E s):c8 M A (eval (.Subscript value slice pos) env) Q E s:=by
 rw[arm_eval_Subscript]
 exact a7 (c5 h fun o s₁ h₁=>a7 (c0 (c5 h₁ fun i s₂ h₂=>a7 (c3 h₂))))
theorem Io{lower upper step:Option Expr}{p:Pos}{Q:Value→Shared→Prop}
  (h:c8 M A (evalPart lower env) (fun l s₁=>c8 M A (evalPart upper env) (fun u s₂=>c8 M A (evalPart step env) (fun st s₃=>Q (.ref s₃.heap.objs.size) { s₃ with heap:=s₃.heap.push { cls:=.type "slice",data:=.fields #[l,u,st] } }) E s₂) E s₁) E s) :
  c8 M A (eval (.Slice lower upper step p) env) Q E s:=by
 rw[arm_eval_Slice]
 exact a7 (c5 h fun l s₁ h₁=>a7 (c0 (c5 h₁ fun u s₂ h₂=>a7 (c0 (c5 h₂ fun st s₃ h₃=>a6 (wpAny_newObj_type h₃))))))
theorem Ip{elts:List Expr}{k:Nat}{pos:Pos}{Q:Value→Shared→Prop}(h:c8 M A (spliced (backTo pos (starEach elts env))) (fun vs s₁=>c8 M A (newTuple vs) Q E s₁) E s):c8 M A (eval (.Tuple elts k pos) env) Q E s:=by
 rw[arm_eval_Tuple]
 exact a7 (c3 (a7 h))
theorem QA{elts:List Expr}{pos:Pos}{Q:Value→Shared→Prop}(h:c8 M A (spliced (backTo pos (starEach elts env))) (fun vs s₁=>c8 M A (newList vs) Q E s₁) E s):c8 M A (eval (.List elts pos) env) Q E s:=by
 rw[arm_eval_List]
 exact a7 (c3 (a7 h))
theorem Iq{op:UnaryOp}{x:Expr}{pos:Pos}{Q:Value→Shared→Prop}(h:c8 M A (eval x env) (fun v s₁=>c8 M A (unaryOp op v) Q E s₁) E s):c8 M A (eval (.UnaryOp op x pos) env) Q E s:=by
 rw[arm_eval_UnaryOp]
 exact a7 (c5 h fun v s₁ h₁=>a7 (c3 (c0 h₁)))
theorem Dc{x:Str}{pos' pos:Pos}{op:Operator}{value:Expr}{Q:Flow→Shared→Prop}
  (h:c8 M A (loadName env x) (fun old s₁=>c8 M A (eval value env) (fun v s₂=>c8 M A (inplaceOp op old v) (fun r s₃=>c8 M A (storeName env x r) (fun _=>Q .next) E s₃) E s₂) E s₁) E s):c8 M A (exec (.AugAssign (.Name x pos') op value pos) env) Q E s:=by
 rw[exec_AugAssign_Name]
 exact a7 (c3 (a7 (c5 h fun old s₁ h₁=>a7 (c0 (c5 h₁ fun v s₂ h₂=>a7 (c3 (a7 (y7 (c5 h₂ fun r s₃ h₃=>
  a7 (c3 (a7 (D5 (c5 h₃ fun _ s₄ h₄=>b7 h₄)))))))))))))
theorem Dd{o value:Expr}{attr:Str}{tpos pos:Pos}{op:Operator}{Q:Flow→Shared→Prop}
  (h:c8 M A (eval o env) (fun ov s₁=>c8 M A (getAttr ov attr true) (fun old s₂=>c8 M A (eval value env) (fun v s₃=>c8 M A (inplaceOp op old v) (fun new s₄=>c8 M A (setAttr ov attr new) (fun _=>Q .next) E s₄) E s₃) E s₂) E s₁) E s) :
  c8 M A (exec (.AugAssign (.Attribute o attr tpos) op value pos) env) Q E s:=by
 have e:exec (.AugAssign (.Attribute o attr tpos) op value pos) env=(do
   standAt pos
   let ov ← eval o env
   let new ← holding [ov] do
    standAt tpos.atName
    let old ← getAttr ov attr true
    let v ← holding [old] (eval value env)
    standAt pos
    operate [old,v] (inplaceOp op old v)
   standAt tpos.atName
   holding [new,ov] (setAttr ov attr new)
   release [new,ov] []
   pure .next):=rfl
 rw[e]
 exact a7 (c3 (a7 (c5 h fun ov s₁ h₁=>a7 (c0 (a7 (c3 (a7 (c5 h₁ fun old s₂ h₂=>a7 (c0 (c5 h₂ fun v s₃ h₃=>
  a7 (c3 (y7 (c5 h₃ fun new s₄ h₄=>a7 (c3 (a7 (c0 (c5 h₄ fun _ s₅ h₅=>a7 (G8 (b7 h₅)))))))))))))))))))
theorem GU{e:Expr}{pos:Pos}{Q:Flow→Shared→Prop}(hi:interactive env=false) (hs:swapsWith e none pos.line env=pure false) (h:c8 M A (eval e env) (fun v s'=>(∀a,v≠.ref a)∧Q .next s') E s):c8 M A (exec (.Expr e pos) env) Q E s:=by
 rw[exec_Expr env e pos hi hs]
 refine a7 (c3 (a7 (c5 h fun v s' h'=>?_)))
 rw[dropValue_plain h'.1]
 exact b7 h'.2
theorem FC{Q:Bool→Shared→Prop}(h:Q true s):c8 M A (allTrue .And [] env) Q E s:=b7 h
theorem Ir{Q:Bool→Shared→Prop}(h:Q false s):c8 M A (allTrue .Or [] env) Q E s:=b7 h
theorem De{x:Expr}{rest:List Expr}{Q:Bool→Shared→Prop}(h:c8 M A (isTrue x env (eval x env)) (fun b s₁=>if b then c8 M A (allTrue .And rest env) Q E s₁ else Q false s₁) E s):c8 M A (allTrue .And (x::rest) env) Q E s:=by
 rw[arm_allTrue_cons]
 refine a7 (c5 h fun b s₁ h₁=>?_)
 cases b with
 | true=>exact h₁
 | false=>exact b7 h₁
theorem FD{x:Expr}{rest:List Expr}{Q:Bool→Shared→Prop}(h:c8 M A (isTrue x env (eval x env)) (fun b s₁=>if b then Q true s₁ else c8 M A (allTrue .Or rest env) Q E s₁) E s):c8 M A (allTrue .Or (x::rest) env) Q E s:=by
 rw[arm_allTrue_cons]
 refine a7 (c5 h fun b s₁ h₁=>?_)
 cases b with
 | true=>exact b7 h₁
 | false=>exact h₁
theorem Au{op:BoolOp}{values:List Expr}{pos:Pos}{whole:Sem Value}{Q:Bool→Shared→Prop}(h:c8 M A (allTrue op values env) Q E s):c8 M A (isTrue (.BoolOp op values pos) env whole) Q E s:=by rw[arm_isTrue_BoolOp];exact h
theorem QB{a b:Expr}{pos:Pos}{Q:Value→Shared→Prop}(h:c8 M A (eval a env) (fun v s₁=>c8 M A (truthy v) (fun t s₂=>if t then c8 M A (eval b env) Q E s₂ else Q v s₂) E s₁) E s):c8 M A (eval (.BoolOp .And [a,b] pos) env) Q E s:=by
 rw[arm_eval_BoolOp]
 show c8 M A (do
  let v ← eval a env
  standAt pos
  let t ← holding [v] (truthy v)
  match BoolOp.And,t with
  | .And,false | .Or,true=>pure v
  | _,_=>eval b env) Q E s
 refine a7 (c5 h fun v s₁ h₁=>a7 (c3 (a7 (c0 (c5 h₁ fun t s₂ h₂=>?_)))))
 cases t with
 | true=>exact h₂
 | false=>exact b7 h₂
theorem FE{left:Value}{op:CmpOp}{r:Sem Value}{pos:Pos}{Q:Bool→Shared→Prop}(h:c8 M A r (fun rv s₁=>c8 M A (compareOp op left rv) (fun c s₂=>c8 M A (truthy c) Q E s₂) E s₁) E s):c8 M A (testChain pos left [op] [r]) Q E s:=
 a7 (c0 (c5 h fun rv s₁ h₁=>a7 (c3 (a7 (y7 (c5 h₁ fun c s₂ h₂=>c0 h₂))))))
theorem vO{left:Value}{op op':CmpOp}{ops:List CmpOp}{r r':Sem Value}{rs:List (Sem Value)}{pos:Pos}{Q:Bool→Shared→Prop}
  (h:c8 M A r (fun rv s₁=>c8 M A (compareOp op left rv) (fun c s₂=>c8 M A (truthy c) (fun t s₃=>if t then c8 M A (testChain pos rv (op'::ops) (r'::rs)) Q E s₃ else Q false s₃) E s₂) E s₁) E s):c8 M A (testChain pos left (op::op'::ops) (r::r'::rs)) Q E s:=by
 refine a7 (c0 (c5 h fun rv s₁ h₁=>a7 (c3 (a7 (c0 (c5 h₁ fun c s₂ h₂=>a7 (G8 (a7 (c0 (c5 h₂ fun t s₃ h₃=>?_))))))))))
 cases t with
 | true=>exact h₃
 | false=>exact b7 h₃
end
section
variable{w:World}{f:FI}{fx:Fx}{X:AV→b0→AH→Prop}{ρ:b0}{H:AH}{n:Nat}
noncomputable abbrev E4(w:World) (f:FI) (fx:Fx) (X:AV→b0→AH→Prop) (id:String) (vs:List AV) (ρ:b0) (H:AH) (Q:AV→b0→AH→Prop):Prop:=∀cvs,All2 Rep vs cvs→Tr w f fx X Rep (call (.builtin id) cvs) ρ H Q
noncomputable abbrev M6(w:World) (f:FI) (fx:Fx) (X:AV→b0→AH→Prop) (T:String) (vs:List AV) (ρ:b0) (H:AH) (Q:AV→b0→AH→Prop):Prop:=∀cvs,All2 Rep vs cvs→Tr w f fx X Rep (call (.type T) cvs) ρ H Q
noncomputable abbrev vP(w:World) (f:FI) (fx:Fx) (X:AV→b0→AH→Prop) (id:String) (Q:AV→b0→AH→Prop) (vs:List AV) (ρ:b0) (H:AH):Prop:=E4 w f fx X id vs ρ H Q
noncomputable abbrev Df(w:World) (f:FI) (fx:Fx) (X:AV→b0→AH→Prop) (T:String) (Q:AV→b0→AH→Prop) (vs:List AV) (ρ:b0) (H:AH):Prop:=M6 w f fx X T vs ρ H Q
theorem O3{x:Str}{np pos:Pos}{e:Expr}{es:List Expr}{id:String}{Q:AV→b0→AH→Prop}(c:Cx w f fx n) (hv:G4 w.params x=some (.builtin id)) (hx:(f.scope.names.lookup x == some .globalImplicit)=true) (hd:(x == ("__debug__":Str))=false)
  (h:Ea w f fx X (e::es) ρ H (vP w f fx X id Q))
  (he:autoParam (starEach (e::es) (f.env fx)=(false,eval e (f.env fx))::starEach es (f.env fx)) kR) (hp:autoParam ((backTo pos (starEach es (f.env fx))).any (·.1)=false) kR):Ev w f fx X (.Call (.Name x np) (e::es) [] pos) ρ H Q:=by
 intro s S
 refine B8 ?_
 obtain⟨m,news,S'⟩:=S
 refine a6 (G9 (env:=f.env fx) S'.fr (S'.K c) hv c.ok.kind (beq_iff_eq.mp hx) rfl rfl hd ?_)
 have hh:=h pos s ⟨m,news,S'⟩
 rw[he] at hh ⊢
 refine eN (by show(false || (backTo pos (starEach es (f.env fx))).any (·.1))=false;rw[hp];rfl) (bQ (b6 hh (fun vs s₁ q=>?_) fun _ _ x=>x))
 obtain⟨bs,ρ₁,H₁,rs,S₁,h₁⟩:=q
 exact h₁ _ rs s₁ S₁
theorem z9{x:Str}{np pos:Pos}{e:Expr}{es:List Expr}{T:String}{Q:AV→b0→AH→Prop}(c:Cx w f fx n) (hv:G4 w.params x=some (.type T)) (hx:(f.scope.names.lookup x == some .globalImplicit)=true) (hd:(x == ("__debug__":Str))=false)
  (h:Ea w f fx X (e::es) ρ H (Df w f fx X T Q))
  (he:autoParam (starEach (e::es) (f.env fx)=(false,eval e (f.env fx))::starEach es (f.env fx)) kR) (hp:autoParam ((backTo pos (starEach es (f.env fx))).any (·.1)=false) kR):Ev w f fx X (.Call (.Name x np) (e::es) [] pos) ρ H Q:=by
 intro s S
 refine B8 ?_
 obtain⟨m,news,S'⟩:=S
 refine a6 (G9 (env:=f.env fx) S'.fr (S'.K c) hv c.ok.kind (beq_iff_eq.mp hx) rfl rfl hd ?_)
 have hh:=h pos s ⟨m,news,S'⟩
 rw[he] at hh ⊢
 refine vL (by show(false || (backTo pos (starEach es (f.env fx))).any (·.1))=false;rw[hp];rfl) (bQ (b6 hh (fun vs s₁ q=>?_) fun _ _ x=>x))
 obtain⟨bs,ρ₁,H₁,rs,S₁,h₁⟩:=q
 exact h₁ _ rs s₁ S₁
theorem I7{x:Str}{np pos:Pos}{T:String}{Q:AV→b0→AH→Prop}(c:Cx w f fx n) (hv:G4 w.params x=some (.type T)) (hx:(f.scope.names.lookup x == some .globalImplicit)=true) (hd:(x == ("__debug__":Str))=false)
  (h:M6 w f fx X T [] ρ H Q):Ev w f fx X (.Call (.Name x np) [] [] pos) ρ H Q:=by
 intro s S
 refine B8 ?_
 obtain⟨m,news,S'⟩:=S
 refine a6 (G9 (env:=f.env fx) S'.fr (S'.K c) hv c.ok.kind (beq_iff_eq.mp hx) rfl rfl hd ?_)
 exact vL rfl (nC (h _ .nil s ⟨m,news,S'⟩))
theorem n4(b:List UInt8):b.toArray.size=b.length:=List.size_toArray
theorem nJ{b:List UInt8}{Q:AV→b0→AH→Prop}(hz:b.length≤1000000) (h:Q (.int b.length) ρ H):E4 w f fx X "len" [.bytes b] ρ H Q:=by
 refine y8 ?_
 rintro _ s S
 exact a6 (len_bytes (by rw[n4];exact Ey hz) ⟨_,ρ,H,by rw[n4];exact .int _ _,S.toks _,h⟩)
theorem Q9{a:Addr}{b:List UInt8}{Q:AV→b0→AH→Prop}(hi:In1 a (.ba b) H) (hz:b.length≤1000000) (h:Q (.int b.length) ρ H):E4 w f fx X "len" [.ref a] ρ H Q:=by
 refine y8 ?_
 rintro s ⟨m,news,S⟩
 refine f9 (S.items _ hi.mem) fun o ho ro=>?_
 obtain rfl:=RepO.inv ro
 refine a6 (Il (S.nw.get ho) (by rw[n4];exact Ey hz) fun t k=>⟨_,ρ,H,by rw[n4];exact .int _ _,⟨m,news,S.toks _⟩,h⟩)
theorem eX{b:List UInt8}{Q:AV→b0→AH→Prop}(h:Q (.bytes b) ρ H):M6 w f fx X "bytes" [.bytes b] ρ H Q:=by
 refine y8 ?_
 rintro _ s S
 exact a6 (aZ ⟨_,ρ,H,.bytes _ _,S,h⟩)
theorem i0{a:Addr}{b:List UInt8}{Q:AV→b0→AH→Prop}(hi:In1 a (.ba b) H) (hz:b.length≤1000000) (h:Q (.bytes b) ρ H):M6 w f fx X "bytes" [.ref a] ρ H Q:=by
 refine y8 ?_
 rintro s ⟨m,news,S⟩
 refine f9 (S.items _ hi.mem) fun o ho ro=>?_
 obtain rfl:=RepO.inv ro
 exact a6 (gQ (S.nw.get ho) (by rw[n4,sizeLine_eq];exact Gk hz) fun t k=>⟨_,ρ,H,.bytes _ _,⟨m,news,S.toks _⟩,h⟩)
end
theorem U4:PlainAttrs "bytearray":=
 ⟨⟨"bytearray.__getattribute__",by rw[typeLookup_type,builtinLookup_eq_fast];kernel_rfl,by decide +kernel⟩,by rw[typeLookup_type,builtinLookup_eq_fast];kernel_rfl⟩
theorem nK:typeOf (.builtin "bytearray.extend")=pure (.type "method_descriptor"):=by kernel_rfl
theorem qT:typeOf (.builtin "bytearray.clear")=pure (.type "method_descriptor"):=by kernel_rfl
section
variable{w:World}{f:FI}{fx:Fx}{X:AV→b0→AH→Prop}{ρ:b0}{H:AH}{n:Nat}{s:Shared}{m:GM fx}{news:List (Addr×Obj)}
theorem Sat'.grown{o:Obj}{ao:AO}{s':Shared}(S:Sat' f fx ρ H s m news) (h1:s'.heap.get? s.heap.objs.size=some o) (hk:∀b ob,s.heap.get? b=some ob→s'.heap.get? b=some ob) (hr:RepO ao o) (hg:s'.gens=s.gens) (ho:s'.os=s.os) :
  Sat' f fx ρ ((s.heap.objs.size,ao)::H) s' m ((s.heap.objs.size,o)::news):=by
 have fr:=S.fresh
 refine bP (S.fr.ns) fun oL es ep hL r=>?_
 have none₀:m.h₀.get? s.heap.objs.size=none:=by
  cases q:m.h₀.get? s.heap.objs.size with
  | none=>rfl
  | some x=>exact absurd (Heap.lt_size (S.fr.keep _ _ q)) (Nat.lt_irrefl _)
 refine⟨⟨⟨oL,es,ep,hk _ _ hL,r⟩,fun b x e=>hk b x (S.fr.keep b x e),S.fr.above⟩,fun p hp=>?_,S.rho,fun p hp=>?_,List.nodup_cons.mpr ⟨fun q=>?_,S.keys⟩,List.nodup_cons.mpr ⟨fun q=>?_,S.nodup⟩,hg.trans S.gens,ho.trans S.os⟩
 ·rcases List.mem_cons.mp hp with rfl |hp
  ·exact⟨h1,Nat.ne_of_gt (Heap.lt_size hL),none₀⟩
  ·have P:=S.nw p hp
   exact⟨hk _ _ P.1,P.2⟩
 ·rcases List.mem_cons.mp hp with rfl |hp
  ·exact⟨o,.head _,hr⟩
  ·refine f9 (S.items p hp) fun x h1 h2=>?_
   exact⟨x,.tail _ h1,h2⟩
 ·refine f9 (List.mem_map.mp q) fun p hp e=>?_
  refine f9 (S.items p hp) fun x h1 _=>?_
  exact absurd (fr _ h1) (by rw[show p.1=s.heap.objs.size from e];exact Nat.lt_irrefl _)
 ·refine f9 (List.mem_map.mp q) fun p hp e=>?_
  exact absurd (fr p hp) (by rw[show p.1=s.heap.objs.size from e];exact Nat.lt_irrefl _)
theorem B0{Q:AV→b0→AH→Prop}(c:Cx w f fx n) (h:∀a,Q (.ref a) ρ ((a,.ba [])::H)):M6 w f fx X "bytearray" [] ρ H Q:=by
 rintro _ ⟨⟩ s ⟨m,news,S⟩
 exact FA c.guards fun h' h1 h2=>⟨_,ρ,_,.ref _,⟨m,_,S.grown (s':= { s with heap:=h' }) h1 h2 (.ba []) rfl rfl⟩,h s.heap.objs.size⟩
inductive SD (a:Addr) (Q:AV→b0→AH→Prop) (vs:List AV) (ρ:b0) (H:AH):Prop
 | mk (x y:List UInt8) (H₂:AH) (e:vs=[.bytes y]) (i:In1 a (.ba x) H) (p:Put1 a (.ba (x++y)) H H₂) (hl:x.length+y.length≤1000000) (q:Q .none ρ H₂)
theorem j7{a:Addr}{b d:List UInt8}{e:Expr}{H':AH}{Q:AV→b0→AH→Prop}(c:Cx w f fx n)
  (h:Ea w f fx X [e] ρ H (SD a Q)) (hi:In1 a (.ba b) H)
  (he:autoParam (starEach [e] (f.env fx)=(false,eval e (f.env fx))::starEach [] (f.env fx)) kR):I6 w f fx X (.ref a) "extend" [e] ρ H Q:=by
 refine I5 ?_
 rintro pos pl s ⟨m,news,S⟩
 refine f9 (S.items _ hi.mem) fun o ho ro=>?_
 obtain rfl:=RepO.inv ro
 refine a6 (getMethod_builtin (h9 (S.nw.get ho)) U4 O2 nK (fun a' e=>by cases e;exact⟨_,S.nw.get ho,rfl⟩) ?_)
 have hh:=h pos s ⟨m,news,S⟩
 dsimp only
 rw[he] at hh ⊢
 refine eN (by rfl) (bQ (b6 hh (fun vs s₁ q=>?_) fun _ _ x=>x))
 obtain⟨bs,ρ₁,H₁,rs,⟨m₁,news₁,S₁⟩,x,y,H₂,rfl,hx,hput,hz,hQ⟩:=q
 refine f9 (S₁.items _ hx.mem) fun o₁ ho₁ ro₁=>?_
 obtain rfl:=RepO.inv ro₁
 cases rs with
 | cons r1 r2=>
  cases r2
  obtain⟨_,rfl⟩:=Rep.inv r1
  refine Ar c.guards (S₁.nw.get ho₁) (by rw[n4,n4,sizeLine_eq];exact Jl hz) fun h' h1 h2=>⟨.none,ρ₁,H₂,.none,?_,hQ⟩
  exact S₁.moved (s':= { s₁ with heap:=h' }) ho₁ hput (by have:=RepO.ba (x++y);simpa using this) (by simpa using h1) (fun b ob hb e=>(h2.2 b hb).trans e) rfl rfl
theorem Dg{a:Addr}{b:List UInt8}{H':AH}{Q:AV→b0→AH→Prop}(c:Cx w f fx n) (hi:In1 a (.ba b) H) (hput:Put1 a (.ba []) H H') (h:Q .none ρ H'):I6 w f fx X (.ref a) "clear" [] ρ H Q:=by
 refine I5 ?_
 rintro pos pl s ⟨m,news,S⟩
 refine f9 (S.items _ hi.mem) fun o ho ro=>?_
 obtain rfl:=RepO.inv ro
 refine a6 (getMethod_builtin (h9 (S.nw.get ho)) U4 U2 qT (fun a' e=>by cases e;exact⟨_,S.nw.get ho,rfl⟩) ?_)
 refine eN (by rfl) (nC ?_)
 exact CX c.guards (S.nw.get ho) fun h' h1 h2=>⟨.none,ρ,H',.none,S.moved (s':= { s with heap:=h' }) ho hput (.ba []) h1 (fun b ob hb e=>(h2.2 b hb).trans e) rfl rfl,h⟩
end
section
variable{w:World}{f:FI}{fx:Fx}{X:AV→b0→AH→Prop}{ρ:b0}{H:AH}{n:Nat}{s:Shared}{m:GM fx}{news:List (Addr×Obj)}
theorem Sat'.marks{s':Shared}(S:Sat' f fx ρ H s m news) (c:Cx w f fx n) (x:Heap.SlotsOnly (fx.stk.filterMap (·.frame)) s.heap s'.heap) (hg:s'.gens=s.gens) (ho:s'.os=s.os):∃m',Sat' f fx ρ H s' m' news:=by
 have up:∀b o,m.h₀.get? b=some o→∃sl,s'.heap.get? b=some { o with slots:=sl }:=fun b o e=>x.2.2 b o (S.fr.keep b o e)
 have R:=bV up
 refine Y0 (S.fr.ns) fun oL es ep hLs hLd hLk hLf=>?_
 refine oE (x.2.2 _ _ hLs) fun slL hL'=>?_
 have hfr:∀b∈fx.stk.filterMap (·.frame),fx.base.get? b=none∧(b=fx.L∨∃o,m.h₀.get? b=some o):=fun b hb=>by
  have lo:b∈fx.outer.filterMap (·.frame)→fx.base.get? b=none∧(b=fx.L∨∃o,m.h₀.get? b=some o):=fun q=>by
   refine RL (m.gd.frames.mem q) fun h1 o h2 _=>?_
   exact⟨h1,.inr ⟨o,h2⟩⟩
  rcases c.stk with e | ⟨e,e2⟩
  ·rw[e] at hb;exact lo hb
  ·rw[e,List.filterMap_cons] at hb
   rcases List.mem_cons.mp hb with q |q
   ·have q:b=fx.L:=q.trans e2
    refine⟨?_,.inl q⟩
    rw[q]
    cases hq:fx.base.get? fx.L with
    | none=>rfl
    | some o=>exact absurd (Nat.lt_of_lt_of_le (Heap.lt_size (m.gd.stays _ o hq)) S.fr.above) (Nat.lt_irrefl _)
   ·exact lo q
 have gd:N7 fx (relabel m.h₀ s'.heap):=by
  refine⟨fun b e=>(R b).1 (m.gd.dom b e),fun b o e=>?_,fun b o e=>?_,?_⟩
  ·refine oE (m.gd.up b o e) fun sl q=>?_
   refine oE (up _ _ q) fun sl' q'=>?_
   exact⟨sl',((R b).2 _ q).trans q'⟩
  ·have q:=m.gd.stays b o e
   rw[(R b).2 _ q,x.2.1 b fun hb=>by rw[(hfr b hb).1] at e;cases e]
   exact S.fr.keep _ _ q
  ·refine m.gd.frames.of_keeps fun b o e _=>?_
   refine oE (up _ _ e) fun sl' q'=>?_
   exact⟨_,((R b).2 _ e).trans q',rfl⟩
 refine⟨⟨relabel m.h₀ s'.heap,gd,m.m⟩,⟨⟨_,es,ep,hL',hLd,hLk,hLf⟩,fun b o e=>?_,?_⟩,fun p hp=>⟨?_,(S.nw p hp).2.1,(R _).1 (S.nw p hp).2.2⟩,S.rho,S.items,S.keys,S.nodup,hg.trans S.gens,ho.trans S.os⟩
 ·cases q:m.h₀.get? b with
  | none=>rw[(R b).1 q] at e;cases e
  | some o'=>rw[(R b).2 _ q] at e;exact e
 ·have:(relabel m.h₀ s'.heap).objs.size=m.h₀.objs.size:=by unfold relabel;simp
  refine(?_:(relabel m.h₀ s'.heap).objs.size≤fx.L)
  rw[this]
  exact S.fr.above
 ·rw[x.2.1 p.1 fun hb=>?_]
  ·exact(S.nw p hp).1
  ·rcases (hfr _ hb).2 with q | ⟨o,q⟩
   ·exact(S.nw p hp).2.1 q
   ·rw[(S.nw p hp).2.2] at q;cases q
theorem Sat'.ffs(S:Sat' f fx ρ H s m news) (c:Cx w f fx n):s.heap.FunFrames fx.base fx.stk:=(S.ff c).1.of_keeps fun b o e _=>⟨o,of_hideAll _ e,rfl⟩
theorem Sat'.excAt{e C t:Addr}{d:Option Addr}{tb:AV}(S:Sat' f fx ρ H s m news) (h:In1 e (.exc C d t tb) H) :
  ∃o tbv v2 v3 v4 v5,(e,o)∈news∧Rep tb tbv∧o.cls=.ref C∧o.dict=d∧o.data=.fields #[.ref t,tbv,v2,v3,v4,v5]:=by
 refine f9 (S.items _ h.mem) fun o h1 h2=>?_
 cases h2 with
 | exc a b c' d'=>exact⟨o,_,_,_,_,_,h1,a,b,c',d'⟩
theorem Sat'.tbAt{T:Addr}{fl:Option Addr}(S:Sat' f fx ρ H s m news) (h:In1 T (.tb fl) H):∃o ts,(T,o)∈news∧o.data=.fields ts∧ts[3]?=some (Ib fl):=by
 refine f9 (S.items _ h.mem) fun o h1 h2=>?_
 cases h2 with
 | tb a b=>exact⟨o,_,h1,a,b⟩
theorem Sat'.freed(S:Sat' f fx ρ H s m news) {a:Addr}{o:Obj}(h:(a,o)∈news):s.heap.get? a=some o:=S.nw.get h
theorem Sat'.setAt{a:Addr}{o:Obj}{vs:Array Value}{i:Nat}{x:Value}{ao':AO}{H':AH}(S:Sat' f fx ρ H s m news) (hm:(a,o)∈news) (hd:o.data=.fields vs) (hp:Put1 a ao' H H') (hr:∀o':Obj,o'.cls=o.cls→o'.dict=o.dict→o'.data=.fields (vs.setIfInBounds i x)→RepO ao' o') :
  Sat f fx ρ H' { s with heap:=s.heap.update a (Obj.mapFields (·.setIfInBounds i x)) }:=by
 have hd':=Obj.data_mapFields hd (·.setIfInBounds i x)
 have hdi:(Obj.mapFields (·.setIfInBounds i x) o).dict=o.dict:=by
  obtain⟨c,d,dt,sl⟩:=o
  cases hd
  rfl
 refine S.moved (s':= { s with heap:=s.heap.update a (Obj.mapFields (·.setIfInBounds i x)) }) hm hp (hr _ (Obj.cls_mapFields _ _) hdi hd') (Heap.get?_update_self _ (S.freed hm) (Obj.isFreed_of_fields hd')) (fun b ob hb e=>(Heap.get?_update_other _ _ (Ne.symm hb)).trans e) rfl rfl
theorem O4{A:Around}{E:Value→Shared→Prop}{e C t T:Addr}{d:Option Addr}{fl:Option Addr}{fr:Option Addr}{H':AH}{Q:Unit→Shared→Prop}(S:Sat f fx ρ H s) (h1:In1 e (.exc C d t (.ref T)) H) (h2:In1 T (.tb fl) H) (hp:Put1 T (.tb fr) H H')
  (h:∀h',Sat f fx ρ H' { s with heap:=h' }→Q () { s with heap:=h' }):wpAny (model pw w) A (setFlight (.ref e) fr) Q E s:=by
 obtain⟨m,news,S⟩:=S
 refine g4 (S.excAt h1) fun o tbv v2 v3 v4 v5 k1 zq1 k3 k4 k5=>?_;obtain rfl:=Rep.inv zq1
 refine p8 (S.tbAt h2) fun oT ts l1 l2 l3=>?_
 unfold setFlight
 refine wpAny_bind (wpAny_field (x:=.ref T) (S.freed k1) k5 rfl ?_)
 rw[if_pos (show(Value.ref T != Value.none)=true from by simp)]
 have hsz:3<ts.size:=(Array.getElem?_eq_some_iff.mp l3).1
 refine wpAny_setField (S.freed l1) l2 hsz (h _ ?_)
 refine S.setAt l1 l2 hp fun o' _ _ hd=>.tb hd ?_
 have:(fr.elim Value.none fun f=>rawInt f)=Ib fr:=by cases fr <;> rfl
 rw[this]
 simp [hsz]
theorem nM{A:Around}{E:Value→Shared→Prop}{e C t:Addr}{d:Option Addr}{fr:Option Addr}{Q:Unit→Shared→Prop}(S:Sat f fx ρ H s) (h1:In1 e (.exc C d t .none) H) (h:Q () s):wpAny (model pw w) A (setFlight (.ref e) fr) Q E s:=by
 obtain⟨m,news,S⟩:=S
 refine g4 (S.excAt h1) fun o tbv v2 v3 v4 v5 k1 zq1 k3 k4 k5=>?_;obtain rfl:=Rep.inv zq1
 unfold setFlight
 refine wpAny_bind (wpAny_field (x:=.none) (S.freed k1) k5 rfl ?_)
 rw[if_neg (by simp)]
 exact wpAny_pure h
theorem xR{E:Value→Shared→Prop}{e C t:Addr}{d:Option Addr}{tb:AV}{head:Value}{hadNext:Bool}{H':Addr→AH}{Q:Unit→Shared→Prop}(c:Cx w f fx n) (S:Sat f fx ρ H s) (h1:In1 e (.exc C d t tb) H) (hs:fx.stk=f.env fx::fx.outer) (hf:fx.frame=fx.L)
  (hp:∀T,Put1 e (.exc C d t (.ref T)) H (H' T)) (h:∀T h',Sat f fx ρ ((T,.tb (some fx.L))::H' T) { s with heap:=h' }→Q () { s with heap:=h' }) :
  wpAny (model pw w) fx.A (do let a ← frameOf (f.env fx);let pl ← entryPlaceOf fx.frame hadNext;let b ← EntryCells.newEntry head a .none (rawInt fx.frame) .none pl;setField (.ref e) 1 b) Q E s:=by
 obtain⟨m,news,S⟩:=S
 have hff:=S.ffs c
 rw[hs] at hff
 refine wpAny_bind (wpAny_frameOf_fun (env:=f.env fx) (outer:=fx.outer) (by rw[c.frames,hs]) hff (L:=fx.frame) rfl fun h₁ hs₁=>?_)
 refine wpAny_bind (wpAny_entryPlaceOf fun pl hpl=>?_)
 refine oE (S.marks (s':= { s with heap:=h₁ }) c (by rw[hs];exact hs₁) rfl rfl) fun m₁ S₁=>?_
 unfold EntryCells.newEntry newFields
 refine wpAny_bind (wpAny_newObj_type ?_ (hpl.sizeOk5 _ _ _ _ _))
 have S₂:=S₁.push (s':= { s with heap:=h₁.push { cls:=.type "traceback",dict:=none,data:=.fields ([head,.ref fx.frame,.none,rawInt fx.frame,.none]++(if pl.isEmpty then List.replicate 6 Value.none else pl)).toArray } })
  (ao:=.tb (some fx.L)) rfl (.tb rfl (by rw[hf];first |(simp [Ib];done) |(rcases hpl with rfl | ⟨_,_,_,_,_,_,_,rfl⟩ <;> simp [Ib]))) rfl rfl rfl
 refine g4 (S₂.excAt (.there h1)) fun o tbv v2 v3 v4 v5 k1 k2 k3 k4 k5=>?_
 refine wpAny_setField (S₂.freed k1) k5 (by show 1<6;decide) (h h₁.objs.size _ ?_)
 exact S₂.setAt k1 k5 (.there (hp _)) fun o' q1 q2 q3=>.exc (.ref _) (q1.trans k3) (q2.trans k4) q3
theorem FG{E:Value→Shared→Prop}{e C t:Addr}{d:Option Addr}{H':Addr→AH}{Q:Unit→Shared→Prop}(c:Cx w f fx n) (S:Sat f fx ρ H s) (h1:In1 e (.exc C d t .none) H) (hs:fx.stk=f.env fx::fx.outer) (hf:fx.frame=fx.L)
  (hp:∀T,Put1 e (.exc C d t (.ref T)) H (H' T)) (h:∀T h',Sat f fx ρ ((T,.tb (some fx.L))::H' T) { s with heap:=h' }→Q () { s with heap:=h' }) :
  wpAny (model pw w) fx.A (noteFrame (.ref e) (f.env fx)) Q E s:=by
 obtain⟨m,news,S⟩:=S
 refine g4 (S.excAt h1) fun o tbv v2 v3 v4 v5 k1 zq1 k3 k4 k5=>?_;obtain rfl:=Rep.inv zq1
 unfold noteFrame
 simp only[show(f.env fx).frame=some fx.frame from rfl]
 refine wpAny_bind (wpAny_field (x:=.none) (S.freed k1) k5 rfl ?_)
 rw[if_neg (by simp)]
 exact xR c ⟨m,news,S⟩ h1 hs hf hp h
theorem FH{E:Value→Shared→Prop}{e C t T₀:Addr}{d:Option Addr}{H':Addr→AH}{Q:Unit→Shared→Prop}(c:Cx w f fx n) (S:Sat f fx ρ H s) (h1:In1 e (.exc C d t (.ref T₀)) H) (h2:In1 T₀ (.tb none) H) (hs:fx.stk=f.env fx::fx.outer) (hf:fx.frame=fx.L)
  (hp:∀T,Put1 e (.exc C d t (.ref T)) H (H' T)) (h:∀T h',Sat f fx ρ ((T,.tb (some fx.L))::H' T) { s with heap:=h' }→Q () { s with heap:=h' }) :
  wpAny (model pw w) fx.A (noteFrame (.ref e) (f.env fx)) Q E s:=by
 obtain⟨m,news,S⟩:=S
 refine g4 (S.excAt h1) fun o tbv v2 v3 v4 v5 k1 zq1 k3 k4 k5=>?_;obtain rfl:=Rep.inv zq1
 refine p8 (S.tbAt h2) fun oT ts l1 l2 l3=>?_
 unfold noteFrame
 simp only[show(f.env fx).frame=some fx.frame from rfl]
 refine wpAny_bind (wpAny_field (x:=.ref T₀) (S.freed k1) k5 rfl ?_)
 rw[if_pos (show(Value.ref T₀ != Value.none)=true from by simp)]
 refine wpAny_bind (wpAny_field (x:=.none) (S.freed l1) l2 l3 ?_)
 rw[if_neg (show ¬ ((Value.none == rawInt fx.frame)=true) from by simp [rawInt])]
 have hsz:3<ts.size:=(Array.getElem?_eq_some_iff.mp l3).1
 refine wpAny_bind (wpAny_setField (S.freed l1) l2 hsz ?_)
 have same:∀ {l:AH}{a:Addr}{v:AO},In1 a v l→Put1 a v l l:=fun h=>by
  induction h with
  | here=>exact .here
  | there _ ih=>exact .there ih
 have S₁:=S.setAt (x:=Value.none) (i:=3) l1 l2 (same h2) fun o' q1 q2 q3=>.tb q3 (by simp [hsz,Ib])
 exact xR c S₁ h1 hs hf hp h
theorem xS{E:Value→Shared→Prop}{A:Around}{e C t T₀:Addr}{d:Option Addr}{Q:Unit→Shared→Prop}(S:Sat f fx ρ H s) (h1:In1 e (.exc C d t (.ref T₀)) H) (h2:In1 T₀ (.tb (some fx.frame)) H) (h:Q () s) :
  wpAny (model pw w) A (noteFrame (.ref e) (f.env fx)) Q E s:=by
 obtain⟨m,news,S⟩:=S
 refine g4 (S.excAt h1) fun o tbv v2 v3 v4 v5 k1 zq1 k3 k4 k5=>?_;obtain rfl:=Rep.inv zq1
 refine p8 (S.tbAt h2) fun oT ts l1 l2 l3=>?_
 unfold noteFrame
 simp only[show(f.env fx).frame=some fx.frame from rfl]
 refine wpAny_bind (wpAny_field (x:=.ref T₀) (S.freed k1) k5 rfl ?_)
 rw[if_pos (show(Value.ref T₀ != Value.none)=true from by simp)]
 refine wpAny_bind (wpAny_field (x:=rawInt fx.frame) (S.freed l1) l2 l3 ?_)
 rw[if_pos (by simp)]
 exact wpAny_pure h
end
section
open Sem (wp)
noncomputable abbrev QC(A:Around):Around:= { A.in1 with depth:=A.depth+1 }
theorem cQ(A:Around) (C:Addr) (args:List Value):A.under (.builtin "type.__call__" ⟨.ref C::args,[]⟩)=QC A:=by
 show({ A with depth:=A.depth+_,frames:=pushEnvs _ A.frames,guards:=pushGuards _ A.guards,units:=A.units+_ }:Around)= _
 have h1:(Code.builtin "type.__call__" ⟨.ref C::args,[]⟩).weight=1:=by kernel_rfl
 have h2:(Code.builtin "type.__call__" ⟨.ref C::args,[]⟩).envs=[]:=by kernel_rfl
 have h3:(Code.builtin "type.__call__" ⟨.ref C::args,[]⟩).guards=[]:=by kernel_rfl
 have h4:(Code.builtin "type.__call__" ⟨.ref C::args,[]⟩).cUnits=1:=by kernel_rfl
 rw[h1,h2,h3,h4]
 rfl
section
variable{α:Type}{M:Model}{A:Around}{E:Value→Shared→Prop}{s:Shared}
theorem QD{a:Addr}{p:Option Value}{k:Obj→Sem α}{o:Obj}{Q:α→Shared→Prop}(ho:s.heap.get? a=some o) (h:c8 M A (k o) Q E s):c8 M A (.load a p k) Q E s:=fun Γ q hΓ hd hc=>⟨o,ho,h Γ q hΓ hd hc⟩
theorem O5{t:Sem α}{r:α}{Q:α→Shared→Prop}(x:Looks M s.heap t r) (q:Q r s):c8 M A t Q E s:=a6 (x.here q)
end
structure ClsAt (M:Model) (h:Heap) (C:Addr) (newId:String):Prop where
 obj:∃oc od cd sl,h.get? C=some ⟨oc,od,.cls cd,sl⟩∧cd.mro.isEmpty=false
 made:Looks M h (Bind.madeBy (.ref C)) (some newId)
 self:Looks M h (isSubtype (.ref C) (.ref C)) true
 call:Looks M h (specialOf (.ref C) "__call__") (some (.builtin "type.__call__"))
 typ:Looks M h (isInstance (.ref C) (.type "type")) true
theorem ClsAt.of_makes{M:Model}{h:Heap}{C:Addr}(Y:Makes M h C):ClsAt M h C "object.__new__":=
 ⟨let⟨oc,od,cd,sl,h1,_,_,h2⟩:=Y.obj; ⟨oc,od,cd,sl,h1,h2⟩,Y.made,Y.self,Y.call,Y.typ⟩
section
variable{prog:Program}{w:World}{A:Around}{R:Result→Shared→Prop}{s:Shared}
noncomputable def SE(M:Model) (A:Around) (C:Addr) (rest:List Value) (init:Value) (R:Result→Shared→Prop) (r:Result) (s':Shared):Prop:=match r with
 | .ok (.ret v)=>∃x,v=.ref x∧Looks M s'.heap (typeOf (.ref x)) (.ref C)∧Looks M s'.heap (isSubtype (.ref C) (.ref C)) true∧Looks M s'.heap (typeLookup (.ref C) "__init__") (some init)∧
   Looks M s'.heap (bindSpecial init (.ref x)) (init,[.ref x])∧j4 M A (.call init ⟨.ref x::rest,[]⟩) (InitBack x R) s'
 | .ok _=>False
 | .error e=>R (.error e) s'
theorem Dh{C:Addr}{rest:List Value}{init:Value}{newId:String}(Y:ClsAt (model prog w) s.heap C newId)
  (hnew:j4 (model prog w) (QC A) (.call (.builtin newId) ⟨.ref C::rest,[]⟩) (SE (model prog w) (QC A) C rest init R) s) :
  j4 (model prog w) A (.call (.ref C) ⟨rest,[]⟩) R s:=by
 obtain⟨⟨oc,od,cd,sl,hC,e4⟩,made,self,call,typ⟩:=Y
 refine d7 ?_
 refine(?_:c8 _ _ (callAny (.ref C) _) _ _ _)
 refine QD hC ?_
 refine(?_:c8 _ _ (callAny.viaDunder (.ref C) _) _ _ _)
 unfold callAny.viaDunder
 refine a7 (O5 call ?_)
 dsimp only
 rw[tc_bind]
 refine a7 (b7 (a7 (b7 ?_)))
 refine b7 (a:=Fin.again (.call (.builtin "type.__call__") ⟨.ref C::rest,[]⟩)) ⟨rfl,rfl,d7 ?_⟩
 show c8 _ _ (do checkBuiltinCall "type.__call__" ⟨.ref C::rest,[]⟩;again (.builtin "type.__call__" ⟨.ref C::rest,[]⟩)) _ _ s
 refine a7 (a6 (check_slot tc_kind tc_split typ (tc_args _ _ _) ?_))
 refine b7 ⟨Code.quiet_builtin _ (by decide +kernel),rfl,d7 ?_⟩
 rw[bX entry_typeCall,cQ]
 unfold Builtin.«type.__call__»
 dsimp only
 refine B6 rfl ?_
 have hm:Looks (model prog w) s.heap (mroOf (.ref C)) cd.mro:=((Looks.ld (part:=none) hC).andThen .now).andThen .now
 refine a7 (O5 hm ?_)
 refine B6 e4 ?_
 refine a7 (O5 made ?_)
 dsimp only
 refine a7 (b7 ?_)
 refine a7 (c0 (z6 ?_))
 refine w0 hnew fun r s' z=>?_
 rcases r with e |(v |_ |_ |_) <;> first |exact z |exact z.elim |skip
 obtain⟨x,rfl,z1,z2,z3,z4,z5⟩:=z
 dsimp only
 refine a7 (O5 (z1.andThen z2) ?_)
 refine B6 rfl ?_
 refine a7 (c0 ?_)
 unfold callSpecial?
 refine a7 (O5 (z1.andThen z3) ?_)
 dsimp only
 refine c0 ?_
 refine a7 (O5 z4 ?_)
 refine a7 (z6 (w0 z5 fun r s'' y=>?_))
 rcases r with e |(v |_ |_ |_) <;> first |exact y |exact y.elim |skip
 obtain⟨rfl,y⟩:=y
 exact b7 (by dsimp only;exact B6 (by decide +kernel) (b7 y))
end
end
section
open Sem (wp)
section
variable{w:World}{f:FI}{fx:Fx}{X:AV→b0→AH→Prop}{ρ:b0}{H:AH}{n:Nat}
noncomputable def xT(P:Params) (C gI:Addr):Bool:=makesIn (KG P) C && (findIn (KG P) (.ref C) "__init__" == some (some (.ref gI))) && isFn (KG P) (.ref gI)
theorem Di{C gI:Addr}{vs:List AV}{k:Nat}{H₂:AH}{XS:AV→AH→Prop}{QS:Addr→Addr→AV→AH→Prop}{Q:AV→b0→AH→Prop}(c:Cx w f fx n) (hh:fx.A.handled=none) (ho:xT w.params C gI=true)
  (hs:∀x d,c6 w k gI (.ref x::vs) ((x,.inst C d)::(d,.dict [])::H₂) XS (QS x d)) (hk:k+1≤n) (hp:H.Perm H₂) (hX:∀b H',XS b H'→X b ρ H') (h:∀x d b H',QS x d b H'→b=.none∧Q (.ref x) ρ H'):w3 w f fx X C vs ρ H Q:=by
 rintro cvs hv s ⟨m,news,S⟩
 unfold xT at ho
 rw[Bool.and_eq_true,Bool.and_eq_true,beq_iff_eq] at ho
 refine oA (ho) fun zq1 o3=>?_;refine oA (zq1) fun o1 o2=>?_
 have KH:=S.KH c
 have room:=c.room
 have Y:=makes_of (M:=model pw w) KH o1
 refine z6 (Dh (newId:= "object.__new__") (init:=.ref gI) (ClsAt.of_makes Y) (Y1 ?_))
 obtain⟨hp',g,dr,tk,os⟩:=s
 refine new_K Y (looks_findIn KH o2) (.inl rfl) ?_
 have S₁:=S.push (o:=emptyDict) (ao:=.dict []) (s':=⟨hp'.push emptyDict,g,dr,tk,os⟩) rfl (.dict 0 .nil .nil) rfl rfl rfl
 have S₂:=S₁.push (o:=instObj C hp'.objs.size) (ao:=.inst C hp'.objs.size) (s':=⟨(hp'.push emptyDict).push (instObj C hp'.objs.size),g,dr,tk,os⟩) rfl (.inst _ _) rfl rfl rfl
 have hx:=S₂.freed (.head _)
 have KH₂:=S₂.KH c
 rw[show(hp'.push emptyDict).objs.size=hp'.objs.size+1 from Heap.size_push ..] at S₂ hx
 refine⟨hp'.objs.size+1,rfl,(Looks.ld hx).andThen .now,(makes_of (M:=model pw w) KH₂ o1).self,looks_findIn KH₂ o2,bind_fn KH₂ _ (beq_iff_eq.mp o3),?_⟩
 have S₃:Sat f fx ρ ((hp'.objs.size+1,.inst C hp'.objs.size)::(hp'.objs.size,.dict [])::H₂) ⟨(hp'.push emptyDict).push (instObj C hp'.objs.size),g,dr,tk,os⟩:=
  Sat.sub ⟨m,_,S₂⟩ (fun p hp'=>(((hp.cons _).cons _).mem_iff).mpr hp') ((((hp.cons _).cons _).map (·.1)).nodup_iff.mp S₂.keys)
 refine w0 (hs _ _ f fx ρ (QC fx.A) n c c.frames (by show fx.A.depth+1+k≤990;exact Jc hk room) c.guards hh _ S₃ _ (.cons (.ref _) hv)) fun r s' q=>?_
 rcases r with e |(v |_ |_ |_) <;> first |exact q.elim |skip
 ·refine p8 (q) fun b H' r S' q=>?_
  exact⟨b,ρ,H',r,S',hX b H' q⟩
 ·refine p8 (q) fun b H' r S' q=>?_
  refine oA (h _ _ b H' q) fun zq1 hQ=>?_;subst zq1
  obtain rfl:=Rep.inv r
  exact⟨rfl,_,ρ,H',.ref _,S',hQ⟩
noncomputable def excT:List Addr:=[39,64,100,136,179,198,217,255]
inductive It (l:Option Obj) (C:Addr) (bm:List Value):Prop
 | mk {nm q N bs hdct sn sub ab col dd k0 k1 k2 k3 k5}(e:l=some (excClassObj nm q C N bs bm hdct sn sub ab col dd k0 k1 k2 k3 k5 "ValueError.__new__"))
noncomputable def Dj(bm:List Value):Prop:=bm.contains (.type "ValueError")=true∧bm.contains (.type "BaseException")=true∧bm.contains (.type "AttributeError")=false∧bm.contains (.type "NameError")=false∧bm.contains (.type "type")=false∧bm.contains (.type "tuple")=false
theorem bmA:Dj [.type "ValueError",.type "Exception",.type "BaseException",.type "object"]:=⟨by decide +kernel,by decide +kernel,by decide +kernel,by decide +kernel,by decide +kernel,by decide +kernel⟩
theorem Iu:Dj [.ref 39,.type "ValueError",.type "Exception",.type "BaseException",.type "object"]:=⟨by decide +kernel,by decide +kernel,by decide +kernel,by decide +kernel,by decide +kernel,by decide +kernel⟩
theorem FJ(P:Params):∀C∈excT,∃bm,It ((KG P).lookup C) C bm∧Dj bm:=
 have c:=fun{a:Addr}{l:List Addr} h q=>(List.forall_mem_cons (p:=fun C=>∃bm,It ((KG P).lookup C) C bm∧Dj bm) (a:=a) (l:=l)).mpr ⟨h,q⟩
 c ⟨_,⟨by with_unfolding_all rfl⟩,bmA⟩ (c ⟨_,⟨by with_unfolding_all rfl⟩,Iu⟩ (c ⟨_,⟨by with_unfolding_all rfl⟩,Iu⟩ (c ⟨_,⟨by with_unfolding_all rfl⟩,Iu⟩ (c ⟨_,⟨by with_unfolding_all rfl⟩,Iu⟩ (c ⟨_,⟨by with_unfolding_all rfl⟩,Iu⟩ (c ⟨_,⟨by with_unfolding_all rfl⟩,Iu⟩ (c ⟨_,⟨by with_unfolding_all rfl⟩,Iu⟩ (List.forall_mem_nil _))))))))
noncomputable def I8(P:Params) (C gI:Addr):Bool:=excT.contains C && (findIn (KG P) (.ref C) "__init__" == some (some (.ref gI))) && isFn (KG P) (.ref gI) && (specialIn (KG P) (.ref C) "__call__" == some (some (.builtin "type.__call__"))) && (instIn (KG P) (.ref C) (.type "type") == some true)
structure ExcC (M:Model) (h:Heap) (C:Addr) (bm:List Value):Prop where
 obj:It (h.get? C) C bm
 bm:Dj bm
theorem nN{P:Params}{M:Model}{h:Heap}{C gI:Addr}(X:Frag.In (KG P) h) (e:I8 P C gI=true):(∃bm,ExcC M h C bm)∧findIn (KG P) (.ref C) "__init__" = some (some (.ref gI))∧isFn (KG P) (.ref gI)=true∧
  specialIn (KG P) (.ref C) "__call__" = some (some (.builtin "type.__call__"))∧instIn (KG P) (.ref C) (.type "type")=some true:=by
 unfold I8 at e
 rw[Bool.and_eq_true,Bool.and_eq_true,Bool.and_eq_true,Bool.and_eq_true,beq_iff_eq,beq_iff_eq,beq_iff_eq] at e
 refine oA (e) fun zq1 o5=>?_;refine oA (zq1) fun zq2 o4=>?_;refine oA (zq2) fun zq3 o3=>?_;refine oA (zq3) fun e o2=>?_
 refine f9 (FJ P C (List.contains_iff_mem.mp e)) fun bm ⟨ho⟩ hb=>?_
 exact⟨⟨bm,⟨X _ _ ho⟩,hb⟩,o2,o3,o4,o5⟩
theorem Z2{C:Addr}{bm:List Value}{T:String}{b:Bool}(h:bm.contains (.type T)=b):(Value.ref C::bm).contains (.type T)=b:=by rw[List.contains_cons,h];exact Bool.false_or b
theorem ExcC.sub{M:Model}{h:Heap}{C:Addr}{bm:List Value}(Y:ExcC M h C bm) (base:Value):Looks M h (isSubtype (.ref C) base) ((Value.ref C::bm).contains base):=by
 obtain⟨⟨hC⟩,b1,b2,b3,b4, -⟩:=Y
 intro A Q E s k hq
 obtain⟨hp,g,d,t,os⟩:=s
 exact wpAny_isSubtype_exc (k _ _ hC) hq
theorem ExcC.made{M:Model}{h:Heap}{C:Addr}{bm:List Value}(Y:ExcC M h C bm):Looks M h (Bind.madeBy (.ref C)) (some "ValueError.__new__"):=by
 obtain⟨⟨hC⟩, -⟩:=Y
 intro A Q E s k hq
 obtain⟨hp,g,d,t,os⟩:=s
 exact wpAny_madeBy_exc (k _ _ hC) hq
noncomputable abbrev nO(C t:Addr):Obj:= { cls:=.ref C,data:=.fields #[.ref t,.none,.none,.none,.bool false,.none] }
noncomputable abbrev K6(vs:List Value):Obj:= { cls:=.type "tuple",data:=.seq vs.toArray }
theorem FK{prog:Program}{A:Around}{R:Result→Shared→Prop}{h:Heap}{g:Array GenState}{d:Drawn}{t:Nat}{os:OsState}{C:Addr}{bm rest:List Value}(Y:ExcC (model prog w) h C bm)
  (hq:R (.ok (.ret (.ref (h.objs.size+1)))) ⟨(h.push (K6 rest)).push (nO C h.objs.size),g,d,t,os⟩) (hrest:rest.length≤sizeLine) :
  codeAny (model prog w) A (.call (.builtin "ValueError.__new__") ⟨.ref C::rest,[]⟩) R ⟨h,g,d,t,os⟩:=by
 have F:=PySem.F.excBase_ValueError
 obtain⟨⟨hC⟩,b1,b2,b3,b4, -⟩:=Y
 have hcB:=Z2 (C:=C) b1
 have hcA:=Z2 (C:=C) b3
 have hcN:=Z2 (C:=C) b4
 have hstar:=F.noStar
 have hends:=F.ends
 have chk:∀ {A:Around}{E:Value→Shared→Prop}{Q:Unit→Shared→Prop},Q () ⟨h,g,d,t,os⟩→wpAny (model prog w) A (checkBuiltinCall "ValueError.__new__" ⟨.ref C::rest,[]⟩) Q E ⟨h,g,d,t,os⟩:=fun hq=>by
  simp only[checkBuiltinCall,F.newKind,F.newSplit,F.newRow]
  repeat (first |refine wpAny_loadPart_at hC ?_ |(refine wpAny_isSubtype_exc hC ?_;rw[hcB]) |refine wpAny_staticBase_exc hC ?_ |refine wpAny_madeBy_exc hC ?_ |simp only[bne_self_eq_false,Bool.false_eq_true,if_false] |wp_step)
  exact hq
 refine codeAny_call_builtin_code (Code.quiet_builtin _ F.quiet) (chk ?_)
 refine codeAny_builtinAt F.entry ?_
 unfold Builtin.«BaseException.__new__»
 refine PySem.wpAt_bind ?_
 refine(?_:PySem.wpAt _ _ _ (stack >>= _) _ _ _)
 refine PySem.wpAt_bind (PySem.wpAt_stack fun p below=>PySem.wpAt_of_wpAny ?_)
 wp_walk
 refine PySem.wpAt_of_wpAny ?_
 rw[F.owner]
 repeat (first |with_reducible refine wpAny_madeHere_exc F.canon hC ?_ |with_reducible refine wpAny_loadPart_at hC ?_ |(with_reducible refine wpAny_isSubtype_exc hC ?_;first |rw[hcB] |rw[hcA] |rw[hcN]) |wp_step)
 refine(?_:R _ _)
 rw[Heap.size_push]
 exact hq
theorem Iv{C gI:Addr}{vs:List AV}{k:Nat}{H₂:AH}{XS:AV→AH→Prop}{QS:Addr→Addr→AV→AH→Prop}{Q:AV→b0→AH→Prop}(c:Cx w f fx n) (hh:fx.A.handled=none) (ho:I8 w.params C gI=true) (hl:vs.length≤1000)
  (hs:∀e t,c6 w k gI (.ref e::vs) ((e,.exc C none t .none)::(t,.tup vs)::H₂) XS (QS e t)) (hk:k+1≤n) (hp:H.Perm H₂) (hX:∀b H',XS b H'→X b ρ H') (h:∀x d b H',QS x d b H'→b=.none∧Q (.ref x) ρ H'):w3 w f fx X C vs ρ H Q:=by
 rintro cvs hv s ⟨m,news,S⟩
 have KH:=S.KH c
 have room:=c.room
 refine bO (nN (M:=model pw w) KH ho) fun zq1 o2 o3 o4 o5=>?_;refine oE (zq1) fun bm Y=>?_
 have hself:(Value.ref C::bm).contains (.ref C)=true:=by simp
 refine z6 (Dh (newId:= "ValueError.__new__") (init:=.ref gI) ⟨?_,Y.made,by have:=Y.sub (.ref C);rwa [hself] at this,looks_specialIn KH o4,looks_instIn KH o5⟩ (Y1 ?_))
 ·obtain⟨⟨hC⟩, -⟩:=Y
  exact⟨_,_,_,_,hC,rfl⟩
 obtain⟨hp',g,dr,tk,os⟩:=s
 refine FK Y ?_ (by rw[hv.len,sizeLine_eq] <;> exact JL hl)
 have S₁:=S.push (o:=K6 cvs) (ao:=.tup vs) (s':=⟨hp'.push (K6 cvs),g,dr,tk,os⟩) rfl (.tup 0 hv rfl rfl) rfl rfl rfl
 have S₂:=S₁.push (o:=nO C hp'.objs.size) (ao:=.exc C none hp'.objs.size .none) (s':=⟨(hp'.push (K6 cvs)).push (nO C hp'.objs.size),g,dr,tk,os⟩) rfl (.exc .none rfl rfl rfl) rfl rfl rfl
 have hx:=S₂.freed (.head _)
 have KH₂:=S₂.KH c
 rw[show(hp'.push (K6 cvs)).objs.size=hp'.objs.size+1 from Heap.size_push ..] at S₂ hx
 refine oA (nN (M:=model pw w) KH₂ ho) fun zq1 _=>?_;refine oE (zq1) fun bm₂ Y₂=>?_
 have hself₂:(Value.ref C::bm₂).contains (.ref C)=true:=by simp
 refine⟨hp'.objs.size+1,rfl,(Looks.ld hx).andThen .now,by have:=Y₂.sub (.ref C);rwa [hself₂] at this,looks_findIn KH₂ o2,bind_fn KH₂ _ (beq_iff_eq.mp o3),?_⟩
 have S₃:Sat f fx ρ ((hp'.objs.size+1,.exc C none hp'.objs.size .none)::(hp'.objs.size,.tup vs)::H₂) ⟨(hp'.push (K6 cvs)).push (nO C hp'.objs.size),g,dr,tk,os⟩:=
  Sat.sub ⟨m,_,S₂⟩ (fun p hp'=>(((hp.cons _).cons _).mem_iff).mpr hp') ((((hp.cons _).cons _).map (·.1)).nodup_iff.mp S₂.keys)
 refine w0 (hs _ _ f fx ρ (QC fx.A) n c c.frames (by show fx.A.depth+1+k≤990;exact Jc hk room) c.guards hh _ S₃ _ (.cons (.ref _) hv)) fun r s' q=>?_
 rcases r with e |(v |_ |_ |_) <;> first |exact q.elim |skip
 ·refine p8 (q) fun b H' r S' q=>?_
  exact⟨b,ρ,H',r,S',hX b H' q⟩
 ·refine p8 (q) fun b H' r S' q=>?_
  refine oA (h _ _ b H' q) fun zq1 hQ=>?_;subst zq1
  obtain rfl:=Rep.inv r
  exact⟨rfl,_,ρ,H',.ref _,S',hQ⟩
end
end
section
open Sem (wp)
section
variable{w:World}{f:FI}{fx:Fx}{X:AV→b0→AH→Prop}{ρ:b0}{H:AH}{n:Nat}
noncomputable def dF(P:Params) (C:Addr) (name:Str) (g:Addr):Bool:=dY P C name (.ref g) && (specialIn (KG P) (.ref C) "__getattribute__" == some (some (.builtin "type.__getattribute__"))) && keepIn (KG P) (.ref g)
theorem nP{C g:Addr}{name:Str}{e:Expr}{es:List Expr}{Q:AV→b0→AH→Prop}(c:Cx w f fx n) (ho:dF w.params C name g=true)
  (h:Ea w f fx X (e::es) ρ H (uP w f fx X g Q))
  (he:autoParam (starEach (e::es) (f.env fx)=(false,eval e (f.env fx))::starEach es (f.env fx)) kR) (hp:autoParam (∀pos,(backTo pos (starEach es (f.env fx))).any (·.1)=false) kI):I6 w f fx X (.ref C) name (e::es) ρ H Q:=by
 refine I5 ?_
 rintro pos pl s ⟨m,news,S⟩
 unfold dF at ho
 rw[Bool.and_eq_true,Bool.and_eq_true,beq_iff_eq] at ho
 refine oA (ho) fun zq1 o3=>?_;refine oA (zq1) fun o1 o2=>?_
 unfold dY at o1
 rw[Bool.and_eq_true,Bool.and_eq_true,Bool.and_eq_true] at o1
 refine oA (o1) fun zq1 a4=>?_;refine oA (zq1) fun zq2 a3=>?_;refine oA (zq2) fun a1 a2=>?_
 split at a3
 ·rename_i b q
  rw[beq_iff_eq.mp a3] at q
  refine a6 (method_cls (S.KH c) o2 (cls_val S.fr (S.K c) (beq_iff_eq.mp a1) a2 q a4 ?_))
  refine uO (first:=[]) o3 he (hp pos) (b6 (h pos _ ⟨m,news,S.toks _⟩) (fun vs s₁ hh=>?_) fun _ _ x=>x)
  obtain⟨bs,ρ₁,H₁,rs,⟨m₁,news₁,S₁⟩,h₁⟩:=hh
  exact⟨S₁.KH c,h₁ _ rs s₁ ⟨m₁,news₁,S₁⟩⟩
 ·cases a3
noncomputable def Dk(P:Params):Bool:=(match findCls (KG P) (.type "ValueError") (.type "type") "__init__" with |some (.val b)=>b == .builtin "ValueError.__init__" |_=>false) && handedIn (.builtin "ValueError.__init__") && (findIn (KG P) (.type "type") "__getattribute__" == some (some (.builtin "type.__getattribute__"))) && (subIn (KG P) (.type "type") (.type "type") == some true)
theorem FM(P:Params):Dk P=true:=by kernel_rfl
theorem FN{e:Expr}{es:List Expr}{Q:AV→b0→AH→Prop}(c:Cx w f fx n) (h:Ea w f fx X (e::es) ρ H (vP w f fx X "ValueError.__init__" Q))
  (he:autoParam (starEach (e::es) (f.env fx)=(false,eval e (f.env fx))::starEach es (f.env fx)) kR) (hp:autoParam (∀pos,(backTo pos (starEach es (f.env fx))).any (·.1)=false) kI):I6 w f fx X (.lit (.type "ValueError")) "__init__" (e::es) ρ H Q:=by
 refine I5 ?_
 rintro pos pl s ⟨m,news,S⟩
 have ho:=FM w.params
 unfold Dk at ho
 rw[Bool.and_eq_true,Bool.and_eq_true,Bool.and_eq_true,beq_iff_eq,beq_iff_eq] at ho
 refine oA (ho) fun zq1 o4=>?_;refine oA (zq1) fun zq2 o3=>?_;refine oA (zq2) fun o1 o2=>?_
 split at o1
 ·rename_i b q
  rw[beq_iff_eq.mp o1] at q
  have KH:=S.KH c
  have ht:typeOf (.type "ValueError")=pure (.type "type"):=by rfl
  have L0:Looks (model pw w) s.heap (typeOf (.type "ValueError")) (.type "type"):=Looks.of_pure ht
  have hstub:opaqueClassAbove (.type "ValueError")=pure none:=by unfold opaqueClassAbove;dsimp only;rw[show Manifest.isStub "ValueError" = false by decide +kernel];rfl
  unfold getMethod specialOf
  refine a6 (wpAny_bind (wpAny_bind (L0.here ((looks_findIn KH o3).here ?_))))
  dsimp only
  rw[if_pos canon_tga]
  refine wpAny_bind (cls_open KH (Looks.of_pure hstub) L0 o3 (looks_hook KH (r:=none) (by rfl)) o4 q ?_)
  refine wpAny_pure ?_
  refine(?_:wpAny _ _ (handedOut (.builtin "ValueError.__init__")) _ _ _)
  rw[handedOut_of o2]
  refine wpAny_pure (wpAny_pure ?_)
  have hh:=h pos _ ⟨m,news,S.toks (s.toks+1)⟩
  dsimp only
  rw[he] at hh ⊢
  refine eN (by show(false || (backTo pos (starEach es (f.env fx))).any (·.1))=false;rw[hp];rfl) (bQ (b6 hh (fun vs s₁ q=>?_) fun _ _ x=>x))
  obtain⟨bs,ρ₁,H₁,rs,S₁,h₁⟩:=q
  exact h₁ _ rs s₁ S₁
 ·cases o1
theorem FO{e C t gI:Addr}{d:Option Addr}{vs:List AV}{H':Addr→AH}{tb:AV}{Q:AV→b0→AH→Prop}(c:Cx w f fx n) (ho:I8 w.params C gI=true) (hl:vs.length≤1000) (h1:In1 e (.exc C d t tb) H) (hp:∀t',Put1 e (.exc C d t' tb) H (H' t'))
  (h:∀t',Q .none ρ ((t',.tup vs)::H' t')):E4 w f fx X "ValueError.__init__" (.ref e::vs) ρ H Q:=by
 rintro _ (_ | ⟨⟨⟩,hv⟩) s ⟨m,news,S⟩
 rename_i cvs
 have KH:=S.KH c
 refine oA (nN (M:=model pw w) KH ho) fun zq1 _=>?_;refine oE (zq1) fun bm Y=>?_
 refine g4 (S.excAt h1) fun o tbv v2 v3 v4 v5 k1 k2 k3 k4 k5=>?_
 have F:=PySem.F.excBase_ValueError
 have hshort:=F.noStar
 have he:=S.freed k1
 refine z6 (Y9 F.init.plain (by kernel_rfl) F.initEntry ?_)
 refine a6 ?_
 obtain⟨⟨hC⟩,b1, -⟩:=Y
 have hcB:=Z2 (C:=C) b1
 have chk:∀ {A:Around}{E:Value→Shared→Prop}{Q:Unit→Shared→Prop},Q () s→wpAny (model pw w) A (checkBuiltinCall "ValueError.__init__" ⟨.ref e::cvs,[]⟩) Q E s:=fun hq=>by
  obtain⟨hh,g,dr,tk,os⟩:=s
  simp only[checkBuiltinCall,F.initKind,F.initSplit,F.initRow]
  repeat (first |(with_reducible refine wpAny_loadPart_at he ?_;rw[k3]) |with_reducible refine wpAny_loadPart_at hC ?_ |(with_reducible refine wpAny_isSubtype_exc hC ?_;rw[hcB]) |wp_step)
  refine wpAny_onRaise ?_
  rw[show ∀(a b:String) (n:Nat),Bind.check ⟨.positional, "*", "ValueError",.self,[⟨"args",.varPos,false⟩]⟩ a b n (List.map (fun x=>x.fst) ({ pos:=Value.ref e::cvs }:Args).kw)=pure () from
   fun a b n=>check_star_args _ _ _ _ _ _]
  exact wpAny_pure hq
 refine chk (a6 ?_)
 unfold Builtin.«BaseException.__init__»
 dsimp only
 refine bm_if_false rfl ?_
 refine wpAny_bind (wpAny_newObj_type (T:= "tuple") (data:=.seq cvs.toArray) ?_ ?_)
 ·have S₁:=S.push (s':= { s with heap:=s.heap.push (K6 cvs) }) (o:=K6 cvs) (ao:=.tup vs) rfl (.tup 0 hv rfl rfl) rfl rfl rfl
  unfold Builtin.BaseException.bexcPut
  have he₁:=S₁.freed (List.Mem.tail _ k1)
  refine wpAny_bind (wpAny_bind (wpAny_field (x:=.ref t) he₁ k5 rfl ?_))
  refine wpAny_bind (wpAny_setField he₁ k5 (by show 0<6;decide) ?_)
  have S₂:=S₁.setAt (i:=0) (x:=.ref s.heap.objs.size) (.tail _ k1) k5 (.there (hp s.heap.objs.size)) fun o' q1 q2 q3=>.exc k2 (q1.trans k3) (q2.trans k4) q3
  dsimp only
  refine wpAny_mono (Q:=fun _ s'=>s'= { s with heap:=(s.heap.push (K6 cvs)).update e (Obj.mapFields (·.setIfInBounds 0 (.ref s.heap.objs.size))) }) (E:=fun _ _=>False) ?_ (fun _ s' q=>?_) fun _ _ z=>z.elim
  ·repeat wp_step
   all_goals rfl
  ·subst q
   exact wpAny_pure ⟨_,ρ,_,.none,S₂,h _⟩
 ·refine(?_:cvs.toArray.size≤sizeLine)
  rw[List.size_toArray,hv.len,sizeLine_eq];exact JL hl
end
end
section
open Sem (wp)
open Builtin Builtin.ObjectAttr
noncomputable def bA:List Value→Bool
 | .ref _::r=>bA r
 | l=>l == [.type "ValueError",.type "Exception",.type "BaseException",.type "object"]
theorem vQ{P:List Value→Prop}(h0:P [.type "ValueError",.type "Exception",.type "BaseException",.type "object"]) (h1:∀c r,P r→P (.ref c::r)):∀ {l:List Value},bA l=true→P l
 | [],e=>by cases e
 | v::r,e=>by
  unfold bA at e
  split at e
  ·rename_i c r' q
   cases q
   exact h1 _ _ (vQ h0 h1 e)
  ·rw[beq_iff_eq.mp e];exact h0
theorem Av(self:Value) {l:List Value}(e:bA l=true):refuseLoop self "__setattr__" l=pure ():=vQ (P:=fun l=>refuseLoop self "__setattr__" l=pure ()) (PySem.F.store_ValueError.passes self) (fun c r h=>by rw[refuseLoop_ref];exact h) e
theorem Aw{l:List Value}(e:bA l=true):l.contains (.type "object")=true:=vQ (P:=fun l=>l.contains (.type "object")=true) rfl (fun c r h=>by rw[List.contains_cons,h,Bool.or_true]) e
noncomputable def O6(P:Params) (C:Addr) (name:Str):Bool:=(findIn (KG P) (.ref C) "__setattr__" == some (some (.builtin "object.__setattr__"))) && (clsIn (KG P) C).any (fun cd=>bA cd.mro) && (match takerIn (KG P) C name with |some none=>true |_=>false) && hasDictIn (KG P) C
section
variable{w:World}{f:FI}{fx:Fx}{X:AV→b0→AH→Prop}{ρ:b0}{H:AH}{n:Nat}
theorem Sat'.nsAt{s:Shared}{m:GM fx}{news:List (Addr×Obj)}{d:Addr}{ks:List Str}(S:Sat' f fx ρ H s m news) (h:In1 d (.ns ks) H):∃o mA,(d,o)∈news∧s.heap.Ns1 d mA∧Within mA ks:=by
 refine f9 (S.items _ h.mem) fun o h1 h2=>?_
 cases h2 with
 | ns a b c d'=>exact⟨o,_,h1,⟨o,_,_,S.freed h1,a,b,c,fun _=>rfl⟩,d'⟩
theorem Dl{A:Around}{E:Value→Shared→Prop}{s:Shared}{d:Addr}{ks:List Str}{name:Str}{v:Value}{tk:Tok}{H':AH}{Q:Fin→Shared→Prop}(S:Sat f fx ρ H s) (h:In1 d (.ns ks) H) (hp:Put1 d (.ns (name::ks)) H H') (hz:ks.length≤1000)
  (hq:∀h' k,Sat f fx ρ H' { s with heap:=h',toks:=k }→Q (.done (.ret .none)) { s with heap:=h',toks:=k }):wpAny (model pw w) A (storeInDict d (.str name tk) name v) Q E s:=by
 obtain⟨m,news,S⟩:=S
 refine p8 (S.nsAt h) fun o mA h1 h2 h3=>?_
 unfold storeInDict newKeyGuard
 refine wpAny_bind (wpAny_pure (wpAny_bind (wpAny_nsSet1 h2 fun h' hn' hs=>?_)))
 have W:=Within.cons name v h3
 refine Hq (hn'.count W) fun oD esD epD hoD hdD hcD=>?_
 refine wpAny_bind (wpAny_lookBehind hoD (by rw[hdD];exact pastItsLine_dict (Nat.le_trans hcD (by rw[List.length_cons,sizeLine_eq];exact Og hz))) ?_)
 refine pM (hn') fun o' es' ep' e1 e2 e3 e4 e5=>?_
 refine wpAny_pure (hq h' _ ?_)
 exact S.moved (s':= { s with heap:=h',toks:=_ }) h1 hp (.ns e2 e3 e4 fun y hy=>W y (by rw[← e5];exact hy)) e1 (fun b ob hb e=>(hs.2 b hb).trans e) rfl rfl
theorem bY{C e t:Addr}{d:Option Addr}{tb:AV}{name:Str}{v:AV}{Q:b0→AH→Prop}(c:Cx w f fx n) (h1:In1 e (.exc C d t tb) H) (ho:O6 w.params C name=true)
  (hq:∀A E s tk cv b,Sat f fx ρ H s→Rep v cv→(∀R:Fin→Shared→Prop,(∀s',(∃H',Sat f fx ρ H' s'∧Q ρ H')→R (.done (.ret .none)) s')→wpAny (model pw w) A (storeInOwnDict (.ref e) (.ref C) (.str name tk) name cv b) R E s)):gK w f fx X (.ref e) name v ρ H Q:=by
 rintro _ cv ⟨⟩ r s ⟨m,news,S⟩
 unfold O6 at ho
 rw[Bool.and_eq_true,Bool.and_eq_true,Bool.and_eq_true,beq_iff_eq] at ho
 refine oA (ho) fun zq1 o4=>?_;refine oA (zq1) fun zq2 o3=>?_;refine oA (zq2) fun o1 o2=>?_
 split at o3
 ·rename_i ht
  refine f9 (any_some o2) fun cd hc hve=>?_
  refine g4 (S.excAt h1) fun o tbv v2 v3 v4 v5 k1 k2 k3 k4 k5=>?_
  have SF:=PySem.F.store_object
  have ne:cd.mro.isEmpty=false:=by cases q:cd.mro with |nil=>rw[q] at hve;cases hve |cons _ _=>rfl
  have S₁:=S.toks (s.toks+1)
  have KH:=S.KH c
  have t0:∀k,Looks (model pw w) ({ s with toks:=k }:Shared).heap (typeOf (.ref e)) (.ref C):=fun k=>by
   have:Looks (model pw w) s.heap (typeOf (.ref e)) o.cls:=(Looks.ld (S.freed k1)).andThen .now
   rwa [k3] at this
  have sub:Looks (model pw w) s.heap (isInstance (.ref e) (.type "object")) true:=(t0 s.toks).andThen (looks_mroIn KH (by unfold mroIn;rw[hc,Option.bind_some,if_neg (by rw[ne];decide),Aw hve]))
  unfold setAttr callSpecial? specialOf
  refine a6 (wpAny_bind (wpAny_mkText (wpAny_bind (wpAny_bind (wpAny_bind ((t0 (s.toks+1)).here ((looks_findIn (K:=KG w.params) KH o1).at ?_)))))))
  dsimp only
  refine wpAny_holding ?_
  rw[SF.slot.bind]
  refine wpAny_bind (wpAny_pure (wpAny_bind (wpAny_call ?_)))
  refine codeAny_call_builtin SF.slot.plain SF.entry (@check_slot (model pw w) _ _ { s with toks:=s.toks+1 } "object.__setattr__" "object" "__setattr__" (.ref e) [.str name s.toks,cv] [] _ SF.kind SF.split sub (SF.args (.ref e) (.str name s.toks) cv) ?_)
  refine f9 (Option.bind_eq_some_iff.mp ht) fun attr ha hr=>?_
  have hm:Looks (model pw w) s.heap (mroOf (.ref C)) cd.mro:=(looks_clsIn KH hc).andThen .now
  have L3:Looks (model pw w) s.heap (storeTaker? attr) none:=by
   cases attr with
   | none=>exact .now
   | some a=>
    refine f9 (Option.map_eq_some_iff.mp hr) fun b hb q=>?_
    refine(looks_takesIn KH hb).andThen ?_
    cases b
    ·exact .now
    ·cases q
  refine(?_:wpAny _ _ (Builtin.«object.__setattr__» ⟨[.ref e,.str name s.toks,cv],[]⟩) _ _ _)
  rw[osa_eq,refuse_eq]
  refine wpAny_bind (wpAny_bind ((t0 _).here (wpAny_bind (hm.at ?_))))
  rw[Av _ hve]
  refine wpAny_pure (wpAny_bind ((t0 _).here (wpAny_bind ((looks_findIn KH ha).at (wpAny_bind (L3.at ?_))))))
  dsimp only
  refine hq _ _ _ _ _ _ ⟨m,news,S₁⟩ r _ fun s' hs=>?_
  refine f9 (hs) fun H' S' hQ=>?_
  exact wpAny_pure (wpAny_pure ⟨(),ρ,H',rfl,S',hQ⟩)
 ·cases o3
theorem I1{C e t d:Addr}{tb:AV}{name:Str}{v:AV}{ks:List Str}{H':AH}{Q:b0→AH→Prop}(c:Cx w f fx n) (h1:In1 e (.exc C (some d) t tb) H) (h2:In1 d (.ns ks) H) (hp:Put1 d (.ns (name::ks)) H H') (hz:ks.length≤1000) (ho:O6 w.params C name=true) (h:Q ρ H'):gK w f fx X (.ref e) name v ρ H Q:=by
 refine bY c h1 ho fun A E s tk cv b S r R hR=>?_
 obtain⟨m,news,S⟩:=S
 refine g4 (S.excAt h1) fun o tbv v2 v3 v4 v5 k1 k2 k3 k4 k5=>?_
 unfold O6 at ho
 rw[Bool.and_eq_true,Bool.and_eq_true,Bool.and_eq_true,beq_iff_eq] at ho
 refine f9 (any_some ho.2) fun cd hc hd=>?_
 refine wpAny_bind (wpAny_pure (wpAny_bind (wpAny_bind (wpAny_loadPart (S.freed k1) ?_))))
 rw[k3]
 dsimp only
 refine wpAny_bind ((looks_clsIn (S.KH c) hc).here ?_)
 rw[hd]
 rw[k4]
 refine wpAny_pure (a:=some d) ?_
 exact Dl ⟨m,news,S⟩ h2 hp hz fun h' k S'=>hR _ ⟨H',S',h⟩
theorem FP{C e t:Addr}{tb:AV}{name:Str}{v:AV}{H':Addr→AH}{Q:b0→AH→Prop}(c:Cx w f fx n) (h1:In1 e (.exc C none t tb) H) (hp:∀d,Put1 e (.exc C (some d) t tb) H (H' d)) (ho:O6 w.params C name=true) (h:∀d,Q ρ ((d,.ns [name])::H' d)):gK w f fx X (.ref e) name v ρ H Q:=by
 refine bY c h1 ho fun A E s tk cv b S r R hR=>?_
 obtain⟨m,news,S⟩:=S
 refine g4 (S.excAt h1) fun o tbv v2 v3 v4 v5 k1 k2 k3 k4 k5=>?_
 unfold O6 at ho
 rw[Bool.and_eq_true,Bool.and_eq_true,Bool.and_eq_true,beq_iff_eq] at ho
 refine f9 (any_some ho.2) fun cd hc hd=>?_
 obtain⟨oc,od,odt,osl⟩:=o
 dsimp only at k3 k4 k5
 subst k3 k4 k5
 refine wpAny_bind (wpAny_pure (wpAny_bind (wpAny_bind (wpAny_loadPart (S.freed k1) ?_))))
 dsimp only
 refine wpAny_bind ((looks_clsIn (S.KH c) hc).here ?_)
 rw[hd]
 refine bm_if_false (by rfl) ?_
 refine wpAny_bind (wpAny_alloc ?_)
 have S₁:=S.push (s':= { s with heap:=s.heap.push { cls:=.type "dict",data:=.dict #[] } }) (o:= { cls:=.type "dict",data:=.dict #[] }) (ao:=.ns []) rfl (.ns rfl (fun e he=>absurd he (by simp)) (by simp [UniqKeys]) (fun y hy=>absurd rfl hy)) rfl rfl rfl
 have he₁:=S₁.freed (List.Mem.tail _ k1)
 refine wpAny_bind (wpAny_update he₁ ?_)
 refine wpAny_pure (a:=some s.heap.objs.size) ?_
 have S₂:Sat f fx ρ ((s.heap.objs.size,.ns [])::H' s.heap.objs.size) { s with heap:=(s.heap.push { cls:=.type "dict",data:=.dict #[] }).update e fun o=> { o with dict:=some s.heap.objs.size } }:=by
  have hu:=Heap.get?_update_self (fun o:Obj=> { o with dict:=some s.heap.objs.size }) he₁ rfl
  exact S₁.moved (s':= { s with heap:=(s.heap.push { cls:=.type "dict",data:=.dict #[] }).update e fun o=> { o with dict:=some s.heap.objs.size } }) (.tail _ k1) (.there (hp _)) (.exc k2 rfl rfl rfl) hu (fun b ob hb e'=>(Heap.get?_update_other _ _ (Ne.symm hb)).trans e') rfl rfl
 exact Dl S₂ .here .here (by decide) fun h' k S'=>hR _ ⟨_,S',h _⟩
end
end
section
open Sem (wp)
inductive FQ (L:Addr):AV→AH→Prop
 | fresh:FQ L .none []
 | out (T):FQ L (.ref T) [(T,.tb none)]
 | here (T):FQ L (.ref T) [(T,.tb (some L))]
inductive xU (L e C:Addr) (d:Option Addr) (t:Addr) (R H:AH):Prop
 | mk (tb:AV) (l:AH) (m:FQ L tb l) (h:H=(e,.exc C d t tb)::(l++R))
inductive XB (L:Addr) (XR:Addr→Addr→Option Addr→Addr→AH→Prop) (b:AV) (ρ:b0) (H:AH):Prop
 | mk (e C:Addr) (d:Option Addr) (t:Addr) (R:AH) (h:b=.ref e) (a:xU L e C d t R H) (x:XR e C d t R)
inductive XO (XR:Addr→Addr→Option Addr→Addr→AH→Prop) (b:AV) (H:AH):Prop
 | mk (e C:Addr) (d:Option Addr) (t T:Addr) (R:AH) (h:b=.ref e) (a:H=(e,.exc C d t (.ref T))::(T,.tb none)::R) (x:XR e C d t R)
section
variable{w:World}{f:FI}{fx:Fx}{X:AV→b0→AH→Prop}{ρ:b0}{H:AH}{n:Nat}
variable{XR:Addr→Addr→Option Addr→Addr→AH→Prop}
theorem Sat.perm{H₂:AH}{s:Shared}(S:Sat f fx ρ H s) (hp:H.Perm H₂):Sat f fx ρ H₂ s:=S.sub (fun p hp'=>hp.mem_iff.mpr hp') (by
 obtain⟨_,_,S'⟩:=S
 exact((hp.map (fun p:Addr×AO=>p.1)).nodup_iff).mp S'.keys)
theorem eY{L:Addr}{XR':Addr→Addr→Option Addr→Addr→AH→Prop}(h:∀e C d t R,XR e C d t R→XR' e C d t R):∀b H',XO XR b H'→XB L XR' b ρ H':=fun b H' ⟨e,C,d,t,T,R,h1,h2,h3⟩=>⟨e,C,d,t,R,h1,⟨_,_,.out T,h2⟩,h _ _ _ _ _ h3⟩
theorem nQ{E:Value→Shared→Prop}{e C t:Addr}{d:Option Addr}{R:AH}{s:Shared}{Q:Unit→Shared→Prop}(c:Cx w f fx n) (S:Sat f fx ρ H s) (h1:xU fx.L e C d t R H) (hs:fx.stk=f.env fx::fx.outer) (hf:fx.frame=fx.L)
  (h:∀T h',Sat f fx ρ ((e,.exc C d t (.ref T))::(T,.tb (some fx.L))::R) { s with heap:=h' }→Q () { s with heap:=h' }):wpAny (model pw w) fx.A (noteFrame (.ref e) (f.env fx)) Q E s:=by
 obtain⟨tb,l,hm,rfl⟩:=h1
 have swap:∀ {T:Addr}{a b:AO}{s':Shared}{l:AH},Sat f fx ρ ((T,a)::(e,b)::l) s'→Sat f fx ρ ((e,b)::(T,a)::l) s':=fun S=>S.perm (List.Perm.swap _ _ _)
 cases hm with
 | fresh=>exact FG (H':=fun T=>(e,.exc C d t (.ref T))::([]++R)) c S .here hs hf (fun T=>.here) fun T h' S'=>h T h' (swap S')
 | out T₀=>
  refine FH (H':=fun T=>(e,.exc C d t (.ref T))::([(T₀,.tb none)]++R)) c S .here (.there .here) hs hf (fun T=>.here) fun T h' S'=>h T h' ?_
  refine(swap S').sub (fun p hp=>?_) ?_
  ·rcases List.mem_cons.mp hp with rfl |hp
   ·exact .head _
   ·rcases List.mem_cons.mp hp with rfl |hp
    ·exact .tail _ (.head _)
    ·exact .tail _ (.tail _ (.tail _ hp))
  ·obtain⟨_,_,S⟩:=swap S'
   have:=S.keys
   simp only[List.map_cons,List.cons_append,List.nil_append] at this ⊢
   exact(List.Sublist.cons₂ _ (List.Sublist.cons₂ _ (List.Sublist.cons _ (List.Sublist.refl _)))).nodup this
 | here T₀=>
  refine xS S .here (.there (by rw[hf];exact .here)) ?_
  exact h T₀ s.heap S
theorem iO{E:Value→Shared→Prop}{A:Around}{e C t T:Addr}{d:Option Addr}{fl fr:Option Addr}{R:AH}{s:Shared}{Q:Unit→Shared→Prop}(S:Sat f fx ρ ((e,.exc C d t (.ref T))::(T,.tb fl)::R) s)
  (h:∀h',Sat f fx ρ ((e,.exc C d t (.ref T))::(T,.tb fr)::R) { s with heap:=h' }→Q () { s with heap:=h' }):wpAny (model pw w) A (setFlight (.ref e) fr) Q E s:=
 O4 S .here (.there .here) (.there .here) h
theorem j2(c:Cx w f fx n) (hs:fx.stk=f.env fx::fx.outer) (hf:fx.frame=fx.L):dZ w f fx (XB fx.L XR) (XO XR):=by
 intro v s hz90;obtain⟨b,ρ,H,r,S,e,C,d,t,R,rfl,h1,h2⟩:=hz90
 obtain rfl:=Rep.inv r
 unfold leaving
 refine a6 (wpAny_bind (nQ c S h1 hs hf fun T h' S'=>?_))
 exact iO S' fun h'' S''=>⟨.ref e,ρ,_,.ref e,S'',e,C,d,t,T,R,rfl,rfl,h2⟩
theorem s0{a:Addr}{vs:List AV}{H₂:AH}{XR':Addr→Addr→Option Addr→Addr→AH→Prop}{QS:AV→AH→Prop}{Q:AV→b0→AH→Prop}{k:Nat}(c:Cx w f fx n) (hh:fx.A.handled=none) (hs:c6 w k a vs H₂ (XO XR') QS) (hk:k≤n)
  (hp:H.Perm H₂) (hX:∀e C d t R,XR' e C d t R→XR e C d t R) (h:∀b H',QS b H'→Q b ρ H'):w3 w f fx (XB fx.L XR) a vs ρ H Q:=y4 c hh hs hk hp (eY hX) h
inductive Dm (P:Params) (XR:Addr→Addr→Option Addr→Addr→AH→Prop) (v:AV) (ρ:b0) (H:AH):Prop
 | mk (e C:Addr) (d:Option Addr) (t:Addr) (R:AH) (L gI:Addr) (h:v=.ref e) (h1:xU L e C d t R H) (ho:I8 P C gI=true) (x:XR e C d t R)
theorem x9{x:Expr}{pos:Pos}{Q:AF→b0→AH→Prop}(c:Cx w f fx n) (hh:fx.A.handled=none)
  (h:Ev w f fx (XB fx.L XR) x ρ H (Dm w.params XR)):bT w f fx (XB fx.L XR) (.Raise (some x) none pos) ρ H Q:=by
 intro s S
 rw[arm_exec_Raise]
 show c8 _ _ (do standAt pos;raiseStmt (f.env fx) (some (do let v ← eval x (f.env fx);standAt pos;pure v)) none) _ _ _
 refine a7 (c3 ?_)
 unfold raiseStmt
 refine a7 (a7 (b6 (h s S) (fun v s₁ hh'=>a7 (c3 (b7 ?_))) fun _ _ x=>x))
 obtain⟨b,ρ₁,H₁,r,S₁,e,C,d,t,R,L,gI,rfl,h1,ho,hX⟩:=hh'
 obtain rfl:=Rep.inv r
 obtain⟨tb,l,hm,rfl⟩:=h1
 obtain⟨m,news,S₁⟩:=S₁
 refine g4 (S₁.excAt .here) fun o tbv v2 v3 v4 v5 k1 k2 k3 k4 k5=>?_
 refine oA (nN (M:=model pw w) (S₁.KH c) ho) fun zq1 _=>?_;refine oE (zq1) fun bm Y=>?_
 have he:=S₁.freed k1
 have t1:Looks (model pw w) s₁.heap (typeOf (.ref e)) (.ref C):=by
  have:Looks (model pw w) s₁.heap (typeOf (.ref e)) o.cls:=(Looks.ld he).andThen .now
  rwa [k3] at this
 have s2:=Y.sub (.type "BaseException")
 rw[Z2 Y.bm.2.1] at s2
 have i1:Looks (model pw w) s₁.heap (isType (.ref e)) false:=by
  have:Looks (model pw w) s₁.heap (isType (.ref e)) (match o.data with | .cls _=>true |_=>false):=(Looks.ld he).andThen .now
  rwa [k5] at this
 have t2:Looks (model pw w) s₁.heap (typeOf (.ref C)) (.type "type"):=by
  obtain⟨⟨hC⟩, -⟩:=Y
  exact(Looks.ld hC).andThen .now
 have fin:c8 (model pw w) fx.A (do setFlight (.ref e) none;raiseNew (.ref e):Sem Flow) (pY f fx RepF Q) (gG f fx (XB fx.L XR)) s₁:=by
  have thr:∀ {s':Shared}{H':AH},Sat f fx ρ₁ H' s'→xU fx.L e C d t R H'→c8 (model pw w) fx.A (raiseNew (.ref e):Sem Flow) (pY f fx RepF Q) (gG f fx (XB fx.L XR)) s':=fun S' q=>by
   unfold raiseNew
   refine a6 (wpAny_bind (wpAny_handled ?_))
   rw[hh]
   first
    | exact wpAny_throw ⟨.ref e,ρ₁,_,.ref e,S',e,C,d,t,R,rfl,q,hX⟩
    | exact wpAny_bind (wpAny_pure (wpAny_throw ⟨.ref e,ρ₁,_,.ref e,S',e,C,d,t,R,rfl,q,hX⟩))
  cases hm with
  | fresh=>exact a7 (a6 (nM ⟨m,news,S₁⟩ .here (thr ⟨m,news,S₁⟩ ⟨_,_,.fresh,rfl⟩)))
  | out T=>exact a7 (a6 (O4 ⟨m,news,S₁⟩ .here (.there .here) (.there .here) fun h' S'=>thr S' ⟨_,_,.out T,rfl⟩))
  | here T=>exact a7 (a6 (O4 ⟨m,news,S₁⟩ .here (.there .here) (.there .here) fun h' S'=>thr S' ⟨_,_,.out T,rfl⟩))
 dsimp only
 refine a7 (b7 ?_)
 refine a7 (c0 ?_)
 ·unfold excFromValue isExcClass
  refine a7 (a7 (O5 i1 ?_))
  refine B6 rfl (b7 ?_)
  refine B6 rfl ?_
  refine a7 (O5 (t1.andThen s2) ?_)
  refine Da rfl (b7 ?_)
  dsimp only
  refine a7 (O5 i1 ?_)
  refine B6 rfl ?_
  unfold raisedInstance
  refine a7 (a7 (O5 t1 (a7 (O5 t2 ?_))))
  refine Da (by decide +kernel) (b7 ?_)
  exact fin
noncomputable abbrev SG(w:World) (f:FI) (fx:Fx) (X:AV→b0→AH→Prop) (x:AV) (ρ:b0) (H:AH) (Q:AV→b0→AH→Prop):Prop:=∀a,Rep x a→Tr w f fx X Rep (formatField a Str.empty) ρ H Q
noncomputable abbrev SH(w:World) (f:FI) (fx:Fx) (X:AV→b0→AH→Prop) (Q:AV→b0→AH→Prop) (x:AV) (ρ:b0) (H:AH):Prop:=SG w f fx X x ρ H Q
theorem I2{value:Expr}{pos:Pos}{Q:AV→b0→AH→Prop}(h:Ev w f fx X value ρ H (SH w f fx X Q)):Ev w f fx X (.FormattedValue value (-1) none pos) ρ H Q:=by
 intro s S
 show c8 _ _ (do let v ← eval value (f.env fx);standAt pos;formatted pos (← holding [v] (converted (-1) v)) none) _ _ _
 refine a7 (b6 (h s S) (fun v s₁ hh=>?_) fun _ _ x=>x)
 obtain⟨b,ρ₁,H₁,r,S₁,h₁⟩:=hh
 refine a7 (c3 ?_)
 show c8 _ _ (do let v' ← holding [v] (pure v);formatField v' Str.empty) _ _ _
 exact a7 (c0 (b7 (h₁ v r s₁ S₁)))
theorem nR{x:Str}{Q:AV→b0→AH→Prop}(hz:x.length≤1000000) (h:Q (.str x) ρ H):SG w f fx X (.str x) ρ H Q:=by
 refine I5 ?_
 rintro _ s S
 exact a6 (formatField_str (fun t' tk=>⟨_,ρ,H,.str _ _,S.toks _,h⟩) (by rw[sizeLine_eq];exact Gk hz))
theorem K7{i:Int}{Q:AV→b0→AH→Prop}(hz:i.natAbs.log2<1920) (h:Q (.str (toString i)) ρ H):SG w f fx X (.int i) ρ H Q:=by
 refine I5 ?_
 rintro _ s S
 exact a6 (formatField_int_small hz ⟨_,ρ,H,.str _ _,S.toks _,h⟩)
noncomputable abbrev Jn(w:World) (f:FI) (fx:Fx) (X:AV→b0→AH→Prop) (out:Str) (es:List Expr) (ρ:b0) (H:AH) (Q:AV→b0→AH→Prop):Prop:=Tr w f fx X Rep (joinParts out (evalEach es (f.env fx))) ρ H Q
theorem S0{a b:Expr}{es:List Expr}{pos:Pos}{Q:AV→b0→AH→Prop}(h:Jn w f fx X Str.empty (a::b::es) ρ H Q):Ev w f fx X (.JoinedStr (a::b::es) pos) ρ H Q:=h
theorem nS{out:Str}{Q:AV→b0→AH→Prop}(hz:out.length≤1000000) (h:Q (.str out) ρ H):Jn w f fx X out [] ρ H Q:=by
 intro s S
 exact a6 (joinParts_nil ⟨_,ρ,H,.str _ _,S.toks _,h⟩ (by rw[sizeLine_eq];exact Gk hz))
inductive KJn (w:World) (f:FI) (fx:Fx) (X:AV→b0→AH→Prop) (out:Str) (es:List Expr) (Q:AV→b0→AH→Prop) (v:AV) (ρ:b0) (H:AH):Prop
 | mk (y:Str) (e:v=.str y) (q:(out++y).length≤1000000∧Jn w f fx X (out++y) es ρ H Q)
theorem q9{out:Str}{e:Expr}{es:List Expr}{Q:AV→b0→AH→Prop}(h:Ev w f fx X e ρ H (KJn w f fx X out es Q)):Jn w f fx X out (e::es) ρ H Q:=by
 intro s S
 refine(?_:c8 _ _ (joinParts out (eval e (f.env fx)::evalEach es (f.env fx))) _ _ _)
 rw[joinParts]
 refine a7 (b6 (h s S) (fun v s₁ hh=>?_) fun _ _ e=>e)
 obtain⟨b,ρ₁,H₁,r,S₁,y,rfl,hz,h₁⟩:=hh
 refine oE (Rep.inv r) fun _ zq1=>?_;subst zq1
 have hz':¬ (out.length+y.length > sizeLine):=by rw[← strLen_append,sizeLine_eq];exact Od hz
 refine a7 (b7 ?_)
 refine(?_:c8 _ _ (if out.length+y.length > sizeLine then _ else _) _ _ s₁)
 rw[if_neg hz']
 exact h₁ s₁ S₁
end
end
section
variable{w:World}{f:FI}{fx:Fx}{X:AV→b0→AH→Prop}{ρ:b0}{H:AH}{n:Nat}
theorem E5{A:Around}{E:Value→Shared→Prop}{s:Shared}{value slice:Expr}{o i:Value}{ops:List Value}{T id:String}{Q:Value→Shared→Prop}(hT:s.TypeIs o T) (hl:typeLookup (.type T) "__getitem__" = pure (some (.builtin id)))
  (hs:subscripted slice false o i=operate ops (getItem o i)) (h:wpAny (model pw w) A (getItem o i) Q E s):wpAny (model pw w) A (subscriptTail value slice o i) Q E s:=by
 unfold subscriptTail
 refine wpAny_bind ?_
 rw[getitemInPython_of_ne hT.not_modules]
 refine wpAny_bind (wpAny_specialOf hT hl ?_)
 have fin:wpAny (model pw w) A (subscripted slice false o i) (fun r s₃=>wpAny (model pw w) A (letTemporaryGo value o r >>= fun _=>pure r) Q E s₃) E s:=by
  rw[hs]
  exact wpAny_operating (wpAny_mono h (fun r s₃ h₃=>wpAny_bind (wpAny_letTemporaryGo (wpAny_pure h₃))) fun _ _ x=>x)
 first
  | exact wpAny_pure (wpAny_bind fin)
  | exact wpAny_bind (wpAny_pure (wpAny_bind fin))
  | exact wpAny_bind fin
noncomputable abbrev Ax(w:World) (f:FI) (fx:Fx) (X:AV→b0→AH→Prop) (value slice:Expr) (o i:AV) (ρ:b0) (H:AH) (Q:AV→b0→AH→Prop):Prop:=∀a b,Rep o a→Rep i b→Tr w f fx X Rep (subscriptTail value slice a b) ρ H Q
noncomputable abbrev SI(w:World) (f:FI) (fx:Fx) (X:AV→b0→AH→Prop) (value slice:Expr) (o:AV) (Q:AV→b0→AH→Prop) (i:AV) (ρ:b0) (H:AH):Prop:=Ax w f fx X value slice o i ρ H Q
noncomputable abbrev SJ(w:World) (f:FI) (fx:Fx) (X:AV→b0→AH→Prop) (value slice:Expr) (Q:AV→b0→AH→Prop) (o:AV) (ρ:b0) (H:AH):Prop:=Ev w f fx X slice ρ H (SI w f fx X value slice o Q)
theorem i9{value slice:Expr}{pos:Pos}{Q:AV→b0→AH→Prop}(h:Ev w f fx X value ρ H (SJ w f fx X value slice Q)):Ev w f fx X (.Subscript value slice pos) ρ H Q:=
 fun s S=>eW (b6 (h s S) (fun a s₁ ⟨x,ρ₁,H₁,rx,S₁,h₁⟩=>b6 (h₁ s₁ S₁) (fun b s₂ ⟨y,ρ₂,H₂,ry,S₂,h₂⟩=>h₂ a b rx ry s₂ S₂) fun _ _ x=>x) fun _ _ x=>x)
theorem W1{value slice:Expr}{a:Addr}{b:List UInt8}{i:Int}{Q:AV→b0→AH→Prop}(hi:In1 a (.ba b) H) (hz:b.length≤1000000) (h0:0≤i) (h1:i<b.length) (h:Q (.int (b.getD i.toNat 0).toNat) ρ H)
  (hs:∀(a:Addr) (i:Int) t,subscripted slice false (.ref a) (.int i t)=operate [.ref a,.int i t] (getItem (.ref a) (.int i t)):=by intro _ _ _;with_unfolding_all rfl):Ax w f fx X value slice (.ref a) (.int i) ρ H Q:=by
 refine r6 ?_
 rintro _ s ⟨m,news,S⟩
 refine f9 (S.items _ hi.mem) fun o ho ro=>?_
 obtain rfl:=RepO.inv ro
 refine a6 (E5 (h9 (S.nw.get ho)) slot_ba_item.lookup (hs _ _ _) (Fy (S.nw.get ho) (by rw[n4];exact Ey hz) h0 (by rw[n4];exact h1) fun t k=>⟨_,ρ,H,.int _ _,⟨m,news,S.toks _⟩,h⟩))
theorem S1{value slice:Expr}{b:List UInt8}{i:Int}{Q:AV→b0→AH→Prop}(hz:b.length≤1000000) (h0:0≤i) (h1:i<b.length) (h:Q (.int (b.getD i.toNat 0).toNat) ρ H)
  (hs:∀(a:Array UInt8) u (i:Int) t,subscripted slice false (.bytes a u) (.int i t)=operate [.bytes a u,.int i t] (getItem (.bytes a u) (.int i t)):=by intro _ _ _ _;with_unfolding_all rfl):Ax w f fx X value slice (.bytes b) (.int i) ρ H Q:=by
 refine r6 ?_
 rintro _ _ s S
 exact a6 (E5 (typeIs_bytes _ _ _) FB.slot_bytes_getitem.lookup (hs _ _ _ _) (getItem_bytes (by exact Ey hz) h0 h1 ⟨_,ρ,H,.int _ _,S.toks _,h⟩))
noncomputable abbrev Ep(w:World) (f:FI) (fx:Fx) (X:AV→b0→AH→Prop) (e:Option Expr) (ρ:b0) (H:AH) (Q:Option Int→b0→AH→Prop):Prop:=Tr w f fx X (fun(p:Option Int) v=>IsPart v p) (evalPart e (f.env fx)) ρ H Q
theorem r3{Q:Option Int→b0→AH→Prop}(h:Q none ρ H):Ep w f fx X none ρ H Q:=fun s S=>b7 ⟨_,ρ,H,.none,S,h⟩
inductive QE (Q:Option Int→b0→AH→Prop) (v:AV) (ρ:b0) (H:AH):Prop
 | mk (i:Int) (e:v=.int i) (q:Q (some i) ρ H)
theorem r4{e:Expr}{Q:Option Int→b0→AH→Prop}(h:Ev w f fx X e ρ H (QE Q)):Ep w f fx X (some e) ρ H Q:=fun s S=>by
 refine b6 (h s S) (fun v s₁ hh=>?_) fun _ _ x=>x
 obtain⟨b,ρ₁,H₁,r,S₁,i,rfl,hQ⟩:=hh
 obtain⟨_,rfl⟩:=Rep.inv r
 exact⟨_,ρ₁,H₁,.int _ _,S₁,hQ⟩
end
section
variable{w:World}{f:FI}{fx:Fx}{X:AV→b0→AH→Prop}{ρ:b0}{H:AH}{n:Nat}
noncomputable def G5(b:List UInt8) (lo hi:Option Int):List UInt8:=(b.drop (lo.elim 0 (clipAt b.length))).take (hi.elim b.length (clipAt b.length) - lo.elim 0 (clipAt b.length))
theorem eZ(b:List UInt8) (lo hi:Option Int):KBy.picked b.toArray lo hi=(G5 b lo hi).toArray:=by
 rw[KBc.picked_eq,List.size_toArray]
 rfl
noncomputable abbrev Rw(w:World) (f:FI) (fx:Fx) (X:AV→b0→AH→Prop) (value slice:Expr) (o:AV) (lo hi:Option Int) (ρ:b0) (H:AH) (Q:AV→b0→AH→Prop):Prop:=∀a l u s,Rep o a→IsPart l lo→IsPart u hi→Sat f fx ρ H s→
 c8 (model pw w) fx.A (subscriptTail value slice a (.ref s.heap.objs.size)) (pY f fx Rep Q) (gG f fx X) { s with heap:=s.heap.push { cls:=.type "slice",data:=.fields #[l,u,.none] } }
noncomputable abbrev SK(w:World) (f:FI) (fx:Fx) (X:AV→b0→AH→Prop) (value slice:Expr) (o:AV) (lo:Option Int) (Q:AV→b0→AH→Prop) (hi:Option Int) (ρ:b0) (H:AH):Prop:=Rw w f fx X value slice o lo hi ρ H Q
noncomputable abbrev SL(w:World) (f:FI) (fx:Fx) (X:AV→b0→AH→Prop) (value slice:Expr) (upper:Option Expr) (o:AV) (Q:AV→b0→AH→Prop) (lo:Option Int) (ρ:b0) (H:AH):Prop:=Ep w f fx X upper ρ H (SK w f fx X value slice o lo Q)
noncomputable abbrev KSl(w:World) (f:FI) (fx:Fx) (X:AV→b0→AH→Prop) (value slice:Expr) (lower upper:Option Expr) (Q:AV→b0→AH→Prop) (o:AV) (ρ:b0) (H:AH):Prop:=Ep w f fx X lower ρ H (SL w f fx X value slice upper o Q)
theorem m5{value:Expr}{lower upper:Option Expr}{p pos:Pos}{Q:AV→b0→AH→Prop}
  (h:Ev w f fx X value ρ H (KSl w f fx X value (.Slice lower upper none p) lower upper Q)):Ev w f fx X (.Subscript value (.Slice lower upper none p) pos) ρ H Q:=by
 intro s S
 refine eW (b6 (h s S) (fun a s₁ hh=>?_) fun _ _ x=>x)
 obtain⟨o,ρ₁,H₁,ro,S₁,h₁⟩:=hh
 refine Io (b6 (h₁ s₁ S₁) (fun l s₂ hh=>?_) fun _ _ x=>x)
 obtain⟨lo,ρ₂,H₂,rl,S₂,h₂⟩:=hh
 refine b6 (h₂ s₂ S₂) (fun u s₃ hh=>?_) fun _ _ x=>x
 obtain⟨hi,ρ₃,H₃,ru,S₃,h₃⟩:=hh
 exact b7 (h₃ a l u s₃ ro rl ru S₃)
theorem Sat.junk{s:Shared}{o:Obj}(S:Sat f fx ρ H s) (hf:o.isFreed=false):Sat f fx ρ H { s with heap:=s.heap.push o }:=by
 obtain⟨m,news,S⟩:=S
 have S₁:=S.push (s':= { s with heap:=s.heap.push o }) (ao:=.raw o) hf (.raw o) rfl rfl rfl
 exact Sat.sub ⟨m,_,S₁⟩ (fun p hp=>.tail _ hp) S.keys
theorem fA{value slice:Expr}{b:List UInt8}{lo hi:Option Int}{Q:AV→b0→AH→Prop}(hz:b.length≤1000000) (h:Q (.bytes (G5 b lo hi)) ρ H)
  (hs:∀(a:Array UInt8) u (i:Addr),subscripted slice false (.bytes a u) (.ref i)=operate [.ref i,.bytes a u] (getItem (.bytes a u) (.ref i)):=by intro _ _ _;with_unfolding_all rfl):Rw w f fx X value slice (.bytes b) lo hi ρ H Q:=by
 rintro _ l u s ⟨⟩ hl hu S
 refine a6 (E5 (typeIs_bytes _ _ _) FB.slot_bytes_getitem.lookup (hs _ _ _) ?_)
 refine getItem_meets (typeIs_bytes _ _ _) (by decide) FB.slot_bytes_getitem FB.entry_bytes_getitem (FB.args_bytes_getitem_2 _ _) (KBc.meets_slice2 _ _ _ hl hu) ⟨Heap.IsSliceOf.new _ _ _ _,?_,fun t' k=>?_⟩
 ·exact Nat.le_trans (KBc.size_picked_le _ lo hi) (by rw[n4,sizeLine_eq];exact Gk hz)
 ·exact⟨_,ρ,H,by rw[eZ];exact .bytes _ _,(S.junk rfl).toks k,h⟩
theorem H1{value slice:Expr}{a:Addr}{b:List UInt8}{lo hi:Option Int}{Q:AV→b0→AH→Prop}(hi':In1 a (.ba b) H) (hz:b.length≤1000000) (h:∀c,Q (.ref c) ρ ((c,.ba (G5 b lo hi))::H))
  (hs:∀(a i:Addr),subscripted slice false (.ref a) (.ref i)=operate [.ref i,.ref a] (getItem (.ref a) (.ref i)):=by intro _ _;with_unfolding_all rfl):Rw w f fx X value slice (.ref a) lo hi ρ H Q:=by
 rintro _ l u s ⟨⟩ hl hu S
 obtain⟨m,news,S₁⟩:=S.junk (o:= { cls:=.type "slice",data:=.fields #[l,u,.none] }) rfl
 refine f9 (S₁.items _ hi'.mem) fun o ho ro=>?_
 obtain rfl:=RepO.inv ro
 refine a6 (E5 (h9 (S₁.nw.get ho)) slot_ba_item.lookup (hs _ _) ?_)
 refine CY (S₁.nw.get ho) (Heap.IsSliceOf.new _ _ _ _) hl hu (Nat.le_trans (KBc.size_picked_le _ lo hi) (by rw[n4,sizeLine_eq];exact Gk hz)) ?_
 refine⟨_,ρ,_,.ref _,⟨m,_,S₁.push (ao:=.ba (G5 b lo hi)) rfl (by rw[eZ];exact .ba _) rfl rfl rfl⟩,h _⟩
end
section
variable{w:World}{f:FI}{fx:Fx}{X:AV→b0→AH→Prop}{ρ:b0}{H:AH}{n:Nat}
noncomputable abbrev KUn(w:World) (f:FI) (fx:Fx) (X:AV→b0→AH→Prop) (op:UnaryOp) (Q:AV→b0→AH→Prop) (v:AV) (ρ:b0) (H:AH):Prop:=∀a,Rep v a→Tr w f fx X Rep (unaryOp op a) ρ H Q
theorem qU{op:UnaryOp}{x:Expr}{pos:Pos}{Q:AV→b0→AH→Prop}(h:Ev w f fx X x ρ H (KUn w f fx X op Q)):Ev w f fx X (.UnaryOp op x pos) ρ H Q:=
 fun s S=>Iq (b6 (h s S) (fun v s₁ ⟨b,ρ₁,H₁,r,S₁,h₁⟩=>h₁ v r s₁ S₁) fun _ _ x=>x)
theorem Iw{i:Int}{Q:AV→b0→AH→Prop}(h:Q (.int (-i)) ρ H):∀a,Rep (.int i) a→Tr w f fx X Rep (unaryOp .USub a) ρ H Q:=by
 refine I5 ?_
 rintro _ s S
 exact a6 (neg_int ⟨_,ρ,H,.int _ _,S.toks _,h⟩)
inductive SM (Q:AV→b0→AH→Prop) (vs:List AV) (ρ:b0) (H:AH):Prop
 | mk (h:vs.length≤1000) (q:∀a,Q (.ref a) ρ ((a,.tup vs)::H))
theorem j3{elts:List Expr}{k:Nat}{pos:Pos}{Q:AV→b0→AH→Prop}(h:Ea w f fx X elts ρ H (SM Q)):Ev w f fx X (.Tuple elts k pos) ρ H Q:=by
 intro s S
 refine Ip (b6 (h pos s S) (fun cvs s₁ hh=>?_) fun _ _ x=>x)
 obtain⟨vs,ρ₁,H₁,rs,⟨m,news,S₁⟩,hz,hQ⟩:=hh
 refine a6 (wpAny_newObj_type (T:= "tuple") (data:=.seq cvs.toArray) ?_ ?_)
 ·exact⟨_,ρ₁,_,.ref _,⟨m,_,S₁.push (ao:=.tup vs) rfl (.tup 0 rs rfl rfl) rfl rfl rfl⟩,hQ _⟩
 ·refine(?_:cvs.toArray.size≤sizeLine)
  have:=rs.len
  rw[List.size_toArray,sizeLine_eq]
  exact Hu this hz
theorem Ix{x:Str}{pos' pos:Pos}{op:Operator}{value:Expr}{v₀:AV}{Q:AF→b0→AH→Prop}(ok:f.Ok) (hx:In1 x (some v₀) ρ)
  (h:Ev w f fx X value ρ H (xI w f fx X (inplaceOp op) v₀ (ER x (Q .next)))):bT w f fx X (.AugAssign (.Name x pos') op value pos) ρ H Q:=by
 rintro s ⟨m,news,S⟩
 refine f9 (S.rho.2 x v₀ hx.mem) fun cv e r=>?_
 have hl:(f.env fx).kindOf x=some .local:=ok.loc x (by rw[← S.rho.1];exact List.mem_map_of_mem (f:=(·.1)) hx.mem)
 refine Dc (a6 (wpAny_loadName_local ok.kind hl S.fr.ns e ?_))
 refine b6 (h s ⟨m,news,S⟩) (fun v s₁ hh=>?_) fun _ _ x=>x
 obtain⟨y,ρ₁,H₁,ry,S₁,h₁⟩:=hh
 refine b6 (h₁ cv v r ry s₁ S₁) (fun z s₂ hh=>?_) fun _ _ x=>x
 obtain⟨z',ρ₂,H₂,rz,⟨m₂,news₂,S₂⟩,ρ₃,hp,hQ⟩:=hh
 exact a6 (r9 ok hp rz S₂ fun h' S'=>⟨_,ρ₃,H₂,.next,S',hQ⟩)
theorem nT{i j:Int}{Q:AV→b0→AH→Prop}(h:Q (.int (i+j)) ρ H):S9 w f fx X (inplaceOp .Add) (.int i) (.int j) ρ H Q:=by
 refine r6 ?_
 rintro _ _ s S
 exact a6 (iadd_int ⟨_,ρ,H,.int _ _,S.toks _,h⟩)
theorem QF{i j:Int}{Q:AV→b0→AH→Prop}(h:Q (.int (Builtin.bitOr i j)) ρ H):S9 w f fx X (inplaceOp .BitOr) (.int i) (.int j) ρ H Q:=by
 refine r6 ?_
 rintro _ _ s S
 exact a6 (ior_int ⟨_,ρ,H,.int _ _,S.toks _,h⟩)
theorem dG{e:Expr}{pos:Pos}{Q:AF→b0→AH→Prop}(h:Ev w f fx X e ρ H (BQ (Q .next))) (hi:autoParam (interactive (f.env fx)=false) kR) (hs:autoParam (swapsWith e none pos.line (f.env fx)=pure false) kR):bT w f fx X (.Expr e pos) ρ H Q:=
 fun s S=>GU hi hs (b6 (h s S) (fun v s₁ ⟨b,ρ₁,H₁,r,S₁,hb,hQ⟩=>by subst hb;obtain rfl:=Rep.inv r;exact⟨(fun _=>by intro z;cases z),_,ρ₁,H₁,.next,S₁,hQ⟩) fun _ _ x=>x)
end
section
variable{w:World}{f:FI}{fx:Fx}{X:AV→b0→AH→Prop}{ρ:b0}{H:AH}{n:Nat}
inductive SN (Q:AV→b0→AH→Prop) (vs:List AV) (ρ:b0) (H:AH):Prop
 | mk (h:vs.length≤1000) (q:∀a,Q (.ref a) ρ ((a,.list vs)::H))
theorem w9{elts:List Expr}{pos:Pos}{Q:AV→b0→AH→Prop}(h:Ea w f fx X elts ρ H (SN Q)):Ev w f fx X (.List elts pos) ρ H Q:=by
 intro s S
 refine QA (b6 (h pos s S) (fun cvs s₁ hh=>?_) fun _ _ x=>x)
 obtain⟨vs,ρ₁,H₁,rs,⟨m,news,S₁⟩,hz,hQ⟩:=hh
 refine a6 (wpAny_newObj_type (T:= "list") (data:=.seq cvs.toArray) ?_ ?_)
 ·exact⟨_,ρ₁,_,.ref _,⟨m,_,S₁.push (ao:=.list vs) rfl (.list 0 rs rfl rfl) rfl rfl rfl⟩,hQ _⟩
 ·refine(?_:cvs.toArray.size≤sizeLine)
  have:=rs.len
  rw[List.size_toArray,sizeLine_eq]
  exact Hu this hz
noncomputable abbrev Tb(w:World) (f:FI) (fx:Fx) (X:AV→b0→AH→Prop) (op:BoolOp) (es:List Expr) (ρ:b0) (H:AH) (Q:Bool→b0→AH→Prop):Prop:=Tr w f fx X Eq (allTrue op es (f.env fx)) ρ H Q
theorem v8{op:BoolOp}{es:List Expr}{pos:Pos}{Q:Bool→b0→AH→Prop}(h:Tb w f fx X op es ρ H Q):Te w f fx X (.BoolOp op es pos) ρ H Q:=fun s S=>Au (h s S)
theorem fB{Q:Bool→b0→AH→Prop}(h:Q true ρ H):Tb w f fx X .And [] ρ H Q:=fun s S=>FC ⟨_,ρ,H,rfl,S,h⟩
theorem I9{Q:Bool→b0→AH→Prop}(h:Q false ρ H):Tb w f fx X .Or [] ρ H Q:=fun s S=>Ir ⟨_,ρ,H,rfl,S,h⟩
noncomputable abbrev SO(w:World) (f:FI) (fx:Fx) (X:AV→b0→AH→Prop) (es:List Expr) (Q:Bool→b0→AH→Prop) (b:Bool) (ρ:b0) (H:AH):Prop:=match b with |true=>Tb w f fx X .And es ρ H Q |false=>Q false ρ H
noncomputable abbrev KOr(w:World) (f:FI) (fx:Fx) (X:AV→b0→AH→Prop) (es:List Expr) (Q:Bool→b0→AH→Prop) (b:Bool) (ρ:b0) (H:AH):Prop:=match b with |true=>Q true ρ H |false=>Tb w f fx X .Or es ρ H Q
theorem x7{x:Expr}{es:List Expr}{Q:Bool→b0→AH→Prop}(h:Te w f fx X x ρ H (SO w f fx X es Q)):Tb w f fx X .And (x::es) ρ H Q:=by
 intro s S
 refine De (b6 (h s S) (fun b s₁ hh=>?_) fun _ _ x=>x)
 obtain⟨b',ρ₁,H₁,rfl,S₁,h₁⟩:=hh
 cases b' with
 | true=>exact h₁ s₁ S₁
 | false=>exact⟨_,ρ₁,H₁,rfl,S₁,h₁⟩
theorem M7{x:Expr}{es:List Expr}{Q:Bool→b0→AH→Prop}(h:Te w f fx X x ρ H (KOr w f fx X es Q)):Tb w f fx X .Or (x::es) ρ H Q:=by
 intro s S
 refine FD (b6 (h s S) (fun b s₁ hh=>?_) fun _ _ x=>x)
 obtain⟨b',ρ₁,H₁,rfl,S₁,h₁⟩:=hh
 cases b' with
 | true=>exact⟨_,ρ₁,H₁,rfl,S₁,h₁⟩
 | false=>exact h₁ s₁ S₁
theorem xV{i:Int}{Q:Bool→b0→AH→Prop}(h:Q (i != 0) ρ H):xH w f fx X (.int i) ρ H Q:=by
 refine I5 ?_
 rintro _ s S
 exact a6 (truthy_int ⟨_,ρ,H,rfl,S,h⟩)
end
section
variable{w:World}{f:FI}{fx:Fx}{X:AV→b0→AH→Prop}{ρ:b0}{H:AH}{n:Nat}
noncomputable abbrev Tc(w:World) (f:FI) (fx:Fx) (X:AV→b0→AH→Prop) (left:AV) (ops:List CmpOp) (es:List Expr) (ρ:b0) (H:AH) (Q:Bool→b0→AH→Prop):Prop:=∀a pos,Rep left a→Tr w f fx X Eq (testChain pos a ops (evalEach es (f.env fx))) ρ H Q
noncomputable abbrev KTc(w:World) (f:FI) (fx:Fx) (X:AV→b0→AH→Prop) (ops:List CmpOp) (es:List Expr) (Q:Bool→b0→AH→Prop) (x:AV) (ρ:b0) (H:AH):Prop:=Tc w f fx X x ops es ρ H Q
noncomputable abbrev SP(w:World) (f:FI) (fx:Fx) (X:AV→b0→AH→Prop) (ops:List CmpOp) (es:List Expr) (y:AV) (Q:Bool→b0→AH→Prop) (t:Bool) (ρ:b0) (H:AH):Prop:=match t with |true=>Tc w f fx X y ops es ρ H Q |false=>Q false ρ H
noncomputable abbrev SQ(w:World) (f:FI) (fx:Fx) (X:AV→b0→AH→Prop) (op:CmpOp) (left:AV) (ops:List CmpOp) (es:List Expr) (Q:Bool→b0→AH→Prop) (y:AV) (ρ:b0) (H:AH):Prop:=S9 w f fx X (compareOp op) left y ρ H (EQ w f fx X (SP w f fx X ops es y Q))
theorem fC{l:Expr}{ops:List CmpOp}{es:List Expr}{p:Pos}{Q:Bool→b0→AH→Prop}(hm:markedEach ops es (evalEach es (f.env fx))=evalEach es (f.env fx)) (h:Ev w f fx X l ρ H (KTc w f fx X ops es Q)):Te w f fx X (.Compare l ops es p) ρ H Q:=by
 intro s S
 rw[arm_isTrue_Compare,hm]
 exact a7 (b6 (h s S) (fun a s₁ ⟨x,ρ₁,H₁,rx,S₁,h₁⟩=>h₁ a p rx s₁ S₁) fun _ _ x=>x)
theorem nU{left:AV}{op:CmpOp}{e:Expr}{Q:Bool→b0→AH→Prop}(h:Ev w f fx X e ρ H (xI w f fx X (compareOp op) left (EQ w f fx X Q))):Tc w f fx X left [op] [e] ρ H Q:=by
 intro a pos ra s S
 refine FE (b6 (h s S) (fun v s₁ hh=>?_) fun _ _ x=>x)
 obtain⟨y,ρ₁,H₁,ry,S₁,h₁⟩:=hh
 exact b6 (h₁ a v ra ry s₁ S₁) (fun c s₂ ⟨z,ρ₂,H₂,rz,S₂,h₂⟩=>h₂ c rz s₂ S₂) fun _ _ x=>x
theorem dH{left:AV}{op op':CmpOp}{ops:List CmpOp}{e e':Expr}{es:List Expr}{Q:Bool→b0→AH→Prop}(h:Ev w f fx X e ρ H (SQ w f fx X op left (op'::ops) (e'::es) Q)):Tc w f fx X left (op::op'::ops) (e::e'::es) ρ H Q:=by
 intro a pos ra s S
 refine vO (b6 (h s S) (fun v s₁ hh=>?_) fun _ _ x=>x)
 obtain⟨y,ρ₁,H₁,ry,S₁,h₁⟩:=hh
 refine b6 (h₁ a v ra ry s₁ S₁) (fun c s₂ hh=>?_) fun _ _ x=>x
 obtain⟨z,ρ₂,H₂,rz,S₂,h₂⟩:=hh
 refine b6 (h₂ c rz s₂ S₂) (fun t s₃ hh=>?_) fun _ _ x=>x
 obtain⟨t',ρ₃,H₃,rfl,S₃,h₃⟩:=hh
 cases t' with
 | true=>exact h₃ v pos ry s₃ S₃
 | false=>exact⟨_,ρ₃,H₃,rfl,S₃,h₃⟩
end
section
variable{w:World}{f:FI}{fx:Fx}{X:AV→b0→AH→Prop}{ρ:b0}{H:AH}{n:Nat}
noncomputable def AV.isNone:AV→Bool
 | .none=>true
 | .lit v=>v == .none
 | _=>false
theorem iP{A:Around}{E:Value→Shared→Prop}{s:Shared}{x:AV}{a:Value}{Q:Bool→Shared→Prop}(r:Rep x a) (hx:∀v,x≠.lit v) (h:Q x.isNone s):wpAny (model pw w) A (isSame a .none) Q E s:=by
 cases r <;> first |exact fun _ _ _=>h |exact absurd rfl (hx _)
theorem i8{x:AV}{Q:AV→b0→AH→Prop}(hx:∀v,x≠.lit v) (h:Q (.bool x.isNone) ρ H):S9 w f fx X (compareOp .Is) x .none ρ H Q:=by
 rintro a _ r ⟨⟩ s S
 exact a6 (wpAny_bind (iP r hx (wpAny_pure ⟨_,ρ,H,.bool _,S,h⟩)))
theorem g8{x:AV}{Q:AV→b0→AH→Prop}(hx:∀v,x≠.lit v) (h:Q (.bool (!x.isNone)) ρ H):S9 w f fx X (compareOp .IsNot) x .none ρ H Q:=by
 rintro a _ r ⟨⟩ s S
 exact a6 (wpAny_bind (iP r hx (wpAny_pure ⟨_,ρ,H,.bool _,S,h⟩)))
end
section
variable{w:World}{f:FI}{fx:Fx}{X:AV→b0→AH→Prop}{ρ:b0}{H:AH}{n:Nat}
noncomputable abbrev SR(w:World) (f:FI) (fx:Fx) (X:AV→b0→AH→Prop) (attr:Str) (x:AV) (Q:b0→AH→Prop) (z:AV) (ρ:b0) (H:AH):Prop:=gK w f fx X x attr z ρ H Q
noncomputable abbrev SS(w:World) (f:FI) (fx:Fx) (X:AV→b0→AH→Prop) (value:Expr) (attr:Str) (op:Operator) (x:AV) (Q:b0→AH→Prop) (y:AV) (ρ:b0) (H:AH):Prop:=Ev w f fx X value ρ H (xI w f fx X (inplaceOp op) y (SR w f fx X attr x Q))
noncomputable abbrev KAA(w:World) (f:FI) (fx:Fx) (X:AV→b0→AH→Prop) (value:Expr) (attr:Str) (op:Operator) (Q:b0→AH→Prop) (x:AV) (ρ:b0) (H:AH):Prop:=yW w f fx X x attr ρ H (SS w f fx X value attr op x Q)
theorem O7{o value:Expr}{attr:Str}{tpos pos:Pos}{op:Operator}{Q:AF→b0→AH→Prop}
  (h:Ev w f fx X o ρ H (KAA w f fx X value attr op (Q .next))) :
  bT w f fx X (.AugAssign (.Attribute o attr tpos) op value pos) ρ H Q:=by
 intro s S
 refine Dd (b6 (h s S) (fun a s₁ hh=>?_) fun _ _ x=>x)
 obtain⟨x,ρ₁,H₁,rx,S₁,h₁⟩:=hh
 refine b6 (h₁ a rx s₁ S₁) (fun b s₂ hh=>?_) fun _ _ x=>x
 obtain⟨y,ρ₂,H₂,ry,S₂,h₂⟩:=hh
 refine b6 (h₂ s₂ S₂) (fun c s₃ hh=>?_) fun _ _ x=>x
 obtain⟨v,ρ₃,H₃,rv,S₃,h₃⟩:=hh
 refine b6 (h₃ b c ry rv s₃ S₃) (fun d s₄ hh=>?_) fun _ _ x=>x
 obtain⟨z,ρ₄,H₄,rz,S₄,h₄⟩:=hh
 refine b6 (h₄ a d rx rz s₄ S₄) (fun u s₅ hh=>?_) fun _ _ x=>x
 obtain⟨_,ρ₅,H₅, -,S₅,h₅⟩:=hh
 exact⟨_,ρ₅,H₅,.next,S₅,h₅⟩
end
section
variable{w:World}{f:FI}{fx:Fx}{X:AV→b0→AH→Prop}{ρ:b0}{H:AH}{n:Nat}
theorem Dn{a b:Int}{Q:AV→b0→AH→Prop}(hh:fx.A.handled=none) (h:Q (.int (if b<a then b else a)) ρ H):E4 w f fx X "min" [.int a,.int b] ρ H Q:=by
 refine y8 ?_
 rintro _ _ s ⟨m,news,S⟩
 exact a6 (min_two_N hh S.fr S.nw fun h' tk F' N'=>⟨_,ρ,H,.int _ _,⟨m,news,F',N',S.rho,S.items,S.keys,S.nodup,S.gens,S.os⟩,h⟩)
theorem Iy{a:Int}{Q:AV→b0→AH→Prop}(h:Q (.int (if a<0 then -a else a)) ρ H):E4 w f fx X "abs" [.int a] ρ H Q:=by
 refine y8 ?_
 rintro _ s S
 exact a6 (call_abs_int fun u tk=>⟨_,ρ,H,.int _ _,S.toks _,h⟩)
end
section
open Sem (wp)
section
variable{w:World}{f:FI}{fx:Fx}{X:AV→b0→AH→Prop}{ρ:b0}{H:AH}{n:Nat}
theorem All2.get{α β:Type}{R:α→β→Prop}{as:List α}{bs:List β}(q:All2 R as bs) (i:Nat) (a:α) (e:as[i]?=some a):∃b,bs[i]?=some b∧R a b:=by
 induction q generalizing i with
 | nil=>cases e
 | cons h _ ih=>
  cases i with
  | zero=>cases e;exact⟨_,rfl,h⟩
  | succ i=>exact ih i (by simpa using e)
theorem All2.set{α β:Type}{R:α→β→Prop}{a:α}{b:β}(hr:R a b) {as:List α}{bs:List β}(q:All2 R as bs) (i:Nat):All2 R (as.set i a) (bs.set i b):=by
 induction q generalizing i with
 | nil=>exact .nil
 | cons h r ih=>
  cases i with
  | zero=>exact .cons hr r
  | succ i=>exact .cons h (ih i)
theorem All2.app{α β:Type}{R:α→β→Prop}{as as':List α}{bs bs':List β}(h:All2 R as bs) (h':All2 R as' bs'):All2 R (as++as') (bs++bs'):=by
 induction h with
 | nil=>exact h'
 | cons a _ ih=>exact .cons a ih
theorem Sat'.listAt{s:Shared}{m:GM fx}{news:List (Addr×Obj)}{a:Addr}{xs:List AV}(S:Sat' f fx ρ H s m news) (h:In1 a (.list xs) H):∃vs o,All2 Rep xs vs∧(a,o)∈news∧s.heap.IsList a vs.toArray:=by
 refine f9 (S.items _ h.mem) fun o h1 h2=>?_
 cases h2 with
 | list k r q1 q2=>exact⟨_,_,r,h1,_,S.freed h1,q1,_,q2⟩
theorem Sat'.tupAt{s:Shared}{m:GM fx}{news:List (Addr×Obj)}{a:Addr}{xs:List AV}(S:Sat' f fx ρ H s m news) (h:In1 a (.tup xs) H):∃vs o,All2 Rep xs vs∧(a,o)∈news∧IsTup s.heap a vs.toArray:=by
 refine f9 (S.items _ h.mem) fun o h1 h2=>?_
 cases h2 with
 | tup k r q1 q2=>exact⟨_,_,r,h1,_,S.freed h1,q1,_,q2⟩
theorem qV:typeLookup (.type "list") "__getitem__" = pure (some (.builtin "list.__getitem__")):=by rw[typeLookup_type,builtinLookup_eq_fast];kernel_rfl
theorem fD:typeLookup (.type "tuple") "__getitem__" = pure (some (.builtin "tuple.__getitem__")):=by rw[typeLookup_type,builtinLookup_eq_fast];kernel_rfl
theorem C6{value slice:Expr}{a:Addr}{xs:List AV}{i:Int}{v:AV}{Q:AV→b0→AH→Prop}(hi:In1 a (.list xs) H) (h0:0≤i) (h1:i<1000000) (hv:xs[i.toNat]?=some v) (h:Q v ρ H)
  (hs:∀(a:Addr) (i:Int) t,subscripted slice false (.ref a) (.int i t)=operate [.ref a,.int i t] (getItem (.ref a) (.int i t)):=by intro _ _ _;with_unfolding_all rfl):Ax w f fx X value slice (.ref a) (.int i) ρ H Q:=by
 refine r6 ?_
 intro _ s hz90;obtain⟨m,news,S⟩:=hz90
 refine p8 (S.listAt hi) fun vs k r h2 h3=>?_
 refine f9 (r.get _ _ hv) fun cv h4 h5=>?_
 exact a6 (E5 h3.typeIs qV (hs _ _ _) (getItem_listL h3 h0 (by exact Ng h1) h4 ⟨v,ρ,H,h5,⟨m,news,S⟩,h⟩))
theorem xW{value slice:Expr}{a:Addr}{xs:List AV}{i:Int}{v:AV}{Q:AV→b0→AH→Prop}(hi:In1 a (.tup xs) H) (h0:0≤i) (h1:i<xs.length) (hz:xs.length≤1000) (hv:xs[i.toNat]?=some v) (h:Q v ρ H)
  (hs:∀(a:Addr) (i:Int) t,subscripted slice false (.ref a) (.int i t)=operate [.ref a,.int i t] (getItem (.ref a) (.int i t)):=by intro _ _ _;with_unfolding_all rfl):Ax w f fx X value slice (.ref a) (.int i) ρ H Q:=by
 refine r6 ?_
 intro _ s hz90;obtain⟨m,news,S⟩:=hz90
 refine p8 (S.tupAt hi) fun vs k r h2 h3=>?_
 refine f9 (r.get _ _ hv) fun cv h4 h5=>?_
 have hl:=r.len
 refine a6 (E5 h3.typeIs fD (hs _ _ _) (getItem_tuple (j:=i.toNat) h3 (by exact Jt h0) (by exact JZ h1 hz) ?_ (by simpa using h4) ⟨v,ρ,H,h5,⟨m,news,S⟩,h⟩))
 have hn:¬ i<0:=by exact Hs h0
 have hz':i<(vs.length:Int):=by exact JY h1 hl
 simp [seqIndex?,hn,h0,hz']
noncomputable def iQ(P:Params) (a:Addr):Option (List Value):=match(KG P).lookup a with
 | some ⟨.type "tuple",_,.seq vs _,_⟩=>some vs.toList
 | _=>none
theorem nV{P:Params}{h:Heap}{a:Addr}{vs:List Value}(X:Frag.In (KG P) h) (e:iQ P a=some vs):IsTup h a vs.toArray:=by
 unfold iQ at e
 split at e
 ·rename_i d xs k sl ho
  cases e
  exact⟨_,X _ _ ho,rfl,k,by simp⟩
 ·cases e
theorem Do{value slice:Expr}{a:Addr}{vs:List Value}{i:Int}{cv:Value}{v:AV}{Q:AV→b0→AH→Prop}(c:Cx w f fx n) (ht:iQ w.params a=some vs) (h0:0≤i) (h1:i<vs.length) (hz:vs.length≤1000) (hv:vs[i.toNat]?=some cv) (hr:GV v cv) (h:Q v ρ H)
  (hs:∀(a:Addr) (i:Int) t,subscripted slice false (.ref a) (.int i t)=operate [.ref a,.int i t] (getItem (.ref a) (.int i t)):=by intro _ _ _;with_unfolding_all rfl):Ax w f fx X value slice (.ref a) (.int i) ρ H Q:=by
 refine r6 ?_
 intro _ s hz90;obtain⟨m,news,S⟩:=hz90
 have h3:=nV (S.KH c) ht
 refine a6 (E5 h3.typeIs fD (hs _ _ _) (getItem_tuple (j:=i.toNat) h3 (by exact Jt h0) (by exact JZ h1 hz) ?_ (by simpa using hv) ⟨v,ρ,H,hr.rep,⟨m,news,S⟩,h⟩))
 have hn:¬ i<0:=by exact Hs h0
 have hz':i<(vs.length:Int):=by assumption
 simp [seqIndex?,hn,h0,hz']
noncomputable abbrev GW(w:World) (f:FI) (fx:Fx) (X:AV→b0→AH→Prop) (t:Expr) (v:AV) (ρ:b0) (H:AH) (Q:b0→AH→Prop):Prop:=∀a,Rep v a→Tr w f fx X (Eq (α:=Unit)) (assign t (f.env fx) a) ρ H fun _=>Q
theorem D7{x:Str}{p:Pos}{v:AV}{ρ':b0}{Q:b0→AH→Prop}(ok:f.Ok) (hp:Put1 x (some v) ρ ρ') (h:Q ρ' H):GW w f fx X (.Name x p) v ρ H Q:=by
 intro a r s hz90;obtain⟨m,news,S⟩:=hz90
 exact a6 (wpAny_assign_Name (r9 ok hp r S fun h' S'=>⟨(),ρ',H,rfl,S',h⟩))
inductive ST (v x:AV) (Q:b0→AH→Prop) (k:AV) (ρ:b0) (H:AH):Prop
 | mk (a:Addr) (xs:List AV) (j:Int) (H₃:AH) (e1:x=.ref a) (e2:k=.int j) (i:In1 a (.list xs) H) (p:Put1 a (.list (xs.set j.toNat v)) H H₃) (h0:0≤j) (h1:j<xs.length) (hl:xs.length≤1000000) (q:Q ρ H₃)
noncomputable abbrev KSt(w:World) (f:FI) (fx:Fx) (X:AV→b0→AH→Prop) (i:Expr) (v:AV) (Q:b0→AH→Prop) (x:AV) (ρ:b0) (H:AH):Prop:=Ev w f fx X i ρ H (ST v x Q)
theorem Dp{o i:Expr}{p:Pos}{v:AV}{Q:b0→AH→Prop}(h:Ev w f fx X o ρ H (KSt w f fx X i v Q))
  (he:autoParam (∀a,assign (.Subscript o i p) (f.env fx) a=(do
   let ov ← holding [a] (eval o (f.env fx))
   let iv ← holding [a,ov] (eval i (f.env fx))
   standAt p
   holding [a,ov,iv] (setItem ov iv a)
   release (match i with | .Slice _ _ none _=>[iv,a,ov] |_=>[a,ov,iv]) [])) kI):GW w f fx X (.Subscript o i p) v ρ H Q:=by
 intro a r s S
 rw[he]
 refine a7 (c0 (b6 (h s S) (fun ov s₁ hh=>?_) fun _ _ x=>x))
 obtain⟨x,ρ₁,H₁,rx,S₁,h₁⟩:=hh
 refine a7 (c0 (b6 (h₁ s₁ S₁) (fun iv s₂ hh=>?_) fun _ _ x=>x))
 obtain⟨k,ρ₂,H₂,rk,⟨m,news,S₂⟩,a',xs,j,H₃,rfl,rfl,hi,hp,h0,h1,hz,hQ⟩:=hh
 obtain rfl:=Rep.inv rx
 refine oE (Rep.inv rk) fun _ zq1=>?_;subst zq1
 refine p8 (S₂.listAt hi) fun vs k' rr h2 h3=>?_
 have hl:=rr.len
 refine a7 (c3 (a7 (c0 (a6 (wpAny_setItem_list h3 h0 (by exact Po h1 hz) (by simp;exact JY h1 hl) fun h' hl' hs'=>?_)))))
 refine pK (hl') fun o' ho' hc' k'' hd'=>?_
 refine G8 ⟨(),ρ₂,H₃,rfl,?_,hQ⟩
 exact S₂.moved (s':= { s₂ with heap:=h' }) h2 hp (.list (vs:=vs.set j.toNat a) k'' (rr.set r _) hc' (by rw[hd'];simp)) ho' (fun b ob hb e=>(hs'.2 b hb).trans e) rfl rfl
noncomputable abbrev Dq(w:World) (f:FI) (fx:Fx) (X:AV→b0→AH→Prop) (ts:List Expr) (vs:List AV) (ρ:b0) (H:AH) (Q:b0→AH→Prop):Prop:=∀cvs,All2 Rep vs cvs→Tr w f fx X (Eq (α:=Unit)) (assignInOrder ((assignEach ts (f.env fx)).map (·.2)) cvs) ρ H fun _=>Q
theorem C1{Q:b0→AH→Prop}(h:Q ρ H):Dq w f fx X [] [] ρ H Q:=by
 rintro _ ⟨⟩ s S
 exact b7 ⟨(),ρ,H,rfl,S,h⟩
noncomputable abbrev KAl(w:World) (f:FI) (fx:Fx) (X:AV→b0→AH→Prop) (ts:List Expr) (vs:List AV) (Q:b0→AH→Prop)  (ρ:b0) (H:AH):Prop:=Dq w f fx X ts vs ρ H Q
theorem d8{t:Expr}{ts:List Expr}{v:AV}{vs:List AV}{Q:b0→AH→Prop}(h:GW w f fx X t v ρ H (KAl w f fx X ts vs Q))
  (he:autoParam (assignEach (t::ts) (f.env fx)=(false,assign t (f.env fx))::assignEach ts (f.env fx)) kK):Dq w f fx X (t::ts) (v::vs) ρ H Q:=by
 rintro _ (_ | ⟨r,rs⟩) s S
 rename_i cv cvs
 rw[he]
 refine(?_:c8 _ _ (assignInOrder (assign t (f.env fx)::(assignEach ts (f.env fx)).map (·.2)) (cv::cvs)) _ _ _)
 unfold assignInOrder
 have step:c8 (model pw w) fx.A (assign t (f.env fx) cv) (fun _ s₁=>c8 (model pw w) fx.A (assignInOrder ((assignEach ts (f.env fx)).map (·.2)) cvs) (pY f fx Eq fun _=>Q) (gG f fx X) s₁)
   (gG f fx X) s:=by
  refine b6 (h cv r s S) (fun u s₁ hh=>?_) fun _ _ x=>x
  obtain⟨_,ρ₁,H₁, -,S₁,h₁⟩:=hh
  exact h₁ cvs rs s₁ S₁
 first
  | exact a7 step
  | exact a7 (c0 step)
  | (refine c0 ?_;exact a7 step)
  | trace_state
end
end
section
open Sem (wp)
section
variable{w:World}{f:FI}{fx:Fx}{X:AV→b0→AH→Prop}{ρ:b0}{H:AH}{n:Nat}
theorem fE{E:Value→Shared→Prop}{A:Around}{s:Shared}{a:Addr}{vs:List AV}{k:Nat}{Q:List Value→Shared→Prop}(hh:A.handled=none) (S:Sat f fx ρ H s) (hi:In1 a (.tup vs) H) (hk:k=vs.length)
  (h:∀h' cvs,All2 Rep vs cvs→Sat f fx ρ H { s with heap:=h' }→Q cvs { s with heap:=h' }):wpAny (model pw w) A (unpackItems (.ref a) k none) Q E s:=by
 obtain⟨m,news,S⟩:=S
 refine p8 (S.tupAt hi) fun cvs o r h1 h2=>?_
 refine unpackItemsN_ S.fr S.nw h2 hh (by rw[hk,List.size_toArray,r.len]) fun h' F' N'=>?_
 exact h h' _ r ⟨m,news,F',N',S.rho,S.items,S.keys,S.nodup,S.gens,S.os⟩
inductive SU (w:World) (f:FI) (fx:Fx) (X:AV→b0→AH→Prop) (elts:List Expr) (Q:b0→AH→Prop) (v:AV) (ρ:b0) (H:AH):Prop
 | mk (a:Addr) (vs:List AV) (e:v=.ref a) (i:In1 a (.tup vs) H) (hl:elts.length=vs.length) (q:Dq w f fx X elts vs ρ H Q)
theorem g9{elts:List Expr}{k:Nat}{tpos pos:Pos}{value:Expr}{Q:AF→b0→AH→Prop}(hh:fx.A.handled=none)
  (h:Ev w f fx X value ρ H (SU w f fx X elts (Q .next)))
  (hs:autoParam (swapsWithSole [.Tuple elts k tpos] value pos.line (f.env fx)=pure false) kR)
  (hw:autoParam (swappedStores [.Tuple elts k tpos] value (f.env fx)=pure none) kR)
  (hl:autoParam ((assignEach elts (f.env fx)).length=elts.length) kR) (hf:autoParam ((assignEach elts (f.env fx)).findIdx? (·.1)=none) kR):bT w f fx X (.Assign [.Tuple elts k tpos] value pos) ρ H Q:=by
 intro s S
 rw[exec_Assign]
 refine a7 (c3 ?_)
 rw[hs]
 refine a7 (b7 ?_)
 rw[if_neg (by decide)]
 refine a7 (b6 (h s S) (fun v s₁ hh'=>?_) fun _ _ x=>x)
 obtain⟨b,ρ₁,H₁,r,S₁,a,vs,rfl,hi,hl2,h₁⟩:=hh'
 obtain rfl:=Rep.inv r
 rw[hw]
 refine a7 (b7 ?_)
 show c8 _ _ (do assignAll (.ref a) [assign (.Tuple elts k tpos) (f.env fx)];pure Flow.next) _ _ s₁
 refine a7 ?_
 refine(?_:c8 _ _ (assign (.Tuple elts k tpos) (f.env fx) (.ref a)) _ _ s₁)
 rw[assign_Tuple]
 refine a7 (c3 ?_)
 unfold unpack
 rw[hf]
 refine a7 (c0 (a6 (fE hh S₁ hi (hl.trans hl2) fun h' cvs rs S₂=>?_)))
 refine b6 (h₁ cvs rs _ S₂) (fun u s₃ q=>?_) fun _ _ x=>x
 obtain⟨_,ρ₃,H₃, -,S₃,h₃⟩:=q
 exact b7 ⟨.next,ρ₃,H₃,.next,S₃,h₃⟩
noncomputable abbrev xX(w:World) (f:FI) (fx:Fx) (X:AV→b0→AH→Prop) (xs:List Str) (vs:List AV) (ρ:b0) (H:AH) (Q:b0→AH→Prop):Prop:=∀cvs,All2 Rep vs cvs→Tr w f fx X (Eq (α:=Unit)) (assignInOrder (xs.map fun n=>bindName (f.env fx) n) cvs) ρ H fun _=>Q
theorem O8{Q:b0→AH→Prop}(h:Q ρ H):xX w f fx X [] [] ρ H Q:=by
 rintro _ ⟨⟩ s S
 exact b7 ⟨(),ρ,H,rfl,S,h⟩
theorem H3{x:Str}{xs:List Str}{v:AV}{vs:List AV}{ρ':b0}{Q:b0→AH→Prop}(ok:f.Ok) (hp:Put1 x (some v) ρ ρ') (h:xX w f fx X xs vs ρ' H Q):xX w f fx X (x::xs) (v::vs) ρ H Q:=by
 rintro _ (_ | ⟨r,rs⟩) s ⟨m,news,S⟩
 rename_i cv cvs
 show c8 _ _ (do holding cvs (bindName (f.env fx) x cv);assignInOrder (xs.map fun n=>bindName (f.env fx) n) cvs) _ _ _
 exact a7 (c0 (D5 (a6 (r9 ok hp r S fun h' S'=>h cvs rs _ S'))))
theorem All2.rev{α β:Type}{R:α→β→Prop}{as:List α}{bs:List β}(h:All2 R as bs):All2 R as.reverse bs.reverse:=by
 induction h with
 | nil=>exact .nil
 | cons a _ ih=>rw[List.reverse_cons,List.reverse_cons];exact ih.app (.cons a .nil)
inductive SV (w:World) (f:FI) (fx:Fx) (X:AV→b0→AH→Prop) (names:List Str) (Q:b0→AH→Prop) (v:AV) (ρ:b0) (H:AH):Prop
 | mk (a:Addr) (vs:List AV) (e:v=.ref a) (i:In1 a (.tup vs) H) (hl:names.length=vs.length) (q:xX w f fx X names.reverse vs.reverse ρ H Q)
theorem n5{elts:List Expr}{names:List Str}{k:Nat}{tpos pos:Pos}{value:Expr}{Q:AF→b0→AH→Prop}(hh:fx.A.handled=none)
  (h:Ev w f fx X value ρ H (SV w f fx X names (Q .next)))
  (hs:autoParam (swapsWithSole [.Tuple elts k tpos] value pos.line (f.env fx)=pure false) kR)
  (hw:autoParam (swappedStores [.Tuple elts k tpos] value (f.env fx)=pure (some names)) kR):bT w f fx X (.Assign [.Tuple elts k tpos] value pos) ρ H Q:=by
 intro s S
 rw[exec_Assign]
 refine a7 (c3 ?_)
 rw[hs]
 refine a7 (b7 ?_)
 rw[if_neg (by decide)]
 refine a7 (b6 (h s S) (fun v s₁ hh'=>?_) fun _ _ x=>x)
 obtain⟨b,ρ₁,H₁,r,S₁,a,vs,rfl,hi,hl2,h₁⟩:=hh'
 obtain rfl:=Rep.inv r
 rw[hw]
 refine a7 (b7 ?_)
 show c8 _ _ (do rule "assign.swapped-stores";let items ← unpackItems (.ref a) names.length none;assignInOrder (names.reverse.map fun n=>bindName (f.env fx) n) items.reverse;pure Flow.next) _ _ s₁
 refine a7 (a6 (wpAny_rule ?_))
 refine a7 (a6 (fE hh S₁ hi hl2 fun h' cvs rs S₂=>?_))
 refine a7 (b6 (h₁ cvs.reverse rs.rev _ S₂) (fun u s₃ q=>?_) fun _ _ x=>x)
 obtain⟨_,ρ₃,H₃, -,S₃,h₃⟩:=q
 exact b7 ⟨.next,ρ₃,H₃,.next,S₃,h₃⟩
noncomputable abbrev SW(w:World) (f:FI) (fx:Fx) (X:AV→b0→AH→Prop) (t:Expr) (Q:b0→AH→Prop) (v:AV) (ρ:b0) (H:AH):Prop:=GW w f fx X t v ρ H Q
theorem Ay{o i value:Expr}{p pos:Pos}{Q:AF→b0→AH→Prop}(h:Ev w f fx X value ρ H (SW w f fx X (.Subscript o i p) (Q .next)))
  (hs:autoParam (swapsWith value (some (.Subscript o i p)) pos.line (f.env fx)=pure false) kR):bT w f fx X (.Assign [.Subscript o i p] value pos) ρ H Q:=by
 intro s S
 rw[exec_Assign_Subscript o i p value pos hs]
 refine a7 (c3 (a7 (b6 (h s S) (fun v s₁ hh'=>?_) fun _ _ x=>x)))
 obtain⟨b,ρ₁,H₁,r,S₁,h₁⟩:=hh'
 refine a7 (b6 (h₁ v r s₁ S₁) (fun u s₃ q=>?_) fun _ _ x=>x)
 obtain⟨_,ρ₃,H₃, -,S₃,h₃⟩:=q
 exact b7 ⟨.next,ρ₃,H₃,.next,S₃,h₃⟩
end
end
section
open Sem (wp)
section
variable{w:World}{f:FI}{fx:Fx}{X:AV→b0→AH→Prop}{ρ:b0}{H:AH}{n:Nat}
variable{XR:Addr→Addr→Option Addr→Addr→AH→Prop}
noncomputable abbrev xY(w:World) (f:FI) (fx:Fx) (X:AV→b0→AH→Prop):Prop:=∀e s,gG f fx X e s→
 D1 (model pw w) fx.A (f.env fx) (fun e s'=>M5 (model pw w) fx.A (f.env fx) (gG f fx X) e s') e s
theorem K8:xY w f fx (fun _ _ _=>False):=fun _ _ ⟨_,_,_,_,_,z⟩=>z.elim
noncomputable abbrev KWh(I:Nat→b0→AH→Prop) (k:Nat) (Q:AF→b0→AH→Prop) (fl:AF) (ρ:b0) (H:AH):Prop:=match fl with
 | .next | .cont=>∃m,m<k∧I m ρ H
 | .brk=>Q .next ρ H
 | .ret v=>Q (.ret v) ρ H
noncomputable abbrev KWt(w:World) (f:FI) (fx:Fx) (X:AV→b0→AH→Prop) (body:List Stmt) (I:Nat→b0→AH→Prop) (k:Nat) (Q:AF→b0→AH→Prop) (b:Bool) (ρ:b0) (H:AH):Prop:=match b with
 | true=>Ex w f fx X body ρ H (KWh I k Q)
 | false=>Q .next ρ H
theorem J0{t:Expr}{body:List Stmt}{pos:Pos}{Q:AF→b0→AH→Prop}(hX:xY w f fx X) (I:Nat→b0→AH→Prop) (k₀:Nat) (h₀:I k₀ ρ H)
  (turn:∀k ρ H,I k ρ H→Te w f fx X t ρ H (KWt w f fx X body I k Q)):bT w f fx X (.While t body [] pos) ρ H Q:=by
 intro s S
 refine Ia ?_
 refine uL (fun k s'=>∃ρ H,Sat f fx ρ H s'∧I k ρ H) (fun k s' hI=>?_) k₀ ⟨ρ,H,S,h₀⟩
 refine aM (hI) fun ρ' H' S' hI=>?_
 refine b6 (turn k ρ' H' hI s' S') (fun b s₁ hh=>?_) fun e s₁ q=>hX e s₁ q
 obtain⟨b',ρ₁,H₁,rfl,S₁,h₁⟩:=hh
 cases b' with
 | false=>exact a6 (wpAny_execs_nil ⟨.next,ρ₁,H₁,.next,S₁,h₁⟩)
 | true=>
  refine b6 (h₁ s₁ S₁) (fun fl s₂ hh=>?_) fun e s₁ q=>hX e s₁ q
  obtain⟨b,ρ₂,H₂,r,S₂,h₂⟩:=hh
  cases r with
  | next=>refine f9 (h₂) fun m hm hI=>?_;exact⟨m,hm,ρ₂,H₂,S₂,hI⟩
  | cont=>refine f9 (h₂) fun m hm hI=>?_;exact⟨m,hm,ρ₂,H₂,S₂,hI⟩
  | brk=>exact⟨.next,ρ₂,H₂,.next,S₂,h₂⟩
  | ret r=>exact⟨_,ρ₂,H₂,.ret r,S₂,h₂⟩
theorem Az{x:Str}{px:Pos}{body:List Stmt}{I:Addr}{n:Nat}{G₀:AH}{k:Nat}{Q:AF→b0→AH→Prop}{J:Nat→b0→AH→Prop}{o₀:Obj}{P:Nat→Value→Prop}{St:Nat→Heap→Prop}{val:Nat→AV}{s:Shared}(c:Cx w f fx k)
  (W:Walks pw w fx.A I [I] [I] n P St) (hob:∀i h,St i h→∃o,h.get? I=some o) (hval:∀i cv,i<n→P i cv→Rep (val i) cv)
  (hS:Sat f fx ρ ((I,.raw o₀)::G₀) s) (hSt:St 0 s.heap) (hJ:J 0 ρ G₀) (turn:qN w f fx x body n val J) (done:∀ρ G,J n ρ G→Q .next ρ G) :
  j4 (model pw w) fx.A (.forLoop (.Name x px) (.ref I) body [] (f.env fx)) (fun r s'=>match r with
   | .ok fl=>pY f fx RepF Q fl s'
   | .error e=>M5 (model pw w) fx.A (f.env fx) (gG f fx X) e s') s:=by
 refine qM (R:=[]) c W hob J hS hSt hJ (fun i cv ρ G o hi hP hJ=>?_) done
 obtain⟨ρ',hp,hb⟩:=turn i ρ G I o hi hJ
 refine⟨_,ρ',hval i cv hi hP,hp,fun s S=>?_⟩
 refine b6 (hb s S) (fun fl s' hq=>?_) fun _ _ z=>z
 obtain⟨b,ρ₂,H₂,rb,S₂,h1,G',h2,h3⟩:=hq
 obtain⟨_,_,S₂'⟩:=id S₂
 refine oA (aX h2 S₂'.keys) fun h4 h5=>?_
 exact⟨b,ρ₂,H₂,rb,S₂,h1,G',h4,h5,h3⟩
inductive QG (w:World) (f:FI) (fx:Fx) (x:Str) (body:List Stmt) (Q:b0→AH→Prop) (v:AV) (ρ:b0) (H:AH):Prop
 | mk (b:List UInt8) (J:Nat→b0→AH→Prop) (e:v=.bytes b) (j:J 0 ρ H) (t:qN w f fx x body b.length (fun i=>.int (b.getD i 0).toNat) J) (q:∀ρ G,J b.length ρ G→Q ρ G)
theorem nW{x:Str}{px pos:Pos}{e:Expr}{body:List Stmt}{k:Nat}{Q:AF→b0→AH→Prop}(c:Cx w f fx k) (hh:fx.A.handled=none)
  (h:Ev w f fx X e ρ H (QG w f fx x body (Q .next)))
  (hs:autoParam (∀x,foldedSetIterable e (f.env fx) x=pure x) kI):bT w f fx X (.For (.Name x px) e body [] pos) ρ H Q:=by
 intro s S
 refine yT hs (b6 (h s S) (fun v s₁ h₁=>?_) fun _ _ e=>e)
 obtain⟨bv,ρ₁,H₁,r,⟨m₁,news₁,S₁⟩,b,J,rfl,hJ,turn,done⟩:=h₁
 cases r with
 | bytes _ t=>
  refine a6 (KBw.pyIter_bytes ?_)
  have S₂:=S₁.push (s':= { s₁ with heap:=s₁.heap.push { cls:=.type "bytes_iterator",data:=.fields #[.bytes b.toArray t,.int 0 0] } }) (ao:=.raw _) (o:= { cls:=.type "bytes_iterator",data:=.fields #[.bytes b.toArray t,.int 0 0] }) rfl (.raw _) rfl rfl rfl
  have W:=KBw.walks (prog:=pw) (w:=w) (A:=fx.A) hh s₁.heap.objs.size b.toArray t
  rw[List.size_toArray] at W
  refine Az (n:=b.length) (val:=fun i=>.int (b.getD i 0).toNat) c W (fun i h st=>let⟨o,ho,_⟩:=st; ⟨o,ho⟩) (fun i cv hi hP=>?_) ⟨m₁,_,S₂⟩ ⟨_,Heap.get?_push_size _ rfl,rfl,rfl⟩ hJ turn done
  refine aM (hP) fun c' u hc zq1=>?_;subst zq1
  have:b.getD i 0=c':=by
   have:b[i]?=some c':=by simpa using hc
   simp [this]
  rw[this]
  exact .int _ _
end
end
section
open Sem (wp)
section
variable{w:World}{f:FI}{fx:Fx}{X:AV→b0→AH→Prop}{ρ:b0}{H:AH}{n:Nat}
theorem Sat'.swap{s s':Shared}{m:GM fx}{news:List (Addr×Obj)}{G:AH}(S:Sat' f fx ρ H s m news) (ch:List Addr) (adds:List (Addr×AO×Obj)) (hc:∀a∈ch,∃o,(a,o)∈news) (hsub:∀p∈G,p∈H∧p.1∉ ch) (hnd:(G.map (·.1)).Nodup)
  (keep:∀b o,b∉ ch→s.heap.get? b=some o→s'.heap.get? b=some o) (had:∀p∈adds,s'.heap.get? p.1=some p.2.2∧RepO p.2.1 p.2.2∧(p.1∈ch∨s.heap.objs.size≤p.1)) (hadn:(adds.map (·.1)).Nodup) (hg:s'.gens=s.gens) (ho:s'.os=s.os) :
  Sat f fx ρ (adds.map (fun p=>(p.1,p.2.1))++G) s':=by
 refine bP (S.fr.ns) fun oL es ep hL r=>?_
 have nL:fx.L∉ ch:=fun q=>by
  refine oE (hc _ q) fun o ho=>?_
  exact(S.nw _ ho).2.1 rfl
 have nh:∀b o,m.h₀.get? b=some o→b∉ ch:=fun b o e q=>by
  refine oE (hc _ q) fun o' ho'=>?_
  rw[(S.nw _ ho').2.2] at e;cases e
 have lt:=S.fresh
 have notG:∀p∈adds,∀q∈G,p.1≠q.1:=fun p hp q hq e=>by
  refine f9 (S.items q (hsub q hq).1) fun x hx _=>?_
  rcases (had p hp).2.2 with h |h
  ·exact(hsub q hq).2 (e▸h)
  ·exact absurd (lt _ hx) (by rw[← e];exact Nat.not_lt.mpr h)
 refine⟨m,adds.map (fun p=>(p.1,p.2.2))++news.filter (fun p=> !ch.contains p.1),⟨⟨oL,es,ep,keep _ _ nL hL,r⟩,fun b o e=>keep _ _ (nh b o e) (S.fr.keep b o e),S.fr.above⟩,fun p hp=>?_,S.rho,fun p hp=>?_,?_,?_,hg.trans S.gens,ho.trans S.os⟩
 ·rcases List.mem_append.mp hp with hp |hp
  ·refine f9 (List.mem_map.mp hp) fun q hq zq1=>?_;subst zq1
   refine wT (had q hq) fun h1 _ h3=>?_
   refine⟨h1,fun e=>?_,?_⟩
   ·rcases h3 with h |h
    ·exact nL (e▸h)
    ·exact absurd (Heap.lt_size hL) (by rw[← e];exact Nat.not_lt.mpr h)
   ·cases z:m.h₀.get? q.1 with
    | none=>rfl
    | some o=>
     rcases h3 with h |h
     ·exact absurd h (nh _ _ z)
     ·exact absurd (Heap.lt_size (S.fr.keep _ _ z)) (Nat.not_lt.mpr h)
  ·refine oA (List.mem_filter.mp hp) fun h1 h2=>?_
   exact⟨keep _ _ (by simpa using h2) (S.nw p h1).1,(S.nw p h1).2⟩
 ·rcases List.mem_append.mp hp with hp |hp
  ·refine f9 (List.mem_map.mp hp) fun q hq zq1=>?_;subst zq1
   exact⟨q.2.2,List.mem_append_left _ (List.mem_map_of_mem (f:=fun p:Addr×AO×Obj=>(p.1,p.2.2)) hq),(had q hq).2.1⟩
  ·refine oA (hsub p hp) fun a b=>?_
   refine f9 (S.items p a) fun x h1 h2=>?_
   exact⟨x,List.mem_append_right _ (List.mem_filter.mpr ⟨h1,by simpa using b⟩),h2⟩
 ·rw[List.map_append,List.map_map]
  refine List.nodup_append.mpr ⟨hadn,hnd,fun a ha b hb=>?_⟩
  refine f9 (List.mem_map.mp ha) fun p hp zq1=>?_;subst zq1
  refine f9 (List.mem_map.mp hb) fun q hq zq1=>?_;subst zq1
  exact notG p hp q hq
 ·rw[List.map_append,List.map_map]
  refine List.nodup_append.mpr ⟨hadn,(List.filter_sublist.map _).nodup S.nodup,fun a ha b hb=>?_⟩
  refine f9 (List.mem_map.mp ha) fun p hp zq1=>?_;subst zq1
  refine f9 (List.mem_map.mp hb) fun q hq zq1=>?_;subst zq1
  refine oA (List.mem_filter.mp hq) fun h1 h2=>?_
  intro e
  rcases (had p hp).2.2 with h |h
  ·have:q.1∉ ch:=by simpa using h2
   exact this (e▸h)
  ·exact absurd (lt _ h1) (by rw[← e];exact Nat.not_lt.mpr h)
noncomputable abbrev m4(it:Addr) (i:Int) (old:Value):Obj:= { cls:=.type "enumerate",dict:=none,data:=.fields #[.none,.bool false,.ref it,rawInt i,.none,old],slots:= #[] }
structure K9 (w:World) (f:FI) (fx:Fx) (it:Addr) (n:Nat) (val:Nat→AV) (PI:Nat→Obj→Prop) (GC:AH→Prop):Prop where
 item:∀ {A:Around}{E:Value→Shared→Prop}{ρ:b0}{G:AH}{s:Shared}{e:Addr}{i:Nat}{old:Value}{oi:Obj}{m:GM fx}{news:List (Addr×Obj)}{Q:Option Value→Shared→Prop},A.handled=none→i<n→PI i oi→GC G→
  Sat' f fx ρ ((e,.raw (m4 it i old))::(it,.raw oi)::G) s m news→
  (∀h' tk x oi',Rep (val i) x→IsEnumOut h' e it ((i:Int)+1) x s.heap.objs.size→PI (i+1) oi'→h'.get? it=some oi'→
   h'.get? s.heap.objs.size=some { cls:=.type "tuple",data:=.seq #[.int i tk,x] }→(∀b o,b≠e→b≠it→s.heap.get? b=some o→h'.get? b=some o)→Q (some (.ref s.heap.objs.size)) { s with heap:=h',toks:=tk+1 })→wpAny (model pw w) A (pyNext (.ref e)) Q E s
 done:∀ {A:Around}{E:Value→Shared→Prop}{ρ:b0}{G:AH}{s:Shared}{e:Addr}{old:Value}{oi:Obj}{m:GM fx}{news:List (Addr×Obj)}{Q:Option Value→Shared→Prop},A.handled=none→PI n oi→GC G→
  Sat' f fx ρ ((e,.raw (m4 it n old))::(it,.raw oi)::G) s m news→(∀h',Heap.ExtBut it s.heap h'→Q none { s with heap:=h' })→wpAny (model pw w) A (pyNext (.ref e)) Q E s
theorem bZ{A:Around}(hh:A.handled=none) (it:Addr) (b:Array UInt8) (t:Tok):Draws pw w A it [it] b.size (fun i v=>∃c u,b[i]?=some c∧v=.int (c.toNat:Int) u) (fun i h=>KBw.IsBytesIter h it b t i) where
 live:=fun i h st=>let⟨o,ho,_⟩:=st; ⟨o,ho⟩
 frame:=fun _ _ _ st hk=>let⟨o,ho,r⟩:=st; ⟨o,hk it (by simp) o ho,r⟩
 item:=fun i s Q E hi st hQ=>by
  refine V3 (id st) fun o ho hc hd=>?_
  unfold Builtin.SmallTypes.nextOf
  refine wpAny_bind (wpAny_callSpecial?_slot (name:=PySem.Str.ofString "__next__") (KBw.iter_typeIs st) KBw.slot_next
   (wpAny_call_entry KBw.slot_next (KBw.iter_typeIs st) KBw.entry_next ?_ (KBw.args_next _)))
  refine(?_:wpAny _ _ (field (.ref it) 0 >>= _) _ _ s)
  refine wpAny_bind (wpAny_field ho hd (x:=.bytes b t) rfl ?_)
  refine(?_:wpAny _ _ (if (Value.bytes b t == Value.none)=true then _ else _) _ _ s)
  rw[if_neg (show ¬ ((Value.bytes b t == Value.none)=true) from Bool.false_ne_true)]
  refine(?_:wpAny _ _ (field (.ref it) 1 >>= _) _ _ s)
  refine wpAny_bind (wpAny_field ho hd (x:=.int i 0) rfl ?_)
  refine wpAny_bind (wpAny_of_eq (a:=b) rfl ?_)
  have hx:b[i]?=some b[i]:=by simp [hi]
  simp only[Int.toNat_natCast,hx]
  refine wpAny_bind (wpAny_setField ho hd (by simp) (wpAny_bind (wpAny_mkInt (wpAny_pure ⟨_,rfl,wpAny_pure (hQ _ _ _ ⟨_,_,hx,rfl⟩ ?_ (Heap.SameBut.update ..))⟩))))
  exact⟨_,Heap.get?_update_self _ ho (Obj.isFreed_of_fields (Obj.data_mapFields hd _)),(Obj.cls_mapFields ..).trans hc,by
   rw[Obj.data_mapFields hd];simp [rawInt]⟩
 done:=fun s Q E st hQ=>by
  refine V3 (id st) fun o ho hc hd=>?_
  unfold Builtin.SmallTypes.nextOf
  refine wpAny_bind (wpAny_callSpecial?_slot (name:=PySem.Str.ofString "__next__") (KBw.iter_typeIs st) KBw.slot_next
   (wpAny_call_entry KBw.slot_next (KBw.iter_typeIs st) KBw.entry_next ?_ (KBw.args_next _)))
  refine(?_:wpAny _ _ (field (.ref it) 0 >>= _) _ _ s)
  refine wpAny_bind (wpAny_field ho hd (x:=.bytes b t) rfl ?_)
  refine(?_:wpAny _ _ (if (Value.bytes b t == Value.none)=true then _ else _) _ _ s)
  rw[if_neg (show ¬ ((Value.bytes b t == Value.none)=true) from Bool.false_ne_true)]
  refine(?_:wpAny _ _ (field (.ref it) 1 >>= _) _ _ s)
  refine wpAny_bind (wpAny_field ho hd (x:=.int b.size 0) rfl ?_)
  refine wpAny_bind (wpAny_of_eq (a:=b) rfl ?_)
  have hx:b[b.size]?=none:=by simp
  simp only[Int.toNat_natCast,hx]
  refine wpAny_bind (wpAny_rule (wpAny_bind (wpAny_setField ho hd (by simp) ?_)))
  refine(?_:wpAny _ _ (newExc (.type "StopIteration") [] >>= _) _ _ _)
  refine wpAny_bind ?_
  simp only[newExc,newTuple]
  refine wpAny_bind (wpAny_newObj_type ?_ (by size_fits))
  refine wpAny_bind (m:=firstArgMember _ _) (wpAny_of_eq (a:=Value.none) (by first |rfl |(simp only[firstArgMember];rfl)) ?_)
  refine wpAny_newObj_type ?_ (by size_fits)
  simp only[raiseNew]
  refine wpAny_bind (wpAny_handled ?_)
  rw[show A.in1.handled=none from hh]
  refine wpAny_bind (wpAny_pure (wpAny_throw ?_))
  exact hQ _ _ (((Heap.SameBut.update ..).extBut.push _).push _) ⟨_,Heap.get?_push_size _ rfl,rfl⟩
theorem AA(it:Addr) (b:List UInt8) (t:Tok):K9 w f fx it b.length (fun i=>.int (b.getD i 0).toNat) (fun i o=>o.cls=.type "bytes_iterator"∧o.data=.fields #[.bytes b.toArray t,.int i 0]) (fun _=>True) where
 item:=fun{A E ρ G s e i old oi m news Q} hh hi hp _ S hQ=>by
  have he:IsEnum s.heap e it i old:=by
   refine f9 (S.items _ (.head _)) fun o h1 h2=>?_
   obtain rfl:=RepO.inv h2
   exact S.freed h1
  have hit:KBw.IsBytesIter s.heap it b.toArray t i:=by
   refine f9 (S.items _ (.tail _ (.head _))) fun o h1 h2=>?_
   obtain rfl:=RepO.inv h2
   exact⟨_,S.freed h1,hp⟩
  have ne:e≠it:=fun q=>by
   have:=S.keys
   simp [q] at this
  refine wpAny_pyNext_enum_itemD (bZ (A:=A.in1) hh it b.toArray t) he hit (by simpa using hi) ne (by simpa using ne) fun x h' tk hP ho hs hT hsz hk=>?_
  refine aM (hP) fun c u hc zq1=>?_;subst zq1
  refine f9 (hs) fun oi' hoi hoi2=>?_
  have:b.getD i 0=c:=by
   have:b[i]?=some c:=by simpa using hc
   simp [this]
  exact hQ h' tk _ oi' (by rw[this];exact .int _ _) ho hoi2 hoi hT hk
 done:=fun{A E ρ G s e old oi m news Q} hh hp _ S hQ=>by
  have he:IsEnum s.heap e it b.length old:=by
   refine f9 (S.items _ (.head _)) fun o h1 h2=>?_
   obtain rfl:=RepO.inv h2
   exact S.freed h1
  have hit:KBw.IsBytesIter s.heap it b.toArray t b.length:=by
   refine f9 (S.items _ (.tail _ (.head _))) fun o h1 h2=>?_
   obtain rfl:=RepO.inv h2
   exact⟨_,S.freed h1,hp⟩
  exact wpAny_pyNext_enum_endD (n:=b.toArray.size) (bZ (A:=A.in1) hh it b.toArray t) he (by simpa using hit) hQ
theorem Dr(it l:Addr) (xs:List AV):K9 w f fx it xs.length (fun i=>xs.getD i .none) (fun i o=>o.cls=.type "list_iterator"∧o.data=.fields #[.ref l,.int i 0]) (fun G=>In1 l (.list xs) G) where
 item:=fun{A E ρ G s e i old oi m news Q} hh hi hp hG S hQ=>by
  have he:IsEnum s.heap e it i old:=by
   refine f9 (S.items _ (.head _)) fun o h1 h2=>?_
   obtain rfl:=RepO.inv h2
   exact S.freed h1
  have hit:s.heap.IsListIter it l i:=by
   refine f9 (S.items _ (.tail _ (.head _))) fun o h1 h2=>?_
   obtain rfl:=RepO.inv h2
   exact⟨_,S.freed h1,hp⟩
  have ne:e≠it:=fun q=>by
   have:=S.keys
   simp [q] at this
  refine p8 (S.listAt (.there (.there hG))) fun vs ol r h1 h2=>?_
  have hx:xs[i]?=some (xs.getD i .none):=by simp [hi]
  refine f9 (r.get _ _ hx) fun cv h3 h4=>?_
  refine wpAny_pyNext_enum_item he hit h2 (x:=cv) (by simpa using h3) ne fun h' ho hit' hT hsz hk=>?_
  refine f9 (hit') fun oi' hoi hoi2=>?_
  exact hQ h' s.toks _ oi' h4 ho hoi2 hoi hT hk
 done:=fun{A E ρ G s e old oi m news Q} hh hp hG S hQ=>by
  have he:IsEnum s.heap e it xs.length old:=by
   refine f9 (S.items _ (.head _)) fun o h1 h2=>?_
   obtain rfl:=RepO.inv h2
   exact S.freed h1
  have hit:s.heap.IsListIter it l xs.length:=by
   refine f9 (S.items _ (.tail _ (.head _))) fun o h1 h2=>?_
   obtain rfl:=RepO.inv h2
   exact⟨_,S.freed h1,hp⟩
  refine p8 (S.listAt (.there (.there hG))) fun vs ol r h1 h2=>?_
  have:=r.len
  exact wpAny_pyNext_enum_end hh he hit h2 (by simp [this]) hQ
theorem iR{it:Addr}{n i:Nat}{val:Nat→AV}{PI:Nat→Obj→Prop}{GC:AH→Prop}{xa xb:Str}{pa pb pt:Pos}{k:Nat}{E:Value→Shared→Prop}{G:AH}{ρ₁ ρ₂:b0}{s:Shared}{e:Addr}{old:Value}{oi:Obj}
  (ok:f.Ok) (hh:fx.A.handled=none) (Sr:K9 w f fx it n val PI GC) (hi:i<n) (hp:PI i oi) (hG:GC G) (S:Sat f fx ρ ((e,.raw (m4 it i old))::(it,.raw oi)::G) s) (hp1:Put1 xa (some (.int i)) ρ ρ₁) (hp2:Put1 xb (some (val i)) ρ₁ ρ₂)
  {Q':Unit→Shared→Prop}
  (hQ:∀s' old' oi',PI (i+1) oi'→Sat f fx ρ₂ ((e,.raw (m4 it ((i:Int)+1) old'))::(it,.raw oi')::G) s'→Q' () s') :
  wpAny (model pw w) fx.A (pyNext (.ref e)) (fun r s₁=>∃v,r=some v∧wpAny (model pw w) fx.A (letOwnedTupleGo (.Tuple [.Name xa pa,.Name xb pb] k pt) (.ref e) v) (fun _ s₂=>wpAny (model pw w) fx.A (assign (.Tuple [.Name xa pa,.Name xb pb] k pt) (f.env fx) v) Q' E s₂) E s₁) E s:=by
 obtain⟨m,news,S⟩:=S
 refine Sr.item hh hi hp hG S fun h' tk x oi' hr ho hpi hit hT hk=>⟨_,rfl,?_⟩
 have hke:=S.keys
 simp only[List.map_cons,List.nodup_cons] at hke
 have lte:e<s.heap.objs.size:=by
  refine f9 (S.items _ (.head _)) fun o h1 h2=>?_
  exact Heap.lt_size (S.freed h1)
 have lti:it<s.heap.objs.size:=by
  refine f9 (S.items _ (.tail _ (.head _))) fun o h1 h2=>?_
  exact Heap.lt_size (S.freed h1)
 have S₁:=S.swap (s':= { s with heap:=h',toks:=tk+1 }) (G:=G) [e,it] [(e,.raw _,_),(it,.raw _,_),(s.heap.objs.size,.tup [.int i,val i],{ cls:=.type "tuple",data:=.seq #[.int i tk,x] })]
  (fun a ha=>by
   rcases List.mem_cons.mp ha with rfl |ha
   ·refine f9 (S.items _ (.head _)) fun o h1 _=>?_;exact⟨o,h1⟩
   ·rw[List.mem_singleton.mp ha]
    refine f9 (S.items _ (.tail _ (.head _))) fun o h1 _=>?_;exact⟨o,h1⟩)
  (fun p hp=>⟨.tail _ (.tail _ hp),fun q=>by
   have hm:=List.mem_map_of_mem (f:=(·.1)) hp
   rcases List.mem_cons.mp q with q |q
   ·exact hke.1 (.tail _ (q▸hm))
   ·exact hke.2.1 (List.mem_singleton.mp q▸hm)⟩) hke.2.2
  (fun b o hb e'=>hk b o (fun q=>hb (by simp [q])) (fun q=>hb (by simp [q])) e')
  (fun p hp=>by
   rcases List.mem_cons.mp hp with rfl |hp
   ·exact⟨ho,.raw _,.inl (.head _)⟩
   ·rcases List.mem_cons.mp hp with rfl |hp
    ·exact⟨hit,.raw _,.inl (.tail _ (.head _))⟩
    ·rw[List.mem_singleton.mp hp]
     exact⟨hT,.tup (vs:=[.int i tk,x]) 0 (.cons (.int _ _) (.cons hr .nil)) rfl rfl,.inr (Nat.le_refl _)⟩)
  (by
   simp only[List.map_cons,List.map_nil,List.nodup_cons,List.mem_cons,List.not_mem_nil,or_false,not_or,List.nodup_nil,not_false_eq_true,and_true]
   exact⟨⟨fun q=>hke.1 (q▸.head _),Nat.ne_of_lt lte⟩,Nat.ne_of_lt lti⟩) rfl rfl
 obtain⟨m₁,news₁,S₁⟩:=S₁
 refine wpAny_letOwnedTupleGo_enum ho fun h₂ he₂ hs₂=>?_
 have S₂:Sat f fx ρ ((e,.raw (m4 it ((i:Int)+1) x))::(it,.raw oi')::(s.heap.objs.size,.tup [.int i,val i])::G) { s with heap:=h₂,toks:=tk+1 }:=by
  refine f9 (S₁.items _ (.head _)) fun o h1 h2=>?_
  exact S₁.moved (s':= { s with heap:=h₂,toks:=tk+1 }) h1 .here (.raw _) he₂ (fun b ob hb e'=>(hs₂.2 b hb).trans e') rfl rfl
 rw[assign_Tuple]
 refine wpAny_bind (wpAny_standAt ?_)
 unfold unpack
 refine wpAny_bind (wpAny_holding (fE hh S₂ (.there (.there .here)) rfl fun h₃ cvs rs S₃=>?_))
 cases rs with
 | cons r1 rs=>
  cases rs with
  | cons r2 rs=>
   cases rs
   obtain⟨m₃,news₃,S₃⟩:=S₃
   refine wpAny_bind (wpAny_holding (wpAny_assign_Name (r9 ok hp1 r1 S₃ fun h₄ S₄=>?_)))
   obtain⟨m₄,news₄,S₄⟩:=S₄
   refine wpAny_bind (wpAny_holding (wpAny_assign_Name (r9 ok hp2 r2 S₄ fun h₅ S₅=>?_)))
   refine wpAny_pure (hQ _ x oi' hpi (S₅.sub (fun p hp=>?_) ?_))
   ·rcases List.mem_cons.mp hp with rfl |hp
    ·exact .head _
    ·rcases List.mem_cons.mp hp with rfl |hp
     ·exact .tail _ (.head _)
     ·exact .tail _ (.tail _ (.tail _ hp))
   ·simp only[List.map_cons,List.nodup_cons]
    exact hke
end
end
section
open Sem (wp)
set_option maxHeartbeats 2000000 in
theorem O9(b:Array UInt8) (t:Tok) :
  Meets (Builtin.«enumerate.__new__» ⟨[.type "enumerate",.bytes b t],[]⟩) (fun _ R s=>
   R (.ok (.ret (.ref (s.heap.push { cls:=.type "bytes_iterator",data:=.fields #[.bytes b t,.int 0 0] }).objs.size)))
    { s with heap:=(s.heap.push { cls:=.type "bytes_iterator",data:=.fields #[.bytes b t,.int 0 0] }).push { cls:=.type "enumerate",data:=.fields #[.none,.bool false,.ref s.heap.objs.size,rawInt 0,.none,.none] } }):=
 .of_wp fun prog w A R s h=>by
  obtain⟨hp,g,d,tk,os⟩:=s
  have hsub:=sub_enumerate
  wp_walk
  refine wpAny_stack_any fun st=>wpAny_pure ?_
  split
  ·rename_i c _ _ _ _ _
   cases(c == Value.type "enumerate")
   ·wp_walk using KBw.pyIter_bytes
    exact⟨_,rfl,h⟩
   ·wp_walk using KBw.pyIter_bytes
    exact⟨_,rfl,h⟩
  ·wp_walk using KBw.pyIter_bytes
   exact⟨_,rfl,h⟩
section
variable{w:World}{f:FI}{fx:Fx}{X:AV→b0→AH→Prop}{ρ:b0}{H:AH}{n:Nat}
theorem bB{A:Around}{E:Value→Shared→Prop}{s:Shared}{b:Array UInt8}{t:Tok}{Q:Value→Shared→Prop}
  (h:Q (.ref (s.heap.objs.size+1)) { s with heap:=(s.heap.push { cls:=.type "bytes_iterator",data:=.fields #[.bytes b t,.int 0 0] }).push (m4 s.heap.objs.size 0 .none) }) :
  wpAny (model pw w) A (call (.type "enumerate") [.bytes b t]) Q E s:=by
 refine callType_new PySem.F.called_enumerate (by decide) (PySem.F.typeCall_enumerate_1 _) (PySem.F.newCall_enumerate_1 _) (fun obj=>PySem.F.args_object_init_2 obj _) PySem.F.entry_enumerate_new (O9 b t) ?_
 have hz:(s.heap.push { cls:=.type "bytes_iterator",data:=.fields #[.bytes b t,.int 0 0] }).objs.size=s.heap.objs.size+1:=Heap.size_push ..
 refine(?_:_∧_)
 rw[hz]
 have he:=Heap.get?_push_size (s.heap.push { cls:=.type "bytes_iterator",data:=.fields #[.bytes b t,.int 0 0] }) (o:=m4 s.heap.objs.size 0 .none) rfl
 rw[hz] at he
 exact⟨⟨_,he,rfl⟩,h⟩
theorem gR{b:List UInt8}{Q:AV→b0→AH→Prop}(h:∀e it oi,(∃t,oi= { cls:=.type "bytes_iterator",data:=.fields #[.bytes b.toArray t,.int 0 0] })→Q (.ref e) ρ ((e,.raw (m4 it 0 .none))::(it,.raw oi)::H)):M6 w f fx X "enumerate" [.bytes b] ρ H Q:=by
 refine y8 ?_
 rintro _ s ⟨m,news,S⟩
 rename_i t
 have S₁:=S.push (s':= { s with heap:=s.heap.push { cls:=.type "bytes_iterator",data:=.fields #[.bytes b.toArray t,.int 0 0] } }) (ao:=.raw _) (o:= { cls:=.type "bytes_iterator",data:=.fields #[.bytes b.toArray t,.int 0 0] }) rfl (.raw _) rfl rfl rfl
 have S₂:=S₁.push (s':= { s with heap:=(s.heap.push { cls:=.type "bytes_iterator",data:=.fields #[.bytes b.toArray t,.int 0 0] }).push (m4 s.heap.objs.size 0 .none) }) (ao:=.raw _) (o:=m4 s.heap.objs.size 0 .none) rfl (.raw _) rfl rfl rfl
 rw[show({ s with heap:=s.heap.push { cls:=.type "bytes_iterator",data:=.fields #[.bytes b.toArray t,.int 0 0] } }:Shared).heap.objs.size=s.heap.objs.size+1 from Heap.size_push ..] at S₂
 exact a6 (bB ⟨_,ρ,_,.ref _,⟨m,_,S₂⟩,h _ _ _ ⟨t,rfl⟩⟩)
theorem nX{l:Addr}{xs:List AV}{Q:AV→b0→AH→Prop}(hi:In1 l (.list xs) H) (h:∀e it oi,oi.cls=.type "list_iterator"∧oi.data=.fields #[.ref l,.int 0 0]→Q (.ref e) ρ ((e,.raw (m4 it 0 .none))::(it,.raw oi)::H)):M6 w f fx X "enumerate" [.ref l] ρ H Q:=by
 refine y8 ?_
 rintro s ⟨m,news,S⟩
 refine p8 (S.listAt hi) fun vs ol r h1 h2=>?_
 refine a6 (call_enumerate_list h2 fun h' he hit hz hk=>?_)
 refine f9 (hit) fun oi hoi hoi2=>?_
 have nd:=S.keys
 have S₁:=S.swap (s':= { s with heap:=h' }) (G:=H) [] [(s.heap.objs.size+1,.raw _,_),(s.heap.objs.size,.raw _,_)] (fun a ha=>nomatch ha) (fun p hp=>⟨hp,fun q=>nomatch q⟩) nd (fun b o _ e=>hk b o e) (fun p hp=>by
  rcases List.mem_cons.mp hp with rfl |hp
  ·exact⟨he,.raw _,.inr (Nat.le_succ _)⟩
  ·rw[List.mem_singleton.mp hp]
   exact⟨hoi,.raw _,.inr (Nat.le_refl _)⟩) (by simp) rfl rfl
 exact⟨_,ρ,_,.ref _,S₁,h _ _ _ hoi2⟩
theorem Put1.uniq{α β:Type}{k:α}{v:β}{l l₁ l₂:List (α×β)}(nd:(l.map (·.1)).Nodup) (h1:Put1 k v l l₁) (h2:Put1 k v l l₂):l₁=l₂:=by
 induction h1 generalizing l₂ with
 | @here u l=>
  cases h2 with
  | here=>rfl
  | there h2=>exact absurd h2.in (List.nodup_cons.mp nd).1
 | there h1 ih=>
  cases h2 with
  | here=>exact absurd h1.in (List.nodup_cons.mp nd).1
  | there h2=>rw[ih (List.nodup_cons.mp nd).2 h2]
inductive QH (w:World) (f:FI) (fx:Fx) (xa xb:Str) (va vb:AV) (body:List Stmt) (J:b0→AH→Prop) (e it:Addr) (oe oi:Obj)  (ρ:b0) (G:AH):Prop
 | mk (ρ₁ ρ₂:b0) (p1:Put1 xa (some va) ρ ρ₁) (p2:Put1 xb (some vb) ρ₁ ρ₂) (h:Ex w f fx (fun _ _ _=>False) body ρ₂ ((e,.raw oe)::(it,.raw oi)::G) (xQ [(e,.raw oe),(it,.raw oi)] J))
noncomputable abbrev Ds(w:World) (f:FI) (fx:Fx) (xa xb:Str) (body:List Stmt) (n:Nat) (val:Nat→AV) (J:Nat→b0→AH→Prop):Prop:=∀i ρ G e it oe oi,i<n→J i ρ G→
 QH w f fx xa xb (.int i) (val i) body (J (i+1)) e it oe oi ρ G
theorem vR{ps H₂ G':AH}(h:DelN ps H₂ G') (nd:(H₂.map (·.1)).Nodup):(∀p∈ps++G',p∈H₂)∧((ps++G').map (·.1)).Nodup:=
 ⟨fun p hp=>h.perm.mem_iff.mpr hp,((h.perm.map (·.1)).nodup_iff).mp nd⟩
theorem AB{it e:Addr}{n:Nat}{val:Nat→AV}{PI:Nat→Obj→Prop}{GC:AH→Prop}{xa xb:Str}{pa pb pt:Pos}{k kk:Nat}{body:List Stmt}{G₀:AH}{Q:AF→b0→AH→Prop}{J:Nat→b0→AH→Prop}{oi₀:Obj}{s:Shared}
  (c:Cx w f fx kk) (hh:fx.A.handled=none) (Sr:K9 w f fx it n val PI GC) (hS:Sat f fx ρ ((e,.raw (m4 it 0 .none))::(it,.raw oi₀)::G₀) s) (hp:PI 0 oi₀) (hJ:J 0 ρ G₀) (hG:∀i ρ G,J i ρ G→GC G) (turn:Ds w f fx xa xb body n val J) (done:∀ρ G,J n ρ G→Q .next ρ G) :
  j4 (model pw w) fx.A (.forLoop (.Tuple [.Name xa pa,.Name xb pb] k pt) (.ref e) body [] (f.env fx)) (fun r s'=>match r with
   | .ok fl=>pY f fx RepF Q fl s'
   | .error e=>M5 (model pw w) fx.A (f.env fx) (gG f fx X) e s') s:=by
 refine Y3 (fun j s'=>∃i ρ G old oi,j=n - i∧i≤n∧PI i oi∧Sat f fx ρ ((e,.raw (m4 it (i:Nat) old))::(it,.raw oi)::G) s'∧J i ρ G) (fun j s₁ hI=>?_) (n - 0) ⟨0,ρ,G₀,.none,oi₀,rfl,Nat.zero_le _,hp,hS,hJ⟩
 refine V4 (hI) fun i ρ₁ G old oi zq1 hi hpi S₁ hJ₁=>?_;subst zq1
 by_cases hlt:i<n
 ·obtain⟨ρ₂,ρ₃,hp1,hp2, -⟩:=turn i ρ₁ G e it (m4 it ((i:Int)+1) old) oi hlt hJ₁
  refine b6 (a6 (iR (pa:=pa) (pb:=pb) (pt:=pt) (k:=k) c.ok hh Sr hlt hpi (hG _ _ _ hJ₁) S₁ hp1 hp2
   (Q':=fun _ s₂=>c8 (model pw w) fx.A (execs body (f.env fx)) (fun f_1 s₃=>match f_1 with
      | .next | .cont=>∃m,m<n - i∧∃i' ρ G old oi,m=n - i'∧i'≤n∧PI i' oi∧Sat f fx ρ ((e,.raw (m4 it (i':Nat) old))::(it,.raw oi)::G) s₃∧J i' ρ G
      | .brk=>pY f fx RepF Q Flow.next s₃
      | .ret v=>pY f fx RepF Q (.ret v) s₃) (D1 (model pw w) fx.A (f.env fx) fun e s'=>M5 (model pw w) fx.A (f.env fx) (gG f fx X) e s') s₂)
   (E:=D1 (model pw w) fx.A (f.env fx) fun e s'=>M5 (model pw w) fx.A (f.env fx) (gG f fx X) e s')
   (fun s₂ old' oi' hpi' S₂=>?_))) (fun r s₂ hr=>?_) fun _ _ x=>x
  ·obtain⟨ρ₂',ρ₃',hp1',hp2',hb⟩:=turn i ρ₁ G e it (m4 it ((i:Int)+1) old') oi' hlt hJ₁
   have e1:ρ₂'=ρ₂:=by
    obtain⟨m,news,S⟩:=S₁
    exact Put1.uniq (by rw[S.rho.1];exact c.ok.nodup) hp1' hp1
   subst e1
   have e2:ρ₃'=ρ₃:=by
    obtain⟨m,news,S⟩:=S₁
    exact Put1.uniq (by rw[hp1.keys,S.rho.1];exact c.ok.nodup) hp2' hp2
   subst e2
   refine dE (hb _ S₂) fun fl s₃ hq=>?_
   obtain⟨b,ρ₄,H₂,rb,S₃,hb,G',hdel,hJ'⟩:=hq
   obtain⟨_,_,S₃'⟩:=id S₃
   refine oA (vR hdel S₃'.keys) fun hsub hnd=>?_
   have next:∃m,m<n - i∧∃i' ρ G old oi,m=n - i'∧i'≤n∧PI i' oi∧Sat f fx ρ ((e,.raw (m4 it (i':Nat) old))::(it,.raw oi)::G) s₃∧J i' ρ G:=
    ⟨n - (i+1),by exact HA hlt,i+1,ρ₄,G',old',oi',rfl,hlt,hpi',S₃.sub hsub hnd,hJ'⟩
   rcases hb with rfl |rfl
   ·obtain rfl:=RepF.inv rb;exact next
   ·obtain rfl:=RepF.inv rb;exact next
  ·refine f9 (hr) fun v zq1 h=>?_;subst zq1
   exact b6 (a6 h) (fun _ s₃ h'=>a6 h') fun _ _ x=>x
 ·obtain rfl:i=n:=by exact Hz hi hlt
  obtain⟨m,news,S⟩:=id S₁
  refine a6 (Sr.done hh hpi (hG _ _ _ hJ₁) S fun h' he'=>?_)
  have S₂:Sat f fx ρ₁ G { s₁ with heap:=h' }:=by
   refine f9 (S.items _ (.tail _ (.head _))) fun oi' h1 h2=>?_
   have hke:=S.keys
   simp only[List.map_cons,List.nodup_cons] at hke
   exact S.dropped (s':= { s₁ with heap:=h' }) h1 (fun p hp=>⟨.tail _ (.tail _ hp),fun q=>hke.2.1 ((show p.1=it from q)▸List.mem_map_of_mem (f:=fun p:Addr×AO=>p.1) hp)⟩) hke.2.2 (fun b ob hb e'=>he' b ob hb e') rfl rfl
  exact a6 (wpAny_execs_nil ⟨_,ρ₁,G,.next,S₂,done _ _ hJ₁⟩)
inductive QI (w:World) (f:FI) (fx:Fx) (xa xb:Str) (body:List Stmt) (Q:b0→AH→Prop) (v:AV) (ρ:b0) (H:AH):Prop
 | mk (a it:Addr) (oi:Obj) (G:AH) (n:Nat) (val:Nat→AV) (PI:Nat→Obj→Prop) (GC:AH→Prop) (J:Nat→b0→AH→Prop) (e:v=.ref a) (e2:H=(a,.raw (m4 it 0 .none))::(it,.raw oi)::G) (s:K9 w f fx it n val PI GC) (p:PI 0 oi) (j:J 0 ρ G) (g:∀i ρ G,J i ρ G→GC G) (t:Ds w f fx xa xb body n val J) (q:∀ρ G,J n ρ G→Q ρ G)
theorem qW{xa xb:Str}{pa pb pt pos:Pos}{e:Expr}{body:List Stmt}{k kk:Nat}{Q:AF→b0→AH→Prop}(c:Cx w f fx kk) (hh:fx.A.handled=none)
  (h:Ev w f fx X e ρ H (QI w f fx xa xb body (Q .next)))
  (hs:autoParam (∀x,foldedSetIterable e (f.env fx) x=pure x) kI):bT w f fx X (.For (.Tuple [.Name xa pa,.Name xb pb] k pt) e body [] pos) ρ H Q:=by
 intro s S
 refine yT hs (b6 (h s S) (fun v s₁ h₁=>?_) fun _ _ e=>e)
 obtain⟨bv,ρ₁,H₁,r,S₁,a,it,oi,G,n,val,PI,GC,J,rfl,rfl,Sr,hp,hJ,hG,turn,done⟩:=h₁
 obtain rfl:=Rep.inv r
 have he:IsEnum s₁.heap a it 0 .none:=by
  obtain⟨m,news,S⟩:=S₁
  refine f9 (S.items _ (.head _)) fun o h1 h2=>?_
  obtain rfl:=RepO.inv h2
  exact S.freed h1
 exact a6 (wpAny_pyIter_enum he (AB c hh Sr S₁ hp hJ hG turn done))
end
end
section
open Sem (wp)
section
variable{w:World}{f:FI}{fx:Fx}{X:AV→b0→AH→Prop}{ρ:b0}{H:AH}{n:Nat}
theorem vS{i k:Int}{Q:AV→b0→AH→Prop}(hk:0≤k) (hk2:k≤1000000) (hi:i.natAbs<2 ^ 64) (h:Q (.int (i*2 ^ k.toNat)) ρ H):S9 w f fx X (binaryOp .LShift) (.int i) (.int k) ρ H Q:=by
 refine r6 ?_
 rintro _ _ s S
 exact a6 (lshift_int_small hk hk2 hi ⟨_,ρ,H,.int _ _,S.toks _,h⟩)
theorem vT{i k:Int}{Q:AV→b0→AH→Prop}(hk:k≠0) (h:Q (.int (i.fmod k)) ρ H):S9 w f fx X (binaryOp .Mod) (.int i) (.int k) ρ H Q:=by
 refine r6 ?_
 rintro _ _ s S
 exact a6 (mod_int hk ⟨_,ρ,H,.int _ _,S.toks _,h⟩)
theorem y6{i k:Int}{Q:AV→b0→AH→Prop}(hk:0≤k) (hk2:k≤1000000) (hi:i.natAbs<2 ^ 64) (h:Q (.int (i ^ k.toNat)) ρ H):S9 w f fx X (binaryOp .Pow) (.int i) (.int k) ρ H Q:=by
 refine r6 ?_
 rintro _ _ s S
 exact a6 (pow_int_small hk hk2 hi ⟨_,ρ,H,.int _ _,S.toks _,h⟩)
theorem r5{b d:List UInt8}{Q:AV→b0→AH→Prop}(hz:b.length+d.length≤1000000) (h:Q (.bytes (b++d)) ρ H):S9 w f fx X (binaryOp .Add) (.bytes b) (.bytes d) ρ H Q:=by
 refine r6 ?_
 rintro _ _ s S
 exact a6 (bytes_add_K (d:=b++d) (by rw[List.size_toArray,List.size_toArray];exact Jl hz) rfl fun t k=>⟨_,ρ,H,.bytes _ _,S.toks _,h⟩)
theorem Dt{b:List UInt8}{k:Int}{Q:AV→b0→AH→Prop}(hb:b≠[]) (h2:2≤k) (hk:k≤1000) (hz:b.length≤1000) (h:Q (.bytes (List.replicate k.toNat b).flatten) ρ H):S9 w f fx X (binaryOp .Mult) (.bytes b) (.int k) ρ H Q:=by
 refine r6 ?_
 rintro _ _ s S
 refine a6 (bytes_mul_K hb h2 (by exact Nj hk) ?_ rfl fun t k=>⟨_,ρ,H,.bytes _ _,S.toks _,h⟩)
 have:b.length*k.toNat≤1000*1000:=Nat.mul_le_mul hz (by exact Ni hk)
 exact Pd this
theorem vU{b:Array UInt8}{t u:Tok}(h63:b.size≤1000000):Gives (Builtin.«bytes.__mul__» ⟨[.bytes b t,.int 1 u],[]⟩) (.val (.bytes b t)):=by
 refine .of_wp fun M A E s Q hq=>?_
 refine(?_:wpAny M A (Builtin.Bytes.repeatArgs .bytes "__mul__" ⟨[.bytes b t,.int 1 u],[]⟩ >>= fun r=>_) _ E s)
 refine wpAny_bind (wpAny_of_eq (BMul.args_eq (by decide)) ?_)
 refine wpAny_bind (wpAny_of_eq (a:=b) rfl ?_)
 refine(?_:wpAny M A (if b.size*(1:Int).toNat ≥ 2 ^ 63 then _ else _) _ E s)
 rw[if_neg (by show ¬ b.size*1 ≥ 2 ^ 63;exact Oc h63)]
 refine bm_if_true (by show(b.size*1 == b.size)=true;rw[Nat.mul_one];exact beq_self_eq_true _) ?_
 refine wpAny_bind (wpAny_typeOf (typeIs_bytes s b t) ?_)
 refine bm_if_true (by decide) ?_
 refine wpAny_bind (wpAny_rule ?_)
 exact wpAny_pure ⟨_,rfl,hq⟩
theorem Du{b:List UInt8}{Q:AV→b0→AH→Prop}(hz:b.length≤1000) (h:Q (.bytes b) ρ H):S9 w f fx X (binaryOp .Mult) (.bytes b) (.int 1) ρ H Q:=by
 refine r6 ?_
 rintro _ _ s S
 rename_i t u
 refine a6 (wpAny_binaryOp_repeat (T:= "bytes") (U:= "int") (by decide) (fun s'=>typeIs_bytes s' _ t) (fun s'=>typeIs_int s' 1 u) BMul.noFill PySem.F.fills_int_mul PySem.F.slot_int_rmul BMul.repeats PySem.F.slot_int_index.lookup
  (call_gives PySem.F.slot_int_rmul (typeIs_int s 1 u) PySem.F.entry_int_rmul (PySem.F.args_int_rmul_2 _ _) (BMul.int_declines 1 u _ t)
   ⟨rfl,call_gives BMul.slot_mul (typeIs_bytes s _ t) BMul.entry_mul (BMul.args_mul _ _) (vU (by rw[List.size_toArray];exact Eo hz)) ⟨_,ρ,H,.bytes _ _,S,h⟩⟩))
theorem nY{b:List UInt8}{k:Int}{Q:AV→b0→AH→Prop}(hb:b≠[]) (h1:1≤k) (hk:k≤1000) (hz:b.length≤1000) (h:Q (.bytes (List.replicate k.toNat b).flatten) ρ H):S9 w f fx X (binaryOp .Mult) (.bytes b) (.int k) ρ H Q:=by
 by_cases e:k=1
 ·subst e
  refine Du hz ?_
  simpa using h
 ·exact Dt hb (by exact Nb h1 e) hk hz h
theorem Dv{b d:List UInt8}{Q:AV→b0→AH→Prop}(h:Q (.bool (b == d)) ρ H):S9 w f fx X (compareOp .Eq) (.bytes b) (.bytes d) ρ H Q:=by
 refine r6 ?_
 rintro _ _ s S
 exact a6 (eq_bytes ⟨_,ρ,H,.bool _,S,by simpa using h⟩)
theorem vV{b d:List UInt8}{Q:AV→b0→AH→Prop}(h:Q (.bool (b != d)) ρ H):S9 w f fx X (compareOp .NotEq) (.bytes b) (.bytes d) ρ H Q:=by
 refine r6 ?_
 rintro _ _ s S
 exact a6 (PySem.W.ne_bytes ⟨_,ρ,H,.bool _,S,by simpa using h⟩)
theorem P0{b:Bool}{Q:AV→b0→AH→Prop}(h:Q (.int (if b then 1 else 0)) ρ H):M6 w f fx X "int" [.bool b] ρ H Q:=by
 refine y8 ?_
 rintro s S
 exact a6 (call_int_bool ⟨_,ρ,H,.int _ _,S.toks _,h⟩)
theorem AC{a b:Int}{Q:AV→b0→AH→Prop}(hb:b≠0) (hb2:b.natAbs<1073741824) (h:∀t,Q (.ref t) ρ ((t,.tup [.int (a.fdiv b),.int (a.fmod b)])::H)):E4 w f fx X "divmod" [.int a,.int b] ρ H Q:=by
 refine y8 ?_
 intro _ _ s hz90;obtain⟨m,news,S⟩:=hz90
 refine a6 (divmod_int hb (hp:=.inl (PyProof.noPylong_small hb2)) ?_)
 exact⟨_,ρ,_,.ref _,⟨m,_,S.push (ao:=.tup [.int (a.fdiv b),.int (a.fmod b)]) rfl (.tup (vs:=[_,_]) 0 (.cons (.int _ _) (.cons (.int _ _) .nil)) rfl rfl) rfl rfl rfl⟩,h _⟩
theorem m8{l:Addr}{ns:List Int}{Q:AV→b0→AH→Prop}(hh:fx.A.handled=none) (hi:In1 l (.list (ns.map .int)) H) (hr:∀n∈ns,0≤n∧n<256) (hz:ns.length≤1000000) (h:Q (.bytes (ns.map fun n=>n.toNat.toUInt8)) ρ H):M6 w f fx X "bytes" [.ref l] ρ H Q:=by
 refine y8 ?_
 intro s hz90;obtain⟨m,news,S⟩:=hz90
 refine p8 (S.listAt hi) fun vs o r h1 h2=>?_
 have hl:=r.len
 rw[List.length_map] at hl
 have ia:IntsAre vs ns:=by
  clear hi hr hz h h1 h2 hl
  induction ns generalizing vs with
  | nil=>cases r;exact .nil
  | cons n ns ih=>
   cases r with
   | cons r1 r2=>refine oE (Rep.inv r1) fun _ zq1=>?_;subst zq1;exact .cons _ _ (ih _ r2)
 refine a6 (bytes_K S.fr S.nw h2 ia hr (by rw[hl,sizeLine_eq];exact Gk hz) hh fun h' t k F' N' _=>?_)
 exact⟨_,ρ,H,.bytes _ _,⟨m,news,F',N',S.rho,S.items,S.keys,S.nodup,S.gens,S.os⟩,h⟩
theorem gS{i:Int}{Q:AV→b0→AH→Prop}(h:Q (.bool true) ρ H):E4 w f fx X "isinstance" [.int i,.lit (.type "int")] ρ H Q:=by
 refine y8 ?_
 rintro _ s S
 refine a6 (call_isinstance_yes (Tx:= "int") (T:= "int") (typeIs_int _ _ _) (by rfl) (by rw[isSubtype_type];kernel_rfl) ⟨_,ρ,H,.bool _,S,h⟩)
theorem fF{i:Int}{Q:AV→b0→AH→Prop}(h:Q (.bool false) ρ H):E4 w f fx X "isinstance" [.int i,.lit (.type "bool")] ρ H Q:=by
 refine y8 ?_
 rintro _ s S
 exact a6 (call_isinstance (PySem.isinstance_false_int (T:= "bool") (by decide) (by rfl) (by rw[isSubtype_type];kernel_rfl)) ⟨_,ρ,H,.bool _,S.toks _,h⟩)
theorem gT{e C t:Addr}{d:Option Addr}{tb:AV}{gI:Addr}{Q:AV→b0→AH→Prop}(c:Cx w f fx n) (hi:In1 e (.exc C d t tb) H) (ho:I8 w.params C gI=true) (h:Q (.bool true) ρ H):E4 w f fx X "isinstance" [.ref e,.ref C] ρ H Q:=by
 refine y8 ?_
 intro s hz90;obtain⟨m,news,S⟩:=hz90
 refine g4 (S.excAt hi) fun o tbv v2 v3 v4 v5 k1 k2 k3 k4 k5=>?_
 have t1:Looks (model pw w) s.heap (typeOf (.ref e)) (.ref C):=by
  have:Looks (model pw w) s.heap (typeOf (.ref e)) o.cls:=(Looks.ld (S.freed k1)).andThen .now
  rwa [k3] at this
 refine a6 (call_isinstance_of ?_ (by intro e;cases e))
 unfold Builtin.«isinstance.nested»
 refine wpAny_bind (t1.here ?_)
 refine(?_:wpAny _ _ (if (Value.ref C == Value.ref C)=true then _ else _) _ _ s)
 rw[if_pos (by simp)]
 repeat (first |refine wpAny_pure ?_ |refine wpAny_rule ?_ |refine wpAny_bind ?_)
 exact⟨_,ρ,H,.bool _,⟨m,news,S⟩,h⟩
end
end
section
open Sem (wp)
section
variable{w:World}{f:FI}{fx:Fx}{X:AV→b0→AH→Prop}{ρ:b0}{H:AH}{n:Nat}
noncomputable def QJ(P:Params):Bool:=match findCls (KG P) (.type "int") (.type "type") (PySem.Str.ofString "from_bytes") with
 | some (.get (.builtin g) (.builtin i) .none (.type T))=>g == "classmethod_descriptor.__get__" && i == "int.from_bytes" && T == "int"
 | _=>false
-- from_bytes
theorem QK(P:Params):QJ P=true:=by kernel_rfl
noncomputable def Dw(b:List UInt8):Int:=KFB.value (b.map fun c=>((c.toNat:Nat):Int)).reverse
inductive KFb (x:Addr) (Q:AV→b0→AH→Prop) (v:AV) (ρ:b0) (H:AH):Prop
 | mk (b:List UInt8) (H₂:AH) (e:v=.bytes b) (hl:b.length≤8) (e2:H=(x,.raw KFB.bound)::H₂) (q:Q (.int (Dw b)) ρ H₂)
theorem U5{e:Expr}{k:Nat}{p:Pos}{Q:AV→b0→AH→Prop}(c:Cx w f fx n) (hns:∀v p,e≠.Starred v p)
  (h:∀x,Ev w f fx X e ρ ((x,.raw KFB.bound)::H) (KFb x Q)):I6 w f fx X (.lit (.type "int")) "from_bytes" [e,.Constant (.str (PySem.Str.ofString "little")) k p] ρ H Q:=by
 refine I5 ?_
 rintro pos pl s ⟨m,news,S⟩
 have ho:=QK w.params
 unfold QJ at ho
 split at ho
 ·rename_i g i T q
  simp only[Bool.and_eq_true,beq_iff_eq] at ho
  refine oA (ho) fun zq1 zq4=>?_;refine oA (zq1) fun zq2 zq3=>?_;subst zq2;subst zq3;subst zq4
  refine a6 (KFB.getm S.fr S.nw (S.K c) q fun x h' F' N' lt=>?_)
  have S₁:Sat' f fx ρ ((x,.raw KFB.bound)::H) { s with heap:=h',toks:=s.toks+1 } m ((x,KFB.bound)::news):=by
   refine⟨F',N',S.rho,fun p hp=>?_,List.nodup_cons.mpr ⟨fun q=>?_,S.keys⟩,List.nodup_cons.mpr ⟨fun q=>?_,S.nodup⟩,S.gens,S.os⟩
   ·rcases List.mem_cons.mp hp with rfl |hp
    ·exact⟨_,.head _,.raw _⟩
    ·refine f9 (S.items p hp) fun o h1 h2=>?_
     exact⟨o,.tail _ h1,h2⟩
   ·refine f9 (List.mem_map.mp q) fun p hp e=>?_
    refine f9 (S.items p hp) fun o h1 _=>?_
    exact absurd (lt _ h1) (by rw[show p.1=x from e];exact Nat.lt_irrefl _)
   ·refine f9 (List.mem_map.mp q) fun p hp e=>?_
    exact absurd (lt p hp) (by rw[show p.1=x from e];exact Nat.lt_irrefl _)
  dsimp only
  have he:starEach [e,.Constant (.str (PySem.Str.ofString "little")) k p] (f.env fx)=(false,eval e (f.env fx))::starEach [.Constant (.str (PySem.Str.ofString "little")) k p] (f.env fx):=by
   cases e <;> first |rfl |exact absurd rfl (hns _ _)
  refine Q4 (P:=fun h=>h.get? x=some KFB.bound) ?_ (fun h hb=>⟨.machine,.inr (.inl rfl),?_⟩) ?_
  ·rw[he];rfl
  ·unfold keeperOf
   exact(Looks.ld hb).andThen .now
  ·rw[he]
   refine bQ (D6 (b6 (h x _ ⟨m,_,S₁⟩) (fun v s₁ hh=>?_) fun _ _ x=>x))
   obtain⟨b',ρ₁,H₁,r,S₂,b,H₂,rfl,hz,rfl,hQ⟩:=hh
   refine D6 ?_
   refine a6 (wpAny_Constant_str (k:=k) (pos:=p) ?_)
   refine N6 ?_
   obtain⟨m₂,news₂,S₂⟩:=S₂
   refine f9 (S₂.items _ (.head _)) fun o h1 h2=>?_
   obtain rfl:=RepO.inv h2
   cases r with
   | bytes _ t=>
    refine⟨S₂.freed h1,a6 (KFB.call_little (N:=S₂.nw) h1 rfl (by rw[KBw.ints_length,List.size_toArray];exact hz) fun t' k'=>?_)⟩
    have hsub:Sat f fx ρ₁ H₂ s₁:=Sat.sub ⟨m₂,news₂,S₂⟩ (fun p hp=>.tail _ hp) (List.nodup_cons.mp S₂.keys).2
    exact⟨_,ρ₁,H₂,.int _ _,hsub.toks _,hQ⟩
 ·cases ho
end
end
section
open Sem (wp)
open Builtin Builtin.Bytes
theorem iS:Slot "bytes" "join" "bytes.join":=
 .of (owner:= "bytes") (n:= "join") (by rw[typeLookup_type,builtinLookup_eq_fast];kernel_rfl) (by decide +kernel) (by decide +kernel) (by decide +kernel)
  (by exact .inr (by decide +kernel)) (by rw[isSubtype_type];kernel_rfl)
theorem vW:entryFor table "bytes.join" = some Builtin.«bytes.join»:=by exact entryFor_of_fast (by kernel_rfl)
theorem AD(u v:Value):argsOk "bytes.join" ⟨[u,v],[]⟩:=by unfold argsOk;kernel_rfl
theorem bC:PlainAttrs "bytes":=
 ⟨⟨"bytes.__getattribute__",by rw[typeLookup_type,builtinLookup_eq_fast];kernel_rfl,by decide +kernel⟩,by rw[typeLookup_type,builtinLookup_eq_fast];kernel_rfl⟩
theorem FR:typeOf (.builtin "bytes.join")=pure (.type "method_descriptor"):=by kernel_rfl
section
variable{w:World}{A:Around}{E:Value→Shared→Prop}{s:Shared}{l:Addr}
theorem fG{Q:Unit→Shared→Prop}:∀ {vs:List (Value×Option Value)}{keep:List Value},(∀p∈vs,p.2=none)→Q () s→wpAny (model pw w) A (joinLetGo vs keep) Q E s
 | [],_,_,h=>wpAny_pure h
 | (x,o)::r,keep,hn,h=>by
  have:o=none:=hn (x,o) (.head _)
  subst this
  unfold joinLetGo
  refine wpAny_bind (wpAny_letGo ?_)
  exact fG (fun p hp=>hn p (.tail _ hp)) h
theorem S3{o:Obj}{items:Array Value}{k:Nat}{Q:Option (Array Value)→Shared→Prop}(ho:s.heap.get? l=some o) (hd:o.data=.seq items k) (h:Q (some items) s):wpAny (model pw w) A (seqItems? (.ref l)) Q E s:=by
 unfold seqItems?
 first
  | (refine wpAny_bind (wpAny_load ho ?_);rw[hd];exact wpAny_pure h)
  | (refine wpAny_bind (wpAny_loadPart ho ?_);rw[hd];exact wpAny_pure h)
theorem FS{b:Array UInt8}{t u:Tok}{Q:Fin→Shared→Prop}(hl:s.heap.IsList l #[.bytes b t]) (h:Q (.done (.ret (.bytes b t))) s) :
  wpAny (model pw w) A (Builtin.«bytes.join» ⟨[.bytes #[] u,.ref l],[]⟩) Q E s:=by
 refine pK (id hl) fun o ho hc k hd=>?_
 have hT:=hl.typeIs
 unfold Builtin.«bytes.join» joinM
 refine wpAny_bind (wpAny_of_eq (a:=(Value.bytes #[] u,Value.ref l)) rfl ?_)
 dsimp only
 refine bm_if_true (by decide) ?_
 unfold joinItems
 refine wpAny_bind (wpAny_bind (wpAny_typeOf hT ?_))
 refine bm_if_true (by decide) ?_
 refine wpAny_pure ?_
 refine wpAny_bind (S3 ho hd ?_)
 dsimp only
 refine bm_if_true (by decide) ?_
 refine wpAny_bind (wpAny_typeOf (typeIs_bytes s b t) ?_)
 refine bm_if_true (by decide) ?_
 exact wpAny_bind (wpAny_rule (wpAny_pure h))
theorem qX{σ:Type}{n:Nat}{f:Nat→σ→Sem (ForInStep σ)}{st:Nat→σ}{Q:σ→Shared→Prop}(h0:Q (st n) s)
  (step:∀i,i<n→∀(Q':ForInStep σ→Shared→Prop),Q' (.yield (st (i+1))) s→wpAny (model pw w) A (f i (st i)) Q' E s):wpAny (model pw w) A (forIn [0:n] (st 0) f) Q E s:=by
 rw[Std.Legacy.Range.forIn_eq_forIn_range']
 have key:∀k i,i+k=n→wpAny (model pw w) A (forIn (List.range' i k 1) (st i) f) Q E s:=by
  intro k
  induction k with
  | zero=>intro i hi;rw[show i=n by assumption];exact wpAny_pure h0
  | succ k ih=>
   intro i hi
   rw[List.range'_succ,List.forIn_cons]
   exact wpAny_bind (step i (by exact IY hi) _ (ih (i+1) (by exact KK hi)))
 have:=key n 0 (by exact Nat.add_comm _ _)
 simpa [Std.Legacy.Range.size] using this
noncomputable abbrev Dx(bs:List (List UInt8×Tok)):List Value:=bs.map fun p=>Value.bytes p.1.toArray p.2
theorem fH:∀(ps:List (List UInt8)) (k:Nat) (acc:List UInt8),((ps.map List.toArray).zipIdx k).foldl (fun(out:Array UInt8) (p:Array UInt8×Nat)=>(if p.2 > 0 then out++ #[] else out)++p.1) acc.toArray=(acc++ps.flatten).toArray
 | [],k,acc=>by simp
 | p::ps,k,acc=>by
  rw[List.map_cons,List.zipIdx_cons,List.foldl_cons]
  have e:((if k > 0 then acc.toArray++ #[] else acc.toArray)++p.toArray:Array UInt8)=(acc++p).toArray:=by split <;> simp
  dsimp only
  rw[e,fH ps (k+1) (acc++p)]
  simp
theorem AE(ps:List (List UInt8)):joined #[] (ps.map List.toArray)=ps.flatten.toArray:=by
 have:=fH ps 0 []
 unfold joined
 simpa using this
theorem fI:∀(ps:List (List UInt8)) (a:Nat),(ps.map List.toArray).foldl (fun(n:Nat) (b:Array UInt8)=>n+b.size) a=a+ps.flatten.length
 | [],a=>by simp
 | p::ps,a=>by rw[List.map_cons,List.foldl_cons,fI ps,List.flatten_cons,List.length_append,List.size_toArray];exact Ll
noncomputable def gU(bs:List (List UInt8×Tok)) (i:Nat):Array (Array UInt8)×List (Value×Option Value):=(((bs.take i).map fun p=>p.1.toArray).toArray,(bs.take i).map fun p=>(Value.bytes p.1.toArray p.2,none))
theorem Dy(bs:List (List UInt8×Tok)):gU bs bs.length=((bs.map fun p=>p.1.toArray).toArray,bs.map fun p=>(Value.bytes p.1.toArray p.2,none)):=by unfold gU;rw[List.take_length]
theorem AG(bs:List (List UInt8×Tok)):(bs.map fun p=>p.1.toArray).toArray.foldl (fun(n:Nat) (b:Array UInt8)=>n+b.size) ((#[]:Array UInt8).size*((bs.map fun p=>p.1.toArray).toArray.size - 1))=(bs.map (·.1)).flatten.length:=by
 have e4:=fI (bs.map (·.1)) 0
 rw[List.map_map] at e4
 simpa [Function.comp_def] using e4
theorem Dz(bs:List (List UInt8×Tok)) (i:Nat) (hi:i<bs.length):(Dx bs).toArray.getD i .none=.bytes (bs[i]).1.toArray (bs[i]).2:=by simp [hi]
theorem AI(bs:List (List UInt8×Tok)) (i:Nat) (hi:i<bs.length):((gU bs i).1.push (bs[i]).1.toArray,(gU bs i).2++[(Value.bytes (bs[i]).1.toArray (bs[i]).2,none)])=gU bs (i+1):=by
 unfold gU
 rw[List.take_succ_eq_append_getElem hi,List.map_append,List.map_append,List.push_toArray]
 rfl
theorem Iz{α:Type}:∀ {l:List α},2≤l.length→∃p q r,l=p::q::r
 | [],h=>absurd h (by simp)
 | [p],h=>absurd h (by simp)
 | p::q::r,_=>⟨p,q,r,rfl⟩
theorem IA{bs:List (List UInt8×Tok)}{u:Tok}{Q:Fin→Shared→Prop}(hl:s.heap.IsList l (Dx bs).toArray) (h2:2≤bs.length) (hz:(bs.map (·.1)).flatten.length≤1000000) (h:∀t k,Q (.done (.ret (.bytes (bs.map (·.1)).flatten.toArray t))) { s with toks:=k }) :
  wpAny (model pw w) A (Builtin.«bytes.join» ⟨[.bytes #[] u,.ref l],[]⟩) Q E s:=by
 obtain⟨p₁,p₂,r,zq1⟩:=Iz h2;subst zq1
 refine pK (id hl) fun o ho hc k hd=>?_
 have hT:=hl.typeIs
 have hsz:(Dx (p₁::p₂::r)).toArray.size=(p₁::p₂::r).length:=by simp
 unfold Builtin.«bytes.join» joinM
 refine wpAny_bind (wpAny_of_eq (a:=(Value.bytes #[] u,Value.ref l)) rfl ?_)
 dsimp only
 refine bm_if_true (by decide) ?_
 unfold joinItems
 refine wpAny_bind (wpAny_bind (wpAny_typeOf hT ?_))
 refine bm_if_true (by decide) ?_
 refine wpAny_pure ?_
 refine wpAny_bind (S3 ho hd ?_)
 dsimp only
 refine bm_if_true (by decide) ?_
 ·have e0:gU (p₁::p₂::r) 0=(#[],[]):=by simp [gU]
  refine wpAny_bind ?_
  rw[← e0]
  refine qX (n:=(Dx (p₁::p₂::r)).toArray.size) (st:=gU (p₁::p₂::r)) ?_ fun i hi Q' hQ'=>?_
  ·rw[hsz,Dy]
   refine wpAny_bind (wpAny_of_eq (a:= #[]) rfl ?_)
   dsimp only
   rw[AG]
   refine bm_if_false (KBy.tooLong_not (by exact Gk hz)) ?_
   have e3:joined #[] ((p₁::p₂::r).map fun p=>p.1.toArray).toArray.toList=((p₁::p₂::r).map (·.1)).flatten.toArray:=by
    rw[← AE,List.map_map]
    rfl
   rw[e3]
   refine wpAny_bind (wpAny_mkBytes ?_ (by rw[List.size_toArray,sizeLine_eq];exact Gk hz))
   refine wpAny_bind (wpAny_holding (wpAny_point ?_))
   refine wpAny_bind (fG (fun p hp=>?_) (wpAny_pure (h _ _)))
   refine f9 (List.mem_map.mp hp) fun q _ zq1=>?_;subst zq1
   rfl
  ·rw[hsz] at hi
   refine wpAny_bind (S3 ho hd ?_)
   dsimp only
   have eh:(gU (p₁::p₂::r) i).2.any (fun x=>x.1.onHeap)=false:=by
    rw[List.any_eq_false]
    intro p hp
    refine f9 (List.mem_map.mp hp) fun q _ zq1=>?_;subst zq1
    exact Bool.false_ne_true
   rw[eh]
   refine bm_if_false (by decide) ?_
   rw[Dz _ _ hi]
   refine wpAny_bind (wpAny_holding (wpAny_of_eq eR ?_))
   dsimp only
   refine wpAny_bind (S3 ho hd ?_)
   dsimp only
   refine bm_if_false (by simp) ?_
   have ey:=AI _ _ hi
   rw[ey]
   exact wpAny_pure hQ'
end
end
section
open Sem (wp)
section
variable{w:World}{f:FI}{fx:Fx}{X:AV→b0→AH→Prop}{ρ:b0}{H:AH}{n:Nat}
theorem fJ:∀ {bl:List (List UInt8)}{vs:List Value},All2 Rep (bl.map AV.bytes) vs→∃bs:List (List UInt8×Tok),vs=Dx bs∧bs.map (·.1)=bl
 | [],_,.nil=>⟨[],rfl,rfl⟩
 | b::bl,_,.cons r rs=>by
  refine f9 (fJ rs) fun bs e1 e2=>?_
  cases r with
  | bytes _ t=>exact⟨(b,t)::bs,by rw[e1];rfl,by rw[List.map_cons,e2]⟩
theorem AJ{A:Around}{E:Value→Shared→Prop}{s:Shared}{l:Addr}{bl:List (List UInt8)}{vs:List Value}{u:Tok}{Q:Value→Shared→Prop}(r:All2 Rep (bl.map AV.bytes) vs) (hl:s.heap.IsList l vs.toArray) (h1:1≤bl.length) (hz:bl.flatten.length≤1000000)
  (h:∀t k,Q (.bytes bl.flatten.toArray t) { s with toks:=k }):wpAny (model pw w) A (call (.builtin "bytes.join") [.bytes #[] u,.ref l]) Q E s:=by
 refine f9 (fJ r) fun bs zq1 zq2=>?_;subst zq1;subst zq2
 refine wpAny_call_entry iS (typeIs_bytes s _ u) vW ?_ (AD _ _)
 match bs,h1 with
 | [p],_=>
  refine FS hl ⟨_,rfl,?_⟩
  have:=h p.2 s.toks
  simpa using this
 | p::q::r',_=>exact IA (bs:=p::q::r') hl (by simp) hz fun t k=>⟨_,rfl,h t k⟩
inductive QL (Q:AV→b0→AH→Prop) (vs:List AV) (ρ:b0) (H:AH):Prop
 | mk (l:Addr) (bl:List (List UInt8)) (e:vs=[.ref l]) (i:In1 l (.list (bl.map AV.bytes)) H) (h1:1≤bl.length) (hl:bl.flatten.length≤1000000) (q:Q (.bytes bl.flatten) ρ H)
theorem xZ{e:Expr}{Q:AV→b0→AH→Prop}(c:Cx w f fx n)
  (h:Ea w f fx X [e] ρ H (QL Q))
  (he:autoParam (starEach [e] (f.env fx)=(false,eval e (f.env fx))::starEach [] (f.env fx)) kR):I6 w f fx X (.bytes []) "join" [e] ρ H Q:=by
 refine I5 ?_
 rintro _ pos pl s S
 refine a6 (getMethod_builtin (typeIs_bytes s _ _) bC iS FR (fun a' e=>by cases e) ?_)
 have hh:=h pos s S
 dsimp only
 rw[he] at hh ⊢
 refine eN (by rfl) (bQ (b6 hh (fun vs s₁ q=>?_) fun _ _ x=>x))
 obtain⟨bs,ρ₁,H₁,rs,⟨m₁,news₁,S₁⟩,l,bl,rfl,hi,h1,hz,hQ⟩:=q
 refine p8 (S₁.listAt hi) fun vs' o r h2 h3=>?_
 cases rs with
 | cons r1 r2=>
  cases r2
  obtain rfl:=Rep.inv r1
  exact a6 (AJ r h3 h1 hz fun t k=>⟨_,ρ₁,H₁,.bytes _ _,⟨m₁,news₁,S₁.toks _⟩,hQ⟩)
end
end
section
open Sem (wp)
theorem AK(A:Around):A.mark none=A:=by cases A;rfl
section
variable{prog:Program}{w:World}{A:Around}{E:Value→Shared→Prop}{R:Result→Shared→Prop}{s:Shared}{env:Env}
theorem qY{α:Type}{M:Model}{m:Sem α}{Q:α→Shared→Prop}(h:c8 M A m Q (fun x s'=>c8 M A (do noteFrame x env;standAt theWindowsPlace) (fun _ s''=>E x s'') E s') s):c8 M A (m.onRaise fun x=>do noteFrame x env;standAt theWindowsPlace) Q E s:=j8 h
theorem vX{elt target iter ifs rest scope pos it acc}(h0:j4 (model prog w) A (.compLoop (.ListComp elt (⟨target,iter,ifs,0⟩::rest) scope pos) 0 it acc env) R s)
  (h:c8 (model prog w) A (pyIter it) (fun it' s'=>j4 (model prog w) A (.compLoop (.ListComp elt (⟨target,iter,ifs,0⟩::rest) scope pos) 0 it' acc env) R s') (fun _ _=>False) s) :
  j4 (model prog w) A (.compStart (.ListComp elt (⟨target,iter,ifs,0⟩::rest) scope pos) 0 it acc env) R s:=by
 refine d7 ?_
 show c8 _ A ((compStart (.ListComp elt (⟨target,iter,ifs,0⟩::rest) scope pos) 0 it acc env).onRaise (fun x=>do noteFrame x env;standAt theWindowsPlace)) _ _ s
 refine qY ?_
 unfold compStart
 refine(?_:c8 _ _ (ask >>= _) _ _ s)
 refine a7 (a6 (wpAny_askSetting ?_))
 have a0:c8 (model prog w) A (again (.compLoop (.ListComp elt (⟨target,iter,ifs,0⟩::rest) scope pos) 0 it acc env)) (fun fin s'=>match fin with | .done f=>R (.ok f) s' | .again c'=>c'.quiet=true∧x5 c'=true∧j4 (model prog w) A c' R s')
   (fun x s'=>c8 (model prog w) A (do noteFrame x env;standAt theWindowsPlace) (fun _ s''=>R (.error x) s'') (fun e s'=>R (.error e) s') s') s:=b7 ⟨rfl,rfl,h0⟩
 refine EN ?_
 split
 ·first
   | exact a7 a0
   | exact a0
 ·refine a7 (a6 (wpAny_rule ?_))
  refine(?_:c8 _ _ (standAt iter.pos >>= _) _ _ s)
  refine a7 (c3 (a7 (b6 h (fun it' s' h'=>?_) fun _ _ x=>x.elim)))
  exact b7 ⟨rfl,rfl,h'⟩
theorem AL{elt target iter:Expr}{scope:Scope}{pos:Pos}{it acc:Value}(I:Nat→Shared→Prop)
  (turn:∀n s,I n s→c8 (model prog w) A (pyNext it) (fun r s₁=>match r with
   | none=>R (.ok .next) s₁
   | some v=>c8 (model prog w) A (letOwnedTupleGo target it v) (fun _ s₁'=>c8 (model prog w) A (assign target env v) (fun _ s₂=>c8 (model prog w) A (eval elt env) (fun x s₃=>
     c8 (model prog w) A (call (.builtin "list.append") [acc,x]) (fun _ s₄=>∃m,m<n∧I m s₄) (fun _ _=>False) s₃) (fun _ _=>False) s₂) (fun _ _=>False) s₁') (fun _ _=>False) s₁) (fun _ _=>False) s)
  (n:Nat) (h:I n s):j4 (model prog w) A (.compLoop (.ListComp elt [⟨target,iter,[],0⟩] scope pos) 0 it acc env) R s:=by
 refine V5 rfl I (fun n s hI=>?_) n h
 show c8 _ A ((compTurn (.ListComp elt [⟨target,iter,[],0⟩] scope pos) 0 it acc env).onRaise (fun x=>do noteFrame x env;theTreesLotGoes x)) _ _ s
 refine j8 ?_
 rw[compTurn_list1]
 refine a7 (c3 (a7 (b6 (turn n s hI) (fun r s₁ h₁=>?_) fun _ _ h'=>h'.elim)))
 cases r with
 | none=>exact b7 h₁
 | some v=>
  refine a7 (b6 h₁ (fun _ s₁' h₁'=>?_) fun _ _ h'=>h'.elim)
  refine a7 (b6 h₁' (fun _ s₂ h₂=>?_) fun _ _ h'=>h'.elim)
  refine a7 (a7 (b6 h₂ (fun x s₃ h₃=>?_) fun _ _ h'=>h'.elim))
  refine a7 (b6 h₃ (fun _ s₄ h₄=>?_) fun _ _ h'=>h'.elim)
  exact b7 (b7 (.inl ⟨rfl,h₄⟩))
theorem qZ{α:Type}{M:Model}{E:Value→Shared→Prop}{c:Prop} [Decidable c] {pos:Pos}{k:PUnit→Sem α}{Q:α→Shared→Prop}(h:c8 M A (k ()) Q E s):c8 M A (if c then(standAt pos >>= k) else k ()) Q E s:=by
 split
 ·exact a7 (c3 h)
 ·exact h
theorem fK{M:Model}{e:Expr}{scope:Scope}{pos:Pos}{newAcc first:Sem Value}{g:Comprehension}{gs:List Comprehension}{cl:List (Str×Addr)}{Q:Value→Shared→Prop}
  (hcl:clausesOf e=g::gs) (hs:∀x,foldedSetIterable g.iter env x=pure x) (hclos:closureFor scope env=pure cl)
  (hkind:scope.kind=.function) (hnames:∀x∈scope.names,x.2=.local→scope.names.lookup x.1=some .local)
  (h:c8 M A first (fun x s₁=>c8 M A (pyIter x) (fun it s₂=>c8 M A newAcc (fun acc s₃=>
   c8 M A (newFunctionEnv scope env.globals cl [] env.qual none .none (some env)) (fun cenv s₄=>
    j4 M A (.compStart e 0 it acc { cenv with scope:=PySem.relabel scope env }) (fun r s'=>match r with
     | .ok _=>∃m,s'.heap.Ns cenv.locals m∧∀h' m',h'.Ns cenv.locals m'→Heap.SameBut cenv.locals s'.heap h'→Q acc { s' with heap:=h' }
     | .error x=>False) s₄) E s₃) E s₂) E s₁) E s) :
  c8 M A (comprehension e scope env pos newAcc false first none) Q E s:=by
 unfold comprehension
 rw[hclos,hcl]
 refine a7 (b6 h (fun x s₁ h₁=>a7 (c3 (a7 (a6 (wpAny_of_eq (hs x) ?_))))) fun _ _ h'=>h')
 refine a7 (c0 (b6 h₁ (fun it s₂ h₂=>?_) fun _ _ h'=>h'))
 refine qZ (a7 (b6 h₂ (fun acc s₃ h₃=>a7 (b7 (a7 (b6 h₃ (fun cenv s₄ h₄=>?_) fun _ _ h'=>h')))) fun _ _ h'=>h'))
 dsimp only
 have hv:∀x∈(scope.names.filter fun x=>(x.2 == .local || x.2 == .cell) && x.1 != (".0":Str)).reverse,x.2=.local→
   Env.kindOf { cenv with scope:=PySem.relabel scope env } x.1=some .local:=fun x hx hl=>lookup_relabel_local (hnames x (List.mem_filter.mp (List.mem_reverse.mp hx)).1 hl)
 refine c0 (a7 (N3 (c0 (dD rfl (w0 (A:=A.mark none) (by rw[AK];exact h₄) fun r s' hr=>?_)))))
 cases r with
 | ok f=>
  refine f9 (hr) fun m hn hr=>?_
  exact a7 (c0 (a6 (wpAny_comp_letGo (cenv:= { cenv with scope:=PySem.relabel scope env }) hkind _ s' m hv hn fun h' m' hn' hs'=>b7 (hr h' m' hn' hs'))))
 | error x=>exact hr.elim
end
end
section
open Sem (wp)
theorem Put1.app{α β:Type}{k:α}{v:β}{l l':List (α×β)}(h:Put1 k v l l'):∀m:List (α×β),Put1 k v (m++l) (m++l')
 | []=>h
 | p::m=>.there (Put1.app h m)
theorem In1.app{α β:Type}{k:α}{v:β}{l:List (α×β)}(h:In1 k v l):∀m:List (α×β),In1 k v (m++l)
 | []=>h
 | p::m=>.there (In1.app h m)
structure Z3 (w:World) (fc:FI) (fxc:Fx) (target:Expr) {β:Type}(mk:Addr→β→AH) (P:Addr→Nat→β→Prop) (N:Nat) (ρs:Nat→b0) (GC:AH→Prop):Prop where
 mono:∀p G,GC G→GC (p::G)
 self:∀ {E:Value→Shared→Prop}{Q:Value→Shared→Prop}{ρ:b0}{G:AH}{s:Shared}{I:Addr}{i:Nat}{b:β},P I i b→Sat fc fxc ρ (mk I b++G) s→Q (.ref I) s→wpAny (model pw w) fxc.A (pyIter (.ref I)) Q E s
 step:∀ {E:Value→Shared→Prop}{Q':Unit→Shared→Prop}{ρ:b0}{G:AH}{s:Shared}{I:Addr}{i:Nat}{b:β},ρ.map (·.1)=fc.locs→i<N→P I i b→GC G→Sat fc fxc ρ (mk I b++G) s→
  (∀s' b',P I (i+1) b'→Sat fc fxc (ρs i) (mk I b'++G) s'→Q' () s')→
  wpAny (model pw w) fxc.A (pyNext (.ref I)) (fun r s₁=>∃v,r=some v∧wpAny (model pw w) fxc.A (letOwnedTupleGo target (.ref I) v) (fun _ s₂=>wpAny (model pw w) fxc.A (assign target (fc.env fxc) v) Q' E s₂) E s₁) E s
 done:∀ {E:Value→Shared→Prop}{Q:Option Value→Shared→Prop}{ρ:b0}{G:AH}{s:Shared}{I:Addr}{b:β},P I N b→GC G→Sat fc fxc ρ (mk I b++G) s→(∀s',Sat fc fxc ρ G s'→Q none s')→wpAny (model pw w) fxc.A (pyNext (.ref I)) Q E s
inductive DA {β:Type}(f:FI) (fx:Fx) (mk:Addr→β→AH) (P:Addr→Nat→β→Prop) (ρ:b0) (G:AH) (it:Value) (s:Shared):Prop
 | mk (I:Addr) (b:β) (e:it=.ref I) (p:P I 0 b) (S:Sat f fx ρ (mk I b++G) s)
inductive QM (ps:AH) (J:List AV→AH→Prop) (xs:List AV) (v:AV) (ρ:b0) (H:AH):Prop
 | mk (G:AH) (d:DelN ps H G) (j:J (xs++[v]) G)
inductive QN {β:Type}(w:World) (f:FI) (fx:Fx) (n:Nat) (fc:FI) (mk:Addr→β→AH) (elt target:Expr) (locs:List Str) (cl:List (Str×Addr)) (Q:AV→b0→AH→Prop) (v:AV) (ρ:b0) (H:AH):Prop
 | mk (P:Addr→Nat→β→Prop) (N:Nat) (ρs:Nat→b0) (GC:AH→Prop) (J:Nat→List AV→AH→Prop) (G:AH)
   (h1:∀(E:Value→Shared→Prop) s cv,Rep v cv→Sat f fx ρ H s→wpAny (model pw w) fx.A (pyIter cv) (DA f fx mk P ρ G) E s)
   (h2:∀fxc:Fx,fxc.A=fx.A→Cx w fc fxc n→Z3 w fc fxc target mk P N ρs GC) (h3:∀i,(ρs i).map (·.1)=locs) (h4:N≤100000) (h5:J 0 [] G) (h6:∀i xs G,J i xs G→GC G)
   (h7:∀(fxc:Fx) i xs G I b acc,Cx w fc fxc n→fxc.A=fx.A→fxc.cells=cl→i<N→P I (i+1) b→J i xs G→
    Ev w fc fxc (fun _ _ _=>False) elt (ρs i) (mk I b++(acc,.list xs)::G) (QM (mk I b++[(acc,.list xs)]) (J (i+1)) xs))
   (h8:∀xs G acc,xs.length=N→J N xs G→Q (.ref acc) ρ ((acc,.list xs)::G))
section
variable{w:World}{f:FI}{fx:Fx}{X:AV→b0→AH→Prop}{ρ:b0}{H:AH}{n:Nat}
theorem cA{β:Type}{mk:Addr→β→AH}{elt target iter:Expr}{scope:Scope}{pos:Pos}{locs:List Str}{cl:List (Str×Addr)}{fc:FI}{Q:AV→b0→AH→Prop}(c:Cx w f fx n) (hh:fx.A.handled=none)
  (hclos:closureFor scope (f.env fx)=pure cl) (hfc:fc=⟨f.qual,PySem.relabel scope (f.env fx),none,f.cd,locs⟩) (okc:fc.Ok)
  (hcell:∀x∈scope.names,x.2≠.cell) (hkind:scope.kind=.function) (hnames:∀x∈scope.names,x.2=.local→scope.names.lookup x.1=some .local)
  (h:Ev w f fx X iter ρ H (QN w f fx n fc mk elt target locs cl Q))
  (hs:autoParam (∀x,foldedSetIterable iter (f.env fx) x=pure x) kI) :
  Ev w f fx X (.ListComp elt [⟨target,iter,[],0⟩] scope pos) ρ H Q:=by
 subst hfc
 let fc:FI:=⟨f.qual,PySem.relabel scope (f.env fx),none,f.cd,locs⟩
 intro s S
 rw[eval_ListComp]
 refine fK (g:=⟨target,iter,[],0⟩) (gs:=[]) rfl hs hclos hkind hnames ?_
 refine(?_:c8 _ _ (eval iter (f.env fx)) _ _ _)
 refine b6 (h s S) (fun v s₁ hh'=>?_) fun _ _ x=>x
 obtain⟨bv,ρ₁,H₁,r,S₁,P,N,ρs,GC,J,G,hit,hci,hρs,hN,hJ,hGC,hbody,hQ⟩:=hh'
 refine a6 (wpAny_mono (hit _ s₁ v r S₁) (fun it s₂ hh'=>?_) fun _ _ x=>x)
 obtain⟨I,b₀,rfl,hP,m₂,news₂,S₂⟩:=hh'
 refine a6 (wpAny_newObj_type (T:= "list") (data:=.seq ([]:List Value).toArray) ?_ (by show([]:List Value).toArray.size≤sizeLine;decide))
 have S₃:=S₂.push (s':= { s₂ with heap:=s₂.heap.push { cls:=.type "list",data:=.seq ([]:List Value).toArray } }) (ao:=.list []) (o:= { cls:=.type "list",data:=.seq ([]:List Value).toArray }) rfl (.list 0 .nil rfl rfl) rfl rfl rfl
 obtain⟨FF,st⟩:=S₃.ff c
 refine a6 (wpAny_newFunctionEnv hcell (by intro y hy;simp at hy) (fun h₁ hns hsb=>?_) hkind)
 let acc:=s₂.heap.objs.size
 let hp₃:=s₂.heap.push { cls:=.type "list",data:=.seq ([]:List Value).toArray }
 let g:=hideAll hp₃ (((s₂.heap.objs.size,({ cls:=.type "list",data:=.seq ([]:List Value).toArray }:Obj))::news₂).map (·.1))
 let C:=hp₃.objs.size
 let fxc:Fx:=⟨fx.A,fx.base,fx.stk,fx.stk,g,C,fx.frame,cl,fx.os⟩
 have henv:({ (newEnv scope C (f.env fx).globals cl (f.env fx).qual none .none (some (f.env fx)) builtinsNs) with scope:=PySem.relabel scope (f.env fx) }:Env)=fc.env fxc:=by rfl
 have gd:N7 fxc g:=⟨fun _ e=>e,fun b o e=>⟨o.slots,e⟩,fun b o e=>st b o (m₂.gd.stays b o e),FF⟩
 have cx:Cx w fc fxc n:=⟨okc,c.frames,.inl rfl,c.K,c.room,c.guards⟩
 have ci:=hci fxc rfl cx
 have nulls:bS fc (locs.map (·,none)) (fun x=>List.lookup x (List.reverse ([]:List (Str×Value)))):=by
  refine⟨?_,fun x v hm=>?_⟩
  ·rw[List.map_map]
   exact List.map_id _
  ·obtain⟨p,hp,e⟩:=List.mem_map.mp hm
   cases e
 have lt₃:∀p∈((s₂.heap.objs.size,({ cls:=.type "list",data:=.seq ([]:List Value).toArray }:Obj))::news₂),p.1≠C:=fun p hp=>Nat.ne_of_lt (Heap.lt_size (S₃.nw p hp).1)
 have keep₁:∀b o,hp₃.get? b=some o→h₁.get? b=some o:=fun b o e=>(hsb.2 b (Nat.ne_of_lt (Heap.lt_size e))).trans (Heap.get?_push_of_some _ e)
 have Sc:Sat' fc fxc (locs.map (·,none)) ((acc,.list [])::(mk I b₀++G)) { s₂ with heap:=h₁,toks:=s₂.toks+0 } ⟨g,gd,_⟩ ((s₂.heap.objs.size,{ cls:=.type "list",data:=.seq ([]:List Value).toArray })::news₂):=
  ⟨⟨hns,fun b o e=>keep₁ _ _ (of_hideAll _ e),Nat.le_of_eq (hideAll_size _ _)⟩,fun p hp=>⟨keep₁ _ _ (S₃.nw p hp).1,lt₃ p hp,hideAll_none _ (List.mem_map_of_mem hp)⟩,nulls,S₃.items,S₃.keys,S₃.nodup,S₃.gens,S₃.os⟩
 have perm0:∀ {b:β}{xs:List AV}{G:AH},((acc,AO.list xs)::(mk I b++G)).Perm (mk I b++(acc,.list xs)::G):=fun{b xs G}=>List.perm_middle.symm
 have Sc0:Sat fc fxc (locs.map (·,none)) (mk I b₀++(acc,.list [])::G) { s₂ with heap:=h₁,toks:=s₂.toks+0 }:=Sat.perm ⟨_,_,Sc⟩ perm0
 -- back to the frame
 have back:∀ {s':Shared}{xs:List AV}{G':AH}{ρc:b0},Sat fc fxc ρc ((acc,.list xs)::G') s'→xs.length=N→J N xs G'→(fun(r:Result) (s':Shared)=>match r with
     | .ok _=>∃m,s'.heap.Ns C m∧∀h' m',h'.Ns C m'→Heap.SameBut C s'.heap h'→(pY f fx Rep Q) (.ref acc) { s' with heap:=h' }
     | .error x=>False) (.ok .next) s':=fun{s' xs G' ρc} ⟨m',news',S'⟩ hl hJ'=>by
  refine⟨_,S'.fr.ns,fun h' mm hn hs'=>?_⟩
  have S'':Sat' fc fxc (locs.map (·,none)) ((acc,.list xs)::G') { s' with heap:=h' } (m'.set mm) news':=by
   refine⟨S'.fr.set hn hs',S'.nw.set hs',⟨?_,fun x v hm=>?_⟩,S'.items,S'.keys,S'.nodup,S'.gens,S'.os⟩
   ·rw[List.map_map]
    exact List.map_id _
   ·obtain⟨p,hp,e⟩:=List.mem_map.mp hm
    cases e
  refine⟨.ref acc,ρ₁,_,.ref _,?_,hQ xs G' acc hl hJ'⟩
  obtain⟨oL,es,ep,hLs,r⟩:=S₃.fr.ns
  exact S₃.back (fx':=fxc) st ⟨oL,hLs,hideAll_get _ hLs fun q=>by
   obtain⟨p,hp,e⟩:=List.mem_map.mp q
   exact(S₃.nw p hp).2.1 e⟩ rfl rfl S''
 have loop:∀s₅:Shared,(∃ρc b,ρc.map (·.1)=locs∧P I 0 b∧Sat fc fxc ρc (mk I b++(acc,.list [])::G) s₅)→j4 (model pw w) fx.A (.compLoop (.ListComp elt [⟨target,iter,[],0⟩] scope pos) 0 (.ref I) (.ref acc) (fc.env fxc)) (fun r s'=>match r with
     | .ok _=>∃m,s'.heap.Ns C m∧∀h' m',h'.Ns C m'→Heap.SameBut C s'.heap h'→(pY f fx Rep Q) (.ref acc) { s' with heap:=h' }
     | .error x=>False) s₅:=fun s₅ hs₅=>by
  refine AL (fun k s'=>∃i xs ρc b G,k=N - i∧i≤N∧xs.length=i∧ρc.map (·.1)=locs∧P I i b∧J i xs G∧Sat fc fxc ρc (mk I b++(acc,.list xs)::G) s') (fun k s' hI=>?_) (N - 0) (by
   obtain⟨ρc,b,h1,h2,h3⟩:=hs₅
   exact⟨0,[],ρc,b,G,rfl,Nat.zero_le _,rfl,h1,h2,hJ,h3⟩)
  obtain⟨i,xs,ρc,b,G',rfl,hi,hxl,hρc,hPi,hJi,S'⟩:=hI
  by_cases hlt:i<N
  ·have lc:fc.locs=locs:=by rfl
   refine b6 (a6 (ci.step (E:=fun _ _=>False) (by rw[lc];exact hρc) hlt hPi (ci.mono _ _ (hGC _ _ _ hJi)) S'
    (Q':=fun _ s₂=>c8 (model pw w) fx.A (eval elt (fc.env fxc)) (fun x s₃=>c8 (model pw w) fx.A (call (.builtin "list.append") [.ref acc,x]) (fun _ s₄=>∃m,m<N - i∧∃i xs ρc b G,m=N - i∧i≤N∧xs.length=i∧ρc.map (·.1)=locs∧P I i b∧J i xs G∧Sat fc fxc ρc (mk I b++(acc,.list xs)::G) s₄) (fun _ _=>False) s₃) (fun _ _=>False) s₂)
    (fun s₂ b' hP' S₂'=>?_))) (fun r s₂ hr=>?_) fun _ _ x=>x
   ·refine b6 (hbody fxc i xs G' I b' acc cx rfl rfl hlt hP' hJi s₂ S₂') (fun x s₃ hx=>?_) fun _ _ ⟨_,_,_,_,_,z⟩=>z
    obtain⟨v,ρ₃,H₃,rv,S₃',G'',hdel,hJ'⟩:=hx
    have S₄:Sat fc fxc ρ₃ (mk I b'++(acc,.list xs)::G'') s₃:=S₃'.perm (by
     have:=hdel.perm
     simpa using this)
    obtain⟨m₄,news₄,S₄⟩:=S₄
    obtain⟨vs,ol,rr,ho,hl⟩:=S₄.listAt (In1.here.app _)
    have hlen:=rr.len
    refine a6 (wpAny_list_append hl (fun h' hl' hs'=>?_) (by rw[List.size_toArray,sizeLine_eq];omega))
    obtain⟨o',ho',hc',k'',hd'⟩:=hl'
    refine⟨N - (i+1),Nat.sub_succ_lt_self _ _ hlt,i+1,xs++[v],ρ₃,b',G'',rfl,hlt,by simp [hxl],?_,hP',hJ',?_⟩
    ·rw[S₄.rho.1]
    ·exact S₄.moved (s':= { s₃ with heap:=h' }) ho (Put1.here.app _) (.list (vs:=vs++[x]) k'' (rr.app (.cons rv .nil)) hc' (by rw[hd'];simp)) ho' (fun b ob hb e=>(hs'.2 b hb).trans e) rfl rfl
   ·obtain⟨v,rfl,h⟩:=hr
    exact b6 (a6 h) (fun _ s₃ h'=>a6 h') fun _ _ x=>x
  ·obtain rfl:i=N:=Nat.le_antisymm hi (Nat.not_lt.mp hlt)
   exact a6 (ci.done hPi (ci.mono _ _ (hGC _ _ _ hJi)) S' fun s₃ S₃'=>back S₃' hxl hJi)
 have lc0:(locs.map (fun x:Str=>(x,(none:Option AV)))).map (·.1)=locs:=by
  rw[List.map_map]
  exact List.map_id _
 refine vX (loop _ ⟨_,b₀,lc0,hP,Sc0⟩) (a6 (ci.self hP Sc0 (loop _ ⟨_,b₀,lc0,hP,Sc0⟩)))
end
end
section
open Sem (wp)
noncomputable abbrev E6(a b:Int) (t u v:Tok):Obj:= { cls:=.type "range",dict:=none,data:=.fields #[.int a t,.int b u,.int 1 v],slots:= #[] }
noncomputable abbrev cB(x left:Int):Obj:= { cls:=.type "range_iterator",dict:=none,data:=.fields #[rawInt x,rawInt left,rawInt 1],slots:= #[] }
section
variable{w:World}{f:FI}{fx:Fx}{X:AV→b0→AH→Prop}{ρ:b0}{H:AH}{n:Nat}
theorem J1{N:Int}{Q:AV→b0→AH→Prop}(h:∀r t u v,Q (.ref r) ρ ((r,.raw (E6 0 N t u v))::H)):M6 w f fx X "range" [.int N] ρ H Q:=by
 refine y8 ?_
 rintro _ s ⟨m,news,S⟩
 rename_i t
 refine a6 (call_range_1 ⟨_,ρ,_,.ref _,⟨m,_,S.push (ao:=.raw (E6 0 N s.toks t (s.toks+1))) (o:=E6 0 N s.toks t (s.toks+1)) rfl (.raw _) rfl rfl rfl⟩,h _ _ _ _⟩)
theorem AM{a b:Int}{Q:AV→b0→AH→Prop}(h:∀r t u v,Q (.ref r) ρ ((r,.raw (E6 a b t u v))::H)):M6 w f fx X "range" [.int a,.int b] ρ H Q:=by
 refine y8 ?_
 rintro _ _ s ⟨m,news,S⟩
 rename_i t u
 refine a6 (call_range_2 ⟨_,ρ,_,.ref _,⟨m,_,S.push (ao:=.raw (E6 a b t u s.toks)) (o:=E6 a b t u s.toks) rfl (.raw _) rfl rfl rfl⟩,h _ _ _ _⟩)
theorem rA{A:Around}{E:Value→Shared→Prop}{s:Shared}{r:Addr}{a b:Int}{t u v:Tok}{Q:Value→Shared→Prop}(S:Sat f fx ρ ((r,.raw (E6 a b t u v))::H) s) (ha:0≤a) (hab:a≤b) (hb:b≤1000000)
  (h:∀I s',Sat f fx ρ ((I,.raw (cB a ((b - a).toNat:Int)))::H) s'→Q (.ref I) s'):wpAny (model pw w) A (pyIter (.ref r)) Q E s:=by
 obtain⟨m,news,S⟩:=S
 refine f9 (S.items _ (.head _)) fun o h1 h2=>?_
 obtain rfl:=RepO.inv h2
 have hsz:Builtin.Range.rangeSize a b 1=((b - a).toNat:Int):=by rw[rangeSize_one];split <;> (first |exact Lr ‹_› |exact Lw ‹_›)
 refine wpAny_pyIter_range (S.freed h1) (small_one (by exact MW ha) (by exact Ls hb hab) (by exact Lm ha hab) (by exact Nh hb)) (h _ _ ?_)
 have S₁:=S.push (s':= { s with heap:=s.heap.push (cB a (Builtin.Range.rangeSize a b 1)) }) (ao:=.raw _) (o:=cB a (Builtin.Range.rangeSize a b 1)) rfl (.raw _) rfl rfl rfl
 rw[hsz] at S₁
 have hx:=Sat.sub (H':=(s.heap.objs.size,.raw (cB a ((b - a).toNat:Int)))::H) ⟨m,_,S₁⟩ (fun p hp=>by
  rcases List.mem_cons.mp hp with rfl |hp
  ·exact .head _
  ·exact .tail _ (.tail _ hp)) (by
  have:=S₁.keys
  simp only[List.map_cons] at this ⊢
  exact(List.Sublist.cons_cons _ (List.Sublist.cons _ (List.Sublist.refl _))).nodup this)
 rw[hsz]
 exact hx
inductive QO (w:World) (f:FI) (fx:Fx) (x:Str) (body:List Stmt) (Q:b0→AH→Prop) (vv:AV) (ρ:b0) (H:AH):Prop
 | mk (r:Addr) (a b:Int) (t u v:Tok) (G:AH) (J:Nat→b0→AH→Prop) (e:vv=.ref r) (e2:H=(r,.raw (E6 a b t u v))::G) (h0:0≤a) (h1:a≤b) (h2:b≤1000000) (j:J 0 ρ G) (t:qN w f fx x body (b - a).toNat (fun i=>.int (a+i)) J) (q:∀ρ G,J (b - a).toNat ρ G→Q ρ G)
theorem fL{x:Str}{px pos:Pos}{e:Expr}{body:List Stmt}{k:Nat}{Q:AF→b0→AH→Prop}(c:Cx w f fx k) (hh:fx.A.handled=none)
  (h:Ev w f fx X e ρ H (QO w f fx x body (Q .next)))
  (hs:autoParam (∀x,foldedSetIterable e (f.env fx) x=pure x) kI):bT w f fx X (.For (.Name x px) e body [] pos) ρ H Q:=by
 intro s S
 refine yT hs (b6 (h s S) (fun vv s₁ h₁=>?_) fun _ _ e=>e)
 obtain⟨bv,ρ₁,H₁,rr,S₁,r,a,b,t,u,v,G,J,rfl,rfl,ha,hab,hb,hJ,turn,done⟩:=h₁
 obtain rfl:=Rep.inv rr
 refine a6 (rA S₁ ha hab hb fun I s' S'=>?_)
 refine eM (G₀:=G) (a:=a) (n:=(b - a).toNat) c hh S' ?_ hJ turn done
 obtain⟨m,news,S₂⟩:=S'
 refine f9 (S₂.items _ (.head _)) fun o h1 h2=>?_
 obtain rfl:=RepO.inv h2
 have:=S₂.freed h1
 simpa using this
theorem QP{x:Str}{xs:List Str}{ρ:b0}(h:ρ.map (·.1)=x::xs):∃u ρ',ρ=(x,u)::ρ'∧ρ'.map (·.1)=xs:=by
 cases ρ with
 | nil=>cases h
 | cons p r=>exact⟨p.2,r,by rw[← (List.cons.inj h).1],(List.cons.inj h).2⟩
theorem QQ{x:Str}{ρ:b0}(h:ρ.map (·.1)=[x]):∃u,ρ=[(x,u)]:=by
 refine aM (QP h) fun u r zq1 h2=>?_;subst zq1
 exact⟨u,by rw[List.map_eq_nil_iff.mp h2]⟩
theorem SX{x y:Str}{ρ:b0}(h:ρ.map (·.1)=[x,y]):∃u v,ρ=[(x,u),(y,v)]:=by
 refine aM (QP h) fun u r zq1 h2=>?_;subst zq1
 refine oE (QQ h2) fun v zq1=>?_;subst zq1
 exact⟨u,v,rfl⟩
theorem rB{fc:FI}{fxc:Fx}{x:Str}{px:Pos}{a:Int}{N:Nat}(ok:fc.Ok) (hl:fc.locs=[x]) (hh:fxc.A.handled=none) :
  Z3 w fc fxc (.Name x px) (fun I (o:Obj)=>[(I,.raw o)]) (fun I i o=>o=cB (a+i) ((N:Int) - i)) N (fun i=>[(x,some (.int (a+i)))]) (fun _=>True) where
 mono:=fun _ _ _=>trivial
 self:=fun{E Q ρ G s I i b} hp ⟨m,news,S⟩ hq=>by
  refine f9 (S.items _ (.head _)) fun o h1 h2=>?_
  obtain rfl:=RepO.inv h2
  subst hp
  exact wpAny_pyIter_rangeiter (S.freed h1) hq
 step:=fun{E Q' ρ G s I i b} hρ hi hp _ S hq=>by
  obtain⟨m,news,S⟩:=S
  refine f9 (S.items _ (.head _)) fun o h1 h2=>?_
  obtain rfl:=RepO.inv h2
  subst hp
  refine wpAny_pyNext_range_item (S.freed h1) (by exact Mo hi) fun h' hit hs'=>⟨_,rfl,?_⟩
  have S₁:Sat fc fxc ρ ((I,.raw (cB (a+i+1) ((N:Int) - i - 1)))::G) { s with heap:=h',toks:=s.toks+1 }:=S.moved (s':= { s with heap:=h',toks:=s.toks+1 }) h1 .here (.raw _) hit (fun b ob hb e=>(hs'.2 b hb).trans e) rfl rfl
  refine(?_:wpAny _ _ (pure ()) _ _ _)
  refine wpAny_pure ?_
  rw[hl] at hρ
  refine oE (QQ hρ) fun u zq1=>?_;subst zq1
  obtain⟨m₁,news₁,S₁⟩:=S₁
  refine wpAny_assign_Name (r9 ok .here (.int _ _) S₁ fun h₂ S₂=>hq _ (cB (a+i+1) ((N:Int) - i - 1)) ?_ S₂)
  have e1:a+(i:Int)+1=a+((i+1:Nat):Int):=by push_cast;exact Pq
  have e2:(N:Int) - (i:Int) - 1=(N:Int) - ((i+1:Nat):Int):=by push_cast;exact MG
  rw[e1,e2]
 done:=fun{E Q ρ G s I b} hp _ ⟨m,news,S⟩ hq=>by
  refine f9 (S.items _ (.head _)) fun o h1 h2=>?_
  obtain rfl:=RepO.inv h2
  subst hp
  have nd:=S.keys
  simp only[List.cons_append,List.nil_append,List.map_cons,List.nodup_cons] at nd
  refine wpAny_pyNext_range_end hh (S.freed h1) (by exact OV) fun h' he'=>hq _ ?_
  exact S.dropped (s':= { s with heap:=h' }) h1 (fun p hp=>⟨.tail _ hp,fun q=>nd.1 ((show p.1=I from q)▸List.mem_map_of_mem (f:=fun p:Addr×AO=>p.1) hp)⟩) nd.2 (fun b ob hb e=>he' b ob hb e) rfl rfl
theorem W2{fc:FI}{fxc:Fx}{xa xb:Str}{pa pb pt:Pos}{k:Nat}{it e:Addr}{N:Nat}{val:Nat→AV}{PI:Nat→Obj→Prop}{GC:AH→Prop}(ok:fc.Ok) (hl:fc.locs=[xa,xb]) (hh:fxc.A.handled=none) (hne:xa≠xb) (Sr:K9 w fc fxc it N val PI GC) (mono:∀p G,GC G→GC (p::G)) :
  Z3 w fc fxc (.Tuple [.Name xa pa,.Name xb pb] k pt) (fun I (o:Obj×Obj)=>[(I,.raw o.1),(it,.raw o.2)]) (fun I i o=>I=e∧(∃old,o.1=m4 it (i:Nat) old)∧PI i o.2) N (fun i=>[(xa,some (.int i)),(xb,some (val i))]) GC where
 mono:=mono
 self:=fun{E Q ρ G s I i b} hp ⟨m,news,S⟩ hq=>by
  obtain⟨rfl,⟨old,ho⟩,hp⟩:=hp
  refine f9 (S.items _ (.head _)) fun o h1 h2=>?_
  obtain rfl:=RepO.inv h2
  have:=S.freed h1
  rw[ho] at this
  exact wpAny_pyIter_enum this hq
 step:=fun{E Q' ρ G s I i b} hρ hi hp hG S hq=>by
  obtain⟨rfl,⟨old,ho⟩,hp⟩:=hp
  obtain⟨o1,o2⟩:=b
  dsimp only at ho hp
  subst ho
  rw[hl] at hρ
  refine oEE (SX hρ) fun u v zq1=>?_;subst zq1
  exact iR (pa:=pa) (pb:=pb) (pt:=pt) (k:=k) ok hh Sr hi hp hG S .here (.there .here) fun s' old' oi' hp' S'=>hq s' (_,oi') ⟨rfl,⟨old',rfl⟩,hp'⟩ (by simpa using S')
 done:=fun{E Q ρ G s I b} hp hG ⟨m,news,S⟩ hq=>by
  obtain⟨rfl,⟨old,ho⟩,hp⟩:=hp
  obtain⟨o1,o2⟩:=b
  dsimp only at ho hp
  subst ho
  refine Sr.done hh hp hG S fun h' he'=>hq _ ?_
  refine f9 (S.items _ (.tail _ (.head _))) fun oi' h1 h2=>?_
  have hke:=S.keys
  simp only[List.cons_append,List.nil_append,List.map_cons,List.nodup_cons] at hke
  exact S.dropped (s':= { s with heap:=h' }) h1 (fun p hp=>⟨.tail _ (.tail _ hp),fun q=>hke.2.1 ((show p.1=it from q)▸List.mem_map_of_mem (f:=fun p:Addr×AO=>p.1) hp)⟩) hke.2.2 (fun b ob hb e'=>he' b ob hb e') rfl rfl
inductive IB (w:World) (fx:Fx) (n:Nat) (fc:FI) (x:Str) (elt:Expr) (cl:List (Str×Addr)) (Q:AV→b0→AH→Prop) (v:AV) (ρ:b0) (H:AH):Prop
 | mk (rr:Addr) (N:Nat) (t u v':Tok) (J:Nat→List AV→AH→Prop) (G:AH) (e:v=.ref rr) (e2:H=(rr,.raw (E6 0 N t u v'))::G) (hN:N≤100000) (j:J 0 [] G)
   (turn:∀(fxc:Fx) i xs G I b acc,Cx w fc fxc n→fxc.A=fx.A→fxc.cells=cl→i<N→J i xs G→Ev w fc fxc (fun _ _ _=>False) elt [(x,some (.int i))] ((I,.raw b)::(acc,.list xs)::G) (QM [(I,.raw b),(acc,.list xs)] (J (i+1)) xs))
   (q:∀xs G acc,xs.length=N→J N xs G→Q (.ref acc) ρ ((acc,.list xs)::G))
theorem yA{l:List (Str×NameKind)}(h:(l.all fun x=>x.2 != .cell)=true):∀x∈l,x.2≠.cell:=fun x hx e=>by
 have:=List.all_eq_true.mp h x hx
 rw[e] at this
 cases this
theorem GX{l:List (Str×NameKind)}(h:(l.all fun x=>x.2 != .local || l.lookup x.1 == some .local)=true):∀x∈l,x.2=.local→l.lookup x.1=some .local:=fun x hx e=>by
 have:=List.all_eq_true.mp h x hx
 rw[e] at this
 simpa using this
theorem P1{x:Str}{px pos:Pos}{elt iter:Expr}{scope:Scope}{cl:List (Str×Addr)}{Q:AV→b0→AH→Prop}(c:Cx w f fx n) (hh:fx.A.handled=none) (hclos:closureFor scope (f.env fx)=pure cl)
  (okc:(FI.mk f.qual (PySem.relabel scope (f.env fx)) none f.cd [x]).chk=true) (hcell:(scope.names.all fun x=>x.2 != .cell)=true) (hkind:scope.kind=.function) (hnames:(scope.names.all fun x=>x.2 != .local || scope.names.lookup x.1 == some .local)=true)
  (h:Ev w f fx X iter ρ H (IB w fx n ⟨f.qual,PySem.relabel scope (f.env fx),none,f.cd,[x]⟩ x elt cl Q)) (hs:∀x,foldedSetIterable iter (f.env fx) x=pure x):Ev w f fx X (.ListComp elt [⟨.Name x px,iter,[],0⟩] scope pos) ρ H Q:=by
 refine cA (mk:=fun I (o:Obj)=>[(I,.raw o)]) c hh hclos rfl (FI.ok_of okc) (yA hcell) hkind (GX hnames) (z7 h fun v ρ₁ H₁ q=>?_) hs
 obtain⟨rr,N,t,u,v',J,G,rfl,rfl,hN,hJ,turn,done⟩:=q
 refine⟨fun I i o=>o=cB (0+i) ((N:Int) - i),N,fun i=>[(x,some (.int (0+i)))],fun _=>True,J,G,?_,fun fxc hA cx=>rB cx.ok rfl (by rw[hA];exact hh),fun _=>rfl,hN,hJ,fun _ _ _ _=>trivial,fun fxc i xs G I b acc cx hA hcl hi _ hJ=>?_,done⟩
 ·rintro E s cv ⟨⟩ S
  refine rA S (by decide) (by exact Int.natCast_nonneg _) (by exact Oe hN) (fun I s' S'=>⟨I,_,rfl,?_,S'⟩)
  simp
 ·rw[Int.zero_add]
  exact turn fxc i xs G I b acc cx hA hcl hi hJ
inductive QR (ps G:AH) (z v:AV) (ρ:b0) (H:AH):Prop
 | mk (e:v=z) (d:DelN ps H G)
inductive IC (w:World) (fx:Fx) (n:Nat) (fc:FI) (x:Str) (elt:Expr) (cl:List (Str×Addr)) (Q:AV→b0→AH→Prop) (v:AV) (ρ:b0) (H:AH):Prop
 | mk (rr:Addr) (N:Nat) (t u v':Tok) (g:Nat→AV) (G:AH) (e:v=.ref rr) (e2:H=(rr,.raw (E6 0 N t u v'))::G) (hN:N≤100000)
   (turn:∀(fxc:Fx) i I b acc,Cx w fc fxc n→fxc.A=fx.A→fxc.cells=cl→i<N→Ev w fc fxc (fun _ _ _=>False) elt [(x,some (.int i))] ((I,.raw b)::(acc,.list ((List.range i).map g))::G) (QR [(I,.raw b),(acc,.list ((List.range i).map g))] G (g i)))
   (q:∀acc,Q (.ref acc) ρ ((acc,.list ((List.range N).map g))::G))
theorem rC{x:Str}{px pos:Pos}{elt iter:Expr}{scope:Scope}{cl:List (Str×Addr)}{Q:AV→b0→AH→Prop}(c:Cx w f fx n) (hh:fx.A.handled=none) (hclos:closureFor scope (f.env fx)=pure cl)
  (okc:(FI.mk f.qual (PySem.relabel scope (f.env fx)) none f.cd [x]).chk=true) (hcell:(scope.names.all fun x=>x.2 != .cell)=true) (hkind:scope.kind=.function) (hnames:(scope.names.all fun x=>x.2 != .local || scope.names.lookup x.1 == some .local)=true)
  (h:Ev w f fx X iter ρ H (IC w fx n ⟨f.qual,PySem.relabel scope (f.env fx),none,f.cd,[x]⟩ x elt cl Q)) (hs:∀x,foldedSetIterable iter (f.env fx) x=pure x):Ev w f fx X (.ListComp elt [⟨.Name x px,iter,[],0⟩] scope pos) ρ H Q:=by
 refine P1 c hh hclos okc hcell hkind hnames (z7 h fun v ρ₁ H₁ q=>?_) hs
 obtain⟨rr,N,t,u,v',g,G,rfl,rfl,hN,turn,done⟩:=q
 refine⟨rr,N,t,u,v',fun i xs G'=>xs=(List.range i).map g∧G'=G,G,rfl,rfl,hN,⟨rfl,rfl⟩,?_,?_⟩
 ·rintro fxc i xs G' I b acc cx hA hcl hi ⟨rfl,rfl⟩
  refine z7 (turn fxc i I b acc cx hA hcl hi) fun v' ρ' H' q=>?_
  obtain⟨rfl,d⟩:=q
  exact⟨_,d,by rw[List.range_succ,List.map_append];rfl,rfl⟩
 ·rintro xs G' acc _ ⟨rfl,rfl⟩
  exact done acc
end
end
section
open Sem (wp)
section
variable{w:World}{f:FI}{fx:Fx}{X:AV→b0→AH→Prop}{ρ:b0}{H:AH}{n:Nat}
theorem Sat'.cellAt{s:Shared}{m:GM fx}{news:List (Addr×Obj)}{c:Addr}{v:AV}(S:Sat' f fx ρ H s m news) (h:In1 c (.cell (some v)) H):∃o cv,(c,o)∈news∧o.data=.cell (some cv)∧Rep v cv:=by
 refine f9 (S.items _ h.mem) fun o h1 h2=>?_
 cases h2 with
 | cell r hd=>exact⟨o,_,h1,hd,r⟩
theorem Sat'.cellAny{s:Shared}{m:GM fx}{news:List (Addr×Obj)}{c:Addr}{v:Option AV}(S:Sat' f fx ρ H s m news) (h:In1 c (.cell v) H):∃o cv,(c,o)∈news∧o.data=.cell cv:=by
 refine f9 (S.items _ h.mem) fun o h1 h2=>?_
 cases h2 with
 | cell r hd=>exact⟨o,_,h1,hd⟩
 | cell0 hd=>exact⟨o,_,h1,hd⟩
theorem t9{x:Str}{p:Pos}{c:Addr}{v:AV}{Q:AV→b0→AH→Prop}(ok:f.Ok) (hk:(f.scope.names.lookup x == some .cell)=true) (hc:fx.cells.lookup x=some c) (hi:In1 c (.cell (some v)) H) (hd:(x == ("__debug__":Str))=false) (h:Q v ρ H):Ev w f fx X (.Name x p) ρ H Q:=by
 intro s ⟨m,news,S⟩
 refine p8 (S.cellAt hi) fun o cv h1 h2 r=>?_
 exact a6 (wpAny_Name (wpAny_loadName_cell (env:=f.env fx) ok.kind (beq_iff_eq.mp hk) hc ⟨o,S.freed h1,h2⟩ ⟨v,ρ,H,r,⟨m,news,S⟩,h⟩) hd)
theorem dI{x:Str}{p:Pos}{c:Addr}{v:AV}{Q:AV→b0→AH→Prop}(ok:f.Ok) (hk:(f.scope.names.lookup x == some .free)=true) (hc:fx.cells.lookup x=some c) (hi:In1 c (.cell (some v)) H) (hd:(x == ("__debug__":Str))=false) (hd2:(x == ("__classdict__":Str))=false) (h:Q v ρ H):Ev w f fx X (.Name x p) ρ H Q:=by
 intro s ⟨m,news,S⟩
 refine p8 (S.cellAt hi) fun o cv h1 h2 r=>?_
 exact a6 (wpAny_Name (wpAny_loadName_free (env:=f.env fx) ok.kind (beq_iff_eq.mp hk) hc ⟨o,S.freed h1,h2⟩ ⟨v,ρ,H,r,⟨m,news,S⟩,h⟩ hd2) hd)
theorem fM{M:Model}{A:Around}{E:Value→Shared→Prop}{x:Str}{c:Addr}{v:AV}{v₀:Option AV}{cv:Value}{H':AH}{s:Shared}{m:GM fx}{news:List (Addr×Obj)}{Q:Unit→Shared→Prop}(ok:f.Ok) (hk:(f.scope.names.lookup x == some .cell)=true) (hc:fx.cells.lookup x=some c) (hi:In1 c (.cell v₀) H) (hp:Put1 c (.cell (some v)) H H') (r:Rep v cv) (S:Sat' f fx ρ H s m news)
  (h:∀h',Sat f fx ρ H' { s with heap:=h' }→Q () { s with heap:=h' }):wpAny M A (storeName (f.env fx) x cv) Q E s:=by
 refine aM (S.cellAny hi) fun o cv₀ h1 h2=>?_
 refine wpAny_storeName_cell (env:=f.env fx) ok.kind (beq_iff_eq.mp hk) hc ⟨o,S.freed h1,h2⟩ fun h' hv hs=>h h' ?_
 refine f9 (hv) fun o' ho' hd'=>?_
 exact S.moved (s':= { s with heap:=h' }) h1 hp (.cell r hd') ho' (fun b ob hb e=>(hs.2 b hb).trans e) rfl rfl
inductive QT (cells:List (Str×Addr)) (x:Str) (Q:b0→AH→Prop) (v:AV) (ρ:b0) (H:AH):Prop
 | mk (c:Addr) (v₀:Option AV) (H₂:AH) (e:cells.lookup x=some c) (i:In1 c (.cell v₀) H) (p:Put1 c (.cell (some v)) H H₂) (q:Q ρ H₂)
theorem P2{x:Str}{p p':Pos}{e:Expr}{Q:AF→b0→AH→Prop}(ok:f.Ok) (hk:(f.scope.names.lookup x == some .cell)=true)
  (h:Ev w f fx X e ρ H (QT fx.cells x (Q .next))) (hs:swapsWith e (some (.Name x p')) p.line (f.env fx)=pure false):bT w f fx X (.Assign [.Name x p'] e p) ρ H Q:=by
 intro s S
 refine bR hs (b6 (h s S) (fun v s₁ hh=>?_) fun _ _ x=>x)
 obtain⟨b,ρ₁,H₁,r,⟨m,news,S₁⟩,c,v₀,H₂,hc,hi,hp,hQ⟩:=hh
 exact a6 (fM ok hk hc hi hp r S₁ fun h' S'=>⟨_,ρ₁,H₂,.next,S',hQ⟩)
theorem dJ{x:Str}{p:Pos}{c:Addr}{v:AV}{v₀:Option AV}{H':AH}{Q:b0→AH→Prop}(ok:f.Ok) (hk:(f.scope.names.lookup x == some .cell)=true) (hc:fx.cells.lookup x=some c) (hi:In1 c (.cell v₀) H) (hp:Put1 c (.cell (some v)) H H') (h:Q ρ H'):GW w f fx X (.Name x p) v ρ H Q:=by
 rintro a r s ⟨m,news,S⟩
 exact a6 (wpAny_assign_Name (fM ok hk hc hi hp r S fun h' S'=>⟨(),ρ,H',rfl,S',h⟩))
theorem iT{A:Around}{s:Shared}{R:Result→Shared→Prop}{a:Addr}{o:Obj}{fd:FuncData}{body:List Stmt}{args:Args}{binds:List (Str×Value)}
  (hroom:A.depth<recursionLimit) (ho:s.heap.get? a=some o) (hdata:o.data=.func fd) (hlim:s.heap.NoLimit) (hcd:s.heap.CodeRec fd.code fd.qualname) (hbody:fd.body=.stmts body) (hbind:BindsTo s fd args binds) (hclo:fd.closure=[])
  (hkind:∀x∈binds,fd.scope.names.lookup x.1=some .local∨(fd.scope.names.lookup x.1=some .cell∧((cellsFrom (s.heap.objs.size+1) fd.scope.names []).lookup x.1).isSome=true))
  (hco:fd.scope.isCoroutine=false) (hgen:fd.scope.isGenerator=false) (hk:fd.scope.kind=.function)
  (h:∀s₁,InCallC s (callEnvC fd s.heap.objs.size a).locals (bindL (callEnvC fd s.heap.objs.size a).kindOf binds fun _=>none) (callEnvC fd s.heap.objs.size a).cells (bindC (callEnvC fd s.heap.objs.size a).kindOf binds fun _=>none) s₁→
   c8 (model pw w) (A.deeper (callEnvC fd s.heap.objs.size a)) (execs body (callEnvC fd s.heap.objs.size a)) (fun f s'=>R (.ok (.ret (match f with | .ret v=>v |_=>.none))) s')
    (fun e s'=>c8 (model pw w) (A.deeper (callEnvC fd s.heap.objs.size a)) (leaving (callEnvC fd s.heap.objs.size a) e) (fun _ s''=>R (.error e) s'') (fun e' s''=>R (.error e') s'') s') s₁):j4 (model pw w) A (.call (.ref a) args) R s:=by
 refine d7 ?_
 refine(?_:c8 _ A.in1 (callAny (.ref a) args) _ _ s)
 simp only[callAny]
 refine a7 (a6 (wpAny_load ho ?_))
 refine N2 (hcd) fun c oc vs tq hc hoc hdc hq=>?_
 have hc':=hc
 simp only[hdata,callFunction,hco,hgen,hbody]
 rw[hc]
 refine a7 (m:=field (.ref c) 1) (a6 (wpAny_field hoc hdc hq (a7 (b7 ?_))))
 rw[hclo]
 refine a7 (a6 (hbind _ _ _ _ (a7 (a6 (wpAny_newFunctionEnv_cells hk hkind fun env he s' x=>?_)))))
 subst he
 refine a7 (a6 (wpAny_enterFrame (hlim.keeps x.toInCall.keep) hroom (b7 ⟨rfl,rfl,?_⟩)))
 rw[← hc]
 exact GO (h s' x)
noncomputable def FnD.chkC(P:Params) (d:FnD):Bool:=BZ d.stmt && codeIn (KG P) d.cd d.qual && (match(d2 d.stmt).kind with | .function=>true |_=>false) && !(d2 d.stmt).isCoroutine && !(d2 d.stmt).isGenerator && keepIn (KG P) (.ref d.addr)
structure FnD.OkC (P:Params) (d:FnD):Prop where
 at_:(KG P).lookup d.addr=some d.obj
 chk:d.chkC P=true
noncomputable def FnD.fiC(d:FnD) (locs:List Str):FI:=⟨d.qual,d2 d.stmt,some d.addr,d.cd,locs⟩
noncomputable def FnD.cellsC(d:FnD) (L:Addr):List (Str×Addr):=cellsFrom (L+1) (d2 d.stmt).names []
inductive CellsH (cm:Str→Option Value):List (Str×Addr)→AH→Prop
 | nil:CellsH cm [] []
 | full {x c v cv cs H}:cm x=some cv→Rep v cv→CellsH cm cs H→CellsH cm ((x,c)::cs) ((c,.cell (some v))::H)
 | bare {x c cs H}:cm x=none→CellsH cm cs H→CellsH cm ((x,c)::cs) ((c,.cell none)::H)
theorem CellsH.keys{cm:Str→Option Value}{cs:List (Str×Addr)}{H:AH}(h:CellsH cm cs H):H.map (·.1)=cs.map (·.2):=by
 induction h with
 | nil=>rfl
 | full _ _ _ ih=>rw[List.map_cons,List.map_cons,ih]
 | bare _ _ ih=>rw[List.map_cons,List.map_cons,ih]
theorem CellsH.objs{cm:Str→Option Value}{cs:List (Str×Addr)}{H:AH}(h:CellsH cm cs H) {hp:Heap}(hi:∀n c,(n,c)∈cs→hp.IsCell c (cm n)):∃news:List (Addr×Obj),news.map (·.1)=cs.map (·.2)∧(∀p∈news,hp.get? p.1=some p.2)∧∀p∈H,∃o,(p.1,o)∈news∧RepO p.2 o:=by
 induction h with
 | nil=>exact⟨[],rfl,(fun p hp=>by cases hp),fun p hp=>by cases hp⟩
 | @full x c v cv cs H hc r _ ih=>
  refine V3 (ih fun n c hm=>hi n c (.tail _ hm)) fun news h1 h2 h3=>?_
  refine f9 (hi x c (.head _)) fun o ho hd=>?_
  rw[hc] at hd
  refine⟨(c,o)::news,by rw[List.map_cons,List.map_cons,h1],fun p hp=>?_,fun p hp=>?_⟩
  ·rcases List.mem_cons.mp hp with rfl |hp
   ·exact ho
   ·exact h2 p hp
  ·rcases List.mem_cons.mp hp with rfl |hp
   ·exact⟨o,.head _,.cell r hd⟩
   ·refine f9 (h3 p hp) fun o' a b=>?_
    exact⟨o',.tail _ a,b⟩
 | @bare x c cs H hc _ ih=>
  refine V3 (ih fun n c hm=>hi n c (.tail _ hm)) fun news h1 h2 h3=>?_
  refine f9 (hi x c (.head _)) fun o ho hd=>?_
  rw[hc] at hd
  refine⟨(c,o)::news,by rw[List.map_cons,List.map_cons,h1],fun p hp=>?_,fun p hp=>?_⟩
  ·rcases List.mem_cons.mp hp with rfl |hp
   ·exact ho
   ·exact h2 p hp
  ·rcases List.mem_cons.mp hp with rfl |hp
   ·exact⟨o,.head _,.cell0 hd⟩
   ·refine f9 (h3 p hp) fun o' a b=>?_
    exact⟨o',.tail _ a,b⟩
theorem vY{U:Nat}{d:FnD}{locs:List Str}{vs:List AV}{ρ₀:b0}{cH:Addr→AH}{X:Fx→AV→b0→AH→Prop}{XS:AV→AH→Prop}{Q:AV→AH→Prop}(hd:d.OkC w.params) (ok:(d.fiC locs).Ok)
  (hbind:∀(s:Shared) (cvs:List Value),Frag.In (KG w.params) s.heap→cvs.length=vs.length→BindsTo s d.fd ⟨cvs,[]⟩ (d.ps.zip cvs))
  (hcn:∀n,((cellsFrom n (d2 d.stmt).names []).map (·.1)).Nodup) (hkind:∀n,∀x∈d.ps,(d2 d.stmt).names.lookup x=some .local∨((d2 d.stmt).names.lookup x=some .cell∧((cellsFrom n (d2 d.stmt).names []).lookup x).isSome=true))
  (hρ:∀cvs,All2 Rep vs cvs→bS (d.fiC locs) ρ₀ (bindL (fun x=>(d2 d.stmt).names.lookup x) (d.ps.zip cvs) fun _=>none)) (hcH:∀cvs L,All2 Rep vs cvs→CellsH (bindC (fun x=>(d2 d.stmt).names.lookup x) (d.ps.zip cvs) fun _=>none) (d.cellsC L) (cH L))
  (h:∀fx,Cx w (d.fiC locs) fx n→fx.A.handled=none→fx.stk=(d.fiC locs).env fx::fx.outer→fx.frame=fx.L→fx.cells=d.cellsC fx.L→fx.A.units≤U+3→
   Ex w (d.fiC locs) fx (X fx) (j5 d.stmt) ρ₀ (cH fx.L++H) (fun fl _ H'=>Q (match fl with | .ret v=>v |_=>.none) H')∧dZ w (d.fiC locs) fx (X fx) XS) :
  ∀(f:FI) (fx:Fx) (ρ:b0) (A:Around) (k:Nat),Cx w f fx k→A.frames=some fx.stk→A.depth+(n+1)≤990→A.guards=some []→A.handled=none→A.units≤U→∀s,Sat f fx ρ H s→∀cvs,All2 Rep vs cvs→j4 (model pw w) A (.call (.ref d.addr) ⟨cvs,[]⟩) (fun r s'=>match r with
   | .ok (.ret v)=>∃b H',Rep b v∧Sat f fx ρ H' s'∧Q b H'
   | .ok _=>False
   | .error e=>∃b H',Rep b e∧Sat f fx ρ H' s'∧XS b H') s:=by
 intro f fx ρ A k c hfr hroom hgd hh hu s ⟨m,news,S⟩ cvs hv
 obtain⟨hat,hck⟩:=hd
 simp only[FnD.chkC,Bool.and_eq_true,Bool.not_eq_true'] at hck
 refine oA (hck) fun zq1 k7=>?_;refine oA (zq1) fun zq2 k6=>?_;refine oA (zq2) fun zq3 k5=>?_;refine oA (zq3) fun zq4 k3=>?_;refine oA (zq4) fun k1 k2=>?_
 have KS:=S.KH c
 refine oA (S.ff c) fun FF st=>?_
 refine iT (fd:=fnX (K1 d.stmt) d.qual (K2 d.stmt) (j5 d.stmt) (d2 d.stmt) [] d.dV d.kV d.doc d.pm none d.cd d.ct) (body:=j5 d.stmt) (binds:=d.ps.zip cvs) (by have:recursionLimit=1000:=rfl;exact Hv hroom this) (KS _ _ hat)
  (by show _= _;exact congrArg Data.func (iF k1 _ _ _ _ _ _ _)) (Q5 KS) (codeRec_of KS k2) rfl (by have:=hbind s cvs KS hv.len;unfold FnD.fd at this;rw[iF k1] at this;exact this) rfl (fun x hx=>hkind _ _ ?_) k5 k6 ok.kind (fun s₁ x=>?_)
 ·exact(List.of_mem_zip hx).1
 ·refine aM (x.done) fun h₁ tk zq1 hk₁=>?_;subst zq1
  let g:=hideAll s.heap (news.map (·.1))
  let L':=s.heap.objs.size
  let fx':Fx:=⟨A.deeper (callEnvC (fnX (K1 d.stmt) d.qual (K2 d.stmt) (j5 d.stmt) (d2 d.stmt) [] d.dV d.kV d.doc d.pm none d.cd d.ct) L' d.addr),fx.base,fx.stk,(d.fiC locs).env ⟨A,fx.base,fx.stk,fx.stk,g,L',L',d.cellsC L',fx.os⟩::fx.stk,g,L',L',d.cellsC L',fx.os⟩
  have gd:N7 fx' g:=⟨fun _ e=>e,fun b o e=>⟨o.slots,e⟩,fun b o e=>st b o (m.gd.stays b o e),FF⟩
  have cx:Cx w (d.fiC locs) fx' n:=⟨ok,Around.frames_deeper hfr,.inr ⟨rfl,rfl⟩,c.K,by show A.depth+1+n≤990;exact Hw hroom,hgd⟩
  have CH:=hcH cvs L' hv
  have hcells:∀nm c',(nm,c')∈d.cellsC L'→(h₁:Heap).IsCell c' (bindC (fun x=>(d2 d.stmt).names.lookup x) (d.ps.zip cvs) (fun _=>none) nm):=fun nm c' hm=>x.cell nm c' (H0 hm (hcn _))
  refine V3 (CH.objs hcells) fun nc q1 q2 q3=>?_
  have habove:∀a∈(d.cellsC L').map (·.2),L' < a:=fun a ha=>by
   refine f9 (List.mem_map.mp ha) fun p hp zq1=>?_;subst zq1
   exact x.above p.1 p.2 hp
  have hnd2:((d.cellsC L').map (·.2)).Nodup:=by
   have:=x.apart
   rw[List.nodup_iff_pairwise_ne,List.pairwise_map]
   exact this
  have lt:∀p∈news,p.1<L':=fun p hp=>Heap.lt_size (S.nw p hp).1
  have sat:Sat' (d.fiC locs) fx' ρ₀ (cH L'++H) { s with heap:=h₁,toks:=tk } ⟨g,gd,bindL (fun x=>(d2 d.stmt).names.lookup x) (d.ps.zip cvs) fun _=>none⟩ (nc++news):=by
   refine⟨⟨x.toInCall.ns,fun b o e=>hk₁ b o (of_hideAll _ e),Nat.le_of_eq (hideAll_size _ _)⟩,fun p hp=>?_,hρ cvs hv,fun p hp=>?_,?_,?_,S.gens,S.os⟩
   ·rcases List.mem_append.mp hp with hp |hp
    ·have ha:=habove p.1 (q1▸List.mem_map_of_mem (f:=(·.1)) hp)
     refine⟨q2 p hp,Nat.ne_of_gt ha,?_⟩
     cases z:g.get? p.1 with
     | none=>rfl
     | some o=>exact absurd (Heap.lt_size (of_hideAll _ z)) (Nat.not_lt.mpr (Nat.le_of_lt ha))
    ·exact⟨hk₁ _ _ (S.nw p hp).1,Nat.ne_of_lt (lt p hp),hideAll_none _ (List.mem_map_of_mem hp)⟩
   ·rcases List.mem_append.mp hp with hp |hp
    ·refine f9 (q3 p hp) fun o a b=>?_
     exact⟨o,List.mem_append_left _ a,b⟩
    ·refine f9 (S.items p hp) fun o a b=>?_
     exact⟨o,List.mem_append_right _ a,b⟩
   ·rw[List.map_append,CH.keys]
    refine List.nodup_append.mpr ⟨hnd2,S.keys,fun a ha b hb e=>?_⟩
    refine f9 (List.mem_map.mp hb) fun p hp zq1=>?_;subst zq1
    refine f9 (S.items p hp) fun o h1 _=>?_
    have:=lt _ h1
    exact absurd this (Nat.not_lt.mpr (Nat.le_of_lt (e▸habove a ha)))
   ·rw[List.map_append,q1]
    refine List.nodup_append.mpr ⟨hnd2,S.nodup,fun a ha b hb e=>?_⟩
    refine f9 (List.mem_map.mp hb) fun p hp zq1=>?_;subst zq1
    exact absurd (lt p hp) (Nat.not_lt.mpr (Nat.le_of_lt (e▸habove a ha)))
  refine oA (h fx' cx hh rfl rfl rfl (by show A.units+3≤U+3;omega)) fun hb hx=>?_
  have bk:∀ {s':Shared}{H':AH}{ρ':b0},Sat (d.fiC locs) fx' ρ' H' s'→Sat f fx ρ H' s':=fun⟨m',news',S'⟩=>by
   refine bP (S.fr.ns) fun oL es ep hLs r=>?_
   exact S.back (fx':=fx') st ⟨oL,hLs,hideAll_get _ hLs fun q=>by
    refine f9 (List.mem_map.mp q) fun p hp e=>?_
    exact(S.nw p hp).2.1 e⟩ rfl rfl S'
  refine b6 (hb _ ⟨_,_,sat⟩) (fun fl s' hq=>?_) fun e s' hq=>?_
  ·obtain⟨b,ρ',H',r,S',q⟩:=hq
   have back:=bk S'
   cases r with
   | ret r=>exact⟨_,H',r,back,q⟩
   | next=>exact⟨_,H',.none,back,q⟩
   | brk=>exact⟨_,H',.none,back,q⟩
   | cont=>exact⟨_,H',.none,back,q⟩
  ·exact b6 (hx e s' hq) (fun _ s'' ⟨b,ρ',H',r,S',q⟩=>⟨b,H',r,bk S',q⟩) fun e' s'' ⟨b,ρ',H',r,S',q⟩=>⟨b,H',r,bk S',q⟩
theorem AN{d:FnD}{locs:List Str}{vs:List AV}{ρ₀:b0}{cH:Addr→AH}{X:Fx→AV→b0→AH→Prop}{XS:AV→AH→Prop}{Q:AV→AH→Prop}(hd:d.OkC w.params) (ok:(d.fiC locs).Ok)
  (hbind:∀(s:Shared) (cvs:List Value),Frag.In (KG w.params) s.heap→cvs.length=vs.length→BindsTo s d.fd ⟨cvs,[]⟩ (d.ps.zip cvs))
  (hcn:∀n,((cellsFrom n (d2 d.stmt).names []).map (·.1)).Nodup) (hkind:∀n,∀x∈d.ps,(d2 d.stmt).names.lookup x=some .local∨((d2 d.stmt).names.lookup x=some .cell∧((cellsFrom n (d2 d.stmt).names []).lookup x).isSome=true))
  (hρ:∀cvs,All2 Rep vs cvs→bS (d.fiC locs) ρ₀ (bindL (fun x=>(d2 d.stmt).names.lookup x) (d.ps.zip cvs) fun _=>none)) (hcH:∀cvs L,All2 Rep vs cvs→CellsH (bindC (fun x=>(d2 d.stmt).names.lookup x) (d.ps.zip cvs) fun _=>none) (d.cellsC L) (cH L))
  (h:∀fx,Cx w (d.fiC locs) fx n→fx.A.handled=none→fx.stk=(d.fiC locs).env fx::fx.outer→fx.frame=fx.L→fx.cells=d.cellsC fx.L→
   Ex w (d.fiC locs) fx (X fx) (j5 d.stmt) ρ₀ (cH fx.L++H) (fun fl _ H'=>Q (match fl with | .ret v=>v |_=>.none) H')∧dZ w (d.fiC locs) fx (X fx) XS):c6 w (n+1) d.addr vs H XS Q:=
 fun f fx ρ A k c h1 h2 h3 h4 s S cvs r=>vY (U:=A.units) hd ok hbind hcn hkind hρ hcH (fun fx a b c d e _=>h fx a b c d e) f fx ρ A k c h1 h2 h3 h4 (Nat.le_refl _) s S cvs r
end
end
section
open Sem (wp)
noncomputable def Fx.mark(fx:Fx) (e:Addr):Fx:= { fx with A:=fx.A.mark (some (.ref e)) }
noncomputable def Rx(ρ₀:b0) (L:Addr) (XR:Addr→Addr→Option Addr→Addr→AH→Prop):AV→b0→AH→Prop:=fun b ρ H=>ρ=ρ₀∧XB L XR b ρ H
noncomputable def M0(P:Params) (K C:Addr):Bool:=(instIn (KG P) (.ref K) (.type "tuple") == some false) && isClsIn (KG P) K && (subIn (KG P) (.ref K) (.type "BaseException") == some true) && (subIn (KG P) (.ref C) (.ref K) == some true)
section
variable{w:World}{f:FI}{fx:Fx}{X:AV→b0→AH→Prop}{ρ:b0}{H:AH}{n:Nat}{s:Shared}
variable{XR:Addr→Addr→Option Addr→Addr→AH→Prop}
theorem Sat.mark{e:Addr}(S:Sat f fx ρ H s):Sat f (fx.mark e) ρ H s:=
 let⟨m,news,S⟩:=S
 ⟨⟨m.h₀,⟨m.gd.dom,m.gd.up,m.gd.stays,m.gd.frames⟩,m.m⟩,news,⟨S.fr,S.nw,S.rho,S.items,S.keys,S.nodup,S.gens,S.os⟩⟩
theorem Sat.unmark{e:Addr}(S:Sat f (fx.mark e) ρ H s):Sat f fx ρ H s:=
 let⟨m,news,S⟩:=S
 ⟨⟨m.h₀,⟨m.gd.dom,m.gd.up,m.gd.stays,m.gd.frames⟩,m.m⟩,news,⟨S.fr,S.nw,S.rho,S.items,S.keys,S.nodup,S.gens,S.os⟩⟩
theorem Cx.mark{e:Addr}(c:Cx w f fx n):Cx w f (fx.mark e) n:=⟨c.ok,c.frames,c.stk,c.K,c.room,c.guards⟩
theorem DB{ρ₀:b0}(c:Cx w f fx n) (hs:fx.stk=f.env fx::fx.outer) (hf:fx.frame=fx.L):xY w f fx (Rx ρ₀ fx.L XR):=by
 rintro v s ⟨b,ρ,H,r,S,rfl,e,C,d,t,R,rfl,h1,h2⟩
 obtain rfl:=Rep.inv r
 refine a6 (nQ c S h1 hs hf fun T h' S'=>?_)
 unfold M5
 refine a6 ?_
 obtain⟨m,news,S₁⟩:=id S'
 refine g4 (S₁.excAt .here) fun o tbv v2 v3 v4 v5 k1 k2 k3 k4 k5=>?_
 obtain rfl:=Rep.inv k2
 refine wpAny_bind (wpAny_field (x:=.ref T) (S₁.freed k1) k5 rfl ?_)
 refine bm_if_false rfl ?_
 refine(?_:wpAny _ _ (setFlight (.ref e) (some fx.frame)) _ _ _)
 rw[hf]
 exact iO (fr:=some fx.L) S' fun h'' S''=>⟨.ref e,ρ,_,.ref e,S'',rfl,e,C,d,t,R,rfl,⟨_,_,.here T,rfl⟩,h2⟩
theorem ID{L:Addr}{XR':Addr→Addr→Option Addr→Addr→AH→Prop}(h:∀e C d t R,XR e C d t R→XR' e C d t R):∀b H',XO XR b H'→Rx ρ L XR' b ρ H':=fun b H' q=>⟨rfl,eY h b H' q⟩
theorem Z4{a:Addr}{vs:List AV}{H₂:AH}{XR':Addr→Addr→Option Addr→Addr→AH→Prop}{QS:AV→AH→Prop}{Q:AV→b0→AH→Prop}{k:Nat}(c:Cx w f fx n) (hh:fx.A.handled=none) (hs:c6 w k a vs H₂ (XO XR') QS) (hk:k≤n)
  (hp:H.Perm H₂) (hX:∀e C d t R,XR' e C d t R→XR e C d t R) (h:∀b H',QS b H'→Q b ρ H'):w3 w f fx (Rx ρ fx.L XR) a vs ρ H Q:=y4 c hh hs hk hp (ID hX) h
theorem vZ{e C t T:Addr}{d:Option Addr}{pos:Pos}{fl:Option Addr}{R:AH}{Q:AF→b0→AH→Prop}(hf:fx.frame=fx.L) (hh:fx.A.handled=some (.ref e)) (hp:H.Perm ((e,.exc C d t (.ref T))::(T,.tb fl)::R)) (hX:XR e C d t R):bT w f fx (XB fx.L XR) (.Raise none none pos) ρ H Q:=by
 intro s S
 rw[arm_exec_Raise]
 show c8 _ _ (do standAt pos;raiseStmt (f.env fx) none none) _ _ _
 refine a7 (c3 ?_)
 have S₁:=S.perm hp
 obtain⟨m,news,S₂⟩:=id S₁
 refine g4 (S₂.excAt .here) fun o tbv v2 v3 v4 v5 k1 k2 k3 k4 k5=>?_
 obtain rfl:=Rep.inv k2
 unfold raiseStmt
 refine a6 (wpAny_bind (wpAny_handled ?_))
 rw[hh]
 refine wpAny_bind (wpAny_rule (wpAny_bind (wpAny_field (x:=.ref T) (S₂.freed k1) k5 rfl ?_)))
 refine bm_if_false rfl ?_
 refine wpAny_bind ?_
 refine(?_:wpAny _ _ (setFlight (.ref e) (some fx.frame)) _ _ _)
 rw[hf]
 exact iO (fr:=some fx.L) S₁ fun h'' S''=>wpAny_throw ⟨.ref e,ρ,_,.ref e,S'',e,C,d,t,R,rfl,⟨_,_,.here T,rfl⟩,hX⟩
theorem AP{A:Around}{E:Value→Shared→Prop}{e C K t:Addr}{d:Option Addr}{tb:AV}{Q:Bool→Shared→Prop}(c:Cx w f fx n) (S:Sat f fx ρ H s) (h1:In1 e (.exc C d t tb) H) (ho:M0 w.params K C=true) (h:Q true s):wpAny (model pw w) A (excMatches (.ref e) (.ref K)) Q E s:=by
 obtain⟨m,news,S⟩:=S
 refine g4 (S.excAt h1) fun o tbv v2 v3 v4 v5 k1 k2 k3 k4 k5=>?_
 unfold M0 at ho
 rw[Bool.and_eq_true,Bool.and_eq_true,Bool.and_eq_true,beq_iff_eq,beq_iff_eq,beq_iff_eq] at ho
 refine oA (ho) fun zq1 o4=>?_;refine oA (zq1) fun zq2 o3=>?_;refine oA (zq2) fun o1 o2=>?_
 have KH:=S.KH c
 have t1:Looks (model pw w) s.heap (typeOf (.ref e)) (.ref C):=by
  have:Looks (model pw w) s.heap (typeOf (.ref e)) o.cls:=(Looks.ld (S.freed k1)).andThen .now
  rwa [k3] at this
 have i1:Looks (model pw w) s.heap (isType (.ref K)) true:=by
  unfold isClsIn clsIn at o2
  cases q:(KG w.params).lookup K with
  | none=>rw[q] at o2;cases o2
  | some ob=>
   obtain⟨a,b,dd,sl⟩:=ob
   have hg:=KH _ _ q
   cases dd <;> first |exact(Looks.ld hg).andThen .now |(rw[q] at o2;cases o2)
 unfold excMatches
 refine wpAny_bind ((looks_instIn KH o1).here ?_)
 refine bm_if_false rfl ?_
 refine wpAny_bind (wpAny_pure ?_)
 simp only[List.forIn_cons,List.forIn_nil]
 unfold isExcClass
 refine wpAny_bind (wpAny_bind (wpAny_bind (wpAny_bind (i1.here ?_))))
 refine bm_if_true rfl ?_
 refine(looks_subIn KH o3).here ?_
 refine bm_if_false rfl ?_
 refine wpAny_pure (wpAny_pure ?_)
 refine wpAny_bind (t1.here ?_)
 refine wpAny_bind (wpAny_bind (wpAny_bind ((looks_subIn KH o4).here ?_)))
 refine bm_if_true rfl ?_
 exact wpAny_pure (wpAny_pure (wpAny_pure h))
theorem fN{M:Model}{A:Around}{E:Value→Shared→Prop}{x:Str}{pos:Pos}{ρ':b0}{Q:Unit→Shared→Prop}(ok:f.Ok) (hp:Put1 x none ρ ρ') (S:Sat f fx ρ H s) (h:∀h',Sat f fx ρ' H { s with heap:=h',toks:=s.toks+1 }→Q () { s with heap:=h',toks:=s.toks+1 }) :
  wpAny M A (do bindName (f.env fx) x .none;unbindBehindTheSuite (f.env fx) x pos) Q E s:=by
 obtain⟨m,news,S⟩:=S
 have hx:x∈f.locs:=by rw[← S.rho.1];exact hp.in
 refine wpAny_nameGoes_keeps (env:=f.env fx) (ok.loc x hx) S.fr.ns (by show(f.scope.kind == .class || (f.scope.kind == .module && fx.L != mainGlobals))=false;rw[ok.kind];rfl) fun h' v hn hs=>h h' ?_
 refine⟨m.set (fun y=>if y=x then v else m.m y),news,S.fr.set hn hs,S.nw.set hs,⟨hp.keys.trans S.rho.1,fun y u hy=>?_⟩,S.items,S.keys,S.nodup,S.gens,S.os⟩
 rcases hp.mem y (some u) hy with ⟨_,e⟩ | ⟨h1,h2⟩
 ·cases e
 ·have:=h2 (by rw[S.rho.1];exact ok.nodup)
  refine f9 (S.rho.2 y u h1) fun cv e1 e2=>?_
  exact⟨cv,(if_neg this).trans e1,e2⟩
theorem bD{body hbody:List Stmt}{tn x:Str}{tp hpos pos:Pos}{K:Addr}{ρ₀:b0}{Q:AF→b0→AH→Prop}{XR':Addr→Addr→Option Addr→Addr→AH→Prop}(c:Cx w f fx n) (hh:fx.A.handled=none) (hs:fx.stk=f.env fx::fx.outer) (hf:fx.frame=fx.L) (hne:hbody≠[])
  (hv:G4 w.params tn=some (.ref K)) (hg:(f.scope.names.lookup tn == some .globalImplicit)=true) (hd:(tn == ("__debug__":Str))=false)
  (h:Ex w f fx (Rx ρ₀ fx.L XR) body ρ H Q)
  (hcatch:∀e C d t R,XR e C d t R→M0 w.params K C=true)
  (hx:∀e C d t T R,XR e C d t R→∃ρ₁,Put1 x (some (.ref e)) ρ₀ ρ₁∧Ex w f (fx.mark e) (XB fx.L XR') hbody ρ₁ ((e,.exc C d t (.ref T))::(T,.tb none)::R) fun fl ρ₂ H₂=>∃ρ₃,Put1 x none ρ₂ ρ₃∧Q fl ρ₃ H₂)
  (hput:∀ρ₂:b0,ρ₂.map (·.1)=f.locs→∃ρ₃,Put1 x none ρ₂ ρ₃) :
  bT w f fx (XB fx.L XR') (.Try body [.ExceptHandler (some (.Name tn tp)) (some x) hbody hpos] [] [] pos) ρ H Q:=by
 intro s S
 rw[arm_exec_Try]
 refine a7 (c3 ?_)
 unfold tryStmt
 refine Da rfl ?_
 refine a7 (N3 (b6 (h s S) (fun fl s₁ hh'=>?_) fun e s₁ hh'=>?_))
 ·obtain⟨b,ρ₁,H₁,r,S₁,hQ⟩:=hh'
  cases r with
  | next=>exact a6 (wpAny_execs_nil ⟨_,ρ₁,H₁,.next,S₁,hQ⟩)
  | brk=>exact b7 ⟨_,ρ₁,H₁,.brk,S₁,hQ⟩
  | cont=>exact b7 ⟨_,ρ₁,H₁,.cont,S₁,hQ⟩
  | ret r=>exact b7 ⟨_,ρ₁,H₁,.ret r,S₁,hQ⟩
 ·obtain⟨b,ρ₁,H₁,r,S₁,rfl,e,C,d,t,R,rfl,h1,h2⟩:=hh'
  obtain rfl:=Rep.inv r
  dsimp only
  refine a7 (a6 (nQ c S₁ h1 hs hf fun T h' S₂=>?_))
  refine B6 rfl ?_
  refine a7 (a6 (iO (fr:=none) S₂ fun h'' S₃=>?_))
  refine B6 (by rfl) ?_
  refine B6 rfl ?_
  have hc:=hcatch _ _ _ _ _ h2
  unfold handleBy
  -- the class is asked for
  have ask:c8 (model pw w) fx.A (runOwn (.handlers (.ref e) [.ExceptHandler (some (.Name tn tp)) none [] hpos] (f.env fx)) (f.env fx) (some (.ref e))) (fun fl s'=>fl=.brk∧Sat f fx ρ₁ ((e,.exc C d t (.ref T))::(T,.tb none)::R) s') (fun _ _=>False) { s₁ with heap:=h'' }:=by
   unfold runOwn
   refine j8 (dD rfl (d7 ?_) (by intro q;cases q))
   show c8 _ (fx.mark e).A (do return PySem.Fin.done (← (handleWith (.ref e) (f.env fx) [.ExceptHandler (some (.Name tn tp)) none [] hpos]).onRaise (fun x=>do noteFrame x (f.env fx);theTreesLotGoes x))) _ _ _
   refine a7 (j8 ?_)
   unfold handleWith
   refine a7 (c3 ?_)
   obtain⟨m₃,news₃,S₃'⟩:=id S₃
   refine a7 (a6 (G9 (env:=f.env fx) S₃'.fr (S₃'.K c) hv c.ok.kind (beq_iff_eq.mp hg) rfl rfl hd ?_))
   refine a7 (c3 ?_)
   refine a7 (a6 (AP c S₃ .here hc ?_))
   exact b7 (b7 ⟨rfl,S₃⟩)
  refine f9 (hx e C d t T R h2) fun ρ₂ hput1 hb=>?_
  -- the suite is run
  have suite:∀s₄,Sat f fx ρ₁ ((e,.exc C d t (.ref T))::(T,.tb none)::R) s₄→c8 (model pw w) fx.A (runOwn (.handlers (.ref e) [.ExceptHandler none (some x) hbody hpos] (f.env fx)) (f.env fx) (some (.ref e)))
    (pY f fx RepF fun b ρ' H'=>∃ρ₃,Put1 x none ρ' ρ₃∧Q b ρ₃ H') (gG f fx (XB fx.L XR')) s₄:=fun s₄ S₄=>by
   unfold runOwn
   refine j8 (dD rfl (d7 ?_) (by intro q;cases q))
   show c8 _ (fx.mark e).A (do return PySem.Fin.done (← (handleWith (.ref e) (f.env fx) [.ExceptHandler none (some x) hbody hpos]).onRaise (fun x=>do noteFrame x (f.env fx);theTreesLotGoes x))) _ _ _
   refine a7 (j8 ?_)
   unfold handleWith
   refine a7 (c3 ?_)
   refine a7 (a6 (iO (fr:=none) S₄ fun h₅ S₅=>?_))
   obtain⟨m₅,news₅,S₅⟩:=S₅
   refine a7 (D5 (a6 (r9 c.ok hput1 (.ref e) S₅ fun h₆ S₆=>?_)))
   refine a7 (N3 (b6 (hb _ S₆.mark) (fun fl s₇ hq=>?_) fun y s₇ hq=>?_))
   ·obtain⟨b,ρ₇,H₇,r,S₇,ρ₃,hp3,hQ⟩:=hq
    exact b7 (b7 ⟨b,ρ₇,H₇,r,S₇.unmark,ρ₃,hp3,hQ⟩)
   ·obtain⟨b,ρ₇,H₇,r,S₇,e',C',d',t',R',rfl,h3,h4⟩:=hq
    obtain rfl:=Rep.inv r
    dsimp only
    refine a7 (a6 (nQ c.mark S₇ h3 hs hf fun T' h₈ S₈=>?_))
    refine oE (hput ρ₇ (by obtain⟨_,_,S⟩:=S₈;exact S.rho.1)) fun ρ₃ hp3=>?_
    refine a7 (c0 (j8 ?_))
    refine a6 (fN c.ok hp3 S₈.unmark fun h₉ S₉=>?_)
    unfold PySem.passOn
    have flies:∀ {A:Around}{E:Value→Shared→Prop}{s:Shared}{Q:Unit→Shared→Prop},Sat f fx ρ₃ ((e',.exc C' d' t' (.ref T'))::(T',.tb (some fx.L))::R') s→(∀h,Sat f fx ρ₃ ((e',.exc C' d' t' (.ref T'))::(T',.tb (some fx.L))::R') { s with heap:=h }→Q () { s with heap:=h })→wpAny (model pw w) A (setFlight (.ref e') (f.env fx).frame) Q E s:=fun S h=>by
     refine(?_:wpAny _ _ (setFlight (.ref e') (some fx.frame)) _ _ _)
     rw[hf]
     exact iO S h
    have fieldN:∀ {A:Around}{E:Value→Shared→Prop}{s:Shared}{Q:Value→Shared→Prop},Sat f fx ρ₃ ((e',.exc C' d' t' (.ref T'))::(T',.tb (some fx.L))::R') s→Q (.ref T') s→wpAny (model pw w) A (field (.ref e') 1) Q E s:=fun S h=>by
     obtain⟨m,news,S⟩:=S
     refine g4 (S.excAt .here) fun o tbv v2 v3 v4 v5 k1 k2 k3 k4 k5=>?_
     obtain rfl:=Rep.inv k2
     exact wpAny_field (x:=.ref T') (S.freed k1) k5 rfl h
    refine a6 (wpAny_bind (fieldN S₉ ?_))
    refine bm_if_false rfl ?_
    refine wpAny_bind (flies S₉ fun h₁₀ S₁₀=>wpAny_throw ?_)
    -- out of the handler's code
    refine a7 (a6 (xS S₁₀ .here (.there (by rw[hf];exact .here)) ?_))
    refine a6 (wpAny_theTreesLotGoes ?_)
    refine a6 (wpAny_bind (fieldN S₁₀ ?_))
    refine bm_if_false rfl ?_
    exact flies S₁₀ fun h₁₁ S₁₁=>⟨.ref e',ρ₃,_,.ref e',S₁₁,e',C',d',t',R',rfl,⟨_,_,.here T',rfl⟩,h4⟩
  refine a7 (c0 (b6 ask (fun fl s₄ hq=>?_) fun _ _ z=>z.elim))
  refine oA (hq) fun zq1 S₄=>?_;subst zq1
  refine a7 (b7 ?_)
  refine B6 rfl ?_
  refine a7 (c0 (b6 (suite s₄ S₄) (fun fl s₅ hq=>?_) fun _ _ z=>z))
  obtain⟨b,ρ₅,H₅,r,S₅,ρ₃,hp3,hQ⟩:=hq
  dsimp only
  refine a7 (c0 (a6 (fN c.ok hp3 S₅ fun h₆ S₆=>?_)))
  exact b7 ⟨b,ρ₃,H₅,r,S₆,hQ⟩
end
end
section
variable{w:World}{f:FI}{fx:Fx}{X:AV→b0→AH→Prop}{ρ:b0}{H:AH}{n:Nat}
theorem IE{b:Bool}{Q:AV→b0→AH→Prop}(h:Q (.bool (!b)) ρ H):∀a,Rep (.bool b) a→Tr w f fx X Rep (unaryOp .Not a) ρ H Q:=by
 refine I5 ?_
 rintro s S
 exact a6 (not_of (wpAny_truthy_bool ⟨_,ρ,H,.bool _,S,h⟩))
theorem rD{a:Addr}{xs:List AV}{Q:AV→b0→AH→Prop}(hi:In1 a (.list xs) H) (hz:xs.length≤1000000) (h:Q (.int xs.length) ρ H):E4 w f fx X "len" [.ref a] ρ H Q:=by
 refine y8 ?_
 rintro s ⟨m,news,S⟩
 refine p8 (S.listAt hi) fun vs k r h2 h3=>?_
 have hl:=r.len
 refine a6 (Calls.call_len_list h3 (by simp;exact Js hl hz) ⟨_,ρ,H,.int _ _,⟨m,news,S.toks _⟩,?_⟩)
 rw[List.size_toArray,hl];exact h
theorem cC{a:Addr}{vs:List Value}{Q:AV→b0→AH→Prop}(c:Cx w f fx n) (ht:iQ w.params a=some vs) (hz:vs.length≤1000) (h:Q (.int vs.length) ρ H):E4 w f fx X "len" [.ref a] ρ H Q:=by
 refine y8 ?_
 rintro s ⟨m,news,S⟩
 have h3:=nV (S.KH c) ht
 refine a6 (PyProof.Rows.len_tuple h3 (by simp;exact Oh hz) ⟨_,ρ,H,.int _ _,⟨m,news,S.toks _⟩,?_⟩)
 rw[List.size_toArray];exact h
noncomputable abbrev SY(w:World) (f:FI) (fx:Fx) (X:AV→b0→AH→Prop) (b:Expr) (Q:AV→b0→AH→Prop) (t:Bool) (ρ:b0) (H:AH):Prop:=match t with
 | true=>Ev w f fx X b ρ H Q
 | false=>Q (.bool false) ρ H
inductive SZ (w:World) (f:FI) (fx:Fx) (X:AV→b0→AH→Prop) (b:Expr) (Q:AV→b0→AH→Prop) (v:AV) (ρ:b0) (H:AH):Prop
 | mk (t:Bool) (e:v=.bool t) (q:SY w f fx X b Q t ρ H)
theorem yB{a b:Expr}{pos:Pos}{Q:AV→b0→AH→Prop}(h:Ev w f fx X a ρ H (SZ w f fx X b Q)):Ev w f fx X (.BoolOp .And [a,b] pos) ρ H Q:=by
 intro s S
 refine QB (b6 (h s S) (fun v s₁ h₁=>?_) fun _ _ e=>e)
 obtain⟨bv,ρ₁,H₁,r,S₁,t,rfl,h₂⟩:=h₁
 obtain rfl:=Rep.inv r
 refine a6 (wpAny_truthy_bool ?_)
 cases t with
 | true=>exact h₂ s₁ S₁
 | false=>exact⟨_,ρ₁,H₁,.bool _,S₁,h₂⟩
theorem DC{x y:Str}{Q:AV→b0→AH→Prop}(h:Q (.bool (x == y)) ρ H):S9 w f fx X (compareOp .Eq) (.str x) (.str y) ρ H Q:=by
 refine r6 ?_
 rintro _ _ s S
 exact a6 (eq_str ⟨_,ρ,H,.bool _,S,h⟩)
theorem DD{x y:Str}{Q:AV→b0→AH→Prop}(h:Q (.bool (x != y)) ρ H):S9 w f fx X (compareOp .NotEq) (.str x) (.str y) ρ H Q:=by
 refine r6 ?_
 rintro _ _ s S
 exact a6 (ne_str ⟨_,ρ,H,.bool _,S,h⟩)
theorem All2.take{α β:Type}{R:α→β→Prop}:∀ {as:List α}{bs:List β},All2 R as bs→∀k,All2 R (as.take k) (bs.take k)
 | _,_,_,0=>.nil
 | _,_,.nil,_+1=>.nil
 | _,_,.cons h r,k+1=>.cons h (r.take k)
theorem AQ{target:Expr}{body:List Stmt}{I l:Addr}{xs:List AV}{G₀:AH}{k:Nat}{Q:AF→b0→AH→Prop}{J:Nat→b0→AH→Prop}{oi₀:Obj}{s:Shared}(c:Cx w f fx k) (hh:fx.A.handled=none)
  (hS:Sat f fx ρ ((I,.raw oi₀)::G₀) s) (hp:oi₀.cls=.type "list_iterator"∧oi₀.data=.fields #[.ref l,.int (0:Nat) 0]) (hJ:J 0 ρ G₀) (hG:∀i ρ G,J i ρ G→In1 l (.list xs) G)
  (hlet:∀it v,letOwnedTupleGo target it v=pure ())
  (turn:∀i ρ G o,i<xs.length→J i ρ G→GW w f fx (fun _ _ _=>False) target (xs.getD i .none) ρ ((I,.raw o)::G) (GP w f fx (fun _ _ _=>False) body (xQ [(I,.raw o)] (J (i+1)))))
  (done:∀ρ G,J xs.length ρ G→Q .next ρ G) :
  j4 (model pw w) fx.A (.forLoop target (.ref I) body [] (f.env fx)) (fun r s'=>match r with
   | .ok fl=>pY f fx RepF Q fl s'
   | .error e=>M5 (model pw w) fx.A (f.env fx) (gG f fx X) e s') s:=by
 refine Y3 (fun j s'=>∃i ρ G oi,j=xs.length - i∧i≤xs.length∧(oi.cls=.type "list_iterator"∧oi.data=.fields #[.ref l,.int (i:Nat) 0])∧Sat f fx ρ ((I,.raw oi)::G) s'∧J i ρ G) (fun j s₁ hI=>?_) (xs.length - 0) ⟨0,ρ,G₀,oi₀,rfl,Nat.zero_le _,hp,hS,hJ⟩
 refine aO (hI) fun i ρ₁ G oi zq1 hi hpi S₁ hJ₁=>?_;subst zq1
 obtain⟨m,news,S⟩:=id S₁
 refine f9 (S.items _ (.head _)) fun o' h1 h2=>?_
 obtain rfl:=RepO.inv h2
 have hit:s₁.heap.IsListIter I l i:=⟨_,S.freed h1,hpi⟩
 refine p8 (S.listAt (.there (hG _ _ _ hJ₁))) fun vs ol r h3 h4=>?_
 have hlen:=r.len
 have hne:l≠I:=fun q=>by
  have nd:=S.keys
  rw[List.map_cons,List.nodup_cons] at nd
  exact nd.1 (q▸List.mem_map_of_mem (f:=(·.1)) (hG _ _ _ hJ₁).mem)
 by_cases hlt:i<xs.length
 ·have hx:xs[i]?=some (xs.getD i .none):=by simp [hlt]
  refine f9 (r.get _ _ hx) fun cv h5 h6=>?_
  refine a6 (wpAny_pyNext_list_item hit h4 (x:=cv) (by simpa using h5) fun h' hit' hs'=>?_)
  refine f9 (hit') fun oi' hoi hoi2=>?_
  have S₂:Sat f fx ρ₁ ((I,.raw oi')::G) { s₁ with heap:=h' }:=S.moved (s':= { s₁ with heap:=h' }) h1 .here (.raw oi') hoi (fun b ob hb e=>hs'.extBut b ob hb e) rfl rfl
  refine(?_:c8 _ _ (letOwnedTupleGo target (.ref I) cv) _ _ _)
  rw[hlet]
  refine b7 ?_
  refine dE (turn i ρ₁ G oi' hlt hJ₁ cv h6 _ S₂) fun u s₃ hq=>?_
  obtain⟨b,ρ₂,H₂, -,S₃,hb⟩:=hq
  refine dE (hb _ S₃) fun fl s₄ hq=>?_
  obtain⟨b,ρ₄,H₄,rb,S₄,hb,G',hdel,hJ'⟩:=hq
  obtain⟨_,_,S₄'⟩:=id S₄
  refine oA (aX hdel S₄'.keys) fun hsub hnd=>?_
  have next:∃m,m<xs.length - i∧∃i' ρ G oi,m=xs.length - i'∧i'≤xs.length∧(oi.cls=.type "list_iterator"∧oi.data=.fields #[.ref l,.int (i':Nat) 0])∧Sat f fx ρ ((I,.raw oi)::G) s₄∧J i' ρ G:=
   ⟨xs.length - (i+1),by exact HA hlt,i+1,ρ₄,G',oi',rfl,hlt,hoi2,S₄.sub hsub hnd,hJ'⟩
  rcases hb with rfl |rfl
  ·obtain rfl:=RepF.inv rb;exact next
  ·obtain rfl:=RepF.inv rb;exact next
 ·obtain rfl:i=xs.length:=by exact Hz hi hlt
  refine a6 (wpAny_pyNext_list_end hh hit h4 (by simp;exact Mh hlen) fun h' he'=>?_)
  have nd:=S.keys
  rw[List.map_cons,List.nodup_cons] at nd
  have S₂:Sat f fx ρ₁ G { s₁ with heap:=h' }:=S.dropped (s':= { s₁ with heap:=h' }) h1 (fun p hp=>⟨.tail _ hp,fun q=>nd.1 (by
   have hm:=List.mem_map_of_mem (f:=fun p:Addr×AO=>p.1) hp
   rw[show p.1=I from q] at hm
   exact hm)⟩) nd.2 (fun b ob hb e'=>he' b ob hb e') rfl rfl
  exact a6 (wpAny_execs_nil ⟨_,ρ₁,G,.next,S₂,done _ _ hJ₁⟩)
inductive QU (w:World) (f:FI) (fx:Fx) (target:Expr) (body:List Stmt) (Q:b0→AH→Prop) (v:AV) (ρ:b0) (H:AH):Prop
 | mk (l:Addr) (xs:List AV) (J:Nat→b0→AH→Prop) (e:v=.ref l) (j:J 0 ρ H) (i:∀i ρ G,J i ρ G→In1 l (.list xs) G) (t:∀i ρ G I o,i<xs.length→J i ρ G→GW w f fx (fun _ _ _=>False) target (xs.getD i .none) ρ ((I,.raw o)::G) (GP w f fx (fun _ _ _=>False) body (xQ [(I,.raw o)] (J (i+1))))) (q:∀ρ G,J xs.length ρ G→Q ρ G)
theorem cD{target e:Expr}{body:List Stmt}{pos:Pos}{k:Nat}{Q:AF→b0→AH→Prop}(c:Cx w f fx k) (hh:fx.A.handled=none)
  (h:Ev w f fx X e ρ H (QU w f fx target body (Q .next)))
  (hs:∀x,foldedSetIterable e (f.env fx) x=pure x) (hlet:∀it v,letOwnedTupleGo target it v=pure ()):bT w f fx X (.For target e body [] pos) ρ H Q:=by
 intro s S
 refine yT hs (b6 (h s S) (fun v s₁ h₁=>?_) fun _ _ e=>e)
 obtain⟨bv,ρ₁,H₁,r,⟨m,news,S₁⟩,l,xs,J,rfl,hJ,hG,turn,done⟩:=h₁
 obtain rfl:=Rep.inv r
 refine p8 (S₁.listAt (hG _ _ _ hJ)) fun vs ol r h3 h4=>?_
 refine a6 (wpAny_pyIter_list h4 ?_)
 have S₂:=S₁.push (s':= { s₁ with heap:=s₁.heap.push { cls:=.type "list_iterator",data:=.fields #[.ref l,.int 0 0] } }) (ao:=.raw _) (o:= { cls:=.type "list_iterator",data:=.fields #[.ref l,.int 0 0] }) rfl (.raw _) rfl rfl rfl
 exact AQ c hh ⟨m,_,S₂⟩ ⟨rfl,rfl⟩ hJ hG hlet (fun i ρ G o=>turn i ρ G _ o) done
inductive QV (P:Params) (Q:b0→AH→Prop) (v:AV) (ρ:b0) (H:AH):Prop
 | mk (a:Addr) (e:v=.ref a) (q:iQ P a=some []∧Q ρ H)
theorem Z5{x:Str}{px pos:Pos}{e:Expr}{body:List Stmt}{k:Nat}{Q:AF→b0→AH→Prop}(c:Cx w f fx k) (hh:fx.A.handled=none)
  (h:Ev w f fx X e ρ H (QV w.params (Q .next)))
  (hs:∀x,foldedSetIterable e (f.env fx) x=pure x):bT w f fx X (.For (.Name x px) e body [] pos) ρ H Q:=by
 intro s S
 refine yT hs (b6 (h s S) (fun v s₁ h₁=>?_) fun _ _ e=>e)
 obtain⟨bv,ρ₁,H₁,r,⟨m,news,S₁⟩,a,rfl,ht,hq⟩:=h₁
 obtain rfl:=Rep.inv r
 have h3:=nV (S₁.KH c) ht
 refine pK (id h3) fun o ho hc kk hd=>?_
 refine a6 (wpAny_pyIter_tuple ⟨o,ho,hc,⟨kk,hd⟩⟩ ?_)
 have S₂:=S₁.push (s':= { s₁ with heap:=s₁.heap.push { cls:=.type "tuple_iterator",data:=.fields #[.ref a,.int 0 0] } }) (ao:=.raw _) (o:= { cls:=.type "tuple_iterator",data:=.fields #[.ref a,.int 0 0] }) rfl (.raw _) rfl rfl rfl
 have hne:a≠s₁.heap.objs.size:=fun q=>by
  rw[q] at ho
  exact absurd (Heap.lt_size ho) (Nat.lt_irrefl _)
 have W:=Walks.tuple (prog:=pw) (w:=w) (A:=fx.A) hh s₁.heap.objs.size a hne ([]:List Value).toArray
 refine Y3 (fun _ s'=>Sat f fx ρ₁ ((s₁.heap.objs.size,.raw { cls:=.type "tuple_iterator",data:=.fields #[.ref a,.int 0 0] })::H₁) s'∧s'.heap.IsTupleIter s₁.heap.objs.size a 0∧s'.heap.IsTuple a #[]) (fun j s₂ hI=>?_) 0 ⟨⟨m,_,S₂⟩,⟨_,Heap.get?_push_size _ rfl,rfl,rfl⟩,⟨o,Heap.get?_push_of_some _ ho,hc,⟨kk,hd⟩⟩⟩
 refine wT (hI) fun zq1 hi1 hi2=>?_;obtain⟨m₂,news₂,S₃⟩:=zq1
 refine a6 (W.done s₂ _ _ ⟨hi1,hi2⟩ fun h' tk he'=>?_)
 refine f9 (S₃.items _ (.head _)) fun o' h1 h2=>?_
 obtain rfl:=RepO.inv h2
 have nd:=S₃.keys
 rw[List.map_cons,List.nodup_cons] at nd
 have S₄:Sat f fx ρ₁ H₁ { s₂ with heap:=h',toks:=tk }:=S₃.dropped (s':= { s₂ with heap:=h',toks:=tk }) h1 (fun p hp=>⟨.tail _ hp,fun q=>nd.1 (by
   have hm:=List.mem_map_of_mem (f:=fun p:Addr×AO=>p.1) hp
   rw[show p.1=s₁.heap.objs.size from q] at hm
   exact hm)⟩) nd.2 (fun b ob hb e'=>he' b ob (fun z=>hb (List.mem_singleton.mp z)) e') rfl rfl
 exact a6 (wpAny_execs_nil ⟨_,ρ₁,H₁,.next,S₄,hq⟩)
end
def TX(s:String):Lean.Name:=(s.splitOn ".").foldl Lean.Name.str .anonymous
def exg(s d:String):String:=String.intercalate (String.ofList d.toList.tail) (s.splitOn (String.singleton d.front))
def stg(e:Lean.Syntax) (l:List Lean.Syntax) (t:String):List Lean.Syntax:=
 let c:=t.toList
 let r:=String.ofList c.tail
 let n:=(c.tail.headD 'a').toNat - 97
 let a:=Lean.Syntax.atom .none r
 let z:=(l.take n).reverse
 if c.headD 'a' == 'a' then a::l else if c.headD 'a' == 'e' then e::l else if c.headD 'a' == 'x' then .ident .none r.toRawSubstring (TX r) []::l else .node .none (TX (String.ofList c.tail.tail)) (if c.headD 'a' == 'b' then a::z else z).toArray::l.drop n
def stx(s:String) (e:Lean.Syntax:=.missing):Lean.Syntax:=((("!bb$exact ,/&bb$apply ,/^bb$withReducible ,/#bb$focus , )/)a bc$paren/|bbgroup/{bb%byTactic/*ba%hole/?a bb%syntheticHole/[batacticKernel_rfl/]ba$assumption/~baPyProof.Rows.tactic/`baPySem.W.tactic/,nb+/+null nb$tacticSeq1Indented nb$tacticSeq/@null nc%app/$Lean.Parser.Tactic./%Lean.Parser.Term.".splitOn "/").foldl exg s).splitOn " ").foldl (stg e) [] |>.headD e
local macro_rules | `(tactic| law_side) => return stx "] , ^ | xIn1.here ! ^ | xIn1.there bb$apply a ~Law_side nd+ ^ ) , | xList.nil_sublist * nb@ ! | xList.Sublist.refl * nb@ ! | xList.Sublist.cons_cons bb$apply a ~Law_side nd+ ) , | xList.Sublist.cons bb$apply a ~Law_side nd+ ) , | nhnull bb$first"
local macro_rules | `(tactic| da_tab) => return stx "xPut1.here ! ^ | xApp1.nil ! ^ | xDel1.here ! ^ | xDelN.nil ! ^ | xPut1.there bb$apply a ~Da_tab nd+ ^ ) , | xApp1.cons bb$apply a ~Da_tab nd+ ^ ) , | xDel1.there bb$apply a ~Da_tab nd+ ^ ) , | xDelN.cons bb$apply a ~Da_tab , # a ~Da_tab nf+ ^ ) , | ninull bb$first"
theorem J2{α β:Type}{w:World}{f:FI}{fx:Fx}{X:AV→b0→AH→Prop}{rep:β→α→Prop}{t:Sem α}{ρ:b0}{H H':AH}{Q:β→b0→AH→Prop}(hs:H'.Sublist H) (h:Tr w f fx X rep t ρ H' Q):Tr w f fx X rep t ρ H Q:=fun s S=>
 h s (S.sub (fun p hp=>hs.subset hp) (by obtain⟨_,_,S'⟩:=S;exact S'.keys.sublist (hs.map _)))
theorem yC{w:World}{k:Nat}{a:Addr}{vs:List AV}{H:AH}{XS Q Q':AV→AH→Prop}(h:c6 w k a vs H XS Q) (hq:∀r H',Q r H'→∃H'',(∀ {f:FI}{fx:Fx}{ρ:b0}{s:Shared},Sat f fx ρ H' s→Sat f fx ρ H'' s)∧Q' r H''):c6 w k a vs H XS Q':=by
 intro f fx ρ A k' c h1 h2 h3 h4 s S cvs r
 refine w0 (h f fx ρ A k' c h1 h2 h3 h4 s S cvs r) ?_
 intro r s' hr
 cases r with
 | error e=>exact hr
 | ok fl=>cases fl with
  | ret v=>exact p8 (hr) fun b H' e1 e2 e3=>f9 (hq b H' e3) fun H'' t q=>⟨b,H'',e1,t e2,q⟩
  | _=>exact False.elim hr
theorem J3{w:World}{k:Nat}{a:Addr}{vs:List AV}{H:AH}{XS Q:AV→AH→Prop}(h:c6 w k a vs H XS fun r H'=>∃H'',H''.Sublist H'∧Q r H''):c6 w k a vs H XS Q:=yC h fun r H' z=>f9 (z) fun H'' e3 e4=>⟨H'',fun{f fx ρ s} S=>S.sub (fun p hp=>e3.subset hp) (by cases S with |mk m news S=>exact S.keys.sublist (e3.map _)),e4⟩
theorem QW{i j:Int}(h:i=j):(i == j)=true:=beq_iff_eq.mpr h
theorem GY{i j:Int}(h:¬ i=j):(i == j)=false:=beq_eq_false_iff_ne.mpr h
theorem GZ{i j:Int}(h:¬ i=j):(i != j)=true:=bne_iff_ne.mpr h
theorem DE{i j:Int}(h:i=j):(i != j)=false:=by rw[h];exact bne_self_eq_false _
section
variable{w:World}{f:FI}{fx:Fx}{X:AV→b0→AH→Prop}{ρ:b0}{H:AH}{n:Nat}{Q:Bool→b0→AH→Prop}
noncomputable abbrev Ta(Q:Bool→b0→AH→Prop) (b:Bool) (ρ:b0) (H:AH):Prop:=match b with
 | true=>Q false ρ H
 | false=>Q true ρ H
theorem dK{e:Expr}{p:Pos}(h:Te w f fx X e ρ H (Ta Q)):Te w f fx X (.UnaryOp .Not e p) ρ H Q:=Ie (z7 h fun b ρ' H' q=>match b,q with |true,q=>q |false,q=>q)
theorem M8{b:Bool}(e:b=true) (h:Q true ρ H):xH w f fx X (.bool b) ρ H Q:=by subst e;exact Y4 h
theorem x3{b:Bool}(e:b=false) (h:Q false ρ H):xH w f fx X (.bool b) ρ H Q:=by subst e;exact Y4 h
theorem H4{b:Bool}(h1:b=true→Q true ρ H) (h2:b=false→Q false ρ H):xH w f fx X (.bool b) ρ H Q:=by cases b;exact Y4 (h2 rfl);exact Y4 (h1 rfl)
theorem IF{i:Int}(e:i≠0) (h:Q true ρ H):xH w f fx X (.int i) ρ H Q:=xV (by rw[bne_iff_ne.mpr e];exact h)
theorem IG{i:Int}(e:i=0) (h:Q false ρ H):xH w f fx X (.int i) ρ H Q:=xV (by subst e;exact h)
theorem b9{o:Expr}{name:Str}{apos pos:Pos}{args:List Expr}{Q:AV→b0→AH→Prop}(h:Ev w f fx X o ρ H (GR w f fx X name args Q))
  (he:autoParam (eval (.Call (.Attribute o name apos) args [] pos) (f.env fx)=(do
   let ov ← eval o (f.env fx)
   standAt apos.atName
   let(g,first) ← holding [ov] (getMethod ov name (do return (← importBound o (f.env fx)).getD true))
   callWith pos g first (backTo pos (starEach args (f.env fx))) [])) kK):Ev w f fx X (.Call (.Attribute o name apos) args [] pos) ρ H Q:=yX h he
theorem x0(v:Value):AV.none≠.lit v:=nofun
theorem E7(a:Addr) (v:Value):AV.ref a≠.lit v:=nofun
theorem fP(i:Int) (v:Value):AV.int i≠.lit v:=nofun
theorem AR{t:Expr}{body:List Stmt}{pos:Pos}{Q:AF→b0→AH→Prop}(hX:xY w f fx X) (h:Te w f fx X t ρ H fun b ρ₁ H₁=>b=false∧Q .next ρ₁ H₁):bT w f fx X (.While t body [] pos) ρ H Q:=
 J0 hX (fun _ ρ' H'=>ρ'=ρ∧H'=H) 0 ⟨rfl,rfl⟩ fun k ρ' H' ⟨e1,e2⟩=>by
  subst e1;subst e2
  refine z7 h fun b ρ₁ H₁ q=>?_
  obtain⟨rfl,q⟩:=q
  exact q
theorem fQ{e:Expr}{pos:Pos}{Q:AF→b0→AH→Prop}(h:Ev w f fx X e ρ H fun v ρ₁ H₁=>(∃i,v=.int i)∧Q .next ρ₁ H₁) (hi:autoParam (interactive (f.env fx)=false) kR) (hs:autoParam (swapsWith e none pos.line (f.env fx)=pure false) kR):bT w f fx X (.Expr e pos) ρ H Q:=
 fun s S=>GU hi hs (b6 (h s S) (fun v s₁ ⟨b,ρ₁,H₁,r,S₁,⟨i,hb⟩,hQ⟩=>by subst hb;cases r;exact⟨(fun _=>by intro z;cases z),_,ρ₁,H₁,.next,S₁,hQ⟩) fun _ _ x=>x)
end
section
variable{w:World}{f:FI}{fx:Fx}{X:AV→b0→AH→Prop}{ρ:b0}{H:AH}
theorem v9{ss:List Stmt}{Q:AF→b0→AH→Prop}(h:∀Q':AF→b0→AH→Prop,(∀b ρ' H',Q b ρ' H'→Q' b ρ' H')→Ex w f fx X ss ρ H Q'):Ex w f fx X ss ρ H Q:=h Q fun _ _ _ q=>q
end
noncomputable abbrev clsFnT:List ((Addr×Str)×Addr):=[((39, "__init__"),36)]
theorem AS(P:Params):(clsFnT.all fun p=>dF P p.1.1 p.1.2 p.2)=true:=by kernel_rfl
theorem dL{P:Params}{C g:Addr}{x:Str}(h:In1 (C,x) g clsFnT):dF P C x g=true:=by
 have e:=List.all_eq_true.mp (AS P) ((C,x),g) h.mem
 exact e
noncomputable abbrev QX(fl:AF):AV:=match fl with | .ret v=>v |_=>.none
inductive wA (Q:AV→AH→Prop) (fl:AF) (ρ:b0) (H:AH):Prop
 | mk (H₂:AH) (s:H₂.Sublist H) (q:Q (QX fl) H₂)
theorem wB{Q:AV→AH→Prop}{v v':AV}{ρ:b0}{H:AH}(e:v=v') (q:Q v' H):wA Q (.ret v) ρ H:=⟨H,.refl _,e▸q⟩
theorem nZ{Q:AV→AH→Prop}{v v':AV}{ρ:b0}{H H₂:AH}(s:H₂.Sublist H) (e:v=v') (q:Q v' H₂):wA Q (.ret v) ρ H:=⟨H₂,s,e▸q⟩
theorem c9{w:World}{n:Nat}{H:AH}{d:FnD}{vs dv:List AV}{ρ₀:b0}{Q:AV→AH→Prop}(hd:d.Ok w.params) (dcv:List Value) (hdv:All2 Rep dv dcv) (hl:d.ps.length=(vs++dv).length) (hρ:ρ₀=j6 d.ps d.others (vs++dv))
  (hbind:∀(s:Shared) (cvs:List Value),Frag.In (KG w.params) s.heap→cvs.length=vs.length→BindsTo s d.fd ⟨cvs,[]⟩ (d.ps.zip (cvs++dcv)))
  (h:∀fx,Cx w d.fi fx n→fx.A.handled=none→Ex w d.fi fx (fun _ _ _=>False) (j5 d.stmt) ρ₀ H (wA Q)):c6 w (n+1) d.addr vs H (fun _ _=>False) Q:=
 J3 (O0 hd dcv hdv hl hρ hbind fun fx c hh=>z7 (h fx c hh) fun _ _ _ q=>let⟨H₂,s,q⟩:=q; ⟨H₂,s,q⟩)
theorem oB{w:World}{n:Nat}{H:AH}{d:FnD}{locs:List Str}{vs:List AV}{ρ₀:b0}{cH:Addr→AH}{Q:AV→AH→Prop}(hd:d.OkC w.params) (ok:(d.fiC locs).Ok)
  (hbind:∀(s:Shared) (cvs:List Value),Frag.In (KG w.params) s.heap→cvs.length=vs.length→BindsTo s d.fd ⟨cvs,[]⟩ (d.ps.zip cvs))
  (hcn:∀n,((cellsFrom n (d2 d.stmt).names []).map (·.1)).Nodup) (hkind:∀n,∀x∈d.ps,(d2 d.stmt).names.lookup x=some .local∨((d2 d.stmt).names.lookup x=some .cell∧((cellsFrom n (d2 d.stmt).names []).lookup x).isSome=true))
  (hρ:∀cvs,All2 Rep vs cvs→bS (d.fiC locs) ρ₀ (bindL (fun x=>(d2 d.stmt).names.lookup x) (d.ps.zip cvs) fun _=>none)) (hcH:∀cvs L,All2 Rep vs cvs→CellsH (bindC (fun x=>(d2 d.stmt).names.lookup x) (d.ps.zip cvs) fun _=>none) (d.cellsC L) (cH L))
  (h:∀fx,Cx w (d.fiC locs) fx n→fx.A.handled=none→fx.cells=d.cellsC fx.L→Ex w (d.fiC locs) fx (fun _ _ _=>False) (j5 d.stmt) ρ₀ (cH fx.L++H) (wA Q)):c6 w (n+1) d.addr vs H (fun _ _=>False) Q:=
 J3 (AN (X:=fun _ _ _ _=>False) hd ok hbind hcn hkind hρ hcH fun fx c hh _ _ hcl=>⟨z7 (h fx c hh hcl) fun _ _ _ q=>let⟨H₂,s,q⟩:=q; ⟨H₂,s,q⟩,fun _ _ ⟨_,_,_,_,_,z⟩=>z.elim⟩)
noncomputable abbrev Td(Q:AV→b0→AH→Prop) (ρ:b0) (v:AV) (H:AH):Prop:=Q v ρ H
inductive QNew (Q:AV→b0→AH→Prop) (ρ:b0) (x:Addr) (v:AV) (H:AH):Prop
 | mk' (e:v=.none) (q:Q (.ref x) ρ H)
theorem QNew.mk{Q:AV→b0→AH→Prop}{ρ:b0}{x:Addr}{H:AH}(q:Q (.ref x) ρ H):QNew Q ρ x .none H:=⟨rfl,q⟩
section
variable{w:World}{f:FI}{fx:Fx}{X:AV→b0→AH→Prop}{ρ:b0}{H:AH}{n:Nat}{a:Addr}{vs:List AV}{H₂:AH}{Q:AV→b0→AH→Prop}{k:Nat}
theorem rE(c:Cx w f fx n) (hh:fx.A.handled=none) (hk:k≤n) (hp:H.Perm H₂) (hs:c6 w k a vs H₂ (fun _ _=>False) (Td Q ρ)):w3 w f fx X a vs ρ H Q:=
 y4 c hh hs hk hp (fun _ _ h=>h.elim) fun _ _ q=>q
theorem f5(c:Cx w f fx n) (hh:fx.A.handled=none) (hk:Nat.ble k n=true) (hp:H.Perm H₂) (hs:c6 w k a vs H₂ (fun _ _=>False) (Td Q ρ)):w3 w f fx X a vs ρ H Q:=rE c hh (Nat.le_of_ble_eq_true hk) hp hs
theorem a9(c:Cx w f fx n) (hh:fx.A.handled=none) (hk:Nat.ble k n=true) (hs:c6 w k a vs H (fun _ _=>False) (Td Q ρ)):w3 w f fx X a vs ρ H Q:=f5 c hh hk (.refl _) hs
theorem FT{C gI:Addr}(c:Cx w f fx n) (hh:fx.A.handled=none) (ho:xT w.params C gI=true) (hk:Nat.ble (k+1) n=true) (hp:H.Perm H₂)
  (hs:∀x d,c6 w k gI (.ref x::vs) ((x,.inst C d)::(d,.dict [])::H₂) (fun _ _=>False) (QNew Q ρ x)):w3 w f fx X C vs ρ H Q:=
 Di c hh ho (QS:=fun x _=>QNew Q ρ x) hs (Nat.le_of_ble_eq_true hk) hp (fun _ _ h=>h.elim) fun _ _ _ _ q=>let⟨e,q⟩:=q; ⟨e,q⟩
theorem g6{C gI:Addr}(c:Cx w f fx n) (hh:fx.A.handled=none) (ho:xT w.params C gI=true) (hk:Nat.ble (k+1) n=true)
  (hs:∀x d,c6 w k gI (.ref x::vs) ((x,.inst C d)::(d,.dict [])::H) (fun _ _=>False) (QNew Q ρ x)):w3 w f fx X C vs ρ H Q:=FT c hh ho hk (.refl _) hs
end
noncomputable abbrev gV{α:Type}:Nat→List α→Option α
 | 0,a::_=>some a
 | k+1,_::l=>gV k l
 | _,[]=>none
theorem B1{α β:Type}{k:α}{v:β}:∀ {i:Nat}{l:List (α×β)},gV i l=some (k,v)→In1 k v l
 | 0,_::_,h=>by cases h;exact .here
 | i+1,_::l,h=>.there (B1 (i:=i) (l:=l) h)
 | 0,[],h=>by cases h
 | _+1,[],h=>by cases h
noncomputable def noStar:List Expr→Bool
 | []=>true
 | .Starred _ _::_=>false
 | _::es=>noStar es
noncomputable def oC:Expr→Bool
 | .Call _ _ _ _=>false
 | _=>true
noncomputable def x1:Expr→Bool
 | .ListComp _ _ _ _=>false
 | .SetComp _ _ _ _=>false
 | .DictComp _ _ _ _ _=>false
 | _=>true
theorem u9{e:Expr}{t:Option Expr}{k:Nat}{env:Env}(h:x1 e=true):swapsWith e t k env=pure false:=by
 cases e <;> first |rfl |cases h
theorem Z6{o:Expr}{name:Str}{env:Env}{t:Sem Value}(h:oC o=true):attributeBase o name env t=t:=by
 cases o <;> first |rfl |cases h
theorem t5{e:Expr}{es:List Expr}{env:Env}(h:noStar (e::es)=true):starEach (e::es) env=(false,eval e env)::starEach es env∧noStar es=true:=by
 cases e <;> first |exact⟨rfl,h⟩ |cases h
theorem E8:∀ {es:List Expr}{env:Env},noStar es=true→(starEach es env).any (·.1)=false
 | [],_,_=>rfl
 | e::es,env,h=>by
  obtain⟨h1,h2⟩:=t5 (env:=env) h
  rw[h1]
  exact E8 h2
theorem backTo_any{pos:Pos}:∀ {l:List (Bool×Sem Value)},(backTo pos l).any (·.1)=l.any (·.1):=by
 intro l
 unfold backTo
 simp only[List.any_map]
 rfl
noncomputable def iU:Expr→Bool
 | .UnaryOp .Not _ _=>false
 | .BoolOp _ _ _=>false
 | .IfExp _ _ _ _=>false
 | .Compare _ _ _ _=>false
 | _=>true
theorem oF{e:Expr}{env:Env}(h:iU e=true):isTrue e env (eval e env)=(do let v ← eval e env;standAt e.pos;holding [v] (truthy v)):=by
 cases e <;> first |rfl |(cases h;done) |(rename_i op _ _;cases op <;> first |rfl |cases h)
noncomputable def D8(w:World) (f:FI) (fx:Fx) (X:AV→b0→AH→Prop) (ρ:b0) (H:AH) (e:Expr) (v:AV):Prop:=∀Q:AV→b0→AH→Prop,Q v ρ H→Ev w f fx X e ρ H Q
noncomputable def cS(w:World) (f:FI) (fx:Fx) (X:AV→b0→AH→Prop) (ρ:b0) (H:AH) (t:Value→Value→Sem Value) (x y v:AV):Prop:=∀Q:AV→b0→AH→Prop,Q v ρ H→S9 w f fx X t x y ρ H Q
noncomputable def Ek(w:World) (f:FI) (fx:Fx) (X:AV→b0→AH→Prop) (ρ:b0) (H:AH) (es:List Expr) (vs:List AV):Prop:=∀Q:List AV→b0→AH→Prop,Q vs ρ H→Ea w f fx X es ρ H Q
noncomputable def Tf(w:World) (f:FI) (fx:Fx) (X:AV→b0→AH→Prop) (ρ:b0) (H:AH) (id:String) (vs:List AV) (v:AV):Prop:=∀Q:AV→b0→AH→Prop,Q v ρ H→E4 w f fx X id vs ρ H Q
noncomputable def Ry(w:World) (f:FI) (fx:Fx) (X:AV→b0→AH→Prop) (ρ:b0) (H:AH) (T:String) (vs:List AV) (v:AV):Prop:=∀Q:AV→b0→AH→Prop,Q v ρ H→M6 w f fx X T vs ρ H Q
noncomputable def DF(w:World) (f:FI) (fx:Fx) (X:AV→b0→AH→Prop) (ρ:b0) (H:AH) (e:Expr) (v:AV):Prop:=∀Q:Bool→b0→AH→Prop,xH w f fx X v ρ H Q→Te w f fx X e ρ H Q
noncomputable def fR(w:World) (f:FI) (fx:Fx) (X:AV→b0→AH→Prop) (ρ:b0) (H:AH) (v:AV) (b:Bool):Prop:=∀Q:Bool→b0→AH→Prop,Q b ρ H→xH w f fx X v ρ H Q
noncomputable def yD(w:World) (f:FI) (fx:Fx) (X:AV→b0→AH→Prop) (ρ:b0) (H:AH) (e:Option Expr) (v:Option Int):Prop:=∀Q:Option Int→b0→AH→Prop,Q v ρ H→Ep w f fx X e ρ H Q
section
variable{w:World}{f:FI}{fx:Fx}{X:AV→b0→AH→Prop}{ρ:b0}{H:AH}
theorem Tg{e:Expr}{v:AV}{Q:AV→b0→AH→Prop}(h:D8 w f fx X ρ H e v) (q:Q v ρ H):Ev w f fx X e ρ H Q:=h Q q
theorem D2{e:Expr}{v:AV}{Q:Bool→b0→AH→Prop}(h:DF w f fx X ρ H e v) (q:xH w f fx X v ρ H Q):Te w f fx X e ρ H Q:=h Q q
theorem Rz{n:Nat}{x:Str}{p:Pos}{v:AV}(c:Cx w f fx n) (i:Nat) (hx:gV i ρ=some (x,some v)) (hd:(x == ("__debug__":Str))=false):D8 w f fx X ρ H (.Name x p) v:=fun Q q=>m7 c.ok (B1 hx) hd q
theorem Th{i:Int}{k:Nat}{p:Pos}:D8 w f fx X ρ H (.Constant (.int i) k p) (.int i):=fun Q q=>u1 q
theorem RA{k:Nat}{p:Pos}:D8 w f fx X ρ H (.Constant .none k p) .none:=fun Q q=>EP q
theorem RB{b:Bool}{k:Nat}{p:Pos}:D8 w f fx X ρ H (.Constant (.bool b) k p) (.bool b):=fun Q q=>xG q
theorem QY{b:List UInt8}{k:Nat}{p:Pos}:D8 w f fx X ρ H (.Constant (.bytes b) k p) (.bytes b):=fun Q q=>pZ q
theorem Ti{x:Str}{k:Nat}{p:Pos}:D8 w f fx X ρ H (.Constant (.str x) k p) (.str x):=fun Q q=>Ic q
theorem RC{n:Nat}{x:Str}{p:Pos}{v:Value}{av:AV}(c:Cx w f fx n) (hv:G4 w.params x=some v) (hr:GV av v) (hx:(f.scope.names.lookup x == some .globalImplicit)=true) (hd:(x == ("__debug__":Str))=false):D8 w f fx X ρ H (.Name x p) av:=fun Q q=>ET c hv hr hx hd q
theorem Tj{l r:Expr}{op:Operator}{p:Pos}{x y v:AV}(h1:D8 w f fx X ρ H l x) (h2:D8 w f fx X ρ H r y) (h3:cS w f fx X ρ H (binaryOp op) x y v):D8 w f fx X ρ H (.BinOp l op r p) v:=fun Q q=>c4 (h1 _ (h2 _ (h3 _ q)))
theorem Tk{l r:Expr}{op:CmpOp}{p:Pos}{x y v:AV}(h1:D8 w f fx X ρ H l x) (h2:D8 w f fx X ρ H r y) (h3:cS w f fx X ρ H (compareOp op) x y v) (hm:behindInMarks op r=false):D8 w f fx X ρ H (.Compare l [op] [r] p) v:=fun Q q=>V6 hm (h1 _ (h2 _ (h3 _ q)))
theorem Tl{n:Nat}{o:Expr}{name:Str}{p:Pos}{C d a:Addr}{fs:List (Str×AV)}{v:AV}(c:Cx w f fx n) (h:D8 w f fx X ρ H o (.ref a)) (i j k:Nat) (h1:gV i H=some (a,.inst C d)) (h2:gV j H=some (d,.dict fs)) (h3:gV k fs=some (name,v))
  (ho:xL w.params C name=true) (hv:v.fine=true) (hb:oC o=true):D8 w f fx X ρ H (.Attribute o name p) v:=fun Q q=>d1 (h _ (nD c (B1 h1) (B1 h2) (B1 h3) ho hv q)) (Z6 hb)
theorem Tm{n:Nat}{o:Expr}{name:Str}{p:Pos}{C:Addr}{v:Value}{av:AV}(c:Cx w f fx n) (h:D8 w f fx X ρ H o (.ref C)) (ho:dY w.params C name v=true) (hr:GV av v) (hb:oC o=true):D8 w f fx X ρ H (.Attribute o name p) av:=fun Q q=>d1 (h _ (Ig c ho hr q)) (Z6 hb)
theorem Tn{e:Expr}{pos:Pos}{i:Int}(h:D8 w f fx X ρ H e (.int i)):D8 w f fx X ρ H (.UnaryOp .USub e pos) (.int (-i)):=fun Q q=>qU (h _ (Iw q))
theorem To{e:Expr}{pos:Pos}{b:Bool}(h:D8 w f fx X ρ H e (.bool b)):D8 w f fx X ρ H (.UnaryOp .Not e pos) (.bool (!b)):=fun Q q=>qU (h _ (IE q))
theorem RD{t a b:Expr}{p:Pos}{x v:AV}(h:DF w f fx X ρ H t x) (ht:fR w f fx X ρ H x true) (ha:D8 w f fx X ρ H a v):D8 w f fx X ρ H (.IfExp t a b p) v:=fun Q q=>z8 (h _ (ht _ (ha _ q)))
theorem RE{t a b:Expr}{p:Pos}{x v:AV}(h:DF w f fx X ρ H t x) (ht:fR w f fx X ρ H x false) (ha:D8 w f fx X ρ H b v):D8 w f fx X ρ H (.IfExp t a b p) v:=fun Q q=>z8 (h _ (ht _ (ha _ q)))
theorem QZ{value:Expr}{lower upper:Option Expr}{p pos:Pos}{b:List UInt8}{lo hi:Option Int}(h:D8 w f fx X ρ H value (.bytes b)) (h1:yD w f fx X ρ H lower lo) (h2:yD w f fx X ρ H upper hi) (hz:b.length≤1000000)
  (hs:∀(a:Array UInt8) u (i:Addr),subscripted (.Slice lower upper none p) false (.bytes a u) (.ref i)=operate [.ref i,.bytes a u] (getItem (.bytes a u) (.ref i))):D8 w f fx X ρ H (.Subscript value (.Slice lower upper none p) pos) (.bytes (G5 b lo hi)):=
 fun Q q=>m5 (h _ (h1 _ (h2 _ (fA hz q hs))))
theorem RF:yD w f fx X ρ H none none:=fun Q q=>r3 q
theorem RG{e:Expr}{i:Int}(h:D8 w f fx X ρ H e (.int i)):yD w f fx X ρ H (some e) (some i):=fun Q q=>r4 (h _ ⟨_,rfl,q⟩)
theorem Ra{n:Nat}{x:Str}{np pos:Pos}{e:Expr}{es:List Expr}{id:String}{vs:List AV}{v:AV}(c:Cx w f fx n) (hv:G4 w.params x=some (.builtin id)) (hx:(f.scope.names.lookup x == some .globalImplicit)=true) (hd:(x == ("__debug__":Str))=false)
  (h:Ek w f fx X ρ H (e::es) vs) (hb:Tf w f fx X ρ H id vs v) (hs:noStar (e::es)=true):D8 w f fx X ρ H (.Call (.Name x np) (e::es) [] pos) v:=
 fun Q q=>O3 c hv hx hd (h _ (hb _ q)) (t5 hs).1 (backTo_any.trans (E8 (t5 (env:=f.env fx) hs).2))
theorem Rb{n:Nat}{x:Str}{np pos:Pos}{e:Expr}{es:List Expr}{T:String}{vs:List AV}{v:AV}(c:Cx w f fx n) (hv:G4 w.params x=some (.type T)) (hx:(f.scope.names.lookup x == some .globalImplicit)=true) (hd:(x == ("__debug__":Str))=false)
  (h:Ek w f fx X ρ H (e::es) vs) (hb:Ry w f fx X ρ H T vs v) (hs:noStar (e::es)=true):D8 w f fx X ρ H (.Call (.Name x np) (e::es) [] pos) v:=
 fun Q q=>z9 c hv hx hd (h _ (hb _ q)) (t5 hs).1 (backTo_any.trans (E8 (t5 (env:=f.env fx) hs).2))
theorem Tp:Ek w f fx X ρ H [] []:=fun Q q=>g7 q
theorem RH{e:Expr}{es:List Expr}{v:AV}{vs:List AV}(h:D8 w f fx X ρ H e v) (h2:Ek w f fx X ρ H es vs) (hs:noStar [e]=true):Ek w f fx X ρ H (e::es) (v::vs):=fun Q q=>
 a8 (h _ (h2 _ q)) (by cases e <;> first |rfl |cases hs)
theorem Tq{i j:Int}:cS w f fx X ρ H (binaryOp .Add) (.int i) (.int j) (.int (i+j)):=fun Q q=>y3 q
theorem Ts{i j:Int}:cS w f fx X ρ H (binaryOp .Sub) (.int i) (.int j) (.int (i - j)):=fun Q q=>w2 q
theorem Tt{i j:Int}(hm:IntMulOk i j):cS w f fx X ρ H (binaryOp .Mult) (.int i) (.int j) (.int (i*j)):=fun Q q=>x6 hm q
theorem Tu{i j:Int}:cS w f fx X ρ H (binaryOp .BitAnd) (.int i) (.int j) (.int (Builtin.bitAnd i j)):=fun Q q=>j9 q
theorem TY{i j:Int}:cS w f fx X ρ H (binaryOp .BitOr) (.int i) (.int j) (.int (Builtin.bitOr i j)):=fun Q q=>BR q
theorem Tv{i j:Int}:cS w f fx X ρ H (binaryOp .BitXor) (.int i) (.int j) (.int (Builtin.bitXor i j)):=fun Q q=>N8 q
theorem Tw{i k:Int}(hk:0≤k) (hk2:k≤1000000) (hi:i.natAbs<2 ^ 64):cS w f fx X ρ H (binaryOp .LShift) (.int i) (.int k) (.int (i*2 ^ k.toNat)):=fun Q q=>vS hk hk2 hi q
theorem Ty{i k:Int}(hk:0≤k):cS w f fx X ρ H (binaryOp .RShift) (.int i) (.int k) (.int (i.fdiv (2 ^ k.toNat))):=fun Q q=>BS hk q
theorem RI{b d:List UInt8}(hz:b.length+d.length≤1000000):cS w f fx X ρ H (binaryOp .Add) (.bytes b) (.bytes d) (.bytes (b++d)):=fun Q q=>r5 hz q
theorem TZ{i j:Int}:cS w f fx X ρ H (compareOp .Eq) (.int i) (.int j) (.bool (i == j)):=fun Q q=>T9 q
theorem Ua{i j:Int}:cS w f fx X ρ H (compareOp .NotEq) (.int i) (.int j) (.bool (i != j)):=fun Q q=>qA q
theorem Ub{i j:Int}:cS w f fx X ρ H (compareOp .Lt) (.int i) (.int j) (.bool (decide (i<j))):=fun Q q=>xJ q
theorem Uc{i j:Int}:cS w f fx X ρ H (compareOp .LtE) (.int i) (.int j) (.bool (decide (i≤j))):=fun Q q=>bU q
theorem Ud{i j:Int}:cS w f fx X ρ H (compareOp .Gt) (.int i) (.int j) (.bool (decide (i > j))):=fun Q q=>N9 q
theorem Ue{i j:Int}:cS w f fx X ρ H (compareOp .GtE) (.int i) (.int j) (.bool (decide (i ≥ j))):=fun Q q=>Qn q
theorem Tz{b d:List UInt8}:cS w f fx X ρ H (compareOp .Eq) (.bytes b) (.bytes d) (.bool (b == d)):=fun Q q=>Dv q
theorem TA{b d:List UInt8}:cS w f fx X ρ H (compareOp .NotEq) (.bytes b) (.bytes d) (.bool (b != d)):=fun Q q=>vV q
theorem TB{x y:Str}:cS w f fx X ρ H (compareOp .Eq) (.str x) (.str y) (.bool (x == y)):=fun Q q=>DC q
theorem TC{x y:Str}:cS w f fx X ρ H (compareOp .NotEq) (.str x) (.str y) (.bool (x != y)):=fun Q q=>DD q
theorem FU{b:List UInt8}(hz:b.length≤1000000):Tf w f fx X ρ H "len" [.bytes b] (.int b.length):=fun Q q=>nJ hz q
theorem IS{a:Addr}{b:List UInt8}(i:Nat) (hi:gV i H=some (a,.ba b)) (hz:b.length≤1000000):Tf w f fx X ρ H "len" [.ref a] (.int b.length):=fun Q q=>Q9 (B1 hi) hz q
theorem DG{b:List UInt8}:Ry w f fx X ρ H "bytes" [.bytes b] (.bytes b):=fun Q q=>eX q
theorem Ha{a:Addr}{b:List UInt8}(i:Nat) (hi:gV i H=some (a,.ba b)) (hz:b.length≤1000000):Ry w f fx X ρ H "bytes" [.ref a] (.bytes b):=fun Q q=>i0 (B1 hi) hz q
theorem Hb{b:Bool}:Ry w f fx X ρ H "int" [.bool b] (.int (if b then 1 else 0)):=fun Q q=>P0 q
theorem TD{l r:Expr}{op:CmpOp}{p:Pos}{x y v:AV}(h1:D8 w f fx X ρ H l x) (h2:D8 w f fx X ρ H r y) (h3:cS w f fx X ρ H (compareOp op) x y v) (hm:behindInMarks op r=false):DF w f fx X ρ H (.Compare l [op] [r] p) v:=fun Q q=>d6 hm (h1 _ (h2 _ (h3 _ q)))
theorem Rc{e:Expr}{v:AV}(h:D8 w f fx X ρ H e v) (hv:iU e=true):DF w f fx X ρ H e v:=fun Q q=>q8 (oF hv) (h _ q)
theorem tq_t{b:Bool}(e:b=true):fR w f fx X ρ H (.bool b) true:=fun Q q=>M8 e q
theorem tq_f{b:Bool}(e:b=false):fR w f fx X ρ H (.bool b) false:=fun Q q=>x3 e q
theorem Uf{i:Int}(e:i≠0):fR w f fx X ρ H (.int i) true:=fun Q q=>IF e q
theorem Ug{i:Int}(e:i=0):fR w f fx X ρ H (.int i) false:=fun Q q=>IG e q
theorem AT{n:Nat}{x:Str}{p p':Pos}{e:Expr}{v:AV}{ρ':b0}{rest:List Stmt}{Q:AF→b0→AH→Prop}(c:Cx w f fx n) (h:D8 w f fx X ρ H e v) (hp:Put1 x (some v) ρ ρ') (hs:x1 e=true) (q:Ex w f fx X rest ρ' H Q):Ex w f fx X (.Assign [.Name x p'] e p::rest) ρ H Q:=
 b8 (m6 c.ok (h _ ⟨_,hp,q⟩) (u9 hs))
theorem wC{n:Nat}{x:Str}{p p':Pos}{e:Expr}{rest:List Stmt}{Q:AF→b0→AH→Prop}(c:Cx w f fx n) (hs:x1 e=true) (h:Ev w f fx X e ρ H (ER x (GP w f fx X rest Q))):Ex w f fx X (.Assign [.Name x p'] e p::rest) ρ H Q:=
 b8 (m6 c.ok h (u9 hs))
theorem wD{n:Nat}{o e:Expr}{name:Str}{p p':Pos}{C d a:Addr}{fs fs':List (Str×AV)}{v:AV}{H':AH}{rest:List Stmt}{Q:AF→b0→AH→Prop}(c:Cx w f fx n) (h:D8 w f fx X ρ H e v) (ho:D8 w f fx X ρ H o (.ref a)) (i j:Nat)
  (h1:gV i H=some (a,.inst C d)) (h2:gV j H=some (d,.dict fs)) (h3:Put1 name v fs fs') (hp:Put1 d (.dict fs') H H') (hk:U1 w.params C name=true) (hL:Nat.ble fs.length 900=true) (hs:x1 e=true) (q:Ex w f fx X rest ρ H' Q):Ex w f fx X (.Assign [.Attribute o name p'] e p::rest) ρ H Q:=
 b8 (J9 (h _ (ho _ (BX c (B1 h1) (B1 h2) h3 hp hk (Nat.le_of_ble_eq_true hL) q))) (u9 hs))
theorem wE{n:Nat}{o e:Expr}{name:Str}{p p':Pos}{C d a:Addr}{fs fs':List (Str×AV)}{v:AV}{H':AH}{rest:List Stmt}{Q:AF→b0→AH→Prop}(c:Cx w f fx n) (h:D8 w f fx X ρ H e v) (ho:D8 w f fx X ρ H o (.ref a)) (i j:Nat)
  (h1:gV i H=some (a,.inst C d)) (h2:gV j H=some (d,.dict fs)) (h3:App1 name v fs fs') (hp:Put1 d (.dict fs') H H') (hn:(fs.map (·.1)).contains name=false) (hk:U1 w.params C name=true) (hL:Nat.ble fs.length 900=true) (hs:x1 e=true) (q:Ex w f fx X rest ρ H' Q):Ex w f fx X (.Assign [.Attribute o name p'] e p::rest) ρ H Q:=
 b8 (J9 (h _ (ho _ (BY c (B1 h1) (B1 h2) h3 hp hn hk (Nat.le_of_ble_eq_true hL) q))) (u9 hs))
theorem FV{o e:Expr}{name:Str}{p p':Pos}{rest:List Stmt}{Q:AF→b0→AH→Prop}(hs:x1 e=true) (h:Ev w f fx X e ρ H (Ih w f fx X o name (GP w f fx X rest Q))):Ex w f fx X (.Assign [.Attribute o name p'] e p::rest) ρ H Q:=
 b8 (J9 h (u9 hs))
theorem IH{n:Nat}{x:Str}{p' p:Pos}{op:Operator}{e:Expr}{v0 v z:AV}{ρ':b0}{rest:List Stmt}{Q:AF→b0→AH→Prop}(c:Cx w f fx n) (i:Nat) (hx:gV i ρ=some (x,some v0)) (h:D8 w f fx X ρ H e v) (ho:cS w f fx X ρ H (inplaceOp op) v0 v z) (hp:Put1 x (some z) ρ ρ') (q:Ex w f fx X rest ρ' H Q):Ex w f fx X (.AugAssign (.Name x p') op e p::rest) ρ H Q:=
 b8 (Ix c.ok (B1 hx) (h _ (ho _ ⟨_,hp,q⟩)))
theorem TE{i j:Int}:cS w f fx X ρ H (inplaceOp .Add) (.int i) (.int j) (.int (i+j)):=fun Q q=>nT q
theorem Uh{i j:Int}:cS w f fx X ρ H (inplaceOp .BitOr) (.int i) (.int j) (.int (Builtin.bitOr i j)):=fun Q q=>QF q
theorem DH{e:Expr}{p:Pos}{v:AV}{rest:List Stmt}{Q:AF→b0→AH→Prop}(h:D8 w f fx X ρ H e v) (q:Q (.ret v) ρ H):Ex w f fx X (.Return (some e) p::rest) ρ H Q:=b8 (w8 (h _ q))
theorem g5{e:Expr}{p:Pos}{rest:List Stmt}{Q:AF→b0→AH→Prop}(h:Ev w f fx X e ρ H (Qm Q)):Ex w f fx X (.Return (some e) p::rest) ρ H Q:=b8 (w8 h)
theorem FW{t:Expr}{a b:List Stmt}{p:Pos}{x:AV}{rest:List Stmt}{Q:AF→b0→AH→Prop}(h:DF w f fx X ρ H t x) (ht:fR w f fx X ρ H x true) (q:Ex w f fx X a ρ H (kN w f fx X rest Q)):Ex w f fx X (.If t a b p::rest) ρ H Q:=b8 (B5 (h _ (ht _ q)))
theorem yE{t:Expr}{a b:List Stmt}{p:Pos}{x:AV}{rest:List Stmt}{Q:AF→b0→AH→Prop}(h:DF w f fx X ρ H t x) (ht:fR w f fx X ρ H x false) (q:Ex w f fx X b ρ H (kN w f fx X rest Q)):Ex w f fx X (.If t a b p::rest) ρ H Q:=b8 (B5 (h _ (ht _ q)))
theorem DI{t:Expr}{a:List Stmt}{p:Pos}{x:AV}{rest:List Stmt}{Q:AF→b0→AH→Prop}(h:DF w f fx X ρ H t x) (ht:fR w f fx X ρ H x false) (q:Ex w f fx X rest ρ H Q):Ex w f fx X (.If t a [] p::rest) ρ H Q:=b8 (B5 (h _ (ht _ (f8 q))))
theorem oG{t:Expr}{a b:List Stmt}{p:Pos}{x:AV}{rest:List Stmt}{Q:AF→b0→AH→Prop}(h:DF w f fx X ρ H t x) (q:xH w f fx X x ρ H (Sx w f fx X a b (kN w f fx X rest Q))):Ex w f fx X (.If t a b p::rest) ρ H Q:=b8 (B5 (h _ q))
theorem d3{t:Expr}{a b:List Stmt}{p:Pos}{rest:List Stmt}{Q:AF→b0→AH→Prop}(q:Te w f fx X t ρ H (Sx w f fx X a b (kN w f fx X rest Q))):Ex w f fx X (.If t a b p::rest) ρ H Q:=b8 (B5 q)
theorem c7{rest:List Stmt}{Q:AF→b0→AH→Prop}(q:Ex w f fx X rest ρ H Q):Ex w f fx X [] ρ H (kN w f fx X rest Q):=f8 q
theorem d9{rest:List Stmt}{Q:AF→b0→AH→Prop}(q:Ex w f fx X rest ρ H Q):kN w f fx X rest Q .next ρ H:=q
theorem n9{v:AV}{rest:List Stmt}{Q:AF→b0→AH→Prop}(q:Q (.ret v) ρ H):kN w f fx X rest Q (.ret v) ρ H:=q
theorem DJ{e:Expr}{pos:Pos}{rest:List Stmt}{Q:AF→b0→AH→Prop}(hs:x1 e=true) (h:Ev w f fx X e ρ H (BQ (GP w f fx X rest Q))) (hi:interactive (f.env fx)=false):Ex w f fx X (.Expr e pos::rest) ρ H Q:=b8 (dG h hi (u9 hs))
theorem DK{n:Nat}{x:Str}{np pos:Pos}{e:Expr}{es:List Expr}{a:Addr}{vs:List AV}{Q:AV→b0→AH→Prop}(c:Cx w f fx n) (hv:G4 w.params x=some (.ref a)) (hx:(f.scope.names.lookup x == some .globalImplicit)=true)
  (hd:(x == ("__debug__":Str))=false) (hk:keepIn (KG w.params) (.ref a)=true) (h:Ek w f fx X ρ H (e::es) vs) (hs:noStar (e::es)=true) (q:w3 w f fx X a vs ρ H Q):Ev w f fx X (.Call (.Name x np) (e::es) [] pos) ρ H Q:=
 p0 c hv hx hd hk (h _ q) (t5 hs).1 (backTo_any.trans (E8 (t5 (env:=f.env fx) hs).2))
theorem FX{n:Nat}{C d a g:Addr}{name:Str}{fs:List (Str×AV)}{e:Expr}{es:List Expr}{vs:List AV}{Q:AV→b0→AH→Prop}(c:Cx w f fx n) (i j:Nat) (h1:gV i H=some (a,.inst C d)) (h2:gV j H=some (d,.dict fs)) (hm:I0 w.params C name g=true) (hn:(fs.map (·.1)).contains name=false)
  (h:Ek w f fx X ρ H (e::es) vs) (hs:noStar (e::es)=true) (q:w3 w f fx X g (.ref a::vs) ρ H Q):I6 w f fx X (.ref a) name (e::es) ρ H Q:=
 nE c (B1 h1) (B1 h2) hm hn (h _ q) (t5 hs).1 (fun pos=>backTo_any.trans (E8 (t5 (env:=f.env fx) hs).2))
end
local macro_rules | `(tactic| news_at) => return stx "xrfl bb%explicit * xgV a0 nbnum * nc@ nc@ ! | xrfl bb%explicit * xgV a1 nbnum * nc@ nc@ ! | xrfl bb%explicit * xgV a2 nbnum * nc@ nc@ ! | xrfl bb%explicit * xgV a3 nbnum * nc@ nc@ ! | xrfl bb%explicit * xgV a4 nbnum * nc@ nc@ ! | xrfl bb%explicit * xgV a5 nbnum * nc@ nc@ ! | xrfl bb%explicit * xgV a6 nbnum * nc@ nc@ ! | xrfl bb%explicit * xgV a7 nbnum * nc@ nc@ ! | xrfl bb%explicit * xgV a8 nbnum * nc@ nc@ ! | xrfl bb%explicit * xgV a9 nbnum * nc@ nc@ ! | xrfl bb%explicit * xgV a10 nbnum * nc@ nc@ ! | xrfl bb%explicit * xgV a11 nbnum * nc@ nc@ ! | nmnull bb$first , bb$withReducible"
local macro_rules | `(tactic| k_memK) => return stx "] , | nanull nb$optConfig bb$omega , | nanull nb$optConfig bb$decide , | nanull nb$optConfig nanull banull nanull nanull xX0 nd$simpLemma a nanull nanull xX6 nd$simpLemma a nanull nanull xX7 nd$simpLemma a nanull nanull xX8 nd$simpLemma a nanull nanull xX9 nd$simpLemma njnull a bcnull nanull bf$simp a nanull nb$optConfig bb$omega nd+ ) , | nenull bb$first"
local macro_rules | `(tactic| keq_rows) => return stx "] , ^ | ~News_at , | [ , | ~Da_there , | xrfl ! bb$withUnfoldingAll , | * * * ndnull bb$intro a [ nd+ ) , | `K_memK , | nhnull bb$first"
local macro_rules | `(tactic| kct_strs) => return stx "] , ^ ) , # a xf7 ~Law_side , { nb@ bb$refine , ^ ) , # a [ , # a [ , # a ~Da_there , # a ~Da_there , # a [ nn+ )"
local macro_rules | `(tactic| da_there) => return stx "xTh ! | xTp ! | xRA ! | xRB ! | xQY ! | xTi ! | xRF ! | xTq ! | xTs ! | xTu ! | xTY ! | xTv ! | xTZ ! | xUa ! | xUb ! | xUc ! | xUd ! | xUe ! | xUh ! | xDG ! | xHb ! | nvnull bb$first , ^ ) , | xRz & ^ ) a ] , ^ ) , # a ~News_at , # a [ , # nh+ ) , | xTl & ^ ) a ] , ^ ) , # a ~Da_there , # a ~News_at , # a ~News_at , # a ~News_at , # a [ , # a xrfl ! bb$withUnfoldingAll , ) , # a [ , # nr+ ) , | xRH & | xTj & | xTk & | xTn & | xTo & | xQZ & | xRG & | xTw & | xTy & | xFU & | xIS & | xHa & | xTD & | nnnull bb$first , ^ ) a `Keq_rows nd$tactic_<;>_ , ) , | xRC ] , { xf7 ~Law_side , { nb@ xint bb%dotIdent * * nc@ [ , { xrfl nf@ bb$refine , ^ ) , | xRC ] , { xf7 ~Law_side , { nb@ xref bb%dotIdent * nb@ [ , { xrfl nf@ bb$refine , ^ ) , | xRC ] , { xf7 ~Law_side , { nb@ xlit bb%dotIdent * nb@ [ , { xrfl nf@ bb$refine , ^ ) , | xTm & ^ ) a `Keq_rows a `Keq_rows a xTW ~Law_side , { nb@ ! ^ ) a xint bb%dotIdent * * nc@ ! ^ ) a `Keq_rows nl+ ) , | xRa & ^ ) a `Kct_strs nd+ ) , | xRb & ^ ) a `Kct_strs nd+ ) , | xRD & ^ ) a ~Da_there nd$tactic_<;>_ , ) , | xRE & ^ ) a ~Da_there nd$tactic_<;>_ , ) , | xTt & ^ ) a xof_right bb%dotIdent xintBits_le_64 nanull nb$optConfig bb$decide , | nanull nb$optConfig bb$omega , | ncnull bb$first , { nanull nb$optConfig bb$decide , | nanull nb$optConfig bb$omega , | ncnull bb$first , { nc@ nb@ bb$exact nd+ ) , | xRc & ^ ) a ~Da_there a [ nf+ ) , | xtq_t & ^ ) a xrfl ! bb$withUnfoldingAll , | ] , | xdecide_eq_true ? nb@ bb$refine a `K_memK nd+ ) , | xQW ? nb@ bb$refine a `K_memK nd+ ) , | xGZ ? nb@ bb$refine a `K_memK nd+ ) , | nfnull bb$first , ) nd+ ) , | xtq_f & ^ ) a xrfl ! bb$withUnfoldingAll , | ] , | xdecide_eq_false ? nb@ bb$refine a `K_memK nd+ ) , | xGY ? nb@ bb$refine a `K_memK nd+ ) , | xDE ? nb@ bb$refine a `K_memK nd+ ) , | nfnull bb$first , ) nd+ ) , | xUf & | xUg & | ncnull bb$first , ^ ) a `K_memK nd+ ) , | nrnull bb$first"
local macro_rules | `(tactic| refine' $e) => return stx "e bb$refine , bb$withReducible" e
section
variable{w:World}{f:FI}{fx:Fx}{X:AV→b0→AH→Prop}{ρ ρ':b0}{H H':AH}{n:Nat}{x name:Str}{p p' np pos:Pos}{e o:Expr}{es:List Expr}{v:AV}{vs:List AV}{a b d g C:Addr}{fs fs':List (Str×AV)}{i j:Nat}{rest ss:List Stmt}{Q:AV→b0→AH→Prop}{Qs:List AV→b0→AH→Prop}{Qf:AF→b0→AH→Prop}{Qr:b0→AH→Prop}{Qb:Bool→b0→AH→Prop}{T:String}
theorem zp(q:Q v ρ H) (h:autoParam (D8 w f fx X ρ H e v) kD):Ev w f fx X e ρ H Q:=h Q q
theorem za(q:Qs vs ρ H) (h:autoParam (Ek w f fx X ρ H es vs) kD):Ea w f fx X es ρ H Qs:=h Qs q
theorem zc(q:w3 w f fx X a vs ρ H Q) (c:autoParam (Cx w f fx n) kA) (hv:G4 w.params x=some (.ref a):=by exact f7 (by law_side)) (hx:autoParam ((f.scope.names.lookup x == some .globalImplicit)=true) kK)
  (hd:autoParam ((x == ("__debug__":Str))=false) kK) (hk:autoParam (keepIn (KG w.params) (.ref a)=true) kK) (h:autoParam (Ek w f fx X ρ H (e::es) vs) kD) (hs:autoParam (noStar (e::es)=true) kK):Ev w f fx X (.Call (.Name x np) (e::es) [] pos) ρ H Q:=
 DK c hv hx hd hk h hs q
theorem zn(q:Ex w f fx X rest ρ H' Qf) (c:autoParam (Cx w f fx n) kA) (h:autoParam (D8 w f fx X ρ H e v) kD) (ho:autoParam (D8 w f fx X ρ H o (.ref a)) kD) (h1:autoParam (gV i H=some (a,.inst C d)) kW) (h2:autoParam (gV j H=some (d,.dict fs)) kW)
  (h3:autoParam (App1 name v fs fs') kT) (hp:autoParam (Put1 d (.dict fs') H H') kT) (hn:autoParam ((fs.map (·.1)).contains name=false) kK) (hk:autoParam (U1 w.params C name=true) kK) (hL:autoParam (Nat.ble fs.length 900=true) kK) (hs:autoParam (x1 e=true) kK):Ex w f fx X (.Assign [.Attribute o name p'] e p::rest) ρ H Qf:=
 wE c h ho i j h1 h2 h3 hp hn hk hL hs q
theorem zo(q:Ex w f fx X rest ρ H' Qf) (c:autoParam (Cx w f fx n) kA) (h:autoParam (D8 w f fx X ρ H e v) kD) (ho:autoParam (D8 w f fx X ρ H o (.ref a)) kD) (h1:autoParam (gV i H=some (a,.inst C d)) kW) (h2:autoParam (gV j H=some (d,.dict fs)) kW)
  (h3:autoParam (Put1 name v fs fs') kT) (hp:autoParam (Put1 d (.dict fs') H H') kT) (hk:autoParam (U1 w.params C name=true) kK) (hL:autoParam (Nat.ble fs.length 900=true) kK) (hs:autoParam (x1 e=true) kK):Ex w f fx X (.Assign [.Attribute o name p'] e p::rest) ρ H Qf:=
 wD c h ho i j h1 h2 h3 hp hk hL hs q
theorem zm(q:w3 w f fx X g (.ref a::vs) ρ H Q) (c:autoParam (Cx w f fx n) kA) (h1:autoParam (gV i H=some (a,.inst C d)) kW) (h2:autoParam (gV j H=some (d,.dict fs)) kW) (hm:I0 w.params C name g=true:=by exact eL (by law_side))
  (hn:autoParam ((fs.map (·.1)).contains name=false) kK) (h:autoParam (Ek w f fx X ρ H (e::es) vs) kD) (hs:autoParam (noStar (e::es)=true) kK):I6 w f fx X (.ref a) name (e::es) ρ H Q:=FX c i j h1 h2 hm hn h hs q
theorem zv(h:Ea w f fx X (e::es) ρ H (uP w f fx X a Q)) (c:autoParam (Cx w f fx n) kA) (hv:G4 w.params x=some (.ref a):=by exact f7 (by law_side)) (hx:autoParam ((f.scope.names.lookup x == some .globalImplicit)=true) kK) (hd:autoParam ((x == ("__debug__":Str))=false) kK) (hk:autoParam (keepIn (KG w.params) (.ref a)=true) kK)
  (he:autoParam (starEach (e::es) (f.env fx)=(false,eval e (f.env fx))::starEach es (f.env fx)) kK) (hp:autoParam ((backTo pos (starEach es (f.env fx))).any (·.1)=false) kK):Ev w f fx X (.Call (.Name x np) (e::es) [] pos) ρ H Q:=p0 c hv hx hd hk h he hp
theorem zt(h:Ea w f fx X (e::es) ρ H (Df w f fx X T Q)) (c:autoParam (Cx w f fx n) kA) (hv:G4 w.params x=some (.type T):=by exact f7 (by law_side)) (hx:autoParam ((f.scope.names.lookup x == some .globalImplicit)=true) kK) (hd:autoParam ((x == ("__debug__":Str))=false) kK)
  (he:autoParam (starEach (e::es) (f.env fx)=(false,eval e (f.env fx))::starEach es (f.env fx)) kK) (hp:autoParam ((backTo pos (starEach es (f.env fx))).any (·.1)=false) kK):Ev w f fx X (.Call (.Name x np) (e::es) [] pos) ρ H Q:=z9 c hv hx hd h he hp
theorem zb(h:Ea w f fx X (e::es) ρ H (vP w f fx X T Q)) (c:autoParam (Cx w f fx n) kA) (hv:G4 w.params x=some (.builtin T):=by exact f7 (by law_side)) (hx:autoParam ((f.scope.names.lookup x == some .globalImplicit)=true) kK) (hd:autoParam ((x == ("__debug__":Str))=false) kK)
  (he:autoParam (starEach (e::es) (f.env fx)=(false,eval e (f.env fx))::starEach es (f.env fx)) kK) (hp:autoParam ((backTo pos (starEach es (f.env fx))).any (·.1)=false) kK):Ev w f fx X (.Call (.Name x np) (e::es) [] pos) ρ H Q:=O3 c hv hx hd h he hp
theorem zg(h:Q v ρ H) (c:autoParam (Cx w f fx n) kA) (h1:autoParam (In1 a (.inst C d) H) kL) (h2:autoParam (In1 d (.dict fs) H) kL) (h3:autoParam (In1 name v fs) kL) (ho:autoParam (xL w.params C name=true) kK) (hv:v.fine=true:=by with_unfolding_all exact rfl):yW w f fx X (.ref a) name ρ H Q:=nD c h1 h2 h3 ho hv h
theorem zS(h:Ev w f fx X e ρ H (ER x (GP w f fx X rest Qf))) (c:autoParam (Cx w f fx n) kA) (hs:autoParam (x1 e=true) kK):Ex w f fx X (.Assign [.Name x p'] e p::rest) ρ H Qf:=wC c hs h
theorem zs(q:Ex w f fx X rest ρ' H Qf) (c:autoParam (Cx w f fx n) kA) (h:autoParam (D8 w f fx X ρ H e v) kD) (hp:autoParam (Put1 x (some v) ρ ρ') kT) (hs:autoParam (x1 e=true) kK):Ex w f fx X (.Assign [.Name x p'] e p::rest) ρ H Qf:=AT c h hp hs q
theorem zf{t:Expr}(q:Ex w f fx X rest ρ H Qf) (h:autoParam (DF w f fx X ρ H t v) kD) (ht:autoParam (fR w f fx X ρ H v false) kD):Ex w f fx X (.If t ss [] p::rest) ρ H Qf:=DI h ht q
theorem zT{t:Expr}{s2:List Stmt}(q:Ex w f fx X ss ρ H (kN w f fx X rest Qf)) (h:autoParam (DF w f fx X ρ H t v) kD) (ht:autoParam (fR w f fx X ρ H v true) kD):Ex w f fx X (.If t ss s2 p::rest) ρ H Qf:=FW h ht q
theorem zw(h:Qr ρ H') (c:autoParam (Cx w f fx n) kA) (h1:autoParam (In1 a (.inst C d) H) kL) (h2:autoParam (In1 d (.dict fs) H) kL) (h3:autoParam (App1 name v fs fs') kT) (hp:autoParam (Put1 d (.dict fs') H H') kT) (hn:autoParam ((fs.map (·.1)).contains name=false) kK) (ho:autoParam (U1 w.params C name=true) kK)
  (hL:fs.length≤900:=by with_unfolding_all exact nb rfl):gK w f fx X (.ref a) name v ρ H Qr:=BY c h1 h2 h3 hp hn ho hL h
theorem zu(h:Qr ρ H') (c:autoParam (Cx w f fx n) kA) (h1:autoParam (In1 a (.inst C d) H) kL) (h2:autoParam (In1 d (.dict fs) H) kL) (h3:autoParam (Put1 name v fs fs') kT) (hp:autoParam (Put1 d (.dict fs') H H') kT) (ho:autoParam (U1 w.params C name=true) kK)
  (hL:fs.length≤900:=by with_unfolding_all exact nb rfl):gK w f fx X (.ref a) name v ρ H Qr:=BX c h1 h2 h3 hp ho hL h
theorem zM(h:Ea w f fx X (e::es) ρ H (Ca w f fx X g a Q)) (c:autoParam (Cx w f fx n) kA) (h1:autoParam (In1 a (.inst C d) H) kL) (h2:autoParam (In1 d (.dict fs) H) kL) (hm:I0 w.params C name g=true:=by exact eL (by law_side)) (hn:autoParam ((fs.map (·.1)).contains name=false) kK)
  (he:autoParam (starEach (e::es) (f.env fx)=(false,eval e (f.env fx))::starEach es (f.env fx)) kK) (hp:∀pos,(backTo pos (starEach es (f.env fx))).any (·.1)=false:=by intro _;kernel_rfl):I6 w f fx X (.ref a) name (e::es) ρ H Q:=nE c h1 h2 hm hn h he hp
theorem zN(h:w3 w f fx X g [.ref a] ρ H Q) (c:autoParam (Cx w f fx n) kA) (h1:autoParam (In1 a (.inst C d) H) kL) (h2:autoParam (In1 d (.dict fs) H) kL) (hm:I0 w.params C name g=true:=by exact eL (by law_side)) (hn:autoParam ((fs.map (·.1)).contains name=false) kK):I6 w f fx X (.ref a) name [] ρ H Q:=EX c h1 h2 hm hn h
theorem zE(h:Ev w f fx X e ρ H (BQ (GP w f fx X rest Qf))) (hs:autoParam (x1 e=true) kK) (hi:autoParam (interactive (f.env fx)=false) kK):Ex w f fx X (.Expr e pos::rest) ρ H Qf:=DJ hs h hi
theorem zC(h:Ev w f fx X e ρ H (Ih w f fx X o name (GP w f fx X rest Qf))) (hs:autoParam (x1 e=true) kK):Ex w f fx X (.Assign [.Attribute o name p'] e p::rest) ρ H Qf:=FV hs h
theorem zr(q:Qf (.ret v) ρ H) (h:autoParam (D8 w f fx X ρ H e v) kD):Ex w f fx X (.Return (some e) p::rest) ρ H Qf:=DH h q
theorem zk(h:Qr ρ' H) (c:autoParam (Cx w f fx n) kA) (hp:autoParam (Put1 x (some v) ρ ρ') kT):GW w f fx X (.Name x p) v ρ H Qr:=D7 (Cx.ok c) hp h
theorem zF{bb:Bool}(h:Qb false ρ H) (e:bb=false:=by with_unfolding_all exact rfl):xH w f fx X (.bool bb) ρ H Qb:=x3 e h
theorem zV{bb:Bool}(h:Qb true ρ H) (e:bb=true:=by with_unfolding_all exact rfl):xH w f fx X (.bool bb) ρ H Qb:=M8 e h
end
noncomputable def le:List UInt8→Nat
 | []=>0
 | x::r=>x.toNat+256*le r
theorem yF:∀b:List UInt8,le b<2 ^ (8*b.length)
 | []=>by decide
 | x::r=>by
  have h:=yF r
  have h2:=x.toNat_lt
  rw[le,List.length_cons,Nat.mul_succ,Nat.pow_add]
  have e:2 ^ 8=256:=rfl
  exact KV h2 h
theorem yG:∀(b:List UInt8) (x:UInt8),le (b++[x])=le b+x.toNat*2 ^ (8*b.length)
 | [],x=>by simp [le]
 | y::r,x=>by
  rw[List.cons_append,le,le,yG r x,List.length_cons,Nat.mul_succ,Nat.pow_add]
  have e:2 ^ 8=256:=rfl
  rw[e,Nat.mul_add,← Nat.mul_assoc x.toNat,Nat.mul_comm (x.toNat*_) 256];exact KB
theorem bE(x:Int):Builtin.bitNot (Builtin.bitNot x)=x:=by unfold Builtin.bitNot;exact Np
theorem fS(x y:Nat):Builtin.bitOr (x:Int) (y:Int)=((x ||| y:Nat):Int):=by
 have h1:¬ (0:Int)≤Builtin.bitNot (x:Int):=by unfold Builtin.bitNot;exact JX
 have h2:¬ (0:Int)≤Builtin.bitNot (y:Int):=by unfold Builtin.bitNot;exact JX
 unfold Builtin.bitOr
 rw[bitAnd_nn h1 h2,bE,bE,bE];rfl
theorem M1(x y:Nat):Builtin.bitAnd (x:Int) (y:Int)=((x &&& y:Nat):Int):=by
 rw[bitAnd_pp (by exact Int.natCast_nonneg _) (by exact Int.natCast_nonneg _)];rfl
theorem wF{a k:Nat}(x:Nat) (h:a<2 ^ k):Builtin.bitOr (a:Int) ((x:Int)*2 ^ k)=((a+x*2 ^ k:Nat):Int):=by
 have e:((x:Int)*2 ^ k)=((x*2 ^ k:Nat):Int):=by push_cast;rfl
 rw[e,fS,Nat.or_comm,Nat.mul_comm,← Nat.two_pow_add_eq_or_of_lt h]
 congr 1;exact Nat.add_comm _ _
theorem yH(b:List UInt8) (i:Nat) (hi:i<b.length):Builtin.bitOr (le (b.take i):Int) (((b.getD i 0).toNat:Int)*2 ^ (8*(i:Int)).toNat)=(le (b.take (i+1)):Int):=by
 have e:(8*(i:Int)).toNat=8*i:=by exact Int.toNat_natCast _
 have h:=yF (b.take i)
 have hl:(b.take i).length=i:=by rw[List.length_take];exact Mc hi
 rw[hl] at h
 rw[e,wF _ h,List.take_add_one,List.getElem?_eq_getElem hi,Option.toList_some,yG,hl,List.getD_eq_getElem?_getD,List.getElem?_eq_getElem hi,Option.getD_some]
theorem dM(b:List UInt8) (i j:Int) (h0:0≤i) (h1:i≤j):G5 b (some i) (some j)=(b.drop i.toNat).take (j.toNat - i.toNat):=by
 have e:∀k:Int,0≤k→clipAt b.length k=min k.toNat b.length:=by intro k hk;unfold clipAt;rw[if_neg (by exact Hs hk)];exact ED
 unfold G5
 rw[Option.elim_some,Option.elim_some,e i h0,e j (by exact IV h0 h1)]
 apply List.ext_getElem?
 intro q
 rw[List.getElem?_take,List.getElem?_take,List.getElem?_drop,List.getElem?_drop]
 by_cases hi:i.toNat≤b.length
 ·rw[Nat.min_eq_left hi]
  by_cases hq:q<j.toNat - i.toNat
  ·rw[if_pos hq]
   split
   ·rfl
   ·rw[List.getElem?_eq_none (by exact MN hq ‹_›)]
  ·rw[if_neg hq,if_neg (by exact MO hq)]
 ·rw[List.getElem?_eq_none (by exact MR hi:b.length≤i.toNat+q)]
  rw[List.getElem?_eq_none (by exact MS hi)]
  split <;> split <;> rfl
theorem C7(b:List UInt8) (i:Int) (h0:0≤i):G5 b (some i) none=b.drop i.toNat:=by
 have e:∀k:Int,0≤k→clipAt b.length k=min k.toNat b.length:=by intro k hk;unfold clipAt;rw[if_neg (by exact Hs hk)];exact ED
 unfold G5
 rw[Option.elim_some,Option.elim_none,e i h0]
 by_cases hi:i.toNat≤b.length
 ·rw[Nat.min_eq_left hi,List.take_of_length_le (by rw[List.length_drop];exact Nat.le_refl _)]
 ·rw[Nat.min_eq_right (by exact EC hi),List.drop_eq_nil_of_le (Nat.le_refl _),List.drop_eq_nil_of_le (by exact EC hi),List.take_nil]
theorem D3(b:List UInt8) (j:Int) (h0:0≤j):G5 b none (some j)=b.take j.toNat:=by
 have e:∀k:Int,0≤k→clipAt b.length k=min k.toNat b.length:=by intro k hk;unfold clipAt;rw[if_neg (by exact Hs hk)];exact ED
 unfold G5
 rw[Option.elim_some,Option.elim_none,e j h0,List.drop_zero,Nat.sub_zero]
 by_cases hj:j.toNat≤b.length
 ·rw[Nat.min_eq_left hj]
 ·rw[Nat.min_eq_right (by exact EC hj),List.take_of_length_le (Nat.le_refl _),List.take_of_length_le (by exact EC hj)]
noncomputable def M2:Nat:=18446744073709551616
noncomputable def X1:Nat:=11400714785074694791
noncomputable def X2:Nat:=14029467366897019727
noncomputable def X3:Nat:=1609587929392839161
noncomputable def X4:Nat:=9650029242287828579
noncomputable def X5:Nat:=2870177450012600261
noncomputable def II(v c:Nat):Nat:=(v*2 ^ c ||| v / 2 ^ (64 - c))%M2
noncomputable def TF(x:Nat):Nat:=II (x*X2%M2) 31*X1%M2
noncomputable def h8(f x:Nat):Nat:=(II (f ^^^ TF x) 27*X1+X4)%M2
noncomputable def h4(f x:Nat):Nat:=(II (f ^^^ x*X1%M2) 23*X2+X3)%M2
noncomputable def h1(f x:Nat):Nat:=II (f ^^^ x*X5%M2) 11*X1%M2
noncomputable def t1(f:Nat) (b:List UInt8):Nat:=b.foldl (fun f x=>h1 f x.toNat) f
noncomputable def t4(f:Nat) (b:List UInt8):Nat:=if 4≤b.length then t1 (h4 f (le (b.take 4))) (b.drop 4) else t1 f b
noncomputable def RJ:Nat→Nat→List UInt8→Nat
 | 0,f,b=>t4 f b
 | n+1,f,b=>if 8≤b.length then RJ n (h8 f (le (b.take 8))) (b.drop 8) else t4 f b
noncomputable def t8(f:Nat) (b:List UInt8):Nat:=RJ b.length f b
theorem dN:∀(n m f:Nat) (b:List UInt8),b.length≤n→b.length≤m→RJ n f b=RJ m f b
 | 0,0,_,_,_,_=>rfl
 | 0,m+1,f,b,h,_=>(if_neg (fun z=>absurd (Nat.le_trans z h) (Nat.not_succ_le_zero 7))).symm
 | n+1,0,f,b,_,h=>if_neg (fun z=>absurd (Nat.le_trans z h) (Nat.not_succ_le_zero 7))
 | n+1,m+1,f,b,h,h'=>by
  refine(?_:(if 8≤b.length then _ else _)=(if 8≤b.length then _ else _))
  have k:∀j,b.length≤j+1→(b.drop 8).length≤j:=fun j hj=>by rw[List.length_drop];exact Nat.le_trans (Nat.sub_le_sub_right hj 8) (Nat.sub_le j 7)
  rw[dN n m _ _ (k n h) (k m h')]
theorem yI{f:Nat}{b:List UInt8}(h:8≤b.length):t8 f b=t8 (h8 f (le (b.take 8))) (b.drop 8):=
 (dN b.length (b.length+1) f b (Nat.le_refl _) (Nat.le_succ _)).trans ((if_pos h).trans (dN _ _ _ _ (by rw[List.length_drop];exact Nat.sub_le _ _) (Nat.le_refl _)))
theorem yJ{f:Nat}{b:List UInt8}(h:¬ 8≤b.length):t8 f b=t4 f b:=
 (dN b.length (b.length+1) f b (Nat.le_refl _) (Nat.le_succ _)).trans (if_neg h)
noncomputable def Rd(f:Nat):Nat:=(f ^^^ f / 2 ^ 33)*X2%M2
noncomputable def Re(f:Nat):Nat:=(f ^^^ f / 2 ^ 29)*X3%M2
noncomputable def Rf(f:Nat):Nat:=f ^^^ f / 2 ^ 32
noncomputable def dO(b:List UInt8):Nat:=Rf (Re (Rd (t8 ((X5+b.length)%M2) b)))
theorem w5(x:Nat):Builtin.bitAnd (x:Int) 18446744073709551615=((x%M2:Nat):Int):=by
 rw[show(18446744073709551615:Int)=((18446744073709551615:Nat):Int) from rfl,M1,show(18446744073709551615:Nat)=2 ^ 64 - 1 from rfl,Nat.and_two_pow_sub_one_eq_mod];rfl
theorem J4(x y:Nat):Builtin.bitXor (x:Int) (y:Int)=((x ^^^ y:Nat):Int):=by
 unfold Builtin.bitXor
 rw[fS,M1]
 have h:∀x y:Nat,(x ||| y)=(x ^^^ y)+(x &&& y):=by
  intro x
  induction x using Nat.strongRecOn with
  | ind x ih=>
   intro y
   by_cases h0:x=0
   ·subst h0;simp
   ·have e:=ih (x / 2) (by exact OM h0) (y / 2)
    rw[← Nat.or_div_two,← Nat.and_div_two,← Nat.xor_div_two] at e
    have o1:=@Nat.or_mod_two_eq_one x y
    have a1:=@Nat.and_mod_two_eq_one x y
    have b1:=@Nat.xor_mod_two_eq_one x y
    exact Ka a1 o1 b1 e
 have:=h x y
 exact Lc this
theorem I3(x k:Nat):(x:Int).fdiv (2 ^ k)=((x / 2 ^ k:Nat):Int):=by
 rw[show((2:Int) ^ k)=((2 ^ k:Nat):Int) by push_cast;rfl]
 rw[Int.fdiv_eq_ediv_of_nonneg _ (Int.natCast_nonneg _)];rfl
theorem bF{x y:Nat}(hx:x<M2) (hy:y<M2):x ^^^ y<M2:=Nat.xor_lt_two_pow (n:=64) hx hy
theorem DL(v c:Nat) (hc:c≤64):Builtin.bitAnd (Builtin.bitOr ((v:Int)*2 ^ ((c:Int)).toNat) ((v:Int).fdiv (2 ^ (((64:Int) - (c:Int))).toNat))) (1*2 ^ (64:Int).toNat - 1)=((II v c:Nat):Int):=by
 rw[show((c:Int)).toNat=c by exact Int.toNat_natCast _,show(((64:Int) - (c:Int))).toNat=64 - c by exact OX,I3,show((v:Int)*2 ^ c)=((v*2 ^ c:Nat):Int) by push_cast;rfl,fS,show((1:Int)*2 ^ (64:Int).toNat - 1)=18446744073709551615 from by decide,w5];rfl
theorem cE(v:Nat):(v:Int)*11400714785074694791=((v*X1:Nat):Int):=by rw[Int.natCast_mul];rfl
theorem iV(v:Nat):(v:Int)*14029467366897019727=((v*X2:Nat):Int):=by rw[Int.natCast_mul];rfl
theorem Hc(v:Nat):(v:Int)*1609587929392839161=((v*X3:Nat):Int):=by rw[Int.natCast_mul];rfl
theorem Hd(v:Nat):(v:Int)*2870177450012600261=((v*X5:Nat):Int):=by rw[Int.natCast_mul];rfl
theorem He(v:Nat):(v:Int)+9650029242287828579=((v+X4:Nat):Int):=by rw[Int.natCast_add];rfl
theorem Hf(v:Nat):(v:Int)+1609587929392839161=((v+X3:Nat):Int):=by rw[Int.natCast_add];rfl
theorem y1{w:World}{H:AH}(v:Nat) (k:Int) (c:Nat) (hk:k=c) (hc:c≤64) {Q:AV→AH→Prop}(hq:Q (.int (II (v%M2) c:Nat)) H):c6 w 1 1672 [.int v,.int k] H (fun _ _=>False) Q:=by
 subst hk
 refine c9 (d:=d1672) (dv:=[]) (CN _) [] .nil rfl (Am _ _) (vC) (fun fx c' hh=>?_)
 refine(?_:Ex _ _ _ _ (_::_) _ _ _)
 refine' zS ?_
 refine' c4 ?_
 refine' zp ?_
 refine' c4 ?_
 refine' c4 ?_
 refine' zp ?_
 refine' zp ?_
 refine y6 (by decide) (by decide) (by decide) ?_
 refine' zp ?_
 refine' w2 ?_
 refine' j9 ?_
 refine'⟨_,by da_tab,?_⟩
 refine' g5 ?_
 refine' c4 ?_
 refine' c4 ?_
 refine' c4 ?_
 refine' zp ?_
 refine' zp ?_
 rw[show(2:Int) ^ (64:Int).toNat - 1=18446744073709551615 from rfl,w5]
 skip
 have hlt:v%M2<18446744073709551616:=Nat.mod_lt _ (by decide)
 refine vS (by exact Int.natCast_nonneg _) (by exact OF hc) (by assumption) ?_
 refine' zp ?_
 refine' BR ?_
 refine' c4 ?_
 refine' c4 ?_
 refine' zp ?_
 refine' zp ?_
 refine y6 (by decide) (by decide) (by decide) ?_
 refine' zp ?_
 refine' w2 ?_
 refine' j9 ?_
 have e:=DL (v%M2) c hc
 rw[Int.one_mul] at e
 rw[e]
 exact⟨_,.refl _,hq⟩
theorem v6{w:World}{p:Addr}{g k m:Int}{R:AH}(hg:0≤g) (hk:0≤k) (hk2:k<2 ^ 40) (hm:1≤m) (hm2:m<1000) {Q:AV→AH→Prop}(hq:∀g' v,0≤g'→0≤v→v<m→Q (.int v) ((p,.list [.int g',.int (k+1)])::R)):c6 w 1 1665 [.ref p,.int m] ((p,.list [.int g,.int k])::R) (fun _ _=>False) Q:=by
 refine c9 (d:=d1665) (dv:=[]) (CM _) [] .nil rfl (Al _ _) (vB) (fun fx c hh=>?_)
 refine(?_:Ex _ _ _ _ (_::_) _ _ _)
 refine' b8 ?_
 refine' Ay ?_ (by kernel_rfl)
 refine' c4 ?_
 refine' i9 ?_
 refine' zp ?_
 refine' zp ?_
 refine C6 (by law_side) (by decide) (by decide) rfl ?_
 refine' zp ?_
 refine' y3 ?_
 refine Dp ?_ (fun _=>rfl)
 refine' zp ?_
 refine' zp ?_
 refine⟨p,_,_,_,rfl,rfl,by law_side,by da_tab,by decide,by simp,by simp,?_⟩
 refine' d9 ?_
 refine' d3 ?_
 refine' d6 rfl ?_
 refine' i9 ?_
 refine' zp ?_
 refine' zp ?_
 refine C6 (by law_side) (by decide) (by decide) rfl ?_
 refine' zp ?_
 refine' N9 ?_
 refine H4 (fun ht=>?_) (fun ht=>?_)
 ·have ht:=of_decide_eq_true ht
  refine' b8 ?_
  refine g9 hh ?_
  refine' zb ?_
  refine' a8 ?_
  refine' i9 ?_
  refine' zp ?_
  refine' zp ?_
  refine C6 (by law_side) (by decide) (by decide) rfl ?_
  refine' za ?_
  refine AC (by exact Jv hm) (by exact Na hm hm2) (fun t=>?_)
  refine'⟨_,_,rfl,by law_side,by with_unfolding_all exact rfl,?_⟩
  refine' d8 ?_
  refine Dp ?_ (fun _=>rfl)
  refine' zp ?_
  refine' zp ?_
  refine⟨p,_,_,_,rfl,rfl,by law_side,by da_tab,by decide,by simp,by simp,?_⟩
  refine' d8 ?_
  refine' zk ?_
  refine' C1 ?_
  refine' d9 ?_
  refine' zr ?_
  refine' n9 ?_
  exact⟨_,.cons _ (.refl _),hq _ _ (Int.fdiv_nonneg hg (by exact Ju hm)) (Int.fmod_nonneg hg (by exact Ju hm)) (Int.fmod_lt_of_pos _ (by assumption))⟩
 ·have ht:=of_decide_eq_false ht
  have hk1: -(2 ^ 64:Int)<k+1:=by exact MX hk
  have hk3:k+1<(2 ^ 64:Int):=by exact Nf hk2
  refine' c7 ?_
  refine' g5 ?_
  refine' c4 ?_
  refine' c4 ?_
  refine' c4 ?_
  refine' c4 ?_
  refine' c4 ?_
  refine' zp ?_
  refine' i9 ?_
  refine' zp ?_
  refine' zp ?_
  refine C6 (by law_side) (by decide) (by decide) rfl ?_
  refine x6 (.of_right (intBits_le_64 hk1 hk3)) ?_
  refine' i9 ?_
  refine' zp ?_
  refine' zp ?_
  refine C6 (by law_side) (by decide) (by decide) rfl ?_
  refine x6 (.of_right (intBits_le_64 hk1 hk3)) ?_
  refine' c4 ?_
  refine' zp ?_
  refine' i9 ?_
  refine' zp ?_
  refine' zp ?_
  refine C6 (by law_side) (by decide) (by decide) rfl ?_
  refine x6 (.of_right (intBits_le_64 hk1 hk3)) ?_
  refine' y3 ?_
  refine' zp ?_
  refine vT (by decide) ?_
  refine' zp ?_
  refine vT (by exact Jv hm) ?_
  skip
  exact⟨_,.refl _,hq _ _ hg (Int.fmod_nonneg_of_pos _ (by assumption)) (Int.fmod_lt_of_pos _ (by assumption))⟩
theorem D9{w:World}{p:Addr}{g k m:Int}{R:AH}(hg:0≤g) (hk:0≤k) (hk2:k<2 ^ 40) (hm:1≤m) (hm2:m<1000) {Q:AV→AH→Prop}(hq:∀(g':Int) (v:Nat),0≤g'→(v:Int)<m→Q (.int v) ((p,.list [.int g',.int (k+1)])::R)) :
  c6 w 1 1665 [.ref p,.int m] ((p,.list [.int g,.int k])::R) (fun _ _=>False) Q:=v6 hg hk hk2 hm hm2 fun g' v h1 h2 h3=>by
 refine oE (Int.eq_ofNat_of_zero_le h2) fun v zq1=>?_;subst zq1
 exact hq g' v h1 h3
section
variable{w:World}{f:FI}{fx:Fx}{X:AV→b0→AH→Prop}{ρ:b0}{H:AH}{n:Nat}
theorem Sat'.listAtR{s:Shared}{m:GM fx}{news:List (Addr×Obj)}{a:Addr}{xs:List AV}{so:Obj}(S:Sat' f fx ρ H s m news) (h:In1 a (.raw so) H) (hso:RepO (.list xs) so):∃vs,All2 Rep xs vs∧s.heap.IsList a vs.toArray:=by
 refine f9 (S.items _ h.mem) fun o h1 h2=>?_
 obtain rfl:=RepO.inv h2
 cases hso with
 | list k r q1 q2=>exact⟨_,r,_,S.freed h1,q1,_,q2⟩
theorem Z7{a:Addr}{xs:List AV}{so:Obj}{Q:AV→b0→AH→Prop}(hi:In1 a (.raw so) H) (hso:RepO (.list xs) so) (hz:xs.length≤1000000) (h:Q (.int xs.length) ρ H):E4 w f fx X "len" [.ref a] ρ H Q:=by
 refine y8 ?_
 rintro s ⟨m,news,S⟩
 refine f9 (S.listAtR hi hso) fun vs r h3=>?_
 have hl:=r.len
 refine a6 (Calls.call_len_list h3 (by simp;exact Js hl hz) ⟨_,ρ,H,.int _ _,⟨m,news,S.toks _⟩,?_⟩)
 rw[List.size_toArray,hl];exact h
theorem DM{so:Obj}{x:Str}{px:Pos}{slice:Expr}{a:Addr}{xs:List AV}{k:Nat}{Q:AV→b0→AH→Prop}(hi':In1 a (.raw so) H) (hso:RepO (.list xs) so) (hz:xs.length≤1000) (h:∀c,Q (.ref c) ρ ((c,.list (xs.take k))::H))
  (hs:∀(a i:Addr),subscripted slice false (.ref a) (.ref i)=operate [.ref i,.ref a] (getItem (.ref a) (.ref i)):=by intro _ _;with_unfolding_all rfl):Rw w f fx X (.Name x px) slice (.ref a) none (some k) ρ H Q:=by
 rintro _ l u s ⟨⟩ hl hu ⟨m,news,S⟩
 refine f9 (S.listAtR hi' hso) fun vs r h3=>?_
 have hlen:=r.len
 refine a6 (slice_listK h3 hl hu ?_ (hs _ _) (fun _=>rfl) (by simp [sizeLine_eq];exact Hu hlen hz))
 rw[slicePick_upto']
 obtain⟨m',news',S₁⟩:Sat f fx ρ H { s with heap:=s.heap.push { cls:=.type "slice",data:=.fields #[l,u,.none] } }:=Sat.junk ⟨m,news,S⟩ rfl
 have S₂:=S₁.push (ao:=.list (xs.take k)) (o:= { cls:=.type "list",data:=.seq (vs.take k).toArray }) (s':= { s with heap:=(s.heap.push { cls:=.type "slice",data:=.fields #[l,u,.none] }).push { cls:=.type "list",data:=.seq (vs.take k).toArray } }) rfl (.list 0 (r.take k) rfl rfl) rfl rfl rfl
 have e:(s.heap.push { cls:=.type "slice",data:=.fields #[l,u,.none] }).objs.size=s.heap.objs.size+1:=Heap.size_push _ _
 rw[show({ s with heap:=s.heap.push { cls:=.type "slice",data:=.fields #[l,u,.none] } }:Shared).heap.objs.size=s.heap.objs.size+1 from e] at S₂
 exact⟨_,ρ,_,.ref _,⟨m',_,by simpa using S₂⟩,h _⟩
end
theorem fT{w:World}{a:Addr}{ns:List Int}{so:Obj}{R:AH}(hso:RepO (.list (ns.map .int)) so) (hl:ns.length≤63) {Q:AV→AH→Prop}(hq:∀l g,0≤g→Q (.ref l) ((l,.list [.int g,.int 0])::(a,.raw so)::R)):c6 w 1 1658 [.ref a] ((a,.raw so)::R) (fun _ _=>False) Q:=by
 refine c9 (d:=d1658) (dv:=[]) (CL _) [] .nil rfl (Ak _) (vA) (fun fx c hh=>?_)
 have restX:True:=trivial
 refine b8 ?_
 refine' m6 (Cx.ok (by assumption)) ?_ rfl
 refine' zp ?_
 refine'⟨_,by da_tab,?_⟩
 refine' d9 ?_
 refine b8 ?_
 refine cD c hh ?_ (by intro _;rfl) (fun _ _=>rfl)
 refine' m5 ?_
 refine' zp ?_
 refine' r3 ?_
 refine' r4 ?_
 refine' zp ?_
 refine'⟨_,rfl,?_⟩
 refine DM (k:=24) (by law_side) hso (by rw[List.length_map];exact OE hl) (fun l=>?_)
 refine⟨l,(ns.map .int).take 24,fun i ρ G=>∃(g:Int) (ce:Option AV),0≤g∧ρ=([("script",some (.ref a)),("great",some (.int g)),("cell",ce)]:b0)∧G=(l,.list ((ns.map .int).take 24))::(a,.raw so)::R,rfl,⟨0,none,by decide,rfl,rfl⟩,?_,?_,?_⟩
 ·intro i ρ G hz90;refine p8 (hz90) fun g ce _ zq1 zq2=>?_;clear hz90;subst zq1;subst zq2
  exact .here
 ·intro i ρ G I o hi hz90;refine p8 (hz90) fun g ce hg zq1 zq2=>?_;clear hz90;subst zq1;subst zq2
  rw[List.length_take,List.length_map] at hi
  have hn:((ns.map AV.int).take 24).getD i .none=.int (ns.getD i 0):=by
   rw[List.getD_eq_getElem?_getD,List.getElem?_take,if_pos (by exact LX hi),List.getElem?_map,List.getElem?_eq_getElem (by exact Jp hi),List.getD_eq_getElem?_getD,List.getElem?_eq_getElem (by exact Jp hi)];rfl
  rw[hn]
  refine D7 c.ok (by da_tab) ?_
  refine b8 ?_
  refine' m6 (Cx.ok (by assumption)) ?_ rfl
  refine' c4 ?_
  refine' c4 ?_
  refine' zp ?_
  refine' c4 ?_
  refine' zp ?_
  refine' c4 ?_
  refine' zb ?_
  refine' za ?_
  refine Iy ?_
  refine' c4 ?_
  refine' zp ?_
  refine' zp ?_
  refine y6 (by decide) (by decide) (by decide) ?_
  skip
  refine vT (by decide) ?_
  skip
  refine x6 (.of_left (intBits_le_64 (by decide) (by decide))) ?_
  refine' y3 ?_
  refine' zp ?_
  refine' y3 ?_
  refine'⟨_,by da_tab,?_⟩
  refine' d9 ?_
  refine' f8 ?_
  refine⟨.inl rfl,_,by da_tab,_,_,?_,rfl,rfl⟩
  have h1:0≤(if ns.getD i 0<0 then -ns.getD i 0 else ns.getD i 0).fmod (10 ^ (30:Int).toNat):=Int.fmod_nonneg_of_pos _ (by decide)
  have h2:0≤(if decide (ns.getD i 0<0)=true then(1:Int) else 0):=by split <;> decide
  have h3:0≤g*1000003:=Int.mul_nonneg hg (by decide)
  omega
 ·intro ρ G hz90;refine p8 (hz90) fun g ce hg zq1 zq2=>?_;clear hz90;subst zq1;subst zq2
  refine' d9 ?_
  refine' g5 ?_
  refine' w9 ?_
  refine' za ?_
  (refine'⟨?_,fun _=>?_⟩;focus (exact nb rfl))
  exact⟨_,.cons_cons _ (.cons _ (.refl _)),hq _ _ hg⟩
theorem E9{w:World}{e C gI t:Addr}{x:Str}{vs:List AV}{R:AH}(ho:I8 w.params C gI=true) (hs:O6 w.params C "reason" = true) {Q:AV→AH→Prop}(hq:∀d' t',Q .none ((d',.ns ["reason"])::(t',.tup [.str x])::(e,.exc C (some d') t' .none)::R)):c6 w 2 36 [.ref e,.str x] ((e,.exc C none t .none)::(t,.tup vs)::R) (fun _ _=>False) Q:=by
 refine c9 (d:=d36) (dv:=[]) (Ik _) [] .nil rfl (EY _ _) (Cc) (fun fx c hh=>?_)
 refine(?_:Ex _ _ _ _ (_::_) _ _ _)
 refine' zE ?_
 refine' b9 ?_
 refine' zp ?_
 refine' FN (by assumption) ?_ (by kernel_rfl) (by intro _;kernel_rfl)
 refine' za ?_
 refine FO c ho (nb rfl) (by law_side) (fun t'=>by da_tab) (fun t'=>?_)
 refine'⟨rfl,?_⟩
 refine' zC ?_
 refine' zp ?_
 refine' zp ?_
 refine FP c (by law_side) (fun d'=>by da_tab) hs (fun d'=>?_)
 refine' f8 ?_
 refine⟨(d',.ns ["reason"])::(t',.tup [.str x])::(e,.exc C (some d') t' .none)::R,?_,hq d' t'⟩
 law_side
noncomputable def iW(x:Str):Prop:=∀c∈x.cps.toList,c<4294967296
noncomputable abbrev G0(x:Str):Prop:=x.length≤10000∧iW x
theorem C8(s:String):iW (Str.ofString s):=by
 rw[PySem.Str.ofString_eq_toList]
 intro c hc
 refine f9 (List.mem_map.mp (show c∈s.toList.map Char.toNat from hc)) fun x _ zq1=>?_;subst zq1
 exact x.val.toNat_lt
theorem H5:iW Str.empty:=fun c hc=>by cases hc
theorem S4{a b:Str}(ha:iW a) (hb:iW b):iW (a++b):=by
 intro c hc
 have hc:c∈(a.cps++b.cps).toList:=hc
 rw[Array.toList_append] at hc
 rcases List.mem_append.mp hc with h |h
 ·exact ha c h
 ·exact hb c h
noncomputable abbrev RK(e C d t:Addr) (x:Str) (ks:List Str) (R:AH):AH:=(d,.ns ks)::(t,.tup [.str x])::(e,.exc C (some d) t .none)::R
theorem j0(a b:Str):(a++b).length=a.length+b.length:=PySem.Str.length_append a b
theorem AU{w:World}{e t:Addr}{vs:List AV}{R:AH}:c6 w 3 214 [.ref e,.int 5] ((e,.exc 217 none t .none)::(t,.tup vs)::R) (fun _ _=>False)
  (fun r H'=>r=.none∧∃d t x ks,G0 x∧H'=RK e 217 d t x ks R):=by
 refine J3 (O0 (d:=d214) (dv:=[]) (Fb _) [] .nil rfl (Cf _ _) (zA) (fun fx c hh=>?_))
 refine v9 fun Q hQ=>?_
 refine(?_:Ex _ _ _ _ (_::_) _ _ _)
 refine' zE ?_
 refine' b9 ?_
 refine' zp ?_
 refine' nP (by assumption) (dL (by law_side)) ?_ (by kernel_rfl) (by intro _;kernel_rfl)
 refine' a8 ?_
 refine' zp ?_
 refine' a8 ?_
 refine' S0 ?_
 refine' q9 ?_
 refine' zp ?_
 refine'⟨_,rfl,?_⟩
 refine⟨by decide,?_⟩
 refine' q9 ?_
 refine' I2 ?_
 refine' zp ?_
 refine K7 (by decide) ?_
 refine⟨_,rfl,by decide,?_⟩
 refine nS (by decide) ?_
 refine' za ?_
 refine a9 c hh (by kernel_rfl) (E9 (gI:=214) (by kernel_rfl) (by kernel_rfl) (fun d' t'=>?_))
 refine'⟨rfl,?_⟩
 refine' zC ?_
 refine' zp ?_
 refine' zp ?_
 refine I1 c (by law_side) (by law_side) (by da_tab) (by decide) (by kernel_rfl) ?_
 refine' f8 ?_
 refine' hQ _ _ _ ?_
 refine⟨_,.refl _,rfl,_,_,_,_,⟨by decide,?_⟩,rfl⟩
 repeat (first |exact C8 _ |exact H5 |refine S4 ?_ ?_)
theorem wG{w:World}{e t:Addr}  {vs:List AV}{R:AH}:c6 w 3 252 [.ref e,.str "block",.int 1025,.int 1024] ((e,.exc 255 none t .none)::(t,.tup vs)::R) (fun _ _=>False)
  (fun r H'=>r=.none∧∃d t x ks,G0 x∧H'=RK e 255 d t x ks R):=by
 refine J3 (O0 (d:=d252) (dv:=[]) (Fc _) [] .nil rfl (Cg _ _ _ _) (zB) (fun fx c hh=>?_))
 refine v9 fun Q hQ=>?_
 refine(?_:Ex _ _ _ _ (_::_) _ _ _)
 refine' zE ?_
 refine' b9 ?_
 refine' zp ?_
 refine' nP (by assumption) (dL (by law_side)) ?_ (by kernel_rfl) (by intro _;kernel_rfl)
 refine' a8 ?_
 refine' zp ?_
 refine' a8 ?_
 refine' S0 ?_
 refine' q9 ?_
 refine' I2 ?_
 refine' zp ?_
 refine nR (by decide) ?_
 refine⟨_,rfl,by decide,?_⟩
 refine' q9 ?_
 refine' zp ?_
 refine'⟨_,rfl,?_⟩
 refine⟨by decide,?_⟩
 refine' q9 ?_
 refine' I2 ?_
 refine' zp ?_
 refine K7 (by decide) ?_
 refine⟨_,rfl,by decide,?_⟩
 refine' q9 ?_
 refine' zp ?_
 refine'⟨_,rfl,?_⟩
 refine⟨by decide,?_⟩
 refine' q9 ?_
 refine' I2 ?_
 refine' zp ?_
 refine K7 (by decide) ?_
 refine⟨_,rfl,by decide,?_⟩
 refine nS (by decide) ?_
 refine' za ?_
 refine a9 c hh (by kernel_rfl) (E9 (gI:=252) (by kernel_rfl) (by kernel_rfl) (fun d' t'=>?_))
 refine'⟨rfl,?_⟩
 refine' zC ?_
 refine' zp ?_
 refine' zp ?_
 refine I1 c (by law_side) (by law_side) (by da_tab) (by decide) (by kernel_rfl) ?_
 refine' zC ?_
 refine' zp ?_
 refine' zp ?_
 refine I1 c (by law_side) (by law_side) (by da_tab) (by decide) (by kernel_rfl) ?_
 refine' zC ?_
 refine' zp ?_
 refine' zp ?_
 refine I1 c (by law_side) (by law_side) (by da_tab) (by decide) (by kernel_rfl) ?_
 refine' f8 ?_
 refine' hQ _ _ _ ?_
 refine⟨_,.refl _,rfl,_,_,_,_,⟨by decide,?_⟩,rfl⟩
 repeat (first |exact C8 _ |exact H5 |refine S4 ?_ ?_)
theorem bG{w:World}{H:AH}(v c k:Int) (h1:0≤c) (h2:c≤k) (h3:k≤64) (hv:v.natAbs<2 ^ 64) {Q:AV→AH→Prop}(hq:Q (.int (Builtin.bitAnd (Builtin.bitOr (v*2 ^ c.toNat) (v.fdiv (2 ^ (k - c).toNat))) (1*2 ^ k.toNat - 1))) H):c6 w 1 438 [.int v,.int c,.int k] H (fun _ _=>False) Q:=by
 refine c9 (d:=d438) (dv:=[]) (Fn _) [] .nil rfl (Cq _ _ _) (zQ) (fun fx c hh=>?_)
 refine b8 ?_
 with_reducible refine m6 (Cx.ok (by assumption)) ?_ rfl
 with_reducible refine Tg (by da_there) ?_
 with_reducible refine⟨_,by da_tab,?_⟩
 with_reducible refine d9 ?_
 with_reducible refine DH (by da_there) ?_
 exact⟨_,.refl _,hq⟩
theorem P3{w:World}{a d:Addr}{data:AV}{stop place:Int}{R:AH}{Q:AV→AH→Prop}(hq:Q (.int (stop - place)) ((a,.inst 420 d)::(d,.dict [("data",data),("stop",.int stop),("place",.int place)])::R)):c6 w 1 368 [.ref a] ((a,.inst 420 d)::(d,.dict [("data",data),("stop",.int stop),("place",.int place)])::R) (fun _ _=>False) Q:=by
 refine c9 (d:=d368) (dv:=[]) (Fh _) [] .nil rfl (Cl _) (zJ) (fun fx c hh=>?_)
 refine b8 ?_
 refine w8 ?_
 refine c4 ?_
 refine d1 ?_
 refine m7 c.ok (by law_side) rfl ?_
 refine nD c (by law_side) (by law_side) (by law_side) (by kernel_rfl) rfl ?_
 refine d1 ?_
 refine m7 c.ok (by law_side) rfl ?_
 refine nD c (by law_side) (by law_side) (by law_side) (by kernel_rfl) rfl ?_
 refine w2 ?_
 exact⟨_,.refl _,hq⟩
theorem cT{w:World}{H:AH}(k:Int) (h:0≤k) {Q:AV→AH→Prop}(hq:Q .none H):c6 w 1 264 [.int k] H (fun _ _=>False) Q:=by
 refine c9 (d:=d264) (dv:=[]) (Fd _) [] .nil rfl (Ch _) (zD) (fun fx c hh=>?_)
 refine(?_:Ex _ _ _ _ (_::_) _ _ _)
 refine' d3 ?_
 refine' v8 ?_
 refine' M7 ?_
 refine' dK ?_
 refine' q8 rfl ?_
 refine' zb ?_
 refine' za ?_
 refine' gS ?_
 refine' zV ?_
 refine' M7 ?_
 refine' q8 rfl ?_
 refine' zb ?_
 refine' za ?_
 refine' fF ?_
 refine' zF ?_
 refine' M7 ?_
 refine' D2 (by da_there) ?_
 refine' x3 (by(refine decide_eq_false ?_;exact Hs h)) ?_
 refine' I9 ?_
 refine' c7 ?_
 refine' f8 ?_
 exact⟨_,.refl _,hq⟩
theorem rF{w:World}{H:AH}(b:List UInt8) (hb:b.length≤1000000) {Q:AV→AH→Prop}(hq:Q (.int b.length) H):c6 w 1 278 [.bytes b,.int 0,.none] H (fun _ _=>False) Q:=by
 refine c9 (d:=d278) (dv:=[]) (Fe _) [] .nil rfl (Ci _ _ _) (zG) (fun fx c hh=>?_)
 refine(?_:Ex _ _ _ _ (_::_) _ _ _)
 refine' zS ?_
 refine' z8 ?_
 refine' d6 rfl ?_
 refine' zp ?_
 refine' zp ?_
 refine' i8 (by exact x0) ?_
 refine' zV ?_
 refine' zp ?_
 refine'⟨_,by da_tab,?_⟩
 refine' d3 ?_
 refine' dK ?_
 refine' fC rfl ?_
 refine' zp ?_
 refine' dH ?_
 refine' zp ?_
 refine' bU ?_
 refine' zV ?_
 refine' dH ?_
 refine' zp ?_
 refine' bU ?_
 refine' zV ?_
 refine' nU ?_
 refine' zp ?_
 refine' bU ?_
 refine' M8 (by(refine decide_eq_true ?_;exact Int.le_refl _)) ?_
 refine' c7 ?_
 refine' zr ?_
 exact⟨_,.refl _,hq⟩
theorem i6{w:World}{a d:Addr}{b:List UInt8}{R:AH}(hb:b.length≤1000000) {Q:AV→AH→Prop}(hq:Q .none ((a,.inst 420 d)::(d,.dict [("data",.bytes b),("stop",.int b.length),("place",.int 0)])::R)):c6 w 2 361 [.ref a,.bytes b] ((a,.inst 420 d)::(d,.dict [])::R) (fun _ _=>False) Q:=by
 refine c9 (d:=d361) (dv:=[.int 0,.none]) (Fg _) xO (.cons (.int _ _) (.cons .none .nil)) rfl (Ck _ _ _ _) (zI) (fun fx c hh=>?_)
 refine(?_:Ex _ _ _ _ (_::_) _ _ _)
 refine' zn ?_
 refine' zC ?_
 refine' zc ?_
 refine a9 c hh (by kernel_rfl) (rF b hb ?_)
 refine' zp ?_
 refine' zw ?_
 refine' zn ?_
 refine' f8 ?_
 exact⟨_,.refl _,hq⟩
theorem cF{w:World}{a d:Addr}{b:List UInt8}{n:Int}{p k:Nat}{R:AH}(hb:b.length≤1000000) (h1:(k:Int)≤n - p) {Q:AV→AH→Prop}(hq:Q (.bytes ((b.drop p).take k)) ((a,.inst 420 d)::(d,.dict [("data",.bytes b),("stop",.int n),("place",.int (p+k:Nat))])::R)):c6 w 2 382 [.ref a,.int k] ((a,.inst 420 d)::(d,.dict [("data",.bytes b),("stop",.int n),("place",.int p)])::R) (fun _ _=>False) Q:=by
 refine c9 (d:=d382) (dv:=[]) (Fi _) [] .nil rfl (Cm _ _) (zK) (fun fx c hh=>?_)
 refine(?_:Ex _ _ _ _ (_::_) _ _ _)
 refine' zE ?_
 refine' zc ?_
 refine a9 c hh (by kernel_rfl) (cT k (by exact Int.natCast_nonneg _) ?_)
 refine'⟨rfl,?_⟩
 refine' d3 ?_
 refine' d6 rfl ?_
 refine' zp ?_
 refine' b9 ?_
 refine' zp ?_
 refine' zN ?_
 refine a9 c hh (by kernel_rfl) (P3 ?_)
 refine' N9 ?_
 refine' x3 (by(refine decide_eq_false ?_;exact MP h1)) ?_
 refine' c7 ?_
 refine' b8 ?_
 refine' O7 ?_
 refine' zp ?_
 refine' zg ?_
 refine' zp ?_
 refine' nT ?_
 refine' zu ?_
 refine' d9 ?_
 refine' zr ?_
 rw[dM _ _ _ (by exact MJ) (by exact MF),show(((p:Int)+k - k).toNat)=p by exact MK,show((p:Int)+k).toNat - p=k by exact MI,show((p:Int)+k)=((p+k:Nat):Int) by rfl]
 exact⟨_,.refl _,hq⟩
theorem bH{w:World}{b:List UInt8}{H:AH}(hb:b.length≤1000) {Q:AV→AH→Prop}(hq:Q (.int (le b)) H):c6 w 1 285 [.bytes b] H (fun _ _=>False) Q:=by
 refine c9 (d:=d285) (dv:=[]) (Ff _) [] .nil rfl (Cj _) (zH) (fun fx c hh=>?_)
 refine(?_:Ex _ _ _ _ (_::_) _ _ _)
 refine' zs ?_
 refine' b8 ?_
 refine qW c hh ?_ (by intro _;rfl)
 refine' zt ?_
 refine' za ?_
 refine gR (fun e it oi hoi=>?_)
 refine oE (hoi) fun t zq1=>?_;subst zq1
 refine⟨e,it,_,H,b.length,_,_,_,fun i ρ G=>∃po oc,ρ=([("octets",some (.bytes b)),("value",some (.int (le (b.take i)))),("place",po),("octet",oc)]:b0)∧G=H,rfl,rfl,AA it b t,⟨rfl,rfl⟩,⟨none,none,rfl,rfl⟩,fun _ _ _ _=>trivial,?_,?_⟩
 ·intro i ρ G e' it' oe oi' hi hz90;refine aM (hz90) fun po oc zq1 zq2=>?_;clear hz90;subst zq1;subst zq2
  refine⟨_,_,by da_tab,by da_tab,?_⟩
  have hlt:=(b.getD i 0).toNat_lt
  refine' IH (by assumption) _ (by news_at) (by da_there) (by da_there) (by da_tab) ?_
  refine' f8 ?_
  exact⟨.inl rfl,_,by da_tab,_,_,by rw[yH b i hi],rfl⟩
 ·intro ρ G hz90;refine aM (hz90) fun po oc zq1 zq2=>?_;clear hz90;subst zq1;subst zq2
  refine' d9 ?_
  refine' zr ?_
  rw[List.take_length]
  exact⟨_,.refl _,hq⟩
theorem E0{w:World}{a d:Addr}{b:List UInt8}{n:Int}{p:Nat}{R:AH}(hb:b.length≤1000000) (h1:(1:Int)≤n - p) (hp:p<b.length) {Q:AV→AH→Prop}(hq:Q (.int (b.getD p 0).toNat) ((a,.inst 420 d)::(d,.dict [("data",.bytes b),("stop",.int n),("place",.int (p+1:Nat))])::R)):c6 w 3 396 [.ref a] ((a,.inst 420 d)::(d,.dict [("data",.bytes b),("stop",.int n),("place",.int p)])::R) (fun _ _=>False) Q:=by
 refine c9 (d:=d396) (dv:=[]) (Fj _) [] .nil rfl (Cn _) (zL) (fun fx c hh=>?_)
 refine(?_:Ex _ _ _ _ (_::_) _ _ _)
 refine' g5 ?_
 refine' i9 ?_
 refine' b9 ?_
 refine' zp ?_
 refine' zm ?_
 refine a9 c hh (by kernel_rfl) (cF (k:=1) hb (by assumption) ?_)
 refine' zp ?_
 have hl:((b.drop p).take 1).length=1:=by rw[List.length_take,List.length_drop];exact Mp hp
 refine S1 (by exact NU hl) (by exact Int.natCast_nonneg _) (by exact NT hl) ?_
 skip
 refine wB ?_ hq
 congr 2
 rw[show(0:Int).toNat=0 from rfl,List.getD_eq_getElem?_getD,List.getD_eq_getElem?_getD,List.getElem?_take,if_pos (by decide),List.getElem?_drop];rfl
theorem j1{w:World}{a d:Addr}{b:List UInt8}{n:Int}{p k:Nat}{R:AH}(hb:b.length≤1000000) (h1:(k:Int)≤n - p) (hk:k≤1000) {Q:AV→AH→Prop}(hq:Q (.int (le ((b.drop p).take k))) ((a,.inst 420 d)::(d,.dict [("data",.bytes b),("stop",.int n),("place",.int (p+k:Nat))])::R)):c6 w 3 403 [.ref a,.int k] ((a,.inst 420 d)::(d,.dict [("data",.bytes b),("stop",.int n),("place",.int p)])::R) (fun _ _=>False) Q:=by
 refine c9 (d:=d403) (dv:=[]) (Fk _) [] .nil rfl (Co _ _) (zO) (fun fx c hh=>?_)
 refine(?_:Ex _ _ _ _ (_::_) _ _ _)
 refine' g5 ?_
 refine' zv ?_
 refine' a8 ?_
 refine' b9 ?_
 refine' zp ?_
 refine' zm ?_
 refine a9 c hh (by kernel_rfl) (cF hb (by assumption) ?_)
 refine' za ?_
 refine a9 c hh (by kernel_rfl) (bH (by rw[List.length_take];exact Ml hk) ?_)
 skip
 exact⟨_,.refl _,hq⟩
theorem rG{w:World}{H:AH}{Q:AV→AH→Prop}(hq:Q (.int 1024) H):c6 w 1 1393 [.int 0] H (fun _ _=>False) Q:=by
 refine c9 (d:=d1393) (dv:=[]) (CA _) [] .nil rfl (Ac _) (uS) (fun fx c hh=>?_)
 refine(?_:Ex _ _ _ _ (_::_) _ _ _)
 refine' zs ?_
 refine' zr ?_
 exact wB (congrArg AV.int (by decide)) hq
theorem u5{w:World}{H:AH}{m:Int}{Q:AV→AH→Prop}(hq:Q (.bool (m.fdiv 16 == 25481893)) H):c6 w 1 1429 [.int m] H (fun _ _=>False) Q:=by
 refine c9 (d:=d1429) (dv:=[]) (CD _) [] .nil rfl (Ae _) (uU) (fun fx c hh=>?_)
 refine(?_:Ex _ _ _ _ (_::_) _ _ _)
 refine' zr ?_
 exact⟨_,.refl _,hq⟩
theorem n6{w:World}{H:AH}{Q:AV→AH→Prop}(hq:Q .none H):c6 w 1 1436 [.int 4247762216] H (fun _ _=>False) Q:=by
 refine c9 (d:=d1436) (dv:=[]) (qE _) [] .nil rfl (iG _) (eA) (fun fx c hh=>?_)
 refine(?_:Ex _ _ _ _ (_::_) _ _ _)
 refine' d3 ?_
 refine' v8 ?_
 refine' M7 ?_
 refine' D2 (by da_there) ?_
 refine' zF ?_
 refine' M7 ?_
 refine' fC rfl ?_
 refine' zp ?_
 refine' dH ?_
 refine' zp ?_
 refine' bU ?_
 refine' zV ?_
 refine' nU ?_
 refine' zp ?_
 refine' bU ?_
 refine' zF ?_
 refine' I9 ?_
 refine' c7 ?_
 refine' zf ?_
 refine' f8 ?_
 exact⟨_,.refl _,hq⟩
theorem AW{w:World}{x d:Addr}{a b s:AV}{R:AH}{Q:AV→AH→Prop}(hq:Q .none ((x,.inst 1467 d)::(d,.dict [("last",a),("kind",b),("size",s)])::R)):c6 w 1 1464 [.ref x,a,b,s] ((x,.inst 1467 d)::(d,.dict [])::R) (fun _ _=>False) Q:=by
 refine c9 (d:=d1464) (dv:=[]) (CE _) [] .nil rfl (Af _ _ _ _) (uV) (fun fx c hh=>?_)
 refine(?_:Ex _ _ _ _ (_::_) _ _ _)
 refine' zn ?_
 refine' zn ?_
 refine' zn ?_
 refine' f8 ?_
 exact⟨_,.refl _,hq⟩
theorem P4{w:World}{x d:Addr}{a b s k g:AV}{R:AH}{Q:AV→AH→Prop}(hq:Q .none ((x,.inst 1418 d)::(d,.dict [("window",a),("size",b),("ident",s),("checksum",k),("single",g)])::R)):c6 w 1 1408 [.ref x,a,b,s,k,g] ((x,.inst 1418 d)::(d,.dict [])::R) (fun _ _=>False) Q:=by
 refine c9 (d:=d1408) (dv:=[]) (CC _) [] .nil rfl (Ad _ _ _ _ _ _) (uT) (fun fx c hh=>?_)
 refine(?_:Ex _ _ _ _ (_::_) _ _ _)
 refine' zn ?_
 refine' zn ?_
 refine' zn ?_
 refine' zn ?_
 refine' zn ?_
 refine' f8 ?_
 exact⟨_,.refl _,hq⟩
theorem w6{w:World}{a d:Addr}{b:List UInt8}{R:AH}(hb:b.length=3) {Q:AV→AH→Prop}(hq:∀x dx,Q (.ref x) ((x,.inst 1467 dx)::(dx,.dict [("last",.bool (Builtin.bitAnd (le b) 1 == 1)),("kind",.int (Builtin.bitAnd ((le b:Int).fdiv 2) 3)),("size",.int ((le b:Int).fdiv 8))])::R)):c6 w 4 1478 [.ref a] ((a,.inst 420 d)::(d,.dict [("data",.bytes b),("stop",.int b.length),("place",.int (0:Nat))])::R) (fun _ _=>False) Q:=by
 refine c9 (d:=d1478) (dv:=[]) (CF _) [] .nil rfl (Ag _) (uW) (fun fx c hh=>?_)
 refine(?_:Ex _ _ _ _ (_::_) _ _ _)
 refine' zS ?_
 refine' b9 ?_
 refine' zp ?_
 refine' zm ?_
 refine a9 c hh (by kernel_rfl) (j1 (k:=3) (by exact Eu hb) (by exact NX hb) (by exact Nat.le_add_left _ _) ?_)
 rw[List.drop_zero,List.take_of_length_le (by exact NZ hb)]
 refine'⟨_,by da_tab,?_⟩
 refine' g5 ?_
 refine' zc ?_
 refine g6 c hh (gI:=1464) (by kernel_rfl) (by kernel_rfl) (fun x dx=>AW (.mk ?_))
 exact⟨_,by law_side,hq x dx⟩
noncomputable abbrev IT(e C d t:Addr) (x:Str) (ks:List Str) (R:AH):AH:=(e,.exc C (some d) t .none)::(d,.ns ks)::(t,.tup [.str x])::R
theorem DN(e C d t:Addr) (x:Str) (ks:List Str) (R:AH):(RK e C d t x ks R).Perm (IT e C d t x ks R):=
 (List.Perm.cons _ (List.Perm.swap _ _ _)).trans (List.Perm.swap _ _ _)
theorem P5{w:World}{k:Nat}{a e C:Addr}{vs:List AV}{H R:AH}{XS:AV→AH→Prop}(h:c6 w k a vs H XS (fun r H'=>r=.none∧∃d t x ks,G0 x∧H'=RK e C d t x ks R)) :
  c6 w k a vs H XS (fun r H'=>r=.none∧∃d t x ks,G0 x∧H'=IT e C d t x ks R):=yC h fun r H' z=>wW (z) fun e3 d t x ks e4 e5=>⟨_,fun S=>(e5▸S).perm (DN ..),e3,d,t,x,ks,e4,rfl⟩
theorem H6{w:World}{e C gI t:Addr}{x:Str}{vs:List AV}{R:AH}(ho:I8 w.params C gI=true) (hs:O6 w.params C "reason" = true) (hx:G0 x):c6 w 2 36 [.ref e,.str x] ((e,.exc C none t .none)::(t,.tup vs)::R) (fun _ _=>False)
  (fun r H'=>r=.none∧∃d t x ks,G0 x∧H'=IT e C d t x ks R):=by
 exact P5 (E9 ho hs fun d' t'=>⟨rfl,d',t',x,["reason"],hx,rfl⟩)
inductive XS (C₀:Addr) (R:AH) (e C:Addr) (d:Option Addr) (t:Addr) (R':AH):Prop
 | mk (h1:C=C₀) (d0:Addr) (x:Str) (ks:List Str) (h2:d=some d0) (h3:G0 x) (h4:((d0,AO.ns ks)::(t,.tup [.str x])::R).Sublist R')
theorem XS.weak{C₀:Addr}{R R₂:AH}(h:R₂.Sublist R) {e C:Addr}{d:Option Addr}{t:Addr}{R':AH}(q:XS C₀ R e C d t R'):XS C₀ R₂ e C d t R':=by
 obtain⟨h1,d0,x,ks,h2,h3,h4⟩:=q
 exact⟨h1,d0,x,ks,h2,h3,((h.cons_cons _).cons_cons _).trans h4⟩
section
variable{w:World}{f:FI}{fx:Fx}{ρ:b0}{H:AH}{n:Nat}
theorem C9{X:AV→b0→AH→Prop}{C gI:Addr}{vs:List AV}{k:Nat}{R:AH}(c:Cx w f fx n) (hh:fx.A.handled=none) (ho:I8 w.params C gI=true) (hl:vs.length≤1000)
  (hs:∀e t,c6 w k gI (.ref e::vs) ((e,.exc C none t .none)::(t,.tup vs)::H) (fun _ _=>False) (fun r H'=>r=.none∧∃d t x ks,G0 x∧H'=IT e C d t x ks H)) (hk:k+1≤n) (hR:R.Sublist H) :
  w3 w f fx X C vs ρ H (Dm w.params (XS C R)):=
 Iv c hh ho hl hs hk (.refl _) (fun _ _ h=>h.elim) fun e t r H' z=>wW (z) fun h1 d t' x ks hx h2=>⟨h1,e,C,some d,t',_,fx.L,gI,rfl,⟨_,_,.fresh,by rw[h2];rfl⟩,ho,rfl,d,x,ks,rfl,hx,hR.cons_cons _ |>.cons_cons _⟩
end
noncomputable abbrev G1(hx:Addr) (most:Int) (o tb of:Addr):AO:=.dict [("header",.ref hx),("most",.int most),("out",.ref o),("history",.bytes []),("huff",.none),("tables",.ref tb),("offsets",.ref of)]
noncomputable abbrev M9(win:Int) (size:AV) (ck sg:Bool):AO:=.dict [("window",.int win),("size",size),("ident",.int 0),("checksum",.bool ck),("single",.bool sg)]
noncomputable abbrev cG(last:Bool) (kind size:Int):AO:=.dict [("last",.bool last),("kind",.int kind),("size",.int size)]
noncomputable abbrev t7(p t:Addr) (n:Int) (st hd:AV) (cl:AV):AO:=.dict [("dictionaries",.ref 1579),("most_window",.int 8388608),("most_block",.int 131072),("pending",.ref p),("told",.ref t),("frames",.int n),("state",st),("head",hd),("closing",cl),("to_skip",.int 0),("error",.none)]
theorem z0{α:Type}{a b c d:α}{l l':List α}(h:DelN [a,b,c,d] l l'):l.Perm (a::b::c::d::l'):=h.perm
theorem Z8{α:Type}{a b c d e f g:α}{l l':List α}(h:DelN [a,b,c,d,e,f,g] l l'):l.Perm (a::b::c::d::e::f::g::l'):=h.perm
section
variable{w:World}{f:FI}{fx:Fx}{X:AV→b0→AH→Prop}{ρ:b0}{H:AH}{n:Nat}
theorem FY{pos:Pos}{Q:AF→b0→AH→Prop}(h:Q AF.next ρ H):bT w f fx X (Stmt.Pass pos) ρ H Q:=fun s S=>by
 show c8 _ _ (do standAt pos;pure Flow.next) _ _ s
 exact a7 (c3 (b7 ⟨_,ρ,H,.next,S,h⟩))
theorem u0{α β:Type}{rep:β→α→Prop}{t:Sem α}{H':AH}{Q:β→b0→AH→Prop}(hp:H.Perm H') (h:Tr w f fx X rep t ρ H' Q):Tr w f fx X rep t ρ H Q:=fun s S=>h s (S.perm hp)
end
theorem M3{w:World}{k n:Nat}{a:Addr}{vs:List AV}{H:AH}{XS Q:AV→AH→Prop}(h:c6 w k a vs H XS Q) (hk:k≤n):c6 w n a vs H XS Q:=
 fun f fx ρ A k' c h1 h2 h3 h4 s S cvs r=>h f fx ρ A k' c h1 (by exact Jb h2 hk) h3 h4 s S cvs r
theorem H7{w:World}{k:Nat}{a:Addr}{vs:List AV}{H H₂:AH}{XS Q:AV→AH→Prop}(hp:H.Perm H₂) (h:c6 w k a vs H₂ XS Q):c6 w k a vs H XS Q:=
 fun f fx ρ A k' c h1 h2 h3 h4 s S cvs r=>h f fx ρ A k' c h1 h2 h3 h4 s (S.perm hp) cvs r
theorem v7{w:World}{k:Nat}{a:Addr}{vs:List AV}{H:AH}{XS XS' Q Q':AV→AH→Prop}(h:c6 w k a vs H XS Q) (hq:∀v H',Q v H'→Q' v H') (hx:∀v H',XS v H'→XS' v H'):c6 w k a vs H XS' Q':=by
 intro f fx ρ A k' c h1 h2 h3 h4 s S cvs r
 refine w0 (h f fx ρ A k' c h1 h2 h3 h4 s S cvs r) ?_
 intro r s' hr
 match r,hr with
 | .ok (.ret v),⟨b,H',e1,e2,e3⟩=>exact⟨b,H',e1,e2,hq _ _ e3⟩
 | .error e,⟨b,H',e1,e2,e3⟩=>exact⟨b,H',e1,e2,hx _ _ e3⟩
noncomputable def Kt:Type:=Int→AV→AV→AV→AH→Prop
inductive y0 (r d:Addr) (K:Kt) (R0:AH) (pend told:List UInt8) (H:AH):Prop
 | mk (p t:Addr) (n:Int) (st hd cl:AV) (FL:AH) (k:K n st hd cl FL) (hp:H.Perm ((p,.ba pend)::(t,.ba told)::(r,.inst 1646 d)::(d,t7 p t n st hd cl)::(FL++R0)))
noncomputable def gW(w:World) (r d:Addr) (K:Kt) (b add:List UInt8) (K':Kt):Prop:=∀R0 rest told H,rest.length≤1000→told.length≤400→y0 r d K R0 (b++rest) told H→
 ∀Q:AV→AH→Prop,(∀H',y0 r d K' R0 rest (told++add) H'→Q (.bool true) H')→c6 w 10 1615 [.ref r] H (fun _ _=>False) Q
noncomputable def U6(w:World) (r d:Addr) (K:Kt) (b:List UInt8):Prop:=∀R0 pend u told H,b=pend++u→u≠[]→y0 r d K R0 pend told H→
 ∀Q:AV→AH→Prop,(∀H',y0 r d K R0 pend told H'→Q (.bool false) H')→c6 w 10 1615 [.ref r] H (fun _ _=>False) Q
inductive Path (w:World) (r d:Addr):Nat→Kt→List UInt8→List UInt8→Kt→Prop
 | nil {K}:Path w r d 0 K [] [] K
 | cons {k K b add K₁ bs txt K₂}:gW w r d K b add K₁→U6 w r d K b→Path w r d k K₁ bs txt K₂→Path w r d (k+1) K (b++bs) (add++txt) K₂
noncomputable def Ends(w:World) (r d:Addr) (K:Kt) (F:List UInt8):Prop:=∀R0 pend u told H,F=pend++u→(u≠[]∨F=[])→y0 r d K R0 pend told H→
 ∀Q:AV→AH→Prop,(∀H',y0 r d K R0 pend told H'→Q (.bool false) H')→c6 w 10 1615 [.ref r] H (fun _ _=>False) Q
theorem oH{x:Str}{v:Option AV}:∀ {ρ:b0},x∈ρ.map (·.1)→∃ρ',Put1 x v ρ ρ'
 | [],h=>by cases h
 | (y,u)::ρ,h=>by
  by_cases e:x=y
  ·subst e;exact⟨_,.here⟩
  ·have h2:x∈ρ.map (·.1):=by
    rcases List.mem_cons.mp h with h |h
    ·exact absurd h e
    ·exact h
   obtain⟨ρ',h3⟩:=oH (v:=v) h2
   exact⟨_,.there h3⟩
inductive XF (r d C:Addr) (R0:AH) (e C':Addr) (dd:Option Addr) (t':Addr) (R':AH):Prop
 | mk (p t:Addr) (n:Int) (st hd cl:AV) (x:XS C ((r,.inst 1646 d)::(d,t7 p t n st hd cl)::R0) e C' dd t' R')
noncomputable def Hg(w:World) (r d:Addr) (K:Kt) (F:List UInt8) (C:Addr):Prop:=∀R0 rest told H,rest.length≤1000→told.length≤400→y0 r d K R0 (F++rest) told H→c6 w 10 1615 [.ref r] H (XO (XF r d C R0)) (fun _ _=>False)
noncomputable abbrev El(p t:Addr) (n:Int) (st hd:AV) (cl:AV) (e:Addr):AO:=.dict [("dictionaries",.ref 1579),("most_window",.int 8388608),("most_block",.int 131072),("pending",.ref p),("told",.ref t),("frames",.int n),("state",st),("head",hd),("closing",cl),("to_skip",.int 0),("error",.ref e)]
inductive XE (r d C:Addr) (R0:AH) (e C':Addr) (dd:Option Addr) (t':Addr) (R':AH):Prop
 | mk (h1:C'=C) (d0:Addr) (x:Str) (ks:List Str) (p t:Addr) (n:Int) (st hd cl:AV) (h2:dd=some d0) (h3:G0 x) (h4:((d0,AO.ns ks)::(t',.tup [.str x])::(r,.inst 1646 d)::(d,El p t n st hd cl e)::R0).Sublist R')
theorem wH{w:World}{r d C:Addr}{R0:AH}{K:Kt}{F pend octets rest:List UInt8}{H:AH}(hF:Hg w r d K F C) (hC:M0 w.params 39 C=true) (hE:pend++octets=F++rest) (hl1:pend.length+octets.length≤1000) (hl2:rest.length≤1000) (hS:y0 r d K R0 pend [] H) :
  c6 w 12 1594 [.ref r,.bytes octets] H (XO (XE r d C R0)) (fun _ _=>False):=by
 refine f6 (X:=fun fx=>XB fx.L (XE r d C R0)) (d:=d1594) (dv:=[]) (eJ _) [] .nil rfl (aW _ _) (W0) (fun fx c hh hst hfr=>⟨?_,j2 c hst hfr⟩)
 have restX:True:=trivial
 obtain⟨p,t,n,st,hd,cl,R,hK,hperm⟩:=hS
 refine u0 hperm ?_
 refine b8 ?_
 refine' B5 ?_
 refine' d6 rfl ?_
 refine' zp ?_
 refine' zp ?_
 refine' g8 (by exact x0) ?_
 refine' zF ?_
 refine' c7 ?_
 refine' zE ?_
 refine' b9 ?_
 refine' zp ?_
 refine' j7 (H':=[]) (d:=[]) (by assumption) ?_ (by law_side) (by kernel_rfl)
 refine' za ?_
 refine'⟨_,_,_,rfl,by law_side,by da_tab,by exact Jm hl1,?_⟩
 refine'⟨rfl,?_⟩
 refine b8 ?_
 refine bD (XR:=XF r d C R0) (ρ₀:=[("self",some (.ref r)),("octets",some (.bytes octets)),("error",none),("found",none)]) c hh hst hfr (List.cons_ne_nil _ _) (f7 (by law_side)) (by kernel_rfl) (by kernel_rfl) ?_ (fun e C' dd t' R' h=>?_) (fun e C' dd t' T R' h=>?_) (fun ρ₂ hρ=>?_)
 ·refine b8 ?_
  refine J0 (DB c hst hfr) (fun j ρ H=>ρ=([("self",some (.ref r)),("octets",some (.bytes octets)),("error",none),("found",none)]:b0)∧y0 r d K R0 (F++rest) [] H) 0 ⟨rfl,p,t,n,st,hd,cl,R,hK,by rw[← hE]⟩ ?_
  intro j ρ H hz90;refine oA (hz90) fun zq1 zq2=>?_;clear hz90;subst zq1;obtain⟨p,t,n,st,hd,cl,R,hK,hperm⟩:=zq2
  refine u0 hperm ?_
  refine q8 rfl ?_
  refine' b9 ?_
  refine' zp ?_
  refine' zN ?_
  exact Z4 c hh (hF R0 rest [] _ hl2 (by decide) ⟨p,t,n,st,hd,cl,R,hK,.refl _⟩) (by decide) (.refl _) (fun _ _ _ _ _ h=>h) (fun v H' hq=>hq.elim)
 ·obtain⟨_,_,_,_,_,_,rfl,_⟩:=h
  exact hC
 ·obtain⟨p,t,n,st,hd,cl,rfl,d0,x,ks,rfl,hx,hsub⟩:=h
  refine⟨_,by da_tab,?_⟩
  have c':=c.mark (e:=e)
  refine J2 ((hsub.cons_cons _).cons_cons _) ?_
  refine b8 ?_
  refine' J9 ?_ (by kernel_rfl)
  refine' zp ?_
  refine' zp ?_
  refine' zu ?_
  refine' d9 ?_
  refine' b8 ?_
  refine vZ (fx:=fx.mark e) hfr rfl (.refl _) ?_
  exact⟨rfl,d0,x,ks,p,t,n,st,hd,cl,rfl,hx,.refl _⟩
 ·exact oH (by rw[hρ];exact .tail _ (.tail _ (.head _)))
theorem wI{w:World}{r d p t:Addr}{n:Int}{st hd cl:AV}{octets:List UInt8}{e C d0 t' T gI:Addr}{x:Str}{ks:List Str}{R0:AH}(ho:I8 w.params C gI=true) (hx:G0 x) :
  c6 w 12 1594 [.ref r,.bytes octets] ((e,.exc C (some d0) t' (.ref T))::(T,.tb none)::(d0,.ns ks)::(t',.tup [.str x])::(r,.inst 1646 d)::(d,El p t n st hd cl e)::R0)
   (XO fun e' C' dd t'' R'=>e'=e∧C'=C∧dd=some d0∧t''=t'∧R'=(d0,.ns ks)::(t',.tup [.str x])::(r,.inst 1646 d)::(d,El p t n st hd cl e)::R0) (fun _ _=>False):=by
 refine f6 (X:=fun fx=>XB fx.L _) (d:=d1594) (dv:=[]) (eJ _) [] .nil rfl (aW _ _) (W0) (fun fx c hh hst hfr=>⟨?_,j2 c hst hfr⟩)
 refine v9 fun Q hQ=>?_
 refine(?_:Ex _ _ _ _ (_::_) _ _ _)
 refine' d3 ?_
 refine' d6 rfl ?_
 refine' zp ?_
 refine' zp ?_
 refine' g8 (by exact E7 _) ?_
 refine' zV ?_
 refine' b8 ?_
 refine x9 c hh ?_
 refine' zp ?_
 exact⟨e,C,some d0,t',_,fx.L,gI,rfl,⟨_,_,.out T,rfl⟩,ho,rfl,rfl,rfl,rfl,rfl⟩
theorem oJ{w:World}{r d p t:Addr}{n:Int}{st hd cl:AV}{e C d0 t' T gI:Addr}{x:Str}{ks:List Str}{R0:AH}(ho:I8 w.params C gI=true) (hx:G0 x) :
  c6 w 12 1601 [.ref r] ((e,.exc C (some d0) t' (.ref T))::(T,.tb none)::(d0,.ns ks)::(t',.tup [.str x])::(r,.inst 1646 d)::(d,El p t n st hd cl e)::R0)
   (XO fun e' C' dd t'' R'=>e'=e∧C'=C∧dd=some d0∧t''=t'∧R'=(d0,.ns ks)::(t',.tup [.str x])::(r,.inst 1646 d)::(d,El p t n st hd cl e)::R0) (fun _ _=>False):=by
 refine f6 (X:=fun fx=>XB fx.L _) (d:=d1601) (dv:=[]) (CJ _) [] .nil rfl (Ai _) (uY) (fun fx c hh hst hfr=>⟨?_,j2 c hst hfr⟩)
 refine v9 fun Q hQ=>?_
 refine(?_:Ex _ _ _ _ (_::_) _ _ _)
 refine' d3 ?_
 refine' d6 rfl ?_
 refine' zp ?_
 refine' zp ?_
 refine' g8 (by exact E7 _) ?_
 refine' zV ?_
 refine' b8 ?_
 refine x9 c hh ?_
 refine' zp ?_
 exact⟨e,C,some d0,t',_,fx.L,gI,rfl,⟨_,_,.out T,rfl⟩,ho,rfl,rfl,rfl,rfl,rfl⟩
theorem DO{α:Type}{b bs F pend fut:List α}(h:pend++fut=(b++bs)++F) (hl:b.length≤pend.length):∃rest,pend=b++rest∧rest++fut=bs++F:=by
 refine⟨pend.drop b.length,?_,?_⟩
 ·have e:=congrArg (List.take b.length) h
  rw[List.take_append_of_le_length hl,List.append_assoc,List.take_left] at e
  conv=>lhs;rw[← List.take_append_drop b.length pend]
  rw[e]
 ·have e:=congrArg (List.drop b.length) h
  rw[List.drop_append_of_le_length hl,List.append_assoc,List.drop_left] at e
  exact e
theorem AX{α:Type}{b bs F pend fut:List α}(h:pend++fut=(b++bs)++F) (hl:¬ b.length≤pend.length):∃u,b=pend++u∧u≠[]:=by
 refine⟨b.drop pend.length,?_,?_⟩
 ·have e:=congrArg (List.take pend.length) h
  rw[List.take_left,List.append_assoc,List.take_append_of_le_length (by exact MC hl)] at e
  conv=>lhs;rw[← List.take_append_drop pend.length b]
  rw[← e]
 ·intro e
  have:=congrArg List.length e
  rw[List.length_drop,List.length_nil] at this
  exact LN this hl
theorem FZ{w:World}{r d:Addr}{k:Nat}{K K₂:Kt}{B T F pend octets fut:List UInt8}{R0 H:AH}(hp:Path w r d k K B T K₂) (he:Ends w r d K₂ F) (hE:pend++octets++fut=B++F) (hf:fut≠[]∨F=[]) (hl1:pend.length+octets.length≤1000) (hl2:T.length≤400) (hS:y0 r d K R0 pend [] H) {Q:AV→AH→Prop}(hq:∀k' K' B' T₁ T' pend' H',T=T₁++T'→Path w r d k' K' B' T' K₂→pend'++fut=B'++F→pend'.length≤pend.length+octets.length→(k'=0∨pend'.length<B'.length)→y0 r d K' R0 pend' [] H'→Q (.bytes T₁) H'):c6 w 12 1594 [.ref r,.bytes octets] H (fun _ _=>False) Q:=by
 refine f6 (X:=fun fx=>XB fx.L (fun _ _ _ _ _=>False)) (d:=d1594) (dv:=[]) (eJ _) [] .nil rfl (aW _ _) (W0) (fun fx c hh hst hfr=>⟨?_,fun _ _ ⟨_,_,_,_,_,_,_,_,_,_,_,_,z⟩=>z.elim⟩)
 have restX:True:=trivial
 have fin:∀k' K' B' T₁ T' pend' H,T=T₁++T'→Path w r d k' K' B' T' K₂→pend'++fut=B'++F→pend'.length≤pend.length+octets.length→(k'=0∨pend'.length<B'.length)→y0 r d K' R0 pend' T₁ H→Ex w d1594.fi fx (XB fx.L (fun _ _ _ _ _=>False)) ((j5 d1594.stmt).drop 3) ([("self",some (.ref r)),("octets",some (.bytes octets)),("error",none),("found",none)]:b0) H
   (fun fl _ H'=>Q (QX fl) H'):=by
  intro k' K' B' T₁ T' pend' H hT hpp hE' hlp hk hz90;obtain⟨p,t,n,st,hd,cl,R,hK,hperm⟩:=hz90
  refine u0 hperm ?_
  have hTl:T₁.length≤400:=by
   have:=congrArg List.length hT
   rw[List.length_append] at this
   exact Jd this hl2
  refine b8 ?_
  refine' m6 (Cx.ok (by assumption)) ?_ rfl
  refine' zp ?_
  refine'⟨_,by da_tab,?_⟩
  refine' d9 ?_
  refine' zE ?_
  refine' b9 ?_
  refine' zp ?_
  refine' Dg (by assumption) (by law_side) (by da_tab) ?_
  refine'⟨rfl,?_⟩
  refine' zr ?_
  exact hq k' K' B' T₁ T' pend' _ hT hpp hE' hlp hk ⟨p,t,n,st,hd,cl,R,hK,.refl _⟩
 obtain⟨p,t,n,st,hd,cl,R,hK,hperm⟩:=hS
 refine u0 hperm ?_
 refine b8 ?_
 refine' B5 ?_
 refine' d6 rfl ?_
 refine' zp ?_
 refine' zp ?_
 refine' g8 (by exact x0) ?_
 refine' zF ?_
 refine' c7 ?_
 refine' zE ?_
 refine' b9 ?_
 refine' zp ?_
 refine' j7 (H':=[]) (d:=[]) (by assumption) ?_ (by law_side) (by kernel_rfl)
 refine' za ?_
 refine'⟨_,_,_,rfl,by law_side,by da_tab,by exact Jm hl1,?_⟩
 refine'⟨rfl,?_⟩
 refine b8 ?_
 refine bD (XR:=fun _ _ _ _ _=>False) (ρ₀:=[("self",some (.ref r)),("octets",some (.bytes octets)),("error",none),("found",none)]) c hh hst hfr (List.cons_ne_nil _ _) (f7 (by law_side)) (by kernel_rfl) (by kernel_rfl) ?_ (fun _ _ _ _ _ z=>z.elim) (fun _ _ _ _ _ _ z=>z.elim) (fun ρ₂ hρ=>?_)
 ·refine b8 ?_
  refine J0 (fun _ _ ⟨_,_,_,_,_,_,_,_,_,_,_,_,_,z⟩=>z.elim) (fun j ρ H=>ρ=([("self",some (.ref r)),("octets",some (.bytes octets)),("error",none),("found",none)]:b0)∧∃K' B' T₁ T' pend',Path w r d j K' B' T' K₂∧T=T₁++T'∧pend'++fut=B'++F∧pend'.length≤pend.length+octets.length∧y0 r d K' R0 pend' T₁ H) k ⟨rfl,K,B,[],T,pend++octets,hp,rfl,hE,by rw[List.length_append];exact Nat.le_refl _,p,t,n,st,hd,cl,R,hK,.refl _⟩ ?_
  intro j ρ H hz90;refine pN (hz90) fun zq1 K' B' T₁ T' pend' hp' hT hE' hl' zq2=>?_;clear hz90;subst zq1;obtain⟨p,t,n,st,hd,cl,R,hK,hperm⟩:=zq2
  have hS:y0 r d K' R0 pend' T₁ ((p,.ba pend')::(t,.ba T₁)::(r,.inst 1646 d)::(d,t7 p t n st hd cl)::(R++R0)):=⟨p,t,n,st,hd,cl,R,hK,.refl _⟩
  have hTl:T₁.length≤400:=by
   have:=congrArg List.length hT
   rw[List.length_append] at this
   exact Jd this hl2
  refine u0 hperm ?_
  refine q8 rfl ?_
  refine' b9 ?_
  refine' zp ?_
  refine' zN ?_
  cases hp' with
  | nil=>
   refine a9 c hh (by kernel_rfl) (he R0 pend' fut _ _ (by simpa using hE'.symm) hf hS _ fun H' hS3=>?_)
   refine x3 rfl ?_
   refine f8 ?_
   exact fin _ _ _ _ _ _ _ hT .nil hE' hl' (.inl rfl) hS3
  | @cons k' _ b add K₁ bs txt _ hg hw hpp=>
   by_cases hb:b.length≤pend'.length
   ·refine f9 (DO hE' hb) fun rest zq1 hE2=>?_;subst zq1
    refine a9 c hh (by kernel_rfl) (hg R0 rest T₁ _ (by rw[List.length_append] at hl';exact Kp hl1 hl') hTl hS _ fun H' hS3=>?_)
    refine M8 rfl ?_
    refine b8 ?_
    refine FY ?_
    refine f8 ?_
    exact⟨k',by exact Nat.le_refl _,rfl,K₁,bs,T₁++add,txt,rest,hpp,by rw[hT,List.append_assoc],hE2,by rw[List.length_append] at hl';exact Ku hl',hS3⟩
   ·refine f9 (AX hE' hb) fun u hu hne=>?_
    refine a9 c hh (by kernel_rfl) (hw R0 pend' u _ _ hu hne hS _ fun H' hS3=>?_)
    refine x3 rfl ?_
    refine f8 ?_
    exact fin _ _ _ _ _ _ _ hT (.cons hg hw hpp) hE' hl' (.inr (by rw[List.length_append];exact Lk hb)) hS3
 ·exact oH (by rw[hρ];exact .tail _ (.tail _ (.head _)))
theorem Ga{w:World}{f:FI}{fx:Fx}{X:AV→b0→AH→Prop}{t:Value→Value→Sem Value}{x y:AV}{ρ:b0}{H H':AH}{Q:AV→b0→AH→Prop}(hp:H.Perm H') (h:S9 w f fx X t x y ρ H' Q):S9 w f fx X t x y ρ H Q:=fun a b ra rb=>u0 hp (h a b ra rb)
theorem Z9{w:World}{r d pu:Addr}{k:Nat}{K K₂:Kt}{B T F octets fut:List UInt8}{R0 H:AH}{g m:Int}(hp:Path w r d k K B T K₂) (he:Ends w r d K₂ F) (hE:octets++fut=B++F) (hf:fut≠[]∨F=[]) (hl1:octets.length≤400) (hl2:T.length≤400) (hg:0≤g) (hm:0≤m) (hm2:m<2 ^ 30) (hk:k=0∨octets≠[]) (hfl:fut.length≤F.length) (hS:y0 r d K R0 [] [] H) {Q:AV→AH→Prop}(hq:∀pend g' m' H'',pend++fut=F→0≤g'→m≤m'→m'≤m+500→y0 r d K₂ R0 pend [] H''→Q (.bytes T) ((pu,.list [.int g',.int m'])::H'')):c6 w 14 1715 [.ref r,.bytes octets,.ref pu] ((pu,.list [.int g,.int m])::H) (fun _ _=>False) Q:=by
 refine c9 (d:=d1715) (dv:=[]) (CR _) [] .nil rfl (Ap _ _ _) (vI) (fun fx c hh=>?_)
 have restX:True:=trivial
 refine b8 ?_
 refine g9 hh ?_
 refine' j3 ?_
 refine' za ?_
 (refine'⟨?_,fun _=>?_⟩;focus (exact nb rfl))
 refine'⟨_,_,rfl,by law_side,by with_unfolding_all exact rfl,?_⟩
 refine' d8 ?_
 refine' zk ?_
 refine' d8 ?_
 refine' zk ?_
 refine' C1 ?_
 refine' d9 ?_
 refine b8 ?_
 refine J0 K8 (fun j ρ G=>∃(k':Nat) (K':Kt) (B' T₁ T' pend:List UInt8) (place:Nat) (g' m':Int) (co:Option AV) (H'':AH),Path w r d k' K' B' T' K₂∧T=T₁++T'∧pend++octets.drop place++fut=B'++F∧place≤octets.length+9∧pend.length≤place∧j=octets.length - place∧(k'=0∨pend.length<B'.length∨(place=0∧k'=k))∧0≤g'∧m≤m'∧m'≤m+place∧y0 r d K' R0 pend [] H''∧((pu,.list [.int g',.int m'])::H'').Sublist G∧ρ=([("reader",some (.ref r)),("octets",some (.bytes octets)),("purse",some (.ref pu)),("told",some (.bytes T₁)),("place",some (.int place)),("count",co)]:b0)) octets.length
  ⟨k,K,B,[],T,[],0,g,m,none,H,hp,rfl,hE,Nat.zero_le _,Nat.le_refl _,rfl,.inr (.inr ⟨rfl,rfl⟩),hg,by exact Int.le_refl _,by exact Nt,hS,.cons _ (.refl _),rfl⟩ ?_
 intro j ρ G hz90;obtain⟨k',K',B',T₁,T',pend,place,g',m',co,H'',hp',hT,hE',hpl,hpp,zq1,hst,hg',hm1,hm2',hS',hsub,zq2⟩:=hz90;subst zq1;subst zq2
 have hTl:=congrArg List.length hT
 rw[List.length_append] at hTl
 refine' D2 (by da_there) ?_
 refine H4 (fun ht=>?_) (fun ht=>?_)
 ·have ht:=of_decide_eq_true ht
  have ht2:place<octets.length:=by exact LO ht
  refine J2 hsub ?_
  obtain⟨p,t,n,st,hd,cl,R,hK,hperm⟩:=hS'
  have hS2:∀x,y0 r d K' (x::R0) pend [] (x::(p,.ba pend)::(t,.ba [])::(r,.inst 1646 d)::(d,t7 p t n st hd cl)::(R++R0)):=fun x=>⟨p,t,n,st,hd,cl,R,hK,(List.perm_middle (l₁:=(p,.ba pend)::(t,.ba [])::(r,.inst 1646 d)::(d,t7 p t n st hd cl)::R) (l₂:=R0) (a:=x)).symm⟩
  refine v9 fun Q2 hQ=>?_
  refine u0 (hperm.cons _) ?_
  refine b8 ?_
  refine' m6 (Cx.ok (by assumption)) ?_ rfl
  refine' c4 ?_
  refine' zp ?_
  refine' zc ?_
  refine a9 c hh (by kernel_rfl) (v6 hg' (by exact IV hm hm1) (by exact Pv hm2 ht2 hl1 hm2') (by decide) (by decide) (fun g2 v hg2 hv0 hv1=>?_))
  refine' y3 ?_
  refine'⟨_,by da_tab,?_⟩
  refine' d9 ?_
  refine' b8 ?_
  refine n5 hh ?_
  refine' j3 ?_
  refine' a8 ?_
  refine' c4 ?_
  refine' zp ?_
  refine' b9 ?_
  refine' zp ?_
  refine' zm ?_
  refine oE (Int.eq_ofNat_of_zero_le hv0) fun v zq1=>?_;subst zq1
  rw[dM _ _ _ (by exact Int.natCast_nonneg _) (by exact ML),show((place:Int)).toNat=place by exact Int.toNat_natCast _,show((place:Int)+(1+(v:Int))).toNat - place=1+v by exact MH]
  skip
  have hcut:octets.drop place=(octets.drop place).take (1+v)++octets.drop (place+(1+v)):=by rw[← List.drop_drop,List.take_append_drop]
  have hbl:((octets.drop place).take (1+v)).length≤octets.length - place∧((octets.drop place).take (1+v)).length≤1+v∧1≤((octets.drop place).take (1+v)).length:=by rw[List.length_take,List.length_drop];exact Lj ht2
  refine a9 c hh (by kernel_rfl) (FZ (fut:=octets.drop (place+(1+v))++fut) hp' he (by rw[← List.append_assoc,List.append_assoc pend,← hcut];exact hE') (hf.imp (fun h e=>h (List.append_eq_nil_iff.mp e).2) id) (by exact Ke hbl hl1 hpp) (by exact Lf hTl hl2) (hS2 _) (fun k3 K3 B3 T2 T3 pend3 H' hT3 hp3 hE3 hlp3 hst3 hS3=>?_))
  have hTl3:=congrArg List.length hT3
  rw[List.length_append] at hTl3
  obtain⟨p,t,n,st,hd,cl,R,hK,hperm⟩:=hS3
  have hperm2:H'.Perm ((pu,.list [.int g2,.int (m' + 1)])::(p,.ba pend3)::(t,.ba [])::(r,.inst 1646 d)::(d,t7 p t n st hd cl)::(R++R0)):=hperm.trans (by exact List.perm_middle (l₁:=(p,.ba pend3)::(t,.ba [])::(r,.inst 1646 d)::(d,t7 p t n st hd cl)::R) (l₂:=R0))
  refine Ga hperm2 ?_
  refine' r5 (by exact Kk hTl3 hTl hl2) ?_
  refine' za ?_
  (refine'⟨?_,fun _=>?_⟩;focus (exact nb rfl))
  refine'⟨_,_,rfl,by law_side,by with_unfolding_all exact rfl,?_⟩
  repeat (refine H3 c.ok (by da_tab) ?_)
  refine O8 ?_
  refine f8 ?_
  refine hQ _ _ _ ?_
  refine⟨octets.length - (place+(1+v)),by exact Kv hbl,k3,K3,B3,T₁++T2,T3,pend3,place+(1+v),g2,m' + 1,some (.int (1+(v:Int))),_,hp3,by rw[hT,hT3,List.append_assoc],by rw[List.append_assoc];exact hE3,by exact Kr hv1 hbl,by exact RP hbl hlp3 hpp,rfl,hst3.imp id Or.inl,hg2,by exact Ln hm1,by exact Pu hm2',⟨p,t,n,st,hd,cl,R,hK,.refl _⟩,?_,?_⟩
  ·law_side
  ·rw[show((place+(1+v):Nat):Int)=(place:Int)+(1+(v:Int)) by rfl]
 ·have ht:=of_decide_eq_false ht
  have hd:octets.drop place=[]:=List.drop_eq_nil_of_le (by exact MB ht)
  rw[hd,List.append_nil] at hE'
  have hk':k'=0:=by
   rcases hst with h |h | ⟨h,h2⟩
   ·exact h
   ·have:=congrArg List.length hE'
    rw[List.length_append,List.length_append] at this
    exact Kd this h hfl
   ·rcases hk with h3 |h3
    ·exact Mq h3 h2
    ·exact absurd (List.eq_nil_of_length_eq_zero (by exact Mr h ht)) h3
  subst hk'
  cases hp'
  rw[List.append_nil] at hT
  subst hT
  refine b8 ?_
  refine w8 ?_
  refine m7 c.ok (by law_side) rfl ?_
  exact⟨_,hsub,hq pend g' m' H'' hE' hg' hm1 (by exact Pw hl1 hpl hm2') hS'⟩
theorem w7{w:World}{s ds h dh hx o tb of:Addr}{most size:Int}{last:Bool}{kind:Int}{H:AH}(h1:In1 s (.inst 1560 ds) H) (h2:In1 ds (G1 hx most o tb of) H) (h3:In1 h (.inst 1467 dh) H) (h4:In1 dh (cG last kind size) H)
  (hk:kind≠3) (hm:size≤most) {Q:AV→AH→Prop}(hq:Q (.int (if kind=1 then 1 else size)) H):c6 w 1 1515 [.ref s,.ref h] H (fun _ _=>False) Q:=by
 refine c9 (d:=d1515) (dv:=[]) (eF _) [] .nil rfl (aU _ _) (V8) (fun fx c hh=>?_)
 refine(?_:Ex _ _ _ _ (_::_) _ _ _)
 refine' d3 ?_
 refine' d6 rfl ?_
 refine' d1 ?_
 refine' zp ?_
 refine' zg ?_
 refine' zp ?_
 refine' T9 ?_
 refine' x3 (by(refine GY ?_;assumption)) ?_
 refine' c7 ?_
 refine' d3 ?_
 refine' d6 rfl ?_
 refine' d1 ?_
 refine' zp ?_
 refine' zg ?_
 refine' d1 ?_
 refine' zp ?_
 refine' zg ?_
 refine' N9 ?_
 refine' x3 (by(refine decide_eq_false ?_;exact Lo hm)) ?_
 refine' c7 ?_
 refine' g5 ?_
 refine' z8 ?_
 refine' d6 rfl ?_
 refine' d1 ?_
 refine' zp ?_
 refine' zg ?_
 refine' zp ?_
 refine' T9 ?_
 by_cases hk1:kind=1
 ·refine' M8 (by(refine QW ?_;assumption)) ?_
  refine' zp ?_
  rw[if_pos hk1] at hq
  exact⟨_,.refl _,hq⟩
 ·refine' x3 (by(refine GY ?_;assumption)) ?_
  refine' d1 ?_
  refine' zp ?_
  refine' zg ?_
  rw[if_neg hk1] at hq
  exact⟨_,.refl _,hq⟩
theorem gX{w:World}{s ds h dh hx o tb of:Addr}{most size:Int}{last:Bool}{H R:AH}(h1:In1 s (.inst 1560 ds) H) (h2:In1 ds (G1 hx most o tb of) H) (h3:In1 h (.inst 1467 dh) H) (h4:In1 dh (cG last 3 size) H)
  (hR:R.Sublist H):c6 w 4 1515 [.ref s,.ref h] H (XO (XS 64 R)) (fun _ _=>False):=by
 refine f6 (X:=fun fx=>XB fx.L _) (d:=d1515) (dv:=[]) (eF _) [] .nil rfl (aU _ _) (V8) (fun fx c hh hst hfr=>⟨?_,j2 c hst hfr⟩)
 refine v9 fun Q hQ=>?_
 refine(?_:Ex _ _ _ _ (_::_) _ _ _)
 refine' d3 ?_
 refine' d6 rfl ?_
 refine' d1 ?_
 refine' zp ?_
 refine' zg ?_
 refine' zp ?_
 refine' T9 ?_
 refine' zV ?_
 refine' b8 ?_
 refine x9 c hh ?_
 refine' zc ?_
 exact C9 c hh (gI:=36) (by kernel_rfl) (nb rfl) (fun e t=>H6 (gI:=36) (by kernel_rfl) (by kernel_rfl) ⟨by decide,C8 _⟩) (by decide) hR
theorem fU{w:World}{s ds h dh hx o tb of:Addr}{last:Bool}{H R:AH}(h1:In1 s (.inst 1560 ds) H) (h2:In1 ds (G1 hx 1024 o tb of) H) (h3:In1 h (.inst 1467 dh) H) (h4:In1 dh (cG last 0 1025) H)
  (hR:R.Sublist H):c6 w 5 1515 [.ref s,.ref h] H (XO (XS 255 R)) (fun _ _=>False):=by
 refine f6 (X:=fun fx=>XB fx.L _) (d:=d1515) (dv:=[]) (eF _) [] .nil rfl (aU _ _) (V8) (fun fx c hh hst hfr=>⟨?_,j2 c hst hfr⟩)
 refine v9 fun Q hQ=>?_
 refine(?_:Ex _ _ _ _ (_::_) _ _ _)
 refine' d3 ?_
 refine' d6 rfl ?_
 refine' d1 ?_
 refine' zp ?_
 refine' zg ?_
 refine' zp ?_
 refine' T9 ?_
 refine' zF ?_
 refine' c7 ?_
 refine' d3 ?_
 refine' d6 rfl ?_
 refine' d1 ?_
 refine' zp ?_
 refine' zg ?_
 refine' d1 ?_
 refine' zp ?_
 refine' zg ?_
 refine' N9 ?_
 refine' zV ?_
 refine' b8 ?_
 refine x9 c hh ?_
 refine' zv ?_
 refine' a8 ?_
 refine' zp ?_
 refine' a8 ?_
 refine' d1 ?_
 refine' zp ?_
 refine' zg ?_
 refine' a8 ?_
 refine' d1 ?_
 refine' zp ?_
 refine' zg ?_
 refine' za ?_
 exact C9 c hh (gI:=252) (by kernel_rfl) (nb rfl) (fun e t=>P5 wG) (by decide) hR
theorem aA{w:World}{s ds hx dx o tb of h dh:Addr}{most win size:Int}  {ck sg last:Bool}{out content:List UInt8}{R:AH}(hl1:out.length≤1000) (hl2:content.length≤1000) {Q:AV→AH→Prop}(hq:Q (.bytes (content)) ((o,.ba (out++(content)))::(s,.inst 1560 ds)::(ds,G1 hx most o tb of)::(hx,.inst 1418 dx)::(dx,M9 win .none ck sg)::(h,.inst 1467 dh)::(dh,cG last 0 size)::R)):c6 w 1 1522 [.ref s,.ref h,.bytes content] ((o,.ba out)::(s,.inst 1560 ds)::(ds,G1 hx most o tb of)::(hx,.inst 1418 dx)::(dx,M9 win .none ck sg)::(h,.inst 1467 dh)::(dh,cG last 0 size)::R) (fun _ _=>False) Q:=by
 refine c9 (d:=d1522) (dv:=[]) (Y6 _) [] .nil rfl (Q7 _ _ _) (K4) (fun fx c hh=>?_)
 refine(?_:Ex _ _ _ _ (_::_) _ _ _)
 refine' zs ?_
 refine' zT ?_
 refine' zE ?_
 refine' b9 ?_
 refine' zp ?_
 refine' j7 (H':=[]) (d:=[]) (by assumption) ?_ (by law_side) (by kernel_rfl)
 refine' za ?_
 refine'⟨_,_,_,rfl,by law_side,by da_tab,by exact Gj hl2 hl1,?_⟩
 refine'⟨rfl,?_⟩
 refine' c7 ?_
 refine' d3 ?_
 refine' v8 ?_
 refine' x7 ?_
 refine' d6 rfl ?_
 refine' zp ?_
 refine' zp ?_
 refine' g8 (by exact x0) ?_
 refine' zF ?_
 refine' c7 ?_
 refine' g5 ?_
 refine' zt ?_
 refine' a8 ?_
 refine' m5 ?_
 refine' zp ?_
 refine' r4 ?_
 refine' zp ?_
 refine'⟨_,rfl,?_⟩
 refine' r3 ?_
 refine' H1 (by law_side) (by(simp only[X0,X6,X7,X8,X9];exact Gj hl2 hl1)) (fun _=>?_) (by intro _ _;kernel_rfl)
 refine' za ?_
 rw[C7 _ _ (by exact Int.natCast_nonneg _),show((out.length:Int)).toNat=out.length by exact Int.toNat_natCast _,List.drop_left]
 refine' i0 (by law_side) (by exact Eo hl2) ?_
 exact⟨_,.cons _ (.refl _),hq⟩
theorem I4{w:World}{s ds hx dx o tb of h dh:Addr}{most win size:Int}{sz:Nat}{ck sg last:Bool}{out content:List UInt8}{R:AH}(hl1:out.length≤1000) (hl2:content.length≤1000) (hsz:out.length+content.length≤sz) {Q:AV→AH→Prop}(hq:Q (.bytes (content)) ((o,.ba (out++(content)))::(s,.inst 1560 ds)::(ds,G1 hx most o tb of)::(hx,.inst 1418 dx)::(dx,M9 win (.int sz) ck sg)::(h,.inst 1467 dh)::(dh,cG last 0 size)::R)):c6 w 1 1522 [.ref s,.ref h,.bytes content] ((o,.ba out)::(s,.inst 1560 ds)::(ds,G1 hx most o tb of)::(hx,.inst 1418 dx)::(dx,M9 win (.int sz) ck sg)::(h,.inst 1467 dh)::(dh,cG last 0 size)::R) (fun _ _=>False) Q:=by
 refine c9 (d:=d1522) (dv:=[]) (Y6 _) [] .nil rfl (Q7 _ _ _) (K4) (fun fx c hh=>?_)
 refine(?_:Ex _ _ _ _ (_::_) _ _ _)
 refine' zs ?_
 refine' zT ?_
 refine' zE ?_
 refine' b9 ?_
 refine' zp ?_
 refine' j7 (H':=[]) (d:=[]) (by assumption) ?_ (by law_side) (by kernel_rfl)
 refine' za ?_
 refine'⟨_,_,_,rfl,by law_side,by da_tab,by exact Gj hl2 hl1,?_⟩
 refine'⟨rfl,?_⟩
 refine' c7 ?_
 refine' d3 ?_
 refine' v8 ?_
 refine' x7 ?_
 refine' d6 rfl ?_
 refine' zp ?_
 refine' zp ?_
 refine' g8 (by exact fP _) ?_
 refine' zV ?_
 refine' x7 ?_
 refine' D2 (by da_there) ?_
 refine' x3 (by(refine decide_eq_false ?_;(simp only[X0,X6,X7,X8,X9];exact Ja hsz))) ?_
 refine' c7 ?_
 refine' g5 ?_
 refine' zt ?_
 refine' a8 ?_
 refine' m5 ?_
 refine' zp ?_
 refine' r4 ?_
 refine' zp ?_
 refine'⟨_,rfl,?_⟩
 refine' r3 ?_
 refine' H1 (by law_side) (by(simp only[X0,X6,X7,X8,X9];exact Gj hl2 hl1)) (fun _=>?_) (by intro _ _;kernel_rfl)
 refine' za ?_
 rw[C7 _ _ (by exact Int.natCast_nonneg _),show((out.length:Int)).toNat=out.length by exact Int.toNat_natCast _,List.drop_left]
 refine' i0 (by law_side) (by exact Eo hl2) ?_
 exact⟨_,.cons _ (.refl _),hq⟩
theorem aB{w:World}{s ds hx dx o tb of h dh:Addr}{most win size:Int}  {ck sg last:Bool}{out content:List UInt8}{R:AH}(hl1:out.length≤1000) (hl2:content.length≤1000) (hne:content≠[]) (hs1:1≤size) (hs2:size≤1000) (hl3:(List.replicate size.toNat content).flatten.length≤1000) {Q:AV→AH→Prop}(hq:Q (.bytes ((List.replicate size.toNat content).flatten)) ((o,.ba (out++((List.replicate size.toNat content).flatten)))::(s,.inst 1560 ds)::(ds,G1 hx most o tb of)::(hx,.inst 1418 dx)::(dx,M9 win .none ck sg)::(h,.inst 1467 dh)::(dh,cG last 1 size)::R)):c6 w 1 1522 [.ref s,.ref h,.bytes content] ((o,.ba out)::(s,.inst 1560 ds)::(ds,G1 hx most o tb of)::(hx,.inst 1418 dx)::(dx,M9 win .none ck sg)::(h,.inst 1467 dh)::(dh,cG last 1 size)::R) (fun _ _=>False) Q:=by
 refine c9 (d:=d1522) (dv:=[]) (Y6 _) [] .nil rfl (Q7 _ _ _) (K4) (fun fx c hh=>?_)
 refine(?_:Ex _ _ _ _ (_::_) _ _ _)
 refine' zs ?_
 refine' yE (by da_there) (by da_there) ?_
 refine' zT ?_
 refine' zE ?_
 refine' b9 ?_
 refine' zp ?_
 refine' j7 (H':=[]) (d:=[]) (by assumption) ?_ (by law_side) (by kernel_rfl)
 refine' a8 ?_
 refine' c4 ?_
 refine' zp ?_
 refine' zp ?_
 refine nY hne hs1 (by assumption) (by assumption) ?_
 refine' za ?_
 refine'⟨_,_,_,rfl,by law_side,by da_tab,by exact Gj hl3 hl1,?_⟩
 refine'⟨rfl,?_⟩
 refine' c7 ?_
 refine' c7 ?_
 refine' d3 ?_
 refine' v8 ?_
 refine' x7 ?_
 refine' d6 rfl ?_
 refine' zp ?_
 refine' zp ?_
 refine' g8 (by exact x0) ?_
 refine' zF ?_
 refine' c7 ?_
 refine' g5 ?_
 refine' zt ?_
 refine' a8 ?_
 refine' m5 ?_
 refine' zp ?_
 refine' r4 ?_
 refine' zp ?_
 refine'⟨_,rfl,?_⟩
 refine' r3 ?_
 refine' H1 (by law_side) (by(simp only[X0,X6,X7,X8,X9];exact Gj hl3 hl1)) (fun _=>?_) (by intro _ _;kernel_rfl)
 refine' za ?_
 rw[C7 _ _ (by exact Int.natCast_nonneg _),show((out.length:Int)).toNat=out.length by exact Int.toNat_natCast _,List.drop_left]
 refine' i0 (by law_side) (by exact Eo hl3) ?_
 exact⟨_,.cons _ (.refl _),hq⟩
theorem U7{w:World}{s ds hx dx o tb of h dh:Addr}{most win size:Int}{sz:Nat}{ck sg last:Bool}{out content:List UInt8}{R:AH}(hl1:out.length≤1000) (hl2:content.length≤1000) (hne:content≠[]) (hs1:1≤size) (hs2:size≤1000) (hl3:(List.replicate size.toNat content).flatten.length≤1000) (hsz:out.length+(List.replicate size.toNat content).flatten.length≤sz) {Q:AV→AH→Prop}(hq:Q (.bytes ((List.replicate size.toNat content).flatten)) ((o,.ba (out++((List.replicate size.toNat content).flatten)))::(s,.inst 1560 ds)::(ds,G1 hx most o tb of)::(hx,.inst 1418 dx)::(dx,M9 win (.int sz) ck sg)::(h,.inst 1467 dh)::(dh,cG last 1 size)::R)):c6 w 1 1522 [.ref s,.ref h,.bytes content] ((o,.ba out)::(s,.inst 1560 ds)::(ds,G1 hx most o tb of)::(hx,.inst 1418 dx)::(dx,M9 win (.int sz) ck sg)::(h,.inst 1467 dh)::(dh,cG last 1 size)::R) (fun _ _=>False) Q:=by
 refine c9 (d:=d1522) (dv:=[]) (Y6 _) [] .nil rfl (Q7 _ _ _) (K4) (fun fx c hh=>?_)
 refine(?_:Ex _ _ _ _ (_::_) _ _ _)
 refine' zs ?_
 refine' yE (by da_there) (by da_there) ?_
 refine' zT ?_
 refine' zE ?_
 refine' b9 ?_
 refine' zp ?_
 refine' j7 (H':=[]) (d:=[]) (by assumption) ?_ (by law_side) (by kernel_rfl)
 refine' a8 ?_
 refine' c4 ?_
 refine' zp ?_
 refine' zp ?_
 refine nY hne hs1 (by assumption) (by assumption) ?_
 refine' za ?_
 refine'⟨_,_,_,rfl,by law_side,by da_tab,by exact Gj hl3 hl1,?_⟩
 refine'⟨rfl,?_⟩
 refine' c7 ?_
 refine' c7 ?_
 refine' d3 ?_
 refine' v8 ?_
 refine' x7 ?_
 refine' d6 rfl ?_
 refine' zp ?_
 refine' zp ?_
 refine' g8 (by exact fP _) ?_
 refine' zV ?_
 refine' x7 ?_
 refine' D2 (by da_there) ?_
 refine' x3 (by(refine decide_eq_false ?_;(simp only[X0,X6,X7,X8,X9];exact Ja hsz))) ?_
 refine' c7 ?_
 refine' g5 ?_
 refine' zt ?_
 refine' a8 ?_
 refine' m5 ?_
 refine' zp ?_
 refine' r4 ?_
 refine' zp ?_
 refine'⟨_,rfl,?_⟩
 refine' r3 ?_
 refine' H1 (by law_side) (by(simp only[X0,X6,X7,X8,X9];exact Gj hl3 hl1)) (fun _=>?_) (by intro _ _;kernel_rfl)
 refine' za ?_
 rw[C7 _ _ (by exact Int.natCast_nonneg _),show((out.length:Int)).toNat=out.length by exact Int.toNat_natCast _,List.drop_left]
 refine' i0 (by law_side) (by exact Eo hl3) ?_
 exact⟨_,.cons _ (.refl _),hq⟩
theorem S5{i:Int}(h0:0≤i) (h:i<2 ^ 40):i.natAbs.log2<1920:=by
 by_cases e:i.natAbs=0
 ·rw[e];decide
 ·refine(Nat.log2_lt e).mpr (Nat.lt_of_lt_of_le (by exact MU h0 h:i.natAbs<2 ^ 40) (Nat.pow_le_pow_right (by decide) (by decide)))
theorem oK{w:World}{e t:Addr}{a b:Int}{vs:List AV}{R:AH}(ha0:0≤a) (ha1:a<2 ^ 40) (hb0:0≤b) (hb1:b<2 ^ 40):c6 w 3 195 [.ref e,.str "content",.int a,.int b] ((e,.exc 198 none t .none)::(t,.tup vs)::R) (fun _ _=>False)
  (fun r H'=>r=.none∧∃d t x ks,G0 x∧H'=IT e 198 d t x ks R):=by
 have ha:=S5 ha0 ha1
 have hb:=S5 hb0 hb1
 have la:=int_text_len_1921 ha
 have lb:=int_text_len_1921 hb
 have l0:(Str.ofString "size of ").length=8:=by decide
 have l1:(Str.ofString "content").length=7:=by decide
 have l2:(Str.ofString ": told ").length=7:=by decide
 have l3:(Str.ofString ", found ").length=8:=by decide
 have l9:Str.empty.length=0:=by decide
 refine P5 (J3 (O0 (d:=d195) (dv:=[]) (Fa _) [] .nil rfl (Ce _ _ _ _) (yZ) (fun fx c hh=>?_)))
 refine b8 ?_
 refine' dG ?_ (by kernel_rfl) (by kernel_rfl)
 refine' b9 ?_
 refine' zp ?_
 refine' nP (by assumption) (dL (by law_side)) ?_ (by kernel_rfl) (by intro _;kernel_rfl)
 refine' a8 ?_
 refine' zp ?_
 refine' a8 ?_
 refine' S0 ?_
 refine' q9 ?_
 refine' zp ?_
 refine'⟨_,rfl,?_⟩
 refine⟨by simp only[j0];exact Me l9 l0,?_⟩
 refine' q9 ?_
 refine' I2 ?_
 refine' zp ?_
 refine nR (by exact Ob l1) ?_
 refine⟨_,rfl,by simp only[j0];exact KY l9 l1 l0,?_⟩
 refine' q9 ?_
 refine' zp ?_
 refine'⟨_,rfl,?_⟩
 refine⟨by simp only[j0];exact Kx l9 l1 l2 l0,?_⟩
 refine' q9 ?_
 refine' I2 ?_
 refine' zp ?_
 refine K7 ha ?_
 refine⟨_,rfl,by simp only[j0];exact Kj l9 l1 l2 l0 la,?_⟩
 refine' q9 ?_
 refine' zp ?_
 refine'⟨_,rfl,?_⟩
 refine⟨by simp only[j0];exact RR l9 l1 l2 l0 l3 la,?_⟩
 refine' q9 ?_
 refine' I2 ?_
 refine' zp ?_
 refine K7 hb ?_
 refine⟨_,rfl,by simp only[j0];exact IW l9 l1 l2 l0 l3 la lb,?_⟩
 refine nS (by simp only[j0];exact IW l9 l1 l2 l0 l3 la lb) ?_
 refine' za ?_
 refine a9 c hh (by kernel_rfl) (E9 (gI:=195) (by kernel_rfl) (by kernel_rfl) (fun d' t'=>?_))
 refine'⟨rfl,?_⟩
 refine' d9 ?_
 refine' zC ?_
 refine' zp ?_
 refine' zp ?_
 refine I1 c (by law_side) (by law_side) (by da_tab) (by decide) (by kernel_rfl) ?_
 refine' zC ?_
 refine' zp ?_
 refine' zp ?_
 refine I1 c (by law_side) (by law_side) (by da_tab) (by decide) (by kernel_rfl) ?_
 refine' zC ?_
 refine' zp ?_
 refine' zp ?_
 refine I1 c (by law_side) (by law_side) (by da_tab) (by decide) (by kernel_rfl) ?_
 refine' f8 ?_
 refine⟨_,.refl _,rfl,_,_,_,_,⟨by simp only[j0];exact RN l9 l1 l2 l0 l3 la lb,?_⟩,rfl⟩
 repeat (first |exact C8 _ |exact H5 |refine S4 ?_ ?_)
theorem gY{w:World}{e t:Addr}{a b:Int}{vs:List AV}{R:AH}(ha0:0≤a) (ha1:a<2 ^ 40) (hb0:0≤b) (hb1:b<2 ^ 40):c6 w 3 176 [.ref e,.str "xxh64",.int a,.int b] ((e,.exc 179 none t .none)::(t,.tup vs)::R) (fun _ _=>False)
  (fun r H'=>r=.none∧∃d t x ks,G0 x∧H'=IT e 179 d t x ks R):=by
 have ha:=S5 ha0 ha1
 have hb:=S5 hb0 hb1
 have la:=int_text_len_1921 ha
 have lb:=int_text_len_1921 hb
 have l0:(Str.ofString "xxh64").length=5:=by decide
 have l1:(Str.ofString ": told ").length=7:=by decide
 have l2:(Str.ofString ", found ").length=8:=by decide
 have l9:Str.empty.length=0:=by decide
 refine P5 (J3 (O0 (d:=d176) (dv:=[]) (EZ _) [] .nil rfl (Cd _ _ _ _) (yY) (fun fx c hh=>?_)))
 refine b8 ?_
 refine' dG ?_ (by kernel_rfl) (by kernel_rfl)
 refine' b9 ?_
 refine' zp ?_
 refine' nP (by assumption) (dL (by law_side)) ?_ (by kernel_rfl) (by intro _;kernel_rfl)
 refine' a8 ?_
 refine' zp ?_
 refine' a8 ?_
 refine' S0 ?_
 refine' q9 ?_
 refine' I2 ?_
 refine' zp ?_
 refine nR (by exact Oa l0) ?_
 refine⟨_,rfl,by simp only[j0];exact Md l9 l0,?_⟩
 refine' q9 ?_
 refine' zp ?_
 refine'⟨_,rfl,?_⟩
 refine⟨by simp only[j0];exact KX l9 l0 l1,?_⟩
 refine' q9 ?_
 refine' I2 ?_
 refine' zp ?_
 refine K7 ha ?_
 refine⟨_,rfl,by simp only[j0];exact Kw l9 l0 l1 la,?_⟩
 refine' q9 ?_
 refine' zp ?_
 refine'⟨_,rfl,?_⟩
 refine⟨by simp only[j0];exact Ki l9 l0 l1 l2 la,?_⟩
 refine' q9 ?_
 refine' I2 ?_
 refine' zp ?_
 refine K7 hb ?_
 refine⟨_,rfl,by simp only[j0];exact IX l9 l0 l1 l2 lb la,?_⟩
 refine nS (by simp only[j0];exact IX l9 l0 l1 l2 lb la) ?_
 refine' za ?_
 refine a9 c hh (by kernel_rfl) (E9 (gI:=176) (by kernel_rfl) (by kernel_rfl) (fun d' t'=>?_))
 refine'⟨rfl,?_⟩
 refine' d9 ?_
 refine' zC ?_
 refine' zp ?_
 refine' zp ?_
 refine I1 c (by law_side) (by law_side) (by da_tab) (by decide) (by kernel_rfl) ?_
 refine' zC ?_
 refine' zp ?_
 refine' zp ?_
 refine I1 c (by law_side) (by law_side) (by da_tab) (by decide) (by kernel_rfl) ?_
 refine' zC ?_
 refine' zp ?_
 refine' zp ?_
 refine I1 c (by law_side) (by law_side) (by da_tab) (by decide) (by kernel_rfl) ?_
 refine' f8 ?_
 refine⟨_,.refl _,rfl,_,_,_,_,⟨by simp only[j0];exact RQ l9 l0 l1 l2 lb la,?_⟩,rfl⟩
 repeat (first |exact C8 _ |exact H5 |refine S4 ?_ ?_)
theorem cI{w:World}{x d:Addr}{R:AH}{Q:AV→AH→Prop}(hq:Q .none R):c6 w 1 1250 [.ref x] ((x,.inst 1281 d)::(d,.dict [])::R) (fun _ _=>False) Q:=by
 refine c9 (d:=d1250) (dv:=[.none,.none,.none]) (Cy _) qC (.cons .none (.cons .none (.cons .none .nil))) rfl (Aa _ _ _ _) (uQ) (fun fx c hh=>?_)
 refine(?_:Ex _ _ _ _ (_::_) _ _ _)
 refine' zn ?_
 refine' zn ?_
 refine' zn ?_
 refine' zC ?_
 refine' w9 ?_
 refine' za ?_
 (refine'⟨?_,fun _=>?_⟩;focus (exact nb rfl))
 refine' zp ?_
 refine' zw ?_
 refine' f8 ?_
 exact⟨R,by law_side,hq⟩
theorem aC{w:World}{x d:Addr}{R:AH}{Q:AV→AH→Prop}(hq:Q .none R):c6 w 1 1336 [.ref x] ((x,.inst 1381 d)::(d,.dict [])::R) (fun _ _=>False) Q:=by
 refine c9 (d:=d1336) (dv:=[.int 1,.int 4,.int 8]) (Cz _) qD (.cons (.int _ _) (.cons (.int _ _) (.cons (.int _ _) .nil))) rfl (Ab _ _ _ _) (uR) (fun fx c hh=>?_)
 refine(?_:Ex _ _ _ _ (_::_) _ _ _)
 refine' d3 ?_
 refine' v8 ?_
 refine' M7 ?_
 refine' D2 (by da_there) ?_
 refine' zF ?_
 refine' M7 ?_
 refine' D2 (by da_there) ?_
 refine' zF ?_
 refine' M7 ?_
 refine' D2 (by da_there) ?_
 refine' zF ?_
 refine' I9 ?_
 refine' c7 ?_
 refine' zn ?_
 refine' zn ?_
 refine' zn ?_
 refine' f8 ?_
 exact⟨R,by law_side,hq⟩
theorem P6{w:World}{b:Nat}{k:Addr}{bs:List UInt8}{n:Nat}{H:AH}(hi:In1 k (.ba bs) H) (hz:bs.length≤1000) (hb:b+n≤bs.length) {Q:AV→AH→Prop}(hq:Q (.int (le ((bs.drop b).take n))) H):c6 w 1 431 [.ref k,.int b,.int n] H (fun _ _=>False) Q:=by
 refine c9 (d:=d431) (dv:=[]) (Fl _) [] .nil rfl (Cp _ _ _) (zP) (fun fx c hh=>?_)
 refine(?_:Ex _ _ _ _ (_::_) _ _ _)
 refine' zs ?_
 refine' b8 ?_
 refine nF c hh (f7 (by law_side)) (by kernel_rfl) ?_ (by intro _;kernel_rfl)
 refine' zp ?_
 refine⟨n,fun i ρ G=>∃at_,ρ=([("octets",some (.ref k)),("begin",some (.int b)),("count",some (.int n)),("found",some (.int (le ((bs.drop b).take i)))),("at",at_)]:b0)∧G=H,rfl,by exact Int.natCast_nonneg _,by exact KR hb hz,⟨none,rfl,rfl⟩,?_,?_⟩
 ·intro i ρ G I o hi' hz90;refine f9 (hz90) fun at_ zq1 zq2=>?_;clear hz90;subst zq1;subst zq2
  refine⟨_,by da_tab,?_⟩
  refine' zS ?_
  refine' c4 ?_
  refine' zp ?_
  refine' c4 ?_
  refine' i9 ?_
  refine' zp ?_
  refine' zp ?_
  refine W1 (.there hi) (by exact Eo hz) (by exact Int.natCast_nonneg _) (by exact Ko hb hi') ?_
  refine' zp ?_
  rw[Int.zero_add,show((b:Int)+(i:Int)).toNat=b+i by exact Int.toNat_natCast _,show bs.getD (b+i) 0=(bs.drop b).getD i 0 from by rw[List.getD_eq_getElem?_getD,List.getD_eq_getElem?_getD,List.getElem?_drop]]
  have hit:i<(bs.drop b).length:=by rw[List.length_drop];exact Ks hb hi'
  have hbt:=((bs.drop b).getD i 0).toNat_lt
  refine vS (by exact JS) (by exact Kq hb hi' hz) (by exact NE hbt) ?_
  refine' BR ?_
  refine'⟨_,by da_tab,?_⟩
  refine' f8 ?_
  exact⟨.inl rfl,_,by da_tab,_,by rw[yH _ i hit],rfl⟩
 ·intro ρ G hz90;refine f9 (hz90) fun at_ zq1 zq2=>?_;clear hz90;subst zq1;subst zq2
  refine' d9 ?_
  refine' zr ?_
  exact⟨_,.refl _,hq⟩
theorem Gb{w:World}{x d:Addr}{R:AH}{Q:AV→AH→Prop}(hq:∀l k,Q .none ((k,.ba [])::(x,.inst 484 d)::(d,.dict [("seed",.int 0),("lanes",.ref l),("kept",.ref k),("count",.int 0)])::R)):c6 w 1 453 [.ref x,.int 0] ((x,.inst 484 d)::(d,.dict [])::R) (fun _ _=>False) Q:=by
 refine c9 (d:=d453) (dv:=[]) (Fp _) [] .nil rfl (Cr _ _) (zR) (fun fx c hh=>?_)
 refine(?_:Ex _ _ _ _ (_::_) _ _ _)
 refine' zn ?_
 refine' zs ?_
 refine' zC ?_
 refine' w9 ?_
 refine' za ?_
 (refine'⟨?_,fun _=>?_⟩;focus (exact nb rfl))
 refine' zp ?_
 refine' zw ?_
 refine' zC ?_
 refine' I7 (by assumption) (f7 (by law_side)) (by kernel_rfl) rfl ?_
 refine' B0 (by assumption) (fun _=>?_)
 refine' zp ?_
 refine' zw ?_
 refine' zn ?_
 refine' f8 ?_
 exact⟨_,.cons_cons _ (.cons _ (.refl _)),hq _ _⟩
theorem Gc{w:World}{x d l k:Addr}{b:List UInt8}{R:AH}(hb:b.length<32) {Q:AV→AH→Prop}(hq:∀k',Q .none ((k',.ba b)::(x,.inst 484 d)::(d,.dict [("seed",.int 0),("lanes",.ref l),("kept",.ref k'),("count",.int b.length)])::R)):c6 w 1 460 [.ref x,.bytes b] ((k,.ba [])::(x,.inst 484 d)::(d,.dict [("seed",.int 0),("lanes",.ref l),("kept",.ref k),("count",.int 0)])::R) (fun _ _=>False) Q:=by
 refine c9 (d:=d460) (dv:=[]) (Fq _) [] .nil rfl (Cs _ _) (zU) (fun fx c hh=>?_)
 refine(?_:Ex _ _ _ _ (_::_) _ _ _)
 refine' zo ?_
 refine' zE ?_
 refine' b9 ?_
 refine' zp ?_
 refine' j7 (H':=[]) (d:=[]) (by assumption) ?_ (by law_side) (by kernel_rfl)
 refine' za ?_
 refine'⟨_,_,_,rfl,by law_side,by da_tab,by(simp only[List.length_nil];exact JC hb),?_⟩
 refine'⟨rfl,?_⟩
 refine' zs ?_
 refine' b8 ?_
 refine AR K8 ?_
 refine' D2 (by da_there) ?_
 refine' x3 (by(refine decide_eq_false ?_;(simp only[X0,X6,X7,X8,X9];exact NQ hb))) ?_
 refine'⟨rfl,?_⟩
 refine' d9 ?_
 refine' zC ?_
 refine' m5 ?_
 refine' zp ?_
 refine' r4 ?_
 refine' zp ?_
 refine'⟨_,rfl,?_⟩
 refine' r3 ?_
 refine' H1 (by law_side) (by(simp only[X0,X6,X7,X8,X9];exact JC hb)) (fun _=>?_) (by intro _ _;kernel_rfl)
 refine' zp ?_
 refine' zu ?_
 refine' f8 ?_
 rw[C7 _ _ (by decide),show(0:Int)+(b.length:Int)=b.length by exact OP]
 exact⟨_,.cons_cons _ (.cons _ (.cons_cons _ (.cons_cons _ (.refl _)))),hq _⟩
theorem y2{w:World}{H:AH}(v:Nat) (k:Int) (c:Nat) (hk:k=c) (hc:c≤64) (hv:v<M2) {Q:AV→AH→Prop}(hq:Q (.int (II v c:Nat)) H):c6 w 1 438 [.int v,.int k,.int 64] H (fun _ _=>False) Q:=by
 subst hk
 exact bG (w:=w) (H:=H) v c 64 (by exact Int.natCast_nonneg _) (by exact OG hc) (by decide) (by unfold M2 at hv;assumption) (by rw[DL _ _ hc];exact hq)
theorem AY{w:World}{self:AV}{v:Nat}{H:AH}(hv:v<M2) {Q:AV→AH→Prop}(hq:Q (.int (TF v:Nat)) H):c6 w 3 467 [self,.int 0,.int v] H (fun _ _=>False) Q:=by
 refine c9 (d:=d467) (dv:=[]) (Fs _) [] .nil rfl (Ct _ _ _) (zW) (fun fx c hh=>?_)
 refine(?_:Ex _ _ _ _ (_::_) _ _ _)
 refine' zs ?_
 refine' g5 ?_
 refine' c4 ?_
 refine' c4 ?_
 refine' zc ?_
 rw[Int.zero_add,iV,w5]
 skip
 refine a9 c hh (by kernel_rfl) (y2 _ _ 31 rfl (by decide) (Nat.mod_lt _ (by decide)) ?_)
 refine' zp ?_
 refine' x6 (.of_right (intBits_le_64 (by decide) (by decide))) ?_
 refine' zp ?_
 refine' j9 ?_
 refine wB ?_ hq
 rw[cE,w5];rfl
theorem DP{w:World}{x d k l:Addr}{n:Nat}{H:AH}(hi:In1 x (.inst 484 d) H) (hd:In1 d (.dict [("seed",.int 0),("lanes",.ref l),("kept",.ref k),("count",.int n)]) H) (hn:n<32) {Q:AV→AH→Prop}(hq:Q (.int X5) H):c6 w 1 474 [.ref x] H (fun _ _=>False) Q:=by
 refine c9 (d:=d474) (dv:=[]) (Ft _) [] .nil rfl (Cu _) (zX) (fun fx c hh=>?_)
 refine(?_:Ex _ _ _ _ (_::_) _ _ _)
 refine' d3 ?_
 refine' d6 rfl ?_
 refine' d1 ?_
 refine' zp ?_
 refine' zg ?_
 refine' zp ?_
 refine' xJ ?_
 refine' M8 (by(refine decide_eq_true ?_;exact NM hn)) ?_
 refine' g5 ?_
 refine' c4 ?_
 refine' c4 ?_
 refine' d1 ?_
 refine' zp ?_
 refine' zg ?_
 refine' zp ?_
 refine' y3 ?_
 refine' zp ?_
 refine' j9 ?_
 refine' n9 ?_
 exact⟨_,.refl _,hq⟩
theorem Hh(f x:Nat):h8 f x<M2:=Nat.mod_lt _ (by decide)
theorem Hi(f x:Nat):h4 f x<M2:=Nat.mod_lt _ (by decide)
theorem Hj(f x:Nat):h1 f x<M2:=Nat.mod_lt _ (by decide)
theorem IJ(x:Nat):TF x<M2:=Nat.mod_lt _ (by decide)
theorem IK(b:List UInt8):le (b.take 8)<M2:=by
 have h:=yF (b.take 8)
 have h2:(b.take 8).length≤8:=by rw[List.length_take];exact JW
 exact Nat.lt_of_lt_of_le h (Nat.pow_le_pow_right (by decide) (by exact OH h2):2 ^ (8*(b.take 8).length)≤2 ^ 64)
theorem DQ{w:World}{x d l k:Addr}{b:List UInt8}{R:AH}(hb:b.length<32) {Q:AV→AH→Prop}(hq:Q (.int (dO b:Nat)) R):c6 w 5 481 [.ref x] ((k,.ba b)::(x,.inst 484 d)::(d,.dict [("seed",.int 0),("lanes",.ref l),("kept",.ref k),("count",.int b.length)])::R) (fun _ _=>False) Q:=by
 refine c9 (d:=d481) (dv:=[]) (Fu _) [] .nil rfl (Cv _) (zY) (fun fx c hh=>?_)
 refine b8 ?_
 refine n5 hh ?_
 refine' j3 ?_
 refine' a8 ?_
 refine' c4 ?_
 refine' c4 ?_
 refine' b9 ?_
 refine' zp ?_
 refine' zN ?_
 refine a9 c hh (by kernel_rfl) (DP (.there .here) (.there (.there .here)) hb ?_)
 refine' zp ?_
 refine' y3 ?_
 refine' zp ?_
 refine' j9 ?_
 refine' za ?_
 (refine'⟨?_,fun _=>?_⟩;focus (exact nb rfl))
 refine'⟨_,_,rfl,by law_side,by with_unfolding_all exact rfl,?_⟩
 repeat (refine H3 c.ok (by da_tab) ?_)
 refine O8 ?_
 have restX:∀(F bg:Nat) (tp:AO) (ta:Addr),bg≤b.length→F<M2→t1 F (b.drop bg)=t8 ((X5+b.length)%M2) b→Ex w d481.fi fx (fun _ _ _=>False) ((j5 d481.stmt).drop 3) ([("self",some (.ref x)),("found",some (.int F)),("begin",some (.int bg)),("end",some (.int b.length)),("at",none)]:b0) ((ta,tp)::(k,.ba b)::(x,.inst 484 d)::(d,.dict [("seed",.int 0),("lanes",.ref l),("kept",.ref k),("count",.int b.length)])::R) (wA Q):=by
  intro F bg tp ta hbg hF hT
  refine b8 ?_
  refine fL c hh ?_ (by intro _;rfl)
  refine' zt ?_
  refine' za ?_
  refine AM (fun rr t u v=>?_)
  refine⟨rr,_,_,t,u,v,_,fun i ρ G=>∃(F:Nat) (at_:Option AV),F<M2∧t1 F (b.drop (bg+i))=t8 ((X5+b.length)%M2) b∧ρ=([("self",some (.ref x)),("found",some (.int F)),("begin",some (.int bg)),("end",some (.int b.length)),("at",at_)]:b0)∧G=(ta,tp)::(k,.ba b)::(x,.inst 484 d)::(d,.dict [("seed",.int 0),("lanes",.ref l),("kept",.ref k),("count",.int b.length)])::R,rfl,rfl,by exact Int.natCast_nonneg _,by exact Mm hbg,by exact NN hb,⟨F,none,hF,hT,rfl,rfl⟩,?_,?_⟩
  ·intro i ρ G I o hi hz90;refine aN (hz90) fun F at_ hF hT zq1 zq2=>?_;clear hz90;subst zq1;subst zq2
   refine⟨_,by da_tab,?_⟩
   dsimp only
   rw[show(bg:Int)+(i:Int)=((bg+i:Nat):Int) from(Int.natCast_add _ _).symm]
   have hi2:bg+i<b.length:=by exact Ld hi
   refine' zS ?_
   refine' c4 ?_
   refine' zp ?_
   refine' c4 ?_
   refine' c4 ?_
   refine' i9 ?_
   refine' zp ?_
   refine' zp ?_
   refine W1 (by law_side) (by exact HC hb) (by exact Int.natCast_nonneg _) (by exact KN hi2) ?_
   refine' zp ?_
   refine' x6 (.of_right (intBits_le_64 (by decide) (by decide))) ?_
   refine' zp ?_
   refine' j9 ?_
   refine' N8 ?_
   refine'⟨_,by da_tab,?_⟩
   refine' zS ?_
   refine' c4 ?_
   refine' c4 ?_
   refine' zc ?_
   rw[Hd,w5,J4]
   skip
   refine a9 c hh (by kernel_rfl) (y2 _ _ 11 rfl (by decide) (bF hF (Nat.mod_lt _ (by decide))) ?_)
   refine' zp ?_
   refine' x6 (.of_right (intBits_le_64 (by decide) (by decide))) ?_
   refine' zp ?_
   refine' j9 ?_
   refine'⟨_,by da_tab,?_⟩
   refine' f8 ?_
   rw[cE,w5]
   skip
   refine⟨.inl rfl,_,by da_tab,h1 F (b.getD (bg+i) 0).toNat,_,Hj _ _,?_,rfl,rfl⟩
   rw[← hT,List.drop_eq_getElem_cons hi2,t1,t1,List.foldl_cons]
   rw[List.getD_eq_getElem?_getD,List.getElem?_eq_getElem hi2,Option.getD_some];rfl
  ·intro ρ G hz90;refine aN (hz90) fun F at_ hF hT zq1 zq2=>?_;clear hz90;subst zq1;subst zq2
   have hT:F=t8 ((X5+b.length)%M2) b:=by rw[← hT,List.drop_eq_nil_of_le (by exact MM)];rfl
   refine' d9 ?_
   refine' zs ?_
   refine' zs ?_
   refine' zr ?_
   rw[I3,J4]
   skip
   rw[iV,w5]
   skip
   rw[I3,J4]
   skip
   rw[Hc,w5]
   skip
   rw[I3,J4]
   skip
   refine nZ (H₂:=R) (.cons _ (.cons _ (.cons _ (.cons _ (.refl _))))) ?_ hq
   rw[hT]
   rfl
 refine b8 ?_
 rw[show((X5:Nat):Int)+(b.length:Int)=((X5+b.length:Nat):Int) from(Int.natCast_add _ _).symm,w5]
 refine J0 K8 (fun q ρ' H'=>∃(F bg:Nat) (tp:AO) (ta:Addr),q=b.length - bg∧bg≤b.length∧F<M2∧t8 F (b.drop bg)=t8 ((X5+b.length)%M2) b∧ρ'=([("self",some (.ref x)),("found",some (.int F)),("begin",some (.int bg)),("end",some (.int b.length)),("at",none)]:b0)∧H'=(ta,tp)::(k,.ba b)::(x,.inst 484 d)::(d,.dict [("seed",.int 0),("lanes",.ref l),("kept",.ref k),("count",.int b.length)])::R) b.length ⟨_,0,_,_,rfl,Nat.zero_le _,Nat.mod_lt _ (by decide),rfl,rfl,rfl⟩ ?_
 intro q ρ' H' hz90;obtain⟨F,bg,tp,ta,zq1,hbg,hF,hT,zq2,zq3⟩:=hz90;subst zq1;subst zq2;subst zq3
 refine' D2 (by da_there) ?_
 refine H4 (fun ht=>?_) (fun ht=>?_)
 ·have ht:=of_decide_eq_true ht
  refine' zS ?_
  refine' c4 ?_
  refine' zp ?_
  refine' b9 ?_
  refine' zp ?_
  refine' zM ?_
  refine' a8 ?_
  refine' zp ?_
  refine' a8 ?_
  refine' zc ?_
  refine a9 c hh (by kernel_rfl) (P6 (b:=bg) (n:=8) (.there .here) (by exact JE hb) (by exact Jk ht) ?_)
  refine' za ?_
  refine a9 c hh (by kernel_rfl) (AY (IK _) ?_)
  refine' N8 ?_
  refine'⟨_,by da_tab,?_⟩
  refine' zS ?_
  refine' c4 ?_
  refine' c4 ?_
  refine' c4 ?_
  refine' zc ?_
  rw[J4]
  refine a9 c hh (by kernel_rfl) (y2 _ _ 27 rfl (by decide) (bF hF (IJ _)) ?_)
  refine' zp ?_
  refine' x6 (.of_right (intBits_le_64 (by decide) (by decide))) ?_
  refine' zp ?_
  refine' y3 ?_
  refine' zp ?_
  refine' j9 ?_
  refine'⟨_,by da_tab,?_⟩
  refine' zs ?_
  refine' f8 ?_
  rw[cE,He,w5]
  skip
  rw[show(bg:Int)+8=((bg+8:Nat):Int) from rfl]
  refine⟨_,?_,_,bg+8,_,_,rfl,by exact Jk ht,Hh F (le ((b.drop bg).take 8)),?_,rfl,rfl⟩
  ·exact LB ht
  ·rw[← hT,yI (b:=b.drop bg) (by rw[List.length_drop];exact LA ht),List.drop_drop]
 ·have ht:=of_decide_eq_false ht
  have hT4:t4 F (b.drop bg)=t8 ((X5+b.length)%M2) b:=by rw[← hT,yJ (by rw[List.length_drop];exact Mx ht)]
  refine b8 ?_
  refine B5 ?_
  refine' D2 (by da_there) ?_
  refine H4 (fun ht4=>?_) (fun ht4=>?_)
  ·have ht4:=of_decide_eq_true ht4
   refine' zS ?_
   refine' c4 ?_
   refine' zp ?_
   refine' c4 ?_
   refine' c4 ?_
   refine' zc ?_
   refine a9 c hh (by kernel_rfl) (P6 (b:=bg) (n:=4) (.there .here) (by exact JE hb) (by exact Jj ht4) ?_)
   refine' zp ?_
   refine' x6 (.of_right (intBits_le_64 (by decide) (by decide))) ?_
   refine' zp ?_
   refine' j9 ?_
   refine' N8 ?_
   refine'⟨_,by da_tab,?_⟩
   refine' zS ?_
   refine' c4 ?_
   refine' c4 ?_
   refine' c4 ?_
   refine' zc ?_
   rw[cE,w5,J4]
   skip
   refine a9 c hh (by kernel_rfl) (y2 _ _ 23 rfl (by decide) (bF hF (Nat.mod_lt _ (by decide))) ?_)
   refine' zp ?_
   refine' x6 (.of_right (intBits_le_64 (by decide) (by decide))) ?_
   refine' zp ?_
   refine' y3 ?_
   refine' zp ?_
   refine' j9 ?_
   refine'⟨_,by da_tab,?_⟩
   refine' zs ?_
   refine' c7 ?_
   rw[iV,Hf,w5]
   skip
   rw[show(bg:Int)+4=((bg+4:Nat):Int) from rfl]
   refine restX (h4 F (le ((b.drop bg).take 4))) (bg+4) _ _ (by exact Jj ht4) (Hi _ _) ?_
   rw[← hT4,t4,if_pos (by rw[List.length_drop];exact Lz ht4),List.drop_drop]
  ·have ht4:=of_decide_eq_false ht4
   refine' c7 ?_
   refine restX F bg _ _ hbg hF ?_
   rw[← hT4,t4,if_neg (by rw[List.length_drop];exact Mw ht4)]
theorem fV{w:World}{b:List UInt8}{R:AH}(hb:b.length<32) {Q:AV→AH→Prop}(hq:Q (.int (dO b:Nat)) R):c6 w 6 496 [.bytes b] R (fun _ _=>False) Q:=by
 refine c9 (d:=d496) (dv:=[.int 0]) (Fv _) xP (.cons (.int _ _) .nil) rfl (Cw _ _) (zZ) (fun fx c hh=>?_)
 refine(?_:Ex _ _ _ _ (_::_) _ _ _)
 refine' zS ?_
 refine' zc ?_
 refine g6 c hh (gI:=453) (by kernel_rfl) (by kernel_rfl) (fun x dx=>Gb (fun l k=>.mk ?_))
 refine'⟨_,by da_tab,?_⟩
 refine' zE ?_
 refine' b9 ?_
 refine' zp ?_
 refine' zm ?_
 refine a9 c hh (by kernel_rfl) (Gc hb (fun k'=>?_))
 refine'⟨rfl,?_⟩
 refine' g5 ?_
 refine' b9 ?_
 refine' zp ?_
 refine' zN ?_
 refine a9 c hh (by kernel_rfl) (DQ hb ?_)
 exact⟨_,.refl _,hq⟩
theorem U8{w:World}{s ds hx dx o tb of:Addr}{most win:Int}  {ck sg:Bool}{out:List UInt8}{H:AH}(hl:out.length≤1000) (h0:In1 o (.ba out) H) (h1:In1 s (.inst 1560 ds) H) (h2:In1 ds (G1 hx most o tb of) H) (h3:In1 hx (.inst 1418 dx) H) (h4:In1 dx (M9 win .none ck sg) H) {Q:AV→AH→Prop}(hq:Q .none H):c6 w 1 1550 [.ref s] H (fun _ _=>False) Q:=by
 refine c9 (d:=d1550) (dv:=[]) (eG _) [] .nil rfl (aV _) (V9) (fun fx c hh=>?_)
 refine(?_:Ex _ _ _ _ (_::_) _ _ _)
 refine' d3 ?_
 refine' v8 ?_
 refine' x7 ?_
 refine' d6 rfl ?_
 refine' d1 ?_
 refine' d1 ?_
 refine' zp ?_
 refine' zg ?_
 refine' zg ?_
 refine' zp ?_
 refine' g8 (by exact x0) ?_
 refine' zF ?_
 refine' c7 ?_
 refine' f8 ?_
 exact⟨_,.refl _,hq⟩
theorem U9{w:World}{s ds hx dx o tb of:Addr}{most win:Int}{sz:Nat}{ck sg:Bool}{out:List UInt8}{H:AH}(hl:out.length≤1000) (h0:In1 o (.ba out) H) (h1:In1 s (.inst 1560 ds) H) (h2:In1 ds (G1 hx most o tb of) H) (h3:In1 hx (.inst 1418 dx) H) (h4:In1 dx (M9 win (.int sz) ck sg) H) (hz:out.length=sz) {Q:AV→AH→Prop}(hq:Q .none H):c6 w 1 1550 [.ref s] H (fun _ _=>False) Q:=by
 refine c9 (d:=d1550) (dv:=[]) (eG _) [] .nil rfl (aV _) (V9) (fun fx c hh=>?_)
 refine(?_:Ex _ _ _ _ (_::_) _ _ _)
 refine' d3 ?_
 refine' v8 ?_
 refine' x7 ?_
 refine' d6 rfl ?_
 refine' d1 ?_
 refine' d1 ?_
 refine' zp ?_
 refine' zg ?_
 refine' zg ?_
 refine' zp ?_
 refine' g8 (by exact fP _) ?_
 refine' zV ?_
 refine' x7 ?_
 refine' d6 rfl ?_
 refine' zb ?_
 refine' a8 ?_
 refine' d1 ?_
 refine' zp ?_
 refine' zg ?_
 refine' za ?_
 refine' Q9 (by law_side) (by exact Eo hl) ?_
 refine' d1 ?_
 refine' d1 ?_
 refine' zp ?_
 refine' zg ?_
 refine' zg ?_
 refine' qA ?_
 refine' x3 (by(refine DE ?_;exact Mg hz)) ?_
 refine' c7 ?_
 refine' f8 ?_
 exact⟨_,.refl _,hq⟩
theorem oM{w:World}{s ds hx dx o tb of:Addr}{most win:Int}{sz:Nat}{ck sg:Bool}{out:List UInt8}{H R:AH}(hl:out.length≤1000) (hl2:sz≤1000) (h0:In1 o (.ba out) H) (h1:In1 s (.inst 1560 ds) H) (h2:In1 ds (G1 hx most o tb of) H) (h3:In1 hx (.inst 1418 dx) H) (h4:In1 dx (M9 win (.int sz) ck sg) H) (hz:out.length≠sz) (hR:R.Sublist H):c6 w 5 1550 [.ref s] H (XO (XS 198 R)) (fun _ _=>False):=by
 refine f6 (X:=fun fx=>XB fx.L _) (d:=d1550) (dv:=[]) (eG _) [] .nil rfl (aV _) (V9) (fun fx c hh hst hfr=>⟨?_,j2 c hst hfr⟩)
 refine v9 fun Q hQ=>?_
 refine(?_:Ex _ _ _ _ (_::_) _ _ _)
 refine' d3 ?_
 refine' v8 ?_
 refine' x7 ?_
 refine' d6 rfl ?_
 refine' d1 ?_
 refine' d1 ?_
 refine' zp ?_
 refine' zg ?_
 refine' zg ?_
 refine' zp ?_
 refine' g8 (by exact fP _) ?_
 refine' zV ?_
 refine' x7 ?_
 refine' d6 rfl ?_
 refine' zb ?_
 refine' a8 ?_
 refine' d1 ?_
 refine' zp ?_
 refine' zg ?_
 refine' za ?_
 refine' Q9 (by law_side) (by exact Eo hl) ?_
 refine' d1 ?_
 refine' d1 ?_
 refine' zp ?_
 refine' zg ?_
 refine' zg ?_
 refine' qA ?_
 refine' M8 (by(refine GZ ?_;exact Mj hz)) ?_
 refine' fB ?_
 refine' b8 ?_
 refine x9 c hh ?_
 refine' zv ?_
 refine' a8 ?_
 refine' zp ?_
 refine' a8 ?_
 refine' d1 ?_
 refine' d1 ?_
 refine' zp ?_
 refine' zg ?_
 refine' zg ?_
 refine' a8 ?_
 refine' zb ?_
 refine' a8 ?_
 refine' d1 ?_
 refine' zp ?_
 refine' zg ?_
 refine' za ?_
 refine' Q9 (by law_side) (by exact Eo hl) ?_
 refine' za ?_
 exact C9 c hh (gI:=195) (by kernel_rfl) (nb rfl) (fun e t=>oK (by exact Int.natCast_nonneg _) (by exact JK hl2) (by exact Int.natCast_nonneg _) (by exact JK hl)) (by decide) hR
theorem rH{w:World}{s ds hx o tb of:Addr}{most:Int}{out:List UInt8}{H:AH}(hl:out.length<32) (h0:In1 o (.ba out) H) (h1:In1 s (.inst 1560 ds) H) (h2:In1 ds (G1 hx most o tb of) H) {told:Int}(ht:told=(dO out%4294967296:Nat)) {Q:AV→AH→Prop}(hq:Q .none H):c6 w 7 1557 [.ref s,.int told] H (fun _ _=>False) Q:=by
 refine c9 (d:=d1557) (dv:=[]) (qI _) [] .nil rfl (iK _ _) (eH) (fun fx c hh=>?_)
 refine(?_:Ex _ _ _ _ (_::_) _ _ _)
 refine' zS ?_
 refine' c4 ?_
 refine' zv ?_
 refine' a8 ?_
 refine' zt ?_
 refine' a8 ?_
 refine' d1 ?_
 refine' zp ?_
 refine' zg ?_
 refine' za ?_
 refine' i0 (by law_side) (by exact HC hl) ?_
 refine' za ?_
 refine a9 c hh (by kernel_rfl) (fV hl ?_)
 refine' zp ?_
 refine' j9 ?_
 refine'⟨_,by da_tab,?_⟩
 refine' oG (by da_there) ?_
 rw[bitAnd_m32,show((dO out:Nat):Int)%4294967296=((dO out%4294967296:Nat):Int) by rfl]
 refine' x3 (by(refine DE ?_;assumption)) ?_
 refine' c7 ?_
 refine' f8 ?_
 exact⟨_,.refl _,hq⟩
theorem oN{w:World}{s ds hx o tb of:Addr}{most:Int}{out:List UInt8}{H R:AH}(hl:out.length<32) (h0:In1 o (.ba out) H) (h1:In1 s (.inst 1560 ds) H) (h2:In1 ds (G1 hx most o tb of) H) {told:Int}(ht0:0≤told) (ht1:told<2 ^ 40) (ht:told≠(dO out%4294967296:Nat)) (hR:R.Sublist H):c6 w 7 1557 [.ref s,.int told] H (XO (XS 179 R)) (fun _ _=>False):=by
 refine f6 (X:=fun fx=>XB fx.L _) (d:=d1557) (dv:=[]) (qI _) [] .nil rfl (iK _ _) (eH) (fun fx c hh hst hfr=>⟨?_,j2 c hst hfr⟩)
 refine v9 fun Q hQ=>?_
 refine(?_:Ex _ _ _ _ (_::_) _ _ _)
 refine' zS ?_
 refine' c4 ?_
 refine' zv ?_
 refine' a8 ?_
 refine' zt ?_
 refine' a8 ?_
 refine' d1 ?_
 refine' zp ?_
 refine' zg ?_
 refine' za ?_
 refine' i0 (by law_side) (by exact HC hl) ?_
 refine' za ?_
 refine a9 c hh (by kernel_rfl) (fV hl ?_)
 refine' zp ?_
 refine' j9 ?_
 refine'⟨_,by da_tab,?_⟩
 refine' oG (by da_there) ?_
 rw[bitAnd_m32,show((dO out:Nat):Int)%4294967296=((dO out%4294967296:Nat):Int) by rfl]
 refine' M8 (by(refine GZ ?_;assumption)) ?_
 refine' b8 ?_
 refine x9 c hh ?_
 refine' zc ?_
 exact C9 c hh (gI:=176) (by kernel_rfl) (nb rfl) (fun e t=>gY ht0 ht1 (by exact Int.natCast_nonneg _) (by exact OU)) (by decide) hR
theorem o0{w:World}{H:AH}{d:Int}{sg:Bool}{ic i:Int}{t:Tok}(h8:Builtin.bitAnd d 8=0) (hs:(Builtin.bitAnd d 32 != 0)=sg) (h6:d.fdiv (2 ^ (6:Int).toNat)=0) (h3:Builtin.bitAnd d 3=i) (hi0:0≤i) (hi4:i<4) (hic:([.int 0 2551,.int 1 2552,.int 2 2553,.int 4 2554]:List Value)[i.toNat]?=some (.int ic t)) {Q:AV→AH→Prop}(hq:∀t,Q (.ref t) ((t,.tup [.int (if !sg then 1 else 0),.int ic,.int (if sg then 1 else 0)])::H)):c6 w 1 1443 [.int d] H (fun _ _=>False) Q:=by
 refine c9 (d:=d1443) (dv:=[]) (qF _) [] .nil rfl (iH _) (eB) (fun fx c hh=>?_)
 refine(?_:Ex _ _ _ _ (_::_) _ _ _)
 refine' zf ?_
 refine' zs ?_
 refine' zS ?_
 refine' i9 ?_
 refine' j3 ?_
 refine' za ?_
 (refine'⟨?_,fun _=>?_⟩;focus (exact nb rfl))
 refine' zp ?_
 rw[hs]
 skip
 rw[h6]
 refine xW (by law_side) (by decide) (by simp) (nb rfl) rfl ?_
 refine'⟨_,by da_tab,?_⟩
 refine' g5 ?_
 refine' j3 ?_
 refine' a8 ?_
 refine' zp ?_
 refine' a8 ?_
 refine' i9 ?_
 refine' zp ?_
 refine' zp ?_
 rw[h3]
 refine Do (vs:=[.int 0 2551,.int 1 2552,.int 2 2553,.int 4 2554]) c (by kernel_rfl) hi0 (by simpa using hi4) (by decide) hic (.int _ _) ?_
 refine' za ?_
 (refine'⟨?_,fun _=>?_⟩;focus (exact nb rfl))
 exact⟨_,.cons_cons _ (.cons _ (.refl _)),hq _⟩
theorem Gd{w:World}{r d:Addr}{R:AH}{Q:AV→AH→Prop}(hq:∀p t,Q .none ((t,.ba [])::(p,.ba [])::(r,.inst 1646 d)::(d,t7 p t 0 .none .none (.bool false))::R)):c6 w 1 1587 [.ref r] ((r,.inst 1646 d)::(d,.dict [])::R) (fun _ _=>False) Q:=by
 refine c9 (d:=d1587) (dv:=[.ref 1579,.int 8388608,.int 131072]) (CI _) qK (.cons (.ref _) (.cons (.int _ _) (.cons (.int _ _) .nil))) rfl (Ah _ _ _ _) (uX) (fun fx c hh=>?_)
 refine(?_:Ex _ _ _ _ (_::_) _ _ _)
 refine' zn ?_
 refine' zn ?_
 refine' zn ?_
 refine' zC ?_
 refine' I7 (by assumption) (f7 (by law_side)) (by kernel_rfl) rfl ?_
 refine' B0 (by assumption) (fun _=>?_)
 refine' zp ?_
 refine' zw ?_
 refine' zC ?_
 refine' I7 (by assumption) (f7 (by law_side)) (by kernel_rfl) rfl ?_
 refine' B0 (by assumption) (fun _=>?_)
 refine' zp ?_
 refine' zw ?_
 refine' zn ?_
 refine' zn ?_
 refine' zn ?_
 refine' zn ?_
 refine' zn ?_
 refine' zn ?_
 refine' f8 ?_
 exact⟨_,.refl _,hq _ _⟩
theorem n7{w:World}{r d p t:Addr}{n:Int}{st hd cl:AV}{b told:List UInt8}{k:Nat}{R:AH}(hb:b.length≤100000) {Q:AV→AH→Prop}(hq:∀p,Q (.bytes (b.take k)) ((p,.ba (b.drop k))::(t,.ba told)::(r,.inst 1646 d)::(d,t7 p t n st hd cl)::R)):c6 w 1 1608 [.ref r,.int k] ((p,.ba b)::(t,.ba told)::(r,.inst 1646 d)::(d,t7 p t n st hd cl)::R) (fun _ _=>False) Q:=by
 refine c9 (d:=d1608) (dv:=[]) (CK _) [] .nil rfl (Aj _ _) (uZ) (fun fx c hh=>?_)
 refine(?_:Ex _ _ _ _ (_::_) _ _ _)
 refine' zS ?_
 refine' zt ?_
 refine' a8 ?_
 refine' m5 ?_
 refine' zp ?_
 refine' r3 ?_
 refine' r4 ?_
 refine' zp ?_
 refine'⟨_,rfl,?_⟩
 refine' H1 (by law_side) (by exact Ez hb) (fun _=>?_) (by intro _ _;kernel_rfl)
 refine' za ?_
 rw[D3 _ _ (by exact Int.natCast_nonneg _),show((k:Int)).toNat=k by exact Int.toNat_natCast _]
 refine' i0 (by law_side) (by(simp only[X0,X6,X7,X8,X9];exact Mu hb)) ?_
 refine'⟨_,by da_tab,?_⟩
 refine' zC ?_
 refine' m5 ?_
 refine' zp ?_
 refine' r4 ?_
 refine' zp ?_
 refine'⟨_,rfl,?_⟩
 refine' r3 ?_
 refine' H1 (by law_side) (by exact Ez hb) (fun _=>?_) (by intro _ _;kernel_rfl)
 refine' zp ?_
 refine' zu ?_
 refine' zr ?_
 rw[C7 _ _ (by exact Int.natCast_nonneg _),show((k:Int)).toNat=k by exact Int.toNat_natCast _]
 skip
 exact⟨_,.cons_cons _ (.cons _ (.cons _ (.refl _))),hq _⟩
theorem r7{w:World}{a d:Addr}{b:List UInt8}{n:Int}{R:AH}(hb:4≤b.length) (hb2:b.length≤100000) (hm:n > 0→(le (b.take 4):Int)=4247762216) {Q:AV→AH→Prop}(hq:Q (.int (le (b.take 4))) ((a,.inst 420 d)::(d,.dict [("data",.bytes b),("stop",.int b.length),("place",.int (0:Nat))])::R)):c6 w 4 1571 [.ref a,.int n] ((a,.inst 420 d)::(d,.dict [("data",.bytes b),("stop",.int b.length),("place",.int (0:Nat))])::R) (fun _ _=>False) Q:=by
 refine c9 (d:=d1571) (dv:=[]) (qJ _) [] .nil rfl (iL _ _) (eI) (fun fx c hh=>?_)
 refine b8 ?_
 refine' m6 (Cx.ok (by assumption)) ?_ rfl
 refine' zp ?_
 refine'⟨_,by da_tab,?_⟩
 refine' d9 ?_
 refine' d3 ?_
 refine' d6 rfl ?_
 refine' b9 ?_
 refine' zp ?_
 refine' zN ?_
 refine a9 c hh (by kernel_rfl) (P3 ?_)
 refine' zp ?_
 refine' xJ ?_
 refine' x3 (by(refine decide_eq_false ?_;exact JA hb)) ?_
 refine' c7 ?_
 refine' zS ?_
 refine' b9 ?_
 refine' zp ?_
 refine' zm ?_
 refine a9 c hh (by kernel_rfl) (j1 (k:=4) (by exact Ez hb2) (by exact Jz hb) (by exact Nat.le_add_left _ _) ?_)
 rw[List.drop_zero]
 refine'⟨_,by da_tab,?_⟩
 refine' zo ?_
 refine' d3 ?_
 refine' v8 ?_
 refine' x7 ?_
 refine' D2 (by da_there) ?_
 by_cases hn:n > 0
 ·have hm:=hm hn
  refine' M8 (by(refine decide_eq_true ?_;assumption)) ?_
  refine' x7 ?_
  refine' D2 (by da_there) ?_
  refine' x3 (by(refine DE ?_;assumption)) ?_
  refine' c7 ?_
  refine' zr ?_
  exact⟨_,.refl _,hq⟩
 ·refine' x3 (by(refine decide_eq_false ?_;assumption)) ?_
  refine' c7 ?_
  refine' zr ?_
  exact⟨_,.refl _,hq⟩
theorem cU{w:World}{H R:AH}(hR:R.Sublist H):c6 w 4 1436 [.int 4264539432] H (XO (XS 100 R)) (fun _ _=>False):=by
 refine f6 (X:=fun fx=>XB fx.L _) (d:=d1436) (dv:=[]) (qE _) [] .nil rfl (iG _) (eA) (fun fx c hh hst hfr=>⟨?_,j2 c hst hfr⟩)
 refine v9 fun Q hQ=>?_
 refine(?_:Ex _ _ _ _ (_::_) _ _ _)
 refine' d3 ?_
 refine' v8 ?_
 refine' M7 ?_
 refine' D2 (by da_there) ?_
 refine' zF ?_
 refine' M7 ?_
 refine' fC rfl ?_
 refine' zp ?_
 refine' dH ?_
 refine' zp ?_
 refine' bU ?_
 refine' zV ?_
 refine' nU ?_
 refine' zp ?_
 refine' bU ?_
 refine' zF ?_
 refine' I9 ?_
 refine' c7 ?_
 refine' zT ?_
 refine' b8 ?_
 refine x9 c hh ?_
 refine' zc ?_
 exact C9 c hh (gI:=36) (by kernel_rfl) (nb rfl) (fun e t=>H6 (gI:=36) (by kernel_rfl) (by kernel_rfl) ⟨by decide,C8 _⟩) (by decide) hR
theorem bJ{w:World}{H R:AH}(hR:R.Sublist H):c6 w 4 1443 [.int 8] H (XO (XS 100 R)) (fun _ _=>False):=by
 refine f6 (X:=fun fx=>XB fx.L _) (d:=d1443) (dv:=[]) (qF _) [] .nil rfl (iH _) (eB) (fun fx c hh hst hfr=>⟨?_,j2 c hst hfr⟩)
 refine v9 fun Q hQ=>?_
 refine(?_:Ex _ _ _ _ (_::_) _ _ _)
 refine' zT ?_
 refine' b8 ?_
 refine x9 c hh ?_
 refine' zc ?_
 exact C9 c hh (gI:=36) (by kernel_rfl) (nb rfl) (fun e t=>H6 (gI:=36) (by kernel_rfl) (by kernel_rfl) ⟨by decide,C8 _⟩) (by decide) hR
theorem fW{w:World}{a d:Addr}{b:List UInt8}{n:Int}{R R':AH}(hb:4≤b.length) (hb2:b.length≤100000) (hn:n > 0) (hm:((le (b.take 4):Nat):Int)=4264539432) (hR:R'.Sublist R):c6 w 4 1571 [.ref a,.int n] ((a,.inst 420 d)::(d,.dict [("data",.bytes b),("stop",.int b.length),("place",.int (0:Nat))])::R) (XO (XS 136 R')) (fun _ _=>False):=by
 refine f6 (X:=fun fx=>XB fx.L _) (d:=d1571) (dv:=[]) (qJ _) [] .nil rfl (iL _ _) (eI) (fun fx c hh hst hfr=>⟨?_,j2 c hst hfr⟩)
 refine v9 fun Q hQ=>?_
 refine(?_:Ex _ _ _ _ (_::_) _ _ _)
 refine' zs ?_
 refine' d3 ?_
 refine' d6 rfl ?_
 refine' b9 ?_
 refine' zp ?_
 refine' zN ?_
 refine a9 c hh (by kernel_rfl) (P3 ?_)
 refine' zp ?_
 refine' xJ ?_
 refine' x3 (by(refine decide_eq_false ?_;exact JA hb)) ?_
 refine' c7 ?_
 refine' zS ?_
 refine' b9 ?_
 refine' zp ?_
 refine' zm ?_
 refine a9 c hh (by kernel_rfl) (j1 (k:=4) (by exact Ez hb2) (by exact Jz hb) (by exact Nat.le_add_left _ _) ?_)
 rw[List.drop_zero,hm]
 refine'⟨_,by da_tab,?_⟩
 refine' zo ?_
 refine' d3 ?_
 refine' v8 ?_
 refine' x7 ?_
 refine' D2 (by da_there) ?_
 refine' M8 (by(refine decide_eq_true ?_;assumption)) ?_
 refine' x7 ?_
 refine' D2 (by da_there) ?_
 refine' zV ?_
 refine' x7 ?_
 refine' dK ?_
 refine' q8 rfl ?_
 refine' zc ?_
 refine a9 c hh (by kernel_rfl) (u5 ?_)
 refine' zF ?_
 refine' fB ?_
 refine' b8 ?_
 refine x9 c hh ?_
 refine' zc ?_
 exact C9 c hh (gI:=36) (by kernel_rfl) (nb rfl) (fun e t=>H6 (gI:=36) (by kernel_rfl) (by kernel_rfl) ⟨by decide,C8 _⟩) (by decide) (.cons _ (.cons _ hR))
theorem AZ{w:World}{H:AH}{Q:AV→AH→Prop}(hq:Q .none H):c6 w 1 1485 [.ref 1579,.int 0] H (fun _ _=>False) Q:=by
 refine c9 (d:=d1485) (dv:=[]) (qG _) [] .nil rfl (iI _ _) (eD) (fun fx c hh=>?_)
 refine b8 ?_
 refine Z5 c hh ?_ (by intro _;rfl)
 refine' zp ?_
 refine'⟨_,rfl,?_⟩
 refine'⟨rfl,?_⟩
 refine' d9 ?_
 refine' zT ?_
 refine' g5 ?_
 refine' z8 ?_
 refine' d6 rfl ?_
 refine' zb ?_
 refine' za ?_
 refine cC (vs:=[]) c (by kernel_rfl) (by decide) ?_
 refine' zp ?_
 refine' T9 ?_
 refine' zF ?_
 refine' zp ?_
 refine' n9 ?_
 exact⟨_,.refl _,hq⟩
theorem wJ{w:World}{H R:AH}(hR:R.Sublist H):c6 w 5 1485 [.ref 1579,.int 5] H (XO (XS 217 R)) (fun _ _=>False):=by
 refine f6 (X:=fun fx=>XB fx.L _) (d:=d1485) (dv:=[]) (qG _) [] .nil rfl (iI _ _) (eD) (fun fx c hh hst hfr=>⟨?_,j2 c hst hfr⟩)
 refine b8 ?_
 refine Z5 c hh ?_ (by intro _;rfl)
 refine' zp ?_
 refine'⟨_,rfl,?_⟩
 refine'⟨rfl,?_⟩
 refine' d9 ?_
 refine' zf ?_
 refine' d3 ?_
 refine' d6 rfl ?_
 refine' zb ?_
 refine' za ?_
 refine cC (vs:=[]) c (by kernel_rfl) (by decide) ?_
 refine' zp ?_
 refine' T9 ?_
 refine' zV ?_
 refine' b8 ?_
 refine x9 c hh ?_
 refine' zc ?_
 exact C9 c hh (gI:=214) (by kernel_rfl) (nb rfl) (fun e t=>P5 AU) (by decide) hR
theorem yK{w:World}{s ds hx dx:Addr}{win:Int}{size:AV}{ck sg:Bool}{R:AH}(hw:win≤1024) {Q:AV→AH→Prop}(hq:∀o tb of,Q .none ((o,.ba [])::(s,.inst 1560 ds)::(ds,G1 hx win o tb of)::(hx,.inst 1418 dx)::(dx,M9 win size ck sg)::R)):c6 w 3 1501 [.ref s,.ref hx,.ref 1579,.int 8388608,.int 131072] ((s,.inst 1560 ds)::(ds,.dict [])::(hx,.inst 1418 dx)::(dx,M9 win size ck sg)::R) (fun _ _=>False) Q:=by
 refine c9 (d:=d1501) (dv:=[]) (qH _) [] .nil rfl (iJ _ _ _ _ _) (eE) (fun fx c hh=>?_)
 refine(?_:Ex _ _ _ _ (_::_) _ _ _)
 refine' zf ?_
 refine' zn ?_
 refine' zC ?_
 refine' zb ?_
 refine' za ?_
 refine' Dn (by assumption) ?_
 refine' zp ?_
 refine' zw ?_
 refine' zC ?_
 refine' I7 (by assumption) (f7 (by law_side)) (by kernel_rfl) rfl ?_
 refine' B0 (by assumption) (fun _=>?_)
 refine' zp ?_
 refine' zw ?_
 refine' zn ?_
 refine' zn ?_
 refine' zC ?_
 refine' O1 (by assumption) (f7 (by law_side)) (by kernel_rfl) rfl (by kernel_rfl) ?_
 rw[if_neg (show ¬ (131072:Int)<win by exact Nk hw)]
 skip
 refine g6 c hh (gI:=1250) (by kernel_rfl) (by kernel_rfl) (fun tb dtb=>cI (.mk ?_))
 refine' zp ?_
 refine' zw ?_
 refine' zC ?_
 refine' O1 (by assumption) (f7 (by law_side)) (by kernel_rfl) rfl (by kernel_rfl) ?_
 refine g6 c hh (gI:=1336) (by kernel_rfl) (by kernel_rfl) (fun of dof=>aC (.mk ?_))
 refine' zp ?_
 refine' zw ?_
 refine' zS ?_
 refine' zc ?_
 refine a9 c hh (by kernel_rfl) (AZ ?_)
 refine'⟨_,by da_tab,?_⟩
 refine' d3 ?_
 refine' d6 rfl ?_
 refine' zp ?_
 refine' zp ?_
 refine' g8 (by exact x0) ?_
 refine' zF ?_
 refine' c7 ?_
 refine' f8 ?_
 exact⟨_,.refl _,hq _ _ _⟩
theorem gZ{w:World}{s ds hx dx:Addr}{R:AH}(h1:In1 hx (.inst 1418 dx) R) (h2:In1 dx (.dict [("window",.int 1),("size",.int 1),("ident",.int 5),("checksum",.bool false),("single",.bool true)]) R):c6 w 6 1501 [.ref s,.ref hx,.ref 1579,.int 8388608,.int 131072]
  ((s,.inst 1560 ds)::(ds,.dict [])::R) (XO (XS 217 R)) (fun _ _=>False):=by
 refine f6 (X:=fun fx=>XB fx.L _) (d:=d1501) (dv:=[]) (qH _) [] .nil rfl (iJ _ _ _ _ _) (eE) (fun fx c hh hst hfr=>⟨?_,j2 c hst hfr⟩)
 refine v9 fun Q hQ=>?_
 refine(?_:Ex _ _ _ _ (_::_) _ _ _)
 refine' d3 ?_
 refine' d6 rfl ?_
 refine' d1 ?_
 refine' zp ?_
 refine' zg ?_
 refine' zp ?_
 refine' N9 ?_
 refine' zF ?_
 refine' c7 ?_
 refine' zn ?_
 refine' zC ?_
 refine' zb ?_
 refine' a8 ?_
 refine' d1 ?_
 refine' zp ?_
 refine' zg ?_
 refine' za ?_
 refine' Dn (by assumption) ?_
 refine' zp ?_
 refine' zw ?_
 refine' zC ?_
 refine' I7 (by assumption) (f7 (by law_side)) (by kernel_rfl) rfl ?_
 refine' B0 (by assumption) (fun _=>?_)
 refine' zp ?_
 refine' zw ?_
 refine' zn ?_
 refine' zn ?_
 refine' zC ?_
 refine' O1 (by assumption) (f7 (by law_side)) (by kernel_rfl) rfl (by kernel_rfl) ?_
 refine g6 c hh (gI:=1250) (by kernel_rfl) (by kernel_rfl) (fun tb dtb=>cI (.mk ?_))
 refine' zp ?_
 refine' zw ?_
 refine' zC ?_
 refine' O1 (by assumption) (f7 (by law_side)) (by kernel_rfl) rfl (by kernel_rfl) ?_
 refine g6 c hh (gI:=1336) (by kernel_rfl) (by kernel_rfl) (fun of dof=>aC (.mk ?_))
 refine' zp ?_
 refine' zw ?_
 refine' zS ?_
 refine' zv ?_
 refine' a8 ?_
 refine' zp ?_
 refine' a8 ?_
 refine' d1 ?_
 refine' zp ?_
 refine' zg ?_
 refine' za ?_
 refine s0 c hh (wJ (R:=R) ?_) (by decide) (.refl _) (fun _ _ _ _ _ h=>h) (fun r H' hq=>hq.elim)
 exact .cons _ (.cons _ (.cons _ (.refl _)))
theorem u2(r:List UInt8):((le (((40::181::47::253::r).drop 0).take 4):Nat):Int)=4247762216:=by
 have h:le [40,181,47,253]=4247762216:=by decide
 refine(?_:((le [40,181,47,253]:Nat):Int)= _)
 rw[h];rfl
theorem W3{w:World}{a d:Addr}{e n:UInt8}{ck:Bool}{R:AH}(h8:Builtin.bitAnd (e.toNat:Int) 8=0) (hs:(Builtin.bitAnd (e.toNat:Int) 32 != 0)=true) (h6:(e.toNat:Int).fdiv (2 ^ (6:Int).toNat)=0) (h3:Builtin.bitAnd (e.toNat:Int) 3=0) (h4:(Builtin.bitAnd (e.toNat:Int) 4 != 0)=ck) {Q:AV→AH→Prop}(hq:∀x dx,Q (.ref x) ((x,.inst 1418 dx)::(dx,.dict [("window",.int (n.toNat:Int)),("size",.int (n.toNat:Int)),("ident",.int 0),("checksum",.bool ck),("single",.bool true)])::R)):c6 w 5 1450 [.ref a] ((a,.inst 420 d)::(d,.dict [("data",.bytes ([40,181,47,253,e,n]:List UInt8)),("stop",.int (6:Nat)),("place",.int (0:Nat))])::R) (fun _ _=>False) Q:=by
 refine c9 (d:=d1450) (dv:=[]) (eC _) [] .nil rfl (aT _) (V7) (fun fx c hh=>?_)
 refine(?_:Ex _ _ _ _ (_::_) _ _ _)
 refine' zE ?_
 refine' zv ?_
 refine' a8 ?_
 refine' b9 ?_
 refine' zp ?_
 refine' zm ?_
 refine a9 c hh (by kernel_rfl) (j1 (k:=4) (nb rfl) (by exact Int.natCast_nonneg _) (by exact Nat.le_add_left _ _) ?_)
 rw[u2]
 refine' za ?_
 refine a9 c hh (by kernel_rfl) (n6 ?_)
 refine'⟨rfl,?_⟩
 refine' zS ?_
 refine' b9 ?_
 refine' zp ?_
 refine' zN ?_
 refine a9 c hh (by kernel_rfl) (E0 (nb rfl) (by exact Int.natCast_nonneg _) (nb rfl) ?_)
 rw[show([40,181,47,253,e,n]:List UInt8).getD (0+4) 0=e from rfl]
 refine'⟨_,by da_tab,?_⟩
 refine' b8 ?_
 refine g9 hh ?_
 refine' zc ?_
 refine a9 c hh (by kernel_rfl) (o0 (t:=2551) h8 hs h6 h3 (by decide) (by decide) rfl (fun tf=>?_))
 refine'⟨_,_,rfl,by law_side,by with_unfolding_all exact rfl,?_⟩
 refine' d8 ?_
 refine' zk ?_
 refine' d8 ?_
 refine' zk ?_
 refine' d8 ?_
 refine' zk ?_
 refine' C1 ?_
 refine' d9 ?_
 refine' zs ?_
 refine' zs ?_
 refine' zf ?_
 refine' zs ?_
 refine' zf ?_
 refine' zs ?_
 refine' zT ?_
 refine' zS ?_
 refine' b9 ?_
 refine' zp ?_
 refine' zm ?_
 refine f5 c hh (by kernel_rfl) (DelN.perm (ps:=[_,_]) (by da_tab)) (j1 (b:=[40,181,47,253,e,n]) (n:=(6:Nat)) (d:=d) (k:=1) (p:=5) (a:=a) (nb rfl) (by exact Int.natCast_nonneg _) (by exact Nat.le_add_left _ _) ?_)
 rw[show le ((([40,181,47,253,e,n]:List UInt8).drop 5).take 1)=n.toNat from rfl]
 refine'⟨_,by da_tab,?_⟩
 refine' zf ?_
 refine' c7 ?_
 refine' zT ?_
 refine' zs ?_
 refine' c7 ?_
 refine' g5 ?_
 refine' zc ?_
 refine g6 c hh (gI:=1408) (by kernel_rfl) (by kernel_rfl) (fun x dx=>P4 (.mk ?_))
 skip
 refine⟨_,.cons_cons _ (.cons_cons _ (.cons _ (.cons _ (.cons _ (.refl _))))),?_⟩
 rw[hs,h4]
 exact hq x dx
theorem W4{w:World}{a d:Addr}{e:UInt8}{ck:Bool}{R:AH}(h8:Builtin.bitAnd (e.toNat:Int) 8=0) (hs:(Builtin.bitAnd (e.toNat:Int) 32 != 0)=false) (h6:(e.toNat:Int).fdiv (2 ^ (6:Int).toNat)=0) (h3:Builtin.bitAnd (e.toNat:Int) 3=0) (h4:(Builtin.bitAnd (e.toNat:Int) 4 != 0)=ck) {Q:AV→AH→Prop}(hq:∀x dx,Q (.ref x) ((x,.inst 1418 dx)::(dx,.dict [("window",.int 1024),("size",.none),("ident",.int 0),("checksum",.bool ck),("single",.bool false)])::R)):c6 w 5 1450 [.ref a] ((a,.inst 420 d)::(d,.dict [("data",.bytes ([40,181,47,253,e,0]:List UInt8)),("stop",.int (6:Nat)),("place",.int (0:Nat))])::R) (fun _ _=>False) Q:=by
 refine c9 (d:=d1450) (dv:=[]) (eC _) [] .nil rfl (aT _) (V7) (fun fx c hh=>?_)
 refine(?_:Ex _ _ _ _ (_::_) _ _ _)
 refine' zE ?_
 refine' zv ?_
 refine' a8 ?_
 refine' b9 ?_
 refine' zp ?_
 refine' zm ?_
 refine a9 c hh (by kernel_rfl) (j1 (k:=4) (nb rfl) (by exact Int.natCast_nonneg _) (by exact Nat.le_add_left _ _) ?_)
 rw[u2]
 refine' za ?_
 refine a9 c hh (by kernel_rfl) (n6 ?_)
 refine'⟨rfl,?_⟩
 refine' zS ?_
 refine' b9 ?_
 refine' zp ?_
 refine' zN ?_
 refine a9 c hh (by kernel_rfl) (E0 (nb rfl) (by exact Int.natCast_nonneg _) (nb rfl) ?_)
 rw[show([40,181,47,253,e,0]:List UInt8).getD (0+4) 0=e from rfl]
 refine'⟨_,by da_tab,?_⟩
 refine' b8 ?_
 refine g9 hh ?_
 refine' zc ?_
 refine a9 c hh (by kernel_rfl) (o0 (t:=2551) h8 hs h6 h3 (by decide) (by decide) rfl (fun tf=>?_))
 refine'⟨_,_,rfl,by law_side,by with_unfolding_all exact rfl,?_⟩
 refine' d8 ?_
 refine' zk ?_
 refine' d8 ?_
 refine' zk ?_
 refine' d8 ?_
 refine' zk ?_
 refine' C1 ?_
 refine' d9 ?_
 refine' zs ?_
 refine' zs ?_
 refine' zT ?_
 refine' zS ?_
 refine' zv ?_
 refine' a8 ?_
 refine' b9 ?_
 refine' zp ?_
 refine' zN ?_
 refine f5 c hh (by kernel_rfl) (DelN.perm (ps:=[_,_]) (by da_tab)) (E0 (b:=[40,181,47,253,e,0]) (n:=(6:Nat)) (d:=d) (p:=5) (a:=a) (nb rfl) (by exact Int.le_refl _) (nb rfl) ?_)
 rw[show([40,181,47,253,e,0]:List UInt8).getD 5 0=0 from rfl]
 refine' za ?_
 refine a9 c hh (by kernel_rfl) (rG ?_)
 refine'⟨_,by da_tab,?_⟩
 refine' c7 ?_
 refine' zs ?_
 refine' zf ?_
 refine' zs ?_
 refine' zf ?_
 refine' zf ?_
 refine' g5 ?_
 refine' zc ?_
 refine g6 c hh (gI:=1408) (by kernel_rfl) (by kernel_rfl) (fun x dx=>P4 (.mk ?_))
 skip
 refine⟨_,.cons_cons _ (.cons_cons _ (.cons _ (.cons _ (.cons _ (.refl _))))),?_⟩
 rw[hs,h4]
 exact hq x dx
theorem bK{w:World}{a d:Addr}  {R:AH}{Q:AV→AH→Prop}(hq:∀x dx,Q (.ref x) ((x,.inst 1418 dx)::(dx,.dict [("window",.int 1),("size",.int 1),("ident",.int 5),("checksum",.bool false),("single",.bool true)])::R)):c6 w 5 1450 [.ref a] ((a,.inst 420 d)::(d,.dict [("data",.bytes ([40,181,47,253,33,5,1]:List UInt8)),("stop",.int (7:Nat)),("place",.int (0:Nat))])::R) (fun _ _=>False) Q:=by
 refine c9 (d:=d1450) (dv:=[]) (eC _) [] .nil rfl (aT _) (V7) (fun fx c hh=>?_)
 refine(?_:Ex _ _ _ _ (_::_) _ _ _)
 refine' zE ?_
 refine' zv ?_
 refine' a8 ?_
 refine' b9 ?_
 refine' zp ?_
 refine' zm ?_
 refine a9 c hh (by kernel_rfl) (j1 (k:=4) (nb rfl) (by exact Int.natCast_nonneg _) (by exact Nat.le_add_left _ _) ?_)
 rw[u2]
 refine' za ?_
 refine a9 c hh (by kernel_rfl) (n6 ?_)
 refine'⟨rfl,?_⟩
 refine' zS ?_
 refine' b9 ?_
 refine' zp ?_
 refine' zN ?_
 refine a9 c hh (by kernel_rfl) (E0 (nb rfl) (by exact Int.natCast_nonneg _) (nb rfl) ?_)
 rw[show([40,181,47,253,33,5,1]:List UInt8).getD (0+4) 0=33 from rfl]
 refine'⟨_,by da_tab,?_⟩
 refine' b8 ?_
 refine g9 hh ?_
 refine' zc ?_
 refine a9 c hh (by kernel_rfl) (o0 (sg:=true) (ic:=1) (i:=1) (t:=2552) (by decide) (by decide) (by decide) (by decide) (by decide) (by decide) rfl (fun tf=>?_))
 refine'⟨_,_,rfl,by law_side,by with_unfolding_all exact rfl,?_⟩
 refine' d8 ?_
 refine' zk ?_
 refine' d8 ?_
 refine' zk ?_
 refine' d8 ?_
 refine' zk ?_
 refine' C1 ?_
 refine' d9 ?_
 refine' zs ?_
 refine' zs ?_
 refine' zf ?_
 refine' zs ?_
 refine' zT ?_
 refine' zS ?_
 refine' b9 ?_
 refine' zp ?_
 refine' zm ?_
 refine f5 c hh (by kernel_rfl) (DelN.perm (ps:=[_,_]) (by da_tab)) (j1 (b:=[40,181,47,253,33,5,1]) (n:=(7:Nat)) (d:=d) (k:=1) (p:=5) (a:=a) (nb rfl) (by exact Int.natCast_nonneg _) (by exact Nat.le_add_left _ _) ?_)
 rw[show le ((([40,181,47,253,33,5,1]:List UInt8).drop 5).take 1)=5 from rfl]
 refine'⟨_,by da_tab,?_⟩
 refine' c7 ?_
 refine' zs ?_
 refine' zT ?_
 refine' zS ?_
 refine' b9 ?_
 refine' zp ?_
 refine' zm ?_
 refine f5 c hh (by kernel_rfl) (DelN.perm (ps:=[_,_]) (by da_tab)) (j1 (b:=[40,181,47,253,33,5,1]) (n:=(7:Nat)) (d:=d) (k:=1) (p:=6) (a:=a) (nb rfl) (by exact Int.natCast_nonneg _) (by exact Nat.le_add_left _ _) ?_)
 rw[show le ((([40,181,47,253,33,5,1]:List UInt8).drop 6).take 1)=1 from rfl]
 refine'⟨_,by da_tab,?_⟩
 refine' zf ?_
 refine' c7 ?_
 refine' zT ?_
 refine' zs ?_
 refine' c7 ?_
 refine' g5 ?_
 refine' zc ?_
 refine g6 c hh (gI:=1408) (by kernel_rfl) (by kernel_rfl) (fun x dx=>P4 (.mk ?_))
 skip
 exact⟨_,.cons_cons _ (.cons_cons _ (.cons _ (.cons _ (.cons _ (.refl _))))),hq x dx⟩
theorem G2{w:World}{r d p t:Addr}{n:Int}{hd cl:AV}{b told:List UInt8}{R:AH}(hb:b.length<5) {Q:AV→AH→Prop}(hq:Q (.bool false) ((p,.ba b)::(t,.ba told)::(r,.inst 1646 d)::(d,t7 p t n .none hd cl)::R)):c6 w 1 1629 [.ref r] ((p,.ba b)::(t,.ba told)::(r,.inst 1646 d)::(d,t7 p t n .none hd cl)::R) (fun _ _=>False) Q:=by
 refine c9 (d:=d1629) (dv:=[]) (C5 _) [] .nil rfl (y9 _) (w4) (fun fx c hh=>?_)
 refine(?_:Ex _ _ _ _ (_::_) _ _ _)
 refine' zT ?_
 refine' zr ?_
 refine' n9 ?_
 exact⟨_,.refl _,hq⟩
theorem hB{w:World}{r d p t:Addr}{n:Int}{hd cl:AV}{e:UInt8}{rest told:List UInt8}{sg:Bool}{ic:Nat}{i:Int}{tk:Tok}{R:AH}(hl:rest.length≤1000) (h8:Builtin.bitAnd (e.toNat:Int) 8=0) (hs:(Builtin.bitAnd (e.toNat:Int) 32 != 0)=sg) (h6:(e.toNat:Int).fdiv (2 ^ (6:Int).toNat)=0) (h3:Builtin.bitAnd (e.toNat:Int) 3=i) (hi0:0≤i) (hi4:i<4) (hic:([.int 0 2551,.int 1 2552,.int 2 2553,.int 4 2554]:List Value)[i.toNat]?=some (.int ic tk)) (hw:rest.length<1+ic) {Q:AV→AH→Prop}(hq:Q (.bool false) ((p,.ba (40::181::47::253::e::rest))::(t,.ba told)::(r,.inst 1646 d)::(d,t7 p t n .none hd cl)::R)):c6 w 5 1629 [.ref r] ((p,.ba (40::181::47::253::e::rest))::(t,.ba told)::(r,.inst 1646 d)::(d,t7 p t n .none hd cl)::R) (fun _ _=>False) Q:=by
 refine c9 (d:=d1629) (dv:=[]) (C5 _) [] .nil rfl (y9 _) (w4) (fun fx c hh=>?_)
 refine(?_:Ex _ _ _ _ (_::_) _ _ _)
 refine' zf ?_
 refine' zS ?_
 refine' zv ?_
 refine' a8 ?_
 refine' zt ?_
 refine' a8 ?_
 refine' m5 ?_
 refine' zp ?_
 refine' r3 ?_
 refine' r4 ?_
 refine' zp ?_
 refine'⟨_,rfl,?_⟩
 refine' H1 (by law_side) (by(simp only[X0,X6,X7,X8,X9];exact IR hl)) (fun _=>?_) (by intro _ _;kernel_rfl)
 refine' za ?_
 rw[show G5 (40::181::47::253::e::rest) none (some 5)=[40,181,47,253,e] from by rw[D3 _ _ (by decide)];rfl]
 refine' i0 (by law_side) (by(simp only[X0,X6,X7,X8,X9];exact Nat.le_add_left _ _)) ?_
 refine' za ?_
 refine g6 c hh (gI:=361) (by kernel_rfl) (by kernel_rfl) (fun x dx=>i6 (b:=[40,181,47,253,e]) (nb rfl) (.mk ?_))
 refine'⟨_,by da_tab,?_⟩
 refine' zS ?_
 refine' zc ?_
 refine a9 c hh (by kernel_rfl) (r7 (b:=[40,181,47,253,e]) (nb rfl) (nb rfl) (fun _=>u2 [e]) ?_)
 rw[show((le ([40,181,47,253,e].take 4):Nat):Int)=4247762216 from u2 [e]]
 refine'⟨_,by da_tab,?_⟩
 refine' d3 ?_
 refine' q8 rfl ?_
 refine' zc ?_
 refine a9 c hh (by kernel_rfl) (u5 ?_)
 refine' zF ?_
 refine' c7 ?_
 refine' zE ?_
 refine' zc ?_
 refine a9 c hh (by kernel_rfl) (n6 ?_)
 refine'⟨rfl,?_⟩
 refine' b8 ?_
 refine g9 hh ?_
 refine' zv ?_
 refine' a8 ?_
 refine' i9 ?_
 refine' zp ?_
 refine' zp ?_
 refine W1 (by law_side) (by simp only[List.length_cons];exact IR hl) (by decide) (by simp only[List.length_cons];exact JU) ?_
 rw[show(40::181::47::253::e::rest:List UInt8).getD (4:Int).toNat 0=e from rfl]
 refine' za ?_
 refine a9 c hh (by kernel_rfl) (o0 h8 hs h6 h3 hi0 hi4 hic (fun tf=>?_))
 refine'⟨_,_,rfl,by law_side,by with_unfolding_all exact rfl,?_⟩
 refine' d8 ?_
 refine' zk ?_
 refine' d8 ?_
 refine' zk ?_
 refine' d8 ?_
 refine' zk ?_
 refine' C1 ?_
 refine' d9 ?_
 refine' zs ?_
 refine' oG (by da_there) ?_
 rw[show(5:Int)+(if (!sg)=true then 1 else 0)+ic+(if sg=true then 1 else 0)=6+ic by cases sg <;> simp <;> exact ON]
 refine' M8 (by(refine decide_eq_true ?_;(simp only[X0,X6,X7,X8,X9];exact LV hw))) ?_
 refine' zr ?_
 refine' n9 ?_
 exact⟨_,(by law_side),hq⟩
theorem V0{w:World}{r d p t:Addr}{n:Int}{hd cl:AV}{H:AH}{k:Nat}{XR:Addr→Addr→Option Addr→Addr→AH→Prop}{Q:AV→AH→Prop}(h1:In1 r (.inst 1646 d) H) (h2:In1 d (t7 p t n .none hd cl) H) (hs:c6 w k 1629 [.ref r] H (XO XR) Q):c6 w (k+1) 1615 [.ref r] H (XO XR) Q:=by
 refine f6 (X:=fun fx=>XB fx.L _) (d:=d1615) (dv:=[]) (E2 _) [] .nil rfl (B9 _) (y5) (fun fx c hh hst hfr=>⟨?_,j2 c hst hfr⟩)
 refine v9 fun Q hQ=>?_
 refine(?_:Ex _ _ _ _ (_::_) _ _ _)
 refine' d3 ?_
 refine' d6 rfl ?_
 refine' d1 ?_
 refine' zp ?_
 refine' zg ?_
 refine' zp ?_
 refine' N9 ?_
 refine' zF ?_
 refine' c7 ?_
 refine' d3 ?_
 refine' d6 rfl ?_
 refine' d1 ?_
 refine' zp ?_
 refine' zg ?_
 refine' zp ?_
 refine' i8 (by exact x0) ?_
 refine' zV ?_
 refine' g5 ?_
 refine' b9 ?_
 refine' zp ?_
 refine' zN ?_
 exact s0 c hh hs (by exact Nat.le_refl _) (.refl _) (fun _ _ _ _ _ h=>h) (fun r H' hq=>hQ _ _ _ hq)
theorem V1{w:World}{r d p t:Addr}{n:Int}{s:Addr}{hd:AV}{H:AH}{k:Nat}{XR:Addr→Addr→Option Addr→Addr→AH→Prop}{Q:AV→AH→Prop}(h1:In1 r (.inst 1646 d) H) (h2:In1 d (t7 p t n (.ref s) hd (.bool true)) H) (hs:c6 w k 1643 [.ref r] H (XO XR) Q):c6 w (k+1) 1615 [.ref r] H (XO XR) Q:=by
 refine f6 (X:=fun fx=>XB fx.L _) (d:=d1615) (dv:=[]) (E2 _) [] .nil rfl (B9 _) (y5) (fun fx c hh hst hfr=>⟨?_,j2 c hst hfr⟩)
 refine v9 fun Q hQ=>?_
 refine(?_:Ex _ _ _ _ (_::_) _ _ _)
 refine' d3 ?_
 refine' d6 rfl ?_
 refine' d1 ?_
 refine' zp ?_
 refine' zg ?_
 refine' zp ?_
 refine' N9 ?_
 refine' zF ?_
 refine' c7 ?_
 refine' d3 ?_
 refine' d6 rfl ?_
 refine' d1 ?_
 refine' zp ?_
 refine' zg ?_
 refine' zp ?_
 refine' i8 (by exact E7 _) ?_
 refine' zF ?_
 refine' c7 ?_
 refine' d3 ?_
 refine' q8 rfl ?_
 refine' d1 ?_
 refine' zp ?_
 refine' zg ?_
 refine' zV ?_
 refine' g5 ?_
 refine' b9 ?_
 refine' zp ?_
 refine' zN ?_
 exact s0 c hh hs (by exact Nat.le_refl _) (.refl _) (fun _ _ _ _ _ h=>h) (fun r H' hq=>hQ _ _ _ hq)
theorem V2{w:World}{r d p t:Addr}{n:Int}{s h:Addr}{H:AH}{k:Nat}{XR:Addr→Addr→Option Addr→Addr→AH→Prop}{Q:AV→AH→Prop}(h1:In1 r (.inst 1646 d) H) (h2:In1 d (t7 p t n (.ref s) (.ref h) (.bool false)) H) (hs:c6 w k 1636 [.ref r] H (XO XR) Q):c6 w (k+1) 1615 [.ref r] H (XO XR) Q:=by
 refine f6 (X:=fun fx=>XB fx.L _) (d:=d1615) (dv:=[]) (E2 _) [] .nil rfl (B9 _) (y5) (fun fx c hh hst hfr=>⟨?_,j2 c hst hfr⟩)
 refine v9 fun Q hQ=>?_
 refine(?_:Ex _ _ _ _ (_::_) _ _ _)
 refine' d3 ?_
 refine' d6 rfl ?_
 refine' d1 ?_
 refine' zp ?_
 refine' zg ?_
 refine' zp ?_
 refine' N9 ?_
 refine' zF ?_
 refine' c7 ?_
 refine' d3 ?_
 refine' d6 rfl ?_
 refine' d1 ?_
 refine' zp ?_
 refine' zg ?_
 refine' zp ?_
 refine' i8 (by exact E7 _) ?_
 refine' zF ?_
 refine' c7 ?_
 refine' d3 ?_
 refine' q8 rfl ?_
 refine' d1 ?_
 refine' zp ?_
 refine' zg ?_
 refine' zF ?_
 refine' c7 ?_
 refine' d3 ?_
 refine' d6 rfl ?_
 refine' d1 ?_
 refine' zp ?_
 refine' zg ?_
 refine' zp ?_
 refine' i8 (by exact E7 _) ?_
 refine' zF ?_
 refine' c7 ?_
 refine' g5 ?_
 refine' b9 ?_
 refine' zp ?_
 refine' zN ?_
 exact s0 c hh hs (by exact Nat.le_refl _) (.refl _) (fun _ _ _ _ _ h=>h) (fun r H' hq=>hQ _ _ _ hq)
theorem hD{w:World}{r d p t s ds hx dx o tb of:Addr}{n most win:Int}{size:AV}{sg:Bool}{out told:List UInt8}{R:AH}{hd:AV}{b:List UInt8}{Q:AV→AH→Prop}(hq:Q (.bool true) ((p,.ba b)::(t,.ba told)::(r,.inst 1646 d)::(d,t7 p t (n+1) .none hd (.bool false))::R)):c6 w 1 1643 [.ref r] ((p,.ba b)::(t,.ba told)::(r,.inst 1646 d)::(d,t7 p t n (.ref s) hd (.bool true))::(o,.ba out)::(s,.inst 1560 ds)::(ds,G1 hx most o tb of)::(hx,.inst 1418 dx)::(dx,M9 win size false sg)::R) (fun _ _=>False) Q:=by
 refine c9 (d:=d1643) (dv:=[]) (Y7 _) [] .nil rfl (Q8 _) (K5) (fun fx c hh=>?_)
 refine(?_:Ex _ _ _ _ (_::_) _ _ _)
 refine' zf ?_
 refine' zo ?_
 refine' zo ?_
 refine' b8 ?_
 refine' O7 ?_
 refine' zp ?_
 refine' zg ?_
 refine' zp ?_
 refine' nT ?_
 refine' zu ?_
 refine' d9 ?_
 refine' zr ?_
 exact⟨_,(by law_side),hq⟩
theorem hH{w:World}{r d p t s ds hx dx o tb of:Addr}{n most win:Int}{size:AV}{sg:Bool}{out told:List UInt8}{R:AH}{hd:AV}{b:List UInt8}(hb:b.length<4) {Q:AV→AH→Prop}(hq:Q (.bool false) ((p,.ba b)::(t,.ba told)::(r,.inst 1646 d)::(d,t7 p t n (.ref s) hd (.bool true))::(o,.ba out)::(s,.inst 1560 ds)::(ds,G1 hx most o tb of)::(hx,.inst 1418 dx)::(dx,M9 win size true sg)::R)):c6 w 1 1643 [.ref r] ((p,.ba b)::(t,.ba told)::(r,.inst 1646 d)::(d,t7 p t n (.ref s) hd (.bool true))::(o,.ba out)::(s,.inst 1560 ds)::(ds,G1 hx most o tb of)::(hx,.inst 1418 dx)::(dx,M9 win size true sg)::R) (fun _ _=>False) Q:=by
 refine c9 (d:=d1643) (dv:=[]) (Y7 _) [] .nil rfl (Q8 _) (K5) (fun fx c hh=>?_)
 refine(?_:Ex _ _ _ _ (_::_) _ _ _)
 refine' zT ?_
 refine' zT ?_
 refine' zr ?_
 refine' n9 ?_
 refine' n9 ?_
 exact⟨_,.refl _,hq⟩
theorem rJ{w:World}{r d p t s ds hx dx o tb of:Addr}{n most win:Int}{size:AV}{sg:Bool}{out told:List UInt8}{R:AH}{hd:AV}{b rest:List UInt8}(hb:b.length=4) (hl:rest.length≤1000) (hout:out.length<32) (hv:le b=dO out%4294967296) {Q:AV→AH→Prop}(hq:∀p,Q (.bool true) ((p,.ba rest)::(t,.ba told)::(r,.inst 1646 d)::(d,t7 p t (n+1) .none hd (.bool false))::R)):c6 w 8 1643 [.ref r] ((p,.ba (b++rest))::(t,.ba told)::(r,.inst 1646 d)::(d,t7 p t n (.ref s) hd (.bool true))::(o,.ba out)::(s,.inst 1560 ds)::(ds,G1 hx most o tb of)::(hx,.inst 1418 dx)::(dx,M9 win size true sg)::R) (fun _ _=>False) Q:=by
 refine c9 (d:=d1643) (dv:=[]) (Y7 _) [] .nil rfl (Q8 _) (K5) (fun fx c hh=>?_)
 refine(?_:Ex _ _ _ _ (_::_) _ _ _)
 refine' zT ?_
 refine' zf ?_
 refine' zE ?_
 refine' b9 ?_
 refine' zp ?_
 refine' zM ?_
 refine' a8 ?_
 refine' b9 ?_
 refine' zv ?_
 refine' a8 ?_
 refine' b9 ?_
 refine' zp ?_
 refine' zm ?_
 refine f5 c hh (by kernel_rfl) (z0 (by da_tab)) (n7 (r:=r) (d:=d) (p:=p) (t:=t) (n:=n) (st:=.ref s) (hd:=hd) (cl:=(.bool true)) (told:=told) (b:=b++rest) (k:=4) (by simp only[List.length_append];exact Jr hb hl) (fun p'=>?_))
 rw[List.take_left' hb,List.drop_left' hb]
 refine' za ?_
 refine g6 c hh (gI:=361) (by kernel_rfl) (by kernel_rfl) (fun x dx2=>i6 (b:=b) (by exact Ew hb) (.mk ?_))
 refine' zm ?_
 refine a9 c hh (by kernel_rfl) (j1 (k:=4) (p:=0) (by exact Ew hb) (by exact JG hb) (by exact Nat.le_add_left _ _) ?_)
 rw[List.drop_zero,List.take_of_length_le (by exact JH hb)]
 refine' za ?_
 refine a9 c hh (by kernel_rfl) (rH (out:=out) (s:=s) (ds:=ds) (o:=o) hout (by law_side) (by law_side) (by law_side) (by rw[hv]) ?_)
 refine'⟨rfl,?_⟩
 refine' c7 ?_
 refine' zo ?_
 refine' zo ?_
 refine' b8 ?_
 refine' O7 ?_
 refine' zp ?_
 refine' zg ?_
 refine' zp ?_
 refine' nT ?_
 refine' zu ?_
 refine' d9 ?_
 refine' zr ?_
 exact⟨_,(by law_side),hq _⟩
theorem oO{w:World}{r d p t s ds hx dx o tb of:Addr}{n most win:Int}{size:AV}{sg:Bool}{out told:List UInt8}{R:AH}{hd:AV}{b rest:List UInt8}(hb:b.length=4) (hl:rest.length≤1000) (hout:out.length<32) (hv:le b≠dO out%4294967296):c6 w 8 1643 [.ref r] ((p,.ba (b++rest))::(t,.ba told)::(r,.inst 1646 d)::(d,t7 p t n (.ref s) hd (.bool true))::(o,.ba out)::(s,.inst 1560 ds)::(ds,G1 hx most o tb of)::(hx,.inst 1418 dx)::(dx,M9 win size true sg)::R) (XO fun e C dd t' R'=>∃p,XS 179 ((r,.inst 1646 d)::(d,t7 p t n (.ref s) hd (.bool true))::R) e C dd t' R') (fun _ _=>False):=by
 refine f6 (X:=fun fx=>XB fx.L _) (d:=d1643) (dv:=[]) (Y7 _) [] .nil rfl (Q8 _) (K5) (fun fx c hh hst hfr=>⟨?_,j2 c hst hfr⟩)
 refine v9 fun Q hQ=>?_
 refine(?_:Ex _ _ _ _ (_::_) _ _ _)
 refine' zT ?_
 refine' zf ?_
 refine' zE ?_
 refine' b9 ?_
 refine' zp ?_
 refine' zM ?_
 refine' a8 ?_
 refine' b9 ?_
 refine' zv ?_
 refine' a8 ?_
 refine' b9 ?_
 refine' zp ?_
 refine' zm ?_
 refine f5 c hh (by kernel_rfl) (z0 (by da_tab)) (n7 (r:=r) (d:=d) (p:=p) (t:=t) (n:=n) (st:=.ref s) (hd:=hd) (cl:=(.bool true)) (told:=told) (b:=b++rest) (k:=4) (by simp only[List.length_append];exact Jr hb hl) (fun p'=>?_))
 rw[List.take_left' hb,List.drop_left' hb]
 refine' za ?_
 refine g6 c hh (gI:=361) (by kernel_rfl) (by kernel_rfl) (fun x dx2=>i6 (b:=b) (by exact Ew hb) (.mk ?_))
 refine' zm ?_
 refine a9 c hh (by kernel_rfl) (j1 (k:=4) (p:=0) (by exact Ew hb) (by exact JG hb) (by exact Nat.le_add_left _ _) ?_)
 rw[List.drop_zero,List.take_of_length_le (by exact JH hb)]
 refine' za ?_
 have hlt:=yF b
 rw[hb] at hlt
 refine y4 c hh (oN (out:=out) (s:=s) (ds:=ds) (o:=o) (R:=(r,.inst 1646 d)::(d,t7 p' t n (.ref s) hd (.bool true))::R) hout (by law_side) (by law_side) (by law_side) (by exact Int.natCast_nonneg _) (by omega) (by exact Mi hv) ?_) (by decide) (.refl _) (eY (fun e C d t R h=>⟨p',h⟩)) (fun r H' hq=>hq.elim)
 law_side
theorem hM{w:World}{r d p t s:Addr}{n:Int}{told b:List UInt8}{R:AH}(hb:b.length<3) {Q:AV→AH→Prop}(hq:Q (.bool false) ((p,.ba b)::(t,.ba told)::(r,.inst 1646 d)::(d,t7 p t n (.ref s) .none (.bool false))::R)):c6 w 1 1615 [.ref r] ((p,.ba b)::(t,.ba told)::(r,.inst 1646 d)::(d,t7 p t n (.ref s) .none (.bool false))::R) (fun _ _=>False) Q:=by
 refine c9 (d:=d1615) (dv:=[]) (E2 _) [] .nil rfl (B9 _) (y5) (fun fx c hh=>?_)
 refine(?_:Ex _ _ _ _ (_::_) _ _ _)
 refine' zf ?_
 refine' d3 ?_
 refine' d6 rfl ?_
 refine' zp ?_
 refine' zp ?_
 refine' i8 (by exact E7 _) ?_
 refine' zF ?_
 refine' c7 ?_
 refine' zf ?_
 refine' d3 ?_
 refine' d6 rfl ?_
 refine' zp ?_
 refine' zp ?_
 refine' i8 (by exact x0) ?_
 refine' zV ?_
 refine' zT ?_
 refine' zr ?_
 refine' n9 ?_
 refine' n9 ?_
 exact⟨_,.refl _,hq⟩
theorem wK{w:World}{r d p t s ds hx o tb of:Addr}{n most:Int}{told b rest:List UInt8}{last:Bool}{kind size:Int}{R:AH}(hb:b.length=3) (hl:rest.length≤1000) (e1:(Builtin.bitAnd (le b) 1 == 1)=last) (e2:Builtin.bitAnd ((le b:Int).fdiv (2 ^ (1:Int).toNat)) 3=kind) (e3:(le b:Int).fdiv (2 ^ (3:Int).toNat)=size) (i1:In1 s (.inst 1560 ds) R) (i2:In1 ds (G1 hx most o tb of) R) (hk:kind≠3) (hm:size≤most) {Q:AV→AH→Prop}(hq:∀p h dh,Q (.bool true) ((h,.inst 1467 dh)::(dh,cG last kind size)::(p,.ba rest)::(t,.ba told)::(r,.inst 1646 d)::(d,t7 p t n (.ref s) (.ref h) (.bool false))::R)):c6 w 6 1615 [.ref r] ((p,.ba (b++rest))::(t,.ba told)::(r,.inst 1646 d)::(d,t7 p t n (.ref s) .none (.bool false))::R) (fun _ _=>False) Q:=by
 refine c9 (d:=d1615) (dv:=[]) (E2 _) [] .nil rfl (B9 _) (y5) (fun fx c hh=>?_)
 refine(?_:Ex _ _ _ _ (_::_) _ _ _)
 refine' zf ?_
 refine' d3 ?_
 refine' d6 rfl ?_
 refine' zp ?_
 refine' zp ?_
 refine' i8 (by exact E7 _) ?_
 refine' zF ?_
 refine' c7 ?_
 refine' zf ?_
 refine' d3 ?_
 refine' d6 rfl ?_
 refine' zp ?_
 refine' zp ?_
 refine' i8 (by exact x0) ?_
 refine' zV ?_
 refine' zf ?_
 refine' zC ?_
 refine' zv ?_
 refine' a8 ?_
 refine' zv ?_
 refine' a8 ?_
 refine' b9 ?_
 refine' zp ?_
 refine' zm ?_
 refine f5 c hh (by kernel_rfl) (z0 (by da_tab)) (n7 (r:=r) (d:=d) (p:=p) (t:=t) (n:=n) (st:=.ref s) (hd:=.none) (cl:=(.bool false)) (told:=told) (b:=b++rest) (k:=3) (by simp only[List.length_append];exact Hx hb hl) (fun p'=>?_))
 rw[List.take_left' hb,List.drop_left' hb]
 refine' za ?_
 refine g6 c hh (gI:=361) (by kernel_rfl) (by kernel_rfl) (fun x dx2=>i6 (b:=b) (by exact Eu hb) (.mk ?_))
 refine' za ?_
 refine a9 c hh (by kernel_rfl) (w6 hb (fun hx' dhx'=>?_))
 rw[e1]
 rw[show(le b:Int).fdiv 2=(le b:Int).fdiv (2 ^ (1:Int).toNat) from rfl,e2,show(le b:Int).fdiv 8=(le b:Int).fdiv (2 ^ (3:Int).toNat) from rfl,e3]
 refine' zp ?_
 refine' zu ?_
 refine b8 ?_
 refine fQ ?_
 refine' b9 ?_
 refine' zp ?_
 refine' zM ?_
 refine' za ?_
 refine a9 c hh (by kernel_rfl) (w7 (h:=hx') (dh:=dhx') (last:=last) (by law_side) (by law_side) (by law_side) (by law_side) hk hm ?_)
 skip
 refine⟨⟨_,rfl⟩,?_⟩
 refine' d9 ?_
 refine' zr ?_
 refine' n9 ?_
 exact⟨_,.refl _,hq p' hx' dhx'⟩
theorem oP{w:World}{r d p t s ds hx o tb of:Addr}{n most:Int}{told b rest:List UInt8}{last:Bool}{size:Int}{R:AH}(hb:b.length=3) (hl:rest.length≤1000) (e1:(Builtin.bitAnd (le b) 1 == 1)=last) (e2:Builtin.bitAnd ((le b:Int).fdiv (2 ^ (1:Int).toNat)) 3=3) (e3:(le b:Int).fdiv (2 ^ (3:Int).toNat)=size) (i1:In1 s (.inst 1560 ds) R) (i2:In1 ds (G1 hx most o tb of) R) :c6 w 6 1615 [.ref r] ((p,.ba (b++rest))::(t,.ba told)::(r,.inst 1646 d)::(d,t7 p t n (.ref s) .none (.bool false))::R) (XO fun e C dd t' R'=>∃p h,XS 64 ((r,.inst 1646 d)::(d,t7 p t n (.ref s) (.ref h) (.bool false))::R) e C dd t' R') (fun _ _=>False):=by
 refine f6 (X:=fun fx=>XB fx.L _) (d:=d1615) (dv:=[]) (E2 _) [] .nil rfl (B9 _) (y5) (fun fx c hh hst hfr=>⟨?_,j2 c hst hfr⟩)
 refine v9 fun Q hQ=>?_
 refine(?_:Ex _ _ _ _ (_::_) _ _ _)
 refine' zf ?_
 refine' d3 ?_
 refine' d6 rfl ?_
 refine' zp ?_
 refine' zp ?_
 refine' i8 (by exact E7 _) ?_
 refine' zF ?_
 refine' c7 ?_
 refine' zf ?_
 refine' d3 ?_
 refine' d6 rfl ?_
 refine' zp ?_
 refine' zp ?_
 refine' i8 (by exact x0) ?_
 refine' zV ?_
 refine' zf ?_
 refine' zC ?_
 refine' zv ?_
 refine' a8 ?_
 refine' zv ?_
 refine' a8 ?_
 refine' b9 ?_
 refine' zp ?_
 refine' zm ?_
 refine f5 c hh (by kernel_rfl) (z0 (by da_tab)) (n7 (r:=r) (d:=d) (p:=p) (t:=t) (n:=n) (st:=.ref s) (hd:=.none) (cl:=(.bool false)) (told:=told) (b:=b++rest) (k:=3) (by simp only[List.length_append];exact Hx hb hl) (fun p'=>?_))
 rw[List.take_left' hb,List.drop_left' hb]
 refine' za ?_
 refine g6 c hh (gI:=361) (by kernel_rfl) (by kernel_rfl) (fun x dx2=>i6 (b:=b) (by exact Eu hb) (.mk ?_))
 refine' za ?_
 refine a9 c hh (by kernel_rfl) (w6 hb (fun hx' dhx'=>?_))
 rw[e1]
 rw[show(le b:Int).fdiv 2=(le b:Int).fdiv (2 ^ (1:Int).toNat) from rfl,e2,show(le b:Int).fdiv 8=(le b:Int).fdiv (2 ^ (3:Int).toNat) from rfl,e3]
 refine' zp ?_
 refine' zu ?_
 refine b8 ?_
 refine fQ ?_
 refine' b9 ?_
 refine' zp ?_
 refine' zM ?_
 refine' za ?_
 refine y4 c hh (gX (h:=hx') (dh:=dhx') (last:=last) (R:=(r,.inst 1646 d)::(d,t7 p' t n (.ref s) (.ref hx') (.bool false))::R) (by law_side) (by law_side) (by law_side) (by law_side) ?_) (by decide) (.refl _) (eY (fun e C d t R (h:XS _ _ e C d t R)=>⟨p',hx',h⟩)) (fun r H' hq=>hq.elim)
 law_side
theorem hO{w:World}{r d p t s ds hx o tb of:Addr}{n:Int}{told b rest:List UInt8}{last:Bool}{R:AH}(hb:b.length=3) (hl:rest.length≤1000) (e1:(Builtin.bitAnd (le b) 1 == 1)=last) (e2:Builtin.bitAnd ((le b:Int).fdiv (2 ^ (1:Int).toNat)) 3=0) (e3:(le b:Int).fdiv (2 ^ (3:Int).toNat)=1025) (i1:In1 s (.inst 1560 ds) R) (i2:In1 ds (G1 hx 1024 o tb of) R) :c6 w 6 1615 [.ref r] ((p,.ba (b++rest))::(t,.ba told)::(r,.inst 1646 d)::(d,t7 p t n (.ref s) .none (.bool false))::R) (XO fun e C dd t' R'=>∃p h,XS 255 ((r,.inst 1646 d)::(d,t7 p t n (.ref s) (.ref h) (.bool false))::R) e C dd t' R') (fun _ _=>False):=by
 refine f6 (X:=fun fx=>XB fx.L _) (d:=d1615) (dv:=[]) (E2 _) [] .nil rfl (B9 _) (y5) (fun fx c hh hst hfr=>⟨?_,j2 c hst hfr⟩)
 refine v9 fun Q hQ=>?_
 refine(?_:Ex _ _ _ _ (_::_) _ _ _)
 refine' zf ?_
 refine' d3 ?_
 refine' d6 rfl ?_
 refine' zp ?_
 refine' zp ?_
 refine' i8 (by exact E7 _) ?_
 refine' zF ?_
 refine' c7 ?_
 refine' zf ?_
 refine' d3 ?_
 refine' d6 rfl ?_
 refine' zp ?_
 refine' zp ?_
 refine' i8 (by exact x0) ?_
 refine' zV ?_
 refine' zf ?_
 refine' zC ?_
 refine' zv ?_
 refine' a8 ?_
 refine' zv ?_
 refine' a8 ?_
 refine' b9 ?_
 refine' zp ?_
 refine' zm ?_
 refine f5 c hh (by kernel_rfl) (z0 (by da_tab)) (n7 (r:=r) (d:=d) (p:=p) (t:=t) (n:=n) (st:=.ref s) (hd:=.none) (cl:=(.bool false)) (told:=told) (b:=b++rest) (k:=3) (by simp only[List.length_append];exact Hx hb hl) (fun p'=>?_))
 rw[List.take_left' hb,List.drop_left' hb]
 refine' za ?_
 refine g6 c hh (gI:=361) (by kernel_rfl) (by kernel_rfl) (fun x dx2=>i6 (b:=b) (by exact Eu hb) (.mk ?_))
 refine' za ?_
 refine a9 c hh (by kernel_rfl) (w6 hb (fun hx' dhx'=>?_))
 rw[e1]
 rw[show(le b:Int).fdiv 2=(le b:Int).fdiv (2 ^ (1:Int).toNat) from rfl,e2,show(le b:Int).fdiv 8=(le b:Int).fdiv (2 ^ (3:Int).toNat) from rfl,e3]
 refine' zp ?_
 refine' zu ?_
 refine b8 ?_
 refine fQ ?_
 refine' b9 ?_
 refine' zp ?_
 refine' zM ?_
 refine' za ?_
 refine y4 c hh (fU (h:=hx') (dh:=dhx') (last:=last) (R:=(r,.inst 1646 d)::(d,t7 p' t n (.ref s) (.ref hx') (.bool false))::R) (by law_side) (by law_side) (by law_side) (by law_side) ?_) (by decide) (.refl _) (eY (fun e C d t R (h:XS _ _ e C d t R)=>⟨p',hx',h⟩)) (fun r H' hq=>hq.elim)
 law_side
theorem hU{w:World}{r d p t s ds hx o tb of h dh:Addr}{n most kind size:Int}{last:Bool}{told b:List UInt8}{R:AH}(hl:b.length≤1000) (i1:In1 s (.inst 1560 ds) R) (i2:In1 ds (G1 hx most o tb of) R) (i3:In1 h (.inst 1467 dh) R) (i4:In1 dh (cG last kind size) R) (hk:kind≠3) (hm:size≤most) (hw:(b.length:Int)<if kind=1 then 1 else size) {Q:AV→AH→Prop}(hq:Q (.bool false) ((p,.ba b)::(t,.ba told)::(r,.inst 1646 d)::(d,t7 p t n (.ref s) (.ref h) (.bool false))::R)):c6 w 3 1636 [.ref r] ((p,.ba b)::(t,.ba told)::(r,.inst 1646 d)::(d,t7 p t n (.ref s) (.ref h) (.bool false))::R) (fun _ _=>False) Q:=by
 refine c9 (d:=d1636) (dv:=[]) (x8 _) [] .nil rfl (u7 _) (t6) (fun fx c hh=>?_)
 refine(?_:Ex _ _ _ _ (_::_) _ _ _)
 refine' zS ?_
 refine' b9 ?_
 refine' zp ?_
 refine' zM ?_
 refine' za ?_
 refine a9 c hh (by kernel_rfl) (w7 (s:=s) (h:=h) (by law_side) (by law_side) (by law_side) (by law_side) hk hm ?_)
 refine'⟨_,by da_tab,?_⟩
 refine' zT ?_
 refine' zr ?_
 refine' n9 ?_
 exact⟨_,.refl _,hq⟩
theorem oQ{w:World}{r d p t s ds hx dx o tb of h dh:Addr}{n most win size:Int}  {ck sg:Bool}{told out b rest:List UInt8}{R:AH}(hl:rest.length≤1000) (hl1:out.length≤500) (hl2:told.length≤1000) (hb:b.length=b.length) (hsb:(b.length:Int)=size) (hb3:b.length≤500) (hm:size≤most) {Q:AV→AH→Prop}(hq:∀p,Q (.bool true) ((o,.ba (out++(b)))::(s,.inst 1560 ds)::(ds,G1 hx most o tb of)::(hx,.inst 1418 dx)::(dx,M9 win .none ck sg)::(p,.ba rest)::(t,.ba (told++(b)))::(r,.inst 1646 d)::(d,t7 p t n (.ref s) .none (.bool false))::R)):c6 w 6 1636 [.ref r] ((p,.ba (b++rest))::(t,.ba told)::(r,.inst 1646 d)::(d,t7 p t n (.ref s) (.ref h) (.bool false))::(h,.inst 1467 dh)::(dh,cG false 0 size)::(o,.ba out)::(s,.inst 1560 ds)::(ds,G1 hx most o tb of)::(hx,.inst 1418 dx)::(dx,M9 win .none ck sg)::R) (fun _ _=>False) Q:=by
 subst hsb
 refine c9 (d:=d1636) (dv:=[]) (x8 _) [] .nil rfl (u7 _) (t6) (fun fx c hh=>?_)
 refine(?_:Ex _ _ _ _ (_::_) _ _ _)
 refine' zS ?_
 refine' b9 ?_
 refine' zp ?_
 refine' zm ?_
 refine a9 c hh (by kernel_rfl) (w7 (s:=s) (h:=h) (by law_side) (by law_side) (by law_side) (by law_side) (by decide) hm ?_)
 rw[if_neg (by decide:¬ (0:Int)=1)]
 refine'⟨_,by da_tab,?_⟩
 refine' zf ?_
 refine' zs ?_
 refine' zE ?_
 refine' b9 ?_
 refine' zp ?_
 refine' j7 (H':=[]) (d:=[]) (by assumption) ?_ (by law_side) (by kernel_rfl)
 refine' a8 ?_
 refine' b9 ?_
 refine' zp ?_
 refine' zM ?_
 refine' a8 ?_
 refine' zp ?_
 refine' a8 ?_
 refine' b9 ?_
 refine' zp ?_
 refine' zm ?_
 refine f5 c hh (by kernel_rfl) (z0 (by da_tab)) (n7 (r:=r) (d:=d) (p:=p) (t:=t) (n:=n) (st:=.ref s) (hd:=.ref h) (cl:=(.bool false)) (told:=told) (b:=b++rest) (k:=b.length) (by simp only[List.length_append];exact Bm hl hb3) (fun p'=>?_))
 rw[List.take_left' hb,List.drop_left' hb]
 refine' za ?_
 refine f5 c hh (by kernel_rfl) (Z8 (by da_tab)) (aA (s:=s) (o:=o) (ds:=ds) (hx:=hx) (dx:=dx) (h:=h) (dh:=dh) (most:=most) (win:=win) (ck:=ck) (sg:=sg) (tb:=tb) (of:=of) (last:=false) (out:=out) (content:=b) (size:=(b.length:Int)) (by exact pO hl1) (by exact pO hb3) ?_)
 refine' za ?_
 refine'⟨_,_,_,rfl,by law_side,by da_tab,by exact En hl2 hb3,?_⟩
 refine'⟨rfl,?_⟩
 refine' zo ?_
 refine' zf ?_
 refine' zr ?_
 exact⟨_,(by law_side),hq _⟩
theorem aD{w:World}{r d p t s ds hx dx o tb of h dh:Addr}{n most win size:Int}  {ck sg:Bool}{told out b rest:List UInt8}{R:AH}(hl:rest.length≤1000) (hl1:out.length≤500) (hl2:told.length≤1000) (hb:b.length=b.length) (hsb:(b.length:Int)=size) (hb3:b.length≤500) (hm:size≤most) {Q:AV→AH→Prop}(hq:∀p,Q (.bool true) ((o,.ba (out++(b)))::(s,.inst 1560 ds)::(ds,G1 hx most o tb of)::(hx,.inst 1418 dx)::(dx,M9 win .none ck sg)::(p,.ba rest)::(t,.ba (told++(b)))::(r,.inst 1646 d)::(d,t7 p t n (.ref s) .none (.bool true))::R)):c6 w 6 1636 [.ref r] ((p,.ba (b++rest))::(t,.ba told)::(r,.inst 1646 d)::(d,t7 p t n (.ref s) (.ref h) (.bool false))::(h,.inst 1467 dh)::(dh,cG true 0 size)::(o,.ba out)::(s,.inst 1560 ds)::(ds,G1 hx most o tb of)::(hx,.inst 1418 dx)::(dx,M9 win .none ck sg)::R) (fun _ _=>False) Q:=by
 subst hsb
 refine c9 (d:=d1636) (dv:=[]) (x8 _) [] .nil rfl (u7 _) (t6) (fun fx c hh=>?_)
 refine(?_:Ex _ _ _ _ (_::_) _ _ _)
 refine' zS ?_
 refine' b9 ?_
 refine' zp ?_
 refine' zm ?_
 refine a9 c hh (by kernel_rfl) (w7 (s:=s) (h:=h) (by law_side) (by law_side) (by law_side) (by law_side) (by decide) hm ?_)
 rw[if_neg (by decide:¬ (0:Int)=1)]
 refine'⟨_,by da_tab,?_⟩
 refine' zf ?_
 refine' zs ?_
 refine' zE ?_
 refine' b9 ?_
 refine' zp ?_
 refine' j7 (H':=[]) (d:=[]) (by assumption) ?_ (by law_side) (by kernel_rfl)
 refine' a8 ?_
 refine' b9 ?_
 refine' zp ?_
 refine' zM ?_
 refine' a8 ?_
 refine' zp ?_
 refine' a8 ?_
 refine' b9 ?_
 refine' zp ?_
 refine' zm ?_
 refine f5 c hh (by kernel_rfl) (z0 (by da_tab)) (n7 (r:=r) (d:=d) (p:=p) (t:=t) (n:=n) (st:=.ref s) (hd:=.ref h) (cl:=(.bool false)) (told:=told) (b:=b++rest) (k:=b.length) (by simp only[List.length_append];exact Bm hl hb3) (fun p'=>?_))
 rw[List.take_left' hb,List.drop_left' hb]
 refine' za ?_
 refine f5 c hh (by kernel_rfl) (Z8 (by da_tab)) (aA (s:=s) (o:=o) (ds:=ds) (hx:=hx) (dx:=dx) (h:=h) (dh:=dh) (most:=most) (win:=win) (ck:=ck) (sg:=sg) (tb:=tb) (of:=of) (last:=true) (out:=out) (content:=b) (size:=(b.length:Int)) (by exact pO hl1) (by exact pO hb3) ?_)
 refine' za ?_
 refine'⟨_,_,_,rfl,by law_side,by da_tab,by exact En hl2 hb3,?_⟩
 refine'⟨rfl,?_⟩
 refine' zo ?_
 refine' zT ?_
 refine' zE ?_
 refine' b9 ?_
 refine' zp ?_
 refine' zN ?_
 refine a9 c hh (by kernel_rfl) (U8 (s:=s) (o:=o) (out:=out++(b)) (by simp only[List.length_append];exact Et hb3 hl1) (by law_side) (by law_side) (by law_side) (by law_side) (by law_side) ?_)
 refine'⟨rfl,?_⟩
 refine' zo ?_
 refine' c7 ?_
 refine' zr ?_
 exact⟨_,(by law_side),hq _⟩
theorem hV{w:World}{r d p t s ds hx dx o tb of h dh:Addr}{n most win size:Int}{sz:Nat}{ck sg:Bool}{told out b rest:List UInt8}{R:AH}(hl:rest.length≤1000) (hl1:out.length≤500) (hl2:told.length≤1000) (hb:b.length=b.length) (hsb:(b.length:Int)=size) (hb3:b.length≤500) (hsz:out.length+(b).length≤sz) (hm:size≤most) {Q:AV→AH→Prop}(hq:∀p,Q (.bool true) ((o,.ba (out++(b)))::(s,.inst 1560 ds)::(ds,G1 hx most o tb of)::(hx,.inst 1418 dx)::(dx,M9 win (.int sz) ck sg)::(p,.ba rest)::(t,.ba (told++(b)))::(r,.inst 1646 d)::(d,t7 p t n (.ref s) .none (.bool false))::R)):c6 w 6 1636 [.ref r] ((p,.ba (b++rest))::(t,.ba told)::(r,.inst 1646 d)::(d,t7 p t n (.ref s) (.ref h) (.bool false))::(h,.inst 1467 dh)::(dh,cG false 0 size)::(o,.ba out)::(s,.inst 1560 ds)::(ds,G1 hx most o tb of)::(hx,.inst 1418 dx)::(dx,M9 win (.int sz) ck sg)::R) (fun _ _=>False) Q:=by
 subst hsb
 refine c9 (d:=d1636) (dv:=[]) (x8 _) [] .nil rfl (u7 _) (t6) (fun fx c hh=>?_)
 refine(?_:Ex _ _ _ _ (_::_) _ _ _)
 refine' zS ?_
 refine' b9 ?_
 refine' zp ?_
 refine' zm ?_
 refine a9 c hh (by kernel_rfl) (w7 (s:=s) (h:=h) (by law_side) (by law_side) (by law_side) (by law_side) (by decide) hm ?_)
 rw[if_neg (by decide:¬ (0:Int)=1)]
 refine'⟨_,by da_tab,?_⟩
 refine' zf ?_
 refine' zs ?_
 refine' zE ?_
 refine' b9 ?_
 refine' zp ?_
 refine' j7 (H':=[]) (d:=[]) (by assumption) ?_ (by law_side) (by kernel_rfl)
 refine' a8 ?_
 refine' b9 ?_
 refine' zp ?_
 refine' zM ?_
 refine' a8 ?_
 refine' zp ?_
 refine' a8 ?_
 refine' b9 ?_
 refine' zp ?_
 refine' zm ?_
 refine f5 c hh (by kernel_rfl) (z0 (by da_tab)) (n7 (r:=r) (d:=d) (p:=p) (t:=t) (n:=n) (st:=.ref s) (hd:=.ref h) (cl:=(.bool false)) (told:=told) (b:=b++rest) (k:=b.length) (by simp only[List.length_append];exact Bm hl hb3) (fun p'=>?_))
 rw[List.take_left' hb,List.drop_left' hb]
 refine' za ?_
 refine f5 c hh (by kernel_rfl) (Z8 (by da_tab)) (I4 (sz:=sz) (s:=s) (o:=o) (ds:=ds) (hx:=hx) (dx:=dx) (h:=h) (dh:=dh) (most:=most) (win:=win) (ck:=ck) (sg:=sg) (tb:=tb) (of:=of) (last:=false) (out:=out) (content:=b) (size:=(b.length:Int)) (by exact pO hl1) (by exact pO hb3) (by assumption) ?_)
 refine' za ?_
 refine'⟨_,_,_,rfl,by law_side,by da_tab,by exact En hl2 hb3,?_⟩
 refine'⟨rfl,?_⟩
 refine' zo ?_
 refine' zf ?_
 refine' zr ?_
 exact⟨_,(by law_side),hq _⟩
theorem W5{w:World}{r d p t s ds hx dx o tb of h dh:Addr}{n most win size:Int}{sz:Nat}{ck sg:Bool}{told out b rest:List UInt8}{R:AH}(hl:rest.length≤1000) (hl1:out.length≤500) (hl2:told.length≤1000) (hb:b.length=b.length) (hsb:(b.length:Int)=size) (hb3:b.length≤500) (hsz:out.length+(b).length=sz) (hm:size≤most) {Q:AV→AH→Prop}(hq:∀p,Q (.bool true) ((o,.ba (out++(b)))::(s,.inst 1560 ds)::(ds,G1 hx most o tb of)::(hx,.inst 1418 dx)::(dx,M9 win (.int sz) ck sg)::(p,.ba rest)::(t,.ba (told++(b)))::(r,.inst 1646 d)::(d,t7 p t n (.ref s) .none (.bool true))::R)):c6 w 6 1636 [.ref r] ((p,.ba (b++rest))::(t,.ba told)::(r,.inst 1646 d)::(d,t7 p t n (.ref s) (.ref h) (.bool false))::(h,.inst 1467 dh)::(dh,cG true 0 size)::(o,.ba out)::(s,.inst 1560 ds)::(ds,G1 hx most o tb of)::(hx,.inst 1418 dx)::(dx,M9 win (.int sz) ck sg)::R) (fun _ _=>False) Q:=by
 subst hsb
 refine c9 (d:=d1636) (dv:=[]) (x8 _) [] .nil rfl (u7 _) (t6) (fun fx c hh=>?_)
 refine(?_:Ex _ _ _ _ (_::_) _ _ _)
 refine' zS ?_
 refine' b9 ?_
 refine' zp ?_
 refine' zm ?_
 refine a9 c hh (by kernel_rfl) (w7 (s:=s) (h:=h) (by law_side) (by law_side) (by law_side) (by law_side) (by decide) hm ?_)
 rw[if_neg (by decide:¬ (0:Int)=1)]
 refine'⟨_,by da_tab,?_⟩
 refine' zf ?_
 refine' zs ?_
 refine' zE ?_
 refine' b9 ?_
 refine' zp ?_
 refine' j7 (H':=[]) (d:=[]) (by assumption) ?_ (by law_side) (by kernel_rfl)
 refine' a8 ?_
 refine' b9 ?_
 refine' zp ?_
 refine' zM ?_
 refine' a8 ?_
 refine' zp ?_
 refine' a8 ?_
 refine' b9 ?_
 refine' zp ?_
 refine' zm ?_
 refine f5 c hh (by kernel_rfl) (z0 (by da_tab)) (n7 (r:=r) (d:=d) (p:=p) (t:=t) (n:=n) (st:=.ref s) (hd:=.ref h) (cl:=(.bool false)) (told:=told) (b:=b++rest) (k:=b.length) (by simp only[List.length_append];exact Bm hl hb3) (fun p'=>?_))
 rw[List.take_left' hb,List.drop_left' hb]
 refine' za ?_
 refine f5 c hh (by kernel_rfl) (Z8 (by da_tab)) (I4 (sz:=sz) (s:=s) (o:=o) (ds:=ds) (hx:=hx) (dx:=dx) (h:=h) (dh:=dh) (most:=most) (win:=win) (ck:=ck) (sg:=sg) (tb:=tb) (of:=of) (last:=true) (out:=out) (content:=b) (size:=(b.length:Int)) (by exact pO hl1) (by exact pO hb3) (by exact IZ hsz) ?_)
 refine' za ?_
 refine'⟨_,_,_,rfl,by law_side,by da_tab,by exact En hl2 hb3,?_⟩
 refine'⟨rfl,?_⟩
 refine' zo ?_
 refine' zT ?_
 refine' zE ?_
 refine' b9 ?_
 refine' zp ?_
 refine' zN ?_
 refine a9 c hh (by kernel_rfl) (U9 (s:=s) (o:=o) (out:=out++(b)) (by simp only[List.length_append];exact Et hb3 hl1) (by law_side) (by law_side) (by law_side) (by law_side) (by law_side) (by rw[List.length_append];exact hsz) ?_)
 refine'⟨rfl,?_⟩
 refine' zo ?_
 refine' c7 ?_
 refine' zr ?_
 exact⟨_,(by law_side),hq _⟩
theorem oR{w:World}{r d p t s ds hx dx o tb of h dh:Addr}{n most win size:Int}  {ck sg:Bool}{told out b rest:List UInt8}{R:AH}(hl:rest.length≤1000) (hl1:out.length≤500) (hl2:told.length≤1000) (hb:b.length=1) (hs1:1≤size) (hs2:size≤1000) (hl3:(List.replicate size.toNat b).flatten.length≤500) (hm:size≤most) {Q:AV→AH→Prop}(hq:∀p,Q (.bool true) ((o,.ba (out++((List.replicate size.toNat b).flatten)))::(s,.inst 1560 ds)::(ds,G1 hx most o tb of)::(hx,.inst 1418 dx)::(dx,M9 win .none ck sg)::(p,.ba rest)::(t,.ba (told++((List.replicate size.toNat b).flatten)))::(r,.inst 1646 d)::(d,t7 p t n (.ref s) .none (.bool false))::R)):c6 w 6 1636 [.ref r] ((p,.ba (b++rest))::(t,.ba told)::(r,.inst 1646 d)::(d,t7 p t n (.ref s) (.ref h) (.bool false))::(h,.inst 1467 dh)::(dh,cG false 1 size)::(o,.ba out)::(s,.inst 1560 ds)::(ds,G1 hx most o tb of)::(hx,.inst 1418 dx)::(dx,M9 win .none ck sg)::R) (fun _ _=>False) Q:=by
 refine c9 (d:=d1636) (dv:=[]) (x8 _) [] .nil rfl (u7 _) (t6) (fun fx c hh=>?_)
 refine(?_:Ex _ _ _ _ (_::_) _ _ _)
 refine' zS ?_
 refine' b9 ?_
 refine' zp ?_
 refine' zm ?_
 refine a9 c hh (by kernel_rfl) (w7 (s:=s) (h:=h) (by law_side) (by law_side) (by law_side) (by law_side) (by decide) hm ?_)
 rw[if_pos (rfl:(1:Int)=1)]
 refine'⟨_,by da_tab,?_⟩
 refine' zf ?_
 refine' zs ?_
 refine' zE ?_
 refine' b9 ?_
 refine' zp ?_
 refine' j7 (H':=[]) (d:=[]) (by assumption) ?_ (by law_side) (by kernel_rfl)
 refine' a8 ?_
 refine' b9 ?_
 refine' zp ?_
 refine' zM ?_
 refine' a8 ?_
 refine' zp ?_
 refine' a8 ?_
 refine' b9 ?_
 refine' zp ?_
 refine' zm ?_
 refine f5 c hh (by kernel_rfl) (z0 (by da_tab)) (n7 (r:=r) (d:=d) (p:=p) (t:=t) (n:=n) (st:=.ref s) (hd:=.ref h) (cl:=(.bool false)) (told:=told) (b:=b++rest) (k:=1) (by simp only[List.length_append];exact Er hb hl) (fun p'=>?_))
 rw[List.take_left' hb,List.drop_left' hb]
 refine' za ?_
 refine f5 c hh (by kernel_rfl) (Z8 (by da_tab)) (aB (s:=s) (o:=o) (ds:=ds) (hx:=hx) (dx:=dx) (h:=h) (dh:=dh) (most:=most) (win:=win) (ck:=ck) (sg:=sg) (tb:=tb) (of:=of) (last:=false) (out:=out) (content:=b) (size:=size) (by exact pO hl1) (by exact Bo hb) (by intro e;rw[e] at hb;cases hb) hs1 hs2 (by exact pO hl3) ?_)
 refine' za ?_
 refine'⟨_,_,_,rfl,by law_side,by da_tab,by exact En hl2 hl3,?_⟩
 refine'⟨rfl,?_⟩
 refine' zo ?_
 refine' zf ?_
 refine' zr ?_
 exact⟨_,(by law_side),hq _⟩
theorem aE{w:World}{r d p t s ds hx dx o tb of h dh:Addr}{n most win size:Int}  {ck sg:Bool}{told out b rest:List UInt8}{R:AH}(hl:rest.length≤1000) (hl1:out.length≤500) (hl2:told.length≤1000) (hb:b.length=1) (hs1:1≤size) (hs2:size≤1000) (hl3:(List.replicate size.toNat b).flatten.length≤500) (hm:size≤most) {Q:AV→AH→Prop}(hq:∀p,Q (.bool true) ((o,.ba (out++((List.replicate size.toNat b).flatten)))::(s,.inst 1560 ds)::(ds,G1 hx most o tb of)::(hx,.inst 1418 dx)::(dx,M9 win .none ck sg)::(p,.ba rest)::(t,.ba (told++((List.replicate size.toNat b).flatten)))::(r,.inst 1646 d)::(d,t7 p t n (.ref s) .none (.bool true))::R)):c6 w 6 1636 [.ref r] ((p,.ba (b++rest))::(t,.ba told)::(r,.inst 1646 d)::(d,t7 p t n (.ref s) (.ref h) (.bool false))::(h,.inst 1467 dh)::(dh,cG true 1 size)::(o,.ba out)::(s,.inst 1560 ds)::(ds,G1 hx most o tb of)::(hx,.inst 1418 dx)::(dx,M9 win .none ck sg)::R) (fun _ _=>False) Q:=by
 refine c9 (d:=d1636) (dv:=[]) (x8 _) [] .nil rfl (u7 _) (t6) (fun fx c hh=>?_)
 refine(?_:Ex _ _ _ _ (_::_) _ _ _)
 refine' zS ?_
 refine' b9 ?_
 refine' zp ?_
 refine' zm ?_
 refine a9 c hh (by kernel_rfl) (w7 (s:=s) (h:=h) (by law_side) (by law_side) (by law_side) (by law_side) (by decide) hm ?_)
 rw[if_pos (rfl:(1:Int)=1)]
 refine'⟨_,by da_tab,?_⟩
 refine' zf ?_
 refine' zs ?_
 refine' zE ?_
 refine' b9 ?_
 refine' zp ?_
 refine' j7 (H':=[]) (d:=[]) (by assumption) ?_ (by law_side) (by kernel_rfl)
 refine' a8 ?_
 refine' b9 ?_
 refine' zp ?_
 refine' zM ?_
 refine' a8 ?_
 refine' zp ?_
 refine' a8 ?_
 refine' b9 ?_
 refine' zp ?_
 refine' zm ?_
 refine f5 c hh (by kernel_rfl) (z0 (by da_tab)) (n7 (r:=r) (d:=d) (p:=p) (t:=t) (n:=n) (st:=.ref s) (hd:=.ref h) (cl:=(.bool false)) (told:=told) (b:=b++rest) (k:=1) (by simp only[List.length_append];exact Er hb hl) (fun p'=>?_))
 rw[List.take_left' hb,List.drop_left' hb]
 refine' za ?_
 refine f5 c hh (by kernel_rfl) (Z8 (by da_tab)) (aB (s:=s) (o:=o) (ds:=ds) (hx:=hx) (dx:=dx) (h:=h) (dh:=dh) (most:=most) (win:=win) (ck:=ck) (sg:=sg) (tb:=tb) (of:=of) (last:=true) (out:=out) (content:=b) (size:=size) (by exact pO hl1) (by exact Bo hb) (by intro e;rw[e] at hb;cases hb) hs1 hs2 (by exact pO hl3) ?_)
 refine' za ?_
 refine'⟨_,_,_,rfl,by law_side,by da_tab,by exact En hl2 hl3,?_⟩
 refine'⟨rfl,?_⟩
 refine' zo ?_
 refine' zT ?_
 refine' zE ?_
 refine' b9 ?_
 refine' zp ?_
 refine' zN ?_
 refine a9 c hh (by kernel_rfl) (U8 (s:=s) (o:=o) (out:=out++((List.replicate size.toNat b).flatten)) (by simp only[List.length_append];exact Et hl3 hl1) (by law_side) (by law_side) (by law_side) (by law_side) (by law_side) ?_)
 refine'⟨rfl,?_⟩
 refine' zo ?_
 refine' c7 ?_
 refine' zr ?_
 exact⟨_,(by law_side),hq _⟩
theorem hW{w:World}{r d p t s ds hx dx o tb of h dh:Addr}{n most win size:Int}{sz:Nat}{ck sg:Bool}{told out b rest:List UInt8}{R:AH}(hl:rest.length≤1000) (hl1:out.length≤500) (hl2:told.length≤1000) (hb:b.length=1) (hs1:1≤size) (hs2:size≤1000) (hl3:(List.replicate size.toNat b).flatten.length≤500) (hsz:out.length+((List.replicate size.toNat b).flatten).length≤sz) (hm:size≤most) {Q:AV→AH→Prop}(hq:∀p,Q (.bool true) ((o,.ba (out++((List.replicate size.toNat b).flatten)))::(s,.inst 1560 ds)::(ds,G1 hx most o tb of)::(hx,.inst 1418 dx)::(dx,M9 win (.int sz) ck sg)::(p,.ba rest)::(t,.ba (told++((List.replicate size.toNat b).flatten)))::(r,.inst 1646 d)::(d,t7 p t n (.ref s) .none (.bool false))::R)):c6 w 6 1636 [.ref r] ((p,.ba (b++rest))::(t,.ba told)::(r,.inst 1646 d)::(d,t7 p t n (.ref s) (.ref h) (.bool false))::(h,.inst 1467 dh)::(dh,cG false 1 size)::(o,.ba out)::(s,.inst 1560 ds)::(ds,G1 hx most o tb of)::(hx,.inst 1418 dx)::(dx,M9 win (.int sz) ck sg)::R) (fun _ _=>False) Q:=by
 refine c9 (d:=d1636) (dv:=[]) (x8 _) [] .nil rfl (u7 _) (t6) (fun fx c hh=>?_)
 refine(?_:Ex _ _ _ _ (_::_) _ _ _)
 refine' zS ?_
 refine' b9 ?_
 refine' zp ?_
 refine' zm ?_
 refine a9 c hh (by kernel_rfl) (w7 (s:=s) (h:=h) (by law_side) (by law_side) (by law_side) (by law_side) (by decide) hm ?_)
 rw[if_pos (rfl:(1:Int)=1)]
 refine'⟨_,by da_tab,?_⟩
 refine' zf ?_
 refine' zs ?_
 refine' zE ?_
 refine' b9 ?_
 refine' zp ?_
 refine' j7 (H':=[]) (d:=[]) (by assumption) ?_ (by law_side) (by kernel_rfl)
 refine' a8 ?_
 refine' b9 ?_
 refine' zp ?_
 refine' zM ?_
 refine' a8 ?_
 refine' zp ?_
 refine' a8 ?_
 refine' b9 ?_
 refine' zp ?_
 refine' zm ?_
 refine f5 c hh (by kernel_rfl) (z0 (by da_tab)) (n7 (r:=r) (d:=d) (p:=p) (t:=t) (n:=n) (st:=.ref s) (hd:=.ref h) (cl:=(.bool false)) (told:=told) (b:=b++rest) (k:=1) (by simp only[List.length_append];exact Er hb hl) (fun p'=>?_))
 rw[List.take_left' hb,List.drop_left' hb]
 refine' za ?_
 refine f5 c hh (by kernel_rfl) (Z8 (by da_tab)) (U7 (sz:=sz) (s:=s) (o:=o) (ds:=ds) (hx:=hx) (dx:=dx) (h:=h) (dh:=dh) (most:=most) (win:=win) (ck:=ck) (sg:=sg) (tb:=tb) (of:=of) (last:=false) (out:=out) (content:=b) (size:=size) (by exact pO hl1) (by exact Bo hb) (by intro e;rw[e] at hb;cases hb) hs1 hs2 (by exact pO hl3) (by assumption) ?_)
 refine' za ?_
 refine'⟨_,_,_,rfl,by law_side,by da_tab,by exact En hl2 hl3,?_⟩
 refine'⟨rfl,?_⟩
 refine' zo ?_
 refine' zf ?_
 refine' zr ?_
 exact⟨_,(by law_side),hq _⟩
theorem W6{w:World}{r d p t s ds hx dx o tb of h dh:Addr}{n most win size:Int}{sz:Nat}{ck sg:Bool}{told out b rest:List UInt8}{R:AH}(hl:rest.length≤1000) (hl1:out.length≤500) (hl2:told.length≤1000) (hb:b.length=1) (hs1:1≤size) (hs2:size≤1000) (hl3:(List.replicate size.toNat b).flatten.length≤500) (hsz:out.length+((List.replicate size.toNat b).flatten).length=sz) (hm:size≤most) {Q:AV→AH→Prop}(hq:∀p,Q (.bool true) ((o,.ba (out++((List.replicate size.toNat b).flatten)))::(s,.inst 1560 ds)::(ds,G1 hx most o tb of)::(hx,.inst 1418 dx)::(dx,M9 win (.int sz) ck sg)::(p,.ba rest)::(t,.ba (told++((List.replicate size.toNat b).flatten)))::(r,.inst 1646 d)::(d,t7 p t n (.ref s) .none (.bool true))::R)):c6 w 6 1636 [.ref r] ((p,.ba (b++rest))::(t,.ba told)::(r,.inst 1646 d)::(d,t7 p t n (.ref s) (.ref h) (.bool false))::(h,.inst 1467 dh)::(dh,cG true 1 size)::(o,.ba out)::(s,.inst 1560 ds)::(ds,G1 hx most o tb of)::(hx,.inst 1418 dx)::(dx,M9 win (.int sz) ck sg)::R) (fun _ _=>False) Q:=by
 refine c9 (d:=d1636) (dv:=[]) (x8 _) [] .nil rfl (u7 _) (t6) (fun fx c hh=>?_)
 refine(?_:Ex _ _ _ _ (_::_) _ _ _)
 refine' zS ?_
 refine' b9 ?_
 refine' zp ?_
 refine' zm ?_
 refine a9 c hh (by kernel_rfl) (w7 (s:=s) (h:=h) (by law_side) (by law_side) (by law_side) (by law_side) (by decide) hm ?_)
 rw[if_pos (rfl:(1:Int)=1)]
 refine'⟨_,by da_tab,?_⟩
 refine' zf ?_
 refine' zs ?_
 refine' zE ?_
 refine' b9 ?_
 refine' zp ?_
 refine' j7 (H':=[]) (d:=[]) (by assumption) ?_ (by law_side) (by kernel_rfl)
 refine' a8 ?_
 refine' b9 ?_
 refine' zp ?_
 refine' zM ?_
 refine' a8 ?_
 refine' zp ?_
 refine' a8 ?_
 refine' b9 ?_
 refine' zp ?_
 refine' zm ?_
 refine f5 c hh (by kernel_rfl) (z0 (by da_tab)) (n7 (r:=r) (d:=d) (p:=p) (t:=t) (n:=n) (st:=.ref s) (hd:=.ref h) (cl:=(.bool false)) (told:=told) (b:=b++rest) (k:=1) (by simp only[List.length_append];exact Er hb hl) (fun p'=>?_))
 rw[List.take_left' hb,List.drop_left' hb]
 refine' za ?_
 refine f5 c hh (by kernel_rfl) (Z8 (by da_tab)) (U7 (sz:=sz) (s:=s) (o:=o) (ds:=ds) (hx:=hx) (dx:=dx) (h:=h) (dh:=dh) (most:=most) (win:=win) (ck:=ck) (sg:=sg) (tb:=tb) (of:=of) (last:=true) (out:=out) (content:=b) (size:=size) (by exact pO hl1) (by exact Bo hb) (by intro e;rw[e] at hb;cases hb) hs1 hs2 (by exact pO hl3) (by exact IZ hsz) ?_)
 refine' za ?_
 refine'⟨_,_,_,rfl,by law_side,by da_tab,by exact En hl2 hl3,?_⟩
 refine'⟨rfl,?_⟩
 refine' zo ?_
 refine' zT ?_
 refine' zE ?_
 refine' b9 ?_
 refine' zp ?_
 refine' zN ?_
 refine a9 c hh (by kernel_rfl) (U9 (s:=s) (o:=o) (out:=out++((List.replicate size.toNat b).flatten)) (by simp only[List.length_append];exact Et hl3 hl1) (by law_side) (by law_side) (by law_side) (by law_side) (by law_side) (by rw[List.length_append];exact hsz) ?_)
 refine'⟨rfl,?_⟩
 refine' zo ?_
 refine' c7 ?_
 refine' zr ?_
 exact⟨_,(by law_side),hq _⟩
theorem cV{w:World}{r d p t:Addr}{n:Int}{hd cl:AV}{e m:UInt8}{rest told:List UInt8}{ck:Bool}{R:AH}(hl:rest.length≤1000) (h8:Builtin.bitAnd (e.toNat:Int) 8=0) (hs:(Builtin.bitAnd (e.toNat:Int) 32 != 0)=true) (h6:(e.toNat:Int).fdiv (2 ^ (6:Int).toNat)=0) (h3:Builtin.bitAnd (e.toNat:Int) 3=0) (h4:(Builtin.bitAnd (e.toNat:Int) 4 != 0)=ck) {Q:AV→AH→Prop}(hq:∀p s ds hx dx o tb of,Q (.bool true) ((o,.ba [])::(s,.inst 1560 ds)::(ds,G1 hx (m.toNat:Int) o tb of)::(hx,.inst 1418 dx)::(dx,M9 (m.toNat:Int) (.int (m.toNat:Int)) ck true)::(p,.ba rest)::(t,.ba told)::(r,.inst 1646 d)::(d,t7 p t n (.ref s) hd cl)::R)):c6 w 6 1629 [.ref r] ((p,.ba (40::181::47::253::e::m::rest))::(t,.ba told)::(r,.inst 1646 d)::(d,t7 p t n .none hd cl)::R) (fun _ _=>False) Q:=by
 refine c9 (d:=d1629) (dv:=[]) (C5 _) [] .nil rfl (y9 _) (w4) (fun fx c hh=>?_)
 refine(?_:Ex _ _ _ _ (_::_) _ _ _)
 refine' zf ?_
 refine' zS ?_
 refine' zv ?_
 refine' a8 ?_
 refine' zt ?_
 refine' a8 ?_
 refine' m5 ?_
 refine' zp ?_
 refine' r3 ?_
 refine' r4 ?_
 refine' zp ?_
 refine'⟨_,rfl,?_⟩
 refine' H1 (by law_side) (by(simp only[X0,X6,X7,X8,X9];exact EA hl)) (fun _=>?_) (by intro _ _;kernel_rfl)
 refine' za ?_
 rw[show G5 (40::181::47::253::e::m::rest) none (some 5)=[40,181,47,253,e] from by rw[D3 _ _ (by decide)];rfl]
 refine' i0 (by law_side) (by(simp only[X0,X6,X7,X8,X9];exact Nat.le_add_left _ _)) ?_
 refine' za ?_
 refine g6 c hh (gI:=361) (by kernel_rfl) (by kernel_rfl) (fun x dx=>i6 (b:=[40,181,47,253,e]) (nb rfl) (.mk ?_))
 refine'⟨_,by da_tab,?_⟩
 refine' zS ?_
 refine' zc ?_
 refine a9 c hh (by kernel_rfl) (r7 (b:=[40,181,47,253,e]) (nb rfl) (nb rfl) (fun _=>u2 [e]) ?_)
 rw[show((le ([40,181,47,253,e].take 4):Nat):Int)=4247762216 from u2 [e]]
 refine'⟨_,by da_tab,?_⟩
 refine' d3 ?_
 refine' q8 rfl ?_
 refine' zc ?_
 refine a9 c hh (by kernel_rfl) (u5 ?_)
 refine' zF ?_
 refine' c7 ?_
 refine' zE ?_
 refine' zc ?_
 refine a9 c hh (by kernel_rfl) (n6 ?_)
 refine'⟨rfl,?_⟩
 refine' b8 ?_
 refine g9 hh ?_
 refine' zv ?_
 refine' a8 ?_
 refine' i9 ?_
 refine' zp ?_
 refine' zp ?_
 refine W1 (by law_side) (by simp only[List.length_cons];exact EA hl) (by decide) (by simp only[List.length_cons];exact JT) ?_
 rw[show(40::181::47::253::e::m::rest:List UInt8).getD (4:Int).toNat 0=e from rfl]
 refine' za ?_
 refine a9 c hh (by kernel_rfl) (o0 (ic:=0) (t:=2551) h8 hs h6 h3 (by decide) (by decide) rfl (fun tf=>?_))
 refine'⟨_,_,rfl,by law_side,by with_unfolding_all exact rfl,?_⟩
 refine' d8 ?_
 refine' zk ?_
 refine' d8 ?_
 refine' zk ?_
 refine' d8 ?_
 refine' zk ?_
 refine' C1 ?_
 refine' d9 ?_
 refine' zs ?_
 refine' zf ?_
 refine' zS ?_
 refine' zv ?_
 refine' a8 ?_
 refine' zv ?_
 refine' a8 ?_
 refine' b9 ?_
 refine' zp ?_
 refine' zm ?_
 rw[show(5:Int)+(if (!true)=true then 1 else 0)+0+(if true=true then 1 else 0)=((6:Nat):Int) from rfl]
 skip
 refine f5 c hh (by kernel_rfl) (z0 (by da_tab)) (n7 (r:=r) (d:=d) (p:=p) (t:=t) (n:=n) (st:=.none) (hd:=hd) (cl:=cl) (told:=told) (b:=40::181::47::253::e::m::rest) (k:=6) (by simp only[List.length_cons];exact JJ hl) (fun p'=>?_))
 rw[show(40::181::47::253::e::m::rest).take 6=[40,181,47,253,e,m] from rfl,show(40::181::47::253::e::m::rest).drop 6=rest from rfl]
 refine' za ?_
 refine g6 c hh (gI:=361) (by kernel_rfl) (by kernel_rfl) (fun x2 dx2=>i6 (b:=[40,181,47,253,e,m]) (nb rfl) (.mk ?_))
 refine' za ?_
 refine a9 c hh (by kernel_rfl) (W3 h8 hs h6 h3 h4 (fun hx dhx=>?_))
 refine'⟨_,by da_tab,?_⟩
 refine' zC ?_
 refine' zc ?_
 refine g6 c hh (gI:=1501) (by kernel_rfl) (by kernel_rfl) (fun s ds=>yK (by have:=m.toNat_lt;exact NG this) (fun o tb of=>.mk ?_))
 refine' zp ?_
 refine' zu ?_
 refine' zr ?_
 exact⟨_,(by law_side),hq _ _ _ _ _ _ _ _⟩
theorem cW{w:World}{r d p t:Addr}{n:Int}{hd cl:AV}{e:UInt8}{rest told:List UInt8}{ck:Bool}{R:AH}(hl:rest.length≤1000) (h8:Builtin.bitAnd (e.toNat:Int) 8=0) (hs:(Builtin.bitAnd (e.toNat:Int) 32 != 0)=false) (h6:(e.toNat:Int).fdiv (2 ^ (6:Int).toNat)=0) (h3:Builtin.bitAnd (e.toNat:Int) 3=0) (h4:(Builtin.bitAnd (e.toNat:Int) 4 != 0)=ck) {Q:AV→AH→Prop}(hq:∀p s ds hx dx o tb of,Q (.bool true) ((o,.ba [])::(s,.inst 1560 ds)::(ds,G1 hx 1024 o tb of)::(hx,.inst 1418 dx)::(dx,M9 1024 .none ck false)::(p,.ba rest)::(t,.ba told)::(r,.inst 1646 d)::(d,t7 p t n (.ref s) hd cl)::R)):c6 w 6 1629 [.ref r] ((p,.ba (40::181::47::253::e::0::rest))::(t,.ba told)::(r,.inst 1646 d)::(d,t7 p t n .none hd cl)::R) (fun _ _=>False) Q:=by
 refine c9 (d:=d1629) (dv:=[]) (C5 _) [] .nil rfl (y9 _) (w4) (fun fx c hh=>?_)
 refine(?_:Ex _ _ _ _ (_::_) _ _ _)
 refine' zf ?_
 refine' zS ?_
 refine' zv ?_
 refine' a8 ?_
 refine' zt ?_
 refine' a8 ?_
 refine' m5 ?_
 refine' zp ?_
 refine' r3 ?_
 refine' r4 ?_
 refine' zp ?_
 refine'⟨_,rfl,?_⟩
 refine' H1 (by law_side) (by(simp only[X0,X6,X7,X8,X9];exact EA hl)) (fun _=>?_) (by intro _ _;kernel_rfl)
 refine' za ?_
 rw[show G5 (40::181::47::253::e::0::rest) none (some 5)=[40,181,47,253,e] from by rw[D3 _ _ (by decide)];rfl]
 refine' i0 (by law_side) (by(simp only[X0,X6,X7,X8,X9];exact Nat.le_add_left _ _)) ?_
 refine' za ?_
 refine g6 c hh (gI:=361) (by kernel_rfl) (by kernel_rfl) (fun x dx=>i6 (b:=[40,181,47,253,e]) (nb rfl) (.mk ?_))
 refine'⟨_,by da_tab,?_⟩
 refine' zS ?_
 refine' zc ?_
 refine a9 c hh (by kernel_rfl) (r7 (b:=[40,181,47,253,e]) (nb rfl) (nb rfl) (fun _=>u2 [e]) ?_)
 rw[show((le ([40,181,47,253,e].take 4):Nat):Int)=4247762216 from u2 [e]]
 refine'⟨_,by da_tab,?_⟩
 refine' d3 ?_
 refine' q8 rfl ?_
 refine' zc ?_
 refine a9 c hh (by kernel_rfl) (u5 ?_)
 refine' zF ?_
 refine' c7 ?_
 refine' zE ?_
 refine' zc ?_
 refine a9 c hh (by kernel_rfl) (n6 ?_)
 refine'⟨rfl,?_⟩
 refine' b8 ?_
 refine g9 hh ?_
 refine' zv ?_
 refine' a8 ?_
 refine' i9 ?_
 refine' zp ?_
 refine' zp ?_
 refine W1 (by law_side) (by simp only[List.length_cons];exact EA hl) (by decide) (by simp only[List.length_cons];exact JT) ?_
 rw[show(40::181::47::253::e::0::rest:List UInt8).getD (4:Int).toNat 0=e from rfl]
 refine' za ?_
 refine a9 c hh (by kernel_rfl) (o0 (ic:=0) (t:=2551) h8 hs h6 h3 (by decide) (by decide) rfl (fun tf=>?_))
 refine'⟨_,_,rfl,by law_side,by with_unfolding_all exact rfl,?_⟩
 refine' d8 ?_
 refine' zk ?_
 refine' d8 ?_
 refine' zk ?_
 refine' d8 ?_
 refine' zk ?_
 refine' C1 ?_
 refine' d9 ?_
 refine' zs ?_
 refine' zf ?_
 refine' zS ?_
 refine' zv ?_
 refine' a8 ?_
 refine' zv ?_
 refine' a8 ?_
 refine' b9 ?_
 refine' zp ?_
 refine' zm ?_
 rw[show(5:Int)+(if (!false)=true then 1 else 0)+0+(if false=true then 1 else 0)=((6:Nat):Int) from rfl]
 skip
 refine f5 c hh (by kernel_rfl) (z0 (by da_tab)) (n7 (r:=r) (d:=d) (p:=p) (t:=t) (n:=n) (st:=.none) (hd:=hd) (cl:=cl) (told:=told) (b:=40::181::47::253::e::0::rest) (k:=6) (by simp only[List.length_cons];exact JJ hl) (fun p'=>?_))
 rw[show(40::181::47::253::e::0::rest).take 6=[40,181,47,253,e,0] from rfl,show(40::181::47::253::e::0::rest).drop 6=rest from rfl]
 refine' za ?_
 refine g6 c hh (gI:=361) (by kernel_rfl) (by kernel_rfl) (fun x2 dx2=>i6 (b:=[40,181,47,253,e,0]) (nb rfl) (.mk ?_))
 refine' za ?_
 refine a9 c hh (by kernel_rfl) (W4 h8 hs h6 h3 h4 (fun hx dhx=>?_))
 refine'⟨_,by da_tab,?_⟩
 refine' zC ?_
 refine' zc ?_
 refine g6 c hh (gI:=1501) (by kernel_rfl) (by kernel_rfl) (fun s ds=>yK (by decide) (fun o tb of=>.mk ?_))
 refine' zp ?_
 refine' zu ?_
 refine' zr ?_
 exact⟨_,(by law_side),hq _ _ _ _ _ _ _ _⟩
section
variable{w:World}{r d p t:Addr}{n:Int}{s h:Addr}{hd cl:AV}{H:AH}{k:Nat}{Q:AV→AH→Prop}{XR:Addr→Addr→Option Addr→Addr→AH→Prop}
theorem TG{f:c6 w k 1615 [.ref r] H (XO fun _ _ _ _ _=>False) Q}(hk:k≤10):c6 w 10 1615 [.ref r] H (fun _ _=>False) Q:=
 M3 (v7 f (fun _ _ h=>h) fun _ _ ⟨_,_,_,_,_,_,_,_,z⟩=>z) hk
theorem Rg(h1:In1 r (.inst 1646 d) H) (h2:In1 d (t7 p t n .none hd cl) H) (hk:k+1≤10) (hs:c6 w k 1629 [.ref r] H (fun _ _=>False) Q):c6 w 10 1615 [.ref r] H (fun _ _=>False) Q:=
 TG (f:=V0 h1 h2 (v7 hs (fun _ _ h=>h) fun _ _ h=>h.elim)) hk
theorem Rh(h1:In1 r (.inst 1646 d) H) (h2:In1 d (t7 p t n (.ref s) hd (.bool true)) H) (hk:k+1≤10) (hs:c6 w k 1643 [.ref r] H (fun _ _=>False) Q):c6 w 10 1615 [.ref r] H (fun _ _=>False) Q:=
 TG (f:=V1 h1 h2 (v7 hs (fun _ _ h=>h) fun _ _ h=>h.elim)) hk
theorem Ri(h1:In1 r (.inst 1646 d) H) (h2:In1 d (t7 p t n (.ref s) (.ref h) (.bool false)) H) (hk:k+1≤10) (hs:c6 w k 1636 [.ref r] H (fun _ _=>False) Q):c6 w 10 1615 [.ref r] H (fun _ _=>False) Q:=
 TG (f:=V2 h1 h2 (v7 hs (fun _ _ h=>h) fun _ _ h=>h.elim)) hk
end
noncomputable abbrev DR(s ds hx dx o tb of:Addr) (out:List UInt8) (most win:Int) (size:AV) (ck sg:Bool):AH:=[(o,.ba out),(s,.inst 1560 ds),(ds,G1 hx most o tb of),(hx,.inst 1418 dx),(dx,M9 win size ck sg)]
structure Fm where
 n:Int
 most:Int
 win:Int
 size:AV
 ck:Bool
 sg:Bool
inductive K0 (n₀:Int):Int→AV→AV→AV→AH→Prop
 | mk:K0 n₀ n₀ .none .none (.bool false) []
inductive Kh (F:Fm) (out:List UInt8):Int→AV→AV→AV→AH→Prop
 | mk (s ds hx dx o tb of):Kh F out F.n (.ref s) .none (.bool false) (DR s ds hx dx o tb of out F.most F.win F.size F.ck F.sg)
inductive Kb (F:Fm) (out:List UInt8) (last:Bool) (kind sz:Int):Int→AV→AV→AV→AH→Prop
 | mk (h dh s ds hx dx o tb of):Kb F out last kind sz F.n (.ref s) (.ref h) (.bool false) ((h,.inst 1467 dh)::(dh,cG last kind sz)::DR s ds hx dx o tb of out F.most F.win F.size F.ck F.sg)
inductive Kc (F:Fm) (out:List UInt8):Int→AV→AV→AV→AH→Prop
 | mk (s ds hx dx o tb of):Kc F out F.n (.ref s) .none (.bool true) (DR s ds hx dx o tb of out F.most F.win F.size F.ck F.sg)
noncomputable abbrev DS(r d p t:Addr) (n:Int) (st hd:AV) (cl:Bool) (pend told:List UInt8) (R:AH):AH:=(p,.ba pend)::(t,.ba told)::(r,.inst 1646 d)::(d,t7 p t n st hd (.bool cl))::R
section
variable{w:World}{r d:Addr}{n₀:Int}{F:Fm}{out pend told:List UInt8}{last:Bool}{kind sz:Int}{R0 H:AH}{k:Nat}{XS Q:AV→AH→Prop}{p t:Addr}
theorem rK(hp:H.Perm (DS r d p t n₀ .none .none false pend told R0)):y0 r d (K0 n₀) R0 pend told H:=⟨p,t,_,_,_,_,[],.mk,hp⟩
theorem wL{s ds hx dx o tb of:Addr}(hp:H.Perm (DS r d p t F.n (.ref s) .none false pend told (DR s ds hx dx o tb of out F.most F.win F.size F.ck F.sg++R0))):y0 r d (Kh F out) R0 pend told H:=⟨p,t,_,_,_,_,_,.mk ..,hp⟩
theorem Rj{h dh s ds hx dx o tb of:Addr}(hp:H.Perm (DS r d p t F.n (.ref s) (.ref h) false pend told ((h,.inst 1467 dh)::(dh,cG last kind sz)::DR s ds hx dx o tb of out F.most F.win F.size F.ck F.sg++R0))):y0 r d (Kb F out last kind sz) R0 pend told H:=⟨p,t,_,_,_,_,_,.mk ..,hp⟩
theorem DT{s ds hx dx o tb of:Addr}(hp:H.Perm (DS r d p t F.n (.ref s) .none true pend told (DR s ds hx dx o tb of out F.most F.win F.size F.ck F.sg++R0))):y0 r d (Kc F out) R0 pend told H:=⟨p,t,_,_,_,_,_,.mk ..,hp⟩
theorem DU(hS:y0 r d (K0 n₀) R0 pend told H) (h:∀p t,c6 w k 1615 [.ref r] (DS r d p t n₀ .none .none false pend told R0) XS Q):c6 w k 1615 [.ref r] H XS Q:=by
 obtain⟨p,t,n,st,hd,cl,FL,hK,hp⟩:=hS
 cases hK
 exact H7 hp (h p t)
theorem IL(hS:y0 r d (Kh F out) R0 pend told H) (h:∀p t s ds hx dx o tb of,c6 w k 1615 [.ref r] (DS r d p t F.n (.ref s) .none false pend told (DR s ds hx dx o tb of out F.most F.win F.size F.ck F.sg++R0)) XS Q):c6 w k 1615 [.ref r] H XS Q:=by
 obtain⟨p,t,n,st,hd,cl,FL,hK,hp⟩:=hS
 cases hK
 exact H7 hp (h p t _ _ _ _ _ _ _)
theorem Rk(hS:y0 r d (Kb F out last kind sz) R0 pend told H) (h:∀p t hh dh s ds hx dx o tb of,c6 w k 1615 [.ref r] (DS r d p t F.n (.ref s) (.ref hh) false pend told ((hh,.inst 1467 dh)::(dh,cG last kind sz)::DR s ds hx dx o tb of out F.most F.win F.size F.ck F.sg++R0)) XS Q):c6 w k 1615 [.ref r] H XS Q:=by
 obtain⟨p,t,n,st,hd,cl,FL,hK,hp⟩:=hS
 cases hK
 exact H7 hp (h p t _ _ _ _ _ _ _ _ _)
theorem Rm(hS:y0 r d (Kc F out) R0 pend told H) (h:∀p t s ds hx dx o tb of,c6 w k 1615 [.ref r] (DS r d p t F.n (.ref s) .none true pend told (DR s ds hx dx o tb of out F.most F.win F.size F.ck F.sg++R0)) XS Q):c6 w k 1615 [.ref r] H XS Q:=by
 obtain⟨p,t,n,st,hd,cl,FL,hK,hp⟩:=hS
 cases hK
 exact H7 hp (h p t _ _ _ _ _ _ _)
theorem Ba(hS:y0 r d (K0 n₀) R0 pend told H) (hk:k+1≤10) (h:∀p t,c6 w k 1629 [.ref r] (DS r d p t n₀ .none .none false pend told R0) (fun _ _=>False) Q):c6 w 10 1615 [.ref r] H (fun _ _=>False) Q:=
 DU hS fun p t=>Rg (.there (.there .here)) (.there (.there (.there .here))) hk (h p t)
theorem IM(hS:y0 r d (Kb F out last kind sz) R0 pend told H) (hk:k+1≤10) (h:∀p t hh dh s ds hx dx o tb of,c6 w k 1636 [.ref r] (DS r d p t F.n (.ref s) (.ref hh) false pend told ((hh,.inst 1467 dh)::(dh,cG last kind sz)::DR s ds hx dx o tb of out F.most F.win F.size F.ck F.sg++R0)) (fun _ _=>False) Q):c6 w 10 1615 [.ref r] H (fun _ _=>False) Q:=
 Rk hS fun p t hh dh s ds hx dx o tb of=>Ri (.there (.there .here)) (.there (.there (.there .here))) hk (h p t hh dh s ds hx dx o tb of)
theorem IN(hS:y0 r d (Kc F out) R0 pend told H) (hk:k+1≤10) (h:∀p t s ds hx dx o tb of,c6 w k 1643 [.ref r] (DS r d p t F.n (.ref s) .none true pend told (DR s ds hx dx o tb of out F.most F.win F.size F.ck F.sg++R0)) (fun _ _=>False) Q):c6 w 10 1615 [.ref r] H (fun _ _=>False) Q:=
 Rm hS fun p t s ds hx dx o tb of=>Rh (.there (.there .here)) (.there (.there (.there .here))) hk (h p t s ds hx dx o tb of)
theorem hY{α:Type}{a b c d e x y z u:α}{R:List α}:(a::b::c::d::e::x::y::z::u::R).Perm (x::y::z::u::a::b::c::d::e::R):=z0 (by da_tab)
theorem TH{α:Type}{a b x y z u:α}{R:List α}:(a::b::x::y::z::u::R).Perm (x::y::z::u::a::b::R):=z0 (by da_tab)
theorem rM{K K':Kt}{b:List UInt8}(h:∀R0 rest told H,rest.length≤1000→told.length≤400→y0 r d K R0 (b++rest) told H→∀Q:AV→AH→Prop,(∀H',y0 r d K' R0 rest told H'→Q (.bool true) H')→c6 w 10 1615 [.ref r] H (fun _ _=>False) Q):gW w r d K b [] K':=
 fun R0 rest told H h1 h2 hS Q hq=>h R0 rest told H h1 h2 hS Q fun H'=>by rw[← List.append_nil told];exact hq H'
theorem E1{pend u b:List UInt8}(h:b=pend++u) (hu:u≠[]):pend.length<b.length:=by
 rw[h,List.length_append]
 have:=List.length_pos_iff.mpr hu
 exact LI this
theorem W7{n₀:Int}{b:List UInt8}{e:UInt8}{tl:List UInt8}{sg:Bool}{ic:Nat}{i:Int}{tk:Tok}(hb:b=40::181::47::253::e::tl) (hic:tl.length=1+ic) (h8:Builtin.bitAnd (e.toNat:Int) 8=0) (hs:(Builtin.bitAnd (e.toNat:Int) 32 != 0)=sg) (h6:(e.toNat:Int).fdiv (2 ^ (6:Int).toNat)=0) (h3:Builtin.bitAnd (e.toNat:Int) 3=i) (hi0:0≤i) (hi4:i<4) (hic2:([.int 0 2551,.int 1 2552,.int 2 2553,.int 4 2554]:List Value)[i.toNat]?=some (.int ic tk)) (hl:ic≤4):U6 w r d (K0 n₀) b:=by
 intro R0 pend u told H hbu hu hS Q hq
 have hlen:=E1 hbu hu
 by_cases h5:pend.length<5
 ·exact Ba (k:=1) hS (by decide) fun p t=>G2 h5 (hq _ (rK (.refl _)))
 ·have e5:pend=40::181::47::253::e::pend.drop 5:=by
   have:=congrArg (List.take 5) (hb.symm.trans hbu)
   rw[List.take_append_of_le_length (by exact OL h5)] at this
   conv=>lhs;rw[← List.take_append_drop 5 pend]
   rw[← this];rfl
  have hdl:(pend.drop 5).length<1+ic:=by
   rw[hb] at hlen
   simp only[List.length_cons] at hlen
   rw[List.length_drop];exact KU hlen hic
  generalize pend.drop 5=tl at e5 hdl
  subst e5
  exact Ba (k:=5) hS (by decide) fun p t=>hB (by exact LU hdl hl) h8 hs h6 h3 hi0 hi4 hic2 hdl (hq _ (rK (.refl _)))
theorem oS{n₀:Int}{e m:UInt8}{ck:Bool}(h8:Builtin.bitAnd (e.toNat:Int) 8=0) (hs:(Builtin.bitAnd (e.toNat:Int) 32 != 0)=true) (h6:(e.toNat:Int).fdiv (2 ^ (6:Int).toNat)=0) (h3:Builtin.bitAnd (e.toNat:Int) 3=0) (h4:(Builtin.bitAnd (e.toNat:Int) 4 != 0)=ck) :
  gW w r d (K0 n₀) [40,181,47,253,e,m] [] (Kh ⟨n₀,m.toNat,m.toNat,.int m.toNat,ck,true⟩ [])∧U6 w r d (K0 n₀) [40,181,47,253,e,m]:=
 ⟨rM fun R0 rest told H hl1 hl2 hS Q hq=>Ba (k:=6) hS (by decide) fun p t=>cV hl1 h8 hs h6 h3 h4 fun p s ds hx dx o tb of=>hq _ (wL hY),
  W7 (ic:=0) (i:=0) (sg:=true) rfl rfl h8 hs h6 h3 (by decide) (by decide) rfl (by decide)⟩
theorem oU{n₀:Int}{e:UInt8}{ck:Bool}(h8:Builtin.bitAnd (e.toNat:Int) 8=0) (hs:(Builtin.bitAnd (e.toNat:Int) 32 != 0)=false) (h6:(e.toNat:Int).fdiv (2 ^ (6:Int).toNat)=0) (h3:Builtin.bitAnd (e.toNat:Int) 3=0) (h4:(Builtin.bitAnd (e.toNat:Int) 4 != 0)=ck) :
  gW w r d (K0 n₀) [40,181,47,253,e,0] [] (Kh ⟨n₀,1024,1024,.none,ck,false⟩ [])∧U6 w r d (K0 n₀) [40,181,47,253,e,0]:=
 ⟨rM fun R0 rest told H hl1 hl2 hS Q hq=>Ba (k:=6) hS (by decide) fun p t=>cW hl1 h8 hs h6 h3 h4 fun p s ds hx dx o tb of=>hq _ (wL hY),
  W7 (ic:=0) (i:=0) (sg:=false) rfl rfl h8 hs h6 h3 (by decide) (by decide) rfl (by decide)⟩
theorem S6{b:List UInt8}(hb:b.length=3):U6 w r d (Kh F out) b:=by
 intro R0 pend u told H hbu hu hS Q hq
 have hlen:=E1 hbu hu
 exact IL hS fun p t s ds hx dx o tb of=>M3 (hM (by exact LY hlen hb) (hq _ (wL (.refl _)))) (by decide)
theorem bL{b:List UInt8}{kind size:Int}(hb:b.length=3) (e1:(Builtin.bitAnd (le b) 1 == 1)=last) (e2:Builtin.bitAnd ((le b:Int).fdiv (2 ^ (1:Int).toNat)) 3=kind) (e3:(le b:Int).fdiv (2 ^ (3:Int).toNat)=size) (hk:kind≠3) (hm:size≤F.most) :
  gW w r d (Kh F out) b [] (Kb F out last kind size):=
 rM fun R0 rest told H hl1 hl2 hS Q hq=>IL hS fun p t s ds hx dx o tb of=>M3 (wK hb hl1 e1 e2 e3 (.there .here) (.there (.there .here)) hk hm fun p h dh=>hq _ (Rj TH)) (by decide)
theorem W8{b:List UInt8}{kind size:Int}(hk:kind≠3) (hm:size≤F.most) (hb:(b.length:Int)=if kind=1 then 1 else size) (hbl:b.length≤500):U6 w r d (Kb F out last kind size) b:=by
 intro R0 pend u told H hbu hu hS Q hq
 have hlen:=E1 hbu hu
 exact IM (k:=3) hS (by decide) fun p t h dh s ds hx dx o tb of=>hU (by exact Ma hlen hbl) (.there (.there (.there .here))) (.there (.there (.there (.there .here)))) .here (.there .here) hk hm (by exact MQ hb hlen) (hq _ (Rj (.refl _)))
noncomputable def IO(size:AV) (len:Nat) (last:Bool):Prop:=size=.none∨∃sz:Nat,size=.int sz∧if last=true then len=sz else len≤sz
theorem DV{b:List UInt8}(hbl:b.length≤500) (hol:out.length≤500) (hm:(b.length:Int)≤F.most) (hf:IO F.size (out.length+b.length) last) :
  gW w r d (Kb F out last 0 b.length) b b (if last=true then Kc F (out++b) else Kh F (out++b)):=by
 obtain⟨fn,most,win,size,ck,sg⟩:=F
 dsimp only at hm hf
 intro R0 rest told H hl1 hl2 hS Q hq
 refine IM (k:=6) hS (by decide) fun p t h dh s ds hx dx o tb of=>?_
 have ht:told.length≤1000:=by exact HG hl2
 rcases hf with rfl | ⟨sz,rfl,hsz⟩
 ·cases last with
  | true=>exact aD hl1 hol ht rfl rfl hbl hm fun p=>hq _ (DT hY)
  | false=>exact oQ hl1 hol ht rfl rfl hbl hm fun p=>hq _ (wL hY)
 ·cases last with
  | true=>exact W5 hl1 hol ht rfl rfl hbl hsz hm fun p=>hq _ (DT hY)
  | false=>exact hV hl1 hol ht rfl rfl hbl hsz hm fun p=>hq _ (wL hY)
theorem DW{b:List UInt8}{size:Nat}(hbl:b.length=1) (hol:out.length≤500) (hs1:1≤size) (hs2:size≤500) (hm:(size:Int)≤F.most) (hf:IO F.size (out.length+size) last) :
  gW w r d (Kb F out last 1 size) b (List.replicate size b).flatten (if last=true then Kc F (out++(List.replicate size b).flatten) else Kh F (out++(List.replicate size b).flatten)):=by
 obtain⟨fn,most,win,fsize,ck,sg⟩:=F
 dsimp only at hm hf
 intro R0 rest told H hl1 hl2 hS Q hq
 refine IM (k:=6) hS (by decide) fun p t h dh s ds hx dx o tb of=>?_
 have ht:told.length≤1000:=by exact HG hl2
 have h1:(1:Int)≤(size:Int):=by exact Ny hs1
 have h2:(size:Int)≤1000:=by exact Oz hs2
 have el:(List.replicate (size:Int).toNat b).flatten.length=size:=by
  rw[Int.toNat_natCast];simp [hbl]
 have h3:(List.replicate (size:Int).toNat b).flatten.length≤500:=by exact Mf el hs2
 rw[← Int.toNat_natCast size] at hq
 rcases hf with rfl | ⟨sz,rfl,hsz⟩
 ·cases last with
  | true=>exact aE hl1 hol ht hbl h1 h2 h3 hm fun p=>hq _ (DT hY)
  | false=>exact oR hl1 hol ht hbl h1 h2 h3 hm fun p=>hq _ (wL hY)
 ·rw[← el] at hsz
  cases last with
  | true=>exact W6 hl1 hol ht hbl h1 h2 h3 hsz hm fun p=>hq _ (DT hY)
  | false=>exact hW hl1 hol ht hbl h1 h2 h3 hsz hm fun p=>hq _ (wL hY)
theorem fX(hc:F.ck=false):gW w r d (Kc F out) [] [] (K0 (F.n+1))∧U6 w r d (Kc F out) []:=by
 obtain⟨fn,most,win,fsize,ck,sg⟩:=F
 dsimp only at hc
 subst hc
 refine⟨rM fun R0 rest told H hl1 hl2 hS Q hq=>IN (k:=1) hS (by decide) fun p t s ds hx dx o tb of=>hD (hq _ (rK (.refl _))),fun R0 pend u told H hbu hu=>?_⟩
 cases E1 hbu hu
theorem fY{b:List UInt8}(hc:F.ck=true) (hb:b.length=4):U6 w r d (Kc F out) b:=by
 obtain⟨fn,most,win,fsize,ck,sg⟩:=F
 dsimp only at hc
 subst hc
 intro R0 pend u told H hbu hu hS Q hq
 have hlen:=E1 hbu hu
 exact IN (k:=1) hS (by decide) fun p t s ds hx dx o tb of=>hH (by exact LZ hlen hb) (hq _ (DT (F:=⟨fn,most,win,fsize,true,sg⟩) (.refl _)))
theorem wM{b:List UInt8}(hc:F.ck=true) (hb:b.length=4) (hout:out.length<32) (hv:le b=dO out%4294967296):gW w r d (Kc F out) b [] (K0 (F.n+1)):=by
 obtain⟨fn,most,win,fsize,ck,sg⟩:=F
 dsimp only at hc
 subst hc
 exact rM fun R0 rest told H hl1 hl2 hS Q hq=>IN (k:=8) hS (by decide) fun p t s ds hx dx o tb of=>rJ hb hl1 hout hv fun p=>hq _ (rK (.refl _))
theorem dP{K:Kt}{F:List UInt8}(h:U6 w r d K F) (hF:F≠[]):Ends w r d K F:=fun R0 pend u told H hbu hu=>h R0 pend u told H hbu (hu.resolve_right hF)
theorem Bb{n₀:Int}:Ends w r d (K0 n₀) []:=by
 intro R0 pend u told H hbu hu hS Q hq
 obtain⟨rfl,rfl⟩:=List.append_eq_nil_iff.mp hbu.symm
 exact Ba (k:=1) hS (by decide) fun p t=>G2 (by decide) (hq _ (rK (.refl _)))
end
noncomputable def D0(v k:Nat):List UInt8:=(List.range k).map fun i=>(v / 2 ^ (8*i)%256).toUInt8
theorem Ge(v i:Nat):Builtin.bitAnd ((v:Int).fdiv (2 ^ (8*(i:Int)).toNat)) 255=((v / 2 ^ (8*i)%256:Nat):Int):=by
 rw[show(8*(i:Int)).toNat=8*i by exact Int.toNat_natCast _,I3,bitAnd_m8];rfl
theorem m9{w:World}{v k:Nat}{H:AH}(hk:k≤100) {Q:AV→AH→Prop}(hq:Q (.bytes (D0 v k)) H):c6 w 2 1684 [.int v,.int k] H (fun _ _=>False) Q:=by
 refine oB (d:=GS) (locs:=["count"]) (ρ₀:=[("count",some (.int k))]) (cH:=fun L=>[(L+1,.cell (some (.int v)))]) ⟨by kernel_rfl,by kernel_rfl⟩ (FI.ok_of (by kernel_rfl))
  (fun s cvs K hl=>by have:=vE (w:=w) s cvs K hl;rwa [List.append_nil] at this) (fun n=>?_) (fun n x hx=>?_) (fun cvs h=>?_) (fun cvs L h=>?_) (fun fx c hh hcl=>?_)
 ·refine(?_:(["value"]:List Str).Nodup)
  simp
 ·rcases List.mem_cons.mp hx with rfl |hx
  ·exact .inr ⟨rfl,rfl⟩
  rcases List.mem_cons.mp hx with rfl |hx
  ·exact .inl rfl
  cases hx
 ·cases h with
  | cons r1 h=>cases h with
   | cons r2 h=>cases h;exact⟨rfl,fun x v hm=>by
     cases hm with
     | head=>exact⟨_,rfl,r2⟩
     | tail _ hm=>cases hm⟩
 ·cases h with
  | cons r1 h=>cases h with
   | cons r2 h=>cases h;exact .full rfl r1 .nil
 ·rcases fx with ⟨A,base,outer,stk,h₀,L,frame,cells,os⟩
  dsimp only at hcl hh ⊢
  subst hcl
  refine b8 ?_
  refine' w8 ?_
  refine' zt ?_
  refine' a8 ?_
  refine rC (cl:=[("value",L+1)]) c hh rfl (by kernel_rfl) (by kernel_rfl) rfl (by kernel_rfl) ?_ (by intro _;rfl)
  refine' zt ?_
  refine' za ?_
  refine J1 (fun rr t u v'=>?_)
  refine⟨rr,k,t,u,v',fun j=>.int ((v / 2 ^ (8*j)%256:Nat):Int),(L+1,.cell (some (.int v)))::H,rfl,rfl,by exact JN hk,fun fxc i I b acc cx hA hcl hi=>?_,fun acc=>?_⟩
  ·refine c4 ?_
   refine c4 ?_
   refine t9 cx.ok (by kernel_rfl) (c:=L+1) (by rw[hcl];rfl) (.there (.there .here)) (by kernel_rfl) ?_
   refine' zp ?_
   refine' BS (by exact JS) ?_
   refine' zp ?_
   refine' j9 ?_
   refine⟨?_,.cons .here (.cons .here .nil)⟩
   rw[Ge]
  ·refine' za ?_
   refine m8 (ns:=(List.range k).map fun j=>((v / 2 ^ (8*j)%256:Nat):Int)) hh (by rw[List.map_map];exact .here) (fun n hn=>?_) (by rw[List.length_map,List.length_range];exact Ol hk) ?_
   ·refine f9 (List.mem_map.mp hn) fun j _ zq1=>?_;subst zq1
    exact OQ
   ·refine' n9 ?_
    refine nZ (H₂:=H) (.cons _ (.cons _ (.refl _))) ?_ hq
    refine(?_:AV.bytes _=AV.bytes _)
    rw[List.map_map];rfl
noncomputable def bI(b:Bool):Nat:=if b then 1 else 0
theorem DX(b:Bool):(if b=true then(1:Int) else 0)=((bI b:Nat):Int):=by cases b <;> rfl
theorem bM:D0 4247762216 4=[40,181,47,253]:=by decide
theorem o9{w:World}{H:AH}{size:Nat}{ck:Bool}(hs:size<256) {Q:AV→AH→Prop}(hq:Q (.bytes [40,181,47,253,(32+4*bI ck).toUInt8,size.toUInt8]) H):c6 w 3 1691 [.int size,.bool ck,.none] H (fun _ _=>False) Q:=by
 refine c9 (d:=d1691) (dv:=[]) (qL _) [] .nil rfl (iM _ _ _) (eK) (fun fx c hh=>?_)
 refine(?_:Ex _ _ _ _ (_::_) _ _ _)
 refine' zS ?_
 refine' zc ?_
 refine a9 c hh (by kernel_rfl) (m9 (v:=4247762216) (k:=4) (by decide) ?_)
 rw[bM]
 refine'⟨_,by da_tab,?_⟩
 refine' d3 ?_
 refine' d6 rfl ?_
 refine' zp ?_
 refine' zp ?_
 refine' i8 (by exact x0) ?_
 refine' zV ?_
 refine' g5 ?_
 refine' c4 ?_
 refine' zp ?_
 refine' zt ?_
 refine' a8 ?_
 refine' w9 ?_
 refine' za ?_
 (refine'⟨?_,fun _=>?_⟩;focus (exact nb rfl))
 refine' za ?_
 rw[DX]
 have hb:bI ck≤1:=by unfold bI;split <;> decide
 refine m8 (ns:=[32+4*(bI ck:Int),(size:Int)]) hh (.here) (fun n hn=>?_) (by simp) ?_
 ·rcases List.mem_cons.mp hn with rfl |hn
  ·exact Ov hb
  ·rw[List.mem_singleton.mp hn];exact HB hs
 ·refine r5 (by simp) ?_
  refine' n9 ?_
  exact⟨_,.cons _ (.refl _),hq⟩
theorem D4{w:World}{H:AH}{size:Int}{ck:Bool}{Q:AV→AH→Prop}(hq:Q (.bytes [40,181,47,253,(4*bI ck).toUInt8,0]) H):c6 w 3 1691 [.int size,.bool ck,.int 0] H (fun _ _=>False) Q:=by
 refine c9 (d:=d1691) (dv:=[]) (qL _) [] .nil rfl (iM _ _ _) (eK) (fun fx c hh=>?_)
 refine(?_:Ex _ _ _ _ (_::_) _ _ _)
 refine' zS ?_
 refine' zc ?_
 refine a9 c hh (by kernel_rfl) (m9 (v:=4247762216) (k:=4) (by decide) ?_)
 rw[bM]
 refine'⟨_,by da_tab,?_⟩
 refine' d3 ?_
 refine' d6 rfl ?_
 refine' zp ?_
 refine' zp ?_
 refine' i8 (by exact fP _) ?_
 refine' zF ?_
 refine' c7 ?_
 refine' g5 ?_
 refine' c4 ?_
 refine' zp ?_
 refine' zt ?_
 refine' a8 ?_
 refine' w9 ?_
 refine' za ?_
 (refine'⟨?_,fun _=>?_⟩;focus (exact nb rfl))
 refine' za ?_
 rw[DX]
 have hb:bI ck≤1:=by unfold bI;split <;> decide
 refine m8 (ns:=[4*(bI ck:Int),0]) hh (.here) (fun n hn=>?_) (by simp) ?_
 ·rcases List.mem_cons.mp hn with rfl |hn
  ·exact Ow hb
  ·rw[List.mem_singleton.mp hn];exact RM
 ·refine r5 (by simp) ?_
  skip
  exact⟨_,.cons _ (.refl _),hq⟩
noncomputable def P7(b:List UInt8):Bool:=decide (b≠[]) && (b == (List.replicate b.length (b.take 1)).flatten)
noncomputable def i7(b:List UInt8) (last:Bool):List UInt8:=D0 (8*b.length+2*(if P7 b then 1 else 0)+(if last then 1 else 0)) 3++(if P7 b then b.take 1 else b)
theorem n8{w:World}{H:AH}{b:List UInt8}{last:Bool}(hb:b.length≤100) {Q:AV→AH→Prop}(hq:Q (.bytes (i7 b last)) H):c6 w 3 1698 [.bytes b,.bool last] H (fun _ _=>False) Q:=by
 refine c9 (d:=d1698) (dv:=[]) (CQ _) [] .nil rfl (Ao _ _) (vF) (fun fx c hh=>?_)
 refine(?_:Ex _ _ _ _ (_::_) _ _ _)
 refine' zS ?_
 refine' zt ?_
 refine' a8 ?_
 refine yB ?_
 refine' zp ?_
 refine'⟨_,rfl,?_⟩
 by_cases hb0:b=[]
 ·subst hb0
  rw[show decide ((([]:List UInt8).length:Int) > 0)=false from rfl]
  refine' za ?_
  refine' P0 ?_
  refine'⟨_,by da_tab,?_⟩
  refine' g5 ?_
  refine' c4 ?_
  refine' zc ?_
  rw[show((8*(([]:List UInt8).length:Int)+2*if false=true then 1 else 0)+if last=true then 1 else 0)=((8*([]:List UInt8).length+2*(if P7 [] then 1 else 0)+(if last then 1 else 0):Nat):Int) from by cases last <;> rfl]
  refine a9 c hh (by kernel_rfl) (m9 (k:=3) (by decide) ?_)
  have hlow:∀v,(D0 v 3).length=3:=fun v=>rfl
  refine' zp ?_
  refine r5 (by rw[hlow];decide) ?_
  skip
  exact⟨_,.refl _,hq⟩
 ·have hlp:0<b.length:=by cases b with |nil=>exact absurd rfl hb0 |cons x r=>simp
  rw[decide_eq_true (show(b.length:Int) > 0 by exact Nw hlp)]
  refine' V6 rfl ?_
  refine' zp ?_
  refine' c4 ?_
  refine' zp ?_
  refine' zp ?_
  rw[D3 _ _ (by decide),show(1:Int).toNat=1 from rfl]
  have ht:(b.take 1).length=1:=by rw[List.length_take];exact Jx hlp
  refine nY (by intro e;rw[e] at ht;cases ht) (by exact Nu hlp) (by exact Oj hb) (by exact Bo ht) ?_
  refine' Dv ?_
  refine' za ?_
  refine' P0 ?_
  refine'⟨_,by da_tab,?_⟩
  refine' g5 ?_
  refine' c4 ?_
  refine' zc ?_
  rw[show((b.length:Int)).toNat=b.length by exact Int.toNat_natCast _]
  skip
  have hk:P7 b=(b == (List.replicate b.length (b.take 1)).flatten):=by unfold P7;rw[decide_eq_true hb0,Bool.true_and]
  rw[← hk]
  rw[show((8*(b.length:Int)+2*if P7 b=true then 1 else 0)+if last=true then 1 else 0)=((8*b.length+2*(if P7 b then 1 else 0)+(if last then 1 else 0):Nat):Int) from by cases last <;> cases P7 b <;> simp]
  refine a9 c hh (by kernel_rfl) (m9 (k:=3) (by decide) ?_)
  have hlow:∀v,(D0 v 3).length=3:=fun v=>rfl
  cases hkb:P7 b with
  | false=>
   refine' zp ?_
   refine r5 (by rw[hlow];exact Oi hb) ?_
   skip
   unfold i7 at hq
   rw[hkb] at hq
   exact⟨_,.refl _,hq⟩
  | true=>
   refine' zp ?_
   rw[D3 _ _ (by decide),show(1:Int).toNat=1 from rfl]
   refine r5 (by rw[hlow,ht];decide) ?_
   skip
   unfold i7 at hq
   rw[hkb] at hq
   exact⟨_,.refl _,hq⟩
section
variable{w:World}{f:FI}{fx:Fx}{X:AV→b0→AH→Prop}{ρ:b0}{H:AH}{n:Nat}
inductive TI (w:World) (f:FI) (fx:Fx) (X:AV→b0→AH→Prop) (elts:List Expr) (Q:b0→AH→Prop) (v:AV) (ρ:b0) (H:AH):Prop
 | mk (a:Addr) (vs:List AV) (cvs:List Value) (e:v=.ref a) (t:iQ w.params a=some cvs) (r:All2 Rep vs cvs) (hl:elts.length=cvs.length) (q:Dq w f fx X elts vs ρ H Q)
theorem fZ{elts:List Expr}{k:Nat}{tpos pos:Pos}{value:Expr}{Q:AF→b0→AH→Prop}(c:Cx w f fx n) (hh:fx.A.handled=none)
  (h:Ev w f fx X value ρ H (TI w f fx X elts (Q .next)))
  (hs:autoParam (swapsWithSole [.Tuple elts k tpos] value pos.line (f.env fx)=pure false) kR)
  (hw:autoParam (swappedStores [.Tuple elts k tpos] value (f.env fx)=pure none) kR)
  (hl:autoParam ((assignEach elts (f.env fx)).length=elts.length) kR) (hf:autoParam ((assignEach elts (f.env fx)).findIdx? (·.1)=none) kR):bT w f fx X (.Assign [.Tuple elts k tpos] value pos) ρ H Q:=by
 intro s S
 rw[exec_Assign]
 refine a7 (c3 ?_)
 rw[hs]
 refine a7 (b7 ?_)
 rw[if_neg (by decide)]
 refine a7 (b6 (h s S) (fun v s₁ hh'=>?_) fun _ _ x=>x)
 obtain⟨b,ρ₁,H₁,r,⟨m,news,S₁⟩,a,vs,cvs,rfl,ht,rs,hl2,h₁⟩:=hh'
 obtain rfl:=Rep.inv r
 rw[hw]
 refine a7 (b7 ?_)
 show c8 _ _ (do assignAll (.ref a) [assign (.Tuple elts k tpos) (f.env fx)];pure Flow.next) _ _ s₁
 refine a7 ?_
 refine(?_:c8 _ _ (assign (.Tuple elts k tpos) (f.env fx) (.ref a)) _ _ s₁)
 rw[assign_Tuple]
 refine a7 (c3 ?_)
 unfold unpack
 rw[hf]
 refine a7 (c0 (a6 (unpackItemsN_ S₁.fr S₁.nw (nV (S₁.KH c) ht) hh (by rw[hl,List.size_toArray,hl2]) fun h' F' N'=>?_)))
 refine b6 (h₁ cvs rs _ ⟨m,_,F',N',S₁.rho,S₁.items,S₁.keys,S₁.nodup,S₁.gens,S₁.os⟩) (fun u s₃ q=>?_) fun _ _ x=>x
 obtain⟨_,ρ₃,H₃, -,S₃,h₃⟩:=q
 exact b7 ⟨.next,ρ₃,H₃,.next,S₃,h₃⟩
end
theorem rN:∀b:List UInt8,Dw b=(le b:Int):=by
 intro b
 unfold Dw KFB.value
 rw[List.foldl_reverse]
 induction b with
 | nil=>rfl
 | cons x r ih=>rw[List.map_cons,List.foldr_cons,ih,le];exact ME
theorem aF{w:World}{b:List UInt8}{H:AH}(hb:b.length<32) {Q:AV→AH→Prop}(hq:Q (.int (dO b%4294967296:Nat)) H):c6 w 3 1679 [.bytes b] H (fun _ _=>False) Q:=by
 refine c9 (d:=d1679) (dv:=[]) (CP _) [] .nil rfl (An _) (vD) (fun fx c hh=>?_)
 have restX:True:=trivial
 have hX5:X5+b.length<M2:=by unfold X5 M2;exact NJ hb
 have rest:∀(F bg:Nat) (la:Option AV) (G:AH),H.Sublist G→bg≤b.length→F<M2→t1 F (b.drop bg)=t8 (X5+b.length) b→Ex w d1679.fi fx (fun _ _ _=>False) ((j5 d1679.stmt).drop 4) ([("octets",some (.bytes b)),("one",some (.int 11400714785074694791)),("two",some (.int 14029467366897019727)),("three",some (.int 1609587929392839161)),("four",some (.int 9650029242287828579)),("five",some (.int 2870177450012600261)),("whole",some (.int F)),("spot",some (.int bg)),("lane",la),("octet",none)]:b0) G
   (wA Q):=by
  intro F bg la G hG hbg hF hT
  refine b8 ?_
  refine nW c hh ?_ (by intro _;rfl)
  refine' zp ?_
  rw[C7 _ _ (by exact Int.natCast_nonneg _),show((bg:Int)).toNat=bg by exact Int.toNat_natCast _]
  refine⟨_,fun i ρ G'=>∃(F:Nat) (oc:Option AV),F<M2∧t1 F (b.drop (bg+i))=t8 (X5+b.length) b∧ρ=([("octets",some (.bytes b)),("one",some (.int 11400714785074694791)),("two",some (.int 14029467366897019727)),("three",some (.int 1609587929392839161)),("four",some (.int 9650029242287828579)),("five",some (.int 2870177450012600261)),("whole",some (.int F)),("spot",some (.int bg)),("lane",la),("octet",oc)]:b0)∧G'=G,rfl,⟨F,none,hF,hT,rfl,rfl⟩,?_,?_⟩
  ·intro i ρ G' I o hi hz90;refine aN (hz90) fun F oc hF hT zq1 zq2=>?_;clear hz90;subst zq1;subst zq2
   rw[List.length_drop] at hi
   have hi2:bg+i<b.length:=by exact Le hi
   refine⟨_,by da_tab,?_⟩
   have hg:(b.drop bg).getD i 0=b[bg+i]:=by rw[List.getD_eq_getElem?_getD,List.getElem?_drop,List.getElem?_eq_getElem hi2];rfl
   dsimp only
   rw[hg]
   refine' zS ?_
   refine' c4 ?_
   refine' c4 ?_
   refine' zv ?_
   refine' a8 ?_
   refine' c4 ?_
   refine' c4 ?_
   refine' zp ?_
   refine' c4 ?_
   refine' c4 ?_
   refine' zp ?_
   refine' zp ?_
   refine y6 (by decide) (by decide) (by decide) ?_
   refine' zp ?_
   refine' w2 ?_
   refine' j9 ?_
   refine' c4 ?_
   refine' zp ?_
   refine' c4 ?_
   refine' c4 ?_
   refine' zp ?_
   refine' zp ?_
   rw[Hd]
   refine y6 (by decide) (by decide) (by decide) ?_
   refine' zp ?_
   refine' w2 ?_
   refine' j9 ?_
   refine' N8 ?_
   refine' za ?_
   rw[show(2:Int) ^ (64:Int).toNat - 1=18446744073709551615 from rfl,w5,w5,J4,Nat.mod_eq_of_lt hF]
   refine a9 c hh (by kernel_rfl) (y1 _ _ 11 rfl (by decide) ?_)
   rw[Nat.mod_eq_of_lt (bF hF (Nat.mod_lt _ (by decide)))]
   refine' zp ?_
   refine' x6 (.of_right (intBits_le_64 (by decide) (by decide))) ?_
   refine' c4 ?_
   refine' c4 ?_
   refine' zp ?_
   refine' zp ?_
   refine y6 (by decide) (by decide) (by decide) ?_
   refine' zp ?_
   refine' w2 ?_
   refine' j9 ?_
   refine'⟨_,by da_tab,?_⟩
   refine' f8 ?_
   rw[show(2:Int) ^ (64:Int).toNat - 1=18446744073709551615 from rfl,cE,w5]
   refine⟨.inl rfl,_,by da_tab,h1 F b[bg+i].toNat,_,Hj _ _,?_,rfl,rfl⟩
   rw[← hT,List.drop_eq_getElem_cons hi2,t1,t1,List.foldl_cons];rfl
  ·intro ρ G' hz90;refine aN (hz90) fun F oc hF hT zq1 zq2=>?_;clear hz90;subst zq1;subst zq2
   rw[List.length_drop] at hT
   have hT:F=t8 (X5+b.length) b:=by rw[← hT,List.drop_eq_nil_of_le (by exact Gi)];rfl
   refine' d9 ?_
   refine' zS ?_
   refine' c4 ?_
   refine' zp ?_
   refine' c4 ?_
   refine' c4 ?_
   refine' zp ?_
   refine' zp ?_
   refine y6 (by decide) (by decide) (by decide) ?_
   refine' zp ?_
   refine' w2 ?_
   refine' j9 ?_
   refine'⟨_,by da_tab,?_⟩
   refine' zS ?_
   refine' c4 ?_
   refine' zp ?_
   refine' c4 ?_
   refine' c4 ?_
   refine' zp ?_
   refine' zp ?_
   rw[show(2:Int) ^ (64:Int).toNat - 1=18446744073709551615 from rfl,w5,Nat.mod_eq_of_lt hF,I3,J4,iV]
   skip
   refine y6 (by decide) (by decide) (by decide) ?_
   refine' zp ?_
   refine' w2 ?_
   refine' j9 ?_
   refine'⟨_,by da_tab,?_⟩
   refine' zS ?_
   refine' c4 ?_
   refine' zp ?_
   refine' c4 ?_
   refine' c4 ?_
   refine' zp ?_
   refine' zp ?_
   rw[show(2:Int) ^ (64:Int).toNat - 1=18446744073709551615 from rfl,w5,I3,J4,Hc]
   refine y6 (by decide) (by decide) (by decide) ?_
   refine' zp ?_
   refine' w2 ?_
   refine' j9 ?_
   refine'⟨_,by da_tab,?_⟩
   refine' g5 ?_
   refine' c4 ?_
   refine' zp ?_
   refine' c4 ?_
   refine' c4 ?_
   refine' zp ?_
   refine' zp ?_
   rw[show(2:Int) ^ (64:Int).toNat - 1=18446744073709551615 from rfl,w5,I3,J4]
   refine y6 (by decide) (by decide) (by decide) ?_
   refine' zp ?_
   refine' w2 ?_
   refine' j9 ?_
   rw[show(2:Int) ^ (32:Int).toNat - 1=4294967295 from rfl,bitAnd_m32]
   refine nZ hG ?_ hq
   have hx:((dO b%4294967296:Nat):Int)=((dO b:Nat):Int)%4294967296:=Int.natCast_emod _ _
   rw[hx]
   unfold dO Rf Re Rd
   rw[Nat.mod_eq_of_lt hX5,← hT,show Int.toNat 33=33 from rfl,show Int.toNat 29=29 from rfl,show Int.toNat 32=32 from rfl]
 refine b8 ?_
 refine fZ c hh ?_
 refine' zp ?_
 refine⟨_,[.int 11400714785074694791,.int 14029467366897019727,.int 1609587929392839161,.int 9650029242287828579,.int 2870177450012600261],[.int 11400714785074694791 2949,.int 14029467366897019727 2950,.int 1609587929392839161 2951,.int 9650029242287828579 2952,.int 2870177450012600261 2953],rfl,by kernel_rfl,.cons (.int _ _) (.cons (.int _ _) (.cons (.int _ _) (.cons (.int _ _) (.cons (.int _ _) .nil)))),rfl,?_⟩
 refine' d8 ?_
 refine' zk ?_
 refine' d8 ?_
 refine' zk ?_
 refine' d8 ?_
 refine' zk ?_
 refine' d8 ?_
 refine' zk ?_
 refine' d8 ?_
 refine' zk ?_
 refine' C1 ?_
 refine' d9 ?_
 refine' b8 ?_
 refine n5 hh ?_
 refine' j3 ?_
 refine' za ?_
 (refine'⟨?_,fun _=>?_⟩;focus (exact nb rfl))
 refine'⟨_,_,rfl,by law_side,by with_unfolding_all exact rfl,?_⟩
 repeat (refine H3 c.ok (by da_tab) ?_)
 refine O8 ?_
 refine b8 ?_
 rw[show(2870177450012600261:Int)+(b.length:Int)=((X5+b.length:Nat):Int) from(Int.natCast_add _ _).symm]
 refine J0 K8 (fun q ρ' H'=>∃(F bg:Nat) (la:Option AV),q=b.length - bg∧bg≤b.length∧F<M2∧t8 F (b.drop bg)=t8 (X5+b.length) b∧ρ'=([("octets",some (.bytes b)),("one",some (.int 11400714785074694791)),("two",some (.int 14029467366897019727)),("three",some (.int 1609587929392839161)),("four",some (.int 9650029242287828579)),("five",some (.int 2870177450012600261)),("whole",some (.int F)),("spot",some (.int bg)),("lane",la),("octet",none)]:b0)∧H.Sublist H') b.length ⟨_,0,none,rfl,Nat.zero_le _,hX5,rfl,rfl,.cons _ (.refl _)⟩ ?_
 intro q ρ' H' hz90;obtain⟨F,bg,la,zq1,hbg,hF,hT,zq2,hsub⟩:=hz90;subst zq1;subst zq2
 refine' D2 (by da_there) ?_
 refine H4 (fun ht=>?_) (fun ht=>?_)
 ·have ht:=of_decide_eq_true ht
  refine' zS ?_
  refine' b9 ?_
  refine' zp ?_
  refine U5 c (fun _ _ h=>by cases h) (fun x=>?_)
  refine' zp ?_
  rw[dM _ _ _ (by exact Int.natCast_nonneg _) (by exact Pa),show((bg:Int)).toNat=bg by exact Int.toNat_natCast _,show((bg:Int)+8).toNat - bg=8 by exact OS]
  refine⟨_,_,rfl,by rw[List.length_take];exact JW,rfl,?_⟩
  rw[rN]
  refine'⟨_,by da_tab,?_⟩
  refine' zS ?_
  refine' c4 ?_
  refine' zp ?_
  refine' c4 ?_
  refine' c4 ?_
  refine' zc ?_
  rw[iV]
  refine a9 c hh (by kernel_rfl) (y1 _ _ 31 rfl (by decide) ?_)
  refine' zp ?_
  refine' x6 (.of_right (intBits_le_64 (by decide) (by decide))) ?_
  refine' c4 ?_
  refine' c4 ?_
  refine' zp ?_
  refine' zp ?_
  refine y6 (by decide) (by decide) (by decide) ?_
  refine' zp ?_
  refine' w2 ?_
  refine' j9 ?_
  refine' N8 ?_
  refine'⟨_,by da_tab,?_⟩
  refine' b8 ?_
  rw[show(2:Int) ^ (64:Int).toNat - 1=18446744073709551615 from rfl,cE,w5,J4]
  refine n5 hh ?_
  refine' j3 ?_
  refine' a8 ?_
  refine' c4 ?_
  refine' c4 ?_
  refine' c4 ?_
  refine' zc ?_
  refine a9 c hh (by kernel_rfl) (y1 _ _ 27 rfl (by decide) ?_)
  rw[Nat.mod_eq_of_lt (bF hF (Nat.mod_lt _ (by decide)))]
  refine' zp ?_
  refine' x6 (.of_right (intBits_le_64 (by decide) (by decide))) ?_
  refine' zp ?_
  refine' y3 ?_
  refine' c4 ?_
  refine' c4 ?_
  refine' zp ?_
  refine' zp ?_
  refine y6 (by decide) (by decide) (by decide) ?_
  refine' zp ?_
  refine' w2 ?_
  refine' j9 ?_
  refine' za ?_
  (refine'⟨?_,fun _=>?_⟩;focus (exact nb rfl))
  refine'⟨_,_,rfl,by law_side,by with_unfolding_all exact rfl,?_⟩
  rw[show(2:Int) ^ (64:Int).toNat - 1=18446744073709551615 from rfl,cE,He,w5]
  repeat (refine H3 c.ok (by da_tab) ?_)
  refine O8 ?_
  rw[show(bg:Int)+8=((bg+8:Nat):Int) from rfl]
  refine' d9 ?_
  refine' f8 ?_
  refine⟨b.length - (bg+8),by exact LF ht,h8 F (le ((b.drop bg).take 8)),bg+8,_,rfl,by exact Ly ht,Hh _ _,?_,rfl,.cons _ hsub⟩
  ·rw[← hT,yI (b:=b.drop bg) (by rw[List.length_drop];exact LD ht),List.drop_drop]
 ·have ht:=of_decide_eq_false ht
  have hT4:t4 F (b.drop bg)=t8 (X5+b.length) b:=by rw[← hT,yJ (by rw[List.length_drop];exact Mz ht)]
  refine' d9 ?_
  refine' oG (by da_there) ?_
  refine H4 (fun ht4=>?_) (fun ht4=>?_)
  ·have ht4:=of_decide_eq_true ht4
   refine b8 ?_
   refine' m6 (Cx.ok (by assumption)) ?_ rfl
   refine' c4 ?_
   refine' c4 ?_
   refine' zp ?_
   refine' c4 ?_
   refine' c4 ?_
   refine' zp ?_
   refine' zp ?_
   refine y6 (by decide) (by decide) (by decide) ?_
   refine' zp ?_
   refine' w2 ?_
   refine' j9 ?_
   refine' c4 ?_
   refine' c4 ?_
   refine' b9 ?_
   refine' zp ?_
   refine U5 c (fun _ _ h=>by cases h) (fun x=>?_)
   refine' zp ?_
   rw[dM _ _ _ (by exact Int.natCast_nonneg _) (by exact OZ),show((bg:Int)).toNat=bg by exact Int.toNat_natCast _,show((bg:Int)+4).toNat - bg=4 by exact OR]
   refine⟨_,_,rfl,by rw[List.length_take];exact Pb,rfl,?_⟩
   rw[rN]
   refine' zp ?_
   refine' x6 (.of_right (intBits_le_64 (by decide) (by decide))) ?_
   refine' c4 ?_
   refine' c4 ?_
   refine' zp ?_
   refine' zp ?_
   refine y6 (by decide) (by decide) (by decide) ?_
   refine' zp ?_
   refine' w2 ?_
   refine' j9 ?_
   refine' N8 ?_
   refine'⟨_,by da_tab,?_⟩
   refine' d9 ?_
   refine' b8 ?_
   rw[show(2:Int) ^ (64:Int).toNat - 1=18446744073709551615 from rfl,w5,cE,w5,J4,Nat.mod_eq_of_lt hF]
   refine n5 hh ?_
   refine' j3 ?_
   refine' a8 ?_
   refine' c4 ?_
   refine' c4 ?_
   refine' c4 ?_
   refine' zc ?_
   refine a9 c hh (by kernel_rfl) (y1 _ _ 23 rfl (by decide) ?_)
   rw[Nat.mod_eq_of_lt (bF hF (Nat.mod_lt _ (by decide)))]
   refine' zp ?_
   refine' x6 (.of_right (intBits_le_64 (by decide) (by decide))) ?_
   refine' zp ?_
   refine' y3 ?_
   refine' c4 ?_
   refine' c4 ?_
   refine' zp ?_
   refine' zp ?_
   refine y6 (by decide) (by decide) (by decide) ?_
   refine' zp ?_
   refine' w2 ?_
   refine' j9 ?_
   refine' za ?_
   (refine'⟨?_,fun _=>?_⟩;focus (exact nb rfl))
   refine'⟨_,_,rfl,by law_side,by with_unfolding_all exact rfl,?_⟩
   rw[show(2:Int) ^ (64:Int).toNat - 1=18446744073709551615 from rfl,iV,Hf,w5]
   repeat (refine H3 c.ok (by da_tab) ?_)
   refine O8 ?_
   rw[show(bg:Int)+4=((bg+4:Nat):Int) from rfl]
   refine' d9 ?_
   refine' c7 ?_
   refine rest (h4 F (le ((b.drop bg).take 4))) (bg+4) _ _ (.cons _ hsub) (by exact Lx ht4) (Hi _ _) ?_
   rw[← hT4,t4,if_pos (by rw[List.length_drop];exact LC ht4),List.drop_drop]
  ·have ht4:=of_decide_eq_false ht4
   refine' c7 ?_
   refine rest F bg _ _ hsub hbg hF ?_
   rw[← hT4,t4,if_neg (by rw[List.length_drop];exact My ht4)]
theorem f0(v k:Nat):(D0 v k).length=k:=by unfold D0;rw[List.length_map,List.length_range]
theorem u8(n:Nat):((n%256).toUInt8).toNat=n%256:=by
 refine(?_:(n%256)%256=n%256)
 exact OT
theorem Rn(v:Nat):D0 v 3=[(v%256).toUInt8,(v / 256%256).toUInt8,(v / 65536%256).toUInt8]:=by
 refine(?_: [(v / 1%256).toUInt8,_,_]= _)
 rw[Nat.div_one]
theorem Hk(v:Nat):D0 v 4=[(v%256).toUInt8,(v / 256%256).toUInt8,(v / 65536%256).toUInt8,(v / 16777216%256).toUInt8]:=by
 refine(?_: [(v / 1%256).toUInt8,_,_,_]= _)
 rw[Nat.div_one]
theorem Gf{v:Nat}(h:v<16777216):le (D0 v 3)=v:=by
 rw[Rn]
 simp only[le,u8]
 exact NH h
theorem yL{v:Nat}(h:v<4294967296):le (D0 v 4)=v:=by
 rw[Hk]
 simp only[le,u8]
 exact NS h
theorem TJ(v:Nat):Builtin.bitAnd (v:Int) 3=((v%4:Nat):Int):=by
 rw[show(3:Int)=((3:Nat):Int) from rfl,M1,show(3:Nat)=2 ^ 2 - 1 from rfl,Nat.and_two_pow_sub_one_eq_mod]
theorem TK(v:Nat):Builtin.bitAnd (v:Int) 1=((v%2:Nat):Int):=by
 rw[show(1:Int)=((1:Nat):Int) from rfl,M1,Nat.and_one_is_mod]
theorem J5{L K:Nat}{last:Bool}(hL:L<100000) (hK:K<4):(Builtin.bitAnd (le (D0 (8*L+2*K+(if last then 1 else 0)) 3)) 1 == 1)=last∧Builtin.bitAnd ((le (D0 (8*L+2*K+(if last then 1 else 0)) 3):Int).fdiv (2 ^ (1:Int).toNat)) 3=(K:Int)∧
  (le (D0 (8*L+2*K+(if last then 1 else 0)) 3):Int).fdiv (2 ^ (3:Int).toNat)=(L:Int):=by
 have hb:(if last then 1 else 0)<2:=by cases last <;> decide
 rw[Gf (by exact KW hL hb hK),TK,show(1:Int).toNat=1 from rfl,show(3:Int).toNat=3 from rfl,I3,I3,TJ]
 refine⟨?_,?_,?_⟩
 ·cases last with
  | true=>rw[show(8*L+2*K+(if true=true then 1 else 0))%2=1 by simp;exact MD];rfl
  | false=>rw[show(8*L+2*K+(if false=true then 1 else 0))%2=0 by simp;exact OO];rfl
 ·congr 1
  refine(?_:(8*L+2*K+_) / 2%4=K)
  rw[show 8*L+2*K=2*(4*L+K) from(Nat.mul_assoc 2 4 L▸Nat.mul_add 2 (4*L) K).symm,Nat.mul_add_div (by decide),Nat.div_eq_of_lt hb,Nat.add_zero,Nat.mul_add_mod,Nat.mod_eq_of_lt hK]
 ·congr 1
  refine(?_:(8*L+2*K+_) / 8=L)
  rw[Nat.add_assoc,Nat.mul_add_div (by decide),Nat.div_eq_of_lt (Nat.add_lt_add_of_le_of_lt (Nat.mul_le_mul_left 2 (Nat.le_of_lt_succ hK)) hb),Nat.add_zero]
section
variable{w:World}{r d:Addr}
inductive PathE (w:World) (r d:Addr) (K:Kt) (B T:List UInt8) (K₂:Kt):Prop
 | mk (k:Nat) (p:Path w r d k K B T K₂)
theorem Path.app{k₁ k₂:Nat}{K K₁ K₂:Kt}{B B' T T':List UInt8}(h:Path w r d k₁ K B T K₁) (h2:Path w r d k₂ K₁ B' T' K₂):PathE w r d K (B++B') (T++T') K₂:=by
 induction h with
 | nil=>exact⟨_,h2⟩
 | cons g wt _ ih=>
  obtain⟨k,q⟩:=ih h2
  rw[List.append_assoc,List.append_assoc]
  exact⟨_,.cons g wt q⟩
theorem PathE.app{K K₁ K₂:Kt}{B B' T T':List UInt8}(h:PathE w r d K B T K₁) (h2:PathE w r d K₁ B' T' K₂):PathE w r d K (B++B') (T++T') K₂:=by
 obtain⟨_,h⟩:=h
 obtain⟨_,h2⟩:=h2
 exact h.app h2
theorem PathE.one{K K₁:Kt}{B T:List UInt8}(g:gW w r d K B T K₁) (wt:U6 w r d K B):PathE w r d K B T K₁:=by
 have h:=Path.cons g wt .nil
 rw[List.append_nil,List.append_nil] at h
 exact⟨_,h⟩
theorem aG{F:Fm}{out t:List UInt8}{last:Bool}(ht:t.length≤100) (hol:out.length≤400) (hm:(t.length:Int)≤F.most) (hf:IO F.size (out.length+t.length) last) :
  PathE w r d (Kh F out) (i7 t last) t (if last=true then Kc F (out++t) else Kh F (out++t)):=by
 unfold i7
 cases hk:P7 t with
 | false=>
  refine(?_:PathE _ _ _ _ (D0 (8*t.length+2*0+(if last then 1 else 0)) 3++t) _ _)
  refine wT (J5 (L:=t.length) (K:=0) (last:=last) (by exact JM ht) (by decide)) fun e1 e2 e3=>?_
  exact(PathE.one (bL (f0 _ _) e1 e2 e3 (by decide) hm) (S6 (f0 _ _))).app (PathE.one (DV (by exact HE ht) (by exact JO hol) hm hf) (W8 (by decide) hm (by simp) (by exact HE ht)))
 | true=>
  refine(?_:PathE _ _ _ _ (D0 (8*t.length+2*1+(if last then 1 else 0)) 3++t.take 1) _ _)
  refine wT (J5 (L:=t.length) (K:=1) (last:=last) (by exact JM ht) (by decide)) fun e1 e2 e3=>?_
  unfold P7 at hk
  rw[Bool.and_eq_true] at hk
  refine oA (hk) fun h0 h1=>?_
  have h0:=of_decide_eq_true h0
  have h1:=beq_iff_eq.mp h1
  have hpos:=List.length_pos_iff.mpr h0
  have ht1:(t.take 1).length=1:=by rw[List.length_take];exact Jx hpos
  refine(PathE.one (bL (f0 _ _) e1 e2 e3 (by decide) hm) (S6 (f0 _ _))).app ?_
  have g:=DW (w:=w) (r:=r) (d:=d) (F:=F) (out:=out) (b:=t.take 1) (size:=t.length) (last:=last) ht1 (by exact JO hol) hpos (by exact HE ht) hm hf
  rw[← h1] at g
  exact PathE.one g (W8 (by decide) hm (by rw[ht1];rfl) (by exact NW ht1))
theorem gA{F:Fm}{out:List UInt8}(hol:out.length<32):PathE w r d (Kc F out) (if F.ck=true then D0 (dO out%4294967296) 4 else[]) [] (K0 (F.n+1)):=by
 cases hc:F.ck with
 | true=>exact PathE.one (wM hc (f0 _ _) hol (yL (Nat.mod_lt _ (by decide)))) (fY hc (f0 _ _))
 | false=>exact PathE.one (fX hc).1 (fX hc).2
noncomputable def J6(texts:List (List UInt8)) (i m:Nat):List UInt8:=((List.range' i m).map fun j=>i7 (texts.getD j []) (j+1 == texts.length)).flatten
noncomputable def aH(texts:List (List UInt8)) (i m:Nat):List UInt8:=((List.range' i m).map fun j=>texts.getD j []).flatten
theorem cJ{F:Fm}{texts:List (List UInt8)}(hs:F.size=.none) (hw:F.most=1024) (ht:∀t∈texts,t.length≤10):∀(m i:Nat) (out:List UInt8),i+(m+1)=texts.length→out.length+10*(m+1)≤100→
  PathE w r d (Kh F out) (J6 texts i (m+1)) (aH texts i (m+1)) (Kc F (out++aH texts i (m+1)))
 | m,i,out,hi,ho=>by
  have hl:(texts.getD i []).length≤10:=by
   rw[List.getD_eq_getElem?_getD,List.getElem?_eq_getElem (by exact IY hi)]
   exact ht _ (List.getElem_mem _)
  have hb:=aG (w:=w) (r:=r) (d:=d) (F:=F) (out:=out) (t:=texts.getD i []) (last:=i+1 == texts.length) (by exact Oo hl) (by exact LK ho) (by rw[hw];exact On hl) (.inl hs)
  unfold J6 aH
  rw[List.range'_succ,List.map_cons,List.map_cons,List.flatten_cons,List.flatten_cons]
  cases m with
  | zero=>
   rw[show(i+1 == texts.length)=true from beq_iff_eq.mpr (by assumption)] at hb ⊢
   rw[show List.range' (i+1) 0=[] from rfl,List.map_nil,List.map_nil,List.flatten_nil,List.append_nil,List.append_nil]
   exact hb
  | succ m=>
   rw[show(i+1 == texts.length)=false from beq_eq_false_iff_ne.mpr (by exact KJ hi)] at hb ⊢
   rw[← List.append_assoc]
   exact hb.app (cJ hs hw ht m (i+1) (out++texts.getD i []) (by exact KI hi) (by rw[List.length_append];exact KD ho hl))
theorem oV(ck:Bool):(let e:UInt8:=(32+4*bI ck).toUInt8;Builtin.bitAnd (e.toNat:Int) 8=0∧(Builtin.bitAnd (e.toNat:Int) 32 != 0)=true∧(e.toNat:Int).fdiv (2 ^ (6:Int).toNat)=0∧Builtin.bitAnd (e.toNat:Int) 3=0∧(Builtin.bitAnd (e.toNat:Int) 4 != 0)=ck)∧
  (let e:UInt8:=(4*bI ck).toUInt8;Builtin.bitAnd (e.toNat:Int) 8=0∧(Builtin.bitAnd (e.toNat:Int) 32 != 0)=false∧(e.toNat:Int).fdiv (2 ^ (6:Int).toNat)=0∧Builtin.bitAnd (e.toNat:Int) 3=0∧(Builtin.bitAnd (e.toNat:Int) 4 != 0)=ck):=by
 cases ck <;> exact⟨⟨by kernel_rfl,by kernel_rfl,by kernel_rfl,by kernel_rfl,by kernel_rfl⟩,⟨by kernel_rfl,by kernel_rfl,by kernel_rfl,by kernel_rfl,by kernel_rfl⟩⟩
noncomputable def H8(n:Nat) (ck:Bool):List UInt8:=[40,181,47,253,(32+4*bI ck).toUInt8,n.toUInt8]
noncomputable def P8(ck:Bool):List UInt8:=[40,181,47,253,(4*bI ck).toUInt8,0]
theorem P9{n:Int}{m:Nat}{ck:Bool}(hm:m<256):PathE w r d (K0 n) (H8 m ck) [] (Kh ⟨n,m,m,.int m,ck,true⟩ []):=by
 refine oA (oV ck) fun zq1 _=>?_;refine bO (zq1) fun h1 h2 h3 h4 h5=>?_
 have g:=oS (w:=w) (r:=r) (d:=d) (n₀:=n) (m:=m.toUInt8) h1 h2 h3 h4 h5
 have e:m.toUInt8.toNat=m:=by
  refine(?_:m%256=m)
  exact JB hm
 rw[e] at g
 exact PathE.one g.1 g.2
theorem cK{n:Int}{ck:Bool}:PathE w r d (K0 n) (P8 ck) [] (Kh ⟨n,1024,1024,.none,ck,false⟩ []):=by
 refine rX (oV ck) fun _ h1 h2 h3 h4 h5=>?_
 have g:=oU (w:=w) (r:=r) (d:=d) (n₀:=n) h1 h2 h3 h4 h5
 exact PathE.one g.1 g.2
noncomputable def oW(ck:Bool) (t:List UInt8):List UInt8:=if ck=true then D0 (dO t%4294967296) 4 else[]
theorem oX{n:Int}{t:List UInt8}{ck:Bool}(ht:t.length<32):PathE w r d (K0 n) (H8 t.length ck++i7 t true++oW ck t) t (K0 (n+1)):=by
 have h1:=P9 (w:=w) (r:=r) (d:=d) (n:=n) (m:=t.length) (ck:=ck) (by exact JD ht)
 have h2:=aG (w:=w) (r:=r) (d:=d) (F:=⟨n,t.length,t.length,.int t.length,ck,true⟩) (out:=[]) (t:=t) (last:=true) (by exact Bn ht) (by simp) (Int.le_refl _) (.inr ⟨t.length,rfl,by simp⟩)
 have h3:=gA (w:=w) (r:=r) (d:=d) (F:=⟨n,t.length,t.length,.int t.length,ck,true⟩) (out:=t) ht
 have:=(h1.app h2).app h3
 rw[List.append_nil] at this
 exact this
theorem rO(texts:List (List UInt8)):aH texts 0 texts.length=texts.flatten:=by
 unfold aH
 rw[← List.range_eq_range']
 congr 1
 apply List.ext_getElem
 ·rw[List.length_map,List.length_range]
 ·intro i h1 h2
  rw[List.getElem_map,List.getElem_range,List.getD_eq_getElem?_getD,List.getElem?_eq_getElem h2,Option.getD_some]
theorem oY{n:Int}{texts:List (List UInt8)}{ck:Bool}(h0:texts≠[]) (ht:∀t∈texts,t.length≤10) (hl:texts.length≤3) (hlt:texts.flatten.length<32):PathE w r d (K0 n) (P8 ck++J6 texts 0 texts.length++oW ck texts.flatten) texts.flatten (K0 (n+1)):=by
 have hpos:=List.length_pos_iff.mpr h0
 obtain⟨m,hm⟩:∃m,texts.length=m+1:=⟨texts.length - 1,by exact Nx hpos⟩
 have h1:=cK (w:=w) (r:=r) (d:=d) (n:=n) (ck:=ck)
 have h2:=cJ (w:=w) (r:=r) (d:=d) (F:=⟨n,1024,1024,.none,ck,false⟩) rfl rfl ht m 0 [] (by exact Mt hm) (by simp;exact Ms hm hl)
 rw[← hm,rO] at h2
 have h3:=gA (w:=w) (r:=r) (d:=d) (F:=⟨n,1024,1024,.none,ck,false⟩) (out:=texts.flatten) hlt
 have:=(h1.app h2).app h3
 rw[List.append_nil] at this
 exact this
end
inductive Ro {β:Type}(Q:β→b0→AH→Prop) (b:β) (ρ:b0) (H:AH):Prop
 | mk (H₂:AH) (s:H₂.Sublist H) (q:Q b ρ H₂)
theorem M4{α β:Type}{w:World}{f:FI}{fx:Fx}{X:AV→b0→AH→Prop}{rep:β→α→Prop}{t:Sem α}{ρ:b0}{H:AH}{Q:β→b0→AH→Prop}(h:Tr w f fx X rep t ρ H (Ro Q)):Tr w f fx X rep t ρ H Q:=fun s S=>
 b6 (h s S) (fun v s' ⟨b,ρ',H',r,S',H'',hs,q⟩=>⟨b,ρ',H'',r,S'.sub (fun p hp=>hs.subset hp) (by obtain⟨_,_,S2⟩:=S';exact S2.keys.sublist (hs.map _)),q⟩) fun _ _ x=>x
noncomputable abbrev DY(purse:Str) (m:Int) (k:Nat) (p1 p2 p3 p4:Pos):Expr:=.Call (.Name "_law_coin" p1) [.Name purse p2,.Constant (.int m) k p3] [] p4
inductive TL (C pu:Addr) (Q:AV→b0→AH→Prop) (v:AV) (ρ:b0) (H:AH):Prop
 | mk (rr:Addr) (N:Nat) (t u v':Tok) (g m:Int) (G:AH) (e:v=.ref rr) (e2:H=(rr,.raw (E6 0 N t u v'))::(pu,.list [.int g,.int m])::(C,.cell (some (.ref pu)))::G) (hN:N≤100) (h0:0≤g) (h1:0≤m) (h2:m<2 ^ 30)
   (q:∀(acc:Addr) (bs:List Nat) (g':Int),bs.length=N→(∀b∈bs,b<256)→0≤g'→Q (.ref acc) ρ ((acc,.list (bs.map fun b=>.int (b:Nat)))::(pu,.list [.int g',.int (m+N)])::(C,.cell (some (.ref pu)))::G))
inductive TM (C pu:Addr) (m:Int) (G:AH) (i:Nat) (xs:List AV) (G':AH):Prop
 | mk (bs:List Nat) (g':Int) (e:xs=bs.map fun b=>AV.int (b:Nat)) (hl:bs.length=i) (hb:∀b∈bs,b<256) (hg:0≤g') (e2:G'=(pu,.list [.int g',.int (m+i)])::(C,.cell (some (.ref pu)))::G)
theorem gB{w:World}{f:FI}{fx:Fx}{X:AV→b0→AH→Prop}{ρ:b0}{H:AH}{n:Nat}{iter:Expr}{scope:Scope}{k1 k2:Nat}{p1 p2 p3 p4 p5 p6 p7 pos:Pos}{cl:List (Str×Addr)}{C pu:Addr}{Q:AV→b0→AH→Prop}(c:Cx w f fx n) (hn:1≤n) (hh:fx.A.handled=none)
  (hclos:closureFor scope (f.env fx)=pure cl) (okc:(FI.mk f.qual (PySem.relabel scope (f.env fx)) none f.cd ["k"]).chk=true) (hcell:(scope.names.all fun x=>x.2 != .cell)=true) (hkind:scope.kind=.function) (hnames:(scope.names.all fun x=>x.2 != .local || scope.names.lookup x.1 == some .local)=true)
  (hk:((PySem.relabel scope (f.env fx)).names.lookup ("purse":Str) == some .cell)=true) (hg:((PySem.relabel scope (f.env fx)).names.lookup ("_law_coin":Str) == some .globalImplicit)=true) (hc:cl.lookup ("purse":Str)=some C)
  (h:Ev w f fx X iter ρ H (TL C pu Q))
  (hs:autoParam (∀x,foldedSetIterable iter (f.env fx) x=pure x) kI) :
  Ev w f fx X (.ListComp (.BinOp (.Constant (.int 97) k1 p1) .Add (DY "purse" 3 k2 p2 p3 p4 p5) p6) [⟨.Name "k" p7,iter,[],0⟩] scope pos) ρ H Q:=by
 refine P1 (cl:=cl) c hh hclos okc hcell hkind hnames (z7 h fun v ρ₁ H₁ q=>?_) hs
 obtain⟨rr,N,t,u,v',g,m,G,rfl,rfl,hN,hg0,hm0,hm1,hQ⟩:=q
 refine⟨rr,N,t,u,v',TM C pu m G,_,rfl,rfl,by exact JN hN,⟨[],g,rfl,rfl,(fun b hb=>by cases hb),hg0,by rw[show m+((0:Nat):Int)=m by exact Nq]⟩,?_,?_⟩
 ·rintro fxc i xs G' I b acc cx hA hcl hi ⟨bs,g',rfl,hbl,hb8,hg',rfl⟩
  refine c4 ?_
  refine u1 ?_
  refine p0 cx (f7 (by law_side)) hg rfl (by kernel_rfl) ?_ (by rfl) (by rfl)
  refine a8 ?_
  refine t9 cx.ok hk (c:=C) (by rw[hcl];exact hc) (.there (.there (.there .here))) rfl ?_
  refine a8 ?_
  refine u1 ?_
  refine g7 ?_
  refine rE cx (by rw[hA];exact hh) hn (DelN.perm (ps:=[_]) (.cons (.there (.there .here)) .nil)) (D9 (g:=g') (k:=m+(i:Int)) hg' (by exact Pn hm0) (by exact Ph hm1 hi hN) (by decide) (by decide) fun g2 v hg2 hv1=>?_)
  refine y3 ?_
  refine⟨(pu,.list [.int g2,.int (m+i+1)])::(C,.cell (some (.ref pu)))::G,.cons (.there .here) (.cons (.there .here) .nil),bs++[97+v],g2,?_,?_,?_,hg2,?_⟩
  ·rw[List.map_append];rfl
  ·rw[List.length_append,hbl];rfl
  ·intro b hb
   rcases List.mem_append.mp hb with hb |hb
   ·exact hb8 b hb
   ·rw[List.mem_singleton.mp hb];exact NA hv1
  ·rw[show m+((i+1:Nat):Int)=m+i+1 by exact Pr]
 ·rintro xs G' acc hl ⟨bs,g',rfl,hbl,hb8,hg',rfl⟩
  exact hQ acc bs g' hbl hb8 hg'
section
variable{w:World}{fc:FI}{fxc:Fx}
theorem rP{xa xb:Str}{pa pb pt:Pos}{k:Nat}{it e:Addr}{N:Nat}{val:Nat→AV}{PI:Nat→Obj→Prop}{GC:AH→Prop}(ok:fc.Ok) (hl:fc.locs=[xa,xb]) (hh:fxc.A.handled=none) (hne:xa≠xb) (Sr:K9 w fc fxc it N val PI GC) (mono:∀p G,GC G→GC (p::G)) :
  Z3 w fc fxc (.Tuple [.Name xa pa,.Name xb pb] k pt) (fun I (o:Addr×Obj×Obj)=>[(I,.raw o.2.1),(o.1,.raw o.2.2)]) (fun I i o=>o.1=it∧I=e∧(∃old,o.2.1=m4 it (i:Nat) old)∧PI i o.2.2) N (fun i=>[(xa,some (.int i)),(xb,some (val i))]) GC where
 mono:=mono
 self:=fun{E Q ρ G s I i b} hp S hq=>by
  obtain⟨a,o⟩:=b
  refine oA (hp) fun zq1 hp=>?_;subst zq1
  exact(W2 (pa:=pa) (pb:=pb) (pt:=pt) (k:=k) (e:=e) ok hl hh hne Sr mono).self hp S hq
 step:=fun{E Q' ρ G s I i b} hρ hi hp hG S hq=>by
  obtain⟨a,o⟩:=b
  refine oA (hp) fun zq1 hp=>?_;subst zq1
  exact(W2 (pa:=pa) (pb:=pb) (pt:=pt) (k:=k) (e:=e) ok hl hh hne Sr mono).step hρ hi hp hG S fun s' b' h S'=>hq s' (_,b') ⟨rfl,h⟩ S'
 done:=fun{E Q ρ G s I b} hp hG S hq=>by
  obtain⟨a,o⟩:=b
  refine oA (hp) fun zq1 hp=>?_;subst zq1
  exact(W2 (pa:=pa) (pb:=pb) (pt:=pt) (k:=k) (e:=e) ok hl hh hne Sr mono).done hp hG S hq
end
theorem S7(t:List UInt8) (last:Bool):(i7 t last).length≤3+t.length:=by
 unfold i7
 rw[List.length_append,f0]
 split
 ·rw[List.length_take];exact HH
 ·exact Nat.le_refl _
theorem bN{texts:List (List UInt8)}(ht:∀t∈texts,t.length≤16):∀l:List Nat,(l.map fun j=>i7 (texts.getD j []) (j+1 == texts.length)).flatten.length≤20*l.length
 | []=>by simp
 | j::l=>by
  rw[List.map_cons,List.flatten_cons,List.length_append,List.length_cons]
  have h1:=S7 (texts.getD j []) (j+1 == texts.length)
  have h2:=bN ht l
  have h3:(texts.getD j []).length≤16:=by
   rw[List.getD_eq_getElem?_getD]
   cases h:texts[j]? with
   | none=>simp
   | some t=>exact ht t (List.mem_of_getElem? h)
  exact Kz h2 h1 h3
theorem iX{α:Type}{a:α}{l l':List α}(h:DelN [a] l l'):l.Perm (a::l'):=h.perm
theorem DZ{α:Type}{a b c:α}{l l':List α}(h:DelN [a,b,c] l l'):l.Perm (a::b::c::l'):=h.perm
noncomputable abbrev Eb:FI:=d1703.fiC ["text", "is_checked", "made"]
theorem gC{w:World}{A:Around}{base:Heap}{outer stk:List Env}{h₀:Heap}{L frame:Addr}{os:OsState}{lt pu:Addr}{hd text:List UInt8}{texts:List (List UInt8)}{ck:Bool}{g m:Int}{R:AH}{Q:AF→b0→AH→Prop}(c:Cx w Eb ⟨A,base,outer,stk,h₀,L,frame,d1703.cellsC L,os⟩ 3) (hh:A.handled=none)
  (hl1:1≤texts.length) (hl:texts.length≤3) (ht:∀t∈texts,t.length≤16) (htx:text.length≤15) (hhd:hd.length=6)
  (h:∀tp R',((tp,AO.tup [.bytes (hd++((List.range texts.length).map fun j=>i7 (texts.getD j []) (j+1 == texts.length)).flatten++oW ck text),.bytes text,.bool ck])::(pu,.list [.int g,.int m])::R).Sublist R'→Q (.ret (.ref tp)) [("text",some (.bytes text)),("is_checked",some (.bool ck)),("made",some (.bytes (hd++((List.range texts.length).map fun j=>i7 (texts.getD j []) (j+1 == texts.length)).flatten)))] R') :
  Ex w Eb ⟨A,base,outer,stk,h₀,L,frame,d1703.cellsC L,os⟩ (fun _ _ _=>False) ((j5 d1703.stmt).drop 4) [("text",some (.bytes text)),("is_checked",some (.bool ck)),("made",some (.bytes hd))] ((lt,.list (texts.map .bytes))::(L+2,.cell (some (.ref lt)))::(pu,.list [.int g,.int m])::R) Q:=by
 refine b8 ?_
 refine' m6 (Cx.ok (by assumption)) ?_ rfl
 refine' c4 ?_
 refine' zp ?_
 refine' b9 ?_
 refine' zp ?_
 refine xZ c ?_ (by rfl)
 refine a8 ?_
 refine cA (cl:=[("texts",L+2)]) (locs:=["at", "one"]) (mk:=fun I (o:Addr×Obj×Obj)=>[(I,.raw o.2.1),(o.1,.raw o.2.2)]) c hh rfl rfl (FI.ok_of (by kernel_rfl)) (yA (by kernel_rfl)) rfl (GX (by kernel_rfl)) ?_ (by intro _;rfl)
 refine z9 c (f7 (by law_side)) (by kernel_rfl) rfl ?_ (by rfl) (by rfl)
 refine a8 ?_
 refine t9 c.ok (by kernel_rfl) (c:=L+2) (by rfl) (by law_side) rfl ?_
 refine g7 ?_
 refine nX (.here) (fun e it oi hoi=>?_)
 refine⟨fun I i o=>o.1=it∧I=e∧(∃old,o.2.1=m4 it (i:Nat) old)∧o.2.2.cls=.type "list_iterator"∧o.2.2.data=.fields #[.ref lt,.int i 0],(texts.map AV.bytes).length,fun i=>[("at",some (.int i)),("one",some ((texts.map AV.bytes).getD i .none))],fun G=>In1 lt (.list (texts.map .bytes)) G,
  fun i xs G=>xs=(List.range i).map (fun j=>AV.bytes (i7 (texts.getD j []) (j+1 == texts.length)))∧G=(lt,.list (texts.map .bytes))::(L+2,.cell (some (.ref lt)))::(pu,.list [.int g,.int m])::R,_,?_,?_,?_,by rw[List.length_map];exact Oy hl,⟨rfl,rfl⟩,?_,?_,?_⟩
 ·rintro E s cv ⟨⟩ S
  obtain⟨m',news,S⟩:=S
  refine f9 (S.items _ (.head _)) fun o h1 h2=>?_
  cases h2
  exact wpAny_pyIter_enum (S.freed h1) ⟨e,(it,m4 it 0 .none,oi),rfl,⟨rfl,rfl,⟨.none,rfl⟩,hoi⟩,⟨m',news,S⟩⟩
 ·exact fun fxc hA cx=>rP cx.ok rfl (by rw[hA];exact hh) (by decide) (Dr it lt (texts.map AV.bytes)) (fun p G h=>.there h)
 ·intro i;rfl
 ·intro i xs G hz90;refine oA (hz90) fun _ zq1=>?_;clear hz90;subst zq1
  exact .here
 ·intro hz90 i xs G I b acc cx hA hcl hi hP hz91;obtain⟨A',base',outer',stk',h₀',L',frame',cells',os'⟩:=hz90;refine oA (hz91) fun zq1 zq2=>?_;clear hz91;subst zq1;subst zq2
  dsimp only at hA hcl hP ⊢
  subst hA hcl
  obtain⟨it',oe,oi'⟩:=b
  rw[List.length_map] at hi
  have hge:(texts.map AV.bytes).getD i .none=.bytes (texts.getD i []):=by
   rw[List.getD_eq_getElem?_getD,List.getElem?_map,List.getD_eq_getElem?_getD,List.getElem?_eq_getElem hi];rfl
  have hti:(texts.getD i []).length≤16:=by
   rw[List.getD_eq_getElem?_getD,List.getElem?_eq_getElem hi]
   exact ht _ (List.getElem_mem _)
  rw[hge]
  dsimp only[List.cons_append,List.nil_append]
  refine p0 cx (f7 (by law_side)) (by kernel_rfl) rfl (by kernel_rfl) ?_ (by rfl) (by rfl)
  refine a8 ?_
  refine m7 cx.ok (by law_side) rfl ?_
  refine a8 ?_
  refine V6 rfl ?_
  refine m7 cx.ok (by law_side) rfl ?_
  refine c4 ?_
  refine O3 cx (f7 (by law_side)) (by kernel_rfl) rfl ?_ (by kernel_rfl) (by kernel_rfl)
  refine a8 ?_
  refine t9 cx.ok (by kernel_rfl) (c:=L+2) (by rfl) (by law_side) rfl ?_
  refine g7 ?_
  refine rD (a:=lt) (xs:=texts.map AV.bytes) (by law_side) (by rw[List.length_map];exact Ox hl) ?_
  refine u1 ?_
  refine w2 ?_
  refine T9 ?_
  refine g7 ?_
  rw[show((i:Int) == ((texts.map AV.bytes).length:Int) - 1)=(i+1 == texts.length) from by
   rw[List.length_map]
   by_cases e:i+1=texts.length
   ·rw[beq_iff_eq.mpr e,beq_iff_eq.mpr (by exact LM e)]
   ·rw[beq_eq_false_iff_ne.mpr e,beq_eq_false_iff_ne.mpr (by exact MA e)]]
  refine a9 cx hh (by kernel_rfl) (n8 (by exact Ou hti) ?_)
  refine⟨_,.cons .here (.cons .here (.cons .here .nil)),?_,rfl⟩
  rw[List.range_succ,List.map_append];rfl
 ·intro xs G acc hxl hz90;refine oA (hz90) fun zq1 zq2=>?_;clear hz90;subst zq1;subst zq2
  rw[List.length_map] at hxl ⊢
  refine g7 ?_
  have hbl:=bN ht (List.range texts.length)
  rw[List.length_range] at hbl
  refine⟨acc,(List.range texts.length).map (fun j=>i7 (texts.getD j []) (j+1 == texts.length)),rfl,?_,by rw[List.length_map,List.length_range];exact hl1,by exact Mk hbl hl,?_⟩
  ·rw[List.map_map];exact .here
  refine r5 (by exact La hhd hbl hl) ?_
  refine'⟨_,by da_tab,?_⟩
  refine' d9 ?_
  refine' g5 ?_
  refine' j3 ?_
  refine' a8 ?_
  refine' c4 ?_
  refine' zp ?_
  refine' z8 ?_
  refine' D2 (by da_there) ?_
  cases ck with
  | true=>
   refine' zV ?_
   refine' zv ?_
   refine' a8 ?_
   refine' zc ?_
   refine a9 c hh (by kernel_rfl) (aF (b:=text) (by exact HF htx) ?_)
   refine' za ?_
   refine a9 c hh (by kernel_rfl) (m9 (v:=dO text%4294967296) (k:=4) (by decide) ?_)
   have h4:=f0 (dO text%4294967296) 4
   refine r5 (by rw[List.length_append];exact KA h4 hhd hbl hl) ?_
   refine' za ?_
   (refine'⟨?_,fun _=>?_⟩;focus (exact nb rfl))
   exact h _ _ (.cons_cons _ (.cons _ (.cons _ (.cons _ (.refl _)))))
  | false=>
   refine' zF ?_
   refine' zp ?_
   refine' r5 (by(simp only[X0,X6,X7,X8,X9];exact KZ hhd hbl hl)) ?_
   refine' za ?_
   (refine'⟨?_,fun _=>?_⟩;focus (exact nb rfl))
   exact h _ _ (.cons_cons _ (.cons _ (.cons _ (.cons _ (.refl _)))))
inductive FrJ (L pu:Addr) (m:Int) (R:AH) (i:Nat) (xs:List AV) (G:AH):Prop
 | mk (bs:List (List UInt8)) (g' m':Int) (e:xs=bs.map AV.bytes) (hl:bs.length=i) (h5:∀t∈bs,t.length≤5) (hg:0≤g') (h1:m+1≤m') (h2:m'≤m+1+6*i) (e2:G=(pu,.list [.int g',.int m'])::(L+1,.cell (some (.ref pu)))::(L+2,.cell none)::R)
theorem Q0{w:World}{pu:Addr}{g m:Int}{R:AH}(hg:0≤g) (hm:0≤m) (hm2:m<2 ^ 29) {Q:AV→AH→Prop}(hq:∀(tp:Addr) (made:List UInt8) (text:List UInt8) (ck:Bool) (g':Int) (m':Int),0≤g'→m≤m'→m'≤m+100→made≠[]→made.length≤100→text.length≤15→(∀r d n,PathE w r d (K0 n) made text (K0 (n+1)))→Q (.ref tp) ((tp,.tup [.bytes made,.bytes text,.bool ck])::(pu,.list [.int g',.int m'])::R)):c6 w 4 1703 [.ref pu] ((pu,.list [.int g,.int m])::R) (fun _ _=>False) Q:=by
 refine oB (d:=d1703) (locs:=["text", "is_checked", "made"]) (ρ₀:=[("text",none),("is_checked",none),("made",none)]) (cH:=fun L=>[(L+2,.cell none),(L+1,.cell (some (.ref pu)))]) ⟨by kernel_rfl,by kernel_rfl⟩ (FI.ok_of (by kernel_rfl))
  (fun s cvs K hl=>by have:=vG (w:=w) s cvs K hl;rwa [List.append_nil] at this) (fun n=>?_) (fun n x hx=>?_) (fun cvs h=>?_) (fun cvs L h=>?_) (fun fx c hh hcl=>?_)
 ·show(["texts", "purse"]:List Str).Nodup
  decide
 ·rcases List.mem_cons.mp hx with rfl |hx
  ·exact .inr ⟨rfl,rfl⟩
  cases hx
 ·exact⟨rfl,fun x v hm=>by
   rcases List.mem_cons.mp hm with e |hm
   ·cases e
   rcases List.mem_cons.mp hm with e |hm
   ·cases e
   rcases List.mem_cons.mp hm with e |hm
   ·cases e
   cases hm⟩
 ·cases h with
  | cons r1 h=>cases h;exact .bare rfl (.full rfl r1 .nil)
 rcases fx with ⟨A,base,outer,stk,h₀,L,frame,cells,os⟩
 dsimp only at hcl hh ⊢
 subst hcl
 dsimp only[List.cons_append,List.nil_append]
 refine b8 ?_
 refine P2 c.ok (by kernel_rfl) ?_ (by rfl)
 refine P1 (cl:=[("purse",L+1)]) c hh rfl (by kernel_rfl) (by kernel_rfl) rfl (by kernel_rfl) ?_ (by intro _;rfl)
 refine z9 c (f7 (by law_side)) (by kernel_rfl) rfl ?_ (by rfl) (by rfl)
 refine a8 ?_
 refine c4 ?_
 refine u1 ?_
 refine p0 c (f7 (by law_side)) (by kernel_rfl) rfl (by kernel_rfl) ?_ (by rfl) (by rfl)
 refine a8 ?_
 refine t9 c.ok (by kernel_rfl) (c:=L+1) (by rfl) (by law_side) rfl ?_
 refine a8 ?_
 refine u1 ?_
 refine g7 ?_
 refine f5 c hh (by kernel_rfl) (DelN.perm (ps:=[_,_]) (.cons (.there (.there .here)) (.cons (.there .here) .nil))) (D9 (R:=(L+1,.cell (some (.ref pu)))::(L+2,.cell none)::R) hg hm (by exact Jw hm2) (by decide) (by decide) (fun g1 v hg1 hv1=>?_))
 refine y3 ?_
 refine g7 ?_
 refine J1 (fun rr t u v'=>?_)
 refine⟨rr,1+v,t,u,v',FrJ L pu m R,_,rfl,by rw[show(1:Int)+(v:Int)=((1+v:Nat):Int) by rfl],by exact Nz hv1,⟨[],g1,m+1,rfl,rfl,(fun b hb=>by cases hb),hg1,by exact Int.le_refl _,by exact Nr,rfl⟩,?_,?_⟩
 ·intro hz90 i xs G I b acc cx hA hcl hi hz91;obtain⟨A',base',outer',stk',h₀',L',frame',cells',os'⟩:=hz90;obtain⟨bs,g',m',rfl,hbl,hb5,hg',hm1,hm2',rfl⟩:=hz91
  dsimp only at hA hcl ⊢
  subst hA hcl
  refine M4 ?_
  refine z9 cx (f7 (by law_side)) (by kernel_rfl) rfl ?_ (by rfl) (by rfl)
  refine a8 ?_
  refine gB (cl:=[("purse",L+1)]) (C:=L+1) (pu:=pu) cx (by decide) hh rfl (by kernel_rfl) (by kernel_rfl) rfl (by kernel_rfl) (by kernel_rfl) (by kernel_rfl) rfl ?_ (by intro _;rfl)
  refine z9 cx (f7 (by law_side)) (by kernel_rfl) rfl ?_ (by rfl) (by rfl)
  refine a8 ?_
  refine p0 cx (f7 (by law_side)) (by kernel_rfl) rfl (by kernel_rfl) ?_ (by rfl) (by rfl)
  refine a8 ?_
  refine t9 cx.ok (by kernel_rfl) (c:=L+1) (by rfl) (by law_side) rfl ?_
  refine a8 ?_
  refine u1 ?_
  refine g7 ?_
  refine f5 cx hh (by kernel_rfl) (DelN.perm (ps:=[_,_]) (.cons (.there (.there .here)) (.cons (.there (.there .here)) .nil))) (D9 (R:=(L+1,.cell (some (.ref pu)))::(I,.raw b)::(acc,.list (bs.map AV.bytes))::(L+2,.cell none)::R) hg' (by exact Jg hm hm1) (by exact Pf hv1 hi hm2 hm2') (by decide) (by decide) (fun g2 v2 hg2 hw1=>?_))
  refine g7 ?_
  refine J1 (fun rr t u v'=>?_)
  refine⟨rr,v2,t,u,v',g2,m' + 1,_,rfl,rfl,by exact ND hw1,hg2,by exact Jf hm hm1,by exact Pe hv1 hi hm2 hm2',fun acc2 cs g3 hcl hc8 hg3=>?_⟩
  refine g7 ?_
  refine m8 (ns:=cs.map fun b=>((b:Nat):Int)) hh (by rw[List.map_map];exact .here) (fun n hn=>?_) (by rw[List.length_map];exact LS hw1 hcl) ?_
  ·refine f9 (List.mem_map.mp hn) fun b hb zq1=>?_;subst zq1
   have:=hc8 b hb
   exact HB this
  refine⟨_,.cons _ (.refl _),(pu,.list [.int g3,.int (m' + 1+v2)])::(L+1,.cell (some (.ref pu)))::(L+2,.cell none)::R,.cons (.there (.there .here)) (.cons (.there (.there .here)) .nil),bs++[(cs.map fun b=>((b:Nat):Int)).map fun n=>n.toNat.toUInt8],g3,m' + 1+v2,?_,?_,?_,hg3,by exact Px hm1,by exact Pj hw1 hm2',rfl⟩
  ·rw[List.map_append];rfl
  ·rw[List.length_append,hbl];rfl
  ·intro t ht
   rcases List.mem_append.mp ht with ht |ht
   ·exact hb5 t ht
   ·rw[List.mem_singleton.mp ht,List.length_map,List.length_map];exact LT hw1 hcl
 ·intro xs G acc hxl hz90;obtain⟨bs,g',m',rfl,hbl,hb5,hg',hm1,hm2',rfl⟩:=hz90
  clear hxl
  have hfl:bs.flatten.length≤15:=by
   have h5:∀l:List (List UInt8),(∀t∈l,t.length≤5)→l.flatten.length≤5*l.length:=by
    intro l
    induction l with
    | nil=>intro _;simp
    | cons t l ih=>
     intro hl
     rw[List.flatten_cons,List.length_append,List.length_cons]
     have h1:=hl t (.head _)
     have h2:=ih fun t ht=>hl t (.tail _ ht)
     exact Li h2 h1
   have:=h5 bs hb5
   exact KT hv1 hbl this
  have hm3:m'≤m+19:=by exact Py hv1 hm2'
  refine⟨L+2,none,_,rfl,by law_side,by da_tab,?_⟩
  refine b8 ?_
  refine n5 hh ?_
  refine' j3 ?_
  refine' a8 ?_
  refine' b9 ?_
  refine' zp ?_
  refine xZ c ?_ (by rfl)
  refine a8 ?_
  refine t9 c.ok (by kernel_rfl) (c:=L+2) (by rfl) (by law_side) rfl ?_
  refine g7 ?_
  refine⟨acc,bs,rfl,.here,by exact Jq hbl,by exact Oq hfl,?_⟩
  refine a8 ?_
  refine V6 rfl ?_
  refine p0 c (f7 (by law_side)) (by kernel_rfl) rfl (by kernel_rfl) ?_ (by rfl) (by rfl)
  refine a8 ?_
  refine t9 c.ok (by kernel_rfl) (c:=L+1) (by rfl) (by law_side) rfl ?_
  refine a8 ?_
  refine u1 ?_
  refine g7 ?_
  refine f5 c hh (by kernel_rfl) (DelN.perm (ps:=[_]) (.cons (.there .here) .nil)) (v6 (R:=(acc,.list (bs.map AV.bytes))::(L+1,.cell (some (.ref pu)))::(L+2,.cell (some (.ref acc)))::R) hg' (by exact Jg hm hm1) (by exact Lq hm2 hm3) (by decide) (by decide) (fun g2 v2 hg2 hw0 hw1=>?_))
  refine u1 ?_
  refine T9 ?_
  refine g7 ?_
  (refine'⟨?_,fun _=>?_⟩;focus (exact nb rfl))
  refine'⟨_,_,rfl,by law_side,by with_unfolding_all exact rfl,?_⟩
  repeat (refine H3 c.ok (by da_tab) ?_)
  refine O8 ?_
  generalize (v2 == 0)=ck
  refine b8 ?_
  refine' m6 (Cx.ok (by assumption)) ?_ rfl
  refine' zv ?_
  refine' a8 ?_
  refine' zp ?_
  refine' a8 ?_
  refine' zp ?_
  refine' a8 ?_
  refine' i9 ?_
  refine' w9 ?_
  refine' za ?_
  (refine'⟨?_,fun _=>?_⟩;focus (exact nb rfl))
  refine' zv ?_
  refine' a8 ?_
  refine t9 c.ok (by kernel_rfl) (c:=L+1) (by rfl) (by law_side) rfl ?_
  refine' za ?_
  refine f5 c hh (by kernel_rfl) (iX (by da_tab)) (v6 (k:=m' + 1) hg2 (by exact Jf hm hm1) (by exact Lp hm2 hm3) (by decide) (by decide) (fun g3 v3 hg3 hu0 hu1=>?_))
  refine rX (oV ck) fun zq1 i1 i2 i3 i4 i5=>?_;refine bO (zq1) fun h1 h2 h3 h4 h5=>?_
  obtain rfl |rfl:v3=0∨v3=1:=by exact MV hu0 hu1
  ·refine C6 (xs:=[.none,.int 0]) (v:=.none) (by law_side) (by decide) (by decide) rfl ?_
   refine g7 ?_
   refine a9 c hh (by kernel_rfl) (o9 (size:=bs.flatten.length) (ck:=ck) (by exact Op hfl) ?_)
   refine'⟨_,by da_tab,?_⟩
   refine' d9 ?_
   refine' d3 ?_
   refine' d6 rfl ?_
   refine' c4 ?_
   refine' i9 ?_
   refine' zp ?_
   refine' zp ?_
   refine S1 (nb rfl) (by decide) (by simp) ?_
   refine' zp ?_
   refine' j9 ?_
   refine' zp ?_
   refine' qA ?_
   refine M8 h2 ?_
   refine b8 ?_
   refine P2 c.ok (by kernel_rfl) ?_ (by rfl)
   refine' w9 ?_
   refine' za ?_
   (refine'⟨?_,fun _=>?_⟩;focus (exact nb rfl))
   refine⟨L+2,some (.ref acc),_,rfl,by law_side,by da_tab,?_⟩
   refine f8 ?_
   rename_i lt
   refine u0 (DZ (a:=(lt,.list [.bytes bs.flatten])) (b:=(L+2,.cell (some (.ref lt)))) (c:=(pu,.list [.int g3,.int (m' + 1+1)])) (by da_tab)) ?_
   refine gC (hd:=H8 bs.flatten.length ck) (texts:=[bs.flatten]) c hh (nb rfl) (nb rfl) (fun t ht=>by rw[List.mem_singleton.mp ht];exact Os hfl) hfl rfl (fun tp R' hsub=>?_)
   have e:(((List.range [bs.flatten].length).map fun j=>i7 ([bs.flatten].getD j []) (j+1 == [bs.flatten].length)).flatten)=i7 bs.flatten true:=by
    show i7 bs.flatten true++[]= _
    rw[List.append_nil]
   rw[e] at hsub
   refine⟨_,List.Sublist.trans ?_ hsub,hq tp (H8 bs.flatten.length ck++i7 bs.flatten true++oW ck bs.flatten) bs.flatten ck g3 (m' + 1+1) hg3 (by exact Jh hm1) (by exact Ji hm3) nofun ?_ hfl (fun r d n=>oX (by exact HF hfl))⟩
   ·law_side
   ·have hb:=S7 bs.flatten true
    have hs:(oW ck bs.flatten).length≤4:=by
     unfold oW
     split
     ·rw[f0];decide
     ·decide
    have hh:(H8 bs.flatten.length ck).length=6:=rfl
    rw[List.length_append,List.length_append]
    exact Ky hh hb hfl hs
  ·refine C6 (xs:=[.none,.int 0]) (v:=.int 0) (by law_side) (by decide) (by decide) rfl ?_
   refine g7 ?_
   refine a9 c hh (by kernel_rfl) (D4 (size:=bs.flatten.length) (ck:=ck) ?_)
   refine'⟨_,by da_tab,?_⟩
   refine' d9 ?_
   refine' d3 ?_
   refine' d6 rfl ?_
   refine' c4 ?_
   refine' i9 ?_
   refine' zp ?_
   refine' zp ?_
   refine S1 (nb rfl) (by decide) (by simp) ?_
   refine' zp ?_
   refine' j9 ?_
   refine' zp ?_
   refine' qA ?_
   refine x3 i2 ?_
   refine f8 ?_
   refine u0 (DZ (a:=(acc,.list (bs.map AV.bytes))) (b:=(L+2,.cell (some (.ref acc)))) (c:=(pu,.list [.int g3,.int (m' + 1+1)])) (by da_tab)) ?_
   refine gC (hd:=P8 ck) (texts:=bs) c hh (by exact Jq hbl) (by exact Jo hv1 hbl) (fun t ht=>by have:=hb5 t ht;exact JP this) hfl rfl (fun tp R' hsub=>?_)
   have e:((List.range bs.length).map fun j=>i7 (bs.getD j []) (j+1 == bs.length)).flatten=J6 bs 0 bs.length:=by
    unfold J6
    rw[List.range_eq_range']
   rw[e] at hsub
   refine⟨_,List.Sublist.trans ?_ hsub,hq tp (P8 ck++J6 bs 0 bs.length++oW ck bs.flatten) bs.flatten ck g3 (m' + 1+1) hg3 (by exact Jh hm1) (by exact Ji hm3) nofun ?_ hfl (fun r d n=>oY (by intro e;rw[e] at hbl;simp at hbl;exact Jy hbl) (fun t ht=>by have:=hb5 t ht;exact OD this) (by exact Jo hv1 hbl) (by exact HF hfl))⟩
   ·law_side
   ·have hb:=bN (texts:=bs) (fun t ht=>by have:=hb5 t ht;exact JP this) (List.range bs.length)
    rw[e,List.length_range] at hb
    have hs:(oW ck bs.flatten).length≤4:=by
     unfold oW
     split
     ·rw[f0];decide
     ·decide
    have hh:(P8 ck).length=6:=rfl
    rw[List.length_append,List.length_append]
    exact Kf hv1 hbl hh hb hs
theorem hZ{w:World}{r d p t:Addr}{n:Int}{hd cl:AV}{rest told:List UInt8}{R:AH}(hl:rest.length≤1000) :
  c6 w 8 1629 [.ref r] ((p,.ba (40::181::47::253::33::5::1::rest))::(t,.ba told)::(r,.inst 1646 d)::(d,t7 p t n .none hd cl)::R)
  (XO fun e C dd t' R'=>∃p,XS 217 ((r,.inst 1646 d)::(d,t7 p t n .none hd cl)::R) e C dd t' R') (fun _ _=>False):=by
 refine f6 (X:=fun fx=>XB fx.L _) (d:=d1629) (dv:=[]) (C5 _) [] .nil rfl (y9 _) (w4) (fun fx c hh hst hfr=>⟨?_,j2 c hst hfr⟩)
 refine v9 fun Q hQ=>?_
 refine(?_:Ex _ _ _ _ (_::_) _ _ _)
 refine' zf ?_
 refine' zS ?_
 refine' zv ?_
 refine' a8 ?_
 refine' zt ?_
 refine' a8 ?_
 refine' m5 ?_
 refine' zp ?_
 refine' r3 ?_
 refine' r4 ?_
 refine' zp ?_
 refine'⟨_,rfl,?_⟩
 refine' H1 (by law_side) (by(simp only[X0,X6,X7,X8,X9];exact JI hl)) (fun _=>?_) (by intro _ _;kernel_rfl)
 refine' za ?_
 rw[show G5 (40::181::47::253::33::5::1::rest) none (some 5)=[40,181,47,253,33] from by rw[D3 _ _ (by decide)];rfl]
 refine' i0 (by law_side) (by(simp only[X0,X6,X7,X8,X9];exact Nat.le_add_left _ _)) ?_
 refine' za ?_
 refine g6 c hh (gI:=361) (by kernel_rfl) (by kernel_rfl) (fun x dx=>i6 (b:=[40,181,47,253,33]) (nb rfl) (.mk ?_))
 refine'⟨_,by da_tab,?_⟩
 refine' zS ?_
 refine' zc ?_
 refine a9 c hh (by kernel_rfl) (r7 (b:=[40,181,47,253,33]) (nb rfl) (nb rfl) (fun _=>u2 [33]) ?_)
 rw[show((le ([40,181,47,253,33].take 4):Nat):Int)=4247762216 from u2 [33]]
 refine'⟨_,by da_tab,?_⟩
 refine' d3 ?_
 refine' q8 rfl ?_
 refine' zc ?_
 refine a9 c hh (by kernel_rfl) (u5 ?_)
 refine' zF ?_
 refine' c7 ?_
 refine' zE ?_
 refine' zc ?_
 refine a9 c hh (by kernel_rfl) (n6 ?_)
 refine'⟨rfl,?_⟩
 refine' b8 ?_
 refine g9 hh ?_
 refine' zv ?_
 refine' a8 ?_
 refine' i9 ?_
 refine' zp ?_
 refine' zp ?_
 refine W1 (by law_side) (by simp only[List.length_cons];exact JI hl) (by decide) (by simp only[List.length_cons];exact OW) ?_
 rw[show(40::181::47::253::33::5::1::rest:List UInt8).getD (4:Int).toNat 0=33 from rfl]
 refine' za ?_
 refine a9 c hh (by kernel_rfl) (o0 (sg:=true) (ic:=1) (i:=1) (t:=2552) (by decide) (by decide) (by decide) (by decide) (by decide) (by decide) rfl (fun tf=>?_))
 refine'⟨_,_,rfl,by law_side,by with_unfolding_all exact rfl,?_⟩
 refine' d8 ?_
 refine' zk ?_
 refine' d8 ?_
 refine' zk ?_
 refine' d8 ?_
 refine' zk ?_
 refine' C1 ?_
 refine' d9 ?_
 refine' zs ?_
 refine' zf ?_
 refine' zS ?_
 refine' zv ?_
 refine' a8 ?_
 refine' zv ?_
 refine' a8 ?_
 refine' b9 ?_
 refine' zp ?_
 refine' zm ?_
 rw[show(5:Int)+(if (!true)=true then 1 else 0)+1+(if true=true then 1 else 0)=((7:Nat):Int) from rfl]
 skip
 refine f5 c hh (by kernel_rfl) (z0 (by da_tab)) (n7 (r:=r) (d:=d) (p:=p) (t:=t) (n:=n) (st:=.none) (hd:=hd) (cl:=cl) (told:=told) (b:=40::181::47::253::33::5::1::rest) (k:=7) (by simp only[List.length_cons];exact Of hl) (fun p'=>?_))
 rw[show(40::181::47::253::33::5::1::rest).take 7=[40,181,47,253,33,5,1] from rfl,show(40::181::47::253::33::5::1::rest).drop 7=rest from rfl]
 refine' za ?_
 refine g6 c hh (gI:=361) (by kernel_rfl) (by kernel_rfl) (fun x2 dx2=>i6 (b:=[40,181,47,253,33,5,1]) (nb rfl) (.mk ?_))
 refine' za ?_
 refine a9 c hh (by kernel_rfl) (bK (fun hx dhx=>?_))
 refine'⟨_,by da_tab,?_⟩
 refine' zC ?_
 refine' zc ?_
 refine Di c hh (gI:=1501) (by kernel_rfl) (fun s ds=>gZ (R:=_) .here (.there .here)) (by decide) (.refl _) (eY (fun e C d t R (h:XS 217 _ e C d t R)=>⟨p',h.weak ?_⟩)) (fun s ds r H' hq=>hq.elim)
 law_side
theorem rQ:((le (([40,181,47,254,0]:List UInt8).take 4):Nat):Int)=4264539432:=by
 have h:le [40,181,47,254]=4264539432:=by decide
 refine(?_:((le [40,181,47,254]:Nat):Int)= _)
 rw[h];rfl
theorem oZ{w:World}{a d:Addr}{R:AH}{Q:AV→AH→Prop}(hq:Q (.int 4264539432) ((a,.inst 420 d)::(d,.dict [("data",.bytes ([40,181,47,254,0]:List UInt8)),("stop",.int (([40,181,47,254,0]:List UInt8).length)),("place",.int (0:Nat))])::R)):c6 w 4 1571 [.ref a,.int 0] ((a,.inst 420 d)::(d,.dict [("data",.bytes ([40,181,47,254,0]:List UInt8)),("stop",.int (([40,181,47,254,0]:List UInt8).length)),("place",.int (0:Nat))])::R) (fun _ _=>False) Q:=by
 exact r7 (b:=[40,181,47,254,0]) (by decide) (by decide) (fun h=>absurd h (by decide)) (by rw[rQ];exact hq)
theorem pA{w:World}{r d p t:Addr}{n:Int}{hd cl:AV}{rest told:List UInt8}{R:AH}(hl:rest.length≤1000)  :
  c6 w 6 1629 [.ref r] ((p,.ba (40::181::47::253::8::rest))::(t,.ba told)::(r,.inst 1646 d)::(d,t7 p t n .none hd cl)::R)
  (XO (XS 100 ((r,.inst 1646 d)::(d,t7 p t n .none hd cl)::R))) (fun _ _=>False):=by
 refine f6 (X:=fun fx=>XB fx.L _) (d:=d1629) (dv:=[]) (C5 _) [] .nil rfl (y9 _) (w4) (fun fx c hh hst hfr=>⟨?_,j2 c hst hfr⟩)
 refine v9 fun Q hQ=>?_
 refine(?_:Ex _ _ _ _ (_::_) _ _ _)
 refine' zf ?_
 refine' zS ?_
 refine' zv ?_
 refine' a8 ?_
 refine' zt ?_
 refine' a8 ?_
 refine' m5 ?_
 refine' zp ?_
 refine' r3 ?_
 refine' r4 ?_
 refine' zp ?_
 refine'⟨_,rfl,?_⟩
 refine' H1 (by law_side) (by(simp only[X0,X6,X7,X8,X9];exact IR hl)) (fun _=>?_) (by intro _ _;kernel_rfl)
 refine' za ?_
 rw[show G5 (40::181::47::253::8::rest) none (some 5)=[40,181,47,253,8] from by rw[D3 _ _ (by decide)];rfl]
 refine' i0 (by law_side) (by(simp only[X0,X6,X7,X8,X9];exact Nat.le_add_left _ _)) ?_
 refine' za ?_
 refine g6 c hh (gI:=361) (by kernel_rfl) (by kernel_rfl) (fun x dx=>i6 (b:=[40,181,47,253,8]) (nb rfl) (.mk ?_))
 refine'⟨_,by da_tab,?_⟩
 refine' zS ?_
 refine' zc ?_
 refine a9 c hh (by kernel_rfl) (r7 (b:=[40,181,47,253,8]) (nb rfl) (nb rfl) (fun _=>u2 [8]) ?_)
 rw[show((le ([40,181,47,253,8].take 4):Nat):Int)=4247762216 from u2 [8]]
 refine'⟨_,by da_tab,?_⟩
 refine' d3 ?_
 refine' q8 rfl ?_
 refine' zc ?_
 refine a9 c hh (by kernel_rfl) (u5 ?_)
 refine' zF ?_
 refine' c7 ?_
 refine' zE ?_
 refine' zc ?_
 refine a9 c hh (by kernel_rfl) (n6 ?_)
 refine'⟨rfl,?_⟩
 refine' b8 ?_
 refine g9 hh ?_
 refine' zv ?_
 refine' a8 ?_
 refine' i9 ?_
 refine' zp ?_
 refine' zp ?_
 refine W1 (by law_side) (by simp only[List.length_cons];exact IR hl) (by decide) (by simp only[List.length_cons];exact JU) ?_
 rw[show(40::181::47::253::8::rest:List UInt8).getD (4:Int).toNat 0=8 from rfl]
 refine' za ?_
 refine s0 c hh (bJ (R:=(r,.inst 1646 d)::(d,t7 p t n .none hd cl)::R) ?_) (by decide) (.refl _) (fun _ _ _ _ _ h=>h) (fun r H' hq=>hq.elim)
 law_side
theorem gD{w:World}{r d p t:Addr}{hd cl:AV}{rest told:List UInt8}{R:AH}(hl:rest.length≤1000)  :
  c6 w 6 1629 [.ref r] ((p,.ba (40::181::47::254::0::rest))::(t,.ba told)::(r,.inst 1646 d)::(d,t7 p t 0 .none hd cl)::R)
  (XO (XS 100 ((r,.inst 1646 d)::(d,t7 p t 0 .none hd cl)::R))) (fun _ _=>False):=by
 refine f6 (X:=fun fx=>XB fx.L _) (d:=d1629) (dv:=[]) (C5 _) [] .nil rfl (y9 _) (w4) (fun fx c hh hst hfr=>⟨?_,j2 c hst hfr⟩)
 refine v9 fun Q hQ=>?_
 refine(?_:Ex _ _ _ _ (_::_) _ _ _)
 refine' zf ?_
 refine' zS ?_
 refine' zv ?_
 refine' a8 ?_
 refine' zt ?_
 refine' a8 ?_
 refine' m5 ?_
 refine' zp ?_
 refine' r3 ?_
 refine' r4 ?_
 refine' zp ?_
 refine'⟨_,rfl,?_⟩
 refine' H1 (by law_side) (by(simp only[X0,X6,X7,X8,X9];exact IR hl)) (fun _=>?_) (by intro _ _;kernel_rfl)
 refine' za ?_
 rw[show G5 (40::181::47::254::0::rest) none (some 5)=[40,181,47,254,0] from by rw[D3 _ _ (by decide)];rfl]
 refine' i0 (by law_side) (by(simp only[X0,X6,X7,X8,X9];exact Nat.le_add_left _ _)) ?_
 refine' za ?_
 refine g6 c hh (gI:=361) (by kernel_rfl) (by kernel_rfl) (fun x dx=>i6 (b:=[40,181,47,254,0]) (nb rfl) (.mk ?_))
 refine'⟨_,by da_tab,?_⟩
 refine' zS ?_
 refine' zc ?_
 refine a9 c hh (by kernel_rfl) (oZ ?_)
 refine'⟨_,by da_tab,?_⟩
 refine' d3 ?_
 refine' q8 rfl ?_
 refine' zc ?_
 refine a9 c hh (by kernel_rfl) (u5 ?_)
 refine' zF ?_
 refine' c7 ?_
 refine' zE ?_
 refine' zc ?_
 refine s0 c hh (cU (R:=(r,.inst 1646 d)::(d,t7 p t 0 .none hd cl)::R) ?_) (by decide) (.refl _) (fun _ _ _ _ _ h=>h) (fun r H' hq=>hq.elim)
 law_side
theorem aI{w:World}{r d p t:Addr}{n:Int}{hd cl:AV}{rest told:List UInt8}{R:AH}(hl:rest.length≤1000) (hn:n > 0) :
  c6 w 6 1629 [.ref r] ((p,.ba (40::181::47::254::0::rest))::(t,.ba told)::(r,.inst 1646 d)::(d,t7 p t n .none hd cl)::R)
  (XO (XS 136 ((r,.inst 1646 d)::(d,t7 p t n .none hd cl)::R))) (fun _ _=>False):=by
 refine f6 (X:=fun fx=>XB fx.L _) (d:=d1629) (dv:=[]) (C5 _) [] .nil rfl (y9 _) (w4) (fun fx c hh hst hfr=>⟨?_,j2 c hst hfr⟩)
 refine v9 fun Q hQ=>?_
 refine(?_:Ex _ _ _ _ (_::_) _ _ _)
 refine' zf ?_
 refine' zS ?_
 refine' zv ?_
 refine' a8 ?_
 refine' zt ?_
 refine' a8 ?_
 refine' m5 ?_
 refine' zp ?_
 refine' r3 ?_
 refine' r4 ?_
 refine' zp ?_
 refine'⟨_,rfl,?_⟩
 refine' H1 (by law_side) (by(simp only[X0,X6,X7,X8,X9];exact IR hl)) (fun _=>?_) (by intro _ _;kernel_rfl)
 refine' za ?_
 rw[show G5 (40::181::47::254::0::rest) none (some 5)=[40,181,47,254,0] from by rw[D3 _ _ (by decide)];rfl]
 refine' i0 (by law_side) (by(simp only[X0,X6,X7,X8,X9];exact Nat.le_add_left _ _)) ?_
 refine' za ?_
 refine g6 c hh (gI:=361) (by kernel_rfl) (by kernel_rfl) (fun x dx=>i6 (b:=[40,181,47,254,0]) (nb rfl) (.mk ?_))
 refine'⟨_,by da_tab,?_⟩
 refine' zS ?_
 refine' zc ?_
 refine s0 c hh (fW (b:=[40,181,47,254,0]) (R':=(r,.inst 1646 d)::(d,t7 p t n .none hd cl)::R) (nb rfl) (nb rfl) hn rQ ?_) (by decide) (.refl _) (fun _ _ _ _ _ h=>h) (fun r H' hq=>hq.elim)
 law_side
theorem pB{w:World}{r d p t s ds hx dx o tb of h dh:Addr}{n most win size:Int}{sz:Nat}{ck sg:Bool}{told out b rest:List UInt8}{R:AH}(hl:rest.length≤1000) (hl1:out.length≤500) (hl2:told.length≤1000) (hb:b.length=b.length) (hsb:(b.length:Int)=size) (hb3:b.length≤500) (hsz:out.length+b.length<sz) (hsz2:sz≤1000) (hm:size≤most):c6 w 6 1636 [.ref r] ((p,.ba (b++rest))::(t,.ba told)::(r,.inst 1646 d)::(d,t7 p t n (.ref s) (.ref h) (.bool false))::(h,.inst 1467 dh)::(dh,cG true 0 size)::(o,.ba out)::(s,.inst 1560 ds)::(ds,G1 hx most o tb of)::(hx,.inst 1418 dx)::(dx,M9 win (.int sz) ck sg)::R) (XO (XF r d 198 R)) (fun _ _=>False):=by
 subst hsb
 refine f6 (X:=fun fx=>XB fx.L _) (d:=d1636) (dv:=[]) (x8 _) [] .nil rfl (u7 _) (t6) (fun fx c hh hst hfr=>⟨?_,j2 c hst hfr⟩)
 refine v9 fun Q hQ=>?_
 refine(?_:Ex _ _ _ _ (_::_) _ _ _)
 refine' zS ?_
 refine' b9 ?_
 refine' zp ?_
 refine' zm ?_
 refine a9 c hh (by kernel_rfl) (w7 (s:=s) (h:=h) (by law_side) (by law_side) (by law_side) (by law_side) (by decide) hm ?_)
 rw[if_neg (by decide:¬ (0:Int)=1)]
 refine'⟨_,by da_tab,?_⟩
 refine' zf ?_
 refine' zs ?_
 refine' zE ?_
 refine' b9 ?_
 refine' zp ?_
 refine' j7 (H':=[]) (d:=[]) (by assumption) ?_ (by law_side) (by kernel_rfl)
 refine' a8 ?_
 refine' b9 ?_
 refine' zp ?_
 refine' zM ?_
 refine' a8 ?_
 refine' zp ?_
 refine' a8 ?_
 refine' b9 ?_
 refine' zp ?_
 refine' zm ?_
 refine f5 c hh (by kernel_rfl) (z0 (by da_tab)) (n7 (r:=r) (d:=d) (p:=p) (t:=t) (n:=n) (st:=.ref s) (hd:=.ref h) (cl:=(.bool false)) (told:=told) (b:=b++rest) (k:=b.length) (by simp only[List.length_append];exact Bm hl hb3) (fun p'=>?_))
 rw[List.take_left' hb,List.drop_left' hb]
 refine' za ?_
 refine f5 c hh (by kernel_rfl) (Z8 (by da_tab)) (I4 (sz:=sz) (s:=s) (o:=o) (ds:=ds) (hx:=hx) (dx:=dx) (h:=h) (dh:=dh) (most:=most) (win:=win) (ck:=ck) (sg:=sg) (tb:=tb) (of:=of) (last:=true) (out:=out) (content:=b) (size:=(b.length:Int)) (by exact KM hsz hsz2) (by exact pO hb3) (by exact KP hsz) ?_)
 refine' za ?_
 refine'⟨_,_,_,rfl,by law_side,by da_tab,by exact En hl2 hb3,?_⟩
 refine'⟨rfl,?_⟩
 refine' zo ?_
 refine' zT ?_
 refine' zE ?_
 refine' b9 ?_
 refine' zp ?_
 refine' zN ?_
 refine y4 c hh (oM (s:=s) (o:=o) (out:=out++b) (sz:=sz) (R:=(r,.inst 1646 d)::(d,t7 p' t n (.ref s) .none (.bool false))::R) (by simp only[List.length_append];exact KL hsz hsz2) hsz2 (by law_side) (by law_side) (by law_side) (by law_side) (by law_side) (by rw[List.length_append];exact KO hsz) ?_) (by decide) (.refl _) (eY (fun e C dd t' R' h=>⟨p',t,n,_,_,_,h⟩)) (fun r H' hq=>hq.elim)
 law_side
section
variable{w:World}{r d:Addr}
inductive N0 (w:World) (r d:Addr) (n:Int) (begun text wrong:List UInt8) (C:Addr):Prop
 | mk (k:Nat) (K₂:Kt) (B F fut rest:List UInt8) (p:Path w r d k (K0 n) B text K₂) (e:Ends w r d K₂ F) (f:Hg w r d K₂ F C) (h1:begun++fut=B++F) (h2:fut≠[]) (h3:fut.length≤F.length) (h4:wrong=fut++rest) (h5:k=0∨begun≠[])
   (l1:begun.length≤100) (l2:text.length≤100) (l3:wrong.length≤100)
theorem pC{p t:Addr}{n:Int}{hd cl:AV}{H:AH}{k:Nat}{XR:Addr→Addr→Option Addr→Addr→AH→Prop}{Q:AV→AH→Prop}(h1:In1 r (.inst 1646 d) H) (h2:In1 d (t7 p t n .none hd cl) H) (hk:k+1≤10) (hs:c6 w k 1629 [.ref r] H (XO XR) Q):c6 w 10 1615 [.ref r] H (XO XR) Q:=M3 (V0 h1 h2 hs) hk
theorem S8{XR XR':Addr→Addr→Option Addr→Addr→AH→Prop}(h:∀e C d t R,XR e C d t R→XR' e C d t R):∀v H',XO XR v H'→XO XR' v H':=fun v H' ⟨e,C,d,t,T,R,h1,h2,h3⟩=>⟨e,C,d,t,T,R,h1,h2,h _ _ _ _ _ h3⟩
theorem Gg{a b c x y:UInt8}(h:x≠y):le [a,b,c,x]≠le [a,b,c,y]:=by
 simp only[le]
 have h2:x.toNat≠y.toNat:=fun e=>h (UInt8.toNat_inj.mp e)
 exact Kl h2
theorem Bc{n:Int}{t:List UInt8}{a b c x y:UInt8}(h0:t≠[]) (ht:t.length<32) (hs:D0 (dO t%4294967296) 4=[a,b,c,x]) (hx:y≠x):N0 w r d n (H8 t.length true++i7 t true) t [a,b,c,y] 179:=by
 have h1:=P9 (w:=w) (r:=r) (d:=d) (n:=n) (m:=t.length) (ck:=true) (by exact JD ht)
 have h2:=aG (w:=w) (r:=r) (d:=d) (F:=⟨n,t.length,t.length,.int t.length,true,true⟩) (out:=[]) (t:=t) (last:=true) (by exact Bn ht) (by simp) (Int.le_refl _) (.inr ⟨t.length,rfl,by simp⟩)
 obtain⟨k,hp⟩:=h1.app h2
 have hl:(i7 t true).length≤3+t.length:=by
  unfold i7
  rw[List.length_append,f0]
  split
  ·rw[List.length_take];exact HH
  ·exact Nat.le_refl _
 refine⟨k,_,_,[a,b,c,y],[a,b,c,y],[],hp,dP (fY rfl rfl) nofun,?_,rfl,nofun,Nat.le_refl _,rfl,.inr nofun,?_,?_,nb rfl⟩
 ·intro R0 rest told H hl1 hl2 hS
  have hv:le [a,b,c,y]≠dO t%4294967296:=by
   rw[← yL (v:=dO t%4294967296) (Nat.mod_lt _ (by decide)),hs]
   exact Gg hx
  exact Rm hS fun p t' s ds hx' dx o tb of=>(M3 (V1 (.there (.there .here)) (.there (.there (.there .here))) (v7 (oO (b:=[a,b,c,y]) (rest:=rest) rfl hl1 (by simpa using ht) hv) (fun _ _ h=>h) (S8 fun e C d' t2 R' ⟨p,h⟩=>⟨p,_,_,_,_,_,h⟩))) (by decide))
 ·rw[List.length_append]
  have hh:(H8 t.length true).length=6:=rfl
  exact Je ht hh hl
 ·exact Bn ht
theorem gE{n:Int}{t b:List UInt8}{C:Addr}(h0:t≠[]) (ht:t.length<32) (hb:b.length=3)
  (hf:∀(p t' s ds hx o tb of:Addr) (told rest:List UInt8) (R:AH),rest.length≤1000→In1 s (.inst 1560 ds) R→In1 ds (G1 hx 1024 o tb of) R→c6 w 6 1615 [.ref r] ((p,.ba (b++rest))::(t',.ba told)::(r,.inst 1646 d)::(d,t7 p t' n (.ref s) .none (.bool false))::R) (XO fun e C' dd t2 R'=>∃p h,XS C ((r,.inst 1646 d)::(d,t7 p t' n (.ref s) (.ref h) (.bool false))::R) e C' dd t2 R') (fun _ _=>False)) :
  N0 w r d n (P8 false++i7 t false) t b C:=by
 have h1:=cK (w:=w) (r:=r) (d:=d) (n:=n) (ck:=false)
 have h2:=aG (w:=w) (r:=r) (d:=d) (F:=⟨n,1024,1024,.none,false,false⟩) (out:=[]) (t:=t) (last:=false) (by exact Bn ht) (by simp) (by show(t.length:Int)≤1024;exact NO ht) (.inl rfl)
 obtain⟨k,hp⟩:=h1.app h2
 have hl:(i7 t false).length≤3+t.length:=by
  unfold i7
  rw[List.length_append,f0]
  split
  ·rw[List.length_take];exact HH
  ·exact Nat.le_refl _
 refine⟨k,_,_,b,b,[],hp,dP (S6 hb) (by intro e;rw[e] at hb;cases hb),?_,rfl,(by intro e;rw[e] at hb;cases hb),Nat.le_refl _,by rw[List.append_nil],.inr nofun,?_,?_,by exact NY hb⟩
 ·intro R0 rest told H hl1 hl2 hS
  refine IL hS fun p t' s ds hx' dx o tb of=>(M3 (v7 (hf p t' s ds hx' o tb of told rest _ hl1 (.there .here) (.there (.there .here))) (fun _ _ h=>h) (S8 fun e C' d' t2 R' ⟨p,h,q⟩=>⟨p,_,_,_,_,_,q.weak (.cons_cons _ (.cons_cons _ (.cons _ (.cons _ (.cons _ (.cons _ (.cons _ (.refl _))))))))⟩)) (by decide))
 ·rw[List.length_append]
  have hh:(P8 false).length=6:=rfl
  exact Je ht hh hl
 ·exact Bn ht
theorem wN{n:Int}{t:List UInt8}(h0:t≠[]) (ht:t.length<32):N0 w r d n (P8 false++i7 t false) t (D0 30 3) 64:=by
 refine wT (J5 (L:=3) (K:=3) (last:=false) (by decide) (by decide)) fun e1 e2 e3=>?_
 exact gE h0 ht (f0 _ _) fun p t' s ds hx o tb of told rest R hl i1 i2=>oP (f0 _ _) hl e1 e2 e3 i1 i2
theorem rR{n:Int}{t:List UInt8}(h0:t≠[]) (ht:t.length<32):N0 w r d n (P8 false++i7 t false) t (D0 8200 3) 255:=by
 refine wT (J5 (L:=1025) (K:=0) (last:=false) (by decide) (by decide)) fun e1 e2 e3=>?_
 exact gE h0 ht (f0 _ _) fun p t' s ds hx o tb of told rest R hl i1 i2=>hO (f0 _ _) hl e1 e2 e3 i1 i2
theorem wO{n:Int}{t:List UInt8}(h0:t≠[]) (ht:t.length<32):N0 w r d n (H8 (t.length+1) false++D0 (8*t.length+1) 3++t.take (t.length - 1)) [] (t.drop (t.length - 1)) 198:=by
 have hpos:=List.length_pos_iff.mpr h0
 have h1:=P9 (w:=w) (r:=r) (d:=d) (n:=n) (m:=t.length+1) (ck:=false) (by exact NK ht)
 refine wT (J5 (L:=t.length) (K:=0) (last:=true) (by exact NP ht) (by decide)) fun e1 e2 e3=>?_
 have hm:((t.length:Nat):Int)≤(⟨n,(t.length+1:Nat),(t.length+1:Nat),.int (t.length+1:Nat),false,true⟩:Fm).most:=by
  refine(?_:((t.length:Nat):Int)≤((t.length+1:Nat):Int))
  exact OY
 obtain⟨k,hp⟩:=h1.app (PathE.one (bL (w:=w) (r:=r) (d:=d) (F:=⟨n,(t.length+1:Nat),(t.length+1:Nat),.int (t.length+1:Nat),false,true⟩) (out:=[]) (f0 _ _) e1 e2 e3 (by decide) hm) (S6 (f0 _ _)))
 have hdl:(t.drop (t.length - 1)).length=1:=by rw[List.length_drop];exact Nv hpos
 refine⟨k,_,_,t,t.drop (t.length - 1),[],hp,dP (W8 (by decide) hm (by simp) (by exact JF ht)) h0,?_,?_,(by intro e;rw[e] at hdl;cases hdl),by exact LH hpos hdl,by rw[List.append_nil],.inr nofun,?_,by decide,by exact NV hdl⟩
 ·intro R0 rest told H hl1 hl2 hS
  exact Rk hS fun p t' h dh s ds hx' dx o tb of=>(M3 (V2 (.there (.there .here)) (.there (.there (.there .here))) (pB (b:=t) (rest:=rest) (sz:=t.length+1) hl1 (by decide) (by exact HG hl2) rfl rfl (by exact JF ht) (by simp) (by exact NL ht) (by lia))) (by decide))
 ·rw[List.append_assoc,List.take_append_drop]
  rfl
 ·rw[List.length_append,List.length_append,f0,List.length_take]
  have hh:(H8 (t.length+1) false).length=6:=rfl
  exact Mn ht hh
theorem W9{n:Int}{F:List UInt8}(hF:F≠[]) (hl:F.length≤5):Ends w r d (K0 n) F:=by
 intro R0 pend u told H hbu hu hS Q hq
 have hlen:=E1 hbu (hu.resolve_right hF)
 exact Ba (k:=1) hS (by decide) fun p t=>G2 (by exact Mb hlen hl) (hq _ (rK (.refl _)))
theorem Bd{n:Int}:N0 w r d n [40,181,47,253] [] [8,0] 100:=by
 refine⟨0,_,[],[40,181,47,253,8],[8],[0],.nil,W9 nofun (by decide),?_,rfl,nofun,by decide,rfl,.inl rfl,by decide,by decide,by decide⟩
 intro R0 rest told H hl1 hl2 hS
 exact DU hS fun p t=>(pC (k:=6) (.there (.there .here)) (.there (.there (.there .here))) (by decide) (v7 (pA (rest:=rest) hl1) (fun _ _ h=>h) (S8 fun e C d' t2 R' h=>⟨_,_,_,_,_,_,h⟩)))
theorem wP{n:Int}:N0 w r d n [40,181,47,253,33,5] [] [1] 217:=by
 refine⟨0,_,[],[40,181,47,253,33,5,1],[1],[],.nil,dP (W7 (e:=33) (ic:=1) (i:=1) (sg:=true) rfl rfl (by kernel_rfl) (by kernel_rfl) (by kernel_rfl) (by kernel_rfl) (by decide) (by decide) rfl (by decide)) nofun,?_,rfl,nofun,by decide,rfl,.inl rfl,by decide,by decide,by decide⟩
 intro R0 rest told H hl1 hl2 hS
 exact DU hS fun p t=>(pC (k:=8) (.there (.there .here)) (.there (.there (.there .here))) (by decide) (v7 (hZ (rest:=rest) hl1) (fun _ _ h=>h) (S8 fun e C d' t2 R' ⟨p,h⟩=>⟨_,_,_,_,_,_,h⟩)))
theorem rS:N0 w r d 0 [] [] [40,181,47,254,0] 100:=by
 refine⟨0,_,[],[40,181,47,254,0],[40,181,47,254,0],[],.nil,W9 nofun (by decide),?_,rfl,nofun,by decide,rfl,.inl rfl,by decide,by decide,by decide⟩
 intro R0 rest told H hl1 hl2 hS
 exact DU hS fun p t=>(pC (k:=6) (.there (.there .here)) (.there (.there (.there .here))) (by decide) (v7 (gD (rest:=rest) hl1) (fun _ _ h=>h) (S8 fun e C d' t2 R' h=>⟨_,_,_,_,_,_,h⟩)))
theorem gF{n:Int}(hn:n > 0):N0 w r d n [] [] [40,181,47,254,0] 136:=by
 refine⟨0,_,[],[40,181,47,254,0],[40,181,47,254,0],[],.nil,W9 nofun (by decide),?_,rfl,nofun,by decide,rfl,.inl rfl,by decide,by decide,by decide⟩
 intro R0 rest told H hl1 hl2 hS
 exact DU hS fun p t=>(pC (k:=6) (.there (.there .here)) (.there (.there (.there .here))) (by decide) (v7 (aI (rest:=rest) hl1 hn) (fun _ _ h=>h) (S8 fun e C d' t2 R' h=>⟨_,_,_,_,_,_,h⟩)))
end
theorem Ec(b:List UInt8) (hb:b≠[]):G5 b (some (-1)) none=b.drop (b.length - 1):=by
 have hpos:=List.length_pos_iff.mpr hb
 have e:clipAt b.length (-1)=b.length - 1:=by
  unfold clipAt
  split <;> (first |exact JV |exact JR ‹_›)
 unfold G5
 rw[Option.elim_some,Option.elim_none,e,List.take_of_length_le (by rw[List.length_drop];exact Nat.le_refl _)]
theorem Be(b:List UInt8) (hb:b≠[]):G5 b none (some (-1))=b.take (b.length - 1):=by
 have hpos:=List.length_pos_iff.mpr hb
 have e:clipAt b.length (-1)=b.length - 1:=by
  unfold clipAt
  split <;> (first |exact JV |exact JR ‹_›)
 unfold G5
 rw[Option.elim_some,Option.elim_none,e,List.drop_zero,Nat.sub_zero]
theorem Rp(x:UInt8):0≤Builtin.bitXor (x.toNat:Int) 1∧Builtin.bitXor (x.toNat:Int) 1<256∧(Builtin.bitXor (x.toNat:Int) 1).toNat.toUInt8≠x:=by
 have hx:Builtin.bitXor (x.toNat:Int) 1=((x.toNat ^^^ 1:Nat):Int):=J4 x.toNat 1
 have hl:x.toNat ^^^ 1<256:=Nat.xor_lt_two_pow (n:=8) x.toNat_lt (by decide)
 rw[hx]
 refine⟨by exact Int.natCast_nonneg _,by exact NI hl,fun e=>?_⟩
 have e2:=congrArg UInt8.toNat e
 rw[show((x.toNat ^^^ 1:Nat):Int).toNat=x.toNat ^^^ 1 by exact Int.toNat_natCast _] at e2
 have e3:((x.toNat ^^^ 1).toUInt8).toNat=x.toNat ^^^ 1:=by
  refine(?_:(x.toNat ^^^ 1)%256= _)
  exact JB hl
 rw[e3] at e2
 have e4:x.toNat ^^^ (x.toNat ^^^ 1)=x.toNat ^^^ x.toNat:=by rw[e2]
 rw[← Nat.xor_assoc,Nat.xor_self,Nat.zero_xor] at e4
 cases e4
theorem N1{w:World}{pu:Addr}{g m:Int}{first:Bool}{R:AH}(hg:0≤g) (hm:0≤m) (hm2:m<2 ^ 29) {Q:AV→AH→Prop}
  (hq:∀(tp:Addr) (begun text wrong right:List UInt8) (C:Addr) (g' m':Int),0≤g'→m≤m'→m'≤m+100→right.length≤100→C∈[179,64,255,198,100,217,136]→(∀r d n,(if first=true then n=0 else n > 0)→N0 w r d n begun text wrong C)→Q (.ref tp) ((tp,.tup [.bytes begun,.bytes text,.bytes wrong,.ref C,.bytes right])::(pu,.list [.int g',.int m'])::R)) :
  c6 w 4 1708 [.ref pu,.bool first] ((pu,.list [.int g,.int m])::R) (fun _ _=>False) Q:=by
 refine oB (d:=GT) (locs:=["is_first", "way", "text", "begun", "right"]) (ρ₀:=[("is_first",some (.bool first)),("way",none),("text",none),("begun",none),("right",none)]) (cH:=fun L=>[(L+1,.cell (some (.ref pu)))]) ⟨by kernel_rfl,by kernel_rfl⟩ (FI.ok_of (by kernel_rfl))
  (fun s cvs K hl=>by have:=vH (w:=w) s cvs K hl;rwa [List.append_nil] at this) (fun n=>?_) (fun n x hx=>?_) (fun cvs h=>?_) (fun cvs L h=>?_) (fun fx c hh hcl=>?_)
 ·refine(?_:(["purse"]:List Str).Nodup)
  decide
 ·rcases List.mem_cons.mp hx with rfl |hx
  ·exact .inr ⟨rfl,rfl⟩
  rcases List.mem_cons.mp hx with rfl |hx
  ·exact .inl rfl
  cases hx
 ·cases h with
  | cons r1 h=>cases h with
   | cons r2 h=>cases h;exact⟨rfl,fun x v hm=>by
     rcases List.mem_cons.mp hm with e |hm
     ·cases e;exact⟨_,rfl,r2⟩
     rcases List.mem_cons.mp hm with e |hm
     ·cases e
     rcases List.mem_cons.mp hm with e |hm
     ·cases e
     rcases List.mem_cons.mp hm with e |hm
     ·cases e
     rcases List.mem_cons.mp hm with e |hm
     ·cases e
     cases hm⟩
 ·cases h with
  | cons r1 h=>cases h with
   | cons r2 h=>cases h;exact .full rfl r1 .nil
 rcases fx with ⟨A,base,outer,stk,h₀,L,frame,cells,os⟩
 dsimp only at hcl hh ⊢
 subst hcl
 dsimp only[List.cons_append,List.nil_append]
 refine b8 ?_
 refine n5 hh ?_
 refine j3 ?_
 refine a8 ?_
 refine p0 c (f7 (by law_side)) (by kernel_rfl) rfl (by kernel_rfl) ?_ (by rfl) (by rfl)
 refine a8 ?_
 refine t9 c.ok (by kernel_rfl) (c:=L+1) (by rfl) (by law_side) rfl ?_
 refine a8 ?_
 refine u1 ?_
 refine g7 ?_
 refine f5 c hh (by kernel_rfl) (iX (by da_tab)) (v6 (k:=m) hg hm (by exact Jw hm2) (by decide) (by decide) (fun g1 way hg1 hv0 hv1=>?_))
 refine a8 ?_
 refine z9 c (f7 (by law_side)) (by kernel_rfl) rfl ?_ (by rfl) (by rfl)
 refine a8 ?_
 refine gB (cl:=[("purse",L+1)]) (C:=L+1) (pu:=pu) c (by decide) hh rfl (by kernel_rfl) (by kernel_rfl) rfl (by kernel_rfl) (by kernel_rfl) (by kernel_rfl) rfl ?_ (by intro _;rfl)
 refine z9 c (f7 (by law_side)) (by kernel_rfl) rfl ?_ (by rfl) (by rfl)
 refine a8 ?_
 refine c4 ?_
 refine u1 ?_
 refine p0 c (f7 (by law_side)) (by kernel_rfl) rfl (by kernel_rfl) ?_ (by rfl) (by rfl)
 refine a8 ?_
 refine t9 c.ok (by kernel_rfl) (c:=L+1) (by rfl) (by law_side) rfl ?_
 refine a8 ?_
 refine u1 ?_
 refine g7 ?_
 refine a9 c hh (by kernel_rfl) (D9 (k:=m+1) hg1 (by exact MZ hm) (by exact Nd hm2) (by decide) (by decide) (fun g2 v2 hg2 hw1=>?_))
 refine y3 ?_
 refine g7 ?_
 refine J1 (fun rr t u v'=>?_)
 refine⟨rr,1+v2,t,u,v',g2,m+1+1,R,rfl,by rw[show((1+v2:Nat):Int)=1+(v2:Int) by rfl],by exact NC hw1,hg2,by exact MY hm,by exact Nc hm2,fun acc2 cs g3 hcl hc8 hg3=>?_⟩
 refine g7 ?_
 refine m8 (ns:=cs.map fun b=>((b:Nat):Int)) hh (by rw[List.map_map];exact .here) (fun n hn=>?_) (by rw[List.length_map];exact LQ hw1 hcl) ?_
 ·refine f9 (List.mem_map.mp hn) fun b hb zq1=>?_;subst zq1
  have:=hc8 b hb
  exact HB this
 obtain⟨text,htx⟩:∃text,text=(cs.map fun b=>((b:Nat):Int)).map fun n=>n.toNat.toUInt8:=⟨_,rfl⟩
 rw[← htx]
 have htl:text.length=1+v2:=by rw[htx,List.length_map,List.length_map,hcl]
 have ht0:text≠[]:=by
  intro e
  rw[e] at htl
  simp at htl
  exact Jy htl
 have htl2:text.length≤5:=by exact LR hw1 htl
 have hbt:=S7 text true
 have hbf:=S7 text false
 obtain⟨m3,hm3⟩:∃m3,m3=m+1+1+((1+v2:Nat):Int):=⟨_,rfl⟩
 rw[← hm3]
 have hm3a:m≤m3:=by exact Pz hm3
 have hm3b:m3≤m+100:=by exact Pt hm3 htl htl2
 clear hm3
 have fin:∀(tp:Addr) (begun txt wrong right:List UInt8) (C:Addr) (H':AH),right.length≤100→C∈[179,64,255,198,100,217,136]→(∀r d n,(if first=true then n=0 else n > 0)→N0 w r d n begun txt wrong C)→((tp,.tup [.bytes begun,.bytes txt,.bytes wrong,.ref C,.bytes right])::(pu,.list [.int g3,.int m3])::R).Sublist H'→∀ρ,wA Q (.ret (.ref tp)) ρ H':=fun tp begun txt wrong right C H' h1 h2 h3 h4 _=>⟨_,h4,hq tp begun txt wrong right C g3 m3 hg3 hm3a hm3b h1 h2 h3⟩
 refine g7 ?_
 (refine'⟨?_,fun _=>?_⟩;focus (exact nb rfl))
 refine'⟨_,_,rfl,by law_side,by with_unfolding_all exact rfl,?_⟩
 repeat (refine H3 c.ok (by da_tab) ?_)
 refine O8 ?_
 clear htx hcl hc8
 refine b8 ?_
 refine' B5 ?_
 refine' D2 (by da_there) ?_
 refine H4 (fun ht=>?_) (fun ht=>?_)
 ·refine b8 ?_
  refine n5 hh ?_
  refine' j3 ?_
  refine' a8 ?_
  refine' c4 ?_
  refine' zc ?_
  refine a9 c hh (by kernel_rfl) (o9 (size:=text.length) (ck:=true) (by exact OC htl2) ?_)
  refine' zc ?_
  refine a9 c hh (by kernel_rfl) (n8 (b:=text) (last:=true) (by exact Ht htl2) ?_)
  refine' r5 (by(simp only[X0,X6,X7,X8,X9];exact Hy hbt htl2)) ?_
  refine' a8 ?_
  refine' zv ?_
  refine' a8 ?_
  refine' zc ?_
  refine a9 c hh (by kernel_rfl) (aF (b:=text) (by exact Bp htl2) ?_)
  refine' za ?_
  refine a9 c hh (by kernel_rfl) (m9 (v:=dO text%4294967296) (k:=4) (by decide) ?_)
  obtain⟨a1,a2,a3,a4,hs4⟩:∃a b c x,D0 (dO text%4294967296) 4=[a,b,c,x]:=⟨_,_,_,_,Hk _⟩
  rw[hs4]
  refine' za ?_
  (refine'⟨?_,fun _=>?_⟩;focus (exact nb rfl))
  refine'⟨_,_,rfl,by law_side,by with_unfolding_all exact rfl,?_⟩
  repeat (refine H3 c.ok (by da_tab) ?_)
  refine O8 ?_
  refine b8 ?_
  refine' w8 ?_
  refine' j3 ?_
  refine' a8 ?_
  refine' zp ?_
  refine' a8 ?_
  refine' zp ?_
  refine' a8 ?_
  refine' c4 ?_
  refine' zp ?_
  refine' zt ?_
  refine' a8 ?_
  refine' w9 ?_
  refine' a8 ?_
  refine' c4 ?_
  refine' i9 ?_
  refine' zp ?_
  refine' zp ?_
  rw[D3 _ _ (by decide)]
  skip
  refine S1 (nb rfl) (by decide) (by simp) ?_
  refine' zp ?_
  refine' N8 ?_
  refine' za ?_
  (refine'⟨?_,fun _=>?_⟩;focus (exact nb rfl))
  refine' za ?_
  refine wT (Rp a4) fun f1 f2 f3=>?_
  refine m8 (ns:=[Builtin.bitXor (a4.toNat:Int) 1]) hh .here (fun n hn=>by rw[List.mem_singleton.mp hn];exact⟨f1,f2⟩) (nb rfl) ?_
  skip
  refine r5 (by simp) ?_
  refine' za ?_
  (refine'⟨?_,fun _=>?_⟩;focus (exact nb rfl))
  refine' n9 ?_
  refine' n9 ?_
  exact fin _ (H8 text.length true++i7 text true) text [a1,a2,a3,_] [a1,a2,a3,a4] 179 _ (by simp) (by decide) (fun r d n _=>Bc ht0 (by exact Bp htl2) hs4 f3) (by law_side) _
 refine f8 ?_
 refine b8 ?_
 refine' B5 ?_
 refine' D2 (by da_there) ?_
 refine H4 (fun ht1=>?_) (fun ht1=>?_)
 ·refine' g5 ?_
  refine' j3 ?_
  refine' a8 ?_
  refine' c4 ?_
  refine' zc ?_
  refine a9 c hh (by kernel_rfl) (D4 (size:=0) (ck:=false) ?_)
  refine' zc ?_
  refine a9 c hh (by kernel_rfl) (n8 (b:=text) (last:=false) (by exact Ht htl2) ?_)
  refine' r5 (by(simp only[X0,X6,X7,X8,X9];exact Hy hbf htl2)) ?_
  refine' a8 ?_
  refine' zp ?_
  refine' a8 ?_
  refine' zc ?_
  refine a9 c hh (by kernel_rfl) (m9 (v:=30) (k:=3) (by decide) ?_)
  refine' a8 ?_
  refine' zp ?_
  refine' a8 ?_
  refine' zc ?_
  refine a9 c hh (by kernel_rfl) (n8 (b:=text) (last:=true) (by exact Ht htl2) ?_)
  refine' za ?_
  (refine'⟨?_,fun _=>?_⟩;focus (exact nb rfl))
  refine' n9 ?_
  exact fin _ (P8 false++i7 text false) text (D0 30 3) (i7 text true) 64 _ (by exact Es hbt htl2) (by decide) (fun r d n _=>wN ht0 (by exact Bp htl2)) (by law_side) _
 refine f8 ?_
 refine b8 ?_
 refine' B5 ?_
 refine' D2 (by da_there) ?_
 refine H4 (fun ht2=>?_) (fun ht2=>?_)
 ·refine' g5 ?_
  refine' j3 ?_
  refine' a8 ?_
  refine' c4 ?_
  refine' zc ?_
  refine a9 c hh (by kernel_rfl) (D4 (size:=0) (ck:=false) ?_)
  refine' zc ?_
  refine a9 c hh (by kernel_rfl) (n8 (b:=text) (last:=false) (by exact Ht htl2) ?_)
  refine' r5 (by(simp only[X0,X6,X7,X8,X9];exact Hy hbf htl2)) ?_
  refine' a8 ?_
  refine' zp ?_
  refine' a8 ?_
  refine' zc ?_
  refine a9 c hh (by kernel_rfl) (m9 (v:=8200) (k:=3) (by decide) ?_)
  refine' a8 ?_
  refine' zp ?_
  refine' a8 ?_
  refine' zc ?_
  refine a9 c hh (by kernel_rfl) (n8 (b:=text) (last:=true) (by exact Ht htl2) ?_)
  refine' za ?_
  (refine'⟨?_,fun _=>?_⟩;focus (exact nb rfl))
  refine' n9 ?_
  exact fin _ (P8 false++i7 text false) text (D0 8200 3) (i7 text true) 255 _ (by exact Es hbt htl2) (by decide) (fun r d n _=>rR ht0 (by exact Bp htl2)) (by law_side) _
 refine f8 ?_
 refine b8 ?_
 refine' B5 ?_
 refine' D2 (by da_there) ?_
 refine H4 (fun ht3=>?_) (fun ht3=>?_)
 ·refine' zS ?_
  refine' c4 ?_
  refine' c4 ?_
  refine' zc ?_
  rw[show((text.length:Int)+1)=((text.length+1:Nat):Int) by rfl]
  refine a9 c hh (by kernel_rfl) (o9 (size:=text.length+1) (ck:=false) (by exact OB htl2) ?_)
  refine' zc ?_
  rw[show(8*(text.length:Int)+1)=((8*text.length+1:Nat):Int) by rfl]
  refine a9 c hh (by kernel_rfl) (m9 (v:=8*text.length+1) (k:=3) (by decide) ?_)
  skip
  refine r5 (by rw[f0];simp) ?_
  refine' zp ?_
  rw[Be _ ht0]
  refine r5 (by rw[List.length_append,f0,List.length_take];simp;exact OA htl2) ?_
  refine'⟨_,by da_tab,?_⟩
  refine' g5 ?_
  refine' j3 ?_
  refine' a8 ?_
  refine' zp ?_
  refine' a8 ?_
  refine' zp ?_
  refine' a8 ?_
  refine' zp ?_
  refine' a8 ?_
  refine' zp ?_
  refine' a8 ?_
  refine' zc ?_
  rw[Ec _ ht0]
  skip
  refine a9 c hh (by kernel_rfl) (n8 (b:=text) (last:=true) (by exact Ht htl2) ?_)
  refine' za ?_
  (refine'⟨?_,fun _=>?_⟩;focus (exact nb rfl))
  refine' n9 ?_
  exact fin _ (H8 (text.length+1) false++D0 (8*text.length+1) 3++text.take (text.length - 1)) [] (text.drop (text.length - 1)) (i7 text true) 198 _ (by exact Es hbt htl2) (by decide) (fun r d n _=>wO ht0 (by exact Bp htl2)) (by law_side) _
 refine f8 ?_
 refine b8 ?_
 refine' B5 ?_
 refine' D2 (by da_there) ?_
 refine H4 (fun ht4=>?_) (fun ht4=>?_)
 ·refine' g5 ?_
  refine' j3 ?_
  refine' a8 ?_
  refine' zc ?_
  refine a9 c hh (by kernel_rfl) (m9 (v:=4247762216) (k:=4) (by decide) ?_)
  rw[bM]
  refine' a8 ?_
  refine' zp ?_
  refine' a8 ?_
  refine' zt ?_
  refine' a8 ?_
  refine' w9 ?_
  refine' za ?_
  (refine'⟨?_,fun _=>?_⟩;focus (exact nb rfl))
  refine' za ?_
  refine m8 (ns:=[8,0]) hh .here (by decide) (nb rfl) ?_
  refine' a8 ?_
  refine' zp ?_
  refine' a8 ?_
  refine' m5 ?_
  refine' zc ?_
  refine a9 c hh (by kernel_rfl) (o9 (size:=1) (ck:=false) (by decide) ?_)
  refine' r4 ?_
  refine' zp ?_
  refine'⟨_,rfl,?_⟩
  refine' r3 ?_
  refine' fA (by(simp only[X0,X6,X7,X8,X9];exact Nat.le_add_left _ _)) ?_ (by intro _ _ _;kernel_rfl)
  refine' za ?_
  (refine'⟨?_,fun _=>?_⟩;focus (exact nb rfl))
  refine' n9 ?_
  rw[C7 _ _ (by decide)]
  skip
  exact fin _ [40,181,47,253] [] [8,0] ((H8 1 false).drop 4) 100 _ (nb rfl) (by decide) (fun r d n _=>Bd) (by law_side) _
 refine f8 ?_
 refine b8 ?_
 refine' B5 ?_
 refine' D2 (by da_there) ?_
 refine H4 (fun ht5=>?_) (fun ht5=>?_)
 ·refine' g5 ?_
  refine' j3 ?_
  refine' a8 ?_
  refine' c4 ?_
  refine' m5 ?_
  refine' zc ?_
  refine a9 c hh (by kernel_rfl) (o9 (size:=1) (ck:=false) (by decide) ?_)
  refine' r3 ?_
  refine' r4 ?_
  refine' zp ?_
  refine'⟨_,rfl,?_⟩
  refine' fA (by(simp only[X0,X6,X7,X8,X9];exact Nat.le_add_left _ _)) ?_ (by intro _ _ _;kernel_rfl)
  refine' zt ?_
  refine' a8 ?_
  refine' w9 ?_
  refine' za ?_
  (refine'⟨?_,fun _=>?_⟩;focus (exact nb rfl))
  refine' za ?_
  rw[D3 _ _ (by decide)]
  skip
  refine m8 (ns:=[33,5]) hh .here (by decide) (nb rfl) ?_
  skip
  refine r5 (by simp) ?_
  refine' a8 ?_
  refine' zp ?_
  refine' a8 ?_
  refine' zt ?_
  refine' a8 ?_
  refine' w9 ?_
  refine' za ?_
  (refine'⟨?_,fun _=>?_⟩;focus (exact nb rfl))
  refine' za ?_
  refine m8 (ns:=[1]) hh .here (by decide) (nb rfl) ?_
  refine' a8 ?_
  refine' zp ?_
  refine' a8 ?_
  refine' zc ?_
  refine a9 c hh (by kernel_rfl) (n8 (b:=text) (last:=true) (by exact Ht htl2) ?_)
  refine' za ?_
  (refine'⟨?_,fun _=>?_⟩;focus (exact nb rfl))
  refine' n9 ?_
  exact fin _ [40,181,47,253,33,5] [] [1] (i7 text true) 217 _ (by exact Es hbt htl2) (by decide) (fun r d n _=>wP) (by law_side) _
 refine f8 ?_
 refine b8 ?_
 refine' w8 ?_
 refine' j3 ?_
 refine' a8 ?_
 refine' zp ?_
 refine' a8 ?_
 refine' zp ?_
 refine' a8 ?_
 refine' zp ?_
 refine' a8 ?_
 refine' z8 ?_
 refine' D2 (by da_there) ?_
 cases first with
 | true=>
  refine' zV ?_
  refine' zp ?_
  refine' a8 ?_
  refine' zc ?_
  refine a9 c hh (by kernel_rfl) (o9 (size:=1) (ck:=false) (by decide) ?_)
  refine' za ?_
  (refine'⟨?_,fun _=>?_⟩;focus (exact nb rfl))
  refine' n9 ?_
  exact fin _ [] [] [40,181,47,254,0] (H8 1 false) 100 _ (nb rfl) (by decide) (fun r d n h=>by rw[show n=0 from h];exact rS) (by law_side) _
 | false=>
  refine' zF ?_
  refine' zp ?_
  refine' a8 ?_
  refine' zc ?_
  refine a9 c hh (by kernel_rfl) (o9 (size:=1) (ck:=false) (by decide) ?_)
  refine' za ?_
  (refine'⟨?_,fun _=>?_⟩;focus (exact nb rfl))
  refine' n9 ?_
  exact fin _ [] [] [40,181,47,254,0] (H8 1 false) 136 _ (nb rfl) (by decide) (fun r d n h=>gF h) (by law_side) _
section
open Sem (wp)
section
variable{w:World}{f:FI}{fx:Fx}{X:AV→b0→AH→Prop}{ρ:b0}{H:AH}{n:Nat}
theorem pD(P:Params):codeHdIn (KG P) 1728 1724=true:=by kernel_rfl
theorem TN(P:Params):(u4 P).nsMap mainGlobals "__builtins__" = some (.ref 4)∧(KG P).lookup 4=some (x4 P)∧(x4 P).cls=.type "module"∧(x4 P).dict=some builtinsNs∧(x4 P).data=.plain:=⟨by kernel_rfl,by kernel_rfl,by kernel_rfl,by kernel_rfl,by kernel_rfl⟩
theorem aJ{h:Heap}(K:Frag.In (KG w.params) h):h.BuiltinsAt ((u4 w.params).nsMap mainGlobals) 1724:=by
 refine bO (TN w.params) fun h1 h2 h3 h4 h5=>?_
 exact⟨4,_,h1,by decide,by decide,by decide,K _ _ h2,h3,h4,h5⟩
theorem Ed{α:Type}{p:α}{l l':List α}(h:Del1 p l l'):p∈l:=h.perm.mem_iff.mpr (.head _)
theorem iY{params:Arguments}{body:Expr}{scope:Scope}{pos:Pos}{ps:Array Value}{clos:List (Str×Addr)}{G:AH}{Q:AV→b0→AH→Prop}(c:Cx w f fx n) (hcd:f.cd=.ref 1728) (hdef:defaultsOf params (f.env fx)=([],[])) (hcl:closureFor scope (f.env fx)=pure clos)
  (hdel:Del1 (1724,.raw (tabObj ps)) H G) (ht:TriplesOk ps.toList) (hnf:codeAmong pos ps.toList=none)
  (h:∀(fn c':Addr) (oc:Obj) (pm ctv:Value),(∃vs t,oc.data=.fields vs∧vs[1]?=some (.str ((f.env fx).qual++ "<lambda>") t))→Q (.ref fn) ρ ((fn,.raw (kla_obj "<lambda>" ((f.env fx).qual++ "<lambda>") params body scope clos pm c' ctv))::(c',.raw oc)::(1724,.raw (tabObj (ps++ #[rawInt pos.line,rawInt pos.col,.ref c'])))::G)) :
  Ev w f fx X (.Lambda params body scope pos) ρ H Q:=by
 intro s ⟨m,news,S⟩
 refine f9 (S.items _ (Ed hdel)) fun o hmem hr=>?_
 obtain rfl:=RepO.inv hr
 have KS:=S.KH c
 refine a6 (kla_eval hdef (kla_makeFunction (mg:=(u4 w.params).nsMap mainGlobals) (c:=1728) (P:=1724) hcl rfl (qB KS) hcd (codeHd_of_K KS (pD _)) (S.freed hmem) ht hnf (by decide) (aJ KS) fun c' ctv h' tk hx hge hlt hrec htb=>?_))
 refine N2 (hrec) fun c₂ oc vs t e2 hoc hd hv=>?_
 cases e2
 have hnd:=(hdel.perm.map (·.1)).nodup_iff.mp S.keys
 rw[List.map_cons,List.nodup_cons] at hnd
 have hlt1:1724<s.heap.objs.size:=Heap.lt_size (S.nw _ hmem).1
 have S':=S.swap (s':= { s with heap:=h'.push (kla_obj "<lambda>" ((f.env fx).qual++ "<lambda>") params body scope clos (((u4 w.params).nsMap mainGlobals "__name__").getD .none) c' ctv),toks:=tk }) (G:=G) [1724]
  [(h'.objs.size,.raw _,_),(c',.raw oc,oc),(1724,.raw _,tabObj (ps++ #[rawInt pos.line,rawInt pos.col,.ref c']))] (fun a ha=>by rw[List.mem_singleton.mp ha];exact⟨_,hmem⟩)
  (fun p hp=>⟨hdel.perm.mem_iff.mpr (.tail _ hp),fun e=>hnd.1 ((List.mem_singleton.mp e)▸List.mem_map_of_mem (f:=(·.1)) hp)⟩) hnd.2
  (fun b ob hb e=>Heap.get?_push_of_some _ (hx b ob (fun e=>hb (e▸.head _)) e)) (fun p hp=>by
   rcases List.mem_cons.mp hp with rfl |hp
   ·exact⟨Heap.get?_push_size _ rfl,.raw _,.inr (by lia)⟩
   rcases List.mem_cons.mp hp with rfl |hp
   ·exact⟨Heap.get?_push_of_some _ hoc,.raw _,.inr hge⟩
   rcases List.mem_cons.mp hp with rfl |hp
   ·exact⟨Heap.get?_push_of_some _ htb,.raw _,.inl (.head _)⟩
   cases hp) (by
   have n1:h'.objs.size≠c':=Nat.ne_of_gt hlt
   have n3:c'≠1724:=Nat.ne_of_gt (Nat.lt_of_lt_of_le hlt1 hge)
   have n2:h'.objs.size≠1724:=Nat.ne_of_gt (Nat.lt_trans (Nat.lt_of_lt_of_le hlt1 hge) hlt)
   simp [n1,n2,n3]) rfl rfl
 exact⟨.ref _,ρ,_,.ref _,S',h _ _ _ _ _ ⟨vs,t,hd,hv⟩⟩
theorem iA{params:Arguments}{body:Expr}{scope:Scope}{pos:Pos}{ps:Array Value}{clos:List (Str×Addr)}{c':Addr}{Q:AV→b0→AH→Prop}(c:Cx w f fx n) (hcd:f.cd=.ref 1728) (hdef:defaultsOf params (f.env fx)=([],[])) (hcl:closureFor scope (f.env fx)=pure clos)
  (hi:In1 1724 (.raw (tabObj ps)) H) (ht:TriplesOk ps.toList) (hf:codeAmong pos ps.toList=some (.ref c'))
  (h:∀(fn:Addr) (pm ctv:Value),Q (.ref fn) ρ ((fn,.raw (kla_obj "<lambda>" ((f.env fx).qual++ "<lambda>") params body scope clos pm c' ctv))::H)) :
  Ev w f fx X (.Lambda params body scope pos) ρ H Q:=by
 intro s ⟨m,news,S⟩
 refine f9 (S.items _ hi.mem) fun o hmem hr=>?_
 obtain rfl:=RepO.inv hr
 have KS:=S.KH c
 refine a6 (kla_eval hdef (kla_makeFunctionHit (mg:=(u4 w.params).nsMap mainGlobals) (c:=1728) (P:=1724) hcl rfl (qB KS) hcd (codeHd_of_K KS (pD _)) (S.freed hmem) ht hf (aJ KS) fun ctv h' tk hk hsz=>?_))
 have S':=S.swap (s':= { s with heap:=h'.push (kla_obj "<lambda>" ((f.env fx).qual++ "<lambda>") params body scope clos (((u4 w.params).nsMap mainGlobals "__name__").getD .none) c' ctv),toks:=tk }) (G:=H) []
  [(h'.objs.size,.raw _,_)] (fun a ha=>by cases ha) (fun p hp=>⟨hp,fun e=>by cases e⟩) S.keys (fun b ob hb e=>Heap.get?_push_of_some _ (hk b ob e)) (fun p hp=>by
   rcases List.mem_cons.mp hp with rfl |hp
   ·exact⟨Heap.get?_push_size _ rfl,.raw _,.inr hsz⟩
   cases hp) (by simp) rfl rfl
 exact⟨.ref _,ρ,_,.ref _,S',h _ _ _⟩
theorem Bf{x:Str}{np pos:Pos}{g:Addr}{P:Heap→Prop}{Q:AV→b0→AH→Prop}(ok:f.Ok) (hx:In1 x (some (.ref g)) ρ) (hd:(x == ("__debug__":Str))=false)
  (hk:∀h,P h→∃k,(k=Keeper.frame∨k=Keeper.machine∨k=Keeper.boundFrame)∧Looks (model pw w) h (keeperOf (.ref g)) k) (hP:∀s,Sat f fx ρ H s→P s.heap) (h:w3 w f fx X g [] ρ H Q):Ev w f fx X (.Call (.Name x np) [] [] pos) ρ H Q:=by
 intro s ⟨m,news,S⟩
 refine B8 ?_
 refine f9 (S.rho.2 x _ hx.mem) fun cv e r=>?_
 obtain rfl:=Rep.inv r
 have hl:(f.env fx).kindOf x=some .local:=ok.loc x (by rw[← S.rho.1];exact List.mem_map_of_mem (f:=(·.1)) hx.mem)
 refine a6 (wpAny_Name (wpAny_loadName_local ok.kind hl S.fr.ns e ?_) hd)
 exact Q4 rfl hk (nC ⟨hP s ⟨m,news,S⟩,h _ .nil s ⟨m,news,S⟩⟩)
end
section
variable{w:World}{f:FI}{fx:Fx}{X:AV→b0→AH→Prop}{ρ:b0}{H:AH}{n:Nat}
noncomputable def yM(P:Params) (C:Addr) (name:Str) (g:Addr):Bool:=plainGet (KG P) C name && hasDictIn (KG P) C && (match findIn (KG P) (.ref C) name with |some (some (.ref a))=>a == g |_=>false) && isFn (KG P) (.ref g) &&
 (match specialIn (KG P) (.ref g) "__get__" with |some (some (.builtin "function.__get__"))=>true |_=>false) && (match takesIn (KG P) (.ref g) with |some false=>true |_=>false) && !copiedNames.contains name && fnIn (KG P) g
theorem Ee{C d a g:Addr}{name:Str}{fs:List (Str×AV)}{Q:AV→b0→AH→Prop}(c:Cx w f fx n) (h1:In1 a (.inst C d) H) (h2:In1 d (.dict fs) H) (ho:yM w.params C name g=true) (hn:(fs.map (·.1)).contains name=false)
  (h:∀q,Q (.ref q) ρ ((q,.raw (methodObj (.ref g) (.ref a)))::H)):yW w f fx X (.ref a) name ρ H Q:=by
 refine I5 ?_
 rintro s ⟨m,news,S⟩
 refine Q1 (S.inst h1 h2) fun es k _ _ rs nd I=>?_
 simp only[yM,Bool.and_eq_true,Bool.not_eq_true'] at ho
 refine oA (ho) fun zq1 o8=>?_;refine oA (zq1) fun zq2 o7=>?_;refine oA (zq2) fun zq3 o6=>?_;refine oA (zq3) fun zq4 o5=>?_;refine oA (zq4) fun zq5 o4=>?_;refine oA (zq5) fun zq6 o3=>?_;refine oA (zq6) fun o1 o2=>?_
 split at o3
 ·rename_i a' q3
  rw[beq_iff_eq.mp o3] at q3
  split at o5
  ·rename_i q5
   split at o6
   ·rename_i q6
    refine a6 (kbm_bound S.fr (S.K c) S.nw I o1 o2 q3 o4 q5 q6 o7 (Q6 rs (C4 hn)) fun q h' F' N' hlt=>?_)
    refine⟨.ref q,ρ,_,.ref q,⟨m,_,F',N',S.rho,fun p hp=>?_,?_,?_,S.gens,S.os⟩,h q⟩
    ·rcases List.mem_cons.mp hp with rfl |hp
     ·exact⟨_,.head _,.raw _⟩
     ·refine f9 (S.items p hp) fun o x y=>?_
      exact⟨o,.tail _ x,y⟩
    ·refine List.nodup_cons.mpr ⟨fun hm=>?_,S.keys⟩
     refine f9 (List.mem_map.mp hm) fun p hp e=>?_
     refine f9 (S.items p hp) fun o x _=>?_
     exact absurd (hlt _ x) (by rw[show p.1=q from e];exact Nat.lt_irrefl _)
    ·refine List.nodup_cons.mpr ⟨fun hm=>?_,S.nodup⟩
     refine f9 (List.mem_map.mp hm) fun p hp e=>?_
     exact absurd (hlt p hp) (by rw[show p.1=q from e];exact Nat.lt_irrefl _)
   ·cases o6
  ·cases o5
 ·cases o3
theorem Bg{k:Nat}{q g a:Addr}{XS Q:AV→AH→Prop}(hi:In1 q (.raw (methodObj (.ref g) (.ref a))) H) (hs:c6 w k g [.ref a] H XS Q):c6 w k q [] H XS Q:=by
 intro f fx ρ A k' c h1 h2 h3 h4 s S cvs r
 cases r
 obtain⟨m,news,S'⟩:=id S
 refine f9 (S'.items _ hi.mem) fun o m1 m2=>?_
 obtain rfl:=RepO.inv m2
 refine d7 ?_
 refine(?_:c8 _ _ (callAny (.ref q) _) _ _ _)
 simp only[callAny]
 refine a7 (a6 (wpAny_load (S'.freed m1) ?_))
 exact b7 ⟨rfl,rfl,hs f fx ρ A k' c h1 h2 h3 h4 s S _ (.cons (.ref a) .nil)⟩
theorem Ef{A:Around}{s:Shared}{R:Result→Shared→Prop}{a:Addr}{o:Obj}{fd:FuncData}{body:Expr}{args:Args}
  (hroom:A.depth<recursionLimit) (ho:s.heap.get? a=some o) (hdata:o.data=.func fd) (hlim:s.heap.NoLimit) (hcd:s.heap.CodeRec fd.code fd.qualname) (hbody:fd.body=.expr body) (hbind:bindArgs fd args=pure [])
  (hcell:∀x∈fd.scope.names,x.2≠.cell) (hco:fd.scope.isCoroutine=false) (hgen:fd.scope.isGenerator=false) (hk:fd.scope.kind=.function)
  (h:∀h₀,h₀.Ns s.heap.objs.size (fun x=>([]:List (Str×Value)).reverse.lookup x)→(∀b o,s.heap.get? b=some o→h₀.get? b=some o)→
   c8 (model pw w) (A.deeper (callEnv fd s.heap.objs.size a)) (eval body (callEnv fd s.heap.objs.size a)) (fun v s'=>R (.ok (.ret v)) s')
    (fun e s'=>c8 (model pw w) (A.deeper (callEnv fd s.heap.objs.size a)) (leaving (callEnv fd s.heap.objs.size a) e) (fun _ s''=>R (.error e) s'') (fun e' s''=>R (.error e') s'') s')
    { s with heap:=h₀,toks:=s.toks+([]:List (Str×Value)).length }):j4 (model pw w) A (.call (.ref a) args) R s:=by
 refine d7 ?_
 refine(?_:c8 _ A.in1 (callAny (.ref a) args) _ _ s)
 simp only[callAny]
 refine a7 (a6 (wpAny_load ho ?_))
 refine N2 (hcd) fun c oc vs tq hc hoc hdc hq=>?_
 have hc':=hc
 simp only[hdata,callFunction,hco,hgen,hbody]
 rw[hc]
 refine a7 (m:=field (.ref c) 1) (a6 (wpAny_field hoc hdc hq (a7 (b7 ?_))))
 rw[hbind]
 refine a7 (b7 (a7 (a6 (wpAny_newFunctionEnv hcell (fun x hx=>by cases hx) (fun h₀ hns hsb=>?_) hk))))
 refine a7 (a6 (wpAny_enterFrame (hlim.fresh _ hsb) hroom (b7 ⟨rfl,rfl,?_⟩)))
 rw[← hc]
 refine d7 ?_
 show c8 _ (A.deeper (callEnv fd s.heap.objs.size a)) (do point;ret (← (eval body (callEnv fd s.heap.objs.size a)).onRaise (leaving (callEnv fd s.heap.objs.size a)))) _ _ _
 refine a7 (a6 (wpAny_point (a7 (j8 (c5 (h h₀ hns fun b o e=>hsb.extBut b o (Nat.ne_of_lt (Heap.lt_size e)) (Heap.get?_push_of_some _ e)) fun v s' h'=>?_)))))
 exact b7 h'
noncomputable abbrev aK(qual:Str) (scope:Scope) (fn c':Addr):FI:=⟨qual,scope,some fn,.ref c',[]⟩
theorem rT{fn c':Addr}{qual:Str}{params:Arguments}{body:Expr}{scope:Scope}{clos:List (Str×Addr)}{pm ctv:Value}{oc:Obj}{X:Fx→AV→b0→AH→Prop}{XS Q:AV→AH→Prop}(ok:(aK qual scope fn c').Ok) (hi:In1 fn (.raw (kla_obj "<lambda>" qual params body scope clos pm c' ctv)) H) (hic:In1 c' (.raw oc) H)
  (hoc:∃vs t,oc.data=.fields vs∧vs[1]?=some (.str qual t)) (hbind:bindArgs (kla_fn "<lambda>" qual params body scope clos pm (.ref c') ctv) ⟨[],[]⟩=pure []) (hcell:∀x∈scope.names,x.2≠.cell) (hco:scope.isCoroutine=false) (hgen:scope.isGenerator=false)
  (h:∀fx,Cx w (aK qual scope fn c') fx n→fx.A.handled=none→fx.stk=(aK qual scope fn c').env fx::fx.outer→fx.frame=fx.L→fx.cells=clos→Ev w (aK qual scope fn c') fx (X fx) body [] H (fun v _ H'=>Q v H')∧dZ w (aK qual scope fn c') fx (X fx) XS):c6 w (n+1) fn [] H XS Q:=by
 intro f fx ρ A k c hfr hroom hgd hh s ⟨m,news,S⟩ cvs hv
 cases hv
 have KS:=S.KH c
 refine oA (S.ff c) fun FF st=>?_
 refine f9 (S.items _ hi.mem) fun o1 m1 r1=>?_
 obtain rfl:=RepO.inv r1
 refine f9 (S.items _ hic.mem) fun o2 m2 r2=>?_
 obtain rfl:=RepO.inv r2
 refine aM (hoc) fun vs t hd hvs=>?_
 refine Ef (fd:=kla_fn "<lambda>" qual params body scope clos pm (.ref c') ctv) (body:=body) (by have:recursionLimit=1000:=rfl;exact Hv hroom this) (S.freed m1) rfl (Q5 KS) ⟨c',oc,vs,t,rfl,S.freed m2,hd,hvs⟩ rfl hbind hcell hco hgen ok.kind (fun h₁ hns hk₁=>?_)
 let g:=hideAll s.heap (news.map (·.1))
 let L':=s.heap.objs.size
 let fx':Fx:=⟨A.deeper (callEnv (kla_fn "<lambda>" qual params body scope clos pm (.ref c') ctv) L' fn),fx.base,fx.stk,(aK qual scope fn c').env ⟨A,fx.base,fx.stk,fx.stk,g,L',L',clos,fx.os⟩::fx.stk,g,L',L',clos,fx.os⟩
 have gd:N7 fx' g:=⟨fun _ e=>e,fun b o e=>⟨o.slots,e⟩,fun b o e=>st b o (m.gd.stays b o e),FF⟩
 have cx:Cx w (aK qual scope fn c') fx' n:=⟨ok,Around.frames_deeper hfr,.inr ⟨rfl,rfl⟩,c.K,by show A.depth+1+n≤990;exact Hw hroom,hgd⟩
 have sat:Sat' (aK qual scope fn c') fx' [] H { s with heap:=h₁,toks:=s.toks+([]:List (Str×Value)).length } ⟨g,gd,_⟩ news:=
  ⟨⟨hns,fun b o e=>hk₁ b o (of_hideAll _ e),Nat.le_of_eq (hideAll_size _ _)⟩,fun p hp=>⟨hk₁ _ _ (S.nw p hp).1,Nat.ne_of_lt (Heap.lt_size (S.nw p hp).1),hideAll_none _ (List.mem_map_of_mem hp)⟩,⟨rfl,fun x v hm=>by cases hm⟩,S.items,S.keys,S.nodup,S.gens,S.os⟩
 refine oA (h fx' cx hh rfl rfl rfl) fun hb hx=>?_
 have bk:∀ {s':Shared}{H':AH}{ρ':b0},Sat (aK qual scope fn c') fx' ρ' H' s'→Sat f fx ρ H' s':=fun⟨m',news',S'⟩=>by
  refine bP (S.fr.ns) fun oL es ep hLs r=>?_
  exact S.back (fx':=fx') st ⟨oL,hLs,hideAll_get _ hLs fun q=>by
   refine f9 (List.mem_map.mp q) fun p hp e=>?_
   exact(S.nw p hp).2.1 e⟩ rfl rfl S'
 refine b6 (hb _ ⟨_,news,sat⟩) (fun v s' hq=>?_) fun e s' hq=>?_
 ·obtain⟨b,ρ',H',r,S',q⟩:=hq
  exact⟨b,H',r,bk S',q⟩
 ·exact b6 (hx e s' hq) (fun _ s'' ⟨b,ρ',H',r,S',q⟩=>⟨b,H',r,bk S',q⟩) fun e' s'' ⟨b,ρ',H',r,S',q⟩=>⟨b,H',r,bk S',q⟩
end
end
section
open Sem (wp)
theorem slot_bexc_repr:Slot "BaseException" "__repr__" "BaseException.__repr__":=
 .of (owner:= "BaseException") (n:= "__repr__") (by rw[typeLookup_type,builtinLookup_eq_fast];kernel_rfl) (by decide +kernel) (by decide +kernel) (by decide +kernel)
  (by exact .inl (by decide +kernel)) (by rw[isSubtype_type];kernel_rfl)
theorem rU:builtinKind "BaseException.__repr__" = some .slot∧splitId "BaseException.__repr__" = some ("BaseException", "__repr__"):=⟨by decide +kernel,by decide +kernel⟩
noncomputable def pE(P:Params) (C:Addr) (nm:String):Bool:=(findIn (KG P) (.ref C) "__repr__" == some (some (.builtin "BaseException.__repr__"))) && (subIn (KG P) (.ref C) (.type "BaseException") == some true) &&
 (match(KG P).lookup C with |some ⟨_,_,.cls cd,_⟩=>cd.name.toString == nm |_=>false) && decide ((excReprHead nm).length≤1000)
section
variable{w:World}{f:FI}{fx:Fx}{X:AV→b0→AH→Prop}{ρ:b0}{H:AH}{n:Nat}
theorem dQ{e C t:Addr}{d:Option Addr}{tb:AV}{x:Str}{nm:String}{Q:AV→b0→AH→Prop}(c:Cx w f fx n) (hu:fx.A.units<100) (hi:In1 e (.exc C d t tb) H) (hti:In1 t (.tup [.str x]) H) (ho:pE w.params C nm=true) (hx:G0 x)
  (h:Q (.str (excReprHead nm++Str.ofString "("++reprText x++Str.ofString ")")) ρ H):E4 w f fx X "repr" [.ref e] ρ H Q:=by
 refine y8 ?_
 rintro s ⟨m,news,S⟩
 have KH:=S.KH c
 refine g4 (S.excAt hi) fun o tbv v2 v3 v4 v5 k1 k2 k3 k4 k5=>?_
 refine p8 (S.tupAt hti) fun vs ot r1 q1 q2=>?_
 cases r1 with
 | cons r1 r2=>
 cases r2
 obtain⟨_,rfl⟩:=Rep.inv r1
 rename_i tk
 have he:=S.freed k1
 have t1:Looks (model pw w) s.heap (typeOf (.ref e)) (.ref C):=by
  have:Looks (model pw w) s.heap (typeOf (.ref e)) o.cls:=(Looks.ld he).andThen .now
  rwa [k3] at this
 simp only[pE,Bool.and_eq_true,beq_iff_eq] at ho
 refine oA (ho) fun zq1 o4=>?_;refine oA (zq1) fun zq2 o3=>?_;refine oA (zq2) fun o1 o2=>?_
 have o4:=of_decide_eq_true o4
 split at o3
 rotate_left
 ·cases o3
 rename_i cc cdict cd csl hC
 have hnm:=beq_iff_eq.mp o3
 have hcl:=KH _ _ hC
 have hcu:fx.A.units+10<cLine:=by
  have:(110:Nat)<cLine:=by decide
  exact LJ this hu
 have L1:=looks_findIn (M:=model pw w) KH o1
 have L2:=looks_subIn (M:=model pw w) KH o2
 have spec:∀ {A:Around}{E:Value→Shared→Prop}{Q:Option Value→Shared→Prop},Q (some (.builtin "BaseException.__repr__")) s→wpAny (model pw w) A (specialOf (.ref e) "__repr__") Q E s:=fun hq=>by
  unfold specialOf
  exact wpAny_bind (t1.here (L1.here hq))
 have chk:∀ {A:Around}{E:Value→Shared→Prop}{Q:Unit→Shared→Prop},Q () s→wpAny (model pw w) A (checkBuiltinCall "BaseException.__repr__" ⟨[.ref e],[]⟩) Q E s:=fun hq=>by
  simp only[checkBuiltinCall,rU.1,rU.2]
  unfold isInstance
  refine wpAny_bind (wpAny_bind (t1.here (L2.here ?_)))
  refine bm_if_false rfl ?_
  have ha:=PySem.F.args_bexc_repr (.ref e)
  cases hsig:Manifest.signature? "BaseException.__repr__" with
  | none=>exact wpAny_pure hq
  | some sig=>
   simp only[argsOk,hsig] at ha
   have h2:Bind.checkArgs "BaseException.__repr__" sig ⟨[.ref e],[]⟩=pure ():=ha
   refine(?_:wpAny _ _ (Bind.checkArgs "BaseException.__repr__" sig ⟨[.ref e],[]⟩) _ _ s)
   rw[h2];exact wpAny_pure hq
 have hz:(excReprHead nm++ "("++reprText x++ ")").length≤sizeLine:=by
  have h1:=PySem.StrLaws.reprText_len x (fun ch hc=>Nat.lt_of_lt_of_le (hx.2 ch hc) (by decide))
  have h2:=hx.1
  have e1:(Str.ofString "(").length=1:=by decide
  have e2:(Str.ofString ")").length=1:=by decide
  rw[j0,j0,j0,e1,e2,sizeLine_eq]
  exact Lh h1 h2 o4
 have body:∀ {A:Around}{E:Value→Shared→Prop}{Q:Fin→Shared→Prop},Q (.done (.ret (.str (excReprHead nm++ "("++reprText x++ ")") (s.toks+1)))) { s with toks:=s.toks+1+1 }→wpAny (model pw w) A (Builtin.«BaseException.__repr__» ⟨[.ref e],[]⟩) Q E s:=fun hq=>by
  have e1:0+(excReprHead nm++Str.ofString "("++reprText x++Str.ofString ")").length≤sizeLine:=by rw[Nat.zero_add];exact hz
  rw[j0,j0,j0] at e1
  have eP:(Str.ofString "(").length=1:=by decide
  rw[eP] at e1
  have hsz1:(reprText x).length≤sizeLine:=by exact Kn e1
  have hsz2:(Str.ofString ((nm.cutAt '.').getLastD "")++Str.ofString "("++reprText x++Str.ofString ")").length≤sizeLine:=hz
  have hpile:0+((Str.ofString ((nm.cutAt '.').getLastD "")).length+1)≤sizeLine:=by
   refine(?_:0+((excReprHead nm).length+1)≤sizeLine)
   exact Km e1
  have nameOf:∀ {A:Around}{E:Value→Shared→Prop}{Q:String→Shared→Prop},Q nm s→wpAny (model pw w) A (typeNameOfWhole (.ref e)) Q E s:=fun hq=>by
   unfold typeNameOfWhole shownTypeOf
   refine wpAny_bind (wpAny_bind (t1.here ?_))
   refine bm_if_false rfl ?_
   refine wpAny_pure ?_
   unfold typeNameWhole classData
   refine wpAny_bind (wpAny_bind (wpAny_load hcl (wpAny_pure (wpAny_pure ?_))))
   rw[hnm];exact hq
  have argsOf:∀ {A:Around}{E:Value→Shared→Prop}{Q:Value×List Value→Shared→Prop},Q (.ref t,[.str x tk]) s→wpAny (model pw w) A (Builtin.BaseException.bexcArgs (.ref e)) Q E s:=fun hq=>by
   refine pK (q2) fun ot' hto htc k htd=>?_
   unfold Builtin.BaseException.bexcArgs
   refine wpAny_bind (wpAny_field (x:=.ref t) he k5 rfl (wpAny_bind (wpAny_seqItems hto htd ?_)))
   exact wpAny_pure hq
  unfold Builtin.«BaseException.__repr__» Builtin.bexcReprAt
  repeat (first |with_reducible refine nameOf ?_ |with_reducible refine argsOf ?_ |rw[pyReprUnder_leaf (v:=.str x tk) hpile (by intro a;nofun)] |with_reducible refine wpAny_pyRepr_str ?_ |wp_step)
  exact hq
 refine a6 (Calls.call_function_entry PySem.F.kind_repr PySem.F.plain_repr PySem.F.entry_repr (PySem.F.args_repr1 _) ?_)
 unfold Builtin.«repr»
 refine wpAny_bind (m:=oneArg "repr" _) (wpAny_pure ?_)
 refine wpAny_bind (wpAny_cRoomFor (by show fx.A.units+1<cLine;exact LL hcu) ?_)
 refine wpAny_bind (spec ?_)
 refine bm_if_false rfl ?_
 dsimp only
 have call1:∀ {A:Around}{E:Value→Shared→Prop}{Q:Value→Shared→Prop},Q (.str (excReprHead nm++ "("++reprText x++ ")") (s.toks+1)) { s with toks:=s.toks+1+1 }→wpAny (model pw w) A (call (.builtin "BaseException.__repr__") [.ref e]) Q E s:=fun hq=>
  wpAny_call (codeAny_call_builtin slot_bexc_repr.plain PySem.F.entry_bexc_repr (chk (body hq)))
 have spc:∀ {A:Around}{E:Value→Shared→Prop}{Q:Option Value→Shared→Prop},Q (some (.str (excReprHead nm++ "("++reprText x++ ")") (s.toks+1))) { s with toks:=s.toks+1+1 }→wpAny (model pw w) A (callSpecialIfBound? (.ref e) "__repr__") Q E s:=fun{A E Q} hq=>by
  simp only[callSpecialIfBound?,bindSpecialIfBound?]
  refine wpAny_holding (wpAny_bind (wpAny_bind (spec ?_)))
  simp only[slot_bexc_repr.bind]
  refine wpAny_bind (wpAny_askSetting (wpAny_ite ?_))
  have fin:wpAny (model pw w) A (call (.builtin "BaseException.__repr__") ([.ref e]++[]) >>= fun v=>pure (some v)) Q E s:=wpAny_bind (call1 (wpAny_pure hq))
  split
  ·exact wpAny_bind (wpAny_pure (wpAny_pure fin))
  ·exact wpAny_tryCatch (wpAny_bind (wpAny_pure (wpAny_pure fin)))
 refine wpAny_bind (spc ?_)
 dsimp only
 refine wpAny_bind (wpAny_isInstance (T:= "str") (b:=true) rfl isSubtype_str_str ?_)
 refine bm_if_true rfl ?_
 exact wpAny_pure ⟨_,rfl,_,ρ,H,.str _ _,⟨m,news,S.toks _⟩,h⟩
end
end
noncomputable def pF(w:World) (act:Addr) (H:AH):Prop:=∃P:Heap→Prop,(∀h,P h→∃k,(k=Keeper.frame∨k=Keeper.machine∨k=Keeper.boundFrame)∧Looks (model pw w) h (keeperOf (.ref act)) k)∧∀(f:FI) (fx:Fx) (ρ:b0) (n:Nat) (s:Shared),Cx w f fx n→Sat f fx ρ H s→P s.heap
theorem cL{w:World}{H:AH}{g c':Addr}{name qual:Str}{params:Arguments}{body:Expr}{scope:Scope}{clos:List (Str×Addr)}{pm ctv:Value}(hi:In1 g (.raw (kla_obj name qual params body scope clos pm c' ctv)) H):pF w g H:=
 ⟨fun h=>h.get? g=some (kla_obj name qual params body scope clos pm c' ctv),fun h e=>⟨.frame,.inl rfl,(Looks.ld (part:=none) e).andThen .now⟩,fun f fx ρ n s c ⟨m,news,S⟩=>by
  refine f9 (S.items _ hi.mem) fun o h1 h2=>?_
  cases h2
  exact S.freed h1⟩
theorem pG{w:World}{H:AH}{q g:Addr}{self:Value}(hi:In1 q (.raw (methodObj (.ref g) self)) H) (hf:fnIn (KG w.params) g=true):pF w q H:=
 ⟨MethP (KG w.params) q g self,keeps_M hf,fun f fx ρ n s c ⟨m,news,S⟩=>by
  refine f9 (S.items _ hi.mem) fun o h1 h2=>?_
  cases h2
  exact⟨S.freed h1,S.KH c⟩⟩
theorem C2{w:World}{act:Addr}{k:Nat}{H:AH}{XR:Addr→Addr→Option Addr→Addr→AH→Prop}(hc:pF w act H) (hs:c6 w k act [] H (XO XR) (fun _ _=>False)) (hcatch:∀e C d t R,XR e C d t R→M0 w.params 39 C=true) {Q:AV→AH→Prop}(hq:∀e C d t T R,XR e C d t R→Q (.ref e) ((e,.exc C d t (.ref T))::(T,.tb none)::R)):c6 w (k+1) 1722 [.ref act] H (fun _ _=>False) Q:=by
 refine f6 (X:=fun fx=>XB fx.L (fun _ _ _ _ _=>False)) (d:=d1722) (dv:=[]) (CS _) [] .nil rfl (Aq _) (vJ) (fun fx c hh hst hfr=>⟨?_,fun _ _ ⟨_,_,_,_,_,_,_,_,_,_,_,_,z⟩=>z.elim⟩)
 refine f9 (hc) fun P hk hP=>?_
 refine b8 ?_
 refine bD (XR:=XR) (ρ₀:=[("act",some (.ref act)),("error",none)]) c hh hst hfr (List.cons_ne_nil _ _) (f7 (by law_side)) (by kernel_rfl) (by kernel_rfl) ?_ hcatch (fun e C d t T R h=>?_) (fun ρ₂ hρ=>?_)
 ·refine b8 ?_
  refine dG ?_ (by kernel_rfl) (by kernel_rfl)
  refine Bf c.ok (by law_side) rfl hk (fun s S=>hP _ _ _ _ s c S) ?_
  exact Z4 c hh hs (Nat.le_refl _) (.refl _) (fun _ _ _ _ _ h=>h) (fun v H' hq=>hq.elim)
 ·refine⟨_,by da_tab,?_⟩
  have c':=c.mark (e:=e)
  refine b8 ?_
  refine' w8 ?_
  refine' zp ?_
  refine' n9 ?_
  refine'⟨_,by da_tab,?_⟩
  refine' n9 ?_
  exact hq e C d t T R h
 ·exact oH (by rw[hρ];exact .tail _ (.head _))
theorem Eg(P:Params):∀C∈([179,64,255,198,100,217,136]:List Addr),M0 P 39 C=true∧(∃gI,I8 P C gI=true)∧∃nm,pE P C nm=true:=by
 intro C hC
 rcases List.mem_cons.mp hC with rfl |hC
 ·exact⟨by kernel_rfl,⟨176,by kernel_rfl⟩,⟨"BadCheck",by kernel_rfl⟩⟩
 rcases List.mem_cons.mp hC with rfl |hC
 ·exact⟨by kernel_rfl,⟨36,by kernel_rfl⟩,⟨"BadBlock",by kernel_rfl⟩⟩
 rcases List.mem_cons.mp hC with rfl |hC
 ·exact⟨by kernel_rfl,⟨252,by kernel_rfl⟩,⟨"TooLarge",by kernel_rfl⟩⟩
 rcases List.mem_cons.mp hC with rfl |hC
 ·exact⟨by kernel_rfl,⟨195,by kernel_rfl⟩,⟨"BadSize",by kernel_rfl⟩⟩
 rcases List.mem_cons.mp hC with rfl |hC
 ·exact⟨by kernel_rfl,⟨36,by kernel_rfl⟩,⟨"BadHeader",by kernel_rfl⟩⟩
 rcases List.mem_cons.mp hC with rfl |hC
 ·exact⟨by kernel_rfl,⟨214,by kernel_rfl⟩,⟨"NeedsDictionary",by kernel_rfl⟩⟩
 rcases List.mem_cons.mp hC with rfl |hC
 ·exact⟨by kernel_rfl,⟨36,by kernel_rfl⟩,⟨"Trailing",by kernel_rfl⟩⟩
 cases hC
noncomputable abbrev rL(purse many turn text ck begun kind right first again last:Option AV):b0:=[("script",some (.ref 1730)),("purse",purse),("many",many),("turn",turn),("text",text),("is_checked",ck),("begun",begun),("kind",kind),("right",right),("first",first),("again",again),("last",last)]
noncomputable abbrev LG(so:Obj) (pu:Addr) (g m:Int) (p t r d:Addr) (n:Int) (L:Addr) (oc:Option AV):AH:=[(pu,.list [.int g,.int m]),(p,.ba []),(t,.ba []),(r,.inst 1646 d),(d,t7 p t n .none .none (.bool false)),(1730,.raw so),(L+3,.cell none),(L+2,.cell (some (.ref r))),(L+1,.cell oc),(1724,.raw (tabObj #[]))]
theorem Hl{α:Type}{a b c d e:α}{l l':List α}(h:DelN [a,b,c,d,e] l l'):l.Perm (a::b::c::d::e::l'):=h.perm
theorem C3{w:World}{f:FI}{fx:Fx}{X:AV→b0→AH→Prop}{a:Addr}{vs:List AV}{ρ:b0}{H H':AH}{Q:AV→b0→AH→Prop}(hp:H.Perm H') (h:w3 w f fx X a vs ρ H' Q):w3 w f fx X a vs ρ H Q:=fun cvs hv=>u0 hp (h cvs hv)
noncomputable abbrev fi1729:FI:=d1729.fiC ["script", "purse", "many", "turn", "text", "is_checked", "begun", "kind", "right", "first", "again", "last"]
theorem Gh{α β:Type}{w:World}{f:FI}{fx:Fx}{X:AV→b0→AH→Prop}{rep:β→α→Prop}{t:Sem α}{ρ:b0}{H:AH}{Q:β→b0→AH→Prop}(h:Tr w f fx X rep t ρ H fun b ρ' H'=>∃H₁ H₂,H'.Perm H₁∧H₂.Sublist H₁∧Q b ρ' H₂):Tr w f fx X rep t ρ H Q:=fun s S=>
 b6 (h s S) (fun v s' ⟨b,ρ',H',r,S',H₁,H₂,hp,hs,q⟩=>⟨b,ρ',H₂,r,(S'.perm hp).sub (fun p hp=>hs.subset hp) (by obtain⟨_,_,S2⟩:=S'.perm hp;exact S2.keys.sublist (hs.map _)),q⟩) fun _ _ x=>x
theorem Hm{α:Type}{a b c d e f:α}{l l':List α}(h:DelN [a,b,c,d,e,f] l l'):l.Perm (a::b::c::d::e::f::l'):=h.perm
noncomputable abbrev LE(e C d0 t' T:Addr) (x:Str) (ks:List Str) (r d p t:Addr) (n:Int) (st hd cl:AV) (R:AH):AH:=(e,.exc C (some d0) t' (.ref T))::(T,.tb none)::(d0,.ns ks)::(t',.tup [.str x])::(r,.inst 1646 d)::(d,El p t n st hd cl e)::R
theorem yN{α:Type}{ps l:List α}(h:DelN ps l []):l.Perm ps:=by have:=h.perm;rwa [List.append_nil] at this
theorem pH{pos:Pos}{c:Value}{ps:Array Value}(h:TriplesOk ps.toList) (hn:codeAmong pos ps.toList=none):TriplesOk (ps++ #[rawInt pos.line,rawInt pos.col,c]).toList∧codeAmong pos (ps++ #[rawInt pos.line,rawInt pos.col,c]).toList=some c:=by
 rw[Array.toList_append]
 exact⟨TriplesOk_snoc _ _ _ _ h,codeAmong_snoc _ h hn⟩
noncomputable abbrev pI:Str:=d1729.qual++ ".<locals>."++ "<lambda>"
noncomputable abbrev rV(x y:Str):Scope:=⟨.function,[(x,.free),(y,.free)],false,false,[]⟩
noncomputable def IP(so:Obj):AF→b0→AH→Prop:=fun fl _ H'=>(match fl with | .ret v=>v |_=>.none)=.bool true∧In1 1730 (.raw so) H'∧∃ps,In1 1724 (.raw (tabObj ps)) H'
noncomputable abbrev aL(x y m:Str) (p1 p2 p3 p4:Pos):Expr:=.Call (.Attribute (.Name x p1) m p2) [.Name y p3] [] p4
theorem wQ{w:World}{fn c2 r d cR cY:Addr}{pm ctv:Value}{oc2:Obj}{clos:List (Str×Addr)}{oct:List UInt8}{fs:List (Str×AV)}{H:AH}{XR:Addr→Addr→Option Addr→Addr→AH→Prop}
  (hi:In1 fn (.raw (kla_obj "<lambda>" pI ⟨[],[],none,[],[],none,[]⟩ (aL "reader" "octets" "feed" ⟨1220,37,1220,43⟩ ⟨1220,37,1220,48⟩ ⟨1220,49,1220,55⟩ ⟨1220,37,1220,56⟩) (rV "octets" "reader") clos pm c2 ctv)) H) (hic:In1 c2 (.raw oc2) H) (hoc:∃vs t,oc2.data=.fields vs∧vs[1]?=some (.str pI t))
  (hl1:clos.lookup ("reader":Str)=some cR) (hl2:clos.lookup ("octets":Str)=some cY)
  (h1:In1 cR (.cell (some (.ref r))) H) (h2:In1 cY (.cell (some (.bytes oct))) H) (h3:In1 r (.inst 1646 d) H) (h4:In1 d (.dict fs) H) (h5:(fs.map (·.1)).contains ("feed":Str)=false) (hs:c6 w 12 1594 [.ref r,.bytes oct] H (XO XR) (fun _ _=>False)):c6 w 13 fn [] H (XO XR) (fun _ _=>False):=by
 refine rT (n:=12) (X:=fun fx=>XB fx.L XR) (FI.ok_of (by kernel_rfl)) hi hic hoc (by rfl) (yA (by kernel_rfl)) rfl rfl (fun fx c hh hst hfr hcl=>⟨?_,j2 c hst hfr⟩)
 refine b9 ?_
 refine dI c.ok (by kernel_rfl) (by rw[hcl];exact hl1) h1 rfl rfl ?_
 refine nE c h3 h4 (eL (by law_side)) h5 ?_ (by rfl) (by intro _;rfl)
 refine a8 ?_
 refine dI c.ok (by kernel_rfl) (by rw[hcl];exact hl2) h2 rfl rfl ?_
 refine g7 ?_
 exact s0 c hh hs (by decide) (.refl _) (fun _ _ _ _ _ h=>h) (fun v H' hq=>hq.elim)
theorem Bh{w:World}{fn c2 r d cR cY:Addr}{pm ctv:Value}{oc2:Obj}{clos:List (Str×Addr)}{oct:List UInt8}{fs:List (Str×AV)}{H:AH}{XR:Addr→Addr→Option Addr→Addr→AH→Prop}
  (hi:In1 fn (.raw (kla_obj "<lambda>" pI ⟨[],[],none,[],[],none,[]⟩ (aL "reader" "wrong" "feed" ⟨1216,33,1216,39⟩ ⟨1216,33,1216,44⟩ ⟨1216,45,1216,50⟩ ⟨1216,33,1216,51⟩) (rV "reader" "wrong") clos pm c2 ctv)) H) (hic:In1 c2 (.raw oc2) H) (hoc:∃vs t,oc2.data=.fields vs∧vs[1]?=some (.str pI t))
  (hl1:clos.lookup ("reader":Str)=some cR) (hl2:clos.lookup ("wrong":Str)=some cY)
  (h1:In1 cR (.cell (some (.ref r))) H) (h2:In1 cY (.cell (some (.bytes oct))) H) (h3:In1 r (.inst 1646 d) H) (h4:In1 d (.dict fs) H) (h5:(fs.map (·.1)).contains ("feed":Str)=false) (hs:c6 w 12 1594 [.ref r,.bytes oct] H (XO XR) (fun _ _=>False)):c6 w 13 fn [] H (XO XR) (fun _ _=>False):=by
 refine rT (n:=12) (X:=fun fx=>XB fx.L XR) (FI.ok_of (by kernel_rfl)) hi hic hoc (by rfl) (yA (by kernel_rfl)) rfl rfl (fun fx c hh hst hfr hcl=>⟨?_,j2 c hst hfr⟩)
 refine b9 ?_
 refine dI c.ok (by kernel_rfl) (by rw[hcl];exact hl1) h1 rfl rfl ?_
 refine nE c h3 h4 (eL (by law_side)) h5 ?_ (by rfl) (by intro _;rfl)
 refine a8 ?_
 refine dI c.ok (by kernel_rfl) (by rw[hcl];exact hl2) h2 rfl rfl ?_
 refine g7 ?_
 exact s0 c hh hs (by decide) (.refl _) (fun _ _ _ _ _ h=>h) (fun v H' hq=>hq.elim)
theorem Bi{w:World}{A:Around}{base:Heap}{outer stk:List Env}{h₀:Heap}{L frame:Addr}{os:OsState}{pu:Addr}{g m many:Int}{r d p t e C d0 t' T gI c1:Addr}{x:Str}{ks:List Str}{n:Int}{st hd cl:AV}{nm:String}{wrong right:List UInt8}{tu tx ck be ki:Option AV}{oc:Option AV}{so:Obj}{R3:AH}
  (c:Cx w fi1729 ⟨A,base,outer,stk,h₀,L,frame,d1729.cellsC L,os⟩ 15) (hh:A.handled=none) (hun:A.units≤53) (hx:G0 x) (ho:I8 w.params C gI=true) (hc:M0 w.params 39 C=true) (hr:pE w.params C nm=true) (hg:0≤g) (hm:0≤m) (hm2:m<2 ^ 29) (hrl:right.length≤100) (hwl:wrong.length≤100) :
  Ex w fi1729 ⟨A,base,outer,stk,h₀,L,frame,d1729.cellsC L,os⟩ (fun _ _ _=>False) ((j5 d1729.stmt).drop 7) (rL (some (.ref pu)) (some (.int many)) tu tx ck be ki (some (.bytes right)) (some (.ref e)) none none)
   (LE e C d0 t' T x ks r d p t n st hd cl ((1724,.raw (tabObj #[rawInt 1216,rawInt 25,.ref c1]))::(L+3,.cell (some (.bytes wrong)))::(L+2,.cell (some (.ref r)))::(pu,.list [.int g,.int m])::(L+1,.cell oc)::(1730,.raw so)::R3))
   (IP so):=by
 refine b8 ?_
 refine cD c hh ?_ (by intro _;rfl) (fun _ _=>rfl)
 refine Gh ?_
 refine w9 ?_
 refine a8 ?_
 refine m7 c.ok (by law_side) rfl ?_
 refine a8 ?_
 refine pZ ?_
 refine a8 ?_
 refine i9 ?_
 refine p0 c (f7 (by law_side)) (by kernel_rfl) rfl (by kernel_rfl) ?_ (by rfl) (by rfl)
 refine a8 ?_
 refine m7 c.ok (by law_side) rfl ?_
 refine g7 ?_
 refine C3 (iX (a:=(pu,.list [.int g,.int m])) (by da_tab)) ?_
 refine a9 c hh (by kernel_rfl) (Q0 hg hm hm2 (fun tp made text ck' g1 m1 hg1 hm1a hm1b hne hml htl hpath=>?_))
 refine u1 ?_
 refine xW (xs:=[.bytes made,.bytes text,.bool ck']) .here (by decide) (by simp) (by simp) rfl ?_
 refine a8 ?_
 refine c4 ?_
 refine m7 c.ok (by law_side) rfl ?_
 refine t9 c.ok (by kernel_rfl) (c:=L+3) (by rfl) (by law_side) rfl ?_
 refine r5 (by exact Mv hwl hrl) ?_
 refine g7 ?_
 refine⟨by simp,fun l=>?_⟩
 refine⟨_,(e,.exc C (some d0) t' (.ref T))::(T,.tb none)::(d0,.ns ks)::(t',.tup [.str x])::(r,.inst 1646 d)::(d,El p t n st hd cl e)::[(l,.list [.bytes right,.bytes [],.bytes made,.bytes (right++wrong)]),(1724,.raw (tabObj #[rawInt 1216,rawInt 25,.ref c1])),(L+2,.cell (some (.ref r))),(L+1,.cell oc),(1730,.raw so)],
  Hm (a:=(e,.exc C (some d0) t' (.ref T))) (b:=(T,.tb none)) (c:=(d0,.ns ks)) (d:=(t',.tup [.str x])) (e:=(r,.inst 1646 d)) (f:=(d,El p t n st hd cl e)) (by da_tab),by law_side,?_⟩
 refine⟨l,[.bytes right,.bytes [],.bytes made,.bytes (right++wrong)],fun i ρ G=>∃(T:Addr) (oc ag:Option AV) (ex:AH) (ps:Array Value),ρ=rL (some (.ref pu)) (some (.int many)) tu tx ck be ki (some (.bytes right)) (some (.ref e)) ag none∧TriplesOk ps.toList∧((codeAmong ⟨1220,29,1220,56⟩ ps.toList=none∧ex=[])∨∃c2 oc2,codeAmong ⟨1220,29,1220,56⟩ ps.toList=some (.ref c2)∧ex=[(c2,.raw oc2)]∧∃vs t,oc2.data=.fields vs∧vs[1]?=some (.str pI t))∧
  G=LE e C d0 t' T x ks r d p t n st hd cl (ex++[(l,.list [.bytes right,.bytes [],.bytes made,.bytes (right++wrong)]),(1724,.raw (tabObj ps)),(L+2,.cell (some (.ref r))),(L+1,.cell oc),(1730,.raw so)]),rfl,⟨T,oc,none,[], #[rawInt 1216,rawInt 25,.ref c1],rfl,trivial,.inl ⟨by kernel_rfl,rfl⟩,rfl⟩,?_,?_,?_⟩
 ·intro i ρ G hz90;refine aP (hz90) fun T oc ag ex ps zq1 hps hex zq2=>?_;clear hz90;subst zq1;subst zq2
  rcases hex with ⟨-,rfl⟩ | ⟨c2,oc2, -,rfl, -⟩
  ·dsimp only[List.cons_append,List.nil_append]
   law_side
  ·dsimp only[List.cons_append,List.nil_append]
   law_side
 ·intro i ρ G I o hi hz90;refine aP (hz90) fun T oc ag ex ps zq1 hps hex zq2=>?_;clear hz90;subst zq1;subst zq2
  obtain⟨oct,hoct⟩:∃oct,([.bytes right,.bytes [],.bytes made,.bytes (right++wrong)]:List AV).getD i .none=.bytes oct:=by
   match i,hi with
   | 0,_=>exact⟨_,rfl⟩
   | 1,_=>exact⟨_,rfl⟩
   | 2,_=>exact⟨_,rfl⟩
   | 3,_=>exact⟨_,rfl⟩
   | i+4,hi=>simp at hi;lia
  rw[hoct]
  generalize hxs:([.bytes right,.bytes [],.bytes made,.bytes (right++wrong)]:List AV)=xs at *
  obtain⟨NF,hNF⟩:∃NF:Addr→Obj→Addr→Obj→Array Value→AH,NF=fun fn fo c2 oc2 ps2=>LE e C d0 t' T x ks r d p t n st hd cl [(fn,.raw fo),(c2,.raw oc2),(I,.raw o),(l,.list xs),(1724,.raw (tabObj ps2)),(L+2,.cell (some (.ref r))),(L+1,.cell (some (.bytes oct))),(1730,.raw so)]:=⟨_,rfl⟩
  refine dJ (v₀:=oc) (H':=(I,.raw o)::LE e C d0 t' T x ks r d p t n st hd cl (ex++[(l,.list xs),(1724,.raw (tabObj ps)),(L+2,.cell (some (.ref r))),(L+1,.cell (some (.bytes oct))),(1730,.raw so)])) c.ok (by kernel_rfl) (c:=L+1) (by rfl) ?_ ?_ ?_
  ·rcases hex with ⟨-,rfl⟩ | ⟨c2,oc2, -,rfl, -⟩
   ·dsimp only[List.cons_append,List.nil_append]
    law_side
   ·dsimp only[List.cons_append,List.nil_append]
    law_side
  ·rcases hex with ⟨-,rfl⟩ | ⟨c2,oc2, -,rfl, -⟩
   ·dsimp only[List.cons_append,List.nil_append]
    da_tab
   ·dsimp only[List.cons_append,List.nil_append]
    da_tab
  refine M4 ?_
  refine b8 ?_
  refine m6 c.ok ?_ rfl
  refine p0 c (f7 (by law_side)) (by kernel_rfl) rfl (by kernel_rfl) ?_ (by rfl) (by rfl)
  refine a8 ?_
  refine z7 (Q:=fun v ρ' H'=>ρ'=rL (some (.ref pu)) (some (.int many)) tu tx ck be ki (some (.bytes right)) (some (.ref e)) ag none∧∃fn fo c2 oc2 ps2,v=.ref fn∧H'.Perm (NF fn fo c2 oc2 ps2)∧TriplesOk ps2.toList∧codeAmong ⟨1220,29,1220,56⟩ ps2.toList=some (.ref c2)∧(∃vs t,oc2.data=.fields vs∧vs[1]?=some (.str pI t))∧
   ∃pm ctv,fo=kla_obj "<lambda>" pI ⟨[],[],none,[],[],none,[]⟩ (aL "reader" "octets" "feed" ⟨1220,37,1220,43⟩ ⟨1220,37,1220,48⟩ ⟨1220,49,1220,55⟩ ⟨1220,37,1220,56⟩) (rV "octets" "reader") [("reader",L+2),("octets",L+1)] pm c2 ctv) ?_ ?_
  ·rcases hex with ⟨hnone,rfl⟩ | ⟨c2,oc2,hsome,rfl,hoc2⟩
   ·dsimp only[List.cons_append,List.nil_append]
    refine iY (ps:=ps) (clos:=[("reader",L+2),("octets",L+1)]) c (by kernel_rfl) rfl rfl (by da_tab) hps hnone (fun fn c2 oc2 pm ctv hoc2=>?_)
    generalize hfo:kla_obj "<lambda>" _ _ _ _ _ pm c2 ctv=fo
    refine oA (pH (pos:=⟨1220,29,1220,56⟩) (c:=.ref c2) hps hnone) fun q1 q2=>?_
    refine⟨rfl,fn,fo,c2,oc2,ps++ #[rawInt ((1220:Nat):Int),rawInt ((29:Nat):Int),.ref c2],rfl,?_,q1,q2,hoc2,pm,ctv,hfo.symm⟩
    rw[hNF]
    dsimp only
    exact yN (by da_tab)
   ·dsimp only[List.cons_append,List.nil_append]
    refine iA (ps:=ps) (clos:=[("reader",L+2),("octets",L+1)]) (c':=c2) c (by kernel_rfl) rfl rfl (by law_side) hps hsome (fun fn pm ctv=>?_)
    generalize hfo:kla_obj "<lambda>" _ _ _ _ _ pm c2 ctv=fo
    refine⟨rfl,fn,fo,c2,oc2,ps,rfl,?_,hps,hsome,hoc2,pm,ctv,hfo.symm⟩
    rw[hNF]
    dsimp only
    exact yN (by da_tab)
  ·intro v ρ' H' hz90;obtain⟨zq1,fn,fo,c2,oc2,ps2,zq2,hperm,hps2,hsome2,hoc2,pm,ctv,zq3⟩:=hz90;subst zq1;subst zq2;subst zq3
   refine g7 ?_
   refine C3 hperm ?_
   rw[hNF]
   dsimp only
   refine a9 c hh (by kernel_rfl) (C2 (k:=13) (cL (by law_side)) (wQ (cR:=L+2) (cY:=L+1) (by law_side) (by law_side) hoc2 rfl rfl (by law_side) (by law_side) (by law_side) (by law_side) (by kernel_rfl) (wI ho hx)) (fun e' C' dd t'' R' h=>by rw[h.2.1];exact hc) (fun e' C' dd t'' T2 R' hz=>?_))
   refine bO (hz) fun zq1 zq2 zq3 zq4 zq5=>?_;subst zq1;subst zq2;subst zq3;subst zq4;subst zq5
   refine⟨_,by da_tab,?_⟩
   refine b8 ?_
   refine' B5 ?_
   refine' v8 ?_
   refine' M7 ?_
   refine' d6 rfl ?_
   refine' zp ?_
   refine' zp ?_
   refine' i8 (by exact E7 _) ?_
   refine' zF ?_
   refine' M7 ?_
   refine' d6 rfl ?_
   refine' zb ?_
   refine' za ?_
   refine dQ c (by show A.units<100;exact EB hun) .here (by law_side) hr hx ?_
   refine' zb ?_
   refine' za ?_
   refine dQ c (by show A.units<100;exact EB hun) .here (by law_side) hr hx ?_
   refine' DD ?_
   refine x3 (bne_self_eq_false _) ?_
   refine' I9 ?_
   refine' c7 ?_
   refine' f8 ?_
   refine⟨LE e' C' d0 t'' T2 x ks r d p t n st hd cl [(c2,.raw oc2),(I,.raw o),(l,.list xs),(1724,.raw (tabObj ps2)),(L+2,.cell (some (.ref r))),(L+1,.cell (some (.bytes oct))),(1730,.raw so)],by law_side,.inl rfl,LE e' C' d0 t'' T2 x ks r d p t n st hd cl [(c2,.raw oc2),(l,.list xs),(1724,.raw (tabObj ps2)),(L+2,.cell (some (.ref r))),(L+1,.cell (some (.bytes oct))),(1730,.raw so)],by da_tab,T2,some (.bytes oct),some (.ref e'),[(c2,.raw oc2)],ps2,rfl,hps2,.inr ⟨c2,oc2,hsome2,rfl,hoc2⟩,rfl⟩
 ·intro ρ G hz90;refine aP (hz90) fun T oc ag ex ps zq1 hps hex zq2=>?_;clear hz90;subst zq1;subst zq2
  refine J2 (H':=LE e C d0 t' T x ks r d p t n st hd cl [(1724,.raw (tabObj ps)),(L+2,.cell (some (.ref r))),(1730,.raw so)]) (by
   rcases hex with ⟨-,rfl⟩ | ⟨c2,oc2, -,rfl, -⟩
   ·dsimp only[List.cons_append,List.nil_append]
    law_side
   ·dsimp only[List.cons_append,List.nil_append]
    law_side) ?_
  refine b8 ?_
  refine m6 c.ok ?_ rfl
  refine p0 c (f7 (by law_side)) (by kernel_rfl) rfl (by kernel_rfl) ?_ (by rfl) (by rfl)
  refine a8 ?_
  refine d1 ?_
  refine t9 c.ok (by kernel_rfl) (c:=L+2) (by rfl) (by law_side) rfl ?_
  refine Ee (g:=1601) c (by law_side) (by law_side) (by kernel_rfl) (by kernel_rfl) (fun q=>?_)
  refine g7 ?_
  refine C3 (Hm (a:=(e,.exc C (some d0) t' (.ref T))) (b:=(T,.tb none)) (c:=(d0,.ns ks)) (d:=(t',.tup [.str x])) (e:=(r,.inst 1646 d)) (f:=(d,El p t n st hd cl e)) (by da_tab)) ?_
  refine a9 c hh (by kernel_rfl) (C2 (k:=12) (pG (by law_side) (by kernel_rfl)) (Bg (by law_side) (oJ ho hx)) (fun e' C' dd t'' R' h=>by rw[h.2.1];exact hc) (fun e' C' dd t'' T2 R' hz=>?_))
  refine bO (hz) fun zq1 zq2 zq3 zq4 zq5=>?_;subst zq1;subst zq2;subst zq3;subst zq4;subst zq5
  refine⟨_,by da_tab,?_⟩
  refine b8 ?_
  refine w8 ?_
  refine yB ?_
  refine' V6 rfl ?_
  refine' zp ?_
  refine' zp ?_
  refine' g8 (by exact E7 _) ?_
  refine'⟨_,rfl,?_⟩
  refine(?_:Ev _ _ _ _ _ _ _ _)
  refine' V6 rfl ?_
  refine' zb ?_
  refine' za ?_
  refine dQ c (by show A.units<100;exact EB hun) .here (by law_side) hr hx ?_
  refine' zb ?_
  refine' za ?_
  refine dQ c (by show A.units<100;exact EB hun) .here (by law_side) hr hx ?_
  refine' DC ?_
  refine' n9 ?_
  rw[beq_self_eq_true]
  exact⟨rfl,by law_side,_,by law_side⟩
theorem Eh{w:World}{ns:List Int}{so:Obj}{A:Around}{base:Heap}{outer stk:List Env}{h₀:Heap}{L frame:Addr}{os:OsState}{pu:Addr}{g m:Int}{many:Nat}{p t r d:Addr}{oc tu tx ck:Option AV}
  (c:Cx w fi1729 ⟨A,base,outer,stk,h₀,L,frame,d1729.cellsC L,os⟩ 15) (hh:A.handled=none) (hun:A.units≤53) (hso:RepO (.list (ns.map .int)) so) (hl:ns.length≤63) (hm0:ns.length≤1→many=0) (hg:0≤g) (hm:0≤m) (hmb:m≤4000) :
  Ex w fi1729 ⟨A,base,outer,stk,h₀,L,frame,d1729.cellsC L,os⟩ (fun _ _ _=>False) ((j5 d1729.stmt).drop 3) (rL (some (.ref pu)) (some (.int many)) tu tx ck none none none none none none) (LG so pu g m p t r d many L oc)
   (IP so):=by
 have restX:True:=trivial
 refine b8 ?_
 refine g9 hh ?_
 refine z7 (Q:=fun v ρ' H'=>ρ'=rL (some (.ref pu)) (some (.int many)) tu tx ck none none none none none none∧∃(tp:Addr) (begun text wrong right:List UInt8) (C:Addr) (g' m':Int),v=.ref tp∧0≤g'∧0≤m'∧m'≤5000∧right.length≤100∧C∈([179,64,255,198,100,217,136]:List Addr)∧N0 w r d many begun text wrong C∧
  H'=(tp,.tup [.bytes begun,.bytes text,.bytes wrong,.ref C,.bytes right])::LG so pu g' m' p t r d many L oc) ?_ ?_
 ·refine M4 ?_
  refine z8 ?_
  refine d6 rfl ?_
  refine O3 c (f7 (by law_side)) (by kernel_rfl) rfl ?_ (by kernel_rfl) (by kernel_rfl)
  refine a8 ?_
  refine m7 c.ok (by law_side) rfl ?_
  refine g7 ?_
  refine Z7 (xs:=ns.map .int) (by law_side) hso (by rw[List.length_map];exact JQ hl) ?_
  rw[List.length_map]
  refine u1 ?_
  refine N9 ?_
  refine H4 (fun ht=>?_) (fun ht=>?_)
  ·refine p0 c (f7 (by law_side)) (by kernel_rfl) rfl (by kernel_rfl) ?_ (by rfl) (by rfl)
   refine a8 ?_
   refine m7 c.ok (by law_side) rfl ?_
   refine a8 ?_
   refine V6 rfl ?_
   refine m7 c.ok (by law_side) rfl ?_
   refine u1 ?_
   refine T9 ?_
   refine g7 ?_
   refine a9 c hh (by kernel_rfl) (N1 hg hm (by exact Nl hmb) (fun tp begun text wrong right C g' m' hg' hma hmb' hrl hC hsp=>?_))
   refine⟨_,.refl _,rfl,tp,begun,text,wrong,right,C,g',m',rfl,hg',by exact IV hm hma,by exact Lu hmb hmb',hrl,hC,hsp r d many ?_,rfl⟩
   split
   ·rename_i e;exact beq_iff_eq.mp e
   ·rename_i e
    have:¬ (many:Int)=0:=fun q=>e (beq_iff_eq.mpr q)
    exact OJ this
  ·have ht:=of_decide_eq_false ht
   refine p0 c (f7 (by law_side)) (by kernel_rfl) rfl (by kernel_rfl) ?_ (by rfl) (by rfl)
   refine a8 ?_
   refine w9 ?_
   refine a8 ?_
   refine u1 ?_
   refine a8 ?_
   refine u1 ?_
   refine g7 ?_
   refine⟨by decide,fun l2=>?_⟩
   refine a8 ?_
   refine xG ?_
   refine g7 ?_
   refine a9 c hh (by kernel_rfl) (N1 (g:=0) (m:=3) (first:=true) (by decide) (by decide) (by decide) (fun tp begun text wrong right C g' m' hg' hma hmb' hrl hC hsp=>?_))
   have hz:many=0:=hm0 (by exact OK ht)
   exact⟨(tp,.tup [.bytes begun,.bytes text,.bytes wrong,.ref C,.bytes right])::LG so pu g m p t r d many L oc,.cons_cons _ (.cons _ (.refl _)),rfl,tp,begun,text,wrong,right,C,g,m,rfl,hg,hm,by exact Nm hmb,hrl,hC,hsp r d many (by rw[hz];rfl),rfl⟩
 ·intro v ρ' H' hz90;obtain⟨zq1,tp,begun,text,wrong,right,C,g,m,zq2,hg,hm,hmb,hrl,hC,zq3,zq5⟩:=hz90;subst zq1;subst zq2;obtain⟨kp,K₂,B,F,fut,rest,hpath,hends,hfail,hE,hfut,hfl,hw,hk,hbl,htl,hwl⟩:=zq3;subst zq5
  refine IU (Eg w.params C hC) fun hcatch zq1 nm hrep=>?_;refine oE (zq1) fun gI hexc=>?_
  have hwfl:fut.length+rest.length=wrong.length:=by rw[hw,List.length_append]
  have hFl:begun.length+fut.length=B.length+F.length:=by rw[← List.length_append,← List.length_append,hE]
  refine⟨tp,_,rfl,.here,rfl,?_⟩
  refine d8 ?_
  refine D7 c.ok (by da_tab) ?_
  refine d8 ?_
  refine D7 c.ok (by da_tab) ?_
  refine d8 ?_
  refine dJ c.ok (by kernel_rfl) (c:=L+3) (by rfl) (by law_side) (by da_tab) ?_
  refine d8 ?_
  refine D7 c.ok (by da_tab) ?_
  refine d8 ?_
  refine D7 c.ok (by da_tab) ?_
  refine C1 ?_
  refine b8 ?_
  refine B5 ?_
  refine d6 rfl ?_
  refine p0 c (f7 (by law_side)) (by kernel_rfl) rfl (by kernel_rfl) ?_ (by rfl) (by rfl)
  refine a8 ?_
  refine t9 c.ok (by kernel_rfl) (c:=L+2) (by rfl) (by law_side) rfl ?_
  refine a8 ?_
  refine m7 c.ok (by law_side) rfl ?_
  refine a8 ?_
  refine m7 c.ok (by law_side) rfl ?_
  refine g7 ?_
  refine C3 (Hl (a:=(pu,.list [.int g,.int m])) (b:=(p,.ba [])) (c:=(t,.ba [])) (d:=(r,.inst 1646 d)) (e:=(d,t7 p t many .none .none (.bool false))) (by da_tab)) ?_
  refine a9 c hh (by kernel_rfl) (Z9 (fut:=fut) (F:=F) hpath hends hE (.inl hfut) (by exact HD hbl) (by exact HD htl) hg (by assumption) (by exact Nn hmb) hk hfl (rK (.refl _)) (fun pend g2 m2 H2 hpend hg2 hm2a hm2b hS2=>?_))
  obtain⟨p2,t2,n2,st,hd,cl,FL,hK,hperm2⟩:=hS2
  refine u0 (hperm2.cons _) ?_
  refine m7 c.ok (by law_side) rfl ?_
  refine vV ?_
  refine x3 (bne_self_eq_false _) ?_
  refine f8 ?_
  refine b8 ?_
  refine m6 c.ok ?_ rfl
  refine p0 c (f7 (by law_side)) (by kernel_rfl) rfl (by kernel_rfl) ?_ (by rfl) (by rfl)
  refine a8 ?_
  refine u0 (((((List.perm_append_comm.cons _).cons _).cons _).cons _).cons _) ?_
  dsimp only[List.cons_append,List.nil_append]
  refine iY (ps:= #[]) (clos:=[("wrong",L+3),("reader",L+2)]) c (by kernel_rfl) rfl rfl (by da_tab) trivial rfl (fun fn c1 oc1 pm ctv hoc1=>?_)
  rw[show(#[]++ #[rawInt ((⟨1216,25,1216,51⟩:Pos).line:Int),rawInt ((⟨1216,25,1216,51⟩:Pos).col:Int),Value.ref c1]:Array Value)= #[rawInt 1216,rawInt 25,.ref c1] from rfl]
  generalize hfo:kla_obj "<lambda>" _ _ _ _ _ pm c1 ctv=fo
  have hfo2:fo=kla_obj "<lambda>" pI ⟨[],[],none,[],[],none,[]⟩ (aL "reader" "wrong" "feed" ⟨1216,33,1216,39⟩ ⟨1216,33,1216,44⟩ ⟨1216,45,1216,50⟩ ⟨1216,33,1216,51⟩) (rV "reader" "wrong") [("wrong",L+3),("reader",L+2)] pm c1 ctv:=hfo.symm
  clear hfo
  subst hfo2
  obtain⟨fo,hfo⟩:∃fo,fo=kla_obj "<lambda>" pI ⟨[],[],none,[],[],none,[]⟩ (aL "reader" "wrong" "feed" ⟨1216,33,1216,39⟩ ⟨1216,33,1216,44⟩ ⟨1216,45,1216,50⟩ ⟨1216,33,1216,51⟩) (rV "reader" "wrong") [("wrong",L+3),("reader",L+2)] pm c1 ctv:=⟨_,rfl⟩
  rw[← hfo]
  obtain⟨R0,hR0⟩:∃R0:AH,R0=[(fn,.raw fo),(c1,.raw oc1),(1724,.raw (tabObj #[rawInt 1216,rawInt 25,.ref c1])),(pu,.list [.int g2,.int m2]),(tp,.tup [.bytes begun,.bytes text,.bytes wrong,.ref C,.bytes right]),(1730,.raw so),(L+3,.cell (some (.bytes wrong))),(L+2,.cell (some (.ref r))),(L+1,.cell oc)]:=⟨_,rfl⟩
  have hS:y0 r d K₂ R0 pend [] ((fn,.raw fo)::(c1,.raw oc1)::(1724,.raw (tabObj #[rawInt 1216,rawInt 25,.ref c1]))::(pu,.list [.int g2,.int m2])::(p2,.ba pend)::(t2,.ba [])::(r,.inst 1646 d)::(d,t7 p2 t2 n2 st hd cl)::(tp,.tup [.bytes begun,.bytes text,.bytes wrong,.ref C,.bytes right])::(1730,.raw so)::(L+3,.cell (some (.bytes wrong)))::(L+2,.cell (some (.ref r)))::(L+1,.cell oc)::FL):=by
   refine⟨p2,t2,n2,st,hd,cl,FL,hK,?_⟩
   refine List.Perm.trans (z0 (a:=(p2,.ba pend)) (b:=(t2,.ba [])) (c:=(r,.inst 1646 d)) (d:=(d,t7 p2 t2 n2 st hd cl)) (by da_tab)) ?_
   refine List.Perm.cons _ (List.Perm.cons _ (List.Perm.cons _ (List.Perm.cons _ ?_)))
   rw[hR0]
   exact List.perm_append_comm (l₁:=[_,_,_,_,_,_,_,_,_]) (l₂:=FL)
  have hpl:pend.length+fut.length=F.length:=by rw[← List.length_append,hpend]
  refine g7 ?_
  refine a9 c hh (by kernel_rfl) (C2 (k:=13) (XR:=XE r d C R0) (cL (by rw[← hfo];exact .here)) (Bh (cR:=L+2) (cY:=L+3) (by rw[← hfo];exact .here) (by law_side) hoc1 rfl rfl (by law_side) (by law_side) (by law_side) (by law_side) (by kernel_rfl)
   (wH hfail hcatch (rest:=rest) (by rw[hw,← List.append_assoc,hpend]) (by exact RO hFl hpl hbl hwl) (by exact KQ hwfl hwl) hS)) (fun e' C' dd t'' R' h=>by obtain⟨rfl, -⟩:=h;exact hcatch) (fun e C' dd t' T R' hz=>?_))
  obtain⟨rfl,d0,x,ks,p3,t3,n3,st3,hd3,cl3,rfl,hx,hsub⟩:=hz
  refine⟨_,by da_tab,?_⟩
  refine J2 ((hsub.cons_cons _).cons_cons _) ?_
  refine b8 ?_
  refine' B5 ?_
  refine' dK ?_
  refine' q8 rfl ?_
  refine' zb ?_
  refine' za ?_
  refine gT c .here hexc ?_
  refine' zV ?_
  refine' c7 ?_
  refine(?_:Ex _ _ _ _ _ _ _ _)
  rw[hR0]
  refine u0 (DelN.perm (ps:=[(e,.exc C' (some d0) t' (.ref T)),(T,.tb none),(d0,.ns ks),(t',.tup [.str x]),(r,.inst 1646 d),(d,El p3 t3 n3 st3 hd3 cl3 e),(1724,.raw (tabObj #[rawInt 1216,rawInt 25,.ref c1])),(L+3,.cell (some (.bytes wrong))),(L+2,.cell (some (.ref r))),(pu,.list [.int g2,.int m2]),(L+1,.cell oc),(1730,.raw so)]) (by da_tab)) ?_
  exact Bi c hh hun hx hexc hcatch hrep hg2 (by exact IV hm hm2a) (by exact Lv hmb hm2b) hrl hwl
theorem Ei{w:World}{ns:List Int}{so:Obj}(hso:RepO (.list (ns.map .int)) so) (hl:ns.length≤63):∀fx,Cx w fi1729 fx 15→fx.A.handled=none→fx.cells=d1729.cellsC fx.L→fx.A.units≤53→
  Ex w fi1729 fx (fun _ _ _=>False) (j5 d1729.stmt) (rL none none none none none none none none none none none) ((fx.L+3,.cell none)::(fx.L+2,.cell none)::(fx.L+1,.cell none)::[(1724,.raw (tabObj #[])),(1730,.raw so)]) (IP so):=by
 intro fx c hh hcl hun
 rcases fx with ⟨A,base,outer,stk,h₀,L,frame,cells,os⟩
 dsimp only at hcl hh hun ⊢
 subst hcl
 have restX:True:=trivial
 refine b8 ?_
 refine' m6 (Cx.ok (by assumption)) ?_ rfl
 refine' zc ?_
 refine f5 c hh (by kernel_rfl) (iX (by da_tab)) (fT (so:=so) (R:=[(L+3,.cell none),(L+2,.cell none),(L+1,.cell none),(1724,.raw (tabObj #[]))]) hso hl (fun pu g hg=>?_))
 refine'⟨_,by da_tab,?_⟩
 refine' d9 ?_
 refine' b8 ?_
 refine g9 hh ?_
 refine j3 ?_
 refine a8 ?_
 refine O1 c (f7 (by law_side)) (by kernel_rfl) rfl (by kernel_rfl) ?_
 refine g6 c hh (gI:=1587) (by kernel_rfl) (by kernel_rfl) (fun r d=>Gd (fun p t=>.mk ?_))
 refine a8 ?_
 refine u0 (iX (a:=(pu,.list [.int g,.int 0])) (by da_tab)) ?_
 refine z7 (Q:=fun v ρ' H'=>ρ'=rL (some (.ref pu)) none none none none none none none none none none∧∃(many:Nat) (g' m':Int),v=.int many∧many<3∧(ns.length≤1→many=0)∧0≤g'∧0≤m'∧m'≤1∧
  H'=[(pu,.list [.int g',.int m']),(t,.ba []),(p,.ba []),(r,.inst 1646 d),(d,t7 p t 0 .none .none (.bool false)),(1730,.raw so),(L+3,.cell none),(L+2,.cell none),(L+1,.cell none),(1724,.raw (tabObj #[]))]) ?_ ?_
 ·refine z8 ?_
  refine d6 rfl ?_
  refine O3 c (f7 (by law_side)) (by kernel_rfl) rfl ?_ (by kernel_rfl) (by kernel_rfl)
  refine a8 ?_
  refine m7 c.ok (by law_side) rfl ?_
  refine g7 ?_
  refine Z7 (xs:=ns.map .int) (by law_side) hso (by rw[List.length_map];exact JQ hl) ?_
  rw[List.length_map]
  refine u1 ?_
  refine N9 ?_
  refine H4 (fun ht=>?_) (fun ht=>?_)
  ·have ht:=of_decide_eq_true ht
   refine p0 c (f7 (by law_side)) (by kernel_rfl) rfl (by kernel_rfl) ?_ (by rfl) (by rfl)
   refine a8 ?_
   refine m7 c.ok (by law_side) rfl ?_
   refine a8 ?_
   refine u1 ?_
   refine g7 ?_
   refine a9 c hh (by kernel_rfl) (v6 hg (by decide) (by decide) (by decide) (by decide) (fun g1 v hg1 hv0 hv1=>?_))
   refine oE (Int.eq_ofNat_of_zero_le hv0) fun v zq1=>?_;subst zq1
   exact⟨rfl,v,g1,_,rfl,by exact NB hv1,by exact LP ht,hg1,by decide,by decide,rfl⟩
  ·refine u1 ?_
   exact⟨rfl,0,g,0,rfl,by decide,fun _=>rfl,hg,by decide,by decide,rfl⟩
 ·intro v ρ' H' hz90;obtain⟨zq1,many,g,m,zq2,hm3,hm0,hg,hm,hmb,zq3⟩:=hz90;subst zq1;subst zq2;subst zq3
  refine g7 ?_
  refine⟨nb rfl,fun tp=>?_⟩
  refine⟨tp,_,rfl,.here,rfl,?_⟩
  refine d8 ?_
  refine dJ c.ok (by kernel_rfl) (c:=L+2) (by rfl) (by law_side) (by da_tab) ?_
  refine d8 ?_
  refine D7 c.ok (by da_tab) ?_
  refine C1 ?_
  refine u0 (DZ (a:=(pu,.list [.int g,.int m])) (b:=(p,.ba [])) (c:=(t,.ba [])) (by da_tab)) ?_
  refine J2 (H':=LG so pu g m p t r d 0 L none) (by law_side) ?_
  refine b8 ?_
  refine fL c hh ?_ (by intro _;rfl)
  refine z9 c (f7 (by law_side)) (by kernel_rfl) rfl ?_ (by rfl) (by rfl)
  refine a8 ?_
  refine m7 c.ok (by law_side) rfl ?_
  refine g7 ?_
  refine J1 (fun rr t1 u v'=>?_)
  refine⟨rr,0,many,t1,u,v',_,fun i ρ G=>∃(g m:Int) (p t:Addr) (oc tu tx ck:Option AV),0≤g∧0≤m∧m≤1+700*i∧ρ=rL (some (.ref pu)) (some (.int many)) tu tx ck none none none none none none∧G=LG so pu g m p t r d i L oc,rfl,rfl,by decide,by exact Int.natCast_nonneg _,by exact NR hm3,⟨g,m,p,t,none,none,none,none,hg,hm,by assumption,rfl,rfl⟩,?_,?_⟩
  ·intro i ρ G I o hi hz90;refine T8 (hz90) fun g m p t oc tu tx ck hg hm hmb zq1 zq2=>?_;clear hz90;subst zq1;subst zq2
   refine⟨_,by da_tab,?_⟩
   refine M4 ?_
   refine b8 ?_
   refine g9 hh ?_
   refine p0 c (f7 (by law_side)) (by kernel_rfl) rfl (by kernel_rfl) ?_ (by rfl) (by rfl)
   refine a8 ?_
   refine m7 c.ok (by law_side) rfl ?_
   refine g7 ?_
   refine C3 (iX (a:=(pu,.list [.int g,.int m])) (by da_tab)) ?_
   refine a9 c hh (by kernel_rfl) (Q0 hg hm (by exact Pi hm3 hi hmb) (fun tp made text ck g1 m1 hg1 hm1a hm1b hne hml htl hpath=>?_))
   refine⟨tp,_,rfl,.here,rfl,?_⟩
   refine d8 ?_
   refine dJ c.ok (by kernel_rfl) (c:=L+1) (by rfl) (by law_side) (by da_tab) ?_
   refine d8 ?_
   refine D7 c.ok (by da_tab) ?_
   refine d8 ?_
   refine D7 c.ok (by da_tab) ?_
   refine C1 ?_
   refine b8 ?_
   refine B5 ?_
   refine d6 rfl ?_
   refine p0 c (f7 (by law_side)) (by kernel_rfl) rfl (by kernel_rfl) ?_ (by rfl) (by rfl)
   refine a8 ?_
   refine t9 c.ok (by kernel_rfl) (c:=L+2) (by rfl) (by law_side) rfl ?_
   refine a8 ?_
   refine t9 c.ok (by kernel_rfl) (c:=L+1) (by rfl) (by law_side) rfl ?_
   refine a8 ?_
   refine m7 c.ok (by law_side) rfl ?_
   refine g7 ?_
   refine C3 (Hl (a:=(pu,.list [.int g1,.int m1])) (b:=(p,.ba [])) (c:=(t,.ba [])) (d:=(r,.inst 1646 d)) (e:=(d,t7 p t i .none .none (.bool false))) (by da_tab)) ?_
   obtain⟨kp,hpath⟩:=hpath r d i
   refine a9 c hh (by kernel_rfl) (Z9 hpath Bb (fut:=[]) (F:=[]) rfl (.inr rfl) (by exact HD hml) (by exact Ot htl) hg1 (by exact IV hm hm1a) (by exact Pg hm3 hi hmb hm1b) (.inr hne) (Nat.le_refl _) (rK (.refl _)) (fun pend g2 m2 H2 hpend hg2 hm2a hm2b hS2=>?_))
   obtain⟨p2,t2,n2,st,hd,cl,FL,hK2,hperm2⟩:=hS2
   cases hK2
   rw[List.append_nil] at hpend
   subst hpend
   refine u0 (hperm2.cons _) ?_
   refine m7 c.ok (by law_side) rfl ?_
   refine vV ?_
   refine x3 (bne_self_eq_false _) ?_
   refine f8 ?_
   refine f8 ?_
   exact⟨(pu,.list [.int g2,.int m2])::(p2,.ba [])::(t2,.ba [])::(r,.inst 1646 d)::(d,t7 p2 t2 (i+1) .none .none (.bool false))::[(I,.raw o),(1730,.raw so),(L+3,.cell none),(L+2,.cell (some (.ref r))),(L+1,.cell (some (.bytes made))),(1724,.raw (tabObj #[]))],by dsimp only[List.nil_append];law_side,.inl rfl,(pu,.list [.int g2,.int m2])::(p2,.ba [])::(t2,.ba [])::(r,.inst 1646 d)::(d,t7 p2 t2 (i+1) .none .none (.bool false))::[(1730,.raw so),(L+3,.cell none),(L+2,.cell (some (.ref r))),(L+1,.cell (some (.bytes made))),(1724,.raw (tabObj #[]))],by da_tab,g2,m2,p2,t2,some (.bytes made),some (.int (0+i)),some (.bytes text),some (.bool ck),hg2,by exact KC hm hm2a hm1a,by exact Pk hmb hm1b hm2b,rfl,rfl⟩
  ·intro ρ G hz90;refine T8 (hz90) fun g m p t oc tu tx ck hg hm hmb zq1 zq2=>?_;clear hz90;subst zq1;subst zq2
   rw[show((many:Int) - 0).toNat=many by exact Int.toNat_natCast _] at *
   exact Eh c hh hun hso hl hm0 hg hm (by exact Pp hm3 hmb)
theorem IQ{prog:Program}{w:World}{t:Sem PySem.Fin}{s:Shared}{R:Result→Shared→Prop}(hreg:s.asleep)
  (h:c8 (model prog w) callerA t (fun fin s'=>∃f,fin=.done f∧(R (.ok f) s'∧leftWithCleanup s'.gens=false)) (fun e s'=>R (.error e) s'∧leftWithCleanup s'.gens=false) s)
  {G:Prop}(q:∀n r s' s'',runN (denote table) prog w n s ⟨t,.builtin "claim.caller" {},default,[]⟩=.halted (outcomeOf r) s'→
   schedN (denote table) prog w n (.single s ⟨t,.builtin "claim.caller" {},default,[]⟩)=.halted (outcomeOf r) s'→s'.forget=s''.forget→R r s''→G):G:=by
 have h':=h ⟨.builtin "claim.caller" {},none,none,[],none⟩ default caller_in (by decide +kernel) (fun x hx=>nomatch hx)
 obtain⟨n,r,a,b,h1,h2,h3,h4⟩:=wp_halts_full (M:=model prog w) (R:=R) hreg (Sem.wp_mono _ _ t (fun fin p' s' q=>by
  obtain⟨f,rfl,hf⟩:=q
  exact hf) (fun _ _ _ q=>q) _ _ h')
 exact q n r b a h2 h1 h3 h4
structure TO (c:ClaimW) (s:Shared) (args:List WData) (vs:List Value) (s₁:Shared) (kept:Heap→Prop) (r:Result) (s':Shared):Prop where
 e:c.Ends s args vs s₁ r s'
 o:s'.os=s.os
 k:kept s'.heap
theorem wR{c:ClaimW}{tree:List Value→Sem PySem.Fin}{w:World}{s:Shared}{free:Addr→Prop}{gens:Prop}{kept:Heap→Prop}(hz:s.asleep) (hgens:s.gens= #[])
  (hspec:∀args,c.pre args=true→WData.layableAll args=true→∀ord:List DictEntry→List DictEntry,(∀l,(ord l).Perm l)→
   ∃vs s₁,layAllW c.records (classAt s.heap) w.params ord args s=some (vs,s₁)∧
    c8 (model c.prog w) callerA (tree vs) (fun fin s'=>∃f,fin=.done f∧(c.Ends s args vs s₁ (.ok f) s'∧s'.os=s.os∧AllBare s'.gens∧kept s'.heap)) (fun e s'=>c.Ends s args vs s₁ (.error e) s'∧s'.os=s.os∧AllBare s'.gens∧kept s'.heap) s₁) :
  c.CallFrom (fun vs=>⟨tree vs,.builtin "claim.caller" {},default,[]⟩) w free gens kept s:=fun args hpre hlay ord hord=>by
 obtain⟨vs,s₁,hlaid,hw⟩:=hspec args hpre hlay ord hord
 have rest:=layAllW_rest _ _ _ hlaid
 refine IQ (R:=TO c s args vs s₁ kept) (Shared.asleep_of_life rest.2.2.2 hz)
  (b6 hw (fun fin s' q=>by
   obtain⟨f,e,q1,q2,q3,q4⟩:=q
   exact⟨f,e,⟨q1,q2,q4⟩,leftWithCleanup_false_of_bare q3⟩) fun e s' q=>⟨⟨q.1,q.2.1,q.2.2.2⟩,leftWithCleanup_false_of_bare q.2.2.1⟩) fun k r a b hrun hsched hsame hR=>?_
 have eh:=(Shared.forget_eq hsame).1
 have hkept:kept a.heap:=eh▸hR.k
 have hlife:a.heap.life=s.heap.life:=(runN_life _ _ _ hrun).trans rest.2.2.2
 refine⟨vs,s₁,hlaid,k,_,a,hsched,?_,(fun _ i x hx=>by rw[hgens] at hx;simp at hx),hkept,by rw[hlife],Shared.rest_eq ((Shared.forget_eq hsame).2.2.2.1.trans hR.o)⟩
 exact Or.imp (fun h=>h.imp fun v=>And.imp (congrArg outcomeOf) (And.imp_right (And.imp_right (And.imp_right (And.imp_left fun d4 b o y _=>d4 b o y))))) (fun h=>h.imp fun e=>Exists.imp fun ob=>Exists.imp fun cls=>And.imp (congrArg outcomeOf) (And.imp_right (And.imp_right (And.imp_right (And.imp_right fun d5 b o y _=>d5 b o y))))) (hR.e.congr eh)
structure Hn (w:World) (s:Shared) (a:Addr) (ns:List Int):Prop where
 get:∀p∈KF w.params,s.heap.get? p.1=some p.2
 life:s.heap.life= {}
 gens:s.gens= #[]
 size:s.heap.objs.size=1731
 at_:a=1730
 list:∃vs:List Value,IntsAre vs ns∧s.heap.get? a=some { cls:=.type "list",data:=.seq vs.toArray }
 few:ns.length≤63
noncomputable abbrev wS:Prop:=∀(w:World) (s:Shared) (a:Addr) (ns:List Int),Hn w s a ns→
 c8 (model pw w) callerA (PySem.call (.ref 1729) [.ref a]) (fun v s'=>v=.bool true∧OldK s.heap s'.heap∧s'.os=s.os∧s'.gens= #[]) (fun _ _=>False) s
theorem Ho(P:Params):(u4 P).isNs mainNs=true:=by kernel_rfl
theorem Rq(P:Params):(u4 P).nsMap mainNs PySem.Challenge.rw_pq1227_01.row.name=some (.ref 1729):=by kernel_rfl
noncomputable def lawFd:FuncData:=fd (st 150) (S "law") .none .none .none (.str (S "law_pq1227_01") 2947) (.ref 1728) .none 3 0
noncomputable def yO:List Stmt:=match st 150 with
 | .FunctionDef _ _ b _ _ _ _ _ _ _=>b
 | _=>[]
theorem Rr(P:Params):(KF P).lookup 1729=some (Q3 P)∧(Q3 P).data=.func lawFd:=⟨by kernel_rfl,by kernel_rfl⟩
theorem TP:pw.theDef PySem.Challenge.rw_pq1227_01.row.name=some (lawFd.params,yO,lawFd.scope):=by kernel_rfl
theorem TQ:lawFd.name=PySem.Challenge.rw_pq1227_01.row.name∧lawFd.qualname=PySem.Challenge.rw_pq1227_01.row.name∧lawFd.body=.stmts yO∧lawFd.globals=mainNs∧lawFd.closure=[]∧lawFd.builtins=builtinsNs∧lawFd.params.defaults=[]∧lawFd.defaults=.none∧
  kwWritten? lawFd.params.kwonlyargs lawFd.params.kw_defaults=some []∧lawFd.kwdefaults=.none:=⟨by kernel_rfl,by kernel_rfl,by kernel_rfl,by kernel_rfl,by kernel_rfl,by kernel_rfl,by kernel_rfl,by kernel_rfl,by kernel_rfl,by kernel_rfl⟩
set_option maxHeartbeats 4000000 in
theorem rW(walk:wS) (said:PySem.Challenge.rw_pq1227_01.row.wellSaid=true):PySem.Challenge.rw_pq1227_01.row.Holds:=by
 refine⟨said,?hw,⟨Qj,HX,rfl⟩,?hw2,fun w=>?_⟩
 case hw=>exact⟨[.list []],by decide +kernel,by decide +kernel⟩
 case hw2=>exact⟨[.list []],by decide +kernel,by decide +kernel⟩
 refine Bl (uH w) fun s₀ A U b1 b2 b3 b4 b5=>?_
 refine⟨⟨s₀,A⟩,fun s' hs'=>?_⟩
 obtain rfl:=U s' hs'
 refine V3 (EJ w b1 b2 b3 b4 b5) fun s T z K=>?_
 refine⟨s',BI _,b2,s,T,?_,fun x hx=>(nomatch hx),fun x hx=>(nomatch hx),?_⟩
 ·intro n hn
  obtain rfl:n=PySem.Challenge.rw_pq1227_01.row.toRowW.name:=by
   have hn:n∈[PySem.Challenge.rw_pq1227_01.row.toRowW.name]:=hn
   simpa using hn
  have g3:=(K.get (_,_) (B7 (k0 w.params).2.2.1)).trans (m0 w.params).2.2.symm
  have hg:s.heap.isNs mainGlobals=true:=(q7 g3).trans (Ho _)
  refine dR (TQ) fun l1 l2 l3 l4 l5 l6 l7 l8 l9 l10=>?_
  exact⟨1729,Q3 w.params,lawFd,_,_,_,(Pin.globalOf_eq hg _).trans ((congrFun (r8 g3) _).trans (Rq _)),K.get (_,_) (B7 (Rr w.params).1),(Rr w.params).2,TP,l1,l2,rfl,l3,rfl,l4,l5,l6,.inl ⟨l7,l8⟩,[],l9,.inl ⟨rfl,l10⟩⟩
 refine wR (c:=PySem.Challenge.rw_pq1227_01.row.toRowW.claim) z K.gens fun args hpre hlay ord hord=>?_
 refine oE (Option.isSome_iff_exists.mp (layAllW_isSome (P:=w.params) (ord:=ord) (R:=[]) (cl:=classAt s.heap) (fun c hc=>(nomatch hc)) args [.list .int] s (pre_splitW hpre).1)) fun zq1 hlaid=>?_;obtain⟨vals,s₁⟩:=zq1
 have keeps:=layAllW_keeps _ _ _ hlaid
 have hal:=layAllW_rest _ _ _ hlaid
 refine V3 (reads_layAllW hord _ _ _ hlaid hlay s₁.heap (fun _ _ e=>e)) fun as hrd hin hold=>?_
 have L:Laid [] w s s₁ args vals as:=⟨⟨ord,hord,hlaid⟩,hrd,hin,hold,keeps,hal.1.trans K.gens,hal.2.2.1⟩
 refine⟨vals,s₁,hlaid,?_⟩
 have hwl:=L.well
 have hlo:∀a∈as,(a == sysModules)=false:=L.low (by rw[K.size];decide)
 have hrd':=hrd
 wrow_args hpre hlay hrd hwl hlo
 rename_i ns hs hl0 hL1 hr1 hl2 as1 as2 a vs as3 hL ra w1 r0 hI hr hc1 hc2
 refine oA (script_at L) fun ha hsz=>?_
 have hob:=script_obj L hL
 have get {b:Addr}{o:Obj}(e:(KF w.params).lookup b=some o):s₁.heap.get? b=some o:=keeps _ _ (K.get (b,o) (B7 e))
 have B:Hn w s₁ a ns:=⟨fun p hp=>keeps _ _ (K.get p hp),hal.2.2.2.trans K.life,L.gens,by rw[hsz,K.size],ha.trans K.size,⟨vs,hI,hob⟩,by exact OI hc1⟩
 have hns:s₁.heap.Ns mainNs (s₁.heap.nsMap mainNs):=.of_isNs ((q7 ((get (k0 w.params).2.2.1).trans (m0 w.params).2.2.symm)).trans (Ho _))
 have hlaw:s₁.heap.nsMap mainNs PySem.Challenge.rw_pq1227_01.row.name=some (.ref 1729):=by
  exact(congrFun (r8 (a:=mainNs) ((get (k0 w.params).2.2.1).trans (m0 w.params).2.2.symm)) _).trans (Rq _)
 refine a7 (a6 (wpAny_nsGet hns ?_))
 rw[hlaw]
 refine a7 (b6 (walk w s₁ a ns B) (fun v s' h=>?_) fun _ _ h=>h.elim)
 refine Bk (h) fun zq1 h1 h2 h3=>?_;subst zq1
 refine b7 ⟨_,rfl,?_⟩
 have g:GoodWG PySem.Challenge.rw_pq1227_01.row.toRowW.claim (classAt s.heap) (ExcName.means s.heap) [ofPy (PyData.list (ns.map PyData.int))] s₁ (.ok (.ret (.bool true))) s':=
  ⟨.inl ⟨.bool true,.bool true,[],rfl,fun _=>rfl,.bool true,by kernel_rfl,fun _=>⟨List.nodup_nil,fun _ h=>(nomatch h)⟩⟩,h1,h2,.of_eq h3⟩
 refine wT (GoodWG.laid (c:=PySem.Challenge.rw_pq1227_01.row.toRowW.claim) rfl rfl (ident_freeW (r:=PySem.Challenge.rw_pq1227_01.row.toRowW) rfl rfl rfl) L g) fun e1 e2 e3=>?_
 exact⟨e1,e2,e3,fun q=>nomatch q⟩
theorem law_of_walk(walk:wS):PySem.Challenge.rw_pq1227_01.Holds:=uI (rW walk)
theorem Ej:∀ {vs:List Value}{ns:List Int},IntsAre vs ns→All2 Rep (ns.map AV.int) vs
 | _,_,h=>by
  induction h with
  | nil=>exact .nil
  | cons n t _ ih=>exact .cons (.int _ _) ih
theorem Bj(P:Params):d1729.OkC P:=⟨by kernel_rfl,by kernel_rfl⟩
theorem Rs(P:Params):(KF P).lookup 1730=none∧(KF P).lookup 1724=some (tabObj #[]):=⟨by kernel_rfl,by kernel_rfl⟩
theorem walk_ok:wS:=by
 intro w s a ns B
 obtain⟨get,life,gens,size,ha,⟨vs,hI,ho⟩,few⟩:=B
 subst ha
 have hall:=Ej hI
 obtain⟨so,hsoE⟩:∃so:Obj,so= { cls:=.type "list",data:=.seq vs.toArray }:=⟨_,rfl⟩
 rw[← hsoE] at ho
 have hso:RepO (.list (ns.map .int)) so:=by
  rw[hsoE]
  exact .list _ hall rfl rfl
 have KFin:Frag.In (KF w.params) s.heap:=fun a o e=>get (a,o) (B7 e)
 refine oA (Rs w.params) fun n30 y24=>?_
 have ht:=KFin _ _ y24
 obtain⟨news,hnews⟩:∃news:List (Addr×Obj),news=[(1724,tabObj #[]),(1730,so)]:=⟨_,rfl⟩
 have hnm:news.map (·.1)=[1724,1730]:=by rw[hnews];rfl
 have hnw:∀p∈news,s.heap.get? p.1=some p.2:=by
  intro p hp
  rw[hnews] at hp
  rcases List.mem_cons.mp hp with rfl |hp
  ·exact ht
  rcases List.mem_cons.mp hp with rfl |hp
  ·exact ho
  cases hp
 have notin:∀b o,(KG w.params).lookup b=some o→s.heap.get? b=some o∧b∉ news.map (·.1):=by
  intro b o e
  rw[yU] at e
  refine oA (H9 e) fun e1 e2=>?_
  refine⟨KFin _ _ e1,fun hm=>?_⟩
  rw[hnm] at hm
  rcases List.mem_cons.mp hm with rfl |hm
  ·exact e2 rfl
  rcases List.mem_cons.mp hm with rfl |hm
  ·rw[n30] at e1;cases e1
  cases hm
 have KS:Frag.In (KG w.params) s.heap:=fun b o e=>(notin b o e).1
 have Kg:Frag.In (KG w.params) (hideAll s.heap (news.map (·.1))):=fun b o e=>hideAll_get _ (notin b o e).1 (notin b o e).2
 obtain⟨hat,hck⟩:=Bj w.params
 simp only[FnD.chkC,Bool.and_eq_true,Bool.not_eq_true'] at hck
 refine oA (hck) fun zq1 k7=>?_;refine oA (zq1) fun zq2 k6=>?_;refine oA (zq2) fun zq3 k5=>?_;refine oA (zq3) fun zq4 k3=>?_;refine oA (zq4) fun k1 k2=>?_
 have ok:fi1729.Ok:=FI.ok_of (by kernel_rfl)
 have hv:All2 Rep [AV.ref 1730] [.ref 1730]:=.cons (.ref _) .nil
 refine z6 ?_
 refine iT (fd:=fnX (K1 d1729.stmt) d1729.qual (K2 d1729.stmt) (j5 d1729.stmt) (d2 d1729.stmt) [] d1729.dV d1729.kV d1729.doc d1729.pm none d1729.cd d1729.ct) (body:=j5 d1729.stmt) (binds:=d1729.ps.zip [.ref 1730]) (by decide) (KS _ _ hat)
  (by show _= _;exact congrArg Data.func (iF k1 _ _ _ _ _ _ _)) (Q5 KS) (codeRec_of KS k2) rfl (by have:=vK (w:=w) s [.ref 1730] KS rfl;rw[List.append_nil] at this;unfold FnD.fd at this;rw[iF k1] at this;exact this) rfl (fun x hx=>?_) k5 k6 ok.kind (fun s₁ x=>?_)
 ·rcases List.mem_cons.mp hx with rfl |hx
  ·exact .inl rfl
  cases hx
 ·refine aM (x.done) fun h₁ tk zq1 hk₁=>?_;subst zq1
  let g:=hideAll s.heap (news.map (·.1))
  let L':=s.heap.objs.size
  let fx':Fx:=⟨callerA.deeper (callEnvC (fnX (K1 d1729.stmt) d1729.qual (K2 d1729.stmt) (j5 d1729.stmt) (d2 d1729.stmt) [] d1729.dV d1729.kV d1729.doc d1729.pm none d1729.cd d1729.ct) L' d1729.addr),g,[],fi1729.env ⟨callerA,g,[],[],g,L',L',d1729.cellsC L',s.os⟩::[],g,L',L',d1729.cellsC L',s.os⟩
  have gd:N7 fx' g:=⟨fun _ e=>e,fun b o e=>⟨o.slots,e⟩,fun b o e=>e,trivial⟩
  have cx:Cx w fi1729 fx' 15:=⟨ok,Around.frames_deeper rfl,.inr ⟨rfl,rfl⟩,Kg,by show callerA.depth+1+15≤990;decide,rfl⟩
  have CH:CellsH (bindC (fun x=>(d2 d1729.stmt).names.lookup x) (d1729.ps.zip [.ref 1730]) fun _=>none) (d1729.cellsC L') [(L' + 3,.cell none),(L' + 2,.cell none),(L' + 1,.cell none)]:=.bare rfl (.bare rfl (.bare rfl .nil))
  have hcn:((d1729.cellsC L').map (·.1)).Nodup:=by
   refine(?_:(["wrong", "reader", "octets"]:List Str).Nodup)
   decide
  have hcells:∀nm c',(nm,c')∈d1729.cellsC L'→(h₁:Heap).IsCell c' (bindC (fun x=>(d2 d1729.stmt).names.lookup x) (d1729.ps.zip [.ref 1730]) (fun _=>none) nm):=fun nm c' hm=>x.cell nm c' (H0 hm hcn)
  refine V3 (CH.objs hcells) fun nc q1 q2 q3=>?_
  have habove:∀a∈(d1729.cellsC L').map (·.2),L' < a:=fun a ha=>by
   refine f9 (List.mem_map.mp ha) fun p hp zq1=>?_;subst zq1
   exact x.above p.1 p.2 hp
  have hnd2:((d1729.cellsC L').map (·.2)).Nodup:=by
   have:=x.apart
   rw[List.nodup_iff_pairwise_ne,List.pairwise_map]
   exact this
  have lt:∀p∈news,p.1<L':=fun p hp=>Heap.lt_size (hnw p hp)
  have keysE:([(1724,.raw (tabObj #[])),(1730,.raw so)]:AH).map (·.1)=news.map (·.1):=by rw[hnm];rfl
  have sat:Sat' fi1729 fx' (rL none none none none none none none none none none none) ([(L' + 3,.cell none),(L' + 2,.cell none),(L' + 1,.cell none)]++[(1724,.raw (tabObj #[])),(1730,.raw so)]) { s with heap:=h₁,toks:=tk } ⟨g,gd,bindL (fun x=>(d2 d1729.stmt).names.lookup x) (d1729.ps.zip [.ref 1730]) fun _=>none⟩ (nc++news):=by
   refine⟨⟨x.toInCall.ns,fun b o e=>hk₁ b o (of_hideAll _ e),Nat.le_of_eq (hideAll_size _ _)⟩,fun p hp=>?_,?_,fun p hp=>?_,?_,?_,gens,rfl⟩
   ·rcases List.mem_append.mp hp with hp |hp
    ·have ha:=habove p.1 (q1▸List.mem_map_of_mem (f:=(·.1)) hp)
     refine⟨q2 p hp,Nat.ne_of_gt ha,?_⟩
     cases z:g.get? p.1 with
     | none=>rfl
     | some o=>exact absurd (Heap.lt_size (of_hideAll _ z)) (Nat.not_lt.mpr (Nat.le_of_lt ha))
    ·exact⟨hk₁ _ _ (hnw p hp),Nat.ne_of_lt (lt p hp),hideAll_none _ (List.mem_map_of_mem hp)⟩
   ·refine⟨rfl,fun x v hm=>?_⟩
    rcases List.mem_cons.mp hm with e |hm
    ·cases e;exact⟨_,rfl,.ref _⟩
    repeat (rcases List.mem_cons.mp hm with e |hm;cases e)
    cases hm
   ·rcases List.mem_append.mp hp with hp |hp
    ·refine f9 (q3 p hp) fun o a b=>?_
     exact⟨o,List.mem_append_left _ a,b⟩
    ·rcases List.mem_cons.mp hp with rfl |hp
     ·exact⟨_,List.mem_append_right _ (by rw[hnews];exact .head _),.raw _⟩
     rcases List.mem_cons.mp hp with rfl |hp
     ·exact⟨_,List.mem_append_right _ (by rw[hnews];exact .tail _ (.head _)),.raw _⟩
     cases hp
   ·rw[List.map_append,CH.keys,keysE,hnm]
    refine List.nodup_append.mpr ⟨hnd2,by decide,fun a ha b hb e=>?_⟩
    have:b<L':=by
     refine f9 (List.mem_map.mp (hnm▸hb:b∈news.map (·.1))) fun p hp zq1=>?_;subst zq1
     exact lt p hp
    exact absurd this (Nat.not_lt.mpr (Nat.le_of_lt (e▸habove a ha)))
   ·rw[List.map_append,q1,hnm]
    refine List.nodup_append.mpr ⟨hnd2,by decide,fun a ha b hb e=>?_⟩
    have:b<L':=by
     refine f9 (List.mem_map.mp (hnm▸hb:b∈news.map (·.1))) fun p hp zq1=>?_;subst zq1
     exact lt p hp
    exact absurd this (Nat.not_lt.mpr (Nat.le_of_lt (e▸habove a ha)))
  refine b6 (Ei hso few fx' cx rfl rfl (by show callerA.units+3≤53;decide) _ ⟨_,_,sat⟩) (fun fl s' hq=>?_) fun e s' ⟨_,_,_,_,_,z⟩=>z.elim
  obtain⟨b,ρ',H',r,⟨m',news',S'⟩,hb,h30,ps,h24⟩:=hq
  have e30:s'.heap.get? 1730=some so:=by
   refine f9 (S'.items _ h30.mem) fun o m1 m2=>?_
   cases m2
   exact S'.freed m1
  have e24:s'.heap.get? 1724=some (tabObj ps):=by
   refine f9 (S'.items _ h24.mem) fun o m1 m2=>?_
   cases m2
   exact S'.freed m1
  have other:∀b o,s.heap.get? b=some o→b∉ news.map (·.1)→s'.heap.get? b=some o:=fun b o e hn=>S'.fr.keep _ _ (m'.gd.stays _ _ (hideAll_get _ e hn))
  have tab0:=(codeHd_of_K KS (pD w.params)).tab ht
  have old:OldK s.heap s'.heap:=by
   refine⟨fun b o e=>?_,fun b o e=>?_⟩
   ·by_cases b1:b=1724
    ·subst b1
     rw[ht] at e
     cases e
     exact .inr (.inl ⟨tab0.isCodeTable,rfl, #[],ps,rfl,by rw[Array.empty_append];exact e24⟩)
    ·by_cases b2:b=1730
     ·subst b2
      rw[ho] at e
      cases e
      exact .inl e30
     ·exact .inl (other b o e (by rw[hnm];simp [b1,b2]))
   ·by_cases b1:b=1724
    ·subst b1;exact⟨_,e24⟩
    ·by_cases b2:b=1730
     ·subst b2;exact⟨_,e30⟩
     ·exact⟨o,other b o e (by rw[hnm];simp [b1,b2])⟩
  cases r with
  | ret r=>
   dsimp only at hb
   subst hb
   cases r
   exact⟨rfl,old,S'.os,S'.gens⟩
  | next=>cases hb
  | brk=>cases hb
  | cont=>cases hb
end Mine
open PySem in
set_option maxRecDepth 100000 in
theorem PySem.Challenge.cw_pq1227_01_holds : PySem.Challenge.rw_pq1227_01.Holds :=
 Mine.law_of_walk Mine.walk_ok
