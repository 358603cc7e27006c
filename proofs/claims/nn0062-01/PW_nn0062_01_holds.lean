import PyProof.Rows.All
import PyProof.CompMap
import PyProof.CompFree
import PyProof.EnumMake
import PyProof.StrBlock
import PyProof.RangeFor
import PyProof.WalkInts
import PyProof.Rows.StrNews
import PyProof.Rows.CatFin
import PyProof.WalksEnum
import PyProof.Rows.StrItems
import PyProof.Rows.SeqSliceW
import PyProof.StrLawsTight
import PyProof.Rows.SeqMore
import PyProof.Rows.RotEnd
import KE.KTree
import KE.KItem
import KE.KTup
import KE.KDeep
import KE.KEqDat
import KE.KIntText
import KE.KSortTup
import OpenK.ZBase
import Wide.FinOn
import OpenK.AllK
import Wide.All
import PySem.Challenge.RW_nn0062_01
set_option Elab.async false
set_option maxRecDepth 100000
set_option maxHeartbeats 4000000
section
namespace Nn62
section
variable {G:Prop}
theorem zR {α:Type _}{a:α} (l:List α) {m:List α} (h:a∈m):a∈l++m:=List.mem_append_right l h
theorem zL {α:Type _}{a:α}{m:List α} (l:List α) (h:a∈m):a∈m++l:=List.mem_append_left l h
theorem zA {α:Type _}{a:α}{l m:List α} (h:a∈l++m):a∈l∨a∈m:=List.mem_append.mp h
theorem zC {α:Type _}{a b:α}{l:List α} (h:a∈b::l):a=b∨a∈l:=List.mem_cons.mp h
theorem zS {α:Type _}{a b:α} (h:a∈[b]):a=b:=List.mem_singleton.mp h
theorem zE {a b:Nat} (h:Nat.beq a b=true):a=b:=Nat.eq_of_beq_eq_true h
theorem zB {a b:Nat} (h:Nat.ble a b=true):a≤b:=Nat.le_of_ble_eq_true h
theorem zT {α:Type _}{i:Nat}{l:List α} (h:l.length≤i):l.take i=l:=List.take_of_length_le h
theorem zF:¬ false=true:=Bool.false_ne_true
theorem zO {A B C:Prop} (h:A∨B) (l:A→C) (r:B→C):C:=Or.elim h l r
theorem e02 {A B:Prop} (h:A∧B) (k:A→B→G):G:=k h.1 h.2
theorem e03 {A B C:Prop} (h:A∧B∧C) (k:A→B→C→G):G:=k h.1 h.2.1 h.2.2
theorem e04 {A B C D:Prop} (h:A∧B∧C∧D) (k:A→B→C→D→G):G:=k h.1 h.2.1 h.2.2.1 h.2.2.2
theorem e11 {α:Sort _}{A:α→Prop} (h:∃ x0,A x0) (k:∀ x0,A x0→G):G:=h.elim fun x0 h=>k x0 h
theorem e12 {α:Sort _}{A B:α→Prop} (h:∃ x0,A x0∧B x0) (k:∀ x0,A x0→B x0→G):G:=h.elim fun x0 h=>k x0 h.1 h.2
theorem e13 {α:Sort _}{A B C:α→Prop} (h:∃ x0,A x0∧B x0∧C x0) (k:∀ x0,A x0→B x0→C x0→G):G:=h.elim fun x0 h=>k x0 h.1 h.2.1 h.2.2
theorem e14 {α:Sort _}{A B C D:α→Prop} (h:∃ x0,A x0∧B x0∧C x0∧D x0) (k:∀ x0,A x0→B x0→C x0→D x0→G):G:=h.elim fun x0 h=>k x0 h.1 h.2.1 h.2.2.1 h.2.2.2
theorem e15 {α:Sort _}{A B C D E:α→Prop} (h:∃ x0,A x0∧B x0∧C x0∧D x0∧E x0) (k:∀ x0,A x0→B x0→C x0→D x0→E x0→G):G:=h.elim fun x0 h=>k x0 h.1 h.2.1 h.2.2.1 h.2.2.2.1 h.2.2.2.2
theorem e16 {α:Sort _}{A B C D E F:α→Prop} (h:∃ x0,A x0∧B x0∧C x0∧D x0∧E x0∧F x0) (k:∀ x0,A x0→B x0→C x0→D x0→E x0→F x0→G):G:=h.elim fun x0 h=>k x0 h.1 h.2.1 h.2.2.1 h.2.2.2.1 h.2.2.2.2.1 h.2.2.2.2.2
theorem e21 {α:Sort _}{β:Sort _}{A:α→β→Prop} (h:∃ x0,∃ x1,A x0 x1) (k:∀ x0 x1,A x0 x1→G):G:=h.elim fun x0 h=>h.elim fun x1 h=>k x0 x1 h
theorem e22 {α:Sort _}{β:Sort _}{A B:α→β→Prop} (h:∃ x0,∃ x1,A x0 x1∧B x0 x1) (k:∀ x0 x1,A x0 x1→B x0 x1→G):G:=h.elim fun x0 h=>h.elim fun x1 h=>k x0 x1 h.1 h.2
theorem e23 {α:Sort _}{β:Sort _}{A B C:α→β→Prop} (h:∃ x0,∃ x1,A x0 x1∧B x0 x1∧C x0 x1) (k:∀ x0 x1,A x0 x1→B x0 x1→C x0 x1→G):G:=h.elim fun x0 h=>h.elim fun x1 h=>k x0 x1 h.1 h.2.1 h.2.2
theorem e24 {α:Sort _}{β:Sort _}{A B C D:α→β→Prop} (h:∃ x0,∃ x1,A x0 x1∧B x0 x1∧C x0 x1∧D x0 x1) (k:∀ x0 x1,A x0 x1→B x0 x1→C x0 x1→D x0 x1→G):G:=h.elim fun x0 h=>h.elim fun x1 h=>k x0 x1 h.1 h.2.1 h.2.2.1 h.2.2.2
theorem e25 {α:Sort _}{β:Sort _}{A B C D E:α→β→Prop} (h:∃ x0,∃ x1,A x0 x1∧B x0 x1∧C x0 x1∧D x0 x1∧E x0 x1) (k:∀ x0 x1,A x0 x1→B x0 x1→C x0 x1→D x0 x1→E x0 x1→G):G:=h.elim fun x0 h=>h.elim fun x1 h=>k x0 x1 h.1 h.2.1 h.2.2.1 h.2.2.2.1 h.2.2.2.2
theorem e31 {α:Sort _}{β:Sort _}{γ:Sort _}{A:α→β→γ→Prop} (h:∃ x0,∃ x1,∃ x2,A x0 x1 x2) (k:∀ x0 x1 x2,A x0 x1 x2→G):G:=h.elim fun x0 h=>h.elim fun x1 h=>h.elim fun x2 h=>k x0 x1 x2 h
theorem e32 {α:Sort _}{β:Sort _}{γ:Sort _}{A B:α→β→γ→Prop} (h:∃ x0,∃ x1,∃ x2,A x0 x1 x2∧B x0 x1 x2) (k:∀ x0 x1 x2,A x0 x1 x2→B x0 x1 x2→G):G:=h.elim fun x0 h=>h.elim fun x1 h=>h.elim fun x2 h=>k x0 x1 x2 h.1 h.2
theorem e33 {α:Sort _}{β:Sort _}{γ:Sort _}{A B C:α→β→γ→Prop} (h:∃ x0,∃ x1,∃ x2,A x0 x1 x2∧B x0 x1 x2∧C x0 x1 x2) (k:∀ x0 x1 x2,A x0 x1 x2→B x0 x1 x2→C x0 x1 x2→G):G:=h.elim fun x0 h=>h.elim fun x1 h=>h.elim fun x2 h=>k x0 x1 x2 h.1 h.2.1 h.2.2
theorem e34 {α:Sort _}{β:Sort _}{γ:Sort _}{A B C D:α→β→γ→Prop} (h:∃ x0,∃ x1,∃ x2,A x0 x1 x2∧B x0 x1 x2∧C x0 x1 x2∧D x0 x1 x2) (k:∀ x0 x1 x2,A x0 x1 x2→B x0 x1 x2→C x0 x1 x2→D x0 x1 x2→G):G:=h.elim fun x0 h=>h.elim fun x1 h=>h.elim fun x2 h=>k x0 x1 x2 h.1 h.2.1 h.2.2.1 h.2.2.2
theorem e35 {α:Sort _}{β:Sort _}{γ:Sort _}{A B C D E:α→β→γ→Prop} (h:∃ x0,∃ x1,∃ x2,A x0 x1 x2∧B x0 x1 x2∧C x0 x1 x2∧D x0 x1 x2∧E x0 x1 x2) (k:∀ x0 x1 x2,A x0 x1 x2→B x0 x1 x2→C x0 x1 x2→D x0 x1 x2→E x0 x1 x2→G):G:=h.elim fun x0 h=>h.elim fun x1 h=>h.elim fun x2 h=>k x0 x1 x2 h.1 h.2.1 h.2.2.1 h.2.2.2.1 h.2.2.2.2
theorem e36 {α:Sort _}{β:Sort _}{γ:Sort _}{A B C D E F:α→β→γ→Prop} (h:∃ x0,∃ x1,∃ x2,A x0 x1 x2∧B x0 x1 x2∧C x0 x1 x2∧D x0 x1 x2∧E x0 x1 x2∧F x0 x1 x2) (k:∀ x0 x1 x2,A x0 x1 x2→B x0 x1 x2→C x0 x1 x2→D x0 x1 x2→E x0 x1 x2→F x0 x1 x2→G):G:=h.elim fun x0 h=>h.elim fun x1 h=>h.elim fun x2 h=>k x0 x1 x2 h.1 h.2.1 h.2.2.1 h.2.2.2.1 h.2.2.2.2.1 h.2.2.2.2.2
theorem e41 {α:Sort _}{β:Sort _}{γ:Sort _}{δ:Sort _}{A:α→β→γ→δ→Prop} (h:∃ x0,∃ x1,∃ x2,∃ x3,A x0 x1 x2 x3) (k:∀ x0 x1 x2 x3,A x0 x1 x2 x3→G):G:=h.elim fun x0 h=>h.elim fun x1 h=>h.elim fun x2 h=>h.elim fun x3 h=>k x0 x1 x2 x3 h
theorem e42 {α:Sort _}{β:Sort _}{γ:Sort _}{δ:Sort _}{A B:α→β→γ→δ→Prop} (h:∃ x0,∃ x1,∃ x2,∃ x3,A x0 x1 x2 x3∧B x0 x1 x2 x3) (k:∀ x0 x1 x2 x3,A x0 x1 x2 x3→B x0 x1 x2 x3→G):G:=h.elim fun x0 h=>h.elim fun x1 h=>h.elim fun x2 h=>h.elim fun x3 h=>k x0 x1 x2 x3 h.1 h.2
theorem e44 {α:Sort _}{β:Sort _}{γ:Sort _}{δ:Sort _}{A B C D:α→β→γ→δ→Prop} (h:∃ x0,∃ x1,∃ x2,∃ x3,A x0 x1 x2 x3∧B x0 x1 x2 x3∧C x0 x1 x2 x3∧D x0 x1 x2 x3) (k:∀ x0 x1 x2 x3,A x0 x1 x2 x3→B x0 x1 x2 x3→C x0 x1 x2 x3→D x0 x1 x2 x3→G):G:=h.elim fun x0 h=>h.elim fun x1 h=>h.elim fun x2 h=>h.elim fun x3 h=>k x0 x1 x2 x3 h.1 h.2.1 h.2.2.1 h.2.2.2
theorem e10_8 {T0:Sort _}{T1:Sort _}{T2:Sort _}{T3:Sort _}{T4:Sort _}{T5:Sort _}{T6:Sort _}{T7:Sort _}{T8:Sort _}{T9:Sort _}{A0 A1 A2 A3 A4 A5 A6 A7:T0→T1→T2→T3→T4→T5→T6→T7→T8→T9→Prop} (h:∃ x0,∃ x1,∃ x2,∃ x3,∃ x4,∃ x5,∃ x6,∃ x7,∃ x8,∃ x9,A0 x0 x1 x2 x3 x4 x5 x6 x7 x8 x9∧A1 x0 x1 x2 x3 x4 x5 x6 x7 x8 x9∧A2 x0 x1 x2 x3 x4 x5 x6 x7 x8 x9∧A3 x0 x1 x2 x3 x4 x5 x6 x7 x8 x9∧A4 x0 x1 x2 x3 x4 x5 x6 x7 x8 x9∧A5 x0 x1 x2 x3 x4 x5 x6 x7 x8 x9∧A6 x0 x1 x2 x3 x4 x5 x6 x7 x8 x9∧A7 x0 x1 x2 x3 x4 x5 x6 x7 x8 x9) (k:∀ x0 x1 x2 x3 x4 x5 x6 x7 x8 x9,A0 x0 x1 x2 x3 x4 x5 x6 x7 x8 x9→A1 x0 x1 x2 x3 x4 x5 x6 x7 x8 x9→A2 x0 x1 x2 x3 x4 x5 x6 x7 x8 x9→A3 x0 x1 x2 x3 x4 x5 x6 x7 x8 x9→A4 x0 x1 x2 x3 x4 x5 x6 x7 x8 x9→A5 x0 x1 x2 x3 x4 x5 x6 x7 x8 x9→A6 x0 x1 x2 x3 x4 x5 x6 x7 x8 x9→A7 x0 x1 x2 x3 x4 x5 x6 x7 x8 x9→G):G:=h.elim fun x0 h=>h.elim fun x1 h=>h.elim fun x2 h=>h.elim fun x3 h=>h.elim fun x4 h=>h.elim fun x5 h=>h.elim fun x6 h=>h.elim fun x7 h=>h.elim fun x8 h=>h.elim fun x9 h=>k x0 x1 x2 x3 x4 x5 x6 x7 x8 x9 h.1 h.2.1 h.2.2.1 h.2.2.2.1 h.2.2.2.2.1 h.2.2.2.2.2.1 h.2.2.2.2.2.2.1 h.2.2.2.2.2.2.2
theorem i10_8 {T0:Sort _}{T1:Sort _}{T2:Sort _}{T3:Sort _}{T4:Sort _}{T5:Sort _}{T6:Sort _}{T7:Sort _}{T8:Sort _}{T9:Sort _}{A0 A1 A2 A3 A4 A5 A6 A7:T0→T1→T2→T3→T4→T5→T6→T7→T8→T9→Prop} (x0:T0) (x1:T1) (x2:T2) (x3:T3) (x4:T4) (x5:T5) (x6:T6) (x7:T7) (x8:T8) (x9:T9) (h0:A0 x0 x1 x2 x3 x4 x5 x6 x7 x8 x9) (h1:A1 x0 x1 x2 x3 x4 x5 x6 x7 x8 x9) (h2:A2 x0 x1 x2 x3 x4 x5 x6 x7 x8 x9) (h3:A3 x0 x1 x2 x3 x4 x5 x6 x7 x8 x9) (h4:A4 x0 x1 x2 x3 x4 x5 x6 x7 x8 x9) (h5:A5 x0 x1 x2 x3 x4 x5 x6 x7 x8 x9) (h6:A6 x0 x1 x2 x3 x4 x5 x6 x7 x8 x9) (h7:A7 x0 x1 x2 x3 x4 x5 x6 x7 x8 x9):∃ x0,∃ x1,∃ x2,∃ x3,∃ x4,∃ x5,∃ x6,∃ x7,∃ x8,∃ x9,A0 x0 x1 x2 x3 x4 x5 x6 x7 x8 x9∧A1 x0 x1 x2 x3 x4 x5 x6 x7 x8 x9∧A2 x0 x1 x2 x3 x4 x5 x6 x7 x8 x9∧A3 x0 x1 x2 x3 x4 x5 x6 x7 x8 x9∧A4 x0 x1 x2 x3 x4 x5 x6 x7 x8 x9∧A5 x0 x1 x2 x3 x4 x5 x6 x7 x8 x9∧A6 x0 x1 x2 x3 x4 x5 x6 x7 x8 x9∧A7 x0 x1 x2 x3 x4 x5 x6 x7 x8 x9:=⟨x0,x1,x2,x3,x4,x5,x6,x7,x8,x9,h0,h1,h2,h3,h4,h5,h6,h7⟩
theorem e12_9 {T0:Sort _}{T1:Sort _}{T2:Sort _}{T3:Sort _}{T4:Sort _}{T5:Sort _}{T6:Sort _}{T7:Sort _}{T8:Sort _}{T9:Sort _}{T10:Sort _}{T11:Sort _}{A0 A1 A2 A3 A4 A5 A6 A7 A8:T0→T1→T2→T3→T4→T5→T6→T7→T8→T9→T10→T11→Prop} (h:∃ x0,∃ x1,∃ x2,∃ x3,∃ x4,∃ x5,∃ x6,∃ x7,∃ x8,∃ x9,∃ x10,∃ x11,A0 x0 x1 x2 x3 x4 x5 x6 x7 x8 x9 x10 x11∧A1 x0 x1 x2 x3 x4 x5 x6 x7 x8 x9 x10 x11∧A2 x0 x1 x2 x3 x4 x5 x6 x7 x8 x9 x10 x11∧A3 x0 x1 x2 x3 x4 x5 x6 x7 x8 x9 x10 x11∧A4 x0 x1 x2 x3 x4 x5 x6 x7 x8 x9 x10 x11∧A5 x0 x1 x2 x3 x4 x5 x6 x7 x8 x9 x10 x11∧A6 x0 x1 x2 x3 x4 x5 x6 x7 x8 x9 x10 x11∧A7 x0 x1 x2 x3 x4 x5 x6 x7 x8 x9 x10 x11∧A8 x0 x1 x2 x3 x4 x5 x6 x7 x8 x9 x10 x11) (k:∀ x0 x1 x2 x3 x4 x5 x6 x7 x8 x9 x10 x11,A0 x0 x1 x2 x3 x4 x5 x6 x7 x8 x9 x10 x11→A1 x0 x1 x2 x3 x4 x5 x6 x7 x8 x9 x10 x11→A2 x0 x1 x2 x3 x4 x5 x6 x7 x8 x9 x10 x11→A3 x0 x1 x2 x3 x4 x5 x6 x7 x8 x9 x10 x11→A4 x0 x1 x2 x3 x4 x5 x6 x7 x8 x9 x10 x11→A5 x0 x1 x2 x3 x4 x5 x6 x7 x8 x9 x10 x11→A6 x0 x1 x2 x3 x4 x5 x6 x7 x8 x9 x10 x11→A7 x0 x1 x2 x3 x4 x5 x6 x7 x8 x9 x10 x11→A8 x0 x1 x2 x3 x4 x5 x6 x7 x8 x9 x10 x11→G):G:=h.elim fun x0 h=>h.elim fun x1 h=>h.elim fun x2 h=>h.elim fun x3 h=>h.elim fun x4 h=>h.elim fun x5 h=>h.elim fun x6 h=>h.elim fun x7 h=>h.elim fun x8 h=>h.elim fun x9 h=>h.elim fun x10 h=>h.elim fun x11 h=>k x0 x1 x2 x3 x4 x5 x6 x7 x8 x9 x10 x11 h.1 h.2.1 h.2.2.1 h.2.2.2.1 h.2.2.2.2.1 h.2.2.2.2.2.1 h.2.2.2.2.2.2.1 h.2.2.2.2.2.2.2.1 h.2.2.2.2.2.2.2.2
theorem i03 {A0 A1 A2:Prop}  (h0:A0) (h1:A1) (h2:A2):A0∧A1∧A2:=⟨h0,h1,h2⟩
theorem i04 {A0 A1 A2 A3:Prop}  (h0:A0) (h1:A1) (h2:A2) (h3:A3):A0∧A1∧A2∧A3:=⟨h0,h1,h2,h3⟩
theorem i05 {A0 A1 A2 A3 A4:Prop}  (h0:A0) (h1:A1) (h2:A2) (h3:A3) (h4:A4):A0∧A1∧A2∧A3∧A4:=⟨h0,h1,h2,h3,h4⟩
theorem i06 {A0 A1 A2 A3 A4 A5:Prop}  (h0:A0) (h1:A1) (h2:A2) (h3:A3) (h4:A4) (h5:A5):A0∧A1∧A2∧A3∧A4∧A5:=⟨h0,h1,h2,h3,h4,h5⟩
theorem i12 {T0:Sort _}{A0 A1:T0→Prop} (x0:T0) (h0:A0 x0) (h1:A1 x0):∃ x0,A0 x0∧A1 x0:=⟨x0,h0,h1⟩
theorem i13 {T0:Sort _}{A0 A1 A2:T0→Prop} (x0:T0) (h0:A0 x0) (h1:A1 x0) (h2:A2 x0):∃ x0,A0 x0∧A1 x0∧A2 x0:=⟨x0,h0,h1,h2⟩
theorem i14 {T0:Sort _}{A0 A1 A2 A3:T0→Prop} (x0:T0) (h0:A0 x0) (h1:A1 x0) (h2:A2 x0) (h3:A3 x0):∃ x0,A0 x0∧A1 x0∧A2 x0∧A3 x0:=⟨x0,h0,h1,h2,h3⟩
theorem i16 {T0:Sort _}{A0 A1 A2 A3 A4 A5:T0→Prop} (x0:T0) (h0:A0 x0) (h1:A1 x0) (h2:A2 x0) (h3:A3 x0) (h4:A4 x0) (h5:A5 x0):∃ x0,A0 x0∧A1 x0∧A2 x0∧A3 x0∧A4 x0∧A5 x0:=⟨x0,h0,h1,h2,h3,h4,h5⟩
theorem i21 {T0:Sort _}{T1:Sort _}{A0:T0→T1→Prop} (x0:T0) (x1:T1) (h0:A0 x0 x1):∃ x0,∃ x1,A0 x0 x1:=⟨x0,x1,h0⟩
theorem i22 {T0:Sort _}{T1:Sort _}{A0 A1:T0→T1→Prop} (x0:T0) (x1:T1) (h0:A0 x0 x1) (h1:A1 x0 x1):∃ x0,∃ x1,A0 x0 x1∧A1 x0 x1:=⟨x0,x1,h0,h1⟩
theorem i23 {T0:Sort _}{T1:Sort _}{A0 A1 A2:T0→T1→Prop} (x0:T0) (x1:T1) (h0:A0 x0 x1) (h1:A1 x0 x1) (h2:A2 x0 x1):∃ x0,∃ x1,A0 x0 x1∧A1 x0 x1∧A2 x0 x1:=⟨x0,x1,h0,h1,h2⟩
theorem i24 {T0:Sort _}{T1:Sort _}{A0 A1 A2 A3:T0→T1→Prop} (x0:T0) (x1:T1) (h0:A0 x0 x1) (h1:A1 x0 x1) (h2:A2 x0 x1) (h3:A3 x0 x1):∃ x0,∃ x1,A0 x0 x1∧A1 x0 x1∧A2 x0 x1∧A3 x0 x1:=⟨x0,x1,h0,h1,h2,h3⟩
theorem i31 {T0:Sort _}{T1:Sort _}{T2:Sort _}{A0:T0→T1→T2→Prop} (x0:T0) (x1:T1) (x2:T2) (h0:A0 x0 x1 x2):∃ x0,∃ x1,∃ x2,A0 x0 x1 x2:=⟨x0,x1,x2,h0⟩
theorem i32 {T0:Sort _}{T1:Sort _}{T2:Sort _}{A0 A1:T0→T1→T2→Prop} (x0:T0) (x1:T1) (x2:T2) (h0:A0 x0 x1 x2) (h1:A1 x0 x1 x2):∃ x0,∃ x1,∃ x2,A0 x0 x1 x2∧A1 x0 x1 x2:=⟨x0,x1,x2,h0,h1⟩
theorem i33 {T0:Sort _}{T1:Sort _}{T2:Sort _}{A0 A1 A2:T0→T1→T2→Prop} (x0:T0) (x1:T1) (x2:T2) (h0:A0 x0 x1 x2) (h1:A1 x0 x1 x2) (h2:A2 x0 x1 x2):∃ x0,∃ x1,∃ x2,A0 x0 x1 x2∧A1 x0 x1 x2∧A2 x0 x1 x2:=⟨x0,x1,x2,h0,h1,h2⟩
theorem i34 {T0:Sort _}{T1:Sort _}{T2:Sort _}{A0 A1 A2 A3:T0→T1→T2→Prop} (x0:T0) (x1:T1) (x2:T2) (h0:A0 x0 x1 x2) (h1:A1 x0 x1 x2) (h2:A2 x0 x1 x2) (h3:A3 x0 x1 x2):∃ x0,∃ x1,∃ x2,A0 x0 x1 x2∧A1 x0 x1 x2∧A2 x0 x1 x2∧A3 x0 x1 x2:=⟨x0,x1,x2,h0,h1,h2,h3⟩
theorem i35 {T0:Sort _}{T1:Sort _}{T2:Sort _}{A0 A1 A2 A3 A4:T0→T1→T2→Prop} (x0:T0) (x1:T1) (x2:T2) (h0:A0 x0 x1 x2) (h1:A1 x0 x1 x2) (h2:A2 x0 x1 x2) (h3:A3 x0 x1 x2) (h4:A4 x0 x1 x2):∃ x0,∃ x1,∃ x2,A0 x0 x1 x2∧A1 x0 x1 x2∧A2 x0 x1 x2∧A3 x0 x1 x2∧A4 x0 x1 x2:=⟨x0,x1,x2,h0,h1,h2,h3,h4⟩
theorem i36 {T0:Sort _}{T1:Sort _}{T2:Sort _}{A0 A1 A2 A3 A4 A5:T0→T1→T2→Prop} (x0:T0) (x1:T1) (x2:T2) (h0:A0 x0 x1 x2) (h1:A1 x0 x1 x2) (h2:A2 x0 x1 x2) (h3:A3 x0 x1 x2) (h4:A4 x0 x1 x2) (h5:A5 x0 x1 x2):∃ x0,∃ x1,∃ x2,A0 x0 x1 x2∧A1 x0 x1 x2∧A2 x0 x1 x2∧A3 x0 x1 x2∧A4 x0 x1 x2∧A5 x0 x1 x2:=⟨x0,x1,x2,h0,h1,h2,h3,h4,h5⟩
theorem i41 {T0:Sort _}{T1:Sort _}{T2:Sort _}{T3:Sort _}{A0:T0→T1→T2→T3→Prop} (x0:T0) (x1:T1) (x2:T2) (x3:T3) (h0:A0 x0 x1 x2 x3):∃ x0,∃ x1,∃ x2,∃ x3,A0 x0 x1 x2 x3:=⟨x0,x1,x2,x3,h0⟩
theorem i42 {T0:Sort _}{T1:Sort _}{T2:Sort _}{T3:Sort _}{A0 A1:T0→T1→T2→T3→Prop} (x0:T0) (x1:T1) (x2:T2) (x3:T3) (h0:A0 x0 x1 x2 x3) (h1:A1 x0 x1 x2 x3):∃ x0,∃ x1,∃ x2,∃ x3,A0 x0 x1 x2 x3∧A1 x0 x1 x2 x3:=⟨x0,x1,x2,x3,h0,h1⟩
theorem i44 {T0:Sort _}{T1:Sort _}{T2:Sort _}{T3:Sort _}{A0 A1 A2 A3:T0→T1→T2→T3→Prop} (x0:T0) (x1:T1) (x2:T2) (x3:T3) (h0:A0 x0 x1 x2 x3) (h1:A1 x0 x1 x2 x3) (h2:A2 x0 x1 x2 x3) (h3:A3 x0 x1 x2 x3):∃ x0,∃ x1,∃ x2,∃ x3,A0 x0 x1 x2 x3∧A1 x0 x1 x2 x3∧A2 x0 x1 x2 x3∧A3 x0 x1 x2 x3:=⟨x0,x1,x2,x3,h0,h1,h2,h3⟩
theorem i46 {T0:Sort _}{T1:Sort _}{T2:Sort _}{T3:Sort _}{A0 A1 A2 A3 A4 A5:T0→T1→T2→T3→Prop} (x0:T0) (x1:T1) (x2:T2) (x3:T3) (h0:A0 x0 x1 x2 x3) (h1:A1 x0 x1 x2 x3) (h2:A2 x0 x1 x2 x3) (h3:A3 x0 x1 x2 x3) (h4:A4 x0 x1 x2 x3) (h5:A5 x0 x1 x2 x3):∃ x0,∃ x1,∃ x2,∃ x3,A0 x0 x1 x2 x3∧A1 x0 x1 x2 x3∧A2 x0 x1 x2 x3∧A3 x0 x1 x2 x3∧A4 x0 x1 x2 x3∧A5 x0 x1 x2 x3:=⟨x0,x1,x2,x3,h0,h1,h2,h3,h4,h5⟩
theorem oo3 {A B C:Prop} (h:A∨B∨C) (a:A→G) (b:B→G) (c:C→G):G:=h.elim a (zO · b c)
theorem xNS {α:Type _}{x:α} (h:none=some x):G:=nomatch h
theorem xSN {α:Type _}{x:α} (h:some x=none):G:=nomatch h
theorem xFT (h:false=true):G:=nomatch h
theorem xTF (h:true=false):G:=nomatch h
theorem s1 {α:Type _}{x y:α} (h:some x=some y):x=y:=Option.some.inj h
theorem s2 {α β:Type _}{a c:α}{b d:β} (h:some (a,b)=some (c,d)) (k:a=c→b=d→G):G:=k (congrArg Prod.fst (Option.some.inj h)) (congrArg Prod.snd (Option.some.inj h))
theorem s3 {α β γ:Type _}{a c:α}{b d:β}{e f:γ} (h:some (a,b,e)=some (c,d,f)) (k:a=c→b=d→e=f→G):G:=s2 h fun p q=>k p (congrArg Prod.fst q) (congrArg Prod.snd q)
theorem p2 {α β:Type _}{a c:α}{b d:β} (h:(a,b)=(c,d)) (k:a=c→b=d→G):G:=k (congrArg Prod.fst h) (congrArg Prod.snd h)
end
end Nn62
end
section
open PySem PySem.W PyProof.Rows
set_option Elab.async false
set_option maxRecDepth 100000
set_option maxHeartbeats 0
theorem Nn62.said0:PySem.Challenge.rw_nn0062_01.wellSaid=true:=by kernel_rfl
theorem Nn62.said (h:PySem.Challenge.rw_nn0062_01.row.wellSaid=true→PySem.Challenge.rw_nn0062_01.row.Holds):PySem.Challenge.rw_nn0062_01.Holds:=holds_law Nn62.said0 h
end
section
open PySem PySem.W PyProof.Rows
namespace Nn62
section
noncomputable abbrev pw:Program:=PySem.Challenge.pw_nn0062_01
noncomputable abbrev pwT:Program:=PySem.Challenge.pw_nn0062_01
noncomputable def o11 (_:Params):Obj:={cls:=.type "tuple",data:=.seq #[]}
noncomputable def o12 (_:Params):Obj:={cls:=.none,data:=.fields #[]}
noncomputable def o13 (_:Params):Obj:={cls:=.type "code",data:=.fields #[.str ("<module>":String) 182,.str ("<module>":String) 183,.str ("/claim/cut.py":String) 184,.int 1 0,.int 0 0,.int 0 0,.int 0 0,.int 0 0,.ref 11,.bool false,.int 181 0,.ref 12,.none,.none,.none,.none,.int 185 0,.int 1 0,.str ("/claim/cut.py":String) 186]}
noncomputable def o14 (_:Params):Obj:={cls:=.type "frame",slots:=#[some (.ref 13),some (.ref 3),some (.ref 3),none,some (.str ("__main__":String) 164),none,some (.ref 0)]}
noncomputable def objs0 (P:Params):List Obj:=[boot_o_0 P,boot_o_1 P,boot_o_2 P,boot_o_3 P,boot_o_4 P,boot_o_5 P,boot_o_6 P,boot_o_7 P,boot_o_8 P,boot_o_9 P,boot_o_10 P,o11 P,o12 P,o13 P,o14 P]
noncomputable def insAll:BT→Nat→List Obj→BT
 | t,_,[]=>t
 | t,i,o::r=>insAll (t.ins i o) (i+1) r
noncomputable def tree0 (P:Params):BT:=insAll .nil 0 (objs0 P)
noncomputable def heap0 (P:Params):Heap:=⟨⟨objs0 P⟩,{}⟩
noncomputable def envP (p:Program):Env:={scope:=p.main.scope,locals:=mainNs,globals:=mainNs,cells:=[],code:=.ref 13,frame:=some 14}
noncomputable abbrev codeP (p:Program):Code:=.body (behindTheImports p) (envP p)
noncomputable abbrev B0:List Frame:=[topFrame ⟨0,0,0,0⟩]
noncomputable def st0 (w:World) (os:OsState):SharedT:=⟨tree0 w.params,15,{},#[],{},187,os⟩
theorem pre_ok (w:World) (os:OsState):topGo treeTable pw w 11 (some (.ref 6)) 12 ⟨boot_heap w.params,#[],boot_drawn,boot_toks,os⟩ (topStub pw) =
  some (⟨heap0 w.params,#[],{},187,os⟩,⟨denote treeTable (codeP pw),codeP pw,⟨0,0,0,0⟩,B0⟩):=by
 rw [show @topGo=_ from PySem.W.Fast.te15667345088766844465,show @PySem.denote=_ from PySem.W.Fast.te11892475500146522536,show treeTable=_ from PySem.W.Fast.te14364793385576792824,show pw=pwT from rfl]
 kernel_rfl
theorem block_ok (w:World) (os:OsState):segRun treeTable pw w 11 (some (.ref 6)) 1 1 ⟨heap0 w.params,#[],{},187,os⟩ (blockOf (behindTheImports pw) (envP pw) (codeP pw) ⟨0,0,0,0⟩ B0) =
  some (.next,(st0 w os).abs,codeP pw,⟨0,0,0,0⟩):=by
 rw [show @segRun=_ from PySem.W.Fast.te14374325043358763698,show treeTable=_ from PySem.W.Fast.te14364793385576792824,show pw=pwT from rfl]
 kernel_rfl
noncomputable def bigRun (w:World) (os:OsState):Option (Flow×SharedT×Code×Pos) :=
 segRunT treeTable pw w 11 (some (.ref 6)) 1 6000 (st0 w os) (piecesOf (behindTheImports pw) (envP pw) (codeP pw) ⟨0,0,0,0⟩ B0)
noncomputable def bigRunT (w:World) (os:OsState):Option (Flow×SharedT×Code×Pos) :=
 PySem.W.Fast.tw10110043849684766642 PySem.W.Fast.tw14364793385576792824 pwT w 11 (some (.ref 6)) 1 6000 (st0 w os) (piecesOf (behindTheImports pwT) (envP pwT) (codeP pwT) ⟨0,0,0,0⟩ B0)
theorem bigRun_eq:@bigRun=bigRunT:=by
 funext w os
 unfold bigRun bigRunT
 rw [show @segRunT=_ from PySem.W.Fast.te10110043849684766642,show treeTable=_ from PySem.W.Fast.te14364793385576792824,show pw=pwT from rfl]
theorem fin_ok (w:World) (s:Shared) (p:Pos):topRun treeTable pw w 11 (some (.ref 6)) 2 s (restOf [] (envP pw) (codeP pw) p B0)=some s:=by
 rfl
end
section
noncomputable abbrev S (l:List Nat):Str:=⟨⟨l⟩⟩
noncomputable abbrev zq0:List Nat:=[47,99,108,97,105,109,47,99,117,116,46,112,121]
noncomputable abbrev zq1:List Nat:=[111,99,116,101,116,109,105,110,116,46,112,114,105,110,116,101,114]
noncomputable abbrev zq2:List Nat:=[111,99,116,101,116,109,105,110,116,46,111,112,101,114,97,110,100,115]
noncomputable abbrev zq3:List Nat:=[108,97,119,95,110,110,48,48,54,50,95,48,49]
noncomputable abbrev zq4:List Nat:=[95,95,115,116,97,116,105,99,95,97,116,116,114,105,98,117,116,101,115,95,95]
noncomputable abbrev zq5:List Nat:=[111,99,116,101,116,109,105,110,116,46,114,101,103,105,115,116,101,114,115]
noncomputable abbrev zq6:List Nat:=[95,95,105,110,105,116,95,95]
noncomputable abbrev zq7:List Nat:=[95,95,102,105,114,115,116,108,105,110,101,110,111,95,95]
noncomputable abbrev zq8:List Nat:=[111,99,116,101,116,109,105,110,116,46,98,97,115,105,99,115]
noncomputable abbrev zq9:List Nat:=[95,95,109,111,100,117,108,101,95,95]
noncomputable abbrev zq10:List Nat:=[105,115,95,119,105,100,101,95,99,111,110,115,116,97,110,116]
noncomputable abbrev zq11:List Nat:=[101,120,116,101,110,100,105,110,103,95,110,97,109,101]
noncomputable abbrev zq12:List Nat:=[73,110,115,116,114,117,99,116,105,111,110]
noncomputable abbrev zq13:List Nat:=[95,108,97,119,95,105,115,95,100,117,109,112,101,100]
noncomputable abbrev zq14:List Nat:=[95,108,97,119,95,114,101,97,100,95,110,101,97,114]
noncomputable abbrev zq15:List Nat:=[111,112,101,114,97,110,100,95,105,110,116,101,108]
noncomputable abbrev zq16:List Nat:=[95,95,100,111,99,95,95]
noncomputable def cO (l:Array Value):Obj:={cls:=.type "code",data:=.fields l}
noncomputable def sName:Stmt→Str
 | .FunctionDef n ..=>n
 | _=>S []
noncomputable def sArgs:Stmt→Arguments
 | .FunctionDef _ a ..=>a
 | _=>⟨[],[],none,[],[],none,[]⟩
noncomputable def sBody:Stmt→List Stmt
 | .FunctionDef _ _ b ..=>b
 | _=>[]
noncomputable def sScope:Stmt→Scope
 | .FunctionDef _ _ _ _ _ _ sc ..=>sc
 | _=>default
noncomputable def cBody:Stmt→List Stmt
 | .ClassDef _ _ _ b ..=>b
 | _=>[]
noncomputable def stA (i:Nat):Stmt:=pwT.main.body.getD i (.Pass ⟨0,0,0,0⟩)
noncomputable def mtA (i j:Nat):Stmt:=(cBody (stA i)).getD j (.Pass ⟨0,0,0,0⟩)
noncomputable def kv (P:Params) (s:Str) (t:Tok) (v:Value):DictEntry:=⟨PyData.keyHash P s,.str s t,v⟩
noncomputable def fnO (st:Stmt) (q:Str) (dV pm cd:Value):Obj :=
 {cls:=.type "function",data:=.func {name:=sName st,qualname:=q,params:=sArgs st,body:=.stmts (sBody st),scope:=sScope st,globals:=mainGlobals,closure:=[],defaults:=dV,kwdefaults:=.none,doc:=.none,pyModule:=pm,annotations:=none,code:=cd,closureTuple:=.none,builtins:=builtinsNs}}
@[reducible] noncomputable def fnX (n:Str) (a:Arguments) (b:List Stmt) (sc:Scope) (q:Str) (dV pm cd:Value):Obj :=
 {cls:=.type "function",data:=.func {name:=n,qualname:=q,params:=a,body:=.stmts b,scope:=sc,globals:=mainGlobals,closure:=[],defaults:=dV,kwdefaults:=.none,doc:=.none,pyModule:=pm,annotations:=none,code:=cd,closureTuple:=.none,builtins:=builtinsNs}}
@[reducible] noncomputable def n89:{x:Str // sName (stA 8)=x}:=by
 refine ⟨?l,?h⟩
 case h=>conv=>lhs;whnf
@[reducible] noncomputable def a89:{x:Arguments // sArgs (stA 8)=x}:=by
 refine ⟨?l,?h⟩
 case h=>conv=>lhs;whnf
@[reducible] noncomputable def b89:{x:List Stmt // sBody (stA 8)=x}:=by
 refine ⟨?l,?h⟩
 case h=>conv=>lhs;whnf
@[reducible] noncomputable def s89:{x:Scope // sScope (stA 8)=x}:=by
 refine ⟨?l,?h⟩
 case h=>conv=>lhs;whnf
@[reducible] noncomputable def n101:{x:Str // sName (stA 10)=x}:=by
 refine ⟨?l,?h⟩
 case h=>conv=>lhs;whnf
@[reducible] noncomputable def a101:{x:Arguments // sArgs (stA 10)=x}:=by
 refine ⟨?l,?h⟩
 case h=>conv=>lhs;whnf
@[reducible] noncomputable def b101:{x:List Stmt // sBody (stA 10)=x}:=by
 refine ⟨?l,?h⟩
 case h=>conv=>lhs;whnf
@[reducible] noncomputable def s101:{x:Scope // sScope (stA 10)=x}:=by
 refine ⟨?l,?h⟩
 case h=>conv=>lhs;whnf
@[reducible] noncomputable def n520:{x:Str // sName (stA 46)=x}:=by
 refine ⟨?l,?h⟩
 case h=>conv=>lhs;whnf
@[reducible] noncomputable def a520:{x:Arguments // sArgs (stA 46)=x}:=by
 refine ⟨?l,?h⟩
 case h=>conv=>lhs;whnf
@[reducible] noncomputable def b520:{x:List Stmt // sBody (stA 46)=x}:=by
 refine ⟨?l,?h⟩
 case h=>conv=>lhs;whnf
@[reducible] noncomputable def s520:{x:Scope // sScope (stA 46)=x}:=by
 refine ⟨?l,?h⟩
 case h=>conv=>lhs;whnf
@[reducible] noncomputable def n527:{x:Str // sName (stA 47)=x}:=by
 refine ⟨?l,?h⟩
 case h=>conv=>lhs;whnf
@[reducible] noncomputable def a527:{x:Arguments // sArgs (stA 47)=x}:=by
 refine ⟨?l,?h⟩
 case h=>conv=>lhs;whnf
@[reducible] noncomputable def b527:{x:List Stmt // sBody (stA 47)=x}:=by
 refine ⟨?l,?h⟩
 case h=>conv=>lhs;whnf
@[reducible] noncomputable def s527:{x:Scope // sScope (stA 47)=x}:=by
 refine ⟨?l,?h⟩
 case h=>conv=>lhs;whnf
@[reducible] noncomputable def n534:{x:Str // sName (stA 48)=x}:=by
 refine ⟨?l,?h⟩
 case h=>conv=>lhs;whnf
@[reducible] noncomputable def a534:{x:Arguments // sArgs (stA 48)=x}:=by
 refine ⟨?l,?h⟩
 case h=>conv=>lhs;whnf
@[reducible] noncomputable def b534:{x:List Stmt // sBody (stA 48)=x}:=by
 refine ⟨?l,?h⟩
 case h=>conv=>lhs;whnf
@[reducible] noncomputable def s534:{x:Scope // sScope (stA 48)=x}:=by
 refine ⟨?l,?h⟩
 case h=>conv=>lhs;whnf
@[reducible] noncomputable def n548:{x:Str // sName (stA 50)=x}:=by
 refine ⟨?l,?h⟩
 case h=>conv=>lhs;whnf
@[reducible] noncomputable def a548:{x:Arguments // sArgs (stA 50)=x}:=by
 refine ⟨?l,?h⟩
 case h=>conv=>lhs;whnf
@[reducible] noncomputable def b548:{x:List Stmt // sBody (stA 50)=x}:=by
 refine ⟨?l,?h⟩
 case h=>conv=>lhs;whnf
@[reducible] noncomputable def s548:{x:Scope // sScope (stA 50)=x}:=by
 refine ⟨?l,?h⟩
 case h=>conv=>lhs;whnf
@[reducible] noncomputable def n646:{x:Str // sName (stA 63)=x}:=by
 refine ⟨?l,?h⟩
 case h=>conv=>lhs;whnf
@[reducible] noncomputable def a646:{x:Arguments // sArgs (stA 63)=x}:=by
 refine ⟨?l,?h⟩
 case h=>conv=>lhs;whnf
@[reducible] noncomputable def b646:{x:List Stmt // sBody (stA 63)=x}:=by
 refine ⟨?l,?h⟩
 case h=>conv=>lhs;whnf
@[reducible] noncomputable def s646:{x:Scope // sScope (stA 63)=x}:=by
 refine ⟨?l,?h⟩
 case h=>conv=>lhs;whnf
@[reducible] noncomputable def n653:{x:Str // sName (stA 64)=x}:=by
 refine ⟨?l,?h⟩
 case h=>conv=>lhs;whnf
@[reducible] noncomputable def a653:{x:Arguments // sArgs (stA 64)=x}:=by
 refine ⟨?l,?h⟩
 case h=>conv=>lhs;whnf
@[reducible] noncomputable def b653:{x:List Stmt // sBody (stA 64)=x}:=by
 refine ⟨?l,?h⟩
 case h=>conv=>lhs;whnf
@[reducible] noncomputable def s653:{x:Scope // sScope (stA 64)=x}:=by
 refine ⟨?l,?h⟩
 case h=>conv=>lhs;whnf
@[reducible] noncomputable def n660:{x:Str // sName (stA 65)=x}:=by
 refine ⟨?l,?h⟩
 case h=>conv=>lhs;whnf
@[reducible] noncomputable def a660:{x:Arguments // sArgs (stA 65)=x}:=by
 refine ⟨?l,?h⟩
 case h=>conv=>lhs;whnf
@[reducible] noncomputable def b660:{x:List Stmt // sBody (stA 65)=x}:=by
 refine ⟨?l,?h⟩
 case h=>conv=>lhs;whnf
@[reducible] noncomputable def s660:{x:Scope // sScope (stA 65)=x}:=by
 refine ⟨?l,?h⟩
 case h=>conv=>lhs;whnf
@[reducible] noncomputable def n681:{x:Str // sName (stA 68)=x}:=by
 refine ⟨?l,?h⟩
 case h=>conv=>lhs;whnf
@[reducible] noncomputable def a681:{x:Arguments // sArgs (stA 68)=x}:=by
 refine ⟨?l,?h⟩
 case h=>conv=>lhs;whnf
@[reducible] noncomputable def b681:{x:List Stmt // sBody (stA 68)=x}:=by
 refine ⟨?l,?h⟩
 case h=>conv=>lhs;whnf
@[reducible] noncomputable def s681:{x:Scope // sScope (stA 68)=x}:=by
 refine ⟨?l,?h⟩
 case h=>conv=>lhs;whnf
@[reducible] noncomputable def n688:{x:Str // sName (stA 69)=x}:=by
 refine ⟨?l,?h⟩
 case h=>conv=>lhs;whnf
@[reducible] noncomputable def a688:{x:Arguments // sArgs (stA 69)=x}:=by
 refine ⟨?l,?h⟩
 case h=>conv=>lhs;whnf
@[reducible] noncomputable def b688:{x:List Stmt // sBody (stA 69)=x}:=by
 refine ⟨?l,?h⟩
 case h=>conv=>lhs;whnf
@[reducible] noncomputable def s688:{x:Scope // sScope (stA 69)=x}:=by
 refine ⟨?l,?h⟩
 case h=>conv=>lhs;whnf
@[reducible] noncomputable def n695:{x:Str // sName (stA 70)=x}:=by
 refine ⟨?l,?h⟩
 case h=>conv=>lhs;whnf
@[reducible] noncomputable def a695:{x:Arguments // sArgs (stA 70)=x}:=by
 refine ⟨?l,?h⟩
 case h=>conv=>lhs;whnf
@[reducible] noncomputable def b695:{x:List Stmt // sBody (stA 70)=x}:=by
 refine ⟨?l,?h⟩
 case h=>conv=>lhs;whnf
@[reducible] noncomputable def s695:{x:Scope // sScope (stA 70)=x}:=by
 refine ⟨?l,?h⟩
 case h=>conv=>lhs;whnf
@[reducible] noncomputable def n707:{x:Str // sName (stA 72)=x}:=by
 refine ⟨?l,?h⟩
 case h=>conv=>lhs;whnf
@[reducible] noncomputable def a707:{x:Arguments // sArgs (stA 72)=x}:=by
 refine ⟨?l,?h⟩
 case h=>conv=>lhs;whnf
@[reducible] noncomputable def b707:{x:List Stmt // sBody (stA 72)=x}:=by
 refine ⟨?l,?h⟩
 case h=>conv=>lhs;whnf
@[reducible] noncomputable def s707:{x:Scope // sScope (stA 72)=x}:=by
 refine ⟨?l,?h⟩
 case h=>conv=>lhs;whnf
@[reducible] noncomputable def n712:{x:Str // sName (stA 73)=x}:=by
 refine ⟨?l,?h⟩
 case h=>conv=>lhs;whnf
@[reducible] noncomputable def a712:{x:Arguments // sArgs (stA 73)=x}:=by
 refine ⟨?l,?h⟩
 case h=>conv=>lhs;whnf
@[reducible] noncomputable def b712:{x:List Stmt // sBody (stA 73)=x}:=by
 refine ⟨?l,?h⟩
 case h=>conv=>lhs;whnf
@[reducible] noncomputable def s712:{x:Scope // sScope (stA 73)=x}:=by
 refine ⟨?l,?h⟩
 case h=>conv=>lhs;whnf
noncomputable def K (P:Params):Frag :=
 (nat_lit 3,{cls:=.type "dict",data:=.dict #[kv P (S [95,95,110,97,109,101,95,95]) 165 (.str (S zq3) 1005),kv P (S zq16) 166 (.none),kv P (S [95,95,112,97,99,107,97,103,101,95,95]) 167 (.none),kv P (S [95,95,108,111,97,100,101,114,95,95]) 168 (.builtin "__main__.__loader__#opaque"),kv P (S [95,95,115,112,101,99,95,95]) 169 (.none),kv P (S [95,95,97,110,110,111,116,97,116,105,111,110,115,95,95]) 170 (.ref 6),kv P (S [95,95,98,117,105,108,116,105,110,115,95,95]) 171 (.ref 4),kv P (S [95,95,102,105,108,101,95,95]) 173 (.str (S zq0) 172),kv P (S [95,95,99,97,99,104,101,100,95,95]) 174 (.none),kv P (S [95,119,97,108,108]) 193 (.ref 21),kv P (S [70,73,71,85,82,69,83]) 197 (.str (S [48,49,50,51,52,53,54,55,56,57,97,98,99,100,101,102]) 196),kv P (S [77,105,110,116,69,114,114,111,114]) 235 (.ref 46),kv P (S [79,112,101,114,97,110,100,69,114,114,111,114]) 251 (.ref 59),kv P (S [109,97,115,107]) 258 (.ref 68),kv P (S [119,114,97,112]) 266 (.ref 75),kv P (S [102,105,116,115,95,115,105,103,110,101,100]) 275 (.ref 82),kv P (S [102,105,103,117,114,101,115,95,111,102]) 285 (.ref 89),kv P (S [104,101,120,95,116,101,120,116]) 292 (.ref 96),kv P (S [111,99,116,101,116,115,95,116,101,120,116]) 298 (.ref 101),kv P (S [79,112,101,114,97,110,100]) 350 (.ref 139),kv P (S [82,101,103]) 389 (.ref 174),kv P (S [73,109,109]) 431 (.ref 208),kv P (S [82,101,108]) 481 (.ref 249),kv P (S [77,101,109]) 555 (.ref 302),kv P (S zq12) 628 (.ref 355),kv P (S [111,112,101,114,97,110,100,95,115,105,122,101]) 635 (.ref 366),kv P (S [67,79,85,78,84,95,78,65,77,69,83]) 639 (.str (S [114,111,108,32,114,111,114,32,114,99,108,32,114,99,114,32,115,104,108,32,115,104,114,32,115,97,114,32,115,104,108,100,32,115,104,114,100]) 638),kv P (S [84,65,82,71,69,84,95,78,65,77,69,83]) 641 (.str (S [106,109,112,32,99,97,108,108]) 640),kv P (S [80,76,65,73,78,95,73,78,84,69,76]) 643 (.str (S [99,98,119,32,99,119,100,101,32,99,100,113,101,32,99,119,100,32,99,100,113,32,99,113,111,32,109,111,118,115,100,32,99,109,112,115,100,32,115,116,111,115,100,32,108,111,100,115,100,32,115,99,97,115,100]) 642),kv P (S [80,76,65,73,78,95,65,84,84]) 645 (.str (S [99,98,116,119,32,99,119,116,108,32,99,108,116,113,32,99,119,116,100,32,99,108,116,100,32,99,113,116,111,32,109,111,118,115,108,32,99,109,112,115,108,32,115,116,111,115,108,32,108,111,100,115,108,32,115,99,97,115,108]) 644),kv P (S [79,67,84,69,84,83,95,65,95,76,73,78,69]) 647 (.int 7 646),kv P (S [115,105,122,101,95,108,101,116,116,101,114]) 654 (.ref 373),kv P (S [115,105,122,101,95,119,111,114,100]) 661 (.ref 380),kv P (S [112,108,117,115,95,116,101,120,116]) 669 (.ref 387),kv P (S [115,117,109,95,116,101,120,116]) 677 (.ref 394),kv P (S [97,104,101,97,100,95,116,101,120,116]) 684 (.ref 401),kv P (S [105,115,95,103,101,110,101,114,97,108]) 691 (.ref 408),kv P (S [105,115,95,99,111,117,110,116]) 700 (.ref 415),kv P (S [109,101,109,111,114,121,95,97,116,116]) 709 (.ref 422),kv P (S [111,112,101,114,97,110,100,95,97,116,116]) 716 (.ref 429),kv P (S [115,117,102,102,105,120,95,111,102]) 727 (.ref 436),kv P (S zq11) 737 (.ref 443),kv P (S zq10) 746 (.ref 450),kv P (S [97,116,116,95,110,97,109,101]) 757 (.ref 457),kv P (S [119,105,116,104,95,112,114,101,102,105,120]) 768 (.ref 464),kv P (S [105,115,95,116,97,114,103,101,116]) 775 (.ref 471),kv P (S [116,101,120,116,115,95,97,116,116]) 785 (.ref 478),kv P (S [119,114,105,116,101,95,97,116,116]) 793 (.ref 485),kv P (S [109,101,109,111,114,121,95,105,110,116,101,108]) 804 (.ref 492),kv P (S zq15) 811 (.ref 499),kv P (S [119,114,105,116,101,95,105,110,116,101,108]) 820 (.ref 506),kv P (S [119,114,105,116,101,95,111,110,101]) 828 (.ref 513),kv P (S [119,114,105,116,101,95,114,111,119,115]) 838 (.ref 520),kv P (S [110,101,97,114,95,115,121,109,98,111,108]) 850 (.ref 527),kv P (S [116,111,108,100,95,112,108,97,99,101]) 859 (.ref 534),kv P (S [119,114,105,116,101,95,112,108,97,99,101,100]) 874 (.ref 541),kv P (S [100,117,109,112,95,114,111,119,115]) 888 (.ref 548),kv P (S [78,65,77,69,83,95,56]) 892 (.str (S [97,108,32,99,108,32,100,108,32,98,108,32,115,112,108,32,98,112,108,32,115,105,108,32,100,105,108]) 891),kv P (S [78,65,77,69,83,95,49,54]) 894 (.str (S [97,120,32,99,120,32,100,120,32,98,120,32,115,112,32,98,112,32,115,105,32,100,105]) 893),kv P (S [78,65,77,69,83,95,51,50]) 896 (.str (S [101,97,120,32,101,99,120,32,101,100,120,32,101,98,120,32,101,115,112,32,101,98,112,32,101,115,105,32,101,100,105]) 895),kv P (S [78,65,77,69,83,95,54,52]) 898 (.str (S [114,97,120,32,114,99,120,32,114,100,120,32,114,98,120,32,114,115,112,32,114,98,112,32,114,115,105,32,114,100,105]) 897),kv P (S [82,101,103,105,115,116,101,114]) 968 (.ref 600),kv P (S [101,97,114,108,121,95,110,97,109,101,115]) 975 (.ref 611),kv P (S [108,97,116,101,95,101,110,100,105,110,103]) 982 (.ref 618),kv P (S [103,112,114]) 991 (.ref 625),kv P (S [120,109,109]) 998 (.ref 632),kv P (S [114,105,112]) 1004 (.ref 639),kv P (S [95,108,97,119,95,116,97,107,101]) 1015 (.ref 646),kv P (S [95,108,97,119,95,98,97,103]) 1024 (.ref 653),kv P (S [95,108,97,119,95,112,108,97,99,101]) 1032 (.ref 660),kv P (S [95,108,97,119,95,119,111,114,116,104]) 1039 (.ref 667),kv P (S [95,108,97,119,95,108,105,110,101]) 1052 (.ref 674),kv P (S [95,108,97,119,95,110,101,97,114,101,115,116]) 1064 (.ref 681),kv P (S zq14) 1072 (.ref 688),kv P (S [95,108,97,119,95,105,115,95,112,108,97,99,101]) 1083 (.ref 695),kv P (S [95,108,97,119,95,105,115,95,108,105,110,101]) 1097 (.ref 702),kv P (S zq13) 1103 (.ref 707),kv P (S [108,97,119]) 1109 (.ref 712)] 78}) ::
 (nat_lit 2,{cls:=.none,data:=.dict #[kv P (S [116,121,112,101,46,95,95,115,117,98,99,108,97,115,115,101,115,95,95,46,69,120,99,101,112,116,105,111,110,46,48]) 232 (.int 46 0),kv P (S [116,121,112,101,46,95,95,115,117,98,99,108,97,115,115,101,115,95,95,46,69,120,99,101,112,116,105,111,110,46,110]) 233 (.int 1 0)] 2}) ::
 (nat_lit 68,fnO (stA 5) (S [109,97,115,107]) (.none) (.str (S zq8) 194) (.ref 67)) ::
 (nat_lit 67,cO #[.str (S [109,97,115,107]) 252,.str (S [109,97,115,107]) 253,.str (S zq0) 254,.int 17 0,.int 1 0,.int 0 0,.int 0 0,.int 3 0,.ref 62,.bool true,.int 181 0,.ref 63,.none,.ref 64,.ref 65,.ref 66,.int 256 0,.int 17 0,.str (S zq0) 257]) ::
 (nat_lit 75,fnO (stA 6) (S [119,114,97,112]) (.none) (.str (S zq8) 194) (.ref 74)) ::
 (nat_lit 74,cO #[.str (S [119,114,97,112]) 259,.str (S [119,114,97,112]) 260,.str (S zq0) 261,.int 19 0,.int 2 0,.int 0 0,.int 0 0,.int 3 0,.ref 69,.bool true,.int 181 0,.ref 70,.none,.ref 71,.ref 72,.ref 73,.int 264 0,.int 19 0,.str (S zq0) 265]) ::
 (nat_lit 82,fnO (stA 7) (S [102,105,116,115,95,115,105,103,110,101,100]) (.none) (.str (S zq8) 194) (.ref 81)) ::
 (nat_lit 81,cO #[.str (S [102,105,116,115,95,115,105,103,110,101,100]) 267,.str (S [102,105,116,115,95,115,105,103,110,101,100]) 268,.str (S zq0) 269,.int 21 0,.int 2 0,.int 0 0,.int 0 0,.int 3 0,.ref 76,.bool true,.int 181 0,.ref 77,.none,.ref 78,.ref 79,.ref 80,.int 273 0,.int 21 0,.str (S zq0) 274]) ::
 (nat_lit 89,fnX n89.1 a89.1 b89.1 s89.1 (S [102,105,103,117,114,101,115,95,111,102]) (.none) (.str (S zq8) 194) (.ref 88)) ::
 (nat_lit 88,cO #[.str (S [102,105,103,117,114,101,115,95,111,102]) 276,.str (S [102,105,103,117,114,101,115,95,111,102]) 277,.str (S zq0) 278,.int 24 0,.int 2 0,.int 0 0,.int 0 0,.int 3 0,.ref 83,.bool true,.int 181 0,.ref 84,.none,.ref 85,.ref 86,.ref 87,.int 283 0,.int 24 0,.str (S zq0) 284]) ::
 (nat_lit 96,fnO (stA 9) (S [104,101,120,95,116,101,120,116]) (.none) (.str (S zq8) 194) (.ref 95)) ::
 (nat_lit 95,cO #[.str (S [104,101,120,95,116,101,120,116]) 286,.str (S [104,101,120,95,116,101,120,116]) 287,.str (S zq0) 288,.int 31 0,.int 1 0,.int 0 0,.int 0 0,.int 3 0,.ref 90,.bool true,.int 181 0,.ref 91,.none,.ref 92,.ref 93,.ref 94,.int 290 0,.int 31 0,.str (S zq0) 291]) ::
 (nat_lit 101,fnX n101.1 a101.1 b101.1 s101.1 (S [111,99,116,101,116,115,95,116,101,120,116]) (.none) (.str (S zq8) 194) (.ref 100)) ::
 (nat_lit 100,cO #[.str (S [111,99,116,101,116,115,95,116,101,120,116]) 293,.str (S [111,99,116,101,116,115,95,116,101,120,116]) 294,.str (S zq0) 295,.int 35 0,.int 1 0,.int 0 0,.int 0 0,.int 3 0,.ref 97,.bool true,.int 181 0,.ref 98,.none,.none,.none,.ref 99,.int 296 0,.int 35 0,.str (S zq0) 297]) ::
 (nat_lit 139,{cls:=.type "type",data:=.cls {name:=(S [79,112,101,114,97,110,100]),bases:=[.type "object"],mro:=[.ref 139,.type "object"],ns:=138,qualname:=(S [79,112,101,114,97,110,100]),hasDict:=true,slotNames:=[],subclasses:=[.ref 174,.ref 208,.ref 249,.ref 302],abstract:=false,collection:=none,hasDel:=false},slots:=#[none,none,some (.str (S [79,112,101,114,97,110,100]) 301),some (.str (S [79,112,101,114,97,110,100]) 309),some (.builtin "object.__new__"),some (.bool true)]}) ::
 (nat_lit 138,{cls:=.type "dict",data:=.dict #[kv P (S zq9) 308 (.str (S zq2) 299),kv P (S zq7) 312 (.int 38 311),kv P (S zq6) 320 (.ref 115),kv P (S [116,111,108,100]) 327 (.ref 122),kv P (S [115,121,109,98,111,108]) 334 (.ref 129),kv P (S [114,101,103,105,115,116,101,114,115]) 341 (.ref 136),kv P (S zq4) 343 (.ref 137),kv P (S [95,95,100,105,99,116,95,95]) 345 (.ref 140),kv P (S [95,95,119,101,97,107,114,101,102,95,95]) 347 (.ref 141),kv P (S zq16) 348 (.none)] 4}) ::
 (nat_lit 115,fnO (mtA 12 0) (S [79,112,101,114,97,110,100,46,95,95,105,110,105,116,95,95]) (.none) (.str (S zq2) 299) (.ref 114)) ::
 (nat_lit 114,cO #[.str (S zq6) 313,.str (S [79,112,101,114,97,110,100,46,95,95,105,110,105,116,95,95]) 314,.str (S zq0) 315,.int 40 0,.int 2 0,.int 0 0,.int 0 0,.int 3 0,.ref 109,.bool true,.int 181 0,.ref 110,.none,.ref 111,.ref 112,.ref 113,.int 318 0,.int 40 0,.str (S zq0) 319]) ::
 (nat_lit 174,{cls:=.type "type",data:=.cls {name:=(S [82,101,103]),bases:=[.ref 139],mro:=[.ref 174,.ref 139,.type "object"],ns:=173,qualname:=(S [82,101,103]),hasDict:=true,slotNames:=[],subclasses:=[],abstract:=false,collection:=none,hasDel:=false},slots:=#[some (.ref 144),none,some (.str (S [82,101,103]) 351),some (.str (S [82,101,103]) 359),some (.builtin "object.__new__"),some (.bool true)]}) ::
 (nat_lit 173,{cls:=.type "dict",data:=.dict #[kv P (S zq9) 358 (.str (S zq2) 299),kv P (S zq7) 362 (.int 51 361),kv P (S zq6) 370 (.ref 157),kv P (S [116,111,108,100]) 377 (.ref 164),kv P (S [114,101,103,105,115,116,101,114,115]) 384 (.ref 171),kv P (S zq4) 386 (.ref 172),kv P (S zq16) 387 (.none)] 2}) ::
 (nat_lit 157,fnO (mtA 13 0) (S [82,101,103,46,95,95,105,110,105,116,95,95]) (.none) (.str (S zq2) 299) (.ref 156)) ::
 (nat_lit 156,cO #[.str (S zq6) 363,.str (S [82,101,103,46,95,95,105,110,105,116,95,95]) 364,.str (S zq0) 365,.int 53 0,.int 2 0,.int 0 0,.int 0 0,.int 3 0,.ref 151,.bool true,.int 181 0,.ref 152,.none,.ref 153,.ref 154,.ref 155,.int 368 0,.int 53 0,.str (S zq0) 369]) ::
 (nat_lit 208,{cls:=.type "type",data:=.cls {name:=(S [73,109,109]),bases:=[.ref 139],mro:=[.ref 208,.ref 139,.type "object"],ns:=207,qualname:=(S [73,109,109]),hasDict:=true,slotNames:=[],subclasses:=[],abstract:=false,collection:=none,hasDel:=false},slots:=#[some (.ref 177),none,some (.str (S [73,109,109]) 390),some (.str (S [73,109,109]) 398),some (.builtin "object.__new__"),some (.bool true)]}) ::
 (nat_lit 207,{cls:=.type "dict",data:=.dict #[kv P (S zq9) 397 (.str (S zq2) 299),kv P (S zq7) 401 (.int 62 400),kv P (S zq6) 411 (.ref 191),kv P (S [116,111,108,100]) 418 (.ref 198),kv P (S [115,121,109,98,111,108]) 425 (.ref 205),kv P (S zq4) 428 (.ref 206),kv P (S zq16) 429 (.none)] 2}) ::
 (nat_lit 191,fnO (mtA 14 0) (S [73,109,109,46,95,95,105,110,105,116,95,95]) (.ref 184) (.str (S zq2) 299) (.ref 190)) ::
 (nat_lit 190,cO #[.str (S zq6) 403,.str (S [73,109,109,46,95,95,105,110,105,116,95,95]) 404,.str (S zq0) 405,.int 64 0,.int 3 0,.int 0 0,.int 0 0,.int 3 0,.ref 185,.bool true,.int 181 0,.ref 186,.none,.ref 187,.ref 188,.ref 189,.int 409 0,.int 64 0,.str (S zq0) 410]) ::
 (nat_lit 184,{cls:=.type "tuple",data:=.seq #[.str (S []) 402] 0}) ::
 (nat_lit 249,{cls:=.type "type",data:=.cls {name:=(S [82,101,108]),bases:=[.ref 139],mro:=[.ref 249,.ref 139,.type "object"],ns:=248,qualname:=(S [82,101,108]),hasDict:=true,slotNames:=[],subclasses:=[],abstract:=false,collection:=none,hasDel:=false},slots:=#[some (.ref 211),none,some (.str (S [82,101,108]) 432),some (.str (S [82,101,108]) 440),some (.builtin "object.__new__"),some (.bool true)]}) ::
 (nat_lit 248,{cls:=.type "dict",data:=.dict #[kv P (S zq9) 439 (.str (S zq2) 299),kv P (S zq7) 443 (.int 74 442),kv P (S zq6) 453 (.ref 225),kv P (S [116,111,108,100]) 460 (.ref 232),kv P (S [115,121,109,98,111,108]) 467 (.ref 239),kv P (S [116,97,114,103,101,116]) 475 (.ref 246),kv P (S zq4) 478 (.ref 247),kv P (S zq16) 479 (.none)] 2}) ::
 (nat_lit 225,fnO (mtA 15 0) (S [82,101,108,46,95,95,105,110,105,116,95,95]) (.ref 218) (.str (S zq2) 299) (.ref 224)) ::
 (nat_lit 224,cO #[.str (S zq6) 445,.str (S [82,101,108,46,95,95,105,110,105,116,95,95]) 446,.str (S zq0) 447,.int 76 0,.int 3 0,.int 0 0,.int 0 0,.int 3 0,.ref 219,.bool true,.int 181 0,.ref 220,.none,.ref 221,.ref 222,.ref 223,.int 451 0,.int 76 0,.str (S zq0) 452]) ::
 (nat_lit 218,{cls:=.type "tuple",data:=.seq #[.str (S []) 444] 0}) ::
 (nat_lit 302,{cls:=.type "type",data:=.cls {name:=(S [77,101,109]),bases:=[.ref 139],mro:=[.ref 302,.ref 139,.type "object"],ns:=301,qualname:=(S [77,101,109]),hasDict:=true,slotNames:=[],subclasses:=[],abstract:=false,collection:=none,hasDel:=false},slots:=#[some (.ref 252),none,some (.str (S [77,101,109]) 482),some (.str (S [77,101,109]) 490),some (.builtin "object.__new__"),some (.bool true)]}) ::
 (nat_lit 301,{cls:=.type "dict",data:=.dict #[kv P (S zq9) 489 (.str (S zq2) 299),kv P (S zq7) 493 (.int 89 492),kv P (S zq6) 510 (.ref 266),kv P (S [116,111,108,100]) 517 (.ref 273),kv P (S [115,121,109,98,111,108]) 524 (.ref 280),kv P (S [114,101,103,105,115,116,101,114,115]) 530 (.ref 285),kv P (S [105,115,95,114,105,112]) 537 (.ref 292),kv P (S [105,115,95,97,98,115,111,108,117,116,101]) 544 (.ref 299),kv P (S zq4) 552 (.ref 300),kv P (S zq16) 553 (.none)] 2}) ::
 (nat_lit 266,fnO (mtA 16 0) (S [77,101,109,46,95,95,105,110,105,116,95,95]) (.ref 259) (.str (S zq2) 299) (.ref 265)) ::
 (nat_lit 265,cO #[.str (S zq6) 497,.str (S [77,101,109,46,95,95,105,110,105,116,95,95]) 498,.str (S zq0) 499,.int 91 0,.int 8 0,.int 0 0,.int 0 0,.int 3 0,.ref 260,.bool true,.int 181 0,.ref 261,.none,.ref 262,.ref 263,.ref 264,.int 508 0,.int 91 0,.str (S zq0) 509]) ::
 (nat_lit 259,{cls:=.type "tuple",data:=.seq #[.int 0 494,.str (S []) 495,.str (S []) 496] 0}) ::
 (nat_lit 355,{cls:=.type "type",data:=.cls {name:=(S zq12),bases:=[.type "object"],mro:=[.ref 355,.type "object"],ns:=354,qualname:=(S zq12),hasDict:=true,slotNames:=[],subclasses:=[],abstract:=false,collection:=none,hasDel:=false},slots:=#[none,none,some (.str (S zq12) 556),some (.str (S zq12) 564),some (.builtin "object.__new__"),some (.bool true)]}) ::
 (nat_lit 354,{cls:=.type "dict",data:=.dict #[kv P (S zq9) 563 (.str (S zq2) 299),kv P (S zq7) 567 (.int 115 566),kv P (S zq6) 578 (.ref 319),kv P (S [116,111,108,100]) 585 (.ref 326),kv P (S [109,101,109,111,114,121,95,97,116]) 594 (.ref 333),kv P (S [109,101,109,111,114,121]) 602 (.ref 340),kv P (S [115,121,109,98,111,108,115]) 608 (.ref 345),kv P (S [114,101,112,108,97,99,101,100]) 617 (.ref 352),kv P (S zq4) 621 (.ref 353),kv P (S [95,95,100,105,99,116,95,95]) 623 (.ref 356),kv P (S [95,95,119,101,97,107,114,101,102,95,95]) 625 (.ref 357),kv P (S zq16) 626 (.none)] 4}) ::
 (nat_lit 319,fnO (mtA 17 0) (S [73,110,115,116,114,117,99,116,105,111,110,46,95,95,105,110,105,116,95,95]) (.ref 312) (.str (S zq2) 299) (.ref 318)) ::
 (nat_lit 318,cO #[.str (S zq6) 569,.str (S [73,110,115,116,114,117,99,116,105,111,110,46,95,95,105,110,105,116,95,95]) 570,.str (S zq0) 571,.int 117 0,.int 4 0,.int 0 0,.int 0 0,.int 3 0,.ref 313,.bool true,.int 181 0,.ref 314,.none,.ref 315,.ref 316,.ref 317,.int 576 0,.int 117 0,.str (S zq0) 577]) ::
 (nat_lit 312,{cls:=.type "tuple",data:=.seq #[.str (S []) 568] 0}) ::
 (nat_lit 366,fnO (stA 18) (S [111,112,101,114,97,110,100,95,115,105,122,101]) (.none) (.str (S zq2) 299) (.ref 365)) ::
 (nat_lit 365,cO #[.str (S [111,112,101,114,97,110,100,95,115,105,122,101]) 629,.str (S [111,112,101,114,97,110,100,95,115,105,122,101]) 630,.str (S zq0) 631,.int 140 0,.int 1 0,.int 0 0,.int 0 0,.int 3 0,.ref 360,.bool true,.int 181 0,.ref 361,.none,.ref 362,.ref 363,.ref 364,.int 633 0,.int 140 0,.str (S zq0) 634]) ::
 (nat_lit 373,fnO (stA 25) (S [115,105,122,101,95,108,101,116,116,101,114]) (.none) (.str (S zq1) 636) (.ref 372)) ::
 (nat_lit 372,cO #[.str (S [115,105,122,101,95,108,101,116,116,101,114]) 648,.str (S [115,105,122,101,95,108,101,116,116,101,114]) 649,.str (S zq0) 650,.int 150 0,.int 1 0,.int 0 0,.int 0 0,.int 3 0,.ref 367,.bool true,.int 181 0,.ref 368,.none,.ref 369,.ref 370,.ref 371,.int 652 0,.int 150 0,.str (S zq0) 653]) ::
 (nat_lit 380,fnO (stA 26) (S [115,105,122,101,95,119,111,114,100]) (.none) (.str (S zq1) 636) (.ref 379)) ::
 (nat_lit 379,cO #[.str (S [115,105,122,101,95,119,111,114,100]) 655,.str (S [115,105,122,101,95,119,111,114,100]) 656,.str (S zq0) 657,.int 160 0,.int 1 0,.int 0 0,.int 0 0,.int 3 0,.ref 374,.bool true,.int 181 0,.ref 375,.none,.ref 376,.ref 377,.ref 378,.int 659 0,.int 160 0,.str (S zq0) 660]) ::
 (nat_lit 387,fnO (stA 27) (S [112,108,117,115,95,116,101,120,116]) (.none) (.str (S zq1) 636) (.ref 386)) ::
 (nat_lit 386,cO #[.str (S [112,108,117,115,95,116,101,120,116]) 662,.str (S [112,108,117,115,95,116,101,120,116]) 663,.str (S zq0) 664,.int 172 0,.int 2 0,.int 0 0,.int 0 0,.int 3 0,.ref 381,.bool true,.int 181 0,.ref 382,.none,.ref 383,.ref 384,.ref 385,.int 667 0,.int 172 0,.str (S zq0) 668]) ::
 (nat_lit 394,fnO (stA 28) (S [115,117,109,95,116,101,120,116]) (.none) (.str (S zq1) 636) (.ref 393)) ::
 (nat_lit 393,cO #[.str (S [115,117,109,95,116,101,120,116]) 670,.str (S [115,117,109,95,116,101,120,116]) 671,.str (S zq0) 672,.int 178 0,.int 2 0,.int 0 0,.int 0 0,.int 3 0,.ref 388,.bool true,.int 181 0,.ref 389,.none,.ref 390,.ref 391,.ref 392,.int 675 0,.int 178 0,.str (S zq0) 676]) ::
 (nat_lit 401,fnO (stA 29) (S [97,104,101,97,100,95,116,101,120,116]) (.none) (.str (S zq1) 636) (.ref 400)) ::
 (nat_lit 400,cO #[.str (S [97,104,101,97,100,95,116,101,120,116]) 678,.str (S [97,104,101,97,100,95,116,101,120,116]) 679,.str (S zq0) 680,.int 184 0,.int 1 0,.int 0 0,.int 0 0,.int 3 0,.ref 395,.bool true,.int 181 0,.ref 396,.none,.ref 397,.ref 398,.ref 399,.int 682 0,.int 184 0,.str (S zq0) 683]) ::
 (nat_lit 408,fnO (stA 30) (S [105,115,95,103,101,110,101,114,97,108]) (.none) (.str (S zq1) 636) (.ref 407)) ::
 (nat_lit 407,cO #[.str (S [105,115,95,103,101,110,101,114,97,108]) 685,.str (S [105,115,95,103,101,110,101,114,97,108]) 686,.str (S zq0) 687,.int 188 0,.int 1 0,.int 0 0,.int 0 0,.int 3 0,.ref 402,.bool true,.int 181 0,.ref 403,.none,.ref 404,.ref 405,.ref 406,.int 689 0,.int 188 0,.str (S zq0) 690]) ::
 (nat_lit 415,fnO (stA 31) (S [105,115,95,99,111,117,110,116]) (.none) (.str (S zq1) 636) (.ref 414)) ::
 (nat_lit 414,cO #[.str (S [105,115,95,99,111,117,110,116]) 692,.str (S [105,115,95,99,111,117,110,116]) 693,.str (S zq0) 694,.int 190 0,.int 2 0,.int 0 0,.int 0 0,.int 3 0,.ref 409,.bool true,.int 181 0,.ref 410,.none,.ref 411,.ref 412,.ref 413,.int 698 0,.int 190 0,.str (S zq0) 699]) ::
 (nat_lit 422,fnO (stA 32) (S [109,101,109,111,114,121,95,97,116,116]) (.none) (.str (S zq1) 636) (.ref 421)) ::
 (nat_lit 421,cO #[.str (S [109,101,109,111,114,121,95,97,116,116]) 701,.str (S [109,101,109,111,114,121,95,97,116,116]) 702,.str (S zq0) 703,.int 197 0,.int 1 0,.int 0 0,.int 0 0,.int 3 0,.ref 416,.bool true,.int 181 0,.ref 417,.none,.ref 418,.ref 419,.ref 420,.int 707 0,.int 197 0,.str (S zq0) 708]) ::
 (nat_lit 429,fnO (stA 33) (S [111,112,101,114,97,110,100,95,97,116,116]) (.none) (.str (S zq1) 636) (.ref 428)) ::
 (nat_lit 428,cO #[.str (S [111,112,101,114,97,110,100,95,97,116,116]) 710,.str (S [111,112,101,114,97,110,100,95,97,116,116]) 711,.str (S zq0) 712,.int 213 0,.int 1 0,.int 0 0,.int 0 0,.int 3 0,.ref 423,.bool true,.int 181 0,.ref 424,.none,.ref 425,.ref 426,.ref 427,.int 714 0,.int 213 0,.str (S zq0) 715]) ::
 (nat_lit 436,fnO (stA 34) (S [115,117,102,102,105,120,95,111,102]) (.none) (.str (S zq1) 636) (.ref 435)) ::
 (nat_lit 435,cO #[.str (S [115,117,102,102,105,120,95,111,102]) 717,.str (S [115,117,102,102,105,120,95,111,102]) 718,.str (S zq0) 719,.int 225 0,.int 1 0,.int 0 0,.int 0 0,.int 3 0,.ref 430,.bool true,.int 181 0,.ref 431,.none,.ref 432,.ref 433,.ref 434,.int 725 0,.int 225 0,.str (S zq0) 726]) ::
 (nat_lit 443,fnO (stA 35) (S zq11) (.none) (.str (S zq1) 636) (.ref 442)) ::
 (nat_lit 442,cO #[.str (S zq11) 728,.str (S zq11) 729,.str (S zq0) 730,.int 242 0,.int 1 0,.int 0 0,.int 0 0,.int 3 0,.ref 437,.bool true,.int 181 0,.ref 438,.none,.ref 439,.ref 440,.ref 441,.int 735 0,.int 242 0,.str (S zq0) 736]) ::
 (nat_lit 450,fnO (stA 36) (S zq10) (.none) (.str (S zq1) 636) (.ref 449)) ::
 (nat_lit 449,cO #[.str (S zq10) 738,.str (S zq10) 739,.str (S zq0) 740,.int 253 0,.int 1 0,.int 0 0,.int 0 0,.int 3 0,.ref 444,.bool true,.int 181 0,.ref 445,.none,.ref 446,.ref 447,.ref 448,.int 744 0,.int 253 0,.str (S zq0) 745]) ::
 (nat_lit 457,fnO (stA 37) (S [97,116,116,95,110,97,109,101]) (.none) (.str (S zq1) 636) (.ref 456)) ::
 (nat_lit 456,cO #[.str (S [97,116,116,95,110,97,109,101]) 747,.str (S [97,116,116,95,110,97,109,101]) 748,.str (S zq0) 749,.int 261 0,.int 1 0,.int 0 0,.int 0 0,.int 3 0,.ref 451,.bool true,.int 181 0,.ref 452,.none,.ref 453,.ref 454,.ref 455,.int 755 0,.int 261 0,.str (S zq0) 756]) ::
 (nat_lit 464,fnO (stA 38) (S [119,105,116,104,95,112,114,101,102,105,120]) (.none) (.str (S zq1) 636) (.ref 463)) ::
 (nat_lit 463,cO #[.str (S [119,105,116,104,95,112,114,101,102,105,120]) 758,.str (S [119,105,116,104,95,112,114,101,102,105,120]) 759,.str (S zq0) 760,.int 275 0,.int 4 0,.int 0 0,.int 0 0,.int 3 0,.ref 458,.bool true,.int 181 0,.ref 459,.none,.ref 460,.ref 461,.ref 462,.int 766 0,.int 275 0,.str (S zq0) 767]) ::
 (nat_lit 471,fnO (stA 39) (S [105,115,95,116,97,114,103,101,116]) (.none) (.str (S zq1) 636) (.ref 470)) ::
 (nat_lit 470,cO #[.str (S [105,115,95,116,97,114,103,101,116]) 769,.str (S [105,115,95,116,97,114,103,101,116]) 770,.str (S zq0) 771,.int 282 0,.int 1 0,.int 0 0,.int 0 0,.int 3 0,.ref 465,.bool true,.int 181 0,.ref 466,.none,.ref 467,.ref 468,.ref 469,.int 773 0,.int 282 0,.str (S zq0) 774]) ::
 (nat_lit 478,fnO (stA 40) (S [116,101,120,116,115,95,97,116,116]) (.none) (.str (S zq1) 636) (.ref 477)) ::
 (nat_lit 477,cO #[.str (S [116,101,120,116,115,95,97,116,116]) 776,.str (S [116,101,120,116,115,95,97,116,116]) 777,.str (S zq0) 778,.int 286 0,.int 1 0,.int 0 0,.int 0 0,.int 3 0,.ref 472,.bool true,.int 181 0,.ref 473,.none,.ref 474,.ref 475,.ref 476,.int 783 0,.int 286 0,.str (S zq0) 784]) ::
 (nat_lit 485,fnO (stA 41) (S [119,114,105,116,101,95,97,116,116]) (.none) (.str (S zq1) 636) (.ref 484)) ::
 (nat_lit 484,cO #[.str (S [119,114,105,116,101,95,97,116,116]) 786,.str (S [119,114,105,116,101,95,97,116,116]) 787,.str (S zq0) 788,.int 294 0,.int 1 0,.int 0 0,.int 0 0,.int 3 0,.ref 479,.bool true,.int 181 0,.ref 480,.none,.ref 481,.ref 482,.ref 483,.int 791 0,.int 294 0,.str (S zq0) 792]) ::
 (nat_lit 492,fnO (stA 42) (S [109,101,109,111,114,121,95,105,110,116,101,108]) (.none) (.str (S zq1) 636) (.ref 491)) ::
 (nat_lit 491,cO #[.str (S [109,101,109,111,114,121,95,105,110,116,101,108]) 794,.str (S [109,101,109,111,114,121,95,105,110,116,101,108]) 795,.str (S zq0) 796,.int 297 0,.int 1 0,.int 0 0,.int 0 0,.int 3 0,.ref 486,.bool true,.int 181 0,.ref 487,.none,.ref 488,.ref 489,.ref 490,.int 802 0,.int 297 0,.str (S zq0) 803]) ::
 (nat_lit 499,fnO (stA 43) (S zq15) (.none) (.str (S zq1) 636) (.ref 498)) ::
 (nat_lit 498,cO #[.str (S zq15) 805,.str (S zq15) 806,.str (S zq0) 807,.int 318 0,.int 1 0,.int 0 0,.int 0 0,.int 3 0,.ref 493,.bool true,.int 181 0,.ref 494,.none,.ref 495,.ref 496,.ref 497,.int 809 0,.int 318 0,.str (S zq0) 810]) ::
 (nat_lit 506,fnO (stA 44) (S [119,114,105,116,101,95,105,110,116,101,108]) (.none) (.str (S zq1) 636) (.ref 505)) ::
 (nat_lit 505,cO #[.str (S [119,114,105,116,101,95,105,110,116,101,108]) 812,.str (S [119,114,105,116,101,95,105,110,116,101,108]) 813,.str (S zq0) 814,.int 330 0,.int 1 0,.int 0 0,.int 0 0,.int 3 0,.ref 500,.bool true,.int 181 0,.ref 501,.none,.ref 502,.ref 503,.ref 504,.int 818 0,.int 330 0,.str (S zq0) 819]) ::
 (nat_lit 513,fnO (stA 45) (S [119,114,105,116,101,95,111,110,101]) (.none) (.str (S zq1) 636) (.ref 512)) ::
 (nat_lit 512,cO #[.str (S [119,114,105,116,101,95,111,110,101]) 821,.str (S [119,114,105,116,101,95,111,110,101]) 822,.str (S zq0) 823,.int 335 0,.int 2 0,.int 0 0,.int 0 0,.int 3 0,.ref 507,.bool true,.int 181 0,.ref 508,.none,.ref 509,.ref 510,.ref 511,.int 826 0,.int 335 0,.str (S zq0) 827]) ::
 (nat_lit 520,fnX n520.1 a520.1 b520.1 s520.1 (S [119,114,105,116,101,95,114,111,119,115]) (.none) (.str (S zq1) 636) (.ref 519)) ::
 (nat_lit 519,cO #[.str (S [119,114,105,116,101,95,114,111,119,115]) 829,.str (S [119,114,105,116,101,95,114,111,119,115]) 830,.str (S zq0) 831,.int 339 0,.int 2 0,.int 0 0,.int 0 0,.int 3 0,.ref 514,.bool true,.int 181 0,.ref 515,.none,.ref 516,.ref 517,.ref 518,.int 836 0,.int 339 0,.str (S zq0) 837]) ::
 (nat_lit 527,fnX n527.1 a527.1 b527.1 s527.1 (S [110,101,97,114,95,115,121,109,98,111,108]) (.none) (.str (S zq1) 636) (.ref 526)) ::
 (nat_lit 526,cO #[.str (S [110,101,97,114,95,115,121,109,98,111,108]) 839,.str (S [110,101,97,114,95,115,121,109,98,111,108]) 840,.str (S zq0) 841,.int 346 0,.int 2 0,.int 0 0,.int 0 0,.int 3 0,.ref 521,.bool true,.int 181 0,.ref 522,.none,.ref 523,.ref 524,.ref 525,.int 848 0,.int 346 0,.str (S zq0) 849]) ::
 (nat_lit 534,fnX n534.1 a534.1 b534.1 s534.1 (S [116,111,108,100,95,112,108,97,99,101]) (.none) (.str (S zq1) 636) (.ref 533)) ::
 (nat_lit 533,cO #[.str (S [116,111,108,100,95,112,108,97,99,101]) 851,.str (S [116,111,108,100,95,112,108,97,99,101]) 852,.str (S zq0) 853,.int 356 0,.int 2 0,.int 0 0,.int 0 0,.int 3 0,.ref 528,.bool true,.int 181 0,.ref 529,.none,.ref 530,.ref 531,.ref 532,.int 857 0,.int 356 0,.str (S zq0) 858]) ::
 (nat_lit 541,fnO (stA 49) (S [119,114,105,116,101,95,112,108,97,99,101,100]) (.none) (.str (S zq1) 636) (.ref 540)) ::
 (nat_lit 540,cO #[.str (S [119,114,105,116,101,95,112,108,97,99,101,100]) 860,.str (S [119,114,105,116,101,95,112,108,97,99,101,100]) 861,.str (S zq0) 862,.int 361 0,.int 4 0,.int 0 0,.int 0 0,.int 3 0,.ref 535,.bool true,.int 181 0,.ref 536,.none,.ref 537,.ref 538,.ref 539,.int 872 0,.int 361 0,.str (S zq0) 873]) ::
 (nat_lit 548,fnX n548.1 a548.1 b548.1 s548.1 (S [100,117,109,112,95,114,111,119,115]) (.none) (.str (S zq1) 636) (.ref 547)) ::
 (nat_lit 547,cO #[.str (S [100,117,109,112,95,114,111,119,115]) 875,.str (S [100,117,109,112,95,114,111,119,115]) 876,.str (S zq0) 877,.int 379 0,.int 3 0,.int 0 0,.int 0 0,.int 3 0,.ref 542,.bool true,.int 181 0,.ref 543,.none,.ref 544,.ref 545,.ref 546,.int 886 0,.int 379 0,.str (S zq0) 887]) ::
 (nat_lit 600,{cls:=.type "type",data:=.cls {name:=(S [82,101,103,105,115,116,101,114]),bases:=[.type "object"],mro:=[.ref 600,.type "object"],ns:=599,qualname:=(S [82,101,103,105,115,116,101,114]),hasDict:=true,slotNames:=[],subclasses:=[],abstract:=false,collection:=none,hasDel:=false},slots:=#[none,none,some (.str (S [82,101,103,105,115,116,101,114]) 899),some (.str (S [82,101,103,105,115,116,101,114]) 907),some (.builtin "object.__new__"),some (.bool true)]}) ::
 (nat_lit 599,{cls:=.type "dict",data:=.dict #[kv P (S zq9) 906 (.str (S zq5) 889),kv P (S zq7) 910 (.int 396 909),kv P (S zq6) 921 (.ref 562),kv P (S [99,111,100,101]) 928 (.ref 569),kv P (S [105,115,95,101,120,116,101,110,100,101,100]) 935 (.ref 576),kv P (S [105,115,95,104,105,103,104]) 942 (.ref 583),kv P (S [110,101,101,100,115,95,114,101,120]) 949 (.ref 590),kv P (S [116,111,108,100]) 956 (.ref 597),kv P (S zq4) 961 (.ref 598),kv P (S [95,95,100,105,99,116,95,95]) 963 (.ref 601),kv P (S [95,95,119,101,97,107,114,101,102,95,95]) 965 (.ref 602),kv P (S zq16) 966 (.none)] 4}) ::
 (nat_lit 562,fnO (mtA 56 0) (S [82,101,103,105,115,116,101,114,46,95,95,105,110,105,116,95,95]) (.none) (.str (S zq5) 889) (.ref 561)) ::
 (nat_lit 561,cO #[.str (S zq6) 911,.str (S [82,101,103,105,115,116,101,114,46,95,95,105,110,105,116,95,95]) 912,.str (S zq0) 913,.int 398 0,.int 5 0,.int 0 0,.int 0 0,.int 3 0,.ref 556,.bool true,.int 181 0,.ref 557,.none,.ref 558,.ref 559,.ref 560,.int 919 0,.int 398 0,.str (S zq0) 920]) ::
 (nat_lit 611,fnO (stA 57) (S [101,97,114,108,121,95,110,97,109,101,115]) (.none) (.str (S zq5) 889) (.ref 610)) ::
 (nat_lit 610,cO #[.str (S [101,97,114,108,121,95,110,97,109,101,115]) 969,.str (S [101,97,114,108,121,95,110,97,109,101,115]) 970,.str (S zq0) 971,.int 418 0,.int 1 0,.int 0 0,.int 0 0,.int 3 0,.ref 605,.bool true,.int 181 0,.ref 606,.none,.ref 607,.ref 608,.ref 609,.int 973 0,.int 418 0,.str (S zq0) 974]) ::
 (nat_lit 618,fnO (stA 58) (S [108,97,116,101,95,101,110,100,105,110,103]) (.none) (.str (S zq5) 889) (.ref 617)) ::
 (nat_lit 617,cO #[.str (S [108,97,116,101,95,101,110,100,105,110,103]) 976,.str (S [108,97,116,101,95,101,110,100,105,110,103]) 977,.str (S zq0) 978,.int 428 0,.int 1 0,.int 0 0,.int 0 0,.int 3 0,.ref 612,.bool true,.int 181 0,.ref 613,.none,.ref 614,.ref 615,.ref 616,.int 980 0,.int 428 0,.str (S zq0) 981]) ::
 (nat_lit 625,fnO (stA 59) (S [103,112,114]) (.none) (.str (S zq5) 889) (.ref 624)) ::
 (nat_lit 624,cO #[.str (S [103,112,114]) 983,.str (S [103,112,114]) 984,.str (S zq0) 985,.int 436 0,.int 2 0,.int 0 0,.int 0 0,.int 3 0,.ref 619,.bool true,.int 181 0,.ref 620,.none,.ref 621,.ref 622,.ref 623,.int 989 0,.int 436 0,.str (S zq0) 990]) ::
 (nat_lit 632,fnO (stA 60) (S [120,109,109]) (.none) (.str (S zq5) 889) (.ref 631)) ::
 (nat_lit 631,cO #[.str (S [120,109,109]) 992,.str (S [120,109,109]) 993,.str (S zq0) 994,.int 443 0,.int 1 0,.int 0 0,.int 0 0,.int 3 0,.ref 626,.bool true,.int 181 0,.ref 627,.none,.ref 628,.ref 629,.ref 630,.int 996 0,.int 443 0,.str (S zq0) 997]) ::
 (nat_lit 639,fnO (stA 61) (S [114,105,112]) (.none) (.str (S zq5) 889) (.ref 638)) ::
 (nat_lit 638,cO #[.str (S [114,105,112]) 999,.str (S [114,105,112]) 1000,.str (S zq0) 1001,.int 447 0,.int 0 0,.int 0 0,.int 0 0,.int 3 0,.ref 633,.bool true,.int 181 0,.ref 634,.none,.ref 635,.ref 636,.ref 637,.int 1002 0,.int 447 0,.str (S zq0) 1003]) ::
 (nat_lit 646,fnX n646.1 a646.1 b646.1 s646.1 (S [95,108,97,119,95,116,97,107,101]) (.none) (.str (S zq3) 1005) (.ref 645)) ::
 (nat_lit 645,cO #[.str (S [95,108,97,119,95,116,97,107,101]) 1007,.str (S [95,108,97,119,95,116,97,107,101]) 1008,.str (S zq0) 1009,.int 450 0,.int 2 0,.int 0 0,.int 0 0,.int 3 0,.ref 640,.bool true,.int 181 0,.ref 641,.none,.ref 642,.ref 643,.ref 644,.int 1013 0,.int 450 0,.str (S zq0) 1014]) ::
 (nat_lit 653,fnX n653.1 a653.1 b653.1 s653.1 (S [95,108,97,119,95,98,97,103]) (.none) (.str (S zq3) 1005) (.ref 652)) ::
 (nat_lit 652,cO #[.str (S [95,108,97,119,95,98,97,103]) 1016,.str (S [95,108,97,119,95,98,97,103]) 1017,.str (S zq0) 1018,.int 454 0,.int 1 0,.int 0 0,.int 0 0,.int 3 0,.ref 647,.bool true,.int 181 0,.ref 648,.none,.ref 649,.ref 650,.ref 651,.int 1022 0,.int 454 0,.str (S zq0) 1023]) ::
 (nat_lit 660,fnX n660.1 a660.1 b660.1 s660.1 (S [95,108,97,119,95,112,108,97,99,101]) (.none) (.str (S zq3) 1005) (.ref 659)) ::
 (nat_lit 659,cO #[.str (S [95,108,97,119,95,112,108,97,99,101]) 1025,.str (S [95,108,97,119,95,112,108,97,99,101]) 1026,.str (S zq0) 1027,.int 461 0,.int 1 0,.int 0 0,.int 0 0,.int 3 0,.ref 654,.bool true,.int 181 0,.ref 655,.none,.ref 656,.ref 657,.ref 658,.int 1030 0,.int 461 0,.str (S zq0) 1031]) ::
 (nat_lit 667,fnO (stA 66) (S [95,108,97,119,95,119,111,114,116,104]) (.none) (.str (S zq3) 1005) (.ref 666)) ::
 (nat_lit 666,cO #[.str (S [95,108,97,119,95,119,111,114,116,104]) 1033,.str (S [95,108,97,119,95,119,111,114,116,104]) 1034,.str (S zq0) 1035,.int 470 0,.int 1 0,.int 0 0,.int 0 0,.int 3 0,.ref 661,.bool true,.int 181 0,.ref 662,.none,.ref 663,.ref 664,.ref 665,.int 1037 0,.int 470 0,.str (S zq0) 1038]) ::
 (nat_lit 674,fnO (stA 67) (S [95,108,97,119,95,108,105,110,101]) (.none) (.str (S zq3) 1005) (.ref 673)) ::
 (nat_lit 673,cO #[.str (S [95,108,97,119,95,108,105,110,101]) 1040,.str (S [95,108,97,119,95,108,105,110,101]) 1041,.str (S zq0) 1042,.int 472 0,.int 1 0,.int 0 0,.int 0 0,.int 3 0,.ref 668,.bool true,.int 181 0,.ref 669,.none,.ref 670,.ref 671,.ref 672,.int 1050 0,.int 472 0,.str (S zq0) 1051]) ::
 (nat_lit 681,fnX n681.1 a681.1 b681.1 s681.1 (S [95,108,97,119,95,110,101,97,114,101,115,116]) (.none) (.str (S zq3) 1005) (.ref 680)) ::
 (nat_lit 680,cO #[.str (S [95,108,97,119,95,110,101,97,114,101,115,116]) 1053,.str (S [95,108,97,119,95,110,101,97,114,101,115,116]) 1054,.str (S zq0) 1055,.int 490 0,.int 2 0,.int 0 0,.int 0 0,.int 3 0,.ref 675,.bool true,.int 181 0,.ref 676,.none,.ref 677,.ref 678,.ref 679,.int 1062 0,.int 490 0,.str (S zq0) 1063]) ::
 (nat_lit 688,fnX n688.1 a688.1 b688.1 s688.1 (S zq14) (.none) (.str (S zq3) 1005) (.ref 687)) ::
 (nat_lit 687,cO #[.str (S zq14) 1065,.str (S zq14) 1066,.str (S zq0) 1067,.int 498 0,.int 1 0,.int 0 0,.int 0 0,.int 3 0,.ref 682,.bool true,.int 181 0,.ref 683,.none,.ref 684,.ref 685,.ref 686,.int 1070 0,.int 498 0,.str (S zq0) 1071]) ::
 (nat_lit 695,fnX n695.1 a695.1 b695.1 s695.1 (S [95,108,97,119,95,105,115,95,112,108,97,99,101]) (.none) (.str (S zq3) 1005) (.ref 694)) ::
 (nat_lit 694,cO #[.str (S [95,108,97,119,95,105,115,95,112,108,97,99,101]) 1073,.str (S [95,108,97,119,95,105,115,95,112,108,97,99,101]) 1074,.str (S zq0) 1075,.int 509 0,.int 3 0,.int 0 0,.int 0 0,.int 3 0,.ref 689,.bool true,.int 181 0,.ref 690,.none,.ref 691,.ref 692,.ref 693,.int 1081 0,.int 509 0,.str (S zq0) 1082]) ::
 (nat_lit 702,fnO (stA 71) (S [95,108,97,119,95,105,115,95,108,105,110,101]) (.none) (.str (S zq3) 1005) (.ref 701)) ::
 (nat_lit 701,cO #[.str (S [95,108,97,119,95,105,115,95,108,105,110,101]) 1084,.str (S [95,108,97,119,95,105,115,95,108,105,110,101]) 1085,.str (S zq0) 1086,.int 515 0,.int 4 0,.int 0 0,.int 0 0,.int 3 0,.ref 696,.bool true,.int 181 0,.ref 697,.none,.ref 698,.ref 699,.ref 700,.int 1095 0,.int 515 0,.str (S zq0) 1096]) ::
 (nat_lit 707,fnX n707.1 a707.1 b707.1 s707.1 (S zq13) (.none) (.str (S zq3) 1005) (.ref 706)) ::
 (nat_lit 706,cO #[.str (S zq13) 1098,.str (S zq13) 1099,.str (S zq0) 1100,.int 527 0,.int 3 0,.int 0 0,.int 0 0,.int 3 0,.ref 703,.bool true,.int 181 0,.ref 704,.none,.none,.none,.ref 705,.int 1101 0,.int 527 0,.str (S zq0) 1102]) ::
 (nat_lit 712,fnX n712.1 a712.1 b712.1 s712.1 (S [108,97,119]) (.none) (.str (S zq3) 1005) (.ref 711)) ::
 (nat_lit 711,cO #[.str (S [108,97,119]) 1104,.str (S [108,97,119]) 1105,.str (S zq0) 1106,.int 542 0,.int 1 0,.int 0 0,.int 0 0,.int 3 0,.ref 708,.bool true,.int 181 0,.ref 709,.none,.none,.none,.ref 710,.int 1107 0,.int 542 0,.str (S zq0) 1108])::[]
noncomputable def kAddrs:List Addr:=[3,2,68,67,75,74,82,81,89,88,96,95,101,100,139,138,115,114,174,173,157,156,208,207,191,190,184,249,248,225,224,218,302,301,266,265,259,355,354,319,318,312,366,365,373,372,380,379,387,386,394,393,401,400,408,407,415,414,422,421,429,428,436,435,443,442,450,449,457,456,464,463,471,470,478,477,485,484,492,491,499,498,506,505,513,512,520,519,527,526,534,533,541,540,548,547,600,599,562,561,611,610,618,617,625,624,632,631,639,638,646,645,653,652,660,659,667,666,674,673,681,680,688,687,695,694,702,701,707,706,712,711]
noncomputable def qP (p:Program):Program:={p with main:={p.main with body:=p.main.body.drop 73}}
noncomputable def looseP (p:Program):List Str:=((p.main.body.take 73).flatMap bindsAtTop).filter fun n=>!startupNames.contains n
structure SeenR where
 flow:Bool
 n:Nat
 life:Life
 gens:Array GenState
 drawn:Drawn
 toks:Nat
 os:OsState
 code:Code
 pos:Pos
noncomputable def seenR (r:Flow×SharedT×Code×Pos):SeenR:=⟨(match r.1 with|.next=>true|_=>false),r.2.1.n,r.2.1.life,r.2.1.gens,r.2.1.drawn,r.2.1.toks,r.2.1.os,r.2.2.1,r.2.2.2⟩
theorem run_all (w:World) (os:OsState):(bigRunT w os).map (fun r=>(seenR r,(kAddrs.map fun a=>r.2.1.abs.heap.get? a),
   (staticsOk [] (boot_heap w.params) r.2.1.abs.heap&&namesBound pwT r.2.1.abs.heap&&gensDone r.2.1.abs&&laidKept (boot_heap w.params) r.2.1.abs.heap),
   PySem.W.Fast.tw4187177175401517315 (qP pwT) (looseP pwT) [] (fun _=>true) true r.2.1.abs)) =
  some (⟨true,713,{},#[],{},1110,os,codeP pwT,⟨542,0,566,76⟩⟩,((K w.params).map fun p=>some p.2),true,openGood (qP pwT) (looseP pwT)):=by
 kernel_rfl
end
section
theorem pw_eq:pw=pwT:=rfl
noncomputable def openG (w:World) (os:OsState):Shared:=⟨boot_heap w.params,#[],boot_drawn,boot_toks,os⟩
theorem run_facts (w:World) (os:OsState):∃ s₁:Shared,topRun treeTable pw w 11 (some (.ref 6)) 6015 (openG w os) (topStub pw)=some s₁∧s₁.gens=#[]∧s₁.os=os ∧
  (staticsOk [] (boot_heap w.params) s₁.heap&&namesBound pw s₁.heap&&gensDone s₁&&laidKept (boot_heap w.params) s₁.heap)=true ∧
  openSeen (qP pw) (looseP pw) [] (fun _=>true) true s₁=openGood (qP pw) (looseP pw)∧kAddrs.map s₁.heap.get?=(K w.params).map fun p=>some p.2:=by
 refine e12 (Option.map_eq_some_iff.mp (run_all w os)) ?_;intro r hr hc
 obtain ⟨f,S1,c,pos⟩:=r
 rw [← bigRun_eq] at hr
 have hc0:=congrArg Prod.fst hc
 have hK:=congrArg (fun x=>x.2.1) hc
 have hl:=congrArg (fun x=>x.2.2.1) hc
 have hs:=congrArg (fun x=>x.2.2.2) hc
 dsimp only at hc0 hK hl hs
 simp only [seenR,SeenR.mk.injEq] at hc0
 obtain ⟨hf,hn,hlf,hg,hd,ht,ho,hcd,hp⟩:=hc0
 have hfn:f=.next:=by cases f <;> first|rfl|exact xFT hf
 subst hfn
 rw [← pw_eq] at hcd hl hs
 subst hcd hp
 refine (i16 S1.abs ?_ hg ho hl ?_ hK)
 ·have h1:=segRun_of hr
  have h2:=piece_app (rest:=[]) h1 (fin_ok w S1.abs _)
  rw [List.append_nil] at h2
  have h3:=piece_block (block_ok w os) h2
  have h4:=go_top (pre_ok w os) h3
  exact h4
 ·rw [← hs];exact congrFun (congrFun (congrFun (congrFun (congrFun (congrFun PySem.W.Fast.te4187177175401517315 _) _) _) _) _) _
theorem op1:opening pw=plainProg pw.main.scope.names:=by kernel_rfl
theorem op2 (s:Shared):fenceModules? pw s=some s:=Eq.refl (some s)
theorem op3:Nat.ble 600 9330=true:=by decide
theorem op4:importedModules pw.main.body=[]:=by kernel_rfl
theorem open_ok (w:World):(fencedOpening treeTable pw w 9330).map (fun s=>(s.heap,s.gens,s.drawn,s.toks))=some (boot_heap w.params,#[],boot_drawn,boot_toks) :=
 boot_open op1 op3 op2 w
theorem size_ok (w:World):((boot_heap w.params).isNs mainGlobals,(boot_heap w.params).objs.size,(boot_heap w.params).nsMap mainGlobals (S [95,95,97,110,110,111,116,97,116,105,111,110,115,95,95]))=(true,11,some (.ref 6)):=by
 rw [show @Heap.nsMap=_ from PySem.W.Fast.te8920871248978507458]
 kernel_rfl
theorem ann_eq:Str.ofString "__annotations__"=S [95,95,97,110,110,111,116,97,116,105,111,110,115,95,95]:=(Fast.ofString_ofList ['_','_','a','n','n','o','t','a','t','i','o','n','s','_','_']).trans rfl
noncomputable abbrev Yf (s:Shared):List (Option Obj):=kAddrs.map s.heap.get?
noncomputable abbrev Ya (w:World):List (Option Obj):=(K w.params).map fun p=>some p.2
theorem importsNil:importedModules pw.main.body=[]:=op4
theorem top_from (w:World) (os:OsState) (s₁:Shared) (r:topRun treeTable pw w 11 (some (.ref 6)) 9330 (openG w os) (topStub pw)=some s₁)
  (l1:(staticsOk [] (boot_heap w.params) s₁.heap&&namesBound pw s₁.heap&&gensDone s₁&&laidKept (boot_heap w.params) s₁.heap)=true) :
  topFrom treeTable pw w 9330 (openG w os)=some s₁:=by
 have z:=size_ok w
 simp only [Prod.mk.injEq] at z
 refine e03 (z) ?_;try clear z;intro z1 z2 z3
 have a1:((openG w os).heap.isNs mainGlobals&&(openG w os).gens.size==0)=true:=by
  show ((boot_heap w.params).isNs mainGlobals&&true)=true
  rw [z1];rfl
 have a2:(openG w os).heap.objs.size=11:=z2
 have a3:(openG w os).heap.nsMap mainGlobals "__annotations__"=some (.ref 6):=by rw [ann_eq];exact z3
 unfold topFrom
 rw [a1,a2,a3]
 generalize topRun treeTable pw w 11 (some (.ref 6)) 9330 (openG w os) (topStub pw)=x at r
 subst r
 dsimp only [Option.bind]
 rw [importsNil]
 have e:(openG w os).heap=boot_heap w.params:=rfl
 rw [e,l1]
theorem left:LeftO pw (qP pw) (looseP pw) (fun _=>true) Yf Ya 9330:=fun w=>by
 obtain ⟨⟨h,gs,d,k,os⟩,e,e'⟩:=Option.map_eq_some_iff.mp (open_ok w)
 obtain ⟨rfl,rfl,rfl,rfl⟩:h=boot_heap w.params∧gs=#[]∧d=boot_drawn∧k=boot_toks:=by simpa using e'
 refine e16 (run_facts w os) ?_;intro s₁ r hg ho l1 l2 l3
 have t:=top_from w os s₁ (topRun_mono 3315 _ _ _ _ r) l1
 unfold openEnds
 rw [importsNil]
 rw [e]
 rw [Option.bind_some]
 have t':topFrom treeTable pw w 9330 ⟨boot_heap w.params,#[],boot_drawn,boot_toks,os⟩=some s₁:=t
 rw [t',Option.map_some,l2]
 exact congrArg (fun x=>some (openGood (qP pw) (looseP pw),x)) l3
theorem frag_in {K:Frag}{h:Heap}{as:List Addr} (e1:as=K.map (·.1)) (e2:as.map h.get?=K.map (fun p=>some p.2)):K.In h:=Frag.in_of e1 e2
noncomputable def lawD (p:Program):DefRec:=((defOf (qP p) (S [108,97,119])).getD (⟨S [],⟨[],[],none,[],[],none,[]⟩,[],default,⟨0,0,0,0⟩⟩,[])).1
noncomputable abbrev WalkK:Prop:=WalkO (qP pw) (looseP pw) (fun _ _=>True) (fun w h=>(K w.params).In h) PySem.Challenge.rw_nn0062_01.row.toRowW (lawD pw) [] fun f vs=>PySem.call f vs
theorem law_name:Str.ofString "law"=S [108,97,119]:=(Fast.ofString_ofList ['l','a','w']).trans rfl
theorem hdef:defOf (qP pw) (S [108,97,119])=some (lawD pw,[]):=by kernel_rfl
theorem holds_of_walk (h:WalkK):PySem.Challenge.rw_nn0062_01.Holds:=by
 refine said fun said'=>?_
 refine holds_open (q:=qP pw) (loose:=looseP pw) (Xt:=fun _=>true) (XP:=fun _ _=>True) (Yf:=Yf) (Ya:=Ya) (YP:=fun w h=>(K w.params).In h) (d:=lawD pw) (kwd:=[]) (N:=9330)
  left (fun w s e=>frag_in (by kernel_rfl) e) (fun w h h' x k=>x.keeps k) (fun _ _=>trivial) (fun _ _ _ _ _=>trivial) ?hdef ?hp ?hk (fun s _=>recFacts_nil rfl) rfl said' ?ok ?hb ?hw h
 case hdef=>exact hdef
 case hp=>kernel_rfl
 case hk=>kernel_rfl
 case ok=>kernel_rfl
 case hb=>(exact (i06 rfl rfl rfl rfl rfl (by decide +kernel)))
 case hw=>w_witness2
end
end Nn62
end
section
open PySem
namespace Nn62
open PySem.W.Z (leB ltB eqB leB_iff ltB_iff eqB_iff)
section
noncomputable def alt {α β:Type} (o:Option α) (f:α→Option β) (g:Option β):Option β:=match o with
 | some a=>f a
 | Option.none=>g
noncomputable def optB {α:Type} (o:Option α) (f:α→Bool):Bool:=match o with
 | some a=>f a
 | Option.none=>false
section
variable {α β:Type}{o:Option α}
theorem altS {f:α→Option β}{g:Option β}{r:β} (h:alt o f g=some r):(∃ a,o=some a∧f a=some r)∨(o=Option.none∧g=some r):=by
 cases o with
 | none=>exact .inr ⟨rfl,h⟩
 | some a=>exact .inl ⟨a,rfl,h⟩
theorem optBS {f:α→Bool} (h:optB o f=true):∃ a,o=some a∧f a=true:=by
 cases o with
 | none=>exact xFT h
 | some a=>(exact (i12 a rfl h))
theorem bindS {f:α→Option β}{r:β} (h:o.bind f=some r):∃ a,o=some a∧f a=some r:=by
 cases o with
 | none=>exact xNS h
 | some a=>(exact (i12 a rfl h))
theorem mapS {f:α→β}{r:β} (h:o.map f=some r):∃ a,o=some a∧f a=r:=by
 cases o with
 | none=>exact xNS h
 | some a=>(exact (i12 a rfl (Option.some.inj h)))
theorem condS {b:Bool}{r:α} (h:(bif b then o else Option.none)=some r):b=true∧o=some r:=by
 cases b with
 | true=>exact ⟨rfl,h⟩
 | false=>exact xNS h
theorem cond2S {b:Bool}{x y:Option α}{r:α} (h:(bif b then x else y)=some r):(b=true∧x=some r)∨(b=false∧y=some r):=by
 cases b with
 | true=>exact .inl ⟨rfl,h⟩
 | false=>exact .inr ⟨rfl,h⟩
theorem notS {a:Bool} (h:(!a)=true):a=false:=by cases a <;> first|rfl|exact xFT h
theorem andS {a b:Bool} (h:(a&&b)=true):a=true∧b=true:=Bool.and_eq_true_iff.mp h
end
noncomputable def inO {α:Type} (P:α→Prop):Option α→Prop
 | some a=>P a
 | Option.none=>True
theorem inS {α:Type}{P:α→Prop}{o:Option α}{a:α} (p:inO P o) (h:o=some a):P a:=by subst h;exact p
noncomputable def tO (P:Prop):Bool→Prop
 | true=>P
 | false=>True
theorem tS {P:Prop}{b:Bool} (p:tO P b) (h:b=true):P:=by subst h;exact p
theorem tI {P:Prop}{b:Bool} (h:b=true→P):tO P b:=by
 cases b with
 | true=>exact h rfl
 | false=>trivial
theorem inI {α:Type}{P:α→Prop}{o:Option α} (h:∀ a,o=some a→P a):inO P o:=by
 cases o with
 | none=>trivial
 | some a=>exact h a rfl
theorem inC {α:Type}{P:α→Prop}{b:Bool}{o:Option α} (h:b=true→inO P o):inO P (bif b then o else none):=by
 cases b with
 | true=>exact h rfl
 | false=>trivial
noncomputable def lnBeq:List Nat→List Nat→Bool
 | [],[]=>true
 | a::l,b::r=>Nat.beq a b&&lnBeq l r
 | _,_=>false
theorem lnBeq_eq:∀ {a b:List Nat},lnBeq a b=true→a=b
 | [],[],_=>rfl
 | a::l,b::r,h=>by
  have h:=Bool.and_eq_true_iff.mp h
  rw [zE h.1,lnBeq_eq h.2]
 | [],_::_,h=>nomatch h
 | _::_,[],h=>nomatch h
theorem lnBeq_refl:∀ a:List Nat,lnBeq a a=true
 | []=>rfl
 | a::l=>Bool.and_eq_true_iff.mpr ⟨Nat.beq_refl a,lnBeq_refl l⟩
theorem lnBeq_ne {a b:List Nat} (h:lnBeq a b=false):a≠b:=fun e=>by rw [e,lnBeq_refl] at h;exact xTF h
structure Rho where
 i:Nat→Int
 f:Nat→Int→List Nat
 s:Nat→List Nat
 o:Nat→Value
inductive IE where
 | lit (i:Int)
 | var (k:Nat) (lo hi:Int)
 | add (a b:IE)
 | sub (a b:IE)
 | neg (a:IE)
 | fdiv (a:IE) (m:Int)
 | fmod (a:IE) (m:Int)
 | cons (m:Int) (r e:IE)
 | ext (i:Int)
 | extb (i lo hi:Int)
noncomputable def clamp (lo hi i:Int):Int:=bif leB lo i&&leB i hi then i else lo
noncomputable def IE.den (ρ:Rho):IE→Int
 | lit i=>i
 | var k lo hi=>clamp lo hi (ρ.i k)
 | add a b=>a.den ρ+b.den ρ
 | sub a b=>a.den ρ-b.den ρ
 | neg a=>- a.den ρ
 | fdiv a m=>Int.fdiv (a.den ρ) m
 | fmod a m=>Int.fmod (a.den ρ) m
 | cons m r e=>e.den ρ*m+r.den ρ
 | ext i=>i
 | extb i lo hi=>clamp lo hi i
noncomputable def IE.bd:IE→Option (Int×Int)
 | lit i=>some (i,i)
 | var _ lo hi=>some (lo,bif leB lo hi then hi else lo)
 | add a b=>a.bd.bind fun p=>b.bd.map fun q=>(p.1+q.1,p.2+q.2)
 | sub a b=>a.bd.bind fun p=>b.bd.map fun q=>(p.1-q.2,p.2-q.1)
 | neg a=>a.bd.map fun p=>(-p.2,-p.1)
 | fdiv a m=>a.bd.bind fun p=>bif ltB 0 m then some (Int.fdiv p.1 m,Int.fdiv p.2 m) else none
 | fmod _ m=>bif ltB 0 m then some (0,m-1) else none
 | cons m r e=>r.bd.bind fun p=>e.bd.bind fun q=>bif leB 0 m then some (q.1*m+p.1,q.2*m+p.2) else none
 | ext _=>none
 | extb _ lo hi=>some (lo,bif leB lo hi then hi else lo)
theorem fdiv_mono {a b m:Int} (h:a≤b) (hm:0<m):Int.fdiv a m≤Int.fdiv b m:=by
 rw [Int.fdiv_eq_ediv_of_nonneg _ (Int.le_of_lt hm),Int.fdiv_eq_ediv_of_nonneg _ (Int.le_of_lt hm)]
 exact Int.ediv_le_ediv hm h
theorem clamp_in (lo hi i:Int):lo≤clamp lo hi i∧clamp lo hi i≤bif leB lo hi then hi else lo:=by
 unfold clamp
 cases q:(leB lo i&&leB i hi) with
 | true =>
  have q:=Bool.and_eq_true_iff.mp q
  have a:=(leB_iff _ _).mp q.1
  have b:=(leB_iff _ _).mp q.2
  rw [(leB_iff lo hi).mpr (Int.le_trans a b)];exact ⟨a,b⟩
 | false =>
  refine ⟨Int.le_refl _,?_⟩
  cases c:leB lo hi with
  | true=>exact (leB_iff _ _).mp c
  | false=>exact Int.le_refl _
theorem IE.bd_ok (ρ:Rho) (e:IE):∀ {l h:Int},e.bd=some (l,h)→l≤e.den ρ∧e.den ρ≤h:=by
 induction e with
 | ext i=>intro l h e;exact xNS e
 | lit i=>intro l h e;(refine s2 e ?_;try clear e;intro Y0 Y1;subst Y0;subst Y1);exact ⟨Int.le_refl _,Int.le_refl _⟩
 | var k lo hi=>intro l h e;(refine s2 e ?_;try clear e;intro Y0 Y1;subst Y0;subst Y1);exact clamp_in _ _ _
 | extb k lo hi=>intro l h e;(refine s2 e ?_;try clear e;intro Y0 Y1;subst Y0;subst Y1);exact clamp_in _ _ _
 | add a b iha ihb =>
  intro l h e
  refine e12 (bindS e) ?_;clear e;intro p e1 e
  refine e12 (mapS e) ?_;clear e;intro q e2 e
  refine p2 e ?_;try clear e;intro Y0 Y1;subst Y0;subst Y1
  exact ⟨Int.add_le_add (iha e1).1 (ihb e2).1,Int.add_le_add (iha e1).2 (ihb e2).2⟩
 | sub a b iha ihb =>
  intro l h e
  refine e12 (bindS e) ?_;clear e;intro p e1 e
  refine e12 (mapS e) ?_;clear e;intro q e2 e
  refine p2 e ?_;try clear e;intro Y0 Y1;subst Y0;subst Y1
  exact ⟨Int.sub_le_sub (iha e1).1 (ihb e2).2,Int.sub_le_sub (iha e1).2 (ihb e2).1⟩
 | neg a iha =>
  intro l h e
  refine e12 (mapS e) ?_;clear e;intro p e1 e
  refine p2 e ?_;try clear e;intro Y0 Y1;subst Y0;subst Y1
  exact ⟨Int.neg_le_neg (iha e1).2,Int.neg_le_neg (iha e1).1⟩
 | fdiv a m iha =>
  intro l h e
  refine e12 (bindS e) ?_;clear e;intro p e1 e
  refine e02 (condS e) ?_;clear e;intro q e
  refine s2 e ?_;try clear e;intro Y0 Y1;subst Y0;subst Y1
  have hm:=(ltB_iff _ _).mp q
  exact ⟨fdiv_mono (iha e1).1 hm,fdiv_mono (iha e1).2 hm⟩
 | fmod a m =>
  intro l h e
  refine e02 (condS e) ?_;clear e;intro q e
  refine s2 e ?_;try clear e;intro Y0 Y1;subst Y0;subst Y1
  have hm:=(ltB_iff _ _).mp q
  show 0≤Int.fmod (a.den ρ) m∧Int.fmod (a.den ρ) m≤_
  rw [Int.fmod_eq_emod_of_nonneg _ (Int.le_of_lt hm)]
  exact ⟨Int.emod_nonneg _ (Int.ne_of_gt hm),Int.le_sub_one_of_lt (Int.emod_lt_of_pos _ hm)⟩
 | cons m r e' ihr ihe =>
  intro l h e
  refine e12 (bindS e) ?_;clear e;intro p e1 e
  refine e12 (bindS e) ?_;clear e;intro q e2 e
  refine e02 (condS e) ?_;clear e;intro z e
  refine s2 e ?_;try clear e;intro Y0 Y1;subst Y0;subst Y1
  have hm:=(leB_iff _ _).mp z
  exact ⟨Int.add_le_add (Int.mul_le_mul_of_nonneg_right (ihe e2).1 hm) (ihr e1).1,Int.add_le_add (Int.mul_le_mul_of_nonneg_right (ihe e2).2 hm) (ihr e1).2⟩
noncomputable def IE.within (e:IE) (l h:Int):Bool:=optB e.bd fun p=>leB l p.1&&leB p.2 h
theorem IE.within_ok {ρ:Rho}{e:IE}{l h:Int} (q:e.within l h=true):l≤e.den ρ∧e.den ρ≤h:=by
 refine e12 (optBS q) ?_;clear q;intro p x q
 have A:=bd_ok ρ e x
 have q:=andS q
 exact ⟨Int.le_trans ((leB_iff _ _).mp q.1) A.1,Int.le_trans A.2 ((leB_iff _ _).mp q.2)⟩
noncomputable def IE.beq:IE→IE→Bool
 | lit a,b=>match b with
  | lit b=>eqB a b
  | _=>false
 | var k l h,b=>match b with
  | var k' l' h'=>Nat.beq k k'&&(eqB l l'&&eqB h h')
  | _=>false
 | add a b,c=>match c with
  | add a' b'=>a.beq a'&&b.beq b'
  | _=>false
 | sub a b,c=>match c with
  | sub a' b'=>a.beq a'&&b.beq b'
  | _=>false
 | neg a,b=>match b with
  | neg a'=>a.beq a'
  | _=>false
 | fdiv a m,b=>match b with
  | fdiv a' m'=>a.beq a'&&eqB m m'
  | _=>false
 | fmod a m,b=>match b with
  | fmod a' m'=>a.beq a'&&eqB m m'
  | _=>false
 | cons m r e,b=>match b with
  | cons m' r' e'=>eqB m m'&&(r.beq r'&&e.beq e')
  | _=>false
 | ext _,_=>false
 | extb _ _ _,_=>false
theorem IE.beq_eq {a:IE}:∀ {b:IE},a.beq b=true→a=b:=by
 induction a with
 | lit i=>intro b h;exact tS (by cases b <;> first|exact trivial|exact tI fun h=>congrArg lit ((eqB_iff _ _).mp h)) h
 | var k lo hi =>
  intro b h
  refine tS ?_ h
  cases b <;> first|exact trivial|skip
  refine tI fun h=>?_
  have h:=andS h
  have g:=andS h.2
  rw [zE h.1,(eqB_iff _ _).mp g.1,(eqB_iff _ _).mp g.2]
 | add a b iha ihb=>intro c h;exact tS (by cases c <;> first|exact trivial|exact tI fun h=>by rw [iha (andS h).1,ihb (andS h).2]) h
 | sub a b iha ihb=>intro c h;exact tS (by cases c <;> first|exact trivial|exact tI fun h=>by rw [iha (andS h).1,ihb (andS h).2]) h
 | neg a iha=>intro c h;exact tS (by cases c <;> first|exact trivial|exact tI fun h=>by rw [iha h]) h
 | fdiv a m iha=>intro c h;exact tS (by cases c <;> first|exact trivial|exact tI fun h=>by rw [iha (andS h).1,(eqB_iff _ _).mp (andS h).2]) h
 | fmod a m iha=>intro c h;exact tS (by cases c <;> first|exact trivial|exact tI fun h=>by rw [iha (andS h).1,(eqB_iff _ _).mp (andS h).2]) h
 | cons m r e ihr ihe =>
  intro c h
  refine tS ?_ h
  cases c <;> first|exact trivial|skip
  refine tI fun h=>?_
  have h:=andS h
  have g:=andS h.2
  rw [(eqB_iff _ _).mp h.1,ihr g.1,ihe g.2]
 | ext i=>intro c h;exact xFT h
 | extb i lo hi=>intro c h;exact xFT h
theorem extb_den {ρ:Rho}{i lo hi:Int} (h1:lo≤i) (h2:i≤hi):(IE.extb i lo hi).den ρ=i:=by
 show clamp lo hi i=i
 unfold clamp
 rw [(leB_iff _ _).mpr h1,(leB_iff _ _).mpr h2];rfl
noncomputable def mkAdd:IE→IE→IE
 | .lit a,.lit b=>.lit (a+b)
 | a,b=>.add a b
noncomputable def mkSub:IE→IE→IE
 | .lit a,.lit b=>.lit (a-b)
 | a,b=>.sub a b
noncomputable def mkNeg:IE→IE
 | .lit a=>.lit (-a)
 | a=>.neg a
noncomputable def mkDiv (a:IE) (m:Int):IE:=match a with
 | .lit a=>.lit (Int.fdiv a m)
 | .cons m' r e=>bif eqB m' m&&ltB 0 m&&r.within 0 (m-1) then e else .fdiv (.cons m' r e) m
 | a=>.fdiv a m
noncomputable def mkMod (a:IE) (m:Int):IE:=match a with
 | .lit a=>.lit (Int.fmod a m)
 | .cons m' r e=>bif eqB m' m&&ltB 0 m&&r.within 0 (m-1) then r else .fmod (.cons m' r e) m
 | a=>.fmod a m
theorem mkAdd_den (ρ:Rho) (a b:IE):(mkAdd a b).den ρ=a.den ρ+b.den ρ:=by unfold mkAdd;split <;> rfl
theorem mkSub_den (ρ:Rho) (a b:IE):(mkSub a b).den ρ=a.den ρ-b.den ρ:=by unfold mkSub;split <;> rfl
theorem mkNeg_den (ρ:Rho) (a:IE):(mkNeg a).den ρ=- a.den ρ:=by unfold mkNeg;split <;> rfl
theorem cons_div {e r m:Int} (hm:0<m) (h:0≤r∧r≤m-1):Int.fdiv (e*m+r) m=e∧Int.fmod (e*m+r) m=r:=by
 rw [Int.fdiv_eq_ediv_of_nonneg _ (Int.le_of_lt hm),Int.fmod_eq_emod_of_nonneg _ (Int.le_of_lt hm)]
 constructor
 ·rw [Int.add_comm,Int.add_mul_ediv_right _ _ (Int.ne_of_gt hm),Int.ediv_eq_zero_of_lt h.1 (by lia),Int.zero_add]
 ·rw [Int.add_comm,Int.add_mul_emod_self_right,Int.emod_eq_of_lt h.1 (by lia)]
theorem mkDiv_den (ρ:Rho) (a:IE) (m:Int):(mkDiv a m).den ρ=Int.fdiv (a.den ρ) m:=by
 unfold mkDiv
 split
 ·rfl
 ·rename_i m' r e
  cases q:(eqB m' m&&ltB 0 m&&r.within 0 (m-1)) with
  | false=>rfl
  | true =>
   have q:=Bool.and_eq_true_iff.mp q
   have q2:=Bool.and_eq_true_iff.mp q.1
   have e1:=(eqB_iff _ _).mp q2.1;subst e1
   exact (cons_div ((ltB_iff _ _).mp q2.2) (IE.within_ok q.2)).1.symm
 ·rfl
theorem mkMod_den (ρ:Rho) (a:IE) (m:Int):(mkMod a m).den ρ=Int.fmod (a.den ρ) m:=by
 unfold mkMod
 split
 ·rfl
 ·rename_i m' r e
  cases q:(eqB m' m&&ltB 0 m&&r.within 0 (m-1)) with
  | false=>rfl
  | true =>
   have q:=Bool.and_eq_true_iff.mp q
   have q2:=Bool.and_eq_true_iff.mp q.1
   have e1:=(eqB_iff _ _).mp q2.1;subst e1
   exact (cons_div ((ltB_iff _ _).mp q2.2) (IE.within_ok q.2)).2.symm
 ·rfl
inductive BE where
 | lt (a b:IE)
 | le (a b:IE)
 | eq (a b:IE)
 | not (c:BE)
 | and (c d:BE)
 | or (c d:BE)
noncomputable def BE.den (ρ:Rho):BE→Bool
 | lt a b=>ltB (a.den ρ) (b.den ρ)
 | le a b=>leB (a.den ρ) (b.den ρ)
 | eq a b=>eqB (a.den ρ) (b.den ρ)
 | not c=>!c.den ρ
 | and c d=>c.den ρ&&d.den ρ
 | or c d=>c.den ρ||d.den ρ
noncomputable def BE.beq:BE→BE→Bool
 | lt a b,c=>match c with
  | lt c d=>a.beq c&&b.beq d
  | _=>false
 | le a b,c=>match c with
  | le c d=>a.beq c&&b.beq d
  | _=>false
 | eq a b,c=>match c with
  | eq c d=>a.beq c&&b.beq d
  | _=>false
 | not c,d=>match d with
  | not d=>c.beq d
  | _=>false
 | and a b,c=>match c with
  | and c d=>a.beq c&&b.beq d
  | _=>false
 | or a b,c=>match c with
  | or c d=>a.beq c&&b.beq d
  | _=>false
theorem BE.beq_eq {a:BE}:∀ {b:BE},a.beq b=true→a=b:=by
 induction a with
 | lt a b=>intro c h;exact tS (by cases c <;> first|exact trivial|exact tI fun h=>by rw [IE.beq_eq (andS h).1,IE.beq_eq (andS h).2]) h
 | le a b=>intro c h;exact tS (by cases c <;> first|exact trivial|exact tI fun h=>by rw [IE.beq_eq (andS h).1,IE.beq_eq (andS h).2]) h
 | eq a b=>intro c h;exact tS (by cases c <;> first|exact trivial|exact tI fun h=>by rw [IE.beq_eq (andS h).1,IE.beq_eq (andS h).2]) h
 | not c ih=>intro d h;exact tS (by cases d <;> first|exact trivial|exact tI fun h=>by rw [ih h]) h
 | and a b iha ihb=>intro c h;exact tS (by cases c <;> first|exact trivial|exact tI fun h=>by rw [iha (andS h).1,ihb (andS h).2]) h
 | or a b iha ihb=>intro c h;exact tS (by cases c <;> first|exact trivial|exact tI fun h=>by rw [iha (andS h).1,ihb (andS h).2]) h
noncomputable def ltK (a b:IE):Option Bool:=a.bd.bind fun p=>b.bd.bind fun q=>bif ltB p.2 q.1 then some true else bif leB q.2 p.1 then some false else none
theorem ltK_ok {ρ:Rho}{a b:IE}{k:Bool} (h:ltK a b=some k):decide (a.den ρ<b.den ρ)=k:=by
 refine e12 (bindS h) ?_;clear h;intro p x h
 refine e12 (bindS h) ?_;clear h;intro q y h
 have A:=IE.bd_ok ρ a x;have B:=IE.bd_ok ρ b y
 (refine zO (cond2S h) (fun qh=>e02 qh ?qa) (fun qh=>e02 qh ?qb);(case' qb=>clear h;intro _ h);(case' qa=>clear h;intro z h))
 ·(have Y0:=s1 h;try clear h;subst Y0);exact decide_eq_true (Int.lt_of_le_of_lt A.2 (Int.lt_of_lt_of_le ((ltB_iff _ _).mp z) B.1))
 ·refine e02 (condS h) ?_;clear h;intro z h
  (have Y0:=s1 h;try clear h;subst Y0);exact decide_eq_false (Int.not_lt.mpr (Int.le_trans B.2 (Int.le_trans ((leB_iff _ _).mp z) A.1)))
noncomputable def leK (a b:IE):Option Bool:=(ltK b a).map (!·)
theorem leK_ok {ρ:Rho}{a b:IE}{k:Bool} (h:leK a b=some k):decide (a.den ρ≤b.den ρ)=k:=by
 refine e12 (Option.map_eq_some_iff.mp h) ?_;clear h;intro c e Y2;subst Y2
 have:=ltK_ok (ρ:=ρ) e
 rw [← this]
 by_cases q:b.den ρ<a.den ρ
 ·rw [decide_eq_true q,decide_eq_false (by lia)];rfl
 ·rw [decide_eq_false q,decide_eq_true (by lia)];rfl
noncomputable def eqK (a b:IE):Option Bool:=bif optB (ltK a b) id||optB (ltK b a) id then some false else bif optB (ltK a b) not&&optB (ltK b a) not then some true else bif a.beq b then some true else none
theorem eqK_ok {ρ:Rho}{a b:IE}{k:Bool} (h:eqK a b=some k):decide (a.den ρ=b.den ρ)=k:=by
 have yes:∀ {a b:IE},optB (ltK a b) id=true→a.den ρ<b.den ρ:=fun h=>by
  refine e12 (optBS h) ?_;intro c x Y2;subst Y2
  exact of_decide_eq_true (ltK_ok (ρ:=ρ) x)
 have no:∀ {a b:IE},optB (ltK a b) not=true→b.den ρ≤a.den ρ:=fun h=>by
  refine e12 (optBS h) ?_;intro c x e
  cases c with
  | true=>exact xFT e
  | false=>exact Int.not_lt.mp (of_decide_eq_false (ltK_ok (ρ:=ρ) x))
 (refine zO (cond2S h) (fun qh=>e02 qh ?qa) (fun qh=>e02 qh ?qb);(case' qb=>clear h;intro _ h);(case' qa=>clear h;intro z h))
 ·(have Y0:=s1 h;try clear h;subst Y0)
  (refine zO (Bool.or_eq_true_iff.mp z) ?qa0 ?qb0;(case' qb0=>clear z;intro z);(case' qa0=>clear z;intro z))
  ·exact decide_eq_false (Int.ne_of_lt (yes z))
  ·exact decide_eq_false (Int.ne_of_gt (yes z))
 (refine zO (cond2S h) (fun qh=>e02 qh ?qa1) (fun qh=>e02 qh ?qb1);(case' qb1=>clear h;intro _ h);(case' qa1=>clear h;intro z h))
 ·(have Y0:=s1 h;try clear h;subst Y0)
  exact decide_eq_true (Int.le_antisymm (no (andS z).2) (no (andS z).1))
 ·refine e02 (condS h) ?_;clear h;intro q h
  (have Y0:=s1 h;try clear h;subst Y0);rw [IE.beq_eq q];exact decide_eq_true rfl
inductive SE where
 | nil
 | lit (l:List Nat) (r:SE)
 | svar (k n:Nat) (r:SE)
 | fn (f n:Nat) (e:IE) (r:SE)
 | ite (c:BE) (a b r:SE)
 | ext (l:List Nat) (n:Nat) (r:SE)
noncomputable def SE.den (ρ:Rho):SE→List Nat
 | nil=>[]
 | lit l r=>l++r.den ρ
 | svar k n r=>(ρ.s k).take n++r.den ρ
 | fn f n e r=>(ρ.f f (e.den ρ)).take n++r.den ρ
 | ite c a b r=>(bif c.den ρ then a.den ρ else b.den ρ)++r.den ρ
 | ext l n r=>l.take n++r.den ρ
noncomputable def SE.bound:SE→Nat
 | nil=>0
 | lit l r=>l.length+r.bound
 | svar _ n r=>n+r.bound
 | fn _ n _ r=>n+r.bound
 | ite _ a b r=>a.bound+b.bound+r.bound
 | ext _ n r=>n+r.bound
theorem SE.bound_ok (ρ:Rho):∀ s:SE,(s.den ρ).length≤s.bound
 | nil=>Nat.le_refl _
 | lit l r=>by have:=bound_ok ρ r;simp only [den,bound,List.length_append];lia
 | svar k n r=>by have:=bound_ok ρ r;simp only [den,bound,List.length_append,List.length_take];lia
 | ext l n r=>by have:=bound_ok ρ r;simp only [den,bound,List.length_append,List.length_take];lia
 | fn f n e r=>by have:=bound_ok ρ r;simp only [den,bound,List.length_append,List.length_take];lia
 | ite c a b r=>by
  have:=bound_ok ρ r;have:=bound_ok ρ a;have:=bound_ok ρ b
  simp only [den,bound,List.length_append]
  cases c.den ρ <;> simp only [cond_true,cond_false] <;> lia
noncomputable def consLit (l:List Nat) (r:SE):SE:=match l,r with
 | [],r=>r
 | l,.lit l' r=>.lit (l++l') r
 | l,r=>.lit l r
theorem consLit_den (ρ:Rho) (l:List Nat) (r:SE):(consLit l r).den ρ=l++r.den ρ:=by
 unfold consLit
 split
 ·rfl
 ·simp only [SE.den,List.append_assoc]
 ·rfl
noncomputable def SE.app:SE→SE→SE
 | nil,t=>t
 | lit l r,t=>consLit l (r.app t)
 | svar k n r,t=>svar k n (r.app t)
 | fn f n e r,t=>fn f n e (r.app t)
 | ite c a b r,t=>ite c a b (r.app t)
 | ext l n r,t=>ext l n (r.app t)
theorem SE.app_den (ρ:Rho):∀ s t:SE,(s.app t).den ρ=s.den ρ++t.den ρ
 | nil,t=>rfl
 | lit l r,t=>by simp only [app,consLit_den,den,app_den ρ r t,List.append_assoc]
 | svar k n r,t=>by simp only [app,den,app_den ρ r t,List.append_assoc]
 | fn f n e r,t=>by simp only [app,den,app_den ρ r t,List.append_assoc]
 | ite c a b r,t=>by simp only [app,den,app_den ρ r t,List.append_assoc]
 | ext l n r,t=>by simp only [app,den,app_den ρ r t,List.append_assoc]
noncomputable def SE.isNil:SE→Bool
 | nil=>true
 | _=>false
theorem SE.nilS {s:SE} (h:s.isNil=true):s=nil:=tS (by cases s <;> first|exact trivial|exact rfl) h
noncomputable def SE.lit?:SE→Option (List Nat)
 | nil=>some []
 | lit l r=>bif r.isNil then some l else none
 | _=>none
theorem SE.lit?_den {ρ:Rho}{s:SE}{l:List Nat} (h:s.lit?=some l):s.den ρ=l:=by
 refine inS (P:=fun l=>s.den ρ=l) ?_ h
 cases s with
 | nil=>exact rfl
 | lit l r=>exact inC fun z=>by rw [nilS z];exact List.append_nil l
 | _=>exact trivial
noncomputable def SE.ofL (l:List Nat):SE:=consLit l .nil
theorem SE.ofL_den (ρ:Rho) (l:List Nat):(SE.ofL l).den ρ=l:=by unfold ofL;rw [consLit_den];simp [den]
noncomputable def SE.beq:SE→SE→Bool
 | nil,s=>s.isNil
 | lit l r,s=>match s with
  | lit l' r'=>lnBeq l l'&&r.beq r'
  | _=>false
 | svar k n r,s=>match s with
  | svar k' n' r'=>Nat.beq k k'&&(Nat.beq n n'&&r.beq r')
  | _=>false
 | fn f n e r,s=>match s with
  | fn f' n' e' r'=>Nat.beq f f'&&(Nat.beq n n'&&(e.beq e'&&r.beq r'))
  | _=>false
 | ite c a b r,s=>match s with
  | ite c' a' b' r'=>c.beq c'&&(a.beq a'&&(b.beq b'&&r.beq r'))
  | _=>false
 | ext _ _ _,_=>false
theorem SE.beq_eq {a:SE}:∀ {b:SE},a.beq b=true→a=b:=by
 induction a with
 | nil=>intro b h;exact (nilS h).symm
 | lit l r ih=>intro c h;exact tS (by cases c <;> first|exact trivial|exact tI fun h=>by rw [lnBeq_eq (andS h).1,ih (andS h).2]) h
 | svar k n r ih =>
  intro c h
  refine tS ?_ h
  cases c <;> first|exact trivial|skip
  refine tI fun h=>?_
  have h:=andS h
  have g:=andS h.2
  rw [zE h.1,zE g.1,ih g.2]
 | fn f n e r ih =>
  intro c h
  refine tS ?_ h
  cases c <;> first|exact trivial|skip
  refine tI fun h=>?_
  have h:=andS h
  have g:=andS h.2
  have k:=andS g.2
  rw [zE h.1,zE g.1,IE.beq_eq k.1,ih k.2]
 | ite c a b r iha ihb ihr =>
  intro d h
  refine tS ?_ h
  cases d <;> first|exact trivial|skip
  refine tI fun h=>?_
  have h:=andS h
  have g:=andS h.2
  have k:=andS g.2
  rw [BE.beq_eq h.1,iha g.1,ihb k.1,ihr k.2]
 | ext l n r ih=>intro c h;exact xFT h
noncomputable def SE.solid:SE→Bool
 | lit l _=>!l.isEmpty
 | _=>false
theorem SE.solid_ok {ρ:Rho}{s:SE} (h:s.solid=true):s.den ρ≠[]:=by
 refine tS ?_ h
 cases s with
 | lit l r=>exact tI fun h e=>by rw [(List.append_eq_nil_iff.mp e).1] at h;exact xFT h
 | _=>exact trivial
noncomputable def seqK (a b:SE):Option Bool:=alt a.lit? (fun l=>alt b.lit? (fun l'=>some (lnBeq l l')) (bif l.isEmpty&&b.solid then some false else none))
 (bif optB b.lit? List.isEmpty&&a.solid then some false else bif a.beq b then some true else none)
theorem seqK_ok {ρ:Rho}{a b:SE}{k:Bool} (h:seqK a b=some k):decide (a.den ρ=b.den ρ)=k:=by
 (refine zO (altS h) (fun qh=>e12 qh ?qa) (fun qh=>e02 qh ?qb);(case' qb=>clear h;intro _ h);(case' qa=>clear h;intro l x h))
 ·rw [SE.lit?_den x]
  (refine zO (altS h) (fun qh=>e12 qh ?qa2) (fun qh=>e02 qh ?qb2);(case' qb2=>clear h;intro _ h);(case' qa2=>clear h;intro l' y h))
  ·(have Y0:=s1 h;try clear h;subst Y0)
   rw [SE.lit?_den y]
   cases q:lnBeq l l' with
   | true=>exact decide_eq_true (lnBeq_eq q)
   | false=>exact decide_eq_false (lnBeq_ne q)
  ·refine e02 (condS h) ?_;clear h;intro q h
   (have Y0:=s1 h;try clear h;subst Y0)
   rw [List.isEmpty_iff.mp (andS q).1]
   exact decide_eq_false fun e=>SE.solid_ok (ρ:=ρ) (andS q).2 e.symm
 ·(refine zO (cond2S h) (fun qh=>e02 qh ?qa3) (fun qh=>e02 qh ?qb3);(case' qb3=>clear h;intro _ h);(case' qa3=>clear h;intro q h))
  ·(have Y0:=s1 h;try clear h;subst Y0)
   refine e12 (optBS (andS q).1) ?_;intro l y e
   rw [SE.lit?_den y,List.isEmpty_iff.mp e]
   exact decide_eq_false fun e=>SE.solid_ok (ρ:=ρ) (andS q).2 e
  ·refine e02 (condS h) ?_;clear h;intro q h
   (have Y0:=s1 h;try clear h;subst Y0);rw [SE.beq_eq q];exact decide_eq_true rfl
noncomputable def litCut:List Nat→List Nat→Option (List Nat)
 | [],r=>some r
 | a::l,s=>match s with
  | []=>none
  | b::r=>bif Nat.beq a b then litCut l r else none
theorem litCut_ok {a:List Nat}:∀ {b r:List Nat},litCut a b=some r→b=a++r:=by
 induction a with
 | nil=>intro b r h;(have Y0:=s1 h;try clear h;subst Y0);rfl
 | cons a l ih=>intro b r h;cases b with
  | nil=>exact xNS h
  | cons b t =>
   refine e02 (condS h) ?_;clear h;intro q h
   rw [zE q,ih h];rfl
noncomputable def SE.cut:SE→SE→Option SE
 | nil,s=>some s
 | lit l p,s=>match s with
  | lit l' r=>bif p.isNil then (litCut l l').map fun t=>consLit t r else bif lnBeq l l' then p.cut r else none
  | _=>none
 | svar k n p,s=>match s with
  | svar k' n' r=>bif Nat.beq k k'&&Nat.beq n n' then p.cut r else none
  | _=>none
 | fn f n e p,s=>match s with
  | fn f' n' e' r=>bif Nat.beq f f'&&(Nat.beq n n'&&e.beq e') then p.cut r else none
  | _=>none
 | ite c a b p,s=>match s with
  | ite c' a' b' r=>bif c.beq c'&&(a.beq a'&&b.beq b') then p.cut r else none
  | _=>none
 | ext _ _ _,_=>none
theorem SE.cut_ok {ρ:Rho}{p:SE}:∀ {s r:SE},p.cut s=some r→s.den ρ=p.den ρ++r.den ρ:=by
 induction p with
 | nil=>intro s r h;(have Y0:=s1 h;try clear h;subst Y0);rfl
 | lit l p ih =>
  intro s r h
  refine inS (P:=fun r=>s.den ρ=l++p.den ρ++r.den ρ) ?_ h
  cases s with
  | lit l' t =>
   refine inI fun r h=>?_
   (refine zO (cond2S h) (fun qh=>e02 qh ?qa) (fun qh=>e02 qh ?qb);(case' qb=>clear h;intro _ h);(case' qa=>clear h;intro q h))
   ·refine e12 (mapS h) ?_;intro u e Y2;subst Y2
    rw [consLit_den,nilS q]
    show l'++t.den ρ=l++[]++_
    rw [litCut_ok e,List.append_nil,List.append_assoc]
   ·refine e02 (condS h) ?_;clear h;intro q h
    show l'++t.den ρ=_
    rw [ih h,lnBeq_eq q,List.append_assoc]
  | _=>exact trivial
 | svar k n p ih =>
  intro s r h
  refine inS (P:=fun r=>s.den ρ=(ρ.s k).take n++p.den ρ++r.den ρ) ?_ h
  cases s with
  | svar k' n' t =>
   refine inC fun q=>inI fun r h=>?_
   show (ρ.s k').take n'++t.den ρ=_
   rw [ih h,zE (andS q).1,zE (andS q).2,List.append_assoc]
  | _=>exact trivial
 | fn f n e p ih =>
  intro s r h
  refine inS (P:=fun r=>s.den ρ=(ρ.f f (e.den ρ)).take n++p.den ρ++r.den ρ) ?_ h
  cases s with
  | fn f' n' e' t =>
   refine inC fun q=>inI fun r h=>?_
   have q:=andS q
   show (ρ.f f' (e'.den ρ)).take n'++t.den ρ=_
   rw [ih h,zE q.1,zE (andS q.2).1,IE.beq_eq (andS q.2).2,List.append_assoc]
  | _=>exact trivial
 | ite c a b p _ _ ih =>
  intro s r h
  refine inS (P:=fun r=>s.den ρ=(bif c.den ρ then a.den ρ else b.den ρ)++p.den ρ++r.den ρ) ?_ h
  cases s with
  | ite c' a' b' t =>
   refine inC fun q=>inI fun r h=>?_
   have q:=andS q
   show (bif c'.den ρ then a'.den ρ else b'.den ρ)++t.den ρ=_
   rw [ih h,BE.beq_eq q.1,SE.beq_eq (andS q.2).1,SE.beq_eq (andS q.2).2,List.append_assoc]
  | _=>exact trivial
 | ext l n p _=>intro s r h;exact xNS h
noncomputable def lastL (l:List Nat):Option (List Nat×Nat):=match l.reverse with
 | c::t=>some (t.reverse,c)
 | []=>none
theorem lastL_ok {l:List Nat}{p:List Nat×Nat} (h:lastL l=some p):l=p.1++[p.2]:=by
 unfold lastL at h
 cases e:l.reverse with
 | nil=>rw [e] at h;cases h
 | cons c t=>rw [e] at h;cases h;rw [← List.reverse_reverse l,e,List.reverse_cons]
noncomputable def SE.unsnoc:SE→Option (SE×Nat)
 | nil=>none
 | lit l r=>bif r.isNil then (lastL l).map fun p=>(ofL p.1,p.2) else r.unsnoc.map fun p=>(consLit l p.1,p.2)
 | svar k n r=>r.unsnoc.map fun p=>(svar k n p.1,p.2)
 | fn f n e r=>r.unsnoc.map fun p=>(fn f n e p.1,p.2)
 | ite c a b r=>r.unsnoc.map fun p=>(ite c a b p.1,p.2)
 | ext l n r=>r.unsnoc.map fun p=>(ext l n p.1,p.2)
theorem SE.unsnoc_ok {ρ:Rho}{s:SE}:∀ {i:SE}{c:Nat},s.unsnoc=some (i,c)→s.den ρ=i.den ρ++[c]:=by
 have go:∀ {l:List Nat}{r i:SE}{c:Nat}{f:SE→SE},(∀ i,(f i).den ρ=l++i.den ρ)→(∀ {i:SE}{c:Nat},r.unsnoc=some (i,c)→r.den ρ=i.den ρ++[c])→(r.unsnoc.map fun p=>(f p.1,p.2))=some (i,c)→l++r.den ρ=i.den ρ++[c]:=fun {l r i c f} hf ih h=>by
  refine e12 (mapS h) ?_;intro p e q
  refine p2 q ?_;try clear q;intro Y0 Y1;subst Y0;subst Y1
  rw [hf,ih (i:=p.1) (c:=p.2) e,List.append_assoc]
 induction s with
 | nil=>intro i c h;exact xNS h
 | lit l r ih =>
  intro i c h
  (refine zO (cond2S h) (fun qh=>e02 qh ?qa) (fun qh=>e02 qh ?qb);(case' qb=>clear h;intro _ h);(case' qa=>clear h;intro z h))
  ·refine e12 (mapS h) ?_;intro p e q
   refine p2 q ?_;try clear q;intro Y0 Y1;subst Y0;subst Y1
   rw [nilS z,ofL_den,← lastL_ok e];exact List.append_nil l
  ·exact go (fun i=>consLit_den ρ l i) ih h
 | svar k n r ih=>intro i c h;exact go (fun _=>rfl) ih h
 | fn f n e' r ih=>intro i c h;exact go (fun _=>rfl) ih h
 | ite b x y r _ _ ih=>intro i c h;exact go (fun _=>rfl) ih h
 | ext l n r ih=>intro i c h;exact go (fun _=>rfl) ih h
noncomputable def splitL (c:Nat):List Nat→List (List Nat)
 | []=>[[]]
 | d::l=>bif Nat.beq d c then []::splitL c l else match splitL c l with
  | p::ps=>(d::p)::ps
  | []=>[[d]]
noncomputable def joinL (c:Nat):List (List Nat)→List Nat
 | []=>[]
 | [p]=>p
 | p::ps=>p++c::joinL c ps
noncomputable def joinHead (ls:List (List Nat)) (ps:List SE):List SE:=match ls with
 | []=>ps
 | [l]=>match ps with
  | p::ps=>consLit l p::ps
  | []=>[ofLit l]
 | l::ls=>SE.ofL l::joinHead ls ps
where ofLit (l:List Nat):SE:=SE.ofL l
noncomputable def hexFree (c:Nat):Bool:=not ((Nat.ble 48 c&&Nat.ble c 57)||(Nat.ble 97 c&&Nat.ble c 102))
noncomputable def SE.splitAt (c:Nat):SE→Option (List SE)
 | nil=>some [nil]
 | lit l r=>(r.splitAt c).map fun ps=>joinHead (splitL c l) ps
 | fn f n e r=>bif Nat.beq f 0&&hexFree c then (match r.splitAt c with
  | some (p::ps)=>some (fn f n e p::ps)
  | _=>none) else none
 | _=>none
theorem splitL_ne (c:Nat):∀ l,splitL c l≠[]
 | []=>by simp [splitL]
 | d::l=>by
  unfold splitL
  cases Nat.beq d c with
  | true=>simp
  | false=>rw [cond_false];split <;> simp
theorem splitL_ok (c:Nat):∀ l,joinL c (splitL c l)=l∧∀ p∈splitL c l,c∉p
 | []=>⟨rfl,fun p hp=>by rw [zS hp];exact List.not_mem_nil⟩
 | d::l=>by
  refine e02 (splitL_ok c l) ?_;clear splitL_ok;intro h1 h2
  have hne:=splitL_ne c l
  unfold splitL
  cases q:Nat.beq d c with
  | true =>
   rw [cond_true]
   refine ⟨?_,fun p hp=>?_⟩
   ·cases hs:splitL c l with
    | nil=>exact absurd hs hne
    | cons p ps =>
     rw [hs] at h1
     show []++c::joinL c (p::ps)=_
     rw [h1,← zE q];rfl
   ·(refine zO (zC hp) ?qa ?qb;(case' qb=>clear hp;intro hp);(case' qa=>intro Y0;subst Y0))
    ·exact List.not_mem_nil
    ·exact h2 p hp
  | false =>
   rw [cond_false]
   cases hs:splitL c l with
   | nil=>exact absurd hs hne
   | cons p ps =>
    rw [hs] at h1 h2
    refine ⟨?_,fun x hx=>?_⟩
    ·cases ps with
     | nil=>show d::p=_;rw [show p=l from h1]
     | cons p' ps=>show d::(p++c::joinL c (p'::ps))=_;rw [show p++c::joinL c (p'::ps)=l from h1]
    ·(refine zO (zC hx) ?qa4 ?qb4;(case' qb4=>clear hx;intro hx);(case' qa4=>intro Y0;subst Y0))
     ·intro hc
      (refine zO (zC hc) ?qa5 ?qb5;(case' qb5=>clear hc;intro hc);(case' qa5=>intro e))
      ·rw [e,Nat.beq_refl] at q;exact xTF q
      ·exact h2 p (.head _) hc
     ·exact h2 x (.tail _ hx)
end
section
inductive AV where
 | none
 | bool (b:Bool)
 | bexp (c:BE)
 | int (e:IE)
 | str (s:SE)
 | slen (s:SE)
 | tup (l:List AV)
 | inst (C:Nat) (ns:List (List Nat)) (vs:List AV)
 | loc (i:Nat)
 | top (a:Nat)
 | bi (k:Nat)
 | opq (k:Nat)
 | rng (a b c:Int)
 | val (v:Value)
noncomputable def one? {α:Type}:List α→Option α
 | [a]=>some a
 | _=>Option.none
noncomputable def two? {α:Type}:List α→Option (α×α)
 | a::r=>(one? r).map fun b=>(a,b)
 | []=>Option.none
noncomputable def three? {α:Type}:List α→Option (α×α×α)
 | a::r=>(two? r).map fun b=>(a,b)
 | []=>Option.none
theorem oneS {α:Type}{l:List α}{a:α} (h:one? l=some a):l=[a]:=by
 cases l with
 | nil=>exact xNS h
 | cons x r=>cases r with
  | nil=>(have Y0:=s1 h;try clear h;subst Y0);rfl
  | cons y r=>exact xNS h
theorem twoS {α:Type}{l:List α}{a b:α} (h:two? l=some (a,b)):l=[a,b]:=by
 cases l with
 | nil=>exact xNS h
 | cons x r =>
  refine e12 (mapS h) ?_;clear h;intro y e h
  (refine p2 h ?_;try clear h;intro Y0 Y1;subst Y0;subst Y1);rw [oneS e]
theorem threeS {α:Type}{l:List α}{a b c:α} (h:three? l=some (a,b,c)):l=[a,b,c]:=by
 cases l with
 | nil=>exact xNS h
 | cons x r =>
  refine e12 (mapS h) ?_;clear h;intro y e h
  (refine p2 h ?_;try clear h;intro Y0 Y1;subst Y0;subst Y1);rw [twoS e]
noncomputable def AV.nil?:AV→Bool
 | .none=>true
 | _=>false
noncomputable def AV.bool?:AV→Option Bool
 | .bool b=>some b
 | _=>Option.none
noncomputable def AV.bexp?:AV→Option BE
 | .bexp b=>some b
 | _=>Option.none
noncomputable def AV.int?:AV→Option IE
 | .int b=>some b
 | _=>Option.none
noncomputable def AV.str?:AV→Option SE
 | .str b=>some b
 | _=>Option.none
noncomputable def AV.slen?:AV→Option SE
 | .slen b=>some b
 | _=>Option.none
noncomputable def AV.tup?:AV→Option (List AV)
 | .tup b=>some b
 | _=>Option.none
noncomputable def AV.inst?:AV→Option (Nat×List (List Nat)×List AV)
 | .inst C n v=>some (C,n,v)
 | _=>Option.none
noncomputable def AV.loc?:AV→Option Nat
 | .loc b=>some b
 | _=>Option.none
noncomputable def AV.top?:AV→Option Nat
 | .top b=>some b
 | _=>Option.none
noncomputable def AV.bi?:AV→Option Nat
 | .bi b=>some b
 | _=>Option.none
noncomputable def AV.rng?:AV→Option (Int×Int×Int)
 | .rng a b c=>some (a,b,c)
 | _=>Option.none
section
variable {v:AV}
theorem AV.nilS (h:v.nil?=true):v=.none:=tS (by cases v <;> first|exact trivial|exact rfl) h
theorem AV.boolS {b:Bool} (h:v.bool?=some b):v=.bool b:=inS (P:=fun b=>v=.bool b) (by cases v <;> first|exact trivial|exact rfl) h
theorem AV.bexpS {b:BE} (h:v.bexp?=some b):v=.bexp b:=inS (P:=fun b=>v=.bexp b) (by cases v <;> first|exact trivial|exact rfl) h
theorem AV.intS {b:IE} (h:v.int?=some b):v=.int b:=inS (P:=fun b=>v=.int b) (by cases v <;> first|exact trivial|exact rfl) h
theorem AV.strS {b:SE} (h:v.str?=some b):v=.str b:=inS (P:=fun b=>v=.str b) (by cases v <;> first|exact trivial|exact rfl) h
theorem AV.slenS {b:SE} (h:v.slen?=some b):v=.slen b:=inS (P:=fun b=>v=.slen b) (by cases v <;> first|exact trivial|exact rfl) h
theorem AV.tupS {b:List AV} (h:v.tup?=some b):v=.tup b:=inS (P:=fun b=>v=.tup b) (by cases v <;> first|exact trivial|exact rfl) h
theorem AV.instS {b:Nat×List (List Nat)×List AV} (h:v.inst?=some b):v=.inst b.1 b.2.1 b.2.2:=inS (P:=fun b=>v=.inst b.1 b.2.1 b.2.2) (by cases v <;> first|exact trivial|exact rfl) h
theorem AV.locS {b:Nat} (h:v.loc?=some b):v=.loc b:=inS (P:=fun b=>v=.loc b) (by cases v <;> first|exact trivial|exact rfl) h
theorem AV.topS {b:Nat} (h:v.top?=some b):v=.top b:=inS (P:=fun b=>v=.top b) (by cases v <;> first|exact trivial|exact rfl) h
theorem AV.biS {b:Nat} (h:v.bi?=some b):v=.bi b:=inS (P:=fun b=>v=.bi b) (by cases v <;> first|exact trivial|exact rfl) h
theorem AV.rngS {b:Int×Int×Int} (h:v.rng?=some b):v=.rng b.1 b.2.1 b.2.2:=inS (P:=fun b=>v=.rng b.1 b.2.1 b.2.2) (by cases v <;> first|exact trivial|exact rfl) h
end
noncomputable def listB {α:Type} (f:α→α→Bool):List α→List α→Bool
 | [],b=>b.isEmpty
 | x::l,b=>match b with
  | []=>false
  | y::r=>f x y&&listB f l r
theorem listB_eq {α:Type}{f:α→α→Bool} (hf:∀ {a b},f a b=true→a=b):∀ {a b:List α},listB f a b=true→a=b:=by
 intro a
 induction a with
 | nil=>intro b h;cases b with
  | nil=>rfl
  | cons=>exact xFT h
 | cons x l ih=>intro b h;cases b with
  | nil=>exact xFT h
  | cons y r =>
   have h:=andS h
   rw [hf h.1,ih h.2]
noncomputable def lnsBeq:List (List Nat)→List (List Nat)→Bool:=listB lnBeq
theorem lnsBeq_eq {a b:List (List Nat)} (h:lnsBeq a b=true):a=b:=listB_eq lnBeq_eq h
noncomputable def beqB (a b:Bool):Bool:=bif a then b else !b
theorem beqB_eq {a b:Bool} (h:beqB a b=true):a=b:=by cases a <;> cases b <;> first|rfl|exact xFT h
mutual
noncomputable def AV.beq:AV→AV→Bool
 | .none,b=>b.nil?
 | .bool a,b=>optB b.bool? (beqB a)
 | .bexp a,b=>optB b.bexp? a.beq
 | .int a,b=>optB b.int? a.beq
 | .str a,b=>optB b.str? a.beq
 | .slen a,b=>optB b.slen? a.beq
 | .tup a,b=>optB b.tup? (AV.beqs a)
 | .inst C n v,b=>optB b.inst? fun p=>Nat.beq C p.1&&lnsBeq n p.2.1&&AV.beqs v p.2.2
 | .loc i,b=>optB b.loc? (Nat.beq i)
 | .top i,b=>optB b.top? (Nat.beq i)
 | .bi i,b=>optB b.bi? (Nat.beq i)
 | .rng x y z,b=>optB b.rng? fun p=>eqB x p.1&&eqB y p.2.1&&eqB z p.2.2
 | .opq _,_=>false
 | .val _,_=>false
noncomputable def AV.beqs:List AV→List AV→Bool
 | [],b=>b.isEmpty
 | a::l,b=>match b with
  | []=>false
  | c::r=>AV.beq a c&&AV.beqs l r
end
mutual
theorem AV.beq_eq (a:AV) {b:AV} (h:AV.beq a b=true):a=b:=by
 cases a with
 | none=>exact (AV.nilS h).symm
 | bool x=>(refine e12 (optBS h) ?_;clear h;intro y e h);rw [AV.boolS e,beqB_eq h]
 | bexp x=>(refine e12 (optBS h) ?_;clear h;intro y e h);rw [AV.bexpS e,BE.beq_eq h]
 | int x=>(refine e12 (optBS h) ?_;clear h;intro y e h);rw [AV.intS e,IE.beq_eq h]
 | str x=>(refine e12 (optBS h) ?_;clear h;intro y e h);rw [AV.strS e,SE.beq_eq h]
 | slen x=>(refine e12 (optBS h) ?_;clear h;intro y e h);rw [AV.slenS e,SE.beq_eq h]
 | tup x=>(refine e12 (optBS h) ?_;clear h;intro y e h);rw [AV.tupS e,AV.beqs_eq x h]
 | inst C n v =>
  refine e12 (optBS h) ?_;clear h;intro y e h
  have h:=andS h
  have g:=andS h.1
  rw [AV.instS e,zE g.1,lnsBeq_eq g.2,AV.beqs_eq v h.2]
 | loc x=>(refine e12 (optBS h) ?_;clear h;intro y e h);rw [AV.locS e,zE h]
 | top x=>(refine e12 (optBS h) ?_;clear h;intro y e h);rw [AV.topS e,zE h]
 | bi x=>(refine e12 (optBS h) ?_;clear h;intro y e h);rw [AV.biS e,zE h]
 | rng x y z =>
  refine e12 (optBS h) ?_;clear h;intro y e h
  have h:=andS h
  have g:=andS h.1
  rw [AV.rngS e,(eqB_iff _ _).mp g.1,(eqB_iff _ _).mp g.2,(eqB_iff _ _).mp h.2]
 | opq=>exact xFT h
 | val=>exact xFT h
theorem AV.beqs_eq (a:List AV) {b:List AV} (h:AV.beqs a b=true):a=b:=by
 cases a with
 | nil=>cases b with
  | nil=>rfl
  | cons=>exact xFT h
 | cons x l=>cases b with
  | nil=>exact xFT h
  | cons y r =>
   have h:=andS h
   rw [AV.beq_eq x h.1,AV.beqs_eq l h.2]
end
noncomputable def lstBeq:List (List AV)→List (List AV)→Bool:=listB AV.beqs
theorem lstBeq_eq {a b:List (List AV)} (h:lstBeq a b=true):a=b:=listB_eq (fun h=>AV.beqs_eq _ h) h
noncomputable abbrev Locs:=List (List Nat×AV)
noncomputable def lkL:Locs→List Nat→Option AV
 | [],_=>Option.none
 | (y,v)::r,x=>bif lnBeq y x then some v else lkL r x
noncomputable def setL:Locs→List Nat→AV→Locs
 | [],x,v=>[(x,v)]
 | (y,u)::r,x,v=>bif lnBeq y x then (y,v)::r else (y,u)::setL r x v
theorem lkL_cons (y:List Nat) (u:AV) (r:Locs) (z:List Nat):lkL ((y,u)::r) z=bif lnBeq y z then some u else lkL r z:=rfl
theorem lkL_setL (x:List Nat) (v:AV):∀ (l:Locs) (z:List Nat),lkL (setL l x v) z=if z=x then some v else lkL l z
 | [],z=>by
  show (bif lnBeq x z then some v else Option.none)=_
  cases q:lnBeq x z with
  | true=>rw [if_pos (lnBeq_eq q).symm];rfl
  | false=>rw [if_neg (fun e=>lnBeq_ne q e.symm)];rfl
 | (y,u)::r,z=>by
  unfold setL
  cases q:lnBeq y x with
  | true =>
   have e:=lnBeq_eq q;subst e
   rw [cond_true,lkL_cons,lkL_cons]
   cases p:lnBeq y z with
   | true=>rw [if_pos (lnBeq_eq p).symm];rfl
   | false=>rw [if_neg (fun e=>lnBeq_ne p e.symm)];rfl
  | false =>
   rw [cond_false,lkL_cons,lkL_cons,lkL_setL x v r z]
   cases p:lnBeq y z with
   | true =>
    have e:=lnBeq_eq p;subst e
    simp only [cond_true,if_neg (lnBeq_ne q)]
   | false=>rfl
structure St where
 loc:Locs
 lst:List (List AV)
noncomputable def mergeAV (c:BE) (a b:AV):Option AV:=bif a.beq b then some a else
 alt a.str? (fun s=>b.str?.map fun t=>.str (.ite c s t .nil)) (a.bool?.bind fun x=>b.bool?.bind fun y=>bif beqB x y then Option.none else some (.bexp (bif x then c else .not c)))
noncomputable def mergeOne (c:BE) (l l':Locs) (x:List Nat):Option AV:=(lkL l x).bind fun a=>(lkL l' x).bind fun b=>mergeAV c a b
noncomputable def mergeLoc (c:BE) (l l':Locs):Locs→Locs
 | []=>[]
 | p::r=>match mergeOne c l l' p.1 with
  | some m=>(p.1,m)::mergeLoc c l l' r
  | Option.none=>mergeLoc c l l' r
theorem mergeLoc_lk (c:BE) (l l' k:Locs) {x:List Nat}{m:AV} (h:lkL (mergeLoc c l l' k) x=some m):∃ a b,lkL l x=some a∧lkL l' x=some b∧mergeAV c a b=some m:=by
 induction k with
 | nil=>exact xNS h
 | cons p r ih =>
  unfold mergeLoc at h
  cases hm:mergeOne c l l' p.1 with
  | none=>rw [hm] at h;exact ih h
  | some m' =>
   rw [hm] at h
   have h:(bif lnBeq p.1 x then some m' else lkL (mergeLoc c l l' r) x)=some m:=h
   (refine zO (cond2S h) (fun qh=>e02 qh ?qa) (fun qh=>e02 qh ?qb);(case' qb=>clear h;intro q h);(case' qa=>clear h;intro q h))
   ·(have Y0:=s1 h;try clear h;subst Y0)
    refine e12 (bindS hm) ?_;clear hm;intro a ea hm
    refine e12 (bindS hm) ?_;clear hm;intro b eb hm
    rw [← lnBeq_eq q]
    (exact (i23 a b ea eb hm))
   ·exact ih h
noncomputable def mergeSt (c:BE) (a b:St):Option St:=bif lstBeq a.lst b.lst then some ⟨mergeLoc c a.loc b.loc a.loc,a.lst⟩ else Option.none
inductive TV where
 | k (b:Bool)
 | u (c:BE)
inductive FR where
 | next (st:St)
 | ret (v:AV) (st:St)
noncomputable def mergeFR (c:BE):FR→FR→Option FR
 | .next a,y=>match y with
  | .next b=>(mergeSt c a b).map .next
  | .ret _ _=>Option.none
 | .ret v a,y=>match y with
  | .next _=>Option.none
  | .ret w b=>(mergeAV c v w).bind fun m=>(mergeSt c a b).map (.ret m)
noncomputable def pow2:Int:=18446744073709551616
noncomputable def figsL:List Nat:=[48,49,50,51,52,53,54,55,56,57,97,98,99,100,101,102]
noncomputable def isFigs (s:SE):Bool:=optB s.lit? (lnBeq figsL)
noncomputable def IE.lit?:IE→Option Int
 | .lit i=>some i
 | _=>Option.none
theorem IE.litS {e:IE}{i:Int} (h:e.lit?=some i):e=.lit i:=inS (P:=fun i=>e=.lit i) (by cases e <;> first|exact trivial|exact rfl) h
noncomputable def AV.lit? (v:AV):Option Int:=v.int?.bind IE.lit?
theorem AV.litS {v:AV}{i:Int} (h:v.lit?=some i):v=.int (.lit i):=by
 refine e12 (bindS h) ?_;clear h;intro e h1 h2
 rw [AV.intS h1,IE.litS h2]
noncomputable def natOf:Int→Option Nat
 | .ofNat k=>some k
 | .negSucc _=>Option.none
theorem natS {i:Int}{k:Nat} (h:natOf i=some k):i=(k:Int):=by cases i <;> (first|exact xNS h|(have Y0:=s1 h;try clear h;subst Y0));rfl
noncomputable def isAdd:Operator→Bool
 | .Add=>true
 | _=>false
theorem isAddS {op:Operator} (h:isAdd op=true):op=.Add:=tS (by cases op <;> first|exact trivial|exact rfl) h
noncomputable def opI (op:Operator) (a b:IE):Option IE:=match op with
 | .Add=>some (mkAdd a b)
 | .Sub=>some (mkSub a b)
 | .FloorDiv=>b.lit?.bind fun m=>bif ltB 0 m&&ltB m 1073741824 then some (mkDiv a m) else Option.none
 | .Mod=>b.lit?.bind fun m=>bif ltB 0 m then some (mkMod a m) else Option.none
 | .BitAnd=>b.lit?.bind fun m=>bif eqB m (pow2-1) then some (mkMod a pow2) else bif eqB m 15 then some (mkMod a 16) else Option.none
 | .RShift=>b.lit?.bind fun n=>bif eqB n 4 then some (mkDiv a 16) else Option.none
 | .Mult=>alt b.lit? (fun m=>bif ltB 0 m&&ltB m 1073741824 then some (.cons m (.lit 0) a) else Option.none) (a.lit?.bind fun m=>bif ltB 0 m&&ltB m 1073741824 then some (.cons m (.lit 0) b) else Option.none)
 | .LShift=>a.lit?.bind fun x=>b.lit?.bind fun n=>bif leB 0 n&&leB n 200&&(leB 0 x&&leB x 1000) then some (.lit (x*2 ^ n.toNat)) else Option.none
 | .Pow=>a.lit?.bind fun x=>b.lit?.bind fun n=>bif leB 0 n&&leB n 200&&(leB 0 x&&leB x 1000) then some (.lit (x ^ n.toNat)) else Option.none
 | _=>Option.none
noncomputable def opB (op:Operator) (a b:AV):Option AV:=alt a.int? (fun x=>b.int?.bind fun y=>(opI op x y).map .int)
 (a.str?.bind fun s=>b.str?.bind fun t=>bif isAdd op&&Nat.ble (s.bound+t.bound) 100000 then some (.str (s.app t)) else Option.none)
noncomputable def ofK (k:Option Bool) (c:BE):AV:=match k with
 | some b=>.bool b
 | Option.none=>.bexp c
noncomputable def notK (k:Option Bool):Option Bool:=k.map (!·)
noncomputable def cmpI (op:CmpOp) (a b:IE):Option AV:=match op with
 | .Eq=>some (ofK (eqK a b) (.eq a b))
 | .NotEq=>some (ofK (notK (eqK a b)) (.not (.eq a b)))
 | .Lt=>some (ofK (ltK a b) (.lt a b))
 | .LtE=>some (ofK (leK a b) (.le a b))
 | .Gt=>some (ofK (ltK b a) (.lt b a))
 | .GtE=>some (ofK (leK b a) (.le b a))
 | _=>Option.none
noncomputable def isNone:AV→Option Bool
 | .none=>some true
 | .bexp _=>some false
 | .bool _=>some false
 | .int _=>some false
 | .str _=>some false
 | .slen _=>some false
 | .tup _=>some false
 | .inst _ _ _=>some false
 | .loc _=>some false
 | _=>Option.none
noncomputable def litIn (l:List Nat):List AV→Option Bool
 | []=>some false
 | a::r=>(a.str?.bind SE.lit?).bind fun l'=>bif lnBeq l' l then (litIn l r).map fun _=>true else litIn l r
noncomputable def litsOk:List AV→Bool
 | []=>true
 | a::r=>optB (a.str?.bind SE.lit?) (fun l=>PyData.strOk ⟨⟨l⟩⟩)&&litsOk r
noncomputable def lnLt:List Nat→List Nat→Bool
 | [],[]=>false
 | [],_::_=>true
 | _::_,[]=>false
 | a::l,b::r=>Nat.blt a b||(Nat.beq a b&&lnLt l r)
noncomputable def cmpSS (op:CmpOp) (s t:SE):Option AV:=match op with
 | .Eq=>(seqK s t).map .bool
 | .NotEq=>(notK (seqK s t)).map .bool
 | .Lt=>s.lit?.bind fun x=>t.lit?.map fun y=>.bool (lnLt x y)
 | _=>Option.none
noncomputable def cmpIn (op:CmpOp) (l:List Nat) (items:List AV):Option AV:=match op with
 | .In=>(litIn l items).map .bool
 | .NotIn=>(notK (litIn l items)).map .bool
 | _=>Option.none
noncomputable def cmpN (op:CmpOp) (a:AV):Option AV:=match op with
 | .Is=>(isNone a).map .bool
 | .IsNot=>(notK (isNone a)).map .bool
 | _=>Option.none
noncomputable def isEq:CmpOp→Bool
 | .Eq=>true
 | _=>false
theorem isEqS {op:CmpOp} (h:isEq op=true):op=.Eq:=tS (by cases op <;> first|exact trivial|exact rfl) h
noncomputable def cmpL (op:CmpOp) (x y:List AV):Option AV:=bif isEq op&&(y.isEmpty&&(!x.isEmpty&&litsOk x)) then some (.bool false) else Option.none
noncomputable def cmpB (op:CmpOp) (lst:List (List AV)) (a b:AV):Option AV:=bif b.nil? then cmpN op a else
 alt a.int? (fun x=>b.int?.bind fun y=>cmpI op x y) (alt a.str? (fun s=>alt b.str? (fun t=>cmpSS op s t) (b.loc?.bind fun i=>s.lit?.bind fun l=>lst[i]?.bind fun items=>cmpIn op l items))
  (a.loc?.bind fun i=>b.loc?.bind fun j=>lst[i]?.bind fun x=>lst[j]?.bind fun y=>cmpL op x y))
noncomputable def truth (a:AV):Option TV:=alt a.bool? (fun b=>some (.k b)) (a.bexp?.map .u)
noncomputable def kindL:List (Str×NameKind)→List Nat→Option NameKind
 | [],_=>Option.none
 | (y,k)::r,x=>bif lnBeq y.cps.toList x then some k else kindL r x
noncomputable def isLocal (cs:Scope) (x:Str):Bool:=match kindL cs.names x.cps.toList with
 | some .local=>true
 | _=>false
noncomputable def isGlobal (cs:Scope) (x:Str):Bool:=match kindL cs.names x.cps.toList with
 | some .globalImplicit=>true
 | _=>false
noncomputable def lkN {α:Type}:List (List Nat×α)→List Nat→Option α
 | [],_=>Option.none
 | (y,v)::r,x=>bif lnBeq y x then some v else lkN r x
noncomputable def lkA {α:Type}:List (Nat×α)→Nat→Option α
 | [],_=>Option.none
 | (y,v)::r,x=>bif Nat.beq y x then some v else lkA r x
noncomputable def hasPair:List (Nat×List Nat)→Nat→List Nat→Bool
 | [],_,_=>false
 | (c,y)::r,d,x=>(Nat.beq c d&&lnBeq y x)||hasPair r d x
noncomputable def fieldOf:List (List Nat)→List AV→List Nat→Option AV
 | [],_,_=>Option.none
 | n::ns,vs,x=>match vs with
  | []=>Option.none
  | v::vs=>bif lnBeq n x then some v else fieldOf ns vs x
noncomputable def setNth (l:List (List AV)) (i:Nat) (v:List AV):List (List AV):=l.set i v
noncomputable def joinS (sep:SE):List AV→Option SE
 | []=>some .nil
 | a::r=>a.str?.bind fun s=>bif r.isEmpty then some s else (joinS sep r).map fun t=>(s.app sep).app t
noncomputable def rngItems (a c:Int):Nat→List AV
 | 0=>[]
 | n+1=>.int (.lit a)::rngItems (a+c) c n
noncomputable def rngLen (a b c:Int):Nat:=(Builtin.Range.rangeSize a b c).toNat
noncomputable def rngOk (a b c:Int):Bool:=leB (-1000) a&&leB a 1000&&leB (-1000) b&&leB b 1000&&Builtin.Range.small a b c
noncomputable def idxI (n:Nat) (i:Int):Option Nat:=match i with
 | .ofNat k=>bif Nat.blt k n&&Nat.blt k 100000 then some k else Option.none
 | .negSucc _=>Option.none
noncomputable def decL (i:Int):Option (List Nat):=match i with
 | .ofNat k=>bif Nat.blt k 10 then some [48+k] else bif Nat.blt k 16 then some [49,38+k] else Option.none
 | .negSucc _=>Option.none
structure Tabs where
 glb:List (List Nat×AV)
 fns:List (Nat×Stmt)
 attrs:List (Nat×List Nat)
 hand:Nat→List AV→List (List AV)→Option (AV×List (List AV))
structure Recs where
 ev:Scope→St→Expr→Option (AV×St)
 tst:Scope→St→Expr→Option (TV×St)
 exs:Scope→St→List Stmt→List (List Stmt)→Option FR
 call:AV→List AV→List (List AV)→Option (AV×List (List AV))
noncomputable def tagE:Expr→Nat
 | .Name _ _=>1
 | .Subscript _ _ _=>2
 | .Attribute _ _ _=>3
 | .Constant _ _ _=>4
 | .Starred _ _=>5
 | .Set _ _ _=>6
 | .ListComp _ _ _ _=>7
 | .SetComp _ _ _ _=>8
 | .DictComp _ _ _ _ _=>9
 | _=>0
noncomputable def isStar (e:Expr):Bool:=Nat.beq (tagE e) 5
noncomputable def evs (R:Recs) (cs:Scope):St→List Expr→Option (List AV×St)
 | st,[]=>some ([],st)
 | st,e::r=>bif isStar e then Option.none else (R.ev cs st e).bind fun p=>(evs R cs p.2 r).map fun q=>(p.1::q.1,q.2)
noncomputable def locBeq:Locs→Locs→Bool:=listB fun p q=>lnBeq p.1 q.1&&AV.beq p.2 q.2
theorem locBeq_eq {a b:Locs} (h:locBeq a b=true):a=b:=listB_eq (fun {p q} h=>by
 have h:=andS h
 exact Prod.ext (lnBeq_eq h.1) (AV.beq_eq _ h.2)) h
noncomputable def stillB (a b:St):Bool:=lstBeq a.lst b.lst&&locBeq a.loc b.loc
theorem stillB_eq {a b:St} (h:stillB a b=true):a=b:=by
 have h:=Bool.and_eq_true_iff.mp h
 cases a;cases b
 have h1:=lstBeq_eq h.1
 have h2:=locBeq_eq h.2
 simp only at h1 h2
 rw [h1,h2]
noncomputable def debugL:List Nat:=[95,95,100,101,98,117,103,95,95]
noncomputable def marksNo (_:CmpOp) (e:Expr):Bool:=!(Nat.beq (tagE e) 6)
noncomputable def attrBase (e:Expr):Bool:=Nat.ble 1 (tagE e)&&Nat.ble (tagE e) 3
noncomputable def methBase (e:Expr):Bool:=Nat.beq (tagE e) 1||(Nat.beq (tagE e) 4||Nat.beq (tagE e) 2)
noncomputable def evFn (T:Tabs) (cs:Scope) (x:Str):Option AV :=
 bif lnBeq x.cps.toList debugL then Option.none else
 bif isGlobal cs x then lkN T.glb x.cps.toList else Option.none
noncomputable def evName (T:Tabs) (cs:Scope) (st:St) (x:Str):Option AV :=
 bif lnBeq x.cps.toList debugL then Option.none else
 bif isLocal cs x then lkL st.loc x.cps.toList else evFn T cs x
noncomputable def extP:SE→Option (List Nat×Nat)
 | .ext l n r=>match r with
  | .nil=>some (l,n)
  | _=>Option.none
 | _=>Option.none
theorem extS {s:SE}{p:List Nat×Nat} (h:extP s=some p):s=.ext p.1 p.2 .nil:=inS (P:=fun p=>s=.ext p.1 p.2 .nil) (by
 cases s with
 | ext l n r=>cases r <;> first|exact trivial|exact rfl
 | _=>exact trivial) h
noncomputable def fnP:SE→Option (Nat×Nat×IE)
 | .fn f n e r=>match r with
  | .nil=>some (f,n,e)
  | _=>Option.none
 | _=>Option.none
theorem fnS {s:SE}{p:Nat×Nat×IE} (h:fnP s=some p):s=.fn p.1 p.2.1 p.2.2 .nil:=inS (P:=fun p=>s=.fn p.1 p.2.1 p.2.2 .nil) (by
 cases s with
 | fn f n e r=>cases r <;> first|exact trivial|exact rfl
 | _=>exact trivial) h
noncomputable def lenV (n:Nat) (v:AV) (st:St):Option (AV×St):=bif Nat.ble n 100000 then some (v,st) else Option.none
noncomputable def lenB (a:AV) (st:St):Option (AV×St) :=
 alt a.tup? (fun l=>lenV l.length (.int (.lit l.length)) st) (alt a.loc? (fun i=>st.lst[i]?.bind fun l=>lenV l.length (.int (.lit l.length)) st)
  (a.str?.bind fun s=>alt (extP s) (fun p=>lenV p.2 (.int (.ext (p.1.take p.2).length)) st) (lenV s.bound ((s.lit?.map fun l=>AV.int (.lit l.length)).getD (.slen s)) st)))
noncomputable def rngV (a b c:Int) (st:St):Option (AV×St):=bif rngOk a b c&&(eqB c 1||eqB c (-1)) then some (.rng a b c,st) else Option.none
noncomputable def callB (k:Nat) (args:List AV) (st:St):Option (AV×St) :=
 alt (one? args) (fun a=>bif Nat.beq k 0 then lenB a st else bif Nat.beq k 1 then (a.lit?.bind fun i=>(decL i).map fun l=>(.str (SE.ofL l),st)) else bif Nat.beq k 2 then (a.lit?.bind fun n=>rngV 0 n 1 st) else Option.none)
 (alt (two? args) (fun p=>p.1.str?.bind fun s=>(fnP s).bind fun q=>p.2.lit?.bind fun i=>bif Nat.beq k 3&&(Nat.beq q.1 0&&(Nat.ble 24 q.2.1&&(q.2.2.within 0 (2 ^ 72)&&eqB i 16))) then some (.int q.2.2,st) else Option.none)
 ((three? args).bind fun p=>p.1.lit?.bind fun a=>p.2.1.lit?.bind fun b=>p.2.2.lit?.bind fun c=>bif Nat.beq k 2 then rngV a b c st else Option.none))
noncomputable def lenN:List Nat:=[108,101,110]
noncomputable def mSplit:List Nat:=[115,112,108,105,116]
noncomputable def mJoin:List Nat:=[106,111,105,110]
noncomputable def mAppend:List Nat:=[97,112,112,101,110,100]
noncomputable def mReverse:List Nat:=[114,101,118,101,114,115,101]
noncomputable def pushV (l:List AV) (st:St):AV×St:=(.loc st.lst.length,⟨st.loc,st.lst++[l]⟩)
noncomputable def setV (i:Nat) (l:List AV) (st:St):AV×St:=(.none,⟨st.loc,setNth st.lst i l⟩)
noncomputable def callM0 (m:List Nat) (o:AV) (st:St):Option (AV×St) :=
 alt o.str? (fun s=>bif lnBeq m mSplit then (s.lit?.bind fun l=>bif Nat.ble l.length 100000 then some (pushV ((Txt.words ⟨⟨l⟩⟩).map fun w=>.str (SE.ofL w.cps.toList)) st) else Option.none) else Option.none)
  (o.loc?.bind fun i=>bif lnBeq m mReverse then (st.lst[i]?.bind fun items=>bif Nat.ble items.length 100000 then some (setV i items.reverse st) else Option.none) else Option.none)
noncomputable def callM1 (m:List Nat) (o v:AV) (st:St):Option (AV×St) :=
 alt o.str? (fun s=>alt v.loc? (fun i=>bif lnBeq m mJoin then (st.lst[i]?.bind fun items=>(joinS s items).bind fun t=>bif Nat.ble (t.bound+items.length*(s.bound+1)) 100000 then some (.str t,st) else Option.none) else Option.none)
  (v.str?.bind fun sep=>bif lnBeq m mSplit&&Nat.ble s.bound 100000 then (sep.lit?.bind fun l=>(one? l).bind fun c=>(s.splitAt c).map fun ps=>pushV (ps.map .str) st) else Option.none))
  (o.loc?.bind fun i=>bif lnBeq m mAppend then (st.lst[i]?.bind fun items=>bif Nat.ble items.length 100000 then some (setV i (items++[v]) st) else Option.none) else Option.none)
noncomputable def posLine (a b:Pos):Bool:=Nat.beq a.endLine b.line
noncomputable def evCmp1 (R:Recs) (cs:Scope) (st:St) (l:Expr) (op:CmpOp) (r:Expr):Option (AV×St) :=
 bif marksNo op r then ((R.ev cs st l).bind fun p=>(R.ev cs p.2 r).bind fun q=>(cmpB op q.2.lst p.1 q.1).map fun v=>(v,q.2)) else Option.none
noncomputable def evCmp2 (R:Recs) (cs:Scope) (st:St) (l:Expr) (op op':CmpOp) (r r':Expr):Option (AV×St) :=
 bif marksNo op' r' then ((R.ev cs st l).bind fun p=>(R.ev cs p.2 r).bind fun q=>(cmpB op q.2.lst p.1 q.1).bind fun v=>v.bool?.bind fun b =>
  bif b then ((R.ev cs q.2 r').bind fun u=>(cmpB op' u.2.lst q.1 u.1).map fun v=>(v,u.2)) else some (.bool false,q.2)) else Option.none
noncomputable def evCmp (R:Recs) (cs:Scope) (st:St) (l:Expr) (ops:List CmpOp) (rs:List Expr):Option (AV×St) :=
 alt (one? ops) (fun op=>(one? rs).bind fun r=>evCmp1 R cs st l op r) ((two? ops).bind fun o=>(two? rs).bind fun r=>evCmp2 R cs st l o.1 o.2 r.1 r.2)
noncomputable def dropK (k:Nat):SE→Option SE
 | .lit l r=>bif Nat.ble k l.length then some (consLit (l.drop k) r) else Option.none
 | _=>Option.none
noncomputable def takeK (k:Nat):SE→Option SE
 | .lit l _=>bif Nat.ble k l.length then some (SE.ofL (l.take k)) else Option.none
 | _=>Option.none
noncomputable def innerK:SE→Option SE
 | .lit (_::l) r=>(consLit l r).unsnoc.map fun p=>p.1
 | _=>Option.none
noncomputable def firstK:SE→Option Nat
 | .lit (c::_) _=>some c
 | _=>Option.none
noncomputable def takeL (s h:SE):Option SE:=(h.cut s).map fun _=>h
noncomputable def dropL (s h:SE):Option SE:=h.cut s
noncomputable def nameP:Expr→Option Str
 | .Name x _=>some x
 | _=>Option.none
theorem nameS {e:Expr}{x:Str} (h:nameP e=some x):∃ p,e=.Name x p:=inS (P:=fun x=>∃ p,e=.Name x p) (by cases e <;> first|exact trivial|exact ⟨_,rfl⟩) h
noncomputable def attrP:Expr→Option (Expr×Str×Pos)
 | .Attribute o m p=>some (o,m,p)
 | _=>Option.none
theorem attrS {e:Expr}{p:Expr×Str×Pos} (h:attrP e=some p):e=.Attribute p.1 p.2.1 p.2.2:=inS (P:=fun p=>e=.Attribute p.1 p.2.1 p.2.2) (by cases e <;> first|exact trivial|exact rfl) h
noncomputable def sliceP:Expr→Option (Option Expr×Option Expr×Option Expr)
 | .Slice a b c _=>some (a,b,c)
 | _=>Option.none
theorem sliceS {e:Expr}{q:Option Expr×Option Expr×Option Expr} (h:sliceP e=some q):∃ p,e=.Slice q.1 q.2.1 q.2.2 p:=inS (P:=fun q=>∃ p,e=.Slice q.1 q.2.1 q.2.2 p) (by cases e <;> first|exact trivial|exact ⟨_,rfl⟩) h
theorem sliceN {e:Expr} (h:sliceP e=Option.none) (a b c:Option Expr) (p:Pos):e≠.Slice a b c p:=fun q=>by rw [q] at h;exact xSN h
noncomputable def isAnd:BoolOp→Bool
 | .And=>true
 | .Or=>false
noncomputable def evConst (c:Const) (st:St):Option (AV×St):=match c with
 | .int i=>some (.int (.lit i),st)
 | .str s=>some (.str (SE.ofL s.cps.toList),st)
 | .bool b=>some (.bool b,st)
 | .none=>some (.none,st)
 | _=>Option.none
noncomputable def evUn (R:Recs) (cs:Scope) (st:St) (op:UnaryOp) (x:Expr):Option (AV×St):=match op with
 | .USub=>(R.ev cs st x).bind fun p=>p.1.int?.map fun a=>(.int (mkNeg a),p.2)
 | .Not=>(R.ev cs st x).bind fun p=>alt p.1.bool? (fun b=>some (.bool !b,p.2)) (p.1.bexp?.map fun c=>(.bexp (.not c),p.2))
 | _=>Option.none
noncomputable def evBool (R:Recs) (cs:Scope) (st:St) (op:BoolOp) (pos:Pos):List Expr→Option (AV×St)
 | []=>Option.none
 | e::r=>bif r.isEmpty then R.ev cs st e else (R.ev cs st e).bind fun p=>p.1.bool?.bind fun b=>bif beqB b (isAnd op) then R.ev cs p.2 (.BoolOp op r pos) else some (.bool b,p.2)
noncomputable def sliceFrom (R:Recs) (cs:Scope) (st:St) (x:SE) (lo:Expr):Option (AV×St):=(R.ev cs st lo).bind fun p =>
 alt p.1.slen? (fun h=>(h.cut x).map fun r=>(.str r,p.2)) ((p.1.lit?.bind natOf).bind fun k=>(dropK k x).map fun r=>(.str r,p.2))
noncomputable def sliceTo (R:Recs) (cs:Scope) (st:St) (x:SE) (hi:Expr):Option (AV×St):=(R.ev cs st hi).bind fun p =>
 alt p.1.slen? (fun h=>(h.cut x).map fun _=>(.str h,p.2)) ((p.1.lit?.bind natOf).bind fun k=>(takeK k x).map fun r=>(.str r,p.2))
noncomputable def sliceIn (R:Recs) (cs:Scope) (st:St) (x:SE) (lo hi:Expr):Option (AV×St):=(R.ev cs st lo).bind fun p=>(R.ev cs p.2 hi).bind fun q =>
 p.1.lit?.bind fun i=>q.1.lit?.bind fun j=>bif eqB i 1&&eqB j (-1) then (innerK x).map fun r=>(.str r,q.2) else Option.none
noncomputable def evSlice (R:Recs) (cs:Scope) (st:St) (v:Expr) (s:Option Expr×Option Expr×Option Expr):Option (AV×St) :=
 bif s.2.2.isNone then ((R.ev cs st v).bind fun p=>p.1.str?.bind fun x=>bif Nat.ble x.bound 100000 then
  alt s.1 (fun lo=>alt s.2.1 (fun hi=>sliceIn R cs p.2 x lo hi) (sliceFrom R cs p.2 x lo)) (s.2.1.bind fun hi=>sliceTo R cs p.2 x hi) else Option.none) else Option.none
noncomputable def itemS (x:SE) (e:IE) (st:St):Option (AV×St) :=
 bif optB e.lit? (eqB 0) then (firstK x).map fun c=>(.str (.lit [c] .nil),st) else
 bif optB e.lit? (eqB (-1)) then x.unsnoc.map fun p=>(.str (.lit [p.2] .nil),st) else
 bif isFigs x&&e.within 0 15 then some (.str (.fn 3 1 e .nil),st) else Option.none
noncomputable def nthK (l:List AV) (b:AV):Option AV:=b.lit?.bind fun k=>(idxI l.length k).bind fun j=>l[j]?
noncomputable def itemOf (a b:AV) (st:St):Option (AV×St) :=
 alt a.tup? (fun l=>(nthK l b).map fun r=>(r,st)) (alt a.loc? (fun n=>st.lst[n]?.bind fun l=>(nthK l b).map fun r=>(r,st)) (a.str?.bind fun x=>b.int?.bind fun e=>itemS x e st))
noncomputable def evSub (R:Recs) (cs:Scope) (st:St) (v i:Expr):Option (AV×St) :=
 alt (sliceP i) (evSlice R cs st v) ((R.ev cs st v).bind fun p=>(R.ev cs p.2 i).bind fun q=>itemOf p.1 q.1 q.2)
noncomputable def evAttr (T:Tabs) (R:Recs) (cs:Scope) (st:St) (v:Expr) (a:Str):Option (AV×St):=bif attrBase v then ((R.ev cs st v).bind fun p=>p.1.inst?.bind fun i =>
 bif hasPair T.attrs i.1 a.cps.toList then (fieldOf i.2.1 i.2.2 a.cps.toList).map fun r=>(r,p.2) else Option.none) else Option.none
noncomputable def callN (T:Tabs) (R:Recs) (cs:Scope) (st:St) (x:Str) (args:List Expr):Option (AV×St):=(evFn T cs x).bind fun fv=>(evs R cs st args).bind fun p =>
 alt fv.top? (fun f=>(R.call (.top f) p.1 p.2.lst).map fun r=>(r.1,⟨p.2.loc,r.2⟩)) (fv.bi?.bind fun k=>callB k p.1 p.2)
noncomputable def callA (R:Recs) (cs:Scope) (st:St) (o:Expr) (m:Str) (apos:Pos) (args:List Expr) (pos:Pos):Option (AV×St):=bif methBase o&&posLine apos pos then ((R.ev cs st o).bind fun p =>
 bif args.isEmpty then callM0 m.cps.toList p.1 p.2 else (one? args).bind fun e=>bif isStar e then Option.none else (R.ev cs p.2 e).bind fun q=>callM1 m.cps.toList p.1 q.1 q.2) else Option.none
noncomputable def evCall (T:Tabs) (R:Recs) (cs:Scope) (st:St) (f:Expr) (args:List Expr) (kws:List Keyword) (pos:Pos):Option (AV×St):=bif kws.isEmpty then
 alt (nameP f) (fun x=>callN T R cs st x args) ((attrP f).bind fun o=>callA R cs st o.1 o.2.1 o.2.2 args pos) else Option.none
noncomputable def TV.k?:TV→Option Bool
 | .k b=>some b
 | .u _=>Option.none
theorem TV.kS {t:TV}{b:Bool} (h:t.k?=some b):t=.k b:=by cases t <;> (first|exact xNS h|(have Y0:=s1 h;try clear h;subst Y0));rfl
noncomputable def evStep (T:Tabs) (R:Recs) (cs:Scope) (st:St) (e:Expr):Option (AV×St):=match e with
 | .Constant c _ _=>evConst c st
 | .Name x _=>(evName T cs st x).map fun v=>(v,st)
 | .BinOp l op r _=>(R.ev cs st l).bind fun p=>(R.ev cs p.2 r).bind fun q=>(opB op p.1 q.1).map fun v=>(v,q.2)
 | .UnaryOp op x _=>evUn R cs st op x
 | .Compare l ops rs _=>evCmp R cs st l ops rs
 | .BoolOp op es pos=>evBool R cs st op pos es
 | .IfExp t b o _=>(R.tst cs st t).bind fun p=>p.1.k?.bind fun c=>R.ev cs p.2 (bif c then b else o)
 | .Attribute v a _=>evAttr T R cs st v a
 | .Subscript v i _=>evSub R cs st v i
 | .Tuple es _ _=>(evs R cs st es).bind fun p=>bif Nat.ble p.1.length 100000 then some (.tup p.1,p.2) else Option.none
 | .List es _=>(evs R cs st es).bind fun p=>bif Nat.ble p.1.length 100000 then some (pushV p.1 p.2) else Option.none
 | .Call f args kws pos=>evCall T R cs st f args kws pos
 | _=>Option.none
noncomputable def pureE:Nat→Expr→Bool
 | 0,_=>false
 | n+1,e=>match e with
  | .Constant _ _ _=>true
  | .Name _ _=>true
  | .Attribute v _ _=>pureE n v
  | .UnaryOp _ x _=>pureE n x
  | .Compare l ops rs _=>(one? ops).isSome&&(pureE n l&&optB (one? rs) (pureE n))
  | .BoolOp _ es _=>es.all (pureE n)
  | .Subscript v i _=>pureE n v&&pureE n i
  | .Call f args _ _=>optB (nameP f) (fun x=>lnBeq x.cps.toList lenN)&&optB (one? args) (pureE n)
  | _=>false
noncomputable def joinT (a:Bool) (c:BE):TV→TV
 | .k b=>bif beqB b a then .u c else .k b
 | .u d=>.u (bif a then .and c d else .or c d)
noncomputable def tstBool (R:Recs) (cs:Scope) (st:St) (op:BoolOp) (pos:Pos):List Expr→Option (TV×St)
 | []=>some (.k (isAnd op),st)
 | x::rest=>(R.tst cs st x).bind fun p=>match p.1 with
  | .k b=>bif beqB b (isAnd op) then R.tst cs p.2 (.BoolOp op rest pos) else some (.k b,p.2)
  | .u c=>(R.tst cs p.2 (.BoolOp op rest pos)).bind fun q=>bif pureE 8 (.BoolOp op rest pos) then some (joinT (isAnd op) c q.1,q.2) else Option.none
noncomputable def notT:TV→TV
 | .k b=>.k !b
 | .u c=>.u (.not c)
noncomputable def isNot:UnaryOp→Bool
 | .Not=>true
 | _=>false
theorem isNotS {op:UnaryOp} (h:isNot op=true):op=.Not:=tS (by cases op <;> first|exact trivial|exact rfl) h
noncomputable def truthP (r:Option (AV×St)):Option (TV×St):=r.bind fun p=>(truth p.1).map fun t=>(t,p.2)
noncomputable def tstStep (R:Recs) (cs:Scope) (st:St) (e:Expr):Option (TV×St):=match e with
 | .UnaryOp op x _=>bif isNot op then (R.tst cs st x).map fun p=>(notT p.1,p.2) else Option.none
 | .BoolOp op es pos=>tstBool R cs st op pos es
 | .Compare l ops rs _=>truthP (evCmp R cs st l ops rs)
 | .Name x p=>truthP (R.ev cs st (.Name x p))
 | .Call f a k p=>truthP (R.ev cs st (.Call f a k p))
 | _=>Option.none
noncomputable def plainValue (e:Expr):Bool:=Nat.ble (tagE e) 6
noncomputable def notSet (e:Expr):Bool:=!(Nat.beq (tagE e) 6)
noncomputable def itemsOf (R:Recs) (cs:Scope) (st:St) (e:Expr):Option (AV×List AV×St):=(R.ev cs st e).bind fun p =>
 alt p.1.tup? (fun l=>some (.tup l,l,p.2)) (p.1.rng?.bind fun r=>bif rngOk r.1 r.2.1 r.2.2 then some (.rng r.1 r.2.1 r.2.2,rngItems r.1 r.2.2 (rngLen r.1 r.2.1 r.2.2),p.2) else Option.none)
noncomputable def loopE (R:Recs) (cs:Scope) (x:List Nat) (body:List Stmt):List AV→St→Option FR
 | [],st=>some (.next st)
 | v::r,st=>(R.exs cs ⟨setL st.loc x v,st.lst⟩ body []).bind fun f=>match f with
  | .next st'=>loopE R cs x body r st'
  | .ret w st'=>some (.ret w st')
noncomputable def exs1 (R:Recs) (cs:Scope) (st:St) (s:Stmt) (rest:List Stmt) (ks:List (List Stmt)):Option FR:=match s with
 | .Expr e _=>bif plainValue e then ((R.ev cs st e).bind fun p=>bif p.1.nil? then R.exs cs p.2 rest ks else Option.none) else Option.none
 | .Assign tg e _=>((one? tg).bind nameP).bind fun x=>bif plainValue e&&isLocal cs x then ((R.ev cs st e).bind fun p=>R.exs cs ⟨setL p.2.loc x.cps.toList p.1,p.2.lst⟩ rest ks) else Option.none
 | .If t b o _=>(R.tst cs st t).bind fun p=>match p.1 with
  | .k c=>R.exs cs p.2 (bif c then b else o) (rest::ks)
  | .u c=>(R.exs cs p.2 b (rest::ks)).bind fun r₁=>(R.exs cs p.2 o (rest::ks)).bind fun r₂=>mergeFR c r₁ r₂
 | .For tg it body els _=>(nameP tg).bind fun x=>bif els.isEmpty&&(isLocal cs x&&notSet it) then ((itemsOf R cs st it).bind fun p=>(loopE R cs x.cps.toList body p.2.1 p.2.2).bind fun f=>match f with
  | .next st₂=>R.exs cs st₂ rest ks
  | .ret v st₂=>some (.ret v st₂)) else Option.none
 | .Return e _=>e.bind fun e=>(R.ev cs st e).map fun p=>.ret p.1 p.2
 | _=>Option.none
noncomputable def exsStep (R:Recs) (cs:Scope) (st:St) (l:List Stmt) (ks:List (List Stmt)):Option FR:=match l with
 | []=>(match ks with
  | []=>some (.next st)
  | l::ks=>R.exs cs st l ks)
 | s::rest=>exs1 R cs st s rest ks
noncomputable def zipL:List (List Nat)→List AV→Option Locs
 | [],vs=>bif vs.isEmpty then some [] else Option.none
 | n::ns,vs=>match vs with
  | []=>Option.none
  | v::vs=>(zipL ns vs).map fun r=>(n,v)::r
noncomputable def FR.ret?:FR→Option (AV×List (List AV))
 | .next _=>Option.none
 | .ret v st=>some (v,st.lst)
noncomputable def isDef:Stmt→Bool
 | .FunctionDef _ _ _ _ _ _ _ _ _ _=>true
 | _=>false
noncomputable def callStep (T:Tabs) (R:Recs) (f:AV) (args:List AV) (lst:List (List AV)):Option (AV×List (List AV)):=f.top?.bind fun a=>alt (T.hand a args lst) some
 ((lkA T.fns a).bind fun s=>bif isDef s then ((zipL ((sArgs s).args.map fun p=>p.arg.cps.toList) args).bind fun l=>(R.exs (sScope s) ⟨l,lst⟩ (sBody s) []).bind FR.ret?) else Option.none)
noncomputable def recs (T:Tabs):Nat→Recs
 | 0=>⟨fun _ _ _=>Option.none,fun _ _ _=>Option.none,fun _ _ _ _=>Option.none,fun _ _ _=>Option.none⟩
 | n+1=>⟨evStep T (recs T n),tstStep (recs T n),exsStep (recs T n),callStep T (recs T n)⟩
end
end Nn62
end
section
open PySem
namespace Nn62
section
noncomputable def digit (d:Nat):Nat:=if d<10 then 48+d else 87+d
noncomputable def hexN (n:Nat):List Nat:=if n<16 then [digit n] else hexN (n / 16)++[digit (n % 16)]
termination_by n
decreasing_by lia
noncomputable def hexL (e:Int):List Nat:=if e≤0 then [digit (e.emod 16).toNat] else hexN e.toNat
noncomputable def digitL (i:Int):List Nat:=[digit i.toNat]
noncomputable abbrev Sy:=Int×List Nat
noncomputable def better (a b:Sy):Bool:=decide (b.1<a.1)||(decide (a.1=b.1)&&decide (a.2<b.2))
noncomputable def nearGo (place:Int):List Sy→Option Sy→Option Sy
 | [],best=>best
 | s::r,best=>nearGo place r (if s.1≤place then (match best with|none=>some s|some b=>if better s b then some s else some b) else best)
noncomputable def nearL (syms:List Sy) (place:Int):Option Sy:=nearGo place syms none
noncomputable def plusL (name:List Nat) (gap:Int):List Nat:=if gap=0 then name else name++[43,48,120]++hexL gap
noncomputable def nearT (syms:List Sy) (place:Int):List Nat:=match nearL syms place with
 | none=>[]
 | some (spot,name)=>[60]++plusL name (place-spot)++[62]
noncomputable def toldL (syms:List Sy) (place:Int):List Nat:=[48,120]++hexL place++(match nearL syms place with
 | none=>[]
 | some (spot,name)=>[32,60]++plusL name (place-spot)++[62])
noncomputable def goodNames:List (List Nat):=[[109,97,105,110],[108,111,111,112],[95,120],[97,46,98],[122,57]]
noncomputable def pow64:Int:=18446744073709551616
noncomputable def SyOk (s:Sy):Prop:=0≤s.1∧s.1<pow64∧s.2∈goodNames
inductive SymVs (hx:List (Addr×Obj)):List Value→List Sy→Prop
 | nil:SymVs hx [] []
 | cons {a:Addr}{i:Int}{t:Tok}{x:List Nat}{t':Tok}{k:Nat}{vs:List Value}{l:List Sy}:(a,({cls:=.type "tuple",data:=.seq #[.int i t,.str (S x) t'] k}:Obj))∈hx→SymVs hx vs l→SymVs hx (.ref a::vs) ((i,x)::l)
end
section
theorem joinL_cons (c:Nat) (p:List Nat):∀ {ps:List (List Nat)},ps≠[]→joinL c (p::ps)=p++c::joinL c ps
 | _::_,_=>rfl
theorem joinHead_ok {ρ:Rho}{c:Nat}:∀ {ls:List (List Nat)}{ps:List SE},ls≠[]→ps≠[]→joinHead ls ps≠[]∧joinL c ((joinHead ls ps).map (·.den ρ))=joinL c ls++joinL c (ps.map (·.den ρ)) ∧
  ((∀ l∈ls,c∉l)→(∀ p∈ps,c∉p.den ρ)→∀ p∈joinHead ls ps,c∉p.den ρ)
 | [l],p::ps,_,_=>by
  refine (i03 (by simp [joinHead]) ?_ (fun h1 h2 q hq=>?_))
  ·show joinL c ((consLit l p).den ρ::ps.map (·.den ρ))=l++joinL c (p.den ρ::ps.map (·.den ρ))
   rw [consLit_den]
   cases ps with
   | nil=>rfl
   | cons q r=>show (l++p.den ρ)++c::_=l++(p.den ρ++c::_);rw [List.append_assoc]
  ·(refine zO (zC (show q∈consLit l p::ps from hq)) ?qa ?qb;(case' qb=>clear hq;intro hq);(case' qa=>intro Y0;subst Y0))
   ·rw [consLit_den]
    intro hc
    (refine zO (zA hc) ?qa0 ?qb0;(case' qb0=>clear hc;intro hc);(case' qa0=>clear hc;intro hc))
    ·exact h1 l (.head _) hc
    ·exact h2 p (.head _) hc
   ·exact h2 q (.tail _ hq)
 | l::l'::ls,ps,_,hp=>by
  refine e03 (joinHead_ok (ρ:=ρ) (c:=c) (ls:=l'::ls) (ps:=ps) (by simp) hp) ?_;clear joinHead_ok hp;intro i1 i2 i3
  have e:joinHead (l::l'::ls) ps=SE.ofL l::joinHead (l'::ls) ps:=by cases ps <;> rfl
  refine (i03 (by rw [e];simp) ?_ (fun h1 h2 q hq=>?_))
  ·rw [e,List.map_cons,joinL_cons c _ (by simpa using i1),i2,SE.ofL_den]
   show l++c::(joinL c (l'::ls)++_)=(l++c::joinL c (l'::ls))++_
   rw [List.append_assoc];rfl
  ·rw [e] at hq
   (refine zO (zC hq) ?qa1 ?qb1;(case' qb1=>clear hq;intro hq);(case' qa1=>intro Y0;subst Y0))
   ·rw [SE.ofL_den];exact h1 l (.head _)
   ·exact i3 (fun x hx=>h1 x (.tail _ hx)) h2 q hq
theorem SE.splitAt_ok {ρ:Rho}{c:Nat} (hf:hexFree c=true→∀ e,c∉ρ.f 0 e):∀ {s:SE}{ps:List SE},s.splitAt c=some ps→ps≠[]∧joinL c (ps.map (·.den ρ))=s.den ρ∧∀ p∈ps,c∉p.den ρ:=by
 intro s
 induction s with
 | nil=>intro ps h;(have Y0:=s1 h;try clear h;subst Y0);(exact (i03 (by simp) rfl (fun p hp=>by rw [zS hp];exact List.not_mem_nil)))
 | lit l r ih =>
  intro ps h
  refine e12 (Option.map_eq_some_iff.mp (show Option.map _ _=some ps from h)) ?_;intro qs e Y2;subst Y2
  refine e03 (ih e) ?_;intro i1 i2 i3
  refine e02 (splitL_ok c l) ?_;intro a b
  refine e03 (joinHead_ok (ρ:=ρ) (c:=c) (splitL_ne c l) i1) ?_;intro j1 j2 j3
  (exact (i03 j1 (by rw [j2,a,i2];rfl) (j3 b i3)))
 | svar k n r _=>intro ps h;exact xNS h
 | fn f n e r ih =>
  intro ps h
  unfold splitAt at h
  cases q:(Nat.beq f 0&&hexFree c) with
  | false=>rw [q] at h;exact xNS h
  | true =>
   rw [q,cond_true] at h
   have q:=Bool.and_eq_true_iff.mp q
   have hf0:=zE q.1
   split at h
   ·rename_i p qs e1
    (have Y0:=s1 h;try clear h;subst Y0)
    refine e03 (ih e1) ?_;clear ih e1;intro i1 i2 i3
    refine (i03 (by simp) ?_ (fun x hx=>?_))
    ·show joinL c (((ρ.f f (e.den ρ)).take n++p.den ρ)::qs.map (·.den ρ))=(ρ.f f (e.den ρ)).take n++r.den ρ
     rw [← i2]
     cases qs with
     | nil=>rfl
     | cons y ys=>show (_++p.den ρ)++c::_=_++(p.den ρ++c::_);rw [List.append_assoc]
    ·(refine zO (zC hx) ?qa ?qb;(case' qb=>clear hx;intro hx);(case' qa=>intro Y0;subst Y0))
     ·intro hc
      rcases zA (show c∈(ρ.f f (e.den ρ)).take n++p.den ρ from hc) with hc|hc
      ·rw [hf0] at hc;exact hf q.2 _ (List.mem_of_mem_take hc)
      ·exact i3 p (.head _) hc
     ·exact i3 x (.tail _ hx)
   ·exact xNS h
 | ite b x y r _ _ _=>intro ps h;exact xNS h
 | ext l n r _=>intro ps h;exact xNS h
theorem cut_inj {c:Nat}:∀ {a a' r r':List Nat},c∉a→c∉a'→a++c::r=a'++c::r'→a=a'∧r=r'
 | [],[],r,r',_,_,h=>by simpa using h
 | [],x::a',r,r',_,h',h=>by
  have h:c::r=x::(a'++c::r'):=h
  injection h with e _
  exact absurd (e▸.head _) h'
 | x::a,[],r,r',h0,_,h=>by
  have h:x::(a++c::r)=c::r':=h
  injection h with e _
  exact absurd (e▸.head _) h0
 | x::a,y::a',r,r',h0,h',h=>by
  have h:x::(a++c::r)=y::(a'++c::r'):=h
  injection h with e e2
  refine e02 (cut_inj (fun z=>h0 (.tail _ z)) (fun z=>h' (.tail _ z)) e2) ?_;clear cut_inj h0 h';intro i1 i2
  exact ⟨by rw [e,i1],i2⟩
theorem joinL_inj {c:Nat}:∀ {as bs:List (List Nat)},as≠[]→bs≠[]→(∀ a∈as,c∉a)→(∀ b∈bs,c∉b)→joinL c as=joinL c bs→as=bs
 | [a],[b],_,_,_,_,h=>by rw [show a=b from h]
 | [a],b::b'::bs,_,_,ha,_,h=>by
  have h:a=b++c::joinL c (b'::bs):=h
  exact absurd (h▸zR _ (.head _)) (ha a (.head _))
 | a::a'::as,[b],_,_,_,hb,h=>by
  have h:a++c::joinL c (a'::as)=b:=h
  exact absurd (h▸zR _ (.head _)) (hb b (.head _))
 | a::a'::as,b::b'::bs,_,_,ha,hb,h=>by
  have h:a++c::joinL c (a'::as)=b++c::joinL c (b'::bs):=h
  refine e02 (cut_inj (ha a (.head _)) (hb b (.head _)) h) ?_;clear h;intro i1 i2
  rw [i1,joinL_inj (by simp) (by simp) (fun x hx=>ha x (.tail _ hx)) (fun x hx=>hb x (.tail _ hx)) i2]
noncomputable abbrev Sx (l:List Nat):Str:=⟨⟨l⟩⟩
theorem Sx_app (a b:List Nat):Sx a++Sx b=Sx (a++b):=by
 show Str.append _ _=_
 unfold Str.append
 simp
theorem join_Sx (c:Nat):∀ l:List (List Nat),Str.join (Sx [c]) (l.map Sx)=Sx (joinL c l)
 | []=>rfl
 | [_]=>rfl
 | a::b::r=>by
  show Sx a++Sx [c]++Str.join (Sx [c]) ((b::r).map Sx)=Sx (a++c::joinL c (b::r))
  rw [join_Sx c (b::r),Sx_app,Sx_app,List.append_assoc];rfl
theorem Sx_back (x:Str):Sx x.cps.toList=x:=by cases x with|mk a=>cases a;rfl
theorem split_is {c:Nat}{ps:List (List Nat)} (h1:ps≠[]) (h2:∀ p∈ps,c∉p):Txt.split (Sx (joinL c ps)) (Sx [c])=ps.map Sx:=by
 have hj:=StrLaws.join_split (Sx (joinL c ps)) (Sx [c])
 have hfree:=StrLaws.split_free (Sx (joinL c ps)) c
 have hpos:=PyProof.Rows.split_pos (Sx (joinL c ps)) (Sx [c])
 have e:(Txt.split (Sx (joinL c ps)) (Sx [c]))=((Txt.split (Sx (joinL c ps)) (Sx [c])).map fun x=>x.cps.toList).map Sx:=by
  rw [List.map_map]
  conv=>lhs;rw [← List.map_id (Txt.split _ _)]
  exact List.map_congr_left fun x _=>(Sx_back x).symm
 rw [e] at hj ⊢
 rw [join_Sx] at hj
 have hj':=congrArg (fun t:Str=>t.cps.toList) hj
 simp only at hj'
 congr 1
 refine joinL_inj (c:=c) ?_ h1 (fun a ha=>?_) h2 hj'
 ·intro z
  have:=congrArg List.length z
  rw [List.length_map] at this
  simp only [List.length_nil] at this
  lia
 ·refine e12 (List.mem_map.mp ha) ?_;clear ha;intro x hx Y2;subst Y2
  exact hfree x hx
end
end Nn62
end
section
open PySem PySem.W PySem.Calls PySem.NumText PyProof.Rows
namespace Nn62
section
noncomputable def isHex (c:Nat):Bool:=(Nat.ble 48 c&&Nat.ble c 57)||(Nat.ble 97 c&&Nat.ble c 102)
noncomputable def hexVal (c:Nat):Nat:=if c≤57 then c-48 else c-87
noncomputable def hexOf (l:List Nat):Nat:=l.foldl (fun acc c=>acc*16+hexVal c) 0
theorem isHex_iff {c:Nat} (h:isHex c=true):(48≤c∧c≤57)∨(97≤c∧c≤102):=by
 unfold isHex at h
 simp only [Bool.or_eq_true,Bool.and_eq_true,Nat.ble_eq] at h
 exact h
theorem hex_blank {c:Nat} (h:isHex c=true):blank c=false:=by
 have:=isHex_iff h
 unfold blank
 simp only [Bool.or_eq_false_iff,beq_eq_false_iff_ne,Bool.and_eq_false_iff,decide_eq_false_iff_not]
 lia
theorem hex_step {c:Nat} (h:isHex c=true) (p:Array Nat×Bool)  :NumText.step 16 p c=some (p.1.push (hexVal c),true):=by
 have:=isHex_iff h
 unfold NumText.step
 have h95:(c==95)=false:=by simp only [beq_eq_false_iff_ne];lia
 rw [h95]
 simp only [Bool.false_eq_true,if_false]
 have hd:digit? c=some (hexVal c):=by
  unfold digit? hexVal
  by_cases q:c≤57
  ·have:(decide (48≤c)&&decide (c≤57))=true:=by simp;lia
   rw [this,if_pos rfl,if_pos q]
  ·have h1:(decide (48≤c)&&decide (c≤57))=false:=by simp;lia
   have h2:(decide (97≤c)&&decide (c≤122))=true:=by simp;lia
   rw [h1,h2,if_neg zF,if_pos rfl,if_neg q]
 rw [hd]
 have:hexVal c<16:=by unfold hexVal;split <;> lia
 simp only [this,if_true]
theorem hex_fold:∀ (l:List Nat) (p:Array Nat×Bool),(∀ c∈l,isHex c=true)→l.foldlM (NumText.step 16) p=some (p.1++(l.map hexVal).toArray,if l=[] then p.2 else true)
 | [],p,_=>by simp [List.foldlM]
 | c::l,p,h=>by
  rw [List.foldlM_cons,hex_step (h c (.head _))]
  show l.foldlM (NumText.step 16) _=_
  rw [hex_fold l _ fun d hd=>h d (.tail _ hd)]
  by_cases q:l=[]
  ·subst q;simp
  ·simp [q,← Array.toList_inj]
theorem drop_none {p:Nat→Bool}{l:List Nat} (h:∀ c∈l,p c=false):l.dropWhile p=l:=by
 cases l with
 | nil=>rfl
 | cons c l=>rw [List.dropWhile_cons,h c (.head _)];rfl
theorem hex_read {l:List Nat} (h:∀ c∈l,isHex c=true) (hne:l≠[]):(int_private% "readNumeral") 0 16 l=(int_private% "Numeral.value") (hexOf l):=by
 rw [readNumeral_eq]
 have hb:l.dropWhile blank=l:=drop_none fun c hc=>hex_blank (h c hc)
 rw [hb]
 have hs:sign l=(false,l):=by
  cases l with
  | nil=>rfl
  | cons c l =>
   have:=isHex_iff (h c (.head _))
   unfold sign
   split
   ·rename_i e;cases e;lia
   ·rename_i e;cases e;lia
   ·rfl
 rw [hs]
 have hbase:based 16 l=(16,false,l):=by
  unfold based
  cases hp:prefix? l with
  | none=>rfl
  | some p =>
   have:p≠16:=by
    unfold prefix? at hp
    split at hp
    ·rename_i c r
     have:=isHex_iff (h c (.tail _ (.head _)))
     have e1:(c==120||c==88)=false:=by simp;lia
     rw [e1] at hp
     simp only [Bool.false_eq_true,if_false] at hp
     split at hp
     ·(have Y0:=s1 hp;try clear hp;subst Y0);decide
     ·split at hp
      ·(have Y0:=s1 hp;try clear hp;subst Y0);decide
      ·exact xNS hp
    ·exact xNS hp
   have e:((16:Nat)==0||(16:Nat)==p)=false:=by simp;lia
   simp only [e,Bool.false_eq_true,if_false]
 rw [hbase]
 have hr:((l.reverse.dropWhile blank).reverse)=l:=by
  rw [drop_none fun c hc=>hex_blank (h c (List.mem_reverse.mp hc)),List.reverse_reverse]
 show judge 0 false 16 false (digits? 16 ((l.reverse.dropWhile blank).reverse))=_
 rw [hr]
 have hd:digits? 16 l=some (l.map hexVal).toArray:=by
  unfold digits?
  rw [hex_fold l _ h,if_neg hne]
  simp
 rw [hd]
 unfold judge
 have e2:(List.map hexVal l).toArray.foldl (fun acc d=>acc*16+d) 0=hexOf l:=by
  unfold hexOf
  simp [List.foldl_map]
 simp only [e2]
 rfl
theorem wp_hex {M:Model}{A:Around}{E:Value→Shared→Prop}{s:Shared}{Q:Value→Shared→Prop}{v:Value}{text:List Nat}{n:Int}
  (hs:(text.takeWhile (· != 0)).length≤640) (hr:(int_private% "readNumeral") 0 16 (text.takeWhile (· != 0))=(int_private% "Numeral.value") n)
  (ha:((text.takeWhile (· != 0)).length==text.length)=true) (h:Q (.int n s.toks) {s with toks:=s.toks+1}) :
  wpAny M A ((int_private% "intFromText") v text 16) Q E s:=by
 obtain ⟨hp,g,d,tk,os⟩:=s
 repeat (any_goals (first
  | assumption
  | (with_reducible refine wpAny_ite_true (decide_eq_true hs) ?_)
  | (with_reducible refine wpAny_ite_true (decide_eq_true ha) ?_)
  | wp_step))
 all_goals (try rw [hr])
 all_goals (try dsimp only)
 repeat (any_goals (first
  | assumption
  | (with_reducible refine wpAny_ite_true (decide_eq_true hs) ?_)
  | (with_reducible refine wpAny_ite_true (decide_eq_true ha) ?_)
  | wp_step))
theorem hex_take {l:List Nat} (h:∀ c∈l,isHex c=true):l.takeWhile (· != 0)=l:=by
 induction l with
 | nil=>rfl
 | cons c l ih =>
  have:=isHex_iff (h c (.head _))
  rw [List.takeWhile_cons,show (c != 0)=true by simp;lia,if_pos rfl,ih fun d hd=>h d (.tail _ hd)]
theorem typeCall_int_2 (a b:Value):checkTypeCall "int" ⟨[a,b],[]⟩=pure ():=by kernel_rfl
theorem newCall_int_2 (a b:Value):checkBuiltinCall "int.__new__" ⟨[.type "int",a,b],[]⟩=pure ():=by kernel_rfl
structure HidP (p:Prop):Prop where
 out:p
set_option maxHeartbeats 4000000 in
theorem gives_hex {l:List Nat}{u v:Tok} (h:∀ c∈l,isHex c=true) (hne:l≠[]) (hl:l.length≤100):Gives (Builtin.«int.__new__» ⟨[.type "int",.str (S l) u,.int 16 v],[]⟩) (.int (hexOf l)) :=
 .of_wp fun M A E s Q hq=>by
  obtain ⟨hp,g,d,tk,os⟩:=s
  have f1:=F.conv_sub_int
  have f2:=F.madeHere_int
  have f6:typeOf (.str (S l) u)=pure (.type "str"):=rfl
  have e1:=hex_take h
  have hs:(l.takeWhile (· != 0)).length≤640:=by rw [e1];(exact Nat.le_trans (by assumption) (by decide))
  have hr:(int_private% "readNumeral") 0 16 (l.takeWhile (· != 0))=(int_private% "Numeral.value") (hexOf l):=by rw [e1];exact hex_read h hne
  have ha:((l.takeWhile (· != 0)).length==l.length)=true:=by rw [e1];simp
  have hall:((S l).cps.all (·<128))=true:=by
   show (Array.all ⟨l⟩ _)=true
   simp only [List.all_toArray,List.all_eq_true,decide_eq_true_eq]
   intro c hc
   have:=isHex_iff (h c hc)
   lia
  have hk:=HidP.mk (And.intro hs (And.intro hr ha))
  have e2:((if ((S l).cps.all (·<128))=true then (S l).cps.toList else Unicode.numberText (S l).cps.toList):List Nat)=l:=by rw [if_pos hall]
  have hk2:=HidP.mk e2
  clear hs hr ha h hne hl e1 e2 hall
  repeat (any_goals (first
   | assumption
   | ((with_reducible show wpAny _ _ ((int_private% "intFromText") _ _ _) _ _ _);rw [hk2.out];refine wp_hex hk.out.1 hk.out.2.1 hk.out.2.2 ?_)
   | wp_step))
  all_goals (exact (i12 _ rfl hq))
theorem initArgs_2 (obj a b:Value):argsOk "object.__init__" ⟨[obj,a,b],[]⟩:=by
 unfold argsOk;rw [signature?_of (id:="object.__init__") (n:=['_','_','t','i','n','i','_','_']) (o:=['t','c','e','j','b','o']) (by kernel_rfl) F.owner_object];kernel_rfl
theorem int_hex {prog:Program}{w:World}{A:Around}{E:Value→Shared→Prop}{s:Shared}{Q:Value→Shared→Prop}{l:List Nat}{u v:Tok} (h:∀ c∈l,isHex c=true) (hne:l≠[]) (hl:l.length≤100) (hq:Q (.int (hexOf l) s.toks) {s with toks:=s.toks+1}) :
  wpAny (model prog w) A (call (.type "int") [.str (S l) u,.int 16 v]) Q E s :=
 callType_new F.called_int F.newNe_int (typeCall_int_2 _ _) (newCall_int_2 _ _) (fun obj=>initArgs_2 obj _ _) F.entry_int_new (gives_hex h hne hl).meets (show (Made.int (hexOf l)).post _ s from ⟨rfl,hq⟩)
theorem hexVal_digit {d:Nat} (h:d<16):hexVal (digit d)=d∧isHex (digit d)=true :=
 (by decide:∀ d<16,hexVal (digit d)=d∧isHex (digit d)=true) d h
theorem hexOf_snoc (l:List Nat) (c:Nat):hexOf (l++[c])=hexOf l*16+hexVal c:=by
 unfold hexOf;rw [List.foldl_append];rfl
theorem hexN_back:∀ m:Nat,hexOf (hexN m)=m∧(∀ c∈hexN m,isHex c=true)∧hexN m≠[]:=by
 intro m
 induction m using Nat.strongRecOn with
 | ind m ih =>
  unfold hexN
  by_cases h16:m<16
  ·rw [if_pos h16]
   refine e02 (hexVal_digit h16) ?_;intro a b
   (refine (i03 (by show 0*16+hexVal (digit m)=m;lia) (fun c hc=>by rw [zS hc];exact b) (by simp)))
  ·rw [if_neg h16]
   refine e03 (ih (m / 16) (by lia)) ?_;intro i1 i2 i3
   refine e02 (hexVal_digit (Nat.mod_lt m (by decide:0<16))) ?_;intro a b
   refine (i03 (by rw [hexOf_snoc,i1,a];lia) (fun c hc=>?_) (by simp))
   rcases zA hc with hc|hc
   ·exact i2 c hc
   ·rw [zS hc];exact b
theorem hexL_back {e:Int} (h:0≤e):(hexOf (hexL e):Int)=e∧(∀ c∈hexL e,isHex c=true)∧hexL e≠[]:=by
 unfold hexL
 by_cases h0:e≤0
 ·have:e=0:=by lia
  subst this
  (exact (i03 (by decide) (by decide) (by decide)))
 ·rw [if_neg h0]
  refine e03 (hexN_back e.toNat) ?_;intro a b c
  (exact (i03 (by rw [a];lia) b c))
theorem log_div16 {m:Nat} (h:0<m / 16):(m / 16).log2 / 4+1=m.log2 / 4:=by
 have h4:∀ a:Nat,2≤a→a.log2=(a / 2).log2+1:=fun a ha=>by
  rw [Nat.log2_def];simp [ha]
 have e:m / 16=m / 2 / 2 / 2 / 2:=by lia
 rw [e]
 rw [h4 m (by lia),h4 (m / 2) (by lia),h4 (m / 2 / 2) (by lia),h4 (m / 2 / 2 / 2) (by lia)]
 lia
theorem hexN_len:∀ m:Nat,(hexN m).length≤m.log2 / 4+1:=by
 intro m
 induction m using Nat.strongRecOn with
 | ind m ih =>
  unfold hexN
  by_cases h16:m<16
  ·rw [if_pos h16];simp
  ·rw [if_neg h16,List.length_append,List.length_singleton]
   have:=ih (m / 16) (by lia)
   have:=log_div16 (m:=m) (by lia)
   lia
theorem hexL_len {e:Int}{k:Nat} (h:e<2 ^ (4*k)) (hk:0<k):(hexL e).length≤k:=by
 unfold hexL
 split
 ·exact hk
 ·have h1:=hexN_len e.toNat
  have h2:e.toNat.log2<4*k:=(Nat.log2_lt (by lia)).mpr (by
   have:(e.toNat:Int)<((2 ^ (4*k):Nat):Int):=by push_cast;lia
   exact_mod_cast this)
  lia
end
end Nn62
end
section
open PySem PySem.W PyProof.Rows
namespace Nn62
section
theorem wpAny_hide {α:Type}{M:Model}{A:Around}{t:Sem α}{P:α→Shared→Prop}{E:Value→Shared→Prop}{s:Shared} (h:∀ Q:α→Shared→Prop,(∀ v s',P v s'→Q v s')→wpAny M A t Q E s):wpAny M A t P E s:=h P fun _ _ z=>z
structure Led where
 imm:List (Addr×Obj)
 lad:List Addr
structure Led.le (D D':Led):Prop where
 imm:∀ p∈D.imm,p∈D'.imm
 lad:∀ (i:Nat) (a:Addr),D.lad[i]?=some a→D'.lad[i]?=some a
theorem Led.le.refl (D:Led):D.le D:=⟨fun _ h=>h,fun _ _ h=>h⟩
theorem Led.le.trans {a b c:Led} (x:a.le b) (y:b.le c):a.le c:=⟨fun p h=>y.imm p (x.imm p h),fun i d h=>y.lad i d (x.lad i d h)⟩
noncomputable def biV:Nat→Value
 | 0=>.builtin "len"
 | 1=>.type "str"
 | 2=>.type "range"
 | 3=>.type "int"
 | 4=>.builtin "sorted"
 | 5=>.type "enumerate"
 | 6=>.builtin "max"
 | 7=>.type "list"
 | 8=>.type "tuple"
 | _=>.none
mutual
inductive VR (ρ:Rho) (D:Led):AV→Value→Prop
 | none:VR ρ D .none .none
 | bool (b:Bool):VR ρ D (.bool b) (.bool b)
 | bexp (c:BE):VR ρ D (.bexp c) (.bool (c.den ρ))
 | int (e:IE) (t:Tok):VR ρ D (.int e) (.int (e.den ρ) t)
 | str (s:SE) (t:Tok):VR ρ D (.str s) (.str (S (s.den ρ)) t)
 | slen (s:SE) (t:Tok):VR ρ D (.slen s) (.int (s.den ρ).length t)
 | tup {l:List AV}{vs:List Value}{a:Addr}{n:Nat}:(a,({cls:=.type "tuple",data:=.seq vs.toArray n}:Obj))∈D.imm→VRs ρ D l vs→VR ρ D (.tup l) (.ref a)
 | inst {C:Nat}{ns:List (List Nat)}{avs:List AV}{x dx:Addr}{es:List DictEntry}{n:Nat}:(x,instObj C dx)∈D.imm→(dx,dictOf es n)∈D.imm→FRs ρ D es ns avs→VR ρ D (.inst C ns avs) (.ref x)
 | loc {i:Nat}{a:Addr}:D.lad[i]?=some a→VR ρ D (.loc i) (.ref a)
 | top (a:Addr):VR ρ D (.top a) (.ref a)
 | bi (k:Nat):VR ρ D (.bi k) (biV k)
 | opq (k:Nat) {a:Addr}:ρ.o k=.ref a→VR ρ D (.opq k) (.ref a)
 | rng {a b c:Int}{x:Addr}{t u v:Tok}:(x,({cls:=.type "range",data:=.fields #[.int a t,.int b u,.int c v]}:Obj))∈D.imm→VR ρ D (.rng a b c) (.ref x)
 | val (v:Value):VR ρ D (.val v) v
inductive VRs (ρ:Rho) (D:Led):List AV→List Value→Prop
 | nil:VRs ρ D [] []
 | cons {a:AV}{v:Value}{l:List AV}{vs:List Value}:VR ρ D a v→VRs ρ D l vs→VRs ρ D (a::l) (v::vs)
inductive FRs (ρ:Rho) (D:Led):List DictEntry→List (List Nat)→List AV→Prop
 | nil {es:List DictEntry}:FRs ρ D es [] []
 | cons {es:List DictEntry}{n:List Nat}{ns:List (List Nat)}{a:AV}{avs:List AV}{v:Value}:getL (S n) es=some (some v)→handedIn v=true→VR ρ D a v→FRs ρ D es ns avs→FRs ρ D es (n::ns) (a::avs)
end
section
variable {ρ:Rho}{D D':Led} (le:D.le D')
include le
theorem VR.mono {a:AV}{v:Value} (h:VR ρ D a v):VR ρ D' a v :=
 VR.rec (motive_1:=fun a v _=>VR ρ D' a v) (motive_2:=fun a v _=>VRs ρ D' a v) (motive_3:=fun a b c _=>FRs ρ D' a b c)
  .none .bool .bexp .int .str .slen (fun m _ r=>.tup (le.imm _ m) r) (fun m d _ r=>.inst (le.imm _ m) (le.imm _ d) r) (fun e=>.loc (le.lad _ _ e)) .top .bi .opq (fun m=>.rng (le.imm _ m)) .val .nil (fun _ _ x y=>.cons x y) .nil (fun e q _ _ x y=>.cons e q x y) h
theorem VRs.mono {a:List AV}{v:List Value} (h:VRs ρ D a v):VRs ρ D' a v :=
 VRs.rec (motive_1:=fun a v _=>VR ρ D' a v) (motive_2:=fun a v _=>VRs ρ D' a v) (motive_3:=fun _ _ _ _=>True)
  .none .bool .bexp .int .str .slen (fun m _ r=>.tup (le.imm _ m) r) (fun m d r _=>(VR.inst m d r).mono le) (fun e=>.loc (le.lad _ _ e)) .top .bi .opq (fun m=>.rng (le.imm _ m)) .val .nil (fun _ _ x y=>.cons x y) trivial (fun _ _ _ _ _ _=>trivial) h
end
noncomputable def VRI (ρ:Rho) (D:Led) (v:Value):AV→Prop
 | .none=>v=.none
 | .bool b=>v=.bool b
 | .bexp c=>v=.bool (c.den ρ)
 | .int e=>∃ t,v=.int (e.den ρ) t
 | .str x=>∃ t,v=.str (S (x.den ρ)) t
 | .slen x=>∃ t,v=.int (x.den ρ).length t
 | .tup l=>∃ vs a n,(a,({cls:=.type "tuple",data:=.seq vs.toArray n}:Obj))∈D.imm∧VRs ρ D l vs∧v=.ref a
 | .inst C ns avs=>∃ x dx es n,(x,instObj C dx)∈D.imm∧(dx,dictOf es n)∈D.imm∧FRs ρ D es ns avs∧v=.ref x
 | .loc i=>∃ a,D.lad[i]?=some a∧v=.ref a
 | .top a=>v=.ref a
 | .bi k=>v=biV k
 | .opq k=>v=ρ.o k
 | .rng a b c=>∃ x t u w,(x,({cls:=.type "range",data:=.fields #[.int a t,.int b u,.int c w]}:Obj))∈D.imm∧v=.ref x
 | .val u=>v=u
noncomputable def VsI (ρ:Rho) (D:Led) (vs:List Value):List AV→Prop
 | []=>vs=[]
 | a::l=>∃ v r,VR ρ D a v∧VRs ρ D l r∧vs=v::r
section
variable {ρ:Rho}{D:Led}{v:Value}
theorem VR.inv {a:AV} (V:VR ρ D a v):VRI ρ D v a:=by
 cases V with
 | int _ t=>exact ⟨t,rfl⟩
 | str _ t=>exact ⟨t,rfl⟩
 | slen _ t=>exact ⟨t,rfl⟩
 | tup m r=>(exact (i33 _ _ _ m r rfl))
 | inst m d r=>(exact (i44 _ _ _ _ m d r rfl))
 | loc e=>(exact (i12 _ e rfl))
 | opq _ e=>exact e.symm
 | rng m=>(exact (i42 _ _ _ _ m rfl))
 | _=>exact rfl
theorem VR.noneI (V:VR ρ D .none v):v=.none:=V.inv
theorem VR.boolI {b:Bool} (V:VR ρ D (.bool b) v):v=.bool b:=V.inv
theorem VR.bexpI {c:BE} (V:VR ρ D (.bexp c) v):v=.bool (c.den ρ):=V.inv
theorem VR.intI {e:IE} (V:VR ρ D (.int e) v):∃ t,v=.int (e.den ρ) t:=V.inv
theorem VR.strI {x:SE} (V:VR ρ D (.str x) v):∃ t,v=.str (S (x.den ρ)) t:=V.inv
theorem VR.slenI {x:SE} (V:VR ρ D (.slen x) v):∃ t,v=.int (x.den ρ).length t:=V.inv
theorem VR.locI {i:Nat} (V:VR ρ D (.loc i) v):∃ a,D.lad[i]?=some a∧v=.ref a:=V.inv
theorem VR.topI {a:Nat} (V:VR ρ D (.top a) v):v=.ref a:=V.inv
theorem VR.biI {k:Nat} (V:VR ρ D (.bi k) v):v=biV k:=V.inv
theorem VR.valI {u:Value} (V:VR ρ D (.val u) v):v=u:=V.inv
theorem VR.rngI {a b c:Int} (V:VR ρ D (.rng a b c) v):∃ x t u w,(x,({cls:=.type "range",data:=.fields #[.int a t,.int b u,.int c w]}:Obj))∈D.imm∧v=.ref x:=V.inv
theorem VR.tupI {l:List AV} (V:VR ρ D (.tup l) v):∃ vs a n,(a,({cls:=.type "tuple",data:=.seq vs.toArray n}:Obj))∈D.imm∧VRs ρ D l vs∧v=.ref a:=V.inv
theorem VR.instI {C:Nat}{ns:List (List Nat)}{avs:List AV} (V:VR ρ D (.inst C ns avs) v):∃ x dx es n,(x,instObj C dx)∈D.imm∧(dx,dictOf es n)∈D.imm∧FRs ρ D es ns avs∧v=.ref x:=V.inv
theorem VR.opqI {k:Nat} (V:VR ρ D (.opq k) v):v=ρ.o k:=V.inv
theorem VR.opqR {k:Nat} (V:VR ρ D (.opq k) v):∃ a,ρ.o k=.ref a∧v=.ref a:=by cases V with|opq _ h=>exact ⟨_,h,rfl⟩
theorem VRs.inv {l:List AV}{vs:List Value} (V:VRs ρ D l vs):VsI ρ D vs l:=by
 cases V with
 | nil=>exact rfl
 | cons x y=>(exact (i23 _ _ x y rfl))
theorem VRs.consI {a:AV}{l:List AV}{vs:List Value} (V:VRs ρ D (a::l) vs):∃ v r,VR ρ D a v∧VRs ρ D l r∧vs=v::r:=V.inv
theorem VRs.nilI {vs:List Value} (V:VRs ρ D [] vs):vs=[]:=V.inv
theorem VRs.oneI {a:AV}{vs:List Value} (V:VRs ρ D [a] vs):∃ v,VR ρ D a v∧vs=[v]:=by
 refine e23 (V.consI) ?_;clear V;intro v r x y Y4;subst Y4
 obtain rfl:=y.nilI
 (exact (i12 v x rfl))
theorem VRs.twoI {a b:AV}{vs:List Value} (V:VRs ρ D [a,b] vs):∃ v u,VR ρ D a v∧VR ρ D b u∧vs=[v,u]:=by
 refine e23 (V.consI) ?_;clear V;intro v r x y Y4;subst Y4
 refine e12 (y.oneI) ?_;clear y;intro u y' Y2;subst Y2
 (exact (i23 v u x y' rfl))
theorem VRs.threeI {a b c:AV}{vs:List Value} (V:VRs ρ D [a,b,c] vs):∃ v u z,VR ρ D a v∧VR ρ D b u∧VR ρ D c z∧vs=[v,u,z]:=by
 refine e23 (V.consI) ?_;clear V;intro v r x y Y4;subst Y4
 refine e23 (y.twoI) ?_;clear y;intro u z y' z' Y4;subst Y4
 (exact (i34 v u z x y' z' rfl))
end
theorem VR.sy {ρ:Rho}{D:Led}{k:Nat}{a:Addr} (e:ρ.o k=.ref a):VR ρ D (.opq k) (ρ.o k):=by
 rw [e];exact .opq k e
section
variable {ρ:Rho}{D:Led}{l l':List AV}{vs vs':List Value}{a:AV}
theorem VRs.length (h:VRs ρ D l vs):l.length=vs.length:=by
 induction l generalizing vs with
 | nil=>rw [h.nilI];rfl
 | cons a l ih=>(refine e23 (h.consI) ?_;clear h;intro v r _ y Y4;subst Y4);exact congrArg (·+1) (ih y)
theorem VRs.get {i:Nat} (h:VRs ρ D l vs) (e:l[i]?=some a):∃ v,vs[i]?=some v∧VR ρ D a v:=by
 induction l generalizing vs i with
 | nil=>exact xNS e
 | cons b l ih =>
  refine e23 (h.consI) ?_;clear h;intro v r x y Y4;subst Y4
  cases i with
  | zero=>(have Y0:=s1 e;try clear e;subst Y0);(exact (i12 v rfl x))
  | succ i=>exact ih (i:=i) y e
theorem VRs.append (x:VRs ρ D l vs) (y:VRs ρ D l' vs'):VRs ρ D (l++l') (vs++vs'):=by
 induction l generalizing vs with
 | nil=>rw [x.nilI];exact y
 | cons a l ih=>(refine e23 (x.consI) ?_;clear x;intro v r x1 x2 Y4;subst Y4);exact .cons x1 (ih x2)
theorem VRs.reverse (x:VRs ρ D l vs):VRs ρ D l.reverse vs.reverse:=by
 induction l generalizing vs with
 | nil=>rw [x.nilI];exact .nil
 | cons a l ih=>(refine e23 (x.consI) ?_;clear x;intro v r x1 x2 Y4;subst Y4);rw [List.reverse_cons,List.reverse_cons];exact (ih x2).append (.cons x1 .nil)
theorem FRs.consI {es:List DictEntry}{n:List Nat}{ns:List (List Nat)}{avs:List AV} (h:FRs ρ D es (n::ns) avs):∃ a r v,avs=a::r∧getL (S n) es=some (some v)∧handedIn v=true∧VR ρ D a v∧FRs ρ D es ns r:=by
 cases h with|cons e q y r=>(exact (i35 _ _ _ rfl e q y r))
theorem FRs.get {x:List Nat}{es:List DictEntry}{ns:List (List Nat)}{avs:List AV} (h:FRs ρ D es ns avs) (e:fieldOf ns avs x=some a):∃ v,getL (S x) es=some (some v)∧handedIn v=true∧VR ρ D a v:=by
 induction ns generalizing avs with
 | nil=>exact xNS e
 | cons n ns ih =>
  refine e35 (h.consI) ?_;clear h;intro b r v Y3 h1 h2 h3 h4;subst Y3
  have e:(bif lnBeq n x then some b else fieldOf ns r x)=some a:=e
  (refine zO (cond2S e) (fun qh=>e02 qh ?qa) (fun qh=>e02 qh ?qb);(case' qb=>clear e;intro _ e);(case' qa=>clear e;intro p e))
  ·(have Y0:=s1 e;try clear e;subst Y0);rw [← lnBeq_eq p];(exact (i13 v h1 h2 h3))
  ·exact ih h4 e
end
inductive LsR (ρ:Rho) (D:Led):List (Addr×Obj)→List (List AV)→Prop
 | nil:LsR ρ D [] []
 | cons {a:Addr}{vs:List Value}{n:Nat}{l:List AV}{P:List (Addr×Obj)}{ls:List (List AV)}:VRs ρ D l vs→LsR ρ D P ls→LsR ρ D ((a,{cls:=.type "list",data:=.seq vs.toArray n})::P) (l::ls)
section
variable {ρ:Rho}{D:Led}{P:List (Addr×Obj)}{ls:List (List AV)}{l:List AV}{i:Nat}
theorem LsR.mono {D':Led} (le:D.le D') (h:LsR ρ D P ls):LsR ρ D' P ls:=by
 induction h with
 | nil=>exact .nil
 | cons x _ ih=>exact .cons (x.mono le) ih
theorem LsR.length (h:LsR ρ D P ls):P.length=ls.length:=by
 induction h with
 | nil=>rfl
 | cons _ _ ih=>exact congrArg (·+1) ih
theorem LsR.get (h:LsR ρ D P ls) (e:ls[i]?=some l):∃ a vs n,P[i]?=some (a,({cls:=.type "list",data:=.seq vs.toArray n}:Obj))∧VRs ρ D l vs:=by
 induction h generalizing i with
 | nil=>exact xNS e
 | cons x _ ih=>cases i with
  | zero=>(have Y0:=s1 e;try clear e;subst Y0);(exact (i32 _ _ _ rfl x))
  | succ i=>exact ih (i:=i) e
theorem LsR.snoc {a:Addr}{vs:List Value}{n:Nat} (x:VRs ρ D l vs) (h:LsR ρ D P ls):LsR ρ D (P++[(a,{cls:=.type "list",data:=.seq vs.toArray n})]) (ls++[l]):=by
 induction h with
 | nil=>exact .cons x .nil
 | cons y _ ih=>exact .cons y ih
theorem LsR.set {a:Addr}{vs vs':List Value}{n n':Nat} (x:VRs ρ D l vs') (h:LsR ρ D P ls) (e:P[i]?=some (a,({cls:=.type "list",data:=.seq vs.toArray n}:Obj))) :
  LsR ρ D (P.set i (a,{cls:=.type "list",data:=.seq vs'.toArray n'})) (setNth ls i l):=by
 induction h generalizing i with
 | nil=>exact xNS e
 | cons y h ih=>cases i with
  | zero=>have e:=congrArg Prod.fst (Option.some.inj e);subst e;exact .cons x h
  | succ i=>exact .cons y (ih (i:=i) e)
end
structure FX where
 dp:Nat
 un:Nat
 gd:Option (List Code)
 cn:Str
 cs:Scope
 a:Addr
 ccd:Value
 cl:List (Str×Addr)
 outer:List Env
 A₀:Around
 base:Heap
 h₀:Heap
 L:Addr
 fx:List (Addr×Obj)
 hx:List (Addr×Obj)
noncomputable abbrev FX.A (X:FX):Around:=ktrTop X.dp X.un X.gd X.cn X.cs X.L X.a X.ccd X.cl X.outer
noncomputable abbrev FX.env (X:FX):Env:=envX X.cn X.cs X.L X.a X.ccd X.cl
noncomputable def HOk (ρ:Rho) (hx:List (Addr×Obj)):Prop:=ρ.f 0=hexL∧ρ.f 3=digitL∧∀ la:Addr,ρ.o 0=.ref la→∃ (vs:List Value) (n:Nat) (syms:List Sy),(la,({cls:=.type "list",data:=.seq vs.toArray n}:Obj))∈hx∧SymVs hx vs syms ∧
 (∀ s∈syms,SyOk s)∧syms.length≤5∧ρ.f 1=toldL syms
structure FX.Ok (w:World) (mean:ExcName→Option Value) (mg mb:Str→Option Value) (ρ:Rho) (X:FX):Prop where
 B:Below X.A₀ X.base X.outer X.h₀
 K:(K w.params).In X.h₀
 T:Top (qP pw) (looseW (qP pw) (looseP pw)) mean mg mb X.h₀
 k:X.cs.kind=.function
 held:∀ p∈X.hx,p∈X.fx
 sym:HOk ρ X.hx
structure Same (s s':Shared):Prop where
 gens:s'.gens=s.gens
 drawn:s'.drawn=s.drawn
 os:s'.os=s.os
theorem Same.refl (s:Shared):Same s s:=⟨rfl,rfl,rfl⟩
theorem Same.trans {a b c:Shared} (x:Same a b) (y:Same b c):Same a c:=⟨y.gens.trans x.gens,y.drawn.trans x.drawn,y.os.trans x.os⟩
noncomputable def strKey (x:Str):List Nat:=x.cps.toList
theorem S_key (x:Str):S x.cps.toList=x:=by cases x with|mk a=>cases a;rfl
noncomputable def LocR (ρ:Rho) (D:Led) (m:Str→Option Value) (l:Locs):Prop:=∀ x av,lkL l x=some av→∃ v,m (S x)=some v∧VR ρ D av v
theorem LocR.mono {ρ:Rho}{D D':Led} (le:D.le D') {m:Str→Option Value}{l:Locs} (h:LocR ρ D m l):LocR ρ D' m l:=fun x av e=>let ⟨v,a,b⟩:=h x av e;⟨v,a,b.mono le⟩
structure InvAt (ρ:Rho) (X:FX) (D:Led) (st:St) (h:Heap) (m:Str→Option Value) (P:List (Addr×Obj)):Prop where
 F:Fr X.h₀ X.L h m
 N:News X.h₀ X.L h (P++(D.imm++X.fx))
 loc:LocR ρ D m st.loc
 ls:LsR ρ D P st.lst
 ad:P.map (·.1)=D.lad
 nd:D.lad.Nodup
 dj:∀ p∈D.imm++X.fx,p.1∉D.lad
 fd:∀ p∈D.imm,∀ q∈X.fx,p.1≠q.1
noncomputable def Inv (ρ:Rho) (X:FX) (D:Led) (st:St) (s:Shared):Prop:=∃ m P,InvAt ρ X D st s.heap m P
theorem Inv.toks {ρ:Rho}{X:FX}{D:Led}{st:St}{s:Shared} (I:Inv ρ X D st s) (t:Nat):Inv ρ X D st {s with toks:=t}:=I
section
variable {ρ:Rho}{X:FX}{D:Led}{st:St}{s:Shared}{h:Heap}{m:Str→Option Value}{P:List (Addr×Obj)}
theorem InvAt.lt (I:InvAt ρ X D st h m P) {p:Addr×Obj} (hp:p∈P++(D.imm++X.fx)):p.1<h.objs.size:=Heap.lt_size (I.N p hp).1
theorem InvAt.imm (I:InvAt ρ X D st h m P) {p:Addr×Obj} (hp:p∈D.imm):h.get? p.1=some p.2:=(I.N p (zR _ (zL _ hp))).1
theorem InvAt.lad_lt (I:InvAt ρ X D st h m P) {a:Addr} (ha:a∈D.lad):a<h.objs.size:=by
 rw [← I.ad] at ha
 refine e12 (List.mem_map.mp ha) ?_;clear ha;intro p hp Y2;subst Y2
 exact I.lt (zL _ hp)
theorem InvAt.pushImm (I:InvAt ρ X D st h m P) (o:Obj) {h':Heap} (F:Fr X.h₀ X.L h' m) (N:News X.h₀ X.L h' ((h.objs.size,o)::(P++(D.imm++X.fx)))) :
  InvAt ρ X ⟨(h.objs.size,o)::D.imm,D.lad⟩ st h' m P:=by
 have le:D.le ⟨(h.objs.size,o)::D.imm,D.lad⟩:=⟨fun p hp=>.tail _ hp,fun _ _ e=>e⟩
 refine ⟨F,fun p hp=>?_,I.loc.mono le,I.ls.mono le,I.ad,I.nd,fun p hp=>?_,fun p hp q hq=>?_⟩
 ·refine N p ?_
  (refine zO (zA hp) ?qa ?qb;(case' qb=>intro q);(case' qa=>intro q))
  ·exact .tail _ (zL _ q)
  ·(refine zO (zC q) ?qa0 ?qb0;(case' qb0=>clear q;intro q);(case' qa0=>intro Y0;subst Y0))
   ·exact .head _
   ·exact .tail _ (zR _ q)
 ·(refine zO (zC hp) ?qa1 ?qb1;(case' qb1=>intro q);(case' qa1=>intro Y0;subst Y0))
  ·intro ha;exact absurd (I.lad_lt ha) (Nat.lt_irrefl _)
  ·exact I.dj p q
 ·(refine zO (zC hp) ?qa2 ?qb2;(case' qb2=>clear hp;intro hp);(case' qa2=>intro Y0;subst Y0))
  ·intro e
   have:=I.lt (p:=q) (zR _ (zR _ hq))
   rw [← e] at this;exact absurd this (Nat.lt_irrefl _)
  ·exact I.fd p hp q hq
theorem Led.le_imm (D:Led) (p:Addr×Obj):D.le ⟨p::D.imm,D.lad⟩:=⟨fun _ h=>.tail _ h,fun _ _ e=>e⟩
theorem Led.le_lad (D:Led) (a:Addr):D.le ⟨D.imm,D.lad++[a]⟩:=⟨fun _ h=>h,fun i b e=>by
 rw [List.getElem?_append_left]
 ·exact e
 ·exact (List.getElem?_eq_some_iff.mp e).1⟩
theorem InvAt.pushLst (I:InvAt ρ X D st h m P) {vs:List Value}{l:List AV}{n:Nat} (hv:VRs ρ D l vs) {h':Heap} (F:Fr X.h₀ X.L h' m)
  (N:News X.h₀ X.L h' ((h.objs.size,{cls:=.type "list",data:=.seq vs.toArray n})::(P++(D.imm++X.fx)))) :
  InvAt ρ X ⟨D.imm,D.lad++[h.objs.size]⟩ ⟨st.loc,st.lst++[l]⟩ h' m (P++[(h.objs.size,{cls:=.type "list",data:=.seq vs.toArray n})]):=by
 have le:=D.le_lad h.objs.size
 refine ⟨F,fun p hp=>?_,I.loc.mono le,(I.ls.mono le).snoc (hv.mono le),?_,?_,fun p hp=>?_,I.fd⟩
 ·refine N p ?_
  (refine zO (zA hp) ?qa ?qb;(case' qb=>intro q);(case' qa=>intro q))
  ·(refine zO (zA q) ?qa3 ?qb3;(case' qb3=>clear q;intro q);(case' qa3=>clear q;intro q))
   ·exact .tail _ (zL _ q)
   ·rw [zS q];exact .head _
  ·exact .tail _ (zR _ q)
 ·rw [List.map_append,I.ad];rfl
 ·rw [List.nodup_append]
  refine (i03 I.nd (by simp) (fun a ha b hb e=>?_))
  rw [List.mem_singleton] at hb
  rw [e,hb] at ha;exact absurd (I.lad_lt ha) (Nat.lt_irrefl _)
 ·intro ha
  (refine zO (zA ha) ?qa4 ?qb4;(case' qb4=>clear ha;intro q);(case' qa4=>clear ha;intro q))
  ·exact I.dj p hp q
  ·rw [List.mem_singleton] at q
   have:=I.lt (p:=p) (zR _ hp)
   rw [q] at this;exact absurd this (Nat.lt_irrefl _)
theorem InvAt.lad_get (I:InvAt ρ X D st h m P) {i:Nat}{l:List AV} (e:st.lst[i]?=some l) {a:Addr} (ha:D.lad[i]?=some a) :
  ∃ vs n,P[i]?=some (a,({cls:=.type "list",data:=.seq vs.toArray n}:Obj))∧VRs ρ D l vs∧h.get? a=some {cls:=.type "list",data:=.seq vs.toArray n}:=by
 refine e32 (I.ls.get e) ?_;clear e;intro b vs n e1 r
 have:b=a:=by
  rw [← I.ad,List.getElem?_map,e1] at ha;exact Option.some.inj ha
 subst this
 (exact (i23 vs n e1 r ((I.N _ (zL _ (List.mem_of_getElem? e1))).1)))
theorem InvAt.setLst (I:InvAt ρ X D st h m P) {i:Nat}{a:Addr}{vs vs':List Value}{n n':Nat}{l':List AV} (e:P[i]?=some (a,({cls:=.type "list",data:=.seq vs.toArray n}:Obj))) (hv:VRs ρ D l' vs')
  {h':Heap} (hs:Heap.SameBut a h h') (hg:h'.get? a=some {cls:=.type "list",data:=.seq vs'.toArray n'}) :
  InvAt ρ X D ⟨st.loc,setNth st.lst i l'⟩ h' m (P.set i (a,{cls:=.type "list",data:=.seq vs'.toArray n'})):=by
 have hm:=I.N _ (zL _ (List.mem_of_getElem? e))
 have hi:=(List.getElem?_eq_some_iff.mp e).1
 have ad':(P.set i (a,({cls:=.type "list",data:=.seq vs'.toArray n'}:Obj))).map (·.1)=D.lad:=by
  rw [← I.ad,List.map_set]
  refine List.ext_getElem? fun j=>?_
  rw [List.getElem?_set]
  split
  ·rename_i hj;subst hj
   rw [if_pos (by simpa using hi),List.getElem?_map,e];rfl
  ·rfl
 have hal:a∈D.lad:=by rw [← I.ad];exact List.mem_map.mpr ⟨_,List.mem_of_getElem? e,rfl⟩
 refine ⟨I.F.change hs hm.2.1 hm.2.2,fun p hp=>?_,I.loc,I.ls.set hv e,ad',I.nd,I.dj,I.fd⟩
 (refine zO (zA hp) ?qa ?qb;(case' qb=>clear hp;intro q);(case' qa=>clear hp;intro q))
 ·obtain ⟨j,hj,e2⟩:=List.mem_iff_getElem.mp q
  rw [List.getElem_set] at e2
  split at e2
  ·subst e2;exact ⟨hg,hm.2⟩
  ·rename_i hne
   have hj':j<P.length:=by simpa using hj
   have hpP:P[j]?=some p:=by rw [List.getElem?_eq_getElem hj',e2]
   have hpm:=I.N p (zL _ (List.mem_of_getElem? hpP))
   have ha:p.1≠a:=fun q=>by
    have nd:=I.nd
    rw [← I.ad] at nd
    have h1:(P.map (·.1))[j]?=some a:=by rw [List.getElem?_map,hpP];exact congrArg some q
    have h2:(P.map (·.1))[i]?=some a:=by rw [List.getElem?_map,e];rfl
    exact hne ((List.getElem?_inj (by simpa using hi) nd).mp (h2.trans h1.symm))
   exact ⟨(hs.2 p.1 ha).trans hpm.1,hpm.2⟩
 ·have hpm:=I.N p (zR _ q)
  have ha:p.1≠a:=fun e=>I.dj p q (e▸hal)
  exact ⟨(hs.2 p.1 ha).trans hpm.1,hpm.2⟩
theorem InvAt.setLoc (I:InvAt ρ X D st h m P) {x:List Nat}{av:AV}{v:Value} (hv:VR ρ D av v) {h':Heap} (F:Fr X.h₀ X.L h' (fun y=>if y=S x then some v else m y)) (N:News X.h₀ X.L h' (P++(D.imm++X.fx))) :
  InvAt ρ X D ⟨setL st.loc x av,st.lst⟩ h' (fun y=>if y=S x then some v else m y) P:=by
 refine ⟨F,N,fun y a e=>?_,I.ls,I.ad,I.nd,I.dj,I.fd⟩
 rw [show (setL st.loc x av)=(St.mk (setL st.loc x av) st.lst).loc from rfl] at e
 have e:lkL (setL st.loc x av) y=some a:=e
 rw [lkL_setL] at e
 split at e
 ·rename_i q;(have Y0:=s1 e;try clear e;subst Y0);subst q;(exact (i12 v (if_pos rfl) hv))
 ·rename_i q
  refine e12 (I.loc y a e) ?_;clear I e;intro u h1 h2
  refine (i12 u ?_ h2)
  rw [if_neg]
  ·exact h1
  ·intro z;exact q (by have:=congrArg (fun t:Str=>t.cps.toList) z;simpa using this)
end
end
end Nn62
end
section
open PySem PySem.W PyProof.Rows
namespace Nn62
open PySem.W.Z (leB ltB eqB leB_iff ltB_iff eqB_iff)
section
theorem intBits_small {x:Int} (h0:0≤x) (h:x≤1000):Builtin.Int.intBits x≤10:=by
 unfold Builtin.Int.intBits
 split
 ·exact Nat.zero_le _
 ·rename_i hx
  have hx:x≠0:=by simpa using hx
  have:x.natAbs.log2<10:=(Nat.log2_lt (by lia)).mpr (by lia)
  assumption
theorem bitAnd15 (x:Int):Builtin.bitAnd x 15=Int.fmod x 16:=by
 have hp:(15:Int).toNat=2 ^ 4-1:=by decide +kernel
 rw [Int.fmod_eq_emod_of_nonneg _ (by decide +kernel:(0:Int)≤16)]
 unfold Builtin.bitAnd
 rw [decide_eq_true (by decide:(0:Int)≤15)]
 by_cases hx:0≤x
 ·rw [decide_eq_true hx]
  show ((x.toNat &&& (15:Int).toNat:Nat):Int)=_
  rw [hp,Nat.and_two_pow_sub_one_eq_mod]
  lia
 ·rw [decide_eq_false hx]
  show (15:Int)-(((15:Int).toNat &&& (Builtin.bitNot x).toNat:Nat):Int)=_
  rw [hp,Nat.and_comm,Nat.and_two_pow_sub_one_eq_mod]
  have e:Builtin.bitNot x=-x-1:=by
   first|rfl|(unfold Builtin.bitNot;(first|lia|omega))
  rw [e]
  lia
theorem bitAnd64 (x:Int):Builtin.bitAnd x (pow2-1)=Int.fmod x pow2:=by
 have hp:(pow2-1:Int).toNat=2 ^ 64-1:=by decide +kernel
 have h0:(0:Int)≤pow2-1:=by decide +kernel
 rw [Int.fmod_eq_emod_of_nonneg _ (by decide +kernel:(0:Int)≤pow2)]
 unfold Builtin.bitAnd
 rw [decide_eq_true h0]
 by_cases hx:0≤x
 ·rw [decide_eq_true hx]
  show ((x.toNat &&& (pow2-1:Int).toNat:Nat):Int)=_
  rw [hp,Nat.and_two_pow_sub_one_eq_mod]
  have:pow2=((2 ^ 64:Nat):Int):=by decide +kernel
  rw [this,Int.natCast_emod,Int.toNat_of_nonneg hx]
 ·rw [decide_eq_false hx]
  show (pow2-1)-(((pow2-1:Int).toNat &&& (Builtin.bitNot x).toNat:Nat):Int)=_
  rw [hp,Nat.and_comm,Nat.and_two_pow_sub_one_eq_mod]
  have e:Builtin.bitNot x=-x-1:=by
   first|rfl|(unfold Builtin.bitNot;(first|lia|omega))
  rw [e]
  have e2:(((-x-1).toNat % 2 ^ 64:Nat):Int)=(-x-1) % pow2:=by
   rw [Int.natCast_emod,Int.toNat_of_nonneg (by lia)];rfl
  rw [e2]
  have e3:pow2=18446744073709551616:=rfl
  rw [e3]
  lia
section
variable {prog:Program}{w:World}{A:Around}{s:Shared}{E:Value→Shared→Prop}{ρ:Rho}{D:Led}
noncomputable abbrev TkQ (s:Shared) (P:Value→Prop) (Q:Value→Shared→Prop):Prop:=∀ v tk,P v→Q v {s with toks:=tk}
theorem small64 {m:Int} (h:(ltB 0 m&&ltB m 1073741824)=true):0<m∧m.natAbs<2 ^ 30:=by
 have q:=andS h
 have q1:=(ltB_iff _ _).mp q.1
 have q2:=(ltB_iff _ _).mp q.2
 lia
theorem opI_ok {op:Operator}{a b r:IE}{t u:Tok}{Q:Value→Shared→Prop} (e:opI op a b=some r) (h:TkQ s (VR ρ D (.int r)) Q) :
  wpAny (model prog w) A (binaryOp op (.int (a.den ρ) t) (.int (b.den ρ) u)) Q E s:=by
 have K:∀ {i:Int} (t tk:Nat),r.den ρ=i→Q (.int i t) {s with toks:=tk}:=fun t tk e=>h _ _ (e▸.int r t)
 cases op with
 | Add=>(have Y0:=s1 e;try clear e;subst Y0);exact PyProof.Rows.add_int (K _ _ (mkAdd_den _ _ _))
 | Sub=>(have Y0:=s1 e;try clear e;subst Y0);exact PyProof.Rows.sub_int' (K _ _ (mkSub_den _ _ _))
 | FloorDiv =>
  refine e12 (bindS e) ?_;clear e;intro m e1 e
  refine e02 (condS e) ?_;clear e;intro q e
  (have Y0:=s1 e;try clear e;subst Y0)
  rw [IE.litS e1]
  have q:=small64 q
  exact PyProof.Rows.floordiv_int (Int.ne_of_gt q.1) (K _ _ (mkDiv_den _ _ _)) (.inl (PyProof.noPylong_small (by show m.natAbs<_;lia)))
 | Mod =>
  refine e12 (bindS e) ?_;clear e;intro m e1 e
  refine e02 (condS e) ?_;clear e;intro q e
  (have Y0:=s1 e;try clear e;subst Y0)
  rw [IE.litS e1]
  exact PyProof.Rows.mod_int' (Int.ne_of_gt ((ltB_iff _ _).mp q)) (K _ _ (mkMod_den _ _ _))
 | BitAnd =>
  refine e12 (bindS e) ?_;clear e;intro m e1 e
  rw [IE.litS e1]
  (refine zO (cond2S e) (fun qh=>e02 qh ?qa) (fun qh=>e02 qh ?qb);(case' qb=>clear e;intro _ e);(case' qa=>clear e;intro q e))
  ·(have Y0:=s1 e;try clear e;subst Y0)
   rw [(eqB_iff _ _).mp q]
   exact PyProof.Rows.and_int (K _ _ ((mkMod_den _ _ _).trans (bitAnd64 _).symm))
  ·refine e02 (condS e) ?_;clear e;intro q e
   (have Y0:=s1 e;try clear e;subst Y0)
   rw [(eqB_iff _ _).mp q]
   exact PyProof.Rows.and_int (K _ _ ((mkMod_den _ _ _).trans (bitAnd15 _).symm))
 | RShift =>
  refine e12 (bindS e) ?_;clear e;intro m e1 e
  refine e02 (condS e) ?_;clear e;intro q e
  (have Y0:=s1 e;try clear e;subst Y0)
  rw [IE.litS e1,(eqB_iff _ _).mp q]
  exact PyProof.Rows.rshift_int (by show (0:Int)≤4;decide) (K _ _ ((mkDiv_den _ _ _).trans (congrArg (Int.fdiv _) (by decide +kernel:(16:Int)=2 ^ (4:Int).toNat))))
 | Mult =>
  rcases altS e with ⟨m,e1,e⟩|⟨_,e⟩
  ·refine e02 (condS e) ?_;clear e;intro q e
   (have Y0:=s1 e;try clear e;subst Y0)
   rw [IE.litS e1]
   have q:=small64 q
   exact PyProof.Rows.mul_int (K _ _ (Int.add_zero _)) (IntMulOk.of_right (intBits_le_64 (by show -2 ^ 64<m;lia) (by show m<2 ^ 64;lia)))
  ·refine e12 (bindS e) ?_;clear e;intro m e1 e
   refine e02 (condS e) ?_;clear e;intro q e
   (have Y0:=s1 e;try clear e;subst Y0)
   rw [IE.litS e1]
   have q:=small64 q
   exact PyProof.Rows.mul_int (K _ _ ((Int.add_zero _).trans (Int.mul_comm _ _))) (IntMulOk.of_left (intBits_le_64 (by show -2 ^ 64<m;lia) (by show m<2 ^ 64;lia)))
 | LShift =>
  refine e12 (bindS e) ?_;clear e;intro x e1 e
  refine e12 (bindS e) ?_;clear e;intro n e2 e
  refine e02 (condS e) ?_;clear e;intro q e
  (have Y0:=s1 e;try clear e;subst Y0)
  rw [IE.litS e1,IE.litS e2]
  have q1:=andS (andS q).1
  have q2:=andS (andS q).2
  have i10:=intBits_small ((leB_iff _ _).mp q2.1) ((leB_iff _ _).mp q2.2)
  have h1:=(leB_iff _ _).mp q1.1
  have h2:=(leB_iff _ _).mp q1.2
  exact PyProof.Rows.lshift_int h1 (by show (Builtin.Int.intBits x:Int)+n≤2 ^ 27;lia) (K _ _ rfl)
 | Pow =>
  refine e12 (bindS e) ?_;clear e;intro x e1 e
  refine e12 (bindS e) ?_;clear e;intro n e2 e
  refine e02 (condS e) ?_;clear e;intro q e
  (have Y0:=s1 e;try clear e;subst Y0)
  rw [IE.litS e1,IE.litS e2]
  have q1:=andS (andS q).1
  have q2:=andS (andS q).2
  have i10:=intBits_small ((leB_iff _ _).mp q2.1) ((leB_iff _ _).mp q2.2)
  have h1:=(leB_iff _ _).mp q1.1
  have h2:=(leB_iff _ _).mp q1.2
  refine PyProof.Rows.pow_int h1 ?_ (K _ _ rfl)
  show (Builtin.Int.intBits x:Int)*n≤2 ^ 27
  have:(Builtin.Int.intBits x:Int)*n≤10*200:=Int.mul_le_mul (by lia) h2 h1 (by (exact Int.natCast_nonneg _))
  (exact Int.le_trans (by assumption) (by decide))
 | _=>exact xNS e
theorem S_app (a b:List Nat):S a++S b=S (a++b):=by
 show Str.append _ _=_
 unfold Str.append
 simp [S]
theorem S_len (a:List Nat):(S a).length=a.length:=by simp [S,Str.length]
theorem den_size {x:SE}{n:Nat} (h:Nat.ble x.bound n=true) (hn:n≤16777216):(S (x.den ρ)).length≤sizeLine:=by
 have:=zB h
 have:=SE.bound_ok ρ x
 rw [S_len,show sizeLine=16777216 from rfl];lia
theorem opB_ok {op:Operator}{a b r:AV}{va vb:Value}{Q:Value→Shared→Prop} (e:opB op a b=some r) (ha:VR ρ D a va) (hb:VR ρ D b vb) (h:TkQ s (VR ρ D r) Q) :
  wpAny (model prog w) A (binaryOp op va vb) Q E s:=by
 (refine zO (altS e) (fun qh=>e12 qh ?qa) (fun qh=>e02 qh ?qb);(case' qb=>clear e;intro _ e);(case' qa=>clear e;intro x e1 e))
 ·refine e12 (bindS e) ?_;clear e;intro y e2 e
  refine e12 (mapS e) ?_;intro i e' Y2;subst Y2
  rw [AV.intS e1] at ha
  rw [AV.intS e2] at hb
  refine e11 (ha.intI) ?_;intro t Y1;subst Y1
  refine e11 (hb.intI) ?_;intro u Y1;subst Y1
  exact opI_ok e' h
 ·refine e12 (bindS e) ?_;clear e;intro x e1 e
  refine e12 (bindS e) ?_;clear e;intro y e2 e
  refine e02 (condS e) ?_;clear e;intro q e
  (have Y0:=s1 e;try clear e;subst Y0)
  rw [AV.strS e1] at ha
  rw [AV.strS e2] at hb
  refine e11 (ha.strI) ?_;clear ha;intro t Y1;subst Y1
  refine e11 (hb.strI) ?_;clear hb;intro u Y1;subst Y1
  have q:=andS q
  rw [isAddS q.1]
  have q:=zB q.2
  have b1:=SE.bound_ok ρ x
  have b2:=SE.bound_ok ρ y
  refine PyProof.Rows.add_str (fun t' tk=>h _ _ ?_) (by rw [S_len,S_len,show sizeLine=16777216 from rfl];lia)
  rw [S_app,← SE.app_den];exact .str _ _
theorem ofK_VR {k:Option Bool}{c:BE}{b:Bool} (h:∀ x,k=some x→b=x) (hc:b=c.den ρ):VR ρ D (ofK k c) (.bool b):=by
 unfold ofK
 split
 ·rename_i x;rw [h x rfl];exact .bool _
 ·rw [hc];exact .bexp _
theorem eqB_dec (a b:Int):eqB a b=decide (a=b):=by
 cases q:eqB a b with
 | true=>exact (decide_eq_true ((eqB_iff _ _).mp q)).symm
 | false=>exact (decide_eq_false fun e=>by rw [(eqB_iff _ _).mpr e] at q;exact xTF q).symm
theorem ltB_dec (a b:Int):ltB a b=decide (a<b):=by
 cases q:ltB a b with
 | true=>exact (decide_eq_true ((ltB_iff _ _).mp q)).symm
 | false=>exact (decide_eq_false fun e=>by rw [(ltB_iff _ _).mpr e] at q;exact xTF q).symm
theorem leB_dec (a b:Int):leB a b=decide (a≤b):=by
 cases q:leB a b with
 | true=>exact (decide_eq_true ((leB_iff _ _).mp q)).symm
 | false=>exact (decide_eq_false fun e=>by rw [(leB_iff _ _).mpr e] at q;exact xTF q).symm
theorem notK_of {k:Option Bool}{x:Bool} (h:notK k=some x):k=some (!x):=by
 refine e12 (Option.map_eq_some_iff.mp h) ?_;clear h;intro y e Y2;subst Y2
 rw [e,Bool.not_not]
theorem int_beq (a b:Int):(a==b)=decide (a=b):=by
 by_cases q:a=b
 ·rw [decide_eq_true q,q];simp
 ·rw [decide_eq_false q];simpa using q
theorem cmpI_ok {op:CmpOp}{a b:IE}{r:AV}{t u:Tok}{Q:Value→Shared→Prop} (e:cmpI op a b=some r) (h:∀ v,VR ρ D r v→Q v s) :
  wpAny (model prog w) A (compareOp op (.int (a.den ρ) t) (.int (b.den ρ) u)) Q E s:=by
 cases op with
 | Eq=>(have Y0:=s1 e;try clear e;subst Y0);exact PyProof.Rows.eq_int (h _ (ofK_VR (fun x q=>by rw [int_beq];exact eqK_ok q) (by rw [int_beq];exact (eqB_dec _ _).symm)))
 | NotEq =>
  (have Y0:=s1 e;try clear e;subst Y0)
  refine PyProof.Rows.ne_int (h _ (ofK_VR (fun x q=>?_) ?_))
  ·show (!(a.den ρ==b.den ρ))=x
   rw [int_beq,eqK_ok (notK_of q),Bool.not_not]
  ·show (!(a.den ρ==b.den ρ))=!(eqB _ _)
   rw [int_beq,eqB_dec]
 | Lt=>(have Y0:=s1 e;try clear e;subst Y0);exact PyProof.Rows.lt_int (h _ (ofK_VR (fun x q=>ltK_ok q) (ltB_dec _ _).symm))
 | LtE=>(have Y0:=s1 e;try clear e;subst Y0);exact PyProof.Rows.le_int (h _ (ofK_VR (fun x q=>leK_ok q) (leB_dec _ _).symm))
 | Gt=>(have Y0:=s1 e;try clear e;subst Y0);exact PyProof.Rows.gt_int (h _ (ofK_VR (fun x q=>ltK_ok q) (ltB_dec _ _).symm))
 | GtE=>(have Y0:=s1 e;try clear e;subst Y0);exact PyProof.Rows.ge_int (h _ (ofK_VR (fun x q=>leK_ok q) (leB_dec _ _).symm))
 | _=>exact xNS e
theorem S_eq (a b:List Nat):(S a==S b)=decide (a=b):=by
 by_cases q:a=b
 ·rw [decide_eq_true q,q];exact beq_self_eq_true _
 ·rw [decide_eq_false q]
  refine beq_eq_false_iff_ne.mpr fun e=>q ?_
  have:=congrArg (fun t:Str=>t.cps.toList) e
  simpa using this
theorem isNone_ok {a:AV}{v:Value}{k:Bool} (e:isNone a=some k) (h:VR ρ D a v):(v==.none)=k :=
 inS (P:=fun k=>(v==.none)=k) (by cases h <;> first|exact trivial|exact rfl) e
theorem litS2 {a:AV}{l:List Nat} (h:a.str?.bind SE.lit?=some l) {v:Value} (V:VR ρ D a v):∃ t,v=.str (S l) t:=by
 refine e12 (bindS h) ?_;clear h;intro x h1 h2
 rw [AV.strS h1] at V
 refine e11 (V.strI) ?_;clear V;intro t Y1;subst Y1
 exact ⟨t,by rw [SE.lit?_den h2]⟩
theorem litIn_ok {l:List Nat}{items:List AV}{vs:List Value}{k:Bool} (e:litIn l items=some k) (V:VRs ρ D items vs):∃ ys:List Str,StrsAre vs ys∧(ys.any (·==S l))=k:=by
 induction items generalizing vs k with
 | nil=>(have Y0:=s1 e;try clear e;subst Y0);rw [V.nilI];(exact (i12 ([]) .nil rfl))
 | cons a r ih =>
  refine e23 (V.consI) ?_;clear V;intro v us V1 V2 Y4;subst Y4
  refine e12 (bindS e) ?_;clear e;intro l' e1 e
  refine e11 (litS2 e1 V1) ?_;clear e1 V1;intro t Y1;subst Y1
  (refine zO (cond2S e) (fun qh=>e02 qh ?qa) (fun qh=>e02 qh ?qb);(case' qb=>clear e;intro q e);(case' qa=>clear e;intro q e))
  ·refine e12 (mapS e) ?_;intro k' e' Y2;subst Y2
   refine e12 (ih e' V2) ?_;clear e';intro ys h1 h2
   (exact (i12 _ (.cons _ _ h1) (by rw [List.any_cons,lnBeq_eq q,beq_self_eq_true];rfl)))
  ·refine e12 (ih e V2) ?_;clear ih e V2;intro ys h1 h2
   (exact (i12 _ (.cons _ _ h1) (by rw [List.any_cons,S_eq,decide_eq_false (lnBeq_ne q),h2];rfl)))
theorem litsOk_ok {items:List AV}{vs:List Value} (e:litsOk items=true) (V:VRs ρ D items vs) (news:List (Addr×Obj)):∃ ds:List Dat,DatAll news vs ds∧(∀ d∈ds,kqdOk 8 d=true)∧ds.length=items.length:=by
 induction items generalizing vs with
 | nil=>rw [V.nilI];(exact (i13 ([]) .nil (fun _ h=>absurd h List.not_mem_nil) rfl))
 | cons a r ih =>
  refine e23 (V.consI) ?_;clear V;intro v us V1 V2 Y4;subst Y4
  have e:=andS e
  refine e12 (optBS e.1) ?_;intro l e1 e2
  refine e11 (litS2 e1 V1) ?_;clear e1 V1;intro t Y1;subst Y1
  refine e13 (ih e.2 V2) ?_;clear ih e V2;intro ds h1 h2 h3
  refine (i13 (.str (S l)::ds) (.cons (.str _ _) h1) (fun d hd=>?_) (congrArg (·+1) h3))
  (refine zO (zC hd) ?qa ?qb;(case' qb=>clear hd;intro hd);(case' qa=>intro Y0;subst Y0))
  ·exact e2
  ·exact h2 d hd
theorem lnLt_ok:∀ {a b:List Nat},lnLt a b=decide (a<b)
 | [],[]=>StrLaws.lt_nil_nil.symm
 | [],_::_=>(StrLaws.lt_nil_cons _ _).symm
 | _::_,[]=>(StrLaws.lt_cons_nil _ _).symm
 | a::l,b::r=>by
  rw [StrLaws.lt_cons_cons,← lnLt_ok (a:=l) (b:=r)]
  show (Nat.blt a b||(Nat.beq a b&&lnLt l r))=_
  have h1:Nat.blt a b=decide (a<b):=by
   by_cases q:a<b
   ·rw [decide_eq_true q];exact Nat.ble_eq_true_of_le q
   ·rw [decide_eq_false q]
    cases z:Nat.blt a b with
    | false=>rfl
    | true=>exact absurd (zB z) q
  have h2:Nat.beq a b=(a==b):=by
   by_cases q:a=b
   ·subst q;rw [Nat.beq_refl,beq_self_eq_true]
   ·rw [beq_eq_false_iff_ne.mpr q]
    cases z:Nat.beq a b with
    | false=>rfl
    | true=>exact absurd (zE z) q
  rw [h1,h2]
theorem cmpSS_ok {op:CmpOp}{x y:SE}{t u:Tok}{r:AV}{Q:Value→Shared→Prop} (e:cmpSS op x y=some r) (h:∀ v,VR ρ D r v→Q v s) :
  wpAny (model prog w) A (compareOp op (.str (S (x.den ρ)) t) (.str (S (y.den ρ)) u)) Q E s:=by
 cases op with
 | Eq =>
  refine e12 (mapS e) ?_;intro k e' Y2;subst Y2
  exact PyProof.Rows.eq_str (h _ (by rw [S_eq,seqK_ok e'];exact .bool _))
 | NotEq =>
  refine e12 (mapS e) ?_;intro k e' Y2;subst Y2
  have q:=seqK_ok (ρ:=ρ) (notK_of e')
  exact PyProof.Rows.ne_str (h _ (by show VR ρ D _ (.bool (!(S (x.den ρ)==S (y.den ρ))));rw [S_eq,q,Bool.not_not];exact .bool _))
 | Lt =>
  refine e12 (bindS e) ?_;clear e;intro a h1 e
  refine e12 (mapS e) ?_;intro b h2 Y2;subst Y2
  rw [SE.lit?_den h1,SE.lit?_den h2]
  exact PyProof.Rows.lt_str (h _ (by rw [lnLt_ok];exact .bool _))
 | _=>exact xNS e
theorem cmpIn_ok {op:CmpOp}{l:List Nat}{items:List AV}{vs:List Value}{a:Addr}{n:Nat}{t:Tok}{r:AV}{Q:Value→Shared→Prop} (e:cmpIn op l items=some r) (hv:VRs ρ D items vs) (hg:s.heap.get? a=some {cls:=.type "list",data:=.seq vs.toArray n}) (h:∀ v,VR ρ D r v→Q v s) :
  wpAny (model prog w) A (compareOp op (.str (S l) t) (.ref a)) Q E s:=by
 cases op with
 | In =>
  refine e12 (mapS e) ?_;intro k e' Y2;subst Y2
  refine e12 (litIn_ok e' hv) ?_;intro ys h1 h2
  exact PyProof.Rows.in_list_strs ⟨_,hg,rfl,n,rfl⟩ h1 (h _ (by rw [h2];exact .bool _))
 | NotIn =>
  refine e12 (mapS e) ?_;intro k e' Y2;subst Y2
  refine e12 (litIn_ok (notK_of e') hv) ?_;clear e' hv;intro ys h1 h2
  exact PyProof.Rows.notin_list_strs ⟨_,hg,rfl,n,rfl⟩ h1 (h _ (by rw [h2,Bool.not_not];exact .bool _))
 | _=>exact xNS e
theorem cmpN_ok {op:CmpOp}{a r:AV}{va:Value}{Q:Value→Shared→Prop} (e:cmpN op a=some r) (ha:VR ρ D a va) (h:∀ v,VR ρ D r v→Q v s) :
  wpAny (model prog w) A (compareOp op va .none) Q E s:=by
 cases op with
 | Is =>
  refine e12 (mapS e) ?_;intro k e' Y2;subst Y2
  exact PyProof.Rows.is_none_gen (h _ (by rw [isNone_ok e' ha];exact .bool _))
 | IsNot =>
  refine e12 (mapS e) ?_;intro k e' Y2;subst Y2
  exact PyProof.Rows.isnot_none_gen (h _ (by rw [isNone_ok (notK_of e') ha,Bool.not_not];exact .bool _))
 | _=>exact xNS e
theorem cmpL_ok {op:CmpOp}{X:FX}{st:St}{m:Str→Option Value}{P:List (Addr×Obj)}{x y:List AV}{i j:Nat}{a b:Addr}{r:AV}{Q:Value→Shared→Prop}
  (hu:A.units+64<cLine) (I:InvAt ρ X D st s.heap m P) (e1:st.lst[i]?=some x) (e2:st.lst[j]?=some y) (hi:D.lad[i]?=some a) (hj:D.lad[j]?=some b) (e:cmpL op x y=some r) (h:∀ v,VR ρ D r v→Q v s) :
  wpAny (model prog w) A (compareOp op (.ref a) (.ref b)) Q E s:=by
 refine e02 (condS e) ?_;clear e;intro q e
 (have Y0:=s1 e;try clear e;subst Y0)
 have q:=andS q
 rw [isEqS q.1]
 obtain rfl:=List.isEmpty_iff.mp (andS q.2).1
 have q:=andS (andS q.2).2
 refine e23 (I.lad_get e1 hi) ?_;clear e1 hi;intro vs n hP hv hg
 refine e23 (I.lad_get e2 hj) ?_;clear e2 hj;intro us k hP' hu' hg'
 (have Y:=hu'.nilI;clear hu';subst Y)
 refine e13 (litsOk_ok q.2 hv (P++(D.imm++X.fx))) ?_;clear hv;intro ds h1 h2 h3
 have hne:ds≠[]:=fun z=>by
  rw [z] at h3
  rw [List.length_eq_zero_iff.mp h3.symm] at q
  cases q.1
 refine kqd_eq I.N (zL _ (List.mem_of_getElem? hP)) rfl rfl h1 (fun _ z=>z) (zL _ (List.mem_of_getElem? hP')) rfl rfl (DatAll.nil (news:=[])) (fun _ z=>absurd z List.not_mem_nil) h2 (fun _ z=>absurd z List.not_mem_nil) hu (h _ ?_)
 have h0:∀ b:Bool,b=false→VR ρ D (.bool false) (.bool b):=fun b hb=>by rw [hb];exact .bool false
 exact h0 _ (decide_eq_false hne)
theorem cmpB_ok {op:CmpOp}{X:FX}{st:St}{m:Str→Option Value}{P:List (Addr×Obj)}{a b r:AV}{va vb:Value}{Q:Value→Shared→Prop}
  (hu:A.units+64<cLine) (I:InvAt ρ X D st s.heap m P) (e:cmpB op st.lst a b=some r) (ha:VR ρ D a va) (hb:VR ρ D b vb) (h:∀ v,VR ρ D r v→Q v s) :
  wpAny (model prog w) A (compareOp op va vb) Q E s:=by
 (refine zO (cond2S e) (fun qh=>e02 qh ?qa) (fun qh=>e02 qh ?qb);(case' qb=>clear e;intro _ e);(case' qa=>clear e;intro q e))
 ·rw [AV.nilS q] at hb
  (have Y:=hb.noneI;clear hb;subst Y)
  exact cmpN_ok e ha h
 rcases altS e with ⟨x,e1,e⟩|⟨_,e⟩
 ·refine e12 (bindS e) ?_;clear e;intro y e2 e
  rw [AV.intS e1] at ha
  rw [AV.intS e2] at hb
  refine e11 (ha.intI) ?_;intro t Y1;subst Y1
  refine e11 (hb.intI) ?_;intro u Y1;subst Y1
  exact cmpI_ok e h
 rcases altS e with ⟨x,e1,e⟩|⟨_,e⟩
 ·rw [AV.strS e1] at ha
  refine e11 (ha.strI) ?_;intro t Y1;subst Y1
  rcases altS e with ⟨y,e2,e⟩|⟨_,e⟩
  ·rw [AV.strS e2] at hb
   refine e11 (hb.strI) ?_;intro u Y1;subst Y1
   exact cmpSS_ok e h
  ·refine e12 (bindS e) ?_;clear e;intro i e2 e
   refine e12 (bindS e) ?_;clear e;intro l e3 e
   refine e12 (bindS e) ?_;clear e;intro items e4 e
   rw [AV.locS e2] at hb
   refine e12 (hb.locI) ?_;intro p hd Y2;subst Y2
   rw [SE.lit?_den e3]
   refine e23 (I.lad_get e4 hd) ?_;clear hd;intro vs n _ hv hg
   exact cmpIn_ok e hv hg h
 ·refine e12 (bindS e) ?_;clear e;intro i e1 e
  refine e12 (bindS e) ?_;clear e;intro j e2 e
  refine e12 (bindS e) ?_;clear e;intro x e3 e
  refine e12 (bindS e) ?_;clear e;intro y e4 e
  rw [AV.locS e1] at ha
  rw [AV.locS e2] at hb
  refine e12 (ha.locI) ?_;clear ha;intro p hi Y2;subst Y2
  refine e12 (hb.locI) ?_;clear hb;intro q hj Y2;subst Y2
  exact cmpL_ok hu I e3 e4 hi hj e h
inductive TVR (ρ:Rho):TV→Bool→Prop
 | k (b:Bool):TVR ρ (.k b) b
 | u (c:BE):TVR ρ (.u c) (c.den ρ)
theorem TVR.uI {c:BE}{b:Bool} (V:TVR ρ (.u c) b):b=c.den ρ:=by cases V;rfl
theorem TVR.kI {c b:Bool} (V:TVR ρ (.k c) b):b=c:=by cases V;rfl
theorem truth_ok {a:AV}{t:TV}{v:Value} (e:truth a=some t) (h:VR ρ D a v):∃ b,v=.bool b∧TVR ρ t b:=by
 (refine zO (altS e) (fun qh=>e12 qh ?qa) (fun qh=>e02 qh ?qb);(case' qb=>clear e;intro _ e);(case' qa=>clear e;intro x e1 e))
 ·(have Y0:=s1 e;try clear e;subst Y0)
  rw [AV.boolS e1] at h
  (exact (i12 _ h.boolI (.k _)))
 ·refine e12 (mapS e) ?_;clear e;intro x e1 Y2;subst Y2
  rw [AV.bexpS e1] at h
  (exact (i12 _ h.bexpI (.u _)))
theorem mergeAV_ok {c:BE}{a b m:AV}{v:Value} (e:mergeAV c a b=some m) (h:VR ρ D (bif c.den ρ then a else b) v):VR ρ D m v:=by
 (refine zO (cond2S e) (fun qh=>e02 qh ?qa) (fun qh=>e02 qh ?qb);(case' qb=>clear e;intro _ e);(case' qa=>clear e;intro q e))
 ·(have Y0:=s1 e;try clear e;subst Y0)
  rw [← AV.beq_eq _ q] at h
  cases z:c.den ρ <;> rw [z] at h <;> exact h
 rcases altS e with ⟨x,e1,e⟩|⟨_,e⟩
 ·refine e12 (mapS e) ?_;intro y e2 Y2;subst Y2
  rw [AV.strS e1,AV.strS e2] at h
  have hd:(SE.ite c x y .nil).den ρ=(bif c.den ρ then x.den ρ else y.den ρ):=List.append_nil _
  cases z:c.den ρ <;> rw [z] at h hd <;> ((refine e11 (VR.strI h) ?_;intro t Y1;subst Y1);have:=VR.str (ρ:=ρ) (D:=D) (.ite c x y .nil) t;rw [hd] at this;exact this)
 ·refine e12 (bindS e) ?_;clear e;intro x e1 e
  refine e12 (bindS e) ?_;clear e;intro y e2 e
  rw [AV.boolS e1,AV.boolS e2] at h
  have h:v=.bool (bif c.den ρ then x else y):=by cases z:c.den ρ <;> rw [z] at h <;> exact VR.boolI h
  rw [h]
  have:=VR.bexp (ρ:=ρ) (D:=D) c
  have h2:=VR.bexp (ρ:=ρ) (D:=D) (.not c)
  cases x <;> cases y <;> (first|exact xNS e|(have Y0:=s1 e;try clear e;subst Y0))
  ·rw [show (bif c.den ρ then false else true)=!(c.den ρ) by cases c.den ρ <;> rfl];exact h2
  ·rw [show (bif c.den ρ then true else false)=c.den ρ by cases c.den ρ <;> rfl];exact this
end
end
end Nn62
end
section
open PySem PySem.W PySem.Calls PyProof.Rows
namespace Nn62
open PySem.W.Z (leB ltB eqB leB_iff ltB_iff eqB_iff)
section
noncomputable abbrev F0:Value→Shared→Prop:=fun _ _=>False
noncomputable def attrOk (K:Frag) (C:Nat) (x:List Nat):Bool:=plainGet K C (S x)&&hasDictIn K C&&match findIn K (.ref C) (S x) with|some a=>noGet K a|none=>false
noncomputable def Room (X:FX) (n:Nat):Prop:=X.dp+n+60<recursionLimit∧X.un+8*(n+60)<cLine
section
variable (w:World) (mean:ExcName→Option Value) (mg mb:Str→Option Value)
noncomputable def CallOk (n:Nat) (f:AV) (args:List AV) (lst:List (List AV)) (av:AV) (lst':List (List AV)):Prop :=
 ∀ (ρ:Rho) (X:FX) (D:Led) (loc:Locs) (s:Shared) (vs:List Value) (fv:Value) (Q:Value→Shared→Prop),X.Ok w mean mg mb ρ→Room X n→Inv ρ X D ⟨loc,lst⟩ s→VR ρ D f fv→VRs ρ D args vs →
  (∀ D' v s',D.le D'→Inv ρ X D' ⟨loc,lst'⟩ s'→VR ρ D' av v→Same s s'→Q v s')→wpAny (model pw w) X.A (call fv vs) Q F0 s
structure TabsOk (T:Tabs):Prop where
 glb:∀ x av,lkN T.glb x=some av→(∃ v,nsIn (K w.params) mainGlobals (S x)=some (some v)∧∀ ρ D,VR ρ D av v)∨(∃ k,av=.bi k∧nsIn (K w.params) mainGlobals (S x)=some none∧bootBuiltins (S x)=some (biV k)∧S x≠"__name__")
 keep:∀ x a,lkN T.glb x=some (.top a)→keepIn (K w.params) (.ref a)=true
 attrs:∀ C x,hasPair T.attrs C x=true→attrOk (K w.params) C x=true
noncomputable def EvOk (R:Recs) (n:Nat):Prop:=∀ (cs:Scope) (st:St) (e:Expr) (av:AV) (st':St),R.ev cs st e=some (av,st')→∀ (ρ:Rho) (X:FX) (D:Led) (s:Shared) (Q:Value→Shared→Prop),X.cs=cs→X.Ok w mean mg mb ρ→Room X n→Inv ρ X D st s →
  (∀ D' v s',D.le D'→Inv ρ X D' st' s'→VR ρ D' av v→Same s s'→Q v s')→wpAny (model pw w) X.A (eval e X.env) Q F0 s
noncomputable def TstOk (R:Recs) (n:Nat):Prop:=∀ (cs:Scope) (st:St) (e:Expr) (tv:TV) (st':St),R.tst cs st e=some (tv,st')→∀ (ρ:Rho) (X:FX) (D:Led) (s:Shared) (Q:Bool→Shared→Prop),X.cs=cs→X.Ok w mean mg mb ρ→Room X n→Inv ρ X D st s →
  (∀ D' b s',D.le D'→Inv ρ X D' st' s'→TVR ρ tv b→Same s s'→Q b s')→wpAny (model pw w) X.A (isTrue e X.env (eval e X.env)) Q F0 s
noncomputable def CallsOk (R:Recs) (n:Nat):Prop:=∀ f args lst av lst',R.call f args lst=some (av,lst')→CallOk w mean mg mb n f args lst av lst'
end
theorem Room.down {X:FX}{n k:Nat} (h:Room X n) (q:k≤n):Room X k:=⟨by have:=h.1;lia,by have:=h.2;lia⟩
theorem kindL_ok {x:Str}{k:NameKind}:∀ {l:List (Str×NameKind)},kindL l x.cps.toList=some k→l.lookup x=some k
 | (y,k')::r,h=>by
  unfold kindL at h
  rw [List.lookup_cons]
  cases q:lnBeq y.cps.toList x.cps.toList with
  | true =>
   rw [q] at h;(have Y0:=s1 h;try clear h;subst Y0)
   have:x=y:=by rw [← S_key x,← S_key y,lnBeq_eq q]
   subst this
   rw [beq_self_eq_true]
  | false =>
   rw [q] at h
   have:(x==y)=false:=beq_eq_false_iff_ne.mpr fun e=>lnBeq_ne q (by rw [e])
   rw [this]
   exact kindL_ok h
theorem isLocal_ok {cs:Scope}{x:Str} (h:isLocal cs x=true):cs.names.lookup x=some .local:=by
 unfold isLocal at h
 split at h
 ·rename_i e;exact kindL_ok e
 ·exact xFT h
theorem isGlobal_ok {cs:Scope}{x:Str} (h:isGlobal cs x=true):cs.names.lookup x=some .globalImplicit:=by
 unfold isGlobal at h
 split at h
 ·rename_i e;exact kindL_ok e
 ·exact xFT h
theorem debug_eq:("__debug__":Str)=S debugL:=(Fast.ofString_ofList ['_','_','d','e','b','u','g','_','_']).trans rfl
theorem not_debug {x:Str} (h:lnBeq x.cps.toList debugL=false):(x==("__debug__":Str))=false:=by
 rw [debug_eq]
 exact beq_eq_false_iff_ne.mpr fun e=>lnBeq_ne h (by rw [e])
section
variable {T:Tabs}{w:World}{mean:ExcName→Option Value}{mg mb:Str→Option Value}{R:Recs}{n:Nat}{ρ:Rho}{X:FX}{D:Led}{st st':St}{s:Shared}{cs:Scope}
theorem Inv.add (I:Inv ρ X D st s) (t:Nat):Inv ρ X D st {s with toks:=t}:=I
noncomputable abbrev Post (ρ:Rho) (X:FX) (D:Led) (s:Shared) (av:AV) (st':St) (Q:Value→Shared→Prop):Prop:=∀ D' v s',D.le D'→Inv ρ X D' st' s'→VR ρ D' av v→Same s s'→Q v s'
theorem Post.step {D':Led}{s':Shared}{av:AV}{Q:Value→Shared→Prop} (h:Post ρ X D s av st' Q) (le:D.le D') (sm:Same s s'):Post ρ X D' s' av st' Q :=
 fun D'' v s'' le' I V sm'=>h D'' v s'' (le.trans le') I V (sm.trans sm')
theorem Post.here {av:AV}{Q:Value→Shared→Prop} (h:Post ρ X D s av st' Q) (I:Inv ρ X D st' s) {v:Value} (V:VR ρ D av v) (t:Nat):Q v {s with toks:=t}:=h D v _ (Led.le.refl D) (I.add t) V ⟨rfl,rfl,rfl⟩
theorem Post.now {av:AV}{Q:Value→Shared→Prop} (h:Post ρ X D s av st' Q) (I:Inv ρ X D st' s) {v:Value} (V:VR ρ D av v):Q v s:=h D v _ (Led.le.refl D) I V ⟨rfl,rfl,rfl⟩
theorem glob_ok (H:TabsOk w T) (hX:X.Ok w mean mg mb ρ) {x:Str}{pos:Pos}{av:AV}{Q:Value→Shared→Prop} (e:lkN T.glb x.cps.toList=some av) (hg:isGlobal X.cs x=true) (hd:lnBeq x.cps.toList debugL=false) (I:Inv ρ X D st s)
  (h:Post ρ X D s av st Q):wpAny (model pw w) X.A (eval (.Name x pos) X.env) Q F0 s:=by
 refine e21 (id I) ?_;intro m P J
 (refine zO (H.glb _ _ e) (fun qh=>e12 qh ?qa0) (fun qh=>e14 qh ?qb0);(case' qb0=>clear H e;intro k Y1 e1 e2 e3;subst Y1);(case' qa0=>clear H e;intro v e1 hv))
 ·rw [S_key] at e1
  exact nameX_K J.F hX.K (topRead_of hX.T) e1 (h.now I (hv ρ D)) hX.k (isGlobal_ok hg) (not_debug hd)
 ·rw [S_key] at e1 e2 e3
  exact nameX_B J.F hX.K (topRead_of hX.T) e1 e2 e3 (h.now I (.bi k)) hX.k (isGlobal_ok hg) (not_debug hd)
theorem fn_ok (H:TabsOk w T) (hX:X.Ok w mean mg mb ρ) {x:Str}{pos:Pos}{av:AV}{Q:Value→Shared→Prop} (e:evFn T X.cs x=some av) (I:Inv ρ X D st s)
  (h:Post ρ X D s av st Q):wpAny (model pw w) X.A (eval (.Name x pos) X.env) Q F0 s:=by
 unfold evFn at e
 cases q:lnBeq x.cps.toList debugL with
 | true=>rw [q] at e;exact xNS e
 | false =>
  rw [q,cond_false] at e
  cases g:isGlobal X.cs x with
  | false=>rw [g] at e;exact xNS e
  | true=>rw [g,cond_true] at e;exact glob_ok H hX e g q I h
theorem name_ok (H:TabsOk w T) (hX:X.Ok w mean mg mb ρ) {x:Str}{pos:Pos}{av:AV}{Q:Value→Shared→Prop} (e:evName T X.cs st x=some av) (I:Inv ρ X D st s)
  (h:Post ρ X D s av st Q):wpAny (model pw w) X.A (eval (.Name x pos) X.env) Q F0 s:=by
 unfold evName at e
 cases q:lnBeq x.cps.toList debugL with
 | true=>rw [q] at e;exact xNS e
 | false =>
  rw [q,cond_false] at e
  cases g:isLocal X.cs x with
  | false=>rw [g,cond_false] at e;exact fn_ok H hX e I h
  | true =>
   rw [g,cond_true] at e
   refine e21 (id I) ?_;intro m P J
   refine e12 (J.loc _ _ e) ?_;clear e;intro v e1 hv
   rw [S_key] at e1
   exact nameX_L J.F e1 (h.now I hv) hX.k (isLocal_ok g) (not_debug q)
theorem star_one {e:Expr} (h:isStar e=false) (env:Env) (rest:List Expr):starEach (e::rest) env=(false,eval e env)::starEach rest env :=
 tS (P:=starEach (e::rest) env=(false,eval e env)::starEach rest env) (b:=!isStar e) (by cases e <;> first|exact rfl|exact trivial) (by rw [h];rfl)
theorem evs_cons {cs:Scope}{a:Expr}{rest:List Expr}{r:List AV×St} (e:evs R cs st (a::rest)=some r):isStar a=false∧∃ p q,R.ev cs st a=some p∧evs R cs p.2 rest=some q∧r=(p.1::q.1,q.2):=by
 unfold evs at e
 (refine zO (cond2S e) (fun qh=>e02 qh ?qa1) (fun qh=>e02 qh ?qb1);(case' qb1=>clear e;intro q e);(case' qa1=>clear e;intro _ e))
 ·exact xNS e
 ·refine e12 (bindS e) ?_;clear e;intro p e1 e
  refine e12 (mapS e) ?_;clear e;intro q' e2 e
  exact ⟨q,p,q',e1,e2,e.symm⟩
theorem evs_star {env:Env}{pos:Pos}{es:List Expr}:∀ {st:St}{r:List AV×St},evs R cs st es=some r→(backTo pos (starEach es env)).any (·.1)=false:=by
 induction es with
 | nil=>intro _ _ _;rfl
 | cons e rest ih =>
  intro st r h
  obtain ⟨q,_,_,_,h2,_⟩:=evs_cons h
  rw [star_one q]
  show (false||_)=false
  rw [Bool.false_or]
  exact ih h2
theorem evs_ok (hR:EvOk w mean mg mb R n) (hX:X.Ok w mean mg mb ρ) (hr:Room X n) {pos:Pos}{es:List Expr}:∀ {st st':St}{l:List AV}{D:Led}{s:Shared}{Q:List Value→Shared→Prop},evs R X.cs st es=some (l,st')→Inv ρ X D st s →
  (∀ D' vs s',D.le D'→Inv ρ X D' st' s'→VRs ρ D' l vs→Same s s'→Q vs s')→wpAny (model pw w) X.A (spliced (backTo pos (starEach es X.env))) Q F0 s:=by
 induction es with
 | nil=>intro st st' l D s Q e I h;(refine s2 e ?_;try clear e;intro Y0 Y1;subst Y0;subst Y1);exact args_nil (h D _ _ (Led.le.refl D) I .nil (Same.refl s))
 | cons x rest ih =>
  intro st st' l D s Q e I h
  obtain ⟨q,p,r,h1,h2,e⟩:=evs_cons e
  refine p2 e ?_;try clear e;intro Y0 Y1;subst Y0;subst Y1
  exact args_cons (hR _ _ _ _ _ h1 ρ X D s _ rfl hX hr I fun D₁ v s₁ le₁ I₁ V₁ sm₁=>ih h2 I₁ fun D₂ vs s₂ le₂ I₂ V₂ sm₂ =>
   h D₂ _ _ (le₁.trans le₂) I₂ (.cons (V₁.mono le₂) V₂) (sm₁.trans sm₂)) (star_one q _ _)
theorem dec16:∀ k:Nat,k<16→∀ l,decL (Int.ofNat k)=some l→Str.ofString (toString (Int.ofNat k))=S l∧(Int.ofNat k).natAbs.log2<1920:=by
 have key:∀ k:Nat,k<16→(decL (Int.ofNat k)=some (Str.ofString (toString (Int.ofNat k))).cps.toList)∧(Int.ofNat k).natAbs.log2<1920:=by decide +kernel
 intro k hk l e
 refine e02 (key k hk) ?_;clear key hk;intro h1 h2
 exact ⟨by rw [← Option.some.inj (h1.symm.trans e),S_key],h2⟩
theorem dec_ok {i:Int}{l:List Nat} (h:decL i=some l):(Str.ofString (toString i)=S l∧i.natAbs.log2<1920):=by
 cases i with
 | negSucc=>exact xNS h
 | ofNat k =>
  refine dec16 k ?_ l h
  rcases cond2S (show (bif Nat.blt k 10 then some [48+k] else bif Nat.blt k 16 then some [49,38+k] else Option.none)=some l from h) with ⟨q,_⟩|⟨_,h⟩
  ·have:=zB q;(exact Nat.le_trans (by assumption) (by decide))
  ·exact zB (condS h).1
theorem rngOk_small {a b c:Int} (h:rngOk a b c=true):-1000≤a∧a≤1000∧-1000≤b∧b≤1000∧Builtin.Range.small a b c=true:=by
 unfold rngOk at h
 simp only [Bool.and_eq_true,leB_iff] at h
 (exact (i05 h.1.1.1.1 h.1.1.1.2 h.1.1.2 h.1.2 h.2))
theorem len_tup {l:List AV}{vs:List Value}{a:Addr}{k:Nat}{Q:Value→Shared→Prop} (hl:VRs ρ D l vs) (ho:s.heap.get? a=some {cls:=.type "tuple",data:=.seq vs.toArray k}) (hn:Nat.ble l.length 100000=true)
  (h:∀ v tk,VR ρ D (.int (.lit l.length)) v→Q v {s with toks:=tk}):wpAny (model pw w) X.A (call (.builtin "len") [.ref a]) Q F0 s:=by
 have hn:=zB hn
 have hlen:=hl.length
 have e2:((vs.toArray.size:Nat):Int)=((l.length:Nat):Int):=by simp [hlen]
 refine PyProof.Rows.len_tuple (items:=vs.toArray) ⟨_,ho,rfl,_,rfl⟩ (by lia) (h _ _ ?_)
 rw [e2];exact .int (.lit _) _
theorem len_lst {l:List AV}{vs:List Value}{a:Addr}{k:Nat}{Q:Value→Shared→Prop} (hl:VRs ρ D l vs) (ho:s.heap.get? a=some {cls:=.type "list",data:=.seq vs.toArray k}) (hn:Nat.ble l.length 100000=true)
  (h:∀ v tk,VR ρ D (.int (.lit l.length)) v→Q v {s with toks:=tk}):wpAny (model pw w) X.A (call (.builtin "len") [.ref a]) Q F0 s:=by
 have hn:=zB hn
 have hlen:=hl.length
 have e2:((vs.toArray.size:Nat):Int)=((l.length:Nat):Int):=by simp [hlen]
 refine PyProof.Rows.len_list (items:=vs.toArray) ⟨_,ho,rfl,_,rfl⟩ (by lia) (h _ _ ?_)
 rw [e2];exact .int (.lit _) _
theorem rng_made {a b c:Int}{t u v:Tok} (I:Inv ρ X D st s) (tk:Nat):∃ D':Led,D.le D' ∧
  Inv ρ X D' st {s with heap:=s.heap.push {cls:=.type "range",data:=.fields #[.int a t,.int b u,.int c v]},toks:=tk}∧VR ρ D' (.rng a b c) (.ref s.heap.objs.size):=by
 refine e21 (I) ?_;clear I;intro m P J
 (exact (i13 _ (Led.le_imm D _) (⟨m,P,J.pushImm _ (J.F.push _) (News.push J.F J.N _)⟩) (.rng (.head _))))
theorem lenV_ok {m:Nat}{v r:AV} (e:lenV m v st=some (r,st')):m≤100000∧r=v∧st'=st:=by
 refine e02 (condS e) ?_;clear e;intro q e
 refine s2 e ?_;try clear e;intro Y0 Y1;subst Y0;subst Y1
 (exact (i03 (zB q) rfl rfl))
theorem len_S {x:List Nat}{t:Tok}{Q:Value→Shared→Prop} (hn:x.length≤100000) (h:∀ tk k,Q (.int (x.length:Int) tk) {s with toks:=k}):wpAny (model pw w) X.A (call (.builtin "len") [.str (S x) t]) Q F0 s :=
 PyProof.Rows.len_str (by rw [S_len];lia) (by rw [S_len];exact h _ _)
theorem lenB_ok {a:AV}{r:AV}{v:Value}{Q:Value→Shared→Prop} (e:lenB a st=some (r,st')) (I:Inv ρ X D st s) (V:VR ρ D a v) (h:Post ρ X D s r st' Q):wpAny (model pw w) X.A (call (.builtin "len") [v]) Q F0 s:=by
 refine e21 (id I) ?_;intro m P J
 (refine zO (altS e) (fun qh=>e12 qh ?qa3) (fun qh=>e02 qh ?qb3);(case' qb3=>clear e;intro _ e);(case' qa3=>clear e;intro l e1 e))
 ·rw [AV.tupS e1] at V
  refine e33 (V.tupI) ?_;intro vs p k hm hv Y5;subst Y5
  refine e03 (lenV_ok e) ?_;intro q Y1 Y2;subst Y1;subst Y2
  exact len_tup hv (J.imm hm) (Nat.ble_eq_true_of_le q) fun v tk V=>h.here I V _
 (refine zO (altS e) (fun qh=>e12 qh ?qa4) (fun qh=>e02 qh ?qb4);(case' qb4=>clear e;intro _ e);(case' qa4=>clear e;intro i e1 e))
 ·rw [AV.locS e1] at V
  refine e12 (V.locI) ?_;intro p hi Y2;subst Y2
  refine e12 (bindS e) ?_;clear e;intro l e2 e
  refine e03 (lenV_ok e) ?_;intro q Y1 Y2;subst Y1;subst Y2
  refine e23 (J.lad_get e2 hi) ?_;clear J hi;intro vs k _ hv hg
  exact len_lst hv hg (Nat.ble_eq_true_of_le q) fun v tk V=>h.here I V _
 refine e12 (bindS e) ?_;clear e;intro x e1 e
 rw [AV.strS e1] at V
 refine e11 (V.strI) ?_;clear V;intro t Y1;subst Y1
 (refine zO (altS e) (fun qh=>e12 qh ?qa5) (fun qh=>e02 qh ?qb5);(case' qb5=>clear e;intro _ e);(case' qa5=>clear e;intro p e2 e))
 ·refine e03 (lenV_ok e) ?_;intro q Y1 Y2;subst Y1;subst Y2
  have hd:x.den ρ=p.1.take p.2:=by rw [extS e2];exact List.append_nil _
  rw [hd]
  exact len_S (Nat.le_trans (by rw [List.length_take];exact Nat.min_le_left _ _) q) fun tk k=>h.here I (.int (.ext _) tk) k
 ·refine e03 (lenV_ok e) ?_;clear e;intro q Y1 Y2;subst Y1;subst Y2
  refine len_S (Nat.le_trans (SE.bound_ok ρ x) q) fun tk k=>?_
  cases hl:x.lit? with
  | none=>rw [hl] at h;exact h.here I (.slen _ tk) k
  | some l=>rw [hl] at h;rw [SE.lit?_den hl];exact h.here I (.int (.lit _) tk) k
theorem rngV_ok {a b c:Int}{r:AV} (e:rngV a b c st=some (r,st')):r=.rng a b c∧st'=st∧(c=1∨c=-1):=by
 refine e02 (condS e) ?_;clear e;intro q e
 refine s2 e ?_;try clear e;intro Y0 Y1;subst Y0;subst Y1
 refine (i03 rfl rfl ?_)
 (refine zO (Bool.or_eq_true_iff.mp (andS q).2) ?qa6 ?qb6;(case' qb6=>clear q;intro x);(case' qa6=>clear q;intro x))
 ·exact .inl ((eqB_iff _ _).mp x)
 ·exact .inr ((eqB_iff _ _).mp x)
theorem litI {a:AV}{i:Int}{v:Value} (e:a.lit?=some i) (V:VR ρ D a v):∃ t,v=.int i t:=by
 rw [AV.litS e] at V
 exact V.intI
theorem callB_ok {k:Nat}{l:List AV}{st st':St}{r:AV}{vs:List Value}{Q:Value→Shared→Prop} (hX:X.Ok w mean mg mb ρ) (e:callB k l st=some (r,st')) (I:Inv ρ X D st s) (hl:VRs ρ D l vs) (h:Post ρ X D s r st' Q) :
  wpAny (model pw w) X.A (call (biV k) vs) Q F0 s:=by
 (refine zO (altS e) (fun qh=>e12 qh ?qa7) (fun qh=>e02 qh ?qb7);(case' qb7=>clear e;intro _ e);(case' qa7=>clear e;intro a e1 e))
 ·rw [oneS e1] at hl
  refine e12 (hl.oneI) ?_;intro v V Y2;subst Y2
  (refine zO (cond2S e) (fun qh=>e02 qh ?qa8) (fun qh=>e02 qh ?qb8);(case' qb8=>clear e;intro _ e);(case' qa8=>clear e;intro q e))
  ·rw [zE q]
   exact lenB_ok e I V h
  (refine zO (cond2S e) (fun qh=>e02 qh ?qa9) (fun qh=>e02 qh ?qb9);(case' qb9=>clear e;intro _ e);(case' qa9=>clear e;intro q e))
  ·rw [zE q]
   refine e12 (bindS e) ?_;clear e;intro i e2 e
   refine e12 (mapS e) ?_;clear e;intro d e3 e
   refine p2 e ?_;try clear e;intro Y0 Y1;subst Y0;subst Y1
   refine e11 (litI e2 V) ?_;intro t Y1;subst Y1
   refine e02 (dec_ok e3) ?_;intro d1 d2
   refine _root_.PySem.P.str_of_int d2 ?_
   show Q (.str (Str.ofString (toString i)) _) _
   rw [d1]
   refine h.here I ?_ _
   have:=VR.str (ρ:=ρ) (D:=D) (SE.ofL d) s.toks
   rw [SE.ofL_den] at this
   exact this
  ·refine e02 (condS e) ?_;clear e;intro q e
   rw [zE q]
   refine e12 (bindS e) ?_;clear e;intro b e2 e
   refine e11 (litI e2 V) ?_;intro t Y1;subst Y1
   refine e03 (rngV_ok e) ?_;intro Y0 Y1 _;subst Y0;subst Y1
   refine call_range_1 ?_
   refine e13 (rng_made (a:=0) (b:=b) (c:=1) (t:=s.toks) (u:=t) (v:=s.toks+1) I (s.toks+1+1)) ?_;intro D' le I' V
   exact h D' _ _ le I' V ⟨rfl,rfl,rfl⟩
 (refine zO (altS e) (fun qh=>e12 qh ?qa10) (fun qh=>e02 qh ?qb10);(case' qb10=>clear e;intro _ e);(case' qa10=>clear e;intro p e1 e))
 ·rw [twoS e1] at hl
  refine e23 (hl.twoI) ?_;intro v u V U Y4;subst Y4
  refine e12 (bindS e) ?_;clear e;intro x e2 e
  refine e12 (bindS e) ?_;clear e;intro y e3 e
  refine e12 (bindS e) ?_;clear e;intro i e4 e
  refine e02 (condS e) ?_;clear e;intro q e
  refine s2 e ?_;try clear e;intro Y0 Y1;subst Y0;subst Y1
  have q1:=andS q
  have q2:=andS q1.2
  have q3:=andS q2.2
  have q4:=andS q3.2
  rw [zE q1.1]
  rw [AV.strS e2,fnS e3,zE q2.1] at V
  refine e11 (V.strI) ?_;intro t Y1;subst Y1
  refine e11 (litI e4 U) ?_;intro t' Y1;subst Y1
  rw [(eqB_iff _ _).mp q4.2]
  have q3:=zB q3.1
  refine e02 (IE.within_ok (ρ:=ρ) q4.1) ?_;clear q4;intro b1 b2
  have hl:=hexL_len (e:=y.2.2.den ρ) (k:=24) (by (exact Int.lt_of_le_of_lt (by assumption) (by decide))) (by decide)
  have hd:(SE.fn 0 y.2.1 y.2.2 .nil).den ρ=hexL (y.2.2.den ρ):=by
   simp only [SE.den,hX.sym.1,List.append_nil]
   exact zT (by (exact Nat.le_trans (by assumption) (by assumption)))
  refine e03 (hexL_back b1) ?_;clear b1;intro x1 x2 x3
  rw [hd]
  refine int_hex x2 x3 (by (exact Nat.le_trans (by assumption) (by decide))) ?_
  rw [x1]
  exact h.here I (.int _ _) _
 ·refine e12 (bindS e) ?_;clear e;intro p e1 e
  rw [threeS e1] at hl
  refine e34 (hl.threeI) ?_;clear hl;intro v u z V U Z Y6;subst Y6
  refine e12 (bindS e) ?_;clear e;intro a e2 e
  refine e12 (bindS e) ?_;clear e;intro b e3 e
  refine e12 (bindS e) ?_;clear e;intro c e4 e
  refine e02 (condS e) ?_;clear e;intro q e
  rw [zE q]
  refine e11 (litI e2 V) ?_;clear e2;intro t Y1;subst Y1
  refine e11 (litI e3 U) ?_;clear e3 U;intro u Y1;subst Y1
  refine e11 (litI e4 Z) ?_;clear e4 Z;intro v Y1;subst Y1
  refine e03 (rngV_ok e) ?_;clear e;intro Y0 Y1 hc;subst Y0;subst Y1
  refine call_range_3 (by show c≠0;lia) ?_ (.inl (PyProof.noPylong_small (by show c.natAbs<_;lia)))
  refine e13 (rng_made (a:=a) (b:=b) (c:=c) (t:=t) (u:=u) (v:=v) I s.toks) ?_;intro D' le I' V
  exact h D' _ _ le I' V ⟨rfl,rfl,rfl⟩
theorem join_ok {sep:SE}{items:List AV}:∀ {vs:List Value}{t:SE},joinS sep items=some t→VRs ρ D items vs →
  ∃ ys:List Str,StrsAre vs ys∧Str.join (S (sep.den ρ)) ys=S (t.den ρ)∧(ys.map (·.length)).sum≤(t.den ρ).length∧ys.length=items.length:=by
 induction items with
 | nil=>intro vs t e V;(have Y0:=s1 e;try clear e;subst Y0);rw [V.nilI];(exact (i14 ([]) .nil rfl (Nat.zero_le _) rfl))
 | cons a r ih =>
  intro vs t e V
  refine e23 (V.consI) ?_;clear V;intro v us V1 V2 Y4;subst Y4
  refine e12 (bindS e) ?_;clear e;intro x e1 e
  rw [AV.strS e1] at V1
  refine e11 (V1.strI) ?_;clear V1;intro tk Y1;subst Y1
  (refine zO (cond2S e) (fun qh=>e02 qh ?qa11) (fun qh=>e02 qh ?qb11);(case' qb11=>clear e;intro q e);(case' qa11=>clear e;intro q e))
  ·(have Y0:=s1 e;try clear e;subst Y0)
   obtain rfl:=List.isEmpty_iff.mp q
   rw [V2.nilI]
   refine (i14 _ (.cons _ _ .nil) rfl ?_ rfl)
   simp only [List.map_cons,List.map_nil,List.sum_cons,List.sum_nil,S_len];(exact Nat.le_refl _)
  ·refine e12 (mapS e) ?_;clear e;intro u e' Y2;subst Y2
   refine e14 (ih e' V2) ?_;clear ih e' V2;intro zs h1 h2 h3 h4
   refine (i14 _ (.cons _ _ h1) ?_ ?_ (congrArg (·+1) h4))
   ·cases zs with
    | nil=>rw [List.length_eq_zero_iff.mp h4.symm] at q;exact xTF q
    | cons z zs' =>
     show S (x.den ρ)++S (sep.den ρ)++Str.join _ (z::zs')=_
     rw [h2,S_app,S_app,SE.app_den,SE.app_den]
   ·simp only [List.map_cons,List.sum_cons,S_len,SE.app_den,List.length_append]
    lia
theorem words_ok {l:List (Str×Tok)}{ws:List Str} (h:l.map (·.1)=ws):VRs ρ D (ws.map fun w=>.str (SE.ofL w.cps.toList)) (strValues l):=by
 subst h
 induction l with
 | nil=>exact .nil
 | cons p r ih =>
  refine .cons ?_ ih
  have:=VR.str (ρ:=ρ) (D:=D) (SE.ofL p.1.cps.toList) p.2
  rw [SE.ofL_den,S_key] at this
  exact this
theorem split_eq:("split":Str)=S mSplit:=(Fast.ofString_ofList ['s','p','l','i','t']).trans rfl
theorem join_eq:("join":Str)=S mJoin:=(Fast.ofString_ofList ['j','o','i','n']).trans rfl
theorem append_eq:("append":Str)=S mAppend:=(Fast.ofString_ofList ['a','p','p','e','n','d']).trans rfl
theorem reverse_eq:("reverse":Str)=S mReverse:=(Fast.ofString_ofList ['r','e','v','e','r','s','e']).trans rfl
theorem onS {m:Str}{T id:String}{ov:Value}{pos:Pos}{args:List (Bool×Sem Value)}{Q:Value→Shared→Prop} (hp:PlainAttrs T) (hs:Slot T m id) (ht:typeOf (.builtin id)=pure (.type "method_descriptor")) (hT:s.TypeIs ov T)
  (hd:∀ a,ov=.ref a→∃ ob,s.heap.get? a=some ob∧ob.dict=none) (h:wpAny (model pw w) X.A (callWith pos (.builtin id) [ov] args []) Q F0 s):MethodOnS pw w X.A F0 m ov pos args Q s:=⟨T,id,hp,hs,ht,hT,hd,h⟩
theorem lad_next {h:Heap}{m:Str→Option Value}{P:List (Addr×Obj)} (J:InvAt ρ X D st h m P) (a:Addr):(D.lad++[a])[st.lst.length]?=some a:=by
 rw [← J.ls.length,← List.length_map (f:=(·.1)),J.ad];simp
theorem mname {m:Str}{l:List Nat}{x:String} (e:Str.ofString x=S l) (q:lnBeq m.cps.toList l=true):m=Str.ofString x:=by rw [e,← lnBeq_eq q,S_key]
theorem callM0_ok {o:AV}{m:Str}{st st':St}{r:AV}{ov:Value}{pos:Pos}{Q:Value→Shared→Prop} (e:callM0 m.cps.toList o st=some (r,st')) (I:Inv ρ X D st s) (ho:VR ρ D o ov) (h:Post ρ X D s r st' Q) :
  MethodOnS pw w X.A F0 m ov pos [] Q s:=by
 refine e21 (id I) ?_;clear I;intro mm P J
 (refine zO (altS e) (fun qh=>e12 qh ?qa12) (fun qh=>e02 qh ?qb12);(case' qb12=>clear e;intro _ e);(case' qa12=>clear e;intro x e1 e))
 ·rw [AV.strS e1] at ho
  refine e11 (ho.strI) ?_;intro t Y1;subst Y1
  refine e02 (condS e) ?_;clear e;intro q e
  refine e12 (bindS e) ?_;clear e;intro l hl e
  refine e02 (condS e) ?_;clear e;intro q2 e
  refine s2 e ?_;try clear e;intro Y0 Y1;subst Y0;subst Y1
  rw [mname split_eq q]
  have q2:=zB q2
  refine onS F.plainAttrs_str F.slot_str_split rfl (typeIs_str _ _ _) (fun a e=>nomatch e) (callWith_method0 (env:=X.env) ?_)
  rw [SE.lit?_den hl]
  refine splitN0 J.F J.N (fun l' h' k hw F' N'=>?_) (by rw [S_len,show sizeLine=16777216 from rfl];lia)
  have hv:VRs ρ D ((Txt.words (S l)).map fun w=>.str (SE.ofL w.cps.toList)) (strValues l'):=words_ok hw
  exact h _ _ _ (D.le_lad _) ⟨_,_,J.pushLst hv F' N'⟩ (.loc (lad_next J _)) ⟨rfl,rfl,rfl⟩
 ·refine e12 (bindS e) ?_;clear e;intro i e1 e
  rw [AV.locS e1] at ho
  refine e12 (ho.locI) ?_;clear ho;intro a hi Y2;subst Y2
  refine e02 (condS e) ?_;clear e;intro q e
  refine e12 (bindS e) ?_;clear e;intro items e1 e
  refine e02 (condS e) ?_;clear e;intro q2 e
  refine s2 e ?_;try clear e;intro Y0 Y1;subst Y0;subst Y1
  rw [mname reverse_eq q]
  have q2:=zB q2
  refine e23 (J.lad_get e1 hi) ?_;clear e1 hi;intro vs k hP hv hg
  have hvl:=hv.length
  refine onS F.plainAttrs_list F.slot_list_reverse rfl ⟨_,hg,rfl⟩ (fun a e=>by cases e;(exact (i12 _ hg rfl))) (callWith_method0 (env:=X.env) ?_)
  refine call_meets PySem.F.slot_list_reverse ⟨_,hg,rfl⟩ PySem.F.entry_list_reverse (PySem.F.args_list_reverse_1 _) (AutoSeq1.list_reverse_list_0 a vs.toArray k (by rw [List.size_toArray,show sizeLine=16777216 from rfl];lia)) ⟨hg,?_⟩
  have J':=J.setLst (vs':=vs.reverse) (n':=k) hP hv.reverse (h':=s.heap.update a (Obj.mapSeq fun x=>x.reverse)) (Heap.SameBut.update ..) (by
   rw [Heap.get?_update_self _ hg (by rw [mapSeq_reverse];rfl),mapSeq_reverse])
  exact h _ _ _ (Led.le.refl D) ⟨_,_,J'⟩ .none ⟨rfl,rfl,rfl⟩
theorem InvAt.lad_obj {h:Heap}{m:Str→Option Value}{P:List (Addr×Obj)} (J:InvAt ρ X D st h m P) {i:Nat}{a:Addr} (e:D.lad[i]?=some a):∃ ob,h.get? a=some ob∧ob.cls=.type "list"∧ob.dict=none:=by
 have hi:i<st.lst.length:=by rw [← J.ls.length,← List.length_map (f:=(·.1)),J.ad];exact (List.getElem?_eq_some_iff.mp e).1
 refine e23 (J.lad_get (List.getElem?_eq_getElem hi) e) ?_;clear J e;intro vs n _ _ hg
 (exact (i13 _ hg rfl rfl))
theorem callWith_one {id:String}{ov:Value}{pos:Pos}{t:Sem Value}{Q:Value→Shared→Prop} (h:wpAny (model pw w) X.A t (fun v s₁=>wpAny (model pw w) X.A (call (.builtin id) [ov,v]) Q F0 s₁) F0 s) :
  wpAny (model pw w) X.A (callWith pos (.builtin id) [ov] [(false,t)] []) Q F0 s :=
 Calls.callWith_builtin rfl (Calls.evalArgs_plain (Calls.spliced_cons (wpAny_mono h (fun _ _ h₁=>Calls.spliced_nil h₁) fun _ _ e=>e)))
theorem hex_no {c:Nat} (h:hexFree c=true):isHex c=false:=by
 unfold hexFree at h
 unfold isHex
 cases q:((Nat.ble 48 c&&Nat.ble c 57)||(Nat.ble 97 c&&Nat.ble c 102)) with
 | false=>rfl
 | true=>rw [q] at h;exact xFT h
theorem hexL_hex (e:Int):∀ c∈hexL e,isHex c=true:=by
 by_cases h:0≤e
 ·exact (hexL_back h).2.1
 ·intro c hc
  unfold hexL at hc
  rw [if_pos (by lia),List.mem_singleton] at hc
  rw [hc]
  exact (hexVal_digit (d:=(e.emod 16).toNat) (by have:=Int.emod_lt_of_pos e (show (0:Int)<16 by decide);have:=Int.emod_nonneg e (show (16:Int)≠0 by decide);show (e % 16).toNat<16;lia)).2
theorem hexL_free {c:Nat} (h:hexFree c=true) (e:Int):c∉hexL e:=fun hc=>by
 have:=hexL_hex e c hc
 rw [hex_no h] at this;exact xFT this
theorem parts_ok {l:List (Str×Tok)}:∀ {ps:List SE},l.map (·.1)=ps.map (fun p=>S (p.den ρ))→VRs ρ D (ps.map .str) (strValues l):=by
 induction l with
 | nil=>intro ps h;cases ps with
  | nil=>exact .nil
  | cons=>cases h
 | cons x r ih=>intro ps h;cases ps with
  | nil=>cases h
  | cons p ps =>
   injection h with h1 h2
   refine .cons ?_ (ih h2)
   have h1:x.1=S (p.den ρ):=h1
   show VR ρ D (.str p) (.str x.1 x.2)
   rw [h1]
   exact .str p x.2
section
variable {o b:AV}{m:Str}{st₁ st₂:St}{r:AV}{ov:Value}{t:Sem Value}{pos:Pos}{Q:Value→Shared→Prop}
theorem callJoin_ok {x:SE}{tk:Tok}{i:Nat}{items:List AV}{y:SE} (e1:st₂.lst[i]?=some items) (e2:joinS x items=some y) (q2:Nat.ble (y.bound+items.length*(x.bound+1)) 100000=true)
  (run:∀ Q':Value→Shared→Prop,Post ρ X D s (.loc i) st₂ Q'→wpAny (model pw w) X.A t Q' F0 s) (h:Post ρ X D s (.str y) st₂ Q) :
  MethodOnS pw w X.A F0 (Str.ofString "join") (.str (S (x.den ρ)) tk) pos [(false,t)] Q s:=by
 refine onS F.plainAttrs_str F.slot_str_join rfl (typeIs_str _ _ _) (fun a e=>nomatch e) (callWith_one ?_)
 refine run _ fun D' v s' le I' V sm=>?_
 refine e12 (V.locI) ?_;clear V;intro a hi Y2;subst Y2
 refine e21 (id I') ?_;intro mm' P' J'
 refine e23 (J'.lad_get e1 hi) ?_;clear J' e1 hi;intro vs k _ hv hg
 refine e14 (join_ok e2 hv) ?_;clear e2 hv;intro ys h1 h2 h3 h4
 have q2:=zB q2
 have b1:=SE.bound_ok ρ y
 have b2:=SE.bound_ok ρ x
 have b3:items.length*(x.den ρ).length≤items.length*(x.bound+1):=Nat.mul_le_mul_left _ (by lia)
 refine PyProof.Rows.join_list ⟨_,hg,rfl,_,rfl⟩ h1 (by rw [h4,S_len];lia) fun t' tk'=>?_
 have e3:Txt.join (S (x.den ρ)) ys=S (y.den ρ):=(StrLaws.glued_eq_join _ _).trans h2
 rw [e3]
 exact (h.step le sm).here I' (.str _ _) _
theorem callSplit_ok {x sep:SE}{tk:Tok}{c:Nat}{ps:List SE} (hX:X.Ok w mean mg mb ρ) (q:Nat.ble x.bound 100000=true) (hc:sep.lit?=some [c]) (e2:x.splitAt c=some ps)
  (run:∀ Q':Value→Shared→Prop,Post ρ X D s (.str sep) st₂ Q'→wpAny (model pw w) X.A t Q' F0 s) (h:Post ρ X D s (pushV (ps.map .str) st₂).1 (pushV (ps.map .str) st₂).2 Q) :
  MethodOnS pw w X.A F0 (Str.ofString "split") (.str (S (x.den ρ)) tk) pos [(false,t)] Q s:=by
 refine onS F.plainAttrs_str F.slot_str_split rfl (typeIs_str _ _ _) (fun a e=>nomatch e) (callWith_one ?_)
 refine run _ fun D' v s' le I' V sm=>?_
 refine e11 (V.strI) ?_;clear V;intro tk' Y1;subst Y1
 rw [SE.lit?_den hc]
 refine e21 (id I') ?_;clear I';intro mm' P' J'
 refine e03 (SE.splitAt_ok (ρ:=ρ) (fun hf e=>by rw [hX.sym.1];exact hexL_free hf e) e2) ?_;intro p1 p2 p3
 have hb1:=zB q
 have hb2:=SE.bound_ok ρ x
 refine splitN1 J'.F J'.N (by rfl) (fun l' h' k hw F' N'=>?_) (by rw [S_len,show sizeLine=16777216 from rfl];lia)
 have e3:Txt.split (S (x.den ρ)) (S [c])=ps.map (fun p=>S (p.den ρ)):=by
  rw [← p2]
  have:=split_is (c:=c) (ps:=ps.map (·.den ρ)) (by simpa using p1) (fun p hp=>by
   refine e12 (List.mem_map.mp hp) ?_;clear hp;intro y hy Y2;subst Y2
   exact p3 y hy)
  rw [List.map_map] at this
  exact this
 exact (h.step le sm) _ _ _ (D'.le_lad _) ⟨_,_,J'.pushLst (parts_ok (hw.trans e3)) F' N'⟩ (.loc (lad_next J' _)) ⟨rfl,rfl,rfl⟩
theorem callPush_ok {i:Nat}{a:Addr}{items:List AV} (hi:D.lad[i]?=some a) (I:Inv ρ X D st₁ s) (e1:st₂.lst[i]?=some items) (q2:Nat.ble items.length 100000=true)
  (run:∀ Q':Value→Shared→Prop,Post ρ X D s b st₂ Q'→wpAny (model pw w) X.A t Q' F0 s) (h:Post ρ X D s .none (setV i (items++[b]) st₂).2 Q) :
  MethodOnS pw w X.A F0 (Str.ofString "append") (.ref a) pos [(false,t)] Q s:=by
 refine e21 (id I) ?_;clear I;intro mm P J
 have q2:=zB q2
 refine e13 (J.lad_obj hi) ?_;clear J;intro ob o1 o2 o3
 refine onS F.plainAttrs_list F.slot_list_append rfl ⟨_,o1,o2⟩ (fun a e=>by cases e;(exact (i12 _ o1 o3))) (callWith_one ?_)
 refine run _ fun D' v s' le I' V sm=>?_
 refine e21 (id I') ?_;clear I';intro mm' P' J'
 refine e23 (J'.lad_get e1 (le.lad _ _ hi)) ?_;clear e1 hi;intro vs k hP hv hg
 have hvl:=hv.length
 refine PyProof.Rows.append_at hg (fun h' hs ho'=>?_) (by rw [List.size_toArray,show sizeLine=16777216 from rfl];lia)
 have J2:=J'.setLst (vs':=vs++[v]) (n':=k+1) hP (hv.append (.cons V .nil)) hs (by rw [ho'];simp)
 exact (h.step le sm) _ _ _ (Led.le.refl D') ⟨_,_,J2⟩ .none ⟨rfl,rfl,rfl⟩
theorem callM1_ok (hX:X.Ok w mean mg mb ρ) (e:callM1 m.cps.toList o b st₂=some (r,st')) (I:Inv ρ X D st₁ s) (ho:VR ρ D o ov)
  (run:∀ Q':Value→Shared→Prop,Post ρ X D s b st₂ Q'→wpAny (model pw w) X.A t Q' F0 s) (h:Post ρ X D s r st' Q) :
  MethodOnS pw w X.A F0 m ov pos [(false,t)] Q s:=by
 (refine zO (altS e) (fun qh=>e12 qh ?qa13) (fun qh=>e02 qh ?qb13);(case' qb13=>clear e;intro _ e);(case' qa13=>clear e;intro x e1 e))
 ·rw [AV.strS e1] at ho
  refine e11 (ho.strI) ?_;intro tk Y1;subst Y1
  (refine zO (altS e) (fun qh=>e12 qh ?qa14) (fun qh=>e02 qh ?qb14);(case' qb14=>clear e;intro _ e);(case' qa14=>clear e;intro i e1 e))
  ·refine e02 (condS e) ?_;clear e;intro q e
   refine e12 (bindS e) ?_;clear e;intro items e2 e
   refine e12 (bindS e) ?_;clear e;intro y e3 e
   refine e02 (condS e) ?_;clear e;intro q2 e
   refine s2 e ?_;try clear e;intro Y0 Y1;subst Y0;subst Y1
   rw [mname join_eq q]
   rw [AV.locS e1] at run
   exact callJoin_ok e2 e3 q2 run h
  ·refine e12 (bindS e) ?_;clear e;intro sep e2 e
   refine e02 (condS e) ?_;clear e;intro q e
   refine e12 (bindS e) ?_;clear e;intro l e3 e
   refine e12 (bindS e) ?_;clear e;intro c e4 e
   refine e12 (mapS e) ?_;clear e;intro ps e5 e
   refine p2 e ?_;try clear e;intro Y0 Y1;subst Y0;subst Y1
   rw [mname split_eq (andS q).1]
   rw [AV.strS e2] at run
   exact callSplit_ok hX (andS q).2 (oneS e4▸e3) e5 run h
 ·refine e12 (bindS e) ?_;clear e;intro i e1 e
  refine e02 (condS e) ?_;clear e;intro q e
  refine e12 (bindS e) ?_;clear e;intro items e2 e
  refine e02 (condS e) ?_;clear e;intro q2 e
  refine s2 e ?_;try clear e;intro Y0 Y1;subst Y0;subst Y1
  rw [AV.locS e1] at ho
  refine e12 (ho.locI) ?_;clear ho;intro a hi Y2;subst Y2
  rw [mname append_eq q]
  exact callPush_ok hi I e2 q2 run h
end
end
end
section
section
variable {T:Tabs}{w:World}{mean:ExcName→Option Value}{mg mb:Str→Option Value}{R:Recs}{n:Nat}{ρ:Rho}{X:FX}{D:Led}{st st':St}{s:Shared}
theorem Same.toks (s:Shared) (t:Nat):Same s {s with toks:=t}:=⟨rfl,rfl,rfl⟩
theorem room64 (hr:Room X n):X.A.units+64<cLine:=by have:=hr.2;show X.un+64<cLine;lia
theorem noMarks {op:CmpOp}{r:Expr} (h:marksNo op r=true):behindInMarks op r=false :=
 tS (P:=behindInMarks op r=false) (by cases r <;> first|exact rfl|exact trivial) h
theorem noMarks2 {op op':CmpOp}{r r':Expr} (h:marksNo op' r'=true):lastMarks [op,op'] [r,r']=false:=noMarks (op:=op') h
theorem Post.mono_toks {s':Shared}{av:AV}{Q:Value→Shared→Prop} (h:Post ρ X D s av st' Q) (t:Nat):Post ρ X D {s with toks:=t} av st' Q :=
 fun D' v s' le I V sm=>h D' v s' le I V ((Same.toks s t).trans sm)
theorem cmp1_ok (he:EvOk w mean mg mb R n) (hX:X.Ok w mean mg mb ρ) (hr:Room X n) {l r:Expr}{op:CmpOp}{av:AV}{Q:Value→Shared→Prop} (e:evCmp1 R X.cs st l op r=some (av,st')) (I:Inv ρ X D st s) (h:Post ρ X D s av st' Q) :
  behindInMarks op r=false∧wpAny (model pw w) X.A (eval l X.env) (fun a s₁=>wpAny (model pw w) X.A (eval r X.env) (fun b s₂=>wpAny (model pw w) X.A (compareOp op a b) Q F0 s₂) F0 s₁) F0 s:=by
 refine e02 (condS e) ?_;clear e;intro q e
 refine e12 (bindS e) ?_;clear e;intro p e1 e
 refine e12 (bindS e) ?_;clear e;intro u e2 e
 refine e12 (mapS e) ?_;clear e;intro v e3 e
 refine p2 e ?_;try clear e;intro Y0 Y1;subst Y0;subst Y1
 refine ⟨noMarks q,he _ _ _ _ _ e1 ρ X D s _ rfl hX hr I fun D₁ va s₁ le₁ I₁ V₁ sm₁=>he _ _ _ _ _ e2 ρ X D₁ s₁ _ rfl hX hr I₁ fun D₂ vb s₂ le₂ I₂ V₂ sm₂=>?_⟩
 refine e21 (id I₂) ?_;intro m P J
 exact cmpB_ok (room64 hr) J e3 (V₁.mono le₂) V₂ fun v V=>(h.step (le₁.trans le₂) (sm₁.trans sm₂)).now I₂ V
theorem truthy_ok {v:Value}{A:Around}{b:Bool}{Q:Bool→Shared→Prop} (hv:v=.bool b) (h:Q b s):wpAny (model pw w) A (truthy v) Q F0 s:=by
 subst hv
 exact wpAny_truthy_bool h
theorem cmp2_ok (he:EvOk w mean mg mb R n) (hX:X.Ok w mean mg mb ρ) (hr:Room X n) {l r r':Expr}{op op':CmpOp}{av:AV}{Q:Value→Shared→Prop}{Pf:Value→Shared→Prop} (e:evCmp2 R X.cs st l op op' r r'=some (av,st')) (I:Inv ρ X D st s) (h:Post ρ X D s av st' Q)
  (hf:∀ D' s',D.le D'→Inv ρ X D' st' s'→VR ρ D' av (.bool false)→Same s s'→Pf (.bool false) s') :
  lastMarks [op,op'] [r,r']=false∧wpAny (model pw w) X.A (eval l X.env) (fun a s₁=>wpAny (model pw w) X.A (eval r X.env) (fun b s₂=>wpAny (model pw w) X.A (compareOp op a b) (fun c s₃=>wpAny (model pw w) X.A (truthy c)
   (fun t s₄=>if t then wpAny (model pw w) X.A (eval r' X.env) (fun d s₅=>wpAny (model pw w) X.A (compareOp op' b d) Q F0 s₅) F0 s₄ else Pf c s₄) F0 s₃) F0 s₂) F0 s₁) F0 s:=by
 refine e02 (condS e) ?_;clear e;intro q e
 refine e12 (bindS e) ?_;clear e;intro p e1 e
 refine e12 (bindS e) ?_;clear e;intro u e2 e
 refine e12 (bindS e) ?_;clear e;intro v e3 e
 refine e12 (bindS e) ?_;clear e;intro b e4 e
 refine ⟨noMarks2 q,he _ _ _ _ _ e1 ρ X D s _ rfl hX hr I fun D₁ va s₁ le₁ I₁ V₁ sm₁=>he _ _ _ _ _ e2 ρ X D₁ s₁ _ rfl hX hr I₁ fun D₂ vb s₂ le₂ I₂ V₂ sm₂=>?_⟩
 refine e21 (id I₂) ?_;intro m P J
 refine cmpB_ok (room64 hr) J e3 (V₁.mono le₂) V₂ fun v V=>?_
 rw [AV.boolS e4] at V
 (have Y:=V.boolI;clear V;subst Y)
 refine wpAny_truthy_bool ?_
 cases b with
 | false=>(refine s2 e ?_;try clear e;intro Y0 Y1;subst Y0;subst Y1);exact hf _ _ (le₁.trans le₂) I₂ (.bool false) (sm₁.trans sm₂)
 | true =>
  refine e12 (bindS e) ?_;clear e;intro z e5 e
  refine e12 (mapS e) ?_;clear e;intro v e6 e
  refine p2 e ?_;try clear e;intro Y0 Y1;subst Y0;subst Y1
  refine he _ _ _ _ _ e5 ρ X D₂ s₂ _ rfl hX hr I₂ fun D₃ vc s₃ le₃ I₃ V₃ sm₃=>?_
  refine e21 (id I₃) ?_;intro m' P' J'
  exact cmpB_ok (room64 hr) J' e6 (V₂.mono le₃) V₃ fun v V=>(h.step ((le₁.trans le₂).trans le₃) ((sm₁.trans sm₂).trans sm₃)).now I₃ V
theorem sub_ok {i:Expr} (h:∀ a b c p,i≠.Slice a b c p) (o k:Value):subscripted i false o k=operate [o,k] (getItem o k):=by
 cases i <;> first|rfl|exact absurd rfl (h _ _ _ _)
theorem letGo_str (value:Expr) (x:Str) (t:Tok) (r:Value):letTemporaryGo value (.str x t) r=pure ():=by cases value <;> rfl
theorem slice_to {h d r:List Nat} (e:d=h++r):Txt.slice (S d) none (some (h.length:Int))=S h:=by
 subst e
 have hl:(h.length:Int)≤((h++r).length:Int):=by rw [List.length_append];lia
 have:=beq_iff_eq.mp (slice_closes_to (x:=S (h++r)) (j:=(h.length:Int)) ⟨by (exact Int.natCast_nonneg _),hl⟩)
 rw [this]
 simp
theorem slice_from {h d r:List Nat} (e:d=h++r):Txt.slice (S d) (some (h.length:Int)) none=S r:=by
 subst e
 have hl:(h.length:Int)≤((h++r).length:Int):=by rw [List.length_append];lia
 have:=slice_from_eq (x:=S (h++r)) (i:=(h.length:Int)) (b:=((h++r).length:Int)) (by (exact Int.natCast_nonneg _)) (by rw [S_len];exact hl) (by rw [S_len])
 rw [this]
 have e2:(((h++r).length:Int)-(h.length:Int)).toNat=r.length:=by rw [List.length_append];lia
 rw [e2]
 show S _=_
 simp
theorem idxI_ok {m:Nat}{i:Int}{j:Nat} (h:idxI m i=some j):i=(j:Int)∧j<m∧j<100000:=by
 cases i with
 | negSucc=>exact xNS h
 | ofNat k =>
  refine e02 (condS h) ?_;clear h;intro q h
  (have Y0:=s1 h;try clear h;subst Y0)
  have q:=andS q
  (exact (i03 rfl (zB q.1) (zB q.2)))
theorem seqIdx {j n:Nat} (h:j<n):seqIndex? (j:Int) n=some j:=by
 unfold seqIndex?
 simp
 lia
theorem attr_eval {v:Expr}{a:Str}{pos:Pos} (h:attrBase v=true) (env:Env):eval (.Attribute v a pos) env=(do
   let o ← eval v env
   standAt pos.atName
   let r ← holding [o] (getAttr o a true)
   letTemporaryGo v o r
   pure r):=by
 refine tS (P:=_) (b:=attrBase v) ?_ h
 cases v <;> first|exact trivial|(with_unfolding_all exact rfl)
theorem meth_base {o:Expr}{name:Str}{env:Env} (h:methBase o=true):attributeBase o name env (eval o env)=eval o env:=by
 refine tS (P:=_) (b:=methBase o) ?_ h
 cases o <;> first|exact trivial|exact rfl
theorem attr_ok (H:TabsOk w T) (hX:X.Ok w mean mg mb ρ) {C:Nat}{ns:List (List Nat)}{vs:List AV}{a:Str}{av:AV}{ov:Value}{Q:Value→Shared→Prop} (hp:hasPair T.attrs C a.cps.toList=true) (hf:fieldOf ns vs a.cps.toList=some av)
  (I:Inv ρ X D st s) (V:VR ρ D (.inst C ns vs) ov) (h:Post ρ X D s av st Q):wpAny (model pw w) X.A (getAttr ov a true) Q F0 s:=by
 refine e44 (V.instI) ?_;clear V;intro x dx es k hx hd hfs Y7;subst Y7
 refine e21 (id I) ?_;intro m P J
 refine e13 (hfs.get hf) ?_;clear hfs hf;intro v g1 g2 g3
 have q:=H.attrs _ _ hp
 unfold attrOk at q
 simp only [Bool.and_eq_true] at q
 obtain ⟨⟨q1,q2⟩,q3⟩:=q
 split at q3
 ·rename_i at_ e
  rw [S_key] at q1 e g1
  exact get_own J.F hX.K ⟨J.imm hx,rfl,rfl,J.imm hd⟩ q1 q2 e q3 g1 g2 (h.here I g3 _)
 ·exact xFT q3
theorem keep_ok (H:TabsOk w T) {cs:Scope}{x:Str}{f:Nat} (e:evFn T cs x=some (.top f)):keepIn (K w.params) (.ref f)=true:=by
 unfold evFn at e
 cases q:lnBeq x.cps.toList debugL with
 | true=>rw [q] at e;exact xNS e
 | false =>
  rw [q,cond_false] at e
  cases g:isGlobal cs x with
  | false=>rw [g] at e;exact xNS e
  | true=>rw [g,cond_true] at e;exact H.keep _ _ e
theorem evs_tail {cs:Scope}{a:Expr}{rest:List Expr}{r:List AV×St}{pos:Pos}{env:Env} (e:evs R cs st (a::rest)=some r):(backTo pos (starEach rest env)).any (·.1)=false :=
 let ⟨_,_,_,_,h,_⟩:=evs_cons e
 evs_star h
theorem callB_k {k:Nat}{l:List AV}{r:AV×St} (e:callB k l st=some r):k=0∨k=1∨k=2∨k=3:=by
 (refine zO (altS e) (fun qh=>e12 qh ?qa) (fun qh=>e02 qh ?qb);(case' qb=>clear e;intro _ e);(case' qa=>clear e;intro a _ e))
 ·(refine zO (cond2S e) (fun qh=>e02 qh ?qa0) (fun qh=>e02 qh ?qb0);(case' qb0=>clear e;intro _ e);(case' qa0=>intro q _))
  ·exact .inl (zE q)
  (refine zO (cond2S e) (fun qh=>e02 qh ?qa1) (fun qh=>e02 qh ?qb1);(case' qb1=>clear e;intro _ e);(case' qa1=>intro q _))
  ·exact .inr (.inl (zE q))
  ·exact .inr (.inr (.inl (zE (condS e).1)))
 (refine zO (altS e) (fun qh=>e12 qh ?qa2) (fun qh=>e02 qh ?qb2);(case' qb2=>clear e;intro _ e);(case' qa2=>clear e;intro a _ e))
 ·refine e12 (bindS e) ?_;clear e;intro _ _ e
  refine e12 (bindS e) ?_;clear e;intro _ _ e
  refine e12 (bindS e) ?_;clear e;intro _ _ e
  exact .inr (.inr (.inr (zE (andS (condS e).1).1)))
 ·refine e12 (bindS e) ?_;clear e;intro _ _ e
  refine e12 (bindS e) ?_;clear e;intro _ _ e
  refine e12 (bindS e) ?_;clear e;intro _ _ e
  refine e12 (bindS e) ?_;clear e;intro _ _ e
  exact .inr (.inr (.inl (zE (condS e).1)))
theorem pos_line {a b:Pos} (h:posLine a b=true):(a.endLine==b.line)=true:=by
 unfold posLine at h
 rw [zE h];exact beq_self_eq_true _
theorem dropK_ok {k:Nat}{x r:SE} (h:dropK k x=some r):∃ p:List Nat,p.length=k∧x.den ρ=p++r.den ρ:=by
 cases x with
 | lit l y =>
  refine e02 (condS h) ?_;clear h;intro q h
  (have Y0:=s1 h;try clear h;subst Y0)
  refine (i12 (l.take k) (by rw [List.length_take];exact Nat.min_eq_left (zB q)) ?_)
  rw [consLit_den,← List.append_assoc,List.take_append_drop];rfl
 | _=>exact xNS h
theorem takeK_ok {k:Nat}{x r:SE} (h:takeK k x=some r):(r.den ρ).length=k∧∃ y:List Nat,x.den ρ=r.den ρ++y:=by
 cases x with
 | lit l y =>
  refine e02 (condS h) ?_;clear h;intro q h
  (have Y0:=s1 h;try clear h;subst Y0)
  rw [SE.ofL_den]
  refine ⟨by rw [List.length_take];exact Nat.min_eq_left (zB q),l.drop k++y.den ρ,?_⟩
  rw [← List.append_assoc,List.take_append_drop];rfl
 | _=>exact xNS h
theorem innerK_ok {x r:SE} (h:innerK x=some r):∃ a b,x.den ρ=a::(r.den ρ++[b]):=by
 cases x with
 | lit l y=>cases l with
  | nil=>exact xNS h
  | cons a l =>
   refine e12 (mapS h) ?_;intro p e Y2;subst Y2
   have:=SE.unsnoc_ok (ρ:=ρ) (s:=consLit l y) (i:=p.1) (c:=p.2) e
   rw [consLit_den] at this
   (exact (i21 a p.2 (by show (a::l)++y.den ρ=_;rw [List.cons_append,this])))
 | _=>exact xNS h
theorem firstK_ok {x:SE}{c:Nat} (h:firstK x=some c):∃ r,x.den ρ=c::r:=by
 cases x with
 | lit l y=>cases l with
  | nil=>exact xNS h
  | cons a l=>(have Y0:=s1 h;try clear h;subst Y0);exact ⟨_,rfl⟩
 | _=>exact xNS h
theorem slice_inner {d r:List Nat}{a b:Nat} (e:d=a::(r++[b])):Txt.slice (S d) (some 1) (some (-1))=S r:=by
 subst e
 show StrLaws.sliceText _ _ _=_
 have hl:((a::(r++[b])).length:Int)=r.length+2:=by simp;lia
 have hl2:(S (a::(r++[b]))).length=r.length+2:=by rw [S_len];lia
 rw [StrLaws.sliceText_neg_hi _ _ (by decide) (by rw [hl2];lia)]
 rw [StrLaws.sliceText_plain (x:=S (a::(r++[b]))) ⟨by decide,by rw [hl2];lia,by show _≤((a::(r++[b])).length:Int);rw [hl,hl2];lia⟩]
 rw [hl2]
 have e2:(-1+((r.length+2:Nat):Int)-1).toNat=r.length:=by lia
 rw [e2]
 show S ((r++[b]).take r.length)=S r
 rw [List.take_left'];rfl
theorem const_ok {c:Const}{k:Nat}{pos:Pos}{av:AV}{Q:Value→Shared→Prop} (q:evConst c st=some (av,st')) (I:Inv ρ X D st s) (h:Post ρ X D s av st' Q):wpAny (model pw w) X.A (eval (.Constant c k pos) X.env) Q F0 s:=by
 cases c with
 | int i=>(refine s2 q ?_;try clear q;intro Y0 Y1;subst Y0;subst Y1);exact wpAny_Constant_int (h.here I (.int (.lit _) _) _)
 | str x =>
  refine s2 q ?_;try clear q;intro Y0 Y1;subst Y0;subst Y1
  refine Calls.Constant_str (h.here I ?_ _)
  have:=VR.str (ρ:=ρ) (D:=D) (SE.ofL x.cps.toList) s.toks
  rw [SE.ofL_den,S_key] at this
  exact this
 | bool b=>(refine s2 q ?_;try clear q;intro Y0 Y1;subst Y0;subst Y1);exact Constant_bool (h.now I (.bool _))
 | none=>(refine s2 q ?_;try clear q;intro Y0 Y1;subst Y0;subst Y1);exact Constant_none (h.now I .none)
 | _=>exact xNS q
section
variable (he:EvOk w mean mg mb R n) (hX:X.Ok w mean mg mb ρ) (hr:Room X n) {av:AV}{Q:Value→Shared→Prop}
include he hX hr
theorem un_ok {op:UnaryOp}{x:Expr}{pos:Pos} (q:evUn R X.cs st op x=some (av,st')) (I:Inv ρ X D st s) (h:Post ρ X D s av st' Q):wpAny (model pw w) X.A (eval (.UnaryOp op x pos) X.env) Q F0 s:=by
 cases op with
 | USub =>
  refine e12 (bindS q) ?_;clear q;intro p e1 q
  refine e12 (mapS q) ?_;clear q;intro a e2 q
  refine p2 q ?_;try clear q;intro Y0 Y1;subst Y0;subst Y1
  refine UnaryOp_ (he _ _ _ _ _ e1 ρ X D s _ rfl hX hr I fun D₁ va s₁ le₁ I₁ V₁ sm₁=>?_)
  rw [AV.intS e2] at V₁
  refine e11 (V₁.intI) ?_;intro t Y1;subst Y1
  exact PyProof.Rows.neg_int ((h.step le₁ sm₁).here I₁ (by rw [← mkNeg_den];exact .int _ _) _)
 | Not =>
  refine e12 (bindS q) ?_;clear q;intro p e1 q
  (refine zO (altS q) (fun qh=>e12 qh ?qa) (fun qh=>e02 qh ?qb);(case' qb=>clear q;intro _ q);(case' qa=>clear q;intro b e2 q))
  ·refine s2 q ?_;try clear q;intro Y0 Y1;subst Y0;subst Y1
   refine UnaryOp_ (he _ _ _ _ _ e1 ρ X D s _ rfl hX hr I fun D₁ va s₁ le₁ I₁ V₁ sm₁=>?_)
   rw [AV.boolS e2] at V₁
   (have Y:=V₁.boolI;clear V₁;subst Y)
   exact not_of (wpAny_truthy_bool ((h.step le₁ sm₁).now I₁ (.bool _)))
  ·refine e12 (mapS q) ?_;clear q;intro c e2 q
   refine p2 q ?_;try clear q;intro Y0 Y1;subst Y0;subst Y1
   refine UnaryOp_ (he _ _ _ _ _ e1 ρ X D s _ rfl hX hr I fun D₁ va s₁ le₁ I₁ V₁ sm₁=>?_)
   rw [AV.bexpS e2] at V₁
   (have Y:=V₁.bexpI;clear V₁;subst Y)
   exact not_of (wpAny_truthy_bool ((h.step le₁ sm₁).now I₁ (.bexp (.not c))))
 | _=>exact xNS q
theorem cmp_okE {l:Expr}{ops:List CmpOp}{rs:List Expr}{pos:Pos} (q:evCmp R X.cs st l ops rs=some (av,st')) (I:Inv ρ X D st s) (h:Post ρ X D s av st' Q):wpAny (model pw w) X.A (eval (.Compare l ops rs pos) X.env) Q F0 s:=by
 (refine zO (altS q) (fun qh=>e12 qh ?qa) (fun qh=>e02 qh ?qb);(case' qb=>clear q;intro _ q);(case' qa=>clear q;intro op e1 q))
 ·refine e12 (bindS q) ?_;clear q;intro r e2 q
  rw [oneS e1,oneS e2]
  refine e02 (cmp1_ok he hX hr q I h) ?_;intro hm g
  exact wpAny_Compare1 g hm
 ·refine e12 (bindS q) ?_;clear q;intro op e1 q
  refine e12 (bindS q) ?_;clear q;intro r e2 q
  rw [twoS e1,twoS e2]
  refine e02 (cmp2_ok he hX hr q I h fun D' s' le I' V sm=>(h.step le sm).now I' V) ?_;clear he hX hr q;intro hm g
  refine Compare_chain (wpAny_mono g (fun a s₁ h₁=>chain_link (wpAny_mono h₁ (fun b s₂ h₂=>wpAny_mono h₂ (fun c s₃ h₃=>wpAny_mono h₃ (fun t s₄ h₄=>?_) fun _ _ x=>x) fun _ _ x=>x) fun _ _ x=>x)) fun _ _ x=>x) hm
  cases t with
  | true=>exact chain_last h₄
  | false=>exact h₄
theorem bool_ok {op:BoolOp}{es:List Expr}{pos:Pos} (q:evBool R X.cs st op pos es=some (av,st')) (I:Inv ρ X D st s) (h:Post ρ X D s av st' Q):wpAny (model pw w) X.A (eval (.BoolOp op es pos) X.env) Q F0 s:=by
 cases es with
 | nil=>exact xNS q
 | cons e r=>cases r with
  | nil=>exact BoolOp_one (he _ _ _ _ _ q ρ X D s _ rfl hX hr I h)
  | cons e₂ r =>
   refine e12 (bindS q) ?_;clear q;intro p e1 q
   refine e12 (bindS q) ?_;clear q;intro b e2 q
   have run:∀ Q':Value→Shared→Prop,(∀ D' s',D.le D'→Inv ρ X D' p.2 s'→Same s s'→Q' (.bool b) s')→wpAny (model pw w) X.A (eval e X.env) Q' F0 s:=fun Q' h' =>
    he _ _ _ _ _ e1 ρ X D s _ rfl hX hr I fun D₁ va s₁ le₁ I₁ V₁ sm₁=>by
     rw [AV.boolS e2] at V₁
     (have Y:=V₁.boolI;clear V₁;subst Y)
     exact h' D₁ s₁ le₁ I₁ sm₁
   have go:∀ D₁ s₁,D.le D₁→Inv ρ X D₁ p.2 s₁→Same s s₁→bif beqB b (isAnd op) then wpAny (model pw w) X.A (eval (.BoolOp op (e₂::r) pos) X.env) Q F0 s₁ else Q (.bool b) s₁:=fun D₁ s₁ le₁ I₁ sm₁=>by
    (refine zO (cond2S q) (fun qh=>e02 qh ?qa) (fun qh=>e02 qh ?qb);(case' qb=>clear q;intro z q);(case' qa=>clear q;intro z q))
    ·rw [z];exact he _ _ _ _ _ q ρ X D₁ s₁ _ rfl hX hr I₁ (h.step le₁ sm₁)
    ·rw [z];(refine s2 q ?_;try clear q;intro Y0 Y1;subst Y0;subst Y1);exact (h.step le₁ sm₁).now I₁ (.bool _)
   cases op with
   | And =>
    refine BoolOp_and (run _ fun D₁ s₁ le₁ I₁ sm₁=>wpAny_truthy_bool ?_)
    have:=go D₁ s₁ le₁ I₁ sm₁
    cases b <;> exact this
   | Or =>
    refine BoolOp_or (run _ fun D₁ s₁ le₁ I₁ sm₁=>wpAny_truthy_bool ?_)
    have:=go D₁ s₁ le₁ I₁ sm₁
    cases b <;> exact this
end
section
variable {av:AV}{Q:Value→Shared→Prop}{x r:SE}{t u u':Tok}{v sl:Expr}{pos:Pos}{i j:Int}
theorem sl_sn (hs:∀ o k t,subscripted sl false (.str o t) (.ref k)=operate [.ref k,.str o t] (getItem (.str o t) (.ref k))) (I:Inv ρ X D st s) (hb:Nat.ble x.bound 100000=true) (hx:Txt.slice (S (x.den ρ)) (some i) Option.none=S (r.den ρ)) (h:Post ρ X D s (.str r) st Q) :
  wpAny (model pw w) X.A (subscriptTail v sl (.str (S (x.den ρ)) t) (.ref s.heap.objs.size)) Q F0 {s with heap:=s.heap.push {cls:=.type "slice",data:=.fields #[.int i u,.none,.none]}}:=by
 refine e21 (I) ?_;clear I;intro m P J
 refine slice_strN_sn J.F J.N (fun h' t' k F' N'=>?_) (hs _ _ _) (letGo_str _ _ _) (den_size hb (by decide))
 rw [hx]
 exact h D _ _ (Led.le.refl D) ⟨m,P,{J with F:=F',N:=N'}⟩ (.str _ _) ⟨rfl,rfl,rfl⟩
theorem sl_ns (hs:∀ o k t,subscripted sl false (.str o t) (.ref k)=operate [.ref k,.str o t] (getItem (.str o t) (.ref k))) (I:Inv ρ X D st s) (hb:Nat.ble x.bound 100000=true) (hx:Txt.slice (S (x.den ρ)) Option.none (some i)=S (r.den ρ)) (h:Post ρ X D s (.str r) st Q) :
  wpAny (model pw w) X.A (subscriptTail v sl (.str (S (x.den ρ)) t) (.ref s.heap.objs.size)) Q F0 {s with heap:=s.heap.push {cls:=.type "slice",data:=.fields #[.none,.int i u,.none]}}:=by
 refine e21 (I) ?_;clear I;intro m P J
 refine slice_strN_ns J.F J.N (fun h' t' k F' N'=>?_) (hs _ _ _) (letGo_str _ _ _) (den_size hb (by decide))
 rw [hx]
 exact h D _ _ (Led.le.refl D) ⟨m,P,{J with F:=F',N:=N'}⟩ (.str _ _) ⟨rfl,rfl,rfl⟩
theorem sl_ss (hs:∀ o k t,subscripted sl false (.str o t) (.ref k)=operate [.ref k,.str o t] (getItem (.str o t) (.ref k))) (I:Inv ρ X D st s) (hb:Nat.ble x.bound 100000=true) (hx:Txt.slice (S (x.den ρ)) (some i) (some j)=S (r.den ρ)) (h:Post ρ X D s (.str r) st Q) :
  wpAny (model pw w) X.A (subscriptTail v sl (.str (S (x.den ρ)) t) (.ref s.heap.objs.size)) Q F0 {s with heap:=s.heap.push {cls:=.type "slice",data:=.fields #[.int i u,.int j u',.none]}}:=by
 refine e21 (I) ?_;clear I;intro m P J
 refine slice_strN_ss J.F J.N (fun h' t' k F' N'=>?_) (hs _ _ _) (letGo_str _ _ _) (den_size hb (by decide))
 rw [hx]
 exact h D _ _ (Led.le.refl D) ⟨m,P,{J with F:=F',N:=N'}⟩ (.str _ _) ⟨rfl,rfl,rfl⟩
theorem litN {p:AV}{k:Nat}{u:Value} (e:p.lit?.bind natOf=some k) (V:VR ρ D p u):∃ t,u=.int (k:Int) t:=by
 refine e12 (bindS e) ?_;clear e;intro i h1 h2
 rw [← natS h2];exact litI h1 V
variable (he:EvOk w mean mg mb R n) (hX:X.Ok w mean mg mb ρ) (hr:Room X n)
include he hX hr
theorem from_ok {lo:Expr} (hb:Nat.ble x.bound 100000=true) (q:sliceFrom R X.cs st x lo=some (av,st')) (I:Inv ρ X D st s) (h:Post ρ X D s av st' Q) :
  wpAny (model pw w) X.A (eval (.Slice (some lo) Option.none Option.none pos) X.env) (fun l s'=>wpAny (model pw w) X.A (subscriptTail v (.Slice (some lo) Option.none Option.none pos) (.str (S (x.den ρ)) t) l) Q F0 s') F0 s:=by
 refine e12 (bindS q) ?_;clear q;intro p e1 q
 refine wpAny_Slice (wpAny_evalPart_some (he _ _ _ _ _ e1 ρ X D s _ rfl hX hr I fun D₁ u s₁ le₁ I₁ V₁ sm₁=>wpAny_evalPart_none (wpAny_evalPart_none ?_)))
 (refine zO (altS q) (fun qh=>e12 qh ?qa) (fun qh=>e02 qh ?qb);(case' qb=>clear q;intro _ q);(case' qa=>clear q;intro hh e2 q))
 ·refine e12 (mapS q) ?_;clear q;intro r e3 q
  refine p2 q ?_;try clear q;intro Y0 Y1;subst Y0;subst Y1
  rw [AV.slenS e2] at V₁
  refine e11 (V₁.slenI) ?_;intro t' Y1;subst Y1
  exact sl_sn (fun _ _ _=>rfl) I₁ hb (slice_from (SE.cut_ok e3)) (h.step le₁ sm₁)
 ·refine e12 (bindS q) ?_;clear q;intro k e2 q
  refine e12 (mapS q) ?_;clear q;intro r e3 q
  refine p2 q ?_;try clear q;intro Y0 Y1;subst Y0;subst Y1
  refine e11 (litN e2 V₁) ?_;clear e2 V₁;intro t' Y1;subst Y1
  refine e12 (dropK_ok (ρ:=ρ) e3) ?_;clear e3;intro y hy hx
  exact sl_sn (fun _ _ _=>rfl) I₁ hb (by rw [← hy];exact slice_from hx) (h.step le₁ sm₁)
theorem to_ok {hi:Expr} (hb:Nat.ble x.bound 100000=true) (q:sliceTo R X.cs st x hi=some (av,st')) (I:Inv ρ X D st s) (h:Post ρ X D s av st' Q) :
  wpAny (model pw w) X.A (eval (.Slice Option.none (some hi) Option.none pos) X.env) (fun l s'=>wpAny (model pw w) X.A (subscriptTail v (.Slice Option.none (some hi) Option.none pos) (.str (S (x.den ρ)) t) l) Q F0 s') F0 s:=by
 refine e12 (bindS q) ?_;clear q;intro p e1 q
 refine wpAny_Slice (wpAny_evalPart_none (wpAny_evalPart_some (he _ _ _ _ _ e1 ρ X D s _ rfl hX hr I fun D₁ u s₁ le₁ I₁ V₁ sm₁=>wpAny_evalPart_none ?_)))
 (refine zO (altS q) (fun qh=>e12 qh ?qa) (fun qh=>e02 qh ?qb);(case' qb=>clear q;intro _ q);(case' qa=>clear q;intro hh e2 q))
 ·refine e12 (mapS q) ?_;clear q;intro r e3 q
  refine p2 q ?_;try clear q;intro Y0 Y1;subst Y0;subst Y1
  rw [AV.slenS e2] at V₁
  refine e11 (V₁.slenI) ?_;intro t' Y1;subst Y1
  exact sl_ns (fun _ _ _=>rfl) I₁ hb (slice_to (SE.cut_ok e3)) (h.step le₁ sm₁)
 ·refine e12 (bindS q) ?_;clear q;intro k e2 q
  refine e12 (mapS q) ?_;clear q;intro r e3 q
  refine p2 q ?_;try clear q;intro Y0 Y1;subst Y0;subst Y1
  refine e11 (litN e2 V₁) ?_;clear e2 V₁;intro t' Y1;subst Y1
  obtain ⟨hy,y,hx⟩:=takeK_ok (ρ:=ρ) e3
  exact sl_ns (fun _ _ _=>rfl) I₁ hb (by rw [← hy];exact slice_to hx) (h.step le₁ sm₁)
theorem in_ok {lo hi:Expr} (hb:Nat.ble x.bound 100000=true) (q:sliceIn R X.cs st x lo hi=some (av,st')) (I:Inv ρ X D st s) (h:Post ρ X D s av st' Q) :
  wpAny (model pw w) X.A (eval (.Slice (some lo) (some hi) Option.none pos) X.env) (fun l s'=>wpAny (model pw w) X.A (subscriptTail v (.Slice (some lo) (some hi) Option.none pos) (.str (S (x.den ρ)) t) l) Q F0 s') F0 s:=by
 refine e12 (bindS q) ?_;clear q;intro p e1 q
 refine e12 (bindS q) ?_;clear q;intro p' e2 q
 refine e12 (bindS q) ?_;clear q;intro i e3 q
 refine e12 (bindS q) ?_;clear q;intro j e4 q
 refine e02 (condS q) ?_;clear q;intro z q
 refine e12 (mapS q) ?_;clear q;intro r e5 q
 refine p2 q ?_;try clear q;intro Y0 Y1;subst Y0;subst Y1
 have z:=andS z
 refine wpAny_Slice (wpAny_evalPart_some (he _ _ _ _ _ e1 ρ X D s _ rfl hX hr I fun D₁ u s₁ le₁ I₁ V₁ sm₁=>wpAny_evalPart_some (he _ _ _ _ _ e2 ρ X D₁ s₁ _ rfl hX hr I₁ fun D₂ u' s₂ le₂ I₂ V₂ sm₂=>wpAny_evalPart_none ?_)))
 rw [(eqB_iff _ _).mp z.1] at e3
 rw [(eqB_iff _ _).mp z.2] at e4
 refine e11 (litI e3 V₁) ?_;clear e3 V₁;intro t' Y1;subst Y1
 refine e11 (litI e4 V₂) ?_;clear e4 V₂;intro t'' Y1;subst Y1
 refine e21 (innerK_ok (ρ:=ρ) e5) ?_;clear e5;intro a b hx
 exact sl_ss (fun _ _ _=>rfl) I₂ hb (slice_inner hx) (h.step (le₁.trans le₂) (sm₁.trans sm₂))
theorem slice_ok {i:Expr}{sp:Option Expr×Option Expr×Option Expr} (hi:sliceP i=some sp) (q:evSlice R X.cs st v sp=some (av,st')) (I:Inv ρ X D st s) (h:Post ρ X D s av st' Q):wpAny (model pw w) X.A (eval (.Subscript v i pos) X.env) Q F0 s:=by
 refine e11 (sliceS hi) ?_;clear hi;intro p0 Y1;subst Y1
 obtain ⟨lo,up,stp⟩:=sp
 refine e02 (condS q) ?_;clear q;intro z q
 obtain rfl:=Option.isNone_iff_eq_none.mp z
 refine e12 (bindS q) ?_;clear q;intro p e1 q
 refine e12 (bindS q) ?_;clear q;intro x e2 q
 refine e02 (condS q) ?_;clear q;intro hb q
 refine Subscript_ (he _ _ _ _ _ e1 ρ X D s _ rfl hX hr I fun D₁ va s₁ le₁ I₁ V₁ sm₁=>?_)
 rw [AV.strS e2] at V₁
 refine e11 (V₁.strI) ?_;clear V₁;intro t Y1;subst Y1
 cases lo with
 | some lo=>cases up with
  | some up=>exact in_ok he hX hr hb q I₁ (h.step le₁ sm₁)
  | none=>exact from_ok he hX hr hb q I₁ (h.step le₁ sm₁)
 | none=>cases up with
  | some up=>exact to_ok he hX hr hb q I₁ (h.step le₁ sm₁)
  | none=>exact xNS q
end
theorem nthK_ok {l:List AV}{b r:AV}{u:Value} (e:nthK l b=some r) (V:VR ρ D b u):∃ j t,u=.int (j:Nat) t∧j<l.length∧j<100000∧l[j]?=some r:=by
 refine e12 (bindS e) ?_;clear e;intro k e1 e'
 refine e12 (bindS e') ?_;clear e';intro j e2 e3
 refine e11 (litI e1 V) ?_;clear e1 V;intro t Y1;subst Y1
 refine e03 (idxI_ok e2) ?_;clear e2;intro Y0 h1 h2;subst Y0
 (exact (i24 j t rfl h1 h2 e3))
theorem digit16:∀ k:Nat,k<16→figsL[k]?=some (digit k):=by decide
theorem litIs {e:IE}{k:Int} (h:optB e.lit? (eqB k)=true):e.den ρ=k:=by
 refine e12 (optBS h) ?_;clear h;intro i h1 h2
 rw [IE.litS h1,(eqB_iff _ _).mp h2];rfl
section
variable {av:AV}{Q:Value→Shared→Prop}{v i:Expr}
theorem item_fig {x:SE}{e:IE}{t u:Tok} (hX:X.Ok w mean mg mb ρ) (hs:∀ o k,subscripted i false o k=operate [o,k] (getItem o k)) (hx:isFigs x=true) (hb:e.within 0 15=true) (I:Inv ρ X D st s) (h:Post ρ X D s (.str (.fn 3 1 e .nil)) st Q) :
  wpAny (model pw w) X.A (subscriptTail v i (.str (S (x.den ρ)) t) (.int (e.den ρ) u)) Q F0 s:=by
 refine e12 (optBS hx) ?_;clear hx;intro l hl hf
 rw [SE.lit?_den hl,← lnBeq_eq hf]
 refine e02 (IE.within_ok (ρ:=ρ) hb) ?_;clear hb;intro b1 b2
 have V:=VR.str (ρ:=ρ) (D:=D) (.fn 3 1 e .nil) s.toks
 rw [show (SE.fn 3 1 e .nil).den ρ=[digit (e.den ρ).toNat] by simp only [SE.den,hX.sym.2.1,digitL];rfl] at V
 generalize e.den ρ=z at *
 refine e11 (Int.eq_ofNat_of_zero_le b1) ?_;clear b1;intro k Y1;subst Y1
 have hk:k<16:=by lia
 refine tail_any (T:="str") (typeIs_str _ _ _) F.slot_str_getitem.lookup (PyProof.Rows.getItem_str (c:=digit k) ?_ ?_ (h.here I V _)) (hs _ _)
 ·have a1:decide ((k:Int) < -(2 ^ 63:Int))=false:=decide_eq_false (by lia)
  have a2:decide ((k:Int) ≥ 2 ^ 63)=false:=decide_eq_false (by lia)
  rw [a1,a2];rfl
 ·rw [S_len]
  show (seqIndex? (k:Int) 16).bind _=_
  rw [seqIdx hk]
  have:=digit16 k hk
  simpa using this
theorem itemS_ok {x:SE}{e:IE}{t u:Tok} (hX:X.Ok w mean mg mb ρ) (hs:∀ o k,subscripted i false o k=operate [o,k] (getItem o k)) (q:itemS x e st=some (av,st')) (I:Inv ρ X D st s) (h:Post ρ X D s av st' Q) :
  wpAny (model pw w) X.A (subscriptTail v i (.str (S (x.den ρ)) t) (.int (e.den ρ) u)) Q F0 s:=by
 (refine zO (cond2S q) (fun qh=>e02 qh ?qa) (fun qh=>e02 qh ?qb);(case' qb=>clear q;intro _ q);(case' qa=>clear q;intro z q))
 ·refine e12 (mapS q) ?_;intro c q1 q2
  refine p2 q2 ?_;try clear q2;intro Y0 Y1;subst Y0;subst Y1
  rw [litIs (ρ:=ρ) z]
  refine e11 (firstK_ok (ρ:=ρ) q1) ?_;intro r hx
  rw [hx]
  refine tail_any (T:="str") (typeIs_str _ _ _) F.slot_str_getitem.lookup (PyProof.Rows.getItem_str (c:=c) (by rfl) ?_ (h.here I (.str (.lit [c] .nil) _) _)) (hs _ _)
  rw [S_len]
  show (seqIndex? ((0:Nat):Int) _).bind _=_
  rw [seqIdx (by simp)];simp
 (refine zO (cond2S q) (fun qh=>e02 qh ?qa3) (fun qh=>e02 qh ?qb3);(case' qb3=>clear q;intro _ q);(case' qa3=>clear q;intro z q))
 ·refine e12 (mapS q) ?_;intro p q1 q2
  refine p2 q2 ?_;try clear q2;intro Y0 Y1;subst Y0;subst Y1
  rw [litIs (ρ:=ρ) z]
  rw [SE.unsnoc_ok (ρ:=ρ) (s:=x) (i:=p.1) (c:=p.2) q1]
  refine tail_any (T:="str") (typeIs_str _ _ _) F.slot_str_getitem.lookup (PyProof.Rows.getItem_str (c:=p.2) (by rfl) ?_ (h.here I (.str (.lit [p.2] .nil) _) _)) (hs _ _)
  refine StrLaws.at_neg (show (-1:Int)<0 by decide) (by rw [S_len];show -_≤(-1:Int);simp;lia) ?_
  rw [S_len]
  show (S _).cps[(-1+_:Int).toNat]?=_
  have:(-1+((p.1.den ρ++[p.2]).length:Int)).toNat=(p.1.den ρ).length:=by simp;lia
  rw [this];simp
 ·refine e02 (condS q) ?_;clear q;intro z q
  refine s2 q ?_;try clear q;intro Y0 Y1;subst Y0;subst Y1
  exact item_fig hX hs (andS z).1 (andS z).2 I h
theorem item_ok {a b:AV}{o k:Value} (hX:X.Ok w mean mg mb ρ) (hs:∀ o k,subscripted i false o k=operate [o,k] (getItem o k)) (q:itemOf a b st=some (av,st')) (I:Inv ρ X D st s) (Va:VR ρ D a o) (Vb:VR ρ D b k) (h:Post ρ X D s av st' Q) :
  wpAny (model pw w) X.A (subscriptTail v i o k) Q F0 s:=by
 refine e21 (id I) ?_;intro m P J
 (refine zO (altS q) (fun qh=>e12 qh ?qa) (fun qh=>e02 qh ?qb);(case' qb=>clear q;intro _ q);(case' qa=>clear q;intro l e1 q))
 ·refine e12 (mapS q) ?_;clear q;intro r e2 q
  refine p2 q ?_;try clear q;intro Y0 Y1;subst Y0;subst Y1
  rw [AV.tupS e1] at Va
  refine e33 (Va.tupI) ?_;intro vs p kk hm hvs Y5;subst Y5
  refine e24 (nthK_ok e2 Vb) ?_;intro j t Y2 hj hj' e3;subst Y2
  refine e12 (hvs.get e3) ?_;intro u g1 g2
  have hg:=J.imm hm
  refine tail_any (T:="tuple") ⟨_,hg,rfl⟩ slot_tuple_getitem.lookup (PyProof.Rows.getItem_tuple (k:=(j:Int)) (j:=j) ⟨_,hg,rfl,_,rfl⟩ (by (exact Int.natCast_nonneg _)) (by lia) ?_ ?_ (h.now I g2)) (hs _ _)
  ·rw [List.size_toArray,← hvs.length];exact seqIdx hj
  ·simpa using g1
 (refine zO (altS q) (fun qh=>e12 qh ?qa4) (fun qh=>e02 qh ?qb4);(case' qb4=>clear q;intro _ q);(case' qa4=>clear q;intro n₁ e1 q))
 ·refine e12 (bindS q) ?_;clear q;intro l e0 q
  refine e12 (mapS q) ?_;clear q;intro r e2 q
  refine p2 q ?_;try clear q;intro Y0 Y1;subst Y0;subst Y1
  rw [AV.locS e1] at Va
  refine e12 (Va.locI) ?_;intro p hi Y2;subst Y2
  refine e24 (nthK_ok e2 Vb) ?_;intro j t Y2 hj hj' e3;subst Y2
  refine e23 (J.lad_get e0 hi) ?_;clear J e0 hi;intro vs k _ hvs hg
  refine e12 (hvs.get e3) ?_;clear hvs e3;intro u g1 g2
  exact tail_any (T:="list") ⟨_,hg,rfl⟩ slot_list_getitem.lookup (wpAny_getItem_list (k:=(j:Int)) ⟨_,hg,rfl,_,rfl⟩ (by (exact Int.natCast_nonneg _)) (by lia) (by simpa using g1) (h.now I g2)) (hs _ _)
 ·refine e12 (bindS q) ?_;clear q;intro x e1 q
  refine e12 (bindS q) ?_;clear q;intro e e2 q
  rw [AV.strS e1] at Va
  rw [AV.intS e2] at Vb
  refine e11 (Va.strI) ?_;clear Va;intro t Y1;subst Y1
  refine e11 (Vb.intI) ?_;clear Vb;intro u Y1;subst Y1
  exact itemS_ok hX hs q I h
end
theorem kept (I:Inv ρ X D st s):∀ b o,X.h₀.get? b=some o→s.heap.get? b=some o:=let ⟨_,_,J⟩:=I;J.F.keep
section
variable (H:TabsOk w T) (he:EvOk w mean mg mb R n) (hc:CallsOk w mean mg mb R n) (hX:X.Ok w mean mg mb ρ) (hr:Room X n) {av:AV}{Q:Value→Shared→Prop}
include H he hc hX hr
theorem callN_ok {x:Str}{px pos:Pos}{args:List Expr} (q:callN T R X.cs st x args=some (av,st')) (I:Inv ρ X D st s) (h:Post ρ X D s av st' Q):wpAny (model pw w) X.A (eval (.Call (.Name x px) args [] pos) X.env) Q F0 s:=by
 refine e12 (bindS q) ?_;clear q;intro fa e1 q
 refine e12 (bindS q) ?_;clear q;intro p e2 q
 refine Call_ (fn_ok H hX e1 I fun D₁ fv s₁ le₁ I₁ V₁ sm₁=>?_)
 (refine zO (altS q) (fun qh=>e12 qh ?qa) (fun qh=>e02 qh ?qb);(case' qb=>clear q;intro _ q);(case' qa=>clear q;intro f e3 q))
 ·refine e12 (mapS q) ?_;clear q;intro r e4 q
  cases q
  rw [AV.topS e3] at V₁ e1
  have V₁':=V₁
  (have Y:=V₁.topI;clear V₁;subst Y)
  cases args with
  | nil =>
   cases e2
   exact callWith_K0 (hX.K.keeps (kept I₁)) (keep_ok H e1) (hc _ _ _ _ _ e4 ρ X D₁ st.loc s₁ [] _ _ hX hr I₁ V₁' .nil (h.step le₁ sm₁))
  | cons a rest =>
   refine callWith_K hX.K (keep_ok H e1) (evs_ok he hX hr e2 I₁ fun D₂ vs s₂ le₂ I₂ V₂ sm₂=>⟨hX.K.keeps (kept I₂),?_⟩) (star_one (evs_cons e2).1 _ _) (evs_tail e2)
   exact hc _ _ _ _ _ e4 ρ X D₂ p.2.loc s₂ vs _ _ hX hr I₂ (V₁'.mono le₂) V₂ (h.step (le₁.trans le₂) (sm₁.trans sm₂))
 ·refine e12 (bindS q) ?_;intro k e3 q9
  clear q
  rw [AV.biS e3] at V₁
  (have Y:=V₁.biI;clear V₁;subst Y)
  cases args with
  | nil =>
   cases e2
   (refine zO (altS q9) (fun qh=>e12 qh ?qa5) (fun qh=>e02 qh ?qb5);(case' qb5=>clear q9;intro _ q9);(case' qa5=>intro _ z _))
   ·cases z
   (refine zO (altS q9) (fun qh=>e12 qh ?qa6) (fun qh=>e02 qh ?qb6);(case' qb6=>clear q9;intro _ q9);(case' qa6=>intro _ z _))
   ·cases z
   ·(refine e12 (bindS q9) ?_;intro _ z _);cases z
  | cons a rest =>
   have hs:starEach (a::rest) X.env=(false,eval a X.env)::starEach rest X.env:=star_one (evs_cons e2).1 _ _
   have run:wpAny (model pw w) X.A (spliced (backTo pos (starEach (a::rest) X.env))) (fun vs s₂=>wpAny (model pw w) X.A (call (biV k) vs) Q F0 s₂) F0 s₁ :=
    evs_ok he hX hr e2 I₁ fun D₂ vs s₂ le₂ I₂ V₂ sm₂=>callB_ok hX q9 I₂ V₂ (h.step (le₁.trans le₂) (sm₁.trans sm₂))
   rcases callB_k q9 with rfl|rfl|rfl|rfl
   ·exact callWith_builtin1 run hs (evs_tail e2)
   ·exact callWith_type1 run hs (evs_tail e2)
   ·exact callWith_type1 run hs (evs_tail e2)
   ·exact callWith_type1 run hs (evs_tail e2)
omit H hc in
theorem callA_ok {o:Expr}{m:Str}{apos pos:Pos}{args:List Expr} (q:callA R X.cs st o m apos args pos=some (av,st')) (I:Inv ρ X D st s) (h:Post ρ X D s av st' Q):wpAny (model pw w) X.A (eval (.Call (.Attribute o m apos) args [] pos) X.env) Q F0 s:=by
 refine e02 (condS q) ?_;clear q;intro hb q
 have hb:=andS hb
 refine e12 (bindS q) ?_;clear q;intro p e1 q
 (refine zO (cond2S q) (fun qh=>e02 qh ?qa) (fun qh=>e02 qh ?qb);(case' qb=>clear q;intro _ q);(case' qa=>clear q;intro z q))
 ·obtain rfl:=List.isEmpty_iff.mp z
  exact Call_method0 (meth_base hb.1) (pos_line hb.2) (he _ _ _ _ _ e1 ρ X D s _ rfl hX hr I fun D₁ va s₁ le₁ I₁ V₁ sm₁=>callM0_ok q I₁ V₁ (h.step le₁ sm₁))
 ·refine e12 (bindS q) ?_;clear q;intro e e2 q
  (refine zO (cond2S q) (fun qh=>e02 qh ?qa7) (fun qh=>e02 qh ?qb7);(case' qb7=>clear q;intro hst q);(case' qa7=>clear q;intro _ q))
  ·exact xNS q
  refine e12 (bindS q) ?_;clear q;intro u e3 q
  rw [oneS e2]
  exact Call_method1 (meth_base hb.1) (star_one hst _ _) (pos_line hb.2) (he _ _ _ _ _ e1 ρ X D s _ rfl hX hr I fun D₁ va s₁ le₁ I₁ V₁ sm₁ =>
   callM1_ok hX q I₁ V₁ (fun Q' h'=>he _ _ _ _ _ e3 ρ X D₁ s₁ _ rfl hX hr I₁ h') (h.step le₁ sm₁))
theorem call_ok {f:Expr}{args:List Expr}{kws:List Keyword}{pos:Pos} (q:evCall T R X.cs st f args kws pos=some (av,st')) (I:Inv ρ X D st s) (h:Post ρ X D s av st' Q):wpAny (model pw w) X.A (eval (.Call f args kws pos) X.env) Q F0 s:=by
 refine e02 (condS q) ?_;clear q;intro z q
 obtain rfl:=List.isEmpty_iff.mp z
 (refine zO (altS q) (fun qh=>e12 qh ?qa) (fun qh=>e02 qh ?qb);(case' qb=>clear q;intro _ q);(case' qa=>clear q;intro x e1 q))
 ·refine e11 (nameS e1) ?_;intro px Y1;subst Y1
  exact callN_ok H he hc hX hr q I h
 ·refine e12 (bindS q) ?_;clear q;intro o e1 q
  rw [attrS e1]
  exact callA_ok he hX hr q I h
omit hc in
theorem attrE_ok {v:Expr}{a:Str}{pos:Pos} (q:evAttr T R X.cs st v a=some (av,st')) (I:Inv ρ X D st s) (h:Post ρ X D s av st' Q):wpAny (model pw w) X.A (eval (.Attribute v a pos) X.env) Q F0 s:=by
 refine e02 (condS q) ?_;clear q;intro hb q
 refine e12 (bindS q) ?_;clear q;intro p e1 q
 refine e12 (bindS q) ?_;clear q;intro i e2 q
 refine e02 (condS q) ?_;clear q;intro hp q
 refine e12 (mapS q) ?_;clear q;intro r e3 q
 refine p2 q ?_;try clear q;intro Y0 Y1;subst Y0;subst Y1
 refine Attribute_any_ (he _ _ _ _ _ e1 ρ X D s _ rfl hX hr I fun D₁ va s₁ le₁ I₁ V₁ sm₁=>?_) (attr_eval hb X.env)
 rw [AV.instS e2] at V₁
 exact attr_ok H hX hp e3 I₁ V₁ (h.step le₁ sm₁)
omit H hc in
theorem subE_ok {v i:Expr}{pos:Pos} (q:evSub R X.cs st v i=some (av,st')) (I:Inv ρ X D st s) (h:Post ρ X D s av st' Q):wpAny (model pw w) X.A (eval (.Subscript v i pos) X.env) Q F0 s:=by
 (refine zO (altS q) (fun qh=>e12 qh ?qa) (fun qh=>e02 qh ?qb);(case' qb=>clear q;intro e1 q);(case' qa=>clear q;intro sp e1 q))
 ·exact slice_ok he hX hr e1 q I h
 ·refine e12 (bindS q) ?_;clear q;intro p e2 q
  refine e12 (bindS q) ?_;clear q;intro u e3 q
  exact Subscript_ (he _ _ _ _ _ e2 ρ X D s _ rfl hX hr I fun D₁ va s₁ le₁ I₁ V₁ sm₁=>he _ _ _ _ _ e3 ρ X D₁ s₁ _ rfl hX hr I₁ fun D₂ vb s₂ le₂ I₂ V₂ sm₂ =>
   item_ok hX (sub_ok (sliceN e1)) q I₂ (V₁.mono le₂) V₂ (h.step (le₁.trans le₂) (sm₁.trans sm₂)))
end
theorem evStep_ok (H:TabsOk w T) (he:EvOk w mean mg mb R n) (ht:TstOk w mean mg mb R n) (hc:CallsOk w mean mg mb R n) {e:Expr}{av:AV}{Q:Value→Shared→Prop} (hX:X.Ok w mean mg mb ρ) (hr:Room X n)
  (q:evStep T R X.cs st e=some (av,st')) (I:Inv ρ X D st s) (h:Post ρ X D s av st' Q):wpAny (model pw w) X.A (eval e X.env) Q F0 s:=by
 cases e with
 | Constant c k pos=>exact const_ok q I h
 | Name x pos =>
  refine e12 (mapS q) ?_;intro v q1 q2
  refine p2 q2 ?_;try clear q2;intro Y0 Y1;subst Y0;subst Y1
  exact name_ok H hX q1 I h
 | BinOp l op r pos =>
  refine e12 (bindS q) ?_;clear q;intro p e1 q
  refine e12 (bindS q) ?_;clear q;intro u e2 q
  refine e12 (mapS q) ?_;intro v q1 q2
  refine p2 q2 ?_;try clear q2;intro Y0 Y1;subst Y0;subst Y1
  exact wpAny_BinOp (he _ _ _ _ _ e1 ρ X D s _ rfl hX hr I fun D₁ va s₁ le₁ I₁ V₁ sm₁=>he _ _ _ _ _ e2 ρ X D₁ s₁ _ rfl hX hr I₁ fun D₂ vb s₂ le₂ I₂ V₂ sm₂ =>
   opB_ok q1 (V₁.mono le₂) V₂ fun v tk V=>(h.step (le₁.trans le₂) (sm₁.trans sm₂)).here I₂ V _)
 | UnaryOp op x pos=>exact un_ok he hX hr q I h
 | Compare l ops rs pos=>exact cmp_okE he hX hr q I h
 | BoolOp op es pos=>exact bool_ok he hX hr q I h
 | IfExp t b o pos =>
  refine e12 (bindS q) ?_;clear q;intro p e1 q
  refine e12 (bindS q) ?_;clear q;intro c e2 q
  refine IfExp_ (ht _ _ _ _ _ e1 ρ X D s _ rfl hX hr I fun D₁ b' s₁ le₁ I₁ V₁ sm₁=>?_)
  rw [TV.kS e2] at V₁
  rw [V₁.kI]
  have:=he _ _ _ _ _ q ρ X D₁ s₁ _ rfl hX hr I₁ (h.step le₁ sm₁)
  cases c <;> exact this
 | Attribute v a pos=>exact attrE_ok H he hX hr q I h
 | Subscript v i pos=>exact subE_ok he hX hr q I h
 | Tuple es k pos =>
  refine e12 (bindS q) ?_;clear q;intro p e1 q
  refine e02 (condS q) ?_;clear q;intro hb q
  refine s2 q ?_;try clear q;intro Y0 Y1;subst Y0;subst Y1
  have hb:=zB hb
  refine Tuple_ (evs_ok he hX hr e1 I fun D₁ vs s₁ le₁ I₁ V₁ sm₁=>?_)
  refine e21 (id I₁) ?_;intro m P J
  have hlen:=V₁.length
  refine newTuple_N J.F J.N (fun h' F' N'=>?_) (by rw [← hlen,show sizeLine=16777216 from rfl];(exact Nat.le_trans (by assumption) (by decide)))
  exact (h.step le₁ sm₁) _ _ _ (Led.le_imm D₁ _) ⟨m,P,J.pushImm _ F' N'⟩ (.tup (.head _) (V₁.mono (Led.le_imm D₁ _))) ⟨rfl,rfl,rfl⟩
 | List es pos =>
  refine e12 (bindS q) ?_;clear q;intro p e1 q
  refine e02 (condS q) ?_;clear q;intro hb q
  refine s2 q ?_;try clear q;intro Y0 Y1;subst Y0;subst Y1
  have hb:=zB hb
  refine List_ (evs_ok he hX hr e1 I fun D₁ vs s₁ le₁ I₁ V₁ sm₁=>?_)
  refine e21 (id I₁) ?_;clear I₁;intro m P J
  have hlen:=V₁.length
  refine newList_N J.F J.N (fun h' F' N'=>?_) (by rw [← hlen,show sizeLine=16777216 from rfl];(exact Nat.le_trans (by assumption) (by decide)))
  exact (h.step le₁ sm₁) _ _ _ (D₁.le_lad _) ⟨_,_,J.pushLst V₁ F' N'⟩ (.loc (lad_next J _)) ⟨rfl,rfl,rfl⟩
 | Call f args kws pos=>exact call_ok H he hc hX hr q I h
 | _=>exact xNS q
end
end
section
section
variable {T:Tabs}{w:World}{mean:ExcName→Option Value}{mg mb:Str→Option Value}{R:Recs}{n:Nat}{ρ:Rho}{X:FX}{D:Led}{st st':St}{s:Shared}
noncomputable abbrev TPost (ρ:Rho) (X:FX) (D:Led) (s:Shared) (tv:TV) (st':St) (Q:Bool→Shared→Prop):Prop:=∀ D' b s',D.le D'→Inv ρ X D' st' s'→TVR ρ tv b→Same s s'→Q b s'
theorem TPost.step {D':Led}{s':Shared}{tv:TV}{Q:Bool→Shared→Prop} (h:TPost ρ X D s tv st' Q) (le:D.le D') (sm:Same s s'):TPost ρ X D' s' tv st' Q :=
 fun D'' v s'' le' I V sm'=>h D'' v s'' (le.trans le') I V (sm.trans sm')
theorem TPost.now {tv:TV}{Q:Bool→Shared→Prop} (h:TPost ρ X D s tv st' Q) (I:Inv ρ X D st' s) {b:Bool} (V:TVR ρ tv b):Q b s:=h D b _ (Led.le.refl D) I V ⟨rfl,rfl,rfl⟩
theorem isTrue_whole {op:BoolOp}{l:List Expr}{pos:Pos}{env:Env}{whole:Sem Value}{A:Around}{E:Value→Shared→Prop}{Q:Bool→Shared→Prop} (h:wpAny (model pw w) A (isTrue (.BoolOp op l pos) env (eval (.BoolOp op l pos) env)) Q E s) :
  wpAny (model pw w) A (isTrue (.BoolOp op l pos) env whole) Q E s:=h
noncomputable def PureOk (R:Recs):Prop:=∀ (k:Nat) (cs:Scope) (st:St) (e:Expr),pureE k e=true→(∀ a st',R.ev cs st e=some (a,st')→st'=st)∧(∀ t st',R.tst cs st e=some (t,st')→st'=st)
theorem notT_ok {tv:TV}{b:Bool} (V:TVR ρ tv b):TVR ρ (notT tv) (!b):=by
 cases V with
 | k b=>exact .k _
 | u c=>exact .u (.not c)
theorem joinT_stop {a:Bool}{c:BE}{tv:TV} (z:c.den ρ=!a):TVR ρ (joinT a c tv) (!a):=by
 cases tv with
 | k b=>cases a <;> cases b <;> first|exact .k _|(have:=TVR.u (ρ:=ρ) c;rw [z] at this;exact this)
 | u d =>
  have:=TVR.u (ρ:=ρ) (bif a then .and c d else .or c d)
  cases a
  ·rw [show (bif false then BE.and c d else .or c d).den ρ=(c.den ρ||d.den ρ) from rfl,z] at this;exact this
  ·rw [show (bif true then BE.and c d else .or c d).den ρ=(c.den ρ&&d.den ρ) from rfl,z] at this;exact this
theorem joinT_go {a b:Bool}{c:BE}{tv:TV} (z:c.den ρ=a) (V:TVR ρ tv b):TVR ρ (joinT a c tv) b:=by
 cases V with
 | k b=>cases a <;> cases b <;> first|exact .k _|(have:=TVR.u (ρ:=ρ) c;rw [z] at this;exact this)
 | u d =>
  have:=TVR.u (ρ:=ρ) (bif a then .and c d else .or c d)
  cases a
  ·rw [show (bif false then BE.and c d else .or c d).den ρ=(c.den ρ||d.den ρ) from rfl,z] at this;exact this
  ·rw [show (bif true then BE.and c d else .or c d).den ρ=(c.den ρ&&d.den ρ) from rfl,z] at this;exact this
theorem truthP_ok {r:Option (AV×St)}{tv:TV} (e:truthP r=some (tv,st')):∃ v,r=some (v,st')∧truth v=some tv:=by
 refine e12 (bindS e) ?_;clear e;intro p e1 e2
 refine e12 (mapS e2) ?_;clear e2;intro t e3 e4
 refine p2 e4 ?_;try clear e4;intro Y0 Y1;subst Y0;subst Y1
 (exact (i12 p.1 e1 e3))
section
variable (he:EvOk w mean mg mb R n) (ht:TstOk w mean mg mb R n) (hX:X.Ok w mean mg mb ρ) (hr:Room X n) {tv:TV}{Q:Bool→Shared→Prop}
include hX hr
include ht in
theorem tstBool_ok (hpure:PureOk R) {op:BoolOp}{es:List Expr}{pos:Pos} (q:tstBool R X.cs st op pos es=some (tv,st')) (I:Inv ρ X D st s) (h:TPost ρ X D s tv st' Q):wpAny (model pw w) X.A (isTrue (.BoolOp op es pos) X.env (eval (.BoolOp op es pos) X.env)) Q F0 s:=by
 cases es with
 | nil =>
  refine s2 q ?_;try clear q;intro Y0 Y1;subst Y0;subst Y1
  cases op with
  | And=>exact isTrue_and_nil (h.now I (.k _))
  | Or=>exact isTrue_or_nil (h.now I (.k _))
 | cons x rest =>
  refine e12 (bindS q) ?_;clear q;intro p e1 q
  have go:∀ D₁ b s₁,D.le D₁→Inv ρ X D₁ p.2 s₁→TVR ρ p.1 b→Same s s₁→bif beqB b (isAnd op) then wpAny (model pw w) X.A (isTrue (.BoolOp op rest pos) X.env (eval (.BoolOp op rest pos) X.env)) Q F0 s₁ else Q b s₁:=fun D₁ b s₁ le₁ I₁ V₁ sm₁=>by
   have hk:=h.step le₁ sm₁
   cases hp:p.1 with
   | k c =>
    rw [hp] at q V₁
    rw [V₁.kI]
    (refine zO (cond2S q) (fun qh=>e02 qh ?qa) (fun qh=>e02 qh ?qb);(case' qb=>clear q;intro z q);(case' qa=>clear q;intro z q))
    ·rw [z];exact ht _ _ _ _ _ q ρ X D₁ s₁ _ rfl hX hr I₁ hk
    ·rw [z];(refine s2 q ?_;try clear q;intro Y0 Y1;subst Y0;subst Y1);exact hk.now I₁ (.k _)
   | u c =>
    rw [hp] at q V₁
    obtain ⟨⟨d,st₂⟩,e2,q⟩:=bindS q
    refine e02 (condS q) ?_;clear q;intro hs q
    obtain rfl:=(hpure 8 _ _ _ hs).2 _ _ e2
    refine s2 q ?_;try clear q;intro Y0 Y1;subst Y0;subst Y1
    cases z:beqB b (isAnd op) with
    | true =>
     refine ht _ _ _ _ _ e2 ρ X D₁ s₁ _ rfl hX hr I₁ fun D₂ d s₂ le₂ I₂ V₂ sm₂=>(hk.step le₂ sm₂).now I₂ (joinT_go ?_ V₂)
     rw [← V₁.uI];exact beqB_eq z
    | false =>
     have z':b=!(isAnd op):=by revert z;cases b <;> cases isAnd op <;> first|(intro z;(first|exact xTF z|cases z);done)|(intro _;rfl)
     rw [z'] at V₁ ⊢
     exact hk.now I₁ (joinT_stop V₁.uI.symm)
  cases op with
  | And =>
   refine isTrue_and (ht _ _ _ _ _ e1 ρ X D s _ rfl hX hr I fun D₁ b s₁ le₁ I₁ V₁ sm₁=>?_)
   have:=go D₁ b s₁ le₁ I₁ V₁ sm₁
   cases b <;> exact this
  | Or =>
   refine isTrue_or (ht _ _ _ _ _ e1 ρ X D s _ rfl hX hr I fun D₁ b s₁ le₁ I₁ V₁ sm₁=>?_)
   have:=go D₁ b s₁ le₁ I₁ V₁ sm₁
   cases b <;> exact this
include he
theorem tstCmp_ok {l:Expr}{ops:List CmpOp}{rs:List Expr}{pos:Pos}{v:AV} (q:evCmp R X.cs st l ops rs=some (v,st')) (e2:truth v=some tv) (I:Inv ρ X D st s) (h:TPost ρ X D s tv st' Q):wpAny (model pw w) X.A (isTrue (.Compare l ops rs pos) X.env (eval (.Compare l ops rs pos) X.env)) Q F0 s:=by
 have post:Post ρ X D s v st' (fun v s'=>wpAny (model pw w) X.A (truthy v) Q F0 s'):=fun D' v s' le I' V sm=>by
  refine e12 (truth_ok e2 V) ?_;intro b Y1 tb;subst Y1
  exact wpAny_truthy_bool ((h.step le sm).now I' tb)
 (refine zO (altS q) (fun qh=>e12 qh ?qa) (fun qh=>e02 qh ?qb);(case' qb=>clear q;intro _ q);(case' qa=>clear q;intro op e1 q))
 ·refine e12 (bindS q) ?_;clear q;intro r e3 q
  rw [oneS e1,oneS e3]
  refine e02 (cmp1_ok he hX hr q I post) ?_;intro hm g
  exact wpAny_isTrue_Compare1 g hm
 ·refine e12 (bindS q) ?_;clear q;intro op e1 q
  refine e12 (bindS q) ?_;clear q;intro r e3 q
  rw [twoS e1,twoS e3]
  obtain ⟨hm,g⟩:=cmp2_ok (Pf:=fun _ s'=>Q false s') he hX hr q I post (fun D' s' le I' V sm=>by
   refine e12 (truth_ok e2 V) ?_;clear e2 V;intro b eb tb
   cases eb
   exact (h.step le sm).now I' tb)
  refine isTrue_chain (wpAny_mono g (fun a s₁ h₁=>test_link (wpAny_mono h₁ (fun b s₂ h₂=>wpAny_mono h₂ (fun c s₃ h₃=>wpAny_mono h₃ (fun t s₄ h₄=>?_) fun _ _ x=>x) fun _ _ x=>x) fun _ _ x=>x)) fun _ _ x=>x) hm
  cases t with
  | true=>exact test_last h₄
  | false=>exact h₄
theorem tstEv_ok {e:Expr}{v:AV} (e1:R.ev X.cs st e=some (v,st')) (e2:truth v=some tv) (I:Inv ρ X D st s) (h:TPost ρ X D s tv st' Q):wpAny (model pw w) X.A (eval e X.env) (fun v s'=>wpAny (model pw w) X.A (truthy v) Q F0 s') F0 s :=
 he _ _ _ _ _ e1 ρ X D s _ rfl hX hr I fun D₁ v s₁ le₁ I₁ V₁ sm₁=>by
  refine e12 (truth_ok e2 V₁) ?_;clear e2 V₁;intro b Y1 tb;subst Y1
  exact wpAny_truthy_bool ((h.step le₁ sm₁).now I₁ tb)
end
theorem tstStep_ok (hpure:PureOk R) (he:EvOk w mean mg mb R n) (ht:TstOk w mean mg mb R n) {e:Expr}{tv:TV}{Q:Bool→Shared→Prop} (hX:X.Ok w mean mg mb ρ) (hr:Room X n)
  (q:tstStep R X.cs st e=some (tv,st')) (I:Inv ρ X D st s) (h:TPost ρ X D s tv st' Q):wpAny (model pw w) X.A (isTrue e X.env (eval e X.env)) Q F0 s:=by
 cases e with
 | UnaryOp op x pos =>
  refine e02 (condS q) ?_;clear q;intro z q
  refine e12 (mapS q) ?_;clear q;intro p e1 q
  refine p2 q ?_;try clear q;intro Y0 Y1;subst Y0;subst Y1
  rw [isNotS z]
  exact isTrue_not (ht _ _ _ _ _ e1 ρ X D s _ rfl hX hr I fun D₁ c s₁ le₁ I₁ V₁ sm₁=>(h.step le₁ sm₁).now I₁ (notT_ok V₁))
 | BoolOp op es pos=>exact tstBool_ok ht hX hr hpure q I h
 | Compare l ops rs pos =>
  refine e12 (truthP_ok q) ?_;intro v e1 e2
  exact tstCmp_ok he hX hr e1 e2 I h
 | Name x p =>
  refine e12 (truthP_ok q) ?_;intro v e1 e2
  exact isTrue_plain (tstEv_ok he hX hr e1 e2 I h)
 | Call f a k p =>
  refine e12 (truthP_ok q) ?_;intro v e1 e2
  exact isTrue_plain (tstEv_ok he hX hr e1 e2 I h)
 | _=>exact xNS q
end
end
section
noncomputable def FRR (ρ:Rho) (X:FX) (D:Led) (fr:FR) (fl:Flow) (s:Shared):Prop:=match fr with
 | .next st=>fl=.next∧Inv ρ X D st s
 | .ret av st=>∃ v,fl=.ret v∧VR ρ D av v∧Inv ρ X D st s
noncomputable def KW (w:World) (A:Around) (env:Env):List (List Stmt)→(Flow→Shared→Prop)→Flow→Shared→Prop
 | [],Q=>Q
 | l::ks,Q=>fun f s=>match f with
  | .next=>wpAny (model pw w) A (execs l env) (KW w A env ks Q) F0 s
  | f=>Q f s
noncomputable abbrev XPost (ρ:Rho) (X:FX) (D:Led) (s:Shared) (fr:FR) (Q:Flow→Shared→Prop):Prop:=∀ D' fl s',D.le D'→FRR ρ X D' fr fl s'→Same s s'→Q fl s'
noncomputable def ExsOk (w:World) (mean:ExcName→Option Value) (mg mb:Str→Option Value) (R:Recs) (n:Nat):Prop:=∀ (cs:Scope) (st:St) (l:List Stmt) (ks:List (List Stmt)) (fr:FR),R.exs cs st l ks=some fr →
 ∀ (ρ:Rho) (X:FX) (D:Led) (s:Shared) (Q:Flow→Shared→Prop),X.cs=cs→X.Ok w mean mg mb ρ→Room X n→Inv ρ X D st s→XPost ρ X D s fr Q→wpAny (model pw w) X.A (execs l X.env) (KW w X.A X.env ks Q) F0 s
section
variable {T:Tabs}{w:World}{mean:ExcName→Option Value}{mg mb:Str→Option Value}{R:Recs}{n:Nat}{ρ:Rho}{X:FX}{D:Led}{st st':St}{s:Shared}
theorem XPost.step {D':Led}{s':Shared}{fr:FR}{Q:Flow→Shared→Prop} (h:XPost ρ X D s fr Q) (le:D.le D') (sm:Same s s'):XPost ρ X D' s' fr Q :=
 fun D'' v s'' le' I sm'=>h D'' v s'' (le.trans le') I (sm.trans sm')
theorem KW_ret {A:Around}{env:Env}{ks:List (List Stmt)}{Q:Flow→Shared→Prop}{v:Value} (h:Q (.ret v) s):KW w A env ks Q (.ret v) s:=by
 cases ks <;> exact h
theorem mergeSt_ok {c:BE}{a b m:St} (e:mergeSt c a b=some m) (I:Inv ρ X D (bif c.den ρ then a else b) s):Inv ρ X D m s:=by
 refine e02 (condS e) ?_;clear e;intro q e
 (have Y0:=s1 e;try clear e;subst Y0)
 have q:=lstBeq_eq q
 refine e21 (I) ?_;clear I;intro mm P J
 refine ⟨mm,P,J.F,J.N,fun x av ex=>?_,?_,J.ad,J.nd,J.dj,J.fd⟩
 ·refine e23 (mergeLoc_lk _ _ _ _ ex) ?_;clear ex;intro u v e1 e2 e3
  have hv:lkL (bif c.den ρ then a else b).loc x=some (bif c.den ρ then u else v):=by cases c.den ρ <;> assumption
  refine e12 (J.loc _ _ hv) ?_;clear hv;intro val h1 h2
  (exact (i12 val h1 (mergeAV_ok e3 h2)))
 ·have:=J.ls
  cases z:c.den ρ with
  | true=>rw [z] at this;exact this
  | false=>rw [z] at this;show LsR ρ D P a.lst;rw [q];exact this
theorem cond_app {α β:Type} (f:α→β) (b:Bool) (x y:α):(bif b then f x else f y)=f (bif b then x else y):=by cases b <;> rfl
theorem mergeFR_ok {c:BE}{a b m:FR}{fl:Flow} (e:mergeFR c a b=some m) (I:FRR ρ X D (bif c.den ρ then a else b) fl s):FRR ρ X D m fl s:=by
 cases a with
 | next a=>cases b with
  | next b =>
   refine e12 (mapS e) ?_;intro st e1 Y2;subst Y2
   rw [cond_app FR.next] at I
   exact ⟨I.1,mergeSt_ok e1 I.2⟩
  | ret=>exact xNS e
 | ret v a=>cases b with
  | next=>exact xNS e
  | ret u b =>
   refine e12 (bindS e) ?_;clear e;intro x e1 e'
   refine e12 (mapS e') ?_;clear e';intro y e2 Y2;subst Y2
   have I:FRR ρ X D (.ret (bif c.den ρ then v else u) (bif c.den ρ then a else b)) fl s:=by revert I;cases c.den ρ <;> exact id
   refine e13 (I) ?_;clear I;intro val h1 h2 h3
   (exact (i13 val h1 (mergeAV_ok e1 h2) (mergeSt_ok e2 h3)))
noncomputable abbrev FX.with (X:FX) (I:Addr) (o:Obj):FX:={X with fx:=(I,o)::X.fx}
theorem InvAt.drop {I:Addr}{o:Obj}{h:Heap}{m:Str→Option Value}{P:List (Addr×Obj)} (J:InvAt ρ (X.with I o) D st h m P):InvAt ρ X D st h m P:=by
 refine ⟨J.F,fun p hp=>?_,J.loc,J.ls,J.ad,J.nd,fun p hp=>?_,fun p hp q hq=>J.fd p hp q (.tail _ hq)⟩
 ·refine J.N p ?_
  (refine zO (zA hp) ?qa ?qb;(case' qb=>intro h);(case' qa=>intro h))
  ·exact zL _ h
  ·(refine zO (zA h) ?qa0 ?qb0;(case' qb0=>clear h;intro h);(case' qa0=>clear h;intro h))
   ·exact zR _ (zL _ h)
   ·exact zR _ (zR _ (.tail _ h))
 ·refine J.dj p ?_
  (refine zO (zA hp) ?qa1 ?qb1;(case' qb1=>clear hp;intro h);(case' qa1=>clear hp;intro h))
  ·exact zL _ h
  ·exact zR _ (.tail _ h)
theorem Inv.drop {I:Addr}{o:Obj} (J:Inv ρ (X.with I o) D st s):Inv ρ X D st s:=by
 refine e21 (J) ?_;clear J;intro m P J
 (exact (i21 m P J.drop))
theorem FRR.drop {I:Addr}{o:Obj}{fr:FR}{fl:Flow} (J:FRR ρ (X.with I o) D fr fl s):FRR ρ X D fr fl s:=by
 cases fr with
 | next st=>exact ⟨J.1,J.2.drop⟩
 | ret av st=>(refine e13 (J) ?_;clear J;intro v a b c);(exact (i13 v a b c.drop))
theorem InvAt.turn {I:Addr}{o o':Obj}{h h':Heap}{m:Str→Option Value}{P:List (Addr×Obj)} (J:InvAt ρ (X.with I o) D st h m P) (hI:∀ q∈X.fx,q.1≠I) (hk:∀ b x,b∉[I]→h.get? b=some x→h'.get? b=some x)
  (ho:h'.get? I=some o'):InvAt ρ (X.with I o') D st h' m P:=by
 have hIN:=J.N (I,o) (zR _ (zR _ (.head _)))
 have hF:Fr X.h₀ X.L h' m:=by
  refine e32 (J.F.ns) ?_;intro oL a1 a2 hL a3
  refine ⟨⟨oL,a1,a2,hk _ _ ?_ hL,a3⟩,fun b x e=>hk b x ?_ (J.F.keep b x e),J.F.above⟩
  ·intro hm;exact hIN.2.1 (zS hm).symm
  ·intro hm
   have:=hIN.2.2
   rw [← zS hm] at this
   exact nomatch (this.symm.trans e)
 have hne:∀ p∈P++(D.imm++X.fx),p.1≠I:=by
  intro p hp
  (refine zO (zA hp) ?qa ?qb;(case' qb=>intro h1);(case' qa=>intro h1))
  ·intro e
   have:p.1∈D.lad:=by rw [← J.ad];exact List.mem_map.mpr ⟨p,h1,rfl⟩
   exact J.dj (I,o) (zR _ (.head _)) (e▸this)
  ·(refine zO (zA h1) ?qa2 ?qb2;(case' qb2=>intro h2);(case' qa2=>intro h2))
   ·exact J.fd p h2 (I,o) (.head _)
   ·exact hI p h2
 refine ⟨hF,fun p hp=>?_,J.loc,J.ls,J.ad,J.nd,fun p hp=>?_,fun p hp q hq=>?_⟩
 ·have cases_:p=(I,o')∨p∈P++(D.imm++X.fx):=by
   (refine zO (zA hp) ?qa3 ?qb3;(case' qb3=>intro h1);(case' qa3=>intro h1))
   ·exact .inr (zL _ h1)
   ·(refine zO (zA h1) ?qa4 ?qb4;(case' qb4=>intro h2);(case' qa4=>intro h2))
    ·exact .inr (zR _ (zL _ h2))
    ·(refine zO (zC h2) ?qa5 ?qb5;(case' qb5=>intro h3);(case' qa5=>intro h3))
     ·exact .inl h3
     ·exact .inr (zR _ (zR _ h3))
  (refine zO (cases_) ?qa6 ?qb6;(case' qb6=>clear cases_;intro h1);(case' qa6=>clear cases_;intro Y0;subst Y0))
  ·exact ⟨ho,hIN.2⟩
  ·have hp':p∈P++(D.imm++(X.with I o).fx):=by
    (refine zO (zA h1) ?qa7 ?qb7;(case' qb7=>intro h2);(case' qa7=>intro h2))
    ·exact zL _ h2
    ·(refine zO (zA h2) ?qa8 ?qb8;(case' qb8=>intro h3);(case' qa8=>intro h3))
     ·exact zR _ (zL _ h3)
     ·exact zR _ (zR _ (.tail _ h3))
   have q:=J.N p hp'
   exact ⟨hk _ _ (fun hm=>hne p h1 (zS hm)) q.1,q.2⟩
 ·(refine zO (zA hp) ?qa9 ?qb9;(case' qb9=>intro h2);(case' qa9=>intro h2))
  ·exact J.dj p (zL _ h2)
  ·(refine zO (zC h2) ?qa10 ?qb10;(case' qb10=>clear h2;intro h3);(case' qa10=>clear h2;intro Y0;subst Y0))
   ·exact J.dj (I,o) (zR _ (.head _))
   ·exact J.dj p (zR _ (.tail _ h3))
 ·(refine zO (zC hq) ?qa11 ?qb11;(case' qb11=>clear hq;intro h3);(case' qa11=>clear hq;intro Y0;subst Y0))
  ·exact J.fd p hp (I,o) (.head _)
  ·exact J.fd p hp q (.tail _ h3)
theorem inv_end {I:Addr}{o:Obj}{m:Str→Option Value}{P:List (Addr×Obj)}{h':Heap}{tk:Nat} (hI:∀ q∈X.fx,q.1≠I) (J:InvAt ρ (X.with I o) D st s.heap m P) (hk:∀ b x,b∉[I]→s.heap.get? b=some x→h'.get? b=some x) :
  Inv ρ X D st {s with heap:=h',toks:=tk}:=by
 have hIN:=J.N (I,o) (zR _ (zR _ (.head _)))
 have hF:Fr X.h₀ X.L h' m:=by
  refine e32 (J.F.ns) ?_;intro oL a1 a2 hL a3
  refine ⟨⟨oL,a1,a2,hk _ _ ?_ hL,a3⟩,fun b x e=>hk b x ?_ (J.F.keep b x e),J.F.above⟩
  ·intro hm;exact hIN.2.1 (zS hm).symm
  ·intro hm
   have:=hIN.2.2
   rw [← zS hm] at this
   exact nomatch (this.symm.trans e)
 have J':=J.drop
 refine ⟨m,P,hF,fun p hp=>?_,J'.loc,J'.ls,J'.ad,J'.nd,J'.dj,J'.fd⟩
 have hne:p.1≠I:=by
  (refine zO (zA hp) ?qa ?qb;(case' qb=>intro h1);(case' qa=>intro h1))
  ·intro e
   have:p.1∈D.lad:=by rw [← J.ad];exact List.mem_map.mpr ⟨p,h1,rfl⟩
   exact J.dj (I,o) (zR _ (.head _)) (e▸this)
  ·(refine zO (zA h1) ?qa12 ?qb12;(case' qb12=>clear h1;intro h2);(case' qa12=>clear h1;intro h2))
   ·exact J.fd p h2 (I,o) (.head _)
   ·exact hI p h2
 have q:=J'.N p hp
 exact ⟨hk _ _ (fun hm=>hne (zS hm)) q.1,q.2⟩
noncomputable def Held (D:Led) (X:FX) (fp:List Addr):Prop:=∀ b∈fp,∃ o,(b,o)∈D.imm++X.fx
theorem Held.mono {D D':Led}{fp:List Addr} (le:D.le D') (h:Held D X fp):Held D' X fp:=fun b hb=>by
 refine e11 (h b hb) ?_;clear h hb;intro o ho
 refine ⟨o,?_⟩
 (refine zO (zA ho) ?qa ?qb;(case' qb=>clear ho;intro q);(case' qa=>clear ho;intro q))
 ·exact zL _ (le.imm _ q)
 ·exact zR _ q
theorem Held.keep {D D':Led}{fp:List Addr}{s s':Shared}{st st':St} (h:Held D X fp) (le:D.le D') (I:Inv ρ X D st s) (I':Inv ρ X D' st' s'):∀ b∈fp,∀ o,s.heap.get? b=some o→s'.heap.get? b=some o:=by
 intro b hb o ho
 refine e21 (I) ?_;try clear I;intro m P J
 refine e21 (I') ?_;clear I';intro m' P' J'
 refine e11 (h b hb) ?_;intro x hx
 refine e11 (h.mono le b hb) ?_;clear hb;intro y hy
 have hx':(b,x)∈D'.imm++X.fx:=by
  (refine zO (zA hx) ?qa ?qb;(case' qb=>intro q);(case' qa=>intro q))
  ·exact zL _ (le.imm _ q)
  ·exact zR _ q
 have e1:=(J.N _ (zR _ hx)).1
 have e2:=(J'.N _ (zR _ hx')).1
 rw [e2,← ho,e1]
structure Turns (w:World) (ρ:Rho) (X:FX) (I:Addr) (fp:List Addr) (N:Nat) (P:Nat→Value→Prop) (Sh:Nat→Heap→Prop) (vals:List AV) (D:Led):Prop where
 W:Walks pw w X.A I fp [I] N P Sh
 len:N=vals.length
 obj:∀ i h,Sh i h→∃ o,h.get? I=some o
 fx:∀ q∈X.fx,q.1≠I
 val:∀ i v av,P i v→vals[i]?=some av→VR ρ D av v
 held:∀ b∈fp,b=I∨∃ o,(b,o)∈D.imm
theorem Turns.heldX {I:Addr}{o:Obj}{fp:List Addr}{N:Nat}{P:Nat→Value→Prop}{Sh:Nat→Heap→Prop}{vals:List AV}{D D':Led} (t:Turns w ρ X I fp N P Sh vals D) (le:D.le D'):Held D' (X.with I o) fp:=fun b hb=>by
 (refine zO (t.held b hb) ?qa (fun qh=>e11 qh ?qb);(case' qb=>clear t hb;intro x hx);(case' qa=>clear t hb;intro Y0;subst Y0))
 ·exact ⟨o,zR _ (.head _)⟩
 ·exact ⟨x,zL _ (le.imm _ hx)⟩
theorem envW {I:Addr}{o:Obj}:(X.with I o).env=X.env:=rfl
theorem AW {I:Addr}{o:Obj}:(X.with I o).A=X.A:=rfl
theorem okWith {I:Addr}{o:Obj} (hX:X.Ok w mean mg mb ρ):(X.with I o).Ok w mean mg mb ρ:=⟨hX.B,hX.K,hX.T,hX.k,fun p hp=>.tail _ (hX.held p hp),hX.sym⟩
noncomputable def LoopI (R:Recs) (ρ:Rho) (X:FX) (I:Addr) (Sh:Nat→Heap→Prop) (x:List Nat) (body:List Stmt) (vals:List AV) (D:Led) (s₀:Shared) (fr:FR) (k:Nat) (s:Shared):Prop :=
 ∃ (i:Nat) (st:St) (D':Led) (o:Obj),i+k=vals.length∧loopE R X.cs x body (vals.drop i) st=some fr∧D.le D'∧Same s₀ s∧Inv ρ (X.with I o) D' st s∧Sh i s.heap
theorem loop_ok (hs:ExsOk w mean mg mb R n) (hX:X.Ok w mean mg mb ρ) (hr:Room X n) {I:Addr}{fp:List Addr}{N:Nat}{P:Nat→Value→Prop}{Sh:Nat→Heap→Prop}{vals:List AV} (t:Turns w ρ X I fp N P Sh vals D)
  {x:Str}{px:Pos}{body:List Stmt}{fr:FR}{o:Obj}{Q:Result→Shared→Prop} (hx:isLocal X.cs x=true) (e:loopE R X.cs x.cps.toList body vals st=some fr) (J:Inv ρ (X.with I o) D st s) (h0:Sh 0 s.heap)
  (h:∀ D' fl s',D.le D'→FRR ρ X D' fr fl s'→Same s s'→Q (.ok fl) s') :
  codeAny (model pw w) X.A (.forLoop (.Name x px) (.ref I) body [] X.env) Q s:=by
 refine codeAny_forLoop_any (LoopI R ρ X I Sh x.cps.toList body vals D s fr) ?_ vals.length ⟨0,st,D,o,Nat.zero_add _,e,Led.le.refl D,Same.refl s,J,h0⟩
 rintro k s₁ ⟨i,st₁,D₁,o₁,hk,e₁,le₁,sm₁,J₁,h₁⟩
 by_cases hi:i<vals.length
 ·have hd:vals.drop i=vals[i]::vals.drop (i+1):=List.drop_eq_getElem_cons hi
  rw [hd] at e₁
  refine t.W.item i s₁ _ _ (by rw [t.len];exact hi) h₁ fun v h' tk pv sh' hkeep=>?_
  refine e11 (t.obj _ _ sh') ?_;intro o₂ ho₂
  refine e21 (J₁) ?_;try clear J₁;intro m P' JA
  have JA':=JA.turn (o':=o₂) t.fx hkeep ho₂
  have V:VR ρ D₁ vals[i] v:=(t.val i v _ pv (List.getElem?_eq_getElem hi)).mono le₁
  refine wpAny_pure (a:=()) ?_
  refine wpAny_assign_Name (storeX_L JA'.F JA'.N (fun h'' F' N'=>?_) hX.k (isLocal_ok hx))
  have I':Inv ρ (X.with I o₂) D₁ st₁ {s₁ with heap:=h',toks:=tk}:=⟨m,P',JA'⟩
  have e3:S x.cps.toList=x:=S_key x
  have JS:=JA'.setLoc (x:=x.cps.toList) V (h':=h'') (by rw [e3];exact F') N'
  have I'':Inv ρ (X.with I o₂) D₁ ⟨setL st₁.loc x.cps.toList vals[i],st₁.lst⟩ {s₁ with heap:=h'',toks:=tk+1}:=⟨_,P',JS⟩
  have sh'':Sh (i+1) h'':=t.W.frame _ _ _ sh' ((t.heldX le₁).keep (Led.le.refl _) I' I'')
  have sm₂:Same s {s₁ with heap:=h'',toks:=tk+1}:=sm₁.trans ⟨rfl,rfl,rfl⟩
  have fin:∀ fr',R.exs X.cs ⟨setL st₁.loc x.cps.toList vals[i],st₁.lst⟩ body []=some fr'→(∀ D' fl s',D₁.le D'→FRR ρ (X.with I o₂) D' fr' fl s'→Same {s₁ with heap:=h'',toks:=tk+1} s'→match fl with
    | .next|.cont=>∃ m,m<k∧LoopI R ρ X I Sh x.cps.toList body vals D s fr m s'
    | .brk=>Q (.ok .next) s'
    | .ret v=>Q (.ok (.ret v)) s') →
    wpAny (model pw w) X.A (execs body X.env) (fun f s₃=>match f with
      | .next|.cont=>∃ m,m<k∧LoopI R ρ X I Sh x.cps.toList body vals D s fr m s₃
      | .brk=>Q (.ok .next) s₃
      | .ret v=>Q (.ok (.ret v)) s₃) (notedBy (model pw w) X.A X.env fun e s'=>Q (.error e) s') {s₁ with heap:=h'',toks:=tk+1}:=fun fr' ef hq =>
   wpAny_mono (hs _ _ _ _ _ ef ρ (X.with I o₂) D₁ _ (fun f s₃=>match f with
      | .next|.cont=>∃ m,m<k∧LoopI R ρ X I Sh x.cps.toList body vals D s fr m s₃
      | .brk=>Q (.ok .next) s₃
      | .ret v=>Q (.ok (.ret v)) s₃) rfl (okWith hX) hr I'' hq) (fun _ _ y=>y) fun _ _ y=>y.elim
  refine e12 (bindS e₁) ?_;intro f e2 e₂
  cases f with
  | next st₂ =>
   refine fin _ e2 fun D' fl s' le' fr' sm'=>?_
   refine e02 (fr') ?_;try clear fr';intro Y0 I3;subst Y0
   exact ⟨k-1,by omega,i+1,st₂,D',o₂,by omega,e₂,le₁.trans le',sm₂.trans sm',I3,t.W.frame _ _ _ sh'' ((t.heldX le₁).keep le' I'' I3)⟩
  | ret wv st₂ =>
   (have Y0:=s1 e₂;try clear e₂;subst Y0)
   refine fin _ e2 fun D' fl s' le' fr' sm'=>?_
   refine e13 (fr') ?_;clear fr';intro v Y1 h2 h3;subst Y1
   exact h D' _ s' (le₁.trans le') ⟨v,rfl,h2,h3.drop⟩ (sm₂.trans sm')
 ·have hi':i=vals.length:=by omega
  have hd:vals.drop i=[]:=by rw [hi'];exact List.drop_length
  rw [hd] at e₁
  (have Y0:=s1 e₁;try clear e₁;subst Y0)
  have hN:i=N:=by rw [hi',t.len]
  refine t.W.done s₁ _ _ (by rw [← hN];exact h₁) fun h' tk hkeep=>wpAny_execs_nil ?_
  refine e21 (J₁) ?_;clear J₁;intro m P' JA
  refine h D₁ _ _ le₁ ⟨rfl,?_⟩ (sm₁.trans ⟨rfl,rfl,rfl⟩)
  exact inv_end t.fx JA hkeep
end
end
section
section
variable {T:Tabs}{w:World}{mean:ExcName→Option Value}{mg mb:Str→Option Value}{R:Recs}{n:Nat}{ρ:Rho}{X:FX}{D:Led}{st st':St}{s:Shared}
theorem InvAt.pushFx {h:Heap}{m:Str→Option Value}{P:List (Addr×Obj)} (J:InvAt ρ X D st h m P) (o:Obj) (hf:o.isFreed=false):InvAt ρ (X.with h.objs.size o) D st (h.push o) m P:=by
 have N:=News.push J.F J.N o hf
 refine ⟨J.F.push _,fun p hp=>?_,J.loc,J.ls,J.ad,J.nd,fun p hp=>?_,fun p hp q hq=>?_⟩
 ·refine N p ?_
  (refine zO (zA hp) ?qa ?qb;(case' qb=>intro h1);(case' qa=>intro h1))
  ·exact .tail _ (zL _ h1)
  ·(refine zO (zA h1) ?qa0 ?qb0;(case' qb0=>clear h1;intro h2);(case' qa0=>clear h1;intro h2))
   ·exact .tail _ (zR _ (zL _ h2))
   ·(refine zO (zC h2) ?qa1 ?qb1;(case' qb1=>intro h3);(case' qa1=>intro Y0;subst Y0))
    ·exact .head _
    ·exact .tail _ (zR _ (zR _ h3))
 ·(refine zO (zA hp) ?qa2 ?qb2;(case' qb2=>intro h2);(case' qa2=>intro h2))
  ·exact J.dj p (zL _ h2)
  ·(refine zO (zC h2) ?qa3 ?qb3;(case' qb3=>clear h2;intro h3);(case' qa3=>clear h2;intro Y0;subst Y0))
   ·intro ha;exact absurd (J.lad_lt ha) (Nat.lt_irrefl _)
   ·exact J.dj p (zR _ h3)
 ·(refine zO (zC hq) ?qa4 ?qb4;(case' qb4=>clear hq;intro h3);(case' qa4=>clear hq;intro Y0;subst Y0))
  ·intro e
   have:=J.lt (p:=p) (zR _ (zL _ hp))
   rw [e] at this;exact absurd this (Nat.lt_irrefl _)
  ·exact J.fd p hp q h3
theorem InvAt.fx_ne {h:Heap}{m:Str→Option Value}{P:List (Addr×Obj)} (J:InvAt ρ X D st h m P):∀ q∈X.fx,q.1≠h.objs.size:=fun q hq e=>by
 have:=J.lt (p:=q) (zR _ (zR _ hq))
 rw [e] at this;exact absurd this (Nat.lt_irrefl _)
theorem rngItems_get (c:Int) (n:Nat):∀ (a:Int) (i:Nat) (av:AV),(rngItems a c n)[i]?=some av→av=.int (.lit (a+i*c)):=by
 induction n with
 | zero=>intro _ _ _ h;exact xNS h
 | succ n ih =>
  intro a i av h
  cases i with
  | zero=>(have Y0:=s1 h;try clear h;subst Y0);show _=AV.int (.lit (a+((0:Nat):Int)*c));rw [Int.natCast_zero,Int.zero_mul,Int.add_zero]
  | succ i =>
   rw [ih (a+c) i av h,Int.natCast_succ,Int.add_mul,Int.one_mul,Int.add_assoc,Int.add_comm c]
theorem rngItems_len (c:Int):∀ (n:Nat) (a:Int),(rngItems a c n).length=n
 | 0,_=>rfl
 | n+1,a=>congrArg (·+1) (rngItems_len c n (a+c))
theorem for_ok (he:EvOk w mean mg mb R n) (hs:ExsOk w mean mg mb R n) (hX:X.Ok w mean mg mb ρ) (hr:Room X n) {x:Str}{px pos:Pos}{it:Expr}{body:List Stmt}{fr:FR}{av:AV}{items:List AV}{st₁:St}{Q:Flow→Shared→Prop}
  (hx:isLocal X.cs x=true) (e0:itemsOf R X.cs st it=some (av,items,st₁)) (hit:∀ env x,foldedSetIterable it env x=pure x) (e:loopE R X.cs x.cps.toList body items st₁=some fr) (I:Inv ρ X D st s) (h:XPost ρ X D s fr Q) :
  wpAny (model pw w) X.A (exec (.For (.Name x px) it body [] pos) X.env) Q F0 s:=by
 refine wpAny_For ?_ (hit X.env)
 refine e12 (bindS e0) ?_;clear e0;intro p e1 e0
 (refine zO (altS e0) (fun qh=>e12 qh ?qa) (fun qh=>e02 qh ?qb);(case' qb=>clear e0;intro _ e0);(case' qa=>clear e0;intro l e2 e0))
 ·refine s3 e0 ?_;try clear e0;intro Y0 Y1 Y2;subst Y0;subst Y1;subst Y2
  refine he _ _ _ _ _ e1 ρ X D s _ rfl hX hr I fun D₁ v s₁ le₁ I₁ V₁ sm₁=>?_
  rw [AV.tupS e2] at V₁
  refine e33 (V₁.tupI) ?_;intro vs a k hm hvs Y5;subst Y5
  refine e21 (id I₁) ?_;intro m P J
  have hg:=J.imm hm
  refine wpAny_pyIter_tuple (items:=vs.toArray) ⟨_,hg,rfl,_,rfl⟩ ?_
  have hne:a≠s₁.heap.objs.size:=Nat.ne_of_lt (Heap.lt_size hg)
  have J':=J.pushFx {cls:=.type "tuple_iterator",data:=.fields #[.ref a,.int 0 0]} rfl
  have hg':=J'.imm hm
  refine loop_ok (D:=D₁) (o:={cls:=.type "tuple_iterator",data:=.fields #[.ref a,.int 0 0]}) (N:=vs.toArray.size) hs hX hr ⟨Walks.tuple rfl _ a hne vs.toArray,by rw [List.size_toArray,hvs.length],fun i h t=>?_,J.fx_ne,fun i v av p q=>?_,fun b hb=>?_⟩ hx e ⟨m,P,J'⟩ ⟨?_,?_⟩ ?_
  ·obtain ⟨⟨o,ho,_⟩,_⟩:=t;exact ⟨o,ho⟩
  ·refine e12 (hvs.get q) ?_;clear hvs;intro v' e1 e2
   have p:vs.toArray[i]?=some v:=p
   rw [List.getElem?_toArray,e1] at p
   (have Y0:=s1 p;try clear p;subst Y0);exact e2
  ·(refine zO (zC hb) ?qa5 ?qb5;(case' qb5=>clear hb;intro hb);(case' qa5=>intro Y0;subst Y0))
   ·exact .inl rfl
   ·rw [zS hb];exact .inr ⟨_,hm⟩
  ·(exact (i13 _ (Heap.get?_push_size _ rfl) rfl rfl))
  ·exact ⟨_,hg',rfl,_,rfl⟩
  ·intro D' fl s' le fr' sm
   exact h D' fl s' (le₁.trans le) fr' (sm₁.trans ⟨sm.gens,sm.drawn,sm.os⟩)
 ·obtain ⟨⟨a,b,c⟩,e2,e0⟩:=bindS e0
  refine e02 (condS e0) ?_;clear e0;intro hb e0
  refine s3 e0 ?_;try clear e0;intro Y0 Y1 Y2;subst Y0;subst Y1;subst Y2
  refine he _ _ _ _ _ e1 ρ X D s _ rfl hX hr I fun D₁ v s₁ le₁ I₁ V₁ sm₁=>?_
  rw [AV.rngS e2] at V₁
  refine e42 (V₁.rngI) ?_;clear V₁;intro x₁ t₁ u₁ v₁ hm Y5;subst Y5
  refine e21 (id I₁) ?_;clear I₁;intro m P J
  have hg:=J.imm hm
  have hsm:=(rngOk_small hb).2.2.2.2
  have hpos:0≤Builtin.Range.rangeSize a b c:=by
   unfold Builtin.Range.rangeSize
   split <;> split <;> first|lia|(have:=Int.ediv_nonneg (a:=b-a-1) (b:=c) (by lia) (by (exact Int.le_of_lt (by assumption)));lia)|(have:=Int.ediv_nonneg (a:=a-b-1) (b:=-c) (by lia) (by lia);lia)
  have hN:Builtin.Range.rangeSize a b c=((rngLen a b c:Nat):Int):=(Int.toNat_of_nonneg hpos).symm
  refine wpAny_pyIter_range (a:=a) (b:=b) (c:=c) hg hsm ?_
  have J':=J.pushFx {cls:=.type "range_iterator",data:=.fields #[rawInt a,rawInt (Builtin.Range.rangeSize a b c),rawInt c]} rfl
  refine loop_ok (D:=D₁) (o:={cls:=.type "range_iterator",data:=.fields #[rawInt a,rawInt (Builtin.Range.rangeSize a b c),rawInt c]}) (vals:=rngItems a c (rngLen a b c)) (N:=rngLen a b c) hs hX hr ⟨Walks.range rfl _ a c (rngLen a b c),(rngItems_len _ _ _).symm,fun i h t=>?_,J.fx_ne,fun i v av p q=>?_,fun b hb=>?_⟩ hx e ⟨m,P,J'⟩ ?_ ?_
  ·exact ⟨_,t⟩
  ·refine e11 (p) ?_;clear p;intro tk Y1;subst Y1
   rw [rngItems_get _ _ _ _ _ q]
   exact .int (.lit _) _
  ·exact .inl (zS hb)
  ·show IsRangeIter _ _ _ _ _
   have e2:a+((0:Nat):Int)*c=a:=by rw [Int.natCast_zero,Int.zero_mul,Int.add_zero]
   have e3:((rngLen a b c:Nat):Int)-((0:Nat):Int)=Builtin.Range.rangeSize a b c:=by rw [hN,Int.natCast_zero,Int.sub_zero]
   rw [e2,e3]
   exact Heap.get?_push_size _ rfl
  ·intro D' fl s' le fr' sm
   exact h D' fl s' (le₁.trans le) fr' (sm₁.trans ⟨sm.gens,sm.drawn,sm.os⟩)
theorem notSet_ok {it:Expr} (h:notSet it=true):∀ env x,foldedSetIterable it env x=pure x :=
 tS (P:=∀ env x,foldedSetIterable it env x=pure x) (by cases it <;> first|exact trivial|exact fun _ _=>rfl) h
theorem plain_swaps {e:Expr} (h:plainValue e=true) (tg:Option Expr) (k:Nat) (env:Env):swapsWith e tg k env=pure false :=
 tS (P:=swapsWith e tg k env=pure false) (by cases e <;> first|exact trivial|exact rfl) h
theorem not_interactive (hX:X.Ok w mean mg mb ρ):interactive X.env=false:=by
 show (X.cs.kind==.module&&_)=false
 rw [hX.k];rfl
section
variable (he:EvOk w mean mg mb R n) (hX:X.Ok w mean mg mb ρ) (hr:Room X n) {rest:List Stmt}{ks:List (List Stmt)}{fr:FR}{Q:Flow→Shared→Prop}
include hX hr
theorem exIf_ok (ht:TstOk w mean mg mb R n) (hs:ExsOk w mean mg mb R n) {t:Expr}{b o:List Stmt}{pos:Pos} (q:exs1 R X.cs st (.If t b o pos) rest ks=some fr) (I:Inv ρ X D st s) (h:XPost ρ X D s fr Q) :
  wpAny (model pw w) X.A (execs (.If t b o pos::rest) X.env) (KW w X.A X.env ks Q) F0 s:=by
 refine e12 (bindS q) ?_;clear q;intro p e1 q
 refine wpAny_execs_cons (wpAny_If (ht _ _ _ _ _ e1 ρ X D s _ rfl hX hr I fun D₁ c s₁ le₁ I₁ V₁ sm₁=>?_))
 have hk:=h.step le₁ sm₁
 have go:wpAny (model pw w) X.A (execs (bif c then b else o) X.env) (KW w X.A X.env (rest::ks) Q) F0 s₁:=by
  cases hp:p.1 with
  | k z =>
   rw [hp] at q V₁
   rw [V₁.kI]
   exact hs _ _ _ _ _ q ρ X D₁ s₁ Q rfl hX hr I₁ hk
  | u z =>
   rw [hp] at q V₁
   refine e12 (bindS q) ?_;clear q;intro r₁ e2 q
   refine e12 (bindS q) ?_;clear q;intro r₂ e3 q
   have hm:∀ D' fl s',D₁.le D'→FRR ρ X D' (bif z.den ρ then r₁ else r₂) fl s'→Same s₁ s'→Q fl s':=fun D' fl s' le fr' sm=>hk D' fl s' le (mergeFR_ok q fr') sm
   rw [V₁.uI]
   cases z':z.den ρ with
   | true=>rw [z'] at hm;exact hs _ _ _ _ _ e2 ρ X D₁ s₁ Q rfl hX hr I₁ hm
   | false=>rw [z'] at hm;exact hs _ _ _ _ _ e3 ρ X D₁ s₁ Q rfl hX hr I₁ hm
 cases c with
 | true=>exact wpAny_mono go (fun f s₂ y=>by cases f <;> first|exact y|(cases ks <;> exact y)) fun _ _ y=>y
 | false=>exact wpAny_mono go (fun f s₂ y=>by cases f <;> first|exact y|(cases ks <;> exact y)) fun _ _ y=>y
include he
theorem exFor_ok (hs:ExsOk w mean mg mb R n) {tg it:Expr}{b o:List Stmt}{pos:Pos} (q:exs1 R X.cs st (.For tg it b o pos) rest ks=some fr) (I:Inv ρ X D st s) (h:XPost ρ X D s fr Q) :
  wpAny (model pw w) X.A (execs (.For tg it b o pos::rest) X.env) (KW w X.A X.env ks Q) F0 s:=by
 refine e12 (bindS q) ?_;intro x e1 q1
 clear q
 refine e11 (nameS e1) ?_;clear e1;intro px Y1;subst Y1
 refine e02 (condS q1) ?_;intro z q2
 clear q1
 have z:=andS z
 obtain rfl:=List.isEmpty_iff.mp z.1
 have hp:=andS z.2
 refine e12 (bindS q2) ?_;clear q2;intro p e0 q3
 refine e12 (bindS q3) ?_;clear q3;intro f e2 q
 refine wpAny_execs_cons (for_ok he hs hX hr hp.1 e0 (notSet_ok hp.2) e2 I fun D₁ fl s₁ le₁ fr₁ sm₁=>?_)
 cases f with
 | next st₂ =>
  refine e02 (fr₁) ?_;try clear fr₁;intro Y0 I₁;subst Y0
  exact hs _ _ _ _ _ q ρ X D₁ s₁ Q rfl hX hr I₁ (h.step le₁ sm₁)
 | ret av st₂ =>
  (have Y0:=s1 q;try clear q;subst Y0)
  refine e13 (fr₁) ?_;clear fr₁;intro v Y1 h2 h3;subst Y1
  exact KW_ret (h D₁ _ s₁ le₁ ⟨v,rfl,h2,h3⟩ sm₁)
theorem exAssign_ok (hs:ExsOk w mean mg mb R n) {tg:List Expr}{e:Expr}{pos:Pos} (q:exs1 R X.cs st (.Assign tg e pos) rest ks=some fr) (I:Inv ρ X D st s) (h:XPost ρ X D s fr Q) :
  wpAny (model pw w) X.A (execs (.Assign tg e pos::rest) X.env) (KW w X.A X.env ks Q) F0 s:=by
 refine e12 (bindS q) ?_;clear q;intro x e1 q
 refine e12 (bindS e1) ?_;clear e1;intro y e2 e3
 refine e11 (nameS e3) ?_;clear e3;intro px Y1;subst Y1
 rw [oneS e2]
 refine e02 (condS q) ?_;clear q;intro hp q
 have hp:=andS hp
 refine e12 (bindS q) ?_;clear q;intro p e4 q
 refine wpAny_execs_cons (wpAny_Assign_Name (he _ _ _ _ _ e4 ρ X D s _ rfl hX hr I fun D₁ v s₁ le₁ I₁ V₁ sm₁=>?_) (plain_swaps hp.1 _ _ _))
 refine e21 (I₁) ?_;clear I₁;intro m P J
 refine storeX_L J.F J.N (fun h' F' N'=>?_) hX.k (isLocal_ok hp.2)
 have JS:=J.setLoc (x:=x.cps.toList) V₁ (h':=h') (by rw [S_key x];exact F') N'
 exact hs _ _ _ _ _ q ρ X D₁ _ Q rfl hX hr ⟨_,P,JS⟩ (h.step le₁ (sm₁.trans ⟨rfl,rfl,rfl⟩))
end
theorem exsStep_ok (he:EvOk w mean mg mb R n) (ht:TstOk w mean mg mb R n) (hs:ExsOk w mean mg mb R n) {l:List Stmt}{ks:List (List Stmt)}{fr:FR}{Q:Flow→Shared→Prop} (hX:X.Ok w mean mg mb ρ) (hr:Room X n)
  (q:exsStep R X.cs st l ks=some fr) (I:Inv ρ X D st s) (h:XPost ρ X D s fr Q):wpAny (model pw w) X.A (execs l X.env) (KW w X.A X.env ks Q) F0 s:=by
 cases l with
 | nil=>cases ks with
  | nil=>(have Y0:=s1 q;try clear q;subst Y0);exact wpAny_execs_nil (h D _ _ (Led.le.refl D) ⟨rfl,I⟩ (Same.refl s))
  | cons l ks=>exact wpAny_execs_nil (hs _ _ _ _ _ q ρ X D s Q rfl hX hr I h)
 | cons t rest=>cases t with
  | Expr e pos =>
   refine e02 (condS q) ?_;clear q;intro hp q
   refine e12 (bindS q) ?_;clear q;intro p e1 q
   refine e02 (condS q) ?_;clear q;intro z q
   refine wpAny_execs_cons (wpAny_Expr (he _ _ _ _ _ e1 ρ X D s _ rfl hX hr I fun D₁ v s₁ le₁ I₁ V₁ sm₁=>?_) (not_interactive hX) (plain_swaps hp _ _ _))
   rw [AV.nilS z] at V₁
   obtain rfl:=V₁.noneI
   exact hs _ _ _ _ _ q ρ X D₁ s₁ Q rfl hX hr I₁ (h.step le₁ sm₁)
  | Assign tg e pos=>exact exAssign_ok he hX hr hs q I h
  | If t b o pos=>exact exIf_ok hX hr ht hs q I h
  | For tg it b o pos=>exact exFor_ok he hX hr hs q I h
  | Return e pos =>
   refine e12 (bindS q) ?_;clear q;intro e Y1 q;subst Y1
   refine e12 (mapS q) ?_;intro p e1 Y2;subst Y2
   exact wpAny_execs_cons (wpAny_Return_some (he _ _ _ _ _ e1 ρ X D s _ rfl hX hr I fun D₁ v s₁ le₁ I₁ V₁ sm₁=>KW_ret (h D₁ _ s₁ le₁ ⟨v,rfl,V₁,I₁⟩ sm₁)))
  | _=>exact xNS q
end
end
end Nn62
end
section
open PySem PySem.W PySem.Calls PyProof.Rows
namespace Nn62
section
noncomputable def FnOk (w:World) (a:Addr) (ps:Arguments) (body:List Stmt) (sc:Scope):Prop :=
 ∃ name qual oc od osl dV kV doc pm an cdv ct,(K w.params).lookup a=some ⟨oc,od,.func (fnOf name qual ps body sc dV kV doc pm an cdv ct),osl⟩∧codeIn (K w.params) cdv qual=true ∧
  sc.isCoroutine=false∧sc.isGenerator=false∧sc.kind=.function∧(∀ x∈sc.names,x.2≠.cell) ∧
  (ps.args.map (·.arg)).Nodup∧(∀ y∈ps.args.map (·.arg),sc.names.lookup y=some .local) ∧
  (∀ (s:Shared) (vs:List Value),vs.length=ps.args.length→BindsTo s (fnOf name qual ps body sc dV kV doc pm an cdv ct) ⟨vs,[]⟩ ((ps.args.map (·.arg)).zip vs))
structure TabsAll (w:World) (mean:ExcName→Option Value) (mg mb:Str→Option Value) (T:Tabs) (o:Nat):Prop extends TabsOk w T where
 fns:∀ a st,lkA T.fns a=some st→FnOk w a (sArgs st) (sBody st) (sScope st)
 len:lkN T.glb lenN=some (.bi 0)
 hands:∀ n a args lst av lst',T.hand a args lst=some (av,lst')→CallOk w mean mg mb (n+o) (.top a) args lst av lst'
section
variable {T:Tabs}{w:World}{mean:ExcName→Option Value}{mg mb:Str→Option Value}{R:Recs}{n o:Nat}{ρ:Rho}{X:FX}{D:Led}{st st':St}{s:Shared}
theorem lookup_mem {α:Type} [BEq α] [LawfulBEq α] {β:Type}{k:α}{v:β}{l:List (α×β)} (hn:(l.map (·.1)).Nodup) (hm:(k,v)∈l):l.lookup k=some v:=by
 induction l with
 | nil=>cases hm
 | cons p r ih =>
  rw [List.map_cons,List.nodup_cons] at hn
  show (match k==p.1 with|true=>some p.2|false=>r.lookup k)=some v
  (refine zO (zC hm) ?qa ?qb;(case' qb=>clear hm;intro hm);(case' qa=>intro e))
  ·rw [← e,beq_self_eq_true]
  ·rw [show (k==p.1)=false from beq_eq_false_iff_ne.mpr fun e=>hn.1 (e▸List.mem_map.mpr ⟨(k,v),hm,rfl⟩)]
   exact ih hn.2 hm
theorem zip_mem {ns:List Str}:∀ {args:List AV}{vs:List Value}{l:Locs},zipL (ns.map (·.cps.toList)) args=some l→VRs ρ D args vs→∀ x av,lkL l x=some av→∃ v,(S x,v)∈ns.zip vs∧VR ρ D av v:=by
 induction ns with
 | nil=>intro args vs l e _ x av h;(refine e02 (condS e) ?_;clear e;intro _ e);(have Y0:=s1 e;try clear e;subst Y0);exact xNS h
 | cons y ns ih =>
  intro args vs l e V x av h
  cases args with
  | nil=>exact xNS e
  | cons a args =>
   refine e23 (V.consI) ?_;clear V;intro v us V1 V2 Y4;subst Y4
   refine e12 (mapS (show (zipL (ns.map (·.cps.toList)) args).map (fun r=>(y.cps.toList,a)::r)=some l from e)) ?_;intro r e1 Y2;subst Y2
   rcases cond2S (show (bif lnBeq y.cps.toList x then some a else lkL r x)=some av from h) with ⟨q,h⟩|⟨_,h⟩
   ·(have Y0:=s1 h;try clear h;subst Y0)
    rw [show S x=y by rw [← lnBeq_eq q,S_key]]
    (exact (i12 v (.head _) V1))
   ·refine e12 (ih e1 V2 x av h) ?_;clear ih e1 V2;intro v' h1 h2
    (exact (i12 v' (.tail _ h1) h2))
theorem zipL_len {ns:List (List Nat)}:∀ {args:List AV}{l:Locs},zipL ns args=some l→args.length=ns.length:=by
 induction ns with
 | nil=>intro args l e;rw [List.isEmpty_iff.mp (condS e).1];rfl
 | cons y ns ih=>intro args l e;cases args with
  | nil=>exact xNS e
  | cons a args=>(refine e12 (mapS (show (zipL ns args).map (fun r=>(y,a)::r)=some l from e)) ?_;intro r e1 _);exact congrArg (·+1) (ih e1)
theorem callStep_ok (H:TabsAll w mean mg mb T o) (hs:ExsOk w mean mg mb R (n+o)) {f:AV}{args:List AV}{lst lst':List (List AV)}{av:AV} (q:callStep T R f args lst=some (av,lst')):CallOk w mean mg mb (n+1+o) f args lst av lst':=by
 refine e12 (bindS q) ?_;clear q;intro a e0 q
 rw [AV.topS e0]
 (refine zO (altS q) (fun qh=>e12 qh ?qa) (fun qh=>e02 qh ?qb);(case' qb=>clear q;intro _ q);(case' qa=>clear q;intro r e1 q))
 ·(refine s2 q ?_;try clear q;intro Y0 Y1;subst Y0;subst Y1);exact H.hands _ _ _ _ _ _ e1
 refine e12 (bindS q) ?_;clear q;intro stm e1 q
 refine e02 (condS q) ?_;clear q;intro _ q
 refine e12 (bindS q) ?_;clear q;intro l e2 q
 refine e12 (bindS q) ?_;clear q;intro r e3 q
 cases r with
 | next=>exact xNS q
 | ret v st₁ =>
  refine s2 q ?_;try clear q;intro Y0 Y1;subst Y0;subst Y1
  intro ρ X D loc s vs fv Q hX hr I V Vs h
  obtain rfl:=V.topI
  refine e12_9 (H.fns _ _ e1) ?_;intro name' qual oc od osl dV kV doc pm an cdv ct h1 h2 h3 h4 h5 h6 h7 h8 h9
  refine e21 (I) ?_;clear I;intro m P J
  generalize sArgs stm=ps at e2 h1 h7 h8 h9
  generalize sBody stm=body at e3 h1 h9
  generalize sScope stm=sc at e3 h1 h3 h4 h5 h6 h8 h9
  have hlen:=zipL_len e2
  rw [List.length_map] at hlen
  have hl2:=Vs.length
  have e2':zipL ((ps.args.map (·.arg)).map (·.cps.toList)) args=some l:=by rw [List.map_map];exact e2
  refine wpAny_call (code_def (env:=X.env) (outer:=X.outer) hX.B J.F hX.K J.N hX.T rfl rfl hX.k h1 h2 (by have:=hr.1;show X.dp<_;lia) (h9 s vs (hl2.symm.trans hlen)) (fun y hy=>h8 _ (List.of_mem_zip (a:=y.1) (b:=y.2) hy).1) (fun g L' h₁ FG F' N' B' K' T'=>?_) h3 h4 h5 h6)
  let X':FX:={dp:=X.dp+1,un:=X.un+3,gd:=X.gd,cn:=qual,cs:=sc,a:=a,ccd:=cdv,cl:=[],outer:=X.env::X.outer,A₀:=X.A,base:=X.base,h₀:=g,L:=L',fx:=X.fx,hx:=X.hx}
  have okX':X'.Ok w mean mg mb ρ:=⟨B',K',T',h5,hX.held,hX.sym⟩
  have hkeys:(((ps.args.map (·.arg)).zip vs).map (·.1))=ps.args.map (·.arg):=List.map_fst_zip (by rw [List.length_map,← hlen,hl2];exact Nat.le_refl _)
  have J':InvAt ρ X' D ⟨l,lst⟩ h₁ (fun y=>((ps.args.map (·.arg)).zip vs).reverse.lookup y) P:=by
   refine ⟨F',N',fun x av ex=>?_,J.ls,J.ad,J.nd,J.dj,J.fd⟩
   refine e12 (zip_mem e2' Vs x av ex) ?_;clear e2' Vs;intro v' m1 m2
   refine (i12 v' (lookup_mem ?_ (List.mem_reverse.mpr m1)) m2)
   rw [List.map_reverse,hkeys]
   exact (List.reverse_perm _).nodup_iff.mpr h7
  have run:=hs _ _ _ _ _ e3 ρ X' D {s with heap:=h₁,toks:=s.toks+((ps.args.map (·.arg)).zip vs).length} (fun fl s'=>LeaveK X.h₀ X.L m g (fun r s'=>match r with|.ok (.ret v)=>Q v s'|.ok _=>False|.error e=>F0 e s') (match fl with|.ret v=>v|_=>.none) s')
   rfl okX' ⟨by have:=hr.1;show X.dp+1+(n+o)+60<_;lia,by have:=hr.2;show X.un+3+8*(n+o+60)<_;lia⟩ ⟨_,P,J'⟩ fun D' fl s' le fr sm=>?_
  ·exact wpAny_mono run (fun _ _ y=>y) fun _ _ y=>y.elim
  ·obtain ⟨v,rfl,V',m₂,P₂,J₂⟩:=fr
   refine leaveK_ J₂.F J₂.N fun F₃ N₃=>?_
   exact h D' v s' le ⟨m,P₂,F₃,N₃,J.loc.mono le,J₂.ls,J₂.ad,J₂.nd,J₂.dj,J₂.fd⟩ V' ⟨sm.gens,sm.drawn,sm.os⟩
theorem pure_evs {cs:Scope}{k:Nat} (hR:PureOk R) {es:List Expr}:∀ {st st':St}{l:List AV},(∀ e∈es,pureE k e=true)→evs R cs st es=some (l,st')→st'=st:=by
 induction es with
 | nil=>intro st st' l _ e;(refine s2 e ?_;try clear e;intro Y0 Y1;subst Y0;subst Y1);rfl
 | cons x r ih =>
  intro st st' l h e
  obtain ⟨_,p,q,e1,e2,e⟩:=evs_cons e
  refine p2 e ?_;try clear e;intro Y0 Y1;subst Y0;subst Y1
  rw [ih (fun y hy=>h y (.tail _ hy)) e2,(hR k cs st x (h x (.head _))).1 _ _ e1]
section
variable {k:Nat}{cs:Scope}{st st':St}{a:AV}
theorem pure_cmp1 (hR:PureOk R) {l r:Expr}{op:CmpOp} (h1:pureE k l=true) (h2:pureE k r=true) (q:evCmp1 R cs st l op r=some (a,st')):st'=st:=by
 refine e02 (condS q) ?_;clear q;intro _ q
 refine e12 (bindS q) ?_;clear q;intro p e1 q
 refine e12 (bindS q) ?_;clear q;intro u e2 q
 refine e12 (mapS q) ?_;clear q;intro v _ q
 refine p2 q ?_;try clear q;intro Y0 Y1;subst Y0;subst Y1
 rw [(hR k _ _ _ h2).1 _ _ e2,(hR k _ _ _ h1).1 _ _ e1]
theorem pure_cmp (hR:PureOk R) {l:Expr}{ops:List CmpOp}{rs:List Expr}{pos:Pos} (h:pureE (k+1) (.Compare l ops rs pos)=true) (q:evCmp R cs st l ops rs=some (a,st')):st'=st:=by
 have h:=andS h
 have h1:=andS h.2
 refine e12 (optBS h1.2) ?_;intro r e h2
 (refine zO (altS q) (fun qh=>e12 qh ?qa) (fun qh=>e02 qh ?qb);(case' qb=>intro e1 _);(case' qa=>clear q;intro op _ q))
 ·refine e12 (bindS q) ?_;clear q;intro r' e2 q
  rw [e] at e2
  (have Y0:=s1 e2;try clear e2;subst Y0)
  exact pure_cmp1 hR h1.1 h2 q
 ·rw [e1] at h;cases h.1
theorem pure_lenB {v:AV} (q:lenB v st=some (a,st')):st'=st:=by
 (refine zO (altS q) (fun qh=>e12 qh ?qa) (fun qh=>e02 qh ?qb);(case' qb=>clear q;intro _ q);(case' qa=>clear q;intro _ _ q))
 ·exact (lenV_ok q).2.2
 (refine zO (altS q) (fun qh=>e12 qh ?qa1) (fun qh=>e02 qh ?qb1);(case' qb1=>clear q;intro _ q);(case' qa1=>clear q;intro _ _ q))
 ·(refine e12 (bindS q) ?_;clear q;intro _ _ q);exact (lenV_ok q).2.2
 refine e12 (bindS q) ?_;clear q;intro _ _ q
 (refine zO (altS q) (fun qh=>e12 qh ?qa2) (fun qh=>e02 qh ?qb2);(case' qb2=>clear q;intro _ q);(case' qa2=>clear q;intro _ _ q)) <;> exact (lenV_ok q).2.2
theorem pure_len {v:AV} (q:callB 0 [v] st=some (a,st')):st'=st:=pure_lenB (v:=v) q
theorem pure_item {x y:AV} (q:itemOf x y st=some (a,st')):st'=st:=by
 (refine zO (altS q) (fun qh=>e12 qh ?qa) (fun qh=>e02 qh ?qb);(case' qb=>clear q;intro _ q);(case' qa=>clear q;intro _ _ q))
 ·(refine e12 (mapS q) ?_;clear q;intro _ _ q);(refine p2 q ?_;try clear q;intro Y0 Y1;subst Y0;subst Y1);rfl
 (refine zO (altS q) (fun qh=>e12 qh ?qa3) (fun qh=>e02 qh ?qb3);(case' qb3=>clear q;intro _ q);(case' qa3=>clear q;intro _ _ q))
 ·refine e12 (bindS q) ?_;clear q;intro _ _ q
  (refine e12 (mapS q) ?_;clear q;intro _ _ q);(refine p2 q ?_;try clear q;intro Y0 Y1;subst Y0;subst Y1);rfl
 refine e12 (bindS q) ?_;clear q;intro _ _ q
 refine e12 (bindS q) ?_;clear q;intro _ _ q
 (refine zO (cond2S q) (fun qh=>e02 qh ?qa4) (fun qh=>e02 qh ?qb4);(case' qb4=>clear q;intro _ q);(case' qa4=>clear q;intro _ q))
 ·(refine e12 (mapS q) ?_;clear q;intro _ _ q);(refine p2 q ?_;try clear q;intro Y0 Y1;subst Y0;subst Y1);rfl
 (refine zO (cond2S q) (fun qh=>e02 qh ?qa5) (fun qh=>e02 qh ?qb5);(case' qb5=>clear q;intro _ q);(case' qa5=>clear q;intro _ q))
 ·(refine e12 (mapS q) ?_;clear q;intro _ _ q);(refine p2 q ?_;try clear q;intro Y0 Y1;subst Y0;subst Y1);rfl
 refine e02 (condS q) ?_;clear q;intro _ q
 (refine s2 q ?_;try clear q;intro Y0 Y1;subst Y0;subst Y1);rfl
theorem pure_slice (k:Nat) {e:Expr} (h:pureE k e=true):sliceP e=Option.none:=by
 cases e with
 | Slice=>cases k <;> exact xFT h
 | _=>exact rfl
theorem pure_bool (hR:PureOk R) {op:BoolOp}{es:List Expr}{pos:Pos} (h:pureE (k+1) (.BoolOp op es pos)=true) (q:evBool R cs st op pos es=some (a,st')):st'=st:=by
 have h:es.all (pureE k)=true:=h
 cases es with
 | nil=>exact xNS q
 | cons e r =>
  have h:=andS h
  (refine zO (cond2S q) (fun qh=>e02 qh ?qa) (fun qh=>e02 qh ?qb);(case' qb=>clear q;intro _ q);(case' qa=>clear q;intro _ q))
  ·exact (hR k _ _ _ h.1).1 _ _ q
  ·refine e12 (bindS q) ?_;clear q;intro p e1 q
   refine e12 (bindS q) ?_;clear q;intro b _ q
   have e3:=(hR k _ _ _ h.1).1 _ _ e1
   (refine zO (cond2S q) (fun qh=>e02 qh ?qa6) (fun qh=>e02 qh ?qb6);(case' qb6=>clear q;intro _ q);(case' qa6=>clear q;intro _ q))
   ·rw [(hR (k+1) _ _ (.BoolOp op r pos) h.2).1 _ _ q,e3]
   ·(refine s2 q ?_;try clear q;intro Y0 Y1;subst Y0;subst Y1);exact e3
theorem pure_call (hlen:lkN T.glb lenN=some (.bi 0)) (hR:PureOk R) {f:Expr}{args:List Expr}{kws:List Keyword}{pos:Pos} (h:pureE (k+1) (.Call f args kws pos)=true) (q:evCall T R cs st f args kws pos=some (a,st')):st'=st:=by
 have h:=andS h
 refine e12 (optBS h.1) ?_;intro x e0 hx
 refine e12 (optBS h.2) ?_;clear h;intro y e1 hy
 refine e02 (condS q) ?_;clear q;intro _ q
 (refine zO (altS q) (fun qh=>e12 qh ?qa) (fun qh=>e02 qh ?qb);(case' qb=>intro e2 _);(case' qa=>clear q;intro x' e2 q))
 ·rw [e0] at e2
  cases e2
  rw [oneS e1] at q
  refine e12 (bindS q) ?_;clear q;intro fv e3 q
  have e3:(bif lnBeq x.cps.toList debugL then Option.none else bif isGlobal cs x then lkN T.glb x.cps.toList else Option.none)=some fv:=e3
  rw [lnBeq_eq hx] at e3
  have e3:(bif isGlobal cs x then lkN T.glb lenN else Option.none)=some fv:=e3
  refine e02 (condS e3) ?_;clear e3;intro _ e3
  rw [hlen] at e3
  cases e3
  refine e12 (bindS q) ?_;clear q;intro p e4 q
  have q:callB 0 p.1 p.2=some (a,st'):=q
  have e5:=pure_evs hR (k:=k) (by intro z hz;rw [zS hz];exact hy) (show evs R cs st [y]=some (p.1,p.2) from e4)
  obtain ⟨_,p',q',_,e6,e7⟩:=evs_cons e4
  cases e6
  rw [← e5]
  rw [e7] at q ⊢
  exact pure_len q
 ·rw [e0] at e2;cases e2
theorem pure_ev (hlen:lkN T.glb lenN=some (.bi 0)) (hR:PureOk R) {e:Expr} (h:pureE k e=true) (q:evStep T R cs st e=some (a,st')):st'=st:=by
 cases k with
 | zero=>exact xFT h
 | succ k=>cases e with
  | Constant c kk pos=>cases c <;> (first|exact xNS q|(refine s2 q ?_;try clear q;intro Y0 Y1;subst Y0;subst Y1)) <;> rfl
  | Name x pos=>(refine e12 (mapS q) ?_;clear q;intro v _ q);(refine p2 q ?_;try clear q;intro Y0 Y1;subst Y0;subst Y1);rfl
  | Attribute v x pos =>
   refine e02 (condS q) ?_;clear q;intro _ q
   refine e12 (bindS q) ?_;clear q;intro p e1 q
   refine e12 (bindS q) ?_;clear q;intro i _ q
   refine e02 (condS q) ?_;clear q;intro _ q
   refine e12 (mapS q) ?_;clear q;intro r _ q
   (refine p2 q ?_;try clear q;intro Y0 Y1;subst Y0;subst Y1);exact (hR k _ _ _ h).1 _ _ e1
  | UnaryOp op x pos=>cases op with
   | USub =>
    refine e12 (bindS q) ?_;clear q;intro p e1 q
    refine e12 (mapS q) ?_;clear q;intro _ _ q
    (refine p2 q ?_;try clear q;intro Y0 Y1;subst Y0;subst Y1);exact (hR k _ _ _ h).1 _ _ e1
   | Not =>
    refine e12 (bindS q) ?_;clear q;intro p e1 q
    (refine zO (altS q) (fun qh=>e12 qh ?qa) (fun qh=>e02 qh ?qb);(case' qb=>clear q;intro _ q);(case' qa=>clear q;intro _ _ q))
    ·(refine s2 q ?_;try clear q;intro Y0 Y1;subst Y0;subst Y1);exact (hR k _ _ _ h).1 _ _ e1
    ·refine e12 (mapS q) ?_;clear q;intro _ _ q
     (refine p2 q ?_;try clear q;intro Y0 Y1;subst Y0;subst Y1);exact (hR k _ _ _ h).1 _ _ e1
   | _=>exact xNS q
  | Compare l ops rs pos=>exact pure_cmp hR h q
  | BoolOp op es pos=>exact pure_bool hR h q
  | Subscript v i pos =>
   have h:=andS h
   (refine zO (altS q) (fun qh=>e12 qh ?qa7) (fun qh=>e02 qh ?qb7);(case' qb7=>clear q;intro _ q);(case' qa7=>intro sp e1 _))
   ·rw [pure_slice k h.2] at e1;exact xNS e1
   ·refine e12 (bindS q) ?_;clear q;intro p e1 q
    refine e12 (bindS q) ?_;clear q;intro u e2 q
    rw [pure_item q,(hR k _ _ _ h.2).1 _ _ e2,(hR k _ _ _ h.1).1 _ _ e1]
  | Call f args kws pos=>exact pure_call hlen hR h q
  | _=>exact xFT h
theorem pure_tst (hR:PureOk R) {e:Expr} (h:pureE k e=true) {a:TV} (q:tstStep R cs st e=some (a,st')):st'=st:=by
 cases k with
 | zero=>exact xFT h
 | succ k=>cases e with
  | UnaryOp op x pos =>
   refine e02 (condS q) ?_;clear q;intro _ q
   refine e12 (mapS q) ?_;clear q;intro p e1 q
   (refine p2 q ?_;try clear q;intro Y0 Y1;subst Y0;subst Y1);exact (hR k _ _ _ h).2 _ _ e1
  | BoolOp op es pos =>
   have h:es.all (pureE k)=true:=h
   cases es with
   | nil=>(refine s2 q ?_;try clear q;intro Y0 Y1;subst Y0;subst Y1);rfl
   | cons e r =>
    have h:=andS h
    obtain ⟨⟨tv,s1⟩,e1,q⟩:=bindS q
    have e3:=(hR k _ _ _ h.1).2 _ _ e1
    have h2:=(hR (k+1) cs s1 (.BoolOp op r pos) h.2).2
    cases tv with
    | k b =>
     (refine zO (cond2S q) (fun qh=>e02 qh ?qa) (fun qh=>e02 qh ?qb);(case' qb=>clear q;intro _ q);(case' qa=>clear q;intro _ q))
     ·rw [h2 _ _ q,e3]
     ·(refine s2 q ?_;try clear q;intro Y0 Y1;subst Y0;subst Y1);exact e3
    | u c =>
     refine e12 (bindS q) ?_;clear q;intro u e2 q
     refine e02 (condS q) ?_;clear q;intro _ q
     refine s2 q ?_;try clear q;intro Y0 Y1;subst Y0;subst Y1
     rw [h2 _ _ e2,e3]
  | Compare l ops rs pos=>(refine e12 (truthP_ok q) ?_;intro v e1 _);exact pure_cmp hR h e1
  | Name x pos=>(refine e12 (truthP_ok q) ?_;intro v e1 _);exact (hR (k+1) _ _ _ h).1 _ _ e1
  | Call f args kws pos=>(refine e12 (truthP_ok q) ?_;intro v e1 _);exact (hR (k+1) _ _ _ h).1 _ _ e1
  | _=>exact xNS q
end
theorem pure_ok (hlen:lkN T.glb lenN=some (.bi 0)):∀ n,PureOk (recs T n)
 | 0=>by intro _ _ _ _ _;constructor <;> (intro _ _ e;exact xNS e)
 | n+1=>fun k cs st e h=>⟨fun a st' q=>pure_ev hlen (pure_ok hlen n) h q,fun a st' q=>pure_tst (pure_ok hlen n) h q⟩
theorem recs_ok (H:TabsAll w mean mg mb T o):∀ n,EvOk w mean mg mb (recs T n) (n+o)∧TstOk w mean mg mb (recs T n) (n+o)∧ExsOk w mean mg mb (recs T n) (n+o)∧CallsOk w mean mg mb (recs T n) (n+o)
 | 0=>by refine ⟨?_,?_,?_,?_⟩ <;> (intro _ _ _ _ _ e;exact xNS e)
 | n+1=>by
  refine e04 (recs_ok H n) ?_;clear recs_ok;intro h1 h2 h3 h4
  refine (i04 (fun cs st e av st' q ρ X D s Q hc hX hr I h=>?_) (fun cs st e tv st' q ρ X D s Q hc hX hr I h=>?_) (fun cs st l ks fr q ρ X D s Q hc hX hr I h=>?_) (fun f args lst av lst' q=>callStep_ok H h3 q))
  ·subst hc;exact evStep_ok H.toTabsOk h1 h2 h4 hX (hr.down (by lia)) q I h
  ·subst hc;exact tstStep_ok (pure_ok H.len n) h1 h2 hX (hr.down (by lia)) q I h
  ·subst hc;exact exsStep_ok h1 h2 h3 hX (hr.down (by lia)) q I h
theorem run_call (H:TabsAll w mean mg mb T o) {n:Nat}{a:Nat}{args:List AV}{lst:List (List AV)}{av:AV}{lst':List (List AV)} (q:(recs T n).call (.top a) args lst=some (av,lst')):CallOk w mean mg mb (n+o) (.top a) args lst av lst' :=
 (recs_ok H n).2.2.2 _ _ _ _ _ q
end
end
end Nn62
end
section
open PySem
namespace Nn62
open PySem.W.Z (leB ltB eqB leB_iff ltB_iff eqB_iff)
section
noncomputable def dE:Expr:=.Name ⟨⟨[]⟩⟩ ⟨0,0,0,0⟩
noncomputable def passS:Stmt:=.Pass ⟨0,0,0,0⟩
noncomputable def kidE:Expr→List Expr
 | .BinOp l _ r _=>[l,r]
 | .UnaryOp _ x _=>[x]
 | .BoolOp _ es _=>es
 | .Compare l _ rs _=>l::rs
 | .IfExp t b o _=>[t,b,o]
 | .Attribute v _ _=>[v]
 | .Subscript v i _=>[v,i]
 | .Slice a b c _=>[a.getD dE,b.getD dE,c.getD dE]
 | .Tuple es _ _=>es
 | .List es _=>es
 | .Call f args _ _=>f::args
 | .ListComp e gs _ _=>e::gs.flatMap fun g=>g.target::g.iter::g.ifs
 | _=>[]
noncomputable def xPos:Expr→Pos
 | .Name _ p=>p
 | .Constant _ _ p=>p
 | .BinOp _ _ _ p=>p
 | .UnaryOp _ _ p=>p
 | .BoolOp _ _ p=>p
 | .Compare _ _ _ p=>p
 | .IfExp _ _ _ p=>p
 | .Attribute _ _ p=>p
 | .Subscript _ _ p=>p
 | .Slice _ _ _ p=>p
 | .Tuple _ _ p=>p
 | .List _ p=>p
 | .Call _ _ _ p=>p
 | .ListComp _ _ _ p=>p
 | _=>⟨0,0,0,0⟩
noncomputable def xNat:Expr→Nat
 | .Constant _ k _=>k
 | .Tuple _ k _=>k
 | _=>0
noncomputable def xSc:Expr→Scope
 | .ListComp _ _ sc _=>sc
 | _=>default
noncomputable def kidS:Stmt→List Expr×List Stmt×Pos
 | .Assign ts e p=>(ts++[e],[],p)
 | .Expr e p=>([e],[],p)
 | .Return e p=>([e.getD dE],[],p)
 | .If t b _ p=>([t],b,p)
 | .For t i b _ p=>([t,i],b,p)
 | .While t b _ p=>([t],b,p)
 | _=>([],[],⟨0,0,0,0⟩)
noncomputable def dig (n:Nat):Nat:=n % 64-1
noncomputable def navE:Nat→Expr→Nat→Expr
 | 0,e,_=>e
 | f+1,e,n=>bif Nat.beq n 0 then e else navE f ((kidE e).getD (dig n) dE) (n / 64)
noncomputable def navS:Nat→Stmt→Nat→Stmt×Nat
 | 0,s,n=>(s,n)
 | f+1,s,n=>bif Nat.ble 21 (n % 64) then navS f ((kidS s).2.1.getD (dig n-20) passS) (n / 64) else (s,n)
noncomputable def xE (e:Expr) (n:Nat):Expr:=navE 20 e n
noncomputable def xP (e:Expr) (n:Nat):Pos:=xPos (xE e n)
noncomputable def xL (e:Expr) (l:List Nat):List Pos:=l.map (xP e)
noncomputable def subE (p:Stmt×Nat):Expr:=navE 20 ((kidS p.1).1.getD (dig p.2) dE) (p.2 / 64)
noncomputable def atE (s:Stmt) (n:Nat):Expr:=subE (navS 5 s n)
noncomputable def atPP (p:Stmt×Nat):Pos:=bif Nat.beq p.2 0 then (kidS p.1).2.2 else xPos (subE p)
noncomputable def atP (s:Stmt) (n:Nat):Pos:=atPP (navS 5 s n)
noncomputable def atK (s:Stmt) (n:Nat):Nat:=xNat (atE s n)
noncomputable def atC (s:Stmt) (n:Nat):Scope:=xSc (atE s n)
noncomputable def atB (s:Stmt) (n:Nat):List Stmt:=(kidS (navS 5 s n).1).2.1
noncomputable def atL (s:Stmt) (l:List Nat):List Pos:=l.map (atP s)
noncomputable def globT:List (List Nat×AV):=[
 ([109,97,115,107],.top 68),
 ([119,114,97,112],.top 75),
 ([102,105,116,115,95,115,105,103,110,101,100],.top 82),
 ([102,105,103,117,114,101,115,95,111,102],.top 89),
 ([104,101,120,95,116,101,120,116],.top 96),
 ([111,99,116,101,116,115,95,116,101,120,116],.top 101),
 ([82,101,103],.top 174),
 ([73,109,109],.top 208),
 ([82,101,108],.top 249),
 ([77,101,109],.top 302),
 ([73,110,115,116,114,117,99,116,105,111,110],.top 355),
 ([111,112,101,114,97,110,100,95,115,105,122,101],.top 366),
 ([115,105,122,101,95,108,101,116,116,101,114],.top 373),
 ([115,105,122,101,95,119,111,114,100],.top 380),
 ([112,108,117,115,95,116,101,120,116],.top 387),
 ([115,117,109,95,116,101,120,116],.top 394),
 ([97,104,101,97,100,95,116,101,120,116],.top 401),
 ([105,115,95,103,101,110,101,114,97,108],.top 408),
 ([105,115,95,99,111,117,110,116],.top 415),
 ([109,101,109,111,114,121,95,97,116,116],.top 422),
 ([111,112,101,114,97,110,100,95,97,116,116],.top 429),
 ([115,117,102,102,105,120,95,111,102],.top 436),
 ([101,120,116,101,110,100,105,110,103,95,110,97,109,101],.top 443),
 ([105,115,95,119,105,100,101,95,99,111,110,115,116,97,110,116],.top 450),
 ([97,116,116,95,110,97,109,101],.top 457),
 ([119,105,116,104,95,112,114,101,102,105,120],.top 464),
 ([105,115,95,116,97,114,103,101,116],.top 471),
 ([116,101,120,116,115,95,97,116,116],.top 478),
 ([119,114,105,116,101,95,97,116,116],.top 485),
 ([109,101,109,111,114,121,95,105,110,116,101,108],.top 492),
 ([111,112,101,114,97,110,100,95,105,110,116,101,108],.top 499),
 ([119,114,105,116,101,95,105,110,116,101,108],.top 506),
 ([119,114,105,116,101,95,111,110,101],.top 513),
 ([119,114,105,116,101,95,114,111,119,115],.top 520),
 ([110,101,97,114,95,115,121,109,98,111,108],.top 527),
 ([116,111,108,100,95,112,108,97,99,101],.top 534),
 ([119,114,105,116,101,95,112,108,97,99,101,100],.top 541),
 ([100,117,109,112,95,114,111,119,115],.top 548),
 ([82,101,103,105,115,116,101,114],.top 600),
 ([101,97,114,108,121,95,110,97,109,101,115],.top 611),
 ([108,97,116,101,95,101,110,100,105,110,103],.top 618),
 ([103,112,114],.top 625),
 ([120,109,109],.top 632),
 ([114,105,112],.top 639),
 ([95,108,97,119,95,116,97,107,101],.top 646),
 ([95,108,97,119,95,98,97,103],.top 653),
 ([95,108,97,119,95,112,108,97,99,101],.top 660),
 ([95,108,97,119,95,119,111,114,116,104],.top 667),
 ([95,108,97,119,95,108,105,110,101],.top 674),
 ([95,108,97,119,95,110,101,97,114,101,115,116],.top 681),
 ([95,108,97,119,95,114,101,97,100,95,110,101,97,114],.top 688),
 ([95,108,97,119,95,105,115,95,112,108,97,99,101],.top 695),
 ([95,108,97,119,95,105,115,95,108,105,110,101],.top 702),
 ([95,108,97,119,95,105,115,95,100,117,109,112,101,100],.top 707),
 ([70,73,71,85,82,69,83],.str (.lit [48,49,50,51,52,53,54,55,56,57,97,98,99,100,101,102] .nil)),
 ([67,79,85,78,84,95,78,65,77,69,83],.str (.lit [114,111,108,32,114,111,114,32,114,99,108,32,114,99,114,32,115,104,108,32,115,104,114,32,115,97,114,32,115,104,108,100,32,115,104,114,100] .nil)),
 ([84,65,82,71,69,84,95,78,65,77,69,83],.str (.lit [106,109,112,32,99,97,108,108] .nil)),
 ([80,76,65,73,78,95,73,78,84,69,76],.str (.lit [99,98,119,32,99,119,100,101,32,99,100,113,101,32,99,119,100,32,99,100,113,32,99,113,111,32,109,111,118,115,100,32,99,109,112,115,100,32,115,116,111,115,100,32,108,111,100,115,100,32,115,99,97,115,100] .nil)),
 ([80,76,65,73,78,95,65,84,84],.str (.lit [99,98,116,119,32,99,119,116,108,32,99,108,116,113,32,99,119,116,100,32,99,108,116,100,32,99,113,116,111,32,109,111,118,115,108,32,99,109,112,115,108,32,115,116,111,115,108,32,108,111,100,115,108,32,115,99,97,115,108] .nil)),
 ([78,65,77,69,83,95,56],.str (.lit [97,108,32,99,108,32,100,108,32,98,108,32,115,112,108,32,98,112,108,32,115,105,108,32,100,105,108] .nil)),
 ([78,65,77,69,83,95,49,54],.str (.lit [97,120,32,99,120,32,100,120,32,98,120,32,115,112,32,98,112,32,115,105,32,100,105] .nil)),
 ([78,65,77,69,83,95,51,50],.str (.lit [101,97,120,32,101,99,120,32,101,100,120,32,101,98,120,32,101,115,112,32,101,98,112,32,101,115,105,32,101,100,105] .nil)),
 ([78,65,77,69,83,95,54,52],.str (.lit [114,97,120,32,114,99,120,32,114,100,120,32,114,98,120,32,114,115,112,32,114,98,112,32,114,115,105,32,114,100,105] .nil)),
 ([79,67,84,69,84,83,95,65,95,76,73,78,69],.int (.lit 7)),
 ([108,101,110],.bi 0),
 ([115,116,114],.bi 1),
 ([114,97,110,103,101],.bi 2),
 ([116,117,112,108,101],.bi 8),
 ([105,110,116],.bi 3),
 ([115,111,114,116,101,100],.bi 4),
 ([101,110,117,109,101,114,97,116,101],.bi 5),
 ([109,97,120],.bi 6),
 ([108,105,115,116],.bi 7)]
noncomputable def attrT:List (Nat×List Nat):=[
 (174,[107,105,110,100]),
 (174,[114,101,103,105,115,116,101,114]),
 (208,[107,105,110,100]),
 (208,[119,111,114,116,104]),
 (208,[110,97,109,101]),
 (249,[107,105,110,100]),
 (249,[119,111,114,116,104]),
 (249,[110,97,109,101]),
 (302,[107,105,110,100]),
 (302,[98,97,115,101]),
 (302,[105,110,100,101,120]),
 (302,[115,99,97,108,101]),
 (302,[119,111,114,116,104]),
 (302,[115,105,122,101]),
 (302,[115,101,103,109,101,110,116]),
 (302,[110,97,109,101]),
 (355,[110,97,109,101]),
 (355,[111,112,101,114,97,110,100,115]),
 (355,[112,114,101,102,105,120]),
 (600,[110,97,109,101]),
 (600,[107,105,110,100]),
 (600,[110,117,109,98,101,114]),
 (600,[115,105,122,101])]
noncomputable def ns174:List (List Nat):=[[107,105,110,100],[114,101,103,105,115,116,101,114]]
noncomputable def ns208:List (List Nat):=[[107,105,110,100],[119,111,114,116,104],[110,97,109,101]]
noncomputable def ns249:List (List Nat):=[[107,105,110,100],[119,111,114,116,104],[110,97,109,101]]
noncomputable def ns302:List (List Nat):=[[107,105,110,100],[98,97,115,101],[105,110,100,101,120],[115,99,97,108,101],[119,111,114,116,104],[115,105,122,101],[115,101,103,109,101,110,116],[110,97,109,101]]
noncomputable def ns355:List (List Nat):=[[110,97,109,101],[111,112,101,114,97,110,100,115],[112,114,101,102,105,120]]
noncomputable def ns600:List (List Nat):=[[110,97,109,101],[107,105,110,100],[110,117,109,98,101,114],[115,105,122,101]]
noncomputable def fnT (st:Nat→Stmt):List (Nat×Stmt):=[(68,st 5),(75,st 6),(82,st 7),(96,st 9),(366,st 18),(373,st 25),(380,st 26),(387,st 27),(394,st 28),(401,st 29),(408,st 30),(415,st 31),(422,st 32),(429,st 33),(436,st 34),(443,st 35),(450,st 36),(457,st 37),(464,st 38),(471,st 39),(478,st 40),(485,st 41),(492,st 42),(499,st 43),(506,st 44),(513,st 45),(541,st 49),(611,st 57),(618,st 58),(625,st 59),(632,st 60),(639,st 61),(660,st 65),(667,st 66),(674,st 67),(702,st 71)]
noncomputable def handedAV:AV→Bool
 | .bi _=>false
 | .opq _=>false
 | .val _=>false
 | _=>true
noncomputable def tupArg (lst:List (List AV)) (i:Nat):Option AV:=lst[i]?.bind fun l=>bif Nat.ble l.length 10000 then some (.tup l) else Option.none
noncomputable def hInst (C:Nat) (ns:List (List Nat)) (k:Nat) (pre args post:List AV) (lst:List (List AV)):Option (AV×List (List AV)):=bif Nat.beq args.length k then some (.inst C ns (pre++args++post),lst) else Option.none
noncomputable def litA (x:List Nat):AV:=.str (.lit x .nil)
noncomputable def hInstr (args:List AV) (lst:List (List AV)):Option (AV×List (List AV)):=alt (two? args) (fun p=>(p.2.loc?.bind (tupArg lst)).map fun t=>(.inst 355 ns355 [p.1,t,.str .nil],lst))
 ((three? args).bind fun p=>(p.2.1.loc?.bind (tupArg lst)).map fun t=>(.inst 355 ns355 [p.1,t,p.2.2],lst))
noncomputable def handCls (a:Nat) (args:List AV) (lst:List (List AV)):Option (AV×List (List AV)):=bif args.all handedAV then
 bif Nat.beq a 600 then hInst 600 ns600 4 [] args [] lst else
 bif Nat.beq a 174 then hInst 174 ns174 1 [litA [114,101,103]] args [] lst else
 bif Nat.beq a 208 then hInst 208 ns208 1 [litA [105,109,109]] args [.str .nil] lst else
 bif Nat.beq a 249 then hInst 249 ns249 2 [litA [114,101,108]] args [] lst else
 bif Nat.beq a 302 then hInst 302 ns302 7 [litA [109,101,109]] args [] lst else
 bif Nat.beq a 355 then hInstr args lst else Option.none else Option.none
noncomputable def isSy:AV→Bool
 | .opq k=>Nat.beq k 0
 | _=>false
theorem isSyS {v:AV} (h:isSy v=true):v=.opq 0:=by
 refine tS ?_ h
 cases v <;> first|exact trivial|exact tI fun h=>congrArg AV.opq (zE h)
noncomputable def hTake (args:List AV) (lst:List (List AV)):Option (AV×List (List AV)):=(two? args).bind fun p=>p.1.loc?.bind fun i=>p.2.lit?.bind fun m=>lst[i]?.bind fun l=>(one? l).bind fun v=>v.int?.bind fun e =>
 bif ltB 0 m&&ltB m (2 ^ 70) then some (.int (mkMod e m),setNth lst i [.int (mkDiv e m)]) else Option.none
noncomputable def hFig (args:List AV) (lst:List (List AV)):Option (AV×List (List AV)):=(two? args).bind fun p=>p.1.int?.bind fun e=>p.2.lit?.bind fun k=>bif eqB k 1&&e.within (-(2 ^ 72)) (2 ^ 72) then some (.str (.fn 0 24 e .nil),lst) else Option.none
noncomputable def hTold (args:List AV) (lst:List (List AV)):Option (AV×List (List AV)):=(two? args).bind fun p=>p.2.int?.bind fun e=>bif isSy p.1&&e.within 0 (2 ^ 64-1) then some (.str (.fn 1 100 e .nil),lst) else Option.none
noncomputable def hPlace (args:List AV) (lst:List (List AV)):Option (AV×List (List AV)):=(three? args).bind fun p=>(p.1.str?.bind fnP).bind fun f=>p.2.2.int?.bind fun e =>
 bif Nat.beq f.1 1&&(Nat.beq f.2.1 100&&(isSy p.2.1&&(f.2.2.beq e&&f.2.2.within 0 (2 ^ 64-1)))) then some (.bool true,lst) else Option.none
noncomputable def handLaw (a:Nat) (args:List AV) (lst:List (List AV)):Option (AV×List (List AV)):=bif Nat.beq a 646 then hTake args lst else bif Nat.beq a 89 then hFig args lst else bif Nat.beq a 534 then hTold args lst else bif Nat.beq a 695 then hPlace args lst else Option.none
noncomputable def handT (a:Nat) (args:List AV) (lst:List (List AV)):Option (AV×List (List AV)):=alt (handCls a args lst) some (handLaw a args lst)
noncomputable def mkT (st:Nat→Stmt):Tabs:=⟨globT,fnT st,attrT,handT⟩
end
end Nn62
end
section
open PySem PySem.W
namespace Nn62
section
noncomputable def T0:Tabs:=mkT stA
noncomputable def isT:Option (AV×List (List AV))→Bool
 | some (.bool true,_)=>true
 | _=>false
noncomputable def endV:AV:=.int (.var 9 0 (pow2-1))
noncomputable def attV:AV:=.str (.lit [97,116,116] .nil)
noncomputable def intelV:AV:=.str (.lit [105,110,116,101,108] .nil)
noncomputable def tx (l:List Nat):AV:=.str (.lit l .nil)
noncomputable def worthV:AV:=.int (.var 0 (-2147483648) 2147483647)
noncomputable def ripV:AV:=.inst 600 ns600 [tx [114,105,112],tx [114,105,112],.int (.lit 0),.int (.lit 64)]
noncomputable def memV (base index:AV) (scale size:Int) (seg name:AV):AV:=.inst 302 ns302 [tx [109,101,109],base,index,.int (.lit scale),worthV,.int (.lit size),seg,name]
noncomputable def immV:AV:=.inst 208 ns208 [tx [105,109,109],.int (.var 1 (-50) 49),.str .nil]
noncomputable def insV (n:AV) (l:List AV) (p:AV):AV:=.inst 355 ns355 [n,.tup l,p]
noncomputable def isLine (n:Nat) (sh sy:AV):Bool:=isT ((recs T0 n).call (.top 702) [sh,endV,.opq 0,sy] [])
noncomputable def shC:AV:=insV (tx [97,100,100]) [memV ripV .none 1 64 (tx [102,115]) (.str .nil),immV] (tx [108,111,99,107])
theorem t1:isLine 60 shC attV=true:=by kernel_rfl
theorem t2:isLine 60 shC intelV=true:=by kernel_rfl
end
end Nn62
end
section
open PySem PySem.W PySem.Calls PyProof.Rows
namespace Nn62
section
theorem lkN_mem {α:Type}{x:List Nat}{v:α}{l:List (List Nat×α)} (h:lkN l x=some v):(x,v)∈l:=by
 induction l with
 | nil=>exact xNS h
 | cons p r ih =>
  rcases cond2S (show (bif lnBeq p.1 x then some p.2 else lkN r x)=some v from h) with ⟨q,h⟩|⟨_,h⟩
  ·(have Y0:=s1 h;try clear h;subst Y0);rw [← lnBeq_eq q];exact .head _
  ·exact .tail _ (ih h)
theorem lkA_mem {α:Type}{x:Nat}{v:α}{l:List (Nat×α)} (h:lkA l x=some v):(x,v)∈l:=by
 induction l with
 | nil=>exact xNS h
 | cons p r ih =>
  rcases cond2S (show (bif Nat.beq p.1 x then some p.2 else lkA r x)=some v from h) with ⟨q,h⟩|⟨_,h⟩
  ·(have Y0:=s1 h;try clear h;subst Y0);rw [← zE q];exact .head _
  ·exact .tail _ (ih h)
theorem hasPair_mem {C:Nat}{x:List Nat}{l:List (Nat×List Nat)} (h:hasPair l C x=true):(C,x)∈l:=by
 induction l with
 | nil=>exact xFT h
 | cons p r ih =>
  rcases Bool.or_eq_true_iff.mp (show ((Nat.beq p.1 C&&lnBeq p.2 x)||hasPair r C x)=true from h) with q|q
  ·rw [← zE (andS q).1,← lnBeq_eq (andS q).2];exact .head _
  ·exact .tail _ (ih q)
noncomputable def nameL:List Nat:=[95,95,110,97,109,101,95,95]
theorem name_eq:("__name__":Str)=S nameL:=(Fast.ofString_ofList ['_','_','n','a','m','e','_','_']).trans rfl
theorem boot_len:bootBuiltins (S [108,101,110])=some (.builtin "len"):=by kernel_rfl
theorem boot_str:bootBuiltins (S [115,116,114])=some (.type "str"):=by kernel_rfl
theorem boot_range:bootBuiltins (S [114,97,110,103,101])=some (.type "range"):=by kernel_rfl
theorem boot_sorted:bootBuiltins (S [115,111,114,116,101,100])=some (.builtin "sorted"):=by kernel_rfl
theorem boot_max:bootBuiltins (S [109,97,120])=some (.builtin "max"):=by kernel_rfl
theorem boot_int:bootBuiltins (S [105,110,116])=some (.type "int"):=by kernel_rfl
theorem boot_enumerate:bootBuiltins (S [101,110,117,109,101,114,97,116,101])=some (.type "enumerate"):=by kernel_rfl
theorem boot_list:bootBuiltins (S [108,105,115,116])=some (.type "list"):=by kernel_rfl
theorem boot_tuple:bootBuiltins (S [116,117,112,108,101])=some (.type "tuple"):=by kernel_rfl
noncomputable def refOf:Value→Option Addr
 | .ref a=>some a
 | _=>Option.none
noncomputable def strOf?:Value→Option Str
 | .str y _=>some y
 | _=>Option.none
noncomputable def intOf?:Value→Option Int
 | .int i _=>some i
 | _=>Option.none
theorem refS {v:Value}{a:Addr} (h:refOf v=some a):v=.ref a:=inS (P:=fun a=>v=.ref a) (by cases v <;> first|exact trivial|exact rfl) h
theorem strS? {v:Value}{a:Str} (h:strOf? v=some a):∃ t,v=.str a t:=inS (P:=fun a=>∃ t,v=.str a t) (by cases v <;> first|exact trivial|exact ⟨_,rfl⟩) h
theorem intS? {v:Value}{a:Int} (h:intOf? v=some a):∃ t,v=.int a t:=inS (P:=fun a=>∃ t,v=.int a t) (by cases v <;> first|exact trivial|exact ⟨_,rfl⟩) h
noncomputable def biT:List (Nat×List Nat):=[(0,[108,101,110]),(4,[115,111,114,116,101,100]),(6,[109,97,120]),(3,[105,110,116]),(5,[101,110,117,109,101,114,97,116,101]),(7,[108,105,115,116]),(1,[115,116,114]),(2,[114,97,110,103,101]),(8,[116,117,112,108,101])]
noncomputable abbrev BiOk (p:Nat×List Nat):Prop:=bootBuiltins (S p.2)=some (biV p.1)∧lnBeq p.2 nameL=false
theorem allC {α:Type}{P:α→Prop}{a:α}{l:List α} (h:P a) (t:∀ p∈l,P p):∀ p∈a::l,P p:=List.forall_mem_cons.mpr ⟨h,t⟩
theorem allN {α:Type}{P:α→Prop}:∀ p∈([]:List α),P p:=fun _ h=>absurd h List.not_mem_nil
theorem biT_ok:∀ p∈biT,BiOk p:=allC (P:=BiOk) ⟨boot_len,rfl⟩ (allC (P:=BiOk) ⟨boot_sorted,rfl⟩ (allC (P:=BiOk) ⟨boot_max,rfl⟩ (allC (P:=BiOk) ⟨boot_int,rfl⟩ (allC (P:=BiOk) ⟨boot_enumerate,rfl⟩ (allC (P:=BiOk) ⟨boot_list,rfl⟩ (allC (P:=BiOk) ⟨boot_str,rfl⟩ (allC (P:=BiOk) ⟨boot_range,rfl⟩ (allC (P:=BiOk) ⟨boot_tuple,rfl⟩ allN))))))))
noncomputable def glbV (K:Frag) (v:Value) (av:AV):Bool:=(optB av.top? fun b=>optB (refOf v) fun a=>Nat.beq a b&&keepIn K (.ref b))||((optB av.str? fun s=>optB (strOf? v) fun y=>optB s.lit? (lnBeq y.cps.toList))||(optB av.lit? fun j=>optB (intOf? v) fun i=>PySem.W.Z.eqB i j))
noncomputable def glbChk (K:Frag) (p:List Nat×AV):Bool:=optB (nsIn K mainGlobals (S p.1)) fun o=>match o with
 | some v=>glbV K v p.2
 | Option.none=>optB p.2.bi? fun k=>hasPair biT k p.1
theorem glb_all (w:World):(globT.all (glbChk (K w.params)))=true:=by kernel_rfl
theorem attr_all (w:World):(attrT.all fun p=>attrOk (K w.params) p.1 p.2)=true:=by kernel_rfl
theorem glbV_ok {K:Frag}{v:Value}{av:AV} (h:glbV K v av=true) (ρ:Rho) (D:Led):VR ρ D av v:=by
 rcases Bool.or_eq_true_iff.mp h with h|h
 ·refine e12 (optBS h) ?_;intro b e1 h
  refine e12 (optBS h) ?_;intro a e2 h
  rw [AV.topS e1,refS e2,zE (andS h).1]
  exact .top _
 rcases Bool.or_eq_true_iff.mp h with h|h
 ·refine e12 (optBS h) ?_;intro b e1 h
  refine e12 (optBS h) ?_;intro y e2 h
  refine e12 (optBS h) ?_;intro l e3 h
  refine e11 (strS? e2) ?_;intro t ht
  rw [AV.strS e1,ht]
  have:=VR.str (ρ:=ρ) (D:=D) b t
  rw [SE.lit?_den e3,← lnBeq_eq h,S_key] at this
  exact this
 ·refine e12 (optBS h) ?_;intro b e1 h
  refine e12 (optBS h) ?_;intro y e2 h
  refine e11 (intS? e2) ?_;intro t ht
  rw [AV.litS e1,ht,(PySem.W.Z.eqB_iff _ _).mp h]
  exact .int (.lit b) t
theorem T0_ok (w:World):TabsOk w T0 where
 glb:=fun x av e=>by
  refine e12 (optBS (List.all_eq_true.mp (glb_all w) _ (lkN_mem (l:=globT) e))) ?_;intro o e1 hm
  cases o with
  | some v=>exact .inl ⟨v,e1,glbV_ok hm⟩
  | none =>
   refine e12 (optBS hm) ?_;intro k e2 hm
   refine e02 (biT_ok _ (hasPair_mem hm)) ?_;intro h1 h2
   refine .inr ⟨k,AV.biS e2,e1,h1,fun h3=>?_⟩
   rw [name_eq] at h3
   have h4:x=nameL:=congrArg (fun t:Str=>t.cps.toList) h3
   have h2:lnBeq x nameL=false:=h2
   rw [h4,lnBeq_refl] at h2
   exact xTF h2
 keep:=fun x a e=>by
  refine e12 (optBS (List.all_eq_true.mp (glb_all w) _ (lkN_mem (l:=globT) e))) ?_;intro o e1 hm
  cases o with
  | none=>exact xFT hm
  | some v =>
   rcases Bool.or_eq_true_iff.mp hm with h|h
   ·refine e12 (optBS h) ?_;intro b e2 h
    (have Y0:=s1 e2;try clear e2;subst Y0)
    refine e12 (optBS h) ?_;intro _ _ h
    exact (andS h).2
   ·exact xFT h
 attrs:=fun C x e=>List.all_eq_true.mp (attr_all w) _ (hasPair_mem (l:=attrT) e)
end
section
noncomputable def nodupB:List Str→Bool
 | []=>true
 | x::r=>(r.all fun y=>!lnBeq x.cps.toList y.cps.toList)&&nodupB r
theorem nodupB_ok {l:List Str} (h:nodupB l=true):l.Nodup:=by
 induction l with
 | nil=>exact .nil
 | cons x r ih =>
  have h:=andS h
  refine List.nodup_cons.mpr ⟨fun hx=>?_,ih h.2⟩
  have:=List.all_eq_true.mp h.1 x hx
  rw [lnBeq_refl] at this;exact xFT this
theorem lenC {α:Type}{l:List α}{n:Nat} (h:l.length=n+1):∃ a r,l=a::r∧r.length=n:=by
 cases l with
 | nil=>cases h
 | cons a r=>(exact (i22 a r rfl (Nat.succ.inj h)))
theorem len1 {α:Type}{l:List α} (h:l.length=1):∃ a,l=[a]:=by
 refine e22 (lenC h) ?_;clear h;intro a r Y2 h';subst Y2
 exact ⟨a,by rw [List.length_eq_zero_iff.mp h']⟩
theorem len2 {α:Type}{l:List α} (h:l.length=2):∃ a b,l=[a,b]:=by
 refine e22 (lenC h) ?_;clear h;intro a r Y2 h';subst Y2
 refine e11 (len1 h') ?_;clear h';intro b Y1;subst Y1
 (exact (i21 a b rfl))
theorem len3 {α:Type}{l:List α} (h:l.length=3):∃ a b c,l=[a,b,c]:=by
 refine e22 (lenC h) ?_;clear h;intro a r Y2 h';subst Y2
 refine e21 (len2 h') ?_;clear h';intro b c Y2;subst Y2
 (exact (i31 a b c rfl))
theorem len4 {α:Type}{l:List α} (h:l.length=4):∃ a b c d,l=[a,b,c,d]:=by
 refine e22 (lenC h) ?_;clear h;intro a r Y2 h';subst Y2
 refine e31 (len3 h') ?_;clear h';intro b c d Y3;subst Y3
 (exact (i41 a b c d rfl))
noncomputable def noCell:NameKind→Bool
 | .cell=>false
 | _=>true
noncomputable def isFun:ScopeKind→Bool
 | .function=>true
 | _=>false
noncomputable def fnChk (st:Stmt):Bool:=!(sScope st).isCoroutine&&!(sScope st).isGenerator&&isFun (sScope st).kind&&((sScope st).names.all fun x=>noCell x.2)&&nodupB ((sArgs st).args.map (·.arg))&&(((sArgs st).args.map (·.arg)).all (isLocal (sScope st)))
theorem fnOk_of {w:World}{a cd:Addr}{st:Stmt}{q:Str}{pm dV:Value} (h1:(K w.params).lookup a=some (fnO st q dV pm (.ref cd))) (h2:codeIn (K w.params) (.ref cd) q=true) (h3:fnChk st=true)
  (h4:∀ (s:Shared) (vs:List Value),vs.length=(sArgs st).args.length→BindsTo s (fnOf (sName st) q (sArgs st) (sBody st) (sScope st) dV .none .none pm none (.ref cd) .none) ⟨vs,[]⟩ (((sArgs st).args.map (·.arg)).zip vs)) :
  FnOk w a (sArgs st) (sBody st) (sScope st):=by
 simp only [fnChk,Bool.and_eq_true,Bool.not_eq_true'] at h3
 obtain ⟨⟨⟨⟨⟨k1,k2⟩,k3⟩,k4⟩,k5⟩,k6⟩:=h3
 refine ⟨sName st,q,.type "function",none,#[],dV,.none,.none,pm,none,.ref cd,.none,h1,h2,k1,k2,?_,fun x hx hc=>?_,nodupB_ok k5,fun y hy=>isLocal_ok (List.all_eq_true.mp k6 y hy),h4⟩
 ·cases z:(sScope st).kind <;> first|rfl|(rw [z] at k3;exact xFT k3)
 ·have:=List.all_eq_true.mp k4 x hx
  rw [hc] at this;exact xFT this
theorem fn68 (w:World):FnOk w 68 (sArgs (stA 5)) (sBody (stA 5)) (sScope (stA 5)):=by
 refine fnOk_of (dV:=.none) (cd:=67) (q:=(S [109,97,115,107])) (pm:=.str (S zq8) 194) (by kernel_rfl) (by kernel_rfl) (by kernel_rfl) fun s vs h=>?_
 have hl:(sArgs (stA 5)).args.length=1:=by kernel_rfl
 rw [hl] at h
 refine e11 (len1 h) ?_;clear h;intro v0 Y1;subst Y1
 exact BindsTo.of_eq (by kernel_rfl)
theorem fn75 (w:World):FnOk w 75 (sArgs (stA 6)) (sBody (stA 6)) (sScope (stA 6)):=by
 refine fnOk_of (dV:=.none) (cd:=74) (q:=(S [119,114,97,112])) (pm:=.str (S zq8) 194) (by kernel_rfl) (by kernel_rfl) (by kernel_rfl) fun s vs h=>?_
 have hl:(sArgs (stA 6)).args.length=2:=by kernel_rfl
 rw [hl] at h
 refine e21 (len2 h) ?_;clear h;intro v0 v1 Y2;subst Y2
 exact BindsTo.of_eq (by kernel_rfl)
theorem fn82 (w:World):FnOk w 82 (sArgs (stA 7)) (sBody (stA 7)) (sScope (stA 7)):=by
 refine fnOk_of (dV:=.none) (cd:=81) (q:=(S [102,105,116,115,95,115,105,103,110,101,100])) (pm:=.str (S zq8) 194) (by kernel_rfl) (by kernel_rfl) (by kernel_rfl) fun s vs h=>?_
 have hl:(sArgs (stA 7)).args.length=2:=by kernel_rfl
 rw [hl] at h
 refine e21 (len2 h) ?_;clear h;intro v0 v1 Y2;subst Y2
 exact BindsTo.of_eq (by kernel_rfl)
theorem fn96 (w:World):FnOk w 96 (sArgs (stA 9)) (sBody (stA 9)) (sScope (stA 9)):=by
 refine fnOk_of (dV:=.none) (cd:=95) (q:=(S [104,101,120,95,116,101,120,116])) (pm:=.str (S zq8) 194) (by kernel_rfl) (by kernel_rfl) (by kernel_rfl) fun s vs h=>?_
 have hl:(sArgs (stA 9)).args.length=1:=by kernel_rfl
 rw [hl] at h
 refine e11 (len1 h) ?_;clear h;intro v0 Y1;subst Y1
 exact BindsTo.of_eq (by kernel_rfl)
theorem fn366 (w:World):FnOk w 366 (sArgs (stA 18)) (sBody (stA 18)) (sScope (stA 18)):=by
 refine fnOk_of (dV:=.none) (cd:=365) (q:=(S [111,112,101,114,97,110,100,95,115,105,122,101])) (pm:=.str (S zq2) 299) (by kernel_rfl) (by kernel_rfl) (by kernel_rfl) fun s vs h=>?_
 have hl:(sArgs (stA 18)).args.length=1:=by kernel_rfl
 rw [hl] at h
 refine e11 (len1 h) ?_;clear h;intro v0 Y1;subst Y1
 exact BindsTo.of_eq (by kernel_rfl)
theorem fn373 (w:World):FnOk w 373 (sArgs (stA 25)) (sBody (stA 25)) (sScope (stA 25)):=by
 refine fnOk_of (dV:=.none) (cd:=372) (q:=(S [115,105,122,101,95,108,101,116,116,101,114])) (pm:=.str (S zq1) 636) (by kernel_rfl) (by kernel_rfl) (by kernel_rfl) fun s vs h=>?_
 have hl:(sArgs (stA 25)).args.length=1:=by kernel_rfl
 rw [hl] at h
 refine e11 (len1 h) ?_;clear h;intro v0 Y1;subst Y1
 exact BindsTo.of_eq (by kernel_rfl)
theorem fn380 (w:World):FnOk w 380 (sArgs (stA 26)) (sBody (stA 26)) (sScope (stA 26)):=by
 refine fnOk_of (dV:=.none) (cd:=379) (q:=(S [115,105,122,101,95,119,111,114,100])) (pm:=.str (S zq1) 636) (by kernel_rfl) (by kernel_rfl) (by kernel_rfl) fun s vs h=>?_
 have hl:(sArgs (stA 26)).args.length=1:=by kernel_rfl
 rw [hl] at h
 refine e11 (len1 h) ?_;clear h;intro v0 Y1;subst Y1
 exact BindsTo.of_eq (by kernel_rfl)
theorem fn387 (w:World):FnOk w 387 (sArgs (stA 27)) (sBody (stA 27)) (sScope (stA 27)):=by
 refine fnOk_of (dV:=.none) (cd:=386) (q:=(S [112,108,117,115,95,116,101,120,116])) (pm:=.str (S zq1) 636) (by kernel_rfl) (by kernel_rfl) (by kernel_rfl) fun s vs h=>?_
 have hl:(sArgs (stA 27)).args.length=2:=by kernel_rfl
 rw [hl] at h
 refine e21 (len2 h) ?_;clear h;intro v0 v1 Y2;subst Y2
 exact BindsTo.of_eq (by kernel_rfl)
theorem fn394 (w:World):FnOk w 394 (sArgs (stA 28)) (sBody (stA 28)) (sScope (stA 28)):=by
 refine fnOk_of (dV:=.none) (cd:=393) (q:=(S [115,117,109,95,116,101,120,116])) (pm:=.str (S zq1) 636) (by kernel_rfl) (by kernel_rfl) (by kernel_rfl) fun s vs h=>?_
 have hl:(sArgs (stA 28)).args.length=2:=by kernel_rfl
 rw [hl] at h
 refine e21 (len2 h) ?_;clear h;intro v0 v1 Y2;subst Y2
 exact BindsTo.of_eq (by kernel_rfl)
theorem fn401 (w:World):FnOk w 401 (sArgs (stA 29)) (sBody (stA 29)) (sScope (stA 29)):=by
 refine fnOk_of (dV:=.none) (cd:=400) (q:=(S [97,104,101,97,100,95,116,101,120,116])) (pm:=.str (S zq1) 636) (by kernel_rfl) (by kernel_rfl) (by kernel_rfl) fun s vs h=>?_
 have hl:(sArgs (stA 29)).args.length=1:=by kernel_rfl
 rw [hl] at h
 refine e11 (len1 h) ?_;clear h;intro v0 Y1;subst Y1
 exact BindsTo.of_eq (by kernel_rfl)
theorem fn408 (w:World):FnOk w 408 (sArgs (stA 30)) (sBody (stA 30)) (sScope (stA 30)):=by
 refine fnOk_of (dV:=.none) (cd:=407) (q:=(S [105,115,95,103,101,110,101,114,97,108])) (pm:=.str (S zq1) 636) (by kernel_rfl) (by kernel_rfl) (by kernel_rfl) fun s vs h=>?_
 have hl:(sArgs (stA 30)).args.length=1:=by kernel_rfl
 rw [hl] at h
 refine e11 (len1 h) ?_;clear h;intro v0 Y1;subst Y1
 exact BindsTo.of_eq (by kernel_rfl)
theorem fn415 (w:World):FnOk w 415 (sArgs (stA 31)) (sBody (stA 31)) (sScope (stA 31)):=by
 refine fnOk_of (dV:=.none) (cd:=414) (q:=(S [105,115,95,99,111,117,110,116])) (pm:=.str (S zq1) 636) (by kernel_rfl) (by kernel_rfl) (by kernel_rfl) fun s vs h=>?_
 have hl:(sArgs (stA 31)).args.length=2:=by kernel_rfl
 rw [hl] at h
 refine e21 (len2 h) ?_;clear h;intro v0 v1 Y2;subst Y2
 exact BindsTo.of_eq (by kernel_rfl)
theorem fn422 (w:World):FnOk w 422 (sArgs (stA 32)) (sBody (stA 32)) (sScope (stA 32)):=by
 refine fnOk_of (dV:=.none) (cd:=421) (q:=(S [109,101,109,111,114,121,95,97,116,116])) (pm:=.str (S zq1) 636) (by kernel_rfl) (by kernel_rfl) (by kernel_rfl) fun s vs h=>?_
 have hl:(sArgs (stA 32)).args.length=1:=by kernel_rfl
 rw [hl] at h
 refine e11 (len1 h) ?_;clear h;intro v0 Y1;subst Y1
 exact BindsTo.of_eq (by kernel_rfl)
theorem fn429 (w:World):FnOk w 429 (sArgs (stA 33)) (sBody (stA 33)) (sScope (stA 33)):=by
 refine fnOk_of (dV:=.none) (cd:=428) (q:=(S [111,112,101,114,97,110,100,95,97,116,116])) (pm:=.str (S zq1) 636) (by kernel_rfl) (by kernel_rfl) (by kernel_rfl) fun s vs h=>?_
 have hl:(sArgs (stA 33)).args.length=1:=by kernel_rfl
 rw [hl] at h
 refine e11 (len1 h) ?_;clear h;intro v0 Y1;subst Y1
 exact BindsTo.of_eq (by kernel_rfl)
theorem fn436 (w:World):FnOk w 436 (sArgs (stA 34)) (sBody (stA 34)) (sScope (stA 34)):=by
 refine fnOk_of (dV:=.none) (cd:=435) (q:=(S [115,117,102,102,105,120,95,111,102])) (pm:=.str (S zq1) 636) (by kernel_rfl) (by kernel_rfl) (by kernel_rfl) fun s vs h=>?_
 have hl:(sArgs (stA 34)).args.length=1:=by kernel_rfl
 rw [hl] at h
 refine e11 (len1 h) ?_;clear h;intro v0 Y1;subst Y1
 exact BindsTo.of_eq (by kernel_rfl)
theorem fn443 (w:World):FnOk w 443 (sArgs (stA 35)) (sBody (stA 35)) (sScope (stA 35)):=by
 refine fnOk_of (dV:=.none) (cd:=442) (q:=(S zq11)) (pm:=.str (S zq1) 636) (by kernel_rfl) (by kernel_rfl) (by kernel_rfl) fun s vs h=>?_
 have hl:(sArgs (stA 35)).args.length=1:=by kernel_rfl
 rw [hl] at h
 refine e11 (len1 h) ?_;clear h;intro v0 Y1;subst Y1
 exact BindsTo.of_eq (by kernel_rfl)
theorem fn450 (w:World):FnOk w 450 (sArgs (stA 36)) (sBody (stA 36)) (sScope (stA 36)):=by
 refine fnOk_of (dV:=.none) (cd:=449) (q:=(S zq10)) (pm:=.str (S zq1) 636) (by kernel_rfl) (by kernel_rfl) (by kernel_rfl) fun s vs h=>?_
 have hl:(sArgs (stA 36)).args.length=1:=by kernel_rfl
 rw [hl] at h
 refine e11 (len1 h) ?_;clear h;intro v0 Y1;subst Y1
 exact BindsTo.of_eq (by kernel_rfl)
theorem fn457 (w:World):FnOk w 457 (sArgs (stA 37)) (sBody (stA 37)) (sScope (stA 37)):=by
 refine fnOk_of (dV:=.none) (cd:=456) (q:=(S [97,116,116,95,110,97,109,101])) (pm:=.str (S zq1) 636) (by kernel_rfl) (by kernel_rfl) (by kernel_rfl) fun s vs h=>?_
 have hl:(sArgs (stA 37)).args.length=1:=by kernel_rfl
 rw [hl] at h
 refine e11 (len1 h) ?_;clear h;intro v0 Y1;subst Y1
 exact BindsTo.of_eq (by kernel_rfl)
theorem fn464 (w:World):FnOk w 464 (sArgs (stA 38)) (sBody (stA 38)) (sScope (stA 38)):=by
 refine fnOk_of (dV:=.none) (cd:=463) (q:=(S [119,105,116,104,95,112,114,101,102,105,120])) (pm:=.str (S zq1) 636) (by kernel_rfl) (by kernel_rfl) (by kernel_rfl) fun s vs h=>?_
 have hl:(sArgs (stA 38)).args.length=4:=by kernel_rfl
 rw [hl] at h
 refine e41 (len4 h) ?_;clear h;intro v0 v1 v2 v3 Y4;subst Y4
 exact BindsTo.of_eq (by kernel_rfl)
theorem fn471 (w:World):FnOk w 471 (sArgs (stA 39)) (sBody (stA 39)) (sScope (stA 39)):=by
 refine fnOk_of (dV:=.none) (cd:=470) (q:=(S [105,115,95,116,97,114,103,101,116])) (pm:=.str (S zq1) 636) (by kernel_rfl) (by kernel_rfl) (by kernel_rfl) fun s vs h=>?_
 have hl:(sArgs (stA 39)).args.length=1:=by kernel_rfl
 rw [hl] at h
 refine e11 (len1 h) ?_;clear h;intro v0 Y1;subst Y1
 exact BindsTo.of_eq (by kernel_rfl)
theorem fn478 (w:World):FnOk w 478 (sArgs (stA 40)) (sBody (stA 40)) (sScope (stA 40)):=by
 refine fnOk_of (dV:=.none) (cd:=477) (q:=(S [116,101,120,116,115,95,97,116,116])) (pm:=.str (S zq1) 636) (by kernel_rfl) (by kernel_rfl) (by kernel_rfl) fun s vs h=>?_
 have hl:(sArgs (stA 40)).args.length=1:=by kernel_rfl
 rw [hl] at h
 refine e11 (len1 h) ?_;clear h;intro v0 Y1;subst Y1
 exact BindsTo.of_eq (by kernel_rfl)
theorem fn485 (w:World):FnOk w 485 (sArgs (stA 41)) (sBody (stA 41)) (sScope (stA 41)):=by
 refine fnOk_of (dV:=.none) (cd:=484) (q:=(S [119,114,105,116,101,95,97,116,116])) (pm:=.str (S zq1) 636) (by kernel_rfl) (by kernel_rfl) (by kernel_rfl) fun s vs h=>?_
 have hl:(sArgs (stA 41)).args.length=1:=by kernel_rfl
 rw [hl] at h
 refine e11 (len1 h) ?_;clear h;intro v0 Y1;subst Y1
 exact BindsTo.of_eq (by kernel_rfl)
theorem fn492 (w:World):FnOk w 492 (sArgs (stA 42)) (sBody (stA 42)) (sScope (stA 42)):=by
 refine fnOk_of (dV:=.none) (cd:=491) (q:=(S [109,101,109,111,114,121,95,105,110,116,101,108])) (pm:=.str (S zq1) 636) (by kernel_rfl) (by kernel_rfl) (by kernel_rfl) fun s vs h=>?_
 have hl:(sArgs (stA 42)).args.length=1:=by kernel_rfl
 rw [hl] at h
 refine e11 (len1 h) ?_;clear h;intro v0 Y1;subst Y1
 exact BindsTo.of_eq (by kernel_rfl)
theorem fn499 (w:World):FnOk w 499 (sArgs (stA 43)) (sBody (stA 43)) (sScope (stA 43)):=by
 refine fnOk_of (dV:=.none) (cd:=498) (q:=(S zq15)) (pm:=.str (S zq1) 636) (by kernel_rfl) (by kernel_rfl) (by kernel_rfl) fun s vs h=>?_
 have hl:(sArgs (stA 43)).args.length=1:=by kernel_rfl
 rw [hl] at h
 refine e11 (len1 h) ?_;clear h;intro v0 Y1;subst Y1
 exact BindsTo.of_eq (by kernel_rfl)
theorem fn506 (w:World):FnOk w 506 (sArgs (stA 44)) (sBody (stA 44)) (sScope (stA 44)):=by
 refine fnOk_of (dV:=.none) (cd:=505) (q:=(S [119,114,105,116,101,95,105,110,116,101,108])) (pm:=.str (S zq1) 636) (by kernel_rfl) (by kernel_rfl) (by kernel_rfl) fun s vs h=>?_
 have hl:(sArgs (stA 44)).args.length=1:=by kernel_rfl
 rw [hl] at h
 refine e11 (len1 h) ?_;clear h;intro v0 Y1;subst Y1
 exact BindsTo.of_eq (by kernel_rfl)
theorem fn513 (w:World):FnOk w 513 (sArgs (stA 45)) (sBody (stA 45)) (sScope (stA 45)):=by
 refine fnOk_of (dV:=.none) (cd:=512) (q:=(S [119,114,105,116,101,95,111,110,101])) (pm:=.str (S zq1) 636) (by kernel_rfl) (by kernel_rfl) (by kernel_rfl) fun s vs h=>?_
 have hl:(sArgs (stA 45)).args.length=2:=by kernel_rfl
 rw [hl] at h
 refine e21 (len2 h) ?_;clear h;intro v0 v1 Y2;subst Y2
 exact BindsTo.of_eq (by kernel_rfl)
theorem fn541 (w:World):FnOk w 541 (sArgs (stA 49)) (sBody (stA 49)) (sScope (stA 49)):=by
 refine fnOk_of (dV:=.none) (cd:=540) (q:=(S [119,114,105,116,101,95,112,108,97,99,101,100])) (pm:=.str (S zq1) 636) (by kernel_rfl) (by kernel_rfl) (by kernel_rfl) fun s vs h=>?_
 have hl:(sArgs (stA 49)).args.length=4:=by kernel_rfl
 rw [hl] at h
 refine e41 (len4 h) ?_;clear h;intro v0 v1 v2 v3 Y4;subst Y4
 exact BindsTo.of_eq (by kernel_rfl)
theorem fn611 (w:World):FnOk w 611 (sArgs (stA 57)) (sBody (stA 57)) (sScope (stA 57)):=by
 refine fnOk_of (dV:=.none) (cd:=610) (q:=(S [101,97,114,108,121,95,110,97,109,101,115])) (pm:=.str (S zq5) 889) (by kernel_rfl) (by kernel_rfl) (by kernel_rfl) fun s vs h=>?_
 have hl:(sArgs (stA 57)).args.length=1:=by kernel_rfl
 rw [hl] at h
 refine e11 (len1 h) ?_;clear h;intro v0 Y1;subst Y1
 exact BindsTo.of_eq (by kernel_rfl)
theorem fn618 (w:World):FnOk w 618 (sArgs (stA 58)) (sBody (stA 58)) (sScope (stA 58)):=by
 refine fnOk_of (dV:=.none) (cd:=617) (q:=(S [108,97,116,101,95,101,110,100,105,110,103])) (pm:=.str (S zq5) 889) (by kernel_rfl) (by kernel_rfl) (by kernel_rfl) fun s vs h=>?_
 have hl:(sArgs (stA 58)).args.length=1:=by kernel_rfl
 rw [hl] at h
 refine e11 (len1 h) ?_;clear h;intro v0 Y1;subst Y1
 exact BindsTo.of_eq (by kernel_rfl)
theorem fn625 (w:World):FnOk w 625 (sArgs (stA 59)) (sBody (stA 59)) (sScope (stA 59)):=by
 refine fnOk_of (dV:=.none) (cd:=624) (q:=(S [103,112,114])) (pm:=.str (S zq5) 889) (by kernel_rfl) (by kernel_rfl) (by kernel_rfl) fun s vs h=>?_
 have hl:(sArgs (stA 59)).args.length=2:=by kernel_rfl
 rw [hl] at h
 refine e21 (len2 h) ?_;clear h;intro v0 v1 Y2;subst Y2
 exact BindsTo.of_eq (by kernel_rfl)
theorem fn632 (w:World):FnOk w 632 (sArgs (stA 60)) (sBody (stA 60)) (sScope (stA 60)):=by
 refine fnOk_of (dV:=.none) (cd:=631) (q:=(S [120,109,109])) (pm:=.str (S zq5) 889) (by kernel_rfl) (by kernel_rfl) (by kernel_rfl) fun s vs h=>?_
 have hl:(sArgs (stA 60)).args.length=1:=by kernel_rfl
 rw [hl] at h
 refine e11 (len1 h) ?_;clear h;intro v0 Y1;subst Y1
 exact BindsTo.of_eq (by kernel_rfl)
theorem fn639 (w:World):FnOk w 639 (sArgs (stA 61)) (sBody (stA 61)) (sScope (stA 61)):=by
 refine fnOk_of (dV:=.none) (cd:=638) (q:=(S [114,105,112])) (pm:=.str (S zq5) 889) (by kernel_rfl) (by kernel_rfl) (by kernel_rfl) fun s vs h=>?_
 have hl:(sArgs (stA 61)).args.length=0:=by kernel_rfl
 rw [hl] at h
 obtain rfl:=List.length_eq_zero_iff.mp h
 exact BindsTo.of_eq (by kernel_rfl)
theorem fn660 (w:World):FnOk w 660 (sArgs (stA 65)) (sBody (stA 65)) (sScope (stA 65)):=by
 refine fnOk_of (dV:=.none) (cd:=659) (q:=(S [95,108,97,119,95,112,108,97,99,101])) (pm:=.str (S zq3) 1005) (by kernel_rfl) (by kernel_rfl) (by kernel_rfl) fun s vs h=>?_
 have hl:(sArgs (stA 65)).args.length=1:=by kernel_rfl
 rw [hl] at h
 refine e11 (len1 h) ?_;clear h;intro v0 Y1;subst Y1
 exact BindsTo.of_eq (by kernel_rfl)
theorem fn667 (w:World):FnOk w 667 (sArgs (stA 66)) (sBody (stA 66)) (sScope (stA 66)):=by
 refine fnOk_of (dV:=.none) (cd:=666) (q:=(S [95,108,97,119,95,119,111,114,116,104])) (pm:=.str (S zq3) 1005) (by kernel_rfl) (by kernel_rfl) (by kernel_rfl) fun s vs h=>?_
 have hl:(sArgs (stA 66)).args.length=1:=by kernel_rfl
 rw [hl] at h
 refine e11 (len1 h) ?_;clear h;intro v0 Y1;subst Y1
 exact BindsTo.of_eq (by kernel_rfl)
theorem fn674 (w:World):FnOk w 674 (sArgs (stA 67)) (sBody (stA 67)) (sScope (stA 67)):=by
 refine fnOk_of (dV:=.none) (cd:=673) (q:=(S [95,108,97,119,95,108,105,110,101])) (pm:=.str (S zq3) 1005) (by kernel_rfl) (by kernel_rfl) (by kernel_rfl) fun s vs h=>?_
 have hl:(sArgs (stA 67)).args.length=1:=by kernel_rfl
 rw [hl] at h
 refine e11 (len1 h) ?_;clear h;intro v0 Y1;subst Y1
 exact BindsTo.of_eq (by kernel_rfl)
theorem fn702 (w:World):FnOk w 702 (sArgs (stA 71)) (sBody (stA 71)) (sScope (stA 71)):=by
 refine fnOk_of (dV:=.none) (cd:=701) (q:=(S [95,108,97,119,95,105,115,95,108,105,110,101])) (pm:=.str (S zq3) 1005) (by kernel_rfl) (by kernel_rfl) (by kernel_rfl) fun s vs h=>?_
 have hl:(sArgs (stA 71)).args.length=4:=by kernel_rfl
 rw [hl] at h
 refine e41 (len4 h) ?_;clear h;intro v0 v1 v2 v3 Y4;subst Y4
 exact BindsTo.of_eq (by kernel_rfl)
noncomputable abbrev FnP (w:World) (p:Nat×Stmt):Prop:=FnOk w p.1 (sArgs p.2) (sBody p.2) (sScope p.2)
theorem fns_all (w:World):∀ p∈fnT stA,FnP w p:=allC (P:=FnP w) (fn68 w) (allC (P:=FnP w) (fn75 w) (allC (P:=FnP w) (fn82 w) (allC (P:=FnP w) (fn96 w) (allC (P:=FnP w) (fn366 w) (allC (P:=FnP w) (fn373 w) (allC (P:=FnP w) (fn380 w) (allC (P:=FnP w) (fn387 w) (allC (P:=FnP w) (fn394 w) (allC (P:=FnP w) (fn401 w) (allC (P:=FnP w) (fn408 w) (allC (P:=FnP w) (fn415 w) (allC (P:=FnP w) (fn422 w) (allC (P:=FnP w) (fn429 w) (allC (P:=FnP w) (fn436 w) (allC (P:=FnP w) (fn443 w) (allC (P:=FnP w) (fn450 w) (allC (P:=FnP w) (fn457 w) (allC (P:=FnP w) (fn464 w) (allC (P:=FnP w) (fn471 w) (allC (P:=FnP w) (fn478 w) (allC (P:=FnP w) (fn485 w) (allC (P:=FnP w) (fn492 w) (allC (P:=FnP w) (fn499 w) (allC (P:=FnP w) (fn506 w) (allC (P:=FnP w) (fn513 w) (allC (P:=FnP w) (fn541 w) (allC (P:=FnP w) (fn611 w) (allC (P:=FnP w) (fn618 w) (allC (P:=FnP w) (fn625 w) (allC (P:=FnP w) (fn632 w) (allC (P:=FnP w) (fn639 w) (allC (P:=FnP w) (fn660 w) (allC (P:=FnP w) (fn667 w) (allC (P:=FnP w) (fn674 w) (allC (P:=FnP w) (fn702 w) (allN))))))))))))))))))))))))))))))))))))
end
section
noncomputable def setOk (K:Frag) (C:Nat) (x:List Nat):Bool :=
 findIn K (.ref C) "__setattr__"==some (some (.builtin "object.__setattr__"))&&plainOver K C&&(match takerIn K C (S x) with
  | some Option.none=>true
  | _=>false)&&hasDictIn K C
theorem set_all (w:World):(attrT.all fun p=>setOk (K w.params) p.1 p.2)=true:=by kernel_rfl
inductive EsR (ρ:Rho) (D:Led):List DictEntry→List (List Nat)→List AV→Prop
 | nil:EsR ρ D [] [] []
 | cons {h:Int}{a:List Nat}{t:Tok}{v:Value}{av:AV}{es:List DictEntry}{ns:List (List Nat)}{avs:List AV}:handedIn v=true→VR ρ D av v→EsR ρ D es ns avs→EsR ρ D (⟨h,.str (S a) t,v⟩::es) (a::ns) (av::avs)
noncomputable def memLL (x:List Nat):List (List Nat)→Bool
 | []=>false
 | y::r=>lnBeq y x||memLL x r
theorem memLL_no {x:List Nat}{l:List (List Nat)} (e:memLL x l=false):x∉l:=by
 induction l with
 | nil=>exact List.not_mem_nil
 | cons y r ih =>
  intro h
  have e:=Bool.or_eq_false_iff.mp e
  (refine zO (zC h) ?qa ?qb;(case' qb=>clear h;intro h);(case' qa=>intro Y0;subst Y0))
  ·exact lnBeq_ne e.1 rfl
  ·exact ih e.2 h
theorem isStr_S (a b:List Nat) (t:Tok):(Value.str (S a) t).isStr (S b)=decide (a=b):=by
 show ((S a)==(S b))=_
 exact S_eq a b
section
variable {ρ:Rho}{D D':Led}{es:List DictEntry}{ns:List (List Nat)}{avs:List AV}
theorem EsR.mono (le:D.le D') (h:EsR ρ D es ns avs):EsR ρ D' es ns avs:=by
 induction h with
 | nil=>exact .nil
 | cons a b _ ih=>exact .cons a (b.mono le) ih
theorem EsR.snoc {h:Int}{a:List Nat}{t:Tok}{v:Value}{av:AV} (hv:handedIn v=true) (V:VR ρ D av v) (r:EsR ρ D es ns avs):EsR ρ D (es++[⟨h,.str (S a) t,v⟩]) (ns++[a]) (avs++[av]):=by
 induction r with
 | nil=>exact .cons hv V .nil
 | cons x y _ ih=>exact .cons x y ih
theorem EsR.len (r:EsR ρ D es ns avs):es.length=ns.length:=by
 induction r with
 | nil=>rfl
 | cons _ _ _ ih=>exact congrArg (·+1) ih
theorem EsR.put {h:Int}{a:List Nat}{k v:Value} (r:EsR ρ D es ns avs) (ha:a∉ns) (n:Nat):putL (S a) h k v es=es++[⟨h,k,v⟩]∧putN (S a) es n=n+1∧(getL (S a) es).isSome=true:=by
 have key:(es.any fun e=>e.key.isStr (S a))=false∧(es.any (·.refKey))=false:=by
  induction r with
  | nil=>exact ⟨rfl,rfl⟩
  | cons x y _ ih =>
   rename_i hh b _ _ _ _ _ _ _
   refine e02 (ih fun q=>ha (.tail _ q)) ?_;intro i1 i2
   refine ⟨?_,?_⟩
   ·rw [List.any_cons,i1,Bool.or_false]
    show (Value.str (S b) _).isStr (S a)=false
    rw [isStr_S]
    exact decide_eq_false fun q=>ha (q▸.head _)
   ·rw [List.any_cons,i2,Bool.or_false];rfl
 refine (i03 ?_ ?_ ?_)
 ·have:∀ es:List DictEntry,(es.any fun e=>e.key.isStr (S a))=false→putL (S a) h k v es=es++[⟨h,k,v⟩]:=by
   intro es
   induction es with
   | nil=>intro _;rfl
   | cons e r ih =>
    intro q
    rw [List.any_cons] at q
    have q:=Bool.or_eq_false_iff.mp q
    show (if e.key.isStr (S a)=true then _ else _)=_
    rw [q.1,if_neg zF,ih q.2];rfl
  exact this es key.1
 ·unfold putN;rw [key.1,if_neg zF]
 ·unfold getL
  split
  ·rfl
  ·rw [key.2];rfl
theorem EsR.fields_aux (r:EsR ρ D es ns avs):∀ (pre:List DictEntry),ns.Nodup→(∀ a∈ns,(pre.find? fun e=>e.key.isStr (S a))=none)→FRs ρ D (pre++es) ns avs:=by
 induction r with
 | nil=>intro _ _ _;exact .nil
 | @cons h a t v av es ns avs hv V r ih =>
  intro pre hn hp
  rw [List.nodup_cons] at hn
  refine .cons ?_ hv V ?_
  ·unfold getL
   rw [List.find?_append,hp a (.head _)]
   have:(Value.str (S a) t).isStr (S a)=true:=by rw [isStr_S];exact decide_eq_true rfl
   simp [this]
  ·have:=ih (pre++[⟨h,.str (S a) t,v⟩]) hn.2 (fun b hb=>by
    rw [List.find?_append,hp b (.tail _ hb)]
    have:(Value.str (S a) t).isStr (S b)=false:=by rw [isStr_S];exact decide_eq_false fun q=>hn.1 (q▸hb)
    simp [this])
   rw [List.append_assoc] at this
   exact this
theorem EsR.fields (r:EsR ρ D es ns avs) (hn:ns.Nodup):FRs ρ D es ns avs:=EsR.fields_aux r [] hn fun _ _=>rfl
end
theorem Upd.app {d:Addr}{o o':Obj}{r r':List (Addr×Obj)} (h:Upd d o o' r r') {pre:List (Addr×Obj)} (hp:∀ p∈pre,p.1≠d):Upd d o o' (pre++r) (pre++r'):=by
 induction pre with
 | nil=>exact h
 | cons p pre ih=>exact .tail (hp p (.head _)) (ih fun q hq=>hp q (.tail _ hq))
noncomputable abbrev FX.mk2 (X:FX) (x dx:Addr) (C:Addr) (es:List DictEntry) (n:Nat):FX:={X with fx:=(x,instObj C dx)::(dx,dictOf es n)::X.fx}
section
variable {T:Tabs}{w:World}{mean:ExcName→Option Value}{mg mb:Str→Option Value}{n:Nat}{ρ:Rho}{X:FX}{D:Led}{st st':St}{s:Shared}
theorem set_ok {x dx C:Addr}{es:List DictEntry}{ns:List (List Nat)}{avs:List AV}{a:Str}{v:Value}{av:AV}{Q:Unit→Shared→Prop} (hX:(X.mk2 x dx C es n).Ok w mean mg mb ρ) (I:Inv ρ (X.mk2 x dx C es n) D st s) (hne:x≠dx) (hfx:∀ q∈X.fx,q.1≠dx)
  (hs:setOk (K w.params) C a.cps.toList=true) (E:EsR ρ D es ns avs) (ha:a.cps.toList∉ns) (hz:ns.length<100) (V:VR ρ D av v) (hv:handedIn v=true)
  (h:∀ es' n' s',Inv ρ (X.mk2 x dx C es' n') D st s'→EsR ρ D es' (ns++[a.cps.toList]) (avs++[av])→Same s s'→Q () s'):wpAny (model pw w) X.A (setAttr (.ref x) a v) Q F0 s:=by
 refine e21 (I) ?_;clear I;intro m P J
 unfold setOk at hs
 simp only [Bool.and_eq_true] at hs
 obtain ⟨⟨⟨h1,h2⟩,h3⟩,h4⟩:=hs
 rw [S_key] at h3
 refine e03 (E.put (h:=PyData.keyHash w.params a) (k:=.str a (s.toks+1)) (v:=v) ha n) ?_;clear ha;intro p1 p2 p3
 rw [S_key] at p1 p2 p3
 have hx:(x,instObj C dx)∈P++(D.imm++(X.mk2 x dx C es n).fx):=zR _ (zR _ (.head _))
 have hd:(dx,dictOf es n)∈P++(D.imm++(X.mk2 x dx C es n).fx):=zR _ (zR _ (.tail _ (.head _)))
 have hlad:dx∉D.lad:=J.dj (dx,dictOf es n) (zR _ (.tail _ (.head _)))
 have hP:∀ p∈P,p.1≠dx:=fun p hp e=>hlad (by rw [← J.ad,← e];exact List.mem_map.mpr ⟨p,hp,rfl⟩)
 have hI:∀ p∈D.imm,p.1≠dx:=fun p hp=>J.fd p hp (dx,dictOf es n) (.tail _ (.head _))
 have U:Upd dx (dictOf es n) (dictOf (es++[⟨PyData.keyHash w.params a,.str a (s.toks+1),v⟩]) (n+1)) (P++(D.imm++(X.mk2 x dx C es n).fx)) (P++(D.imm++(X.mk2 x dx C (es++[⟨PyData.keyHash w.params a,.str a (s.toks+1),v⟩]) (n+1)).fx)) :=
  Upd.app (Upd.app (.tail hne (.head hfx)) hI) hP
 have hlen:es.length=ns.length:=E.len
 refine set_dict (dx:=dx) (X₀:=hX.K) J.F J.N ⟨(J.N _ hx).1,rfl,rfl,(J.N _ hd).1⟩ rfl (beq_iff_eq.mp h1) h2 ?_ h4 p3 (Prod.ext p1 p2) U (by rw [List.length_append,hlen];show ns.length+1≤1000;(exact Nat.le_trans (by assumption) (by decide))) fun h' F' N'=>?_
 ·split at h3
  ·assumption
  ·exact xFT h3
 ·refine h (es++[⟨PyData.keyHash w.params a,.str a (s.toks+1),v⟩]) (n+1) _ ⟨m,P,F',N',J.loc,J.ls,J.ad,J.nd,fun p hp=>?_,fun p hp q hq=>?_⟩ (by have:=EsR.snoc (h:=PyData.keyHash w.params a) (a:=a.cps.toList) (t:=s.toks+1) hv V E;rw [S_key] at this;exact this) ⟨rfl,rfl,rfl⟩
  ·(refine zO (zA hp) ?qa ?qb;(case' qb=>intro z);(case' qa=>intro z))
   ·exact J.dj p (zL _ z)
   ·(refine zO (zC z) ?qa0 ?qb0;(case' qb0=>clear z;intro z);(case' qa0=>intro Y0;subst Y0))
    ·exact J.dj (x,instObj C dx) (zR _ (.head _))
    ·(refine zO (zC z) ?qa1 ?qb1;(case' qb1=>clear z;intro z);(case' qa1=>intro Y0;subst Y0))
     ·exact hlad
     ·exact J.dj p (zR _ (.tail _ (.tail _ z)))
  ·(refine zO (zC hq) ?qa2 ?qb2;(case' qb2=>clear hq;intro z);(case' qa2=>clear hq;intro Y0;subst Y0))
   ·exact J.fd p hp (x,instObj C dx) (.head _)
   ·(refine zO (zC z) ?qa3 ?qb3;(case' qb3=>clear z;intro z);(case' qa3=>intro Y0;subst Y0))
    ·exact hI p hp
    ·exact J.fd p hp q (.tail _ (.tail _ z))
theorem InvAt.pushAt {h h':Heap}{m:Str→Option Value}{P:List (Addr×Obj)} (I:InvAt ρ X D st h m P) (a:Addr) (o:Obj) (lt:∀ p∈P++(D.imm++X.fx),p.1<a) (F:Fr X.h₀ X.L h' m) (N:News X.h₀ X.L h' ((a,o)::(P++(D.imm++X.fx)))) :
  InvAt ρ X ⟨(a,o)::D.imm,D.lad⟩ st h' m P:=by
 have le:D.le ⟨(a,o)::D.imm,D.lad⟩:=⟨fun p hp=>.tail _ hp,fun _ _ e=>e⟩
 refine ⟨F,fun p hp=>?_,I.loc.mono le,I.ls.mono le,I.ad,I.nd,fun p hp=>?_,fun p hp q hq=>?_⟩
 ·refine N p ?_
  (refine zO (zA hp) ?qa ?qb;(case' qb=>intro q);(case' qa=>intro q))
  ·exact .tail _ (zL _ q)
  ·(refine zO (zC q) ?qa4 ?qb4;(case' qb4=>clear q;intro q);(case' qa4=>intro Y0;subst Y0))
   ·exact .head _
   ·exact .tail _ (zR _ q)
 ·(refine zO (zC hp) ?qa5 ?qb5;(case' qb5=>intro q);(case' qa5=>intro Y0;subst Y0))
  ·intro ha
   rw [← I.ad] at ha
   refine e12 (List.mem_map.mp ha) ?_;clear ha;intro q hq e
   have:=lt q (zL _ hq)
   rw [e] at this;exact absurd this (Nat.lt_irrefl _)
  ·exact I.dj p q
 ·(refine zO (zC hp) ?qa6 ?qb6;(case' qb6=>clear hp;intro hp);(case' qa6=>intro Y0;subst Y0))
  ·intro e
   have:=lt q (zR _ (zR _ hq))
   rw [← e] at this;exact absurd this (Nat.lt_irrefl _)
  ·exact I.fd p hp q hq
theorem handedAV_ok {av:AV}{v:Value} (h:handedAV av=true) (V:VR ρ D av v):handedIn v=true :=
 tS (P:=handedIn v=true) (by cases V <;> first|exact trivial|exact rfl) h
noncomputable def callP:Expr→Option (Expr×List Expr×List Keyword×Pos)
 | .Call f a k p=>some (f,a,k,p)
 | _=>Option.none
theorem callPS {e:Expr}{p:Expr×List Expr×List Keyword×Pos} (h:callP e=some p):e=.Call p.1 p.2.1 p.2.2.1 p.2.2.2:=inS (P:=fun p=>e=.Call p.1 p.2.1 p.2.2.1 p.2.2.2) (by cases e <;> first|exact trivial|exact rfl) h
noncomputable def asgP:Stmt→Option (List Expr×Expr)
 | .Assign t e _=>some (t,e)
 | _=>Option.none
theorem asgS {s:Stmt}{p:List Expr×Expr} (h:asgP s=some p):∃ q,s=.Assign p.1 p.2 q:=inS (P:=fun p=>∃ q,s=.Assign p.1 p.2 q) (by cases s <;> first|exact trivial|exact ⟨_,rfl⟩) h
noncomputable def rhsC (T:Tabs) (cs:Scope) (st:St) (f z:Str):Option AV:=(evFn T cs f).bind fun g=>bif optB g.bi? (Nat.beq 8) then ((evName T cs st z).bind fun v=>v.loc?.bind (tupArg st.lst)) else Option.none
noncomputable def rhsE (T:Tabs) (cs:Scope) (st:St) (e:Expr):Option AV:=alt (nameP e) (evName T cs st)
 ((callP e).bind fun c=>bif c.2.2.1.isEmpty then ((nameP c.1).bind fun f=>((one? c.2.1).bind nameP).bind fun z=>rhsC T cs st f z) else Option.none)
theorem rhs_ok (H:TabsOk w T) (hX:X.Ok w mean mg mb ρ) {e:Expr}{av:AV}{Q:Value→Shared→Prop} (q:rhsE T X.cs st e=some av) (I:Inv ρ X D st s) (h:Post ρ X D s av st Q):wpAny (model pw w) X.A (eval e X.env) Q F0 s:=by
 (refine zO (altS q) (fun qh=>e12 qh ?qa) (fun qh=>e02 qh ?qb);(case' qb=>clear q;intro _ q);(case' qa=>clear q;intro z e0 q))
 ·refine e11 (nameS e0) ?_;intro p Y1;subst Y1
  exact name_ok H hX q I h
 refine e12 (bindS q) ?_;clear q;intro c e0 q
 refine e02 (condS q) ?_;clear q;intro z q
 refine e12 (bindS q) ?_;clear q;intro f e1 q
 refine e12 (bindS q) ?_;clear q;intro x e2 q
 refine e12 (bindS e2) ?_;clear e2;intro y e3 e4
 refine e11 (nameS e1) ?_;clear e1;intro pf hf
 refine e11 (nameS e4) ?_;clear e4;intro px Y1;subst Y1
 rw [callPS e0,hf,oneS e3,List.isEmpty_iff.mp z]
 refine e12 (bindS q) ?_;clear q;intro g e5 q
 refine e02 (condS q) ?_;clear q;intro z q
 refine e12 (optBS z) ?_;clear z;intro k e6 e7
 rw [AV.biS e6,← zE e7] at e5
 refine e12 (bindS q) ?_;clear q;intro v e8 q
 refine e12 (bindS q) ?_;clear q;intro i e9 q
 rw [AV.locS e9] at e8
 refine e12 (bindS q) ?_;clear q;intro l e3 q
 refine e02 (condS q) ?_;clear q;intro hb q
 (have Y0:=s1 q;try clear q;subst Y0)
 refine Call_ (fn_ok H hX e5 I fun D₁ fv s₁ le₁ I₁ V₁ sm₁=>?_)
 (have Y:=V₁.biI;clear V₁;subst Y)
 refine callWith_type1 (T:="tuple") (args_cons (name_ok H hX e8 I₁ fun D₂ v s₂ le₂ I₂ V₂ sm₂=>args_nil ?_))
 refine e12 (V₂.locI) ?_;clear V₂;intro a hi Y2;subst Y2
 refine e21 (id I₂) ?_;clear I₂;intro m P J
 refine e23 (J.lad_get e3 hi) ?_;clear e3 hi;intro vs k _ hv hg
 have hb:=zB hb
 have hlen:=hv.length
 refine kde_tupleOf (items:=vs.toArray) (zs:=vs) J.F J.N ⟨_,hg,rfl,_,rfl⟩ (by rw [List.size_toArray];show _≤16384;omega) rfl fun Da h' F' N' lt=>?_
 exact (h.step (le₁.trans le₂) (sm₁.trans sm₂)) ⟨(Da,_)::D₂.imm,D₂.lad⟩ _ _ (Led.le_imm D₂ _) ⟨m,P,J.pushAt Da _ lt F' N'⟩ (.tup (.head _) (hv.mono (Led.le_imm D₂ _))) ⟨rfl,rfl,rfl⟩
noncomputable def lineP (s:Stmt):Option (Str×Str×Expr):=(asgP s).bind fun p=>((one? p.1).bind attrP).bind fun q=>(nameP q.1).map fun y=>(y,q.2.1,p.2)
theorem lineS {s:Stmt}{p:Str×Str×Expr} (h:lineP s=some p):∃ py pa pp,s=.Assign [.Attribute (.Name p.1 py) p.2.1 pa] p.2.2 pp:=by
 refine e12 (bindS h) ?_;clear h;intro a e1 h
 refine e12 (bindS h) ?_;clear h;intro b e2 h
 refine e12 (mapS h) ?_;clear h;intro y e3 Y2;subst Y2
 refine e12 (bindS e2) ?_;clear e2;intro c e4 e5
 refine e11 (asgS e1) ?_;clear e1;intro pp Y1;subst Y1
 refine e11 (nameS e3) ?_;clear e3;intro py hy
 rw [oneS e4,attrS e5,hy]
 (exact (i31 _ _ _ rfl))
noncomputable def lineOk (cs:Scope) (C:Nat) (self:List Nat) (ns:List (List Nat)) (p:Str×Str×Expr):Bool:=lnBeq p.1.cps.toList self&&(isLocal cs p.1&&(not (lnBeq p.1.cps.toList debugL)&&(plainValue p.2.2&&(not (memLL p.2.1.cps.toList ns)&&(hasPair attrT C p.2.1.cps.toList&&Nat.ble ns.length 50)))))
noncomputable def initGo (T:Tabs) (cs:Scope) (C:Nat) (self:List Nat) (st:St):List Stmt→List (List Nat)→List AV→Option (List (List Nat)×List AV)
 | [],ns,avs=>some (ns,avs)
 | s::rest,ns,avs=>(lineP s).bind fun p=>bif lineOk cs C self ns p then
   ((rhsE T cs st p.2.2).bind fun v=>initGo T cs C self st rest (ns++[p.2.1.cps.toList]) (avs++[v])) else Option.none
theorem initGo_sub {cs:Scope}{C:Nat}{self:List Nat}{ns':List (List Nat)}{avs':List AV} (body:List Stmt):∀ (ns:List (List Nat)) (avs:List AV),initGo T cs C self st body ns avs=some (ns',avs')→∀ av∈avs,av∈avs':=by
 induction body with
 | nil=>intro ns avs e;(refine s2 e ?_;try clear e;intro Y0 Y1;subst Y0;subst Y1);exact fun _ h=>h
 | cons s rest ih =>
  intro ns avs e av h
  refine e12 (bindS e) ?_;clear e;intro p _ e
  refine e02 (condS e) ?_;clear e;intro _ e
  refine e12 (bindS e) ?_;clear e;intro v _ e
  exact ih _ _ e av (zL _ h)
theorem initGo_ok (H:TabsOk w T) (hset:∀ C a,hasPair attrT C a=true→setOk (K w.params) C a=true) {C x dx:Addr} (hne:x≠dx) (hfx:∀ q∈X.fx,q.1≠dx) {self:List Nat} (hself:lkL st.loc self=some (.top x)) {ns':List (List Nat)}{avs':List AV} (hall:∀ av∈avs',handedAV av=true) (hX:∀ es n,(X.mk2 x dx C es n).Ok w mean mg mb ρ)
  (body:List Stmt):∀ (ns:List (List Nat)) (avs:List AV) (es:List DictEntry) (n:Nat) (D:Led) (s:Shared) (Q:Flow→Shared→Prop),initGo T X.cs C self st body ns avs=some (ns',avs') →
  Inv ρ (X.mk2 x dx C es n) D st s→EsR ρ D es ns avs →
  (∀ D' es' n' s',D.le D'→Inv ρ (X.mk2 x dx C es' n') D' st s'→EsR ρ D' es' ns' avs'→Same s s'→Q .next s')→wpAny (model pw w) X.A (execs body X.env) Q F0 s:=by
 induction body with
 | nil =>
  intro ns avs es n D s Q e I E h
  refine s2 e ?_;try clear e;intro Y0 Y1;subst Y0;subst Y1
  exact wpAny_execs_nil (h D es n s (Led.le.refl D) I E (Same.refl s))
 | cons st₀ rest ih =>
  intro ns avs es n D s Q e I E h
  refine e12 (bindS e) ?_;intro p e0 e7
  refine e02 (condS e7) ?_;intro q e8
  refine e12 (bindS e8) ?_;intro v ev e9
  clear e e7 e8
  refine e31 (lineS e0) ?_;clear e0;intro py pa pp Y3;subst Y3
  have q2:=andS q
  have q3:=andS q2.2
  have q4:=andS q3.2
  have q5:=andS q4.2
  have q6:=andS q5.2
  have q7:=andS q6.2
  have hv:handedAV v=true:=hall v (initGo_sub rest _ _ e9 v (zR _ (.head _)))
  refine wpAny_execs_cons (plainObj_wpAny_Assign_Attribute (rhs_ok (X:=X.mk2 x dx C es n) H (hX es n) ev I fun D₁ v₁ s₁ le₁ I₁ V₁ sm₁=>?_) (plain_swaps q5.1 _ _ _))
  refine e21 (id I₁) ?_;intro m P J
  refine e12 (J.loc self _ hself) ?_;clear hself;intro vx m1 m2
  (have Y:=m2.topI;clear m2;subst Y)
  rw [← lnBeq_eq q2.1,S_key] at m1
  refine nameX_L J.F m1 ?_ (hX es n).k (isLocal_ok q3.1) (not_debug (notS q4.1))
  refine set_ok (hX es n) I₁ hne hfx (hset _ _ q7.1) (E.mono le₁) (memLL_no (notS q6.1)) (Nat.lt_of_le_of_lt (zB q7.2) (by decide)) V₁ (handedAV_ok hv V₁) fun es' n' s' I' E' sm'=>?_
  exact ih _ _ es' n' D₁ s' Q e9 I' E' fun D' es'' n'' s'' le'' I'' E'' sm''=>h D' es'' n'' s'' (le₁.trans le'') I'' E'' ((sm₁.trans sm').trans sm'')
end
end
section
theorem set_all' (w:World) (C:Nat) (a:List Nat) (h:hasPair attrT C a=true):setOk (K w.params) C a=true:=List.all_eq_true.mp (set_all w) _ (hasPair_mem h)
section
variable {T:Tabs}{w:World}{mean:ExcName→Option Value}{mg mb:Str→Option Value}{n:Nat}{ρ:Rho}{X:FX}{D:Led}{st st':St}{s:Shared}
theorem methodCallG {env:Env}{A:Around}{E:Value→Shared→Prop}{o:Expr}{name:Str}{apos pos:Pos}{args:List Expr}{Q:Value→Shared→Prop} (hbase:attributeBase o name env (eval o env)=eval o env)
  (hfew:((backTo pos (starEach args env)).all (fun x=>!x.1)&&(backToKw pos (keywordEach [] env)).all (fun x=>x.1.isSome)&&decide (args.length+([]:List Keyword).length+(if ([]:List Keyword).isEmpty then 0 else 1)<30))=true)
  (hline:(apos.endLine==pos.line)=true)
  (h:wpAny (model pw w) A (eval o env) (fun ov s₁=>∀ pl,wpAny (model pw w) A (getMethod ov name pl) (fun fx s₂=>wpAny (model pw w) A (callWith pos fx.1 fx.2 (backTo pos (starEach args env)) []) Q E s₂) E s₁) E s) :
  wpAny (model pw w) A (eval (.Call (.Attribute o name apos) args [] pos) env) Q E s:=by
 rw [arm_eval_Call,hbase]
 refine wpAny_bind (wpAny_mono h (fun ov s₁ h₁=>?_) fun _ _ e=>e)
 refine wpAny_bind (wpAny_standAt ?_)
 have hform:methodCallForm (args.length+([]:List Keyword).length) (backTo pos (starEach args env)) (backToKw pos (keywordEach [] env))=true:=hfew
 have hpos:methodCallPos true o env apos pos=pure pos:=by unfold methodCallPos;simp [hline]
 unfold methodCall
 rw [hform]
 refine wpAny_bind (wpAny_holding (wpAny_mono (h₁ _) (fun fx s₂ h₂=>?_) fun _ _ e=>e))
 exact wpAny_bind (wpAny_of_eq hpos h₂)
noncomputable def opL:List Nat:=[79,112,101,114,97,110,100]
noncomputable def initL:List Nat:=[95,95,105,110,105,116,95,95]
noncomputable def kindN:List Nat:=[107,105,110,100]
theorem init_eq:("__init__":Str)=S initL:=(Fast.ofString_ofList ['_','_','i','n','i','t','_','_']).trans rfl
theorem op_in (w:World):nsIn (K w.params) mainGlobals (S opL)=some (some (.ref 139)):=by kernel_rfl
theorem op_keep (w:World):keepIn (K w.params) (.ref 115)=true:=by kernel_rfl
theorem op_get (w:World):specialIn (K w.params) (.ref 139) "__getattribute__"=some (some (.builtin "type.__getattribute__")):=by kernel_rfl
theorem op_type (w:World):typeIn (K w.params) (.ref 139)=some (.type "type"):=by kernel_rfl
theorem op_reads (w:World):readsIn (K w.params) 139 (.type "type")=true:=by kernel_rfl
theorem op_find (w:World):findCls (K w.params) (.ref 139) (.type "type") (S initL)=some (.val (.ref 115)):=by kernel_rfl
theorem fn115 (w:World):FnOk w 115 (sArgs (mtA 12 0)) (sBody (mtA 12 0)) (sScope (mtA 12 0)):=by
 refine fnOk_of (dV:=.none) (cd:=114) (q:=S [79,112,101,114,97,110,100,46,95,95,105,110,105,116,95,95]) (pm:=.str (S zq2) 299) (by kernel_rfl) (by kernel_rfl) (by kernel_rfl) fun s vs h=>?_
 have hl:(sArgs (mtA 12 0)).args.length=2:=by kernel_rfl
 rw [hl] at h
 refine e21 (len2 h) ?_;clear h;intro v0 v1 Y2;subst Y2
 exact BindsTo.of_eq (by kernel_rfl)
theorem args115:(sArgs (mtA 12 0)).args.map (·.arg)=[S [115,101,108,102],S kindN]:=by kernel_rfl
theorem body115 (x:Addr) (k:List Nat) (lst:List (List AV)):initGo T0 (sScope (mtA 12 0)) 174 [115,101,108,102] ⟨[([115,101,108,102],.top x),(kindN,.str (.lit k .nil))],lst⟩ (sBody (mtA 12 0)) [] []=some ([kindN],[.str (.lit k .nil)]) ∧
  initGo T0 (sScope (mtA 12 0)) 208 [115,101,108,102] ⟨[([115,101,108,102],.top x),(kindN,.str (.lit k .nil))],lst⟩ (sBody (mtA 12 0)) [] []=some ([kindN],[.str (.lit k .nil)]) ∧
  initGo T0 (sScope (mtA 12 0)) 249 [115,101,108,102] ⟨[([115,101,108,102],.top x),(kindN,.str (.lit k .nil))],lst⟩ (sBody (mtA 12 0)) [] []=some ([kindN],[.str (.lit k .nil)]) ∧
  initGo T0 (sScope (mtA 12 0)) 302 [115,101,108,102] ⟨[([115,101,108,102],.top x),(kindN,.str (.lit k .nil))],lst⟩ (sBody (mtA 12 0)) [] []=some ([kindN],[.str (.lit k .nil)]):=⟨by kernel_rfl,by kernel_rfl,by kernel_rfl,by kernel_rfl⟩
noncomputable def isOp (C:Nat):Bool:=Nat.beq C 174||Nat.beq C 208||Nat.beq C 249||Nat.beq C 302
theorem body115' {C:Nat} (h:isOp C=true) (x:Addr) (k:List Nat) (lst:List (List AV)):initGo T0 (sScope (mtA 12 0)) C [115,101,108,102] ⟨[([115,101,108,102],.top x),(kindN,.str (.lit k .nil))],lst⟩ (sBody (mtA 12 0)) [] []=some ([kindN],[.str (.lit k .nil)]):=by
 refine e04 (body115 x k lst) ?_;intro a b c d
 rcases Bool.or_eq_true_iff.mp h with h|h
 ·rcases Bool.or_eq_true_iff.mp h with h|h
  ·rcases Bool.or_eq_true_iff.mp h with h|h
   ·rw [zE h];exact a
   ·rw [zE h];exact b
  ·rw [zE h];exact c
 ·rw [zE h];exact d
theorem opInit_ok {C x dx:Addr}{y:Str}{k:Str}{b m:Str}{bp apos yp kpos pos ep:Pos}{kk:Nat}{Q:Flow→Shared→Prop} (hC:isOp C=true) (hne:x≠dx) (hfx:∀ q∈X.fx,q.1≠dx) (hself:lkL st.loc y.cps.toList=some (.top x)) (hX:∀ es n,(X.mk2 x dx C es n).Ok w mean mg mb ρ) (hr:X.dp<recursionLimit)
  (hb:b.cps.toList=opL) (hm:m.cps.toList=initL) (hg:isGlobal X.cs b=true) (hl:isLocal X.cs y=true) (hd:lnBeq y.cps.toList debugL=false) (hp:posLine apos pos=true)
  (I:Inv ρ (X.mk2 x dx C [] 0) D st s) (h:∀ D' es' n' s',D.le D'→Inv ρ (X.mk2 x dx C es' n') D' st s'→EsR ρ D' es' [kindN] [.str (.lit k.cps.toList .nil)]→Same s s'→Q .next s') :
  wpAny (model pw w) X.A (exec (.Expr (.Call (.Attribute (.Name b bp) m apos) [.Name y yp,.Constant (.str k) kk kpos] [] pos) ep) X.env) Q F0 s:=by
 have hX0:=hX [] 0
 refine wpAny_Expr ?_ (not_interactive (X:=X.mk2 x dx C [] 0) hX0) rfl
 have hb':b=S opL:=by rw [← hb,S_key]
 have hm':m=S initL:=by rw [← hm,S_key]
 subst hb' hm'
 refine methodCallG rfl rfl (pos_line hp) ?_
 refine e21 (id I) ?_;clear I;intro mm P J
 refine nameX_K J.F hX0.K (topRead_of hX0.T) (op_in w) ?_ hX0.k (isGlobal_ok hg) (not_debug (x:=S opL) rfl)
 intro pl
 refine method_of_cls J.F hX0.K (op_get w) (cls_val J.F hX0.K (op_type w) (op_reads w) (op_find w) rfl ?_)
 refine callWith_K hX0.K (op_keep w) (args_cons ?_) rfl rfl
 refine e12 (J.loc _ _ hself) ?_;clear hself;intro vx m1 m2
 (have Y:=m2.topI;clear m2;subst Y)
 rw [S_key] at m1
 refine nameX_L J.F m1 ?_ hX0.k (isLocal_ok hl) (not_debug hd)
 refine args_cons (Calls.Constant_str (args_nil ?_)) rfl
 refine ⟨hX0.K.keeps J.F.keep,?_⟩
 refine e12_9 (fn115 w) ?_;intro name' qual oc od osl dV kV doc pm an cdv ct h1 h2 h3 h4 h5 h6 h7 h8 h9
 have hlen:(sArgs (mtA 12 0)).args.length=2:=by have:=congrArg List.length args115;simpa using this
 rw [args115] at h8 h9
 refine wpAny_call (code_def (s:={s with toks:=s.toks+1+1}) (env:=X.env) (outer:=X.outer) hX0.B J.F hX0.K J.N hX0.T rfl rfl hX0.k h1 h2 hr (h9 _ [.ref x,.str k _] hlen.symm) (fun z hz=>h8 _ (List.of_mem_zip (a:=z.1) (b:=z.2) hz).1) (fun g L' h₁ FG F' N' B' K' T'=>?_) h3 h4 h5 h6)
 let X':FX:={dp:=X.dp+1,un:=X.un+3,gd:=X.gd,cn:=qual,cs:=sScope (mtA 12 0),a:=115,ccd:=cdv,cl:=[],outer:=X.env::X.outer,A₀:=X.A,base:=X.base,h₀:=g,L:=L',fx:=X.fx,hx:=X.hx}
 have okX':∀ es n,(X'.mk2 x dx C es n).Ok w mean mg mb ρ:=fun es n=>⟨B',K',T',h5,(hX es n).held,hX0.sym⟩
 have J':InvAt ρ (X'.mk2 x dx C [] 0) D ⟨[([115,101,108,102],.top x),(kindN,.str (.lit k.cps.toList .nil))],st.lst⟩ h₁ (fun z=>([S [115,101,108,102],S kindN].zip [.ref x,.str k (s.toks+1)]).reverse.lookup z) P:=by
  refine ⟨F',N',fun z av ez=>?_,J.ls,J.ad,J.nd,J.dj,J.fd⟩
  have V2:VRs ρ D [.top x,.str (.lit k.cps.toList .nil)] [.ref x,.str k (s.toks+1)]:=by
   refine .cons (.top x) (.cons ?_ .nil)
   have:=VR.str (ρ:=ρ) (D:=D) (.lit k.cps.toList .nil) (s.toks+1)
   rw [show (SE.lit k.cps.toList .nil).den ρ=k.cps.toList by simp [SE.den],S_key] at this
   exact this
  refine e12 (zip_mem (ns:=[S [115,101,108,102],S kindN]) (args:=[.top x,.str (.lit k.cps.toList .nil)]) rfl V2 z av ez) ?_;intro v' z1 z2
  refine (i12 v' (lookup_mem ?_ (List.mem_reverse.mpr z1)) z2)
  rw [List.map_reverse]
  exact (List.reverse_perm _).nodup_iff.mpr (nodupB_ok (l:=[S [115,101,108,102],S kindN]) rfl)
 refine wpAny_mono (initGo_ok (X:=X') (T0_ok w) (set_all' w) hne hfx (self:=[115,101,108,102]) rfl (fun av hav=>by rw [zS hav];rfl) okX' _ [] [] [] 0 D _ _ (body115' hC x k.cps.toList st.lst) ⟨_,P,J'⟩ .nil fun D' es' n' s' le I' E' sm=>?_) (fun _ _ z=>z) fun _ _ z=>z.elim
 refine e21 (I') ?_;clear I';intro m₂ P₂ J₂
 refine leaveK_ J₂.F J₂.N fun F₃ N₃=>?_
 exact h D' es' n' s' le ⟨mm,P₂,F₃,N₃,J.loc.mono le,J₂.ls,J₂.ad,J₂.nd,J₂.dj,J₂.fd⟩ E' ⟨sm.gens,sm.drawn,sm.os⟩
end
end
section
noncomputable def exprP:Stmt→Option Expr
 | .Expr e _=>some e
 | _=>Option.none
theorem exprS {s:Stmt}{e:Expr} (h:exprP s=some e):∃ p,s=.Expr e p:=inS (P:=fun e=>∃ p,s=.Expr e p) (by cases s <;> first|exact trivial|exact ⟨_,rfl⟩) h
noncomputable def strP:Expr→Option Str
 | .Constant c _ _=>match c with
  | .str k=>some k
  | _=>Option.none
 | _=>Option.none
theorem strPS {e:Expr}{k:Str} (h:strP e=some k):∃ a b,e=.Constant (.str k) a b:=inS (P:=fun k=>∃ a b,e=.Constant (.str k) a b) (by
 cases e with
 | Constant c _ _=>cases c <;> first|exact trivial|(exact (i21 _ _ rfl))
 | _=>exact trivial) h
structure OpL where
 b:Str
 m:Str
 y:Str
 k:Str
 l:Bool
noncomputable def opP (s:Stmt):Option OpL:=((exprP s).bind callP).bind fun c=>(attrP c.1).bind fun a=>(nameP a.1).bind fun b=>(two? c.2.1).bind fun t=>(nameP t.1).bind fun y=>(strP t.2).bind fun k =>
 bif c.2.2.1.isEmpty then some ⟨b,a.2.1,y,k,posLine a.2.2 c.2.2.2⟩ else Option.none
theorem opPS {s:Stmt}{q:OpL} (h:opP s=some q):∃ bp apos yp kk kpos pos ep,s=.Expr (.Call (.Attribute (.Name q.b bp) q.m apos) [.Name q.y yp,.Constant (.str q.k) kk kpos] [] pos) ep∧posLine apos pos=q.l:=by
 refine e12 (bindS h) ?_;clear h;intro c e0 h
 refine e12 (bindS h) ?_;clear h;intro a e1 h
 refine e12 (bindS h) ?_;clear h;intro b e2 h
 refine e12 (bindS h) ?_;clear h;intro t e3 h
 refine e12 (bindS h) ?_;clear h;intro y e4 h
 refine e12 (bindS h) ?_;clear h;intro k e5 h
 refine e02 (condS h) ?_;clear h;intro z h
 (have Y0:=s1 h;try clear h;subst Y0)
 refine e12 (bindS e0) ?_;clear e0;intro e e6 e7
 refine e11 (exprS e6) ?_;clear e6;intro ep Y1;subst Y1
 refine e11 (nameS e2) ?_;clear e2;intro bp hb
 refine e11 (nameS e4) ?_;clear e4;intro yp hy
 refine e21 (strPS e5) ?_;clear e5;intro kk kp hk
 exact ⟨bp,a.2.2,yp,kk,kp,c.2.2.2,ep,by rw [callPS e7,attrS e1,hb,twoS e3,hy,hk,List.isEmpty_iff.mp z],rfl⟩
noncomputable def opOk (cs:Scope) (C:Nat) (self:List Nat) (p:OpL):Bool:=isOp C&&(lnBeq p.b.cps.toList opL&&(lnBeq p.m.cps.toList initL&&(isGlobal cs p.b&&(isLocal cs p.y&&(lnBeq p.y.cps.toList self&&(not (lnBeq p.y.cps.toList debugL)&&p.l))))))
noncomputable def bodyGo (cs:Scope) (C:Nat) (self:List Nat) (st:St) (body:List Stmt):Option (List (List Nat)×List AV) :=
 alt (body.head?.bind opP) (fun p=>bif opOk cs C self p then initGo T0 cs C self st body.tail [kindN] [.str (.lit p.k.cps.toList .nil)] else Option.none) (initGo T0 cs C self st body [] [])
section
variable {w:World}{mean:ExcName→Option Value}{mg mb:Str→Option Value}{n:Nat}{ρ:Rho}{X:FX}{D:Led}{st:St}{s:Shared}
theorem bodyGo_ok {C x dx:Addr}{self:List Nat}{body:List Stmt}{ns:List (List Nat)}{avs:List AV}{Q:Flow→Shared→Prop} (e:bodyGo X.cs C self st body=some (ns,avs)) (hall:∀ av∈avs,handedAV av=true) (hne:x≠dx) (hfx:∀ q∈X.fx,q.1≠dx) (hself:lkL st.loc self=some (.top x))
  (hX:∀ es n,(X.mk2 x dx C es n).Ok w mean mg mb ρ) (hr:X.dp<recursionLimit) (I:Inv ρ (X.mk2 x dx C [] 0) D st s)
  (h:∀ D' es' n' s',D.le D'→Inv ρ (X.mk2 x dx C es' n') D' st s'→EsR ρ D' es' ns avs→Same s s'→Q .next s'):wpAny (model pw w) X.A (execs body X.env) Q F0 s:=by
 (refine zO (altS e) (fun qh=>e12 qh ?qa0) (fun qh=>e02 qh ?qb0);(case' qb0=>clear e;intro _ e);(case' qa0=>clear e;intro p e1 e))
 ·refine e02 (condS e) ?_;intro q e9
  clear e
  refine e12 (bindS e1) ?_;clear e1;intro s₀ e2 e3
  cases body with
  | nil=>exact xNS e2
  | cons s₁ rest =>
   (have Y0:=s1 e2;try clear e2;subst Y0)
   obtain ⟨bp,apos,yp,kk,kpos,pos,ep,rfl,hl⟩:=opPS e3
   have q2:=andS q
   have q3:=andS q2.2
   have q4:=andS q3.2
   have q5:=andS q4.2
   have q6:=andS q5.2
   have q7:=andS q6.2
   have q8:=andS q7.2
   refine wpAny_execs_cons (opInit_ok q2.1 hne hfx (by rw [lnBeq_eq q7.1];exact hself) hX hr (lnBeq_eq q3.1) (lnBeq_eq q4.1) q5.1 q6.1 (notS q8.1) (hl.trans q8.2) I fun D₁ es₁ n₁ s₁ le₁ I₁ E₁ sm₁=>?_)
   exact initGo_ok (T0_ok w) (set_all' w) hne hfx hself hall hX rest _ _ es₁ n₁ D₁ s₁ Q e9 I₁ E₁ fun D' es' n' s' le I' E' sm=>h D' es' n' s' (le₁.trans le) I' E' (sm₁.trans sm)
 ·exact initGo_ok (T0_ok w) (set_all' w) hne hfx hself hall hX body _ _ [] 0 D s Q e I .nil h
noncomputable def nodupL:List (List Nat)→Bool
 | []=>true
 | x::r=>not (memLL x r)&&nodupL r
theorem nodupL_ok {l:List (List Nat)} (h:nodupL l=true):l.Nodup:=by
 induction l with
 | nil=>exact .nil
 | cons x r ih=>exact List.nodup_cons.mpr ⟨memLL_no (notS (andS h).1),ih (andS h).2⟩
theorem class_ok {C fI cd:Addr}{stm:Stmt}{q:Str}{dV pm:Value}{self:List Nat}{args args':List AV}{lst:List (List AV)}{ns:List (List Nat)}{avs:List AV}
  (h1:(K w.params).lookup fI=some (fnO stm q dV pm (.ref cd))) (h2:codeIn (K w.params) (.ref cd) q=true) (h3:fnChk stm=true) (hm:makesIn (K w.params) C=true) (hi:findIn (K w.params) (.ref C) "__init__"=some (some (.ref fI))) (hf:isFn (K w.params) (.ref fI)=true)
  (hb:∀ (ρ:Rho) (D:Led) (s:Shared) (x:Addr) (vs:List Value),(K w.params).In s.heap→VRs ρ D args vs→∃ us,VRs ρ D args' us ∧
   BindsTo s (fnOf (sName stm) q (sArgs stm) (sBody stm) (sScope stm) dV .none .none pm none (.ref cd) .none) ⟨.ref x::vs,[]⟩ (((sArgs stm).args.map (·.arg)).zip (.ref x::us)))
  (hrun:∀ x,∃ l,zipL (((sArgs stm).args.map (·.arg)).map (·.cps.toList)) (.top x::args')=some l∧lkL l self=some (.top x)∧bodyGo (sScope stm) C self ⟨l,lst⟩ (sBody stm)=some (ns,avs)) (hn:nodupL ns=true) (hall:∀ av∈avs,handedAV av=true) :
  CallOk w mean mg mb n (.top C) args lst (.inst C ns avs) lst:=by
 intro ρ X D loc s vs fv Q hX hr I V Vs h
 obtain rfl:=V.topI
 refine e21 (I) ?_;clear I;intro m P J
 simp only [fnChk,Bool.and_eq_true,Bool.not_eq_true'] at h3
 obtain ⟨⟨⟨⟨⟨k1,k2⟩,k3⟩,k4⟩,k5⟩,k6⟩:=h3
 have k3:(sScope stm).kind=.function:=by cases z:(sScope stm).kind <;> first|rfl|(rw [z] at k3;exact xFT k3)
 refine call_cls J.F hX.K J.N hm hi hf fun x dx h' F' N' lt1 lt2=>?_
 refine e12 (hb ρ D {s with heap:=h'} x vs (hX.K.keeps F'.keep) Vs) ?_;clear hb Vs;intro us Us hbind
 refine e13 (hrun x) ?_;clear hrun;intro l l1 l2 l3
 refine code_def (s:={s with heap:=h'}) (env:=X.env) (outer:=X.outer) hX.B F' hX.K N' hX.T rfl rfl hX.k h1 h2 (by have:=hr.1;show X.dp+1<_;lia) hbind (fun z hz=>isLocal_ok (List.all_eq_true.mp k6 _ (List.of_mem_zip (a:=z.1) (b:=z.2) hz).1)) (fun g L' h₁ FG F₁ N₁ B₁ K₁ T₁=>?_) k1 k2 k3 (fun z hz hc=>by
  have:=List.all_eq_true.mp k4 z hz
  rw [hc] at this;exact xFT this)
 let A':Around:=X.A.under (.builtin "type.__call__" ⟨.ref C::vs,[]⟩)
 let X':FX:={dp:=A'.depth+1,un:=A'.units+3,gd:=A'.guards,cn:=q,cs:=sScope stm,a:=fI,ccd:=.ref cd,cl:=[],outer:=X.env::X.outer,A₀:=A',base:=X.base,h₀:=g,L:=L',fx:=X.fx,hx:=X.hx}
 have hlt:∀ p∈P++(D.imm++X.fx),p.1<dx:=lt1
 have hne:x≠dx:=(Nat.ne_of_lt lt2).symm
 have hfx:∀ p∈X.fx,p.1<dx:=fun p hp=>hlt p (zR _ (zR _ hp))
 have hlad:∀ a∈D.lad,a<dx:=fun a ha=>by
  rw [← J.ad] at ha
  refine e12 (List.mem_map.mp ha) ?_;intro p hp Y2;subst Y2
  exact hlt p (zL _ hp)
 have himm:∀ p∈D.imm,p.1<dx:=fun p hp=>hlt p (zR _ (zL _ hp))
 have okX':∀ es n,(X'.mk2 x dx C es n).Ok w mean mg mb ρ:=fun es n=>⟨B₁,K₁,T₁,k3,fun p hp=>.tail _ (.tail _ (hX.held p hp)),hX.sym⟩
 have J':InvAt ρ (X'.mk2 x dx C [] 0) D ⟨l,lst⟩ h₁ (fun z=>(((sArgs stm).args.map (·.arg)).zip (.ref x::us)).reverse.lookup z) P:=by
  refine ⟨F₁,fun p hp=>N₁ p ?_,fun z av ez=>?_,J.ls,J.ad,J.nd,fun p hp=>?_,fun p hp r hr'=>?_⟩
  ·(refine zO (zA hp) ?qa1 ?qb1;(case' qb1=>intro z);(case' qa1=>intro z))
   ·exact .tail _ (.tail _ (zL _ z))
   ·(refine zO (zA z) ?qa2 ?qb2;(case' qb2=>clear z;intro z);(case' qa2=>clear z;intro z))
    ·exact .tail _ (.tail _ (zR _ (zL _ z)))
    ·(refine zO (zC z) ?qa3 ?qb3;(case' qb3=>clear z;intro z);(case' qa3=>intro Y0;subst Y0))
     ·exact .head _
     ·(refine zO (zC z) ?qa4 ?qb4;(case' qb4=>clear z;intro z);(case' qa4=>intro Y0;subst Y0))
      ·exact .tail _ (.head _)
      ·exact .tail _ (.tail _ (zR _ (zR _ z)))
  ·refine e12 (zip_mem l1 (.cons (.top x) Us) z av ez) ?_;clear ez;intro v' z1 z2
   refine (i12 v' (lookup_mem ?_ (List.mem_reverse.mpr z1)) z2)
   rw [List.map_reverse]
   refine (List.reverse_perm _).nodup_iff.mpr ?_
   have:=zipL_len l1
   rw [List.map_fst_zip (by have h5:=Us.length;simp only [List.length_map,List.length_cons] at this ⊢;lia)]
   exact nodupB_ok k5
  ·(refine zO (zA hp) ?qa5 ?qb5;(case' qb5=>intro z);(case' qa5=>intro z))
   ·exact J.dj p (zL _ z)
   ·(refine zO (zC z) ?qa6 ?qb6;(case' qb6=>clear z;intro z);(case' qa6=>intro Y0;subst Y0))
    ·intro ha;exact absurd (Nat.lt_trans (hlad _ ha) lt2) (Nat.lt_irrefl _)
    ·(refine zO (zC z) ?qa7 ?qb7;(case' qb7=>clear z;intro z);(case' qa7=>intro Y0;subst Y0))
     ·intro ha;exact absurd (hlad _ ha) (Nat.lt_irrefl _)
     ·exact J.dj p (zR _ z)
  ·(refine zO (zC hr') ?qa8 ?qb8;(case' qb8=>intro z);(case' qa8=>intro Y0;subst Y0))
   ·exact Nat.ne_of_lt (Nat.lt_trans (himm p hp) lt2)
   ·(refine zO (zC z) ?qa9 ?qb9;(case' qb9=>clear z;intro z);(case' qa9=>intro Y0;subst Y0))
    ·exact Nat.ne_of_lt (himm p hp)
    ·exact J.fd p hp r z
 refine wpAny_mono (bodyGo_ok (X:=X') l3 hall hne (fun p hp=>Nat.ne_of_lt (hfx p hp)) l2 okX' (by have:=hr.1;show X.dp+1+1<_;lia) ⟨_,P,J'⟩ fun D' es' n' s' le I' E' sm=>?_) (fun _ _ z=>z) fun _ _ z=>z.elim
 refine e21 (I') ?_;clear I';intro m₂ P₂ J₂
 refine leaveK_ J₂.F J₂.N fun F₃ N₃=>⟨rfl,?_⟩
 have hf':∀ p∈X.fx,p.1≠x∧p.1≠dx:=fun p hp=>⟨Nat.ne_of_lt (Nat.lt_trans (hfx p hp) lt2),Nat.ne_of_lt (hfx p hp)⟩
 let D₂:Led:=⟨(x,instObj C dx)::(dx,dictOf es' n')::D'.imm,D'.lad⟩
 have le2:D'.le D₂:=⟨fun p hp=>.tail _ (.tail _ hp),fun _ _ e=>e⟩
 refine h D₂ _ s' (le.trans le2) ⟨m,P₂,F₃,fun p hp=>N₃ p ?_,J.loc.mono (le.trans le2),J₂.ls.mono le2,J₂.ad,J₂.nd,fun p hp=>?_,fun p hp r hr'=>?_⟩ (.inst (.head _) (.tail _ (.head _)) ((E'.mono le2).fields (nodupL_ok hn))) ⟨sm.gens,sm.drawn,sm.os⟩
 ·(refine zO (zA hp) ?qa10 ?qb10;(case' qb10=>intro z);(case' qa10=>intro z))
  ·exact zL _ z
  ·(refine zO (zA z) ?qa11 ?qb11;(case' qb11=>clear z;intro z);(case' qa11=>clear z;intro z))
   ·(refine zO (zC z) ?qa12 ?qb12;(case' qb12=>clear z;intro z);(case' qa12=>intro Y0;subst Y0))
    ·exact zR _ (zR _ (.head _))
    ·(refine zO (zC z) ?qa13 ?qb13;(case' qb13=>clear z;intro z);(case' qa13=>intro Y0;subst Y0))
     ·exact zR _ (zR _ (.tail _ (.head _)))
     ·exact zR _ (zL _ z)
   ·exact zR _ (zR _ (.tail _ (.tail _ z)))
 ·(refine zO (zA hp) ?qa14 ?qb14;(case' qb14=>intro z);(case' qa14=>intro z))
  ·(refine zO (zC z) ?qa15 ?qb15;(case' qb15=>clear z;intro z);(case' qa15=>intro Y0;subst Y0))
   ·exact J₂.dj (x,instObj C dx) (zR _ (.head _))
   ·(refine zO (zC z) ?qa16 ?qb16;(case' qb16=>clear z;intro z);(case' qa16=>intro Y0;subst Y0))
    ·exact J₂.dj (dx,dictOf es' n') (zR _ (.tail _ (.head _)))
    ·exact J₂.dj p (zL _ z)
  ·exact J₂.dj p (zR _ (.tail _ (.tail _ z)))
 ·(refine zO (zC hp) ?qa17 ?qb17;(case' qb17=>clear hp;intro z);(case' qa17=>clear hp;intro Y0;subst Y0))
  ·exact fun e=>(hf' r hr').1 e.symm
  ·(refine zO (zC z) ?qa18 ?qb18;(case' qb18=>clear z;intro z);(case' qa18=>intro Y0;subst Y0))
   ·exact fun e=>(hf' r hr').2 e.symm
   ·exact J₂.fd p z r (.tail _ (.tail _ hr'))
end
end
section
section
variable {w:World}{mean:ExcName→Option Value}{mg mb:Str→Option Value}{n:Nat}{lst:List (List AV)}
theorem cls600 {a0:AV}{a1:AV}{a2:AV}{a3:AV} (ha0:handedAV a0=true) (ha1:handedAV a1=true) (ha2:handedAV a2=true) (ha3:handedAV a3=true):CallOk w mean mg mb n (.top 600) [a0,a1,a2,a3] lst (.inst 600 ns600 [a0,a1,a2,a3]) lst:=by
 refine class_ok (fI:=562) (cd:=561) (stm:=(mtA 56 0)) (q:=(S [82,101,103,105,115,116,101,114,46,95,95,105,110,105,116,95,95])) (dV:=.none) (pm:=.str (S zq5) 889) (self:=[115,101,108,102]) (args':=[a0,a1,a2,a3]) (by kernel_rfl) (by kernel_rfl) (by kernel_rfl) (by kernel_rfl) (by kernel_rfl) (by kernel_rfl) (fun ρ D s x vs X V=>?_)
  (fun x=>⟨[([115,101,108,102],.top x),([110,97,109,101],a0),([107,105,110,100],a1),([110,117,109,98,101,114],a2),([115,105,122,101],a3)],by kernel_rfl,rfl,by kernel_rfl⟩) rfl ?_
 ·refine e23 (VRs.consI V) ?_;clear V;intro v0 r0 V0 W0 Y4;subst Y4
  refine e23 (W0.consI) ?_;clear W0;intro v1 r1 V1 W1 Y4;subst Y4
  refine e23 (W1.consI) ?_;clear W1;intro v2 r2 V2 W2 Y4;subst Y4
  refine e23 (W2.consI) ?_;clear W2;intro v3 r3 V3 W3 Y4;subst Y4
  (have Y:=W3.nilI;clear W3;subst Y)
  (exact (i12 ([v0,v1,v2,v3]) ((.cons V0 (.cons V1 (.cons V2 (.cons V3 .nil))))) (BindsTo.of_eq (by kernel_rfl))))
 ·repeat refine allC (P:=fun av=>handedAV av=true) (by first|rfl|assumption) ?_
  exact allN
theorem cls174 {a0:AV} (ha0:handedAV a0=true):CallOk w mean mg mb n (.top 174) [a0] lst (.inst 174 ns174 [.str (.lit [114,101,103] .nil),a0]) lst:=by
 refine class_ok (fI:=157) (cd:=156) (stm:=(mtA 13 0)) (q:=(S [82,101,103,46,95,95,105,110,105,116,95,95])) (dV:=.none) (pm:=.str (S zq2) 299) (self:=[115,101,108,102]) (args':=[a0]) (by kernel_rfl) (by kernel_rfl) (by kernel_rfl) (by kernel_rfl) (by kernel_rfl) (by kernel_rfl) (fun ρ D s x vs X V=>?_)
  (fun x=>⟨[([115,101,108,102],.top x),([114,101,103,105,115,116,101,114],a0)],by kernel_rfl,rfl,by kernel_rfl⟩) rfl ?_
 ·refine e23 (VRs.consI V) ?_;clear V;intro v0 r0 V0 W0 Y4;subst Y4
  (have Y:=W0.nilI;clear W0;subst Y)
  (exact (i12 ([v0]) ((.cons V0 .nil)) (BindsTo.of_eq (by kernel_rfl))))
 ·repeat refine allC (P:=fun av=>handedAV av=true) (by first|rfl|assumption) ?_
  exact allN
theorem cls208 {a0:AV}{a1:AV} (ha0:handedAV a0=true) (ha1:handedAV a1=true):CallOk w mean mg mb n (.top 208) [a0,a1] lst (.inst 208 ns208 [.str (.lit [105,109,109] .nil),a0,a1]) lst:=by
 refine class_ok (fI:=191) (cd:=190) (stm:=(mtA 14 0)) (q:=(S [73,109,109,46,95,95,105,110,105,116,95,95])) (dV:=.ref 184) (pm:=.str (S zq2) 299) (self:=[115,101,108,102]) (args':=[a0,a1]) (by kernel_rfl) (by kernel_rfl) (by kernel_rfl) (by kernel_rfl) (by kernel_rfl) (by kernel_rfl) (fun ρ D s x vs X V=>?_)
  (fun x=>⟨[([115,101,108,102],.top x),([119,111,114,116,104],a0),([110,97,109,101],a1)],by kernel_rfl,rfl,by kernel_rfl⟩) rfl ?_
 ·refine e23 (VRs.consI V) ?_;clear V;intro v0 r0 V0 W0 Y4;subst Y4
  refine e23 (W0.consI) ?_;clear W0;intro v1 r1 V1 W1 Y4;subst Y4
  (have Y:=W1.nilI;clear W1;subst Y)
  (exact (i12 ([v0,v1]) ((.cons V0 (.cons V1 .nil))) (BindsTo.of_defaults (T:=184) (items:=#[.str (S []) 402]) (n:=0) (o:={cls:=.type "tuple",data:=.seq #[.str (S []) 402] 0}) rfl (X 184 _ (by kernel_rfl)) rfl rfl rfl)))
 ·repeat refine allC (P:=fun av=>handedAV av=true) (by first|rfl|assumption) ?_
  exact allN
theorem cls208d {a0:AV} (ha0:handedAV a0=true):CallOk w mean mg mb n (.top 208) [a0] lst (.inst 208 ns208 [.str (.lit [105,109,109] .nil),a0,.str .nil]) lst:=by
 refine class_ok (fI:=191) (cd:=190) (stm:=(mtA 14 0)) (q:=(S [73,109,109,46,95,95,105,110,105,116,95,95])) (dV:=.ref 184) (pm:=.str (S zq2) 299) (self:=[115,101,108,102]) (args':=[a0,.str .nil]) (by kernel_rfl) (by kernel_rfl) (by kernel_rfl) (by kernel_rfl) (by kernel_rfl) (by kernel_rfl) (fun ρ D s x vs X V=>?_)
  (fun x=>⟨[([115,101,108,102],.top x),([119,111,114,116,104],a0),([110,97,109,101],.str .nil)],by kernel_rfl,rfl,by kernel_rfl⟩) rfl ?_
 ·refine e23 (VRs.consI V) ?_;clear V;intro v0 r0 V0 W0 Y4;subst Y4
  (have Y:=W0.nilI;clear W0;subst Y)
  (exact (i12 ([v0,.str (S []) 402]) ((.cons V0 (.cons (.str .nil 402) .nil))) (BindsTo.of_defaults (T:=184) (items:=#[.str (S []) 402]) (n:=0) (o:={cls:=.type "tuple",data:=.seq #[.str (S []) 402] 0}) rfl (X 184 _ (by kernel_rfl)) rfl rfl rfl)))
 ·repeat refine allC (P:=fun av=>handedAV av=true) (by first|rfl|assumption) ?_
  exact allN
theorem cls249 {a0:AV}{a1:AV} (ha0:handedAV a0=true) (ha1:handedAV a1=true):CallOk w mean mg mb n (.top 249) [a0,a1] lst (.inst 249 ns249 [.str (.lit [114,101,108] .nil),a0,a1]) lst:=by
 refine class_ok (fI:=225) (cd:=224) (stm:=(mtA 15 0)) (q:=(S [82,101,108,46,95,95,105,110,105,116,95,95])) (dV:=.ref 218) (pm:=.str (S zq2) 299) (self:=[115,101,108,102]) (args':=[a0,a1]) (by kernel_rfl) (by kernel_rfl) (by kernel_rfl) (by kernel_rfl) (by kernel_rfl) (by kernel_rfl) (fun ρ D s x vs X V=>?_)
  (fun x=>⟨[([115,101,108,102],.top x),([119,111,114,116,104],a0),([110,97,109,101],a1)],by kernel_rfl,rfl,by kernel_rfl⟩) rfl ?_
 ·refine e23 (VRs.consI V) ?_;clear V;intro v0 r0 V0 W0 Y4;subst Y4
  refine e23 (W0.consI) ?_;clear W0;intro v1 r1 V1 W1 Y4;subst Y4
  (have Y:=W1.nilI;clear W1;subst Y)
  (exact (i12 ([v0,v1]) ((.cons V0 (.cons V1 .nil))) (BindsTo.of_defaults (T:=218) (items:=#[.str (S []) 444]) (n:=0) (o:={cls:=.type "tuple",data:=.seq #[.str (S []) 444] 0}) rfl (X 218 _ (by kernel_rfl)) rfl rfl rfl)))
 ·repeat refine allC (P:=fun av=>handedAV av=true) (by first|rfl|assumption) ?_
  exact allN
theorem cls302 {a0:AV}{a1:AV}{a2:AV}{a3:AV}{a4:AV}{a5:AV}{a6:AV} (ha0:handedAV a0=true) (ha1:handedAV a1=true) (ha2:handedAV a2=true) (ha3:handedAV a3=true) (ha4:handedAV a4=true) (ha5:handedAV a5=true) (ha6:handedAV a6=true):CallOk w mean mg mb n (.top 302) [a0,a1,a2,a3,a4,a5,a6] lst (.inst 302 ns302 [.str (.lit [109,101,109] .nil),a0,a1,a2,a3,a4,a5,a6]) lst:=by
 refine class_ok (fI:=266) (cd:=265) (stm:=(mtA 16 0)) (q:=(S [77,101,109,46,95,95,105,110,105,116,95,95])) (dV:=.ref 259) (pm:=.str (S zq2) 299) (self:=[115,101,108,102]) (args':=[a0,a1,a2,a3,a4,a5,a6]) (by kernel_rfl) (by kernel_rfl) (by kernel_rfl) (by kernel_rfl) (by kernel_rfl) (by kernel_rfl) (fun ρ D s x vs X V=>?_)
  (fun x=>⟨[([115,101,108,102],.top x),([98,97,115,101],a0),([105,110,100,101,120],a1),([115,99,97,108,101],a2),([119,111,114,116,104],a3),([115,105,122,101],a4),([115,101,103,109,101,110,116],a5),([110,97,109,101],a6)],by kernel_rfl,rfl,by kernel_rfl⟩) rfl ?_
 ·refine e23 (VRs.consI V) ?_;clear V;intro v0 r0 V0 W0 Y4;subst Y4
  refine e23 (W0.consI) ?_;clear W0;intro v1 r1 V1 W1 Y4;subst Y4
  refine e23 (W1.consI) ?_;clear W1;intro v2 r2 V2 W2 Y4;subst Y4
  refine e23 (W2.consI) ?_;clear W2;intro v3 r3 V3 W3 Y4;subst Y4
  refine e23 (W3.consI) ?_;clear W3;intro v4 r4 V4 W4 Y4;subst Y4
  refine e23 (W4.consI) ?_;clear W4;intro v5 r5 V5 W5 Y4;subst Y4
  refine e23 (W5.consI) ?_;clear W5;intro v6 r6 V6 W6 Y4;subst Y4
  (have Y:=W6.nilI;clear W6;subst Y)
  (exact (i12 ([v0,v1,v2,v3,v4,v5,v6]) ((.cons V0 (.cons V1 (.cons V2 (.cons V3 (.cons V4 (.cons V5 (.cons V6 .nil)))))))) (BindsTo.of_defaults (T:=259) (items:=#[.int 0 494,.str (S []) 495,.str (S []) 496]) (n:=0) (o:={cls:=.type "tuple",data:=.seq #[.int 0 494,.str (S []) 495,.str (S []) 496] 0}) rfl (X 259 _ (by kernel_rfl)) rfl rfl rfl)))
 ·repeat refine allC (P:=fun av=>handedAV av=true) (by first|rfl|assumption) ?_
  exact allN
theorem cls355_run (x:Addr) (a0 a2:AV) (lst:List (List AV)) (i:Nat):bodyGo (sScope (mtA 17 0)) 355 [115,101,108,102] ⟨[([115,101,108,102],.top x),([110,97,109,101],a0),([111,112,101,114,97,110,100,115],.loc i),([112,114,101,102,105,120],a2)],lst⟩ (sBody (mtA 17 0))=(tupArg lst i).bind fun v=>some (ns355,[a0,v,a2]):=by kernel_rfl
theorem cls355 {a0 a2:AV}{i:Nat}{l:List AV} (ha0:handedAV a0=true) (ha2:handedAV a2=true) (hl:lst[i]?=some l) (hb:Nat.ble l.length 10000=true):CallOk w mean mg mb n (.top 355) [a0,.loc i,a2] lst (.inst 355 ns355 [a0,.tup l,a2]) lst:=by
 refine class_ok (fI:=319) (cd:=318) (stm:=(mtA 17 0)) (q:=(S [73,110,115,116,114,117,99,116,105,111,110,46,95,95,105,110,105,116,95,95])) (dV:=.ref 312) (pm:=.str (S zq2) 299) (self:=[115,101,108,102]) (args':=[a0,.loc i,a2]) (by kernel_rfl) (by kernel_rfl) (by kernel_rfl) (by kernel_rfl) (by kernel_rfl) (by kernel_rfl) (fun ρ D s x vs X V=>?_)
  (fun x=>⟨[([115,101,108,102],.top x),([110,97,109,101],a0),([111,112,101,114,97,110,100,115],.loc i),([112,114,101,102,105,120],a2)],by kernel_rfl,rfl,by rw [cls355_run];unfold tupArg;rw [hl];show (bif Nat.ble l.length 10000 then some (AV.tup l) else Option.none).bind _=_;rw [hb];rfl⟩) rfl ?_
 ·refine e23 (VRs.consI V) ?_;clear V;intro v0 r0 V0 W0 Y4;subst Y4
  refine e23 (W0.consI) ?_;clear W0;intro v1 r1 V1 W1 Y4;subst Y4
  refine e23 (W1.consI) ?_;clear W1;intro v2 r2 V2 W2 Y4;subst Y4
  (have Y:=W2.nilI;clear W2;subst Y)
  (exact (i12 ([v0,v1,v2]) ((.cons V0 (.cons V1 (.cons V2 .nil)))) (BindsTo.of_defaults (T:=312) (items:=#[.str (S []) 568]) (n:=0) (o:={cls:=.type "tuple",data:=.seq #[.str (S []) 568] 0}) rfl (X 312 _ (by kernel_rfl)) rfl rfl rfl)))
 ·repeat refine allC (P:=fun av=>handedAV av=true) (by first|rfl|assumption) ?_
  exact allN
theorem cls355d_run (x:Addr) (a0 a2:AV) (lst:List (List AV)) (i:Nat):bodyGo (sScope (mtA 17 0)) 355 [115,101,108,102] ⟨[([115,101,108,102],.top x),([110,97,109,101],a0),([111,112,101,114,97,110,100,115],.loc i),([112,114,101,102,105,120],a2)],lst⟩ (sBody (mtA 17 0))=(tupArg lst i).bind fun v=>some (ns355,[a0,v,a2]):=by kernel_rfl
theorem cls355d {a0:AV}{i:Nat}{l:List AV} (ha0:handedAV a0=true) (hl:lst[i]?=some l) (hb:Nat.ble l.length 10000=true):CallOk w mean mg mb n (.top 355) [a0,.loc i] lst (.inst 355 ns355 [a0,.tup l,.str .nil]) lst:=by
 refine class_ok (fI:=319) (cd:=318) (stm:=(mtA 17 0)) (q:=(S [73,110,115,116,114,117,99,116,105,111,110,46,95,95,105,110,105,116,95,95])) (dV:=.ref 312) (pm:=.str (S zq2) 299) (self:=[115,101,108,102]) (args':=[a0,.loc i,.str .nil]) (by kernel_rfl) (by kernel_rfl) (by kernel_rfl) (by kernel_rfl) (by kernel_rfl) (by kernel_rfl) (fun ρ D s x vs X V=>?_)
  (fun x=>⟨[([115,101,108,102],.top x),([110,97,109,101],a0),([111,112,101,114,97,110,100,115],.loc i),([112,114,101,102,105,120],.str .nil)],by kernel_rfl,rfl,by rw [cls355d_run];unfold tupArg;rw [hl];show (bif Nat.ble l.length 10000 then some (AV.tup l) else Option.none).bind _=_;rw [hb];rfl⟩) rfl ?_
 ·refine e23 (VRs.consI V) ?_;clear V;intro v0 r0 V0 W0 Y4;subst Y4
  refine e23 (W0.consI) ?_;clear W0;intro v1 r1 V1 W1 Y4;subst Y4
  (have Y:=W1.nilI;clear W1;subst Y)
  (exact (i12 ([v0,v1,.str (S []) 568]) ((.cons V0 (.cons V1 (.cons (.str .nil 568) .nil)))) (BindsTo.of_defaults (T:=312) (items:=#[.str (S []) 568]) (n:=0) (o:={cls:=.type "tuple",data:=.seq #[.str (S []) 568] 0}) rfl (X 312 _ (by kernel_rfl)) rfl rfl rfl)))
 ·repeat refine allC (P:=fun av=>handedAV av=true) (by first|rfl|assumption) ?_
  exact allN
end
end
section
section
variable {T:Tabs}{w:World}{mean:ExcName→Option Value}{mg mb:Str→Option Value}{R:Recs}{n:Nat}{ρ:Rho}{X:FX}{D:Led}{st st':St}{s:Shared}
theorem enter_keep {a:Nat}{stm:Stmt} (hfn:FnOk w a (sArgs stm) (sBody stm) (sScope stm)) {args:List AV}{l loc:Locs}{lst:List (List AV)}{vs:List Value}{fv:Value}{Q:Value→Shared→Prop} (e2:zipL ((sArgs stm).args.map fun p=>p.arg.cps.toList) args=some l)
  (hX:X.Ok w mean mg mb ρ) (hr:Room X (n+1)) (I:Inv ρ X D ⟨loc,lst⟩ s) (V:VR ρ D (.top a) fv) (Vs:VRs ρ D args vs) (P:Led→List (List AV)→Value→Prop)
  (body:∀ X':FX,X'.cs=sScope stm→X'.hx=X.hx→X'.fx=X.fx→(∀ b o,X.h₀.get? b=some o→X'.h₀.get? b=some o)→X'.Ok w mean mg mb ρ→Room X' n→∀ s₁,Inv ρ X' D ⟨l,lst⟩ s₁→Same s s₁ →
   wpAny (model pw w) X'.A (execs (sBody stm) X'.env) (fun fl s'=>∃ v D' st',fl=.ret v∧D.le D'∧Inv ρ X' D' st' s'∧Same s s'∧P D' st'.lst v) F0 s₁)
  (h:∀ D' lst' v s',D.le D'→Inv ρ X D' ⟨loc,lst'⟩ s'→P D' lst' v→Same s s'→Q v s'):wpAny (model pw w) X.A (call fv vs) Q F0 s:=by
 (have Y:=V.topI;clear V;subst Y)
 refine e12_9 (hfn) ?_;clear hfn;intro name' qual oc od osl dV kV doc pm an cdv ct h1 h2 h3 h4 h5 h6 h7 h8 h9
 refine e21 (I) ?_;try clear I;intro m Pl J
 have hlen:=zipL_len e2
 rw [List.length_map] at hlen
 have hl2:=Vs.length
 have e2':zipL (((sArgs stm).args.map (·.arg)).map (·.cps.toList)) args=some l:=by rw [List.map_map];exact e2
 refine wpAny_call (code_def (env:=X.env) (outer:=X.outer) hX.B J.F hX.K J.N hX.T rfl rfl hX.k h1 h2 (by have:=hr.1;show X.dp<_;lia) (h9 s vs (hl2.symm.trans hlen)) (fun y hy=>h8 _ ?_) (fun g L' h₁ FG F' N' B' K' T'=>?_) h3 h4 h5 h6)
 ·exact (List.of_mem_zip (a:=y.1) (b:=y.2) hy).1
 ·let X':FX:={dp:=X.dp+1,un:=X.un+3,gd:=X.gd,cn:=qual,cs:=sScope stm,a:=a,ccd:=cdv,cl:=[],outer:=X.env::X.outer,A₀:=X.A,base:=X.base,h₀:=g,L:=L',fx:=X.fx,hx:=X.hx}
  have okX':X'.Ok w mean mg mb ρ:=⟨B',K',T',h5,hX.held,hX.sym⟩
  have hkeys:((((sArgs stm).args.map (·.arg)).zip vs).map (·.1))=(sArgs stm).args.map (·.arg):=List.map_fst_zip (by rw [List.length_map,← hlen,hl2];exact Nat.le_refl _)
  have J':InvAt ρ X' D ⟨l,lst⟩ h₁ (fun y=>(((sArgs stm).args.map (·.arg)).zip vs).reverse.lookup y) Pl:=by
   refine ⟨F',N',fun x av ex=>?_,J.ls,J.ad,J.nd,J.dj,J.fd⟩
   refine e12 (zip_mem e2' Vs x av ex) ?_;intro v' m1 m2
   refine (i12 v' (lookup_mem ?_ (List.mem_reverse.mpr m1)) m2)
   rw [List.map_reverse,hkeys]
   exact (List.reverse_perm _).nodup_iff.mpr h7
  have run:=body X' rfl rfl rfl FG.keep okX' ⟨by have:=hr.1;show X.dp+1+n+60<_;lia,by have:=hr.2;show X.un+3+8*(n+60)<_;lia⟩ {s with heap:=h₁,toks:=s.toks+(((sArgs stm).args.map (·.arg)).zip vs).length} ⟨_,Pl,J'⟩ ⟨rfl,rfl,rfl⟩
  refine wpAny_mono run (fun fl s' y=>?_) fun _ _ y=>y.elim
  obtain ⟨v,D',st',rfl,le,⟨m₂,P₂,J₂⟩,sm,hp⟩:=y
  refine leaveK_ J₂.F J₂.N fun F₃ N₃=>?_
  exact h D' st'.lst v s' le ⟨m,P₂,F₃,N₃,J.loc.mono le,J₂.ls,J₂.ad,J₂.nd,J₂.dj,J₂.fd⟩ hp sm
theorem enter_ok {a:Nat}{stm:Stmt} (hfn:FnOk w a (sArgs stm) (sBody stm) (sScope stm)) {args:List AV}{l loc:Locs}{lst:List (List AV)}{vs:List Value}{fv:Value}{Q:Value→Shared→Prop} (e2:zipL ((sArgs stm).args.map fun p=>p.arg.cps.toList) args=some l)
  (hX:X.Ok w mean mg mb ρ) (hr:Room X (n+1)) (I:Inv ρ X D ⟨loc,lst⟩ s) (V:VR ρ D (.top a) fv) (Vs:VRs ρ D args vs) (P:Led→List (List AV)→Value→Prop)
  (body:∀ X':FX,X'.cs=sScope stm→X'.hx=X.hx→X'.fx=X.fx→X'.Ok w mean mg mb ρ→Room X' n→∀ s₁,Inv ρ X' D ⟨l,lst⟩ s₁→Same s s₁ →
   wpAny (model pw w) X'.A (execs (sBody stm) X'.env) (fun fl s'=>∃ v D' st',fl=.ret v∧D.le D'∧Inv ρ X' D' st' s'∧Same s s'∧P D' st'.lst v) F0 s₁)
  (h:∀ D' lst' v s',D.le D'→Inv ρ X D' ⟨loc,lst'⟩ s'→P D' lst' v→Same s s'→Q v s'):wpAny (model pw w) X.A (call fv vs) Q F0 s :=
 enter_keep (n:=n) hfn e2 hX hr I V Vs P (fun X' h1 h2 h3 _ h5 h6 s₁ h7 h8=>body X' h1 h2 h3 h5 h6 s₁ h7 h8) h
theorem enter_hide {a:Nat}{stm:Stmt} (hfn:FnOk w a (sArgs stm) (sBody stm) (sScope stm)) {args:List AV}{l loc:Locs}{lst:List (List AV)}{vs:List Value}{fv:Value}{Q:Value→Shared→Prop} (e2:zipL ((sArgs stm).args.map fun p=>p.arg.cps.toList) args=some l)
  (hX:X.Ok w mean mg mb ρ) (hr:Room X (n+1)) (I:Inv ρ X D ⟨loc,lst⟩ s) (V:VR ρ D (.top a) fv) (Vs:∀ imm,(∀ p∈D.imm,p∈imm)→VRs ρ ⟨imm,[]⟩ args vs) (P:List (Addr×Obj)→Value→Prop)
  (body:∀ X':FX,X'.cs=sScope stm→X'.hx=X.hx→X'.Ok w mean mg mb ρ→Room X' n→∀ s₁,Inv ρ X' ⟨D.imm,[]⟩ ⟨l,[]⟩ s₁→Same s s₁ →
   wpAny (model pw w) X'.A (execs (sBody stm) X'.env) (fun fl s'=>∃ v D' st',fl=.ret v∧(⟨D.imm,[]⟩:Led).le D'∧Inv ρ X' D' st' s'∧Same s s'∧P D'.imm v) F0 s₁)
  (h:∀ D' v s',D.le D'→Inv ρ X D' ⟨loc,lst⟩ s'→P D'.imm v→Same s s'→Q v s'):wpAny (model pw w) X.A (call fv vs) Q F0 s:=by
 (have Y:=V.topI;clear V;subst Y)
 refine e12_9 (hfn) ?_;clear hfn;intro name' qual oc od osl dV kV doc pm an cdv ct h1 h2 h3 h4 h5 h6 h7 h8 h9
 refine e21 (I) ?_;try clear I;intro m Pl J
 have hlen:=zipL_len e2
 rw [List.length_map] at hlen
 have Vs0:=Vs D.imm fun _ h=>h
 have hl2:=Vs0.length
 have e2':zipL (((sArgs stm).args.map (·.arg)).map (·.cps.toList)) args=some l:=by rw [List.map_map];exact e2
 refine wpAny_call (code_def (env:=X.env) (outer:=X.outer) hX.B J.F hX.K J.N hX.T rfl rfl hX.k h1 h2 (by have:=hr.1;show X.dp<_;lia) (h9 s vs (hl2.symm.trans hlen)) (fun y hy=>h8 _ ?_) (fun g L' h₁ FG F' N' B' K' T'=>?_) h3 h4 h5 h6)
 ·exact (List.of_mem_zip (a:=y.1) (b:=y.2) hy).1
 ·let X':FX:={dp:=X.dp+1,un:=X.un+3,gd:=X.gd,cn:=qual,cs:=sScope stm,a:=a,ccd:=cdv,cl:=[],outer:=X.env::X.outer,A₀:=X.A,base:=X.base,h₀:=g,L:=L',fx:=Pl++X.fx,hx:=X.hx}
  have okX':X'.Ok w mean mg mb ρ:=⟨B',K',T',h5,fun p hp=>zR _ (hX.held p hp),hX.sym⟩
  have hkeys:((((sArgs stm).args.map (·.arg)).zip vs).map (·.1))=(sArgs stm).args.map (·.arg):=List.map_fst_zip (by rw [List.length_map,← hlen,hl2];exact Nat.le_refl _)
  have J':InvAt ρ X' ⟨D.imm,[]⟩ ⟨l,[]⟩ h₁ (fun y=>(((sArgs stm).args.map (·.arg)).zip vs).reverse.lookup y) []:=by
   refine ⟨F',fun p hp=>N' p ?_,fun x av ex=>?_,.nil,rfl,.nil,fun _ _ h=>absurd h List.not_mem_nil,fun p hp q hq=>?_⟩
   ·(refine zO (zA (show p∈D.imm++(Pl++X.fx) from hp)) ?qa0 ?qb0;(case' qb0=>intro z);(case' qa0=>intro z))
    ·exact zR _ (zL _ z)
    ·(refine zO (zA z) ?qa1 ?qb1;(case' qb1=>clear z;intro z);(case' qa1=>clear z;intro z))
     ·exact zL _ z
     ·exact zR _ (zR _ z)
   ·refine e12 (zip_mem e2' Vs0 x av ex) ?_;intro v' m1 m2
    refine (i12 v' (lookup_mem ?_ (List.mem_reverse.mpr m1)) m2)
    rw [List.map_reverse,hkeys]
    exact (List.reverse_perm _).nodup_iff.mpr h7
   ·(refine zO (zA hq) ?qa2 ?qb2;(case' qb2=>intro z);(case' qa2=>intro z))
    ·exact fun e=>J.dj p (zL _ hp) (by rw [e,← J.ad];exact List.mem_map.mpr ⟨q,z,rfl⟩)
    ·exact J.fd p hp q z
  have run:=body X' rfl rfl okX' ⟨by have:=hr.1;show X.dp+1+n+60<_;lia,by have:=hr.2;show X.un+3+8*(n+60)<_;lia⟩ {s with heap:=h₁,toks:=s.toks+(((sArgs stm).args.map (·.arg)).zip vs).length} ⟨_,[],J'⟩ ⟨rfl,rfl,rfl⟩
  refine wpAny_mono run (fun fl s' y=>?_) fun _ _ y=>y.elim
  obtain ⟨v,D',st',rfl,le,⟨m₂,P₂,J₂⟩,sm,hp⟩:=y
  refine leaveK_ J₂.F J₂.N fun F₃ N₃=>?_
  have le':D.le ⟨D'.imm,D.lad⟩:=⟨fun p hp=>le.imm p hp,fun _ _ e=>e⟩
  refine h ⟨D'.imm,D.lad⟩ v s' le' ⟨m,Pl,F₃,fun p hp=>N₃ p ?_,J.loc.mono le',J.ls.mono le',J.ad,J.nd,fun p hp=>?_,fun p hp q hq=>J₂.fd p hp q (zR _ hq)⟩ hp sm
  ·refine zR _ ?_
   (refine zO (zA hp) ?qa3 ?qb3;(case' qb3=>intro z);(case' qa3=>intro z))
   ·exact zR _ (zL _ z)
   ·(refine zO (zA z) ?qa4 ?qb4;(case' qb4=>clear z;intro z);(case' qa4=>clear z;intro z))
    ·exact zL _ z
    ·exact zR _ (zR _ z)
  ·(refine zO (zA hp) ?qa5 ?qb5;(case' qb5=>clear hp;intro z);(case' qa5=>clear hp;intro z))
   ·intro ha
    rw [← J.ad] at ha
    refine e12 (List.mem_map.mp ha) ?_;intro q hq e
    exact J₂.fd p z q (zL _ hq) e.symm
   ·exact J.dj p (zR _ z)
noncomputable def AVeq (ρ:Rho) (a b:AV):Prop:=∀ D v,VR ρ D a v→VR ρ D b v
theorem AVeq.rfl' {a:AV}:AVeq ρ a a:=fun _ _ h=>h
theorem AVeq.int {a b:IE} (h:a.den ρ=b.den ρ):AVeq ρ (.int a) (.int b):=fun D v V=>by refine e11 V.intI ?_;clear V;intro t Y;subst Y;rw [h];exact .int _ _
theorem AVeq.str {a b:SE} (h:a.den ρ=b.den ρ):AVeq ρ (.str a) (.str b):=fun D v V=>by cases V;rw [h];exact .str _ _
noncomputable def LocEq (ρ:Rho) (l l':Locs):Prop:=∀ x b,lkL l' x=some b→∃ a,lkL l x=some a∧AVeq ρ a b
theorem Inv.reloc {l l':Locs}{lst:List (List AV)} (I:Inv ρ X D ⟨l,lst⟩ s) (h:LocEq ρ l l'):Inv ρ X D ⟨l',lst⟩ s:=by
 refine e21 (I) ?_;try clear I;intro m P J
 exact ⟨m,P,J.F,J.N,fun x b e=>(h x b e).elim fun a ha=>(J.loc x a ha.1).elim fun v hv=>⟨v,hv.1,ha.2 _ _ hv.2⟩,J.ls,J.ad,J.nd,J.dj,J.fd⟩
theorem LocEq.nil {l:Locs}:LocEq ρ l []:=fun _ _ h=>nomatch h
theorem LocEq.cons {l l':Locs}{x:List Nat}{a b:AV} (h:lkL l x=some a) (e:AVeq ρ a b) (r:LocEq ρ l l'):LocEq ρ l ((x,b)::l'):=fun y c hc=>by
 rw [lkL_cons] at hc
 cases q:lnBeq x y with
 | true=>rw [q] at hc;(have Y0:=s1 hc;try clear hc;subst Y0);rw [← lnBeq_eq q];(exact (i12 a h e))
 | false=>rw [q] at hc;exact r y c hc
theorem while_ok {α:Type} (ht:TstOk w mean mg mb R n) (hs:ExsOk w mean mg mb R n) (hX:X.Ok w mean mg mb ρ) (hr:Room X n) {test:Expr}{body:List Stmt} (at_:α→St) (mea:α→Nat) (c:α→BE) (ok:α→Prop) (next:α→St)
  (e1:∀ a,R.tst X.cs (at_ a) test=some (.u (c a),at_ a)) (e2:∀ a,R.exs X.cs (at_ a) body []=some (.next (next a)))
  (step:∀ a,ok a→(c a).den ρ=true→∃ a',ok a'∧mea a'<mea a∧(next a).lst=(at_ a').lst∧LocEq ρ (next a).loc (at_ a').loc) {Q:Flow→Shared→Prop}{pos:Pos} (a₀:α) (ok₀:ok a₀) (I:Inv ρ X D (at_ a₀) s)
  (h:∀ a D' s',ok a→(c a).den ρ=false→D.le D'→Inv ρ X D' (at_ a) s'→Same s s'→Q .next s'):wpAny (model pw w) X.A (exec (.While test body [] pos) X.env) Q F0 s:=by
 refine wpAny_While ?_
 refine codeAny_whileLoop (fun k s'=>∃ a D',mea a=k∧ok a∧D.le D'∧Inv ρ X D' (at_ a) s'∧Same s s') (fun k s' hI=>?_) (mea a₀) ⟨a₀,D,rfl,ok₀,Led.le.refl D,I,Same.refl s⟩
 refine e25 (hI) ?_;try clear hI;intro a D' Y2 ha le I' sm;subst Y2
 refine wpAny_mono (E:=F0) (ht _ _ _ _ _ (e1 a) ρ X D' s' (fun b s₂=>if b then wpAny (model pw w) X.A (execs body X.env) _ _ s₂ else wpAny (model pw w) X.A (execs [] X.env) _ _ s₂) rfl hX hr I' fun D₁ b s₁ le₁ I₁ V₁ sm₁=>?_) (fun _ _ z=>z) fun _ _ z=>z.elim
 (have Y:=V₁.uI;clear V₁;subst Y)
 cases z:(c a).den ρ with
 | true =>
  rw [if_pos rfl]
  refine wpAny_mono (E:=F0) (hs _ _ _ _ _ (e2 a) ρ X D₁ s₁ _ rfl hX hr I₁ fun D₂ fl s₂ le₂ fr sm₂=>?_) (fun _ _ z=>z) fun _ _ z=>z.elim
  refine e02 (fr) ?_;try clear fr;intro Y0 I₂;subst Y0
  refine e14 (step a ha z) ?_;intro a' ok' hm hl hloc
  have I₂':Inv ρ X D₂ ⟨(next a).loc,(next a).lst⟩ s₂:=I₂
  have I₃:=I₂'.reloc hloc
  rw [hl] at I₃
  exact ⟨_,hm,a',D₂,rfl,ok',(le.trans le₁).trans le₂,I₃,(sm.trans sm₁).trans sm₂⟩
 | false =>
  rw [if_neg zF]
  exact wpAny_execs_nil (h a D₁ s₁ ha z (le.trans le₁) I₁ (sm.trans sm₁))
end
end
end Nn62
end
section
open PySem PySem.W PySem.Calls PyProof.Rows
namespace Nn62
open PySem.W.Z (leB ltB eqB leB_iff ltB_iff eqB_iff)
section
noncomputable def Tc:Tabs:=⟨globT,fnT stA,attrT,handCls⟩
theorem tabs_ok (w:World) {T:Tabs} (h1:T.glb=globT) (h2:T.attrs=attrT):TabsOk w T :=
 ⟨by rw [h1];exact (T0_ok w).glb,by rw [h1];exact (T0_ok w).keep,by rw [h2];exact (T0_ok w).attrs⟩
theorem tabs_fns (w:World) {T:Tabs} (h3:T.fns=fnT stA):∀ a st,lkA T.fns a=some st→FnOk w a (sArgs st) (sBody st) (sScope st):=by
 rw [h3]
 intro a st e
 exact fns_all w _ (lkA_mem e)
section
variable {w:World}{mean:ExcName→Option Value}{mg mb:Str→Option Value}{n:Nat}
theorem allS {a:AV}{l:List AV} (h:(a::l).all handedAV=true):handedAV a=true∧l.all handedAV=true:=andS h
theorem hInstS {C k:Nat}{ns:List (List Nat)}{pre args post:List AV}{lst lst':List (List AV)}{av:AV} (e:hInst C ns k pre args post lst=some (av,lst')):args.length=k∧av=.inst C ns (pre++args++post)∧lst'=lst:=by
 refine e02 (condS e) ?_;clear e;intro q e
 refine s2 e ?_;try clear e;intro Y0 Y1;subst Y0;subst Y1
 exact ⟨zE q,rfl,rfl⟩
theorem hInst_use {a A:Nat}{C k:Nat}{ns:List (List Nat)}{pre args post:List AV}{lst lst':List (List AV)}{av:AV} (q:Nat.beq a A=true) (e:hInst C ns k pre args post lst=some (av,lst'))
  (h:args.length=k→CallOk w mean mg mb n (.top A) args lst (.inst C ns (pre++args++post)) lst):CallOk w mean mg mb n (.top a) args lst av lst':=by
 refine e03 (hInstS e) ?_;clear e;intro hl Y1 Y2;subst Y1;subst Y2
 rw [zE q];exact h hl
theorem len7 {α:Type}{l:List α}{G:Prop} (hl:l.length=7) (k:∀ a b c d e f g,l=[a,b,c,d,e,f,g]→G):G:=by
 refine e22 (lenC hl) ?_;clear hl;intro a0 r0 q0 hl0
 refine e22 (lenC hl0) ?_;clear hl0;intro a1 r1 q1 hl1
 refine e22 (lenC hl1) ?_;clear hl1;intro a2 r2 q2 hl2
 refine e41 (len4 hl2) ?_;clear hl2;intro a3 a4 a5 a6 q4
 exact k a0 a1 a2 a3 a4 a5 a6 (by rw [q0,q1,q2,q4])
theorem handCls_ok {a:Nat}{args:List AV}{lst:List (List AV)}{av:AV}{lst':List (List AV)} (e:handCls a args lst=some (av,lst')):CallOk w mean mg mb n (.top a) args lst av lst':=by
 refine e02 (condS e) ?_;clear e;intro hall e
 (refine zO (cond2S e) (fun qh=>e02 qh ?qa1) (fun qh=>e02 qh ?qb1);(case' qb1=>clear e;intro _ e);(case' qa1=>clear e;intro q e))
 ·refine hInst_use q e fun hl=>?_;clear e q
  refine e41 (len4 hl) ?_;clear hl;intro a0 a1 a2 a3 Y4;subst Y4
  have h0:=allS hall;have h1:=allS h0.2;have h2:=allS h1.2;have h3:=allS h2.2
  exact cls600 h0.1 h1.1 h2.1 h3.1
 (refine zO (cond2S e) (fun qh=>e02 qh ?qa2) (fun qh=>e02 qh ?qb2);(case' qb2=>clear e;intro _ e);(case' qa2=>clear e;intro q e))
 ·refine hInst_use q e fun hl=>?_;clear e q
  refine e11 (len1 hl) ?_;clear hl;intro a0 Y1;subst Y1
  exact cls174 (allS hall).1
 (refine zO (cond2S e) (fun qh=>e02 qh ?qa3) (fun qh=>e02 qh ?qb3);(case' qb3=>clear e;intro _ e);(case' qa3=>clear e;intro q e))
 ·refine hInst_use q e fun hl=>?_;clear e q
  refine e11 (len1 hl) ?_;clear hl;intro a0 Y1;subst Y1
  exact cls208d (allS hall).1
 (refine zO (cond2S e) (fun qh=>e02 qh ?qa4) (fun qh=>e02 qh ?qb4);(case' qb4=>clear e;intro _ e);(case' qa4=>clear e;intro q e))
 ·refine hInst_use q e fun hl=>?_;clear e q
  refine e21 (len2 hl) ?_;clear hl;intro a0 a1 Y2;subst Y2
  have h0:=allS hall
  exact cls249 h0.1 (allS h0.2).1
 (refine zO (cond2S e) (fun qh=>e02 qh ?qa5) (fun qh=>e02 qh ?qb5);(case' qb5=>clear e;intro _ e);(case' qa5=>clear e;intro q e))
 ·refine hInst_use q e fun hl=>?_;clear e q
  refine len7 hl ?_;clear hl;intro a0 a1 a2 a3 a4 a5 a6 Y;subst Y
  have h0:=allS hall;have h1:=allS h0.2;have h2:=allS h1.2;have h3:=allS h2.2;have h4:=allS h3.2;have h5:=allS h4.2;have h6:=allS h5.2
  exact cls302 h0.1 h1.1 h2.1 h3.1 h4.1 h5.1 h6.1
 refine e02 (condS e) ?_;clear e;intro q e
 rw [zE q]
 rcases altS e with ⟨p,e1,e⟩|⟨_,e⟩
 ·refine e12 (mapS e) ?_;intro t e2 e3
  refine p2 e3 ?_;try clear e3;intro Y0 Y1;subst Y0;subst Y1
  refine e12 (bindS e2) ?_;intro i e4 e5
  refine e12 (bindS e5) ?_;intro l hl e6
  refine e02 (condS e6) ?_;intro hb e7
  (have Y0:=s1 e7;try clear e7;subst Y0)
  have hp:=twoS e1
  rw [AV.locS e4] at hp
  rw [hp] at hall ⊢
  exact cls355d (allS hall).1 hl hb
 ·refine e12 (bindS e) ?_;clear e;intro p e1 e
  refine e12 (mapS e) ?_;clear e;intro t e2 e3
  refine p2 e3 ?_;try clear e3;intro Y0 Y1;subst Y0;subst Y1
  refine e12 (bindS e2) ?_;clear e2;intro i e4 e5
  refine e12 (bindS e5) ?_;clear e5;intro l hl e6
  refine e02 (condS e6) ?_;clear e6;intro hb e7
  (have Y0:=s1 e7;try clear e7;subst Y0)
  have hp:=threeS e1
  rw [AV.locS e4] at hp
  rw [hp] at hall ⊢
  have h0:=allS hall
  exact cls355 h0.1 (allS (allS h0.2).2).1 hl hb
theorem Tc_all (w:World) (mean:ExcName→Option Value) (mg mb:Str→Option Value):TabsAll w mean mg mb Tc 0 :=
 {toTabsOk:=tabs_ok w rfl rfl,fns:=tabs_fns w rfl,len:=by kernel_rfl,hands:=fun _ _ _ _ _ _ e=>handCls_ok e}
end
noncomputable def figW (least:Int) (r:Int) (found:List Nat):List Nat :=
 if 0<r∨(found.length:Int)<least then figW least (Int.fdiv r 16) (digit (Int.fmod r 16).toNat::found) else found
termination_by r.toNat+(least-found.length).toNat
decreasing_by
 rename_i h
 simp only [List.length_cons]
 have e:Int.fdiv r 16=r / 16:=Int.fdiv_eq_ediv_of_nonneg _ (by decide)
 rw [e]
 omega
structure FigA where
 r:Int
 found:List Nat
theorem b89_eq:sBody (stA 8)=b89.1:=b89.2
theorem s89_eq:sScope (stA 8)=s89.1:=s89.2
noncomputable def worthN:List Nat:=[119,111,114,116,104]
noncomputable def leastN:List Nat:=[108,101,97,115,116]
noncomputable def foundN:List Nat:=[102,111,117,110,100]
noncomputable def restN:List Nat:=[114,101,115,116]
noncomputable def figSt (e least:Int) (lst:List (List AV)) (a:FigA):St:=⟨[(worthN,.int (.ext e)),(leastN,.int (.ext least)),(foundN,.str (.ext a.found 1000 .nil)),(restN,.int (.ext a.r))],lst⟩
noncomputable def figC (least:Int) (a:FigA):BE:=.or (.lt (.lit 0) (.ext a.r)) (.lt (.ext ((a.found.take 1000).length:Nat)) (.ext least))
noncomputable def figN (e least:Int) (lst:List (List AV)) (a:FigA):St:=⟨[(worthN,.int (.ext e)),(leastN,.int (.ext least)),(foundN,.str (.fn 3 1 (.fmod (.ext a.r) 16) (.ext a.found 1000 .nil))),(restN,.int (.fdiv (.ext a.r) 16))],lst⟩
noncomputable def figStm (i:Nat):Stmt:=b89.1.getD i (.Pass ⟨0,0,0,0⟩)
noncomputable def wTest (zs:Stmt):Expr:=(atE zs 1)
noncomputable def wBody (zs:Stmt):List Stmt:=(atB zs 0)
noncomputable def wPos (zs:Stmt):Pos:=(atP zs 0)
theorem fig_body:b89.1=[figStm 0,figStm 1,.While (wTest (figStm 2)) (wBody (figStm 2)) [] (wPos (figStm 2)),figStm 3]:=by kernel_rfl
theorem fig_pre (e least:Int) (lst:List (List AV)):(recs Tc 20).exs s89.1 ⟨[(worthN,.int (.ext e)),(leastN,.int (.ext least))],lst⟩ [figStm 0,figStm 1] []=some (.next ⟨[(worthN,.int (.ext e)),(leastN,.int (.ext least)),(foundN,.str .nil),(restN,.int (.ext e))],lst⟩):=by kernel_rfl
theorem fig_test (e least:Int) (lst:List (List AV)) (a:FigA):(recs Tc 20).tst s89.1 (figSt e least lst a) (wTest (figStm 2))=some (.u (figC least a),figSt e least lst a):=by kernel_rfl
theorem fig_turn (e least:Int) (lst:List (List AV)) (a:FigA):(recs Tc 20).exs s89.1 (figSt e least lst a) (wBody (figStm 2)) []=some (.next (figN e least lst a)):=by kernel_rfl
theorem fig_post (e least:Int) (lst:List (List AV)) (a:FigA):(recs Tc 20).exs s89.1 (figSt e least lst a) [figStm 3] []=some (.ret (.str (.ext a.found 1000 .nil)) (figSt e least lst a)):=by kernel_rfl
end
section
theorem fdiv16 (r:Int):Int.fdiv r 16=r / 16:=Int.fdiv_eq_ediv_of_nonneg _ (by decide)
theorem fmod16 (r:Int):Int.fmod r 16=r % 16:=Int.fmod_eq_emod_of_nonneg _ (by decide)
noncomputable def figK (least r:Int) (k:Nat):Nat:=(if 0<r then r.toNat.log2 / 4+1 else 0)+(least-k).toNat
theorem figK_step {least r:Int}{k:Nat} (h:0<r∨(k:Int)<least):figK least (Int.fdiv r 16) (k+1)<figK least r k:=by
 rw [fdiv16]
 unfold figK
 by_cases hr:0<r
 ·rw [if_pos hr]
  by_cases hr':0<r / 16
  ·rw [if_pos hr']
   have e:(r / 16).toNat=r.toNat / 16:=by lia
   have:=log_div16 (m:=r.toNat) (by lia)
   rw [e]
   lia
  ·rw [if_neg hr'];lia
 ·rw [if_neg hr,if_neg (by lia)];lia
section
variable {w:World}{mean:ExcName→Option Value}{mg mb:Str→Option Value}{n:Nat}{ρ:Rho}{X:FX}{D:Led}{loc:Locs}{lst:List (List AV)}{s:Shared}
theorem args89:((sArgs (stA 8)).args.map fun p=>p.arg.cps.toList)=[worthN,leastN]:=by kernel_rfl
theorem fn89 (w:World):FnOk w 89 (sArgs (stA 8)) (sBody (stA 8)) (sScope (stA 8)):=by
 refine fnOk_of (dV:=.none) (cd:=88) (q:=S [102,105,103,117,114,101,115,95,111,102]) (pm:=.str (S zq8) 194) (by kernel_rfl) (by kernel_rfl) (by kernel_rfl) fun s vs h=>?_
 have hl:(sArgs (stA 8)).args.length=2:=by kernel_rfl
 rw [hl] at h
 refine e21 (len2 h) ?_;clear h;intro v0 v1 Y2;subst Y2
 exact BindsTo.of_eq (by kernel_rfl)
noncomputable def figOk (e least:Int) (a:FigA):Prop:=figW least a.r a.found=figW least e []∧a.found.length+figK least a.r a.found.length≤30
theorem figC_den {least:Int}{a:FigA} (h:a.found.length≤30):(figC least a).den ρ=decide (0<a.r∨(a.found.length:Int)<least):=by
 have e:a.found.take 1000=a.found:=zT (by (exact Nat.le_trans (by assumption) (by decide)))
 simp only [figC,BE.den,IE.den,e,ltB_dec]
 by_cases h1:0<a.r <;> by_cases h2:(a.found.length:Int)<least <;> simp [h1,h2]
theorem exs_two {T:Tabs}{m:Nat}{o:Nat} (hT:TabsAll w mean mg mb T o) (hX:X.Ok w mean mg mb ρ) (hr:Room X (m+o)) {cs:Scope} (hcs:X.cs=cs) {st st':St}{l:List Stmt}{Q:Flow→Shared→Prop} (e:(recs T m).exs cs st l []=some (.next st')) (I:Inv ρ X D st s)
  (h:∀ D' s',D.le D'→Inv ρ X D' st' s'→Same s s'→Q .next s'):wpAny (model pw w) X.A (execs l X.env) Q F0 s :=
 ((recs_ok hT m).2.2.1 cs st l [] _ e ρ X D s Q hcs hX hr I fun D' fl s' le fr sm=>by (refine e02 (fr) ?_;clear fr;intro Y0 I';subst Y0);exact h D' s' le I' sm)
theorem execs_append (env:Env):∀ l r:List Stmt,execs (l++r) env=(execs l env >>= fun f=>match f with|.next=>execs r env|f=>pure f)
 | [],r=>by
  show execs r env=((pure Flow.next:Sem Flow) >>= fun f=>match f with|.next=>execs r env|f=>pure f)
  rw [pure_bind]
 | x::l,r=>by
  show (exec x env >>= fun f=>match f with|.next=>execs (l++r) env|f=>pure f)=((exec x env >>= fun f=>match f with|.next=>execs l env|f=>pure f) >>= _)
  rw [bind_assoc]
  congr 1
  funext f
  cases f with
  | next=>exact execs_append env l r
  | brk=>rw [pure_bind]
  | cont=>rw [pure_bind]
  | ret v=>rw [pure_bind]
theorem execs_app {A:Around}{env:Env}{E:Value→Shared→Prop}{l r:List Stmt}{Q:Flow→Shared→Prop}{s:Shared} (h:wpAny (model pw w) A (execs l env) (fun f s'=>match f with|.next=>wpAny (model pw w) A (execs r env) Q E s'|f=>Q f s') E s):wpAny (model pw w) A (execs (l++r) env) Q E s:=by
 rw [execs_append]
 refine wpAny_bind (wpAny_mono h (fun f s' q=>?_) fun _ _ z=>z)
 cases f with
 | next=>exact q
 | brk=>exact wpAny_pure q
 | cont=>exact wpAny_pure q
 | ret v=>exact wpAny_pure q
theorem figs_ok {e least:Int} (he:e<2 ^ 80) (hle:least≤2) {fv:Value}{t u:Tok}{Q:Value→Shared→Prop} (hX:X.Ok w mean mg mb ρ) (hr:Room X 21) (I:Inv ρ X D ⟨loc,lst⟩ s) (hf:VR ρ D (.top 89) fv)
  (h:∀ D' s' t',D.le D'→Inv ρ X D' ⟨loc,lst⟩ s'→Same s s'→Q (.str (S (figW least e [])) t') s'):wpAny (model pw w) X.A (call fv [.int e t,.int least u]) Q F0 s:=by
 refine enter_ok (n:=20) (fn89 w) (args:=[.int (.ext e),.int (.ext least)]) (l:=[(worthN,.int (.ext e)),(leastN,.int (.ext least))]) (by rw [args89];rfl) hX hr I hf (.cons (.int (.ext e) t) (.cons (.int (.ext least) u) .nil))
  (fun D' lst' v=>lst'=lst∧∃ t',v=.str (S (figW least e [])) t') (fun X' hcs hhx hfx hX' hr' s₁ I₁ sm₁=>?_) (fun D' lst' v s' le I' hp sm=>by obtain ⟨rfl,t',rfl⟩:=hp;exact h D' s' t' le I' sm)
 have hcs':X'.cs=s89.1:=hcs.trans s89.2
 have R:=recs_ok (Tc_all w mean mg mb) 20
 have hr20:Room X' 20:=hr'
 rw [b89_eq,fig_body]
 refine wpAny_hide fun Qp hQp=>?_
 refine execs_app (l:=[figStm 0,figStm 1]) (exs_two (m:=20) (Tc_all w mean mg mb) hX' hr20 hcs' (fig_pre e least lst) I₁ fun D₂ s₂ le₂ I₂ sm₂=>?_)
 have I₃:Inv ρ X' D₂ (figSt e least lst ⟨e,[]⟩) s₂:=I₂.reloc (.cons (by rfl) AVeq.rfl' (.cons (by rfl) AVeq.rfl' (.cons (by rfl) (AVeq.str (by simp [SE.den])) (.cons (by rfl) AVeq.rfl' .nil))))
 refine wpAny_execs_cons (while_ok (n:=20) R.2.1 R.2.2.1 hX' hr20 (figSt e least lst) (fun a=>figK least a.r a.found.length) (figC least) (figOk e least) (figN e least lst) (fun a=>by rw [hcs'];exact fig_test e least lst a) (fun a=>by rw [hcs'];exact fig_turn e least lst a) (fun a ha hc=>?_) ⟨e,[]⟩ ?_ I₃ fun a D₄ s₄ ha hc le₄ I₄ sm₄=>?_)
 ·have hb:a.found.length≤30:=by have:=ha.2;lia
  rw [figC_den hb] at hc
  have hc:=of_decide_eq_true hc
  have hk:=figK_step (least:=least) (r:=a.r) (k:=a.found.length) hc
  refine (i14 (⟨Int.fdiv a.r 16,digit (Int.fmod a.r 16).toNat::a.found⟩) (⟨?_,?_⟩) hk rfl (.cons (by rfl) AVeq.rfl' (.cons (by rfl) AVeq.rfl' (.cons (by rfl) (AVeq.str ?_) (.cons (a:=.int (.fdiv (.ext a.r) 16)) (by rfl) (AVeq.int rfl) .nil)))))
  ·rw [← ha.1]
   conv=>rhs;unfold figW
   rw [if_pos hc]
  ·have:=ha.2
   show a.found.length+1+figK least (Int.fdiv a.r 16) (a.found.length+1)≤30
   lia
  ·have h3:=hX'.sym.2.1
   have e1:a.found.take 1000=a.found:=zT (by (exact Nat.le_trans (by assumption) (by decide)))
   have e2:(digit (Int.fmod a.r 16).toNat::a.found).take 1000=digit (Int.fmod a.r 16).toNat::a.found:=zT (by simp only [List.length_cons];(exact Nat.lt_of_le_of_lt (by assumption) (by decide)))
   simp only [SE.den,IE.den,h3,digitL,e1,e2,List.append_nil]
   rfl
 ·refine ⟨rfl,?_⟩
  show 0+figK least e 0≤30
  unfold figK
  have hl:0<e→e.toNat.log2<80:=fun h0=>(Nat.log2_lt (by lia)).mpr (by lia)
  split
  ·rename_i h0;have:=hl h0;lia
  ·lia
 ·have hb:a.found.length≤30:=by have:=ha.2;lia
  rw [figC_den hb] at hc
  have hc:=of_decide_eq_false hc
  have hfin:a.found=figW least e []:=by
   rw [← ha.1];conv=>rhs;unfold figW
   rw [if_neg hc]
  refine R.2.2.1 _ _ _ [] _ (by rw [hcs'];exact fig_post e least lst a) ρ X' D₄ s₄ _ rfl hX' hr20 I₄ fun D₅ fl s₅ le₅ fr sm₅=>?_
  refine e13 (fr) ?_;clear fr;intro v Y1 V I₅;subst Y1
  refine e11 V.strI ?_;clear V;intro t' Y;subst Y
  have e1:a.found.take 1000=a.found:=zT (by (exact Nat.le_trans (by assumption) (by decide)))
  refine hQp _ _ ⟨_,D₅,_,rfl,((le₂.trans le₄).trans le₅),I₅,((sm₁.trans sm₂).trans sm₄).trans sm₅,rfl,t',?_⟩
  rw [show (SE.ext a.found 1000 .nil).den ρ=a.found by simp [SE.den,e1],hfin]
end
end
section
theorem figW_stop {least r:Int}{found:List Nat} (h1:r≤0) (h2:least≤found.length):figW least r found=found:=by
 unfold figW
 rw [if_neg (by lia)]
theorem figW_pos {least:Int} (hl:least≤1):∀ (m:Nat) (found:List Nat),0<m→figW least (m:Int) found=hexN m++found:=by
 intro m
 induction m using Nat.strongRecOn with
 | ind m ih =>
  intro found hm
  unfold figW
  rw [if_pos (.inl (by lia)),fdiv16,fmod16]
  have e1:((m:Int) % 16).toNat=m % 16:=by lia
  have e2:(m:Int) / 16=((m / 16:Nat):Int):=by lia
  rw [e1,e2]
  unfold hexN
  by_cases h16:m<16
  ·rw [if_pos h16]
   have:m / 16=0:=by lia
   rw [this,figW_stop (by (exact Int.natCast_nonneg _)) (by simp only [List.length_cons];lia)]
   rw [show m % 16=m by lia];rfl
  ·rw [if_neg h16,ih (m / 16) (by lia) _ (by lia),List.append_assoc];rfl
theorem figW_hex (e:Int):figW 1 e []=hexL e:=by
 unfold hexL
 by_cases h:e≤0
 ·rw [if_pos h]
  unfold figW
  rw [if_pos (.inr (by decide)),fdiv16,fmod16,figW_stop (by lia) (by simp)]
  rfl
 ·rw [if_neg h]
  refine e11 (Int.eq_ofNat_of_zero_le (show 0≤e by lia)) ?_;intro m Y1;subst Y1
  rw [figW_pos (by decide) m [] (by lia),List.append_nil];rfl
noncomputable def handF (a:Nat) (args:List AV) (lst:List (List AV)):Option (AV×List (List AV)):=alt (handCls a args lst) some (bif Nat.beq a 89 then hFig args lst else Option.none)
noncomputable def Tf:Tabs:=⟨globT,fnT stA,attrT,handF⟩
section
variable {w:World}{mean:ExcName→Option Value}{mg mb:Str→Option Value}{n:Nat}
theorem fig_hand {e:IE}{lst:List (List AV)} (he:e.within (-(2 ^ 72)) (2 ^ 72)=true):CallOk w mean mg mb (n+30) (.top 89) [.int e,.int (.lit 1)] lst (.str (.fn 0 24 e .nil)) lst:=by
 intro ρ X D loc s vs fv Q hX hr I V Vs h
 refine e02 (IE.within_ok (ρ:=ρ) he) ?_;clear he;intro b1 b2
 refine e23 (Vs.twoI) ?_;clear Vs;intro v1 v2 V1 V2 Y4;subst Y4
 refine e11 (V1.intI) ?_;clear V1;intro t Y1;subst Y1
 refine e11 (V2.intI) ?_;clear V2;intro u Y1;subst Y1
 have hr60:Room X 21:=hr.down (by (exact Nat.le_add_left _ _))
 refine figs_ok (e:=e.den ρ) (least:=1) (by (exact Int.lt_of_le_of_lt (by assumption) (by decide))) (by decide) hX hr60 I V fun D' s' t' le I' sm=>h D' _ s' le I' ?_ sm
 have:=VR.str (ρ:=ρ) (D:=D') (.fn 0 24 e .nil) t'
 rw [show (SE.fn 0 24 e .nil).den ρ=figW 1 (e.den ρ) [] by
  simp only [SE.den,hX.sym.1,figW_hex,List.append_nil]
  exact zT (hexL_len (k:=24) (by (exact Int.lt_of_le_of_lt (by assumption) (by decide))) (by decide))] at this
 exact this
theorem hFig_ok {args:List AV}{lst:List (List AV)}{av:AV}{lst':List (List AV)} (e:hFig args lst=some (av,lst')):CallOk w mean mg mb (n+30) (.top 89) args lst av lst':=by
 refine e12 (bindS e) ?_;clear e;intro p e1 e
 refine e12 (bindS e) ?_;clear e;intro x e2 e
 refine e12 (bindS e) ?_;clear e;intro k e3 e
 refine e02 (condS e) ?_;clear e;intro h e
 refine s2 e ?_;try clear e;intro Y0 Y1;subst Y0;subst Y1
 have h:=andS h
 rw [twoS e1,AV.intS e2,AV.litS e3,(eqB_iff _ _).mp h.1]
 exact fig_hand h.2
theorem handF_ok {a:Nat}{args:List AV}{lst:List (List AV)}{av:AV}{lst':List (List AV)} (e:handF a args lst=some (av,lst')):CallOk w mean mg mb (n+30) (.top a) args lst av lst':=by
 (refine zO (altS e) (fun qh=>e12 qh ?qa) (fun qh=>e02 qh ?qb);(case' qb=>clear e;intro _ e);(case' qa=>clear e;intro r e1 e))
 ·(refine s2 e ?_;try clear e;intro Y0 Y1;subst Y0;subst Y1);exact handCls_ok e1
 ·refine e02 (condS e) ?_;clear e;intro q e
  rw [zE q]
  exact hFig_ok e
theorem Tf_all (w:World) (mean:ExcName→Option Value) (mg mb:Str→Option Value):TabsAll w mean mg mb Tf 30 :=
 {toTabsOk:=tabs_ok w rfl rfl,fns:=tabs_fns w rfl,len:=by kernel_rfl,hands:=fun _ _ _ _ _ _ e=>handF_ok e}
end
end
end Nn62
end
section
open PySem PySem.W
namespace Nn62
section
noncomputable def runT {α:Type} (lt:Nat→Nat→Bool):KasT α→α
 | .ret a=>a
 | .ask i j k=>runT lt (k (lt i j))
noncomputable def asksIn {α:Type} (n:Nat):KasT α→Bool
 | .ret _=>true
 | .ask i j k=>Nat.blt i n&&Nat.blt j n&&asksIn n (k true)&&asksIn n (k false)
theorem kasWp_run {α:Type}{n:Nat}{cmp:Nat→Nat→(Bool→Shared→Prop)→Shared→Prop}{lt:Nat→Nat→Bool}{Q:α→Shared→Prop}{s:Shared} (hc:∀ i j (C:Bool→Shared→Prop),i<n→j<n→C (lt i j) s→cmp i j C s) :
  ∀ (t:KasT α),asksIn n t=true→Q (runT lt t) s→t.kasWp cmp Q s
 | .ret a,_,h=>h
 | .ask i j k,e,h=>by
  unfold asksIn at e
  simp only [Bool.and_eq_true] at e
  obtain ⟨⟨⟨e1,e2⟩,e3⟩,e4⟩:=e
  refine hc i j _ (zB e1) (zB e2) ?_
  show (k (lt i j)).kasWp cmp Q s
  refine kasWp_run hc (k (lt i j)) ?_ h
  cases lt i j
  ·exact e4
  ·exact e3
noncomputable def vecs:Nat→Nat→List (List Nat)
 | _,0=>[[]]
 | n,k+1=>(vecs n k).flatMap fun l=>(List.range n).map fun i=>i::l
noncomputable def sortedBy (r:List Nat):List Nat→Bool
 | []=>true
 | [_]=>true
 | a::b::l=>Nat.ble (r.getD a 0) (r.getD b 0)&&sortedBy r (b::l)
noncomputable def below (r:List Nat) (x:Nat):Nat:=(r.filter fun y=>Nat.blt y x).length
noncomputable def dense (r:List Nat):Bool:=r.all fun x=>Nat.beq (below r x) x
noncomputable def chkR (n:Nat) (r:List Nat):Bool :=
 let p:=(runT (fun i j=>Nat.blt (r.getD i 0) (r.getD j 0)) (kas_sort n)).toList
 p.isPerm (List.range n)&&sortedBy r p
noncomputable def chkAll (n:Nat):Bool:=(vecs n n).all fun r=>!dense r||chkR n r
noncomputable def sizeOk (n:Nat):Bool:=asksIn n (kas_sort n)&&chkAll n
theorem size2:sizeOk 2=true:=by kernel_rfl
theorem size3:sizeOk 3=true:=by kernel_rfl
theorem size4:sizeOk 4=true:=by kernel_rfl
theorem size5:sizeOk 5=true:=by kernel_rfl
theorem vecs_mem:∀ (n k:Nat) (l:List Nat),l.length=k→(∀ x∈l,x<n)→l∈vecs n k
 | n,0,l,h,_=>by rw [List.length_eq_zero_iff.mp h];exact .head _
 | n,k+1,x::l,h,hx=>by
  refine List.mem_flatMap.mpr ⟨l,vecs_mem n k l (by simpa using h) fun y hy=>hx y (.tail _ hy),?_⟩
  exact List.mem_map.mpr ⟨x,List.mem_range.mpr (hx x (.head _)),rfl⟩
noncomputable def symLt (a b:Sy):Bool:=decide (a.1<b.1)||(decide (a.1=b.1)&&decide (a.2<b.2))
theorem ln_irrefl (a:List Nat):¬ a<a:=List.lt_irrefl a
theorem ln_trans {a b c:List Nat} (h:a<b) (g:b<c):a<c:=List.lt_trans h g
theorem ln_tri (a b:List Nat):a<b∨a=b∨b<a:=by
 by_cases h:a<b
 ·exact .inl h
 ·by_cases g:b<a
  ·exact .inr (.inr g)
  ·exact .inr (.inl (List.le_antisymm (List.not_lt.mp g) (List.not_lt.mp h)))
theorem symLt_iff {a b:Sy}:symLt a b=true ↔ (a.1<b.1∨(a.1=b.1∧a.2<b.2)):=by
 unfold symLt
 rw [Bool.or_eq_true,Bool.and_eq_true,decide_eq_true_iff,decide_eq_true_iff,decide_eq_true_iff]
theorem symLt_irrefl (a:Sy):symLt a a=false:=by
 cases h:symLt a a with
 | false=>rfl
 | true =>
  rcases symLt_iff.mp h with h|⟨_,h⟩
  ·lia
  ·exact absurd h (ln_irrefl _)
theorem symLt_trans {a b c:Sy} (h:symLt a b=true) (g:symLt b c=true):symLt a c=true:=by
 rw [symLt_iff] at *
 rcases h with h|⟨h1,h2⟩
 ·rcases g with g|⟨g1,g2⟩
  ·exact .inl (by (exact Int.lt_trans (by assumption) (by assumption)))
  ·exact .inl (by lia)
 ·rcases g with g|⟨g1,g2⟩
  ·exact .inl (by lia)
  ·exact .inr ⟨by lia,ln_trans h2 g2⟩
theorem symLt_le {a b c:Sy} (h:symLt c a=true) (g:symLt b a=false):symLt c b=true:=by
 have g':¬ (b.1<a.1∨(b.1=a.1∧b.2<a.2)):=fun q=>by rw [symLt_iff.mpr q] at g;exact xTF g
 rw [symLt_iff] at *
 rcases h with h|⟨h1,h2⟩
 ·by_cases q:b.1<a.1
  ·exact absurd (.inl q) g'
  ·exact .inl (by lia)
 ·by_cases q:b.1<a.1
  ·exact absurd (.inl q) g'
  ·by_cases q2:b.1=a.1
   ·refine .inr ⟨by lia,?_⟩
    rcases ln_tri b.2 a.2 with t|t|t
    ·exact absurd (.inr ⟨q2,t⟩) g'
    ·rw [t];exact h2
    ·exact ln_trans h2 t
   ·exact .inl (by lia)
theorem filter_mono {α:Type}{p q:α→Bool} (h:∀ c,p c=true→q c=true):∀ l:List α,(l.filter p).Sublist (l.filter q)
 | []=>.slnil
 | x::l=>by
  rw [List.filter_cons,List.filter_cons]
  cases hp:p x with
  | true=>rw [h x hp];exact .cons₂ _ (filter_mono h l)
  | false =>
   cases hq:q x with
   | true=>exact .cons _ (filter_mono h l)
   | false=>exact filter_mono h l
noncomputable def rankOf (l:List Sy) (a:Sy):Nat:=(l.filter fun c=>symLt c a).length
theorem rank_lt {l:List Sy}{a b:Sy} (ha:a∈l):symLt a b=Nat.blt (rankOf l a) (rankOf l b):=by
 have mono:∀ {a b:Sy},symLt b a=false→rankOf l a≤rankOf l b:=fun {a b} h=>by
  unfold rankOf
  refine List.Sublist.length_le (filter_mono (fun c hc=>symLt_le hc h) l)
 cases h:symLt a b with
 | true =>
  refine (Nat.ble_eq_true_of_le ?_).symm
  show rankOf l a+1≤rankOf l b
  unfold rankOf
  have hs:(l.filter fun c=>symLt c a).Sublist (l.filter fun c=>symLt c b):=filter_mono (fun c hc=>symLt_trans hc h) l
  rcases Nat.lt_or_ge (l.filter fun c=>symLt c a).length (l.filter fun c=>symLt c b).length with q|q
  ·exact q
  ·have e:=hs.eq_of_length_le q
   have:a∈l.filter fun c=>symLt c b:=List.mem_filter.mpr ⟨ha,h⟩
   rw [← e] at this
   have:=(List.mem_filter.mp this).2
   rw [symLt_irrefl] at this;exact xFT this
 | false =>
  have:=mono (a:=b) (b:=a) h
  cases q:Nat.blt (rankOf l a) (rankOf l b) with
  | false=>rfl
  | true=>have q:=zB q;lia
theorem rank_small {l:List Sy}{a:Sy} (ha:a∈l):rankOf l a<l.length:=by
 unfold rankOf
 rcases Nat.lt_or_ge (l.filter fun c=>symLt c a).length l.length with q|q
 ·exact q
 ·have e:=(List.filter_sublist (p:=fun c=>symLt c a) (l:=l)).eq_of_length_le q
  rw [← e] at ha
  have:=(List.mem_filter.mp ha).2
  rw [symLt_irrefl] at this;exact xFT this
theorem rank_dense (l:List Sy):dense (l.map (rankOf l))=true:=by
 refine List.all_eq_true.mpr fun x hx=>?_
 refine e12 (List.mem_map.mp hx) ?_;clear hx;intro a ha Y2;subst Y2
 have:below (l.map (rankOf l)) (rankOf l a)=rankOf l a:=by
  unfold below
  rw [List.filter_map,List.length_map]
  have e:(l.filter ((fun y=>Nat.blt y (rankOf l a))∘rankOf l))=l.filter fun c=>symLt c a:=by
   refine List.filter_congr fun c hc=>?_
   exact (rank_lt hc).symm
  rw [e];rfl
 rw [this];exact Nat.beq_refl _
end
end Nn62
end
section
open PySem PySem.W PyProof.Rows
namespace Nn62
section
theorem runT_congr {α:Type}{n:Nat}{lt lt':Nat→Nat→Bool} (h:∀ i j,i<n→j<n→lt i j=lt' i j):∀ (t:KasT α),asksIn n t=true→runT lt t=runT lt' t
 | .ret _,_=>rfl
 | .ask i j k,e=>by
  unfold asksIn at e
  simp only [Bool.and_eq_true] at e
  obtain ⟨⟨⟨e1,e2⟩,e3⟩,e4⟩:=e
  show runT lt (k (lt i j))=runT lt' (k (lt' i j))
  rw [h i j (zB e1) (zB e2)]
  refine runT_congr h (k (lt' i j)) ?_
  cases lt' i j
  ·exact e4
  ·exact e3
theorem SymVs.mono {hx hx':List (Addr×Obj)} (h:∀ p∈hx,p∈hx') {vs:List Value}{l:List Sy} (V:SymVs hx vs l):SymVs hx' vs l:=by
 induction V with
 | nil=>exact .nil
 | cons m r ih=>exact .cons (h _ m) ih
theorem SymVs.len {hx:List (Addr×Obj)}{vs:List Value}{l:List Sy} (V:SymVs hx vs l):vs.length=l.length:=by
 induction V with
 | nil=>rfl
 | cons _ _ ih=>exact congrArg (·+1) ih
theorem SymVs.get {hx:List (Addr×Obj)}{vs:List Value}{l:List Sy}{i:Nat} (V:SymVs hx vs l):i<l.length →
  ∃ a t t' k,vs.getD i .none=.ref a∧(a,({cls:=.type "tuple",data:=.seq #[.int (l.getD i (0,[])).1 t,.str (S (l.getD i (0,[])).2) t'] k}:Obj))∈hx:=by
 induction V generalizing i with
 | nil=>exact fun h=>absurd h (Nat.not_lt_zero _)
 | cons m r ih=>cases i with
  | zero=>exact fun _=>⟨_,_,_,_,rfl,m⟩
  | succ i=>exact fun h=>ih (Nat.lt_of_succ_lt_succ h)
theorem SymVs.pick {hx:List (Addr×Obj)}{vs:List Value}{l:List Sy} (h:SymVs hx vs l):∀ p:List Nat,(∀ i∈p,i<l.length)→SymVs hx (p.map fun i=>vs.getD i .none) (p.map fun i=>l.getD i (0,[]))
 | [],_=>.nil
 | i::p,hp=>by
  refine e42 (h.get (hp i (.head _))) ?_;intro a t t' k e m
  show SymVs hx (vs.getD i .none::_) (l.getD i (0,[])::_)
  rw [e]
  exact .cons m (h.pick p fun j hj=>hp j (.tail _ hj))
theorem range_getD (l:List Sy):(List.range l.length).map (fun i=>l.getD i (0,[]))=l:=by
 refine List.ext_getElem? fun i=>?_
 rw [List.getElem?_map]
 by_cases h:i<l.length
 ·rw [List.getElem?_range h]
  simp [h]
 ·rw [List.getElem?_eq_none (by simpa using h),List.getElem?_eq_none (by simpa using h)];rfl
theorem sortedBy_pw {r:List Nat}:∀ {p:List Nat},sortedBy r p=true→p.Pairwise fun a b=>r.getD a 0≤r.getD b 0
 | [],_=>.nil
 | [_],_=>List.pairwise_singleton _ _
 | a::b::l,h=>by
  unfold sortedBy at h
  have h:=Bool.and_eq_true_iff.mp h
  have ih:=sortedBy_pw h.2
  have h1:=zB h.1
  refine List.pairwise_cons.mpr ⟨fun c hc=>?_,ih⟩
  (refine zO (zC hc) ?qa ?qb;(case' qb=>clear hc;intro hc);(case' qa=>intro Y0;subst Y0))
  ·exact h1
  ·exact Nat.le_trans h1 ((List.pairwise_cons.mp ih).1 c hc)
theorem sizes {n:Nat} (h2:2≤n) (h5:n≤5):sizeOk n=true:=by
 rcases (by lia:n=2∨n=3∨n=4∨n=5) with rfl|rfl|rfl|rfl
 ·exact size2
 ·exact size3
 ·exact size4
 ·exact size5
noncomputable def symsLt (l:List Sy) (i j:Nat):Bool:=symLt (l.getD i (0,[])) (l.getD j (0,[]))
theorem sort_pure {l:List Sy} (h2:2≤l.length) (h5:l.length≤5):asksIn l.length (kas_sort l.length)=true ∧
  (∀ i∈(runT (symsLt l) (kas_sort l.length)).toList,i<l.length)∧((runT (symsLt l) (kas_sort l.length)).toList.map fun i=>l.getD i (0,[])).Perm l ∧
  ((runT (symsLt l) (kas_sort l.length)).toList.map fun i=>l.getD i (0,[])).Pairwise fun a b=>symLt b a=false:=by
 have hs:=sizes h2 h5
 unfold sizeOk at hs
 have hs:=Bool.and_eq_true_iff.mp hs
 have mem:∀ i,i<l.length→l.getD i (0,[])∈l:=fun i hi=>by rw [List.getD_eq_getElem?_getD,List.getElem?_eq_getElem hi];exact List.getElem_mem hi
 have rk:∀ i,i<l.length→(l.map (rankOf l)).getD i 0=rankOf l (l.getD i (0,[])):=fun i hi=>by
  rw [List.getD_eq_getElem?_getD,List.getElem?_map,List.getElem?_eq_getElem hi,List.getD_eq_getElem?_getD,List.getElem?_eq_getElem hi];rfl
 have hc:=List.all_eq_true.mp hs.2 (l.map (rankOf l)) (vecs_mem _ _ _ (List.length_map _) fun x hx=>by
  refine e12 (List.mem_map.mp hx) ?_;clear hx;intro a ha Y2;subst Y2
  exact rank_small ha)
 rw [rank_dense] at hc
 have hc:chkR l.length (l.map (rankOf l))=true:=by simpa using hc
 have e:runT (symsLt l) (kas_sort l.length)=runT (fun i j=>Nat.blt ((l.map (rankOf l)).getD i 0) ((l.map (rankOf l)).getD j 0)) (kas_sort l.length) :=
  runT_congr (fun i j hi hj=>by rw [rk i hi,rk j hj];exact rank_lt (mem i hi)) _ hs.1
 unfold chkR at hc
 dsimp only at hc
 rw [← e] at hc
 have hc:=Bool.and_eq_true_iff.mp hc
 have hp:=List.isPerm_iff.mp hc.1
 have hin:∀ i∈(runT (symsLt l) (kas_sort l.length)).toList,i<l.length:=fun i hi=>List.mem_range.mp (hp.mem_iff.mp hi)
 refine (i04 hs.1 hin ?_ ?_)
 ·have:=hp.map fun i=>l.getD i (0,[])
  rw [range_getD] at this
  exact this
 ·refine List.pairwise_map.mpr ?_
  refine (sortedBy_pw hc.2).imp_of_mem fun {a b} ha hb h=>?_
  rw [rk a (hin a ha),rk b (hin b hb)] at h
  rw [rank_lt (mem b (hin b hb))]
  cases q:Nat.blt (rankOf l (l.getD b (0,[]))) (rankOf l (l.getD a (0,[]))) with
  | false=>rfl
  | true=>have q:=zB q;lia
section
variable {prog:Program}{w:World}{A:Around}{E:Value→Shared→Prop}{s:Shared}{h₀:Heap}{L la:Addr}{m:Str→Option Value}{news:List (Addr×Obj)}{vs:List Value}{syms:List Sy}
theorem firsts {h:Heap} (N:News h₀ L h news) {vs:List Value}{l:List Sy} (V:SymVs news vs l):∃ fs,KatTups h vs fs∧fs.length=l.length∧∀ v∈fs,∃ i t,v=.int i t:=by
 induction V with
 | nil=>(exact (i13 ([]) .nil rfl (fun _ h=>absurd h List.not_mem_nil)))
 | @cons _ i t _ _ _ _ _ m r ih =>
  refine e13 ih ?_;clear ih r;intro fs h1 h2 h3
  refine (i13 (.int i t::fs) (.cons (N _ m).1 rfl rfl rfl h1) (congrArg (·+1) h2) (fun v hv=>?_))
  (refine zO (zC hv) ?qa ?qb;(case' qb=>clear hv;intro hv);(case' qa=>intro Y0;subst Y0))
  ·(exact (i21 i t rfl))
  ·exact h3 v hv
theorem lt_syms {h:Heap}{a b:Addr}{i j:Int}{x y:List Nat}{t t' u u':Tok}{k k':Nat}{C:Bool→Shared→Prop} (ha:s.heap.get? a=some {cls:=.type "tuple",data:=.seq #[.int i t,.str (S x) t'] k}) (hb:s.heap.get? b=some {cls:=.type "tuple",data:=.seq #[.int j u,.str (S y) u'] k'})
  (h:C (symLt (i,x) (j,y)) s):wpAny (model prog w) A (keyLt' (tuples' true) (.ref a) (.ref b)) C (fun _ _=>False) s:=by
 refine kat_lt ha rfl hb rfl (kat_cons (wpAny_eqBool_int ?_))
 by_cases q:i=j
 ·have e:(i==j)=true:=by simpa using q
  rw [e]
  refine kat_yes (kat_cons (PySem.wpAny_eqBool_str ?_))
  by_cases q2:x=y
  ·have e2:decide (S x=S y)=true:=decide_eq_true (by rw [q2])
   rw [e2]
   refine kat_yes (kat_nil ?_)
   rw [q,q2,symLt_irrefl] at h
   exact h
  ·have e2:decide (S x=S y)=false:=decide_eq_false fun z=>q2 (by have:=congrArg (fun t:Str=>t.cps.toList) z;simpa using this)
   rw [e2]
   refine kat_no (kat_one _ _ (PyProof.Rows.lt_str ?_))
   show C (decide ((S x).cps.toList<(S y).cps.toList)) s
   have:symLt (i,x) (j,y)=decide (x<y):=by unfold symLt;rw [q];simp
   rw [this] at h
   exact h
 ·have e:(i==j)=false:=by simpa using q
  rw [e]
  refine kat_no (oneLt_int ?_)
  have:symLt (i,x) (j,y)=decide (i<j):=by unfold symLt;simp [q]
  rw [this] at h
  exact h
theorem sort_syms {Q:Value→Shared→Prop} (F:Fr h₀ L s.heap m) (N:News h₀ L s.heap news) (hl:s.heap.IsList la vs.toArray) (V:SymVs news vs syms) (h2:2≤syms.length) (h5:syms.length≤5)
  (h:∀ D h' out c syms',Fr h₀ L h' m→News h₀ L h' ((D,listOf (List.toArray out) c)::news)→SymVs news out syms'→syms'.Perm syms→(syms'.Pairwise fun a b=>symLt b a=false)→(∀ q∈news,q.1<D)→Q (.ref D) {s with heap:=h'}) :
  wpAny (model prog w) A (call (.builtin "sorted") [.ref la]) Q E s:=by
 have hlen:=V.len
 refine e04 (sort_pure h2 h5) ?_;intro p1 p2 p3 p4
 refine kat_sorted F N hl (by lia) (by lia) fun D e1 h' F' N' lt=>?_
 have N2:News h₀ L h' news:=fun p hp=>N' p (.tail _ hp)
 refine e13 (firsts N2 V) ?_;intro fs f1 f2 f3
 refine kat_kind (T:=.type "int") f1 (by lia) (fun v hv=>by (refine e21 (f3 v hv) ?_;intro i t Y2;subst Y2);exact Looks.of_pure rfl) rfl ?_
 rw [hlen]
 refine kasWp_run (n:=syms.length) (lt:=symsLt syms) (fun i j C hi hj hC=>?_) _ p1 ?_
 ·refine e42 (V.get hi) ?_;intro a t t' k e hm
  refine e42 (V.get hj) ?_;intro b u u' k' e' hm'
  show wpAny _ _ (keyLt' _ (vs.getD i .none) (vs.getD j .none)) _ _ _
  rw [e,e']
  exact lt_syms (h:=h') (N2 _ hm).1 (N2 _ hm').1 hC
 ·refine KasFin.intro F' N' (.head fun p hp=>Nat.ne_of_lt (lt p hp)) fun h'' c F'' N''=>?_
  exact h D h'' _ c _ F'' N'' (V.pick _ p2) p3 p4 lt
end
end
end Nn62
end
section
open PySem PySem.W PySem.Calls PyProof.Rows
namespace Nn62
section
section
variable {prog:Program}{w:World}{A:Around}{E:Value→Shared→Prop}{s:Shared}{h₀:Heap}{L la:Addr}{m:Str→Option Value}{news:List (Addr×Obj)}{vs:List Value}{syms:List Sy}
theorem zip_self {α:Type}:∀ l:List α,(l.zip l).map (·.2)=l
 | []=>rfl
 | x::l=>congrArg (x::·) (zip_self l)
theorem sort_short {a:Addr}{n:Nat}{P:PySem.Fin→Shared→Prop} (F:Fr h₀ L s.heap m) (N:News h₀ L s.heap news) (ho:s.heap.get? a=some (seqObj "list" vs.toArray n)) (haL:a≠L) (ha0:h₀.get? a=none) (hna:∀ p∈news,p.1≠a) (h1:vs.length<2)
  (h:∀ h' c,Fr h₀ L h' m→News h₀ L h' ((a,listOf vs.toArray c)::news)→P (.done (.ret .none)) {s with heap:=h'}):wpAny (model prog w) A (Builtin.«list.sort» ⟨[.ref a],[]⟩) P E s:=by
 have s1:=Heap.SameBut.update s.heap a (Obj.mapSeq fun _=>(#[]:Array Value))
 obtain ⟨e1,ho1⟩:∃ e1,(s.heap.update a (Obj.mapSeq fun _=>#[])).get? a=some (seqObj "list" #[] e1):=⟨_,get?_update_seq ho (fun _=>#[])⟩
 have F1:=((kas_fr F s1 haL ha0).push (seqObj "tuple" vs.toArray 0)).push (seqObj "list" #[] 0)
 have N1:News h₀ L (((s.heap.update a (Obj.mapSeq fun _=>(#[]:Array Value))).push (seqObj "tuple" vs.toArray 0)).push (seqObj "list" #[] 0)) news :=
  (kas_news N s1 hna).grown fun b x e=>Heap.get?_push_of_some _ (Heap.get?_push_of_some _ e)
 have ho6:=Heap.get?_push_of_some (seqObj "list" #[] 0) (Heap.get?_push_of_some (seqObj "tuple" vs.toArray 0) ho1)
 rw [list_sort_plain]
 refine wpAny_bind (listItems_at ho rfl ?_)
 refine wpAny_bind (listUpdate_at ho rfl ?_ (by rw [List.size_toArray,sizeLine_eq];(exact Nat.le_of_lt (Nat.lt_of_lt_of_le (by assumption) (by decide)))) (Nat.zero_le _))
 refine wpAny_bind (seqEpoch_at ho1 rfl ?_)
 refine wpAny_bind (wpAny_newTuple ?_ (by show vs.length≤_;rw [sizeLine_eq];(exact Nat.le_of_lt (Nat.lt_of_lt_of_le (by assumption) (by decide)))))
 refine wpAny_bind (wpAny_newList ?_ (Nat.zero_le _))
 refine wpAny_holding ?_
 show wpAny (model prog w) A _ P E {s with heap:=((s.heap.update a (Obj.mapSeq fun _=>(#[]:Array Value))).push (seqObj "tuple" vs.toArray 0)).push (seqObj "list" #[] 0)}
 dsimp only
 have hn2:vs.toArray.size<2:=by rw [List.size_toArray];assumption
 rw [if_pos hn2,if_pos hn2]
 refine wpAny_bind (wpAny_pure ?_)
 rw [StateT.run_pure]
 refine wpAny_bind (wpAny_pure ?_)
 dsimp only
 refine wpAny_bind (seqEpoch_at ho6 rfl ?_)
 have hz:(vs.toArray.zip vs.toArray).map (·.2)=vs.toArray:=by
  rw [← Array.toList_inj];simp only [Array.toList_map,Array.toList_zip];exact zip_self vs
 have hz2:(arrOf (SortSt.mk' general' (vs.toArray.zip vs.toArray) #[] 7 none))=vs.toArray.zip vs.toArray:=rfl
 refine wpAny_bind (listUpdate_at ho6 rfl ?_ (Nat.zero_le _) (by rw [hz2,hz,List.size_toArray,sizeLine_eq];(exact Nat.le_of_lt (Nat.lt_of_lt_of_le (by assumption) (by decide)))))
 simp only [bne_self_eq_false,Bool.false_eq_true,if_false]
 refine wpAny_pure ?_
 have key:∀ Z:Array Value,Z=vs.toArray→P (.done (.ret .none)) {s with heap:=(((s.heap.update a (Obj.mapSeq fun _=>(#[]:Array Value))).push (seqObj "tuple" vs.toArray 0)).push (seqObj "list" #[] 0)).update a (Obj.mapSeq fun _=>Z)}:=by
  intro Z hZ
  subst hZ
  generalize (((s.heap.update a (Obj.mapSeq fun _=>(#[]:Array Value))).push (seqObj "tuple" vs.toArray 0)).push (seqObj "list" #[] 0))=H at F1 N1 ho6
  have s2:=Heap.SameBut.update H a (Obj.mapSeq fun _=>vs.toArray)
  obtain ⟨c,hc⟩:∃ c,(H.update a (Obj.mapSeq fun _=>vs.toArray)).get? a=some (listOf vs.toArray c):=⟨_,get?_update_seq ho6 (fun _=>vs.toArray)⟩
  refine h _ c (kas_fr F1 s2 haL ha0) fun p hp=>?_
  rcases zC hp with rfl|hp
  ·exact ⟨hc,haL,ha0⟩
  ·exact kas_news N1 s2 hna p hp
 exact key _ hz
theorem sorted_short {Q:Value→Shared→Prop} (F:Fr h₀ L s.heap m) (N:News h₀ L s.heap news) (hl:s.heap.IsList la vs.toArray) (h1:vs.length<2)
  (h:∀ D h' c,Fr h₀ L h' m→News h₀ L h' ((D,listOf vs.toArray c)::news)→(∀ q∈news,q.1<D)→Q (.ref D) {s with heap:=h'}):wpAny (model prog w) A (call (.builtin "sorted") [.ref la]) Q E s:=by
 refine Calls.call_function_entry kind_sorted plain_sorted entry_sorted (args_sorted1 _) ?_
 unfold Builtin.«sorted»
 refine wpAny_bind (m:=checkCount "sorted" 1 1 _) (wpAny_pure ?_)
 refine wpAny_bind (collect_list hl ?_ (by rw [sizeLine_eq];(exact Nat.le_of_lt (Nat.lt_of_lt_of_le (by assumption) (by decide)))))
 refine wpAny_bind (wpAny_newList ?_ (by rw [sizeLine_eq];(exact Nat.le_of_lt (Nat.lt_of_lt_of_le (by assumption) (by decide)))))
 have hsz:((s.heap.push (seqObj "list" #[] 0)).update s.heap.objs.size (Obj.mapSeq (·++vs.toArray))).objs.size=s.heap.objs.size+1:=by
  rw [Heap.size_update,size_push']
 have hoL:(((s.heap.push (seqObj "list" #[] 0)).update s.heap.objs.size (Obj.mapSeq (·++vs.toArray))).push (seqObj "list" vs.toArray 0)).get? (s.heap.objs.size+1)=some (seqObj "list" vs.toArray 0):=by
  rw [← hsz];exact Heap.get?_push_size _ rfl
 have keep:∀ b o,s.heap.get? b=some o→(((s.heap.push (seqObj "list" #[] 0)).update s.heap.objs.size (Obj.mapSeq (·++vs.toArray))).push (seqObj "list" vs.toArray 0)).get? b=some o:=fun b o q=>by
  have hlt:b<s.heap.objs.size:=Heap.lt_size q
  rw [Heap.get?_push_ne _ _ _ (by rw [hsz];exact Nat.ne_of_lt (Nat.lt_succ_of_lt hlt)),Heap.get?_update_ne _ _ _ _ (Nat.ne_of_lt hlt),Heap.get?_push_ne _ _ _ (Nat.ne_of_lt hlt)]
  exact q
 have hL:L<s.heap.objs.size:=F.ns.lt
 show wpAny _ _ _ _ _ {s with heap:=((s.heap.push (seqObj "list" #[] 0)).update s.heap.objs.size (Obj.mapSeq (·++vs.toArray))).push (seqObj "list" vs.toArray 0)}
 rw [hsz]
 refine wpAny_bind (wpAny_holding (wpAny_call_entry slot_list_sort ⟨_,hoL,rfl⟩ entry_list_sort ?body (args_list_sort _)))
 case body =>
  refine sort_short (s:={s with heap:=((s.heap.push (seqObj "list" #[] 0)).update s.heap.objs.size (Obj.mapSeq (·++vs.toArray))).push (seqObj "list" vs.toArray 0)})
   (F.kept keep) (N.grown keep) hoL (Nat.ne_of_gt (Nat.lt_succ_of_lt hL)) (Heap.get?_none_of_le (Nat.le_trans F.above (Nat.le_succ_of_le (Nat.le_of_lt hL))))
   (fun p hp=>Nat.ne_of_lt (Nat.lt_succ_of_lt (Heap.lt_size (N p hp).1))) h1 fun h' c F' N'=>?_
  exact ⟨_,rfl,wpAny_pure ⟨_,rfl,h _ h' c F' N' fun q hq=>Nat.lt_succ_of_lt (Heap.lt_size (N q hq).1)⟩⟩
theorem sort_all {Q:Value→Shared→Prop} (F:Fr h₀ L s.heap m) (N:News h₀ L s.heap news) (hl:s.heap.IsList la vs.toArray) (V:SymVs news vs syms) (h5:syms.length≤5)
  (h:∀ D h' out c syms',Fr h₀ L h' m→News h₀ L h' ((D,listOf (List.toArray out) c)::news)→SymVs news out syms'→syms'.Perm syms→(syms'.Pairwise fun a b=>symLt b a=false)→(∀ q∈news,q.1<D)→Q (.ref D) {s with heap:=h'}) :
  wpAny (model prog w) A (call (.builtin "sorted") [.ref la]) Q E s:=by
 by_cases h2:2≤syms.length
 ·exact sort_syms F N hl V h2 h5 h
 ·have hlen:=V.len
  refine sorted_short F N hl (by lia) fun D h' c F' N' lt=>h D h' vs c syms F' N' V (List.Perm.refl _) ?_ lt
  match syms,h2 with
  | [],_=>exact .nil
  | [_],_=>exact List.pairwise_singleton _ _
  | _::_::_,h2=>exact absurd (by simp) h2
end
end
section
section
variable {w:World}{mean:ExcName→Option Value}{mg mb:Str→Option Value}{n:Nat}{ρ:Rho}{X:FX}{D:Led}{st st':St}{s:Shared}
noncomputable def TurnQ (w:World) (X:FX) (target:Expr) (I:Addr) (body:List Stmt) (v:Value) (Qn:Shared→Prop) (s:Shared):Prop :=
 wpAny (model pw w) X.A (letOwnedTupleGo target (.ref I) v) (fun _ s₁=>wpAny (model pw w) X.A (assign target X.env v) (fun _ s₂=>wpAny (model pw w) X.A (execs body X.env) (fun f s₃=>f=.next∧Qn s₃) F0 s₂) F0 s₁) F0 s
theorem list_loop {I Dl:Addr}{items:List Value}{target:Expr}{body:List Stmt}{o:Obj} (at_:Nat→St) (hne:Dl≠I) (hfx:∀ q∈X.fx,q.1≠I)
  (hl:∀ i o D' s',D.le D'→Inv ρ (X.with I o) D' (at_ i) s'→s'.heap.IsList Dl items.toArray)
  (turn:∀ i v o D' s' (Qn:Shared→Prop),items[i]?=some v→D.le D'→Inv ρ (X.with I o) D' (at_ i) s'→s'.heap.IsListIter I Dl (i+1)→(∀ D'' s'',D'.le D''→Inv ρ (X.with I o) D'' (at_ (i+1)) s''→Same s' s''→Qn s'')→TurnQ w X target I body v Qn s')
  {Q:Result→Shared→Prop} (J:Inv ρ (X.with I o) D (at_ 0) s) (h0:s.heap.IsListIter I Dl 0) (h:∀ D' s',D.le D'→Inv ρ X D' (at_ items.length) s'→Same s s'→Q (.ok .next) s') :
  codeAny (model pw w) X.A (.forLoop target (.ref I) body [] X.env) Q s:=by
 have W:=Walks.list (prog:=pw) (w:=w) (A:=X.A) rfl I Dl hne items.toArray
 refine codeAny_forLoop_any (fun k s'=>∃ i D' o',i+k=items.length∧D.le D'∧Same s s'∧Inv ρ (X.with I o') D' (at_ i) s'∧s'.heap.IsListIter I Dl i) (fun k s' hI=>?_) items.length ⟨0,D,o,Nat.zero_add _,Led.le.refl D,Same.refl s,J,h0⟩
 refine e35 (hI) ?_;try clear hI;intro i D' o' hk le sm I' hit
 have hL:=hl i o' D' s' le I'
 by_cases hi:i<items.length
 ·refine W.item i s' _ _ (by simpa using hi) ⟨hit,hL⟩ fun v h' tk pv sh' hkeep=>?_
  have pv:items.toArray[i]?=some v:=pv
  refine e21 (I') ?_;try clear I';intro m P' JA
  obtain ⟨⟨o₂,ho₂,hc2,hd2⟩,hl2⟩:=sh'
  have JA':=JA.turn (o':=o₂) hfx hkeep ho₂
  have I2:Inv ρ (X.with I o₂) D' (at_ i) {s' with heap:=h',toks:=tk}:=⟨m,P',JA'⟩
  have run:=turn i v o₂ D' {s' with heap:=h',toks:=tk} (fun s₃=>∃ k',k'<k∧∃ i D' o',i+k'=items.length∧D.le D'∧Same s s₃∧Inv ρ (X.with I o') D' (at_ i) s₃∧s₃.heap.IsListIter I Dl i) (by simpa using pv) le I2 ⟨o₂,ho₂,hc2,hd2⟩
   (fun D'' s'' le' I3 sm'=>by
    refine ⟨k-1,by lia,i+1,D'',o₂,by lia,le.trans le',sm.trans ⟨sm'.gens,sm'.drawn,sm'.os⟩,I3,o₂,?_,hc2,hd2⟩
    refine e21 (I3) ?_;try clear I3;intro m3 P3 J3
    exact (J3.N (I,o₂) (zR _ (zR _ (.head _)))).1)
  refine wpAny_mono run (fun _ s₁ r₁=>?_) fun _ _ z=>z.elim
  refine wpAny_mono r₁ (fun _ s₂ r₂=>?_) fun _ _ z=>z.elim
  refine wpAny_mono r₂ (fun f s₃ r₃=>?_) fun _ _ z=>z.elim
  refine e02 (r₃) ?_;try clear r₃;intro Y0 r₃;subst Y0
  exact r₃
 ·have hN:i=items.toArray.size:=by simp;lia
  have hit':s'.heap.IsListIter I Dl items.toArray.size:=hN▸hit
  refine W.done s' _ _ ⟨hit',hL⟩ fun h' tk hkeep=>wpAny_execs_nil ?_
  refine e21 (I') ?_;try clear I';intro m P' JA
  refine h D' _ le ?_ (sm.trans ⟨rfl,rfl,rfl⟩)
  have:=inv_end (tk:=tk) hfx JA hkeep
  rw [show items.length=i by rw [hN];simp]
  exact this
theorem fresh_iter {Dl:Addr} (J:Inv ρ X D st s) (hD:Dl<s.heap.objs.size):∃ o,Inv ρ (X.with s.heap.objs.size o) D st {s with heap:=s.heap.push {cls:=.type "list_iterator",data:=.fields #[.ref Dl,.int 0 0]}} ∧
  (s.heap.push {cls:=.type "list_iterator",data:=.fields #[.ref Dl,.int 0 0]}).IsListIter s.heap.objs.size Dl 0∧(∀ q∈X.fx,q.1≠s.heap.objs.size)∧Dl≠s.heap.objs.size:=by
 refine e21 (J) ?_;try clear J;intro m P J
 (exact (i14 _ (⟨m,P,J.pushFx {cls:=.type "list_iterator",data:=.fields #[.ref Dl,.int 0 0]} rfl⟩) (⟨_,Heap.get?_push_size _ rfl,rfl,rfl⟩) J.fx_ne (Nat.ne_of_lt hD)))
theorem bind_ok {x:Str}{px:Pos}{av:AV}{v:Value}{Q:Unit→Shared→Prop} (hX:X.Ok w mean mg mb ρ) (hl:isLocal X.cs x=true) (I:Inv ρ X D st s) (V:VR ρ D av v)
  (h:∀ s',Inv ρ X D ⟨setL st.loc x.cps.toList av,st.lst⟩ s'→Same s s'→Q () s'):wpAny (model pw w) X.A (assign (.Name x px) X.env v) Q F0 s:=by
 refine e21 (I) ?_;try clear I;intro m P J
 refine wpAny_assign_Name (storeX_L J.F J.N (fun h' F' N'=>?_) hX.k (isLocal_ok hl))
 have JS:=J.setLoc (x:=x.cps.toList) V (h':=h') (by rw [S_key x];exact F') N'
 exact h _ ⟨_,P,JS⟩ ⟨rfl,rfl,rfl⟩
theorem Inv.ext {h':Heap} (I:Inv ρ X D st s) (he:Heap.ExtBut s.heap.objs.size s.heap h'):Inv ρ X D st {s with heap:=h'}:=by
 refine e21 (I) ?_;try clear I;intro m P J
 exact ⟨m,P,J.F.extBut he (Nat.le_refl _),J.N.extBut he (Nat.le_refl _),J.loc,J.ls,J.ad,J.nd,J.dj,J.fd⟩
theorem pair_ok {x y:Str}{px py p:Pos}{k:Nat}{a:Addr}{v1 v2:Value}{ep:Nat}{av1 av2:AV}{Q:Unit→Shared→Prop} (hX:X.Ok w mean mg mb ρ) (hx:isLocal X.cs x=true) (hy:isLocal X.cs y=true) (I:Inv ρ X D st s)
  (ha:s.heap.get? a=some {cls:=.type "tuple",data:=.seq #[v1,v2] ep}) (V1:VR ρ D av1 v1) (V2:VR ρ D av2 v2)
  (h:∀ s',Inv ρ X D ⟨setL (setL st.loc x.cps.toList av1) y.cps.toList av2,st.lst⟩ s'→Same s s'→Q () s'):wpAny (model pw w) X.A (assign (.Tuple [.Name x px,.Name y py] k p) X.env (.ref a)) Q F0 s:=by
 refine PyProof.Rows.assign_Tuple_tuple rfl ⟨_,ha,rfl,_,rfl⟩ rfl rfl fun h' he=>?_
 have I':=I.ext he
 show wpAny _ _ (assignInOrder [assign (.Name x px) X.env,assign (.Name y py) X.env] [v1,v2]) _ _ _
 refine assignInOrder_cons (bind_ok hX hx I' V1 fun s₁ I₁ sm₁=>assignInOrder_cons (bind_ok hX hy I₁ V2 fun s₂ I₂ sm₂=>assignInOrder_nil ?_))
 exact h s₂ I₂ ((⟨rfl,rfl,rfl⟩:Same s {s with heap:=h'}).trans (sm₁.trans sm₂))
end
end
end Nn62
end
section
namespace Nn62
section
theorem better_iff {a b:Sy}:better a b=true ↔ (b.1<a.1∨(a.1=b.1∧a.2<b.2)):=by
 unfold better
 rw [Bool.or_eq_true,Bool.and_eq_true,decide_eq_true_iff,decide_eq_true_iff,decide_eq_true_iff]
noncomputable def IsNear (l:List Sy) (p:Int):Option Sy→Prop
 | none=>∀ s∈l,¬ s.1≤p
 | some b=>b∈l∧b.1≤p∧∀ s∈l,s.1≤p→better s b=false
theorem better_false {a b:Sy}:better a b=false ↔ ¬ (b.1<a.1∨(a.1=b.1∧a.2<b.2)):=by
 rw [← better_iff];cases better a b <;> simp
theorem near_unique {l l':List Sy}{p:Int} (hp:∀ s,s∈l ↔ s∈l') {a b:Option Sy} (ha:IsNear l p a) (hb:IsNear l' p b):a=b:=by
 cases a with
 | none =>
  cases b with
  | none=>rfl
  | some b=>exact absurd hb.2.1 (ha b ((hp b).mpr hb.1))
 | some a =>
  cases b with
  | none=>exact absurd ha.2.1 (hb a ((hp a).mp ha.1))
  | some b =>
   have h1:=better_false.mp (ha.2.2 b ((hp b).mpr hb.1) hb.2.1)
   have h2:=better_false.mp (hb.2.2 a ((hp a).mp ha.1) ha.2.1)
   have e1:a.1=b.1:=by
    have:=fun h=>h1 (.inl h);have:=fun h=>h2 (.inl h);lia
   have e2:a.2=b.2:=by
    rcases ln_tri a.2 b.2 with h|h|h
    ·exact absurd (.inr ⟨e1,h⟩) h2
    ·exact h
    ·exact absurd (.inr ⟨e1.symm,h⟩) h1
   cases a;cases b;simp only at e1 e2;rw [e1,e2]
theorem better_trans {a b c:Sy} (h:better b c=true) (g:better a b=false):better c b=false:=by
 rw [better_false];rw [better_iff] at h
 intro q
 rcases h with h|⟨h1,h2⟩ <;> rcases q with q|⟨q1,q2⟩
 ·lia
 ·lia
 ·lia
 ·exact absurd (ln_trans h2 q2) (ln_irrefl _)
noncomputable def pick (s:Sy):Option Sy→Option Sy
 | none=>some s
 | some b=>if better s b then some s else some b
theorem near_step {l:List Sy}{p:Int}{best:Option Sy} (h:IsNear l p best) (s:Sy) :
  IsNear (l++[s]) p (if s.1≤p then pick s best else best):=by
 by_cases hs:s.1≤p
 ·rw [if_pos hs]
  cases best with
  | none =>
   refine (i03 (zR _ (.head _)) hs (fun x hx hxp=>?_))
   rcases zA hx with hx|hx
   ·exact absurd hxp (h x hx)
   ·rw [zS hx,better_false]
    rintro (q|⟨_,q⟩)
    ·lia
    ·exact ln_irrefl _ q
  | some b =>
   cases hb:better s b with
   | true =>
    rw [show pick s (some b)=some s from if_pos hb]
    refine (i03 (zR _ (.head _)) hs (fun x hx hxp=>?_))
    rcases zA hx with hx|hx
    ·have h1:=better_false.mp (h.2.2 x hx hxp)
     rw [better_iff] at hb
     rw [better_false]
     rintro (q|⟨q1,q2⟩)
     ·rcases hb with hb|⟨hb,_⟩
      ·exact h1 (.inl (by (exact Int.lt_trans (by assumption) (by assumption))))
      ·exact h1 (.inl (by lia))
     ·rcases hb with hb|⟨hb1,hb2⟩
      ·exact h1 (.inl (by lia))
      ·exact h1 (.inr ⟨by lia,ln_trans q2 hb2⟩)
    ·rw [zS hx,better_false]
     rintro (q|⟨_,q⟩)
     ·lia
     ·exact ln_irrefl _ q
   | false =>
    rw [show pick s (some b)=some b from if_neg (by rw [hb];exact zF)]
    refine (i03 (zL _ h.1) h.2.1 (fun x hx hxp=>?_))
    rcases zA hx with hx|hx
    ·exact h.2.2 x hx hxp
    ·rw [zS hx];exact hb
 ·rw [if_neg hs]
  cases best with
  | none =>
   intro x hx
   rcases zA hx with hx|hx
   ·exact h x hx
   ·rw [zS hx];exact hs
  | some b =>
   refine (i03 (zL _ h.1) h.2.1 (fun x hx hxp=>?_))
   rcases zA hx with hx|hx
   ·exact h.2.2 x hx hxp
   ·rw [zS hx] at hxp;exact absurd hxp hs
theorem nearGo_ok {p:Int}:∀ (r l:List Sy) (best:Option Sy),IsNear l p best→IsNear (l++r) p (nearGo p r best)
 | [],l,best,h=>by rw [List.append_nil];exact h
 | s::r,l,best,h=>by
  have:=nearGo_ok r (l++[s]) _ (near_step h s)
  rw [List.append_assoc] at this
  have e:nearGo p (s::r) best=nearGo p r (if s.1≤p then pick s best else best):=by cases best <;> rfl
  rw [e];exact this
theorem nearL_ok (l:List Sy) (p:Int):IsNear l p (nearL l p):=nearGo_ok l [] none fun _ h=>absurd h List.not_mem_nil
noncomputable def scanStep (p:Int) (b:List Nat×Int) (s:Sy):List Nat×Int:=if s.1≤p∧b.2<s.1 then (s.2,s.1) else b
noncomputable def ScanIs (b:List Nat×Int):Option Sy→Prop
 | none=>b=([],-1)
 | some s=>b=(s.2,s.1)
theorem scan_step {l:List Sy}{p:Int}{b:List Nat×Int}{best:Option Sy}{s:Sy} (h:IsNear l p best) (hb:ScanIs b best) (hs:∀ c∈l,symLt s c=false) (h0:0≤s.1) :
  ∃ best',IsNear (l++[s]) p best'∧ScanIs (scanStep p b s) best':=by
 refine (i12 _ (near_step h s) ?_)
 unfold scanStep
 by_cases hp:s.1≤p
 ·rw [if_pos hp]
  cases best with
  | none =>
   have hb:b=([],-1):=hb
   rw [if_pos ⟨hp,by rw [hb];show (-1:Int)<s.1;assumption⟩];rfl
  | some c =>
   have hb:b=(c.2,c.1):=hb
   have hsc:¬ (s.1<c.1∨(s.1=c.1∧s.2<c.2)):=fun q=>by
    have:=hs c h.1
    rw [symLt_iff.mpr q] at this;exact xTF this
   cases hq:better s c with
   | true =>
    have hq:=better_iff.mp hq
    have:c.1<s.1:=by
     rcases hq with hq|⟨q1,q2⟩
     ·exact hq
     ·exact absurd (.inr ⟨q1,q2⟩) hsc
    rw [if_pos ⟨hp,by rw [hb];exact this⟩,show pick s (some c)=some s from if_pos (better_iff.mpr hq)];rfl
   | false =>
    have hq':=better_false.mp hq
    rw [if_neg (fun z=>hq' (.inl (by rw [hb] at z;exact z.2))),show pick s (some c)=some c from if_neg (by rw [hq];exact zF)]
    exact hb
 ·rw [if_neg hp,if_neg (fun z=>hp z.1)]
  exact hb
theorem scan_take {l:List Sy}{p:Int} (hl:l.Pairwise fun a b=>symLt b a=false) (h0:∀ s∈l,0≤s.1):∀ i,i≤l.length→∃ best,IsNear (l.take i) p best∧ScanIs ((l.take i).foldl (scanStep p) ([],-1)) best
 | 0,_=>⟨none,fun _ h=>by simp at h,rfl⟩
 | i+1,hi=>by
  obtain ⟨best,h1,h2⟩:=scan_take hl h0 i (by (exact Nat.le_of_lt (by assumption)))
  have e:l.take (i+1)=l.take i++[l[i]]:=by rw [List.take_succ_eq_append_getElem]
  rw [e,List.foldl_append]
  refine scan_step h1 h2 (fun c hc=>?_) (h0 _ (List.getElem_mem _))
  obtain ⟨j,hj,rfl⟩:=List.mem_iff_getElem.mp hc
  rw [List.length_take] at hj
  rw [List.getElem_take]
  exact List.pairwise_iff_getElem.mp hl j i (by lia) (by assumption) (by lia)
theorem scan_all {l l':List Sy}{p:Int} (hl:l'.Pairwise fun a b=>symLt b a=false) (hperm:l'.Perm l) (h0:∀ s∈l,0≤s.1):ScanIs (l'.foldl (scanStep p) ([],-1)) (nearL l p):=by
 refine e12 (scan_take (p:=p) hl (fun s hs=>h0 s (hperm.mem_iff.mp hs)) l'.length (Nat.le_refl _)) ?_;intro best h1 h2
 rw [List.take_length] at h1 h2
 rw [near_unique (fun s=>hperm.symm.mem_iff) (nearL_ok l p) h1]
 exact h2
end
end Nn62
end
section
open PySem PySem.W PySem.Calls PyProof.Rows
namespace Nn62
open PySem.W.Z (leB ltB eqB leB_iff ltB_iff eqB_iff)
section
noncomputable def fBody (zs:Stmt):List Stmt:=(atB zs 0)
noncomputable def fPos (zs:Stmt):Pos:=(atP zs 0)
noncomputable def iTest (zs:Stmt):Expr:=(atE zs 1)
noncomputable def iBody (zs:Stmt):List Stmt:=(atB zs 0)
noncomputable def iPos (zs:Stmt):Pos:=(atP zs 0)
noncomputable def fPosT (zs:Stmt):Pos×Pos×Nat×Pos:=((atP zs 65),(atP zs 129),(atK zs 1),(atP zs 1))
noncomputable def fPosC (zs:Stmt):Pos×Pos×Pos:=((atP zs 66),(atP zs 130),(atP zs 2))
noncomputable def symbolsN:List Nat:=[115,121,109,98,111,108,115]
noncomputable def placeN:List Nat:=[112,108,97,99,101]
noncomputable def bestN:List Nat:=[98,101,115,116]
noncomputable def atN:List Nat:=[97,116]
noncomputable def spotN:List Nat:=[115,112,111,116]
noncomputable def nameN:List Nat:=[110,97,109,101]
noncomputable def sortedN:List Nat:=[115,111,114,116,101,100]
noncomputable def nearS (i:Nat):Stmt:=b527.1.getD i (.Pass ⟨0,0,0,0⟩)
theorem near_body:b527.1=[nearS 0,nearS 1]++[.For (.Tuple [.Name (S spotN) (fPosT (nearS 2)).1,.Name (S nameN) (fPosT (nearS 2)).2.1] (fPosT (nearS 2)).2.2.1 (fPosT (nearS 2)).2.2.2)
  (.Call (.Name (S sortedN) (fPosC (nearS 2)).1) [.Name (S symbolsN) (fPosC (nearS 2)).2.1] [] (fPosC (nearS 2)).2.2) (fBody (nearS 2)) [] (fPos (nearS 2)),nearS 3,nearS 4]:=by kernel_rfl
theorem near_if:fBody (nearS 2)=[.If (iTest ((fBody (nearS 2)).getD 0 (.Pass ⟨0,0,0,0⟩))) (iBody ((fBody (nearS 2)).getD 0 (.Pass ⟨0,0,0,0⟩))) [] (iPos ((fBody (nearS 2)).getD 0 (.Pass ⟨0,0,0,0⟩)))]:=by kernel_rfl
noncomputable def nearT_:Expr:=iTest ((fBody (nearS 2)).getD 0 (.Pass ⟨0,0,0,0⟩))
noncomputable def nearB_:List Stmt:=iBody ((fBody (nearS 2)).getD 0 (.Pass ⟨0,0,0,0⟩))
theorem args527:((sArgs (stA 47)).args.map fun p=>p.arg.cps.toList)=[symbolsN,placeN]:=by kernel_rfl
theorem fn527 (w:World):FnOk w 527 (sArgs (stA 47)) (sBody (stA 47)) (sScope (stA 47)):=by
 refine fnOk_of (dV:=.none) (cd:=526) (q:=S [110,101,97,114,95,115,121,109,98,111,108]) (pm:=.str (S zq1) 636) (by kernel_rfl) (by kernel_rfl) (by kernel_rfl) fun s vs h=>?_
 have hl:(sArgs (stA 47)).args.length=2:=by kernel_rfl
 rw [hl] at h
 refine e21 (len2 h) ?_;clear h;intro v0 v1 Y2;subst Y2
 exact BindsTo.of_eq (by kernel_rfl)
noncomputable abbrev pE (p:Int):IE:=.extb p 0 18446744073709551615
noncomputable def nL (p:Int) (b:AV) (a:AV):Locs:=[(symbolsN,.opq 0),(placeN,.int (pE p)),(bestN,b),(atN,a)]
noncomputable def nL2 (p:Int) (b:AV) (a:AV) (sp:Int) (x:List Nat):Locs:=nL p b a++[(spotN,.int (pE sp)),(nameN,.str (.ext x 60 .nil))]
theorem near_pre (p:Int):(recs Tf 40).exs s527.1 ⟨[(symbolsN,.opq 0),(placeN,.int (pE p))],[]⟩ [nearS 0,nearS 1] []=some (.next ⟨nL p (.str .nil) (.int (.lit (-1))),[]⟩):=by kernel_rfl
theorem near_test (p:Int) (b:List Nat) (a sp:Int) (x:List Nat):(recs Tf 40).tst s527.1 ⟨nL2 p (.str (.ext b 60 .nil)) (.int (.ext a)) sp x,[]⟩ nearT_=some (.u (.and (.le (pE sp) (pE p)) (.lt (.ext a) (pE sp))),⟨nL2 p (.str (.ext b 60 .nil)) (.int (.ext a)) sp x,[]⟩):=by kernel_rfl
theorem near_yes (p:Int) (b:List Nat) (a sp:Int) (x:List Nat):(recs Tf 40).exs s527.1 ⟨nL2 p (.str (.ext b 60 .nil)) (.int (.ext a)) sp x,[]⟩ nearB_ []=some (.next ⟨nL2 p (.str (.ext x 60 .nil)) (.int (pE sp)) sp x,[]⟩):=by kernel_rfl
theorem near_none (p:Int):(recs Tf 40).exs s527.1 ⟨nL p (.str .nil) (.int (.lit (-1))),[]⟩ [nearS 3,nearS 4] []=some (.ret (.str .nil) ⟨nL p (.str .nil) (.int (.lit (-1))),[]⟩):=by kernel_rfl
noncomputable def gapE (p sp:Int):IE:=.sub (pE p) (pE sp)
noncomputable def hexE (e:IE):SE:=.ite (.lt e (.lit 0)) (.lit [45,48,120] (.fn 0 24 (.neg e) .nil)) (.lit [48,120] (.fn 0 24 e .nil)) .nil
noncomputable def nearOut (p sp:Int) (x:List Nat):SE:=.lit [60] (.ite (.eq (gapE p sp) (.lit 0)) (.lit x .nil) (.ite (.lt (gapE p sp) (.lit 0)) (.lit x (hexE (gapE p sp))) (.lit (x++[43]) (hexE (gapE p sp))) .nil) (.lit [62] .nil))
theorem near_some (p sp:Int):∀ x∈goodNames,(recs Tf 40).exs s527.1 ⟨nL p (.str (.lit x .nil)) (.int (pE sp)),[]⟩ [nearS 3,nearS 4] []=some (.ret (.str (nearOut p sp x)) ⟨nL p (.str (.lit x .nil)) (.int (pE sp)),[]⟩):=by
 intro x hx
 unfold goodNames at hx
 simp only [List.mem_cons,List.not_mem_nil,or_false] at hx
 rcases hx with rfl|rfl|rfl|rfl|rfl
 all_goals kernel_rfl
end
section
structure SymOf (ρ:Rho) (hx:List (Addr×Obj)) (la:Addr) (vs:List Value) (ep:Nat) (syms:List Sy):Prop where
 o:ρ.o 0=.ref la
 mem:(la,({cls:=.type "list",data:=.seq vs.toArray ep}:Obj))∈hx
 vs:SymVs hx vs syms
 ok:∀ s∈syms,SyOk s
 len:syms.length≤5
 f1:ρ.f 1=toldL syms
theorem good_len {x:List Nat} (h:x∈goodNames):x.length≤4∧x≠[]:=by
 unfold goodNames at h
 simp only [List.mem_cons,List.not_mem_nil,or_false] at h
 rcases h with rfl|rfl|rfl|rfl|rfl <;> exact ⟨by decide,by decide⟩
theorem good_take {x:List Nat} (h:x∈goodNames):x.take 60=x:=zT (by have:=(good_len h).1;(exact Nat.le_trans (by assumption) (by decide)))
section
variable {w:World}{mean:ExcName→Option Value}{mg mb:Str→Option Value}{n:Nat}{ρ:Rho}{X:FX}{D:Led}{loc:Locs}{lst:List (List AV)}{s:Shared}
theorem FX.Ok.symOf {la:Addr} (hX:X.Ok w mean mg mb ρ) (ho:ρ.o 0=.ref la):∃ vs ep syms,SymOf ρ X.hx la vs ep syms:=by
 refine e03 (hX.sym) ?_;intro _ _ h
 refine e35 (h la ho) ?_;intro vs ep syms h2 h3 h4 h5 h6
 exact ⟨vs,ep,syms,ho,h2,h3,h4,h5,h6⟩
theorem pE_den {p:Int} (h:0≤p∧p<pow64):(pE p).den ρ=p:=extb_den h.1 (by have:=h.2;unfold pow64 at this;lia)
noncomputable def scanAt (p:Int) (l:List Sy) (i:Nat):List Nat×Int:=(l.take i).foldl (scanStep p) ([],-1)
noncomputable def scanSt (p:Int) (l:List Sy) (i:Nat):St:=⟨nL p (.str (.ext (scanAt p l i).1 60 .nil)) (.int (.ext (scanAt p l i).2)),[]⟩
theorem scanAt_succ {p:Int}{l:List Sy}{i:Nat} (h:i<l.length):scanAt p l (i+1)=scanStep p (scanAt p l i) l[i]:=by
 unfold scanAt
 rw [List.take_succ_eq_append_getElem h,List.foldl_append];rfl
theorem hexE_den (hX:X.Ok w mean mg mb ρ) {e:IE} (h0:0≤e.den ρ) (h1:e.den ρ<2 ^ 96):(hexE e).den ρ=[48,120]++hexL (e.den ρ):=by
 have:ltB (e.den ρ) 0=false:=by rw [ltB_dec];exact decide_eq_false (by lia)
 simp only [hexE,SE.den,BE.den,IE.den,this,cond_false,List.append_nil,hX.sym.1]
 rw [zT (hexL_len (k:=24) h1 (by decide))]
theorem nearOut_den (hX:X.Ok w mean mg mb ρ) {p sp:Int}{x:List Nat} (hp:0≤p∧p<pow64) (hs:0≤sp∧sp<pow64) (hle:sp≤p):(nearOut p sp x).den ρ=[60]++plusL x (p-sp)++[62]:=by
 have hg:(gapE p sp).den ρ=p-sp:=by show (pE p).den ρ-(pE sp).den ρ=_;rw [pE_den hp,pE_den hs]
 have h1:=hp.2
 have h2:=hs.2
 unfold pow64 at h1 h2
 have hlt:ltB (p-sp) 0=false:=by rw [ltB_dec];exact decide_eq_false (by lia)
 have hx:=hexE_den (e:=gapE p sp) hX (by rw [hg];(exact Int.sub_nonneg_of_le (by assumption))) (by rw [hg];lia)
 rw [hg] at hx
 simp only [nearOut,SE.den,BE.den,IE.den,hg,hx,hlt,cond_false,List.append_nil]
 unfold plusL
 by_cases q:p-sp=0
 ·rw [if_pos q,(eqB_iff _ _).mpr q];simp
 ·rw [if_neg q,show eqB (p-sp) 0=false by rw [eqB_dec];exact decide_eq_false q];simp
theorem near_ok {la:Addr}{vs:List Value}{ep:Nat}{syms:List Sy} (hs:SymOf ρ X.hx la vs ep syms) {p:Int} (hp:0≤p∧p<pow64) {fv:Value}{t:Tok}{Q:Value→Shared→Prop} (hX:X.Ok w mean mg mb ρ) (hr:Room X 71) (I:Inv ρ X D ⟨loc,lst⟩ s) (hf:VR ρ D (.top 527) fv)
  (h:∀ D' s' t',D.le D'→Inv ρ X D' ⟨loc,lst⟩ s'→Same s s'→Q (.str (S (nearT syms p)) t') s'):wpAny (model pw w) X.A (call fv [ρ.o 0,.int p t]) Q F0 s:=by
 refine enter_hide (n:=70) (fn527 w) (args:=[.opq 0,.int (pE p)]) (l:=[(symbolsN,.opq 0),(placeN,.int (pE p))]) (by rw [args527];rfl) hX hr I hf (fun imm _=>.cons (.sy hs.o) (.cons (by have:=VR.int (ρ:=ρ) (D:=⟨imm,[]⟩) (pE p) t;rw [pE_den hp] at this;exact this) .nil))
  (fun _ v=>∃ t',v=.str (S (nearT syms p)) t') (fun X' hcs hhx hX' hr' s₁ I₁ sm₁=>?_) (fun D' v s' le I' hp' sm=>by (refine e11 (hp') ?_;try clear hp';intro t' Y1;subst Y1);exact h D' s' t' le I' sm)
 have hcs':X'.cs=s527.1:=hcs.trans s527.2
 rw [← hhx] at hs
 have R:=recs_ok (Tf_all w mean mg mb) 40
 rw [b527.2,near_body]
 refine wpAny_hide fun Qp hQp=>?_
 refine execs_app (exs_two (m:=40) (Tf_all w mean mg mb) hX' hr' hcs' (near_pre p) I₁ fun D₂ s₂ le₂ I₂ sm₂=>?_)
 refine wpAny_execs_cons (wpAny_For (Call_ (fn_ok (Tf_all w mean mg mb).toTabsOk hX' (av:=.bi 4) (by rw [hcs'];rfl) I₂ fun D₃ fv₃ s₃ le₃ I₃ V₃ sm₃=>?_)) (fun x=>rfl))
 (have Y:=V₃.biI;clear V₃;subst Y)
 refine callWith_builtin1 (id:="sorted") (args_cons (name_ok (Tf_all w mean mg mb).toTabsOk hX' (av:=.opq 0) (by rw [hcs'];rfl) I₃ fun D₄ v₄ s₄ le₄ I₄ V₄ sm₄=>args_nil ?_))
 obtain rfl:=V₄.opqI
 rw [hs.o]
 refine e21 (id I₄) ?_;intro m₄ P₄ J₄
 have hxN:∀ q∈X'.hx,q∈P₄++(D₄.imm++X'.fx):=fun q hq=>zR _ (zR _ (hX'.held q hq))
 refine sort_all J₄.F J₄.N ⟨_,(J₄.N _ (hxN _ hs.mem)).1,rfl,_,rfl⟩ (hs.vs.mono hxN) hs.len fun Dl h₅ out c syms' F₅ N₅ V₅ hperm hsort lt₅=>?_
 have hP:P₄=[]:=by have:=J₄.ls.length;exact List.length_eq_zero_iff.mp this
 subst hP
 let D₅:Led:=⟨(Dl,listOf (List.toArray out) c)::D₄.imm,D₄.lad⟩
 have I₅:Inv ρ X' D₅ ⟨nL p (.str .nil) (.int (.lit (-1))),[]⟩ {s₄ with heap:=h₅}:=⟨m₄,[],J₄.pushAt Dl _ lt₅ F₅ N₅⟩
 have hDl:h₅.get? Dl=some (listOf (List.toArray out) c):=(N₅ _ (.head _)).1
 have hlen:=V₅.len
 have hok:∀ x∈syms',SyOk x:=fun x hx=>hs.ok x (hperm.mem_iff.mp hx)
 refine wpAny_pyIter_list (l:=Dl) (items:=List.toArray out) ⟨_,hDl,rfl,_,rfl⟩ ?_
 have I₅':Inv ρ X' D₅ (scanSt p syms' 0) {s₄ with heap:=h₅}:=I₅.reloc (.cons (by rfl) AVeq.rfl' (.cons (by rfl) AVeq.rfl' (.cons (a:=.str .nil) (by rfl) (AVeq.str (by simp [SE.den,scanAt])) (.cons (a:=.int (.lit (-1))) (by rfl) (AVeq.int rfl) .nil))))
 refine e14 (fresh_iter I₅' (Heap.lt_size hDl)) ?_;intro o I₆ hit hfx6 hne6
 refine list_loop (items:=out) (scanSt p syms') hne6 hfx6 (fun i o D' s' le I'=>?_) (fun i v o D' s' Qn hv le I' hit' hq=>?_) I₆ hit (fun D' s' le I' sm=>?_)
 ·refine e21 (I') ?_;try clear I';intro m P J
  exact ⟨_,J.imm (le.imm _ (.head _)),rfl,_,rfl⟩
 ·-- a turn
  have hi:i<syms'.length:=by rw [← hlen];exact (List.getElem?_eq_some_iff.mp hv).1
  refine e42 (V₅.get hi) ?_;intro a tk tk' k e1 e2
  have e3:v=.ref a:=by
   rw [← e1,List.getD_eq_getElem?_getD,hv];rfl
  have e4:syms'.getD i (0,[])=syms'[i]:=by rw [List.getD_eq_getElem?_getD,List.getElem?_eq_getElem hi];rfl
  rw [e4] at e2
  subst e3
  refine e03 (hok _ (List.getElem_mem hi)) ?_;intro ok1 ok2 ok3
  have hobj:s'.heap.get? a=some {cls:=.type "tuple",data:=.seq #[.int (syms'[i]).1 tk,.str (S (syms'[i]).2) tk'] k}:=by
   refine e21 (I') ?_;try clear I';intro m P J
   have hm:(a,({cls:=.type "tuple",data:=.seq #[.int (syms'[i]).1 tk,.str (S (syms'[i]).2) tk'] k}:Obj))∈D'.imm++(X'.with h₅.objs.size o).fx:=?hm
   ·exact (J.N _ (zR _ hm)).1
   rcases zA (show (a,({cls:=.type "tuple",data:=.seq #[.int (syms'[i]).1 tk,.str (S (syms'[i]).2) tk'] k}:Obj))∈D₄.imm++X'.fx from e2) with z|z
   ·exact zL _ (le.imm _ (.tail _ z))
   ·exact zR _ (.tail _ z)
  unfold TurnQ
  refine wpAny_letOwnedTupleGo_listiter hit' ?_
  have hXw:=okWith (I:=h₅.objs.size) (o:=o) hX'
  have hcsw:(X'.with h₅.objs.size o).cs=s527.1:=hcs'
  have V1:VR ρ D' (.int (pE (syms'[i]).1)) (.int (syms'[i]).1 tk):=by
   have:=VR.int (ρ:=ρ) (D:=D') (pE (syms'[i]).1) tk
   rw [pE_den ⟨ok1,ok2⟩] at this;exact this
  have V2:VR ρ D' (.str (.ext (syms'[i]).2 60 .nil)) (.str (S (syms'[i]).2) tk'):=by
   have:=VR.str (ρ:=ρ) (D:=D') (.ext (syms'[i]).2 60 .nil) tk'
   rw [show (SE.ext (syms'[i]).2 60 .nil).den ρ=(syms'[i]).2 by simp [SE.den,good_take ok3]] at this;exact this
  refine pair_ok (X:=X'.with h₅.objs.size o) hXw (by rw [hcsw];rfl) (by rw [hcsw];rfl) I' hobj V1 V2 fun s₇ I₇ sm₇=>?_
  have I₇':Inv ρ (X'.with h₅.objs.size o) D' ⟨nL2 p (.str (.ext (scanAt p syms' i).1 60 .nil)) (.int (.ext (scanAt p syms' i).2)) (syms'[i]).1 (syms'[i]).2,[]⟩ s₇:=I₇
  rw [near_if]
  refine wpAny_execs_cons (wpAny_If (R.2.1 _ _ _ _ _ (near_test p (scanAt p syms' i).1 (scanAt p syms' i).2 (syms'[i]).1 (syms'[i]).2) ρ (X'.with h₅.objs.size o) D' s₇ _ hcsw hXw hr' I₇' fun D₈ b₈ s₈ le₈ I₈ V₈ sm₈=>?_))
  (have Y:=V₈.uI;clear V₈;subst Y)
  have hc:(BE.and (.le (pE (syms'[i]).1) (pE p)) (.lt (.ext (scanAt p syms' i).2) (pE (syms'[i]).1))).den ρ=decide ((syms'[i]).1≤p∧(scanAt p syms' i).2<(syms'[i]).1):=by
   simp only [BE.den,IE.den]
   rw [show clamp 0 18446744073709551615 (syms'[i]).1=(syms'[i]).1 from pE_den (ρ:=ρ) ⟨ok1,ok2⟩,show clamp 0 18446744073709551615 p=p from pE_den (ρ:=ρ) hp,leB_dec,ltB_dec]
   by_cases q1:(syms'[i]).1≤p <;> by_cases q2:(scanAt p syms' i).2<(syms'[i]).1 <;> simp [q1,q2]
  rw [hc]
  have hsucc:=scanAt_succ (p:=p) (l:=syms') hi
  by_cases q:(syms'[i]).1≤p∧(scanAt p syms' i).2<(syms'[i]).1
  ·rw [decide_eq_true q,if_pos rfl]
   refine R.2.2.1 _ _ _ [] _ (near_yes p (scanAt p syms' i).1 (scanAt p syms' i).2 (syms'[i]).1 (syms'[i]).2) ρ (X'.with h₅.objs.size o) D₈ s₈ _ hcsw hXw hr' I₈ fun D₉ fl s₉ le₉ fr sm₉=>?_
   refine e02 (fr) ?_;try clear fr;intro Y0 I₉;subst Y0
   refine wpAny_execs_nil ⟨rfl,hq D₉ s₉ (le₈.trans le₉) ?_ ((sm₇.trans sm₈).trans sm₉)⟩
   have e:scanAt p syms' (i+1)=((syms'[i]).2,(syms'[i]).1):=by rw [hsucc];unfold scanStep;rw [if_pos q]
   refine I₉.reloc (.cons (by rfl) AVeq.rfl' (.cons (by rfl) AVeq.rfl' (.cons (a:=.str (.ext (syms'[i]).2 60 .nil)) (by rfl) (AVeq.str (by rw [e])) (.cons (a:=.int (pE (syms'[i]).1)) (by rfl) (AVeq.int ?_) .nil))))
   rw [e];exact pE_den ⟨ok1,ok2⟩
  ·rw [decide_eq_false q,if_neg zF]
   refine wpAny_execs_nil (wpAny_execs_nil ⟨rfl,hq D₈ s₈ le₈ ?_ (sm₇.trans sm₈)⟩)
   have e:scanAt p syms' (i+1)=scanAt p syms' i:=by rw [hsucc];unfold scanStep;rw [if_neg q]
   exact I₈.reloc (.cons (by rfl) AVeq.rfl' (.cons (by rfl) AVeq.rfl' (.cons (a:=.str (.ext (scanAt p syms' i).1 60 .nil)) (by rfl) (AVeq.str (by rw [e])) (.cons (a:=.int (.ext (scanAt p syms' i).2)) (by rfl) (AVeq.int (by rw [e])) .nil))))
 ·-- what comes after the loop
  have hscan:=scan_all (p:=p) hsort hperm (fun x hx=>(hs.ok x hx).1)
  have e:scanAt p syms' out.length=syms'.foldl (scanStep p) ([],-1):=by unfold scanAt;rw [hlen,List.take_length]
  have Is:Inv ρ X' D' (scanSt p syms' out.length) s':=I'
  have smA:Same s s':=((((sm₁.trans sm₂).trans sm₃).trans sm₄).trans (⟨rfl,rfl,rfl⟩:Same s₄ {s₄ with heap:=h₅})).trans ⟨sm.gens,sm.drawn,sm.os⟩
  have leA:(⟨D.imm,[]⟩:Led).le D':=(((le₂.trans le₃).trans le₄).trans (Led.le_imm D₄ _)).trans le
  cases hn:nearL syms p with
  | none =>
   rw [hn] at hscan
   have hscan:syms'.foldl (scanStep p) ([],-1)=([],-1):=hscan
   have Ib:Inv ρ X' D' ⟨nL p (.str .nil) (.int (.lit (-1))),[]⟩ s':=Is.reloc (.cons (by rfl) AVeq.rfl' (.cons (by rfl) AVeq.rfl' (.cons (a:=.str (.ext (scanAt p syms' out.length).1 60 .nil)) (by rfl) (AVeq.str (by rw [e,hscan];simp [SE.den])) (.cons (a:=.int (.ext (scanAt p syms' out.length).2)) (by rfl) (AVeq.int (by rw [e,hscan];rfl)) .nil))))
   refine R.2.2.1 _ _ _ [] _ (near_none p) ρ X' D' s' _ hcs' hX' hr' Ib fun D₉ fl s₉ le₉ fr sm₉=>?_
   refine e13 (fr) ?_;try clear fr;intro v Y1 V I₉;subst Y1
   refine e11 V.strI ?_;clear V;intro t' Y;subst Y
   exact hQp _ _ ⟨_,D₉,_,rfl,leA.trans le₉,I₉,smA.trans sm₉,t',by unfold nearT;rw [hn];rfl⟩
  | some b =>
   rw [hn] at hscan
   have hscan:syms'.foldl (scanStep p) ([],-1)=(b.2,b.1):=hscan
   have hb:=nearL_ok syms p
   rw [hn] at hb
   refine e03 (hb) ?_;try clear hb;intro bm ble _
   refine e03 (hs.ok b bm) ?_;intro ok1 ok2 ok3
   have Ib:Inv ρ X' D' ⟨nL p (.str (.lit b.2 .nil)) (.int (pE b.1)),[]⟩ s':=Is.reloc (.cons (by rfl) AVeq.rfl' (.cons (by rfl) AVeq.rfl' (.cons (a:=.str (.ext (scanAt p syms' out.length).1 60 .nil)) (by rfl) (AVeq.str (by rw [e,hscan];simp [SE.den,good_take ok3])) (.cons (a:=.int (.ext (scanAt p syms' out.length).2)) (by rfl) (AVeq.int (by rw [e,hscan];exact (pE_den ⟨ok1,ok2⟩).symm)) .nil))))
   refine R.2.2.1 _ _ _ [] _ (near_some p b.1 b.2 ok3) ρ X' D' s' _ hcs' hX' hr' Ib fun D₉ fl s₉ le₉ fr sm₉=>?_
   refine e13 (fr) ?_;try clear fr;intro v Y1 V I₉;subst Y1
   refine e11 V.strI ?_;clear V;intro t' Y;subst Y
   refine hQp _ _ ⟨_,D₉,_,rfl,leA.trans le₉,I₉,smA.trans sm₉,t',?_⟩
   rw [nearOut_den hX' hp ⟨ok1,ok2⟩ ble]
   unfold nearT;rw [hn]
end
end
section
noncomputable def aPos (zs:Stmt):Pos×Pos:=((atP zs 1),(atP zs 0))
noncomputable def cPos (zs:Stmt):Pos×Pos×Pos×Pos:=((atP zs 66),(atP zs 130),(atP zs 194),(atP zs 2))
noncomputable def nearN:List Nat:=[110,101,97,114]
noncomputable def nearFN:List Nat:=[110,101,97,114,95,115,121,109,98,111,108]
noncomputable def toldS (i:Nat):Stmt:=b534.1.getD i (.Pass ⟨0,0,0,0⟩)
theorem told_body:b534.1=[.Assign [.Name (S nearN) (aPos (toldS 0)).1] (.Call (.Name (S nearFN) (cPos (toldS 0)).1) [.Name (S symbolsN) (cPos (toldS 0)).2.1,.Name (S placeN) (cPos (toldS 0)).2.2.1] [] (cPos (toldS 0)).2.2.2) (aPos (toldS 0)).2,toldS 1,toldS 2]:=by kernel_rfl
theorem args534:((sArgs (stA 48)).args.map fun p=>p.arg.cps.toList)=[symbolsN,placeN]:=by kernel_rfl
theorem fn534 (w:World):FnOk w 534 (sArgs (stA 48)) (sBody (stA 48)) (sScope (stA 48)):=by
 refine fnOk_of (dV:=.none) (cd:=533) (q:=S [116,111,108,100,95,112,108,97,99,101]) (pm:=.str (S zq1) 636) (by kernel_rfl) (by kernel_rfl) (by kernel_rfl) fun s vs h=>?_
 have hl:(sArgs (stA 48)).args.length=2:=by kernel_rfl
 rw [hl] at h
 refine e21 (len2 h) ?_;clear h;intro v0 v1 Y2;subst Y2
 exact BindsTo.of_eq (by kernel_rfl)
noncomputable def toldSt (p:Int) (b:AV):St:=⟨[(symbolsN,.opq 0),(placeN,.int (pE p)),(nearN,b)],[]⟩
theorem told_none (p:Int):(recs Tf 40).exs s534.1 (toldSt p (.str .nil)) [toldS 1,toldS 2] []=some (.ret (.str (.lit [48,120] (.fn 0 24 (pE p) .nil))) (toldSt p (.str .nil))):=by kernel_rfl
noncomputable def toldOut (p:Int) (r:List Nat):SE:=.lit [48,120] (.fn 0 24 (pE p) (.lit [32,60] (.ext r 60 .nil)))
theorem told_some (p:Int) (r:List Nat):(recs Tf 40).exs s534.1 (toldSt p (.str (.lit [60] (.ext r 60 .nil)))) [toldS 1,toldS 2] []=some (.ret (.str (toldOut p r)) (toldSt p (.str (.lit [60] (.ext r 60 .nil))))):=by kernel_rfl
section
variable {w:World}{mean:ExcName→Option Value}{mg mb:Str→Option Value}{n:Nat}{ρ:Rho}{X:FX}{D:Led}{st:St}{loc:Locs}{lst:List (List AV)}{s:Shared}
theorem store_ok {x:Str}{av:AV}{v:Value}{Q:Unit→Shared→Prop} (hX:X.Ok w mean mg mb ρ) (hl:isLocal X.cs x=true) (I:Inv ρ X D st s) (V:VR ρ D av v)
  (h:∀ s',Inv ρ X D ⟨setL st.loc x.cps.toList av,st.lst⟩ s'→Same s s'→Q () s'):wpAny (model pw w) X.A (storeName X.env x v) Q F0 s:=by
 refine e21 (I) ?_;clear I;intro m P J
 refine storeX_L J.F J.N (fun h' F' N'=>?_) hX.k (isLocal_ok hl)
 have JS:=J.setLoc (x:=x.cps.toList) V (h':=h') (by rw [S_key x];exact F') N'
 exact h _ ⟨_,P,JS⟩ ⟨rfl,rfl,rfl⟩
theorem plusL_len {x:List Nat}{g:Int} (hx:x.length≤4) (h:g<2 ^ 96):(plusL x g).length≤35:=by
 unfold plusL
 split
 ·(exact Nat.le_trans (by assumption) (by decide))
 ·have:=hexL_len (k:=24) h (by decide)
  simp only [List.length_append,List.length_cons,List.length_nil];lia
theorem told_ok {la:Addr}{vs:List Value}{ep:Nat}{syms:List Sy} (hs:SymOf ρ X.hx la vs ep syms) {p:Int} (hp:0≤p∧p<pow64) {fv:Value}{t:Tok}{Q:Value→Shared→Prop} (hX:X.Ok w mean mg mb ρ) (hr:Room X 72) (I:Inv ρ X D ⟨loc,lst⟩ s) (hf:VR ρ D (.top 534) fv)
  (h:∀ D' s' t',D.le D'→Inv ρ X D' ⟨loc,lst⟩ s'→Same s s'→Q (.str (S (toldL syms p)) t') s'):wpAny (model pw w) X.A (call fv [ρ.o 0,.int p t]) Q F0 s:=by
 have hVp:∀ D t,VR ρ D (.int (pE p)) (.int p t):=fun D t=>by have:=VR.int (ρ:=ρ) (D:=D) (pE p) t;rw [pE_den hp] at this;exact this
 refine enter_hide (n:=71) (fn534 w) (args:=[.opq 0,.int (pE p)]) (l:=[(symbolsN,.opq 0),(placeN,.int (pE p))]) (by rw [args534];rfl) hX hr I hf (fun imm _=>.cons (.sy hs.o) (.cons (hVp _ t) .nil))
  (fun _ v=>∃ t',v=.str (S (toldL syms p)) t') (fun X' hcs hhx hX' hr' s₁ I₁ sm₁=>?_) (fun D' v s' le I' hp' sm=>by (refine e11 (hp') ?_;clear hp';intro t' Y1;subst Y1);exact h D' s' t' le I' sm)
 have hcs':X'.cs=s534.1:=hcs.trans s534.2
 rw [← hhx] at hs
 have HT:=(Tf_all w mean mg mb).toTabsOk
 have R:=recs_ok (Tf_all w mean mg mb) 40
 rw [b534.2,told_body]
 refine wpAny_hide fun Qp hQp=>?_
 refine wpAny_execs_cons (wpAny_Assign_Name (Call_ (fn_ok HT hX' (av:=.top 527) (by rw [hcs'];rfl) I₁ fun D₂ fv₂ s₂ le₂ I₂ V₂ sm₂=>?_)))
 have V₂':=V₂
 (have Y:=V₂.topI;clear V₂;subst Y)
 refine callWith_K hX'.K (keep_ok HT (cs:=s534.1) (x:=S nearFN) rfl) (args_cons (name_ok HT hX' (av:=.opq 0) (by rw [hcs'];rfl) I₂ fun D₃ v₃ s₃ le₃ I₃ V₃ sm₃=>args_cons (name_ok HT hX' (av:=.int (pE p)) (by rw [hcs'];rfl) I₃ fun D₄ v₄ s₄ le₄ I₄ V₄ sm₄=>args_nil ⟨?_,?_⟩)))
 ·(refine e21 (I₄) ?_;try clear I₄;intro m P J);exact hX'.K.keeps J.F.keep
 obtain rfl:=V₃.opqI
 refine e11 V₄.intI ?_;clear V₄;intro t₄ Y;subst Y
 rw [pE_den hp]
 refine near_ok hs hp hX' hr' I₄ ((V₂'.mono le₃).mono le₄) fun D₅ s₅ t₅ le₅ I₅ sm₅=>?_
 have smA:Same s s₅:=(((sm₁.trans sm₂).trans sm₃).trans sm₄).trans sm₅
 have leA:(⟨D.imm,[]⟩:Led).le D₅:=((le₂.trans le₃).trans le₄).trans le₅
 have h96:p<2 ^ 96:=by have:=hp.2;unfold pow64 at this;(exact Int.le_trans (by assumption) (by decide))
 have hhex:(hexL p).take 24=hexL p:=zT (hexL_len (k:=24) h96 (by decide))
 cases hn:nearL syms p with
 | none =>
  have e:nearT syms p=[]:=by unfold nearT;rw [hn]
  rw [e]
  refine store_ok (x:=S nearN) hX' (by rw [hcs'];rfl) I₅ (.str .nil t₅) fun s₆ I₆ sm₆=>?_
  refine R.2.2.1 _ _ _ [] _ (told_none p) ρ X' D₅ s₆ _ hcs' hX' (hr'.down (by decide)) I₆ fun D₇ fl s₇ le₇ fr sm₇=>?_
  refine e13 (fr) ?_;try clear fr;intro v Y1 V I₇;subst Y1
  refine e11 V.strI ?_;clear V;intro t' Y;subst Y
  refine hQp _ _ ⟨_,D₇,_,rfl,leA.trans le₇,I₇,(smA.trans sm₆).trans sm₇,t',?_⟩
  simp only [SE.den,pE_den hp,hX'.sym.1,hhex,List.append_nil,toldL,hn]
 | some b =>
  have hb:=nearL_ok syms p
  rw [hn] at hb
  refine e03 (hb) ?_;clear hb;intro bm ble _
  refine e03 (hs.ok b bm) ?_;clear hs bm;intro ok1 ok2 ok3
  have e:nearT syms p=60::(plusL b.2 (p-b.1)++[62]):=by unfold nearT;rw [hn];rfl
  have hpl:=plusL_len (g:=p-b.1) (good_len ok3).1 (by lia)
  have hr60:(plusL b.2 (p-b.1)++[62]).take 60=plusL b.2 (p-b.1)++[62]:=zT (by simp only [List.length_append,List.length_cons,List.length_nil];(exact Nat.lt_of_le_of_lt (by assumption) (by decide)))
  rw [e]
  have V5:VR ρ D₅ (.str (.lit [60] (.ext (plusL b.2 (p-b.1)++[62]) 60 .nil))) (.str (S (60::(plusL b.2 (p-b.1)++[62]))) t₅):=by
   have:=VR.str (ρ:=ρ) (D:=D₅) (.lit [60] (.ext (plusL b.2 (p-b.1)++[62]) 60 .nil)) t₅
   rw [show (SE.lit [60] (.ext (plusL b.2 (p-b.1)++[62]) 60 .nil)).den ρ=60::(plusL b.2 (p-b.1)++[62]) by simp only [SE.den,hr60,List.append_nil];rfl] at this
   exact this
  refine store_ok (x:=S nearN) hX' (by rw [hcs'];rfl) I₅ V5 fun s₆ I₆ sm₆=>?_
  refine R.2.2.1 _ _ _ [] _ (told_some p _) ρ X' D₅ s₆ _ hcs' hX' (hr'.down (by decide)) I₆ fun D₇ fl s₇ le₇ fr sm₇=>?_
  refine e13 (fr) ?_;clear fr;intro v Y1 V I₇;subst Y1
  refine e11 V.strI ?_;clear V;intro t' Y;subst Y
  refine hQp _ _ ⟨_,D₇,_,rfl,leA.trans le₇,I₇,(smA.trans sm₆).trans sm₇,t',?_⟩
  simp only [toldOut,SE.den,pE_den hp,hX'.sym.1,hhex,hr60,List.append_nil,toldL,hn]
  simp
theorem toldL_len {syms:List Sy}{p:Int} (hok:∀ s∈syms,SyOk s) (hp:0≤p∧p<pow64):(toldL syms p).length≤100:=by
 have h96:p<2 ^ 96:=by have:=hp.2;unfold pow64 at this;(exact Int.le_trans (by assumption) (by decide))
 have h1:=hexL_len (k:=24) h96 (by decide)
 unfold toldL
 cases hn:nearL syms p with
 | none=>simp only [List.length_append,List.length_cons,List.length_nil];lia
 | some b =>
  have hb:=nearL_ok syms p
  rw [hn] at hb
  refine e03 (hb) ?_;clear hb;intro bm ble _
  refine e03 (hok b bm) ?_;clear hok bm;intro ok1 ok2 ok3
  have hpl:=plusL_len (g:=p-b.1) (good_len ok3).1 (by lia)
  simp only [List.length_append,List.length_cons,List.length_nil];lia
theorem told_hand {e:IE} (he:e.within 0 (2 ^ 64-1)=true):CallOk w mean mg mb (n+72) (.top 534) [.opq 0,.int e] lst (.str (.fn 1 100 e .nil)) lst:=by
 intro ρ X D loc s vs fv Q hX hr I V Vs h
 refine e02 (IE.within_ok (ρ:=ρ) he) ?_;clear he;intro b1 b2
 (refine e23 Vs.consI ?_;clear Vs;intro _ _ v1 r Y;subst Y);(refine e23 r.consI ?_;clear r;intro _ _ v2 r Y;subst Y);(have Y:=r.nilI;clear r;subst Y)
 refine e12 v1.opqR ?_;clear v1;intro o1 ho Y;subst Y
 refine e11 v2.intI ?_;clear v2;intro t Y;subst Y
 refine e31 (hX.symOf ho) ?_;intro vs ep syms hs
 rw [← ho]
 have hp:0≤e.den ρ∧e.den ρ<pow64:=⟨b1,by unfold pow64;(exact Int.lt_of_le_of_lt (by assumption) (by decide))⟩
 refine told_ok hs hp hX (hr.down (by (exact Nat.le_add_left _ _))) I V fun D' s' t' le I' sm=>h D' _ s' le I' ?_ sm
 have:=VR.str (ρ:=ρ) (D:=D') (.fn 1 100 e .nil) t'
 rw [show (SE.fn 1 100 e .nil).den ρ=toldL syms (e.den ρ) by
  simp only [SE.den,hs.f1,List.append_nil]
  exact zT (toldL_len hs.ok hp)] at this
 exact this
end
end
section
noncomputable def bagN:List Nat:=[98,97,103]
noncomputable def manyN:List Nat:=[109,97,110,121]
structure TakeP where
 p:Nat→Pos
 k:Nat→Nat
noncomputable def takeP (zs:List Stmt):TakeP:=⟨fun i=>[(atP (zs.getD 0 passS) 1),(atP (zs.getD 0 passS) 4162),(atP (zs.getD 0 passS) 8258),(atP (zs.getD 0 passS) 66),(atP (zs.getD 0 passS) 130),(atP (zs.getD 0 passS) 2),(atP (zs.getD 0 passS) 0),(atP (zs.getD 1 passS) 65),(atP (zs.getD 1 passS) 129),(atP (zs.getD 1 passS) 1),(atP (zs.getD 1 passS) 4162),(atP (zs.getD 1 passS) 8258),(atP (zs.getD 1 passS) 66),(atP (zs.getD 1 passS) 130),(atP (zs.getD 1 passS) 2),(atP (zs.getD 1 passS) 0),(atP (zs.getD 2 passS) 1),(atP (zs.getD 2 passS) 0)].getD i (atP (zs.getD 0 passS) 1),fun i=>[(atK (zs.getD 0 passS) 8258),(atK (zs.getD 1 passS) 129),(atK (zs.getD 1 passS) 8258)].getD i 0⟩
noncomputable def tp:TakeP:=takeP b646.1
theorem take_body:b646.1=[.Assign [.Name (S worthN) (tp.p 0)] (.BinOp (.Subscript (.Name (S bagN) (tp.p 1)) (.Constant (.int 0) (tp.k 0) (tp.p 2)) (tp.p 3)) .Mod (.Name (S manyN) (tp.p 4)) (tp.p 5)) (tp.p 6),
  .Assign [.Subscript (.Name (S bagN) (tp.p 7)) (.Constant (.int 0) (tp.k 1) (tp.p 8)) (tp.p 9)] (.BinOp (.Subscript (.Name (S bagN) (tp.p 10)) (.Constant (.int 0) (tp.k 2) (tp.p 11)) (tp.p 12)) .FloorDiv (.Name (S manyN) (tp.p 13)) (tp.p 14)) (tp.p 15),
  .Return (some (.Name (S worthN) (tp.p 16))) (tp.p 17)]:=by kernel_rfl
theorem args646:((sArgs (stA 63)).args.map fun p=>p.arg.cps.toList)=[bagN,manyN]:=by kernel_rfl
theorem fn646 (w:World):FnOk w 646 (sArgs (stA 63)) (sBody (stA 63)) (sScope (stA 63)):=by
 refine fnOk_of (dV:=.none) (cd:=645) (q:=S [95,108,97,119,95,116,97,107,101]) (pm:=.str (S zq3) 1005) (by kernel_rfl) (by kernel_rfl) (by kernel_rfl) fun s vs h=>?_
 have hl:(sArgs (stA 63)).args.length=2:=by kernel_rfl
 rw [hl] at h
 refine e21 (len2 h) ?_;clear h;intro v0 v1 Y2;subst Y2
 exact BindsTo.of_eq (by kernel_rfl)
section
variable {w:World}{mean:ExcName→Option Value}{mg mb:Str→Option Value}{n:Nat}{ρ:Rho}{X:FX}{D:Led}{st:St}{loc:Locs}{lst:List (List AV)}{s:Shared}
theorem bag_item (H:TabsOk w Tf) (hX:X.Ok w mean mg mb ρ) {x:Str}{p0 p1 p2:Pos}{k i:Nat}{e:IE}{Q:Value→Shared→Prop} (hb:evName Tf X.cs st x=some (.loc i)) (hl:st.lst[i]?=some [.int e]) (I:Inv ρ X D st s) (h:Post ρ X D s (.int e) st Q) :
  wpAny (model pw w) X.A (eval (.Subscript (.Name x p0) (.Constant (.int 0) k p1) p2) X.env) Q F0 s:=by
 refine Subscript_ (name_ok H hX hb I fun D₁ v₁ s₁ le₁ I₁ V₁ sm₁=>wpAny_Constant_int ?_)
 refine e12 V₁.locI ?_;clear V₁;intro _ hi Y;subst Y
 refine e21 (id I₁) ?_;intro m P J
 refine e23 (J.lad_get hl hi) ?_;clear J hl hi;intro vs c _ hv hg
 (refine e23 hv.consI ?_;clear hv;intro v _ V r Y;subst Y);(have Y:=r.nilI;clear r;subst Y)
 refine tail_any (T:="list") ⟨_,hg,rfl⟩ slot_list_getitem.lookup (wpAny_getItem_list (k:=(0:Int)) (x:=v) ⟨_,hg,rfl,_,rfl⟩ (by decide) (by decide) rfl ?_) rfl
 exact (h.step le₁ sm₁).here I₁ V _
theorem take_hand {i:Nat}{e:IE}{m:Int} (hl:lst[i]?=some [.int e]) (hm:(ltB 0 m&&ltB m (2 ^ 70))=true):CallOk w mean mg mb (n+30) (.top 646) [.loc i,.int (.lit m)] lst (.int (mkMod e m)) (setNth lst i [.int (mkDiv e m)]):=by
 intro ρ X D loc s vs fv Q hX hr I V Vs h
 have hm:=Bool.and_eq_true_iff.mp hm
 have hm0:=(ltB_iff _ _).mp hm.1
 have hm1:=(ltB_iff _ _).mp hm.2
 have HT:=(Tf_all w mean mg mb).toTabsOk
 refine enter_ok (n:=n+29) (fn646 w) (args:=[.loc i,.int (.lit m)]) (l:=[(bagN,.loc i),(manyN,.int (.lit m))]) (by rw [args646];rfl) hX hr I V Vs
  (fun D' lst' v=>lst'=setNth lst i [.int (mkDiv e m)]∧VR ρ D' (.int (mkMod e m)) v) (fun X' hcs hhx hfx hX' hr' s₁ I₁ sm₁=>?_) (fun D' lst' v s' le I' hp sm=>by (refine e02 (hp) ?_;clear hp;intro Y0 V;subst Y0);exact h D' v s' le I' V sm)
 have hcs':X'.cs=s646.1:=hcs.trans s646.2
 rw [b646.2,take_body]
 refine wpAny_hide fun Qp hQp=>?_
 refine wpAny_execs_cons (wpAny_Assign_Name (wpAny_BinOp (bag_item HT hX' (i:=i) (e:=e) (by rw [hcs'];rfl) hl I₁ fun D₂ v₂ s₂ le₂ I₂ V₂ sm₂=>name_ok HT hX' (av:=.int (.lit m)) (by rw [hcs'];rfl) I₂ fun D₃ v₃ s₃ le₃ I₃ V₃ sm₃=>?_)))
 have V₂:=V₂.mono le₃
 (refine e11 V₂.intI ?_;clear V₂;intro t₂ Y;subst Y);(refine e11 V₃.intI ?_;clear V₃;intro t₃ Y;subst Y)
 refine PyProof.Rows.mod_int' (by show m≠0;(exact Int.ne_of_gt (by assumption))) ?_
 have V₄:VR ρ D₃ (.int (mkMod e m)) (.int ((e.den ρ).fmod ((IE.lit m).den ρ)) s₃.toks):=by
  have:=VR.int (ρ:=ρ) (D:=D₃) (mkMod e m) s₃.toks
  rw [mkMod_den] at this;exact this
 refine store_ok (x:=S worthN) hX' (by rw [hcs'];rfl) (I₃.add (s₃.toks+1)) V₄ fun s₅ I₅ sm₅=>?_
 have I₅:Inv ρ X' D₃ ⟨[(bagN,.loc i),(manyN,.int (.lit m)),(worthN,.int (mkMod e m))],lst⟩ s₅:=I₅
 refine wpAny_execs_cons (wpAny_Assign_Subscript (wpAny_BinOp (bag_item HT hX' (i:=i) (e:=e) (by rw [hcs'];rfl) hl I₅ fun D₆ v₆ s₆ le₆ I₆ V₆ sm₆=>name_ok HT hX' (av:=.int (.lit m)) (by rw [hcs'];rfl) I₆ fun D₇ v₇ s₇ le₇ I₇ V₇ sm₇=>?_)))
 have V₆:=V₆.mono le₇
 (refine e11 V₆.intI ?_;clear V₆;intro t₆ Y;subst Y);(refine e11 V₇.intI ?_;clear V₇;intro t₇ Y;subst Y)
 refine PyProof.Rows.floordiv_int (by show m≠0;(exact Int.ne_of_gt (by assumption))) ?_ (.inl (PyProof.noPylong_of_log2 ?_))
 ·have V₈:VR ρ D₇ (.int (mkDiv e m)) (.int ((e.den ρ).fdiv ((IE.lit m).den ρ)) s₇.toks):=by
   have:=VR.int (ρ:=ρ) (D:=D₇) (mkDiv e m) s₇.toks
   rw [mkDiv_den] at this;exact this
  refine name_ok HT hX' (av:=.loc i) (by rw [hcs'];rfl) (I₇.add (s₇.toks+1)) fun D₉ v₉ s₉ le₉ I₉ V₉ sm₉=>wpAny_Constant_int ?_
  refine e12 V₉.locI ?_;clear V₉;intro ba hi Y;subst Y
  refine e21 (id I₉) ?_;clear I₉;intro m' P J
  refine e23 (J.lad_get hl hi) ?_;clear hl hi;intro vs' c hP hv hg
  (refine e23 hv.consI ?_;clear hv;intro v' _ V' r Y;subst Y);(have Y:=r.nilI;clear r;subst Y)
  refine ki_setAt (k:=0) hg (by decide) (by decide) (by show (0:Int)<1;decide) ?_
  have hg':(s₉.heap.update ba (Obj.mapSeq (·.setIfInBounds (0:Int).toNat (.int ((e.den ρ).fdiv ((IE.lit m).den ρ)) s₇.toks)))).get? ba=some {cls:=.type "list",data:=.seq [.int ((e.den ρ).fdiv ((IE.lit m).den ρ)) s₇.toks].toArray c}:=by
   rw [Heap.get?_update_self _ hg (by rfl)];rfl
  have J':=J.setLst (l':=[.int (mkDiv e m)]) hP (.cons (V₈.mono le₉) .nil) (Heap.SameBut.update ..) hg'
  have I₁₀:Inv ρ X' D₉ ⟨[(bagN,.loc i),(manyN,.int (.lit m)),(worthN,.int (mkMod e m))],setNth lst i [.int (mkDiv e m)]⟩ {s₉ with heap:=s₉.heap.update ba (Obj.mapSeq (·.setIfInBounds (0:Int).toNat (.int ((e.den ρ).fdiv ((IE.lit m).den ρ)) s₇.toks))),toks:=s₉.toks+1}:=⟨m',_,J'⟩
  refine wpAny_execs_cons (wpAny_Return_some (name_ok HT hX' (av:=.int (mkMod e m)) (by rw [hcs'];rfl) I₁₀ fun D₁₁ v₁₁ s₁₁ le₁₁ I₁₁ V₁₁ sm₁₁=>?_))
  refine hQp _ _ (i36 v₁₁ D₁₁ _ rfl ((((((le₂.trans le₃).trans le₆).trans le₇).trans le₉).trans le₁₁)) I₁₁ ?_ rfl V₁₁)
  have sm:Same s s₉:=(((((sm₁.trans sm₂).trans sm₃).trans ⟨sm₅.gens,sm₅.drawn,sm₅.os⟩).trans sm₆).trans sm₇).trans ⟨sm₉.gens,sm₉.drawn,sm₉.os⟩
  exact sm.trans ⟨sm₁₁.gens,sm₁₁.drawn,sm₁₁.os⟩
 ·show m.natAbs.log2<9000
  have:m.natAbs.log2<70:=(Nat.log2_lt (by omega)).mpr (by omega)
  (exact Nat.le_trans (by assumption) (by decide))
end
end
section
noncomputable def nearP (syms:List Sy) (p:Int):List Nat×Int:=match nearL syms p with
 | none=>([],0)
 | some b=>(b.2,p-b.1)
noncomputable def foundN2:List Nat:=foundN
noncomputable def gapN:List Nat:=[103,97,112]
noncomputable def nstS (i:Nat):Stmt:=b681.1.getD i (.Pass ⟨0,0,0,0⟩)
noncomputable def fPosN (zs:Stmt):Pos:=(atP zs 2)
theorem nst_body:b681.1=[nstS 0]++[.For (.Tuple [.Name (S spotN) (fPosT (nstS 1)).1,.Name (S nameN) (fPosT (nstS 1)).2.1] (fPosT (nstS 1)).2.2.1 (fPosT (nstS 1)).2.2.2)
  (.Name (S symbolsN) (fPosN (nstS 1))) (fBody (nstS 1)) [] (fPos (nstS 1)),nstS 2]:=by kernel_rfl
noncomputable def nstI:Stmt:=(fBody (nstS 1)).getD 0 (.Pass ⟨0,0,0,0⟩)
noncomputable def nstG:Stmt:=(iBody nstI).getD 0 (.Pass ⟨0,0,0,0⟩)
noncomputable def nstK:Stmt:=(iBody nstI).getD 1 (.Pass ⟨0,0,0,0⟩)
theorem nst_if:fBody (nstS 1)=[.If (iTest nstI) ([nstG]++[.If (iTest nstK) (iBody nstK) [] (iPos nstK)]) [] (iPos nstI)]:=by kernel_rfl
theorem args681:((sArgs (stA 68)).args.map fun p=>p.arg.cps.toList)=[symbolsN,placeN]:=by kernel_rfl
theorem fn681 (w:World):FnOk w 681 (sArgs (stA 68)) (sBody (stA 68)) (sScope (stA 68)):=by
 refine fnOk_of (dV:=.none) (cd:=680) (q:=S [95,108,97,119,95,110,101,97,114,101,115,116]) (pm:=.str (S zq3) 1005) (by kernel_rfl) (by kernel_rfl) (by kernel_rfl) fun s vs h=>?_
 have hl:(sArgs (stA 68)).args.length=2:=by kernel_rfl
 rw [hl] at h
 refine e21 (len2 h) ?_;clear h;intro v0 v1 Y2;subst Y2
 exact BindsTo.of_eq (by kernel_rfl)
noncomputable def fndV (x:List Nat) (g:Int):AV:=.tup [.str (.lit x .nil),.int (pE g)]
noncomputable def mL (p:Int) (f:AV):Locs:=[(symbolsN,.opq 0),(placeN,.int (pE p)),(foundN,f)]
noncomputable def mL2 (p:Int) (f:AV) (sp:Int) (x:List Nat):Locs:=mL p f++[(spotN,.int (pE sp)),(nameN,.str (.lit x .nil))]
noncomputable def mL3 (p:Int) (f:AV) (sp:Int) (x:List Nat):Locs:=mL2 p f sp x++[(gapN,.int (.sub (pE p) (pE sp)))]
theorem nst_pre (p:Int):(recs Tf 40).exs s681.1 ⟨[(symbolsN,.opq 0),(placeN,.int (pE p))],[]⟩ [nstS 0] []=some (.next ⟨mL p (.tup [.str .nil,.int (.lit 0)]),[]⟩):=by kernel_rfl
theorem nst_t1 (p sp:Int) (f:AV) (x:List Nat):(recs Tf 40).tst s681.1 ⟨mL2 p f sp x,[]⟩ (iTest nstI)=some (.u (.le (pE sp) (pE p)),⟨mL2 p f sp x,[]⟩):=by kernel_rfl
theorem nst_g (p sp:Int) (f:AV) (x:List Nat):(recs Tf 40).exs s681.1 ⟨mL2 p f sp x,[]⟩ [nstG] []=some (.next ⟨mL3 p f sp x,[]⟩):=by kernel_rfl
noncomputable def nstC (p sp g:Int) (y x:List Nat):TV:=match y with
 | []=>.k true
 | _=>.u (bif lnLt x y then .or (.lt (.sub (pE p) (pE sp)) (pE g)) (.eq (.sub (pE p) (pE sp)) (pE g)) else .lt (.sub (pE p) (pE sp)) (pE g))
theorem good_cases {P:List Nat→Prop} (h:P [109,97,105,110]∧P [108,111,111,112]∧P [95,120]∧P [97,46,98]∧P [122,57]):∀ x∈goodNames,P x:=by
 intro x hx
 unfold goodNames at hx
 simp only [List.mem_cons,List.not_mem_nil,or_false] at hx
 rcases hx with rfl|rfl|rfl|rfl|rfl
 ·exact h.1
 ·exact h.2.1
 ·exact h.2.2.1
 ·exact h.2.2.2.1
 ·exact h.2.2.2.2
theorem nst_t2 (p sp g:Int):∀ x∈goodNames,∀ y,(y=[]∨y∈goodNames)→(recs Tf 40).tst s681.1 ⟨mL3 p (fndV y g) sp x,[]⟩ (iTest nstK)=some (nstC p sp g y x,⟨mL3 p (fndV y g) sp x,[]⟩):=by
 refine good_cases ⟨?_,?_,?_,?_,?_⟩ <;>
 ·rintro y (rfl|hy)
  ·kernel_rfl
  ·revert y
   refine good_cases ⟨?_,?_,?_,?_,?_⟩ <;> kernel_rfl
theorem nst_b (p sp g:Int) (y x:List Nat):(recs Tf 40).exs s681.1 ⟨mL3 p (fndV y g) sp x,[]⟩ (iBody nstK) []=some (.next ⟨mL p (.tup [.str (.lit x .nil),.int (.sub (pE p) (pE sp))])++[(spotN,.int (pE sp)),(nameN,.str (.lit x .nil)),(gapN,.int (.sub (pE p) (pE sp)))],[]⟩):=by kernel_rfl
theorem nst_post (p:Int) (f:AV):(recs Tf 40).exs s681.1 ⟨mL p f,[]⟩ [nstS 2] []=some (.ret f ⟨mL p f,[]⟩):=by kernel_rfl
noncomputable def nstStep (p:Int) (b:List Nat×Int) (s:Sy):List Nat×Int:=if s.1≤p∧(b.1=[]∨p-s.1<b.2∨(p-s.1=b.2∧s.2<b.1)) then (s.2,p-s.1) else b
noncomputable def NstIs (p:Int) (b:List Nat×Int):Option Sy→Prop
 | none=>b=([],0)
 | some s=>b=(s.2,p-s.1)∧s.2≠[]
theorem nst_step {l:List Sy}{p:Int}{b:List Nat×Int}{best:Option Sy}{s:Sy} (h:IsNear l p best) (hb:NstIs p b best) (hs:s.2≠[]) :
  ∃ best',IsNear (l++[s]) p best'∧NstIs p (nstStep p b s) best':=by
 refine (i12 _ (near_step h s) ?_)
 unfold nstStep
 by_cases hp:s.1≤p
 ·rw [if_pos hp]
  cases best with
  | none =>
   have hb:b=([],0):=hb
   rw [if_pos ⟨hp,.inl (by rw [hb])⟩];exact ⟨rfl,hs⟩
  | some c =>
   obtain ⟨hb,hc⟩:b=(c.2,p-c.1)∧c.2≠[]:=hb
   cases hq:better s c with
   | true =>
    have hq':=better_iff.mp hq
    rw [if_pos ⟨hp,.inr (by
     rw [hb]
     rcases hq' with q|⟨q1,q2⟩
     ·exact .inl (by show p-s.1<p-c.1;lia)
     ·exact .inr ⟨by show p-s.1=p-c.1;lia,q2⟩)⟩,show pick s (some c)=some s from if_pos hq]
    exact ⟨rfl,hs⟩
   | false =>
    have hq':=better_false.mp hq
    rw [if_neg (fun z=>by
     rw [hb] at z
     rcases z.2 with q|q|⟨q1,q2⟩
     ·exact hc q
     ·exact hq' (.inl (by have:p-s.1<p-c.1:=q;lia))
     ·exact hq' (.inr ⟨by have:p-s.1=p-c.1:=q1;lia,q2⟩)),show pick s (some c)=some c from if_neg (by rw [hq];exact zF)]
    exact ⟨hb,hc⟩
 ·rw [if_neg hp,if_neg (fun z=>hp z.1)]
  exact hb
noncomputable def nstAt (p:Int) (l:List Sy) (i:Nat):List Nat×Int:=(l.take i).foldl (nstStep p) ([],0)
theorem nstAt_succ {p:Int}{l:List Sy}{i:Nat} (h:i<l.length):nstAt p l (i+1)=nstStep p (nstAt p l i) l[i]:=by
 unfold nstAt
 rw [List.take_succ_eq_append_getElem h,List.foldl_append];rfl
theorem nst_take {l:List Sy}{p:Int} (h0:∀ s∈l,s.2≠[]):∀ i,i≤l.length→∃ best,IsNear (l.take i) p best∧NstIs p (nstAt p l i) best
 | 0,_=>⟨none,fun _ h=>by simp at h,rfl⟩
 | i+1,hi=>by
  obtain ⟨best,h1,h2⟩:=nst_take h0 i (by (exact Nat.le_of_lt (by assumption)))
  have e:l.take (i+1)=l.take i++[l[i]]:=by rw [List.take_succ_eq_append_getElem]
  rw [e,nstAt_succ (by assumption)]
  exact nst_step h1 h2 (h0 _ (List.getElem_mem _))
theorem nst_all {l:List Sy}{p:Int} (h0:∀ s∈l,s.2≠[]):nstAt p l l.length=nearP l p:=by
 refine e12 (nst_take (p:=p) h0 l.length (Nat.le_refl _)) ?_;clear h0;intro best h1 h2
 rw [List.take_length] at h1
 have:=near_unique (fun s=>Iff.rfl) (nearL_ok l p) h1
 unfold nearP
 rw [this]
 cases best with
 | none=>exact h2
 | some b=>exact h2.1
theorem nst_good {l:List Sy}{p:Int} (hok:∀ s∈l,SyOk s) (hp:0≤p∧p<pow64) (i:Nat) (hi:i≤l.length):((nstAt p l i).1=[]∨(nstAt p l i).1∈goodNames)∧0≤(nstAt p l i).2∧(nstAt p l i).2<pow64:=by
 refine e12 (nst_take (p:=p) (fun s hs=>(good_len (hok s hs).2.2).2) i hi) ?_;clear hi;intro best h1 h2
 cases best with
 | none =>
  have h2:nstAt p l i=([],0):=h2
  rw [h2];(exact (i03 (.inl rfl) (Int.le_refl _) (by decide)))
 | some b =>
  rw [h2.1]
  have hm:=List.mem_of_mem_take h1.1
  refine e03 (hok b hm) ?_;clear hok hm;intro o1 o2 o3
  have:=h1.2.1
  (exact (i03 (.inr o3) (by show 0≤p-b.1;(exact Int.sub_nonneg_of_le (by assumption))) (by have:=hp.2;show p-b.1<pow64;lia)))
section
variable {w:World}{mean:ExcName→Option Value}{mg mb:Str→Option Value}{n:Nat}{ρ:Rho}{X:FX}{D:Led}{loc:Locs}{lst:List (List AV)}{s:Shared}
theorem AVeq.tup2 {a a' b b':AV} (h1:AVeq ρ a a') (h2:AVeq ρ b b'):AVeq ρ (.tup [a,b]) (.tup [a',b']):=fun D v V=>by
 refine e33 V.tupI ?_;clear V;intro _ _ _ hm hv Y;subst Y
 (refine e23 hv.consI ?_;clear hv;intro _ _ x r Y;subst Y);(refine e23 r.consI ?_;clear r;intro _ _ y r Y;subst Y);(have Y:=r.nilI;clear r;subst Y)
 exact .tup hm (.cons (h1 _ _ x) (.cons (h2 _ _ y) .nil))
noncomputable def nstSt (p:Int) (l:List Sy) (i:Nat):St:=⟨mL p (fndV (nstAt p l i).1 (nstAt p l i).2),[]⟩
theorem nearest_ok {la:Addr}{vs:List Value}{ep:Nat}{syms:List Sy} (hs:SymOf ρ X.hx la vs ep syms) {p:Int} (hp:0≤p∧p<pow64) {fv:Value}{t:Tok}{Q:Value→Shared→Prop} (hX:X.Ok w mean mg mb ρ) (hr:Room X 71) (I:Inv ρ X D ⟨loc,lst⟩ s) (hf:VR ρ D (.top 681) fv)
  (h:∀ D' s' v,D.le D'→Inv ρ X D' ⟨loc,lst⟩ s'→Same s s'→VR ρ D' (fndV (nearP syms p).1 (nearP syms p).2) v→Q v s'):wpAny (model pw w) X.A (call fv [ρ.o 0,.int p t]) Q F0 s:=by
 refine enter_hide (n:=70) (fn681 w) (args:=[.opq 0,.int (pE p)]) (l:=[(symbolsN,.opq 0),(placeN,.int (pE p))]) (by rw [args681];rfl) hX hr I hf (fun imm _=>.cons (.sy hs.o) (.cons (by have:=VR.int (ρ:=ρ) (D:=⟨imm,[]⟩) (pE p) t;rw [pE_den hp] at this;exact this) .nil))
  (fun imm v=>VR ρ ⟨imm,[]⟩ (fndV (nearP syms p).1 (nearP syms p).2) v) (fun X' hcs hhx hX' hr' s₁ I₁ sm₁=>?_) (fun D' v s' le I' hp' sm=>h D' s' v le I' sm (VR.mono (D:=⟨D'.imm,[]⟩) (D':=D') ⟨fun _ z=>z,fun i a (z:([]:List Addr)[i]?=some a)=>by simp at z⟩ hp'))
 have hcs':X'.cs=s681.1:=hcs.trans s681.2
 rw [← hhx] at hs
 have R:=recs_ok (Tf_all w mean mg mb) 40
 rw [b681.2,nst_body]
 refine wpAny_hide fun Qp hQp=>?_
 refine execs_app (exs_two (m:=40) (Tf_all w mean mg mb) hX' hr' hcs' (nst_pre p) I₁ fun D₂ s₂ le₂ I₂ sm₂=>?_)
 refine wpAny_execs_cons (wpAny_For (name_ok (Tf_all w mean mg mb).toTabsOk hX' (av:=.opq 0) (by rw [hcs'];rfl) I₂ fun D₄ v₄ s₄ le₄ I₄ V₄ sm₄=>?_) (fun x=>rfl))
 obtain rfl:=V₄.opqI
 rw [hs.o]
 refine e21 (id I₄) ?_;intro m₄ P₄ J₄
 have hxN:∀ q∈X'.hx,q∈P₄++(D₄.imm++X'.fx):=fun q hq=>zR _ (zR _ (hX'.held q hq))
 have hDl:=(J₄.N _ (hxN _ hs.mem)).1
 have hlen:=hs.vs.len
 have hok:=hs.ok
 refine wpAny_pyIter_list (l:=la) (items:=vs.toArray) ⟨_,hDl,rfl,_,rfl⟩ ?_
 have I₅':Inv ρ X' D₄ (nstSt p syms 0) s₄:=I₄.reloc (.cons (by rfl) AVeq.rfl' (.cons (by rfl) AVeq.rfl' (.cons (a:=.tup [.str .nil,.int (.lit 0)]) (by rfl) (AVeq.tup2 (AVeq.str (by simp [SE.den,nstAt])) (AVeq.int (pE_den (ρ:=ρ) (p:=0) ⟨by decide,by decide⟩).symm)) .nil)))
 refine e14 (fresh_iter I₅' (Heap.lt_size hDl)) ?_;clear I₅' hDl;intro o I₆ hit hfx6 hne6
 refine list_loop (items:=vs) (nstSt p syms) hne6 hfx6 (fun i o D' s' le I'=>?_) (fun i v o D' s' Qn hv le I' hit' hq=>?_) I₆ hit (fun D' s' le I' sm=>?_)
 ·refine e21 (I') ?_;try clear I';intro m P J
  exact ⟨_,(J.N _ (zR _ (zR _ (.tail _ (hX'.held _ hs.mem))))).1,rfl,_,rfl⟩
 ·-- a turn
  have hi:i<syms.length:=by rw [← hlen];exact (List.getElem?_eq_some_iff.mp hv).1
  refine e42 (hs.vs.get hi) ?_;intro a tk tk' k e1 e2
  have e3:v=.ref a:=by
   rw [← e1,List.getD_eq_getElem?_getD,hv];rfl
  have e4:syms.getD i (0,[])=syms[i]:=by rw [List.getD_eq_getElem?_getD,List.getElem?_eq_getElem hi];rfl
  rw [e4] at e2
  subst e3
  refine e03 (hok _ (List.getElem_mem hi)) ?_;intro ok1 ok2 ok3
  have hobj:s'.heap.get? a=some {cls:=.type "tuple",data:=.seq #[.int (syms[i]).1 tk,.str (S (syms[i]).2) tk'] k}:=by
   refine e21 (I') ?_;try clear I';intro m P J
   exact (J.N _ (zR _ (zR _ (.tail _ (hX'.held _ e2))))).1
  unfold TurnQ
  refine wpAny_letOwnedTupleGo_listiter hit' ?_
  have hXw:=okWith (I:=s₄.heap.objs.size) (o:=o) hX'
  have hcsw:(X'.with s₄.heap.objs.size o).cs=s681.1:=hcs'
  have V1:VR ρ D' (.int (pE (syms[i]).1)) (.int (syms[i]).1 tk):=by
   have:=VR.int (ρ:=ρ) (D:=D') (pE (syms[i]).1) tk
   rw [pE_den ⟨ok1,ok2⟩] at this;exact this
  have V2:VR ρ D' (.str (.lit (syms[i]).2 .nil)) (.str (S (syms[i]).2) tk'):=by
   have:=VR.str (ρ:=ρ) (D:=D') (.lit (syms[i]).2 .nil) tk'
   rw [show (SE.lit (syms[i]).2 .nil).den ρ=(syms[i]).2 by simp [SE.den]] at this;exact this
  refine pair_ok (X:=X'.with s₄.heap.objs.size o) hXw (by rw [hcsw];rfl) (by rw [hcsw];rfl) I' hobj V1 V2 fun s₇ I₇ sm₇=>?_
  generalize hb:nstAt p syms i=b at *
  obtain ⟨y,g⟩:=b
  refine e03 (nst_good hok hp i (Nat.le_of_lt hi)) ?_;intro hy hg0 hg1
  rw [hb] at hy hg0 hg1
  simp only at hy hg0 hg1
  have I₇':Inv ρ (X'.with s₄.heap.objs.size o) D' ⟨mL2 p (fndV y g) (syms[i]).1 (syms[i]).2,[]⟩ s₇:=by
   have e:nstSt p syms i=⟨mL p (fndV y g),[]⟩:=by unfold nstSt;rw [hb]
   rw [e] at I₇;exact I₇
  have hsucc:=nstAt_succ (p:=p) (l:=syms) hi
  rw [hb] at hsucc
  have h1:(pE p).den ρ=p:=pE_den hp
  have h2:(pE (syms[i]).1).den ρ=(syms[i]).1:=pE_den ⟨ok1,ok2⟩
  have h3:(pE g).den ρ=g:=pE_den ⟨hg0,hg1⟩
  rw [nst_if]
  refine wpAny_execs_cons (wpAny_If (R.2.1 _ _ _ _ _ (nst_t1 p (syms[i]).1 (fndV y g) (syms[i]).2) ρ (X'.with s₄.heap.objs.size o) D' s₇ _ hcsw hXw hr' I₇' fun D₈ b₈ s₈ le₈ I₈ V₈ sm₈=>?_))
  (have Y:=V₈.uI;clear V₈;subst Y)
  have hc:(BE.le (pE (syms[i]).1) (pE p)).den ρ=decide ((syms[i]).1≤p):=by
   simp only [BE.den,h1,h2,leB_dec]
  rw [hc]
  have stay:∀ D₉ s₉ l,D'.le D₉→(nstStep p (y,g) syms[i]=(y,g))→LocEq ρ l (mL p (fndV y g))→Inv ρ (X'.with s₄.heap.objs.size o) D₉ ⟨l,[]⟩ s₉→Same s' s₉→Qn s₉:=fun D₉ s₉ l le₉ e hl I₉ sm₉=>by
   refine hq D₉ s₉ le₉ ?_ sm₉
   have:nstSt p syms (i+1)=⟨mL p (fndV y g),[]⟩:=by unfold nstSt;rw [hsucc,e]
   rw [this]
   exact I₉.reloc hl
  by_cases q:(syms[i]).1≤p
  ·rw [decide_eq_true q,if_pos rfl]
   refine execs_app (exs_two (m:=40) (Tf_all w mean mg mb) hXw hr' hcsw (nst_g p (syms[i]).1 (fndV y g) (syms[i]).2) I₈ fun D₉ s₉ le₉ I₉ sm₉=>?_)
   have hgap:(IE.sub (pE p) (pE (syms[i]).1)).den ρ=p-(syms[i]).1:=by show (pE p).den ρ-(pE (syms[i]).1).den ρ=_;rw [h1,h2]
   refine wpAny_execs_cons (wpAny_If (R.2.1 _ _ _ _ _ (nst_t2 p (syms[i]).1 g _ ok3 y hy) ρ (X'.with s₄.heap.objs.size o) D₉ s₉ _ hcsw hXw hr' I₉ fun D₁₀ b₁₀ s₁₀ le₁₀ I₁₀ V₁₀ sm₁₀=>?_))
   have hb10:b₁₀=decide (y=[]∨p-(syms[i]).1<g∨(p-(syms[i]).1=g∧(syms[i]).2<y)):=by
    revert V₁₀
    unfold nstC
    split
    ·intro V;cases V;simp
    ·rename_i hy0
     intro V
     (have Y:=V.uI;clear V;subst Y)
     have hy0:y≠[]:=hy0
     by_cases l1:(syms[i]).2<y
     ·rw [lnLt_ok,decide_eq_true l1,cond_true]
      simp only [BE.den,hgap,h3,ltB_dec,eqB_dec]
      by_cases l2:p-(syms[i]).1<g <;> by_cases l3:p-(syms[i]).1=g <;> simp [l1,l2,l3,hy0]
     ·rw [lnLt_ok,decide_eq_false l1,cond_false]
      simp only [BE.den,hgap,h3,ltB_dec]
      by_cases l2:p-(syms[i]).1<g <;> simp [l1,l2,hy0]
   rw [hb10]
   by_cases q2:y=[]∨p-(syms[i]).1<g∨(p-(syms[i]).1=g∧(syms[i]).2<y)
   ·rw [decide_eq_true q2,if_pos rfl]
    refine R.2.2.1 _ _ _ [] _ (nst_b p (syms[i]).1 g y (syms[i]).2) ρ (X'.with s₄.heap.objs.size o) D₁₀ s₁₀ _ hcsw hXw hr' I₁₀ fun D₁₁ fl s₁₁ le₁₁ fr sm₁₁=>?_
    refine e02 (fr) ?_;try clear fr;intro Y0 I₁₁;subst Y0
    refine wpAny_execs_nil (wpAny_execs_nil ⟨rfl,hq D₁₁ s₁₁ (((le₈.trans le₉).trans le₁₀).trans le₁₁) ?_ ((((sm₇.trans sm₈).trans sm₉).trans sm₁₀).trans sm₁₁)⟩)
    have e:nstStep p (y,g) syms[i]=((syms[i]).2,p-(syms[i]).1):=by unfold nstStep;rw [if_pos ⟨q,q2⟩]
    have:nstSt p syms (i+1)=⟨mL p (fndV (syms[i]).2 (p-(syms[i]).1)),[]⟩:=by unfold nstSt;rw [hsucc,e]
    rw [this]
    refine I₁₁.reloc (.cons (by rfl) AVeq.rfl' (.cons (by rfl) AVeq.rfl' (.cons (a:=.tup [.str (.lit (syms[i]).2 .nil),.int (.sub (pE p) (pE (syms[i]).1))]) (by rfl) (AVeq.tup2 AVeq.rfl' (AVeq.int ?_)) .nil)))
    rw [hgap]
    exact (pE_den ⟨by (exact Int.sub_nonneg_of_le (by assumption)),by have:=hp.2;lia⟩).symm
   ·rw [decide_eq_false q2,if_neg zF]
    refine wpAny_execs_nil (wpAny_execs_nil (wpAny_execs_nil ⟨rfl,stay D₁₀ s₁₀ _ ((le₈.trans le₉).trans le₁₀) ?_ ?_ I₁₀ (((sm₇.trans sm₈).trans sm₉).trans sm₁₀)⟩))
    ·unfold nstStep;rw [if_neg fun z=>q2 z.2]
    ·exact .cons (by rfl) AVeq.rfl' (.cons (by rfl) AVeq.rfl' (.cons (by rfl) AVeq.rfl' .nil))
  ·rw [decide_eq_false q,if_neg zF]
   refine wpAny_execs_nil (wpAny_execs_nil ⟨rfl,stay D₈ s₈ _ le₈ ?_ ?_ I₈ (sm₇.trans sm₈)⟩)
   ·unfold nstStep;rw [if_neg fun z=>q z.1]
   ·exact .cons (by rfl) AVeq.rfl' (.cons (by rfl) AVeq.rfl' (.cons (by rfl) AVeq.rfl' .nil))
 ·-- what comes after the loop
  have e:nstAt p syms vs.length=nearP syms p:=by rw [hlen];exact nst_all fun s hs=>(good_len (hok s hs).2.2).2
  have Is:Inv ρ X' D' ⟨mL p (fndV (nearP syms p).1 (nearP syms p).2),[]⟩ s':=by
   have:nstSt p syms vs.length=⟨mL p (fndV (nearP syms p).1 (nearP syms p).2),[]⟩:=by unfold nstSt;rw [e]
   rw [this] at I';exact I'
  refine R.2.2.1 _ _ _ [] _ (nst_post p _) ρ X' D' s' _ hcs' hX' hr' Is fun D₉ fl s₉ le₉ fr sm₉=>?_
  refine e13 (fr) ?_;clear fr;intro v Y1 V I₉;subst Y1
  have hll:D₉.lad=[]:=by
   refine e21 (I₉) ?_;try clear I₉;intro m P J
   have h1:=J.ls.length
   have h2:=congrArg List.length J.ad
   rw [List.length_map,h1] at h2
   exact List.length_eq_zero_iff.mp h2.symm
  refine hQp _ _ (i35 v D₉ _ rfl (((le₂.trans le₄).trans le).trans le₉) I₉ (((((sm₁.trans sm₂).trans sm₄).trans ⟨sm.gens,sm.drawn,sm.os⟩).trans sm₉)) ?_)
  have:D₉=⟨D₉.imm,[]⟩:=by cases D₉;simp only at hll;rw [hll]
  rw [← this];exact V
end
end
section
noncomputable def textN:List Nat:=[116,101,120,116]
theorem args688:((sArgs (stA 69)).args.map fun p=>p.arg.cps.toList)=[textN]:=by kernel_rfl
theorem fn688 (w:World):FnOk w 688 (sArgs (stA 69)) (sBody (stA 69)) (sScope (stA 69)):=by
 refine fnOk_of (dV:=.none) (cd:=687) (q:=S zq14) (pm:=.str (S zq3) 1005) (by kernel_rfl) (by kernel_rfl) (by kernel_rfl) fun s vs h=>?_
 have hl:(sArgs (stA 69)).args.length=1:=by kernel_rfl
 rw [hl] at h
 refine e11 (len1 h) ?_;clear h;intro v0 Y1;subst Y1
 exact BindsTo.of_eq (by kernel_rfl)
theorem args695:((sArgs (stA 70)).args.map fun p=>p.arg.cps.toList)=[textN,symbolsN,placeN]:=by kernel_rfl
theorem fn695 (w:World):FnOk w 695 (sArgs (stA 70)) (sBody (stA 70)) (sScope (stA 70)):=by
 refine fnOk_of (dV:=.none) (cd:=694) (q:=S [95,108,97,119,95,105,115,95,112,108,97,99,101]) (pm:=.str (S zq3) 1005) (by kernel_rfl) (by kernel_rfl) (by kernel_rfl) fun s vs h=>?_
 have hl:(sArgs (stA 70)).args.length=3:=by kernel_rfl
 rw [hl] at h
 refine e31 (len3 h) ?_;clear h;intro v0 v1 v2 Y3;subst Y3
 exact BindsTo.of_eq (by kernel_rfl)
noncomputable def gE (g:Int):IE:=.extb g 1 18446744073709551615
noncomputable def nT0:SE:=.nil
noncomputable def nT1 (x:List Nat):SE:=.lit (60::(x++[62])) .nil
noncomputable def nT2 (x:List Nat) (g:Int):SE:=.lit (60::(x++[43,48,120])) (.fn 0 24 (gE g) (.lit [62] .nil))
noncomputable def retV:Option FR→Option AV
 | some (.ret v _)=>some v
 | _=>Option.none
theorem retV_ok {r:Option FR}{v:AV} (h:retV r=some v):∃ st,r=some (.ret v st):=by
 unfold retV at h
 split at h
 ·(have Y0:=s1 h;try clear h;subst Y0);exact ⟨_,rfl⟩
 ·exact xNS h
theorem read0:retV ((recs Tf 40).exs s688.1 ⟨[(textN,.str nT0)],[]⟩ b688.1 [])=some (.tup [.str .nil,.int (.lit 0)]):=by kernel_rfl
theorem read1:∀ x∈goodNames,retV ((recs Tf 40).exs s688.1 ⟨[(textN,.str (nT1 x))],[]⟩ b688.1 [])=some (.tup [.str (.lit x .nil),.int (.lit 0)]):=by
 refine good_cases ⟨?_,?_,?_,?_,?_⟩ <;> kernel_rfl
theorem read2 (g:Int):∀ x∈goodNames,retV ((recs Tf 40).exs s688.1 ⟨[(textN,.str (nT2 x g))],[]⟩ b688.1 [])=some (.tup [.str (.lit x .nil),.int (gE g)]):=by
 refine good_cases ⟨?_,?_,?_,?_,?_⟩ <;> kernel_rfl
noncomputable def rExpr (zs:Stmt):Expr:=(atE zs 1)
noncomputable def rPos (zs:Stmt):Pos:=(atP zs 0)
noncomputable def opHead:Expr→Expr
 | .BoolOp _ (e::_) _=>e
 | _=>.Name (S []) ⟨0,0,0,0⟩
noncomputable def opPos (zs:Expr):Pos:=(xP zs 0)
noncomputable def opCmp (zs:Expr):Nat→Pos:=fun i=>(xL zs [4162,8258,66,4226,8322,12418,130,2]).getD i (xP zs 4162)
noncomputable def readN:List Nat:=[95,108,97,119,95,114,101,97,100,95,110,101,97,114]
noncomputable def nearestN:List Nat:=[95,108,97,119,95,110,101,97,114,101,115,116]
noncomputable def plS (i:Nat):Stmt:=b695.1.getD i (.Pass ⟨0,0,0,0⟩)
noncomputable def plE:Expr:=rExpr (plS 3)
theorem pl_body:b695.1=[plS 0]++([.If (iTest (plS 1)) (iBody (plS 1)) [] (iPos (plS 1))]++([plS 2]++[.Return (some (.BoolOp .And [opHead plE,.Compare (.Call (.Name (S readN) (opCmp plE 0)) [.Name (S nearN) (opCmp plE 1)] [] (opCmp plE 2)) [.Eq]
  [.Call (.Name (S nearestN) (opCmp plE 3)) [.Name (S symbolsN) (opCmp plE 4),.Name (S placeN) (opCmp plE 5)] [] (opCmp plE 6)] (opCmp plE 7)] (opPos plE))) (rPos (plS 3))])):=by kernel_rfl
noncomputable def get3 (l:Locs) (a b c:List Nat):Option (AV×AV×AV):=match lkL l a,lkL l b,lkL l c with
 | some x,some y,some z=>some (x,y,z)
 | _,_,_=>Option.none
noncomputable def plRun (R:Recs) (p:Int) (s:SE):Option (BE×AV×AV×AV):=match R.exs s695.1 ⟨[(textN,.str s),(symbolsN,.opq 0),(placeN,.int (pE p))],[]⟩ [plS 0] [] with
 | some (.next st₁)=>match R.tst s695.1 st₁ (iTest (plS 1)) with
  | some (.u c,st₂)=>match R.exs s695.1 st₂ [plS 2] [] with
   | some (.next st₃)=>match R.ev s695.1 st₃ (opHead plE) with
    | some (.bool true,st₄)=>(get3 st₄.loc nearN symbolsN placeN).map fun r=>(c,r)
    | _=>Option.none
   | _=>Option.none
  | _=>Option.none
 | _=>Option.none
noncomputable def tT0 (p:Int):SE:=.lit [48,120] (.fn 0 24 (pE p) .nil)
noncomputable def tT1 (p:Int) (x:List Nat):SE:=.lit [48,120] (.fn 0 24 (pE p) (.lit (32::60::(x++[62])) .nil))
noncomputable def tT2 (p:Int) (x:List Nat) (g:Int):SE:=.lit [48,120] (.fn 0 24 (pE p) (.lit (32::60::(x++[43,48,120])) (.fn 0 24 (gE g) (.lit [62] .nil))))
noncomputable def plC (p:Int):BE:=.not (.eq (pE p) (pE p))
theorem pl0 (p:Int):plRun (recs Tf 40) p (tT0 p)=some (plC p,.str nT0,.opq 0,.int (pE p)):=by kernel_rfl
theorem pl1 (p:Int):∀ x∈goodNames,plRun (recs Tf 40) p (tT1 p x)=some (plC p,.str (nT1 x),.opq 0,.int (pE p)):=by
 refine good_cases ⟨?_,?_,?_,?_,?_⟩ <;> kernel_rfl
theorem pl2 (p g:Int):∀ x∈goodNames,plRun (recs Tf 40) p (tT2 p x g)=some (plC p,.str (nT2 x g),.opq 0,.int (pE p)):=by
 refine good_cases ⟨?_,?_,?_,?_,?_⟩ <;> kernel_rfl
section
variable {w:World}{mean:ExcName→Option Value}{mg mb:Str→Option Value}{n:Nat}{ρ:Rho}{X:FX}{D:Led}{st:St}{loc:Locs}{lst:List (List AV)}{s:Shared}
theorem shape_of (hX:X.Ok w mean mg mb ρ) {syms:List Sy} (hok:∀ s∈syms,SyOk s) {p:Int} (hp:0≤p∧p<pow64):∃ (T r a:SE) (e:IE),plRun (recs Tf 40) p T=some (plC p,.str r,.opq 0,.int (pE p)) ∧
  retV ((recs Tf 40).exs s688.1 ⟨[(textN,.str r)],[]⟩ b688.1 [])=some (.tup [.str a,.int e])∧T.den ρ=toldL syms p∧r.den ρ=nearT syms p∧a.den ρ=(nearP syms p).1∧e.den ρ=(nearP syms p).2:=by
 have h96:p<2 ^ 96:=by have:=hp.2;unfold pow64 at this;(exact Int.le_trans (by assumption) (by decide))
 have hhex:(hexL p).take 24=hexL p:=zT (hexL_len (k:=24) h96 (by decide))
 have h0:=hX.sym.1
 unfold toldL nearT nearP
 cases hn:nearL syms p with
 | none =>
  refine (i46 (tT0 p) nT0 .nil (.lit 0) (pl0 p) read0 ?_ rfl rfl rfl)
  simp only [tT0,SE.den,pE_den hp,h0,hhex,List.append_nil]
 | some b =>
  have hb:=nearL_ok syms p
  rw [hn] at hb
  refine e03 (hb) ?_;clear hb;intro bm ble _
  refine e03 (hok b bm) ?_;clear hok bm;intro ok1 ok2 ok3
  obtain ⟨sp,x⟩:=b
  simp only at ok1 ok2 ok3 ble
  by_cases hg:p-sp=0
  ·refine (i46 (tT1 p x) (nT1 x) (.lit x .nil) (.lit 0) (pl1 p x ok3) (read1 x ok3) ?_ ?_ ?_ ?_)
   ·simp only [tT1,SE.den,pE_den hp,h0,hhex,List.append_nil,plusL,if_pos hg];simp
   ·simp only [nT1,SE.den,List.append_nil,plusL,if_pos hg];simp
   ·simp [SE.den]
   ·exact hg.symm
  ·have hgd:(gE (p-sp)).den ρ=p-sp:=extb_den (by lia) (by have:=hp.2;unfold pow64 at this;lia)
   have hghex:(hexL (p-sp)).take 24=hexL (p-sp):=zT (hexL_len (k:=24) (by lia) (by decide))
   refine (i46 (tT2 p x (p-sp)) (nT2 x (p-sp)) (.lit x .nil) (gE (p-sp)) (pl2 p (p-sp) x ok3) (read2 (p-sp) x ok3) ?_ ?_ ?_ ?_)
   ·simp only [tT2,SE.den,pE_den hp,h0,hhex,hgd,hghex,List.append_nil,plusL,if_neg hg];simp
   ·simp only [nT2,SE.den,h0,hgd,hghex,List.append_nil,plusL,if_neg hg];simp
   ·simp [SE.den]
   ·exact hgd
theorem drop2 {a:SE}{e:IE}{v:Value} (V:VR ρ D (.tup [.str a,.int e]) v):VR ρ ⟨D.imm,[]⟩ (.tup [.str a,.int e]) v:=by
 refine e33 V.tupI ?_;clear V;intro _ _ _ hm hv Y;subst Y
 (refine e23 hv.consI ?_;clear hv;intro _ _ x r Y;subst Y);(refine e23 r.consI ?_;clear r;intro _ _ y r Y;subst Y);(have Y:=r.nilI;clear r;subst Y)
 (refine e11 x.strI ?_;clear x;intro t Y;subst Y);(refine e11 y.intI ?_;clear y;intro u Y;subst Y)
 exact .tup hm (.cons (.str _ _) (.cons (.int _ _) .nil))
theorem VR.up {imm:List (Addr×Obj)}{a:AV}{v:Value} (V:VR ρ ⟨imm,[]⟩ a v) {D':Led} (h:∀ p∈imm,p∈D'.imm):VR ρ D' a v :=
 VR.mono (D:=⟨imm,[]⟩) (D':=D') ⟨h,fun i b (z:([]:List Addr)[i]?=some b)=>by simp at z⟩ V
theorem read_ok {syms:List Sy} (hok:∀ s∈syms,SyOk s) {p:Int} (hp:0≤p∧p<pow64) {fv:Value}{t:Tok}{Q:Value→Shared→Prop} (hX:X.Ok w mean mg mb ρ) (hr:Room X 71) (I:Inv ρ X D ⟨loc,lst⟩ s) (hf:VR ρ D (.top 688) fv)
  (h:∀ D' s' v,D.le D'→Inv ρ X D' ⟨loc,lst⟩ s'→Same s s'→VR ρ D' (fndV (nearP syms p).1 (nearP syms p).2) v→Q v s'):wpAny (model pw w) X.A (call fv [.str (S (nearT syms p)) t]) Q F0 s:=by
 obtain ⟨T,r,a,e,h1,h2,h3,h4,h5,h6⟩:=shape_of hX hok hp
 refine enter_hide (n:=70) (fn688 w) (args:=[.str r]) (l:=[(textN,.str r)]) (by rw [args688];rfl) hX hr I hf (fun imm _=>.cons (by have:=VR.str (ρ:=ρ) (D:=⟨imm,[]⟩) r t;rw [h4] at this;exact this) .nil)
  (fun imm v=>VR ρ ⟨imm,[]⟩ (.tup [.str a,.int e]) v) (fun X' hcs hhx hX' hr' s₁ I₁ sm₁=>?_) (fun D' v s' le I' hp' sm=>h D' s' v le I' sm ?_)
 ·have hcs':X'.cs=s688.1:=hcs.trans s688.2
  have R:=recs_ok (Tf_all w mean mg mb) 40
  rw [b688.2]
  refine e11 (retV_ok h2) ?_;clear h2;intro st hrun
  refine R.2.2.1 _ _ _ [] _ hrun ρ X' ⟨D.imm,[]⟩ s₁ _ hcs' hX' hr' I₁ fun D₂ fl s₂ le₂ fr sm₂=>?_
  refine e13 (fr) ?_;clear fr;intro v Y1 V I₂;subst Y1
  (exact (i35 v D₂ _ rfl le₂ I₂ (sm₁.trans sm₂) (drop2 V)))
 ·have hgood:=nst_good hok hp syms.length (Nat.le_refl _)
  rw [nst_all fun s hs=>(good_len (hok s hs).2.2).2] at hgood
  refine AVeq.tup2 (AVeq.str ?_) (AVeq.int ?_) _ _ (hp'.up fun _ z=>z)
  ·rw [h5];simp [SE.den]
  ·rw [h6];exact (pE_den ⟨hgood.2.1,hgood.2.2⟩).symm
theorem dat_shaped {d:Dat} (h:kqdOk 8 d=true):SeqAt.shaped (kqdP d)=true:=by
 have la:=kqd_lay 8 d h
 unfold SeqAt.shaped;rw [la.1,Bool.true_and];exact decide_eq_true (Nat.le_trans la.2 (by decide))
open Classical in
theorem dat_eqv {d e:Dat} (hd:kqdOk 8 d=true) (he:kqdOk 8 e=true):PyData.eqv (kqdP d) (kqdP e)=decide (d=e):=by
 have q:=kqd_eqv 8 d e 8 hd he
 by_cases hq:d=e
 ·rw [decide_eq_true hq];exact q.mpr hq
 ·rw [decide_eq_false hq];exact Bool.eq_false_iff.mpr fun x=>hq (q.mp x)
theorem fnd_in {news:List (Addr×Obj)} (hn:∀ p∈D.imm,p∈news) {x:List Nat}{g:Int} (hg:0≤g∧g<pow64) {v:Value} (V:VR ρ D (fndV x g) v):DatIn news v (.tuple [.str (S x),.int g]):=by
 refine e33 V.tupI ?_;clear V;intro _ _ _ hm hv Y;subst Y
 (refine e23 hv.consI ?_;clear hv;intro _ _ a r Y;subst Y);(refine e23 r.consI ?_;clear r;intro _ _ b r Y;subst Y);(have Y:=r.nilI;clear r;subst Y)
 (refine e11 a.strI ?_;clear a;intro t Y;subst Y);(refine e11 b.intI ?_;clear b;intro u Y;subst Y)
 rw [show (SE.lit x .nil).den ρ=x by simp [SE.den]] at hm
 rw [show (pE g).den ρ=g from pE_den hg] at hm
 exact .tuple (hn _ hm) (.cons (.str _ _) (.cons (.int _ _) .nil))
theorem fnd_ok {x:List Nat}{g:Int} (hx:x=[]∨x∈goodNames):kqdOk 8 (.tuple [.str (S x),.int g])=true:=by
 have:PyData.strOk (S x)=true:=by
  rcases hx with rfl|hx
  ·kernel_rfl
  ·exact good_cases (P:=fun x=>PyData.strOk (S x)=true) ⟨by kernel_rfl,by kernel_rfl,by kernel_rfl,by kernel_rfl,by kernel_rfl⟩ x hx
 show List.all [Dat.str (S x),Dat.int g] (kqdOk 7)=true
 simp [List.all,kqdOk,this]
theorem near_good {syms:List Sy} (hok:∀ s∈syms,SyOk s) {p:Int} (hp:0≤p∧p<pow64):((nearP syms p).1=[]∨(nearP syms p).1∈goodNames)∧0≤(nearP syms p).2∧(nearP syms p).2<pow64:=by
 have hgood:=nst_good hok hp syms.length (Nat.le_refl _)
 rw [nst_all fun s hs=>(good_len (hok s hs).2.2).2] at hgood
 exact hgood
open Classical in
theorem fnd_eq {x:List Nat}{g:Int} (hx:x=[]∨x∈goodNames) (hg:0≤g∧g<pow64) (hu:X.A.units+64<cLine) {va vb:Value}{Q:Value→Shared→Prop} (I:Inv ρ X D st s) (Va:VR ρ D (fndV x g) va) (Vb:VR ρ D (fndV x g) vb) (h:Q (.bool true) s) :
  wpAny (model pw w) X.A (compareOp .Eq va vb) Q F0 s:=by
 refine e21 (I) ?_;clear I;intro m P J
 have hn:∀ p∈D.imm,p∈P++(D.imm++X.fx):=fun p hp=>zR _ (zL _ hp)
 refine e11 (kqd_in J.N 8 (fnd_in hn hg Va) (fnd_ok hx)) ?_;clear Va;intro as ra
 refine e11 (kqd_in J.N 8 (fnd_in hn hg Vb) (fnd_ok hx)) ?_;clear J hn hg;intro bs rb
 refine eq_dataH ra rb (dat_shaped (fnd_ok hx)) (dat_shaped (fnd_ok hx)) hu ?_
 rw [dat_eqv (fnd_ok hx) (fnd_ok hx),decide_eq_true rfl]
 exact h
open Classical in
theorem fnd_ne {x:List Nat}{g:Int} (hx:x=[]∨x∈goodNames) (hg:0≤g∧g<pow64) (hu:X.A.units+64<cLine) {va vb:Value}{Q:Value→Shared→Prop} (I:Inv ρ X D st s) (Va:VR ρ D (fndV x g) va) (Vb:VR ρ D (fndV x g) vb) (h:Q (.bool false) s) :
  wpAny (model pw w) X.A (compareOp .NotEq va vb) Q F0 s:=by
 refine e21 (I) ?_;clear I;intro m P J
 have hn:∀ p∈D.imm,p∈P++(D.imm++X.fx):=fun p hp=>zR _ (zL _ hp)
 refine e11 (kqd_in J.N 8 (fnd_in hn hg Va) (fnd_ok hx)) ?_;clear Va;intro as ra
 refine e11 (kqd_in J.N 8 (fnd_in hn hg Vb) (fnd_ok hx)) ?_;clear J hn hg;intro bs rb
 refine ne_dataH ra rb (dat_shaped (fnd_ok hx)) (dat_shaped (fnd_ok hx)) hu ?_
 rw [dat_eqv (fnd_ok hx) (fnd_ok hx),decide_eq_true rfl]
 exact h
theorem get3_ok {l:Locs}{a b c:List Nat}{x y z:AV} (h:get3 l a b c=some (x,y,z)):lkL l a=some x∧lkL l b=some y∧lkL l c=some z:=by
 unfold get3 at h
 split at h
 ·(refine s3 h ?_;try clear h;intro Y0 Y1 Y2;subst Y0;subst Y1;subst Y2);(exact (i03 (by assumption) (by assumption) (by assumption)))
 ·exact xNS h
theorem name_at (hX:X.Ok w mean mg mb ρ) {x:List Nat}{pos:Pos}{av:AV}{Q:Value→Shared→Prop} (hd:lnBeq x debugL=false) (hl:isLocal X.cs (S x)=true) (e:lkL st.loc x=some av) (I:Inv ρ X D st s) (h:Post ρ X D s av st Q):wpAny (model pw w) X.A (eval (.Name (S x) pos) X.env) Q F0 s:=by
 refine name_ok (T:=Tf) (Tf_all w mean mg mb).toTabsOk hX (av:=av) ?_ I h
 unfold evName
 rw [show (S x).cps.toList=x from rfl,hd,cond_false,hl,cond_true,e]
theorem place_ok {la:Addr}{vs:List Value}{ep:Nat}{syms:List Sy} (hs:SymOf ρ X.hx la vs ep syms) {p:Int} (hp:0≤p∧p<pow64) {fv:Value}{t t':Tok}{Q:Value→Shared→Prop} (hX:X.Ok w mean mg mb ρ) (hr:Room X 72) (I:Inv ρ X D ⟨loc,lst⟩ s) (hf:VR ρ D (.top 695) fv)
  (h:∀ D' s',D.le D'→Inv ρ X D' ⟨loc,lst⟩ s'→Same s s'→Q (.bool true) s'):wpAny (model pw w) X.A (call fv [.str (S (toldL syms p)) t,ρ.o 0,.int p t']) Q F0 s:=by
 obtain ⟨T,r,a,e,h1,_,h3,h4,_,_⟩:=shape_of hX hs.ok hp
 have hgood:=near_good hs.ok hp
 refine enter_hide (n:=71) (fn695 w) (args:=[.str T,.opq 0,.int (pE p)]) (l:=[(textN,.str T),(symbolsN,.opq 0),(placeN,.int (pE p))]) (by rw [args695];rfl) hX hr I hf
  (fun imm _=>.cons (by have:=VR.str (ρ:=ρ) (D:=⟨imm,[]⟩) T t;rw [h3] at this;exact this) (.cons (.sy hs.o) (.cons (by have:=VR.int (ρ:=ρ) (D:=⟨imm,[]⟩) (pE p) t';rw [pE_den hp] at this;exact this) .nil)))
  (fun imm v=>v=.bool true) (fun X' hcs hhx hX' hr' s₁ I₁ sm₁=>?_) (fun D' v s' le I' hp' sm=>by rw [hp'];exact h D' s' le I' sm)
 have hcs':X'.cs=s695.1:=hcs.trans s695.2
 rw [← hhx] at hs
 have HT:=(Tf_all w mean mg mb).toTabsOk
 have R:=recs_ok (Tf_all w mean mg mb) 40
 have hr2:Room X' 70:=hr'.down (by decide)
 rw [b695.2,pl_body]
 refine wpAny_hide fun Qp hQp=>?_
 unfold plRun at h1
 split at h1
 ·rename_i st₁ e1
  split at h1
  ·rename_i c st₂ e2
   split at h1
   ·rename_i st₃ e3
    split at h1
    ·rename_i st₄ e4
     refine e12 (Option.map_eq_some_iff.mp h1) ?_;intro r' e5 e6
     refine p2 e6 ?_;try clear e6;intro Y0 Y1;subst Y0;subst Y1
     refine e03 (get3_ok e5) ?_;clear e5;intro g1 g2 g3
     refine execs_app (exs_two (m:=40) (Tf_all w mean mg mb) hX' hr2 hcs' e1 I₁ fun D₂ s₂ le₂ I₂ sm₂=>?_)
     refine execs_app (wpAny_execs_cons (wpAny_If (R.2.1 _ _ _ _ _ e2 ρ X' D₂ s₂ _ hcs' hX' hr2 I₂ fun D₃ b₃ s₃ le₃ I₃ V₃ sm₃=>?_)))
     (have Y:=V₃.uI;clear V₃;subst Y)
     have hc:(plC p).den ρ=false:=by
      simp only [plC,BE.den]
      rw [(eqB_iff _ _).mpr rfl];rfl
     rw [hc,if_neg zF]
     refine wpAny_execs_nil (wpAny_execs_nil ?_)
     refine execs_app (exs_two (m:=40) (Tf_all w mean mg mb) hX' hr2 hcs' e3 I₃ fun D₄ s₄ le₄ I₄ sm₄=>?_)
     refine wpAny_execs_cons (wpAny_Return_some (BoolOp_and (R.1 _ _ _ _ _ e4 ρ X' D₄ s₄ _ hcs' hX' hr2 I₄ fun D₅ v₅ s₅ le₅ I₅ V₅ sm₅=>?_)))
     (have Y:=V₅.boolI;clear V₅;subst Y)
     refine wpAny_truthy_bool ?_
     rw [if_pos rfl]
     refine BoolOp_one (wpAny_Compare1 ?_ rfl)
     refine Call_ (fn_ok HT hX' (av:=.top 688) (by rw [hcs'];rfl) I₅ fun D₆ fv₆ s₆ le₆ I₆ V₆ sm₆=>?_)
     have V₆':=V₆
     (have Y:=V₆.topI;clear V₆;subst Y)
     refine callWith_K hX'.K (keep_ok HT (cs:=s695.1) (x:=S readN) rfl) (args_cons (name_at hX' (x:=nearN) rfl (by rw [hcs'];rfl) g1 I₆ fun D₇ v₇ s₇ le₇ I₇ V₇ sm₇=>args_nil ⟨?_,?_⟩))
     ·(refine e21 (I₇) ?_;try clear I₇;intro m P J);exact hX'.K.keeps J.F.keep
     refine e11 V₇.strI ?_;clear V₇;intro t₇ Y;subst Y
     rw [h4]
     refine read_ok hs.ok hp hX' (hr'.down (by (exact Nat.le_refl _))) (loc:=st₄.loc) (lst:=st₄.lst) I₇ (V₆'.mono le₇) fun D₈ s₈ v₈ le₈ I₈ sm₈ V₈=>?_
     refine Call_ (fn_ok HT hX' (av:=.top 681) (by rw [hcs'];rfl) I₈ fun D₉ fv₉ s₉ le₉ I₉ V₉ sm₉=>?_)
     have V₉':=V₉
     (have Y:=V₉.topI;clear V₉;subst Y)
     refine callWith_K hX'.K (keep_ok HT (cs:=s695.1) (x:=S nearestN) rfl) (args_cons (name_at hX' (x:=symbolsN) rfl (by rw [hcs'];rfl) g2 I₉ fun D₁₀ v₁₀ s₁₀ le₁₀ I₁₀ V₁₀ sm₁₀=>args_cons (name_at hX' (x:=placeN) rfl (by rw [hcs'];rfl) g3 I₁₀ fun D₁₁ v₁₁ s₁₁ le₁₁ I₁₁ V₁₁ sm₁₁=>args_nil ⟨?_,?_⟩)))
     ·(refine e21 (I₁₁) ?_;try clear I₁₁;intro m P J);exact hX'.K.keeps J.F.keep
     obtain rfl:=V₁₀.opqI
     refine e11 V₁₁.intI ?_;clear V₁₁;intro t₁₁ Y;subst Y
     rw [pE_den hp]
     refine nearest_ok hs hp hX' (hr'.down (by (exact Nat.le_refl _))) (loc:=st₄.loc) (lst:=st₄.lst) I₁₁ ((V₉'.mono le₁₀).mono le₁₁) fun D₁₂ s₁₂ v₁₂ le₁₂ I₁₂ sm₁₂ V₁₂=>?_
     refine fnd_eq hgood.1 hgood.2 (room64 hr') I₁₂ ((((V₈.mono le₉).mono le₁₀).mono le₁₁).mono le₁₂) V₁₂ ?_
     exact hQp _ _ ⟨_,D₁₂,_,rfl,((((((((((le₂.trans le₃).trans le₄).trans le₅).trans le₆).trans le₇).trans le₈).trans le₉).trans le₁₀).trans le₁₁).trans le₁₂),I₁₂,
      ((((((((((sm₁.trans sm₂).trans sm₃).trans sm₄).trans sm₅).trans sm₆).trans sm₇).trans sm₈).trans sm₉).trans sm₁₀).trans sm₁₁).trans sm₁₂,rfl⟩
    ·exact xNS h1
   ·exact xNS h1
  ·exact xNS h1
 ·exact xNS h1
theorem place_hand {e:IE} (he:e.within 0 (2 ^ 64-1)=true):CallOk w mean mg mb (n+72) (.top 695) [.str (.fn 1 100 e .nil),.opq 0,.int e] lst (.bool true) lst:=by
 intro ρ X D loc s vs fv Q hX hr I V Vs h
 refine e02 (IE.within_ok (ρ:=ρ) he) ?_;clear he;intro b1 b2
 (refine e23 Vs.consI ?_;clear Vs;intro _ _ v1 r Y;subst Y);(refine e23 r.consI ?_;clear r;intro _ _ v2 r Y;subst Y);(refine e23 r.consI ?_;clear r;intro _ _ v3 r Y;subst Y);(have Y:=r.nilI;clear r;subst Y)
 (refine e11 v1.strI ?_;clear v1;intro t Y;subst Y);(refine e12 v2.opqR ?_;clear v2;intro o2 ho Y;subst Y)
 refine e11 v3.intI ?_;clear v3;intro t' Y;subst Y
 refine e31 (hX.symOf ho) ?_;intro vs ep syms hs
 rw [← ho]
 have hp:0≤e.den ρ∧e.den ρ<pow64:=⟨b1,by unfold pow64;(exact Int.lt_of_le_of_lt (by assumption) (by decide))⟩
 rw [show (SE.fn 1 100 e .nil).den ρ=toldL syms (e.den ρ) by
  simp only [SE.den,hs.f1,List.append_nil]
  exact zT (toldL_len hs.ok hp)]
 exact place_ok hs hp hX (hr.down (by (exact Nat.le_add_left _ _))) I V fun D' s' le I' sm=>h D' _ s' le I' (.bool true) sm
end
end
section
section
variable {w:World}{mean:ExcName→Option Value}{mg mb:Str→Option Value}{n:Nat}
theorem handT_ok {a:Nat}{args:List AV}{lst:List (List AV)}{av:AV}{lst':List (List AV)} (e:handT a args lst=some (av,lst')):CallOk w mean mg mb (n+72) (.top a) args lst av lst':=by
 rcases altS e with ⟨r,e1,e⟩|⟨_,e⟩
 ·(refine s2 e ?_;try clear e;intro Y0 Y1;subst Y0;subst Y1);exact handCls_ok e1
 rcases cond2S e with ⟨q,e⟩|⟨_,e⟩
 ·rw [zE q]
  refine e12 (bindS e) ?_;clear e;intro p e1 e
  refine e12 (bindS e) ?_;clear e;intro i e2 e
  refine e12 (bindS e) ?_;clear e;intro m e3 e
  refine e12 (bindS e) ?_;clear e;intro l e4 e
  refine e12 (bindS e) ?_;clear e;intro v e5 e
  refine e12 (bindS e) ?_;clear e;intro x e6 e
  refine e02 (condS e) ?_;clear e;intro h e
  refine s2 e ?_;try clear e;intro Y0 Y1;subst Y0;subst Y1
  rw [twoS e1,AV.locS e2,AV.litS e3]
  rw [oneS e5,AV.intS e6] at e4
  exact take_hand (n:=n+42) e4 h
 rcases cond2S e with ⟨q,e⟩|⟨_,e⟩
 ·rw [zE q]
  exact hFig_ok (n:=n+42) e
 rcases cond2S e with ⟨q,e⟩|⟨_,e⟩
 ·rw [zE q]
  refine e12 (bindS e) ?_;clear e;intro p e1 e
  refine e12 (bindS e) ?_;clear e;intro x e2 e
  refine e02 (condS e) ?_;clear e;intro h e
  refine s2 e ?_;try clear e;intro Y0 Y1;subst Y0;subst Y1
  have h:=andS h
  rw [twoS e1,isSyS h.1,AV.intS e2]
  exact told_hand h.2
 refine e02 (condS e) ?_;clear e;intro q e
 rw [zE q]
 refine e12 (bindS e) ?_;clear e;intro p e1 e
 refine e12 (bindS e) ?_;clear e;intro f e2 e
 refine e12 (bindS e) ?_;clear e;intro x e3 e
 refine e02 (condS e) ?_;clear e;intro h e
 refine s2 e ?_;try clear e;intro Y0 Y1;subst Y0;subst Y1
 have h:=andS h
 have h2:=andS h.2
 have h3:=andS h2.2
 have h4:=andS h3.2
 refine e12 (bindS e2) ?_;clear e2;intro y e4 e5
 rw [threeS e1,AV.strS e4,fnS e5,isSyS h3.1,AV.intS e3,zE h.1,zE h2.1,← IE.beq_eq h4.1]
 exact place_hand h4.2
theorem T0_all (w:World) (mean:ExcName→Option Value) (mg mb:Str→Option Value):TabsAll w mean mg mb T0 72 :=
 {toTabsOk:=tabs_ok w rfl rfl,fns:=tabs_fns w rfl,len:=by kernel_rfl,hands:=fun _ _ _ _ _ _ e=>handT_ok e}
end
end
section
noncomputable def lnB:List Stmt:=sBody (stA 67)
noncomputable def lnC:Scope:=sScope (stA 67)
noncomputable def lnS (i:Nat):Stmt:=lnB.getD i (.Pass ⟨0,0,0,0⟩)
theorem ln_body:sBody (stA 67)=[lnS 0]++([lnS 1]++([lnS 2]++([lnS 3]++([lnS 4]++([lnS 5]++([lnS 6]++([lnS 7]++([lnS 8]++([lnS 9]++([lnS 10]++[lnS 11])))))))))):=by kernel_rfl
theorem args674:((sArgs (stA 67)).args.map fun p=>p.arg.cps.toList)=[bagN]:=by kernel_rfl
noncomputable def wayN:List Nat:=[119,97,121]
noncomputable def segN:List Nat:=[115,101,103,109,101,110,116,95,119,111,114,100]
noncomputable def memN:List Nat:=[109,101,109]
noncomputable def baseN:List Nat:=[98,97,115,101]
noncomputable def tableT:List Nat:=[116,97,98,108,101]
noncomputable def fsT:List Nat:=[102,115]
noncomputable def ls2 (e:IE) (items:List AV):List (List AV):=[[.int e],items]
noncomputable def dr (m r N:Int):IE:=.cons m (.lit r) (.ext N)
noncomputable abbrev lnR (st:St) (i:Nat):Option FR:=(recs T0 60).exs lnC st [lnS i] []
noncomputable def wl0:Locs:=[(bagN,.loc 0)]
noncomputable def wl1 (w:Int):Locs:=[(bagN,.loc 0),(wayN,.int (.lit w))]
noncomputable def wl2 (w:Int) (x:SE):Locs:=wl1 w++[(nameN,.str x)]
noncomputable def wl3 (w:Int) (x:SE) (W:IE):Locs:=wl2 w x++[(worthN,.int W)]
noncomputable def wl4 (w:Int) (x:SE) (W:IE) (g:SE):Locs:=wl3 w x W++[(segN,.str g)]
noncomputable def ripA:AV:=.inst 600 ns600 [.str (.lit [114,105,112] .nil),.str (.lit [114,105,112] .nil),.int (.lit 0),.int (.lit 64)]
noncomputable def memA (base index:AV) (scale:Int) (W:IE) (size:Int) (g x:SE):AV:=.inst 302 ns302 [.str (.lit [109,101,109] .nil),base,index,.int (.lit scale),.int W,.int (.lit size),.str g,.str x]
noncomputable def wl5 (w:Int) (x:SE) (W:IE) (g:SE):Locs:=wl4 w x W g++[(memN,memA ripA .none 1 W 64 g x)]
noncomputable def wl6 (w:Int) (x:SE) (W:IE) (g:SE) (b:AV):Locs:=wl5 w x W g++[(baseN,b)]
noncomputable def nextL:Option FR→Option (Locs×List (List AV))
 | some (.next st)=>some (st.loc,st.lst.take 2)
 | _=>Option.none
noncomputable def retL:Option FR→Option (AV×List (List AV))
 | some (.ret v st)=>some (v,st.lst.take 2)
 | _=>Option.none
theorem all2 {P:Int→Prop} (h:P 0∧P 1):∀ w:Int,0≤w→w<2→P w:=fun w h0 h1=>by
 have:w=0∨w=1:=by lia
 rcases this with rfl|rfl
 ·exact h.1
 ·exact h.2
theorem all3 {P:Int→Prop} (h:P 0∧P 1∧P 2):∀ w:Int,0≤w→w<3→P w:=fun w h0 h1=>by
 have:w=0∨w=1∨w=2:=by lia
 rcases this with rfl|rfl|rfl
 ·exact h.1
 ·exact h.2.1
 ·exact h.2.2
theorem all5 {P:Int→Prop} (h:P 0∧P 1∧P 2∧P 3∧P 4):∀ w:Int,0≤w→w<5→P w:=fun w h0 h1=>by
 have:w=0∨w=1∨w=2∨w=3∨w=4:=by lia
 rcases this with rfl|rfl|rfl|rfl|rfl
 ·exact h.1
 ·exact h.2.1
 ·exact h.2.2.1
 ·exact h.2.2.2.1
 ·exact h.2.2.2.2
theorem all6 {P:Int→Prop} (h:P 0∧P 1∧P 2∧P 3∧P 4∧P 5):∀ w:Int,0≤w→w<6→P w:=fun w h0 h1=>by
 by_cases q:w=5
 ·subst q;exact h.2.2.2.2.2
 ·exact all5 (P:=P) ⟨h.1,h.2.1,h.2.2.1,h.2.2.2.1,h.2.2.2.2.1⟩ w h0 (by lia)
theorem all16 {P:Int→Prop} (h:(P 0∧P 1∧P 2∧P 3∧P 4)∧(P 5∧P 6∧P 7∧P 8∧P 9∧P 10)∧(P 11∧P 12∧P 13∧P 14∧P 15)):∀ w:Int,0≤w→w<16→P w:=fun w h0 h1=>by
 by_cases q:w<5
 ·exact all5 h.1 w h0 q
 ·by_cases q2:w<11
  ·have:=all6 (P:=fun i=>P (i+5)) (by simpa using h.2.1) (w-5) (by lia) (by lia)
   rw [show w-5+5=w by lia] at this;exact this
  ·have:=all5 (P:=fun i=>P (i+11)) (by simpa using h.2.2) (w-11) (by lia) (by lia)
   rw [show w-11+11=w by lia] at this;exact this
noncomputable def nmE (r:Int):SE:=if r=2 then .lit tableT .nil else .nil
noncomputable def sgE (r:Int):SE:=if r=2 then .lit fsT .nil else .nil
theorem ln0 (N:Int) (items:List AV):∀ w:Int,0≤w→w<6→nextL (lnR ⟨wl0,ls2 (dr 6 w N) items⟩ 0)=some (wl1 w,ls2 (.ext N) items):=by
 refine all6 ⟨?_,?_,?_,?_,?_,?_⟩ <;> kernel_rfl
theorem ln1 (N w:Int) (items:List AV):∀ r:Int,0≤r→r<3→nextL (lnR ⟨wl1 w,ls2 (dr 3 r N) items⟩ 1)=some (wl2 w (nmE r),ls2 (.ext N) items):=by
 refine all3 ⟨?_,?_,?_⟩ <;> kernel_rfl
noncomputable def wBag (a b c r N:Int):IE:=.cons 64 (.extb a 0 63) (.cons 3 (.extb b 0 2) (.cons 3 (.extb c 0 2) (.cons 3 (.lit r) (.ext N))))
noncomputable def wOut (a b c r:Int):IE:=if r=0 then .sub (.extb a 0 63) (.lit 32) else if r=1 then .sub (.lit 2147483647) (.extb b 0 2) else .add (.lit (-2147483648)) (.extb c 0 2)
theorem ln2 (N w a b c:Int) (x:SE) (items:List AV):∀ r:Int,0≤r→r<3→nextL (lnR ⟨wl2 w x,ls2 (wBag a b c r N) items⟩ 2)=some (wl3 w x (wOut a b c r),ls2 (.ext N) items):=by
 refine all3 ⟨?_,?_,?_⟩ <;> kernel_rfl
noncomputable def jT (k:Int):List Nat:=if k=0 then [106,109,112] else if k=1 then [99,97,108,108] else if k=2 then [106,110,101] else if k=3 then [108,111,111,112] else [106,114,99,120,122]
noncomputable def insA (n:List Nat) (l:List AV) (p:SE):AV:=.inst 355 ns355 [.str (.lit n .nil),.tup l,.str p]
noncomputable def relA (W:IE) (x:SE):AV:=.inst 249 ns249 [.str (.lit [114,101,108] .nil),.int W,.str x]
theorem ln3n (N:Int) (W:IE) (x:SE) (items:List AV):∀ w:Int,0≤w→w<5→nextL (lnR ⟨wl3 (w+1) x W,ls2 (.ext N) items⟩ 3)=some (wl3 (w+1) x W,ls2 (.ext N) items):=by
 refine all5 ⟨?_,?_,?_,?_,?_⟩ <;> kernel_rfl
theorem ln3r (N:Int) (W:IE) (x:SE) (items:List AV):∀ k:Int,0≤k→k<5→retL (lnR ⟨wl3 0 x W,ls2 (dr 5 k N) items⟩ 3)=some (insA (jT k) [relA W x] .nil,ls2 (.ext N) items):=by
 refine all5 ⟨?_,?_,?_,?_,?_⟩ <;> kernel_rfl
theorem ln4 (N w:Int) (W:IE) (x:SE) (items:List AV):∀ r:Int,0≤r→r<3→nextL (lnR ⟨wl3 w x W,ls2 (dr 3 r N) items⟩ 4)=some (wl4 w x W (sgE r),ls2 (.ext N) items):=by
 refine all3 ⟨?_,?_,?_⟩ <;> kernel_rfl
theorem ln5 (N w:Int) (W:IE) (x g:SE) (items:List AV):nextL (lnR ⟨wl4 w x W g,ls2 (.ext N) items⟩ 5)=some (wl5 w x W g,ls2 (.ext N) items):=by kernel_rfl
noncomputable def kT (k:Int):List Nat:=if k=0 then [106,109,112] else if k=1 then [99,97,108,108] else [112,117,115,104]
theorem ln6n (N:Int) (W:IE) (x g:SE) (items:List AV):∀ w:Int,0≤w→w<5→w≠0→nextL (lnR ⟨wl5 (w+1) x W g,ls2 (.ext N) items⟩ 6)=some (wl5 (w+1) x W g,ls2 (.ext N) items):=by
 refine all5 ⟨?_,?_,?_,?_,?_⟩ <;> intro h <;> first|exact absurd rfl h|kernel_rfl
theorem ln6r (N:Int) (W:IE) (x g:SE) (items:List AV):∀ k:Int,0≤k→k<3→retL (lnR ⟨wl5 1 x W g,ls2 (dr 3 k N) items⟩ 6)=some (insA (kT k) [memA ripA .none 1 W 64 g x] .nil,ls2 (.ext N) items):=by
 refine all3 ⟨?_,?_,?_⟩ <;> kernel_rfl
theorem ln7n (N:Int) (W:IE) (x g:SE) (items:List AV):∀ w:Int,0≤w→w<3→nextL (lnR ⟨wl5 (w+3) x W g,ls2 (.ext N) items⟩ 7)=some (wl5 (w+3) x W g,ls2 (.ext N) items):=by
 refine all3 ⟨?_,?_,?_⟩ <;> kernel_rfl
noncomputable def immA (i:IE):AV:=.inst 208 ns208 [.str (.lit [105,109,109] .nil),.int i,.str .nil]
noncomputable def lkE (r:Int):SE:=if r=0 then .nil else .lit [108,111,99,107] .nil
theorem ln7r (N i:Int) (W:IE) (x g:SE) (items:List AV):∀ k:Int,0≤k→k<2→retL (lnR ⟨wl5 2 x W g,ls2 (.cons 100 (.extb i 0 99) (dr 2 k N)) items⟩ 7)=some (insA [97,100,100] [memA ripA .none 1 W 64 g x,immA (.sub (.extb i 0 99) (.lit 50))] (lkE k),ls2 (.ext N) items):=by
 refine all2 ⟨?_,?_⟩ <;> kernel_rfl
theorem ln8n (N:Int) (W:IE) (x g:SE) (items:List AV):∀ w:Int,0≤w→w<2→nextL (lnR ⟨wl5 (w+4) x W g,ls2 (.ext N) items⟩ 8)=some (wl5 (w+4) x W g,ls2 (.ext N) items):=by
 refine all2 ⟨?_,?_⟩ <;> kernel_rfl
noncomputable def xmT:List (List Nat):=[[120,109,109,48],[120,109,109,49],[120,109,109,50],[120,109,109,51],[120,109,109,52],[120,109,109,53],[120,109,109,54],[120,109,109,55],[120,109,109,56],[120,109,109,57],[120,109,109,49,48],[120,109,109,49,49],[120,109,109,49,50],[120,109,109,49,51],[120,109,109,49,52],[120,109,109,49,53]]
noncomputable def gpT:List (List Nat):=[[101,97,120],[101,99,120],[101,100,120],[101,98,120],[101,115,112],[101,98,112],[101,115,105],[101,100,105],[114,56,100],[114,57,100],[114,49,48,100],[114,49,49,100],[114,49,50,100],[114,49,51,100],[114,49,52,100],[114,49,53,100]]
noncomputable def regA (l kind:List Nat) (k size:Int):AV:=.inst 174 ns174 [.str (.lit [114,101,103] .nil),.inst 600 ns600 [.str (.lit l .nil),.str (.lit kind .nil),.int (.lit k),.int (.lit size)]]
noncomputable def xmN:List Nat:=[120,109,109]
noncomputable def gpN:List Nat:=[103,112,114]
theorem ln8r (N:Int) (W:IE) (x g:SE) (items:List AV):∀ k:Int,0≤k→k<16→retL (lnR ⟨wl5 3 x W g,ls2 (dr 16 k N) items⟩ 8)=some (insA [109,111,118,113] [regA (xmT.getD k.toNat []) xmN k 128,memA ripA .none 1 W 64 g x] .nil,ls2 (.ext N) items):=by
 refine all16 ⟨⟨?_,?_,?_,?_,?_⟩,⟨?_,?_,?_,?_,?_,?_⟩,?_,?_,?_,?_,?_⟩ <;> kernel_rfl
noncomputable def rgA (l:List Nat) (k:Int):AV:=.inst 600 ns600 [.str (.lit l .nil),.str (.lit gpN .nil),.int (.lit k),.int (.lit 64)]
noncomputable def bsA (r:Int):AV:=if r=0 then .none else if r=1 then rgA [114,98,120] 3 else rgA [114,49,51] 13
theorem ln9 (N w:Int) (W:IE) (x g:SE) (items:List AV):∀ r:Int,0≤r→r<3→nextL (lnR ⟨wl5 w x W g,ls2 (dr 3 r N) items⟩ 9)=some (wl6 w x W g (bsA r),ls2 (.ext N) items):=by
 refine all3 ⟨?_,?_,?_⟩ <;> kernel_rfl
theorem ln10n (N:Int) (W:IE) (x g:SE) (b:AV) (items:List AV):nextL (lnR ⟨wl6 5 x W g b,ls2 (.ext N) items⟩ 10)=some (wl6 5 x W g b,ls2 (.ext N) items):=by kernel_rfl
theorem ln10r (N:Int) (W:IE) (x g:SE) (items:List AV):∀ r:Int,0≤r→r<3→∀ k:Int,0≤k→k<16→retL (lnR ⟨wl6 4 x W g (bsA r),ls2 (dr 16 k N) items⟩ 10)=some (insA [109,111,118] [regA (gpT.getD k.toNat []) gpN k 32,memA (bsA r) (rgA [114,99,120] 1) 4 W 32 g x] .nil,ls2 (.ext N) items):=by
 refine all3 ⟨?_,?_,?_⟩ <;> refine all16 ⟨⟨?_,?_,?_,?_,?_⟩,⟨?_,?_,?_,?_,?_,?_⟩,?_,?_,?_,?_,?_⟩ <;> kernel_rfl
noncomputable def rT (k:Int):List Nat:=if k=0 then [114,101,116] else if k=1 then [99,113,111] else [109,111,118,115,113]
noncomputable def rpE (r:Int):SE:=if r=0 then .nil else .lit [114,101,112] .nil
theorem ln11 (N:Int) (W:IE) (x g:SE) (b:AV) (items:List AV):∀ k:Int,0≤k→k<3→∀ r:Int,0≤r→r<2→retL (lnR ⟨wl6 5 x W g b,ls2 (.cons 3 (.lit k) (dr 2 r N)) items⟩ 11)=some (insA (rT k) [] (rpE r),ls2 (.ext N) items):=by
 refine all3 ⟨?_,?_,?_⟩ <;> refine all2 ⟨?_,?_⟩ <;> kernel_rfl
end
section
mutual
noncomputable def lb (k:Nat):AV→Bool
 | .loc i=>Nat.blt i k
 | .tup l=>lbs k l
 | .inst _ _ l=>lbs k l
 | _=>true
noncomputable def lbs (k:Nat):List AV→Bool
 | []=>true
 | a::l=>lb k a&&lbs k l
end
noncomputable def locsLb (k:Nat):Locs→Bool
 | []=>true
 | (_,a)::r=>lb k a&&locsLb k r
theorem locsLb_ok {k:Nat}:∀ {l:Locs},locsLb k l=true→∀ x a,lkL l x=some a→lb k a=true
 | [],_,_,_,h=>nomatch h
 | (y,b)::r,h,x,a,e=>by
  have h:=Bool.and_eq_true_iff.mp h
  rw [lkL_cons] at e
  cases q:lnBeq y x with
  | true=>rw [q] at e;(have Y0:=s1 e;try clear e;subst Y0);exact h.1
  | false=>rw [q] at e;exact locsLb_ok h.2 x a e
theorem lad_cut {l:List Addr}{i k:Nat}{a:Addr} (e:l[i]?=some a) (h:Nat.blt i k=true):(l.take k)[i]?=some a:=by
 rw [List.getElem?_take,if_pos (show i<k from zB h)]
 exact e
theorem lbs_cons {k:Nat}{a:AV}{l:List AV} (h:lbs k (a::l)=true):lb k a=true∧lbs k l=true:=by
 simpa only [lbs,Bool.and_eq_true] using h
theorem VR.cut {ρ:Rho}{D:Led}{k:Nat}{a:AV}{v:Value} (V:VR ρ D a v):lb k a=true→VR ρ ⟨D.imm,D.lad.take k⟩ a v :=
 VR.rec (ρ:=ρ) (D:=D) (motive_1:=fun a v _=>lb k a=true→VR ρ ⟨D.imm,D.lad.take k⟩ a v) (motive_2:=fun a v _=>lbs k a=true→VRs ρ ⟨D.imm,D.lad.take k⟩ a v) (motive_3:=fun es ns a _=>lbs k a=true→FRs ρ ⟨D.imm,D.lad.take k⟩ es ns a)
  (fun _=>.none) (fun b _=>.bool b) (fun c _=>.bexp c) (fun e t _=>.int e t) (fun s t _=>.str s t) (fun s t _=>.slen s t) (fun m _ ih h=>.tup m (ih (by simpa only [lb] using h))) (fun m d _ ih h=>.inst m d (ih (by simpa only [lb] using h)))
  (fun e h=>.loc (lad_cut e (by simpa only [lb] using h))) (fun a _=>.top a) (fun b _=>.bi b) (fun o _ e _=>.opq o e) (fun m _=>.rng m) (fun v _=>.val v)
  (fun _=>.nil) (fun _ _ x y h=>have h:=lbs_cons h;.cons (x h.1) (y h.2)) (fun _=>.nil) (fun e q _ _ x y h=>have h:=lbs_cons h;.cons e q (x h.1) (y h.2)) V
theorem VRs.cut {ρ:Rho}{D:Led}{k:Nat}{a:List AV}{v:List Value} (V:VRs ρ D a v):lbs k a=true→VRs ρ ⟨D.imm,D.lad.take k⟩ a v:=by
 induction a generalizing v with
 | nil=>have Y:=V.nilI;clear V;subst Y;exact fun _=>.nil
 | cons a l ih=>refine e23 V.consI ?_;clear V;intro v r x y Y;subst Y;exact fun h=>have h:=lbs_cons h;.cons (x.cut h.1) (ih y h.2)
noncomputable def lstLb (k:Nat):List (List AV)→Bool
 | []=>true
 | l::r=>lbs k l&&lstLb k r
theorem LsR.cut {ρ:Rho}{D:Led}{k j:Nat}{P:List (Addr×Obj)}{ls:List (List AV)} (V:LsR ρ D P ls):lstLb k (ls.take j)=true→LsR ρ ⟨D.imm,D.lad.take k⟩ (P.take j) (ls.take j):=by
 induction V generalizing j with
 | nil=>intro _;rw [List.take_nil,List.take_nil];exact .nil
 | cons x y ih =>
  intro h
  cases j with
  | zero=>exact .nil
  | succ j =>
   have h:=Bool.and_eq_true_iff.mp (show (lbs k _&&lstLb k _)=true from h)
   exact .cons (x.cut h.1) (ih h.2)
section
variable {ρ ρ':Rho}{X:FX}{D D':Led}{st:St}{s:Shared}{l l':Locs}{ls ls':List (List AV)}
theorem Inv.cut {k:Nat} (I:Inv ρ X D ⟨l,ls⟩ s) (h1:locsLb k l=true) (h2:lstLb k (ls.take k)=true):Inv ρ X ⟨D.imm,D.lad.take k⟩ ⟨l,ls.take k⟩ s:=by
 refine e21 (I) ?_;try clear I;intro m P J
 refine ⟨m,P.take k,J.F,fun p hp=>J.N p ?_,fun x a e=>?_,J.ls.cut h2,?_,J.nd.sublist (List.take_sublist k _),fun p hp ha=>J.dj p hp (List.mem_of_mem_take ha),J.fd⟩
 ·rcases zA hp with q|q
  ·exact zL _ (List.mem_of_mem_take q)
  ·exact zR _ q
 ·refine e12 (J.loc x a e) ?_;intro v g1 g2
  (exact (i12 v g1 (g2.cut (locsLb_ok h1 x a e))))
 ·rw [List.map_take,J.ad]
theorem Inv.lad_len (I:Inv ρ X D st s):D.lad.length=st.lst.length:=by
 refine e21 (I) ?_;try clear I;intro m P J
 rw [← J.ls.length,← J.ad,List.length_map]
theorem Led.le.cut {k:Nat} (le:D.le D') (h:D.lad.length≤k):D.le ⟨D'.imm,D'.lad.take k⟩:=⟨le.imm,fun i a e=>by
 have hi:=(List.getElem?_eq_some_iff.mp e).1
 rw [List.getElem?_take,if_pos (by (exact Nat.le_trans (by assumption) (by assumption)))]
 exact le.lad i a e⟩
noncomputable def AVto (ρ ρ':Rho) (a b:AV):Prop:=∀ D v,VR ρ D a v→VR ρ' D b v
inductive AVsTo (ρ ρ':Rho):List AV→List AV→Prop
 | nil:AVsTo ρ ρ' [] []
 | cons {a b:AV}{l r:List AV}:AVto ρ ρ' a b→AVsTo ρ ρ' l r→AVsTo ρ ρ' (a::l) (b::r)
theorem AVto.int {a b:IE} (h:a.den ρ=b.den ρ'):AVto ρ ρ' (.int a) (.int b):=fun D v V=>by cases V;rw [h];exact .int _ _
theorem AVto.str {a b:SE} (h:a.den ρ=b.den ρ'):AVto ρ ρ' (.str a) (.str b):=fun D v V=>by cases V;rw [h];exact .str _ _
theorem AVto.none:AVto ρ ρ' .none .none:=fun D v V=>by (have Y:=V.noneI;clear V;subst Y);exact .none
theorem AVto.loc {i:Nat}:AVto ρ ρ' (.loc i) (.loc i):=fun D v V=>by refine e12 V.locI ?_;clear V;intro a e Y;subst Y;exact .loc e
theorem AVto.val {u:Value}:AVto ρ ρ' (.val u) (.val u):=fun D v V=>by (have Y:=V.valI;clear V;subst Y);exact .val _
theorem AVsTo.vrs {D:Led}{l r:List AV} (t:AVsTo ρ ρ' l r):∀ {vs:List Value},VRs ρ D l vs→VRs ρ' D r vs:=by
 induction t with
 | nil=>intro vs V;have Y:=V.nilI;clear V;subst Y;exact .nil
 | cons a t ih=>intro vs V;refine e23 V.consI ?_;clear V;intro v r' x y Y;subst Y;exact .cons (a _ _ x) (ih y)
theorem AVsTo.frs {D:Led}{es:List DictEntry}{l r:List AV} (t:AVsTo ρ ρ' l r):∀ {ns:List (List Nat)},FRs ρ D es ns l→FRs ρ' D es ns r:=by
 induction t with
 | nil=>intro ns f;cases f;exact .nil
 | cons a t ih=>intro ns f;cases f with|cons e q x y=>exact .cons e q (a _ _ x) (ih y)
theorem AVto.tup {l r:List AV} (h:AVsTo ρ ρ' l r):AVto ρ ρ' (.tup l) (.tup r):=fun D v V=>by cases V with|tup m y=>exact .tup m (h.vrs y)
theorem AVto.inst {C:Nat}{ns:List (List Nat)}{l r:List AV} (h:AVsTo ρ ρ' l r):AVto ρ ρ' (.inst C ns l) (.inst C ns r):=fun D v V=>by cases V with|inst m d y=>exact .inst m d (h.frs y)
inductive LsTo (ρ ρ':Rho):List (List AV)→List (List AV)→Prop
 | nil:LsTo ρ ρ' [] []
 | cons {l r:List AV}{L R:List (List AV)}:AVsTo ρ ρ' l r→LsTo ρ ρ' L R→LsTo ρ ρ' (l::L) (r::R)
theorem LsTo.lsr {ls ls':List (List AV)} (t:LsTo ρ ρ' ls ls'):∀ {P:List (Addr×Obj)},LsR ρ D P ls→LsR ρ' D P ls':=by
 induction t with
 | nil=>intro P V;cases V;exact .nil
 | cons a t ih=>intro P V;cases V with|cons x y=>exact .cons (a.vrs x) (ih y)
theorem Inv.rho (I:Inv ρ X D ⟨l,ls⟩ s) (h:∀ x b,lkL l' x=some b→∃ a,lkL l x=some a∧AVto ρ ρ' a b) (g:LsTo ρ ρ' ls ls'):Inv ρ' X D ⟨l',ls'⟩ s:=by
 refine e21 (I) ?_;try clear I;intro m P J
 exact ⟨m,P,J.F,J.N,fun x b e=>(h x b e).elim fun a ha=>(J.loc x a ha.1).elim fun v hv=>⟨v,hv.1,ha.2 _ _ hv.2⟩,g.lsr J.ls,J.ad,J.nd,J.dj,J.fd⟩
theorem AVto.refl (a:AV):AVto ρ ρ a a:=fun _ _ V=>V
theorem AVsTo.refl:∀ l:List AV,AVsTo ρ ρ l l
 | []=>.nil
 | a::l=>.cons (.refl a) (.refl l)
theorem LsTo.refl:∀ l:List (List AV),LsTo ρ ρ l l
 | []=>.nil
 | a::l=>.cons (.refl a) (.refl l)
theorem Inv.relst (I:Inv ρ X D ⟨l,ls⟩ s) (g:LsTo ρ ρ ls ls'):Inv ρ X D ⟨l,ls'⟩ s:=I.rho (fun x b e=>⟨b,e,.refl b⟩) g
theorem lkL_self {x:List Nat}{b:AV} (e:lkL l x=some b):∃ a,lkL l x=some a∧AVto ρ ρ a b:=⟨b,e,.refl b⟩
end
end
section
noncomputable def wv:IE:=.var 0 (-2147483648) 2147483647
noncomputable def rnE:SE:=.svar 0 8 .nil
noncomputable def xT (t:Bool):SE:=match t with
 | true=>.lit tableT .nil
 | false=>.nil
noncomputable def gT (t:Bool):SE:=match t with
 | true=>.lit fsT .nil
 | false=>.nil
noncomputable def regV (kind:List Nat) (size:Int):AV:=.inst 174 ns174 [.str (.lit [114,101,103] .nil),.inst 600 ns600 [.str rnE,.str (.lit kind .nil),.int (.var 2 0 15),.int (.lit size)]]
noncomputable def sh0 (k:Int) (x:Bool):AV:=insA (jT k) [relA wv (xT x)] .nil
noncomputable def sh1 (k:Int) (g x:Bool):AV:=insA (kT k) [memA ripA .none 1 wv 64 (gT g) (xT x)] .nil
noncomputable def sh2 (p:Int) (g x:Bool):AV:=insA [97,100,100] [memA ripA .none 1 wv 64 (gT g) (xT x),immA (.var 1 (-50) 49)] (lkE p)
noncomputable def sh3 (g x:Bool):AV:=insA [109,111,118,113] [regV xmN 128,memA ripA .none 1 wv 64 (gT g) (xT x)] .nil
noncomputable def sh4 (b:Int) (g x:Bool):AV:=insA [109,111,118] [regV gpN 32,memA (bsA b) (rgA [114,99,120] 1) 4 wv 32 (gT g) (xT x)] .nil
noncomputable def sh5 (k r:Int):AV:=insA (rT k) [] (rpE r)
inductive Shape:AV→Prop
 | s0 (k:Int) (x:Bool):0≤k→k<5→Shape (sh0 k x)
 | s1 (k:Int) (g x:Bool):0≤k→k<3→Shape (sh1 k g x)
 | s2 (p:Int) (g x:Bool):0≤p→p<2→Shape (sh2 p g x)
 | s3 (g x:Bool):Shape (sh3 g x)
 | s4 (b:Int) (g x:Bool):0≤b→b<3→Shape (sh4 b g x)
 | s5 (k r:Int):0≤k→k<3→0≤r→r<2→Shape (sh5 k r)
noncomputable def regNames:List (List Nat):=xmT++gpT
noncomputable abbrev Rho.at_ (ρ:Rho) (i:Nat→Int) (sv:Nat→List Nat):Rho:=⟨i,ρ.f,sv,ρ.o⟩
noncomputable def LineV (ρ:Rho) (e:Int) (D:Led) (v:Value):Prop:=∃ a i sv,Shape a∧i 9=e∧sv 0∈regNames∧VR (ρ.at_ i sv) D a v
theorem LineV.mono {ρ:Rho}{e:Int}{D D':Led}{v:Value} (le:D.le D') (h:LineV ρ e D v):LineV ρ e D' v:=by
 refine e34 (h) ?_;try clear h;intro a i sv h1 h2 h3 h4
 (exact (i34 a i sv h1 h2 h3 (h4.mono le)))
section
variable {w:World}{mean:ExcName→Option Value}{mg mb:Str→Option Value}{n:Nat}{ρ:Rho}{X:FX}{D:Led}{l l':Locs}{items:List AV}{s:Shared}
theorem ln_next {i:Nat}{e e':IE}{rest:List Stmt}{Q:Flow→Shared→Prop} (hrun:nextL (lnR ⟨l,ls2 e items⟩ i)=some (l',ls2 e' items)) (hl:locsLb 2 l'=true) (hit:lbs 2 items=true) (hX:X.Ok w mean mg mb ρ) (hr:Room X 132) (hcs:X.cs=lnC) (I:Inv ρ X D ⟨l,ls2 e items⟩ s)
  (h:∀ D' s',D.le D'→Inv ρ X D' ⟨l',ls2 e' items⟩ s'→Same s s'→wpAny (model pw w) X.A (execs rest X.env) Q F0 s'):wpAny (model pw w) X.A (execs ([lnS i]++rest) X.env) Q F0 s:=by
 unfold nextL at hrun
 split at hrun
 ·rename_i st hst
  injection hrun with hrun
  injection hrun with h1 htk
  subst h1
  refine execs_app (exs_two (m:=60) (T0_all w mean mg mb) hX hr hcs hst I fun D' s' le I' sm=>?_)
  have I':Inv ρ X D' ⟨st.loc,st.lst⟩ s':=I'
  have hlen:D.lad.length=2:=I.lad_len
  have J:=I'.cut (k:=2) hl (by rw [htk];show (lbs 2 [.int e']&&(lbs 2 items&&true))=true;rw [hit];rfl)
  rw [htk] at J
  exact h _ s' (le.cut (by lia)) J sm
 ·exact xNS hrun
theorem ln_ret {i:Nat}{e e':IE}{rest:List Stmt}{av:AV}{Q:Flow→Shared→Prop} (hrun:retL (lnR ⟨l,ls2 e items⟩ i)=some (av,ls2 e' items)) (hav:lb 2 av=true) (hit:lbs 2 items=true) (hX:X.Ok w mean mg mb ρ) (hr:Room X 132) (hcs:X.cs=lnC) (I:Inv ρ X D ⟨l,ls2 e items⟩ s)
  (h:∀ D' s' v,D.le D'→Inv ρ X D' ⟨[],ls2 e' items⟩ s'→VR ρ D' av v→Same s s'→Q (.ret v) s'):wpAny (model pw w) X.A (execs ([lnS i]++rest) X.env) Q F0 s:=by
 unfold retL at hrun
 split at hrun
 ·rename_i v st hst
  injection hrun with hrun
  injection hrun with h1 htk
  subst h1
  refine execs_app ((recs_ok (T0_all w mean mg mb) 60).2.2.1 _ _ _ [] _ hst ρ X D s _ hcs hX hr I fun D' fl s' le fr sm=>?_)
  refine e13 (fr) ?_;try clear fr;intro v Y1 V I';subst Y1
  have I':Inv ρ X D' ⟨st.loc,st.lst⟩ s':=I'
  have hlen:D.lad.length=2:=I.lad_len
  have J:=(I'.reloc (l':=[]) .nil).cut (k:=2) rfl (by rw [htk];show (lbs 2 [.int e']&&(lbs 2 items&&true))=true;rw [hit];rfl)
  rw [htk] at J
  exact h _ s' v (le.cut (by lia)) J (V.cut hav) sm
 ·exact xNS hrun
theorem draw {N:Int} (I:Inv ρ X D ⟨l,ls2 (.ext N) items⟩ s) (b:IE) (hb:b.den ρ=N):Inv ρ X D ⟨l,ls2 b items⟩ s :=
 I.relst (.cons (.cons (AVto.int hb.symm) .nil) (.cons (.refl items) .nil))
theorem dr_den {N m:Int}:(dr m (N % m) (N / m)).den ρ=N:=by
 show N / m*m+N % m=N
 rw [Int.mul_comm];exact Int.mul_ediv_add_emod N m
theorem var_den {k:Nat}{lo hi:Int} (h1:lo≤ρ.i k) (h2:ρ.i k≤hi):(IE.var k lo hi).den ρ=ρ.i k:=extb_den (ρ:=ρ) h1 h2
noncomputable def mkI (W0 im rg e:Int):Nat→Int
 | 0=>W0
 | 1=>im
 | 2=>rg
 | _=>e
theorem nm_x {r:Int}:nmE r=xT (decide (r=2)):=by
 unfold nmE
 by_cases q:r=2
 ·rw [if_pos q,decide_eq_true q];rfl
 ·rw [if_neg q,decide_eq_false q];rfl
theorem sg_x {r:Int}:sgE r=gT (decide (r=2)):=by
 unfold sgE
 by_cases q:r=2
 ·rw [if_pos q,decide_eq_true q];rfl
 ·rw [if_neg q,decide_eq_false q];rfl
theorem tT_to {ρ':Rho}{t:Bool}:AVto ρ ρ' (.str (xT t)) (.str (xT t)):=by cases t <;> exact AVto.str rfl
theorem gT_to {ρ':Rho}{t:Bool}:AVto ρ ρ' (.str (gT t)) (.str (gT t)):=by cases t <;> exact AVto.str rfl
theorem bs_to {ρ':Rho}:∀ r:Int,0≤r→r<3→AVto ρ ρ' (bsA r) (bsA r):=by
 refine all3 ⟨AVto.none,?_,?_⟩
 all_goals (refine AVto.inst ?_;repeat (first|exact AVsTo.nil|exact AVto.str rfl|exact AVto.int rfl|refine AVsTo.cons ?_ ?_))
theorem mem_to {ρ':Rho}{b i:AV}{sc sz:Int}{W:IE}{g x:Bool} (hb:AVto ρ ρ' b b) (hi:AVto ρ ρ' i i) (hW:W.den ρ=wv.den ρ'):AVto ρ ρ' (memA b i sc W sz (gT g) (xT x)) (memA b i sc wv sz (gT g) (xT x)) :=
 AVto.inst (.cons (AVto.str rfl) (.cons hb (.cons hi (.cons (AVto.int rfl) (.cons (AVto.int hW) (.cons (AVto.int rfl) (.cons gT_to (.cons tT_to .nil))))))))
theorem rip_to {ρ':Rho}:AVto ρ ρ' ripA ripA:=AVto.inst (.cons (AVto.str rfl) (.cons (AVto.str rfl) (.cons (AVto.int rfl) (.cons (AVto.int rfl) .nil))))
theorem AVto.use {ρ':Rho}{a b:AV}{v:Value} (V:VR ρ D a v) (h:AVto ρ ρ' a b):VR ρ' D b v:=h D v V
theorem ins_to {ρ':Rho}{n:List Nat}{l l':List AV}{p:SE} (hl:AVsTo ρ ρ' l l') (hp:AVto ρ ρ' (.str p) (.str p)):AVto ρ ρ' (insA n l p) (insA n l' p):=AVto.inst (.cons (AVto.str rfl) (.cons (AVto.tup hl) (.cons hp .nil)))
theorem wOut_in {a b c r:Int} (hr:0≤r∧r<3):-2147483648≤(wOut a b c r).den ρ∧(wOut a b c r).den ρ≤2147483647:=by
 have ha:=IE.bd_ok ρ (.extb a 0 63) (l:=0) (h:=63) rfl
 have hb:=IE.bd_ok ρ (.extb b 0 2) (l:=0) (h:=2) rfl
 have hc:=IE.bd_ok ρ (.extb c 0 2) (l:=0) (h:=2) rfl
 unfold wOut
 split
 ·show -2147483648≤(IE.extb a 0 63).den ρ-32∧(IE.extb a 0 63).den ρ-32≤_;lia
 ·split
  ·show -2147483648≤2147483647-(IE.extb b 0 2).den ρ∧2147483647-(IE.extb b 0 2).den ρ≤_;lia
  ·show -2147483648≤-2147483648+(IE.extb c 0 2).den ρ∧-2147483648+(IE.extb c 0 2).den ρ≤_;lia
theorem reg_to {ρ':Rho}{nm kind:List Nat}{k size:Int} (h1:ρ'.s 0=nm) (h2:nm.length≤8) (h3:ρ'.i 2=k) (h4:0≤k∧k<16):AVto ρ ρ' (regA nm kind k size) (regV kind size):=by
 refine AVto.inst (.cons (AVto.str rfl) (.cons (AVto.inst (.cons (AVto.str ?_) (.cons (AVto.str rfl) (.cons (AVto.int ?_) (.cons (AVto.int rfl) .nil))))) .nil))
 ·show nm++[]=(ρ'.s 0).take 8++[]
  rw [h1,zT h2]
 ·rw [var_den (by lia) (by lia),h3];rfl
theorem names_ok:∀ k:Int,0≤k→k<16→(xmT.getD k.toNat []∈regNames∧(xmT.getD k.toNat []).length≤8)∧(gpT.getD k.toNat []∈regNames∧(gpT.getD k.toNat []).length≤8):=by
 refine all16 ⟨⟨?_,?_,?_,?_,?_⟩,⟨?_,?_,?_,?_,?_,?_⟩,?_,?_,?_,?_,?_⟩ <;> (exact (i03 (⟨by decide,by decide⟩) (by decide) (by decide)))
theorem all_in {P:Int→Prop}{m:Int}{N:Int} (hm:0<m) (h:∀ k:Int,0≤k→k<m→P k):P (N % m):=h _ (Int.emod_nonneg N (by (exact Int.ne_of_gt (by assumption)))) (Int.emod_lt_of_pos N hm)
end
end
section
section
variable {w:World}{mean:ExcName→Option Value}{mg mb:Str→Option Value}{n:Nat}{ρ:Rho}{X:FX}{D:Led}{loc:Locs}{items:List AV}{s:Shared}
theorem lb_rip:lb 2 ripA=true:=rfl
theorem lb_bs:∀ r:Int,0≤r→r<3→lb 2 (bsA r)=true:=by
 refine all3 ⟨rfl,rfl,rfl⟩
theorem lb_ins {nm:List Nat}{l:List AV}{p:SE} (h:lbs 2 l=true):lb 2 (insA nm l p)=true:=by
 show (true&&(lb 2 (.tup l)&&(true&&true)))=true
 simp only [lb,h,Bool.true_and,Bool.and_true]
theorem lb_mem {b i:AV}{sc sz:Int}{W:IE}{g x:SE} (hb:lb 2 b=true) (hi:lb 2 i=true):lb 2 (memA b i sc W sz g x)=true:=by
 simp only [memA,lb,lbs,hb,hi,Bool.true_and,Bool.and_true]
theorem line_ok (hit:lbs 2 items=true) {N:Int}{fv bv:Value}{Q:Value→Shared→Prop} (e:Int) (hX:X.Ok w mean mg mb ρ) (hr:Room X 133) (I:Inv ρ X D ⟨loc,ls2 (.ext N) items⟩ s) (hf:VR ρ D (.top 674) fv) (hb:VR ρ D (.loc 0) bv)
  (h:∀ N' D' s' v,D.le D'→Inv ρ X D' ⟨loc,ls2 (.ext N') items⟩ s'→LineV ρ e D' v→Same s s'→Q v s'):wpAny (model pw w) X.A (call fv [bv]) Q F0 s:=by
 refine enter_ok (n:=132) (fn674 w) (args:=[.loc 0]) (l:=wl0) (by rw [args674];rfl) hX hr I hf (.cons hb .nil) (fun D' lst' v=>(∃ N',lst'=ls2 (.ext N') items)∧LineV ρ e D' v)
  (fun X' hcs hhx hfx hX' hr' s₁ I₁ sm₁=>?_) (fun D' lst' v s' le I' hp sm=>by obtain ⟨⟨N',rfl⟩,V⟩:=hp;exact h N' D' s' v le I' V sm)
 have hcs':X'.cs=lnC:=hcs
 rw [ln_body]
 refine wpAny_hide fun Qp hQp=>?_
 refine ln_next (all_in (N:=N) (by decide) (ln0 (N / 6) items)) rfl hit hX' hr' hcs' (draw I₁ _ dr_den) fun D₂ s₂ le₂ I₂ sm₂=>?_
 generalize N / 6=N₂ at I₂ ⊢
 have hw0:0≤N % 6:=Int.emod_nonneg N (by decide)
 have hw1:N % 6<6:=Int.emod_lt_of_pos N (by decide)
 generalize N % 6=wy at hw0 hw1 I₂ ⊢
 refine ln_next (all_in (N:=N₂) (by decide) (ln1 (N₂ / 3) wy items)) rfl hit hX' hr' hcs' (draw I₂ _ dr_den) fun D₃ s₃ le₃ I₃ sm₃=>?_
 rw [nm_x] at I₃
 generalize N₂ / 3=N₃ at I₃ ⊢
 generalize decide (N₂ % 3=2)=x at I₃ ⊢
 have hbag:(wBag (N₃ % 64) (N₃ / 64 % 3) (N₃ / 64 / 3 % 3) (N₃ / 64 / 3 / 3 % 3) (N₃ / 64 / 3 / 3 / 3)).den ρ=N₃:=by
  have e1:(IE.extb (N₃ % 64) 0 63).den ρ=N₃ % 64:=extb_den (Int.emod_nonneg _ (by decide)) (by have:=Int.emod_lt_of_pos N₃ (show (0:Int)<64 by decide);lia)
  have e2:(IE.extb (N₃ / 64 % 3) 0 2).den ρ=N₃ / 64 % 3:=extb_den (Int.emod_nonneg _ (by decide)) (by have:=Int.emod_lt_of_pos (N₃ / 64) (show (0:Int)<3 by decide);lia)
  have e3:(IE.extb (N₃ / 64 / 3 % 3) 0 2).den ρ=N₃ / 64 / 3 % 3:=extb_den (Int.emod_nonneg _ (by decide)) (by have:=Int.emod_lt_of_pos (N₃ / 64 / 3) (show (0:Int)<3 by decide);lia)
  show (((N₃ / 64 / 3 / 3 / 3*3+N₃ / 64 / 3 / 3 % 3)*3+(IE.extb (N₃ / 64 / 3 % 3) 0 2).den ρ)*3+(IE.extb (N₃ / 64 % 3) 0 2).den ρ)*64+(IE.extb (N₃ % 64) 0 63).den ρ=N₃
  rw [e1,e2,e3];lia
 refine ln_next (all_in (N:=N₃ / 64 / 3 / 3) (by decide) (ln2 (N₃ / 64 / 3 / 3 / 3) wy (N₃ % 64) (N₃ / 64 % 3) (N₃ / 64 / 3 % 3) (xT x) items)) rfl hit hX' hr' hcs' (draw I₃ _ hbag) fun D₄ s₄ le₄ I₄ sm₄=>?_
 have hW:=wOut_in (ρ:=ρ) (a:=N₃ % 64) (b:=N₃ / 64 % 3) (c:=N₃ / 64 / 3 % 3) (r:=N₃ / 64 / 3 / 3 % 3) ⟨Int.emod_nonneg _ (by decide),Int.emod_lt_of_pos _ (by decide)⟩
 generalize wOut (N₃ % 64) (N₃ / 64 % 3) (N₃ / 64 / 3 % 3) (N₃ / 64 / 3 / 3 % 3)=W at hW I₄ ⊢
 generalize N₃ / 64 / 3 / 3 / 3=N₄ at I₄ ⊢
 have leA:=(le₂.trans le₃).trans le₄
 have smA:=((sm₁.trans sm₂).trans sm₃).trans sm₄
 have hwv:∀ im rg sv,W.den ρ=wv.den (ρ.at_ (mkI (W.den ρ) im rg e) sv):=fun im rg sv=>(var_den (ρ:=ρ.at_ (mkI (W.den ρ) im rg e) sv) (k:=0) (lo:=-2147483648) (hi:=2147483647) hW.1 hW.2).symm
 have hxm0:([120,109,109,48]:List Nat)∈regNames:=by decide
 clear hbag I₃ I₂ hb hf I I₁
 rcases Int.lt_or_eq_of_le hw0 with hw0|hw0
 case inr =>
  subst hw0
  refine ln_ret (all_in (N:=N₄) (by decide) (ln3r (N₄ / 5) W (xT x) items)) (lb_ins rfl) hit hX' hr' hcs' (draw I₄ _ dr_den) fun D₅ s₅ v le₅ I₅ V sm₅=>?_
  refine hQp _ _ ⟨v,D₅,_,rfl,leA.trans le₅,I₅,smA.trans sm₅,⟨_,rfl⟩,sh0 (N₄ % 5) x,mkI (W.den ρ) 0 0 e,fun _=>[120,109,109,48],.s0 _ _ (Int.emod_nonneg _ (by decide)) (Int.emod_lt_of_pos _ (by decide)),rfl,hxm0,?_⟩
  refine AVto.use V ?_
  exact ins_to (ρ:=ρ) (.cons (AVto.inst (.cons (AVto.str rfl) (.cons (AVto.int (hwv _ _ _)) (.cons tT_to .nil)))) .nil) (AVto.str rfl)
 have h3n:=ln3n N₄ W (xT x) items (wy-1) (by (exact Int.sub_nonneg_of_le (by assumption))) (by lia)
 rw [show wy-1+1=wy by lia] at h3n
 refine ln_next h3n rfl hit hX' hr' hcs' I₄ fun D₅ s₅ le₅ I₅ sm₅=>?_
 refine ln_next (all_in (N:=N₄) (by decide) (ln4 (N₄ / 3) wy W (xT x) items)) rfl hit hX' hr' hcs' (draw I₅ _ dr_den) fun D₆ s₆ le₆ I₆ sm₆=>?_
 rw [sg_x] at I₆
 generalize N₄ / 3=N₆ at I₆ ⊢
 generalize decide (N₄ % 3=2)=g at I₆ ⊢
 refine ln_next (ln5 N₆ wy W (xT x) (gT g) items) rfl hit hX' hr' hcs' I₆ fun D₇ s₇ le₇ I₇ sm₇=>?_
 have leB:=((leA.trans le₅).trans le₆).trans le₇
 have smB:=((smA.trans sm₅).trans sm₆).trans sm₇
 clear I₄ I₅ I₆
 have hmem:∀ im rg sv,AVto ρ (ρ.at_ (mkI (W.den ρ) im rg e) sv) (memA ripA .none 1 W 64 (gT g) (xT x)) (memA ripA .none 1 wv 64 (gT g) (xT x)):=fun im rg sv=>mem_to rip_to AVto.none (hwv im rg sv)
 rcases Int.lt_or_eq_of_le (show 1≤wy by assumption) with hw2|hw2
 case inr =>
  subst hw2
  refine ln_ret (all_in (N:=N₆) (by decide) (ln6r (N₆ / 3) W (xT x) (gT g) items)) (lb_ins rfl) hit hX' hr' hcs' (draw I₇ _ dr_den) fun D₈ s₈ v le₈ I₈ V sm₈=>?_
  refine hQp _ _ ⟨v,D₈,_,rfl,leB.trans le₈,I₈,smB.trans sm₈,⟨_,rfl⟩,sh1 (N₆ % 3) g x,mkI (W.den ρ) 0 0 e,fun _=>[120,109,109,48],.s1 _ _ _ (Int.emod_nonneg _ (by decide)) (Int.emod_lt_of_pos _ (by decide)),rfl,hxm0,?_⟩
  refine AVto.use V ?_
  exact ins_to (ρ:=ρ) (.cons (hmem _ _ _) .nil) (AVto.str rfl)
 have h6n:=ln6n N₆ W (xT x) (gT g) items (wy-1) (by (exact Int.sub_nonneg_of_le (by assumption))) (by lia) (by lia)
 rw [show wy-1+1=wy by lia] at h6n
 refine ln_next h6n rfl hit hX' hr' hcs' I₇ fun D₈ s₈ le₈ I₈ sm₈=>?_
 rcases Int.lt_or_eq_of_le (show 2≤wy by assumption) with hw3|hw3
 case inr =>
  subst hw3
  have e1:(IE.extb (N₆ % 100) 0 99).den ρ=N₆ % 100:=extb_den (Int.emod_nonneg _ (by decide)) (by have:=Int.emod_lt_of_pos N₆ (show (0:Int)<100 by decide);lia)
  have hb2:(IE.cons 100 (.extb (N₆ % 100) 0 99) (dr 2 (N₆ / 100 % 2) (N₆ / 100 / 2))).den ρ=N₆:=by
   show (N₆ / 100 / 2*2+N₆ / 100 % 2)*100+(IE.extb (N₆ % 100) 0 99).den ρ=N₆
   rw [e1];lia
  refine ln_ret (all_in (N:=N₆ / 100) (by decide) (ln7r (N₆ / 100 / 2) (N₆ % 100) W (xT x) (gT g) items)) (lb_ins rfl) hit hX' hr' hcs' (draw I₈ _ hb2) fun D₉ s₉ v le₉ I₉ V sm₉=>?_
  refine hQp _ _ ⟨v,D₉,_,rfl,(leB.trans le₈).trans le₉,I₉,(smB.trans sm₈).trans sm₉,⟨_,rfl⟩,sh2 (N₆ / 100 % 2) g x,mkI (W.den ρ) (N₆ % 100-50) 0 e,fun _=>[120,109,109,48],.s2 _ _ _ (Int.emod_nonneg _ (by decide)) (Int.emod_lt_of_pos _ (by decide)),rfl,hxm0,?_⟩
  refine AVto.use V ?_
  refine ins_to (ρ:=ρ) (.cons (hmem _ _ _) (.cons (AVto.inst (.cons (AVto.str rfl) (.cons (AVto.int ?_) (.cons (AVto.str rfl) .nil)))) .nil)) ?_
  ·have:=Int.emod_nonneg N₆ (show (100:Int)≠0 by decide)
   have:=Int.emod_lt_of_pos N₆ (show (0:Int)<100 by decide)
   rw [var_den (by show -50≤N₆ % 100-50;lia) (by show N₆ % 100-50≤49;lia)]
   show (IE.extb (N₆ % 100) 0 99).den ρ-50=N₆ % 100-50
   rw [e1]
  ·unfold lkE;split <;> exact AVto.str rfl
 have h7n:=ln7n N₆ W (xT x) (gT g) items (wy-3) (by (exact Int.sub_nonneg_of_le (by assumption))) (by lia)
 rw [show wy-3+3=wy by lia] at h7n
 refine ln_next h7n rfl hit hX' hr' hcs' I₈ fun D₉ s₉ le₉ I₉ sm₉=>?_
 have leC:=(leB.trans le₈).trans le₉
 have smC:=(smB.trans sm₈).trans sm₉
 clear I₇ I₈
 rcases Int.lt_or_eq_of_le (show 3≤wy by assumption) with hw4|hw4
 case inr =>
  subst hw4
  refine ln_ret (all_in (N:=N₆) (by decide) (ln8r (N₆ / 16) W (xT x) (gT g) items)) (lb_ins rfl) hit hX' hr' hcs' (draw I₉ _ dr_den) fun D₁₀ s₁₀ v le₁₀ I₁₀ V sm₁₀=>?_
  have hk0:=Int.emod_nonneg N₆ (show (16:Int)≠0 by decide)
  have hk1:=Int.emod_lt_of_pos N₆ (show (0:Int)<16 by decide)
  obtain ⟨⟨n1,n2⟩,_⟩:=names_ok _ hk0 hk1
  refine hQp _ _ ⟨v,D₁₀,_,rfl,leC.trans le₁₀,I₁₀,smC.trans sm₁₀,⟨_,rfl⟩,sh3 g x,mkI (W.den ρ) 0 (N₆ % 16) e,fun _=>xmT.getD (N₆ % 16).toNat [],.s3 _ _,rfl,n1,?_⟩
  refine AVto.use V ?_
  exact ins_to (ρ:=ρ) (.cons (reg_to rfl n2 rfl ⟨hk0,hk1⟩) (.cons (hmem _ _ _) .nil)) (AVto.str rfl)
 have h8n:=ln8n N₆ W (xT x) (gT g) items (wy-4) (by (exact Int.sub_nonneg_of_le (by assumption))) (by lia)
 rw [show wy-4+4=wy by lia] at h8n
 refine ln_next h8n rfl hit hX' hr' hcs' I₉ fun D₁₀ s₁₀ le₁₀ I₁₀ sm₁₀=>?_
 have hr0:=Int.emod_nonneg N₆ (show (3:Int)≠0 by decide)
 have hr1:=Int.emod_lt_of_pos N₆ (show (0:Int)<3 by decide)
 refine ln_next (ln9 (N₆ / 3) wy W (xT x) (gT g) items (N₆ % 3) hr0 hr1) (by show (_&&(_&&(_&&(_&&(_&&(_&&(lb 2 (bsA (N₆ % 3))&&_)))))))=true;rw [lb_bs _ hr0 hr1];rfl) hit hX' hr' hcs' (draw I₁₀ _ dr_den) fun D₁₁ s₁₁ le₁₁ I₁₁ sm₁₁=>?_
 generalize N₆ / 3=N₇ at I₁₁ ⊢
 generalize N₆ % 3=r at hr0 hr1 I₁₁ ⊢
 have leD:=(leC.trans le₁₀).trans le₁₁
 have smD:=(smC.trans sm₁₀).trans sm₁₁
 clear I₉ I₁₀
 rcases Int.lt_or_eq_of_le (show 4≤wy by assumption) with hw5|hw5
 case inr =>
  subst hw5
  have hk0:=Int.emod_nonneg N₇ (show (16:Int)≠0 by decide)
  have hk1:=Int.emod_lt_of_pos N₇ (show (0:Int)<16 by decide)
  refine ln_ret (ln10r (N₇ / 16) W (xT x) (gT g) items r hr0 hr1 _ hk0 hk1) (lb_ins (by show (true&&(lb 2 (memA _ _ _ _ _ _ _)&&true))=true;rw [lb_mem (lb_bs _ hr0 hr1) rfl];rfl)) hit hX' hr' hcs' (draw I₁₁ _ dr_den) fun D₁₂ s₁₂ v le₁₂ I₁₂ V sm₁₂=>?_
  refine e03 (names_ok _ hk0 hk1) ?_;intro _ n1 n2
  refine hQp _ _ ⟨v,D₁₂,_,rfl,leD.trans le₁₂,I₁₂,smD.trans sm₁₂,⟨_,rfl⟩,sh4 r g x,mkI (W.den ρ) 0 (N₇ % 16) e,fun _=>gpT.getD (N₇ % 16).toNat [],.s4 _ _ _ hr0 hr1,rfl,n1,?_⟩
  refine AVto.use V ?_
  refine ins_to (ρ:=ρ) (.cons (reg_to rfl n2 rfl ⟨hk0,hk1⟩) (.cons (mem_to (bs_to _ hr0 hr1) ?_ (hwv _ _ _)) .nil)) (AVto.str rfl)
  exact AVto.inst (.cons (AVto.str rfl) (.cons (AVto.str rfl) (.cons (AVto.int rfl) (.cons (AVto.int rfl) .nil))))
 have hwy:wy=5:=by lia
 subst hwy
 refine ln_next (ln10n N₇ W (xT x) (gT g) (bsA r) items) (by show (_&&(_&&(_&&(_&&(_&&(_&&(lb 2 (bsA r)&&_)))))))=true;rw [lb_bs _ hr0 hr1];rfl) hit hX' hr' hcs' I₁₁ fun D₁₂ s₁₂ le₁₂ I₁₂ sm₁₂=>?_
 have hb5:(IE.cons 3 (.lit (N₇ % 3)) (dr 2 (N₇ / 3 % 2) (N₇ / 3 / 2))).den ρ=N₇:=by
  show (N₇ / 3 / 2*2+N₇ / 3 % 2)*3+N₇ % 3=N₇
  lia
 have hfin:=ln11 (N₇ / 3 / 2) W (xT x) (gT g) (bsA r) items _ (Int.emod_nonneg N₇ (show (3:Int)≠0 by decide)) (Int.emod_lt_of_pos N₇ (by decide)) _ (Int.emod_nonneg (N₇ / 3) (show (2:Int)≠0 by decide)) (Int.emod_lt_of_pos (N₇ / 3) (by decide))
 refine ln_ret (rest:=[]) hfin (lb_ins rfl) hit hX' hr' hcs' (draw I₁₂ _ hb5) fun D₁₃ s₁₃ v le₁₃ I₁₃ V sm₁₃=>?_
 refine hQp _ _ ⟨v,D₁₃,_,rfl,(leD.trans le₁₂).trans le₁₃,I₁₃,(smD.trans sm₁₂).trans sm₁₃,⟨_,rfl⟩,sh5 (N₇ % 3) (N₇ / 3 % 2),mkI (W.den ρ) 0 0 e,fun _=>[120,109,109,48],.s5 _ _ (Int.emod_nonneg _ (by decide)) (Int.emod_lt_of_pos _ (by decide)) (Int.emod_nonneg _ (by decide)) (Int.emod_lt_of_pos _ (by decide)),rfl,hxm0,?_⟩
 refine AVto.use V ?_
 refine ins_to (ρ:=ρ) .nil ?_
 unfold rpE;split <;> exact AVto.str rfl
end
end
section
section
variable {T:Tabs}{w:World}{mean:ExcName→Option Value}{mg mb:Str→Option Value}{n o:Nat}{ρ ρ':Rho}{X:FX}{D:Led}{st:St}{l l' loc:Locs}{lst ls ls':List (List AV)}{s:Shared}
theorem Inv.rhoAt (I:Inv ρ X D ⟨l,ls⟩ s) (h:∀ x b,lkL l' x=some b→∃ a,lkL l x=some a∧∀ v,VR ρ D a v→VR ρ' D b v) (g:LsTo ρ ρ' ls ls'):Inv ρ' X D ⟨l',ls'⟩ s:=by
 refine e21 (I) ?_;try clear I;intro m P J
 exact ⟨m,P,J.F,J.N,fun x b e=>(h x b e).elim fun a ha=>(J.loc x a ha.1).elim fun v hv=>⟨v,hv.1,ha.2 _ hv.2⟩,g.lsr J.ls,J.ad,J.nd,J.dj,J.fd⟩
theorem zip_vals:∀ {ns:List (List Nat)}{args:List AV}{vs:List Value}{l':Locs},zipL ns args=some l'→VRs ρ' D args vs→∃ l,zipL ns (vs.map .val)=some l∧∀ x b,lkL l' x=some b→∃ a,lkL l x=some a∧∀ v,VR ρ D a v→VR ρ' D b v
 | [],[],_,_,e,.nil=>by (have Y0:=s1 e;try clear e;subst Y0);(exact (i12 ([]) rfl (fun _ _ h=>nomatch h)))
 | n::ns,a::args,v::vs,l',e,.cons V Vs=>by
  have e:(zipL ns args).map (fun r=>(n,a)::r)=some l':=e
  refine e12 (Option.map_eq_some_iff.mp e) ?_;intro r e1 Y2;subst Y2
  refine e12 (zip_vals e1 Vs) ?_;intro l e2 h
  refine (i12 ((n,.val v)::l) (by show (zipL ns (vs.map .val)).map _=_;rw [e2];rfl) (fun x b hb=>?_))
  rw [lkL_cons] at hb ⊢
  cases q:lnBeq n x with
  | true=>rw [q] at hb;(have Y0:=s1 hb;try clear hb;subst Y0);(exact (i12 (.val v) rfl (fun u U=>by cases U;exact V)))
  | false=>rw [q] at hb;exact h x b hb
 | [],_::_,_,_,e,_=>nomatch e
 | _::_,[],_,_,e,_=>nomatch e
theorem vals_vrs:∀ vs:List Value,VRs ρ D (vs.map .val) vs
 | []=>.nil
 | v::vs=>.cons (.val v) (vals_vrs vs)
theorem FX.Ok.re (hX:X.Ok w mean mg mb ρ) (h:HOk ρ' X.hx):X.Ok w mean mg mb ρ':=⟨hX.B,hX.K,hX.T,hX.k,hX.held,h⟩
theorem hide_run (HT:TabsAll w mean mg mb T o) {m a:Nat}{stm:Stmt} (hfn:FnOk w a (sArgs stm) (sBody stm) (sScope stm)) {args:List AV}{vs:List Value}{fv:Value}{av:AV}{Q:Value→Shared→Prop} (e2:zipL ((sArgs stm).args.map fun p=>p.arg.cps.toList) args=some l')
  (hrun:retV ((recs T m).exs (sScope stm) ⟨l',[]⟩ (sBody stm) [])=some av) (hav:lb 0 av=true) (hX:X.Ok w mean mg mb ρ) (hX':HOk ρ' X.hx) (hr:Room X (m+o+1)) (I:Inv ρ X D ⟨loc,lst⟩ s) (V:VR ρ D (.top a) fv) (Vs:VRs ρ' ⟨D.imm,[]⟩ args vs)
  (h:∀ D' v s',D.le D'→Inv ρ X D' ⟨loc,lst⟩ s'→VR ρ' ⟨D'.imm,[]⟩ av v→Same s s'→Q v s'):wpAny (model pw w) X.A (call fv vs) Q F0 s:=by
 refine e12 (zip_vals (ρ:=ρ) e2 Vs) ?_;intro l e3 hconv
 refine enter_hide (n:=m+o) hfn (args:=vs.map .val) (l:=l) e3 hX hr I V (fun imm _=>vals_vrs vs) (fun imm v=>VR ρ' ⟨imm,[]⟩ av v) (fun X' hcs hhx hXi hr' s₁ I₁ sm₁=>?_) (fun D' v s' le I' hp sm=>h D' v s' le I' hp sm)
 have I₂:Inv ρ' X' ⟨D.imm,[]⟩ ⟨l',[]⟩ s₁:=I₁.rhoAt hconv .nil
 refine e11 (retV_ok hrun) ?_;intro st hst
 have hXr:X'.Ok w mean mg mb ρ':=hXi.re (by rw [hhx];exact hX')
 refine (recs_ok HT m).2.2.1 _ _ _ [] _ hst ρ' X' ⟨D.imm,[]⟩ s₁ _ hcs hXr hr' I₂ fun D₃ fl s₃ le₃ fr sm₃=>?_
 refine e13 (fr) ?_;try clear fr;intro v Y1 V₃ I₃;subst Y1
 have I₃:Inv ρ' X' D₃ ⟨st.loc,st.lst⟩ s₃:=I₃
 have I₄:=(I₃.reloc (l':=[]) .nil).cut (k:=0) rfl rfl
 have I₅:Inv ρ X' ⟨D₃.imm,[]⟩ ⟨[],[]⟩ s₃:=by
  have:Inv ρ' X' ⟨D₃.imm,[]⟩ ⟨[],[]⟩ s₃:=by simpa using I₄
  exact this.rhoAt (fun x b e=>nomatch e) .nil
 (exact (i35 v (⟨D₃.imm,[]⟩) (⟨[],[]⟩) rfl (⟨le₃.imm,fun _ _ e=>by simp at e⟩) I₅ (sm₁.trans sm₃) (by have:=V₃.cut hav;simpa using this)))
end
noncomputable def lineN:List Nat:=[108,105,110,101]
noncomputable def endN:List Nat:=[101,110,100]
noncomputable def syntaxN:List Nat:=[115,121,110,116,97,120]
noncomputable def instrN:List Nat:=[105,110,115,116,114,117,99,116,105,111,110]
noncomputable def syV (b:Bool):AV:=match b with
 | true=>intelV
 | false=>attV
theorem args702:((sArgs (stA 71)).args.map fun p=>p.arg.cps.toList)=[lineN,endN,symbolsN,syntaxN]:=by kernel_rfl
theorem args513:((sArgs (stA 45)).args.map fun p=>p.arg.cps.toList)=[instrN,syntaxN]:=by kernel_rfl
noncomputable def lineRun (a:AV) (b:Bool):Option AV:=retV ((recs T0 60).exs (sScope (stA 71)) ⟨[(lineN,a),(endN,endV),(symbolsN,.opq 0),(syntaxN,syV b)],[]⟩ (sBody (stA 71)) [])
noncomputable def oneRun (a:AV) (b:Bool):Option AV:=retV ((recs T0 60).exs (sScope (stA 45)) ⟨[(instrN,a),(syntaxN,syV b)],[]⟩ (sBody (stA 45)) [])
noncomputable def tdL:List Nat→Bool→Option Bool
 | [],p=>some p
 | c::l,p=>bif Nat.beq c 32 then (bif p then Option.none else tdL l true) else bif Nat.blt 32 c&&Nat.blt c 127 then tdL l false else Option.none
noncomputable def tdS:SE→Bool→Option Bool
 | .nil,p=>some p
 | .lit l r,p=>match tdL l p with
  | some q=>tdS r q
  | Option.none=>Option.none
 | .svar k n r,_=>bif Nat.beq k 0&&Nat.ble 8 n then tdS r false else Option.none
 | .fn f n _ r,_=>bif Nat.beq f 0&&Nat.ble 1 n then tdS r false else Option.none
 | .ite _ a b r,p=>match tdS a p,tdS b p with
  | some true,some true=>tdS r true
  | some false,some false=>tdS r false
  | _,_=>Option.none
 | _,_=>Option.none
noncomputable def okText (v:Option AV):Bool:=match v with
 | some (.str s)=>(match tdS s true with
  | some false=>Nat.ble s.bound 1000
  | _=>false)
 | _=>false
noncomputable def isTrueV (v:Option AV):Bool:=match v with
 | some (.bool true)=>true
 | _=>false
noncomputable def chk (a:AV):Bool:=isTrueV (lineRun a false)&&isTrueV (lineRun a true)&&okText (oneRun a false)&&okText (oneRun a true)
theorem chk_s5:∀ k:Int,0≤k→k<3→∀ r:Int,0≤r→r<2→chk (sh5 k r)=true:=by
 refine all3 ⟨?_,?_,?_⟩ <;> refine all2 ⟨?_,?_⟩ <;> kernel_rfl
theorem chk_s0:∀ x:Bool,∀ k:Int,0≤k→k<5→chk (sh0 k x)=true:=by
 intro x;cases x <;> refine all5 ⟨?_,?_,?_,?_,?_⟩ <;> kernel_rfl
theorem chk_s1:∀ g x:Bool,∀ k:Int,0≤k→k<3→chk (sh1 k g x)=true:=by
 intro g x;cases g <;> cases x <;> refine all3 ⟨?_,?_,?_⟩ <;> kernel_rfl
theorem chk_s2:∀ g x:Bool,∀ k:Int,0≤k→k<2→chk (sh2 k g x)=true:=by
 intro g x;cases g <;> cases x <;> refine all2 ⟨?_,?_⟩ <;> kernel_rfl
theorem chk_s3:∀ g x:Bool,chk (sh3 g x)=true:=by
 intro g x;cases g <;> cases x <;> kernel_rfl
theorem chk_s4:∀ g x:Bool,∀ k:Int,0≤k→k<3→chk (sh4 k g x)=true:=by
 intro g x;cases g <;> cases x <;> refine all3 ⟨?_,?_,?_⟩ <;> kernel_rfl
theorem chk_all {a:AV} (h:Shape a):chk a=true:=by
 cases h with
 | s0 k x h0 h1=>exact chk_s0 x k h0 h1
 | s1 k g x h0 h1=>exact chk_s1 g x k h0 h1
 | s2 k g x h0 h1=>exact chk_s2 g x k h0 h1
 | s3 g x=>exact chk_s3 g x
 | s4 k g x h0 h1=>exact chk_s4 g x k h0 h1
 | s5 k r h0 h1 h2 h3=>exact chk_s5 k h0 h1 r h2 h3
end
section
theorem tdL_app:∀ (a b:List Nat) (p:Bool),tdL (a++b) p=(tdL a p).bind (tdL b)
 | [],b,p=>rfl
 | c::a,b,p=>by
  show tdL (c::(a++b)) p=_
  unfold tdL
  cases Nat.beq c 32 with
  | true=>cases p <;> simp [tdL_app a b]
  | false=>cases (Nat.blt 32 c&&Nat.blt c 127) <;> simp [tdL_app a b]
theorem tdL_solid {l:List Nat} (h:∀ c∈l,32<c∧c<127) (hne:l≠[]):∀ p,tdL l p=some false:=by
 induction l with
 | nil=>exact absurd rfl hne
 | cons c l ih =>
  intro p
  refine e02 (h c (.head _)) ?_;intro h1 h2
  unfold tdL
  have e1:Nat.beq c 32=false:=by
   cases q:Nat.beq c 32 with
   | false=>rfl
   | true=>have:=zE q;lia
  have e2:(Nat.blt 32 c&&Nat.blt c 127)=true:=Bool.and_eq_true_iff.mpr ⟨Nat.ble_eq_true_of_le h1,Nat.ble_eq_true_of_le h2⟩
  rw [e1,e2,cond_false,cond_true]
  by_cases hl:l=[]
  ·subst hl;rfl
  ·exact ih (fun d hd=>h d (.tail _ hd)) hl false
theorem names_solid:∀ l∈regNames,(∀ c∈l,32<c∧c<127)∧l≠[]∧l.length≤8:=by decide
theorem hex_solid (e:Int):(∀ c∈hexL e,32<c∧c<127)∧hexL e≠[]:=by
 refine ⟨fun c hc=>?_,?_⟩
 ·have:=isHex_iff (hexL_hex e c hc);lia
 ·unfold hexL
  split
  ·simp
  ·exact (hexN_back _).2.2
theorem take_solid {l:List Nat} (h:(∀ c∈l,32<c∧c<127)∧l≠[]) {n:Nat} (hn:1≤n):(∀ c∈l.take n,32<c∧c<127)∧l.take n≠[]:=by
 refine ⟨fun c hc=>h.1 c (List.mem_of_mem_take hc),fun e=>h.2 ?_⟩
 cases l with
 | nil=>rfl
 | cons a l=>cases n with
  | zero=>lia
  | succ n=>simp at e
theorem tdS_ok {ρ:Rho} (h0:ρ.f 0=hexL) (hs:ρ.s 0∈regNames):∀ (s:SE) {p q:Bool},tdS s p=some q→tdL (s.den ρ) p=some q:=by
 intro s
 induction s with
 | nil=>intro p q h;exact h
 | lit l r ih =>
  intro p q h
  unfold tdS at h
  split at h
  ·rename_i x hx
   show tdL (l++r.den ρ) p=_
   rw [tdL_app,hx];exact ih h
  ·exact xNS h
 | svar k n r ih =>
  intro p q h
  unfold tdS at h
  cases hc:(Nat.beq k 0&&Nat.ble 8 n) with
  | false=>rw [hc] at h;exact xNS h
  | true =>
   rw [hc] at h
   have hc:=Bool.and_eq_true_iff.mp hc
   have hk:=zE hc.1;subst hk
   refine e03 (names_solid _ hs) ?_;intro n1 n2 n3
   show tdL ((ρ.s 0).take n++r.den ρ) p=_
   rw [zT (Nat.le_trans n3 (zB hc.2)),tdL_app,tdL_solid n1 n2]
   exact ih h
 | fn f n e r ih =>
  intro p q h
  unfold tdS at h
  cases hc:(Nat.beq f 0&&Nat.ble 1 n) with
  | false=>rw [hc] at h;exact xNS h
  | true =>
   rw [hc] at h
   have hc:=Bool.and_eq_true_iff.mp hc
   have hk:=zE hc.1;subst hk
   have:=take_solid (hex_solid (e.den ρ)) (zB hc.2)
   show tdL ((ρ.f 0 (e.den ρ)).take n++r.den ρ) p=_
   rw [h0,tdL_app,tdL_solid this.1 this.2]
   exact ih h
 | ite c a b r iha ihb ih =>
  intro p q h
  unfold tdS at h
  show tdL ((bif c.den ρ then a.den ρ else b.den ρ)++r.den ρ) p=_
  rw [tdL_app]
  split at h
  ·rename_i ha hb
   have:tdL (bif c.den ρ then a.den ρ else b.den ρ) p=some true:=by cases c.den ρ <;> first|exact ihb hb|exact iha ha
   rw [this];exact ih h
  ·rename_i ha hb
   have:tdL (bif c.den ρ then a.den ρ else b.den ρ) p=some false:=by cases c.den ρ <;> first|exact ihb hb|exact iha ha
   rw [this];exact ih h
  ·exact xNS h
 | ext l n r _=>intro p q h;exact xNS h
noncomputable def Tidy (l:List Nat):Prop:=tdL l true=some false
noncomputable abbrev LD:=AV×(Nat→Int)×(Nat→List Nat)
noncomputable abbrev LD.rho (ρ:Rho) (d:LD):Rho:=ρ.at_ d.2.1 d.2.2
noncomputable def LineAt (ρ:Rho) (e:Int) (D:Led) (v:Value) (d:LD):Prop:=Shape d.1∧d.2.1 9=e∧d.2.2 0∈regNames∧VR (d.rho ρ) D d.1 v
theorem LineV.at_ {ρ:Rho}{e:Int}{D:Led}{v:Value} (h:LineV ρ e D v):∃ d,LineAt ρ e D v d:=by
 refine e34 (h) ?_;try clear h;intro a i sv h1 h2 h3 h4
 (exact (i14 ((a,i,sv)) h1 h2 h3 h4))
theorem LineAt.mono {ρ:Rho}{e:Int}{D D':Led}{v:Value}{d:LD} (le:D.le D') (h:LineAt ρ e D v d):LineAt ρ e D' v d:=⟨h.1,h.2.1,h.2.2.1,h.2.2.2.mono le⟩
noncomputable def txOf (ρ:Rho) (d:LD) (b:Bool):List Nat:=match oneRun d.1 b with
 | some (.str s)=>s.den (d.rho ρ)
 | _=>[]
section
variable {w:World}{mean:ExcName→Option Value}{mg mb:Str→Option Value}{n:Nat}{ρ:Rho}{X:FX}{D:Led}{loc:Locs}{lst:List (List AV)}{s:Shared}{e:Int}{v:Value}{d:LD}
theorem shape_lb {a:AV} (h:Shape a):lb 0 a=true:=by
 cases h with
 | s0 k x _ _=>cases x <;> rfl
 | s1 k g x _ _=>cases g <;> cases x <;> rfl
 | s2 k g x _ _=>cases g <;> cases x <;> rfl
 | s3 g x=>cases g <;> cases x <;> rfl
 | s4 k g x h0 h1 =>
  revert k
  refine all3 ⟨?_,?_,?_⟩ <;> cases g <;> cases x <;> rfl
 | s5 k r _ _ _ _=>rfl
theorem VR.base {a:AV} (V:VR ρ D a v) (h:lb 0 a=true):VR ρ ⟨D.imm,[]⟩ a v:=by
 have:=V.cut h;simpa using this
theorem HOk.at_ {ρ:Rho}{hx:List (Addr×Obj)} (h:HOk ρ hx) (i:Nat→Int) (sv:Nat→List Nat):HOk (ρ.at_ i sv) hx:=h
noncomputable def syL (b:Bool):List Nat:=match b with
 | true=>[105,110,116,101,108]
 | false=>[97,116,116]
theorem sy_VR {b:Bool}{t:Tok}:VR ρ D (syV b) (.str (S (syL b)) t):=by
 cases b
 ·exact VR.str (.lit [97,116,116] .nil) t
 ·exact VR.str (.lit [105,110,116,101,108] .nil) t
theorem chk_parts {a:AV} (h:Shape a) (b:Bool):lineRun a b=some (.bool true)∧∃ s,oneRun a b=some (.str s)∧tdS s true=some false∧s.bound≤1000:=by
 have hc:=chk_all h
 unfold chk at hc
 simp only [Bool.and_eq_true] at hc
 obtain ⟨⟨⟨h1,h2⟩,h3⟩,h4⟩:=hc
 have key1:∀ v,isTrueV v=true→v=some (.bool true):=fun v hv=>by
  unfold isTrueV at hv
  split at hv
  ·rfl
  ·exact xFT hv
 have key2:∀ v,okText v=true→∃ s,v=some (.str s)∧tdS s true=some false∧s.bound≤1000:=fun v hv=>by
  unfold okText at hv
  split at hv
  ·rename_i s
   split at hv
   ·rename_i q;(exact (i13 s rfl q (zB hv)))
   ·exact xFT hv
  ·exact xFT hv
 cases b
 ·exact ⟨key1 _ h1,key2 _ h3⟩
 ·exact ⟨key1 _ h2,key2 _ h4⟩
theorem tx_tidy (hX:X.Ok w mean mg mb ρ) (h:LineAt ρ e D v d) (b:Bool):Tidy (txOf ρ d b)∧(txOf ρ d b).length≤1000:=by
 obtain ⟨_,s,h1,h2,h3⟩:=chk_parts h.1 b
 unfold txOf
 rw [h1]
 exact ⟨tdS_ok (ρ:=d.rho ρ) hX.sym.1 h.2.2.1 s h2,Nat.le_trans (SE.bound_ok _ s) h3⟩
theorem one_ok (hX:X.Ok w mean mg mb ρ) (hr:Room X 133) (I:Inv ρ X D ⟨loc,lst⟩ s) (h:LineAt ρ e D v d) {b:Bool}{fv:Value}{t:Tok}{Q:Value→Shared→Prop} (hf:VR ρ D (.top 513) fv)
  (hq:∀ D' s' t',D.le D'→Inv ρ X D' ⟨loc,lst⟩ s'→Same s s'→Q (.str (S (txOf ρ d b)) t') s'):wpAny (model pw w) X.A (call fv [v,.str (S (syL b)) t]) Q F0 s:=by
 obtain ⟨_,x,h1,h2,h3⟩:=chk_parts h.1 b
 refine hide_run (ρ':=d.rho ρ) (m:=60) (T0_all w mean mg mb) (fn513 w) (args:=[d.1,syV b]) (by rw [args513];rfl) h1 rfl hX hX.sym hr I hf (.cons (h.2.2.2.base (shape_lb h.1)) (.cons sy_VR .nil)) fun D' u s' le I' V sm=>?_
 refine e11 V.strI ?_;clear V;intro t' Y;subst Y
 have:txOf ρ d b=x.den (d.rho ρ):=by unfold txOf;rw [h1]
 rw [← this]
 exact hq D' s' t' le I' sm
theorem isline_ok {la:Addr} (ho:ρ.o 0=.ref la) (hX:X.Ok w mean mg mb ρ) (hr:Room X 133) (I:Inv ρ X D ⟨loc,lst⟩ s) (h:LineAt ρ e D v d) (he:0≤e∧e<pow64) {b:Bool}{fv:Value}{t t':Tok}{Q:Value→Shared→Prop} (hf:VR ρ D (.top 702) fv)
  (hq:∀ D' s',D.le D'→Inv ρ X D' ⟨loc,lst⟩ s'→Same s s'→Q (.bool true) s'):wpAny (model pw w) X.A (call fv [v,.int e t,ρ.o 0,.str (S (syL b)) t']) Q F0 s:=by
 refine e02 (chk_parts h.1 b) ?_;intro h1 _
 have hev:VR (d.rho ρ) ⟨D.imm,[]⟩ endV (.int e t):=by
  have:=VR.int (ρ:=d.rho ρ) (D:=⟨D.imm,[]⟩) (.var 9 0 (pow2-1)) t
  rw [var_den (by show 0≤d.2.1 9;rw [h.2.1];exact he.1) (by show d.2.1 9≤pow2-1;rw [h.2.1];have:=he.2;unfold pow64 at this;unfold pow2;lia)] at this
  rw [show (d.rho ρ).i 9=e from h.2.1] at this
  exact this
 refine hide_run (ρ':=d.rho ρ) (m:=60) (T0_all w mean mg mb) (fn702 w) (args:=[d.1,endV,.opq 0,syV b]) (by rw [args702];rfl) h1 rfl hX hX.sym hr I hf (.cons (h.2.2.2.base (shape_lb h.1)) (.cons hev (.cons (.sy (ρ:=d.rho ρ) (k:=0) ho) (.cons sy_VR .nil)))) fun D' u s' le I' V sm=>?_
 (have Y:=V.boolI;clear V;subst Y)
 exact hq D' s' le I' sm
end
end
end Nn62
end
section
open PySem PySem.W PySem.Calls PyProof.Rows
namespace Nn62
section
section
variable {w:World}{mean:ExcName→Option Value}{mg mb:Str→Option Value}{n:Nat}{ρ:Rho}{X:FX}{D:Led}{st:St}{s:Shared}
noncomputable abbrev FX.refx (X:FX) (f:List (Addr×Obj)):FX:={X with fx:=f}
theorem Inv.subfx {f:List (Addr×Obj)} (I:Inv ρ X D st s) (h:∀ p∈f,p∈X.fx):Inv ρ (X.refx f) D st s:=by
 refine e21 (I) ?_;try clear I;intro m P J
 refine ⟨m,P,J.F,fun p hp=>J.N p ?_,J.loc,J.ls,J.ad,J.nd,fun p hp=>J.dj p ?_,fun p hp q hq=>J.fd p hp q (h q hq)⟩
 ·(refine zO (zA hp) ?qa ?qb;(case' qb=>intro q);(case' qa=>intro q))
  ·exact zL _ q
  ·(refine zO (zA q) ?qa0 ?qb0;(case' qb0=>clear q;intro q);(case' qa0=>clear q;intro q))
   ·exact zR _ (zL _ q)
   ·exact zR _ (zR _ (h p q))
 ·(refine zO (zA hp) ?qa1 ?qb1;(case' qb1=>clear hp;intro q);(case' qa1=>clear hp;intro q))
  ·exact zL _ q
  ·exact zR _ (h p q)
theorem Inv.swap {I C:Addr}{o oC:Obj} (J:Inv ρ ((X.with I o).with C oC) D st s):Inv ρ ((X.with C oC).with I o) D st s :=
 J.subfx (X:=(X.with I o).with C oC) (f:=(I,o)::(C,oC)::X.fx) fun p hp=>by
  (refine zO (zC hp) ?qa ?qb;(case' qb=>clear hp;intro hp);(case' qa=>intro Y0;subst Y0))
  ·exact .tail _ (.head _)
  ·(refine zO (zC hp) ?qa2 ?qb2;(case' qb2=>clear hp;intro hp);(case' qa2=>intro Y0;subst Y0))
   ·exact .head _
   ·exact .tail _ (.tail _ hp)
structure Iter (w:World) (X:FX) (I:Addr) (fp:List Addr) (N:Nat) (P:Nat→Value→Prop) (Sh:Nat→Heap→Prop) (D:Led):Prop where
 W:Walks pw w X.A I fp [I] N P Sh
 obj:∀ i h,Sh i h→∃ o,h.get? I=some o
 fx:∀ q∈X.fx,q.1≠I
 held:∀ b∈fp,b=I∨∃ o,(b,o)∈D.imm++X.fx
theorem Inv.fx_obj {p:Addr×Obj} (J:Inv ρ X D st s) (h:p∈D.imm++X.fx):s.heap.get? p.1=some p.2:=by
 refine e21 (J) ?_;try clear J;intro m P J
 exact (J.N p (zR _ h)).1
theorem Inv.fx_lt {p:Addr×Obj} (J:Inv ρ X D st s) (h:p∈D.imm++X.fx):p.1<s.heap.objs.size:=Heap.lt_size (J.fx_obj h)
theorem Iter.keep {I:Addr}{fp:List Addr}{N:Nat}{P:Nat→Value→Prop}{Sh:Nat→Heap→Prop}{D D₁ D₂:Led} (t:Iter w X I fp N P Sh D) {o:Obj}{X':FX} (hX':∀ p∈X.fx,p∈X'.fx) (hI:(I,o)∈X'.fx) {st₁ st₂:St}{s₁ s₂:Shared}{i:Nat} (le:D.le D₁) (le₂:D₁.le D₂)
  (J₁:Inv ρ X' D₁ st₁ s₁) (J₂:Inv ρ X' D₂ st₂ s₂) (h:Sh i s₁.heap):Sh i s₂.heap:=by
 refine t.W.frame i _ _ h fun b hb x hx=>?_
 have key:∃ y,(b,y)∈D₁.imm++X'.fx:=by
  (refine zO (t.held b hb) ?qa (fun qh=>e11 qh ?qb);(case' qb=>clear t hb;intro y hy);(case' qa=>clear t hb;intro Y0;subst Y0))
  ·exact ⟨o,zR _ hI⟩
  ·refine ⟨y,?_⟩
   (refine zO (zA hy) ?qa3 ?qb3;(case' qb3=>intro q);(case' qa3=>intro q))
   ·exact zL _ (le.imm _ q)
   ·exact zR _ (hX' _ q)
 refine e11 (key) ?_;try clear key;intro y hy
 have e1:=J₁.fx_obj hy
 have e2:s₂.heap.get? b=some y:=J₂.fx_obj (p:=(b,y)) (by
  (refine zO (zA hy) ?qa4 ?qb4;(case' qb4=>clear hy;intro q);(case' qa4=>clear hy;intro q))
  ·exact zL _ (le₂.imm _ q)
  ·exact zR _ q)
 rw [e2,← hx];exact e1.symm
theorem gen_loop {I:Addr}{fp:List Addr}{N:Nat}{P:Nat→Value→Prop}{Sh:Nat→Heap→Prop} (t:Iter w X I fp N P Sh D) {target:Expr}{body:List Stmt}{o:Obj} (Ok:Nat→Led→St→Prop)
  (turn:∀ i v o D' st s' (Qn:Shared→Prop),i<N→P i v→D.le D'→Ok i D' st→Inv ρ (X.with I o) D' st s'→Sh (i+1) s'.heap →
   (∀ D'' st' s'',D'.le D''→Ok (i+1) D'' st'→Inv ρ (X.with I o) D'' st' s''→Same s' s''→Qn s'')→TurnQ w X target I body v Qn s')
  {Q:Result→Shared→Prop}{st₀:St} (hok:Ok 0 D st₀) (J:Inv ρ (X.with I o) D st₀ s) (h0:Sh 0 s.heap) (h:∀ D' st' s',D.le D'→Ok N D' st'→Inv ρ X D' st' s'→Same s s'→Q (.ok .next) s') :
  codeAny (model pw w) X.A (.forLoop target (.ref I) body [] X.env) Q s:=by
 refine codeAny_forLoop_any (fun k s'=>∃ i D' st' o',i+k=N∧D.le D'∧Same s s'∧Ok i D' st'∧Inv ρ (X.with I o') D' st' s'∧Sh i s'.heap) (fun k s' hI=>?_) N ⟨0,D,st₀,o,Nat.zero_add _,Led.le.refl D,Same.refl s,hok,J,h0⟩
 obtain ⟨i,D',st',o',hk,le,sm,ok,I',hsh⟩:=hI
 by_cases hi:i<N
 ·refine t.W.item i s' _ _ hi hsh fun v h' tk pv sh' hkeep=>?_
  refine e21 (id I') ?_;intro m P' JA
  refine e11 (t.obj _ _ sh') ?_;intro o₂ ho₂
  have I2:Inv ρ (X.with I o₂) D' st' {s' with heap:=h',toks:=tk}:=⟨m,P',JA.turn (o':=o₂) t.fx hkeep ho₂⟩
  have run:=turn i v o₂ D' st' {s' with heap:=h',toks:=tk} (fun s₃=>∃ k',k'<k∧∃ i D' st' o',i+k'=N∧D.le D'∧Same s s₃∧Ok i D' st'∧Inv ρ (X.with I o') D' st' s₃∧Sh i s₃.heap) hi pv le ok I2 sh'
   (fun D'' st'' s'' le' ok' I3 sm'=>⟨k-1,by lia,i+1,D'',st'',o₂,by lia,le.trans le',sm.trans ⟨sm'.gens,sm'.drawn,sm'.os⟩,ok',I3,t.keep (X':=X.with I o₂) (fun p hp=>.tail _ hp) (.head _) le le' I2 I3 sh'⟩)
  refine wpAny_mono run (fun _ s₁ r₁=>?_) fun _ _ z=>z.elim
  refine wpAny_mono r₁ (fun _ s₂ r₂=>?_) fun _ _ z=>z.elim
  refine wpAny_mono r₂ (fun f s₃ r₃=>?_) fun _ _ z=>z.elim
  refine e02 (r₃) ?_;try clear r₃;intro Y0 r₃;subst Y0
  exact r₃
 ·have hN:i=N:=by lia
  subst hN
  refine t.W.done s' _ _ hsh fun h' tk hkeep=>wpAny_execs_nil ?_
  refine e21 (I') ?_;try clear I';intro m P' JA
  exact h D' st' _ le ok (inv_end (tk:=tk) t.fx JA hkeep) (sm.trans ⟨rfl,rfl,rfl⟩)
end
end
section
section
variable {w:World}{mean:ExcName→Option Value}{mg mb:Str→Option Value}{n:Nat}{ρ:Rho}{X:FX}{D:Led}{st:St}{s:Shared}
noncomputable abbrev FX.comp (X:FX) (I:Addr) (o:Obj) (C:Addr) (oC:Obj):FX:=(X.with I o).with C oC
theorem ns_obj {h:Heap}{C:Addr}{m:Str→Option Value} (hn:h.Ns C m):∃ o,h.get? C=some o:=let ⟨o,_,_,e,_⟩:=hn;⟨o,e⟩
noncomputable def EltQ (w:World) (ρ:Rho) (X:FX) (I C:Addr) (P:Nat→Value→Prop) (N:Nat) (x:Str) (elt:Expr) (cenv:Env) (loc:Locs) (j:Nat) (D:Led) (Ok:Nat→Led→List (List AV)→List AV→Prop):Prop :=
 ∀ i v o oC m D' base items s' (Qe:Value→Shared→Prop),i<N→P i v→D.le D'→Ok i D' base items→base.length=j→items.length≤i→Inv ρ (X.comp I o C oC) D' ⟨loc,base++[items]⟩ s'→s'.heap.Ns C m→m x=some v →
  (∀ D'' base' y s'',D'.le D''→base'.length=j→Inv ρ (X.comp I o C oC) D'' ⟨loc,base'++[items]⟩ s''→Same s' s''→Ok (i+1) D'' base' (items++[.val y])→Qe y s'') →
  wpAny (model pw w) X.A (eval elt cenv) Qe F0 s'
noncomputable abbrev ifsT (ifs:List Expr) (env:Env):Sem Bool:=forIn ifs true fun c r=>if r=true then do let ok ← isTrue c env (eval c env);pure (ForInStep.yield ok) else pure (ForInStep.yield r)
noncomputable def EltT (w:World) (ρ:Rho) (X:FX) (I C:Addr) (P:Nat→Value→Prop) (N:Nat) (x:Str) (elt:Expr) (ifs:List Expr) (cenv:Env) (loc:Locs) (j:Nat) (D:Led) (Ok:Nat→Led→List (List AV)→List AV→Prop):Prop :=
 ∀ i v o oC m D' base items s' (Qe:Value→Shared→Prop) (Qn:Shared→Prop),i<N→P i v→D.le D'→Ok i D' base items→base.length=j→items.length≤i→Inv ρ (X.comp I o C oC) D' ⟨loc,base++[items]⟩ s'→s'.heap.Ns C m→m x=some v →
  (∀ D'' base' y s'',D'.le D''→base'.length=j→Inv ρ (X.comp I o C oC) D'' ⟨loc,base'++[items]⟩ s''→Same s' s''→Ok (i+1) D'' base' (items++[.val y])→Qe y s'') →
  (∀ D'' base' s'',D'.le D''→base'.length=j→Inv ρ (X.comp I o C oC) D'' ⟨loc,base'++[items]⟩ s''→Same s' s''→Ok (i+1) D'' base' items→Qn s'') →
  wpAny (model pw w) X.A (ifsT ifs cenv) (fun ok s₃=>if ok=true then wpAny (model pw w) X.A (eval elt cenv) Qe F0 s₃ else Qn s₃) F0 s'
theorem EltQ.t {I C:Addr}{P:Nat→Value→Prop}{N:Nat}{x:Str}{elt:Expr}{cenv:Env}{loc:Locs}{j:Nat}{Ok:Nat→Led→List (List AV)→List AV→Prop} (h:EltQ w ρ X I C P N x elt cenv loc j D Ok):EltT w ρ X I C P N x elt [] cenv loc j D Ok :=
 fun i v o oC m D' base items s' Qe _ g1 g2 g3 g4 g5 g6 g7 g8 g9 g10 _=>wpAny_pure (by rw [if_pos rfl];exact h i v o oC m D' base items s' Qe g1 g2 g3 g4 g5 g6 g7 g8 g9 g10)
theorem comp_loop {I:Addr}{fp:List Addr}{N:Nat}{P:Nat→Value→Prop}{Sh:Nat→Heap→Prop} (t:Iter w X I fp N P Sh D) (hN:N≤100000) {elt iter:Expr}{ifs:List Expr}{x:Str}{px pos:Pos}{scope:Scope}{cenv:Env}{loc:Locs}{j:Nat}{a:Addr}
  (Ok:Nat→Led→List (List AV)→List AV→Prop) (hx:cenv.kindOf x=some .local) (hp:(cenv.scope.kind==.class||(cenv.scope.kind==.module&&cenv.locals != cenv.globals))=false)
  (he:EltT w ρ X I cenv.locals P N x elt ifs cenv loc j D Ok) (hCI:cenv.locals≠I) (hCfx:∀ q∈X.fx,q.1≠cenv.locals) {R:Result→Shared→Prop}
  (o oC:Obj) {m:Str→Option Value}{base:List (List AV)} (hb:base.length=j) (hok:Ok 0 D base []) (ha:D.lad[j]?=some a) (J:Inv ρ (X.comp I o cenv.locals oC) D ⟨loc,base++[[]]⟩ s) (hn:s.heap.Ns cenv.locals m) (h0:Sh 0 s.heap)
  (h:∀ D' base' items oC' m' s',D.le D'→base'.length=j→Ok N D' base' items→Inv ρ (X.with cenv.locals oC') D' ⟨loc,base'++[items]⟩ s'→s'.heap.Ns cenv.locals m'→Same s s'→R (.ok .next) s') :
  codeAny (model pw w) X.A (.compLoop (.ListComp elt [⟨.Name x px,iter,ifs,0⟩] scope pos) 0 (.ref I) (.ref a) cenv) R s:=by
 refine codeAny_compLoop_tests (fun k s'=>∃ i D' base' items o' oC' m',i+k=N∧D.le D'∧base'.length=j∧items.length≤i∧Ok i D' base' items∧Inv ρ (X.comp I o' cenv.locals oC') D' ⟨loc,base'++[items]⟩ s'∧s'.heap.Ns cenv.locals m'∧Sh i s'.heap∧Same s s')
  (fun k s' hI=>?_) N ⟨0,D,base,[],o,oC,m,Nat.zero_add _,Led.le.refl D,hb,Nat.le_refl _,hok,J,hn,h0,Same.refl s⟩
 obtain ⟨i,D',base',items,o',oC',m',hk,le,hb',hlen,ok,I',hn',hsh,sm⟩:=hI
 have tC:∀ q∈(X.with I o').fx,q.1≠cenv.locals:=fun q hq=>by
  rcases zC hq with rfl|hq
  ·exact Ne.symm hCI
  ·exact hCfx q hq
 by_cases hi:i<N
 ·refine t.W.item i s' _ _ hi hsh fun v h₁ tk₁ pv sh₁ hk₁=>?_
  refine e11 (t.obj _ _ sh₁) ?_;intro o₂ ho₂
  have I₁:Inv ρ (X.comp I o₂ cenv.locals oC') D' ⟨loc,base'++[items]⟩ {s' with heap:=h₁,toks:=tk₁}:=by
   refine e21 (I'.swap) ?_;intro m₀ P₀ JA
   have:=JA.turn (o':=o₂) (fun q hq=>by
    rcases zC hq with rfl|hq
    ·exact hCI
    ·exact t.fx q hq) hk₁ ho₂
   exact Inv.swap (X:=X) (I:=cenv.locals) (C:=I) (o:=oC') (oC:=o₂) ⟨m₀,P₀,this⟩
  have hn₁:h₁.Ns cenv.locals m':=hn'.at' fun ob e=>hk₁ _ ob (fun hm=>hCI (zS hm)) e
  refine wpAny_assign_Name (wpAny_storeName_local hx hn₁ (fun h₂ hn₂ hs₂=>?_) hp)
  refine e11 (ns_obj hn₂) ?_;intro oC₂ hoC₂
  have I₂:Inv ρ (X.comp I o₂ cenv.locals oC₂) D' ⟨loc,base'++[items]⟩ {s' with heap:=h₂,toks:=tk₁+1}:=by
   refine e21 (I₁) ?_;try clear I₁;intro m₀ P₀ JA
   exact ⟨m₀,P₀,JA.turn (X:=X.with I o₂) (o':=oC₂) (fun q hq=>by
    rcases zC hq with rfl|hq
    ·exact Ne.symm hCI
    ·exact hCfx q hq) (fun b y hb e=>(hs₂.2 b (fun q=>hb (List.mem_singleton.mpr q))).trans e) hoC₂⟩
  have hsh₂:Sh (i+1) h₂:=t.W.frame _ _ _ sh₁ fun b hb ob e=>(hs₂.2 b (fun q=>by
   rcases t.held b hb with rfl|⟨y,hy⟩
   ·exact hCI q.symm
   ·have hy':(b,y)∈D'.imm++(X.with I o').fx:=by
     rcases zA hy with z|z
     ·exact zL _ (le.imm _ z)
     ·exact zR _ (.tail _ z)
    refine e21 (I') ?_;try clear I';intro m₀ P₀ JA
    rcases zA hy' with z|z
    ·exact JA.fd (b,y) z (cenv.locals,oC') (.head _) q
    ·exact tC (b,y) z q)).trans e
  refine wpAny_mono (E:=F0) (he i v o₂ oC₂ _ D' base' items _ (fun y s₃=>∃ D₃ base₃,D'.le D₃∧base₃.length=j∧Inv ρ (X.comp I o₂ cenv.locals oC₂) D₃ ⟨loc,base₃++[items]⟩ s₃∧Same _ s₃∧Ok (i+1) D₃ base₃ (items++[.val y])) (fun s₃=>∃ D₃ base₃,D'.le D₃∧base₃.length=j∧Inv ρ (X.comp I o₂ cenv.locals oC₂) D₃ ⟨loc,base₃++[items]⟩ s₃∧Same _ s₃∧Ok (i+1) D₃ base₃ items) hi pv le ok hb' hlen I₂ hn₂ (by simp)
   (fun D₃ base₃ y s₃ le₃ hb₃ I₃ sm₃ ok₃=>⟨D₃,base₃,le₃,hb₃,I₃,sm₃,ok₃⟩) fun D₃ base₃ s₃ le₃ hb₃ I₃ sm₃ ok₃=>⟨D₃,base₃,le₃,hb₃,I₃,sm₃,ok₃⟩) (fun okb s₃ hz=>?_) fun _ _ z=>z.elim
  have nsOf:∀ {D₃:Led}{st₃:St}{s₃:Shared},Inv ρ (X.comp I o₂ cenv.locals oC₂) D₃ st₃ s₃→s₃.heap.Ns cenv.locals (fun z=>if z=x then some v else m' z):=fun {D₃ st₃ s₃} I₃=>by
   have e2:=I₃.fx_obj (p:=(cenv.locals,oC₂)) (zR _ (.head _))
   refine hn₂.at' fun ob e=>?_
   rw [← e,hoC₂];exact e2
  cases okb with
  | false =>
   rw [if_neg zF] at hz ⊢
   refine e25 (hz) ?_;try clear hz;intro D₃ base₃ le₃ hb₃ I₃ sm₃ ok₃
   refine ⟨k-1,by lia,i+1,D₃,base₃,items,o₂,oC₂,_,by lia,le.trans le₃,hb₃,by lia,ok₃,I₃,nsOf I₃,?_,?_⟩
   ·exact t.keep (X':=X.comp I o₂ cenv.locals oC₂) (fun p hp=>.tail _ (.tail _ hp)) (.tail _ (.head _)) le le₃ I₂ I₃ hsh₂
   ·exact sm.trans ((⟨rfl,rfl,rfl⟩:Same s' {s' with heap:=h₂,toks:=tk₁+1}).trans sm₃)
  | true =>
  rw [if_pos rfl] at hz ⊢
  refine wpAny_mono (E:=F0) hz (fun y s₃ hz=>?_) fun _ _ z=>z.elim
  refine e25 (hz) ?_;try clear hz;intro D₃ base₃ le₃ hb₃ I₃ sm₃ ok₃
  refine e21 (id I₃) ?_;intro m₀ P₀ J₃
  have ha₃:D₃.lad[j]?=some a:=le₃.lad _ _ (le.lad _ _ ha)
  have hl₃:(base₃++[items])[j]?=some items:=by rw [← hb₃];simp
  refine e23 (J₃.lad_get hl₃ ha₃) ?_;intro vs c hP hv hg
  have hvl:=hv.length
  refine PyProof.Rows.append_at hg (fun h₄ hs₄ ho₄=>?_) (by simp [show sizeLine=16777216 from rfl];lia)
  have J₄:=J₃.setLst (vs':=vs++[y]) (n':=c+1) hP (hv.append (.cons (.val y) .nil)) hs₄ (by rw [ho₄];simp)
  have e4:setNth (base₃++[items]) j (items++[.val y])=base₃++[items++[.val y]]:=by
   unfold setNth
   rw [← hb₃,List.set_append_right _ _ (Nat.le_refl _)];simp
  have I₄:Inv ρ (X.comp I o₂ cenv.locals oC₂) D₃ ⟨loc,base₃++[items++[.val y]]⟩ {s₃ with heap:=h₄}:=by
   rw [← e4];(exact (i21 _ _ J₄))
  have hn₄:h₄.Ns cenv.locals (fun z=>if z=x then some v else m' z):=by
   have e1:=I₂.fx_obj (p:=(cenv.locals,oC₂)) (zR _ (.head _))
   have e2:=I₄.fx_obj (p:=(cenv.locals,oC₂)) (zR _ (.head _))
   refine hn₂.at' fun ob e=>?_
   rw [← e,hoC₂];exact e2
  refine ⟨k-1,by lia,i+1,D₃,base₃,items++[.val y],o₂,oC₂,_,by lia,le.trans le₃,hb₃,by simp;exact hlen,ok₃,I₄,hn₄,?_,?_⟩
  ·exact t.keep (X':=X.comp I o₂ cenv.locals oC₂) (fun p hp=>.tail _ (.tail _ hp)) (.tail _ (.head _)) le le₃ I₂ I₄ hsh₂
  ·exact sm.trans ((⟨rfl,rfl,rfl⟩:Same s' {s' with heap:=h₂,toks:=tk₁+1}).trans (sm₃.trans ⟨rfl,rfl,rfl⟩))
 ·have hN':i=N:=by lia
  subst hN'
  refine t.W.done s' _ _ hsh fun h₁ tk₁ hk₁=>?_
  have I₁:Inv ρ (X.with cenv.locals oC') D' ⟨loc,base'++[items]⟩ {s' with heap:=h₁,toks:=tk₁}:=by
   refine e21 (I'.swap) ?_;intro m₀ P₀ JA
   exact inv_end (X:=X.with cenv.locals oC') (fun q hq=>by
    rcases zC hq with rfl|hq
    ·exact hCI
    ·exact t.fx q hq) JA hk₁
  exact h D' base' items oC' m' _ le hb' ok I₁ (hn'.at' fun ob e=>hk₁ _ ob (fun hm=>hCI (zS hm)) e) (sm.trans ⟨rfl,rfl,rfl⟩)
theorem comp_block {I:Addr}{fp:List Addr}{N:Nat}{P:Nat→Value→Prop}{Sh:Nat→Heap→Prop} (t:Iter w X I fp N P Sh D) (hN:N≤100000) {elt iter:Expr}{ifs:List Expr}{x:Str}{px pos:Pos}{scope:Scope}{cl:List (Str×Addr)}{loc:Locs}{base:List (List AV)}
  (Ok:Nat→Led→List (List AV)→List AV→Prop) (hcell:∀ y∈scope.names,y.2≠.cell) (hkind:scope.kind=.function) (hx:scope.names.lookup x=some .local)
  (o:Obj) (J:Inv ρ (X.with I o) D ⟨loc,base⟩ s) (h0:Sh 0 s.heap) (hok:∀ D',D.le D'→Ok 0 D' base [])
  (he:∀ C,C≠I→(∀ q∈X.fx,q.1≠C)→EltT w ρ X I C P N x elt ifs (compEnvC scope cl C X.env) loc base.length D Ok) {RR:Value→Addr→Result→Shared→Prop}
  (h:∀ D' base' items C oC' m' s' a,D.le D'→base'.length=base.length→Ok N D' base' items→Inv ρ (X.with C oC') D' ⟨loc,base'++[items]⟩ s'→(∀ q∈X.fx,q.1≠C)→s'.heap.Ns C m'→VR ρ D' (.loc base.length) (.ref a)→Same s s'→RR (.ref a) C (.ok .next) s') :
  wpAny (model pw w) X.A (newList []) (fun acc s₃=>wpAny (model pw w) X.A (newFunctionEnv scope X.env.globals cl [] X.env.qual none .none (some X.env)) (fun cenv s₄ =>
   codeAny (model pw w) X.A (.compStart (.ListComp elt [⟨.Name x px,iter,ifs,0⟩] scope pos) 0 (.ref I) acc {cenv with scope:=relabel scope X.env}) (RR acc cenv.locals) s₄) F0 s₃) F0 s:=by
 refine e21 (id J) ?_;intro m Pl JA
 refine newList_N JA.F JA.N (fun h₁ F₁ N₁=>?_) (by simp [show sizeLine=16777216 from rfl])
 have J₁:=JA.pushLst (vs:=[]) (l:=[]) .nil F₁ N₁
 have hlad:(D.lad++[s.heap.objs.size])[base.length]?=some s.heap.objs.size:=by
  have:=J.lad_len
  rw [show base.length=D.lad.length from this.symm];simp
 refine wpAny_newFunctionEnv hcell (by intro y hy;simp at hy) (fun h₂ hns₂ hsb₂=>?_) hkind
 dsimp only at hns₂ hsb₂ ⊢
 have hold:∀ b y,h₁.get? b=some y→h₂.get? b=some y:=fun b y e=>(hsb₂.2 b (fun q=>by rw [q] at e;exact absurd (Heap.lt_size e) (Nat.lt_irrefl _))).trans (Heap.get?_push_of_some _ e)
 refine e11 (ns_obj hns₂) ?_;intro oC hoC
 have hIlt:I<h₁.objs.size:=by
  have:=(J₁.N (I,o) (zR _ (zR _ (.head _)))).1
  exact Heap.lt_size this
 have hCI:h₁.objs.size≠I:=fun q=>by rw [q] at hIlt;exact Nat.lt_irrefl _ hIlt
 have hCfx:∀ q∈X.fx,q.1≠h₁.objs.size:=fun q hq e=>by
  have:=Heap.lt_size (J₁.N q (zR _ (zR _ (.tail _ hq)))).1
  rw [e] at this;exact Nat.lt_irrefl _ this
 have hnew:X.h₀.get? h₁.objs.size=none:=by
  cases q:X.h₀.get? h₁.objs.size with
  | none=>rfl
  | some y =>
   have:=Heap.lt_size (J₁.F.keep _ _ q)
   exact absurd this (Nat.lt_irrefl _)
 have hLne:X.L≠h₁.objs.size:=fun q=>by
  refine e32 (J₁.F.ns) ?_;intro oL _ _ e _
  have:=Heap.lt_size e
  rw [q] at this;exact Nat.lt_irrefl _ this
 have J₂:Inv ρ (X.comp I o h₁.objs.size oC) ⟨D.imm,D.lad++[s.heap.objs.size]⟩ ⟨loc,base++[[]]⟩ {s with heap:=h₂,toks:=s.toks+0}:=by
  refine ⟨m,_,⟨?_,fun b y e=>hold _ _ (J₁.F.keep b y e),J₁.F.above⟩,fun p hp=>?_,J₁.loc,J₁.ls,J₁.ad,J₁.nd,fun p hp=>?_,fun p hp q hq=>?_⟩
  ·refine e32 (J₁.F.ns) ?_;intro oL es ep e r
   (exact (i32 oL es ep (hold _ _ e) r))
  ·have hp':p=(h₁.objs.size,oC)∨p∈(Pl++[(s.heap.objs.size,({cls:=.type "list",data:=.seq [].toArray}:Obj))])++(D.imm++(X.with I o).fx):=by
    rcases zA hp with q|q
    ·exact .inr (zL _ q)
    ·rcases zA q with q|q
     ·exact .inr (zR _ (zL _ q))
     ·rcases zC q with q|q
      ·exact .inl q
      ·exact .inr (zR _ (zR _ q))
   rcases hp' with rfl|hp'
   ·(exact (i03 hoC (Ne.symm hLne) hnew))
   ·have:=J₁.N p hp'
    exact ⟨hold _ _ this.1,this.2⟩
  ·rcases zA hp with q|q
   ·exact J₁.dj p (zL _ q)
   ·rcases zC q with rfl|q
    ·exact fun hm=>absurd (J₁.lad_lt hm) (Nat.lt_irrefl _)
    ·exact J₁.dj p (zR _ q)
  ·rcases zC hq with rfl|hq
   ·intro e
    have:=Heap.lt_size (J₁.N p (zR _ (zL _ hp))).1
    rw [e] at this;exact Nat.lt_irrefl _ this
   ·exact J₁.fd p hp q hq
 have le₁:D.le ⟨D.imm,D.lad++[s.heap.objs.size]⟩:=D.le_lad _
 have hsh:Sh 0 h₂:=t.W.frame _ _ _ h0 fun b hb y e=>by
  have e1:s.heap.get? b=some y:=e
  have key:(b,y)∈D.imm++(X.with I o).fx:=by
   rcases t.held b hb with rfl|⟨z,hz⟩
   ·have:=J.fx_obj (p:=(b,o)) (zR _ (.head _))
    have:y=o:=by rw [show s.heap.get? b=some o from this] at e1;exact (Option.some.inj e1).symm
    rw [this];exact zR _ (.head _)
   ·have hz':(b,z)∈D.imm++(X.with I o).fx:=by
     rcases zA hz with q|q
     ·exact zL _ q
     ·exact zR _ (.tail _ q)
    have:=J.fx_obj hz'
    have:y=z:=by rw [show s.heap.get? b=some z from this] at e1;exact (Option.some.inj e1).symm
    rw [this];exact hz'
  have:=J₂.fx_obj (p:=(b,y)) (by
   rcases zA key with q|q
   ·exact zL _ q
   ·exact zR _ (.tail _ q))
  exact this
 have tt:Iter w X I fp N P Sh ⟨D.imm,D.lad++[s.heap.objs.size]⟩:=⟨t.W,t.obj,t.fx,t.held⟩
 have loop:=comp_loop (ρ:=ρ) (R:=RR (.ref s.heap.objs.size) h₁.objs.size) (elt:=elt) (iter:=iter) (ifs:=ifs) (px:=px) (pos:=pos) (scope:=scope) tt hN (cenv:=compEnvC scope cl h₁.objs.size X.env) (j:=base.length) (a:=s.heap.objs.size) Ok (lookup_relabel_local hx) (by simp [compEnvC,relabel,hkind])
  (fun i v o' oC' m' D' bs items s' Qe Qn g1 g2 g3 g4 g5 g6 g7 g8 g9 g10 g11=>he h₁.objs.size hCI hCfx i v o' oC' m' D' bs items s' Qe Qn g1 g2 (le₁.trans g3) g4 g5 g6 g7 g8 g9 g10 g11) hCI hCfx o oC rfl (hok _ le₁) hlad J₂ hns₂ hsh
  (fun D' base' items oC' m' s' le hb' ok I' hn' sm=>h D' base' items h₁.objs.size oC' m' s' s.heap.objs.size (le₁.trans le) hb' ok I' hCfx hn' (.loc (le.lad _ _ hlad)) ⟨sm.gens,sm.drawn,sm.os⟩)
 exact codeAny_compStart_list loop (t.W.self 0 _ _ _ hsh loop)
end
end
end Nn62
end
section
open PySem PySem.W PySem.Calls PyProof.Rows
namespace Nn62
open PySem.W.Z (leB ltB eqB leB_iff ltB_iff eqB_iff)
section
theorem all4 {P:Int→Prop} (h:P 0∧P 1∧P 2∧P 3):∀ w:Int,0≤w→w<4→P w:=fun w h0 h1=>by
 have:w=0∨w=1∨w=2∨w=3:=by lia
 rcases this with rfl|rfl|rfl|rfl
 ·exact h.1
 ·exact h.2.1
 ·exact h.2.2.1
 ·exact h.2.2.2
theorem args660:((sArgs (stA 65)).args.map fun p=>p.arg.cps.toList)=[bagN]:=by kernel_rfl
noncomputable def plcR (k:Int) (e:IE) (rest:List (List AV)):Option FR:=(recs T0 60).exs (sScope (stA 65)) ⟨[(bagN,.loc 0)],[.int (.cons 4 (.lit k) e)]::rest⟩ (sBody (stA 65)) []
noncomputable def retP:Option FR→Option (AV×List (List AV))
 | some (.ret v st)=>some (v,st.lst)
 | _=>Option.none
theorem retP_ok {r:Option FR}{v:AV}{l:List (List AV)} (h:retP r=some (v,l)):∃ st,r=some (.ret v st)∧st.lst=l:=by
 unfold retP at h
 split at h
 ·(refine s2 h ?_;try clear h;intro Y0 Y1;subst Y0;subst Y1);exact ⟨_,rfl,rfl⟩
 ·exact xNS h
noncomputable def plcV (k:Int) (r:Int):IE:=if k=0 then .extb r 0 39 else if k=1 then .add (.lit 4198400) (.extb r 0 39) else if k=2 then .sub (.lit 18446744073709551615) (.extb r 0 39) else .extb r 0 18446744073709551615
noncomputable def plcM (k:Int):Int:=if k=3 then 18446744073709551616 else 40
noncomputable def plcD (k r N:Int):IE:=.cons (plcM k) (.extb r 0 (plcM k-1)) (.ext N)
theorem plc_run (r N:Int) (rest:List (List AV)):∀ k:Int,0≤k→k<4→retP (plcR k (plcD k r N) rest)=some (.int (plcV k r),[.int (.ext N)]::rest):=by
 refine all4 ⟨?_,?_,?_,?_⟩ <;> kernel_rfl
theorem plc_in {ρ:Rho}{r:Int}:∀ k:Int,0≤k→k<4→0≤r→r<plcM k→0≤(plcV k r).den ρ∧(plcV k r).den ρ<pow64:=by
 have b1:∀ hi:Int,0≤r→r≤hi→(IE.extb r 0 hi).den ρ=r:=fun hi h0 hh=>extb_den h0 hh
 refine all4 ⟨?_,?_,?_,?_⟩ <;> intro h0 h1
 ·have h1:r<40:=h1
  show 0≤(IE.extb r 0 39).den ρ∧(IE.extb r 0 39).den ρ<18446744073709551616
  rw [b1 39 h0 (by lia)];lia
 ·have h1:r<40:=h1
  show 0≤4198400+(IE.extb r 0 39).den ρ∧4198400+(IE.extb r 0 39).den ρ<18446744073709551616
  rw [b1 39 h0 (by lia)];lia
 ·have h1:r<40:=h1
  show 0≤18446744073709551615-(IE.extb r 0 39).den ρ∧18446744073709551615-(IE.extb r 0 39).den ρ<18446744073709551616
  rw [b1 39 h0 (by lia)];lia
 ·have h1:r<18446744073709551616:=h1
  show 0≤(IE.extb r 0 18446744073709551615).den ρ∧(IE.extb r 0 18446744073709551615).den ρ<18446744073709551616
  rw [b1 _ h0 (by lia)];lia
section
variable {w:World}{mean:ExcName→Option Value}{mg mb:Str→Option Value}{n:Nat}{ρ:Rho}{X:FX}{D:Led}{loc:Locs}{rest:List (List AV)}{s:Shared}
theorem plc_ok {N:Int}{fv bv:Value}{Q:Value→Shared→Prop} (hX:X.Ok w mean mg mb ρ) (hr:Room X 133) (I:Inv ρ X D ⟨loc,[.int (.ext N)]::rest⟩ s) (hf:VR ρ D (.top 660) fv) (hb:VR ρ D (.loc 0) bv)
  (h:∀ N' D' s' p t,D.le D'→Inv ρ X D' ⟨loc,[.int (.ext N')]::rest⟩ s'→0≤p→p<pow64→Same s s'→Q (.int p t) s'):wpAny (model pw w) X.A (call fv [bv]) Q F0 s:=by
 refine enter_ok (n:=132) (fn660 w) (args:=[.loc 0]) (l:=[(bagN,.loc 0)]) (by rw [args660];rfl) hX hr I hf (.cons hb .nil) (fun D' lst' v=>(∃ N',lst'=[.int (.ext N')]::rest)∧∃ p t,v=.int p t∧0≤p∧p<pow64)
  (fun X' hcs hhx hfx hX' hr' s₁ I₁ sm₁=>?_) (fun D' lst' v s' le I' hp sm=>by obtain ⟨⟨N',rfl⟩,p,t,rfl,h0,h1⟩:=hp;exact h N' D' s' p t le I' h0 h1 sm)
 have hk0:0≤N % 4:=Int.emod_nonneg N (by decide)
 have hk1:N % 4<4:=Int.emod_lt_of_pos N (by decide)
 generalize hk:N % 4=k at hk0 hk1
 have hM:0<plcM k∧plcM k≤18446744073709551616:=by unfold plcM;split <;> exact ⟨by decide,by decide⟩
 have hm0:=Int.emod_nonneg (N / 4) (show plcM k≠0 by lia)
 have hm1:=Int.emod_lt_of_pos (N / 4) hM.1
 have hd:(plcD k (N / 4 % plcM k) (N / 4 / plcM k)).den ρ=N / 4:=by
  show N / 4 / plcM k*plcM k+(IE.extb (N / 4 % plcM k) 0 (plcM k-1)).den ρ=_
  rw [extb_den hm0 (by lia),Int.mul_comm];exact Int.mul_ediv_add_emod _ _
 have I₂:Inv ρ X' D ⟨[(bagN,.loc 0)],[.int (.cons 4 (.lit k) (plcD k (N / 4 % plcM k) (N / 4 / plcM k)))]::rest⟩ s₁:=I₁.relst (.cons (.cons (AVto.int (by
  show N=(plcD k (N / 4 % plcM k) (N / 4 / plcM k)).den ρ*4+k
  rw [hd];lia)) .nil) (.refl rest))
 refine e12 (retP_ok (plc_run (N / 4 % plcM k) (N / 4 / plcM k) rest k hk0 hk1)) ?_;intro st hrun hst
 refine (recs_ok (T0_all w mean mg mb) 60).2.2.1 _ _ _ [] _ hrun ρ X' D s₁ _ hcs hX' hr' I₂ fun D₃ fl s₃ le₃ fr sm₃=>?_
 refine e13 (fr) ?_;try clear fr;intro v Y1 V I₃;subst Y1
 have I₃:Inv ρ X' D₃ ⟨st.loc,st.lst⟩ s₃:=I₃
 rw [hst] at I₃
 refine e11 V.intI ?_;clear V;intro t Y;subst Y
 refine ⟨_,D₃,⟨st.loc,_⟩,rfl,le₃,I₃,sm₁.trans sm₃,⟨_,rfl⟩,_,t,rfl,?_⟩
 exact plc_in k hk0 hk1 hm0 hm1
theorem tk_ok {N m:Int}{fv bv:Value}{t:Tok}{Q:Value→Shared→Prop} (hm:0<m∧m<2 ^ 70) (hX:X.Ok w mean mg mb ρ) (hr:Room X 31) (I:Inv ρ X D ⟨loc,[.int (.ext N)]::rest⟩ s) (hf:VR ρ D (.top 646) fv) (hb:VR ρ D (.loc 0) bv)
  (h:∀ D' s' t',D.le D'→Inv ρ X D' ⟨loc,[.int (.ext (N / m))]::rest⟩ s'→Same s s'→Q (.int (N % m) t') s'):wpAny (model pw w) X.A (call fv [bv,.int m t]) Q F0 s:=by
 refine take_hand (n:=0) (i:=0) (e:=.ext N) (lst:=[.int (.ext N)]::rest) rfl (Bool.and_eq_true_iff.mpr ⟨(ltB_iff _ _).mpr hm.1,(ltB_iff _ _).mpr hm.2⟩) ρ X D loc s [bv,.int m t] fv Q hX (hr.down (by decide)) I hf (.cons hb (.cons (.int (.lit m) t) .nil)) fun D' v s' le I' V sm=>?_
 have e1:(mkMod (.ext N) m).den ρ=N % m:=by rw [mkMod_den];exact Int.fmod_eq_emod_of_nonneg _ (by lia)
 have e2:(mkDiv (.ext N) m).den ρ=N / m:=by rw [mkDiv_den];exact Int.fdiv_eq_ediv_of_nonneg _ (by lia)
 have I₂:Inv ρ X D' ⟨loc,[.int (.ext (N / m))]::rest⟩ s':=I'.relst (ls:=[.int (mkDiv (.ext N) m)]::rest) (.cons (.cons (AVto.int e2) .nil) (.refl rest))
 generalize mkMod (.ext N) m=z at V e1
 refine e11 V.intI ?_;clear V;intro t' Y;subst Y
 rw [e1]
 exact h D' s' t' le I₂ sm
end
end
section
noncomputable def scriptN:List Nat:=[115,99,114,105,112,116]
noncomputable def numberN:List Nat:=[110,117,109,98,101,114]
noncomputable def cellN:List Nat:=[99,101,108,108]
noncomputable def at0 (l:List Pos) (i:Nat):Pos:=l.getD i ⟨0,0,0,0⟩
noncomputable def posB1 (zs:Stmt):List Pos×Nat:=((atL zs [1,66,8322,130,2,0]),(atK zs 8322))
noncomputable def posB2 (zs:Stmt):List Pos×Nat:=((atL zs [85,4245,8341,149,21,0]),(atK zs 8341))
noncomputable def bgS (i:Nat):Stmt:=b653.1.getD i (.Pass ⟨0,0,0,0⟩)
theorem bg_body:b653.1=[bgS 0]++([.For (.Name (S cellN) (at0 (posB1 (bgS 1)).1 0)) (.Subscript (.Name (S scriptN) (at0 (posB1 (bgS 1)).1 1)) (.Slice none (some (.Constant (.int 24) (posB1 (bgS 1)).2 (at0 (posB1 (bgS 1)).1 2))) none (at0 (posB1 (bgS 1)).1 3)) (at0 (posB1 (bgS 1)).1 4)) (fBody (bgS 1)) [] (at0 (posB1 (bgS 1)).1 5)] ++
  ([.If (iTest (bgS 2)) [.Assign [.Name (S numberN) (at0 (posB2 (bgS 2)).1 0)] (.BinOp (.Name (S numberN) (at0 (posB2 (bgS 2)).1 1)) .Pow (.Constant (.int 5) (posB2 (bgS 2)).2 (at0 (posB2 (bgS 2)).1 2)) (at0 (posB2 (bgS 2)).1 3)) (at0 (posB2 (bgS 2)).1 4)] [] (at0 (posB2 (bgS 2)).1 5)]++[bgS 3])):=by kernel_rfl
theorem args653:((sArgs (stA 64)).args.map fun p=>p.arg.cps.toList)=[scriptN]:=by kernel_rfl
theorem fn653 (w:World):FnOk w 653 (sArgs (stA 64)) (sBody (stA 64)) (sScope (stA 64)):=by
 refine fnOk_of (dV:=.none) (cd:=652) (q:=S [95,108,97,119,95,98,97,103]) (pm:=.str (S zq3) 1005) (by kernel_rfl) (by kernel_rfl) (by kernel_rfl) fun s vs h=>?_
 have hl:(sArgs (stA 64)).args.length=1:=by kernel_rfl
 rw [hl] at h
 refine e11 (len1 h) ?_;clear h;intro v0 Y1;subst Y1
 exact BindsTo.of_eq (by kernel_rfl)
noncomputable def bgM:Int:=10 ^ 120
noncomputable def bgL (v:Value) (n:Int):Locs:=[(scriptN,.val v),(numberN,.int (.ext n))]
theorem bg0 (v:Value):(recs T0 60).exs s653.1 ⟨[(scriptN,.val v)],[]⟩ [bgS 0] []=some (.next ⟨[(scriptN,.val v),(numberN,.int (.lit 7))],[]⟩):=by kernel_rfl
theorem bg1 (v:Value) (n c:Int):(recs T0 60).exs s653.1 ⟨bgL v n++[(cellN,.int (.ext c))],[]⟩ (fBody (bgS 1)) []=some (.next ⟨[(scriptN,.val v),(numberN,.int (.add (.cons 1000033 (.lit 0) (.ext n)) (.fmod (.ext c) bgM))),(cellN,.int (.ext c))],[]⟩):=by kernel_rfl
theorem bg2 (v:Value) (n:Int):(recs T0 60).tst s653.1 ⟨bgL v n,[]⟩ (iTest (bgS 2))=some (.u (.lt (.ext n) (.lit (10 ^ 50))),⟨bgL v n,[]⟩):=by kernel_rfl
theorem bg3 (v:Value) (n:Int):(recs T0 60).exs s653.1 ⟨bgL v n,[]⟩ [bgS 3] []=some (.ret (.loc 0) ⟨bgL v n,[[.int (.ext n)]]⟩):=by kernel_rfl
noncomputable def bgStep (n:Int) (v:Value):Int:=match v with
 | .int c _=>n*1000033+Int.fmod c bgM
 | _=>n
noncomputable def bgAt (vs:List Value) (i:Nat):Int:=(vs.take i).foldl bgStep 7
theorem bgAt_succ {vs:List Value}{i:Nat}{v:Value} (h:vs[i]?=some v):bgAt vs (i+1)=bgStep (bgAt vs i) v:=by
 refine e11 (List.getElem?_eq_some_iff.mp h) ?_;clear h;intro hi e
 unfold bgAt
 rw [List.take_succ_eq_append_getElem hi,List.foldl_append,e];rfl
theorem bgAt_pos (vs:List Value):∀ i,0≤bgAt vs i
 | 0=>by show (0:Int)≤7;decide
 | i+1=>by
  have ih:=bgAt_pos vs i
  cases h:vs[i]? with
  | none =>
   have hl:vs.length≤i:=by simpa using h
   have:bgAt vs (i+1)=bgAt vs i:=by unfold bgAt;rw [zT hl,zT (by lia)]
   rw [this];exact ih
  | some v =>
   rw [bgAt_succ h]
   unfold bgStep
   split
   ·rename_i c _
    have:0≤Int.fmod c bgM:=by rw [Int.fmod_eq_emod_of_nonneg _ (by decide +kernel)];exact Int.emod_nonneg _ (by decide +kernel)
    lia
   ·exact ih
theorem ints_at {vs:List Value}{ns:List Int} (V:IntsAre vs ns):∀ v∈vs,∃ c t,v=.int c t:=by
 induction V with
 | nil=>exact fun _ h=>nomatch h
 | cons n t r ih =>
  intro v h
  rcases zC h with h|h
  ·(exact (i21 n t h))
  ·exact ih v h
section
variable {w:World}{mean:ExcName→Option Value}{mg mb:Str→Option Value}{n:Nat}{ρ:Rho}{X:FX}{D:Led}{st:St}{loc:Locs}{rest:List (List AV)}{s:Shared}
theorem bag_fn {la:Addr}{vs:List Value}{ns:List Int} (hi:IntsAre vs ns) (hn:ns.length≤100) (hl:X.h₀.IsList la vs.toArray) {fv:Value}{Q:Value→Shared→Prop} (hX:X.Ok w mean mg mb ρ) (hr:Room X 133) (I:Inv ρ X D ⟨loc,[]⟩ s) (hf:VR ρ D (.top 653) fv)
  (h:∀ N D' s' v,D.le D'→Inv ρ X D' ⟨loc,[[.int (.ext N)]]⟩ s'→VR ρ D' (.loc 0) v→Same s s'→Q v s'):wpAny (model pw w) X.A (call fv [.ref la]) Q F0 s:=by
 refine enter_keep (n:=132) (fn653 w) (args:=[.val (.ref la)]) (l:=[(scriptN,.val (.ref la))]) (by rw [args653];rfl) hX hr I hf (.cons (.val _) .nil) (fun D' lst' v=>∃ N,lst'=[[.int (.ext N)]]∧VR ρ D' (.loc 0) v)
  (fun X' hcs hhx hfx hk0 hX' hr' s₁ I₁ sm₁=>?_) (fun D' lst' v s' le I' hp sm=>by (refine e12 (hp) ?_;try clear hp;intro N Y1 V;subst Y1);exact h N D' s' v le I' V sm)
 have hcs':X'.cs=s653.1:=hcs.trans s653.2
 have HT:=(T0_all w mean mg mb).toTabsOk
 have R:=recs_ok (T0_all w mean mg mb) 60
 have hl':X'.h₀.IsList la vs.toArray:=by
  refine e12 (hl) ?_;clear hl;intro o e r
  (exact (i12 o (hk0 _ _ e) r))
 rw [b653.2,bg_body]
 refine wpAny_hide fun Qp hQp=>?_
 refine execs_app (exs_two (m:=60) (T0_all w mean mg mb) hX' hr' hcs' (bg0 (.ref la)) I₁ fun D₂ s₂ le₂ I₂ sm₂=>?_)
 refine execs_app (wpAny_execs_cons (wpAny_For (Subscript_ (name_ok HT hX' (av:=.val (.ref la)) (by rw [hcs'];rfl) I₂ fun D₃ v₃ s₃ le₃ I₃ V₃ sm₃=>?_)) (fun x=>rfl)))
 (have Y:=V₃.valI;clear V₃;subst Y)
 refine wpAny_Slice (wpAny_evalPart_none (wpAny_evalPart_some (wpAny_Constant_int (wpAny_evalPart_none ?_))))
 have hvl:=hi.length
 refine e21 (id I₃) ?_;clear I₃;intro m₃ P₃ J₃
 have hl3:s₃.heap.IsList la vs.toArray:=by
  refine e12 (hl') ?_;clear hl';intro o e r
  (exact (i12 o (J₃.F.keep _ _ e) r))
 refine slice_list (s:={s₃ with toks:=s₃.toks+1}) J₃.F J₃.N hl3 .none (.int 24 _) (fun h₄ F₄ N₄=>?_) rfl (fun _=>rfl) (by simp [show sizeLine=16777216 from rfl];lia)
 have hi4:=slice_ints_uptoW hi (y:=24) (by decide)
 generalize hvs:(slicePick vs.toArray none (some 24) none)=its at hi4 F₄ N₄ ⊢
 have hitsL:its.toList.toArray=its:=by simp
 have hlen24:=hi4.length
 have hvals:=ints_at hi4
 generalize its.toList=vs' at hi4 hitsL hlen24 hvals
 subst hitsL
 have lt4:∀ p∈P₃++(D₃.imm++X'.fx),p.1<s₃.heap.objs.size+1:=fun p hp=>Nat.lt_succ_of_lt (J₃.lt hp)
 let D₄:Led:=⟨(s₃.heap.objs.size+1,{cls:=.type "list",data:=.seq vs'.toArray})::D₃.imm,D₃.lad⟩
 have I₄:Inv ρ X' D₄ ⟨[(scriptN,.val (.ref la)),(numberN,.int (.lit 7))],[]⟩ {s₃ with heap:=h₄,toks:=s₃.toks+1}:=⟨m₃,P₃,J₃.pushAt _ _ lt4 F₄ N₄⟩
 have hg4:h₄.get? (s₃.heap.objs.size+1)=some {cls:=.type "list",data:=.seq vs'.toArray}:=(N₄ _ (.head _)).1
 refine wpAny_pyIter_list (l:=s₃.heap.objs.size+1) (items:=vs'.toArray) ⟨_,hg4,rfl,_,rfl⟩ ?_
 have I₄':Inv ρ X' D₄ ⟨bgL (.ref la) (bgAt vs' 0),[]⟩ {s₃ with heap:=h₄,toks:=s₃.toks+1}:=I₄.reloc (.cons (by rfl) AVeq.rfl' (.cons (a:=.int (.lit 7)) (by rfl) (AVeq.int rfl) .nil))
 refine e14 (fresh_iter I₄' (Heap.lt_size hg4)) ?_;clear I₄' hg4;intro o I₆ hit hfx6 hne6
 refine list_loop (items:=vs') (fun i=>⟨bgL (.ref la) (bgAt vs' i),[]⟩) hne6 hfx6 (fun i o D' s' le I'=>?_) (fun i v o D' s' Qn hv le I' hit' hq=>?_) I₆ hit (fun D' s' le I' sm=>?_)
 ·refine e21 (I') ?_;try clear I';intro m P J
  exact ⟨_,J.imm (le.imm _ (.head _)),rfl,_,rfl⟩
 ·refine e21 (hvals v (List.mem_of_getElem? hv)) ?_;clear hvals;intro c tk Y2;subst Y2
  have hsucc:=bgAt_succ hv
  unfold TurnQ
  refine wpAny_pure ?_
  have hXw:=okWith (I:=h₄.objs.size) (o:=o) hX'
  have hcsw:(X'.with h₄.objs.size o).cs=s653.1:=hcs'
  refine bind_ok (X:=X'.with h₄.objs.size o) hXw (by rw [hcsw];rfl) I' (.int (.ext c) tk) fun s₇ I₇ sm₇=>?_
  have I₇:Inv ρ (X'.with h₄.objs.size o) D' ⟨bgL (.ref la) (bgAt vs' i)++[(cellN,.int (.ext c))],[]⟩ s₇:=I₇
  refine R.2.2.1 _ _ _ [] _ (bg1 (.ref la) (bgAt vs' i) c) ρ (X'.with h₄.objs.size o) D' s₇ _ hcsw hXw hr' I₇ fun D₈ fl s₈ le₈ fr sm₈=>?_
  refine e02 (fr) ?_;try clear fr;intro Y0 I₈;subst Y0
  refine ⟨rfl,hq D₈ s₈ le₈ ?_ (sm₇.trans sm₈)⟩
  refine I₈.reloc (.cons (by rfl) AVeq.rfl' (.cons (a:=.int (.add (.cons 1000033 (.lit 0) (.ext (bgAt vs' i))) (.fmod (.ext c) bgM))) (by rfl) (AVeq.int ?_) .nil))
  show bgAt vs' i*1000033+0+Int.fmod c bgM=bgAt vs' (i+1)
  rw [hsucc,Int.add_zero];rfl
 ·-- after the loop
  have hpos:=bgAt_pos vs' vs'.length
  have I':Inv ρ X' D' ⟨bgL (.ref la) (bgAt vs' vs'.length),[]⟩ s':=I'
  generalize bgAt vs' vs'.length=N at hpos I'
  refine wpAny_execs_nil ?_
  have fin:∀ (N:Int) D₉ s₉,D'.le D₉→Inv ρ X' D₉ ⟨bgL (.ref la) N,[]⟩ s₉→Same s' s₉→wpAny (model pw w) X'.A (execs [bgS 3] X'.env) Qp F0 s₉:=fun N D₉ s₉ le₉ I₉ sm₉=>by
   refine R.2.2.1 _ _ _ [] _ (bg3 (.ref la) N) ρ X' D₉ s₉ _ hcs' hX' hr' I₉ fun D₁₀ fl s₁₀ le₁₀ fr sm₁₀=>?_
   refine e13 (fr) ?_;clear fr;intro v Y1 V I₁₀;subst Y1
   exact hQp _ _ ⟨v,D₁₀,_,rfl,(((((le₂.trans le₃).trans (Led.le_imm D₃ _)).trans le).trans le₉).trans le₁₀),I₁₀,((((sm₁.trans sm₂).trans sm₃).trans ⟨sm.gens,sm.drawn,sm.os⟩).trans sm₉).trans sm₁₀,N,rfl,V⟩
  refine execs_app (wpAny_execs_cons (wpAny_If (R.2.1 _ _ _ _ _ (bg2 (.ref la) N) ρ X' D' s' _ hcs' hX' hr' I' fun D₉ b₉ s₉ le₉ I₉ V₉ sm₉=>?_)))
  (have Y:=V₉.uI;clear V₉;subst Y)
  have hc:(BE.lt (.ext N) (.lit (10 ^ 50))).den ρ=decide (N<10 ^ 50):=by simp only [BE.den,IE.den,ltB_dec]
  rw [hc]
  by_cases q:N<10 ^ 50
  ·rw [decide_eq_true q,if_pos rfl]
   refine wpAny_execs_cons (wpAny_Assign_Name (wpAny_BinOp (name_ok HT hX' (av:=.int (.ext N)) (by rw [hcs'];rfl) I₉ fun D₁₀ v₁₀ s₁₀ le₁₀ I₁₀ V₁₀ sm₁₀=>wpAny_Constant_int ?_)))
   refine e11 V₁₀.intI ?_;clear V₁₀;intro t₁₀ Y;subst Y
   refine PyProof.Rows.pow_int (by decide) ?_ ?_
   ·have h1:Builtin.Int.intBits N≤200:=by
     unfold Builtin.Int.intBits
     split
     ·exact Nat.zero_le _
     ·rename_i hx
      have hx:N≠0:=by simpa using hx
      have:N.natAbs.log2<200:=(Nat.log2_lt (by lia)).mpr (by lia)
      assumption
    show (Builtin.Int.intBits N:Int)*5≤2 ^ 27
    lia
   ·refine store_ok (x:=S numberN) hX' (by rw [hcs'];rfl) (I₁₀.add (s₁₀.toks+1+1)) (.int (.ext (N ^ 5)) _) fun s₁₁ I₁₁ sm₁₁=>?_
    refine wpAny_execs_nil (wpAny_execs_nil ?_)
    exact fin (N ^ 5) D₁₀ s₁₁ (le₉.trans le₁₀) I₁₁ ((sm₉.trans sm₁₀).trans ⟨sm₁₁.gens,sm₁₁.drawn,sm₁₁.os⟩)
  ·rw [decide_eq_false q,if_neg zF]
   exact wpAny_execs_nil (wpAny_execs_nil (fin N D₉ s₉ le₉ I₉ sm₉))
end
end
end Nn62
end
section
open PySem PySem.W PySem.Calls PyProof.Rows
namespace Nn62
section
section
variable {w:World}{mean:ExcName→Option Value}{mg mb:Str→Option Value}{n:Nat}{ρ:Rho}{X:FX}{D:Led}{st:St}{s:Shared}{loc:Locs}{base:List (List AV)}{items:List AV}
noncomputable abbrev lObj (vs:List Value) (k:Nat):Obj:={cls:=.type "list",data:=.seq vs.toArray k}
theorem Inv.freeze {l':Locs} (I:Inv ρ X D ⟨loc,base++[items]⟩ s) (hb:lstLb base.length base=true):∃ a vs k,VRs ρ D items vs∧D.lad[base.length]?=some a ∧
  (D.le ⟨(a,lObj vs k)::D.imm,D.lad⟩) ∧
  ((∀ x b,lkL l' x=some b→∃ c,lkL loc x=some c∧∀ v,VR ρ D c v→VR ρ ⟨(a,lObj vs k)::D.imm,D.lad.take base.length⟩ b v)→Inv ρ X ⟨(a,lObj vs k)::D.imm,D.lad.take base.length⟩ ⟨l',base⟩ s):=by
 refine e21 (I) ?_;try clear I;intro m P J
 have hll:P.length=base.length+1:=by rw [J.ls.length];simp
 refine e32 (J.ls.get (i:=base.length) (l:=items) (by simp)) ?_;intro a vs k e1 hv
 have hP:P=P.take base.length++[(a,lObj vs k)]:=by
  conv=>lhs;rw [← List.take_append_drop base.length P]
  congr 1
  have:=(List.getElem?_eq_some_iff.mp e1)
  rw [List.drop_eq_getElem_cons this.1,this.2,List.drop_of_length_le (by lia)]
 have hlad:D.lad=D.lad.take base.length++[a]:=by
  have:=congrArg (List.map (·.1)) hP
  rw [List.map_append,J.ad,List.map_take,J.ad] at this
  exact this
 have hal:D.lad[base.length]?=some a:=by rw [← J.ad,List.getElem?_map,e1];rfl
 have ham:a∈D.lad:=List.mem_of_getElem? hal
 refine (i34 a vs k hv hal (⟨fun _ h=>.tail _ h,fun _ _ e=>e⟩) (fun hl=>?_))
 have nd:=J.nd
 rw [hlad,List.nodup_append] at nd
 refine ⟨m,P.take base.length,J.F,fun p hp=>J.N p ?_,fun x b e=>?_,?_,by rw [List.map_take,J.ad],nd.1,fun p hp ha=>?_,fun p hp q hq=>?_⟩
 ·rcases zA hp with h|h
  ·exact zL _ (List.mem_of_mem_take h)
  ·rcases zC h with rfl|h
   ·exact zL _ (List.mem_of_getElem? e1)
   ·exact zR _ h
 ·refine e12 (hl x b e) ?_;intro c h1 h2
  refine e12 (J.loc x c h1) ?_;intro v g1 g2
  (exact (i12 v g1 (h2 v g2)))
 ·have h1:=J.ls.cut (k:=base.length) (j:=base.length) (by rw [List.take_left];exact hb)
  rw [List.take_left] at h1
  exact h1.mono (Led.le_imm ⟨D.imm,D.lad.take base.length⟩ _)
 ·rcases zC hp with rfl|hp
  ·exact nd.2.2 a ha a (.head _) rfl
  ·exact J.dj p hp (List.mem_of_mem_take ha)
 ·rcases zC hp with rfl|hp
  ·intro e
   exact J.dj q (zR _ hq) (by rw [← e];exact ham)
  ·exact J.fd p hp q hq
noncomputable def LShape (I Dl:Addr) (vs:List Value) (i:Nat) (h:Heap):Prop:=h.IsListIter I Dl i∧h.IsList Dl vs.toArray
theorem iter_list {Dl:Addr}{vs:List Value}{k:Nat} (J:Inv ρ X D st s) (hm:(Dl,lObj vs k)∈D.imm++X.fx) {Q:Value→Shared→Prop}
  (h:∀ I o s',Iter w X I [I,Dl] vs.length (fun i v=>vs[i]?=some v) (LShape I Dl vs) D→Inv ρ (X.with I o) D st s'→LShape I Dl vs 0 s'.heap→Same s s'→Q (.ref I) s'):wpAny (model pw w) X.A (pyIter (.ref Dl)) Q F0 s:=by
 have hD:=J.fx_obj hm
 refine wpAny_pyIter_list (l:=Dl) (items:=vs.toArray) ⟨_,hD,rfl,_,rfl⟩ ?_
 refine e14 (fresh_iter J (Heap.lt_size hD)) ?_;intro o I₆ hit hfx6 hne6
 have hD6:=I₆.fx_obj (p:=(Dl,lObj vs k)) (by
  rcases zA hm with z|z
  ·exact zL _ z
  ·exact zR _ (.tail _ z))
 have W:=Walks.list (prog:=pw) (w:=w) (A:=X.A) rfl s.heap.objs.size Dl hne6 vs.toArray
 refine h _ o _ ⟨{sub:=W.sub,frame:=W.frame,done:=fun s Q E st hq=>W.done s Q E (by rw [List.size_toArray];exact st) hq,self:=W.self,item:=fun i s Q E hi st hq=>W.item i s Q E (by simpa using hi) st fun v h' tk pv=>hq v h' tk (by simpa using pv)},fun i h st=>?_,hfx6,fun b hb=>?_⟩ I₆ ⟨hit,⟨_,hD6,rfl,_,rfl⟩⟩ ⟨rfl,rfl,rfl⟩
 ·obtain ⟨⟨o,e,_⟩,_⟩:=st;exact ⟨o,e⟩
 ·rcases zC hb with rfl|hb
  ·exact .inl rfl
  ·rw [zS hb];exact .inr ⟨_,hm⟩
noncomputable def RShape (I:Addr) (N:Nat) (i:Nat) (h:Heap):Prop:=IsRangeIter h I (0+(i:Nat)*1) ((N:Int)-(i:Nat)) 1
theorem rng100:∀ N:Nat,N<101→rngOk 0 (N:Int) 1=true:=by decide +kernel
theorem iter_range {r:Addr}{N:Nat} (J:Inv ρ X D st s) (hN:N≤100) (V:VR ρ D (.rng 0 N 1) (.ref r)) {Q:Value→Shared→Prop}
  (h:∀ I o s',Iter w X I [I] N (fun i v=>∃ t,v=.int (i:Int) t) (RShape I N) D→Inv ρ (X.with I o) D st s'→RShape I N 0 s'.heap→Same s s'→Q (.ref I) s'):wpAny (model pw w) X.A (pyIter (.ref r)) Q F0 s:=by
 refine e42 V.rngI ?_;clear V;intro _ _ _ _ hm Y;have Y:=Value.ref.inj Y;subst Y
 have hb:=rng100 N (Nat.lt_succ_of_le hN)
 have hsm:=(rngOk_small hb).2.2.2.2
 have hsz:Builtin.Range.rangeSize 0 (N:Int) 1=(N:Int):=by
  unfold Builtin.Range.rangeSize
  rw [if_pos (by decide)]
  split <;> lia
 refine wpAny_pyIter_range (J.fx_obj (zL _ hm)) hsm ?_
 refine e21 (J) ?_;try clear J;intro m P J
 have J':=J.pushFx {cls:=.type "range_iterator",data:=.fields #[rawInt 0,rawInt (Builtin.Range.rangeSize 0 N 1),rawInt 1]} rfl
 have W:=Walks.range (prog:=pw) (w:=w) (A:=X.A) rfl s.heap.objs.size 0 1 N
 refine h _ _ _ ⟨{sub:=W.sub,frame:=W.frame,done:=W.done,self:=W.self,item:=fun i s Q E hi st hq=>W.item i s Q E hi st fun v h' tk pv=>hq v h' tk (by (refine e11 (pv) ?_;try clear pv;intro t e);exact ⟨t,by rw [e];simp⟩)},fun i h st=>⟨_,st⟩,J.fx_ne,fun b hb=>.inl (zS hb)⟩ ⟨m,P,J'⟩ ?_ ⟨rfl,rfl,rfl⟩
 show IsRangeIter _ _ _ _ _
 rw [← show Builtin.Range.rangeSize 0 (N:Int) 1=(N:Int)-((0:Nat):Int) by rw [hsz];simp]
 exact Heap.get?_push_size _ rfl
theorem range_call {N:Nat}{t:Tok} (J:Inv ρ X D st s) {Q:Value→Shared→Prop} (h:∀ D' r s',D.le D'→Inv ρ X D' st s'→VR ρ D' (.rng 0 N 1) (.ref r)→Same s s'→Q (.ref r) s'):wpAny (model pw w) X.A (call (.type "range") [.int (N:Int) t]) Q F0 s:=by
 refine call_range_1 ?_
 refine e13 (rng_made (a:=0) (b:=N) (c:=1) (t:=s.toks) (u:=t) (v:=s.toks+1) J (s.toks+1+1)) ?_;intro D' le I' V
 exact h D' _ _ le I' V ⟨rfl,rfl,rfl⟩
theorem comp_okT {elt iter:Expr}{ifs:List Expr}{x:Str}{px pos:Pos}{scope:Scope}{cl:List (Str×Addr)}{Q:Value→Shared→Prop} (hclos:closureFor scope X.env=pure cl) (hcell:∀ y∈scope.names,y.2≠.cell) (hkind:scope.kind=.function)
  (hnames:∀ y∈scope.names,y.2=.local→scope.names.lookup y.1=some .local) (hx:scope.names.lookup x=some .local) (hs:∀ x,foldedSetIterable iter X.env x=pure x)
  (h:wpAny (model pw w) X.A (eval iter X.env) (fun xv s₁=>wpAny (model pw w) X.A (pyIter xv) (fun it s₂=>∃ I o fp N P Sh D loc base Ok,it=.ref I∧N≤100000∧Iter w X I fp N P Sh D∧Inv ρ (X.with I o) D ⟨loc,base⟩ s₂∧Sh 0 s₂.heap∧(∀ D',D.le D'→Ok 0 D' base []) ∧
   (∀ C,C≠I→(∀ q∈X.fx,q.1≠C)→EltT w ρ X I C P N x elt ifs (compEnvC scope cl C X.env) loc base.length D Ok) ∧
   (∀ D' base' items s' a,D.le D'→base'.length=base.length→Ok N D' base' items→Inv ρ X D' ⟨loc,base'++[items]⟩ s'→VR ρ D' (.loc base.length) (.ref a)→Same s₂ s'→Q (.ref a) s')) F0 s₁) F0 s) :
  wpAny (model pw w) X.A (eval (.ListComp elt [⟨.Name x px,iter,ifs,0⟩] scope pos) X.env) Q F0 s:=by
 rw [eval_ListComp]
 refine wpAny_comprehension_free (use:=none) rfl hs hclos hkind hnames (wpAny_mono h (fun xv s₁ h₁=>wpAny_mono h₁ (fun it s₂ h₂=>?_) fun _ _ e=>e) fun _ _ e=>e)
 refine e10_8 h₂ ?_;clear h₂;intro I o fp N P Sh D loc base Ok Y hN t J h0 hok he hq;subst Y
 refine comp_block (RR:=fun acc C=>compPost (model pw w) X.A F0 none Q acc C) t hN Ok hcell hkind hx o J h0 hok he fun D' base' items C oC' m' s' a le hb ok I' hCfx hns V sm=>?_
 refine (i12 m' hns (fun h' hs'=>?_))
 refine e21 (I') ?_;try clear I';intro m P JA
 exact hq D' base' items _ a le hb ok (inv_end (tk:=s'.toks) hCfx JA fun b y hb e=>(hs'.2 b fun q=>hb (List.mem_singleton.mpr q)).trans e) V ⟨sm.gens,sm.drawn,sm.os⟩
theorem comp_ok {elt iter:Expr}{x:Str}{px pos:Pos}{scope:Scope}{cl:List (Str×Addr)}{Q:Value→Shared→Prop} (hclos:closureFor scope X.env=pure cl) (hcell:∀ y∈scope.names,y.2≠.cell) (hkind:scope.kind=.function)
  (hnames:∀ y∈scope.names,y.2=.local→scope.names.lookup y.1=some .local) (hx:scope.names.lookup x=some .local) (hs:∀ x,foldedSetIterable iter X.env x=pure x)
  (h:wpAny (model pw w) X.A (eval iter X.env) (fun xv s₁=>wpAny (model pw w) X.A (pyIter xv) (fun it s₂=>∃ I o fp N P Sh D loc base Ok,it=.ref I∧N≤100000∧Iter w X I fp N P Sh D∧Inv ρ (X.with I o) D ⟨loc,base⟩ s₂∧Sh 0 s₂.heap∧(∀ D',D.le D'→Ok 0 D' base []) ∧
   (∀ C,C≠I→(∀ q∈X.fx,q.1≠C)→EltQ w ρ X I C P N x elt (compEnvC scope cl C X.env) loc base.length D Ok) ∧
   (∀ D' base' items s' a,D.le D'→base'.length=base.length→Ok N D' base' items→Inv ρ X D' ⟨loc,base'++[items]⟩ s'→VR ρ D' (.loc base.length) (.ref a)→Same s₂ s'→Q (.ref a) s')) F0 s₁) F0 s) :
  wpAny (model pw w) X.A (eval (.ListComp elt [⟨.Name x px,iter,[],0⟩] scope pos) X.env) Q F0 s :=
 comp_okT (cl:=cl) hclos hcell hkind hnames hx hs (wpAny_mono h (fun _ _ h₁=>wpAny_mono h₁ (fun _ _ h₂=>by
  refine e10_8 h₂ ?_;clear h₂;intro I o fp N P Sh D loc base Ok e hN t J h0 hok he hq
  exact i10_8 I o fp N P Sh D loc base Ok e hN t J h0 hok (fun C a b=>(he C a b).t) hq) fun _ _ e=>e) fun _ _ e=>e)
theorem comp_bind {elt iter:Expr}{x y:Str}{px py pos spos:Pos}{scope:Scope}{cl:List (Str×Addr)}{Q:Flow→Shared→Prop} (hX:X.Ok w mean mg mb ρ) (hsw:swapsWith (.ListComp elt [⟨.Name x px,iter,[],0⟩] scope pos) (some (.Name y py)) spos.line X.env=pure true)
  (hclos:closureFor scope X.env=pure cl) (hcell:∀ y∈scope.names,y.2≠.cell) (hkind:scope.kind=.function)
  (hnames:∀ y∈scope.names,y.2=.local→scope.names.lookup y.1=some .local) (hx:scope.names.lookup x=some .local) (hs:∀ x,foldedSetIterable iter X.env x=pure x) (hy:isLocal X.cs y=true)
  (h:wpAny (model pw w) X.A (eval iter X.env) (fun xv s₁=>wpAny (model pw w) X.A (pyIter xv) (fun it s₂=>∃ I o fp N P Sh D loc base Ok,it=.ref I∧N≤100000∧Iter w X I fp N P Sh D∧Inv ρ (X.with I o) D ⟨loc,base⟩ s₂∧Sh 0 s₂.heap∧(∀ D',D.le D'→Ok 0 D' base []) ∧
   (∀ C,C≠I→(∀ q∈X.fx,q.1≠C)→EltQ w ρ X I C P N x elt (compEnvC scope cl C X.env) loc base.length D Ok) ∧
   (∀ D' base' items s',D.le D'→base'.length=base.length→Ok N D' base' items→Inv ρ X D' ⟨setL loc y.cps.toList (.loc base.length),base'++[items]⟩ s'→Same s₂ s'→Q .next s')) F0 s₁) F0 s) :
  wpAny (model pw w) X.A (exec (.Assign [.Name y py] (.ListComp elt [⟨.Name x px,iter,[],0⟩] scope pos) spos) X.env) Q F0 s:=by
 rw [exec_Assign_Name_used _ _ _ _ hsw]
 refine wpAny_bind (wpAny_standAt (wpAny_bind ?_))
 show wpAny _ X.A (do let _ ← comprehension (.ListComp elt [⟨.Name x px,iter,[],0⟩] scope pos) scope X.env _ (newList []) false (eval iter X.env) (some (assign (.Name y py) X.env))) _ _ s
 refine wpAny_bind (wpAny_mono (wpAny_comprehension_free (use:=some (assign (.Name y py) X.env)) (Q:=fun _ s'=>Q .next s') rfl hs hclos hkind hnames
  (wpAny_mono h (fun xv s₁ h₁=>wpAny_mono h₁ (fun it s₂ h₂=>?_) fun _ _ e=>e) fun _ _ e=>e)) (fun _ s' hq=>wpAny_pure (wpAny_pure hq)) fun _ _ e=>e)
 refine e10_8 h₂ ?_;clear h₂;intro I o fp N P Sh D loc base Ok Y hN t J h0 hok he hq;subst Y
 refine comp_block (RR:=fun acc C=>compPost (model pw w) X.A F0 (some (assign (.Name y py) X.env)) (fun _ s'=>Q .next s') acc C) t hN Ok hcell hkind hx o J h0 hok (fun C a b=>(he C a b).t) fun D' base' items C oC' m' s' a le hb ok I' hCfx hns V sm=>?_
 have hXw:(X.with C oC').Ok w mean mg mb ρ:=okWith hX
 have hCL:X.L≠C:=by
  refine e21 (id I') ?_;intro m P JA
  exact fun q=>(JA.N (C,oC') (zR _ (zR _ (.head _)))).2.1 q.symm
 show wpAny _ X.A (assign (.Name y py) X.env (.ref a)) _ _ _
 refine bind_ok (X:=X.with C oC') hXw hy I' V fun s₃ I₃ sm₃=>?_
 refine e21 (I₃) ?_;try clear I₃;intro m P JA
 have hC3:=(JA.N (C,oC') (zR _ (zR _ (.head _)))).1
 have hC':s'.heap.get? C=some oC':=I'.fx_obj (p:=(C,oC')) (zR _ (.head _))
 refine (i12 m' (hns.at' fun ob e=>?_) (fun h' hs'=>?_))
 ·rw [hC'] at e;(have Y0:=s1 e;try clear e;subst Y0);exact hC3
 ·exact hq D' base' items _ le hb ok (inv_end (tk:=s₃.toks) hCfx JA fun b y hb e=>(hs'.2 b fun q=>hb (List.mem_singleton.mpr q)).trans e) (sm.trans ⟨sm₃.gens,sm₃.drawn,sm₃.os⟩)
end
end
end Nn62
end
section
open PySem PySem.W PySem.Calls PyProof.Rows
namespace Nn62
open Builtin Builtin.Str
section
noncomputable def flW:List Nat→List (List Nat)
 | []=>[]
 | a::l=>[a::l]
noncomputable def wdF:List Nat→List Nat→List (List Nat)
 | cur,[]=>flW cur
 | cur,c::r=>if Unicode.isSpace c=true then flW cur++wdF [] r else wdF (cur++[c]) r
theorem wdF_no {c:Nat} (h:Unicode.isSpace c=false) (cur r:List Nat):wdF cur (c::r)=wdF (cur++[c]) r:=if_neg (by rw [h];exact zF)
theorem wdF_yes {c:Nat} (h:Unicode.isSpace c=true) (cur r:List Nat):wdF cur (c::r)=flW cur++wdF [] r:=if_pos h
theorem flW_ne {l:List Nat} (h:l≠[]):flW l=[l]:=by cases l with|nil=>exact absurd rfl h|cons a l=>rfl
theorem sp_no:∀ c,c<127→32<c→Unicode.isSpace c=false:=by decide +kernel
theorem sp_yes:Unicode.isSpace 32=true:=by decide +kernel
noncomputable def Solid (l:List Nat):Prop:=l≠[]∧∀ c∈l,32<c∧c<127
theorem wdF_solid {w:List Nat} (h:∀ c∈w,32<c∧c<127):∀ (cur r:List Nat),wdF cur (w++r)=wdF (cur++w) r:=by
 induction w with
 | nil=>intro cur r;rw [List.append_nil];rfl
 | cons c w ih =>
  intro cur r
  refine e02 (h c (.head _)) ?_;intro h1 h2
  rw [List.cons_append,wdF_no (sp_no c h2 h1),ih fun d hd=>h d (.tail _ hd),List.append_assoc];rfl
theorem wdF_sp (r:List Nat):wdF [] (32::r)=wdF [] r:=wdF_yes sp_yes [] r
theorem wdF_word {w:List Nat} (h:Solid w) (r:List Nat):wdF [] (w++32::r)=w::wdF [] r:=by
 rw [wdF_solid h.2,List.nil_append,wdF_yes sp_yes,flW_ne h.1];rfl
theorem wdF_last {w:List Nat} (h:Solid w):wdF [] w=[w]:=by
 have:=wdF_solid h.2 [] []
 rw [List.append_nil,List.nil_append] at this
 rw [this]
 exact flW_ne h.1
theorem wdF_join:∀ {ws:List (List Nat)},(∀ x∈ws,Solid x)→wdF [] (joinL 32 ws)=ws
 | [],_=>rfl
 | [x],h=>wdF_last (h x (.head _))
 | x::y::r,h=>by
  show wdF [] (x++32::joinL 32 (y::r))=_
  rw [wdF_word (h x (.head _)),wdF_join fun z hz=>h z (.tail _ hz)]
theorem wdF_join2:∀ {ws:List (List Nat)} (r:List Nat),(∀ x∈ws,Solid x)→wdF [] (joinL 32 ws++32::r)=ws++wdF [] r
 | [],r,_=>wdF_sp r
 | [x],r,h=>wdF_word (h x (.head _)) r
 | x::y::z,r,h=>by
  show wdF [] ((x++32::joinL 32 (y::z))++32::r)=_
  rw [List.append_assoc,List.cons_append,wdF_word (h x (.head _)),wdF_join2 r fun q hq=>h q (.tail _ hq)];rfl
theorem wdF_pad (k:Nat) (r:List Nat):wdF [] (List.replicate k 32++r)=wdF [] r:=by
 induction k with
 | zero=>rfl
 | succ k ih=>rw [List.replicate_succ,List.cons_append,wdF_sp,ih]
noncomputable abbrev subL (L:List Nat) (p:Nat×Nat):Str:=strSub (S L) p.1 p.2
noncomputable def SwAt (L pre:List Nat) (W:List Str) (cur:List Nat) (st:StrLaws.SwSt):Prop :=
 st.fst=none∧st.snd.fst.toList.map (subL L)=W∧st.snd.fst.size+(if cur=[] then 0 else 1)≤pre.length∧match st.snd.snd with
 | none=>cur=[]
 | some b=>cur≠[]∧b+cur.length=pre.length∧cur=pre.drop b
theorem sub_S (L:List Nat) (i j:Nat):strSub (S L) i j=S ((L.drop i).take (j-i)):=by
 show (⟨(List.toArray L).extract i j⟩:Str)=⟨⟨_⟩⟩
 simp
theorem cur_sub {pre r:List Nat}{b:Nat}:(S ((((pre++r).drop b).take (pre.length-b))):Str)=S (pre.drop b):=by
 by_cases h:b≤pre.length
 ·rw [List.drop_append_of_le_length h,List.take_append_of_le_length (by simp),zT (by simp)]
 ·rw [List.drop_of_length_le (by lia:pre.length≤b),show pre.length-b=0 by lia];rfl
theorem sw_go (L:List Nat):∀ (rest pre:List Nat) (W:List Str) (cur:List Nat) (st:StrLaws.SwSt),L=pre++rest→SwAt L pre W cur st →
  (StrLaws.swEnd (S L) (forIn (List.range' pre.length rest.length) st (StrLaws.swBody (S L) (L.length+1))).run).map (subL L)=W++(wdF cur rest).map S
 | [],pre,W,cur,(r,ws,b),hL,⟨h1,h2,h3,h4⟩=>by
  have h1:r=none:=h1
  subst h1
  have h2:ws.toList.map (subL L)=W:=h2
  rw [List.append_nil] at hL
  subst hL
  cases b with
  | none =>
   have h4:cur=[]:=h4
   subst h4
   show List.map (subL L) ws.toList=W++[]
   rw [List.append_nil,h2]
  | some b =>
   refine e03 (h4) ?_;try clear h4;intro h5 h6 h7
   show List.map (subL L) (ws.push (b,(S L).length)).toList=_
   rw [Array.toList_push,List.map_append,h2,S_len]
   congr 1
   show [strSub (S L) b L.length]=_
   have e:=cur_sub (pre:=L) (r:=[]) (b:=b)
   rw [List.append_nil] at e
   rw [sub_S,e,← h7]
   show [S cur]=List.map S (flW cur)
   rw [flW_ne h5];rfl
 | c::rest,pre,W,cur,(r,ws,b),hL,⟨h1,h2,h3,h4⟩=>by
  have h1:r=none:=h1
  subst h1
  have h2:ws.toList.map (subL L)=W:=h2
  have h3:ws.size+(if cur=[] then 0 else 1)≤pre.length:=h3
  rw [List.length_cons,List.range'_succ,List.forIn_cons]
  have hc:(S L).cps.getD pre.length 0=c:=by
   show (List.toArray L).getD pre.length 0=c
   rw [hL];simp
  have hlt:pre.length<L.length:=by rw [hL];simp
  have hsz:(ws.size==L.length+1)=false:=by
   rw [beq_eq_false_iff_ne];lia
  have hL':L=(pre++[c])++rest:=by rw [List.append_assoc];exact hL
  have hl':(pre++[c]).length=pre.length+1:=by simp
  unfold StrLaws.swBody
  simp only [hsz,hc]
  cases b with
  | none =>
   have h4:cur=[]:=h4
   subst h4
   have h3:ws.size+0≤pre.length:=h3
   cases hs:Unicode.isSpace c with
   | true =>
    have ih:=sw_go L rest (pre++[c]) W [] (none,ws,none) hL' ⟨rfl,h2,by rw [hl'];show ws.size+0≤_;lia,rfl⟩
    rw [hl'] at ih
    refine ih.trans ?_
    rw [wdF_yes hs];rfl
   | false =>
    have ih:=sw_go L rest (pre++[c]) W [c] (none,ws,some pre.length) hL' ⟨rfl,h2,by rw [hl'];show ws.size+1≤_;(exact Nat.lt_succ_of_le (by assumption)),by simp,by simp,by simp⟩
    rw [hl'] at ih
    refine ih.trans ?_
    rw [wdF_no hs];rfl
  | some b =>
   refine e03 (h4) ?_;try clear h4;intro h5 h6 h7
   rw [if_neg h5] at h3
   cases hs:Unicode.isSpace c with
   | true =>
    have ih:=sw_go L rest (pre++[c]) (W++[S cur]) [] (none,ws.push (b,pre.length),none) hL' ⟨rfl,by
     show (ws.push (b,pre.length)).toList.map (subL L)=_
     rw [Array.toList_push,List.map_append,h2]
     show W++[strSub (S L) b pre.length]=_
     rw [sub_S,hL,cur_sub,← h7],by rw [hl'];show (ws.push (b,pre.length)).size+0≤_;rw [Array.size_push];lia,rfl⟩
    rw [hl'] at ih
    refine ih.trans ?_
    rw [List.append_assoc,wdF_yes hs,flW_ne h5];rfl
   | false =>
    have hb:b≤pre.length:=by lia
    have ih:=sw_go L rest (pre++[c]) W (cur++[c]) (none,ws,some b) hL' ⟨rfl,h2,by rw [hl',if_neg (by simp)];lia,by simp,by
     show b+(cur++[c]).length=_
     rw [hl',List.length_append];simp;lia,by rw [List.drop_append_of_le_length hb,← h7]⟩
    rw [hl'] at ih
    refine ih.trans ?_
    rw [wdF_no hs]
theorem words_eq (L:List Nat):Txt.words (S L)=(wdF [] L).map S:=by
 have key:=sw_go L L [] [] [] (none,#[],none) rfl ⟨rfl,rfl,by simp,rfl⟩
 have e1:Txt.words (S L)=(spaceWords (S L) ((S L).length+1)).map (subL L):=by
  unfold Txt.words
  split
  ·rename_i h
   rw [beq_iff_eq.mp h,S_len]
   show [S L]=[strSub (S L) 0 L.length]
   rw [sub_S];simp
  ·rfl
 rw [e1,StrLaws.sw_eq,S_len]
 exact key
theorem find_eq {a b:List Nat}{c:Nat} (h:c∉a):Txt.find (S (a++c::b)) (S [c])=(a.length:Int):=by
 have at_:∀ k,StrLaws.At (S (a++c::b)) (S [c]) (S (a++c::b)).length k ↔ (a++c::b)[k]?=some c:=fun k=>by
  unfold StrLaws.At subAt
  rw [S_len,S_len]
  show k+1≤_∧((List.toArray (a++c::b)).extract k (k+1)==#[c])=true ↔ _
  rw [beq_iff_eq]
  constructor
  ·rintro ⟨h1,h2⟩
   have:=congrArg (fun t:Array Nat=>t[0]?) h2
   simpa [Array.getElem?_extract,h1] using this
  ·intro h1
   refine e11 (List.getElem?_eq_some_iff.mp h1) ?_;intro h2 h3
   refine ⟨h2,?_⟩
   apply Array.ext'
   simp only [List.extract_toArray]
   rw [List.extract_eq_take_drop,show k+1-k=1 by lia,List.drop_eq_getElem_cons h2,h3];rfl
 rcases find_whole (S (a++c::b)) (S [c]) with ⟨_,h2⟩|⟨i,h1,h2,h3⟩
 ·exact absurd ((at_ a.length).mpr (by simp)) (h2 a.length)
 ·rw [h1]
  have h2:=(at_ i).mp h2
  have:¬ i<a.length:=fun q=>by
   rw [List.getElem?_append_left q] at h2
   exact h (List.mem_of_getElem? h2)
  have:¬ a.length<i:=fun q=>h3 _ q ((at_ a.length).mpr (by simp))
  have:i=a.length:=by lia
  rw [this]
theorem strip_eq (k:Nat) {w:List Nat} (h:Solid w):Txt.strip (S (List.replicate k 32++w))=S w:=by
 unfold Txt.strip
 rw [PyProof.Rows.stripBy_eq]
 have hlo:stripLo Unicode.isSpace true (S (List.replicate k 32++w))=k:=by
  show ((List.replicate k 32++w).takeWhile Unicode.isSpace).length=k
  rw [List.takeWhile_append_of_pos fun c hc=>by rw [(List.mem_replicate.mp hc).2];exact sp_yes]
  refine e21 (List.exists_cons_of_ne_nil h.1) ?_;intro a l Y2;subst Y2
  have:=h.2 a (.head _)
  rw [List.takeWhile_cons_of_neg (by rw [sp_no a this.2 this.1];exact zF)]
  simp
 have hdrop:((List.replicate k 32++w).drop k)=w:=by simp
 have hhi:stripHi Unicode.isSpace true (S (List.replicate k 32++w)) k=k+w.length:=by
  show (S (List.replicate k 32++w)).length-(((List.replicate k 32++w).drop k).reverse.takeWhile Unicode.isSpace).length=_
  rw [hdrop,S_len]
  have hne:w.reverse≠[]:=fun e=>h.1 (List.reverse_eq_nil_iff.mp e)
  refine e21 (List.exists_cons_of_ne_nil hne) ?_;intro a l e
  have:=h.2 a (List.mem_reverse.mp (e▸.head _))
  rw [e,List.takeWhile_cons_of_neg (by rw [sp_no a this.2 this.1];exact zF)]
  simp
 rw [hlo,hhi,sub_S,hdrop,show k+w.length-k=w.length by lia,List.take_length]
theorem mul_eq (n:Int):Txt.mul (S [32]) n=S (List.replicate n.toNat 32):=by
 unfold Txt.mul
 by_cases h:n<1
 ·rw [if_pos h,show n.toNat=0 by lia];rfl
 ·rw [if_neg h]
  by_cases h1:n=1
  ·subst h1;rfl
  ·rw [if_neg (by rw [S_len];simp [h1])]
   have:∀ (m:Nat) (a:Array Nat),(List.replicate m (S [32]).cps).foldl (·++·) a=a++(List.replicate m 32).toArray:=by
    intro m
    induction m with
    | zero=>intro a;simp
    | succ m ih=>intro a;rw [List.replicate_succ,List.foldl_cons,ih,List.replicate_succ];apply Array.ext';simp
   show (⟨(List.replicate n.toNat (S [32]).cps).foldl (·++·) #[]⟩:Str)=_
   rw [this];simp
theorem tidy_words:∀ {l:List Nat} (p:Bool),tdL l p=some false→∃ w ws,l=w++(match ws with|[]=>[]|_=>32::joinL 32 ws)∧(∀ c∈w,32<c∧c<127)∧(p=true→w≠[])∧∀ x∈ws,Solid x
 | [],p,h=>by
  have h:some p=some false:=h
  (have Y0:=s1 h;try clear h;subst Y0)
  (exact (i24 ([]) ([]) rfl ((fun _ h=>absurd h List.not_mem_nil)) ((fun h=>absurd h zF)) (fun _ h=>absurd h List.not_mem_nil)))
 | c::l,p,h=>by
  unfold tdL at h
  cases hc:Nat.beq c 32 with
  | true =>
   rw [hc,cond_true] at h
   cases p with
   | true=>exact xNS h
   | false =>
    refine e24 (tidy_words true h) ?_;intro w ws e h1 h2 h3
    rw [zE hc]
    refine (i24 ([]) (w::ws) ?_ ((fun _ h=>absurd h List.not_mem_nil)) ((fun h=>absurd h zF)) (fun x hx=>?_))
    ·rw [e]
     cases ws <;> simp [joinL]
    ·rcases zC hx with rfl|hx
     ·exact ⟨h2 rfl,h1⟩
     ·exact h3 x hx
  | false =>
   rw [hc,cond_false] at h
   cases hd:(Nat.blt 32 c&&Nat.blt c 127) with
   | false=>rw [hd] at h;exact xNS h
   | true =>
    rw [hd,cond_true] at h
    have hd:=Bool.and_eq_true_iff.mp hd
    refine e24 (tidy_words false h) ?_;intro w ws e h1 h2 h3
    refine (i24 (c::w) ws (by rw [e];rfl) (fun x hx=>?_) (fun _=>by simp) h3)
    rcases zC hx with rfl|hx
    ·exact ⟨zB hd.1,zB hd.2⟩
    ·exact h1 x hx
theorem tidy_join {l:List Nat} (h:Tidy l):∃ ws,ws≠[]∧l=joinL 32 ws∧∀ x∈ws,Solid x:=by
 refine e24 (tidy_words true h) ?_;intro w ws e h1 h2 h3
 refine (i13 (w::ws) (by simp) ?_ (fun x hx=>?_))
 ·rw [e];cases ws <;> simp [joinL]
 ·rcases zC hx with rfl|hx
  ·exact ⟨h2 rfl,h1⟩
  ·exact h3 x hx
end
end Nn62
end
section
open PySem PySem.W PySem.Calls PyProof.Rows
namespace Nn62
section
section
variable {T:Tabs}{w:World}{mean:ExcName→Option Value}{mg mb:Str→Option Value}{n:Nat}{ρ:Rho}{X:FX}{D:Led}{st:St}{s:Shared}{loc:Locs}{lst base:List (List AV)}{items:List AV}
theorem relabel_lookup {env:Env}{x:Str}{k:NameKind} (hk:k≠.free):∀ {names:List (Str×NameKind)},names.lookup x=some k →
  (names.map fun (n,k)=>if (k==NameKind.free&&env.scope.kind==.function&&env.kindOf n==some .cell) then (n,NameKind.cell) else (n,k)).lookup x=some k
 | [],h=>nomatch h
 | (y,k')::r,h=>by
  have ih:=relabel_lookup (env:=env) (x:=x) hk (names:=r)
  rw [List.map_cons]
  rw [List.lookup_cons] at h
  cases hx:x==y with
  | true =>
   rw [hx] at h;cases h
   have:(k==NameKind.free)=false:=by cases k <;> first|rfl|exact absurd rfl hk
   simp only [this,Bool.false_and,Bool.false_eq_true,if_false,List.lookup_cons,hx]
  | false =>
   rw [hx] at h
   show List.lookup x ((if (k'==NameKind.free&&env.scope.kind==.function&&env.kindOf y==some .cell)=true then (y,NameKind.cell) else (y,k'))::_)=_
   cases (k'==NameKind.free&&env.scope.kind==.function&&env.kindOf y==some .cell) with
   | true=>rw [if_pos rfl,List.lookup_cons,hx];exact ih h
   | false=>rw [if_neg zF,List.lookup_cons,hx];exact ih h
theorem kind_comp {scope:Scope}{cl:List (Str×Addr)}{C:Addr}{env:Env}{x:List Nat}{k:NameKind} (hk:k≠.free) (h:scope.names.lookup (S x)=some k):(compEnvC scope cl C env).kindOf (S x)=some k:=relabel_lookup hk h
theorem fnC_ok (H:TabsOk w T) (hX:X.Ok w mean mg mb ρ) {cenv:Env} (h1:cenv.globals=mainGlobals) (h2:cenv.builtins=builtinsNs) (hk:cenv.scope.kind=.function) {x:List Nat}{pos:Pos}{av:AV}{Q:Value→Shared→Prop} (hx:cenv.kindOf (S x)=some .globalImplicit) (hd:lnBeq x debugL=false) (e:lkN T.glb x=some av) (I:Inv ρ X D st s)
  (h:Post ρ X D s av st Q):wpAny (model pw w) X.A (eval (.Name (S x) pos) cenv) Q F0 s:=by
 refine e21 (id I) ?_;intro m P J
 have TR:=topRead_of hX.T
 (refine zO (H.glb _ _ e) (fun qh=>e12 qh ?qa) (fun qh=>e14 qh ?qb);(case' qb=>clear H e;intro k Y1 e1 e2 e3;subst Y1);(case' qa=>clear H e;intro v e1 hv))
 ·exact Name_function_global hk hx (loadGlobal_global (env:=cenv) (h1▸TR.g.keeps J.F.keep) (mg_of hX.K TR.g e1) (h.now I (hv ρ D))) (not_debug hd)
 ·exact Name_function_global hk hx (loadGlobal_builtin (env:=cenv) (h1▸TR.g.keeps J.F.keep) (mg_none_of hX.K TR.g e1) (h2▸TR.b.keeps J.F.keep) ((TR.builtins _ e3).trans e2) (h.now I (.bi k))) (not_debug hd)
theorem locC_ok {cenv:Env} (hk:cenv.scope.kind=.function) {x:List Nat}{pos:Pos}{v:Value}{m:Str→Option Value}{Q:Value→Shared→Prop} (hx:cenv.kindOf (S x)=some .local) (hd:lnBeq x debugL=false) (hn:s.heap.Ns cenv.locals m) (hv:m (S x)=some v) (h:Q v s) :
  wpAny (model pw w) X.A (eval (.Name (S x) pos) cenv) Q F0 s:=wpAny_Name (wpAny_loadName_local hk hx hn hv h) (not_debug hd)
theorem cellC_ok {cenv:Env} (hk:cenv.scope.kind=.function) {x:List Nat}{pos:Pos}{v:Value}{c:Addr}{o:Obj}{Q:Value→Shared→Prop} (hx:cenv.kindOf (S x)=some .cell) (hd:lnBeq x debugL=false) (hc:cenv.cells.lookup (S x)=some c) (hm:(c,o)∈D.imm++X.fx) (ho:o.data=.cell (some v)) (I:Inv ρ X D st s) (h:Q v s) :
  wpAny (model pw w) X.A (eval (.Name (S x) pos) cenv) Q F0 s:=wpAny_Name (wpAny_loadName_cell hk hx hc ⟨o,I.fx_obj hm,ho⟩ h) (not_debug hd)
inductive StrV:List AV→List (List Nat)→Prop
 | nil:StrV [] []
 | cons (x:List Nat) (t:Tok) {r:List AV}{l:List (List Nat)}:StrV r l→StrV (.val (.str (S x) t)::r) (x::l)
theorem StrV.snoc {x:List Nat}{t:Tok}{r:List AV}{l:List (List Nat)} (h:StrV r l):StrV (r++[.val (.str (S x) t)]) (l++[x]):=by
 induction h with
 | nil=>exact .cons x t .nil
 | cons y u h ih=>exact .cons y u ih
theorem StrV.are {r:List AV}{l:List (List Nat)} (h:StrV r l):∀ {vs:List Value},VRs ρ D r vs→StrsAre vs (l.map S):=by
 induction h with
 | nil=>intro vs V;have Y:=V.nilI;clear V;subst Y;exact .nil
 | cons x t h ih=>intro vs V;refine e23 V.consI ?_;clear V;intro v r' V1 V2 Y;subst Y;have q2:=V1.valI;clear V1;subst q2;exact .cons _ t (ih V2)
theorem strs_get:∀ {vs:List Value}{l:List (List Nat)}{i:Nat}{v:Value},StrsAre vs (l.map S)→vs[i]?=some v→∃ x t,l[i]?=some x∧v=.str (S x) t
 | _,[],_,_,h,e=>by cases h;simp at e
 | _,x::l,i,v,h,e=>by
  have h:StrsAre _ (S x::l.map S):=h
  cases h with|cons _ t h =>
  cases i with
  | zero=>(have Y0:=s1 e;try clear e;subst Y0);(exact (i22 x t rfl rfl))
  | succ i=>exact strs_get (i:=i) h (by simpa using e)
noncomputable def hex2 (o:Int):List Nat:=figW 2 o []
noncomputable def octetN:List Nat:=[111,99,116,101,116]
noncomputable def octetsN:List Nat:=[111,99,116,101,116,115]
noncomputable def figuresN:List Nat:=[102,105,103,117,114,101,115,95,111,102]
structure OcP where
 p:List Pos
 k:Nat×Nat
 sc:Scope
noncomputable def ocP (zs:List Stmt):OcP:=⟨(atL (zs.getD 0 passS) [4161,65,266369,528513,790657,4225,8321,12417,129,1,0]),((atK (zs.getD 0 passS) 4161),(atK (zs.getD 0 passS) 790657)),(atC (zs.getD 0 passS) 129)⟩
noncomputable def oc:OcP:=ocP b101.1
noncomputable abbrev ocA (i:Nat):Pos:=at0 oc.p i
noncomputable abbrev ocElt:Expr:=.Call (.Name (S figuresN) (ocA 2)) [.Name (S octetN) (ocA 3),.Constant (.int 2) oc.k.2 (ocA 4)] [] (ocA 5)
theorem oc_body:b101.1=[.Return (some (.Call (.Attribute (.Constant (.str (S [32])) oc.k.1 (ocA 0)) (S mJoin) (ocA 1)) [.ListComp ocElt [⟨.Name (S octetN) (ocA 6),.Name (S octetsN) (ocA 7),[],0⟩] oc.sc (ocA 8)] [] (ocA 9))) (ocA 10)]:=by kernel_rfl
theorem oc_scope:oc.sc.names=[(S [46,48],.local),(S octetN,.local),(S figuresN,.globalImplicit)]:=by kernel_rfl
theorem oc_kind:oc.sc.kind=.function:=by kernel_rfl
theorem oc_clos (env:Env):closureFor oc.sc env=pure []:=by kernel_rfl
theorem oc_line:posLine (ocA 1) (ocA 9)=true:=by kernel_rfl
theorem args101:((sArgs (stA 10)).args.map fun p=>p.arg.cps.toList)=[octetsN]:=by kernel_rfl
theorem fn101 (w:World):FnOk w 101 (sArgs (stA 10)) (sBody (stA 10)) (sScope (stA 10)):=by
 refine fnOk_of (dV:=.none) (cd:=100) (q:=S [111,99,116,101,116,115,95,116,101,120,116]) (pm:=.str (S zq8) 194) (by kernel_rfl) (by kernel_rfl) (by kernel_rfl) fun s vs h=>?_
 have hl:(sArgs (stA 10)).args.length=1:=by kernel_rfl
 rw [hl] at h
 refine e11 (len1 h) ?_;clear h;intro v0 Y1;subst Y1
 exact BindsTo.of_eq (by kernel_rfl)
theorem ints_get {vs:List Value}{ns:List Int}{i:Nat}{v:Value} (V:IntsAre vs ns):vs[i]?=some v→∃ c t,ns[i]?=some c∧v=.int c t:=by
 induction V generalizing i with
 | nil=>intro e;exact xNS e
 | cons n t r ih=>cases i with
  | zero=>intro e;have Y:=s1 e;(exact (i22 n t rfl Y.symm))
  | succ i=>exact fun e=>ih (i:=i) (by simpa using e)
theorem octs_ok {oa:Addr}{vs:List Value}{k:Nat}{os:List Int} (hm:(oa,lObj vs k)∈D.imm) (hi:IntsAre vs os) (ho:∀ o∈os,0≤o∧o<256) (hl:os.length≤100) (hlen:∀ o∈os,(hex2 o).length≤20) {fv:Value}{Q:Value→Shared→Prop} (hX:X.Ok w mean mg mb ρ) (hr:Room X 31) (I:Inv ρ X D ⟨loc,lst⟩ s) (hf:VR ρ D (.top 101) fv)
  (h:∀ D' s' t',D.le D'→Inv ρ X D' ⟨loc,lst⟩ s'→Same s s'→Q (.str (S (joinL 32 (os.map hex2))) t') s'):wpAny (model pw w) X.A (call fv [.ref oa]) Q F0 s:=by
 refine enter_hide (n:=30) (fn101 w) (args:=[.val (.ref oa)]) (l:=[(octetsN,.val (.ref oa))]) (by rw [args101];rfl) hX hr I hf (fun imm _=>.cons (.val _) .nil)
  (fun _ v=>∃ t',v=.str (S (joinL 32 (os.map hex2))) t') (fun X' hcs hhx hX' hr' s₁ I₁ sm₁=>?_) (fun D' v s' le I' hp sm=>by (refine e11 (hp) ?_;try clear hp;intro t' Y1;subst Y1);exact h D' s' t' le I' sm)
 have hcs':X'.cs=s101.1:=hcs.trans s101.2
 have HT:=(Tc_all w mean mg mb).toTabsOk
 rw [b101.2,oc_body]
 refine wpAny_hide fun Qp hQp=>?_
 refine wpAny_execs_cons (wpAny_Return_some (Call_method1 rfl rfl (pos_line oc_line) (wpAny_Constant_str ?_)))
 rw [← join_eq]
 refine onS F.plainAttrs_str F.slot_str_join rfl (typeIs_str _ _ _) (fun a e=>nomatch e) (callWith_one ?_)
 refine comp_ok (ρ:=ρ) (cl:=[]) (oc_clos _) (by rw [oc_scope];decide) oc_kind (by rw [oc_scope];decide) (by rw [oc_scope];rfl) (fun x=>rfl) ?_
 refine name_ok HT hX' (av:=.val (.ref oa)) (by rw [hcs'];rfl) (I₁.add _) fun D₂ v₂ s₂ le₂ I₂ V₂ sm₂=>?_
 (have Y:=V₂.valI;clear V₂;subst Y)
 refine iter_list I₂ (zL _ (le₂.imm _ hm)) fun I o s₃ t₃ I₃ sh₃ sm₃=>?_
 have hvl:vs.length=os.length:=hi.length
 refine ⟨I,o,[I,oa],vs.length,_,_,D₂,_,[],fun i _ b it=>b=[]∧StrV it ((os.take i).map hex2),rfl,by lia,t₃,I₃,sh₃,fun _ _=>⟨rfl,by rw [List.take_zero];exact .nil⟩,fun C hCI hCfx=>?_,fun D' base' items s' a le hb ok I' V sm=>?_⟩
 ·-- one octet
  intro i v o' oC m D' base items s' Qe hi' pv le ok hb hlen' I' hns hv hq
  refine e02 (ok) ?_;clear ok;intro Y0 ok;subst Y0
  refine e22 (ints_get hi pv) ?_;clear hi pv;intro c t hc Y3;subst Y3
  have hcm:=List.mem_of_getElem? hc
  have hXc:((X'.with I o').with C oC).Ok w mean mg mb ρ:=okWith (okWith hX')
  refine Call_ (fnC_ok (X:=(X'.with I o').with C oC) HT hXc rfl rfl (by show oc.sc.kind=_;exact oc_kind) (av:=.top 89) (kind_comp (by decide) (by rw [oc_scope];rfl)) rfl rfl I' fun D₄ fv₄ s₄ le₄ I₄ V₄ sm₄=>?_)
  have V₄':=V₄
  (have Y:=V₄.topI;clear V₄;subst Y)
  have hns4:s₄.heap.Ns C m:=hns.at' fun ob e=>by
   have e1:=I'.fx_obj (p:=(C,oC)) (zR _ (.head _))
   rw [show ob=oC from Option.some.inj (e.symm.trans e1)]
   exact I₄.fx_obj (p:=(C,oC)) (zR _ (.head _))
  refine callWith_K hX'.K (keep_ok HT (cs:=oc.sc) (x:=S figuresN) ?_) (args_cons (locC_ok (X:=(X'.with I o').with C oC) (by show oc.sc.kind=_;exact oc_kind) (kind_comp (by decide) (by rw [oc_scope];rfl)) rfl hns4 hv (args_cons (wpAny_Constant_int (args_nil ⟨?_,?_⟩)))))
  ·unfold evFn isGlobal;rw [oc_scope];rfl
  ·(refine e21 (I₄) ?_;try clear I₄;intro m P J);exact hX'.K.keeps J.F.keep
  have hb8:=(ho c hcm).2
  refine figs_ok (X:=(X'.with I o').with C oC) (e:=c) (least:=2) (by (exact Int.le_trans (by assumption) (by decide))) (by decide) hXc (hr'.down (by decide)) (I₄.add _) V₄' fun D₅ s₅ t₅ le₅ I₅ sm₅=>?_
  refine hq D₅ [] _ s₅ (le₄.trans le₅) rfl I₅ (sm₄.trans ⟨sm₅.gens,sm₅.drawn,sm₅.os⟩) ⟨rfl,?_⟩
  rw [List.take_succ_eq_append_getElem (List.getElem?_eq_some_iff.mp hc).1,(List.getElem?_eq_some_iff.mp hc).2,List.map_append]
  exact ok.snoc
 ·-- joined
  refine e02 (ok) ?_;clear ok;intro Y0 ok;subst Y0
  rw [hvl,List.take_length] at ok
  refine e12 V.locI ?_;clear V;intro _ hl' Y;have Y:=Value.ref.inj Y;subst Y
  refine e21 (id I') ?_;intro m P J
  refine e23 (J.lad_get (i:=0) (l:=items) rfl hl') ?_;clear J hl';intro ws kk _ hv hg
  refine PyProof.Rows.join_list (ys:=(os.map hex2).map S) ⟨_,hg,rfl,_,rfl⟩ (by rw [List.toList_toArray];exact ok.are hv) ?_ fun t' tk'=>?_
  ·have key:∀ l:List Int,(∀ o∈l,(hex2 o).length≤20)→(((l.map hex2).map S).map (·.length)).sum≤l.length*20:=by
    intro l
    induction l with
    | nil=>intro _;exact Nat.le_refl 0
    | cons a l ih =>
     intro h
     have:=ih fun o ho=>h o (.tail _ ho)
     have:=h a (.head _)
     simp only [List.map_cons,List.sum_cons,List.length_cons,S_len] at *
     lia
   have:=key os hlen
   simp only [List.length_map,S_len,List.length_cons,List.length_nil] at *
   lia
  ·rw [show Txt.join (S [32]) ((os.map hex2).map S)=S (joinL 32 (os.map hex2)) from (StrLaws.glued_eq_join _ _).trans (join_Sx 32 _)]
   have I₇:=(I'.reloc (l':=[]) .nil).cut (k:=0) rfl rfl
   have leA:(⟨D.imm,[]⟩:Led).le ⟨D'.imm,[]⟩:=⟨fun p hp=>le.imm p (le₂.imm p hp),fun _ _ e=>by simp at e⟩
   have smA:Same s s':=(((sm₁.trans ⟨sm₂.gens,sm₂.drawn,sm₂.os⟩).trans sm₃).trans sm)
   exact hQp _ _ ⟨_,⟨D'.imm,[]⟩,⟨[],[]⟩,rfl,leA,(by rw [List.take_zero] at I₇;exact I₇),⟨smA.gens,smA.drawn,smA.os⟩,t',rfl⟩
end
end
section
section
variable {w:World}{mean:ExcName→Option Value}{mg mb:Str→Option Value}{n:Nat}{ρ:Rho}{X:FX}{D:Led}{st:St}{s:Shared}
theorem Inv.put {f f':List (Addr×Obj)}{h':Heap}{tk:Nat} (J:Inv ρ (X.refx f) D st s) (hm:∀ q∈f',q.1∈f.map (·.1)) (hk:∀ b x,b∉f.map (·.1)→s.heap.get? b=some x→h'.get? b=some x) (ho:∀ q∈f',h'.get? q.1=some q.2) :
  Inv ρ (X.refx f') D st {s with heap:=h',toks:=tk}:=by
 refine e21 (J) ?_;try clear J;intro m P J
 have hf:∀ b∈f.map (·.1),b≠X.L∧X.h₀.get? b=none:=fun b hb=>by
  refine e12 (List.mem_map.mp hb) ?_;intro q hq Y2;subst Y2
  exact (J.N q (zR _ (zR _ hq))).2
 have hF:Fr X.h₀ X.L h' m:=by
  refine e32 (J.F.ns) ?_;intro oL a1 a2 hL a3
  exact ⟨⟨oL,a1,a2,hk _ _ (fun hm=>(hf _ hm).1 rfl) hL,a3⟩,fun b x e=>hk b x (fun hm=>by have:=(hf _ hm).2;rw [show X.h₀.get? b=some x from e] at this;exact xSN this) (J.F.keep b x e),J.F.above⟩
 have mem:∀ p,p∈P∨p∈D.imm→p.1∉f.map (·.1):=fun p hp hm'=>by
  refine e12 (List.mem_map.mp hm') ?_;intro q hq e
  (refine zO (hp) ?qa ?qb;(case' qb=>intro h1);(case' qa=>intro h1))
  ·exact J.dj q (zR _ hq) (by rw [e,← J.ad];exact List.mem_map_of_mem h1)
  ·exact J.fd p h1 q hq e.symm
 have f'f:∀ q∈f',∃ r∈f,r.1=q.1:=fun q hq=>List.mem_map.mp (hm q hq)
 refine ⟨m,P,hF,fun p hp=>?_,J.loc,J.ls,J.ad,J.nd,fun p hp=>?_,fun p hp q hq=>?_⟩
 ·(refine zO (zA hp) ?qa0 ?qb0;(case' qb0=>intro h1);(case' qa0=>intro h1))
  ·have:=J.N p (zL _ h1);exact ⟨hk _ _ (mem p (.inl h1)) this.1,this.2⟩
  ·(refine zO (zA h1) ?qa1 ?qb1;(case' qb1=>clear h1;intro h2);(case' qa1=>clear h1;intro h2))
   ·have:=J.N p (zR _ (zL _ h2));exact ⟨hk _ _ (mem p (.inr h2)) this.1,this.2⟩
   ·exact ⟨ho p h2,hf _ (hm p h2)⟩
 ·(refine zO (zA hp) ?qa2 ?qb2;(case' qb2=>intro h2);(case' qa2=>intro h2))
  ·exact J.dj p (zL _ h2)
  ·refine e12 (f'f p h2) ?_;intro r hr e
   rw [← e];exact J.dj r (zR _ hr)
 ·refine e12 (f'f q hq) ?_;intro r hr e
  rw [← e];exact J.fd p hp r hr
noncomputable abbrev enO (it:Addr) (i:Int) (old:Value):Obj:={cls:=.type "enumerate",dict:=Option.none,data:=.fields #[.none,.bool false,.ref it,rawInt i,.none,old],slots:=#[]}
theorem enum_made {Dl:Addr}{vs:List Value}{k:Nat} (J:Inv ρ X D st s) (hm:(Dl,lObj vs k)∈D.imm++X.fx) {Q:Value→Shared→Prop}
  (h:∀ e it oe oi s',e≠it→(∀ q∈X.fx,q.1≠e∧q.1≠it)→Dl≠e→Dl≠it→IsEnum s'.heap e it 0 .none→s'.heap.IsListIter it Dl 0→Inv ρ (X.refx ((e,oe)::(it,oi)::X.fx)) D st s'→Same s s'→Q (.ref e) s') :
  wpAny (model pw w) X.A (call (.type "enumerate") [.ref Dl]) Q F0 s:=by
 have hD:=J.fx_obj hm
 refine call_enumerate_list (l:=Dl) (items:=vs.toArray) ⟨_,hD,rfl,_,rfl⟩ fun h' he hit hsz hold=>?_
 refine e13 (id hit) ?_;intro oi hoi r1 r2
 refine e21 (id J) ?_;intro m P J
 have lt:∀ {b o},s.heap.get? b=some o→b<s.heap.objs.size:=fun e=>Heap.lt_size e
 have L1:X.L<s.heap.objs.size:=by (refine e32 (J.F.ns) ?_;intro oL _ _ e _);exact lt e
 have hnone:∀ b,s.heap.objs.size≤b→X.h₀.get? b=none:=fun b hb=>by
  cases q:X.h₀.get? b with
  | none=>rfl
  | some y=>exact absurd (lt (J.F.keep _ _ q)) (Nat.not_lt.mpr hb)
 have fxlt:∀ q∈X.fx,q.1<s.heap.objs.size:=fun q hq=>J.lt (zR _ (zR _ hq))
 refine h (s.heap.objs.size+1) s.heap.objs.size (enO s.heap.objs.size 0 .none) oi {s with heap:=h'} (Nat.succ_ne_self _) (fun q hq=>⟨Nat.ne_of_lt (Nat.lt_succ_of_lt (fxlt q hq)),Nat.ne_of_lt (fxlt q hq)⟩) (Nat.ne_of_lt (Nat.lt_succ_of_lt (lt hD))) (Nat.ne_of_lt (lt hD)) he hit ?_ ⟨rfl,rfl,rfl⟩
 refine ⟨m,P,?_,fun p hp=>?_,J.loc,J.ls,J.ad,J.nd,fun p hp=>?_,fun p hp q hq=>?_⟩
 ·refine e32 (J.F.ns) ?_;intro oL a1 a2 hL a3
  exact ⟨⟨oL,a1,a2,hold _ _ hL,a3⟩,fun b x e=>hold _ _ (J.F.keep b x e),J.F.above⟩
 ·have key:p∈P++(D.imm++X.fx)∨p=(s.heap.objs.size+1,enO s.heap.objs.size 0 .none)∨p=(s.heap.objs.size,oi):=by
   (refine zO (zA hp) ?qa ?qb;(case' qb=>intro q);(case' qa=>intro q))
   ·exact .inl (zL _ q)
   ·(refine zO (zA q) ?qa3 ?qb3;(case' qb3=>clear q;intro q);(case' qa3=>clear q;intro q))
    ·exact .inl (zR _ (zL _ q))
    ·(refine zO (zC q) ?qa4 ?qb4;(case' qb4=>clear q;intro q);(case' qa4=>clear q;intro q))
     ·exact .inr (.inl q)
     ·(refine zO (zC q) ?qa5 ?qb5;(case' qb5=>clear q;intro q);(case' qa5=>clear q;intro q))
      ·exact .inr (.inr q)
      ·exact .inl (zR _ (zR _ q))
  (refine oo3 (key) ?qa6 ?qb6 ?qc6;(case' qc6=>clear key;intro Y0;subst Y0);(case' qb6=>clear key;intro Y0;subst Y0);(case' qa6=>clear key;intro q))
  ·have:=J.N p q;exact ⟨hold _ _ this.1,this.2⟩
  ·(exact (i03 he (Nat.ne_of_gt (Nat.lt_succ_of_lt L1)) (hnone _ (Nat.le_succ _))))
  ·(exact (i03 hoi (Nat.ne_of_gt L1) (hnone _ (Nat.le_refl _))))
 ·have ladlt:∀ a∈D.lad,a<s.heap.objs.size:=fun a ha=>J.lad_lt ha
  (refine zO (zA hp) ?qa7 ?qb7;(case' qb7=>intro q);(case' qa7=>intro q))
  ·exact J.dj p (zL _ q)
  ·(refine zO (zC q) ?qa8 ?qb8;(case' qb8=>clear q;intro q);(case' qa8=>intro Y0;subst Y0))
   ·intro ha;exact absurd (ladlt _ ha) (Nat.not_lt.mpr (by first|exact Nat.le_succ _|exact Nat.le_refl _))
   ·(refine zO (zC q) ?qa9 ?qb9;(case' qb9=>clear q;intro q);(case' qa9=>intro Y0;subst Y0))
    ·intro ha;exact absurd (ladlt _ ha) (Nat.not_lt.mpr (by first|exact Nat.le_succ _|exact Nat.le_refl _))
    ·exact J.dj p (zR _ q)
 ·have plt:p.1<s.heap.objs.size:=lt (J.imm hp)
  (refine zO (zC hq) ?qa10 ?qb10;(case' qb10=>clear hq;intro q);(case' qa10=>clear hq;intro Y0;subst Y0))
  ·exact Nat.ne_of_lt (Nat.lt_succ_of_lt plt)
  ·(refine zO (zC q) ?qa11 ?qb11;(case' qb11=>clear q;intro q);(case' qa11=>intro Y0;subst Y0))
   ·exact Nat.ne_of_lt plt
   ·exact J.fd p hp _ q
theorem enum_loop {e it Dl:Addr}{vs:List Value}{k:Nat}{oe oi:Obj}{x y:Str}{px py tp:Pos}{ctx:Nat}{body:List Stmt} (Ok:Nat→Led→St→Prop) (hei:e≠it) (hfx:∀ q∈X.fx,q.1≠e∧q.1≠it) (hDe:Dl≠e) (hDi:Dl≠it) (hm:(Dl,lObj vs k)∈D.imm) (hX:X.Ok w mean mg mb ρ) (hx:isLocal X.cs x=true) (hy:isLocal X.cs y=true)
  (hN:vs.length≤100)
  (turn:∀ i v (f:List (Addr×Obj)) D' st s' (Qn:Shared→Prop),i<vs.length→vs[i]?=some v→D.le D'→Ok i D' st→(∀ p∈X.fx,p∈f)→Inv ρ (X.refx f) D' ⟨setL (setL st.loc x.cps.toList (.int (.extb i 0 100))) y.cps.toList (.val v),st.lst⟩ s' →
   (∀ D'' st' s'',D'.le D''→Ok (i+1) D'' st'→Inv ρ (X.refx f) D'' st' s''→Same s' s''→Qn s'')→wpAny (model pw w) X.A (execs body X.env) (fun f s₃=>f=.next∧Qn s₃) F0 s')
  {Q:Result→Shared→Prop}{st₀:St} (hok:Ok 0 D st₀) (J:Inv ρ (X.refx ((e,oe)::(it,oi)::X.fx)) D st₀ s) (h0:IsEnum s.heap e it 0 .none) (h1:s.heap.IsListIter it Dl 0) (h:∀ D' st' s',D.le D'→Ok vs.length D' st'→Inv ρ X D' st' s'→Same s s'→Q (.ok .next) s') :
  codeAny (model pw w) X.A (.forLoop (.Tuple [.Name x px,.Name y py] ctx tp) (.ref e) body [] X.env) Q s:=by
 refine codeAny_forLoop_any (fun k' s'=>∃ (i:Nat) (D':Led) (st':St) (oe oi:Obj) (old:Value),i+k'=vs.length∧D.le D'∧Same s s'∧Ok i D' st'∧Inv ρ (X.refx ((e,oe)::(it,oi)::X.fx)) D' st' s'∧IsEnum s'.heap e it (i:Int) old∧s'.heap.IsListIter it Dl i) (fun k' s' hI=>?_) vs.length
  ⟨0,D,st₀,oe,oi,.none,Nat.zero_add _,Led.le.refl D,Same.refl s,hok,J,h0,h1⟩
 obtain ⟨i,D',st',oe,oi,old,hk,le,sm,ok,I',he,hit⟩:=hI
 have hD:=I'.fx_obj (p:=(Dl,lObj vs k)) (zL _ (le.imm _ hm))
 have hl:s'.heap.IsList Dl vs.toArray:=⟨_,hD,rfl,_,rfl⟩
 have memf:∀ {b:Addr},b∉((e,oe)::(it,oi)::X.fx).map (·.1)→b≠e∧b≠it:=fun hb=>⟨fun q=>hb (q▸.head _),fun q=>hb (q▸.tail _ (.head _))⟩
 cases hv:vs[i]? with
 | none =>
  have hN':i=vs.length:=by
   have:vs.length≤i:=by simpa using hv
   lia
  subst hN'
  refine wpAny_pyNext_enum_end rfl he hit hl (by simp) fun h₁ he₁=>wpAny_execs_nil ?_
  refine h D' st' _ le ok ?_ (sm.trans ⟨rfl,rfl,rfl⟩)
  exact Inv.put (f':=X.fx) (tk:=s'.toks) I' (fun q hq=>.tail _ (.tail _ (List.mem_map_of_mem hq))) (fun b x' hb ex=>he₁ b x' (memf hb).2 ex)
   (fun q hq=>he₁ _ _ (hfx q hq).2 (I'.fx_obj (zR _ (.tail _ (.tail _ hq)))))
 | some v =>
  have hi:i<vs.length:=(List.getElem?_eq_some_iff.mp hv).1
  refine wpAny_pyNext_enum_item he hit hl (x:=v) (by simpa using hv) hei fun h₁ heo hit₁ ht₁ hz₁ hk₁=>?_
  refine wpAny_letOwnedTupleGo_enum heo fun h₂ he₂ hs₂=>?_
  have heH:e<s'.heap.objs.size:=Heap.lt_size he
  refine e12 (hit₁) ?_;try clear hit₁;intro oi₂ hoi₂ _
  have I₂:Inv ρ (X.refx ((e,enO it ((i:Int)+1) v)::(it,oi₂)::X.fx)) D' st' {s' with heap:=h₂,toks:=s'.toks+1}:=Inv.put (tk:=s'.toks+1) I'
   (fun q hq=>by
    (refine zO (zC hq) ?qa ?qb;(case' qb=>clear hq;intro hq);(case' qa=>intro Y0;subst Y0))
    ·exact .head _
    ·(refine zO (zC hq) ?qa12 ?qb12;(case' qb12=>clear hq;intro hq);(case' qa12=>intro Y0;subst Y0))
     ·exact .tail _ (.head _)
     ·exact .tail _ (.tail _ (List.mem_map_of_mem hq)))
   (fun b x' hb ex=>(hs₂.2 b (memf hb).1).trans (hk₁ b x' (memf hb).1 (memf hb).2 ex))
   (fun q hq=>by
    (refine zO (zC hq) ?qa13 ?qb13;(case' qb13=>clear hq;intro hq);(case' qa13=>intro Y0;subst Y0))
    ·exact he₂
    ·(refine zO (zC hq) ?qa14 ?qb14;(case' qb14=>clear hq;intro hq);(case' qa14=>intro Y0;subst Y0))
     ·exact (hs₂.2 it hei.symm).trans hoi₂
     ·exact (hs₂.2 _ (hfx q hq).1).trans (hk₁ _ _ (hfx q hq).1 (hfx q hq).2 (I'.fx_obj (zR _ (.tail _ (.tail _ hq))))))
  have hX2:(X.refx ((e,enO it ((i:Int)+1) v)::(it,oi₂)::X.fx)).Ok w mean mg mb ρ:=⟨hX.B,hX.K,hX.T,hX.k,fun p hp=>.tail _ (.tail _ (hX.held p hp)),hX.sym⟩
  have hT:h₂.get? s'.heap.objs.size=some {cls:=.type "tuple",data:=.seq #[.int (i:Int) s'.toks,v]}:=(hs₂.2 _ (Nat.ne_of_gt heH)).trans ht₁
  have V1:VR ρ D' (.int (.extb i 0 100)) (.int (i:Int) s'.toks):=by
   have:=VR.int (ρ:=ρ) (D:=D') (.extb i 0 100) s'.toks
   rw [extb_den (by (exact Int.natCast_nonneg _)) (by lia)] at this;exact this
  refine wpAny_mono (E:=F0) (pair_ok (X:=X.refx ((e,enO it ((i:Int)+1) v)::(it,oi₂)::X.fx)) hX2 hx hy I₂ hT V1 (.val v) (fun s₃ I₃ sm₃=>?_)) (fun _ _ z=>z) fun _ _ z=>z.elim
  refine wpAny_mono (E:=F0) (turn i v _ D' st' s₃ (fun s₄=>∃ m,m<k'∧∃ (i:Nat) (D':Led) (st':St) (oe oi:Obj) (old:Value),i+m=vs.length∧D.le D'∧Same s s₄∧Ok i D' st'∧Inv ρ (X.refx ((e,oe)::(it,oi)::X.fx)) D' st' s₄∧IsEnum s₄.heap e it (i:Int) old∧s₄.heap.IsListIter it Dl i) hi hv le ok (fun p hp=>.tail _ (.tail _ hp)) I₃ (fun D'' st'' s'' le' ok' I4 sm'=>?_)) (fun f s₄ z=>by (refine e02 (z) ?_;try clear z;intro Y0 z;subst Y0);exact z) fun _ _ z=>z.elim
  refine ⟨k'-1,by lia,i+1,D'',st'',_,oi₂,v,by lia,le.trans le',?_,ok',I4,?_,?_⟩
  ·exact sm.trans ((⟨rfl,rfl,rfl⟩:Same s' {s' with heap:=h₂,toks:=s'.toks+1}).trans (sm₃.trans sm'))
  ·have:=I4.fx_obj (zR _ (.head _))
   rw [show (((i+1:Nat)):Int)=(i:Int)+1 by lia];exact this
  ·have:=I4.fx_obj (zR _ (.tail _ (.head _)))
   rename_i hr
   (exact (i12 oi₂ this hr))
end
end
section
structure At (ρ:Rho) (X:FX) (D₀:Led) (s₀:Shared) (D:Led) (st:St) (s:Shared):Prop where
 le:D₀.le D
 I:Inv ρ X D st s
 sm:Same s₀ s
theorem At.here {ρ:Rho}{X:FX}{D:Led}{st:St}{s:Shared} (I:Inv ρ X D st s):At ρ X D s D st s:=⟨Led.le.refl D,I,Same.refl s⟩
theorem At.step {ρ:Rho}{X:FX}{D₀ D D':Led}{s₀ s s':Shared}{st st':St} (a:At ρ X D₀ s₀ D st s) (le:D.le D') (I:Inv ρ X D' st' s') (sm:Same s s'):At ρ X D₀ s₀ D' st' s':=⟨a.le.trans le,I,a.sm.trans sm⟩
theorem At.tok {ρ:Rho}{X:FX}{D₀ D:Led}{s₀ s:Shared}{st:St} (a:At ρ X D₀ s₀ D st s) (t:Nat):At ρ X D₀ s₀ D st {s with toks:=t}:=⟨a.le,a.I,⟨a.sm.gens,a.sm.drawn,a.sm.os⟩⟩
theorem At.relocs {ρ:Rho}{X:FX}{D₀ D:Led}{s₀ s:Shared}{l l':Locs}{lst:List (List AV)} (a:At ρ X D₀ s₀ D ⟨l,lst⟩ s) (h:LocEq ρ l l'):At ρ X D₀ s₀ D ⟨l',lst⟩ s:=⟨a.le,a.I.reloc h,a.sm⟩
theorem execs_seq {w:World}{A:Around}{env:Env}{E:Value→Shared→Prop}{l r:List Stmt}{Q:Flow→Shared→Prop}{s:Shared} (h:∀ Qs:Flow→Shared→Prop,(∀ s',wpAny (model pw w) A (execs r env) Q E s'→Qs .next s')→wpAny (model pw w) A (execs l env) Qs E s):wpAny (model pw w) A (execs (l++r) env) Q E s :=
 execs_app (wpAny_hide fun Qs h'=>h Qs fun s' z=>h' .next s' z)
noncomputable def nRows (n:Nat):Nat:=max 1 ((n+6) / 7)
noncomputable def chunkL (os:List Int) (j:Nat):List Int:=(os.drop (7*j)).take 7
noncomputable def partL (os:List Int) (j:Nat):List Nat:=joinL 32 ((chunkL os j).map hex2)
noncomputable def headL (a:Int) (j:Nat):List Nat:=List.replicate (4-(hexL (a+7*j)).length) 32++hexL (a+7*j)
noncomputable def tailL (os:List Int) (tx:List Nat) (j:Nat):List Nat:=if j=0 then List.replicate (22-(partL os 0).length) 32++tx else []
noncomputable def rowL (a:Int) (os:List Int) (tx:List Nat) (j:Nat):List Nat:=headL a j++([58,32,32]++(partL os j++tailL os tx j))
noncomputable def rowsL (a:Int) (os:List Int) (tx:List Nat) (j:Nat):List (List Nat):=(List.range j).map (rowL a os tx)
theorem rowsL_succ (a:Int) (os:List Int) (tx:List Nat) (j:Nat):rowsL a os tx (j+1)=rowsL a os tx j++[rowL a os tx j]:=by
 unfold rowsL;rw [List.range_succ,List.map_append];rfl
noncomputable def linesN:List Nat:=[108,105,110,101,115]
noncomputable def startN:List Nat:=[115,116,97,114,116]
noncomputable def partN:List Nat:=[112,97,114,116]
noncomputable def headN:List Nat:=[104,101,97,100]
noncomputable def octTN:List Nat:=[111,99,116,101,116,115,95,116,101,120,116]
noncomputable def drS (i:Nat):Stmt:=b548.1.getD i (.Pass ⟨0,0,0,0⟩)
noncomputable def drB (i:Nat):Stmt:=(wBody (drS 2)).getD i (.Pass ⟨0,0,0,0⟩)
noncomputable def orParts (zs:Expr):Expr×Expr×Pos:=((xE zs 1),(xE zs 2),(xP zs 0))
noncomputable def posD0 (zs:Expr):List Pos:=(xL zs [1,66,130,2,0])
noncomputable def posD1 (zs:Stmt):List Pos×Expr:=((atL zs [1,66,4226,270466,8322,130,2,0]),(atE zs 532610))
noncomputable def posD2 (zs:Stmt):List Pos×Nat×Nat×Expr:=((atL zs [1,17043522,266306,528450,4162,8258,66,130,2,0]),(atK zs 17043522),(atK zs 8258),(atE zs 33820738))
noncomputable def posD3 (zs:Stmt):List Pos×Nat×Expr:=((atL zs [1,4162,270402,8258,66,130,2,0]),(atK zs 270402),(atE zs 532546))
noncomputable def posD4 (zs:Stmt):List Pos:=(atL zs [4161,65,129,1,0])
noncomputable abbrev d1 (i:Nat):Pos:=at0 (posD1 (drB 0)).1 i
noncomputable abbrev d2 (i:Nat):Pos:=at0 (posD2 (drB 2)).1 i
noncomputable abbrev d3S:Stmt:=(iBody (drB 3)).getD 0 (.Pass ⟨0,0,0,0⟩)
noncomputable abbrev d3 (i:Nat):Pos:=at0 (posD3 d3S).1 i
noncomputable abbrev d4 (i:Nat):Pos:=at0 (posD4 (drB 4)) i
noncomputable abbrev dT (i:Nat):Pos:=at0 (posD0 (orParts (wTest (drS 2))).2.1) i
theorem dr_body:b548.1=[drS 0,drS 1]++[.While (.BoolOp .Or [(orParts (wTest (drS 2))).1,.Compare (.Name (S startN) (dT 0)) [.Lt] [.Call (.Name (S lenN) (dT 1)) [.Name (S octetsN) (dT 2)] [] (dT 3)] (dT 4)] (orParts (wTest (drS 2))).2.2) (wBody (drS 2)) [] (wPos (drS 2)),drS 3]:=by kernel_rfl
theorem dr_turn:wBody (drS 2)=[.Assign [.Name (S partN) (d1 0)] (.Call (.Name (S octTN) (d1 1)) [.Subscript (.Name (S octetsN) (d1 2)) (.Slice (some (.Name (S startN) (d1 3))) (some (posD1 (drB 0)).2) none (d1 4)) (d1 5)] [] (d1 6)) (d1 7)]++([drB 1] ++
  ([.Assign [.Name (S lineN) (d2 0)] (.BinOp (.BinOp (.BinOp (.BinOp (.Constant (.str (S [32])) (posD2 (drB 2)).2.1 (d2 1)) .Mult (posD2 (drB 2)).2.2.2 (d2 2)) .Add (.Name (S headN) (d2 3)) (d2 4)) .Add (.Constant (.str (S [58,32,32])) (posD2 (drB 2)).2.2.1 (d2 5)) (d2 6)) .Add (.Name (S partN) (d2 7)) (d2 8)) (d2 9)] ++
  ([.If (iTest (drB 3)) [.Assign [.Name (S lineN) (d3 0)] (.BinOp (.BinOp (.Name (S lineN) (d3 1)) .Add (.BinOp (.Constant (.str (S [32])) (posD3 d3S).2.1 (d3 2)) .Mult (posD3 d3S).2.2 (d3 3)) (d3 4)) .Add (.Name (S textN) (d3 5)) (d3 6)) (d3 7)] [] (iPos (drB 3))] ++
  ([.Expr (.Call (.Attribute (.Name (S linesN) (d4 0)) (S mAppend) (d4 1)) [.Name (S lineN) (d4 2)] [] (d4 3)) (d4 4)]++[drB 5])))):=by kernel_rfl
theorem dr_line:posLine (d4 1) (d4 3)=true:=by kernel_rfl
theorem args548:((sArgs (stA 50)).args.map fun p=>p.arg.cps.toList)=[atN,octetsN,textN]:=by kernel_rfl
theorem fn548 (w:World):FnOk w 548 (sArgs (stA 50)) (sBody (stA 50)) (sScope (stA 50)):=by
 refine fnOk_of (dV:=.none) (cd:=547) (q:=S [100,117,109,112,95,114,111,119,115]) (pm:=.str (S zq1) 636) (by kernel_rfl) (by kernel_rfl) (by kernel_rfl) fun s vs h=>?_
 have hl:(sArgs (stA 50)).args.length=3:=by kernel_rfl
 rw [hl] at h
 refine e31 (len3 h) ?_;clear h;intro v0 v1 v2 Y3;subst Y3
 exact BindsTo.of_eq (by kernel_rfl)
noncomputable def dl0 (a:Int) (ov:Value) (tx:List Nat):Locs:=[(atN,.int (pE a)),(octetsN,.val ov),(textN,.str (.ext tx 1000 .nil))]
noncomputable def dl1 (a:Int) (ov:Value) (tx:List Nat) (x:Int):Locs:=dl0 a ov tx++[(linesN,.loc 0),(startN,.int (.extb x 0 100))]
noncomputable def dl2 (a:Int) (ov:Value) (tx:List Nat) (x:Int) (pt:List Nat):Locs:=dl1 a ov tx x++[(partN,.str (.ext pt 500 .nil))]
noncomputable def dl3 (a:Int) (ov:Value) (tx:List Nat) (x:Int) (pt:List Nat) (hd:AV):Locs:=dl2 a ov tx x pt++[(headN,hd)]
noncomputable def dl4 (a:Int) (ov:Value) (tx:List Nat) (x:Int) (pt:List Nat) (hd:AV) (ln:List Nat):Locs:=dl3 a ov tx x pt hd++[(lineN,.str (.ext ln 2000 .nil))]
theorem dr0 (a:Int) (ov:Value) (tx:List Nat):(recs T0 60).exs s548.1 ⟨dl0 a ov tx,[]⟩ [drS 0,drS 1] []=some (.next ⟨dl0 a ov tx++[(linesN,.loc 0),(startN,.int (.lit 0))],[[]]⟩):=by kernel_rfl
theorem drT (a:Int) (ov:Value) (tx:List Nat) (x:Int) (ls:List (List AV)):(recs T0 60).tst s548.1 ⟨dl1 a ov tx x,ls⟩ (orParts (wTest (drS 2))).1=some (.u (.eq (.extb x 0 100) (.lit 0)),⟨dl1 a ov tx x,ls⟩):=by kernel_rfl
theorem drHi (a:Int) (ov:Value) (tx:List Nat) (x:Int) (ls:List (List AV)):(recs T0 60).ev s548.1 ⟨dl1 a ov tx x,ls⟩ (posD1 (drB 0)).2=some (.int (.add (.extb x 0 100) (.lit 7)),⟨dl1 a ov tx x,ls⟩):=by kernel_rfl
theorem dr1 (a:Int) (ov:Value) (tx pt:List Nat) (x:Int) (ls:List (List AV)):(recs T0 60).exs s548.1 ⟨dl2 a ov tx x pt,ls⟩ [drB 1] []=some (.next ⟨dl3 a ov tx x pt (.str (.fn 0 24 (.add (pE a) (.extb x 0 100)) .nil)),ls⟩):=by kernel_rfl
theorem dr2 (a:Int) (ov:Value) (tx pt hd:List Nat) (x:Int) (ls:List (List AV)):(recs T0 60).ev s548.1 ⟨dl3 a ov tx x pt (.str (.ext hd 30 .nil)),ls⟩ (posD2 (drB 2)).2.2.2=some (.int (.sub (.lit 4) (.ext (hd.take 30).length)),⟨dl3 a ov tx x pt (.str (.ext hd 30 .nil)),ls⟩):=by kernel_rfl
theorem dr3T (a:Int) (ov:Value) (tx pt ln:List Nat) (hd:AV) (x:Int) (ls:List (List AV)):(recs T0 60).tst s548.1 ⟨dl4 a ov tx x pt hd ln,ls⟩ (iTest (drB 3))=some (.u (.eq (.extb x 0 100) (.lit 0)),⟨dl4 a ov tx x pt hd ln,ls⟩):=by kernel_rfl
theorem dr3 (a:Int) (ov:Value) (tx pt ln:List Nat) (hd:AV) (x:Int) (ls:List (List AV)):(recs T0 60).ev s548.1 ⟨dl4 a ov tx x pt hd ln,ls⟩ (posD3 d3S).2.2=some (.int (.sub (.add (.cons 7 (.lit 0) (.lit 3)) (.lit 1)) (.ext (pt.take 500).length)),⟨dl4 a ov tx x pt hd ln,ls⟩):=by kernel_rfl
theorem dr5 (a:Int) (ov:Value) (tx pt ln:List Nat) (hd:AV) (x:Int) (ls:List (List AV)):(recs T0 60).exs s548.1 ⟨dl4 a ov tx x pt hd ln,ls⟩ [drB 5] []=some (.next ⟨dl0 a ov tx++[(linesN,.loc 0),(startN,.int (.add (.extb x 0 100) (.lit 7))),(partN,.str (.ext pt 500 .nil)),(headN,hd),(lineN,.str (.ext ln 2000 .nil))],ls⟩):=by kernel_rfl
theorem dr6 (a:Int) (ov:Value) (tx:List Nat) (x:Int) (ls:List (List AV)):(recs T0 60).exs s548.1 ⟨dl1 a ov tx x,ls⟩ [drS 3] []=some (.ret (.loc 0) ⟨dl1 a ov tx x,ls⟩):=by kernel_rfl
end
end Nn62
end
section
open PySem PySem.W PySem.Calls PyProof.Rows
namespace Nn62
open PySem.W.Z (leB ltB eqB leB_iff ltB_iff eqB_iff)
section
theorem hex2_eq {o:Int} (h:0≤o∧o<256):hex2 o=[digit (o / 16).toNat,digit (o % 16).toNat]:=by
 unfold hex2
 rw [figW,if_pos (.inr (by decide)),fdiv16,fmod16,figW,if_pos (.inr (by show (1:Int)<2;decide)),fdiv16,fmod16,figW_stop (by lia) (by show (2:Int)≤2;decide),show o / 16 % 16=o / 16 by lia]
theorem hex2_len {o:Int} (h:0≤o∧o<256):(hex2 o).length=2:=by rw [hex2_eq h];rfl
theorem hex2_hex {o:Int} (h:0≤o∧o<256):(∀ c∈hex2 o,isHex c=true)∧(hexOf (hex2 o):Int)=o:=by
 rw [hex2_eq h]
 refine e02 (hexVal_digit (d:=(o / 16).toNat) (by lia)) ?_;intro a1 a2
 refine e02 (hexVal_digit (d:=(o % 16).toNat) (by lia)) ?_;intro b1 b2
 refine ⟨fun c hc=>?_,?_⟩
 ·rcases zC hc with rfl|hc
  ·exact a2
  ·rw [zS hc];exact b2
 ·show (((0*16+hexVal _)*16+hexVal _:Nat):Int)=o
  rw [a1,b1];lia
theorem hex2_solid {o:Int} (h:0≤o∧o<256):Solid (hex2 o):=⟨(fun e=>by have:=hex2_len h;rw [e] at this;cases this),fun c hc=>by have:=isHex_iff ((hex2_hex h).1 c hc);lia⟩
theorem chunk_in {os:List Int}{j:Nat}{P:Int→Prop} (h:∀ o∈os,P o):∀ o∈chunkL os j,P o:=fun o ho=>h o (List.mem_of_mem_drop (List.mem_of_mem_take ho))
theorem chunk_len (os:List Int) (j:Nat):(chunkL os j).length≤7:=List.length_take_le 7 _
theorem joinL_len:∀ {l:List (List Nat)}{k:Nat},(∀ x∈l,x.length=k)→(joinL 32 l).length+1≤l.length*(k+1)+1
 | [],_,_=>by simp [joinL]
 | [x],k,h=>by have:=h x (.head _);simp [joinL];lia
 | x::y::r,k,h=>by
  have h1:=h x (.head _)
  have ih:=joinL_len (l:=y::r) (k:=k) fun z hz=>h z (.tail _ hz)
  show (x++32::joinL 32 (y::r)).length+1≤(r.length+1+1)*(k+1)+1
  rw [List.length_append,List.length_cons,h1]
  have e:(y::r).length=r.length+1:=rfl
  rw [e] at ih
  have:(r.length+1+1)*(k+1)=(r.length+1)*(k+1)+(k+1):=Nat.succ_mul _ _
  lia
theorem part_len {os:List Int} (ho:∀ o∈os,0≤o∧o<256) (j:Nat):(partL os j).length≤21:=by
 have h1:=joinL_len (l:=(chunkL os j).map hex2) (k:=2) fun x hx=>by
  refine e12 (List.mem_map.mp hx) ?_;clear hx;intro o h Y2;subst Y2
  exact hex2_len (chunk_in ho o h)
 have h2:=chunk_len os j
 rw [List.length_map] at h1
 unfold partL
 lia
section
variable {w:World}{mean:ExcName→Option Value}{mg mb:Str→Option Value}{n:Nat}{ρ:Rho}{X:FX}{D:Led}{st:St}{s:Shared}{loc:Locs}
theorem mul_sp {e:IE}{t u:Tok}{Q:Value→Shared→Prop} (h0:-1000≤e.den ρ) (h1:e.den ρ≤1000) (h:∀ t' tk,Q (.str (S (List.replicate (e.den ρ).toNat 32)) t') {s with toks:=tk}):wpAny (model pw w) X.A (binaryOp .Mult (.str (S [32]) t) (.int (e.den ρ) u)) Q F0 s:=by
 refine SB.mul ⟨?_,fun h2 _=>?_,fun h2 _=>?_⟩ fun t' k=>?_
 ·rw [Bool.or_eq_false_iff];exact ⟨decide_eq_false (by lia),decide_eq_false (by lia)⟩
 ·have:1≤(2 ^ 63-1:Int) / e.den ρ:=(Int.le_ediv_iff_mul_le (by lia)).mpr (by lia)
  show ¬ ((1:Int) > _)
  lia
 ·show decide (1*(e.den ρ).toNat > 16777216)=false
  exact decide_eq_false (by lia)
 ·rw [mul_eq];exact h t' k
end
end
section
section
variable {w:World}{mean:ExcName→Option Value}{mg mb:Str→Option Value}{n:Nat}{ρ:Rho}{X:FX}{D D₀:Led}{st:St}{s s₀:Shared}{loc:Locs}
theorem Inv.hk (I:Inv ρ X D st s):∀ b o,X.h₀.get? b=some o→s.heap.get? b=some o:=by
 refine e21 (I) ?_;clear I;intro m P J
 exact J.F.keep
theorem len_val {oa:Addr}{vs:List Value}{k:Nat}{Q:Value→Shared→Prop} (I:Inv ρ X D st s) (hm:(oa,lObj vs k)∈D.imm++X.fx) (hl:vs.length≤100000) (h:∀ t tk,Q (.int (vs.length:Int) t) {s with toks:=tk}):wpAny (model pw w) X.A (call (.builtin "len") [.ref oa]) Q F0 s:=by
 refine PyProof.Rows.len_list (items:=vs.toArray) ⟨_,I.fx_obj hm,rfl,_,rfl⟩ (by rw [List.size_toArray];lia) ?_
 rw [List.size_toArray];exact h _ _
theorem chunk_ok {value slice:Expr}{oa:Addr}{vs:List Value}{k:Nat}{os:List Int}{x:Int}{t u:Tok}{Q:Value→Shared→Prop} (a:At ρ X D₀ s₀ D st s) (hm:(oa,lObj vs k)∈D.imm++X.fx) (hi:IntsAre vs os) (hl:os.length≤1000) (hx:0≤x)
  (h:∀ D' b ws s',At ρ X D₀ s₀ D' st s'→D.le D'→(b,lObj ws 0)∈D'.imm→IntsAre ws ((os.drop x.toNat).take 7)→Q (.ref b) s')
  (hs:∀ i,subscripted slice false (.ref oa) i=operate [i,.ref oa] (getItem (.ref oa) i)) (ht:∀ r,letTemporaryGo value (.ref oa) r=pure ()) :
  wpAny (model pw w) X.A (subscriptTail value slice (.ref oa) (.ref s.heap.objs.size)) Q F0 {s with heap:=s.heap.push {cls:=.type "slice",data:=.fields #[.int x t,.int (x+7) u,.none]}}:=by
 have hvl:=hi.length
 have hg:=a.I.fx_obj hm
 refine e21 (id a.I) ?_;intro m P J
 refine slice_list J.F J.N ⟨_,hg,rfl,_,rfl⟩ (.int x t) (.int (x+7) u) (fun h' F' N'=>?_) (hs _) ht (by rw [List.size_toArray];show vs.length≤16777216;lia)
 have hi4:=slice_ints_plain hi x (x+7)
 have e:((os.drop (clipAt os.length x)).take (clipAt os.length (x+7)-clipAt os.length x))=(os.drop x.toNat).take 7:=by
  have c1:=clipAt_min (n:=os.length) (y:=x) hx
  have c2:=clipAt_min (n:=os.length) (y:=x+7) (by lia)
  by_cases h1:(os.length:Int)<x
  ·rw [if_pos h1] at c1
   rw [List.drop_of_length_le (by lia),List.drop_of_length_le (by lia)];simp
  ·rw [if_neg h1] at c1
   have e1:clipAt os.length x=x.toNat:=by lia
   rw [e1]
   by_cases h2:(os.length:Int)<x+7
   ·rw [if_pos h2] at c2
    rw [zT (by rw [List.length_drop];lia),zT (by rw [List.length_drop];lia)]
   ·rw [if_neg h2] at c2
    rw [show clipAt os.length (x+7)-x.toNat=7 by lia]
 rw [e] at hi4
 generalize hvs:slicePick vs.toArray (some x) (some (x+7)) none=its at hi4 F' N' ⊢
 have hits:its.toList.toArray=its:=by simp
 generalize its.toList=ws at hi4 hits
 subst hits
 have lt4:∀ p∈P++(D.imm++X.fx),p.1<s.heap.objs.size+1:=fun p hp=>Nat.lt_succ_of_lt (J.lt hp)
 exact h _ _ ws _ (a.step (Led.le_imm D _) ⟨m,P,J.pushAt _ _ lt4 F' N'⟩ ⟨rfl,rfl,rfl⟩) (Led.le_imm D _) (.head _) hi4
theorem dump_ok {oa:Addr}{vs:List Value}{k:Nat}{os:List Int}{a:Int}{tx:List Nat} (hm:(oa,lObj vs k)∈D.imm) (hi:IntsAre vs os) (ho:∀ o∈os,0≤o∧o<256) (hl:os.length≤22) (ha:0≤a∧a<pow64) (htx:tx.length≤1000) {fv:Value}{t u:Tok}{Q:Value→Shared→Prop}
  (hX:X.Ok w mean mg mb ρ) (hr:Room X 133) (I:Inv ρ X D ⟨loc,[]⟩ s) (hf:VR ρ D (.top 548) fv)
  (h:∀ D' s' v rows,D.le D'→Inv ρ X D' ⟨loc,[rows]⟩ s'→StrV rows (rowsL a os tx (nRows os.length))→VR ρ D' (.loc 0) v→Same s s'→Q v s'):wpAny (model pw w) X.A (call fv [.int a t,.ref oa,.str (S tx) u]) Q F0 s:=by
 refine enter_ok (n:=132) (fn548 w) (args:=[.int (pE a),.val (.ref oa),.str (.ext tx 1000 .nil)]) (l:=dl0 a (.ref oa) tx) (by rw [args548];rfl) hX hr I hf (.cons (by have:=VR.int (ρ:=ρ) (D:=D) (pE a) t;rw [pE_den ha] at this;exact this) (.cons (.val _) (.cons (by have:=VR.str (ρ:=ρ) (D:=D) (.ext tx 1000 .nil) u;rw [show (SE.ext tx 1000 .nil).den ρ=tx by simp [SE.den,zT htx]] at this;exact this) .nil)))
  (fun D' lst' v=>∃ rows,lst'=[rows]∧StrV rows (rowsL a os tx (nRows os.length))∧VR ρ D' (.loc 0) v) (fun X' hcs hhx hfx hX' hr' s₁ I₁ sm₁=>?_) (fun D' lst' v s' le I' hp sm=>by (refine e13 (hp) ?_;clear hp;intro rows Y1 hs V;subst Y1);exact h D' s' v rows le I' hs V sm)
 have hcs':X'.cs=s548.1:=hcs.trans s548.2
 have HT:=(T0_all w mean mg mb).toTabsOk
 have R:=recs_ok (T0_all w mean mg mb) 60
 have hvl:=hi.length
 rw [b548.2,dr_body]
 refine wpAny_hide fun Qp hQp=>?_
 refine execs_app (exs_two (m:=60) (T0_all w mean mg mb) hX' hr' hcs' (dr0 a (.ref oa) tx) I₁ fun D₂ s₂ le₂ I₂ sm₂=>?_)
 have A₂:At ρ X' D s D₂ ⟨dl1 a (.ref oa) tx (7*((0:Nat):Int)),[[]]⟩ s₂:=⟨le₂,I₂.reloc (.cons (by rfl) AVeq.rfl' (.cons (by rfl) AVeq.rfl' (.cons (by rfl) AVeq.rfl' (.cons (by rfl) AVeq.rfl' (.cons (a:=.int (.lit 0)) (by rfl) (AVeq.int rfl) .nil))))),sm₁.trans sm₂⟩
 refine wpAny_execs_cons (wpAny_While ?_)
 refine codeAny_whileLoop (fun n s'=>∃ j D' rows,n+j=nRows os.length∧At ρ X' D s D' ⟨dl1 a (.ref oa) tx (7*(j:Nat)),[rows]⟩ s'∧StrV rows (rowsL a os tx j)) (fun n s' hI=>?_) (nRows os.length) ⟨0,D₂,[],rfl,A₂,.nil⟩
 refine e33 (hI) ?_;clear hI;intro j D₃ rows hn A₃ hrows
 have hR:nRows os.length≤4:=by unfold nRows;lia
 have hj:j≤4:=by lia
 generalize hx:(7*(j:Nat):Int)=x at A₃
 have hx0:0≤x∧x≤28:=by lia
 have hxd:(IE.extb x 0 100).den ρ=x:=extb_den hx0.1 (by lia)
 have hrowl:∀ tx:List Nat,tx.length≤1000→(rowL a os tx j).length≤2000:=fun tx htx=>by
  have h1:=part_len ho j
  have h2:(hexL (a+7*j)).length≤24:=hexL_len (k:=24) (by have:=ha.2;unfold pow64 at this;lia) (by decide)
  have h3:(tailL os tx j).length≤1022:=by unfold tailL;split <;> simp <;> lia
  unfold rowL headL
  simp only [List.length_append,List.length_replicate,List.length_cons,List.length_nil];lia
 have key:∀ D₄ s₄ (Qk:Flow→Shared→Prop),(∀ D' rows' s',At ρ X' D s D' ⟨dl1 a (.ref oa) tx (7*((j+1:Nat):Int)),[rows']⟩ s'→StrV rows' (rowsL a os tx (j+1))→Qk .next s')→At ρ X' D s D₄ ⟨dl1 a (.ref oa) tx x,[rows]⟩ s₄→(j=0∨7*j<os.length)→wpAny (model pw w) X'.A (execs (wBody (drS 2)) X'.env) Qk F0 s₄:=by
  intro D₄ s₄ Qk hQk A₄ hcond
  have hjR:j<nRows os.length:=by unfold nRows;lia
  have hso:∀ (i:Value),subscripted (.Slice (some (.Name (S startN) (d1 3))) (some (posD1 (drB 0)).2) none (d1 4)) false (.ref oa) i=operate [i,.ref oa] (getItem (.ref oa) i):=fun i=>rfl
  rw [dr_turn]
  refine execs_seq fun Qs hQs=>(wpAny_execs_cons (wpAny_Assign_Name (Call_ (fn_ok HT hX' (av:=.top 101) (by rw [hcs'];rfl) A₄.I fun D₅ fv₅ s₅ le₅ I₅ V₅ sm₅=>?_))))
  have A₅:=A₄.step le₅ I₅ sm₅
  have V₅':=V₅
  (have Y:=V₅.topI;clear V₅;subst Y)
  refine callWith_K hX'.K (keep_ok HT (cs:=s548.1) (x:=S octTN) rfl) (args_cons (Subscript_ (name_ok HT hX' (av:=.val (.ref oa)) (by rw [hcs'];rfl) I₅ fun D₆ v₆ s₆ le₆ I₆ V₆ sm₆=>?_)))
  (have Y:=V₆.valI;clear V₆;subst Y)
  have A₆:=A₅.step le₆ I₆ sm₆
  refine wpAny_Slice (wpAny_evalPart_some (name_ok HT hX' (av:=.int (.extb x 0 100)) (by rw [hcs'];rfl) I₆ fun D₇ v₇ s₇ le₇ I₇ V₇ sm₇=>wpAny_evalPart_some (R.1 _ _ _ _ _ (drHi a (.ref oa) tx x [rows]) ρ X' D₇ s₇ _ hcs' hX' hr' I₇ fun D₈ v₈ s₈ le₈ I₈ V₈ sm₈=>wpAny_evalPart_none ?_)))
  have A₈:=(A₆.step le₇ I₇ sm₇).step le₈ I₈ sm₈
  refine e11 (V₇.intI) ?_;intro t₇ Y1;subst Y1
  refine e11 (V₈.intI) ?_;clear V₈;intro t₈ Y1;subst Y1
  rw [show (IE.add (.extb x 0 100) (.lit 7)).den ρ=x+7 by show (IE.extb x 0 100).den ρ+7=_;rw [hxd],hxd]
  refine chunk_ok A₈ (zL _ (A₈.le.imm _ hm)) hi (by (exact Nat.le_trans (by assumption) (by decide))) hx0.1 (fun D₉ b ws s₉ A₉ le₉ hb hws=>?_) hso (fun _=>rfl)
  refine args_nil ⟨hX'.K.keeps A₉.I.hk,?_⟩
  have hch:(os.drop x.toNat).take 7=chunkL os j:=by unfold chunkL;rw [show x.toNat=7*j by lia]
  rw [hch] at hws
  refine octs_ok hb hws (chunk_in ho) (by have:=chunk_len os j;(exact Nat.le_trans (by assumption) (by decide))) (fun o h=>by have:=hex2_len (chunk_in ho o h);lia) hX' (hr'.down (by decide)) A₉.I ((V₅'.mono ((le₆.trans le₇).trans le₈)).mono le₉) fun D₁₀ s₁₀ t₁₀ le₁₀ I₁₀ sm₁₀=>?_
  have A₁₀:=A₉.step le₁₀ I₁₀ sm₁₀
  have hpl:=part_len ho j
  have Vp:VR ρ D₁₀ (.str (.ext (partL os j) 500 .nil)) (.str (S (partL os j)) t₁₀):=by
   have:=VR.str (ρ:=ρ) (D:=D₁₀) (.ext (partL os j) 500 .nil) t₁₀
   rw [show (SE.ext (partL os j) 500 .nil).den ρ=partL os j by simp only [SE.den,List.append_nil];exact zT (by (exact Nat.le_trans (by assumption) (by decide)))] at this;exact this
  refine store_ok (x:=S partN) hX' (by rw [hcs'];rfl) I₁₀ Vp fun s₁₁ I₁₁ sm₁₁=>?_
  have A₁₁:At ρ X' D s D₁₀ ⟨dl2 a (.ref oa) tx x (partL os j),[rows]⟩ s₁₁:=A₁₀.step (Led.le.refl _) I₁₁ sm₁₁
  refine wpAny_execs_nil (hQs _ ?_)
  clear hQs Qs
  refine execs_seq fun Qs hQs=>(exs_two (m:=60) (T0_all w mean mg mb) hX' hr' hcs' (dr1 a (.ref oa) tx (partL os j) x [rows]) A₁₁.I fun D₁₂ s₁₂ le₁₂ I₁₂ sm₁₂=>?_)
  have hhd:(hexL (a+x)).length≤24:=hexL_len (k:=24) (by have:=ha.2;unfold pow64 at this;lia) (by decide)
  generalize hHd:hexL (a+x)=hd at hhd
  have A₁₂:At ρ X' D s D₁₂ ⟨dl3 a (.ref oa) tx x (partL os j) (.str (.ext hd 30 .nil)),[rows]⟩ s₁₂:=(A₁₁.step le₁₂ I₁₂ sm₁₂).relocs (.cons (by rfl) AVeq.rfl' (.cons (by rfl) AVeq.rfl' (.cons (by rfl) AVeq.rfl' (.cons (by rfl) AVeq.rfl' (.cons (by rfl) AVeq.rfl' (.cons (by rfl) AVeq.rfl' (.cons (a:=.str (.fn 0 24 (.add (pE a) (.extb x 0 100)) .nil)) (by rfl) (AVeq.str (by
   simp only [SE.den,IE.den,List.append_nil,hX'.sym.1]
   rw [show clamp 0 18446744073709551615 a=a from pE_den (ρ:=ρ) ha,show clamp 0 100 x=x from hxd,hHd,zT (by assumption),zT (by (exact Nat.le_trans (by assumption) (by decide)))])) .nil)))))))
  refine hQs _ ?_
  clear hQs Qs
  refine execs_seq fun Qs hQs=>(wpAny_execs_cons (wpAny_Assign_Name (wpAny_BinOp (wpAny_BinOp (wpAny_BinOp (wpAny_BinOp (wpAny_Constant_str (R.1 _ _ _ _ _ (dr2 a (.ref oa) tx (partL os j) hd x [rows]) ρ X' D₁₂ _ _ hcs' hX' hr' (A₁₂.tok _).I fun D₁₃ v₁₃ s₁₃ le₁₃ I₁₃ V₁₃ sm₁₃=>?_))))))))
  have A₁₃:=(A₁₂.tok _).step le₁₃ I₁₃ sm₁₃
  refine e11 (V₁₃.intI) ?_;clear V₁₃;intro t₁₃ Y1;subst Y1
  have e4:(IE.sub (.lit 4) (.ext (hd.take 30).length)).den ρ=4-(hd.length:Int):=by
   show (4:Int)-((hd.take 30).length:Nat)=_
   rw [zT (by (exact Nat.le_trans (by assumption) (by decide)))]
  refine mul_sp (by rw [e4];lia) (by rw [e4];lia) fun t₁₄ k₁₄=>?_
  refine name_ok HT hX' (av:=.str (.ext hd 30 .nil)) (by rw [hcs'];rfl) (A₁₃.tok k₁₄).I fun D₁₅ v₁₅ s₁₅ le₁₅ I₁₅ V₁₅ sm₁₅=>?_
  have A₁₅:=(A₁₃.tok k₁₄).step le₁₅ I₁₅ sm₁₅
  refine e11 (V₁₅.strI) ?_;clear V₁₅;intro t₁₅ Y1;subst Y1
  rw [show (SE.ext hd 30 .nil).den ρ=hd by simp only [SE.den,List.append_nil];exact zT (by (exact Nat.le_trans (by assumption) (by decide))),e4,show (4-(hd.length:Int)).toNat=4-hd.length by lia]
  refine PyProof.Rows.add_str (fun t₁₆ k₁₆=>wpAny_Constant_str (PyProof.Rows.add_str (fun t₁₇ k₁₇=>?_) ?_)) ?_
  rotate_left
  ·rw [S_app,S_len,S_len,List.length_append,List.length_replicate];show _+3≤16777216;lia
  ·rw [S_len,S_len,List.length_replicate];show _≤16777216;lia
  refine name_ok HT hX' (av:=.str (.ext (partL os j) 500 .nil)) (by rw [hcs'];rfl) (A₁₅.tok k₁₇).I fun D₁₈ v₁₈ s₁₈ le₁₈ I₁₈ V₁₈ sm₁₈=>?_
  have A₁₈:=(A₁₅.tok k₁₇).step le₁₈ I₁₈ sm₁₈
  refine e11 (V₁₈.strI) ?_;clear V₁₈;intro t₁₈ Y1;subst Y1
  rw [show (SE.ext (partL os j) 500 .nil).den ρ=partL os j by simp only [SE.den,List.append_nil];exact zT (by (exact Nat.le_trans (by assumption) (by decide))),S_app,S_app]
  refine PyProof.Rows.add_str (fun t₁₉ k₁₉=>?_) (by rw [S_len,S_len];simp only [List.length_append,List.length_replicate,List.length_cons,List.length_nil];show _≤16777216;lia)
  rw [S_app]
  generalize hln:(List.replicate (4-hd.length) 32++hd++[58,32,32])++partL os j=ln
  have hlnl:ln.length≤60:=by rw [← hln];simp only [List.length_append,List.length_replicate,List.length_cons,List.length_nil];lia
  have V19:∀ D t l,l.length≤2000→VR ρ D (.str (.ext l 2000 .nil)) (.str (S l) t):=fun D t l hl=>by
   have:=VR.str (ρ:=ρ) (D:=D) (.ext l 2000 .nil) t
   rw [show (SE.ext l 2000 .nil).den ρ=l by simp only [SE.den,List.append_nil];exact zT hl] at this;exact this
  refine store_ok (x:=S lineN) hX' (by rw [hcs'];rfl) (A₁₈.tok k₁₉).I (V19 _ t₁₉ ln (by (exact Nat.le_trans (by assumption) (by decide)))) fun s₂₀ I₂₀ sm₂₀=>?_
  have A₂₀:At ρ X' D s D₁₈ ⟨dl4 a (.ref oa) tx x (partL os j) (.str (.ext hd 30 .nil)) ln,[rows]⟩ s₂₀:=(A₁₈.tok k₁₉).step (Led.le.refl _) I₂₀ sm₂₀
  refine wpAny_execs_nil (hQs _ ?_)
  clear hQs Qs
  have fin:∀ D₂₁ s₂₁,At ρ X' D s D₂₁ ⟨dl4 a (.ref oa) tx x (partL os j) (.str (.ext hd 30 .nil)) (rowL a os tx j),[rows]⟩ s₂₁ →
    wpAny (model pw w) X'.A (execs ([.Expr (.Call (.Attribute (.Name (S linesN) (d4 0)) (S mAppend) (d4 1)) [.Name (S lineN) (d4 2)] [] (d4 3)) (d4 4)]++[drB 5]) X'.env) Qk F0 s₂₁:=by
   intro D₂₁ s₂₁ A₂₁
   have hrl:rows.length≤100:=by
    have:∀ {r:List AV}{l:List (List Nat)},StrV r l→r.length=l.length:=fun h=>by induction h with
     | nil=>rfl
     | cons _ _ _ ih=>rw [List.length_cons,List.length_cons,ih]
    rw [this hrows];unfold rowsL;rw [List.length_map,List.length_range];(exact Nat.le_trans (by assumption) (by decide))
   refine wpAny_hide fun Qh hQh=>?_
   refine execs_seq fun Qs hQs=>(wpAny_execs_cons (wpAny_Expr (Call_method1 rfl rfl (pos_line dr_line) (name_ok HT hX' (av:=.loc 0) (by rw [hcs'];rfl) A₂₁.I fun D₂₂ v₂₂ s₂₂ le₂₂ I₂₂ V₂₂ sm₂₂=>?_)) (not_interactive hX') rfl))
   have A₂₂:=A₂₁.step le₂₂ I₂₂ sm₂₂
   refine e12 (V₂₂.locI) ?_;intro _ hl0 Y2;subst Y2
   refine e21 (id I₂₂) ?_;intro m₂₂ P₂₂ J₂₂
   refine e13 (J₂₂.lad_obj hl0) ?_;clear J₂₂;intro ob o1 o2 o3
   rw [← append_eq]
   refine onS F.plainAttrs_list F.slot_list_append rfl ⟨_,o1,o2⟩ (fun a e=>by cases e;(exact (i12 _ o1 o3))) (callWith_one ?_)
   refine name_ok HT hX' (av:=.str (.ext (rowL a os tx j) 2000 .nil)) (by rw [hcs'];rfl) I₂₂ fun D₂₃ v₂₃ s₂₃ le₂₃ I₂₃ V₂₃ sm₂₃=>?_
   have A₂₃:=A₂₂.step le₂₃ I₂₃ sm₂₃
   refine e11 (V₂₃.strI) ?_;intro t₂₃ Y1;subst Y1
   refine e21 (id I₂₃) ?_;intro m₂₃ P₂₃ J₂₃
   refine e23 (J₂₃.lad_get (i:=0) (l:=rows) rfl (le₂₃.lad _ _ hl0)) ?_;clear hl0;intro ws kk hP hv hg
   refine PyProof.Rows.append_at hg (fun h' hs' ho'=>?_) (by have:=hv.length;rw [List.size_toArray];show _≤16777216;lia)
   rw [show (SE.ext (rowL a os tx j) 2000 .nil).den ρ=rowL a os tx j by simp only [SE.den,List.append_nil];exact zT (hrowl tx htx)] at ho'
   have J₂₄:=J₂₃.setLst (vs':=ws++[.str (S (rowL a os tx j)) t₂₃]) (n':=kk+1) (l':=rows++[.val (.str (S (rowL a os tx j)) t₂₃)]) hP (hv.append (.cons (.val _) .nil)) hs' (by rw [ho'];simp)
   have A₂₄:At ρ X' D s D₂₃ ⟨dl4 a (.ref oa) tx x (partL os j) (.str (.ext hd 30 .nil)) (rowL a os tx j),[rows++[.val (.str (S (rowL a os tx j)) t₂₃)]]⟩ {s₂₃ with heap:=h'}:=⟨A₂₃.le,⟨_,_,J₂₄⟩,⟨A₂₃.sm.gens,A₂₃.sm.drawn,A₂₃.sm.os⟩⟩
   refine wpAny_execs_nil (hQs _ ?_)
   refine exs_two (m:=60) (T0_all w mean mg mb) hX' hr' hcs' (dr5 a (.ref oa) tx (partL os j) (rowL a os tx j) (.str (.ext hd 30 .nil)) x _) A₂₄.I fun D₂₅ s₂₅ le₂₅ I₂₅ sm₂₅=>?_
   have A₂₆:At ρ X' D s D₂₅ ⟨dl1 a (.ref oa) tx (7*((j+1:Nat):Int)),[rows++[.val (.str (S (rowL a os tx j)) t₂₃)]]⟩ s₂₅:=(A₂₄.step le₂₅ I₂₅ sm₂₅).relocs (.cons (by rfl) AVeq.rfl' (.cons (by rfl) AVeq.rfl' (.cons (by rfl) AVeq.rfl' (.cons (by rfl) AVeq.rfl' (.cons (a:=.int (.add (.extb x 0 100) (.lit 7))) (by rfl) (AVeq.int ?_) .nil)))))
   ·exact hQh _ _ <| hQk D₂₅ _ s₂₅ A₂₆ (by rw [rowsL_succ];exact hrows.snoc)
   ·show (IE.extb x 0 100).den ρ+7=(IE.extb (7*((j+1:Nat):Int)) 0 100).den ρ
    rw [hxd,extb_den (by (exact Int.natCast_nonneg _)) (by lia)];lia
  have hhead:List.replicate (4-hd.length) 32++hd=headL a j:=by unfold headL;rw [hx,hHd]
  have hrow0:rowL a os tx j=ln++tailL os tx j:=by
   unfold rowL
   rw [← hln,← hhead];simp only [List.append_assoc]
  refine execs_seq fun Qs hQs=>(wpAny_execs_cons (wpAny_If (R.2.1 _ _ _ _ _ (dr3T a (.ref oa) tx (partL os j) ln (.str (.ext hd 30 .nil)) x [rows]) ρ X' D₁₈ s₂₀ _ hcs' hX' hr' A₂₀.I fun D₂₁ b₂₁ s₂₁ le₂₁ I₂₁ V₂₁ sm₂₁=>?_)))
  have A₂₁:=A₂₀.step le₂₁ I₂₁ sm₂₁
  (have Y:=V₂₁.uI;clear V₂₁;subst Y)
  have hc0:(BE.eq (.extb x 0 100) (.lit 0)).den ρ=decide (x=0):=by
   show eqB ((IE.extb x 0 100).den ρ) 0=_
   rw [hxd,eqB_dec]
  rw [hc0]
  by_cases q:x=0
  ·rw [decide_eq_true q,if_pos rfl]
   have hj0:j=0:=by lia
   refine wpAny_execs_cons (wpAny_Assign_Name (wpAny_BinOp (wpAny_BinOp (name_ok HT hX' (av:=.str (.ext ln 2000 .nil)) (by rw [hcs'];rfl) I₂₁ fun D₂₂ v₂₂ s₂₂ le₂₂ I₂₂ V₂₂ sm₂₂=>wpAny_BinOp (wpAny_Constant_str (R.1 _ _ _ _ _ (dr3 a (.ref oa) tx (partL os j) ln (.str (.ext hd 30 .nil)) x [rows]) ρ X' D₂₂ _ _ hcs' hX' hr' (I₂₂.add _) fun D₂₃ v₂₃ s₂₃ le₂₃ I₂₃ V₂₃ sm₂₃=>?_))))))
   have A₂₃:=((A₂₁.step le₂₂ I₂₂ sm₂₂).tok _).step le₂₃ I₂₃ sm₂₃
   refine e11 (V₂₂.strI) ?_;clear V₂₂;intro t₂₂ Y1;subst Y1
   refine e11 (V₂₃.intI) ?_;clear V₂₃;intro t₂₃ Y1;subst Y1
   have e5:(IE.sub (.add (.cons 7 (.lit 0) (.lit 3)) (.lit 1)) (.ext ((partL os j).take 500).length)).den ρ=22-((partL os j).length:Int):=by
    show (3*7+0+1:Int)-(((partL os j).take 500).length:Nat)=_
    rw [zT (by (exact Nat.le_trans (by assumption) (by decide)))];lia
   refine mul_sp (by rw [e5];lia) (by rw [e5];lia) fun t₂₄ k₂₄=>?_
   rw [show (SE.ext ln 2000 .nil).den ρ=ln by simp only [SE.den,List.append_nil];exact zT (by (exact Nat.le_trans (by assumption) (by decide))),e5,show (22-((partL os j).length:Int)).toNat=22-(partL os j).length by lia]
   refine PyProof.Rows.add_str (fun t₂₅ k₂₅=>?_) (by rw [S_len,S_len,List.length_replicate];show _≤16777216;lia)
   refine name_ok HT hX' (av:=.str (.ext tx 1000 .nil)) (by rw [hcs'];rfl) (A₂₃.tok k₂₅).I fun D₂₆ v₂₆ s₂₆ le₂₆ I₂₆ V₂₆ sm₂₆=>?_
   have A₂₆:=(A₂₃.tok k₂₅).step le₂₆ I₂₆ sm₂₆
   refine e11 (V₂₆.strI) ?_;clear V₂₆;intro t₂₆ Y1;subst Y1
   rw [show (SE.ext tx 1000 .nil).den ρ=tx by simp only [SE.den,List.append_nil];exact zT htx,S_app]
   refine PyProof.Rows.add_str (fun t₂₇ k₂₇=>?_) (by rw [S_len,S_len,List.length_append,List.length_replicate];show _≤16777216;lia)
   rw [S_app,show ln++List.replicate (22-(partL os j).length) 32++tx=rowL a os tx j by rw [hrow0];unfold tailL;rw [if_pos hj0,hj0,List.append_assoc]]
   refine store_ok (x:=S lineN) hX' (by rw [hcs'];rfl) (A₂₆.tok k₂₇).I (V19 _ t₂₇ _ (hrowl tx htx)) fun s₂₈ I₂₈ sm₂₈=>?_
   exact wpAny_execs_nil (wpAny_execs_nil (hQs _ <| fin _ s₂₈ ((A₂₆.tok k₂₇).step (Led.le.refl _) I₂₈ sm₂₈)))
  ·rw [decide_eq_false q,if_neg zF]
   refine wpAny_execs_nil (wpAny_execs_nil (hQs _ <| fin D₂₁ s₂₁ ?_))
   rw [show rowL a os tx j=ln by rw [hrow0];unfold tailL;rw [if_neg (by lia),List.append_nil]]
   exact A₂₁
 have stop:∀ D₄ s₄,At ρ X' D s D₄ ⟨dl1 a (.ref oa) tx x,[rows]⟩ s₄→¬ (j=0∨7*j<os.length) →
   wpAny (model pw w) X'.A (execs [drS 3] X'.env) Qp F0 s₄:=fun D₄ s₄ A₄ hc=>by
  have hle:j≤nRows os.length:=by lia
  have hjR:j=nRows os.length:=by unfold nRows at hle ⊢;lia
  refine R.2.2.1 _ _ _ [] _ (dr6 a (.ref oa) tx x [rows]) ρ X' D₄ s₄ _ hcs' hX' hr' A₄.I fun D₅ fl s₅ le₅ fr sm₅=>?_
  refine e13 (fr) ?_;clear fr;intro v Y1 V I₅;subst Y1
  have A₅:=A₄.step le₅ I₅ sm₅
  exact hQp _ _ ⟨v,D₅,_,rfl,A₅.le,A₅.I,A₅.sm,rows,rfl,hjR▸hrows,V⟩
 obtain ⟨Nx,hNx,hNx'⟩:∃ Nx:Shared→Prop,(∀ D' rows' s',At ρ X' D s D' ⟨dl1 a (.ref oa) tx (7*((j+1:Nat):Int)),[rows']⟩ s'→StrV rows' (rowsL a os tx (j+1))→j<nRows os.length→Nx s') ∧
   (∀ s',Nx s'→∃ m,m<n∧∃ j D' rows,m+j=nRows os.length∧At ρ X' D s D' ⟨dl1 a (.ref oa) tx (7*(j:Nat)),[rows]⟩ s'∧StrV rows (rowsL a os tx j)) :=
  ⟨fun s'=>∃ D' rows',j<nRows os.length∧At ρ X' D s D' ⟨dl1 a (.ref oa) tx (7*((j+1:Nat):Int)),[rows']⟩ s'∧StrV rows' (rowsL a os tx (j+1)),fun D' r s' x y z=>⟨D',r,z,x,y⟩,fun s' ⟨D',r,z,x,y⟩=>⟨n-1,by lia,j+1,D',r,by lia,x,y⟩⟩
 refine wpAny_mono (E:=F0) (isTrue_or (R.2.1 _ _ _ _ _ (drT a (.ref oa) tx x [rows]) ρ X' D₃ s' _ hcs' hX' hr' A₃.I fun D₄ b₄ s₄ le₄ I₄ V₄ sm₄=>?_)) (fun _ _ z=>z) fun _ _ z=>z.elim
 have A₄:=A₃.step le₄ I₄ sm₄
 (have Y:=V₄.uI;clear V₄;subst Y)
 have hc0:(BE.eq (.extb x 0 100) (.lit 0)).den ρ=decide (x=0):=by
  show eqB ((IE.extb x 0 100).den ρ) 0=_
  rw [hxd,eqB_dec]
 rw [hc0]
 by_cases q:x=0
 ·rw [decide_eq_true q,if_pos rfl,if_pos rfl]
  exact wpAny_mono (key D₄ s₄ (fun f s'=>f=.next∧Nx s') (fun D' r s' x y=>⟨rfl,hNx D' r s' x y (by unfold nRows;lia)⟩) A₄ (.inl (by lia))) (fun f _ z=>by (refine e02 (z) ?_;clear z;intro Y0 z;subst Y0);exact hNx' _ z) fun _ _ z=>z.elim
 ·rw [decide_eq_false q,if_neg zF]
  refine isTrue_or (wpAny_isTrue_Compare1 (name_ok HT hX' (av:=.int (.extb x 0 100)) (by rw [hcs'];rfl) I₄ fun D₅ v₅ s₅ le₅ I₅ V₅ sm₅=>Call_ (fn_ok HT hX' (av:=.bi 0) (by rw [hcs'];rfl) I₅ fun D₆ v₆ s₆ le₆ I₆ V₆ sm₆=>?_)))
  (have Y:=V₆.biI;clear V₆;subst Y)
  refine callWith_builtin1 (id:="len") (args_cons (name_ok HT hX' (av:=.val (.ref oa)) (by rw [hcs'];rfl) I₆ fun D₇ v₇ s₇ le₇ I₇ V₇ sm₇=>args_nil ?_))
  (have Y:=V₇.valI;clear V₇;subst Y)
  have A₇:=((A₄.step le₅ I₅ sm₅).step le₆ I₆ sm₆).step le₇ I₇ sm₇
  refine len_val I₇ (zL _ (A₇.le.imm _ hm)) (by omega) fun t₈ k₈=>?_
  refine e11 (V₅.intI) ?_;clear V₅;intro t₅ Y1;subst Y1
  rw [hxd]
  refine PyProof.Rows.lt_int (wpAny_truthy_bool ?_)
  have A₈:=A₇.tok k₈
  by_cases q2:x<vs.length
  ·rw [decide_eq_true q2,if_pos rfl,if_pos rfl]
   exact wpAny_mono (key D₇ _ (fun f s'=>f=.next∧Nx s') (fun D' r s' x y=>⟨rfl,hNx D' r s' x y (by unfold nRows;omega)⟩) A₈ (.inr (by omega))) (fun f _ z=>by (refine e02 (z) ?_;clear z;intro Y0 z;subst Y0);exact hNx' _ z) fun _ _ z=>z.elim
  ·rw [decide_eq_false q2,if_neg zF]
   refine isTrue_or_nil ?_
   rw [if_neg zF]
   exact wpAny_execs_nil (stop D₇ _ A₈ (by omega))
end
end
end Nn62
end
section
open PySem PySem.W PySem.Calls PyProof.Rows
namespace Nn62
section
theorem hexL_solid {e:Int} (h:0≤e):Solid (hexL e):=⟨(hexL_back h).2.2,fun c hc=>by have:=isHex_iff ((hexL_back h).2.1 c hc);lia⟩
theorem no58 {a:Int}{j:Nat} (h:0≤a+7*j):(58:Nat)∉headL a j:=fun hm=>by
 unfold headL at hm
 rcases zA hm with h1|h1
 ·have:=(List.mem_replicate.mp h1).2;lia
 ·have:=isHex_iff ((hexL_back h).2.1 _ h1);lia
theorem row_find {a:Int}{j:Nat} (os:List Int) (tx:List Nat) (h:0≤a+7*j):Txt.find (S (rowL a os tx j)) (S [58])=((headL a j).length:Int):=by
 have:rowL a os tx j=headL a j++58::(32::32::(partL os j++tailL os tx j)):=rfl
 rw [this];exact find_eq (no58 h)
theorem row_head (a:Int) (os:List Int) (tx:List Nat) (j:Nat):Txt.slice (S (rowL a os tx j)) none (some ((headL a j).length:Int))=S (headL a j):=slice_to (r:=[58,32,32]++(partL os j++tailL os tx j)) rfl
theorem row_rest (a:Int) (os:List Int) (tx:List Nat) (j:Nat):Txt.slice (S (rowL a os tx j)) (some ((headL a j).length+1:Int)) none=S (32::32::(partL os j++tailL os tx j)):=by
 have:=slice_from (h:=headL a j++[58]) (d:=rowL a os tx j) (r:=32::32::(partL os j++tailL os tx j)) (by unfold rowL;simp)
 rw [List.length_append] at this
 rw [← this];rfl
theorem row_strip {a:Int}{j:Nat} (h:0≤a+7*j):Txt.strip (S (headL a j))=S (hexL (a+7*j)):=strip_eq _ (hexL_solid h)
theorem row_words {os:List Int}{tx:List Nat} (ho:∀ o∈os,0≤o∧o<256) (ht:Tidy tx) (j:Nat) :
  ∃ tw,wdF [] (32::32::(partL os j++tailL os tx j))=(chunkL os j).map hex2++tw∧joinL 32 tw=(if j=0 then tx else [])∧∀ x∈tw,Solid x:=by
 have hs:∀ x∈(chunkL os j).map hex2,Solid x:=fun x hx=>by
  refine e12 (List.mem_map.mp hx) ?_;clear hx;intro o h Y2;subst Y2
  exact hex2_solid (chunk_in ho o h)
 rw [wdF_sp,wdF_sp]
 unfold tailL partL
 by_cases h:j=0
 ·subst h
  rw [if_pos rfl,if_pos rfl]
  refine e13 (tidy_join ht) ?_;clear ht;intro ws _ e hw
  have hp:=part_len ho 0
  unfold partL at hp
  obtain ⟨k,hk⟩:∃ k,22-(joinL 32 ((chunkL os 0).map hex2)).length=k+1:=⟨21-(joinL 32 ((chunkL os 0).map hex2)).length,by lia⟩
  refine (i13 ws ?_ e.symm hw)
  rw [hk,List.replicate_succ,List.cons_append,wdF_join2 _ hs,wdF_pad,e,wdF_join hw]
 ·rw [if_neg h,if_neg h,List.append_nil]
  (exact (i13 ([]) (by rw [wdF_join hs,List.append_nil]) rfl (fun _ h=>absurd h List.not_mem_nil)))
theorem wdF_size:∀ (r cur:List Nat),((wdF cur r).map (·.length)).sum≤cur.length+r.length∧(wdF cur r).length≤cur.length+r.length
 | [],cur=>by cases cur <;> simp [wdF,flW]
 | c::r,cur=>by
  cases h:PySem.Unicode.isSpace c with
  | true =>
   have ih:=wdF_size r []
   rw [wdF_yes h]
   simp only [List.length_nil] at ih
   cases cur with
   | nil=>simp only [flW,List.nil_append,List.length_nil,List.length_cons];lia
   | cons a l=>simp only [flW,List.singleton_append,List.map_cons,List.sum_cons,List.length_cons];lia
  | false =>
   have ih:=wdF_size r (cur++[c])
   rw [wdF_no h]
   simp only [List.length_append,List.length_cons,List.length_nil] at ih ⊢;lia
noncomputable def rowsN:List Nat:=[114,111,119,115]
noncomputable def numN:List Nat:=[110,117,109,98,101,114]
noncomputable def rowN:List Nat:=[114,111,119]
noncomputable def cutN:List Nat:=[99,117,116]
noncomputable def wordsN:List Nat:=[119,111,114,100,115]
noncomputable def wordN:List Nat:=[119,111,114,100]
noncomputable def chunkN:List Nat:=[99,104,117,110,107]
noncomputable def enumN:List Nat:=[101,110,117,109,101,114,97,116,101]
noncomputable def maxN:List Nat:=[109,97,120]
noncomputable def intN:List Nat:=[105,110,116]
noncomputable def dumpN:List Nat:=[100,117,109,112,95,114,111,119,115]
noncomputable def mFind:List Nat:=[102,105,110,100]
noncomputable def mStrip:List Nat:=[115,116,114,105,112]
noncomputable def iuS (i:Nat):Stmt:=b707.1.getD i (.Pass ⟨0,0,0,0⟩)
noncomputable def forTB (zs:Stmt):Expr×Expr×List Stmt×Pos:=((atE zs 1),(atE zs 2),(atB zs 0),(atP zs 0))
noncomputable def iuB (i:Nat):Stmt:=(forTB (iuS 2)).2.2.1.getD i (.Pass ⟨0,0,0,0⟩)
noncomputable def q0 (zs:Stmt):List Pos:=(atL zs [1,66,130,194,258,2,0])
noncomputable def q1 (zs:Stmt):List Pos×Nat×Nat×Nat:=((atL zs [4161,8257,65,4225,8321,1090793601,2164535425,17051777,33828993,274561,536705,12417,129,1,0]),(atK zs 8321),(atK zs 33828993),(atK zs 536705))
noncomputable def q2 (zs:Stmt):List Pos×Nat:=((atL zs [65,129,1,66,130,2,0]),(atK zs 1))
noncomputable def tq0 (zs:Stmt):List Pos×Nat:=((atL zs [1,4162,66,130,2,0]),(atK zs 130))
noncomputable def tq1 (zs:Stmt):List Pos×Nat×Expr:=((atL zs [4161,1090789441,139603484737,2164531265,17047617,270401,8257,12353,65,1,0]),(atK zs 12353),(atE zs 129))
noncomputable def tq2 (zs:Stmt):List Pos×Expr:=((atL zs [1,266306,528450,4162,66,2,0]),(atE zs 17305666))
noncomputable def tq3 (zs:Stmt):List Pos×Expr×Expr:=((atL zs [1,66,130,2,0]),(atE zs 4226),(atE zs 8322))
structure T4 where
 p:List Pos
 k1:Nat
 k2:Nat
 s1:Scope
 s2:Scope
 kl:Nat
noncomputable def tq4 (zs:Stmt):T4:=⟨(atL zs [17043521,33820737,50597953,266305,528449,17567809,70901305409,139620782145,2181828673,34345025,790593,4161,8257,65,266369,528513,17567873,70901305473,139620782209,2181828737,34345089,790657,1091571841,2165313665,17830017,34607233,1052801,4225,8321,129,1,0]),(atK zs 50597953),(atK zs 34607233),(atC zs 4161),(atC zs 4225),0⟩
noncomputable def tq5 (zs:Stmt):List Pos×Nat×Nat×Expr:=((atL zs [266305,4161,270401,1091051585,2164793409,17309761,532545,8257,65,8321,12417,129,1,0]),(atK zs 266305),(atK zs 12417),(atE zs 4225))
noncomputable abbrev y0 (i:Nat):Pos:=at0 (q0 (iuS 0)) i
noncomputable abbrev y1 (i:Nat):Pos:=at0 (q1 (iuS 1)).1 i
noncomputable abbrev y2 (i:Nat):Pos:=at0 (q2 (iuS 2)).1 i
noncomputable abbrev z0 (i:Nat):Pos:=at0 (tq0 (iuB 0)).1 i
noncomputable abbrev z1 (i:Nat):Pos:=at0 (tq1 (iuB 1)).1 i
noncomputable abbrev z2 (i:Nat):Pos:=at0 (tq2 (iuB 2)).1 i
noncomputable abbrev z3 (i:Nat):Pos:=at0 (tq3 (iuB 3)).1 i
noncomputable abbrev z4 (i:Nat):Pos:=at0 (tq4 (iuB 4)).p i
noncomputable abbrev z5 (i:Nat):Pos:=at0 (tq5 (iuB 5)).1 i
noncomputable abbrev iuR (i:Nat):List Stmt:=iBody (iuB i)
theorem iu_body:b707.1=[.Assign [.Name (S rowsN) (y0 0)] (.Call (.Name (S dumpN) (y0 1)) [.Name (S atN) (y0 2),.Name (S octetsN) (y0 3),.Name (S textN) (y0 4)] [] (y0 5)) (y0 6)] ++
  ([.If (.Compare (.Call (.Name (S lenN) (y1 0)) [.Name (S rowsN) (y1 1)] [] (y1 2)) [.NotEq] [.Call (.Name (S maxN) (y1 3)) [.Constant (.int 1) (q1 (iuS 1)).2.1 (y1 4),.BinOp (.BinOp (.Call (.Name (S lenN) (y1 5)) [.Name (S octetsN) (y1 6)] [] (y1 7)) .Add (.Constant (.int 6) (q1 (iuS 1)).2.2.1 (y1 8)) (y1 9)) .FloorDiv (.Constant (.int 7) (q1 (iuS 1)).2.2.2 (y1 10)) (y1 11)] [] (y1 12)] (y1 13)) (iBody (iuS 1)) [] (y1 14)] ++
  ([.For (.Tuple [.Name (S numN) (y2 0),.Name (S rowN) (y2 1)] (q2 (iuS 2)).2 (y2 2)) (.Call (.Name (S enumN) (y2 3)) [.Name (S rowsN) (y2 4)] [] (y2 5)) (forTB (iuS 2)).2.2.1 [] (y2 6)]++[iuS 3])):=by kernel_rfl
theorem iu_turn:(forTB (iuS 2)).2.2.1=[.Assign [.Name (S cutN) (z0 0)] (.Call (.Attribute (.Name (S rowN) (z0 1)) (S mFind) (z0 2)) [.Constant (.str (S [58])) (tq0 (iuB 0)).2 (z0 3)] [] (z0 4)) (z0 5)] ++
  ([.If (.Compare (.Call (.Name (S intN) (z1 0)) [.Call (.Attribute (.Subscript (.Name (S rowN) (z1 1)) (.Slice none (some (.Name (S cutN) (z1 2))) none (z1 3)) (z1 4)) (S mStrip) (z1 5)) [] [] (z1 6),.Constant (.int 16) (tq1 (iuB 1)).2.1 (z1 7)] [] (z1 8)) [.NotEq] [(tq1 (iuB 1)).2.2] (z1 9)) (iuR 1) [] (z1 10)] ++
  ([.Assign [.Name (S wordsN) (z2 0)] (.Call (.Attribute (.Subscript (.Name (S rowN) (z2 1)) (.Slice (some (tq2 (iuB 2)).2) none none (z2 2)) (z2 3)) (S mSplit) (z2 4)) [] [] (z2 5)) (z2 6)] ++
  ([.Assign [.Name (S chunkN) (z3 0)] (.Subscript (.Name (S octetsN) (z3 1)) (.Slice (some (tq3 (iuB 3)).2.1) (some (tq3 (iuB 3)).2.2) none (z3 2)) (z3 3)) (z3 4)] ++
  ([.If (.BoolOp .Or [.Compare (.ListComp (.Call (.Name (S intN) (z4 0)) [.Name (S wordN) (z4 1),.Constant (.int 16) (tq4 (iuB 4)).k1 (z4 2)] [] (z4 3)) [⟨.Name (S wordN) (z4 4),.Subscript (.Name (S wordsN) (z4 5)) (.Slice none (some (.Call (.Name (S lenN) (z4 6)) [.Name (S chunkN) (z4 7)] [] (z4 8))) none (z4 9)) (z4 10),[],0⟩] (tq4 (iuB 4)).s1 (z4 11)) [.NotEq] [.Name (S chunkN) (z4 12)] (z4 13),
   .Compare (.ListComp (.Name (S wordN) (z4 14)) [⟨.Name (S wordN) (z4 15),.Subscript (.Name (S wordsN) (z4 16)) (.Slice none (some (.Call (.Name (S lenN) (z4 17)) [.Name (S chunkN) (z4 18)] [] (z4 19))) none (z4 20)) (z4 21),[.Compare (.Call (.Name (S lenN) (z4 22)) [.Name (S wordN) (z4 23)] [] (z4 24)) [.NotEq] [.Constant (.int 2) (tq4 (iuB 4)).k2 (z4 25)] (z4 26)],0⟩] (tq4 (iuB 4)).s2 (z4 27)) [.NotEq] [.List [] (z4 28)] (z4 29)] (z4 30)) (iuR 4) [] (z4 31)] ++
  [.If (.Compare (.Call (.Attribute (.Constant (.str (S [32])) (tq5 (iuB 5)).2.1 (z5 0)) (S mJoin) (z5 1)) [.Subscript (.Name (S wordsN) (z5 2)) (.Slice (some (.Call (.Name (S lenN) (z5 3)) [.Name (S chunkN) (z5 4)] [] (z5 5))) none none (z5 6)) (z5 7)] [] (z5 8)) [.NotEq] [.IfExp (tq5 (iuB 5)).2.2.2 (.Name (S textN) (z5 9)) (.Constant (.str (S [])) (tq5 (iuB 5)).2.2.1 (z5 10)) (z5 11)] (z5 12)) (iuR 5) [] (z5 13)])))):=by kernel_rfl
end
end Nn62
end
section
open PySem PySem.W PySem.Calls PyProof.Rows
namespace Nn62
open PySem.W.Z (leB ltB eqB leB_iff ltB_iff eqB_iff)
section
theorem args707:((sArgs (stA 72)).args.map fun p=>p.arg.cps.toList)=[atN,octetsN,textN]:=by kernel_rfl
theorem fn707 (w:World):FnOk w 707 (sArgs (stA 72)) (sBody (stA 72)) (sScope (stA 72)):=by
 refine fnOk_of (dV:=.none) (cd:=706) (q:=S zq13) (pm:=.str (S zq3) 1005) (by kernel_rfl) (by kernel_rfl) (by kernel_rfl) fun s vs h=>?_
 have hl:(sArgs (stA 72)).args.length=3:=by kernel_rfl
 rw [hl] at h
 refine e31 (len3 h) ?_;clear h;intro v0 v1 v2 Y3;subst Y3
 exact BindsTo.of_eq (by kernel_rfl)
noncomputable def il1 (a:Int) (ov:Value) (tx:List Nat) (rv:Value):Locs:=dl0 a ov tx++[(rowsN,.val rv)]
noncomputable def il2 (a:Int) (ov:Value) (tx:List Nat) (rv:Value) (i:Int) (v:Value):Locs:=il1 a ov tx rv++[(numN,.int (.extb i 0 100)),(rowN,.val v)]
noncomputable def il3 (a:Int) (ov:Value) (tx:List Nat) (rv:Value) (i:Int) (v:Value) (c:Int):Locs:=il2 a ov tx rv i v++[(cutN,.int (.extb c 0 100))]
noncomputable def il4 (a:Int) (ov:Value) (tx:List Nat) (rv:Value) (i:Int) (v:Value) (c:Int) (wv:Value):Locs:=il3 a ov tx rv i v c++[(wordsN,.val wv)]
noncomputable def il5 (a:Int) (ov:Value) (tx:List Nat) (rv:Value) (i:Int) (v:Value) (c:Int) (wv cv:Value):Locs:=il4 a ov tx rv i v c wv++[(chunkN,.val cv)]
theorem iu1 (a:Int) (ov:Value) (tx:List Nat) (rv:Value) (i:Int) (v:Value) (c:Int):(recs T0 60).ev s707.1 ⟨il3 a ov tx rv i v c,[]⟩ (tq1 (iuB 1)).2.2=some (.int (.add (pE a) (.cons 7 (.lit 0) (.extb i 0 100))),⟨il3 a ov tx rv i v c,[]⟩):=by kernel_rfl
theorem iu2 (a:Int) (ov:Value) (tx:List Nat) (rv:Value) (i:Int) (v:Value) (c:Int):(recs T0 60).ev s707.1 ⟨il3 a ov tx rv i v c,[]⟩ (tq2 (iuB 2)).2=some (.int (.add (.extb c 0 100) (.lit 1)),⟨il3 a ov tx rv i v c,[]⟩):=by kernel_rfl
theorem iu3 (a:Int) (ov:Value) (tx:List Nat) (rv:Value) (i:Int) (v:Value) (c:Int) (wv:Value):(recs T0 60).ev s707.1 ⟨il4 a ov tx rv i v c wv,[]⟩ (tq3 (iuB 3)).2.1=some (.int (.cons 7 (.lit 0) (.extb i 0 100)),⟨il4 a ov tx rv i v c wv,[]⟩):=by kernel_rfl
theorem iu4 (a:Int) (ov:Value) (tx:List Nat) (rv:Value) (i:Int) (v:Value) (c:Int) (wv:Value):(recs T0 60).ev s707.1 ⟨il4 a ov tx rv i v c wv,[]⟩ (tq3 (iuB 3)).2.2=some (.int (.add (.cons 7 (.lit 0) (.extb i 0 100)) (.lit 7)),⟨il4 a ov tx rv i v c wv,[]⟩):=by kernel_rfl
theorem iu5 (a:Int) (ov:Value) (tx:List Nat) (rv:Value) (i:Int) (v:Value) (c:Int) (wv cv:Value):(recs T0 60).tst s707.1 ⟨il5 a ov tx rv i v c wv cv,[]⟩ (tq5 (iuB 5)).2.2.2=some (.u (.eq (.extb i 0 100) (.lit 0)),⟨il5 a ov tx rv i v c wv cv,[]⟩):=by kernel_rfl
theorem iu6 (a:Int) (ov:Value) (tx:List Nat) (rv:Value):(recs T0 60).exs s707.1 ⟨il1 a ov tx rv,[]⟩ [iuS 3] []=some (.ret (.bool true) ⟨il1 a ov tx rv,[]⟩):=by kernel_rfl
theorem c1_scope:(tq4 (iuB 4)).s1.names=[(S [46,48],.local),(S wordN,.local),(S intN,.globalImplicit)]:=by kernel_rfl
theorem c1_kind:(tq4 (iuB 4)).s1.kind=.function:=by kernel_rfl
theorem c1_clos (env:Env):closureFor (tq4 (iuB 4)).s1 env=pure []:=by kernel_rfl
theorem c2_scope:(tq4 (iuB 4)).s2.names=[(S [46,48],.local),(S wordN,.local),(S lenN,.globalImplicit)]:=by kernel_rfl
theorem c2_kind:(tq4 (iuB 4)).s2.kind=.function:=by kernel_rfl
theorem c2_clos (env:Env):closureFor (tq4 (iuB 4)).s2 env=pure []:=by kernel_rfl
theorem iu_l0:posLine (z0 2) (z0 4)=true:=by kernel_rfl
theorem iu_l1:posLine (z1 5) (z1 6)=true:=by kernel_rfl
theorem iu_l2:posLine (z2 4) (z2 5)=true:=by kernel_rfl
theorem iu_l5:posLine (z5 1) (z5 8)=true:=by kernel_rfl
theorem find_eqS:("find":Str)=S mFind:=(Fast.ofString_ofList ['f','i','n','d']).trans rfl
theorem strip_eqS:("strip":Str)=S mStrip:=(Fast.ofString_ofList ['s','t','r','i','p']).trans rfl
section
variable {w:World}{mean:ExcName→Option Value}{mg mb:Str→Option Value}{n:Nat}{ρ:Rho}{X:FX}{D D₀:Led}{st:St}{s s₀:Shared}{loc:Locs}{lst:List (List AV)}
theorem le_nil {D D':Led} (h:D.lad=[]) (hi:∀ p∈D.imm,p∈D'.imm):D.le D':=⟨hi,fun _ _ e=>by rw [h] at e;exact xNS e⟩
theorem freeze0 {items:List AV}{a:Addr} (h0:D₀.lad=[]) (le:D₀.le D) (I:Inv ρ X D ⟨loc,[items]⟩ s) (hb:locsLb 0 loc=true) (V:VR ρ D (.loc 0) (.ref a)) :
  ∃ vs k D',D₀.le D'∧D'.lad=[]∧(∀ p∈D.imm,p∈D'.imm)∧Inv ρ X D' ⟨loc,[]⟩ s∧(a,lObj vs k)∈D'.imm∧VRs ρ D items vs:=by
 refine e34 (Inv.freeze (base:=[]) (l':=loc) I rfl) ?_;clear I;intro a' vs k hv e le' hq
 refine e12 V.locI ?_;clear V;intro a1 e' Y;have Y:=Value.ref.inj Y;subst Y
 have:a'=a:=Option.some.inj (e.symm.trans e')
 subst this
 refine (i36 vs k (⟨(a',lObj vs k)::D.imm,[]⟩) (le_nil h0 fun p hp=>.tail _ (le.imm p hp)) rfl (fun p hp=>.tail _ hp) ?_ (.head _) hv)
 have:=hq fun x b e=>⟨b,e,fun v V=>(VR.cut (k:=0) V (locsLb_ok hb x b e)).mono (Led.le_imm ⟨D.imm,D.lad.take 0⟩ _)⟩
 simpa using this
theorem slice_at {value slice:Expr}{oa:Addr}{vs:List Value}{k:Nat}{vl vu:Value}{lo hi:Option Int}{Q:Value→Shared→Prop} (I:Inv ρ X D st s) (hm:(oa,lObj vs k)∈D.imm++X.fx) (pl:IsPart vl lo) (pu:IsPart vu hi) (hl:vs.length≤100000)
  (h:∀ D' b ws s',D.le D'→D'.lad=D.lad→Inv ρ X D' st s'→Same s s'→(b,lObj ws 0)∈D'.imm→ws=(slicePick vs.toArray lo hi Option.none).toList→Q (.ref b) s')
  (hs:∀ i,subscripted slice false (.ref oa) i=operate [i,.ref oa] (getItem (.ref oa) i)) (ht:∀ r,letTemporaryGo value (.ref oa) r=pure ()) :
  wpAny (model pw w) X.A (subscriptTail value slice (.ref oa) (.ref s.heap.objs.size)) Q F0 {s with heap:=s.heap.push {cls:=.type "slice",data:=.fields #[vl,vu,.none]}}:=by
 have hg:=I.fx_obj hm
 refine e21 (id I) ?_;clear I;intro m P J
 refine slice_list J.F J.N ⟨_,hg,rfl,_,rfl⟩ pl pu (fun h' F' N'=>?_) (hs _) ht (by rw [List.size_toArray];show vs.length≤16777216;(exact Nat.le_trans (by assumption) (by decide)))
 generalize hvs:slicePick vs.toArray lo hi Option.none=its at F' N' h ⊢
 have hits:its.toList.toArray=its:=by simp
 generalize its.toList=ws at h hits
 subst hits
 have lt4:∀ p∈P++(D.imm++X.fx),p.1<s.heap.objs.size+1:=fun p hp=>Nat.lt_succ_of_lt (J.lt hp)
 exact h _ _ ws _ (Led.le_imm D _) rfl ⟨m,P,J.pushAt _ _ lt4 F' N'⟩ ⟨rfl,rfl,rfl⟩ (.head _) rfl
theorem len_name {x:List Nat}{b:Addr}{ws:List Value}{k:Nat}{p1 p2 p3:Pos}{Q:Value→Shared→Prop} (hX:X.Ok w mean mg mb ρ) (hn:evName T0 X.cs st (S x)=some (.val (.ref b))) (hf:evFn T0 X.cs (S lenN)=some (.bi 0)) (I:Inv ρ X D st s) (hm:(b,lObj ws k)∈D.imm) (hl:ws.length≤100000)
  (h:∀ D' s' t,D.le D'→D'.lad=D.lad→Inv ρ X D' st s'→Same s s'→Q (.int (ws.length:Int) t) s'):wpAny (model pw w) X.A (eval (.Call (.Name (S lenN) p1) [.Name (S x) p2] [] p3) X.env) Q F0 s:=by
 have HT:=(T0_all w mean mg mb).toTabsOk
 refine Call_ (fn_ok HT hX hf I fun D₁ v₁ s₁ le₁ I₁ V₁ sm₁=>?_)
 obtain rfl:=V₁.biI
 refine callWith_builtin1 (id:="len") (args_cons (name_ok HT hX hn I₁ fun D₂ v₂ s₂ le₂ I₂ V₂ sm₂=>args_nil ?_))
 obtain rfl:=V₂.valI
 refine len_val I₂ (zL _ (le₂.imm _ (le₁.imm _ hm))) hl fun t tk=>?_
 have le:=le₁.trans le₂
 have hlad:D₂.lad=D.lad:=by
  have h1:=I.lad_len
  have h2:=I₂.lad_len
  refine List.ext_getElem? fun i=>?_
  cases e:D.lad[i]? with
  | some a=>exact le.lad _ _ e
  | none =>
   have:D.lad.length≤i:=by simpa using e
   exact List.getElem?_eq_none (by lia)
 exact h D₂ _ t le hlad (I₂.add tk) ((sm₁.trans sm₂).trans ⟨rfl,rfl,rfl⟩)
end
end
section
section
variable {w:World}{mean:ExcName→Option Value}{mg mb:Str→Option Value}{n:Nat}{ρ:Rho}{X:FX}{D D₀:Led}{st:St}{s s₀:Shared}{loc:Locs}{lst:List (List AV)}
theorem Inv.grow {h':Heap}{tk:Nat} (I:Inv ρ X D st s) (hold:∀ c o,s.heap.get? c=some o→h'.get? c=some o):Inv ρ X D st {s with heap:=h',toks:=tk} :=
 Inv.put (X:=X) (f:=X.fx) (f':=X.fx) (tk:=tk) I (fun _ hq=>List.mem_map_of_mem hq) (fun b x _ e=>hold b x e) (fun _ hq=>hold _ _ (I.fx_obj (zR _ hq)))
theorem int_ext {c:Int} (t:Tok) (h0:0≤c) (h1:c≤100):VR ρ D (.int (.extb c 0 100)) (.int c t):=by
 have:=VR.int (ρ:=ρ) (D:=D) (.extb c 0 100) t
 rw [extb_den h0 h1] at this;exact this
theorem glb_int:lkN T0.glb intN=some (.bi 3):=by kernel_rfl
theorem glb_len:lkN T0.glb lenN=some (.bi 0):=by kernel_rfl
theorem compG {T:Tabs} (HT:TabsOk w T) {sc:Scope} (hk:sc.kind=.function) (hX:X.Ok w mean mg mb ρ) {C I:Addr}{o oC:Obj}{x:List Nat}{av:AV}{p0:Pos}{cl:List (Str×Addr)}{Q:Value→Shared→Prop} (hx:sc.names.lookup (S x)=some .globalImplicit) (hd:lnBeq x debugL=false) (hg:lkN T.glb x=some av) (J:Inv ρ (X.comp I o C oC) D st s)
  (h:Post ρ (X.comp I o C oC) D s av st Q):wpAny (model pw w) X.A (eval (.Name (S x) p0) (compEnvC sc cl C X.env)) Q F0 s:=by
 have hXc:((X.with I o).with C oC).Ok w mean mg mb ρ:=okWith (okWith hX)
 have e1:(compEnvC sc cl C X.env).kindOf (S x)=some .globalImplicit:=kind_comp (by decide) hx
 have e3:(compEnvC sc cl C X.env).globals=mainGlobals:=rfl
 have e4:(compEnvC sc cl C X.env).builtins=builtinsNs:=rfl
 have e5:(compEnvC sc cl C X.env).scope.kind=.function:=hk
 exact fnC_ok (X:=(X.with I o).with C oC) HT hXc e3 e4 e5 e1 hd hg J h
theorem compL {sc:Scope} (hk:sc.kind=.function) {C:Addr}{x:List Nat}{p0:Pos}{cl:List (Str×Addr)}{v:Value}{m:Str→Option Value}{Q:Value→Shared→Prop} (hx:sc.names.lookup (S x)=some .local) (hd:lnBeq x debugL=false) (hn:s.heap.Ns C m) (hv:m (S x)=some v) (h:Q v s) :
  wpAny (model pw w) X.A (eval (.Name (S x) p0) (compEnvC sc cl C X.env)) Q F0 s:=by
 have e1:(compEnvC sc cl C X.env).kindOf (S x)=some .local:=kind_comp (by decide) hx
 have e5:(compEnvC sc cl C X.env).scope.kind=.function:=hk
 exact locC_ok e5 e1 hd hn hv h
theorem comp_ns {C I:Addr}{o oC:Obj}{m:Str→Option Value}{D':Led}{st':St}{s':Shared} (J:Inv ρ (X.comp I o C oC) D st s) (J':Inv ρ (X.comp I o C oC) D' st' s') (hns:s.heap.Ns C m):s'.heap.Ns C m:=hns.at' fun ob e=>by
 have e1:=J.fx_obj (p:=(C,oC)) (zR _ (.head _))
 rw [show ob=oC from Option.some.inj (e.symm.trans e1)]
 exact J'.fx_obj (p:=(C,oC)) (zR _ (.head _))
theorem comp1_ok {sc:Scope} (hk:sc.kind=.function) (hsc:sc.names=[(S [46,48],.local),(S wordN,.local),(S intN,.globalImplicit)]) {p0 p1 p2 p3:Pos}{kk:Nat}{C I:Addr}{o oC:Obj}{x:List Nat}{t:Tok}{m:Str→Option Value}{Q:Value→Shared→Prop} (hX:X.Ok w mean mg mb ρ) (hh:∀ c∈x,isHex c=true) (hne:x≠[]) (hl:x.length≤100) (J:Inv ρ (X.comp I o C oC) D st s) (hns:s.heap.Ns C m) (hv:m (S wordN)=some (.str (S x) t))
  (h:∀ D' s' t',D.le D'→Inv ρ (X.comp I o C oC) D' st s'→Same s s'→Q (.int (hexOf x) t') s') :
  wpAny (model pw w) X.A (eval (.Call (.Name (S intN) p0) [.Name (S wordN) p1,.Constant (.int 16) kk p2] [] p3) (compEnvC sc [] C X.env)) Q F0 s:=by
 have HT:=(T0_all w mean mg mb).toTabsOk
 refine Call_ (compG HT hk hX (by rw [hsc];rfl) rfl glb_int J fun D₄ fv₄ s₄ le₄ I₄ V₄ sm₄=>?_)
 obtain rfl:=V₄.biI
 refine PyProof.Rows.callWith_type1 (T:="int") (args_cons (compL hk (by rw [hsc];rfl) rfl (comp_ns J I₄ hns) hv (args_cons (wpAny_Constant_int (args_nil ?_)))))
 refine int_hex hh hne hl ?_
 exact h D₄ _ _ le₄ (I₄.add _) (sm₄.trans ⟨rfl,rfl,rfl⟩)
theorem comp2_ok {sc:Scope} (hk:sc.kind=.function) (hsc:sc.names=[(S [46,48],.local),(S wordN,.local),(S lenN,.globalImplicit)]) {p0 p1 p2 p3 p4:Pos}{kk:Nat}{C I:Addr}{o oC:Obj}{x:List Nat}{t:Tok}{m:Str→Option Value}{Q:Bool→Shared→Prop} (hX:X.Ok w mean mg mb ρ) (hl:x.length=2) (J:Inv ρ (X.comp I o C oC) D st s) (hns:s.heap.Ns C m) (hv:m (S wordN)=some (.str (S x) t))
  (h:∀ D' s',D.le D'→Inv ρ (X.comp I o C oC) D' st s'→Same s s'→Q false s') :
  wpAny (model pw w) X.A (ifsT [.Compare (.Call (.Name (S lenN) p0) [.Name (S wordN) p1] [] p2) [.NotEq] [.Constant (.int 2) kk p3] p4] (compEnvC sc [] C X.env)) Q F0 s:=by
 have HT:=(T0_all w mean mg mb).toTabsOk
 refine wpAny_bind (wpAny_bind (wpAny_isTrue_Compare1 (Call_ (compG HT hk hX (by rw [hsc];rfl) rfl glb_len J fun D₄ fv₄ s₄ le₄ I₄ V₄ sm₄=>?_))))
 obtain rfl:=V₄.biI
 refine callWith_builtin1 (id:="len") (args_cons (compL hk (by rw [hsc];rfl) rfl (comp_ns J I₄ hns) hv (args_nil ?_)))
 refine len_str (by rw [S_len,hl];decide) (wpAny_Constant_int (PyProof.Rows.ne_int (wpAny_truthy_bool (wpAny_pure ?_))))
 rw [show ((((S x).length:Nat):Int) != 2)=false by rw [S_len,hl];rfl]
 exact wpAny_pure (h D₄ _ le₄ (I₄.add _) (sm₄.trans ⟨rfl,rfl,rfl⟩))
end
end
section
section
variable {w:World}{mean:ExcName→Option Value}{mg mb:Str→Option Value}{n:Nat}{ρ:Rho}{X:FX}{D D₀:Led}{st:St}{s s₀:Shared}{loc:Locs}{lst:List (List AV)}
theorem ints_dat {news:List (Addr×Obj)}{vs:List Value}{ns:List Int} (V:IntsAre vs ns):DatAll news vs (ns.map Dat.int):=by
 induction V with
 | nil=>exact .nil
 | cons n t r ih=>exact .cons (.int n t) ih
theorem ne_ints {a b:Addr}{xs ys:List Value}{ka kb:Nat}{ns:List Int}{Q:Value→Shared→Prop} (I:Inv ρ X D st s) (ma:(a,lObj xs ka)∈D.imm) (mb:(b,lObj ys kb)∈D.imm) (ha:IntsAre xs ns) (hb:IntsAre ys ns) (hu:X.A.units+64<cLine) (h:Q (.bool false) s) :
  wpAny (model pw w) X.A (compareOp .NotEq (.ref a) (.ref b)) Q F0 s:=by
 refine e21 (I) ?_;clear I;intro m P J
 have ok:∀ d∈ns.map Dat.int,kqdOk 8 d=true:=fun d hd=>by (refine e12 (List.mem_map.mp hd) ?_;clear hd;intro n _ Y2;subst Y2);rfl
 refine kqd_ne (oa:=lObj xs ka) (ob:=lObj ys kb) (n₁:=[]) (n₂:=[]) J.N (zR _ (zL _ ma)) rfl rfl (ints_dat ha) (fun _ h=>nomatch h) (zR _ (zL _ mb)) rfl rfl (ints_dat hb) (fun _ h=>nomatch h) ok ok hu ?_
 simpa using h
theorem room_units {k:Nat} (h:Room X k):X.A.units+64<cLine:=by
 have h2:=h.2
 have e:cLine=9900:=rfl
 rw [e]
 show X.un+64<9900
 lia
theorem ext_str {l:List Nat}{k:Nat} (t:Tok) (h:l.length≤k):VR ρ D (.str (.ext l k .nil)) (.str (S l) t):=by
 have:=VR.str (ρ:=ρ) (D:=D) (.ext l k .nil) t
 rw [show (SE.ext l k .nil).den ρ=l by simp only [SE.den,List.append_nil];exact zT h] at this;exact this
theorem lad_nil {D D':Led}{st st':St}{s':Shared} (I:Inv ρ X D st s) (I':Inv ρ X D' st' s') (h:D.lad=[]) (e:st'.lst.length=st.lst.length):D'.lad=[]:=by
 have h1:=I.lad_len
 have h2:=I'.lad_len
 rw [h] at h1
 exact List.eq_nil_of_length_eq_zero (by rw [h2,e,← h1];rfl)
theorem row_len {a:Int}{os:List Int}{tx:List Nat} (ha:0≤a∧a<pow64) (ho:∀ o∈os,0≤o∧o<256) (htx:tx.length≤1000) {j:Nat} (hj:j≤4):(rowL a os tx j).length≤2000∧(headL a j).length≤28∧(hexL (a+7*j)).length≤24:=by
 have h1:=part_len ho j
 have h2:(hexL (a+7*j)).length≤24:=hexL_len (k:=24) (by have:=ha.2;unfold pow64 at this;lia) (by decide)
 have h3:(tailL os tx j).length≤1022:=by unfold tailL;split <;> simp <;> lia
 have h4:(headL a j).length≤28:=by unfold headL;simp only [List.length_append,List.length_replicate];lia
 refine ⟨?_,h4,h2⟩
 unfold rowL
 simp only [List.length_append,List.length_cons,List.length_nil];lia
theorem turnA_ok {oa:Addr}{a:Int}{os:List Int}{tx:List Nat}{rv:Value}{i:Nat}{tv:Tok}{Q:Flow→Shared→Prop} (ha:0≤a∧a<pow64) (ho:∀ o∈os,0≤o∧o<256) (htx:tx.length≤1000) (hi4:i≤4) (hcs':X.cs=s707.1) (hX:X.Ok w mean mg mb ρ) (hr:Room X 133)
  (I:Inv ρ X D ⟨il2 a (.ref oa) tx rv i (.str (S (rowL a os tx i)) tv),[]⟩ s) {rest:List Stmt}
  (h:∀ D' s',D.le D'→Inv ρ X D' ⟨il3 a (.ref oa) tx rv i (.str (S (rowL a os tx i)) tv) (headL a i).length,[]⟩ s'→Same s s'→wpAny (model pw w) X.A (execs rest X.env) Q F0 s') :
  wpAny (model pw w) X.A (execs ([.Assign [.Name (S cutN) (z0 0)] (.Call (.Attribute (.Name (S rowN) (z0 1)) (S mFind) (z0 2)) [.Constant (.str (S [58])) (tq0 (iuB 0)).2 (z0 3)] [] (z0 4)) (z0 5)] ++
  ([.If (.Compare (.Call (.Name (S intN) (z1 0)) [.Call (.Attribute (.Subscript (.Name (S rowN) (z1 1)) (.Slice none (some (.Name (S cutN) (z1 2))) none (z1 3)) (z1 4)) (S mStrip) (z1 5)) [] [] (z1 6),.Constant (.int 16) (tq1 (iuB 1)).2.1 (z1 7)] [] (z1 8)) [.NotEq] [(tq1 (iuB 1)).2.2] (z1 9)) (iuR 1) [] (z1 10)]++rest)) X.env) Q F0 s:=by
 have HT:=(T0_all w mean mg mb).toTabsOk
 have R:=recs_ok (T0_all w mean mg mb) 60
 refine e03 (row_len ha ho htx hi4) ?_;intro hrow hhead hhex
 have hpos:0≤a+7*(i:Int):=by lia
 have hfind:=row_find os tx hpos
 have hsl:=row_head a os tx i
 have hstr:=row_strip hpos
 refine e03 (hexL_back hpos) ?_;intro x1 x2 x3
 generalize hv:(Value.str (S (rowL a os tx i)) tv)=v at I h
 have hc28:((headL a i).length:Int)≤100:=by lia
 generalize hc:((headL a i).length:Int)=c at *
 have hc0:0≤c:=by lia
 refine execs_seq fun Qs hQs=>wpAny_execs_cons (wpAny_Assign_Name (Call_method1 rfl rfl (pos_line iu_l0) (name_ok HT hX (av:=.val v) (by rw [hcs'];rfl) I fun D₁ v₁ s₁ le₁ I₁ V₁ sm₁=>?_)))
 obtain rfl:=V₁.valI
 subst hv
 rw [← find_eqS]
 refine SB.find (wpAny_Constant_str ⟨_,_,rfl,?_⟩)
 rw [hfind]
 refine store_ok (x:=S cutN) hX (by rw [hcs'];rfl) (I₁.add _) (int_ext (c:=c) _ hc0 hc28) fun s₂ I₂ sm₂=>?_
 refine wpAny_execs_nil (hQs _ ?_)
 clear hQs Qs
 have sm₂:Same s s₂:=sm₁.trans ⟨sm₂.gens,sm₂.drawn,sm₂.os⟩
 have I₂:Inv ρ X D₁ ⟨il3 a (.ref oa) tx rv i (.str (S (rowL a os tx i)) tv) c,[]⟩ s₂:=I₂
 refine execs_seq fun Qs hQs=>wpAny_execs_cons (wpAny_If (wpAny_isTrue_Compare1 (Call_ (fn_ok HT hX (av:=.bi 3) (by rw [hcs'];rfl) I₂ fun D₃ v₃ s₃ le₃ I₃ V₃ sm₃=>?_)) ?_))
 ·obtain rfl:=V₃.biI
  refine PyProof.Rows.callWith_type1 (T:="int") (args_cons (Call_method0 rfl (pos_line iu_l1) (Subscript_ (name_ok HT hX (av:=.val (.str (S (rowL a os tx i)) tv)) (by rw [hcs'];rfl) I₃ fun D₄ v₄ s₄ le₄ I₄ V₄ sm₄=>?_))))
  obtain rfl:=V₄.valI
  refine wpAny_Slice (wpAny_evalPart_none (wpAny_evalPart_some (name_ok HT hX (av:=.int (.extb c 0 100)) (by rw [hcs'];rfl) I₄ fun D₅ v₅ s₅ le₅ I₅ V₅ sm₅=>wpAny_evalPart_none ?_)))
  refine e11 (V₅.intI) ?_;intro t₅ Y1;subst Y1
  rw [extb_den hc0 hc28]
  refine e21 (id I₅) ?_;intro m P J
  refine slice_strN_ns J.F J.N (fun h' t' k F' N'=>?_) rfl (letGo_str _ _ _) (by rw [S_len];show _≤16777216;(exact Nat.le_trans (by assumption) (by decide)))
  have I₆:Inv ρ X D₅ ⟨il3 a (.ref oa) tx rv i (.str (S (rowL a os tx i)) tv) c,[]⟩ {s₅ with heap:=h',toks:=k}:=⟨m,P,{J with F:=F',N:=N'}⟩
  rw [hsl,← strip_eqS]
  refine SB.strip (fun t'' k'=>?_) (by rw [S_len];show _≤16777216;(exact Nat.le_trans (by assumption) (by decide)))
  rw [hstr]
  refine args_cons (wpAny_Constant_int (args_nil (int_hex x2 x3 (by (exact Nat.le_trans (by assumption) (by decide))) ?_)))
  rw [x1]
  refine R.1 _ _ _ _ _ (iu1 a (.ref oa) tx rv i (.str (S (rowL a os tx i)) tv) c) ρ X D₅ _ _ hcs' hX (hr.down (by decide)) (I₆.add _) fun D₇ v₇ s₇ le₇ I₇ V₇ sm₇=>?_
  refine e11 (V₇.intI) ?_;intro t₇ Y1;subst Y1
  refine PyProof.Rows.ne_int (wpAny_truthy_bool ?_)
  have e:((IE.add (pE a) (.cons 7 (.lit 0) (.extb i 0 100))).den ρ)=a+7*i:=by
   show (pE a).den ρ+((IE.extb i 0 100).den ρ*7+0)=_
   rw [pE_den ha,extb_den (by (exact Int.natCast_nonneg _)) (by lia)];lia
  rw [e,bne_self_eq_false,if_neg zF]
  refine wpAny_execs_nil (wpAny_execs_nil (hQs _ (h D₇ s₇ (((le₁.trans le₃).trans (le₄.trans le₅)).trans le₇) I₇ ?_)))
  exact (sm₂.trans ((sm₃.trans sm₄).trans sm₅)).trans ⟨sm₇.gens,sm₇.drawn,sm₇.os⟩
 ·kernel_rfl
end
end
section
theorem LsR.vals {ρ:Rho}{D:Led}:∀ {P:List (Addr×Obj)}{pre:List (List AV)}{items:List AV},LsR ρ D P (pre++[items])→∃ vs,VRs ρ D items vs∧LsR ρ D P (pre++[vs.map AV.val])
 | _,[],_,h=>by
  have h:LsR ρ D _ (_::[]):=h
  cases h with|cons x y =>
  refine (i12 _ x (.cons ?_ y))
  have key:∀ vs:List Value,VRs ρ D (vs.map AV.val) vs:=fun vs=>by
   induction vs with
   | nil=>exact .nil
   | cons v vs ih=>exact .cons (.val v) ih
  exact key _
 | _,l::pre,_,h=>by
  have h:LsR ρ D _ (l::(pre++[_])):=h
  cases h with|cons x y =>
  refine e12 (y.vals) ?_;clear y;intro vs h1 h2
  (exact (i12 vs h1 (.cons x h2)))
section
variable {w:World}{mean:ExcName→Option Value}{mg mb:Str→Option Value}{n:Nat}{ρ:Rho}{X:FX}{D D₀:Led}{st:St}{s s₀:Shared}{loc:Locs}{lst pre:List (List AV)}{items:List AV}
theorem Inv.vals (I:Inv ρ X D ⟨loc,pre++[items]⟩ s):∃ vs,VRs ρ D items vs∧Inv ρ X D ⟨loc,pre++[vs.map AV.val]⟩ s:=by
 refine e21 (I) ?_;clear I;intro m P J
 refine e12 (J.ls.vals) ?_;intro vs h1 h2
 exact ⟨vs,h1,m,P,J.F,J.N,J.loc,h2,J.ad,J.nd,J.dj,J.fd⟩
theorem append_ok {x:List Nat}{j:Nat}{arg:Expr}{p0 p1 p3 p4:Pos}{Q:Flow→Shared→Prop} (hX:X.Ok w mean mg mb ρ) (hl:posLine p1 p3=true) (hs:isStar arg=false) (hn:evName T0 X.cs ⟨loc,pre++[items]⟩ (S x)=some (.loc j)) (hj:pre.length=j) (hlen:items.length≤10000) (I:Inv ρ X D ⟨loc,pre++[items]⟩ s)
  (h:∀ D₁ s₁,D.le D₁→Inv ρ X D₁ ⟨loc,pre++[items]⟩ s₁→Same s s₁→wpAny (model pw w) X.A (eval arg X.env) (fun v s₂=>∃ D₂ pre',D₁.le D₂∧pre'.length=j∧Inv ρ X D₂ ⟨loc,pre'++[items]⟩ s₂∧∀ s₃,Inv ρ X D₂ ⟨loc,pre'++[items++[.val v]]⟩ s₃→Same s₂ s₃→Q .next s₃) F0 s₁) :
  wpAny (model pw w) X.A (exec (.Expr (.Call (.Attribute (.Name (S x) p0) (S mAppend) p1) [arg] [] p3) p4) X.env) Q F0 s:=by
 have HT:=(T0_all w mean mg mb).toTabsOk
 refine wpAny_Expr (Call_method1 rfl (star_one hs _ _) (pos_line hl) (name_ok HT hX hn I fun D₁ v₁ s₁ le₁ I₁ V₁ sm₁=>?_)) (not_interactive hX) rfl
 refine e12 (V₁.locI) ?_;clear V₁;intro _ hl0 Y2;subst Y2
 refine e21 (id I₁) ?_;intro m₁ P₁ J₁
 refine e13 (J₁.lad_obj hl0) ?_;clear J₁;intro ob o1 o2 o3
 rw [← append_eq]
 refine onS F.plainAttrs_list F.slot_list_append rfl ⟨_,o1,o2⟩ (fun a e=>by cases e;(exact (i12 _ o1 o3))) (callWith_one ?_)
 refine wpAny_mono (h D₁ s₁ le₁ I₁ sm₁) (fun v s₂ hv=>?_) fun _ _ z=>z
 refine e24 (hv) ?_;try clear hv;intro D₂ pre' le₂ hp I₂ hq
 refine e21 (id I₂) ?_;clear I₂;intro m₂ P₂ J₂
 have hi:(pre'++[items])[j]?=some items:=by rw [← hp];simp
 refine e23 (J₂.lad_get (i:=j) (l:=items) hi (le₂.lad _ _ hl0)) ?_;clear hi le₂ hl0;intro ws kk hP hv hg
 refine PyProof.Rows.append_at hg (fun h' hs' ho'=>?_) (by have:=hv.length;rw [List.size_toArray];show _≤16777216;lia)
 have J₃:=J₂.setLst (vs':=ws++[v]) (n':=kk+1) (l':=items++[.val v]) hP (hv.append (.cons (.val v) .nil)) hs' (by rw [ho'];simp)
 have e4:setNth (pre'++[items]) j (items++[.val v])=pre'++[items++[.val v]]:=by
  unfold setNth
  rw [← hp,List.set_append_right _ _ (Nat.le_refl _)];simp
 have I₄:Inv ρ X D₂ ⟨loc,setNth (pre'++[items]) j (items++[.val v])⟩ {s₂ with heap:=h'}:=⟨_,_,J₃⟩
 rw [e4] at I₄
 exact hq _ I₄ ⟨rfl,rfl,rfl⟩
end
noncomputable def instrsN:List Nat:=[105,110,115,116,114,117,99,116,105,111,110,115]
noncomputable def writeOneN:List Nat:=[119,114,105,116,101,95,111,110,101]
noncomputable def attS:List Nat:=[46,97,116,116,95,115,121,110,116,97,120]
noncomputable def intelS:List Nat:=[46,105,110,116,101,108,95,115,121,110,116,97,120,32,110,111,112,114,101,102,105,120]
noncomputable def firstL (b:Bool):List Nat:=match b with
 | true=>intelS
 | false=>attS
noncomputable def preW (b:Bool):List (List AV):=match b with
 | true=>[[.str (.lit attS .nil)]]
 | false=>[]
noncomputable def wrS (i:Nat):Stmt:=b520.1.getD i (.Pass ⟨0,0,0,0⟩)
noncomputable def qw2 (zs:Stmt):List Pos:=(atL zs [1,2,266325,4181,270421,532565,794709,8277,85,21,0])
noncomputable def qw3 (zs:Stmt):List Pos×Nat×Nat:=((atL zs [266305,4161,8257,65,129,1,0]),(atK zs 266305),(atK zs 129))
noncomputable def wq (i:Nat):Pos:=at0 (qw2 (wrS 2)) i
noncomputable def wz (i:Nat):Pos:=at0 (qw3 (wrS 3)).1 i
theorem wr_body:b520.1=[wrS 0,wrS 1]++([.For (.Name (S instrN) (wq 0)) (.Name (S instrsN) (wq 1)) [.Expr (.Call (.Attribute (.Name (S linesN) (wq 2)) (S mAppend) (wq 3)) [.Call (.Name (S writeOneN) (wq 4)) [.Name (S instrN) (wq 5),.Name (S syntaxN) (wq 6)] [] (wq 7)] [] (wq 8)) (wq 9)] [] (wq 10)] ++
  [.Return (some (.BinOp (.Call (.Attribute (.Constant (.str (S [10])) (qw3 (wrS 3)).2.1 (wz 0)) (S mJoin) (wz 1)) [.Name (S linesN) (wz 2)] [] (wz 3)) .Add (.Constant (.str (S [10])) (qw3 (wrS 3)).2.2 (wz 4)) (wz 5))) (wz 6)]):=by kernel_rfl
theorem wr_l2:posLine (wq 3) (wq 8)=true:=by kernel_rfl
theorem wr_l3:posLine (wz 1) (wz 3)=true:=by kernel_rfl
theorem args520:((sArgs (stA 46)).args.map fun p=>p.arg.cps.toList)=[instrsN,syntaxN]:=by kernel_rfl
theorem fn520 (w:World):FnOk w 520 (sArgs (stA 46)) (sBody (stA 46)) (sScope (stA 46)):=by
 refine fnOk_of (dV:=.none) (cd:=519) (q:=S [119,114,105,116,101,95,114,111,119,115]) (pm:=.str (S zq1) 636) (by kernel_rfl) (by kernel_rfl) (by kernel_rfl) fun s vs h=>?_
 have hl:(sArgs (stA 46)).args.length=2:=by kernel_rfl
 rw [hl] at h
 refine e21 (len2 h) ?_;clear h;intro v0 v1 Y2;subst Y2
 exact BindsTo.of_eq (by kernel_rfl)
noncomputable def wl0w (la:Value) (b:Bool):Locs:=[(instrsN,.val la),(syntaxN,syV b)]
noncomputable def wl1w (la:Value) (b:Bool):Locs:=wl0w la b++[(linesN,.loc (preW b).length)]
theorem wr_run (la:Value) (b:Bool):(recs T0 60).exs s520.1 ⟨wl0w la b,[]⟩ [wrS 0,wrS 1] []=some (.next ⟨wl1w la b,preW b++[[.str (.lit (firstL b) .nil)]]⟩):=by cases b <;> kernel_rfl
end
section
section
variable {w:World}{mean:ExcName→Option Value}{mg mb:Str→Option Value}{n:Nat}{ρ:Rho}{X:FX}{D D₀:Led}{st:St}{s s₀:Shared}{loc:Locs}{lst pre:List (List AV)}{items:List AV}{e:Int}
theorem LineAt.base {v:Value}{d:LD} (h:LineAt ρ e D v d):LineAt ρ e ⟨D.imm,[]⟩ v d:=⟨h.1,h.2.1,h.2.2.1,h.2.2.2.base (shape_lb h.1)⟩
inductive LinesAt (ρ:Rho) (e:Int) (D:Led):List Value→List LD→Prop
 | nil:LinesAt ρ e D [] []
 | cons {v:Value}{d:LD}{vs:List Value}{ds:List LD}:LineAt ρ e D v d→LinesAt ρ e D vs ds→LinesAt ρ e D (v::vs) (d::ds)
theorem LinesAt.up {D':Led}{vs:List Value}{ds:List LD} (h:LinesAt ρ e D vs ds) (f:∀ v d,LineAt ρ e D v d→LineAt ρ e D' v d):LinesAt ρ e D' vs ds:=by
 induction h with
 | nil=>exact .nil
 | cons x _ ih=>exact .cons (f _ _ x) ih
theorem LinesAt.length {vs:List Value}{ds:List LD} (h:LinesAt ρ e D vs ds):vs.length=ds.length:=by
 induction h with
 | nil=>rfl
 | cons _ _ ih=>rw [List.length_cons,List.length_cons,ih]
theorem LinesAt.get {vs:List Value}{ds:List LD} (h:LinesAt ρ e D vs ds):∀ {i:Nat}{v:Value},vs[i]?=some v→∃ d,ds[i]?=some d∧LineAt ρ e D v d:=by
 induction h with
 | nil=>intro i v hv;simp at hv
 | cons x _ ih =>
  intro i v hv
  cases i with
  | zero=>(have Y0:=s1 hv;try clear hv;subst Y0);(exact (i12 _ rfl x))
  | succ i=>exact ih (i:=i) (by simpa using hv)
theorem LinesAt.snoc {vs:List Value}{ds:List LD}{v:Value}{d:LD} (h:LinesAt ρ e D vs ds) (x:LineAt ρ e D v d):LinesAt ρ e D (vs++[v]) (ds++[d]):=by
 induction h with
 | nil=>exact .cons x .nil
 | cons y _ ih=>exact .cons y ih
theorem txs_len {l:List (List Nat)} (h:∀ x∈l,x.length≤1000):(l.map (·.length)).sum≤1000*l.length:=by
 induction l with
 | nil=>exact Nat.le_refl 0
 | cons a l ih =>
  have:=ih fun x hx=>h x (.tail _ hx)
  have:=h a (.head _)
  simp only [List.map_cons,List.sum_cons,List.length_cons];lia
theorem rows_ok {la:Addr}{ls:List Value}{k:Nat}{ds:List LD}{b:Bool} (hm:(la,lObj ls k)∈D.imm) (hd:LinesAt ρ e D ls ds) (hl:ls.length≤100) {fv:Value}{t:Tok}{Q:Value→Shared→Prop} (hX:X.Ok w mean mg mb ρ) (hr:Room X 140) (I:Inv ρ X D ⟨loc,lst⟩ s) (hf:VR ρ D (.top 520) fv)
  (h:∀ D' s' t',D.le D'→Inv ρ X D' ⟨loc,lst⟩ s'→Same s s'→Q (.str (S (joinL 10 (firstL b::ds.map (txOf ρ · b))++[10])) t') s'):wpAny (model pw w) X.A (call fv [.ref la,.str (S (syL b)) t]) Q F0 s:=by
 refine enter_hide (n:=139) (fn520 w) (args:=[.val (.ref la),syV b]) (l:=wl0w (.ref la) b) (by rw [args520];rfl) hX hr I hf (fun imm _=>.cons (.val _) (.cons sy_VR .nil))
  (fun _ v=>∃ t',v=.str (S (joinL 10 (firstL b::ds.map (txOf ρ · b))++[10])) t') (fun X' hcs hhx hX' hr' s₁ I₁ sm₁=>?_) (fun D' v s' le I' hp sm=>by (refine e11 (hp) ?_;clear hp;intro t' Y1;subst Y1);exact h D' s' t' le I' sm)
 have hcs':X'.cs=s520.1:=hcs.trans s520.2
 have HT:=(T0_all w mean mg mb).toTabsOk
 have hd1:LinesAt ρ e ⟨D.imm,[]⟩ ls ds:=hd.up fun _ _=>LineAt.base
 rw [b520.2,wr_body]
 generalize hDD:(⟨D.imm,[]⟩:Led)=D1 at I₁ hd1
 have hm1:(la,lObj ls k)∈D1.imm:=hDD▸hm
 have h1:D1.lad=[]:=hDD▸rfl
 have hdl:=hd.length
 refine wpAny_hide fun Qp hQp=>?_
 refine execs_app (exs_two (m:=60) (T0_all w mean mg mb) hX' (hr'.down (by decide)) hcs' (wr_run (.ref la) b) I₁ fun D₂ s₂ le₂ I₂ sm₂=>?_)
 refine e12 (I₂.vals) ?_;clear I₂;intro vs₂ hv₂ I₂
 refine e23 (hv₂.consI) ?_;clear hv₂;intro u r hu hr2 Y4;subst Y4
 (have Y:=hr2.nilI;clear hr2;subst Y)
 refine e11 (hu.strI) ?_;clear hu;intro t₂ Y1;subst Y1
 rw [show (SE.lit (firstL b) .nil).den ρ=firstL b from List.append_nil _] at I₂
 have I₂:Inv ρ X' D₂ ⟨wl1w (.ref la) b,preW b++[[.val (.str (S (firstL b)) t₂)]]⟩ s₂:=I₂
 refine execs_seq fun Qs hQs=>wpAny_execs_cons (wpAny_For (name_ok HT hX' (av:=.val (.ref la)) (by rw [hcs'];rfl) I₂ fun D₃ v₃ s₃ le₃ I₃ V₃ sm₃=>?_) (fun x=>rfl))
 (have Y:=V₃.valI;clear V₃;subst Y)
 refine iter_list I₃ (zL _ (le₃.imm _ (le₂.imm _ hm1))) fun I o s₄ t₄ I₄ sh₄ sm₄=>?_
 refine gen_loop t₄ (fun i D st=>D1.le D∧∃ its pre,pre.length=(preW b).length∧st=⟨wl1w (.ref la) b,pre++[its]⟩∧StrV its (firstL b::(ds.map (txOf ρ · b)).take i)) (fun i v o' D' st' s' Qn hi pv le ok I' sh' hq=>?_) ⟨le₂.trans le₃,_,preW b,rfl,rfl,by rw [List.take_zero];exact .cons _ t₂ .nil⟩ I₄ sh₄ (fun D' st' s' le ok I' sm=>?_)
 ·-- a line written
  obtain ⟨le1,its,pre,hpre,rfl,hits⟩:=ok
  refine e12 (hd1.get pv) ?_;clear pv;intro d hdi hda
  have hXw:=okWith (I:=I) (o:=o') hX'
  have hcsw:(X'.with I o').cs=s520.1:=hcs'
  have hil:its.length≤10000:=by
   have key:∀ {r:List AV}{l:List (List Nat)},StrV r l→r.length=l.length:=fun h=>by induction h with
    | nil=>rfl
    | cons _ _ _ ih=>rw [List.length_cons,List.length_cons,ih]
   rw [key hits,List.length_cons,List.length_take];lia
  refine wpAny_pure (bind_ok (X:=X'.with I o') hXw (by rw [hcsw];rfl) I' (.val v) fun s₅ I₅ sm₅=>?_)
  have I₅:Inv ρ (X'.with I o') D' ⟨wl1w (.ref la) b++[(instrN,.val v)],pre++[its]⟩ s₅:=I₅
  have hj:∀ L,evName T0 (X'.with I o').cs ⟨wl1w (.ref la) b++[(instrN,.val v)],L⟩ (S linesN)=some (.loc (preW b).length):=fun L=>by rw [hcsw];rfl
  refine wpAny_execs_cons (append_ok (X:=X'.with I o') hXw wr_l2 rfl (hj _) hpre hil I₅ fun D₆ s₆ le₆ I₆ sm₆=>?_)
  refine Call_ (fn_ok (X:=X'.with I o') HT hXw (av:=.top 513) (by rw [hcsw];rfl) I₆ fun D₇ v₇ s₇ le₇ I₇ V₇ sm₇=>?_)
  (have Y:=V₇.topI;clear V₇;subst Y)
  refine callWith_K hX'.K (keep_ok HT (cs:=s520.1) (x:=S writeOneN) rfl) (args_cons (name_ok (X:=X'.with I o') HT hXw (av:=.val v) (by rw [hcsw];rfl) I₇ fun D₈ v₈ s₈ le₈ I₈ V₈ sm₈=>args_cons (name_ok (X:=X'.with I o') HT hXw (av:=syV b) (by rw [hcsw];rfl) I₈ fun D₉ v₉ s₉ le₉ I₉ V₉ sm₉=>args_nil ⟨hX'.K.keeps I₉.hk,?_⟩)))
  (have Y:=V₈.valI;clear V₈;subst Y)
  have hv9:∃ t₉,v₉=.str (S (syL b)) t₉:=by
   cases b
   ·exact V₉.strI
   ·exact V₉.strI
  refine e11 (hv9) ?_;clear hv9;intro t₉ Y1;subst Y1
  have le₉':=((le₆.trans le₇).trans le₈).trans le₉
  refine one_ok (X:=X'.with I o') hXw (hr'.down (by decide)) I₉ (hda.mono ((le1.trans le₉'))) (.top 513) fun D₁₀ s₁₀ t₁₀ le₁₀ I₁₀ sm₁₀=>?_
  refine (i24 D₁₀ pre (((le₇.trans le₈).trans le₉).trans le₁₀) hpre I₁₀ (fun s₁₁ I₁₁ sm₁₁=>wpAny_execs_nil ⟨rfl,?_⟩))
  refine hq D₁₀ ⟨wl1w (.ref la) b,pre++[its++[.val (.str (S (txOf ρ d b)) t₁₀)]]⟩ s₁₁ (le₉'.trans le₁₀) ⟨(le1.trans le₉').trans le₁₀,_,pre,hpre,rfl,?_⟩ (I₁₁.reloc ?_) ((((((sm₅.trans sm₆).trans sm₇).trans sm₈).trans sm₉).trans sm₁₀).trans sm₁₁)
  ·have hg:(ds.map (txOf ρ · b))[i]?=some (txOf ρ d b):=by rw [List.getElem?_map,hdi];rfl
   rw [List.take_succ_eq_append_getElem (List.getElem?_eq_some_iff.mp hg).1,(List.getElem?_eq_some_iff.mp hg).2]
   exact hits.snoc
  ·exact .cons (by rfl) AVeq.rfl' (.cons (by rfl) AVeq.rfl' (.cons (by rfl) AVeq.rfl' .nil))
 ·obtain ⟨le1,its,pre,hpre,rfl,hits⟩:=ok
  refine wpAny_execs_nil (hQs _ ?_)
  rw [show (ds.map (txOf ρ · b)).take ls.length=ds.map (txOf ρ · b) from zT (by rw [List.length_map];lia)] at hits
  refine wpAny_execs_cons (wpAny_Return_some (wpAny_BinOp (Call_method1 rfl rfl (pos_line wr_l3) (wpAny_Constant_str ?_))))
  rw [← join_eq]
  refine onS F.plainAttrs_str F.slot_str_join rfl (typeIs_str _ _ _) (fun a e=>nomatch e) (callWith_one ?_)
  refine name_ok HT hX' (av:=.loc (preW b).length) (by rw [hcs'];rfl) (I'.add _) fun D₅ v₅ s₅ le₅ I₅ V₅ sm₅=>?_
  refine e12 (V₅.locI) ?_;clear V₅;intro a₅ hl₅ Y2;subst Y2
  refine e21 (id I₅) ?_;intro m P J
  refine e23 (J.lad_get (i:=(preW b).length) (l:=its) (by rw [← hpre];simp) hl₅) ?_;clear J hpre hl₅;intro ws kk _ hv hg
  have hall:∀ x∈firstL b::ds.map (txOf ρ · b),x.length≤1000:=fun x hx=>by
   (refine zO (zC hx) ?qa ?qb;(case' qb=>clear hx;intro hx);(case' qa=>intro Y0;subst Y0))
   ·cases b <;> decide
   ·refine e12 (List.mem_map.mp hx) ?_;intro d hd' Y2;subst Y2
    refine e11 (List.getElem?_of_mem hd') ?_;clear hd';intro j hj
    have hjl:=(List.getElem?_eq_some_iff.mp hj).1
    refine e12 (hd1.get (i:=j) (v:=ls[j]'(by lia)) (List.getElem?_eq_getElem _)) ?_;intro d2 hd2 hda
    rw [hj] at hd2
    cases hd2
    exact (tx_tidy hX' hda b).2
  have hsum:=txs_len hall
  rw [List.length_cons,List.length_map] at hsum
  refine PyProof.Rows.join_list (ys:=(firstL b::ds.map (txOf ρ · b)).map S) ⟨_,hg,rfl,_,rfl⟩ (by rw [List.toList_toArray];exact hits.are hv) ?_ fun t' tk'=>?_
  ·rw [List.map_map,List.length_map,show ((fun x:Str=>x.length)∘S)=List.length from funext S_len,List.length_cons,List.length_map]
   have e1:(S [10]).length=1:=rfl
   rw [e1]
   have hsum:((firstL b::ds.map (txOf ρ · b)).map List.length).sum≤1000*(ds.length+1):=hsum
   lia
  rw [show Txt.join (S [10]) ((firstL b::ds.map (txOf ρ · b)).map S)=S (joinL 10 (firstL b::ds.map (txOf ρ · b))) from (StrLaws.glued_eq_join _ _).trans (join_Sx 10 _)]
  have hjl:∀ l:List (List Nat),(∀ x∈l,x.length≤1000)→(joinL 10 l).length≤1001*l.length:=fun l=>by
   induction l with
   | nil=>intro _;exact Nat.zero_le _
   | cons a l ih =>
    intro h
    have h1:=ih fun x hx=>h x (.tail _ hx)
    have h2:=h a (.head _)
    by_cases q:l=[]
    ·subst q;simp only [joinL,List.length_cons,List.length_nil];(exact Nat.le_trans (by assumption) (by decide))
    ·rw [joinL_cons 10 a q];simp only [List.length_append,List.length_cons];lia
  have hjb:=hjl _ hall
  rw [List.length_cons,List.length_map] at hjb
  generalize joinL 10 (firstL b::ds.map (txOf ρ · b))=out at hQp hjb ⊢
  refine wpAny_Constant_str ?_
  refine PyProof.Rows.add_str (fun t'' k''=>?_) (by rw [S_len,S_len,List.length_singleton];show _≤16777216;lia)
  rw [S_app]
  refine hQp _ _ ⟨_,D₅,_,rfl,le1.trans le₅,I₅.add _,?_,t'',rfl⟩
  exact ((((sm₁.trans sm₂).trans sm₃).trans sm₄).trans sm).trans ⟨sm₅.gens,sm₅.drawn,sm₅.os⟩
end
end
section
theorem go_name {x:Str}{p:Pos}{o r:Value}:letTemporaryGo (.Name x p) o r=pure ():=rfl
section
variable {w:World}{mean:ExcName→Option Value}{mg mb:Str→Option Value}{n:Nat}{ρ:Rho}{X:FX}{D D₀:Led}{st:St}{s s₀:Shared}{loc:Locs}{lst:List (List AV)}
theorem turnB_ok {oa:Addr}{vs:List Value}{k:Nat}{a:Int}{os:List Int}{tx:List Nat}{rv:Value}{i:Nat}{tv:Tok}{c:Int}{Q:Flow→Shared→Prop} (hm:(oa,lObj vs k)∈D.imm) (hi:IntsAre vs os) (hl:os.length≤22) (hc:c=(headL a i).length) (hc1:c≤28) (hrow:(rowL a os tx i).length≤2000) (hi4:i≤4) (hcs':X.cs=s707.1) (hX:X.Ok w mean mg mb ρ) (hr:Room X 133)
  (I:Inv ρ X D ⟨il3 a (.ref oa) tx rv i (.str (S (rowL a os tx i)) tv) c,[]⟩ s) {rest:List Stmt}
  (h:∀ D' s' wa ws wk ca cs,D.le D'→Inv ρ X D' ⟨il5 a (.ref oa) tx rv i (.str (S (rowL a os tx i)) tv) c (.ref wa) (.ref ca),[]⟩ s'→Same s s'→(wa,lObj ws wk)∈D'.imm→StrsAre ws ((wdF [] (32::32::(partL os i++tailL os tx i))).map S)→(ca,lObj cs 0)∈D'.imm→IntsAre cs (chunkL os i) →
   wpAny (model pw w) X.A (execs rest X.env) Q F0 s') :
  wpAny (model pw w) X.A (execs ([.Assign [.Name (S wordsN) (z2 0)] (.Call (.Attribute (.Subscript (.Name (S rowN) (z2 1)) (.Slice (some (tq2 (iuB 2)).2) none none (z2 2)) (z2 3)) (S mSplit) (z2 4)) [] [] (z2 5)) (z2 6)] ++
  ([.Assign [.Name (S chunkN) (z3 0)] (.Subscript (.Name (S octetsN) (z3 1)) (.Slice (some (tq3 (iuB 3)).2.1) (some (tq3 (iuB 3)).2.2) none (z3 2)) (z3 3)) (z3 4)]++rest)) X.env) Q F0 s:=by
 have HT:=(T0_all w mean mg mb).toTabsOk
 have R:=recs_ok (T0_all w mean mg mb) 60
 have hsl:=row_rest a os tx i
 rw [← hc] at hsl
 have hc0:0≤c:=by lia
 have hrest:(32::32::(partL os i++tailL os tx i)).length≤2000:=by unfold rowL at hrow;simp only [List.length_append,List.length_cons,List.length_nil] at hrow ⊢;lia
 generalize hv:(Value.str (S (rowL a os tx i)) tv)=v at I h
 refine execs_seq fun Qs hQs=>wpAny_execs_cons (wpAny_Assign_Name (Call_method0 rfl (pos_line iu_l2) (Subscript_ (name_ok HT hX (av:=.val v) (by rw [hcs'];rfl) I fun D₁ v₁ s₁ le₁ I₁ V₁ sm₁=>?_))))
 obtain rfl:=V₁.valI
 refine wpAny_Slice (wpAny_evalPart_some (R.1 _ _ _ _ _ (iu2 a (.ref oa) tx rv i v₁ c) ρ X D₁ _ _ hcs' hX (hr.down (by decide)) I₁ fun D₂ v₂ s₂ le₂ I₂ V₂ sm₂=>wpAny_evalPart_none (wpAny_evalPart_none ?_)))
 refine e11 (V₂.intI) ?_;clear V₂;intro t₂ Y1;subst Y1
 have e:(IE.add (.extb c 0 100) (.lit 1)).den ρ=c+1:=by
  show (IE.extb c 0 100).den ρ+1=_
  rw [extb_den hc0 (by (exact Int.le_trans (by assumption) (by decide)))]
 rw [e,← hv]
 refine e21 (id I₂) ?_;clear I₂;intro m P J
 refine slice_strN_sn J.F J.N (fun h' t' kx F' N'=>?_) rfl (letGo_str _ _ _) (by rw [S_len];show _≤16777216;(exact Nat.le_trans (by assumption) (by decide)))
 have I₃:Inv ρ X D₂ ⟨il3 a (.ref oa) tx rv i v₁ c,[]⟩ {s₂ with heap:=h',toks:=kx}:=⟨m,P,{J with F:=F',N:=N'}⟩
 rw [hsl,← split_eq]
 refine e21 (id I₃) ?_;clear I₃;intro m' P' J'
 refine onS F.plainAttrs_str F.slot_str_split rfl (typeIs_str _ _ _) (fun a e=>nomatch e) (callWith_method0 (env:=X.env) ?_)
 refine splitN0 J'.F J'.N (fun l' h'' k'' hw F'' N''=>?_) (by rw [S_len];show _≤16777216;lia)
 have hws:StrsAre (strValues l') ((wdF [] (32::32::(partL os i++tailL os tx i))).map S):=by
  rw [← words_eq,← hw];exact strsAre_of_values l'
 generalize strValues l'=ws at hws F'' N''
 have I₄:Inv ρ X ⟨(h'.objs.size,lObj ws 0)::D₂.imm,D₂.lad⟩ ⟨il3 a (.ref oa) tx rv i v₁ c,[]⟩ {s₂ with heap:=h'',toks:=k''}:=⟨m',P',J'.pushImm _ F'' N''⟩
 have le₄:D.le ⟨(h'.objs.size,lObj ws 0)::D₂.imm,D₂.lad⟩:=(le₁.trans le₂).trans (Led.le_imm D₂ _)
 have sm₄:Same s {s₂ with heap:=h'',toks:=k''}:=(sm₁.trans sm₂).trans ⟨rfl,rfl,rfl⟩
 refine store_ok (x:=S wordsN) hX (by rw [hcs'];rfl) I₄ (.val (.ref h'.objs.size)) fun s₅ I₅ sm₅=>?_
 refine wpAny_execs_nil (hQs _ ?_)
 clear hQs Qs
 have I₅:Inv ρ X ⟨(h'.objs.size,lObj ws 0)::D₂.imm,D₂.lad⟩ ⟨il4 a (.ref oa) tx rv i v₁ c (.ref h'.objs.size),[]⟩ s₅:=I₅
 have hwm:(h'.objs.size,lObj ws 0)∈(⟨(h'.objs.size,lObj ws 0)::D₂.imm,D₂.lad⟩:Led).imm:=.head _
 generalize h'.objs.size=wa at I₅ le₄ hwm
 generalize (⟨(wa,lObj ws 0)::D₂.imm,D₂.lad⟩:Led)=D₅ at I₅ le₄ hwm
 have hso:∀ i',subscripted (.Slice (some (tq3 (iuB 3)).2.1) (some (tq3 (iuB 3)).2.2) none (z3 2)) false (.ref oa) i'=operate [i',.ref oa] (getItem (.ref oa) i'):=fun i'=>by kernel_rfl
 refine execs_seq fun Qs hQs=>wpAny_execs_cons (wpAny_Assign_Name (Subscript_ (name_ok HT hX (av:=.val (.ref oa)) (by rw [hcs'];rfl) I₅ fun D₆ v₆ s₆ le₆ I₆ V₆ sm₆=>?_)))
 obtain rfl:=V₆.valI
 refine wpAny_Slice (wpAny_evalPart_some (R.1 _ _ _ _ _ (iu3 a (.ref oa) tx rv i v₁ c (.ref wa)) ρ X D₆ _ _ hcs' hX (hr.down (by decide)) I₆ fun D₇ v₇ s₇ le₇ I₇ V₇ sm₇=>wpAny_evalPart_some (R.1 _ _ _ _ _ (iu4 a (.ref oa) tx rv i v₁ c (.ref wa)) ρ X D₇ _ _ hcs' hX (hr.down (by decide)) I₇ fun D₈ v₈ s₈ le₈ I₈ V₈ sm₈=>wpAny_evalPart_none ?_)))
 refine e11 (V₇.intI) ?_;clear V₇;intro t₇ Y1;subst Y1
 refine e11 (V₈.intI) ?_;clear V₈;intro t₈ Y1;subst Y1
 have e7:(IE.cons 7 (.lit 0) (.extb i 0 100)).den ρ=7*(i:Int):=by
  show (IE.extb i 0 100).den ρ*7+0=_
  rw [extb_den (by (exact Int.natCast_nonneg _)) (by lia)];lia
 rw [show (IE.add (.cons 7 (.lit 0) (.extb i 0 100)) (.lit 7)).den ρ=7*(i:Int)+7 by show (IE.cons 7 (.lit 0) (.extb i 0 100)).den ρ+7=_;rw [e7],e7]
 have le₈:=((le₆.trans le₇).trans le₈)
 have hm₈:(oa,lObj vs k)∈D₈.imm:=le₈.imm _ (le₄.imm _ hm)
 refine chunk_ok (At.here I₈) (zL _ hm₈) hi (by (exact Nat.le_trans (by assumption) (by decide))) (by (exact Int.natCast_nonneg _)) (fun D₉ b ws' s₉ A₉ le₉ hb hws'=>?_) hso (fun _=>rfl)
 have hch:(os.drop (7*(i:Int)).toNat).take 7=chunkL os i:=by unfold chunkL;rw [show (7*(i:Int)).toNat=7*i by lia]
 rw [hch] at hws'
 refine store_ok (x:=S chunkN) hX (by rw [hcs'];rfl) A₉.I (.val (.ref b)) fun s₁₀ I₁₀ sm₁₀=>?_
 refine wpAny_execs_nil (hQs _ ?_)
 exact h D₉ s₁₀ wa ws 0 b ws' (le₄.trans (le₈.trans le₉)) I₁₀ ((((((sm₄.trans sm₅).trans sm₆).trans sm₇).trans sm₈).trans A₉.sm).trans sm₁₀) (le₉.imm _ (le₈.imm _ hwm)) hws hb hws'
end
end
section
inductive IntV:List AV→List Int→Prop
 | nil:IntV [] []
 | cons (x:Int) (t:Tok) {r:List AV}{l:List Int}:IntV r l→IntV (.val (.int x t)::r) (x::l)
theorem IntV.snoc {x:Int}{t:Tok}{r:List AV}{l:List Int} (h:IntV r l):IntV (r++[.val (.int x t)]) (l++[x]):=by
 induction h with
 | nil=>exact .cons x t .nil
 | cons y u _ ih=>exact .cons y u ih
theorem IntV.are {ρ:Rho}{D:Led}{r:List AV}{l:List Int} (h:IntV r l):∀ {vs:List Value},VRs ρ D r vs→IntsAre vs l:=by
 induction h with
 | nil=>intro vs V;(have Y:=V.nilI;clear V;subst Y);exact .nil
 | cons x t _ ih =>
  intro vs V
  refine e23 (V.consI) ?_;clear V;intro v r V1 V2 Y4;subst Y4
  (have Y:=V1.valI;clear V1;subst Y)
  exact .cons x t (ih V2)
theorem strs_upto {ws:List Value}{A B:List (List Nat)}{n:Nat} (h:StrsAre ws ((A++B).map S)) (hn:n=A.length):StrsAre (slicePick ws.toArray none (some (n:Int)) none).toList (A.map S):=by
 subst hn
 rw [slicePick_upto']
 have:=StrsAre.take' h A.length
 simpa [List.map_append] using this
theorem strs_from {ws:List Value}{A B:List (List Nat)}{n:Nat} (h:StrsAre ws ((A++B).map S)) (hn:n=A.length):StrsAre (slicePick ws.toArray (some (n:Int)) none none).toList (B.map S):=by
 subst hn
 rw [slicePick_from']
 have:=StrsAre.drop' h A.length
 simpa [List.map_append] using this
section
variable {w:World}{mean:ExcName→Option Value}{mg mb:Str→Option Value}{n:Nat}{ρ:Rho}{X:FX}{D D₀:Led}{st:St}{s s₀:Shared}{loc:Locs}{lst:List (List AV)}
theorem iu_e (a:Int) (ov:Value) (tx:List Nat) (rv:Value) (i:Int) (v:Value) (c:Int) (wv cv:Value) (p:Pos):(recs T0 60).ev s707.1 ⟨il5 a ov tx rv i v c wv cv,[]⟩ (.List [] p)=some (.loc 0,⟨il5 a ov tx rv i v c wv cv,[[]]⟩):=by kernel_rfl
theorem words_to {wa ca:Addr}{ws cs:List Value}{wk:Nat}{A B:List (List Nat)}{p0 p1 p2 p3 p4 p5:Pos} (hX:X.Ok w mean mg mb ρ) (hw:evName T0 X.cs st (S wordsN)=some (.val (.ref wa))) (hc:evName T0 X.cs st (S chunkN)=some (.val (.ref ca))) (hf:evFn T0 X.cs (S lenN)=some (.bi 0)) (I:Inv ρ X D st s)
  (hwm:(wa,lObj ws wk)∈D.imm) (hcm:(ca,lObj cs 0)∈D.imm) (hws:StrsAre ws ((A++B).map S)) (hcs:cs.length=A.length) (hl1:cs.length≤1000) (hl2:ws.length≤10000) {Q:Value→Shared→Prop}
  (h:∀ D' b ws' s',D.le D'→(b,lObj ws' 0)∈D'.imm→StrsAre ws' (A.map S)→Inv ρ X D' st s'→Same s s'→Q (.ref b) s') :
  wpAny (model pw w) X.A (eval (.Subscript (.Name (S wordsN) p0) (.Slice none (some (.Call (.Name (S lenN) p1) [.Name (S chunkN) p2] [] p3)) none p4) p5) X.env) Q F0 s:=by
 have HT:=(T0_all w mean mg mb).toTabsOk
 refine Subscript_ (name_ok HT hX hw I fun D₁ v₁ s₁ le₁ I₁ V₁ sm₁=>?_)
 (have Y:=V₁.valI;clear V₁;subst Y)
 refine wpAny_Slice (wpAny_evalPart_none (wpAny_evalPart_some (len_name hX hc hf I₁ (le₁.imm _ hcm) (by (exact Nat.le_trans (by assumption) (by decide))) fun D₂ s₂ t₂ le₂ hlad₂ I₂ sm₂=>wpAny_evalPart_none ?_)))
 refine slice_at I₂ (zL _ (le₂.imm _ (le₁.imm _ hwm))) .none (.int _ t₂) (by (exact Nat.le_trans (by assumption) (by decide))) (fun D₃ b ws' s₃ le₃ hlad₃ I₃ sm₃ hb hws'=>?_) (fun _=>rfl) (fun _=>rfl)
 have hs':=strs_upto hws hcs
 rw [← hws'] at hs'
 exact h D₃ b ws' s₃ ((le₁.trans le₂).trans le₃) hb hs' I₃ ((sm₁.trans sm₂).trans sm₃)
theorem words_from {wa ca:Addr}{ws cs:List Value}{wk:Nat}{A B:List (List Nat)}{p0 p1 p2 p3 p4 p5:Pos} (hX:X.Ok w mean mg mb ρ) (hw:evName T0 X.cs st (S wordsN)=some (.val (.ref wa))) (hc:evName T0 X.cs st (S chunkN)=some (.val (.ref ca))) (hf:evFn T0 X.cs (S lenN)=some (.bi 0)) (I:Inv ρ X D st s)
  (hwm:(wa,lObj ws wk)∈D.imm) (hcm:(ca,lObj cs 0)∈D.imm) (hws:StrsAre ws ((A++B).map S)) (hcs:cs.length=A.length) (hl1:cs.length≤1000) (hl2:ws.length≤10000) {Q:Value→Shared→Prop}
  (h:∀ D' b ws' s',D.le D'→(b,lObj ws' 0)∈D'.imm→StrsAre ws' (B.map S)→Inv ρ X D' st s'→Same s s'→Q (.ref b) s') :
  wpAny (model pw w) X.A (eval (.Subscript (.Name (S wordsN) p0) (.Slice (some (.Call (.Name (S lenN) p1) [.Name (S chunkN) p2] [] p3)) none none p4) p5) X.env) Q F0 s:=by
 have HT:=(T0_all w mean mg mb).toTabsOk
 refine Subscript_ (name_ok HT hX hw I fun D₁ v₁ s₁ le₁ I₁ V₁ sm₁=>?_)
 (have Y:=V₁.valI;clear V₁;subst Y)
 refine wpAny_Slice (wpAny_evalPart_some (len_name hX hc hf I₁ (le₁.imm _ hcm) (by (exact Nat.le_trans (by assumption) (by decide))) fun D₂ s₂ t₂ le₂ hlad₂ I₂ sm₂=>wpAny_evalPart_none (wpAny_evalPart_none ?_)))
 refine slice_at I₂ (zL _ (le₂.imm _ (le₁.imm _ hwm))) (.int _ t₂) .none (by (exact Nat.le_trans (by assumption) (by decide))) (fun D₃ b ws' s₃ le₃ hlad₃ I₃ sm₃ hb hws'=>?_) (fun _=>rfl) (fun _=>rfl)
 have hs':=strs_from hws hcs
 rw [← hws'] at hs'
 exact h D₃ b ws' s₃ ((le₁.trans le₂).trans le₃) hb hs' I₃ ((sm₁.trans sm₂).trans sm₃)
theorem past {Q:Flow→Shared→Prop}{body:List Stmt}{env:Env}{A:Around} (h:Q .next s):(if false=true then wpAny (model pw w) A (execs body env) Q F0 s else wpAny (model pw w) A (execs [] env) Q F0 s):=by
 rw [if_neg zF];exact wpAny_execs_nil h
noncomputable abbrev sc1A:Prop:=(tq4 (iuB 4)).s1.names=[(S [46,48],.local),(S wordN,.local),(S intN,.globalImplicit)]
theorem turnC_ok {wa ca:Addr}{ws cs:List Value}{wk:Nat}{cks:List Int}{B:List (List Nat)}{a:Int}{ov:Value}{tx:List Nat}{rv v:Value}{i c:Int}{Q:Flow→Shared→Prop} (ho:∀ o∈cks,0≤o∧o<256) (hl:cks.length≤7) (hlw:ws.length≤10000) (hcs':X.cs=s707.1) (hX:X.Ok w mean mg mb ρ) (hr:Room X 133) (h0:D.lad=[])
  (I:Inv ρ X D ⟨il5 a ov tx rv i v c (.ref wa) (.ref ca),[]⟩ s) (hwm:(wa,lObj ws wk)∈D.imm) (hws:StrsAre ws ((cks.map hex2++B).map S)) (hcm:(ca,lObj cs 0)∈D.imm) (hci:IntsAre cs cks)
  {rest:List Stmt} (h:∀ D' s',D.le D'→D'.lad=[]→Inv ρ X D' ⟨il5 a ov tx rv i v c (.ref wa) (.ref ca),[]⟩ s'→Same s s'→wpAny (model pw w) X.A (execs rest X.env) Q F0 s') :
  wpAny (model pw w) X.A (execs ([.If (.BoolOp .Or [.Compare (.ListComp (.Call (.Name (S intN) (z4 0)) [.Name (S wordN) (z4 1),.Constant (.int 16) (tq4 (iuB 4)).k1 (z4 2)] [] (z4 3)) [⟨.Name (S wordN) (z4 4),.Subscript (.Name (S wordsN) (z4 5)) (.Slice none (some (.Call (.Name (S lenN) (z4 6)) [.Name (S chunkN) (z4 7)] [] (z4 8))) none (z4 9)) (z4 10),[],0⟩] (tq4 (iuB 4)).s1 (z4 11)) [.NotEq] [.Name (S chunkN) (z4 12)] (z4 13),
   .Compare (.ListComp (.Name (S wordN) (z4 14)) [⟨.Name (S wordN) (z4 15),.Subscript (.Name (S wordsN) (z4 16)) (.Slice none (some (.Call (.Name (S lenN) (z4 17)) [.Name (S chunkN) (z4 18)] [] (z4 19))) none (z4 20)) (z4 21),[.Compare (.Call (.Name (S lenN) (z4 22)) [.Name (S wordN) (z4 23)] [] (z4 24)) [.NotEq] [.Constant (.int 2) (tq4 (iuB 4)).k2 (z4 25)] (z4 26)],0⟩] (tq4 (iuB 4)).s2 (z4 27)) [.NotEq] [.List [] (z4 28)] (z4 29)] (z4 30)) (iuR 4) [] (z4 31)]++rest) X.env) Q F0 s:=by
 have hvl:cs.length=(cks.map hex2).length:=by rw [hci.length,List.length_map]
 have hcl:=hci.length
 have c1s:=c1_scope
 have c1k:=c1_kind
 have c1c:=c1_clos
 have c2s:=c2_scope
 have c2k:=c2_kind
 have c2c:=c2_clos
 generalize (tq4 (iuB 4)).s1=sc1 at c1s c1k c1c ⊢
 generalize (tq4 (iuB 4)).s2=sc2 at c2s c2k c2c ⊢
 generalize (tq4 (iuB 4)).k1=k1
 generalize (tq4 (iuB 4)).k2=k2
 generalize z4=zz
 generalize iuR 4=rr
 have HT:=(T0_all w mean mg mb).toTabsOk
 have R:=recs_ok (T0_all w mean mg mb) 60
 have n1:evName T0 X.cs ⟨il5 a ov tx rv i v c (.ref wa) (.ref ca),[]⟩ (S wordsN)=some (.val (.ref wa)):=by rw [hcs'];rfl
 have n2:evName T0 X.cs ⟨il5 a ov tx rv i v c (.ref wa) (.ref ca),[]⟩ (S chunkN)=some (.val (.ref ca)):=by rw [hcs'];rfl
 have n3:evFn T0 X.cs (S lenN)=some (.bi 0):=by rw [hcs'];rfl
 have n4:∀ p,(recs T0 60).ev X.cs ⟨il5 a ov tx rv i v c (.ref wa) (.ref ca),[]⟩ (.List [] p)=some (.loc 0,⟨il5 a ov tx rv i v c (.ref wa) (.ref ca),[[]]⟩):=fun p=>by rw [hcs'];exact iu_e a ov tx rv i v c (.ref wa) (.ref ca) p
 have n5:locsLb 0 (il5 a ov tx rv i v c (.ref wa) (.ref ca))=true:=rfl
 generalize il5 a ov tx rv i v c (.ref wa) (.ref ca)=lc at I h n1 n2 n4 n5
 refine execs_seq fun Qs hQs=>wpAny_execs_cons (wpAny_If (isTrue_or (wpAny_isTrue_Compare1 (comp_ok (ρ:=ρ) (cl:=[]) (c1c _) (by rw [c1s];decide) c1k (by rw [c1s];decide) (by rw [c1s];rfl) (fun x=>rfl) (words_to hX n1 n2 n3 I hwm hcm hws hvl (by lia) hlw fun D₁ b ws₁ s₁ le₁ hb hws₁ I₁ sm₁=>?_)))))
 refine iter_list I₁ (zL _ hb) fun I o s₂ t₂ I₂ sh₂ sm₂=>?_
 refine ⟨I,o,[I,b],ws₁.length,_,_,D₁,_,[],fun j _ b it=>b=[]∧IntV it (cks.take j),rfl,by rw [hws₁.length,List.length_map,List.length_map];(exact Nat.le_trans (by assumption) (by decide)),t₂,I₂,sh₂,fun _ _=>⟨rfl,by rw [List.take_zero];exact .nil⟩,fun C hCI hCfx=>?_,fun D₃ base' items s₃ a₃ le₃ hb₃ ok₃ I₃ V₃ sm₃=>?_⟩
 ·intro j u o' oC m D' base items s' Qe hi' pv le ok hb hlen' I' hns hv hq
  refine e02 (ok) ?_;clear ok;intro Y0 ok;subst Y0
  refine e22 (strs_get hws₁ pv) ?_;intro x t hx Y3;subst Y3
  rw [List.getElem?_map] at hx
  refine e12 (Option.map_eq_some_iff.mp hx) ?_;intro o₁ ho₁ Y2;subst Y2
  have hb8:=ho o₁ (List.mem_of_getElem? ho₁)
  refine comp1_ok c1k c1s hX (hex2_hex hb8).1 (hex2_solid hb8).1 (by rw [hex2_len hb8];decide) I' hns hv fun D'' s'' t'' le'' I'' sm''=>?_
  rw [(hex2_hex hb8).2]
  refine hq D'' [] _ s'' le'' rfl I'' sm'' ⟨rfl,?_⟩
  rw [List.take_succ_eq_append_getElem (List.getElem?_eq_some_iff.mp ho₁).1,(List.getElem?_eq_some_iff.mp ho₁).2]
  exact ok.snoc
 refine e02 (ok₃) ?_;clear ok₃;intro Y0 ok₃;subst Y0
 rw [hws₁.length,List.length_map,List.length_map,List.take_length] at ok₃
 refine e36 (freeze0 h0 (le₁.trans le₃) I₃ n5 V₃) ?_;clear h0 le₁ le₃ I₃;intro vs₃ k₃ D₄ le₄ h₄ him₄ I₄ hm₄ hv₄
 refine name_ok HT hX n2 I₄ fun D₅ v₅ s₅ le₅ I₅ V₅ sm₅=>?_
 (have Y:=V₅.valI;clear V₅;subst Y)
 have h₅:=lad_nil I₄ I₅ h₄ rfl
 refine ne_ints I₅ (le₅.imm _ hm₄) ((le₄.trans le₅).imm _ hcm) (ok₃.are hv₄) hci (room_units hr) (wpAny_truthy_bool ?_)
 rw [if_neg zF]
 have le₅':=le₄.trans le₅
 have sm₅':=(((sm₁.trans sm₂).trans sm₃).trans sm₅)
 refine isTrue_or (wpAny_isTrue_Compare1 (comp_okT (ρ:=ρ) (cl:=[]) (c2c _) (by rw [c2s];decide) c2k (by rw [c2s];decide) (by rw [c2s];rfl) (fun x=>rfl) (words_to hX n1 n2 n3 I₅ (le₅'.imm _ hwm) (le₅'.imm _ hcm) hws hvl (by lia) hlw fun D₆ b₆ ws₆ s₆ le₆ hb₆ hws₆ I₆ sm₆=>?_)))
 refine iter_list I₆ (zL _ hb₆) fun I o s₇ t₇ I₇ sh₇ sm₇=>?_
 refine ⟨I,o,[I,b₆],ws₆.length,_,_,D₆,_,[],fun j _ b it=>b=[]∧it=[],rfl,by rw [hws₆.length,List.length_map,List.length_map];(exact Nat.le_trans (by assumption) (by decide)),t₇,I₇,sh₇,fun _ _=>⟨rfl,rfl⟩,fun C hCI hCfx=>?_,fun D₈ base' items s₈ a₈ le₈ hb₈ ok₈ I₈ V₈ sm₈=>?_⟩
 ·intro j u o' oC m D' base items s' Qe Qn hi' pv le ok hb hlen' I' hns hv hq hqn
  refine e02 (ok) ?_;clear ok;intro Y0 Y1;subst Y0;subst Y1
  refine e22 (strs_get hws₆ pv) ?_;clear hws₆ pv;intro x t hx Y3;subst Y3
  rw [List.getElem?_map] at hx
  refine e12 (Option.map_eq_some_iff.mp hx) ?_;clear hx;intro o₁ ho₁ Y2;subst Y2
  refine comp2_ok c2k c2s hX (hex2_len (ho o₁ (List.mem_of_getElem? ho₁))) I' hns hv fun D'' s'' le'' I'' sm''=>?_
  rw [if_neg zF]
  exact hqn D'' [] s'' le'' rfl I'' sm'' ⟨rfl,rfl⟩
 refine e02 (ok₈) ?_;clear ok₈;intro Y0 Y1;subst Y0;subst Y1
 refine e36 (freeze0 h₅ (le₆.trans le₈) I₈ n5 V₈) ?_;clear h₅ le₆ le₈ I₈;intro vs₈ k₈ D₉ le₉ h₉ him₉ I₉ hm₉ hv₉
 refine R.1 _ _ _ _ _ (n4 _) ρ X D₉ s₈ _ rfl hX (hr.down (by decide)) I₉ fun D₁₀ v₁₀ s₁₀ le₁₀ I₁₀ V₁₀ sm₁₀=>?_
 refine e12 (V₁₀.locI) ?_;clear V₁₀;intro a₁₀ e₁₀ Y2;subst Y2
 refine e36 (freeze0 h₉ le₁₀ I₁₀ n5 (.loc e₁₀)) ?_;clear h₉ le₁₀ I₁₀ n5;intro vs₁₁ k₁₁ D₁₁ le₁₁ h₁₁ him₁₁ I₁₁ hm₁₁ hv₁₁
 (have Y:=hv₉.nilI;clear hv₉;subst Y)
 (have Y:=hv₁₁.nilI;clear hv₁₁;subst Y)
 refine ne_ints I₁₁ (le₁₁.imm _ hm₉) hm₁₁ .nil .nil (room_units hr) (wpAny_truthy_bool ?_)
 rw [if_neg zF]
 refine isTrue_or_nil (past (wpAny_execs_nil (hQs _ (h D₁₁ s₁₀ ((le₅'.trans le₉).trans le₁₁) h₁₁ I₁₁ ?_))))
 exact (((sm₅'.trans sm₆).trans sm₇).trans sm₈).trans sm₁₀
end
end
section
section
variable {w:World}{mean:ExcName→Option Value}{mg mb:Str→Option Value}{n:Nat}{ρ:Rho}{X:FX}{D D₀:Led}{st:St}{s s₀:Shared}{loc:Locs}{lst:List (List AV)}
theorem turnD_ok {wa ca:Addr}{ws cs:List Value}{wk:Nat}{A B:List (List Nat)}{a:Int}{ov:Value}{tx:List Nat}{rv v:Value}{i c:Int}{Q:Flow→Shared→Prop} (hi0:0≤i) (hi1:i≤100) (htx:tx.length≤1000) (hvl:cs.length=A.length) (hl:cs.length≤1000) (hlw:ws.length≤10000) (hB:joinL 32 B=if i=0 then tx else []) (hBs:(B.map (·.length)).sum≤10000) (hBl:B.length≤10000) (hcs':X.cs=s707.1) (hX:X.Ok w mean mg mb ρ) (hr:Room X 133)
  (I:Inv ρ X D ⟨il5 a ov tx rv i v c (.ref wa) (.ref ca),[]⟩ s) (hwm:(wa,lObj ws wk)∈D.imm) (hws:StrsAre ws ((A++B).map S)) (hcm:(ca,lObj cs 0)∈D.imm)
  (h:∀ D' s',D.le D'→Inv ρ X D' ⟨il5 a ov tx rv i v c (.ref wa) (.ref ca),[]⟩ s'→Same s s'→Q .next s') :
  wpAny (model pw w) X.A (execs [.If (.Compare (.Call (.Attribute (.Constant (.str (S [32])) (tq5 (iuB 5)).2.1 (z5 0)) (S mJoin) (z5 1)) [.Subscript (.Name (S wordsN) (z5 2)) (.Slice (some (.Call (.Name (S lenN) (z5 3)) [.Name (S chunkN) (z5 4)] [] (z5 5))) none none (z5 6)) (z5 7)] [] (z5 8)) [.NotEq] [.IfExp (tq5 (iuB 5)).2.2.2 (.Name (S textN) (z5 9)) (.Constant (.str (S [])) (tq5 (iuB 5)).2.2.1 (z5 10)) (z5 11)] (z5 12)) (iuR 5) [] (z5 13)] X.env) Q F0 s:=by
 have HT:=(T0_all w mean mg mb).toTabsOk
 have R:=recs_ok (T0_all w mean mg mb) 60
 have e6:=iu5 a ov tx rv i v c (.ref wa) (.ref ca)
 have e7:=iu_l5
 generalize (tq5 (iuB 5)).2.2.2=te at e6
 generalize (tq5 (iuB 5)).2.1=k1
 generalize (tq5 (iuB 5)).2.2.1=k2
 generalize iuR 5=rr
 generalize z5=zz at e7
 have n1:evName T0 X.cs ⟨il5 a ov tx rv i v c (.ref wa) (.ref ca),[]⟩ (S wordsN)=some (.val (.ref wa)):=by rw [hcs'];rfl
 have n2:evName T0 X.cs ⟨il5 a ov tx rv i v c (.ref wa) (.ref ca),[]⟩ (S chunkN)=some (.val (.ref ca)):=by rw [hcs'];rfl
 have n4:evName T0 X.cs ⟨il5 a ov tx rv i v c (.ref wa) (.ref ca),[]⟩ (S textN)=some (.str (.ext tx 1000 .nil)):=by rw [hcs'];rfl
 have n3:evFn T0 X.cs (S lenN)=some (.bi 0):=by rw [hcs'];rfl
 rw [← hcs'] at e6
 generalize il5 a ov tx rv i v c (.ref wa) (.ref ca)=lc at I h n1 n2 n4 e6
 refine wpAny_execs_cons (wpAny_If (wpAny_isTrue_Compare1 (Call_method1 rfl rfl (pos_line e7) (wpAny_Constant_str ?_)) rfl))
 rw [← join_eq]
 refine onS F.plainAttrs_str F.slot_str_join rfl (typeIs_str _ _ _) (fun a e=>nomatch e) (callWith_one ?_)
 refine words_from hX n1 n2 n3 (I.add _) hwm hcm hws hvl hl hlw fun D₁ b ws₁ s₁ le₁ hb hws₁ I₁ sm₁=>?_
 refine PyProof.Rows.join_list (ys:=B.map S) ⟨_,I₁.fx_obj (zL _ hb),rfl,_,rfl⟩ (by rw [List.toList_toArray];exact hws₁) ?_ fun t' tk'=>?_
 ·rw [List.map_map,List.length_map,show ((fun x:Str=>x.length)∘S)=List.length from funext S_len]
  have e1:(S [32]).length=1:=rfl
  rw [e1]
  have hBs:(B.map List.length).sum≤10000:=hBs
  lia
 rw [show Txt.join (S [32]) (B.map S)=S (joinL 32 B) from (StrLaws.glued_eq_join _ _).trans (join_Sx 32 _),hB]
 have sm₁:Same s {s₁ with toks:=tk'}:=⟨sm₁.gens,sm₁.drawn,sm₁.os⟩
 refine wpAny_IfExp (R.2.1 _ _ _ _ _ e6 ρ X D₁ _ _ rfl hX (hr.down (by decide)) (I₁.add tk') fun D₂ b₂ s₂ le₂ I₂ V₂ sm₂=>?_)
 obtain rfl:=V₂.uI
 have hc0:(BE.eq (.extb i 0 100) (.lit 0)).den ρ=decide (i=0):=by
  show eqB ((IE.extb i 0 100).den ρ) 0=_
  rw [extb_den hi0 hi1,eqB_dec]
 rw [hc0]
 by_cases q:i=0
 ·rw [decide_eq_true q,if_pos rfl,if_pos q]
  refine name_ok HT hX n4 I₂ fun D₃ v₃ s₃ le₃ I₃ V₃ sm₃=>?_
  refine e11 (V₃.strI) ?_;clear V₃;intro t₃ Y1;subst Y1
  rw [show (SE.ext tx 1000 .nil).den ρ=tx by simp only [SE.den,List.append_nil];exact zT htx]
  refine PyProof.Rows.ne_str (wpAny_truthy_bool ?_)
  rw [bne_self_eq_false]
  exact past (wpAny_execs_nil (h D₃ s₃ ((le₁.trans le₂).trans le₃) I₃ ((sm₁.trans sm₂).trans sm₃)))
 ·rw [decide_eq_false q,if_neg zF,if_neg q]
  refine wpAny_Constant_str (PyProof.Rows.ne_str (wpAny_truthy_bool ?_))
  rw [bne_self_eq_false]
  exact past (wpAny_execs_nil (h D₂ _ (le₁.trans le₂) (I₂.add _) ((sm₁.trans sm₂).trans ⟨rfl,rfl,rfl⟩)))
theorem turn_ok {oa:Addr}{vs:List Value}{k:Nat}{a:Int}{os:List Int}{tx:List Nat}{rv:Value}{i:Nat}{tv:Tok}{Q:Flow→Shared→Prop} (hm:(oa,lObj vs k)∈D.imm) (hi:IntsAre vs os) (ho:∀ o∈os,0≤o∧o<256) (hl:os.length≤22) (ha:0≤a∧a<pow64) (htx:tx.length≤1000) (ht:Tidy tx) (hi4:i≤4) (hcs':X.cs=s707.1) (hX:X.Ok w mean mg mb ρ) (hr:Room X 133) (h0:D.lad=[])
  (I:Inv ρ X D ⟨il2 a (.ref oa) tx rv i (.str (S (rowL a os tx i)) tv),[]⟩ s) (h:∀ D' s',D.le D'→D'.lad=[]→Inv ρ X D' ⟨il1 a (.ref oa) tx rv,[]⟩ s'→Same s s'→Q .next s') :
  wpAny (model pw w) X.A (execs (forTB (iuS 2)).2.2.1 X.env) Q F0 s:=by
 refine e03 (row_len ha ho htx hi4) ?_;intro hrow hhead hhex
 refine e13 (row_words ho ht i) ?_;clear ht;intro tw e1 e2 hsol
 rw [iu_turn]
 refine turnA_ok ha ho htx hi4 hcs' hX hr I fun D₁ s₁ le₁ I₁ sm₁=>?_
 refine turnB_ok (le₁.imm _ hm) hi hl rfl (by lia) hrow hi4 hcs' hX hr I₁ fun D₂ s₂ wa ws wk ca cs le₂ I₂ sm₂ hwm hws hcm hci=>?_
 have hsz:=wdF_size (32::32::(partL os i++tailL os tx i)) []
 have hlen:(32::32::(partL os i++tailL os tx i)).length≤2000:=by unfold rowL at hrow;simp only [List.length_append,List.length_cons,List.length_nil] at hrow ⊢;lia
 rw [e1] at hws hsz
 have hwl:=hws.length
 rw [List.map_append,List.sum_append,List.length_append] at hsz
 rw [List.length_map,List.length_append] at hwl
 simp only [List.length_nil] at hsz
 have h₂:=lad_nil I I₂ h0 rfl
 have hck:=chunk_len os i
 have hcl:=hci.length
 refine turnC_ok (chunk_in ho) hck (by lia) hcs' hX hr h₂ I₂ hwm hws hcm hci fun D₃ s₃ le₃ h₃ I₃ sm₃=>?_
 refine turnD_ok (A:=(chunkL os i).map hex2) (B:=tw) (i:=(i:Int)) (by (exact Int.natCast_nonneg _)) (by lia) htx (by rw [List.length_map,hcl]) (by lia) (by lia) ?_ (by lia) (by lia) hcs' hX hr I₃ (le₃.imm _ hwm) hws (le₃.imm _ hcm) fun D₄ s₄ le₄ I₄ sm₄=>?_
 ·rw [e2]
  by_cases q:i=0
  ·rw [if_pos q,if_pos (by lia)]
  ·rw [if_neg q,if_neg (by lia)]
 ·refine h D₄ s₄ (((le₁.trans le₂).trans le₃).trans le₄) (lad_nil I₃ I₄ h₃ rfl) (I₄.reloc ?_) (((sm₁.trans sm₂).trans sm₃).trans sm₄)
  exact .cons (by rfl) AVeq.rfl' (.cons (by rfl) AVeq.rfl' (.cons (by rfl) AVeq.rfl' (.cons (by rfl) AVeq.rfl' .nil)))
end
end
section
section
variable {w:World}{mean:ExcName→Option Value}{mg mb:Str→Option Value}{n:Nat}{ρ:Rho}{X:FX}{D D₀:Led}{st:St}{s s₀:Shared}{loc:Locs}{lst:List (List AV)}
theorem dumped_ok {oa:Addr}{vs:List Value}{k:Nat}{os:List Int}{a:Int}{tx:List Nat} (hm:(oa,lObj vs k)∈D.imm) (hi:IntsAre vs os) (ho:∀ o∈os,0≤o∧o<256) (hl:os.length≤22) (ha:0≤a∧a<pow64) (htx:tx.length≤1000) (ht:Tidy tx) {fv:Value}{t u:Tok}{Q:Value→Shared→Prop}
  (hX:X.Ok w mean mg mb ρ) (hr:Room X 136) (I:Inv ρ X D ⟨loc,lst⟩ s) (hf:VR ρ D (.top 707) fv)
  (h:∀ D' s',D.le D'→Inv ρ X D' ⟨loc,lst⟩ s'→Same s s'→Q (.bool true) s'):wpAny (model pw w) X.A (call fv [.int a t,.ref oa,.str (S tx) u]) Q F0 s:=by
 have Va:∀ imm,VR ρ ⟨imm,[]⟩ (.int (pE a)) (.int a t):=fun imm=>by have:=VR.int (ρ:=ρ) (D:=⟨imm,[]⟩) (pE a) t;rw [pE_den ha] at this;exact this
 refine enter_hide (n:=135) (fn707 w) (args:=[.int (pE a),.val (.ref oa),.str (.ext tx 1000 .nil)]) (l:=dl0 a (.ref oa) tx) (by rw [args707];rfl) hX hr I hf (fun imm _=>.cons (Va imm) (.cons (.val _) (.cons (ext_str u htx) .nil)))
  (fun _ v=>v=.bool true) (fun X' hcs hhx hX' hr' s₁ I₁ sm₁=>?_) (fun D' v s' le I' hp sm=>by subst hp;exact h D' s' le I' sm)
 have hcs':X'.cs=s707.1:=hcs.trans s707.2
 have HT:=(T0_all w mean mg mb).toTabsOk
 have R:=recs_ok (T0_all w mean mg mb) 60
 have hvl:=hi.length
 rw [b707.2,iu_body]
 generalize hDD:(⟨D.imm,[]⟩:Led)=D1 at I₁
 have hm1:(oa,lObj vs k)∈D1.imm:=hDD▸hm
 have h1:D1.lad=[]:=hDD▸rfl
 refine wpAny_hide fun Qp hQp=>?_
 refine execs_seq fun Qs hQs=>wpAny_execs_cons (wpAny_Assign_Name (Call_ (fn_ok HT hX' (av:=.top 548) (by rw [hcs'];rfl) I₁ fun D₂ fv₂ s₂ le₂ I₂ V₂ sm₂=>?_)))
 (have Y:=V₂.topI;clear V₂;subst Y)
 refine callWith_K hX'.K (keep_ok HT (cs:=s707.1) (x:=S dumpN) rfl) (args_cons (name_ok HT hX' (av:=.int (pE a)) (by rw [hcs'];rfl) I₂ fun D₃ v₃ s₃ le₃ I₃ V₃ sm₃=>args_cons (name_ok HT hX' (av:=.val (.ref oa)) (by rw [hcs'];rfl) I₃ fun D₄ v₄ s₄ le₄ I₄ V₄ sm₄=>args_cons (name_ok HT hX' (av:=.str (.ext tx 1000 .nil)) (by rw [hcs'];rfl) I₄ fun D₅ v₅ s₅ le₅ I₅ V₅ sm₅=>args_nil ⟨hX'.K.keeps I₅.hk,?_⟩))))
 refine e11 (V₃.intI) ?_;clear V₃;intro t₃ Y1;subst Y1
 (have Y:=V₄.valI;clear V₄;subst Y)
 refine e11 (V₅.strI) ?_;clear V₅;intro t₅ Y1;subst Y1
 rw [pE_den ha,show (SE.ext tx 1000 .nil).den ρ=tx by simp only [SE.den,List.append_nil];exact zT htx]
 have le₅:=((le₂.trans le₃).trans le₄).trans le₅
 have sm₅:=((sm₂.trans sm₃).trans sm₄).trans sm₅
 refine dump_ok (le₅.imm _ hm1) hi ho hl ha htx hX' (hr'.down (by decide)) I₅ (.top 548) fun D₆ s₆ v₆ rows le₆ I₆ hrows V₆ sm₆=>?_
 refine e12 (V₆.locI) ?_;clear V₆;intro ra e₆ Y2;subst Y2
 refine e36 (freeze0 h1 (le₅.trans le₆) I₆ rfl (.loc e₆)) ?_;clear h1 le₅ le₆ I₆;intro rvs kr D₇ le₇ h₇ him₇ I₇ hm₇ hv₇
 have hra:=hrows.are hv₇
 have hrl:rvs.length=nRows os.length:=by rw [hra.length];unfold rowsL;simp
 have hn4:nRows os.length≤4:=by unfold nRows;lia
 refine store_ok (x:=S rowsN) hX' (by rw [hcs'];rfl) I₇ (.val (.ref ra)) fun s₈ I₈ sm₈=>?_
 have I₈:Inv ρ X' D₇ ⟨il1 a (.ref oa) tx (.ref ra),[]⟩ s₈:=I₈
 refine wpAny_execs_nil (hQs _ ?_)
 clear hQs Qs
 have sm₈:Same s s₈:=((sm₁.trans sm₅).trans sm₆).trans sm₈
 have hq1:∀ v:Value,evName T0 X'.cs ⟨il1 a (.ref oa) tx v,[]⟩ (S rowsN)=some (.val v):=fun v=>by rw [hcs'];rfl
 have hq2:∀ v:Value,evName T0 X'.cs ⟨il1 a (.ref oa) tx v,[]⟩ (S octetsN)=some (.val (.ref oa)):=fun v=>by rw [hcs'];rfl
 have hq3:evFn T0 X'.cs (S lenN)=some (.bi 0):=by rw [hcs'];rfl
 refine execs_seq fun Qs hQs=>wpAny_execs_cons (wpAny_If (wpAny_isTrue_Compare1 (len_name hX' (hq1 _) hq3 I₈ hm₇ (by lia) fun D₉ s₉ t₉ le₉ hl₉ I₉ sm₉=>Call_ (fn_ok HT hX' (av:=.bi 6) (by rw [hcs'];rfl) I₉ fun D₁₀ v₁₀ s₁₀ le₁₀ I₁₀ V₁₀ sm₁₀=>?_))))
 (have Y:=V₁₀.biI;clear V₁₀;subst Y)
 have le₁₀:=le₉.trans le₁₀
 refine PyProof.Rows.callWith_builtin1 (id:="max") (args_cons (wpAny_Constant_int (args_cons (wpAny_BinOp (wpAny_BinOp (len_name hX' (hq2 _) hq3 (I₁₀.add _) (le₁₀.imm _ (le₇.imm _ hm1)) (by lia) fun D₁₁ s₁₁ t₁₁ le₁₁ hl₁₁ I₁₁ sm₁₁=>wpAny_Constant_int (PyProof.Rows.add_int (wpAny_Constant_int ?_))))))))
 refine PyProof.Rows.floordiv_int (by decide) (args_nil ?_) (.inl (PyProof.noPylong_small (by decide)))
 refine max_two_ints rfl fun h' tk hold=>?_
 have I₁₂:=I₁₁.grow (tk:=tk) hold
 have hmax:∀ (b c:Tok),∃ d,(if Int.fdiv ((vs.length:Int)+6) 7 > 1 then Value.int (Int.fdiv ((vs.length:Int)+6) 7) b else .int 1 c)=.int (nRows os.length:Int) d:=fun b c=>by
  rw [Int.fdiv_eq_ediv_of_nonneg _ (by decide),hvl]
  unfold nRows
  split
  ·exact ⟨b,by congr 1;lia⟩
  ·exact ⟨c,by congr 1;lia⟩
 have go:∀ v,(∃ d,v=Value.int (nRows os.length:Int) d)→∀ Qz:Bool→Shared→Prop,(∀ s',Inv ρ X' D₁₁ ⟨il1 a (.ref oa) tx (.ref ra),[]⟩ s'→Same s₁₁ s'→Qz false s') →
   wpAny (model pw w) X'.A (compareOp .NotEq (.int (rvs.length:Int) t₉) v) (fun c s₃=>wpAny (model pw w) X'.A (truthy c) Qz F0 s₃) F0 {s₁₁ with heap:=h',toks:=tk}:=fun v hv Qz hz=>by
  refine e11 (hv) ?_;try clear hv;intro d Y1;subst Y1
  refine PyProof.Rows.ne_int (wpAny_truthy_bool ?_)
  rw [hrl,bne_self_eq_false]
  exact hz _ I₁₂ ⟨rfl,rfl,rfl⟩
 refine go _ (hmax _ _) _ fun s₁₃ I₁₃ sm₁₃=>past (wpAny_execs_nil (hQs _ ?_))
 clear hQs Qs go
 have sm₁₃:Same s s₁₃:=((sm₈.trans sm₉).trans ((⟨sm₁₀.gens,sm₁₀.drawn,sm₁₀.os⟩:Same s₉ s₁₀).trans (⟨sm₁₁.gens,sm₁₁.drawn,sm₁₁.os⟩:Same s₁₀ s₁₁))).trans sm₁₃
 have le₁₃:=le₇.trans (le₁₀.trans le₁₁)
 refine execs_seq fun Qs hQs=>wpAny_execs_cons (wpAny_For (Call_ (fn_ok HT hX' (av:=.bi 5) (by rw [hcs'];rfl) I₁₃ fun D₁₄ v₁₄ s₁₄ le₁₄ I₁₄ V₁₄ sm₁₄=>?_)) (fun x=>rfl))
 (have Y:=V₁₄.biI;clear V₁₄;subst Y)
 refine PyProof.Rows.callWith_type1 (T:="enumerate") (args_cons (name_ok HT hX' (hq1 _) I₁₄ fun D₁₅ v₁₅ s₁₅ le₁₅ I₁₅ V₁₅ sm₁₅=>args_nil ?_))
 (have Y:=V₁₅.valI;clear V₁₅;subst Y)
 have le₁₅:=(le₁₃.trans le₁₄).trans le₁₅
 have hm₁₅:(ra,lObj rvs kr)∈D₁₅.imm:=by
  have:=(le₁₀.trans le₁₁).imm _ hm₇
  rename_i le
  exact le.imm _ (le₁₄.imm _ this)
 have h₁₅:=lad_nil I₇ I₁₅ h₇ rfl
 refine enum_made I₁₅ (zL _ hm₁₅) fun e it oe oi s₁₆ hei hfx hDe hDi he hit I₁₆ sm₁₆=>?_
 refine wpAny_pyIter_enum he ?_
 refine enum_loop (fun _ D st=>D.lad=[]∧st=⟨il1 a (.ref oa) tx (.ref ra),[]⟩) hei hfx hDe hDi hm₁₅ hX' (by rw [hcs'];rfl) (by rw [hcs'];rfl) (by lia) (fun i v f D' st s' Qn hi' hv le ok hf I' hq=>?_) ⟨h₁₅,rfl⟩ I₁₆ he hit (fun D' st' s' le ok I' sm=>?_)
 ·refine e02 (ok) ?_;try clear ok;intro hlad Y1;subst Y1
  refine e22 (strs_get hra hv) ?_;clear hra hv;intro x t hx Y3;subst Y3
  have hxe:x=rowL a os tx i:=by
   unfold rowsL at hx
   rw [List.getElem?_map,List.getElem?_range (by lia)] at hx
   exact (Option.some.inj hx).symm
  subst hxe
  exact turn_ok (X:=X'.refx f) (le.imm _ (le₁₅.imm _ hm1)) hi ho hl ha htx ht (by lia) hcs' ⟨hX'.B,hX'.K,hX'.T,hX'.k,fun p hp=>hf p (hX'.held p hp),hX'.sym⟩ (hr'.down (by decide)) hlad I' fun D'' s'' le'' h'' I'' sm''=>⟨rfl,hq D'' _ s'' le'' ⟨h'',rfl⟩ I'' sm''⟩
 ·refine e02 (ok) ?_;clear ok;intro hlad Y1;subst Y1
  refine wpAny_execs_nil (hQs _ ?_)
  refine R.2.2.1 _ _ _ [] _ (iu6 a (.ref oa) tx (.ref ra)) ρ X' D' s' _ hcs' hX' (hr'.down (by decide)) I' fun D₁₇ fl s₁₇ le₁₇ fr sm₁₇=>?_
  refine e13 (fr) ?_;clear fr;intro v Y1 V I₁₇;subst Y1
  (have Y:=V.boolI;clear V;subst Y)
  refine hQp _ _ (i35 _ D₁₇ _ rfl ((le₁₅.trans le).trans le₁₇) I₁₇ ?_ rfl)
  exact (((((sm₁₃.trans sm₁₄).trans sm₁₅).trans sm₁₆).trans sm).trans sm₁₇)
end
end
end Nn62
end
section
open PySem PySem.W PySem.Calls PyProof.Rows
namespace Nn62
section
noncomputable def takeN:List Nat:=[95,108,97,119,95,116,97,107,101]
noncomputable def lawBagN:List Nat:=[95,108,97,119,95,98,97,103]
noncomputable def lawPlaceN:List Nat:=[95,108,97,119,95,112,108,97,99,101]
noncomputable def lawLineN:List Nat:=[95,108,97,119,95,108,105,110,101]
noncomputable def isLineN:List Nat:=[95,108,97,119,95,105,115,95,108,105,110,101]
noncomputable def isDumpN:List Nat:=[95,108,97,119,95,105,115,95,100,117,109,112,101,100]
noncomputable def readNearN:List Nat:=[95,108,97,119,95,114,101,97,100,95,110,101,97,114]
noncomputable def nearSymN:List Nat:=[110,101,97,114,95,115,121,109,98,111,108]
noncomputable def writeRowsN:List Nat:=[119,114,105,116,101,95,114,111,119,115]
noncomputable def rangeN:List Nat:=[114,97,110,103,101]
noncomputable def listN:List Nat:=[108,105,115,116]
noncomputable def turnN:List Nat:=[116,117,114,110]
noncomputable def heldN:List Nat:=[104,101,108,100]
noncomputable def firstN:List Nat:=[102,105,114,115,116]
noncomputable def lwS (i:Nat):Stmt:=b712.1.getD i (.Pass ⟨0,0,0,0⟩)
noncomputable def nArgs:Expr→List Pos×List Nat
 | .Name _ a=>([a],[])
 | .Constant _ k a=>([a],[k])
 | .Call (.Name _ b) [.Name _ c] _ d=>([b,c,d],[])
 | .Call (.Name _ b) [.Name _ c,.Constant _ k d] _ e=>([b,c,d,e],[k])
 | _=>([],[])
noncomputable def v0P (zs:Stmt):List Pos:=(atL zs [1,66,130,2,0])
noncomputable def v2P (zs:Stmt):List Pos×List Nat×List Stmt:=((atL zs [1,66,2,0])++(nArgs (atE zs 130)).1,(nArgs (atE zs 130)).2,(atB zs 0))
structure V2B where
 p:List Pos
 k:List Nat
 idx:Expr
 e0:Expr
 sy:Expr
noncomputable def v2B0 (zs:Stmt):V2B:=⟨(atL zs [1,532546,8258,66,266370,4226,8322,130,2,0])++(nArgs (atE zs 270402)).1++(nArgs (atE zs 194)).1,[(atK zs 532546),(atK zs 8322)]++(nArgs (atE zs 270402)).2,(atE zs 528514),(atE zs 4162),(atE zs 194)⟩
noncomputable def v2B1 (zs:Stmt):V2B:=⟨(atL zs [4161,65,4225,8321,129,1,0])++(nArgs (atE zs 532609)).1,[(atK zs 129)]++(nArgs (atE zs 532609)).2,(atE zs 270465),(atE zs 270465),(atE zs 270465)⟩
noncomputable def vp (i:Nat) (f:Stmt→List Pos) (j:Nat):Pos:=at0 (f (lwS i)) j
noncomputable def ks (l:List Nat) (i:Nat):Nat:=l.getD i 0
noncomputable def l2b (i:Nat):Stmt:=(v2P (lwS 2)).2.2.getD i (.Pass ⟨0,0,0,0⟩)
theorem lw0:lwS 0=.Assign [.Name (S bagN) (vp 0 v0P 0)] (.Call (.Name (S lawBagN) (vp 0 v0P 1)) [.Name (S scriptN) (vp 0 v0P 2)] [] (vp 0 v0P 3)) (vp 0 v0P 4):=by kernel_rfl
theorem lw2:lwS 2=.For (.Name (S turnN) (at0 (v2P (lwS 2)).1 0)) (.Call (.Name (S rangeN) (at0 (v2P (lwS 2)).1 1)) [.Call (.Name (S takeN) (at0 (v2P (lwS 2)).1 4)) [.Name (S bagN) (at0 (v2P (lwS 2)).1 5),.Constant (.int 6) (ks (v2P (lwS 2)).2.1 0) (at0 (v2P (lwS 2)).1 6)] [] (at0 (v2P (lwS 2)).1 7)] [] (at0 (v2P (lwS 2)).1 2)) [l2b 0,l2b 1] [] (at0 (v2P (lwS 2)).1 3):=by kernel_rfl
noncomputable def b0p (i:Nat):Pos:=at0 (v2B0 (l2b 0)).p i
theorem lw20:l2b 0=.Assign [.Name (S spotN) (b0p 0)] (.IfExp (.BoolOp .And [(v2B0 (l2b 0)).e0,.Compare (.Call (.Name (S takeN) (b0p 10)) [.Name (S bagN) (b0p 11),.Constant (.int 3) (ks (v2B0 (l2b 0)).k 2) (b0p 12)] [] (b0p 13)) [.Eq] [.Constant (.int 0) (ks (v2B0 (l2b 0)).k 0) (b0p 1)] (b0p 2)] (b0p 3)) (.Subscript (.Subscript (.Name (S symbolsN) (b0p 4)) (v2B0 (l2b 0)).idx (b0p 5)) (.Constant (.int 0) (ks (v2B0 (l2b 0)).k 1) (b0p 6)) (b0p 7)) (.Call (.Name (S lawPlaceN) (b0p 14)) [.Name (S bagN) (b0p 15)] [] (b0p 16)) (b0p 8)) (b0p 9):=by kernel_rfl
noncomputable def b1p (i:Nat):Pos:=at0 (v2B1 (l2b 1)).p i
theorem lw21:l2b 1=.Expr (.Call (.Attribute (.Name (S symbolsN) (b1p 0)) (S mAppend) (b1p 1)) [.Tuple [.Name (S spotN) (b1p 2),.Subscript (v2B1 (l2b 1)).idx (.Call (.Name (S takeN) (b1p 7)) [.Name (S bagN) (b1p 8),.Constant (.int 5) (ks (v2B1 (l2b 1)).k 1) (b1p 9)] [] (b1p 10)) (b1p 3)] (ks (v2B1 (l2b 1)).k 0) (b1p 4)] [] (b1p 5)) (b1p 6):=by kernel_rfl
theorem lw3:lwS 3=.Assign [.Name (S heldN) (vp 3 v0P 0)] (.Call (.Name (S listN) (vp 3 v0P 1)) [.Name (S symbolsN) (vp 3 v0P 2)] [] (vp 3 v0P 3)) (vp 3 v0P 4):=by kernel_rfl
end
end Nn62
end
section
open PySem PySem.W PySem.Calls PyProof.Rows
namespace Nn62
open PySem.W.Z (leB ltB eqB leB_iff ltB_iff eqB_iff)
section
theorem k_bag:s712.1.names.lookup (S bagN)=some .cell:=by kernel_rfl
theorem k_syn:s712.1.names.lookup (S syntaxN)=some .cell:=by kernel_rfl
theorem g_take:evFn T0 s712.1 (S takeN)=some (.top 646):=by kernel_rfl
theorem g_place:evFn T0 s712.1 (S lawPlaceN)=some (.top 660):=by kernel_rfl
theorem g_range:evFn T0 s712.1 (S rangeN)=some (.bi 2):=by kernel_rfl
theorem g_list:evFn T0 s712.1 (S listN)=some (.bi 7):=by kernel_rfl
theorem g_len:evFn T0 s712.1 (S lenN)=some (.bi 0):=by kernel_rfl
structure LawX (X:FX) (cb cy:Addr):Prop where
 cs:X.cs=s712.1
 cl1:X.cl.lookup (S bagN)=some cb
 cl2:X.cl.lookup (S syntaxN)=some cy
 ne:cb≠cy
noncomputable def CellIs (X:FX) (c:Addr) (v:Value):Prop:=∃ o,(c,o)∈X.fx∧o.data=.cell (some v)
theorem CellIs.up {X X':FX}{c:Addr}{v:Value} (h:CellIs X c v) (f:∀ p∈X.fx,p∈X'.fx):CellIs X' c v:=let ⟨o,a,b⟩:=h;⟨o,f _ a,b⟩
noncomputable def BagIn (X:FX) (D:Led) (cb:Addr):Prop:=∃ ba,CellIs X cb (.ref ba)∧D.lad[0]?=some ba
theorem BagIn.mono {X:FX}{D D':Led}{cb:Addr} (h:BagIn X D cb) (le:D.le D'):BagIn X D' cb:=let ⟨ba,a,b⟩:=h;⟨ba,a,le.lad _ _ b⟩
theorem BagIn.up {X X':FX}{D:Led}{cb:Addr} (h:BagIn X D cb) (f:∀ p∈X.fx,p∈X'.fx):BagIn X' D cb:=let ⟨ba,a,b⟩:=h;⟨ba,a.up f,b⟩
section
variable {w:World}{mean:ExcName→Option Value}{mg mb:Str→Option Value}{n:Nat}{ρ:Rho}{X:FX}{D D₀:Led}{st:St}{s s₀:Shared}{loc:Locs}{lst rest:List (List AV)}{items:List AV}{cb cy:Addr}{Q:Value→Shared→Prop}{p0 p1 p2 p3:Pos}
theorem bag_name (L:LawX X cb cy) (hX:X.Ok w mean mg mb ρ) (hb:BagIn X D cb) (I:Inv ρ X D st s) (h:∀ v,VR ρ D (.loc 0) v→Q v s):wpAny (model pw w) X.A (eval (.Name (S bagN) p0) X.env) Q F0 s:=by
 obtain ⟨ba,⟨o,ho,hd⟩,hl⟩:=hb
 have hk:X.env.kindOf (S bagN)=some .cell:=by show X.cs.names.lookup (S bagN)=_;rw [L.cs];exact k_bag
 exact wpAny_Name (wpAny_loadName_cell hX.k hk L.cl1 ⟨o,I.fx_obj (zR _ ho),hd⟩ (h _ (.loc hl))) (not_debug rfl)
theorem syn_name (L:LawX X cb cy) (hX:X.Ok w mean mg mb ρ) {v:Value} (hb:CellIs X cy v) (I:Inv ρ X D st s) (h:Q v s):wpAny (model pw w) X.A (eval (.Name (S syntaxN) p0) X.env) Q F0 s:=by
 refine e12 (hb) ?_;try clear hb;intro o ho hd
 have hk:X.env.kindOf (S syntaxN)=some .cell:=by show X.cs.names.lookup (S syntaxN)=_;rw [L.cs];exact k_syn
 exact wpAny_Name (wpAny_loadName_cell hX.k hk L.cl2 ⟨o,I.fx_obj (zR _ ho),hd⟩ h) (not_debug rfl)
theorem take_call (L:LawX X cb cy) (hX:X.Ok w mean mg mb ρ) (hr:Room X 133) (hb:BagIn X D cb) {N:Int} (I:Inv ρ X D ⟨loc,[.int (.ext N)]::rest⟩ s) {m:Int} (hm:0<m∧m<2 ^ 70) {k:Nat}
  (h:∀ D' s' t,D.le D'→Inv ρ X D' ⟨loc,[.int (.ext (N / m))]::rest⟩ s'→Same s s'→Q (.int (N % m) t) s'):wpAny (model pw w) X.A (eval (.Call (.Name (S takeN) p0) [.Name (S bagN) p1,.Constant (.int m) k p2] [] p3) X.env) Q F0 s:=by
 have HT:=(T0_all w mean mg mb).toTabsOk
 refine Call_ (fn_ok HT hX (av:=.top 646) (by rw [L.cs];exact g_take) I fun D₁ v₁ s₁ le₁ I₁ V₁ sm₁=>?_)
 obtain rfl:=V₁.topI
 refine callWith_K hX.K (keep_ok HT g_take) (args_cons (bag_name L hX (hb.mono le₁) I₁ fun v hv=>args_cons (wpAny_Constant_int (args_nil ⟨hX.K.keeps I₁.hk,?_⟩))))
 exact tk_ok hm hX (hr.down (by decide)) (I₁.add _) (.top 646) hv fun D' s' t' le I' sm=>h D' s' t' (le₁.trans le) I' (sm₁.trans ⟨sm.gens,sm.drawn,sm.os⟩)
theorem place_call (L:LawX X cb cy) (hX:X.Ok w mean mg mb ρ) (hr:Room X 133) (hb:BagIn X D cb) {N:Int} (I:Inv ρ X D ⟨loc,[.int (.ext N)]::rest⟩ s)
  (h:∀ N' D' s' p t,D.le D'→Inv ρ X D' ⟨loc,[.int (.ext N')]::rest⟩ s'→0≤p→p<pow64→Same s s'→Q (.int p t) s'):wpAny (model pw w) X.A (eval (.Call (.Name (S lawPlaceN) p0) [.Name (S bagN) p1] [] p3) X.env) Q F0 s:=by
 have HT:=(T0_all w mean mg mb).toTabsOk
 refine Call_ (fn_ok HT hX (av:=.top 660) (by rw [L.cs];exact g_place) I fun D₁ v₁ s₁ le₁ I₁ V₁ sm₁=>?_)
 obtain rfl:=V₁.topI
 refine callWith_K hX.K (keep_ok HT g_place) (args_cons (bag_name L hX (hb.mono le₁) I₁ fun v hv=>args_nil ⟨hX.K.keeps I₁.hk,?_⟩))
 exact plc_ok hX hr I₁ (.top 660) hv fun N' D' s' p t le I' h0 h1 sm=>h N' D' s' p t (le₁.trans le) I' h0 h1 (sm₁.trans sm)
theorem range_take (L:LawX X cb cy) (hX:X.Ok w mean mg mb ρ) (hr:Room X 133) (hb:BagIn X D cb) {N:Int} (I:Inv ρ X D ⟨loc,[.int (.ext N)]::rest⟩ s) {m:Int} (hm:0<m∧m≤100) {k:Nat}{p4 p5:Pos}
  (h:∀ D' I o (c:Nat) s',(c:Int)<m→D.le D'→Iter w X I [I] c (fun i v=>∃ t,v=.int (i:Int) t) (RShape I c) D'→Inv ρ (X.with I o) D' ⟨loc,[.int (.ext (N / m))]::rest⟩ s'→RShape I c 0 s'.heap→Same s s'→Q (.ref I) s') :
  wpAny (model pw w) X.A (eval (.Call (.Name (S rangeN) p4) [.Call (.Name (S takeN) p0) [.Name (S bagN) p1,.Constant (.int m) k p2] [] p3] [] p5) X.env) (fun v s'=>wpAny (model pw w) X.A (pyIter v) Q F0 s') F0 s:=by
 have HT:=(T0_all w mean mg mb).toTabsOk
 refine Call_ (fn_ok HT hX (av:=.bi 2) (by rw [L.cs];exact g_range) I fun D₁ v₁ s₁ le₁ I₁ V₁ sm₁=>?_)
 obtain rfl:=V₁.biI
 refine PyProof.Rows.callWith_type1 (T:="range") (args_cons (take_call L hX hr (hb.mono le₁) I₁ ⟨hm.1,by lia⟩ fun D₂ s₂ t le₂ I₂ sm₂=>args_nil ?_))
 have h0:=Int.emod_nonneg N (show m≠0 by lia)
 have h1:=Int.emod_lt_of_pos N hm.1
 obtain ⟨c,hc⟩:∃ c:Nat,(c:Int)=N % m:=⟨(N % m).toNat,by lia⟩
 rw [← hc] at h1 ⊢
 refine range_call I₂ fun D₃ r s₃ le₃ I₃ V₃ sm₃=>iter_range I₃ (by lia) V₃ fun It o s₄ t₄ I₄ sh₄ sm₄=>?_
 exact h D₃ It o c s₄ h1 ((le₁.trans le₂).trans le₃) t₄ I₄ sh₄ (((sm₁.trans sm₂).trans sm₃).trans sm₄)
end
end
section
inductive SymV (imm:List (Addr×Obj)):List AV→List Sy→Prop
 | nil:SymV imm [] []
 | cons {a:Addr}{i:Int}{t:Tok}{x:List Nat}{t':Tok}{k:Nat}{r:List AV}{l:List Sy}:(a,({cls:=.type "tuple",data:=.seq #[.int i t,.str (S x) t'] k}:Obj))∈imm→SymV imm r l→SymV imm (.val (.ref a)::r) ((i,x)::l)
theorem SymV.mono {imm imm':List (Addr×Obj)} (f:∀ p∈imm,p∈imm') {r:List AV}{l:List Sy} (h:SymV imm r l):SymV imm' r l:=by
 induction h with
 | nil=>exact .nil
 | cons m _ ih=>exact .cons (f _ m) ih
theorem SymV.snoc {imm:List (Addr×Obj)}{r:List AV}{l:List Sy} (h:SymV imm r l) {a:Addr}{i:Int}{t:Tok}{x:List Nat}{t':Tok}{k:Nat} (m:(a,({cls:=.type "tuple",data:=.seq #[.int i t,.str (S x) t'] k}:Obj))∈imm):SymV imm (r++[.val (.ref a)]) (l++[(i,x)]):=by
 induction h with
 | nil=>exact .cons m .nil
 | cons m' _ ih=>exact .cons m' ih
theorem SymV.len {imm:List (Addr×Obj)}{r:List AV}{l:List Sy} (h:SymV imm r l):r.length=l.length:=by
 induction h with
 | nil=>rfl
 | cons _ _ ih=>rw [List.length_cons,List.length_cons,ih]
theorem SymV.are {ρ:Rho}{D:Led}{imm:List (Addr×Obj)}{r:List AV}{l:List Sy} (h:SymV imm r l):∀ {vs:List Value},VRs ρ D r vs→SymVs imm vs l:=by
 induction h with
 | nil=>intro vs V;(have Y:=V.nilI;clear V;subst Y);exact .nil
 | cons m _ ih =>
  intro vs V
  refine e23 (V.consI) ?_;clear V;intro v r V1 V2 Y4;subst Y4
  (have Y:=V1.valI;clear V1;subst Y)
  exact .cons m (ih V2)
theorem SymV.lbs {imm:List (Addr×Obj)}{r:List AV}{l:List Sy} (h:SymV imm r l) (k:Nat):Nn62.lbs k r=true:=by
 induction h with
 | nil=>rfl
 | cons _ _ ih=>show (true&&Nn62.lbs k _)=true;rw [ih];rfl
noncomputable def la1 (la:Value):Locs:=[(scriptN,.val la),(symbolsN,.loc 1)]
noncomputable def la2 (la:Value) (i:Int):Locs:=la1 la++[(turnN,.int (.extb i 0 100))]
noncomputable def la3 (la:Value) (i:Int) (p:Value):Locs:=la2 la i++[(spotN,.val p)]
noncomputable def nmL (l:List (List Nat)):List AV:=l.map fun x=>.str (.lit x .nil)
theorem e0t (la:Value) (i:Int) (N:Int) (its:List AV):(recs T0 60).tst s712.1 ⟨la2 la i,[[.int (.ext N)],its]⟩ (v2B0 (l2b 0)).e0=some (.u (.lt (.lit 0) (.extb i 0 100)),⟨la2 la i,[[.int (.ext N)],its]⟩):=by kernel_rfl
theorem eix (la:Value) (i:Int) (N:Int) (its:List AV):(recs T0 60).ev s712.1 ⟨la2 la i,[[.int (.ext N)],its]⟩ (v2B0 (l2b 0)).idx=some (.int (.lit (-1)),⟨la2 la i,[[.int (.ext N)],its]⟩):=by kernel_rfl
theorem enm (la:Value) (i:Int) (p:Value) (N:Int) (its:List AV):(recs T0 60).ev s712.1 ⟨la3 la i p,[[.int (.ext N)],its]⟩ (v2B1 (l2b 1)).idx=some (.loc 2,⟨la3 la i p,[[.int (.ext N)],its,nmL goodNames]⟩):=by kernel_rfl
theorem l_b1:posLine (b1p 1) (b1p 5)=true:=by kernel_rfl
section
variable {w:World}{mean:ExcName→Option Value}{mg mb:Str→Option Value}{n:Nat}{ρ:Rho}{X:FX}{D D₀:Led}{st:St}{s s₀:Shared}{loc:Locs}{lst rest:List (List AV)}{items:List AV}{cb cy:Addr}
theorem nm_get {l:List (List Nat)}{vs:List Value} (V:VRs ρ D (nmL l) vs):∀ {r:Nat}{x:List Nat},l[r]?=some x→∃ t,vs[r]?=some (.str (S x) t):=by
 induction l generalizing vs with
 | nil=>intro r x h;simp at h
 | cons y l ih =>
  intro r x h
  refine e23 (VRs.consI (show VRs ρ D (.str (.lit y .nil)::nmL l) vs from V)) ?_;intro v r' V1 V2 Y4;subst Y4
  cases r with
  | zero =>
   (have Y0:=s1 h;try clear h;subst Y0)
   refine e11 (V1.strI) ?_;clear V1;intro t Y1;subst Y1
   refine ⟨t,?_⟩
   rw [show (SE.lit y .nil).den ρ=y from List.append_nil _];rfl
  | succ r=>exact ih V2 (by simpa using h)
theorem sym_put (L:LawX X cb cy) (hX:X.Ok w mean mg mb ρ) (hr:Room X 133) (hb:BagIn X D cb) {la p:Value}{i N P:Int}{t:Tok}{its:List AV}{syms:List Sy}{Q:Flow→Shared→Prop} (hp:p=.int P t) (hP:0≤P∧P<pow64) (hl:its.length≤100) (hs:SymV D.imm its syms)
  (I:Inv ρ X D ⟨la3 la i p,[[.int (.ext N)],its]⟩ s)
  (h:∀ D' s' N' its' x,D.le D'→Inv ρ X D' ⟨la3 la i p,[[.int (.ext N')],its']⟩ s'→SymV D'.imm its' (syms++[(P,x)])→x∈goodNames→Same s s'→Q .next s') :
  wpAny (model pw w) X.A (exec (l2b 1) X.env) Q F0 s:=by
 have HT:=(T0_all w mean mg mb).toTabsOk
 have R:=recs_ok (T0_all w mean mg mb) 60
 have hn:evName T0 X.cs ⟨la3 la i p,[[.int (.ext N)]]++[its]⟩ (S symbolsN)=some (.loc 1):=by rw [L.cs];rfl
 have hn2:evName T0 X.cs ⟨la3 la i p,[[.int (.ext N)]]++[its]⟩ (S spotN)=some (.val p):=by rw [L.cs];rfl
 have he:=enm la i p N its
 have hlb:locsLb 2 (la3 la i p)=true:=rfl
 have hline:=l_b1
 rw [lw21]
 generalize (v2B1 (l2b 1)).idx=nmE at he ⊢
 generalize ks (v2B1 (l2b 1)).k 0=k0
 generalize ks (v2B1 (l2b 1)).k 1=k1
 generalize b1p=pp at hline ⊢
 generalize la3 la i p=lc at I h hn hn2 he hlb
 refine append_ok (pre:=[[.int (.ext N)]]) hX hline rfl hn rfl (by (exact Nat.le_trans (by assumption) (by decide))) I fun D₁ s₁ le₁ I₁ sm₁=>?_
 refine wpAny_Tuple (args_cons (name_ok HT hX hn2 I₁ fun D₂ v₂ s₂ le₂ I₂ V₂ sm₂=>args_cons (Subscript_ (R.1 _ _ _ _ _ (by rw [L.cs];exact he) ρ X D₂ s₂ _ rfl hX (hr.down (by decide)) I₂ fun D₃ v₃ s₃ le₃ I₃ V₃ sm₃=>?_))))
 (have Y:=V₂.valI;clear V₂;subst Y)
 refine e12 (V₃.locI) ?_;clear V₃;intro na hna Y2;subst Y2
 refine take_call (rest:=[its,nmL goodNames]) L hX hr (hb.mono ((le₁.trans le₂).trans le₃)) I₃ (m:=5) (by decide) fun D₄ s₄ t₄ le₄ I₄ sm₄=>?_
 have r0:=Int.emod_nonneg N (show (5:Int)≠0 by decide)
 have r1:=Int.emod_lt_of_pos N (show (0:Int)<5 by decide)
 obtain ⟨r,hr5⟩:∃ r:Nat,(r:Int)=N % 5:=⟨(N % 5).toNat,by lia⟩
 rw [← hr5] at r1 ⊢
 refine e21 (id I₄) ?_;intro m Pl J
 refine e23 (J.lad_get (i:=2) (l:=nmL goodNames) rfl (le₄.lad _ _ hna)) ?_;clear J i;intro vs kk _ hvs hg
 have hx:∃ x,goodNames[r]?=some x:=⟨_,List.getElem?_eq_getElem (by show r<5;lia)⟩
 refine e11 (hx) ?_;clear hx;intro x hx
 refine e11 (nm_get hvs hx) ?_;clear hvs;intro t₅ ht₅
 have hvl:r<vs.length:=(List.getElem?_eq_some_iff.mp ht₅).1
 refine tail_any (T:="list") ⟨_,hg,rfl⟩ slot_list_getitem.lookup (wpAny_getItem_list (k:=(r:Int)) ⟨_,hg,rfl,_,rfl⟩ (by (exact Int.natCast_nonneg _)) (by lia) (by simpa using ht₅) ?_) (sub_ok (fun _ _ _ _ h=>by cases h) _ _)
 refine args_nil ⟨by show 2≤16777216;decide,?_⟩
 subst hp
 have C:=I₄.cut (k:=2) hlb (by show (true&&(lbs 2 its&&true))=true;rw [hs.lbs];rfl)
 have C:Inv ρ X ⟨D₄.imm,D₄.lad.take 2⟩ ⟨lc,[[.int (.ext (N / 5))],its]⟩ s₄:=C
 have hl2:D₁.lad.length=2:=I₁.lad_len
 have leC:D₁.le ⟨D₄.imm,D₄.lad.take 2⟩:=((le₂.trans le₃).trans le₄).cut (by lia)
 refine e21 (id C) ?_;clear C;intro mc Pc Jc
 refine (i24 _ ([[.int (.ext (N / 5))]]) (leC.trans (Led.le_imm _ _)) rfl (⟨mc,Pc,Jc.pushImm {cls:=.type "tuple",data:=.seq [Value.int P t,.str (S x) t₅].toArray} (Jc.F.push _) (News.push Jc.F Jc.N _)⟩) (fun s₅ I₅ sm₅=>?_))
 refine h _ s₅ (N / 5) _ x ((le₁.trans leC).trans (Led.le_imm _ _)) I₅ ?_ (List.mem_of_getElem? hx) ((((sm₁.trans sm₂).trans sm₃).trans sm₄).trans ⟨sm₅.gens,sm₅.drawn,sm₅.os⟩)
 exact (hs.mono fun q hq=>.tail _ (leC.imm q (le₁.imm q hq))).snoc (.head _)
end
end
section
section
variable {w:World}{mean:ExcName→Option Value}{mg mb:Str→Option Value}{n:Nat}{ρ:Rho}{X:FX}{D D₀:Led}{st:St}{s s₀:Shared}{loc:Locs}{lst rest:List (List AV)}{items:List AV}{cb cy:Addr}
theorem SymV.last {imm:List (Addr×Obj)}{r:List AV}{l:List Sy} (h:SymV imm r l) (hl:0<l.length):∃ a sy t t' k,r[r.length-1]?=some (.val (.ref a))∧(a,({cls:=.type "tuple",data:=.seq #[.int sy.1 t,.str (S sy.2) t'] k}:Obj))∈imm∧sy∈l∧l[l.length-1]?=some sy:=by
 induction h with
 | nil=>exact absurd hl (Nat.lt_irrefl 0)
 | @cons a i t x t' k r l m h ih =>
  by_cases q:l=[]
  ·subst q
   cases h
   exact ⟨a,(i,x),t,t',k,rfl,m,.head _,rfl⟩
  ·have hl':0<l.length:=List.length_pos_iff.mpr q
   obtain ⟨a',sy,u,u',k',e1,e2,e3,e4⟩:=ih hl'
   have hlen:=h.len
   refine ⟨a',sy,u,u',k',?_,e2,.tail _ e3,?_⟩
   ·rw [List.length_cons,show r.length+1-1=(r.length-1)+1 by lia];exact e1
   ·rw [List.length_cons,show l.length+1-1=(l.length-1)+1 by lia];exact e4
theorem vrs_at {l:List AV}{vs:List Value} (V:VRs ρ D l vs):∀ {i:Nat}{u:Value},l[i]?=some (.val u)→vs[i]?=some u:=by
 induction l generalizing vs with
 | nil=>intro i u h;simp at h
 | cons a l ih =>
  intro i u h
  refine e23 (V.consI) ?_;clear V;intro v r V1 V2 Y4;subst Y4
  cases i with
  | zero=>(have Y0:=s1 h;try clear h;subst Y0);rw [V1.valI];rfl
  | succ i=>exact ih V2 (by simpa using h)
theorem last_ok (L:LawX X cb cy) (hX:X.Ok w mean mg mb ρ) (hr:Room X 133) {its:List AV}{syms:List Sy}{ix:Expr}{p0 p1 p2 p3:Pos}{k:Nat}{pre:List (List AV)}{Q:Value→Shared→Prop} (hpre:pre.length=1) (hn:evName T0 X.cs ⟨loc,pre++[its]⟩ (S symbolsN)=some (.loc 1))
  (hix:(recs T0 60).ev X.cs ⟨loc,pre++[its]⟩ ix=some (.int (.lit (-1)),⟨loc,pre++[its]⟩)) (hsl:∀ a b c p,ix≠.Slice a b c p) (hs:SymV D.imm its syms) (hok:∀ sy∈syms,SyOk sy) (h0:0<syms.length) (h1:syms.length≤100) (I:Inv ρ X D ⟨loc,pre++[its]⟩ s)
  (h:∀ D' s' P t,D.le D'→Inv ρ X D' ⟨loc,pre++[its]⟩ s'→0≤P→P<pow64→Same s s'→Q (.int P t) s') :
  wpAny (model pw w) X.A (eval (.Subscript (.Subscript (.Name (S symbolsN) p0) ix p1) (.Constant (.int 0) k p2) p3) X.env) Q F0 s:=by
 have HT:=(T0_all w mean mg mb).toTabsOk
 have R:=recs_ok (T0_all w mean mg mb) 60
 refine Subscript_ (Subscript_ (name_ok HT hX hn I fun D₁ v₁ s₁ le₁ I₁ V₁ sm₁=>R.1 _ _ _ _ _ hix ρ X D₁ s₁ _ rfl hX (hr.down (by decide)) I₁ fun D₂ v₂ s₂ le₂ I₂ V₂ sm₂=>?_))
 refine e12 (V₁.locI) ?_;clear V₁;intro a₁ e₁ Y2;subst Y2
 refine e11 (V₂.intI) ?_;clear V₂;intro t₂ Y1;subst Y1
 refine e21 (id I₂) ?_;intro m P J
 refine e23 (J.lad_get (i:=1) (l:=its) (by rw [← hpre];simp) (le₂.lad _ _ e₁)) ?_;clear J hpre;intro vs kk _ hvs hg
 obtain ⟨a,sy,t,t',k',g1,g2,g3,_⟩:=(hs.mono fun q hq=>(le₁.trans le₂).imm q hq).last h0
 have g4:=vrs_at hvs g1
 have hil:=hs.len
 have hvl:=hvs.length
 refine tail_any (T:="list") ⟨_,hg,rfl⟩ slot_list_getitem.lookup (wpAny_getItem_list_neg (k:=(-1:Int)) ⟨_,hg,rfl,_,rfl⟩ (by decide) (by rw [List.size_toArray];lia) (by decide) (x:=.ref a) (by
  rw [List.size_toArray,show ((-1:Int)+(vs.length:Nat)).toNat=its.length-1 by lia];simpa using g4) ?_) (sub_ok hsl _ _)
 refine wpAny_Constant_int ?_
 have I₃:=I₂.add (s₂.toks+1)
 have hgt:=I₃.fx_obj (p:=(a,_)) (zL _ g2)
 refine tail_any (T:="tuple") ⟨_,hgt,rfl⟩ slot_tuple_getitem.lookup (PyProof.Rows.getItem_tuple (k:=((0:Nat):Int)) (j:=0) ⟨_,hgt,rfl,_,rfl⟩ (by (exact Int.natCast_nonneg _)) (by (exact Int.natCast_nonneg _)) (seqIdx (by show 0<2;decide)) rfl ?_) (sub_ok (fun _ _ _ _ h=>by cases h) _ _)
 have:=hok sy g3
 exact h D₂ _ sy.1 t (le₁.trans le₂) I₃ this.1 this.2.1 ((sm₁.trans sm₂).trans ⟨rfl,rfl,rfl⟩)
theorem spot_ok (L:LawX X cb cy) (hX:X.Ok w mean mg mb ρ) (hr:Room X 133) (hb:BagIn X D cb) {la:Value}{i:Nat}{N:Int}{its:List AV}{syms:List Sy}{Q:Flow→Shared→Prop} (hi:i≤100) (hs:SymV D.imm its syms) (hok:∀ sy∈syms,SyOk sy) (hl:syms.length=i)
  (I:Inv ρ X D ⟨la2 la i,[[.int (.ext N)],its]⟩ s)
  (h:∀ D' s' N' P t,D.le D'→Inv ρ X D' ⟨la3 la i (.int P t),[[.int (.ext N')],its]⟩ s'→0≤P→P<pow64→Same s s'→Q .next s') :
  wpAny (model pw w) X.A (exec (l2b 0) X.env) Q F0 s:=by
 have R:=recs_ok (T0_all w mean mg mb) 60
 have hn:∀ N,evName T0 X.cs ⟨la2 la i,[[.int (.ext N)]]++[its]⟩ (S symbolsN)=some (.loc 1):=fun N=>by rw [L.cs];rfl
 have he:∀ N,(recs T0 60).ev X.cs ⟨la2 la i,[[.int (.ext N)]]++[its]⟩ (v2B0 (l2b 0)).idx=some (.int (.lit (-1)),⟨la2 la i,[[.int (.ext N)]]++[its]⟩):=fun N=>by rw [L.cs];exact eix la i N its
 have h0:=e0t la i N its
 have hst:∀ (D':Led) (s':Shared) (N' P:Int) (t:Tok),D.le D'→Inv ρ X D' ⟨la2 la i,[[.int (.ext N')],its]⟩ s'→0≤P→P<pow64→Same s s'→wpAny (model pw w) X.A (storeName X.env (S spotN) (.int P t)) (fun _ s'=>Q .next s') F0 s':=fun D' s' N' P t le I' hp0 hp1 sm =>
  store_ok (x:=S spotN) hX (by rw [L.cs];rfl) I' (.val (.int P t)) fun s'' I'' sm''=>h D' s'' N' P t le I'' hp0 hp1 (sm.trans sm'')
 have hsl:∀ a b c p,(v2B0 (l2b 0)).idx≠.Slice a b c p:=by
  intro a b c p hc
  have:=he 0
  rw [hc] at this
  exact absurd this (by show ¬ (none=some _);exact fun h=>nomatch h)
 rw [lw20]
 generalize (v2B0 (l2b 0)).idx=ix at he hsl ⊢
 generalize (v2B0 (l2b 0)).e0=e0 at h0 ⊢
 generalize b0p=pp
 generalize (v2B0 (l2b 0)).k=kk
 clear h
 have place:∀ (D':Led) (s':Shared) (N':Int),D.le D'→Inv ρ X D' ⟨la2 la i,[[.int (.ext N')],its]⟩ s'→Same s s'→wpAny (model pw w) X.A (eval (.Call (.Name (S lawPlaceN) (pp 14)) [.Name (S bagN) (pp 15)] [] (pp 16)) X.env) (fun v s'=>wpAny (model pw w) X.A (storeName X.env (S spotN) v) (fun _ s'=>Q .next s') F0 s') F0 s':=fun D' s' N' le I' sm =>
  place_call (rest:=[its]) L hX hr (hb.mono le) I' fun N'' D'' s'' p t le'' I'' h0' h1' sm''=>hst D'' s'' N'' p t (le.trans le'') I'' h0' h1' (sm.trans sm'')
 refine wpAny_Assign_Name (wpAny_IfExp (isTrue_and (R.2.1 _ _ _ _ _ (by rw [L.cs];exact h0) ρ X D s _ rfl hX (hr.down (by decide)) I fun D₁ b₁ s₁ le₁ I₁ V₁ sm₁=>?_)))
 obtain rfl:=V₁.uI
 have hc0:(BE.lt (.lit 0) (.extb i 0 100)).den ρ=decide ((0:Int)<i):=by
  show ltB 0 ((IE.extb i 0 100).den ρ)=_
  rw [extb_den (by (exact Int.natCast_nonneg _)) (by lia),ltB_dec]
 rw [hc0]
 by_cases q:(0:Int)<i
 ·rw [decide_eq_true q,if_pos rfl]
  refine isTrue_and (wpAny_isTrue_Compare1 (take_call (rest:=[its]) L hX hr (hb.mono le₁) I₁ (m:=3) (by decide) fun D₂ s₂ t₂ le₂ I₂ sm₂=>wpAny_Constant_int (PyProof.Rows.eq_int (wpAny_truthy_bool ?_))))
  by_cases q2:N % 3=0
  ·rw [q2,beq_self_eq_true,if_pos rfl]
   refine isTrue_and_nil ?_
   rw [if_pos rfl]
   refine last_ok (pre:=[[.int (.ext (N / 3))]]) L hX hr rfl (hn _) (he _) hsl (hs.mono fun p hp=>(le₁.trans le₂).imm p hp) hok (by lia) (by lia) (I₂.add _) fun D₃ s₃ P t le₃ I₃ g0 g1 sm₃=>?_
   exact hst D₃ s₃ (N / 3) P t ((le₁.trans le₂).trans le₃) I₃ g0 g1 ((sm₁.trans sm₂).trans ⟨sm₃.gens,sm₃.drawn,sm₃.os⟩)
  ·rw [beq_eq_false_iff_ne.mpr q2,if_neg zF,if_neg zF]
   exact place D₂ _ (N / 3) (le₁.trans le₂) (I₂.add _) ((sm₁.trans sm₂).trans ⟨rfl,rfl,rfl⟩)
 ·rw [decide_eq_false q,if_neg zF,if_neg zF]
  exact place D₁ s₁ N le₁ I₁ sm₁
end
end
section
section
variable {w:World}{mean:ExcName→Option Value}{mg mb:Str→Option Value}{n:Nat}{ρ:Rho}{X:FX}{D D₀:Led}{st:St}{s s₀:Shared}{loc:Locs}{lst rest:List (List AV)}{items:List AV}{cb cy:Addr}
theorem LawX.with {I:Addr}{o:Obj} (L:LawX X cb cy):LawX (X.with I o) cb cy:=⟨L.cs,L.cl1,L.cl2,L.ne⟩
theorem sym_loop (L:LawX X cb cy) (hX:X.Ok w mean mg mb ρ) (hr:Room X 133) (hb:BagIn X D cb) {la:Value}{N:Int}{Q:Flow→Shared→Prop} (I:Inv ρ X D ⟨la1 la,[[.int (.ext N)],[]]⟩ s)
  (h:∀ D' s' N' its syms,D.le D'→Inv ρ X D' ⟨la1 la,[[.int (.ext N')],its]⟩ s'→SymV D'.imm its syms→(∀ sy∈syms,SyOk sy)→syms.length≤5→Same s s'→Q .next s') :
  wpAny (model pw w) X.A (exec (lwS 2) X.env) Q F0 s:=by
 rw [lw2]
 generalize (v2P (lwS 2)).1=pp
 generalize (v2P (lwS 2)).2.1=kk
 refine wpAny_For (range_take (rest:=[[]]) L hX hr hb I (m:=6) (by decide) fun D₁ It o c s₁ hc le₁ t₁ I₁ sh₁ sm₁=>?_) (fun x=>rfl)
 refine gen_loop t₁ (fun i D' st=>D₁.le D'∧∃ N its syms,st=⟨la1 la,[[.int (.ext N)],its]⟩∧SymV D'.imm its syms∧(∀ sy∈syms,SyOk sy)∧syms.length=i) (fun i v o' D' st' s' Qn hi pv le ok I' sh' hq=>?_) ⟨Led.le.refl _,N / 6,[],[],rfl,.nil,(fun _ h=>absurd h List.not_mem_nil),rfl⟩ I₁ sh₁ (fun D' st' s' le ok I' sm=>?_)
 ·obtain ⟨le1,N',its,syms,rfl,hs,hok,hl⟩:=ok
  refine e11 (pv) ?_;try clear pv;intro t Y1;subst Y1
  have hXw:=okWith (I:=It) (o:=o') hX
  have Lw:=L.with (I:=It) (o:=o')
  have hbw:BagIn (X.with It o') D' cb:=(hb.mono (le₁.trans le1)).up fun p hp=>.tail _ hp
  refine wpAny_pure (bind_ok (X:=X.with It o') hXw (by rw [Lw.cs];rfl) I' (int_ext (c:=(i:Int)) t (by (exact Int.natCast_nonneg _)) (by lia)) fun s₅ I₅ sm₅=>?_)
  have I₅:Inv ρ (X.with It o') D' ⟨la2 la i,[[.int (.ext N')],its]⟩ s₅:=I₅
  have hil:=hs.len
  refine wpAny_execs_cons (spot_ok (X:=X.with It o') Lw hXw hr hbw (by lia) hs hok hl I₅ fun D₆ s₆ N₆ P t₆ le₆ I₆ hp0 hp1 sm₆=>wpAny_execs_cons (sym_put (X:=X.with It o') Lw hXw hr (hbw.mono le₆) rfl ⟨hp0,hp1⟩ (by lia) (hs.mono le₆.imm) I₆ fun D₇ s₇ N₇ its₇ x le₇ I₇ hs₇ hx sm₇=>wpAny_execs_nil ⟨rfl,?_⟩))
  refine hq D₇ ⟨la1 la,[[.int (.ext N₇)],its₇]⟩ s₇ (le₆.trans le₇) ⟨(le1.trans le₆).trans le₇,N₇,its₇,_,rfl,hs₇,fun sy hsy=>?_,by rw [List.length_append,hl];rfl⟩ (I₇.reloc ?_) ((sm₅.trans sm₆).trans sm₇)
  ·rcases zA hsy with z|z
   ·exact hok sy z
   ·rw [zS z];exact ⟨hp0,hp1,hx⟩
  ·exact .cons (by rfl) AVeq.rfl' (.cons (by rfl) AVeq.rfl' .nil)
 ·obtain ⟨le1,N',its,syms,rfl,hs,hok,hl⟩:=ok
  exact h D' s' N' its syms (le₁.trans le) I' hs hok (by lia) (sm₁.trans sm)
end
end
section
theorem g_bag:evFn T0 s712.1 (S lawBagN)=some (.top 653):=by kernel_rfl
noncomputable def plainL:Locs→Bool
 | []=>true
 | (_,.val _)::r=>plainL r
 | _=>false
theorem plainL_ok {ρ ρ':Rho}{D D':Led}:∀ {l:Locs},plainL l=true→∀ x b,lkL l x=some b→∀ v,VR ρ D b v→VR ρ' D' b v
 | [],_,_,_,h,_,_=>nomatch h
 | (y,.val u)::r,h,x,b,e,v,V=>by
  rw [lkL_cons] at e
  cases q:lnBeq y x with
  | true=>rw [q] at e;(have Y0:=s1 e;try clear e;subst Y0);rw [V.valI];exact .val u
  | false=>rw [q] at e;exact plainL_ok (l:=r) h x b e v V
section
variable {w:World}{mean:ExcName→Option Value}{mg mb:Str→Option Value}{n:Nat}{ρ ρ':Rho}{X:FX}{D D₀:Led}{st:St}{s s₀:Shared}{loc:Locs}{lst rest:List (List AV)}{items:List AV}{cb cy:Addr}
theorem Inv.rebase {N:Int}{imm:List (Addr×Obj)}{lad:List Addr} (I:Inv ρ X ⟨imm,lad⟩ ⟨loc,[[.int (.ext N)]]⟩ s) (h:plainL loc=true) (hx:List (Addr×Obj)) :
  Inv ρ' {X with fx:=imm++X.fx,hx:=hx} ⟨[],lad⟩ ⟨loc,[[.int (.ext N)]]⟩ s:=by
 refine e21 (I) ?_;clear I;intro m P J
 refine ⟨m,P,J.F,J.N,fun x b e=>?_,?_,J.ad,J.nd,J.dj,fun p hp=>nomatch hp⟩
 ·refine e12 (J.loc x b e) ?_;intro v g1 g2
  (exact (i12 v g1 (plainL_ok h x b e v g2)))
 ·have hls:=J.ls
  generalize P=P at hls
  cases hls with|cons x y =>
  cases y
  refine e23 (x.consI) ?_;clear x;intro v r V1 V2 Y4;subst Y4
  (have Y:=V2.nilI;clear V2;subst Y)
  refine e11 (V1.intI) ?_;clear V1;intro t Y1;subst Y1
  exact .cons (.cons (.int (.ext N) t) .nil) .nil
theorem copy_ok {a:Addr}{vs:List Value}{k:Nat}{Q:Value→Shared→Prop} (I:Inv ρ X D st s) (hm:(a,lObj vs k)∈D.imm) (hl:vs.length≤1000)
  (h:∀ D' b c s',D.le D'→D'.lad=D.lad→(b,lObj vs c)∈D'.imm→Inv ρ X D' st s'→Same s s'→Q (.ref b) s'):wpAny (model pw w) X.A (call (.type "list") [.ref a]) Q F0 s:=by
 refine e21 (I) ?_;clear I;intro m P J
 refine kup_listOf (zs:=vs) (its2:=vs.toArray) (n2:=k) J.F J.N (zR _ (zL _ hm)) (by simp) (fun b c h' F' N' lt=>?_) (by simp;show _≤16777216;(exact Nat.le_trans (by assumption) (by decide)))
 exact h _ b c _ (Led.le_imm D _) rfl (.head _) ⟨m,P,J.pushAt _ _ lt F' N'⟩ ⟨rfl,rfl,rfl⟩
end
end
section
noncomputable def rho0:Rho:=⟨fun _=>0,fun i=>match i with
 | 0=>hexL
 | 3=>digitL
 | _=>fun _=>[],fun _=>[],fun _=>.none⟩
noncomputable def rho2 (a:Addr) (syms:List Sy):Rho:=⟨fun _=>0,fun i=>match i with
 | 0=>hexL
 | 1=>toldL syms
 | 3=>digitL
 | _=>fun _=>[],fun _=>[],fun _=>.ref a⟩
noncomputable abbrev FX.re2 (X:FX) (f hx:List (Addr×Obj)):FX:={X with fx:=f,hx:=hx}
structure Ph (w:World) (mean:ExcName→Option Value) (mg mb:Str→Option Value) (X:FX) (ρ:Rho) (D:Led) (cb cy a hd:Addr) (vs:List Value) (k c:Nat) (syms:List Sy):Prop where
 L:LawX X cb cy
 ok:X.Ok w mean mg mb ρ
 bag:BagIn X D cb
 sym:SymOf ρ X.hx a vs k syms
 held:(hd,lObj vs c)∈X.fx
 hne:∀ p∈X.hx,p.1≠cy
 hneH:hd≠cy
noncomputable def la4 (la:Value) (a hd:Addr):Locs:=[(scriptN,.val la),(symbolsN,.val (.ref a)),(heldN,.val (.ref hd))]
theorem lw1 (la:Value) (N:Int):(recs T0 60).exs s712.1 ⟨[(scriptN,.val la)],[[.int (.ext N)]]⟩ [lwS 1] []=some (.next ⟨la1 la,[[.int (.ext N)],[]]⟩):=by kernel_rfl
section
variable {w:World}{mean:ExcName→Option Value}{mg mb:Str→Option Value}{n:Nat}{ρ ρ':Rho}{X:FX}{D D₀:Led}{st:St}{s s₀:Shared}{loc:Locs}{lst rest:List (List AV)}{items:List AV}{cb cy:Addr}
theorem cell_set {c:Addr}{o:Obj}{x:List Nat}{v:Value}{Q:Unit→Shared→Prop} (hX:X.Ok w mean mg mb ρ) (hk:X.env.kindOf (S x)=some .cell) (hc:X.cl.lookup (S x)=some c) (hm:(c,o)∈X.fx) (hd:o.data=.cell none) (hx:∀ p∈X.hx,p.1≠c) (I:Inv ρ X D st s)
  (h:∀ f' s',(X.re2 f' X.hx).Ok w mean mg mb ρ→CellIs (X.re2 f' X.hx) c v→(∀ p∈X.fx,p.1≠c→p∈f')→Inv ρ (X.re2 f' X.hx) D st s'→Same s s'→Q () s') :
  wpAny (model pw w) X.A (storeName X.env (S x) v) Q F0 s:=by
 have hg:=I.fx_obj (p:=(c,o)) (zR _ hm)
 refine wpAny_storeName_cell hX.k hk hc ⟨o,hg,hd⟩ fun h' hv hs=>?_
 refine e12 (hv) ?_;clear hv;intro o' ho' hd'
 have hf:∀ q∈(c,o')::X.fx.filter (fun p=>!(p.1==c)),q=(c,o')∨(q∈X.fx∧q.1≠c):=fun q hq=>by
  (refine zO (zC hq) ?qa0 ?qb0;(case' qb0=>intro z);(case' qa0=>intro z))
  ·exact .inl z
  ·refine e02 (List.mem_filter.mp z) ?_;intro z1 z2
   exact .inr ⟨z1,fun e=>by rw [e] at z2;simp at z2⟩
 have back:∀ p∈X.fx,p.1≠c→p∈(c,o')::X.fx.filter (fun p=>!(p.1==c)):=fun p hp hne=>.tail _ (List.mem_filter.mpr ⟨hp,by simp [hne]⟩)
 refine h ((c,o')::X.fx.filter (fun p=>!(p.1==c))) _ ⟨hX.B,hX.K,hX.T,hX.k,fun p hp=>back p (hX.held p hp) (hx p hp),hX.sym⟩ ⟨o',.head _,hd'⟩ back ?_ ⟨rfl,rfl,rfl⟩
 refine Inv.put (X:=X) (f:=X.fx) (tk:=s.toks) I (fun q hq=>?_) (fun b y hb e=>(hs.2 b fun e'=>hb (e'▸List.mem_map_of_mem hm)).trans e) (fun q hq=>?_)
 ·(refine zO (hf q hq) ?qa1 ?qb1;(case' qb1=>intro z);(case' qa1=>intro Y0;subst Y0))
  ·exact List.mem_map.mpr ⟨(c,o),hm,rfl⟩
  ·exact List.mem_map_of_mem z.1
 ·(refine zO (hf q hq) ?qa2 ?qb2;(case' qb2=>clear hf hq;intro z);(case' qa2=>clear hf hq;intro Y0;subst Y0))
  ·exact ho'
  ·exact (hs.2 _ z.2).trans (I.fx_obj (zR _ z.1))
theorem pro_ok {oy ob:Obj}{la:Addr}{vs:List Value}{ns:List Int}{Q:Flow→Shared→Prop}{tail:List Stmt} (L:LawX X cb cy) (hfx:X.fx=[(cy,oy),(cb,ob)]) (hxx:X.hx=[]) (hoy:oy.data=.cell none) (hob:ob.data=.cell none) (hX:X.Ok w mean mg mb rho0) (hr:Room X 140) (hi:IntsAre vs ns) (hn:ns.length≤100) (hl:X.h₀.IsList la vs.toArray)
  (I:Inv rho0 X ⟨[],[]⟩ ⟨[(scriptN,.val (.ref la))],[]⟩ s)
  (h:∀ f2 hx2 ρ2 D' a hd vs' k c syms N s',Ph w mean mg mb (X.re2 f2 hx2) ρ2 D' cb cy a hd vs' k c syms→(cy,oy)∈f2→Inv ρ2 (X.re2 f2 hx2) D' ⟨la4 (.ref la) a hd,[[.int (.ext N)]]⟩ s'→Same s s'→wpAny (model pw w) X.A (execs tail X.env) Q F0 s') :
  wpAny (model pw w) X.A (execs (lwS 0::lwS 1::lwS 2::lwS 3::tail) X.env) Q F0 s:=by
 have HT:=(T0_all w mean mg mb).toTabsOk
 have hkb:X.env.kindOf (S bagN)=some .cell:=by show X.cs.names.lookup (S bagN)=_;rw [L.cs];exact k_bag
 have hbc:(cb,ob)∈X.fx:=by rw [hfx];exact .tail _ (.head _)
 have hyc:(cy,oy)∈X.fx:=by rw [hfx];exact .head _
 rw [lw0]
 refine wpAny_execs_cons (wpAny_Assign_Name (Call_ (fn_ok HT hX (av:=.top 653) (by rw [L.cs];exact g_bag) I fun D₁ v₁ s₁ le₁ I₁ V₁ sm₁=>?_)))
 obtain rfl:=V₁.topI
 refine callWith_K hX.K (keep_ok HT g_bag) (args_cons (name_ok HT hX (av:=.val (.ref la)) (by rw [L.cs];rfl) I₁ fun D₂ v₂ s₂ le₂ I₂ V₂ sm₂=>args_nil ⟨hX.K.keeps I₂.hk,?_⟩))
 obtain rfl:=V₂.valI
 refine bag_fn hi hn hl hX (hr.down (by decide)) I₂ (.top 653) fun N D₃ s₃ v₃ le₃ I₃ V₃ sm₃=>?_
 refine e12 (V₃.locI) ?_;clear V₃;intro ba e₃ Y2;subst Y2
 refine cell_set hX hkb L.cl1 hbc hob (by rw [hxx];exact fun _ h=>nomatch h) I₃ fun f4 s₄ hX₄ hc₄ hk₄ I₄ sm₄=>?_
 have hy₄:(cy,oy)∈f4:=hk₄ _ hyc (Ne.symm L.ne)
 have L₄:LawX (X.re2 f4 X.hx) cb cy:=⟨L.cs,L.cl1,L.cl2,L.ne⟩
 have hb₄:BagIn (X.re2 f4 X.hx) D₃ cb:=⟨ba,hc₄,e₃⟩
 have smA:=((sm₁.trans sm₂).trans sm₃).trans sm₄
 show wpAny _ _ (execs ([lwS 1]++(lwS 2::lwS 3::tail)) _) _ _ _
 refine execs_app (exs_two (X:=X.re2 f4 X.hx) (m:=60) (T0_all w mean mg mb) hX₄ (hr.down (by decide)) L₄.cs (lw1 (.ref la) N) I₄ fun D₅ s₅ le₅ I₅ sm₅=>?_)
 refine wpAny_execs_cons (sym_loop (X:=X.re2 f4 X.hx) L₄ hX₄ (hr.down (by decide)) (hb₄.mono le₅) I₅ fun D₆ s₆ N₆ its syms le₆ I₆ hsy hok h5 sm₆=>?_)
 have hlen:=I₆.lad_len
 obtain ⟨a,ha⟩:∃ a,D₆.lad[1]?=some a:=⟨_,List.getElem?_eq_getElem (by rw [hlen];show 1<2;decide)⟩
 refine e34 (Inv.freeze (X:=X.re2 f4 X.hx) (base:=[[.int (.ext N₆)]]) (l':=[(scriptN,.val (.ref la)),(symbolsN,.val (.ref a))]) I₆ rfl) ?_;clear I₆;intro a' vs' k hv ha' le₇ hq
 have:a'=a:=Option.some.inj (ha'.symm.trans ha)
 subst this
 have I₇:=hq fun x b e=>by
  rw [lkL_cons] at e
  cases q:lnBeq scriptN x with
  | true =>
   rw [q] at e;(have Y0:=s1 e;try clear e;subst Y0)
   (exact (i12 (.val (.ref la)) (by rw [← lnBeq_eq q];rfl) (fun v V=>by rw [V.valI];exact .val _)))
  | false =>
   rw [q,cond_false,lkL_cons] at e
   cases q2:lnBeq symbolsN x with
   | true =>
    rw [q2] at e;(have Y0:=s1 e;try clear e;subst Y0)
    exact ⟨.loc 1,by rw [← lnBeq_eq q2];rfl,fun v V=>by
     refine e12 (V.locI) ?_;clear V;intro b hb Y2;subst Y2
     have hb:D₆.lad[1]?=some b:=hb
     rw [ha] at hb;(have Y0:=s1 hb;try clear hb;subst Y0);exact .val _⟩
   | false=>rw [q2] at e;exact xNS e
 have hsv:=hsy.are hv
 have hvl:=hsv.len
 have hba:D₆.lad[0]?=some ba:=le₆.lad _ _ (le₅.lad _ _ e₃)
 have hb₇:BagIn (X.re2 f4 X.hx) ⟨(a',lObj vs' k)::D₆.imm,D₆.lad.take [[AV.int (.ext N₆)]].length⟩ cb:=⟨ba,hc₄,by
  rw [List.getElem?_take];exact hba⟩
 have sm₇:=(smA.trans sm₅).trans sm₆
 rw [lw3]
 refine wpAny_execs_cons (wpAny_Assign_Name (Call_ (fn_ok (X:=X.re2 f4 X.hx) HT hX₄ (av:=.bi 7) (by show evFn T0 X.cs _=_;rw [L.cs];exact g_list) I₇ fun D₈ v₈ s₈ le₈ I₈ V₈ sm₈=>?_)))
 obtain rfl:=V₈.biI
 refine PyProof.Rows.callWith_type1 (T:="list") (args_cons (name_ok (X:=X.re2 f4 X.hx) HT hX₄ (av:=.val (.ref a')) (by show evName T0 X.cs _ _=_;rw [L.cs];rfl) I₈ fun D₉ v₉ s₉ le₉ I₉ V₉ sm₉=>args_nil ?_))
 obtain rfl:=V₉.valI
 have hm₉:(a',lObj vs' k)∈D₉.imm:=le₉.imm _ (le₈.imm _ (.head _))
 refine copy_ok (X:=X.re2 f4 X.hx) I₉ hm₉ (by lia) fun D₁₀ hd c s₁₀ le₁₀ hlad₁₀ hhd I₁₀ sm₁₀=>?_
 refine store_ok (X:=X.re2 f4 X.hx) (x:=S heldN) hX₄ (by show isLocal X.cs _=true;rw [L.cs];rfl) I₁₀ (.val (.ref hd)) fun s₁₁ I₁₁ sm₁₁=>?_
 have le₁₁:=(le₈.trans le₉).trans le₁₀
 have hb₁₁:=hb₇.mono le₁₁
 obtain ⟨imm,lad⟩:=D₁₀
 have I₁₂:=Inv.rebase (ρ':=rho2 a' syms) I₁₁ (by rfl) imm
 have hsv₂:SymVs imm vs' syms:=hsv.mono fun p hp=>le₁₁.imm p (.tail _ hp)
 have hma:(a',lObj vs' k)∈imm:=le₁₀.imm _ hm₉
 have hfd:∀ p∈imm,p.1≠cy:=fun p hp=>by
  refine e21 (id I₁₁) ?_;clear I₁₁;intro m P J
  exact J.fd p hp (cy,oy) hy₄
 refine h (imm++f4) imm (rho2 a' syms) ⟨[],lad⟩ a' hd vs' k c syms N₆ s₁₁ ⟨⟨L.cs,L.cl1,L.cl2,L.ne⟩,⟨hX.B,hX.K,hX.T,hX.k,fun p hp=>zL _ hp,⟨rfl,rfl,fun la' e=>?_⟩⟩,?_,⟨rfl,hma,hsv₂,hok,h5,rfl⟩,zL _ hhd,hfd,hfd _ hhd⟩ (zR _ hy₄) I₁₂ ?_
 ·have:la'=a':=by
   have e:Value.ref a'=Value.ref la':=e
   cases e;rfl
  subst this
  (exact (i35 vs' k syms hma hsv₂ hok h5 rfl))
 ·refine e12 (hb₁₁) ?_;clear hb₁₁;intro ba' hc' hl'
  (exact (i12 ba' (hc'.up fun p hp=>zR _ hp) hl'))
 ·exact ((((sm₇.trans sm₈).trans sm₉).trans sm₁₀).trans sm₁₁)
end
end
section
noncomputable def forP (zs:Stmt):Pos×Pos×Expr×List Stmt:=((atP zs 1),(atP zs 0),(atE zs 2),(atB zs 0))
noncomputable def l4b (i:Nat):Stmt:=(forP (lwS 4)).2.2.2.getD i (.Pass ⟨0,0,0,0⟩)
noncomputable def c1P (zs:Stmt):List Pos×List Nat×Expr×Expr:=((atL zs [266369,528513,4225,8321,129,1,85,266389,4245,8341,149,21,0]),[(atK zs 8321),(atK zs 8341)],(atE zs 65),(atE zs 528533))
noncomputable def c2P (zs:Stmt):List Pos×List Stmt:=((atL zs [4161,270401,532545,794689,8257,65,4225,8321,12417,129,1,0]),(atB zs 0))
noncomputable def c0p (i:Nat):Pos:=at0 (v0P (l4b 0)) i
noncomputable def c1p (i:Nat):Pos:=at0 (c1P (l4b 1)).1 i
noncomputable def c2p (i:Nat):Pos:=at0 (c2P (l4b 2)).1 i
theorem lw4:lwS 4=.For (.Name (S turnN) (forP (lwS 4)).1) (forP (lwS 4)).2.2.1 [l4b 0,l4b 1,l4b 2] [] (forP (lwS 4)).2.1:=by kernel_rfl
theorem lw40:l4b 0=.Assign [.Name (S placeN) (c0p 0)] (.Call (.Name (S lawPlaceN) (c0p 1)) [.Name (S bagN) (c0p 2)] [] (c0p 3)) (c0p 4):=by kernel_rfl
theorem lw41:l4b 1=.If (.BoolOp .And [(c1P (l4b 1)).2.2.1,.Compare (.Call (.Name (S lenN) (c1p 0)) [.Name (S symbolsN) (c1p 1)] [] (c1p 2)) [.Gt] [.Constant (.int 0) (ks (c1P (l4b 1)).2.1 0) (c1p 3)] (c1p 4)] (c1p 5)) [.Assign [.Name (S placeN) (c1p 6)] (.Subscript (.Subscript (.Name (S symbolsN) (c1p 7)) (c1P (l4b 1)).2.2.2 (c1p 8)) (.Constant (.int 0) (ks (c1P (l4b 1)).2.1 1) (c1p 9)) (c1p 10)) (c1p 11)] [] (c1p 12):=by kernel_rfl
theorem lw42:l4b 2=.If (.Compare (.Call (.Name (S readNearN) (c2p 0)) [.Call (.Name (S nearSymN) (c2p 1)) [.Name (S symbolsN) (c2p 2),.Name (S placeN) (c2p 3)] [] (c2p 4)] [] (c2p 5)) [.NotEq] [.Call (.Name (S nearestN) (c2p 6)) [.Name (S symbolsN) (c2p 7),.Name (S placeN) (c2p 8)] [] (c2p 9)] (c2p 10)) (c2P (l4b 2)).2 [] (c2p 11):=by kernel_rfl
theorem g_read:evFn T0 s712.1 (S readNearN)=some (.top 688):=by kernel_rfl
theorem g_near:evFn T0 s712.1 (S nearSymN)=some (.top 527):=by kernel_rfl
theorem g_nearest:evFn T0 s712.1 (S nearestN)=some (.top 681):=by kernel_rfl
noncomputable def la5 (la:Value) (a hd:Addr) (i:Int):Locs:=la4 la a hd++[(turnN,.int (.extb i 0 100))]
noncomputable def la6 (la:Value) (a hd:Addr) (i:Int) (p:Value):Locs:=la5 la a hd i++[(placeN,.val p)]
theorem e4r (la:Value) (a hd:Addr) (N:Int):(recs T0 60).ev s712.1 ⟨la4 la a hd,[[.int (.ext N)]]⟩ (forP (lwS 4)).2.2.1=some (.rng 0 3 1,⟨la4 la a hd,[[.int (.ext N)]]⟩):=by kernel_rfl
theorem e4t (la:Value) (a hd:Addr) (i:Int) (p:Value) (N:Int):(recs T0 60).tst s712.1 ⟨la6 la a hd i p,[[.int (.ext N)]]⟩ (c1P (l4b 1)).2.2.1=some (.u (.eq (.extb i 0 100) (.lit 0)),⟨la6 la a hd i p,[[.int (.ext N)]]⟩):=by kernel_rfl
theorem e4x (la:Value) (a hd:Addr) (i:Int) (p:Value) (N:Int):(recs T0 60).ev s712.1 ⟨la6 la a hd i p,[[.int (.ext N)]]⟩ (c1P (l4b 1)).2.2.2=some (.int (.lit (-1)),⟨la6 la a hd i p,[[.int (.ext N)]]⟩):=by kernel_rfl
end
section
section
variable {w:World}{mean:ExcName→Option Value}{mg mb:Str→Option Value}{n:Nat}{ρ:Rho}{X:FX}{D D₀:Led}{st:St}{s s₀:Shared}{loc:Locs}{lst rest:List (List AV)}{items:List AV}{cb cy a hd:Addr}{vs:List Value}{k c:Nat}{syms:List Sy}
theorem Ph.mono {D':Led} (p:Ph w mean mg mb X ρ D cb cy a hd vs k c syms) (le:D.le D'):Ph w mean mg mb X ρ D' cb cy a hd vs k c syms:=⟨p.L,p.ok,p.bag.mono le,p.sym,p.held,p.hne,p.hneH⟩
theorem Ph.with {I:Addr}{o:Obj} (p:Ph w mean mg mb X ρ D cb cy a hd vs k c syms):Ph w mean mg mb (X.with I o) ρ D cb cy a hd vs k c syms:=⟨p.L.with,okWith p.ok,p.bag.up fun _ h=>.tail _ h,p.sym,.tail _ p.held,p.hne,p.hneH⟩
theorem Ph.mem (p:Ph w mean mg mb X ρ D cb cy a hd vs k c syms):(a,lObj vs k)∈X.fx:=p.ok.held _ p.sym.mem
theorem len_fx {x:List Nat}{b:Addr}{ws:List Value}{k:Nat}{p1 p2 p3:Pos}{Q:Value→Shared→Prop} (L:LawX X cb cy) (hX:X.Ok w mean mg mb ρ) (hn:evName T0 X.cs st (S x)=some (.val (.ref b))) (I:Inv ρ X D st s) (hm:(b,lObj ws k)∈D.imm++X.fx) (hl:ws.length≤100000)
  (h:∀ D' s' t,D.le D'→Inv ρ X D' st s'→Same s s'→Q (.int (ws.length:Int) t) s'):wpAny (model pw w) X.A (eval (.Call (.Name (S lenN) p1) [.Name (S x) p2] [] p3) X.env) Q F0 s:=by
 have HT:=(T0_all w mean mg mb).toTabsOk
 refine Call_ (fn_ok HT hX (by rw [L.cs];exact g_len) I fun D₁ v₁ s₁ le₁ I₁ V₁ sm₁=>?_)
 obtain rfl:=V₁.biI
 refine callWith_builtin1 (id:="len") (args_cons (name_ok HT hX hn I₁ fun D₂ v₂ s₂ le₂ I₂ V₂ sm₂=>args_nil ?_))
 obtain rfl:=V₂.valI
 refine len_val (k:=k) I₂ ?_ hl fun t tk=>?_
 ·rcases zA hm with z|z
  ·exact zL _ (le₂.imm _ (le₁.imm _ z))
  ·exact zR _ z
 ·exact h D₂ _ t (le₁.trans le₂) (I₂.add tk) ((sm₁.trans sm₂).trans ⟨rfl,rfl,rfl⟩)
theorem last_fx (p:Ph w mean mg mb X ρ D cb cy a hd vs k c syms) (hr:Room X 133) {ix:Expr}{p0 p1 p2 p3:Pos}{kk:Nat}{Q:Value→Shared→Prop} (hn:evName T0 X.cs ⟨loc,lst⟩ (S symbolsN)=some (.val (.ref a)))
  (hix:(recs T0 60).ev X.cs ⟨loc,lst⟩ ix=some (.int (.lit (-1)),⟨loc,lst⟩)) (hsl:∀ a b c p,ix≠.Slice a b c p) (h0:0<syms.length) (I:Inv ρ X D ⟨loc,lst⟩ s)
  (h:∀ D' s' P t,D.le D'→Inv ρ X D' ⟨loc,lst⟩ s'→0≤P→P<pow64→Same s s'→Q (.int P t) s') :
  wpAny (model pw w) X.A (eval (.Subscript (.Subscript (.Name (S symbolsN) p0) ix p1) (.Constant (.int 0) kk p2) p3) X.env) Q F0 s:=by
 have HT:=(T0_all w mean mg mb).toTabsOk
 have R:=recs_ok (T0_all w mean mg mb) 60
 refine Subscript_ (Subscript_ (name_ok HT p.ok hn I fun D₁ v₁ s₁ le₁ I₁ V₁ sm₁=>R.1 _ _ _ _ _ hix ρ X D₁ s₁ _ rfl p.ok (hr.down (by decide)) I₁ fun D₂ v₂ s₂ le₂ I₂ V₂ sm₂=>?_))
 obtain rfl:=V₁.valI
 refine e11 (V₂.intI) ?_;clear V₂;intro t₂ Y1;subst Y1
 have hg:=I₂.fx_obj (p:=(a,lObj vs k)) (zR _ p.mem)
 have hvl:=p.sym.vs.len
 have h5:=p.sym.len
 refine e42 (p.sym.vs.get (i:=syms.length-1) (by lia)) ?_;intro b t t' k' g1 g2
 have g1:vs[syms.length-1]?=some (.ref b):=by
  rw [List.getD_eq_getElem?_getD] at g1
  cases e:vs[syms.length-1]? with
  | none =>
   have:vs.length≤syms.length-1:=by simpa using e
   lia
  | some y=>rw [e] at g1;exact congrArg some g1
 refine tail_any (T:="list") ⟨_,hg,rfl⟩ slot_list_getitem.lookup (wpAny_getItem_list_neg (k:=(-1:Int)) ⟨_,hg,rfl,_,rfl⟩ (by decide) (by rw [List.size_toArray];lia) (by decide) (x:=.ref b) (by
  rw [List.size_toArray,show ((-1:Int)+(vs.length:Nat)).toNat=syms.length-1 by lia];simpa using g1) ?_) (sub_ok hsl _ _)
 refine wpAny_Constant_int ?_
 have I₃:=I₂.add (s₂.toks+1)
 have hgt:=I₃.fx_obj (p:=(b,_)) (zR _ (p.ok.held _ g2))
 refine tail_any (T:="tuple") ⟨_,hgt,rfl⟩ slot_tuple_getitem.lookup (PyProof.Rows.getItem_tuple (k:=((0:Nat):Int)) (j:=0) ⟨_,hgt,rfl,_,rfl⟩ (by (exact Int.natCast_nonneg _)) (by (exact Int.natCast_nonneg _)) (seqIdx (by show 0<2;decide)) rfl ?_) (sub_ok (fun _ _ _ _ h=>by cases h) _ _)
 have hmem:syms.getD (syms.length-1) (0,[])∈syms:=by
  rw [List.getD_eq_getElem?_getD,List.getElem?_eq_getElem (by lia)]
  exact List.getElem_mem _
 have:=p.sym.ok _ hmem
 exact h D₂ _ _ t (le₁.trans le₂) I₃ this.1 this.2.1 ((sm₁.trans sm₂).trans ⟨rfl,rfl,rfl⟩)
theorem agree_ok (p:Ph w mean mg mb X ρ D cb cy a hd vs k c syms) (hr:Room X 133) {la:Value}{i N P:Int}{t:Tok}{Q:Flow→Shared→Prop} (hP:0≤P∧P<pow64) (I:Inv ρ X D ⟨la6 la a hd i (.int P t),[[.int (.ext N)]]⟩ s)
  (h:∀ D' s',D.le D'→Inv ρ X D' ⟨la6 la a hd i (.int P t),[[.int (.ext N)]]⟩ s'→Same s s'→Q .next s'):wpAny (model pw w) X.A (exec (l4b 2) X.env) Q F0 s:=by
 have HT:=(T0_all w mean mg mb).toTabsOk
 have n1:evName T0 X.cs ⟨la6 la a hd i (.int P t),[[.int (.ext N)]]⟩ (S symbolsN)=some (.val (.ref a)):=by rw [p.L.cs];rfl
 have n2:evName T0 X.cs ⟨la6 la a hd i (.int P t),[[.int (.ext N)]]⟩ (S placeN)=some (.val (.int P t)):=by rw [p.L.cs];rfl
 rw [lw42]
 generalize c2p=pp
 generalize (c2P (l4b 2)).2=bd
 generalize la6 la a hd i (.int P t)=lc at *
 have ho:=p.sym.o
 refine wpAny_If (wpAny_isTrue_Compare1 (Call_ (fn_ok HT p.ok (av:=.top 688) (by rw [p.L.cs];exact g_read) I fun D₁ v₁ s₁ le₁ I₁ V₁ sm₁=>?_)))
 obtain rfl:=V₁.topI
 refine callWith_K p.ok.K (keep_ok HT g_read) (args_cons (Call_ (fn_ok HT p.ok (av:=.top 527) (by rw [p.L.cs];exact g_near) I₁ fun D₂ v₂ s₂ le₂ I₂ V₂ sm₂=>?_)))
 obtain rfl:=V₂.topI
 refine callWith_K p.ok.K (keep_ok HT g_near) (args_cons (name_ok HT p.ok n1 I₂ fun D₃ v₃ s₃ le₃ I₃ V₃ sm₃=>args_cons (name_ok HT p.ok n2 I₃ fun D₄ v₄ s₄ le₄ I₄ V₄ sm₄=>args_nil ⟨p.ok.K.keeps I₄.hk,?_⟩)))
 obtain rfl:=V₃.valI
 obtain rfl:=V₄.valI
 rw [← ho]
 refine near_ok p.sym hP p.ok (hr.down (by decide)) I₄ (.top 527) fun D₅ s₅ t₅ le₅ I₅ sm₅=>args_nil ⟨p.ok.K.keeps I₅.hk,?_⟩
 refine read_ok p.sym.ok hP p.ok (hr.down (by decide)) I₅ (.top 688) fun D₆ s₆ v₆ le₆ I₆ sm₆ V₆=>?_
 refine Call_ (fn_ok HT p.ok (av:=.top 681) (by rw [p.L.cs];exact g_nearest) I₆ fun D₇ v₇ s₇ le₇ I₇ V₇ sm₇=>?_)
 obtain rfl:=V₇.topI
 refine callWith_K p.ok.K (keep_ok HT g_nearest) (args_cons (name_ok HT p.ok n1 I₇ fun D₈ v₈ s₈ le₈ I₈ V₈ sm₈=>args_cons (name_ok HT p.ok n2 I₈ fun D₉ v₉ s₉ le₉ I₉ V₉ sm₉=>args_nil ⟨p.ok.K.keeps I₉.hk,?_⟩)))
 obtain rfl:=V₈.valI
 obtain rfl:=V₉.valI
 rw [← ho]
 refine nearest_ok p.sym hP p.ok (hr.down (by decide)) I₉ (.top 681) fun D₁₀ s₁₀ v₁₀ le₁₀ I₁₀ sm₁₀ V₁₀=>?_
 refine e02 (near_good p.sym.ok hP) ?_;clear p hP;intro hx hg
 refine fnd_ne hx hg (room_units hr) I₁₀ (V₆.mono ((le₇.trans le₈).trans (le₉.trans le₁₀))) V₁₀ (wpAny_truthy_bool (past ?_))
 exact h D₁₀ s₁₀ ((((((((le₁.trans le₂).trans le₃).trans le₄).trans le₅).trans le₆).trans le₇).trans le₈).trans (le₉.trans le₁₀)) I₁₀ ((((((((sm₁.trans sm₂).trans sm₃).trans sm₄).trans sm₅).trans sm₆).trans sm₇).trans sm₈).trans (sm₉.trans sm₁₀))
end
end
section
section
variable {w:World}{mean:ExcName→Option Value}{mg mb:Str→Option Value}{n:Nat}{ρ:Rho}{X:FX}{D D₀:Led}{st:St}{s s₀:Shared}{loc:Locs}{lst rest:List (List AV)}{items:List AV}{cb cy a hd:Addr}{vs:List Value}{k c:Nat}{syms:List Sy}
theorem past_if (p:Ph w mean mg mb X ρ D cb cy a hd vs k c syms) (hr:Room X 133) {la:Value}{i:Nat}{N P:Int}{t:Tok}{Q:Flow→Shared→Prop} (hi:i≤100) (hP:0≤P∧P<pow64) (I:Inv ρ X D ⟨la6 la a hd i (.int P t),[[.int (.ext N)]]⟩ s)
  (h:∀ D' s' P t,D.le D'→0≤P∧P<pow64→Inv ρ X D' ⟨la6 la a hd i (.int P t),[[.int (.ext N)]]⟩ s'→Same s s'→Q .next s'):wpAny (model pw w) X.A (exec (l4b 1) X.env) Q F0 s:=by
 have HT:=(T0_all w mean mg mb).toTabsOk
 have R:=recs_ok (T0_all w mean mg mb) 60
 have n1:evName T0 X.cs ⟨la6 la a hd i (.int P t),[[.int (.ext N)]]⟩ (S symbolsN)=some (.val (.ref a)):=by rw [p.L.cs];rfl
 have h1:=e4t la a hd i (.int P t) N
 have h2:=e4x la a hd i (.int P t) N
 rw [← p.L.cs] at h1 h2
 have hsl:∀ a b c p,(c1P (l4b 1)).2.2.2≠.Slice a b c p:=by
  intro a b c p hc
  rw [hc] at h2
  exact absurd h2 (by show ¬ (none=some _);exact fun h=>nomatch h)
 have hst:∀ (D':Led) (s':Shared) (P':Int) (t':Tok),Inv ρ X D' ⟨la6 la a hd i (.int P t),[[.int (.ext N)]]⟩ s'→D.le D'→0≤P'∧P'<pow64→Same s s'→wpAny (model pw w) X.A (storeName X.env (S placeN) (.int P' t')) (fun _ s'=>Q .next s') F0 s':=fun D' s' P' t' I' le hp sm =>
  store_ok (x:=S placeN) p.ok (by rw [p.L.cs];rfl) I' (.val (.int P' t')) fun s'' I'' sm''=>h D' s'' P' t' le hp I'' (sm.trans sm'')
 rw [lw41]
 generalize c1p=pp
 generalize (c1P (l4b 1)).2.2.2=ix at h2 hsl ⊢
 generalize (c1P (l4b 1)).2.2.1=t1 at h1 ⊢
 generalize (c1P (l4b 1)).2.1=kk
 have hvl:=p.sym.vs.len
 have h5:=p.sym.len
 refine wpAny_If (isTrue_and (R.2.1 _ _ _ _ _ h1 ρ X D s _ rfl p.ok (hr.down (by decide)) I fun D₁ b₁ s₁ le₁ I₁ V₁ sm₁=>?_))
 obtain rfl:=V₁.uI
 have stay:∀ D' s',D.le D'→Inv ρ X D' ⟨la6 la a hd i (.int P t),[[.int (.ext N)]]⟩ s'→Same s s'→Q .next s':=fun D' s' le I' sm=>h D' s' P t le hP I' sm
 cases (BE.eq (.extb i 0 100) (.lit 0)).den ρ with
 | false =>
  rw [if_neg zF]
  exact past (stay D₁ s₁ le₁ I₁ sm₁)
 | true =>
  rw [if_pos rfl]
  refine isTrue_and (wpAny_isTrue_Compare1 (len_fx p.L p.ok n1 I₁ (zR _ p.mem) (by lia) fun D₂ s₂ t₂ le₂ I₂ sm₂=>wpAny_Constant_int (PyProof.Rows.gt_int (wpAny_truthy_bool ?_))))
  by_cases q:(vs.length:Int) > 0
  ·rw [decide_eq_true q,if_pos rfl]
   refine isTrue_and_nil ?_
   rw [if_pos rfl]
   refine wpAny_execs_cons (wpAny_Assign_Name (last_fx (p.mono (le₁.trans le₂)) hr n1 h2 hsl (by lia) (I₂.add _) fun D₃ s₃ P' t' le₃ I₃ g0 g1 sm₃=>?_))
   refine wpAny_mono (hst D₃ s₃ P' t' I₃ ((le₁.trans le₂).trans le₃) ⟨g0,g1⟩ ((sm₁.trans sm₂).trans ⟨sm₃.gens,sm₃.drawn,sm₃.os⟩)) (fun _ _ z=>wpAny_execs_nil z) fun _ _ z=>z
  ·rw [decide_eq_false q,if_neg zF]
   exact past (stay D₂ _ (le₁.trans le₂) (I₂.add _) ((sm₁.trans sm₂).trans ⟨rfl,rfl,rfl⟩))
theorem near_loop (p:Ph w mean mg mb X ρ D cb cy a hd vs k c syms) (hr:Room X 133) {la:Value}{N:Int}{Q:Flow→Shared→Prop} (I:Inv ρ X D ⟨la4 la a hd,[[.int (.ext N)]]⟩ s)
  (h:∀ D' s' N',D.le D'→Inv ρ X D' ⟨la4 la a hd,[[.int (.ext N')]]⟩ s'→Same s s'→Q .next s'):wpAny (model pw w) X.A (exec (lwS 4) X.env) Q F0 s:=by
 have R:=recs_ok (T0_all w mean mg mb) 60
 have hrun:=e4r la a hd N
 rw [← p.L.cs] at hrun
 have hf:∀ x,foldedSetIterable (forP (lwS 4)).2.2.1 X.env x=pure x:=fun x=>by kernel_rfl
 rw [lw4]
 generalize forP (lwS 4)=fp at hrun hf ⊢
 obtain ⟨f1,f2,f3,f4⟩:=fp
 refine wpAny_For (R.1 _ _ _ _ _ hrun ρ X D s _ rfl p.ok (hr.down (by decide)) I fun D₁ v₁ s₁ le₁ I₁ V₁ sm₁=>?_) hf
 have V₁':=V₁
 refine e42 (V₁.rngI) ?_;clear V₁;intro r _ _ _ _ Y5;subst Y5
 refine iter_range (N:=3) I₁ (by decide) V₁' fun It o s₂ t₂ I₂ sh₂ sm₂=>?_
 refine gen_loop t₂ (fun i D' st=>D₁.le D'∧∃ N,st=⟨la4 la a hd,[[.int (.ext N)]]⟩) (fun i v o' D' st' s' Qn hi pv le ok I' sh' hq=>?_) ⟨Led.le.refl _,N,rfl⟩ I₂ sh₂ (fun D' st' s' le ok I' sm=>?_)
 ·obtain ⟨le1,N',rfl⟩:=ok
  refine e11 (pv) ?_;clear pv;intro t Y1;subst Y1
  have pw':=(p.mono (le₁.trans le1)).with (I:=It) (o:=o')
  refine wpAny_pure (bind_ok (X:=X.with It o') pw'.ok (by rw [pw'.L.cs];rfl) I' (int_ext (c:=(i:Int)) t (by (exact Int.natCast_nonneg _)) (by lia)) fun s₅ I₅ sm₅=>?_)
  have I₅:Inv ρ (X.with It o') D' ⟨la5 la a hd i,[[.int (.ext N')]]⟩ s₅:=I₅
  rw [lw40]
  refine wpAny_execs_cons (wpAny_Assign_Name (place_call (X:=X.with It o') (rest:=[]) pw'.L pw'.ok hr pw'.bag I₅ fun N₆ D₆ s₆ P t₆ le₆ I₆ hp0 hp1 sm₆=>?_))
  refine store_ok (X:=X.with It o') (x:=S placeN) pw'.ok (by rw [pw'.L.cs];rfl) I₆ (.val (.int P t₆)) fun s₇ I₇ sm₇=>?_
  have I₇:Inv ρ (X.with It o') D₆ ⟨la6 la a hd i (.int P t₆),[[.int (.ext N₆)]]⟩ s₇:=I₇
  refine wpAny_execs_cons (past_if (X:=X.with It o') (pw'.mono le₆) hr (by (exact Nat.le_of_lt (Nat.lt_of_lt_of_le (by assumption) (by decide)))) ⟨hp0,hp1⟩ I₇ fun D₈ s₈ P₈ t₈ le₈ hP₈ I₈ sm₈=>?_)
  refine wpAny_execs_cons (agree_ok (X:=X.with It o') (pw'.mono (le₆.trans le₈)) hr hP₈ I₈ fun D₉ s₉ le₉ I₉ sm₉=>wpAny_execs_nil ⟨rfl,?_⟩)
  refine hq D₉ ⟨la4 la a hd,[[.int (.ext N₆)]]⟩ s₉ ((le₆.trans le₈).trans le₉) ⟨((le1.trans le₆).trans le₈).trans le₉,N₆,rfl⟩ (I₉.reloc ?_) ((((sm₅.trans sm₆).trans sm₇).trans sm₈).trans sm₉)
  exact .cons (by rfl) AVeq.rfl' (.cons (by rfl) AVeq.rfl' (.cons (by rfl) AVeq.rfl' .nil))
 ·obtain ⟨le1,N',rfl⟩:=ok
  exact h D' s' N' (le₁.trans le) I' ((sm₁.trans sm₂).trans sm)
end
end
section
noncomputable def w5P (zs:Stmt):List Pos×List Nat×Expr:=((atL zs [1,4226,8322,12418,130,2,0]),[(atK zs 12418)],(atE zs 66))
structure CmpP where
 p:List Pos
 k:List Nat
 sc:Scope
noncomputable def w7P (zs:Stmt):CmpP:=⟨(atL zs [1,4162,8258,66,130,4290,270530,532674,794818,8386,194,2,0]),[(atK zs 794818)],(atC zs 2)⟩
noncomputable def w7Q (zs:Stmt):CmpP:=⟨(atL zs [1,4162,8258,66,130,4290,270530,532674,794818,8386,194,2,0,12354]),[(atK zs 794818),(atK zs 12354)],(atC zs 2)⟩
noncomputable def w8P (zs:Stmt):List Pos×List Stmt:=((atL zs [1,2,266325,528469,790613,1052757,1314901,4181,85,21,0]),(atB zs 21))
noncomputable def p5 (i:Nat):Pos:=at0 (w5P (lwS 5)).1 i
noncomputable def p6 (i:Nat):Pos:=at0 (v0P (lwS 6)) i
noncomputable def c7:CmpP:=w7P (lwS 7)
noncomputable def p7 (i:Nat):Pos:=at0 c7.p i
noncomputable def p8 (i:Nat):Pos:=at0 (w8P (lwS 8)).1 i
theorem lw5:lwS 5=.Assign [.Name (S syntaxN) (p5 0)] (.Subscript (w5P (lwS 5)).2.2 (.Call (.Name (S takeN) (p5 1)) [.Name (S bagN) (p5 2),.Constant (.int 2) (ks (w5P (lwS 5)).2.1 0) (p5 3)] [] (p5 4)) (p5 5)) (p5 6):=by kernel_rfl
theorem lw6:lwS 6=.Assign [.Name (S endN) (p6 0)] (.Call (.Name (S lawPlaceN) (p6 1)) [.Name (S bagN) (p6 2)] [] (p6 3)) (p6 4):=by kernel_rfl
theorem lw7:lwS 7=.Assign [.Name (S linesN) (p7 0)] (.ListComp (.Call (.Name (S lawLineN) (p7 1)) [.Name (S bagN) (p7 2)] [] (p7 3)) [⟨.Name (S turnN) (p7 4),.Call (.Name (S rangeN) (p7 5)) [.Call (.Name (S takeN) (p7 6)) [.Name (S bagN) (p7 7),.Constant (.int 5) (ks c7.k 0) (p7 8)] [] (p7 9)] [] (p7 10),[],0⟩] c7.sc (p7 11)) (p7 12):=by kernel_rfl
theorem lw8:lwS 8=.For (.Name (S lineN) (p8 0)) (.Name (S linesN) (p8 1)) [.If (.UnaryOp .Not (.Call (.Name (S isLineN) (p8 2)) [.Name (S lineN) (p8 3),.Name (S endN) (p8 4),.Name (S symbolsN) (p8 5),.Name (S syntaxN) (p8 6)] [] (p8 7)) (p8 8)) (w8P (lwS 8)).2 [] (p8 9)] [] (p8 10):=by kernel_rfl
theorem c7_names:c7.sc.names=[(S [46,48],.local),(S turnN,.local),(S lawLineN,.globalImplicit),(S bagN,.free)]:=by kernel_rfl
theorem c7_kind:c7.sc.kind=.function:=by kernel_rfl
theorem c7_sw (cn:Str) (L a:Addr) (ccd:Value) (cl:List (Str×Addr)):swapsWith (.ListComp (.Call (.Name (S lawLineN) (p7 1)) [.Name (S bagN) (p7 2)] [] (p7 3)) [⟨.Name (S turnN) (p7 4),.Call (.Name (S rangeN) (p7 5)) [.Call (.Name (S takeN) (p7 6)) [.Name (S bagN) (p7 7),.Constant (.int 5) (ks c7.k 0) (p7 8)] [] (p7 9)] [] (p7 10),[],0⟩] c7.sc (p7 11)) (some (.Name (S linesN) (p7 0))) (p7 12).line (envX cn s712.1 L a ccd cl)=pure true:=by kernel_rfl
theorem g_line:lkN T0.glb lawLineN=some (.top 674):=by kernel_rfl
theorem g_takeL:lkN T0.glb takeN=some (.top 646):=by kernel_rfl
theorem g_one:lkN T0.glb writeOneN=some (.top 513):=by kernel_rfl
theorem g_isline:evFn T0 s712.1 (S isLineN)=some (.top 702):=by kernel_rfl
theorem e5l (loc:Locs) (N:Int):(recs T0 60).ev s712.1 ⟨loc,[[.int (.ext N)]]⟩ (w5P (lwS 5)).2.2=some (.loc 1,⟨loc,[[.int (.ext N)],[attV,intelV]]⟩):=by kernel_rfl
theorem clos1 {sc:Scope}{env:Env}{n1 n2 n3 x:Str}{c:Addr} (hn:sc.names=[(n1,.local),(n2,.local),(n3,.globalImplicit),(x,.free)]) (hc:env.cells.lookup x=some c):closureFor sc env=pure [(x,c)]:=by
 unfold closureFor
 rw [hn]
 have e:cellOf env x=pure c:=by unfold cellOf;rw [hc]
 simp only [List.forIn_cons,List.forIn_nil,show (NameKind.local==NameKind.free)=false from rfl,show (NameKind.globalImplicit==NameKind.free)=false from rfl,show (NameKind.free==NameKind.free)=true from rfl,if_true,Bool.false_eq_true,if_false,e]
 rfl
theorem relabel_free {env:Env}{x:Str} (hk:env.scope.kind=.function) (hx:env.kindOf x=some .cell):∀ {names:List (Str×NameKind)},names.lookup x=some .free →
  (names.map fun (n,k)=>if (k==NameKind.free&&env.scope.kind==.function&&env.kindOf n==some .cell) then (n,NameKind.cell) else (n,k)).lookup x=some .cell
 | [],h=>nomatch h
 | (y,k')::r,h=>by
  have ih:=relabel_free hk hx (names:=r)
  rw [List.map_cons]
  rw [List.lookup_cons] at h
  cases hxy:x==y with
  | true =>
   rw [hxy] at h;(have Y0:=s1 h;try clear h;subst Y0)
   have:x=y:=eq_of_beq hxy
   subst this
   show List.lookup x ((if (NameKind.free==NameKind.free&&env.scope.kind==.function&&env.kindOf x==some .cell)=true then (x,NameKind.cell) else (x,NameKind.free))::_)=_
   rw [if_pos (show (NameKind.free==NameKind.free&&env.scope.kind==.function&&env.kindOf x==some .cell)=true by rw [hk,hx];rfl),List.lookup_cons,hxy]
  | false =>
   rw [hxy] at h
   show List.lookup x ((if (k'==NameKind.free&&env.scope.kind==.function&&env.kindOf y==some .cell)=true then (y,NameKind.cell) else (y,k'))::_)=_
   cases (k'==NameKind.free&&env.scope.kind==.function&&env.kindOf y==some .cell) with
   | true=>rw [if_pos rfl,List.lookup_cons,hxy];exact ih h
   | false=>rw [if_neg zF,List.lookup_cons,hxy];exact ih h
end
section
noncomputable def la7 (la:Value) (a hd:Addr) (ev:Value):Locs:=la4 la a hd++[(endN,.val ev)]
section
variable {w:World}{mean:ExcName→Option Value}{mg mb:Str→Option Value}{n:Nat}{ρ:Rho}{X:FX}{D D₀:Led}{st:St}{s s₀:Shared}{loc:Locs}{lst rest:List (List AV)}{items:List AV}{cb cy a hd:Addr}{vs:List Value}{k c:Nat}{syms:List Sy}
theorem syn_ok (p:Ph w mean mg mb X ρ D cb cy a hd vs k c syms) {oy:Obj} (hy:(cy,oy)∈X.fx) (hoy:oy.data=.cell none) (hr:Room X 133) {la:Value}{N:Int}{Q:Flow→Shared→Prop} (I:Inv ρ X D ⟨la4 la a hd,[[.int (.ext N)]]⟩ s)
  (h:∀ f' b t N' D' s',Ph w mean mg mb (X.re2 f' X.hx) ρ D' cb cy a hd vs k c syms→CellIs (X.re2 f' X.hx) cy (.str (S (syL b)) t)→Inv ρ (X.re2 f' X.hx) D' ⟨la4 la a hd,[[.int (.ext N')]]⟩ s'→Same s s'→Q .next s') :
  wpAny (model pw w) X.A (exec (lwS 5) X.env) Q F0 s:=by
 have R:=recs_ok (T0_all w mean mg mb) 60
 have he:=e5l (la4 la a hd) N
 rw [← p.L.cs] at he
 have hky:X.env.kindOf (S syntaxN)=some .cell:=by show X.cs.names.lookup (S syntaxN)=_;rw [p.L.cs];exact k_syn
 have hlb:locsLb 1 (la4 la a hd)=true:=rfl
 rw [lw5]
 generalize w5P (lwS 5)=fp at he ⊢
 generalize p5=pp
 generalize la4 la a hd=lc at I h he hlb
 refine wpAny_Assign_Name (Subscript_ (R.1 _ _ _ _ _ he ρ X D s _ rfl p.ok (hr.down (by decide)) I fun D₁ v₁ s₁ le₁ I₁ V₁ sm₁=>?_))
 refine e12 (V₁.locI) ?_;clear V₁;intro na hna Y2;subst Y2
 refine take_call (rest:=[[attV,intelV]]) p.L p.ok hr (p.bag.mono le₁) I₁ (m:=2) (by decide) fun D₂ s₂ t₂ le₂ I₂ sm₂=>?_
 have r0:=Int.emod_nonneg N (show (2:Int)≠0 by decide)
 have r1:=Int.emod_lt_of_pos N (show (0:Int)<2 by decide)
 obtain ⟨r,hr2⟩:∃ r:Nat,(r:Int)=N % 2:=⟨(N % 2).toNat,by lia⟩
 rw [← hr2] at r1 ⊢
 refine e21 (id I₂) ?_;intro m Pl J
 refine e23 (J.lad_get (i:=1) (l:=[attV,intelV]) rfl (le₂.lad _ _ hna)) ?_;intro ws kk _ hvs hg
 have hb:∃ b,[syL false,syL true][r]?=some (syL b):=by
  have:r=0∨r=1:=by lia
  rcases this with rfl|rfl
  ·exact ⟨false,rfl⟩
  ·exact ⟨true,rfl⟩
 refine e11 (hb) ?_;clear hb;intro b hb
 refine e11 (nm_get (l:=[syL false,syL true]) hvs hb) ?_;intro t₅ ht₅
 refine tail_any (T:="list") ⟨_,hg,rfl⟩ slot_list_getitem.lookup (wpAny_getItem_list (k:=(r:Int)) ⟨_,hg,rfl,_,rfl⟩ (by (exact Int.natCast_nonneg _)) (by lia) (by simpa using ht₅) ?_) (sub_ok (fun _ _ _ _ h=>by cases h) _ _)
 have C:=I₂.cut (k:=1) hlb rfl
 have C:Inv ρ X ⟨D₂.imm,D₂.lad.take 1⟩ ⟨lc,[[.int (.ext (N / 2))]]⟩ s₂:=C
 have hl1:D.lad.length=1:=I.lad_len
 have leC:D.le ⟨D₂.imm,D₂.lad.take 1⟩:=(le₁.trans le₂).cut (by lia)
 refine cell_set p.ok hky p.L.cl2 hy hoy p.hne C fun f' s₃ hX₃ hc₃ hk₃ I₃ sm₃=>?_
 refine h f' b t₅ (N / 2) _ s₃ ⟨⟨p.L.cs,p.L.cl1,p.L.cl2,p.L.ne⟩,hX₃,?_,p.sym,hk₃ _ p.held p.hneH,p.hne,p.hneH⟩ hc₃ I₃ ((sm₁.trans sm₂).trans sm₃)
 obtain ⟨ba,⟨ob,o1,o2⟩,o3⟩:=p.bag.mono leC
 (exact (i12 ba (⟨ob,hk₃ _ o1 p.L.ne,o2⟩) o3))
theorem end_ok (p:Ph w mean mg mb X ρ D cb cy a hd vs k c syms) (hr:Room X 133) {la:Value}{N:Int}{Q:Flow→Shared→Prop} (I:Inv ρ X D ⟨la4 la a hd,[[.int (.ext N)]]⟩ s)
  (h:∀ N' D' s' e t,D.le D'→Inv ρ X D' ⟨la7 la a hd (.int e t),[[.int (.ext N')]]⟩ s'→0≤e→e<pow64→Same s s'→Q .next s'):wpAny (model pw w) X.A (exec (lwS 6) X.env) Q F0 s:=by
 rw [lw6]
 generalize p6=pp
 refine wpAny_Assign_Name (place_call (rest:=[]) p.L p.ok hr p.bag I fun N₆ D₆ s₆ P t₆ le₆ I₆ hp0 hp1 sm₆=>?_)
 refine store_ok (x:=S endN) p.ok (by rw [p.L.cs];rfl) I₆ (.val (.int P t₆)) fun s₇ I₇ sm₇=>?_
 exact h N₆ D₆ s₇ P t₆ le₆ I₇ hp0 hp1 (sm₆.trans sm₇)
theorem freeze1 {pl:Locs}{x:List Nat}{N:Int} (I:Inv ρ X D ⟨pl++[(x,.loc 1)],[[.int (.ext N)],items]⟩ s) (hp:plainL pl=true) (hx:lkL pl x=none) :
  ∃ b ws kk D',D.le ⟨(b,lObj ws kk)::D.imm,D.lad⟩∧D'=⟨(b,lObj ws kk)::D.imm,D.lad.take 1⟩∧VRs ρ D items ws∧Inv ρ X D' ⟨pl++[(x,.val (.ref b))],[[.int (.ext N)]]⟩ s:=by
 have hlen:=I.lad_len
 obtain ⟨b,hb⟩:∃ b,D.lad[1]?=some b:=⟨_,List.getElem?_eq_getElem (by rw [hlen];show 1<2;decide)⟩
 refine e34 (Inv.freeze (base:=[[.int (.ext N)]]) (l':=pl++[(x,.val (.ref b))]) I rfl) ?_;intro b' ws kk hv hb' le hq
 have:b'=b:=Option.some.inj (hb'.symm.trans hb)
 subst this
 refine (i44 b' ws kk _ le rfl hv (hq ?_))
 have key:∀ pl:Locs,plainL pl=true→∀ y c,lkL (pl++[(x,.val (.ref b'))]) y=some c→∃ d,lkL (pl++[(x,.loc 1)]) y=some d∧∀ v,VR ρ D d v→VR ρ ⟨(b',lObj ws kk)::D.imm,D.lad.take 1⟩ c v:=by
  intro pl
  induction pl with
  | nil =>
   intro _ y c e
   rw [List.nil_append,lkL_cons] at e ⊢
   cases q:lnBeq x y with
   | true =>
    rw [q] at e;(have Y0:=s1 e;try clear e;subst Y0)
    exact ⟨.loc 1,rfl,fun v V=>by
     refine e12 (V.locI) ?_;intro b2 h2 Y2;subst Y2
     rw [hb] at h2;(have Y0:=s1 h2;try clear h2;subst Y0);exact .val _⟩
   | false=>rw [q] at e;exact xNS e
  | cons q pl ih =>
   intro hp y c e
   obtain ⟨z,av⟩:=q
   cases av <;> first|(exact absurd hp zF)|skip
   rename_i u
   rw [List.cons_append,lkL_cons] at e ⊢
   cases q:lnBeq z y with
   | true=>rw [q] at e;(have Y0:=s1 e;try clear e;subst Y0);(exact (i12 (.val u) rfl (fun v V=>by rw [V.valI];exact .val _)))
   | false=>rw [q] at e;exact ih hp y c e
 exact key pl hp
end
end
section
noncomputable def la8 (la:Value) (a hd:Addr) (ev lv:Value):Locs:=la7 la a hd ev++[(linesN,.val lv)]
section
variable {w:World}{mean:ExcName→Option Value}{mg mb:Str→Option Value}{n:Nat}{ρ:Rho}{X:FX}{D D₀:Led}{st:St}{s s₀:Shared}{loc:Locs}{lst rest:List (List AV)}{items:List AV}{cb cy a hd:Addr}{vs:List Value}{k c:Nat}{syms:List Sy}
theorem vals_eq {ls ws:List Value} (V:VRs ρ D (ls.map AV.val) ws):ws=ls:=by
 induction ls generalizing ws with
 | nil=>exact V.nilI
 | cons v ls ih =>
  refine e23 (VRs.consI (show VRs ρ D (.val v::ls.map AV.val) ws from V)) ?_;intro u r V1 V2 Y4;subst Y4
  rw [V1.valI,ih V2]
theorem vals_lb {ls:List Value} (k:Nat):lbs k (ls.map AV.val)=true:=by
 induction ls with
 | nil=>rfl
 | cons v ls ih=>show (true&&lbs k _)=true;rw [ih];rfl
theorem bag_comp {sc:Scope} (hk:sc.kind=.function) (L:LawX X cb cy) (hX:X.Ok w mean mg mb ρ) (hx:sc.names.lookup (S bagN)=some .free) {C I:Addr}{o oC:Obj}{p0:Pos}{Q:Value→Shared→Prop} (hb:BagIn X D cb) (J:Inv ρ (X.comp I o C oC) D st s) (h:∀ v,VR ρ D (.loc 0) v→Q v s) :
  wpAny (model pw w) X.A (eval (.Name (S bagN) p0) (compEnvC sc [(S bagN,cb)] C X.env)) Q F0 s:=by
 obtain ⟨ba,⟨ob,ho,hd⟩,hl⟩:=hb
 have hkb:X.env.kindOf (S bagN)=some .cell:=by show X.cs.names.lookup (S bagN)=_;rw [L.cs];exact k_bag
 have e1:(compEnvC sc [(S bagN,cb)] C X.env).kindOf (S bagN)=some .cell:=relabel_free hX.k hkb hx
 have e2:(compEnvC sc [(S bagN,cb)] C X.env).scope.kind=.function:=hk
 exact cellC_ok (X:=X.comp I o C oC) e2 e1 rfl (by show List.lookup (S bagN) [(S bagN,cb)]=some cb;simp) (zR _ (.tail _ (.tail _ ho))) hd J (h _ (.loc hl))
theorem lines_ok (p:Ph w mean mg mb X ρ D cb cy a hd vs k c syms) (hr:Room X 133) (e:Int) {la ev:Value}{N:Int}{Q:Flow→Shared→Prop} (I:Inv ρ X D ⟨la7 la a hd ev,[[.int (.ext N)]]⟩ s)
  (h:∀ N' D' s' l ls kk ds,D.le D'→(l,lObj ls kk)∈D'.imm→LinesAt ρ e D' ls ds→ls.length≤4→Inv ρ X D' ⟨la8 la a hd ev (.ref l),[[.int (.ext N')]]⟩ s'→Same s s'→Q .next s'):wpAny (model pw w) X.A (exec (lwS 7) X.env) Q F0 s:=by
 have HT:=(T0_all w mean mg mb).toTabsOk
 have c7n:=c7_names
 have c7k:=c7_kind
 have hsw:=c7_sw X.cn X.L X.a X.ccd X.cl
 rw [← p.L.cs] at hsw
 have hclos:closureFor c7.sc X.env=pure [(S bagN,cb)]:=clos1 c7n p.L.cl1
 have hlen:=I.lad_len
 rw [lw7]
 generalize c7.sc=sc at c7n c7k hsw hclos ⊢
 generalize ks c7.k 0=kk at hsw ⊢
 generalize p7=pp at hsw ⊢
 refine comp_bind (ρ:=ρ) p.ok hsw hclos (by rw [c7n];decide) c7k (by rw [c7n];decide) (by rw [c7n];rfl) (fun x=>rfl) (by rw [p.L.cs];rfl) ?_
 refine range_take (rest:=[]) p.L p.ok hr p.bag I (m:=5) (by decide) fun D₁ It o cnt s₁ hc le₁ t₁ I₁ sh₁ sm₁=>?_
 refine ⟨It,o,[It],cnt,_,_,D₁,_,[[.int (.ext (N / 5))]],fun j D b it=>∃ N' ls ds,b=[[.int (.ext N')]]∧it=ls.map AV.val∧LinesAt ρ e D ls ds∧ls.length=j,rfl,by lia,t₁,I₁,sh₁,fun D' le=>⟨N / 5,[],[],rfl,rfl,.nil,rfl⟩,fun C hCI hCfx=>?_,fun D₂ base' items s₂ le₂ hb₂ ok₂ I₂ sm₂=>?_⟩
 ·intro j u o' oC m D' base items s' Qe hi' pv le ok hb hlen' I' hns hv hq
  refine e34 (ok) ?_;clear ok;intro N' ls ds Y3 Y4 hds hl;subst Y3;subst Y4
  have hXc:((X.with It o').with C oC).Ok w mean mg mb ρ:=okWith (okWith p.ok)
  refine Call_ (compG HT c7k p.ok (by rw [c7n];rfl) rfl g_line I' fun D₄ fv₄ s₄ le₄ I₄ V₄ sm₄=>?_)
  obtain rfl:=V₄.topI
  refine callWith_K p.ok.K (HT.keep _ _ g_line) (args_cons (bag_comp c7k p.L p.ok (by rw [c7n];rfl) (p.bag.mono ((le₁.trans le).trans le₄)) I₄ fun bv hbv=>args_nil ⟨p.ok.K.keeps I₄.hk,?_⟩))
  refine line_ok (X:=(X.with It o').with C oC) (vals_lb 2) e hXc hr I₄ (.top 674) hbv fun N'' D'' s'' v le'' I'' V'' sm''=>?_
  refine e11 (V''.at_) ?_;clear V'';intro d hda
  refine hq D'' [[.int (.ext N'')]] v s'' (le₄.trans le'') rfl ?_ (sm₄.trans sm'') ⟨N'',ls++[v],ds++[d],rfl,by rw [List.map_append];rfl,(hds.up fun _ _=>LineAt.mono (le₄.trans le'')).snoc hda,by rw [List.length_append,hl];rfl⟩
  exact I''
 ·refine e34 (ok₂) ?_;clear ok₂;intro N' ls ds Y3 Y4 hds hl;subst Y3;subst Y4
  have I₂:Inv ρ X D₂ ⟨la7 la a hd ev++[(linesN,.loc 1)],[[.int (.ext N')],ls.map AV.val]⟩ s₂:=I₂
  refine e44 (freeze1 I₂ rfl rfl) ?_;clear I₂;intro l ws kk' D₃ le₃ hD₃ hv₃ I₃
  obtain rfl:=vals_eq hv₃
  subst hD₃
  have hl1:D.lad.length≤1:=by rw [hlen];exact Nat.le_refl 1
  have leF:D.le ⟨(l,lObj ws kk')::D₂.imm,D₂.lad.take 1⟩:=((le₁.trans le₂).cut hl1).trans (Led.le_imm ⟨D₂.imm,D₂.lad.take 1⟩ _)
  refine h N' _ s₂ l ws kk' ds leF (.head _) (hds.up fun v d hda=>LineAt.mono (D:=⟨D₂.imm,[]⟩) ⟨fun q hq=>.tail _ hq,fun _ _ e=>nomatch e⟩ (LineAt.base hda)) (by lia) I₃ (sm₁.trans sm₂)
end
end
section
noncomputable def la9 (la:Value) (a hd:Addr) (ev lv v:Value):Locs:=la8 la a hd ev lv++[(lineN,.val v)]
section
variable {w:World}{mean:ExcName→Option Value}{mg mb:Str→Option Value}{n:Nat}{ρ:Rho}{X:FX}{D D₀:Led}{st:St}{s s₀:Shared}{loc:Locs}{lst rest:List (List AV)}{items:List AV}{cb cy a hd:Addr}{vs:List Value}{k c:Nat}{syms:List Sy}
theorem isline_loop (p:Ph w mean mg mb X ρ D cb cy a hd vs k c syms) (hr:Room X 133) {e:Int} (he:0≤e∧e<pow64) {b:Bool}{t te:Tok} (hy:CellIs X cy (.str (S (syL b)) t)) {la:Value}{N:Int}{l:Addr}{ls:List Value}{kk:Nat}{ds:List LD} (hm:(l,lObj ls kk)∈D.imm) (hds:LinesAt ρ e D ls ds) {Q:Flow→Shared→Prop}
  (I:Inv ρ X D ⟨la8 la a hd (.int e te) (.ref l),[[.int (.ext N)]]⟩ s)
  (h:∀ D' s',D.le D'→Inv ρ X D' ⟨la8 la a hd (.int e te) (.ref l),[[.int (.ext N)]]⟩ s'→Same s s'→Q .next s'):wpAny (model pw w) X.A (exec (lwS 8) X.env) Q F0 s:=by
 have HT:=(T0_all w mean mg mb).toTabsOk
 have n0:evName T0 X.cs ⟨la8 la a hd (.int e te) (.ref l),[[.int (.ext N)]]⟩ (S linesN)=some (.val (.ref l)):=by rw [p.L.cs];rfl
 rw [lw8]
 generalize p8=pp
 generalize (w8P (lwS 8)).2=bd
 refine wpAny_For (name_ok HT p.ok n0 I fun D₁ v₁ s₁ le₁ I₁ V₁ sm₁=>?_) (fun x=>rfl)
 obtain rfl:=V₁.valI
 refine iter_list I₁ (zL _ (le₁.imm _ hm)) fun It o s₂ t₂ I₂ sh₂ sm₂=>?_
 refine gen_loop t₂ (fun i D' st=>D.le D'∧st=⟨la8 la a hd (.int e te) (.ref l),[[.int (.ext N)]]⟩) (fun i v o' D' st' s' Qn hi pv le ok I' sh' hq=>?_) ⟨le₁,rfl⟩ I₂ sh₂ (fun D' st' s' le ok I' sm=>?_)
 ·refine e02 (ok) ?_;try clear ok;intro le1 Y1;subst Y1
  refine e12 (hds.get pv) ?_;clear hds pv;intro d hd1 hda
  have q:=(p.mono le1).with (I:=It) (o:=o')
  have hy':=hy.up (X':=X.with It o') fun _ h=>.tail _ h
  refine wpAny_pure (bind_ok (X:=X.with It o') q.ok (by rw [q.L.cs];rfl) I' (.val v) fun s₅ I₅ sm₅=>?_)
  have I₅:Inv ρ (X.with It o') D' ⟨la9 la a hd (.int e te) (.ref l) v,[[.int (.ext N)]]⟩ s₅:=I₅
  have n1:evName T0 (X.with It o').cs ⟨la9 la a hd (.int e te) (.ref l) v,[[.int (.ext N)]]⟩ (S lineN)=some (.val v):=by rw [q.L.cs];rfl
  have n2:evName T0 (X.with It o').cs ⟨la9 la a hd (.int e te) (.ref l) v,[[.int (.ext N)]]⟩ (S endN)=some (.val (.int e te)):=by rw [q.L.cs];rfl
  have n3:evName T0 (X.with It o').cs ⟨la9 la a hd (.int e te) (.ref l) v,[[.int (.ext N)]]⟩ (S symbolsN)=some (.val (.ref a)):=by rw [q.L.cs];rfl
  refine wpAny_execs_cons (wpAny_If (wpAny_isTrue_Not (wpAny_isTrue_value (Call_ (fn_ok (X:=X.with It o') HT q.ok (av:=.top 702) (by rw [q.L.cs];exact g_isline) I₅ fun D₆ v₆ s₆ le₆ I₆ V₆ sm₆=>?_)))))
  obtain rfl:=V₆.topI
  refine callWith_K p.ok.K (keep_ok HT g_isline) (args_cons (name_ok (X:=X.with It o') HT q.ok n1 I₆ fun D₇ v₇ s₇ le₇ I₇ V₇ sm₇=>args_cons (name_ok (X:=X.with It o') HT q.ok n2 I₇ fun D₈ v₈ s₈ le₈ I₈ V₈ sm₈=>args_cons (name_ok (X:=X.with It o') HT q.ok n3 I₈ fun D₉ v₉ s₉ le₉ I₉ V₉ sm₉=>args_cons (syn_name (X:=X.with It o') q.L q.ok hy' I₉ (args_nil ⟨p.ok.K.keeps I₉.hk,?_⟩))))))
  obtain rfl:=V₇.valI
  obtain rfl:=V₈.valI
  obtain rfl:=V₉.valI
  rw [← p.sym.o]
  have le9:=((le₆.trans le₇).trans le₈).trans le₉
  refine isline_ok (X:=X.with It o') p.sym.o q.ok hr I₉ (hda.mono (le1.trans le9)) he (.top 702) fun D₁₀ s₁₀ le₁₀ I₁₀ sm₁₀=>wpAny_truthy_bool ?_
  refine past (wpAny_execs_nil ⟨rfl,?_⟩)
  refine hq D₁₀ _ s₁₀ (le9.trans le₁₀) ⟨(le1.trans le9).trans le₁₀,rfl⟩ (I₁₀.reloc ?_) (((((sm₅.trans sm₆).trans sm₇).trans sm₈).trans sm₉).trans sm₁₀)
  exact .cons (by rfl) AVeq.rfl' (.cons (by rfl) AVeq.rfl' (.cons (by rfl) AVeq.rfl' (.cons (by rfl) AVeq.rfl' (.cons (by rfl) AVeq.rfl' .nil))))
 ·refine e02 (ok) ?_;clear ok;intro le1 Y1;subst Y1
  exact h D' s' le1 I' ((sm₁.trans sm₂).trans sm)
end
noncomputable def w10P (zs:Stmt):CmpP×Expr×Expr×List Stmt:=(⟨(atL zs [17043521,33820737,50597953,266305,4161,8257,65,1091047553,2164789377,3238531201,17305729,34082945,50860161,528513,4225,129,1,0]),[(atK zs 8257)],(atC zs 528513)⟩,(atE zs 266369),(atE zs 8321),(atB zs 0))
noncomputable def c10:CmpP:=(w10P (lwS 10)).1
noncomputable def p10 (i:Nat):Pos:=at0 c10.p i
theorem lw10:lwS 10=.If (.Compare (.Call (.Attribute (.Call (.Name (S writeRowsN) (p10 0)) [.Name (S linesN) (p10 1),.Name (S syntaxN) (p10 2)] [] (p10 3)) (S mSplit) (p10 4)) [.Constant (.str (S [10])) (ks c10.k 0) (p10 5)] [] (p10 6)) [.NotEq] [.BinOp (.BinOp (w10P (lwS 10)).2.1 .Add (.ListComp (.Call (.Name (S writeOneN) (p10 7)) [.Name (S lineN) (p10 8),.Name (S syntaxN) (p10 9)] [] (p10 10)) [⟨.Name (S lineN) (p10 11),.Name (S linesN) (p10 12),[],0⟩] c10.sc (p10 13)) (p10 14)) .Add (w10P (lwS 10)).2.2.1 (p10 15)] (p10 16)) (w10P (lwS 10)).2.2.2 [] (p10 17):=by kernel_rfl
theorem l_10:posLine (p10 4) (p10 6)=true:=by kernel_rfl
theorem c10_names:c10.sc.names=[(S [46,48],.local),(S lineN,.local),(S writeOneN,.globalImplicit),(S syntaxN,.free)]:=by kernel_rfl
theorem c10_kind:c10.sc.kind=.function:=by kernel_rfl
theorem g_rows:evFn T0 s712.1 (S writeRowsN)=some (.top 520):=by kernel_rfl
noncomputable def w9P (zs:Stmt):List Pos×List Nat:=((atL zs [1,4162,8258,66,130,194,2,0]),[(atK zs 8258),(atK zs 130),(atK zs 194)])
noncomputable def p9 (i:Nat):Pos:=at0 (w9P (lwS 9)).1 i
theorem lw9:lwS 9=.Assign [.Name (S firstN) (p9 0)] (.IfExp (.Compare (.Name (S syntaxN) (p9 1)) [.Eq] [.Constant (.str (S (syL false))) (ks (w9P (lwS 9)).2 0) (p9 2)] (p9 3)) (.Constant (.str (S attS)) (ks (w9P (lwS 9)).2 1) (p9 4)) (.Constant (.str (S intelS)) (ks (w9P (lwS 9)).2 2) (p9 5)) (p9 6)) (p9 7):=by kernel_rfl
end
section
noncomputable def lb0 (la:Value) (a hd:Addr) (ev lv fv:Value):Locs:=la8 la a hd ev lv++[(firstN,.val fv)]
theorem e10a (la:Value) (a hd:Addr) (ev lv fv:Value) (N:Int):(recs T0 60).ev s712.1 ⟨lb0 la a hd ev lv fv,[[.int (.ext N)]]⟩ (w10P (lwS 10)).2.1=some (.loc 1,⟨lb0 la a hd ev lv fv,[[.int (.ext N)],[.val fv]]⟩):=by kernel_rfl
theorem e10b (la:Value) (a hd:Addr) (ev lv fv:Value) (N:Int):(recs T0 60).ev s712.1 ⟨lb0 la a hd ev lv fv,[[.int (.ext N)]]⟩ (w10P (lwS 10)).2.2.1=some (.loc 1,⟨lb0 la a hd ev lv fv,[[.int (.ext N)],[.str .nil]]⟩):=by kernel_rfl
theorem tdL_chars:∀ {l:List Nat}{p q:Bool},tdL l p=some q→∀ c∈l,32≤c∧c<127
 | [],_,_,_,c,hc=>absurd hc List.not_mem_nil
 | d::l,p,q,h,c,hc=>by
  unfold tdL at h
  cases hd:Nat.beq d 32 with
  | true =>
   rw [hd,cond_true] at h
   have h:tdL l true=some q:=by
    cases p with
    | true=>exact xNS h
    | false=>exact h
   (refine zO (zC hc) ?qa0 ?qb0;(case' qb0=>clear hc;intro hc);(case' qa0=>intro Y0;subst Y0))
   ·rw [zE hd];decide
   ·exact tdL_chars h c hc
  | false =>
   rw [hd,cond_false] at h
   cases hb:(Nat.blt 32 d&&Nat.blt d 127) with
   | false=>rw [hb] at h;exact xNS h
   | true =>
    rw [hb,cond_true] at h
    have hb:=Bool.and_eq_true_iff.mp hb
    have h1:32<d:=zB hb.1
    have h2:d<127:=zB hb.2
    (refine zO (zC hc) ?qa1 ?qb1;(case' qb1=>clear hc;intro hc);(case' qa1=>intro Y0;subst Y0))
    ·exact ⟨by (exact Nat.le_of_lt (by assumption)),h2⟩
    ·exact tdL_chars h c hc
theorem strOk_of {l:List Nat} (h:∀ c∈l,c<127):PyData.strOk (S l)=true:=by
 show (List.toArray l).all (·<0x110000)=true
 rw [Array.all_eq_true_iff_forall_mem]
 intro c hc
 have:=h c (by simpa using hc)
 simp;(exact Nat.le_trans (by assumption) (by decide))
section
variable {w:World}{mean:ExcName→Option Value}{mg mb:Str→Option Value}{n:Nat}{ρ:Rho}{X:FX}{D D₀:Led}{st:St}{s s₀:Shared}{loc:Locs}{lst rest:List (List AV)}{items:List AV}{cb cy a hd:Addr}{vs:List Value}{k c:Nat}{syms:List Sy}
theorem strs_dat {news:List (Addr×Obj)}:∀ {vs:List Value}{xs:List (List Nat)},StrsAre vs (xs.map S)→DatAll news vs (xs.map fun x=>Dat.str (S x))
 | _,[],h=>by cases h;exact .nil
 | _,x::xs,h=>by
  have h:StrsAre _ (S x::xs.map S):=h
  cases h with|cons _ t r=>exact .cons (.str (S x) t) (strs_dat r)
theorem ne_strs {a b:Addr}{xs ys:List Value}{ka kb:Nat}{ns:List (List Nat)}{Q:Value→Shared→Prop} (I:Inv ρ X D st s) (ma:(a,lObj xs ka)∈D.imm) (mb:(b,lObj ys kb)∈D.imm) (ha:StrsAre xs (ns.map S)) (hb:StrsAre ys (ns.map S)) (hok:∀ x∈ns,∀ c∈x,c<127) (hu:X.A.units+64<cLine) (h:Q (.bool false) s) :
  wpAny (model pw w) X.A (compareOp .NotEq (.ref a) (.ref b)) Q F0 s:=by
 refine e21 (I) ?_;clear I;intro m P J
 have ok:∀ d∈ns.map fun x=>Dat.str (S x),kqdOk 8 d=true:=fun d hd=>by (refine e12 (List.mem_map.mp hd) ?_;clear hd;intro x hx Y2;subst Y2);exact strOk_of (hok x hx)
 refine kqd_ne (oa:=lObj xs ka) (ob:=lObj ys kb) (n₁:=[]) (n₂:=[]) J.N (zR _ (zL _ ma)) rfl rfl (strs_dat ha) (fun _ h=>nomatch h) (zR _ (zL _ mb)) rfl rfl (strs_dat hb) (fun _ h=>nomatch h) ok ok hu ?_
 simpa using h
theorem freezeL {N:Int}{b:Addr} (I:Inv ρ X D ⟨loc,[[.int (.ext N)],items]⟩ s) (hp:plainL loc=true) (V:VR ρ D (.loc 1) (.ref b)) (hl:D₀.lad.length≤1) (le₀:D₀.le D) :
  ∃ ws kk D',D₀.le D'∧(∀ p∈D.imm,p∈D'.imm)∧(b,lObj ws kk)∈D'.imm∧VRs ρ D items ws∧Inv ρ X D' ⟨loc,[[.int (.ext N)]]⟩ s:=by
 refine e34 (Inv.freeze (base:=[[.int (.ext N)]]) (l':=loc) I rfl) ?_;intro b' ws kk hv hb' le hq
 have:b'=b:=by
  refine e12 (V.locI) ?_;intro b2 h2 e
  cases e
  exact Option.some.inj (hb'.symm.trans h2)
 subst this
 (exact (i35 ws kk _ ((le₀.cut hl).trans (Led.le_imm ⟨D.imm,D.lad.take 1⟩ _)) (fun p hp=>.tail _ hp) (.head _) hv (hq fun x b e=>⟨b,e,fun v V=>plainL_ok hp x b e v V⟩)))
theorem add_two {xa xb:Addr}{xs ys:List Value}{ka kb:Nat}{Q:Value→Shared→Prop} (I:Inv ρ X D st s) (ma:(xa,lObj xs ka)∈D.imm) (mb:(xb,lObj ys kb)∈D.imm) (hl:xs.length+ys.length≤1000)
  (h:∀ D' b kk s',D.le D'→(b,lObj (xs++ys) kk)∈D'.imm→Inv ρ X D' st s'→Same s s'→Q (.ref b) s'):wpAny (model pw w) X.A (binaryOp .Add (.ref xa) (.ref xb)) Q F0 s:=by
 have ga:=I.fx_obj (zL _ ma)
 have gb:=I.fx_obj (zL _ mb)
 refine e21 (I) ?_;clear I;intro m P J
 refine add_lists J.F J.N ⟨_,ga,rfl,_,rfl⟩ ⟨_,gb,rfl,_,rfl⟩ (fun h' F' N'=>?_) (by show _≤16777216;(exact Nat.le_trans (by assumption) (by decide)))
 exact h _ _ _ _ (Led.le_imm D _) (.head _) ⟨m,P,J.pushImm _ F' N'⟩ ⟨rfl,rfl,rfl⟩
end
end
section
theorem joinL_end (c:Nat):∀ {ps:List (List Nat)},ps≠[]→joinL c (ps++[[]])=joinL c ps++[c]
 | [],h=>absurd rfl h
 | [x],_=>by simp [joinL]
 | x::y::r,_=>by
  have ih:=joinL_end c (ps:=y::r) (by simp)
  rw [List.cons_append,joinL_cons c x (by simp),ih,joinL_cons c x (by simp)]
  simp
section
variable {w:World}{mean:ExcName→Option Value}{mg mb:Str→Option Value}{n:Nat}{ρ:Rho}{X:FX}{D D₀:Led}{st:St}{s s₀:Shared}{loc:Locs}{lst rest:List (List AV)}{items:List AV}{cb cy a hd:Addr}{vs:List Value}{k c:Nat}{syms:List Sy}
theorem first_ok (p:Ph w mean mg mb X ρ D cb cy a hd vs k c syms) {b:Bool}{t:Tok} (hy:CellIs X cy (.str (S (syL b)) t)) {la ev lv:Value}{N:Int}{Q:Flow→Shared→Prop} (I:Inv ρ X D ⟨la8 la a hd ev lv,[[.int (.ext N)]]⟩ s)
  (h:∀ s' t',Inv ρ X D ⟨lb0 la a hd ev lv (.str (S (firstL b)) t'),[[.int (.ext N)]]⟩ s'→Same s s'→Q .next s'):wpAny (model pw w) X.A (exec (lwS 9) X.env) Q F0 s:=by
 have hst:∀ s' t',Inv ρ X D ⟨la8 la a hd ev lv,[[.int (.ext N)]]⟩ s'→Same s s'→wpAny (model pw w) X.A (storeName X.env (S firstN) (.str (S (firstL b)) t')) (fun _ s'=>Q .next s') F0 s':=fun s' t' I' sm =>
  store_ok (x:=S firstN) p.ok (by rw [p.L.cs];rfl) I' (.val _) fun s'' I'' sm''=>h s'' t' I'' (sm.trans sm'')
 rw [lw9]
 generalize p9=pp
 generalize w9P (lwS 9)=kk
 refine wpAny_Assign_Name (wpAny_IfExp (wpAny_isTrue_Compare1 (syn_name p.L p.ok hy I (wpAny_Constant_str (PyProof.Rows.eq_str (wpAny_truthy_bool ?_))))))
 cases b with
 | false =>
  rw [beq_self_eq_true,if_pos rfl]
  exact wpAny_Constant_str (hst _ _ ((I.add _).add _) ⟨rfl,rfl,rfl⟩)
 | true =>
  rw [show ((S (syL true):Str)==S (syL false))=false by decide +kernel,if_neg zF]
  exact wpAny_Constant_str (hst _ _ ((I.add _).add _) ⟨rfl,rfl,rfl⟩)
theorem syn_comp {sc:Scope} (hk:sc.kind=.function) (L:LawX X cb cy) (hX:X.Ok w mean mg mb ρ) (hx:sc.names.lookup (S syntaxN)=some .free) {C I:Addr}{o oC:Obj}{p0:Pos}{v:Value}{Q:Value→Shared→Prop} (hb:CellIs X cy v) (J:Inv ρ (X.comp I o C oC) D st s) (h:Q v s) :
  wpAny (model pw w) X.A (eval (.Name (S syntaxN) p0) (compEnvC sc [(S syntaxN,cy)] C X.env)) Q F0 s:=by
 refine e12 (hb) ?_;try clear hb;intro ob ho hd
 have hkb:X.env.kindOf (S syntaxN)=some .cell:=by show X.cs.names.lookup (S syntaxN)=_;rw [L.cs];exact k_syn
 have e1:(compEnvC sc [(S syntaxN,cy)] C X.env).kindOf (S syntaxN)=some .cell:=relabel_free hX.k hkb hx
 have e2:(compEnvC sc [(S syntaxN,cy)] C X.env).scope.kind=.function:=hk
 exact cellC_ok (X:=X.comp I o C oC) e2 e1 rfl (by show List.lookup (S syntaxN) [(S syntaxN,cy)]=some cy;simp) (zR _ (.tail _ (.tail _ ho))) hd J h
theorem StrV.len:∀ {r:List AV}{l:List (List Nat)},StrV r l→r.length=l.length:=fun h=>by
 induction h with
 | nil=>rfl
 | cons _ _ _ ih=>rw [List.length_cons,List.length_cons,ih]
theorem writes_ok (p:Ph w mean mg mb X ρ D cb cy a hd vs k c syms) (hr:Room X 133) {e:Int}{b:Bool}{t:Tok} (hy:CellIs X cy (.str (S (syL b)) t)) {loc:Locs}{N:Int}{l:Addr}{ls:List Value}{kk:Nat}{ds:List LD} (hm:(l,lObj ls kk)∈D.imm) (hds:LinesAt ρ e D ls ds) (hll:ls.length≤4) (hpl:plainL loc=true)
  (n0:∀ L,evName T0 X.cs ⟨loc,L⟩ (S linesN)=some (.val (.ref l))) {pp:Nat→Pos}{sc:Scope} (hsn:sc.names=[(S [46,48],.local),(S lineN,.local),(S writeOneN,.globalImplicit),(S syntaxN,.free)]) (hsk:sc.kind=.function) {Q:Value→Shared→Prop} (I:Inv ρ X D ⟨loc,[[.int (.ext N)]]⟩ s)
  (h:∀ D' s' r ws k',D.le D'→(r,lObj ws k')∈D'.imm→StrsAre ws ((ds.map (txOf ρ · b)).map S)→Inv ρ X D' ⟨loc,[[.int (.ext N)]]⟩ s'→Same s s'→Q (.ref r) s') :
  wpAny (model pw w) X.A (eval (.ListComp (.Call (.Name (S writeOneN) (pp 7)) [.Name (S lineN) (pp 8),.Name (S syntaxN) (pp 9)] [] (pp 10)) [⟨.Name (S lineN) (pp 11),.Name (S linesN) (pp 12),[],0⟩] sc (pp 13)) X.env) Q F0 s:=by
 have HT:=(T0_all w mean mg mb).toTabsOk
 have hlen:=I.lad_len
 have hdl:=hds.length
 refine comp_ok (ρ:=ρ) (cl:=[(S syntaxN,cy)]) (clos1 hsn p.L.cl2) (by rw [hsn];decide) hsk (by rw [hsn];decide) (by rw [hsn];rfl) (fun x=>rfl) ?_
 refine name_ok HT p.ok (n0 _) I fun D₁ v₁ s₁ le₁ I₁ V₁ sm₁=>?_
 obtain rfl:=V₁.valI
 refine iter_list I₁ (zL _ (le₁.imm _ hm)) fun It o s₂ t₂ I₂ sh₂ sm₂=>?_
 refine ⟨It,o,[It,l],ls.length,_,_,D₁,_,[[.int (.ext N)]],fun j D b' it=>b'=[[.int (.ext N)]]∧StrV it ((ds.map (txOf ρ · b)).take j),rfl,by (exact Nat.le_trans (by assumption) (by decide)),t₂,I₂,sh₂,fun D' le=>⟨rfl,by rw [List.take_zero];exact .nil⟩,fun C hCI hCfx=>?_,fun D₃ base' items s₃ a₃ le₃ hb₃ ok₃ I₃ V₃ sm₃=>?_⟩
 ·intro j u o' oC m D' base items s' Qe hi' pv le ok hb hlen' I' hns hv hq
  refine e02 (ok) ?_;try clear ok;intro Y0 hits;subst Y0
  refine e12 (hds.get pv) ?_;intro d hdi hda
  have hXc:((X.with It o').with C oC).Ok w mean mg mb ρ:=okWith (okWith p.ok)
  refine Call_ (compG HT hsk p.ok (by rw [hsn];rfl) rfl g_one I' fun D₄ fv₄ s₄ le₄ I₄ V₄ sm₄=>?_)
  obtain rfl:=V₄.topI
  refine callWith_K p.ok.K (HT.keep _ _ g_one) (args_cons (compL hsk (by rw [hsn];rfl) rfl (comp_ns I' I₄ hns) hv (args_cons (syn_comp hsk p.L p.ok (by rw [hsn];rfl) hy I₄ (args_nil ⟨p.ok.K.keeps I₄.hk,?_⟩)))))
  refine one_ok (X:=(X.with It o').with C oC) hXc hr I₄ (hda.mono ((le₁.trans le).trans le₄)) (.top 513) fun D₅ s₅ t₅ le₅ I₅ sm₅=>?_
  refine hq D₅ [[.int (.ext N)]] _ s₅ (le₄.trans le₅) rfl I₅ (sm₄.trans sm₅) ⟨rfl,?_⟩
  have hg:(ds.map (txOf ρ · b))[j]?=some (txOf ρ d b):=by rw [List.getElem?_map,hdi];rfl
  rw [List.take_succ_eq_append_getElem (List.getElem?_eq_some_iff.mp hg).1,(List.getElem?_eq_some_iff.mp hg).2]
  exact hits.snoc
 ·refine e02 (ok₃) ?_;try clear ok₃;intro Y0 hits;subst Y0
  rw [show (ds.map (txOf ρ · b)).take ls.length=ds.map (txOf ρ · b) from zT (by rw [List.length_map];lia)] at hits
  refine e35 (freezeL (D₀:=D) I₃ hpl V₃ (by rw [hlen];exact Nat.le_refl 1) (le₁.trans le₃)) ?_;intro ws k' D₄ le₄ him₄ hm₄ hv₄ I₄
  exact h D₄ s₃ a₃ ws k' le₄ hm₄ (hits.are hv₄) I₄ ((sm₁.trans sm₂).trans sm₃)
end
end
section
theorem first_chars (b:Bool):∀ c∈firstL b,32≤c∧c<127:=by cases b <;> decide
theorem first_len (b:Bool):(firstL b).length≤30:=by cases b <;> decide
section
variable {w:World}{mean:ExcName→Option Value}{mg mb:Str→Option Value}{n:Nat}{ρ:Rho}{X:FX}{D D₀:Led}{st:St}{s s₀:Shared}{loc:Locs}{lst rest:List (List AV)}{items:List AV}{cb cy a hd:Addr}{vs:List Value}{k c:Nat}{syms:List Sy}{e:Int}
theorem lines_txt (hX:X.Ok w mean mg mb ρ) {ls:List Value}{ds:List LD} (hds:LinesAt ρ e D ls ds) (b:Bool):∀ x∈ds.map (txOf ρ · b),Tidy x∧x.length≤1000:=by
 induction hds with
 | nil=>intro x hx;cases hx
 | cons h _ ih =>
  intro x hx
  (refine zO (zC hx) ?qa0 ?qb0;(case' qb0=>clear hx;intro hx);(case' qa0=>intro Y0;subst Y0))
  ·exact tx_tidy hX h b
  ·exact ih x hx
theorem split_rows {ps:List (List Nat)} (hne:ps≠[]) (hc:∀ x∈ps,∀ c∈x,32≤c∧c<127) (hl:(joinL 10 ps++[10]).length≤100000) {k p4:Pos}{kk:Nat}{t:Tok}{Q:Value→Shared→Prop} (I:Inv ρ X D st s)
  (h:∀ D' b ws s',D.le D'→(b,lObj ws 0)∈D'.imm→StrsAre ws ((ps++[[]]).map S)→Inv ρ X D' st s'→Same s s'→Q (.ref b) s') :
  wpAny (model pw w) X.A (callWith p4 (.builtin "str.split") [.str (S (joinL 10 ps++[10])) t] [(false,eval (.Constant (.str (S [10])) kk k) X.env)] []) Q F0 s:=by
 refine callWith_one (wpAny_Constant_str ?_)
 have I':=I.add (s.toks+1)
 refine e21 (I) ?_;clear I;intro m P J
 refine splitN1 J.F J.N (by rfl) (fun l' h' kx hw F' N'=>?_) (by rw [S_len];show _≤16777216;lia)
 have hws:StrsAre (strValues l') ((ps++[[]]).map S):=by
  have:=split_is (c:=10) (ps:=ps++[[]]) (by simp) (fun p hp=>by
   (refine zO (zA hp) ?qa1 ?qb1;(case' qb1=>clear hp;intro hp);(case' qa1=>clear hp;intro hp))
   ·exact fun hm=>by have:=hc p hp 10 hm;lia
   ·rw [zS hp];exact List.not_mem_nil)
  rw [joinL_end 10 hne] at this
  rw [← this,← hw];exact strsAre_of_values l'
 exact h _ _ _ _ (Led.le_imm D _) (.head _) hws ⟨m,P,J.pushImm _ F' N'⟩ ⟨rfl,rfl,rfl⟩
theorem cmp_ok (p:Ph w mean mg mb X ρ D cb cy a hd vs k c syms) (hr:Room X 141) {b:Bool}{t tf:Tok} (hy:CellIs X cy (.str (S (syL b)) t)) {la ev:Value}{N:Int}{l:Addr}{ls:List Value}{kk:Nat}{ds:List LD} (hm:(l,lObj ls kk)∈D.imm) (hds:LinesAt ρ e D ls ds) (hll:ls.length≤4) {Q:Flow→Shared→Prop}
  (I:Inv ρ X D ⟨lb0 la a hd ev (.ref l) (.str (S (firstL b)) tf),[[.int (.ext N)]]⟩ s)
  (h:∀ D' s',D.le D'→Inv ρ X D' ⟨lb0 la a hd ev (.ref l) (.str (S (firstL b)) tf),[[.int (.ext N)]]⟩ s'→Same s s'→Q .next s'):wpAny (model pw w) X.A (exec (lwS 10) X.env) Q F0 s:=by
 have HT:=(T0_all w mean mg mb).toTabsOk
 have R:=recs_ok (T0_all w mean mg mb) 60
 have ea:=e10a la a hd ev (.ref l) (.str (S (firstL b)) tf) N
 have eb:=e10b la a hd ev (.ref l) (.str (S (firstL b)) tf) N
 rw [← p.L.cs] at ea eb
 have n0:∀ L,evName T0 X.cs ⟨lb0 la a hd ev (.ref l) (.str (S (firstL b)) tf),L⟩ (S linesN)=some (.val (.ref l)):=fun L=>by rw [p.L.cs];rfl
 have hpl:plainL (lb0 la a hd ev (.ref l) (.str (S (firstL b)) tf))=true:=rfl
 have hln:=l_10
 have hsn:=c10_names
 have hsk:=c10_kind
 have hlen:=I.lad_len
 have hdl:=hds.length
 have htx:=lines_txt p.ok hds b
 have hu:X.A.units+64<cLine:=room_units hr
 rw [lw10]
 generalize (w10P (lwS 10)).2.1=xa at ea ⊢
 generalize (w10P (lwS 10)).2.2.1=xb at eb ⊢
 generalize (w10P (lwS 10)).2.2.2=bd
 generalize ks c10.k 0=kz
 generalize c10.sc=sc at hsn hsk ⊢
 generalize p10=pp at hln ⊢
 generalize lb0 la a hd ev (.ref l) (.str (S (firstL b)) tf)=lc at I h ea eb n0 hpl
 refine wpAny_If (wpAny_isTrue_Compare1 (Call_method1 rfl rfl (pos_line hln) (Call_ (fn_ok HT p.ok (av:=.top 520) (by rw [p.L.cs];exact g_rows) I fun D₁ v₁ s₁ le₁ I₁ V₁ sm₁=>?_))))
 obtain rfl:=V₁.topI
 refine callWith_K p.ok.K (keep_ok HT g_rows) (args_cons (name_ok HT p.ok (n0 _) I₁ fun D₂ v₂ s₂ le₂ I₂ V₂ sm₂=>args_cons (syn_name p.L p.ok hy I₂ (args_nil ⟨p.ok.K.keeps I₂.hk,?_⟩))))
 obtain rfl:=V₂.valI
 have le2:=le₁.trans le₂
 refine rows_ok (le2.imm _ hm) (hds.up fun _ _=>LineAt.mono le2) (by (exact Nat.le_trans (by assumption) (by decide))) p.ok (hr.down (by decide)) I₂ (.top 520) fun D₃ s₃ t₃ le₃ I₃ sm₃=>?_
 have le3:=le2.trans le₃
 have hchr:∀ x∈firstL b::ds.map (txOf ρ · b),∀ c∈x,32≤c∧c<127:=fun x hx=>by
  (refine zO (zC hx) ?qa2 ?qb2;(case' qb2=>clear hx;intro hx);(case' qa2=>intro Y0;subst Y0))
  ·exact first_chars b
  ·exact tdL_chars (htx x hx).1
 have hall:∀ x∈firstL b::ds.map (txOf ρ · b),x.length≤1000:=fun x hx=>by
  (refine zO (zC hx) ?qa3 ?qb3;(case' qb3=>clear hx;intro hx);(case' qa3=>intro Y0;subst Y0))
  ·have:=first_len b;(exact Nat.le_trans (by assumption) (by decide))
  ·exact (htx x hx).2
 have hjl:∀ l:List (List Nat),(∀ x∈l,x.length≤1000)→(joinL 10 l).length≤1001*l.length:=fun l=>by
  induction l with
  | nil=>intro _;exact Nat.zero_le _
  | cons a l ih =>
   intro h
   have h1:=ih fun x hx=>h x (.tail _ hx)
   have h2:=h a (.head _)
   by_cases q:l=[]
   ·subst q;simp only [joinL,List.length_cons,List.length_nil];(exact Nat.le_trans (by assumption) (by decide))
   ·rw [joinL_cons 10 a q];simp only [List.length_append,List.length_cons];lia
 have hjb:=hjl _ hall
 rw [List.length_cons,List.length_map] at hjb
 rw [← split_eq]
 refine onS F.plainAttrs_str F.slot_str_split rfl (typeIs_str _ _ _) (fun a e=>nomatch e) (split_rows (List.cons_ne_nil _ _) hchr (by rw [List.length_append,List.length_singleton];lia) I₃ fun D₄ rb ws s₄ le₄ hrm hws I₄ sm₄=>?_)
 have le4:=le3.trans le₄
 refine wpAny_BinOp (wpAny_BinOp (R.1 _ _ _ _ _ ea ρ X D₄ s₄ _ rfl p.ok (hr.down (by decide)) I₄ fun D₅ v₅ s₅ le₅ I₅ V₅ sm₅=>?_))
 refine e12 (id V₅.locI) ?_;intro fa _ Y2;subst Y2
 refine e35 (freezeL (D₀:=D₄) I₅ hpl V₅ (by rw [I₄.lad_len];exact Nat.le_refl 1) le₅) ?_;clear I₅ V₅ I₄ le₅;intro ws₅ k₅ D₆ le₆ hi₆ hm₆ hv₆ I₆
 refine e23 (hv₆.consI) ?_;clear hv₆;intro _ _ x₅ y₅ Y4;subst Y4
 obtain rfl:=y₅.nilI
 obtain rfl:=x₅.valI
 have le6:=le4.trans le₆
 refine writes_ok (p.mono le6) (hr.down (by decide)) hy (le6.imm _ hm) (hds.up fun _ _=>LineAt.mono le6) hll hpl n0 hsn hsk I₆ fun D₇ s₇ r₇ ws₇ k₇ le₇ hm₇ hv₇ I₇ sm₇=>?_
 have hl7:ws₇.length=ds.length:=by rw [hv₇.length];simp
 refine add_two I₇ (le₇.imm _ hm₆) hm₇ (by rw [hl7];simp only [List.length_singleton];lia) fun D₈ r₈ k₈ s₈ le₈ hm₈ I₈ sm₈=>?_
 have le8:=(le6.trans le₇).trans le₈
 refine R.1 _ _ _ _ _ eb ρ X D₈ s₈ _ rfl p.ok (hr.down (by decide)) I₈ fun D₉ v₉ s₉ le₉ I₉ V₉ sm₉=>?_
 refine e12 (id V₉.locI) ?_;intro fb _ Y2;subst Y2
 refine e35 (freezeL (D₀:=D₈) I₉ hpl V₉ (by rw [I₈.lad_len];exact Nat.le_refl 1) le₉) ?_;intro ws₉ k₉ D₁₀ le₁₀ hi₁₀ hm₁₀ hv₁₀ I₁₀
 refine e23 (hv₁₀.consI) ?_;clear hv₁₀;intro _ _ x₉ y₉ Y4;subst Y4
 obtain rfl:=y₉.nilI
 refine e11 (x₉.strI) ?_;clear x₉;intro t₉ Y1;subst Y1
 refine add_two I₁₀ (le₁₀.imm _ hm₈) hm₁₀ (by simp only [List.length_append,List.length_cons,List.length_nil];lia) fun D₁₁ r₁₁ k₁₁ s₁₁ le₁₁ hm₁₁ I₁₁ sm₁₁=>?_
 have le11:=(le8.trans le₁₀).trans le₁₁
 refine ne_strs (ns:=(firstL b::ds.map (txOf ρ · b))++[[]]) I₁₁ ((((le₆.trans le₇).trans le₈).trans (le₁₀.trans le₁₁)).imm _ hrm) hm₁₁ hws ?_ (fun x hx c hc=>?_) hu ?_
 ·rw [List.map_append,List.map_cons]
  exact (StrsAre.append' (StrsAre.append' (.cons _ tf .nil) hv₇) (.cons _ t₉ .nil))
 ·(refine zO (zA hx) ?qa4 ?qb4;(case' qb4=>clear hx;intro hx);(case' qa4=>clear hx;intro hx))
  ·exact (hchr x hx c hc).2
  ·rw [zS hx] at hc;exact absurd hc List.not_mem_nil
 refine wpAny_truthy_bool ?_
 refine wpAny_execs_nil (h D₁₁ s₁₁ le11 I₁₁ ?_)
 exact ((((((((((sm₁.trans sm₂).trans sm₃).trans sm₄).trans sm₅).trans sm₇).trans sm₈).trans sm₉).trans sm₁₁)))
end
end
section
noncomputable def c11:CmpP:=w7Q (lwS 11)
noncomputable def p11 (i:Nat):Pos:=at0 c11.p i
theorem lw11:lwS 11=.Assign [.Name (S octetsN) (p11 0)] (.ListComp (.Call (.Name (S takeN) (p11 1)) [.Name (S bagN) (p11 2),.Constant (.int 256) (ks c11.k 1) (p11 13)] [] (p11 3)) [⟨.Name (S turnN) (p11 4),.Call (.Name (S rangeN) (p11 5)) [.Call (.Name (S takeN) (p11 6)) [.Name (S bagN) (p11 7),.Constant (.int 23) (ks c11.k 0) (p11 8)] [] (p11 9)] [] (p11 10),[],0⟩] c11.sc (p11 11)) (p11 12):=by kernel_rfl
theorem c11_names:c11.sc.names=[(S [46,48],.local),(S turnN,.local),(S takeN,.globalImplicit),(S bagN,.free)]:=by kernel_rfl
theorem c11_kind:c11.sc.kind=.function:=by kernel_rfl
theorem c11_sw (cn:Str) (L a:Addr) (ccd:Value) (cl:List (Str×Addr)):swapsWith (.ListComp (.Call (.Name (S takeN) (p11 1)) [.Name (S bagN) (p11 2),.Constant (.int 256) (ks c11.k 1) (p11 13)] [] (p11 3)) [⟨.Name (S turnN) (p11 4),.Call (.Name (S rangeN) (p11 5)) [.Call (.Name (S takeN) (p11 6)) [.Name (S bagN) (p11 7),.Constant (.int 23) (ks c11.k 0) (p11 8)] [] (p11 9)] [] (p11 10),[],0⟩] c11.sc (p11 11)) (some (.Name (S octetsN) (p11 0))) (p11 12).line (envX cn s712.1 L a ccd cl)=pure true:=by kernel_rfl
noncomputable def lb1 (la:Value) (a hd:Addr) (ev lv fv ov:Value):Locs:=lb0 la a hd ev lv fv++[(octetsN,.val ov)]
noncomputable def lb2 (la:Value) (a hd:Addr) (ev lv fv ov tv:Value):Locs:=lb1 la a hd ev lv fv ov++[(textN,.val tv)]
section
variable {w:World}{mean:ExcName→Option Value}{mg mb:Str→Option Value}{n:Nat}{ρ:Rho}{X:FX}{D D₀:Led}{st:St}{s s₀:Shared}{loc:Locs}{lst rest:List (List AV)}{items:List AV}{cb cy a hd:Addr}{vs:List Value}{k c:Nat}{syms:List Sy}{e:Int}
theorem octets_ok (p:Ph w mean mg mb X ρ D cb cy a hd vs k c syms) (hr:Room X 133) {la ev lv fv:Value}{N:Int}{Q:Flow→Shared→Prop} (I:Inv ρ X D ⟨lb0 la a hd ev lv fv,[[.int (.ext N)]]⟩ s)
  (h:∀ N' D' s' oa ws kk os,D.le D'→(oa,lObj ws kk)∈D'.imm→IntsAre ws os→(∀ o∈os,0≤o∧o<256)→os.length≤22→Inv ρ X D' ⟨lb1 la a hd ev lv fv (.ref oa),[[.int (.ext N')]]⟩ s'→Same s s'→Q .next s'):wpAny (model pw w) X.A (exec (lwS 11) X.env) Q F0 s:=by
 have HT:=(T0_all w mean mg mb).toTabsOk
 have c11n:=c11_names
 have c11k:=c11_kind
 have hsw:=c11_sw X.cn X.L X.a X.ccd X.cl
 rw [← p.L.cs] at hsw
 have hclos:closureFor c11.sc X.env=pure [(S bagN,cb)]:=clos1 c11n p.L.cl1
 have hlen:=I.lad_len
 rw [lw11]
 generalize c11.sc=sc at c11n c11k hsw hclos ⊢
 generalize ks c11.k 0=kk at hsw ⊢
 generalize ks c11.k 1=kk1 at hsw ⊢
 generalize p11=pp at hsw ⊢
 refine comp_bind (ρ:=ρ) p.ok hsw hclos (by rw [c11n];decide) c11k (by rw [c11n];decide) (by rw [c11n];rfl) (fun x=>rfl) (by rw [p.L.cs];rfl) ?_
 refine range_take (rest:=[]) p.L p.ok hr p.bag I (m:=23) (by decide) fun D₁ It o cnt s₁ hc le₁ t₁ I₁ sh₁ sm₁=>?_
 refine ⟨It,o,[It],cnt,_,_,D₁,_,[[.int (.ext (N / 23))]],fun j D b it=>∃ N' ws os,b=[[.int (.ext N')]]∧it=ws.map AV.val∧IntsAre ws os∧(∀ o∈os,0≤o∧o<256)∧os.length=j,rfl,by lia,t₁,I₁,sh₁,fun D' le=>⟨N / 23,[],[],rfl,rfl,.nil,(fun _ h=>nomatch h),rfl⟩,fun C hCI hCfx=>?_,fun D₂ base' items s₂ le₂ hb₂ ok₂ I₂ sm₂=>?_⟩
 ·intro j u o' oC m D' base items s' Qe hi' pv le ok hb hlen' I' hns hv hq
  refine e35 (ok) ?_;clear ok;intro N' ws os Y3 Y4 hws hos hl;subst Y3;subst Y4
  have hXc:((X.with It o').with C oC).Ok w mean mg mb ρ:=okWith (okWith p.ok)
  refine Call_ (compG HT c11k p.ok (by rw [c11n];rfl) rfl g_takeL I' fun D₄ fv₄ s₄ le₄ I₄ V₄ sm₄=>?_)
  obtain rfl:=V₄.topI
  refine callWith_K p.ok.K (HT.keep _ _ g_takeL) (args_cons (bag_comp c11k p.L p.ok (by rw [c11n];rfl) (p.bag.mono ((le₁.trans le).trans le₄)) I₄ fun bv hbv=>args_cons (wpAny_Constant_int (args_nil ⟨p.ok.K.keeps I₄.hk,?_⟩))))
  refine tk_ok (X:=(X.with It o').with C oC) (rest:=[ws.map AV.val]) (m:=256) (by decide) hXc (hr.down (by decide)) (I₄.add _) (.top 646) hbv fun D'' s'' t'' le'' I'' sm''=>?_
  have r0:=Int.emod_nonneg N' (show (256:Int)≠0 by decide)
  have r1:=Int.emod_lt_of_pos N' (show (0:Int)<256 by decide)
  refine hq D'' [[.int (.ext (N' / 256))]] _ s'' (le₄.trans le'') rfl I'' (sm₄.trans ⟨sm''.gens,sm''.drawn,sm''.os⟩) ⟨N' / 256,ws++[.int (N' % 256) t''],os++[N' % 256],rfl,by rw [List.map_append];rfl,hws.append (.cons _ _ .nil),fun o ho=>?_,by rw [List.length_append,hl];rfl⟩
  rcases zA ho with ho|ho
  ·exact hos o ho
  ·rw [zS ho];exact ⟨r0,r1⟩
 ·refine e35 (ok₂) ?_;clear ok₂;intro N' ws os Y3 Y4 hws hos hl;subst Y3;subst Y4
  have I₂:Inv ρ X D₂ ⟨lb0 la a hd ev lv fv++[(octetsN,.loc 1)],[[.int (.ext N')],ws.map AV.val]⟩ s₂:=I₂
  refine e44 (freeze1 I₂ rfl rfl) ?_;clear I₂;intro l ws' kk' D₃ le₃ hD₃ hv₃ I₃
  obtain rfl:=vals_eq hv₃
  subst hD₃
  have hl1:D.lad.length≤1:=by rw [hlen];exact Nat.le_refl 1
  have leF:D.le ⟨(l,lObj ws' kk')::D₂.imm,D₂.lad.take 1⟩:=((le₁.trans le₂).cut hl1).trans (Led.le_imm ⟨D₂.imm,D₂.lad.take 1⟩ _)
  exact h N' _ s₂ l ws' kk' os leF (.head _) hws hos (by lia) I₃ (sm₁.trans sm₂)
end
noncomputable def badL:List Nat:=[40,98,97,100,41]
noncomputable def w12P (zs:Stmt):List Pos×List Nat:=((atL zs [1,266306,528450,4162,8258,66,4226,270466,532610,8322,12418,130,194,2,0]),[(atK zs 8258),(atK zs 532610),(atK zs 194)])
noncomputable def p12 (i:Nat):Pos:=at0 (w12P (lwS 12)).1 i
noncomputable def k12 (i:Nat):Nat:=ks (w12P (lwS 12)).2 i
theorem lw12:lwS 12=.Assign [.Name (S textN) (p12 0)] (.IfExp (.Compare (.Call (.Name (S lenN) (p12 1)) [.Name (S linesN) (p12 2)] [] (p12 3)) [.Gt] [.Constant (.int 0) (k12 0) (p12 4)] (p12 5)) (.Call (.Name (S writeOneN) (p12 6)) [.Subscript (.Name (S linesN) (p12 7)) (.Constant (.int 0) (k12 1) (p12 8)) (p12 9),.Name (S syntaxN) (p12 10)] [] (p12 11)) (.Constant (.str (S badL)) (k12 2) (p12 12)) (p12 13)) (p12 14):=by kernel_rfl
theorem g_oneF:evFn T0 s712.1 (S writeOneN)=some (.top 513):=by kernel_rfl
section
variable {w:World}{mean:ExcName→Option Value}{mg mb:Str→Option Value}{n:Nat}{ρ:Rho}{X:FX}{D D₀:Led}{st:St}{s s₀:Shared}{loc:Locs}{lst rest:List (List AV)}{items:List AV}{cb cy a hd:Addr}{vs:List Value}{k c:Nat}{syms:List Sy}{e:Int}
theorem text_ok (p:Ph w mean mg mb X ρ D cb cy a hd vs k c syms) (hr:Room X 133) {b:Bool}{t:Tok} (hy:CellIs X cy (.str (S (syL b)) t)) {la ev fv ov:Value}{N:Int}{l:Addr}{ls:List Value}{kk:Nat}{ds:List LD} (hm:(l,lObj ls kk)∈D.imm) (hds:LinesAt ρ e D ls ds) (hll:ls.length≤4) {Q:Flow→Shared→Prop}
  (I:Inv ρ X D ⟨lb1 la a hd ev (.ref l) fv ov,[[.int (.ext N)]]⟩ s)
  (h:∀ D' s' tx t',D.le D'→Tidy tx→tx.length≤1000→Inv ρ X D' ⟨lb2 la a hd ev (.ref l) fv ov (.str (S tx) t'),[[.int (.ext N)]]⟩ s'→Same s s'→Q .next s'):wpAny (model pw w) X.A (exec (lwS 12) X.env) Q F0 s:=by
 have HT:=(T0_all w mean mg mb).toTabsOk
 have n0:∀ L,evName T0 X.cs ⟨lb1 la a hd ev (.ref l) fv ov,L⟩ (S linesN)=some (.val (.ref l)):=fun L=>by rw [p.L.cs];rfl
 have hst:∀ D' tx t' s',D.le D'→Tidy tx→tx.length≤1000→Inv ρ X D' ⟨lb1 la a hd ev (.ref l) fv ov,[[.int (.ext N)]]⟩ s'→Same s s'→wpAny (model pw w) X.A (storeName X.env (S textN) (.str (S tx) t')) (fun _ s'=>Q .next s') F0 s':=fun D' tx t' s' le h1 h2 I' sm =>
  store_ok (x:=S textN) p.ok (by rw [p.L.cs];rfl) I' (.val _) fun s'' I'' sm''=>h D' s'' tx t' le h1 h2 I'' (sm.trans sm'')
 rw [lw12]
 generalize p12=pp
 generalize k12=kz
 generalize lb1 la a hd ev (.ref l) fv ov=lc at I hst n0
 refine wpAny_Assign_Name (wpAny_IfExp (wpAny_isTrue_Compare1 (len_fx p.L p.ok (n0 _) I (zL _ hm) (by (exact Nat.le_trans (by assumption) (by decide))) fun D₂ s₂ t₂ le₂ I₂ sm₂=>wpAny_Constant_int (PyProof.Rows.gt_int (wpAny_truthy_bool ?_)))))
 cases hds with
 | nil =>
  rw [show (decide ((([]:List Value).length:Int) > 0))=false from rfl,if_neg zF]
  exact wpAny_Constant_str (hst D₂ badL _ _ le₂ (show tdL badL true=some false by decide) (by decide) ((I₂.add _).add _) (sm₂.trans ⟨rfl,rfl,rfl⟩))
 | cons hd hrest =>
  rename_i v d ls ds
  rw [show (decide (((v::ls).length:Int) > 0))=true by simp,if_pos rfl]
  refine Call_ (fn_ok HT p.ok (av:=.top 513) (by rw [p.L.cs];exact g_oneF) (I₂.add _) fun D₃ v₃ s₃ le₃ I₃ V₃ sm₃=>?_)
  obtain rfl:=V₃.topI
  refine callWith_K p.ok.K (keep_ok HT g_oneF) (args_cons (Subscript_ (name_ok HT p.ok (n0 _) I₃ fun D₄ v₄ s₄ le₄ I₄ V₄ sm₄=>wpAny_Constant_int ?_)))
  obtain rfl:=V₄.valI
  have le4:=(le₂.trans le₃).trans le₄
  have I₅:=I₄.add (s₄.toks+1)
  have hg:=I₅.fx_obj (p:=(l,lObj (v::ls) kk)) (zL _ (le4.imm _ hm))
  refine tail_any (T:="list") ⟨_,hg,rfl⟩ slot_list_getitem.lookup (wpAny_getItem_list (k:=(0:Int)) ⟨_,hg,rfl,_,rfl⟩ (by decide) (by decide) (x:=v) (by simp) ?_) (sub_ok (fun _ _ _ _ h=>by cases h) _ _)
  refine args_cons (syn_name p.L p.ok hy I₅ (args_nil ⟨p.ok.K.keeps I₅.hk,?_⟩))
  refine one_ok p.ok hr I₅ (hd.mono le4) (.top 513) fun D₆ s₆ t₆ le₆ I₆ sm₆=>?_
  have htx:=tx_tidy p.ok hd b
  exact hst D₆ _ t₆ s₆ (le4.trans le₆) htx.1 htx.2 I₆ (sm₂.trans (Same.trans (a:=s₂) ⟨sm₃.gens,sm₃.drawn,sm₃.os⟩ (sm₄.trans ⟨sm₆.gens,sm₆.drawn,sm₆.os⟩)))
end
end
section
noncomputable def dumpedN:List Nat:=[95,108,97,119,95,105,115,95,100,117,109,112,101,100]
noncomputable def w13P (zs:Stmt):List Pos:=(atL zs [4161,8257,65,4225,270465,532609,8321,12417,16513,129,1,0])
noncomputable def p13 (i:Nat):Pos:=at0 (w13P (lwS 13)) i
theorem lw13:lwS 13=.Return (some (.BoolOp .And [.Compare (.Name (S symbolsN) (p13 0)) [.Eq] [.Name (S heldN) (p13 1)] (p13 2),.Call (.Name (S dumpedN) (p13 3)) [.Call (.Name (S lawPlaceN) (p13 4)) [.Name (S bagN) (p13 5)] [] (p13 6),.Name (S octetsN) (p13 7),.Name (S textN) (p13 8)] [] (p13 9)] (p13 10))) (p13 11):=by kernel_rfl
theorem g_dumped:evFn T0 s712.1 (S dumpedN)=some (.top 707):=by kernel_rfl
noncomputable abbrev syD (x:Sy):Dat:=.tuple [.int x.1,.str (S x.2)]
theorem SymVs.dat {news:List (Addr×Obj)}{vs:List Value}{syms:List Sy} (h:SymVs news vs syms):DatAll news vs (syms.map syD):=by
 induction h with
 | nil=>exact .nil
 | cons hm _ ih=>exact .cons (.tuple hm (.cons (.int _ _) (.cons (.str _ _) .nil))) ih
theorem syD_ok {x:Sy} (h:SyOk x):kqdOk 8 (syD x)=true:=by
 have:PyData.strOk (S x.2)=true:=good_cases (P:=fun x=>PyData.strOk (S x)=true) ⟨by kernel_rfl,by kernel_rfl,by kernel_rfl,by kernel_rfl,by kernel_rfl⟩ x.2 h.2.2
 show List.all [Dat.int x.1,Dat.str (S x.2)] (kqdOk 7)=true
 simp [List.all,kqdOk,this]
section
variable {w:World}{mean:ExcName→Option Value}{mg mb:Str→Option Value}{n:Nat}{ρ:Rho}{X:FX}{D D₀:Led}{st:St}{s s₀:Shared}{loc:Locs}{lst rest:List (List AV)}{items:List AV}{cb cy a hd:Addr}{vs:List Value}{k c:Nat}{syms:List Sy}{e:Int}
theorem held_eq (p:Ph w mean mg mb X ρ D cb cy a hd vs k c syms) (hr:Room X 133) (I:Inv ρ X D st s) {Q:Value→Shared→Prop} (h:Q (.bool true) s):wpAny (model pw w) X.A (compareOp .Eq (.ref a) (.ref hd)) Q F0 s:=by
 refine e21 (I) ?_;clear I;intro m P J
 have hD:=p.sym.vs.dat
 have ok:∀ d∈syms.map syD,kqdOk 8 d=true:=fun d hd=>by
  refine e12 (List.mem_map.mp hd) ?_;clear hd;intro x hx Y2;subst Y2
  exact syD_ok (p.sym.ok x hx)
 have hsub:∀ q∈X.hx,q∈P++(D.imm++X.fx):=fun q hq=>zR _ (zR _ (p.ok.held q hq))
 refine kqd_eq (oa:=lObj vs k) (ob:=lObj vs c) J.N (zR _ (zR _ p.mem)) rfl rfl hD hsub (zR _ (zR _ p.held)) rfl rfl hD hsub ok ok (room_units hr) ?_
 have e:∀ (i:Decidable (syms.map syD=syms.map syD)),@decide _ i=true:=fun i=>decide_eq_true rfl
 rw [e];exact h
theorem ret_ok (p:Ph w mean mg mb X ρ D cb cy a hd vs k c syms) (hr:Room X 140) {la ev lv fv:Value}{N:Int}{oa:Addr}{ws:List Value}{kk:Nat}{os:List Int}{tx:List Nat}{t:Tok} (hm:(oa,lObj ws kk)∈D.imm) (hi:IntsAre ws os) (ho:∀ o∈os,0≤o∧o<256) (hl:os.length≤22) (htx:tx.length≤1000) (ht:Tidy tx) {Q:Flow→Shared→Prop}
  (I:Inv ρ X D ⟨lb2 la a hd ev lv fv (.ref oa) (.str (S tx) t),[[.int (.ext N)]]⟩ s)
  (h:∀ D' st' s',D.le D'→Inv ρ X D' st' s'→Same s s'→Q (.ret (.bool true)) s'):wpAny (model pw w) X.A (exec (lwS 13) X.env) Q F0 s:=by
 have HT:=(T0_all w mean mg mb).toTabsOk
 have n1:∀ L,evName T0 X.cs ⟨lb2 la a hd ev lv fv (.ref oa) (.str (S tx) t),L⟩ (S symbolsN)=some (.val (.ref a)):=fun L=>by rw [p.L.cs];rfl
 have n2:∀ L,evName T0 X.cs ⟨lb2 la a hd ev lv fv (.ref oa) (.str (S tx) t),L⟩ (S heldN)=some (.val (.ref hd)):=fun L=>by rw [p.L.cs];rfl
 have n3:∀ L,evName T0 X.cs ⟨lb2 la a hd ev lv fv (.ref oa) (.str (S tx) t),L⟩ (S octetsN)=some (.val (.ref oa)):=fun L=>by rw [p.L.cs];rfl
 have n4:∀ L,evName T0 X.cs ⟨lb2 la a hd ev lv fv (.ref oa) (.str (S tx) t),L⟩ (S textN)=some (.val (.str (S tx) t)):=fun L=>by rw [p.L.cs];rfl
 rw [lw13]
 generalize p13=pp
 generalize lb2 la a hd ev lv fv (.ref oa) (.str (S tx) t)=lc at I n1 n2 n3 n4
 refine wpAny_Return_some (wpAny_And2 (wpAny_Compare1 (name_ok HT p.ok (n1 _) I fun D₁ v₁ s₁ le₁ I₁ V₁ sm₁=>name_ok HT p.ok (n2 _) I₁ fun D₂ v₂ s₂ le₂ I₂ V₂ sm₂=>?_)))
 obtain rfl:=V₁.valI
 obtain rfl:=V₂.valI
 have le2:=le₁.trans le₂
 refine held_eq (p.mono le2) (hr.down (by decide)) I₂ (wpAny_truthy_bool ?_)
 rw [if_pos rfl]
 refine Call_ (fn_ok HT p.ok (av:=.top 707) (by rw [p.L.cs];exact g_dumped) I₂ fun D₃ v₃ s₃ le₃ I₃ V₃ sm₃=>?_)
 obtain rfl:=V₃.topI
 have le3:=le2.trans le₃
 refine callWith_K p.ok.K (keep_ok HT g_dumped) (args_cons (place_call (rest:=[]) p.L p.ok (hr.down (by decide)) (p.bag.mono le3) I₃ fun N₄ D₄ s₄ P t₄ le₄ I₄ hp0 hp1 sm₄=>args_cons (name_ok HT p.ok (n3 _) I₄ fun D₅ v₅ s₅ le₅ I₅ V₅ sm₅=>args_cons (name_ok HT p.ok (n4 _) I₅ fun D₆ v₆ s₆ le₆ I₆ V₆ sm₆=>args_nil ⟨p.ok.K.keeps I₆.hk,?_⟩))))
 obtain rfl:=V₅.valI
 obtain rfl:=V₆.valI
 have le6:=((le3.trans le₄).trans le₅).trans le₆
 refine dumped_ok (le6.imm _ hm) hi ho hl ⟨hp0,hp1⟩ htx ht p.ok (hr.down (by decide)) I₆ (.top 707) fun D₇ s₇ le₇ I₇ sm₇=>?_
 exact h D₇ _ s₇ (le6.trans le₇) I₇ ((((((sm₁.trans sm₂).trans sm₃).trans sm₄).trans sm₅).trans sm₆).trans sm₇)
noncomputable def Kept (X:FX) (s:Shared):Prop:=∀ b o,X.h₀.get? b=some o→s.heap.get? b=some o
theorem kept_of (I:Inv ρ X D st s):Kept X s:=let ⟨_,_,J⟩:=I;J.F.keep
theorem lw_body:b712.1=lwS 0::lwS 1::lwS 2::lwS 3::[lwS 4,lwS 5,lwS 6,lwS 7,lwS 8,lwS 9,lwS 10,lwS 11,lwS 12,lwS 13]:=by kernel_rfl
theorem tail2 (p:Ph w mean mg mb X ρ D cb cy a hd vs k c syms) (hr:Room X 150) {b:Bool}{t:Tok} (hy:CellIs X cy (.str (S (syL b)) t)) {la:Value}{N:Int}{Q:Flow→Shared→Prop} (I:Inv ρ X D ⟨la4 la a hd,[[.int (.ext N)]]⟩ s)
  (h:∀ s',Kept X s'→Same s s'→Q (.ret (.bool true)) s'):wpAny (model pw w) X.A (execs [lwS 6,lwS 7,lwS 8,lwS 9,lwS 10,lwS 11,lwS 12,lwS 13] X.env) Q F0 s:=by
 refine wpAny_hide fun Qh hQ=>?_
 have h:∀ s',Kept X s'→Same s s'→Qh (.ret (.bool true)) s':=fun s' kp sm=>hQ _ _ (h s' kp sm)
 clear hQ
 refine wpAny_execs_cons (end_ok p (hr.down (by decide)) I fun N₄ D₄ s₄ e te le₄ I₄ he0 he1 sm₄=>?_)
 refine wpAny_execs_cons (lines_ok (p.mono le₄) (hr.down (by decide)) e I₄ fun N₅ D₅ s₅ l ls kk ds le₅ hm₅ hds hll I₅ sm₅=>?_)
 have p5:=p.mono (le₄.trans le₅)
 refine wpAny_execs_cons (isline_loop p5 (hr.down (by decide)) ⟨he0,he1⟩ hy hm₅ hds I₅ fun D₆ s₆ le₆ I₆ sm₆=>?_)
 refine wpAny_execs_cons (first_ok (p5.mono le₆) hy I₆ fun s₇ t₇ I₇ sm₇=>?_)
 refine wpAny_execs_cons (cmp_ok (p5.mono le₆) (hr.down (by decide)) hy (le₆.imm _ hm₅) (hds.up fun _ _=>LineAt.mono le₆) hll I₇ fun D₈ s₈ le₈ I₈ sm₈=>?_)
 have le8:=le₆.trans le₈
 refine wpAny_execs_cons (octets_ok (p5.mono le8) (hr.down (by decide)) I₈ fun N₉ D₉ s₉ oa ws k₉ os le₉ hm₉ hi₉ ho₉ hl₉ I₉ sm₉=>?_)
 have le9:=le8.trans le₉
 refine wpAny_execs_cons (text_ok (p5.mono le9) (hr.down (by decide)) hy (le9.imm _ hm₅) (hds.up fun _ _=>LineAt.mono le9) hll I₉ fun D₁₀ s₁₀ tx t₁₀ le₁₀ ht hx I₁₀ sm₁₀=>?_)
 refine wpAny_execs_cons (ret_ok (p5.mono (le9.trans le₁₀)) (hr.down (by decide)) (le₁₀.imm _ hm₉) hi₉ ho₉ hl₉ hx ht I₁₀ fun D₁₁ st₁₁ s₁₁ le₁₁ I₁₁ sm₁₁=>?_)
 exact h s₁₁ (kept_of I₁₁) (((((((((sm₄.trans sm₅).trans sm₆).trans sm₇).trans sm₈).trans sm₉).trans sm₁₀).trans sm₁₁)))
theorem tail1 (p:Ph w mean mg mb X ρ D cb cy a hd vs k c syms) (hr:Room X 150) {oy:Obj} (hy:(cy,oy)∈X.fx) (hoy:oy.data=.cell none) {la:Value}{N:Int}{Q:Flow→Shared→Prop} (I:Inv ρ X D ⟨la4 la a hd,[[.int (.ext N)]]⟩ s)
  (h:∀ s',Kept X s'→Same s s'→Q (.ret (.bool true)) s'):wpAny (model pw w) X.A (execs [lwS 4,lwS 5,lwS 6,lwS 7,lwS 8,lwS 9,lwS 10,lwS 11,lwS 12,lwS 13] X.env) Q F0 s:=by
 refine wpAny_execs_cons (near_loop p (hr.down (by decide)) I fun D₂ s₂ N₂ le₂ I₂ sm₂=>?_)
 refine wpAny_execs_cons (syn_ok (p.mono le₂) hy hoy (hr.down (by decide)) I₂ fun f₃ b t₃ N₃ D₃ s₃ p₃ hc₃ I₃ sm₃=>?_)
 exact tail2 (X:=X.re2 f₃ X.hx) p₃ hr hc₃ I₃ fun s' kp sm=>h s' kp ((sm₂.trans sm₃).trans sm)
theorem law_body {oy ob:Obj}{la:Addr}{vs:List Value}{ns:List Int}{Q:Flow→Shared→Prop} (L:LawX X cb cy) (hfx:X.fx=[(cy,oy),(cb,ob)]) (hxx:X.hx=[]) (hoy:oy.data=.cell none) (hob:ob.data=.cell none) (hX:X.Ok w mean mg mb rho0) (hr:Room X 150) (hi:IntsAre vs ns) (hn:ns.length≤100) (hl:X.h₀.IsList la vs.toArray)
  (I:Inv rho0 X ⟨[],[]⟩ ⟨[(scriptN,.val (.ref la))],[]⟩ s)
  (h:∀ s',Kept X s'→Same s s'→Q (.ret (.bool true)) s') :
  wpAny (model pw w) X.A (execs b712.1 X.env) Q F0 s:=by
 rw [lw_body]
 refine pro_ok L hfx hxx hoy hob hX (hr.down (by decide)) hi hn hl I fun f2 hx2 ρ2 D₁ a hd vs' k c syms N₁ s₁ p₁ hy₁ I₁ sm₁=>?_
 exact tail1 (X:=X.re2 f2 hx2) p₁ hr hy₁ hoy I₁ fun s' kp sm=>h s' kp (sm₁.trans sm)
end
end
end Nn62
end
section
open PySem PySem.W PySem.Calls PyProof.Rows
namespace Nn62
section
theorem law_scope:(lawD pw).scope=s712.1:=by kernel_rfl
theorem law_blk:(lawD pw).body=b712.1:=by kernel_rfl
theorem law_cells (L:Nat):cellsFrom L s712.1.names []=[(S syntaxN,L+1),(S bagN,L)]:=by kernel_rfl
theorem law_kind:s712.1.kind=.function:=by kernel_rfl
theorem law_loc:s712.1.names.lookup (S scriptN)=some .local:=by kernel_rfl
theorem law_dflt:(lawD pw).params.defaults=[]:=by kernel_rfl
theorem law_isco:s712.1.isCoroutine=false:=by kernel_rfl
theorem law_isgen:s712.1.isGenerator=false:=by kernel_rfl
theorem law_bind (n:Str) (sc:Scope) (pm cd doc v:Value):bindArgs (docDef n (lawD pw).params b712.1 sc pm cd doc) ⟨[v],[]⟩=pure [(S scriptN,v)]:=by kernel_rfl
theorem law_noC (n:Str) (L a:Addr) (cd v:Value):bindC (envOfC n s712.1 L a cd).kindOf [(S scriptN,v)] (fun _=>none) (S syntaxN)=none∧bindC (envOfC n s712.1 L a cd).kindOf [(S scriptN,v)] (fun _=>none) (S bagN)=none:=⟨by kernel_rfl,by kernel_rfl⟩
theorem law_L (n:Str) (L a:Addr) (cd v:Value):bindL (envOfC n s712.1 L a cd).kindOf [(S scriptN,v)] (fun _=>none) (S scriptN)=some v:=by kernel_rfl
theorem law_env (n:Str) (L:Nat) (a:Addr) (cd:Value):envOfC n s712.1 L a cd=envX n s712.1 L a cd [(S syntaxN,L+1+1),(S bagN,L+1)]:=by unfold envOfC;rw [law_cells]
theorem walk:WalkK:=by
 intro w s₀ s₁ mg mb G KX a o pm cd doc dV kV ho hdata hcd hD hmg hgens args vals as hpre hlay hrd hwl hlo
 refine Ground.open G ?_
 intro T B D TE TW
 clear B D TE TW
 wrow_args hpre hlay hrd hwl hlo
 rename_i ns _ _ _ _ _ _ _ la vs _ hL _ _ _ hI _ hlen _
 have hn:ns.length≤100:=by omega
 obtain rfl:=hD.none law_dflt
 obtain rfl:=hD.noKw
 have hdata:o.data=Data.func (docDef (lawD pw).name (lawD pw).params b712.1 s712.1 pm cd doc):=by rw [← law_scope,← law_blk];exact hdata
 generalize (lawD pw).name=nm at hdata hcd
 refine wpAny_call (call_cellsN_ret (doc:=doc) (pm:=pm) (cd:=cd) (by decide) ho hdata T.nolimit hcd (law_bind nm _ pm cd doc _) (fun x hx=>?_) ?_ (fun h₁ tk cells F N C=>?_) law_isco law_isgen law_kind)
 ·rw [zS hx];exact .inl law_loc
 ·rw [law_cells];decide
 rw [law_cells] at C
 refine e23 (C.two) ?_;clear C;intro oy ob Y2 hoy hob;subst Y2
 rw [(law_noC nm _ a cd _).1] at hoy
 rw [(law_noC nm _ a cd _).2] at hob
 have F1:=law_L nm s₁.heap.objs.size a cd (.ref la)
 generalize bindL (envOfC nm s712.1 s₁.heap.objs.size a cd).kindOf [(S scriptN,Value.ref la)] (fun _=>none)=m0 at F F1
 rw [law_env]
 let X:FX:={dp:=callerA.depth+1,un:=callerA.units+3,gd:=callerA.guards,cn:=nm,cs:=s712.1,L:=s₁.heap.objs.size,a:=a,ccd:=cd,cl:=[(S syntaxN,s₁.heap.objs.size+1+1),(S bagN,s₁.heap.objs.size+1)],outer:=[],A₀:=callerA,base:=s₁.heap,h₀:=s₁.heap,fx:=[(s₁.heap.objs.size+1+1,oy),(s₁.heap.objs.size+1,ob)],hx:=[]}
 have hX:X.Ok w (ExcName.means s₀.heap) mg mb rho0:=⟨below_caller _,KX,T,law_kind,(fun _ h=>nomatch h),⟨rfl,rfl,(fun _ h=>nomatch h)⟩⟩
 have hr:Room X 150:=⟨by show callerA.depth+1+150+60<recursionLimit;decide +kernel,by show callerA.units+3+8*(150+60)<cLine;decide +kernel⟩
 have I:Inv rho0 X ⟨[],[]⟩ ⟨[(scriptN,.val (.ref la))],[]⟩ {heap:=h₁,gens:=s₁.gens,drawn:=s₁.drawn,toks:=tk,os:=s₁.os}:=by
  refine ⟨m0,[],F,fun p hp=>N p hp,fun x av e=>?_,.nil,rfl,.nil,(fun _ _ h=>nomatch h),(fun _ h=>nomatch h)⟩
  rw [lkL_cons] at e
  cases q:lnBeq scriptN x with
  | true =>
   rw [q] at e;(have Y0:=s1 e;try clear e;subst Y0)
   rw [← lnBeq_eq q]
   exact ⟨_,F1,.val _⟩
  | false=>rw [q] at e;exact xNS e
 have run:=law_body (X:=X) (cb:=s₁.heap.objs.size+1) (cy:=s₁.heap.objs.size+1+1) ⟨rfl,rfl,rfl,Nat.ne_of_lt (Nat.lt_succ_self _)⟩ rfl rfl hoy hob hX hr hI hn hL I
  (Q:=fun f s'=>∃ v,f=.ret (.bool true)∧v=s'∧Kept X s'∧s'.gens=s₁.gens∧s'.os=s₁.os) fun s' kp sm=>⟨s',rfl,rfl,kp,sm.gens,sm.os⟩
 refine wpAny_mono run (fun f s' h=>?_) fun _ _ h=>h
 refine e15 (h) ?_;try clear h;intro _ Y1 Y2 kp hg hos;subst Y1;subst Y2
 have hraise:∀ cls,PySem.Challenge.rw_nn0062_01.row.claim.raises [ofPy (PyData.list (List.map PyData.int ns))] cls=false:=fun _=>rfl
 have hun:PySem.Challenge.rw_nn0062_01.row.claim.unshared=true→([]:List Addr).Nodup∧∀ a∈([]:List Addr),s₁.heap.get? a=none:=fun _=>⟨.nil,fun _ h=>nomatch h⟩
 have hpost:PySem.Challenge.rw_nn0062_01.row.claim.post [ofPy (PyData.list (List.map PyData.int ns))] (.bool true) [ofPy (PyData.list (List.map PyData.int ns))]=true:=postW_of (X:=true) (by decide) (by wtm_val) rfl
 exact ⟨.inl ⟨.bool true,.bool true,[],rfl,hraise,.bool true,hpost,hun⟩,.of_keep kp,hos,.of_eq (hg.trans hgens)⟩
theorem done:PySem.Challenge.rw_nn0062_01.Holds:=holds_of_walk walk
end
end Nn62
end

theorem PySem.Challenge.cw_nn0062_01_holds : PySem.Challenge.rw_nn0062_01.Holds :=
  Nn62.done
