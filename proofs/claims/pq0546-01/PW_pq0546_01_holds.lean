import PyProof.Rows.All
import Wide.All
import OpenK.AllK
import Wide.FinOn
import KE.KNest
import Lean
import PySem.Challenge.RW_pq0546_01
set_option Elab.async false
set_option maxRecDepth 100000
set_option linter.all false
set_option tactic.hygienic false
set_option genInjectivity false
set_option genSizeOf false
set_option genCtorIdx false
section
namespace Mine
theorem si{α:Type _}{a b:α}(h:some a=some b):a=b:=Option.some.inj h
theorem d8{P:Prop}{p0 p1:Prop}(k:p0->p1->P)(h:p0/\p1):P:=k h.1 h.2
theorem rS{P:Prop}{p0 p1 p2:Prop}(k:p0->p1->p2->P)(h:p0/\p1/\p2):P:=k h.1 h.2.1 h.2.2
theorem Ho{P:Prop}{p0 p1 p2 p3:Prop}(k:p0->p1->p2->p3->P)(h:p0/\p1/\p2/\p3):P:=k h.1 h.2.1 h.2.2.1 h.2.2.2
theorem Qv{P:Prop}{p0 p1 p2 p3 p4 p5:Prop}(k:p0->p1->p2->p3->p4->p5->P)(h:p0/\p1/\p2/\p3/\p4/\p5):P:=k h.1 h.2.1 h.2.2.1 h.2.2.2.1 h.2.2.2.2.1 h.2.2.2.2.2
theorem Qw{P:Prop}{p0 p1 p2 p3 p4 p5 p6:Prop}(k:p0->p1->p2->p3->p4->p5->p6->P)(h:p0/\p1/\p2/\p3/\p4/\p5/\p6):P:=k h.1 h.2.1 h.2.2.1 h.2.2.2.1 h.2.2.2.2.1 h.2.2.2.2.2.1 h.2.2.2.2.2.2
theorem bJ{P:Prop}{α0:Sort _}{p0:α0->Prop}(k:∀x0,p0 x0->P)(h:∃x0,p0 x0):P:=h.elim λ x0 h=>k x0 h
theorem aV{P:Prop}{α0:Sort _}{p0 p1:α0->Prop}(k:∀x0,p0 x0->p1 x0->P)(h:∃x0,p0 x0/\p1 x0):P:=h.elim λ x0 h=>k x0 h.1 h.2
theorem fY{P:Prop}{α0:Sort _}{p0 p1 p2:α0->Prop}(k:∀x0,p0 x0->p1 x0->p2 x0->P)(h:∃x0,p0 x0/\p1 x0/\p2 x0):P:=h.elim λ x0 h=>k x0 h.1 h.2.1 h.2.2
theorem J2{P:Prop}{α0:Sort _}{p0 p1 p2 p3:α0->Prop}(k:∀x0,p0 x0->p1 x0->p2 x0->p3 x0->P)(h:∃x0,p0 x0/\p1 x0/\p2 x0/\p3 x0):P:=h.elim λ x0 h=>k x0 h.1 h.2.1 h.2.2.1 h.2.2.2
theorem Qx{P:Prop}{α0:Sort _}{p0 p1 p2 p3 p4:α0->Prop}(k:∀x0,p0 x0->p1 x0->p2 x0->p3 x0->p4 x0->P)(h:∃x0,p0 x0/\p1 x0/\p2 x0/\p3 x0/\p4 x0):P:=h.elim λ x0 h=>k x0 h.1 h.2.1 h.2.2.1 h.2.2.2.1 h.2.2.2.2
theorem Qy{P:Prop}{α0:Sort _}{p0 p1 p2 p3 p4 p5 p6 p7:α0->Prop}(k:∀x0,p0 x0->p1 x0->p2 x0->p3 x0->p4 x0->p5 x0->p6 x0->p7 x0->P)(h:∃x0,p0 x0/\p1 x0/\p2 x0/\p3 x0/\p4 x0/\p5 x0/\p6 x0/\p7 x0):P:=h.elim λ x0 h=>k x0 h.1 h.2.1 h.2.2.1 h.2.2.2.1 h.2.2.2.2.1 h.2.2.2.2.2.1 h.2.2.2.2.2.2.1 h.2.2.2.2.2.2.2
theorem Ej{P:Prop}{α0:Sort _}{α1:Sort _}{p0:α0->α1->Prop}(k:∀x0 x1,p0 x0 x1->P)(h:∃x0 x1,p0 x0 x1):P:=h.elim λ x0 h=>h.elim λ x1 h=>k x0 x1 h
theorem fb{P:Prop}{α0:Sort _}{α1:Sort _}{p0 p1:α0->α1->Prop}(k:∀x0 x1,p0 x0 x1->p1 x0 x1->P)(h:∃x0 x1,p0 x0 x1/\p1 x0 x1):P:=h.elim λ x0 h=>h.elim λ x1 h=>k x0 x1 h.1 h.2
theorem ew{P:Prop}{α0:Sort _}{α1:Sort _}{p0 p1 p2:α0->α1->Prop}(k:∀x0 x1,p0 x0 x1->p1 x0 x1->p2 x0 x1->P)(h:∃x0 x1,p0 x0 x1/\p1 x0 x1/\p2 x0 x1):P:=h.elim λ x0 h=>h.elim λ x1 h=>k x0 x1 h.1 h.2.1 h.2.2
theorem Ku{P:Prop}{α0:Sort _}{α1:Sort _}{p0 p1 p2 p3:α0->α1->Prop}(k:∀x0 x1,p0 x0 x1->p1 x0 x1->p2 x0 x1->p3 x0 x1->P)(h:∃x0 x1,p0 x0 x1/\p1 x0 x1/\p2 x0 x1/\p3 x0 x1):P:=h.elim λ x0 h=>h.elim λ x1 h=>k x0 x1 h.1 h.2.1 h.2.2.1 h.2.2.2
theorem Ek{P:Prop}{α0:Sort _}{α1:Sort _}{p0 p1 p2 p3 p4:α0->α1->Prop}(k:∀x0 x1,p0 x0 x1->p1 x0 x1->p2 x0 x1->p3 x0 x1->p4 x0 x1->P)(h:∃x0 x1,p0 x0 x1/\p1 x0 x1/\p2 x0 x1/\p3 x0 x1/\p4 x0 x1):P:=h.elim λ x0 h=>h.elim λ x1 h=>k x0 x1 h.1 h.2.1 h.2.2.1 h.2.2.2.1 h.2.2.2.2
theorem J3{P:Prop}{α0:Sort _}{α1:Sort _}{p0 p1 p2 p3 p4 p5:α0->α1->Prop}(k:∀x0 x1,p0 x0 x1->p1 x0 x1->p2 x0 x1->p3 x0 x1->p4 x0 x1->p5 x0 x1->P)(h:∃x0 x1,p0 x0 x1/\p1 x0 x1/\p2 x0 x1/\p3 x0 x1/\p4 x0 x1/\p5 x0 x1):P:=h.elim λ x0 h=>h.elim λ x1 h=>k x0 x1 h.1 h.2.1 h.2.2.1 h.2.2.2.1 h.2.2.2.2.1 h.2.2.2.2.2
theorem Qz{P:Prop}{α0:Sort _}{α1:Sort _}{p0 p1 p2 p3 p4 p5 p6:α0->α1->Prop}(k:∀x0 x1,p0 x0 x1->p1 x0 x1->p2 x0 x1->p3 x0 x1->p4 x0 x1->p5 x0 x1->p6 x0 x1->P)(h:∃x0 x1,p0 x0 x1/\p1 x0 x1/\p2 x0 x1/\p3 x0 x1/\p4 x0 x1/\p5 x0 x1/\p6 x0 x1):P:=h.elim λ x0 h=>h.elim λ x1 h=>k x0 x1 h.1 h.2.1 h.2.2.1 h.2.2.2.1 h.2.2.2.2.1 h.2.2.2.2.2.1 h.2.2.2.2.2.2
theorem Nf{P:Prop}{α0:Sort _}{α1:Sort _}{α2:Sort _}{p0:α0->α1->α2->Prop}(k:∀x0 x1 x2,p0 x0 x1 x2->P)(h:∃x0 x1 x2,p0 x0 x1 x2):P:=h.elim λ x0 h=>h.elim λ x1 h=>h.elim λ x2 h=>k x0 x1 x2 h
theorem D9{P:Prop}{α0:Sort _}{α1:Sort _}{α2:Sort _}{p0 p1:α0->α1->α2->Prop}(k:∀x0 x1 x2,p0 x0 x1 x2->p1 x0 x1 x2->P)(h:∃x0 x1 x2,p0 x0 x1 x2/\p1 x0 x1 x2):P:=h.elim λ x0 h=>h.elim λ x1 h=>h.elim λ x2 h=>k x0 x1 x2 h.1 h.2
theorem Ea{P:Prop}{α0:Sort _}{α1:Sort _}{α2:Sort _}{p0 p1 p2:α0->α1->α2->Prop}(k:∀x0 x1 x2,p0 x0 x1 x2->p1 x0 x1 x2->p2 x0 x1 x2->P)(h:∃x0 x1 x2,p0 x0 x1 x2/\p1 x0 x1 x2/\p2 x0 x1 x2):P:=h.elim λ x0 h=>h.elim λ x1 h=>h.elim λ x2 h=>k x0 x1 x2 h.1 h.2.1 h.2.2
theorem Eb{P:Prop}{α0:Sort _}{α1:Sort _}{α2:Sort _}{p0 p1 p2 p3:α0->α1->α2->Prop}(k:∀x0 x1 x2,p0 x0 x1 x2->p1 x0 x1 x2->p2 x0 x1 x2->p3 x0 x1 x2->P)(h:∃x0 x1 x2,p0 x0 x1 x2/\p1 x0 x1 x2/\p2 x0 x1 x2/\p3 x0 x1 x2):P:=h.elim λ x0 h=>h.elim λ x1 h=>h.elim λ x2 h=>k x0 x1 x2 h.1 h.2.1 h.2.2.1 h.2.2.2
theorem QA{P:Prop}{α0:Sort _}{α1:Sort _}{α2:Sort _}{p0 p1 p2 p3 p4:α0->α1->α2->Prop}(k:∀x0 x1 x2,p0 x0 x1 x2->p1 x0 x1 x2->p2 x0 x1 x2->p3 x0 x1 x2->p4 x0 x1 x2->P)(h:∃x0 x1 x2,p0 x0 x1 x2/\p1 x0 x1 x2/\p2 x0 x1 x2/\p3 x0 x1 x2/\p4 x0 x1 x2):P:=h.elim λ x0 h=>h.elim λ x1 h=>h.elim λ x2 h=>k x0 x1 x2 h.1 h.2.1 h.2.2.1 h.2.2.2.1 h.2.2.2.2
theorem TO{P:Prop}{α0:Sort _}{α1:Sort _}{α2:Sort _}{p0 p1 p2 p3 p4 p5 p6:α0->α1->α2->Prop}(k:∀x0 x1 x2,p0 x0 x1 x2->p1 x0 x1 x2->p2 x0 x1 x2->p3 x0 x1 x2->p4 x0 x1 x2->p5 x0 x1 x2->p6 x0 x1 x2->P)(h:∃x0 x1 x2,p0 x0 x1 x2/\p1 x0 x1 x2/\p2 x0 x1 x2/\p3 x0 x1 x2/\p4 x0 x1 x2/\p5 x0 x1 x2/\p6 x0 x1 x2):P:=h.elim λ x0 h=>h.elim λ x1 h=>h.elim λ x2 h=>k x0 x1 x2 h.1 h.2.1 h.2.2.1 h.2.2.2.1 h.2.2.2.2.1 h.2.2.2.2.2.1 h.2.2.2.2.2.2
theorem QB{P:Prop}{α0:Sort _}{α1:Sort _}{α2:Sort _}{α3:Sort _}{p0:α0->α1->α2->α3->Prop}(k:∀x0 x1 x2 x3,p0 x0 x1 x2 x3->P)(h:∃x0 x1 x2 x3,p0 x0 x1 x2 x3):P:=h.elim λ x0 h=>h.elim λ x1 h=>h.elim λ x2 h=>h.elim λ x3 h=>k x0 x1 x2 x3 h
theorem QC{P:Prop}{α0:Sort _}{α1:Sort _}{α2:Sort _}{α3:Sort _}{p0 p1:α0->α1->α2->α3->Prop}(k:∀x0 x1 x2 x3,p0 x0 x1 x2 x3->p1 x0 x1 x2 x3->P)(h:∃x0 x1 x2 x3,p0 x0 x1 x2 x3/\p1 x0 x1 x2 x3):P:=h.elim λ x0 h=>h.elim λ x1 h=>h.elim λ x2 h=>h.elim λ x3 h=>k x0 x1 x2 x3 h.1 h.2
theorem MG{P:Prop}{α0:Sort _}{α1:Sort _}{α2:Sort _}{α3:Sort _}{p0 p1 p2:α0->α1->α2->α3->Prop}(k:∀x0 x1 x2 x3,p0 x0 x1 x2 x3->p1 x0 x1 x2 x3->p2 x0 x1 x2 x3->P)(h:∃x0 x1 x2 x3,p0 x0 x1 x2 x3/\p1 x0 x1 x2 x3/\p2 x0 x1 x2 x3):P:=h.elim λ x0 h=>h.elim λ x1 h=>h.elim λ x2 h=>h.elim λ x3 h=>k x0 x1 x2 x3 h.1 h.2.1 h.2.2
theorem Ec{P:Prop}{α0:Sort _}{α1:Sort _}{α2:Sort _}{α3:Sort _}{p0 p1 p2 p3:α0->α1->α2->α3->Prop}(k:∀x0 x1 x2 x3,p0 x0 x1 x2 x3->p1 x0 x1 x2 x3->p2 x0 x1 x2 x3->p3 x0 x1 x2 x3->P)(h:∃x0 x1 x2 x3,p0 x0 x1 x2 x3/\p1 x0 x1 x2 x3/\p2 x0 x1 x2 x3/\p3 x0 x1 x2 x3):P:=h.elim λ x0 h=>h.elim λ x1 h=>h.elim λ x2 h=>h.elim λ x3 h=>k x0 x1 x2 x3 h.1 h.2.1 h.2.2.1 h.2.2.2
theorem Hp{P:Prop}{α0:Sort _}{α1:Sort _}{α2:Sort _}{α3:Sort _}{p0 p1 p2 p3 p4:α0->α1->α2->α3->Prop}(k:∀x0 x1 x2 x3,p0 x0 x1 x2 x3->p1 x0 x1 x2 x3->p2 x0 x1 x2 x3->p3 x0 x1 x2 x3->p4 x0 x1 x2 x3->P)(h:∃x0 x1 x2 x3,p0 x0 x1 x2 x3/\p1 x0 x1 x2 x3/\p2 x0 x1 x2 x3/\p3 x0 x1 x2 x3/\p4 x0 x1 x2 x3):P:=h.elim λ x0 h=>h.elim λ x1 h=>h.elim λ x2 h=>h.elim λ x3 h=>k x0 x1 x2 x3 h.1 h.2.1 h.2.2.1 h.2.2.2.1 h.2.2.2.2
theorem Ng{P:Prop}{α0:Sort _}{α1:Sort _}{α2:Sort _}{α3:Sort _}{p0 p1 p2 p3 p4 p5:α0->α1->α2->α3->Prop}(k:∀x0 x1 x2 x3,p0 x0 x1 x2 x3->p1 x0 x1 x2 x3->p2 x0 x1 x2 x3->p3 x0 x1 x2 x3->p4 x0 x1 x2 x3->p5 x0 x1 x2 x3->P)(h:∃x0 x1 x2 x3,p0 x0 x1 x2 x3/\p1 x0 x1 x2 x3/\p2 x0 x1 x2 x3/\p3 x0 x1 x2 x3/\p4 x0 x1 x2 x3/\p5 x0 x1 x2 x3):P:=h.elim λ x0 h=>h.elim λ x1 h=>h.elim λ x2 h=>h.elim λ x3 h=>k x0 x1 x2 x3 h.1 h.2.1 h.2.2.1 h.2.2.2.1 h.2.2.2.2.1 h.2.2.2.2.2
theorem Nh{P:Prop}{α0:Sort _}{α1:Sort _}{α2:Sort _}{α3:Sort _}{α4:Sort _}{p0 p1:α0->α1->α2->α3->α4->Prop}(k:∀x0 x1 x2 x3 x4,p0 x0 x1 x2 x3 x4->p1 x0 x1 x2 x3 x4->P)(h:∃x0 x1 x2 x3 x4,p0 x0 x1 x2 x3 x4/\p1 x0 x1 x2 x3 x4):P:=h.elim λ x0 h=>h.elim λ x1 h=>h.elim λ x2 h=>h.elim λ x3 h=>h.elim λ x4 h=>k x0 x1 x2 x3 x4 h.1 h.2
theorem QD{P:Prop}{α0:Sort _}{α1:Sort _}{α2:Sort _}{α3:Sort _}{α4:Sort _}{p0 p1 p2:α0->α1->α2->α3->α4->Prop}(k:∀x0 x1 x2 x3 x4,p0 x0 x1 x2 x3 x4->p1 x0 x1 x2 x3 x4->p2 x0 x1 x2 x3 x4->P)(h:∃x0 x1 x2 x3 x4,p0 x0 x1 x2 x3 x4/\p1 x0 x1 x2 x3 x4/\p2 x0 x1 x2 x3 x4):P:=h.elim λ x0 h=>h.elim λ x1 h=>h.elim λ x2 h=>h.elim λ x3 h=>h.elim λ x4 h=>k x0 x1 x2 x3 x4 h.1 h.2.1 h.2.2
theorem Pu{P:Prop}{α0:Sort _}{α1:Sort _}{α2:Sort _}{α3:Sort _}{α4:Sort _}{p0 p1 p2 p3 p4:α0->α1->α2->α3->α4->Prop}(k:∀x0 x1 x2 x3 x4,p0 x0 x1 x2 x3 x4->p1 x0 x1 x2 x3 x4->p2 x0 x1 x2 x3 x4->p3 x0 x1 x2 x3 x4->p4 x0 x1 x2 x3 x4->P)(h:∃x0 x1 x2 x3 x4,p0 x0 x1 x2 x3 x4/\p1 x0 x1 x2 x3 x4/\p2 x0 x1 x2 x3 x4/\p3 x0 x1 x2 x3 x4/\p4 x0 x1 x2 x3 x4):P:=h.elim λ x0 h=>h.elim λ x1 h=>h.elim λ x2 h=>h.elim λ x3 h=>h.elim λ x4 h=>k x0 x1 x2 x3 x4 h.1 h.2.1 h.2.2.1 h.2.2.2.1 h.2.2.2.2
theorem QE{P:Prop}{α0:Sort _}{α1:Sort _}{α2:Sort _}{α3:Sort _}{α4:Sort _}{α5:Sort _}{p0 p1 p2 p3 p4 p5:α0->α1->α2->α3->α4->α5->Prop}(k:∀x0 x1 x2 x3 x4 x5,p0 x0 x1 x2 x3 x4 x5->p1 x0 x1 x2 x3 x4 x5->p2 x0 x1 x2 x3 x4 x5->p3 x0 x1 x2 x3 x4 x5->p4 x0 x1 x2 x3 x4 x5->p5 x0 x1 x2 x3 x4 x5->P)(h:∃x0 x1 x2 x3 x4 x5,p0 x0 x1 x2 x3 x4 x5/\p1 x0 x1 x2 x3 x4 x5/\p2 x0 x1 x2 x3 x4 x5/\p3 x0 x1 x2 x3 x4 x5/\p4 x0 x1 x2 x3 x4 x5/\p5 x0 x1 x2 x3 x4 x5):P:=h.elim λ x0 h=>h.elim λ x1 h=>h.elim λ x2 h=>h.elim λ x3 h=>h.elim λ x4 h=>h.elim λ x5 h=>k x0 x1 x2 x3 x4 x5 h.1 h.2.1 h.2.2.1 h.2.2.2.1 h.2.2.2.2.1 h.2.2.2.2.2
theorem QF{P:Prop}{α0:Sort _}{α1:Sort _}{α2:Sort _}{α3:Sort _}{α4:Sort _}{α5:Sort _}{α6:Sort _}{p0 p1 p2 p3:α0->α1->α2->α3->α4->α5->α6->Prop}(k:∀x0 x1 x2 x3 x4 x5 x6,p0 x0 x1 x2 x3 x4 x5 x6->p1 x0 x1 x2 x3 x4 x5 x6->p2 x0 x1 x2 x3 x4 x5 x6->p3 x0 x1 x2 x3 x4 x5 x6->P)(h:∃x0 x1 x2 x3 x4 x5 x6,p0 x0 x1 x2 x3 x4 x5 x6/\p1 x0 x1 x2 x3 x4 x5 x6/\p2 x0 x1 x2 x3 x4 x5 x6/\p3 x0 x1 x2 x3 x4 x5 x6):P:=h.elim λ x0 h=>h.elim λ x1 h=>h.elim λ x2 h=>h.elim λ x3 h=>h.elim λ x4 h=>h.elim λ x5 h=>h.elim λ x6 h=>k x0 x1 x2 x3 x4 x5 x6 h.1 h.2.1 h.2.2.1 h.2.2.2
theorem cD{a b c:Nat}(h:a<b)(k:Nat.ble b c=true):a<c:=Nat.lt_of_lt_of_le h (Nat.le_of_ble_eq_true k)
theorem gy{a b c:Nat}(h:a<=b)(k:Nat.ble (b+1) c=true):a<c:=Nat.lt_of_le_of_lt h (Nat.le_of_ble_eq_true k)
theorem iT{a b c:Nat}(h:a<=b)(k:Nat.ble b c=true):a<=c:=Nat.le_trans h (Nat.le_of_ble_eq_true k)
theorem J4{a b c:Nat}(h:a<b)(k:Nat.ble b (c+1)=true):a<=c:=Nat.le_of_lt_succ (cD h k)
theorem TQ{a b:Nat}(k:Nat.ble a b=true):a<=b:=Nat.le_of_ble_eq_true k
theorem xP{a b:Nat}(h:a<b):(a:Int)<(b:Int):=Int.ofNat_lt.mpr h
theorem Ni{a b:Nat}(h:a<=b):(a:Int)<=(b:Int):=Int.ofNat_le.mpr h
theorem Gv{a b:Nat}(h:¬a<b):¬(a:Int)<(b:Int):=λ k=>h (Int.ofNat_lt.mp k)
theorem Pw{a b:Nat}(h:¬a<=b):¬(a:Int)<=(b:Int):=λ k=>h (Int.ofNat_le.mp k)
theorem QG{a b:Nat}(h:a=b):(a:Int)=(b:Int):=congrArg _ h
theorem Nj{a b:Nat}(h:¬a=b):¬(a:Int)=(b:Int):=λ k=>h (Int.ofNat.inj k)
theorem MH{a b:Nat}(h:b<=a):(a:Int)-(b:Int)=((a-b:Nat):Int):=(Int.ofNat_sub h).symm
theorem Gw{i k n:Nat}(h:i+(k+1)=n):i+1+k=n:=by rw[<-h,Nat.add_assoc,Nat.add_comm 1 k]
theorem J5{i k n:Nat}(h:i+(k+1)=n):i<n:=h▸Nat.lt_add_of_pos_right (Nat.succ_pos k)
theorem Nk{i k n:Nat}(h:i+(k+1)=n):i<=n:=Nat.le_of_lt (J5 h)
theorem QH{i k n:Nat}(h:i+(k+1)<=n):i<n:=Nat.lt_of_lt_of_le (J5 rfl) h
theorem QI{i k n:Nat}(h:i+(k+1)<=n):i+1+k<=n:=by rw[Gw rfl];exact h
theorem J6{i k n:Nat}(h:i+(k+1)<n):i+1+k<n:=by rw[Gw rfl];exact h
theorem Gx{i k n:Nat}(h:i+(k+1)<n):i<n:=Nat.lt_of_le_of_lt (Nat.le_add_right ..) h
theorem QJ{a b c n m:Nat}(h:a+b+c<n)(k:Nat.ble n m=true):a+c<m:=Nat.lt_of_lt_of_le (Nat.lt_of_le_of_lt (Nat.add_le_add_right (Nat.le_add_right ..) _) h) (Nat.le_of_ble_eq_true k)
theorem ne2{a b c:Nat}(h:a=b)(k:b<c):a<c:=h▸k
theorem ne3{a b c:Nat}(h:a=b)(k:b<=c):a<=c:=h▸k
theorem Px{a k:Nat}(h:a< @OfNat.ofNat Nat k (instOfNatNat k)):(a:Int)< @OfNat.ofNat Int k instOfNat:=Int.ofNat_lt.mpr h
theorem mv{a k:Nat}(h:@OfNat.ofNat Nat k (instOfNatNat k)<=a):@OfNat.ofNat Int k instOfNat<=(a:Int):=Int.ofNat_le.mpr h
theorem rY{a k:Nat}(h:@OfNat.ofNat Nat k (instOfNatNat k)<a):@OfNat.ofNat Int k instOfNat<(a:Int):=Int.ofNat_lt.mpr h
theorem zz{a k:Nat}(h:a<=@OfNat.ofNat Nat k (instOfNatNat k)):(a:Int)<=@OfNat.ofNat Int k instOfNat:=Int.ofNat_le.mpr h
theorem TR{a k:Nat}(h:¬a< @OfNat.ofNat Nat k (instOfNatNat k)):¬(a:Int)< @OfNat.ofNat Int k instOfNat:=λ e=>h (Int.ofNat_lt.mp e)
theorem TS{a k:Nat}(h:¬@OfNat.ofNat Nat k (instOfNatNat k)<=a):¬@OfNat.ofNat Int k instOfNat<=(a:Int):=λ e=>h (Int.ofNat_le.mp e)
theorem xQ{a k:Nat}(h:¬a=@OfNat.ofNat Nat k (instOfNatNat k)):¬(a:Int)=@OfNat.ofNat Int k instOfNat:=λ e=>h (Int.ofNat.inj e)
theorem TU{a k:Nat}:a< @OfNat.ofNat Nat k (instOfNatNat k)↔(a:Int)< @OfNat.ofNat Int k instOfNat:=Int.ofNat_lt.symm
theorem TV{a k:Nat}:a=@OfNat.ofNat Nat k (instOfNatNat k)↔(a:Int)=@OfNat.ofNat Int k instOfNat:=Int.ofNat_inj.symm
theorem TX{a k:Nat}:@OfNat.ofNat Nat k (instOfNatNat k)<a↔@OfNat.ofNat Int k instOfNat<(a:Int):=Int.ofNat_lt.symm
theorem TY{a k:Nat}:a<k↔(a:Int)<(k:Int):=Int.ofNat_lt.symm
theorem TZ{a k:Nat}:a=k↔(a:Int)=(k:Int):=Int.ofNat_inj.symm
theorem Nl{a b:Nat}(h:a<b):a<=b-1:=Nat.le_sub_one_of_lt h
theorem Nm{a b c:Nat}(h:a<=min b c):a<=b:=Nat.le_trans h (Nat.min_le_left ..)
theorem T1{a b c:Nat}(h:a<=min b c):a<=c:=Nat.le_trans h (Nat.min_le_right ..)
theorem QK{A X Y W V x c:Nat}(h1:A+X=c+x)(h2:Y+W=V+X):A+Y+W=x+V+c:=by lia
theorem QL{N C S T D E X Y:Nat}(h:N+C=S+T)(h5:D+E=C+(X+Y)):N+D+E=S+X+(T+Y):=by lia
theorem QM{A T X N D E M C:Nat}(h4:A+(T+X)=N+D+E+M)(h5:D+E=C+X):A+T=N+C+M:=by lia
theorem QN{N T B A C:Nat}(h:N=T+B)(g:C+T=N+A):C=A+B:=by lia
theorem QO{R R1 R2 L Q1 Q2:Nat}(a:R1+L=R+Q1)(b:R2+Q1=R1+Q2):R2+L=R+Q2:=by lia
theorem QP{R R1 L Q F A B:Nat}(a:R1+L=R+Q)(b:R+F=A+B):R1+(F+L)=A+(B+Q):=by lia
theorem QQ{N0 N1 N2 Z x y u v a b:Nat}(h1:N1+x=N0+y)(h2:N2+(u+v)=N1+Z)(h3:x+v=a+b+y):N2+(a+u+b)=N0+Z:=by lia
theorem QR{N0 N1 N2 Z x y v b:Nat}(h1:N1+x=N0+y)(h2:N2+v=N1+Z)(h3:x+v=b+y):N2+b=N0+Z:=by lia
theorem QS{r t X:Nat}{m Y:Int}(h0:0<=m)(h1:Y+m=(r:Int)-t)(h2:(X:Int)= -Y):r+X=t+m.toNat:=by lia
theorem Py{x y z n:Nat}(h:x+y=z)(k:z<n):x<n:=Nat.lt_of_le_of_lt (Nat.le_add_right ..) (h▸k)
theorem QT{r d e q u:Nat}(h:r+d*q=u+e)(h1:u<2^20)(h2:e<512)(h3:2*q<=d*q):q<2^20:=by lia
theorem QU{x y z n:Nat}(h:x=y+z)(k:x<n):z<n:=Nat.lt_of_le_of_lt (Nat.le_add_left ..) (h▸k)
theorem Pz{x y z n:Nat}(h:x=y+z)(k:x<n):y<n:=Nat.lt_of_le_of_lt (Nat.le_add_right ..) (h▸k)
theorem QV{x y n:Nat}(h:x*1<=y)(k:y<n):x<n:=Nat.lt_of_le_of_lt ((Nat.mul_one x).symm▸h) k
end Mine
end
section
open PySem PySem.W PyProof.Rows PySem.Calls PySem.Spec
namespace Mine
abbrev UC:=@wpAny_bind
abbrev UD:=@List.mem_append_left
abbrev UE:=@List.mem_append_right
abbrev UG:=@List.mem_cons_self
abbrev UH:=@of_decide_eq_true
abbrev UI:=@Bool.false_ne_true
abbrev UJ:=@decide_eq_true
abbrev UK:=@List.mem_cons_of_mem
abbrev UL:=@wpAny_pure
abbrev UM:=@decide_eq_false
abbrev UN:=@Nat.lt_of_le_of_lt
abbrev UO:=@Nat.lt_of_lt_of_le
abbrev UP:=@Nat.pow_le_pow_right
abbrev UQ:=@Heap.get?_push_of_some
abbrev UR:=@List.mem_map_of_mem
abbrev US:=@List.sublist_append_right
abbrev UT:=@List.getElem?_eq_getElem
theorem bj{α:Type}{x:α}{p:Prop}(h:none=some x):p:=by cases h
theorem kh{p:Prop}(h:false=true):p:=by cases h
theorem aO{α:Type}{c:Prop}[Decidable c]{x r:α}(h:(if c then some x else none)=some r):c/\r=x:=by
 split at h
 ·rename_i hc;exact⟨hc,(Option.some.inj h).symm⟩
 ·exact bj h
theorem bZ{α:Type}{x r:α}(h:some x=some r):r=x:=(Option.some.inj h).symm
set_option genCtorIdx true in
inductive V where
 |none
 |bool (b:Bool)
 |int (i:Int)
 |str (s:Str)
 |bytes (b:List UInt8)
 |seq (tup:Bool) (xs:List V)
 |obj (a:Nat)
 |cls (a:Nat)
 |lam (k:Nat) (bM:List V)
 |exc (cls:Nat) (arg:V)
noncomputable def SeqAt(G:Heap)(tup:Bool)(a:Addr)(items:List Value):Prop:=
 ∃o n,G.get? a=some o/\o.cls= .type (if tup then "tuple" else "list")/\o.data= .seq items.toArray n
noncomputable def wi(bA:Nat->FuncData->Prop)(G:Heap)(k:Nat)(a:Addr)(cs:List Addr):Prop:=
 ∃o fd,G.get? a=some o/\o.cls= .type "function"/\o.data= .func fd/\bA k fd/\fd.closure.map (·.2)=cs/\G.CodeRec fd.code fd.qualname
noncomputable def gB(G:Heap):List Addr->List Value->Prop
 | [],[]=>True
 |c::cs,v::vs=>G.IsCell c (some v)/\gB G cs vs
 |_,_=>False
noncomputable def ExcAt(G:Heap)(a C:Addr)(v:Option Value):Prop:=
 ∃o vs,G.get? a=some o/\o.cls= .ref C/\o.data= .fields vs/\
  match v with
  | .none=>o.dict=none
  |some c=>∃d m,o.dict=some d/\G.Ns d m/\m "at"=some c/\(∃od,G.get? d=some od/\od=od)
section
variable(bA:Nat->FuncData->Prop)(G:Heap)
mutual
noncomputable def Rep:V->Value->Prop
 | .none,c=>c= .none
 | .bool b,c=>c= .bool b
 | .int i,c=>∃t,c= .int i t
 | .str s,c=>∃t,c= .str s t
 | .bytes b,c=>∃t,c= .bytes b.toArray t
 | .seq tup xs,c=>∃a items,c= .ref a/\SeqAt G tup a items/\aL xs items
 | .obj a,c=>c= .ref a/\∃oc od fd sl,G.get? a=some ⟨oc,od,.func fd,sl⟩
 | .cls a,c=>c= .ref a/\∃o cd,G.get? a=some o/\o.cls= .type "type"/\o.data= .cls cd
 | .lam k bM,c=>∃a cs vs,c= .ref a/\wi bA G k a cs/\gB G cs vs/\aL bM vs
 | .exc C arg,c=>∃a v,c= .ref a/\((arg= .none/\ExcAt G a C .none)\/(Rep arg v/\ExcAt G a C (some v)))
noncomputable def aL:List V->List Value->Prop
 | [],cs=>cs=[]
 |x::xs,cs=>∃c rT,cs=c::rT/\Rep x c/\aL xs rT
end
end
variable{bA:Nat->FuncData->Prop}
theorem SeqAt.keeps{G G':Heap}{t a items}(x:SeqAt G t a items)(k:G.StaysIn G'):SeqAt G' t a items:=
 let ⟨o,n,h1,h2,h3⟩:=x;⟨o,n,k _ _ h1,h2,h3⟩
theorem wi.keeps{G G':Heap}{j a cs}(x:wi bA G j a cs)(k:G.StaysIn G'):wi bA G' j a cs:=
 let ⟨o,fd,h1,h2,h3,h4,h5,h6⟩:=x;⟨o,fd,k _ _ h1,h2,h3,h4,h5,h6.keeps k⟩
theorem gB.keeps{G G':Heap}(k:G.StaysIn G'):∀{cs vs},gB G cs vs->gB G' cs vs
 | [],[],_=>trivial
 |_::_,_::_,⟨h,r⟩=>⟨h.keeps k,r.keeps k⟩
theorem ExcAt.keeps{G G':Heap}{a C v}(x:ExcAt G a C v)(k:G.StaysIn G'):ExcAt G' a C v:=by
 refine Ku (λ o vs h1 h2 h3 h4=>?_) x;clear x
 refine⟨o,vs,k _ _ h1,h2,h3,?_⟩
 cases v with
 |none=>exact h4
 |some c=>
  obtain⟨d,m,e1,e2,e3,od,e4,e5⟩:=h4
  exact⟨d,m,e1,e2.keeps k,e3,od,k _ _ e4,e5⟩
mutual
theorem Rep.keeps{G G':Heap}(k:G.StaysIn G'):∀(v:V) {c:Value},Rep bA G v c->Rep bA G' v c
 | .none,_,h=>by simpa only [Rep] using h
 | .bool _,_,h=>by simpa only [Rep] using h
 | .int _,_,h=>by simpa only [Rep] using h
 | .str _,_,h=>by simpa only [Rep] using h
 | .bytes _,_,h=>by simpa only [Rep] using h
 | .obj _,_,h=>by
  simp only [Rep] at h ⊢
  obtain⟨e,oc,od,fd,sl,h1⟩:=h
  exact⟨e,oc,od,fd,sl,k _ _ h1⟩
 | .cls _,_,h=>by
  simp only [Rep] at h ⊢
  obtain⟨e,o,cd,h1,h2⟩:=h
  exact⟨e,o,cd,k _ _ h1,h2⟩
 | .seq t xs,c,h=>by
  simp only [Rep] at h ⊢
  refine ew (λ a items e1 e2 e3=>?_) h;clear h
  exact⟨a,items,e1,e2.keeps k,aL.keeps k xs e3⟩
 | .lam j bM,c,h=>by
  simp only [Rep] at h ⊢
  refine Eb (λ a cs vs e1 e2 e3 e4=>?_) h;clear h
  exact⟨a,cs,vs,e1,e2.keeps k,e3.keeps k,aL.keeps k bM e4⟩
 | .exc C arg,c,h=>by
  simp only [Rep] at h ⊢
  refine fb (λ a v e1 e2=>?_) h;clear h
  refine⟨a,v,e1,e2.imp (λ x=>⟨x.1,x.2.keeps k⟩) λ x=>⟨Rep.keeps k arg x.1,x.2.keeps k⟩⟩
theorem aL.keeps{G G':Heap}(k:G.StaysIn G'):∀(xs:List V) {cs:List Value},aL bA G xs cs->aL bA G' xs cs
 | [],_,h=>by simpa only [aL] using h
 |x::xs,cs,h=>by
  simp only [aL] at h ⊢
  refine ew (λ c rT e1 e2 e3=>?_) h;clear h
  exact⟨c,rT,e1,Rep.keeps k x e2,aL.keeps k xs e3⟩
end
theorem aL.length{G:Heap}:∀{xs:List V} {cs:List Value},aL bA G xs cs->cs.length=xs.length
 | [],_,h=>by simp only [aL] at h;simp[h]
 |x::xs,cs,h=>by
  simp only [aL] at h
  refine ew (λ c rT e1 e2 e3=>?_) h;clear h
  subst e1;simp[aL.length e3]
theorem aL.append{G:Heap}:∀{xs ys:List V} {cs ds:List Value},aL bA G xs cs->aL bA G ys ds->aL bA G (xs++ys) (cs++ds)
 | [],_,_,_,h,h'=>by simp only [aL] at h;subst h;simpa using h'
 |x::xs,ys,cs,ds,h,h'=>by
  simp only [aL] at h
  refine ew (λ c rT e1 e2 e3=>?_) h;clear h
  subst e1
  simp only [List.cons_append,aL]
  exact⟨_,_,rfl,e2,aL.append e3 h'⟩
theorem aL.get{G:Heap}:∀{xs:List V} {cs:List Value} {i:Nat} {x:V},aL bA G xs cs->xs[i]?=some x->∃c,cs[i]?=some c/\Rep bA G x c
 | [],_,_,_,_,e=>by simp at e
 |y::ys,cs,i,x,h,e=>by
  simp only [aL] at h
  refine ew (λ c rT e1 e2 e3=>?_) h;clear h
  subst e1
  cases i with
  |zero=>simp at e;subst e;exact⟨c,rfl,e2⟩
  |succ i=>simp at e;simpa using aL.get e3 e
theorem aL.set{G:Heap}:∀{xs:List V} {cs:List Value} {i:Nat} {x:V} {c:Value},aL bA G xs cs->Rep bA G x c->aL bA G (xs.set i x) (cs.set i c)
 | [],_,_,_,_,h,_=>by simp only [aL] at h;subst h;simp[aL]
 |y::ys,cs,i,x,c,h,e=>by
  simp only [aL] at h
  refine ew (λ d rT e1 e2 e3=>?_) h;clear h
  subst e1
  cases i with
  |zero=>simp only [List.set_cons_zero,aL];exact⟨_,_,rfl,e,e3⟩
  |succ i=>simp only [List.set_cons_succ,aL];exact⟨_,_,rfl,e2,aL.set e3 e⟩
theorem aL.take{G:Heap}:∀{xs:List V} {cs:List Value} (n:Nat),aL bA G xs cs->aL bA G (xs.take n) (cs.take n)
 | [],_,_,h=>by simp only [aL] at h;subst h;simp[aL]
 |y::ys,cs,n,h=>by
  simp only [aL] at h
  refine ew (λ d rT e1 e2 e3=>?_) h;clear h
  subst e1
  cases n with
  |zero=>simp[aL]
  |succ n=>simp only [List.take_succ_cons,aL];exact⟨_,_,rfl,e2,aL.take n e3⟩
theorem aL.drop{G:Heap}:∀{xs:List V} {cs:List Value} (n:Nat),aL bA G xs cs->aL bA G (xs.drop n) (cs.drop n)
 | [],_,_,h=>by simp only [aL] at h;subst h;simp[aL]
 |y::ys,cs,n,h=>by
  simp only [aL] at h
  refine ew (λ d rT e1 e2 e3=>?_) h;clear h
  subst e1
  cases n with
  |zero=>simp only [List.drop_zero,aL];exact⟨_,_,rfl,e2,e3⟩
  |succ n=>simp only [List.drop_succ_cons];exact aL.drop n e3
theorem aL.reverse{G:Heap}:∀{xs:List V} {cs:List Value},aL bA G xs cs->aL bA G xs.reverse cs.reverse
 | [],_,h=>by simp only [aL] at h;subst h;simp[aL]
 |y::ys,cs,h=>by
  simp only [aL] at h
  refine ew (λ d rT e1 e2 e3=>?_) h;clear h
  subst e1
  simp only [List.reverse_cons]
  exact aL.append (aL.reverse e3) (by simp only [aL];exact⟨_,_,rfl,e2,rfl⟩)
theorem aL.one{G:Heap}{x:V}{c:Value}(h:Rep bA G x c):aL bA G [x] [c]:=by simp only [aL];exact⟨_,_,rfl,h,rfl⟩
theorem aL.cons{G:Heap}{x:V}{c:Value}{xs cs}(h:Rep bA G x c)(h':aL bA G xs cs):aL bA G (x::xs) (c::cs):=by simp only [aL];exact⟨_,_,rfl,h,h'⟩
theorem aL.nil{G:Heap}:aL bA G [] []:=by simp only [aL]
theorem aL.replicate{G:Heap}{xs cs}(h:aL bA G xs cs):∀n:Nat,aL bA G (List.replicate n xs).flatten (List.replicate n cs).flatten
 |0=>by simpa using aL.nil
 |n+1=>by simp only [List.replicate_succ,List.flatten_cons];exact aL.append h (aL.replicate h n)
set_option genCtorIdx true in
inductive MO where
 |ns (m:Str->Option Value)
 |cell (v:Option Value)
 |list (tag:Nat) (items:List Value)
 |tab (q:Str)
 |any (P:Obj->Prop)
noncomputable def TabAt(G h:Heap)(a:Addr)(q:Str):Prop:=
 ∃ps,h.get? a=some (tabObj ps)/\TriplesOk ps.toList/\∀pos cv,codeAmong pos ps.toList=some cv->∃c,cv= .ref c/\G.CodeRec (.ref c) q
noncomputable def fu(h:Heap)(a:Addr)(items:List Value):Prop:=∃o,h.get? a=some o/\o.cls= .type "list"/\(∃n,o.data= .seq items.toArray n)/\o.dict=none
theorem fu.isList{h:Heap}{a:Addr}{items:List Value}(x:fu h a items):h.IsList a items.toArray:=let ⟨o,e1,e2,e3,_⟩:=x;⟨o,e1,e2,e3⟩
noncomputable def qv(G h:Heap)(a:Addr):MO->Prop
 | .ns m=>h.Ns a m
 | .cell v=>h.IsCell a v
 | .list _ items=>fu h a items
 | .tab q=>TabAt G h a q
 | .any P=>∃o,h.get? a=some o/\P o
noncomputable abbrev Led:=List (Addr×MO)
theorem qv.lt{G h:Heap}{a:Addr}{d:MO}(x:qv G h a d):a<h.objs.size:=by
 cases d with
 |ns m=>exact Heap.Ns.lt x
 |cell v=>exact Heap.IsCell.lt x
 |list t items=>refine aV (λ o ho _=>?_) x;clear x;exact Heap.lt_size ho
 |tab q=>refine aV (λ o ho _=>?_) x;clear x;exact Heap.lt_size ho
 |any P=>refine aV (λ o ho _=>?_) x;clear x;exact Heap.lt_size ho
theorem qv.keep{G h h':Heap}{a:Addr}{d:MO}(x:qv G h a d)(k:∀o,h.get? a=some o->h'.get? a=some o):qv G h' a d:=by
 cases d with
 |ns m=>refine D9 (λ o es ep e r=>?_) x;clear x;exact⟨o,es,ep,k _ e,r⟩
 |cell v=>refine aV (λ o e r=>?_) x;clear x;exact⟨o,k _ e,r⟩
 |list t items=>refine aV (λ o e r=>?_) x;clear x;exact⟨o,k _ e,r⟩
 |tab q=>refine aV (λ o e r=>?_) x;clear x;exact⟨o,k _ e,r⟩
 |any P=>refine aV (λ o e r=>?_) x;clear x;exact⟨o,k _ e,r⟩
theorem qv.mono{G G' h:Heap}{a:Addr}{d:MO}(x:qv G h a d)(k:G.StaysIn G'):qv G' h a d:=by
 cases d with
 |ns m=>exact x
 |cell v=>exact x
 |list t items=>exact x
 |any P=>exact x
 |tab q=>
  refine fY (λ o e r c=>?_) x;clear x
  exact⟨o,e,r,λ pos cv hc=>let ⟨c',e1,e2⟩:=c pos cv hc;⟨c',e1,e2.keeps k⟩⟩
structure cQ(G:Heap)(D:Led)(h:Heap):Prop where
 stays:G.StaysIn h
 has:∀p∈D,qv G h p.1 p.2
 free:∀p∈D,G.get? p.1=none
 nodup:(D.map (·.1)).Nodup
noncomputable def aQ(D:Led):List Addr:=D.map (·.1)
theorem cQ.keeps{G h h':Heap}{D:Led}(x:cQ G D h)(k:∀b o,h.get? b=some o->h'.get? b=some o):cQ G D h':=
 ⟨λ b o e=>k _ _ (x.stays _ _ e),λ p hp=>(x.has p hp).keep (k _),x.free,x.nodup⟩
theorem cQ.extBut{G h h':Heap}{D:Led}{a:Addr}(x:cQ G D h)(hG:G.get? a=none)(ha:a∉aQ D)(k:Heap.ExtBut a h h'):cQ G D h':=
 ⟨λ b o e=>k _ _ (λ q=>by rw[q,hG] at e;cases e) (x.stays _ _ e),
  λ p hp=>(x.has p hp).keep λ o e=>k _ _ (λ q=>ha (by rw[<-q];exact UR hp)) e,x.free,x.nodup⟩
theorem cQ.freeze{G h:Heap}{D:Led}(x:cQ G D h):cQ (hideAll h (aQ D)) D h/\G.StaysIn (hideAll h (aQ D)):=by
 have st:G.StaysIn (hideAll h (aQ D)):=λ b o e=>hideAll_get _ (x.stays _ _ e) λ hm=>by
  refine aV (λ p hp e'=>?_)<|List.mem_map.mp hm
  rw[<-e',x.free p hp] at e;cases e
 exact⟨⟨λ b o e=>of_hideAll _ e,λ p hp=>(x.has p hp).mono st,λ p hp=>hideAll_none _ (UR hp),x.nodup⟩,st⟩
theorem cQ.sub{G h:Heap}{D D':Led}(x:cQ G D h)(s:List.Sublist D' D):cQ G D' h:=
 ⟨x.stays,λ p hp=>x.has p (s.subset hp),λ p hp=>x.free p (s.subset hp),(s.map _).nodup x.nodup⟩
theorem cQ.perm{G h:Heap}{D D':Led}(x:cQ G D h)(s:D'.Perm D):cQ G D' h:=
 ⟨x.stays,λ p hp=>x.has p (s.mem_iff.mp hp),λ p hp=>x.free p (s.mem_iff.mp hp),(s.map _).nodup_iff.mpr x.nodup⟩
noncomputable def Led.put(D:Led)(a:Addr)(d:MO):Led:=D.map λ p=>if p.1=a then (a,d) else p
theorem Led.nJ(D:Led)(a:Addr)(d:MO):aQ (Led.put D a d)=aQ D:=by
 unfold aQ Led.put
 rw[List.map_map]
 refine List.map_congr_left λ p _=>?_
 simp only [Function.comp]
 split
 ·rename_i h;exact h.symm
 ·rfl
theorem Led.bB{D:Led}{a:Addr}{d:MO}{p:Addr×MO}:p∈Led.put D a d↔(p.1≠a/\p∈D)\/(p=(a,d)/\a∈aQ D):=by
 unfold Led.put aQ
 constructor
 ·intro h
  refine aV (λ q hq e=>?_)<|List.mem_map.mp h
  split at e
  ·rename_i h';exact .inr ⟨e.symm,by rw[<-h'];exact UR hq⟩
  ·rename_i h';subst e;exact .inl ⟨h',hq⟩
 ·rintro(⟨h1,h2⟩|⟨rfl,h2⟩)
  ·exact List.mem_map.mpr ⟨p,h2,by simp[h1]⟩
  ·refine aV (λ q hq e=>?_)<|List.mem_map.mp h2
   exact List.mem_map.mpr ⟨q,hq,by simp[e]⟩
theorem Led.ij(D O:Led)(a:Addr)(d:MO):Led.put (D++O) a d=Led.put D a d++Led.put O a d:=List.map_append
theorem Led.dP{D:Led}{a:Addr}{d:MO}(h:a∉aQ D):Led.put D a d=D:=by
 unfold Led.put
 conv=>rhs;rw[<-List.map_id D]
 refine List.map_congr_left λ p hp=>?_
 rw[if_neg λ e=>h (by rw[<-e];exact UR hp)];rfl
theorem cQ.put{G h h':Heap}{D:Led}{a:Addr}{d:MO}(x:cQ G D h)(hs:Heap.ExtBut a h h')(ha:a∈aQ D)(hd:qv G h' a d):cQ G (Led.put D a d) h':=by
 have hG:G.get? a=none:=by
  refine aV (λ p hp e=>?_)<|List.mem_map.mp ha
  exact e▸x.free p hp
 refine⟨λ b o e=>hs _ _ (λ q=>by rw[q,hG] at e;cases e) (x.stays _ _ e),λ p hp=>?_,λ p hp=>?_,?_⟩
 ·rcases Led.bB.mp hp with ⟨h1,h2⟩|⟨rfl,h2⟩
  ·exact(x.has p h2).keep λ o e=>hs _ _ h1 e
  ·exact hd
 ·rcases Led.bB.mp hp with ⟨h1,h2⟩|⟨rfl,h2⟩
  ·exact x.free p h2
  ·exact hG
 ·have:=Led.nJ D a d
  unfold aQ at this
  rw[this];exact x.nodup
theorem cQ.push{G h h':Heap}{D:Led}{a:Addr}{d:MO}(x:cQ G D h)(k:∀b o,h.get? b=some o->h'.get? b=some o)(ha:h.get? a=none)(hd:qv G h' a d):cQ G ((a,d)::D) h':=by
 have y:=x.keeps k
 refine⟨y.stays,λ p hp=>?_,λ p hp=>?_,?_⟩
 ·rcases List.mem_cons.mp hp with rfl|hp
  ·exact hd
  ·exact y.has p hp
 ·rcases List.mem_cons.mp hp with rfl|hp
  ·cases q:G.get? a with
   |none=>rfl
   |some o=>rw[x.stays _ _ q] at ha;cases ha
  ·exact y.free p hp
 ·rw[List.map_cons,List.nodup_cons]
  refine⟨λ hm=>?_,x.nodup⟩
  refine aV (λ p hp e=>?_)<|List.mem_map.mp hm
  have:=x.has p hp
  rw[e] at this
  revert this
  cases p.2 with
  |ns m=>rintro⟨o,_,_,e,_⟩;rw[ha] at e;cases e
  |cell v=>rintro⟨o,e,_⟩;rw[ha] at e;cases e
  |list t items=>rintro⟨o,e,_⟩;rw[ha] at e;cases e
  |tab q=>rintro⟨o,e,_⟩;rw[ha] at e;cases e
  |any P=>rintro⟨o,e,_⟩;rw[ha] at e;cases e
theorem nK(h:Heap):h.get? h.objs.size=none:=by
 cases q:h.get? h.objs.size with
 |none=>rfl
 |some o=>exact absurd (Heap.lt_size q) (Nat.lt_irrefl _)
end Mine
end
section
open PySem PySem.W PyProof.Rows PySem.Calls
namespace Mine
set_option genCtorIdx true in
inductive nt where
 |add|sub|mul|fdiv|mod|shl|shr|and|or|pow
 deriving DecidableEq
set_option genCtorIdx true in
inductive o9 where
 |eq|ne|lt|le|gt|ge|zA|Hq|wj
 deriving DecidableEq
mutual
inductive X where
 |av (v:V)
 |ai (i:Nat)
 |glob (nm:Str) (v:V)
 |bin (op:nt) (l r:X)
 |neg (x:X)
 |cmp (op:o9) (l r:X)
 |rZ (xs:Xs)
 |ik (t:T) (a b:X)
 |tup (xs:Xs)
 |lst (xs:Xs)
 |idx (x i:X)
 |aZ (s:Nat) (i:X)
 |j3 (x hi:X)
 |fM (x lo:X)
 |zI (x lo hi:X)
 |rev (x:X)
 |call (f:Nat) (nm:Str) (xs:Xs)
 |b8 (f:Nat) (nm:Str) (s:Nat) (xs:Xs)
 |fc (s:Nat) (xs:Xs)
 |dI (f:Nat) (nm:Str) (k:Nat) (bM:List Nat)
 |len (x:X)
 |bu (s:Nat)
 |abs (x:X)
 |max2 (x y:X)
 |min2 (x y:X)
 |sum (x:X)
 |repr (x:X)
 |bytesOf (x:X)
 |nL (s t:Nat) (cs:List Nat)
 |ki (x:X)
 |iU (s C:Nat)
 |fG (i:Nat) (n:X) (body:X)
 |kL (i:Nat) (x:X) (body:X)
inductive Xs where
 |nil
 |cons (x:X) (xs:Xs)
inductive T where
 |val (x:X)
 |aC (op:o9) (l r:X)
 |il (l:X) (o1:o9) (m:X) (o2:o9) (r:X)
 |not (t:T)
 |and (ts:Ts)
 |or (ts:Ts)
inductive Ts where
 |nil
 |cons (t:T) (ts:Ts)
end
mutual
inductive S where
 |asg (i:Nat) (x:X)
 |uC (i:Nat) (x:X)
 |qw (i:Nat) (x:X)
 |e8 (is:List Nat) (xs:Xs)
 |Ed (is:List Nat) (x:X)
 |aug (i:Nat) (op:nt) (x:X)
 |mW (s:Nat) (i x:X)
 |app (s:Nat) (x:X)
 |exp (x:X)
 |ite (t:T) (a b:Ss)
 |xR (t:T) (b:Ss)
 |forR (i:Nat) (args:Xs) (b:Ss)
 |kM (i:Nat) (x:X) (b:Ss)
 |zJ (i:Nat) (x:X) (b:Ss)
 |xS (i j:Nat) (x:X) (b:Ss)
 |xT (is:List Nat) (x:X) (b:Ss)
 |ret (x:X)
 |eR (C:Nat) (nm:Str) (keep:Bool) (x:X)
 |r7 (b:Ss) (hs:Hs)
 |cont
 |zK (x:X)
 |any
inductive Ss where
 |nil
 |cons (s:S) (ss:Ss)
inductive Hs where
 |nil
 |cons (C:Nat) (nm:Str) (subs:List Nat) (bind:Option Nat) (b:Ss) (hs:Hs)
end
noncomputable def bL:Nat:=100000
@[irreducible] noncomputable def MI:Nat:=2^4096
set_option exponentiation.threshold 5000 in
theorem zL:MI=2^4096:=by unfold MI;rfl
noncomputable def wk(i:Int):Bool:=decide (i.natAbs<MI)
noncomputable def dO{α:Type}(xs:List α):Bool:=decide (xs.length<bL)
set_option genCtorIdx true in
inductive Slot where
 |af
 |val (v:V)
 |own (xs:List V)
 |aD (xs:List V)
set_option genCtorIdx true in
inductive Callee where
 |fn (a:Nat)
 |lam (k:Nat) (bM:List V)
set_option genCtorIdx true in
inductive Res where
 |ok (v:V) (b:List V)
 |exc (C:Nat) (arg:V)
noncomputable abbrev Hd:=Callee->Option (List V)->List V->Option Res
set_option genCtorIdx true in
inductive R(α:Type) where
 |ok (a:α) (sl:List Slot)
 |exc (C:Nat) (arg:V)
noncomputable def au{α β:Type}(r:Option (R α))(f:α->List Slot->Option (R β)):Option (R β):=
 match r with
 |some (.ok a sl)=>f a sl
 |some (.exc C arg)=>some (.exc C arg)
 |none=>none
noncomputable def intBits(i:Int):Nat:=Builtin.Int.intBits i
noncomputable def zM:V->Option Int
 | .int i=>some i
 |_=>none
noncomputable def ez:List V->Option (List Int)
 | []=>some []
 |x::r=>(zM x).bind λ i=>(ez r).map (i:: ·)
noncomputable def intOp(op:nt)(a b:Int):Option V:=match op with
 | .add=>some (.int (a+b))
 | .sub=>some (.int (a-b))
 | .mul=>if wk a&&wk b then some (.int (a*b)) else none
 | .fdiv=>if b≠0/\b.natAbs<1073741824 then some (.int (Int.fdiv a b)) else none
 | .mod=>if b≠0 then some (.int (Int.fmod a b)) else none
 | .shl=>if 0<=b/\b<=4096/\wk a then some (.int (a*2^b.toNat)) else none
 | .shr=>if 0<=b then some (.int (Int.fdiv a (2^b.toNat))) else none
 | .and=>some (.int (Builtin.bitAnd a b))
 | .or=>some (.int (Builtin.bitOr a b))
 | .pow=>if 0<=b/\b<=4096/\a.natAbs<65536 then some (.int (a^b.toNat)) else none
noncomputable def isAdd:nt->Bool
 | .add=>true
 |_=>false
noncomputable def isMul:nt->Bool
 | .mul=>true
 |_=>false
noncomputable def dz(op:nt)(a b:V):Option V:=match a with
 | .int i=>(match b with
  | .int j=>intOp op i j
  |_=>none)
 | .bytes x=>(match b with
  | .bytes y=>if isAdd op=true/\x.length+y.length<bL then some (.bytes (x++y)) else none
  |_=>none)
 | .seq t x=>(match b with
  | .seq u y=>if isAdd op=true/\t=false/\u=false/\x.length+y.length<bL then some (.seq false (x++y)) else none
  | .int n=>if isMul op=true/\t=false/\x.length*n.toNat<bL/\n<bL/\-bL<n/\(ez x).isSome then some (.seq false (List.replicate n.toNat x).flatten) else none
  |_=>none)
 |_=>none
noncomputable def Gy(a b:V):Option Bool:=match a with
 | .none=>(match b with
  | .none=>some true
  |_=>none)
 | .cls x=>(match b with
  | .cls y=>if x=y then some true else none
  |_=>none)
 | .int x=>(match b with
  | .int y=>some (x==y)
  |_=>none)
 | .str x=>(match b with
  | .str y=>some (x==y)
  |_=>none)
 | .bytes x=>(match b with
  | .bytes y=>some (x==y)
  |_=>none)
 |_=>none
noncomputable def eqs:List V->List V->Option (List Bool)
 | [],[]=>some []
 |x::xs,y::ys=>(Gy x y).bind λ b=>(eqs xs ys).map (b:: ·)
 |_,_=>none
noncomputable def Kv(t:Bool)(xs ys:List V):Option Bool:=if dO xs&&dO ys then (if xs.length=ys.length then (eqs xs ys).map (·.all id) else if t then none else some false) else none
noncomputable def Kw(a b:V):Option Bool:=match a with
 | .seq t xs=>(match b with
  | .seq u ys=>if t=u then Kv t xs ys else none
  | .int _=>if t then some false else none
  |_=>none)
 | .int x=>(match b with
  | .seq u _=>if u then some false else none
  | .int y=>some (x==y)
  |_=>none)
 |a=>Gy a b
noncomputable def Kx(x:List UInt8):List V->Option (List Bool)
 | []=>some []
 |y::ys=>(match y with
  | .bytes b=>(Kx x ys).map ((b==x):: ·)
  |_=>none)
noncomputable def zN(a b:V)(f:Int->Int->Bool):Option Bool:=match a with
 | .int i=>(match b with
  | .int j=>some (f i j)
  |_=>none)
 |_=>none
noncomputable def Ky(a b:V):Option Bool:=match a with
 | .int i=>(match b with
  | .bytes x=>if 0<=i/\i<256 then some (x.contains i.toNat.toUInt8) else none
  |_=>none)
 | .bytes x=>(match b with
  | .seq t ys=>if t then (Kx x ys).map (·.any id) else none
  |_=>none)
 |_=>none
noncomputable def Kz(a b:V):Option Bool:=match b with
 | .none=>(match a with
  | .none=>some true
  | .seq _ _=>some false
  |_=>none)
 |_=>none
noncomputable def cL(op:o9)(a b:V):Option Bool:=match op with
 | .eq=>Kw a b
 | .ne=>(Kw a b).map (!·)
 | .lt=>zN a b λ i j=>decide (i<j)
 | .le=>zN a b λ i j=>decide (i<=j)
 | .gt=>zN a b λ i j=>decide (i > j)
 | .ge=>zN a b λ i j=>decide (i ≥ j)
 | .zA=>Ky a b
 | .Hq=>Kz a b
 | .wj=>(Kz a b).map (!·)
noncomputable def El:V->Option Bool
 | .bool b=>some b
 |_=>none
noncomputable def zB{α:Type}(xs:List α)(i:Int):Option α:=
 if 0<=i then xs[i.toNat]? else if -(xs.length:Int)<=i then xs[((xs.length:Int)+i).toNat]? else none
noncomputable def cV(a i:V):Option V:=match i with
 | .int k=>(match a with
  | .seq _ xs=>if dO xs then zB xs k else none
  | .bytes b=>if 0<=k/\dO b then (b[k.toNat]?).map λ x=> .int x.toNat else none
  |_=>none)
 |_=>none
noncomputable def pick{α:Type}(l:List α)(lo hi:Option Int):List α:=(l.drop (kms_lo lo l.length)).take (kms_hi hi l.length-kms_lo lo l.length)
noncomputable def fZ(lo hi:Option Int)(a:V):Option V:=match a with
 | .seq t xs=>(match t with
  |true=>none
  |false=>if dO xs then some (.seq false (pick xs lo hi)) else none)
 | .bytes b=>if dO b then some (.bytes (pick b lo hi)) else none
 |_=>none
noncomputable def r8(a:V):Option (List V):=match a with
 | .seq t xs=>(match t with
  |true=>none
  |false=>if dO xs then some xs else none)
 |_=>none
noncomputable def xU(a:V):Option V:=(r8 a).map λ xs=> .seq false xs.reverse
noncomputable def eH:V->Option V
 | .seq _ xs=>if dO xs then some (.int xs.length) else none
 | .bytes b=>if dO b then some (.int b.length) else none
 |_=>none
noncomputable def uD(a:V):Option V:=(r8 a).bind λ xs=>(ez xs).map λ ns=> .int ns.sum
noncomputable def Em(ns:List Int):Option Int:=match ns with
 | []=>none
 |i::r=>(match r with
  | []=>if 0<=i/\i<256 then some i else none
  |_=>none)
noncomputable def kk(a:V):Option V:=(r8 a).bind λ xs=>(ez xs).bind λ ns=>(Em ns).map λ i=> .bytes [i.toNat.toUInt8]
noncomputable def wm:V->Option Bool
 | .bool b=>some b
 |_=>none
noncomputable def three(bs:List V):Option (Bool×Bool×Bool):=match bs with
 | []=>none
 |a::r=>(match r with
  | []=>none
  |b::r=>(match r with
   | []=>none
   |c::r=>(match r with
    | []=>(wm a).bind λ a=>(wm b).bind λ b=>(wm c).map λ c=>(a,b,c)
    |_=>none)))
noncomputable def pJ(a:V):Option V:=(r8 a).bind λ xs=>(three xs).map λ q=> .str (PySem.PyData.list [.bool q.1,.bool q.2.1,.bool q.2.2]).shown
noncomputable def nu:V->Option V
 | .int i=>some (.int (intBits i))
 |_=>none
noncomputable def eS:V->Option (List V)
 | .seq _ xs=>if dO xs then some xs else none
 |_=>none
noncomputable def bK(a c:Int)(n:Nat):List Int:=(List.range n).map λ(k:Nat)=>a+(k:Int)*c
noncomputable def pa(i:Int):Bool:=decide (i<bL)&&decide (-bL<i)
noncomputable def gJ(ns:List Int):Option (List Int):=match ns with
 | []=>none
 |a::r=>(match r with
  | []=>if pa a then some (bK 0 1 a.toNat) else none
  |b::r=>(match r with
   | []=>if pa a&&pa b then some (bK a 1 (b-a).toNat) else none
   |c::r=>(match r with
    | []=>if c= -1/\pa a/\pa b then some (bK a (-1) (a-b).toNat) else none
    |_=>none)))
noncomputable def bN(vs:List V):Option (List Int):=(ez vs).bind gJ
noncomputable def eA(sl:List Slot)(i:Nat):Option V:=
 match sl[i]? with
 |some (.val v)=>some v
 |some (.own xs)=>some (.seq false xs)
 |some (.aD xs)=>some (.seq false xs)
 |_=>none
noncomputable def mw(sl:List Slot)(i:Nat):Option (R V):=
 match sl[i]? with
 |some (.val v)=>some (.ok v sl)
 |some (.own xs)=>some (.ok (.seq false xs) (sl.set i (.val (.seq false xs))))
 |_=>none
noncomputable def iV(sl:List Slot):List Nat->Option (List V)
 | []=>some []
 |i::r=>match sl[i]? with
  |some (.val v)=>(iV sl r).map (v:: ·)
  |_=>none
noncomputable def flat:V->Bool
 | .none=>true
 | .bool _=>true
 | .int _=>true
 | .cls _=>true
 |_=>false
noncomputable def fv(r:Option Res)(sl:List Slot):Option (R V):=
 match r with
 |some (.ok v _)=>some (.ok v sl)
 |some (.exc C a)=>some (.exc C a)
 |none=>none
noncomputable def dQ(r:Option Res)(sl:List Slot)(s:Nat):Option (R V):=
 match r with
 |some (.ok v b)=>match sl[s]? with
  |some (.own _)=>some (.ok v (sl.set s (.own b)))
  |some (.aD _)=>some (.ok v (sl.set s (.aD b)))
  |_=>none
 |_=>none
noncomputable def listS(sl:List Slot)(i:Nat):Bool:=match sl[i]? with
 |some (.own _)=>true
 |some (.aD _)=>true
 |_=>false
noncomputable def fp:V->Option Callee
 | .obj a=>some (.fn a)
 | .lam k bM=>some (.lam k bM)
 |_=>none
noncomputable def compLoop(i:Nat)(f:List Slot->Option (R V)):List V->List Slot->Option (R (List V))
 | [],sl=>some (.ok [] sl)
 |x::xs,sl=>match f (sl.set i (.val x)) with
  |some (.ok v sl)=>(match compLoop i f xs sl with
   |some (.ok vs sl)=>some (.ok (v::vs) sl)
   |_=>none)
  |_=>none
section
variable(call:Hd)
mutual
noncomputable def ev:X->List Slot->Option (R V)
 | .av v,sl=>some (.ok v sl)
 | .ai i,sl=>mw sl i
 | .glob _ v,sl=>some (.ok v sl)
 | .bin op l r,sl=>au (ev l sl) λ a sl=>au (ev r sl) λ b sl=>(dz op a b).map (.ok · sl)
 | .neg x,sl=>au (ev x sl) λ a sl=>match a with| .int i=>some (.ok (.int (-i)) sl)|_=>none
 | .cmp op l r,sl=>au (ev l sl) λ a sl=>au (ev r sl) λ b sl=>(cL op a b).map λ c=> .ok (.bool c) sl
 | .rZ xs,sl=>gR xs sl
 | .ik t a b,sl=>au (iW t sl) λ c sl=>if c then ev a sl else ev b sl
 | .tup xs,sl=>au (ip xs sl) λ vs sl=>if dO vs then some (.ok (.seq true vs) sl) else none
 | .lst xs,sl=>au (ip xs sl) λ vs sl=>if dO vs then some (.ok (.seq false vs) sl) else none
 | .idx x i,sl=>au (ev x sl) λ a sl=>au (ev i sl) λ b sl=>(cV a b).map (.ok · sl)
 | .aZ s i,sl=>match sl[s]? with
  |some (.val v)=>au (ev i sl) λ b sl=>(cV v b).map (.ok · sl)
  |some (.own _)=>au (ev i sl) λ b sl=>((eA sl s).bind λ v=>cV v b).map (.ok · sl)
  |some (.aD _)=>au (ev i sl) λ b sl=>((eA sl s).bind λ v=>cV v b).map (.ok · sl)
  |_=>none
 | .j3 x hi,sl=>au (ev x sl) λ a sl=>au (ev hi sl) λ h sl=>match h with| .int h=>(fZ none (some h) a).map (.ok · sl)|_=>none
 | .fM x lo,sl=>au (ev x sl) λ a sl=>au (ev lo sl) λ l sl=>match l with| .int l=>(fZ (some l) none a).map (.ok · sl)|_=>none
 | .zI x lo hi,sl=>au (ev x sl) λ a sl=>au (ev lo sl) λ l sl=>au (ev hi sl) λ h sl=>match l,h with| .int l,.int h=>(fZ (some l) (some h) a).map (.ok · sl)|_,_=>none
 | .rev x,sl=>au (ev x sl) λ a sl=>(xU a).map (.ok · sl)
 | .call f _ xs,sl=>au (ip xs sl) λ vs sl=>fv (call (.fn f) none vs) sl
 | .b8 f _ s xs,sl=>if listS sl s then au (ip xs sl) λ vs sl=>match sl[s]? with
  |some (.own b)=>dQ (call (.fn f) (some b) vs) sl s
  |some (.aD b)=>dQ (call (.fn f) (some b) vs) sl s
  |_=>none
  else none
 | .fc s xs,sl=>match sl[s]? with
  |some (.val v)=>(fp v).bind λ c=>au (ip xs sl) λ vs sl=>fv (call c none vs) sl
  |_=>none
 | .dI f _ k bM,sl=>(iV sl bM).bind λ vs=>match call (.fn f) none [.lam k vs] with
  |some (.ok v _)=>if flat v then some (.ok v sl) else none
  |_=>none
 | .len x,sl=>au (ev x sl) λ a sl=>(eH a).map (.ok · sl)
 | .bu s,sl=>((eA sl s).bind eH).map (.ok · sl)
 | .abs x,sl=>au (ev x sl) λ a sl=>match a with| .int i=>some (.ok (.int i.natAbs) sl)|_=>none
 | .max2 x y,sl=>au (ev x sl) λ a sl=>au (ev y sl) λ b sl=>match a,b with| .int i,.int j=>some (.ok (.int (if i<j then j else i)) sl)|_,_=>none
 | .min2 x y,sl=>au (ev x sl) λ a sl=>au (ev y sl) λ b sl=>match a,b with| .int i,.int j=>some (.ok (.int (if j<i then j else i)) sl)|_,_=>none
 | .sum x,sl=>au (ev x sl) λ a sl=>(uD a).map (.ok · sl)
 | .repr x,sl=>au (ev x sl) λ a sl=>(pJ a).map (.ok · sl)
 | .bytesOf x,sl=>au (ev x sl) λ a sl=>(kk a).map (.ok · sl)
 | .nL s t cs,sl=>match sl[s]?,sl[t]? with
  |some (.val (.exc C _)),some (.val (.cls D))=>if cs.contains C&&cs.contains D then some (.ok (.bool (C==D)) sl) else none
  |_,_=>none
 | .ki x,sl=>au (ev x sl) λ a sl=>(nu a).map (.ok · sl)
 | .iU s C,sl=>match sl[s]? with
  |some (.val (.exc C' (.int i)))=>if C'==C then some (.ok (.int i) sl) else none
  |_=>none
 | .fG i n body,sl=>au (ev n sl) λ a sl=>(bN [a]).bind λ ns=>au (compLoop i (ev body) (ns.map .int) sl) λ vs sl=>some (.ok (.seq false vs) (sl.set i .af))
 | .kL i x body,sl=>au (ev x sl) λ a sl=>(eS a).bind λ ys=>au (compLoop i (ev body) ys sl) λ vs sl=>some (.ok (.seq false vs) (sl.set i .af))
noncomputable def ip:Xs->List Slot->Option (R (List V))
 | .nil,sl=>some (.ok [] sl)
 | .cons x xs,sl=>au (ev x sl) λ v sl=>au (ip xs sl) λ vs sl=>some (.ok (v::vs) sl)
noncomputable def gR:Xs->List Slot->Option (R V)
 | .nil,_=>none
 | .cons x .nil,sl=>ev x sl
 | .cons x xs,sl=>au (ev x sl) λ v sl=>match v with
  | .bool true=>gR xs sl
  | .bool false=>some (.ok (.bool false) sl)
  |_=>none
noncomputable def iW:T->List Slot->Option (R Bool)
 | .val x,sl=>au (ev x sl) λ v sl=>(El v).map (.ok · sl)
 | .aC op l r,sl=>au (ev l sl) λ a sl=>au (ev r sl) λ b sl=>(cL op a b).map (.ok · sl)
 | .il l o1 m o2 r,sl=>au (ev l sl) λ a sl=>au (ev m sl) λ b sl=>match cL o1 a b with
  |some true=>au (ev r sl) λ c sl=>(cL o2 b c).map (.ok · sl)
  |some false=>some (.ok false sl)
  |none=>none
 | .not t,sl=>au (iW t sl) λ b sl=>some (.ok (!b) sl)
 | .and ts,sl=>r9 true ts sl
 | .or ts,sl=>r9 false ts sl
noncomputable def r9(b:Bool):Ts->List Slot->Option (R Bool)
 | .nil,sl=>some (.ok b sl)
 | .cons t ts,sl=>au (iW t sl) λ c sl=>if c==b then r9 b ts sl else some (.ok c sl)
end
end
set_option genCtorIdx true in
inductive F where
 |next (sl:List Slot)
 |cont (sl:List Slot)
 |ret (v:V) (sl:List Slot)
 |exc (C:Nat) (arg:V)
noncomputable def aW{α:Type}(r:Option (R α))(f:α->List Slot->Option F):Option F:=
 match r with
 |some (.ok a sl)=>f a sl
 |some (.exc C arg)=>some (.exc C arg)
 |none=>none
noncomputable def bg(sl:List Slot)(i:Nat)(x:Slot):Option (List Slot):=
 match sl[i]? with
 |some (.aD _)=>none
 |some _=>some (sl.set i x)
 |none=>none
noncomputable def cz:List Slot->List Nat->List Slot->Option (List Slot)
 |sl,[],[]=>some sl
 |sl,i::is,x::xs=>(bg sl i x).bind λ sl=>cz sl is xs
 |_,_,_=>none
noncomputable def kl:X->Bool
 | .lst _=>true
 | .bin .add _ _=>true
 |_=>false
noncomputable def sa(x:X)(v:V):Slot:=
 if kl x then (match v with
  | .seq false xs=> .own xs
  |v=> .val v)
 else .val v
noncomputable def iX:Xs->List V->List Slot
 | .cons x xs,v::vs=>sa x v::iX xs vs
 |_,_=>[]
noncomputable def sd(sl:List Slot)(s:Nat)(i:Int)(v:V):Option (List Slot):=
 match sl[s]? with
 |some (.own xs)=>if dO xs&&decide (0<=i)&&decide (i<xs.length) then some (sl.set s (.own (xs.set i.toNat v))) else none
 |some (.aD xs)=>if dO xs&&decide (0<=i)&&decide (i<xs.length) then some (sl.set s (.aD (xs.set i.toNat v))) else none
 |_=>none
noncomputable def se(sl:List Slot)(s:Nat)(v:V):Option (List Slot):=
 match sl[s]? with
 |some (.own xs)=>if dO xs then some (sl.set s (.own (xs++ [v]))) else none
 |_=>none
noncomputable def cS(t:List Slot->Option (R Bool))(b:List Slot->Option F):Nat->List Slot->Option F
 |0,_=>none
 |n+1,sl=>aW (t sl) λ c sl=>if c then
   (match b sl with
    |some (.next sl)=>cS t b n sl
    |some (.cont sl)=>cS t b n sl
    |r=>r)
  else some (.next sl)
noncomputable def bW(b:List Slot->Option F)(de:V->List Slot->Option (List Slot)):List V->List Slot->Option F
 | [],sl=>some (.next sl)
 |x::xs,sl=>(de x sl).bind λ sl=>match b sl with
  |some (.next sl)=>bW b de xs sl
  |some (.cont sl)=>bW b de xs sl
  |r=>r
noncomputable def nM(b:List Slot->Option F)(de:V->List Slot->Option (List Slot)):List V->List Slot->Option F
 | [],_=>none
 |x::xs,sl=>(de x sl).bind λ sl=>match b sl with
  |some (.next sl)=>nM b de xs sl
  |some (.cont sl)=>nM b de xs sl
  |r=>r
noncomputable def gb:Nat->List V->List V
 |_,[]=>[]
 |n,x::xs=> .seq true [.int n,x]::gb (n+1) xs
section
variable(call:Hd)(W:Nat)
mutual
noncomputable def ex:S->List Slot->Option F
 | .asg i x,sl=>aW (ev call x sl) λ v sl=>(bg sl i (.val v)).map .next
 | .uC i (.fG k n b),sl=>aW (ev call (.fG k n b) sl) λ v sl=>(bg sl i (.val v)).map .next
 | .uC _ _,_=>none
 | .qw i x,sl=>if kl x then aW (ev call x sl) λ v sl=>match v with
   | .seq false xs=>(bg sl i (.own xs)).map .next
   |_=>none
  else none
 | .e8 is xs,sl=>aW (ip call xs sl) λ vs sl=>(cz sl is (iX xs vs)).map .next
 | .Ed is x,sl=>aW (ev call x sl) λ v sl=>match v with
   | .seq true vs=>(cz sl is (vs.map .val)).map .next
   |_=>none
 | .aug i op x,sl=>match sl[i]? with
  |some (.val a)=>aW (ev call x sl) λ b sl=>match a,b with
   | .int a,.int b=>(dz op (.int a) (.int b)).bind λ v=>(bg sl i (.val v)).map .next
   |_,_=>none
  |_=>none
 | .mW s i x,sl=>aW (ev call x sl) λ v sl=>if listS sl s then aW (ev call i sl) λ j sl=>match j with
  | .int j=>(sd sl s j v).map .next
  |_=>none
  else none
 | .app s x,sl=>if listS sl s then aW (ev call x sl) λ v sl=>(se sl s v).map .next else none
 | .exp x,sl=>aW (ev call x sl) λ _ sl=>some (.next sl)
 | .ite t a b,sl=>aW (iW call t sl) λ c sl=>if c then aU a sl else aU b sl
 | .xR t b,sl=>cS (iW call t) (aU b) W sl
 | .forR i args b,sl=>aW (ip call args sl) λ vs sl=>(bN vs).bind λ ns=>bW (aU b) (λ x sl=>bg sl i (.val x)) (ns.map .int) sl
 | .kM i x b,sl=>aW (ev call x sl) λ a sl=>(eS a).bind λ ys=>bW (aU b) (λ x sl=>bg sl i (.val x)) ys sl
 | .zJ i x b,sl=>aW (ev call x sl) λ a sl=>(eS a).bind λ ys=>nM (aU b) (λ x sl=>bg sl i (.val x)) ys sl
 | .xS i j x b,sl=>aW (ev call x sl) λ a sl=>match a with
  | .seq false ys=>if dO ys then bW (aU b) (λ x sl=>match x with| .seq true vs=>cz sl [i,j] (vs.map .val)|_=>none) (gb 0 ys) sl else none
  |_=>none
 | .xT is x b,sl=>aW (ev call x sl) λ a sl=>match a with
  | .seq true ys=>if dO ys then bW (aU b) (λ x sl=>match x with| .seq true vs=>cz sl is (vs.map .val)|_=>none) ys sl else none
  |_=>none
 | .ret x,sl=>aW (ev call x sl) λ v sl=>some (.ret v sl)
 | .eR C _ keep x,sl=>aW (ev call x sl) λ v _=>if keep then (match v with
   | .int i=>some (.exc C (.int i))
   |_=>none) else some (.exc C .none)
 | .r7 b hs,sl=>match aU b sl with
  |some (.exc C arg)=>Ee hs C arg (sl.map λ _=> .af)
  |r=>r
 | .cont,sl=>some (.cont sl)
 | .zK x,sl=>match ev call x sl with|some (.exc C arg)=>some (.exc C arg)|_=>none
 | .any,_=>none
noncomputable def aU:Ss->List Slot->Option F
 | .nil,sl=>some (.next sl)
 | .cons s ss,sl=>match ex s sl with
  |some (.next sl)=>aU ss sl
  |r=>r
noncomputable def Ee:Hs->Nat->V->List Slot->Option F
 | .nil,_,_,_=>none
 | .cons _ _ subs bind b hs,C,arg,sl=>if subs.contains C then
   (match bind with
    |none=>(match aU b sl with
     |some (.exc _ _)=>none
     |r=>r)
    |some i=>(bg sl i (.val (.exc C arg))).bind λ sl=>match aU b sl with
     |some (.ret v sl)=>some (.ret v (sl.map λ _=> .af))
     |_=>none)
  else Ee hs C arg sl
end
end
structure Fn where
 np:Nat
 aD:Bool
 lam:Bool
 names:List Str
 body:Ss
structure pb where
 names:List Str
 body:X
structure Prog where
 mx:List (Str×V)
 qx:List Str
 fns:List (Nat×Fn)
 pe:List pb
 fN:List Nat
 bad:Nat
 subs:List (Nat×List Nat)
structure bQ where
 names:List Str
 scope:Scope
 q:Bool
 rw:Bool
 lam:Bool
 tg:List Nat
theorem nv{c:Prop}[Decidable c]{f:c->Bool}{p:Prop}(h:¬c)(hc:(if h:c then f h else false)=true):p:=by
 rw[dif_neg h] at hc;exact absurd hc UI
theorem an{a b:Bool}{p:Prop}(h:(a&&b)=true)(k:a=true->b=true->p):p:=by
 cases a with
 |true=>exact k rfl h
 |false=>exact absurd h UI
theorem al{a b:Bool}(h:(a&&b)=true):a=true:=an h λ h _=>h
theorem ar{a b:Bool}(h:(a&&b)=true):b=true:=an h λ _ h=>h
theorem dn{a:Bool}(h:(!a)=true):a=false:=by
 cases a with
 |true=>exact absurd h UI
 |false=>rfl
theorem od{p q:Prop}[Decidable p][Decidable q](h:(decide p || decide q)=true):p\/q:=by
 rcases Bool.or_eq_true _ _▸h with h|h
 ·exact .inl (UH h)
 ·exact .inr (UH h)
section
variable{α β:Type}
noncomputable def vEq[DecidableEq α](a:α)(b:Bool)(x:α):Bool:=decide (x=a)&&b
@[elab_as_elim] theorem cR[DecidableEq α]{a:α}{b:Bool}{M:α->Prop}(H:b=true->M a)(x:α)(h:vEq a b x=true):M x:=
 an h λ h1 h2=>(UH h1)▸H h2
noncomputable def bV(b:Bool)(xs:List α):Bool:=List.casesOn (motive:=λ _=>Bool) xs b (λ _ _=>false)
@[elab_as_elim] theorem aT{b:Bool}{M:List α->Prop}(H:b=true->M [])(xs:List α):bV b xs=true->M xs:=
 List.casesOn (motive:=λ xs=>bV b xs=true->M xs) xs H (λ _ _ h=>absurd h UI)
noncomputable def bC(f:α->List α->Bool)(xs:List α):Bool:=List.casesOn (motive:=λ _=>Bool) xs false f
@[elab_as_elim] theorem aR{f:α->List α->Bool}{M:List α->Prop}(H:∀a as,f a as=true->M (a::as))(xs:List α):bC f xs=true->M xs:=
 List.casesOn (motive:=λ xs=>bC f xs=true->M xs) xs (λ h=>absurd h UI) H
noncomputable def j4(b:Bool)(x:Option α):Bool:=Option.casesOn (motive:=λ _=>Bool) x b (λ _=>false)
@[elab_as_elim] theorem gC{b:Bool}{M:Option α->Prop}(H:b=true->M none)(x:Option α):j4 b x=true->M x:=
 Option.casesOn (motive:=λ x=>j4 b x=true->M x) x H (λ _ h=>absurd h UI)
noncomputable def cT(f:α->Bool)(x:Option α):Bool:=Option.casesOn (motive:=λ _=>Bool) x false f
@[elab_as_elim] theorem bE{f:α->Bool}{M:Option α->Prop}(H:∀a,f a=true->M (some a))(x:Option α):cT f x=true->M x:=
 Option.casesOn (motive:=λ x=>cT f x=true->M x) x (λ h=>absurd h UI) H
end
noncomputable def En(f:Expr->Expr->List Expr->Int->Bool)(c:Comprehension):Bool:=f c.1 c.2 c.3 c.4
@[elab_as_elim] theorem zO{f:Expr->Expr->List Expr->Int->Bool}{M:Comprehension->Prop}(H:∀a b c d,f a b c d=true->M ⟨a,b,c,d⟩)(c:Comprehension):En f c=true->M c:=Comprehension.casesOn (motive_3:=λ c=>En f c=true->M c) c H
noncomputable def Hr(f:Option Expr->Option Str->List Stmt->Pos->Bool)(h:ExceptHandler):Bool:=ExceptHandler.casesOn (motive_4:=λ _=>Bool) h f
@[elab_as_elim] theorem Ht{f:Option Expr->Option Str->List Stmt->Pos->Bool}{M:ExceptHandler->Prop}(H:∀a b c d,f a b c d=true->M (.ExceptHandler a b c d))(h:ExceptHandler):Hr f h=true->M h:=
 ExceptHandler.casesOn (motive_4:=λ h=>Hr f h=true->M h) h H
noncomputable def nx(f:BoolOp->(List Expr)->Pos->Bool)(e:Expr):Bool:=if h:e.ctorIdx=0 then Expr.BoolOp.elim (motive_1:=λ _=>Bool) e h f else false
@[elab_as_elim] theorem pK{f:BoolOp->(List Expr)->Pos->Bool}{M:Expr->Prop}(H:∀a0 a1 a2,f a0 a1 a2=true->M (.BoolOp a0 a1 a2))(e:Expr):nx f e=true->M e:=
 if h:e.ctorIdx=0 then Expr.BoolOp.elim (motive_1:=λ e=>nx f e=true->M e) e h H else nv h
noncomputable def uE(f:Expr->Operator->Expr->Pos->Bool)(e:Expr):Bool:=if h:e.ctorIdx=2 then Expr.BinOp.elim (motive_1:=λ _=>Bool) e h f else false
@[elab_as_elim] theorem zP{f:Expr->Operator->Expr->Pos->Bool}{M:Expr->Prop}(H:∀a0 a1 a2 a3,f a0 a1 a2 a3=true->M (.BinOp a0 a1 a2 a3))(e:Expr):uE f e=true->M e:=
 if h:e.ctorIdx=2 then Expr.BinOp.elim (motive_1:=λ e=>uE f e=true->M e) e h H else nv h
noncomputable def gS(f:UnaryOp->Expr->Pos->Bool)(e:Expr):Bool:=if h:e.ctorIdx=3 then Expr.UnaryOp.elim (motive_1:=λ _=>Bool) e h f else false
@[elab_as_elim] theorem km{f:UnaryOp->Expr->Pos->Bool}{M:Expr->Prop}(H:∀a0 a1 a2,f a0 a1 a2=true->M (.UnaryOp a0 a1 a2))(e:Expr):gS f e=true->M e:=
 if h:e.ctorIdx=3 then Expr.UnaryOp.elim (motive_1:=λ e=>gS f e=true->M e) e h H else nv h
noncomputable def qy(f:Arguments->Expr->Scope->Pos->Bool)(e:Expr):Bool:=if h:e.ctorIdx=4 then Expr.Lambda.elim (motive_1:=λ _=>Bool) e h f else false
@[elab_as_elim] theorem xV{f:Arguments->Expr->Scope->Pos->Bool}{M:Expr->Prop}(H:∀a0 a1 a2 a3,f a0 a1 a2 a3=true->M (.Lambda a0 a1 a2 a3))(e:Expr):qy f e=true->M e:=
 if h:e.ctorIdx=4 then Expr.Lambda.elim (motive_1:=λ e=>qy f e=true->M e) e h H else nv h
noncomputable def uF(f:Expr->Expr->Expr->Pos->Bool)(e:Expr):Bool:=if h:e.ctorIdx=5 then Expr.IfExp.elim (motive_1:=λ _=>Bool) e h f else false
@[elab_as_elim] theorem zQ{f:Expr->Expr->Expr->Pos->Bool}{M:Expr->Prop}(H:∀a0 a1 a2 a3,f a0 a1 a2 a3=true->M (.IfExp a0 a1 a2 a3))(e:Expr):uF f e=true->M e:=
 if h:e.ctorIdx=5 then Expr.IfExp.elim (motive_1:=λ e=>uF f e=true->M e) e h H else nv h
noncomputable def jG(f:Expr->(List Comprehension)->Scope->Pos->Bool)(e:Expr):Bool:=if h:e.ctorIdx=8 then Expr.ListComp.elim (motive_1:=λ _=>Bool) e h f else false
@[elab_as_elim] theorem my{f:Expr->(List Comprehension)->Scope->Pos->Bool}{M:Expr->Prop}(H:∀a0 a1 a2 a3,f a0 a1 a2 a3=true->M (.ListComp a0 a1 a2 a3))(e:Expr):jG f e=true->M e:=
 if h:e.ctorIdx=8 then Expr.ListComp.elim (motive_1:=λ e=>jG f e=true->M e) e h H else nv h
noncomputable def kN(f:Expr->(List CmpOp)->(List Expr)->Pos->Bool)(e:Expr):Bool:=if h:e.ctorIdx=15 then Expr.Compare.elim (motive_1:=λ _=>Bool) e h f else false
@[elab_as_elim] theorem nN{f:Expr->(List CmpOp)->(List Expr)->Pos->Bool}{M:Expr->Prop}(H:∀a0 a1 a2 a3,f a0 a1 a2 a3=true->M (.Compare a0 a1 a2 a3))(e:Expr):kN f e=true->M e:=
 if h:e.ctorIdx=15 then Expr.Compare.elim (motive_1:=λ e=>kN f e=true->M e) e h H else nv h
noncomputable def eU(f:Expr->(List Expr)->(List Keyword)->Pos->Bool)(e:Expr):Bool:=if h:e.ctorIdx=16 then Expr.Call.elim (motive_1:=λ _=>Bool) e h f else false
@[elab_as_elim] theorem cU{f:Expr->(List Expr)->(List Keyword)->Pos->Bool}{M:Expr->Prop}(H:∀a0 a1 a2 a3,f a0 a1 a2 a3=true->M (.Call a0 a1 a2 a3))(e:Expr):eU f e=true->M e:=
 if h:e.ctorIdx=16 then Expr.Call.elim (motive_1:=λ e=>eU f e=true->M e) e h H else nv h
noncomputable def gT(f:Const->Nat->Pos->Bool)(e:Expr):Bool:=if h:e.ctorIdx=19 then Expr.Constant.elim (motive_1:=λ _=>Bool) e h f else false
@[elab_as_elim] theorem iY{f:Const->Nat->Pos->Bool}{M:Expr->Prop}(H:∀a0 a1 a2,f a0 a1 a2=true->M (.Constant a0 a1 a2))(e:Expr):gT f e=true->M e:=
 if h:e.ctorIdx=19 then Expr.Constant.elim (motive_1:=λ e=>gT f e=true->M e) e h H else nv h
noncomputable def eI(f:Expr->Str->Pos->Bool)(e:Expr):Bool:=if h:e.ctorIdx=20 then Expr.Attribute.elim (motive_1:=λ _=>Bool) e h f else false
@[elab_as_elim] theorem eV{f:Expr->Str->Pos->Bool}{M:Expr->Prop}(H:∀a0 a1 a2,f a0 a1 a2=true->M (.Attribute a0 a1 a2))(e:Expr):eI f e=true->M e:=
 if h:e.ctorIdx=20 then Expr.Attribute.elim (motive_1:=λ e=>eI f e=true->M e) e h H else nv h
noncomputable def dh(f:Expr->Expr->Pos->Bool)(e:Expr):Bool:=if h:e.ctorIdx=21 then Expr.Subscript.elim (motive_1:=λ _=>Bool) e h f else false
@[elab_as_elim] theorem di{f:Expr->Expr->Pos->Bool}{M:Expr->Prop}(H:∀a0 a1 a2,f a0 a1 a2=true->M (.Subscript a0 a1 a2))(e:Expr):dh f e=true->M e:=
 if h:e.ctorIdx=21 then Expr.Subscript.elim (motive_1:=λ e=>dh f e=true->M e) e h H else nv h
noncomputable def bX(f:Str->Pos->Bool)(e:Expr):Bool:=if h:e.ctorIdx=23 then Expr.Name.elim (motive_1:=λ _=>Bool) e h f else false
@[elab_as_elim] theorem a9{f:Str->Pos->Bool}{M:Expr->Prop}(H:∀a0 a1,f a0 a1=true->M (.Name a0 a1))(e:Expr):bX f e=true->M e:=
 if h:e.ctorIdx=23 then Expr.Name.elim (motive_1:=λ e=>bX f e=true->M e) e h H else nv h
noncomputable def zR(f:(List Expr)->Pos->Bool)(e:Expr):Bool:=if h:e.ctorIdx=24 then Expr.List.elim (motive_1:=λ _=>Bool) e h f else false
@[elab_as_elim] theorem Eo{f:(List Expr)->Pos->Bool}{M:Expr->Prop}(H:∀a0 a1,f a0 a1=true->M (.List a0 a1))(e:Expr):zR f e=true->M e:=
 if h:e.ctorIdx=24 then Expr.List.elim (motive_1:=λ e=>zR f e=true->M e) e h H else nv h
noncomputable def iq(f:(List Expr)->Nat->Pos->Bool)(e:Expr):Bool:=if h:e.ctorIdx=25 then Expr.Tuple.elim (motive_1:=λ _=>Bool) e h f else false
@[elab_as_elim] theorem gc{f:(List Expr)->Nat->Pos->Bool}{M:Expr->Prop}(H:∀a0 a1 a2,f a0 a1 a2=true->M (.Tuple a0 a1 a2))(e:Expr):iq f e=true->M e:=
 if h:e.ctorIdx=25 then Expr.Tuple.elim (motive_1:=λ e=>iq f e=true->M e) e h H else nv h
noncomputable def lP(f:(Option Expr)->(Option Expr)->(Option Expr)->Pos->Bool)(e:Expr):Bool:=if h:e.ctorIdx=26 then Expr.Slice.elim (motive_1:=λ _=>Bool) e h f else false
@[elab_as_elim] theorem kO{f:(Option Expr)->(Option Expr)->(Option Expr)->Pos->Bool}{M:Expr->Prop}(H:∀a0 a1 a2 a3,f a0 a1 a2 a3=true->M (.Slice a0 a1 a2 a3))(e:Expr):lP f e=true->M e:=
 if h:e.ctorIdx=26 then Expr.Slice.elim (motive_1:=λ e=>lP f e=true->M e) e h H else nv h
noncomputable def qz(f:(Option Expr)->Pos->Bool)(e:Stmt):Bool:=if h:e.ctorIdx=3 then Stmt.Return.elim (motive_2:=λ _=>Bool) e h f else false
@[elab_as_elim] theorem xW{f:(Option Expr)->Pos->Bool}{M:Stmt->Prop}(H:∀a0 a1,f a0 a1=true->M (.Return a0 a1))(e:Stmt):qz f e=true->M e:=
 if h:e.ctorIdx=3 then Stmt.Return.elim (motive_2:=λ e=>qz f e=true->M e) e h H else nv h
noncomputable def fq(f:(List Expr)->Expr->Pos->Bool)(e:Stmt):Bool:=if h:e.ctorIdx=5 then Stmt.Assign.elim (motive_2:=λ _=>Bool) e h f else false
@[elab_as_elim] theorem eO{f:(List Expr)->Expr->Pos->Bool}{M:Stmt->Prop}(H:∀a0 a1 a2,f a0 a1 a2=true->M (.Assign a0 a1 a2))(e:Stmt):fq f e=true->M e:=
 if h:e.ctorIdx=5 then Stmt.Assign.elim (motive_2:=λ e=>fq f e=true->M e) e h H else nv h
noncomputable def kn(f:Expr->Operator->Expr->Pos->Bool)(e:Stmt):Bool:=if h:e.ctorIdx=7 then Stmt.AugAssign.elim (motive_2:=λ _=>Bool) e h f else false
@[elab_as_elim] theorem qA{f:Expr->Operator->Expr->Pos->Bool}{M:Stmt->Prop}(H:∀a0 a1 a2 a3,f a0 a1 a2 a3=true->M (.AugAssign a0 a1 a2 a3))(e:Stmt):kn f e=true->M e:=
 if h:e.ctorIdx=7 then Stmt.AugAssign.elim (motive_2:=λ e=>kn f e=true->M e) e h H else nv h
noncomputable def xX(f:Expr->Expr->(List Stmt)->(List Stmt)->Pos->Bool)(e:Stmt):Bool:=if h:e.ctorIdx=9 then Stmt.For.elim (motive_2:=λ _=>Bool) e h f else false
@[elab_as_elim] theorem qB{f:Expr->Expr->(List Stmt)->(List Stmt)->Pos->Bool}{M:Stmt->Prop}(H:∀a0 a1 a2 a3 a4,f a0 a1 a2 a3 a4=true->M (.For a0 a1 a2 a3 a4))(e:Stmt):xX f e=true->M e:=
 if h:e.ctorIdx=9 then Stmt.For.elim (motive_2:=λ e=>xX f e=true->M e) e h H else nv h
noncomputable def uG(f:Expr->(List Stmt)->(List Stmt)->Pos->Bool)(e:Stmt):Bool:=if h:e.ctorIdx=11 then Stmt.While.elim (motive_2:=λ _=>Bool) e h f else false
@[elab_as_elim] theorem zS{f:Expr->(List Stmt)->(List Stmt)->Pos->Bool}{M:Stmt->Prop}(H:∀a0 a1 a2 a3,f a0 a1 a2 a3=true->M (.While a0 a1 a2 a3))(e:Stmt):uG f e=true->M e:=
 if h:e.ctorIdx=11 then Stmt.While.elim (motive_2:=λ e=>uG f e=true->M e) e h H else nv h
noncomputable def Nn(f:Expr->(List Stmt)->(List Stmt)->Pos->Bool)(e:Stmt):Bool:=if h:e.ctorIdx=12 then Stmt.If.elim (motive_2:=λ _=>Bool) e h f else false
@[elab_as_elim] theorem KA{f:Expr->(List Stmt)->(List Stmt)->Pos->Bool}{M:Stmt->Prop}(H:∀a0 a1 a2 a3,f a0 a1 a2 a3=true->M (.If a0 a1 a2 a3))(e:Stmt):Nn f e=true->M e:=
 if h:e.ctorIdx=12 then Stmt.If.elim (motive_2:=λ e=>Nn f e=true->M e) e h H else nv h
noncomputable def uH(f:(Option Expr)->(Option Expr)->Pos->Bool)(e:Stmt):Bool:=if h:e.ctorIdx=16 then Stmt.Raise.elim (motive_2:=λ _=>Bool) e h f else false
@[elab_as_elim] theorem zT{f:(Option Expr)->(Option Expr)->Pos->Bool}{M:Stmt->Prop}(H:∀a0 a1 a2,f a0 a1 a2=true->M (.Raise a0 a1 a2))(e:Stmt):uH f e=true->M e:=
 if h:e.ctorIdx=16 then Stmt.Raise.elim (motive_2:=λ e=>uH f e=true->M e) e h H else nv h
noncomputable def Hu(f:(List Stmt)->(List ExceptHandler)->(List Stmt)->(List Stmt)->Pos->Bool)(e:Stmt):Bool:=if h:e.ctorIdx=17 then Stmt.Try.elim (motive_2:=λ _=>Bool) e h f else false
@[elab_as_elim] theorem Hv{f:(List Stmt)->(List ExceptHandler)->(List Stmt)->(List Stmt)->Pos->Bool}{M:Stmt->Prop}(H:∀a0 a1 a2 a3 a4,f a0 a1 a2 a3 a4=true->M (.Try a0 a1 a2 a3 a4))(e:Stmt):Hu f e=true->M e:=
 if h:e.ctorIdx=17 then Stmt.Try.elim (motive_2:=λ e=>Hu f e=true->M e) e h H else nv h
noncomputable def wExpr(f:Expr->Pos->Bool)(e:Stmt):Bool:=if h:e.ctorIdx=24 then Stmt.Expr.elim (motive_2:=λ _=>Bool) e h f else false
@[elab_as_elim] theorem qC{f:Expr->Pos->Bool}{M:Stmt->Prop}(H:∀a0 a1,f a0 a1=true->M (.Expr a0 a1))(e:Stmt):wExpr f e=true->M e:=
 if h:e.ctorIdx=24 then Stmt.Expr.elim (motive_2:=λ e=>wExpr f e=true->M e) e h H else nv h
noncomputable def lQ(f:Pos->Bool)(e:Stmt):Bool:=if h:e.ctorIdx=27 then Stmt.Continue.elim (motive_2:=λ _=>Bool) e h f else false
@[elab_as_elim] theorem sf{f:Pos->Bool}{M:Stmt->Prop}(H:∀a0,f a0=true->M (.Continue a0))(e:Stmt):lQ f e=true->M e:=
 if h:e.ctorIdx=27 then Stmt.Continue.elim (motive_2:=λ e=>lQ f e=true->M e) e h H else nv h
noncomputable def pf(f:Value->Option Addr->Data->Array (Option Value)->Bool)(o:Obj):Bool:=f o.1 o.2 o.3 o.4
@[elab_as_elim] theorem ir{f:Value->Option Addr->Data->Array (Option Value)->Bool}{M:Obj->Prop}(H:∀a b c d,f a b c d=true->M ⟨a,b,c,d⟩)(o:Obj):pf f o=true->M o:=H o.1 o.2 o.3 o.4
noncomputable def qD(f:Addr->Bool)(e:Value):Bool:=if h:e.ctorIdx=10 then Value.ref.elim (motive:=λ _=>Bool) e h f else false
@[elab_as_elim] theorem sg{f:Addr->Bool}{M:Value->Prop}(H:∀a0,f a0=true->M (.ref a0))(e:Value):qD f e=true->M e:=
 if h:e.ctorIdx=10 then Value.ref.elim (motive:=λ e=>qD f e=true->M e) e h H else nv h
noncomputable def nO(f:String->Bool)(e:Value):Bool:=if h:e.ctorIdx=9 then Value.builtin.elim (motive:=λ _=>Bool) e h f else false
@[elab_as_elim] theorem Ep{f:String->Bool}{M:Value->Prop}(H:∀a0,f a0=true->M (.builtin a0))(e:Value):nO f e=true->M e:=
 if h:e.ctorIdx=9 then Value.builtin.elim (motive:=λ e=>nO f e=true->M e) e h H else nv h
noncomputable def qE(f:Str->Tok->Bool)(e:Value):Bool:=if h:e.ctorIdx=6 then Value.str.elim (motive:=λ _=>Bool) e h f else false
@[elab_as_elim] theorem sh{f:Str->Tok->Bool}{M:Value->Prop}(H:∀a0 a1,f a0 a1=true->M (.str a0 a1))(e:Value):qE f e=true->M e:=
 if h:e.ctorIdx=6 then Value.str.elim (motive:=λ e=>qE f e=true->M e) e h H else nv h
noncomputable def qF(f:Int->Tok->Bool)(e:Value):Bool:=if h:e.ctorIdx=4 then Value.int.elim (motive:=λ _=>Bool) e h f else false
@[elab_as_elim] theorem sj{f:Int->Tok->Bool}{M:Value->Prop}(H:∀a0 a1,f a0 a1=true->M (.int a0 a1))(e:Value):qF f e=true->M e:=
 if h:e.ctorIdx=4 then Value.int.elim (motive:=λ e=>qF f e=true->M e) e h H else nv h
noncomputable def nP(f:(Array UInt8)->Tok->Bool)(e:Value):Bool:=if h:e.ctorIdx=7 then Value.bytes.elim (motive:=λ _=>Bool) e h f else false
@[elab_as_elim] theorem uI{f:(Array UInt8)->Tok->Bool}{M:Value->Prop}(H:∀a0 a1,f a0 a1=true->M (.bytes a0 a1))(e:Value):nP f e=true->M e:=
 if h:e.ctorIdx=7 then Value.bytes.elim (motive:=λ e=>nP f e=true->M e) e h H else nv h
noncomputable def qG(f:Bool->Bool)(e:Value):Bool:=if h:e.ctorIdx=3 then Value.bool.elim (motive:=λ _=>Bool) e h f else false
@[elab_as_elim] theorem xY{f:Bool->Bool}{M:Value->Prop}(H:∀a0,f a0=true->M (.bool a0))(e:Value):qG f e=true->M e:=
 if h:e.ctorIdx=3 then Value.bool.elim (motive:=λ e=>qG f e=true->M e) e h H else nv h
noncomputable def kP(f:FuncData->Bool)(e:Data):Bool:=if h:e.ctorIdx=7 then Data.func.elim (motive:=λ _=>Bool) e h f else false
@[elab_as_elim] theorem lR{f:FuncData->Bool}{M:Data->Prop}(H:∀a0,f a0=true->M (.func a0))(e:Data):kP f e=true->M e:=
 if h:e.ctorIdx=7 then Data.func.elim (motive:=λ e=>kP f e=true->M e) e h H else nv h
noncomputable def nQ(f:ClassData->Bool)(e:Data):Bool:=if h:e.ctorIdx=8 then Data.cls.elim (motive:=λ _=>Bool) e h f else false
@[elab_as_elim] theorem nR{f:ClassData->Bool}{M:Data->Prop}(H:∀a0,f a0=true->M (.cls a0))(e:Data):nQ f e=true->M e:=
 if h:e.ctorIdx=8 then Data.cls.elim (motive:=λ e=>nQ f e=true->M e) e h H else nv h
noncomputable def jH(f:(Array Value)->Bool)(e:Data):Bool:=if h:e.ctorIdx=9 then Data.fields.elim (motive:=λ _=>Bool) e h f else false
@[elab_as_elim] theorem mz{f:(Array Value)->Bool}{M:Data->Prop}(H:∀a0,f a0=true->M (.fields a0))(e:Data):jH f e=true->M e:=
 if h:e.ctorIdx=9 then Data.fields.elim (motive:=λ e=>jH f e=true->M e) e h H else nv h
noncomputable def qH(f:(Option Value)->Bool)(e:Data):Bool:=if h:e.ctorIdx=6 then Data.cell.elim (motive:=λ _=>Bool) e h f else false
@[elab_as_elim] theorem xZ{f:(Option Value)->Bool}{M:Data->Prop}(H:∀a0,f a0=true->M (.cell a0))(e:Data):qH f e=true->M e:=
 if h:e.ctorIdx=6 then Data.cell.elim (motive:=λ e=>qH f e=true->M e) e h H else nv h
noncomputable def nS(f:(List Stmt)->Bool)(e:FuncBody):Bool:=if h:e.ctorIdx=0 then FuncBody.stmts.elim (motive:=λ _=>Bool) e h f else false
@[elab_as_elim] theorem uJ{f:(List Stmt)->Bool}{M:FuncBody->Prop}(H:∀a0,f a0=true->M (.stmts a0))(e:FuncBody):nS f e=true->M e:=
 if h:e.ctorIdx=0 then FuncBody.stmts.elim (motive:=λ e=>nS f e=true->M e) e h H else nv h
noncomputable def uK(f:Str->Bool)(e:Const):Bool:=if h:e.ctorIdx=5 then Const.str.elim (motive:=λ _=>Bool) e h f else false
@[elab_as_elim] theorem zU{f:Str->Bool}{M:Const->Prop}(H:∀a0,f a0=true->M (.str a0))(e:Const):uK f e=true->M e:=
 if h:e.ctorIdx=5 then Const.str.elim (motive:=λ e=>uK f e=true->M e) e h H else nv h
noncomputable def uL(f:Nat->Bool)(e:V):Bool:=if h:e.ctorIdx=6 then V.obj.elim (motive_1:=λ _=>Bool) e h f else false
@[elab_as_elim] theorem zV{f:Nat->Bool}{M:V->Prop}(H:∀a0,f a0=true->M (.obj a0))(e:V):uL f e=true->M e:=
 if h:e.ctorIdx=6 then V.obj.elim (motive_1:=λ e=>uL f e=true->M e) e h H else nv h
noncomputable def uM(f:Nat->Bool)(e:V):Bool:=if h:e.ctorIdx=7 then V.cls.elim (motive_1:=λ _=>Bool) e h f else false
@[elab_as_elim] theorem zW{f:Nat->Bool}{M:V->Prop}(H:∀a0,f a0=true->M (.cls a0))(e:V):uM f e=true->M e:=
 if h:e.ctorIdx=7 then V.cls.elim (motive_1:=λ e=>uM f e=true->M e) e h H else nv h
noncomputable def uN(f:Int->Bool)(e:V):Bool:=if h:e.ctorIdx=2 then V.int.elim (motive_1:=λ _=>Bool) e h f else false
@[elab_as_elim] theorem zX{f:Int->Bool}{M:V->Prop}(H:∀a0,f a0=true->M (.int a0))(e:V):uN f e=true->M e:=
 if h:e.ctorIdx=2 then V.int.elim (motive_1:=λ e=>uN f e=true->M e) e h H else nv h
noncomputable def nT(f:(List UInt8)->Bool)(e:V):Bool:=if h:e.ctorIdx=4 then V.bytes.elim (motive_1:=λ _=>Bool) e h f else false
@[elab_as_elim] theorem uO{f:(List UInt8)->Bool}{M:V->Prop}(H:∀a0,f a0=true->M (.bytes a0))(e:V):nT f e=true->M e:=
 if h:e.ctorIdx=4 then V.bytes.elim (motive_1:=λ e=>nT f e=true->M e) e h H else nv h
noncomputable def Gz(a b:V):Bool:=match a with
 | .obj x=>uL (λ y=>decide (y=x)) b
 | .cls x=>uM (λ y=>decide (y=x)) b
 | .int x=>uN (λ y=>decide (y=x)) b
 | .bytes x=>nT (λ y=>decide (y=x)) b
 |_=>false
noncomputable def Hw(v:V)(c:Const):Bool:=match v with
 | .none=>decide (c= .none)
 | .bool a=>decide (c= .bool a)
 | .int a=>decide (c= .int a)
 | .str a=>decide (c= .str a)
 | .bytes a=>decide (c= .bytes a)
 |_=>false
noncomputable def pg:nt->Operator
 | .add=> .Add| .sub=> .Sub| .mul=> .Mult| .fdiv=> .FloorDiv| .mod=> .Mod
 | .shl=> .LShift| .shr=> .RShift| .and=> .BitAnd| .or=> .BitOr| .pow=> .Pow
noncomputable def ph:o9->CmpOp
 | .eq=> .Eq| .ne=> .NotEq| .lt=> .Lt| .le=> .LtE| .gt=> .Gt| .ge=> .GtE
 | .zA=> .In| .Hq=> .Is| .wj=> .IsNot
noncomputable def KC(a:nt)(b:Operator):Bool:=decide (pg a=b)
noncomputable def KD(a:o9)(b:CmpOp):Bool:=decide (ph a=b)
noncomputable def fC(e:Expr):Bool:=decide (e.ctorIdx≠7)
noncomputable def iu(id:Str):Bool:=!(id==("__debug__":Str))&&!(id==("__classdict__":Str))
noncomputable def bQ.kind(g:bQ)(id:Str):Option NameKind:=g.scope.names.lookup id
noncomputable def bQ.acc(g:bQ)(i:Nat)(id:Str):Bool:=
 decide (g.names[i]?=some id)&&iu id&&(match g.kind id with|some .local=>true|some .cell=>true|some .free=>true|_=>false)
noncomputable def bQ.de(g:bQ)(i:Nat)(id:Str):Bool:=
 g.rw&&decide (g.names[i]?=some id)&&iu id&&(match g.kind id with|some .local=>true|some .cell=>true|_=>false)
noncomputable def bQ.MJ(g:bQ)(id:Str):Bool:=iu id&&decide (g.kind id=some .globalImplicit)
noncomputable def bQ.glob(g:bQ)(P:Prog)(nm:Str)(v:V)(id:Str):Bool:=
 decide (nm=id)&&g.MJ id&&P.mx.any λ p=>decide (p.1=nm)&&Gz p.2 v
noncomputable def bQ.bi(g:bQ)(P:Prog)(nm:Str)(id:Str):Bool:=decide (nm=id)&&g.MJ id&&P.qx.contains nm
noncomputable def noArgs(a:Arguments):Bool:=a.posonlyargs.isEmpty&&a.args.isEmpty&&a.vararg.isNone&&a.kwonlyargs.isEmpty&&a.kw_defaults.isEmpty&&a.kwarg.isNone&&a.defaults.isEmpty
noncomputable def freeOf(s:Scope):List Str:=((s.names.filter λ p=>p.2== .free).map (·.1)).reverse
noncomputable def lS(g:bQ):List Nat->List Str->Bool
 | [],[]=>true
 |i::is,n::ns=>g.acc i n&&(match g.kind n with|some .cell=>true|some .free=>true|_=>false)&&lS g is ns
 |_,_=>false
noncomputable def gU(outer s:Scope):Scope:=
 { s with names:=s.names.map λ p=>if p.2== .free&&decide (outer.names.lookup p.1=some .cell) then (p.1,.cell) else p }
noncomputable def mA(outer s:Scope)(PA:Str):Bool:=
 decide (s.kind= .function)&&!s.isGenerator&&!s.isCoroutine&&(s.names.all λ p=>decide (s.names.lookup p.1=some p.2))&&
 s.names.all λ p=>match p.2 with
  | .local=>p.1==(".0":Str) || p.1==PA
  | .cell=>p.1==PA
  | .free=>decide (outer.names.lookup p.1=some .cell)
  | .globalImplicit=>true
  |_=>false
noncomputable def pL(e:Expr):Bool:=decide (e.ctorIdx≠3)&&decide (e.ctorIdx≠0)&&decide (e.ctorIdx≠5)&&decide (e.ctorIdx≠15) || gS (λ o _ _=>decide (o≠ .Not)) e
noncomputable def isSlice(e:Expr):Bool:=decide (e.ctorIdx=26)
noncomputable def kQ(apos pos:Pos):Bool:=apos.endLine==pos.line
noncomputable abbrev KX:=bQ->Expr->Bool
noncomputable abbrev KXs:=bQ->List Expr->Bool
noncomputable def wq(e:Expr):Bool:=decide (e.ctorIdx=2)
noncomputable def Hx(v:V)(e:Expr):Bool:=gT (λ c p1 p2=>Hw v c) e
@[elab_as_elim] theorem Hy{v:V}{M:Expr->Prop}(H:∀c p1 p2,Hw v c=true->M (.Constant c p1 p2))(e:Expr)(hc:Hx v e=true):M e:=
 iY (λ c p1 p2 hc=>H c p1 p2 hc) e hc
noncomputable def Hz(i:Nat)(g:bQ)(e:Expr):Bool:=bX (λ id p1=>g.acc i id) e
@[elab_as_elim] theorem HA{i:Nat}{g:bQ}{M:Expr->Prop}(H:∀id p1,g.acc i id=true->M (.Name id p1))(e:Expr)(hc:Hz i g e=true):M e:=
 a9 (λ id p1 hc=>H id p1 hc) e hc
noncomputable def zY(P:Prog)(nm:Str)(v:V)(g:bQ)(e:Expr):Bool:=bX (λ id p1=>g.glob P nm v id) e
@[elab_as_elim] theorem Er{P:Prog}{nm:Str}{v:V}{g:bQ}{M:Expr->Prop}(H:∀id p1,g.glob P nm v id=true->M (.Name id p1))(e:Expr)(hc:zY P nm v g e=true):M e:=
 a9 (λ id p1 hc=>H id p1 hc) e hc
noncomputable def Es(op:nt)(l r:Expr->Bool)(e:Expr):Bool:=uE (λ l' t2 r' p1=>vEq (pg op) (l l'&&r r') t2) e
@[elab_as_elim] theorem zZ{op:nt}{l r:Expr->Bool}{M:Expr->Prop}(H:∀l' r' p1,l l'=true->r r'=true->M (.BinOp l' (pg op) r' p1))(e:Expr)(hc:Es op l r e=true):M e:=
 zP (λ l' t2 r' p1 hc=>cR (λ hc=>H l' r' p1 (al hc) (ar hc)) t2 hc) e hc
noncomputable def HB(x:Expr->Bool)(e:Expr):Bool:=gS (λ t2 x' p1=>vEq (.USub) (x x') t2) e
@[elab_as_elim] theorem HC{x:Expr->Bool}{M:Expr->Prop}(H:∀x' p1,x x'=true->M (.UnaryOp (.USub) x' p1))(e:Expr)(hc:HB x e=true):M e:=
 km (λ t2 x' p1 hc=>cR (λ hc=>H x' p1 hc) t2 hc) e hc
noncomputable def z6(op:o9)(l r:Expr->Bool)(e:Expr):Bool:=kN (λ l' t2 t3 p1=>bC (λ t4 t5=>vEq (ph op) (bV (bC (λ r' t6=>bV (fC r'&&l l'&&r r') t6) t3) t5) t4) t2) e
@[elab_as_elim] theorem Aa{op:o9}{l r:Expr->Bool}{M:Expr->Prop}(H:∀l' r' p1,fC r'=true->l l'=true->r r'=true->M (.Compare l' ((ph op)::[]) (r'::[]) p1))(e:Expr)(hc:z6 op l r e=true):M e:=
 nN (λ l' t2 t3 p1 hc=>aR (λ t4 t5 hc=>cR (λ hc=>aT (λ hc=>aR (λ r' t6 hc=>aT (λ hc=>H l' r' p1 (al (al hc)) (ar (al hc)) (ar hc)) t6 hc) t3 hc) t5 hc) t4 hc) t2 hc) e hc
noncomputable def sk(xs:List Expr->Bool)(e:Expr):Bool:=nx (λ t2 es p1=>vEq (.And) (xs es) t2) e
@[elab_as_elim] theorem wt{xs:List Expr->Bool}{M:Expr->Prop}(H:∀es p1,xs es=true->M (.BoolOp (.And) es p1))(e:Expr)(hc:sk xs e=true):M e:=
 pK (λ t2 es p1 hc=>cR (λ hc=>H es p1 hc) t2 hc) e hc
noncomputable def HD(t a b:Expr->Bool)(e:Expr):Bool:=uF (λ t' a' b' p1=>t t'&&a a'&&b b') e
@[elab_as_elim] theorem HE{t a b:Expr->Bool}{M:Expr->Prop}(H:∀t' a' b' p1,t t'=true->a a'=true->b b'=true->M (.IfExp t' a' b' p1))(e:Expr)(hc:HD t a b e=true):M e:=
 zQ (λ t' a' b' p1 hc=>H t' a' b' p1 (al (al hc)) (ar (al hc)) (ar hc)) e hc
noncomputable def HF(xs:List Expr->Bool)(e:Expr):Bool:=iq (λ es p1 p2=>xs es) e
@[elab_as_elim] theorem HG{xs:List Expr->Bool}{M:Expr->Prop}(H:∀es p1 p2,xs es=true->M (.Tuple es p1 p2))(e:Expr)(hc:HF xs e=true):M e:=
 gc (λ es p1 p2 hc=>H es p1 p2 hc) e hc
noncomputable def Et(xs:List Expr->Bool)(e:Expr):Bool:=zR (λ es p1=>xs es) e
@[elab_as_elim] theorem Ab{xs:List Expr->Bool}{M:Expr->Prop}(H:∀es p1,xs es=true->M (.List es p1))(e:Expr)(hc:Et xs e=true):M e:=
 Eo (λ es p1 hc=>H es p1 hc) e hc
noncomputable def HH(x i:Expr->Bool)(e:Expr):Bool:=dh (λ x' i' p1=>!isSlice i'&&x x'&&i i') e
@[elab_as_elim] theorem HI{x i:Expr->Bool}{M:Expr->Prop}(H:∀x' i' p1,isSlice i'=false->x x'=true->i i'=true->M (.Subscript x' i' p1))(e:Expr)(hc:HH x i e=true):M e:=
 di (λ x' i' p1 hc=>H x' i' p1 (dn (al (al hc))) (ar (al hc)) (ar hc)) e hc
noncomputable def Ac(s:Nat)(i:Expr->Bool)(g:bQ)(e:Expr):Bool:=dh (λ t3 i' p2=>bX (λ id p1=>!isSlice i'&&g.acc s id&&i i') t3) e
@[elab_as_elim] theorem Eu{s:Nat}{i:Expr->Bool}{g:bQ}{M:Expr->Prop}(H:∀id p1 i' p2,isSlice i'=false->g.acc s id=true->i i'=true->M (.Subscript (.Name id p1) i' p2))(e:Expr)(hc:Ac s i g e=true):M e:=
 di (λ t3 i' p2 hc=>a9 (λ id p1 hc=>H id p1 i' p2 (dn (al (al hc))) (ar (al hc)) (ar hc)) t3 hc) e hc
noncomputable def uP(x hi:Expr->Bool)(e:Expr):Bool:=dh (λ x' t3 p2=>lP (λ t4 t5 t6 p1=>j4 (cT (λ sm=>j4 (x x'&&hi sm) t6) t5) t4) t3) e
@[elab_as_elim] theorem Ad{x hi:Expr->Bool}{M:Expr->Prop}(H:∀x' sm p1 p2,x x'=true->hi sm=true->M (.Subscript x' (.Slice none (some sm) none p1) p2))(e:Expr)(hc:uP x hi e=true):M e:=
 di (λ x' t3 p2 hc=>kO (λ t4 t5 t6 p1 hc=>gC (λ hc=>bE (λ sm hc=>gC (λ hc=>H x' sm p1 p2 (al hc) (ar hc)) t6 hc) t5 hc) t4 hc) t3 hc) e hc
noncomputable def nU(x lo:Expr->Bool)(e:Expr):Bool:=dh (λ x' t3 p2=>lP (λ t4 t5 t6 p1=>cT (λ uQ=>j4 (j4 (x x'&&lo uQ) t6) t5) t4) t3) e
@[elab_as_elim] theorem uR{x lo:Expr->Bool}{M:Expr->Prop}(H:∀x' uQ p1 p2,x x'=true->lo uQ=true->M (.Subscript x' (.Slice (some uQ) none none p1) p2))(e:Expr)(hc:nU x lo e=true):M e:=
 di (λ x' t3 p2 hc=>kO (λ t4 t5 t6 p1 hc=>bE (λ uQ hc=>gC (λ hc=>gC (λ hc=>H x' uQ p1 p2 (al hc) (ar hc)) t6 hc) t5 hc) t4 hc) t3 hc) e hc
noncomputable def HJ(x lo hi:Expr->Bool)(e:Expr):Bool:=dh (λ x' t3 p2=>lP (λ t4 t5 t6 p1=>cT (λ uQ=>cT (λ sm=>j4 (x x'&&lo uQ&&hi sm) t6) t5) t4) t3) e
@[elab_as_elim] theorem HK{x lo hi:Expr->Bool}{M:Expr->Prop}(H:∀x' uQ sm p1 p2,x x'=true->lo uQ=true->hi sm=true->M (.Subscript x' (.Slice (some uQ) (some sm) none p1) p2))(e:Expr)(hc:HJ x lo hi e=true):M e:=
 di (λ x' t3 p2 hc=>kO (λ t4 t5 t6 p1 hc=>bE (λ uQ hc=>bE (λ sm hc=>gC (λ hc=>H x' uQ sm p1 p2 (al (al hc)) (ar (al hc)) (ar hc)) t6 hc) t5 hc) t4 hc) t3 hc) e hc
noncomputable def HL(x:Expr->Bool)(e:Expr):Bool:=dh (λ x' t6 p5=>lP (λ t7 t8 t9 p4=>j4 (j4 (cT (λ nV=>gS (λ qI uS p3=>vEq (.USub) (gT (λ uT p1 p2=>vEq (.int 1) (x x') uT) uS) qI) nV) t9) t8) t7) t6) e
@[elab_as_elim] theorem HM{x:Expr->Bool}{M:Expr->Prop}(H:∀x' p1 p2 p3 p4 p5,x x'=true->M (.Subscript x' (.Slice none none (some (.UnaryOp (.USub) (.Constant (.int 1) p1 p2) p3)) p4) p5))(e:Expr)(hc:HL x e=true):M e:=
 di (λ x' t6 p5 hc=>kO (λ t7 t8 t9 p4 hc=>gC (λ hc=>gC (λ hc=>bE (λ nV hc=>km (λ qI uS p3 hc=>cR (λ hc=>iY (λ uT p1 p2 hc=>cR (λ hc=>H x' p1 p2 p3 p4 p5 hc) uT hc) uS hc) qI hc) nV hc) t9 hc) t8 hc) t7 hc) t6 hc) e hc
noncomputable def Ae(P:Prog)(f:Nat)(nm:Str)(xs:List Expr->Bool)(g:bQ)(e:Expr):Bool:=eU (λ t3 es t4 p2=>bX (λ id p1=>bV (g.q&&g.glob P nm (.obj f) id&&decide (es.length<10)&&xs es) t4) t3) e
@[elab_as_elim] theorem Ew{P:Prog}{f:Nat}{nm:Str}{xs:List Expr->Bool}{g:bQ}{M:Expr->Prop}(H:∀id p1 es p2,g.q=true->g.glob P nm (.obj f) id=true->es.length<10->xs es=true->M (.Call (.Name id p1) es [] p2))(e:Expr)(hc:Ae P f nm xs g e=true):M e:=
 cU (λ t3 es t4 p2 hc=>a9 (λ id p1 hc=>aT (λ hc=>H id p1 es p2 (al (al (al hc))) (ar (al (al hc))) (UH (ar (al hc))) (ar hc)) t4 hc) t3 hc) e hc
noncomputable def uU(P:Prog)(f:Nat)(nm:Str)(s:Nat)(xs:List Expr->Bool)(g:bQ)(e:Expr):Bool:=eU (λ t4 t5 t6 p3=>bX (λ id p1=>bC (λ t7 es=>bX (λ j5 p2=>bV (g.q&&g.rw&&g.glob P nm (.obj f) id&&g.acc s j5&&decide (es.length<10)&&xs es) t6) t7) t5) t4) e
@[elab_as_elim] theorem Af{P:Prog}{f:Nat}{nm:Str}{s:Nat}{xs:List Expr->Bool}{g:bQ}{M:Expr->Prop}(H:∀id p1 j5 p2 es p3,g.q=true->g.rw=true->g.glob P nm (.obj f) id=true->g.acc s j5=true->es.length<10->xs es=true->M (.Call (.Name id p1) ((.Name j5 p2)::es) [] p3))(e:Expr)(hc:uU P f nm s xs g e=true):M e:=
 cU (λ t4 t5 t6 p3 hc=>a9 (λ id p1 hc=>aR (λ t7 es hc=>a9 (λ j5 p2 hc=>aT (λ hc=>H id p1 j5 p2 es p3 (al (al (al (al (al hc))))) (ar (al (al (al (al hc))))) (ar (al (al (al hc)))) (ar (al (al hc))) (UH (ar (al hc))) (ar hc)) t6 hc) t7 hc) t5 hc) t4 hc) e hc
noncomputable def uV(s:Nat)(xs:List Expr->Bool)(g:bQ)(e:Expr):Bool:=eU (λ t3 es t4 p2=>bX (λ id p1=>bV (g.q&&g.acc s id&&decide (es.length<10)&&xs es) t4) t3) e
@[elab_as_elim] theorem Ag{s:Nat}{xs:List Expr->Bool}{g:bQ}{M:Expr->Prop}(H:∀id p1 es p2,g.q=true->g.acc s id=true->es.length<10->xs es=true->M (.Call (.Name id p1) es [] p2))(e:Expr)(hc:uV s xs g e=true):M e:=
 cU (λ t3 es t4 p2 hc=>a9 (λ id p1 hc=>aT (λ hc=>H id p1 es p2 (al (al (al hc))) (ar (al (al hc))) (UH (ar (al hc))) (ar hc)) t4 hc) t3 hc) e hc
noncomputable def uW(P:Prog)(lc:Nat->Scope->Expr->Bool)(f:Nat)(nm:Str)(k:Nat)(bM:List Nat)(g:bQ)(e:Expr):Bool:=eU (λ t4 t5 t6 p3=>bX (λ id p1=>bC (λ t7 t8=>qy (λ args body scope p2=>bV (bV (g.q&&g.rw&&g.lam&&g.glob P nm (.obj f) id&&noArgs args&&decide (scope.kind= .function)&&!scope.isGenerator&&!scope.isCoroutine&&lS g bM (freeOf scope)&&lc k scope body) t6) t8) t7) t5) t4) e
@[elab_as_elim] theorem Ah{P:Prog}{lc:Nat->Scope->Expr->Bool}{f:Nat}{nm:Str}{k:Nat}{bM:List Nat}{g:bQ}{M:Expr->Prop}(H:∀id p1 args body scope p2 p3,g.q=true->g.rw=true->g.lam=true->g.glob P nm (.obj f) id=true->noArgs args=true->scope.kind= .function->scope.isGenerator=false->scope.isCoroutine=false->lS g bM (freeOf scope)=true->lc k scope body=true->M (.Call (.Name id p1) ((.Lambda args body scope p2)::[]) [] p3))(e:Expr)(hc:uW P lc f nm k bM g e=true):M e:=
 cU (λ t4 t5 t6 p3 hc=>a9 (λ id p1 hc=>aR (λ t7 t8 hc=>xV (λ args body scope p2 hc=>aT (λ hc=>aT (λ hc=>H id p1 args body scope p2 p3 (al (al (al (al (al (al (al (al (al hc))))))))) (ar (al (al (al (al (al (al (al (al hc))))))))) (ar (al (al (al (al (al (al (al hc)))))))) (ar (al (al (al (al (al (al hc))))))) (ar (al (al (al (al (al hc)))))) (UH (ar (al (al (al (al hc)))))) (dn (ar (al (al (al hc))))) (dn (ar (al (al hc)))) (ar (al hc)) (ar hc)) t6 hc) t8 hc) t7 hc) t5 hc) t4 hc) e hc
noncomputable def mX(P:Prog)(q:Bool)(nm:Str)(x:Expr->Bool)(g:bQ)(e:Expr):Bool:=eU (λ t3 t4 t5 p2=>bX (λ id p1=>bC (λ x' t6=>bV (bV ((!q || g.q)&&g.bi P nm id&&x x') t5) t6) t4) t3) e
@[elab_as_elim] theorem HN{P:Prog}{q:Bool}{nm:Str}{x:Expr->Bool}{g:bQ}{M:Expr->Prop}(H:∀id p1 x' p2,(!q || g.q)=true->g.bi P nm id=true->x x'=true->M (.Call (.Name id p1) (x'::[]) [] p2))(e:Expr)(hc:mX P q nm x g e=true):M e:=
 cU (λ t3 t4 t5 p2 hc=>a9 (λ id p1 hc=>aR (λ x' t6 hc=>aT (λ hc=>aT (λ hc=>H id p1 x' p2 (al (al hc)) (ar (al hc)) (ar hc)) t5 hc) t6 hc) t4 hc) t3 hc) e hc
noncomputable def x7(P:Prog)(nm:Str)(x y:Expr->Bool)(g:bQ)(e:Expr):Bool:=eU (λ t3 t4 t5 p2=>bX (λ id p1=>bC (λ x' t6=>bC (λ y' t7=>bV (bV (g.q&&g.bi P nm id&&x x'&&y y') t5) t7) t6) t4) t3) e
@[elab_as_elim] theorem HP{P:Prog}{nm:Str}{x y:Expr->Bool}{g:bQ}{M:Expr->Prop}(H:∀id p1 x' y' p2,g.q=true->g.bi P nm id=true->x x'=true->y y'=true->M (.Call (.Name id p1) (x'::(y'::[])) [] p2))(e:Expr)(hc:x7 P nm x y g e=true):M e:=
 cU (λ t3 t4 t5 p2 hc=>a9 (λ id p1 hc=>aR (λ x' t6 hc=>aR (λ y' t7 hc=>aT (λ hc=>aT (λ hc=>H id p1 x' y' p2 (al (al (al hc))) (ar (al (al hc))) (ar (al hc)) (ar hc)) t5 hc) t7 hc) t6 hc) t4 hc) t3 hc) e hc
noncomputable def Ai(P:Prog)(s:Nat)(g:bQ)(e:Expr):Bool:=eU (λ t4 t5 t6 p3=>bX (λ id p1=>bC (λ t7 t8=>bX (λ j5 p2=>bV (bV (g.bi P "len" id&&g.acc s j5) t6) t8) t7) t5) t4) e
@[elab_as_elim] theorem Ex{P:Prog}{s:Nat}{g:bQ}{M:Expr->Prop}(H:∀id p1 j5 p2 p3,g.bi P "len" id=true->g.acc s j5=true->M (.Call (.Name id p1) ((.Name j5 p2)::[]) [] p3))(e:Expr)(hc:Ai P s g e=true):M e:=
 cU (λ t4 t5 t6 p3 hc=>a9 (λ id p1 hc=>aR (λ t7 t8 hc=>a9 (λ j5 p2 hc=>aT (λ hc=>aT (λ hc=>H id p1 j5 p2 p3 (al hc) (ar hc)) t6 hc) t8 hc) t7 hc) t5 hc) t4 hc) e hc
noncomputable def qJ(P:Prog)(s t:Nat)(cs:List Nat)(g:bQ)(e:Expr):Bool:=eU (λ t5 t6 t7 p4=>bX (λ id p1=>bC (λ t8 t9=>bX (λ j5 p2=>bC (λ nV qI=>bX (λ tid p3=>bV (bV (g.bi P "isinstance" id&&g.acc s j5&&g.acc t tid&&cs.all P.fN.contains) t7) qI) nV) t9) t8) t6) t5) e
@[elab_as_elim] theorem x8{P:Prog}{s t:Nat}{cs:List Nat}{g:bQ}{M:Expr->Prop}(H:∀id p1 j5 p2 tid p3 p4,g.bi P "isinstance" id=true->g.acc s j5=true->g.acc t tid=true->cs.all P.fN.contains=true->M (.Call (.Name id p1) ((.Name j5 p2)::((.Name tid p3)::[])) [] p4))(e:Expr)(hc:qJ P s t cs g e=true):M e:=
 cU (λ t5 t6 t7 p4 hc=>a9 (λ id p1 hc=>aR (λ t8 t9 hc=>a9 (λ j5 p2 hc=>aR (λ nV qI hc=>a9 (λ tid p3 hc=>aT (λ hc=>aT (λ hc=>H id p1 j5 p2 tid p3 p4 (al (al (al hc))) (ar (al (al hc))) (ar (al hc)) (ar hc)) t7 hc) qI hc) nV hc) t9 hc) t8 hc) t6 hc) t5 hc) e hc
noncomputable def qK(x:Expr->Bool)(e:Expr):Bool:=eU (λ t1 t2 t3 pos=>eI (λ x' t4 apos=>vEq (("bit_length":Str)) (bV (bV (kQ apos pos&&wq x'&&x x') t3) t2) t4) t1) e
@[elab_as_elim] theorem x9{x:Expr->Bool}{M:Expr->Prop}(H:∀x' apos pos,kQ apos pos=true->wq x'=true->x x'=true->M (.Call (.Attribute x' (("bit_length":Str)) apos) [] [] pos))(e:Expr)(hc:qK x e=true):M e:=
 cU (λ t1 t2 t3 pos hc=>eV (λ x' t4 apos hc=>cR (λ hc=>aT (λ hc=>aT (λ hc=>H x' apos pos (al (al hc)) (ar (al hc)) (ar hc)) t3 hc) t2 hc) t4 hc) t1 hc) e hc
noncomputable def qL(P:Prog)(s C:Nat)(g:bQ)(e:Expr):Bool:=eI (λ t3 t4 p2=>bX (λ j5 p1=>vEq (("at":Str)) (g.acc s j5&&decide (C=P.bad)) t4) t3) e
@[elab_as_elim] theorem ya{P:Prog}{s C:Nat}{g:bQ}{M:Expr->Prop}(H:∀j5 p1 p2,g.acc s j5=true->C=P.bad->M (.Attribute (.Name j5 p1) (("at":Str)) p2))(e:Expr)(hc:qL P s C g e=true):M e:=
 eV (λ t3 t4 p2 hc=>a9 (λ j5 p1 hc=>cR (λ hc=>H j5 p1 p2 (al hc) (UH (ar hc))) t4 hc) t3 hc) e hc
noncomputable def bQ.yc(g:bQ)(scope:Scope):bQ:={ g with scope:=gU g.scope scope,tg:=[] }
noncomputable def Aj(g:bQ)(i:Nat)(t:Str)(scope:Scope):Bool:=g.q&&g.rw&&decide (g.names[i]?=some t)&&iu t&&(decide (scope.names.lookup t=some .local) || decide (scope.names.lookup t=some .cell))&&mA g.scope scope t&&decide (g.kind t=none)&&g.tg.contains i&&(!g.names.contains (".0":Str))
noncomputable def qM(P:Prog)(i:Nat)(n:Expr->Bool)(body:bQ->Expr->Bool)(g:bQ)(e:Expr):Bool:=jG (λ elt t5 scope p4=>bC (λ t6 t7=>En (λ t8 t9 nV qI=>bX (λ t p1=>eU (λ uS uT Ak p3=>bX (λ id p2=>bC (λ n' Al=>bV (bV (bV (vEq (0) (bV (Aj g i t scope&&g.bi P "range" id&&n n'&&body (g.yc scope) elt) t7) qI) nV) Ak) Al) uT) uS) t9) t8) t6) t5) e
@[elab_as_elim] theorem sq{P:Prog}{i:Nat}{n:Expr->Bool}{body:bQ->Expr->Bool}{g:bQ}{M:Expr->Prop}(H:∀elt t p1 id p2 n' p3 scope p4,Aj g i t scope=true->g.bi P "range" id=true->n n'=true->body (g.yc scope) elt=true->M (.ListComp elt (⟨(.Name t p1),(.Call (.Name id p2) (n'::[]) [] p3),[],(0)⟩::[]) scope p4))(e:Expr)(hc:qM P i n body g e=true):M e:=
 my (λ elt t5 scope p4 hc=>aR (λ t6 t7 hc=>zO (λ t8 t9 nV qI hc=>a9 (λ t p1 hc=>cU (λ uS uT Ak p3 hc=>a9 (λ id p2 hc=>aR (λ n' Al hc=>aT (λ hc=>aT (λ hc=>aT (λ hc=>cR (λ hc=>aT (λ hc=>H elt t p1 id p2 n' p3 scope p4 (al (al (al hc))) (ar (al (al hc))) (ar (al hc)) (ar hc)) t7 hc) qI hc) nV hc) Ak hc) Al hc) uT hc) uS hc) t9 hc) t8 hc) t6 hc) t5 hc) e hc
noncomputable def uX(i:Nat)(x:Expr->Bool)(body:bQ->Expr->Bool)(g:bQ)(e:Expr):Bool:=jG (λ elt t3 scope p2=>bC (λ t4 t5=>En (λ t6 x' t7 t8=>bX (λ t p1=>bV (vEq (0) (bV (Aj g i t scope&&fC x'&&x x'&&body (g.yc scope) elt) t5) t8) t7) t6) t4) t3) e
@[elab_as_elim] theorem Am{i:Nat}{x:Expr->Bool}{body:bQ->Expr->Bool}{g:bQ}{M:Expr->Prop}(H:∀elt t p1 x' scope p2,Aj g i t scope=true->fC x'=true->x x'=true->body (g.yc scope) elt=true->M (.ListComp elt (⟨(.Name t p1),x',[],(0)⟩::[]) scope p2))(e:Expr)(hc:uX i x body g e=true):M e:=
 my (λ elt t3 scope p2 hc=>aR (λ t4 t5 hc=>zO (λ t6 x' t7 t8 hc=>a9 (λ t p1 hc=>aT (λ hc=>cR (λ hc=>aT (λ hc=>H elt t p1 x' scope p2 (al (al (al hc))) (ar (al (al hc))) (ar (al hc)) (ar hc)) t5 hc) t8 hc) t7 hc) t6 hc) t4 hc) t3 hc) e hc
noncomputable def uY(es:List Expr):Bool:=bV true es
noncomputable def mB(x:Expr->Bool)(xs:List Expr->Bool)(es:List Expr):Bool:=bC (λ e es=>x e&&xs es) es
@[elab_as_elim] theorem Ey{x:Expr->Bool}{xs:List Expr->Bool}{M:List Expr->Prop}(H:∀e es,x e=true->xs es=true->M (e::es))(es:List Expr)(hc:mB x xs es=true):M es:=
 aR (λ e es hc=>an hc λ h0 h1=>H e es h0 h1) es hc
noncomputable def An(l:Expr->Bool)(o1:o9)(m:Expr->Bool)(o2:o9)(r:Expr->Bool)(e:Expr):Bool:=kN (λ l' t2 t3 p1=>bC (λ t4 t5=>vEq (ph o1) (bC (λ t6 t7=>vEq (ph o2) (bV (bC (λ m' t8=>bC (λ r' t9=>bV (fC r'&&l l'&&m m'&&r r') t9) t8) t3) t7) t6) t5) t4) t2) e
@[elab_as_elim] theorem Ez{l:Expr->Bool}{o1:o9}{m:Expr->Bool}{o2:o9}{r:Expr->Bool}{M:Expr->Prop}(H:∀l' m' r' p1,fC r'=true->l l'=true->m m'=true->r r'=true->M (.Compare l' ((ph o1)::((ph o2)::[])) (m'::(r'::[])) p1))(e:Expr)(hc:An l o1 m o2 r e=true):M e:=
 nN (λ l' t2 t3 p1 hc=>aR (λ t4 t5 hc=>cR (λ hc=>aR (λ t6 t7 hc=>cR (λ hc=>aT (λ hc=>aR (λ m' t8 hc=>aR (λ r' t9 hc=>aT (λ hc=>H l' m' r' p1 (al (al (al hc))) (ar (al (al hc))) (ar (al hc)) (ar hc)) t9 hc) t8 hc) t3 hc) t7 hc) t6 hc) t5 hc) t4 hc) t2 hc) e hc
noncomputable def HQ(t:Expr->Bool)(e:Expr):Bool:=gS (λ t2 t' p1=>vEq (.Not) (t t') t2) e
@[elab_as_elim] theorem HT{t:Expr->Bool}{M:Expr->Prop}(H:∀t' p1,t t'=true->M (.UnaryOp (.Not) t' p1))(e:Expr)(hc:HQ t e=true):M e:=
 km (λ t2 t' p1 hc=>cR (λ hc=>H t' p1 hc) t2 hc) e hc
noncomputable def Np(ts:List Expr->Bool)(e:Expr):Bool:=nx (λ t2 es p1=>vEq (.Or) (ts es) t2) e
@[elab_as_elim] theorem KG{ts:List Expr->Bool}{M:Expr->Prop}(H:∀es p1,ts es=true->M (.BoolOp (.Or) es p1))(e:Expr)(hc:Np ts e=true):M e:=
 pK (λ t2 es p1 hc=>cR (λ hc=>H es p1 hc) t2 hc) e hc
section
variable(P:Prog)(lc:Nat->Scope->Expr->Bool)
mutual
noncomputable def aI:X->bQ->Expr->Bool
 | .av v,_,e=>Hx v e
 | .ai i,g,e=>Hz i g e
 | .glob nm v,g,e=>zY P nm v g e
 | .bin op l r,g,e=>Es op (aI l g) (aI r g) e
 | .neg x,g,e=>HB (aI x g) e
 | .cmp op l r,g,e=>z6 op (aI l g) (aI r g) e
 | .rZ xs,g,e=>sk (b9 xs g) e
 | .ik t a b,g,e=>HD (lT t g) (aI a g) (aI b g) e
 | .tup xs,g,e=>HF (b9 xs g) e
 | .lst xs,g,e=>Et (b9 xs g) e
 | .idx x i,g,e=>HH (aI x g) (aI i g) e
 | .aZ s i,g,e=>Ac s (aI i g) g e
 | .j3 x hi,g,e=>uP (aI x g) (aI hi g) e
 | .fM x lo,g,e=>nU (aI x g) (aI lo g) e
 | .zI x lo hi,g,e=>HJ (aI x g) (aI lo g) (aI hi g) e
 | .rev x,g,e=>HL (aI x g) e
 | .call f nm xs,g,e=>Ae P f nm (b9 xs g) g e
 | .b8 f nm s xs,g,e=>uU P f nm s (b9 xs g) g e
 | .fc s xs,g,e=>uV s (b9 xs g) g e
 | .dI f nm k bM,g,e=>uW P lc f nm k bM g e
 | .len x,g,e=>mX P false "len" (aI x g) g e
 | .bu s,g,e=>Ai P s g e
 | .abs x,g,e=>mX P false "abs" (aI x g) g e
 | .max2 x y,g,e=>x7 P "max" (aI x g) (aI y g) g e
 | .min2 x y,g,e=>x7 P "min" (aI x g) (aI y g) g e
 | .sum x,g,e=>mX P true "sum" (aI x g) g e
 | .repr x,g,e=>mX P true "repr" (aI x g) g e
 | .bytesOf x,g,e=>mX P true "bytes" (aI x g) g e
 | .nL s t cs,g,e=>qJ P s t cs g e
 | .ki x,g,e=>qK (aI x g) e
 | .iU s C,g,e=>qL P s C g e
 | .fG i n body,g,e=>qM P i (aI n g) (aI body) g e
 | .kL i x body,g,e=>uX i (aI x g) (aI body) g e
noncomputable def b9:Xs->bQ->List Expr->Bool
 | .nil,_,es=>uY es
 | .cons x xs,g,es=>mB (aI x g) (b9 xs g) es
noncomputable def lT:T->bQ->Expr->Bool
 | .val x,g,e=>pL e&&aI x g e
 | .aC op l r,g,e=>z6 op (aI l g) (aI r g) e
 | .il l o1 m o2 r,g,e=>An (aI l g) o1 (aI m g) o2 (aI r g) e
 | .not t,g,e=>HQ (lT t g) e
 | .and ts,g,e=>sk (nW ts g) e
 | .or ts,g,e=>Np (nW ts g) e
noncomputable def nW:Ts->bQ->List Expr->Bool
 | .nil,_,es=>uY es
 | .cons t ts,g,es=>mB (lT t g) (nW ts g) es
end
noncomputable def kR(g:bQ):List Nat->List Expr->Bool
 | [],[]=>true
 |i::is,.Name id _::es=>g.de i id&&kR g is es
 |_,_=>false
noncomputable def distinct:List Nat->Bool
 | []=>true
 |i::is=>!is.contains i&&distinct is
noncomputable def dj(e:Expr):Bool:=decide (e.ctorIdx≠8)&&decide (e.ctorIdx≠9)&&decide (e.ctorIdx≠10)
noncomputable def notTuple(e:Expr):Bool:=decide (e.ctorIdx≠25)
noncomputable def jI(scope:Scope)(ts vs:List Expr):Option (Option (List Str)):=
 if !(ts.length==2 || ts.length==3) || vs.length !=ts.length then some none
 else if vs.any λ| .Starred ..=>true|_=>false then some none
 else
  let line:=(ts.head?.map (·.pos.line)).getD 0
  let names:=ts.filterMap λ
   | .Name id pos=>if scope.names.lookup id==some .local&&pos.line==line then some id else none
   |_=>none
  if names.length !=ts.length || names.eraseDups.length !=names.length then some none
  else if vs.all (foldedForSure 8) then some none
  else if vs.all (constantsAlone 8) then none
  else some (some names)
noncomputable def GA:nt->Bool
 | .add=>true
 | .sub=>true
 | .shr=>true
 |_=>false
noncomputable def Ao(i:Nat)(x:Expr->Bool)(g:bQ)(st:Stmt):Bool:=fq (λ t3 v p2=>bC (λ t4 t5=>bX (λ id p1=>bV (g.de i id&&(dj v || decide (g.kind id≠some .local))&&x v) t5) t4) t3) st
@[elab_as_elim] theorem EA{i:Nat}{x:Expr->Bool}{g:bQ}{M:Stmt->Prop}(H:∀id p1 v p2,g.de i id=true->(dj v || decide (g.kind id≠some .local))=true->x v=true->M (.Assign ((.Name id p1)::[]) v p2))(st:Stmt)(hc:Ao i x g st=true):M st:=
 eO (λ t3 v p2 hc=>aR (λ t4 t5 hc=>a9 (λ id p1 hc=>aT (λ hc=>H id p1 v p2 (al (al hc)) (ar (al hc)) (ar hc)) t5 hc) t4 hc) t3 hc) st hc
noncomputable def uZ(i:Nat)(x:Expr->Bool)(g:bQ)(st:Stmt):Bool:=fq (λ t3 v p2=>bC (λ t4 t5=>bX (λ id p1=>bV (g.de i id&&!dj v&&decide (g.kind id=some .local)&&x v) t5) t4) t3) st
@[elab_as_elim] theorem Ap{i:Nat}{x:Expr->Bool}{g:bQ}{M:Stmt->Prop}(H:∀id p1 v p2,g.de i id=true->dj v=false->g.kind id=some .local->x v=true->M (.Assign ((.Name id p1)::[]) v p2))(st:Stmt)(hc:uZ i x g st=true):M st:=
 eO (λ t3 v p2 hc=>aR (λ t4 t5 hc=>a9 (λ id p1 hc=>aT (λ hc=>H id p1 v p2 (al (al (al hc))) (dn (ar (al (al hc)))) (UH (ar (al hc))) (ar hc)) t5 hc) t4 hc) t3 hc) st hc
noncomputable def u0(i:Nat)(x:Expr->Bool)(g:bQ)(st:Stmt):Bool:=fq (λ t3 v p2=>bC (λ t4 t5=>bX (λ id p1=>bV (g.de i id&&dj v&&x v) t5) t4) t3) st
@[elab_as_elim] theorem Aq{i:Nat}{x:Expr->Bool}{g:bQ}{M:Stmt->Prop}(H:∀id p1 v p2,g.de i id=true->dj v=true->x v=true->M (.Assign ((.Name id p1)::[]) v p2))(st:Stmt)(hc:u0 i x g st=true):M st:=
 eO (λ t3 v p2 hc=>aR (λ t4 t5 hc=>a9 (λ id p1 hc=>aT (λ hc=>H id p1 v p2 (al (al hc)) (ar (al hc)) (ar hc)) t5 hc) t4 hc) t3 hc) st hc
noncomputable def u2(is:List Nat)(xs:List Expr->Bool)(g:bQ)(st:Stmt):Bool:=fq (λ t6 t7 p5=>bC (λ t8 t9=>iq (λ ts p1 p2=>bV (iq (λ vs p3 p4=>g.q&&kR g is ts&&distinct is&&decide (g.scope.kind= .function)&&(jI g.scope ts vs).isSome&&decide (is.length<10)&&xs vs) t7) t9) t8) t6) st
@[elab_as_elim] theorem Ar{is:List Nat}{xs:List Expr->Bool}{g:bQ}{M:Stmt->Prop}(H:∀ts p1 p2 vs p3 p4 p5,g.q=true->kR g is ts=true->distinct is=true->g.scope.kind= .function->(jI g.scope ts vs).isSome=true->is.length<10->xs vs=true->M (.Assign ((.Tuple ts p1 p2)::[]) (.Tuple vs p3 p4) p5))(st:Stmt)(hc:u2 is xs g st=true):M st:=
 eO (λ t6 t7 p5 hc=>aR (λ t8 t9 hc=>gc (λ ts p1 p2 hc=>aT (λ hc=>gc (λ vs p3 p4 hc=>H ts p1 p2 vs p3 p4 p5 (al (al (al (al (al (al hc)))))) (ar (al (al (al (al (al hc)))))) (ar (al (al (al (al hc))))) (UH (ar (al (al (al hc))))) (ar (al (al hc))) (UH (ar (al hc))) (ar hc)) t7 hc) t9 hc) t8 hc) t6 hc) st hc
noncomputable def As(is:List Nat)(x:Expr->Bool)(g:bQ)(st:Stmt):Bool:=fq (λ t4 v p3=>bC (λ t5 t6=>iq (λ ts p1 p2=>bV (g.q&&kR g is ts&&notTuple v&&dj v&&x v) t6) t5) t4) st
@[elab_as_elim] theorem EB{is:List Nat}{x:Expr->Bool}{g:bQ}{M:Stmt->Prop}(H:∀ts p1 p2 v p3,g.q=true->kR g is ts=true->notTuple v=true->dj v=true->x v=true->M (.Assign ((.Tuple ts p1 p2)::[]) v p3))(st:Stmt)(hc:As is x g st=true):M st:=
 eO (λ t4 v p3 hc=>aR (λ t5 t6 hc=>gc (λ ts p1 p2 hc=>aT (λ hc=>H ts p1 p2 v p3 (al (al (al (al hc)))) (ar (al (al (al hc)))) (ar (al (al hc))) (ar (al hc)) (ar hc)) t6 hc) t5 hc) t4 hc) st hc
noncomputable def Au(i:Nat)(op:nt)(x:Expr->Bool)(g:bQ)(st:Stmt):Bool:=kn (λ t3 t4 v p2=>bX (λ id p1=>vEq (pg op) (g.de i id&&GA op&&x v) t4) t3) st
@[elab_as_elim] theorem EC{i:Nat}{op:nt}{x:Expr->Bool}{g:bQ}{M:Stmt->Prop}(H:∀id p1 v p2,g.de i id=true->GA op=true->x v=true->M (.AugAssign (.Name id p1) (pg op) v p2))(st:Stmt)(hc:Au i op x g st=true):M st:=
 qA (λ t3 t4 v p2 hc=>a9 (λ id p1 hc=>cR (λ hc=>H id p1 v p2 (al (al hc)) (ar (al hc)) (ar hc)) t4 hc) t3 hc) st hc
noncomputable def u3(s:Nat)(i x:Expr->Bool)(g:bQ)(st:Stmt):Bool:=fq (λ t4 v p3=>bC (λ t5 t6=>dh (λ t7 i' p2=>bX (λ id p1=>bV (g.rw&&g.acc s id&&!isSlice i'&&dj v&&i i'&&x v) t6) t7) t5) t4) st
@[elab_as_elim] theorem Av{s:Nat}{i x:Expr->Bool}{g:bQ}{M:Stmt->Prop}(H:∀id p1 i' p2 v p3,g.rw=true->g.acc s id=true->isSlice i'=false->dj v=true->i i'=true->x v=true->M (.Assign ((.Subscript (.Name id p1) i' p2)::[]) v p3))(st:Stmt)(hc:u3 s i x g st=true):M st:=
 eO (λ t4 v p3 hc=>aR (λ t5 t6 hc=>di (λ t7 i' p2 hc=>a9 (λ id p1 hc=>aT (λ hc=>H id p1 i' p2 v p3 (al (al (al (al (al hc))))) (ar (al (al (al (al hc))))) (dn (ar (al (al (al hc))))) (ar (al (al hc))) (ar (al hc)) (ar hc)) t6 hc) t7 hc) t5 hc) t4 hc) st hc
noncomputable def Aw(s:Nat)(x:Expr->Bool)(g:bQ)(st:Stmt):Bool:=wExpr (λ t3 p2=>eU (λ t4 t5 t6 pos=>eI (λ t7 t8 apos=>bX (λ id p1=>vEq (("append":Str)) (bC (λ v t9=>bV (bV (g.q&&g.rw&&g.acc s id&&kQ apos pos&&dj v&&x v) t6) t9) t5) t8) t7) t4) t3) st
@[elab_as_elim] theorem ED{s:Nat}{x:Expr->Bool}{g:bQ}{M:Stmt->Prop}(H:∀id p1 apos v pos p2,g.q=true->g.rw=true->g.acc s id=true->kQ apos pos=true->dj v=true->x v=true->M (.Expr (.Call (.Attribute (.Name id p1) (("append":Str)) apos) (v::[]) [] pos) p2))(st:Stmt)(hc:Aw s x g st=true):M st:=
 qC (λ t3 p2 hc=>cU (λ t4 t5 t6 pos hc=>eV (λ t7 t8 apos hc=>a9 (λ id p1 hc=>cR (λ hc=>aR (λ v t9 hc=>aT (λ hc=>aT (λ hc=>H id p1 apos v pos p2 (al (al (al (al (al hc))))) (ar (al (al (al (al hc))))) (ar (al (al (al hc)))) (ar (al (al hc))) (ar (al hc)) (ar hc)) t6 hc) t9 hc) t5 hc) t8 hc) t7 hc) t4 hc) t3 hc) st hc
noncomputable def Ax(x:Expr->Bool)(st:Stmt):Bool:=wExpr (λ t2 p1=>eU (λ t3 as t4 p=>bX (λ id np=>bV (x (.Call (.Name id np) as [] p)) t4) t3) t2) st
@[elab_as_elim] theorem EF{x:Expr->Bool}{M:Stmt->Prop}(H:∀id np as p p1,x (.Call (.Name id np) as [] p)=true->M (.Expr (.Call (.Name id np) as [] p) p1))(st:Stmt)(hc:Ax x st=true):M st:=
 qC (λ t2 p1 hc=>cU (λ t3 as t4 p hc=>a9 (λ id np hc=>aT (λ hc=>H id np as p p1 hc) t4 hc) t3 hc) t2 hc) st hc
noncomputable def Ay(t:Expr->Bool)(a b:List Stmt->Bool)(st:Stmt):Bool:=Nn (λ t' a' b' p1=>t t'&&a a'&&b b') st
@[elab_as_elim] theorem EG{t:Expr->Bool}{a b:List Stmt->Bool}{M:Stmt->Prop}(H:∀t' a' b' p1,t t'=true->a a'=true->b b'=true->M (.If t' a' b' p1))(st:Stmt)(hc:Ay t a b st=true):M st:=
 KA (λ t' a' b' p1 hc=>H t' a' b' p1 (al (al hc)) (ar (al hc)) (ar hc)) st hc
noncomputable def Az(t:Expr->Bool)(b:List Stmt->Bool)(g:bQ)(st:Stmt):Bool:=uG (λ t' b' t2 p1=>bV (g.q&&t t'&&b b') t2) st
@[elab_as_elim] theorem EH{t:Expr->Bool}{b:List Stmt->Bool}{g:bQ}{M:Stmt->Prop}(H:∀t' b' p1,g.q=true->t t'=true->b b'=true->M (.While t' b' [] p1))(st:Stmt)(hc:Az t b g st=true):M st:=
 zS (λ t' b' t2 p1 hc=>aT (λ hc=>H t' b' p1 (al (al hc)) (ar (al hc)) (ar hc)) t2 hc) st hc
noncomputable def u4(P:Prog)(i:Nat)(as:List Expr->Bool)(b:List Stmt->Bool)(g:bQ)(st:Stmt):Bool:=xX (λ t5 t6 b' t7 p4=>bX (λ id p1=>eU (λ t8 qN t9 p3=>bX (λ pd p2=>bV (bV (g.q&&g.de i id&&g.bi P "range" pd&&decide (qN.length<=3)&&decide (1<=qN.length)&&as qN&&b b') t7) t9) t8) t6) t5) st
@[elab_as_elim] theorem AA{P:Prog}{i:Nat}{as:List Expr->Bool}{b:List Stmt->Bool}{g:bQ}{M:Stmt->Prop}(H:∀id p1 pd p2 qN p3 b' p4,g.q=true->g.de i id=true->g.bi P "range" pd=true->qN.length<=3->1<=qN.length->as qN=true->b b'=true->M (.For (.Name id p1) (.Call (.Name pd p2) qN [] p3) b' [] p4))(st:Stmt)(hc:u4 P i as b g st=true):M st:=
 qB (λ t5 t6 b' t7 p4 hc=>a9 (λ id p1 hc=>cU (λ t8 qN t9 p3 hc=>a9 (λ pd p2 hc=>aT (λ hc=>aT (λ hc=>H id p1 pd p2 qN p3 b' p4 (al (al (al (al (al (al hc)))))) (ar (al (al (al (al (al hc)))))) (ar (al (al (al (al hc))))) (UH (ar (al (al (al hc))))) (UH (ar (al (al hc)))) (ar (al hc)) (ar hc)) t7 hc) t9 hc) t8 hc) t6 hc) t5 hc) st hc
noncomputable def nX(q:Bool)(i:Nat)(x:Expr->Bool)(b:List Stmt->Bool)(g:bQ)(st:Stmt):Bool:=xX (λ t3 v b' t4 p2=>bX (λ id p1=>bV ((!q || g.q)&&g.de i id&&fC v&&x v&&b b') t4) t3) st
@[elab_as_elim] theorem sr{q:Bool}{i:Nat}{x:Expr->Bool}{b:List Stmt->Bool}{g:bQ}{M:Stmt->Prop}(H:∀id p1 v b' p2,(!q || g.q)=true->g.de i id=true->fC v=true->x v=true->b b'=true->M (.For (.Name id p1) v b' [] p2))(st:Stmt)(hc:nX q i x b g st=true):M st:=
 qB (λ t3 v b' t4 p2 hc=>a9 (λ id p1 hc=>aT (λ hc=>H id p1 v b' p2 (al (al (al (al hc)))) (ar (al (al (al hc)))) (ar (al (al hc))) (ar (al hc)) (ar hc)) t4 hc) t3 hc) st hc
noncomputable def GB(P:Prog)(i j:Nat)(g:bQ)(id jd pd:Str):Bool:=g.q&&decide (i≠j)&&g.de i id&&g.de j jd&&g.bi P "enumerate" pd
noncomputable def u5(P:Prog)(i j:Nat)(x:Expr->Bool)(b:List Stmt->Bool)(g:bQ)(st:Stmt):Bool:=xX (λ t8 t9 b' nV p7=>iq (λ qI p3 p4=>bC (λ uS uT=>bX (λ id p1=>bC (λ Ak Al=>bX (λ jd p2=>bV (eU (λ HU HV HW p6=>bX (λ pd p5=>bC (λ v HX=>bV (bV (bV (GB P i j g id jd pd&&x v&&b b') nV) HW) HX) HV) HU) t9) Al) Ak) uT) uS) qI) t8) st
@[elab_as_elim] theorem AB{P:Prog}{i j:Nat}{x:Expr->Bool}{b:List Stmt->Bool}{g:bQ}{M:Stmt->Prop}(H:∀id p1 jd p2 p3 p4 pd p5 v p6 b' p7,GB P i j g id jd pd=true->x v=true->b b'=true->M (.For (.Tuple ((.Name id p1)::((.Name jd p2)::[])) p3 p4) (.Call (.Name pd p5) (v::[]) [] p6) b' [] p7))(st:Stmt)(hc:u5 P i j x b g st=true):M st:=
 qB (λ t8 t9 b' nV p7 hc=>gc (λ qI p3 p4 hc=>aR (λ uS uT hc=>a9 (λ id p1 hc=>aR (λ Ak Al hc=>a9 (λ jd p2 hc=>aT (λ hc=>cU (λ HU HV HW p6 hc=>a9 (λ pd p5 hc=>aR (λ v HX hc=>aT (λ hc=>aT (λ hc=>aT (λ hc=>H id p1 jd p2 p3 p4 pd p5 v p6 b' p7 (al (al hc)) (ar (al hc)) (ar hc)) nV hc) HW hc) HX hc) HV hc) HU hc) t9 hc) Al hc) Ak hc) uT hc) uS hc) qI hc) t8 hc) st hc
noncomputable def u6(is:List Nat)(x:Expr->Bool)(b:List Stmt->Bool)(g:bQ)(st:Stmt):Bool:=xX (λ t4 v b' t5 p3=>iq (λ ts p1 p2=>bV (g.q&&kR g is ts&&fC v&&x v&&b b') t5) t4) st
@[elab_as_elim] theorem AD{is:List Nat}{x:Expr->Bool}{b:List Stmt->Bool}{g:bQ}{M:Stmt->Prop}(H:∀ts p1 p2 v b' p3,g.q=true->kR g is ts=true->fC v=true->x v=true->b b'=true->M (.For (.Tuple ts p1 p2) v b' [] p3))(st:Stmt)(hc:u6 is x b g st=true):M st:=
 qB (λ t4 v b' t5 p3 hc=>gc (λ ts p1 p2 hc=>aT (λ hc=>H ts p1 p2 v b' p3 (al (al (al (al hc)))) (ar (al (al (al hc)))) (ar (al (al hc))) (ar (al hc)) (ar hc)) t5 hc) t4 hc) st hc
noncomputable def AE(x:Expr->Bool)(st:Stmt):Bool:=qz (λ t2 p1=>cT (λ v=>x v) t2) st
@[elab_as_elim] theorem EI{x:Expr->Bool}{M:Stmt->Prop}(H:∀v p1,x v=true->M (.Return (some v) p1))(st:Stmt)(hc:AE x st=true):M st:=
 xW (λ t2 p1 hc=>bE (λ v hc=>H v p1 hc) t2 hc) st hc
noncomputable def u7(P:Prog)(C:Nat)(nm:Str)(keep:Bool)(x:Expr->Bool)(g:bQ)(st:Stmt):Bool:=uH (λ t4 t5 p3=>cT (λ t6=>eU (λ t7 t8 t9 p2=>bX (λ id p1=>bC (λ v nV=>bV (bV (j4 (g.q&&g.glob P nm (.cls C) id&&(if keep then decide (C=P.bad) else P.fN.contains C)&&x v) t5) t9) nV) t8) t7) t6) t4) st
@[elab_as_elim] theorem AF{P:Prog}{C:Nat}{nm:Str}{keep:Bool}{x:Expr->Bool}{g:bQ}{M:Stmt->Prop}(H:∀id p1 v p2 p3,g.q=true->g.glob P nm (.cls C) id=true->(if keep then decide (C=P.bad) else P.fN.contains C)=true->x v=true->M (.Raise (some (.Call (.Name id p1) (v::[]) [] p2)) none p3))(st:Stmt)(hc:u7 P C nm keep x g st=true):M st:=
 zT (λ t4 t5 p3 hc=>bE (λ t6 hc=>cU (λ t7 t8 t9 p2 hc=>a9 (λ id p1 hc=>aR (λ v nV hc=>aT (λ hc=>aT (λ hc=>gC (λ hc=>H id p1 v p2 p3 (al (al (al hc))) (ar (al (al hc))) (ar (al hc)) (ar hc)) t5 hc) t9 hc) nV hc) t8 hc) t7 hc) t6 hc) t4 hc) st hc
noncomputable def AG(b:List Stmt->Bool)(hs:List ExceptHandler->Bool)(g:bQ)(st:Stmt):Bool:=Hu (λ b' t2 t3 t4 p1=>bC (λ h wu=>bV (bV (g.q&&g.rw&&b b'&&hs (h::wu)) t4) t3) t2) st
@[elab_as_elim] theorem EJ{b:List Stmt->Bool}{hs:List ExceptHandler->Bool}{g:bQ}{M:Stmt->Prop}(H:∀b' h wu p1,g.q=true->g.rw=true->b b'=true->hs (h::wu)=true->M (.Try b' (h::wu) [] [] p1))(st:Stmt)(hc:AG b hs g st=true):M st:=
 Hv (λ b' t2 t3 t4 p1 hc=>aR (λ h wu hc=>aT (λ hc=>aT (λ hc=>H b' h wu p1 (al (al (al hc))) (ar (al (al hc))) (ar (al hc)) (ar hc)) t4 hc) t3 hc) t2 hc) st hc
noncomputable def u9(st:Stmt):Bool:=lQ (λ p1=>true) st
@[elab_as_elim] theorem AH{M:Stmt->Prop}(H:∀p1,M (.Continue p1))(st:Stmt)(hc:u9 st=true):M st:=
 sf (λ p1 hc=>H p1) st hc
noncomputable def vb(x:Expr->Bool)(g:bQ)(st:Stmt):Bool:=fq (λ t4 t5 p3=>bC (λ t t6=>bV (iq (λ t7 p1 p2=>bC (λ v vs=>g.q&&x v) t7) t5) t6) t4) st
@[elab_as_elim] theorem AI{x:Expr->Bool}{g:bQ}{M:Stmt->Prop}(H:∀t v vs p1 p2 p3,g.q=true->x v=true->M (.Assign (t::[]) (.Tuple (v::vs) p1 p2) p3))(st:Stmt)(hc:vb x g st=true):M st:=
 eO (λ t4 t5 p3 hc=>aR (λ t t6 hc=>aT (λ hc=>gc (λ t7 p1 p2 hc=>aR (λ v vs hc=>H t v vs p1 p2 p3 (al hc) (ar hc)) t7 hc) t5 hc) t6 hc) t4 hc) st hc
noncomputable def KH(pj:List Stmt):Bool:=bV true pj
noncomputable def AJ(s:Stmt->Bool)(ss:List Stmt->Bool)(pj:List Stmt):Bool:=bC (λ a as=>s a&&ss as) pj
@[elab_as_elim] theorem KI{s:Stmt->Bool}{ss:List Stmt->Bool}{M:List Stmt->Prop}(H:∀e es,s e=true->ss es=true->M (e::es))(es:List Stmt)(hc:AJ s ss es=true):M es:=
 aR (λ e es hc=>an hc λ h0 h1=>H e es h0 h1) es hc
noncomputable def KJ(hs:List ExceptHandler):Bool:=bV true hs
noncomputable def AK(g:bQ)(bind:Option Nat)(n:Option Str):Bool:=match bind,n with|none,none=>true|some i,some n=>g.de i n&&decide (g.kind n=some .local)|_,_=>false
noncomputable def qO(P:Prog)(C:Nat)(nm:Str)(subs:List Nat)(bind:Option Nat)(b:bQ->List Stmt->Bool)(rest:List ExceptHandler->Bool)(g:bQ)(HY:List ExceptHandler):Bool:=bC (λ t3 hs=>Hr (λ t4 n t5 p2=>cT (λ t6=>bX (λ id p1=>bC (λ b1 b'=>g.glob P nm (.cls C) id&&P.subs.contains (C,subs)&&AK g bind n&&b { g with q:=false } (b1::b')&&rest hs) t5) t6) t4) t3) HY
@[elab_as_elim] theorem su{P:Prog}{C:Nat}{nm:Str}{subs:List Nat}{bind:Option Nat}{b:bQ->List Stmt->Bool}{rest:List ExceptHandler->Bool}{g:bQ}{M:List ExceptHandler->Prop}(H:∀id p1 n b1 b' p2 hs,g.glob P nm (.cls C) id=true->P.subs.contains (C,subs)=true->AK g bind n=true->b { g with q:=false } (b1::b')=true->rest hs=true->M ((.ExceptHandler (some (.Name id p1)) n (b1::b') p2)::hs))(HY:List ExceptHandler)(hc:qO P C nm subs bind b rest g HY=true):M HY:=
 aR (λ t3 hs hc=>Ht (λ t4 n t5 p2 hc=>bE (λ t6 hc=>a9 (λ id p1 hc=>aR (λ b1 b' hc=>H id p1 n b1 b' p2 hs (al (al (al (al hc)))) (ar (al (al (al hc)))) (ar (al (al hc))) (ar (al hc)) (ar hc)) t5 hc) t6 hc) t4 hc) t3 hc) HY hc
mutual
noncomputable def HZ:S->bQ->Stmt->Bool
 | .asg i x,g,st=>Ao i (aI P lc x g) g st
 | .uC i x,g,st=>uZ i (aI P lc x g) g st
 | .qw i x,g,st=>u0 i (aI P lc x g) g st
 | .e8 is xs,g,st=>u2 is (b9 P lc xs g) g st
 | .Ed is x,g,st=>As is (aI P lc x g) g st
 | .aug i op x,g,st=>Au i op (aI P lc x g) g st
 | .mW s i x,g,st=>u3 s (aI P lc i g) (aI P lc x g) g st
 | .app s x,g,st=>Aw s (aI P lc x g) g st
 | .exp x,g,st=>Ax (aI P lc x g) st
 | .ite t a b,g,st=>Ay (lT P lc t g) (c9 a g) (c9 b g) st
 | .xR t b,g,st=>Az (lT P lc t g) (c9 b g) g st
 | .forR i as b,g,st=>u4 P i (b9 P lc as g) (c9 b g) g st
 | .kM i x b,g,st=>nX true i (aI P lc x g) (c9 b g) g st
 | .zJ i x b,g,st=>nX false i (aI P lc x g) (c9 b g) g st
 | .xS i j x b,g,st=>u5 P i j (aI P lc x g) (c9 b g) g st
 | .xT is x b,g,st=>u6 is (aI P lc x g) (c9 b g) g st
 | .ret x,g,st=>AE (aI P lc x g) st
 | .eR C nm keep x,g,st=>u7 P C nm keep (aI P lc x g) g st
 | .r7 b hs,g,st=>AG (c9 b g) (nY hs g) g st
 | .cont,_,st=>u9 st
 | .zK x,g,st=>vb (aI P lc x g) g st
 | .any,_,_=>true
noncomputable def c9:Ss->bQ->List Stmt->Bool
 | .nil,_,pj=>KH pj
 | .cons s ss,g,pj=>AJ (HZ s g) (c9 ss g) pj
noncomputable def nY:Hs->bQ->List ExceptHandler->Bool
 | .nil,_,hs=>KJ hs
 | .cons C nm subs bind b rest,g,hs=>qO P C nm subs bind (c9 b) (nY rest g) g hs
end
end
noncomputable def fk(P:Prog)(k:Nat)(scope:Scope)(e:Expr):Bool:=match P.pe[k]? with
 |some l=>decide (freeOf scope=l.names)&&decide (l.names.eraseDups.length=l.names.length)&&decide (scope.kind= .function)&&(scope.names.all λ p=>p.2== .free || p.2== .globalImplicit)&&
   aI P (λ _ _ _=>false) l.body { names:=l.names,scope:=scope,q:=true,rw:=false,lam:=false,tg:=[] } e
 |none=>false
noncomputable def dR(a:Arguments):Bool:=a.posonlyargs.isEmpty&&a.vararg.isNone&&a.kwonlyargs.isEmpty&&a.kwarg.isNone&&a.defaults.isEmpty
noncomputable def pM(P:Prog)(fn:Fn)(fd:FuncData):Bool:=match fd.body with
 | .stmts body=>decide (fd.scope.kind= .function)&&!fd.scope.isGenerator&&!fd.scope.isCoroutine&&fd.closure.isEmpty&&dR fd.params&&
   decide (fd.params.args.map (·.arg)=fn.names.take fn.np)&&decide (fn.np<=fn.names.length)&&decide (fn.names.eraseDups.length=fn.names.length)&&
   (fn.names.take fn.np).all (λ n=>match fd.scope.names.lookup n with|some .local=>true|some .cell=>true|_=>false)&&
   c9 P (fk P) fn.body { names:=fn.names,scope:=fd.scope,q:=true,rw:=true,lam:=fn.lam,tg:=(List.range fn.names.length).filter λ i=>match fn.names[i]? with|some nm=>decide (fd.scope.names.lookup nm=none)|none=>false } body
 |_=>false
noncomputable def fH(call:Hd)(W:Nat)(fn:Fn)(aD:Option (List V))(args:List V):Option Res:=
 if aD.isSome=fn.aD/\args.length+(if fn.aD then 1 else 0)=fn.np/\fn.np<=fn.names.length then
  match aU call W fn.body ((aD.map Slot.aD).toList++args.map Slot.val++List.replicate (fn.names.length-fn.np) .af) with
  |some (.next sl)=>if fn.aD then none else some (.ok .none [])
  |some (.ret v sl)=>if fn.aD then (match (sl:List Slot)[0]? with|some (Slot.aD xs)=>some (.ok v xs)|_=>none) else some (.ok v [])
  |some (.exc C arg)=>if fn.aD then none else some (.exc C arg)
  |_=>none
 else none
noncomputable def iZ(call:Hd)(l:pb)(bM:List V)(args:List V):Option Res:=
 match args with
 | []=>if bM.length=l.names.length then (match ev call l.body (bM.map Slot.val) with
  |some (.ok v _)=>some (.ok v [])
  |some (.exc C arg)=>some (.exc C arg)
  |none=>none) else none
 |_=>none
noncomputable def ao(P:Prog)(W:Nat):Nat->Hd
 |0=>λ _ _ _=>none
 |n+1=>λ c aD args=>match c with
  | .fn a=>match P.fns.lookup a with
   |some fn=>fH (ao P W n) W fn aD args
   |none=>none
  | .lam k bM=>match aD,P.pe[k]? with
   |none,some l=>iZ (ao P W n) l bM args
   |_,_=>none
structure Wd where
 prog:Program
 w:World
 K:Frag
 p:Program
 loose:List Str
 mg:Str->Option Value
 mb:Str->Option Value
 os:OsState
 P:Prog
 bA:Nat->FuncData->Prop
 tabs:List (Addr×Addr×Str)
structure St(W:Wd)(G:Heap)(D:Led)(s:Shared):Prop where
 led:cQ G D s.heap
 gD:W.K.In G
 top:TopRead W.p W.loose W.mg W.mb G
 gens:s.gens=#[]
 os:s.os=W.os
noncomputable abbrev Md(W:Wd):Model:=model W.prog W.w
noncomputable abbrev Rp(W:Wd)(G:Heap):=Rep W.bA G
noncomputable abbrev dS(W:Wd)(G:Heap):=aL W.bA G
variable{W:Wd}{G:Heap}{D:Led}{s:Shared}
theorem St.keeps(x:St W G D s){h':Heap}{t:Nat}(k:∀b o,s.heap.get? b=some o->h'.get? b=some o):St W G D { s with heap:=h',toks:=t }:=
 ⟨x.led.keeps k,x.gD,x.top,x.gens,x.os⟩
theorem St.tok(x:St W G D s){t:Nat}:St W G D { s with toks:=t }:=⟨x.led,x.gD,x.top,x.gens,x.os⟩
theorem St.freeze(x:St W G D s):St W (hideAll s.heap (aQ D)) D s/\G.StaysIn (hideAll s.heap (aQ D)):=by
 refine d8 (λ a b=>?_)<|x.led.freeze
 exact⟨⟨a,x.gD.keeps b,x.top.keeps b,x.gens,x.os⟩,b⟩
theorem St.grow(x:St W G D s){G':Heap}(k:G.StaysIn G')(l:cQ G' D s.heap):St W G' D s:=⟨l,x.gD.keeps k,x.top.keeps k,x.gens,x.os⟩
theorem StaysIn.refl(G:Heap):G.StaysIn G:=λ _ _ e=>e
theorem StaysIn.trans{A B C:Heap}(x:A.StaysIn B)(y:B.StaysIn C):A.StaysIn C:=λ b o e=>y b o (x b o e)
theorem St.seq(x:St W G D s){t a items}(h:SeqAt G t a items):SeqAt s.heap t a items:=h.keeps x.led.stays
theorem SeqAt.isList{h:Heap}{a items}(x:SeqAt h false a items):h.IsList a items.toArray:=let ⟨o,n,e1,e2,e3⟩:=x;⟨o,e1,e2,n,e3⟩
theorem SeqAt.isTup{h:Heap}{a items}(x:SeqAt h true a items):IsTup h a items.toArray:=let ⟨o,n,e1,e2,e3⟩:=x;⟨o,e1,e2,n,e3⟩
theorem SeqAt.ofList{h:Heap}{a items}(x:h.IsList a (List.toArray items)):SeqAt h false a items:=let ⟨o,e1,e2,n,e3⟩:=x;⟨o,n,e1,e2,e3⟩
theorem St.frozen(x:St W G D s){t a items xs}(h:SeqAt s.heap t a items)(ha:a∉aQ D)(r:dS W G xs items):
  St W (hideAll s.heap (aQ D)) D s/\G.StaysIn (hideAll s.heap (aQ D))/\Rp W (hideAll s.heap (aQ D)) (.seq t xs) (.ref a):=by
 refine d8 (λ y k=>?_)<|x.freeze
 refine⟨y,k,?_⟩
 refine ew (λ o n e1 e2 e3=>?_) h;clear h
 simp only [Rep]
 exact⟨a,items,rfl,⟨o,n,hideAll_get _ e1 ha,e2,e3⟩,aL.keeps k _ r⟩
theorem ny(x:cQ G D s.heap){a:Addr}(ha:a∈aQ D):a<s.heap.objs.size:=by
 refine aV (λ p hp e=>?_)<|List.mem_map.mp ha
 exact e▸(x.has p hp).lt
theorem cW(x:cQ G D s.heap):s.heap.objs.size∉aQ D:=λ h=>absurd (ny x h) (Nat.lt_irrefl _)
theorem kS(x:cQ G D s.heap){a:Nat}(h:s.heap.objs.size<=a):a∉aQ D:=λ h'=>absurd (ny x h') (Nat.not_lt.mpr h)
noncomputable def allOf(h:Heap)(L:Addr):List (Addr×Obj):=(List.range h.objs.size).filterMap λ a=>if a=L then none else (h.get? a).map (a, ·)
theorem pN{h:Heap}{L b:Addr}{o:Obj}(hb:b≠L)(e:h.get? b=some o):(b,o)∈allOf h L:=by
 refine List.mem_filterMap.mpr ⟨b,List.mem_range.mpr (Heap.lt_size e),?_⟩
 rw[if_neg hb,e];rfl
theorem yd(b:Addr):({}:Heap).get? b=none:=rfl
theorem adapt{h:Heap}{L:Addr}{m:Str->Option Value}(hn:h.Ns L m):Fr {} L h m/\News {} L h (allOf h L):=by
 refine⟨⟨hn,λ b o e=>(by rw[yd] at e;cases e),Nat.zero_le _⟩,λ p hp=>?_⟩
 refine aV (λ a _ e=>?_)<|List.mem_filterMap.mp hp
 split at e
 ·cases e
 ·rename_i et
  cases q:h.get? a with
  |none=>rw[q] at e;cases e
  |some o=>rw[q] at e;replace e:=si e;subst e;exact⟨q,et,rfl⟩
theorem cQ.back{h h':Heap}{L:Addr}{m:Str->Option Value}{news:List (Addr×Obj)}(x:cQ G D h)(hL:(L,.ns m)∈D)(F:Fr {} L h' m)(N:News {} L h' news)(sub:∀p∈allOf h L,p∈news):cQ G D h':=by
 have k:∀b o,b≠L->h.get? b=some o->h'.get? b=some o:=λ b o hb e=>(N _ (sub _ (pN hb e))).1
 refine⟨λ b o e=>k b o (λ q=>?_) (x.stays _ _ e),λ p hp=>?_,x.free,x.nodup⟩
 ·have:=x.free _ hL;rw[q] at e;rw[this] at e;cases e
 ·by_cases q:p.1=L
  ·have:p=(L,.ns m):=by
    have nd:=x.nodup
    clear k F N sub
    induction D with
    |nil=>cases hp
    |cons y ys ih=>
     rw[List.map_cons,List.nodup_cons] at nd
     rcases List.mem_cons.mp hp with rfl|kT
     ·rcases List.mem_cons.mp hL with h1|h1
      ·exact h1.symm
      ·exact absurd (by rw[q];exact UR (f:=λ p:Addr×MO=>p.1) h1) nd.1
     ·rcases List.mem_cons.mp hL with h1|h1
      ·exact absurd (by rw[<-h1];show L∈_;rw[<-q];exact UR (f:=λ p:Addr×MO=>p.1) kT) nd.1
      ·exact ih (x.sub (List.sublist_cons_self _ _)) h1 kT nd.2
   rw[this];exact F.ns
  ·exact(x.has p hp).keep λ o e=>k _ _ q e
theorem KL{h h':Heap}{L:Addr}{news:List (Addr×Obj)}(N:News {} L h' news)(sub:∀p∈allOf h L,p∈news){b:Addr}{o:Obj}(hb:b≠L)(e:h.get? b=some o):h'.get? b=some o:=
 (N _ (sub _ (pN hb e))).1
theorem St.back(x:St W G D s){h':Heap}{t:Nat}{L:Addr}{m:Str->Option Value}{news:List (Addr×Obj)}(hL:(L,.ns m)∈D)(F:Fr {} L h' m)(N:News {} L h' news)(sub:∀p∈allOf s.heap L,p∈news):St W G D { s with heap:=h',toks:=t }:=
 ⟨x.led.back hL F N sub,x.gD,x.top,x.gens,x.os⟩
theorem aG(nd:(D.map (·.1)).Nodup){a:Addr}{x y:MO}(hx:(a,x)∈D)(hy:(a,y)∈D):x=y:=by
 induction D with
 |nil=>cases hx
 |cons p r ih=>
  rw[List.map_cons,List.nodup_cons] at nd
  rcases List.mem_cons.mp hx with h1|h1<;> rcases List.mem_cons.mp hy with h2|h2
  ·rw[<-h1] at h2;exact(Prod.mk.inj h2).2.symm
  ·have:=UR (f:=λ p:Addr×MO=>p.1) h2;exact absurd (by rw[<-h1];exact this) nd.1
  ·have:=UR (f:=λ p:Addr×MO=>p.1) h1;exact absurd (by rw[<-h2];exact this) nd.1
  ·exact ih nd.2 h1 h2
theorem ei{i:Int}{c:Value}(h:Rp W G (.int i) c):∃t,c= .int i t:=by simpa only [Rp,Rep] using h
theorem dA{b:List UInt8}{c:Value}(h:Rp W G (.bytes b) c):∃t,c= .bytes b.toArray t:=by simpa only [Rp,Rep] using h
theorem qP{b:Str}{c:Value}(h:Rp W G (.str b) c):∃t,c= .str b t:=by simpa only [Rp,Rep] using h
theorem ej{t:Bool}{xs:List V}{c:Value}(h:Rp W G (.seq t xs) c):∃a items,c= .ref a/\SeqAt G t a items/\dS W G xs items:=by simpa only [Rp,Rep] using h
theorem jJ{c:Value}(h:Rp W G .none c):c= .none:=by simpa only [Rp,Rep] using h
theorem qQ{a:Nat}{c:Value}(h:Rp W G (.cls a) c):c= .ref a/\∃o cd,G.get? a=some o/\o.cls= .type "type"/\o.data= .cls cd:=by simpa only [Rp,Rep] using h
theorem nA{cs:List Value}(h:dS W G [] cs):cs=[]:=by simpa only [dS,aL] using h
theorem kU{x:V}{xs:List V}{cs:List Value}(h:dS W G (x::xs) cs):∃c rT,cs=c::rT/\Rp W G x c/\dS W G xs rT:=by simpa only [dS,aL] using h
theorem EK{x:V}{i:Int}(h:zM x=some i):x= .int i:=by
 cases x with
 |int j=>exact congrArg V.int (bZ h).symm
 |_=>exact bj h
theorem nZ{x:V}{xs:List V}{ns:List Int}(h:ez (x::xs)=some ns):∃i ms,x= .int i/\ez xs=some ms/\ns=i::ms:=by
 refine aV (λ i e1 h=>?_)<|Option.bind_eq_some_iff.mp (show(zM x).bind (λ i=>(ez xs).map (i:: ·))=some ns from h)
 refine aV (λ ms e2 e3=>?_)<|Option.map_eq_some_iff.mp h
 exact⟨i,ms,EK e1,e2,e3.symm⟩
theorem kW:∀{xs:List V} {cs:List Value} {ns:List Int},ez xs=some ns->dS W G xs cs->IntsAre cs ns
 | [],_,_,h,r=>by
  rw[bZ h,nA r];exact .nil
 |x::xs,cs,ns,h,r=>by
  refine ew (λ c rT e1 e2 e3=>?_)<|kU r
  refine ew (λ i ms z2 e4 e5=>?_)<|nZ h;subst z2
  refine bJ (λ t e6=>?_)<|ei e2
  rw[e1,e5,e6]
  exact .cons _ _ (kW e4 e3)
theorem c0{i:Int}{t:Tok}:Rp W G (.int i) (.int i t):=by simp only [Rp,Rep];exact⟨_,rfl⟩
theorem kX{b:Bool}:Rp W G (.bool b) (.bool b):=by simp only [Rp,Rep]
theorem sv:Rp W G .none .none:=by simp only [Rp,Rep]
theorem wx{x:Str}{t:Tok}:Rp W G (.str x) (.str x t):=by simp only [Rp,Rep];exact⟨_,rfl⟩
theorem jK{x:List UInt8}{t:Tok}:Rp W G (.bytes x) (.bytes x.toArray t):=by simp only [Rp,Rep];exact⟨_,rfl⟩
theorem AL:bL<=sizeLine:=by rw[sizeLine_eq];show 100000<=_;exact Nat.le_add_left _ _
theorem lim_24:bL<=2^24:=by show 100000<=_;exact Nat.le_add_left _ _
theorem lim_16:bL<=16777216:=by show 100000<=_;exact Nat.le_add_left _ _
theorem bits_20:4096<=2^20:=by exact Nat.le_add_left _ _
theorem bits_le{i:Int}(h:wk i=true):Builtin.Int.intBits i<=4096:=by
 have h':i.natAbs<MI:=UH h
 rw[zL] at h'
 unfold Builtin.Int.intBits
 split
 ·exact Nat.zero_le _
 ·rename_i h0
  have hp:i.natAbs≠0:=by simpa using h0
  have:=(Nat.log2_lt hp).mpr h'
  exact Nat.succ_le_of_lt ‹_›
section
variable{A:Around}{E:Value->Shared->Prop}{Q:Value->Shared->Prop}{a b r:V}{ca cb:Value}{op:nt}
inductive AM(op:nt)(r:V):V->V->Prop
 |int {i j:Int} (h:intOp op i j=some r):AM op r (.int i) (.int j)
 |bytes {x y:List UInt8} (h:isAdd op=true/\x.length+y.length<bL) (e:r= .bytes (x++y)):AM op r (.bytes x) (.bytes y)
 |cat {t u:Bool} {x y:List V} (h:isAdd op=true/\t=false/\u=false/\x.length+y.length<bL) (e:r= .seq false (x++y)):AM op r (.seq t x) (.seq u y)
 |rep {t:Bool} {x:List V} {n:Int} (h:isMul op=true/\t=false/\x.length*n.toNat<bL/\n<bL/\-bL<n/\(ez x).isSome) (e:r= .seq false (List.replicate n.toNat x).flatten):AM op r (.seq t x) (.int n)
theorem KN{op:nt}{a b r:V}:dz op a b=some r->AM op r a b:=by
 cases a with
 |int i=>cases b with
  |int j=>exact .int
  |_=>exact bj
 |bytes x=>cases b with
  |bytes y=>exact λ h=> .bytes (aO h).1 (aO h).2
  |_=>exact bj
 |seq t x=>cases b with
  |seq u y=>exact λ h=> .cat (aO h).1 (aO h).2
  |int n=>exact λ h=> .rep (aO h).1 (aO h).2
  |_=>exact bj
 |_=>exact bj
theorem sx{op:nt}(h:isAdd op=true):op= .add:=by
 cases op with
 |add=>rfl
 |_=>exact Bool.noConfusion h
theorem AN{op:nt}(h:isMul op=true):op= .mul:=by
 cases op with
 |mul=>rfl
 |_=>exact Bool.noConfusion h
theorem AO{i j:Int}{t u:Tok}(h:intOp op i j=some r)(hQ:∀k w t',r= .int k->Q (.int k w) { s with toks:=t' }):wpAny (Md W) A (binaryOp (pg op) (.int i t) (.int j u)) Q E s:=by
 cases op with
 |add=>exact add_int (hQ _ _ _ (bZ h))
 |sub=>exact sub_int (hQ _ _ _ (bZ h))
 |mul=>
  have hh:=Bool.and_eq_true_iff.mp (aO h).1
  exact mul_int (hQ _ _ _ (aO h).2) (IntMulOk.of_bits (Nat.le_trans (bits_le hh.1) bits_20) (Nat.le_trans (bits_le hh.2) bits_20))
 |fdiv=>exact floordiv_int (aO h).1.1 (hQ _ _ _ (aO h).2) (.inl (PyProof.noPylong_small (aO h).1.2))
 |mod=>exact mod_int' (aO h).1 (hQ _ _ _ (aO h).2)
 |shl=>
  have h3:=bits_le (aO h).1.2.2
  have h2:=(aO h).1.2.1
  exact lshift_int (aO h).1.1 (by lia) (hQ _ _ _ (aO h).2)
 |shr=>exact rshift_int (aO h).1 (hQ _ _ _ (aO h).2)
 |and=>exact and_int (hQ _ _ _ (bZ h))
 |or=>exact or_int (hQ _ _ _ (bZ h))
 |pow=>
  have h2:=(aO h).1.2.1
  exact pow_int_small (aO h).1.1 (by lia) (UO (aO h).1.2.2 (by decide)) (hQ _ _ _ (aO h).2)
theorem sy(x:St W G D s):G.get? s.heap.objs.size=none:=by
 cases q:G.get? s.heap.objs.size with
 |none=>rfl
 |some o=>exact absurd (Heap.lt_size (x.led.stays _ _ q)) (Nat.lt_irrefl _)
theorem pO{xs:List V}(h:dz op a b=some (.seq false xs))(x:St W G D s)(ra:Rp W G a ca)(rb:Rp W G b cb){L:Addr}{m:Str->Option Value}(hL:(L,.ns m)∈D)
  (hQ:∀l items s',St W G D s'->s'.heap.IsList l (List.toArray items)->(op= .add->fu s'.heap l items)->l∉aQ D->G.get? l=none->dS W G xs items->Q (.ref l) s'):wpAny (Md W) A (binaryOp (pg op) ca cb) Q E s:=by
 refine d8 (λ F N=>?_)<|adapt (x.led.has _ hL)
 cases KN h with
 |int h=>
  refine bJ (λ t z1=>?_)<|ei ra;subst z1
  refine bJ (λ u z1=>?_)<|ei rb;subst z1
  exact AO h λ k _ _ e=>nomatch e
 |bytes _ e=>exact nomatch e
 |cat hh e=>
  refine Ho (λ h1 z1 z2 cw=>?_) hh;clear hh;subst z1;subst z2
  have h1:=sx h1
  subst h1
  refine ew (λ l vc z2 s1 r1=>?_)<|ej ra;subst z2
  refine ew (λ l2 AP z2 s2 r2=>?_)<|ej rb;subst z2
  have e:=V.seq.noConfusion e (λ _ h=>h)
  refine add_arrays F N (x.seq s1).isList (x.seq s2).isList (λ h' F' N'=>?_) (by
   simp only [List.size_toArray];rw[r1.length,r2.length];exact Nat.le_of_lt (UO cw AL))
  have:=(N' _ (.head _)).1
  rw[e] at hQ
  exact hQ _ (vc++AP) _ (x.back hL F' N' λ p hp=> .tail _ hp) ⟨_,this,rfl,0,by simp⟩ (λ _=>⟨_,this,rfl,⟨0,by simp⟩,rfl⟩) (cW x.led) (sy x) (r1.append r2)
 |rep hh e=>
  refine Qv (λ h0 z1 h1 h2 h3 h4=>?_) hh;clear hh;subst z1
  have h0:=AN h0
  subst h0
  refine bJ (λ ns qR=>?_)<|Option.isSome_iff_exists.mp h4
  refine ew (λ l vc z2 s1 r1=>?_)<|ej ra;subst z2
  refine bJ (λ t z1=>?_)<|ei rb;subst z1
  have e:=V.seq.noConfusion e (λ _ h=>h)
  rw[e] at hQ
  have e1:(bL:Int)=100000:=rfl
  rw[e1] at h2 h3
  exact mul_list_is F N (x.seq s1).isList (lm_carried_ints (kW qR r1)) (by lia) (by lia) (by rw[r1.length];exact Nat.le_of_lt (UO h1 lim_24)) λ h' F' N' _ ye _=>
   hQ _ _ _ (x.back hL F' N' λ p hp=>hp) ye (λ e=>nomatch e) (cW x.led) (sy x) (r1.replicate _)
theorem pP(h:dz op a b=some r)(x:St W G D s)(ra:Rp W G a ca)(rb:Rp W G b cb){L:Addr}{m:Str->Option Value}(hL:(L,.ns m)∈D)
  (hQ:∀G' c s',St W G' D s'->G.StaysIn G'->Rp W G' r c->Q c s'):wpAny (Md W) A (binaryOp (pg op) ca cb) Q E s:=by
 have fr:∀xs,r= .seq false xs->wpAny (Md W) A (binaryOp (pg op) ca cb) Q E s:=λ xs e=>by
  rw[e] at h hQ
  refine pO h x ra rb hL λ l items s' y hl _ hk _ r=>?_
  refine rS (λ y' k r'=>?_)<|y.frozen (SeqAt.ofList hl) hk r
  exact hQ _ _ _ y' k r'
 cases KN h with
 |int h=>
  refine bJ (λ t z1=>?_)<|ei ra;subst z1
  refine bJ (λ u z1=>?_)<|ei rb;subst z1
  exact AO h λ k _ _ e=>hQ _ _ _ x.tok (StaysIn.refl _) (e▸c0)
 |bytes hh e=>
  refine d8 (λ h1 cw=>?_) hh;clear hh
  have h1:=sx h1
  subst h1
  refine bJ (λ t z1=>?_)<|dA ra;subst z1
  refine bJ (λ u z1=>?_)<|dA rb;subst z1
  exact bytes_add_K (by simp only [List.size_toArray];exact Nat.le_of_lt (UO cw lim_16)) rfl λ t' k=>hQ _ _ _ x.tok (StaysIn.refl _) (e▸jK)
 |cat _ e=>exact fr _ e
 |rep _ e=>exact fr _ e
end
end Mine
end
section
open PySem PySem.W PyProof.Rows PySem.Calls PySem.SeqAt
namespace Mine
variable{W:Wd}{G:Heap}{D:Led}{s:Shared}
section
open Builtin
theorem i3(b:Array UInt8)(i:Int)(t u:Tok)(h0:0<=i)(h1:i<256):
  Gives («bytes.__contains__» ⟨[.bytes b t,.int i u],[]⟩) (.val (.bool (b.contains i.toNat.toUInt8))):=by
 have e:(decide (i<0) || decide (i ≥ 256))=false:=by
  rw[UM (by lia),UM (by lia)];rfl
 refine .of_wp λ M A E s Q hq=>?_
 unfold «bytes.__contains__» Bytes.containsIn
 repeat (first
  |with_reducible exact hq
  |(with_reducible refine wpAny_attempt ?_)
  |(refine UC (m:=Bytes.buffer? _ _) (wpAny_of_eq KBy.buffer_eq ?_))
  |(rw[if_neg (by rw[e];exact UI)])
  |wp_step)
 exact⟨_,rfl,hq⟩
end
section
variable{A:Around}
theorem kY:PySem.Slot "type" (cmpInfo .NotEq).2.1 "object.__ne__":=
 .of (owner:="object") (n:="__ne__") (by rw[typeLookup_type,builtinLookup_eq_fast];kernel_rfl) (by decide +kernel) (by decide +kernel) (by decide +kernel)
  (by first|exact .inl (by decide +kernel)|exact .inr (by decide +kernel)) (by rw[isSubtype_type];kernel_rfl)
theorem sz{C:Addr}{o:Obj}(ho:s.heap.get? C=some o)(hc:o.cls= .type "type")(hu:A.units<cLine):RcAt A s (.ref C) (.ref C) true:=λ prog w E Q h=>
 have ty:s.TypeIs (.ref C) "type":=⟨o,ho,hc⟩
 wpAny_richCompare_same_room (T:="type") ty ty TypeEq.slot_type_eq
  (wpAny_call_entry TypeEq.slot_type_eq ty F.entry_object_eq (objEq_entry_same ⟨_,rfl,(λ x=>nomatch x),h⟩) (F.args_object_eq_2 _ _)) hu
theorem sA{C:Addr}{o:Obj}(ho:s.heap.get? C=some o)(hc:o.cls= .type "type")(hu:A.units+2<cLine):RcNeAt A s (.ref C) (.ref C) false:=λ prog w E Q h=>by
 have ty:s.TypeIs (.ref C) "type":=⟨o,ho,hc⟩
 refine wpAny_richCompare_same_room (T:="type") ty ty kY
  (wpAny_call_entry kY ty F.entry_object_ne ?_ (F.args_object_ne_2 _ _)) (by exact Gx ‹_›)
 show wpAny _ _ (do
  cRoomFor "comparison" [.ref C]
  match <-callSpecialIfBound? (.ref C) "__eq__" [.ref C] with
  |some .notImplemented|none=>ret .notImplemented
  |some r=>ret (.bool (!(<-truthy r)))) _ E s
 refine UC (wpAny_cRoomFor (by show A.units+1<cLine;exact Nat.lt_of_succ_lt ‹_›) (UC ?_))
 refine wpAny_callSpecialIfBound?_slot ty TypeEq.slot_type_eq (wpAny_call_entry TypeEq.slot_type_eq ty F.entry_object_eq (objEq_entry_same ⟨_,rfl,?_⟩) (F.args_object_eq_2 _ _))
 exact UC (wpAny_truthy_bool (UL ⟨_,rfl,(λ x=>nomatch x),h⟩))
theorem sC(b c:List UInt8)(t u:Tok):RcAt A s (.bytes b.toArray t) (.bytes c.toArray u) (b==c):=λ prog w E Q h=>by
 show wpAny _ A (compareOp .Eq _ _) Q E s
 exact eq_bytes (by simpa using h)
theorem vd(b c:List UInt8)(t u:Tok):RcNeAt A s (.bytes b.toArray t) (.bytes c.toArray u) (!(b==c)):=λ prog w E Q h=>by
 show wpAny _ A (compareOp .NotEq _ _) Q E s
 exact ne_bytes (by simpa [bne] using h)
theorem n4(b c:List UInt8)(t u:Tok):EqAt A s (.bytes b.toArray t) (.bytes c.toArray u) (b==c):=λ prog w E Q hq=>by
 unfold eqBool
 refine wpAny_holding ?_
 refine wpAny_ite_split (λ zC=>?_) (λ _=>?_)
 ·have e:b=c:=by
   have:=eq_of_beq zC
   injection this with h1 _
   simpa using h1
  subst e
  exact UC (wpAny_rule (UL (by simpa using hq)))
 ·exact UC (sC b c t u prog w E _ (wpAny_truthy_bool hq))
inductive J7(r:Bool):V->V->Prop
 |none (e:r=true):J7 r .none .none
 |cls {x:Nat} (e:r=true):J7 r (.cls x) (.cls x)
 |int {x y:Int} (e:r=(x==y)):J7 r (.int x) (.int y)
 |str {x y:Str} (e:r=(x==y)):J7 r (.str x) (.str y)
 |bytes {x y:List UInt8} (e:r=(x==y)):J7 r (.bytes x) (.bytes y)
theorem PC{a b:V}{r:Bool}:Gy a b=some r->J7 r a b:=by
 cases a with
 |none=>cases b with
  |none=>exact λ h=> .none (bZ h)
  |_=>exact bj
 |cls x=>cases b with
  |cls y=>
   intro h
   refine d8 (λ e e2=>?_)<|aO h
   rw[<-e];exact .cls e2
  |_=>exact bj
 |int x=>cases b with
  |int y=>exact λ h=> .int (bZ h)
  |_=>exact bj
 |str x=>cases b with
  |str y=>exact λ h=> .str (bZ h)
  |_=>exact bj
 |bytes x=>cases b with
  |bytes y=>exact λ h=> .bytes (bZ h)
  |_=>exact bj
 |_=>exact bj
theorem H0{a b:V}{r:Bool}{ca cb:Value}(h:Gy a b=some r)(x:St W G D s)(ra:Rp W G a ca)(rb:Rp W G b cb):EqAt A s ca cb r:=by
 cases PC h with
 |none e=>rw[jJ ra,jJ rb,e];exact EqAt.same _
 |cls e=>rw[(qQ ra).1,(qQ rb).1,e];exact EqAt.same _
 |int e=>refine bJ (λ t e1=>?_)<|ei ra;refine bJ (λ u e2=>?_)<|ei rb;rw[e1,e2,e];exact EqAt.int_int _ _ _ _
 |str e=>refine bJ (λ t e1=>?_)<|qP ra;refine bJ (λ u e2=>?_)<|qP rb;rw[e1,e2,e];exact EqAt.str_str _ _ _ _
 |bytes e=>refine bJ (λ t e1=>?_)<|dA ra;refine bJ (λ u e2=>?_)<|dA rb;rw[e1,e2,e];exact n4 _ _ _ _
noncomputable def MK(A:Around)(s:Shared)(ca cb:Value)(r:Bool):Prop:=RcAt A s ca cb r/\RcNeAt A s ca cb (!r)
theorem H2{a b:V}{r:Bool}{ca cb:Value}(h:Gy a b=some r)(x:St W G D s)(ra:Rp W G a ca)(rb:Rp W G b cb)(hu:A.units+2<cLine):MK A s ca cb r:=by
 cases PC h with
 |none e=>rw[jJ ra,jJ rb,e];exact⟨RcAt.none_none,RcNeAt.none_none⟩
 |cls e=>
  obtain⟨e1,o,cd,h1,h2,_⟩:=qQ ra
  rw[e1,(qQ rb).1,e]
  exact⟨sz (x.led.stays _ _ h1) h2 (UN (Nat.le_add_right _ 2) hu),sA (x.led.stays _ _ h1) h2 hu⟩
 |int e=>refine bJ (λ t e1=>?_)<|ei ra;refine bJ (λ u e2=>?_)<|ei rb;rw[e1,e2,e];exact⟨RcAt.int_int _ _ _ _,RcNeAt.int_int _ _ _ _⟩
 |str e=>refine bJ (λ t e1=>?_)<|qP ra;refine bJ (λ u e2=>?_)<|qP rb;rw[e1,e2,e];exact⟨RcAt.str_str _ _ _ _,RcNeAt.str_str _ _ _ _⟩
 |bytes e=>refine bJ (λ t e1=>?_)<|dA ra;refine bJ (λ u e2=>?_)<|dA rb;rw[e1,e2,e];exact⟨sC _ _ _ _,vd _ _ _ _⟩
noncomputable def sD(A:Around)(s:Shared)(bs:List Bool)(cs ds:List Value):Prop:=
 cs.length=bs.length/\ds.length=bs.length/\∀j (h1:j<cs.length) (h2:j<ds.length),EqAt A s cs[j] ds[j] (bs.getD j true)
theorem sD.cons{b:Bool}{bs:List Bool}{c d:Value}{cs ds:List Value}(h:EqAt A s c d b)(r:sD A s bs cs ds):sD A s (b::bs) (c::cs) (d::ds):=
 ⟨congrArg Nat.succ r.1,congrArg Nat.succ r.2.1,λ j h1 h2=>match j,h1,h2 with
  |0,_,_=>h
  |j+1,h1,h2=>r.2.2 j (Nat.lt_of_succ_lt_succ h1) (Nat.lt_of_succ_lt_succ h2)⟩
theorem wy:∀(xs ys:List V) {bs:List Bool} {cs ds:List Value},eqs xs ys=some bs->St W G D s->dS W G xs cs->dS W G ys ds->sD A s bs cs ds
 | [],[],_,_,_,h,_,r1,r2=>by
  rw[bZ h,nA r1,nA r2]
  exact⟨rfl,rfl,λ j h=>absurd h (Nat.not_lt_zero _)⟩
 |x::xs,y::ys,bs,cs,ds,h,st,r1,r2=>by
  refine aV (λ b e1 h=>?_)<|Option.bind_eq_some_iff.mp (show(Gy x y).bind (λ b=>(eqs xs ys).map (b:: ·))=some bs from h)
  refine aV (λ ML e2 e3=>?_)<|Option.map_eq_some_iff.mp h
  refine ew (λ c rT f1 a1 a2=>?_)<|kU r1
  refine ew (λ d J8 f2 b1 b2=>?_)<|kU r2
  rw[<-e3,f1,f2]
  exact(wy xs ys e2 st a2 b2).cons (H0 e1 st a1 b1)
 | [],_::_,_,_,_,h,_,_,_=>bj h
 |_::_,[],_,_,_,h,_,_,_=>bj h
theorem range_all:∀(bs:List Bool),(List.range bs.length).all (λ j=>bs.getD j true)=bs.all id
 | []=>rfl
 |b::bs=>by
  rw[List.length_cons,List.range_succ_eq_map,List.all_cons,List.all_map,List.all_cons]
  have:=range_all bs
  simp only [Function.comp_def,List.getD_cons_zero,List.getD_cons_succ,id] at*
  rw[this]
theorem H3{t:Bool}{l l2:Addr}{vc AP:List Value}{bs:List Bool}(s1:SeqAt s.heap t l vc)(s2:SeqAt s.heap t l2 AP)(k:sD A.in1 s bs vc AP)(hu:A.units+2<cLine):MK A s (.ref l) (.ref l2) (bs.all id):=by
 refine rS ?_ k;clear k;intro l1 QW k
 have PD:A.units+1<cLine:=Nat.lt_of_succ_lt hu
 have jX:vc.toArray.size=AP.toArray.size:=l1.trans QW.symm
 have k':∀j (h1:j<vc.toArray.size) (h2:j<AP.toArray.size),EqAt A.in1 s vc.toArray[j] AP.toArray[j] (bs.getD j true):=k
 have e:(List.range vc.toArray.size).all (λ j=>bs.getD j true)=bs.all id:=(congrArg (λ n=>(List.range n).all λ j=>bs.getD j true) l1).trans (range_all bs)
 cases t with
 |false=>
  have a1:=RcAt.lists s1.isList s2.isList jX (by exact Nat.lt_of_succ_lt ‹_›) k'
  have a2:=RcNeAt.lists s1.isList s2.isList jX (by exact Nat.lt_of_succ_lt ‹_›) k'
  rw[e] at a1 a2
  exact⟨a1,a2⟩
 |true=>
  have e:((List.range (min vc.toArray.size AP.toArray.size)).all (λ j=>bs.getD j true)&&vc.toArray.size==AP.toArray.size)=bs.all id:=by
   rw[<-jX,Nat.min_self,e,beq_self_eq_true,Bool.and_true]
  have a1:=RcAt.tuples s1.isTup s2.isTup (by exact Nat.lt_of_succ_lt ‹_›) k'
  have a2:=RcNeAt.tuples s1.isTup s2.isTup (by exact Nat.lt_of_succ_lt ‹_›) k'
  rw[e] at a1 a2
  exact⟨a1,a2⟩
theorem H4{t:Bool}{xs ys:List V}{r:Bool}{ca cb:Value}(h:Kv t xs ys=some r)(x:St W G D s)(ra:Rp W G (.seq t xs) ca)(rb:Rp W G (.seq t ys) cb)(hu:A.units+2<cLine):MK A s ca cb r:=by
 refine ew (λ l vc e1 s1 r1=>?_)<|ej ra
 refine ew (λ l2 AP e2 s2 r2=>?_)<|ej rb
 rw[e1,e2]
 unfold Kv at h
 split at h
 ·split at h
  ·refine aV (λ bs q e=>?_)<|Option.map_eq_some_iff.mp h
   rw[<-e]
   exact H3 (x.seq s1) (x.seq s2) (wy xs ys q x r1 r2) hu
  ·rename_i et
   cases t with
   |true=>exact bj h
   |false=>
    rw[bZ h]
    have et:(vc.toArray.size !=AP.toArray.size)=true:=by
     rw[bne_iff_ne];exact λ q=>et (r1.length.symm.trans (q.trans r2.length))
    have PD:A.units+1<cLine:=Nat.lt_of_succ_lt hu
    exact⟨RcAt.lists_lengths (x.seq s1).isList (x.seq s2).isList et (by exact Nat.lt_of_succ_lt ‹_›),RcNeAt.lists_lengths (x.seq s1).isList (x.seq s2).isList et (by exact Nat.lt_of_succ_lt ‹_›)⟩
 ·exact bj h
inductive AQ(r:Bool):V->V->Prop
 |flat {a b:V} (h:Gy a b=some r):AQ r a b
 |seq {t:Bool} {xs ys:List V} (h:Kv t xs ys=some r):AQ r (.seq t xs) (.seq t ys)
 |ti {xs:List V} {i:Int} (e:r=false):AQ r (.seq true xs) (.int i)
 |it {xs:List V} {i:Int} (e:r=false):AQ r (.int i) (.seq true xs)
theorem Nq{a b:V}{r:Bool}:Kw a b=some r->AQ r a b:=by
 cases a with
 |seq t xs=>cases b with
  |seq u ys=>
   intro h
   by_cases e:t=u
   ·have h2:(if t=u then Kv t xs ys else none)=some r:=h
    rw[if_pos e] at h2
    subst e;exact .seq h2
   ·exact bj ((if_neg e).symm.trans h)
  |int i=>cases t with
   |true=>exact λ h=> .ti (bZ h)
   |false=>exact bj
  |_=>exact bj
 |int i=>cases b with
  |seq u ys=>cases u with
   |true=>exact λ h=> .it (bZ h)
   |false=>exact bj
  |int j=>exact λ h=> .flat h
  |_=>exact bj
 |_=>exact λ h=> .flat h
theorem AR{a b:V}{r:Bool}{ca cb:Value}(h:Kw a b=some r)(x:St W G D s)(ra:Rp W G a ca)(rb:Rp W G b cb)(hu:A.units+2<cLine):MK A s ca cb r:=by
 have PD:A.units+1<cLine:=Nat.lt_of_succ_lt hu
 cases Nq h with
 |flat h'=>exact H2 h' x ra rb hu
 |seq h'=>exact H4 h' x ra rb hu
 |ti e=>
  refine ew (λ l vc e1 s1 r1=>?_)<|ej ra
  refine bJ (λ u e2=>?_)<|ei rb
  rw[e1,e2,e]
  exact⟨RcAt.tuple_int _ _ (x.seq s1).isTup (by exact Nat.lt_of_succ_lt ‹_›),RcNeAt.tuple_int _ _ (x.seq s1).isTup (by exact Nat.lt_of_succ_lt ‹_›)⟩
 |it e=>
  refine ew (λ l vc e1 s1 r1=>?_)<|ej rb
  refine bJ (λ u e2=>?_)<|ei ra
  rw[e1,e2,e]
  exact⟨RcAt.int_tuple _ _ (x.seq s1).isTup (by exact Nat.lt_of_succ_lt ‹_›),RcNeAt.int_tuple _ _ (x.seq s1).isTup (by exact Nat.lt_of_succ_lt ‹_›)⟩
end
section
variable{A:Around}{E:Value->Shared->Prop}{Q:Value->Shared->Prop}{a b:V}{r:Bool}{ca cb:Value}{op:o9}
theorem EL{f:Int->Int->Bool}(h:zN a b f=some r)(ra:Rp W G a ca)(rb:Rp W G b cb):∃i j t u,r=f i j/\ca= .int i t/\cb= .int j u:=by
 cases a with
 |int i=>cases b with
  |int j=>
   refine bJ (λ t e1=>?_)<|ei ra
   refine bJ (λ u e2=>?_)<|ei rb
   exact⟨i,j,t,u,bZ h,e1,e2⟩
  |_=>exact bj h
 |_=>exact bj h
noncomputable def ve(bb:List UInt8):Value->Bool
 | .bytes b' _=>b'==bb.toArray
 |_=>false
theorem AS{bb:List UInt8}{t:Tok}:∀(ys:List V) {bs:List Bool} {cs:List Value},Kx bb ys=some bs->dS W G ys cs->(∀y,y∈cs->EqAt A s y (.bytes bb.toArray t) (ve bb y))/\cs.any (ve bb)=bs.any id
 | [],_,_,h,r=>by
  rw[bZ h,nA r]
  exact⟨(λ y hy=>nomatch hy),rfl⟩
 |y::ys,bs,cs,h,r=>by
  refine ew (λ c rT f1 a1 a2=>?_)<|kU r
  cases y with
  |bytes yb=>
   refine aV (λ ML e2 e3=>?_)<|Option.map_eq_some_iff.mp (show(Kx bb ys).map ((yb==bb):: ·)=some bs from h)
   obtain⟨k1,k2⟩:=AS ys e2 a2
   refine bJ (λ u e=>?_)<|dA a1
   have hf:ve bb (.bytes yb.toArray u)=(yb==bb):=by simp[ve]
   rw[<-e3,f1,e]
   refine⟨λ z hz=>?_,by rw[List.any_cons,List.any_cons,k2,hf];rfl⟩
   cases hz with
   |head=>rw[hf];exact n4 _ _ _ _
   |tail _ hz=>exact k1 z hz
  |_=>exact bj h
theorem yf(h:Ky a b=some r)(x:St W G D s)(ra:Rp W G a ca)(rb:Rp W G b cb)(hQ:Q (.bool r) s):wpAny (Md W) A (compareOp .In ca cb) Q E s:=by
 cases a with
 |int i=>cases b with
  |bytes y=>
   refine d8 (λ hh e=>?_)<|aO h
   refine bJ (λ t e1=>?_)<|ei ra
   refine bJ (λ u e2=>?_)<|dA rb
   rw[e1,e2]
   rw[e] at hQ
   exact in_gives (typeIs_bytes s _ u) FB.slot_bytes_contains FB.entry_bytes_contains (FB.args_bytes_contains_2 _ _) (i3 _ _ _ _ hh.1 hh.2) (by simpa using hQ)
  |_=>exact bj h
 |bytes bb=>cases b with
  |seq t ys=>cases t with
   |true=>
    refine aV (λ bs q e=>?_)<|Option.map_eq_some_iff.mp (show(Kx bb ys).map (·.any id)=some r from h)
    refine ew (λ l it e1 s1 r1=>?_)<|ej rb
    refine bJ (λ t e2=>?_)<|dA ra
    refine d8 (λ k1 k2=>?_)<|AS (A:=A.in1) (s:=s) (t:=t) ys q r1
    rw[e1,e2]
    refine in_tupleAt (ve bb) (x.seq s1).isTup (λ y hy=>k1 y (by simpa using hy)) ?_
    have:it.toArray.any (ve bb)=it.any (ve bb):=by simp
    rw[this,k2,e];exact hQ
   |false=>exact bj h
  |_=>exact bj h
 |_=>exact bj h
theorem sE(h:Kz a b=some r)(ra:Rp W G a ca)(rb:Rp W G b cb)(n:Bool)(hQ:Q (.bool (if n then !r else r)) s):wpAny (Md W) A (compareOp (if n then .IsNot else .Is) ca cb) Q E s:=by
 cases b with
 |none=>
  have e2:=jJ rb
  cases a with
  |none=>
   rw[bZ h] at hQ
   rw[jJ ra,e2]
   cases n with
   |false=>exact wpAny_is_self rfl hQ
   |true=>exact wpAny_isNot_self rfl hQ
  |seq t xs=>
   refine fb (λ l it e1 _=>?_)<|ej ra
   rw[bZ h] at hQ
   rw[e1,e2]
   cases n with
   |false=>exact wpAny_is_other rfl (by intro e;cases e) hQ
   |true=>exact wpAny_isNot_other rfl (by intro e;cases e) hQ
  |_=>exact bj h
 |_=>exact bj h
theorem jL(h:cL op a b=some r)(x:St W G D s)(ra:Rp W G a ca)(rb:Rp W G b cb)(hu:A.units+2<cLine)
  (hQ:∀t,Q (.bool r) { s with toks:=t }):wpAny (Md W) A (compareOp (ph op) ca cb) Q E s:=by
 have vf:Q (.bool r) s:=hQ s.toks
 cases op with
 |eq=>exact(AR h x ra rb hu).1 _ _ _ _ vf
 |ne=>
  refine aV (λ k q e=>?_)<|Option.map_eq_some_iff.mp (show(Kw a b).map (!·)=some r from h)
  rw[<-e] at vf
  exact(AR q x ra rb hu).2 _ _ _ _ vf
 |zA=>exact yf h x ra rb vf
 |Hq=>exact sE h ra rb false vf
 |wj=>
  refine aV (λ k q e=>?_)<|Option.map_eq_some_iff.mp (show(Kz a b).map (!·)=some r from h)
  rw[<-e] at vf
  exact sE q ra rb true vf
 |lt=>refine MG (λ i j t u e e1 e2=>?_)<|EL h ra rb;rw[e] at vf;rw[e1,e2];exact lt_int vf
 |le=>refine MG (λ i j t u e e1 e2=>?_)<|EL h ra rb;rw[e] at vf;rw[e1,e2];exact le_int vf
 |gt=>refine MG (λ i j t u e e1 e2=>?_)<|EL h ra rb;rw[e] at vf;rw[e1,e2];exact gt_int vf
 |ge=>refine MG (λ i j t u e e1 e2=>?_)<|EL h ra rb;rw[e] at vf;rw[e1,e2];exact ge_int vf
end
end Mine
end
section
open PySem PySem.W PyProof.Rows PySem.Calls PySem.SeqAt
namespace Mine
variable{W:Wd}{G:Heap}{D:Led}{s:Shared}
variable{A:Around}{E:Value->Shared->Prop}{Q:Value->Shared->Prop}
theorem lU{e:Expr}(h:isSlice e=false)(o i:Value):subscripted e false o i=operate [o,i] (getItem o i):=by
 cases e<;> first|rfl|exact Bool.noConfusion (h:true=false)
theorem eW{α:Type}{xs:List α}(h:dO xs=true):xs.length<100000:=UH h
theorem sF{α:Type}{xs:List α}{i:Int}{x:α}(h:zB xs i=some x)(hx:xs.length<100000):
  -(2^63:Int)<=i/\i<2^63/\((0<=i/\xs[i.toNat]?=some x)\/(i<0/\-(xs.length:Int)<=i/\xs[(i+(xs.length:Int)).toNat]?=some x)):=by
 unfold zB at h
 split at h
 ·rename_i h0
  have:=(List.getElem?_eq_some_iff.mp h).1
  exact⟨by lia,by lia,.inl ⟨h0,h⟩⟩
 ·rename_i h0
  split at h
  ·rename_i h1
   refine⟨by lia,by lia,.inr ⟨by lia,h1,by rw[Int.add_comm];exact h⟩⟩
  ·cases h
theorem qS{i:Int}{n:Nat}(h0:0<=i)(h1:i<(n:Int)):seqIndex? i n=some i.toNat:=by
 have hn:¬ i<0:=by lia
 simp[seqIndex?,hn,h0,h1]
theorem seqIndex_neg{i:Int}{n:Nat}(h0:i<0)(h1:-(n:Int)<=i):seqIndex? i n=some (i+n).toNat:=by
 have h2:0<=i+(n:Int):=by lia
 have h3:i+(n:Int)<n:=by lia
 simp[seqIndex?,h0,h2];assumption
theorem item_list{l:Addr}{items:List Value}{xs:List V}{i:Int}{t:Tok}{r:V}{value slice:Expr}(hl:s.heap.IsList l items.toArray)(r1:dS W G xs items)(hx:dO xs=true)
  (h:zB xs i=some r)(hs:isSlice slice=false)(hQ:∀c,Rp W G r c->Q c s):wpAny (Md W) A (subscriptTail value slice (.ref l) (.int i t)) Q E s:=by
 have cw:=r1.length
 refine rS (λ h1 h2 h3=>?_)<|sF h (eW hx)
 refine tail_any hl.typeIs slot_list_getitem.lookup ?_ (lU hs _ _)
 rcases h3 with ⟨h4,h5⟩|⟨h4,h5,h6⟩
 ·refine aV (λ c e1 e2=>?_)<|r1.get h5
  exact wpAny_getItem_list hl h4 h2 (by simpa using e1) (hQ c e2)
 ·refine aV (λ c e1 e2=>?_)<|r1.get h6
  exact wpAny_getItem_list_neg hl h4 (by simpa [cw] using h5) h1 (by simpa [cw] using e1) (hQ c e2)
theorem item_tup{l:Addr}{items:List Value}{xs:List V}{i:Int}{t:Tok}{r:V}{value slice:Expr}(hl:IsTup s.heap l items.toArray)(r1:dS W G xs items)(hx:dO xs=true)
  (h:zB xs i=some r)(hs:isSlice slice=false)(hQ:∀c,Rp W G r c->Q c s):wpAny (Md W) A (subscriptTail value slice (.ref l) (.int i t)) Q E s:=by
 have cw:=r1.length
 have pk:=eW hx
 refine rS (λ h1 h2 h3=>?_)<|sF h pk
 refine tail_any (T:="tuple") (by refine fY (λ o e1 e2 _=>?_) hl;clear hl;exact⟨o,e1,e2⟩) F.slot_tuple_getitem.lookup ?_ (lU hs _ _)
 rcases h3 with ⟨h4,h5⟩|⟨h4,h5,h6⟩
 ·refine aV (λ c e1 e2=>?_)<|r1.get h5
  have gA:=(List.getElem?_eq_some_iff.mp e1).1
  exact getItem_tuple (j:=i.toNat) hl h1 h2 (qS h4 (by simp only [List.size_toArray];lia)) (by simpa using e1) (hQ c e2)
 ·refine aV (λ c e1 e2=>?_)<|r1.get h6
  exact getItem_tuple (j:=(i+(xs.length:Int)).toNat) hl h1 h2 (by rw[List.size_toArray,cw];exact seqIndex_neg h4 h5) (by simpa using e1) (hQ c e2)
theorem vg{b:List UInt8}{i:Int}{t u:Tok}{r:V}{value slice:Expr}(h:(if 0<=i/\dO b then (b[i.toNat]?).map λ x=>V.int x.toNat else none)=some r)(hs:isSlice slice=false)
  (hQ:∀c t,Rp W G r c->Q c { s with toks:=t }):wpAny (Md W) A (subscriptTail value slice (.bytes b.toArray u) (.int i t)) Q E s:=by
 split at h
 ·rename_i hx
  refine aV (λ y q e=>?_)<|Option.map_eq_some_iff.mp h
  have gA:=(List.getElem?_eq_some_iff.mp q).1
  have hb:=eW hx.2
  have h0:=hx.1
  refine tail_any (typeIs_bytes s _ u) FB.slot_bytes_getitem.lookup ?_ (lU hs _ _)
  refine getItem_bytes (by exact J4 ‹_› (by decide)) h0 (by lia) ?_
  have:b.getD i.toNat 0=y:=by rw[List.getD_eq_getElem?_getD,q];rfl
  rw[this]
  exact hQ _ _ (e▸c0)
 ·exact bj h
theorem lV{a i r:V}{ca ci:Value}{value slice:Expr}(h:cV a i=some r)(x:St W G D s)(ra:Rp W G a ca)(ri:Rp W G i ci)(hs:isSlice slice=false)
  (hQ:∀c t,Rp W G r c->Q c { s with toks:=t }):wpAny (Md W) A (subscriptTail value slice ca ci) Q E s:=by
 cases i with
 |int i=>
  refine bJ (λ t e1=>?_)<|ei ri
  rw[e1]
  cases a with
  |seq tp xs=>
   refine ew (λ l items e2 s1 r1=>?_)<|ej ra
   rw[e2]
   have h2:(if dO xs then zB xs i else none)=some r:=h
   split at h2
   ·rename_i hx
    cases tp with
    |false=>exact item_list (x.seq s1).isList r1 hx h2 hs λ c rc=>hQ c s.toks rc
    |true=>exact item_tup (x.seq s1).isTup r1 hx h2 hs λ c rc=>hQ c s.toks rc
   ·exact bj h2
  |bytes b=>
   refine bJ (λ u e2=>?_)<|dA ra
   rw[e2]
   exact vg h hs hQ
  |_=>exact bj h
 |_=>exact bj h
theorem pQ{l:Addr}{items:List Value}{xs:List V}(hl:s.heap.IsList l items.toArray)(r1:dS W G xs items)(hx:dO xs=true)
  (hQ:∀c t,Rp W G (.int xs.length) c->Q c { s with toks:=t }):wpAny (Md W) A (call (.builtin "len") [.ref l]) Q E s:=by
 have cw:=r1.length
 have:=eW hx
 refine call_len_list hl (by simp only [List.size_toArray];lia) ?_
 simp only [List.size_toArray,cw]
 exact hQ _ _ c0
theorem pR{a r:V}{ca:Value}(h:eH a=some r)(x:St W G D s)(ra:Rp W G a ca)(hQ:∀c t,Rp W G r c->Q c { s with toks:=t }):
  wpAny (Md W) A (call (.builtin "len") [ca]) Q E s:=by
 cases a with
 |seq tp xs=>
  refine d8 (λ hx e=>?_)<|aO h
  rw[e] at hQ
  refine ew (λ l items e1 s1 r1=>?_)<|ej ra
  rw[e1]
  cases tp with
  |false=>exact pQ (x.seq s1).isList r1 hx hQ
  |true=>
   have cw:=r1.length
   have:=eW hx
   refine len_tuple (x.seq s1).isTup (by simp only [List.size_toArray];lia) ?_
   simp only [List.size_toArray,cw]
   exact hQ _ _ c0
 |bytes b=>
  refine d8 (λ hx e=>?_)<|aO h
  rw[e] at hQ
  have:=eW hx
  refine bJ (λ t e1=>?_)<|dA ra
  rw[e1]
  refine len_bytes (by simp only [List.size_toArray];exact J4 ‹_› (by decide)) ?_
  simp only [List.size_toArray]
  exact hQ _ _ c0
 |_=>exact bj h
theorem yg{i:Int}{ca:Value}(ra:Rp W G (.int i) ca)(hQ:∀c t,Rp W G (.int i.natAbs) c->Q c { s with toks:=t }):wpAny (Md W) A (call (.builtin "abs") [ca]) Q E s:=by
 simp only [Rp,Rep] at ra
 refine bJ (λ t z1=>?_) ra;clear ra;subst z1
 refine call_abs_int λ u tk=>hQ _ tk ?_
 have:(if i<0 then -i else i)=(i.natAbs:Int):=by split<;> lia
 rw[this];exact c0
theorem yh{i j:Int}{ca cb:Value}(hh:A.handled=none)(x:St W G D s)(ra:Rp W G (.int i) ca)(rb:Rp W G (.int j) cb){L m}(hL:(L,.ns m)∈D)
  (hQ:∀c s',St W G D s'->Rp W G (.int (if i<j then j else i)) c->Q c s'):wpAny (Md W) A (call (.builtin "max") [ca,cb]) Q E s:=by
 simp only [Rp,Rep] at ra rb
 refine bJ (λ t z1=>?_) ra;clear ra;subst z1
 refine bJ (λ u z1=>?_) rb;clear rb;subst z1
 refine d8 (λ F N=>?_)<|adapt (x.led.has _ hL)
 exact max_two_N hh F N λ h' tk F' N'=>hQ _ _ (x.back hL F' N' λ p hp=>hp) c0
theorem yi{i j:Int}{ca cb:Value}(hh:A.handled=none)(x:St W G D s)(ra:Rp W G (.int i) ca)(rb:Rp W G (.int j) cb){L m}(hL:(L,.ns m)∈D)
  (hQ:∀c s',St W G D s'->Rp W G (.int (if j<i then j else i)) c->Q c s'):wpAny (Md W) A (call (.builtin "min") [ca,cb]) Q E s:=by
 simp only [Rp,Rep] at ra rb
 refine bJ (λ t z1=>?_) ra;clear ra;subst z1
 refine bJ (λ u z1=>?_) rb;clear rb;subst z1
 refine d8 (λ F N=>?_)<|adapt (x.led.has _ hL)
 exact min_two_N hh F N λ h' tk F' N'=>hQ _ _ (x.back hL F' N' λ p hp=>hp) c0
theorem kZ{a:V}{xs:List V}(h:r8 a=some xs):a= .seq false xs/\dO xs=true:=by
 cases a with
 |seq t ys=>
  cases t with
  |true=>exact bj h
  |false=>refine d8 (λ h1 h2=>?_)<|aO h;rw[h2];exact⟨rfl,h1⟩
 |_=>exact bj h
theorem yj{a r:V}{ca:Value}(h:uD a=some r)(hh:A.handled=none)(x:St W G D s)(ra:Rp W G a ca){L m}(hL:(L,.ns m)∈D)
  (hQ:∀c s',St W G D s'->Rp W G r c->Q c s'):wpAny (Md W) A (call (.builtin "sum") [ca]) Q E s:=by
 refine aV (λ xs h1 h2=>?_)<|Option.bind_eq_some_iff.mp h
 refine aV (λ ns q e=>?_)<|Option.map_eq_some_iff.mp h2
 refine d8 (λ e1 _=>?_)<|kZ h1
 rw[e1] at ra
 refine ew (λ l items e2 s1 r1=>?_)<|ej ra
 refine d8 (λ F N=>?_)<|adapt (x.led.has _ hL)
 rw[e2]
 exact sumK hh F N (x.seq s1).isList (kW q r1) λ h' tk t' F' N'=>hQ _ _ (x.back hL F' N' λ p hp=>hp) (e▸c0)
theorem EM{ns:List Int}{i:Int}(h:Em ns=some i):ns=[i]/\0<=i/\i<256:=by
 cases ns with
 |nil=>exact bj h
 |cons j r=>cases r with
  |nil=>refine d8 (λ h1 h2=>?_)<|aO h;rw[h2];exact⟨rfl,h1⟩
  |cons _ _=>exact bj h
theorem sG{a r:V}{ca:Value}(h:kk a=some r)(hh:A.handled=none)(x:St W G D s)(ra:Rp W G a ca)
  (hQ:∀c s',St W G D s'->Rp W G r c->Q c s'):wpAny (Md W) A (call (.type "bytes") [ca]) Q E s:=by
 refine aV (λ xs h1 h2=>?_)<|Option.bind_eq_some_iff.mp h
 refine aV (λ ns q h3=>?_)<|Option.bind_eq_some_iff.mp h2
 refine aV (λ i h4 e=>?_)<|Option.map_eq_some_iff.mp h3
 refine d8 (λ e1 _=>?_)<|kZ h1
 refine d8 (λ e3 hi=>?_)<|EM h4
 rw[e1] at ra
 rw[e3] at q
 refine ew (λ l items e2 s1 r1=>?_)<|ej ra
 have hn:=kW q r1
 have hl:items.length=1:=hn.length
 rw[e2]
 refine call_bytes_ints (x.seq s1).isList hn (λ n MM=>by rw[List.mem_singleton.mp MM];exact hi) (by rw[hl];decide) hh λ h' t k hk=>?_
 exact hQ _ _ (x.keeps hk) (e▸jK)
theorem Ef(l:List Value)(lo hi:Option Int):(pick l lo hi)=kms_pick l lo hi:=rfl
theorem aL.pick{xs:List V}{cs:List Value}(r:dS W G xs cs)(lo hi:Option Int):dS W G (Mine.pick xs lo hi) (Mine.pick cs lo hi):=by
 unfold Mine.pick
 rw[r.length]
 exact(r.drop _).take _
theorem wz(x:Int)(n:Nat):(if x<0 then n-(-x).toNat else min x.toNat n)=clipAt n x:=by
 unfold clipAt
 by_cases h:x<0
 ·rw[if_pos h,if_pos h,Int.min_eq_left (by lia)]
  rcases Int.le_total 0 (x+n) with k|k
  ·rw[Int.max_eq_right k,<-Int.toNat_sub,Int.toNat_of_nonneg (Int.neg_nonneg_of_nonpos (Int.le_of_lt h)),Int.sub_neg,Int.add_comm]
  ·rw[Int.max_eq_left k,<-Int.toNat_sub,Int.toNat_of_nonneg (Int.neg_nonneg_of_nonpos (Int.le_of_lt h)),Int.sub_neg,Int.add_comm,Int.toNat_of_nonpos k];rfl
 ·have h':=Int.not_lt.mp h
  rw[if_neg h,if_neg h]
  rcases Int.le_total x n with k|k
  ·rw[Int.min_eq_left k,Int.max_eq_right h',Nat.min_eq_left (by lia)]
  ·rw[Int.min_eq_right k,Int.max_eq_right (by exact mv (Nat.zero_le _)),Nat.min_eq_right (by lia),Int.toNat_natCast]
theorem yk(lo:Option Int)(n:Nat):kms_lo lo n=lo.elim 0 (clipAt n):=by
 cases lo with
 |none=>rfl
 |some x=>exact wz x n
theorem yl(hi:Option Int)(n:Nat):kms_hi hi n=hi.elim n (clipAt n):=by
 cases hi with
 |none=>rfl
 |some x=>exact wz x n
theorem sH(b:List UInt8)(lo hi:Option Int):KBy.picked b.toArray lo hi=(Mine.pick b lo hi).toArray:=by
 rw[KBc.picked_eq]
 simp only [List.size_toArray,Mine.pick,yk,yl]
theorem cB(h:Heap)(o:Obj):∀b o',h.get? b=some o'->(h.push o).get? b=some o':=λ _ _ e=>UQ _ e
theorem AU{xs:List V}{l:Addr}{its:List Value}{lo hi:Option Int}{vl vu:Value}{value:Expr}{e1 e2:Option Expr}{p:Pos}(x:St W G D s)(hl:s.heap.IsList l its.toArray)(r1:dS W G xs its)(hx:dO xs=true)
  (pl:IsPart vl lo)(pu:IsPart vu hi)
  (hQ:∀a items s',St W G D s'->s'.heap.IsList a (List.toArray items)->a∉aQ D->dS W G (Mine.pick xs lo hi) items->Q (.ref a) s'):
  wpAny (Md W) A (subscriptTail value (.Slice e1 e2 none p) (.ref l) (.ref s.heap.objs.size)) Q E { s with heap:=s.heap.push { cls:= .type "slice",data:= .fields #[vl,vu,.none] } }:=by
 have cw:=r1.length
 have:=eW hx
 have k1:=cB s.heap { cls:= .type "slice",data:= .fields #[vl,vu,.none] }
 have ye:(s.heap.push { cls:= .type "slice",data:= .fields #[vl,vu,.none] }).IsList l its.toArray:=by
  refine aV (λ o e1 e2=>?_) hl;clear hl;exact⟨o,k1 _ _ e1,e2⟩
 refine tail_any (ops:=[.ref s.heap.objs.size,.ref l]) ye.typeIs slot_list_getitem.lookup ?_ rfl
 refine wpAny_getItem_list_slice ye (Heap.IsSliceOf.new _ _ _ _) pl pu .none (by decide) ?_ (by simp only [List.size_toArray];rw[sizeLine_eq];lia)
 have x1:St W G D { s with heap:=s.heap.push { cls:= .type "slice",data:= .fields #[vl,vu,.none] } }:=x.keeps (t:=s.toks) k1
 have k2:=cB (s.heap.push { cls:= .type "slice",data:= .fields #[vl,vu,.none] }) { cls:=Value.type "list",data:=Data.seq (slicePick its.toArray lo hi none) }
 have x2:=x1.keeps (t:=s.toks) k2
 refine hQ _ (Mine.pick its lo hi) _ x2 ⟨_,Heap.get?_push_size _ rfl,rfl,0,by rw[kms_pick_eq];rfl⟩ (cW x1.led) (r1.pick lo hi)
theorem ym{b:List UInt8}{lo hi:Option Int}{vl vu:Value}{t:Tok}{value:Expr}{e1 e2:Option Expr}{p:Pos}(x:St W G D s)(hx:dO b=true)(pl:IsPart vl lo)(pu:IsPart vu hi)
  (hQ:∀c s',St W G D s'->Rp W G (.bytes (Mine.pick b lo hi)) c->Q c s'):
  wpAny (Md W) A (subscriptTail value (.Slice e1 e2 none p) (.bytes b.toArray t) (.ref s.heap.objs.size)) Q E { s with heap:=s.heap.push { cls:= .type "slice",data:= .fields #[vl,vu,.none] } }:=by
 have:=eW hx
 have k1:=cB s.heap { cls:= .type "slice",data:= .fields #[vl,vu,.none] }
 refine tail_any (ops:=[.ref s.heap.objs.size,.bytes b.toArray t]) (typeIs_bytes _ _ _) FB.slot_bytes_getitem.lookup ?_ rfl
 refine getItem_meets (typeIs_bytes _ _ _) (by decide) FB.slot_bytes_getitem FB.entry_bytes_getitem (FB.args_bytes_getitem_2 _ _) (KBc.meets_slice2 b.toArray t _ pl pu)
  ⟨Heap.IsSliceOf.new _ _ _ _,Nat.le_trans (KBc.size_picked_le b.toArray lo hi) (by simp only [List.size_toArray];rw[sizeLine_eq];exact J4 ‹_› (by decide)),λ t' k=>?_⟩
 refine hQ _ _ (x.keeps (t:=k) k1) ?_
 rw[sH];exact jK
theorem AV{xs:List V}{l:Addr}{its:List Value}{st:Value}{value:Expr}{e3:Expr}{p:Pos}(x:St W G D s)(hl:s.heap.IsList l its.toArray)(r1:dS W G xs its)(hx:dO xs=true)
  (ps:IsPart st (some (-1)))
  (hQ:∀a items s',St W G D s'->s'.heap.IsList a (List.toArray items)->a∉aQ D->dS W G xs.reverse items->Q (.ref a) s'):
  wpAny (Md W) A (subscriptTail value (.Slice none none (some e3) p) (.ref l) (.ref s.heap.objs.size)) Q E { s with heap:=s.heap.push { cls:= .type "slice",data:= .fields #[.none,.none,st] } }:=by
 have cw:=r1.length
 have:=eW hx
 have k1:=cB s.heap { cls:= .type "slice",data:= .fields #[.none,.none,st] }
 have ye:(s.heap.push { cls:= .type "slice",data:= .fields #[.none,.none,st] }).IsList l its.toArray:=by
  refine aV (λ o e1 e2=>?_) hl;clear hl;exact⟨o,k1 _ _ e1,e2⟩
 refine tail_any (ops:=[.ref l,.ref s.heap.objs.size]) ye.typeIs slot_list_getitem.lookup ?_ rfl
 refine wpAny_getItem_list_slice ye (Heap.IsSliceOf.new _ _ _ _) .none .none ps (by decide) ?_ (by simp only [List.size_toArray];rw[sizeLine_eq];lia)
 have x1:St W G D { s with heap:=s.heap.push { cls:= .type "slice",data:= .fields #[.none,.none,st] } }:=x.keeps (t:=s.toks) k1
 have k2:=cB (s.heap.push { cls:= .type "slice",data:= .fields #[.none,.none,st] }) { cls:=Value.type "list",data:=Data.seq (slicePick its.toArray none none (some (-1))) }
 have x2:=x1.keeps (t:=s.toks) k2
 refine hQ _ its.reverse _ x2 ⟨_,Heap.get?_push_size _ rfl,rfl,0,by rw[krv_pick]⟩ (cW x1.led) r1.reverse
theorem lW{a r:V}{ca:Value}{lo hi:Option Int}{vl vu:Value}{value:Expr}{e1 e2:Option Expr}{p:Pos}(h:fZ lo hi a=some r)(x:St W G D s)(ra:Rp W G a ca)(pl:IsPart vl lo)(pu:IsPart vu hi)
  (hQ:∀G' c s',St W G' D s'->G.StaysIn G'->Rp W G' r c->Q c s'):
  wpAny (Md W) A (subscriptTail value (.Slice e1 e2 none p) ca (.ref s.heap.objs.size)) Q E { s with heap:=s.heap.push { cls:= .type "slice",data:= .fields #[vl,vu,.none] } }:=by
 cases a with
 |seq tp xs=>
  cases tp with
  |true=>exact bj h
  |false=>
   refine d8 (λ hx e=>?_)<|aO h
   rw[e] at hQ
   refine ew (λ l items e1 s1 r1=>?_)<|ej ra
   rw[e1]
   refine AU x (x.seq s1).isList r1 hx pl pu λ a items s' y hl ha r=>?_
   refine rS (λ y' k r'=>?_)<|y.frozen (SeqAt.ofList hl) ha r
   exact hQ _ _ _ y' k r'
 |bytes b=>
  refine d8 (λ hx e=>?_)<|aO h
  rw[e] at hQ
  refine bJ (λ t e1=>?_)<|dA ra
  rw[e1]
  exact ym x hx pl pu λ c s' y r=>hQ _ _ _ y (StaysIn.refl _) r
 |_=>exact bj h
theorem yn{a r:V}{ca:Value}{st:Value}{value:Expr}{e3:Expr}{p:Pos}(h:xU a=some r)(x:St W G D s)(ra:Rp W G a ca)(ps:IsPart st (some (-1)))
  (hQ:∀G' c s',St W G' D s'->G.StaysIn G'->Rp W G' r c->Q c s'):
  wpAny (Md W) A (subscriptTail value (.Slice none none (some e3) p) ca (.ref s.heap.objs.size)) Q E { s with heap:=s.heap.push { cls:= .type "slice",data:= .fields #[.none,.none,st] } }:=by
 refine aV (λ xs h1 e=>?_)<|Option.map_eq_some_iff.mp h
 refine d8 (λ e1 hx=>?_)<|kZ h1
 rw[e1] at ra
 rw[<-e] at hQ
 refine ew (λ l items e2 s1 r1=>?_)<|ej ra
 rw[e2]
 refine AV x (x.seq s1).isList r1 hx ps λ a items s' y hl ha r=>?_
 refine rS (λ y' k r'=>?_)<|y.frozen (SeqAt.ofList hl) ha r
 exact hQ _ _ _ y' k r'
end Mine
end
section
open PySem PySem.W PyProof.Rows PySem.Calls PySem.SeqAt
namespace Mine
set_option genCtorIdx true in
inductive Pl where
 |ai (L:Addr) (nm:Str)
 |gd (a:Addr)
 deriving DecidableEq
structure Cx where
 A:Around
 env:Env
 pl:List (Option Pl)
 stack:List Env
 aD:Addr
noncomputable def Pl.addr:Pl->Addr
 | .ai L _=>L
 | .gd a=>a
noncomputable def At(G:Heap)(D:Led):Pl->Value->Prop
 | .ai L nm,c=>∃m,(L,MO.ns m)∈D/\m nm=some c
 | .gd a,c=>(a,MO.cell (some c))∈D\/G.IsCell a (some c)
noncomputable def vh(D:Led):Pl->Prop
 | .ai L _=>∃m,(L,MO.ns m)∈D
 | .gd a=>∃v,(a,MO.cell v)∈D
noncomputable def i4(W:Wd)(bo:Addr)(G:Heap)(D:Led)(i:Nat):Option Pl->Slot->Prop
 |_,.af=>True
 |some p,.val v=>∃c,At G D p c/\Rp W G v c
 |some p,.own xs=>∃a items,At G D p (.ref a)/\(a,MO.list i items)∈D/\dS W G xs items
 |some p,.aD xs=>∃items,At G D p (.ref bo)/\(bo,MO.list i items)∈D/\dS W G xs items
 |none,_=>False
noncomputable def dT(W:Wd)(stack:List Env)(D:Led):Prop:=(∀env∈stack,env.scope.kind≠ .module/\∃L m,env.frame=some L/\(L,MO.ns m)∈D)/\∀q∈W.tabs,(q.2.1,MO.tab q.2.2)∈D
structure Rel(W:Wd)(cx:Cx)(rw:Bool)(G:Heap)(D O:Led)(sl:List Slot)(s:Shared):Prop where
 st:St W G (D++O) s
 len:sl.length=cx.pl.length
 slots:∀(i:Nat) x p,sl[i]?=some x->cx.pl[i]?=some p->i4 W cx.aD G D i p x
 place:rw=true->∀(i:Nat) p,cx.pl[i]?=some (some p)->vh D p
 frames:dT W cx.stack (D++O)
 here:∃m,(cx.env.locals,MO.ns m)∈D
noncomputable def H5(env:Env)(nm:Str)(p:Pl):Prop:=
 (env.kindOf nm=some .local->p= .ai env.locals nm)/\
 (∀k,(k=NameKind.cell\/k=NameKind.free)->env.kindOf nm=some k->∃a,env.cells.lookup nm=some a/\p= .gd a)
structure bS(W:Wd)(cx:Cx)(g:bQ):Prop where
 scope:cx.env.scope=g.scope
 kind:g.scope.kind= .function
 globals:cx.env.globals=mainGlobals
 builtins:cx.env.builtins=builtinsNs
 len:cx.pl.length=g.names.length
 acc:∀(i:Nat) nm p,g.names[i]?=some nm->cx.pl[i]?=some (some p)->H5 cx.env nm p
 inj:g.rw=true->∀(i j:Nat) p,cx.pl[i]?=some (some p)->cx.pl[j]?=some (some p)->i=j
 hh:g.q=true->cx.A.handled=none
 frames:cx.A.frames=some cx.stack
 top:∃fe outer,cx.stack=fe::outer/\cx.env.frame=fe.frame
 cells:∀nm,g.kind nm=some .cell->∃a,cx.env.cells.lookup nm=some a
 nd:∀(i j:Nat) nm,g.names[i]?=some nm->g.names[j]?=some nm->i=j
 tg:∀i∈g.tg,cx.pl[i]?=some none
 dJ:∀(i:Nat) nm,g.names[i]?=some nm->(g.kind nm=some .local\/g.kind nm=some .cell)->∃p,cx.pl[i]?=some (some p)
 code:g.lam=true->∃c P,(c,P,cx.env.qual++("<lambda>":Str))∈W.tabs/\cx.env.code= .ref c
variable{W:Wd}{cx:Cx}{g:bQ}{rw:Bool}{G G':Heap}{D O:Led}{sl:List Slot}{s:Shared}
variable{A:Around}{E:Value->Shared->Prop}
theorem At.mono{p:Pl}{c:Value}(h:At G D p c)(k:G.StaysIn G'):At G' D p c:=by
 cases p with
 |ai L nm=>exact h
 |gd a=>exact h.imp id λ x=>x.keeps k
theorem i4.mono{bo:Addr}{i:Nat}{p:Option Pl}{x:Slot}(h:i4 W bo G D i p x)(k:G.StaysIn G'):i4 W bo G' D i p x:=by
 cases x with
 |af=>cases p<;> trivial
 |val v=>cases p with
  |none=>exact h
  |some p=>refine aV (λ c h1 h2=>?_) h;clear h;exact⟨c,h1.mono k,Rep.keeps k _ h2⟩
 |own xs=>cases p with
  |none=>exact h
  |some p=>refine ew (λ a it h1 h2 h3=>?_) h;clear h;exact⟨a,it,h1.mono k,h2,aL.keeps k _ h3⟩
 |aD xs=>cases p with
  |none=>exact h
  |some p=>refine fY (λ it h1 h2 h3=>?_) h;clear h;exact⟨it,h1.mono k,h2,aL.keeps k _ h3⟩
theorem Rel.mono(x:Rel W cx rw G D O sl s){s':Shared}(y:St W G' (D++O) s')(k:G.StaysIn G'):Rel W cx rw G' D O sl s':=
 ⟨y,x.len,λ i z p h1 h2=>(x.slots i z p h1 h2).mono k,x.place,x.frames,x.here⟩
theorem Rel.tok(x:Rel W cx rw G D O sl s){t:Nat}:Rel W cx rw G D O sl { s with toks:=t }:=x.mono x.st.tok (StaysIn.refl _)
theorem Rel.keeps(x:Rel W cx rw G D O sl s){h':Heap}{t:Nat}(k:∀b o,s.heap.get? b=some o->h'.get? b=some o):Rel W cx rw G D O sl { s with heap:=h',toks:=t }:=
 x.mono (x.st.keeps k) (StaysIn.refl _)
theorem Rel.drop(x:Rel W cx rw G D O sl s):Rel W cx rw G D O (sl.map λ _=> .af) s:=
 ⟨x.st,by simpa using x.len,λ i z p h1 _=>by
  rw[List.getElem?_map] at h1
  cases q:sl[i]? with
  |none=>rw[q] at h1;exact bj h1
  |some y=>rw[q] at h1;replace h1:=si h1;subst h1;cases p<;> trivial,x.place,x.frames,x.here⟩
theorem Rel.setUnset(x:Rel W cx rw G D O sl s)(i:Nat):Rel W cx rw G D O (sl.set i .af) s:=
 ⟨x.st,by simpa using x.len,λ j z p h1 h2=>by
  rw[List.getElem?_set] at h1
  split at h1
  ·split at h1
   ·replace h1:=si h1;subst h1;cases p<;> trivial
   ·exact bj h1
  ·exact x.slots j z p h1 h2,x.place,x.frames,x.here⟩
theorem Rel.get(x:Rel W cx rw G D O sl s){i:Nat}{z:Slot}(h:sl[i]?=some z)(hz:z≠ .af):∃p,cx.pl[i]?=some (some p)/\i4 W cx.aD G D i (some p) z:=by
 have gA:=(List.getElem?_eq_some_iff.mp h).1
 rw[x.len] at gA
 have hp:=UT gA
 have:=x.slots i z _ h hp
 cases q:cx.pl[i] with
 |none=>
  rw[q] at this
  cases z with
  |af=>exact absurd rfl hz
  |val v=>exact this.elim
  |own xs=>exact this.elim
  |aD xs=>exact this.elim
 |some p=>rw[q] at this hp;exact⟨p,hp,this⟩
theorem lX{i:Nat}{id:Str}(h:g.acc i id=true):g.names[i]?=some id/\(id==("__debug__":Str))=false/\(id==("__classdict__":Str))=false/\(g.kind id=some .local\/g.kind id=some .cell\/g.kind id=some .free):=by
 unfold bQ.acc iu at h
 simp only [Bool.and_eq_true,Bool.not_eq_true',decide_eq_true_eq] at h
 obtain⟨⟨h1,h2,h3⟩,h4⟩:=h
 refine⟨h1,h2,h3,?_⟩
 split at h4
 ·rename_i e;exact .inl e
 ·rename_i e;exact .inr (.inl e)
 ·rename_i e;exact .inr (.inr e)
 ·exact kh h4
theorem lY{i:Nat}{id:Str}(h:g.de i id=true):g.rw=true/\g.names[i]?=some id/\(id==("__debug__":Str))=false/\(g.kind id=some .local\/g.kind id=some .cell):=by
 unfold bQ.de iu at h
 simp only [Bool.and_eq_true,Bool.not_eq_true',decide_eq_true_eq] at h
 obtain⟨⟨⟨h0,h1⟩,h2,h3⟩,h4⟩:=h
 refine⟨h0,h1,h2,?_⟩
 split at h4
 ·rename_i e;exact .inl e
 ·rename_i e;exact .inr e
 ·exact kh h4
theorem wA(C:bS W cx g)(x:Rel W cx rw G D O sl s){i:Nat}{id:Str}{p:Pl}{c:Value}{Q:Value->Shared->Prop}(h:g.acc i id=true)(hp:cx.pl[i]?=some (some p))(ha:At G D p c)(hQ:Q c s):
  wpAny (Md W) A (loadName cx.env id) Q E s:=by
 refine Ho (λ h1 h2 h3 h4=>?_)<|lX h
 refine d8 (λ k1 k2=>?_)<|C.acc i id p h1 hp
 have hk:cx.env.scope.kind= .function:=by rw[C.scope];exact C.kind
 have ek:cx.env.kindOf id=g.kind id:=by unfold Env.kindOf bQ.kind;rw[C.scope]
 rw[<-ek] at h4
 rcases h4 with h4|h4|h4
 ·rw[k1 h4] at ha
  refine aV (λ m e1 e2=>?_) ha;clear ha
  exact wpAny_loadName_local hk h4 (x.st.led.has _ (UD _ e1)) e2 hQ
 ·refine aV (λ a e1 e2=>?_)<|k2 _ (.inl rfl) h4
  rw[e2] at ha
  refine wpAny_loadName_cell hk h4 e1 ?_ hQ
  rcases ha with ha|ha
  ·exact x.st.led.has _ (UD _ ha)
  ·exact ha.keeps x.st.led.stays
 ·refine aV (λ a e1 e2=>?_)<|k2 _ (.inr rfl) h4
  rw[e2] at ha
  refine wpAny_loadName_free hk h4 e1 ?_ hQ h3
  rcases ha with ha|ha
  ·exact x.st.led.has _ (UD _ ha)
  ·exact ha.keeps x.st.led.stays
theorem ed(C:bS W cx g)(x:Rel W cx rw G D O sl s){i:Nat}{id:Str}{pos:Pos}{p:Pl}{c:Value}{Q:Value->Shared->Prop}(h:g.acc i id=true)(hp:cx.pl[i]?=some (some p))(ha:At G D p c)(hQ:Q c s):
  wpAny (Md W) A (eval (.Name id pos) cx.env) Q E s:=wpAny_Name (wA C x h hp ha hQ) (lX h).2.1
theorem bD(D O:Led):aQ (D++O)=aQ D++aQ O:=List.map_append
theorem cA{D:Led}{a:Addr}{d:MO}(h:(a,d)∈D):a∈aQ D:=UR (f:=λ p:Addr×MO=>p.1) h
theorem k7(nd:((D++O).map (·.1)).Nodup){a:Addr}{d:MO}(h:a∈aQ D):Led.put (D++O) a d=Led.put D a d++O:=by
 rw[Led.ij,Led.dP (D:=O)]
 intro hO
 rw[List.map_append,List.nodup_append] at nd
 exact nd.2.2 a h a hO rfl
theorem gf(C:bS W cx g)(x:Rel W cx rw G D O sl s){i:Nat}{id:Str}{c:Value}{z:Slot}{Q:Unit->Shared->Prop}(AW:rw=g.rw)(h:g.de i id=true)(hi:i<sl.length)(mC:∃p,cx.pl[i]?=some (some p))
  (hz:match z with| .af=>True| .val v=>Rp W G v c| .own xs=>∃a items,c= .ref a/\(a,MO.list i items)∈D/\dS W G xs items| .aD xs=>False)
  (hQ:∀D' s',aQ D'=aQ D->(∀b d,(∀p,cx.pl[i]?=some (some p)->b≠p.addr)->(b,d)∈D->(b,d)∈D')->Rel W cx rw G D' O (sl.set i z) s'->Q () s'):wpAny (Md W) A (storeName cx.env id c) Q E s:=by
 refine Ho (λ h0 h1 h2 h4=>?_)<|lY h
 refine bJ (λ p hp=>?_) mC;clear mC
 refine d8 (λ k1 k2=>?_)<|C.acc i id p h1 hp
 have hk:cx.env.scope.kind= .function:=by rw[C.scope];exact C.kind
 have ek:cx.env.kindOf id=g.kind id:=by unfold Env.kindOf bQ.kind;rw[C.scope]
 have pin:=x.place (AW.trans h0) i p hp
 have nd:=x.st.led.nodup
 have mY:(D.map (·.1)).Nodup:=by rw[List.map_append,List.nodup_append] at nd;exact nd.1
 rw[<-ek] at h4
 have fin:∀(a:Addr) (d:MO) (h':Heap) (t:Nat),a=p.addr->a∈aQ D->Heap.ExtBut a s.heap h'->qv G h' a d->
   (∀q c',At G D q c'->q≠p->At G (Led.put D a d) q c')->At G (Led.put D a d) p c->(∀q,vh D q->vh (Led.put D a d) q)->(∀L m,(L,MO.ns m)∈D->∃m',(L,MO.ns m')∈Led.put D a d)->
   (∀b y,(∀m,y≠MO.ns m)->(∀m,y≠MO.cell m)->(b,y)∈D->(b,y)∈Led.put D a d)->
   Q () { s with heap:=h',toks:=t }:=by
  intro a d h' t QX ha hs hd fD KO zD qR AX
  have AY:∀b j it,(b,MO.list j it)∈D->(b,MO.list j it)∈Led.put D a d:=λ b j it hb=>AX b _ (λ _ e=>nomatch e) (λ _ e=>nomatch e) hb
  refine hQ (Led.put D a d) _ (Led.nJ D a d) (λ b d' hb hm=>Led.bB.mpr (.inl ⟨by rw[QX];exact hb p hp,hm⟩)) ⟨⟨?_,x.st.gD,x.st.top,x.st.gens,x.st.os⟩,by simpa using x.len,λ j y q e1 e2=>?_,λ e j q e1=>zD q (x.place e j q e1),⟨λ env he=>?_,λ q hq=>?_⟩,?_⟩
  ·rw[<-k7 nd ha]
   exact x.st.led.put hs (by rw[bD];exact UD _ ha) hd
  ·rw[List.getElem?_set] at e1
   split at e1
   ·rename_i mZ
    subst mZ
    try rw[if_pos hi] at e1
    replace e1:=si e1;subst e1
    rw[hp] at e2;cases e2
    cases z with
    |af=>trivial
    |val v=>exact⟨c,KO,hz⟩
    |own xs=>refine ew (λ b it z2 e3 e4=>?_) hz;clear hz;subst z2;exact⟨b,it,KO,AY _ _ _ e3,e4⟩
    |aD xs=>exact hz.elim
   ·rename_i mZ
    have ok:=x.slots j y q e1 e2
    cases q with
    |none=>cases y<;> first|trivial|exact ok
    |some q=>
     have et:q≠p:=λ e=>mZ (C.inj h0 i j p hp (e▸e2))
     cases y with
     |af=>trivial
     |val v=>refine aV (λ c' e3 e4=>?_) ok;clear ok;exact⟨c',fD q c' e3 et,e4⟩
     |own xs=>refine ew (λ b it e3 e4 e5=>?_) ok;clear ok;exact⟨b,it,fD q _ e3 et,AY _ _ _ e4,e5⟩
     |aD xs=>refine fY (λ it e3 e4 e5=>?_) ok;clear ok;exact⟨it,fD q _ e3 et,AY _ _ _ e4,e5⟩
  ·obtain⟨e1,L,m,e2,e3⟩:=x.frames.1 env he
   refine⟨e1,L,?_⟩
   rcases List.mem_append.mp e3 with e3|e3
   ·refine bJ (λ m' e4=>?_)<|qR L m e3;exact⟨m',e2,UD _ e4⟩
   ·exact⟨m,e2,UE _ e3⟩
  ·rcases List.mem_append.mp (x.frames.2 q hq) with e3|e3
   ·exact UD _ (AX _ _ (λ _ e=>nomatch e) (λ _ e=>nomatch e) e3)
   ·exact UE _ e3
  ·refine bJ (λ m e1=>?_)<|x.here
   exact qR _ _ e1
 rcases h4 with h4|h4
 ·have ep:=k1 h4
  subst ep
  refine bJ (λ m hm=>?_) pin;clear pin
  refine wpAny_storeName_local h4 (x.st.led.has _ (UD _ hm)) (λ h' hn hs=>?_) (by rw[hk];rfl)
  have ha:=cA hm
  refine fin cx.env.locals (.ns λ y=>if y=id then some c else m y) h' _ rfl ha hs.extBut hn (λ q c' hq et=>?_) ⟨_,Led.bB.mpr (.inr ⟨rfl,ha⟩),by simp⟩ (λ q hq=>?_) (λ L m' hq=>?_) (λ b y PE EN hb=>?_)
  ·cases q with
   |ai L nm=>
    refine aV (λ m' e1 e2=>?_) hq;clear hq
    by_cases eL:L=cx.env.locals
    ·subst eL
     have:=aG mY hm e1
     cases this
     have QY:nm≠id:=λ e=>et (by rw[e])
     exact⟨_,Led.bB.mpr (.inr ⟨rfl,ha⟩),by simp[QY,e2]⟩
    ·exact⟨m',Led.bB.mpr (.inl ⟨eL,e1⟩),e2⟩
   |gd a=>
    rcases hq with hq|hq
    ·refine .inl (Led.bB.mpr (.inl ⟨λ e=>?_,hq⟩))
     simp only at e;subst e
     have:=aG mY hm hq;cases this
    ·exact .inr hq
  ·cases q with
   |ai L nm=>
    refine bJ (λ m' e1=>?_) hq;clear hq
    by_cases eL:L=cx.env.locals
    ·subst eL;exact⟨_,Led.bB.mpr (.inr ⟨rfl,ha⟩)⟩
    ·exact⟨m',Led.bB.mpr (.inl ⟨eL,e1⟩)⟩
   |gd a=>
    refine bJ (λ v e1=>?_) hq;clear hq
    refine⟨v,Led.bB.mpr (.inl ⟨λ e=>?_,e1⟩)⟩
    simp only at e;subst e
    have:=aG mY hm e1;cases this
  ·by_cases eL:L=cx.env.locals
   ·subst eL;exact⟨_,Led.bB.mpr (.inr ⟨rfl,ha⟩)⟩
   ·exact⟨m',Led.bB.mpr (.inl ⟨eL,hq⟩)⟩
  ·refine Led.bB.mpr (.inl ⟨λ e=>?_,hb⟩)
   simp only at e;subst e
   exact PE _ (aG mY hb hm)
 ·refine aV (λ a ec ep=>?_)<|k2 _ (.inl rfl) h4
  subst ep
  refine bJ (λ v0 hm=>?_) pin;clear pin
  refine wpAny_storeName_cell hk h4 ec (x.st.led.has _ (UD _ hm)) λ h' hn hs=>?_
  have ha:=cA hm
  refine fin a (.cell (some c)) h' s.toks rfl ha hs.extBut hn (λ q c' hq et=>?_) (.inl (Led.bB.mpr (.inr ⟨rfl,ha⟩))) (λ q hq=>?_) (λ L m' hq=>?_) (λ b y PE EN hb=>?_)
  ·cases q with
   |ai L nm=>
    refine aV (λ m' e1 e2=>?_) hq;clear hq
    refine⟨m',Led.bB.mpr (.inl ⟨λ e=>?_,e1⟩),e2⟩
    simp only at e;subst e
    have:=aG mY hm e1;cases this
   |gd b=>
    rcases hq with hq|hq
    ·exact .inl (Led.bB.mpr (.inl ⟨λ e=>et (by simp only at e;rw[e]),hq⟩))
    ·exact .inr hq
  ·cases q with
   |ai L nm=>
    refine bJ (λ m' e1=>?_) hq;clear hq
    refine⟨m',Led.bB.mpr (.inl ⟨λ e=>?_,e1⟩)⟩
    simp only at e;subst e
    have:=aG mY hm e1;cases this
   |gd b=>
    refine bJ (λ v e1=>?_) hq;clear hq
    by_cases eb:b=a
    ·subst eb;exact⟨_,Led.bB.mpr (.inr ⟨rfl,ha⟩)⟩
    ·exact⟨v,Led.bB.mpr (.inl ⟨eb,e1⟩)⟩
  ·refine⟨m',Led.bB.mpr (.inl ⟨λ e=>?_,hq⟩)⟩
   simp only at e;subst e
   have:=aG mY hm hq;cases this
  ·refine Led.bB.mpr (.inl ⟨λ e=>?_,hb⟩)
   simp only at e;subst e
   exact EN _ (aG mY hb hm)
theorem yo(x:Rel W cx rw G D O sl s){i:Nat}{xs:List V}(h:sl[i]?=some (.own xs)):
  ∃G' D' p c,G.StaysIn G'/\(∀a d,(∀t it,d≠MO.list t it)->(a,d)∈D->(a,d)∈D')/\Rel W cx rw G' D' O (sl.set i (.val (.seq false xs))) s/\cx.pl[i]?=some (some p)/\At G D p c/\Rp W G' (.seq false xs) c:=by
 obtain⟨p,hp,a,it,h1,h2,h3⟩:=x.get h (by intro e;cases e)
 have nd:=x.st.led.nodup
 have mY:(D.map (·.1)).Nodup:=by rw[List.map_append,List.nodup_append] at nd;exact nd.1
 let D':=D.filter λ q=>decide (q.1≠a)
 have sub:List.Sublist (D'++O) (D++O):=List.Sublist.append List.filter_sublist (List.Sublist.refl _)
 have J9:St W G (D'++O) s:=⟨x.st.led.sub sub,x.st.gD,x.st.top,x.st.gens,x.st.os⟩
 have ha:a∉aQ (D'++O):=λ hm=>by
  rw[bD] at hm
  rcases List.mem_append.mp hm with hm|hm
  ·refine aV (λ q hq e=>?_)<|List.mem_map.mp hm
   have:=(List.mem_filter.mp hq).2
   simp[e] at this
  ·rw[List.map_append,List.nodup_append] at nd
   exact nd.2.2 a (cA h2) a hm rfl
 have hl:s.heap.IsList a it.toArray:=fu.isList (x.st.led.has (a,MO.list i it) (UD _ h2))
 refine rS (λ y k r=>?_)<|J9.frozen (SeqAt.ofList hl) ha h3
 have j6:∀b d,(b,d)∈D->b≠a->(b,d)∈D':=λ b d hb et=>List.mem_filter.mpr ⟨hb,by simpa using et⟩
 have neN:∀b m,(b,MO.ns m)∈D->b≠a:=λ b m hb e=>by subst e;have:=aG mY hb h2;cases this
 have PF:∀b m,(b,MO.cell m)∈D->b≠a:=λ b m hb e=>by subst e;have:=aG mY hb h2;cases this
 have fD:∀q c,At G D q c->At (hideAll s.heap (aQ (D'++O))) D' q c:=λ q c hq=>by
  cases q with
  |ai L nm=>refine aV (λ m e1 e2=>?_) hq;clear hq;exact⟨m,j6 _ _ e1 (neN _ _ e1),e2⟩
  |gd b=>
   rcases hq with hq|hq
   ·exact .inl (j6 _ _ hq (PF _ _ hq))
   ·exact .inr (hq.keeps k)
 refine⟨_,D',p,.ref a,k,λ b d hd hb=>j6 b d hb (λ e=>by subst e;exact hd _ _ (aG mY hb h2)),⟨y,by simpa using x.len,λ j z q e1 e2=>?_,λ e j q e1=>?_,⟨λ env he=>?_,λ q hq=>?_⟩,?_⟩,hp,h1,r⟩
 ·rw[List.getElem?_set] at e1
  split at e1
  ·rename_i mZ
   subst mZ
   split at e1
   ·cases e1
    rw[hp] at e2;cases e2
    exact⟨_,fD _ _ h1,r⟩
   ·exact bj e1
  ·rename_i mZ
   have ok:=x.slots j z q e1 e2
   have PG:∀b GC,(b,MO.list j GC)∈D->b≠a:=λ b GC hb e=>by
    subst e
    have:=aG mY hb h2
    cases this
    exact mZ rfl
   cases q with
   |none=>cases z<;> first|trivial|exact ok
   |some q=>
    cases z with
    |af=>trivial
    |val v=>refine aV (λ c e3 e4=>?_) ok;clear ok;exact⟨c,fD _ _ e3,Rep.keeps k _ e4⟩
    |own ys=>refine ew (λ b GC e3 e4 e5=>?_) ok;clear ok;exact⟨b,GC,fD _ _ e3,j6 _ _ e4 (PG _ _ e4),aL.keeps k _ e5⟩
    |aD ys=>refine fY (λ GC e3 e4 e5=>?_) ok;clear ok;exact⟨GC,fD _ _ e3,j6 _ _ e4 (PG _ _ e4),aL.keeps k _ e5⟩
 ·have:=x.place e j q e1
  cases q with
  |ai L nm=>refine bJ (λ m e1=>?_) this;clear this;exact⟨m,j6 _ _ e1 (neN _ _ e1)⟩
  |gd b=>refine bJ (λ m e1=>?_) this;clear this;exact⟨m,j6 _ _ e1 (PF _ _ e1)⟩
 ·obtain⟨e1,L,m,e2,e3⟩:=x.frames.1 env he
  refine⟨e1,L,m,e2,?_⟩
  rcases List.mem_append.mp e3 with e3|e3
  ·exact UD _ (j6 _ _ e3 (neN _ _ e3))
  ·exact UE _ e3
 ·rcases List.mem_append.mp (x.frames.2 q hq) with e3|e3
  ·exact UD _ (j6 _ _ e3 λ e=>by rw[e] at e3;have:=aG mY e3 h2;cases this)
  ·exact UE _ e3
 ·refine bJ (λ m e1=>?_)<|x.here
  exact⟨m,j6 _ _ e1 (neN _ _ e1)⟩
set_option tactic.hygienic true in
theorem EO(C:bS W cx g)(x:Rel W cx rw G D O sl s){i:Nat}{id:Str}{pos:Pos}{r:R V}{Q:Value->Shared->Prop}(h:g.acc i id=true)(hr:mw sl i=some r)
  (hQ:∀v a8,r= .ok v a8->∀G' D' c,G.StaysIn G'->(∀a d,(∀t it,d≠MO.list t it)->(a,d)∈D->(a,d)∈D')->Rel W cx rw G' D' O a8 s->Rp W G' v c->Q c s):wpAny (Md W) A (eval (.Name id pos) cx.env) Q E s:=by
 unfold mw at hr
 split at hr
 ·rename_i v e
  replace hr:=si hr;subst hr
  obtain⟨p,hp,c,h1,h2⟩:=x.get e (by intro e;cases e)
  exact ed C x h hp h1 (hQ _ _ rfl G D c (StaysIn.refl _) (λ _ _ _ h=>h) x h2)
 ·rename_i xs e
  replace hr:=si hr;subst hr
  refine Ng (λ G' D' p c k kd y hp ha r=>?_)<|yo x e
  exact ed C x h hp ha (hQ _ _ rfl G' D' c k kd y r)
 ·exact bj hr
end Mine
end
section
open PySem PySem.W PyProof.Rows PySem.Calls PySem.SeqAt
namespace Mine
structure WdOk(W:Wd):Prop where
 mx:∀p∈W.P.mx,∃c,nsIn W.K mainGlobals p.1=some (some c)/\∀G,W.K.In G->Rp W G p.2 c
 PH:∀nm∈W.P.qx,nsIn W.K mainGlobals nm=some none/\nm≠"__name__"
set_option genCtorIdx true in
inductive Tb where
 |fresh
 |at (fl:Value)
inductive GD(W:Wd)(G:Heap)(dx:Option Addr)(arg:V):Prop
 |no (h1:arg= .none) (h2:dx=none)
 |yes (d:Addr) (m:Str->Option Value) (v:Value) (h1:dx=some d) (h2:G.Ns d m) (h3:m "at"=some v) (h4:Rp W G arg v) (od:Obj) (h5:G.get? d=some od)
inductive yp(G:Heap)(D:Led)(h:Heap)(ea:Addr)(vs:Array Value)(fl:Value):Prop
 |mk (T:Addr) (oT:Obj) (ts:Array Value) (h1:vs[1]?=some (.ref T)) (h2:T≠ea) (h3:T∉aQ D) (h4:G.get? T=none) (h5:h.get? T=some oT) (h6:oT.data= .fields ts) (h7:ts[3]?=some fl)
noncomputable def Nr(G:Heap)(D:Led)(h:Heap)(ea:Addr)(vs:Array Value):Tb->Prop
 | .fresh=>vs[1]?=some .none
 | .at fl=>yp G D h ea vs fl
inductive mD(W:Wd)(G:Heap)(D:Led)(h:Heap)(ea C:Addr)(arg:V)(tb:Tb):Prop
 |mk (out:ea∉aQ D) (free:G.get? ea=none) (oe:Obj) (vs:Array Value) (he:h.get? ea=some oe) (hc:oe.cls= .ref C) (hd:oe.data= .fields vs) (jX:1<vs.size) (hx:GD W G oe.dict arg) (ht:Nr G D h ea vs tb)
noncomputable def Nt(cx:Cx)(tb:Tb):Prop:=tb= .fresh\/tb= .at .none\/∃L,cx.env.frame=some L/\tb= .at (rawInt L)
noncomputable def eP(W:Wd)(cx:Cx)(rw:Bool)(G:Heap)(O:Led)(C:Addr)(arg:V)(e:Value)(s:Shared):Prop:=
 ∃G' D' ea tb,e= .ref ea/\G.StaysIn G'/\Rel W cx rw G' D' O (cx.pl.map λ _=> .af) s/\mD W G' (D'++O) s.heap ea C arg tb/\Nt cx tb
theorem eP.mono{W:Wd}{cx:Cx}{rw:Bool}{G G':Heap}{O:Led}{C arg e s}(x:eP W cx rw G' O C arg e s)(k:G.StaysIn G'):eP W cx rw G O C arg e s:=
 let ⟨G2,D',ea,tb,h1,h2,h3⟩:=x;⟨G2,D',ea,tb,h1,StaysIn.trans k h2,h3⟩
noncomputable def dk(n:Nat)(A:Around):Prop:=A.depth+n+30<1000/\A.units+8*n+200<9900/\A.guards=some []
noncomputable def k8(W:Wd)(G:Heap):Callee->Addr->Prop
 | .fn a,f=>f=a
 | .lam k bM,f=>Rp W G (.lam k bM) (.ref f)
noncomputable def AZ(W:Wd)(G:Heap)(D:Led)(args:List Value):Option (List V)->Addr->Nat->List Value->Prop
 |none,_,_,full=>full=args
 |some xs,ab,tag,full=>full= .ref ab::args/\∃items,(ab,MO.list tag items)∈D/\dS W G xs items
noncomputable def qT(D:Led)(ab:Addr)(tag:Nat)(items:List Value):Option (List V)->Led
 |none=>D
 |some _=>Led.put D ab (.list tag items)
noncomputable def i5(W:Wd)(n:Nat)(call:Hd):Prop:=∀(c:Callee) (aD:Option (List V)) (args:List V) (res:Res),call c aD args=some res->
 ∀(A:Around) (G:Heap) (D:Led) (stack:List Env) (s:Shared) (f ab:Addr) (tag:Nat) (cH full:List Value) (Rr:Result->Shared->Prop),
  St W G D s->A.frames=some stack->dT W stack D->A.handled=none->dk n A->k8 W G c f->dS W G args cH->AZ W G D cH aD ab tag full->
  (match res with
   | .ok v b=>∀G' s' cv items,G.StaysIn G'->St W G' (qT D ab tag items aD) s'->dS W G' b items->Rp W G' v cv->Rr (.ok (.ret cv)) s'
   | .exc C arg=>∀G' s' ea,aD=none->G.StaysIn G'->St W G' D s'->mD W G' D s'.heap ea C arg (.at .none)->Rr (.error (.ref ea)) s')->
  codeAny (Md W) A (.call (.ref f) ⟨full,[]⟩) Rr s
noncomputable def bF(D D':Led):Prop:=∀a d,(∀t it,d≠MO.list t it)->(a,d)∈D->(a,d)∈D'
theorem bF.refl(D:Led):bF D D:=λ _ _ _ h=>h
theorem bF.trans{D D' iw:Led}(x:bF D D')(y:bF D' iw):bF D iw:=λ a d h h'=>y a d h (x a d h h')
noncomputable def cM{α β:Type}(W:Wd)(cx:Cx)(rw:Bool)(G:Heap)(D O:Led)(rep:Heap->α->β->Prop)(Q:β->Shared->Prop)(E:Value->Shared->Prop):R α->Prop
 | .ok v sl=>∀G' D' c s',G.StaysIn G'->bF D D'->Rel W cx rw G' D' O sl s'->rep G' v c->Q c s'
 | .exc C arg=>∀e s',eP W cx rw G O C arg e s'->E e s'
theorem cM.mono{α β:Type}{W:Wd}{cx:Cx}{rw:Bool}{G G':Heap}{D D' O:Led}{rep:Heap->α->β->Prop}{Q:β->Shared->Prop}{E:Value->Shared->Prop}{r:R α}
  (x:cM W cx rw G D O rep Q E r)(k:G.StaysIn G')(kd:bF D D'):cM W cx rw G' D' O rep Q E r:=by
 cases r with
 |ok v sl=>exact λ G2 D2 c s' h hd=>x G2 D2 c s' (StaysIn.trans k h) (kd.trans hd)
 |exc C arg=>exact λ e s' h=>x e s' (h.mono k)
theorem cC{α β:Type}{o:Option (R α)}{f:α->List Slot->Option (R β)}{r:R β}(h:au o f=some r):
  (∃a sl,o=some (.ok a sl)/\f a sl=some r)\/(∃C arg,o=some (.exc C arg)/\r= .exc C arg):=by
 unfold au at h
 split at h
 ·exact .inl ⟨_,_,rfl,h⟩
 ·replace h:=si h;subst h;exact .inr ⟨_,_,rfl,rfl⟩
 ·exact bj h
theorem bG{α β:Type}{o:Option α}{f:α->R β}{r:R β}(h:o.map f=some r):∃a,o=some a/\r=f a:=by
 cases o with
 |none=>cases h
 |some a=>replace h:=si h;subst h;exact⟨a,rfl,rfl⟩
section
variable{W:Wd}{cx:Cx}{g:bQ}{rw:Bool}{G:Heap}{D O:Led}{sl:List Slot}{s:Shared}{A:Around}{E:Value->Shared->Prop}{Q:Value->Shared->Prop}
theorem pS{id:Str}(h:g.MJ id=true):(id==("__debug__":Str))=false/\g.kind id=some .globalImplicit:=by
 unfold bQ.MJ iu at h
 simp only [Bool.and_eq_true,Bool.not_eq_true',decide_eq_true_eq] at h
 exact⟨h.1.1,h.2⟩
theorem sI{a b:V}(h:Gz a b=true):a=b:=by
 cases a with
 |obj x=>exact zV (λ y h=>by rw[UH h]) b h
 |cls x=>exact zW (λ y h=>by rw[UH h]) b h
 |int x=>exact zX (λ y h=>by rw[UH h]) b h
 |bytes x=>exact uO (λ y h=>by rw[UH h]) b h
 |_=>exact absurd h UI
theorem jM(K:WdOk W)(C:bS W cx g)(x:St W G D s){nm id:Str}{v:V}{pos:Pos}(h:g.glob W.P nm v id=true)(hQ:∀c,Rp W G v c->Q c s):wpAny (Md W) A (eval (.Name id pos) cx.env) Q E s:=by
 unfold bQ.glob at h
 simp only [Bool.and_eq_true,decide_eq_true_eq] at h
 obtain⟨⟨rfl,h2⟩,h3⟩:=h
 refine d8 (λ h4 h5=>?_)<|pS h2
 refine aV (λ p hp h6=>?_)<|List.any_eq_true.mp h3
 simp only [Bool.and_eq_true,decide_eq_true_eq] at h6
 refine d8 (λ z0 h7=>?_) h6;clear h6;subst z0
 refine aV (λ c e1 e2=>?_)<|K.mx p hp
 rw[sI h7] at e2
 refine wpAny_Name (ks_loadName_global (by rw[C.scope];exact C.kind) (by unfold Env.kindOf;rw[C.scope];exact h5) ?_) h4
 unfold loadGlobal
 rw[C.globals]
 exact UC ((looks_nsIn (M:=Md W) (x.gD.keeps x.led.stays) e1).here (UL (hQ c (e2 G x.gD))))
theorem mE(K:WdOk W)(C:bS W cx g)(x:St W G D s){nm id:Str}{pos:Pos}{c:Value}(h:g.bi W.P nm id=true)(hb:bootBuiltins nm=some c)(hQ:Q c s):wpAny (Md W) A (eval (.Name id pos) cx.env) Q E s:=by
 unfold bQ.bi at h
 simp only [Bool.and_eq_true,decide_eq_true_eq] at h
 obtain⟨⟨rfl,h2⟩,h3⟩:=h
 refine d8 (λ h4 h5=>?_)<|pS h2
 refine d8 (λ e1 e2=>?_)<|K.PH nm (by simpa using h3)
 refine wpAny_Name (ks_loadName_global (by rw[C.scope];exact C.kind) (by unfold Env.kindOf;rw[C.scope];exact h5) ?_) h4
 unfold loadGlobal
 rw[C.globals,C.builtins]
 refine UC ((looks_nsIn (M:=Md W) (x.gD.keeps x.led.stays) e1).here ?_)
 dsimp only
 refine UC (wpAny_nsGet ((x.top.keeps x.led.stays).b) ?_)
 rw[x.top.builtins _ e2,hb]
 exact UL hQ
theorem At.unique{p:Pl}{c c':Value}(x:cQ G D s.heap)(h:At G D p c)(h':At G D p c'):c=c':=by
 cases p with
 |ai L nm=>
  refine aV (λ m e1 e2=>?_) h;clear h
  refine aV (λ m' e3 e4=>?_) h';clear h'
  have:=aG x.nodup e1 e3
  cases this
  rw[e2] at e4;exact Option.some.inj e4
 |gd a=>
  rcases h with h|h<;> rcases h' with h'|h'
  ·have:=aG x.nodup h h';cases this;rfl
  ·refine aV (λ o e _=>?_) h';clear h';rw[x.free _ h] at e;exact bj e
  ·refine aV (λ o e _=>?_) h;clear h;rw[x.free _ h'] at e;exact bj e
  ·refine aV (λ o e e'=>?_) h;clear h;refine aV (λ o' f f'=>?_) h';clear h'
   rw[e] at f;replace f:=si f;subst f;rw[e'] at f';cases f';rfl
theorem At.keep{G':Heap}{D':Led}{p:Pl}{c:Value}(h:At G D p c)(k:G.StaysIn G')(kd:bF D D'):At G' D' p c:=by
 cases p with
 |ai L nm=>refine aV (λ m e1 e2=>?_) h;clear h;exact⟨m,kd _ _ (λ _ _ e=>nomatch e) e1,e2⟩
 |gd a=>exact h.imp (λ e=>kd _ _ (λ _ _ e=>nomatch e) e) λ x=>x.keeps k
theorem At.left{p:Pl}{c:Value}(h:At G D p c):At G (D++O) p c:=by
 cases p with
 |ai L nm=>refine aV (λ m e1 e2=>?_) h;clear h;exact⟨m,UD _ e1,e2⟩
 |gd a=>exact h.imp (λ e=>UD _ e) id
set_option tactic.hygienic true in
theorem aJ{P:Prog}{lc}{x:X}{e:Expr}(h:aI P lc x g e=true)(r:List Expr)(env:Env):starEach (e::r) env=(false,eval e env)::starEach r env:=by
 cases e
 case Starred e p=>cases x<;> exact absurd (show false=true from h) UI
 all_goals rfl
theorem A0{v:V}{c:Const}{k pos}{env:Env}(h:Hw v c=true)(hQ:∀c t,Rp W G v c->Q c { s with toks:=t }):wpAny (Md W) A (eval (.Constant c k pos) env) Q E s:=by
 cases v with
 |none=>rw[UH h];exact λ _ _ _=>hQ .none s.toks sv
 |bool a=>rw[UH h];exact λ _ _ _=>hQ (.bool _) s.toks kX
 |int a=>rw[UH h];exact wpAny_Constant_int (hQ _ _ c0)
 |str a=>rw[UH h];exact wpAny_Constant_str (hQ _ _ wx)
 |bytes a=>rw[UH h];exact Constant_bytes (hQ _ _ jK)
 |_=>exact absurd h UI
end
section
variable(W:Wd)(n:Nat)(call:Hd)(lc:Nat->Scope->Expr->Bool)
noncomputable def KP{α:Type}:Heap->α->α->Prop:=λ _ a b=>a=b
noncomputable def cE(x:X):Prop:=∀g e,aI W.P lc x g e=true->∀cx G D O sl s r Q E,bS W cx g->dk n cx.A->Rel W cx g.rw G D O sl s->ev call x sl=some r->
 cM W cx g.rw G D O (Rp W) Q E r->wpAny (Md W) cx.A (eval e cx.env) Q E s
noncomputable def gK(xs:Xs):Prop:=∀g es pos,b9 W.P lc xs g es=true->∀cx G D O sl s r Q E,bS W cx g->dk n cx.A->Rel W cx g.rw G D O sl s->ip call xs sl=some r->
 cM W cx g.rw G D O (dS W) Q E r->wpAny (Md W) cx.A (spliced (backTo pos (starEach es cx.env))) Q E s
noncomputable def yq(xs:Xs):Prop:=∀g es pos,b9 W.P lc xs g es=true->∀cx G D O sl s r Q E,bS W cx g->dk n cx.A->Rel W cx g.rw G D O sl s->gR call xs sl=some r->
 cM W cx g.rw G D O (Rp W) Q E r->wpAny (Md W) cx.A (boolOp pos .And (evalEach es cx.env)) Q E s
noncomputable def iS(t:T):Prop:=∀g e,lT W.P lc t g e=true->∀cx G D O sl s r Q E,bS W cx g->dk n cx.A->Rel W cx g.rw G D O sl s->iW call t sl=some r->
 cM W cx g.rw G D O (KP (α:=Bool)) Q E r->wpAny (Md W) cx.A (isTrue e cx.env (eval e cx.env)) Q E s
noncomputable def pT(b:Bool)(ts:Ts):Prop:=∀g es,nW W.P lc ts g es=true->∀cx G D O sl s r Q E,bS W cx g->dk n cx.A->Rel W cx g.rw G D O sl s->r9 call b ts sl=some r->
 cM W cx g.rw G D O (KP (α:=Bool)) Q E r->wpAny (Md W) cx.A (allTrue (if b then .And else .Or) es cx.env) Q E s
end
variable{W:Wd}{n:Nat}{call:Hd}{lc:Nat->Scope->Expr->Bool}
variable{cx:Cx}{g:bQ}{G:Heap}{D O:Led}{sl:List Slot}{s:Shared}
theorem ix{A:Around}(h:dk n A):A.units+2<cLine:=by
 have:=h.2.1
 show A.units+2<9900
 lia
theorem cE.use{x:X}(hx:cE W n call lc x){e:Expr}(hc:aI W.P lc x g e=true)(C:bS W cx g)(Rm:dk n cx.A)(R0:Rel W cx g.rw G D O sl s){α β:Type}{f:V->List Slot->Option (R α)}{r:R α}
  (h:au (ev call x sl) f=some r){rep:Heap->α->β->Prop}{Q:β->Shared->Prop}{Q':Value->Shared->Prop}{E:Value->Shared->Prop}(hQ:cM W cx g.rw G D O rep Q E r)
  (k:∀v a8 G' D' c s',f v a8=some r->G.StaysIn G'->bF D D'->Rel W cx g.rw G' D' O a8 s'->Rp W G' v c->cM W cx g.rw G' D' O rep Q E r->Q' c s'):
  wpAny (Md W) cx.A (eval e cx.env) Q' E s:=by
 refine Or.elim (cC h) (fb λ v a8 e1 e2=>?_) (fb λ C' arg e1 e2=>?_)
 ·exact hx g e hc cx G D O sl s _ _ _ C Rm R0 e1 λ G' D' c s' h1 h2 h3 h4=>k v a8 G' D' c s' e2 h1 h2 h3 h4 (hQ.mono h1 h2)
 ·subst e2
  exact hx g e hc cx G D O sl s _ _ _ C Rm R0 e1 hQ
theorem gK.use{xs:Xs}(hx:gK W n call lc xs){es:List Expr}{pos:Pos}(hc:b9 W.P lc xs g es=true)(C:bS W cx g)(Rm:dk n cx.A)(R0:Rel W cx g.rw G D O sl s){α β:Type}{f:List V->List Slot->Option (R α)}{r:R α}
  (h:au (ip call xs sl) f=some r){rep:Heap->α->β->Prop}{Q:β->Shared->Prop}{Q':List Value->Shared->Prop}{E:Value->Shared->Prop}(hQ:cM W cx g.rw G D O rep Q E r)
  (k:∀v a8 G' D' c s',f v a8=some r->G.StaysIn G'->bF D D'->Rel W cx g.rw G' D' O a8 s'->dS W G' v c->cM W cx g.rw G' D' O rep Q E r->Q' c s'):
  wpAny (Md W) cx.A (spliced (backTo pos (starEach es cx.env))) Q' E s:=by
 refine Or.elim (cC h) (fb λ v a8 e1 e2=>?_) (fb λ C' arg e1 e2=>?_)
 ·exact hx g es pos hc cx G D O sl s _ _ _ C Rm R0 e1 λ G' D' c s' h1 h2 h3 h4=>k v a8 G' D' c s' e2 h1 h2 h3 h4 (hQ.mono h1 h2)
 ·subst e2
  exact hx g es pos hc cx G D O sl s _ _ _ C Rm R0 e1 hQ
theorem iS.use{t:T}(hx:iS W n call lc t){e:Expr}(hc:lT W.P lc t g e=true)(C:bS W cx g)(Rm:dk n cx.A)(R0:Rel W cx g.rw G D O sl s){α β:Type}{f:Bool->List Slot->Option (R α)}{r:R α}
  (h:au (iW call t sl) f=some r){rep:Heap->α->β->Prop}{Q:β->Shared->Prop}{Q':Bool->Shared->Prop}{E:Value->Shared->Prop}(hQ:cM W cx g.rw G D O rep Q E r)
  (k:∀v a8 G' D' s',f v a8=some r->G.StaysIn G'->bF D D'->Rel W cx g.rw G' D' O a8 s'->cM W cx g.rw G' D' O rep Q E r->Q' v s'):
  wpAny (Md W) cx.A (isTrue e cx.env (eval e cx.env)) Q' E s:=by
 refine Or.elim (cC h) (fb λ v a8 e1 e2=>?_) (fb λ C' arg e1 e2=>?_)
 ·exact hx g e hc cx G D O sl s _ _ _ C Rm R0 e1 λ G' D' c s' h1 h2 h3 h4=>by
   subst h4;exact k v a8 G' D' s' e2 h1 h2 h3 (hQ.mono h1 h2)
 ·subst e2
  exact hx g e hc cx G D O sl s _ _ _ C Rm R0 e1 hQ
theorem Nu{a:nt}{b:Operator}(h:KC a b=true):b=pg a:=(UH h).symm
theorem Nv{a:o9}{b:CmpOp}(h:KD a b=true):b=ph a:=(UH h).symm
theorem iy{op:CmpOp}{e:Expr}(h:fC e=true):behindInMarks op e=false:=by
 cases e<;> first|rfl|exact absurd h UI
theorem H6(v:V):cE W n call lc (.av v):=λ g e hc cx G D O sl s r Q E C Rm R0 h hQ=>by
 replace hc:Hx v e=true:=hc
 replace h:some (R.ok v sl)=some r:=h
 replace h:=si h;subst h
 refine Hy (λ c p1 p2 hc=>?_) e hc
 exact A0 hc λ c t rc=>hQ G D c _ (StaysIn.refl _) (bF.refl _) R0.tok rc
theorem H7(i:Nat):cE W n call lc (.ai i):=λ g e hc cx G D O sl s r Q E C Rm R0 h hQ=>by
 replace hc:Hz i g e=true:=hc
 replace h:mw sl i=some r:=h
 refine HA (λ id p1 hc=>?_) e hc
 refine EO C R0 hc h λ v a8 er G' D' c k1 k2 k3 k4=>?_
 subst er
 exact hQ G' D' c _ k1 k2 k3 k4
theorem EP(K:WdOk W)(nm:Str)(v:V):cE W n call lc (.glob nm v):=λ g e hc cx G D O sl s r Q E C Rm R0 h hQ=>by
 replace hc:zY W.P nm v g e=true:=hc
 replace h:some (R.ok v sl)=some r:=h
 replace h:=si h;subst h
 refine Er (λ id p1 hc=>?_) e hc
 refine jM K C R0.st hc λ c rc=>?_
 have y:=R0.st
 refine hQ G D c s (StaysIn.refl _) (bF.refl _) R0 ?_
 exact rc
theorem H8{op:nt}{l r:X}(hl:cE W n call lc l)(hr:cE W n call lc r):cE W n call lc (.bin op l r):=λ g e hc cx G D O sl s r' Q E C Rm R0 h hQ=>by
 replace hc:Es op (aI W.P lc l g) (aI W.P lc r g) e=true:=hc
 replace h:(au (ev call l sl) λ a sl=>au (ev call r sl) λ b sl=>(dz op a b).map (R.ok · sl))=some r':=h
 refine zZ (λ l' r' p1 h2 h3=>?_) e hc
 refine wpAny_BinOp (hl.use h2 C Rm R0 h hQ λ a aB G1 D1 ca s1 h k1 k2 R1 ra hQ=>?_)
 refine hr.use h3 C Rm R1 h hQ λ b sl2 G2 D2 cb s2 h k3 k4 R2 rb hQ=>?_
 refine aV (λ v e1 z2=>?_)<|bG h;subst z2
 refine bJ (λ m hm=>?_)<|R2.here
 exact pP e1 R2.st (Rep.keeps k3 _ ra) rb (UD _ hm) λ G3 c s3 y k r3=>hQ G3 D2 c s3 k (bF.refl _) (R2.mono y k) r3
theorem H9{x:X}(hx:cE W n call lc x):cE W n call lc (.neg x):=λ g e hc cx G D O sl s r' Q E C Rm R0 h hQ=>by
 replace hc:HB (aI W.P lc x g) e=true:=hc
 replace h:(au (ev call x sl) λ a sl=>match a with| .int i=>some (R.ok (V.int (-i)) sl)|_=>none)=some r':=h
 refine HC (λ x' p1 hc=>?_) e hc
 refine wpAny_UnaryOp (hx.use hc C Rm R0 h hQ λ a aB G1 D1 ca s1 h k1 k2 R1 ra hQ=>?_)
 cases a<;> try (first|exact bj h|exact kh h|(replace h:=si h;subst h;done))
 replace h:=si h;subst h
 simp only [Rp,Rep] at ra
 refine bJ (λ t z1=>?_) ra;clear ra;subst z1
 exact neg_int (hQ G1 D1 _ _ (StaysIn.refl _) (bF.refl _) R1.tok c0)
theorem Ia{op:o9}{l r:X}(hl:cE W n call lc l)(hr:cE W n call lc r):cE W n call lc (.cmp op l r):=λ g e hc cx G D O sl s r' Q E C Rm R0 h hQ=>by
 replace hc:z6 op (aI W.P lc l g) (aI W.P lc r g) e=true:=hc
 replace h:(au (ev call l sl) λ a sl=>au (ev call r sl) λ b sl=>(cL op a b).map λ c=>R.ok (V.bool c) sl)=some r':=h
 refine Aa (λ l' r' p1 h0 h2 h3=>?_) e hc
 refine wpAny_Compare1 (hl.use h2 C Rm R0 h hQ λ a aB G1 D1 ca s1 h k1 k2 R1 ra hQ=>?_) (iy h0)
 refine hr.use h3 C Rm R1 h hQ λ b sl2 G2 D2 cb s2 h k3 k4 R2 rb hQ=>?_
 refine aV (λ v e1 z2=>?_)<|bG h;subst z2
 exact jL e1 R2.st (Rep.keeps k3 _ ra) rb (ix Rm) λ t=>hQ G2 D2 _ _ (StaysIn.refl _) (bF.refl _) R2.tok kX
theorem ER{xs:Xs}(hx:yq W n call lc xs):cE W n call lc (.rZ xs):=λ g e hc cx G D O sl s r' Q E C Rm R0 h hQ=>by
 replace hc:sk (b9 W.P lc xs g) e=true:=hc
 refine wt (λ es p1 hc=>?_) e hc
 show wpAny _ _ (boolOp p1 .And (evalEach es cx.env)) Q E s
 exact hx g _ _ hc cx G D O sl s r' Q E C Rm R0 h hQ
theorem ES:yq W n call lc .nil:=λ g es pos hc cx G D O sl s r' Q E C Rm R0 h hQ=>by
 replace h:none=some r':=h
 cases h
theorem ET{x:X}(hx:cE W n call lc x):yq W n call lc (.cons x .nil):=λ g es pos hc cx G D O sl s r' Q E C Rm R0 h hQ=>by
 replace hc:mB (aI W.P lc x g) uY es=true:=hc
 replace h:ev call x sl=some r':=h
 cases es with
 |nil=>exact absurd hc UI
 |cons e Ka=>
  replace hc:(aI W.P lc x g e&&uY Ka)=true:=hc
  rw[Bool.and_eq_true] at hc
  cases Ka with
  |nil=>exact hx g _ hc.1 cx G D O sl s r' Q E C Rm R0 h hQ
  |cons a b=>exact absurd hc.2 UI
theorem A1{x y:X}{ys:Xs}(hx:cE W n call lc x)(hy:yq W n call lc (.cons y ys)):yq W n call lc (.cons x (.cons y ys)):=λ g es pos hc cx G D O sl s r' Q E C Rm R0 h hQ=>by
 replace hc:mB (aI W.P lc x g) (b9 W.P lc (.cons y ys) g) es=true:=hc
 replace h:(au (ev call x sl) λ v sl=>match v with
  | .bool true=>gR call (.cons y ys) sl
  | .bool false=>some (R.ok (V.bool false) sl)
  |_=>none)=some r':=h
 cases es with
 |nil=>exact absurd hc UI
 |cons e Ka=>
  replace hc:(aI W.P lc x g e&&b9 W.P lc (.cons y ys) g Ka)=true:=hc
  rw[Bool.and_eq_true] at hc
  cases Ka with
  |nil=>exact absurd hc.2 UI
  |cons e2 QZ=>
   show wpAny _ _ (boolOp pos .And (eval e cx.env::eval e2 cx.env::evalEach QZ cx.env)) Q E s
   unfold boolOp
   refine UC (hx.use hc.1 C Rm R0 h hQ λ a aB G1 D1 ca s1 h k1 k2 R1 ra hQ=>?_)
   refine UC (wpAny_standAt (UC (wpAny_holding ?_)))
   cases a<;> try (first|exact bj h|exact kh h|(cases h;done))
   rename_i b
   simp only [Rp,Rep] at ra
   subst ra
   refine wpAny_truthy_bool ?_
   cases b with
   |true=>exact hy g _ pos hc.2 cx G1 D1 O aB s1 r' Q E C Rm R1 h hQ
   |false=>replace h:=si h;subst h;exact UL (hQ G1 D1 _ _ (StaysIn.refl _) (bF.refl _) R1 kX)
theorem Ib{t:T}{a b:X}(ht:iS W n call lc t)(ha:cE W n call lc a)(hb:cE W n call lc b):cE W n call lc (.ik t a b):=λ g e hc cx G D O sl s r' Q E C Rm R0 h hQ=>by
 replace hc:HD (lT W.P lc t g) (aI W.P lc a g) (aI W.P lc b g) e=true:=hc
 replace h:(au (iW call t sl) λ c sl=>if c then ev call a sl else ev call b sl)=some r':=h
 refine HE (λ t' a' b' p1 h1 h2 h3=>?_) e hc
 refine wpAny_IfExp (ht.use h1 C Rm R0 h hQ λ c aB G1 D1 s1 h k1 k2 R1 hQ=>?_)
 cases c with
 |true=>exact ha g _ h2 cx G1 D1 O aB s1 r' Q E C Rm R1 h hQ
 |false=>exact hb g _ h3 cx G1 D1 O aB s1 r' Q E C Rm R1 h hQ
theorem EU:gK W n call lc .nil:=λ g es pos hc cx G D O sl s r' Q E C Rm R0 h hQ=>by
 replace hc:uY es=true:=hc
 replace h:some (R.ok [] sl)=some r':=h
 replace h:=si h;subst h
 cases es with
 |nil=>exact wpAny_items_nil (hQ G D _ _ (StaysIn.refl _) (bF.refl _) R0 aL.nil)
 |cons a b=>exact absurd hc UI
theorem A2{x:X}{xs:Xs}(hx:cE W n call lc x)(qU:gK W n call lc xs):gK W n call lc (.cons x xs):=λ g es pos hc cx G D O sl s r' Q E C Rm R0 h hQ=>by
 replace hc:mB (aI W.P lc x g) (b9 W.P lc xs g) es=true:=hc
 replace h:(au (ev call x sl) λ v sl=>au (ip call xs sl) λ vs sl=>some (R.ok (v::vs) sl))=some r':=h
 refine Ey (λ e es h1 h2=>?_) es hc
 refine wpAny_items_cons (hx.use h1 C Rm R0 h hQ λ a aB G1 D1 ca s1 h k1 k2 R1 ra hQ=>?_) (aJ h1 _ _)
 refine qU.use h2 C Rm R1 h hQ λ vs sl2 G2 D2 cs s2 h k3 k4 R2 rs hQ=>?_
 replace h:=si h;subst h
 exact hQ G2 D2 _ _ (StaysIn.refl _) (bF.refl _) R2 (aL.cons (Rep.keeps k3 _ ra) rs)
theorem i6{h:Heap}{o:Obj}(hf:o.isFreed=false:=by rfl):(h.push o).get? h.objs.size=some o:=Heap.get?_push_size h hf
theorem Rel.seq{rw:Bool}(x:Rel W cx rw G D O sl s){t:Bool}{a:Addr}{items:List Value}{xs:List V}(h:SeqAt s.heap t a items)(ha:a∉aQ (D++O))(r:dS W G xs items):
  ∃G',G.StaysIn G'/\Rel W cx rw G' D O sl s/\Rp W G' (.seq t xs) (.ref a):=by
 refine rS (λ y k r'=>?_)<|x.st.frozen h ha r
 exact⟨_,k,x.mono y k,r'⟩
theorem Ic{xs:Xs}(qU:gK W n call lc xs):cE W n call lc (.tup xs):=λ g e hc cx G D O sl s r' Q E C Rm R0 h hQ=>by
 replace hc:HF (b9 W.P lc xs g) e=true:=hc
 replace h:(au (ip call xs sl) λ vs sl=>if dO vs then some (R.ok (V.seq true vs) sl) else none)=some r':=h
 refine HG (λ es p1 p2 hc=>?_) e hc
 refine PyProof.Rows.Tuple_ (qU.use hc C Rm R0 h hQ λ vs aB G1 D1 cs s1 h k1 k2 R1 rs hQ=>?_)
 split at h
 ·rename_i ng
  replace h:=si h;subst h
  have hl:=rs.length
  have:=eW ng
  refine wpAny_newTuple ?_ (by rw[hl,sizeLine_eq];exact J4 ‹_› (by decide))
  have R2:=R1.keeps (t:=s1.toks) (cB s1.heap { cls:= .type "tuple",data:= .seq cs.toArray })
  refine fY (λ G2 k R3 rp=>?_)<|R2.seq (t:=true) (a:=s1.heap.objs.size) ⟨_,0,i6,rfl,rfl⟩ (cW R1.st.led) rs
  exact hQ G2 D1 _ _ k (bF.refl _) R3 rp
 ·exact bj h
theorem pU{xs:Xs}(qU:gK W n call lc xs){es:List Expr}{pos:Pos}(hc:b9 W.P lc xs g es=true)(C:bS W cx g)(Rm:dk n cx.A)(R0:Rel W cx g.rw G D O sl s){r:R V}{Q:Value->Shared->Prop}{E:Value->Shared->Prop}
  (h:ev call (.lst xs) sl=some r)
  (hE:∀C' arg,r= .exc C' arg->∀e s',eP W cx g.rw G O C' arg e s'->E e s')
  (hQ:∀vs a8,r= .ok (.seq false vs) a8->∀G' D' a items s',G.StaysIn G'->bF D D'->Rel W cx g.rw G' D' O a8 s'->fu s'.heap a items->a∉aQ (D'++O)->G'.get? a=none->dS W G' vs items->Q (.ref a) s'):
  wpAny (Md W) cx.A (eval (.List es pos) cx.env) Q E s:=by
 replace h:(au (ip call xs sl) λ vs sl=>if dO vs then some (R.ok (V.seq false vs) sl) else none)=some r:=h
 refine PyProof.Rows.List_ ?_
 refine Or.elim (cC h) (fb λ vs a8 e1 e2=>?_) (fb λ C' arg e1 e2=>?_)
 ·refine qU g es pos hc cx G D O sl s _ _ _ C Rm R0 e1 λ G1 D1 cs s1 k1 k2 R1 rs=>?_
  split at e2
  ·rename_i ng
   replace e2:=si e2;subst e2
   have hl:=rs.length
   have:=eW ng
   refine wpAny_newList ?_ (by rw[hl,sizeLine_eq];exact J4 ‹_› (by decide))
   have R2:=R1.keeps (t:=s1.toks) (cB s1.heap { cls:= .type "list",data:= .seq cs.toArray })
   refine hQ _ _ rfl G1 D1 _ cs _ k1 k2 R2 ⟨_,i6,rfl,⟨0,rfl⟩,rfl⟩ (cW R1.st.led) ?_ rs
   cases q:G1.get? s1.heap.objs.size with
   |none=>rfl
   |some o=>exact absurd (Heap.lt_size (R1.st.led.stays _ _ q)) (Nat.lt_irrefl _)
  ·exact bj e2
 ·subst e2
  exact qU g es pos hc cx G D O sl s _ _ _ C Rm R0 e1 (hE _ _ rfl)
theorem Ig{xs:Xs}(qU:gK W n call lc xs):cE W n call lc (.lst xs):=λ g e hc cx G D O sl s r' Q E C Rm R0 h hQ=>by
 replace hc:Et (b9 W.P lc xs g) e=true:=hc
 refine Ab (λ es p1 hc=>?_) e hc
 refine pU qU hc C Rm R0 h (λ C' arg er=>by subst er;exact hQ) λ vs a8 er G1 D1 a items s1 k1 k2 R1 hl ha _ rs=>?_
 subst er
 refine fY (λ G2 k R3 rp=>?_)<|R1.seq (SeqAt.ofList hl.isList) ha rs
 exact hQ G2 D1 _ _ (StaysIn.trans k1 k) k2 R3 rp
theorem Ih{x i:X}(hx:cE W n call lc x)(hi:cE W n call lc i):cE W n call lc (.idx x i):=λ g e hc cx G D O sl s r' Q E C Rm R0 h hQ=>by
 replace hc:HH (aI W.P lc x g) (aI W.P lc i g) e=true:=hc
 replace h:(au (ev call x sl) λ a sl=>au (ev call i sl) λ b sl=>(cV a b).map (R.ok · sl))=some r':=h
 refine HI (λ x' i' p1 h1 h2 h3=>?_) e hc
 refine Subscript_ (hx.use h2 C Rm R0 h hQ λ a aB G1 D1 ca s1 h k1 k2 R1 ra hQ=>?_)
 refine hi.use h3 C Rm R1 h hQ λ b sl2 G2 D2 cb s2 h k3 k4 R2 rb hQ=>?_
 refine aV (λ v e1 z2=>?_)<|bG h;subst z2
 exact lV e1 R2.st (Rep.keeps k3 _ ra) rb h1 λ c t rc=>hQ G2 D2 c _ (StaysIn.refl _) (bF.refl _) R2.tok rc
theorem gV{rw:Bool}(x:Rel W cx rw G D O sl s){i:Nat}{xs:List V}(h:sl[i]?=some (.own xs)\/sl[i]?=some (.aD xs)){p:Pl}{a:Addr}(hp:cx.pl[i]?=some (some p))(ha:At G D p (.ref a)):
  ∃items,(a,MO.list i items)∈D/\dS W G xs items/\fu s.heap a items:=by
 have:∃a' items,At G D p (.ref a')/\(a',MO.list i items)∈D/\dS W G xs items:=by
  rcases h with h|h
  ·obtain⟨p',kT,a',items,h1,h2,h3⟩:=x.get h (by intro e;cases e)
   rw[hp] at kT;cases kT
   exact⟨a',items,h1,h2,h3⟩
  ·obtain⟨p',kT,items,h1,h2,h3⟩:=x.get h (by intro e;cases e)
   rw[hp] at kT;cases kT
   exact⟨_,items,h1,h2,h3⟩
 refine ew (λ a' items h1 h2 h3=>?_) this;clear this
 have e:Value.ref a'=Value.ref a:=At.unique x.st.led h1.left ha.left
 cases e
 exact⟨items,h2,h3,x.st.led.has _ (UD _ h2)⟩
set_option tactic.hygienic true in
theorem pV{rw:Bool}(x:Rel W cx rw G D O sl s){i:Nat}{v:V}(h:eA sl i=some v){p:Pl}{c:Value}(hp:cx.pl[i]?=some (some p))(ha:At G D p c):
  Rp W G v c\/∃a items xs,c= .ref a/\v= .seq false xs/\dS W G xs items/\s.heap.IsList a items.toArray:=by
 unfold eA at h
 split at h
 ·rename_i v' e
  replace h:=si h;subst h
  obtain⟨p',kT,c',h1,h2⟩:=x.get e (by intro e;cases e)
  rw[hp] at kT;cases kT
  rw[<-At.unique x.st.led h1.left ha.left]
  exact .inl h2
 ·rename_i xs e
  replace h:=si h;subst h
  obtain⟨p',kT,a,items,h1,h2,h3⟩:=x.get e (by intro e;cases e)
  rw[hp] at kT;cases kT
  have:=At.unique x.st.led h1.left ha.left
  subst this
  exact .inr ⟨a,items,xs,rfl,rfl,h3,fu.isList (x.st.led.has (a,MO.list i items) (UD _ h2))⟩
 ·rename_i xs e
  replace h:=si h;subst h
  obtain⟨p',kT,items,h1,h2,h3⟩:=x.get e (by intro e;cases e)
  rw[hp] at kT;cases kT
  have:=At.unique x.st.led h1.left ha.left
  subst this
  exact .inr ⟨_,items,xs,rfl,rfl,h3,fu.isList (x.st.led.has (_,MO.list i items) (UD _ h2))⟩
 ·exact bj h
theorem k9{rw:Bool}(x:Rel W cx rw G D O sl s){i:Nat}{z:Slot}(h:sl[i]?=some z)(hz:z≠ .af):∃p c,cx.pl[i]?=some (some p)/\At G D p c:=by
 refine aV (λ p hp ok=>?_)<|x.get h hz
 cases z with
 |af=>exact absurd rfl hz
 |val v=>refine aV (λ c h1 _=>?_) ok;clear ok;exact⟨p,c,hp,h1⟩
 |own xs=>refine fb (λ a _ h1 _=>?_) ok;clear ok;exact⟨p,_,hp,h1⟩
 |aD xs=>refine aV (λ _ h1 _=>?_) ok;clear ok;exact⟨p,_,hp,h1⟩
set_option tactic.hygienic true in
theorem EV{q:Nat}{i:X}(hi:cE W n call lc i):cE W n call lc (.aZ q i):=λ g e hc cx G D O sl s r' Q E C Rm R0 h hQ=>by
 replace hc:Ac q (aI W.P lc i g) g e=true:=hc
 replace h:(match sl[q]? with
  |some (.val v)=>au (ev call i sl) λ b sl=>(cV v b).map (R.ok · sl)
  |some (.own _)=>au (ev call i sl) λ b sl=>((eA sl q).bind λ v=>cV v b).map (R.ok · sl)
  |some (.aD _)=>au (ev call i sl) λ b sl=>((eA sl q).bind λ v=>cV v b).map (R.ok · sl)
  |_=>none)=some r':=h
 refine Eu (λ id p1 i' p2 h1 h2 h3=>?_) e hc
 refine Subscript_ ?_
 have own:∀{p:Pl} {c:Value},cx.pl[q]?=some (some p)->At G D p c->(au (ev call i sl) λ b sl=>((eA sl q).bind λ v=>cV v b).map (R.ok · sl))=some r'->
   wpAny (Md W) cx.A (eval i' cx.env) (λ j s₂=>wpAny (Md W) cx.A (subscriptTail (.Name id p1) i' c j) Q E s₂) E s:=λ{p c} hp ha h=>by
  refine hi.use h3 C Rm R0 h hQ λ b sl2 G2 D2 cb s2 h k3 k4 R2 rb hQ=>?_
  refine aV (λ v e1 z2=>?_)<|bG h;subst z2
  cases hv:eA sl2 q with
  |none=>rw[hv] at e1;exact bj e1
  |some v0=>
   rw[hv] at e1
   replace e1:cV v0 b=some v:=e1
   rcases pV R2 hv hp (ha.keep k3 k4) with rv|⟨a,items,xs,rfl,rfl,rs,hl⟩
   ·exact lV e1 R2.st rv rb h1 λ c t rc=>hQ G2 D2 c _ (StaysIn.refl _) (bF.refl _) R2.tok rc
   ·cases b<;> simp only [cV] at e1<;> try (first|exact bj e1|exact kh e1|(cases e1;done))
    split at e1
    ·rename_i ng
     simp only [Rp,Rep] at rb
     refine bJ (λ t z1=>?_) rb;clear rb;subst z1
     exact item_list hl rs ng e1 h1 λ c rc=>hQ G2 D2 c _ (StaysIn.refl _) (bF.refl _) R2 rc
    ·exact bj e1
 split at h
 ·rename_i v e
  obtain⟨p,hp,c,ha,rv⟩:=R0.get e (by intro e;cases e)
  refine ed C R0 h2 hp ha ?_
  refine hi.use h3 C Rm R0 h hQ λ b sl2 G2 D2 cb s2 h k3 k4 R2 rb hQ=>?_
  refine aV (λ w e1 z2=>?_)<|bG h;subst z2
  exact lV e1 R2.st (Rep.keeps k3 _ rv) rb h1 λ c t rc=>hQ G2 D2 c _ (StaysIn.refl _) (bF.refl _) R2.tok rc
 ·rename_i xs e
  refine fb (λ p c hp ha=>?_)<|k9 R0 e (by intro e;cases e)
  exact ed C R0 h2 hp ha (own hp ha h)
 ·rename_i xs e
  refine fb (λ p c hp ha=>?_)<|k9 R0 e (by intro e;cases e)
  exact ed C R0 h2 hp ha (own hp ha h)
 ·exact bj h
theorem iz{v:V}{c:Value}{i:Int}(h:Rp W G (.int i) c):IsPart c (some i):=by
 simp only [Rp,Rep] at h
 refine bJ (λ t z1=>?_) h;clear h;subst z1
 exact .int _ _
theorem A3{x hi:X}(hx:cE W n call lc x)(hh:cE W n call lc hi):cE W n call lc (.j3 x hi):=λ g e hc cx G D O sl s r' Q E C Rm R0 h hQ=>by
 replace hc:uP (aI W.P lc x g) (aI W.P lc hi g) e=true:=hc
 replace h:(au (ev call x sl) λ a sl=>au (ev call hi sl) λ h sl=>match h with| .int h=>(fZ none (some h) a).map (R.ok · sl)|_=>none)=some r':=h
 refine Ad (λ x' sm p1 p2 h1 h2=>?_) e hc
 refine Subscript_ (hx.use h1 C Rm R0 h hQ λ a aB G1 D1 ca s1 h k1 k2 R1 ra hQ=>?_)
 refine wpAny_Slice (wpAny_evalPart_none (wpAny_evalPart_some (hh.use h2 C Rm R1 h hQ λ b sl2 G2 D2 cb s2 h k3 k4 R2 rb hQ=>wpAny_evalPart_none ?_)))
 cases b<;> try (first|exact bj h|exact kh h|(cases h;done))
 refine aV (λ v e1 z2=>?_)<|bG h;subst z2
 exact lW e1 R2.st (Rep.keeps k3 _ ra) .none (iz (v:= .none) rb) λ G3 c s3 y k r3=>hQ G3 D2 c s3 k (bF.refl _) (R2.mono y k) r3
theorem vi{x lo:X}(hx:cE W n call lc x)(hh:cE W n call lc lo):cE W n call lc (.fM x lo):=λ g e hc cx G D O sl s r' Q E C Rm R0 h hQ=>by
 replace hc:nU (aI W.P lc x g) (aI W.P lc lo g) e=true:=hc
 replace h:(au (ev call x sl) λ a sl=>au (ev call lo sl) λ l sl=>match l with| .int l=>(fZ (some l) none a).map (R.ok · sl)|_=>none)=some r':=h
 refine uR (λ x' uQ p1 p2 h1 h2=>?_) e hc
 refine Subscript_ (hx.use h1 C Rm R0 h hQ λ a aB G1 D1 ca s1 h k1 k2 R1 ra hQ=>?_)
 refine wpAny_Slice (wpAny_evalPart_some (hh.use h2 C Rm R1 h hQ λ b sl2 G2 D2 cb s2 h k3 k4 R2 rb hQ=>wpAny_evalPart_none (wpAny_evalPart_none ?_)))
 cases b<;> try (first|exact bj h|exact kh h|(cases h;done))
 refine aV (λ v e1 z2=>?_)<|bG h;subst z2
 exact lW e1 R2.st (Rep.keeps k3 _ ra) (iz (v:= .none) rb) .none λ G3 c s3 y k r3=>hQ G3 D2 c s3 k (bF.refl _) (R2.mono y k) r3
theorem Ii{x lo hi:X}(hx:cE W n call lc x)(hl:cE W n call lc lo)(hh:cE W n call lc hi):cE W n call lc (.zI x lo hi):=λ g e hc cx G D O sl s r' Q E C Rm R0 h hQ=>by
 replace hc:HJ (aI W.P lc x g) (aI W.P lc lo g) (aI W.P lc hi g) e=true:=hc
 replace h:(au (ev call x sl) λ a sl=>au (ev call lo sl) λ l sl=>au (ev call hi sl) λ h sl=>match l,h with| .int l,.int h=>(fZ (some l) (some h) a).map (R.ok · sl)|_,_=>none)=some r':=h
 refine HK (λ x' uQ sm p1 p2 h1 h2 h3=>?_) e hc
 refine Subscript_ (hx.use h1 C Rm R0 h hQ λ a aB G1 D1 ca s1 h k1 k2 R1 ra hQ=>?_)
 refine wpAny_Slice (wpAny_evalPart_some (hl.use h2 C Rm R1 h hQ λ b sl2 G2 D2 cb s2 h k3 k4 R2 rb hQ=>wpAny_evalPart_some (hh.use h3 C Rm R2 h hQ λ d lZ G3 D3 cd s3 h k5 k6 R3 rd hQ=>wpAny_evalPart_none ?_)))
 cases b<;> try (first|exact bj h|exact kh h|(cases h;done))
 cases d<;> try (first|exact bj h|exact kh h|(cases h;done))
 refine aV (λ v e1 z2=>?_)<|bG h;subst z2
 exact lW e1 R3.st (Rep.keeps k5 _ (Rep.keeps k3 _ ra)) (iz (v:= .none) (Rep.keeps k5 _ rb)) (iz (v:= .none) rd) λ G4 c s4 y k r4=>hQ G4 D3 c s4 k (bF.refl _) (R3.mono y k) r4
theorem Ij{x:X}(hx:cE W n call lc x):cE W n call lc (.rev x):=λ g e hc cx G D O sl s r' Q E C Rm R0 h hQ=>by
 replace hc:HL (aI W.P lc x g) e=true:=hc
 replace h:(au (ev call x sl) λ a sl=>(xU a).map (R.ok · sl))=some r':=h
 refine HM (λ x' p1 p2 p3 p4 p5 hc=>?_) e hc
 refine Subscript_ (hx.use hc C Rm R0 h hQ λ a aB G1 D1 ca s1 h k1 k2 R1 ra hQ=>?_)
 refine wpAny_Slice (wpAny_evalPart_none (wpAny_evalPart_none (wpAny_evalPart_some ?_)))
 refine wpAny_UnaryOp (wpAny_Constant_int (neg_int ?_))
 refine aV (λ v e1 z2=>?_)<|bG h;subst z2
 exact yn e1 (R1.tok (t:=s1.toks+1+1)).st ra (.int _ _) λ G4 c s4 y k r4=>hQ G4 D1 c s4 k (bF.refl _) (R1.mono y k) r4
end Mine
end
section
open PySem PySem.W PyProof.Rows PySem.Calls PySem.SeqAt
namespace Mine
variable{W:Wd}{n:Nat}{call:Hd}{lc:Nat->Scope->Expr->Bool}
variable{cx:Cx}{g:bQ}{rw:Bool}{G:Heap}{D O:Led}{sl:List Slot}{s:Shared}{E:Value->Shared->Prop}
theorem Rel.dropped(x:Rel W cx rw G D O sl s):Rel W cx rw G D O (cx.pl.map λ _=> .af) s:=by
 have e:(sl.map λ _=>Slot.af)=cx.pl.map λ _=>Slot.af:=by
  rw[List.map_const',List.map_const',x.len]
 rw[<-e];exact x.drop
theorem A4{a:Addr}{i:Nat}{items bO:List Value}(nd:(D.map (·.1)).Nodup)(h:(a,MO.list i items)∈D):bF D (Led.put D a (.list i bO)):=λ b d hd hb=>
 Led.bB.mpr (.inl ⟨λ e=>by
  simp only at e
  subst e
  exact hd _ _ (aG nd hb h),hb⟩)
theorem Rel.wB(x:Rel W cx rw G D O sl s){i:Nat}{a:Addr}{items bO:List Value}{z:Slot}{b':List V}{p:Pl}{G':Heap}{s':Shared}(hp:cx.pl[i]?=some (some p))(ha:At G D p (.ref a))(hm:(a,MO.list i items)∈D)
  (y:St W G' (Led.put D a (.list i bO)++O) s')(k:G.StaysIn G')(hz:z= .own b'\/(z= .aD b'/\a=cx.aD))(r:dS W G' b' bO):
  Rel W cx rw G' (Led.put D a (.list i bO)) O (sl.set i z) s'/\bF D (Led.put D a (.list i bO)):=by
 have nd:=x.st.led.nodup
 have mY:(D.map (·.1)).Nodup:=by rw[List.map_append,List.nodup_append] at nd;exact nd.1
 have kd:bF D (Led.put D a (.list i bO)):=A4 mY hm
 have PI:(a,MO.list i bO)∈Led.put D a (.list i bO):=Led.bB.mpr (.inr ⟨rfl,cA hm⟩)
 refine⟨⟨y,by simpa using x.len,λ j q p' e1 e2=>?_,λ e j p' e1=>?_,⟨λ env he=>?_,λ q hq=>?_⟩,?_⟩,kd⟩
 ·rw[List.getElem?_set] at e1
  split at e1
  ·rename_i mZ
   subst mZ
   split at e1
   ·cases e1
    rw[hp] at e2;cases e2
    rcases hz with rfl|⟨rfl,rfl⟩
    ·exact⟨a,bO,ha.keep k kd,PI,r⟩
    ·exact⟨bO,ha.keep k kd,PI,r⟩
   ·exact bj e1
  ·rename_i mZ
   have ok:=x.slots j q p' e1 e2
   have nl:∀b it,(b,MO.list j it)∈D->(b,MO.list j it)∈Led.put D a (.list i bO):=λ b it hb=>
    Led.bB.mpr (.inl ⟨λ e=>by
     simp only at e
     subst e
     have:=aG mY hb hm
     cases this
     exact mZ rfl,hb⟩)
   cases p' with
   |none=>cases q<;> first|trivial|exact ok
   |some p'=>
    cases q with
    |af=>trivial
    |val v=>refine aV (λ c e3 e4=>?_) ok;clear ok;exact⟨c,e3.keep k kd,Rep.keeps k _ e4⟩
    |own ys=>refine ew (λ b it e3 e4 e5=>?_) ok;clear ok;exact⟨b,it,e3.keep k kd,nl _ _ e4,aL.keeps k _ e5⟩
    |aD ys=>refine fY (λ it e3 e4 e5=>?_) ok;clear ok;exact⟨it,e3.keep k kd,nl _ _ e4,aL.keeps k _ e5⟩
 ·have:=x.place e j p' e1
  cases p' with
  |ai L nm=>refine bJ (λ m h=>?_) this;clear this;exact⟨m,kd _ _ (λ _ _ e=>nomatch e) h⟩
  |gd b=>refine bJ (λ m h=>?_) this;clear this;exact⟨m,kd _ _ (λ _ _ e=>nomatch e) h⟩
 ·obtain⟨e1,L,m,e2,e3⟩:=x.frames.1 env he
  refine⟨e1,L,m,e2,?_⟩
  rcases List.mem_append.mp e3 with e3|e3
  ·exact UD _ (kd _ _ (λ _ _ e=>nomatch e) e3)
  ·exact UE _ e3
 ·rcases List.mem_append.mp (x.frames.2 q hq) with e3|e3
  ·exact UD _ (kd _ _ (λ _ _ e=>nomatch e) e3)
  ·exact UE _ e3
 ·refine bJ (λ m h=>?_)<|x.here
  exact⟨m,kd _ _ (λ _ _ e=>nomatch e) h⟩
theorem KQ(x:Rel W cx rw G D O sl s){G':Heap}{s':Shared}{ea C:Addr}{arg:V}(k:G.StaysIn G')(y:St W G' (D++O) s')(f:mD W G' (D++O) s'.heap ea C arg (.at .none)):
  eP W cx rw G O C arg (.ref ea) s':=⟨G',D,ea,_,rfl,k,(x.mono y k).dropped,f,.inr (.inl rfl)⟩
noncomputable def wC(W:Wd)(cx:Cx)(rw:Bool)(G:Heap)(D O:Led)(sl:List Slot)(Q:Value->Shared->Prop)(E:Value->Shared->Prop):Res->Prop
 | .ok v _=>∀G' cv s',G.StaysIn G'->Rel W cx rw G' D O sl s'->Rp W G' v cv->Q cv s'
 | .exc C a=>∀e s',eP W cx rw G O C a e s'->E e s'
theorem wD(HS:i5 W n call){c:Callee}{args:List V}{res:Res}(h:call c none args=some res)(C:bS W cx g)(Rm:dk n cx.A)(hh:cx.A.handled=none)(R:Rel W cx rw G D O sl s){f:Addr}{cH:List Value}
  (hf:k8 W G c f)(ra:dS W G args cH){Q:Value->Shared->Prop}
  (hQ:wC W cx rw G D O sl Q E res):wpAny (Md W) cx.A (PySem.call (.ref f) cH) Q E s:=by
 refine wpAny_call (HS c none args res h cx.A G (D++O) cx.stack s f 0 0 cH cH _ R.st C.frames R.frames hh Rm hf ra rfl ?_)
 cases res with
 |ok v b=>exact λ G' s' cv items k y _ r=>hQ G' cv s' k (R.mono y k) r
 |exc C' arg=>exact λ G' s' ea _ k y f=>hQ _ s' (KQ R k y f)
theorem A5(HS:i5 W n call){c:Callee}{b:List V}{args:List V}{v:V}{b':List V}(h:call c (some b) args=some (.ok v b'))(C:bS W cx g)(Rm:dk n cx.A)(hh:cx.A.handled=none)(R:Rel W cx rw G D O sl s){f:Addr}{cH:List Value}
  (hf:k8 W G c f)(ra:dS W G args cH){i:Nat}{z z':Slot}(hs:sl[i]?=some z)(hz:(z= .own b/\z'= .own b')\/(z= .aD b/\z'= .aD b')){p:Pl}{a:Addr}(hp:cx.pl[i]?=some (some p))(ha:At G D p (.ref a)){Q:Value->Shared->Prop}
  (hQ:∀G' D' cv s',G.StaysIn G'->bF D D'->Rel W cx rw G' D' O (sl.set i z') s'->Rp W G' v cv->Q cv s'):wpAny (Md W) cx.A (PySem.call (.ref f) (.ref a::cH)) Q E s:=by
 have KR:sl[i]?=some (.own b)\/sl[i]?=some (.aD b):=by rcases hz with ⟨rfl,_⟩|⟨rfl,_⟩<;> first|exact .inl hs|exact .inr hs
 refine fY (λ items hm rb hl=>?_)<|gV R KR hp ha
 refine wpAny_call (HS c (some b) args _ h cx.A G (D++O) cx.stack s f a i cH _ _ R.st C.frames R.frames hh Rm hf ra ⟨rfl,items,UD _ hm,rb⟩ ?_)
 intro G' s' cv bO k y r' r
 replace y:St W G' (Led.put (D++O) a (.list i bO)) s':=y
 rw[k7 R.st.led.nodup (cA hm)] at y
 refine d8 (λ R' kd=>?_)<|R.wB (z:=z') hp ha hm y k (by
  rcases hz with ⟨_,rfl⟩|⟨rfl,rfl⟩
  ·exact .inl rfl
  ·refine .inr ⟨rfl,?_⟩
   obtain⟨p',kT,GC,h1,_⟩:=R.get hs (by intro e;cases e)
   rw[hp] at kT;cases kT
   have:=At.unique R.st.led h1.left ha.left
   cases this;rfl) r'
 exact hQ G' _ cv s' k kd R' r
theorem fw{f:Nat}{c:Value}(x:St W G D s)(h:Rp W G (.obj f) c):c= .ref f/\FnAt f s.heap:=by
 simp only [Rp,Rep] at h
 obtain⟨e,oc,od,fd,os,h1⟩:=h
 exact⟨e,oc,od,fd,os,x.led.stays _ _ h1⟩
theorem sJ{k:Nat}{bM:List V}{c:Value}(x:St W G D s)(h:Rp W G (.lam k bM) c):∃f,c= .ref f/\FnAt f s.heap:=by
 simp only [Rp,Rep] at h
 obtain⟨a,cs,vs,e,⟨⟨oc,od,data,pW⟩,fd,h1,_,h3,_⟩,_⟩:=h
 simp only at h3
 subst h3
 exact⟨a,e,oc,od,fd,pW,x.led.stays _ _ h1⟩
theorem FnAt.keeps{f:Addr}{h h':Heap}(x:FnAt f h)(k:∀b o,h.get? b=some o->h'.get? b=some o):FnAt f h':=
 let ⟨oc,od,fd,os,e⟩:=x;⟨oc,od,fd,os,k _ _ e⟩
theorem qV{P:Prog}:∀{xs:Xs} {es:List Expr},b9 P lc xs g es=true->∀(pos:Pos) (env:Env),((backTo pos (starEach es env)).any λ x=>x.1)=false
 | .nil,[],_,_,_=>rfl
 | .nil,_::_,h,_,_=>absurd h UI
 | .cons x xs,[],h,_,_=>absurd h UI
 | .cons x xs,e::es,h,pos,env=>by
  replace h:(aI P lc x g e&&b9 P lc xs g es)=true:=h
  rw[Bool.and_eq_true] at h
  rw[aJ h.1]
  show(false || ((backTo pos (starEach es env)).any λ x=>x.1))=false
  rw[qV h.2 pos env];rfl
theorem mF{f:Addr}{pos:Pos}{xs:Xs}(qU:gK W n call lc xs){es:List Expr}(hc:b9 W.P lc xs g es=true)(C:bS W cx g)(Rm:dk n cx.A)(R0:Rel W cx g.rw G D O sl s)(hf:FnAt f s.heap)
  {α β:Type}{F:List V->List Slot->Option (R α)}{r:R α}(h:au (ip call xs sl) F=some r){rep:Heap->α->β->Prop}{Q':β->Shared->Prop}{Q:Value->Shared->Prop}(hQ:cM W cx g.rw G D O rep Q' E r)
  (T2:∀G' D' s',G.StaysIn G'->Rel W cx g.rw G' D' O sl s'->True)(MN:∀G' D' a8 s',G.StaysIn G'->Rel W cx g.rw G' D' O a8 s'->FnAt f s'.heap)
  (k:∀v a8 G' D' c s',F v a8=some r->G.StaysIn G'->bF D D'->Rel W cx g.rw G' D' O a8 s'->dS W G' v c->cM W cx g.rw G' D' O rep Q' E r->wpAny (Md W) cx.A (PySem.call (.ref f) c) Q E s'):
  wpAny (Md W) cx.A (callWith pos (.ref f) [] (backTo pos (starEach es cx.env)) []) Q E s:=by
 cases es with
 |nil=>
  refine callWith_F0 hf ?_
  refine Or.elim (cC h) (fb λ v a8 e1 e2=>?_) (fb λ C' arg e1 e2=>?_)
  ·cases xs with
   |nil=>
    replace e1:some (R.ok [] sl)=some (R.ok v a8):=e1
    cases e1
    exact k [] sl G D [] s e2 (StaysIn.refl _) (bF.refl _) R0 aL.nil hQ
   |cons x xs=>exact absurd hc UI
  ·cases xs with
   |nil=>
    replace e1:some (R.ok [] sl)=some (R.exc C' arg):=e1
    cases e1
   |cons x xs=>exact absurd hc UI
 |cons e es=>
  cases xs with
  |nil=>exact absurd hc UI
  |cons x xs=>
   have vj:(aI W.P lc x g e&&b9 W.P lc xs g es)=true:=hc
   rw[Bool.and_eq_true] at vj
   refine callWith_F hf ?_ (aJ vj.1 _ _) (qV vj.2 _ _)
   refine qU.use hc C Rm R0 h hQ λ v a8 G1 D1 c s1 h k1 k2 R1 rc hQ=>⟨MN G1 D1 a8 s1 k1 R1,?_⟩
   exact k v a8 G1 D1 c s1 h k1 k2 R1 rc hQ
theorem n5{r:Option Res}{a8:List Slot}{r':R V}(h:fv r a8=some r'){rep:Heap->V->Value->Prop}{Q:Value->Shared->Prop}(hQ:cM W cx rw G D O (Rp W) Q E r'):
  ∃res,r=some res/\wC W cx rw G D O a8 Q E res:=by
 unfold fv at h
 split at h
 ·replace h:=si h;subst h;exact⟨_,rfl,λ G' cv s' k R r=>hQ G' D cv s' k (bF.refl _) R r⟩
 ·replace h:=si h;subst h;exact⟨_,rfl,hQ⟩
 ·exact bj h
theorem EW(K:WdOk W)(HS:i5 W n call){f:Nat}{nm:Str}{xs:Xs}(qU:gK W n call lc xs):cE W n call lc (.call f nm xs):=λ g e hc cx G D O sl s r' Q E C Rm R0 h hQ=>by
 replace hc:Ae W.P f nm (b9 W.P lc xs g) g e=true:=hc
 replace h:(au (ip call xs sl) λ vs sl=>fv (call (.fn f) none vs) sl)=some r':=h
 refine Ew (λ id p1 es p2 hq hg _ hx=>?_) e hc
 refine wpAny_Call_ofName (jM K C R0.st hg λ c rc=>?_)
 refine d8 (λ z0 hf=>?_)<|fw R0.st rc;subst z0
 show wpAny _ _ (callWith _ _ [] _ []) Q E s
 refine mF qU hx C Rm R0 hf h hQ (λ _ _ _ _ _=>trivial) (λ G' D' a8 s' k R=>(fw R.st (Rep.keeps k _ rc)).2) λ vs aB G1 D1 cs s1 h k1 k2 R1 rs hQ=>?_
 refine aV (λ res hr hp=>?_)<|n5 (rep:=Rp W) h hQ
 exact wD HS hr C Rm (C.hh hq) R1 rfl rs hp
set_option tactic.hygienic true in
theorem A6(HS:i5 W n call){q:Nat}{xs:Xs}(qU:gK W n call lc xs):cE W n call lc (.fc q xs):=λ g e hc cx G D O sl s r' Q E C Rm R0 h hQ=>by
 replace hc:uV q (b9 W.P lc xs g) g e=true:=hc
 replace h:(match sl[q]? with
  |some (.val v)=>(fp v).bind λ c=>au (ip call xs sl) λ vs sl=>fv (call c none vs) sl
  |_=>none)=some r':=h
 refine Ag (λ id p0 es pos hq hg _ hx=>?_) e hc
 split at h
 ·rename_i v e
  obtain⟨p,hp,c,ha,rc⟩:=R0.get e (by intro e;cases e)
  refine wpAny_Call_ofName (ed C R0 hg hp ha ?_)
  show wpAny _ _ (callWith _ _ [] _ []) Q E s
  cases nh:fp v with
  |none=>rw[nh] at h;exact bj h
  |some PJ=>
  rw[nh] at h
  replace h:(au (ip call xs sl) λ vs sl=>fv (call PJ none vs) sl)=some r':=h
  have key:∀(f:Addr),c= .ref f->(∀G' D' a8 s',G.StaysIn G'->Rel W cx g.rw G' D' O a8 s'->FnAt f s'.heap)->(∀G',G.StaysIn G'->k8 W G' PJ f)->
    wpAny (Md W) cx.A (callWith pos c [] (backTo pos (starEach es cx.env)) []) Q E s:=λ f ec MN Q0=>by
   subst ec
   refine mF qU hx C Rm R0 (MN G D sl s (StaysIn.refl _) R0) h hQ (λ _ _ _ _ _=>trivial) MN λ vs aB G1 D1 cs s1 h k1 k2 R1 rs hQ=>?_
   refine aV (λ res hr hp=>?_)<|n5 (rep:=Rp W) h hQ
   exact wD HS hr C Rm (C.hh hq) R1 (Q0 G1 k1) rs hp
  cases v<;> simp only [fp] at nh<;> try (first|exact bj nh|exact kh nh|(cases nh;done))
  case obj f=>
   refine d8 (λ ec _=>?_)<|fw R0.st rc
   replace nh:=si nh;subst nh
   exact key f ec (λ G' D' a8 s' k R=>(fw R.st (Rep.keeps k _ rc)).2) λ _ _=>rfl
  case lam k bM=>
   refine aV (λ f ec _=>?_)<|sJ R0.st rc
   replace nh:=si nh;subst nh
   subst ec
   exact key f rfl (λ G' D' a8 s' k R=>by
    refine aV (λ f' e' hf=>?_)<|sJ R.st (Rep.keeps k _ rc)
    cases e';exact hf) λ G' k=>Rep.keeps k _ rc
 ·exact bj h
theorem A7(K:WdOk W)(HS:i5 W n call){f q:Nat}{nm:Str}{xs:Xs}(qU:gK W n call lc xs):cE W n call lc (.b8 f nm q xs):=λ g e hc cx G D O sl s r' Q E C Rm R0 h hQ=>by
 replace hc:uU W.P f nm q (b9 W.P lc xs g) g e=true:=hc
 replace h:(if listS sl q then au (ip call xs sl) λ vs sl=>match sl[q]? with
  |some (.own b)=>dQ (call (.fn f) (some b) vs) sl q
  |some (.aD b)=>dQ (call (.fn f) (some b) vs) sl q
  |_=>none
  else none)=some r':=h
 split at h
 case isFalse=>cases h
 rename_i Eg
 refine Af (λ id p0 j5 p1 es pos hq hw hg ha _ hx=>?_) e hc
 refine wpAny_Call_ofName (jM K C R0.st hg λ c rc=>?_)
 refine d8 (λ z0 hf=>?_)<|fw R0.st rc;subst z0
 show wpAny _ _ (callWith _ _ [] _ []) Q E s
 refine callWith_F (e:= .Name j5 p1) hf ?_ rfl (qV hx _ _)
 have MP:∃p a,cx.pl[q]?=some (some p)/\At G D p (.ref a):=by
  unfold listS at Eg
  split at Eg
  ·rename_i e
   obtain⟨p,hp,a,_,h1,_⟩:=R0.get e (by intro e;cases e)
   exact⟨p,a,hp,h1⟩
  ·rename_i e
   obtain⟨p,hp,_,h1,_⟩:=R0.get e (by intro e;cases e)
   exact⟨p,_,hp,h1⟩
  ·exact kh Eg
 refine fb (λ p a hp fD=>?_) MP;clear MP
 refine wpAny_items_cons (ed C R0 ha hp fD ?_) rfl
 refine qU.use hx C Rm R0 h hQ λ vs aB G1 D1 cs s1 h k1 k2 R1 rs hQ=>⟨(fw R1.st (Rep.keeps k1 _ rc)).2,?_⟩
 have fin:∀(z z':List V->Slot) (b:List V),aB[q]?=some (z b)->((∀b,z b= .own b)\/(∀b,z b= .aD b))->dQ (call (.fn f) (some b) vs) aB q=some r'->
   wpAny (Md W) cx.A (PySem.call (.ref f) (.ref a::cs)) Q E s1:=λ z _ b hs hz hr=>by
  cases Ik:call (.fn f) (some b) vs with
  |none=>rw[Ik] at hr;exact bj hr
  |some res=>
   rw[Ik] at hr
   cases res with
   |exc C' arg=>cases hr
   |ok v b'=>
    replace hr:(match aB[q]? with
     |some (.own _)=>some (R.ok v (aB.set q (.own b')))
     |some (.aD _)=>some (R.ok v (aB.set q (.aD b')))
     |_=>none)=some r':=hr
    have Q3:r'=R.ok v (aB.set q (z b')):=by
     rw[hs] at hr
     rcases hz with hz|hz
     ·rw[hz b] at hr;rw[hz b'];replace hr:=si hr;subst hr;rfl
     ·rw[hz b] at hr;rw[hz b'];replace hr:=si hr;subst hr;rfl
    subst Q3
    refine A5 (z:=z b) (z':=z b') HS Ik C Rm (C.hh hq) R1 rfl rs hs ?_ hp (fD.keep k1 k2) λ G' D' cv s' k kd R r=>hQ G' D' cv s' k kd R r
    rcases hz with hz|hz
    ·exact .inl ⟨hz b,hz b'⟩
    ·exact .inr ⟨hz b,hz b'⟩
 split at h
 ·exact fin .own .own _ (by assumption) (.inl λ _=>rfl) h
 ·exact fin .aD .aD _ (by assumption) (.inr λ _=>rfl) h
 ·exact bj h
theorem n6{q:Bool}{nm:Str}{x:Expr->Bool}{e:Expr}(hc:mX W.P q nm x g e=true):
  ∃id p0 x' pos,e= .Call (.Name id p0) [x'] [] pos/\(q=true->g.q=true)/\g.bi W.P nm id=true/\x x'=true:=by
 refine HN (λ id p1 x' p2 h1 h2 h3=>?_) e hc
 refine⟨_,_,_,_,rfl,λ e=>?_,h2,h3⟩
 rw[e] at h1;exact h1
theorem A8{nm:Str}{x y:Expr->Bool}{e:Expr}(hc:x7 W.P nm x y g e=true):
  ∃id p0 x' y' pos,e= .Call (.Name id p0) [x',y'] [] pos/\g.q=true/\g.bi W.P nm id=true/\x x'=true/\y y'=true:=by
 refine HP (λ id p1 x' y' p2 h1 h2 h3 h4=>?_) e hc
 exact⟨_,_,_,_,_,rfl,h1,h2,h3,h4⟩
theorem gE(K:WdOk W)(C:bS W cx g)(Rm:dk n cx.A)(R0:Rel W cx g.rw G D O sl s){nm id:Str}{b:String}{p0 pos:Pos}{x:X}{x':Expr}(hx:cE W n call lc x)(hb:g.bi W.P nm id=true)(boot:bootBuiltins nm=some (.builtin b))(hc:aI W.P lc x g x'=true)
  {α β:Type}{f:V->List Slot->Option (R α)}{r:R α}(h:au (ev call x sl) f=some r){rep:Heap->α->β->Prop}{Q':β->Shared->Prop}{Q:Value->Shared->Prop}(hQ:cM W cx g.rw G D O rep Q' E r)
  (k:∀v a8 G' D' c s',f v a8=some r->G.StaysIn G'->bF D D'->Rel W cx g.rw G' D' O a8 s'->Rp W G' v c->cM W cx g.rw G' D' O rep Q' E r->wpAny (Md W) cx.A (PySem.call (.builtin b) [c]) Q E s'):
  wpAny (Md W) cx.A (eval (.Call (.Name id p0) [x'] [] pos) cx.env) Q E s:=by
 refine wpAny_Call_ofName (mE K C R0.st hb boot ?_)
 show wpAny _ _ (callWith _ _ [] _ []) Q E s
 refine PyProof.Rows.callWith_builtin1 (wpAny_items_cons (hx.use hc C Rm R0 h hQ λ v a8 G' D' c s' h1 h2 h3 h4 h5 h6=>wpAny_items_nil (k v a8 G' D' c s' h1 h2 h3 h4 h5 h6)) (aJ hc _ _)) (aJ hc _ _) rfl
theorem sL(K:WdOk W)(C:bS W cx g)(Rm:dk n cx.A)(R0:Rel W cx g.rw G D O sl s){nm id:Str}{b:String}{p0 pos:Pos}{x:X}{x':Expr}(hx:cE W n call lc x)(hb:g.bi W.P nm id=true)(boot:bootBuiltins nm=some (.type b))(hc:aI W.P lc x g x'=true)
  {α β:Type}{f:V->List Slot->Option (R α)}{r:R α}(h:au (ev call x sl) f=some r){rep:Heap->α->β->Prop}{Q':β->Shared->Prop}{Q:Value->Shared->Prop}(hQ:cM W cx g.rw G D O rep Q' E r)
  (k:∀v a8 G' D' c s',f v a8=some r->G.StaysIn G'->bF D D'->Rel W cx g.rw G' D' O a8 s'->Rp W G' v c->cM W cx g.rw G' D' O rep Q' E r->wpAny (Md W) cx.A (PySem.call (.type b) [c]) Q E s'):
  wpAny (Md W) cx.A (eval (.Call (.Name id p0) [x'] [] pos) cx.env) Q E s:=by
 refine wpAny_Call_ofName (mE K C R0.st hb boot ?_)
 show wpAny _ _ (callWith _ _ [] _ []) Q E s
 refine PyProof.Rows.callWith_type1 (wpAny_items_cons (hx.use hc C Rm R0 h hQ λ v a8 G' D' c s' h1 h2 h3 h4 h5 h6=>wpAny_items_nil (k v a8 G' D' c s' h1 h2 h3 h4 h5 h6)) (aJ hc _ _)) (aJ hc _ _) rfl
theorem mG(K:WdOk W)(C:bS W cx g)(Rm:dk n cx.A)(R0:Rel W cx g.rw G D O sl s){nm id:Str}{b:String}{p0 pos:Pos}{x y:X}{x' y':Expr}(hx:cE W n call lc x)(hy:cE W n call lc y)(hb:g.bi W.P nm id=true)(boot:bootBuiltins nm=some (.builtin b))
  (hc:aI W.P lc x g x'=true)(Nw:aI W.P lc y g y'=true)
  {α β:Type}{f:V->V->List Slot->Option (R α)}{r:R α}(h:(au (ev call x sl) λ a sl=>au (ev call y sl) λ b sl=>f a b sl)=some r){rep:Heap->α->β->Prop}{Q':β->Shared->Prop}{Q:Value->Shared->Prop}(hQ:cM W cx g.rw G D O rep Q' E r)
  (k:∀v u a8 G' D' c d s',f v u a8=some r->G.StaysIn G'->bF D D'->Rel W cx g.rw G' D' O a8 s'->Rp W G' v c->Rp W G' u d->cM W cx g.rw G' D' O rep Q' E r->wpAny (Md W) cx.A (PySem.call (.builtin b) [c,d]) Q E s'):
  wpAny (Md W) cx.A (eval (.Call (.Name id p0) [x',y'] [] pos) cx.env) Q E s:=by
 refine wpAny_Call_ofName (mE K C R0.st hb boot ?_)
 show wpAny _ _ (callWith _ _ [] _ []) Q E s
 refine PyProof.Rows.callWith_builtin1 (wpAny_items_cons (hx.use hc C Rm R0 h hQ λ v aB G1 D1 c s1 h k1 k2 R1 rc hQ=>?_) (aJ hc _ _)) (aJ hc _ _) ?_
 ·refine wpAny_items_cons (hy.use Nw C Rm R1 h hQ λ u sl2 G2 D2 d s2 h k3 k4 R2 rd hQ=>wpAny_items_nil ?_) (aJ Nw _ _)
  exact k v u sl2 G2 D2 c d s2 h (StaysIn.trans k1 k3) (k2.trans k4) R2 (Rep.keeps k3 _ rc) rd hQ
 ·rw[aJ Nw];rfl
theorem Il(K:WdOk W){x:X}(hx:cE W n call lc x):cE W n call lc (.len x):=λ g e hc cx G D O sl s r' Q E C Rm R0 h hQ=>by
 replace hc:mX W.P false "len" (aI W.P lc x g) g e=true:=hc
 replace h:(au (ev call x sl) λ a sl=>(eH a).map (R.ok · sl))=some r':=h
 refine Ec (λ id p0 x' pos z4 _ hb pk=>?_)<|n6 hc;subst z4
 refine gE K C Rm R0 hx hb boot_len pk h hQ λ v aB G1 D1 c s1 h k1 k2 R1 rc hQ=>?_
 refine aV (λ w e1 z2=>?_)<|bG h;subst z2
 exact pR e1 R1.st rc λ c t rc=>hQ G1 D1 c _ (StaysIn.refl _) (bF.refl _) R1.tok rc
theorem EX(K:WdOk W){q:Nat}:cE W n call lc (.bu q):=λ g e hc cx G D O sl s r' Q E C Rm R0 h hQ=>by
 replace hc:Ai W.P q g e=true:=hc
 replace h:((eA sl q).bind eH).map (R.ok · sl)=some r':=h
 refine aV (λ w e1 z2=>?_)<|bG h;subst z2
 refine Ex (λ id p1 j5 p2 p3 h1 h2=>?_) e hc
 cases hv:eA sl q with
 |none=>rw[hv] at e1;exact bj e1
 |some v0=>
  rw[hv] at e1
  replace e1:eH v0=some w:=e1
  have fD:∃p c,cx.pl[q]?=some (some p)/\At G D p c:=by
   unfold eA at hv
   split at hv
   ·rename_i e;exact k9 R0 e (by intro e;cases e)
   ·rename_i e;exact k9 R0 e (by intro e;cases e)
   ·rename_i e;exact k9 R0 e (by intro e;cases e)
   ·exact bj hv
  refine fb (λ p c hp ha=>?_) fD;clear fD
  refine wpAny_Call_ofName (mE K C R0.st h1 boot_len ?_)
  show wpAny _ _ (callWith _ _ [] _ []) Q E s
  refine PyProof.Rows.callWith_builtin1 (wpAny_items_cons (ed C R0 h2 hp ha (wpAny_items_nil ?_)) rfl) rfl rfl
  rcases pV R0 hv hp ha with rv|⟨a,items,xs,rfl,rfl,rs,hl⟩
  ·exact pR e1 R0.st rv λ c t rc=>hQ G D c _ (StaysIn.refl _) (bF.refl _) R0.tok rc
  ·simp only [eH] at e1
   split at e1
   ·rename_i ng
    replace e1:=si e1;subst e1
    exact pQ hl rs ng λ c t rc=>hQ G D c _ (StaysIn.refl _) (bF.refl _) R0.tok rc
   ·exact bj e1
theorem Im(K:WdOk W){x:X}(hx:cE W n call lc x):cE W n call lc (.abs x):=λ g e hc cx G D O sl s r' Q E C Rm R0 h hQ=>by
 replace hc:mX W.P false "abs" (aI W.P lc x g) g e=true:=hc
 replace h:(au (ev call x sl) λ a sl=>match a with| .int i=>some (R.ok (V.int i.natAbs) sl)|_=>none)=some r':=h
 refine Ec (λ id p0 x' pos z4 _ hb pk=>?_)<|n6 hc;subst z4
 refine gE K C Rm R0 hx hb boot_abs pk h hQ λ v aB G1 D1 c s1 h k1 k2 R1 rc hQ=>?_
 cases v<;> try (first|exact bj h|exact kh h|(replace h:=si h;subst h;done))
 replace h:=si h;subst h
 exact yg rc λ c t rc=>hQ G1 D1 c _ (StaysIn.refl _) (bF.refl _) R1.tok rc
theorem Io(K:WdOk W){x:X}(hx:cE W n call lc x):cE W n call lc (.sum x):=λ g e hc cx G D O sl s r' Q E C Rm R0 h hQ=>by
 replace hc:mX W.P true "sum" (aI W.P lc x g) g e=true:=hc
 replace h:(au (ev call x sl) λ a sl=>(uD a).map (R.ok · sl))=some r':=h
 refine Ec (λ id p0 x' pos z4 hq hb pk=>?_)<|n6 hc;subst z4
 refine gE K C Rm R0 hx hb boot_sum pk h hQ λ v aB G1 D1 c s1 h k1 k2 R1 rc hQ=>?_
 refine aV (λ w e1 z2=>?_)<|bG h;subst z2
 refine bJ (λ m hm=>?_)<|R1.here
 exact yj e1 (C.hh (hq rfl)) R1.st rc (UD _ hm) λ c s' y rc=>hQ G1 D1 c _ (StaysIn.refl _) (bF.refl _) (R1.mono y (StaysIn.refl _)) rc
theorem vk(K:WdOk W){x:X}(hx:cE W n call lc x):cE W n call lc (.bytesOf x):=λ g e hc cx G D O sl s r' Q E C Rm R0 h hQ=>by
 replace hc:mX W.P true "bytes" (aI W.P lc x g) g e=true:=hc
 replace h:(au (ev call x sl) λ a sl=>(kk a).map (R.ok · sl))=some r':=h
 refine Ec (λ id p0 x' pos z4 hq hb pk=>?_)<|n6 hc;subst z4
 refine sL K C Rm R0 hx hb Boot.«bytes» pk h hQ λ v aB G1 D1 c s1 h k1 k2 R1 rc hQ=>?_
 refine aV (λ w e1 z2=>?_)<|bG h;subst z2
 exact sG e1 (C.hh (hq rfl)) R1.st rc λ c s' y rc=>hQ G1 D1 c _ (StaysIn.refl _) (bF.refl _) (R1.mono y (StaysIn.refl _)) rc
theorem EY(K:WdOk W){x y:X}(hx:cE W n call lc x)(hy:cE W n call lc y):cE W n call lc (.max2 x y):=λ g e hc cx G D O sl s r' Q E C Rm R0 h hQ=>by
 replace hc:x7 W.P "max" (aI W.P lc x g) (aI W.P lc y g) g e=true:=hc
 replace h:(au (ev call x sl) λ a sl=>au (ev call y sl) λ b sl=>match a,b with| .int i,.int j=>some (R.ok (V.int (if i<j then j else i)) sl)|_,_=>none)=some r':=h
 refine Pu (λ id p0 x' y' pos z5 hq hb pk Nx=>?_)<|A8 hc;subst z5
 refine mG K C Rm R0 hx hy hb boot_max pk Nx h hQ λ v u aB G1 D1 c d s1 h k1 k2 R1 rc rd hQ=>?_
 cases v<;> try (first|exact bj h|exact kh h|(cases h;done))
 cases u<;> try (first|exact bj h|exact kh h|(replace h:=si h;subst h;done))
 replace h:=si h;subst h
 refine bJ (λ m hm=>?_)<|R1.here
 exact yh (C.hh hq) R1.st rc rd (UD _ hm) λ c s' y rc=>hQ G1 D1 c _ (StaysIn.refl _) (bF.refl _) (R1.mono y (StaysIn.refl _)) rc
theorem EZ(K:WdOk W){x y:X}(hx:cE W n call lc x)(hy:cE W n call lc y):cE W n call lc (.min2 x y):=λ g e hc cx G D O sl s r' Q E C Rm R0 h hQ=>by
 replace hc:x7 W.P "min" (aI W.P lc x g) (aI W.P lc y g) g e=true:=hc
 replace h:(au (ev call x sl) λ a sl=>au (ev call y sl) λ b sl=>match a,b with| .int i,.int j=>some (R.ok (V.int (if j<i then j else i)) sl)|_,_=>none)=some r':=h
 refine Pu (λ id p0 x' y' pos z5 hq hb pk Nx=>?_)<|A8 hc;subst z5
 refine mG K C Rm R0 hx hy hb boot_min pk Nx h hQ λ v u aB G1 D1 c d s1 h k1 k2 R1 rc rd hQ=>?_
 cases v<;> try (first|exact bj h|exact kh h|(cases h;done))
 cases u<;> try (first|exact bj h|exact kh h|(replace h:=si h;subst h;done))
 replace h:=si h;subst h
 refine bJ (λ m hm=>?_)<|R1.here
 exact yi (C.hh hq) R1.st rc rd (UD _ hm) λ c s' y rc=>hQ G1 D1 c _ (StaysIn.refl _) (bF.refl _) (R1.mono y (StaysIn.refl _)) rc
set_option tactic.hygienic true in
theorem E0{x:X}(hx:cE W n call lc x):iS W n call lc (.val x):=λ g e hc cx G D O sl s r' Q E C Rm R0 h hQ=>by
 replace hc:(pL e&&aI W.P lc x g e)=true:=hc
 replace h:(au (ev call x sl) λ v sl=>(El v).map (R.ok · sl))=some r':=h
 rw[Bool.and_eq_true] at hc
 refine wpAny_isTrue_value (hx.use hc.2 C Rm R0 h hQ λ v aB G1 D1 c s1 h k1 k2 R1 rc hQ=>?_) ?_
 ·refine aV (λ b e1 z2=>?_)<|bG h;subst z2
  cases v<;> simp only [El] at e1<;> try (first|exact bj e1|exact kh e1|(replace e1:=si e1;subst e1;done))
  replace e1:=si e1;subst e1
  simp only [Rp,Rep] at rc
  subst rc
  exact wpAny_truthy_bool (hQ G1 D1 _ _ (StaysIn.refl _) (bF.refl _) R1 rfl)
 ·have hp:=hc.1
  cases e
  case UnaryOp op x p=>cases op<;> first|rfl|exact absurd hp UI
  all_goals first|rfl|exact absurd hp UI
theorem A9{op:o9}{l r:X}(hl:cE W n call lc l)(hr:cE W n call lc r):iS W n call lc (.aC op l r):=λ g e hc cx G D O sl s r' Q E C Rm R0 h hQ=>by
 replace hc:z6 op (aI W.P lc l g) (aI W.P lc r g) e=true:=hc
 replace h:(au (ev call l sl) λ a sl=>au (ev call r sl) λ b sl=>(cL op a b).map (R.ok · sl))=some r':=h
 refine Aa (λ l' r' p1 h0 h2 h3=>?_) e hc
 refine wpAny_isTrue_Compare1 (hl.use h2 C Rm R0 h hQ λ a aB G1 D1 ca s1 h k1 k2 R1 ra hQ=>?_) (iy h0)
 refine hr.use h3 C Rm R1 h hQ λ b sl2 G2 D2 cb s2 h k3 k4 R2 rb hQ=>?_
 refine aV (λ v e1 z2=>?_)<|bG h;subst z2
 exact jL e1 R2.st (Rep.keeps k3 _ ra) rb (ix Rm) λ t=>wpAny_truthy_bool (hQ G2 D2 _ _ (StaysIn.refl _) (bF.refl _) R2.tok rfl)
theorem Ba{l m r:X}{o1 o2:o9}(hl:cE W n call lc l)(hm:cE W n call lc m)(hr:cE W n call lc r):iS W n call lc (.il l o1 m o2 r):=λ g e hc cx G D O sl s r' Q E C Rm R0 h hQ=>by
 replace hc:An (aI W.P lc l g) o1 (aI W.P lc m g) o2 (aI W.P lc r g) e=true:=hc
 replace h:(au (ev call l sl) λ a sl=>au (ev call m sl) λ b sl=>match cL o1 a b with
  |some true=>au (ev call r sl) λ c sl=>(cL o2 b c).map (R.ok · sl)
  |some false=>some (R.ok false sl)
  |none=>none)=some r':=h
 refine Ez (λ l' m' q' p1 h3 h4 h5 h6=>?_) e hc
 refine isTrue_chain (hl.use h4 C Rm R0 h hQ λ a aB G1 D1 ca s1 h k1 k2 R1 ra hQ=>?_) (iy h3)
 unfold testChain
 refine UC (wpAny_holding (hm.use h5 C Rm R1 h hQ λ b sl2 G2 D2 cb s2 h k3 k4 R2 rb hQ=>?_))
 refine UC (wpAny_standAt (UC (wpAny_holding ?_)))
 cases Eh:cL o1 a b with
 |none=>rw[Eh] at h;exact bj h
 |some k=>
  rw[Eh] at h
  refine jL Eh R2.st (Rep.keeps k3 _ ra) rb (ix Rm) λ t=>?_
  refine UC (wpAny_release (UC (wpAny_holding (wpAny_truthy_bool ?_))))
  cases k with
  |false=>replace h:=si h;subst h;exact UL (hQ G2 D2 _ _ (StaysIn.refl _) (bF.refl _) R2.tok rfl)
  |true=>
   replace h:(au (ev call r sl2) λ c sl=>(cL o2 b c).map (R.ok · sl))=some r':=h
   show wpAny _ _ (testChain _ cb [ph o2] [eval _ cx.env]) Q E _
   unfold testChain
   refine UC (wpAny_holding (hr.use h6 C Rm (R2.tok (t:=t)) h hQ λ c lZ G3 D3 cc s3 h k5 k6 R3 rc hQ=>?_))
   refine aV (λ v e1 z2=>?_)<|bG h;subst z2
   refine UC (wpAny_standAt (UC (wpAny_operateT ?_)))
   exact jL e1 R3.st (Rep.keeps k5 _ rb) rc (ix Rm) λ t=>wpAny_holding (wpAny_truthy_bool (hQ G3 D3 _ _ (StaysIn.refl _) (bF.refl _) R3.tok rfl))
theorem E1{t:T}(ht:iS W n call lc t):iS W n call lc (.not t):=λ g e hc cx G D O sl s r' Q E C Rm R0 h hQ=>by
 replace hc:HQ (lT W.P lc t g) e=true:=hc
 replace h:(au (iW call t sl) λ b sl=>some (R.ok (!b) sl))=some r':=h
 refine HT (λ t' p1 hc=>?_) e hc
 refine wpAny_isTrue_Not (ht.use hc C Rm R0 h hQ λ b aB G1 D1 s1 h k1 k2 R1 hQ=>?_)
 replace h:=si h;subst h
 exact hQ G1 D1 _ _ (StaysIn.refl _) (bF.refl _) R1 rfl
theorem E2{ts:Ts}(ht:pT W n call lc true ts):iS W n call lc (.and ts):=λ g e hc cx G D O sl s r' Q E C Rm R0 h hQ=>by
 replace hc:sk (nW W.P lc ts g) e=true:=hc
 refine wt (λ es p1 hc=>?_) e hc
 exact wpAny_isTrue_BoolOp (ht g _ hc cx G D O sl s r' Q E C Rm R0 h hQ)
theorem Ip{ts:Ts}(ht:pT W n call lc false ts):iS W n call lc (.or ts):=λ g e hc cx G D O sl s r' Q E C Rm R0 h hQ=>by
 replace hc:Np (nW W.P lc ts g) e=true:=hc
 refine KG (λ es p1 hc=>?_) e hc
 exact wpAny_isTrue_BoolOp (ht g _ hc cx G D O sl s r' Q E C Rm R0 h hQ)
theorem Bc{b:Bool}:pT W n call lc b .nil:=λ g es hc cx G D O sl s r' Q E C Rm R0 h hQ=>by
 replace h:some (R.ok b sl)=some r':=h
 replace h:=si h;subst h
 cases es with
 |cons a b=>exact absurd hc UI
 |nil=>
  cases b with
  |true=>exact wpAny_allTrue_And_nil (hQ G D _ _ (StaysIn.refl _) (bF.refl _) R0 rfl)
  |false=>exact wpAny_allTrue_Or_nil (hQ G D _ _ (StaysIn.refl _) (bF.refl _) R0 rfl)
theorem yr{b:Bool}{t:T}{ts:Ts}(ht:iS W n call lc t)(MQ:pT W n call lc b ts):pT W n call lc b (.cons t ts):=λ g es hc cx G D O sl s r' Q E C Rm R0 h hQ=>by
 replace h:(au (iW call t sl) λ c sl=>if c==b then r9 call b ts sl else some (R.ok c sl))=some r':=h
 cases es with
 |nil=>exact absurd hc UI
 |cons e es=>
  replace hc:(lT W.P lc t g e&&nW W.P lc ts g es)=true:=hc
  rw[Bool.and_eq_true] at hc
  cases b with
  |true=>
   refine wpAny_allTrue_And_cons (ht.use hc.1 C Rm R0 h hQ λ c aB G1 D1 s1 h k1 k2 R1 hQ=>?_)
   cases c with
   |true=>exact MQ g es hc.2 cx G1 D1 O aB s1 r' Q E C Rm R1 h hQ
   |false=>replace h:=si h;subst h;exact hQ G1 D1 _ _ (StaysIn.refl _) (bF.refl _) R1 rfl
  |false=>
   refine wpAny_allTrue_Or_cons (ht.use hc.1 C Rm R0 h hQ λ c aB G1 D1 s1 h k1 k2 R1 hQ=>?_)
   cases c with
   |false=>exact MQ g es hc.2 cx G1 D1 O aB s1 r' Q E C Rm R1 h hQ
   |true=>replace h:=si h;subst h;exact hQ G1 D1 _ _ (StaysIn.refl _) (bF.refl _) R1 rfl
end Mine
end
section
open PySem PySem.W PyProof.Rows PySem.Calls PySem.SeqAt PySem.Spec Builtin Builtin.ObjectAttr
namespace Mine
theorem Be:builtinKind "BaseException.__getattribute__"=some .slot:=by decide +kernel
theorem yt:splitId "BaseException.__getattribute__"=some ("BaseException","__getattribute__"):=by decide +kernel
structure dK(K:Frag)(C:Addr):Prop where
 ga:findIn K (.ref C) "__getattribute__"=some (some (.builtin "BaseException.__getattribute__"))
 hook:findIn K (.ref C) "__getattr__"=some none
 ag:mroIn K C (.type "BaseException")=some true
 obj:mroIn K C (.type "object")=some true
 cls:findIn K (.ref C) "__class__"=some (some (.builtin "object.__class__"))
 MR:(clsIn K C).isSome=true
 typ:typeIn K (.ref C)=some (.type "type")
 Q4:(clsIn K C).any (·.hasDict)=true
 KS:findIn K (.ref C) "at"=some none
theorem Iq:specialIn [] (.builtin "object.__class__") "__get__"=some (some (.builtin "getset_descriptor.__get__")):=by decide +kernel
theorem yu:takesIn [] (.builtin "object.__class__")=some true:=by decide +kernel
section
variable{prog:Program}{w:World}{A:Around}{E:Value->Shared->Prop}{s:Shared}{K:Frag}{x C:Addr}{ox:Obj}{od:Option Obj}{name:Str}
theorem Bf{R:Result->Shared->Prop}{tk:Tok}(X:K.In s.heap)(I:InstAt s.heap x ox C od)(L:dK K C)
  (h:wpAny (model prog w) A.in1 (Builtin.«object.__getattribute__» ⟨[.ref x,.str name tk],[]⟩)
   (λ fin s'=>match fin with| .done f=>R (.ok f) s'| .again c'=>c'.quiet=true/\codeAny (model prog w) A c' R s') (λ e s'=>R (.error e) s') s):
  codeAny (model prog w) A (.call (.builtin "BaseException.__getattribute__") ⟨[.ref x,.str name tk],[]⟩) R s:=by
 have sub:Looks (model prog w) s.heap (isInstance (.ref x) (.type "BaseException")) true:=I.type.andThen (looks_mroIn X L.ag)
 exact codeAny_call_builtin PySem.F.attr_Exception.ga.plain PySem.F.entry_bexc_ga (@check_slot (model prog w) _ _ s "BaseException.__getattribute__" "BaseException" "__getattribute__" (.ref x) [.str name tk] [] _ Be yt sub (PySem.F.args_bexc_ga _ _) h)
theorem Bg{fill expr:Bool}{tk:Tok}{Q:Value->Shared->Prop}(X:K.In s.heap)(I:InstAt s.heap x ox C od)(L:dK K C)
  (h:codeAny (model prog w) A (.call (.builtin "BaseException.__getattribute__") ⟨[.ref x,.str name tk],[]⟩) (λ r s'=>match r with| .ok (.ret v)=>wpAny (model prog w) A (handedOut v) Q E s'|_=>False) s):
  wpAny (model prog w) A (getAttrBy (.ref x) (.str name tk) fill expr) Q E s:=by
 obtain⟨hh,g,d,t,os⟩:=s
 have L0:=I.type (M:=model prog w)
 have L1:=looks_findIn (M:=model prog w) X L.ga
 have L2:=looks_findIn (M:=model prog w) X L.hook
 have Q5:(expr&&onTheHeap (Value.builtin "BaseException.__getattribute__"))=false:=by cases expr<;> rfl
 unfold getAttrBy
 refine wpAny_holding (UC (L0.at (UC (L1.at ?_))))
 show wpAny _ _ (if (onTheHeap (Value.ref C)&&Value.builtin "BaseException.__getattribute__"==Value.builtin "object.__getattribute__")=true then _ else getAttrByItsOwn _ _ _ _ _ _) _ _ _
 rw[if_neg (by rw[show(Value.builtin "BaseException.__getattribute__"==Value.builtin "object.__getattribute__")=false from by decide +kernel,Bool.and_false];decide)]
 unfold getAttrByItsOwn hookBefore
 refine UC ?_
 show wpAny _ _ (typeLookup (.ref C) "__getattr__") _ _ _
 refine L2.at ?_
 unfold callGetattribute
 rw[Q5]
 unfold boundAndCalled
 refine UC (wpAny_attempt (wpAny_holding ?_))
 show wpAny _ _ (bindSpecial (.builtin "BaseException.__getattribute__") (.ref x) >>=_) _ _ _
 refine UC (wpAny_of_eq (PySem.F.attr_Exception.ga.bind _) (wpAny_call (codeAny_mono h λ r s' z=>?_)))
 rcases r with e|(v|_|_|_)<;> first|exact z|exact z.elim
theorem pq{v:Value}{tk:Tok}{Q:Fin->Shared->Prop}(X:K.In s.heap)(I:InstAt s.heap x ox C od)(hf:findObj K C od name=some (.value v))(h:Q (.done (.ret v)) s):
  wpAny (model prog w) A (Builtin.«object.__getattribute__» ⟨[.ref x,.str name tk],[]⟩) Q E s:=by
 obtain⟨hh,gg,d,t,os⟩:=s
 have L0:=I.type (M:=model prog w)
 have L1:=looks_find (M:=model prog w) X I hf
 refine UC (UL (UC (UL (UC (L0.at (UC (L1.at ?_)))))))
 exact UL h
theorem qW{g a:Value}{tk:Tok}{Q:Fin->Shared->Prop}(X:K.In s.heap)(I:InstAt s.heap x ox C od)(hf:findObj K C od name=some (.bind g a))
  (h:wpAny (model prog w) A (call g [a,.ref x,.ref C]) (λ v s'=>Q (.done (.ret v)) s') E s):
  wpAny (model prog w) A (Builtin.«object.__getattribute__» ⟨[.ref x,.str name tk],[]⟩) Q E s:=by
 obtain⟨hh,gg,d,t,os⟩:=s
 have L0:=I.type (M:=model prog w)
 have L1:=looks_find (M:=model prog w) X I hf
 refine UC (UL (UC (UL (UC (L0.at (UC (L1.at ?_)))))))
 show wpAny _ _ (holding [a] (call g [a,.ref x,.ref C]) >>=ret) _ _ _
 exact UC (wpAny_holding (wpAny_mono h (λ v s' z=>UL z) λ _ _ z=>z))
theorem Bh{v:Value}{expr:Bool}{Q:Value->Shared->Prop}(X:K.In s.heap)(I:InstAt s.heap x ox C od)(L:dK K C)(hf:findObj K C od name=some (.value v))(hh:handedIn v=true)(h:Q v { s with toks:=s.toks+1 }):
  wpAny (model prog w) A (getAttr (.ref x) name expr) Q E s:=by
 unfold getAttr
 exact UC (wpAny_mkText (Bg (s:={ s with toks:=s.toks+1 }) X I L (Bf (s:={ s with toks:=s.toks+1 }) X I L (pq (s:={ s with toks:=s.toks+1 }) X I hf (handed_on hh h)))))
theorem yv{Q:Option Value->Shared->Prop}(X:K.In s.heap)(I:InstAt s.heap x ox C od)(L:dK K C)(hf:findObj K C od "__class__"=some (.bind (.builtin "getset_descriptor.__get__") (.builtin "object.__class__")))
  (h:Q (some (.ref C)) { s with toks:=s.toks+1 }):wpAny (model prog w) A (getAttr? (.ref x) "__class__") Q E s:=by
 unfold getAttr? getAttrBy?
 refine UC (wpAny_mkText (UC (wpAny_attempt ?_)))
 refine Bg (s:={ s with toks:=s.toks+1 }) X I L (Bf (s:={ s with toks:=s.toks+1 }) X I L (qW (s:={ s with toks:=s.toks+1 }) X I hf (wpAny_call (class_get (s:={ s with toks:=s.toks+1 }) (ox:=ox) (od:=od) X I L.obj ?_))))
 exact handed_on rfl (UL h)
theorem iA{M:Model}{h:Heap}{D:Addr}(X:K.In h)(e:(clsIn K D).isSome=true):Looks M h (isType (.ref D)) true:=by
 unfold clsIn at e
 split at e
 ·rename_i ho
  intro A' Q' E' s' k q
  unfold isType loadHead
  exact UC (wpAny_loadPart (k _ _ (X _ _ ho)) (UL q))
 ·exact kh e
theorem vm{D:Addr}{dep:Int}{tk:Tok}{Q:Fin->Shared->Prop}(X:K.In s.heap)(I:InstAt s.heap x ox C od)(L:dK K C)(LD:dK K D)(et:C≠D)(hs:mroIn K C (.ref D)=some false)
  (hf:findObj K C od "__class__"=some (.bind (.builtin "getset_descriptor.__get__") (.builtin "object.__class__")))
  (h:Q (.done (.ret (.bool false))) { s with toks:=s.toks+1 }):wpAny (model prog w) A (Builtin.«isinstance.nested» ⟨[.ref x,.ref D,.int dep tk],[]⟩) Q E s:=by
 have Ny:=iA (M:=model prog w) X L.MR
 have Q6:=iA (M:=model prog w) X LD.MR
 have E3:=looks_mroIn (M:=model prog w) X hs
 have Nz:=looks_typeIn (M:=model prog w) X LD.typ
 obtain⟨h0,g,d,tt,os⟩:=s
 have L0:=I.type (M:=model prog w)
 have LI:Looks (model prog w) h0 (isInstance (.ref x) (.ref D)) false:=L0.andThen E3
 unfold Builtin.«isinstance.nested»
 refine UC (L0.at ?_)
 rw[if_neg (λ q=>et (Value.ref.inj (beq_iff_eq.mp q)))]
 refine UC (Nz.at ?_)
 rw[if_pos (by decide)]
 k_delta "plainIsInstance"
 refine UC (UC (Q6.at ?_))
 simp only [Bool.not_true,Bool.false_eq_true,if_false]
 refine UC (LI.at ?_)
 simp only [Bool.false_eq_true,if_false]
 refine UC (yv X I L hf ?_)
 refine UC (Ny.at ?_)
 simp only [Bool.not_true,Bool.false_eq_true,if_false]
 refine UC (wpAny_rule ?_)
 refine E3.at ?_
 first
  |exact UL h
  |exact UL (UL h)
  |exact UC (UL (UL h))
theorem sM{dep:Int}{tk:Tok}{Q:Fin->Shared->Prop}(I:InstAt s.heap x ox C od)(h:Q (.done (.ret (.bool true))) s):
  wpAny (model prog w) A (Builtin.«isinstance.nested» ⟨[.ref x,.ref C,.int dep tk],[]⟩) Q E s:=by
 obtain⟨h0,g,d,tt,os⟩:=s
 have L0:=I.type (M:=model prog w)
 unfold Builtin.«isinstance.nested»
 refine UC (L0.at ?_)
 rw[if_pos (by simp)]
 exact UC (wpAny_rule (UC (UL (UL h))))
theorem vn{D:Addr}{Q:Value->Shared->Prop}(X:K.In s.heap)(I:InstAt s.heap x ox C od)(L:dK K C)(LD:dK K D)(hs:C≠D->mroIn K C (.ref D)=some false)
  (hf:findObj K C od "__class__"=some (.bind (.builtin "getset_descriptor.__get__") (.builtin "object.__class__")))
  (h:∀t,Q (.bool (decide (C=D))) { s with toks:=t }):wpAny (model prog w) A (call (.builtin "isinstance") [.ref x,.ref D]) Q E s:=by
 by_cases e:C=D
 ·subst e
  refine call_isinstance (S:=λ _ R s=>(K.In s.heap/\InstAt s.heap x ox C od)/\R (.ok (.ret (.bool true))) s)
   (λ _ _ _ _ _ hs=>isinstance_outer (sM hs.1.2 hs.2) (by intro q;cases q)) ⟨⟨X,I⟩,?_⟩
  have:=h s.toks
  rw[UJ rfl] at this
  exact this
 ·refine call_isinstance (S:=λ _ R s=>(K.In s.heap/\InstAt s.heap x ox C od)/\R (.ok (.ret (.bool false))) { s with toks:=s.toks+1 })
   (λ _ _ _ _ _ wu=>isinstance_outer (vm wu.1.1 wu.1.2 L LD e (hs e) hf wu.2) (by intro q;cases q)) ⟨⟨X,I⟩,?_⟩
  have:=h (s.toks+1)
  rw[UM e] at this
  exact this
end
end Mine
end
section
open PySem PySem.W PyProof.Rows PySem.Calls PySem.SeqAt PySem.Spec
namespace Mine
variable{W:Wd}{n:Nat}{call:Hd}{lc:Nat->Scope->Expr->Bool}
variable{cx:Cx}{g:bQ}{rw:Bool}{G:Heap}{D O:Led}{sl:List Slot}{s:Shared}{E:Value->Shared->Prop}
structure WdOk2(W:Wd):Prop extends WdOk W where
 look:∀C∈W.P.bad::W.P.fN,dK W.K C
 apart:∀C∈W.P.fN,∀D∈W.P.fN,C≠D->mroIn W.K C (.ref D)=some false
 gs:specialIn W.K (.builtin "object.__class__") "__get__"=some (some (.builtin "getset_descriptor.__get__"))
 takes:takesIn W.K (.builtin "object.__class__")=some true
 subs:∀p∈W.P.subs,(clsIn W.K p.1).isSome=true/\mroIn W.K p.1 (.type "BaseException")=some true/\typeIn W.K (.ref p.1)=some (.type "type")/\
  ∀C∈W.P.bad::W.P.fN,mroIn W.K C (.ref p.1)=some (p.2.contains C)
 exc:∀C∈W.P.fN,excIn W.K C [.type "Exception",.type "BaseException",.type "object"] "Exception.__new__"=true
 tabs:∀q∈W.tabs,∀G,W.K.In G->CodeHd G q.1 q.2.1
 bm:∃bm o,nsIn W.K mainGlobals "__builtins__"=some (some (.ref bm))/\W.K.lookup bm=some o/\bm≠builtinsNs/\bm≠mainGlobals/\o.cls= .type "module"/\o.dict=some builtinsNs/\o.data= .plain
theorem KU{M:Model}{A:Around}{E:Value->Shared->Prop}{s:Shared}{env:Env}{o:Expr}{name:Str}{apos pos:Pos}{Q:Value->Shared->Prop}(hp:kQ apos pos=true)
  (ho:attributeBase o name env (eval o env)=eval o env)
  (h:wpAny M A (eval o env) (λ ov s₁=>∀pl,wpAny M A (getMethod ov name pl) (λ fx s₂=>wpAny M A (callWith pos fx.1 fx.2 [] []) Q E s₂) E s₁) E s):
  wpAny M A (eval (.Call (.Attribute o name apos) [] [] pos) env) Q E s:=by
 rw[arm_eval_Call,ho]
 refine UC (wpAny_mono h (λ ov s₁ h₁=>UC (wpAny_standAt ?_)) λ _ _ x=>x)
 unfold methodCall
 refine UC (wpAny_holding ?_)
 unfold calleeOf
 rw[if_pos (show methodCallForm (([]:List Expr).length+([]:List Keyword).length) (backTo pos (starEach [] env)) (backToKw pos (keywordEach [] env))=true by rfl)]
 refine wpAny_mono (h₁ _) (λ fx s₂ h₂=>?_) λ _ _ x=>x
 unfold methodCallPos
 rw[if_pos (by unfold kQ at hp;rw[hp,Bool.or_true])]
 exact UC (UL h₂)
theorem KV{M:Model}{A:Around}{E:Value->Shared->Prop}{s:Shared}{env:Env}{o:Expr}{name:Str}{apos pos:Pos}{e:Expr}{Q:Value->Shared->Prop}(hp:kQ apos pos=true)
  (ho:attributeBase o name env (eval o env)=eval o env)(he:∀r,starEach (e::r) env=(false,eval e env)::starEach r env)
  (h:wpAny M A (eval o env) (λ ov s₁=>∀pl,wpAny M A (getMethod ov name pl) (λ fx s₂=>wpAny M A (callWith pos fx.1 fx.2 (backTo pos (starEach [e] env)) []) Q E s₂) E s₁) E s):
  wpAny M A (eval (.Call (.Attribute o name apos) [e] [] pos) env) Q E s:=by
 rw[arm_eval_Call,ho]
 refine UC (wpAny_mono h (λ ov s₁ h₁=>UC (wpAny_standAt ?_)) λ _ _ x=>x)
 unfold methodCall
 refine UC (wpAny_holding ?_)
 unfold calleeOf
 rw[if_pos (show methodCallForm (([e]:List Expr).length+([]:List Keyword).length) (backTo pos (starEach [e] env)) (backToKw pos (keywordEach [] env))=true by rw[he];rfl)]
 refine wpAny_mono (h₁ _) (λ fx s₂ h₂=>?_) λ _ _ x=>x
 unfold methodCallPos
 rw[if_pos (by unfold kQ at hp;rw[hp,Bool.or_true])]
 exact UC (UL h₂)
theorem yw{x:X}(hx:cE W n call lc x):cE W n call lc (.ki x):=λ g e hc cx G D O sl s r' Q E C Rm R0 h hQ=>by
 replace hc:qK (aI W.P lc x g) e=true:=hc
 replace h:(au (ev call x sl) λ a sl=>(nu a).map (R.ok · sl))=some r':=h
 refine x9 (λ x' apos pos NA hb pk=>?_) e hc
 obtain⟨l,o,r,p,rfl⟩:∃l o r p,x'= .BinOp l o r p:=by
  cases x'<;> first|exact⟨_,_,_,_,rfl⟩|exact absurd hb UI
 refine KU NA rfl (hx.use pk C Rm R0 h hQ λ v aB G1 D1 c s1 h k1 k2 R1 rc hQ=>?_)
 intro pl
 refine aV (λ w e1 z2=>?_)<|bG h;subst z2
 cases v<;> simp only [nu] at e1<;> try (first|exact bj e1|exact kh e1|(replace e1:=si e1;subst e1;done))
 replace e1:=si e1;subst e1
 simp only [Rp,Rep] at rc
 refine bJ (λ t z1=>?_) rc;clear rc;subst z1
 refine getMethod_int_bit_length ?_
 refine callWith_method0 (env:=cx.env) ?_
 exact call_int_bit_length (hQ G1 D1 _ _ (StaysIn.refl _) (bF.refl _) R1.tok c0)
theorem mH:∀{xs:List Bool} {items:List Value},dS W G (xs.map V.bool) items->ReadsAll s.heap items (xs.map PyData.bool) []
 | [],items,h=>by
  simp only [List.map_nil,dS,aL] at h
  subst h;exact .nil
 |b::xs,items,h=>by
  simp only [List.map_cons,dS,aL] at h
  refine ew (λ c cs z2 h1 h2=>?_) h;clear h;subst z2
  simp only [Rep] at h1
  subst h1
  exact .cons (as:=[]) (bs:=[]) (.bool b) (mH h2)
theorem n7{x:V}{b:Bool}(h:wm x=some b):x= .bool b:=by
 cases x with
 |bool c=>exact congrArg V.bool (bZ h).symm
 |_=>exact bj h
theorem Bi{xs:List V}{q:Bool×Bool×Bool}(h:three xs=some q):xs=[q.1,q.2.1,q.2.2].map V.bool:=by
 cases xs with
 |nil=>exact bj h
 |cons a r=>cases r with
  |nil=>exact bj h
  |cons b r=>cases r with
   |nil=>exact bj h
   |cons c r=>cases r with
    |cons _ _=>exact bj h
    |nil=>
     refine aV (λ x e1 h=>?_)<|Option.bind_eq_some_iff.mp h
     refine aV (λ y e2 h=>?_)<|Option.bind_eq_some_iff.mp h
     refine aV (λ z e3 e=>?_)<|Option.map_eq_some_iff.mp h
     rw[n7 e1,n7 e2,n7 e3,<-e];rfl
theorem vo:∀a b c:Bool,(PyData.list [.bool a,.bool b,.bool c]).depth<=100/\(PyData.list [.bool a,.bool b,.bool c]).shown.length<=100:=by decide +kernel
theorem vq{a r:V}{ca:Value}{A:Around}{Q:Value->Shared->Prop}(h:pJ a=some r)(hg:A.guards=some [])(hu:A.units+200<cLine)(x:St W G D s)(ra:Rp W G a ca)
  (hQ:∀c s',St W G D s'->Rp W G r c->Q c s'):wpAny (Md W) A (PySem.call (.builtin "repr") [ca]) Q E s:=by
 refine aV (λ xs h1 h2=>?_)<|Option.bind_eq_some_iff.mp h
 obtain⟨⟨a1,b1,c1⟩,h3,e⟩:=Option.map_eq_some_iff.mp h2
 rw[(kZ h1).1,Bi h3] at ra
 rw[<-e] at hQ
 refine ew (λ l items e4 s1 r1=>?_)<|ej ra
 rw[e4]
 have r2:=mH (s:=s) r1
 refine ew (λ o n e1 e2 e3=>?_)<|x.seq s1
 have rd:Reads s.heap (.ref l) (.list [.bool a1,.bool b1,.bool c1]) (l::[]):= .list e1 e2 e3 r2
 have⟨f1,f2⟩:=vo a1 b1 c1
 refine repr_of_reads' rd (by cases a1<;> cases b1<;> cases c1<;> decide +kernel) (λ e=>by cases a1<;> cases b1<;> cases c1<;> exact absurd e (by decide +kernel)) hg (by lia) (λ _ _ e=>e) (λ h' u tk hk=>hQ _ _ (x.keeps hk) wx) (by rw[sizeLine_eq];exact iT ‹_› (by decide))
theorem E4(K:WdOk W){x:X}(hx:cE W n call lc x):cE W n call lc (.repr x):=λ g e hc cx G D O sl s r' Q E C Rm R0 h hQ=>by
 replace hc:mX W.P true "repr" (aI W.P lc x g) g e=true:=hc
 replace h:(au (ev call x sl) λ a sl=>(pJ a).map (R.ok · sl))=some r':=h
 refine Ec (λ id p0 x' pos z4 hq hb pk=>?_)<|n6 hc;subst z4
 refine gE K C Rm R0 hx hb boot_repr pk h hQ λ v aB G1 D1 c s1 h k1 k2 R1 rc hQ=>?_
 refine aV (λ w e1 z2=>?_)<|bG h;subst z2
 refine vq e1 Rm.2.2 ?_ R1.st rc λ c s' y rc=>hQ G1 D1 c _ (StaysIn.refl _) (bF.refl _) (R1.mono y (StaysIn.refl _)) rc
 have:=Rm.2.1
 show cx.A.units+200<9900
 exact QJ ‹_› (by decide)
theorem Bj{h:Heap}{d:Addr}{m:Str->Option Value}{nm:Str}{v:Value}(hn:h.Ns d m)(hm:m nm=some v):∃od,h.get? d=some od/\lookIn nm od=some (some v):=by
 refine Eb (λ o es ep ho hd hk hf=>?_) hn;clear hn
 refine⟨o,ho,?_⟩
 unfold lookIn
 rw[hd]
 dsimp only
 have:=hf nm
 rw[hm] at this
 unfold nsFind findBy at this
 rw[<-Array.find?_toList] at this
 cases q:es.toList.find? (·.key.isStr nm) with
 |none=>rw[q] at this;exact bj this
 |some en=>rw[q] at this;simp only [Option.map_some,Option.some.injEq] at this;simp only [this]
theorem sN{C:Nat}{arg:V}{c:Value}(x:St W G D s)(h:Rp W G (.exc C arg) c):∃ea oe od,c= .ref ea/\InstAt s.heap ea oe C od/\
  (arg≠ .none->∃v o,od=some o/\lookIn "at" o=some (some v)/\Rp W G arg v):=by
 simp only [Rp,Rep] at h
 refine fb ?_ h;clear h;intro ea v z2 h;subst z2
 have hs:=x.led.stays
 rcases h with ⟨rfl,o,vs,h1,h2,h3,h4⟩|⟨ra,o,vs,h1,h2,h3,d,m,h4,h5,h6,od,h7,h8⟩
 ·exact⟨ea,o,none,rfl,⟨hs _ _ h1,h2,by unfold notCls;rw[h3],by rw[show o.dict=none from h4];trivial⟩,λ e=>absurd rfl e⟩
 ·refine aV (λ MS e1 e2=>?_)<|Bj (h5.keeps hs) h6
  exact⟨ea,o,some MS,rfl,⟨hs _ _ h1,h2,by unfold notCls;rw[h3],by rw[h4];exact e1⟩,λ _=>⟨v,MS,rfl,e2,ra⟩⟩
theorem vr{K:Frag}{C:Addr}{o:Obj}{v:Value}(L:dK K C)(h:lookIn "at" o=some (some v)):findObj K C (some o) "at"=some (.value v):=by
 refine bJ (λ cd hc=>?_)<|Option.isSome_iff_exists.mp L.MR
 have hd:=L.Q4
 rw[hc] at hd
 unfold findObj
 rw[hc,Option.bind_some,L.KS,Option.bind_some]
 simp only [Option.bind_some]
 unfold W.ownOf
 rw[if_pos (show cd.hasDict=true from hd)]
 simp only [h,Option.bind_some]
theorem findObj_cls(K:WdOk2 W){C:Addr}(L:dK W.K C){od:Option Obj}:findObj W.K C od "__class__"=some (.bind (.builtin "getset_descriptor.__get__") (.builtin "object.__class__")):=by
 refine bJ (λ cd hc=>?_)<|Option.isSome_iff_exists.mp L.MR
 unfold findObj
 rw[hc,Option.bind_some,L.cls,Option.bind_some]
 simp[K.gs,K.takes]
set_option tactic.hygienic true in
theorem yy(K:WdOk2 W){q C':Nat}:cE W n call lc (.iU q C'):=λ g e hc cx G D O sl s r' Q E C Rm R0 h hQ=>by
 replace hc:qL W.P q C' g e=true:=hc
 replace h:(match sl[q]? with
  |some (.val (.exc C₁ (.int i)))=>if C₁==C' then some (R.ok (.int i) sl) else none
  |_=>none)=some r':=h
 refine ya (λ j5 p1 p2 ha hC=>?_) e hc
 subst hC
 split at h
 ·rename_i C₁ i e
  split at h
  ·rename_i e2
   replace h:=si h;subst h
   have e2:=eq_of_beq e2
   subst e2
   obtain⟨p,hp,c,fD,rc⟩:=R0.get e (by intro e;cases e)
   refine Ea (λ ea oe od z3 I hk=>?_)<|sN R0.st rc;subst z3
   obtain⟨v,o,rfl,hl,rv⟩:=hk (by intro e;cases e)
   have L:=K.look _ (UG ..)
   refine Attribute_name (ed C R0 ha hp fD ?_)
   refine Bh (R0.st.gD.keeps R0.st.led.stays) I L (vr L hl) ?_ (hQ G D _ _ (StaysIn.refl _) (bF.refl _) R0.tok rv)
   simp only [Rp,Rep] at rv
   refine bJ (λ t z1=>?_) rv;clear rv;subst z1
   rfl
  ·exact bj h
 ·exact bj h
set_option tactic.hygienic true in
theorem yA(K:WdOk2 W){q t:Nat}{cs:List Nat}:cE W n call lc (.nL q t cs):=λ g e hc cx G D O sl s r' Q E C Rm R0 h hQ=>by
 replace hc:qJ W.P q t cs g e=true:=hc
 replace h:(match sl[q]?,sl[t]? with
  |some (.val (.exc C₁ _)),some (.val (.cls D₁))=>if cs.contains C₁&&cs.contains D₁ then some (R.ok (.bool (C₁==D₁)) sl) else none
  |_,_=>none)=some r':=h
 refine x8 (λ id p0 j5 p1 tid p2 pos hb NB Q7 Kb=>?_) e hc
 split at h
 ·rename_i C₁ arg D₁ e1 e2
  split at h
  ·rename_i hm
   replace h:=si h;subst h
   rw[Bool.and_eq_true] at hm
   have m1:C₁∈W.P.fN:=by
    have:=List.all_eq_true.mp Kb C₁ (by simpa using hm.1)
    simpa using this
   have m2:D₁∈W.P.fN:=by
    have:=List.all_eq_true.mp Kb D₁ (by simpa using hm.2)
    simpa using this
   obtain⟨p,hp,c,fD,rc⟩:=R0.get e1 (by intro e;cases e)
   obtain⟨p',kT,c',NC,ND⟩:=R0.get e2 (by intro e;cases e)
   refine Ea (λ ea oe od z3 I _=>?_)<|sN R0.st rc;subst z3
   have L1:=K.look _ (UK _ m1)
   have L2:=K.look _ (UK _ m2)
   simp only [Rp,Rep] at ND
   refine d8 (λ z0 _=>?_) ND;clear ND;subst z0
   refine wpAny_Call_ofName (mE K.toWdOk C R0.st hb boot_isinstance ?_)
   show wpAny _ _ (callWith _ _ [] _ []) Q E s
   refine PyProof.Rows.callWith_builtin1 (wpAny_items_cons (ed C R0 NB hp fD ?_) rfl) rfl rfl
   refine wpAny_items_cons (ed C R0 Q7 kT NC (wpAny_items_nil ?_)) rfl
   refine vn (R0.st.gD.keeps R0.st.led.stays) I L1 L2 (λ e=>K.apart _ m1 _ m2 e) (findObj_cls K L1) λ t=>?_
   have:decide (C₁=D₁)=(C₁==D₁):=by
    by_cases e:C₁=D₁
    ·rw[UJ e,e];simp
    ·rw[UM e];exact(beq_eq_false_iff_ne.mpr e).symm
   rw[this]
   exact hQ G D _ _ (StaysIn.refl _) (bF.refl _) R0.tok kX
  ·exact bj h
 ·exact bj h
end Mine
end
section
open PySem PySem.W PyProof.Rows PySem.Calls PySem.SeqAt PySem.Spec
namespace Mine
theorem lg{pos:Pos}{i j:Int}{t u:Tok}{c cv:Value}(l:List Value)(h:TriplesOk l):codeAmong pos (l++ [.int i t,.int j u,c])=some cv->codeAmong pos l=some cv\/cv=c:=by
 fun_induction TriplesOk l with
 |case1=>
  intro e
  simp only [List.nil_append,codeAmong] at e
  split at e
  ·replace e:=si e;subst e;exact .inr rfl
  ·exact bj e
 |case2 a b c' d e' rest ih=>
  intro e
  simp only [List.cons_append,codeAmong] at e ⊢
  split at e
  ·rename_i q
   rw[if_pos q]
   exact .inl e
  ·rename_i q
   rw[if_neg q]
   exact ih h e
 |case3=>exact h.elim
theorem qX{i j:Int}{t u:Tok}{c:Value}(l:List Value)(h:TriplesOk l):TriplesOk (l++ [.int i t,.int j u,c]):=by
 fun_induction TriplesOk l with
 |case1=>exact trivial
 |case2 a b c' d e' rest ih=>exact ih h
 |case3=>exact h.elim
noncomputable def n8(cells:List (Str×Addr)):List (Str×NameKind)->List (Str×Addr)->Option (List (Str×Addr))
 | [],acc=>some acc
 |(n,k)::r,acc=>if k== .free then (match cells.lookup n with|some a=>n8 cells r ((n,a)::acc)|none=>none) else n8 cells r acc
set_option tactic.hygienic true in
theorem pw{scope:Scope}{env:Env}{Ir:List (Str×Addr)}(h:n8 env.cells scope.names []=some Ir):closureFor scope env=pure Ir:=by
 unfold closureFor
 have:∀(l:List (Str×NameKind)) (acc:List (Str×Addr)) (r:List (Str×Addr)),n8 env.cells l acc=some r->
   (forIn l acc λ(x:Str×NameKind) (cs:List (Str×Addr))=>(match x with
    |(name,kind)=>if (kind==NameKind.free)=true then do let a <-cellOf env name;pure (ForInStep.yield ((name,a)::cs)) else pure (ForInStep.yield cs):Sem (ForInStep (List (Str×Addr)))))=pure r:=by
  intro l
  induction l with
  |nil=>intro acc r e;replace e:=si e;subst e;rfl
  |cons p l ih=>
   intro acc r e
   obtain⟨nm,k⟩:=p
   rw[List.forIn_cons]
   simp only [n8] at e
   split at e
   ·rename_i hk
    simp only [hk,if_true]
    split at e
    ·rename_i a ha
     unfold cellOf
     rw[ha]
     exact ih _ _ e
    ·exact bj e
   ·rename_i hk
    simp only [hk,if_false]
    exact ih _ _ e
 exact(congrArg (λ t=>t >>=λ r=>pure r) (this scope.names [] Ir h)).trans rfl
inductive dm{α β:Type}(R:α->β->Prop):List α->List β->Prop
 |nil:dm R [] []
 |cons {a b as bs}:R a b->dm R as bs->dm R (a::as) (b::bs)
theorem dm.length{α β:Type}{R:α->β->Prop}{as:List α}{bs:List β}(h:dm R as bs):as.length=bs.length:=by
 induction h with
 |nil=>rfl
 |cons _ _ ih=>simp[ih]
theorem dm.append{α β:Type}{R:α->β->Prop}{as qN:List α}{bs ML:List β}(h:dm R as bs)(h':dm R qN ML):dm R (as++qN) (bs++ML):=by
 induction h with
 |nil=>exact h'
 |cons a _ ih=>exact .cons a ih
theorem dm.reverse{α β:Type}{R:α->β->Prop}{as:List α}{bs:List β}(h:dm R as bs):dm R as.reverse bs.reverse:=by
 induction h with
 |nil=>exact .nil
 |cons a _ ih=>simp only [List.reverse_cons];exact ih.append (.cons a .nil)
theorem dm.imp{α β:Type}{R R':α->β->Prop}{as:List α}{bs:List β}(h:dm R as bs)(k:∀a b,R a b->R' a b):dm R' as bs:=by
 induction h with
 |nil=>exact .nil
 |cons a _ ih=>exact .cons (k _ _ a) ih
theorem n9{cells:List (Str×Addr)}:∀(names:List (Str×NameKind)) (acc:List (Str×Addr)) (bs:List Addr),dm (λ n a=>cells.lookup n=some a) ((names.filter λ p=>p.2== .free).map (·.1)) bs->
  n8 cells names acc=some ((((names.filter λ p=>p.2== .free).map (·.1)).zip bs).reverse++acc)
 | [],acc,bs,h=>by cases h;rfl
 |(n,k)::r,acc,bs,h=>by
  unfold n8
  by_cases hk:(k==NameKind.free)=true
  ·rw[if_pos hk]
   rw[List.filter_cons_of_pos (by exact hk),List.map_cons] at h ⊢
   cases h with
   |cons h1 h2=>
    rw[h1]
    dsimp only
    rw[n9 r _ _ h2]
    simp
  ·rw[if_neg hk]
   rw[List.filter_cons_of_neg (by exact hk)] at h ⊢
   exact n9 r _ _ h
theorem wF{α β:Type}:∀(as:List α) (bs:List β),as.length=bs.length->(as.reverse.zip bs.reverse).reverse=as.zip bs
 | [],[],_=>rfl
 |a::as,b::bs,h=>by
  have h:as.length=bs.length:=by simpa using h
  simp only [List.reverse_cons]
  rw[List.zip_append (by simpa using h)]
  simp[wF as bs h]
 | [],_::_,h=>by simp at h
 |_::_,[],h=>by simp at h
theorem iB{scope:Scope}{env:Env}{as:List Addr}(h:dm (λ n a=>env.cells.lookup n=some a) (freeOf scope) as):closureFor scope env=pure ((freeOf scope).zip as):=by
 apply pw
 have h':=h.reverse
 unfold freeOf at h'
 rw[List.reverse_reverse] at h'
 rw[n9 _ _ _ h',List.append_nil]
 congr 1
 have hl:=h.length
 rw[<-wF _ _ hl]
 unfold freeOf
 rw[List.reverse_reverse]
theorem wG{α β:Type}:∀{as:List α} {bs:List β},as.length=bs.length->(as.zip bs).map (·.1)=as
 | [],[],_=>rfl
 |a::as,b::bs,h=>by simp[wG (as:=as) (bs:=bs) (by simpa using h)]
 | [],_::_,h=>by simp at h
 |_::_,[],h=>by simp at h
theorem wH{α β:Type}:∀{as:List α} {bs:List β},as.length=bs.length->(as.zip bs).map (·.2)=bs
 | [],[],_=>rfl
 |a::as,b::bs,h=>by simp[wH (as:=as) (bs:=bs) (by simpa using h)]
 | [],_::_,h=>by simp at h
 |_::_,[],h=>by simp at h
end Mine
end
section
open PySem PySem.W PyProof.Rows PySem.Calls PySem.SeqAt PySem.Spec
namespace Mine
variable{W:Wd}{n:Nat}{call:Hd}{lc:Nat->Scope->Expr->Bool}
variable{cx:Cx}{g:bQ}{rw:Bool}{G:Heap}{D O:Led}{sl:List Slot}{s:Shared}{E:Value->Shared->Prop}
noncomputable def i7(P:Prog)(k:Nat)(fd:FuncData):Prop:=∃e,fd.body= .expr e/\fk P k fd.scope e=true/\fd.closure.map (·.1)=freeOf fd.scope/\fd.scope.isGenerator=false/\fd.scope.isCoroutine=false/\
 bindArgs fd ⟨[],[]⟩=pure []/\fd.globals=mainGlobals/\fd.builtins=builtinsNs
theorem It(nd:((D++O).map (·.1)).Nodup){a:Addr}{x y:MO}(hx:(a,x)∈D++O)(hy:(a,y)∈D):(a,x)∈D:=by
 have:=aG nd hx (UD _ hy)
 rw[this];exact hy
theorem St.NF{G2:Heap}{D1:Led}{s2:Shared}(x:St W G (D++O) s)(x2:St W G2 (D1++O) s2)(k:G.StaysIn G2)(hD:∀p∈D,p∈D1\/∃c,p.2= .cell (some c)/\G2.IsCell p.1 (some c)):
  St W (hideAll s2.heap (aQ (D++O))) (D++O) s2/\G.StaysIn (hideAll s2.heap (aQ (D++O)))/\
   ∀b o,G2.get? b=some o->(∀v,o.data≠ .cell v)->(hideAll s2.heap (aQ (D++O))).get? b=some o:=by
 have kG:G.StaysIn (hideAll s2.heap (aQ (D++O))):=λ b o e=>hideAll_get _ (x2.led.stays _ _ (k _ _ e)) λ hm=>by
  refine aV (λ p hp e'=>?_)<|List.mem_map.mp hm
  have:=x.led.free p hp
  rw[e',e] at this;cases this
 have k2:∀b o,G2.get? b=some o->(∀v,o.data≠ .cell v)->(hideAll s2.heap (aQ (D++O))).get? b=some o:=λ b o e hn=>hideAll_get _ (x2.led.stays _ _ e) λ hm=>by
  refine aV (λ p hp e'=>?_)<|List.mem_map.mp hm
  have nf:∀p'∈D1++O,p'.1≠b:=λ p' kT Q8=>by
   have:=x2.led.free p' kT
   rw[Q8,e] at this;cases this
  rcases List.mem_append.mp hp with hp|hp
  ·rcases hD p hp with h|⟨c,_,o',h1,h2⟩
   ·exact nf p (UD _ h) e'
   ·rw[e',e] at h1;replace h1:=si h1;subst h1;exact hn _ h2
  ·exact nf p (UE _ hp) e'
 refine⟨⟨⟨λ b o e=>of_hideAll _ e,λ p hp=>?_,λ p hp=>hideAll_none _ (UR hp),x.led.nodup⟩,x.gD.keeps kG,x.top.keeps kG,x2.gens,x2.os⟩,kG,k2⟩
 have conv:p∈D1++O->qv (hideAll s2.heap (aQ (D++O))) s2.heap p.1 p.2:=λ h=>by
  have:=x2.led.has p h
  obtain⟨a,d⟩:=p
  cases d with
  |ns m=>exact this
  |cell v=>exact this
  |list t it=>exact this
  |any P=>exact this
  |tab q=>
   refine fY (λ ps e1 e2 e3=>?_) this;clear this
   exact⟨ps,e1,e2,λ pos cv hc=>by
    obtain⟨c,rfl,c',o,vs,t,e4,e5,e6,e7⟩:=e3 pos cv hc
    exact⟨c,rfl,c',o,vs,t,e4,k2 _ _ e5 (λ v e=>by rw[e6] at e;cases e),e6,e7⟩⟩
 rcases List.mem_append.mp hp with hp|hp
 ·rcases hD p hp with h|⟨c,e,hc⟩
  ·exact conv (UD _ h)
  ·rw[e]
   exact hc.keeps x2.led.stays
 ·exact conv (UE _ hp)
theorem yB{G2 G3:Heap}{v:V}{c:Value}(hf:flat v=true)(h:Rp W G2 v c)(k:∀b o,G2.get? b=some o->(∀v,o.data≠ .cell v)->G3.get? b=some o):Rp W G3 v c:=by
 cases v<;> simp only [flat] at hf<;> try (first|exact bj hf|exact kh hf|(cases hf;done))
 ·exact h
 ·exact h
 ·exact h
 ·simp only [Rp,Rep] at h ⊢
  obtain⟨e,o,cd,h1,h2,h3⟩:=h
  exact⟨e,o,cd,k _ _ h1 (λ v e=>by rw[h3] at e;cases e),h2,h3⟩
set_option tactic.hygienic true in
theorem wI(C:bS W cx g)(x:Rel W cx rw G D O sl s):∀{bM:List Nat} {ns:List Str} {vs:List V},lS g bM ns=true->iV sl bM=some vs->
  ∃as cs,dm (λ nm a=>cx.env.cells.lookup nm=some a) ns as/\dm (λ a c=>At G D (.gd a) c) as cs/\dS W G vs cs
 | [],[],vs,_,h2=>by
  replace h2:some []=some vs:=h2
  replace h2:=si h2;subst h2;exact⟨[],[],.nil,.nil,aL.nil⟩
 |i::is,nm::ns,vs,h1,h2=>by
  replace h1:(g.acc i nm&&(match g.kind nm with|some .cell=>true|some .free=>true|_=>false)&&lS g is ns)=true:=h1
  replace h2:(match sl[i]? with
   |some (.val v)=>(iV sl is).map (v:: ·)
   |_=>none)=some vs:=h2
  simp only [Bool.and_eq_true] at h1
  obtain⟨⟨ha,hk⟩,hr⟩:=h1
  split at h2
  ·rename_i v e
   cases q:iV sl is with
   |none=>rw[q] at h2;exact bj h2
   |some Q9=>
    rw[q] at h2
    replace h2:=si h2;subst h2
    refine ew (λ as cs e1 e2 e3=>?_)<|wI C x hr q
    obtain⟨p,hp,c,fD,rc⟩:=x.get e (by intro e;cases e)
    have hn:=(lX ha).1
    have ek:cx.env.kindOf nm=g.kind nm:=by unfold Env.kindOf bQ.kind;rw[C.scope]
    have Kc:∃k,(k=NameKind.cell\/k=NameKind.free)/\cx.env.kindOf nm=some k:=by
     rw[ek]
     split at hk
     ·rename_i e;exact⟨_,.inl rfl,e⟩
     ·rename_i e;exact⟨_,.inr rfl,e⟩
     ·exact kh hk
    refine aV (λ k Kd Iu=>?_) Kc;clear Kc
    refine aV (λ a NB z2=>?_)<|(C.acc i nm p hn hp).2 k Kd Iu;subst z2
    exact⟨a::as,c::cs,.cons NB e1,.cons fD e2,aL.cons rc e3⟩
  ·exact bj h2
 | [],_::_,_,h,_=>absurd h UI
 |_::_,[],_,h,_=>absurd h UI
theorem yC{a:Arguments}(h:noArgs a=true):∃kd,a=⟨[],[],none,[],kd,none,[]⟩/\kd=[]:=by
 obtain⟨po,ar,va,ko,kd,kw,df⟩:=a
 unfold noArgs at h
 simp only [Bool.and_eq_true,List.isEmpty_iff,Option.isNone_iff_eq_none] at h
 obtain⟨⟨⟨⟨⟨⟨h1,h2⟩,h3⟩,h4⟩,h5⟩,h6⟩,h7⟩:=h
 subst h1 h2 h3 h4 h5 h6 h7
 exact⟨_,rfl,rfl⟩
theorem St.made{D1:Led}{P:Addr}{q:Str}{h':Heap}{t:Nat}(x:St W G (D++O) s)(hP:(P,MO.tab q)∈D++O)(sub:List.Sublist D1 D)(k:∀b o,b≠P->s.heap.get? b=some o->h'.get? b=some o)
  (hT:∀G',G.StaysIn G'->(∀b o,h'.get? b=some o->b∉aQ (D++O)->G'.get? b=some o)->TabAt G' h' P q):
  St W (hideAll h' (aQ (D1++O))) (D1++O) { s with heap:=h',toks:=t }/\G.StaysIn (hideAll h' (aQ (D1++O))):=by
 have Bk:List.Sublist (D1++O) (D++O):=List.Sublist.append sub (List.Sublist.refl _)
 have kG:G.StaysIn (hideAll h' (aQ (D1++O))):=λ b o e=>hideAll_get _ (k _ _ (λ eq=>by
   have:=x.led.free _ hP
   rw[eq] at e
   rw[e] at this;cases this) (x.led.stays _ _ e)) λ hm=>by
  refine aV (λ p hp e'=>?_)<|List.mem_map.mp hm
  have:=x.led.free p (Bk.subset hp)
  rw[e',e] at this;cases this
 refine⟨⟨⟨λ b o e=>of_hideAll _ e,λ p hp=>?_,λ p hp=>hideAll_none _ (UR hp),(Bk.map _).nodup x.led.nodup⟩,x.gD.keeps kG,x.top.keeps kG,x.gens,x.os⟩,kG⟩
 by_cases e:p.1=P
 ·obtain⟨a,d⟩:=p
  simp only at e
  subst e
  have:=aG x.led.nodup (Bk.subset hp) hP
  subst this
  exact hT _ kG λ b o e hb=>hideAll_get _ e λ hm=>hb (by
   refine aV (λ p hp e'=>?_)<|List.mem_map.mp hm
   exact e'▸UR (f:=λ p:Addr×MO=>p.1) (Bk.subset hp))
 ·exact((x.led.has p (Bk.subset hp)).keep λ o e'=>k _ _ e e').mono kG
noncomputable def Bl(q:Str)(body:Expr)(scope:Scope)(as:List Addr)(pm:Value)(cv:Addr)(zE:Value):Obj:=
 { cls:= .type "function",data:= .func (kla_fn ("<lambda>":Str) (q++("<lambda>":Str)) ⟨[],[],none,[],[],none,[]⟩ body scope ((freeOf scope).zip as) pm (.ref cv) zE) }
theorem E5{α β:Type}{R:α->β->Prop}{as:List α}{cs:List β}(h:dm R as cs):∀a∈as,∃c,R a c:=by
 induction h with
 |nil=>intro a ha;exact nomatch ha
 |cons h1 _ ih=>exact λ a ha=>(List.mem_cons.mp ha).elim (λ e=>e▸⟨_,h1⟩) (ih a)
theorem vt{R:Addr->Value->Prop}{H:Heap}{as:List Addr}(k:∀a c,a∈as->R a c->H.IsCell a (some c)){qN:List Addr}{cs:List Value}(h:dm R qN cs):(∀a∈qN,a∈as)->gB H qN cs:=by
 induction h with
 |nil=>exact λ _=>trivial
 |cons h1 _ ih=>exact λ hs=>⟨k _ _ (hs _ (UG ..)) h1,ih λ a ha=>hs a (UK _ ha)⟩
theorem Iv(K:WdOk2 W)(sO:∀k fd,i7 W.P k fd->W.bA k fd)(C:bS W cx g)(x:Rel W cx rw G D O sl s){params:Arguments}{body:Expr}{scope:Scope}{pos:Pos}{k:Nat}{bM:List Nat}{vs:List V}{A:Around}{Q:Value->Shared->Prop}
  (hl:g.lam=true)(hp:noArgs params=true)(hk:scope.kind= .function)(NG:scope.isGenerator=false)(NH:scope.isCoroutine=false)(hc:lS g bM (freeOf scope)=true)(hb:fk W.P k scope body=true)(hs:iV sl bM=some vs)
  (hQ:∀G1 D1 f s1,G.StaysIn G1->List.Sublist D1 D->(∀p∈D,p∈D1\/∃c,p.2= .cell (some c)/\G1.IsCell p.1 (some c))->St W G1 (D1++O) s1->Rp W G1 (.lam k vs) (.ref f)->Q (.ref f) s1):
  wpAny (Md W) A (eval (.Lambda params body scope pos) cx.env) Q E s:=by
 refine aV (λ kd z1 z2=>?_)<|yC hp;subst z1;subst z2
 refine ew (λ as cs a1 a2 a3=>?_)<|wI C x hc hs
 refine fb (λ c P ht GF=>?_)<|C.code hl
 have hP:=x.frames.2 _ ht
 have CH:=K.tabs _ ht _ (x.st.gD.keeps x.st.led.stays)
 obtain⟨ps,p1,p2,p3⟩:TabAt G s.heap P _:=x.st.led.has _ hP
 refine Qz (λ bm ob b1 b2 b3 b4 b5 b6 b7=>?_)<|K.bm
 have Kh:=x.st.gD.keeps x.st.led.stays
 have hg:=(x.st.top.keeps x.st.led.stays).g
 have Ke:=mg_of (x.st.gD) x.st.top.g b1
 have Iw:=Kh _ _ b2
 have et:bm≠P:=λ e=>by
  rw[e] at Iw
  rw[p1] at Iw;replace Iw:=si Iw;subst Iw;cases b7
 have Ra:mainGlobals≠P:=λ e=>by
  refine Ea (λ o es ep ho hd _=>?_) hg;clear hg
  rw[e,p1] at ho;replace ho:=si ho;subst ho;cases hd
 have lh:=iB (env:=cx.env) a1
 let D1:=D.filter λ q=>decide (q.1∉as)
 have sub:List.Sublist D1 D:=List.filter_sublist
 have fin:∀(cv:Addr) (zE:Value) (h':Heap) (t:Nat),(∀b o,b≠P->s.heap.get? b=some o->h'.get? b=some o)->(∃o vs t,h'.get? cv=some o/\o.data= .fields vs/\vs[1]?=some (.str (cx.env.qual++("<lambda>":Str)) t))->cv∉aQ (D++O)->
   (∃KW,h'.get? P=some (tabObj KW)/\TriplesOk KW.toList/\∀pos' Kf,codeAmong pos' KW.toList=some Kf->codeAmong pos' ps.toList=some Kf\/Kf= .ref cv)->
   ∀(pm:Value),s.heap.objs.size<=h'.objs.size->Q (.ref h'.objs.size) { s with heap:=h'.push (Bl cx.env.qual body scope as pm cv zE),toks:=t }:=by
  intro cv zE h' t PK KY Eh KZ pm jX
  refine Ea (λ oc GG tc r1 r2 r3=>?_) KY;clear KY
  have kp:∀b o,h'.get? b=some o->(h'.push (Bl cx.env.qual body scope as pm cv zE)).get? b=some o:=λ b o e=>UQ _ e
  refine d8 (λ y kG=>?_)<|St.made (D1:=D1) (t:=t) (h':=h'.push _) x.st hP sub (λ b o hb e=>kp b o (PK b o hb e)) (λ G' Rb zD=>by
   refine fY (λ KW t1 t2 t3=>?_) KZ;clear KZ
   exact⟨KW,kp _ _ t1,t2,λ pos' Kf vj=>by
    rcases t3 pos' Kf vj with h|rfl
    ·refine aV (λ c' e1 e2=>?_)<|p3 _ _ h
     exact⟨c',e1,e2.keeps Rb⟩
    ·exact⟨cv,rfl,cv,oc,GG,tc,rfl,zD _ _ (kp _ _ r1) Eh,r2,r3⟩⟩)
  have rU:h'.objs.size∉aQ (D1++O):=λ hm=>by
   refine aV (λ p hp e=>?_)<|List.mem_map.mp hm
   have:=(x.st.led.has p ((List.Sublist.append sub (List.Sublist.refl _)).subset hp)).lt
   exact absurd (UO this jX) (by rw[show p.1=h'.objs.size from e];exact Nat.lt_irrefl _)
  have zD:∀b o,(h'.push (Bl cx.env.qual body scope as pm cv zE)).get? b=some o->b∉aQ (D1++O)->(hideAll (h'.push (Bl cx.env.qual body scope as pm cv zE)) (aQ (D1++O))).get? b=some o:=λ b o e hb=>hideAll_get _ e hb
  have NI:cv∉aQ (D1++O):=λ hm=>Eh (by
   refine aV (λ p hp e=>?_)<|List.mem_map.mp hm
   exact e▸UR (f:=λ p:Addr×MO=>p.1) ((List.Sublist.append sub (List.Sublist.refl _)).subset hp))
  have nd:=x.st.led.nodup
  have cellIn:∀a c,a∈as->At G D (.gd a) c->(hideAll (h'.push (Bl cx.env.qual body scope as pm cv zE)) (aQ (D1++O))).IsCell a (some c):=λ a c ha fD=>by
   rcases fD with fD|fD
   ·have E6:a≠P:=λ e=>by
     subst e
     have:=aG nd (UD _ fD) hP
     cases this
    obtain⟨o,e1,e2⟩:s.heap.IsCell a (some c):=x.st.led.has _ (UD _ fD)
    refine⟨o,zD _ _ (kp _ _ (PK _ _ E6 e1)) λ hm=>?_,e2⟩
    rw[bD] at hm
    rcases List.mem_append.mp hm with hm|hm
    ·refine aV (λ q hq e=>?_)<|List.mem_map.mp hm
     have:=(List.mem_filter.mp hq).2
     rw[decide_eq_true_eq] at this
     exact this (e▸ha)
    ·rw[List.map_append,List.nodup_append] at nd
     exact nd.2.2 a (cA fD) a hm rfl
   ·exact fD.keeps kG
  refine hQ _ D1 _ _ kG sub (λ p hp=>?_) y ?_
  ·by_cases hm:p.1∈as
   ·obtain⟨i,hi,e⟩:=List.mem_iff_getElem.mp hm
    have:=E5 a2 _ hm
    refine bJ (λ c' fD=>?_) this;clear this
    refine .inr ⟨c',?_,cellIn _ _ hm fD⟩
    rcases fD with fD|⟨o,e1,_⟩
    ·exact aG (by rw[List.map_append,List.nodup_append] at nd;exact nd.1) (show(p.1,p.2)∈D from hp) fD
    ·have:=x.st.led.free p (UD _ hp)
     rw[this] at e1;exact bj e1
   ·exact .inl (List.mem_filter.mpr ⟨hp,by simpa using hm⟩)
  ·simp only [Rp,Rep]
   refine⟨h'.objs.size,as,cs,rfl,⟨_,_,zD _ _ i6 rU,rfl,rfl,sO _ _ ⟨body,rfl,hb,?_,NG,NH,by rfl,rfl,rfl⟩,?_,cv,oc,GG,tc,rfl,zD _ _ (kp _ _ r1) NI,r2,r3⟩,?_,aL.keeps kG _ a3⟩
   ·exact wG a1.length
   ·exact wH a1.length
   ·exact vt cellIn a2 λ a ha=>ha
 refine kla_eval rfl ?_
 cases hq:codeAmong pos ps.toList with
 |none=>
  refine kla_makeFunction (mg:=W.mg) lh C.globals hg GF CH p1 p2 hq Ra ⟨bm,ob,Ke,b3,b4,et,Iw,b5,b6,b7⟩ λ c' zE h' tk e1 e2 e3 e4 e5=>?_
  refine Ec (λ Rc o GG t e r1 r2 r3=>?_) e4;clear e4
  cases e
  refine fin c' zE h' tk (λ b o hb e=>e1 b o hb e) ⟨o,GG,t,r1,r2,r3⟩ (λ hm=>?_) ⟨_,e5,?_,?_⟩ _ (Nat.le_of_lt (UN e2 e3))
  ·exact absurd (ny x.st.led hm) (Nat.not_lt.mpr e2)
  ·rw[Array.toList_append];exact qX _ p2
  ·intro pos' Kf vj
   rw[Array.toList_append] at vj
   exact lg _ p2 vj
 |some cv=>
  refine aV (λ c' z1 hr=>?_)<|p3 _ _ hq;subst z1
  refine kla_makeFunctionHit (mg:=W.mg) lh C.globals hg GF CH p1 p2 hq ⟨bm,ob,Ke,b3,b4,et,Iw,b5,b6,b7⟩ λ zE h' tk e1 e2=>?_
  refine Ec (λ Rc o GG t e r1 r2 r3=>?_) hr;clear hr
  cases e
  refine fin c' zE h' tk (λ b o _ e=>e1 b o e) ⟨o,GG,t,e1 _ _ (x.st.led.stays _ _ r1),r2,r3⟩ (λ hm=>?_) ⟨ps,e1 _ _ p1,p2,λ _ _ h=> .inl h⟩ _ e2
  refine aV (λ p hp e=>?_)<|List.mem_map.mp hm
  have:=x.st.led.free p hp
  rw[e,r1] at this;cases this
theorem lj(a:Arguments)(b:Expr)(sc:Scope)(p:Pos)(r:List Expr)(env:Env):starEach (.Lambda a b sc p::r) env=(false,eval (.Lambda a b sc p) env)::starEach r env:=rfl
set_option tactic.hygienic true in
theorem Bm(K:WdOk2 W)(sO:∀k fd,i7 W.P k fd->W.bA k fd)(HS:i5 W n call){f:Nat}{nm:Str}{k:Nat}{bM:List Nat}(wJ:∀k sc e,lc k sc e=true->fk W.P k sc e=true):cE W n call lc (.dI f nm k bM):=λ g e hc cx G D O sl s r' Q E C Rm R0 h hQ=>by
 replace hc:uW W.P lc f nm k bM g e=true:=hc
 replace h:((iV sl bM).bind λ vs=>match call (.fn f) none [.lam k vs] with
  |some (.ok v _)=>if flat v then some (R.ok v sl) else none
  |_=>none)=some r':=h
 refine Ah (λ id p0 args body scope p1 pos hq hw hl hg hn hk NG NH K0 hb=>?_) e hc
 cases hs:iV sl bM with
 |none=>rw[hs] at h;exact bj h
 |some vs=>
 rw[hs] at h
 replace h:(match call (.fn f) none [.lam k vs] with
  |some (.ok v _)=>if flat v then some (R.ok v sl) else none
  |_=>none)=some r':=h
 split at h
 ·rename_i v b K1
  split at h
  ·rename_i K2
   replace h:=si h;subst h
   refine wpAny_Call_ofName (jM K.toWdOk C R0.st hg λ c rc=>?_)
   refine d8 (λ z0 hf=>?_)<|fw R0.st rc;subst z0
   show wpAny _ _ (callWith _ _ [] _ []) Q E s
   refine callWith_F hf ?_ (lj ..) rfl
   refine wpAny_items_cons ?_ (lj ..)
   refine Iv K sO C R0 hl hn hk NG NH K0 (wJ _ _ _ hb) hs λ G1 D1 fa s1 k1 sub hD y rf=>wpAny_items_nil ?_
   refine⟨(fw y (Rep.keeps k1 _ rc)).2,?_⟩
   have fr:dT W cx.stack (D1++O):=⟨λ env he=>by
    obtain⟨e1,L,m,e2,e3⟩:=R0.frames.1 env he
    refine⟨e1,L,m,e2,?_⟩
    rcases List.mem_append.mp e3 with e3|e3
    ·rcases hD _ e3 with h|⟨_,h,_⟩
     ·exact UD _ h
     ·cases h
    ·exact UE _ e3,λ q hq=>by
    rcases List.mem_append.mp (R0.frames.2 q hq) with e3|e3
    ·rcases hD _ e3 with h|⟨_,h,_⟩
     ·exact UD _ h
     ·cases h
    ·exact UE _ e3⟩
   refine wpAny_call (HS (.fn f) none [.lam k vs] _ K1 cx.A G1 (D1++O) cx.stack s1 f 0 0 [.ref fa] [.ref fa] _ y C.frames fr (C.hh hq) Rm rfl (aL.one rf) rfl ?_)
   intro G2 s2 cv items k2 y2 _ rv
   have Rd:∀p∈D,p∈D1\/∃c,p.2= .cell (some c)/\G2.IsCell p.1 (some c):=λ p hp=>(hD p hp).imp (λ x=>x) λ⟨c,e1,e2⟩=>⟨c,e1,e2.keeps k2⟩
   refine rS (λ y3 k3 k4=>?_)<|R0.st.NF (D1:=D1) y2 (StaysIn.trans k1 k2) Rd
   exact hQ _ D cv s2 k3 (bF.refl _) (R0.mono y3 k3) (yB K2 rv k4)
  ·exact bj h
 ·exact bj h
end Mine
end
section
open PySem PySem.W PyProof.Rows PySem.Calls PySem.SeqAt PySem.Spec
namespace Mine
variable{W:Wd}{n:Nat}{call:Hd}{lc:Nat->Scope->Expr->Bool}
variable{cx:Cx}{g:bQ}{rw:Bool}{G G':Heap}{D O:Led}{sl:List Slot}{s:Shared}{E:Value->Shared->Prop}{A:Around}
noncomputable def Bn(cK:Led):Prop:=∀p∈cK,∃P,p.2=MO.any P
structure i8(W:Wd)(A:Around)(G0:Heap)(target:Expr)(it:Value)(vs:List V)(cK:Nat->Led)(fin:Bool):Prop where
 vv:∀i,Bn (cK i)
 next:∀{G:Heap} {DD:Led} {s:Shared} {i:Nat} {Q:Option Value->Shared->Prop} {E:Value->Shared->Prop},G0.StaysIn G->i<=vs.length->St W G (cK i++DD) s->
  (∀v G' c s',vs[i]?=some v->G.StaysIn G'->St W G' (cK (i+1)++DD) s'->Rp W G' v c->Q (some c) s')->
  (vs[i]?=none->fin=true/\∀s',St W G DD s'->Q none s')->
  wpAny (Md W) A (pyNext it) (λ r s₁=>match r with|none=>Q none s₁|some c=>wpAny (Md W) A (letOwnedTupleGo target it c) (λ _ s₂=>Q (some c) s₂) E s₁) E s
theorem St.perm{D':Led}(x:St W G D s)(p:D'.Perm D):St W G D' s:=⟨x.led.perm p,x.gD,x.top,x.gens,x.os⟩
theorem St.sub{D':Led}(x:St W G D s)(p:List.Sublist D' D):St W G D' s:=⟨x.led.sub p,x.gD,x.top,x.gens,x.os⟩
theorem Rel.more{cK:Led}{s':Shared}(x:Rel W cx rw G D O sl s)(y:St W G' (cK++(D++O)) s')(k:G.StaysIn G'):Rel W cx rw G' D (cK++O) sl s':=by
 have pm:(D++(cK++O)).Perm (cK++(D++O)):=by
  rw[<-List.append_assoc,<-List.append_assoc]
  exact List.Perm.append_right O List.perm_append_comm
 have up:∀p,p∈D++O->p∈D++(cK++O):=λ p hp=>by
  rcases List.mem_append.mp hp with h|h
  ·exact UD _ h
  ·exact UE _ (UE _ h)
 exact⟨y.perm pm,x.len,λ i z p h1 h2=>(x.slots i z p h1 h2).mono k,x.place,⟨λ env he=>let ⟨e1,L,m,e2,e3⟩:=x.frames.1 env he;⟨e1,L,m,e2,up _ e3⟩,λ q hq=>up _ (x.frames.2 q hq)⟩,x.here⟩
theorem Rel.less{cK:Led}(h:Bn cK)(x:Rel W cx rw G D (cK++O) sl s):Rel W cx rw G D O sl s:=by
 have dn:∀p,p∈D++(cK++O)->(∀P,p.2≠MO.any P)->p∈D++O:=λ p hp hn=>by
  rcases List.mem_append.mp hp with h'|h'
  ·exact UD _ h'
  ·rcases List.mem_append.mp h' with h'|h'
   ·refine bJ (λ P e=>?_)<|h p h';exact absurd e (hn P)
   ·exact UE _ h'
 exact⟨x.st.sub (List.Sublist.append (List.Sublist.refl _) (US _ _)),x.len,x.slots,x.place,
  ⟨λ env he=>let ⟨e1,L,m,e2,e3⟩:=x.frames.1 env he;⟨e1,L,m,e2,dn _ e3 λ _ e=>nomatch e⟩,λ q hq=>dn _ (x.frames.2 q hq) λ _ e=>nomatch e⟩,x.here⟩
theorem Rel.Bo{cK:Led}(x:Rel W cx rw G D (cK++O) sl s):St W G (cK++(D++O)) s:=x.st.perm (by
  rw[<-List.append_assoc,<-List.append_assoc]
  exact List.Perm.append_right O List.perm_append_comm)
theorem mD.less{cK:Led}{h:Heap}{ea C:Addr}{arg:V}{tb:Tb}(x:mD W G (D++(cK++O)) h ea C arg tb):mD W G (D++O) h ea C arg tb:=by
 have sub:∀a,a∈aQ (D++O)->a∈aQ (D++(cK++O)):=λ a ha=>by
  rw[bD] at ha ⊢
  rw[bD]
  rcases List.mem_append.mp ha with h|h
  ·exact UD _ h
  ·exact UE _ (UE _ h)
 obtain⟨h1,h2,oe,vs,h3,h4,h5,h6,h7,h8⟩:=x
 refine⟨λ hm=>h1 (sub _ hm),h2,oe,vs,h3,h4,h5,h6,h7,?_⟩
 cases tb with
 |fresh=>exact h8
 |«at» fl=>obtain⟨T,oT,ts,a1,a2,a3,a4,a5,a6,a7⟩:yp _ _ _ _ _ _:=h8;exact .mk T oT ts a1 a2 (λ hm=>a3 (sub _ hm)) a4 a5 a6 a7
theorem eP.less{cK:Led}{C:Nat}{arg:V}{e:Value}(h:Bn cK)(x:eP W cx rw G (cK++O) C arg e s):eP W cx rw G O C arg e s:=by
 refine Hp (λ G' D' ea tb e1 e2 e3 e4 e5=>?_) x;clear x
 exact⟨G',D',ea,tb,e1,e2,e3.less h,e4.less,e5⟩
theorem i8.one{G0:Heap}{target:Expr}{I:Addr}{vs:List V}{P:Nat->Obj->Prop}{fin:Bool}
  (step:∀{s:Shared} {i:Nat} {Q:Option Value->Shared->Prop} {E:Value->Shared->Prop},(∃o,s.heap.get? I=some o/\P i o)->G0.StaysIn s.heap->i<=vs.length->
   (∀v c h' t,vs[i]?=some v->(∀G,G0.StaysIn G->Rp W G v c)->Heap.ExtBut I s.heap h'->(∃o,h'.get? I=some o/\P (i+1) o)->Q (some c) { s with heap:=h',toks:=t })->
   (vs[i]?=none->fin=true/\∀h',Heap.ExtBut I s.heap h'->Q none { s with heap:=h' })->wpAny (Md W) A (pyNext (.ref I)) Q E s)
  (Rh:∀{s:Shared} {i:Nat} {c:Value} {Q:Unit->Shared->Prop} {E:Value->Shared->Prop},(∃o,s.heap.get? I=some o/\P i o)->Q () s->wpAny (Md W) A (letOwnedTupleGo target (.ref I) c) Q E s):
  i8 W A G0 target (.ref I) vs (λ i=>[(I,.any (P i))]) fin where
 vv:=λ i p hp=>by rw[List.mem_singleton.mp hp];exact⟨_,rfl⟩
 next:=λ{G DD s i Q E} k hi x hQ hN=>by
  have hh:∃o,s.heap.get? I=some o/\P i o:=x.led.has (I,.any (P i)) (UG ..)
  have hk:I∈aQ ([(I,MO.any (P i))]++DD):=UG ..
  have nd:=x.led.nodup
  have Iy:∀d,Led.put ([(I,MO.any (P i))]++DD) I d=[(I,d)]++DD:=λ d=>by
   rw[Led.ij]
   congr 1
   ·simp[Led.put]
   ·rw[Led.dP]
    intro hm
    rw[List.map_append,List.nodup_append] at nd
    exact nd.2.2 I (List.mem_singleton.mpr rfl) I hm rfl
  refine step hh (StaysIn.trans k x.led.stays) hi (λ v c h' t hv hr he hp=>?_) (λ hv=>?_)
  ·refine Rh hp (hQ v G c _ hv (StaysIn.refl _) ⟨?_,x.gD,x.top,x.gens,x.os⟩ (hr G k))
   have:=x.led.put (d:= .any (P (i+1))) he hk hp
   rw[Iy] at this;exact this
  ·refine d8 (λ h1 h2=>?_)<|hN hv
   refine⟨h1,λ h' he=>h2 _ ⟨?_,x.gD,x.top,x.gens,x.os⟩⟩
   have:=(x.led.sub (D':=DD) (US _ _))
   exact this.extBut (x.led.free (I,.any (P i)) (UG ..)) (λ hm=>by
    rw[List.map_append,List.nodup_append] at nd
    exact nd.2.2 I (List.mem_singleton.mpr rfl) I hm rfl) he
theorem qY{target:Expr}{I:Addr}{c:Value}{o:Obj}{T:String}{Q:Unit->Shared->Prop}(ho:s.heap.get? I=some o)(hc:o.cls= .type T)
  (hT:(["enumerate","zip","dict_itemiterator","dict_reverseitemiterator","odict_iterator","itertools.zip_longest","itertools.pairwise"].contains T)=false)(h:Q () s):
  wpAny (Md W) A (letOwnedTupleGo target (.ref I) c) Q E s:=by
 unfold letOwnedTupleGo
 split
 ·cases c<;> try (exact UL h)
  refine UC (wpAny_load ho ?_)
  obtain⟨oc,od,MT,pW⟩:=o
  simp only at hc
  subst hc
  cases MT<;> try (exact UL h)
  simp only [hT,Bool.false_and,Bool.false_eq_true,if_false]
  exact UL h
 ·cases c<;> try (exact UL h)
  refine UC (wpAny_load ho ?_)
  obtain⟨oc,od,MT,pW⟩:=o
  simp only at hc
  subst hc
  cases MT<;> try (exact UL h)
  simp only [hT,Bool.false_and,Bool.false_eq_true,if_false]
  exact UL h
 ·exact UL h
theorem ll{target:Expr}{t:Bool}{vs:List V}{c:Value}{Q:Value->Shared->Prop}{fin:Bool}(hf:fin=true->A.handled=none)(x:St W G D s)(r:Rp W G (.seq t vs) c)
  (hQ:∀it cK s',i8 W A G target it vs cK fin->St W G (cK 0++D) s'->(∀{s':Shared} {G':Heap} {D':Led} {Q:Value->Shared->Prop} {E:Value->Shared->Prop},St W G' (cK 0++D') s'->Q it s'->wpAny (Md W) A (pyIter it) Q E s')->Q it s'):wpAny (Md W) A (pyIter c) Q E s:=by
 simp only [Rp,Rep] at r
 refine ew (λ a items z2 h1 h2=>?_) r;clear r;subst z2
 have Bp:∀(o:Obj) (P:Nat->Obj->Prop),o.isFreed=false->P 0 o->St W G ([(s.heap.objs.size,MO.any (P 0))]++D) { s with heap:=s.heap.push o }:=λ o P hf hp=>
  ⟨x.led.push (λ b o e=>UQ _ e) (nK _) ⟨o,Heap.get?_push_size _ hf,hp⟩,x.gD,x.top,x.gens,x.os⟩
 cases t with
 |false=>
  refine wpAny_pyIter_list (x.seq h1).isList ?_
  let P:Nat->Obj->Prop:=λ i o=>o.cls= .type "list_iterator"/\o.data= .fields #[.ref a,.int i 0]
  have K3:=Bp { cls:= .type "list_iterator",data:= .fields #[.ref a,.int 0 0] } P rfl ⟨rfl,rfl⟩
  refine hQ _ (λ i=>[(s.heap.objs.size,.any (P i))]) _ (i8.one ?_ ?_) K3 ?_
  ·intro s i Q E hp hk hi hq hn
   have hl:s.heap.IsList a items.toArray:=(h1.keeps hk).isList
   cases hv:vs[i]? with
   |none=>
    refine d8 (λ e1 e2=>?_)<|hn hv
    refine wpAny_pyNext_list_end (hf e1) hp hl ?_ λ h' he=>e2 h' he
    have:=h2.length
    rw[List.getElem?_toArray,List.getElem?_eq_none_iff,this]
    exact List.getElem?_eq_none_iff.mp hv
   |some v=>
    refine aV (λ c hc rc=>?_)<|aL.get h2 hv
    refine wpAny_pyNext_list_item hp hl (by rw[List.getElem?_toArray];exact hc) λ h' hit hs=>hq v c h' s.toks hv (λ G' k=>Rep.keeps k _ rc) hs.extBut hit
  ·intro s i c Q E ⟨o,ho,hp⟩ hq
   exact qY ho hp.1 (by decide) hq
  ·intro s' G' D' Q E y hq
   exact wpAny_pyIter_listiter (y.led.has (_,.any (P 0)) (UG ..)) hq
 |true=>
  refine wpAny_pyIter_tuple (x.seq h1).isTup ?_
  let P:Nat->Obj->Prop:=λ i o=>o.cls= .type "tuple_iterator"/\o.data= .fields #[.ref a,.int i 0]
  have K3:=Bp { cls:= .type "tuple_iterator",data:= .fields #[.ref a,.int 0 0] } P rfl ⟨rfl,rfl⟩
  refine hQ _ (λ i=>[(s.heap.objs.size,.any (P i))]) _ (i8.one ?_ ?_) K3 ?_
  ·intro s i Q E hp hk hi hq hn
   have hl:IsTup s.heap a items.toArray:=(h1.keeps hk).isTup
   cases hv:vs[i]? with
   |none=>
    refine d8 (λ e1 e2=>?_)<|hn hv
    refine wpAny_pyNext_tuple_end (hf e1) hp hl ?_ λ h' he=>e2 h' he
    have:=h2.length
    rw[List.getElem?_toArray,List.getElem?_eq_none_iff,this]
    exact List.getElem?_eq_none_iff.mp hv
   |some v=>
    refine aV (λ c hc rc=>?_)<|aL.get h2 hv
    refine wpAny_pyNext_tuple_item hp hl (by rw[List.getElem?_toArray];exact hc) λ h' hit hs=>hq v c h' s.toks hv (λ G' k=>Rep.keeps k _ rc) hs.extBut hit
  ·intro s i c Q E ⟨o,ho,hp⟩ hq
   exact qY ho hp.1 (by decide) hq
  ·intro s' G' D' Q E y hq
   exact wpAny_pyIter_tupleiter (y.led.has (_,.any (P 0)) (UG ..)) hq
theorem oa(a c:Int)(n:Nat):((bK a c n).map V.int).length=n:=by simp[bK]
theorem og(a c:Int)(n i:Nat):((bK a c n).map V.int)[i]?=if i<n then some (.int (a+(i:Int)*c)) else none:=by
 unfold bK
 rw[List.getElem?_map,List.getElem?_map]
 by_cases h:i<n
 ·rw[if_pos h,List.getElem?_range h];rfl
 ·rw[if_neg h,List.getElem?_eq_none_iff.mpr (by simpa using Nat.not_lt.mp h)];rfl
theorem kq{target:Expr}{r:Addr}{a b c:Int}{t u v:Tok}{m:Nat}{Q:Value->Shared->Prop}{fin:Bool}(hf:fin=true->A.handled=none)(x:St W G D s)(hr:IsRange s.heap r a b c t u v)(hs:Builtin.Range.small a b c=true)
  (hm:Builtin.Range.rangeSize a b c=m)
  (hQ:∀it cK s',i8 W A G target it ((bK a c m).map .int) cK fin->St W G (cK 0++D) s'->(∀{s':Shared} {G':Heap} {D':Led} {Q:Value->Shared->Prop} {E:Value->Shared->Prop},St W G' (cK 0++D') s'->Q it s'->wpAny (Md W) A (pyIter it) Q E s')->Q it s'):wpAny (Md W) A (pyIter (.ref r)) Q E s:=by
 refine wpAny_pyIter_range hr hs ?_
 let P:Nat->Obj->Prop:=λ i o=>o={ cls:= .type "range_iterator",dict:=none,data:= .fields #[rawInt (a+(i:Int)*c),rawInt ((m:Int)-i),rawInt c],slots:=#[] }
 have K3:St W G ([(s.heap.objs.size,MO.any (P 0))]++D) { s with heap:=s.heap.push { cls:= .type "range_iterator",data:= .fields #[rawInt a,rawInt (Builtin.Range.rangeSize a b c),rawInt c] } }:=
  ⟨x.led.push (λ b o e=>UQ _ e) (nK _) ⟨_,Heap.get?_push_size _ rfl,by show _=_;rw[hm];simp⟩,x.gD,x.top,x.gens,x.os⟩
 refine hQ _ (λ i=>[(s.heap.objs.size,.any (P i))]) _ (i8.one ?_ ?_) K3 ?_
 ·intro s i Q E ⟨o,ho,hp⟩ hk hi hq hn
  replace hp:o={ cls:= .type "range_iterator",dict:=none,data:= .fields #[rawInt (a+(i:Int)*c),rawInt ((m:Int)-i),rawInt c],slots:=#[] }:=hp
  subst hp
  by_cases h:i<m
  ·refine wpAny_pyNext_range_item ho (by lia) λ h' h1 h2=>?_
   refine hq (.int (a+(i:Int)*c)) _ h' _ (by rw[og,if_pos h]) (λ _ _=>c0) h2.extBut ⟨_,h1,?_⟩
   show _=_
   have e1:a+(i:Int)*c+c=a+((i+1:Nat):Int)*c:=by rw[Int.natCast_add,Int.add_mul];lia
   have e2:(m:Int)-i-1=(m:Int)-((i+1:Nat):Int):=by lia
   rw[e1,e2]
  ·refine d8 (λ e1 e2=>?_)<|hn (by rw[og,if_neg h])
   exact wpAny_pyNext_range_end (hf e1) ho (by lia) λ h' he=>e2 h' he
 ·intro s i c Q E ⟨o,ho,hp⟩ hq
  replace hp:o=_:=hp
  exact qY ho (by rw[hp]) (by decide) hq
 ·intro s' G' D' Q E y hq
  refine aV (λ o ho hp=>?_)<|y.led.has (_,.any (P 0)) (UG ..)
  replace hp:o=_:=hp
  subst hp
  exact wpAny_pyIter_rangeiter ho hq
theorem l0{i:Int}(h:pa i=true):i<100000/\-100000<i:=by
 unfold pa at h
 simp only [Bool.and_eq_true,decide_eq_true_eq] at h
 exact h
theorem Bq{a:Int}(h:a<100000/\-100000<a):-2^63<=a/\a<2^63:=by lia
theorem K4{a b:Int}(ha:a<100000/\-100000<a)(hb:b<100000/\-100000<b):-2^63<=((a-b).toNat:Int)/\((a-b).toNat:Int)<2^63:=by lia
theorem yD{a b:Int}(ha:a<100000/\-100000<a)(hb:b<100000/\-100000<b):Builtin.Range.small a b (-1)=true/\Builtin.Range.rangeSize a b (-1)=((a-b).toNat:Int):=by
 have e:Builtin.Range.rangeSize a b (-1)=((a-b).toNat:Int):=by
  unfold Builtin.Range.rangeSize
  simp only [show ¬ ((-1:Int) > 0) by decide,if_false]
  split
  ·rename_i h
   rw[Int.neg_neg,Int.ediv_one,Int.sub_add_cancel,Int.toNat_of_nonneg (Int.sub_nonneg_of_le (Int.le_of_lt h))]
  ·rename_i h
   rw[Int.toNat_of_nonpos (Int.sub_nonpos_of_le (Int.not_lt.mp h))];rfl
 refine⟨?_,e⟩
 unfold Builtin.Range.small
 rw[e]
 simp only [Builtin.Range.rangeFitsLong,Bool.and_eq_true,Bool.or_eq_true,decide_eq_true_eq,beq_iff_eq,show ¬ ((-1:Int) > 0) by decide,if_false]
 exact⟨⟨⟨⟨Bq ha,Bq hb⟩,by decide⟩,K4 ha hb⟩,.inr ((Int.add_zero b).symm▸Bq hb)⟩
theorem pX{a b:Int}(ha:a<100000/\-100000<a)(hb:b<100000/\-100000<b):Builtin.Range.small a b 1=true/\Builtin.Range.rangeSize a b 1=((b-a).toNat:Int):=by
 refine⟨small_one (by lia) (by lia) (by lia) (by lia),?_⟩
 rw[rangeSize_one]
 split<;> lia
theorem lp{vs:List V}{ns:List Int}(h:bN vs=some ns):∃is,ez vs=some is/\gJ is=some ns:=Option.bind_eq_some_iff.mp h
inductive E7(ns:List Int):List Int->Prop
 |one {n:Int} (h:pa n=true) (e:ns=bK 0 1 n.toNat):E7 ns [n]
 |two {a b:Int} (h:(pa a&&pa b)=true) (e:ns=bK a 1 (b-a).toNat):E7 ns [a,b]
 |down {a b:Int} (h:pa a=true/\pa b=true) (e:ns=bK a (-1) (a-b).toNat):E7 ns [a,b,-1]
theorem NJ{is ns:List Int}(h:gJ is=some ns):E7 ns is:=by
 cases is with
 |nil=>exact bj h
 |cons a r=>cases r with
  |nil=>exact .one (aO h).1 (aO h).2
  |cons b r=>cases r with
   |nil=>exact .two (aO h).1 (aO h).2
   |cons c r=>cases r with
    |cons _ _=>exact bj h
    |nil=>
     obtain⟨⟨e1,e2⟩,e3⟩:=aO h
     rw[e1];exact .down e2 e3
theorem vx{is ns:List Int}{cs:List Value}{Q:Value->Shared->Prop}(h:gJ is=some ns)(x:St W G D s)(r:IntsAre cs is)
  (hQ:∀a b c m rr s' t u v,ns=bK a c m->IsRange s'.heap rr a b c t u v->Builtin.Range.small a b c=true->Builtin.Range.rangeSize a b c=m->St W G D s'->Q (.ref rr) s'):
  wpAny (Md W) A (PySem.call (.type "range") cs) Q E s:=by
 cases NJ h with
 |one hn e=>
  obtain⟨t,_,rfl,rfl⟩:∃t r,cs= .int _ t::r/\r=[]:=by cases r with|cons _ t r=>cases r;exact⟨t,_,rfl,rfl⟩
  have hn:=l0 hn
  have:=pX (a:=0) (b:=_) (by exact⟨(by decide),(by decide)⟩) hn
  exact call_range_1 (hQ 0 _ 1 _ _ _ _ _ _ e (IsRange.new ..) this.1 (by simpa using this.2) (x.keeps (cB _ _)))
 |two hn e=>
  obtain⟨t,t',rfl⟩:∃t t',cs=[.int _ t,.int _ t']:=by cases r with|cons _ t r=>cases r with|cons _ t' r=>cases r;exact⟨t,t',rfl⟩
  have hn:=Bool.and_eq_true_iff.mp hn
  have:=pX (l0 hn.1) (l0 hn.2)
  exact call_range_2 (hQ _ _ 1 _ _ _ _ _ _ e (IsRange.new ..) this.1 this.2 (x.keeps (cB _ _)))
 |down hn e=>
  obtain⟨t,t',MU,rfl⟩:∃t t' MU,cs=[.int _ t,.int _ t',.int _ MU]:=by cases r with|cons _ t r=>cases r with|cons _ t' r=>cases r with|cons _ MU r=>cases r;exact⟨t,t',MU,rfl⟩
  have:=yD (l0 hn.1) (l0 hn.2)
  exact call_range_3 (by decide) (hQ _ _ (-1) _ _ _ _ _ _ e (IsRange.new ..) this.1 this.2 (x.keeps (cB _ _))) (Or.inl (PyProof.noPylong_small (by decide)))
theorem kr{vs:List V}{ns:List Int}{cs:List Value}{Q:Value->Shared->Prop}(h:bN vs=some ns)(x:St W G D s)(r:dS W G vs cs)
  (hQ:∀a b c m rr s' t u v,ns=bK a c m->IsRange s'.heap rr a b c t u v->Builtin.Range.small a b c=true->Builtin.Range.rangeSize a b c=m->St W G D s'->Q (.ref rr) s'):
  wpAny (Md W) A (PySem.call (.type "range") cs) Q E s:=by
 refine aV (λ is e1 e2=>?_)<|lp h
 exact vx e2 x (kW e1 r) hQ
theorem sP{v:V}{a c:Int}{m:Nat}(h:bN [v]=some (bK a c m)):m<100000:=by
 refine aV (λ is e1 e2=>?_)<|lp h
 refine ew (λ i ms e3 e4 e5=>?_)<|nZ e1
 rw[bZ e4] at e5
 rw[e5] at e2
 refine d8 (λ hn e=>?_)<|aO (show(if pa i then some (bK 0 1 i.toNat) else none)=some _ from e2)
 have:=congrArg List.length e
 simp only [bK,List.length_map,List.length_range] at this
 have:=l0 hn
 lia
noncomputable def compEnv(env:Env)(scope:Scope)(L:Addr)(cl:List (Str×Addr)):Env:=
 { scope:=relabel scope env,locals:=L,globals:=env.globals,cells:=cellsFrom (L+1) scope.names cl,qual:=env.qual,func:=none,code:=env.code,frame:=env.frame,builtins:=env.builtins }
noncomputable def Cx.inner(cx:Cx)(env:Env)(i:Nat)(p:Pl):Cx:={ cx with env:=env,pl:=cx.pl.set i (some p) }
structure gh(g:bQ)(scope:Scope)(i:Nat)(t:Str):Prop where
 q:g.q=true
 rw:g.rw=true
 nm:g.names[i]?=some t
 ok:iu t=true
 kt:scope.names.lookup t=some .local\/scope.names.lookup t=some .cell
 kind:scope.kind= .function
 uniq:∀p∈scope.names,scope.names.lookup p.1=some p.2
 ai:∀p∈scope.names,p.2= .local->p.1=(".0":Str)\/p.1=t
 gd:∀p∈scope.names,p.2= .cell->p.1=t
 NK:∀p∈scope.names,p.2= .free->g.kind p.1=some .cell
 out:g.kind t=none
 tg:i∈g.tg
 dot:(".0":Str)∉g.names
theorem l3{scope:Scope}{i:Nat}{t:Str}(h:Aj g i t scope=true):gh g scope i t:=by
 have h4:=ar (al (al (al h)))
 unfold mA at h4
 simp only [Bool.and_eq_true,Bool.not_eq_true',decide_eq_true_eq,List.all_eq_true] at h4
 obtain⟨⟨⟨⟨k1,k2⟩,k3⟩,k4⟩,k5⟩:=h4
 have u:∀p∈scope.names,scope.names.lookup p.1=some p.2:=k4
 refine⟨al (al (al (al (al (al (al (al h))))))),ar (al (al (al (al (al (al (al h))))))),UH (ar (al (al (al (al (al (al h))))))),ar (al (al (al (al (al h))))),od (ar (al (al (al (al h))))),k1,u,λ p hp e=>?_,λ p hp e=>?_,λ p hp e=>?_,UH (ar (al (al h))),List.contains_iff_mem.mp (ar (al h)),λ m=>absurd (List.contains_iff_mem.mpr m) (Bool.eq_false_iff.mp (dn (ar h)))⟩
 ·have:=k5 _ hp
  rw[e] at this
  simpa using this
 ·have:=k5 _ hp
  rw[e] at this
  simpa using this
 ·have:=k5 _ hp
  rw[e] at this
  exact UH this
section
variable{scope:Scope}{i:Nat}{t:Str}{L:Addr}{as:List Addr}
theorem ks(C:bS W cx g):relabel scope cx.env=gU g.scope scope:=by
 unfold relabel gU
 congr 1
 refine List.map_congr_left λ p _=>?_
 obtain⟨nm,k⟩:=p
 simp only
 unfold Env.kindOf
 rw[C.scope,C.kind]
 simp only [beq_self_eq_true,Bool.and_true]
 congr 1
 first|rfl|simp
theorem wK{outer:Scope}{nm:Str}:((scope.names.map λ p=>if p.2== .free&&decide (outer.names.lookup p.1=some .cell) then (p.1,.cell) else p).lookup nm)=
  (scope.names.lookup nm).map λ k=>if k== .free&&decide (outer.names.lookup nm=some .cell) then .cell else k:=by
 induction scope.names with
 |nil=>rfl
 |cons p r ih=>
  obtain⟨m,k⟩:=p
  rw[List.map_cons,List.lookup_cons]
  simp only
  by_cases h:(k==NameKind.free&&decide (outer.names.lookup m=some .cell))=true
  ·rw[if_pos h,List.lookup_cons]
   cases hm:nm==m with
   |true=>
    have:=eq_of_beq hm
    subst this
    simp only [Option.map_some]
    rw[if_pos h]
   |false=>simp only;exact ih
  ·rw[if_neg h,List.lookup_cons]
   cases hm:nm==m with
   |true=>
    have:=eq_of_beq hm
    subst this
    simp only [Option.map_some]
    rw[if_neg h]
   |false=>simp only;exact ih
theorem dF:∀(names:List (Str×NameKind)) (k:Nat) (acc:List (Str×Addr)),cellsFrom k names acc=cellsFrom k names []++acc
 | [],_,_=>rfl
 |(m,kd)::r,k,acc=>by
  unfold cellsFrom
  split
  ·rw[dF r (k+1) ((m,k)::acc),dF r (k+1) [(m,k)],List.append_assoc];rfl
  ·exact dF r k acc
theorem gL:∀(names:List (Str×NameKind)) (k:Nat) (acc:List (Str×Addr)) (p:Str×Addr),p∈cellsFrom k names acc->p∈acc\/(p.1,NameKind.cell)∈names
 | [],_,_,_,h=> .inl h
 |(m,kd)::r,k,acc,p,h=>by
  unfold cellsFrom at h
  split at h
  ·rename_i hk
   rcases gL r _ _ p h with h|h
   ·rcases List.mem_cons.mp h with rfl|h
    ·exact .inr (by rw[eq_of_beq hk];exact UG ..)
    ·exact .inl h
   ·exact .inr (UK _ h)
  ·exact(gL r _ _ p h).imp (λ x=>x) (UK _)
theorem iC{α β:Type}[BEq α]:∀(l l':List (α×β)) (a:α),(l++l').lookup a=(l.lookup a).or (l'.lookup a)
 | [],_,_=>by simp
 |(b,x)::r,l',a=>by
  rw[List.cons_append,List.lookup_cons,List.lookup_cons]
  cases a==b
  ·exact iC r l' a
  ·rfl
theorem oh{l:List (Str×Addr)}{nm:Str}(h:∀p∈l,p.1≠nm):l.lookup nm=none:=by
 cases q:l.lookup nm with
 |none=>rfl
 |some a=>exact absurd rfl (h _ (mem_of_lookup q))
set_option tactic.hygienic true in
theorem vy{ns:List Str}{as:List Addr}{cells:List (Str×Addr)}{nm:Str}(h:dm (λ nm a=>cells.lookup nm=some a) ns as)(hm:nm∈ns):(ns.zip as).lookup nm=cells.lookup nm:=by
 induction h with
 |nil=>cases hm
 |cons h1 _ ih=>
  rename_i a b as bs _
  rw[List.zip_cons_cons,List.lookup_cons]
  cases q:nm==a with
  |true=>rw[eq_of_beq q];exact h1.symm
  |false=>
   rcases List.mem_cons.mp hm with rfl|hm
   ·rw[beq_self_eq_true] at q;cases q
   ·exact ih hm
theorem l4(C:bS W cx g)(K:gh g scope i t):∃as,dm (λ nm a=>cx.env.cells.lookup nm=some a) (freeOf scope) as:=by
 have:∀l:List Str,(∀nm∈l,g.kind nm=some .cell)->∃as,dm (λ nm a=>cx.env.cells.lookup nm=some a) l as:=by
  intro l
  induction l with
  |nil=>exact λ _=>⟨[],.nil⟩
  |cons nm l ih=>
   intro h
   refine bJ (λ a ha=>?_)<|C.cells nm (h nm (UG ..))
   refine bJ (λ as has=>?_)<|ih λ m hm=>h m (UK _ hm)
   exact⟨a::as,.cons ha has⟩
 refine this _ λ nm hm=>?_
 unfold freeOf at hm
 rw[List.mem_reverse] at hm
 refine aV (λ p hp z2=>?_)<|List.mem_map.mp hm;subst z2
 refine d8 (λ h1 h2=>?_)<|List.mem_filter.mp hp
 exact K.NK p h1 (eq_of_beq h2)
theorem l5(C:bS W cx g)(K:gh g scope i t){cl:List (Str×Addr)}{nm:Str}{r:NameKind}(h:(compEnv cx.env scope L cl).kindOf nm=some r):(scope.names.lookup nm=some r/\r≠ .free)\/(scope.names.lookup nm=some .free/\r= .cell):=by
 have e:(compEnv cx.env scope L cl).kindOf nm=(scope.names.lookup nm).map λ k=>if k== .free&&decide (g.scope.names.lookup nm=some .cell) then .cell else k:=
  (congrArg (λ s:Scope=>s.names.lookup nm) (ks C)).trans wK
 replace h:=e.symm.trans h
 clear e
 cases q:scope.names.lookup nm with
 |none=>rw[q] at h;exact bj h
 |some k=>
  have hf:k= .free->g.scope.names.lookup nm=some .cell:=λ e=>K.NK _ (mem_of_lookup (e▸q)) rfl
  rw[q] at h
  replace h:=si h
  by_cases hk:k= .free
  ·refine .inr ⟨congrArg some hk,?_⟩
   exact h.symm.trans (if_pos (by rw[hk,UJ (hf hk)];rfl))
  ·have:=(if_neg (λ e=>hk (eq_of_beq ((Bool.and_eq_true _ _).mp e).1))).symm.trans h
   exact this▸ .inl ⟨rfl,hk⟩
theorem qZ(C:bS W cx g)(K:gh g scope i t){cl:List (Str×Addr)}(lh:dm (λ nm a=>cx.env.cells.lookup nm=some a) (freeOf scope) as)(vz:cl=(freeOf scope).zip as){nm:Str}(et:nm≠t)(h:(compEnv cx.env scope L cl).kindOf nm=some .cell):
  (compEnv cx.env scope L cl).cells.lookup nm=cx.env.cells.lookup nm/\g.kind nm=some .cell:=by
 rcases l5 C K h with h|h
 ·exact absurd (K.gd _ (mem_of_lookup h.1) rfl) et
 ·have hm:=mem_of_lookup h.1
  refine⟨?_,K.NK _ hm rfl⟩
  show(cellsFrom (L+1) scope.names cl).lookup nm=_
  rw[dF,iC,oh (λ p hp e=>by
   rcases gL _ _ _ p hp with h|h
   ·exact nomatch h
   ·exact et (e▸(K.gd _ h rfl))),Option.none_or,vz]
  refine vy lh ?_
  unfold freeOf
  rw[List.mem_reverse]
  exact List.mem_map.mpr ⟨(nm,.free),List.mem_filter.mpr ⟨hm,rfl⟩,rfl⟩
theorem Br(C:bS W cx g)(K:gh g scope i t){cl:List (Str×Addr)}{j:Nat}{nm:Str}(e1:g.names[j]?=some nm)(et:nm≠t){p:Prop}(h:(compEnv cx.env scope L cl).kindOf nm=some .local):p:=by
 rcases l5 C K h with h|h
 ·rcases K.ai _ (mem_of_lookup h.1) rfl with h|h
  ·exact absurd (h▸List.mem_of_getElem? e1) K.dot
  ·exact absurd h et
 ·exact nomatch h.2
theorem q5{α:Type}{l:List (Option α)}{i j:Nat}{x p:α}(h:(l.set i (some x))[j]?=some (some p)):(i=j/\x=p)\/(i≠j/\l[j]?=some (some p)):=by
 rw[List.getElem?_set] at h
 by_cases e:i=j
 ·rw[if_pos e] at h
  by_cases hi:i<l.length
  ·rw[if_pos hi] at h;exact .inl ⟨e,Option.some.inj (Option.some.inj h)⟩
  ·rw[if_neg hi] at h;exact bj h
 ·rw[if_neg e] at h;exact .inr ⟨e,h⟩
theorem Iz(C:bS W cx g)(K:gh g scope i t){dJ:Pl}{cl:List (Str×Addr)}(lh:dm (λ nm a=>cx.env.cells.lookup nm=some a) (freeOf scope) as)(vz:cl=(freeOf scope).zip as)
  (mC:(scope.names.lookup t=some .local/\dJ= .ai L t)\/(scope.names.lookup t=some .cell/\∃ca,(cellsFrom (L+1) scope.names []).lookup t=some ca/\dJ= .gd ca)){j:Nat}{nm:Str}{p:Pl}(e1:g.names[j]?=some nm)(e2:(cx.pl.set i (some dJ))[j]?=some (some p)):
  H5 (compEnv cx.env scope L cl) nm p:=by
 rcases q5 e2 with ⟨z,z2⟩|⟨Ri,e2⟩
 ·subst z z2
  have:=si (K.nm.symm.trans e1);subst this
  rcases mC with ⟨h1,h2⟩|⟨h1,ca,h2,h3⟩
  ·refine⟨λ _=>h2,λ k k1 k2=>?_⟩
   rcases l5 C K k2 with ⟨h,hn⟩|⟨h,_⟩
   ·have:=si (h1.symm.trans h);subst this;rcases k1 with h|h<;> exact nomatch h
   ·exact nomatch si (h1.symm.trans h)
  ·refine⟨λ hk=>?_,λ k k1 k2=>⟨ca,?_,h3⟩⟩
   ·rcases l5 C K hk with ⟨h,hn⟩|⟨h,_⟩<;> exact nomatch si (h1.symm.trans h)
   ·show(cellsFrom (L+1) scope.names cl).lookup t=some ca
    rw[dF,iC,h2];rfl
 ·have et:nm≠t:=λ e=>Ri (C.nd i j t K.nm (e▸e1))
  refine⟨Br C K e1 et,λ k Kd Iu=>?_⟩
  have NM:k= .cell:=by
   rcases l5 C K Iu with ⟨_,hn⟩|h
   ·exact Kd.resolve_right hn
   ·exact h.2
  subst NM
  refine d8 (λ h1 h2=>?_)<|qZ C K lh vz et Iu
  refine aV (λ a ha r=>?_)<|(C.acc j nm p e1 e2).2 .cell (.inl rfl) (by
   show cx.env.scope.names.lookup nm=_
   rw[C.scope];exact h2)
  exact⟨a,h1.trans ha,r⟩
theorem E8(C:bS W cx g)(K:gh g scope i t){dJ:Pl}{cl:List (Str×Addr)}(lh:dm (λ nm a=>cx.env.cells.lookup nm=some a) (freeOf scope) as)(vz:cl=(freeOf scope).zip as)
  (mC:(scope.names.lookup t=some .local/\dJ= .ai L t)\/(scope.names.lookup t=some .cell/\∃ca,(cellsFrom (L+1) scope.names []).lookup t=some ca/\dJ= .gd ca))
  (E9:∀(j:Nat),cx.pl[j]?≠some (some dJ)):bS W (cx.inner (compEnv cx.env scope L cl) i dJ) (g.yc scope):=by
 have hk:∀{nm r},(g.yc scope).kind nm=some r->(compEnv cx.env scope L cl).kindOf nm=some r:=λ h=>(congrArg (λ s:Scope=>s.names.lookup _) (ks C)).trans h
 refine⟨ks C,K.kind,C.globals,C.builtins,List.length_set.trans C.len,λ j nm p e1 e2=>Iz C K lh vz mC e1 e2,λ AW j1 j2 p e1 e2=>?_,C.hh,C.frames,C.top,λ nm h=>?_,C.nd,λ _ h=>(nomatch h),λ j nm e1 h=>?_,C.code⟩
 ·rcases q5 e1 with ⟨a,b⟩|⟨_,a⟩<;> rcases q5 e2 with ⟨c,d⟩|⟨_,c⟩
  ·exact a.symm.trans c
  ·exact absurd (b▸c) (E9 _)
  ·exact absurd (d▸a) (E9 _)
  ·exact C.inj AW _ _ _ a c
 ·by_cases et:nm=t
  ·subst et
   rcases mC with ⟨h1,_⟩|⟨h1,ca,h2,_⟩
   ·rcases l5 C K (hk h) with ⟨h,_⟩|⟨h,_⟩<;> exact nomatch si (h1.symm.trans h)
   ·refine⟨ca,?_⟩
    show(cellsFrom (L+1) scope.names cl).lookup nm=some ca
    rw[dF,iC,h2];rfl
  ·refine d8 (λ h1 h2=>?_)<|qZ C K lh vz et (hk h)
   exact(C.cells nm h2).imp λ a ha=>h1.trans ha
 ·show ∃p,(cx.pl.set i (some dJ))[j]?=some (some p)
  rw[List.getElem?_set]
  by_cases mZ:i=j
  ·rw[if_pos mZ,if_pos (by rw[C.len];exact(List.getElem?_eq_some_iff.mp K.nm).1)];exact⟨_,rfl⟩
  ·rw[if_neg mZ]
   have et:nm≠t:=λ e=>mZ (C.nd i j t K.nm (e▸e1))
   exact C.dJ j nm e1 (.inr (h.elim (λ h=>Br C K e1 et (hk h)) λ h=>(qZ C K lh vz et (hk h)).2))
end
end Mine
end
section
open PySem PySem.W PyProof.Rows PySem.Calls PySem.SeqAt PySem.Spec
namespace Mine
variable{W:Wd}{n:Nat}{call:Hd}{lc:Nat->Scope->Expr->Bool}
variable{cx:Cx}{g:bQ}{rw:Bool}{G G':Heap}{D O:Led}{sl:List Slot}{s:Shared}{E:Value->Shared->Prop}{A:Around}
variable{scope:Scope}{i:Nat}{t:Str}{L:Addr}{as:List Addr}
noncomputable def gF(dJ:Pl)(D D':Led):Prop:=∀a d,a≠dJ.addr->(∀t it,d≠MO.list t it)->(a,d)∈D->(a,d)∈D'
theorem gF.refl(dJ:Pl)(D:Led):gF dJ D D:=λ _ _ _ _ h=>h
theorem gF.trans{dJ:Pl}{D D' iw:Led}(x:gF dJ D D')(y:gF dJ D' iw):gF dJ D iw:=λ a d h1 h2 h=>y a d h1 h2 (x a d h1 h2 h)
theorem bF.Rk{dJ:Pl}{D D':Led}(x:bF D D'):gF dJ D D':=λ a d _ h2 h=>x a d h2 h
theorem Fb{cl:List (Str×Addr)}{Q:Env->Shared->Prop}(hQ:∀h',(∀b o,s.heap.get? b=some o->h'.get? b=some o)->h'.Ns s.heap.objs.size (λ _=>none)->
   (∀nm ca,(cellsFrom (s.heap.objs.size+1) scope.names []).lookup nm=some ca->h'.IsCell ca none/\s.heap.objs.size<ca)->
   Q (newEnv scope s.heap.objs.size cx.env.globals (cellsFrom (s.heap.objs.size+1) scope.names cl) cx.env.qual none .none (some cx.env) builtinsNs) { s with heap:=h' }):
  wpAny (Md W) A (newFunctionEnv scope cx.env.globals cl [] cx.env.qual none .none (some cx.env)) Q E s:=by
 simp only [newFunctionEnv,Option.isSome_some,if_true]
 refine UC (wpAny_alloc ?_)
 refine UC (wpAny_layCells _ (λ name kind cells=>by cases NM:kind==NameKind.cell<;> simp[NM]) _ _ _ _ ?_)
 have ok:=cellsFrom_ok scope.names (s.heap.push { cls:= .type "dict",data:= .dict #[] }) (s.heap.objs.size+1) [] ⟨λ _ _ hm=>(nomatch hm),List.Pairwise.nil⟩ (by rw[Heap.size_push];exact Nat.le_refl _)
 rw[Heap.size_push] at ok
 rw[show({ s with heap:=s.heap.push { cls:= .type "dict",data:= .dict #[] } }:Shared).heap.objs.size=s.heap.objs.size+1 from Heap.size_push ..]
 rw[List.forIn_nil]
 refine UC (UL (UL ?_))
 refine hQ _ (λ b o e=>pushCells_keeps _ _ b o (UQ _ e)) ((Heap.Ns.new s.heap (.type "dict")).keeps (pushCells_keeps _ _)) λ nm ca hl=>?_
 have:=ok.empty nm ca (mem_of_lookup hl)
 exact⟨this.1,this.2⟩
theorem yE(C:bS W cx g)(K:gh g scope i t)(x:Rel W cx true G D O sl s){cl:List (Str×Addr)}(lh:dm (λ nm a=>cx.env.cells.lookup nm=some a) (freeOf scope) as)(vz:cl=(freeOf scope).zip as){Q:Env->Shared->Prop}
  (hQ:∀dJ new s',bS W (cx.inner (compEnv cx.env scope s.heap.objs.size cl) i dJ) (g.yc scope)->Rel W (cx.inner (compEnv cx.env scope s.heap.objs.size cl) i dJ) true G (new++D) O (sl.set i .af) s'->
   (∀b o,s.heap.get? b=some o->s'.heap.get? b=some o)->(∀a∈aQ new,s.heap.objs.size<=a/\(a=s.heap.objs.size\/dJ= .gd a))->dJ.addr∈aQ new->s.heap.objs.size∈aQ new->St W G (D++O) s'->
   Q (newEnv scope s.heap.objs.size cx.env.globals (cellsFrom (s.heap.objs.size+1) scope.names cl) cx.env.qual none .none (some cx.env) builtinsNs) s'):
  wpAny (Md W) A (newFunctionEnv scope cx.env.globals cl [] cx.env.qual none .none (some cx.env)) Q E s:=by
 refine Fb λ h' hk hn Kb=>?_
 have hi:i<cx.pl.length:=by rw[C.len];exact(List.getElem?_eq_some_iff.mp K.nm).1
 have sm:i<sl.length:=by rw[x.len];exact hi
 have key:∀(dJ:Pl) (new:Led),((scope.names.lookup t=some .local/\dJ= .ai s.heap.objs.size t)\/(scope.names.lookup t=some .cell/\∃ca,(cellsFrom (s.heap.objs.size+1) scope.names []).lookup t=some ca/\dJ= .gd ca))->
   (∀a∈aQ new,s.heap.objs.size<=a/\(a=s.heap.objs.size\/dJ= .gd a))->dJ.addr∈aQ new->(s.heap.objs.size,MO.ns λ _=>none)∈new->(aQ new).Nodup->(∀p∈new,qv G h' p.1 p.2)->vh new dJ->
   Q (newEnv scope s.heap.objs.size cx.env.globals (cellsFrom (s.heap.objs.size+1) scope.names cl) cx.env.qual none .none (some cx.env) builtinsNs) { s with heap:=h' }:=by
  intro dJ new mC zF Kg hL Bs hh Ki
  have fresh:∀a,s.heap.objs.size<=a->a∉aQ (D++O):=λ a ha=>kS x.st.led ha
  have E9:∀(j:Nat),cx.pl[j]?≠some (some dJ):=λ j e=>by
   have:=x.place rfl j dJ e
   have h1:=(zF _ Kg).1
   apply fresh _ h1
   rw[bD]
   refine UD _ ?_
   cases dJ with
   |ai L nm=>refine bJ (λ m h=>?_) this;clear this;exact cA h
   |gd a=>refine bJ (λ m h=>?_) this;clear this;exact cA h
  have C':=E8 (L:=s.heap.objs.size) C K lh vz mC E9
  have y:=x.st.keeps (t:=s.toks) hk
  have st:St W G ((new++D)++O) { s with heap:=h' }:=⟨⟨y.led.stays,λ p hp=>by
    rw[List.append_assoc] at hp
    rcases List.mem_append.mp hp with hp|hp
    ·exact hh p hp
    ·exact y.led.has p hp,λ p hp=>by
    rw[List.append_assoc] at hp
    rcases List.mem_append.mp hp with hp|hp
    ·have:=(zF p.1 (UR (f:=λ p:Addr×MO=>p.1) hp)).1
     cases q:G.get? p.1 with
     |none=>rfl
     |some o=>exact absurd (Heap.lt_size (x.st.led.stays _ _ q)) (Nat.not_lt.mpr this)
    ·exact y.led.free p hp,by
    rw[List.append_assoc,List.map_append,List.nodup_append]
    exact⟨Bs,y.led.nodup,λ a ha b hb e=>fresh a (zF a ha).1 (e▸hb)⟩⟩,y.gD,y.top,y.gens,y.os⟩
  have up:∀p,p∈D++O->p∈(new++D)++O:=λ p hp=>by rw[List.append_assoc];exact UE _ hp
  refine hQ dJ new _ C' ⟨st,?_,λ j z p e1 e2=>?_,λ _ j p e=>?_,⟨λ env he=>?_,λ q hq=>up _ (x.frames.2 q hq)⟩,⟨_,UD _ hL⟩⟩ hk zF Kg (cA hL) y
  ·show(sl.set i .af).length=(cx.pl.set i (some dJ)).length
   rw[List.length_set,List.length_set];exact x.len
  ·replace e2:(cx.pl.set i (some dJ))[j]?=some p:=e2
   rw[List.getElem?_set] at e1 e2
   by_cases mZ:i=j
   ·rw[if_pos mZ,if_pos sm] at e1
    replace e1:=si e1;subst e1
    cases p<;> trivial
   ·rw[if_neg mZ] at e1 e2
    have ok:=x.slots j z p e1 e2
    cases p with
    |none=>cases z<;> first|trivial|exact ok
    |some p=>
     have IA:∀c,At G D p c->At G (new++D) p c:=λ c h=>by
      cases p with
      |ai L nm=>refine aV (λ m h1 h2=>?_) h;clear h;exact⟨m,UE _ h1,h2⟩
      |gd a=>exact h.imp (UE _) λ x=>x
     cases z with
     |af=>trivial
     |val v=>refine aV (λ c h1 h2=>?_) ok;clear ok;exact⟨c,IA _ h1,h2⟩
     |own ys=>refine ew (λ b it h1 h2 h3=>?_) ok;clear ok;exact⟨b,it,IA _ h1,UE _ h2,h3⟩
     |aD ys=>refine fY (λ it h1 h2 h3=>?_) ok;clear ok;exact⟨it,IA _ h1,UE _ h2,h3⟩
  ·replace e:(cx.pl.set i (some dJ))[j]?=some (some p):=e
   rw[List.getElem?_set] at e
   by_cases mZ:i=j
   ·rw[if_pos mZ,if_pos hi] at e
    cases e
    cases dJ with
    |ai L nm=>refine bJ (λ m h=>?_) Ki;clear Ki;exact⟨m,UD _ h⟩
    |gd a=>refine bJ (λ m h=>?_) Ki;clear Ki;exact⟨m,UD _ h⟩
   ·rw[if_neg mZ] at e
    have:=x.place rfl j p e
    cases p with
    |ai L nm=>refine bJ (λ m h=>?_) this;clear this;exact⟨m,UE _ h⟩
    |gd a=>refine bJ (λ m h=>?_) this;clear this;exact⟨m,UE _ h⟩
  ·obtain⟨e1,L,m,e2,e3⟩:=x.frames.1 env he
   exact⟨e1,L,m,e2,up _ e3⟩
 rcases K.kt with MV|MV
 ·refine key (.ai s.heap.objs.size t) [(s.heap.objs.size,.ns λ _=>none)] (.inl ⟨MV,rfl⟩) (λ a ha=>?_) (UG ..) (UG ..) ?_ (λ p hp=>?_) ⟨_,UG ..⟩
  ·have:a=s.heap.objs.size:=List.mem_singleton.mp ha
   exact⟨Nat.le_of_eq this.symm,.inl this⟩
  ·simp[aQ]
  ·rw[List.mem_singleton.mp hp];exact hn
 ·have hs:=cellsFrom_some (x:=t) scope.names (s.heap.objs.size+1) [] (.inl MV)
  refine bJ (λ ca PM=>?_)<|Option.isSome_iff_exists.mp hs
  refine d8 (λ c1 c2=>?_)<|Kb t ca PM
  refine key (.gd ca) [(s.heap.objs.size,.ns λ _=>none),(ca,.cell none)] (.inr ⟨MV,ca,PM,rfl⟩) (λ a ha=>?_) (UK _ (UG ..)) (UG ..) ?_ (λ p hp=>?_) ⟨_,UK _ (UG ..)⟩
  ·rcases List.mem_cons.mp ha with ha|ha
   ·replace ha:a=s.heap.objs.size:=ha
    exact⟨Nat.le_of_eq ha.symm,.inl ha⟩
   ·have ha:a=ca:=List.mem_singleton.mp ha
    exact⟨by rw[ha];exact Nat.le_of_lt c2,.inr (by rw[ha])⟩
  ·have:s.heap.objs.size≠ca:=Nat.ne_of_lt c2
   simp[aQ,this]
  ·rcases List.mem_cons.mp hp with rfl|hp
   ·exact hn
   ·rw[List.mem_singleton.mp hp];exact c1
theorem Bt{Fc:Env}{dJ:Pl}{new D':Led}{a8:List Slot}{s':Shared}(K:gh g scope i t)(C:bS W cx g)(x:Rel W cx true G D O sl s)(x':Rel W (cx.inner Fc i dJ) true G' D' O a8 s')(hL:Fc.locals=L)
  (kb:gF dJ (new++D) D')(zF:∀a∈aQ new,a∉aQ (D++O)/\(a=L\/dJ= .gd a))(Kg:dJ.addr∈aQ new)(MW:L∈aQ new):
  ∃iw m,List.Sublist iw D'/\bF D iw/\Rel W cx true G' iw O (a8.set i .af) s'/\(L,MO.ns m)∈D'/\L∉aQ (iw++O)/\St W G' ((L,MO.ns m)::(iw++O)) s':=by
 refine bJ (λ m hm=>?_)<|x'.here
 have hm:(L,MO.ns m)∈D':=hL▸hm
 have hi:i<cx.pl.length:=by rw[C.len];exact(List.getElem?_eq_some_iff.mp K.nm).1
 have Ki:cx.pl[i]?=some none:=C.tg i K.tg
 let iw:=D'.filter λ q=>decide (q.1∉aQ new)
 have nd:=x'.st.led.nodup
 have mY:(D'.map (·.1)).Nodup:=by rw[List.map_append,List.nodup_append] at nd;exact nd.1
 have inD:∀a d,(a,d)∈D'->a∉aQ new->(a,d)∈iw:=λ a d h h'=>List.mem_filter.mpr ⟨h,by simpa using h'⟩
 have kD:bF D iw:=λ a d hd h=>by
  have hn:a∉aQ new:=λ hn=>(zF a hn).1 (by rw[bD];exact UD _ (cA h))
  exact inD a d (kb a d (λ e=>hn (e▸Kg)) hd (UE _ h)) hn
 have sub:List.Sublist (iw++O) (D'++O):=List.Sublist.append List.filter_sublist (List.Sublist.refl _)
 have J9:=x'.st.sub sub
 have Bu:L∉aQ (iw++O):=λ h=>by
  rw[bD] at h
  rcases List.mem_append.mp h with h|h
  ·refine aV (λ p hp e=>?_)<|List.mem_map.mp h
   have:=(List.mem_filter.mp hp).2
   rw[decide_eq_true_eq] at this
   replace e:p.1=L:=e
   exact this (e▸MW)
  ·exact(zF L MW).1 (by rw[bD];exact UE _ h)
 have PN:∀a j it,(a,MO.list j it)∈D'->a∉aQ new:=λ a j it h hn=>by
  rcases(zF a hn).2 with e|e
  ·subst e
   have:=aG mY h hm;cases this
  ·have:=x'.place rfl i dJ (by show(cx.pl.set i (some dJ))[i]?=_;rw[List.getElem?_set_self hi])
   rw[e] at this
   refine bJ (λ v hv=>?_) this;clear this
   have:=aG mY h hv;cases this
 have NN:∀p c,vh D p->At G' D' p c->At G' iw p c:=λ p c hp h=>by
  have Fd:∀a,a∈aQ D->a∉aQ new:=λ a ha hn=>(zF a hn).1 (by rw[bD];exact UD _ ha)
  cases p with
  |ai L1 nm=>refine aV (λ m1 h1 h2=>?_) h;clear h;refine bJ (λ m2 h3=>?_) hp;clear hp;exact⟨m1,inD _ _ h1 (Fd _ (cA h3)),h2⟩
  |gd a=>refine bJ (λ m2 h3=>?_) hp;clear hp;exact h.imp (λ h=>inD _ _ h (Fd _ (cA h3))) λ x=>x
 have Rl:∀p,vh D p->vh iw p:=λ p h=>by
  cases p with
  |ai L1 nm=>refine bJ (λ m2 h3=>?_) h;clear h;exact⟨m2,kD _ _ (λ _ _ e=>nomatch e) h3⟩
  |gd a=>refine bJ (λ m2 h3=>?_) h;clear h;exact⟨m2,kD _ _ (λ _ _ e=>nomatch e) h3⟩
 refine⟨iw,m,List.filter_sublist,kD,⟨J9,?_,λ j z p e1 e2=>?_,λ _ j p e=>Rl _ (x.place rfl j p e),⟨λ env he=>?_,λ q hq=>?_⟩,?_⟩,hm,Bu,?_⟩
 ·have:a8.length=(cx.pl.set i (some dJ)).length:=x'.len
  rw[List.length_set] at this ⊢;exact this
 ·rw[List.getElem?_set] at e1
  by_cases mZ:i=j
  ·subst mZ
   rw[Ki] at e2;cases e2
   rw[if_pos rfl] at e1
   split at e1
   ·replace e1:=si e1;subst e1;trivial
   ·exact bj e1
  ·rw[if_neg mZ] at e1
   have ok:=x'.slots j z p e1 (by show(cx.pl.set i (some dJ))[j]?=_;rw[List.getElem?_set,if_neg mZ];exact e2)
   cases p with
   |none=>cases z<;> first|trivial|exact ok
   |some p=>
    have hp:=x.place rfl j p e2
    cases z with
    |af=>trivial
    |val v=>refine aV (λ c h1 h2=>?_) ok;clear ok;exact⟨c,NN _ _ hp h1,h2⟩
    |own ys=>refine ew (λ b it h1 h2 h3=>?_) ok;clear ok;exact⟨b,it,NN _ _ hp h1,inD _ _ h2 (PN _ _ _ h2),h3⟩
    |aD ys=>refine fY (λ it h1 h2 h3=>?_) ok;clear ok;exact⟨it,NN _ _ hp h1,inD _ _ h2 (PN _ _ _ h2),h3⟩
 ·obtain⟨e1,L1,m1,e2,e3⟩:=x.frames.1 env he
  refine⟨e1,L1,m1,e2,?_⟩
  rcases List.mem_append.mp e3 with e3|e3
  ·exact UD _ (kD _ _ (λ _ _ e=>nomatch e) e3)
  ·exact UE _ e3
 ·rcases List.mem_append.mp (x.frames.2 q hq) with e3|e3
  ·exact UD _ (kD _ _ (λ _ _ e=>nomatch e) e3)
  ·exact UE _ e3
 ·refine bJ (λ m1 h=>?_)<|x.here
  exact⟨m1,kD _ _ (λ _ _ e=>nomatch e) h⟩
 ·refine⟨⟨x'.st.led.stays,λ p hp=>?_,λ p hp=>?_,?_⟩,x'.st.gD,x'.st.top,x'.st.gens,x'.st.os⟩
  ·rcases List.mem_cons.mp hp with rfl|hp
   ·exact x'.st.led.has _ (UD _ hm)
   ·exact J9.led.has p hp
  ·rcases List.mem_cons.mp hp with rfl|hp
   ·exact x'.st.led.free _ (UD _ hm)
   ·exact J9.led.free p hp
  ·rw[List.map_cons,List.nodup_cons];exact⟨Bu,J9.led.nodup⟩
theorem pz{α:Type}{M:Model}{A:Around}{f:Unit->Sem α}{Q:α->Shared->Prop}{E:Value->Shared->Prop}{s:Shared}(h:wpAny M A (pure ():Sem Unit) (λ _ s=>wpAny M A (f ()) Q E s) E s):wpAny M A (f ()) Q E s:=
 (UC (f:=f) h:wpAny M A ((pure ():Sem Unit) >>=f) Q E s)
noncomputable def PL(items:List Value)(o:Obj):Prop:=o.cls= .type "list"/\∃n,o.data= .seq items.toArray n
theorem Rel.IB{pre post:Led}{a:Addr}{P P':Obj->Prop}{h':Heap}{tk:Nat}(x:Rel W cx rw G D (pre++((a,.any P)::post)) sl s)(he:Heap.ExtBut a s.heap h')(hp:∃o,h'.get? a=some o/\P' o):
  Rel W cx rw G D (pre++((a,.any P')::post)) sl { s with heap:=h',toks:=tk }:=by
 have nd:=x.st.led.nodup
 have sQ:(a,MO.any P)∈D++(pre++((a,.any P)::post)):=UE _ (UE _ (UG ..))
 have Iy:Led.put (D++(pre++((a,.any P)::post))) a (.any P')=D++(pre++((a,.any P')::post)):=by
  have n1:a∉aQ D/\a∉aQ pre/\a∉aQ post:=by
   rw[List.map_append,List.nodup_append,List.map_append,List.nodup_append,List.map_cons,List.nodup_cons] at nd
   obtain⟨_,⟨h1,h2,h3⟩,h4⟩:=nd
   refine⟨λ h=>h4 a h a (UE _ (UG ..)) rfl,λ h=>h3 a h a (UG ..) rfl,h2.1⟩
  rw[Led.ij,Led.ij,Led.dP n1.1,Led.dP n1.2.1]
  congr 2
  show(if a=a then (a,MO.any P') else _)::Led.put post a (.any P')=_
  rw[if_pos rfl,Led.dP n1.2.2]
 have led:=x.st.led.put (d:= .any P') he (cA sQ) hp
 rw[Iy] at led
 have cv:∀p,(∀P,p.2≠MO.any P)->p∈D++(pre++((a,.any P)::post))->p∈D++(pre++((a,.any P')::post)):=λ p hn hp=>by
  rcases List.mem_append.mp hp with h|h
  ·exact UD _ h
  ·refine UE _ ?_
   rcases List.mem_append.mp h with h|h
   ·exact UD _ h
   ·refine UE _ ?_
    rcases List.mem_cons.mp h with rfl|h
    ·exact absurd rfl (hn P)
    ·exact UK _ h
 exact⟨⟨led,x.st.gD,x.st.top,x.st.gens,x.st.os⟩,x.len,x.slots,x.place,⟨λ env he=>let ⟨e1,L,m,e2,e3⟩:=x.frames.1 env he;⟨e1,L,m,e2,cv _ (λ _ e=>nomatch e) e3⟩,λ q hq=>cv _ (λ _ e=>nomatch e) (x.frames.2 q hq)⟩,x.here⟩
structure CS where
 j:Nat
 G:Heap
 D:Led
 rV:List Slot
 K5:List Slot
 done:List V
 items:List Value
 ws:List V
structure CI(W:Wd)(cx:Cx)(call:Hd)(i:Nat)(body:X)(vs all:List V)(cK:Nat->Led)(acc:Addr)(dJ:Pl)(pA:List Slot)(O D0:Led)(G0:Heap)(q:CS)(s:Shared):Prop where
 hj:q.j<=vs.length
 he:compLoop i (ev call body) (vs.drop q.j) q.K5=some (.ok q.ws pA)
 hu:q.rV.set i .af=q.K5.set i .af
 hx:∀x,q.rV.set i (.val x)=q.K5.set i (.val x)
 Bv:q.done++q.ws=all
 hG:G0.StaysIn q.G
 kb:gF dJ D0 q.D
 R:Rel W cx true q.G q.D (cK q.j++((acc,.any (PL q.items))::O)) q.rV s
 rd:dS W q.G q.done q.items
 GH:q.done.length=q.j
section
variable{elt wL:Expr}{body:X}{pos px:Pos}{it:Value}{acc:Addr}{vs all:List V}{cK:Nat->Led}{G0:Heap}{RR:Result->Shared->Prop}{dJ:Pl}{D0:Led}{MX pA:List Slot}{q:CS}{c:Value}{v:V}{s':Shared}{J:Shared->Prop}{EE:Value->Shared->Prop}
theorem Bw{f:List Slot->Option (R V)}{vs:List V}{sl:List Slot}{ws:List V}(h:compLoop i f (v::vs) sl=some (.ok ws pA)):∃w sl2 IC,f (sl.set i (.val v))=some (.ok w sl2)/\compLoop i f vs sl2=some (.ok IC pA)/\ws=w::IC:=by
 replace h:(match f (sl.set i (.val v)) with
  |some (.ok v sl)=>(match compLoop i f vs sl with
   |some (.ok vs sl)=>some (R.ok (v::vs) sl)
   |_=>none)
  |_=>none)=some (.ok ws pA):=h
 split at h
 ·split at h
  ·cases h
   exact⟨_,_,_,‹_›,‹_›,rfl⟩
  ·exact bj h
 ·exact bj h
theorem ID(I:CI W cx call i body vs all cK acc dJ pA O D0 G0 q s){G3:Heap}{D3:Led}{c3:Value}{s3:Shared}{w:V}{sl2:List Slot}{IC:List V}(Bx:q.j<vs.length)(cw:vs.length<100000)(IE:compLoop i (ev call body) (vs.drop (q.j+1)) sl2=some (.ok IC pA))(hw:q.ws=w::IC)
  (kG:q.G.StaysIn G3)(kb:gF dJ q.D D3)(R3:Rel W cx true G3 D3 (cK (q.j+1)++((acc,.any (PL q.items))::O)) sl2 s3)(r3:Rp W G3 w c3)
  (hJ:∀q' s',q'.j=q.j+1->CI W cx call i body vs all cK acc dJ pA O D0 G0 q' s'->J s'):wpAny (Md W) A (PySem.call (.builtin "list.append") [.ref acc,c3]) (λ _ s₄=>J s₄) EE s3:=by
 refine aV (λ o ho hp=>?_) (R3.st.led.has (acc,.any (PL q.items)) (UE _ (UE _ (UG ..))):∃o,s3.heap.get? acc=some o/\PL q.items o)
 refine wpAny_list_append (l:=acc) (items:=q.items.toArray) ⟨o,ho,hp⟩ (λ h' hl hs=>?_) (by
  rw[sizeLine_eq,List.size_toArray,I.rd.length,I.GH];lia)
 refine fY (λ o' Ro NO IF=>?_) hl
 have hP:∃o,h'.get? acc=some o/\PL (q.items++ [c3]) o:=⟨o',Ro,NO,IF.elim λ n e=>⟨n,by rw[e];simp⟩⟩
 refine hJ ⟨q.j+1,G3,D3,sl2,sl2,q.done++ [w],q.items++ [c3],IC⟩ _ rfl ⟨Bx,IE,rfl,λ _=>rfl,?_,StaysIn.trans I.hG kG,I.kb.trans kb,R3.IB (tk:=s3.toks) hs.extBut hP,aL.append (aL.keeps kG _ I.rd) (aL.one r3),?_⟩
 ·have:=I.Bv
  rw[hw] at this
  rw[List.append_assoc];exact this
 ·rw[List.length_append,I.GH];rfl
theorem Fe(hb:cE W n call lc body)(C:bS W cx g)(Rm:dk n cx.A)(hc:aI W.P lc body g elt=true)(vA:g.de i t=true)(mC:cx.pl[i]?=some (some dJ))(AW:g.rw=true)
  (hA:∀j,Bn (cK j))(cw:vs.length<100000)(I:CI W cx call i body vs all cK acc dJ pA O D0 G0 q s)(hv:vs[q.j]?=some v)(k:q.G.StaysIn G')(y:St W G' (cK (q.j+1)++(q.D++((acc,.any (PL q.items))::O))) s')(rv:Rp W G' v c)
  (hJ:∀q' s',q'.j=q.j+1->CI W cx call i body vs all cK acc dJ pA O D0 G0 q' s'->J s'):
  wpAny (Md W) cx.A (assign (.Name t px) cx.env c) (λ _ s₂=>wpAny (Md W) cx.A (eval elt cx.env) (λ x s₃=>wpAny (Md W) cx.A (PySem.call (.builtin "list.append") [.ref acc,x]) (λ _ s₄=>J s₄) EE s₃) EE s₂) EE s':=by
 have Bx:q.j<vs.length:=(List.getElem?_eq_some_iff.mp hv).1
 have he:=I.he
 rw[List.drop_eq_getElem_cons Bx,(List.getElem?_eq_some_iff.mp hv).2] at he
 refine Ea (λ w sl2 IC NP IE hw=>?_) (Bw he)
 have Rn:Rel W cx true G' q.D (cK (q.j+1)++((acc,.any (PL q.items))::O)) q.rV s':=(Rel.less (cK:=cK q.j) (hA q.j) I.R).more y k
 refine wpAny_assign_Name (gf C Rn (z:= .val v) AW.symm vA (by rw[Rn.len];exact(List.getElem?_eq_some_iff.mp mC).1) ⟨_,mC⟩ rv λ D2 s2 Iu Rq R2=>?_)
 rw[I.hx v] at R2
 have kb2:gF dJ q.D D2:=λ a d h1 _ h=>Rq a d (λ p hp=>by rw[mC] at hp;rw[<-Option.some.inj (Option.some.inj hp)];exact h1) h
 refine hb g elt hc cx G' D2 _ _ s2 _ _ _ C Rm (AW▸R2) NP λ G3 D3 c3 s3 k3 Rt R3 r3=>?_
 exact ID I Bx cw IE hw (StaysIn.trans k k3) (kb2.trans Rt.Rk) (AW▸R3) r3 hJ
theorem IG(hA:∀j,Bn (cK j))(I:CI W cx call i body vs all cK acc dJ pA O D0 G0 q s)(hv:vs[q.j]?=none)(y:St W q.G (q.D++((acc,.any (PL q.items))::O)) s'):
  G0.StaysIn q.G/\gF dJ D0 q.D/\Rel W cx true q.G q.D O q.rV s'/\q.rV.set i .af=pA.set i .af/\SeqAt s'.heap false acc q.items/\acc∉aQ (q.D++O)/\dS W q.G all q.items:=by
 have he:=I.he
 rw[List.drop_eq_nil_of_le (List.getElem?_eq_none_iff.mp hv)] at he
 replace he:some (R.ok [] q.K5)=some (.ok q.ws pA):=he
 have Bv:=I.Bv
 have hu:=I.hu
 have e:q.K5=pA/\q.ws=[]:=by
  generalize q.ws=ws at he
  cases he
  exact⟨rfl,rfl⟩
 rw[e.2,List.append_nil] at Bv
 rw[e.1] at hu
 have R1:Rel W cx true q.G q.D ((acc,.any (PL q.items))::O) q.rV s':=(Rel.less (cK:=cK q.j) (hA q.j) I.R).mono y (StaysIn.refl _)
 refine aV (λ o ho hp=>?_) (R1.st.led.has (acc,.any (PL q.items)) (UE _ (UG ..)):∃o,s'.heap.get? acc=some o/\PL q.items o)
 refine⟨I.hG,I.kb,Rel.less (cK:=[(acc,.any (PL q.items))]) (λ p hp=>by rw[List.mem_singleton.mp hp];exact⟨_,rfl⟩) R1,hu,hp.2.elim λ no NQ=>⟨o,no,ho,hp.1,NQ⟩,λ h=>?_,Bv▸I.rd⟩
 have nd:=R1.st.led.nodup
 rw[List.map_append,List.nodup_append,List.map_cons,List.nodup_cons] at nd
 rw[bD] at h
 rcases List.mem_append.mp h with h|h
 ·exact nd.2.2 acc h acc (UG ..) rfl
 ·exact nd.2.1.1 h
theorem yF
  (hb:cE W n call lc body)(C:bS W cx g)(Rm:dk n cx.A)(hc:aI W.P lc body g elt=true)(vA:g.de i t=true)(mC:cx.pl[i]?=some (some dJ))(AW:g.rw=true)
  (I:i8 W cx.A G0 (.Name t px) it vs cK true)(cw:vs.length<100000)
  (hR:∀G' D' a8 s' items,G0.StaysIn G'->gF dJ D0 D'->Rel W cx true G' D' O a8 s'->a8.set i .af=pA.set i .af->SeqAt s'.heap false acc items->acc∉aQ (D'++O)->dS W G' all items->RR (.ok .next) s')
  (K6:compLoop i (ev call body) vs MX=some (.ok all pA))(R0:Rel W cx true G D0 (cK 0++((acc,.any (PL []))::O)) (MX.set i .af) s)(hG:G0.StaysIn G):
  codeAny (Md W) cx.A (.compLoop (.ListComp elt [⟨.Name t px,wL,[],0⟩] scope pos) 0 it (.ref acc) cx.env) RR s:=by
 refine codeAny_compLoop_list (λ k s=>∃q:CS,k=vs.length+1-q.j/\CI W cx call i body vs all cK acc dJ pA O D0 G0 q s) (λ k s hI=>?_) (vs.length+1)
  ⟨⟨0,G,D0,MX.set i .af,MX,[],[],all⟩,rfl,Nat.zero_le _,K6,by rw[List.set_set],λ x=>by rw[List.set_set],rfl,hG,gF.refl _ _,R0,aL.nil,rfl⟩
 refine aV (λ q hk Q=>?_) hI
 refine wpAny_mono (I.next (Q:=λ r s₁=>r.elim (RR (.ok .next) s₁) λ v=>wpAny (Md W) cx.A (assign (.Name t px) cx.env v) (λ _ s₂=>wpAny (Md W) cx.A (eval elt cx.env) (λ x s₃=>wpAny (Md W) cx.A (PySem.call (.builtin "list.append") [.ref acc,x])
   (λ _ s₄=>∃m,m<k/\∃q:CS,m=vs.length+1-q.j/\CI W cx call i body vs all cK acc dJ pA O D0 G0 q s₄) (notedBy (Md W) cx.A cx.env λ e s'=>RR (.error e) s') s₃) (notedBy (Md W) cx.A cx.env λ e s'=>RR (.error e) s') s₂) (notedBy (Md W) cx.A cx.env λ e s'=>RR (.error e) s') s₁)
   Q.hG Q.hj Q.R.Bo (λ v G' c s' hv k y rv=>Fe hb C Rm hc vA mC AW I.vv cw Q hv k y rv
   λ q' s' hq I'=>⟨_,by rw[hk,hq];have:=(List.getElem?_eq_some_iff.mp hv).1;lia,q',rfl,I'⟩) (λ hv=>⟨rfl,λ s' y=>?_⟩)) (λ r s₁ hr=>?_) λ _ _ h=>h
 ·have z:=IG I.vv Q hv y
  exact hR q.G q.D q.rV s' q.items z.1 z.2.1 z.2.2.1 z.2.2.2.1 z.2.2.2.2.1 z.2.2.2.2.2.1 z.2.2.2.2.2.2
 ·cases r with
  |none=>exact hr
  |some c=>exact pz (f:=λ _=>assign (.Name t px) cx.env c) hr
end
theorem Rel.K7{O':Led}(x:Rel W cx rw G D O sl s)(p:O'.Perm O):Rel W cx rw G D O' sl s:=by
 have up:∀q,q∈D++O->q∈D++O':=λ q h=>by
  rcases List.mem_append.mp h with h|h
  ·exact UD _ h
  ·exact UE _ (p.mem_iff.mpr h)
 exact⟨x.st.perm (p.append_left D),x.len,x.slots,x.place,⟨λ env he=>let ⟨e1,L,m,e2,e3⟩:=x.frames.1 env he;⟨e1,L,m,e2,up _ e3⟩,λ q hq=>up _ (x.frames.2 q hq)⟩,x.here⟩
theorem St.extBut{h':Heap}{tk:Nat}(x:St W G D s)(hG:G.get? L=none)(hL:L∉aQ D)(he:Heap.ExtBut L s.heap h'):St W G D { s with heap:=h',toks:=tk }:=
 ⟨x.led.extBut hG hL he,x.gD,x.top,x.gens,x.os⟩
theorem l6{elt wL:Expr}{body:X}{pos px:Pos}{it:Value}{vs all:List V}{cK:Nat->Led}{pA:List Slot}{use:Option (Value->Sem Unit)}{Q:Value->Shared->Prop}{cl:List (Str×Addr)}
  (hb:cE W n call lc body)(C:bS W cx g)(K:gh g scope i t)(Rm:dk n cx.A)(hc:aI W.P lc body (g.yc scope) elt=true)
  (lh:dm (λ nm a=>cx.env.cells.lookup nm=some a) (freeOf scope) as)(vz:cl=(freeOf scope).zip as)
  (I:i8 W cx.A G (.Name t px) it vs cK true)(cw:vs.length<100000)(lq:∀{s':Shared} {G':Heap} {D':Led} {Q:Value->Shared->Prop} {E:Value->Shared->Prop},St W G' (cK 0++D') s'->Q it s'->wpAny (Md W) cx.A (pyIter it) Q E s')
  (K6:compLoop i (ev call body) vs sl=some (.ok all pA))(R0:Rel W cx true G D O sl s)(y0:St W G (cK 0++(D++O)) s)
  (fin:∀G' iw m acc L s',G.StaysIn G'->bF D iw->Rel W cx true G' iw O (pA.set i .af) s'->Rp W G' (.seq false all) (.ref acc)->L∉aQ (iw++O)->St W G' ((L,MO.ns m)::(iw++O)) s'->compPost (Md W) cx.A E use Q (.ref acc) L (.ok .next) s'):
  wpAny (Md W) cx.A (newList []) (λ acc s₃=>wpAny (Md W) cx.A (newFunctionEnv scope cx.env.globals cl [] cx.env.qual none .none (some cx.env)) (λ K8 s₄=>
    codeAny (Md W) cx.A (.compStart (.ListComp elt [⟨.Name t px,wL,[],0⟩] scope pos) 0 it acc { K8 with scope:=relabel scope cx.env }) (compPost (Md W) cx.A E use Q acc K8.locals) s₄) E s₃) E s:=by
 refine wpAny_newList ?_ (by size_fits)
 let acc:=s.heap.objs.size
 have Kd:∀b o,s.heap.get? b=some o->(s.heap.push { cls:= .type "list",data:= .seq ([]:List Value).toArray }).get? b=some o:=λ b o e=>UQ _ e
 have y1:St W G ((acc,MO.any (PL []))::(cK 0++(D++O))) { s with heap:=s.heap.push { cls:= .type "list",data:= .seq ([]:List Value).toArray } }:=
  ⟨y0.led.push Kd (nK _) ⟨_,i6,rfl,0,rfl⟩,y0.gD,y0.top,y0.gens,y0.os⟩
 have ag:=R0.keeps (t:=s.toks) Kd
 have R1:Rel W cx true G D (((acc,MO.any (PL []))::cK 0)++O) sl { s with heap:=s.heap.push { cls:= .type "list",data:= .seq ([]:List Value).toArray } }:=ag.more y1 (StaysIn.refl _)
 have R2:Rel W cx true G D (cK 0++((acc,MO.any (PL []))::O)) sl { s with heap:=s.heap.push { cls:= .type "list",data:= .seq ([]:List Value).toArray } }:=R1.K7 (by
  rw[List.cons_append]
  exact List.perm_middle)
 refine yE (g:=g) (i:=i) C K R2 lh vz λ dJ new s4 C' R4 T3 zF Kg MW y4=>?_
 have AW:(g.yc scope).rw=true:=K.rw
 have hi:i<cx.pl.length:=by rw[C.len];exact(List.getElem?_eq_some_iff.mp K.nm).1
 have mC:(cx.inner (compEnv cx.env scope (s.heap.push { cls:= .type "list",data:= .seq ([]:List Value).toArray }).objs.size cl) i dJ).pl[i]?=some (some dJ):=by
  show(cx.pl.set i (some dJ))[i]?=_
  rw[List.getElem?_set_self hi]
 have vA:(g.yc scope).de i t=true:=by
  show(g.rw&&decide (g.names[i]?=some t)&&iu t&&_)=true
  rw[K.rw,UJ K.nm,K.ok]
  show(match (gU g.scope scope).names.lookup t with|some .local=>true|some .cell=>true|_=>false)=true
  have Kc:(gU g.scope scope).names.lookup t=scope.names.lookup t:=by
   show(List.map _ _).lookup t=_
   rw[wK]
   rcases K.kt with h|h<;> rw[h]<;> rfl
  rw[Kc]
  rcases K.kt with h|h<;> rw[h]
 have NR:∀a∈aQ new,a∉aQ (D++O)/\(a=(s.heap.push { cls:= .type "list",data:= .seq ([]:List Value).toArray }).objs.size\/dJ= .gd a):=λ a ha=>⟨kS ag.st.led (zF a ha).1,(zF a ha).2⟩
 have loop:codeAny (Md W) cx.A (.compLoop (.ListComp elt [⟨.Name t px,wL,[],0⟩] scope pos) 0 it (.ref acc) (compEnv cx.env scope (s.heap.push { cls:= .type "list",data:= .seq ([]:List Value).toArray }).objs.size cl))
   (compPost (Md W) cx.A E use Q (.ref acc) (s.heap.push { cls:= .type "list",data:= .seq ([]:List Value).toArray }).objs.size) s4:=by
  refine yF (cx:=cx.inner (compEnv cx.env scope (s.heap.push { cls:= .type "list",data:= .seq ([]:List Value).toArray }).objs.size cl) i dJ) hb C' Rm hc vA mC AW I cw (λ G' D' a8 s' items k kb Rf hu hq By rr=>?_) K6 R4 (StaysIn.refl _)
  refine J3 (λ iw m sb kd Rx hm Bu yx=>?_)<|Bt K C (ag.mono (ag.st) (StaysIn.refl _)) Rf rfl kb NR Kg MW
  rw[hu] at Rx
  have K9:acc∉aQ (((s.heap.push { cls:= .type "list",data:= .seq ([]:List Value).toArray }).objs.size,MO.ns m)::(iw++O)):=λ h=>by
   rcases List.mem_cons.mp h with h|h
   ·replace h:acc=_:=h
    rw[Heap.size_push] at h
    exact absurd h (Nat.ne_of_lt (Nat.lt_succ_self _))
   ·refine aV (λ p hp e=>?_)<|List.mem_map.mp h
    exact By (e▸UR (f:=λ p:Addr×MO=>p.1) ((List.Sublist.append sb (List.Sublist.refl _)).subset hp))
  refine rS (λ y5 k5 r5=>?_)<|yx.frozen hq K9 rr
  exact fin _ iw m acc _ s' (StaysIn.trans k k5) kd (Rx.mono (y5.sub (List.sublist_cons_self _ _)) k5) r5 Bu y5
 exact codeAny_compStart_list loop (lq (by
  have:=R4.Bo
  exact this) loop)
theorem i9{f:List Slot->Option (R V)}:∀{xs:List V} {sl:List Slot} {r:R (List V)},compLoop i f xs sl=some r->∃vs a8,r= .ok vs a8
 | [],sl,r,h=>by
  replace h:some (R.ok [] sl)=some r:=h
  replace h:=si h;subst h;exact⟨_,_,rfl⟩
 |x::xs,sl,r,h=>by
  replace h:(match f (sl.set i (.val x)) with
   |some (.ok v sl)=>(match compLoop i f xs sl with
    |some (.ok vs sl)=>some (R.ok (v::vs) sl)
    |_=>none)
   |_=>none)=some r:=h
  split at h
  ·split at h
   ·replace h:=si h;subst h;exact⟨_,_,rfl⟩
   ·exact bj h
  ·exact bj h
theorem ja(K:gh g scope i t):∀x∈scope.names,x.2= .local->scope.names.lookup x.1=some .local:=λ x hx e=>by rw[K.uniq x hx,e]
theorem Bz(K:WdOk W){m body:X}(hm:cE W n call lc m)(hb:cE W n call lc body):cE W n call lc (.fG i m body):=λ g e hc cx G D O sl s r' Q E C Rm R0 h hQ=>by
 replace hc:qM W.P i (aI W.P lc m g) (aI W.P lc body) g e=true:=hc
 replace h:(au (ev call m sl) λ a sl=>(bN [a]).bind λ ns=>au (compLoop i (ev call body) (ns.map .int) sl) λ vs sl=>some (R.ok (.seq false vs) (sl.set i .af)))=some r':=h
 refine sq (λ elt t px id p0 n' p1 scope pos h1 h6 h7 Kj=>?_) e hc
 have CK:=l3 h1
 refine bJ (λ as lh=>?_)<|l4 C CK
 rw[eval_ListComp]
 refine wpAny_comprehension_free (use:=none) rfl (λ _=>rfl) (iB lh) CK.kind (ja CK) ?_
 show wpAny _ _ (eval (.Call (.Name id p0) [n'] [] p1) cx.env) _ _ _
 refine sL K C Rm R0 hm h6 Boot.«range» h7 h hQ λ v aB G1 D1 c s1 h k1 k2 R1 rc hQ=>?_
 cases hr:bN [v] with
 |none=>rw[hr] at h;exact bj h
 |some ns=>
 rw[hr] at h
 replace h:(au (compLoop i (ev call body) (ns.map .int) aB) λ vs sl=>some (R.ok (.seq false vs) (sl.set i .af)))=some r':=h
 refine Or.elim (cC h) (fb λ vs sl2 e1 e2=>?_) (fb λ C' arg e1 e2=>?_)
 ·cases e2
  refine kr hr R1.st (aL.one rc) λ a b c m rr s2 t1 u1 v1 qR La Lc jX y2=>?_
  subst qR
  refine kq (target:= .Name t px) (fin:=true) (λ _=>C.hh CK.q) y2 La Lc jX λ it cK s3 I y3 lq=>?_
  have hw:g.rw=true:=CK.rw
  have Ld:Rel W cx true G1 D1 O aB s1:=hw▸R1
  have cw:((bK a c m).map V.int).length<100000:=by
   rw[oa];exact sP hr
  refine l6 (use:=none) hb C CK Rm Kj lh rfl I cw lq e1 (Ld.mono (y3.sub (US _ _)) (StaysIn.refl _)) y3 λ G' iw m' acc L s' k kd Rf rf Bu yx=>?_
  refine⟨m',yx.led.has (L,.ns m') (UG ..),λ h' hs=>?_⟩
  have yz:St W G' (iw++O) { s' with heap:=h' }:=Rf.st.extBut (yx.led.free (L,.ns m') (UG ..)) Bu hs.extBut
  have Rg:Rel W cx g.rw G' iw O (sl2.set i .af) s':=hw▸Rf
  exact hQ G' iw (.ref acc) _ k kd (Rg.mono yz (StaysIn.refl _)) rf
 ·refine Ej (λ vs a8 e=>?_)<|i9 e1
  cases e
theorem BA{m body:X}(hm:cE W n call lc m)(hb:cE W n call lc body):cE W n call lc (.kL i m body):=λ g e hc cx G D O sl s r' Q E C Rm R0 h hQ=>by
 replace hc:uX i (aI W.P lc m g) (aI W.P lc body) g e=true:=hc
 replace h:(au (ev call m sl) λ a sl=>(eS a).bind λ ys=>au (compLoop i (ev call body) ys sl) λ vs sl=>some (R.ok (.seq false vs) (sl.set i .af)))=some r':=h
 refine Am (λ elt t px x' scope pos h1 h6 h7 Kj=>?_) e hc
 have CK:=l3 h1
 refine bJ (λ as lh=>?_)<|l4 C CK
 rw[eval_ListComp]
 refine wpAny_comprehension_free (use:=none) rfl (λ x=>by cases x'<;> first|rfl|exact absurd h6 UI) (iB lh) CK.kind (ja CK) ?_
 show wpAny _ _ (eval x' cx.env) _ _ _
 refine hm.use h7 C Rm R0 h hQ λ v aB G1 D1 c s1 h k1 k2 R1 rc hQ=>?_
 cases hr:eS v with
 |none=>rw[hr] at h;exact bj h
 |some ys=>
 rw[hr] at h
 replace h:(au (compLoop i (ev call body) ys aB) λ vs sl=>some (R.ok (.seq false vs) (sl.set i .af)))=some r':=h
 refine Or.elim (cC h) (fb λ vs sl2 e1 e2=>?_) (fb λ C' arg e1 e2=>?_)
 ·cases e2
  have:∃tp,v= .seq tp ys/\ys.length<100000:=by
   cases v<;> simp only [eS] at hr<;> try (first|exact bj hr|exact kh hr|(cases hr;done))
   split at hr
   ·rename_i ng;replace hr:=si hr;subst hr;exact⟨_,rfl,eW ng⟩
   ·exact bj hr
  refine aV (λ tp z1 cw=>?_) this;clear this;subst z1
  refine ll (target:= .Name t px) (fin:=true) (λ _=>C.hh CK.q) R1.st rc λ it cK s3 I y3 lq=>?_
  have hw:g.rw=true:=CK.rw
  have Ld:Rel W cx true G1 D1 O aB s1:=hw▸R1
  refine l6 (use:=none) hb C CK Rm Kj lh rfl I cw lq e1 (Ld.mono (y3.sub (US _ _)) (StaysIn.refl _)) y3 λ G' iw m' acc L s' k kd Rf rf Bu yx=>?_
  refine⟨m',yx.led.has (L,.ns m') (UG ..),λ h' hs=>?_⟩
  have yz:St W G' (iw++O) { s' with heap:=h' }:=Rf.st.extBut (yx.led.free (L,.ns m') (UG ..)) Bu hs.extBut
  have Rg:Rel W cx g.rw G' iw O (sl2.set i .af) s':=hw▸Rf
  exact hQ G' iw (.ref acc) _ k kd (Rg.mono yz (StaysIn.refl _)) rf
 ·refine Ej (λ vs a8 e=>?_)<|i9 e1
  cases e
end Mine
end
section
open PySem PySem.W PyProof.Rows PySem.Calls PySem.SeqAt PySem.Spec
namespace Mine
variable{W:Wd}{n:Nat}{call:Hd}{lc:Nat->Scope->Expr->Bool}
section
variable(K:WdOk2 W)(sO:∀k fd,i7 W.P k fd->W.bA k fd)(HS:i5 W n call)(wJ:∀k sc e,lc k sc e=true->fk W.P k sc e=true)
include K sO HS wJ
mutual
theorem gG:∀x:X,cE W n call lc x
 | .av v=>H6 v
 | .ai i=>H7 i
 | .glob nm v=>EP K.toWdOk nm v
 | .bin op l r=>H8 (gG l) (gG r)
 | .neg x=>H9 (gG x)
 | .cmp op l r=>Ia (gG l) (gG r)
 | .rZ xs=>ER (PO xs)
 | .ik t a b=>Ib (BB t) (gG a) (gG b)
 | .tup xs=>Ic (sR xs)
 | .lst xs=>Ig (sR xs)
 | .idx x i=>Ih (gG x) (gG i)
 | .aZ s i=>EV (gG i)
 | .j3 x hi=>A3 (gG x) (gG hi)
 | .fM x lo=>vi (gG x) (gG lo)
 | .zI x lo hi=>Ii (gG x) (gG lo) (gG hi)
 | .rev x=>Ij (gG x)
 | .call f nm xs=>EW K.toWdOk HS (sR xs)
 | .b8 f nm s xs=>A7 K.toWdOk HS (sR xs)
 | .fc s xs=>A6 HS (sR xs)
 | .dI f nm k bM=>Bm K sO HS wJ
 | .len x=>Il K.toWdOk (gG x)
 | .bu s=>EX K.toWdOk
 | .abs x=>Im K.toWdOk (gG x)
 | .max2 x y=>EY K.toWdOk (gG x) (gG y)
 | .min2 x y=>EZ K.toWdOk (gG x) (gG y)
 | .sum x=>Io K.toWdOk (gG x)
 | .repr x=>E4 K.toWdOk (gG x)
 | .bytesOf x=>vk K.toWdOk (gG x)
 | .nL s t cs=>yA K
 | .ki x=>yw (gG x)
 | .iU s C=>yy K
 | .fG i m b=>Bz K.toWdOk (gG m) (gG b)
 | .kL i m b=>BA (gG m) (gG b)
theorem sR:∀xs:Xs,gK W n call lc xs
 | .nil=>EU
 | .cons x xs=>A2 (gG x) (sR xs)
theorem PO:∀xs:Xs,yq W n call lc xs
 | .nil=>ES
 | .cons x .nil=>ET (gG x)
 | .cons x (.cons y ys)=>A1 (gG x) (PO (.cons y ys))
theorem BB:∀t:T,iS W n call lc t
 | .val x=>E0 (gG x)
 | .aC op l r=>A9 (gG l) (gG r)
 | .il l o1 m o2 r=>Ba (gG l) (gG m) (gG r)
 | .not t=>E1 (BB t)
 | .and ts=>E2 (BC true ts)
 | .or ts=>Ip (BC false ts)
theorem BC:∀(b:Bool) (ts:Ts),pT W n call lc b ts
 |b,.nil=>Bc
 |b,.cons t ts=>yr (BB t) (BC b ts)
end
end
end Mine
end
section
open PySem PySem.W PyProof.Rows PySem.Calls PySem.SeqAt PySem.Spec
namespace Mine
variable{W:Wd}{cx:Cx}{g:bQ}{rw:Bool}{G G':Heap}{D O:Led}{sl:List Slot}{s:Shared}{E:Value->Shared->Prop}{A:Around}
variable{fe env:Env}{outer:List Env}{L ea C:Addr}{arg:V}{tb:Tb}
theorem lu(y:St W G D s):∀{stack:List Env},(∀env∈stack,env.scope.kind≠ .module/\∃L m,env.frame=some L/\(L,MO.ns m)∈D)->s.heap.FunFrames G stack
 | [],_=>trivial
 |env::r,h=>by
  obtain⟨e1,L,m,e2,e3⟩:=h env (UG ..)
  obtain⟨o,es,ep,ho,hd,_⟩:s.heap.Ns L m:=y.led.has _ e3
  exact⟨e1,⟨L,o,e2,y.led.free _ e3,ho,λ vs q=>by rw[hd] at q;cases q⟩,lu y λ Fc he=>h Fc (UK _ he)⟩
theorem St.slots{h':Heap}{tk:Nat}{stack:List Env}(y:St W G D s)(fr:∀env∈stack,env.scope.kind≠ .module/\∃L m,env.frame=some L/\(L,MO.ns m)∈D)(hs:Heap.SlotsOnly (stack.filterMap (·.frame)) s.heap h'):St W G D { s with heap:=h',toks:=tk }:=by
 have sQ:∀b∈stack.filterMap (·.frame),∃m,(b,MO.ns m)∈D:=λ b hb=>by
  refine aV (λ env he hf=>?_)<|List.mem_filterMap.mp hb
  obtain⟨_,L,m,e2,e3⟩:=fr env he
  rw[e2] at hf;cases hf
  exact⟨m,e3⟩
 refine⟨⟨λ b o e=>(hs.2.1 b λ hb=>?_).trans (y.led.stays _ _ e),λ p hp=>?_,y.led.free,y.led.nodup⟩,y.gD,y.top,y.gens,y.os⟩
 ·refine bJ (λ m hm=>?_)<|sQ b hb
  have:=y.led.free _ hm
  rw[e] at this;cases this
 ·by_cases hb:p.1∈stack.filterMap (·.frame)
  ·refine bJ (λ m hm=>?_)<|sQ _ hb
   have:p.2= .ns m:=aG y.led.nodup (show(p.1,p.2)∈D from hp) hm
   rw[this]
   obtain⟨o,es,ep,ho,hd,r⟩:s.heap.Ns p.1 m:=y.led.has _ hm
   refine bJ (λ sl MP=>?_)<|hs.2.2 _ _ ho
   exact⟨_,es,ep,MP,hd,r⟩
  ·exact(y.led.has p hp).keep λ o e=>(hs.2.1 _ hb).trans e
theorem BD{Q:Value->Shared->Prop}(rU:A.frames=some (fe::outer))(hf:env.frame=some L)(Ff:fe.frame=some L)(y:St W G D s)(fr:∀env∈fe::outer,env.scope.kind≠ .module/\∃L m,env.frame=some L/\(L,MO.ns m)∈D)
  (hQ:∀h',Heap.SlotsOnly ((fe::outer).filterMap (·.frame)) s.heap h'->Q (.ref L) { s with heap:=h' }):wpAny (Md W) A (PySem.frameOf env) Q E s:=by
 unfold PySem.frameOf
 refine UC (wpAny_frameEnvs rU ?_)
 have Ru:((fe::outer).dropWhile λ x=>x.frame !=env.frame)=fe::outer:=by simp[List.dropWhile,hf,Ff]
 rw[Ru]
 unfold frameObject
 refine UC (UC (wpAny_readyFrames_fun (lu y fr) λ h₁ wM=>UL ?_))
 rw[Ff]
 exact UL (hQ h₁ wM)
theorem IH(y:St W G D s)(f:mD W G D s.heap ea C arg tb){b:Addr}(hb:b∉aQ D){stack:List Env}(fr:∀env∈stack,env.scope.kind≠ .module/\∃L m,env.frame=some L/\(L,MO.ns m)∈D):b∉stack.filterMap (·.frame):=λ h=>by
 refine aV (λ env he hf=>?_)<|List.mem_filterMap.mp h
 obtain⟨_,L,m,e2,e3⟩:=fr env he
 rw[e2] at hf;cases hf
 exact hb (cA e3)
theorem sS{head:Value}{Rv:Bool}{oe:Obj}{vs:Array Value}{Q:Unit->Shared->Prop}(rU:A.frames=some (fe::outer))(hf:env.frame=some L)(Ff:fe.frame=some L)(y:St W G D s)(fr:∀env∈fe::outer,env.scope.kind≠ .module/\∃L m,env.frame=some L/\(L,MO.ns m)∈D)
  (out:ea∉aQ D)(free:G.get? ea=none)(he:s.heap.get? ea=some oe)(hc:oe.cls= .ref C)(hd:oe.data= .fields vs)(jX:1<vs.size)
  (hx:GD W G oe.dict arg)
  (hQ:∀s',St W G D s'->mD W G D s'.heap ea C arg (.at (rawInt L))->Q () s'):
  wpAny (Md W) A (do setField (.ref ea) 1 (<-EntryCells.newEntry head (<-PySem.frameOf env) .none (rawInt L) .none (<-entryPlaceOf L Rv))) Q E s:=by
 refine UC (BD rU hf Ff y fr λ h₁ wM=>?_)
 have y₁:=y.slots (tk:=s.toks) fr wM
 have NS:ea∉(fe::outer).filterMap (·.frame):=λ h=>by
  refine aV (λ env he hf=>?_)<|List.mem_filterMap.mp h
  obtain⟨_,L,m,e2,e3⟩:=fr env he
  rw[e2] at hf;cases hf
  exact out (cA e3)
 refine UC (wpAny_entryPlaceOf λ pl mC=>?_)
 unfold EntryCells.newEntry newFields
 refine UC (wpAny_newObj_type ?_ (mC.sizeOk5 _ _ _ _ _))
 have sT:h₁.get? ea=some oe:=(wM.2.1 ea NS).trans he
 have wN:=UQ (h:=h₁) { cls:= .type "traceback",dict:=none,data:= .fields ([head,.ref L,.none,rawInt L,.none]++(if pl.isEmpty then List.replicate 6 Value.none else pl)).toArray } sT
 refine wpAny_setField wN hd jX ?_
 have GI:h₁.objs.size≠ea:=Nat.ne_of_gt (Heap.lt_size sT)
 have GJ:=Obj.data_mapFields hd (·.setIfInBounds 1 (Value.ref h₁.objs.size))
 have Lg:=Heap.get?_update_self (Obj.mapFields (·.setIfInBounds 1 (Value.ref h₁.objs.size))) wN (Obj.isFreed_of_fields GJ)
 have Lh:=(Heap.get?_update_other (h₁.push { cls:= .type "traceback",dict:=none,data:= .fields ([head,.ref L,.none,rawInt L,.none]++(if pl.isEmpty then List.replicate 6 Value.none else pl)).toArray })
  (Obj.mapFields (·.setIfInBounds 1 (Value.ref h₁.objs.size))) (Ne.symm GI)).trans (Heap.get?_push_size h₁ rfl)
 have y₂:=y₁.keeps (t:=s.toks) (cB h₁ { cls:= .type "traceback",dict:=none,data:= .fields ([head,.ref L,.none,rawInt L,.none]++(if pl.isEmpty then List.replicate 6 Value.none else pl)).toArray })
 have y₃:=y₂.extBut (tk:=s.toks) (L:=ea) (h':=(h₁.push { cls:= .type "traceback",dict:=none,data:= .fields ([head,.ref L,.none,rawInt L,.none]++(if pl.isEmpty then List.replicate 6 Value.none else pl)).toArray }).update ea (Obj.mapFields (·.setIfInBounds 1 (Value.ref h₁.objs.size)))) free out
  (λ b o hb e=>(Heap.get?_update_other _ _ (Ne.symm hb)).trans e)
 have II:h₁.objs.size∉aQ D:=cW y₁.led
 refine hQ _ y₃ ⟨out,free,_,_,Lg,(Obj.cls_mapFields _ _).trans hc,GJ,by simpa using jX,?_,.mk h₁.objs.size _ _ (by simp[jX]) GI II ?_ Lh rfl ?_⟩
 ·have jb:(oe.mapFields (·.setIfInBounds 1 (Value.ref h₁.objs.size))).dict=oe.dict:=by
   obtain⟨a,b,c,d⟩:=oe
   cases c<;> rfl
  rw[jb];exact hx
 ·cases q:G.get? h₁.objs.size with
  |none=>rfl
  |some o=>exact absurd (Heap.lt_size (y₁.led.stays _ _ q)) (Nat.lt_irrefl _)
 ·first|(simp;done)|(rcases mC with rfl|⟨_,_,_,_,_,_,_,rfl⟩<;> simp)
theorem q6{Q:Unit->Shared->Prop}(rU:A.frames=some (fe::outer))(hf:env.frame=some L)(Ff:fe.frame=some L)(y:St W G D s)(fr:∀env∈fe::outer,env.scope.kind≠ .module/\∃L m,env.frame=some L/\(L,MO.ns m)∈D)
  (f:mD W G D s.heap ea C arg tb)(Fg:tb= .fresh\/tb= .at .none\/tb= .at (rawInt L))
  (hQ:∀s',St W G D s'->mD W G D s'.heap ea C arg (.at (rawInt L))->Q () s'):wpAny (Md W) A (noteFrame (.ref ea) env) Q E s:=by
 have f0:=f
 obtain⟨out,free,oe,vs,he,hc,hd,jX,hx,ht⟩:=f
 unfold noteFrame
 simp only [hf]
 rcases Fg with rfl|rfl|rfl
 ·have h1:vs[1]?=some .none:=ht
  refine UC (wpAny_field he hd h1 ?_)
  rw[if_neg (by decide)]
  exact sS rU hf Ff y fr out free he hc hd jX hx hQ
 ·obtain⟨T,oT,ts,h1,GI,II,Lj,hT,GK,h3⟩:yp _ _ _ _ _ _:=ht
  refine UC (wpAny_field he hd h1 ?_)
  rw[if_pos (show(Value.ref T !=Value.none)=true from by simp)]
  refine UC (wpAny_field hT GK h3 ?_)
  rw[if_neg (show ¬ ((Value.none==rawInt L)=true) from by simp[rawInt])]
  refine UC (wpAny_setField hT GK (Array.getElem?_eq_some_iff.mp h3).1 ?_)
  have y₂:=y.extBut (tk:=s.toks) (L:=T) (h':=s.heap.update T (Obj.mapFields (·.setIfInBounds 3 Value.none))) Lj II (λ b o hb e=>(Heap.get?_update_other _ _ (Ne.symm hb)).trans e)
  exact sS (s:={ s with heap:=s.heap.update T (Obj.mapFields (·.setIfInBounds 3 Value.none)) }) rU hf Ff y₂ fr out free ((Heap.get?_update_other _ _ GI).trans he) hc hd jX hx hQ
 ·obtain⟨T,oT,ts,h1,GI,II,Lj,hT,GK,h3⟩:yp _ _ _ _ _ _:=ht
  refine UC (wpAny_field he hd h1 ?_)
  rw[if_pos (show(Value.ref T !=Value.none)=true from by simp)]
  refine UC (wpAny_field hT GK h3 ?_)
  rw[if_pos (show(rawInt L==rawInt L)=true from by simp)]
  exact UL (hQ s y f0)
theorem gW{fl:Value}{frame:Option Addr}{Q:Unit->Shared->Prop}(y:St W G D s)(f:mD W G D s.heap ea C arg (.at fl))(hQ:∀s',St W G D s'->mD W G D s'.heap ea C arg (.at (frame.elim .none λ f=>rawInt f))->Q () s'):
  wpAny (Md W) A (setFlight (.ref ea) frame) Q E s:=by
 obtain⟨out,free,oe,vs,he,hc,hd,jX,hx,ht⟩:=f
 obtain⟨T,oT,ts,h1,GI,II,Lj,hT,GK,h3⟩:yp _ _ _ _ _ _:=ht
 have Lk:3<ts.size:=(Array.getElem?_eq_some_iff.mp h3).1
 unfold setFlight
 refine UC (wpAny_field he hd h1 ?_)
 rw[if_pos (show(Value.ref T !=Value.none)=true from by simp)]
 refine wpAny_setField hT GK Lk (hQ _ (y.extBut (tk:=s.toks) Lj II λ b o hb e=>(Heap.get?_update_other _ _ (Ne.symm hb)).trans e) ?_)
 exact⟨out,free,oe,vs,(Heap.get?_update_other _ _ GI).trans he,hc,hd,jX,hx,.mk T _ _ h1 GI II Lj (Heap.get?_update_self _ hT (Obj.isFreed_of_fields (Obj.data_mapFields GK _))) (Obj.data_mapFields GK _) (by simp[Lk])⟩
theorem BE{Q:Unit->Shared->Prop}(rU:A.frames=some (fe::outer))(hf:env.frame=some L)(Ff:fe.frame=some L)(y:St W G D s)(fr:∀env∈fe::outer,env.scope.kind≠ .module/\∃L m,env.frame=some L/\(L,MO.ns m)∈D)
  (f:mD W G D s.heap ea C arg tb)(Fg:tb= .fresh\/tb= .at .none\/tb= .at (rawInt L))(hQ:∀s',St W G D s'->mD W G D s'.heap ea C arg (.at .none)->Q () s'):wpAny (Md W) A (leaving env (.ref ea)) Q E s:=by
 unfold leaving
 exact UC (q6 rU hf Ff y fr f Fg λ s1 y1 f1=>gW y1 f1 hQ)
end Mine
end
section
open PySem PySem.W PyProof.Rows PySem.Calls PySem.SeqAt PySem.Spec
namespace Mine
variable{W:Wd}{n Wn:Nat}{call:Hd}{lc:Nat->Scope->Expr->Bool}
variable{cx:Cx}{g:bQ}{rw:Bool}{G G':Heap}{D O:Led}{sl:List Slot}{s:Shared}{E:Value->Shared->Prop}{A:Around}
noncomputable def eJ(W:Wd)(cx:Cx)(rw:Bool)(G:Heap)(O:Led)(Q:Flow->Shared->Prop)(E:Value->Shared->Prop):F->Prop
 | .next sl=>∀G' D' s',G.StaysIn G'->Rel W cx rw G' D' O sl s'->Q .next s'
 | .cont sl=>∀G' D' s',G.StaysIn G'->Rel W cx rw G' D' O sl s'->Q .cont s'
 | .ret v sl=>∀G' D' c s',G.StaysIn G'->Rel W cx rw G' D' O sl s'->Rp W G' v c->Q (.ret c) s'
 | .exc C arg=>∀e s',eP W cx rw G O C arg e s'->E e s'
theorem eJ.mono{Q:Flow->Shared->Prop}{r:F}(x:eJ W cx rw G O Q E r)(k:G.StaysIn G'):eJ W cx rw G' O Q E r:=by
 cases r with
 |next sl=>exact λ G2 D2 s' h=>x G2 D2 s' (StaysIn.trans k h)
 |cont sl=>exact λ G2 D2 s' h=>x G2 D2 s' (StaysIn.trans k h)
 |ret v sl=>exact λ G2 D2 c s' h=>x G2 D2 c s' (StaysIn.trans k h)
 |exc C arg=>exact λ e s' h=>x e s' (h.mono k)
section
variable(W:Wd)(n Wn:Nat)(call:Hd)(lc:Nat->Scope->Expr->Bool)
noncomputable def nB(st:S):Prop:=∀g d9,HZ W.P lc st g d9=true->∀cx G D O sl s r Q E,bS W cx g->dk n cx.A->Rel W cx g.rw G D O sl s->ex call Wn st sl=some r->
 eJ W cx g.rw G O Q E r->wpAny (Md W) cx.A (exec d9 cx.env) Q E s
noncomputable def jY(pj:Ss):Prop:=∀g q7,c9 W.P lc pj g q7=true->∀cx G D O sl s r Q E,bS W cx g->dk n cx.A->Rel W cx g.rw G D O sl s->aU call Wn pj sl=some r->
 eJ W cx g.rw G O Q E r->wpAny (Md W) cx.A (execs q7 cx.env) Q E s
end
theorem fm{α:Type}{o:Option (R α)}{f:α->List Slot->Option F}{r:F}(h:aW o f=some r):
  (∃a sl,o=some (.ok a sl)/\f a sl=some r)\/(∃C arg,o=some (.exc C arg)/\r= .exc C arg):=by
 unfold aW at h
 split at h
 ·exact .inl ⟨_,_,rfl,h⟩
 ·replace h:=si h;subst h;exact .inr ⟨_,_,rfl,rfl⟩
 ·exact bj h
theorem cE.iD{x:X}(hx:cE W n call lc x){e:Expr}(hc:aI W.P lc x g e=true)(C:bS W cx g)(Rm:dk n cx.A)(R0:Rel W cx g.rw G D O sl s){f:V->List Slot->Option F}{r:F}
  (h:aW (ev call x sl) f=some r){Q:Flow->Shared->Prop}{Q':Value->Shared->Prop}{E:Value->Shared->Prop}(hQ:eJ W cx g.rw G O Q E r)
  (k:∀v a8 G' D' c s',f v a8=some r->G.StaysIn G'->bF D D'->Rel W cx g.rw G' D' O a8 s'->Rp W G' v c->eJ W cx g.rw G' O Q E r->Q' c s'):
  wpAny (Md W) cx.A (eval e cx.env) Q' E s:=by
 refine Or.elim (fm h) (fb λ v a8 e1 e2=>?_) (fb λ C' arg e1 e2=>?_)
 ·exact hx g e hc cx G D O sl s _ _ _ C Rm R0 e1 λ G' D' c s' h1 h2 h3 h4=>k v a8 G' D' c s' e2 h1 h2 h3 h4 (hQ.mono h1)
 ·subst e2
  exact hx g e hc cx G D O sl s _ _ _ C Rm R0 e1 hQ
theorem gK.iD{xs:Xs}(hx:gK W n call lc xs){es:List Expr}{pos:Pos}(hc:b9 W.P lc xs g es=true)(C:bS W cx g)(Rm:dk n cx.A)(R0:Rel W cx g.rw G D O sl s){f:List V->List Slot->Option F}{r:F}
  (h:aW (ip call xs sl) f=some r){Q:Flow->Shared->Prop}{Q':List Value->Shared->Prop}{E:Value->Shared->Prop}(hQ:eJ W cx g.rw G O Q E r)
  (k:∀v a8 G' D' c s',f v a8=some r->G.StaysIn G'->bF D D'->Rel W cx g.rw G' D' O a8 s'->dS W G' v c->eJ W cx g.rw G' O Q E r->Q' c s'):
  wpAny (Md W) cx.A (spliced (backTo pos (starEach es cx.env))) Q' E s:=by
 refine Or.elim (fm h) (fb λ v a8 e1 e2=>?_) (fb λ C' arg e1 e2=>?_)
 ·exact hx g es pos hc cx G D O sl s _ _ _ C Rm R0 e1 λ G' D' c s' h1 h2 h3 h4=>k v a8 G' D' c s' e2 h1 h2 h3 h4 (hQ.mono h1)
 ·subst e2
  exact hx g es pos hc cx G D O sl s _ _ _ C Rm R0 e1 hQ
theorem iS.iD{t:T}(hx:iS W n call lc t){e:Expr}(hc:lT W.P lc t g e=true)(C:bS W cx g)(Rm:dk n cx.A)(R0:Rel W cx g.rw G D O sl s){f:Bool->List Slot->Option F}{r:F}
  (h:aW (iW call t sl) f=some r){Q:Flow->Shared->Prop}{Q':Bool->Shared->Prop}{E:Value->Shared->Prop}(hQ:eJ W cx g.rw G O Q E r)
  (k:∀v a8 G' D' s',f v a8=some r->G.StaysIn G'->Rel W cx g.rw G' D' O a8 s'->eJ W cx g.rw G' O Q E r->Q' v s'):
  wpAny (Md W) cx.A (isTrue e cx.env (eval e cx.env)) Q' E s:=by
 refine Or.elim (fm h) (fb λ v a8 e1 e2=>?_) (fb λ C' arg e1 e2=>?_)
 ·exact hx g e hc cx G D O sl s _ _ _ C Rm R0 e1 λ G' D' c s' h1 h2 h3 h4=>by
   subst h4;exact k v a8 G' D' s' e2 h1 h3 (hQ.mono h1)
 ·subst e2
  exact hx g e hc cx G D O sl s _ _ _ C Rm R0 e1 hQ
theorem fT{i:Nat}{x:Slot}{a8:List Slot}(h:bg sl i x=some a8):i<sl.length/\a8=sl.set i x:=by
 unfold bg at h
 split at h
 ·exact bj h
 ·rename_i e
  replace h:=si h;subst h
  exact⟨(List.getElem?_eq_some_iff.mp e).1,rfl⟩
 ·exact bj h
theorem fU(C:bS W cx g){i:Nat}{id:Str}(h:g.de i id=true):∃p,cx.pl[i]?=some (some p):=by
 refine Ho (λ _ h1 _ h4=>?_)<|lY h
 exact C.dJ i id h1 h4
theorem vB{i:Nat}{id:Str}{v:V}{c:Value}{a8:List Slot}{Q:Flow->Shared->Prop}(C:bS W cx g)(x:Rel W cx g.rw G D O sl s)(h:g.de i id=true)(hs:bg sl i (.val v)=some a8)(rv:Rp W G v c)
  (hQ:eJ W cx g.rw G O Q E (.next a8)):wpAny (Md W) A (storeName cx.env id c) (λ _=>Q .next) E s:=by
 refine d8 (λ hi z1=>?_)<|fT hs;subst z1
 exact gf C x (z:= .val v) rfl h hi (fU C h) rv λ D' s' _ _ R=>hQ G D' s' (StaysIn.refl _) R
theorem oi{v:Expr}{x:Str}{pos':Pos}{line:Nat}(C:bS W cx g)(h:(dj v || decide (g.kind x≠some .local))=true):swapsWith v (some (.Name x pos')) line cx.env=pure false:=by
 rw[Bool.or_eq_true,decide_eq_true_eq] at h
 by_cases hn:dj v=true
 ·cases v<;> first|rfl|exact absurd hn UI
 ·have h2:g.kind x≠some .local:=h.resolve_left hn
  have h3:(cx.env.kindOf x==some .local)=false:=by
   have:cx.env.kindOf x=g.kind x:=by unfold Env.kindOf bQ.kind;rw[C.scope]
   rw[this];exact beq_eq_false_iff_ne.mpr h2
  cases v<;> first|exact absurd rfl hn|rfl|skip
  all_goals
   unfold swapsWith
   simp only [h3,Bool.and_false,Bool.false_and]
   try rfl
theorem IJ{i:Nat}{x:X}(hx:cE W n call lc x):nB W n Wn call lc (.asg i x):=λ g d9 hc cx G D O sl s r Q E C Rm R0 h hQ=>by
 replace hc:Ao i (aI W.P lc x g) g d9=true:=hc
 replace h:(aW (ev call x sl) λ v sl=>(bg sl i (.val v)).map .next)=some r:=h
 refine EA (λ id p1 v p2 h1 h2 h3=>?_) d9 hc
 refine wpAny_Assign_Name (hx.iD h3 C Rm R0 h hQ λ v aB G1 D1 c s1 h k1 k2 R1 rc hQ=>?_) (oi C h2)
 refine aV (λ sl2 e1 z2=>?_)<|Option.map_eq_some_iff.mp h;subst z2
 exact vB C R1 h1 e1 rc hQ
theorem IK{x:X}(hx:cE W n call lc x):nB W n Wn call lc (.exp x):=λ g d9 hc cx G D O sl s r Q E C Rm R0 h hQ=>by
 replace hc:Ax (aI W.P lc x g) d9=true:=hc
 replace h:(aW (ev call x sl) λ _ sl=>some (F.next sl))=some r:=h
 refine EF (λ id np as p p1 hc=>?_) d9 hc
 refine wpAny_Expr_any (hx.iD hc C Rm R0 h hQ λ v aB G1 D1 c s1 h k1 k2 R1 rc hQ=>?_) (by unfold interactive;rw[C.scope,C.kind];rfl) rfl
 replace h:=si h;subst h
 exact hQ G1 D1 s1 (StaysIn.refl _) R1
theorem IL{x:X}(hx:cE W n call lc x):nB W n Wn call lc (.ret x):=λ g d9 hc cx G D O sl s r Q E C Rm R0 h hQ=>by
 replace hc:AE (aI W.P lc x g) d9=true:=hc
 replace h:(aW (ev call x sl) λ v sl=>some (F.ret v sl))=some r:=h
 refine EI (λ v p1 hc=>?_) d9 hc
 refine wpAny_Return_some (hx.iD hc C Rm R0 h hQ λ v aB G1 D1 c s1 h k1 k2 R1 rc hQ=>?_)
 replace h:=si h;subst h
 exact hQ G1 D1 c s1 (StaysIn.refl _) R1 rc
theorem Fh:nB W n Wn call lc .cont:=λ g d9 hc cx G D O sl s r Q E C Rm R0 h hQ=>by
 replace hc:u9 d9=true:=hc
 replace h:some (F.cont sl)=some r:=h
 replace h:=si h;subst h
 refine AH (λ p1=>?_) d9 hc
 exact wpAny_Continue (hQ G D s (StaysIn.refl _) R0)
theorem IM:nB W n Wn call lc .any:=λ g d9 hc cx G D O sl s r Q E C Rm R0 h hQ=>by
 replace h:none=some r:=h
 cases h
theorem IP{t:T}{a b:Ss}(ht:iS W n call lc t)(ha:jY W n Wn call lc a)(hb:jY W n Wn call lc b):nB W n Wn call lc (.ite t a b):=λ g d9 hc cx G D O sl s r Q E C Rm R0 h hQ=>by
 replace hc:Ay (lT W.P lc t g) (c9 W.P lc a g) (c9 W.P lc b g) d9=true:=hc
 replace h:(aW (iW call t sl) λ c sl=>if c then aU call Wn a sl else aU call Wn b sl)=some r:=h
 refine EG (λ t' a' b' p1 h1 h2 h3=>?_) d9 hc
 refine wpAny_If (ht.iD h1 C Rm R0 h hQ λ c aB G1 D1 s1 h k1 R1 hQ=>?_)
 cases c with
 |true=>exact ha g _ h2 cx G1 D1 O aB s1 r Q E C Rm R1 h hQ
 |false=>exact hb g _ h3 cx G1 D1 O aB s1 r Q E C Rm R1 h hQ
theorem Fi:jY W n Wn call lc .nil:=λ g q7 hc cx G D O sl s r Q E C Rm R0 h hQ=>by
 replace h:some (F.next sl)=some r:=h
 replace h:=si h;subst h
 cases q7 with
 |nil=>exact wpAny_execs_nil (hQ G D s (StaysIn.refl _) R0)
 |cons a b=>exact absurd (show false=true from hc) UI
set_option tactic.hygienic true in
theorem BF{st:S}{pj:Ss}(hs:nB W n Wn call lc st)(Rw:jY W n Wn call lc pj):jY W n Wn call lc (.cons st pj):=λ g q7 hc cx G D O sl s r Q E C Rm R0 h hQ=>by
 replace h:(match ex call Wn st sl with
  |some (.next sl)=>aU call Wn pj sl
  |r=>r)=some r:=h
 cases q7 with
 |nil=>exact absurd (show false=true from hc) UI
 |cons d9 q7=>
  replace hc:(HZ W.P lc st g d9&&c9 W.P lc pj g q7)=true:=hc
  rw[Bool.and_eq_true] at hc
  refine wpAny_execs_cons ?_
  split at h
  ·rename_i aB e1
   exact hs g d9 hc.1 cx G D O sl s _ _ _ C Rm R0 e1 λ G1 D1 s1 k1 R1=>Rw g q7 hc.2 cx G1 D1 O aB s1 r Q E C Rm R1 h (hQ.mono k1)
  ·rename_i Fj
   refine hs g d9 hc.1 cx G D O sl s r _ _ C Rm R0 h ?_
   cases r with
   |next a8=>exact absurd h (Fj a8)
   |cont a8=>exact hQ
   |ret v a8=>exact hQ
   |exc C' arg=>exact hQ
set_option tactic.hygienic true in
theorem IQ{i:Nat}{op:nt}{x:X}(hx:cE W n call lc x):nB W n Wn call lc (.aug i op x):=λ g d9 hc cx G D O sl s r Q E C Rm R0 h hQ=>by
 replace hc:Au i op (aI W.P lc x g) g d9=true:=hc
 replace h:(match sl[i]? with
  |some (.val a)=>aW (ev call x sl) λ b sl=>match a,b with
   | .int a,.int b=>(dz op (.int a) (.int b)).bind λ v=>(bg sl i (.val v)).map F.next
   |_,_=>none
  |_=>none)=some r:=h
 refine EC (λ id p0 v pos h1 h3 h4=>?_) d9 hc
 split at h
 ·rename_i a e
  obtain⟨p,hp,ca,fD,ra⟩:=R0.get e (by intro e;cases e)
  have By:g.acc i id=true:=by
   unfold bQ.de at h1
   unfold bQ.acc
   simp only [Bool.and_eq_true] at h1 ⊢
   obtain⟨⟨⟨_,b⟩,c⟩,d⟩:=h1
   refine⟨⟨b,c⟩,?_⟩
   split at d<;> first|rfl|(cases d;done)|(rename_i q;rw[q])
  refine wpAny_AugAssign_Name (wA C R0 By hp fD ?_)
  refine hx.iD h4 C Rm R0 h hQ λ b aB G1 D1 cb s1 h k1 k2 R1 rb hQ=>?_
  replace ra:=Rep.keeps k1 _ ra
  obtain⟨ia,rfl⟩:∃ia,a= .int ia:=by cases a<;> first|exact⟨_,rfl⟩|(cases h;done)
  obtain⟨ib,rfl⟩:∃ib,b= .int ib:=by cases b<;> first|exact⟨_,rfl⟩|(cases h;done)
  simp only [Rep] at ra
  simp only [Rp,Rep] at rb
  refine bJ (λ t z1=>?_) ra;clear ra;subst z1
  refine bJ (λ u z1=>?_) rb;clear rb;subst z1
  replace h:((dz op (.int ia) (.int ib)).bind λ v=>(bg aB i (.val v)).map F.next)=some r:=h
  refine aV (λ v hb h=>?_)<|Option.bind_eq_some_iff.mp h
  refine aV (λ sl2 e1 e2=>?_)<|Option.map_eq_some_iff.mp h
  rw[<-e2] at hQ
  have fin:∀(iv:Int),v= .int iv->wpAny (Md W) cx.A (storeName cx.env id (.int iv s1.toks)) (λ _=>Q .next) E { s1 with toks:=s1.toks+1 }:=λ iv ev=>by
   rw[ev] at e1
   exact vB C R1.tok h1 e1 c0 hQ
  cases op with
  |add=>exact iadd_int (fin _ (bZ hb))
  |sub=>exact PyProof.Rows.isub_int (fin _ (bZ hb))
  |shr=>exact irshift_int (aO hb).1 (fin _ (aO hb).2)
  |_=>exact Bool.noConfusion (h3:false=true)
 ·exact bj h
theorem pY(C:bS W cx g)(R:Rel W cx rw G D O sl s):∃fe outer L,cx.stack=fe::outer/\cx.env.frame=some L/\fe.frame=some L:=by
 refine fb (λ fe outer h1 h2=>?_)<|C.top
 obtain⟨_,L,m,h3,_⟩:=R.frames.1 fe (by rw[h1];exact UG ..)
 exact⟨fe,outer,L,h1,h2.trans h3,h3⟩
theorem q8{A':Around}(hA:A'.frames=cx.A.frames)(C:bS W cx g){Ce:Nat}{arg:V}(k:∀e s',eP W cx rw G O Ce arg e s'->E e s'){e:Value}(x:eP W cx rw G O Ce arg e s):
  notedBy (Md W) A' cx.env (cameBackBy (Md W) cx.A cx.env E) e s:=by
 refine Hp (λ G' D' ea tb z4 kG R f ht=>?_) x;clear x;subst z4
 refine Ea (λ fe outer L e1 e2 e3=>?_)<|pY C R
 have fr:=R.frames.1
 rw[e1] at fr
 have rU:A'.frames=some (fe::outer):=by rw[hA,C.frames,e1]
 have Fg:tb= .fresh\/tb= .at .none\/tb= .at (rawInt L):=by
  rcases ht with h|h|⟨L',h1,h2⟩
  ·exact .inl h
  ·exact .inr (.inl h)
  ·rw[e2] at h1;replace h1:=si h1;subst h1;exact .inr (.inr h2)
 refine q6 (E:=cameBackBy (Md W) cx.A cx.env E) rU e2 e3 R.st fr f Fg λ s1 y1 f1=>?_
 unfold cameBackBy
 have NT:=f1
 obtain⟨out,free,oe,vs,he,hc,hd,jX,hx,T,oT,ts,h1,r⟩:=f1
 refine UC (wpAny_field he hd h1 ?_)
 rw[if_neg (show ¬ ((Value.ref T==Value.none)=true) from UI)]
 refine gW y1 NT λ s2 y2 f2=>?_
 refine k _ _ ⟨G',D',ea,_,rfl,kG,R.mono y2 (StaysIn.refl _),f2,.inr (.inr ⟨L,e2,by rw[e2];rfl⟩)⟩
set_option tactic.hygienic true in
theorem IS{t:T}{b:Ss}(ht:iS W n call lc t)(hb:jY W n Wn call lc b):nB W n Wn call lc (.xR t b):=λ g d9 hc cx G D O sl s r Q E C Rm R0 h hQ=>by
 replace hc:Az (lT W.P lc t g) (c9 W.P lc b g) g d9=true:=hc
 replace h:cS (iW call t) (aU call Wn b) Wn sl=some r:=h
 refine EH (λ t' b' pos hq h2 h3=>?_) d9 hc
 refine wpAny_While (codeAny_whileLoop (λ k s'=>∃G' D' a8,G.StaysIn G'/\Rel W cx g.rw G' D' O a8 s'/\cS (iW call t) (aU call Wn b) k a8=some r) ?_ Wn ⟨G,D,sl,StaysIn.refl _,R0,h⟩)
 rintro k s1 ⟨G1,D1,aB,k1,R1,hw⟩
 have Ll:=hQ.mono k1
 cases k with
 |zero=>exact absurd (show(none:Option F)=some r from hw) (by intro e;cases e)
 |succ k=>
  replace hw:(aW (iW call t aB) λ c sl=>if c then
   (match aU call Wn b sl with
    |some (.next sl)=>cS (iW call t) (aU call Wn b) k sl
    |some (.cont sl)=>cS (iW call t) (aU call Wn b) k sl
    |r=>r)
   else some (.next sl))=some r:=hw
  refine Or.elim (fm hw) (fb λ c sl2 e1 e2=>?_) (fb λ C' arg e1 e2=>?_)
  ·refine ht g _ h2 cx G1 D1 O aB s1 _ _ _ C Rm R1 e1 λ G2 D2 c' s2 k2 kd R2 ec=>?_
   replace ec:c=c':=ec
   subst ec
   have Fl:=Ll.mono k2
   cases c with
   |false=>
    replace e2:some (F.next sl2)=some r:=e2
    replace e2:=si e2;subst e2
    show wpAny _ _ (execs [] cx.env) _ _ _
    exact wpAny_execs_nil (Fl G2 D2 s2 (StaysIn.refl _) R2)
   |true=>
    replace e2:(match aU call Wn b sl2 with
      |some (.next sl)=>cS (iW call t) (aU call Wn b) k sl
      |some (.cont sl)=>cS (iW call t) (aU call Wn b) k sl
      |r=>r)=some r:=e2
    show wpAny _ _ (execs b' cx.env) _ _ _
    split at e2
    ·rename_i lZ e3
     exact hb g _ h3 cx G2 D2 O sl2 s2 _ _ _ C Rm R2 e3 λ G3 D3 s3 k3 R3=>⟨k,Nat.lt_succ_self _,G3,D3,lZ,StaysIn.trans k1 (StaysIn.trans k2 k3),R3,e2⟩
    ·rename_i lZ e3
     exact hb g _ h3 cx G2 D2 O sl2 s2 _ _ _ C Rm R2 e3 λ G3 D3 s3 k3 R3=>⟨k,Nat.lt_succ_self _,G3,D3,lZ,StaysIn.trans k1 (StaysIn.trans k2 k3),R3,e2⟩
    ·rename_i n1 n2
     refine hb g _ h3 cx G2 D2 O sl2 s2 r _ _ C Rm R2 e2 ?_
     cases r with
     |next a8=>exact absurd e2 (n1 a8)
     |cont a8=>exact absurd e2 (n2 a8)
     |ret v a8=>exact Fl
     |exc C' arg=>exact λ e s' x=>q8 (g:=g) rfl C Fl x
  ·subst e2
   exact ht g _ h2 cx G1 D1 O aB s1 _ _ _ C Rm R1 e1 λ e s' x=>q8 (g:=g) rfl C Ll x
set_option tactic.hygienic true in
theorem jc{target:Expr}{body:List Stmt}{b:Ss}{it:Value}{vs:List V}{cK:Nat->Led}{fin:Bool}{de:V->List Slot->Option (List Slot)}{loop:List V->List Slot->Option F}{r:F}{Q:Flow->Shared->Prop}
  (hb:jY W n Wn call lc b)(hc:c9 W.P lc b g body=true)(C:bS W cx g)(Rm:dk n cx.A)(I:i8 W cx.A G target it vs cK fin)
  (vA:∀{v:V} {G':Heap} {D' O':Led} {a8 sl2:List Slot} {s':Shared} {c:Value} {Q':Unit->Shared->Prop} {E':Value->Shared->Prop},Rel W cx g.rw G' D' O' a8 s'->Rp W G' v c->de v a8=some sl2->(∀D2 s2,Rel W cx g.rw G' D2 O' sl2 s2->Q' () s2)->wpAny (Md W) cx.A (assign target cx.env c) Q' E' s')
  (NU:∀a8,loop [] a8=some r->fin=true/\r= .next a8)(Ln:∀x xs a8,loop (x::xs) a8=(de x a8).bind λ a8=>match aU call Wn b a8 with
   |some (.next a8)=>loop xs a8
   |some (.cont a8)=>loop xs a8
   |r=>r)
  (h:loop vs sl=some r)(R0:Rel W cx g.rw G D O sl s)(y0:St W G (cK 0++(D++O)) s)(hQ:eJ W cx g.rw G O Q E r):
  codeAny (Md W) cx.A (.forLoop target it body [] cx.env) (λ r s'=>match r with| .ok f=>Q f s'| .error e=>cameBackBy (Md W) cx.A cx.env E e s') s:=by
 refine codeAny_forLoop_any (λ k s=>∃j Gj Dj rV,j<=vs.length/\k=vs.length+1-j/\loop (vs.drop j) rV=some r/\G.StaysIn Gj/\Rel W cx g.rw Gj Dj (cK j++O) rV s) ?_ (vs.length+1)
  ⟨0,G,D,sl,Nat.zero_le _,rfl,h,StaysIn.refl _,R0.more y0 (StaysIn.refl _)⟩
 rintro k s1 ⟨j,Gj,Dj,rV,hj,rfl,hl,kj,Rj⟩
 have PQ:=hQ.mono kj
 refine wpAny_mono (I.next (E:=notedBy (Md W) cx.A cx.env (cameBackBy (Md W) cx.A cx.env E)) (Q:=λ r1 s₁=>match r1 with
  |none=>wpAny (Md W) cx.A (execs [] cx.env) (λ f s₃=>Q f s₃) (notedBy (Md W) cx.A cx.env (cameBackBy (Md W) cx.A cx.env E)) s₁
  |some v=>wpAny (Md W) cx.A (assign target cx.env v) (λ _ s₂=>wpAny (Md W) cx.A (execs body cx.env) (λ f s₃=>match f with
     | .next| .cont=>∃m,m<vs.length+1-j/\∃j Gj Dj rV,j<=vs.length/\m=vs.length+1-j/\loop (vs.drop j) rV=some r/\G.StaysIn Gj/\Rel W cx g.rw Gj Dj (cK j++O) rV s₃
     | .brk=>Q .next s₃
     | .ret v=>Q (.ret v) s₃) (notedBy (Md W) cx.A cx.env (cameBackBy (Md W) cx.A cx.env E)) s₂) (notedBy (Md W) cx.A cx.env (cameBackBy (Md W) cx.A cx.env E)) s₁) kj hj Rj.Bo (λ v G' c s' hv k y rv=>?_) (λ hv=>?_)) (λ r1 s₁ hr=>?_) λ _ _ h=>h
 ·have Bx:j<vs.length:=(List.getElem?_eq_some_iff.mp hv).1
  have Lo:vs.drop j=v::vs.drop (j+1):=by
   rw[List.drop_eq_getElem_cons Bx]
   congr 1
   have:=UT Bx
   rw[hv] at this;exact(Option.some.inj this).symm
  rw[Lo,Ln] at hl
  cases hs:de v rV with
  |none=>rw[hs] at hl;exact bj hl
  |some sl2=>
   rw[hs] at hl
   replace hl:(match aU call Wn b sl2 with
    |some (.next a8)=>loop (vs.drop (j+1)) a8
    |some (.cont a8)=>loop (vs.drop (j+1)) a8
    |r=>r)=some r:=hl
   have ag:Rel W cx g.rw Gj Dj O rV s1:=Rel.less (I.vv j) Rj
   have Rn:Rel W cx g.rw G' Dj (cK (j+1)++O) rV s':=ag.more y k
   refine vA Rn rv hs λ D2 s2 R2=>?_
   have Fl:=PQ.mono k
   split at hl
   ·rename_i lZ e3
    exact hb g _ hc cx G' D2 _ sl2 s2 _ _ _ C Rm R2 e3 λ G3 D3 s3 k3 R3=>⟨vs.length+1-(j+1),Nat.sub_lt_sub_left (Nat.lt_succ_of_le ‹_›) (Nat.lt_succ_self _),j+1,G3,D3,lZ,Bx,rfl,hl,StaysIn.trans kj (StaysIn.trans k k3),R3⟩
   ·rename_i lZ e3
    exact hb g _ hc cx G' D2 _ sl2 s2 _ _ _ C Rm R2 e3 λ G3 D3 s3 k3 R3=>⟨vs.length+1-(j+1),Nat.sub_lt_sub_left (Nat.lt_succ_of_le ‹_›) (Nat.lt_succ_self _),j+1,G3,D3,lZ,Bx,rfl,hl,StaysIn.trans kj (StaysIn.trans k k3),R3⟩
   ·rename_i n1 n2
    refine hb g _ hc cx G' D2 _ sl2 s2 r _ _ C Rm R2 hl ?_
    cases r with
    |next a8=>exact absurd hl (n1 a8)
    |cont a8=>exact absurd hl (n2 a8)
    |ret v a8=>exact λ G3 D3 c s3 k3 R3 rv=>Fl G3 D3 c s3 k3 (Rel.less (I.vv (j+1)) R3) rv
    |exc C' arg=>exact λ e s' x=>q8 (g:=g) rfl C Fl (x.less (I.vv (j+1)))
 ·have Bx:vs.length<=j:=List.getElem?_eq_none_iff.mp hv
  rw[List.drop_eq_nil_of_le Bx] at hl
  refine d8 (λ hf z1=>?_)<|NU _ hl;subst z1
  refine⟨hf,λ s' y=>wpAny_execs_nil ?_⟩
  exact PQ Gj Dj s' (StaysIn.refl _) ((Rel.less (I.vv j) Rj).mono y (StaysIn.refl _))
 ·cases r1 with
  |none=>exact hr
  |some c=>exact hr
theorem lx{b:List Slot->Option F}{de:V->List Slot->Option (List Slot)}{sl:List Slot}{r:F}(h:bW b de [] sl=some r):r= .next sl:=by
 replace h:some (F.next sl)=some r:=h
 replace h:=si h;subst h;rfl
theorem oj{i:Nat}{id:Str}{p:Pos}(C:bS W cx g)(h:g.de i id=true){v:V}{G':Heap}{D' O':Led}{a8 sl2:List Slot}{s':Shared}{c:Value}{Q':Unit->Shared->Prop}{E':Value->Shared->Prop}
  (R:Rel W cx g.rw G' D' O' a8 s')(rv:Rp W G' v c)(hs:bg a8 i (.val v)=some sl2)(k:∀D2 s2,Rel W cx g.rw G' D2 O' sl2 s2->Q' () s2):wpAny (Md W) cx.A (assign (.Name id p) cx.env c) Q' E' s':=by
 refine d8 (λ hi z1=>?_)<|fT hs;subst z1
 refine PySem.wpAny_assign_Name (gf C R (z:= .val v) rfl h hi (fU C h) rv λ D2 s2 _ _ R2=>k D2 s2 R2)
theorem om{P:Prog}{pos:Pos}{env:Env}:∀{xs:Xs} {es:List Expr},b9 P lc xs g es=true->(backTo pos (starEach es env)).any (·.1)=false
 | .nil,es,h=>by
  replace h:uY es=true:=h
  cases es with
  |nil=>rfl
  |cons a b=>exact absurd h UI
 | .cons x xs,es,h=>by
  replace h:mB (aI P lc x g) (b9 P lc xs g) es=true:=h
  cases es with
  |nil=>exact absurd h UI
  |cons e es=>
   replace h:(aI P lc x g e&&b9 P lc xs g es)=true:=h
   rw[Bool.and_eq_true] at h
   rw[aJ h.1]
   show(false || (backTo pos (starEach es env)).any (·.1))=false
   rw[om h.2];rfl
theorem gX{e:Expr}{env:Env}(h:fC e=true)(x:Value):foldedSetIterable e env x=pure x:=by
 cases e<;> first|rfl|exact absurd h UI
section
variable(hX:∀x,cE W n call lc x)(pB:∀xs,gK W n call lc xs)
include hX
set_option tactic.hygienic true in
theorem Fm{i:Nat}{x:X}{b:Ss}(hb:jY W n Wn call lc b):nB W n Wn call lc (.kM i x b):=λ g d9 hc cx G D O sl s r Q E C Rm R0 h hQ=>by
 replace hc:nX true i (aI W.P lc x g) (c9 W.P lc b g) g d9=true:=hc
 replace h:(aW (ev call x sl) λ a sl=>(eS a).bind λ ys=>bW (aU call Wn b) (λ x sl=>bg sl i (.val x)) ys sl)=some r:=h
 refine sr (λ id p0 v0 b0 pos h1 h2 h3 h4 h5=>?_) d9 hc
 refine wpAny_For ((hX x).iD h4 C Rm R0 h hQ λ a aB G1 D1 c s1 h k1 k2 R1 rc hQ=>?_) (gX h3)
 cases a<;> try (first|exact bj h|exact kh h|(cases h;done))
 rename_i t vs
 replace h:((eS (.seq t vs)).bind λ ys=>bW (aU call Wn b) (λ x sl=>bg sl i (.val x)) ys aB)=some r:=h
 unfold eS at h
 dsimp only at h
 split at h
 ·replace h:bW (aU call Wn b) (λ x sl=>bg sl i (.val x)) vs aB=some r:=h
  refine ll (target:= .Name id p0) (fin:=true) (λ _=>C.hh h1) R1.st rc λ it cK s2 I y2 _=>?_
  exact jc (de:=λ x sl=>bg sl i (.val x)) (loop:=bW (aU call Wn b) (λ x sl=>bg sl i (.val x))) hb h5 C Rm I (λ R rv hs k=>oj C h2 R rv hs k) (λ a8 e=>⟨rfl,lx e⟩) (λ x xs a8=>rfl) h (R1.mono (y2.sub (US _ _)) (StaysIn.refl _)) y2 hQ
 ·exact bj h
set_option tactic.hygienic true in
theorem Fo{i:Nat}{x:X}{b:Ss}(hb:jY W n Wn call lc b):nB W n Wn call lc (.zJ i x b):=λ g d9 hc cx G D O sl s r Q E C Rm R0 h hQ=>by
 replace hc:nX false i (aI W.P lc x g) (c9 W.P lc b g) g d9=true:=hc
 replace h:(aW (ev call x sl) λ a sl=>(eS a).bind λ ys=>nM (aU call Wn b) (λ x sl=>bg sl i (.val x)) ys sl)=some r:=h
 refine sr (λ id p0 v0 b0 pos _ h2 h3 h4 h5=>?_) d9 hc
 refine wpAny_For ((hX x).iD h4 C Rm R0 h hQ λ a aB G1 D1 c s1 h k1 k2 R1 rc hQ=>?_) (gX h3)
 cases a<;> try (first|exact bj h|exact kh h|(cases h;done))
 rename_i t vs
 replace h:((eS (.seq t vs)).bind λ ys=>nM (aU call Wn b) (λ x sl=>bg sl i (.val x)) ys aB)=some r:=h
 unfold eS at h
 dsimp only at h
 split at h
 ·replace h:nM (aU call Wn b) (λ x sl=>bg sl i (.val x)) vs aB=some r:=h
  refine ll (target:= .Name id p0) (fin:=false) (λ e=>nomatch e) R1.st rc λ it cK s2 I y2 _=>?_
  exact jc (de:=λ x sl=>bg sl i (.val x)) (loop:=nM (aU call Wn b) (λ x sl=>bg sl i (.val x))) hb h5 C Rm I (λ R rv hs k=>oj C h2 R rv hs k) (λ a8 e=>absurd (show(none:Option F)=some r from e) (by intro e;cases e)) (λ x xs a8=>rfl) h (R1.mono (y2.sub (US _ _)) (StaysIn.refl _)) y2 hQ
 ·exact bj h
omit hX in
include pB in
theorem Fp(K:WdOk2 W){i:Nat}{as:Xs}{b:Ss}(hb:jY W n Wn call lc b):nB W n Wn call lc (.forR i as b):=λ g d9 hc cx G D O sl s r Q E C Rm R0 h hQ=>by
 replace hc:u4 W.P i (b9 W.P lc as g) (c9 W.P lc b g) g d9=true:=hc
 replace h:(aW (ip call as sl) λ vs sl=>(bN vs).bind λ ns=>bW (aU call Wn b) (λ x sl=>bg sl i (.val x)) (ns.map .int) sl)=some r:=h
 refine AA (λ id p0 pd p1 qN p2 b' pos h1 h2 h3 h4 h5 h6 h7=>?_) d9 hc
 refine wpAny_For ?_ (gX rfl)
 refine wpAny_Call_ofName (mE K.toWdOk C R0.st h3 Boot.«range» ?_)
 show wpAny _ _ (callWith _ _ [] _ []) _ _ _
 cases qN with
 |nil=>exact absurd h5 (by decide)
 |cons e es=>
  cases as with
  |nil=>exact absurd (show false=true from h6) UI
  |cons a as=>
   have Lp:=h6
   have Lp:(aI W.P lc a g e&&b9 W.P lc as g es)=true:=Lp
   rw[Bool.and_eq_true] at Lp
   refine PyProof.Rows.callWith_type1 ((pB _).iD h6 C Rm R0 h hQ λ vs aB G1 D1 cs s1 h k1 k2 R1 rs hQ=>?_) (aJ Lp.1 _ _) (om Lp.2)
   cases hr:bN vs with
   |none=>rw[hr] at h;exact bj h
   |some ns=>
   rw[hr] at h
   replace h:bW (aU call Wn b) (λ x sl=>bg sl i (.val x)) (ns.map .int) aB=some r:=h
   refine kr hr R1.st rs λ a b c m rr s2 t1 u1 v1 qR La Lc jX y2=>?_
   subst qR
   refine kq (target:= .Name id p0) (fin:=true) (λ _=>C.hh h1) y2 La Lc jX λ it cK s3 I y3 _=>?_
   exact jc (de:=λ x sl=>bg sl i (.val x)) (loop:=bW (aU call Wn _) (λ x sl=>bg sl i (.val x))) hb h7 C Rm I (λ R rv hs k=>oj C h2 R rv hs k) (λ a8 e=>⟨rfl,lx e⟩) (λ x xs a8=>rfl) h (R1.mono (y3.sub (US _ _)) (StaysIn.refl _)) y3 hQ
end
noncomputable def BG(W:Wd)(G:Heap)(D:Led)(i:Nat)(z:Slot)(c:Value):Prop:=match z with
 | .af=>False
 | .val v=>Rp W G v c
 | .own xs=>∃a items,c= .ref a/\(a,MO.list i items)∈D/\dS W G xs items
 | .aD _=>False
structure q9 where
 i:Nat
 id:Str
 z:Slot
 c:Value
noncomputable def fE(ps:List q9)(sl:List Slot):List Slot:=ps.foldl (λ l p=>l.set p.i p.z) sl
theorem l7(C:bS W cx g){Q:Unit->Shared->Prop}:∀{ps:List q9} {ts:List (Value->Sem Unit)} {D:Led} {sl:List Slot} {s:Shared},Rel W cx g.rw G D O sl s->
  (∀p∈ps,g.de p.i p.id=true/\p.i<sl.length/\BG W G D p.i p.z p.c)->
  dm (λ(t:Value->Sem Unit) (p:q9)=>∀{Q:Unit->Shared->Prop} {s:Shared},wpAny (Md W) cx.A (storeName cx.env p.id p.c) Q E s->wpAny (Md W) cx.A (t p.c) Q E s) ts ps->
  (∀D' s',Rel W cx g.rw G D' O (fE ps sl) s'->Q () s')->wpAny (Md W) cx.A (assignInOrder ts (ps.map (·.c))) Q E s
 | [],ts,D,sl,s,R,h1,h2,hQ=>by
  cases h2
  exact assignInOrder_nil (hQ D s R)
 |p::ps,ts,D,sl,s,R,h1,h2,hQ=>by
  cases h2 with
  |cons ht MQ=>
  refine rS (λ e1 e2 e3=>?_)<|h1 p (UG ..)
  refine assignInOrder_cons (ht ?_)
  refine bJ (λ pl mC=>?_)<|fU C e1
  refine gf C R (z:=p.z) rfl e1 e2 ⟨pl,mC⟩ ?_ λ D2 s2 hk pZ R2=>?_
  ·cases hz:p.z with
   |af=>trivial
   |val v=>rw[hz] at e3;exact e3
   |own xs=>rw[hz] at e3;exact e3
   |aD xs=>rw[hz] at e3;exact e3.elim
  ·refine l7 C R2 (λ q hq=>?_) MQ hQ
   refine rS (λ f1 f2 f3=>?_)<|h1 q (UK _ hq)
   refine⟨f1,by simpa using f2,?_⟩
   unfold BG at f3 ⊢
   split at f3<;> first|exact f3|skip
   refine ew (λ a items h4 h5 h6=>?_) f3;clear f3
   refine⟨a,items,h4,pZ _ _ (λ p' kT e=>?_) h5,h6⟩
   have nd:=R.st.led.nodup
   have mY:(D.map (·.1)).Nodup:=by rw[List.map_append,List.nodup_append] at nd;exact nd.1
   have pin:=R.place (lY e1).1 p.i p' kT
   subst e
   cases p' with
   |ai L nm=>refine bJ (λ m hm=>?_) pin;clear pin;cases aG mY hm h5
   |gd b=>refine bJ (λ m hm=>?_) pin;clear pin;cases aG mY hm h5
structure Ry(g:bQ)(env:Env)(is:List Nat)(ts:List Expr)(zs:List Slot)(cs:List Value)(sl a8:List Slot)(ps:List q9):Prop where
 MY:ps.map (·.i)=is
 NV:ps.map (·.z)=zs
 Kk:ps.map (·.c)=cs
 NW:a8=fE ps sl
 ok:∀p∈ps,g.de p.i p.id=true/\p.i<sl.length
 len:(assignEach ts env).length=cs.length
 star:(assignEach ts env).findIdx? (·.1)=none
 each:∀{A:Around} {M:Model} {E:Value->Shared->Prop},dm (λ(t:Value->Sem Unit) (p:q9)=>∀{Q:Unit->Shared->Prop} {s:Shared},wpAny M A (storeName env p.id p.c) Q E s->wpAny M A (t p.c) Q E s) ((assignEach ts env).map (·.2)) ps
 ids:dm (λ(t:Expr) (p:q9)=>∃pos,t= .Name p.id pos) ts ps
set_option tactic.hygienic true in
theorem BH{i:Nat}{is:List Nat}{t:Expr}{ts:List Expr}(h:kR g (i::is) (t::ts)=true):∃id p,t= .Name id p/\g.de i id=true/\kR g is ts=true:=by
 cases t<;> first|exact absurd (show false=true from h) UI|skip
 rename_i id p
 replace h:(g.de i id&&kR g is ts)=true:=h
 rw[Bool.and_eq_true] at h
 exact⟨id,p,rfl,h.1,h.2⟩
theorem wO{env:Env}:∀(is:List Nat) {ts:List Expr} {zs:List Slot} {cs:List Value} {sl a8:List Slot},kR g is ts=true->is.length=zs.length->zs.length=cs.length->cz sl is zs=some a8->
  ∃ps:List q9,Ry g env is ts zs cs sl a8 ps:=by
 intro is
 induction is with
 |nil=>
  intro ts zs cs sl a8 h h1 h2 h3
  cases ts with
  |cons t ts=>exact absurd (show false=true from h) UI
  |nil=>
  cases zs with
  |cons a b=>simp at h1
  |nil=>
  cases cs with
  |cons a b=>simp at h2
  |nil=>
  replace h3:some sl=some a8:=h3
  replace h3:=si h3;subst h3
  exact⟨[],⟨rfl,rfl,rfl,rfl,(λ p hp=>by cases hp),rfl,rfl,dm.nil,dm.nil⟩⟩
 |cons i is ih=>
  intro ts zs cs sl a8 h h1 h2 h3
  cases ts with
  |nil=>exact absurd (show false=true from h) UI
  |cons t ts=>
  refine ew (λ id p0 z2 HY ht=>?_)<|BH h;subst z2
  cases zs with
  |nil=>simp at h1
  |cons z zs=>
  cases cs with
  |nil=>simp at h2
  |cons c cs=>
  replace h3:((bg sl i z).bind λ sl=>cz sl is zs)=some a8:=h3
  cases hs:bg sl i z with
  |none=>rw[hs] at h3;exact bj h3
  |some aB=>
  rw[hs] at h3
  refine d8 (λ hi z1=>?_)<|fT hs;subst z1
  refine bJ (λ ps P=>?_)<|ih ht (by simpa using h1) (by simpa using h2) h3
  refine⟨⟨i,id,z,c⟩::ps,⟨by simp[P.MY],by simp[P.NV],by simp[P.Kk],P.NW,λ p hp=>?_,?_,?_,?_,?_⟩⟩
  ·rcases List.mem_cons.mp hp with rfl|hp
   ·exact⟨HY,hi⟩
   ·have:=P.ok p hp;simpa using this
  ·show(assignEach ts env).length+1=cs.length+1
   rw[P.len]
  ·show List.findIdx? (·.1) ((false,_)::assignEach ts env)=none
   rw[List.findIdx?_cons,P.star];rfl
  ·exact dm.cons (λ h=>PySem.wpAny_assign_Name h) P.each
  ·exact dm.cons ⟨p0,rfl⟩ P.ids
theorem fV:∀{is:List Nat} {zs:List Slot} {sl a8:List Slot},cz sl is zs=some a8->is.length=zs.length
 | [],[],_,_,_=>rfl
 |i::is,z::zs,sl,a8,h=>by
  replace h:((bg sl i z).bind λ sl=>cz sl is zs)=some a8:=h
  cases hs:bg sl i z with
  |none=>rw[hs] at h;exact bj h
  |some aB=>rw[hs] at h;simp[fV h]
 | [],_::_,_,_,h=>nomatch h
 |_::_,[],_,_,h=>nomatch h
theorem qa(C:bS W cx g)(hq:cx.A.handled=none){is:List Nat}{ts:List Expr}{k}{pos:Pos}{zs:List Slot}{t:Addr}{cs:List Value}{a8:List Slot}{Q:Unit->Shared->Prop}(h1:kR g is ts=true)(hs:cz sl is zs=some a8)
  (R:Rel W cx g.rw G D O sl s)(ht:IsTup s.heap t cs.toArray)(hl:zs.length=cs.length)(hz:∀p:q9,(p.i,p.z,p.c)∈is.zip (zs.zip cs)->BG W G D p.i p.z p.c)
  (hQ:∀D' s',Rel W cx g.rw G D' O a8 s'->Q () s'):wpAny (Md W) cx.A (assign (.Tuple ts k pos) cx.env (.ref t)) Q E s:=by
 refine bJ (λ ps P=>?_)<|wO (env:=cx.env) is h1 (fV hs) hl hs
 refine assign_Tuple_tuple hq ht (by rw[P.len];simp) P.star λ h' he=>?_
 have R2:Rel W cx g.rw G D O sl { s with heap:=h' }:=R.mono (R.st.extBut (by
  cases q:G.get? s.heap.objs.size with
  |none=>rfl
  |some o=>exact absurd (Heap.lt_size (R.st.led.stays _ _ q)) (Nat.lt_irrefl _)) (cW R.st.led) he) (StaysIn.refl _)
 have e:cs.toArray.toList=ps.map (·.c):=by rw[P.Kk]
 rw[e]
 refine l7 C R2 (λ p hp=>⟨(P.ok p hp).1,(P.ok p hp).2,hz p ?_⟩) P.each λ D' s' R3=>hQ D' s' (P.NW▸R3)
 rw[<-P.MY,<-P.NV,<-P.Kk]
 have:(ps.map (·.i)).zip ((ps.map (·.z)).zip (ps.map (·.c)))=ps.map λ p=>(p.i,p.z,p.c):=by
  clear P hz e hp
  induction ps with
  |nil=>rfl
  |cons a b ih=>simp[ih]
 rw[this]
 exact UR hp
theorem Fq{is:List Nat}:∀{vs:List V} {cs:List Value},dS W G vs cs->∀p:q9,(p.i,p.z,p.c)∈is.zip ((vs.map Slot.val).zip cs)->BG W G D p.i p.z p.c:=by
 induction is with
 |nil=>intro vs cs _ p hp;cases hp
 |cons i is ih=>
  intro vs cs h p hp
  cases vs with
  |nil=>cases hp
  |cons v vs=>
   simp only [dS,aL] at h
   refine ew (λ c rT z2 h1 h2=>?_) h;clear h;subst z2
   rcases List.mem_cons.mp hp with e|hp
   ·injection e with e1 e2
    injection e2 with e2 e3
    rw[e1,e2,e3];exact h1
   ·exact ih h2 p hp
theorem rg(C:bS W cx g)(hq:cx.A.handled=none){is:List Nat}{ts:List Expr}{k}{pos:Pos}{vs:List V}{c:Value}{a8:List Slot}{Q:Unit->Shared->Prop}(h1:kR g is ts=true)(hs:cz sl is (vs.map .val)=some a8)
  (R:Rel W cx g.rw G D O sl s)(rc:Rp W G (.seq true vs) c)(hQ:∀D' s',Rel W cx g.rw G D' O a8 s'->Q () s'):wpAny (Md W) cx.A (assign (.Tuple ts k pos) cx.env c) Q E s:=by
 simp only [Rp,Rep] at rc
 refine ew (λ a items z2 h2 h3=>?_) rc;clear rc;subst z2
 exact qa C hq h1 hs R (R.st.seq h2).isTup (by rw[List.length_map,aL.length h3]) (Fq h3) hQ
theorem sU{v:Expr}{ts k}{pos':Pos}{line:Nat}{env:Env}(h1:notTuple v=true\/True)(h2:dj v=true):swapsWithSole [.Tuple ts k pos'] v line env=pure false:=by
 cases v<;> first|rfl|exact absurd h2 UI
theorem rh{v:Expr}{ts k}{pos':Pos}{env:Env}(h1:notTuple v=true):swappedStores [.Tuple ts k pos'] v env=pure none:=by
 cases v<;> first|rfl|exact absurd h1 UI
section
variable(hX:∀x,cE W n call lc x)(pB:∀xs,gK W n call lc xs)
include hX
theorem IT{is:List Nat}{x:X}:nB W n Wn call lc (.Ed is x):=λ g d9 hc cx G D O sl s r Q E C Rm R0 h hQ=>by
 replace hc:As is (aI W.P lc x g) g d9=true:=hc
 replace h:(aW (ev call x sl) λ v sl=>match v with
   | .seq true vs=>(cz sl is (vs.map .val)).map F.next
   |_=>none)=some r:=h
 refine EB (λ ts p1 p2 v p3 h0 h1 h2 h3 h4=>?_) d9 hc
 refine Assign_Tuple ((hX x).iD h4 C Rm R0 h hQ λ a aB G1 D1 c s1 h k1 k2 R1 rc hQ=>?_) (sU (.inr trivial) h3) (rh h2)
 split at h
 ·refine aV (λ sl2 e1 z2=>?_)<|Option.map_eq_some_iff.mp h;subst z2
  exact rg C (C.hh h0) h1 e1 R1 rc λ D' s' R2=>hQ _ D' s' (StaysIn.refl _) R2
 ·exact bj h
theorem Fs{is:List Nat}{x:X}{b:Ss}(hb:jY W n Wn call lc b):nB W n Wn call lc (.xT is x b):=λ g d9 hc cx G D O sl s r Q E C Rm R0 h hQ=>by
 replace hc:u6 is (aI W.P lc x g) (c9 W.P lc b g) g d9=true:=hc
 replace h:(aW (ev call x sl) λ a sl=>match a with
  | .seq true ys=>if dO ys then bW (aU call Wn b) (λ x sl=>match x with| .seq true vs=>cz sl is (vs.map .val)|_=>none) ys sl else none
  |_=>none)=some r:=h
 refine AD (λ ts k p0 v0 b0 pos h1 h2 h3 h4 h5=>?_) d9 hc
 refine wpAny_For ((hX x).iD h4 C Rm R0 h hQ λ a aB G1 D1 c s1 h k1 k2 R1 rc hQ=>?_) (gX h3)
 split at h
 ·rename_i vs
  split at h
  ·refine ll (target:= .Tuple ts k p0) (fin:=true) (λ _=>C.hh h1) R1.st rc λ it cK s2 I y2 _=>?_
   exact jc (de:=λ x sl=>match x with| .seq true vs=>cz sl is (vs.map .val)|_=>none) (loop:=bW (aU call Wn b) (λ x sl=>match x with| .seq true vs=>cz sl is (vs.map .val)|_=>none)) hb h5 C Rm I (λ{v} {G'} {D'} {O'} {a8} {sl2} {s'} {c} {Q'} {E'} R rv hs k=>by
    split at hs
    ·exact rg C (C.hh h1) h2 hs R rv k
    ·cases hs) (λ a8 e=>⟨rfl,lx e⟩) (λ x xs a8=>rfl) h (R1.mono (y2.sub (US _ _)) (StaysIn.refl _)) y2 hQ
  ·exact bj h
 ·exact bj h
end
theorem St.add{a:Addr}{d:MO}(x:St W G D s)(ha:a∉aQ D)(hG:G.get? a=none)(hd:qv G s.heap a d):St W G ((a,d)::D) s:=by
 refine⟨⟨x.led.stays,λ p hp=>?_,λ p hp=>?_,?_⟩,x.gD,x.top,x.gens,x.os⟩
 ·rcases List.mem_cons.mp hp with rfl|hp
  ·exact hd
  ·exact x.led.has p hp
 ·rcases List.mem_cons.mp hp with rfl|hp
  ·exact hG
  ·exact x.led.free p hp
 ·rw[List.map_cons,List.nodup_cons]
  exact⟨ha,x.led.nodup⟩
noncomputable def Loose(cK:Led):Prop:=∀p∈cK,∃t it,p.2=MO.list t it
theorem Rel.BI{cK:Led}(h:Loose cK)(x:Rel W cx rw G D (cK++O) sl s):Rel W cx rw G D O sl s:=by
 have dn:∀p,p∈D++(cK++O)->(∀t it,p.2≠MO.list t it)->p∈D++O:=λ p hp hn=>by
  rcases List.mem_append.mp hp with h'|h'
  ·exact UD _ h'
  ·rcases List.mem_append.mp h' with h'|h'
   ·refine Ej (λ t it e=>?_)<|h p h';exact absurd e (hn t it)
   ·exact UE _ h'
 exact⟨x.st.sub (List.Sublist.append (List.Sublist.refl _) (US _ _)),x.len,x.slots,x.place,
  ⟨λ env he=>let ⟨e1,L,m,e2,e3⟩:=x.frames.1 env he;⟨e1,L,m,e2,dn _ e3 λ _ _ e=>nomatch e⟩,λ q hq=>dn _ (x.frames.2 q hq) λ _ _ e=>nomatch e⟩,x.here⟩
theorem eP.BI{cK:Led}{C:Nat}{arg:V}{e:Value}(h:Loose cK)(x:eP W cx rw G (cK++O) C arg e s):eP W cx rw G O C arg e s:=by
 refine Hp (λ G' D' ea tb e1 e2 e3 e4 e5=>?_) x;clear x
 exact⟨G',D',ea,tb,e1,e2,e3.BI h,e4.less,e5⟩
theorem i4.grow{bo:Addr}{D':Led}{i:Nat}{p:Option Pl}{x:Slot}(h:i4 W bo G D i p x)(sub:∀q∈D,q∈D'):i4 W bo G D' i p x:=by
 have fD:∀{p:Pl} {c:Value},At G D p c->At G D' p c:=λ{p c} h=>by
  cases p with
  |ai L nm=>refine aV (λ m h1 h2=>?_) h;clear h;exact⟨m,sub _ h1,h2⟩
  |gd a=>exact h.imp (sub _) id
 cases x with
 |af=>cases p<;> trivial
 |val v=>cases p with
  |none=>exact h
  |some p=>refine aV (λ c h1 h2=>?_) h;clear h;exact⟨c,fD h1,h2⟩
 |own xs=>cases p with
  |none=>exact h
  |some p=>refine ew (λ a it h1 h2 h3=>?_) h;clear h;exact⟨a,it,fD h1,sub _ h2,h3⟩
 |aD xs=>cases p with
  |none=>exact h
  |some p=>refine fY (λ it h1 h2 h3=>?_) h;clear h;exact⟨it,fD h1,sub _ h2,h3⟩
theorem Rel.take{cK:Led}(x:Rel W cx rw G D (cK++O) sl s):Rel W cx rw G (cK++D) O sl s:=by
 have pm:((cK++D)++O).Perm (D++(cK++O)):=by
  rw[<-List.append_assoc]
  exact List.Perm.append_right O List.perm_append_comm
 have sub:∀q∈D,q∈cK++D:=λ q h=>UE _ h
 exact⟨x.st.perm pm,x.len,λ i z p h1 h2=>(x.slots i z p h1 h2).grow sub,λ e i p h=>by
   have:=x.place e i p h
   cases p with
   |ai L nm=>refine bJ (λ m h1=>?_) this;clear this;exact⟨m,sub _ h1⟩
   |gd a=>refine bJ (λ m h1=>?_) this;clear this;exact⟨m,sub _ h1⟩,
  ⟨λ env he=>let ⟨e1,L,m,e2,e3⟩:=x.frames.1 env he;⟨e1,L,m,e2,pm.mem_iff.mpr e3⟩,λ q hq=>pm.mem_iff.mpr (x.frames.2 q hq)⟩,let ⟨m,h⟩:=x.here;⟨m,sub _ h⟩⟩
noncomputable def jN(W:Wd)(cx:Cx)(rw:Bool)(G:Heap)(O:Led)(Q:Value->Shared->Prop)(E:Value->Shared->Prop):R V->Prop
 | .ok v sl=>(∀G' D' c s',G.StaysIn G'->Rel W cx rw G' D' O sl s'->Rp W G' v c->(∀xs,v≠ .seq false xs)->Q c s')/\
   ∀xs,v= .seq false xs->∀G' D' a items s',G.StaysIn G'->Rel W cx rw G' D' O sl s'->fu s'.heap a items->a∉aQ (D'++O)->G'.get? a=none->dS W G' xs items->Q (.ref a) s'
 | .exc C arg=>∀e s',eP W cx rw G O C arg e s'->E e s'
theorem jN.mono{Q:Value->Shared->Prop}{r:R V}(x:jN W cx rw G O Q E r)(k:G.StaysIn G'):jN W cx rw G' O Q E r:=by
 cases r with
 |ok v sl=>exact⟨λ G2 D2 c s' h=>x.1 G2 D2 c s' (StaysIn.trans k h),λ xs e G2 D2 a it s' h=>x.2 xs e G2 D2 a it s' (StaysIn.trans k h)⟩
 |exc C arg=>exact λ e s' h=>x e s' (h.mono k)
section
variable(hX:∀x,cE W n call lc x)(pB:∀xs,gK W n call lc xs)
include hX pB
theorem oo{x:X}(hf:kl x=true){e:Expr}(hc:aI W.P lc x g e=true)(C:bS W cx g)(Rm:dk n cx.A)(R0:Rel W cx g.rw G D O sl s){r:R V}(h:ev call x sl=some r){Q:Value->Shared->Prop}{E:Value->Shared->Prop}
  (hQ:jN W cx g.rw G O Q E r):wpAny (Md W) cx.A (eval e cx.env) Q E s:=by
 have bin:∀{op:nt} {l r0:X},op= .add->x= .bin op l r0->wpAny (Md W) cx.A (eval e cx.env) Q E s:=by
  intro op l r0 Rz ex
  subst ex
  replace hc:Es op (aI W.P lc l g) (aI W.P lc r0 g) e=true:=hc
  replace h:(au (ev call l sl) λ a sl=>au (ev call r0 sl) λ b sl=>(dz op a b).map (R.ok · sl))=some r:=h
  refine zZ (λ l' r' p1 h2 h3=>?_) e hc
  refine wpAny_BinOp ?_
  refine Or.elim (cC h) (fb λ a aB e1 e2=>?_) (fb λ C' arg e1 e2=>?_)
  ·refine hX l g _ h2 cx G D O sl s _ _ _ C Rm R0 e1 λ G1 D1 ca s1 k1 k2 R1 ra=>?_
   have Ll:=hQ.mono k1
   refine Or.elim (cC e2) (fb λ b sl2 e3 e4=>?_) (fb λ C' arg e3 e4=>?_)
   ·refine hX r0 g _ h3 cx G1 D1 O aB s1 _ _ _ C Rm R1 e3 λ G2 D2 cb s2 k3 k4 R2 rb=>?_
    refine aV (λ v e5 z2=>?_)<|bG e4;subst z2
    refine bJ (λ m hm=>?_)<|R2.here
    have Fl:=Ll.mono k3
    by_cases hs:∃xs,v= .seq false xs
    ·refine bJ (λ xs z1=>?_) hs;clear hs;subst z1
     exact pO e5 R2.st (Rep.keeps k3 _ ra) rb (UD _ hm) λ a items s3 y _ hl hk hG rr=>Fl.2 xs rfl G2 D2 a items s3 (StaysIn.refl _) (R2.mono y (StaysIn.refl _)) (hl Rz) hk hG rr
    ·exact pP e5 R2.st (Rep.keeps k3 _ ra) rb (UD _ hm) λ G3 c s3 y k r3=>Fl.1 G3 D2 c s3 k (R2.mono y k) r3 λ xs e=>hs ⟨xs,e⟩
   ·subst e4
    exact hX r0 g _ h3 cx G1 D1 O aB s1 _ _ _ C Rm R1 e3 Ll
  ·subst e2
   exact hX l g _ h2 cx G D O sl s _ _ _ C Rm R0 e1 hQ
 cases x with
 |lst xs=>
  replace hc:Et (b9 W.P lc xs g) e=true:=hc
  refine Ab (λ es p1 hc=>?_) e hc
  refine pU (pB xs) hc C Rm R0 h (λ C' arg er=>by subst er;exact hQ) λ vs a8 er G1 D1 a items s1 k1 k2 R1 hl ha hG rs=>?_
  subst er
  exact hQ.2 vs rfl G1 D1 a items s1 k1 R1 hl ha hG rs
 |bin op l r0=>cases op<;> first|exact bin rfl rfl|exact absurd (show false=true from hf) UI
 |_=>exact absurd (show false=true from hf) UI
theorem Ft{i:Nat}{x:X}:nB W n Wn call lc (.qw i x):=λ g d9 hc cx G D O sl s r Q E C Rm R0 h hQ=>by
 replace hc:u0 i (aI W.P lc x g) g d9=true:=hc
 replace h:(if kl x then aW (ev call x sl) λ v sl=>match v with
   | .seq false xs=>(bg sl i (.own xs)).map F.next
   |_=>none
  else none)=some r:=h
 split at h
 ·rename_i hf
  refine Aq (λ id p1 v p2 h1 h2 h3=>?_) d9 hc
  refine wpAny_Assign_Name ?_ (oi C (by rw[h2];rfl))
  refine Or.elim (fm h) (fb λ v aB e1 e2=>?_) (fb λ C' arg e1 e2=>?_)
  ·refine oo hX pB hf h3 C Rm R0 e1 ⟨λ G1 D1 c s1 k R1 rc hn=>?_,λ xs ev G1 D1 a items s1 k R1 hl ha hG rr=>?_⟩
   ·split at e2
    ·exact absurd rfl (hn _)
    ·exact bj e2
   ·subst ev
    refine aV (λ sl2 e3 z2=>?_)<|Option.map_eq_some_iff.mp e2;subst z2
    refine d8 (λ hi z1=>?_)<|fT e3;subst z1
    have R2:Rel W cx g.rw G1 ([(a,MO.list i items)]++D1) O aB s1:=(Rel.more (cK:=[(a,MO.list i items)]) R1 (R1.st.add ha hG hl) (StaysIn.refl _)).take
    exact gf C R2 (z:= .own xs) rfl h1 hi (fU C h1) ⟨a,items,rfl,UG ..,rr⟩ λ D' s' _ _ R=>hQ G1 D' s' k R
  ·subst e2
   exact oo hX pB hf h3 C Rm R0 e1 hQ
 ·exact bj h
noncomputable def oq(W:Wd)(G:Heap)(D:Led):List Nat->List Slot->List Value->Prop
 |_,[],[]=>True
 |is,z::zs,c::cs=>BG W G D (is.headD 0) z c/\oq W G D is.tail zs cs
 |_,_,_=>False
omit hX pB in
theorem oq.grow{D':Led}(sub:∀q∈D,q∈D'):∀{zs:List Slot} {is:List Nat} {cs:List Value},oq W G D is zs cs->oq W G D' is zs cs
 | [],_,[],_=>trivial
 | [],_,_::_,h=>h.elim
 |_::_,_,[],h=>h.elim
 |z::zs,is,c::cs,h=>by
  refine⟨?_,oq.grow sub h.2⟩
  have h1:=h.1
  unfold BG at h1 ⊢
  split at h1<;> first|exact h1|skip
  refine ew (λ a items h4 h5 h6=>?_) h1;clear h1
  exact⟨a,items,h4,sub _ h5,h6⟩
theorem yG:∀(xs:Xs) (is:List Nat) {es:List Expr} {pos:Pos} {G:Heap} {D O:Led} {sl:List Slot} {s:Shared} {r:R (List V)} {Q:List Value->Shared->Prop} {E:Value->Shared->Prop},b9 W.P lc xs g es=true->bS W cx g->dk n cx.A->Rel W cx g.rw G D O sl s->ip call xs sl=some r->
  (match r with
   | .ok vs a8=>∀G' D' P cs s',G.StaysIn G'->Loose P->Rel W cx g.rw G' D' (P++O) a8 s'->oq W G' P is (iX xs vs) cs->Q cs s'
   | .exc C arg=>∀e s',eP W cx g.rw G O C arg e s'->E e s')->wpAny (Md W) cx.A (spliced (backTo pos (starEach es cx.env))) Q E s
 | .nil,is,es,pos,G,D,O,sl,s,r,Q,E,hc,C,Rm,R0,h,hQ=>by
  replace hc:uY es=true:=hc
  replace h:some (R.ok [] sl)=some r:=h
  replace h:=si h;subst h
  cases es with
  |nil=>exact wpAny_items_nil (hQ G D [] [] s (StaysIn.refl _) (λ p hp=>by cases hp) R0 trivial)
  |cons a b=>exact absurd hc UI
 | .cons x xs,is,es,pos,G,D,O,sl,s,r,Q,E,hc,C,Rm,R0,h,hQ=>by
  replace hc:mB (aI W.P lc x g) (b9 W.P lc xs g) es=true:=hc
  replace h:(au (ev call x sl) λ v sl=>au (ip call xs sl) λ vs sl=>some (R.ok (v::vs) sl))=some r:=h
  cases es with
  |nil=>exact absurd (show false=true from hc) UI
  |cons e es=>
  replace hc:(aI W.P lc x g e&&b9 W.P lc xs g es)=true:=hc
  rw[Bool.and_eq_true] at hc
  refine wpAny_items_cons ?_ (aJ hc.1 _ _)
  refine Or.elim (cC h) (fb λ v aB e1 e2=>?_) (fb λ C' arg e1 e2=>?_)
  ·--T4 value as RA
   have plain:∀{G1 D1 c s1},G.StaysIn G1->Rel W cx g.rw G1 D1 O aB s1->Rp W G1 v c->sa x v= .val v->
     wpAny (Md W) cx.A (spliced (backTo pos (starEach es cx.env))) (λ vs s₂=>Q (c::vs) s₂) E s1:=λ{G1 D1 c s1} k1 R1 rc ho=>by
    refine Or.elim (cC e2) (fb λ vs sl2 e3 e4=>?_) (fb λ C' arg e3 e4=>?_)
    ·cases e4
     refine yG xs is.tail hc.2 C Rm R1 e3 λ G2 D2 P cs s2 k2 hP R2 hz=>?_
     refine hQ G2 D2 P (c::cs) s2 (StaysIn.trans k1 k2) hP R2 ?_
     show oq W G2 P is (sa x v::iX xs vs) (c::cs)
     refine⟨?_,hz⟩
     rw[ho]
     exact Rep.keeps k2 _ rc
    ·subst e4
     exact yG xs is.tail hc.2 C Rm R1 e3 λ e' s' x=>hQ e' s' (x.mono k1)
   by_cases hf:kl x=true
   ·refine oo hX pB hf hc.1 C Rm R0 e1 ⟨λ G1 D1 c s1 k R1 rc hn=>?_,λ ys ev G1 D1 a items s1 k R1 hl ha hG rr=>?_⟩
    ·refine plain k R1 rc ?_
     unfold sa
     rw[if_pos hf]
     split
     ·exact absurd rfl (hn _)
     ·rfl
    ·subst ev
     have R2:=Rel.more (cK:=[(a,MO.list (is.headD 0) items)]) R1 (R1.st.add ha hG hl) (StaysIn.refl _)
     refine Or.elim (cC e2) (fb λ vs sl2 e3 e4=>?_) (fb λ C' arg e3 e4=>?_)
     ·cases e4
      refine yG xs is.tail hc.2 C Rm R2 e3 λ G2 D2 P cs s2 k2 hP R3 hz=>?_
      have e5:P++([(a,MO.list (is.headD 0) items)]++O)=(P++ [(a,MO.list (is.headD 0) items)])++O:=by rw[List.append_assoc]
      rw[e5] at R3
      refine hQ G2 D2 _ (.ref a::cs) s2 (StaysIn.trans k k2) (λ p hp=>?_) R3 ?_
      ·rcases List.mem_append.mp hp with hp|hp
       ·exact hP p hp
       ·rw[List.mem_singleton.mp hp];exact⟨_,_,rfl⟩
      ·show oq W G2 _ is (sa x (.seq false ys)::iX xs vs) (.ref a::cs)
       have ho:sa x (.seq false ys)= .own ys:=by unfold sa;rw[if_pos hf]
       refine⟨?_,?_⟩
       ·rw[ho]
        exact⟨a,items,rfl,UE _ (List.mem_singleton.mpr rfl),aL.keeps k2 _ rr⟩
       ·exact hz.grow λ q hq=>UD _ hq
     ·subst e4
      refine yG xs is.tail hc.2 C Rm R2 e3 λ e' s' x=>hQ e' s' ((x.BI (cK:=[(a,MO.list (is.headD 0) items)]) λ p hp=>?_).mono k)
      rw[List.mem_singleton.mp hp];exact⟨_,_,rfl⟩
   ·refine hX x g _ hc.1 cx G D O sl s _ _ _ C Rm R0 e1 λ G1 D1 c s1 k1 _ R1 rc=>plain k1 R1 rc ?_
    unfold sa
    rw[if_neg hf]
  ·subst e2
   exact hX x g _ hc.1 cx G D O sl s _ _ _ C Rm R0 e1 hQ
end
theorem BJ:∀ps:List q9,(ps.map (·.i)).zip ((ps.map (·.z)).zip (ps.map (·.c)))=ps.map λ p=>(p.i,p.z,p.c)
 | []=>rfl
 |a::b=>by simp[BJ b]
theorem mI{i:Nat}{z:Slot}:∀{ps:List q9} {sl:List Slot},(∀p∈ps,p.i≠i)->fE ps (sl.set i z)=(fE ps sl).set i z
 | [],_,_=>rfl
 |p::ps,sl,h=>by
  show fE ps ((sl.set i z).set p.i p.z)=(fE ps (sl.set p.i p.z)).set i z
  rw[List.set_comm _ _ (Ne.symm (h p (UG ..))),mI λ q hq=>h q (UK _ hq)]
theorem je:∀{ps:List q9} {sl:List Slot},(ps.map (·.i)).Nodup->fE ps.reverse sl=fE ps sl
 | [],_,_=>rfl
 |p::ps,sl,h=>by
  rw[List.map_cons,List.nodup_cons] at h
  have e:fE (p::ps).reverse sl=(fE ps.reverse sl).set p.i p.z:=by
   unfold fE
   rw[List.reverse_cons,List.foldl_append];rfl
  rw[e,je h.2]
  show _=fE ps (sl.set p.i p.z)
  rw[mI λ q hq e=>h.1 (by rw[<-e];exact UR (f:=λ p:q9=>p.i) hq)]
theorem jf:∀{is:List Nat},distinct is=true->is.Nodup
 | [],_=>List.nodup_nil
 |i::is,h=>by
  replace h:(!is.contains i&&distinct is)=true:=h
  rw[Bool.and_eq_true,Bool.not_eq_true'] at h
  rw[List.nodup_cons]
  refine⟨λ hm=>?_,jf h.2⟩
  have:=h.1
  rw[List.contains_iff_mem.mpr hm] at this
  cases this
theorem ot{P:Led}:∀{zs:List Slot} {is:List Nat} {cs:List Value},oq W G P is zs cs->is.length=zs.length->∀p:q9,(p.i,p.z,p.c)∈is.zip (zs.zip cs)->BG W G P p.i p.z p.c
 | [],[],[],_,_,p,hp=>by cases hp
 | [],_::_,_,_,h,_,_=>nomatch h
 |_::_,[],_,_,h,_,_=>nomatch h
 | [],[],_::_,h,_,_,_=>h.elim
 |z::zs,i::is,[],h,_,_,_=>h.elim
 |z::zs,i::is,c::cs,h,hl,p,hp=>by
  rcases List.mem_cons.mp hp with e|hp
  ·injection e with e1 e2
   injection e2 with e2 e3
   rw[e1,e2,e3];exact h.1
  ·exact ot h.2 (by simpa using hl) p hp
theorem ly{P:Led}:∀{zs:List Slot} {is:List Nat} {cs:List Value},oq W G P is zs cs->zs.length=cs.length
 | [],_,[],_=>rfl
 | [],_,_::_,h=>h.elim
 |_::_,_,[],h=>h.elim
 |_::zs,is,_::cs,h=>by simp[ly h.2]
theorem BG.grow{D':Led}{i:Nat}{z:Slot}{c:Value}(h:BG W G D i z c)(sub:∀q∈D,q∈D'):BG W G D' i z c:=by
 unfold BG at h ⊢
 split at h<;> first|exact h|skip
 refine ew (λ a items h4 h5 h6=>?_) h;clear h
 exact⟨a,items,h4,sub _ h5,h6⟩
theorem vC{env:Env}{ts vs:List Expr}{k k':Nat}{p p':Pos}{r:Option (List Str)}(hk:env.scope.kind= .function)(h:jI env.scope ts vs=some r):swappedStores [.Tuple ts k p] (.Tuple vs k' p') env=pure r:=by
 have hb:(env.blockKind != .function)=false:=by
  unfold Env.blockKind
  rw[hk];rfl
 unfold jI at h
 unfold swappedStores Env.kindOf
 dsimp only at h ⊢
 rw[hb,Bool.or_false]
 split at h
 ·rename_i h1
  replace h:=si h;subst h
  exact if_pos h1
 ·rename_i h1
  refine(if_neg h1).trans ?_
  split at h
  ·rename_i h2
   replace h:=si h;subst h
   exact if_pos h2
  ·rename_i h2
   refine(if_neg h2).trans ?_
   split at h
   ·rename_i h3
    replace h:=si h;subst h
    exact if_pos h3
   ·rename_i h3
    refine(if_neg h3).trans ?_
    split at h
    ·rename_i h4
     replace h:=si h;subst h
     exact if_pos h4
    ·rename_i h4
     refine(if_neg h4).trans ?_
     split at h
     ·exact bj h
     ·rename_i h5
      replace h:=si h;subst h
      exact if_neg h5
set_option tactic.hygienic true in
theorem jg{α β γ:Type}{f:α->Option β}{R:α->γ->Prop}{v:γ->β}(hf:∀a c,R a c->f a=none\/f a=some (v c)):∀{as:List α} {cs:List γ},dm R as cs->(as.filterMap f).length=as.length->as.filterMap f=cs.map v
 | [],_,h,_=>by cases h;rfl
 |a::as,_,h,hl=>by
  cases h with
  |cons h1 h2=>
  rename_i c cs
  rcases hf a c h1 with e|e
  ·rw[List.filterMap_cons_none e] at hl
   have:=List.length_filterMap_le f as
   rw[hl] at this
   simp at this
   lia
  ·rw[List.filterMap_cons_some e] at hl ⊢
   rw[List.map_cons,jg hf h2 (by simpa using hl)]
theorem pC{ts vs:List Expr}{ps:List q9}{names:List Str}(hi:dm (λ(t:Expr) (p:q9)=>∃pos,t= .Name p.id pos) ts ps)(h:jI g.scope ts vs=some (some names)):names=ps.map (·.id):=by
 unfold jI at h
 dsimp only at h
 split at h
 ·cases h
 ·split at h
  ·cases h
  ·split at h
   ·cases h
   ·rename_i h3
    split at h
    ·cases h
    ·split at h
     ·exact bj h
     ·cases h
      rw[Bool.or_eq_true,not_or] at h3
      have hl:=h3.1
      rw[bne_iff_ne,ne_eq,Decidable.not_not] at hl
      refine jg (v:=λ p:q9=>p.id) (λ t p ht=>?_) hi hl
      refine bJ (λ pos z1=>?_) ht;clear ht;subst z1
      dsimp only
      split
      ·exact .inr rfl
      ·exact .inl rfl
section
variable(hX:∀x,cE W n call lc x)(pB:∀xs,gK W n call lc xs)
include hX pB
theorem Fu{is:List Nat}{xs:Xs}:nB W n Wn call lc (.e8 is xs):=λ g d9 hc cx G D O sl s r Q E C Rm R0 h hQ=>by
 replace hc:u2 is (b9 W.P lc xs g) g d9=true:=hc
 replace h:(aW (ip call xs sl) λ vs sl=>(cz sl is (iX xs vs)).map F.next)=some r:=h
 refine Ar (λ ts k1 p1 PR k2 p2 pos h0 h1 h2 h3 h4 h6 h5=>?_) d9 hc
 refine bJ (λ w hw=>?_)<|Option.isSome_iff_exists.mp h4
 have Lq:swappedStores [.Tuple ts k1 p1] (.Tuple PR k2 p2) cx.env=pure w:=vC (by rw[C.scope];exact h3) (by rw[C.scope];exact hw)
 have val:∀{Q':Value->Shared->Prop} {E':Value->Shared->Prop},(∀C' arg,r= .exc C' arg->∀e s',eP W cx g.rw G O C' arg e s'->E' e s')->
   (∀vs aB sl2,r= .next sl2->cz aB is (iX xs vs)=some sl2->∀G1 D1 t cs s1,G.StaysIn G1->Rel W cx g.rw G1 D1 O aB s1->IsTup s1.heap t cs.toArray->oq W G1 D1 is (iX xs vs) cs->Q' (.ref t) s1)->
   wpAny (Md W) cx.A (eval (.Tuple PR k2 p2) cx.env) Q' E' s:=by
  intro Q' E' RB RC
  refine PyProof.Rows.Tuple_ ?_
  refine Or.elim (fm h) (fb λ vs aB e1 e2=>?_) (fb λ C' arg e1 e2=>?_)
  ·refine aV (λ sl2 e3 z2=>?_)<|Option.map_eq_some_iff.mp e2;subst z2
   refine yG hX pB xs is h5 C Rm R0 e1 λ G1 D1 P cs s1 k hP R1 hz=>?_
   have R2:Rel W cx g.rw G1 (P++D1) O aB s1:=R1.take
   refine wpAny_newTuple ?_ ?_
   ·have R3:=R2.keeps (t:=s1.toks) (cB s1.heap { cls:= .type "tuple",data:= .seq cs.toArray })
    exact RC vs aB sl2 rfl e3 G1 (P++D1) _ cs _ k R3 ⟨_,i6,rfl,0,rfl⟩ (hz.grow λ q hq=>UD _ hq)
   ·have e5:=fV e3
    have e6:=ly hz
    rw[sizeLine_eq];lia
  ·subst e2
   exact yG hX pB xs is h5 C Rm R0 e1 (RB _ _ rfl)
 cases w with
 |none=>
  refine Assign_Tuple (val (λ C' arg er=>by subst er;exact hQ) λ vs aB sl2 er hs G1 D1 t cs s1 k R1 ht hz=>?_) rfl Lq
  subst er
  refine qa C (C.hh h0) h1 hs R1 ht (ly hz) (ot hz (fV hs)) λ D' s' R2=>hQ G1 D' s' k R2
 |some names=>
  refine Assign_Tuple_swapped (val (λ C' arg er=>by subst er;exact hQ) λ vs aB sl2 er hs G1 D1 t cs s1 k R1 ht hz=>?_) rfl Lq
  subst er
  refine bJ (λ ps P=>?_)<|wO (env:=cx.env) is h1 (fV hs) (ly hz) hs
  have hn:=pC P.ids hw
  subst hn
  have cw:(ps.map (·.id)).length=cs.toArray.size:=by rw[<-P.Kk];simp
  rw[cw]
  refine unpackItems_tuple (C.hh h0) ht λ h' he=>?_
  have R2:Rel W cx g.rw G1 D1 O aB { s1 with heap:=h' }:=R1.mono (R1.st.extBut (by
   cases q:G1.get? s1.heap.objs.size with
   |none=>rfl
   |some o=>exact absurd (Heap.lt_size (R1.st.led.stays _ _ q)) (Nat.lt_irrefl _)) (cW R1.st.led) he) (StaysIn.refl _)
  have e:cs.toArray.toList.reverse=ps.reverse.map (·.c):=by rw[List.map_reverse,P.Kk]
  rw[e]
  have each:∀(qs:List q9),dm (λ(t:Value->Sem Unit) (p:q9)=>∀{Q:Unit->Shared->Prop} {s:Shared},wpAny (Md W) cx.A (storeName cx.env p.id p.c) Q E s->wpAny (Md W) cx.A (t p.c) Q E s) ((qs.map (·.id)).map λ n=>bindName cx.env n) qs:=by
   intro qs
   induction qs with
   |nil=>exact .nil
   |cons q qs ih=>exact .cons (λ h=>bindName_ h) ih
  have:=each ps.reverse
  rw[List.map_reverse] at this
  refine l7 C R2 (λ p hp=>?_) this λ D' s' R3=>?_
  ·have hp:=List.mem_reverse.mp hp
   refine⟨(P.ok p hp).1,(P.ok p hp).2,ot hz (fV hs) p ?_⟩
   rw[<-P.MY,<-P.NV,<-P.Kk]
   rw[BJ]
   exact UR hp
  ·rw[je (by rw[P.MY];exact jf h2),<-P.NW] at R3
   exact hQ G1 D' s' k R3
end
theorem St.two{a b:Addr}{da db:MO}{h':Heap}{t:Nat}(x:St W G ([(a,da),(b,db)]++D) s)(k:∀c o,c≠a->c≠b->s.heap.get? c=some o->h'.get? c=some o)(ha:qv G h' a RD)(hb:qv G h' b RE):
  St W G ([(a,RD),(b,RE)]++D) { s with heap:=h',toks:=t }:=by
 have nd:=x.led.nodup
 have e:(([(a,da),(b,db)]++D).map (·.1))=a::b::D.map (·.1):=rfl
 rw[e,List.nodup_cons,List.nodup_cons] at nd
 refine rS (λ n1 n2 n3=>?_) nd;clear nd
 refine⟨⟨λ c o ec=>?_,λ p hp=>?_,λ p hp=>?_,?_⟩,x.gD,x.top,x.gens,x.os⟩
 ·refine k c o (λ q=>?_) (λ q=>?_) (x.led.stays _ _ ec)
  ·have:=x.led.free (a,da) (UG ..);rw[q] at ec;rw[this] at ec;exact bj ec
  ·have:=x.led.free (b,db) (UK _ (UG ..));rw[q] at ec;rw[this] at ec;exact bj ec
 ·rcases List.mem_append.mp hp with hp|hp
  ·rcases List.mem_cons.mp hp with rfl|hp
   ·exact ha
   ·rw[List.mem_singleton.mp hp];exact hb
  ·refine(x.led.has p (UE _ hp)).keep λ o ho=>k _ _ (λ q=>?_) (λ q=>?_) ho
   ·exact n1 (by rw[<-q];exact UK _ (UR (f:=λ p:Addr×MO=>p.1) hp))
   ·exact n2 (by rw[<-q];exact UR (f:=λ p:Addr×MO=>p.1) hp)
 ·rcases List.mem_append.mp hp with hp|hp
  ·rcases List.mem_cons.mp hp with rfl|hp
   ·exact x.led.free (_,da) (UG ..)
   ·rw[List.mem_singleton.mp hp];exact x.led.free (b,db) (UK _ (UG ..))
  ·exact x.led.free p (UE _ hp)
 ·show(a::b::D.map (·.1)).Nodup
  rw[List.nodup_cons,List.nodup_cons]
  exact⟨n1,n2,n3⟩
theorem vD:∀(n:Nat) (vs:List V),(gb n vs).length=vs.length
 |_,[]=>rfl
 |n,v::vs=>by show(gb (n+1) vs).length+1=_;rw[vD];rfl
theorem ku:∀(n:Nat) (vs:List V) (i:Nat),(gb n vs)[i]?=vs[i]?.map λ x=> .seq true [.int ((n+i:Nat):Int),x]
 |_,[],i=>rfl
 |n,v::vs,0=>by
  show some _=some _
  simp
 |n,v::vs,i+1=>by
  show(gb (n+1) vs)[i]?=vs[i]?.map _
  rw[ku]
  have:n+1+i=n+(i+1):=by lia
  rw[this]
theorem yH{elts:List Expr}{x1}{px:Pos}{vs:List V}{c:Value}{Q:Value->Shared->Prop}(hh:A.handled=none)(x:St W G D s)(r:Rp W G (.seq false vs) c)
  (hQ:∀it cK s',i8 W A G (.Tuple elts x1 px) it (gb 0 vs) cK true->St W G (cK 0++D) s'->Q it s'):wpAny (Md W) A (PySem.call (.type "enumerate") [c]) (λ it s'=>wpAny (Md W) A (pyIter it) Q E s') E s:=by
 simp only [Rp,Rep] at r
 refine ew (λ l items z2 h1 h2=>?_) r;clear r;subst z2
 refine call_enumerate_list (x.seq h1).isList λ h' hE hI jX hk=>?_
 refine wpAny_pyIter_enum hE ?_
 let e:=s.heap.objs.size+1
 let it:=s.heap.objs.size
 let Pe:Nat->Obj->Prop:=λ i o=>∃old,o={ cls:= .type "enumerate",dict:=none,data:= .fields #[.none,.bool false,.ref it,rawInt (i:Int),.none,old],slots:=#[] }
 let Pi:Nat->Obj->Prop:=λ i o=>o.cls= .type "list_iterator"/\o.data= .fields #[.ref l,.int i 0]
 have y:St W G D { s with heap:=h' }:=x.keeps hk
 have hG:∀a,s.heap.objs.size<=a->G.get? a=none:=λ a ha=>by
  cases q:G.get? a with
  |none=>rfl
  |some o=>exact absurd (Heap.lt_size (x.led.stays _ _ q)) (Nat.not_lt.mpr ha)
 have et:e≠it:=by show s.heap.objs.size+1≠s.heap.objs.size;lia
 have y1:St W G ((it,MO.any (Pi 0))::D) { s with heap:=h' }:=y.add (kS x.led (Nat.le_refl _)) (hG _ (Nat.le_refl _)) hI
 have y2:St W G ([(e,MO.any (Pe 0)),(it,MO.any (Pi 0))]++D) { s with heap:=h' }:=y1.add (λ hm=>by
  rcases List.mem_cons.mp hm with h|h
  ·exact et h
  ·exact kS x.led (Nat.le_succ _) h) (hG _ (Nat.le_succ _)) ⟨_,hE,.none,rfl⟩
 refine hQ (.ref e) (λ i=>[(e,.any (Pe i)),(it,.any (Pi i))]) _ ⟨λ i p hp=>?_,?_⟩ y2
 ·rcases List.mem_cons.mp hp with rfl|hp
  ·exact⟨_,rfl⟩
  ·rw[List.mem_singleton.mp hp];exact⟨_,rfl⟩
 ·intro G1 DD s1 i Q' E' k hi z hq hn
  obtain⟨oe,NX,old,rfl⟩:∃o,s1.heap.get? e=some o/\Pe i o:=z.led.has (e,.any (Pe i)) (UG ..)
  have hit:s1.heap.IsListIter it l i:=z.led.has (it,.any (Pi i)) (UK _ (UG ..))
  have hl:s1.heap.IsList l items.toArray:=(h1.keeps (StaysIn.trans k z.led.stays)).isList
  have cw:=h2.length
  cases hv:vs[i]? with
  |none=>
   refine d8 (λ _ EN=>?_)<|hn (by rw[ku,hv];rfl)
   refine wpAny_pyNext_enum_end hh NX hit hl ?_ λ T5 he=>EN _ ?_
   ·rw[List.getElem?_toArray,List.getElem?_eq_none_iff,cw]
    exact List.getElem?_eq_none_iff.mp hv
   ·have nd:=z.led.nodup
    have e0:(([(e,MO.any (Pe i)),(it,MO.any (Pi i))]++DD).map (·.1))=e::it::DD.map (·.1):=rfl
    rw[e0,List.nodup_cons,List.nodup_cons] at nd
    exact(z.sub (US _ _)).extBut (z.led.free (it,.any (Pi i)) (UK _ (UG ..))) nd.2.1 he
  |some v=>
   refine aV (λ c hc rc=>?_)<|aL.get h2 hv
   refine wpAny_pyNext_enum_item NX hit hl (x:=c) (by rw[List.getElem?_toArray];exact hc) et λ h2 RF Lr RG T6 Iu=>?_
   refine wpAny_letOwnedTupleGo_enum RF λ h3 MZ Lu=>?_
   replace Lu:Heap.SameBut e h2 h3:=Lu
   have gA:e<s1.heap.objs.size:=Heap.lt_size NX
   have T7:it<s1.heap.objs.size:=by refine aV (λ o ho _=>?_) hit;clear hit;exact Heap.lt_size ho
   have NY:∀b o,b≠e->b≠it->s1.heap.get? b=some o->h3.get? b=some o:=λ b o b1 b2 hb=>Lu.extBut b o b1 (Iu b o b1 b2 hb)
   have NZ:h3.IsListIter it l (i+1):=by refine aV (λ o ho r=>?_) Lr;clear Lr;exact⟨o,Lu.extBut _ _ (Ne.symm et) ho,r⟩
   have z3:St W G1 ([(e,MO.any (Pe (i+1))),(it,MO.any (Pi (i+1)))]++DD) { s1 with heap:=h3,toks:=s1.toks+1 }:=by
    refine z.two NY ⟨_,MZ,c,?_⟩ NZ
    rfl
   have hk:s1.heap.objs.size∉aQ ([(e,MO.any (Pe (i+1))),(it,MO.any (Pi (i+1)))]++DD):=λ hm=>by
    have:s1.heap.objs.size∈aQ ([(e,MO.any (Pe i)),(it,MO.any (Pi i))]++DD):=hm
    exact cW z.led this
   have RH:SeqAt h3 true s1.heap.objs.size [.int i s1.toks,c]:=⟨_,0,Lu.extBut _ _ (Nat.ne_of_gt gA) RG,rfl,rfl⟩
   have rr:dS W G1 [.int (i:Int),v] [.int i s1.toks,c]:=by
    refine aL.cons c0 (aL.one (Rep.keeps k _ rc))
   refine rS (λ y4 k4 r4=>?_)<|z3.frozen RH hk rr
   exact hq _ _ _ _ (by rw[ku,hv,Nat.zero_add];rfl) k4 y4 r4
theorem vE{prog:Program}{w:World}{l:Addr}{items:List Value}{x:Value}{Q:Value->Shared->Prop}(hl:fu s.heap l items)
  (hQ:∀h',fu h' l (items++ [x])->Heap.SameBut l s.heap h'->Q .none { s with heap:=h' })(jX:items.toArray.size<=sizeLine):
  wpAny (model prog w) A (PySem.call (.builtin "list.append") [.ref l,x]) Q E s:=by
 obtain⟨o,ho,hc,⟨n,hd⟩,jb⟩:=hl
 refine list_append_plainL (its:=items.toArray) ⟨o,n,ho,hc,jb,hd⟩ (λ h' hp hs=>hQ h' ?_ hs) jX
 refine Ku (λ o' n' e1 e2 e3 e4=>?_) hp;clear hp
 exact⟨o',e1,e2,⟨n',by rw[e4];simp⟩,e3⟩
theorem sV{prog:Program}{w:World}{l:Addr}{items:List Value}{k:Int}{t:Tok}{v:Value}{Q:Unit->Shared->Prop}(hl:fu s.heap l items)
  (h0:0<=k)(Lv:k<2^63)(hn:k<items.length)(hQ:∀h',fu h' l (items.set k.toNat v)->Heap.SameBut l s.heap h'->Q () { s with heap:=h' }):
  wpAny (model prog w) A (setItem (.ref l) (.int k t) v) Q E s:=by
 obtain⟨o,ho,hc,⟨ne,hd⟩,jb⟩:=id hl
 unfold setItem
 try with_reducible refine wpAny_holding ?_
 first|refine UC (UL ?_)|skip
 refine UC (wpAny_sequenceKey hl.isList.typeIs (by decide) ?_)
 refine UC (wpAny_callSpecial?_slot (name:=Str.ofString "__setitem__") hl.isList.typeIs slot_list_setitem
  (wpAny_call_entry slot_list_setitem hl.isList.typeIs entry_list_setitem ?_ (args_list_setitem _ _ _)))
 show wpAny _ _ (Builtin.List.listSubscript? (.int k t) >>=_) _ _ s
 refine UC (wpAny_listSubscript_int (fitsIndex_of h0 Lv) ?_)
 clear Lv
 refine bJ (λ j z1=>?_)<|Int.eq_ofNat_of_zero_le h0;subst z1
 have hj:j<items.toArray.size:=by simp only [List.size_toArray];lia
 have pk:items.toArray[j]?=some items.toArray[j]:=Array.getElem?_eq_getElem hj
 show wpAny _ _ ((seqItemAt l j >>=λ r=>pure (r.map (j, ·))) >>=_) _ _ s
 refine UC (UC (wpAny_seqItemAt ho hd (UL ?_)))
 rw[pk]
 show wpAny _ _ (setSeqItemAt l j v >>=_) _ _ s
 refine bJ (λ n' IF=>?_)<|Obj.data_mapSeq hd (·.setIfInBounds j v)
 have Lw:fu (s.heap.update l (Obj.mapSeq (·.setIfInBounds j v))) l (items.set j v):=by
  refine⟨_,Heap.get?_update_self _ ho (Obj.isFreed_of_seq IF),(Obj.cls_mapSeq ..).trans hc,⟨n',?_⟩,?_⟩
  ·rw[IF];simp
  ·obtain⟨a,b,c,d⟩:=o
   cases c<;> exact jb
 refine UC (wpAny_setSeqItemAt ho hd ?_)
 first
  |exact UC (UL (UL ⟨.none,rfl,UL (hQ _ Lw (Heap.SameBut.update ..))⟩))
  |exact UL ⟨.none,rfl,UL (hQ _ Lw (Heap.SameBut.update ..))⟩
theorem dS.set:∀{xs:List V} {items:List Value} {v:V} {c:Value} (j:Nat),dS W G xs items->Rp W G v c->dS W G (xs.set j v) (items.set j c)
 | [],items,v,c,j,h,_=>by
  simp only [dS,aL] at h
  subst h
  exact aL.nil
 |x::xs,items,v,c,j,h,hv=>by
  simp only [dS,aL] at h
  refine ew (λ d ds z2 h1 h2=>?_) h;clear h;subst z2
  cases j with
  |zero=>exact aL.cons hv h2
  |succ j=>exact aL.cons h1 (dS.set j h2 hv)
theorem changed{i:Nat}{z z':Slot}{xs xs':List V}(x:Rel W cx rw G D O sl s)(h:sl[i]?=some z)(hz:(z= .own xs/\z'= .own xs')\/(z= .aD xs/\z'= .aD xs')){p:Pl}{a:Addr}{items bO:List Value}(hp:cx.pl[i]?=some (some p))(ha:At G D p (.ref a))(hm:(a,MO.list i items)∈D)
  {h':Heap}(hl:fu h' a bO)(hs:Heap.SameBut a s.heap h')(r:dS W G xs' bO):Rel W cx rw G (Led.put D a (.list i bO)) O (sl.set i z') { s with heap:=h' }:=by
 have y:St W G (Led.put (D++O) a (.list i bO)) { s with heap:=h' }:=⟨x.st.led.put hs.extBut (by rw[bD];exact UD _ (cA hm)) hl,x.st.gD,x.st.top,x.st.gens,x.st.os⟩
 rw[k7 x.st.led.nodup (cA hm)] at y
 refine(x.wB (z:=z') (b':=xs') hp ha hm y (StaysIn.refl _) ?_ r).1
 rcases hz with ⟨_,rfl⟩|⟨rfl,rfl⟩
 ·exact .inl rfl
 ·refine .inr ⟨rfl,?_⟩
  obtain⟨p',kT,GC,h1,_⟩:=x.get h (by intro e;cases e)
  rw[hp] at kT;cases kT
  have:=At.unique x.st.led h1.left ha.left
  cases this;rfl
theorem sW(x:Rel W cx rw G D O sl s){i:Nat}(h:listS sl i=true):∃p a,cx.pl[i]?=some (some p)/\At G D p (.ref a):=by
 unfold listS at h
 split at h
 ·rename_i e
  obtain⟨p,hp,a,it,h1,_⟩:=x.get e (by intro e;cases e)
  exact⟨p,a,hp,h1⟩
 ·rename_i e
  obtain⟨p,hp,it,h1,_⟩:=x.get e (by intro e;cases e)
  exact⟨p,_,hp,h1⟩
 ·exact kh h
section
variable(hX:∀x,cE W n call lc x)
include hX
theorem Fv(K:WdOk2 W){i j:Nat}{x:X}{b:Ss}(hb:jY W n Wn call lc b):nB W n Wn call lc (.xS i j x b):=λ g d9 hc cx G D O sl s r Q E C Rm R0 h hQ=>by
 replace hc:u5 W.P i j (aI W.P lc x g) (c9 W.P lc b g) g d9=true:=hc
 replace h:(aW (ev call x sl) λ a sl=>match a with
  | .seq false ys=>if dO ys then bW (aU call Wn b) (λ x sl=>match x with| .seq true vs=>cz sl [i,j] (vs.map .val)|_=>none) (gb 0 ys) sl else none
  |_=>none)=some r:=h
 refine AB (λ id p0 jd p1 k tp pd p2 v cp b' pos hf h6 h7=>?_) d9 hc
 have h1:=al (al (al (al hf)))
 have h2:=UH (ar (al (al (al hf))))
 have h3:=ar (al (al hf))
 have h4:=ar (al hf)
 have h5:=ar hf
 have ht:kR g [i,j] [.Name id p0,.Name jd p1]=true:=by
  show(g.de i id&&(g.de j jd&&true))=true
  rw[h3,h4];rfl
 refine wpAny_For ?_ (gX rfl)
 refine wpAny_Call_ofName (mE K.toWdOk C R0.st h5 Boot.«enumerate» ?_)
 show wpAny _ _ (callWith _ _ [] _ []) _ _ _
 refine PyProof.Rows.callWith_type1 (wpAny_items_cons ((hX x).iD h6 C Rm R0 h hQ λ a aB G1 D1 c s1 h k1 k2 R1 rc hQ=>wpAny_items_nil ?_) (aJ h6 _ _)) (aJ h6 _ _) rfl
 split at h
 ·rename_i vs
  split at h
  ·refine yH (elts:=[.Name id p0,.Name jd p1]) (x1:=k) (px:=tp) (C.hh h1) R1.st rc λ it cK s2 I y2=>?_
   exact jc (de:=λ x sl=>match x with| .seq true vs=>cz sl [i,j] (vs.map .val)|_=>none) (loop:=bW (aU call Wn b) (λ x sl=>match x with| .seq true vs=>cz sl [i,j] (vs.map .val)|_=>none)) hb h7 C Rm I (λ{v} {G'} {D'} {O'} {a8} {sl2} {s'} {c} {Q'} {E'} R rv hs k=>by
    split at hs
    ·exact rg C (C.hh h1) ht hs R rv k
    ·cases hs) (λ a8 e=>⟨rfl,lx e⟩) (λ x xs a8=>rfl) h (R1.mono (y2.sub (US _ _)) (StaysIn.refl _)) y2 hQ
  ·exact bj h
 ·exact bj h
set_option tactic.hygienic true in
theorem Fw{q:Nat}{i x:X}:nB W n Wn call lc (.mW q i x):=λ g d9 hc cx G D O sl s r Q E C Rm R0 h hQ=>by
 replace hc:u3 q (aI W.P lc i g) (aI W.P lc x g) g d9=true:=hc
 replace h:(aW (ev call x sl) λ v sl=>if listS sl q then aW (ev call i sl) λ j sl=>match j with
  | .int j=>(sd sl q j v).map F.next
  |_=>none
  else none)=some r:=h
 refine Av (λ id p0 i' p1 v0 pos h1 h2 h3 h4 h5 h6=>?_) d9 hc
 refine wpAny_Assign_Subscript ((hX x).iD h6 C Rm R0 h hQ λ v aB G1 D1 cv s1 h k1 k2 R1 rv hQ=>?_) (by
  cases v0<;> first|rfl|exact absurd h4 UI)
 split at h
 ·rename_i Eg
  refine fb (λ p a hp fD=>?_)<|sW R1 Eg
  refine ed C R1 h2 hp fD ?_
  refine(hX i).iD h5 C Rm R1 h hQ λ j sl2 G2 D2 cj s2 h k3 k4 R2 rj hQ=>?_
  have BK:=fD.keep k3 k4
  split at h
  ·rename_i j
   refine aV (λ lZ e1 z2=>?_)<|Option.map_eq_some_iff.mp h;subst z2
   simp only [Rp,Rep] at rj
   refine bJ (λ t z1=>?_) rj;clear rj;subst z1
   have go:∀{z z':Slot} {xs:List V},sl2[q]?=some z->((z= .own xs/\z'= .own (xs.set j.toNat v))\/(z= .aD xs/\z'= .aD (xs.set j.toNat v)))->dO xs=true->0<=j->j<xs.length->lZ=sl2.set q z'->
     wpAny (Md W) cx.A (setItem (.ref a) (.int j t) cv) (λ _=>Q .next) E s2:=by
    intro z z' xs hz PS ng h0 hn e3
    have KR:sl2[q]?=some (.own xs)\/sl2[q]?=some (.aD xs):=by rcases PS with ⟨rfl,_⟩|⟨rfl,_⟩<;> first|exact .inl hz|exact .inr hz
    refine fY (λ items hm rb hl=>?_)<|gV R2 KR hp BK
    have cw:=aL.length rb
    have gA:=eW ng
    refine sV hl h0 (by lia) (by rw[cw];exact hn) λ h' ye hs=>?_
    have:=changed (xs':=xs.set j.toNat v) R2 hz PS hp BK hm ye hs (dS.set _ rb (Rep.keeps k3 _ rv))
    subst e3
    exact hQ G2 _ _ (StaysIn.refl _) this
   unfold sd at e1
   split at e1
   ·rename_i xs e
    split at e1
    ·rename_i ng
     simp only [Bool.and_eq_true,decide_eq_true_eq] at ng
     replace e1:=si e1;subst e1
     exact go e (.inl ⟨rfl,rfl⟩) ng.1.1 ng.1.2 ng.2 rfl
    ·exact bj e1
   ·rename_i xs e
    split at e1
    ·rename_i ng
     simp only [Bool.and_eq_true,decide_eq_true_eq] at ng
     replace e1:=si e1;subst e1
     exact go e (.inr ⟨rfl,rfl⟩) ng.1.1 ng.1.2 ng.2 rfl
    ·exact bj e1
   ·exact bj e1
  ·exact bj h
 ·exact bj h
set_option tactic.hygienic true in
theorem IU{q:Nat}{x:X}:nB W n Wn call lc (.app q x):=λ g d9 hc cx G D O sl s r Q E C Rm R0 h hQ=>by
 replace hc:Aw q (aI W.P lc x g) g d9=true:=hc
 replace h:(if listS sl q then aW (ev call x sl) λ v sl=>(se sl q v).map F.next else none)=some r:=h
 refine ED (λ id p0 apos v0 RI RJ h0 h1 h2 h4 h5 h6=>?_) d9 hc
 split at h
 ·rename_i Eg
  refine fb (λ p a hp fD=>?_)<|sW R0 Eg
  have PT:∃items,fu s.heap a items:=by
   unfold listS at Eg
   split at Eg
   ·rename_i xs e
    refine fY (λ items hm rb hl=>?_)<|gV R0 (.inl e) hp fD
    exact⟨items,hl⟩
   ·rename_i xs e
    refine fY (λ items hm rb hl=>?_)<|gV R0 (.inr e) hp fD
    exact⟨items,hl⟩
   ·exact kh Eg
  refine Ku (λ N3 o ho lh _ IV=>?_) PT;clear PT
  refine wpAny_Expr_any ?_ (by unfold interactive;rw[C.scope,C.kind];rfl) rfl
  refine KV h4 rfl (λ r=>aJ h6 r _) (ed C R0 h2 hp fD ?_)
  intro pl
  refine getMethod_list_append ho lh IV ?_
  refine callWith_method1 (wpAny_items_cons ((hX x).iD h6 C Rm R0 h hQ λ v aB G1 D1 cv s1 h k1 k2 R1 rv hQ=>wpAny_items_nil ?_) (aJ h6 _ _)) (aJ h6 _ _) rfl
  have BK:=fD.keep k1 k2
  refine aV (λ lZ e1 z2=>?_)<|Option.map_eq_some_iff.mp h;subst z2
  unfold se at e1
  split at e1
  ·rename_i xs e
   split at e1
   ·rename_i ng
    replace e1:=si e1;subst e1
    refine fY (λ items hm rb hl=>?_)<|gV R1 (.inl e) hp BK
    have cw:=aL.length rb
    have gA:=eW ng
    show wpAny _ _ (PySem.call (.builtin "list.append") [.ref a,cv]) _ _ _
    refine vE hl (λ h' ye hs=>?_) (by rw[sizeLine_eq];simp only [List.size_toArray];lia)
    exact hQ G1 _ _ (StaysIn.refl _) (changed (xs':=xs++ [v]) R1 e (.inl ⟨rfl,rfl⟩) hp BK hm ye hs (aL.append rb (aL.one rv)))
   ·exact bj e1
  ·exact bj e1
 ·exact bj h
set_option tactic.hygienic true in
theorem Fx{x:X}:nB W n Wn call lc (.zK x):=λ g d9 hc cx G D O sl s r Q E C Rm R0 h hQ=>by
 replace hc:vb (aI W.P lc x g) g d9=true:=hc
 replace h:(match ev call x sl with|some (.exc C arg)=>some (F.exc C arg)|_=>none)=some r:=h
 refine AI (λ t v vs k p pos h1 h2=>?_) d9 hc
 split at h
 ·rename_i C' arg e
  replace h:=si h;subst h
  rw[PyProof.Rows.exec_Assign]
  refine UC (wpAny_standAt ?_)
  rw[show swapsWithSole [t] (.Tuple (v::vs) k p) pos.line cx.env=pure false from rfl]
  refine UC (UL ?_)
  rw[if_neg (by decide)]
  refine UC (PyProof.Rows.Tuple_ (wpAny_items_cons ?_ (aJ h2 _ _)))
  exact(hX x) g _ h2 cx G D O sl s _ _ _ C Rm R0 e hQ
 ·exact bj h
end
theorem Rel.Lx{L:Addr}{d:MO}(x:Rel W cx rw G D ([(L,d)]++O) sl s)(h1:∀env∈cx.stack,env.frame≠some L)(h2:∀q∈W.tabs,q.2.1≠L):Rel W cx rw G D O sl s:=by
 have dn:∀p,p∈D++([(L,d)]++O)->p.1≠L->p∈D++O:=λ p hp hn=>by
  rcases List.mem_append.mp hp with h'|h'
  ·exact UD _ h'
  ·rcases List.mem_append.mp h' with h'|h'
   ·rw[List.mem_singleton.mp h'] at hn;exact absurd rfl hn
   ·exact UE _ h'
 exact⟨x.st.sub (List.Sublist.append (List.Sublist.refl _) (US _ _)),x.len,x.slots,x.place,
  ⟨λ env he=>let ⟨e1,L',m,e2,e3⟩:=x.frames.1 env he;⟨e1,L',m,e2,dn _ e3 λ e=>h1 env he (by rw[e2];exact congrArg some e)⟩,λ q hq=>dn _ (x.frames.2 q hq) (h2 q hq)⟩,x.here⟩
theorem vF{elt:Expr}{gens:List Comprehension}{scope:Scope}{p px:Pos}{id:Str}{line:Nat}{env:Env}:∃b,swapsWith (.ListComp elt gens scope p) (some (.Name id px)) line env=pure b:=⟨_,rfl⟩
section
variable(hX:∀x,cE W n call lc x)
include hX
theorem Fy(K:WdOk W){j:Nat}{x:X}:nB W n Wn call lc (.uC j x):=λ g d9 hc cx G D O sl s r Q E C Rm R0 h hQ=>by
 replace hc:uZ j (aI W.P lc x g) g d9=true:=hc
 cases x with
 |fG i m body=>
  replace h:(aW (ev call (.fG i m body) sl) λ v sl=>(bg sl j (.val v)).map F.next)=some r:=h
  refine Ap (λ id p0 v pos Kl h2 h3 h4=>?_) d9 hc
  have Eh:=h4
  revert Eh
  refine sq (λ elt t px pd rp n' p1 scope vp c1 c6 c7 RK Eh=>?_) v (h4:qM W.P i (aI W.P lc m g) (aI W.P lc body) g v=true)
  refine bJ (λ b Lq=>?_)<|vF (elt:=elt) (gens:=[⟨.Name t px,.Call (.Name pd rp) [n'] [] p1,[],0⟩]) (scope:=scope) (p:=vp) (px:=p0) (id:=id) (line:=pos.line) (env:=cx.env)
  cases b with
  |false=>
   refine wpAny_Assign_Name ((hX (.fG i m body)).iD Eh C Rm R0 h hQ λ v aB G1 D1 c s1 h k1 k2 R1 rc hQ=>?_) Lq
   refine aV (λ sl2 e1 z2=>?_)<|Option.map_eq_some_iff.mp h;subst z2
   exact vB C R1 Kl e1 rc hQ
  |true=>
    have CK:=l3 c1
    refine bJ (λ as lh=>?_)<|l4 C CK
    have K6:ev call (.fG i m body) sl=au (ev call m sl) λ a sl=>(bN [a]).bind λ ns=>au (compLoop i (ev call body) (ns.map .int) sl) λ vs sl=>some (R.ok (.seq false vs) (sl.set i .af)):=rfl
    rw[K6] at h
    rw[exec_Assign_Name_used _ _ _ _ Lq]
    refine UC (wpAny_standAt (UC ?_))
    show wpAny _ cx.A (do let _ <-comprehension (.ListComp elt [⟨.Name t px,.Call (.Name pd rp) [n'] [] p1,[],0⟩] scope vp) scope cx.env _ (newList []) false (eval (.Call (.Name pd rp) [n'] [] p1) cx.env) (some (assign (.Name id p0) cx.env))) _ _ s
    refine UC (wpAny_mono (wpAny_comprehension_free (use:=some (assign (.Name id p0) cx.env)) (Q:=λ _ s'=>Q .next s') rfl (λ _=>rfl) (iB lh) CK.kind (ja CK) ?_) (λ _ s' hq=>UL (UL hq)) λ _ _ e=>e)
    show wpAny _ _ (eval (.Call (.Name pd rp) [n'] [] p1) cx.env) _ _ _
    have he:(aW (ev call m sl) λ a sl=>aW ((bN [a]).bind λ ns=>au (compLoop i (ev call body) (ns.map .int) sl) λ vs sl=>some (R.ok (V.seq false vs) (sl.set i .af))) λ v sl=>(bg sl j (.val v)).map F.next)=some r:=by
     cases hm:ev call m sl with
     |none=>rw[hm] at h;exact bj h
     |some rr=>rw[hm] at h;cases rr<;> exact h
    refine wpAny_Call_ofName (mE K C R0.st c6 Boot.«range» ?_)
    show wpAny _ _ (callWith _ _ [] _ []) _ _ _
    refine PyProof.Rows.callWith_type1 (wpAny_items_cons ((hX m).iD c7 C Rm R0 he hQ λ v aB G1 D1 c s1 h k1 k2 R1 rc hQ=>wpAny_items_nil ?_) (aJ c7 _ _)) (aJ c7 _ _) rfl
    cases hr:bN [v] with
    |none=>rw[hr] at h;exact bj h
    |some ns=>
    rw[hr] at h
    replace h:(aW (au (compLoop i (ev call body) (ns.map .int) aB) λ vs sl=>some (R.ok (V.seq false vs) (sl.set i .af))) λ v sl=>(bg sl j (.val v)).map F.next)=some r:=h
    cases e1:compLoop i (ev call body) (ns.map .int) aB with
    |none=>rw[e1] at h;exact bj h
    |some rr=>
    refine Ej (λ vs sl2 z2=>?_)<|i9 e1;subst z2
    rw[e1] at h
    replace h:(bg (sl2.set i .af) j (.val (.seq false vs))).map F.next=some r:=h
    refine aV (λ lZ e3 z2=>?_)<|Option.map_eq_some_iff.mp h;subst z2
    refine kr hr R1.st (aL.one rc) λ a b c m rr s2 t1 u1 v1 qR La Lc jX y2=>?_
    subst qR
    refine kq (target:= .Name t px) (fin:=true) (λ _=>C.hh CK.q) y2 La Lc jX λ it cK s3 I y3 lq=>?_
    have hw:g.rw=true:=CK.rw
    have Ld:Rel W cx true G1 D1 O aB s1:=hw▸R1
    have cw:((bK a c m).map V.int).length<100000:=by
     rw[oa];exact sP hr
    refine l6 (use:=some (assign (.Name id p0) cx.env)) (hX body) C CK Rm RK lh rfl I cw lq e1 (Ld.mono (y3.sub (US _ _)) (StaysIn.refl _)) y3 λ G' iw m' acc L s' k kd Rf rf Bu yx=>?_
    refine d8 (λ hj z1=>?_)<|fT e3;subst z1
    have Rg:Rel W cx g.rw G' iw O (sl2.set i .af) s':=hw▸Rf
    have RL:Rel W cx g.rw G' iw ([(L,MO.ns m')]++O) (sl2.set i .af) s':=Rg.more yx (StaysIn.refl _)
    refine PySem.wpAny_assign_Name (gf C RL (z:= .val (.seq false vs)) rfl Kl hj (fU C Kl) rf λ D3 s4 NY _ R3=>?_)
    refine⟨m',R3.st.led.has (L,.ns m') (UE _ (UD _ (UG ..))),λ h' hs=>?_⟩
    have nf:∀a,a∈aQ (iw++O)->a≠L:=λ a ha e=>Bu (e▸ha)
    have R4:Rel W cx g.rw G' D3 O ((sl2.set i .af).set j (.val (.seq false vs))) s4:=R3.Lx (λ env he e=>by
     obtain⟨_,L',m2,e2,e3⟩:=Rg.frames.1 env he
     rw[e2] at e
     exact nf _ (cA e3) (Option.some.inj e)) (λ q hq e=>nf _ (cA (Rg.frames.2 q hq)) e)
    have N4:L∉aQ (D3++O):=λ hm=>Bu (by
     rw[bD] at hm ⊢
     rw[NY] at hm;exact hm)
    have y5:St W G' (D3++O) { s4 with heap:=h' }:=R4.st.extBut (R3.st.led.free (L,.ns m') (UE _ (UD _ (UG ..)))) N4 hs.extBut
    exact hQ G' D3 _ k (R4.mono y5 (StaysIn.refl _))
 |_=>exact bj h
end
theorem sX{M:Model}{env:Env}{f:Value}{pos:Pos}{e:Expr}{Q:Args->Shared->Prop}(he:starEach (e::[]) env=(false,eval e env)::starEach [] env)(h:wpAny M A (eval e env) (λ v s₁=>Q ⟨[v],[]⟩ s₁) E s):
  wpAny M A (evalArgs f true (backTo pos (starEach [e] env)) []) Q E s:=by
 have h2:wpAny M A (spliced (backTo pos (starEach [e] env))) (λ vs s'=>Q ⟨vs,[]⟩ s') E s:=wpAny_items_cons (wpAny_mono h (λ v s₁ h₁=>wpAny_items_nil h₁) λ _ _ x=>x) he
 rw[he] at h2 ⊢
 exact evalArgs_plain h2
structure Km where
 nm:Str
 q:Str
 N:Addr
 bs:List Value
 sn:List Str
 sub:List Value
 ab:Bool
 col:Option Bool
 dd:Option Addr
 k0:Option Value
 k1:Option Value
 k2:Option Value
 k3:Option Value
 k5:Option Value
noncomputable def BM(C:Addr)(a:Km)(bm:List Value)(nj:Bool)(newId:String):Obj:=excClassObj a.nm a.q C a.N a.bs bm nj a.sn a.sub a.ab a.col a.dd a.k0 a.k1 a.k2 a.k3 a.k5 newId
noncomputable def Made(W:Wd)(C:Addr)(arg:V)(A:Around)(G:Heap)(D:Led)(s:Shared)(c:Value):Prop:=
 ∀{Q:Value->Shared->Prop} {E:Value->Shared->Prop},(∀G' ea s',G.StaysIn G'->St W G' D s'->mD W G' D s'.heap ea C arg .fresh->Q (.ref ea) s')->wpAny (Md W) A (PySem.call (.ref C) [c]) Q E s
noncomputable def nC(W:Wd):Prop:=(∃a bm hd ni,W.K.lookup W.P.bad=some (BM W.P.bad a bm hd ni))/\
 ∀{A:Around} {G:Heap} {D:Led} {stack:List Env} {s:Shared} {i:Int} {c:Value},St W G D s->A.frames=some stack->dT W stack D->A.handled=none->dk 1 A->Rp W G (.int i) c->Made W W.P.bad (.int i) A G D s c
structure WdOk3(W:Wd):Prop extends WdOk2 W where
 bad:nC W
 yc:∀p∈W.P.subs,∀C∈p.2,C∈W.P.bad::W.P.fN
theorem sY{ea:Addr}{C:Nat}{arg:V}{tb:Tb}(y:St W G D s)(f:mD W G D s.heap ea C arg tb):∃oe od vs,InstAt s.heap ea oe C od/\oe.data= .fields vs:=by
 obtain⟨out,free,oe,vs,he,hc,hd,jX,hx,ht⟩:=f
 rcases hx with ⟨_,h⟩|⟨d,m,v,h1,h2,h3,h4,od,h5⟩
 ·exact⟨oe,none,vs,⟨he,hc,by unfold notCls;rw[hd],by rw[h];trivial⟩,hd⟩
 ·exact⟨oe,some od,vs,⟨he,hc,by unfold notCls;rw[hd],by rw[h1];exact y.led.stays _ _ h5⟩,hd⟩
theorem BN{env:Env}{C:Nat}{x:Sem Value}{Q:Flow->Shared->Prop}(L:dK W.K C)(hh:A.handled=none)
  (h:wpAny (Md W) A x (λ v s₁=>∃ea G' D' arg,v= .ref ea/\St W G' D' s₁/\mD W G' D' s₁.heap ea C arg .fresh/\E (.ref ea) s₁) E s):wpAny (Md W) A (raiseStmt env (some x) none) Q E s:=by
 unfold raiseStmt
 refine UC (wpAny_mono h (λ v s₁ h₁=>?_) λ _ _ x=>x)
 refine Ec (λ ea G' D' arg z4 y f hE=>?_) h₁;clear h₁;subst z4
 refine D9 (λ oe od vs I hd=>?_)<|sY y f
 have X:=y.gD.keeps y.led.stays
 have GL:=looks_mroIn (M:=Md W) X L.ag
 have Nz:=looks_typeIn (M:=Md W) X L.typ
 obtain⟨out,free,T8,Q9,he,hc,IF,jX,hx,ht⟩:=f
 have e0:=I.at_
 rw[he] at e0;cases (e0)
 obtain⟨h0,gg,dd,tt,os⟩:=s₁
 have L0:=I.type (M:=Md W)
 have LI:Looks (Md W) h0 (isInstance (.ref ea) (.type "BaseException")) true:=L0.andThen GL
 have GN:∀c,oe.data≠ .cls c:=λ c e=>by rw[IF] at e;cases e
 refine UC (UL ?_)
 refine UC (wpAny_holding ?_)
 ·unfold excFromValue isExcClass
  refine UC (UC (ks_wpAny_isType_inst he GN ?_))
  refine UL ?_
  rw[if_neg (by decide)]
  refine UC (LI.at ?_)
  rw[if_pos rfl]
  refine UL ?_
  refine UC (ks_wpAny_isType_inst he GN ?_)
  rw[if_neg (by decide)]
  unfold raisedInstance
  refine UC (UC (L0.at (UC (Nz.at ?_))))
  rw[if_pos (by decide)]
  refine UL ?_
  unfold setFlight
  refine UC (UC (wpAny_field he IF ht ?_))
  rw[if_neg (by decide)]
  refine UL ?_
  exact wpAny_raiseNew_none hh hE
theorem BO{C:Nat}{cs:List Value}{h':Heap}{ea:Addr}(y:St W G D s)(hm:Heap.MadeExcOf s.heap h' ea (.ref C) cs):St W G D { s with heap:=h' }/\mD W G D h' ea C .none .fresh:=by
 refine fY (λ t h1 h2 h3=>?_)<|hm.there
 refine⟨y.keeps hm.keeps,λ hk=>?_,?_,_,_,h1,rfl,rfl,by simp,.no rfl rfl,rfl⟩
 ·refine aV (λ p hp e=>?_)<|List.mem_map.mp hk
  have:=(y.led.has p hp).lt
  have hn:=hm.new
  obtain⟨o,ho⟩:∃o,s.heap.get? p.1=some o:=by
   have:=y.led.has p hp
   cases hq:p.2 with
   |ns m=>rw[hq] at this;refine D9 (λ o es ep ho _=>?_) this;clear this;exact⟨o,ho⟩
   |cell v=>rw[hq] at this;refine aV (λ o ho _=>?_) this;clear this;exact⟨o,ho⟩
   |list t it=>rw[hq] at this;refine aV (λ o ho _=>?_) this;clear this;exact⟨o,ho⟩
   |tab q=>rw[hq] at this;refine aV (λ o ho _=>?_) this;clear this;exact⟨_,ho⟩
   |any P=>rw[hq] at this;refine aV (λ o ho _=>?_) this;clear this;exact⟨o,ho⟩
  rw[e,hn] at ho;exact bj ho
 ·cases q:G.get? ea with
  |none=>rfl
  |some o=>have:=y.led.stays _ _ q;rw[hm.new] at this;exact bj this
theorem vG(K:WdOk W)(x:W.K.In G){nm id:Str}{C0:Nat}(h:g.glob W.P nm (.cls C0) id=true):nsIn W.K mainGlobals nm=some (some (.ref C0)):=by
 unfold bQ.glob at h
 simp only [Bool.and_eq_true,decide_eq_true_eq] at h
 obtain⟨⟨rfl,h2⟩,h3⟩:=h
 refine aV (λ p hp h6=>?_)<|List.any_eq_true.mp h3
 simp only [Bool.and_eq_true,decide_eq_true_eq] at h6
 refine d8 (λ z0 h7=>?_) h6;clear h6;subst z0
 refine aV (λ c e1 e2=>?_)<|K.mx p hp
 rw[sI h7] at e2
 have:=e2 G x
 simp only [Rp,Rep] at this
 rw[this.1] at e1
 exact e1
theorem Ly{x:Str}{C:Addr}{IW:List Value}{ni:String}{mg:Str->Option Value}{h:Heap}{P:Prop}(o:OwnCls x C IW ni mg h)
  (k:∀a bm hd mN,h.get? C=some (BM C a bm hd ni)->h.Ns a.N mN->mN "__init__"=none->OwnTail h IW bm->P):P:=by
 obtain⟨_,bm,N,nm,q,bs,nj,sn,sub,ab,col,dd,k0,k1,k2,k3,k5,mN,hC,hN,Lz,TL⟩:=o
 exact k ⟨nm,q,N,bs,sn,sub,ab,col,dd,k0,k1,k2,k3,k5⟩ bm nj mN hC hN Lz TL
theorem IX{C:Addr}{a:Km}{bm:List Value}{hd:Bool}{mN:Str->Option Value}{c:Value}{Q:Value->Shared->Prop}(TL:OwnTail s.heap [.type "Exception",.type "BaseException",.type "object"] bm)(hC:s.heap.get? C=some (BM C a bm hd "Exception.__new__"))(hN:s.heap.Ns a.N mN)(Lz:mN "__init__"=none)
  (hQ:∀h' e,Heap.MadeExcOf s.heap h' e (.ref C) [c]->Q (.ref e) { s with heap:=h' }):wpAny (Md W) A (PySem.call (.ref C) [c]) Q E s:=by
 obtain⟨hp,gg,d,tk,os⟩:=s
 exact wpAny_call_exc_subT (rest:=[c]) PySem.F.excBase_Exception TL hC hN Lz hQ
theorem Fz(K:WdOk3 W){C0:Nat}{nm id:Str}{keep:Bool}{v:V}{c:Value}{stack:List Env}(hg:g.glob W.P nm (.cls C0) id=true)(hk:(if keep then decide (C0=W.P.bad) else W.P.fN.contains C0)=true)(x:St W G D s)(rU:A.frames=some stack)(sZ:dT W stack D)(hh:A.handled=none)(Rm:dk 1 A)
  (hv:keep=true->∃i,v= .int i)(rv:Rp W G v c):(∃a bm hd ni,s.heap.get? C0=some (BM C0 a bm hd ni))/\Made W C0 (if keep then v else .none) A G D s c:=by
 cases keep with
 |true=>
  rw[if_pos rfl,decide_eq_true_eq] at hk
  subst hk
  refine bJ (λ i z1=>?_)<|hv rfl;subst z1
  exact⟨K.bad.1.imp λ a=> .imp λ b=> .imp λ c=> .imp λ d ho=>x.led.stays _ _ (x.gD _ _ ho),K.bad.2 x rU sZ hh Rm rv⟩
 |false=>
  rw[if_neg (by decide)] at hk
  have hm:C0∈W.P.fN:=by simpa using hk
  refine Ly ((own_of_in x.gD x.top (vG K.toWdOk x.gD hg) (K.exc C0 hm)).keeps x.led.stays) λ a bm hd mN hC hN Lz TL=>⟨⟨a,bm,hd,_,hC⟩,λ{Q E} hQ=>IX TL hC hN Lz λ h' e RM=>?_⟩
  refine d8 (λ y f=>?_)<|BO x RM
  exact hQ G e _ (StaysIn.refl _) y f
theorem vH{C0:Nat}{keep:Bool}{a:V}{r:F}(h:(if keep then (match a with| .int i=>some (F.exc C0 (.int i))|_=>none) else some (F.exc C0 .none))=some r):(keep=true->∃i,a= .int i)/\r= .exc C0 (if keep then a else .none):=by
 cases keep with
 |false=>
  replace h:some (F.exc C0 .none)=some r:=h
  replace h:=si h;subst h;exact⟨(λ e=>nomatch e),rfl⟩
 |true=>
  rw[if_pos rfl] at h
  cases a<;> first|(cases h;done)|(replace h:=si h;subst h;exact⟨λ _=>⟨_,rfl⟩,rfl⟩)
theorem FA{M:Model}{C:Addr}{a:Km}{bm:List Value}{hd:Bool}{ni:String}{Q:Keeper->Shared->Prop}(hC:s.heap.get? C=some (BM C a bm hd ni))(hQ:Q .machine s):wpAny M A (keeperOf (.ref C)) Q E s:=by
 obtain⟨h,gg,d,tk,os⟩:=s
 exact wpAny_keeperOf_exc hC hQ
section
variable(hX:∀x,cE W n call lc x)
include hX
theorem FC(K:WdOk3 W){C0:Nat}{nm:Str}{keep:Bool}{x:X}:nB W (n+1) Wn call lc (.eR C0 nm keep x):=λ g d9 hc cx G D O sl s r Q E C Rm R0 h hQ=>by
 replace hc:u7 W.P C0 nm keep (aI W.P lc x g) g d9=true:=hc
 replace h:(aW (ev call x sl) λ v _=>if keep then (match v with
   | .int i=>some (F.exc C0 (.int i))
   |_=>none) else some (F.exc C0 .none))=some r:=h
 have RN:dk n cx.A:=⟨by have:=Rm.1;lia,by have:=Rm.2.1;lia,Rm.2.2⟩
 refine AF (λ id np v cp pos hq hg hk hx=>?_) d9 hc
 have hh:=C.hh hq
 have sQ:C0∈W.P.bad::W.P.fN:=by
  cases keep with
  |true=>rw[if_pos rfl,decide_eq_true_eq] at hk;rw[hk];exact UG ..
  |false=>rw[if_neg (by decide)] at hk;exact UK _ (by simpa using hk)
 have L:=K.look C0 sQ
 rw[arm_exec_Raise]
 refine UC (wpAny_standAt (BN (C:=C0) L hh ?_))
 refine UC (wpAny_mono (wpAny_Call_ofName (jM K.toWdOk C R0.st hg λ f rf=>?_)) (λ v s₃ h₃=>UC (wpAny_standAt (UL h₃))) λ _ _ x=>x)
 simp only [Rp,Rep] at rf
 refine d8 (λ z0 _=>?_) rf;clear rf;subst z0
 have IY:(backTo cp (starEach [v] cx.env)).any (·.1)=false:=by rw[aJ hx];rfl
 unfold callWith
 refine UC (wpAny_holding ?_)
 refine sX (aJ hx _ _) ((hX x).iD hx C RN R0 h hQ λ a aB G1 D1 ca s1 h k1 k2 R1 ra hQ=>UC (wpAny_standAt ?_))
 simp only [IY]
 refine d8 (λ hv z1=>?_)<|vH h;subst z1
 refine d8 (λ h1 hm=>?_)<|Fz K hg hk R1.st C.frames R1.frames hh ⟨by have:=Rm.1;lia,by have:=Rm.2.1;lia,Rm.2.2⟩ hv ra
 refine QB (λ a bm hd ni hC=>?_) h1
 refine UC (FA hC ?_)
 refine UC (hm λ G2 ea s2 kG y f=>UC (wpAny_holding (wpAny_point (UL ?_))))
 refine⟨ea,G2,_,_,rfl,y,f,hQ _ _ ⟨G2,D1,ea,_,rfl,kG,(R1.mono y kG).dropped,f,.inl rfl⟩⟩
end
theorem BP(K:WdOk2 W){p:Nat×List Nat}(hp:p∈W.P.subs){C:Nat}(hC:C∈W.P.bad::W.P.fN){M:Model}{h:Heap}{e:Addr}(X:W.K.In h)(LT:Looks M h (typeOf (.ref e)) (.ref C)):Looks M h (excMatches (.ref e) (.ref p.1)) (p.2.contains C):=by
 refine Ho (λ h1 h2 h3 h4=>?_)<|K.subs p hp
 have Lt:Looks M h (isInstance (.ref p.1) (.type "tuple")) false:=(looks_typeIn X h3).andThen (Looks.of_pure tc_notTuple)
 have Li:=iA (M:=M) X h1
 have Lb:=looks_mroIn (M:=M) X h2
 have Le:Looks M h (isExcClass (.ref p.1)) true:=Li.andThen Lb
 have Ls:=looks_mroIn (M:=M) X (h4 C hC)
 generalize p.2.contains C=b at Ls ⊢
 intro A Q E s k₀ q
 obtain⟨hh,g,d,tk,os⟩:=s
 have k:∀b o,h.get? b=some o->hh.get? b=some o:=k₀
 have Lt:=Lt.keeps k
 have Le:=Le.keeps k
 have Ls:=Ls.keeps k
 have LT:=LT.keeps k
 unfold excMatches
 refine UC (Lt.at ?_)
 dsimp only
 rw[if_neg UI]
 cases b<;> ((repeat (first|simp only [List.forIn_cons,List.forIn_nil,Bool.not_true,Bool.false_eq_true,if_false,if_true]|lk));exact q)
noncomputable def Cx.marked(cx:Cx)(ea:Addr):Cx:={ cx with A:=cx.A.mark (some (.ref ea)) }
theorem Rel.marked{ea:Addr}(x:Rel W cx rw G D O sl s):Rel W (cx.marked ea) rw G D O sl s:=⟨x.st,x.len,x.slots,x.place,x.frames,x.here⟩
theorem Rel.unmarked{ea:Addr}(x:Rel W (cx.marked ea) rw G D O sl s):Rel W cx rw G D O sl s:=⟨x.st,x.len,x.slots,x.place,x.frames,x.here⟩
theorem bS.marked{ea:Addr}(C:bS W cx g):bS W (cx.marked ea) { g with q:=false }:=
 ⟨C.scope,C.kind,C.globals,C.builtins,C.len,C.acc,C.inj,(λ e=>nomatch e),C.frames,C.top,C.cells,C.nd,C.tg,C.dJ,C.code⟩
theorem vI(hw:rw=true\/rw=false)(x:Rel W cx rw G D O sl s){h':Heap}{t:Nat}{m':Str->Option Value}(hn:h'.Ns cx.env.locals m')(hs:Heap.SameBut cx.env.locals s.heap h'):
  ∃D',Rel W cx rw G D' O (sl.map λ _=> .af) { s with heap:=h',toks:=t }:=by
 refine bJ (λ m hm=>?_)<|x.here
 have nd:=x.st.led.nodup
 have mY:(D.map (·.1)).Nodup:=by rw[List.map_append,List.nodup_append] at nd;exact nd.1
 have ha:=cA hm
 have y:St W G (Led.put (D++O) cx.env.locals (.ns m')) { s with heap:=h',toks:=t }:=⟨x.st.led.put hs.extBut (by rw[bD];exact UD _ ha) hn,x.st.gD,x.st.top,x.st.gens,x.st.os⟩
 rw[k7 nd ha] at y
 have qR:∀L m,(L,MO.ns m)∈D->∃m2,(L,MO.ns m2)∈Led.put D cx.env.locals (.ns m'):=λ L m hq=>by
  by_cases e:L=cx.env.locals
  ·subst e;exact⟨_,Led.bB.mpr (.inr ⟨rfl,ha⟩)⟩
  ·exact⟨m,Led.bB.mpr (.inl ⟨e,hq⟩)⟩
 have AX:∀b y,(∀m,y≠MO.ns m)->(b,y)∈D->(b,y)∈Led.put D cx.env.locals (.ns m'):=λ b y hy hb=>by
  refine Led.bB.mpr (.inl ⟨λ e=>?_,hb⟩)
  simp only at e;subst e
  exact hy _ (aG mY hb hm)
 have hd:=x.dropped
 refine⟨_,y,by simpa using x.len,λ i z p h1 _=>?_,λ e i p h=>?_,⟨λ env he=>?_,λ q hq=>?_⟩,qR _ _ hm⟩
 ·rw[List.getElem?_map] at h1
  cases q:sl[i]? with
  |none=>rw[q] at h1;exact bj h1
  |some y=>rw[q] at h1;replace h1:=si h1;subst h1;cases p<;> trivial
 ·have:=x.place e i p h
  cases p with
  |ai L nm=>refine bJ (λ m h1=>?_) this;clear this;exact qR _ _ h1
  |gd a=>refine bJ (λ m h1=>?_) this;clear this;exact⟨m,AX _ _ (λ _ e=>nomatch e) h1⟩
 ·obtain⟨e1,L,m,e2,e3⟩:=x.frames.1 env he
  refine⟨e1,L,?_⟩
  rcases List.mem_append.mp e3 with e3|e3
  ·refine bJ (λ m2 h=>?_)<|qR _ _ e3;exact⟨m2,e2,UD _ h⟩
  ·exact⟨m,e2,UE _ e3⟩
 ·rcases List.mem_append.mp (x.frames.2 q hq) with e3|e3
  ·exact UD _ (AX _ _ (λ _ e=>nomatch e) e3)
  ·exact UE _ e3
theorem IZ{ea:Addr}{C:Nat}{arg:V}{tb:Tb}(x:Rel W cx rw G D O sl s)(f:mD W G (D++O) s.heap ea C arg tb):∃G',G.StaysIn G'/\Rel W cx rw G' D O sl s/\Rp W G' (.exc C arg) (.ref ea):=by
 refine d8 (λ y k=>?_)<|x.st.freeze
 refine⟨_,k,x.mono y k,?_⟩
 obtain⟨out,free,oe,vs,he,hc,hd,jX,hx,ht⟩:=f
 have e1:(hideAll s.heap (aQ (D++O))).get? ea=some oe:=hideAll_get _ he out
 simp only [Rp,Rep]
 rcases hx with ⟨h0,h1⟩|⟨d,m,v,h1,h2,h3,h4,od,h5⟩
 ·subst h0;exact⟨ea,.none,rfl,.inl ⟨rfl,oe,vs,e1,hc,hd,h1⟩⟩
 ·exact⟨ea,v,rfl,.inr ⟨Rep.keeps k _ h4,oe,vs,e1,hc,hd,d,m,h1,h2.keeps k,h3,od,k _ _ h5,rfl⟩⟩
section
variable(W:Wd)(n Wn:Nat)(call:Hd)(lc:Nat->Scope->Expr->Bool)
noncomputable def LA(hs:Hs):Prop:=∀g BQ,nY W.P lc hs g BQ=true->g.rw=true->∀cx G D O sl s r Q E ea C arg,bS W cx g->dk n cx.A->Rel W cx g.rw G D O sl s->mD W G (D++O) s.heap ea C arg (.at .none)->C∈W.P.bad::W.P.fN->Ee call Wn hs C arg sl=some r->
 eJ W cx g.rw G O Q E r->wpAny (Md W) cx.A (handleBy (.ref ea) cx.env BQ) Q E s
end
noncomputable def BR(call:Hd)(Wn:Nat)(bind:Option Nat)(b:Ss)(C:Nat)(arg:V)(sl:List Slot):Option F:=match bind with
 |none=>(match aU call Wn b sl with
  |some (.exc _ _)=>none
  |r=>r)
 |some i=>(bg sl i (.val (.exc C arg))).bind λ sl=>match aU call Wn b sl with
  |some (.ret v sl)=>some (.ret v (sl.map λ _=> .af))
  |_=>none
theorem ta{C0:Nat}{nm:Str}{subs:List Nat}{bind:Option Nat}{b:Ss}{hs:Hs}{C:Nat}{arg:V}{sl:List Slot}:Ee call Wn (.cons C0 nm subs bind b hs) C arg sl=if subs.contains C then BR call Wn bind b C arg sl else Ee call Wn hs C arg sl:=by
 cases bind<;> rfl
theorem wQ(K:WdOk3 W){C:Nat}{arg:V}{r:F}:∀{hs:Hs} {BQ:List ExceptHandler} {sl:List Slot},nY W.P lc hs g BQ=true->Ee call Wn hs C arg sl=some r->C∈W.P.bad::W.P.fN
 | .nil,_,_,_,h=>by
  replace h:none=some r:=h
  cases h
 | .cons C0 nm subs bind b hs,BQ,sl,hc,h=>by
  replace hc:qO W.P C0 nm subs bind (c9 W.P lc b) (nY W.P lc hs g) g BQ=true:=hc
  refine su (λ id p1 n b1 b' p2 hs h1 h2 h3 h4 h5=>?_) BQ hc
  by_cases hm:subs.contains C=true
  ·exact K.yc (C0,subs) (by simpa using h2) C (by simpa using hm)
  ·refine wQ (r:=r) (arg:=arg) K h5 (sl:=sl) ?_
   rw[ta] at h
   rw[if_neg hm] at h
   exact h
theorem I0:LA W n Wn call lc .nil:=λ g BQ hc hw cx G D O sl s r Q E ea C arg Cx Rm R0 f hC h hQ=>by
 replace h:none=some r:=h
 cases h
set_option tactic.hygienic true in
theorem FD(K:WdOk3 W){C0:Nat}{nm:Str}{subs:List Nat}{bind:Option Nat}{b:Ss}{hs:Hs}(hb:jY W n Wn call lc b)(N5:LA W n Wn call lc hs):LA W n Wn call lc (.cons C0 nm subs bind b hs):=λ g BQ hc hw cx G D O sl s r Q E ea C arg Cx Rm R0 f hC h hQ=>by
 replace hc:qO W.P C0 nm subs bind (c9 W.P lc b) (nY W.P lc hs g) g BQ=true:=hc
 rw[ta] at h
 refine su (λ id np LB b1 b' pos wu h1 h2 h3 h4 h5=>?_) BQ hc
 have E3:(C0,subs)∈W.P.subs:=by simpa using h2
 refine D9 (λ oe od vs I hd=>?_)<|sY R0.st f
 have LX:=BP (M:=Md W) K.toWdOk2 E3 hC (R0.st.gD.keeps R0.st.led.stays) I.type
 refine wpAny_handleBy_cons ?_ (by intro q;cases q)
 refine codeAny_handlers_test (jM K.toWdOk Cx R0.st h1 λ c rc=>?_)
 simp only [Rp,Rep] at rc
 refine d8 (λ z0 _=>?_) rc;clear rc;subst z0
 refine LX.here ?_
 have Cm:bS W (cx.marked ea) { g with q:=false }:=Cx.marked
 have PU:dk n (cx.marked ea).A:=Rm
 by_cases hm:subs.contains C=true
 ·rw[if_pos hm] at h
  rw[hm]
  show codeAny _ _ _ _ _
  cases bind with
  |none=>
   cases LB with
   |some n0=>exact absurd (show false=true from h3) UI
   |none=>
   refine codeAny_handlers_suite (gW R0.st f λ s2 y2 f2=>?_)
   have R2:Rel W (cx.marked ea) g.rw G D O sl s2:=(R0.mono y2 (StaysIn.refl _)).marked
   simp only [BR] at h
   split at h
   ·exact bj h
   ·rename_i Fj
    refine hb { g with q:=false } (b1::b') h4 (cx.marked ea) G D O sl s2 r _ _ Cm PU R2 h ?_
    cases r with
    |next a8=>exact λ G3 D3 s3 k3 R3=>hQ G3 D3 s3 k3 R3.unmarked
    |cont a8=>exact λ G3 D3 s3 k3 R3=>hQ G3 D3 s3 k3 R3.unmarked
    |ret v a8=>exact λ G3 D3 c s3 k3 R3 rv=>hQ G3 D3 c s3 k3 R3.unmarked rv
    |exc C' I1=>exact absurd h (Fj C' I1)
  |some i=>
   cases LB with
   |none=>exact absurd (show false=true from h3) UI
   |some n0=>
   replace h3:(g.de i n0&&decide (g.kind n0=some .local))=true:=h3
   rw[Bool.and_eq_true,decide_eq_true_eq] at h3
   refine d8 (λ Kl N6=>?_) h3;clear h3
   simp only [BR] at h
   cases e1:bg sl i (.val (.exc C arg)) with
   |none=>rw[e1] at h;exact bj h
   |some sl2=>
   rw[e1] at h
   refine d8 (λ hi z1=>?_)<|fT e1;subst z1
   simp only [Option.bind_some] at h
   split at h
   ·rename_i v lZ e3
    replace h:=si h;subst h
    refine codeAny_handlers_suite_as (gW R0.st f λ s2 y2 f2=>?_)
    refine fY (λ G2 k2 R2 rx=>?_)<|IZ (R0.mono y2 (StaysIn.refl _)) f2
    refine gf Cx R2 (z:= .val (.exc C arg)) rfl Kl hi (fU Cx Kl) rx λ D3 s3 _ _ R3=>?_
    refine hb { g with q:=false } (b1::b') h4 (cx.marked ea) G2 D3 O _ s3 _ _ _ Cm PU R3.marked e3 ?_
    intro G4 D4 c s4 k4 R4 rv
    dsimp only
    have R5:Rel W cx g.rw G4 D4 O lZ s4:=R4.unmarked
    refine bJ (λ m4 RO=>?_)<|R5.here
    have hl:cx.env.kindOf n0=some .local:=by unfold Env.kindOf;rw[Cx.scope];exact N6
    refine wpAny_nameGoes hl (R5.st.led.has _ (UD _ RO)) (by rw[Cx.scope,Cx.kind];rfl) λ h' m' hn hs=>?_
    refine bJ (λ D5 R6=>?_)<|vI (t:=s4.toks+1) (.inl hw) R5 hn hs
    exact hQ G4 D5 c _ (StaysIn.trans k2 k4) R6 rv
   ·exact bj h
 ·rw[if_neg hm] at h
  rw[Bool.not_eq_true] at hm
  rw[hm]
  exact N5 g wu h5 hw cx G D O sl s r Q E ea C arg Cx Rm R0 f hC h hQ
set_option tactic.hygienic true in
theorem FE(K:WdOk3 W){b:Ss}{hs:Hs}(hb:jY W n Wn call lc b)(N5:LA W n Wn call lc hs):nB W n Wn call lc (.r7 b hs):=λ g d9 hc cx G D O sl s r Q E C Rm R0 h hQ=>by
 replace hc:AG (c9 W.P lc b g) (nY W.P lc hs g) g d9=true:=hc
 replace h:(match aU call Wn b sl with
  |some (.exc C arg)=>Ee call Wn hs C arg (sl.map λ _=> .af)
  |r=>r)=some r:=h
 refine EJ (λ b' h0 wu pos h1 h2 h3 h4=>?_) d9 hc
 refine wpAny_Try_except ?_
 split at h
 ·rename_i Ce arg e1
  refine hb g b' h3 cx G D O sl s _ _ _ C Rm R0 e1 λ e s1 x=>?_
  refine Hp (λ G' D' ea tb z4 kG R f ht=>?_) x;clear x;subst z4
  refine Ea (λ fe outer L e1 e2 e3=>?_)<|pY C R
  have fr:=R.frames.1
  rw[e1] at fr
  have rU:cx.A.frames=some (fe::outer):=by rw[C.frames,e1]
  have Fg:tb= .fresh\/tb= .at .none\/tb= .at (rawInt L):=by
   rcases ht with h|h|⟨L',h1,h2⟩
   ·exact .inl h
   ·exact .inr (.inl h)
   ·rw[e2] at h1;replace h1:=si h1;subst h1;exact .inr (.inr h2)
  refine q6 rU e2 e3 R.st fr f Fg λ s2 y2 f2=>?_
  refine gW y2 f2 λ s3 y3 f3=>?_
  have em:(cx.pl.map λ _=>Slot.af)=sl.map λ _=> .af:=by
   have:=R0.len
   rw[List.map_const',List.map_const',this]
  have R3:Rel W cx g.rw G' D' O (sl.map λ _=> .af) s3:=em▸R.mono y3 (StaysIn.refl _)
  exact N5 g (h0::wu) h4 h2 cx G' D' O _ s3 r Q E ea Ce arg C Rm R3 f3 (wQ K h4 h) h (hQ.mono kG)
 ·rename_i Fj
  refine hb g b' h3 cx G D O sl s r _ _ C Rm R0 h ?_
  cases r with
  |next a8=>exact λ G3 D3 s3 k3 R3=>wpAny_execs_nil (hQ G3 D3 s3 k3 R3)
  |cont a8=>exact hQ
  |ret v a8=>exact hQ
  |exc C' I1=>exact absurd h (Fj C' I1)
end Mine
end
section
open PySem PySem.W PyProof.Rows PySem.Calls PySem.SeqAt PySem.Spec
namespace Mine
variable{W:Wd}{n Wn:Nat}{call:Hd}{lc:Nat->Scope->Expr->Bool}
theorem dk.up{A:Around}(h:dk (n+1) A):dk n A:=⟨by have:=h.1;lia,by have:=h.2.1;lia,h.2.2⟩
section
variable(K:WdOk3 W)(hX:∀x,cE W n call lc x)(pB:∀xs,gK W n call lc xs)(hT:∀t,iS W n call lc t)
include hX in
theorem uz(x:X):cE W (n+1) call lc x:=λ g e hc cx G D O sl s r Q E C Rm=>hX x g e hc cx G D O sl s r Q E C Rm.up
include pB in
theorem I2(x:Xs):gK W (n+1) call lc x:=λ g e pos hc cx G D O sl s r Q E C Rm=>pB x g e pos hc cx G D O sl s r Q E C Rm.up
include hT in
theorem PV(x:T):iS W (n+1) call lc x:=λ g e hc cx G D O sl s r Q E C Rm=>hT x g e hc cx G D O sl s r Q E C Rm.up
include K hX pB hT
mutual
theorem N7:∀st:S,nB W (n+1) Wn call lc st
 | .asg i x=>IJ (uz hX x)
 | .uC i x=>Fy (uz hX) K.toWdOk
 | .qw i x=>Ft (uz hX) (I2 pB)
 | .e8 is xs=>Fu (uz hX) (I2 pB)
 | .Ed is x=>IT (uz hX)
 | .aug i op x=>IQ (uz hX x)
 | .mW q i x=>Fw (uz hX)
 | .app q x=>IU (uz hX)
 | .exp x=>IK (uz hX x)
 | .ite t a b=>IP (PV hT t) (gY a) (gY b)
 | .xR t b=>IS (PV hT t) (gY b)
 | .forR i as b=>Fp (I2 pB) K.toWdOk2 (gY b)
 | .kM i x b=>Fm (uz hX) (gY b)
 | .zJ i x b=>Fo (uz hX) (gY b)
 | .xS i j x b=>Fv (uz hX) K.toWdOk2 (gY b)
 | .xT is x b=>Fs (uz hX) (gY b)
 | .ret x=>IL (uz hX x)
 | .eR C nm keep x=>FC hX K
 | .r7 b hs=>FE K (gY b) (GO hs)
 | .cont=>Fh
 | .zK x=>Fx (uz hX)
 | .any=>IM
theorem gY:∀pj:Ss,jY W (n+1) Wn call lc pj
 | .nil=>Fi
 | .cons st pj=>BF (N7 st) (gY pj)
theorem GO:∀hs:Hs,LA W (n+1) Wn call lc hs
 | .nil=>I0
 | .cons C0 nm subs bind b hs=>FD K (gY b) (GO hs)
end
end
end Mine
end
section
open PySem PySem.W PyProof.Rows PySem.Calls
namespace Mine
theorem mJ{a:Arguments}(h:dR a=true):a.posonlyargs=[]/\a.vararg=none/\a.kwonlyargs=[]/\a.kwarg=none:=by
 unfold dR at h
 simp only [Bool.and_eq_true,List.isEmpty_iff,Option.isNone_iff_eq_none] at h
 exact⟨h.1.1.1.1,h.1.1.1.2,h.1.1.2,h.1.2⟩
theorem ou:∀{ns:List Str} {cs:List Value},ns.Nodup->ns.length=cs.length->∀n∈ns,((ns.zip cs).lookup n).isSome=true
 | [],_,_,_,n,h=>by cases h
 |n::ns,[],_,h,_,_=>nomatch h
 |n::ns,c::cs,Bs,hl,m,hm=>by
  rw[List.zip_cons_cons,List.lookup_cons]
  by_cases e:m=n
  ·subst e;simp
  ·have:(m==n)=false:=beq_eq_false_iff_ne.mpr e
   rw[this]
   rcases List.mem_cons.mp hm with h|h
   ·exact absurd h e
   ·exact ou (List.nodup_cons.mp Bs).2 (by simpa using hl) m h
theorem td{α β:Type}{f g:α->Option β}:∀{l:List α},(∀a∈l,f a=g a)->l.filterMap f=l.filterMap g
 | [],_=>rfl
 |a::l,h=>by
  rw[List.filterMap_cons,List.filterMap_cons,h a (UG ..),td λ b hb=>h b (UK _ hb)]
theorem j7:∀{ns:List Str} {cs:List Value},ns.Nodup->ns.length=cs.length->(ns.filterMap λ n=>((ns.zip cs).lookup n).map (n, ·))=ns.zip cs
 | [],_,_,_=>rfl
 |n::ns,[],_,h=>nomatch h
 |n::ns,c::cs,Bs,hl=>by
  have e0:((n::ns).zip (c::cs)).lookup n=some c:=by simp[List.lookup_cons]
  rw[List.filterMap_cons_some (b:=(n,c)) (by rw[e0];rfl),List.zip_cons_cons]
  congr 1
  have hn:=(List.nodup_cons.mp Bs)
  refine Eq.trans (td λ m hm=>?_) (j7 hn.2 (by simpa using hl))
  have:(m==n)=false:=beq_eq_false_iff_ne.mpr λ e=>hn.1 (e▸hm)
  rw[List.lookup_cons,this]
noncomputable def LC(ns:List Str)(cs D:List Value)(r1 r2:Sem (List (Str×Value)))(f:Str×Value->List (Str×Value)->Sem (ForInStep (List (Str×Value)))):Sem (List (Str×Value)):=
 if (decide (ns.length<cs.length)&&true)=true then r1 else if (!((ns.take (ns.length-D.length)).filter λ n=>((ns.zip cs).lookup n).isNone).isEmpty)=true then r2 else
  forIn ((ns.drop (ns.length-D.length)).zip D) (ns.zip cs) f >>=λ sl=>pure ((ns++ []).filterMap λ n=>(sl.lookup n).map (n, ·))
noncomputable def RP(fd:FuncData)(cs:List Value)(po ko:List Arg)(va ka:Option Arg)(df:Value):Sem (List (Str×Value)):=
 bindArgs { fd with params:={ fd.params with posonlyargs:=po,kwonlyargs:=ko,vararg:=va,kwarg:=ka },defaults:=df } ⟨cs,[]⟩
theorem RQ{ns:List Str}{cs D:List Value}{r1 r2:Sem (List (Str×Value))}{f:Str×Value->List (Str×Value)->Sem (ForInStep (List (Str×Value)))}(hn:ns.Nodup)(hl:ns.length=cs.length)(hD:D=[]):LC ns cs D r1 r2 f=pure (ns.zip cs):=by
 subst hD
 have hz:=ou hn hl
 have hm:(ns.filter λ n=>((ns.zip cs).lookup n).isNone)=[]:=List.filter_eq_nil_iff.mpr λ n hn=>by
  rw[Option.isNone_iff_eq_none];intro e;have:=hz n hn;rw[e] at this;cases this
 have e:=j7 hn hl
 refine(if_neg ?_).trans ((if_neg ?_).trans ?_)
 ·rw[hl,UM (Nat.lt_irrefl _)];decide
 ·rw[List.length_nil,Nat.sub_zero,List.take_length,hm];decide
 ·rw[List.zip_nil_right,List.append_nil];exact congrArg (pure (f:=Sem)) e
theorem ow{fd:FuncData}{cs:List Value}(hp:dR fd.params=true)(hd:fd.defaults= .none)(hn:(fd.params.args.map (·.arg)).Nodup)(hl:(fd.params.args.map (·.arg)).length=cs.length):
  bindArgs fd ⟨cs,[]⟩=pure ((fd.params.args.map (·.arg)).zip cs):=by
 refine Ho (λ h1 h2 h3 h4=>?_)<|mJ hp
 show RP fd cs fd.params.posonlyargs fd.params.kwonlyargs fd.params.vararg fd.params.kwarg fd.defaults=_
 rw[h1,h2,h3,h4,hd]
 exact Eq.trans (b:=LC _ cs (([]:List Value).drop (0-(fd.params.args.map (·.arg)).length)) _ _ _) rfl (RQ hn hl List.drop_nil)
end Mine
end
section
open PySem PySem.W PyProof.Rows PySem.Calls PySem.SeqAt PySem.Spec
namespace Mine
variable{W:Wd}{n Wn:Nat}{call:Hd}{lc:Nat->Scope->Expr->Bool}
variable{cx:Cx}{g:bQ}{rw:Bool}{G G':Heap}{D O:Led}{sl:List Slot}{s:Shared}{E:Value->Shared->Prop}{A:Around}
structure BS(W:Wd)(a:Addr)(fn:Fn)(fd:FuncData):Prop where
 at_:∃oc od pW,W.K.lookup a=some ⟨oc,od,.func fd,pW⟩
 M0:pM W.P fn fd=true
 code:codeIn W.K fd.code fd.qualname=true
 globals:fd.globals=mainGlobals
 builtins:fd.builtins=builtinsNs
 defaults:fd.defaults= .none
 lam:fn.lam=true->∃c P,(c,P,(fd.qualname++(".<locals>.":Str))++("<lambda>":Str))∈W.tabs/\fd.code= .ref c
structure WdOk4(W:Wd):Prop extends WdOk3 W where
 fns:∀a fn,W.P.fns.lookup a=some fn->∃fd,BS W a fn fd
 BU:W.bA=i7 W.P
noncomputable def jh(env:Env)(nm:Str):Option Pl:=match env.kindOf nm with
 |some .local=>some (.ai env.locals nm)
 |some .cell=>(env.cells.lookup nm).map .gd
 |_=>none
noncomputable def dB(env:Env)(cm:Str->Option Value)(names:List Str):Led:=names.filterMap λ nm=>if env.kindOf nm=some .cell then (env.cells.lookup nm).map λ c=>(c,MO.cell (cm nm)) else none
theorem oy{env:Env}{nm:Str}(h:env.kindOf nm=some .local):jh env nm=some (.ai env.locals nm):=by unfold jh;rw[h]
theorem te{env:Env}{nm:Str}{c:Addr}(h:env.kindOf nm=some .cell)(hc:env.cells.lookup nm=some c):jh env nm=some (.gd c):=by unfold jh;rw[h];show(env.cells.lookup nm).map Pl.gd=_;rw[hc];rfl
theorem jO{env:Env}{nm:Str}{p:Pl}(h:jh env nm=some p):(env.kindOf nm=some .local/\p= .ai env.locals nm)\/∃c,env.kindOf nm=some .cell/\env.cells.lookup nm=some c/\p= .gd c:=by
 unfold jh at h
 split at h
 ·rename_i e;replace h:=si h;subst h;exact .inl ⟨e,rfl⟩
 ·rename_i e
  refine aV (λ c h1 z2=>?_)<|Option.map_eq_some_iff.mp h;subst z2
  exact .inr ⟨c,e,h1,rfl⟩
 ·exact bj h
theorem fO{env:Env}{cm:Str->Option Value}{names:List Str}{p:Addr×MO}:p∈dB env cm names↔∃nm∈names,env.kindOf nm=some .cell/\env.cells.lookup nm=some p.1/\p.2= .cell (cm nm):=by
 unfold dB
 rw[List.mem_filterMap]
 constructor
 ·rintro⟨nm,h1,h2⟩
  split at h2
  ·rename_i h3
   refine aV (λ c h4 z2=>?_)<|Option.map_eq_some_iff.mp h2;subst z2
   exact⟨nm,h1,h3,h4,rfl⟩
  ·exact bj h2
 ·rintro⟨nm,h1,h2,h3,h4⟩
  refine⟨nm,h1,?_⟩
  rw[if_pos h2,h3]
  obtain⟨a,b⟩:=p
  subst h4;rfl
theorem ji{env:Env}{cm:Str->Option Value}(ha:env.cells.Pairwise λ x y=>x.2≠y.2):∀{names:List Str},names.Nodup->(aQ (dB env cm names)).Nodup
 | [],_=>List.nodup_nil
 |nm::names,h=>by
  refine d8 (λ h1 h2=>?_)<|List.nodup_cons.mp h
  have ih:=ji (cm:=cm) ha h2
  by_cases hk:∃c,(if env.kindOf nm=some .cell then (env.cells.lookup nm).map λ c=>(c,MO.cell (cm nm)) else none)=some c
  ·refine bJ (λ p hp=>?_) hk;clear hk
   have e:dB env cm (nm::names)=p::dB env cm names:=List.filterMap_cons_some hp
   rw[e]
   show(p.1::aQ (dB env cm names)).Nodup
   rw[List.nodup_cons]
   refine⟨λ hm=>?_,ih⟩
   refine aV (λ q hq eq=>?_)<|List.mem_map.mp hm
   refine J2 (λ PW g1 g2 g3 g4=>?_)<|fO.mp hq
   split at hp
   ·refine aV (λ c h4 z2=>?_)<|Option.map_eq_some_iff.mp hp;subst z2
    replace eq:q.1=c:=eq
    rw[eq] at g3
    have:=name_of_addr ha (mem_of_lookup h4) (mem_of_lookup g3)
    exact h1 (this▸g1)
   ·exact bj hp
  ·have e:dB env cm (nm::names)=dB env cm names:=by
    refine List.filterMap_cons_none ?_
    cases q:(if env.kindOf nm=some .cell then (env.cells.lookup nm).map λ c=>(c,MO.cell (cm nm)) else none) with
    |none=>rfl
    |some c=>exact absurd ⟨c,q⟩ hk
   rw[e];exact ih
theorem mK{k:Str->Option NameKind}:∀{bs:List (Str×Value)} {m:Str->Option Value} {x:Str},x∉bs.map (·.1)->bindL k bs m x=m x
 | [],_,_,_=>rfl
 |(a,v)::r,m,x,h=>by
  rw[List.map_cons,List.mem_cons,not_or] at h
  unfold bindL
  rw[mK h.2]
  split
  ·exact if_neg h.1
  ·rfl
theorem qb{k:Str->Option NameKind}:∀{bs:List (Str×Value)} {m:Str->Option Value} {x:Str} {v:Value},(bs.map (·.1)).Nodup->(x,v)∈bs->k x=some .local->bindL k bs m x=some v
 |(a,w)::r,m,x,v,hn,hm,hk=>by
  rw[List.map_cons,List.nodup_cons] at hn
  unfold bindL
  rcases List.mem_cons.mp hm with e|hm
  ·cases e
   rw[mK hn.1,if_pos hk,if_pos rfl]
  ·exact qb hn.2 hm hk
theorem mL{k:Str->Option NameKind}:∀{bs:List (Str×Value)} {m:Str->Option Value} {x:Str},x∉bs.map (·.1)->bindC k bs m x=m x
 | [],_,_,_=>rfl
 |(a,v)::r,m,x,h=>by
  rw[List.map_cons,List.mem_cons,not_or] at h
  unfold bindC
  rw[mL h.2]
  split
  ·rfl
  ·exact if_neg h.1
theorem qc{k:Str->Option NameKind}:∀{bs:List (Str×Value)} {m:Str->Option Value} {x:Str} {v:Value},(bs.map (·.1)).Nodup->(x,v)∈bs->k x≠some .local->bindC k bs m x=some v
 |(a,w)::r,m,x,v,hn,hm,hk=>by
  rw[List.map_cons,List.nodup_cons] at hn
  unfold bindC
  rcases List.mem_cons.mp hm with e|hm
  ·cases e
   rw[mL hn.1,if_neg hk,if_pos rfl]
  ·exact qc hn.2 hm hk
theorem cellsFrom_some:∀{names:List (Str×NameKind)} {k:Nat} {acc:List (Str×Addr)} {nm:Str},(nm,NameKind.cell)∈names\/(acc.lookup nm).isSome=true->((cellsFrom k names acc).lookup nm).isSome=true
 | [],_,_,_,h=>by
  rcases h with h|h
  ·cases h
  ·exact h
 |(a,kd)::r,k,acc,nm,h=>by
  unfold cellsFrom
  split
  ·rename_i hk
   refine cellsFrom_some ?_
   rcases h with h|h
   ·rcases List.mem_cons.mp h with e|h
    ·cases e
     right
     rw[List.lookup_cons];simp
    ·exact .inl h
   ·right
    rw[List.lookup_cons]
    cases nm==a with
    |true=>rfl
    |false=>exact h
  ·rename_i hk
   refine cellsFrom_some ?_
   rcases h with h|h
   ·rcases List.mem_cons.mp h with e|h
    ·cases e;exact absurd rfl hk
    ·exact .inl h
   ·exact .inr h
theorem BV{l:List (Str×NameKind)}{nm:Str}{k:NameKind}(h:l.lookup nm=some k):(nm,k)∈l:=mem_of_lookup h
noncomputable def I3(fn:Fn)(fd:FuncData):bQ:={ names:=fn.names,scope:=fd.scope,q:=true,rw:=true,lam:=fn.lam,tg:=(List.range fn.names.length).filter λ i=>match fn.names[i]? with|some nm=>decide (fd.scope.names.lookup nm=none)|none=>false }
structure oz(W:Wd)(fn:Fn)(fd:FuncData)(body:List Stmt):Prop where
 PX:fd.body= .stmts body
 kind:fd.scope.kind= .function
 gen:fd.scope.isGenerator=false
 N8:fd.scope.isCoroutine=false
 RS:fd.closure=[]
 par:dR fd.params=true
 names:fd.params.args.map (·.arg)=fn.names.take fn.np
 np:fn.np<=fn.names.length
 nd:fn.names.Nodup
 kinds:∀nm∈fn.names.take fn.np,fd.scope.names.lookup nm=some .local\/fd.scope.names.lookup nm=some .cell
 M0:c9 W.P (fk W.P) fn.body (I3 fn fd) body=true
theorem lz:∀(n:Nat) (l:List Str),l.length<=n->l.eraseDups.length<=l.length
 |_,[],_=>by simp
 |0,a::l,h=>by simp at h
 |n+1,a::l,h=>by
  rw[List.eraseDups_cons,List.length_cons,List.length_cons]
  have h1:(l.filter λ b=>!b==a).length<=l.length:=List.length_filter_le ..
  have:=lz n (l.filter λ b=>!b==a) (by simp at h;exact Nat.le_trans ‹_› ‹_›)
  lia
theorem lA:∀(n:Nat) (l:List Str),l.length<=n->l.eraseDups.length=l.length->l.Nodup
 |_,[],_,_=>List.nodup_nil
 |0,a::l,h,_=>by simp at h
 |n+1,a::l,h,e=>by
  rw[List.eraseDups_cons,List.length_cons,List.length_cons] at e
  have h1:(l.filter λ b=>!b==a).length<=l.length:=List.length_filter_le ..
  have h2:=lz _ (l.filter λ b=>!b==a) (Nat.le_refl _)
  have h3:(l.filter λ b=>!b==a).length=l.length:=by lia
  have h4:=List.length_filter_eq_length_iff.mp h3
  have h5:(l.filter λ b=>!b==a)=l:=List.filter_eq_self.mpr h4
  rw[h5] at e
  rw[List.nodup_cons]
  refine⟨λ hm=>?_,lA n l (by simp at h;assumption) (by lia)⟩
  have:=h4 a hm
  simp at this
theorem iO{l:List Str}(h:l.eraseDups.length=l.length):l.Nodup:=lA _ l (Nat.le_refl _) h
set_option tactic.hygienic true in
theorem qd{fn:Fn}{fd:FuncData}(h:pM W.P fn fd=true):∃body,oz W fn fd body:=by
 unfold pM at h
 split at h
 ·rename_i body hb
  simp only [Bool.and_eq_true,decide_eq_true_eq,Bool.not_eq_true',List.isEmpty_iff,List.all_eq_true] at h
  obtain⟨⟨⟨⟨⟨⟨⟨⟨⟨h1,h2⟩,h3⟩,h4⟩,h5⟩,h6⟩,h7⟩,h8⟩,h9⟩,I4⟩:=h
  refine⟨body,hb,h1,h2,h3,h4,h5,h6,h7,iO h8,λ nm hm=>?_,I4⟩
  have:=h9 nm hm
  split at this
  ·rename_i e;exact .inl e
  ·rename_i e;exact .inr e
  ·exact kh this
 ·exact kh h
noncomputable def kv(aD:Option (List V))(ab:Addr)(items:List Value):Led:=match aD with|none=>[]|some _=>[(ab,.list 0 items)]
noncomputable def dM(aD:Option (List V))(ab:Addr)(D:Led):Led:=match aD with|none=>D|some _=>D.filter λ q=>decide (q.1≠ab)
noncomputable def oA(aD:Option (List V))(ab:Addr)(args:List Value):List Value:=match aD with|none=>args|some _=> .ref ab::args
theorem BW{D:Led}(x:St W G D s):(D.map (·.1)).Nodup:=x.led.nodup
theorem yI{aD:Option (List V)}{ab:Addr}{tag:Nat}{args full:List Value}(x:St W G D s)(hb:AZ W G D args aD ab tag full):
  ∃items,(∀xs,aD=some xs->(ab,MO.list tag items)∈D/\dS W G xs items)/\St W G (kv aD ab items++dM aD ab D) s/\(∀p∈D,(∀t it,p.2≠ .list t it)->p∈dM aD ab D)/\
   full=oA aD ab args:=by
 cases aD with
 |none=>exact⟨[],(λ xs e=>nomatch e),x,λ p hp _=>hp,hb⟩
 |some xs=>
  obtain⟨h1,items,h2,h3⟩:=hb
  have nd:=BW x
  refine⟨items,λ ys e=>by replace e:=si e;subst e;exact⟨h2,h3⟩,?_,λ p hp hn=>?_,h1⟩
  ·have y:St W G (D.filter λ q=>decide (q.1≠ab)) s:=x.sub List.filter_sublist
   have hn:ab∉aQ (D.filter λ q=>decide (q.1≠ab)):=λ hm=>by
    refine aV (λ q hq e=>?_)<|List.mem_map.mp hm
    have:=(List.mem_filter.mp hq).2
    simp[e] at this
   exact y.add hn (x.led.free _ h2) (x.led.has _ h2)
  ·refine List.mem_filter.mpr ⟨hp,?_⟩
   have:p.1≠ab:=λ e=>by
    obtain⟨a,d⟩:=p
    simp only at e;subst e
    have:=aG nd hp h2
    exact hn _ _ this
   simpa using this
theorem St.adds{N:Led}{h':Heap}{t:Nat}(x:St W G D s)(k:∀b o,s.heap.get? b=some o->h'.get? b=some o)(hn:(aQ N).Nodup)(GP:∀a∈aQ N,s.heap.objs.size<=a)(hh:∀p∈N,qv G h' p.1 p.2):St W G (N++D) { s with heap:=h',toks:=t }:=by
 have y:=x.keeps (t:=t) k
 refine⟨⟨y.led.stays,λ p hp=>?_,λ p hp=>?_,?_⟩,y.gD,y.top,y.gens,y.os⟩
 ·rcases List.mem_append.mp hp with hp|hp
  ·exact hh p hp
  ·exact y.led.has p hp
 ·rcases List.mem_append.mp hp with hp|hp
  ·cases q:G.get? p.1 with
   |none=>rfl
   |some o=>exact absurd (Heap.lt_size (x.led.stays _ _ q)) (Nat.not_lt.mpr (GP _ (UR (f:=λ p:Addr×MO=>p.1) hp)))
  ·exact y.led.free p hp
 ·rw[List.map_append,List.nodup_append]
  refine⟨hn,x.led.nodup,λ a ha b hb e=>?_⟩
  have h1:=GP a ha
  have h2:=ny x.led (a:=b) hb
  subst e
  exact absurd h2 (Nat.not_lt.mpr h1)
noncomputable def gM(fn:Fn)(aD:Option (List V))(args:List V):List Slot:=(aD.map Slot.aD).toList++args.map Slot.val++List.replicate (fn.names.length-fn.np) .af
theorem vJ{fn:Fn}{aD:Option (List V)}{args:List V}{cH full:List Value}{ab:Addr}(r:dS W G args cH)(hf:full=oA aD ab cH){i:Nat}{z:Slot}(h:(gM fn aD args)[i]?=some z):
  z= .af\/(∃xs,aD=some xs/\i=0/\z= .aD xs/\full[i]?=some (.ref ab))\/∃v c,z= .val v/\full[i]?=some c/\Rp W G v c:=by
 have main:∀{i:Nat} {z:Slot} {k:Nat},(args.map Slot.val++List.replicate k Slot.af)[i]?=some z->z= .af\/∃v c,z= .val v/\cH[i]?=some c/\Rp W G v c:=by
  intro i z k h
  by_cases hi:i<args.length
  ·rw[List.getElem?_append_left (by simpa using hi),List.getElem?_map] at h
   cases hv:args[i]? with
   |none=>rw[hv] at h;exact bj h
   |some v=>
    rw[hv] at h;cases h
    refine aV (λ c h1 h2=>?_)<|aL.get r hv
    exact .inr ⟨v,c,rfl,h1,h2⟩
  ·rw[List.getElem?_append_right (by simpa using hi)] at h
   left
   have:=List.mem_of_getElem? h
   exact(List.mem_replicate.mp this).2
 unfold gM at h
 cases aD with
 |none=>
  rcases main h with h|h
  ·exact .inl h
  ·rw[hf];exact .inr (.inr h)
 |some xs=>
  rw[hf]
  cases i with
  |zero=>
   replace h:some (Slot.aD xs)=some z:=h
   replace h:=si h;subst h
   exact .inr (.inl ⟨xs,rfl,rfl,rfl,rfl⟩)
  |succ i=>
   replace h:(args.map Slot.val++List.replicate (fn.names.length-fn.np) Slot.af)[i]?=some z:=h
   rcases main h with h|h
   ·exact .inl h
   ·exact .inr (.inr h)
theorem vK{fn:Fn}{aD:Option (List V)}{args:List V}(fJ:args.length+(if fn.aD then 1 else 0)=fn.np)(vL:aD.isSome=fn.aD)(hn:fn.np<=fn.names.length):(gM fn aD args).length=fn.names.length:=by
 unfold gM
 rw[<-vL] at fJ
 rw[List.length_append,List.length_append,List.length_map,List.length_replicate]
 cases aD with
 |none=>
  replace fJ:args.length=fn.np:=fJ
  show 0+args.length+_=_
  rw[fJ,Nat.zero_add,Nat.add_sub_cancel' hn]
 |some xs=>
  replace fJ:args.length+1=fn.np:=fJ
  show 1+args.length+_=_
  rw[Nat.add_comm 1,fJ,Nat.add_sub_cancel' hn]
theorem BX{fn:Fn}{aD:Option (List V)}{args:List V}{cH:List Value}{ab:Addr}(hl:cH.length=args.length)(fJ:args.length+(if fn.aD then 1 else 0)=fn.np)(vL:aD.isSome=fn.aD):(oA aD ab cH).length=fn.np:=by
 rw[<-vL,<-hl] at fJ
 cases aD<;> exact fJ
structure pD(W:Wd)(fn:Fn)(fd:FuncData)(env:Env):Prop where
 Kn:env.scope=fd.scope
 N9:env.globals=mainGlobals
 Oa:env.builtins=builtinsNs
 Ei:env.frame=some env.locals
 vz:∀nm,env.kindOf nm=some .cell->∃c,env.cells.lookup nm=some c
 code:fn.lam=true->∃c P,(c,P,env.qual++("<lambda>":Str))∈W.tabs/\env.code= .ref c
theorem pD.kind{fn:Fn}{fd:FuncData}{env:Env}(V:pD W fn fd env)(nm:Str):env.kindOf nm=fd.scope.names.lookup nm:=congrArg (λ s:Scope=>s.names.lookup nm) V.Kn
noncomputable def LF(A:Around)(env:Env)(names:List Str)(stack:List Env)(ab:Addr):Cx:=⟨A.deeper env,env,names.map (jh env),env::stack,ab⟩
noncomputable def vM(env:Env)(m cm:Str->Option Value)(names:List Str):Led:=(env.locals,.ns m)::dB env cm names
theorem oB{names:List Str}{env:Env}{i:Nat}{p:Option Pl}(h:(names.map (jh env))[i]?=some p):∃nm,names[i]?=some nm/\jh env nm=p:=by
 rw[List.getElem?_map] at h
 exact Option.map_eq_some_iff.mp h
theorem FF{env:Env}{nm:Str}{p:Pl}(h:jh env nm=some p):H5 env nm p:=by
 refine⟨λ hk=>?_,λ k hk Kc=>?_⟩
 ·exact(Option.some.inj ((oy hk).symm.trans h)).symm
 ·rcases jO h with ⟨hl,_⟩|⟨c,hc,h5,e⟩
  ·have:=si (hl.symm.trans Kc);subst this;exact hk.elim (λ e=>nomatch e) (λ e=>nomatch e)
  ·exact⟨c,h5,e⟩
theorem BY{env:Env}(apart:env.cells.Pairwise λ x y=>x.2≠y.2){n1 n2:Str}{p:Pl}(h1:jh env n1=some p)(h2:jh env n2=some p):n1=n2:=by
 rcases jO h1 with ⟨_,e⟩|⟨c,_,hc,e⟩<;> rcases jO h2 with ⟨_,e'⟩|⟨c',_,vj,e'⟩<;> rw[e] at e'<;> cases e'
 ·rfl
 ·exact name_of_addr apart (mem_of_lookup hc) (mem_of_lookup vj)
theorem vN{l:List Str}(hn:l.Nodup){i j:Nat}{nm:Str}(h1:l[i]?=some nm)(h2:l[j]?=some nm):i=j:=by
 refine bJ (λ T9 e1=>?_)<|List.getElem?_eq_some_iff.mp h1
 refine bJ (λ Ob e2=>?_)<|List.getElem?_eq_some_iff.mp h2
 exact(List.getElem_inj hn).mp (e1.trans e2.symm)
theorem RT{fn:Fn}{fd:FuncData}{env:Env}(V:pD W fn fd env){i:Nat}(hi:i∈(I3 fn fd).tg):(fn.names.map (jh env))[i]?=some none:=by
 have hi:=(List.mem_filter.mp hi).2
 rw[List.getElem?_map]
 cases q:fn.names[i]? with
 |none=>rw[q] at hi;exact kh hi
 |some nm=>
  rw[q] at hi
  have hi:=(V.kind nm).trans (UH hi)
  show some (jh env nm)=some none
  unfold jh
  rw[hi]
theorem th{fn:Fn}{fd:FuncData}{body:List Stmt}{env:Env}{stack:List Env}{ab:Addr}(Cd:oz W fn fd body)(V:pD W fn fd env)(apart:env.cells.Pairwise λ x y=>x.2≠y.2)(hA:A.frames=some stack)(hh:A.handled=none):
  bS W (LF A env fn.names stack ab) (I3 fn fd):=by
 refine⟨V.Kn,Cd.kind,V.N9,V.Oa,List.length_map ..,λ i nm p h1 h2=>?_,λ _ i j p h1 h2=>?_,λ _=>hh,Around.frames_deeper hA,⟨env,stack,rfl,rfl⟩,λ nm h=>V.vz nm ((V.kind nm).trans h),λ i j nm h1 h2=>vN Cd.nd h1 h2,λ i hi=>RT V hi,λ i nm h1 h2=>?_,V.code⟩
 ·refine aV (λ PW h3 h4=>?_)<|oB h2
  exact si (h3.symm.trans h1)▸FF h4
 ·refine aV (λ n1 h3 h4=>?_)<|oB h1
  refine aV (λ n2 h5 h6=>?_)<|oB h2
  exact vN Cd.nd h3 (BY apart h4 h6▸h5)
 ·show ∃p,(fn.names.map (jh env))[i]?=some (some p)
  rw[List.getElem?_map,show fn.names[i]?=some nm from h1]
  refine h2.elim (λ h=>⟨_,congrArg some (oy ((V.kind nm).trans h))⟩) λ h=>?_
  have h:=(V.kind nm).trans h
  exact(V.vz nm h).elim λ c hc=>⟨_,congrArg some (te h hc)⟩
theorem rk{env:Env}{m cm:Str->Option Value}{names:List Str}{X:Led}:(env.locals,MO.ns m)∈vM env m cm names++X:=UG ..
theorem BZ{env:Env}{m cm:Str->Option Value}{names:List Str}{X:Led}{nm:Str}{c:Addr}(h1:nm∈names)(h2:env.kindOf nm=some .cell)(h3:env.cells.lookup nm=some c):(c,MO.cell (cm nm))∈vM env m cm names++X:=
 UD _ (UK _ (fO.mpr ⟨nm,h1,h2,h3,rfl⟩))
structure Args(fn:Fn)(fd:FuncData)(env:Env)(m cm:Str->Option Value)(full:List Value):Prop where
 np:full.length=fn.np
 ai:∀nm c,(nm,c)∈(fd.params.args.map (·.arg)).zip full->env.kindOf nm=some .local->m nm=some c
 gd:∀nm c,(nm,c)∈(fd.params.args.map (·.arg)).zip full->env.kindOf nm=some .cell->cm nm=some c
theorem B0{fn:Fn}{fd:FuncData}{body:List Stmt}{env:Env}{m cm:Str->Option Value}{full:List Value}{X:Led}(Cd:oz W fn fd body)(V:pD W fn fd env)(M:Args fn fd env m cm full){i:Nat}{nm:Str}{c:Value}(h1:fn.names[i]?=some nm)(h2:full[i]?=some c):
  ∃p,jh env nm=some p/\At G (vM env m cm fn.names++X) p c:=by
 have ht:(fn.names.take fn.np)[i]?=some nm:=by rw[List.getElem?_take,if_pos (by rw[<-M.np];exact(List.getElem?_eq_some_iff.mp h2).1)];exact h1
 have hz:(nm,c)∈(fd.params.args.map (·.arg)).zip full:=List.mem_of_getElem? (i:=i) (by rw[List.getElem?_zip_eq_some,Cd.names];exact⟨ht,h2⟩)
 rcases Cd.kinds nm (List.mem_of_getElem? ht) with rW|rW
 ·have rW:=(V.kind nm).trans rW
  exact⟨_,oy rW,m,rk,M.ai nm c hz rW⟩
 ·have rW:=(V.kind nm).trans rW
  refine bJ (λ c' vj=>?_)<|V.vz nm rW
  exact⟨_,te rW vj,.inl (M.gd nm c hz rW▸BZ (List.mem_of_getElem? h1) rW vj)⟩
theorem qe{fn:Fn}{fd:FuncData}{body:List Stmt}{aD:Option (List V)}{args:List V}{cH full items:List Value}{ab:Addr}{env:Env}{stack:List Env}{s':Shared}{m cm:Str->Option Value}
  (Cd:oz W fn fd body)(V:pD W fn fd env)(M:Args fn fd env m cm full)(r:dS W G args cH)(hf:full=oA aD ab cH)(Oc:∀xs,aD=some xs->dS W G xs items)
  (fJ:args.length+(if fn.aD then 1 else 0)=fn.np)(vL:aD.isSome=fn.aD)
  (hk:∀p∈D,(∀t it,p.2≠ .list t it)->p∈dM aD ab D)
  (x1:St W G (vM env m cm fn.names++(kv aD ab items++dM aD ab D)) s')(sZ:dT W stack D):
  Rel W (LF A env fn.names stack ab) true G (vM env m cm fn.names++kv aD ab items) (dM aD ab D) (gM fn aD args) s':=by
 refine⟨by rw[List.append_assoc];exact x1,(vK fJ vL Cd.np).trans (List.length_map ..).symm,λ i z p h1 h2=>?_,λ _ i p h=>?_,⟨λ e he=>?_,λ q hq=>?_⟩,⟨m,rk⟩⟩
 ·refine aV (λ nm hq hp=>?_)<|oB h2
  rcases vJ (fn:=fn) r hf h1 with z1|⟨xs,hb,z2,z1,B1⟩|⟨v,c,z1,B1,rv⟩
  ·rw[z1];cases p<;> trivial
  ·refine aV (λ p' e1 e2=>?_)<|B0 (G:=G) (X:=kv aD ab items) Cd V M hq B1
   have hp:=hp.symm.trans e1;subst hp z1 z2
   refine⟨items,e2,?_,Oc xs hb⟩
   rw[hb]
   exact UE _ (List.mem_singleton.mpr rfl)
  ·refine aV (λ p' e1 e2=>?_)<|B0 (G:=G) (X:=kv aD ab items) Cd V M hq B1
   have hp:=hp.symm.trans e1;subst hp z1
   exact⟨c,e2,rv⟩
 ·refine aV (λ nm h3 h4=>?_)<|oB h
  rcases jO h4 with ⟨_,e⟩|⟨c,hc,h5,e⟩
  ·rw[e];exact⟨m,rk⟩
  ·rw[e];exact⟨_,BZ (List.mem_of_getElem? h3) hc h5⟩
 ·rcases List.mem_cons.mp he with z|he
  ·rw[z];exact⟨by rw[V.Kn,Cd.kind];decide,_,m,V.Ei,UD _ rk⟩
  ·exact(sZ.1 e he).imp id λ⟨L,m',e2,e3⟩=>⟨L,m',e2,UE _ (hk _ e3 λ _ _ e=>nomatch e)⟩
 ·exact UE _ (hk _ (sZ.2 q hq) λ _ _ e=>nomatch e)
theorem B2{fn:Fn}{fd:FuncData}{body:List Stmt}{aD:Option (List V)}{args:List V}{cH full items:List Value}{ab:Addr}{env:Env}{stack:List Env}{s':Shared}
  (Cd:oz W fn fd body)(V:pD W fn fd env)(LG:full.length=fn.np)(r:dS W G args cH)(hf:full=oA aD ab cH)(Oc:∀xs,aD=some xs->dS W G xs items)
  (fJ:args.length+(if fn.aD then 1 else 0)=fn.np)(vL:aD.isSome=fn.aD)
  (x0:St W G (kv aD ab items++dM aD ab D) s)(hk:∀p∈D,(∀t it,p.2≠ .list t it)->p∈dM aD ab D)
  (I:InCallC s env.locals (bindL env.kindOf ((fd.params.args.map (·.arg)).zip full) λ _=>none) env.cells (bindC env.kindOf ((fd.params.args.map (·.arg)).zip full) λ _=>none) s')(sZ:dT W stack D):
  ∃D',Rel W (LF A env fn.names stack ab) true G D' (dM aD ab D) (gM fn aD args) s':=by
 have Bs:(((fd.params.args.map (·.arg)).zip full).map (·.1)).Nodup:=by
  rw[List.map_fst_zip (by rw[Cd.names,List.length_take,LG];exact Nat.min_le_left ..),Cd.names]
  exact(List.take_sublist _ _).nodup Cd.nd
 have M:Args fn fd env (bindL env.kindOf ((fd.params.args.map (·.arg)).zip full) λ _=>none) (bindC env.kindOf ((fd.params.args.map (·.arg)).zip full) λ _=>none) full:=⟨LG,λ nm c hz rW=>qb Bs hz rW,λ nm c hz rW=>qc Bs hz (by rw[rW];decide)⟩
 generalize (bindL env.kindOf ((fd.params.args.map (·.arg)).zip full) λ _=>none)=m at I M
 generalize (bindC env.kindOf ((fd.params.args.map (·.arg)).zip full) λ _=>none)=cm at I M
 clear Bs
 refine⟨_,qe Cd V M r hf Oc fJ vL hk ?_ sZ⟩
 refine fb (λ h' tk z2 pZ=>?_)<|I.done;subst z2
 have PY:s.heap.objs.size<=env.locals:=I.toInCall.fresh
 have zC:∀a∈aQ (dB env cm fn.names),env.locals<a:=λ a ha=>by
  refine aV (λ q hq z2=>?_)<|List.mem_map.mp ha;subst z2
  refine J2 (λ nm _ _ h3 _=>?_)<|fO.mp hq
  exact I.above nm _ (mem_of_lookup h3)
 refine x0.adds pZ (List.nodup_cons.mpr ⟨λ hm=>Nat.lt_irrefl _ (zC _ hm),ji I.apart Cd.nd⟩) (λ a ha=>?_) λ p hp=>?_
 ·exact(List.mem_cons.mp ha).elim (λ e=>e▸PY) λ ha=>Nat.le_of_lt (UN PY (zC a ha))
 ·rcases List.mem_cons.mp hp with z|hp
  ·rw[z];exact I.toInCall.ns
  ·refine J2 (λ nm h1 h2 h3 h4=>?_)<|fO.mp hp
   rw[h4]
   exact I.cell nm _ h3
theorem mD.sub{D':Led}{h:Heap}{ea C:Addr}{arg:V}{tb:Tb}(x:mD W G D h ea C arg tb)(sub:∀a,a∈aQ D'->a∈aQ D):mD W G D' h ea C arg tb:=by
 obtain⟨h1,h2,oe,vs,h3,h4,h5,h6,h7,h8⟩:=x
 refine⟨λ hm=>h1 (sub _ hm),h2,oe,vs,h3,h4,h5,h6,h7,?_⟩
 cases tb with
 |fresh=>exact h8
 |«at» fl=>obtain⟨T,oT,ts,a1,a2,a3,a4,a5,a6,a7⟩:yp _ _ _ _ _ _:=h8;exact .mk T oT ts a1 a2 (λ hm=>a3 (sub _ hm)) a4 a5 a6 a7
noncomputable def lB(W:Wd)(G:Heap)(D:Led)(ab:Addr)(tag:Nat)(aD:Option (List V))(Rr:Result->Shared->Prop):Res->Prop
 | .ok v b=>∀G' s' cv items,G.StaysIn G'->St W G' (qT D ab tag items aD) s'->dS W G' b items->Rp W G' v cv->Rr (.ok (.ret cv)) s'
 | .exc C arg=>∀G' s' ea,aD=none->G.StaysIn G'->St W G' D s'->mD W G' D s'.heap ea C arg (.at .none)->Rr (.error (.ref ea)) s'
theorem B3{xs:List V}{ab:Addr}{tag:Nat}{items bO:List Value}{D2:Led}{G2:Heap}{s2:Shared}(x:St W G D s)(hm:(ab,MO.list tag items)∈D)(y:St W G2 (D2++dM (some xs) ab D) s2)(h2:(ab,MO.list 0 bO)∈D2):
  St W G2 (qT D ab tag bO (some xs)) s2:=by
 show St W G2 (Led.put D ab (.list tag bO)) s2
 have key:∀p∈Led.put D ab (.list tag bO),(p∈dM (some xs) ab D)\/p=(ab,.list tag bO):=λ p hp=>by
  refine Or.elim (Led.bB.mp hp) (d8 λ h1 h3=>?_) (d8 λ h1 _=>?_)
  ·exact .inl (List.mem_filter.mpr ⟨h3,by simpa using h1⟩)
  ·exact .inr h1
 refine⟨⟨y.led.stays,λ p hp=>?_,λ p hp=>?_,?_⟩,y.gD,y.top,y.gens,y.os⟩
 ·rcases key p hp with h|rfl
  ·exact y.led.has p (UE _ h)
  ·exact y.led.has (ab,.list 0 bO) (UD _ h2)
 ·rcases key p hp with h|rfl
  ·exact y.led.free p (UE _ h)
  ·exact y.led.free (ab,.list 0 bO) (UD _ h2)
 ·have:=Led.nJ D ab (.list tag bO)
  show(aQ (Led.put D ab (.list tag bO))).Nodup
  rw[this];exact x.led.nodup
noncomputable def B4(v:V)(sl:List Slot):Option Res:=match (sl[0]? :Option Slot) with
 |some (.aD xs)=>some (.ok v xs)
 |_=>none
noncomputable def runEnd(b:Bool):F->Option Res
 | .next _=>if b then none else some (.ok .none [])
 | .ret v sl=>if b then B4 v sl else some (.ok v [])
 | .exc C arg=>if b then none else some (.exc C arg)
 | .cont _=>none
theorem B5{fn:Fn}{aD:Option (List V)}{args:List V}{res:Res}(h:fH call Wn fn aD args=some res):∃r,aU call Wn fn.body (gM fn aD args)=some r/\runEnd fn.aD r=some res/\aD.isSome=fn.aD/\args.length+(if fn.aD then 1 else 0)=fn.np:=by
 unfold fH at h
 by_cases hc:aD.isSome=fn.aD/\args.length+(if fn.aD then 1 else 0)=fn.np/\fn.np<=fn.names.length
 ·rw[if_pos hc] at h
  cases hx:aU call Wn fn.body (gM fn aD args) with
  |none=>rw[show aU call Wn fn.body (_++_++_)=none from hx] at h;exact bj h
  |some r=>
   rw[show aU call Wn fn.body (_++_++_)=some r from hx] at h
   exact⟨r,rfl,by cases r<;> exact h,hc.1,hc.2.1⟩
 ·rw[if_neg hc] at h;exact bj h
noncomputable def wR(W:Wd)(A:Around)(env:Env)(Rr:Result->Shared->Prop)(e:Value)(s':Shared):Prop:=
 wpAny (Md W) (A.deeper env) (leaving env e) (λ _ Od=>Rr (.error e) Od) (λ e' Od=>Rr (.error e') Od) s'
theorem tj{env:Env}{stack:List Env}{cx:Cx}{Ce:Nat}{arg:V}{e:Value}{Rr:Result->Shared->Prop}(Ei:env.frame=some env.locals)(hA:A.frames=some stack)(h1:cx.env=env)(h2:cx.stack=env::stack)(xe:eP W cx rw G O Ce arg e s)
  (hP:∀G' s' ea,G.StaysIn G'->St W G' O s'->mD W G' O s'.heap ea Ce arg (.at .none)->Rr (.error (.ref ea)) s'):wR W A env Rr e s:=by
 refine Hp (λ G2 D2 ea tb z4 kG R2 f2 ht=>?_) xe;clear xe;subst z4
 have fr:=R2.frames.1
 rw[h2] at fr
 have Fg:tb= .fresh\/tb= .at .none\/tb= .at (rawInt env.locals):=ht.imp id λ h=>h.imp id (aV λ L e1 e2=>by rw[h1,Ei] at e1;rw[e2,si e1])
 exact BE (Around.frames_deeper hA) Ei Ei R2.st fr f2 Fg λ s3 y3 f3=>hP G2 s3 ea kG (y3.sub (US _ _)) (f3.sub λ a ha=>by rw[bD];exact UE _ ha)
noncomputable def LH:Flow->Value
 | .ret v=>v
 |_=> .none
theorem FG{fn:Fn}{env:Env}{stack:List Env}{ab:Addr}{tag:Nat}{items:List Value}{Rr:Result->Shared->Prop}{r:F}{res:Res}{names:List Str}{aD:Option (List V)}(hr:runEnd fn.aD r=some res)(hb:aD.isSome=fn.aD)(x:St W G D s)
  (M1:∀xs,aD=some xs->(ab,MO.list tag items)∈D)(Ei:env.frame=some env.locals)(hA:A.frames=some stack)(hP:lB W G D ab tag aD Rr res):
  eJ W (LF A env names stack ab) true G (dM aD ab D) (λ f s'=>Rr (.ok (.ret (LH f))) s') (wR W A env Rr) r:=by
 rw[<-hb] at hr
 cases aD with
 |none=>
  cases r with
  |next sl2=>
   replace hr:=si hr;subst hr
   exact λ G2 D2 s2 kG R2=>hP G2 s2 .none [] kG (R2.st.sub (US _ _)) aL.nil sv
  |cont sl2=>exact bj hr
  |ret v sl2=>
   replace hr:=si hr;subst hr
   exact λ G2 D2 c s2 kG R2 rv=>hP G2 s2 c [] kG (R2.st.sub (US _ _)) aL.nil rv
  |exc Ce arg=>
   replace hr:=si hr;subst hr
   exact λ e s2 xe=>tj Ei hA rfl rfl xe λ G' s' ea=>hP G' s' ea rfl
 |some xs=>
  cases r with
  |next sl2=>exact bj hr
  |cont sl2=>exact bj hr
  |exc Ce arg=>exact bj hr
  |ret v sl2=>
   intro G2 D2 c s2 kG R2 rv
   replace hr:B4 v sl2=some res:=hr
   unfold B4 at hr
   cases e0:sl2[0]? with
   |none=>rw[e0] at hr;exact bj hr
   |some z=>
   rw[e0] at hr
   cases z with
   |aD ys=>
    replace hr:=si hr;subst hr
    obtain⟨p,hp,bO,q1,q2,q3⟩:=R2.get e0 (by intro e;cases e)
    exact hP G2 s2 c bO kG (B3 x (M1 xs rfl) R2.st q2) q3 rv
   |af=>exact bj hr
   |val _=>exact bj hr
   |own _=>exact bj hr
theorem FH{a:Addr}{fn:Fn}{fd:FuncData}(F:BS W a fn fd){L:Addr}{env:Env}{cl:List (Str×Addr)}(he:env.scope=fd.scope/\env.globals=fd.globals/\env.builtins=fd.builtins/\env.frame=some env.locals/\env.cells=cellsFrom L fd.scope.names cl/\env.qual=fd.qualname++(".<locals>.":Str)/\env.code=fd.code):pD W fn fd env:=by
 refine Qw (λ e1 e2 e3 e4 e5 e6 e7=>?_) he
 refine⟨e1,e2.trans F.globals,e3.trans F.builtins,e4,λ nm h=>?_,λ h=>?_⟩
 ·have:=cellsFrom_some (k:=L) (acc:=cl) (.inl (mem_of_lookup ((congrArg (λ s:Scope=>s.names.lookup nm) e1).symm.trans h)))
  rw[e5]
  exact Option.isSome_iff_exists.mp this
 ·refine fb (λ c P h1 h2=>?_)<|F.lam h
  exact⟨c,P,by rw[e6];exact h1,e7.trans h2⟩
theorem B6(K:WdOk4 W)(hS:∀pj,jY W (n+1) Wn call (fk W.P) pj){a:Addr}{fn:Fn}{fd:FuncData}(F:BS W a fn fd){aD:Option (List V)}{args:List V}{res:Res}(FI:fH call Wn fn aD args=some res)
  {stack:List Env}{ab:Addr}{tag:Nat}{cH full:List Value}{Rr:Result->Shared->Prop}(x:St W G D s)(hA:A.frames=some stack)(sZ:dT W stack D)(hh:A.handled=none)(Rm:dk (n+2) A)(ra:dS W G args cH)(hb:AZ W G D cH aD ab tag full)
  (hP:lB W G D ab tag aD Rr res):codeAny (Md W) A (.call (.ref a) ⟨full,[]⟩) Rr s:=by
 refine bJ (λ body Cd=>?_)<|qd F.M0
 refine Nf (λ oc od pW ho=>?_)<|F.at_
 refine J2 (λ items M1 x0 hk hf=>?_)<|yI x hb
 refine J2 (λ r hx hr c1 c2=>?_)<|B5 FI
 have LG:full.length=fn.np:=hf▸BX (aL.length ra) c2 c1
 have hX:=x.gD.keeps x.led.stays
 refine codeAny_call_function (by have:=Rm.1;show A.depth<1000;lia) (hX _ _ ho) rfl Cd.N8 Cd.gen Cd.PX (codeRec_of hX F.code) ?_
 rw[ow (cs:=full) Cd.par F.defaults (by rw[Cd.names];exact(List.take_sublist _ _).nodup Cd.nd) (by rw[Cd.names,List.length_take,LG];exact Nat.min_eq_left Cd.np)]
 refine UL ?_
 rw[Cd.RS]
 refine wpAny_newFunctionEnv_cells Cd.kind (λ p hp=>?_) λ env he s1 I=>?_
 ·have sQ:p.1∈fn.names.take fn.np:=by rw[<-Cd.names];exact(List.of_mem_zip (show(p.1,p.2)∈_ from hp)).1
  exact(Cd.kinds _ sQ).imp id λ h=>⟨h,cellsFrom_some (.inl (mem_of_lookup h))⟩
 ·have V:pD W fn fd env:=FH F (cl:=[]) (L:=s.heap.objs.size+1) (by rw[he];exact⟨rfl,rfl,rfl,rfl,rfl,rfl,rfl⟩)
  refine⟨(x.top.nolimit.keeps x.led.stays).keeps I.toInCall.keep,codeAny_func ?_⟩
  refine bJ (λ D' R=>?_)<|B2 (A:=A) Cd V LG ra hf (λ xs h=>(M1 xs h).2) c2 c1 x0 hk I sZ
  exact hS fn.body _ body Cd.M0 _ G D' (dM aD ab D) (gM fn aD args) s1 r (λ f s'=>Rr (.ok (.ret (LH f))) s') (wR W A env Rr) (th Cd V I.apart hA hh)
   ⟨by have:=Rm.1;show A.depth+1+(n+1)+30<1000;lia,by have:=Rm.2.1;show A.units+3+8*(n+1)+200<9900;lia,Rm.2.2⟩ R hx (FG hr c1 x (λ xs h=>(M1 xs h).1) V.Ei hA hP)
theorem qf:∀{cs:List Addr} {vs:List Value} {i:Nat} {c:Value},gB G cs vs->vs[i]?=some c->∃a,cs[i]?=some a/\G.IsCell a (some c)
 | [],[],_,_,_,h=>by cases h
 | [],_::_,_,_,h,_=>h.elim
 |_::_,[],_,_,h,_=>h.elim
 |a::cs,v::vs,0,c,h,e=>by
  replace e:some v=some c:=e
  replace e:=si e;subst e
  exact⟨a,rfl,h.1⟩
 |a::cs,v::vs,i+1,c,h,e=>by
  replace e:vs[i]?=some c:=e
  refine aV (λ b h1 h2=>?_)<|qf h.2 e
  exact⟨b,h1,h2⟩
theorem wU{α:Type}:∀{l:List (Str×α)} {i:Nat} {nm:Str} {a:α},(l.map (·.1)).Nodup->l[i]?=some (nm,a)->l.lookup nm=some a
 | [],_,_,_,_,h=>by cases h
 |(k,v)::r,0,nm,a,_,h=>by
  replace h:some (k,v)=some (nm,a):=h
  cases h
  rw[List.lookup_cons];simp
 |(k,v)::r,i+1,nm,a,hn,h=>by
  replace h:r[i]?=some (nm,a):=h
  rw[List.map_cons,List.nodup_cons] at hn
  rw[List.lookup_cons]
  have:(nm==k)=false:=beq_eq_false_iff_ne.mpr λ e=>hn.1 (by
   replace e:nm=k:=e
   subst e
   exact List.mem_map.mpr ⟨(nm,a),List.mem_of_getElem? h,rfl⟩)
  rw[this]
  exact wU hn.2 h
noncomputable def GQ(A:Around)(env:Env)(names:List Str)(stack:List Env):Cx:=⟨A.deeper env,env,names.map λ nm=>(env.cells.lookup nm).map Pl.gd,env::stack,0⟩
noncomputable def Oe(names:List Str)(sc:Scope):bQ:={ names:=names,scope:=sc,q:=true,rw:=false,lam:=false,tg:=[] }
theorem wV{names:List Str}{cl:List (Str×Addr)}{i:Nat}{p:Option Pl}(h:(names.map λ nm=>(cl.lookup nm).map Pl.gd)[i]?=some p):∃nm,names[i]?=some nm/\(cl.lookup nm).map Pl.gd=p:=by
 rw[List.getElem?_map] at h
 exact Option.map_eq_some_iff.mp h
theorem I5{env:Env}{names:List Str}{sc:Scope}{stack:List Env}(Kn:env.scope=sc)(kd:sc.kind= .function)(N9:env.globals=mainGlobals)(Oa:env.builtins=builtinsNs)(nl:∀p∈sc.names,p.2= .free\/p.2= .globalImplicit)(hn:names.Nodup)(hA:A.frames=some stack)(hh:A.handled=none):
  bS W (GQ A env names stack) (Oe names sc):=by
 have no:∀{nm:Str} {k:NameKind} {p:Prop},sc.names.lookup nm=some k->(k= .local\/k= .cell)->p:=λ{nm k p} h e=>by
  have hk:k= .free\/k= .globalImplicit:=nl _ (mem_of_lookup h)
  rcases hk with h|h<;> rw[h] at e<;> exact e.elim (λ e=>nomatch e) (λ e=>nomatch e)
 have ek:∀nm,env.kindOf nm=sc.names.lookup nm:=λ nm=>congrArg (λ s:Scope=>s.names.lookup nm) Kn
 refine⟨Kn,kd,N9,Oa,List.length_map ..,λ i nm p h1 h2=>?_,(λ e=>nomatch e),λ _=>hh,Around.frames_deeper hA,⟨env,stack,rfl,rfl⟩,λ nm h=>no h (.inr rfl),λ i j nm h1 h2=>vN hn h1 h2,(λ i hi=>nomatch hi),λ i nm h1 h2=>h2.elim (λ h=>no h (.inl rfl)) λ h=>no h (.inr rfl),(λ e=>nomatch e)⟩
 refine aV (λ PW h3 h4=>?_)<|wV h2
 refine aV (λ c h5 h6=>?_)<|Option.map_eq_some_iff.mp h4
 have:=si (h3.symm.trans h1);subst this
 exact⟨λ hk=>no ((ek _).symm.trans hk) (.inl rfl),λ k _ hk=>⟨c,h5,h6.symm⟩⟩
theorem FJ{env:Env}{names:List Str}{stack:List Env}{m:Str->Option Value}{bM:List V}{vs:List Value}(y1:St W G ([(env.locals,MO.ns m)]++D) s)(cw:bM.length=names.length)(hn:names.Nodup)(B7:names=env.cells.map (·.1))(lh:gB G (env.cells.map (·.2)) vs)(rc:dS W G bM vs)
  (Ei:env.frame=some env.locals)(kd:env.scope.kind= .function)(sZ:dT W stack D):Rel W (GQ A env names stack) false G [(env.locals,MO.ns m)] D (bM.map Slot.val) s:=by
 refine⟨y1,by rw[List.length_map,cw];exact(List.length_map ..).symm,λ i z p h1 h2=>?_,(λ e=>nomatch e),⟨λ e he=>?_,λ q hq=>UE _ (sZ.2 q hq)⟩,⟨_,List.mem_singleton.mpr rfl⟩⟩
 ·rw[List.getElem?_map] at h1
  refine aV (λ v hv z1=>?_)<|Option.map_eq_some_iff.mp h1
  refine aV (λ nm h3 h4=>?_)<|wV h2
  refine aV (λ c hc rv=>?_)<|aL.get rc hv
  refine aV (λ a ha B8=>?_)<|qf lh hc
  rw[List.getElem?_map] at ha
  refine aV (λ q hq e2=>?_)<|Option.map_eq_some_iff.mp ha
  have e1:q.1=nm:=by
   rw[B7,List.getElem?_map,hq] at h3;exact si h3
  rw[wU (B7▸hn) (hq.trans (congrArg some (Prod.ext e1 e2:q=(nm,a))))] at h4
  rw[<-z1,<-h4]
  exact⟨c,.inr B8,rv⟩
 ·rcases List.mem_cons.mp he with z|he
  ·rw[z];exact⟨by rw[kd];decide,_,_,Ei,UD _ (List.mem_singleton.mpr rfl)⟩
  ·exact(sZ.1 e he).imp id λ⟨L,m',e2,e3⟩=>⟨L,m',e2,UE _ e3⟩
noncomputable def I6:R V->Res
 | .ok v _=> .ok v []
 | .exc C arg=> .exc C arg
theorem yJ{l:pb}{bM args:List V}{res:Res}(h:iZ call l bM args=some res):args=[]/\bM.length=l.names.length/\∃r,ev call l.body (bM.map Slot.val)=some r/\I6 r=res:=by
 cases args with
 |cons a b=>exact bj h
 |nil=>
  unfold iZ at h
  by_cases hl:bM.length=l.names.length
  ·refine⟨rfl,hl,?_⟩
   replace h:=(if_pos hl).symm.trans h
   cases hx:ev call l.body (bM.map Slot.val) with
   |none=>rw[hx] at h;exact bj h
   |some r=>rw[hx] at h;exact⟨r,rfl,by cases r<;> exact si h⟩
  ·replace h:=(if_neg hl).symm.trans h;exact bj h
theorem B9(K:WdOk4 W)(hX:∀x,cE W (n+1) call (λ _ _ _=>false) x){k:Nat}{bM:List V}{l:pb}(hl:W.P.pe[k]?=some l){args:List V}{res:Res}(FI:iZ call l bM args=some res)
  {stack:List Env}{f ab:Addr}{tag:Nat}{cH full:List Value}{Rr:Result->Shared->Prop}(x:St W G D s)(hA:A.frames=some stack)(sZ:dT W stack D)(hh:A.handled=none)(Rm:dk (n+2) A)(hf:Rp W G (.lam k bM) (.ref f))(ra:dS W G args cH)(hb:full=cH)
  (hP:lB W G D ab tag none Rr res):codeAny (Md W) A (.call (.ref f) ⟨full,[]⟩) Rr s:=by
 refine rS (λ ha cw hr=>?_)<|yJ FI
 refine aV (λ r hx hr=>?_) hr
 subst hb ha hr
 have RU:full=[]:=by simpa only [dS,aL] using ra
 subst RU
 clear FI ra
 simp only [Rp,Rep] at hf
 obtain⟨f',cs,vs,ef,⟨o,fd,ho,Ua,NQ,GP,Kb,PZ⟩,lh,rc⟩:=hf
 cases ef
 rw[K.BU] at GP
 refine Qy (λ e tm yK Of Og Oh Ca Oi Oj=>?_) GP;clear GP
 unfold fk at yK
 rw[hl] at yK
 simp only [Bool.and_eq_true,decide_eq_true_eq,List.all_eq_true,Bool.or_eq_true,beq_iff_eq] at yK
 obtain⟨⟨⟨⟨c1,c2⟩,c3⟩,c4⟩,c5⟩:=yK
 have Ol:=x.led.stays
 refine kla_callFunE (by have:=Rm.1;show A.depth<1000;lia) (Ol _ _ ho) NQ Oh Og tm (PZ.keeps Ol) ?_
 rw[Ca]
 refine UL (wpAny_newFunctionEnv (λ y hy e'=>?_) (λ y hy=>nomatch hy) (λ h' qR RV=>?_) c3)
 ·rcases c4 y hy with h|h<;> rw[h] at e'<;> cases e'
 ·have pZ:∀b o,s.heap.get? b=some o->h'.get? b=some o:=λ b o e=>RV.extBut b o (Nat.ne_of_lt (Heap.lt_size e)) (UQ _ e)
  have y1:St W G ([(s.heap.objs.size,MO.ns λ x=>([]:List (Str×Value)).reverse.lookup x)]++D) { s with heap:=h',toks:=s.toks+0 }:=x.adds pZ (by simp[aQ]) (λ a ha=>by
   rw[List.mem_singleton.mp ha];exact Nat.le_refl _) λ p hp=>by
    rw[List.mem_singleton.mp hp];exact qR
  refine⟨(x.top.nolimit.keeps Ol).keeps pZ,kla_codeExpr ?_⟩
  have hn:l.names.Nodup:=iO c2
  have C:=I5 (W:=W) (env:=newEnv fd.scope s.heap.objs.size fd.globals fd.closure (fd.qualname++".<locals>.") (some f) fd.code none fd.builtins) (names:=l.names) rfl c3 Oi Oj c4 hn hA hh
  have R:=FJ (A:=A) (env:=newEnv fd.scope s.heap.objs.size fd.globals fd.closure (fd.qualname++".<locals>.") (some f) fd.code none fd.builtins) y1 cw hn (by show _=fd.closure.map _;rw[Of,c1]) (Kb▸lh) rc rfl c3 sZ
  refine hX l.body _ e c5 _ G _ D (bM.map Slot.val) _ r (λ v s'=>Rr (.ok (.ret v)) s') (wR W A _ Rr) C ⟨by have:=Rm.1;show A.depth+1+(n+1)+30<1000;lia,by have:=Rm.2.1;show A.units+3+8*(n+1)+200<9900;lia,Rm.2.2⟩ R hx ?_
  cases r with
  |ok v sl2=>exact λ G2 D2 c s2 kG _ R2 rv=>hP G2 s2 c [] kG (R2.st.sub (US _ _)) aL.nil rv
  |exc Ce arg=>exact λ ex s2 xe=>tj rfl hA rfl rfl xe λ G' s' ea=>hP G' s' ea rfl
theorem yL{P:Prog}{m k:Nat}{bM:List V}{aD:Option (List V)}{args:List V}:ao P Wn (m+1) (.lam k bM) aD args=match aD,P.pe[k]? with
  |none,some l=>iZ (ao P Wn m) l bM args
  |_,_=>none:=rfl
theorem GR(K:WdOk4 W):∀m:Nat,i5 W (2*m) (ao W.P Wn m)
 |0=>λ c aD args res h=>by
  replace h:none=some res:=h
  cases h
 |m+1=>λ c aD args res h A G D stack s f ab tag cH full Rr x hA sZ hh Rm hc ra hb hP=>by
  have HS:=GR K m
  have jj:∀k fd,i7 W.P k fd->W.bA k fd:=λ k fd hq=>by rw[K.BU];exact hq
  have P0:lB W G D ab tag aD Rr res:=by cases res<;> exact hP
  cases c with
  |fn a=>
   replace h:(match W.P.fns.lookup a with
    |some fn=>fH (ao W.P Wn m) Wn fn aD args
    |none=>none)=some res:=h
   replace hc:f=a:=hc
   subst hc
   cases Om:W.P.fns.lookup f with
   |none=>rw[Om] at h;exact bj h
   |some fn=>
   rw[Om] at h
   refine bJ (λ fd F=>?_)<|K.fns f fn Om
   have wJ:∀k sc e,fk W.P k sc e=true->fk W.P k sc e=true:=λ _ _ _ h=>h
   exact B6 (n:=2*m) K (gY K.toWdOk3 (gG K.toWdOk2 jj HS wJ) (sR K.toWdOk2 jj HS wJ) (BB K.toWdOk2 jj HS wJ)) F h x hA sZ hh Rm ra hb P0
  |lam k bM=>
   rw[yL] at h
   cases aD with
   |some xs=>cases hq:W.P.pe[k]? <;> rw[hq] at h<;> cases h
   |none=>
   cases hl:W.P.pe[k]? with
   |none=>rw[hl] at h;exact bj h
   |some l=>
   rw[hl] at h
   have wJ:∀k sc e,(λ(_:Nat) (_:Scope) (_:Expr)=>false) k sc e=true->fk W.P k sc e=true:=λ _ _ _ h=>nomatch h
   exact B9 (n:=2*m) K (λ x=>uz (λ y=>gG K.toWdOk2 jj HS wJ y) x) hl h x hA sZ hh Rm hc ra hb P0
end Mine
end
section
open PySem PySem.W PyProof.Rows PySem.Calls
namespace Mine
noncomputable def oE:Ss:=
  (.cons (.asg 1 (.bu 0))
  (.cons (.xR (.and (.cons (.aC .gt (.ai 1) (.av (.int 0))) (.cons (.aC .eq (.aZ 0 (.bin .sub (.ai 1) (.av (.int 1)))) (.av (.int 0))) .nil))) (.cons (.aug 1 .sub (.av (.int 1)))
  .nil))
  (.cons (.ret (.j3 (.ai 0) (.ai 1)))
  .nil)))
noncomputable def tn:Fn:={ np:=1,aD:=false,lam:=false,names:=["a","end"],body:=oE }
noncomputable def oF:Ss:=
  (.cons (.ite (.aC .lt (.ai 0) (.av (.int 0))) (.cons (.eR 94 "OutOfRange" false (.av (.str (Str.ofString "below nought"))))
  .nil) .nil)
  (.cons (.e8 [2,3] (.cons (.lst .nil) (.cons (.bin .sub (.bin .shl (.av (.int 1)) (.ai 1)) (.av (.int 1))) .nil)))
  (.cons (.xR (.aC .gt (.ai 0) (.av (.int 0))) (.cons (.app 2 (.bin .and (.ai 0) (.ai 3)))
  (.cons (.aug 0 .shr (.ai 1))
  .nil)))
  (.cons (.ret (.ai 2))
  .nil))))
noncomputable def tq:Fn:={ np:=2,aD:=false,lam:=false,names:=["number","w","found","mask"],body:=oF }
noncomputable def l8:Ss:=
  (.cons (.ite (.aC .ne (.bu 0) (.bu 1)) (.cons (.ret (.ik (.aC .lt (.bu 0) (.bu 1)) (.neg (.av (.int 1))) (.av (.int 1))))
  .nil) .nil)
  (.cons (.forR 2 (.cons (.bin .sub (.bu 0) (.av (.int 1))) (.cons (.neg (.av (.int 1))) (.cons (.neg (.av (.int 1))) .nil))) (.cons (.ite (.aC .ne (.aZ 0 (.ai 2)) (.aZ 1 (.ai 2))) (.cons (.ret (.ik (.aC .lt (.aZ 0 (.ai 2)) (.aZ 1 (.ai 2))) (.neg (.av (.int 1))) (.av (.int 1))))
  .nil) .nil)
  .nil))
  (.cons (.ret (.av (.int 0)))
  .nil)))
noncomputable def qg:Fn:={ np:=2,aD:=false,lam:=false,names:=["a","b","at"],body:=l8 }
noncomputable def tu:Ss:=
  (.cons (.ite (.aC .lt (.bu 0) (.bu 1)) (.cons (.e8 [0,1] (.cons (.ai 1) (.cons (.ai 0) .nil)))
  .nil) .nil)
  (.cons (.e8 [4,5,6] (.cons (.lst .nil) (.cons (.av (.int 0)) (.cons (.bin .sub (.bin .shl (.av (.int 1)) (.ai 2)) (.av (.int 1))) .nil))))
  (.cons (.forR 3 (.cons (.bu 1) .nil) (.cons (.aug 5 .add (.bin .add (.aZ 0 (.ai 3)) (.aZ 1 (.ai 3))))
  (.cons (.app 4 (.bin .and (.ai 5) (.ai 6)))
  (.cons (.aug 5 .shr (.ai 2))
  .nil))))
  (.cons (.forR 3 (.cons (.bu 1) (.cons (.bu 0) .nil)) (.cons (.aug 5 .add (.aZ 0 (.ai 3)))
  (.cons (.app 4 (.bin .and (.ai 5) (.ai 6)))
  (.cons (.aug 5 .shr (.ai 2))
  .nil))))
  (.cons (.ite (.aC .gt (.ai 5) (.av (.int 0))) (.cons (.app 4 (.ai 5))
  .nil) .nil)
  (.cons (.ret (.ai 4))
  .nil))))))
noncomputable def Cb:Fn:={ np:=3,aD:=false,lam:=false,names:=["a","b","w","at","found","carry","mask"],body:=tu }
noncomputable def gi:Ss:=
  (.cons (.ite (.aC .eq (.ai 1) (.av (.int 0))) (.cons (.ret (.lst .nil))
  .nil) .nil)
  (.cons (.e8 [4,5,6] (.cons (.lst .nil) (.cons (.av (.int 0)) (.cons (.bin .sub (.bin .shl (.av (.int 1)) (.ai 2)) (.av (.int 1))) .nil))))
  (.cons (.kM 3 (.ai 0) (.cons (.aug 5 .add (.bin .mul (.ai 3) (.ai 1)))
  (.cons (.app 4 (.bin .and (.ai 5) (.ai 6)))
  (.cons (.aug 5 .shr (.ai 2))
  .nil))))
  (.cons (.ite (.aC .gt (.ai 5) (.av (.int 0))) (.cons (.app 4 (.ai 5))
  .nil) .nil)
  (.cons (.ret (.ai 4))
  .nil)))))
noncomputable def iE:Fn:={ np:=3,aD:=false,lam:=false,names:=["a","limb","w","one","found","carry","mask"],body:=gi }
noncomputable def gN:Ss:=
  (.cons (.e8 [4,5] (.cons (.bin .fdiv (.ai 1) (.ai 2)) (.cons (.bin .mod (.ai 1) (.ai 2)) .nil)))
  (.cons (.e8 [6,7] (.cons (.lst .nil) (.cons (.bin .sub (.bin .shl (.av (.int 1)) (.ai 2)) (.av (.int 1))) .nil)))
  (.cons (.forR 3 (.cons (.ai 4) (.cons (.bu 0) .nil)) (.cons (.asg 8 (.ik (.aC .lt (.bin .add (.ai 3) (.av (.int 1))) (.bu 0)) (.aZ 0 (.bin .add (.ai 3) (.av (.int 1)))) (.av (.int 0))))
  (.cons (.app 6 (.bin .and (.bin .or (.bin .shr (.aZ 0 (.ai 3)) (.ai 5)) (.bin .shl (.ai 8) (.bin .sub (.ai 2) (.ai 5)))) (.ai 7)))
  .nil)))
  (.cons (.ret (.call 103 "normal" (.cons (.ai 6) .nil)))
  .nil))))
noncomputable def j8:Fn:={ np:=3,aD:=false,lam:=false,names:=["a","n","w","at","spots","few","found","mask","above"],body:=gN }
noncomputable def gj:Ss:=
  (.cons (.xS 2 3 (.ai 0) (.cons (.ite (.aC .gt (.ai 3) (.av (.int 0))) (.cons (.ret (.bin .sub (.bin .add (.bin .mul (.ai 2) (.ai 1)) (.ki (.bin .and (.ai 3) (.neg (.ai 3))))) (.av (.int 1))))
  .nil) .nil)
  .nil))
  (.cons (.eR 94 "OutOfRange" false (.av (.str (Str.ofString "nought"))))
  .nil))
noncomputable def kx:Fn:={ np:=2,aD:=false,lam:=false,names:=["a","w","at","limb"],body:=gj }
noncomputable def eX:Ss:=
  (.cons (.ite (.aC .lt (.ai 0) (.av (.int 2))) (.cons (.eR 94 "OutOfRange" false (.av (.str (Str.ofString "a base below 2"))))
  .nil) .nil)
  .nil)
noncomputable def iF:Fn:={ np:=1,aD:=false,lam:=false,names:=["base"],body:=eX }
noncomputable def tw:Ss:=
  (.cons (.exp (.call 166 "check_base" (.cons (.ai 1) .nil))) (.cons .any (.cons .any .nil)))
noncomputable def tx:Fn:={ np:=6,aD:=false,lam:=false,names:=["a","base","w","least","divrem","mul","powers"],body:=tw }
noncomputable def eY:Ss:=
  (.cons (.ret (.ik (.aC .lt (.ai 1) (.bin .shl (.av (.int 1)) (.ai 2))) (.call 131 "mul_limb" (.cons (.ai 0) (.cons (.ai 1) (.cons (.ai 2) .nil)))) (.fc 3 (.cons (.ai 0) (.cons (.call 110 "nat_of" (.cons (.ai 1) (.cons (.ai 2) .nil))) (.cons (.ai 2) .nil))))))
  .nil)
noncomputable def iG:Fn:={ np:=4,aD:=false,lam:=false,names:=["a","base","w","mul"],body:=eY }
noncomputable def gk:Ss:=
  (.cons (.asg 4 (.lst .nil))
  (.cons (.kM 5 (.ai 0) (.cons (.asg 4 (.call 124 "add" (.cons (.call 215 "times_base" (.cons (.ai 4) (.cons (.ai 1) (.cons (.ai 2) (.cons (.ai 3) .nil))))) (.cons (.call 110 "nat_of" (.cons (.ai 5) (.cons (.ai 2) .nil))) (.cons (.ai 2) .nil)))))
  .nil))
  (.cons (.ret (.ai 4))
  .nil)))
noncomputable def jk:Fn:={ np:=4,aD:=false,lam:=false,names:=["digits","base","w","mul","found","digit"],body:=gk }
noncomputable def cf:Ss:=
  (.cons (.asg 6 (.bin .sub (.bu 1) (.av (.int 1))))
  (.cons (.xR (.and (.cons (.aC .ge (.ai 6) (.av (.int 0))) (.cons (.aC .ge (.bin .shl (.av (.int 1)) (.ai 6)) (.bu 0)) .nil))) (.cons (.asg 6 (.bin .sub (.ai 6) (.av (.int 1))))
  .nil))
  (.cons (.ite (.or (.cons (.aC .le (.bu 0) (.ai 4)) (.cons (.aC .lt (.ai 6) (.av (.int 0))) .nil))) (.cons (.ret (.call 222 "number_plain" (.cons (.ai 0) (.cons (.ai 2) (.cons (.ai 3) (.cons (.ai 5) .nil))))))
  .nil) .nil)
  (.cons (.asg 7 (.bin .sub (.bu 0) (.bin .shl (.av (.int 1)) (.ai 6))))
  (.cons (.asg 8 (.call 229 "number_by_powers" (.cons (.j3 (.ai 0) (.ai 7)) (.cons (.ai 1) (.cons (.ai 2) (.cons (.ai 3) (.cons (.ai 4) (.cons (.ai 5) .nil))))))))
  (.cons (.asg 9 (.call 229 "number_by_powers" (.cons (.fM (.ai 0) (.ai 7)) (.cons (.ai 1) (.cons (.ai 2) (.cons (.ai 3) (.cons (.ai 4) (.cons (.ai 5) .nil))))))))
  (.cons (.ret (.call 124 "add" (.cons (.fc 5 (.cons (.ai 8) (.cons (.aZ 1 (.ai 6)) (.cons (.ai 3) .nil)))) (.cons (.ai 9) (.cons (.ai 3) .nil)))))
  .nil)))))))
noncomputable def eK:Fn:={ np:=6,aD:=false,lam:=false,names:=["digits","powers","base","w","least","mul","at","many","high","low"],body:=cf }
noncomputable def ck:Ss:=
  (.cons (.exp (.call 166 "check_base" (.cons (.ai 1) .nil)))
  (.cons (.kM 5 (.ai 0) (.cons (.ite (.not (.il (.av (.int 0)) .le (.ai 5) .lt (.ai 1))) (.cons (.eR 94 "OutOfRange" false (.av (.str (Str.ofString "a digit beyond its base"))))
  .nil) .nil)
  .nil))
  (.cons (.qw 6 (.lst .nil))
  (.cons (.ite (.aC .gt (.bu 0) (.max2 (.ai 3) (.av (.int 1)))) (.cons (.app 6 (.call 110 "nat_of" (.cons (.ai 1) (.cons (.ai 2) .nil))))
  (.cons (.xR (.aC .lt (.bin .shl (.av (.int 2)) (.bin .sub (.bu 6) (.av (.int 1)))) (.bu 0)) (.cons (.app 6 (.fc 4 (.cons (.aZ 6 (.neg (.av (.int 1)))) (.cons (.aZ 6 (.neg (.av (.int 1)))) (.cons (.ai 2) .nil)))))
  .nil))
  .nil)) .nil)
  (.cons (.ret (.call 229 "number_by_powers" (.cons (.ai 0) (.cons (.ai 6) (.cons (.ai 1) (.cons (.ai 2) (.cons (.ai 3) (.cons (.ai 4) .nil))))))))
  .nil)))))
noncomputable def eB:Fn:={ np:=5,aD:=false,lam:=false,names:=["digits","base","w","least","mul","digit","powers"],body:=ck }
noncomputable def rl:Ss:=
  (.cons (.ite (.il (.av (.int 2)) .le (.ai 0) .le (.glob "MOST_PLAIN_BASE" (.int 36))) (.cons (.ret (.glob "SMALL_LETTERS" (.bytes [48,49,50,51,52,53,54,55,56,57,97,98,99,100,101,102,103,104,105,106,107,108,109,110,111,112,113,114,115,116,117,118,119,120,121,122])))
  .nil) .nil)
  (.cons (.ite (.il (.glob "MOST_PLAIN_BASE" (.int 36)) .lt (.ai 0) .le (.glob "MOST_BASE" (.int 62))) (.cons (.ret (.glob "BOTH_LETTERS" (.bytes [48,49,50,51,52,53,54,55,56,57,65,66,67,68,69,70,71,72,73,74,75,76,77,78,79,80,81,82,83,84,85,86,87,88,89,90,97,98,99,100,101,102,103,104,105,106,107,108,109,110,111,112,113,114,115,116,117,118,119,120,121,122])))
  .nil) .nil)
  (.cons (.ite (.il (.neg (.glob "MOST_PLAIN_BASE" (.int 36))) .le (.ai 0) .le (.neg (.av (.int 2)))) (.cons (.ret (.glob "GREAT_LETTERS" (.bytes [48,49,50,51,52,53,54,55,56,57,65,66,67,68,69,70,71,72,73,74,75,76,77,78,79,80,81,82,83,84,85,86,87,88,89,90])))
  .nil) .nil)
  (.cons (.eR 94 "OutOfRange" false (.av (.str (Str.ofString "a base beyond 62"))))
  .nil))))
noncomputable def rm:Fn:={ np:=1,aD:=false,lam:=false,names:=["base"],body:=rl }
noncomputable def yM:Ss:=
  (.cons (.zK (.call 243 "letters_of" (.cons (.ai 1) .nil))) (.cons .any (.cons .any (.cons .any .nil))))
noncomputable def yN:Fn:={ np:=6,aD:=false,lam:=false,names:=["x","base","w","least","divrem","mul"],body:=yM }
noncomputable def gO:Ss:=
  (.cons (.ite (.il (.av (.int 48)) .le (.ai 0) .le (.av (.int 57))) (.cons (.ret (.bin .sub (.ai 0) (.av (.int 48))))
  .nil) .nil)
  (.cons (.ite (.il (.av (.int 65)) .le (.ai 0) .le (.av (.int 90))) (.cons (.ret (.bin .sub (.ai 0) (.av (.int 55))))
  .nil) .nil)
  (.cons (.ite (.il (.av (.int 97)) .le (.ai 0) .le (.av (.int 122))) (.cons (.ret (.ik (.aC .gt (.ai 1) (.glob "MOST_PLAIN_BASE" (.int 36))) (.bin .sub (.ai 0) (.av (.int 61))) (.bin .sub (.ai 0) (.av (.int 87)))))
  .nil) .nil)
  (.cons (.ret (.av (.int 99)))
  .nil))))
noncomputable def j9:Fn:={ np:=2,aD:=false,lam:=false,names:=["octet","base"],body:=gO }
noncomputable def iH:Ss:=
  (.cons (.xR (.and (.cons (.aC .lt (.ai 1) (.bu 0)) (.cons (.aC .zA (.aZ 0 (.ai 1)) (.glob "TEXT_BLANKS" (.bytes [32,9,10,11,12,13]))) .nil))) (.cons (.asg 1 (.bin .add (.ai 1) (.av (.int 1))))
  .nil))
  (.cons (.ret (.ai 1))
  .nil))
noncomputable def lC:Fn:={ np:=2,aD:=false,lam:=false,names:=["text","at"],body:=iH }
noncomputable def jl:Ss:=
  (.cons (.ite (.aC .ne (.zI (.ai 0) (.ai 1) (.bin .add (.ai 1) (.av (.int 1)))) (.av (.bytes [48]))) (.cons (.ret (.tup (.cons (.av (.int 10)) (.cons (.ai 1) .nil))))
  .nil) .nil)
  (.cons (.ite (.aC .zA (.zI (.ai 0) (.bin .add (.ai 1) (.av (.int 1))) (.bin .add (.ai 1) (.av (.int 2)))) (.tup (.cons (.av (.bytes [120])) (.cons (.av (.bytes [88])) .nil)))) (.cons (.ret (.tup (.cons (.av (.int 16)) (.cons (.bin .add (.ai 1) (.av (.int 2))) .nil))))
  .nil) .nil)
  (.cons (.ite (.aC .zA (.zI (.ai 0) (.bin .add (.ai 1) (.av (.int 1))) (.bin .add (.ai 1) (.av (.int 2)))) (.tup (.cons (.av (.bytes [98])) (.cons (.av (.bytes [66])) .nil)))) (.cons (.ret (.tup (.cons (.av (.int 2)) (.cons (.bin .add (.ai 1) (.av (.int 2))) .nil))))
  .nil) .nil)
  (.cons (.ret (.tup (.cons (.av (.int 8)) (.cons (.bin .add (.ai 1) (.av (.int 1))) .nil))))
  .nil))))
noncomputable def mM:Fn:={ np:=2,aD:=false,lam:=false,names:=["text","at"],body:=jl }
noncomputable def eC:Ss:=
  (.cons (.qw 3 (.lst .nil))
  (.cons (.forR 4 (.cons (.ai 1) (.cons (.bu 0) .nil)) (.cons (.ite (.aC .zA (.aZ 0 (.ai 4)) (.glob "TEXT_BLANKS" (.bytes [32,9,10,11,12,13]))) (.cons .cont
  .nil) .nil)
  (.cons (.asg 5 (.call 255 "digit_worth" (.cons (.aZ 0 (.ai 4)) (.cons (.ai 2) .nil))))
  (.cons (.ite (.aC .ge (.ai 5) (.ai 2)) (.cons (.eR 70 "BadText" true (.ai 4))
  .nil) .nil)
  (.cons (.app 3 (.ai 5))
  .nil)))))
  (.cons (.ret (.ai 3))
  .nil)))
noncomputable def gP:Fn:={ np:=3,aD:=false,lam:=false,names:=["text","at","base","found","place","worth"],body:=eC }
noncomputable def fy:Ss:=
  (.cons (.ite (.and (.cons (.aC .ne (.ai 1) (.av (.int 0))) (.cons (.not (.il (.av (.int 2)) .le (.ai 1) .le (.glob "MOST_BASE" (.int 62)))) .nil))) (.cons (.eR 94 "OutOfRange" false (.av (.str (Str.ofString "a base beyond 62"))))
  .nil) .nil)
  (.cons (.asg 5 (.call 262 "blanks_end" (.cons (.ai 0) (.cons (.av (.int 0)) .nil))))
  (.cons (.asg 6 (.rZ (.cons (.cmp .lt (.ai 5) (.bu 0)) (.cons (.cmp .eq (.aZ 0 (.ai 5)) (.glob "MINUS_SIGN" (.int 45))) .nil))))
  (.cons (.ite (.val (.ai 6)) (.cons (.asg 5 (.bin .add (.ai 5) (.av (.int 1))))
  .nil) .nil)
  (.cons (.ite (.or (.cons (.aC .ge (.ai 5) (.bu 0)) (.cons (.aC .ge (.call 255 "digit_worth" (.cons (.aZ 0 (.ai 5)) (.cons (.ai 1) .nil))) (.ik (.aC .eq (.ai 1) (.av (.int 0))) (.av (.int 10)) (.ai 1))) .nil))) (.cons (.eR 70 "BadText" true (.ai 5))
  .nil) .nil)
  (.cons (.ite (.aC .eq (.ai 1) (.av (.int 0))) (.cons (.Ed [1,5] (.call 269 "prefix_at" (.cons (.ai 0) (.cons (.ai 5) .nil))))
  .nil) .nil)
  (.cons (.asg 7 (.call 236 "from_digits" (.cons (.call 276 "text_digits" (.cons (.ai 0) (.cons (.ai 5) (.cons (.ai 1) .nil)))) (.cons (.ai 1) (.cons (.ai 2) (.cons (.ai 3) (.cons (.ai 4) .nil)))))))
  (.cons (.ret (.tup (.cons (.rZ (.cons (.ai 6) (.cons (.cmp .gt (.bu 7) (.av (.int 0))) .nil))) (.cons (.ai 7) .nil))))
  .nil))))))))
noncomputable def jm:Fn:={ np:=5,aD:=false,lam:=false,names:=["text","base","w","least","mul","at","is_below","found"],body:=fy }
noncomputable def gm:Ss:=
  (.cons (.ite (.aC .eq (.bin .mod (.ai 0) (.av (.int 2))) (.av (.int 0))) (.cons (.eR 82 "NoInverse" false (.av (.str (Str.ofString "an even limb has no inverse"))))
  .nil) .nil)
  (.cons (.asg 2 (.bin .shl (.av (.int 1)) (.ai 1)))
  (.cons (.e8 [3,4] (.cons (.bin .mod (.ai 0) (.ai 2)) (.cons (.av (.int 3)) .nil)))
  (.cons (.xR (.aC .lt (.ai 4) (.ai 1)) (.cons (.asg 3 (.bin .mod (.bin .mul (.ai 3) (.bin .mod (.bin .sub (.av (.int 2)) (.bin .mul (.ai 0) (.ai 3))) (.ai 2))) (.ai 2)))
  (.cons (.asg 4 (.bin .mul (.av (.int 2)) (.ai 4)))
  .nil)))
  (.cons (.ret (.ai 3))
  .nil)))))
noncomputable def jn:Fn:={ np:=2,aD:=false,lam:=false,names:=["d","w","whole","found","sure"],body:=gm }
noncomputable def jo:Ss:=
  (.cons (.ret (.call 103 "normal" (.cons (.j3 (.ai 0) (.ai 1)) .nil)))
  .nil)
noncomputable def jq:Fn:={ np:=2,aD:=false,lam:=false,names:=["a","n"],body:=jo }
noncomputable def iI:Ss:=
  (.cons (.asg 3 (.bin .sub (.bin .shl (.av (.int 1)) (.ai 2)) (.av (.int 1))))
  (.cons (.uC 4 (.fG 5 (.ai 1) (.bin .sub (.ai 3) (.ik (.aC .lt (.ai 5) (.bu 0)) (.aZ 0 (.ai 5)) (.av (.int 0))))))
  (.cons (.ret (.call 297 "low_limbs" (.cons (.call 124 "add" (.cons (.call 103 "normal" (.cons (.ai 4) .nil)) (.cons (.lst (.cons (.av (.int 1)) .nil)) (.cons (.ai 2) .nil)))) (.cons (.ai 1) .nil))))
  .nil)))
noncomputable def lD:Fn:={ np:=3,aD:=false,lam:=false,names:=["a","n","w","top","turned","at"],body:=iI }
noncomputable def cX:Ss:=
  (.cons (.ite (.or (.cons (.aC .eq (.bu 0) (.av (.int 0))) (.cons (.aC .eq (.bin .mod (.aZ 0 (.av (.int 0))) (.av (.int 2))) (.av (.int 0))) .nil))) (.cons (.eR 82 "NoInverse" false (.av (.str (Str.ofString "an even number has no inverse"))))
  .nil) .nil)
  (.cons (.ite (.aC .eq (.ai 1) (.av (.int 0))) (.cons (.ret (.lst .nil))
  .nil) .nil)
  (.cons (.e8 [4,5] (.cons (.lst (.cons (.call 290 "inverse_limb" (.cons (.aZ 0 (.av (.int 0))) (.cons (.ai 2) .nil))) .nil)) (.cons (.av (.int 1)) .nil)))
  (.cons (.xR (.aC .lt (.ai 5) (.ai 1)) (.cons (.asg 5 (.min2 (.bin .mul (.av (.int 2)) (.ai 5)) (.ai 1)))
  (.cons (.asg 6 (.call 297 "low_limbs" (.cons (.fc 3 (.cons (.call 297 "low_limbs" (.cons (.ai 0) (.cons (.ai 5) .nil))) (.cons (.ai 4) (.cons (.ai 2) .nil)))) (.cons (.ai 5) .nil))))
  (.cons (.asg 7 (.call 297 "low_limbs" (.cons (.call 124 "add" (.cons (.call 302 "complement" (.cons (.ai 6) (.cons (.ai 5) (.cons (.ai 2) .nil)))) (.cons (.lst (.cons (.av (.int 2)) .nil)) (.cons (.ai 2) .nil)))) (.cons (.ai 5) .nil))))
  (.cons (.asg 4 (.call 297 "low_limbs" (.cons (.fc 3 (.cons (.ai 4) (.cons (.ai 7) (.cons (.ai 2) .nil)))) (.cons (.ai 5) .nil))))
  .nil)))))
  (.cons (.ret (.ai 4))
  .nil)))))
noncomputable def fs:Fn:={ np:=4,aD:=false,lam:=false,names:=["b","n","w","mul","found","size","rest","wanted"],body:=cX }
noncomputable def gn:Ss:=
  (.cons (.e8 [6,7,8] (.cons (.bin .shl (.av (.int 1)) (.ai 4)) (.cons (.av (.int 0)) (.cons (.ai 3) .nil))))
  (.cons (.kM 5 (.ai 1) (.cons (.asg 9 (.bin .sub (.bin .sub (.aZ 0 (.ai 8)) (.bin .mul (.ai 2) (.ai 5))) (.ai 7)))
  (.cons (.mW 0 (.ai 8) (.bin .mod (.ai 9) (.ai 6)))
  (.cons (.asg 7 (.neg (.bin .fdiv (.ai 9) (.ai 6))))
  (.cons (.asg 8 (.bin .add (.ai 8) (.av (.int 1))))
  .nil)))))
  (.cons (.xR (.and (.cons (.aC .gt (.ai 7) (.av (.int 0))) (.cons (.aC .lt (.ai 8) (.bu 0)) .nil))) (.cons (.asg 9 (.bin .sub (.aZ 0 (.ai 8)) (.ai 7)))
  (.cons (.mW 0 (.ai 8) (.bin .mod (.ai 9) (.ai 6)))
  (.cons (.asg 7 (.neg (.bin .fdiv (.ai 9) (.ai 6))))
  (.cons (.asg 8 (.bin .add (.ai 8) (.av (.int 1))))
  .nil)))))
  (.cons (.ret (.ai 7))
  .nil))))
noncomputable def jr:Fn:={ np:=5,aD:=true,lam:=false,names:=["row","b","limb","spot","w","piece","whole","borrow","at","left"],body:=gn }
noncomputable def dp:Ss:=
  (.cons (.ite (.or (.cons (.aC .eq (.bu 1) (.av (.int 0))) (.cons (.aC .eq (.bin .mod (.aZ 1 (.av (.int 0))) (.av (.int 2))) (.av (.int 0))) .nil))) (.cons (.eR 82 "NoInverse" false (.av (.str (Str.ofString "an even divisor from the low end"))))
  .nil) .nil)
  (.cons (.e8 [7,8] (.cons (.call 290 "inverse_limb" (.cons (.aZ 1 (.av (.int 0))) (.cons (.ai 3) .nil))) (.cons (.bin .shl (.av (.int 1)) (.ai 3)) .nil)))
  (.cons (.asg 4 (.max2 (.bu 0) (.bin .add (.ai 2) (.bu 1))))
  (.cons (.e8 [9,10,11] (.cons (.bin .add (.ai 0) (.bin .mul (.lst (.cons (.av (.int 0)) .nil)) (.bin .sub (.ai 4) (.bu 0)))) (.cons (.lst .nil) (.cons (.av (.int 0)) .nil))))
  (.cons (.forR 5 (.cons (.ai 2) .nil) (.cons (.asg 12 (.bin .mod (.bin .mul (.aZ 9 (.ai 5)) (.ai 7)) (.ai 8)))
  (.cons (.app 10 (.ai 12))
  (.cons (.asg 11 (.bin .add (.ai 11) (.b8 316 "take_product" 9 (.cons (.ai 1) (.cons (.ai 12) (.cons (.ai 5) (.cons (.ai 3) .nil)))))))
  .nil))))
  (.cons (.asg 6 (.call 103 "normal" (.cons (.fM (.ai 9) (.ai 2)) .nil)))
  (.cons (.ite (.aC .gt (.ai 11) (.av (.int 0))) (.cons (.ret (.tup (.cons (.call 103 "normal" (.cons (.ai 10) .nil)) (.cons (.av (.bool true)) (.cons (.call 302 "complement" (.cons (.ai 6) (.cons (.bin .sub (.ai 4) (.ai 2)) (.cons (.ai 3) .nil)))) .nil)))))
  .nil) .nil)
  (.cons (.ret (.tup (.cons (.call 103 "normal" (.cons (.ai 10) .nil)) (.cons (.av (.bool false)) (.cons (.ai 6) .nil)))))
  .nil))))))))
noncomputable def fP:Fn:={ np:=4,aD:=false,lam:=false,names:=["a","b","n","w","size","at","rest","inverse","whole","row","found","borrowed","limb"],body:=dp }
noncomputable def dU:Ss:=
  (.cons (.asg 3 (.call 152 "trailing" (.cons (.ai 1) (.cons (.ai 2) .nil))))
  (.cons (.ite (.aC .lt (.call 152 "trailing" (.cons (.ai 0) (.cons (.ai 2) .nil))) (.ai 3)) (.cons (.ret (.av .none))
  .nil) .nil)
  (.cons (.ret (.tup (.cons (.call 145 "shift_right" (.cons (.ai 0) (.cons (.ai 3) (.cons (.ai 2) .nil)))) (.cons (.call 145 "shift_right" (.cons (.ai 1) (.cons (.ai 3) (.cons (.ai 2) .nil)))) .nil))))
  .nil)))
noncomputable def gp:Fn:={ np:=3,aD:=false,lam:=false,names:=["a","b","w","many"],body:=dU }
noncomputable def bH:Ss:=
  (.cons (.ite (.aC .eq (.bu 0) (.av (.int 0))) (.cons (.ret (.lst .nil))
  .nil) .nil)
  (.cons (.asg 3 (.call 330 "without_twos" (.cons (.ai 0) (.cons (.ai 1) (.cons (.ai 2) .nil)))))
  (.cons (.ite (.or (.cons (.aC .Hq (.ai 3) (.av .none)) (.cons (.aC .lt (.len (.aZ 3 (.av (.int 0)))) (.len (.aZ 3 (.av (.int 1))))) .nil))) (.cons (.ret (.av .none))
  .nil) .nil)
  (.cons (.Ed [4,5,6] (.call 323 "divrem_low" (.cons (.aZ 3 (.av (.int 0))) (.cons (.aZ 3 (.av (.int 1))) (.cons (.bin .add (.bin .sub (.len (.aZ 3 (.av (.int 0)))) (.len (.aZ 3 (.av (.int 1))))) (.av (.int 1))) (.cons (.ai 2) .nil))))))
  (.cons (.ret (.ik (.or (.cons (.val (.ai 5)) (.cons (.aC .gt (.bu 6) (.av (.int 0))) .nil))) (.av .none) (.ai 4)))
  .nil)))))
noncomputable def dc:Fn:={ np:=3,aD:=false,lam:=false,names:=["a","b","w","odd","found","is_below","rest"],body:=bH }
noncomputable def cN:Ss:=
  (.cons (.ite (.aC .eq (.bu 1) (.av (.int 0))) (.cons (.eR 37 "DivisionByZero" false (.av (.str (Str.ofString "exact division by 0"))))
  .nil) .nil)
  (.cons (.asg 3 (.call 337 "exact_quotient" (.cons (.ai 0) (.cons (.ai 1) (.cons (.ai 2) .nil)))))
  (.cons (.ite (.aC .Hq (.ai 3) (.av .none)) (.cons (.eR 49 "NotExact" false (.av (.str (Str.ofString "no exact division"))))
  .nil) .nil)
  (.cons (.ret (.ai 3))
  .nil))))
noncomputable def gq:Fn:={ np:=3,aD:=false,lam:=false,names:=["a","b","w","found"],body:=cN }
noncomputable def bx:Ss:=
  (.cons (.ite (.aC .eq (.bu 1) (.av (.int 0))) (.cons (.eR 37 "DivisionByZero" false (.av (.str (Str.ofString "exact division by 0"))))
  .nil) .nil)
  (.cons (.ite (.aC .eq (.bu 0) (.av (.int 0))) (.cons (.ret (.lst .nil))
  .nil) .nil)
  (.cons (.asg 4 (.call 330 "without_twos" (.cons (.ai 0) (.cons (.ai 1) (.cons (.ai 2) .nil)))))
  (.cons (.ite (.or (.cons (.aC .Hq (.ai 4) (.av .none)) (.cons (.aC .lt (.len (.aZ 4 (.av (.int 0)))) (.len (.aZ 4 (.av (.int 1))))) .nil))) (.cons (.eR 49 "NotExact" false (.av (.str (Str.ofString "no exact division"))))
  .nil) .nil)
  (.cons (.asg 5 (.bin .add (.bin .sub (.len (.aZ 4 (.av (.int 0)))) (.len (.aZ 4 (.av (.int 1))))) (.av (.int 1))))
  (.cons (.asg 6 (.call 297 "low_limbs" (.cons (.fc 3 (.cons (.call 297 "low_limbs" (.cons (.aZ 4 (.av (.int 0))) (.cons (.ai 5) .nil))) (.cons (.call 309 "inverse_low" (.cons (.aZ 4 (.av (.int 1))) (.cons (.ai 5) (.cons (.ai 2) (.cons (.ai 3) .nil))))) (.cons (.ai 2) .nil)))) (.cons (.ai 5) .nil))))
  (.cons (.ite (.aC .ne (.call 117 "compare" (.cons (.fc 3 (.cons (.ai 6) (.cons (.aZ 4 (.av (.int 1))) (.cons (.ai 2) .nil)))) (.cons (.aZ 4 (.av (.int 0))) .nil))) (.av (.int 0))) (.cons (.eR 49 "NotExact" false (.av (.str (Str.ofString "no exact division"))))
  .nil) .nil)
  (.cons (.ret (.ai 6))
  .nil))))))))
noncomputable def cP:Fn:={ np:=4,aD:=false,lam:=false,names:=["a","b","w","mul","odd","size","found"],body:=bx }
noncomputable def dW:Ss:=
  (.cons (.ite (.aC .eq (.bu 1) (.av (.int 0))) (.cons (.ret (.cmp .eq (.bu 0) (.av (.int 0))))
  .nil) .nil)
  (.cons (.ret (.cmp .wj (.call 337 "exact_quotient" (.cons (.ai 0) (.cons (.ai 1) (.cons (.ai 2) .nil)))) (.av .none)))
  .nil))
noncomputable def gr:Fn:={ np:=3,aD:=false,lam:=false,names:=["a","b","w"],body:=dW }
noncomputable def lE:Ss:=
  (.cons (.ite (.not (.il (.av (.int 0)) .le (.ai 1) .le (.ai 2))) (.cons (.eR 94 "OutOfRange" false (.av (.str (Str.ofString "a power of two beyond a limb"))))
  .nil) .nil)
  (.cons (.ret (.ik (.aC .gt (.bu 0) (.av (.int 0))) (.bin .mod (.aZ 0 (.av (.int 0))) (.bin .shl (.av (.int 1)) (.ai 1))) (.av (.int 0))))
  .nil))
noncomputable def lF:Fn:={ np:=3,aD:=false,lam:=false,names:=["a","n","w"],body:=lE }
noncomputable def Cc:Ss:=
  (.cons (.e8 [5,6] (.cons (.av (.int 0)) (.cons (.av (.int 1)) .nil)))
  (.cons (.kM 4 (.ai 0) (.cons (.asg 5 (.bin .mod (.bin .add (.ai 5) (.bin .mul (.bin .mod (.ai 4) (.ai 2)) (.ai 6))) (.ai 2)))
  (.cons (.asg 6 (.bin .mod (.bin .mul (.ai 6) (.ai 1)) (.ai 2)))
  .nil)))
  (.cons (.ret (.ai 5))
  .nil)))
noncomputable def Cf:Fn:={ np:=4,aD:=false,lam:=false,names:=["a","factor","modulus","w","limb","found","weight"],body:=Cc }
noncomputable def vO:Ss:=
  (.cons (.ite (.not (.il (.av (.int 1)) .le (.ai 1) .le (.ai 2))) (.cons (.eR 94 "OutOfRange" false (.av (.str (Str.ofString "a row of ones beyond a limb"))))
  .nil) .nil)
  (.cons (.asg 3 (.bin .sub (.bin .shl (.av (.int 1)) (.ai 1)) (.av (.int 1))))
  (.cons (.ret (.ik (.aC .eq (.ai 3) (.av (.int 1))) (.av (.int 0)) (.call 372 "folded" (.cons (.ai 0) (.cons (.bin .mod (.bin .shl (.av (.int 1)) (.bin .mod (.ai 2) (.ai 1))) (.ai 3)) (.cons (.ai 3) (.cons (.ai 2) .nil)))))))
  .nil)))
noncomputable def vP:Fn:={ np:=3,aD:=false,lam:=false,names:=["a","n","w","modulus"],body:=vO }
noncomputable def l9:Ss:=
  (.cons (.ite (.not (.il (.av (.int 1)) .le (.ai 1) .lt (.ai 2))) (.cons (.eR 94 "OutOfRange" false (.av (.str (Str.ofString "a power of two and one beyond a limb"))))
  .nil) .nil)
  (.cons (.asg 3 (.bin .add (.bin .shl (.av (.int 1)) (.ai 1)) (.av (.int 1))))
  (.cons (.e8 [4,5] (.cons (.bin .fdiv (.ai 2) (.ai 1)) (.cons (.bin .shl (.av (.int 1)) (.bin .mod (.ai 2) (.ai 1))) .nil)))
  (.cons (.ret (.call 372 "folded" (.cons (.ai 0) (.cons (.ik (.aC .eq (.bin .mod (.ai 4) (.av (.int 2))) (.av (.int 0))) (.bin .mod (.ai 5) (.ai 3)) (.bin .mod (.neg (.ai 5)) (.ai 3))) (.cons (.ai 3) (.cons (.ai 2) .nil))))))
  .nil))))
noncomputable def ma:Fn:={ np:=3,aD:=false,lam:=false,names:=["a","n","w","modulus","turns","rest"],body:=l9 }
noncomputable def gu:Ss:=
  (.cons (.mW 0 (.av (.int 1)) (.bin .add (.aZ 0 (.av (.int 1))) (.av (.int 1))))
  (.cons (.ite (.aC .le (.aZ 0 (.av (.int 1))) (.len (.aZ 0 (.av (.int 0))))) (.cons (.ret (.bin .mod (.abs (.idx (.aZ 0 (.av (.int 0))) (.bin .sub (.aZ 0 (.av (.int 1))) (.av (.int 1))))) (.ai 1)))
  .nil) .nil)
  (.cons (.ret (.bin .mod (.bin .add (.bin .add (.bin .mul (.av (.int 3)) (.aZ 0 (.av (.int 1)))) (.bin .fdiv (.aZ 0 (.av (.int 1))) (.av (.int 4)))) (.aZ 0 (.av (.int 2)))) (.ai 1)))
  .nil)))
noncomputable def ky:Fn:={ np:=2,aD:=true,lam:=false,names:=["well","many"],body:=gu }
noncomputable def js:Ss:=
  (.cons (.qw 2 (.lst .nil))
  (.cons (.xR (.aC .gt (.ai 0) (.av (.int 0))) (.cons (.app 2 (.bin .mod (.ai 0) (.bin .shl (.av (.int 1)) (.ai 1))))
  (.cons (.asg 0 (.bin .shr (.ai 0) (.ai 1)))
  .nil)))
  (.cons (.ret (.ai 2))
  .nil)))
noncomputable def mO:Fn:={ np:=2,aD:=false,lam:=false,names:=["n","w","found"],body:=js }
noncomputable def iJ:Ss:=
  (.cons (.asg 2 (.av (.int 0)))
  (.cons (.kM 3 (.rev (.ai 0)) (.cons (.asg 2 (.bin .add (.bin .shl (.ai 2) (.ai 1)) (.ai 3)))
  .nil))
  (.cons (.ret (.ai 2))
  .nil)))
noncomputable def lG:Fn:={ np:=2,aD:=false,lam:=false,names:=["a","w","found","limb"],body:=iJ }
noncomputable def jt:Ss:=
  (.cons (.ret (.call 400 "_law_limbs" (.cons (.bin .mul (.call 407 "_law_number" (.cons (.ai 0) (.cons (.ai 2) .nil))) (.call 407 "_law_number" (.cons (.ai 1) (.cons (.ai 2) .nil)))) (.cons (.ai 2) .nil))))
  .nil)
noncomputable def mP:Fn:={ np:=3,aD:=false,lam:=false,names:=["a","b","w"],body:=jt }
noncomputable def kE:Ss:=
  (.cons (.r7 (.cons (.exp (.fc 0 .nil))
  .nil) (.cons 70 "BadText" [70] none (.cons (.ret (.glob "BadText" (.cls 70)))
  .nil) (.cons 24 "GmpError" [37,49,70,82,94] (some 1) (.cons (.zJ 2 (.tup (.cons (.glob "DivisionByZero" (.cls 37)) (.cons (.glob "NoInverse" (.cls 82)) (.cons (.glob "NotExact" (.cls 49)) (.cons (.glob "OutOfRange" (.cls 94)) .nil))))) (.cons (.ite (.val (.nL 1 2 [37,49,82,94])) (.cons (.ret (.ai 2))
  .nil) .nil)
  .nil))
  .nil) .nil)))
  (.cons (.ret (.av .none))
  .nil))
noncomputable def oG:Fn:={ np:=1,aD:=false,lam:=false,names:=["work","e","kind"],body:=kE }
noncomputable def fz:Ss:=
  (.cons (.r7 (.cons (.Ed [4,5] (.call 283 "from_text" (.cons (.ai 0) (.cons (.ai 1) (.cons (.ai 2) (.cons (.av (.int 2)) (.cons (.glob "_law_times" (.obj 414)) .nil)))))))
  .nil) (.cons 70 "BadText" [70] (some 3) (.cons (.ret (.tup (.cons (.av (.str (Str.ofString "bad"))) (.cons (.iU 3 70) .nil))))
  .nil) .nil))
  (.cons (.ret (.ik (.val (.ai 4)) (.neg (.call 407 "_law_number" (.cons (.ai 5) (.cons (.ai 2) .nil)))) (.call 407 "_law_number" (.cons (.ai 5) (.cons (.ai 2) .nil)))))
  .nil))
noncomputable def ju:Fn:={ np:=3,aD:=false,lam:=false,names:=["text","base","w","e","is_below","a"],body:=fz }
noncomputable def jv:Ss:=
  (.cons (.ite (.aC .gt (.ai 1) (.av (.int 36))) (.cons (.ret (.idx (.bin .add (.glob "_law_great" (.bytes [48,49,50,51,52,53,54,55,56,57,65,66,67,68,69,70,71,72,73,74,75,76,77,78,79,80,81,82,83,84,85,86,87,88,89,90])) (.fM (.glob "_law_small" (.bytes [48,49,50,51,52,53,54,55,56,57,97,98,99,100,101,102,103,104,105,106,107,108,109,110,111,112,113,114,115,116,117,118,119,120,121,122])) (.av (.int 10)))) (.ai 0)))
  .nil) .nil)
  (.cons (.ret (.ik (.val (.ai 2)) (.idx (.glob "_law_great" (.bytes [48,49,50,51,52,53,54,55,56,57,65,66,67,68,69,70,71,72,73,74,75,76,77,78,79,80,81,82,83,84,85,86,87,88,89,90])) (.ai 0)) (.idx (.glob "_law_small" (.bytes [48,49,50,51,52,53,54,55,56,57,97,98,99,100,101,102,103,104,105,106,107,108,109,110,111,112,113,114,115,116,117,118,119,120,121,122])) (.ai 0))))
  .nil))
noncomputable def mQ:Fn:={ np:=3,aD:=false,lam:=false,names:=["worth","base","is_great"],body:=jv }
noncomputable def cg:Ss:=
  (.cons (.asg 2 (.idx (.lst (.cons (.av (.int 0)) (.cons (.av (.int 0)) (.cons (.av (.int 2)) (.cons (.av (.int 10)) (.cons (.av (.int 16)) (.cons (.av (.int 36)) (.cons (.av (.int 37)) (.cons (.av (.int 62)) .nil))))))))) (.b8 393 "_law_give" 0 (.cons (.av (.int 8)) .nil))))
  (.cons (.Ed [6,7] (.ik (.aC .eq (.ai 2) (.av (.int 0))) (.idx (.lst (.cons (.tup (.cons (.av (.bytes [])) (.cons (.av (.int 10)) .nil))) (.cons (.tup (.cons (.av (.bytes [48,120])) (.cons (.av (.int 16)) .nil))) (.cons (.tup (.cons (.av (.bytes [48,66])) (.cons (.av (.int 2)) .nil))) (.cons (.tup (.cons (.av (.bytes [48])) (.cons (.av (.int 8)) .nil))) .nil))))) (.b8 393 "_law_give" 0 (.cons (.av (.int 4)) .nil))) (.tup (.cons (.av (.bytes [])) (.cons (.ai 2) .nil)))))
  (.cons (.asg 3 (.bin .add (.idx (.lst (.cons (.av (.bytes [])) (.cons (.av (.bytes [32])) (.cons (.av (.bytes [10,9])) .nil)))) (.b8 393 "_law_give" 0 (.cons (.av (.int 3)) .nil))) (.idx (.lst (.cons (.av (.bytes [])) (.cons (.av (.bytes [45])) .nil))) (.b8 393 "_law_give" 0 (.cons (.av (.int 2)) .nil)))))
  (.cons (.e8 [8,3] (.cons (.cmp .eq (.fM (.ai 3) (.neg (.av (.int 1)))) (.av (.bytes [45]))) (.cons (.bin .add (.ai 3) (.ai 6)) .nil)))
  (.cons (.e8 [9,10] (.cons (.av (.int 0)) (.cons (.b8 393 "_law_give" 0 (.cons (.av (.int 4)) .nil)) .nil)))
  (.cons (.forR 4 (.cons (.ai 10) .nil) (.cons (.asg 11 (.b8 393 "_law_give" 0 (.cons (.ai 7) .nil)))
  (.cons (.ite (.and (.cons (.aC .eq (.ai 4) (.av (.int 0))) (.cons (.aC .eq (.ai 6) (.av (.bytes []))) (.cons (.aC .eq (.ai 2) (.av (.int 0))) .nil)))) (.cons (.asg 11 (.bin .add (.av (.int 1)) (.bin .mod (.ai 11) (.av (.int 9)))))
  .nil) .nil)
  (.cons (.asg 9 (.bin .add (.bin .mul (.ai 9) (.ai 7)) (.ai 11)))
  (.cons (.asg 12 (.ik (.aC .gt (.ai 4) (.av (.int 0))) (.idx (.lst (.cons (.av (.bytes [])) (.cons (.av (.bytes [32])) .nil))) (.b8 393 "_law_give" 0 (.cons (.av (.int 2)) .nil))) (.av (.bytes []))))
  (.cons (.asg 3 (.bin .add (.bin .add (.ai 3) (.bytesOf (.lst (.cons (.call 442 "_law_digit" (.cons (.ai 11) (.cons (.ai 7) (.cons (.cmp .eq (.b8 393 "_law_give" 0 (.cons (.av (.int 2)) .nil)) (.av (.int 0))) .nil)))) .nil)))) (.ai 12)))
  .nil))))))
  (.cons (.asg 5 (.b8 393 "_law_give" 0 (.cons (.av (.int 5)) .nil)))
  (.cons (.ite (.aC .eq (.ai 5) (.av (.int 0))) (.cons (.asg 13 (.ik (.and (.cons (.aC .eq (.ai 10) (.av (.int 0))) (.cons (.aC .eq (.ai 6) (.av (.bytes []))) .nil))) (.tup (.cons (.av (.str (Str.ofString "bad"))) (.cons (.bu 3) .nil))) (.ik (.val (.ai 8)) (.neg (.ai 9)) (.ai 9))))
  .nil) (.cons (.asg 13 (.tup (.cons (.av (.str (Str.ofString "bad"))) (.cons (.bu 3) .nil))))
  (.cons (.asg 14 (.ik (.and (.cons (.aC .lt (.ai 7) (.av (.int 36))) (.cons (.aC .eq (.ai 5) (.av (.int 1))) .nil))) (.idx (.glob "_law_small" (.bytes [48,49,50,51,52,53,54,55,56,57,97,98,99,100,101,102,103,104,105,106,107,108,109,110,111,112,113,114,115,116,117,118,119,120,121,122])) (.ai 7)) (.idx (.av (.bytes [47,58,64,91,96,123,46])) (.b8 393 "_law_give" 0 (.cons (.av (.int 7)) .nil)))))
  (.cons (.asg 3 (.bin .add (.bin .add (.ai 3) (.bytesOf (.lst (.cons (.ai 14) .nil)))) (.av (.bytes [49]))))
  .nil))))
  (.cons (.ret (.cmp .eq (.call 435 "_law_heard" (.cons (.ai 3) (.cons (.ai 2) (.cons (.ai 1) .nil)))) (.ai 13)))
  .nil)))))))))
noncomputable def gZ:Fn:={ np:=2,aD:=true,lam:=false,names:=["well","w","told","text","turn","bad","prefix","base","is_below","worth","many","digit","blank","due","other"],body:=cg }
noncomputable def kF:Ss:=
  (.cons (.kM 1 (.tup (.cons (.av (.int 1)) (.cons (.neg (.av (.int 1))) (.cons (.av (.int 63)) (.cons (.neg (.av (.int 2))) .nil))))) (.cons (.ite (.aC .ne (.dI 428 "_law_kind" 6 [0,1]) (.glob "OutOfRange" (.cls 94))) (.cons (.ret (.av (.bool false)))
  .nil) .nil)
  .nil))
  (.cons (.kM 1 (.tup (.cons (.av (.int 0)) (.cons (.av (.int 1)) (.cons (.neg (.av (.int 1))) (.cons (.av (.int 63)) (.cons (.neg (.av (.int 37))) .nil)))))) (.cons (.ite (.aC .ne (.dI 428 "_law_kind" 5 [0,1]) (.glob "OutOfRange" (.cls 94))) (.cons (.ret (.av (.bool false)))
  .nil) .nil)
  .nil))
  (.cons (.kM 1 (.tup (.cons (.av (.int 1)) (.cons (.av (.int 0)) (.cons (.neg (.av (.int 3))) .nil)))) (.cons (.ite (.aC .ne (.dI 428 "_law_kind" 4 [0,1]) (.glob "OutOfRange" (.cls 94))) (.cons (.ret (.av (.bool false)))
  .nil) .nil)
  (.cons (.ite (.aC .ne (.dI 428 "_law_kind" 3 [0,1]) (.glob "OutOfRange" (.cls 94))) (.cons (.ret (.av (.bool false)))
  .nil) .nil)
  .nil)))
  (.cons (.asg 2 (.lst (.cons (.av (.int 1)) .nil)))
  (.cons (.asg 3 (.lst (.cons (.glob "OutOfRange" (.cls 94)) (.cons (.av .none) (.cons (.av .none) (.cons (.glob "OutOfRange" (.cls 94)) .nil))))))
  (.cons (.ite (.aC .ne (.kL 5 (.tup (.cons (.neg (.av (.int 1))) (.cons (.av (.int 0)) (.cons (.ai 0) (.cons (.bin .add (.ai 0) (.av (.int 1))) .nil))))) (.dI 428 "_law_kind" 2 [0,2,5])) (.ai 3)) (.cons (.ret (.av (.bool false)))
  .nil) .nil)
  (.cons (.ite (.aC .ne (.kL 5 (.tup (.cons (.av (.int 0)) (.cons (.av (.int 1)) (.cons (.ai 0) (.cons (.bin .add (.ai 0) (.av (.int 1))) .nil))))) (.dI 428 "_law_kind" 1 [0,2,5])) (.ai 3)) (.cons (.ret (.av (.bool false)))
  .nil) .nil)
  (.cons (.asg 4 (.lst (.cons (.glob "OutOfRange" (.cls 94)) (.cons (.ik (.aC .lt (.ai 0) (.av (.int 2))) (.glob "OutOfRange" (.cls 94)) (.av .none)) (.cons (.ik (.aC .lt (.ai 0) (.av (.int 2))) (.glob "OutOfRange" (.cls 94)) (.av .none)) (.cons (.glob "OutOfRange" (.cls 94)) .nil))))))
  (.cons (.ret (.cmp .eq (.kL 5 (.tup (.cons (.av (.int 0)) (.cons (.av (.int 1)) (.cons (.max2 (.bin .sub (.ai 0) (.av (.int 1))) (.av (.int 1))) (.cons (.ai 0) .nil))))) (.dI 428 "_law_kind" 0 [0,2,5])) (.ai 4)))
  .nil)))))))))
noncomputable def kH:Fn:={ np:=1,aD:=false,lam:=true,names:=["w","base","one","ends","due","n"],body:=kF }
noncomputable def eM:Ss:=
  (.cons (.e8 [3,4] (.cons (.bin .add (.av (.int 2)) (.b8 393 "_law_give" 0 (.cons (.av (.int 60)) .nil))) (.cons (.bin .add (.av (.int 1)) (.b8 393 "_law_give" 0 (.cons (.av (.int 3)) .nil))) .nil)))
  (.cons (.e8 [5,6] (.cons (.bin .mul (.lst (.cons (.bin .sub (.ai 3) (.av (.int 1))) .nil)) (.ai 4)) (.cons (.b8 393 "_law_give" 0 (.cons (.ai 4) .nil)) .nil)))
  (.cons (.ite (.aC .ne (.call 407 "_law_number" (.cons (.call 236 "from_digits" (.cons (.ai 5) (.cons (.ai 3) (.cons (.ai 1) (.cons (.av (.int 1)) (.cons (.glob "_law_times" (.obj 414)) .nil)))))) (.cons (.ai 1) .nil))) (.bin .sub (.bin .pow (.ai 3) (.ai 4)) (.av (.int 1)))) (.cons (.ret (.av (.bool false)))
  .nil) .nil)
  (.cons (.asg 2 (.fG 7 (.ai 4) (.ik (.aC .eq (.ai 7) (.ai 6)) (.idx (.lst (.cons (.ai 3) (.cons (.neg (.av (.int 1))) .nil))) (.b8 393 "_law_give" 0 (.cons (.av (.int 2)) .nil))) (.bin .sub (.ai 3) (.av (.int 1))))))
  (.cons (.ret (.cmp .eq (.dI 428 "_law_kind" 7 [2,1,3]) (.glob "OutOfRange" (.cls 94))))
  .nil)))))
noncomputable def gv:Fn:={ np:=2,aD:=true,lam:=true,names:=["well","w","wrong","base","size","row","place","at"],body:=eM }
noncomputable def dH:Ss:=
  (.cons (.e8 [2,3] (.cons (.bin .add (.av (.int 1)) (.b8 393 "_law_give" 0 (.cons (.av (.int 99)) .nil))) (.cons (.bin .add (.av (.int 3)) (.bin .mul (.av (.int 2)) (.b8 393 "_law_give" 0 (.cons (.av (.int 30)) .nil)))) .nil)))
  (.cons (.e8 [4,5,6] (.cons (.call 400 "_law_limbs" (.cons (.bin .mul (.ai 2) (.ai 3)) (.cons (.ai 1) .nil))) (.cons (.call 400 "_law_limbs" (.cons (.ai 3) (.cons (.ai 1) .nil))) (.cons (.call 400 "_law_limbs" (.cons (.bin .mul (.av (.int 2)) (.ai 3)) (.cons (.ai 1) .nil))) .nil))))
  (.cons (.ite (.or (.cons (.aC .ne (.dI 428 "_law_kind" 15 [1]) (.glob "NoInverse" (.cls 82))) (.cons (.aC .ne (.dI 428 "_law_kind" 14 [1,4]) (.glob "NoInverse" (.cls 82))) .nil))) (.cons (.ret (.av (.bool false)))
  .nil) .nil)
  (.cons (.ite (.aC .ne (.dI 428 "_law_kind" 13 [1]) (.glob "NoInverse" (.cls 82))) (.cons (.ret (.av (.bool false)))
  .nil) .nil)
  (.cons (.ite (.and (.cons (.aC .gt (.ai 1) (.av (.int 1))) (.cons (.aC .ne (.dI 428 "_law_kind" 12 [1,6,4]) (.glob "NoInverse" (.cls 82))) .nil))) (.cons (.ret (.av (.bool false)))
  .nil) .nil)
  (.cons (.ite (.or (.cons (.aC .ne (.call 309 "inverse_low" (.cons (.ai 5) (.cons (.av (.int 0)) (.cons (.ai 1) (.cons (.glob "_law_times" (.obj 414)) .nil))))) (.lst .nil)) (.cons (.aC .ne (.call 344 "divide_exact" (.cons (.lst .nil) (.cons (.ai 5) (.cons (.ai 1) .nil)))) (.lst .nil)) .nil))) (.cons (.ret (.av (.bool false)))
  .nil) .nil)
  (.cons (.ite (.aC .ne (.call 344 "divide_exact" (.cons (.ai 4) (.cons (.ai 5) (.cons (.ai 1) .nil)))) (.call 400 "_law_limbs" (.cons (.ai 2) (.cons (.ai 1) .nil)))) (.cons (.ret (.av (.bool false)))
  .nil) .nil)
  (.cons (.ite (.aC .ne (.repr (.lst (.cons (.call 358 "is_divisible" (.cons (.lst .nil) (.cons (.lst .nil) (.cons (.ai 1) .nil)))) (.cons (.call 358 "is_divisible" (.cons (.ai 4) (.cons (.lst .nil) (.cons (.ai 1) .nil)))) (.cons (.call 358 "is_divisible" (.cons (.ai 4) (.cons (.ai 5) (.cons (.ai 1) .nil)))) .nil))))) (.repr (.lst (.cons (.av (.bool true)) (.cons (.av (.bool false)) (.cons (.av (.bool true)) .nil)))))) (.cons (.ret (.av (.bool false)))
  .nil) .nil)
  (.cons (.ite (.aC .ne (.dI 428 "_law_kind" 11 [1,4]) (.glob "DivisionByZero" (.cls 37))) (.cons (.ret (.av (.bool false)))
  .nil) .nil)
  (.cons (.ite (.aC .ne (.dI 428 "_law_kind" 10 [1]) (.glob "DivisionByZero" (.cls 37))) (.cons (.ret (.av (.bool false)))
  .nil) .nil)
  (.cons (.xT [7,8] (.tup (.cons (.tup (.cons (.bin .add (.bin .mul (.ai 2) (.ai 3)) (.av (.int 1))) (.cons (.ai 3) .nil))) (.cons (.tup (.cons (.bin .add (.bin .mul (.bin .mul (.ai 2) (.ai 3)) (.av (.int 2))) (.av (.int 1))) (.cons (.av (.int 2)) .nil))) (.cons (.tup (.cons (.av (.int 1)) (.cons (.bin .add (.bin .shl (.ai 3) (.bin .mul (.av (.int 2)) (.ai 1))) (.av (.int 1))) .nil))) .nil)))) (.cons (.e8 [9,10] (.cons (.call 400 "_law_limbs" (.cons (.ai 7) (.cons (.ai 1) .nil))) (.cons (.call 400 "_law_limbs" (.cons (.ai 8) (.cons (.ai 1) .nil))) .nil)))
  (.cons (.ite (.aC .ne (.dI 428 "_law_kind" 9 [1,10,9]) (.glob "NotExact" (.cls 49))) (.cons (.ret (.av (.bool false)))
  .nil) .nil)
  (.cons (.ite (.aC .ne (.dI 428 "_law_kind" 8 [1,10,9]) (.glob "NotExact" (.cls 49))) (.cons (.ret (.av (.bool false)))
  .nil) .nil)
  .nil))))
  (.cons (.ret (.av (.bool true)))
  .nil))))))))))))
noncomputable def fg:Fn:={ np:=2,aD:=true,lam:=true,names:=["well","w","n","odd","a","b","even","top","below","here","there"],body:=dH }
noncomputable def Cg:Ss:=
  (.cons (.qw 1 (.lst (.cons (.j3 (.ai 0) (.av (.int 40))) (.cons (.av (.int 0)) (.cons (.bin .mod (.sum (.kL 3 (.j3 (.ai 0) (.av (.int 40))) (.abs (.ai 3)))) (.av (.int 59))) .nil)))))
  (.cons (.asg 2 (.bin .add (.av (.int 1)) (.b8 393 "_law_give" 1 (.cons (.av (.int 9)) .nil))))
  (.cons (.ite (.or (.cons (.aC .ne (.call 435 "_law_heard" (.cons (.av (.bytes [32,9,49,120])) (.cons (.av (.int 10)) (.cons (.ai 2) .nil)))) (.tup (.cons (.av (.str (Str.ofString "bad"))) (.cons (.av (.int 3)) .nil)))) (.cons (.aC .ne (.call 435 "_law_heard" (.cons (.av (.bytes [32,32])) (.cons (.av (.int 10)) (.cons (.ai 2) .nil)))) (.tup (.cons (.av (.str (Str.ofString "bad"))) (.cons (.av (.int 2)) .nil)))) .nil))) (.cons (.ret (.av (.bool false)))
  .nil) .nil)
  (.cons (.ite (.or (.cons (.not (.val (.b8 449 "_law_text_right" 1 (.cons (.ai 2) .nil)))) (.cons (.not (.val (.b8 449 "_law_text_right" 1 (.cons (.ai 2) .nil)))) .nil))) (.cons (.ret (.av (.bool false)))
  .nil) .nil)
  (.cons (.ret (.rZ (.cons (.call 454 "_law_bounds_right" (.cons (.ai 2) .nil)) (.cons (.b8 459 "_law_digits_right" 1 (.cons (.ai 2) .nil)) (.cons (.b8 466 "_law_divisions_right" 1 (.cons (.ai 2) .nil)) .nil)))))
  .nil)))))
noncomputable def jw:Fn:={ np:=1,aD:=false,lam:=false,names:=["script","well","w","cell"],body:=Cg }
noncomputable def l_0:pb:={ names:=["w","one","n"],body:=(.call 386 "mod_ones_above" (.cons (.ai 1) (.cons (.ai 2) (.cons (.ai 0) .nil)))) }
noncomputable def l_1:pb:={ names:=["w","one","n"],body:=(.call 379 "mod_ones" (.cons (.ai 1) (.cons (.ai 2) (.cons (.ai 0) .nil)))) }
noncomputable def l_2:pb:={ names:=["w","one","n"],body:=(.call 365 "mod_small_power" (.cons (.ai 1) (.cons (.ai 2) (.cons (.ai 0) .nil)))) }
noncomputable def l_3:pb:={ names:=["w","base"],body:=(.call 236 "from_digits" (.cons (.lst .nil) (.cons (.ai 1) (.cons (.ai 0) (.cons (.av (.int 2)) (.cons (.glob "_law_times" (.obj 414)) .nil)))))) }
noncomputable def l_4:pb:={ names:=["w","base"],body:=(.call 208 "to_digits" (.cons (.lst (.cons (.av (.int 1)) .nil)) (.cons (.ai 1) (.cons (.ai 0) (.cons (.av (.int 2)) (.cons (.glob "_law_parts" (.obj 421)) (.cons (.glob "_law_times" (.obj 414)) .nil))))))) }
noncomputable def l_5:pb:={ names:=["w","base"],body:=(.call 248 "to_text" (.cons (.tup (.cons (.av (.bool false)) (.cons (.lst (.cons (.av (.int 1)) .nil)) .nil))) (.cons (.ai 1) (.cons (.ai 0) (.cons (.av (.int 2)) (.cons (.glob "_law_parts" (.obj 421)) (.cons (.glob "_law_times" (.obj 414)) .nil))))))) }
noncomputable def l_6:pb:={ names:=["w","base"],body:=(.call 283 "from_text" (.cons (.av (.bytes [49])) (.cons (.ai 1) (.cons (.ai 0) (.cons (.av (.int 2)) (.cons (.glob "_law_times" (.obj 414)) .nil)))))) }
noncomputable def l_7:pb:={ names:=["wrong","w","base"],body:=(.call 236 "from_digits" (.cons (.ai 0) (.cons (.ai 2) (.cons (.ai 1) (.cons (.av (.int 1)) (.cons (.glob "_law_times" (.obj 414)) .nil)))))) }
noncomputable def l_8:pb:={ names:=["w","there","here"],body:=(.call 351 "divide_exact_newton" (.cons (.ai 2) (.cons (.ai 1) (.cons (.ai 0) (.cons (.glob "_law_times" (.obj 414)) .nil))))) }
noncomputable def l_9:pb:={ names:=["w","there","here"],body:=(.call 344 "divide_exact" (.cons (.ai 2) (.cons (.ai 1) (.cons (.ai 0) .nil)))) }
noncomputable def l_10:pb:={ names:=["w"],body:=(.call 351 "divide_exact_newton" (.cons (.lst .nil) (.cons (.lst .nil) (.cons (.ai 0) (.cons (.glob "_law_times" (.obj 414)) .nil))))) }
noncomputable def l_11:pb:={ names:=["w","a"],body:=(.call 344 "divide_exact" (.cons (.ai 1) (.cons (.lst .nil) (.cons (.ai 0) .nil)))) }
noncomputable def l_12:pb:={ names:=["w","even","a"],body:=(.call 323 "divrem_low" (.cons (.ai 2) (.cons (.ai 1) (.cons (.av (.int 1)) (.cons (.ai 0) .nil))))) }
noncomputable def l_13:pb:={ names:=["w"],body:=(.call 309 "inverse_low" (.cons (.lst .nil) (.cons (.av (.int 2)) (.cons (.ai 0) (.cons (.glob "_law_times" (.obj 414)) .nil))))) }
noncomputable def l_14:pb:={ names:=["w","a"],body:=(.call 323 "divrem_low" (.cons (.ai 1) (.cons (.lst .nil) (.cons (.av (.int 1)) (.cons (.ai 0) .nil))))) }
noncomputable def l_15:pb:={ names:=["w"],body:=(.call 290 "inverse_limb" (.cons (.av (.int 0)) (.cons (.ai 0) .nil))) }
noncomputable def prog:Prog:={
 mx:=[(("GmpError":Str),((.cls 24):V)),(("DivisionByZero":Str),((.cls 37):V)),(("NotExact":Str),((.cls 49):V)),(("BadText":Str),((.cls 70):V)),(("NoInverse":Str),((.cls 82):V)),(("OutOfRange":Str),((.cls 94):V)),(("normal":Str),((.obj 103):V)),(("nat_of":Str),((.obj 110):V)),(("compare":Str),((.obj 117):V)),(("add":Str),((.obj 124):V)),(("mul_limb":Str),((.obj 131):V)),(("shift_right":Str),((.obj 145):V)),(("trailing":Str),((.obj 152):V)),(("check_base":Str),((.obj 166):V)),(("to_digits":Str),((.obj 208):V)),(("times_base":Str),((.obj 215):V)),(("number_plain":Str),((.obj 222):V)),(("number_by_powers":Str),((.obj 229):V)),(("from_digits":Str),((.obj 236):V)),(("letters_of":Str),((.obj 243):V)),(("to_text":Str),((.obj 248):V)),(("digit_worth":Str),((.obj 255):V)),(("blanks_end":Str),((.obj 262):V)),(("prefix_at":Str),((.obj 269):V)),(("text_digits":Str),((.obj 276):V)),(("from_text":Str),((.obj 283):V)),(("inverse_limb":Str),((.obj 290):V)),(("low_limbs":Str),((.obj 297):V)),(("complement":Str),((.obj 302):V)),(("inverse_low":Str),((.obj 309):V)),(("take_product":Str),((.obj 316):V)),(("divrem_low":Str),((.obj 323):V)),(("without_twos":Str),((.obj 330):V)),(("exact_quotient":Str),((.obj 337):V)),(("divide_exact":Str),((.obj 344):V)),(("divide_exact_newton":Str),((.obj 351):V)),(("is_divisible":Str),((.obj 358):V)),(("mod_small_power":Str),((.obj 365):V)),(("folded":Str),((.obj 372):V)),(("mod_ones":Str),((.obj 379):V)),(("mod_ones_above":Str),((.obj 386):V)),(("_law_give":Str),((.obj 393):V)),(("_law_limbs":Str),((.obj 400):V)),(("_law_number":Str),((.obj 407):V)),(("_law_times":Str),((.obj 414):V)),(("_law_parts":Str),((.obj 421):V)),(("_law_kind":Str),((.obj 428):V)),(("_law_heard":Str),((.obj 435):V)),(("_law_digit":Str),((.obj 442):V)),(("_law_text_right":Str),((.obj 449):V)),(("_law_bounds_right":Str),((.obj 454):V)),(("_law_digits_right":Str),((.obj 459):V)),(("_law_divisions_right":Str),((.obj 466):V)),(("law":Str),((.obj 471):V)),(("SMALL_LETTERS":Str),((.bytes [48,49,50,51,52,53,54,55,56,57,97,98,99,100,101,102,103,104,105,106,107,108,109,110,111,112,113,114,115,116,117,118,119,120,121,122]):V)),(("GREAT_LETTERS":Str),((.bytes [48,49,50,51,52,53,54,55,56,57,65,66,67,68,69,70,71,72,73,74,75,76,77,78,79,80,81,82,83,84,85,86,87,88,89,90]):V)),(("BOTH_LETTERS":Str),((.bytes [48,49,50,51,52,53,54,55,56,57,65,66,67,68,69,70,71,72,73,74,75,76,77,78,79,80,81,82,83,84,85,86,87,88,89,90,97,98,99,100,101,102,103,104,105,106,107,108,109,110,111,112,113,114,115,116,117,118,119,120,121,122]):V)),(("TEXT_BLANKS":Str),((.bytes [32,9,10,11,12,13]):V)),(("MOST_BASE":Str),((.int 62):V)),(("MOST_PLAIN_BASE":Str),((.int 36):V)),(("MINUS_SIGN":Str),((.int 45):V)),(("_law_small":Str),((.bytes [48,49,50,51,52,53,54,55,56,57,97,98,99,100,101,102,103,104,105,106,107,108,109,110,111,112,113,114,115,116,117,118,119,120,121,122]):V)),(("_law_great":Str),((.bytes [48,49,50,51,52,53,54,55,56,57,65,66,67,68,69,70,71,72,73,74,75,76,77,78,79,80,81,82,83,84,85,86,87,88,89,90]):V))],
 qx:=["len","range","abs","max","min","sum","repr","bytes","isinstance","enumerate"],
 fns:=[(103,tn),(110,tq),(117,qg),(124,Cb),(131,iE),(145,j8),(152,kx),(166,iF),(208,tx),(215,iG),(222,jk),(229,eK),(236,eB),(243,rm),(248,yN),(255,j9),(262,lC),(269,mM),(276,gP),(283,jm),(290,jn),(297,jq),(302,lD),(309,fs),(316,jr),(323,fP),(330,gp),(337,dc),(344,gq),(351,cP),(358,gr),(365,lF),(372,Cf),(379,vP),(386,ma),(393,ky),(400,mO),(407,lG),(414,mP),(428,oG),(435,ju),(442,mQ),(449,gZ),(454,kH),(459,gv),(466,fg),(471,jw)],
 pe:=[l_0,l_1,l_2,l_3,l_4,l_5,l_6,l_7,l_8,l_9,l_10,l_11,l_12,l_13,l_14,l_15],
 fN:=[37,49,82,94],bad:=70,subs:=[(70,[70]),(24,[37,49,70,82,94])] }
end Mine
end
section
open PySem PySem.W PyProof.Rows PySem.Calls PySem.SeqAt PySem.Spec
namespace Mine
noncomputable def tA(o:Option Obj):Bool:=cT (λ t1=>pf (λ t2 d t3 sl=>vEq (.type "type") (nQ (λ cd=>true) t3) t2) t1) o
@[elab_as_elim] theorem FK{M:Option Obj->Prop}(H:∀d cd sl,M (some ⟨(.type "type"),d,(.cls cd),sl⟩))(o:Option Obj)(hc:tA o=true):M o:=
 bE (λ t1 hc=>ir (λ t2 d t3 sl hc=>cR (λ hc=>nR (λ cd hc=>H d cd sl) t3 hc) t2 hc) t1 hc) o hc
noncomputable def vQ(o:Option Obj):Bool:=cT (λ t1=>pf (λ oc d t2 sl=>kP (λ fd=>true) t2) t1) o
@[elab_as_elim] theorem Ci{M:Option Obj->Prop}(H:∀oc d fd sl,M (some ⟨oc,d,(.func fd),sl⟩))(o:Option Obj)(hc:vQ o=true):M o:=
 bE (λ t1 hc=>ir (λ oc d t2 sl hc=>lR (λ fd hc=>H oc d fd sl) t2 hc) t1 hc) o hc
noncomputable def Cj(a:Nat)(K:Frag)(t:Option Obj->Bool)(o:Option (Option Value)):Bool:=cT (λ t1=>cT (λ t2=>qD (λ t3=>vEq (a) (t (K.lookup a)) t3) t2) t1) o
@[elab_as_elim] theorem Ck{a:Nat}{K:Frag}{t:Option Obj->Bool}{M:Option (Option Value)->Prop}(H:t (K.lookup a)=true->M (some (some (.ref (a)))))(o:Option (Option Value))(hc:Cj a K t o=true):M o:=
 bE (λ t1 hc=>bE (λ t2 hc=>sg (λ t3 hc=>cR (λ hc=>H hc) t3 hc) t2 hc) t1 hc) o hc
noncomputable def LJ(i:Int)(o:Option (Option Value)):Bool:=cT (λ t1=>cT (λ t2=>qF (λ t3 t=>vEq (i) (true) t3) t2) t1) o
@[elab_as_elim] theorem I7{i:Int}{M:Option (Option Value)->Prop}(H:∀t,M (some (some (.int (i) t))))(o:Option (Option Value))(hc:LJ i o=true):M o:=
 bE (λ t1 hc=>bE (λ t2 hc=>sj (λ t3 t hc=>cR (λ hc=>H t) t3 hc) t2 hc) t1 hc) o hc
noncomputable def P1(b:List UInt8)(o:Option (Option Value)):Bool:=cT (λ t1=>cT (λ t2=>nP (λ c t=>decide (b=c.toList)) t2) t1) o
@[elab_as_elim] theorem LK{b:List UInt8}{M:Option (Option Value)->Prop}(H:∀c t,b=c.toList->M (some (some (.bytes c t))))(o:Option (Option Value))(hc:P1 b o=true):M o:=
 bE (λ t1 hc=>bE (λ t2 hc=>uI (λ c t hc=>H c t (UH hc)) t2 hc) t1 hc) o hc
noncomputable def Cn(o:Option Obj):Bool:=cT (λ t1=>pf (λ t2 d t3 sl=>vEq (.type "type") (nQ (λ cd=>cd.hasDict) t3) t2) t1) o
@[elab_as_elim] theorem Co{M:Option Obj->Prop}(H:∀d cd sl,cd.hasDict=true->M (some ⟨(.type "type"),d,(.cls cd),sl⟩))(o:Option Obj)(hc:Cn o=true):M o:=
 bE (λ t1 hc=>ir (λ t2 d t3 sl hc=>cR (λ hc=>nR (λ cd hc=>H d cd sl hc) t3 hc) t2 hc) t1 hc) o hc
noncomputable def P2(P:Prog)(K:Frag)(tabs:List (Addr×Addr×Str))(fn:Fn)(o:Option Obj):Bool:=cT (λ t1=>pf (λ oc d t2 sl=>kP (λ fd=>pM P fn fd&&codeIn K fd.code fd.qualname&&decide (fd.globals=mainGlobals)&&decide (fd.builtins=builtinsNs)&&decide (fd.defaults= .none)&&(!fn.lam || tabs.any λ t=>decide (fd.code= .ref t.1)&&decide (t.2.2=(fd.qualname++(".<locals>.":Str))++("<lambda>":Str)))) t2) t1) o
@[elab_as_elim] theorem LL{P:Prog}{K:Frag}{tabs:List (Addr×Addr×Str)}{fn:Fn}{M:Option Obj->Prop}(H:∀oc d fd sl,pM P fn fd=true->codeIn K fd.code fd.qualname=true->fd.globals=mainGlobals->fd.builtins=builtinsNs->fd.defaults= .none->(!fn.lam || tabs.any λ t=>decide (fd.code= .ref t.1)&&decide (t.2.2=(fd.qualname++(".<locals>.":Str))++("<lambda>":Str)))=true->M (some ⟨oc,d,(.func fd),sl⟩))(o:Option Obj)(hc:P2 P K tabs fn o=true):M o:=
 bE (λ t1 hc=>ir (λ oc d t2 sl hc=>lR (λ fd hc=>H oc d fd sl (al (al (al (al (al hc))))) (ar (al (al (al (al hc))))) (UH (ar (al (al (al hc))))) (UH (ar (al (al hc)))) (UH (ar (al hc))) (ar hc)) t2 hc) t1 hc) o hc
noncomputable def isRef(p:Addr)(o:Option Value):Bool:=cT (λ t1=>vEq (.ref p) (true) t1) o
@[elab_as_elim] theorem M3{p:Addr}{M:Option Value->Prop}(H:M (some (.ref p)))(o:Option Value)(hc:isRef p o=true):M o:=
 bE (λ t1 hc=>cR (λ hc=>H ) t1 hc) o hc
noncomputable def isStr(o:Value):Bool:=qE (λ f t=>true) o
@[elab_as_elim] theorem FL{M:Value->Prop}(H:∀f t,M (.str f t))(o:Value)(hc:isStr o=true):M o:=
 sh (λ f t hc=>H f t) o hc
noncomputable def isInt(o:Value):Bool:=qF (λ f t=>true) o
@[elab_as_elim] theorem wW{M:Value->Prop}(H:∀f t,M (.int f t))(o:Value)(hc:isInt o=true):M o:=
 sj (λ f t hc=>H f t) o hc
noncomputable def isBool(o:Value):Bool:=qG (λ f=>true) o
@[elab_as_elim] theorem Cp{M:Value->Prop}(H:∀f,M (.bool f))(o:Value)(hc:isBool o=true):M o:=
 xY (λ f hc=>H f) o hc
noncomputable def LM(q:Addr×Addr×Str)(o:Option Obj):Bool:=cT (λ t1=>pf (λ t2 d t3 sl=>vEq (.type "code") (jH (λ vs=>decide (vs[11]?=some (.ref q.2.1))&&isStr (vs.getD 18 .none)&&isInt (vs.getD 7 .none)&&isBool (vs.getD 9 .none)&&isInt (vs.getD 10 .none)&&!(q.1==q.2.1)) t3) t2) t1) o
@[elab_as_elim] theorem I8{q:Addr×Addr×Str}{M:Option Obj->Prop}(H:∀d vs sl,vs[11]?=some (.ref q.2.1)->isStr (vs.getD 18 .none)=true->isInt (vs.getD 7 .none)=true->isBool (vs.getD 9 .none)=true->isInt (vs.getD 10 .none)=true->(q.1==q.2.1)=false->M (some ⟨(.type "code"),d,(.fields vs),sl⟩))(o:Option Obj)(hc:LM q o=true):M o:=
 bE (λ t1 hc=>ir (λ t2 d t3 sl hc=>cR (λ hc=>mz (λ vs hc=>H d vs sl (UH (al (al (al (al (al hc)))))) (ar (al (al (al (al hc))))) (ar (al (al (al hc)))) (ar (al (al hc))) (ar (al hc)) (dn (ar hc))) t3 hc) t2 hc) t1 hc) o hc
theorem wX{o:Option Obj}(h:tA o=true):∃d cd sl,o=some ⟨.type "type",d,.cls cd,sl⟩:=FK (λ d cd sl=>⟨d,cd,sl,rfl⟩) o h
noncomputable def Cq(K:Frag)(q:Str×V):Bool:=match q.2 with
 | .cls a=>Cj a K tA (nsIn K mainGlobals q.1)
 | .obj a=>Cj a K vQ (nsIn K mainGlobals q.1)
 | .int i=>LJ i (nsIn K mainGlobals q.1)
 | .bytes b=>P1 b (nsIn K mainGlobals q.1)
 |_=>false
theorem yO{bA:Nat->FuncData->Prop}{K:Frag}{q:Str×V}(h:Cq K q=true):∃c,nsIn K mainGlobals q.1=some (some c)/\∀G,K.In G->Rep bA G q.2 c:=by
 obtain⟨nm,v⟩:=q
 show ∃c,nsIn K mainGlobals nm=some (some c)/\∀G,K.In G->Rep bA G v c
 cases v with
 |cls a=>
  refine Ck (λ h=>⟨_,rfl,λ G X=>?_⟩) (nsIn K mainGlobals nm) (h:Cj a K tA (nsIn K mainGlobals nm)=true)
  refine Nf (λ d cd sl ho=>?_)<|wX h
  simp only [Rep]
  exact⟨trivial,_,cd,X _ _ ho,rfl,rfl⟩
 |obj a=>
  refine Ck (λ h=>⟨_,rfl,λ G X=>?_⟩) (nsIn K mainGlobals nm) (h:Cj a K vQ (nsIn K mainGlobals nm)=true)
  obtain⟨oc,d,fd,sl,ho⟩:∃oc d fd sl,K.lookup a=some ⟨oc,d,.func fd,sl⟩:=Ci (λ oc d fd sl=>⟨oc,d,fd,sl,rfl⟩) _ h
  simp only [Rep]
  exact⟨trivial,oc,d,fd,sl,X _ _ ho⟩
 |int i=>exact I7 (λ t=>⟨_,rfl,λ G X=>by simp only [Rep];exact⟨t,rfl⟩⟩) (nsIn K mainGlobals nm) h
 |bytes b=>exact LK (λ c t h=>⟨_,rfl,λ G X=>by simp only [Rep];exact⟨t,by rw[h]⟩⟩) (nsIn K mainGlobals nm) h
 |_=>exact absurd h UI
noncomputable def Oo(K:Frag)(nm:Str):Bool:=decide (nsIn K mainGlobals nm=some none)&&!(nm==("__name__":Str))
noncomputable def lH(o:Option (Option Value))(v:Option Value):Bool:=decide (o=some v)
theorem gw{o:Option (Option Value)}{v:Option Value}(h:lH o v=true):o=some v:=UH h
noncomputable def vR(K:Frag)(C:Addr):Bool:=
 lH (findIn K (.ref C) "__getattribute__") (some (.builtin "BaseException.__getattribute__"))&&(lH (findIn K (.ref C) "__getattr__") none&&(decide (mroIn K C (.type "BaseException")=some true)&&(decide (mroIn K C (.type "object")=some true)&&
 (lH (findIn K (.ref C) "__class__") (some (.builtin "object.__class__"))&&(Cn (K.lookup C)&&lH (findIn K (.ref C) "at") none)))))
theorem qh{K:Frag}{C:Addr}(h:vR K C=true):dK K C:=by
 obtain⟨d,cd,sl,hd,ho⟩:∃d cd sl,cd.hasDict=true/\K.lookup C=some ⟨.type "type",d,.cls cd,sl⟩:=Co (λ d cd sl h=>⟨d,cd,sl,h,rfl⟩) _ (al (ar (ar (ar (ar (ar h))))))
 have e1:clsIn K C=some cd:=by unfold clsIn;rw[ho]
 exact⟨gw (al h),gw (al (ar h)),UH (al (ar (ar h))),UH (al (ar (ar (ar h)))),gw (al (ar (ar (ar (ar h))))),by rw[e1];rfl,by show(K.lookup C).map (·.cls)=_;rw[ho];rfl,by rw[e1];exact hd,gw (ar (ar (ar (ar (ar (ar h))))))⟩
noncomputable def LN(K:Frag)(all:List Nat)(p:Nat×List Nat):Bool:=tA (K.lookup p.1)&&decide (mroIn K p.1 (.type "BaseException")=some true)&&
 all.all (λ C=>decide (mroIn K C (.ref p.1)=some (p.2.contains C)))&&p.2.all all.contains
noncomputable def LO(K:Frag)(P:Prog)(tabs:List (Addr×Addr×Str))(q:Nat×Fn):Bool:=P2 P K tabs q.2 (K.lookup q.1)
theorem FN{W:Wd}{a:Nat}{fn:Fn}(h:LO W.K W.P W.tabs (a,fn)=true):∃fd,BS W a fn fd:=by
 refine LL (M:=λ x=>W.K.lookup a=x->∃fd,BS W a fn fd) (λ oc od fd sl h1 h2 h3 h4 h5 h6 ho=>⟨fd,⟨oc,od,sl,ho⟩,h1,h2,h3,h4,h5,λ hl=>?_⟩) _ h rfl
 rw[hl] at h6
 refine aV (λ t ht h7=>?_)<|List.any_eq_true.mp h6
 exact⟨t.1,t.2.1,by rw[<-UH (ar h7)];exact ht,UH (al h7)⟩
noncomputable def GS(K:Frag)(q:Addr×Addr×Str):Bool:=LM q (K.lookup q.1)
theorem Cr{K:Frag}{q:Addr×Addr×Str}(h:GS K q=true){G:Heap}(X:K.In G):CodeHd G q.1 q.2.1:=
 I8 (M:=λ x=>K.lookup q.1=x->CodeHd G q.1 q.2.1) (λ dd vs sl hp h2 h3 h4 h5 h6 ho=>by
  obtain⟨file,tf,e2⟩:∃f t,vs.getD 18 .none= .str f t:=FL (λ f t=>⟨f,t,rfl⟩) _ h2
  obtain⟨flags,tg,e3⟩:∃f t,vs.getD 7 .none= .int f t:=wW (λ f t=>⟨f,t,rfl⟩) _ h3
  obtain⟨RW,e4⟩:∃f,vs.getD 9 .none= .bool f:=Cp (λ f=>⟨f,rfl⟩) _ h4
  obtain⟨text,tt,e5⟩:∃f t,vs.getD 10 .none= .int f t:=wW (λ f t=>⟨f,t,rfl⟩) _ h5
  exact⟨_,vs,file,tf,flags,tg,RW,text,tt,X _ _ ho,rfl,rfl,hp,by rw[Array.getD_eq_getD_getElem?,hp];rfl,e2,e3,e4,e5,by simpa using h6⟩) _ h rfl
noncomputable def GU(K:Frag)(P:Prog)(tabs:List (Addr×Addr×Str)):Bool:=
 P.mx.all (Cq K)&&P.qx.all (Oo K)&&(P.bad::P.fN).all (vR K)&&(P.fN.all λ C=>P.fN.all λ D=>C==D || decide (mroIn K C (.ref D)=some false))&&P.subs.all (LN K (P.bad::P.fN))&&
 (P.fN.all λ C=>excIn K C [.type "Exception",.type "BaseException",.type "object"] "Exception.__new__")&&tabs.all (GS K)&&P.fns.all (LO K P tabs)
theorem jx{α:Type}:∀{l:List (Nat×α)} {a:Nat} {c:α},l.lookup a=some c->(a,c)∈l
 |(k,v)::r,a,c,h=>by
  rw[List.lookup_cons] at h
  cases hb:a==k with
  |true=>rw[hb] at h;replace h:=si h;subst h;rw[beq_iff_eq.mp hb];exact UG
  |false=>rw[hb] at h;exact UK _ (jx h)
theorem GV{K:Frag}(h:takesIn [] (.builtin "object.__class__")=some true):takesIn K (.builtin "object.__class__")=some true:=h
theorem LP{W:Wd}(Oq:∃bm o,nsIn W.K mainGlobals "__builtins__"=some (some (.ref bm))/\W.K.lookup bm=some o/\bm≠builtinsNs/\bm≠mainGlobals/\o.cls= .type "module"/\o.dict=some builtinsNs/\o.data= .plain)(h:GU W.K W.P W.tabs=true)(hl:W.bA=i7 W.P)(hb:nC W):WdOk4 W:=by
 have h8:=al h
 have h7:=al h8
 have h6:=al h7
 have h5:=al h6
 have h4:=al h5
 have h3:=al h4
 exact{
  mx:=λ p hp=>yO (List.all_eq_true.mp (al h3) p hp)
  PH:=λ nm hn=>by
   have k:=List.all_eq_true.mp (ar h3) nm hn
   exact⟨UH (al k),beq_eq_false_iff_ne.mp (dn (ar k))⟩
  look:=λ C hC=>qh (List.all_eq_true.mp (ar h4) C hC)
  apart:=λ C hC D hD et=>by
   have k:=List.all_eq_true.mp (List.all_eq_true.mp (ar h5) C hC) D hD
   rw[beq_eq_false_iff_ne.mpr et] at k
   exact UH k
  gs:=Iq
  takes:=yu
  subs:=λ p hp=>by
   have k:=List.all_eq_true.mp (ar h6) p hp
   refine Nf (λ dd cd sl ho=>?_)<|wX (al (al (al k)))
   exact⟨by unfold clsIn;rw[ho];rfl,UH (ar (al (al k))),by show(W.K.lookup p.1).map (·.cls)=_;rw[ho];rfl,λ C hC=>UH (List.all_eq_true.mp (ar (al k)) C hC)⟩
  exc:=λ C hC=>List.all_eq_true.mp (ar h7) C hC
  tabs:=λ q hq G X=>Cr (List.all_eq_true.mp (ar h8) q hq) X
  bm:=Oq
  bad:=hb
  yc:=λ p hp C hC=>by simpa using List.all_eq_true.mp (ar (List.all_eq_true.mp (ar h6) p hp)) C hC
  fns:=λ a fn hf=>FN (List.all_eq_true.mp (ar h) (a,fn) (jx hf))
  BU:=hl }
theorem wY:_root_.PySem.Slot "wrapper_descriptor" "__get__" "wrapper_descriptor.__get__":=
 .of (owner:="wrapper_descriptor") (n:="__get__") (by rw[typeLookup_type,builtinLookup_eq_fast];kernel_rfl) (by decide +kernel) (by decide +kernel) (by decide +kernel)
  (by first|exact .inl (by decide +kernel)|exact .inr (by decide +kernel)) (by rw[isSubtype_type];kernel_rfl)
theorem Cs:entryFor table "wrapper_descriptor.__get__"=some Builtin.«wrapper_descriptor.__get__»:=entryFor_of_tree (by kernel_rfl)
theorem FO(a b c:Value):argsOk "wrapper_descriptor.__get__" ⟨[a,b,c],[]⟩:=by unfold argsOk;kernel_rfl
theorem wZ:typeOf (.builtin "Exception.__init__")=pure (.type "wrapper_descriptor"):=by show builtinType _=_;rw[builtinType_eq_fast];kernel_rfl
noncomputable abbrev wrapObj(x:Addr):Obj:={ cls:= .type "method-wrapper",dict:=none,data:= .fields #[.builtin "Exception.__init__",.ref x],slots:=#[] }
section
variable{prog:Program}{w:World}{M:Model}{A:Around}{E:Value->Shared->Prop}{h:Heap}{g:Array GenState}{d:Drawn}{t:Nat}{os:OsState}
theorem Ct:".".intercalate ("Exception.__init__".cutAt '.').dropLast="Exception":=by decide +kernel
theorem I9{x C:Addr}{ox:Obj}{LQ:Option Obj}{P:PySem.Fin->Shared->Prop}(I:InstAt h x ox C LQ)(LS:Looks M h (isSubtype (.ref C) (.type "Exception")) true)(hq:P (.done (.ret (.ref h.objs.size))) ⟨h.push (wrapObj x),g,d,t,os⟩):
  wpAny M A (Builtin.«wrapper_descriptor.__get__» ⟨[.builtin "Exception.__init__",.ref x,.ref C],[]⟩) P E ⟨h,g,d,t,os⟩:=by
 unfold Builtin.«wrapper_descriptor.__get__»
 refine UC (wpAny_of_eq (a:=(.builtin "Exception.__init__",some (.ref x),some (.ref C))) (by first|rfl|kernel_rfl) ?_)
 repeat (first|(with_reducible refine wpAny_loadPart_at I.at_ ?_;rw[I.cls])|(rw[Ct];with_reducible refine Looks.at LS ?_)|wp_step)
 all_goals exact hq
theorem Ja{so D x C:Addr}{ox:Obj}{LQ:Option Obj}{l₀ l:List Value}{K:Frag}{tk:Tok}{Q:PySem.Fin->Shared->Prop}
  (GW:h.get? so=some { cls:= .type "super",dict:=none,data:= .fields #[.ref D,.ref x,.ref C],slots:=#[] })(Fj:Looks (model prog w) h (opaqueClassAbove (.ref C)) none)
  (hC:Looks (model prog w) h (mroOf (.ref C)) l₀)(hl:(l₀.dropWhile (· != .ref D)).drop 1=l)(X:K.In h)
  (hf:alongIn K "__init__" l=some (some (.builtin "Exception.__init__")))(I:InstAt h x ox C LQ)(LS:Looks (model prog w) h (isSubtype (.ref C) (.type "Exception")) true)(Ot:x≠C)
  (hq:Q (.done (.ret (.ref h.objs.size))) ⟨h.push (wrapObj x),g,d,t,os⟩):
  wpAny (model prog w) A (Builtin.«super.__getattribute__» ⟨[.ref so,.str "__init__" tk],[]⟩) Q E ⟨h,g,d,t,os⟩:=by
 have Ou:=wY.lookup
 have et:(Value.ref x==Value.ref C)=false:=by simp[Ot]
 have RX:(⟨h,g,d,t,os⟩:Shared).TypeIs (.builtin "Exception.__init__") "wrapper_descriptor":=wZ
 have Ov:({ cls:= .type "super",dict:=none,data:= .fields #[.ref D,.ref x,.ref C],slots:=#[] }:Obj).data= .fields #[.ref D,.ref x,.ref C]:=rfl
 have f0:(#[.ref D,.ref x,.ref C]:Array Value)[0]?=some (.ref D):=rfl
 have f1:(#[.ref D,.ref x,.ref C]:Array Value)[1]?=some (.ref x):=rfl
 have f2:(#[.ref D,.ref x,.ref C]:Array Value)[2]?=some (.ref C):=rfl
 have hn:(("__init__":Str)==("__class__":Str))=false:=by decide
 unfold Builtin.«super.__getattribute__»
 repeat (first
  |(with_reducible refine wpAny_field GW Ov f0 ?_)|(with_reducible refine wpAny_field GW Ov f1 ?_)|(with_reducible refine wpAny_field GW Ov f2 ?_)
  |(with_reducible refine ks_wpAny_notOpaque Fj ?_)
  |(with_reducible refine Looks.at hC ?_;rw[hl])
  |(refine ks_forIn_along X (λ _ _=>rfl) rfl ?_ hf)
  |(with_reducible refine wpAny_of_eq wZ ?_)
  |(with_reducible refine wpAny_call_entry wY RX Cs ?_ (FO _ _ _))
  |(with_reducible refine⟨_,rfl,?_⟩)
  |(with_reducible refine I9 I LS ?_)
  |(simp only [hn,et,Bool.or_false,Bool.false_eq_true,if_false])
  |wp_step
  |dsimp only)
 all_goals exact hq
end
section
variable{prog:Program}{w:World}{M:Model}{A:Around}{E:Value->Shared->Prop}{h:Heap}{g:Array GenState}{d:Drawn}{t:Nat}{os:OsState}
theorem vS{so D x C:Addr}{ox:Obj}{LQ:Option Obj}{l₀ l:List Value}{K:Frag}{pl:Sem Bool}{Q:Value×List Value->Shared->Prop}
  (GW:h.get? so=some { cls:= .type "super",dict:=none,data:= .fields #[.ref D,.ref x,.ref C],slots:=#[] })(Fj:Looks (model prog w) h (opaqueClassAbove (.ref C)) none)
  (hC:Looks (model prog w) h (mroOf (.ref C)) l₀)(hl:(l₀.dropWhile (· != .ref D)).drop 1=l)(X:K.In h)
  (hf:alongIn K "__init__" l=some (some (.builtin "Exception.__init__")))(I:InstAt h x ox C LQ)(LS:Looks (model prog w) h (isSubtype (.ref C) (.type "Exception")) true)(Ot:x≠C)
  (hq:Q (.ref h.objs.size,[]) ⟨h.push (wrapObj x),g,d,t+1,os⟩):
  wpAny (model prog w) A (getMethod (.ref so) "__init__" pl) Q E ⟨h,g,d,t,os⟩:=by
 have Ou:=F.ks_slot_super_ga.lookup
 have Ow:=F.ks_canon_super_ga
 have hT:∀t',(⟨h,g,d,t',os⟩:Shared).TypeIs (.ref so) "super":=λ _=>⟨_,GW,rfl⟩
 unfold getMethod
 refine UC (wpAny_specialOf (hT _) Ou ?_)
 show wpAny _ _ (if (Manifest.canonical "super.__getattribute__" !="object.__getattribute__")=true then _ else _) _ _ _
 rw[if_pos Ow]
 unfold getAttr getAttrBy
 refine UC (UC (wpAny_mkText (wpAny_holding (UC (wpAny_typeOf (hT _) (UC (wpAny_of_eq Ou ?_)))))))
 show wpAny _ _ (getAttrByItsOwn (.ref so) (.str "__init__" t) (.type "super") (.builtin "super.__getattribute__") true false) _ _ _
 unfold getAttrByItsOwn hookBefore callGetattribute boundAndCalled
 refine UC (wpAny_of_eq (show(if onTheHeap (.type "super") then typeLookup (.type "super") "__getattr__" else pure none)=pure none from rfl) ?_)
 refine UC (wpAny_attempt (wpAny_holding ?_))
 show wpAny _ _ (bindSpecial (.builtin "super.__getattribute__") (.ref so) >>=_) _ _ _
 refine UC (wpAny_of_eq (F.ks_slot_super_ga.bind _) ?_)
 refine wpAny_mono (Q:=λ v s'=>v= .ref h.objs.size/\s'=⟨h.push (wrapObj x),g,d,t+1,os⟩) (E:=λ _ _=>False)
  (wpAny_call_entry F.ks_slot_super_ga (hT _) F.ks_entry_super_ga (Ja GW Fj hC hl X hf I LS Ot ⟨_,rfl,rfl,rfl⟩) (F.ks_gaArgs_super _ _)) (λ v s' hv=>?_) λ _ _ z=>z.elim
 refine d8 (λ z0 z1=>?_) hv;clear hv;subst z0;subst z1
 exact UL (UL hq)
theorem tB{u x:Addr}{Q:Keeper->Shared->Prop}{s:Shared}(ho:s.heap.get? u=some (wrapObj x))(hq:Q .machine s):wpAny M A (keeperOf (.ref u)) Q E s:=by
 unfold keeperOf
 refine UC (wpAny_load ho ?_)
 simp only [wrapObj,show(Value.type "method-wrapper" !=Value.type "method")=true by decide,show(Value.type "method-wrapper"==Value.type "builtin_function_or_method" || Value.type "method-wrapper"==Value.type "method-wrapper")=true by decide,if_true]
 exact UL hq
variable{C:Addr}{ca:Km}{bm:List Value}{nj:Bool}{newId:String}
theorem yP{x:Addr}{ox:Obj}{b:Value}{Q:Unit->Shared->Prop}(hx:h.get? x=some ox)(hc:ox.cls= .ref C)(hC:h.get? C=some (BM C ca bm nj newId))(hq:Q () ⟨h,g,d,t,os⟩):wpAny M A (checkBoundCall "Exception.__init__" ⟨[.ref x,b],[]⟩) Q E ⟨h,g,d,t,os⟩:=by
 obtain⟨nm,q,N,bs,sn,sub,ab,col,dd,k0,k1,k2,k3,k5⟩:=ca
 replace hC:h.get? C=some (excClassObj nm q C N bs bm nj sn sub ab col dd k0 k1 k2 k3 k5 newId):=hC
 have F:=PySem.F.excBase_Exception
 simp only [checkBoundCall,F.initKind,F.initRow]
 repeat (first|(with_reducible refine wpAny_loadPart_at hx ?_;rw[hc])|with_reducible refine wpAny_loadPart_at hC ?_|wp_step)
 all_goals exact hq
theorem yQ{u x:Addr}{v:Value}{ox:Obj}{vs:Array Value}{Q:Value->Shared->Prop}(ho:h.get? u=some (wrapObj x))(hx:h.get? x=some ox)(hd:ox.data= .fields vs)(jX:0<vs.size)(hc:ox.cls= .ref C)(hC:h.get? C=some (BM C ca bm nj newId))
  (hq:∀h' tt,h'.get? x=some (ox.mapFields (·.setIfInBounds 0 (.ref tt)))->(∀b o,b≠x->h.get? b=some o->h'.get? b=some o)->Q .none ⟨h',g,d,t,os⟩):
  wpAny (model prog w) A (PySem.call (.ref u) [v]) Q E ⟨h,g,d,t,os⟩:=by
 refine wpAny_call (codeAny_of_tree ?_)
 show wpAny _ A.in1 (callAny (.ref u) ⟨[v],[]⟩) _ _ _
 simp only [callAny]
 refine UC (wpAny_load ho ?_)
 simp only [wrapObj,show(Value.type "method-wrapper"==Value.type "method" || Value.type "method-wrapper"==Value.type "builtin_function_or_method" || Value.type "method-wrapper"==Value.type "method-wrapper")=true by decide,if_true]
 show wpAny _ _ (if (Value.type "method-wrapper" !=Value.type "method")=true then _ else _) _ _ _
 rw[if_pos (by decide)]
 refine UC (yP hx hc hC ?_)
 refine UC (UL (UL ?_))
 refine⟨Code.quiet_builtin _ (by decide +kernel),codeAny_builtin PySem.F.excCall_Exception.initEntry ?_⟩
 have tC:=UQ { cls:= .type "tuple",data:= .seq [v].toArray } hx
 unfold Builtin.«BaseException.__init__»
 wp_walk
 obtain⟨v0,RY⟩:∃v0,vs[0]?=some v0:=⟨vs[0],Array.getElem?_eq_getElem jX⟩
 rw[hd]
 refine UL ?_
 rw[RY]
 refine UL ?_
 have fin:(λ(fin:PySem.Fin) s'=>match fin with
   | .done f=>(match (Except.ok f:Result) with| .ok (.ret v)=>Q v s'| .ok _=>False| .error e=>E e s')
   | .again c'=>c'.quiet=true/\codeAny (model prog w) A c' (λ r s'=>match r with| .ok (.ret v)=>Q v s'| .ok _=>False| .error e=>E e s') s') (.done (.ret .none))
   ⟨(h.push { cls:= .type "tuple",data:= .seq [v].toArray }).update x (Obj.mapFields (·.setIfInBounds 0 (.ref h.objs.size))),g,d,t,os⟩:=by
  refine hq _ h.objs.size ?_ λ b o hb e=>?_
  ·exact Heap.get?_update_self _ tC (Obj.isFreed_of_fields (Obj.data_mapFields hd _))
  ·exact(Heap.get?_update_other _ _ (Ne.symm hb)).trans (UQ _ e)
 refine UC (wpAny_setField tC hd jX ?_)
 cases v0<;> first|exact UL (UL fin)|exact wpAny_letGo (UL fin)|skip
end
end Mine
end
section
open PySem PySem.W PyProof.Rows PySem.Calls PySem.SeqAt PySem.Spec Builtin Builtin.ObjectAttr
namespace Mine
section
variable{prog:Program}{w:World}{M:Model}{A:Around}{E:Value->Shared->Prop}{h:Heap}{g:Array GenState}{d:Drawn}{t:Nat}{os:OsState}
theorem yR{K:Frag}{x C D:Addr}{ox:Obj}{cd:ClassData}{vs:Array Value}{v:Value}{tk:Tok}{Q:PySem.Fin->Shared->Prop}(I:InstAt h x ox C none)(jb:ox.dict=none)(hd:ox.data= .fields vs)(X:K.In h)
  (fD:findIn K (.ref C) "at"=some none)(hm:clsIn K C=some cd)(IV:cd.hasDict=true)(yS:cd.mro=[.ref C,.ref D,.type "Exception",.type "BaseException",.type "object"])
  (hq:∀h' LR,h'.get? x=some { ox with dict:=some h.objs.size }->h'.Ns h.objs.size (λ y=>if y=("at":Str) then some v else none)->(∃od,h'.get? h.objs.size=some od/\od=od)->(∀b o,b≠x->h.get? b=some o->h'.get? b=some o)->Q (.done (.ret .none)) ⟨h',g,d,LR,os⟩):
  wpAny (model prog w) A (Builtin.«object.__setattr__» ⟨[.ref x,.str "at" tk,v],[]⟩) Q E ⟨h,g,d,t,os⟩:=by
 have LU:=PySem.F.store_Exception.passes (.ref x)
 have Lf:=looks_findIn (M:=model prog w) X fD
 have Lm:Looks (model prog w) h (mroOf (.ref C)) cd.mro:=(looks_clsIn X hm).andThen .now
 rw[yS] at Lm
 unfold Builtin.«object.__setattr__»
 repeat (first|rw[refuse_eq]|(rw[refuseLoop_ref,refuseLoop_ref,LU])|(with_reducible refine wpAny_loadPart_at I.at_ ?_;rw[I.cls])|with_reducible refine Looks.at Lm ?_|with_reducible refine Looks.at Lf ?_|wp_step)
 obtain⟨oC,RZ,R7⟩:∃oC,h.get? C=some oC/\oC.data= .cls cd:=by
  unfold clsIn at hm
  split at hm
  ·rename_i ho
   replace hm:=si hm;subst hm
   exact⟨_,X _ _ ho,rfl⟩
  ·exact bj hm
 refine wpAny_load (s:=⟨h,g,d,t,os⟩) RZ ?_
 rw[R7]
 refine UL ?_
 rw[IV,if_neg (by decide),jb,hd]
 show wpAny _ _ (if (!true || !typeHasDict (Value.ref C))=true then pure none else _) _ _ _
 rw[if_neg (by simp[typeHasDict])]
 have hx:=I.at_
 have tC:(h.push { cls:= .type "dict",data:= .dict #[] }).get? x=some ox:=UQ _ hx
 have qU:x≠h.objs.size:=Nat.ne_of_lt (Heap.lt_size hx)
 refine UC (wpAny_alloc' ?_)
 refine UC (wpAny_update' tC ?_)
 refine UL ?_
 have R8:((h.push { cls:= .type "dict",data:= .dict #[] }).update x λ o=>{ cls:=o.cls,dict:=some h.objs.size,data:=o.data,slots:=o.slots }).get? h.objs.size
   =some { cls:= .type "dict",data:= .dict #[] }:=
  (Heap.get?_update_ne _ _ _ _ qU.symm).trans (Heap.get?_push_at rfl rfl)
 have Bs:((h.push { cls:= .type "dict",data:= .dict #[] }).update x λ o=>{ cls:=o.cls,dict:=some h.objs.size,data:=o.data,slots:=o.slots }).Ns h.objs.size (λ _=>none):=
  ⟨_,#[],_,R8,rfl,λ e he=>absurd he (by simp),λ _=>rfl⟩
 show wpAny _ _ (storeInDict h.objs.size (.str "at" tk) "at" v) _ _ _
 unfold storeInDict newKeyGuard
 refine UC (UL (UC (wpAny_nsSet1 (Heap.Ns1.of_empty Bs) λ h' MM hs=>?_)))
 have EN:=MM
 refine Ea (λ oD Ub Uc R9 Sa Sb=>?_)<|MM.count (Within.cons "at" v Within.nil)
 refine UC (wpAny_lookBehind R9 (by rw[Sa];exact pastItsLine_dict (Nat.le_trans Sb (by rw[List.length_cons,List.length_nil,sizeLine_eq];exact Nat.le_add_left _ _))) ?_)
 wp_walk
 have pk:h'.get? x=some { cls:=ox.cls,dict:=some h.objs.size,data:=ox.data,slots:=ox.slots }:=by
  refine(hs.2 x qU).trans (Heap.get?_update_self _ tC ?_)
  obtain⟨oc,od,MT,pW⟩:=ox
  simp only at hd
  subst hd
  rfl
 refine hq h' _ pk ?_ ?_ λ b o hb e=>(hs.2 b (Nat.ne_of_lt (Heap.lt_size e))).trans ((Heap.get?_update_ne _ _ _ _ hb).trans (UQ _ e))
 ·refine QA (λ o' es ep e1 e2 e3 eu e4=>?_) EN;clear EN
  exact⟨o',es,ep,e1,e2,e3,e4⟩
 ·refine D9 (λ o' es ep e1 _=>?_) EN;clear EN
  exact⟨o',e1,rfl⟩
theorem Jb{K:Frag}{x C D:Addr}{ox:Obj}{cd:ClassData}{vs:Array Value}{v:Value}{Q:Unit->Shared->Prop}(I:InstAt h x ox C none)(jb:ox.dict=none)(hd:ox.data= .fields vs)(X:K.In h)
  (Ox:findIn K (.ref C) "__setattr__"=some (some (.builtin "object.__setattr__")))(Oy:mroIn K C (.type "object")=some true)
  (fD:findIn K (.ref C) "at"=some none)(hm:clsIn K C=some cd)(IV:cd.hasDict=true)(yS:cd.mro=[.ref C,.ref D,.type "Exception",.type "BaseException",.type "object"])
  (hq:∀h' LR,h'.get? x=some { ox with dict:=some h.objs.size }->h'.Ns h.objs.size (λ y=>if y=("at":Str) then some v else none)->(∃od,h'.get? h.objs.size=some od/\od=od)->(∀b o,b≠x->h.get? b=some o->h'.get? b=some o)->Q () ⟨h',g,d,LR,os⟩):
  wpAny (model prog w) A (setAttr (.ref x) "at" v) Q E ⟨h,g,d,t,os⟩:=by
 have SF:=PySem.F.store_Exception
 have f3:=SF.slot.bind (.ref x)
 have Ls:=looks_findIn (M:=model prog w) X Ox
 unfold setAttr callSpecial? specialOf
 repeat (any_goals (first|assumption|(with_reducible refine wpAny_loadPart_at I.at_ ?_;rw[I.cls])|with_reducible refine Looks.at Ls ?_|wp_step))
 have sub:Looks (model prog w) h (isInstance (.ref x) (.type "object")) true:=I.type.andThen (looks_mroIn X Oy)
 refine codeAny_call_builtin SF.slot.plain SF.entry (@check_slot (model prog w) _ _ ⟨h,g,d,t+1,os⟩ "object.__setattr__" "object" "__setattr__" (.ref x) _ [] _ SF.kind SF.split sub (SF.args _ _ _) ?_)
 refine yR I jb hd X fD hm IV yS λ h' LR h1 h2 h3 h4=>?_
 repeat (any_goals (first|assumption|wp_step))
 exact hq h' LR h1 h2 h3 h4
end
end Mine
end
section
open PySem PySem.W PyProof.Rows PySem.Calls PySem.SeqAt PySem.Spec
namespace Mine
section
variable{prog:Program}{w:World}{A:Around}{E:Value->Shared->Prop}{h:Heap}{g:Array GenState}{d:Drawn}{t:Nat}{os:OsState}
variable{C:Addr}{ca:Km}{bm IW:List Value}{nj:Bool}{B newId Cu:String}
theorem pE(F:ExcBaseFacts B newId Cu IW)(T:OwnTail h IW bm){mN:Str->Option Value}{rest:List Value}{fI:Addr}{oI:Obj}{Q:PySem.Fin->Shared->Prop}
  (hC:h.get? C=some (BM C ca bm nj newId))(hn:h.Ns ca.N mN)(hi:mN "__init__"=some (.ref fI))
  (Jc:h.get? fI=some oI)(Oz:oI.cls= .type "function")
  (hq:∀h' e,Heap.MadeExcOf h h' e (.ref C) rest->
   wpAny (model prog w) A (PySem.call (.ref fI) (.ref e::rest)) (λ r s'=>r= .none/\Q (.done (.ret (.ref e))) s') E ⟨h',g,d,t,os⟩)(w1:rest.length<=sizeLine):
  wpAny (model prog w) A (Builtin.«type.__call__» ⟨.ref C::rest,[]⟩) Q E ⟨h,g,d,t,os⟩:=by
 obtain⟨nm,q,N,bs,sn,sub,ab,col,dd,k0,k1,k2,k3,k5⟩:=ca
 replace hC:h.get? C=some (excClassObj nm q C N bs bm nj sn sub ab col dd k0 k1 k2 k3 k5 newId):=hC
 repeat (first|with_reducible refine wpAny_loadPart_at hC ?_|with_reducible refine wpAny_madeBy_exc hC ?_|wp_step)
 refine codeAny_call_builtin_code (Code.quiet_builtin _ F.quiet) (wpAny_check_new_subT F T hC ?_)
 refine codeAny_exc_new_subT F T hC ?_ w1
 show wpAny _ _ _ _ _ _
 have up:∀b o,h.get? b=some o->((h.push { cls:= .type "tuple",data:= .seq rest.toArray }).push { cls:= .ref C,data:= .fields #[.ref h.objs.size,.none,.none,.none,.bool false,.none] }).get? b=some o:=
  λ b o e=>UQ _ (UQ _ e)
 have GX:=up _ _ hC
 have Jd:=up _ _ Jc
 have LV:((h.push { cls:= .type "tuple",data:= .seq rest.toArray }).push { cls:= .ref C,data:= .fields #[.ref h.objs.size,.none,.none,.none,.bool false,.none] }).Ns N mN:=
  let ⟨o,es,ep,e,r⟩:=hn;⟨o,es,ep,up _ _ e,r⟩
 have LW:((h.push { cls:= .type "tuple",data:= .seq rest.toArray }).push
   { cls:= .ref C,data:= .fields #[.ref h.objs.size,.none,.none,.none,.bool false,.none] }).get? (h.objs.size+1)=some
   { cls:= .ref C,data:= .fields #[.ref h.objs.size,.none,.none,.none,.bool false,.none] }:=by heap_get
 have Sd:(Value.ref C::bm).contains (.ref C)=true:=by simp
 have T₁:=T.keeps up
 unfold isInstance
 repeat (first|with_reducible refine wpAny_loadPart_at LW ?_|(with_reducible refine wpAny_isSubtype_exc GX ?_;rw[Sd])|wp_step)
 show wpAny _ _ (typeLookup (.ref C) _) _ _ _
 refine wpAny_typeLookup_tail GX LV T₁ F.mroIs F.init.lookup ?_
 rw[hi]
 refine wpAny_holding (UC ?_)
 unfold bindSpecial
 refine UC (wpAny_typeOf (T:="function") ⟨_,Jd,Oz⟩ ?_)
 rw[if_pos (by decide)]
 refine UL (UC (wpAny_mono (hq _ (h.objs.size+1) ⟨up,Heap.get?_none_of_le (Nat.le_succ _),h.objs.size,LW,Heap.get?_none_of_le (Nat.le_refl _),?_⟩) (λ r s' hr=>?_) λ _ _ x=>x))
 ·exact UQ _ (Heap.get?_push_at rfl rfl)
 ·refine d8 (λ z0 hQ=>?_) hr;clear hr;subst z0
  wp_walk
  exact hQ
theorem Cv(F:ExcBaseFacts B newId Cu IW)(T:OwnTail h IW bm){mN:Str->Option Value}{rest:List Value}{fI:Addr}{oI:Obj}{Q:Value->Shared->Prop}
  (hC:h.get? C=some (BM C ca bm nj newId))(hn:h.Ns ca.N mN)(hi:mN "__init__"=some (.ref fI))
  (Jc:h.get? fI=some oI)(Oz:oI.cls= .type "function")
  (hq:∀h' e,Heap.MadeExcOf h h' e (.ref C) rest->
   wpAny (model prog w) (A.under (.builtin "type.__call__" ⟨.ref C::rest,[]⟩)) (PySem.call (.ref fI) (.ref e::rest)) (λ r s'=>r= .none/\Q (.ref e) s') E ⟨h',g,d,t,os⟩)(w1:rest.length<=sizeLine):
  wpAny (model prog w) A (PySem.call (.ref C) rest) Q E ⟨h,g,d,t,os⟩:=by
 have f1:=tc_lookup
 have Se:=hC
 obtain⟨nm,q,N,bs,sn,sub,ab,col,dd,k0,k1,k2,k3,k5⟩:=ca
 replace hC:h.get? C=some (excClassObj nm q C N bs bm nj sn sub ab col dd k0 k1 k2 k3 k5 newId):=hC
 have f2:=tc_bind (.ref C)
 have hT:(⟨h,g,d,t,os⟩:Shared).TypeIs (.ref C) "type":=⟨_,hC,rfl⟩
 refine wpAny_call (codeAny_of_tree ?_)
 show wpAny _ _ (callAny (.ref C) _) _ _ _
 repeat (any_goals (first|assumption|with_reducible refine wpAny_loadPart_at hC ?_|wp_step))
 refine⟨rfl,?_⟩
 refine codeAny_call_builtin_at (Code.quiet_builtin _ (by decide +kernel)) entry_typeCall (wpAny_check_type_call_sub hC (pE F T Se hn hi Jc Oz (λ h' e hm=>?_) w1))
 exact hq h' e hm
theorem Je{M:Model}{c:Code}{s:Shared}{env:Env}{o:Expr}{name:Str}{apos pos:Pos}{e:Expr}{Q:Value->Shared->Prop}(hp:kQ apos pos=true)
  (he:∀r,starEach (e::r) env=(false,eval e env)::starEach r env)
  (h:_root_.PySem.wpAt M A c (attributeBase o name env (eval o env)) (λ ov s₁=>∀pl,wpAny M A (getMethod ov name pl) (λ fx s₂=>wpAny M A (callWith pos fx.1 fx.2 (backTo pos (starEach [e] env)) []) Q E s₂) E s₁) E s):
  _root_.PySem.wpAt M A c (eval (.Call (.Attribute o name apos) [e] [] pos) env) Q E s:=by
 rw[arm_eval_Call]
 refine _root_.PySem.wpAt_bind (_root_.PySem.wpAt_mono h (λ ov s₁ h₁=>_root_.PySem.wpAt_of_wpAny (UC (wpAny_standAt ?_))) λ _ _ x=>x)
 unfold methodCall
 refine UC (wpAny_holding ?_)
 unfold calleeOf
 rw[if_pos (show methodCallForm (([e]:List Expr).length+([]:List Keyword).length) (backTo pos (starEach [e] env)) (backToKw pos (keywordEach [] env))=true by rw[he];rfl)]
 refine wpAny_mono (h₁ _) (λ fx s₂ h₂=>?_) λ _ _ x=>x
 unfold methodCallPos
 rw[if_pos (by unfold kQ at hp;rw[hp,Bool.or_true])]
 exact UC (UL h₂)
end
noncomputable def eE:List Value:=[.type "Exception",.type "BaseException",.type "object"]
noncomputable def Cw(o:List (Option Value)):Bool:=bC (λ k0 t1=>bC (λ k1 t2=>bC (λ k2 t3=>bC (λ k3 t4=>bC (λ t5 t6=>cT (λ t7=>vEq (.builtin "Exception.__new__") (bC (λ k5 t8=>bV (true) t8) t6) t7) t5) t4) t3) t2) t1) o
@[elab_as_elim] theorem FP{M:List (Option Value)->Prop}(H:∀k0 k1 k2 k3 k5,M (k0::(k1::(k2::(k3::((some (.builtin "Exception.__new__"))::(k5::[])))))))(o:List (Option Value))(hc:Cw o=true):M o:=
 aR (λ k0 t1 hc=>aR (λ k1 t2 hc=>aR (λ k2 t3 hc=>aR (λ k3 t4 hc=>aR (λ t5 t6 hc=>bE (λ t7 hc=>cR (λ hc=>aR (λ k5 t8 hc=>aT (λ hc=>H k0 k1 k2 k3 k5) t8 hc) t6 hc) t7 hc) t5 hc) t4 hc) t3 hc) t2 hc) t1 hc) o hc
noncomputable def Cy(K:Frag)(C D2 fI:Addr)(o:Option Obj):Bool:=cT (λ t1=>pf (λ t2 d t3 sl=>vEq (.type "type") (nQ (λ cd=>decide (cd.mro= .ref C:: .ref D2::eE)&&cd.hasDict&&!cd.hasDel&&Cw sl.toList&&nsOkIn K cd.ns&&lH (nsIn K cd.ns "__init__") (some (.ref fI))) t3) t2) t1) o
@[elab_as_elim] theorem Cz{K:Frag}{C D2 fI:Addr}{M:Option Obj->Prop}(H:∀d cd sl,cd.mro= .ref C:: .ref D2::eE->cd.hasDict=true->cd.hasDel=false->Cw sl.toList=true->nsOkIn K cd.ns=true->lH (nsIn K cd.ns "__init__") (some (.ref fI))=true->M (some ⟨(.type "type"),d,(.cls cd),sl⟩))(o:Option Obj)(hc:Cy K C D2 fI o=true):M o:=
 bE (λ t1 hc=>ir (λ t2 d t3 sl hc=>cR (λ hc=>nR (λ cd hc=>H d cd sl (UH (al (al (al (al (al hc)))))) (ar (al (al (al (al hc))))) (dn (ar (al (al (al hc))))) (ar (al (al hc))) (ar (al hc)) (ar hc)) t3 hc) t2 hc) t1 hc) o hc
noncomputable def qi(o:FuncBody):Bool:=nS (λ t1=>bC (λ t2 t3=>wExpr (λ t4 p5=>eU (λ t5 t6 t7 p4=>eI (λ t8 t9 apos=>eU (λ nV qI uS p1=>bX (λ uT p0=>vEq (("super":Str)) (bV (bV (vEq (("__init__":Str)) (bC (λ Ak Al=>gT (λ HU k p3=>uK (λ s0=>bV (bV (bC (λ HV HW=>fq (λ HX OA p9=>bC (λ OB OC=>eI (λ OD OE p7=>bX (λ OF p6=>vEq (("self":Str)) (vEq (("at":Str)) (bV (bX (λ OG p8=>vEq (("at":Str)) (bV (kQ apos p4) HW) OG) OA) OC) OE) OF) OD) OB) HX) HV) t3) t7) Al) HU) Ak) t6) t9) uS) qI) uT) nV) t8) t5) t4) t2) t1) o
@[elab_as_elim] theorem tD{M:FuncBody->Prop}(H:∀p0 p1 apos s0 k p3 p4 p5 p6 p7 p8 p9,kQ apos p4=true->M (.stmts ((.Expr (.Call (.Attribute (.Call (.Name (("super":Str)) p0) [] [] p1) (("__init__":Str)) apos) ((.Constant (.str s0) k p3)::[]) [] p4) p5)::((.Assign ((.Attribute (.Name (("self":Str)) p6) (("at":Str)) p7)::[]) (.Name (("at":Str)) p8) p9)::[]))))(o:FuncBody)(hc:qi o=true):M o:=
 uJ (λ t1 hc=>aR (λ t2 t3 hc=>qC (λ t4 p5 hc=>cU (λ t5 t6 t7 p4 hc=>eV (λ t8 t9 apos hc=>cU (λ nV qI uS p1 hc=>a9 (λ uT p0 hc=>cR (λ hc=>aT (λ hc=>aT (λ hc=>cR (λ hc=>aR (λ Ak Al hc=>iY (λ HU k p3 hc=>zU (λ s0 hc=>aT (λ hc=>aT (λ hc=>aR (λ HV HW hc=>eO (λ HX OA p9 hc=>aR (λ OB OC hc=>eV (λ OD OE p7 hc=>a9 (λ OF p6 hc=>cR (λ hc=>cR (λ hc=>aT (λ hc=>a9 (λ OG p8 hc=>cR (λ hc=>aT (λ hc=>H p0 p1 apos s0 k p3 p4 p5 p6 p7 p8 p9 hc) HW hc) OG hc) OA hc) OC hc) OE hc) OF hc) OD hc) OB hc) HX hc) HV hc) t3 hc) t7 hc) Al hc) HU hc) Ak hc) t6 hc) t9 hc) uS hc) qI hc) uT hc) nV hc) t8 hc) t5 hc) t4 hc) t2 hc) t1 hc) o hc
noncomputable def w2(file:Str)(o:Option Value):Bool:=cT (λ t1=>qE (λ f t=>(file==f)) t1) o
@[elab_as_elim] theorem FQ{file:Str}{M:Option Value->Prop}(H:∀f t,(file==f)=true->M (some (.str f t)))(o:Option Value)(hc:w2 file o=true):M o:=
 bE (λ t1 hc=>sh (λ f t hc=>H f t hc) t1 hc) o hc
noncomputable def w3(file:Str)(o:Option Obj):Bool:=cT (λ t1=>pf (λ c d t2 sl=>jH (λ vs=>w2 file (vs[2]?)) t2) t1) o
@[elab_as_elim] theorem FR{file:Str}{M:Option Obj->Prop}(H:∀c d vs sl,w2 file (vs[2]?)=true->M (some ⟨c,d,(.fields vs),sl⟩))(o:Option Obj)(hc:w3 file o=true):M o:=
 bE (λ t1 hc=>ir (λ c d t2 sl hc=>mz (λ vs hc=>H c d vs sl hc) t2 hc) t1 hc) o hc
noncomputable def CA(K:Frag)(file:Str)(o:Value):Bool:=qD (λ a=>w3 file (K.lookup a)) o
@[elab_as_elim] theorem CB{K:Frag}{file:Str}{M:Value->Prop}(H:∀a,w3 file (K.lookup a)=true->M (.ref a))(o:Value)(hc:CA K file o=true):M o:=
 sg (λ a hc=>H a hc) o hc
noncomputable def rn(C:Addr)(o:Option Obj):Bool:=cT (λ t1=>pf (λ c d t2 sl=>qH (λ t3=>vEq (some (.ref C)) (true) t3) t2) t1) o
@[elab_as_elim] theorem CC{C:Addr}{M:Option Obj->Prop}(H:∀c d sl,M (some ⟨c,d,(.cell (some (.ref C))),sl⟩))(o:Option Obj)(hc:rn C o=true):M o:=
 bE (λ t1 hc=>ir (λ c d t2 sl hc=>xZ (λ t3 hc=>cR (λ hc=>H c d sl) t3 hc) t2 hc) t1 hc) o hc
noncomputable def LY(K:Frag)(C:Addr)(o:Option Addr):Bool:=cT (λ a=>rn C (K.lookup a)) o
@[elab_as_elim] theorem Jf{K:Frag}{C:Addr}{M:Option Addr->Prop}(H:∀a,rn C (K.lookup a)=true->M (some a))(o:Option Addr)(hc:LY K C o=true):M o:=
 bE (λ a hc=>H a hc) o hc
noncomputable def vT(K:Frag)(C D2 fI:Addr):Bool:=Cy K C D2 fI (K.lookup C)
theorem yT{K:Frag}{C D2 fI:Addr}(h:vT K C D2 fI=true):∃a,K.lookup C=some (BM C a (.ref D2::eE) true "Exception.__new__")/\nsOkIn K a.N=true/\nsIn K a.N "__init__"=some (some (.ref fI)):=by
 refine Cz (M:=λ x=>K.lookup C=x->_) (λ dd cd sl h1 hd h2 h3 h4 h5 ho=>?_) _ h rfl
 obtain⟨nm,bs,mro,ns,qn,P4,sn,sub,ab,col,del⟩:=cd
 obtain⟨l⟩:=sl
 replace h1:mro= .ref C:: .ref D2::eE:=h1
 replace hd:P4=true:=hd
 replace h2:del=false:=h2
 revert ho
 rw[h1,hd,h2]
 exact FP (M:=λ l=>K.lookup C=some ⟨_,dd,_,⟨l⟩⟩->_) (λ k0 k1 k2 k3 k5 ho=>⟨⟨nm,qn,ns,bs,sn,sub,ab,col,dd,k0,k1,k2,k3,k5⟩,ho,h4,gw h5⟩) l h3
noncomputable def oH(K:Frag)(file:Str)(C:Addr)(fd:FuncData):Bool:=codeIn K fd.code fd.qualname&&(CA K file fd.code&&(LY K C (fd.closure.lookup ("__class__":Str))&&
   (decide (fd.globals=mainGlobals)&&(decide (fd.builtins=builtinsNs)&&(decide (fd.defaults= .none)&&(dR fd.params&&(decide (fd.params.args.map (·.arg)=[("self":Str),("at":Str)])&&
   (decide (fd.scope.kind= .function)&&(!fd.scope.isGenerator&&(!fd.scope.isCoroutine&&((fd.scope.names.all λ q=>q.2 != .cell)&&(decide (fd.scope.names.lookup ("super":Str)=some .globalImplicit)&&(decide (fd.scope.names.lookup ("__class__":Str)=some .free)&&
   (decide (fd.scope.names.lookup ("self":Str)=some .local)&&(decide (fd.scope.names.lookup ("at":Str)=some .local)&&qi fd.body)))))))))))))))
noncomputable def Jg(K:Frag)(file:Str)(C:Addr)(o:Option Obj):Bool:=cT (pf λ c _ d _=>decide (c= .type "function")&&kP (oH K file C) d) o
noncomputable def GY(K:Frag)(file:Str)(C fI:Addr):Bool:=Jg K file C (K.lookup fI)
structure CD where
 p0:Pos
 p1:Pos
 apos:Pos
 s0:Str
 k:Nat
 p3:Pos
 p4:Pos
 p5:Pos
 p6:Pos
 p7:Pos
 p8:Pos
 p9:Pos
noncomputable def LZ(p:CD):Expr:= .Call (.Attribute (.Call (.Name ("super":Str) p.p0) [] [] p.p1) ("__init__":Str) p.apos) [.Constant (.str p.s0) p.k p.p3] [] p.p4
noncomputable def L3(p:CD):Stmt:= .Assign [.Attribute (.Name ("self":Str) p.p6) ("at":Str) p.p7] (.Name ("at":Str) p.p8) p.p9
noncomputable def GZ(p:CD):List Stmt:=[.Expr (LZ p) p.p5,L3 p]
structure CE(K:Frag)(file:Str)(C fI:Addr)(fd:FuncData):Prop where
 at_:∃od pW,K.lookup fI=some ⟨.type "function",od,.func fd,pW⟩
 code:codeIn K fd.code fd.qualname=true
 cd:∃M4 c d vs sl tf f,fd.code= .ref M4/\K.lookup M4=some ⟨c,d,.fields vs,sl⟩/\vs[2]?=some (.str f tf)/\(file==f)=true
 cell:∃cc c d sl,fd.closure.lookup ("__class__":Str)=some cc/\K.lookup cc=some ⟨c,d,.cell (some (.ref C)),sl⟩
 globals:fd.globals=mainGlobals
 builtins:fd.builtins=builtinsNs
 defaults:fd.defaults= .none
 par:dR fd.params=true
 names:fd.params.args.map (·.arg)=[("self":Str),("at":Str)]
 kind:fd.scope.kind= .function
 gen:fd.scope.isGenerator=false
 N8:fd.scope.isCoroutine=false
 oJ:∀q∈fd.scope.names,q.2≠ .cell
 sup:fd.scope.names.lookup ("super":Str)=some .globalImplicit
 cls:fd.scope.names.lookup ("__class__":Str)=some .free
 self:fd.scope.names.lookup ("self":Str)=some .local
 arg:fd.scope.names.lookup ("at":Str)=some .local
 body:∃p:CD,kQ p.apos p.p4=true/\fd.body= .stmts (GZ p)
theorem CF{K:Frag}{file:Str}{C fI:Addr}(h:GY K file C fI=true):∃fd,CE K file C fI fd:=by
 have h0:∃od fd pW,oH K file C fd=true/\K.lookup fI=some ⟨.type "function",od,.func fd,pW⟩:=
  bE (M:=λ x=>∃od fd pW,oH K file C fd=true/\x=some ⟨.type "function",od,.func fd,pW⟩) (λ o h=>ir (M:=λ x=>∃od fd pW,oH K file C fd=true/\some x=some ⟨.type "function",od,.func fd,pW⟩)
   (λ c od d pW h=>by
    rw[UH (al h)]
    exact lR (M:=λ d=>∃MS fd OH,oH K file C fd=true/\some (⟨.type "function",od,d,pW⟩:Obj)=some ⟨.type "function",MS,.func fd,OH⟩) (λ fd h=>⟨od,fd,pW,h,rfl⟩) d (ar h)) o h) _ h
 refine D9 (λ od fd pW h1 ho=>?_) h0;clear h0
 have h2:=ar h1
 have h3:=ar h2
 have h4:=ar h3
 have h5:=ar h4
 have h6:=ar h5
 have h7:=ar h6
 have h8:=ar h7
 have h9:=ar h8
 have I4:=ar h9
 have P5:=ar I4
 have Kj:=ar P5
 have P6:=ar Kj
 have P7:=ar P6
 have P8:=ar P7
 have P9:=ar P8
 refine⟨fd,⟨od,pW,ho⟩,al h1,?_,?_,UH (al h4),UH (al h5),UH (al h6),al h7,UH (al h8),UH (al h9),dn (al I4),dn (al P5),λ q hq=>by simpa using List.all_eq_true.mp (al Kj) q hq,
  UH (al P6),UH (al P7),UH (al P8),UH (al P9),?_⟩
 ·obtain⟨a,e1,h⟩:∃a,fd.code= .ref a/\w3 file (K.lookup a)=true:=CB (λ a h=>⟨a,rfl,h⟩) _ (al h2)
  obtain⟨c,d,vs,sl,e2,h⟩:∃c d vs sl,K.lookup a=some ⟨c,d,.fields vs,sl⟩/\w2 file (vs[2]?)=true:=FR (λ c d vs sl h=>⟨c,d,vs,sl,rfl,h⟩) _ h
  obtain⟨f,tf,e3,h⟩:∃f t,vs[2]?=some (.str f t)/\(file==f)=true:=FQ (M:=λ x=>∃f t,x=some (.str f t)/\(file==f)=true) (λ f t h=>⟨f,t,rfl,h⟩) _ h
  exact⟨a,c,d,vs,sl,tf,f,e1,e2,e3,h⟩
 ·obtain⟨a,e1,h⟩:∃a,fd.closure.lookup ("__class__":Str)=some a/\rn C (K.lookup a)=true:=Jf (λ a h=>⟨a,rfl,h⟩) _ (al h3)
  obtain⟨c,d,sl,e2⟩:∃c d sl,K.lookup a=some ⟨c,d,.cell (some (.ref C)),sl⟩:=CC (λ c d sl=>⟨c,d,sl,rfl⟩) _ h
  exact⟨a,c,d,sl,e1,e2⟩
 ·refine tD (M:=λ x=>∃p:CD,kQ p.apos p.p4=true/\x= .stmts (GZ p)) (λ p0 p1 apos s0 k p3 p4 p5 p6 p7 p8 p9 h=>⟨⟨p0,p1,apos,s0,k,p3,p4,p5,p6,p7,p8,p9⟩,h,rfl⟩) _ (ar P9)
end Mine
end
section
open PySem PySem.W PyProof.Rows PySem.Calls PySem.SeqAt PySem.Spec
namespace Mine
variable{W:Wd}{G:Heap}{D:Led}{s:Shared}
set_option tactic.hygienic true in
theorem vU{K:Frag}{h:Heap}{N:Addr}{m:Str->Option Value}{n:Str}{v:Value}(X:K.In h)(G:h.Ns N m)(e:nsIn K N n=some (some v)):m n=some v:=by
 refine Eb (λ o es ep ho hd _ hf=>?_) G;clear G
 unfold nsIn at e
 split at e
 ·rename_i c d Ka n' sl q
  have:=X _ _ q
  rw[ho] at this
  replace this:=si this;subst this
  cases hd
  split at e
  ·rename_i en Sf
   cases e
   rw[<-hf]
   unfold nsFind findBy
   rw[<-Array.find?_toList,Sf]
   rfl
  ·split at e<;> cases e
 ·exact bj e
theorem tE{C:Addr}{rest:List Value}:(Code.builtin "type.__call__" ⟨.ref C::rest,[]⟩).weight=1:=rfl
theorem FT{h hf:Heap}{C e dx:Addr}{i:Int}{tv:Tok}{vs:Array Value}{oe:Obj}{tk:Nat}(x:St W G D s)(hh:h=s.heap)(L4:h.get? e=none)(keep:∀b o,b≠e->h.get? b=some o->hf.get? b=some o)
  (he:hf.get? e=some oe)(hc:oe.cls= .ref C)(hd:oe.data= .fields vs)(jX:1<vs.size)(h1:vs[1]?=some .none)(jb:oe.dict=some dx)(Sg:h.get? dx=none)(et:dx≠e)
  (qR:hf.Ns dx (λ y=>if y=("at":Str) then some (.int i tv) else none)):
  ∃G',G.StaysIn G'/\St W G' D { s with heap:=hf,toks:=tk }/\mD W G' D hf e C (.int i) .fresh:=by
 subst hh
 have Qa:∀b,b∈aQ D->∃o,s.heap.get? b=some o:=λ b hb=>by
  refine aV (λ p hp z2=>?_)<|List.mem_map.mp hb;subst z2
  have:=x.led.has p hp
  cases hq:p.2 with
  |ns m=>rw[hq] at this;refine D9 (λ o es ep ho _=>?_) this;clear this;exact⟨o,ho⟩
  |cell v=>rw[hq] at this;refine aV (λ o ho _=>?_) this;clear this;exact⟨o,ho⟩
  |list t it=>rw[hq] at this;refine aV (λ o ho _=>?_) this;clear this;exact⟨o,ho⟩
  |tab q=>rw[hq] at this;refine aV (λ o ho _=>?_) this;clear this;exact⟨_,ho⟩
  |any P=>rw[hq] at this;refine aV (λ o ho _=>?_) this;clear this;exact⟨o,ho⟩
 have eD:e∉aQ D:=λ hm=>by refine bJ (λ o ho=>?_)<|Qa e hm;rw[L4] at ho;exact bj ho
 have dD:dx∉aQ D:=λ hm=>by refine bJ (λ o ho=>?_)<|Qa dx hm;rw[Sg] at ho;exact bj ho
 have Gk:∀b o,G.get? b=some o->b≠e/\b∉aQ D:=λ b o eb=>by
  refine⟨λ q=>?_,λ hm=>?_⟩
  ·have:=x.led.stays _ _ eb;rw[q,L4] at this;exact bj this
  ·refine aV (λ p hp q=>?_)<|List.mem_map.mp hm
   have:=x.led.free p hp;rw[q,eb] at this;cases this
 have kG:G.StaysIn (hideAll hf (e::aQ D)):=λ b o eb=>by
  refine d8 (λ g1 g2=>?_)<|Gk b o eb
  refine hideAll_get _ (keep _ _ g1 (x.led.stays _ _ eb)) λ hm=>?_
  rcases List.mem_cons.mp hm with q|q
  ·exact g1 q
  ·exact g2 q
 refine D9 (λ o es ep ho r=>?_) qR;clear qR
 have zD:(hideAll hf (e::aQ D)).get? dx=some o:=hideAll_get _ ho λ hm=>(List.mem_cons.mp hm).elim et dD
 refine⟨hideAll hf (e::aQ D),kG,⟨⟨λ b o eb=>of_hideAll _ eb,λ p hp=>?_,λ p hp=>hideAll_none _ (UK _ (UR hp)),x.led.nodup⟩,x.gD.keeps kG,x.top.keeps kG,x.gens,x.os⟩,⟨eD,hideAll_none _ (UG ..),oe,vs,he,hc,hd,jX,.yes dx _ (.int i tv) jb ⟨o,es,ep,zD,r⟩ (if_pos rfl) c0 o zD,h1⟩⟩
 exact((x.led.has p hp).keep λ o ho=>keep _ _ (λ q=>eD (by rw[<-q];exact UR (f:=λ p:Addr×MO=>p.1) hp)) ho).mono kG
theorem G5(a b:Value):([(("self":Str),a),(("at":Str),b)].reverse.lookup ("self":Str))=some a:=by
 show List.lookup _ [(("at":Str),b),(("self":Str),a)]=_
 rw[List.lookup_cons,show(("self":Str)==("at":Str))=false from by decide]
 show List.lookup _ [(("self":Str),a)]=_
 rw[List.lookup_cons,show(("self":Str)==("self":Str))=true from by decide]
theorem L5(a b:Value):([(("self":Str),a),(("at":Str),b)].reverse.lookup ("at":Str))=some b:=by
 show List.lookup _ [(("at":Str),b),(("self":Str),a)]=_
 rw[List.lookup_cons,show(("at":Str)==("at":Str))=true from by decide]
theorem Jh{K:Frag}{C:Addr}{a:Km}{l:List Value}{ni:String}(ho:K.lookup C=some (BM C a l true ni)):∃cd,clsIn K C=some cd/\cd.hasDict=true/\cd.mro= .ref C::l/\mroIn K C (.ref C)=some true:=by
 have e:∃cd,clsIn K C=some cd/\cd.hasDict=true/\cd.mro= .ref C::l:=by unfold clsIn;rw[ho];exact⟨_,rfl,rfl,rfl⟩
 refine fY (λ cd e1 e2 e3=>⟨cd,e1,e2,e3,?_⟩) e
 unfold mroIn;rw[e1];simp[e3]
theorem vV:bootBuiltins "super"=some (.type "super"):=by kernel_rfl
theorem CG{D2 fI:Addr}{fd:FuncData}(hL:dK W.K W.P.bad)(OI:vT W.K W.P.bad D2 fI=true)(F:CE W.K W.prog.main.file W.P.bad fI fd)(L6:tailIn W.K eE (.ref D2::eE)=true)
  (Ox:findIn W.K (.ref W.P.bad) "__setattr__"=some (some (.builtin "object.__setattr__")))(Sh:nsIn W.K cStatics "thirdparty.any"=some none)(OJ:nsIn W.K mainGlobals "super"=some none)(OK:(W.prog.main.scope.names.lookup ("super":Str)).isSome=false)
  (Ji:alongIn W.K "__init__" (.ref D2::eE)=some (some (.builtin "Exception.__init__")))(OL:mroIn W.K W.P.bad (.type "Exception")=some true):nC W:=by
 refine fY (λ ca ho ng zD=>?_)<|yT OI
 refine⟨⟨ca,_,true,_,ho⟩,?_⟩
 intro A G D stack s i c x hA sZ hh Rm rc Q E hQ
 simp only [Rp,Rep] at rc
 refine bJ (λ tv z1=>?_) rc;clear rc;subst z1
 have X:=x.gD.keeps x.led.stays
 have hC:=X _ _ ho
 have hN:s.heap.Ns ca.N (s.heap.nsMap ca.N):= .of_isNs (isNs_of_in X ng)
 have hi:=vU X hN zD
 have TL:OwnTail s.heap eE (.ref D2::eE):=tail_of_in X L6
 refine Ej (λ Ud Si hf=>?_)<|F.at_
 have Jc:=X _ _ hf
 refine aV (λ p NA tm=>?_)<|F.body
 refine QF (λ M4 c1 c2 GG zI tf ff OM ON Sj L7=>?_)<|F.cd
 refine QC (λ cc cl Ue Ug Sk B8=>?_)<|F.cell
 refine J2 (λ cd CJ IV yS lq=>?_)<|Jh ho
 obtain⟨h,gg,dr,Sl,os⟩:=s
 refine Cv (rest:=[.int i tv]) PySem.F.excBase_Exception TL hC hN hi Jc rfl (λ h' e hm=>?_) (by rw[sizeLine_eq];simp)
 have kp:∀b o,h.get? b=some o->h'.get? b=some o:=hm.keeps
 have Qb:W.K.In h':=λ b o e=>kp _ _ (X _ _ e)
 refine fY (λ tt he Uh Sm=>?_)<|hm.there
 have Jj:h'.NoLimit:=(x.top.nolimit.keeps x.led.stays).keeps kp
 have Ca:BindsTo ⟨h',gg,dr,Sl,os⟩ fd ⟨[.ref e,.int i tv],[]⟩ [(("self":Str),.ref e),(("at":Str),.int i tv)]:=by
  refine BindsTo.of_eq ?_
  have:=ow (fd:=fd) (cs:=[.ref e,.int i tv]) F.par F.defaults (by rw[F.names];decide) (by rw[F.names];rfl)
  rw[F.names] at this
  exact this
 refine wpAny_call (ks_codeAny_call_defAt (fd:=fd) (binds:=[(("self":Str),.ref e),(("at":Str),.int i tv)]) ?_ (kp _ _ Jc) rfl Jj (codeRec_of Qb F.code) tm Ca F.oJ ?_ (λ h₀ vW oK=>?_) F.N8 F.gen F.kind)
 ·have:=Rm.1
  show A.depth+(Code.builtin "type.__call__" ⟨.ref W.P.bad::[.int i tv],[]⟩).weight<1000
  rw[tE];exact Gx ‹_›
 ·intro y hy
  simp only [List.mem_cons,List.not_mem_nil,or_false] at hy
  rcases hy with rfl|rfl
  ·exact F.self
  ·exact F.arg
 ·let L:=h'.objs.size
  let env:=callEnv fd L fI
  have ek:∀nm,env.kindOf nm=fd.scope.names.lookup nm:=λ _=>rfl
  have mc:env.scope.kind= .function:=F.kind
  have w4:W.K.In h₀:=λ b o eb=>oK _ _ (Qb _ _ eb)
  have G6:=oK _ _ he
  have gA:e<L:=Heap.lt_size he
  have Ie:∀{hh:Heap} {vs:Array Value},hh.get? e=some { cls:= .ref W.P.bad,data:= .fields vs }->InstAt hh e { cls:= .ref W.P.bad,data:= .fields vs } W.P.bad none:=λ h1=>⟨h1,rfl,rfl,trivial⟩
  have OO:e≠W.P.bad:=λ q=>by
   have h1:=kp _ _ hC
   rw[<-q,he] at h1
   cases h1
  obtain⟨a1,a2,fJ,Sn⟩:∃a1 a2,fd.params.args=[a1,a2]/\a1.arg=("self":Str):=by
   have hn:=F.names
   match hq:fd.params.args,hn with
   | [a1,a2],hn=>exact⟨a1,a2,rfl,by injection hn⟩
   | [],hn=>exact absurd (congrArg List.length hn) (by simp)
   | [_],hn=>exact absurd (congrArg List.length hn) (by simp)
   |_::_::_::_,hn=>exact absurd (congrArg List.length hn) (by simp)
  refine ks_wpAt_execs_cons (ks_wpAt_Expr_any (Je NA (λ r=>rfl) ?_) (by unfold interactive;rw[mc];rfl) rfl)
  refine ks_wpAt_super_base (env:=env) (f:=fI) (cc:=M4) (vs:=GG) (file:=ff) (tf:=tf) (fd:=fd) (ar:=a1) ((ek _).trans F.sup) ((ek _).trans F.cls) (by decide) rfl (oK _ _ (kp _ _ Jc)) rfl (by rw[(mJ F.par).1,fJ];rfl) OM (w4 _ _ ON) rfl Sj L7 OK ?_
  refine ks_loadName_global mc ((ek _).trans F.sup) ?_
  have Tt:=(x.top.keeps x.led.stays).keeps λ b o eb=>oK _ _ (kp _ _ eb)
  have Ke:W.mg "super"=none:=mg_none_of x.gD x.top.g OJ
  refine loadGlobal_builtin (env:=env) (mg:=W.mg) (mb:=W.mb) (by show h₀.Ns fd.globals _;rw[F.globals];exact Tt.g) Ke (by show h₀.Ns fd.builtins _;rw[F.builtins];exact Tt.b) ((Tt.builtins _ (by decide +kernel)).trans vV) ⟨rfl,?_⟩
  refine wpAny_loadName_free mc ((ek _).trans F.cls) Sk ⟨_,w4 _ _ B8,rfl⟩ ?_
  rw[Sn]
  refine wpAny_loadName_local mc ((ek _).trans F.self) vW (G5 _ _) ?_
  have CL:=oK _ _ (kp _ _ hC)
  refine ks_wpAny_isType_cls CL rfl ⟨rfl,?_⟩
  refine ks_wpAny_call_super CL rfl G6 rfl (λ c eq=>nomatch eq) (looks_mroIn w4 lq) (λ h1 GW k1=>?_)
  intro pl
  have tF:W.K.In h1:=λ b o eb=>k1 _ _ (w4 _ _ eb)
  have sT:=k1 _ _ G6
  refine vS GW (looks_opaque tF Sh) (l₀:=cd.mro) ?_ (by rw[yS];simp) tF Ji (Ie sT) (looks_mroIn tF OL) OO ?_
  ·exact λ A Q E s k qq=>UC ((looks_clsIn tF CJ) A _ E s k (UL qq))
  have wN:(h1.push (wrapObj e)).get? e=some _:=UQ _ sT
  have L8:=UQ (wrapObj e) (k1 _ _ CL)
  have hu:(h1.push (wrapObj e)).get? h1.objs.size=some (wrapObj e):=Heap.get?_push_size _ rfl
  show wpAny _ _ (callWith _ (.ref h1.objs.size) [] _ []) _ _ _
  unfold callWith
  refine UC (wpAny_holding ?_)
  refine sX rfl (wpAny_Constant_str (UC (wpAny_standAt ?_)))
  refine UC (tB hu ?_)
  refine UC (yQ hu wN rfl (by simp) rfl L8 (λ h3 t3 MZ k3=>UC (wpAny_holding (wpAny_point (UL ?_)))))
  show _root_.PySem.wpAt _ _ _ (execs [_] env) _ _ _
  have Qc:h3.Ns L (λ y=>[(("self":Str),Value.ref e),(("at":Str),.int i tv)].reverse.lookup y):=by
   refine D9 (λ o es ep hl r=>?_) vW;clear vW
   exact⟨o,es,ep,k3 _ _ (Nat.ne_of_gt gA) (UQ _ (k1 _ _ hl)),r⟩
  refine ks_wpAt_execs_cons (ks_wpAt_Assign_Attr (_root_.PySem.wpAt_of_wpAny (wpAny_Name (wpAny_loadName_local mc ((ek _).trans F.arg) Qc (L5 _ _) ?_) (by decide))) rfl)
  refine wpAny_Name (wpAny_loadName_local mc ((ek _).trans F.self) Qc (G5 _ _) ?_) (by decide)
  have L9:W.K.In h3:=λ b o eb=>k3 _ _ (λ q=>by
   rw[q] at eb
   have:=X _ _ eb
   rw[hm.new] at this;cases this) (UQ _ (tF _ _ eb))
  refine Jb (ox:={ cls:= .ref W.P.bad,data:= .fields ((#[.ref tt,.none,.none,.none,.bool false,.none]:Array Value).setIfInBounds 0 (.ref t3)) }) ⟨MZ,rfl,rfl,trivial⟩ rfl rfl L9 Ox hL.obj hL.KS CJ IV yS λ h5 t5 g1 g2 g3 g4=>?_
  refine _root_.PySem.wpAt_of_wpAny (wpAny_execs_nil ?_)
  have Ma:∀b o,b≠e->h.get? b=some o->h5.get? b=some o:=λ b o hb eb=>g4 _ _ hb (k3 _ _ hb (UQ _ (k1 _ _ (oK _ _ (kp _ _ eb)))))
  have rU:h.get? h3.objs.size=none:=by
   cases qq:h.get? h3.objs.size with
   |none=>rfl
   |some o=>
    by_cases hb:h3.objs.size=e
    ·rw[hb,hm.new] at qq;exact bj qq
    ·exact absurd (Heap.lt_size (k3 _ _ hb (UQ _ (k1 _ _ (oK _ _ (kp _ _ qq)))))) (Nat.lt_irrefl _)
  refine fY (λ G' kG y f=>?_)<|FT (C:=W.P.bad) (i:=i) (tv:=tv) (tk:=t5) x rfl hm.new Ma g1 rfl rfl (by simp) (by simp) rfl rU (λ q=>by
   have:=Heap.lt_size MZ
   rw[<-q] at this
   exact Nat.lt_irrefl _ this) g2
  exact⟨rfl,hQ G' e _ kG y f⟩
end Mine
end
section
open PySem PySem.W PyProof.Rows
namespace Mine.Hd
noncomputable def pr:Program:=PySem.Challenge.pw_pq0546_01
noncomputable def Jk:Nat->List Stmt->Stmt
 |0,s::_=>s
 |n+1,_::r=>Jk n r
 |_,[]=> .Pass default
noncomputable def st(i:Nat):Stmt:=Jk i pr.main.body
noncomputable def inner:Stmt->Stmt
 | .ClassDef _ _ _ b _ _ _ _ _ _ _=>Jk 0 b
 |s=>s
noncomputable def jy:Stmt:=inner (st 4)
noncomputable def S(s:String)(t:Nat):Value:= .str (Str.ofString s) t
noncomputable def I(n:Nat):Value:= .int n 0
noncomputable def R(a:Nat):Value:= .ref a
noncomputable def Y(s:String):Value:= .type s
noncomputable def U(s:String):Value:= .builtin s
noncomputable def N:Value:= .none
noncomputable def E(P:Params)(s:String)(t:Nat)(v:Value):DictEntry:={ hash:=PyData.keyHash P (Str.ofString s),key:=S s t,val:=v }
noncomputable def aA(vs:List Value):Obj:={ cls:= .type "tuple",data:= .seq vs.toArray }
noncomputable def bp(c:Value)(vs:List Value):Obj:={ cls:=c,data:= .fields vs.toArray }
noncomputable def lI(c:Value)(es:List DictEntry)(n:Nat):Obj:={ cls:=c,data:= .dict es.toArray n }
noncomputable def bP(nm q:String)(t ln ac fl a:Nat)(o:Bool)(b:Nat)(x y z:Value)(k:Nat):Obj:=
 bp (Y "code") [S nm t,S q (t+1),S "/claim/cut.py" (t+2),I ln,I ac,I 0,I 0,I fl,R a,.bool o,I 181,R b,N,x,y,z,I k,I ln,S "/claim/cut.py" (k+1)]
noncomputable def fdOf(s:Stmt)(q:String)(gl:Nat)(md cd ct:Value)(cl:List (Str×Addr)):FuncData:=match s with
 | .FunctionDef n a b _ _ _ sc _ _ _=>{ name:=n,qualname:=Str.ofString q,params:=a,body:= .stmts b,scope:=sc,globals:=gl,closure:=cl,defaults:= .none,kwdefaults:= .none,pyModule:=md,code:=cd,closureTuple:=ct }
 |_=>default
noncomputable def fh(s:Stmt)(q:String):Obj:={ cls:= .none,data:= .func (fdOf s q 0 .none .none .none []) }
noncomputable def fi(s:Stmt)(q:String)(md:Value)(cd:Nat)(cl:List (Str×Addr))(ct:Value):Obj:={ cls:= .type "function",data:= .func (fdOf s q 3 md (.ref cd) ct cl) }
noncomputable def So(P:Params):List Obj:=[aA [],
 default,
 bP "<module>" "<module>" 182 1 0 0 11 false 12 (N) (N) (N) 185,
 { cls:=Y "frame",slots:=#[some (R 13),some (R 3),some (R 3),none,some (S "__main__" 164),none,some (R 0)] },
 aA [Y "Exception"],
 bp (Y "builtin_function_or_method") [U "type.__prepare__",Y "type"],
 lI (Y "dict") [E P "__module__" 196 (S "gmp.limbs" 187),E P "__qualname__" 198 (S "GmpError" 197),E P "__firstlineno__" 200 (Value.int 2 199),E P "__static_attributes__" 201 (R 22)] 4,
 aA [],
 bp (N) [],
 bP "GmpError" "GmpError" 191 2 0 0 18 false 19 (N) (N) (N) 194,
 { cls:=Y "frame",slots:=#[some (R 20),some (R 3),some (R 17),none,some (S "gmp.limbs" 187),none,some (R 0)] },
 aA [],
 lI (Y "dict") [E P "__module__" 196 (S "gmp.limbs" 187),E P "__firstlineno__" 200 (Value.int 2 199),E P "__static_attributes__" 201 (R 22),E P "__weakref__" 203 (R 25),E P "__doc__" 204 (N)] 3,
 default,
 bp (Y "getset_descriptor") [S "__weakref__" 202,R 24,U "ExceptionGroup.__weakref__",N],
 bp (Y "super") [R 24,R 24,R 24],
 bp (Y "builtin_function_or_method") [U "object.__init_subclass__",R 24],
 aA [R 24],
 bp (Y "builtin_function_or_method") [U "type.__prepare__",Y "type"],
 lI (Y "dict") [E P "__module__" 216 (S "gmp.limbs" 187),E P "__qualname__" 218 (S "DivisionByZero" 217),E P "__firstlineno__" 220 (Value.int 4 219),E P "__static_attributes__" 221 (R 35)] 4,
 aA [],
 bp (N) [],
 bP "DivisionByZero" "DivisionByZero" 211 4 0 0 31 false 32 (N) (N) (N) 214,
 { cls:=Y "frame",slots:=#[some (R 33),some (R 3),some (R 30),none,some (S "gmp.limbs" 187),none,some (R 0)] },
 aA [],
 lI (Y "dict") [E P "__module__" 216 (S "gmp.limbs" 187),E P "__firstlineno__" 220 (Value.int 4 219),E P "__static_attributes__" 221 (R 35),E P "__doc__" 222 (N)] 2,
 { cls:=Y "type",data:= .cls { name:=Str.ofString "DivisionByZero",bases:=[R 24],mro:=[R 37,R 24,Y "Exception",Y "BaseException",Y "object"],ns:=36,qualname:=Str.ofString "DivisionByZero" },slots:=#[some (R 28),none,some (S "DivisionByZero" 209),some (S "DivisionByZero" 217),some (U "Exception.__new__"),some (Value.bool true)] },
 bp (Y "super") [R 37,R 37,R 37],
 bp (Y "builtin_function_or_method") [U "object.__init_subclass__",R 37],
 aA [R 24],
 bp (Y "builtin_function_or_method") [U "type.__prepare__",Y "type"],
 lI (Y "dict") [E P "__module__" 232 (S "gmp.limbs" 187),E P "__qualname__" 234 (S "NotExact" 233),E P "__firstlineno__" 236 (Value.int 6 235),E P "__static_attributes__" 237 (R 47)] 4,
 aA [],
 bp (N) [],
 bP "NotExact" "NotExact" 227 6 0 0 43 false 44 (N) (N) (N) 230,
 { cls:=Y "frame",slots:=#[some (R 45),some (R 3),some (R 42),none,some (S "gmp.limbs" 187),none,some (R 0)] },
 aA [],
 lI (Y "dict") [E P "__module__" 232 (S "gmp.limbs" 187),E P "__firstlineno__" 236 (Value.int 6 235),E P "__static_attributes__" 237 (R 47),E P "__doc__" 238 (N)] 2,
 { cls:=Y "type",data:= .cls { name:=Str.ofString "NotExact",bases:=[R 24],mro:=[R 49,R 24,Y "Exception",Y "BaseException",Y "object"],ns:=48,qualname:=Str.ofString "NotExact" },slots:=#[some (R 40),none,some (S "NotExact" 225),some (S "NotExact" 233),some (U "Exception.__new__"),some (Value.bool true)] },
 bp (Y "super") [R 49,R 49,R 49],
 bp (Y "builtin_function_or_method") [U "object.__init_subclass__",R 49],
 aA [R 24],
 bp (Y "builtin_function_or_method") [U "type.__prepare__",Y "type"],
 lI (Y "dict") [E P "__module__" 248 (S "gmp.limbs" 187),E P "__qualname__" 250 (S "BadText" 249),E P "__firstlineno__" 252 (Value.int 8 251),E P "__init__" 261 (R 67),E P "__static_attributes__" 263 (R 68),E P "__classcell__" 264 (R 55)] 6,
 { cls:=Y "cell",data:= .cell (some (R 70)) },
 aA [],
 bp (N) [I 10,I 4,R 66],
 bP "BadText" "BadText" 243 8 0 0 56 false 57 (N) (N) (N) 246]
noncomputable def Sp(P:Params):List Obj:=[{ cls:=Y "frame",slots:=#[some (R 58),some (R 3),some (R 54),none,some (S "gmp.limbs" 187),none,some (R 0)] },
 aA [R 55],
 aA [S "__class__" 256],
 bp (N) [],
 aA [S "self" 257,S "at" 258],
 aA [],
 fh jy "BadText.__init__",
 bP "__init__" "BadText.__init__" 253 10 2 3 61 true 62 (R 63) (R 64) (R 65) 259,
 fi jy "BadText.__init__" (S "gmp.limbs" 187) 66 [(Str.ofString "__class__",55)] (R 60),
 aA [S "at" 262],
 lI (Y "dict") [E P "__module__" 248 (S "gmp.limbs" 187),E P "__firstlineno__" 252 (Value.int 8 251),E P "__init__" 261 (R 67),E P "__static_attributes__" 263 (R 68),E P "__doc__" 265 (N)] 3,
 { cls:=Y "type",data:= .cls { name:=Str.ofString "BadText",bases:=[R 24],mro:=[R 70,R 24,Y "Exception",Y "BaseException",Y "object"],ns:=69,qualname:=Str.ofString "BadText" },slots:=#[some (R 52),none,some (S "BadText" 241),some (S "BadText" 249),some (U "Exception.__new__"),some (Value.bool true)] },
 bp (Y "super") [R 70,R 70,R 70],
 bp (Y "builtin_function_or_method") [U "object.__init_subclass__",R 70],
 aA [R 24],
 bp (Y "builtin_function_or_method") [U "type.__prepare__",Y "type"],
 lI (Y "dict") [E P "__module__" 275 (S "gmp.limbs" 187),E P "__qualname__" 277 (S "NoInverse" 276),E P "__firstlineno__" 279 (Value.int 13 278),E P "__static_attributes__" 280 (R 80)] 4,
 aA [],
 bp (N) [],
 bP "NoInverse" "NoInverse" 270 13 0 0 76 false 77 (N) (N) (N) 273,
 { cls:=Y "frame",slots:=#[some (R 78),some (R 3),some (R 75),none,some (S "gmp.limbs" 187),none,some (R 0)] },
 aA [],
 lI (Y "dict") [E P "__module__" 275 (S "gmp.limbs" 187),E P "__firstlineno__" 279 (Value.int 13 278),E P "__static_attributes__" 280 (R 80),E P "__doc__" 281 (N)] 2,
 { cls:=Y "type",data:= .cls { name:=Str.ofString "NoInverse",bases:=[R 24],mro:=[R 82,R 24,Y "Exception",Y "BaseException",Y "object"],ns:=81,qualname:=Str.ofString "NoInverse" },slots:=#[some (R 73),none,some (S "NoInverse" 268),some (S "NoInverse" 276),some (U "Exception.__new__"),some (Value.bool true)] },
 bp (Y "super") [R 82,R 82,R 82],
 bp (Y "builtin_function_or_method") [U "object.__init_subclass__",R 82],
 aA [R 24],
 bp (Y "builtin_function_or_method") [U "type.__prepare__",Y "type"],
 lI (Y "dict") [E P "__module__" 291 (S "gmp.limbs" 187),E P "__qualname__" 293 (S "OutOfRange" 292),E P "__firstlineno__" 295 (Value.int 15 294),E P "__static_attributes__" 296 (R 92)] 4,
 aA [],
 bp (N) [],
 bP "OutOfRange" "OutOfRange" 286 15 0 0 88 false 89 (N) (N) (N) 289,
 { cls:=Y "frame",slots:=#[some (R 90),some (R 3),some (R 87),none,some (S "gmp.limbs" 187),none,some (R 0)] },
 aA [],
 lI (Y "dict") [E P "__module__" 291 (S "gmp.limbs" 187),E P "__firstlineno__" 295 (Value.int 15 294),E P "__static_attributes__" 296 (R 92),E P "__doc__" 297 (N)] 2,
 { cls:=Y "type",data:= .cls { name:=Str.ofString "OutOfRange",bases:=[R 24],mro:=[R 94,R 24,Y "Exception",Y "BaseException",Y "object"],ns:=93,qualname:=Str.ofString "OutOfRange" },slots:=#[some (R 85),none,some (S "OutOfRange" 284),some (S "OutOfRange" 292),some (U "Exception.__new__"),some (Value.bool true)] },
 bp (Y "super") [R 94,R 94,R 94],
 bp (Y "builtin_function_or_method") [U "object.__init_subclass__",R 94],
 aA [],
 bp (N) [],
 aA [S "a" 303,S "end" 304],
 aA [],
 fh (st 7) "normal",
 bP "normal" "normal" 300 17 1 3 97 true 98 (R 99) (R 100) (R 101) 305,
 fi (st 7) "normal" (S "gmp.limbs" 187) 102 [] N,
 aA [],
 bp (N) [],
 aA [S "number" 311,S "w" 312,S "found" 313,S "mask" 314]]
noncomputable def Sq(P:Params):List Obj:=[aA [],
 fh (st 8) "nat_of",
 bP "nat_of" "nat_of" 308 22 2 3 104 true 105 (R 106) (R 107) (R 108) 315,
 fi (st 8) "nat_of" (S "gmp.limbs" 187) 109 [] N,
 aA [],
 bp (N) [],
 aA [S "a" 321,S "b" 322,S "at" 323],
 aA [],
 fh (st 9) "compare",
 bP "compare" "compare" 318 30 2 3 111 true 112 (R 113) (R 114) (R 115) 324,
 fi (st 9) "compare" (S "gmp.limbs" 187) 116 [] N,
 aA [],
 bp (N) [],
 aA [S "a" 330,S "b" 331,S "w" 332,S "found" 333,S "carry" 334,S "mask" 335,S "at" 336],
 aA [],
 fh (st 10) "add",
 bP "add" "add" 327 37 3 3 118 true 119 (R 120) (R 121) (R 122) 337,
 fi (st 10) "add" (S "gmp.limbs" 187) 123 [] N,
 aA [],
 bp (N) [],
 aA [S "a" 343,S "limb" 344,S "w" 345,S "found" 346,S "carry" 347,S "mask" 348,S "one" 349],
 aA [],
 fh (st 11) "mul_limb",
 bP "mul_limb" "mul_limb" 340 52 3 3 125 true 126 (R 127) (R 128) (R 129) 350,
 fi (st 11) "mul_limb" (S "gmp.limbs" 187) 130 [] N,
 aA [],
 bp (N) [],
 aA [S "a" 356,S "limb" 357,S "w" 358,S "found" 359,S "rest" 360,S "at" 361],
 aA [],
 fh (st 12) "divrem_limb",
 bP "divrem_limb" "divrem_limb" 353 63 3 3 132 true 133 (R 134) (R 135) (R 136) 362,
 fi (st 12) "divrem_limb" (S "gmp.limbs" 187) 137 [] N,
 aA [],
 bp (N) [],
 aA [S "a" 368,S "n" 369,S "w" 370,S "spots" 371,S "few" 372,S "found" 373,S "mask" 374,S "at" 375,S "above" 376],
 aA [],
 fh (st 13) "shift_right",
 bP "shift_right" "shift_right" 365 72 3 3 139 true 140 (R 141) (R 142) (R 143) 377,
 fi (st 13) "shift_right" (S "gmp.limbs" 187) 144 [] N,
 aA [],
 bp (N) [],
 aA [S "a" 383,S "w" 384,S "at" 385,S "limb" 386],
 aA [],
 fh (st 14) "trailing",
 bP "trailing" "trailing" 380 79 2 3 146 true 147 (R 148) (R 149) (R 150) 387,
 fi (st 14) "trailing" (S "gmp.limbs" 187) 151 [] N,
 aA [],
 bp (N) []]
noncomputable def Sr(P:Params):List Obj:=[aA [S "a" 409,S "w" 410,S "found" 411,S "limb" 412],
 aA [],
 fh (st 23) "plain_of",
 bP "plain_of" "plain_of" 406 92 2 3 153 true 154 (R 155) (R 156) (R 157) 413,
 fi (st 23) "plain_of" (S "gmp.radix" 390) 158 [] N,
 aA [],
 bp (N) [],
 aA [S "base" 419],
 aA [],
 fh (st 24) "check_base",
 bP "check_base" "check_base" 416 97 1 3 160 true 161 (R 162) (R 163) (R 164) 420,
 fi (st 24) "check_base" (S "gmp.radix" 390) 165 [] N,
 aA [],
 bp (N) [],
 aA [S "a" 426,S "base" 427,S "w" 428,S "divrem" 429,S "quotient" 430,S "rest" 431],
 aA [],
 fh (st 25) "digit_off",
 bP "digit_off" "digit_off" 423 100 4 3 167 true 168 (R 169) (R 170) (R 171) 432,
 fi (st 25) "digit_off" (S "gmp.radix" 390) 172 [] N,
 aA [],
 bp (N) [],
 aA [S "a" 438,S "base" 439,S "w" 440,S "divrem" 441,S "found" 442,S "digit" 443],
 aA [],
 fh (st 26) "digits_plain",
 bP "digits_plain" "digits_plain" 435 105 4 3 174 true 175 (R 176) (R 177) (R 178) 444,
 fi (st 26) "digits_plain" (S "gmp.radix" 390) 179 [] N,
 aA [],
 bp (N) [],
 aA [S "a" 450,S "base" 451,S "w" 452,S "mul" 453,S "found" 454,S "power" 455],
 aA [],
 fh (st 27) "base_powers",
 bP "base_powers" "base_powers" 447 112 4 3 181 true 182 (R 183) (R 184) (R 185) 456,
 fi (st 27) "base_powers" (S "gmp.radix" 390) 186 [] N,
 aA [],
 bp (N) [],
 aA [S "digits" 462,S "many" 463],
 aA [],
 fh (st 28) "with_noughts",
 bP "with_noughts" "with_noughts" 459 118 2 3 188 true 189 (R 190) (R 191) (R 192) 464,
 fi (st 28) "with_noughts" (S "gmp.radix" 390) 193 [] N,
 aA [],
 bp (N) [],
 aA [S "a" 470,S "powers" 471,S "base" 472,S "w" 473,S "least" 474,S "divrem" 475,S "power" 476,S "lesser" 477,S "many" 478,S "high" 479,S "low" 480,S "ahead" 481],
 aA [],
 fh (st 29) "digits_by_powers",
 bP "digits_by_powers" "digits_by_powers" 467 120 6 3 195 true 196 (R 197) (R 198) (R 199) 482,
 fi (st 29) "digits_by_powers" (S "gmp.radix" 390) 200 [] N,
 aA []]
noncomputable def Su(P:Params):List Obj:=[bp (N) [],
 aA [S "a" 488,S "base" 489,S "w" 490,S "least" 491,S "divrem" 492,S "mul" 493,S "powers" 494],
 aA [],
 fh (st 30) "to_digits",
 bP "to_digits" "to_digits" 485 129 6 3 202 true 203 (R 204) (R 205) (R 206) 495,
 fi (st 30) "to_digits" (S "gmp.radix" 390) 207 [] N,
 aA [],
 bp (N) [],
 aA [S "a" 501,S "base" 502,S "w" 503,S "mul" 504],
 aA [],
 fh (st 31) "times_base",
 bP "times_base" "times_base" 498 133 4 3 209 true 210 (R 211) (R 212) (R 213) 505,
 fi (st 31) "times_base" (S "gmp.radix" 390) 214 [] N,
 aA [],
 bp (N) [],
 aA [S "digits" 511,S "base" 512,S "w" 513,S "mul" 514,S "found" 515,S "digit" 516],
 aA [],
 fh (st 32) "number_plain",
 bP "number_plain" "number_plain" 508 135 4 3 216 true 217 (R 218) (R 219) (R 220) 517,
 fi (st 32) "number_plain" (S "gmp.radix" 390) 221 [] N,
 aA [],
 bp (N) [],
 aA [S "digits" 523,S "powers" 524,S "base" 525,S "w" 526,S "least" 527,S "mul" 528,S "at" 529,S "many" 530,S "high" 531,S "low" 532],
 aA [],
 fh (st 33) "number_by_powers",
 bP "number_by_powers" "number_by_powers" 520 140 6 3 223 true 224 (R 225) (R 226) (R 227) 533,
 fi (st 33) "number_by_powers" (S "gmp.radix" 390) 228 [] N,
 aA [],
 bp (N) [],
 aA [S "digits" 539,S "base" 540,S "w" 541,S "least" 542,S "mul" 543,S "digit" 544,S "powers" 545],
 aA [],
 fh (st 34) "from_digits",
 bP "from_digits" "from_digits" 536 150 5 3 230 true 231 (R 232) (R 233) (R 234) 546,
 fi (st 34) "from_digits" (S "gmp.radix" 390) 235 [] N,
 aA [],
 bp (N) [],
 aA [S "base" 552],
 aA [],
 fh (st 35) "letters_of",
 bP "letters_of" "letters_of" 549 161 1 3 237 true 238 (R 239) (R 240) (R 241) 553,
 fi (st 35) "letters_of" (S "gmp.radix" 390) 242 [] N,
 aA [],
 bp (N) [],
 fh (st 36) "to_text",
 bP "to_text" "to_text" 556 169 6 3 244 true 245 (N) (N) (R 246) 559,
 fi (st 36) "to_text" (S "gmp.radix" 390) 247 [] N,
 aA [],
 bp (N) []]
noncomputable def Sv(P:Params):List Obj:=[aA [S "octet" 565,S "base" 566],
 aA [],
 fh (st 37) "digit_worth",
 bP "digit_worth" "digit_worth" 562 174 2 3 249 true 250 (R 251) (R 252) (R 253) 567,
 fi (st 37) "digit_worth" (S "gmp.radix" 390) 254 [] N,
 aA [],
 bp (N) [],
 aA [S "text" 573,S "at" 574],
 aA [],
 fh (st 38) "blanks_end",
 bP "blanks_end" "blanks_end" 570 182 2 3 256 true 257 (R 258) (R 259) (R 260) 575,
 fi (st 38) "blanks_end" (S "gmp.radix" 390) 261 [] N,
 aA [],
 bp (N) [],
 aA [S "text" 581,S "at" 582],
 aA [],
 fh (st 39) "prefix_at",
 bP "prefix_at" "prefix_at" 578 186 2 3 263 true 264 (R 265) (R 266) (R 267) 583,
 fi (st 39) "prefix_at" (S "gmp.radix" 390) 268 [] N,
 aA [],
 bp (N) [],
 aA [S "text" 589,S "at" 590,S "base" 591,S "found" 592,S "place" 593,S "worth" 594],
 aA [],
 fh (st 40) "text_digits",
 bP "text_digits" "text_digits" 586 194 3 3 270 true 271 (R 272) (R 273) (R 274) 595,
 fi (st 40) "text_digits" (S "gmp.radix" 390) 275 [] N,
 aA [],
 bp (N) [],
 aA [S "text" 601,S "base" 602,S "w" 603,S "least" 604,S "mul" 605,S "at" 606,S "is_below" 607,S "found" 608],
 aA [],
 fh (st 41) "from_text",
 bP "from_text" "from_text" 598 204 5 3 277 true 278 (R 279) (R 280) (R 281) 609,
 fi (st 41) "from_text" (S "gmp.radix" 390) 282 [] N,
 aA [],
 bp (N) [],
 aA [S "d" 617,S "w" 618,S "whole" 619,S "found" 620,S "sure" 621],
 aA [],
 fh (st 43) "inverse_limb",
 bP "inverse_limb" "inverse_limb" 614 218 2 3 284 true 285 (R 286) (R 287) (R 288) 622,
 fi (st 43) "inverse_limb" (S "gmp.hensel" 612) 289 [] N,
 aA [],
 bp (N) [],
 aA [S "a" 628,S "n" 629],
 aA [],
 fh (st 44) "low_limbs",
 bP "low_limbs" "low_limbs" 625 227 2 3 291 true 292 (R 293) (R 294) (R 295) 630,
 fi (st 44) "low_limbs" (S "gmp.hensel" 612) 296 [] N,
 aA []]
noncomputable def Sw(P:Params):List Obj:=[bp (N) [],
 fh (st 45) "complement",
 bP "complement" "complement" 633 229 3 3 298 true 299 (N) (N) (R 300) 636,
 fi (st 45) "complement" (S "gmp.hensel" 612) 301 [] N,
 aA [],
 bp (N) [],
 aA [S "b" 642,S "n" 643,S "w" 644,S "mul" 645,S "found" 646,S "size" 647,S "rest" 648,S "wanted" 649],
 aA [],
 fh (st 46) "inverse_low",
 bP "inverse_low" "inverse_low" 639 233 4 3 303 true 304 (R 305) (R 306) (R 307) 650,
 fi (st 46) "inverse_low" (S "gmp.hensel" 612) 308 [] N,
 aA [],
 bp (N) [],
 aA [S "row" 656,S "b" 657,S "limb" 658,S "spot" 659,S "w" 660,S "whole" 661,S "borrow" 662,S "at" 663,S "piece" 664,S "left" 665],
 aA [],
 fh (st 47) "take_product",
 bP "take_product" "take_product" 653 245 5 3 310 true 311 (R 312) (R 313) (R 314) 666,
 fi (st 47) "take_product" (S "gmp.hensel" 612) 315 [] N,
 aA [],
 bp (N) [],
 aA [S "a" 672,S "b" 673,S "n" 674,S "w" 675,S "inverse" 676,S "whole" 677,S "size" 678,S "row" 679,S "found" 680,S "borrowed" 681,S "at" 682,S "limb" 683,S "rest" 684],
 aA [],
 fh (st 48) "divrem_low",
 bP "divrem_low" "divrem_low" 669 258 4 3 317 true 318 (R 319) (R 320) (R 321) 685,
 fi (st 48) "divrem_low" (S "gmp.hensel" 612) 322 [] N,
 aA [],
 bp (N) [],
 aA [S "a" 691,S "b" 692,S "w" 693,S "many" 694],
 aA [],
 fh (st 49) "without_twos",
 bP "without_twos" "without_twos" 688 272 3 3 324 true 325 (R 326) (R 327) (R 328) 695,
 fi (st 49) "without_twos" (S "gmp.hensel" 612) 329 [] N,
 aA [],
 bp (N) [],
 aA [S "a" 701,S "b" 702,S "w" 703,S "odd" 704,S "found" 705,S "is_below" 706,S "rest" 707],
 aA [],
 fh (st 50) "exact_quotient",
 bP "exact_quotient" "exact_quotient" 698 277 3 3 331 true 332 (R 333) (R 334) (R 335) 708,
 fi (st 50) "exact_quotient" (S "gmp.hensel" 612) 336 [] N,
 aA [],
 bp (N) [],
 aA [S "a" 714,S "b" 715,S "w" 716,S "found" 717],
 aA [],
 fh (st 51) "divide_exact",
 bP "divide_exact" "divide_exact" 711 285 3 3 338 true 339 (R 340) (R 341) (R 342) 718,
 fi (st 51) "divide_exact" (S "gmp.hensel" 612) 343 [] N,
 aA [],
 bp (N) []]
noncomputable def Sx(P:Params):List Obj:=[aA [S "a" 724,S "b" 725,S "w" 726,S "mul" 727,S "odd" 728,S "size" 729,S "found" 730],
 aA [],
 fh (st 52) "divide_exact_newton",
 bP "divide_exact_newton" "divide_exact_newton" 721 292 4 3 345 true 346 (R 347) (R 348) (R 349) 731,
 fi (st 52) "divide_exact_newton" (S "gmp.hensel" 612) 350 [] N,
 aA [],
 bp (N) [],
 aA [S "a" 737,S "b" 738,S "w" 739],
 aA [],
 fh (st 53) "is_divisible",
 bP "is_divisible" "is_divisible" 734 305 3 3 352 true 353 (R 354) (R 355) (R 356) 740,
 fi (st 53) "is_divisible" (S "gmp.hensel" 612) 357 [] N,
 aA [],
 bp (N) [],
 aA [S "a" 746,S "n" 747,S "w" 748],
 aA [],
 fh (st 54) "mod_small_power",
 bP "mod_small_power" "mod_small_power" 743 309 3 3 359 true 360 (R 361) (R 362) (R 363) 749,
 fi (st 54) "mod_small_power" (S "gmp.hensel" 612) 364 [] N,
 aA [],
 bp (N) [],
 aA [S "a" 755,S "factor" 756,S "modulus" 757,S "w" 758,S "found" 759,S "weight" 760,S "limb" 761],
 aA [],
 fh (st 55) "folded",
 bP "folded" "folded" 752 313 4 3 366 true 367 (R 368) (R 369) (R 370) 762,
 fi (st 55) "folded" (S "gmp.hensel" 612) 371 [] N,
 aA [],
 bp (N) [],
 aA [S "a" 768,S "n" 769,S "w" 770,S "modulus" 771],
 aA [],
 fh (st 56) "mod_ones",
 bP "mod_ones" "mod_ones" 765 319 3 3 373 true 374 (R 375) (R 376) (R 377) 772,
 fi (st 56) "mod_ones" (S "gmp.hensel" 612) 378 [] N,
 aA [],
 bp (N) [],
 aA [S "a" 778,S "n" 779,S "w" 780,S "modulus" 781,S "turns" 782,S "rest" 783],
 aA [],
 fh (st 57) "mod_ones_above",
 bP "mod_ones_above" "mod_ones_above" 775 324 3 3 380 true 381 (R 382) (R 383) (R 384) 784,
 fi (st 57) "mod_ones_above" (S "gmp.hensel" 612) 385 [] N,
 aA [],
 bp (N) [],
 aA [S "well" 796,S "many" 797],
 aA [],
 fh (st 61) "_law_give",
 bP "_law_give" "_law_give" 793 333 2 3 387 true 388 (R 389) (R 390) (R 391) 798,
 fi (st 61) "_law_give" (S "law_pq0546_01" 787) 392 [] N,
 aA []]
noncomputable def Sy(P:Params):List Obj:=[bp (N) [],
 aA [S "n" 804,S "w" 805,S "found" 806],
 aA [],
 fh (st 62) "_law_limbs",
 bP "_law_limbs" "_law_limbs" 801 338 2 3 394 true 395 (R 396) (R 397) (R 398) 807,
 fi (st 62) "_law_limbs" (S "law_pq0546_01" 787) 399 [] N,
 aA [],
 bp (N) [],
 aA [S "a" 813,S "w" 814,S "found" 815,S "limb" 816],
 aA [],
 fh (st 63) "_law_number",
 bP "_law_number" "_law_number" 810 344 2 3 401 true 402 (R 403) (R 404) (R 405) 817,
 fi (st 63) "_law_number" (S "law_pq0546_01" 787) 406 [] N,
 aA [],
 bp (N) [],
 aA [S "a" 823,S "b" 824,S "w" 825],
 aA [],
 fh (st 64) "_law_times",
 bP "_law_times" "_law_times" 820 349 3 3 408 true 409 (R 410) (R 411) (R 412) 826,
 fi (st 64) "_law_times" (S "law_pq0546_01" 787) 413 [] N,
 aA [],
 bp (N) [],
 aA [S "a" 832,S "b" 833,S "w" 834,S "one" 835,S "other" 836],
 aA [],
 fh (st 65) "_law_parts",
 bP "_law_parts" "_law_parts" 829 351 3 3 415 true 416 (R 417) (R 418) (R 419) 837,
 fi (st 65) "_law_parts" (S "law_pq0546_01" 787) 420 [] N,
 aA [],
 bp (N) [],
 aA [S "work" 843,S "e" 844,S "kind" 845],
 aA [],
 fh (st 66) "_law_kind",
 bP "_law_kind" "_law_kind" 840 354 1 3 422 true 423 (R 424) (R 425) (R 426) 846,
 fi (st 66) "_law_kind" (S "law_pq0546_01" 787) 427 [] N,
 aA [],
 bp (N) [],
 aA [S "text" 852,S "base" 853,S "w" 854,S "is_below" 855,S "a" 856,S "e" 857],
 aA [],
 fh (st 67) "_law_heard",
 bP "_law_heard" "_law_heard" 849 364 3 3 429 true 430 (R 431) (R 432) (R 433) 858,
 fi (st 67) "_law_heard" (S "law_pq0546_01" 787) 434 [] N,
 aA [],
 bp (N) [],
 aA [S "worth" 864,S "base" 865,S "is_great" 866],
 aA [],
 fh (st 68) "_law_digit",
 bP "_law_digit" "_law_digit" 861 370 3 3 436 true 437 (R 438) (R 439) (R 440) 867,
 fi (st 68) "_law_digit" (S "law_pq0546_01" 787) 441 [] N]
noncomputable def Sz(P:Params):List Obj:=[aA [],
 bp (N) [],
 aA [S "well" 873,S "w" 874,S "told" 875,S "prefix" 876,S "base" 877,S "text" 878,S "is_below" 879,S "worth" 880,S "many" 881,S "turn" 882,S "digit" 883,S "blank" 884,S "bad" 885,S "due" 886,S "other" 887],
 aA [],
 fh (st 69) "_law_text_right",
 bP "_law_text_right" "_law_text_right" 870 374 2 3 443 true 444 (R 445) (R 446) (R 447) 888,
 fi (st 69) "_law_text_right" (S "law_pq0546_01" 787) 448 [] N,
 aA [],
 bp (N) [],
 fh (st 70) "_law_bounds_right",
 bP "_law_bounds_right" "_law_bounds_right" 891 395 1 3 450 true 451 (N) (N) (R 452) 894,
 fi (st 70) "_law_bounds_right" (S "law_pq0546_01" 787) 453 [] N,
 aA [],
 bp (N) [],
 fh (st 71) "_law_digits_right",
 bP "_law_digits_right" "_law_digits_right" 897 415 2 3 455 true 456 (N) (N) (R 457) 900,
 fi (st 71) "_law_digits_right" (S "law_pq0546_01" 787) 458 [] N,
 aA [],
 bp (N) [],
 aA [S "well" 906,S "w" 907,S "n" 908,S "odd" 909,S "b" 910,S "top" 911,S "below" 912],
 aA [S "w" 913,S "a" 914,S "even" 915,S "here" 916,S "there" 917],
 fh (st 72) "_law_divisions_right",
 bP "_law_divisions_right" "_law_divisions_right" 903 422 2 3 460 true 461 (R 462) (R 463) (R 464) 918,
 fi (st 72) "_law_divisions_right" (S "law_pq0546_01" 787) 465 [] N,
 aA [],
 bp (N) [],
 fh (st 73) "law",
 bP "law" "law" 921 456 1 3 467 true 468 (N) (N) (R 469) 924,
 fi (st 73) "law" (S "law_pq0546_01" 787) 470 [] N]
noncomputable def OP:Nat->List Obj->Obj
 |0,s::_=>s
 |n+1,_::r=>OP n r
 |_,[]=>default
noncomputable def Mb(P:Params):List Obj:=[boot_o_0 P,boot_o_1 P,boot_o_2 P,boot_o_3 P,boot_o_4 P,boot_o_5 P,boot_o_6 P,boot_o_7 P,boot_o_8 P,boot_o_9 P,boot_o_10 P]
noncomputable def chunk(P:Params):Nat->List Obj
 |0=>So P
 |1=>Sp P
 |2=>Sq P
 |3=>Sr P
 |4=>Su P
 |5=>Sv P
 |6=>Sw P
 |7=>Sx P
 |8=>Sy P
 |9=>Sz P
 |_=>[]
noncomputable def ents(P:Params)(nm:Value):List DictEntry:=[E P "__name__" 165 nm,
 E P "__doc__" 166 (N),
 E P "__package__" 167 (N),
 E P "__loader__" 168 (U "__main__.__loader__#opaque"),
 E P "__spec__" 169 (N),
 E P "__annotations__" 170 (R 6),
 E P "__builtins__" 171 (R 4),
 E P "__file__" 173 (S "/claim/cut.py" 172),
 E P "__cached__" 174 (N),
 E P "GmpError" 208 (R 24),
 E P "DivisionByZero" 224 (R 37),
 E P "NotExact" 240 (R 49),
 E P "BadText" 267 (R 70),
 E P "NoInverse" 283 (R 82),
 E P "OutOfRange" 299 (R 94),
 E P "normal" 307 (R 103),
 E P "nat_of" 317 (R 110),
 E P "compare" 326 (R 117),
 E P "add" 339 (R 124),
 E P "mul_limb" 352 (R 131),
 E P "divrem_limb" 364 (R 138),
 E P "shift_right" 379 (R 145),
 E P "trailing" 389 (R 152),
 E P "SMALL_LETTERS" 393 (Value.bytes #[48,49,50,51,52,53,54,55,56,57,97,98,99,100,101,102,103,104,105,106,107,108,109,110,111,112,113,114,115,116,117,118,119,120,121,122] 392),
 E P "GREAT_LETTERS" 395 (Value.bytes #[48,49,50,51,52,53,54,55,56,57,65,66,67,68,69,70,71,72,73,74,75,76,77,78,79,80,81,82,83,84,85,86,87,88,89,90] 394),
 E P "BOTH_LETTERS" 397 (Value.bytes #[48,49,50,51,52,53,54,55,56,57,65,66,67,68,69,70,71,72,73,74,75,76,77,78,79,80,81,82,83,84,85,86,87,88,89,90,97,98,99,100,101,102,103,104,105,106,107,108,109,110,111,112,113,114,115,116,117,118,119,120,121,122] 396),
 E P "TEXT_BLANKS" 399 (Value.bytes #[32,9,10,11,12,13] 398),
 E P "MOST_BASE" 401 (Value.int 62 400),
 E P "MOST_PLAIN_BASE" 403 (Value.int 36 402),
 E P "MINUS_SIGN" 405 (Value.int 45 404),
 E P "plain_of" 415 (R 159),
 E P "check_base" 422 (R 166),
 E P "digit_off" 434 (R 173),
 E P "digits_plain" 446 (R 180),
 E P "base_powers" 458 (R 187),
 E P "with_noughts" 466 (R 194),
 E P "digits_by_powers" 484 (R 201),
 E P "to_digits" 497 (R 208),
 E P "times_base" 507 (R 215),
 E P "number_plain" 519 (R 222),
 E P "number_by_powers" 535 (R 229),
 E P "from_digits" 548 (R 236),
 E P "letters_of" 555 (R 243),
 E P "to_text" 561 (R 248),
 E P "digit_worth" 569 (R 255),
 E P "blanks_end" 577 (R 262),
 E P "prefix_at" 585 (R 269),
 E P "text_digits" 597 (R 276),
 E P "from_text" 611 (R 283),
 E P "inverse_limb" 624 (R 290),
 E P "low_limbs" 632 (R 297),
 E P "complement" 638 (R 302),
 E P "inverse_low" 652 (R 309),
 E P "take_product" 668 (R 316),
 E P "divrem_low" 687 (R 323),
 E P "without_twos" 697 (R 330),
 E P "exact_quotient" 710 (R 337),
 E P "divide_exact" 720 (R 344),
 E P "divide_exact_newton" 733 (R 351),
 E P "is_divisible" 742 (R 358),
 E P "mod_small_power" 751 (R 365),
 E P "folded" 764 (R 372),
 E P "mod_ones" 774 (R 379),
 E P "mod_ones_above" 786 (R 386),
 E P "_law_small" 790 (Value.bytes #[48,49,50,51,52,53,54,55,56,57,97,98,99,100,101,102,103,104,105,106,107,108,109,110,111,112,113,114,115,116,117,118,119,120,121,122] 789),
 E P "_law_great" 792 (Value.bytes #[48,49,50,51,52,53,54,55,56,57,65,66,67,68,69,70,71,72,73,74,75,76,77,78,79,80,81,82,83,84,85,86,87,88,89,90] 791),
 E P "_law_give" 800 (R 393),
 E P "_law_limbs" 809 (R 400),
 E P "_law_number" 819 (R 407),
 E P "_law_times" 828 (R 414),
 E P "_law_parts" 839 (R 421),
 E P "_law_kind" 848 (R 428),
 E P "_law_heard" 860 (R 435),
 E P "_law_digit" 869 (R 442),
 E P "_law_text_right" 890 (R 449),
 E P "_law_bounds_right" 896 (R 454),
 E P "_law_digits_right" 902 (R 459),
 E P "_law_divisions_right" 920 (R 466),
 E P "law" 926 (R 471)]
noncomputable def OQ:List (Nat×Nat):=[(2,20),(4,33),(6,45),(8,58),(13,78),(15,90),(17,102),(22,109),(30,116),(37,123),(52,130),(63,137),(72,144),(79,151),(92,158),(97,165),(100,172),(105,179),(112,186),(118,193),(120,200),(129,207),(133,214),(135,221),(140,228),(150,235),(161,242),(169,247),(174,254),(182,261),(186,268),(194,275),(204,282),(218,289),(227,296),(229,301),(233,308),(245,315),(258,322),(272,329),(277,336),(285,343),(292,350),(305,357),(309,364),(313,371),(319,378),(324,385),(333,392),(338,399),(344,406),(349,413),(351,420),(354,427),(364,434),(370,441),(374,448),(395,453),(415,458),(422,465),(456,470)]
noncomputable def Jl:List Value:=[R 37,R 49,R 70,R 82,R 94]
noncomputable def Mc(k:Nat):Obj:={ cls:=Y "type",data:= .cls { name:=Str.ofString "GmpError",bases:=[Y "Exception"],mro:=[R 24,Y "Exception",Y "BaseException",Y "object"],ns:=23,qualname:=Str.ofString "GmpError",subclasses:=Jl.take k },slots:=#[some (R 15),none,some (S "GmpError" 189),some (S "GmpError" 197),some (U "Exception.__new__"),some (Value.bool true)] }
noncomputable def o2(P:Params):Nat->Obj
 |0=>boot_o_2 P
 |_=>lI N [E P "type.__subclasses__.Exception.0" 205 (I 24),E P "type.__subclasses__.Exception.n" 206 (I 1)] 2
structure uA where
 n:Nat
 ne:Nat
 nm:Value
 nc:Nat
 ns:Nat
 tk:Nat
 ps:Pos
noncomputable def obj(g:uA)(P:Params)(i:Nat):Obj:=match Nat.beq i 2 with
 |true=>o2 P g.nc
 |false=>match Nat.beq i 3 with
  |true=>match Nat.beq g.ne 9 with
   |true=>boot_o_3 P
   |false=>lI (Y "dict") ((ents P g.nm).take g.ne) g.ne
  |false=>match Nat.beq i 12 with
   |true=>bp N ((OQ.take g.nc).flatMap λ x=>[I x.1,I 0,R x.2])
   |false=>match Nat.beq i 24 with
    |true=>Mc g.ns
    |false=>match Nat.blt i 11 with
     |true=>OP i (Mb P)
     |false=>OP ((i-11)%48) (chunk P ((i-11)/48))
noncomputable def bt(f:Nat->Obj)(n:Nat):Nat->Nat->Nat->BT
 |0,_,_=> .nil
 |k+1,a,b=>match Nat.blt b n with
  |true=> .node (f b) (bt f n k (2*a) (a+b)) (bt f n k (2*a) (2*a+b))
  |false=> .nil
noncomputable def tr(g:uA)(P:Params):BT:=bt (obj g P) g.n 12 1 0
noncomputable def g0:uA:=⟨15,9,S "__main__" 164,0,0,187,⟨0,0,0,0⟩⟩
noncomputable def g1:uA:=⟨28,10,S "gmp.limbs" 187,1,0,209,⟨2,0,3,8⟩⟩
noncomputable def g2:uA:=⟨40,11,S "gmp.limbs" 187,2,1,225,⟨4,0,5,8⟩⟩
noncomputable def g3:uA:=⟨52,12,S "gmp.limbs" 187,3,2,241,⟨6,0,7,8⟩⟩
noncomputable def g4:uA:=⟨73,13,S "gmp.limbs" 187,4,3,268,⟨8,0,12,20⟩⟩
noncomputable def g5:uA:=⟨85,14,S "gmp.limbs" 187,5,4,284,⟨13,0,14,8⟩⟩
noncomputable def g6:uA:=⟨132,20,S "gmp.limbs" 187,11,5,353,⟨52,0,62,16⟩⟩
noncomputable def g7:uA:=⟨195,36,S "gmp.radix" 390,20,5,467,⟨118,0,119,46⟩⟩
noncomputable def g8:uA:=⟨277,48,S "gmp.radix" 390,32,5,598,⟨194,0,203,16⟩⟩
noncomputable def g9:uA:=⟨352,59,S "gmp.hensel" 612,43,5,734,⟨292,0,304,16⟩⟩
noncomputable def M5:uA:=⟨429,72,S "law_pq0546_01" 787,54,5,849,⟨354,0,363,15⟩⟩
noncomputable def G7:uA:=⟨472,79,S "law_pq0546_01" 787,61,5,927,⟨456,0,463,96⟩⟩
noncomputable def SS(g:uA)(w:World)(os:OsState):SharedT:=⟨tr g w.params,g.n,{},#[],{},g.tk,os⟩
noncomputable def jZ:Env:={ scope:=pr.main.scope,locals:=mainNs,globals:=mainNs,cells:=[],code:= .ref 13,frame:=some 14 }
noncomputable def kI:Code:= .body (behindTheImports pr) jZ
noncomputable def cut(i j:Nat):List Stmt:=(pr.main.body.drop i).take (j-i)
noncomputable def ro:List Frame:=[topFrame ⟨0,0,0,0⟩]
theorem SA:∀w:World,(λ os=>segRunT treeTable pr w 11 (some (.ref 6)) 1 206 (SS g0 w os) (piecesOf (cut 0 2) jZ kI g0.ps ro))=λ os=>some (.next,SS g1 w os,kI,g1.ps):=by
 rw[Fast.te10110043849684766642,Fast.te14364793385576792824]
 intro w
 kernel_rfl
theorem SD:∀w:World,(λ os=>segRunT treeTable pr w 11 (some (.ref 6)) 1 214 (SS g1 w os) (piecesOf (cut 2 3) jZ kI g1.ps ro))=λ os=>some (.next,SS g2 w os,kI,g2.ps):=by
 rw[Fast.te10110043849684766642,Fast.te14364793385576792824]
 intro w
 kernel_rfl
theorem SE:∀w:World,(λ os=>segRunT treeTable pr w 11 (some (.ref 6)) 1 214 (SS g2 w os) (piecesOf (cut 3 4) jZ kI g2.ps ro))=λ os=>some (.next,SS g3 w os,kI,g3.ps):=by
 rw[Fast.te10110043849684766642,Fast.te14364793385576792824]
 intro w
 kernel_rfl
theorem SG:∀w:World,(λ os=>segRunT treeTable pr w 11 (some (.ref 6)) 1 262 (SS g3 w os) (piecesOf (cut 4 5) jZ kI g3.ps ro))=λ os=>some (.next,SS g4 w os,kI,g4.ps):=by
 rw[Fast.te10110043849684766642,Fast.te14364793385576792824]
 intro w
 kernel_rfl
theorem SH:∀w:World,(λ os=>segRunT treeTable pr w 11 (some (.ref 6)) 1 214 (SS g4 w os) (piecesOf (cut 5 6) jZ kI g4.ps ro))=λ os=>some (.next,SS g5 w os,kI,g5.ps):=by
 rw[Fast.te10110043849684766642,Fast.te14364793385576792824]
 intro w
 kernel_rfl
theorem SI:∀w:World,(λ os=>segRunT treeTable pr w 11 (some (.ref 6)) 1 377 (SS g5 w os) (piecesOf (cut 6 12) jZ kI g5.ps ro))=λ os=>some (.next,SS g6 w os,kI,g6.ps):=by
 rw[Fast.te10110043849684766642,Fast.te14364793385576792824]
 intro w
 kernel_rfl
theorem SJ:∀w:World,(λ os=>segRunT treeTable pr w 11 (some (.ref 6)) 1 369 (SS g6 w os) (piecesOf (cut 12 29) jZ kI g6.ps ro))=λ os=>some (.next,SS g7 w os,kI,g7.ps):=by
 rw[Fast.te10110043849684766642,Fast.te14364793385576792824]
 intro w
 kernel_rfl
theorem SK:∀w:World,(λ os=>segRunT treeTable pr w 11 (some (.ref 6)) 1 394 (SS g7 w os) (piecesOf (cut 29 41) jZ kI g7.ps ro))=λ os=>some (.next,SS g8 w os,kI,g8.ps):=by
 rw[Fast.te10110043849684766642,Fast.te14364793385576792824]
 intro w
 kernel_rfl
theorem SM:∀w:World,(λ os=>segRunT treeTable pr w 11 (some (.ref 6)) 1 384 (SS g8 w os) (piecesOf (cut 41 53) jZ kI g8.ps ro))=λ os=>some (.next,SS g9 w os,kI,g9.ps):=by
 rw[Fast.te10110043849684766642,Fast.te14364793385576792824]
 intro w
 kernel_rfl
theorem SN:∀w:World,(λ os=>segRunT treeTable pr w 11 (some (.ref 6)) 1 379 (SS g9 w os) (piecesOf (cut 53 67) jZ kI g9.ps ro))=λ os=>some (.next,SS M5 w os,kI,M5.ps):=by
 rw[Fast.te10110043849684766642,Fast.te14364793385576792824]
 intro w
 kernel_rfl
theorem OR:∀w:World,(λ os=>segRunT treeTable pr w 11 (some (.ref 6)) 1 227 (SS M5 w os) (piecesOf (cut 67 74) jZ kI M5.ps ro))=λ os=>some (.next,SS G7 w os,kI,G7.ps):=by
 rw[Fast.te10110043849684766642,Fast.te14364793385576792824]
 intro w
 kernel_rfl
theorem CM:PySem.Challenge.rw_pq0546_01.wellSaid=true:=by
 rw[Fast.te9446332074065402090]
 kernel_rfl
theorem FU:∀w:World,(λ os=>topGo treeTable pr w 11 (some (.ref 6)) 12 ⟨boot_heap w.params,#[],boot_drawn,boot_toks,os⟩ (topStub pr))=λ os=>some ((SS g0 w os).abs,⟨denote treeTable kI,kI,⟨0,0,0,0⟩,ro⟩):=by
 rw[Fast.te15667345088766844465,Fast.te14364793385576792824,Fast.te11892475500146522536]
 intro w
 kernel_rfl
theorem yU:∀w:World,(λ os=>segRun treeTable pr w 11 (some (.ref 6)) 1 1 (SS g0 w os).abs (blockOf (behindTheImports pr) jZ kI g0.ps ro))=λ os=>some (.next,(SS g0 w os).abs,kI,g0.ps):=by
 rw[Fast.te14374325043358763698,Fast.te14364793385576792824]
 intro w
 kernel_rfl
theorem FV:∀w:World,(λ os=>topRun treeTable pr w 11 (some (.ref 6)) 2 (SS G7 w os).abs ⟨doneF .next,kI,G7.ps,ro⟩)=λ os=>some (SS G7 w os).abs:=by
 rw[Fast.te14082659384304107361,Fast.te14364793385576792824]
 intro w
 kernel_rfl
theorem CN:behindTheImports pr=cut 0 2++(cut 2 3++(cut 3 4++(cut 4 5++(cut 5 6++(cut 6 12++(cut 12 29++(cut 29 41++(cut 41 53++(cut 53 67++(cut 67 74++ [])))))))))):=by kernel_rfl
theorem dX{w:World}{os:OsState}{n N:Nat}{g g':uA}{l rest:List Stmt}{r:Shared}(h:∀w:World,(λ os=>segRunT treeTable pr w 11 (some (.ref 6)) 1 n (SS g w os) (piecesOf l jZ kI g.ps ro))=λ os=>some (.next,SS g' w os,kI,g'.ps))
  (k:topRun treeTable pr w 11 (some (.ref 6)) N (SS g' w os).abs (restOf rest jZ kI g'.ps ro)=some r):topRun treeTable pr w 11 (some (.ref 6)) (n+N) (SS g w os).abs (restOf (l++rest) jZ kI g.ps ro)=some r:=
 piece_app (segRun_of (congrFun (h w) os)) k
theorem FW(w:World)(os:OsState):topRun treeTable pr w 11 (some (.ref 6)) 3255 ⟨boot_heap w.params,#[],boot_drawn,boot_toks,os⟩ (topStub pr)=some (SS G7 w os).abs:=by
 refine go_top (n:=12) (N:=3243) (congrFun (FU w) os) ?_
 refine piece_block (n:=1) (N:=3242) (congrFun (yU w) os) ?_
 rw[CN]
 refine dX (N:=3036) SA (dX (N:=2822) SD (dX (N:=2608) SE (dX (N:=2346) SG (dX (N:=2132) SH (dX (N:=1755) SI (dX (N:=1386) SJ (dX (N:=992) SK (dX (N:=608) SM (dX (N:=229) SN (dX (N:=2) OR (piece_nil (congrFun (FV w) os))))))))))))
theorem CO(w:World):((boot_heap w.params).isNs mainGlobals&&(#[]:Array GenState).size==0,(boot_heap w.params).objs.size,(boot_heap w.params).nsMap mainGlobals "__annotations__")=(true,11,some (.ref 6)):=by
 rw[Fast.te8920871248978507458]
 kernel_rfl
noncomputable def vw:Program:={ pr with main:={ pr.main with body:=cut 1 15++(cut 16 42++(cut 43 58++cut 59 74)) } }
noncomputable def H1(P:Params):Heap:=absHeap (tr G7 P) 472 {}
noncomputable def X1(s:Shared):Bool:=xlAt vw [] s&&recOk (RowW.records PySem.Challenge.rw_pq0546_01.row.toRowW) s
theorem Me:∀w:World,(λ os=>(staticsOk (importedModules pr.main.body) (boot_heap w.params) (H1 w.params)&&namesBound pr (H1 w.params)&&gensDone ⟨H1 w.params,#[],{},927,os⟩&&laidKept (boot_heap w.params) (H1 w.params)))=λ _=>true:=by
 unfold staticsOk namesBound laidKept
 rw[Fast.te5923862056798008813,Fast.te1584917186373303978,Fast.te14846217769314788766,Fast.te8920871248978507458,Fast.te7966671052430208091,Fast.te18344453789297297638,Fast.te12749700546528644094]
 intro w
 kernel_rfl
theorem Mf:∀w:World,(λ os=>openSeen vw [] (importedModules pr.main.body) X1 true ⟨H1 w.params,#[],{},927,os⟩)=λ _=>openGood vw []:=by
 unfold X1 xlAt
 rw[Fast.te4187177175401517315,Fast.te5923862056798008813]
 intro w
 kernel_rfl
theorem CP:LeftO pr vw [] X1 (λ s=>s.heap) (λ w=>H1 w.params) 7000:=
 LeftO.of_pieces (M:=3255) (boot_open (by kernel_rfl) (by decide) (λ s=>by kernel_rfl)) CO (λ w os=>FW w os) (by decide)
  (λ w=>by
   funext os
   have a:=congrFun (Me w) os
   have b:=congrFun (Mf w) os
   exact Prod.ext a (Prod.ext b rfl))
noncomputable def Jm:Stmt->DefRec
 | .FunctionDef n a b _ _ _ sc _ _ p=>⟨n,a,b,sc,p⟩
 |_=>⟨Str.ofString "",{ posonlyargs:=[],args:=[],vararg:=none,kwonlyargs:=[],kw_defaults:=[],kwarg:=none,defaults:=[] },[],default,default⟩
noncomputable def CQ:DefRec:=Jm (st 73)
theorem Jn:defOf vw PySem.Challenge.rw_pq0546_01.row.name=some (CQ,[]):=by
 unfold defOf
 rw[Fast.te3399658132070893891]
 kernel_rfl
theorem Jo:PySem.Challenge.rw_pq0546_01.row.prog.theDef PySem.Challenge.rw_pq0546_01.row.name=some (CQ.params,CQ.body,CQ.scope):=by
 rw[Fast.te10235530238920679567]
 kernel_rfl
theorem Mg:(chainsOk vw&&opensWell PySem.Challenge.rw_pq0546_01.row.prog&&(frees PySem.Challenge.rw_pq0546_01.row.toRowW&&PySem.Challenge.rw_pq0546_01.row.within.isEmpty))=true:=by
 unfold chainsOk
 rw[Fast.te5991557255702980513]
 kernel_rfl
theorem FX:PySem.Challenge.rw_pq0546_01.row.prog.bare:=⟨rfl,rfl,rfl,rfl,rfl,by kernel_rfl⟩
theorem Jp:PySem.Challenge.rw_pq0546_01.row.toRowW.promised:=by w_witness2
theorem SO(call:WalkO vw [] (XL vw []) (λ w h=>(H1 w.params).StaysIn h) PySem.Challenge.rw_pq0546_01.row.toRowW CQ [] (λ f vs=>PySem.call f vs)):PySem.Challenge.rw_pq0546_01.Holds:=
 holds_law CM λ OS=>holds_open (r:=PySem.Challenge.rw_pq0546_01.row) (q:=vw) (loose:=[]) (Xt:=X1) (XP:=XL vw []) (Yf:=λ s=>s.heap) (Ya:=λ w=>H1 w.params) (YP:=λ w h=>(H1 w.params).StaysIn h) (N:=7000)
  CP (λ w s e=>by rw[<-e];exact λ _ _ e=>e) (λ w h h' a b=>λ x o e=>b x o (a x o e)) (λ s e=>xl_of s (Bool.and_eq_true_iff.mp e).1) XL.keeps
  Jn Jo rfl (λ s e=>recFacts_of (Bool.and_eq_true_iff.mp e).2) rfl OS Mg FX Jp call
noncomputable def OT:List Nat:=[2,3,15,22,23,24,25,28,35,36,37,40,47,48,49,52,55,60,61,63,64,66,67,68,69,70,73,80,81,82,85,92,93,94,97,99,100,102,103,104,106,107,109,110,111,113,114,116,117,118,120,121,123,124,125,127,128,130,131,132,134,135,137,138,139,141,142,144,145,146,148,149,151,152,153,155,156,158,159,160,162,163,165,166,167,169,170,172,173,174,176,177,179,180,181,183,184,186,187,188,190,191,193,194,195,197,198,200,201,202,204,205,207,208,209,211,212,214,215,216,218,219,221,222,223,225,226,228,229,230,232,233,235,236,237,239,240,242,243,244,247,248,249,251,252,254,255,256,258,259,261,262,263,265,266,268,269,270,272,273,275,276,277,279,280,282,283,284,286,287,289,290,291,293,294,296,297,298,301,302,303,305,306,308,309,310,312,313,315,316,317,319,320,322,323,324,326,327,329,330,331,333,334,336,337,338,340,341,343,344,345,347,348,350,351,352,354,355,357,358,359,361,362,364,365,366,368,369,371,372,373,375,376,378,379,380,382,383,385,386,387,389,390,392,393,394,396,397,399,400,401,403,404,406,407,408,410,411,413,414,415,417,418,420,421,422,424,425,427,428,429,431,432,434,435,436,438,439,441,442,443,445,446,448,449,450,453,454,455,458,459,460,462,463,465,466,467,470,471]
noncomputable def hk(P:Params):Frag:=OT.map λ a=>(a,obj G7 P a)
theorem Mh(P:Params):OT=(hk P).map (·.1):=by kernel_rfl
theorem Jq(P:Params):OT.map (H1 P).get?=(hk P).map λ p=>some p.2:=by kernel_rfl
theorem Mi(P:Params):(hk P).In (H1 P):=Frag.in_of (Mh P) (Jq P)
theorem FY(P:Params):([461,456,451]:List Nat).map (H1 P).get?=[some (tabObj #[]),some (tabObj #[]),some (tabObj #[])]:=by kernel_rfl
theorem CR{P:Params}{h:Heap}(Y:(H1 P).StaysIn h):(hk P).In h/\h.get? 461=some (tabObj #[])/\h.get? 456=some (tabObj #[])/\h.get? 451=some (tabObj #[]):=by
 have t:=FY P
 simp only [List.map_cons,List.map_nil,List.cons.injEq] at t
 exact⟨Frag.In.keeps (Mi P) Y,Y _ _ t.1,Y _ _ t.2.1,Y _ _ t.2.2.1⟩
end Mine.Hd
end
section
open PySem PySem.W PyProof.Rows PySem.Calls
namespace Mine
noncomputable def nD:List (Addr×Addr×Str):=[(465,461,"_law_divisions_right.<locals>.<lambda>"),(458,456,"_law_digits_right.<locals>.<lambda>"),(453,451,"_law_bounds_right.<locals>.<lambda>")]
noncomputable def me(p:Params)(ob:Obj):Frag:=(4,ob)::Hd.hk p
theorem FZ(p:Params)(ob:Obj):GU (me p ob) prog nD=true:=by kernel_rfl
theorem CT(p:Params)(ob:Obj):nsIn (me p ob) mainGlobals "__builtins__"=some (some (.ref 4)):=by kernel_rfl
theorem F0(p:Params)(ob:Obj):vT (me p ob) 70 24 67=true:=by kernel_rfl
theorem Jr(p:Params)(ob:Obj):GY (me p ob) PySem.Challenge.rw_pq0546_01.row.prog.main.file 70 67=true:=by kernel_rfl
theorem CU(p:Params)(ob:Obj):tailIn (me p ob) eE (.ref 24::eE)=true:=by kernel_rfl
theorem Js(p:Params)(ob:Obj):lH (findIn (me p ob) (.ref 70) "__setattr__") (some (.builtin "object.__setattr__"))=true:=by kernel_rfl
theorem Jt(p:Params)(ob:Obj):nsIn (me p ob) cStatics "thirdparty.any"=some none:=by kernel_rfl
theorem yV(p:Params)(ob:Obj):nsIn (me p ob) mainGlobals "super"=some none:=by kernel_rfl
theorem F1:(PySem.Challenge.rw_pq0546_01.row.prog.main.scope.names.lookup ("super":Str)).isSome=false:=by kernel_rfl
theorem yW(p:Params)(ob:Obj):lH (alongIn (me p ob) "__init__" (.ref 24::eE)) (some (.builtin "Exception.__init__"))=true:=by kernel_rfl
theorem F2(p:Params)(ob:Obj):mroIn (me p ob) 70 (.type "Exception")=some true:=by kernel_rfl
theorem CV(p:Params)(ob:Obj):vR (me p ob) 70=true:=by kernel_rfl
theorem yX{W:Wd}{ob:Obj}(hK:W.K=me W.w.params ob)(hP:W.P=prog)(hp:W.prog=PySem.Challenge.rw_pq0546_01.row.prog):nC W:=by
 have hb:W.P.bad=70:=by rw[hP];rfl
 refine bJ (λ fd F=>?_)<|CF (Jr W.w.params ob)
 refine CG (D2:=24) (fI:=67) (fd:=fd) ?_ ?_ ?_ ?_ ?_ ?_ ?_ ?_ ?_ ?_
 ·rw[hK,hb];exact qh (CV _ _)
 ·rw[hK,hb];exact F0 _ _
 ·rw[hK,hb,hp];exact F
 ·rw[hK];exact CU _ _
 ·rw[hK,hb];exact gw (Js _ _)
 ·rw[hK];exact Jt _ _
 ·rw[hK];exact yV _ _
 ·rw[hp];exact F1
 ·rw[hK];exact gw (yW _ _)
 ·rw[hK,hb];exact F2 _ _
end Mine
end
section
open PySem PySem.W PyProof.Rows PySem.Calls PySem.SeqAt PySem.Spec
namespace Mine
noncomputable def OU(w:World)(ob:Obj)(os:OsState)(mg mb:Str->Option Value)(p:Program)(loose:List Str):Wd:=
 { prog:=PySem.Challenge.rw_pq0546_01.row.prog,w:=w,K:=me w.params ob,p:=p,loose:=loose,mg:=mg,mb:=mb,os:=os,P:=prog,bA:=i7 prog,tabs:=nD }
noncomputable def Plain:Prop:=∀zs:List Int,zs.length<=63->∃m Wn sl,m<=100/\aU (ao prog Wn m) Wn jw.body (gM jw none [.seq false (zs.map .int)])=some (.ret (.bool true) sl)
theorem ints_rep{bA:Nat->FuncData->Prop}{G:Heap}{items:List Value}{zs:List Int}(h:IntsAre items zs):aL bA G (zs.map V.int) items:=by
 induction h with
 |nil=>simp[aL]
 |cons n t _ ih=>
  simp only [List.map_cons,aL]
  exact⟨_,_,rfl,by simp[Rep],ih⟩
theorem join(d:DefRec){w:World}{s:Shared}{G0:Heap}{L fa a:Addr}{cd:Value}{zs:List Int}{items:List Value}{p:Program}{loose:List Str}{OV:ExcName->Option Value}{mg mb m:Str->Option Value}{Q:Flow->Shared->Prop}{E:Value->Shared->Prop}
  (plain:Plain)
  (yK:pM prog jw (docDef d.name d.params d.body d.scope .none .none .none)=true)(SP:(d.scope.names.all λ q=>q.2 != .cell)=true)
  (X:(Hd.hk w.params).In G0)(T:Top p loose OV mg mb G0)(F:Fr G0 L s.heap m)(hm:m "script"=some (.ref a))(hl:G0.IsList a items.toArray)(hI:IntsAre items zs)(cw:zs.length<=63)
  (N:News G0 L s.heap [(461,tabObj #[]),(456,tabObj #[]),(451,tabObj #[])])(hg:s.gens=#[])
  (hQ:∀s',(∀b o,G0.get? b=some o->s'.heap.get? b=some o)->s'.os=s.os->s'.gens=#[]->(∀P∈[461,456,451],∃ps,s'.heap.get? P=some (tabObj ps))->Q (.ret (.bool true)) s'):
  wpAny (model PySem.Challenge.rw_pq0546_01.row.prog w) (callerA.deeper (envOf d.name d.scope L fa cd)) (execs d.body (envOf d.name d.scope L fa cd)) Q E s:=by
 refine J3 (λ bm ob b1 b2 b3 b4 b5 b6=>?_)<|T.bmain
 let W:=OU w ob s.os mg mb p loose
 have Oq:bm=4:=by
  have e:=CT w.params ob
  have e2:nsIn (Hd.hk w.params) mainGlobals "__builtins__"=some (some (.ref 4)):=by kernel_rfl
  have:=mg_of X T.g e2
  rw[b1] at this
  cases this;rfl
 subst Oq
 have SQ:W.K.In G0:=by
  intro b o e
  have e:((4,ob)::Hd.hk w.params).lookup b=some o:=e
  rw[List.lookup_cons] at e
  cases hq:b==4 with
  |true=>rw[hq] at e;replace e:=si e;subst e;rw[beq_iff_eq.mp hq];exact b3
  |false=>rw[hq] at e;exact X _ _ e
 have K:WdOk4 W:=LP (W:=W) ⟨4,ob,CT w.params ob,by show((4,ob)::Hd.hk w.params).lookup 4=_;rw[List.lookup_cons];rfl,b2,by decide,b4,b5,b6⟩ (FZ w.params ob) rfl (yX (W:=W) (ob:=ob) rfl rfl rfl)
 refine bJ (λ body Cd=>?_)<|qd (W:=W) (fn:=jw) (fd:=docDef d.name d.params d.body d.scope .none .none .none) yK
 have tm:body=d.body:=by
  have:=Cd.PX
  injection this with e
  exact e.symm
 subst tm
 let env:=envOf d.name d.scope L fa cd
 let D:Led:=[(461,.tab "_law_divisions_right.<locals>.<lambda>"),(456,.tab "_law_digits_right.<locals>.<lambda>"),(451,.tab "_law_bounds_right.<locals>.<lambda>")]
 have tabAt:∀P q,(P,tabObj #[])∈[(461,tabObj #[]),(456,tabObj #[]),(451,tabObj #[])]->qv G0 s.heap P (.tab q):=λ P q hp=>⟨#[],(N _ hp).1,trivial,λ pos cv h=>nomatch h⟩
 have oJ:∀nm,env.kindOf nm≠some .cell:=λ nm h=>by
  have:=List.all_eq_true.mp SP _ (mem_of_lookup h)
  simp at this
 have Ju:∀cm,dB env cm jw.names=[]:=λ cm=>by
  unfold dB
  rw[List.filterMap_eq_nil_iff]
  intro nm _
  rw[if_neg (oJ nm)]
 have x1:St W G0 (vM env m (λ _=>none) jw.names++(kv none 0 []++dM none 0 D)) s:=by
  unfold vM
  rw[Ju]
  show St W G0 ([(L,MO.ns m),(461,.tab _),(456,.tab _),(451,.tab _)]) s
  have n1:=N (461,tabObj #[]) (by simp)
  have n2:=N (456,tabObj #[]) (by simp)
  have n3:=N (451,tabObj #[]) (by simp)
  have hL:G0.get? L=none:=by
   cases q:G0.get? L with
   |none=>rfl
   |some o=>exact absurd (UO (Heap.lt_size q) F.above) (Nat.lt_irrefl _)
  refine⟨⟨F.keep,λ q hq=>?_,λ q hq=>?_,?_⟩,SQ,topRead_of T,hg,rfl⟩
  ·simp only [List.mem_cons,List.not_mem_nil,or_false] at hq
   rcases hq with rfl|rfl|rfl|rfl
   ·exact F.ns
   ·exact tabAt _ _ (by simp)
   ·exact tabAt _ _ (by simp)
   ·exact tabAt _ _ (by simp)
  ·simp only [List.mem_cons,List.not_mem_nil,or_false] at hq
   rcases hq with rfl|rfl|rfl|rfl
   ·exact hL
   ·exact n1.2.2
   ·exact n2.2.2
   ·exact n3.2.2
  ·show[L,461,456,451].Nodup
   have a1:(461:Nat)≠L:=n1.2.1
   have a2:(456:Nat)≠L:=n2.2.1
   have a3:(451:Nat)≠L:=n3.2.1
   simp only [List.nodup_cons,List.mem_cons,List.not_mem_nil,or_false,not_or]
   exact⟨⟨Ne.symm a1,Ne.symm a2,Ne.symm a3⟩,⟨by decide,by decide⟩,by decide,by simp⟩
 refine D9 (λ mm Wn sl Ui hex=>?_)<|plain zs cw
 have rv:Rp W G0 (.seq false (zs.map .int)) (.ref a):=by
  simp only [Rp,Rep]
  exact⟨a,items,rfl,SeqAt.ofList hl,ints_rep hI⟩
 have ro:dT W [] D:=by
  refine⟨(λ e he=>nomatch he),λ q hq=>?_⟩
  have hq:q∈nD:=hq
  simp only [nD,List.mem_cons,List.not_mem_nil,or_false] at hq
  rcases hq with rfl|rfl|rfl
  ·exact UG ..
  ·exact UK _ (UG ..)
  ·exact UK _ (UK _ (UG ..))
 have V:pD W jw (docDef d.name d.params d.body d.scope .none .none .none) env:=⟨rfl,rfl,rfl,rfl,λ nm h=>absurd h (oJ nm),λ e=>nomatch e⟩
 have M:Args jw (docDef d.name d.params d.body d.scope .none .none .none) env m (λ _=>none) [.ref a]:=⟨rfl,λ nm c hz rW=>by
   have KR:(d.params.args.map (·.arg))=[("script":Str)]:=Cd.names
   have hz:(nm,c)∈(d.params.args.map (·.arg)).zip [Value.ref a]:=hz
   rw[KR] at hz
   have:=List.mem_singleton.mp hz
   cases this
   exact hm,λ nm c hz rW=>absurd rW (oJ nm)⟩
 have R:=qe (G:=G0) (D:=D) (A:=callerA) (aD:=none) (args:=[.seq false (zs.map .int)]) (cH:=[.ref a]) (items:=[]) (ab:=0) (stack:=[]) Cd V M (aL.one rv) rfl (λ xs e=>nomatch e) rfl rfl (λ p hp _=>hp) x1 ro
 have C:=th (A:=callerA) (stack:=[]) (ab:=0) Cd V List.Pairwise.nil rfl rfl
 have HS:=GR (Wn:=Wn) K mm
 have jj:∀k fd,i7 W.P k fd->W.bA k fd:=λ k fd hq=>hq
 have wJ:∀k sc e,fk W.P k sc e=true->fk W.P k sc e=true:=λ _ _ _ h=>h
 have Rm:dk (2*mm+1) (LF callerA env jw.names [] 0).A:=⟨by show 1+300+1+(2*mm+1)+30<1000;lia,by show 4+3+8*(2*mm+1)+200<9900;lia,rfl⟩
 have run:=gY (n:=2*mm) (Wn:=Wn) K.toWdOk3 (gG K.toWdOk2 jj HS wJ) (sR K.toWdOk2 jj HS wJ) (BB K.toWdOk2 jj HS wJ) jw.body _ d.body Cd.M0 _ G0 _ (dM none 0 D) _ s _ Q E C Rm R hex
 refine run ?_
 intro G2 D2 c s2 kG R2 Qd
 simp only [Rp,Rep] at Qd
 subst Qd
 refine hQ s2 (λ b o e=>R2.st.led.stays _ _ (kG _ _ e)) R2.st.os R2.st.gens λ P hP=>?_
 have tb:∀P q,(P,MO.tab q)∈D->∃ps,s2.heap.get? P=some (tabObj ps):=λ P q hq=>by
  obtain⟨ps,h1,_⟩:TabAt G2 s2.heap P q:=R2.st.led.has (P,.tab q) (UE _ hq)
  exact⟨ps,h1⟩
 simp only [List.mem_cons,List.not_mem_nil,or_false] at hP
 rcases hP with rfl|rfl|rfl
 ·exact tb _ _ (UG ..)
 ·exact tb _ _ (UK _ (UG ..))
 ·exact tb _ _ (UK _ (UK _ (UG ..)))
end Mine
end
section
open PySem PySem.W PyProof.Rows
namespace Mine
set_option maxHeartbeats 0 in
theorem OW(plain:Plain):PySem.Challenge.rw_pq0546_01.Holds:=Hd.SO (by
 intro w s₀ s₁ mg mb G Y fa o pm cd doc dV kV ho hd OM hD Ke hg args vals as OX OY SR SU GP
 refine Ho (λ KX t1 t2 t3=>?_)<|Hd.CR Y
 have hT9:TabsAt ([(465,461),(458,456),(453,451)]:List (Addr×Addr)) _:=List.forall_mem_cons.mpr ⟨⟨codeHd_of_K (c:=465) (P:=461) KX (by kernel_rfl),t1⟩,List.forall_mem_cons.mpr ⟨⟨codeHd_of_K (c:=458) (P:=456) KX (by kernel_rfl),t2⟩,List.forall_mem_cons.mpr ⟨⟨codeHd_of_K (c:=453) (P:=451) KX (by kernel_rfl),t3⟩,λ _ h=>nomatch h⟩⟩⟩
 have X:=(Ground.X G).1
 have V:=(Ground.X G).2
 refine Ground.open G ?_
 intro T B D TE TW
 clear t1 t2 t3 Y
 clear Ke
 wrow_args OX OY SR SU GP
 all_goals (
  first|refine callC_kw (enter_call ?_)|refine enter_call ?_
  w_top on
  kn_posts
  w_call any ho hd OM hD T F
  clear hd
  kn_ghosts F T
  k_drop
  skip)
 refine join _ plain (by kernel_rfl) (by kernel_rfl) (by assumption) (by assumption) (by assumption) (by rfl) (by assumption) (by assumption) (by lia) (by assumption) (by assumption) ?_
 intro s' hk SV hg ht
 refine⟨⟨.inl ⟨_,.bool true,[],rfl,λ _=>rfl,ReadsW.bool true,by kernel_rfl,λ _=>⟨List.nodup_nil,λ _ h=>nomatch h⟩⟩,hk,SV,hg⟩,?_⟩
 exact⟨ht 461 (by simp),ht 456 (by simp),ht 451 (by simp),trivial⟩)
end Mine
end
section
open PySem PySem.W PyProof.Rows PySem.Calls
namespace Mine
variable{Wn n:Nat}{call:Hd}{sl aB sl2 lZ:List Slot}
noncomputable abbrev VI(n:Nat):Slot:= .val (.int n)
theorem aE{a:Nat}{fn:Fn}(h:prog.fns.lookup a=some fn){aD:Option (List V)}{args:List V}:ao prog Wn (n+1) (.fn a) aD args=fH (ao prog Wn n) Wn fn aD args:=by
 show(match prog.fns.lookup a with|some fn=>fH (ao prog Wn n) Wn fn aD args|none=>none)=_
 rw[h]
noncomputable def jy(fn:Fn)(args:List V):List Slot:=args.map Slot.val++List.replicate (fn.names.length-fn.np) .af
theorem aS{fn:Fn}{args:List V}{v:V}(hb:fn.aD=false)(h1:args.length=fn.np)(h2:fn.np<=fn.names.length)(h:∃sl,aU call Wn fn.body (jy fn args)=some (.ret v sl)):fH call Wn fn none args=some (.ok v []):=by
 refine bJ ?_ h;clear h;intro sl h
 unfold fH
 rw[hb,if_pos ⟨rfl,by simpa using h1,h2⟩]
 have e:((none:Option (List V)).map Slot.aD).toList++args.map Slot.val++List.replicate (fn.names.length-fn.np) .af=jy fn args:=rfl
 rw[e,h];rfl
theorem CW{fn:Fn}{args:List V}(hb:fn.aD=false)(h1:args.length=fn.np)(h2:fn.np<=fn.names.length)(h:∃sl,aU call Wn fn.body (jy fn args)=some (.next sl)):fH call Wn fn none args=some (.ok .none []):=by
 refine bJ ?_ h;clear h;intro sl h
 unfold fH
 rw[hb,if_pos ⟨rfl,by simpa using h1,h2⟩]
 have e:((none:Option (List V)).map Slot.aD).toList++args.map Slot.val++List.replicate (fn.names.length-fn.np) .af=jy fn args:=rfl
 rw[e,h];rfl
theorem dN{fn:Fn}{args:List V}{C:Nat}{arg:V}(hb:fn.aD=false)(h1:args.length=fn.np)(h2:fn.np<=fn.names.length)(h:aU call Wn fn.body (jy fn args)=some (.exc C arg)):fH call Wn fn none args=some (.exc C arg):=by
 unfold fH
 rw[hb,if_pos ⟨rfl,by simpa using h1,h2⟩]
 have e:((none:Option (List V)).map Slot.aD).toList++args.map Slot.val++List.replicate (fn.names.length-fn.np) .af=jy fn args:=rfl
 rw[e,h];rfl
noncomputable abbrev Ok(call:Hd)(x:X)(sl:List Slot)(v:V)(a8:List Slot):Prop:=ev call x sl=some (.ok v a8)
noncomputable abbrev gQ(call:Hd)(t:T)(sl:List Slot)(b:Bool)(a8:List Slot):Prop:=iW call t sl=some (.ok b a8)
noncomputable abbrev w5(call:Hd)(xs:Xs)(sl:List Slot)(vs:List V)(a8:List Slot):Prop:=ip call xs sl=some (.ok vs a8)
theorem ah{v:V}:Ok call (.av v) sl v sl:=rfl
theorem cY{nm:Str}{v:V}:Ok call (.glob nm v) sl v sl:=rfl
theorem ae{i:Nat}{v:V}(h:sl[i]?=some (.val v)):Ok call (.ai i) sl v sl:=by
 show mw sl i=_
 unfold mw;rw[h]
theorem hH{i:Nat}{xs:List V}(h:sl[i]?=some (.own xs)):Ok call (.ai i) sl (.seq false xs) (sl.set i (.val (.seq false xs))):=by
 show mw sl i=_
 unfold mw;rw[h]
theorem az{op:nt}{l r:X}{a b v:V}(h1:Ok call l sl a aB)(h2:Ok call r aB b sl2)(h3:dz op a b=some v):Ok call (.bin op l r) sl v sl2:=by
 show(au (ev call l sl) λ a sl=>au (ev call r sl) λ b sl=>(dz op a b).map (R.ok · sl))=_
 rw[h1];show au (ev call r aB) _=_;rw[h2];show(dz op a b).map _=_;rw[h3];rfl
theorem hU{x:X}{i:Int}(h:Ok call x sl (.int i) aB):Ok call (.neg x) sl (.int (-i)) aB:=by
 show(au (ev call x sl) λ a sl=>match a with| .int i=>some (R.ok (V.int (-i)) sl)|_=>none)=_
 rw[h];rfl
theorem kc{op:o9}{l r:X}{a b:V}{c:Bool}(h1:Ok call l sl a aB)(h2:Ok call r aB b sl2)(h3:cL op a b=some c):Ok call (.cmp op l r) sl (.bool c) sl2:=by
 show(au (ev call l sl) λ a sl=>au (ev call r sl) λ b sl=>(cL op a b).map λ c=>R.ok (V.bool c) sl)=_
 rw[h1];show au (ev call r aB) _=_;rw[h2];show(cL op a b).map _=_;rw[h3];rfl
theorem fA{t:T}{a b:X}{v:V}(h1:gQ call t sl true aB)(h2:Ok call a aB v sl2):Ok call (.ik t a b) sl v sl2:=by
 show(au (iW call t sl) λ c sl=>if c then ev call a sl else ev call b sl)=_
 rw[h1];exact h2
theorem fK{t:T}{a b:X}{v:V}(h1:gQ call t sl false aB)(h2:Ok call b aB v sl2):Ok call (.ik t a b) sl v sl2:=by
 show(au (iW call t sl) λ c sl=>if c then ev call a sl else ev call b sl)=_
 rw[h1];exact h2
theorem dC{xs:Xs}{vs:List V}(h:w5 call xs sl vs aB)(hl:dO vs=true):Ok call (.tup xs) sl (.seq true vs) aB:=by
 show(au (ip call xs sl) λ vs sl=>if dO vs then some (R.ok (V.seq true vs) sl) else none)=_
 rw[h];show(if dO vs then _ else _)=_;rw[if_pos hl]
theorem bR{xs:Xs}{vs:List V}(h:w5 call xs sl vs aB)(hl:dO vs=true):Ok call (.lst xs) sl (.seq false vs) aB:=by
 show(au (ip call xs sl) λ vs sl=>if dO vs then some (R.ok (V.seq false vs) sl) else none)=_
 rw[h];show(if dO vs then _ else _)=_;rw[if_pos hl]
theorem iP{x i:X}{a b v:V}(h1:Ok call x sl a aB)(h2:Ok call i aB b sl2)(h3:cV a b=some v):Ok call (.idx x i) sl v sl2:=by
 show(au (ev call x sl) λ a sl=>au (ev call i sl) λ b sl=>(cV a b).map (R.ok · sl))=_
 rw[h1];show au (ev call i aB) _=_;rw[h2];show(cV a b).map _=_;rw[h3];rfl
theorem bc{s:Nat}{i:X}{a b v:V}(h0:sl[s]?=some (.val a))(h2:Ok call i sl b sl2)(h3:cV a b=some v):Ok call (.aZ s i) sl v sl2:=by
 show(match sl[s]? with
  |some (.val v)=>au (ev call i sl) λ b sl=>(cV v b).map (R.ok · sl)
  |some (.own _)=>au (ev call i sl) λ b sl=>((eA sl s).bind λ v=>cV v b).map (R.ok · sl)
  |some (.aD _)=>au (ev call i sl) λ b sl=>((eA sl s).bind λ v=>cV v b).map (R.ok · sl)
  |_=>none)=_
 rw[h0];show au (ev call i sl) _=_;rw[h2];show(cV a b).map _=_;rw[h3];rfl
theorem jz{s:Nat}{i:X}{xs:List V}{b a v:V}(h0:listS sl s=true)(h2:Ok call i sl b sl2)(h1:eA sl2 s=some a)(h3:cV a b=some v):Ok call (.aZ s i) sl v sl2:=by
 show(match sl[s]? with
  |some (.val v)=>au (ev call i sl) λ b sl=>(cV v b).map (R.ok · sl)
  |some (.own _)=>au (ev call i sl) λ b sl=>((eA sl s).bind λ v=>cV v b).map (R.ok · sl)
  |some (.aD _)=>au (ev call i sl) λ b sl=>((eA sl s).bind λ v=>cV v b).map (R.ok · sl)
  |_=>none)=_
 unfold listS at h0
 split at h0
 ·rename_i e;rw[e];show au (ev call i sl) _=_;rw[h2];show((eA sl2 s).bind λ v=>cV v b).map _=_;rw[h1];show(cV a b).map _=_;rw[h3];rfl
 ·rename_i e;rw[e];show au (ev call i sl) _=_;rw[h2];show((eA sl2 s).bind λ v=>cV v b).map _=_;rw[h1];show(cV a b).map _=_;rw[h3];rfl
 ·cases h0
theorem jP{x hi:X}{a v:V}{i:Int}(h1:Ok call x sl a aB)(h2:Ok call hi aB (.int i) sl2)(h3:fZ none (some i) a=some v):Ok call (.j3 x hi) sl v sl2:=by
 show(au (ev call x sl) λ a sl=>au (ev call hi sl) λ h sl=>match h with| .int h=>(fZ none (some h) a).map (R.ok · sl)|_=>none)=_
 rw[h1];show au (ev call hi aB) _=_;rw[h2];show(fZ none (some i) a).map _=_;rw[h3];rfl
theorem jQ{x lo:X}{a v:V}{i:Int}(h1:Ok call x sl a aB)(h2:Ok call lo aB (.int i) sl2)(h3:fZ (some i) none a=some v):Ok call (.fM x lo) sl v sl2:=by
 show(au (ev call x sl) λ a sl=>au (ev call lo sl) λ l sl=>match l with| .int l=>(fZ (some l) none a).map (R.ok · sl)|_=>none)=_
 rw[h1];show au (ev call lo aB) _=_;rw[h2];show(fZ (some i) none a).map _=_;rw[h3];rfl
theorem Mj{x:X}{a v:V}(h1:Ok call x sl a aB)(h3:xU a=some v):Ok call (.rev x) sl v aB:=by
 show(au (ev call x sl) λ a sl=>(xU a).map (R.ok · sl))=_
 rw[h1];show(xU a).map _=_;rw[h3];rfl
theorem aF{f:Nat}{nm:Str}{xs:Xs}{vs:List V}{v:V}{b:List V}(h:w5 call xs sl vs aB)(h2:call (.fn f) none vs=some (.ok v b)):Ok call (.call f nm xs) sl v aB:=by
 show(au (ip call xs sl) λ vs sl=>fv (call (.fn f) none vs) sl)=_
 rw[h];show fv (call (.fn f) none vs) aB=_;rw[h2];rfl
theorem eF{f:Nat}{nm:Str}{xs:Xs}{vs:List V}{C:Nat}{a:V}(h:w5 call xs sl vs aB)(h2:call (.fn f) none vs=some (.exc C a)):ev call (.call f nm xs) sl=some (.exc C a):=by
 show(au (ip call xs sl) λ vs sl=>fv (call (.fn f) none vs) sl)=_
 rw[h];show fv (call (.fn f) none vs) aB=_;rw[h2];rfl
theorem c8{f s:Nat}{nm:Str}{xs:Xs}{vs b b':List V}{v:V}(h0:listS sl s=true)(h:w5 call xs sl vs aB)(h1:aB[s]?=some (.aD b))(h2:call (.fn f) (some b) vs=some (.ok v b')):Ok call (.b8 f nm s xs) sl v (aB.set s (.aD b')):=by
 show(if listS sl s then au (ip call xs sl) λ vs sl=>match sl[s]? with
  |some (.own b)=>dQ (call (.fn f) (some b) vs) sl s
  |some (.aD b)=>dQ (call (.fn f) (some b) vs) sl s
  |_=>none
  else none)=_
 rw[if_pos h0,h];show(match aB[s]? with
  |some (.own b)=>dQ (call (.fn f) (some b) vs) aB s
  |some (.aD b)=>dQ (call (.fn f) (some b) vs) aB s
  |_=>none)=_
 rw[h1];show dQ _ _ _=_;unfold dQ;rw[h2];show(match aB[s]? with|some (.own _)=>_|some (.aD _)=>_|_=>_)=_;rw[h1]
theorem jR{f s:Nat}{nm:Str}{xs:Xs}{vs b b':List V}{v:V}(h0:listS sl s=true)(h:w5 call xs sl vs aB)(h1:aB[s]?=some (.own b))(h2:call (.fn f) (some b) vs=some (.ok v b')):Ok call (.b8 f nm s xs) sl v (aB.set s (.own b')):=by
 show(if listS sl s then au (ip call xs sl) λ vs sl=>match sl[s]? with
  |some (.own b)=>dQ (call (.fn f) (some b) vs) sl s
  |some (.aD b)=>dQ (call (.fn f) (some b) vs) sl s
  |_=>none
  else none)=_
 rw[if_pos h0,h];show(match aB[s]? with
  |some (.own b)=>dQ (call (.fn f) (some b) vs) aB s
  |some (.aD b)=>dQ (call (.fn f) (some b) vs) aB s
  |_=>none)=_
 rw[h1];show dQ _ _ _=_;unfold dQ;rw[h2];show(match aB[s]? with|some (.own _)=>_|some (.aD _)=>_|_=>_)=_;rw[h1]
theorem hV{x:X}{a v:V}(h1:Ok call x sl a aB)(h3:eH a=some v):Ok call (.len x) sl v aB:=by
 show(au (ev call x sl) λ a sl=>(eH a).map (R.ok · sl))=_
 rw[h1];show(eH a).map _=_;rw[h3];rfl
theorem aK{s:Nat}{a v:V}(h1:eA sl s=some a)(h3:eH a=some v):Ok call (.bu s) sl v sl:=by
 show((eA sl s).bind eH).map _=_
 rw[h1];show(eH a).map _=_;rw[h3];rfl
theorem aq:w5 call .nil sl [] sl:=rfl
theorem aa{x:X}{xs:Xs}{v:V}{vs:List V}(h1:Ok call x sl v aB)(h2:w5 call xs aB vs sl2):w5 call (.cons x xs) sl (v::vs) sl2:=by
 show(au (ev call x sl) λ v sl=>au (ip call xs sl) λ vs sl=>some (R.ok (v::vs) sl))=_
 rw[h1];show au (ip call xs aB) _=_;rw[h2];rfl
theorem iQ{x:X}{b:Bool}(h:Ok call x sl (.bool b) aB):gQ call (.val x) sl b aB:=by
 show(au (ev call x sl) λ v sl=>(El v).map (R.ok · sl))=_
 rw[h];rfl
theorem ay{op:o9}{l r:X}{a b:V}{c:Bool}(h1:Ok call l sl a aB)(h2:Ok call r aB b sl2)(h3:cL op a b=some c):gQ call (.aC op l r) sl c sl2:=by
 show(au (ev call l sl) λ a sl=>au (ev call r sl) λ b sl=>(cL op a b).map (R.ok · sl))=_
 rw[h1];show au (ev call r aB) _=_;rw[h2];show(cL op a b).map _=_;rw[h3];rfl
theorem tG{t:T}{b:Bool}(h:gQ call t sl b aB):gQ call (.not t) sl (!b) aB:=by
 show(au (iW call t sl) λ b sl=>some (R.ok (!b) sl))=_
 rw[h];rfl
noncomputable abbrev Ko(call:Hd)(b:Bool)(ts:Ts)(sl:List Slot)(c:Bool)(a8:List Slot):Prop:=r9 call b ts sl=some (.ok c a8)
theorem fj{b:Bool}:Ko call b .nil sl b sl:=rfl
theorem cy{b c:Bool}{t:T}{ts:Ts}(h:gQ call t sl b aB)(h2:Ko call b ts aB c sl2):Ko call b (.cons t ts) sl c sl2:=by
 show au (iW call t sl) _=_
 rw[h];show(if b==b then r9 call b ts aB else _)=_;rw[if_pos (by simp)];exact h2
theorem bY{b c:Bool}{t:T}{ts:Ts}(h:gQ call t sl c aB)(et:(c==b)=false):Ko call b (.cons t ts) sl c aB:=by
 show au (iW call t sl) _=_
 rw[h];show(if c==b then r9 call b ts aB else some (.ok c aB))=_;rw[et];rfl
theorem eg{ts:Ts}{c:Bool}(h:Ko call true ts sl c aB):gQ call (.and ts) sl c aB:=h
theorem fQ{ts:Ts}{c:Bool}(h:Ko call false ts sl c aB):gQ call (.or ts) sl c aB:=h
theorem bq{i:Nat}{x:X}{v:V}(h:Ok call x sl v aB)(h2:bg aB i (.val v)=some sl2):ex call Wn (.asg i x) sl=some (.next sl2):=by
 show(aW (ev call x sl) λ v sl=>(bg sl i (.val v)).map F.next)=_
 rw[h];show(bg aB i (.val v)).map _=_;rw[h2];rfl
theorem mf{i:Nat}{x:X}{xs:List V}(hf:kl x=true)(h:Ok call x sl (.seq false xs) aB)(h2:bg aB i (.own xs)=some sl2):ex call Wn (.qw i x) sl=some (.next sl2):=by
 show(if kl x then aW (ev call x sl) λ v sl=>match v with
   | .seq false xs=>(bg sl i (.own xs)).map F.next
   |_=>none
  else none)=_
 rw[if_pos hf,h];show(bg aB i (.own xs)).map _=_;rw[h2];rfl
theorem dY{is:List Nat}{xs:Xs}{vs:List V}(h:w5 call xs sl vs aB)(h2:cz aB is (iX xs vs)=some sl2):ex call Wn (.e8 is xs) sl=some (.next sl2):=by
 show(aW (ip call xs sl) λ vs sl=>(cz sl is (iX xs vs)).map F.next)=_
 rw[h];show(cz aB is (iX xs vs)).map _=_;rw[h2];rfl
theorem mR{i:Nat}{op:nt}{x:X}{a b:Int}{v:V}(h0:sl[i]?=some (.val (.int a)))(h:Ok call x sl (.int b) aB)(h1:dz op (.int a) (.int b)=some v)(h2:bg aB i (.val v)=some sl2):ex call Wn (.aug i op x) sl=some (.next sl2):=by
 show(match sl[i]? with
  |some (.val a)=>aW (ev call x sl) λ b sl=>match a,b with
   | .int a,.int b=>(dz op (.int a) (.int b)).bind λ v=>(bg sl i (.val v)).map F.next
   |_,_=>none
  |_=>none)=_
 rw[h0];show(aW (ev call x sl) _)=_;rw[h];show(dz op (.int a) (.int b)).bind _=_;rw[h1];show(bg aB i (.val v)).map _=_;rw[h2];rfl
theorem iR{s:Nat}{x:X}{v:V}(h0:listS sl s=true)(h:Ok call x sl v aB)(h2:se aB s v=some sl2):ex call Wn (.app s x) sl=some (.next sl2):=by
 show(if listS sl s then aW (ev call x sl) λ v sl=>(se sl s v).map F.next else none)=_
 rw[if_pos h0,h];show(se aB s v).map _=_;rw[h2];rfl
theorem aX{t:T}{a b:Ss}{r:Option F}(h:gQ call t sl true aB)(h2:aU call Wn a aB=r):ex call Wn (.ite t a b) sl=r:=by
 show(aW (iW call t sl) λ c sl=>if c then aU call Wn a sl else aU call Wn b sl)=_
 rw[h];exact h2
theorem aN{t:T}{a b:Ss}{r:Option F}(h:gQ call t sl false aB)(h2:aU call Wn b aB=r):ex call Wn (.ite t a b) sl=r:=by
 show(aW (iW call t sl) λ c sl=>if c then aU call Wn a sl else aU call Wn b sl)=_
 rw[h];exact h2
theorem aY{x:X}{v:V}(h:Ok call x sl v aB):ex call Wn (.ret x) sl=some (.ret v aB):=by
 show(aW (ev call x sl) λ v sl=>some (F.ret v sl))=_
 rw[h];rfl
theorem aM:aU call Wn .nil sl=some (.next sl):=rfl
theorem aj{s:S}{ss:Ss}{r:Option F}(h:ex call Wn s sl=some (.next aB))(h2:aU call Wn ss aB=r):aU call Wn (.cons s ss) sl=r:=by
 show(match ex call Wn s sl with|some (.next sl)=>aU call Wn ss sl|r=>r)=_
 rw[h];exact h2
theorem aH{s:S}{ss:Ss}{v:V}(h:ex call Wn s sl=some (.ret v aB)):aU call Wn (.cons s ss) sl=some (.ret v aB):=by
 show(match ex call Wn s sl with|some (.next sl)=>aU call Wn ss sl|r=>r)=_
 rw[h]
theorem cZ{s:S}{ss:Ss}{C:Nat}{a:V}(h:ex call Wn s sl=some (.exc C a)):aU call Wn (.cons s ss) sl=some (.exc C a):=by
 show(match ex call Wn s sl with|some (.next sl)=>aU call Wn ss sl|r=>r)=_
 rw[h]
theorem fo{t:List Slot->Option (R Bool)}{b:List Slot->Option F}{k:Nat}(h:t sl=some (.ok false aB)):cS t b (k+1) sl=some (.next aB):=by
 show aW (t sl) _=_
 rw[h];rfl
theorem tH{t:List Slot->Option (R Bool)}{b:List Slot->Option F}{k:Nat}{r:Option F}(h:t sl=some (.ok true aB))(h2:b aB=some (.next sl2))(h3:cS t b k sl2=r):cS t b (k+1) sl=r:=by
 show aW (t sl) _=_
 rw[h]
 show(match b aB with
    |some (.next sl)=>cS t b k sl
    |some (.cont sl)=>cS t b k sl
    |r=>r)=_
 rw[h2];exact h3
theorem ft{t:Bool}{xs:List V}(h:xs.length<bL):eH (.seq t xs)=some (.int xs.length):=if_pos (UJ h)
theorem mul_int{a b:Int}(h1:wk a=true)(h2:wk b=true):dz .mul (.int a) (.int b)=some (.int (a*b)):=by show(if wk a&&wk b then _ else _)=_;rw[h1,h2];rfl
theorem dq{a k:Int}(h1:0<=k)(h2:k<=4096)(h3:wk a=true):dz .shl (.int a) (.int k)=some (.int (a*2^k.toNat)):=if_pos ⟨h1,h2,h3⟩
theorem jS{a k:Int}(h1:0<=k):dz .shr (.int a) (.int k)=some (.int (Int.fdiv a (2^k.toNat))):=if_pos h1
theorem mod_int{a b:Int}(h:b≠0):dz .mod (.int a) (.int b)=some (.int (Int.fmod a b)):=if_pos h
theorem oL{a b:Int}(h:b≠0)(h2:b.natAbs<1073741824):dz .fdiv (.int a) (.int b)=some (.int (Int.fdiv a b)):=if_pos ⟨h,h2⟩
theorem oM{t:Bool}{xs:List Int}{i:Int}{k:Nat}{x:Int}(h:xs.length<bL)(hk:i=k)(hx:xs[k]?=some x):cV (.seq t (xs.map .int)) (.int i)=some (.int x):=by
 subst hk
 show(if dO (xs.map V.int) then zB (xs.map V.int) (k:Int) else none)=_
 rw[if_pos (show dO (xs.map V.int)=true from UJ (by simpa using h))]
 unfold zB
 rw[if_pos (Int.natCast_nonneg k),Int.toNat_natCast,List.getElem?_map,hx];rfl
noncomputable def norm(xs:List Int):List Int:=(xs.reverse.dropWhile (· ==0)).reverse
theorem Mk:norm []=[]:=rfl
theorem qj(xs:List Int):norm (xs++ [0])=norm xs:=by simp[norm]
theorem qk{xs:List Int}{x:Int}(h:x≠0):norm (xs++ [x])=xs++ [x]:=by simp[norm,List.dropWhile,h]
theorem take_succ_get{α:Type}{xs:List α}{e:Nat}{x:α}(h:xs[e]?=some x):xs.take (e+1)=xs.take e++ [x]:=by
 rw[List.take_add_one,h];rfl
theorem mS{xs:List Int}(hl:xs.length<bL):∀(e k:Nat),e<=xs.length->e<k->
  cS (iW call (.and (.cons (.aC .gt (.ai 1) (.av (.int 0))) (.cons (.aC .eq (.aZ 0 (.bin .sub (.ai 1) (.av (.int 1)))) (.av (.int 0))) .nil)))) (aU call Wn (.cons (.aug 1 .sub (.av (.int 1))) .nil)) k
   [.val (.seq false (xs.map .int)),.val (.int e)]=some (.next [.val (.seq false (xs.map .int)),.val (.int (norm (xs.take e)).length)])
 |0,k+1,_,_=>by
  refine fo ?_
  rfl
 |e+1,k+1,h1,h2=>by
  obtain⟨x,hx⟩:∃x,xs[e]?=some x:=⟨xs[e],UT h1⟩
  have t1:gQ call (.aC .gt (.ai 1) (.av (.int 0))) [.val (.seq false (xs.map .int)),.val (.int ((e+1:Nat):Int))] true [.val (.seq false (xs.map .int)),.val (.int ((e+1:Nat):Int))]:=by
   refine ay (ae rfl) ah ?_
   show some (decide _)=_
   rw[UJ (by exact rY (Nat.succ_pos _))]
  have t2:gQ call (.aC .eq (.aZ 0 (.bin .sub (.ai 1) (.av (.int 1)))) (.av (.int 0))) [.val (.seq false (xs.map .int)),.val (.int ((e+1:Nat):Int))] (x==0) [.val (.seq false (xs.map .int)),.val (.int ((e+1:Nat):Int))]:=
   ay (bc rfl (az (ae rfl) ah rfl) (oM (k:=e) (x:=x) hl (by lia) hx)) ah rfl
  rw[take_succ_get hx]
  by_cases hz:x=0
  ·subst hz
   rw[qj]
   refine tH (eg (cy t1 (cy t2 fj))) (aj (mR (v:= .int e) rfl ah ?_ rfl) aM) (mS hl e k (by lia) (by exact Nat.lt_of_succ_lt_succ ‹_›))
   show some (V.int _)=some (V.int _)
   congr 2;lia
  ·rw[qk hz]
   have hf:(x==0)=false:=beq_eq_false_iff_ne.mpr hz
   rw[hf] at t2
   refine(fo (eg (cy t1 (bY t2 rfl)))).trans ?_
   congr 6
   rw[List.length_append,List.length_take,List.length_singleton,Nat.min_eq_left (by lia)]
theorem ql(xs:List Int):xs.take (norm xs).length=norm xs:=by
 obtain⟨zs,h⟩:∃zs,xs=norm xs++zs:=by
  refine⟨(xs.reverse.takeWhile (· ==0)).reverse,?_⟩
  unfold norm
  rw[<-List.reverse_append,List.takeWhile_append_dropWhile,List.reverse_reverse]
 generalize norm xs=ys at h
 subst h
 exact List.take_left
theorem CX(xs:List Int):(norm xs).length<=xs.length:=by
 have:=congrArg List.length (ql xs)
 rw[List.length_take] at this
 lia
theorem rq{xs:List V}{k:Nat}(h:xs.length<bL)(hk:k<=xs.length):fZ none (some (k:Int)) (.seq false xs)=some (.seq false (xs.take k)):=by
 show(if dO xs then some (V.seq false (pick xs none (some (k:Int)))) else none)=_
 rw[if_pos (show dO xs=true from UJ h)]
 congr 2
 unfold pick
 have e1:kms_lo none xs.length=0:=rfl
 have e2:kms_hi (some (k:Int)) xs.length=k:=by
  show(if (k:Int)<0 then xs.length-(-(k:Int)).toNat else min (k:Int).toNat xs.length)=k
  rw[if_neg (by lia),Int.toNat_natCast];lia
 rw[e1,e2];simp
theorem CY(xs:List Int)(hl:xs.length<bL)(hW:xs.length<Wn):ao prog Wn (n+1) (.fn 103) none [.seq false (xs.map .int)]=some (.ok (.seq false ((norm xs).map .int)) []):=by
 rw[aE (fn:=tn) rfl]
 refine aS rfl rfl (by decide) ?_
 apply Exists.intro
 show aU _ _ oE [.val (.seq false (xs.map .int)),.af]=_
 unfold oE
 refine aj (bq (aK rfl (ft (xs:=xs.map .int) (by rw[List.length_map];exact hl))) rfl) ?_
 show aU _ _ _ [.val (.seq false (xs.map .int)),.val (.int (xs.map V.int).length)]=_
 rw[List.length_map]
 refine aj (mS hl xs.length Wn (Nat.le_refl _) hW) ?_
 rw[List.take_length]
 refine aH (aY (jP (ae rfl) (ae rfl) ?_))
 rw[rq (by rw[List.length_map];exact hl) (by rw[List.length_map];exact CX xs),<-List.map_take,ql]
noncomputable def ns(ls:List Nat):List V:=ls.map λ x:Nat=>V.int x
noncomputable abbrev VS(l:List Nat):Slot:= .val (.seq false (ns l))
theorem bh(ls:List Nat):(ns ls).length=ls.length:=List.length_map ..
theorem nE(ls:List Nat):ns ls=(ls.map λ x:Nat=>(x:Int)).map .int:=by simp[ns]
noncomputable def aw(w:Nat):Nat->Nat->List Nat
 |0,_=>[]
 |k+1,n=>if n=0 then [] else n%2^w::aw w k (n/2^w)
noncomputable def ak(w:Nat):List Nat->Nat
 | []=>0
 |l::ls=>l+2^w*ak w ls
set_option exponentiation.threshold 5000 in
theorem bI{i:Int}{k:Nat}(h:i.natAbs<2^k)(hk:k<=4096:=by lia):wk i=true:=by
 unfold wk
 rw[decide_eq_true_eq,zL]
 exact UO h (UP (by decide) hk)
theorem eZ:wk 1=true:=bI (k:=1) (by decide)
theorem hY(a b:Nat):Int.fdiv (a:Int) ((2:Int)^b)=((a/2^b:Nat):Int):=by
 have e:(2:Int)^b=((2^b:Nat):Int):=by rw[Int.natCast_pow];rfl
 rw[e,Int.fdiv_eq_ediv_of_nonneg _ (Int.natCast_nonneg _)]
 exact(Int.natCast_ediv a (2^b)).symm
theorem dE(b:Nat):(2:Int)^b=((2^b:Nat):Int):=by rw[Int.natCast_pow];rfl
theorem tI(a b:Nat):Int.fmod (a:Int) ((2:Int)^b)=((a%2^b:Nat):Int):=by
 rw[dE,Int.fmod_eq_emod_of_nonneg _ (Int.natCast_nonneg _)]
 exact(Int.natCast_emod a (2^b)).symm
theorem Jv(b:Nat):(2:Int)^b≠0:=by
 rw[dE]
 have:=Nat.two_pow_pos b
 exact xQ (Nat.ne_of_gt ‹_›)
theorem eG{s:Nat}{xs:List V}{v:V}(h:sl[s]?=some (.own xs))(hl:xs.length<bL):se sl s v=some (sl.set s (.own (xs++ [v]))):=by
 unfold se;rw[h];exact if_pos (UJ hl)
theorem oN{w:Nat}(hw:w<=4096):∀(j k m:Nat) (acc:List V),m<2^j->acc.length+j<bL->j<k->1<=w->
  cS (iW call (.aC .gt (.ai 0) (.av (.int 0)))) (aU call Wn (.cons (.app 2 (.bin .mod (.ai 0) (.bin .shl (.av (.int 1)) (.ai 1)))) (.cons (.asg 0 (.bin .shr (.ai 0) (.ai 1))) .nil))) k
   [.val (.int m),.val (.int w),.own acc]=some (.next [.val (.int 0),.val (.int w),.own (acc++ns (aw w j m))])
 |j,k+1,m,acc,h1,h2,h3,h4=>by
  by_cases hm:m=0
  ·subst hm
   have e:aw w j 0=[]:=by cases j<;> simp[aw]
   rw[e]
   refine(fo (ay (ae rfl) ah rfl)).trans ?_
   simp[ns]
  ·obtain⟨j,rfl⟩:∃j',j=j'+1:=by
    cases j with
    |zero=>simp at h1;lia
    |succ j=>exact⟨j,rfl⟩
   have e:aw w (j+1) m=m%2^w::aw w j (m/2^w):=by simp[aw,hm]
   rw[e]
   have gA:m/2^w<2^j:=by
    have h5:(2:Nat)<=2^w:=by
     exact UP (n:=2) (by decide) h4
    rw[Nat.div_lt_iff_lt_mul (Nat.two_pow_pos w)]
    exact UO (by rw[<-Nat.pow_succ];exact h1) (Nat.mul_le_mul_left (2^j) h5)
   refine tH (ay (c:=true) (ae rfl) ah ?_) (aj (iR (v:= .int ((m%2^w:Nat):Int)) rfl (az (ae rfl) (az ah (ae rfl) (dq (by exact mv (Nat.zero_le _)) (by exact zz ‹_›) eZ)) ?_) (eG rfl (by exact Gx ‹_›))) (aj (bq (v:= .int ((m/2^w:Nat):Int)) (az (ae rfl) (ae rfl) ((jS (by exact mv (Nat.zero_le _))).trans ?_)) rfl) aM)) ?_
   ·show some (decide _)=_
    rw[UJ (by exact rY (Nat.pos_of_ne_zero ‹_›))]
   ·refine(mod_int ?_).trans ?_
    ·rw[Int.one_mul];exact Jv _
    ·rw[Int.one_mul,Int.toNat_natCast,tI]
   ·rw[Int.toNat_natCast,hY]
   ·have:=oN hw j k (m/2^w) (acc++ [.int ((m%2^w:Nat):Int)]) gA (by simp;exact J6 ‹_›) (by exact Nat.lt_of_succ_lt_succ ‹_›) h4
    refine this.trans ?_
    simp[ns]
theorem iK{w m j:Nat}(gz:1<=w)(hw:w<=4096)(hm:m<2^j)(hj:j<bL)(hW:j<Wn):ao prog Wn (n+1) (.fn 400) none [.int m,.int w]=some (.ok (.seq false (ns (aw w j m))) []):=by
 rw[aE (fn:=mO) rfl]
 refine aS rfl rfl (by decide) ?_
 apply Exists.intro
 show aU _ _ js [VI m,VI w,.af]=_
 unfold js
 refine aj (mf rfl (bR aq rfl) rfl) ?_
 refine aj (oN hw j Wn m [] hm (by simpa using hj) hW gz) ?_
 exact aH (aY (hH rfl))
theorem kJ{i:Nat}{x:X}{b:Ss}{t:Bool}{vs:List V}{r:Option F}(h:Ok call x sl (.seq t vs) aB)(hl:vs.length<bL)(h2:bW (aU call Wn b) (λ x sl=>bg sl i (.val x)) vs aB=r):ex call Wn (.kM i x b) sl=r:=by
 show(aW (ev call x sl) λ a sl=>(eS a).bind λ ys=>bW (aU call Wn b) (λ x sl=>bg sl i (.val x)) ys sl)=_
 rw[h]
 show(if dO vs then some vs else none).bind _=_
 rw[if_pos (show dO vs=true from UJ hl)]
 exact h2
theorem jA{i:Nat}{as:Xs}{b:Ss}{vs:List V}{zs:List Int}{r:Option F}(h:w5 call as sl vs aB)(hr:bN vs=some zs)(h2:bW (aU call Wn b) (λ x sl=>bg sl i (.val x)) (zs.map .int) aB=r):ex call Wn (.forR i as b) sl=r:=by
 show(aW (ip call as sl) λ vs sl=>(bN vs).bind λ zs=>bW (aU call Wn b) (λ x sl=>bg sl i (.val x)) (zs.map .int) sl)=_
 rw[h]
 show(bN vs).bind _=_
 rw[hr];exact h2
theorem Ml{b:List Slot->Option F}{de:V->List Slot->Option (List Slot)}:bW b de [] sl=some (.next sl):=rfl
theorem kK{b:List Slot->Option F}{de:V->List Slot->Option (List Slot)}{x:V}{xs:List V}{r:Option F}(h:de x sl=some aB)(h2:b aB=some (.next sl2))(h3:bW b de xs sl2=r):bW b de (x::xs) sl=r:=by
 show(de x sl).bind _=_
 rw[h]
 show(match b aB with
  |some (.next sl)=>bW b de xs sl
  |some (.cont sl)=>bW b de xs sl
  |r=>r)=_
 rw[h2];exact h3
theorem Jw{b:List Slot->Option F}{de:V->List Slot->Option (List Slot)}{x:V}{xs:List V}{r:Option F}(h:de x sl=some aB)(h2:b aB=some (.cont sl2))(h3:bW b de xs sl2=r):bW b de (x::xs) sl=r:=by
 show(de x sl).bind _=_
 rw[h]
 show(match b aB with
  |some (.next sl)=>bW b de xs sl
  |some (.cont sl)=>bW b de xs sl
  |r=>r)=_
 rw[h2];exact h3
noncomputable def yY(w:Nat)(acc:Nat)(rs:List Nat):Nat:=rs.foldl (λ a l=>a*2^w+l) acc
theorem w6(w:Nat):∀(rs:List Nat) (acc:Nat),acc<=yY w acc rs
 | [],acc=>Nat.le_refl _
 |l::rs,acc=>by
  show acc<=yY w (acc*2^w+l) rs
  have h1:=w6 w rs (acc*2^w+l)
  have h2:acc*1<=acc*2^w:=Nat.mul_le_mul_left _ (Nat.two_pow_pos w)
  lia
theorem tJ(w:Nat)(ls:List Nat):yY w 0 ls.reverse=ak w ls:=by
 unfold yY
 rw[List.foldl_reverse]
 induction ls with
 |nil=>rfl
 |cons l ls ih=>
  rw[List.foldr_cons,ih]
  show ak w ls*2^w+l=l+2^w*ak w ls
  rw[Nat.mul_comm,Nat.add_comm]
theorem mT{w:Nat}(hw:w<=4096){a0:V}:∀(rs:List Nat) (acc:Nat) (z:Slot),(∀xs,z≠ .aD xs)->yY w acc rs<2^4000->
  ∃z',bW (aU call Wn (.cons (.asg 2 (.bin .add (.bin .shl (.ai 2) (.ai 1)) (.ai 3))) .nil)) (λ x sl=>bg sl 3 (.val x)) (ns rs) [.val a0,VI w,VI acc,z]=some (.next [.val a0,VI w,.val (.int (yY w acc rs:Nat)),z'])
 | [],acc,z,_,_=>⟨z,rfl⟩
 |l::rs,acc,z,hz,hb=>by
  obtain⟨z',h⟩:=mT hw rs (acc*2^w+l) (VI l) (λ xs e=>nomatch e) hb
  refine⟨z',?_⟩
  have By:acc<2^4000:=UN (w6 w (l::rs) acc) hb
  refine kK (aB:=[.val a0,VI w,VI acc,VI l]) ?_ (aj (bq (v:= .int ((acc*2^w+l:Nat):Int)) (az (az (ae rfl) (ae rfl) (dq (by exact mv (Nat.zero_le _)) (by exact zz ‹_›) (bI (k:=4000) ?_))) (ae rfl) ?_) rfl) aM) h
  ·cases z with
   |aD xs=>exact absurd rfl (hz xs)
   |_=>rfl
  ·rw[Int.natAbs_natCast];exact By
  ·rw[Int.toNat_natCast,dE]
   show some (V.int _)=some (V.int _)
   congr 2
theorem lJ{w:Nat}{ls:List Nat}(hw:w<=4096)(hl:ls.length<bL)(hb:ak w ls<2^4000):ao prog Wn (n+1) (.fn 407) none [.seq false (ns ls),.int w]=some (.ok (.int (ak w ls:Nat)) []):=by
 rw[aE (fn:=lG) rfl]
 refine aS rfl rfl (by decide) ?_
 refine bJ (λ z' h=>?_)<|mT (call:=ao prog Wn n) (Wn:=Wn) (a0:= .seq false (ns ls)) hw ls.reverse 0 .af (λ xs e=>nomatch e) (by rw[tJ];exact hb)
 rw[tJ] at h
 apply Exists.intro
 show aU _ _ iJ [VS ls,VI w,.af,.af]=_
 unfold iJ
 refine aj (bq (v:= .int 0) ah rfl) ?_
 refine aj (kJ (t:=false) (vs:=ns ls.reverse) (Mj (ae rfl) ?_) (by rw[bh,List.length_reverse];exact hl) h) ?_
 ·show(if dO (ns ls) then some (ns ls) else none).map (λ xs=>V.seq false xs.reverse)=_
  rw[if_pos (show dO (ns ls)=true from UJ (by rw[bh];exact hl))]
  simp[ns,List.map_reverse]
 ·exact aH (aY (ae rfl))
theorem cq{w:Nat}(hw:1<=w):∀(j m:Nat),m<2^j->ak w (aw w j m)=m
 |0,m,h=>by simp at h;subst h;rfl
 |j+1,m,h=>by
  unfold aw
  split
  ·rename_i h0;rw[h0];rfl
  ·show m%2^w+2^w*ak w (aw w j (m/2^w))=m
   rw[cq hw j (m/2^w) (by
    have h5:(2:Nat)<=2^w:=UP (n:=2) (by decide) hw
    rw[Nat.div_lt_iff_lt_mul (Nat.two_pow_pos w)]
    exact UO (by rw[<-Nat.pow_succ];exact h) (Nat.mul_le_mul_left (2^j) h5))]
   exact Nat.mod_add_div m (2^w)
theorem cI{w:Nat}:∀(j m:Nat),(aw w j m).length<=j
 |0,_=>Nat.le_refl _
 |j+1,m=>by
  unfold aw
  split
  ·exact Nat.zero_le _
  ·rw[List.length_cons];have:=cI (w:=w) j (m/2^w);exact Nat.succ_le_succ ‹_›
theorem tK{w:Nat}:∀(j m:Nat),∀l∈aw w j m,l<2^w
 |0,_,l,h=>by cases h
 |j+1,m,l,h=>by
  unfold aw at h
  split at h
  ·cases h
  ·rcases List.mem_cons.mp h with rfl|h
   ·exact Nat.mod_lt _ (Nat.two_pow_pos w)
   ·exact tK j _ l h
theorem nF{w j:Nat}{a b:List Nat}(gz:1<=w)(hw:w<=4096)(ha:a.length<bL)(hb:b.length<bL)(Fd:ak w a<2^4000)(Qe:ak w b<2^4000)(hm:ak w a*ak w b<2^j)(hj:j<bL)(hW:j<Wn):
  ao prog Wn (n+2) (.fn 414) none [.seq false (ns a),.seq false (ns b),.int w]=some (.ok (.seq false (ns (aw w j (ak w a*ak w b)))) []):=by
 rw[aE (fn:=mP) rfl]
 refine aS rfl rfl (by decide) ?_
 apply Exists.intro
 show aU _ _ jt [.val (.seq false (ns a)),.val (.seq false (ns b)),.val (.int w)]=_
 unfold jt
 refine aH (aY (aF (b:=[]) (aa (az (aF (aa (ae rfl) (aa (ae rfl) aq)) (lJ hw ha Fd)) (aF (aa (ae rfl) (aa (ae rfl) aq)) (lJ hw hb Qe)) (mul_int (bI (k:=4000) (by rw[Int.natAbs_natCast];exact Fd)) (bI (k:=4000) (by rw[Int.natAbs_natCast];exact Qe)))) (aa (ae rfl) aq)) ?_))
 have e:((ak w a:Nat):Int)*((ak w b:Nat):Int)=((ak w a*ak w b:Nat):Int):=(Int.natCast_mul ..).symm
 rw[e]
 exact iK gz hw hm hj hW
noncomputable def pF(w:Nat):List Nat->Nat->List Nat×Nat
 | [],c=>([],c)
 |x::xs,c=>let r:=pF w xs ((c+x)/2^w);((c+x)%2^w::r.1,r.2)
theorem CZ(w:Nat):∀(xs:List Nat) (c:Nat),(pF w xs c).1.length=xs.length
 | [],_=>rfl
 |x::xs,c=>by show(pF w xs _).1.length+1=_;rw[CZ];rfl
theorem C1(w:Nat):∀(xs:List Nat) (c:Nat),ak w (pF w xs c).1+2^(w*xs.length)*(pF w xs c).2=ak w xs+c
 | [],c=>by simp[pF,ak]
 |x::xs,c=>by
  have ih:=C1 w xs ((c+x)/2^w)
  show((c+x)%2^w+2^w*ak w (pF w xs ((c+x)/2^w)).1)+2^(w*(xs.length+1))*(pF w xs ((c+x)/2^w)).2=(x+2^w*ak w xs)+c
  have e:2^(w*(xs.length+1))=2^w*2^(w*xs.length):=by rw[Nat.mul_add,Nat.mul_one,Nat.pow_add,Nat.mul_comm]
  have h1:=Nat.mod_add_div (c+x) (2^w)
  rw[e,Nat.mul_assoc]
  have h2:2^w*ak w (pF w xs ((c+x)/2^w)).1+2^w*(2^(w*xs.length)*(pF w xs ((c+x)/2^w)).2)=2^w*ak w xs+2^w*((c+x)/2^w):=by
   rw[<-Nat.mul_add,ih,Nat.mul_add]
  exact QK h1 h2
theorem jB(w:Nat):(1*2^w-1:Int)=((2^w-1:Nat):Int):=by
 have:=Nat.two_pow_pos w
 rw[Int.one_mul,dE];exact MH this
theorem vX(a b:Nat):Builtin.bitAnd (a:Int) (b:Int)=((a&&&b:Nat):Int):=by
 unfold Builtin.bitAnd
 simp
theorem jC(w m:Nat):dz .and (.int m) (.int ((2^w-1:Nat):Int))=some (.int ((m%2^w:Nat):Int)):=by
 show some (V.int (Builtin.bitAnd _ _))=_
 rw[vX,Nat.and_two_pow_sub_one_eq_mod]
theorem oO{w:Nat}(hw:w<=4096):∀(j k m:Nat) (acc:List V),m<2^j->acc.length+j<bL->j<k->1<=w->
  cS (iW call (.aC .gt (.ai 0) (.av (.int 0)))) (aU call Wn (.cons (.app 2 (.bin .and (.ai 0) (.ai 3))) (.cons (.aug 0 .shr (.ai 1)) .nil))) k
   [.val (.int m),.val (.int w),.own acc,.val (.int ((2^w-1:Nat):Int))]=some (.next [.val (.int 0),.val (.int w),.own (acc++ns (aw w j m)),.val (.int ((2^w-1:Nat):Int))])
 |j,k+1,m,acc,h1,h2,h3,h4=>by
  by_cases hm:m=0
  ·subst hm
   have e:aw w j 0=[]:=by cases j<;> simp[aw]
   rw[e]
   refine(fo (ay (ae rfl) ah rfl)).trans ?_
   simp[ns]
  ·obtain⟨j,rfl⟩:∃j',j=j'+1:=by
    cases j with
    |zero=>simp at h1;lia
    |succ j=>exact⟨j,rfl⟩
   have e:aw w (j+1) m=m%2^w::aw w j (m/2^w):=by simp[aw,hm]
   rw[e]
   have gA:m/2^w<2^j:=by
    have h5:(2:Nat)<=2^w:=UP (n:=2) (by decide) h4
    rw[Nat.div_lt_iff_lt_mul (Nat.two_pow_pos w)]
    exact UO (by rw[<-Nat.pow_succ];exact h1) (Nat.mul_le_mul_left (2^j) h5)
   refine tH (ay (c:=true) (ae rfl) ah ?_) (aj (iR (v:= .int ((m%2^w:Nat):Int)) rfl (az (ae rfl) (ae rfl) (jC w m)) (eG rfl (by exact Gx ‹_›))) (aj (mR (v:= .int ((m/2^w:Nat):Int)) rfl (ae rfl) ((jS (by exact mv (Nat.zero_le _))).trans ?_) rfl) aM)) ?_
   ·show some (decide _)=_
    rw[UJ (by exact rY (Nat.pos_of_ne_zero ‹_›))]
   ·rw[Int.toNat_natCast,hY]
   ·have:=oO hw j k (m/2^w) (acc++ [.int ((m%2^w:Nat):Int)]) gA (by simp;exact J6 ‹_›) (by exact Nat.lt_of_succ_lt_succ ‹_›) h4
    refine this.trans ?_
    simp[ns]
theorem rt{w m j:Nat}(gz:1<=w)(hw:w<=4096)(hm:m<2^j)(hj:j<bL)(hW:j<Wn):ao prog Wn (n+1) (.fn 110) none [.int m,.int w]=some (.ok (.seq false (ns (aw w j m))) []):=by
 rw[aE (fn:=tq) rfl]
 refine aS rfl rfl (by decide) ?_
 apply Exists.intro
 show aU _ _ oF [.val (.int m),.val (.int w),.af,.af]=_
 unfold oF
 refine aj (aN (ay (c:=false) (ae rfl) ah ?_) aM) ?_
 ·show some (decide _)=_
  rw[UM (by lia)]
 refine aj (dY (vs:=[.seq false [],.int (1*2^w-1)]) (aa (bR aq rfl) (aa (az (az ah (ae rfl) (dq (by exact mv (Nat.zero_le _)) (by exact zz ‹_›) eZ)) ah ?_) aq)) rfl) ?_
 ·rw[Int.toNat_natCast];rfl
 rw[jB]
 refine aj (oO hw j Wn m [] hm (by simpa using hj) hW gz) ?_
 exact aH (aY (hH rfl))
theorem cO(w:Nat):∀(xs:List Nat) (y:Nat),ak w (xs++ [y])=ak w xs+2^(w*xs.length)*y
 | [],y=>by simp[ak]
 |x::xs,y=>by
  show x+2^w*ak w (xs++ [y])=x+2^w*ak w xs+2^(w*(xs.length+1))*y
  rw[cO w xs y,Nat.mul_add w,Nat.mul_one,Nat.pow_add,Nat.mul_add,<-Nat.mul_assoc,Nat.mul_comm (2^(w*xs.length)) (2^w),Nat.add_assoc]
theorem pow_step(w i:Nat):2^(w*(i+1))=2^(w*i)*2^w:=by rw[Nat.mul_add,Nat.mul_one,Nat.pow_add]
theorem eN{t:Bool}{ls:List Nat}{i x:Nat}(h:ls.length<bL)(hx:ls[i]?=some x):cV (.seq t (ns ls)) (.int i)=some (.int x):=by
 rw[nE]
 exact oM (k:=i) (by rw[List.length_map];exact h) rfl (by rw[List.getElem?_map,hx];rfl)
noncomputable def upTo(i k:Nat):List V:=(List.range' i k).map λ j:Nat=>V.int j
theorem Kp(i:Nat):upTo i 0=[]:=rfl
theorem dG(i k:Nat):upTo i (k+1)= .int i::upTo (i+1) k:=by simp[upTo,List.range'_succ]
theorem dt(i k:Nat):(bK (i:Nat) 1 k).map V.int=upTo i k:=by
 unfold bK upTo
 rw[List.range'_eq_map_range,List.map_map,List.map_map]
 refine List.map_congr_left λ j _=>?_
 show V.int _=V.int _
 congr 1
 push_cast;lia
theorem ru{k:Nat}(h:k<100000):pa (k:Nat)=true:=by
 unfold pa
 rw[Bool.and_eq_true,decide_eq_true_eq,decide_eq_true_eq]
 have:(bL:Int)=100000:=rfl
 lia
theorem rangeOf_1(a:Int):bN [.int a]=gJ [a]:=by unfold bN ez ez zM;rfl
theorem rangeOf_2(a b:Int):bN [.int a,.int b]=gJ [a,b]:=by unfold bN ez ez ez zM;rfl
theorem rangeI_1(a:Int):gJ [a]=if pa a then some (bK 0 1 a.toNat) else none:=by unfold gJ;rfl
theorem rangeI_2(a b:Int):gJ [a,b]=if pa a&&pa b then some (bK a 1 (b-a).toNat) else none:=by unfold gJ;rfl
theorem range_one{k:Nat}(h:k<100000):bN [.int k]=some (bK 0 1 k):=by
 rw[rangeOf_1,rangeI_1]
 rw[if_pos (ru h),Int.toNat_natCast]
theorem jT{i k:Nat}(hi:i<100000)(h:k<100000):bN [.int i,.int k]=some (bK (i:Nat) 1 (k-i)):=by
 rw[rangeOf_2,rangeI_2]
 rw[ru h,ru hi]
 show some (bK (i:Nat) 1 ((k:Int)-(i:Int)).toNat)=_
 congr 2
 exact Int.toNat_sub _ _
noncomputable def lK(a b:List Nat)(w:Nat)(z:Slot)(acc:List Nat)(c:Nat):List Slot:=[VS a,VS b,VI w,z,.own (ns acc),VI c,.val (.int ((2^w-1:Nat):Int))]
theorem gH(acc:List Nat)(d:Nat):ns acc++ [.int d]=ns (acc++ [d]):=by simp[ns]
theorem qm{a b:List Nat}{w:Nat}(hw:w<=4096)(zC:b.length<=a.length)(ha:a.length+2<bL):∀(k i c:Nat) (acc:List Nat) (z:Slot),(∀xs,z≠ .aD xs)->i+k=b.length->acc.length=i->
  ak w acc+2^(w*i)*c=ak w (a.take i)+ak w (b.take i)->
  ∃c' fB z',bW (aU call Wn (.cons (.aug 5 .add (.bin .add (.aZ 0 (.ai 3)) (.aZ 1 (.ai 3)))) (.cons (.app 4 (.bin .and (.ai 5) (.ai 6))) (.cons (.aug 5 .shr (.ai 2)) .nil)))) (λ x sl=>bg sl 3 (.val x)) (upTo i k) (lK a b w z acc c)
   =some (.next (lK a b w z' fB c'))/\(∀xs,z'≠ .aD xs)/\fB.length=b.length/\ak w fB+2^(w*b.length)*c'=ak w (a.take b.length)+ak w b
 |0,i,c,acc,z,hz,hi,hl,hv=>by
  have hi:i=b.length:=by lia
  subst hi
  exact⟨c,acc,z,rfl,hz,hl,by rw[hv,List.take_length]⟩
 |k+1,i,c,acc,z,hz,hi,hl,hv=>by
  obtain⟨x,hx⟩:∃x,a[i]?=some x:=⟨a[i]'(by lia),UT _⟩
  obtain⟨y,hy⟩:∃y,b[i]?=some y:=⟨b[i]'(by exact J5 ‹_›),UT _⟩
  let d:=(c+(x+y))%2^w
  let c1:=(c+(x+y))/2^w
  refine Eb (λ c' fB z' h1 h2 h3 h4=>?_)<|qm hw zC ha k (i+1) c1 (acc++ [d]) (VI i) (λ xs e=>nomatch e) (by exact Gw ‹_›) (by simp[hl]) (by
   rw[cO,hl,take_succ_get hx,take_succ_get hy,cO,cO,List.length_take,List.length_take,Nat.min_eq_left (by lia),Nat.min_eq_left (by exact Nk ‹_›),pow_step,Nat.mul_assoc]
   have h5:2^(w*i)*d+2^(w*i)*(2^w*c1)=2^(w*i)*(c+(x+y)):=by
    rw[<-Nat.mul_add]
    congr 1
    exact Nat.mod_add_div _ _
   rw[Nat.mul_add,Nat.mul_add] at h5
   exact QL hv h5)
  refine⟨c',fB,z',?_,h2,h3,h4⟩
  rw[dG]
  refine kK (aB:=lK a b w (VI i) acc c) ?_ (aj (mR (v:= .int ((c+(x+y):Nat):Int)) rfl (az (bc rfl (ae rfl) (eN (by exact Gx ‹_›) hx)) (bc rfl (ae rfl) (eN (by lia) hy)) rfl) ?_ rfl)
   (aj (iR (v:= .int d) rfl (az (ae rfl) (ae rfl) (jC w _)) (eG rfl (by rw[bh];lia))) (aj (mR (v:= .int c1) rfl (ae rfl) ((jS (by exact mv (Nat.zero_le _))).trans ?_) rfl) aM))) ?_
  ·cases z with
   |aD xs=>exact absurd rfl (hz xs)
   |_=>rfl
  ·show some (V.int _)=some (V.int _)
   congr 2
  ·rw[Int.toNat_natCast,hY]
  ·rw[gH];exact h1
theorem qo{a b:List Nat}{w:Nat}(hw:w<=4096)(ha:a.length+2<bL):∀(k i c:Nat) (acc:List Nat) (z:Slot),(∀xs,z≠ .aD xs)->i+k=a.length->acc.length=i->
  ∃c' fB z',bW (aU call Wn (.cons (.aug 5 .add (.aZ 0 (.ai 3))) (.cons (.app 4 (.bin .and (.ai 5) (.ai 6))) (.cons (.aug 5 .shr (.ai 2)) .nil)))) (λ x sl=>bg sl 3 (.val x)) (upTo i k) (lK a b w z acc c)
   =some (.next (lK a b w z' fB c'))/\fB.length=a.length/\ak w fB+2^(w*a.length)*c'+ak w (a.take i)=ak w acc+2^(w*i)*c+ak w a
 |0,i,c,acc,z,hz,hi,hl=>by
  have hi:i=a.length:=by lia
  subst hi
  exact⟨c,acc,z,rfl,hl,by rw[List.take_length]⟩
 |k+1,i,c,acc,z,hz,hi,hl=>by
  obtain⟨x,hx⟩:∃x,a[i]?=some x:=⟨a[i]'(by exact J5 ‹_›),UT _⟩
  let d:=(c+x)%2^w
  let c1:=(c+x)/2^w
  obtain⟨c',fB,z',h1,h3,h4⟩:=qo hw ha k (i+1) c1 (acc++ [d]) (VI i) (λ xs e=>nomatch e) (by exact Gw ‹_›) (by simp[hl])
  refine⟨c',fB,z',?_,h3,?_⟩
  ·rw[dG]
   refine kK (aB:=lK a b w (VI i) acc c) ?_ (aj (mR (v:= .int ((c+x:Nat):Int)) rfl (bc rfl (ae rfl) (eN (by exact Gx ‹_›) hx)) ?_ rfl)
    (aj (iR (v:= .int d) rfl (az (ae rfl) (ae rfl) (jC w _)) (eG rfl (by rw[bh];lia))) (aj (mR (v:= .int c1) rfl (ae rfl) ((jS (by exact mv (Nat.zero_le _))).trans ?_) rfl) aM))) ?_
   ·cases z with
    |aD xs=>exact absurd rfl (hz xs)
    |_=>rfl
   ·rfl
   ·rw[Int.toNat_natCast,hY]
   ·rw[gH];exact h1
  ·rw[cO,hl,take_succ_get hx,cO,List.length_take,Nat.min_eq_left (by exact Nk ‹_›),pow_step,Nat.mul_assoc] at h4
   have h5:2^(w*i)*d+2^(w*i)*(2^w*c1)=2^(w*i)*(c+x):=by
    rw[<-Nat.mul_add]
    congr 1
    exact Nat.mod_add_div _ _
   rw[Nat.mul_add] at h5
   exact QM h4 h5
theorem tL{a b:List Nat}{w:Nat}(hw:w<=4096)(zC:b.length<=a.length)(ha:a.length<99990):
  ∃r sl,aU call Wn (.cons (.e8 [4,5,6] (.cons (.lst .nil) (.cons (.av (.int 0)) (.cons (.bin .sub (.bin .shl (.av (.int 1)) (.ai 2)) (.av (.int 1))) .nil))))
   (.cons (.forR 3 (.cons (.bu 1) .nil) (.cons (.aug 5 .add (.bin .add (.aZ 0 (.ai 3)) (.aZ 1 (.ai 3)))) (.cons (.app 4 (.bin .and (.ai 5) (.ai 6))) (.cons (.aug 5 .shr (.ai 2)) .nil))))
   (.cons (.forR 3 (.cons (.bu 1) (.cons (.bu 0) .nil)) (.cons (.aug 5 .add (.aZ 0 (.ai 3))) (.cons (.app 4 (.bin .and (.ai 5) (.ai 6))) (.cons (.aug 5 .shr (.ai 2)) .nil))))
   (.cons (.ite (.aC .gt (.ai 5) (.av (.int 0))) (.cons (.app 4 (.ai 5)) .nil) .nil) (.cons (.ret (.ai 4)) .nil)))))
   [VS a,VS b,VI w,.af,.af,.af,.af]=some (.ret (.seq false (ns r)) sl)/\ak w r=ak w a+ak w b/\r.length<=a.length+1:=by
 have hL:bL=100000:=rfl
 refine Eb (λ c1 Mm z1 h1 h2 h3 h4=>?_)<|qm (call:=call) (Wn:=Wn) (a:=a) (b:=b) (w:=w) hw zC (by lia) b.length 0 0 [] .af (λ xs e=>nomatch e) (by lia) rfl (by simp[ak])
 refine Ea (λ c2 C2 z2 g1 g2 g3=>?_)<|qo (call:=call) (Wn:=Wn) (a:=a) (b:=b) (w:=w) hw (by lia) (a.length-b.length) b.length c1 Mm z1 h2 (by exact Nat.add_sub_cancel' ‹_›) h3
 have hv:ak w C2+2^(w*a.length)*c2=ak w a+ak w b:=QN h4 g3
 have pre:∀r,aU call Wn (.cons (.ite (.aC .gt (.ai 5) (.av (.int 0))) (.cons (.app 4 (.ai 5)) .nil) .nil) (.cons (.ret (.ai 4)) .nil)) (lK a b w z2 C2 c2)=r->aU call Wn (.cons (.e8 [4,5,6] (.cons (.lst .nil) (.cons (.av (.int 0)) (.cons (.bin .sub (.bin .shl (.av (.int 1)) (.ai 2)) (.av (.int 1))) .nil))))
   (.cons (.forR 3 (.cons (.bu 1) .nil) (.cons (.aug 5 .add (.bin .add (.aZ 0 (.ai 3)) (.aZ 1 (.ai 3)))) (.cons (.app 4 (.bin .and (.ai 5) (.ai 6))) (.cons (.aug 5 .shr (.ai 2)) .nil))))
   (.cons (.forR 3 (.cons (.bu 1) (.cons (.bu 0) .nil)) (.cons (.aug 5 .add (.aZ 0 (.ai 3))) (.cons (.app 4 (.bin .and (.ai 5) (.ai 6))) (.cons (.aug 5 .shr (.ai 2)) .nil))))
   (.cons (.ite (.aC .gt (.ai 5) (.av (.int 0))) (.cons (.app 4 (.ai 5)) .nil) .nil) (.cons (.ret (.ai 4)) .nil)))))
   [VS a,VS b,VI w,.af,.af,.af,.af]=r:=by
  intro r hr
  refine aj (dY (vs:=[.seq false [],.int 0,.int (1*2^w-1)]) (aa (bR aq rfl) (aa ah (aa (az (az ah (ae rfl) (dq (by exact mv (Nat.zero_le _)) (by exact zz ‹_›) eZ)) ah ?_) aq))) rfl) ?_
  ·rw[Int.toNat_natCast];rfl
  rw[jB]
  have lb:eH (.seq false (ns b))=some (.int (b.length:Nat)):=by
   have:=ft (t:=false) (xs:=ns b) (by rw[bh];lia)
   rw[bh] at this;exact this
  have la:eH (.seq false (ns a))=some (.int (a.length:Nat)):=by
   have:=ft (t:=false) (xs:=ns a) (by rw[bh];exact cD ‹_› (by decide))
   rw[bh] at this;exact this
  refine aj (aB:=lK a b w z1 Mm c1) (jA (aa (aK rfl lb) aq) (range_one (k:=b.length) (by lia)) ?_) (aj (aB:=lK a b w z2 C2 c2) (jA (aa (aK rfl lb) (aa (aK rfl la) aq)) (jT (i:=b.length) (k:=a.length) (by lia) (by exact cD ‹_› (by decide))) ?_) hr)
  ·have e:(bK 0 1 b.length).map V.int=upTo 0 b.length:=dt 0 b.length
   rw[e];exact h1
  ·rw[dt];exact g1
 by_cases hc:c2=0
 ·have h:=pre _ (aj (aN (ay (c:=false) (ae rfl) ah (by subst hc;rfl)) aM) (aH (aY (hH rfl))))
  exact⟨C2,_,h,by rw[hc] at hv;simpa using hv,by lia⟩
 ·have h:=pre _ (aj (aX (ay (c:=true) (ae rfl) ah (by show some (decide _)=_;rw[UJ (by exact rY (Nat.pos_of_ne_zero ‹_›))])) (aj (iR rfl (ae rfl) (eG rfl (by rw[bh];lia))) aM)) (aH (aY (hH rfl))))
  rw[gH] at h
  exact⟨C2++ [c2],_,h,by rw[cO,g2];exact hv,by simp;exact Nat.le_of_eq ‹_›⟩
theorem w7{a b:List Nat}{w:Nat}(hw:w<=4096)(ha:a.length<99990)(hb:b.length<99990):
  ∃r,ao prog Wn (n+1) (.fn 124) none [.seq false (ns a),.seq false (ns b),.int w]=some (.ok (.seq false (ns r)) [])/\ak w r=ak w a+ak w b/\r.length<=a.length+b.length+1:=by
 have hL:bL=100000:=rfl
 have lb:eH (.seq false (ns b))=some (.int (b.length:Nat)):=by
  have:=ft (t:=false) (xs:=ns b) (by rw[bh];exact cD ‹_› (by decide))
  rw[bh] at this;exact this
 have la:eH (.seq false (ns a))=some (.int (a.length:Nat)):=by
  have:=ft (t:=false) (xs:=ns a) (by rw[bh];exact cD ‹_› (by decide))
  rw[bh] at this;exact this
 by_cases zC:b.length<=a.length
 ·refine ew (λ r sl h1 h2 h3=>?_)<|tL (call:=ao prog Wn n) (Wn:=Wn) hw zC ha
  refine⟨r,?_,h2,by lia⟩
  rw[aE (fn:=Cb) rfl]
  refine aS rfl rfl (by decide) ⟨sl,?_⟩
  show aU _ _ tu [VS a,VS b,VI w,.af,.af,.af,.af]=_
  unfold tu
  refine aj (aN (ay (c:=false) (aK rfl la) (aK rfl lb) ?_) aM) h1
  show some (decide _)=_
  rw[UM (by exact Gv (Nat.not_lt_of_le ‹_›))]
 ·refine ew (λ r sl h1 h2 h3=>?_)<|tL (call:=ao prog Wn n) (Wn:=Wn) (a:=b) (b:=a) hw (by lia) hb
  refine⟨r,?_,by lia,by lia⟩
  rw[aE (fn:=Cb) rfl]
  refine aS rfl rfl (by decide) ⟨sl,?_⟩
  show aU _ _ tu [VS a,VS b,VI w,.af,.af,.af,.af]=_
  unfold tu
  refine aj (aX (ay (c:=true) (aK rfl la) (aK rfl lb) ?_) (aj (dY (aa (ae rfl) (aa (ae rfl) aq)) rfl) aM)) h1
  show some (decide _)=_
  rw[UJ (by exact xP (Nat.lt_of_not_le ‹_›))]
noncomputable def tM(a:List Nat)(br w:Nat)(z:Slot)(acc:List Nat)(c:Nat):List Slot:=[VS a,VI br,VI w,z,.own (ns acc),VI c,.val (.int ((2^w-1:Nat):Int))]
theorem jU{m:Nat}(h:m<2^4000):wk (m:Nat)=true:=bI (k:=4000) (by rw[Int.natAbs_natCast];exact h)
theorem tN{a:List Nat}{br w:Nat}(hw:w<=4096)(hb:br<2^4000):∀(xs acc:List Nat) (c:Nat) (z:Slot),(∀ys,z≠ .aD ys)->(∀x∈xs,x<2^4000)->acc.length+xs.length<99990->
  ∃c' fB z',bW (aU call Wn (.cons (.aug 5 .add (.bin .mul (.ai 3) (.ai 1))) (.cons (.app 4 (.bin .and (.ai 5) (.ai 6))) (.cons (.aug 5 .shr (.ai 2)) .nil)))) (λ x sl=>bg sl 3 (.val x)) (ns xs) (tM a br w z acc c)
   =some (.next (tM a br w z' fB c'))/\fB.length=acc.length+xs.length/\ak w fB+2^(w*fB.length)*c'=ak w acc+2^(w*acc.length)*(c+ak w xs*br)
 | [],acc,c,z,hz,hx,hl=>⟨c,acc,z,rfl,rfl,by simp[ak]⟩
 |x::xs,acc,c,z,hz,hx,hl=>by
  have hL:bL=100000:=rfl
  have hl:acc.length+(xs.length+1)<99990:=hl
  let d:=(c+x*br)%2^w
  let c1:=(c+x*br)/2^w
  obtain⟨c',fB,z',h1,h2,h3⟩:=tN hw hb xs (acc++ [d]) c1 (VI x) (λ ys e=>nomatch e) (λ y hy=>hx y (UK _ hy)) (by simp;exact J6 ‹_›)
  refine⟨c',fB,z',?_,by rw[h2];simp;lia,?_⟩
  ·refine kK (aB:=tM a br w (VI x) acc c) ?_ (aj (mR (v:= .int ((c+x*br:Nat):Int)) rfl (az (ae rfl) (ae rfl) (mul_int (jU (hx x (UG ..))) (jU hb))) ?_ rfl)
    (aj (iR (v:= .int d) rfl (az (ae rfl) (ae rfl) (jC w _)) (eG rfl (by rw[bh];lia))) (aj (mR (v:= .int c1) rfl (ae rfl) ((jS (by exact mv (Nat.zero_le _))).trans ?_) rfl) aM))) ?_
   ·cases z with
    |aD ys=>exact absurd rfl (hz ys)
    |_=>rfl
   ·show some (V.int _)=some (V.int _)
    congr 2
   ·rw[Int.toNat_natCast,hY]
   ·rw[gH];exact h1
  ·rw[h3,cO,List.length_append,List.length_singleton,pow_step]
   show ak w acc+2^(w*acc.length)*d+2^(w*acc.length)*2^w*(c1+ak w xs*br)=ak w acc+2^(w*acc.length)*(c+(x+2^w*ak w xs)*br)
   have h5:d+2^w*c1=c+x*br:=Nat.mod_add_div _ _
   have e:c+(x+2^w*ak w xs)*br=d+2^w*(c1+ak w xs*br):=by
    rw[Nat.add_mul,Nat.mul_add,<-Nat.add_assoc,<-Nat.add_assoc,h5,Nat.mul_assoc]
   rw[e,Nat.mul_add (2^(w*acc.length)),<-Nat.mul_assoc,<-Nat.add_assoc]
theorem vY{a:List Nat}{br w:Nat}(hw:w<=4096)(hb:br<2^4000)(ha:a.length<99980)(hx:∀x∈a,x<2^4000):
  ∃r,ao prog Wn (n+1) (.fn 131) none [.seq false (ns a),.int br,.int w]=some (.ok (.seq false (ns r)) [])/\ak w r=ak w a*br/\r.length<=a.length+1:=by
 have hL:bL=100000:=rfl
 by_cases h0:br=0
 ·subst h0
  refine⟨[],?_,by simp[ak],by simp⟩
  rw[aE (fn:=iE) rfl]
  refine aS rfl rfl (by decide) ?_
  apply Exists.intro
  show aU _ _ gi [VS a,.val (.int (0:Nat)),VI w,.af,.af,.af,.af]=_
  unfold gi
  exact aH (aX (ay (c:=true) (ae rfl) ah rfl) (aH (aY (bR aq rfl))))
 ·refine Ea (λ c' fB z' h1 h2 h3=>?_)<|tN (call:=ao prog Wn n) (Wn:=Wn) (a:=a) (br:=br) (w:=w) hw hb a [] 0 .af (λ ys e=>nomatch e) hx (by simp;exact cD ‹_› (by decide))
  have hv:ak w fB+2^(w*fB.length)*c'=ak w a*br:=by rw[h3];simp[ak]
  have h2:fB.length=a.length:=by simpa using h2
  have pre:∀r,aU (ao prog Wn n) Wn (.cons (.ite (.aC .gt (.ai 5) (.av (.int 0))) (.cons (.app 4 (.ai 5)) .nil) .nil) (.cons (.ret (.ai 4)) .nil)) (tM a br w z' fB c')=r->
    aU (ao prog Wn n) Wn gi [VS a,VI br,VI w,.af,.af,.af,.af]=r:=by
   intro r hr
   unfold gi
   refine aj (aN (ay (c:=false) (ae rfl) ah ?_) aM) ?_
   ·show some _=some false
    congr 1
    exact beq_eq_false_iff_ne.mpr (by exact xQ ‹_›)
   refine aj (dY (vs:=[.seq false [],.int 0,.int (1*2^w-1)]) (aa (bR aq rfl) (aa ah (aa (az (az ah (ae rfl) (dq (by exact mv (Nat.zero_le _)) (by exact zz ‹_›) eZ)) ah ?_) aq))) rfl) ?_
   ·rw[Int.toNat_natCast];rfl
   rw[jB]
   exact aj (aB:=tM a br w z' fB c') (kJ (t:=false) (vs:=ns a) (ae rfl) (by rw[bh];exact cD ‹_› (by decide)) h1) hr
  by_cases hc:c'=0
  ·have h:=pre _ (aj (aN (ay (c:=false) (ae rfl) ah (by subst hc;rfl)) aM) (aH (aY (hH rfl))))
   refine⟨fB,?_,by rw[hc] at hv;simpa using hv,by lia⟩
   rw[aE (fn:=iE) rfl]
   exact aS rfl rfl (by decide) ⟨_,h⟩
  ·have h:=pre _ (aj (aX (ay (c:=true) (ae rfl) ah (by show some (decide _)=_;rw[UJ (by exact rY (Nat.pos_of_ne_zero ‹_›))])) (aj (iR rfl (ae rfl) (eG rfl (by rw[bh];lia))) aM)) (aH (aY (hH rfl))))
   rw[gH] at h
   refine⟨fB++ [c'],?_,by rw[cO];exact hv,by simp;exact Nat.le_of_eq ‹_›⟩
   rw[aE (fn:=iE) rfl]
   exact aS rfl rfl (by decide) ⟨_,h⟩
theorem iL{s:Nat}{xs:Xs}{c:Callee}{u v:V}{vs b:List V}(h0:sl[s]?=some (.val u))(hc:fp u=some c)(h:w5 call xs sl vs aB)(h2:call c none vs=some (.ok v b)):Ok call (.fc s xs) sl v aB:=by
 show(match sl[s]? with
  |some (.val v)=>(fp v).bind λ c=>au (ip call xs sl) λ vs sl=>fv (call c none vs) sl
  |_=>none)=_
 rw[h0]
 show(fp u).bind _=_
 rw[hc]
 show au (ip call xs sl) _=_
 rw[h];show fv (call c none vs) aB=_;rw[h2];rfl
theorem tO{w:Nat}:∀{ls:List Nat} {x:Nat},x∈ls->x<=ak w ls
 |l::ls,x,h=>by
  show x<=l+2^w*ak w ls
  rcases List.mem_cons.mp h with rfl|h
  ·exact Nat.le_add_right _ _
  ·have h1:=tO (w:=w) h
   have h2:1*ak w ls<=2^w*ak w ls:=Nat.mul_le_mul_right _ (Nat.two_pow_pos w)
   lia
theorem ry{a:List Nat}{ag w:Nat}(gz:1<=w)(hw:w<=64)(hb:ag<2^64)(ha:a.length<1000)(Fd:ak w a<2^64)(hW:200<Wn):
  ∃r,ao prog Wn (n+3) (.fn 215) none [.seq false (ns a),.int ag,.int w,.obj 414]=some (.ok (.seq false (ns r)) [])/\ak w r=ak w a*ag/\r.length<=a.length+130:=by
 have hL:bL=100000:=rfl
 have big:∀{m:Nat},m<2^64->m<2^4000:=λ h=>Nat.lt_trans h (Nat.pow_lt_pow_right (by decide) (by decide))
 have M6:Ok (ao prog Wn (n+2)) (.bin .shl (.av (.int 1)) (.ai 2)) [VS a,VI ag,VI w,.val (.obj 414)] (.int ((2^w:Nat):Int)) [VS a,VI ag,VI w,.val (.obj 414)]:=by
  refine az ah (ae rfl) ((dq (by exact mv (Nat.zero_le _)) (by exact zz (iT ‹_› (by decide))) eZ).trans ?_)
  rw[Int.toNat_natCast,Int.one_mul,dE]
 by_cases gA:ag<2^w
 ·refine fY (λ r h1 h2 h3=>?_)<|vY (Wn:=Wn) (n:=n+1) (a:=a) (br:=ag) (w:=w) (by exact iT ‹_› (by decide)) (big hb) (by exact cD ‹_› (by decide)) (λ x hx=>big (UN (tO hx) Fd))
  refine⟨r,?_,h2,by lia⟩
  rw[aE (fn:=iG) rfl]
  refine aS rfl rfl (by decide) ?_
  apply Exists.intro
  show aU _ _ eY [VS a,VI ag,VI w,.val (.obj 414)]=_
  unfold eY
  refine aH (aY (fA (ay (ae rfl) M6 ?_) (aF (aa (ae rfl) (aa (ae rfl) (aa (ae rfl) aq))) h1)))
  show some (decide _)=_
  rw[UJ (by exact xP ‹_›)]
 ·have hm:ak w a*ag<2^128:=by
   have:ak w a*ag<2^64*2^64:=Nat.mul_lt_mul'' Fd hb
   exact this
  have OZ:=cq gz 64 ag hb
  refine⟨aw w 128 (ak w a*ag),?_,cq gz 128 _ hm,by have:=cI (w:=w) 128 (ak w a*ag);lia⟩
  rw[aE (fn:=iG) rfl]
  refine aS rfl rfl (by decide) ?_
  apply Exists.intro
  show aU _ _ eY [VS a,VI ag,VI w,.val (.obj 414)]=_
  unfold eY
  have ht:=nF (Wn:=Wn) (n:=n) (w:=w) (j:=128) (a:=a) (b:=aw w 64 ag) gz (by exact iT ‹_› (by decide)) (by exact cD ‹_› (by decide)) (by have:=cI (w:=w) 64 ag;exact gy ‹_› (by decide)) (big Fd) (by rw[OZ];exact big hb) (by rw[OZ];exact hm) (by decide) (by lia)
  rw[OZ] at ht
  refine aH (aY (fK (ay (c:=false) (ae rfl) M6 ?_) (iL rfl rfl (aa (ae rfl) (aa (aF (aa (ae rfl) (aa (ae rfl) aq)) (rt gz (by exact iT ‹_› (by decide)) hb (by decide) (by lia))) (aa (ae rfl) aq))) ht)))
  show some (decide _)=_
  rw[UM (by exact Gv ‹_›)]
noncomputable def cJ(ag acc:Nat)(ds:List Nat):Nat:=ds.foldl (λ a d=>a*ag+d) acc
theorem w8{ag:Nat}(hb:1<=ag):∀(ds:List Nat) (acc:Nat),acc<=cJ ag acc ds
 | [],acc=>Nat.le_refl _
 |d::ds,acc=>by
  show acc<=cJ ag (acc*ag+d) ds
  have h1:=w8 hb ds (acc*ag+d)
  have h2:acc*1<=acc*ag:=Nat.mul_le_mul_left _ hb
  lia
noncomputable def Jx(ds:List V)(ag w:Nat)(f:List Nat)(z:Slot):List Slot:=[.val (.seq false ds),VI ag,VI w,.val (.obj 414),VS f,z]
theorem oP{dv:List V}{ag w:Nat}(gz:1<=w)(hw:w<=64)(G8:1<=ag)(hb:ag<2^60)(hW:200<Wn):∀(ds f:List Nat) (z:Slot),(∀ys,z≠ .aD ys)->cJ ag (ak w f) ds<2^60->f.length+200*ds.length<900->
  ∃f' z',bW (aU (ao prog Wn (n+3)) Wn (.cons (.asg 4 (.call 124 "add" (.cons (.call 215 "times_base" (.cons (.ai 4) (.cons (.ai 1) (.cons (.ai 2) (.cons (.ai 3) .nil))))) (.cons (.call 110 "nat_of" (.cons (.ai 5) (.cons (.ai 2) .nil))) (.cons (.ai 2) .nil))))) .nil)) (λ x sl=>bg sl 5 (.val x)) (ns ds) (Jx dv ag w f z)
   =some (.next (Jx dv ag w f' z'))/\ak w f'=cJ ag (ak w f) ds/\f'.length<=f.length+200*ds.length
 | [],f,z,hz,hv,hl=>⟨f,z,rfl,rfl,by simp⟩
 |d::ds,f,z,hz,hv,hl=>by
  have hl:f.length+200*(ds.length+1)<900:=hl
  have hv:cJ ag (ak w f*ag+d) ds<2^60:=hv
  have h0:=w8 G8 ds (ak w f*ag+d)
  have hd:d<2^60:=by lia
  have hf:ak w f<2^60:=by
   have h2:ak w f*1<=ak w f*ag:=Nat.mul_le_mul_left _ G8
   lia
  have p6:(2:Nat)^60<2^64:=by decide
  refine fY (λ r1 t1 t2 t3=>?_)<|ry (Wn:=Wn) (n:=n) (a:=f) (ag:=ag) (w:=w) gz hw (by exact cD ‹_› (by decide)) (by lia) (by exact cD ‹_› (by decide)) hW
  have GH:=cI (w:=w) 64 d
  refine fY (λ r2 a1 a2 a3=>?_)<|w7 (Wn:=Wn) (n:=n+2) (a:=r1) (b:=aw w 64 d) (w:=w) (by exact iT ‹_› (by decide)) (by lia) (by exact gy ‹_› (by decide))
  rw[cq gz 64 d (by exact cD ‹_› (by decide)),t2] at a2
  obtain⟨f',z',h1,h2,h3⟩:=oP gz hw G8 hb hW ds r2 (VI d) (λ ys e=>nomatch e) (by rw[a2];exact hv) (by lia)
  refine⟨f',z',?_,by rw[h2,a2];rfl,by rw[List.length_cons];lia⟩
  have hL:bL=100000:=rfl
  refine kK (aB:=Jx dv ag w f (VI d)) ?_ (aj (bq (aF (aa (aF (aa (ae rfl) (aa (ae rfl) (aa (ae rfl) (aa (ae rfl) aq)))) t1) (aa (aF (aa (ae rfl) (aa (ae rfl) aq)) (rt (j:=64) gz (by exact iT ‹_› (by decide)) (by exact cD ‹_› (by decide)) (by decide) (by lia))) (aa (ae rfl) aq))) a1) rfl) aM) h1
  cases z with
  |aD ys=>exact absurd rfl (hz ys)
  |_=>rfl
theorem oQ{ds:List Nat}{ag w:Nat}(gz:1<=w)(hw:w<=64)(G8:1<=ag)(hb:ag<2^60)(hW:200<Wn)(hv:cJ ag 0 ds<2^60)(hl:ds.length<=4):
  ∃r,ao prog Wn (n+4) (.fn 222) none [.seq false (ns ds),.int ag,.int w,.obj 414]=some (.ok (.seq false (ns r)) [])/\ak w r=cJ ag 0 ds/\r.length<=200*ds.length:=by
 have hL:bL=100000:=rfl
 refine ew (λ f' z' h1 h2 h3=>?_)<|oP (Wn:=Wn) (n:=n) (dv:=ns ds) (ag:=ag) (w:=w) gz hw G8 hb hW ds [] .af (λ ys e=>nomatch e) hv (by simp;lia)
 refine⟨f',?_,h2,by simpa using h3⟩
 rw[aE (fn:=jk) rfl]
 refine aS rfl rfl (by decide) ?_
 apply Exists.intro
 show aU _ _ gk [VS ds,VI ag,VI w,.val (.obj 414),.af,.af]=_
 unfold gk
 refine aj (bq (v:= .seq false []) (bR aq rfl) rfl) ?_
 refine aj (kJ (t:=false) (vs:=ns ds) (ae rfl) (by rw[bh];exact gy ‹_› (by decide)) h1) ?_
 exact aH (aY (ae rfl))
noncomputable def atEnd(L:Nat):Nat->Nat
 |0=>0
 |i+1=>if L<=2^i then atEnd L i else i+1
theorem tP(L:Nat):∀i,atEnd L i<=i
 |0=>Nat.le_refl _
 |i+1=>by
  unfold atEnd
  split
  ·have:=tP L i;lia
  ·exact Nat.le_refl _
theorem tQ(L:Nat):∀i,atEnd L i≠0->2^(atEnd L i-1)<L
 |0,h=>absurd rfl h
 |i+1,h=>by
  unfold atEnd at h ⊢
  split
  ·rename_i h1;rw[if_pos h1] at h;exact tQ L i h
  ·rename_i h1;show 2^i<L;exact Nat.lt_of_not_le ‹_›
noncomputable def mh(ds pv:List V)(ag w aP:Nat)(i:Int):List Slot:=[.val (.seq false ds),.val (.seq false pv),VI ag,VI w,VI aP,.val (.obj 414),.val (.int i),.af,.af,.af]
theorem w9{ds pv:List V}{ag w aP:Nat}(hl:ds.length<bL):∀(i k:Nat),i<60->i<k->
  cS (iW call (.and (.cons (.aC .ge (.ai 6) (.av (.int 0))) (.cons (.aC .ge (.bin .shl (.av (.int 1)) (.ai 6)) (.bu 0)) .nil)))) (aU call Wn (.cons (.asg 6 (.bin .sub (.ai 6) (.av (.int 1)))) .nil)) k (mh ds pv ag w aP ((i:Int)-1))
   =some (.next (mh ds pv ag w aP ((atEnd ds.length i:Nat)-1)))
 |0,k+1,_,_=>by
  refine(fo (eg (bY (c:=false) (ay (ae rfl) ah rfl) rfl))).trans rfl
 |i+1,k+1,h1,h2=>by
  have e1:(((i+1:Nat):Int)-1)=(i:Nat):=by lia
  rw[e1]
  have t1:gQ call (.aC .ge (.ai 6) (.av (.int 0))) (mh ds pv ag w aP (i:Nat)) true (mh ds pv ag w aP (i:Nat)):=by
   refine ay (ae rfl) ah ?_
   show some (decide _)=_
   rw[UJ (by exact mv (Nat.zero_le _))]
  have t2:gQ call (.aC .ge (.bin .shl (.av (.int 1)) (.ai 6)) (.bu 0)) (mh ds pv ag w aP (i:Nat)) (decide (ds.length<=2^i)) (mh ds pv ag w aP (i:Nat)):=by
   refine ay (az ah (ae rfl) (dq (by exact mv (Nat.zero_le _)) (by lia) eZ)) (aK rfl (ft hl)) ?_
   show some (decide _)=_
   rw[Int.toNat_natCast,Int.one_mul,dE]
   congr 1
   exact decide_eq_decide.mpr (by lia)
  unfold atEnd
  by_cases hc:ds.length<=2^i
  ·rw[if_pos hc]
   rw[UJ hc] at t2
   refine tH (eg (cy t1 (cy t2 fj))) (aj (bq (v:= .int ((i:Int)-1)) (az (ae rfl) ah rfl) rfl) aM) (w9 hl i k (by exact Nat.lt_of_succ_lt ‹_›) (by exact Nat.lt_of_succ_lt_succ ‹_›))
  ·rw[if_neg hc]
   rw[UM hc] at t2
   refine(fo (eg (cy t1 (bY t2 rfl)))).trans ?_
   rw[e1]
theorem F3{t:Bool}{xs:List V}{k:Nat}{x:V}(h:xs.length<bL)(hx:xs[k]?=some x):cV (.seq t xs) (.int k)=some x:=by
 show(if dO xs then zB xs (k:Int) else none)=_
 rw[if_pos (show dO xs=true from UJ h)]
 unfold zB
 rw[if_pos (Int.natCast_nonneg k),Int.toNat_natCast,hx]
theorem tR{xs:List V}{k:Nat}(h:xs.length<bL)(hk:k<=xs.length):fZ (some (k:Int)) none (.seq false xs)=some (.seq false (xs.drop k)):=by
 show(if dO xs then some (V.seq false (pick xs (some (k:Int)) none)) else none)=_
 rw[if_pos (show dO xs=true from UJ h)]
 congr 2
 unfold pick
 have e1:kms_hi none xs.length=xs.length:=rfl
 have e2:kms_lo (some (k:Int)) xs.length=k:=by
  show(if (k:Int)<0 then xs.length-(-(k:Int)).toNat else min (k:Int).toNat xs.length)=k
  rw[if_neg (by lia),Int.toNat_natCast];lia
 rw[e1,e2]
 exact List.take_of_length_le (by rw[List.length_drop];exact Nat.le_refl _)
theorem xa(xs:List Nat)(k:Nat):(ns xs).take k=ns (xs.take k):=by simp[ns,List.map_take]
theorem F4(xs:List Nat)(k:Nat):(ns xs).drop k=ns (xs.drop k):=by simp[ns,List.map_drop]
theorem oR(ag:Nat):∀(ds:List Nat) (acc:Nat),cJ ag acc ds=acc*ag^ds.length+cJ ag 0 ds
 | [],acc=>by simp[cJ]
 |d::ds,acc=>by
  show cJ ag (acc*ag+d) ds=acc*ag^(ds.length+1)+cJ ag (0*ag+d) ds
  rw[oR ag ds (acc*ag+d),oR ag ds (0*ag+d),Nat.pow_succ,Nat.add_mul,Nat.zero_mul,Nat.zero_add,<-Nat.add_assoc,Nat.mul_assoc,Nat.mul_comm ag]
theorem vZ(ag:Nat)(ds:List Nat)(k:Nat):cJ ag 0 ds=cJ ag 0 (ds.take k)*ag^(ds.drop k).length+cJ ag 0 (ds.drop k):=by
 rw[<-oR]
 show ds.foldl _ 0=(ds.drop k).foldl _ ((ds.take k).foldl _ 0)
 rw[<-List.foldl_append,List.take_append_drop]
noncomputable def rX(P:List (List Nat)):List V:=P.map λ p=> .seq false (ns p)
theorem gI(P:List (List Nat)):(rX P).length=P.length:=List.length_map ..
theorem du{t:Bool}{ls:List Nat}(h:ls.length<99999):eH (.seq t (ns ls))=some (.int (ls.length:Nat)):=by
 have:=ft (t:=t) (xs:=ns ls) (by rw[bh];exact Nat.lt_trans h (by decide))
 rw[bh] at this;exact this
noncomputable def bz:Ss->Ss
 | .cons _ r=>r
 |r=>r
theorem xb{ds:List Nat}{P:List (List Nat)}{ag w aP:Nat}(SW:ds.length<1000)(hP:P.length<=50)(hW:200<Wn){r:Option F}
  (h:aU call Wn (bz (bz cf)) (mh (ns ds) (rX P) ag w aP ((atEnd ds.length P.length:Nat)-1))=r):
  aU call Wn cf [VS ds,.val (.seq false (rX P)),VI ag,VI w,VI aP,.val (.obj 414),.af,.af,.af,.af]=r:=by
 have hL:bL=100000:=rfl
 unfold cf
 refine aj (bq (v:= .int ((P.length:Int)-1)) (az (aK rfl (ft (xs:=rX P) (by rw[gI];exact gy ‹_› (by decide)))) ah (by rw[gI];rfl)) rfl) ?_
 have:=w9 (call:=call) (Wn:=Wn) (ds:=ns ds) (pv:=rX P) (ag:=ag) (w:=w) (aP:=aP) (by rw[bh];exact cD ‹_› (by decide)) P.length Wn (by exact gy ‹_› (by decide)) (by lia)
 rw[bh] at this
 exact aj this h
theorem tS{ds:List Nat}{pv:List V}{ag w aP e:Nat}(SW:ds.length<1000){c:Bool}(hc:c=(decide (ds.length<=aP) || decide (e=0))):
  gQ call (.or (.cons (.aC .le (.bu 0) (.ai 4)) (.cons (.aC .lt (.ai 6) (.av (.int 0))) .nil))) (mh (ns ds) pv ag w aP ((e:Int)-1)) c (mh (ns ds) pv ag w aP ((e:Int)-1)):=by
 have t1:gQ call (.aC .le (.bu 0) (.ai 4)) (mh (ns ds) pv ag w aP ((e:Int)-1)) (decide (ds.length<=aP)) (mh (ns ds) pv ag w aP ((e:Int)-1)):=by
  refine ay (aK rfl (du (by exact cD ‹_› (by decide)))) (ae rfl) ?_
  show some (decide _)=_
  congr 1
  exact decide_eq_decide.mpr (by lia)
 have t2:gQ call (.aC .lt (.ai 6) (.av (.int 0))) (mh (ns ds) pv ag w aP ((e:Int)-1)) (decide (e=0)) (mh (ns ds) pv ag w aP ((e:Int)-1)):=by
  refine ay (ae rfl) ah ?_
  show some (decide _)=_
  congr 1
  exact decide_eq_decide.mpr (by lia)
 subst hc
 by_cases h1:ds.length<=aP
 ·rw[UJ h1] at t1 ⊢
  exact fQ (bY t1 rfl)
 ·rw[UM h1] at t1 ⊢
  by_cases h2:e=0
  ·rw[UJ h2] at t2 ⊢
   exact fQ (cy t1 (bY t2 rfl))
  ·rw[UM h2] at t2 ⊢
   exact fQ (cy t1 (cy t2 fj))
theorem Mn{ag w aP:Nat}{P:List (List Nat)}(gz:1<=w)(hw:w<=64)(G8:1<=ag)(hb:ag<2^60)(hW:200<Wn)(hP:P.length<=50)(hp:∀(i:Nat) p,P[i]?=some p->ak w p=ag^2^i/\p.length<1000/\ag^2^i<2^4000):
  ∀(k:Nat) (ds:List Nat),ds.length<=k->ds.length<=4->cJ ag 0 ds<2^60->
  ∃r,ao prog Wn (n+5+k) (.fn 229) none [.seq false (ns ds),.seq false (rX P),.int ag,.int w,.int aP,.obj 414]=some (.ok (.seq false (ns r)) [])/\ak w r=cJ ag 0 ds/\r.length<=200*ds.length+130:=by
 have hL:bL=100000:=rfl
 have qp:∀(k:Nat) (ds:List Nat),ds.length<=4->cJ ag 0 ds<2^60->(decide (ds.length<=aP) || decide (atEnd ds.length P.length=0))=true->
   ∃r,ao prog Wn (n+5+k) (.fn 229) none [.seq false (ns ds),.seq false (rX P),.int ag,.int w,.int aP,.obj 414]=some (.ok (.seq false (ns r)) [])/\ak w r=cJ ag 0 ds/\r.length<=200*ds.length+130:=by
  intro k ds h2 h3 hc
  refine fY (λ r g1 g2 g3=>?_)<|oQ (Wn:=Wn) (n:=n+k) (ds:=ds) (ag:=ag) (w:=w) gz hw G8 hb hW h3 h2
  refine⟨r,?_,g2,by lia⟩
  have e:n+5+k=(n+k+4)+1:=by lia
  rw[e,aE (fn:=eK) rfl]
  refine aS rfl rfl (by decide) ?_
  apply Exists.intro
  show aU _ _ cf [VS ds,.val (.seq false (rX P)),VI ag,VI w,VI aP,.val (.obj 414),.af,.af,.af,.af]=_
  refine xb (by exact gy ‹_› (by decide)) hP hW ?_
  exact aH (aX (tS (by exact gy ‹_› (by decide)) hc.symm) (aH (aY (aF (aa (ae rfl) (aa (ae rfl) (aa (ae rfl) (aa (ae rfl) aq)))) g1))))
 intro k
 induction k with
 |zero=>
  intro ds h1 h2 h3
  refine qp 0 ds h2 h3 ?_
  have:ds.length=0:=by lia
  rw[this]
  have e0:∀i,atEnd 0 i=0:=λ i=>by
   induction i with
   |zero=>rfl
   |succ i ih=>unfold atEnd;rw[if_pos (Nat.zero_le _)];exact ih
  rw[e0];simp
 |succ k ih=>
  intro ds h1 h2 h3
  by_cases hc:(decide (ds.length<=aP) || decide (atEnd ds.length P.length=0))=true
  ·exact qp (k+1) ds h2 h3 hc
  ·have vj:(decide (ds.length<=aP) || decide (atEnd ds.length P.length=0))=false:=by simpa using hc
   have et:atEnd ds.length P.length≠0:=λ q=>hc (by rw[q];simp)
   obtain⟨e,he⟩:∃e,atEnd ds.length P.length=e+1:=Nat.exists_eq_succ_of_ne_zero et
   have gA:=tQ ds.length P.length et
   rw[he] at gA
   have gA:2^e<ds.length:=gA
   have SX:=Nat.two_pow_pos e
   have SY:e<P.length:=Nat.le_trans (Nat.le_of_eq he.symm) (tP ds.length P.length)
   obtain⟨p,Qf⟩:∃p,P[e]?=some p:=⟨P[e],UT SY⟩
   refine rS (λ O0 G9 Qg=>?_)<|hp e p Qf
   let m:=ds.length-2^e
   have hm:m<ds.length:=by show ds.length-2^e<ds.length;exact Nat.sub_lt (Nat.lt_trans ‹_› ‹_›) ‹_›
   have M7:=vZ ag ds m
   have GH:(ds.drop m).length=2^e:=by rw[List.length_drop];exact Nat.sub_sub_self (Nat.le_of_lt ‹2^(e+1-1)<ds.length›)
   have S0:(ds.take m).length=m:=by rw[List.length_take];exact Nat.min_eq_left (Nat.le_of_lt hm)
   rw[GH] at M7
   have S1:1<=ag^2^e:=Nat.one_le_pow _ _ G8
   have S2:cJ ag 0 (ds.take m)*1<=cJ ag 0 (ds.take m)*ag^2^e:=Nat.mul_le_mul_left _ S1
   have S3:m<=k:=Nat.le_of_lt_succ (UO hm h1)
   have S4:2^e<=k:=Nat.le_of_lt_succ (UO gA h1)
   have P4:=QU M7 h3
   have Sm:=QV S2 (Pz M7 h3)
   rw[<-S0] at S3
   rw[<-GH] at S4
   refine fY (λ r1 a1 a2 a3=>?_)<|ih (ds.take m) (by assumption) (by lia) (by assumption)
   refine fY (λ r2 b1 b2 b3=>?_)<|ih (ds.drop m) (by assumption) (by lia) (by assumption)
   have big:∀{x:Nat},x<2^60->x<2^4000:=λ h=>Nat.lt_trans h (Nat.pow_lt_pow_right (by decide) (by decide))
   have hmul:ak w r1*ak w p<2^128:=by
    rw[a2,O0]
    have:(2:Nat)^60<2^128:=by decide
    lia
   have S5:ak w p<2^4000:=by rw[O0];exact Qg
   have ht:=nF (Wn:=Wn) (n:=n+3+k) (w:=w) (j:=128) (a:=r1) (b:=p) gz (by exact iT ‹_› (by decide)) (by lia) (by exact cD ‹_› (by decide)) (by rw[a2];exact big (by assumption)) S5 hmul (by decide) (by lia)
   have S6:=cI (w:=w) 128 (ak w r1*ak w p)
   refine fY (λ r d1 d2 d3=>?_)<|w7 (Wn:=Wn) (n:=n+4+k) (a:=aw w 128 (ak w r1*ak w p)) (b:=r2) (w:=w) (by exact iT ‹_› (by decide)) (by exact gy ‹_› (by decide)) (by lia)
   rw[cq gz 128 _ hmul,a2,b2,O0] at d2
   refine⟨r,?_,by rw[d2,M7],by lia⟩
   have q1:n+3+k+2=n+5+k:=by lia
   have q2:n+4+k+1=n+5+k:=by lia
   rw[q1] at ht
   rw[q2] at d1
   show ao prog Wn ((n+5+k)+1) _ _ _=_
   rw[aE (fn:=eK) rfl]
   refine aS rfl rfl (by decide) ?_
   apply Exists.intro
   show aU _ _ cf [VS ds,.val (.seq false (rX P)),VI ag,VI w,VI aP,.val (.obj 414),.af,.af,.af,.af]=_
   refine xb (by exact gy ‹_› (by decide)) hP hW ?_
   refine aj (aN (tS (by exact gy ‹_› (by decide)) vj.symm) aM) ?_
   rw[he]
   have e1:(((e+1:Nat):Int)-1)=(e:Nat):=by lia
   rw[e1]
   refine aj (bq (v:= .int m) (az (aK rfl (du (by exact gy ‹_› (by decide)))) (az ah (ae rfl) (dq (by exact mv (Nat.zero_le _)) (by lia) eZ)) ?_) rfl) ?_
   ·show some (V.int _)=some (V.int _)
    rw[Int.toNat_natCast,Int.one_mul,dE]
    congr 2
    show(ds.length:Int)-_=((ds.length-2^e:Nat):Int)
    exact MH (Nat.le_of_lt ‹_›)
   have s1:=rq (xs:=ns ds) (k:=m) (by rw[bh];exact gy ‹_› (by decide)) (by rw[bh];exact Nat.le_trans (Nat.sub_le _ _) (Nat.le_refl _))
   rw[xa] at s1
   have s2:=tR (xs:=ns ds) (k:=m) (by rw[bh];exact gy ‹_› (by decide)) (by rw[bh];exact Nat.le_trans (Nat.sub_le _ _) (Nat.le_refl _))
   rw[F4] at s2
   refine aj (bq (aF (aa (jP (ae rfl) (ae rfl) s1) (aa (ae rfl) (aa (ae rfl) (aa (ae rfl) (aa (ae rfl) (aa (ae rfl) aq)))))) a1) rfl) ?_
   refine aj (bq (aF (aa (jQ (ae rfl) (ae rfl) s2) (aa (ae rfl) (aa (ae rfl) (aa (ae rfl) (aa (ae rfl) (aa (ae rfl) aq)))))) b1) rfl) ?_
   have S7:(rX P)[e]?=some (.seq false (ns p)):=by unfold rX;rw[List.getElem?_map,Qf];rfl
   exact aH (aY (aF (aa (iL rfl rfl (aa (ae rfl) (aa (bc rfl (ae rfl) (F3 (by rw[gI];exact gy ‹_› (by decide)) S7)) (aa (ae rfl) aq))) ht) (aa (ae rfl) (aa (ae rfl) aq))) d1))
theorem C3{x:X}{v:V}(h:Ok call x sl v aB):ex call Wn (.exp x) sl=some (.next aB):=by
 show(aW (ev call x sl) λ _ sl=>some (F.next sl))=_
 rw[h];rfl
theorem C4{x:X}{C:Nat}{a:V}(h:ev call x sl=some (.exc C a)):ex call Wn (.exp x) sl=some (.exc C a):=by
 show(aW (ev call x sl) λ _ sl=>some (F.next sl))=_
 rw[h];rfl
theorem rz{C:Nat}{nm:Str}{x:X}{v:V}(h:Ok call x sl v aB):ex call Wn (.eR C nm false x) sl=some (.exc C .none):=by
 show(aW (ev call x sl) λ v _=>if false=true then (match v with
   | .int i=>some (F.exc C (.int i))
   |_=>none) else some (F.exc C .none))=_
 rw[h];rfl
theorem rA{C:Nat}{nm:Str}{x:X}{i:Int}(h:Ok call x sl (.int i) aB):ex call Wn (.eR C nm true x) sl=some (.exc C (.int i)):=by
 show(aW (ev call x sl) λ v _=>if true=true then (match v with
   | .int i=>some (F.exc C (.int i))
   |_=>none) else some (F.exc C .none))=_
 rw[h];rfl
theorem C5{x y:X}{i j:Int}(h1:Ok call x sl (.int i) aB)(h2:Ok call y aB (.int j) sl2):Ok call (.max2 x y) sl (.int (if i<j then j else i)) sl2:=by
 show(au (ev call x sl) λ a sl=>au (ev call y sl) λ b sl=>match a,b with| .int i,.int j=>some (R.ok (V.int (if i<j then j else i)) sl)|_,_=>none)=_
 rw[h1];show au (ev call y aB) _=_;rw[h2];rfl
theorem nG{l m r:X}{o1 o2:o9}{a b d:V}{c:Bool}(h1:Ok call l sl a aB)(h2:Ok call m aB b sl2)(h3:cL o1 a b=some true)(h4:Ok call r sl2 d lZ)(h5:cL o2 b d=some c):gQ call (.il l o1 m o2 r) sl c lZ:=by
 show(au (ev call l sl) λ a sl=>au (ev call m sl) λ b sl=>match cL o1 a b with
  |some true=>au (ev call r sl) λ c sl=>(cL o2 b c).map (R.ok · sl)
  |some false=>some (.ok false sl)
  |none=>none)=_
 rw[h1];show au (ev call m aB) _=_;rw[h2]
 show(match cL o1 a b with
  |some true=>au (ev call r sl2) λ c sl=>(cL o2 b c).map (R.ok · sl)
  |some false=>some (.ok false sl2)
  |none=>none)=_
 rw[h3];show au (ev call r sl2) _=_;rw[h4];show(cL o2 b d).map _=_;rw[h5];rfl
theorem xc{l m r:X}{o1 o2:o9}{a b:V}(h1:Ok call l sl a aB)(h2:Ok call m aB b sl2)(h3:cL o1 a b=some false):gQ call (.il l o1 m o2 r) sl false sl2:=by
 show(au (ev call l sl) λ a sl=>au (ev call m sl) λ b sl=>match cL o1 a b with
  |some true=>au (ev call r sl) λ c sl=>(cL o2 b c).map (R.ok · sl)
  |some false=>some (.ok false sl)
  |none=>none)=_
 rw[h1];show au (ev call m aB) _=_;rw[h2]
 show(match cL o1 a b with
  |some true=>au (ev call r sl2) λ c sl=>(cL o2 b c).map (R.ok · sl)
  |some false=>some (.ok false sl2)
  |none=>none)=_
 rw[h3]
theorem iM{ag:Int}(hb:2<=ag):ao prog Wn (n+1) (.fn 166) none [.int ag]=some (.ok .none []):=by
 rw[aE (fn:=iF) rfl]
 refine CW rfl rfl (by decide) ?_
 apply Exists.intro
 show aU _ _ eX [.val (.int ag)]=_
 unfold eX
 refine aj (aN (ay (c:=false) (ae rfl) ah ?_) aM) aM
 show some (decide _)=_
 rw[UM (by lia)]
theorem mi{ag:Int}(hb:ag<2):ao prog Wn (n+1) (.fn 166) none [.int ag]=some (.exc 94 .none):=by
 rw[aE (fn:=iF) rfl]
 refine dN rfl rfl (by decide) ?_
 show aU _ _ eX [.val (.int ag)]=_
 unfold eX
 refine cZ (aX (ay (c:=true) (ae rfl) ah ?_) (cZ (rz ah)))
 show some (decide _)=_
 rw[UJ (by assumption)]
theorem Ha{b:List Slot->Option F}{de:V->List Slot->Option (List Slot)}{x:V}{xs:List V}{C:Nat}{a:V}(h:de x sl=some aB)(h2:b aB=some (.exc C a)):bW b de (x::xs) sl=some (.exc C a):=by
 show(de x sl).bind _=_
 rw[h]
 show(match b aB with
  |some (.next sl)=>bW b de xs sl
  |some (.cont sl)=>bW b de xs sl
  |r=>r)=_
 rw[h2]
noncomputable def ic(dv:List V)(ag w aP:Nat)(z u:Slot):List Slot:=[.val (.seq false dv),VI ag,VI w,VI aP,.val (.obj 414),z,u]
noncomputable def rB:Ss:=(.cons (.ite (.not (.il (.av (.int 0)) .le (.ai 5) .lt (.ai 1))) (.cons (.eR 94 "OutOfRange" false (.av (.str (Str.ofString "a digit beyond its base"))))
  .nil) .nil)
  .nil)
theorem xd{dv:List V}{ag w aP:Nat}{u:Slot}{i:Int}(h0:0<=i)(h1:i<ag):aU call Wn rB (ic dv ag w aP (.val (.int i)) u)=some (.next (ic dv ag w aP (.val (.int i)) u)):=by
 refine aj (aN (tG (b:=true) (nG ah (ae rfl) ?_ (ae rfl) ?_)) aM) aM
 ·show some (decide _)=_
  rw[UJ (by assumption)]
 ·show some (decide _)=_
  rw[UJ (by assumption)]
theorem Jy{dv:List V}{ag w aP:Nat}{u:Slot}{i:Int}(h:i<0\/(ag:Int)<=i):aU call Wn rB (ic dv ag w aP (.val (.int i)) u)=some (.exc 94 .none):=by
 refine cZ (aX (aB:=ic dv ag w aP (.val (.int i)) u) (tG (b:=false) ?_) (cZ (rz ah)))
 by_cases h0:0<=i
 ·refine nG ah (ae rfl) ?_ (ae rfl) ?_
  ·show some (decide _)=_
   rw[UJ (by assumption)]
  ·show some (decide _)=_
   rw[UM (by lia)]
 ·refine xc ah (ae rfl) ?_
  show some (decide _)=_
  rw[UM (by assumption)]
theorem xf{dv:List V}{ag w aP:Nat}:∀(is:List Int) (z:Slot),(∀ys,z≠ .aD ys)->(∀i∈is,0<=i/\i<ag)->
  ∃z',bW (aU call Wn rB) (λ x sl=>bg sl 5 (.val x)) (is.map .int) (ic dv ag w aP z .af)=some (.next (ic dv ag w aP z' .af))/\∀ys,z'≠ .aD ys
 | [],z,hz,_=>⟨z,rfl,hz⟩
 |i::is,z,hz,h=>by
  obtain⟨z',h1,h2⟩:=xf is (.val (.int i)) (λ ys e=>nomatch e) (λ j hj=>h j (UK _ hj))
  refine⟨z',?_,h2⟩
  have:=h i (UG ..)
  refine kK (aB:=ic dv ag w aP (.val (.int i)) .af) ?_ (xd this.1 this.2) h1
  cases z with
  |aD ys=>exact absurd rfl (hz ys)
  |_=>rfl
theorem tT{dv:List V}{ag w aP:Nat}:∀(is:List Int) (z:Slot),(∀ys,z≠ .aD ys)->(∃i∈is,i<0\/(ag:Int)<=i)->
  bW (aU call Wn rB) (λ x sl=>bg sl 5 (.val x)) (is.map .int) (ic dv ag w aP z .af)=some (.exc 94 .none)
 | [],z,hz,h=>by refine aV (λ i hi _=>?_) h;clear h;cases hi
 |i::is,z,hz,h=>by
  have hs:bg (ic dv ag w aP z .af) 5 (.val (.int i))=some (ic dv ag w aP (.val (.int i)) .af):=by
   cases z with
   |aD ys=>exact absurd rfl (hz ys)
   |_=>rfl
  by_cases hi:i<0\/(ag:Int)<=i
  ·exact Ha hs (Jy hi)
  ·refine kK hs (xd (by lia) (by lia)) (tT is _ (λ ys e=>nomatch e) ?_)
   refine aV (λ j hj Qh=>?_) h;clear h
   cases hj with
   |head=>exact absurd Qh hi
   |tail _ hj=>exact⟨j,hj,Qh⟩
theorem lL{ag w aP:Nat}{is:List Int}(hb:2<=ag)(hl:is.length<bL)(h:∃i∈is,i<0\/(ag:Int)<=i):
  ao prog Wn (n+2) (.fn 236) none [.seq false (is.map .int),.int ag,.int w,.int aP,.obj 414]=some (.exc 94 .none):=by
 rw[aE (fn:=eB) rfl]
 refine dN rfl rfl (by decide) ?_
 show aU _ _ ck (ic (is.map .int) ag w aP .af .af)=_
 unfold ck
 refine aj (C3 (aF (aa (ae rfl) aq) (iM (by exact mv ‹_›)))) ?_
 exact cZ (kJ (ae rfl) (by rw[List.length_map];exact hl) (tT is _ (λ ys e=>nomatch e) h))
theorem xg{ag:Int}{ds w aP mul:V}(hb:ag<2):
  ao prog Wn (n+2) (.fn 236) none [ds,.int ag,w,aP,mul]=some (.exc 94 .none):=by
 rw[aE (fn:=eB) rfl]
 refine dN rfl rfl (by decide) ?_
 show aU _ _ ck [.val ds,.val (.int ag),.val w,.val aP,.val mul,.af,.af]=_
 unfold ck
 exact cZ (C4 (eF (aa (ae rfl) aq) (mi hb)))
theorem tU{t:Bool}{xs:List V}{x:V}(h:(xs++ [x]).length<bL):cV (.seq t (xs++ [x])) (.int (-1))=some x:=by
 show(if dO (xs++ [x]) then zB (xs++ [x]) (-1) else none)=_
 rw[if_pos (show dO (xs++ [x])=true from UJ h)]
 unfold zB
 rw[if_neg (by decide)]
 simp
 refine⟨by lia,?_⟩
 have e2:((xs.length:Int)+1+ -1).toNat=xs.length:=by lia
 rw[e2];simp
theorem Jz{ds:List Nat}{ag w aP:Nat}{z:Slot}(gz:1<=w)(hw:w<=64)(tV:ag<=62)(hl:ds.length<=4)(hW:200<Wn)(p:List Nat)(hp:ak w p=ag)(mC:p.length<1000):
  ∃P:List (List Nat),cS (iW (ao prog Wn (n+2)) (.aC .lt (.bin .shl (.av (.int 2)) (.bin .sub (.bu 6) (.av (.int 1)))) (.bu 0)))
   (aU (ao prog Wn (n+2)) Wn (.cons (.app 6 (.fc 4 (.cons (.aZ 6 (.neg (.av (.int 1)))) (.cons (.aZ 6 (.neg (.av (.int 1)))) (.cons (.ai 2) .nil))))) .nil)) Wn (ic (ns ds) ag w aP z (.own (rX [p])))
    =some (.next (ic (ns ds) ag w aP z (.own (rX P))))/\P.length<=2/\∀(i:Nat) p,P[i]?=some p->ak w p=ag^2^i/\p.length<1000/\ag^2^i<2^4000:=by
 have hL:bL=100000:=rfl
 obtain⟨k,rfl⟩:∃k,Wn=k+2:=⟨Wn-2,by lia⟩
 have big:∀{m:Nat},m<2^64->m<2^4000:=λ h=>Nat.lt_trans h (Nat.pow_lt_pow_right (by decide) (by decide))
 have O1:ag*ag<2^64:=by
  have:ag*ag<=62*62:=Nat.mul_le_mul tV tV
  have:(62:Nat)*62<2^64:=by decide
  exact gy ‹_› (by decide)
 have v5:ag<2^64:=by have:(62:Nat)<2^64:=(by decide);exact gy ‹_› (by decide)
 have e0:ag^2^0=ag:=by simp
 have e1:ag^2^1=ag*ag:=by simp[Nat.pow_succ]
 have hc:∀(P:List (List Nat)),P.length=1\/P.length=2->gQ (ao prog (k+2) (n+2)) (.aC .lt (.bin .shl (.av (.int 2)) (.bin .sub (.bu 6) (.av (.int 1)))) (.bu 0)) (ic (ns ds) ag w aP z (.own (rX P))) (decide (2*2^(P.length-1)<ds.length)) (ic (ns ds) ag w aP z (.own (rX P))):=by
  intro P hP
  refine ay (az ah (az (aK rfl (ft (by rw[gI];lia))) ah rfl) ((dq (by rw[gI];lia) (by rw[gI];lia) (bI (k:=2) (by decide))).trans rfl)) (aK rfl (du (by exact gy ‹_› (by decide)))) ?_
  show some (decide _)=_
  congr 1
  apply decide_eq_decide.mpr
  rw[gI]
  have e:((P.length:Int)-1).toNat=P.length-1:=Int.toNat_sub P.length 1
  show(2:Int)*2^((P.length:Int)-1).toNat<_↔_
  rw[e,dE]
  lia
 by_cases h3:2<ds.length
 ·have ht:=nF (Wn:=k+2) (n:=n) (w:=w) (j:=128) (a:=p) (b:=p) gz (by exact iT ‹_› (by decide)) (by exact cD ‹_› (by decide)) (by exact cD ‹_› (by decide)) (by rw[hp];exact big v5) (by rw[hp];exact big v5) (by rw[hp];exact Nat.lt_trans O1 (by decide)) (by decide) (by lia)
  have cw:=cI (w:=w) 128 (ak w p*ak w p)
  have JA:=cq gz 128 (ak w p*ak w p) (by rw[hp];exact Nat.lt_trans O1 (by decide))
  revert ht cw JA
  generalize aw w 128 (ak w p*ak w p)=q0
  intro ht cw JA
  refine⟨[p,q0],?_,by simp,?_⟩
  ·have c1:=hc [p] (Or.inl rfl)
   rw[UJ (show 2*2^([p].length-1)<ds.length by simpa using h3)] at c1
   have c2:=hc [p,q0] (Or.inr rfl)
   rw[UM (show ¬ 2*2^([p,q0].length-1)<ds.length by simp;assumption)] at c2
   refine tH c1 (aj (iR rfl (iL rfl rfl (aa (jz (xs:=[]) rfl (hU ah) rfl (tU (xs:=[]) (by show 1<bL;rw[hL];decide))) (aa (jz (xs:=[]) rfl (hU ah) rfl (tU (xs:=[]) (by show 1<bL;rw[hL];decide))) (aa (ae rfl) aq))) ht) (eG rfl (by rw[gI,hL];show 1<100000;decide))) aM) (fo c2)
  ·intro i q hq
   match i,hq with
   |0,hq=>replace hq:=si hq;subst hq;exact⟨by rw[hp];simp,mC,by rw[e0];exact big v5⟩
   |1,hq=>replace hq:=si hq;subst hq;exact⟨by rw[JA,hp];simp[Nat.pow_succ],by exact gy ‹_› (by decide),by rw[e1];exact big O1⟩
 ·refine⟨[p],?_,by simp,?_⟩
  ·have c1:=hc [p] (Or.inl rfl)
   rw[UM (show ¬ 2*2^([p].length-1)<ds.length by simpa using h3)] at c1
   exact fo c1
  ·intro i q hq
   match i,hq with
   |0,hq=>replace hq:=si hq;subst hq;exact⟨by rw[hp];simp,mC,by rw[e0];exact big v5⟩
theorem ke{ag w aP:Nat}{ds:List Nat}(gz:1<=w)(hw:w<=64)(hb:2<=ag)(tV:ag<=62)(hl:ds.length<=4)(hd:∀d∈ds,d<ag)(hle:1<=aP)(hv:cJ ag 0 ds<2^60)(hW:200<Wn):
  ∃r,ao prog Wn (n+10) (.fn 236) none [.seq false (ns ds),.int ag,.int w,.int aP,.obj 414]=some (.ok (.seq false (ns r)) [])/\ak w r=cJ ag 0 ds/\r.length<1000:=by
 have hL:bL=100000:=rfl
 have v5:ag<2^64:=by have:(62:Nat)<2^64:=(by decide);exact gy ‹_› (by decide)
 have O2:ag<2^60:=by have:(62:Nat)<2^60:=(by decide);exact gy ‹_› (by decide)
 refine aV (λ z' g1 g2=>?_)<|xf (Wn:=Wn) (call:=ao prog Wn (n+9)) (dv:=ns ds) (ag:=ag) (w:=w) (aP:=aP) (ds.map λ x:Nat=>(x:Int)) .af (λ ys e=>nomatch e) (by
  intro i hi
  obtain⟨d,S8,rfl⟩:=List.mem_map.mp hi
  have:=hd d S8
  exact⟨(mv (Nat.zero_le _)),(xP ‹_›)⟩)
 rw[<-nE] at g1
 have hc:gQ (ao prog Wn (n+9)) (.aC .gt (.bu 0) (.max2 (.ai 3) (.av (.int 1)))) (ic (ns ds) ag w aP z' (.own (rX []))) (decide (aP<ds.length)) (ic (ns ds) ag w aP z' (.own (rX []))):=by
  refine ay (aK rfl (du (by exact gy ‹_› (by decide)))) (C5 (ae rfl) ah) ?_
  show some (decide _)=_
  congr 1
  apply decide_eq_decide.mpr
  split<;> lia
 have fin:∀(P:List (List Nat)),P.length<=2->(∀(i:Nat) p,P[i]?=some p->ak w p=ag^2^i/\p.length<1000/\ag^2^i<2^4000)->
   ∃r,(∀z,∃sl,aU (ao prog Wn (n+9)) Wn (.cons (.ret (.call 229 "number_by_powers" (.cons (.ai 0) (.cons (.ai 6) (.cons (.ai 1) (.cons (.ai 2) (.cons (.ai 3) (.cons (.ai 4) .nil)))))))) .nil) (ic (ns ds) ag w aP z (.own (rX P)))=some (.ret (.seq false (ns r)) sl))/\ak w r=cJ ag 0 ds/\r.length<1000:=by
  intro P hP hp
  refine fY (λ r a1 a2 a3=>?_)<|Mn (Wn:=Wn) (n:=n) (ag:=ag) (w:=w) (aP:=aP) (P:=P) gz hw (by lia) O2 hW (by exact iT ‹_› (by decide)) hp 4 ds hl hl hv
  refine⟨r,λ z=>?_,a2,by lia⟩
  exact⟨_,aH (aY (aF (aa (ae rfl) (aa (hH rfl) (aa (ae rfl) (aa (ae rfl) (aa (ae rfl) (aa (ae rfl) aq)))))) a1))⟩
 by_cases h1:aP<ds.length
 ·rw[UJ h1] at hc
  have hn:=rt (Wn:=Wn) (n:=n+8) (w:=w) (m:=ag) (j:=64) gz (by exact iT ‹_› (by decide)) v5 (by decide) (by lia)
  have Qi:=cI (w:=w) 64 ag
  have O3:=cq gz 64 ag v5
  revert hn Qi O3
  generalize aw w 64 ag=p
  intro hn Qi O3
  refine fY (λ P p1 p2 p3=>?_)<|Jz (Wn:=Wn) (n:=n+7) (ds:=ds) (ag:=ag) (w:=w) (aP:=aP) (z:=z') gz hw tV hl hW p O3 (by exact gy ‹_› (by decide))
  refine fY (λ r f1 f2 f3=>?_)<|fin P p2 p3
  refine⟨r,?_,f2,f3⟩
  rw[aE (fn:=eB) rfl]
  refine aS rfl rfl (by decide) ?_
  refine bJ (λ s f1=>?_)<|f1 z'
  refine⟨s,?_⟩
  show aU _ _ ck (ic (ns ds) ag w aP .af .af)=_
  unfold ck
  refine aj (C3 (aF (aa (ae rfl) aq) (iM (by exact mv ‹_›)))) ?_
  refine aj (kJ (ae rfl) (by rw[bh];exact gy ‹_› (by decide)) g1) ?_
  refine aj (mf rfl (bR aq rfl) rfl) ?_
  refine aj (aX hc (aj (iR rfl (aF (aa (ae rfl) (aa (ae rfl) aq)) hn) (eG rfl (by show 0<bL;rw[hL];decide))) (aj p1 aM))) f1
 ·rw[UM h1] at hc
  refine fY (λ r f1 f2 f3=>?_)<|fin [] (by decide) (by intro i p h;cases h)
  refine⟨r,?_,f2,f3⟩
  rw[aE (fn:=eB) rfl]
  refine aS rfl rfl (by decide) ?_
  refine bJ (λ s f1=>?_)<|f1 z'
  refine⟨s,?_⟩
  show aU _ _ ck (ic (ns ds) ag w aP .af .af)=_
  unfold ck
  refine aj (C3 (aF (aa (ae rfl) aq) (iM (by exact mv ‹_›)))) ?_
  refine aj (kJ (ae rfl) (by rw[bh];exact gy ‹_› (by decide)) g1) ?_
  refine aj (mf rfl (bR aq rfl) rfl) ?_
  exact aj (aN hc aM) f1
theorem Hb{x:X}{i:Int}(h:Ok call x sl (.int i) aB):Ok call (.abs x) sl (.int i.natAbs) aB:=by
 show(au (ev call x sl) λ a sl=>match a with| .int i=>some (R.ok (V.int i.natAbs) sl)|_=>none)=_
 rw[h];rfl
theorem C6{s:Nat}{i x:X}{v:V}{j:Int}(h:Ok call x sl v aB)(h0:listS aB s=true)(h2:Ok call i aB (.int j) sl2)(h3:sd sl2 s j v=some lZ):ex call Wn (.mW s i x) sl=some (.next lZ):=by
 show(aW (ev call x sl) λ v sl=>if listS sl s then aW (ev call i sl) λ j sl=>match j with
  | .int j=>(sd sl s j v).map .next
  |_=>none
  else none)=_
 rw[h]
 show(if listS aB s then aW (ev call i aB) λ j sl=>match j with
  | .int j=>(sd sl s j v).map F.next
  |_=>none
  else none)=_
 rw[if_pos h0,h2]
 show(sd sl2 s j v).map F.next=_
 rw[h3];rfl
theorem ie{fn:Fn}{args b b':List V}{v:V}(hb:fn.aD=true)(h1:args.length+1=fn.np)(h2:fn.np<=fn.names.length)(h:∃sl,aU call Wn fn.body (.aD b::jy fn args)=some (.ret v (.aD b'::sl))):fH call Wn fn (some b) args=some (.ok v b'):=by
 refine bJ ?_ h;clear h;intro sl h
 unfold fH
 rw[hb,if_pos ⟨rfl,by simpa using h1,h2⟩]
 have e:((some b:Option (List V)).map Slot.aD).toList++args.map Slot.val++List.replicate (fn.names.length-fn.np) .af= .aD b::jy fn args:=rfl
 rw[e,h];rfl
noncomputable def bU(xs:List Int)(c s:Nat):List V:=[.seq false (xs.map .int),.int c,.int s]
theorem rC{a:Int}{m:Nat}(hm:1<=m):∃r:Nat,r<m/\Int.fmod a (m:Nat)=(r:Nat):=by
 have h1:0<=Int.fmod a (m:Nat):=Int.fmod_nonneg_of_pos a (by exact rY (Nat.lt_of_succ_le ‹_›))
 have h2:Int.fmod a (m:Nat)<(m:Nat):=Int.fmod_lt_of_pos a (by exact rY (Nat.lt_of_succ_le ‹_›))
 exact⟨(Int.fmod a (m:Nat)).toNat,(Int.toNat_lt h1).mpr h2,by exact Eq.symm (Int.toNat_of_nonneg ‹_›)⟩
theorem dZ{xs:List Int}{c s m:Nat}(hl:xs.length<=40)(hm:1<=m)(hc:c<2^60):
  ∃r:Nat,r<m/\ao prog Wn (n+1) (.fn 393) (some (bU xs c s)) [.int m]=some (.ok (.int r) (bU xs (c+1) s)):=by
 have hL:bL=100000:=rfl
 have O4:(m:Int)≠0:=by lia
 have C7:∀(c':Nat) (ys:List Slot),Ok (ao prog Wn n) (.aZ 0 (.av (.int 1))) (.aD (bU xs c' s)::ys) (.int c') (.aD (bU xs c' s)::ys):=λ c' ys=>jz (xs:=[]) rfl ah rfl rfl
 have Mo:∀(c':Nat) (ys:List Slot),Ok (ao prog Wn n) (.aZ 0 (.av (.int 0))) (.aD (bU xs c' s)::ys) (.seq false (xs.map .int)) (.aD (bU xs c' s)::ys):=λ c' ys=>jz (xs:=[]) rfl ah rfl rfl
 have O5:∀(c':Nat) (ys:List Slot),Ok (ao prog Wn n) (.aZ 0 (.av (.int 2))) (.aD (bU xs c' s)::ys) (.int s) (.aD (bU xs c' s)::ys):=λ c' ys=>jz (xs:=[]) rfl ah rfl rfl
 have Mp:ex (ao prog Wn n) Wn (.mW 0 (.av (.int 1)) (.bin .add (.aZ 0 (.av (.int 1))) (.av (.int 1)))) [.aD (bU xs c s),VI m]=some (.next [.aD (bU xs (c+1) s),VI m]):=
  C6 (az (C7 c _) ah rfl) rfl ah rfl
 have xh:gQ (ao prog Wn n) (.aC .le (.aZ 0 (.av (.int 1))) (.len (.aZ 0 (.av (.int 0))))) [.aD (bU xs (c+1) s),VI m] (decide (c+1<=xs.length)) [.aD (bU xs (c+1) s),VI m]:=by
  refine ay (C7 _ _) (hV (Mo _ _) (ft (by rw[List.length_map];exact gy ‹_› (by decide)))) ?_
  show some (decide _)=_
  congr 1
  apply decide_eq_decide.mpr
  rw[List.length_map]
  lia
 by_cases h:c+1<=xs.length
 ·rw[UJ h] at xh
  obtain⟨x,hx⟩:∃x,xs[c]?=some x:=⟨xs[c],UT (by exact Nat.lt_of_succ_le ‹_›)⟩
  refine aV (λ r hr he=>?_)<|rC (a:=(x.natAbs:Int)) hm
  refine⟨r,hr,?_⟩
  rw[aE (fn:=ky) rfl]
  refine ie rfl rfl (by decide) ?_
  refine⟨[VI m],?_⟩
  show aU _ _ gu [.aD (bU xs c s),VI m]=_
  unfold gu
  refine aj Mp (aH (aX xh (aH (aY (az (Hb (iP (Mo _ _) (az (C7 _ _) ah rfl) (oM (by exact gy ‹_› (by decide)) ?_ hx))) (ae rfl) ((mod_int O4).trans ?_))))))
  ·show((c+1:Nat):Int)-1=_
   lia
  ·rw[he]
 ·rw[UM h] at xh
  refine aV (λ r hr he=>?_)<|rC (a:=3*((c+1:Nat):Int)+Int.fdiv ((c+1:Nat):Int) 4+(s:Nat)) hm
  refine⟨r,hr,?_⟩
  rw[aE (fn:=ky) rfl]
  refine ie rfl rfl (by decide) ?_
  refine⟨[VI m],?_⟩
  show aU _ _ gu [.aD (bU xs c s),VI m]=_
  unfold gu
  refine aj Mp (aj (aN xh aM) (aH (aY (az (az (az (az ah (C7 _ _) (mul_int (bI (k:=3) (by decide)) (bI (k:=64) ?_))) (az (C7 _ _) ah (oL (by decide) (by decide))) rfl) (O5 _ _) rfl) (ae rfl) ((mod_int O4).trans ?_)))))
  ·rw[Int.natAbs_natCast];have:(2:Nat)^60<2^64:=by decide
   lia
  ·rw[he]
theorem C8{s:Nat}{xs:Xs}{c:Callee}{u:V}{vs:List V}{C:Nat}{a:V}(h0:sl[s]?=some (.val u))(hc:fp u=some c)(h:w5 call xs sl vs aB)(h2:call c none vs=some (.exc C a)):ev call (.fc s xs) sl=some (.exc C a):=by
 show(match sl[s]? with
 |some (.val v)=>(fp v).bind λ c=>au (ip call xs sl) λ vs sl=>fv (call c none vs) sl
 |_=>none)=_
 rw[h0]
 show(fp u).bind _=_
 rw[hc]
 show(au (ip call xs sl) λ vs sl=>fv (call c none vs) sl)=_
 rw[h]
 show fv (call c none vs) aB=_
 rw[h2];rfl
theorem Hc{b:Ss}{hs:Hs}{C:Nat}{a:V}{r:Option F}(h:aU call Wn b sl=some (.exc C a))(h2:Ee call Wn hs C a (sl.map λ _=> .af)=r):ex call Wn (.r7 b hs) sl=r:=by
 show(match aU call Wn b sl with
  |some (.exc C arg)=>Ee call Wn hs C arg (sl.map λ _=> .af)
  |r=>r)=_
 rw[h];exact h2
theorem F5{b:Ss}{hs:Hs}(h:aU call Wn b sl=some (.next aB)):ex call Wn (.r7 b hs) sl=some (.next aB):=by
 show(match aU call Wn b sl with
  |some (.exc C arg)=>Ee call Wn hs C arg (sl.map λ _=> .af)
  |r=>r)=_
 rw[h]
theorem oS{k:Nat}{vs:List V}{C:Nat}(hC:C=37\/C=49\/C=82\/C=94)(h:ao prog Wn n (.lam k vs) none []=some (.exc C .none)):ao prog Wn (n+1) (.fn 428) none [.lam k vs]=some (.ok (.cls C) []):=by
 rw[aE (fn:=oG) rfl]
 refine aS rfl rfl (by decide) ?_
 apply Exists.intro
 show aU _ _ kE [.val (.lam k vs),.af,.af]=_
 unfold kE
 have hx:aU (ao prog Wn n) Wn (.cons (.exp (.fc 0 .nil)) .nil) [.val (.lam k vs),.af,.af]=some (.exc C .none):=cZ (C4 (C8 (u:= .lam k vs) (c:= .lam k vs) rfl rfl aq h))
 refine aH (aB:=[.af,.af,.af]) (Hc hx ?_)
 rcases hC with rfl|rfl|rfl|rfl<;> rfl
theorem xi{f k:Nat}{nm:Str}{bM:List Nat}{vs:List V}{v:V}{b:List V}(h:iV sl bM=some vs)(h2:call (.fn f) none [.lam k vs]=some (.ok v b))(hf:flat v=true):Ok call (.dI f nm k bM) sl v sl:=by
 show((iV sl bM).bind λ vs=>match call (.fn f) none [.lam k vs] with
  |some (.ok v _)=>if flat v then some (R.ok v sl) else none
  |_=>none)=_
 rw[h]
 show(match call (.fn f) none [.lam k vs] with
  |some (.ok v _)=>if flat v then some (R.ok v sl) else none
  |_=>none)=_
 rw[h2]
 exact if_pos hf
theorem xj{k:Nat}{l:pb}{vs:List V}{C:Nat}{a:V}(hl:prog.pe[k]?=some l)(hc:vs.length=l.names.length)(h:ev (ao prog Wn n) l.body (vs.map Slot.val)=some (.exc C a)):ao prog Wn (n+1) (.lam k vs) none []=some (.exc C a):=by
 show(match (none:Option (List V)),prog.pe[k]? with
   |none,some l=>iZ (ao prog Wn n) l vs []
   |_,_=>none)=_
 rw[hl]
 show iZ (ao prog Wn n) l vs []=_
 unfold iZ
 rw[if_pos hc,h]
theorem xk{i:Nat}{m body:X}{k:Int}{zs:List Int}{vs:List V}(h:Ok call m sl (.int k) aB)(hr:bN [.int k]=some zs)(hc:compLoop i (ev call body) (zs.map .int) aB=some (.ok vs sl2)):Ok call (.fG i m body) sl (.seq false vs) (sl2.set i .af):=by
 show(au (ev call m sl) λ a sl=>(bN [a]).bind λ ns=>au (compLoop i (ev call body) (ns.map .int) sl) λ vs sl=>some (R.ok (V.seq false vs) (sl.set i .af)))=_
 rw[h]
 show(bN [.int k]).bind _=_
 rw[hr]
 show au (compLoop i (ev call body) (zs.map .int) aB) _=_
 rw[hc];rfl
theorem rD{i:Nat}{f:List Slot->Option (R V)}{x v:V}{xs vs:List V}(h:f (sl.set i (.val x))=some (.ok v aB))(h2:compLoop i f xs aB=some (.ok vs sl2)):compLoop i f (x::xs) sl=some (.ok (v::vs) sl2):=by
 show(match f (sl.set i (.val x)) with
  |some (.ok v sl)=>(match compLoop i f xs sl with
   |some (.ok vs sl)=>some (R.ok (v::vs) sl)
   |_=>none)
  |_=>none)=_
 rw[h]
 show(match compLoop i f xs aB with
   |some (.ok vs sl)=>some (R.ok (v::vs) sl)
   |_=>none)=_
 rw[h2]
theorem pow_int{a k:Nat}(h:a<65536)(hk:k<=4096):dz .pow (.int a) (.int k)=some (.int ((a^k:Nat):Int)):=by
 show(if 0<=(k:Int)/\(k:Int)<=4096/\(a:Int).natAbs<65536 then some (V.int ((a:Int)^(k:Int).toNat)) else none)=_
 rw[if_pos ⟨by exact mv (Nat.zero_le _),by exact zz ‹_›,by rw[Int.natAbs_natCast];exact h⟩,Int.toNat_natCast,Int.natCast_pow]
theorem xl{v k:Nat}(hk:k<1000):dz .mul (.seq false [.int v]) (.int k)=some (.seq false (ns (List.replicate k v))):=by
 have hL:bL=100000:=rfl
 show(if isMul .mul=true/\false=false/\([V.int v]).length*(k:Int).toNat<bL/\(k:Int)<(bL:Nat)/\-(bL:Int)<(k:Int)/\(ez [V.int v]).isSome then some (V.seq false (List.replicate (k:Int).toNat [V.int v]).flatten) else none)=_
 rw[if_pos ⟨rfl,rfl,by rw[Int.toNat_natCast];show 1*k<bL;lia,by exact xP (cD ‹_› (by decide)),by lia,rfl⟩,Int.toNat_natCast]
 congr 2
 induction k with
 |zero=>rfl
 |succ k ih=>rw[List.replicate_succ,List.replicate_succ];show V.int v::(List.replicate k [V.int v]).flatten=V.int v::ns (List.replicate k v);rw[ih (by exact Nat.lt_of_succ_lt ‹_›)]
theorem tW{ag:Nat}(hb:1<=ag):∀(k acc:Nat),cJ ag acc (List.replicate k (ag-1))+1=(acc+1)*ag^k
 |0,acc=>by simp[cJ]
 |k+1,acc=>by
  rw[List.replicate_succ]
  show cJ ag (acc*ag+(ag-1)) (List.replicate k (ag-1))+1=_
  rw[tW hb k,Nat.pow_succ,Nat.mul_comm (ag^k),<-Nat.mul_assoc]
  congr 1
  rw[Nat.add_mul];lia
noncomputable def tX(xs:List Int)(c s w ag size place:Nat)(row:V)(wr z:Slot):List Slot:=[.aD (bU xs c s),VI w,wr,VI ag,VI size,.val row,VI place,z]
theorem rE{xs:List Int}{s w ag size place:Nat}{row:V}{wr:Slot}(hl:xs.length<=40)(hb:2<=ag):∀(k i c:Nat) (z:Slot),c+k<2^60->
  ∃(vs:List Int) (c':Nat) (z':Slot),compLoop 7 (ev (ao prog Wn (n+1)) (.ik (.aC .eq (.ai 7) (.ai 6)) (.idx (.lst (.cons (.ai 3) (.cons (.neg (.av (.int 1))) .nil))) (.b8 393 "_law_give" 0 (.cons (.av (.int 2)) .nil))) (.bin .sub (.ai 3) (.av (.int 1))))) (upTo i k) (tX xs c s w ag size place row wr z)
   =some (.ok (vs.map .int) (tX xs c' s w ag size place row wr z'))/\vs.length=k/\c'<=c+k/\(i<=place->place<i+k->∃v∈vs,v<0\/(ag:Int)<=v)
 |0,i,c,z,hc=>⟨[],c,z,rfl,rfl,by exact Nat.le_add_right _ _,λ h1 h2=>by lia⟩
 |k+1,i,c,z,hc=>by
  have hL:bL=100000:=rfl
  rw[dG]
  by_cases hi:i=place
  ·refine aV (λ r hr hg=>?_)<|dZ (Wn:=Wn) (n:=n) (xs:=xs) (c:=c) (s:=s) (m:=2) hl (by exact Nat.le_add_left _ _) (by exact Gx ‹_›)
   obtain⟨vs,c',z',h1,h2,h3,h4⟩:=rE (size:=size) (row:=row) (wr:=wr) hl hb k (i+1) (c+1) (VI i) (by exact J6 ‹_›)
   obtain⟨v,hv,O6⟩:∃v:Int,cV (.seq false [.int ag,.int (-1)]) (.int r)=some (.int v)/\(v<0\/(ag:Int)<=v):=by
    match r,hr with
    |0,_=>exact⟨(ag:Nat),rfl,Or.inr (by exact Ni (Nat.le_refl _))⟩
    |1,_=>exact⟨-1,rfl,Or.inl (by decide)⟩
   refine⟨v::vs,c',z',?_,by rw[List.length_cons,h2],by lia,λ _ _=>⟨v,UG ..,O6⟩⟩
   refine rD (aB:=tX xs (c+1) s w ag size place row wr (VI i)) ?_ h1
   show ev _ _ (tX xs c s w ag size place row wr (VI i))=_
   refine fA (ay (c:=true) (ae rfl) (ae rfl) ?_) (iP (bR (aa (ae rfl) (aa (hU ah) aq)) rfl) (c8 rfl (aa ah aq) rfl hg) hv)
   show some (_==_)=_
   rw[hi,beq_self_eq_true]
  ·obtain⟨vs,c',z',h1,h2,h3,h4⟩:=rE (size:=size) (row:=row) (wr:=wr) (place:=place) hl hb k (i+1) c (VI i) (by lia)
   refine⟨((ag:Int)-1)::vs,c',z',?_,by rw[List.length_cons,h2],by lia,λ h5 h6=>?_⟩
   ·refine rD (aB:=tX xs c s w ag size place row wr (VI i)) ?_ h1
    show ev _ _ (tX xs c s w ag size place row wr (VI i))=_
    refine fK (ay (c:=false) (ae rfl) (ae rfl) ?_) (az (ae rfl) ah rfl)
    show some (_==_)=_
    rw[beq_eq_false_iff_ne.mpr (by exact Nj ‹_›)]
   ·refine aV (λ v hv O6=>?_)<|h4 (by lia) (by lia)
    exact⟨v,UK _ hv,O6⟩
theorem oU{xs:List Int}{c s w:Nat}(hl:xs.length<=40)(gz:1<=w)(hw:w<=64)(hW:200<Wn)(hc:c<2^59):
  ∃c',c'<=c+10/\ao prog Wn (n+12) (.fn 459) (some (bU xs c s)) [.int w]=some (.ok (.bool true) (bU xs c' s)):=by
 have hL:bL=100000:=rfl
 have Kq:(2:Nat)^59+1000<2^60:=by decide
 refine aV (λ r1 Kr g1=>?_)<|dZ (Wn:=Wn) (n:=n+10) (xs:=xs) (c:=c) (s:=s) (m:=60) hl (by exact Nat.le_add_left _ _) (by exact cD ‹_› (by decide))
 refine aV (λ r2 Mq g2=>?_)<|dZ (Wn:=Wn) (n:=n+10) (xs:=xs) (c:=c+1) (s:=s) (m:=3) hl (by exact Nat.le_add_left _ _) (by lia)
 obtain⟨ag,GL⟩:∃ag,ag=2+r1:=⟨_,rfl⟩
 obtain⟨size,Qj⟩:∃size,size=1+r2:=⟨_,rfl⟩
 refine aV (λ place S9 g3=>?_)<|dZ (Wn:=Wn) (n:=n+10) (xs:=xs) (c:=c+1+1) (s:=s) (m:=size) hl (by lia) (by lia)
 refine Eb (λ vs c' z' k1 k2 k3 k4=>?_)<|rE (Wn:=Wn) (n:=n+10) (xs:=xs) (s:=s) (w:=w) (ag:=ag) (size:=size) (place:=place) (row:= .seq false (ns (List.replicate size (ag-1)))) (wr:= .af) hl (by lia) size 0 (c+1+1+1) .af (by lia)
 have O7:=tW (ag:=ag) (by lia) size 0
 rw[Nat.zero_add,Nat.one_mul] at O7
 have Uj:ag^size<2^60:=by
  have a1:ag^size<=61^size:=Nat.pow_le_pow_left (by lia) _
  have a2:(61:Nat)^size<=61^3:=UP (by decide) (by lia)
  have a3:(61:Nat)^3<2^60:=by decide
  lia
 refine fY (λ r f1 f2 f3=>?_)<|ke (Wn:=Wn) (n:=n+1) (ag:=ag) (w:=w) (aP:=1) (ds:=List.replicate size (ag-1)) gz hw (by lia) (by lia) (by rw[List.length_replicate];lia) (λ d hd=>by rw[List.eq_of_mem_replicate hd];lia) (by exact Nat.le_refl _) (by exact Py ‹_› ‹_›) hW
 have hn:=lJ (Wn:=Wn) (n:=n+10) (w:=w) (ls:=r) (by exact iT ‹_› (by decide)) (by exact cD ‹_› (by decide)) (by rw[f2];exact Nat.lt_trans (by exact Py ‹_› ‹_›) (Nat.pow_lt_pow_right (a:=2) (m:=60) (n:=4000) (by decide) (by decide)))
 have O8:=lL (Wn:=Wn) (n:=n+7) (ag:=ag) (w:=w) (aP:=1) (is:=vs) (by lia) (by lia) (k4 (by exact Nat.zero_le _) (by lia))
 have sO:=xj (Wn:=Wn) (n:=n+9) (k:=7) (l:=l_7) (vs:=[.seq false (vs.map .int),.int w,.int (ag:Nat)]) (C:=94) (a:= .none) rfl rfl (eF (aa (ae rfl) (aa (ae rfl) (aa (ae rfl) (aa ah (aa cY aq))))) O8)
 have hk:=oS (Wn:=Wn) (n:=n+10) (Or.inr (Or.inr (Or.inr rfl))) sO
 refine⟨c',by lia,?_⟩
 rw[aE (fn:=gv) rfl]
 refine ie rfl rfl (by decide) ?_
 apply Exists.intro
 show aU _ _ eM [.aD (bU xs c s),VI w,.af,.af,.af,.af,.af,.af]=_
 unfold eM
 refine aj (aB:=[.aD (bU xs (c+1+1) s),VI w,.af,VI ag,VI size,.af,.af,.af]) (dY (aa (az ah (c8 rfl (aa ah aq) rfl g1) rfl) (aa (az ah (c8 rfl (aa ah aq) rfl g2) rfl) aq)) ?_) ?_
 ·have e1:(2:Int)+(r1:Nat)=(ag:Nat):=by lia
  have e2:(1:Int)+(r2:Nat)=(size:Nat):=by lia
  rw[e1,e2];rfl
 have e3:(ag:Int)-1=((ag-1:Nat):Int):=by lia
 refine aj (aB:=tX xs (c+1+1+1) s w ag size place (.seq false (ns (List.replicate size (ag-1)))) .af .af) (dY (aa (az (bR (aa (az (ae rfl) ah (congrArg (λ q=>some (V.int q)) e3)) aq) rfl) (ae rfl) (xl (by lia))) (aa (c8 rfl (aa (ae rfl) aq) rfl g3) aq)) rfl) ?_
 refine aj (aN (ay (c:=false) (aF (aa (aF (aa (ae rfl) (aa (ae rfl) (aa (ae rfl) (aa ah (aa cY aq))))) f1) (aa (ae rfl) aq)) hn) (az (az (ae rfl) (ae rfl) (pow_int (by lia) (by lia))) ah rfl) ?_) aM) ?_
 ·rw[f2]
  show some (!(_==_))=_
  have e4:((cJ ag 0 (List.replicate size (ag-1)):Nat):Int)=((ag^size:Nat):Int)-1:=by lia
  rw[e4,beq_self_eq_true];rfl
 refine aj (bq (xk (vs:=vs.map .int) (sl2:=tX xs c' s w ag size place (.seq false (ns (List.replicate size (ag-1)))) .af z') (ae rfl) (range_one (k:=size) (by lia)) ?_) rfl) ?_
 ·have e:(bK 0 1 size).map V.int=upTo 0 size:=dt 0 size
  rw[e];exact k1
 exact aH (aY (kc (xi rfl hk rfl) cY rfl))
theorem cF{a b:Int}{c:Bool}(h:c=decide (a<b)):cL .lt (.int a) (.int b)=some c:=congrArg some h.symm
theorem oV{a b:Int}{c:Bool}(h:c=decide (a<=b)):cL .le (.int a) (.int b)=some c:=congrArg some h.symm
theorem oW{a b:Int}{c:Bool}(h:c=decide (a ≥ b)):cL .ge (.int a) (.int b)=some c:=congrArg some h.symm
theorem cmp_gt{a b:Int}{c:Bool}(h:c=decide (a > b)):cL .gt (.int a) (.int b)=some c:=congrArg some h.symm
theorem bw{a b:Int}{c:Bool}(h:c=decide (a=b)):cL .eq (.int a) (.int b)=some c:=by
 subst h;rfl
theorem mj{a b:Int}{c:Bool}(h:c=!decide (a=b)):cL .ne (.int a) (.int b)=some c:=by
 subst h;rfl
theorem tt{p:Prop}[Decidable p](h:p):true=decide p:=(UJ h).symm
theorem ff{p:Prop}[Decidable p](h:¬p):false=decide p:=(UM h).symm
noncomputable def dw(o ag:Nat):Nat:=if 48<=o/\o<=57 then o-48 else if 65<=o/\o<=90 then o-55 else if 97<=o/\o<=122 then (if ag > 36 then o-61 else o-87) else 99
theorem rF{l m r:X}{a b c:Int}(h1:Ok call l sl (.int a) sl)(h2:Ok call m sl (.int b) sl)(h3:Ok call r sl (.int c) sl):gQ call (.il l .le m .le r) sl (decide (a<=b/\b<=c)) sl:=by
 by_cases h:a<=b
 ·by_cases k:b<=c
  ·rw[UJ ⟨h,k⟩];exact nG h1 h2 (oV (tt h)) h3 (oV (tt k))
  ·rw[UM λ q=>k q.2];exact nG h1 h2 (oV (tt h)) h3 (oV (ff k))
 ·rw[UM λ q=>h q.1];exact xc h1 h2 (oV (ff h))
theorem O9{t:T}{a b:Ss}{c:Bool}{r1 r2:Option F}(h:gQ call t sl c aB)(h1:c=true->aU call Wn a aB=r1)(h2:c=false->aU call Wn b aB=r2):ex call Wn (.ite t a b) sl=if c then r1 else r2:=by
 cases c with
 |true=>exact aX h (h1 rfl)
 |false=>exact aN h (h2 rfl)
theorem Mr{o ag:Nat}:ao prog Wn (n+1) (.fn 255) none [.int o,.int ag]=some (.ok (.int (dw o ag:Nat)) []):=by
 rw[aE (fn:=j9) rfl]
 refine aS rfl rfl (by decide) ?_
 apply Exists.intro
 show aU _ _ gO [VI o,VI ag]=_
 unfold gO dw
 have t1:=rF (call:=ao prog Wn n) (sl:=[VI o,VI ag]) (ah (v:= .int 48)) (ae (i:=0) rfl) (ah (v:= .int 57))
 have t2:=rF (call:=ao prog Wn n) (sl:=[VI o,VI ag]) (ah (v:= .int 65)) (ae (i:=0) rfl) (ah (v:= .int 90))
 have t3:=rF (call:=ao prog Wn n) (sl:=[VI o,VI ag]) (ah (v:= .int 97)) (ae (i:=0) rfl) (ah (v:= .int 122))
 by_cases h1:48<=o/\o<=57
 ·rw[UJ ⟨by lia,by lia⟩] at t1
  rw[if_pos h1,Int.ofNat_sub h1.1]
  exact aH (aX t1 (aH (aY (az (ae rfl) ah rfl))))
 rw[UM (by lia)] at t1
 rw[if_neg h1]
 refine aj (aN t1 aM) ?_
 by_cases h2:65<=o/\o<=90
 ·rw[UJ ⟨by lia,by lia⟩] at t2
  rw[if_pos h2,Int.ofNat_sub (by lia)]
  exact aH (aX t2 (aH (aY (az (ae rfl) ah rfl))))
 rw[UM (by lia)] at t2
 rw[if_neg h2]
 refine aj (aN t2 aM) ?_
 by_cases h3:97<=o/\o<=122
 ·rw[UJ ⟨by lia,by lia⟩] at t3
  rw[if_pos h3]
  by_cases h4:ag > 36
  ·rw[if_pos h4,Int.ofNat_sub (by lia)]
   exact aH (aX t3 (aH (aY (fA (ay (ae rfl) cY (cmp_gt (tt (by exact rY ‹_›)))) (az (ae rfl) ah rfl)))))
  ·rw[if_neg h4,Int.ofNat_sub (by lia)]
   exact aH (aX t3 (aH (aY (fK (ay (ae rfl) cY (cmp_gt (ff (by lia)))) (az (ae rfl) ah rfl)))))
 rw[UM (by lia)] at t3
 rw[if_neg h3]
 exact aj (aN t3 aM) (aH (aY ah))
noncomputable def BL:List UInt8:=[32,9,10,11,12,13]
noncomputable def fF(x:UInt8):Bool:=BL.contains x
theorem oX(x:UInt8)(b:List UInt8):cL .zA (.int (x.toNat:Nat)) (.bytes b)=some (b.contains x):=by
 show(if 0<=((x.toNat:Nat):Int)/\((x.toNat:Nat):Int)<256 then some (b.contains ((x.toNat:Nat):Int).toNat.toUInt8) else none)=_
 have hx:x.toNat<256:=x.toNat_lt
 rw[if_pos ⟨Int.natCast_nonneg _,by exact Px ‹_›⟩,Int.toNat_natCast]
 have:x.toNat.toUInt8=x:=by simp
 rw[this]
theorem d7{b:List UInt8}{i:Nat}{x:UInt8}(h:b.length<bL)(hx:b[i]?=some x):cV (.bytes b) (.int i)=some (.int (x.toNat:Nat)):=by
 show(if 0<=(i:Int)/\dO b then (b[(i:Int).toNat]?).map λ x=>V.int x.toNat else none)=_
 rw[if_pos ⟨Int.natCast_nonneg _,UJ h⟩,Int.toNat_natCast,hx];rfl
theorem gx{b:List UInt8}(h:b.length<bL):eH (.bytes b)=some (.int (b.length:Nat)):=if_pos (UJ h)
theorem iN{α:Type}{a:List α}{x:α}{b:List α}:(a++x::b)[a.length]?=some x:=by simp
theorem mU{t:List UInt8}(ht:t.length<bL):∀(bl pre tl:List UInt8) (k:Nat),t=pre++(bl++tl)->(∀x∈bl,fF x=true)->(∀x r,tl=x::r->fF x=false)->bl.length<k->
  cS (iW call (.and (.cons (.aC .lt (.ai 1) (.bu 0)) (.cons (.aC .zA (.aZ 0 (.ai 1)) (.glob "TEXT_BLANKS" (.bytes [32,9,10,11,12,13]))) .nil)))) (aU call Wn (.cons (.asg 1 (.bin .add (.ai 1) (.av (.int 1)))) .nil)) k
   [.val (.bytes t),.val (.int (pre.length:Nat))]=some (.next [.val (.bytes t),.val (.int ((pre.length+bl.length:Nat):Int))])
 | [],pre,tl,k+1,e,h1,h2,hk=>by
  cases tl with
  |nil=>
   refine fo (eg (bY (ay (ae rfl) (aK rfl (gx ht)) (cF (ff ?_))) rfl))
   rw[e];simp
  |cons x r=>
   have hx:t[pre.length]?=some x:=by rw[e];exact iN
   have hb:=h2 x r rfl
   refine fo (eg (cy (ay (c:=true) (ae rfl) (aK rfl (gx ht)) (cF (tt ?_))) (bY (ay (c:=false) (bc rfl (ae rfl) (d7 ht hx)) cY ((oX _ _).trans (congrArg some hb))) rfl)))
   rw[e];simp;lia
 |y::bl,pre,tl,k+1,e,h1,h2,hk=>by
  have hx:t[pre.length]?=some y:=by rw[e];exact iN
  have e2:t=(pre++ [y])++(bl++tl):=by rw[e];simp
  have ih:=mU ht bl (pre++ [y]) tl k e2 (λ x hx=>h1 x (UK _ hx)) h2 (by simpa using hk)
  have hb:=h1 y (UG ..)
  refine tH (eg (cy (ay (c:=true) (ae rfl) (aK rfl (gx ht)) (cF (tt ?_))) (cy (ay (c:=true) (bc rfl (ae rfl) (d7 ht hx)) cY ((oX _ _).trans (congrArg some hb))) fj))) (aj (bq (v:= .int ((pre.length+1:Nat):Int)) (az (ae rfl) ah rfl) rfl) aM) ?_
  ·rw[e];simp;lia
  ·rw[List.length_append,List.length_singleton] at ih
   rw[List.length_cons]
   refine ih.trans ?_
   congr 6;lia
theorem C9{bl tl:List UInt8}(ht:(bl++tl).length<bL)(h1:∀x∈bl,fF x=true)(h2:∀x r,tl=x::r->fF x=false)(hW:bl.length<Wn):
  ao prog Wn (n+1) (.fn 262) none [.bytes (bl++tl),.int 0]=some (.ok (.int (bl.length:Nat)) []):=by
 rw[aE (fn:=lC) rfl]
 refine aS rfl rfl (by decide) ?_
 apply Exists.intro
 show aU _ _ iH [.val (.bytes (bl++tl)),.val (.int 0)]=_
 unfold iH
 refine aj (mU (call:=ao prog Wn n) (Wn:=Wn) ht bl [] tl Wn rfl h1 h2 hW) ?_
 rw[List.length_nil,Nat.zero_add]
 exact aH (aY (ae rfl))
inductive Bd(ag:Nat):List UInt8->List Nat->Prop
 |nil:Bd ag [] []
 |blank {x:UInt8} {b:List UInt8} {ds:List Nat} (h:fF x=true) (r:Bd ag b ds):Bd ag (x::b) ds
 |digit {x:UInt8} {b:List UInt8} {ds:List Nat} (h:fF x=false) (k:dw x.toNat ag<ag) (r:Bd ag b ds):Bd ag (x::b) (dw x.toNat ag::ds)
theorem Bd.append{ag:Nat}{b c:List UInt8}{ds es:List Nat}(h:Bd ag b ds)(k:Bd ag c es):Bd ag (b++c) (ds++es):=by
 induction h with
 |nil=>exact k
 |blank h _ ih=>exact .blank h ih
 |digit h q _ ih=>exact .digit h q ih
theorem Bd.lt{ag:Nat}{b:List UInt8}{ds:List Nat}(h:Bd ag b ds):∀d∈ds,d<ag:=by
 induction h with
 |nil=>exact λ d hd=>nomatch hd
 |blank _ _ ih=>exact ih
 |digit _ q _ ih=>
  intro d hd
  cases hd with
  |head=>exact q
  |tail _ hd=>exact ih d hd
theorem Bd.len{ag:Nat}{b:List UInt8}{ds:List Nat}(h:Bd ag b ds):ds.length<=b.length:=by
 induction h with
 |nil=>exact Nat.le_refl _
 |blank _ _ ih=>exact Nat.le_succ_of_le ih
 |digit _ _ _ ih=>exact Nat.succ_le_succ ih
noncomputable def Frs(z:Slot):Prop:=∀ys,z≠ .aD ys
theorem eh:Frs .af:=λ _ e=>nomatch e
theorem cu{v:V}:Frs (.val v):=λ _ e=>nomatch e
theorem cG{z:Slot}{a b:List Slot}{v:Slot}(h:Frs z):bg (a++z::b) a.length v=some (a++v::b):=by
 unfold bg
 rw[iN]
 cases z with
 |aD ys=>exact absurd rfl (h ys)
 |_=>simp
noncomputable def nk(t:List UInt8)(at_ ag:Nat)(f:List Nat)(z y:Slot):List Slot:=[.val (.bytes t),VI at_,VI ag,.own (ns f),z,y]
noncomputable def Ms:Ss:=(.cons (.ite (.aC .zA (.aZ 0 (.ai 4)) (.glob "TEXT_BLANKS" (.bytes [32,9,10,11,12,13]))) (.cons .cont
  .nil) .nil)
  (.cons (.asg 5 (.call 255 "digit_worth" (.cons (.aZ 0 (.ai 4)) (.cons (.ai 2) .nil))))
  (.cons (.ite (.aC .ge (.ai 5) (.ai 2)) (.cons (.eR 70 "BadText" true (.ai 4))
  .nil) .nil)
  (.cons (.app 3 (.ai 5))
  .nil))))
theorem JB:ex call Wn .cont sl=some (.cont sl):=rfl
theorem Dc{s:S}{ss:Ss}(h:ex call Wn s sl=some (.cont aB)):aU call Wn (.cons s ss) sl=some (.cont aB):=by
 show(match ex call Wn s sl with|some (.next sl)=>aU call Wn ss sl|r=>r)=_
 rw[h]
section
variable{t:List UInt8}{at_ ag p:Nat}{f:List Nat}{y:Slot}{x:UInt8}
theorem Dd(ht:t.length<bL)(hx:t[p]?=some x)(c:Bool)(hb:fF x=c):gQ call (.aC .zA (.aZ 0 (.ai 4)) (.glob "TEXT_BLANKS" (.bytes [32,9,10,11,12,13]))) (nk t at_ ag f (VI p) y) c (nk t at_ ag f (VI p) y):=
 ay (bc rfl (ae rfl) (d7 ht hx)) cY ((oX _ _).trans (congrArg some hb))
theorem De(ht:t.length<bL)(hx:t[p]?=some x)(hb:fF x=true):aU call Wn Ms (nk t at_ ag f (VI p) y)=some (.cont (nk t at_ ag f (VI p) y)):=
 Dc (aX (Dd ht hx true hb) (Dc JB))
theorem Df(hy:Frs y)(ht:t.length<bL)(hx:t[p]?=some x):ex (ao prog Wn (n+1)) Wn (.asg 5 (.call 255 "digit_worth" (.cons (.aZ 0 (.ai 4)) (.cons (.ai 2) .nil)))) (nk t at_ ag f (VI p) y)
  =some (.next (nk t at_ ag f (VI p) (.val (.int (dw x.toNat ag:Nat))))):=
 bq (aF (aa (bc rfl (ae rfl) (d7 ht hx)) (aa (ae rfl) aq)) Mr) (cG (a:=[.val (.bytes t),VI at_,VI ag,.own (ns f),VI p]) (b:=[]) hy)
theorem Dh(hy:Frs y)(ht:t.length<bL)(hx:t[p]?=some x)(hb:fF x=false)(hd:dw x.toNat ag<ag)(hf:f.length<bL):aU (ao prog Wn (n+1)) Wn Ms (nk t at_ ag f (VI p) y)
  =some (.next (nk t at_ ag (f++ [dw x.toNat ag]) (VI p) (.val (.int (dw x.toNat ag:Nat))))):=by
 refine aj (aN (Dd ht hx false hb) aM) (aj (Df hy ht hx) (aj (aN (ay (ae rfl) (ae rfl) (oW (ff (by exact Pw (Nat.not_le_of_lt ‹_›))))) aM) (aj (iR rfl (ae rfl) (eG rfl (by rw[bh];exact hf))) ?_)))
 rw[gH];rfl
theorem JC(hy:Frs y)(ht:t.length<bL)(hx:t[p]?=some x)(hb:fF x=false)(hd:ag<=dw x.toNat ag):aU (ao prog Wn (n+1)) Wn Ms (nk t at_ ag f (VI p) y)=some (.exc 70 (.int p)):=
 aj (aN (Dd ht hx false hb) aM) (aj (Df hy ht hx) (cZ (aX (ay (ae rfl) (ae rfl) (oW (tt (by exact Ni ‹_›)))) (cZ (rA (ae rfl))))))
end
theorem xm{t:List UInt8}{at_ ag:Nat}(ht:t.length<bL){body:List UInt8}{ds:List Nat}(h:Bd ag body ds):∀(pre rest:List UInt8) (f:List Nat) (z y:Slot),t=pre++(body++rest)->Frs z->Frs y->f.length+body.length<bL->
  ∃z' y',Frs z'/\Frs y'/\∀more,bW (aU (ao prog Wn (n+1)) Wn Ms) (λ x sl=>bg sl 4 (.val x)) (upTo pre.length body.length++more) (nk t at_ ag f z y)
   =bW (aU (ao prog Wn (n+1)) Wn Ms) (λ x sl=>bg sl 4 (.val x)) more (nk t at_ ag (f++ds) z' y'):=by
 induction h with
 |nil=>exact λ pre rest f z y _ hz hy _=>⟨z,y,hz,hy,λ more=>by rw[List.append_nil];rfl⟩
 | @blank x b ds hb r ih=>
  intro pre rest f z y e hz hy hf
  have hx:t[pre.length]?=some x:=by rw[e];exact iN
  refine ew (λ z' y' h1 h2 h3=>?_)<|ih (pre++ [x]) rest f (.val (.int (pre.length:Nat))) y (by rw[e];simp) cu hy (Nat.lt_of_succ_lt hf)
  refine⟨z',y',h1,h2,λ more=>?_⟩
  have h3:=h3 more
  rw[List.length_append,List.length_singleton] at h3
  rw[List.length_cons,dG,List.cons_append]
  exact Jw (cG (a:=[.val (.bytes t),VI at_,VI ag,.own (ns f)]) (b:=[y]) hz) (De ht hx hb) h3
 | @digit x b ds hb hd r ih=>
  intro pre rest f z y e hz hy hf
  have hx:t[pre.length]?=some x:=by rw[e];exact iN
  have hf:f.length+(b.length+1)<bL:=hf
  refine ew (λ z' y' h1 h2 h3=>?_)<|ih (pre++ [x]) rest (f++ [dw x.toNat ag]) (.val (.int (pre.length:Nat))) (.val (.int (dw x.toNat ag:Nat))) (by rw[e];simp) cu cu (by rw[List.length_append,List.length_singleton];exact J6 ‹_›)
  refine⟨z',y',h1,h2,λ more=>?_⟩
  have h3:=h3 more
  rw[List.length_append,List.length_singleton,List.append_assoc] at h3
  rw[List.length_cons,dG,List.cons_append]
  exact kK (cG (a:=[.val (.bytes t),VI at_,VI ag,.own (ns f)]) (b:=[y]) hz) (Dh hy ht hx hb hd (by exact Gx ‹_›)) h3
theorem Di(i a b:Nat):upTo i (a+b)=upTo i a++upTo (i+a) b:=by
 unfold upTo
 rw[<-List.map_append,List.range'_append_1]
section
variable{pre body:List UInt8}{ag:Nat}{ds:List Nat}
theorem pG(ht:(pre++body).length<90000)(h:Bd ag body ds):ao prog Wn (n+2) (.fn 276) none [.bytes (pre++body),.int (pre.length:Nat),.int ag]=some (.ok (.seq false (ns ds)) []):=by
 have hL:bL=100000:=rfl
 have cw:(pre++body).length=pre.length+body.length:=List.length_append
 refine ew (λ z' y' h1 h2 h3=>?_)<|xm (Wn:=Wn) (n:=n) (t:=pre++body) (at_:=pre.length) (by exact cD ‹_› (by decide)) h pre [] [] .af .af (by rw[List.append_nil]) eh eh (by show 0+body.length<bL;lia)
 have h3:=h3 []
 rw[List.append_nil] at h3
 rw[aE (fn:=gP) rfl]
 refine aS rfl rfl (by decide) ?_
 apply Exists.intro
 show aU _ _ eC [.val (.bytes (pre++body)),.val (.int (pre.length:Nat)),VI ag,.af,.af,.af]=_
 unfold eC
 refine aj (mf rfl (bR aq rfl) rfl) ?_
 refine aj (aB:=nk (pre++body) pre.length ag ds z' y') (jA (aa (ae rfl) (aa (aK rfl (gx (by exact cD ‹_› (by decide)))) aq)) (jT (i:=pre.length) (k:=(pre++body).length) (by lia) (by exact cD ‹_› (by decide))) ?_) (aH (aY (hH (xs:=ns ds) rfl)))
 ·rw[dt,cw,Nat.add_sub_cancel_left];exact h3
theorem v7{x:UInt8}{rest:List UInt8}(ht:(pre++(body++x::rest)).length<90000)(h:Bd ag body ds)(hb:fF x=false)(hd:ag<=dw x.toNat ag):
  ao prog Wn (n+2) (.fn 276) none [.bytes (pre++(body++x::rest)),.int (pre.length:Nat),.int ag]=some (.exc 70 (.int ((pre.length+body.length:Nat):Int))):=by
 have hL:bL=100000:=rfl
 have cw:(pre++(body++x::rest)).length=pre.length+(body.length+(rest.length+1)):=by rw[List.length_append,List.length_append];rfl
 refine ew (λ z' y' h1 h2 h3=>?_)<|xm (Wn:=Wn) (n:=n) (t:=pre++(body++x::rest)) (at_:=pre.length) (by exact cD ‹_› (by decide)) h pre (x::rest) [] .af .af rfl eh eh (by show 0+body.length<bL;lia)
 have h3:=h3 (upTo (pre.length+body.length) (rest.length+1))
 rw[aE (fn:=gP) rfl]
 refine dN rfl rfl (by decide) ?_
 show aU _ _ eC [.val (.bytes (pre++(body++x::rest))),.val (.int (pre.length:Nat)),VI ag,.af,.af,.af]=_
 unfold eC
 refine aj (mf rfl (bR aq rfl) rfl) ?_
 refine cZ (jA (aa (ae rfl) (aa (aK rfl (gx (by exact cD ‹_› (by decide)))) aq)) (jT (i:=pre.length) (k:=(pre++(body++x::rest)).length) (by lia) (by exact cD ‹_› (by decide))) ?_)
 rw[dt,cw,Nat.add_sub_cancel_left,Di]
 refine h3.trans ?_
 rw[dG]
 have hx:(pre++(body++x::rest))[pre.length+body.length]?=some x:=by rw[<-List.append_assoc,<-List.length_append];exact iN
 exact Ha (cG (a:=[.val (.bytes (pre++(body++x::rest))),.val (.int (pre.length:Nat)),VI ag,.own (ns ds)]) (b:=[y']) h1) (JC h2 (by exact cD ‹_› (by decide)) hx hb hd)
end
theorem He{x lo hi:X}{a v:V}{i j:Int}(h1:Ok call x sl a aB)(h2:Ok call lo aB (.int i) sl2)(h4:Ok call hi sl2 (.int j) lZ)(h3:fZ (some i) (some j) a=some v):Ok call (.zI x lo hi) sl v lZ:=by
 show(au (ev call x sl) λ a sl=>au (ev call lo sl) λ l sl=>au (ev call hi sl) λ h sl=>match l,h with| .int l,.int h=>(fZ (some l) (some h) a).map (R.ok · sl)|_,_=>none)=_
 rw[h1];show au (ev call lo aB) _=_;rw[h2];show au (ev call hi sl2) _=_;rw[h4];show(fZ (some i) (some j) a).map _=_;rw[h3];rfl
theorem tY{is:List Nat}{x:X}{vs:List V}(h:Ok call x sl (.seq true vs) aB)(h2:cz aB is (vs.map .val)=some sl2):ex call Wn (.Ed is x) sl=some (.next sl2):=by
 show(aW (ev call x sl) λ v sl=>match v with
   | .seq true vs=>(cz sl is (vs.map .val)).map .next
   |_=>none)=_
 rw[h];show(cz aB is (vs.map .val)).map F.next=_;rw[h2];rfl
theorem Dk(t:List UInt8)(i:Nat):pick t (some (i:Int)) (some ((i+1:Nat):Int))=t[i]?.toList:=by
 unfold pick
 have e1:kms_lo (some (i:Int)) t.length=min i t.length:=by
  show(if (i:Int)<0 then t.length-(-(i:Int)).toNat else min (i:Int).toNat t.length)=_
  rw[if_neg (Int.not_lt.mpr (Int.natCast_nonneg _)),Int.toNat_natCast]
 have e2:kms_hi (some ((i+1:Nat):Int)) t.length=min (i+1) t.length:=by
  show(if ((i+1:Nat):Int)<0 then t.length-(-((i+1:Nat):Int)).toNat else min ((i+1:Nat):Int).toNat t.length)=_
  rw[if_neg (Int.not_lt.mpr (Int.natCast_nonneg _)),Int.toNat_natCast]
 rw[e1,e2]
 by_cases h:i<t.length
 ·rw[Nat.min_eq_left (Nat.le_of_lt h),Nat.min_eq_left h,UT h,List.drop_eq_getElem_cons h,show i.succ-i=1 by lia];rfl
 ·have h:=Nat.not_lt.mp h
  rw[Nat.min_eq_right h,Nat.min_eq_right (Nat.le_succ_of_le h),Nat.sub_self,List.getElem?_eq_none h];rfl
theorem xn{t:List UInt8}(ht:t.length<bL)(i:Nat):fZ (some (i:Int)) (some ((i:Int)+1)) (.bytes t)=some (.bytes t[i]?.toList):=by
 show(if dO t then some (V.bytes (pick t (some (i:Int)) (some ((i:Int)+1)))) else none)=_
 rw[if_pos (show dO t=true from UJ ht)]
 exact congrArg (λ q=>some (V.bytes q)) (Dk t i)
noncomputable def two(b:List UInt8)(x y:UInt8):Bool:=([x]==b) || ([y]==b)
noncomputable def Dl(a b:List UInt8):Nat×Nat:=if a==[48] then (if two b 120 88 then (16,2) else if two b 98 66 then (2,2) else (8,1)) else (10,0)
theorem rG(b:List UInt8)(x y:UInt8):cL .zA (.bytes b) (.seq true [.bytes [x],.bytes [y]])=some (two b x y):=by
 show some ((([x]==b) || (([y]==b) || false)))=_
 rw[Bool.or_false];rfl
theorem Dm{t:List UInt8}{i:Nat}(ht:t.length<bL):ao prog Wn (n+1) (.fn 269) none [.bytes t,.int i]=
  some (.ok (.seq true [.int ((Dl t[i]?.toList t[i+1]?.toList).1:Nat),.int ((i+(Dl t[i]?.toList t[i+1]?.toList).2:Nat):Int)]) []):=by
 rw[aE (fn:=mM) rfl]
 refine aS rfl rfl (by decide) ?_
 apply Exists.intro
 show aU _ _ jl [.val (.bytes t),VI i]=_
 have s0:Ok (ao prog Wn n) (.zI (.ai 0) (.ai 1) (.bin .add (.ai 1) (.av (.int 1)))) [.val (.bytes t),VI i] (.bytes t[i]?.toList) [.val (.bytes t),VI i]:=
  He (ae rfl) (ae rfl) (az (ae rfl) ah rfl) (xn ht i)
 have s1:Ok (ao prog Wn n) (.zI (.ai 0) (.bin .add (.ai 1) (.av (.int 1))) (.bin .add (.ai 1) (.av (.int 2)))) [.val (.bytes t),VI i] (.bytes t[i+1]?.toList) [.val (.bytes t),VI i]:=
  He (ae rfl) (az (ae rfl) ah rfl) (az (ae rfl) ah rfl) (xn ht (i+1))
 unfold jl
 generalize t[i]?.toList=a at*
 generalize t[i+1]?.toList=b at*
 unfold Dl
 cases ha:a==[48] with
 |false=>exact aH (aX (ay s0 ah (congrArg (λ q=>some (!q)) ha)) (aH (aY (dC (aa ah (aa (ae rfl) aq)) rfl))))
 |true=>
  refine aj (aN (ay s0 ah (congrArg (λ q=>some (!q)) ha)) aM) ?_
  cases h1:two b 120 88 with
  |true=>exact aH (aX (ay s1 (dC (aa ah (aa ah aq)) rfl) ((rG b 120 88).trans (congrArg some h1))) (aH (aY (dC (aa ah (aa (az (ae rfl) ah rfl) aq)) rfl))))
  |false=>
   refine aj (aN (ay s1 (dC (aa ah (aa ah aq)) rfl) ((rG b 120 88).trans (congrArg some h1))) aM) ?_
   cases h2:two b 98 66 with
   |true=>exact aH (aX (ay s1 (dC (aa ah (aa ah aq)) rfl) ((rG b 98 66).trans (congrArg some h2))) (aH (aY (dC (aa ah (aa (az (ae rfl) ah rfl) aq)) rfl))))
   |false=>
    refine aj (aN (ay s1 (dC (aa ah (aa ah aq)) rfl) ((rG b 98 66).trans (congrArg some h2))) aM) ?_
    exact aH (aY (dC (aa ah (aa (az (ae rfl) ah rfl) aq)) rfl))
noncomputable def sgn(neg:Bool):List UInt8:=if neg then [45] else []
structure zG(T bl:List UInt8)(neg:Bool)(rest:List UInt8):Prop where
 e:T=bl++(sgn neg++rest)
 b:∀x∈bl,fF x=true
 r:neg=false->∀x q,rest=x::q->fF x=false/\x≠45
 l:T.length<90000
noncomputable def nq(T:List UInt8)(ax w:Nat)(at_:Nat)(neg:Bool):List Slot:=[.val (.bytes T),VI ax,VI w,.val (.int 2),.val (.obj 414),VI at_,.val (.bool neg),.af]
noncomputable def F6:Ss:=bz (bz (bz (bz fy)))
theorem tZ{x:X}{xs:Xs}(h:Ok call x sl (.bool false) aB):gR call (.cons x xs) sl=some (.ok (.bool false) aB):=by
 cases xs with
 |nil=>exact h
 |cons y ys=>
  show au (ev call x sl) _=_
  rw[h];rfl
theorem Dn{x y:X}{v:V}(h:Ok call x sl (.bool true) aB)(h2:Ok call y aB v sl2):gR call (.cons x (.cons y .nil)) sl=some (.ok v sl2):=by
 show au (ev call x sl) _=_
 rw[h];exact h2
theorem F7(x y:UInt8):cL .eq (.int (x.toNat:Nat)) (.int (y.toNat:Nat))=some (decide (x=y)):=by
 refine bw (decide_eq_decide.mpr ?_)
 constructor
 ·intro e;rw[e]
 ·intro e;exact UInt8.toNat_inj.mp (Int.ofNat.inj e)
theorem JD{T bl rest:List UInt8}{neg:Bool}(H:zG T bl neg rest):∀x r,sgn neg++rest=x::r->fF x=false:=by
 intro x r e
 cases neg with
 |true=>
  have e:45::rest=x::r:=e
  rw[<-(List.cons.inj e).1];decide
 |false=>exact(H.r rfl x r e).1
theorem lM{T bl rest:List UInt8}{neg:Bool}(H:zG T bl neg rest):T.length=bl.length+(sgn neg).length+rest.length:=by
 rw[H.e,List.length_append,List.length_append,Nat.add_assoc]
theorem JE{T bl rest:List UInt8}{neg:Bool}{a b c d e g:Slot}(H:zG T bl neg rest):gR call (.cons (.cmp .lt (.ai 5) (.bu 0)) (.cons (.cmp .eq (.aZ 0 (.ai 5)) (.glob "MINUS_SIGN" (.int 45))) .nil)) [.val (.bytes T),a,b,c,d,.val (.int (bl.length:Nat)),e,g]
  =some (.ok (.bool neg) [.val (.bytes T),a,b,c,d,.val (.int (bl.length:Nat)),e,g]):=by
 have hL:bL=100000:=rfl
 have hl:=lM H
 have ht:=H.l
 have get:∀x r,sgn neg++rest=x::r->decide (x=45)=neg->gR call (.cons (.cmp .lt (.ai 5) (.bu 0)) (.cons (.cmp .eq (.aZ 0 (.ai 5)) (.glob "MINUS_SIGN" (.int 45))) .nil)) [.val (.bytes T),a,b,c,d,.val (.int (bl.length:Nat)),e,g]
   =some (.ok (.bool neg) [.val (.bytes T),a,b,c,d,.val (.int (bl.length:Nat)),e,g]):=λ x r er en=>by
  have hx:T[bl.length]?=some x:=by rw[H.e,er];exact iN
  have gA:bl.length<T.length:=(List.getElem?_eq_some_iff.mp hx).1
  exact Dn (kc (c:=true) (ae rfl) (aK rfl (gx (by exact cD ‹_› (by decide)))) (cF (tt (by exact xP ‹_›)))) (kc (bc rfl (ae rfl) (d7 (by exact cD ‹_› (by decide)) hx)) cY ((F7 x 45).trans (congrArg some en)))
 cases neg with
 |true=>exact get 45 rest rfl rfl
 |false=>cases rest with
  |nil=>exact tZ (kc (c:=false) (ae rfl) (aK rfl (gx (by exact cD ‹_› (by decide)))) (cF (ff (by rw[hl];show ¬ (bl.length:Int)<((bl.length+0+0:Nat):Int);lia))))
  |cons x r=>exact get x r rfl (UM (H.r rfl x r rfl).2)
theorem rH{T bl rest:List UInt8}{neg:Bool}{ax w:Nat}(H:zG T bl neg rest)(hW:bl.length<Wn)(ht:ax=0\/(2<=ax/\ax<=62)){r:Option F}(h:aU (ao prog Wn (n+1)) Wn F6 (nq T ax w (bl.length+(sgn neg).length) neg)=r):
  aU (ao prog Wn (n+1)) Wn fy [.val (.bytes T),VI ax,VI w,.val (.int 2),.val (.obj 414),.af,.af,.af]=r:=by
 have hL:bL=100000:=rfl
 unfold fy
 refine aj (aB:=[.val (.bytes T),VI ax,VI w,.val (.int 2),.val (.obj 414),.af,.af,.af]) (aN ?_ aM) ?_
 ·by_cases h0:ax=0
  ·subst h0
   exact eg (bY (ay (c:=false) (ae rfl) ah rfl) rfl)
  ·have t1:=rF (call:=ao prog Wn (n+1)) (sl:=[.val (.bytes T),VI ax,VI w,.val (.int 2),.val (.obj 414),.af,.af,.af]) (ah (v:= .int 2)) (ae (i:=1) rfl) (cY (nm:="MOST_BASE") (v:= .int 62))
   rw[UJ ⟨by lia,by lia⟩] at t1
   exact eg (cy (ay (c:=true) (ae rfl) ah (mj (by rw[UM (by exact xQ ‹_›)];rfl))) (bY (tG t1) rfl))
 refine aj (bq (v:= .int (bl.length:Nat)) (aF (b:=[]) (aa (ae rfl) (aa ah aq)) ?_) rfl) ?_
 ·rw[H.e]
  exact C9 (by rw[<-H.e];have:=H.l;exact cD ‹_› (by decide)) H.b (JD H) hW
 refine aj (bq (v:= .bool neg) (JE H) rfl) ?_
 cases neg with
 |true=>exact aj (aX (iQ (ae rfl)) (aj (bq (v:= .int ((bl.length+1:Nat):Int)) (az (ae rfl) ah rfl) rfl) aM)) h
 |false=>exact aj (aN (iQ (ae rfl)) aM) h
noncomputable def lim(ax:Nat):Nat:=if ax=0 then 10 else ax
noncomputable def JF(T:List UInt8)(ag w at_:Nat)(neg:Bool):List Slot:=[.val (.bytes T),VI ag,VI w,.val (.int 2),.val (.obj 414),VI at_,.val (.bool neg),.af]
theorem Ks{t:T}{a b:Ss}{C:Nat}{v:V}(h:gQ call t sl true aB)(h2:aU call Wn a aB=some (.exc C v)):ex call Wn (.ite t a b) sl=some (.exc C v):=aX h h2
section
variable{T:List UInt8}{ax w a1:Nat}{neg:Bool}{r:Option F}
theorem Dp(hT:T.length<90000)(h:T.length<=a1):aU (ao prog Wn (n+1)) Wn F6 (nq T ax w a1 neg)=some (.exc 70 (.int a1)):=by
 have hL:bL=100000:=rfl
 exact cZ (aX (fQ (bY (ay (c:=true) (ae rfl) (aK rfl (gx (by exact cD ‹_› (by decide)))) (oW (tt (by exact Ni ‹_›)))) rfl)) (cZ (rA (ae rfl))))
theorem xo{x:UInt8}(hT:T.length<90000)(hx:T[a1]?=some x)(c:Bool)(hc:c=decide (lim ax<=dw x.toNat ax)):
  gQ (ao prog Wn (n+1)) (.or (.cons (.aC .ge (.ai 5) (.bu 0)) (.cons (.aC .ge (.call 255 "digit_worth" (.cons (.aZ 0 (.ai 5)) (.cons (.ai 1) .nil))) (.ik (.aC .eq (.ai 1) (.av (.int 0))) (.av (.int 10)) (.ai 1))) .nil))) (nq T ax w a1 neg) c (nq T ax w a1 neg):=by
 have hL:bL=100000:=rfl
 have gA:a1<T.length:=(List.getElem?_eq_some_iff.mp hx).1
 have l1:Ok (ao prog Wn (n+1)) (.ik (.aC .eq (.ai 1) (.av (.int 0))) (.av (.int 10)) (.ai 1)) (nq T ax w a1 neg) (.int (lim ax:Nat)) (nq T ax w a1 neg):=by
  unfold lim
  by_cases h:ax=0
  ·rw[if_pos h];exact fA (ay (c:=true) (ae rfl) ah (bw (tt (by lia)))) ah
  ·rw[if_neg h];exact fK (ay (c:=false) (ae rfl) ah (bw (ff (by exact xQ ‹_›)))) (ae rfl)
 have t2:gQ (ao prog Wn (n+1)) (.aC .ge (.call 255 "digit_worth" (.cons (.aZ 0 (.ai 5)) (.cons (.ai 1) .nil))) (.ik (.aC .eq (.ai 1) (.av (.int 0))) (.av (.int 10)) (.ai 1))) (nq T ax w a1 neg) c (nq T ax w a1 neg):=
  ay (aF (aa (bc rfl (ae rfl) (d7 (by exact cD ‹_› (by decide)) hx)) (aa (ae rfl) aq)) Mr) l1 (oW (hc.trans (decide_eq_decide.mpr (by lia))))
 refine fQ (cy (ay (c:=false) (ae rfl) (aK rfl (gx (by exact cD ‹_› (by decide)))) (oW (ff (by exact Pw (Nat.not_le_of_lt ‹_›))))) ?_)
 cases c with
 |true=>exact bY t2 rfl
 |false=>exact cy t2 fj
theorem JG{x:UInt8}(hT:T.length<90000)(hx:T[a1]?=some x)(h:lim ax<=dw x.toNat ax):aU (ao prog Wn (n+1)) Wn F6 (nq T ax w a1 neg)=some (.exc 70 (.int a1)):=
 cZ (aX (xo hT hx true (tt h)) (cZ (rA (ae rfl))))
theorem Hf{x:UInt8}(hT:T.length<90000)(hx:T[a1]?=some x)(h:dw x.toNat ax<lim ax)(k:aU (ao prog Wn (n+1)) Wn (bz F6) (nq T ax w a1 neg)=r):aU (ao prog Wn (n+1)) Wn F6 (nq T ax w a1 neg)=r:=
 aj (aN (xo hT hx false (ff (Nat.not_le.mpr h))) aM) k
noncomputable def PB(T:List UInt8)(ax a1 ag at2:Nat):Prop:=(ax≠0/\ag=ax/\at2=a1)\/(ax=0/\ag=(Dl T[a1]?.toList T[a1+1]?.toList).1/\at2=a1+(Dl T[a1]?.toList T[a1+1]?.toList).2)
theorem xp{ag at2:Nat}(hT:T.length<90000)(h:PB T ax a1 ag at2)(k:aU (ao prog Wn (n+1)) Wn (bz (bz F6)) (JF T ag w at2 neg)=r):aU (ao prog Wn (n+1)) Wn (bz F6) (nq T ax w a1 neg)=r:=by
 have hL:bL=100000:=rfl
 rcases h with ⟨h,e1,e2⟩|⟨h,e1,e2⟩
 ·subst e1 e2
  exact aj (aN (ay (c:=false) (ae rfl) ah (bw (ff (by exact xQ ‹_›)))) aM) k
 ·subst h
  refine aj (aX (ay (c:=true) (ae rfl) ah (bw rfl)) (aj (tY (aF (aa (ae rfl) (aa (ae rfl) aq)) (Dm (by exact cD ‹_› (by decide)))) rfl) aM)) ?_
  rw[<-e1,<-e2];exact k
end
section
variable{pre body:List UInt8}{ag w:Nat}{neg:Bool}{ds:List Nat}
theorem JH(gz:1<=w)(hw:w<=64)(hb:2<=ag)(tV:ag<=62)(hT:(pre++body).length<90000)(h:Bd ag body ds)(hl:ds.length<=4)(hv:cJ ag 0 ds<2^60)(hW:200<Wn):
  ∃r sl,aU (ao prog Wn (n+10)) Wn (bz (bz F6)) (JF (pre++body) ag w pre.length neg)=some (.ret (.seq true [.bool (neg&&decide (0<r.length)),.seq false (ns r)]) sl)/\ak w r=cJ ag 0 ds/\r.length<1000:=by
 have hL:bL=100000:=rfl
 refine fY (λ r f1 f2 f3=>?_)<|ke (Wn:=Wn) (n:=n) (aP:=2) gz hw hb tV hl h.lt (by decide) hv hW
 have f4:=pG (Wn:=Wn) (n:=n+8) (pre:=pre) hT h
 have nz:Ok (ao prog Wn (n+10)) (.cmp .gt (.bu 7) (.av (.int 0))) [.val (.bytes (pre++body)),VI ag,VI w,.val (.int 2),.val (.obj 414),.val (.int (pre.length:Nat)),.val (.bool neg),VS r] (.bool (decide (0<r.length)))
   [.val (.bytes (pre++body)),VI ag,VI w,.val (.int 2),.val (.obj 414),.val (.int (pre.length:Nat)),.val (.bool neg),VS r]:=
  kc (aK rfl (du (by exact cD ‹_› (by decide)))) ah (cmp_gt (decide_eq_decide.mpr (by lia)))
 refine⟨r,[.val (.bytes (pre++body)),VI ag,VI w,.val (.int 2),.val (.obj 414),.val (.int (pre.length:Nat)),.val (.bool neg),VS r],aj (aB:=[.val (.bytes (pre++body)),VI ag,VI w,.val (.int 2),.val (.obj 414),.val (.int (pre.length:Nat)),.val (.bool neg),VS r]) (bq (aF (aa (aF (aa (ae rfl) (aa (ae rfl) (aa (ae rfl) aq))) f4) (aa (ae rfl) (aa (ae rfl) (aa (ae rfl) (aa (ae rfl) aq))))) f1) rfl) (aH (aY (dC (aa ?_ (aa (ae rfl) aq)) rfl))),f2,f3⟩
 cases neg with
 |true=>exact Dn (ae rfl) nz
 |false=>exact tZ (ae rfl)
theorem yZ{x:UInt8}{rest:List UInt8}(hT:(pre++(body++x::rest)).length<90000)(h:Bd ag body ds)(hb:fF x=false)(hd:ag<=dw x.toNat ag):
  aU (ao prog Wn (n+10)) Wn (bz (bz F6)) (JF (pre++(body++x::rest)) ag w pre.length neg)=some (.exc 70 (.int ((pre.length+body.length:Nat):Int))):=by
 have f4:=v7 (Wn:=Wn) (n:=n+8) (pre:=pre) hT h hb hd
 refine cZ ?_
 show aW (ev (ao prog Wn (n+10)) (.call 236 "from_digits" (.cons (.call 276 "text_digits" (.cons (.ai 0) (.cons (.ai 5) (.cons (.ai 1) .nil)))) (.cons (.ai 1) (.cons (.ai 2) (.cons (.ai 3) (.cons (.ai 4) .nil)))))) (JF (pre++(body++x::rest)) ag w pre.length neg)) _=_
 have e1:ev (ao prog Wn (n+10)) (.call 276 "text_digits" (.cons (.ai 0) (.cons (.ai 5) (.cons (.ai 1) .nil)))) (JF (pre++(body++x::rest)) ag w pre.length neg)=some (.exc 70 (.int ((pre.length+body.length:Nat):Int))):=
  eF (aa (ae rfl) (aa (ae rfl) (aa (ae rfl) aq))) f4
 have e2:ev (ao prog Wn (n+10)) (.call 236 "from_digits" (.cons (.call 276 "text_digits" (.cons (.ai 0) (.cons (.ai 5) (.cons (.ai 1) .nil)))) (.cons (.ai 1) (.cons (.ai 2) (.cons (.ai 3) (.cons (.ai 4) .nil)))))) (JF (pre++(body++x::rest)) ag w pre.length neg)=some (.exc 70 (.int ((pre.length+body.length:Nat):Int))):=by
  show(au (au (ev (ao prog Wn (n+10)) (.call 276 "text_digits" (.cons (.ai 0) (.cons (.ai 5) (.cons (.ai 1) .nil)))) (JF (pre++(body++x::rest)) ag w pre.length neg)) λ v sl=>au (ip (ao prog Wn (n+10)) (.cons (.ai 1) (.cons (.ai 2) (.cons (.ai 3) (.cons (.ai 4) .nil)))) sl) λ vs sl=>some (R.ok (v::vs) sl)) λ vs sl=>fv (ao prog Wn (n+10) (.fn 236) none vs) sl)=_
  rw[e1];rfl
 rw[e2];rfl
end
theorem Dq{s C:Nat}{i:Int}(h:sl[s]?=some (.val (.exc C (.int i)))):Ok call (.iU s C) sl (.int i) sl:=by
 show(match sl[s]? with
  |some (.val (.exc C' (.int i)))=>if C'==C then some (R.ok (V.int i) sl) else none
  |_=>none)=_
 rw[h];show(if C==C then _ else _)=_;rw[if_pos (beq_self_eq_true C)]
noncomputable def ig(p:Nat):V:= .seq true [.str (Str.ofString "bad"),.int p]
section
variable{T:List UInt8}{ax w p:Nat}
noncomputable abbrev pH(T:List UInt8)(ax w:Nat)(x y z:Slot):List Slot:=[.val (.bytes T),VI ax,VI w,x,y,z]
theorem xq{x y z:Slot}:w5 call (.cons (.ai 0) (.cons (.ai 1) (.cons (.ai 2) (.cons (.av (.int 2)) (.cons (.glob "_law_times" (.obj 414)) .nil))))) (pH T ax w x y z) [.bytes T,.int ax,.int w,.int 2,.obj 414] (pH T ax w x y z):=
 aa (ae rfl) (aa (ae rfl) (aa (ae rfl) (aa ah (aa cY aq))))
theorem ml(h:ao prog Wn n (.fn 283) none [.bytes T,.int ax,.int w,.int 2,.obj 414]=some (.exc 70 (.int p))):ao prog Wn (n+1) (.fn 435) none [.bytes T,.int ax,.int w]=some (.ok (ig p) []):=by
 rw[aE (fn:=ju) rfl]
 refine aS rfl rfl (by decide) ⟨(pH T ax w .af .af .af).map λ _=> .af,?_⟩
 show aU _ _ fz (pH T ax w .af .af .af)=_
 unfold fz
 have e1:aU (ao prog Wn n) Wn (.cons (.Ed [4,5] (.call 283 "from_text" (.cons (.ai 0) (.cons (.ai 1) (.cons (.ai 2) (.cons (.av (.int 2)) (.cons (.glob "_law_times" (.obj 414)) .nil))))))) .nil) (pH T ax w .af .af .af)=some (.exc 70 (.int p)):=by
  refine cZ ?_
  show aW (ev _ _ _) _=_
  rw[eF xq h];rfl
 refine aH (Hc e1 ?_)
 show(match aU (ao prog Wn n) Wn (.cons (.ret (.tup (.cons (.av (.str (Str.ofString "bad"))) (.cons (.iU 3 70) .nil)))) .nil) [.af,.af,.af,.val (.exc 70 (.int p)),.af,.af] with
  |some (.ret v sl)=>some (F.ret v (sl.map λ _=>Slot.af))
  |_=>none)=_
 have e2:aU (ao prog Wn n) Wn (.cons (.ret (.tup (.cons (.av (.str (Str.ofString "bad"))) (.cons (.iU 3 70) .nil)))) .nil) [.af,.af,.af,.val (.exc 70 (.int p)),.af,.af]=some (.ret (ig p) [.af,.af,.af,.val (.exc 70 (.int p)),.af,.af]):=
  aH (aY (dC (aa ah (aa (Dq rfl) aq)) rfl))
 rw[e2];rfl
theorem y6{r:List Nat}{neg:Bool}(h:ao prog Wn (n+1) (.fn 283) none [.bytes T,.int ax,.int w,.int 2,.obj 414]=some (.ok (.seq true [.bool neg,.seq false (ns r)]) []))(hw:w<=64)(hr:r.length<1000)(hv:ak w r<2^60):
  ao prog Wn (n+2) (.fn 435) none [.bytes T,.int ax,.int w]=some (.ok (.int (if neg then -(ak w r:Nat) else (ak w r:Nat))) []):=by
 have hL:bL=100000:=rfl
 have hn:=lJ (Wn:=Wn) (n:=n) (w:=w) (ls:=r) (by exact iT ‹_› (by decide)) (by exact cD ‹_› (by decide)) (Nat.lt_trans hv (Nat.pow_lt_pow_right (a:=2) (m:=60) (n:=4000) (by decide) (by decide)))
 rw[aE (fn:=ju) rfl]
 refine aS rfl rfl (by decide) ⟨pH T ax w .af (.val (.bool neg)) (VS r),?_⟩
 show aU _ _ fz (pH T ax w .af .af .af)=_
 unfold fz
 refine aj (aB:=pH T ax w .af (.val (.bool neg)) (VS r)) (F5 (aj (tY (aF xq h) rfl) aM)) ?_
 have cn:Ok (ao prog Wn (n+1)) (.call 407 "_law_number" (.cons (.ai 5) (.cons (.ai 2) .nil))) (pH T ax w .af (.val (.bool neg)) (VS r)) (.int (ak w r:Nat)) (pH T ax w .af (.val (.bool neg)) (VS r)):=
  aF (aa (ae rfl) (aa (ae rfl) aq)) hn
 cases neg with
 |true=>exact aH (aY (fA (iQ (ae rfl)) (hU cn)))
 |false=>exact aH (aY (fK (iQ (ae rfl)) cn))
end
section
variable{T bl rest:List UInt8}{neg:Bool}{ax w:Nat}
theorem v8{C:Nat}{a:V}(h:aU (ao prog Wn n) Wn fy [.val (.bytes T),VI ax,VI w,.val (.int 2),.val (.obj 414),.af,.af,.af]=some (.exc C a)):ao prog Wn (n+1) (.fn 283) none [.bytes T,.int ax,.int w,.int 2,.obj 414]=some (.exc C a):=by
 rw[aE (fn:=jm) rfl]
 exact dN rfl rfl (by decide) h
theorem mV(H:zG T bl neg [])(hW:T.length<Wn)(ht:ax=0\/(2<=ax/\ax<=62)):ao prog Wn (n+3) (.fn 435) none [.bytes T,.int ax,.int w]=some (.ok (ig T.length) []):=by
 have hl:=lM H
 have hl:T.length=bl.length+(sgn neg).length:=hl
 refine ml (v8 (rH H (by exact Pz ‹_› ‹_›) ht ?_))
 rw[<-hl];exact Dp H.l (Nat.le_refl _)
theorem y7{x:UInt8}{q:List UInt8}(H:zG T bl neg (x::q))(hW:T.length<Wn)(ht:ax=0\/(2<=ax/\ax<=62))(h:lim ax<=dw x.toNat ax):ao prog Wn (n+3) (.fn 435) none [.bytes T,.int ax,.int w]=some (.ok (ig (bl.length+(sgn neg).length)) []):=by
 have hl:=lM H
 refine ml (v8 (rH H (by lia) ht (JG H.l ?_ h)))
 rw[H.e,<-List.append_assoc,<-List.length_append];exact iN
theorem xr{x:UInt8}{q:List UInt8}(H:zG T bl neg (x::q)):T[bl.length+(sgn neg).length]?=some x:=by
 rw[H.e,<-List.append_assoc,<-List.length_append];exact iN
theorem lN{x y:UInt8}{q pre body more:List UInt8}{ag:Nat}{ds:List Nat}(H:zG T bl neg (x::q))(hW:T.length<Wn)(ht:ax=0\/(2<=ax/\ax<=62))(h:dw x.toNat ax<lim ax)
  (hp:PB T ax (bl.length+(sgn neg).length) ag pre.length)(e:T=pre++(body++y::more))(hb:Bd ag body ds)(hy:fF y=false)(hd:ag<=dw y.toNat ag):
  ao prog Wn (n+12) (.fn 435) none [.bytes T,.int ax,.int w]=some (.ok (ig (pre.length+body.length)) []):=by
 have hl:=lM H
 refine ml (v8 (rH H (by lia) ht (Hf H.l (xr H) h (xp H.l hp ?_))))
 have hT:=H.l
 subst e
 exact yZ hT hb hy hd
theorem y8{x:UInt8}{q pre body:List UInt8}{ag:Nat}{ds:List Nat}(gz:1<=w)(hw:w<=64)(H:zG T bl neg (x::q))(hW:T.length+200<Wn)(ht:ax=0\/(2<=ax/\ax<=62))(h:dw x.toNat ax<lim ax)
  (hp:PB T ax (bl.length+(sgn neg).length) ag pre.length)(e:T=pre++body)(tV:2<=ag)(Ta:ag<=62)(hb:Bd ag body ds)(hd:ds.length<=4)(hv:cJ ag 0 ds<2^60):
  ao prog Wn (n+12) (.fn 435) none [.bytes T,.int ax,.int w]=some (.ok (.int (if neg then -(cJ ag 0 ds:Nat) else (cJ ag 0 ds:Nat))) []):=by
 have hl:=lM H
 have hT:=H.l
 refine ew (λ r sl f1 f2 f3=>?_)<|JH (Wn:=Wn) (n:=n) (pre:=pre) (neg:=neg) gz hw tV Ta (by rw[<-e];exact hT) hb hd hv (by lia)
 have f:ao prog Wn (n+11) (.fn 283) none [.bytes T,.int ax,.int w,.int 2,.obj 414]=some (.ok (.seq true [.bool (neg&&decide (0<r.length)),.seq false (ns r)]) []):=by
  rw[aE (fn:=jm) rfl]
  refine aS rfl rfl (by decide) ⟨sl,rH (n:=n+9) H (by lia) ht (Hf H.l (xr H) h (xp H.l hp ?_))⟩
  rw[e];exact f1
 have g:=y6 f hw f3 (by rw[f2];exact hv)
 rw[f2] at g
 refine g.trans ?_
 cases neg with
 |false=>rfl
 |true=>
  by_cases h0:0<r.length
  ·rw[UJ h0];rfl
  ·have hr:r=[]:=List.eq_nil_of_length_eq_zero (Nat.eq_zero_of_not_pos h0)
   rw[hr] at f2
   have f2:0=cJ ag 0 ds:=f2
   rw[UM h0,<-f2];rfl
end
noncomputable def jD:List UInt8:=[48,49,50,51,52,53,54,55,56,57,97,98,99,100,101,102,103,104,105,106,107,108,109,110,111,112,113,114,115,116,117,118,119,120,121,122]
noncomputable def oY:List UInt8:=[48,49,50,51,52,53,54,55,56,57,65,66,67,68,69,70,71,72,73,74,75,76,77,78,79,80,81,82,83,84,85,86,87,88,89,90]
noncomputable def JI(big g:Bool):List UInt8:=if big then oY++jD.drop 10 else if g then oY else jD
noncomputable def M8(big:Bool)(o:Nat):Nat:=if 48<=o/\o<=57 then o-48 else if 65<=o/\o<=90 then o-55 else if 97<=o/\o<=122 then (if big then o-61 else o-87) else 99
theorem ua(o ag:Nat):dw o ag=M8 (decide (36<ag)) o:=by
 unfold dw M8
 by_cases h:36<ag
 ·rw[UJ h,if_pos (show ag > 36 from h)];rfl
 ·rw[UM h,if_neg (show ¬ ag > 36 from h)];rfl
noncomputable def F8(big:Bool)(k:Nat)(x:UInt8):Bool:=!fF x&&x !=45&&M8 big x.toNat==k&&(!decide (k<10) || x.toNat==48+k)
theorem Dr:∀big g:Bool,∀k:Nat,k<(if big then 62 else 36)->∃x,(JI big g)[k]?=some x/\F8 big k x=true:=by
 have h:∀big g:Bool,(List.range (if big then 62 else 36)).all (λ k=>match (JI big g)[k]? with|some x=>F8 big k x|none=>false)=true:=by decide +kernel
 intro big g k hk
 have:=List.all_eq_true.mp (h big g) k (List.mem_range.mpr hk)
 cases e:(JI big g)[k]? with
 |none=>rw[e] at this;exact kh this
 |some x=>rw[e] at this;exact⟨x,rfl,this⟩
structure Dg(ag k:Nat)(x:UInt8):Prop where
 bl:fF x=false
 mn:x≠45
 wo:dw x.toNat ag=k
 lo:k<10->x.toNat=48+k
theorem Ds{ag k:Nat}{x:UInt8}(h:F8 (decide (36<ag)) k x=true):Dg ag k x:=by
 unfold F8 at h
 simp only [Bool.and_eq_true,Bool.not_eq_true',bne_iff_ne,ne_eq,beq_iff_eq,Bool.or_eq_true,decide_eq_false_iff_not] at h
 obtain⟨⟨⟨h1,h2⟩,h3⟩,h4⟩:=h
 exact⟨h1,h2,(ua _ _).trans h3,λ q=>h4.resolve_left λ e=>e q⟩
theorem ub{k ag:Nat}{g:Bool}(hk:k<ag)(hb:ag<=62):∃x:UInt8,ao prog Wn (n+1) (.fn 442) none [.int k,.int ag,.bool g]=some (.ok (.int (x.toNat:Nat)) [])/\Dg ag k x:=by
 have hL:bL=100000:=rfl
 obtain⟨x,hx,hd⟩:=Dr (decide (36<ag)) g k (by by_cases h:36<ag<;> simp[h]<;> lia)
 refine⟨x,?_,Ds hd⟩
 rw[aE (fn:=mQ) rfl]
 refine aS rfl rfl (by decide) ?_
 refine⟨[VI k,VI ag,.val (.bool g)],?_⟩
 show aU _ _ jv [VI k,VI ag,.val (.bool g)]=_
 unfold jv
 by_cases h:36<ag
 ·rw[UJ h] at hx
  exact aH (aX (ay (c:=true) (ae rfl) ah (cmp_gt (tt (by exact rY ‹_›)))) (aH (aY (iP (az (v:= .bytes (oY++jD.drop 10)) cY (jQ (v:= .bytes (jD.drop 10)) cY ah rfl) rfl) (ae rfl) (d7 (b:=oY++jD.drop 10) (by decide) hx)))))
 ·rw[UM h] at hx
  refine aj (aN (ay (c:=false) (ae rfl) ah (cmp_gt (ff (by lia)))) aM) ?_
  cases g with
  |true=>exact aH (aY (fA (iQ (ae rfl)) (iP cY (ae rfl) (d7 (b:=oY) (by decide) hx))))
  |false=>exact aH (aY (fK (iQ (ae rfl)) (iP cY (ae rfl) (d7 (b:=jD) (by decide) hx))))
theorem qr{x:X}{a v:V}(h1:Ok call x sl a aB)(h3:kk a=some v):Ok call (.bytesOf x) sl v aB:=by
 show(au (ev call x sl) λ a sl=>(kk a).map (R.ok · sl))=_
 rw[h1];show(kk a).map _=_;rw[h3];rfl
theorem uc(x:UInt8):kk (.seq false [.int (x.toNat:Nat)])=some (.bytes [x]):=by
 have hx:x.toNat<256:=x.toNat_lt
 show(Em [((x.toNat:Nat):Int)]).map (λ i=>V.bytes [i.toNat.toUInt8])=_
 have e:Em [((x.toNat:Nat):Int)]=some ((x.toNat:Nat):Int):=if_pos ⟨Int.natCast_nonneg _,by exact Px ‹_›⟩
 rw[e]
 show some (V.bytes [((x.toNat:Nat):Int).toNat.toUInt8])=_
 rw[Int.toNat_natCast]
 have:x.toNat.toUInt8=x:=by simp
 rw[this]
theorem fW{a b:List UInt8}(h:a.length+b.length<bL):dz .add (.bytes a) (.bytes b)=some (.bytes (a++b)):=if_pos ⟨rfl,h⟩
theorem y9(d:Nat):Int.fmod (d:Int) 9=((d%9:Nat):Int):=by
 rw[Int.fmod_eq_emod_of_nonneg _ (by decide)];exact(Int.natCast_emod d 9).symm
theorem rI{ag:Nat}:∀(ds:List Nat) (acc:Nat),(∀d∈ds,d<ag)->cJ ag acc ds<(acc+1)*ag^ds.length
 | [],acc,_=>by show acc<(acc+1)*1;lia
 |d::ds,acc,h=>by
  have ih:=rI ds (acc*ag+d) λ x hx=>h x (UK _ hx)
  have hd:=h d (UG ..)
  refine UO ih ?_
  rw[List.length_cons,Nat.pow_succ,Nat.mul_comm (ag^ds.length),<-Nat.mul_assoc]
  refine Nat.mul_le_mul_right _ ?_
  rw[Nat.add_mul];lia
theorem za(ag:Nat)(ds:List Nat)(d:Nat):cJ ag 0 (ds++ [d])=cJ ag 0 ds*ag+d:=by
 unfold cJ;rw[List.foldl_append];rfl
noncomputable def M9:Ss:=(.cons (.asg 11 (.b8 393 "_law_give" 0 (.cons (.ai 7) .nil)))
  (.cons (.ite (.and (.cons (.aC .eq (.ai 4) (.av (.int 0))) (.cons (.aC .eq (.ai 6) (.av (.bytes []))) (.cons (.aC .eq (.ai 2) (.av (.int 0))) .nil)))) (.cons (.asg 11 (.bin .add (.av (.int 1)) (.bin .mod (.ai 11) (.av (.int 9)))))
  .nil) .nil)
  (.cons (.asg 9 (.bin .add (.bin .mul (.ai 9) (.ai 7)) (.ai 11)))
  (.cons (.asg 12 (.ik (.aC .gt (.ai 4) (.av (.int 0))) (.idx (.lst (.cons (.av (.bytes [])) (.cons (.av (.bytes [32])) .nil))) (.b8 393 "_law_give" 0 (.cons (.av (.int 2)) .nil))) (.av (.bytes []))))
  (.cons (.asg 3 (.bin .add (.bin .add (.ai 3) (.bytesOf (.lst (.cons (.call 442 "_law_digit" (.cons (.ai 11) (.cons (.ai 7) (.cons (.cmp .eq (.b8 393 "_law_give" 0 (.cons (.av (.int 2)) .nil)) (.av (.int 0))) .nil)))) .nil)))) (.ai 12)))
  .nil)))))
noncomputable def mq(xs:List Int)(c s w ax:Nat)(text:List UInt8)(turn:Slot)(p:List UInt8)(ag:Nat)(neg:Bool)(bT bf:Nat)(dg bk:Slot):List Slot:=
 [.aD (bU xs c s),VI w,VI ax,.val (.bytes text),turn,.af,.val (.bytes p),VI ag,.val (.bool neg),VI bT,VI bf,dg,bk,.af,.af]
theorem Mt{α:Type}(f:α->V)(a b:α){r:Nat}(hr:r<2):∃z,(z=a\/z=b)/\cV (.seq false [f a,f b]) (.int r)=some (f z):=by
 match r,hr with
 |0,_=>exact⟨a,.inl rfl,rfl⟩
 |1,_=>exact⟨b,.inr rfl,rfl⟩
theorem F9{a b c:Bool}{t u v:T}(h1:gQ call t sl a sl)(h2:gQ call u sl b sl)(h3:gQ call v sl c sl):gQ call (.and (.cons t (.cons u (.cons v .nil)))) sl (a&&(b&&c)) sl:=by
 cases a with
 |false=>exact eg (bY h1 rfl)
 |true=>cases b with
  |false=>exact eg (cy h1 (bY h2 rfl))
  |true=>cases c with
   |false=>exact eg (cy h1 (cy h2 (bY h3 rfl)))
   |true=>exact eg (cy h1 (cy h2 (cy h3 fj)))
section
variable{xs:List Int}{c s w ax ag bT bf i:Nat}{text p:List UInt8}{neg:Bool}{dg bk:Slot}
theorem Dt(hl:xs.length<=40)(hb:2<=ag)(zb:ax=0->p=[]->ag=10)(hc:c<2^60)(hd:Frs dg):∃d,d<ag/\(i=0->p=[]->ax=0->1<=d)/\∀r,
  aU (ao prog Wn (n+1)) Wn (bz (bz M9)) (mq xs (c+1) s w ax text (VI i) p ag neg bT bf (VI d) bk)=r->
  aU (ao prog Wn (n+1)) Wn M9 (mq xs c s w ax text (VI i) p ag neg bT bf dg bk)=r:=by
 refine aV (λ d0 Tc g=>?_)<|dZ (Wn:=Wn) (n:=n) (xs:=xs) (c:=c) (s:=s) (m:=ag) hl (Nat.le_of_succ_le hb) hc
 have Mu:ex (ao prog Wn (n+1)) Wn (.asg 11 (.b8 393 "_law_give" 0 (.cons (.ai 7) .nil))) (mq xs c s w ax text (VI i) p ag neg bT bf dg bk)=some (.next (mq xs (c+1) s w ax text (VI i) p ag neg bT bf (VI d0) bk)):=
  bq (c8 rfl (aa (ae rfl) aq) rfl g) (cG (a:=[.aD (bU xs (c+1) s),VI w,VI ax,.val (.bytes text),VI i,.af,.val (.bytes p),VI ag,.val (.bool neg),VI bT,VI bf]) (b:=[bk,.af,.af]) hd)
 have tc:=F9 (call:=ao prog Wn (n+1)) (sl:=mq xs (c+1) s w ax text (VI i) p ag neg bT bf (VI d0) bk)
  (ay (ae (i:=4) rfl) (ah (v:= .int 0)) (bw (c:=decide (i=0)) (decide_eq_decide.mpr (by lia)))) (ay (c:=p==[]) (ae (i:=6) rfl) (ah (v:= .bytes [])) (show cL .eq (.bytes p) (.bytes [])=some (p==[]) from rfl)) (ay (ae (i:=2) rfl) (ah (v:= .int 0)) (bw (c:=decide (ax=0)) (decide_eq_decide.mpr (by lia))))
 by_cases h:(decide (i=0)&&(p==[]&&decide (ax=0)))=true
 ·rw[h] at tc
  have h':=Bool.and_eq_true_iff.mp h
  have h2:=Bool.and_eq_true_iff.mp h'.2
  have hp:p=[]:=eq_of_beq h2.1
  have h3:=zb (UH h2.2) hp
  refine⟨1+d0%9,by lia,λ _ _ _=>Nat.le_add_right _ _,λ r hr=>aj Mu (aj (aX tc (aj (bq (v:= .int ((1+d0%9:Nat):Int)) (az ah (az (ae rfl) ah ((mod_int (by decide)).trans (congrArg (λ q=>some (V.int q)) (y9 d0)))) rfl) rfl) aM)) hr)⟩
 ·have hf:(decide (i=0)&&(p==[]&&decide (ax=0)))=false:=Bool.eq_false_iff.mpr h
  rw[hf] at tc
  refine⟨d0,Tc,λ h1 h2 h3=>?_,λ r hr=>aj Mu (aj (aN tc aM) hr)⟩
  subst h1 h2 h3
  exact absurd rfl h
theorem Du{d:Slot}(hl:xs.length<=40)(hc:c<2^60)(hk:Frs bk):∃c' bl,c'<=c+1/\(bl=[]\/bl=[32])/\
  ex (ao prog Wn (n+1)) Wn (.asg 12 (.ik (.aC .gt (.ai 4) (.av (.int 0))) (.idx (.lst (.cons (.av (.bytes [])) (.cons (.av (.bytes [32])) .nil))) (.b8 393 "_law_give" 0 (.cons (.av (.int 2)) .nil))) (.av (.bytes [])))) (mq xs c s w ax text (VI i) p ag neg bT bf d bk)
   =some (.next (mq xs c' s w ax text (VI i) p ag neg bT bf d (.val (.bytes bl)))):=by
 by_cases h:0<i
 ·refine aV (λ r hr g=>?_)<|dZ (Wn:=Wn) (n:=n) (xs:=xs) (c:=c) (s:=s) (m:=2) hl (by decide) hc
  refine aV (λ z hz hi=>?_)<|Mt (λ b:List UInt8=>V.bytes b) [] [32] hr
  exact⟨c+1,z,Nat.le_refl _,hz,bq (fA (ay (ae rfl) ah (cmp_gt (tt (by exact rY ‹_›)))) (iP (bR (aa ah (aa ah aq)) rfl) (c8 rfl (aa ah aq) rfl g) hi))
   (cG (a:=[.aD (bU xs (c+1) s),VI w,VI ax,.val (.bytes text),VI i,.af,.val (.bytes p),VI ag,.val (.bool neg),VI bT,VI bf,d]) (b:=[.af,.af]) hk)⟩
 ·exact⟨c,[],Nat.le_succ _,.inl rfl,bq (fK (ay (ae rfl) ah (cmp_gt (ff (by lia)))) ah)
   (cG (a:=[.aD (bU xs c s),VI w,VI ax,.val (.bytes text),VI i,.af,.val (.bytes p),VI ag,.val (.bool neg),VI bT,VI bf,d]) (b:=[.af,.af]) hk)⟩
theorem Ga(hl:xs.length<=40)(hb:2<=ag)(tV:ag<=62)(zb:ax=0->p=[]->ag=10)(hc:c<2^59)(hd:Frs dg)(hk:Frs bk)(Td:bT<2^60)(ht:text.length<80000):
  ∃c' d x bl,c'<=c+3/\d<ag/\(i=0->p=[]->ax=0->1<=d)/\Dg ag d x/\(bl=[]\/bl=[32])/\
   aU (ao prog Wn (n+1)) Wn M9 (mq xs c s w ax text (VI i) p ag neg bT bf dg bk)=some (.next (mq xs c' s w ax (text++ [x]++bl) (VI i) p ag neg (bT*ag+d) bf (VI d) (.val (.bytes bl)))):=by
 have hL:bL=100000:=rfl
 have Kq:(2:Nat)^59+1000<2^60:=by decide
 refine fY (λ d d1 d2 d3=>?_)<|Dt (Wn:=Wn) (n:=n) (c:=c) (s:=s) (w:=w) (text:=text) (neg:=neg) (bT:=bT) (bf:=bf) (i:=i) (bk:=bk) hl hb zb (by exact cD ‹_› (by decide)) hd
 refine ew (λ c' bl b1 b2 b3=>?_)<|Du (Wn:=Wn) (n:=n) (s:=s) (w:=w) (ax:=ax) (text:=text) (p:=p) (ag:=ag) (neg:=neg) (bT:=bT*ag+d) (bf:=bf) (i:=i) (d:=VI d) (c:=c+1) hl (by lia) hk
 refine aV (λ r hr g=>?_)<|dZ (Wn:=Wn) (n:=n) (xs:=xs) (c:=c') (s:=s) (m:=2) hl (by decide) (by lia)
 refine aV (λ x l1 l2=>?_)<|ub (Wn:=Wn) (n:=n) (g:=decide (r=0)) d1 tV
 have Na:bl.length<=1:=by rcases b2 with e|e<;> rw[e]<;> decide
 refine⟨c'+1,d,x,bl,by exact Nat.succ_le_succ ‹_›,d1,d2,l2,b2,d3 _ ?_⟩
 refine aj (bq (v:= .int ((bT*ag+d:Nat):Int)) (az (az (ae rfl) (ae rfl) (mul_int (bI (k:=60) (by rw[Int.natAbs_natCast];exact Td)) (bI (k:=60) (by rw[Int.natAbs_natCast];exact UN tV (by decide))))) (ae rfl) ?_) rfl) ?_
 ·show some (V.int _)=some (V.int _)
  rw[Int.natCast_add,Int.natCast_mul]
 refine aj b3 (aj (bq (az (az (ae rfl) (qr (bR (aa (aF (aa (ae rfl) (aa (ae rfl) (aa (kc (c8 rfl (aa ah aq) rfl g) ah (bw (decide_eq_decide.mpr (by lia)))) aq))) l1) aq) rfl) (uc x)) (fW ?_)) (ae rfl) (fW ?_)) rfl) aM)
 ·rw[List.length_singleton];lia
 ·rw[List.length_append,List.length_singleton];lia
end
noncomputable def HO(ax:Nat)(p:List UInt8)(ag:Nat)(body:List UInt8)(i:Nat):Prop:=(i=0->body=[])/\(0<i->∃x b d,body=x::b/\d<ag/\Dg ag d x/\(p=[]->ax=0->1<=d))
theorem JJ:fF 32=true:=by decide
theorem JK{ag d:Nat}{x:UInt8}{bl:List UInt8}(h:Dg ag d x)(hd:d<ag)(hb:bl=[]\/bl=[32]):Bd ag ([x]++bl) [d]:=by
 have k:Bd ag bl []:=by
  rcases hb with e|e<;> rw[e]
  ·exact .nil
  ·exact .blank JJ .nil
 have:=Bd.digit h.bl (by rw[h.wo];exact hd) k
 rw[h.wo] at this
 exact this
theorem xt{xs:List Int}{s w ax ag bf:Nat}{T0 p:List UInt8}{neg:Bool}(hl:xs.length<=40)(hb:2<=ag)(tV:ag<=62)(zb:ax=0->p=[]->ag=10)(hm:bf<=3)(ht:T0.length<1000):
  ∀(k i c:Nat) (body:List UInt8) (ds:List Nat) (turn dg bk:Slot),i+k=bf->Frs turn->Frs dg->Frs bk->c+3*k<2^59->Bd ag body ds->ds.length=i->body.length<=2*i->HO ax p ag body i->
  ∃c' qt J8 Dw Pa Pb,bW (aU (ao prog Wn (n+1)) Wn M9) (λ x sl=>bg sl 4 (.val x)) (upTo i k) (mq xs c s w ax (T0++body) turn p ag neg (cJ ag 0 ds) bf dg bk)
   =some (.next (mq xs c' s w ax (T0++qt) Dw p ag neg (cJ ag 0 J8) bf Pa Pb))/\c'<=c+3*k/\Bd ag qt J8/\J8.length=bf/\qt.length<=2*bf/\HO ax p ag qt bf
 |0,i,c,body,ds,turn,dg,bk,hi,h1,h2,h3,hc,hB,hd,cw,hO=>by
  have hi:i=bf:=hi
  subst hi
  exact⟨c,body,ds,turn,dg,bk,rfl,Nat.le_refl _,hB,hd,cw,hO⟩
 |k+1,i,c,body,ds,turn,dg,bk,hi,h1,h2,h3,hc,hB,hd,cw,hO=>by
  have gA:=rI ds 0 hB.lt
  rw[Nat.zero_add,Nat.one_mul,hd] at gA
  have hp:ag^i<2^60:=by
   have a1:ag^i<=62^i:=Nat.pow_le_pow_left tV _
   have a2:(62:Nat)^i<=62^3:=UP (by decide) (by lia)
   have a3:(62:Nat)^3<2^60:=by decide
   exact UN (Nat.le_trans a1 a2) a3
  refine Ng (λ c1 d x bl s1 s2 s3 s4 s5 s6=>?_)<|Ga (Wn:=Wn) (n:=n) (c:=c) (s:=s) (w:=w) (text:=T0++body) (neg:=neg) (bT:=cJ ag 0 ds) (bf:=bf) (i:=i) (p:=p) (ax:=ax) hl hb tV zb (by lia) h2 h3 (Nat.lt_trans gA hp) (by rw[List.length_append];lia)
  have Na:bl.length<=1:=by rcases s5 with e|e<;> rw[e]<;> decide
  obtain⟨c',qt,J8,Dw,Pa,Pb,r1,r2⟩:=xt hl hb tV zb hm ht k (i+1) c1 (body++([x]++bl)) (ds++ [d]) (VI i) (VI d) (.val (.bytes bl)) (by exact Gw ‹_›) cu cu cu (by lia)
   (hB.append (JK s4 s2 s5)) (by rw[List.length_append,List.length_singleton,hd]) (by rw[List.length_append,List.length_append,List.length_singleton];lia)
   ⟨λ e=>absurd e (Nat.succ_ne_zero _),λ _=>by
    by_cases h0:i=0
    ·rw[hO.1 h0];exact⟨x,bl,d,rfl,s2,s4,λ a b=>s3 h0 a b⟩
    ·obtain⟨y,b,d',e,q⟩:=hO.2 (Nat.pos_of_ne_zero h0)
     exact⟨y,b++([x]++bl),d',by rw[e];rfl,q⟩⟩
  refine⟨c',qt,J8,Dw,Pa,Pb,?_,by lia,r2.2⟩
  rw[dG]
  refine kK (cG (a:=[.aD (bU xs c s),VI w,VI ax,.val (.bytes (T0++body))]) (b:=[.af,.val (.bytes p),VI ag,.val (.bool neg),.val (.int (cJ ag 0 ds:Nat)),VI bf,dg,bk,.af,.af]) h1) s6 ?_
  rw[za] at r1
  rw[List.append_assoc,List.append_assoc]
  exact r1
noncomputable def TP(ax:Nat)(p:List UInt8)(ag:Nat):Prop:=
 (ax=0/\((p=[]/\ag=10)\/(p=[48,120]/\ag=16)\/(p=[48,66]/\ag=2)\/(p=[48]/\ag=8)))\/(p=[]/\ag=ax/\2<=ax/\ax<=62)
noncomputable def HR(ax:Nat)(p rest:List UInt8):Prop:=(p=[]->ax=0->∃x q,rest=x::q/\x≠48)/\(p=[48]->∀x q,rest=x::q->two [x] 120 88=false/\two [x] 98 66=false)
theorem xu{α:Type}(a b:List α)(j:Nat):(a++b)[a.length+j]?=b[j]? :=by
 rw[List.getElem?_append_right (Nat.le_add_right _ _),Nat.add_sub_cancel_left]
theorem Hg{T pre p rest:List UInt8}{ax ag:Nat}(e:T=pre++(p++rest))(h:TP ax p ag)(k:HR ax p rest):PB T ax pre.length ag (pre.length+p.length):=by
 have e0:T[pre.length]?=(p++rest)[0]? :=by rw[e];exact xu _ _ 0
 have e1:T[pre.length+1]?=(p++rest)[1]? :=by rw[e];exact xu _ _ 1
 rcases h with ⟨h0,h⟩|⟨h1,h2,h3,_⟩
 ·refine .inr ⟨h0,?_⟩
  rw[e0,e1]
  rcases h with ⟨h1,h2⟩|⟨h1,h2⟩|⟨h1,h2⟩|⟨h1,h2⟩
  ·refine fb (λ x q e2 e3=>?_)<|k.1 h1 h0
   rw[h1,h2,e2]
   have hx:((([x]:List UInt8))==[48])=false:=by
    rw[beq_eq_false_iff_ne];exact λ q=>e3 (List.cons.inj q).1
   show 10=(Dl [x] _).1/\_=_+(Dl [x] _).2
   unfold Dl
   rw[hx];exact⟨rfl,rfl⟩
  ·rw[h1,h2];exact⟨rfl,rfl⟩
  ·rw[h1,h2];exact⟨rfl,rfl⟩
  ·rw[h1,h2]
   cases rest with
   |nil=>exact⟨rfl,rfl⟩
   |cons x q=>
    refine d8 (λ k1 k2=>?_)<|k.2 h1 x q rfl
    show 8=(Dl [48] [x]).1/\_=_+(Dl [48] [x]).2
    unfold Dl
    rw[k1,k2];exact⟨rfl,rfl⟩
 ·refine .inl ⟨by lia,h2,?_⟩
  rw[h1];rfl
theorem xv{x:UInt8}(h:x.toNat<=57):two [x] 120 88=false/\two [x] 98 66=false:=by
 have ne:∀y:UInt8,57<y.toNat->(([y]:List UInt8)==[x])=false:=λ y hy=>by
  rw[beq_eq_false_iff_ne]
  intro q
  have:=(List.cons.inj q).1
  rw[this] at hy
  lia
 unfold two
 rw[ne 120 (by decide),ne 88 (by decide),ne 98 (by decide),ne 66 (by decide)]
 exact⟨rfl,rfl⟩
structure Mv(ax ag:Nat)(y:UInt8):Prop where
 bl:fF y=false
 mn:y≠45
 hi:ag<=dw y.toNat ag
 h0:ax=0->ag=10->10<=dw y.toNat 0
 two:ag=8->two [y] 120 88=false/\two [y] 98 66=false
noncomputable def Pc:List UInt8:=[47,58,64,91,96,123,46]
theorem zc{ax ag:Nat}(h:ag<36):∃y,jD[ag]?=some y/\Mv ax ag y:=by
 refine aV (λ x hx hd=>?_)<|Dr false false ag h
 have d:=Ds (ag:=ag) (k:=ag) (x:=x) (by rw[UM (by lia)];exact hd)
 refine⟨x,hx,d.bl,d.mn,Nat.le_of_eq d.wo.symm,λ _ e=>?_,λ e=>?_⟩
 ·have:=(Ds (ag:=0) (k:=ag) (x:=x) hd).wo
  rw[this,e];exact Nat.le_refl _
 ·have:=d.lo (by lia)
  exact xv (by lia)
theorem Gb{ax ag r:Nat}(h:r<7)(hb:ag<=62):∃y,Pc[r]?=some y/\Mv ax ag y:=by
 have k:∀r,r<7->∃y,Pc[r]?=some y/\(fF y=false/\y≠45/\(∀b,M8 b y.toNat=99)/\two [y] 120 88=false/\two [y] 98 66=false):=λ r h=>by
  match r,h with
  |0,_=>exact⟨47,rfl,by decide⟩
  |1,_=>exact⟨58,rfl,by decide⟩
  |2,_=>exact⟨64,rfl,by decide⟩
  |3,_=>exact⟨91,rfl,by decide⟩
  |4,_=>exact⟨96,rfl,by decide⟩
  |5,_=>exact⟨123,rfl,by decide⟩
  |6,_=>exact⟨46,rfl,by decide⟩
 refine Qx (λ y h1 h2 h3 h4 h5=>?_)<|k r h
 refine⟨y,h1,h2,h3,?_,λ _ _=>?_,λ _=>h5⟩
 ·rw[ua,h4];exact iT ‹_› (by decide)
 ·rw[ua,h4];decide
structure Tx(ax:Nat)(p:List UInt8)(ag:Nat)(ld:List UInt8)(neg:Bool)(body:List UInt8)(ds:List Nat)(bf:Nat):Prop where
 tp:TP ax p ag
 bs:∀x∈ld,fF x=true
 ldn:ld.length<=2
 pn:p.length<=2
 bd:Bd ag body ds
 dn:ds.length=bf
 bn:body.length<=2*bf
 ho:HO ax p ag body bf
 m3:bf<=3
section
variable{ax ag bf w:Nat}{p ld body:List UInt8}{ds:List Nat}{neg:Bool}
theorem xw(h:TP ax p ag):2<=ag/\ag<=62:=by
 rcases h with ⟨_,⟨_,e⟩|⟨_,e⟩|⟨_,e⟩|⟨_,e⟩⟩|⟨_,e,h1,h2⟩<;> lia
theorem nH(h:TP ax p ag):ax=0\/(2<=ax/\ax<=62):=by
 rcases h with ⟨e,_⟩|⟨_,_,h⟩
 ·exact .inl e
 ·exact .inr h
theorem rJ(h:TP ax p ag):ax=0->p=[]->ag=10:=by
 intro h0 hp
 rcases h with ⟨_,⟨_,e⟩|⟨e,_⟩|⟨e,_⟩|⟨e,_⟩⟩|⟨_,_,h1,_⟩
 ·exact e
 ·rw[hp] at e;cases e
 ·rw[hp] at e;cases e
 ·rw[hp] at e;cases e
 ·lia
theorem Mw(h:TP ax p ag):p=[]\/∃q,p=48::q/\ax=0:=by
 rcases h with ⟨h0,⟨e,_⟩|⟨e,_⟩|⟨e,_⟩|⟨e,_⟩⟩|⟨e,_⟩
 ·exact .inl e
 ·exact .inr ⟨_,e,h0⟩
 ·exact .inr ⟨_,e,h0⟩
 ·exact .inr ⟨_,e,h0⟩
 ·exact .inl e
theorem tp_8(h:TP ax p ag)(hp:p=[48]):ag=8:=by
 rcases h with ⟨h0,⟨e,_⟩|⟨e,_⟩|⟨e,_⟩|⟨_,e⟩⟩|⟨e,_⟩
 ·rw[hp] at e;cases e
 ·rw[hp] at e;cases e
 ·rw[hp] at e;cases e
 ·exact e
 ·rw[hp] at e;cases e
theorem Dx(h:TP ax p ag)(hp:p=[]):lim ax=ag:=by
 unfold lim
 rcases h with ⟨h0,⟨_,e⟩|⟨e,_⟩|⟨e,_⟩|⟨e,_⟩⟩|⟨_,e,h1,_⟩
 ·rw[if_pos h0,e]
 ·rw[hp] at e;cases e
 ·rw[hp] at e;cases e
 ·rw[hp] at e;cases e
 ·rw[if_neg (by lia),e]
theorem JL{d:Nat}{x:UInt8}(h:TP ax p ag)(hp:p=[])(hd:d<ag)(g:Dg ag d x):dw x.toNat ax<lim ax:=by
 rw[Dx h hp]
 rcases h with ⟨h0,h⟩|⟨_,e,_⟩
 ·have hb:ag=10:=rJ (.inl ⟨h0,h⟩) h0 hp
  have:=g.wo
  rw[ua,UM (by lia)] at this
  rw[h0,ua,UM (by decide),this];exact hd
 ·rw[<-e,g.wo];exact hd
theorem Dy(h0:ax=0):dw (48:UInt8).toNat ax<lim ax:=by rw[h0];decide
theorem Hh(X:Tx ax p ag ld neg body ds bf){more:List UInt8}(hm:bf=0->p=[]->False)(h8:p=[48]->bf=0->∀x q,more=x::q->two [x] 120 88=false/\two [x] 98 66=false):HR ax p (body++more):=by
 refine⟨λ hp h0=>?_,λ hp=>?_⟩
 ·refine Eb (λ x b d e h1 h2 h3=>?_)<|X.ho.2 (Nat.pos_of_ne_zero λ q=>hm q hp)
  have hb:=rJ X.tp h0 hp
  refine⟨x,b++more,by rw[e];rfl,λ q=>?_⟩
  have l:=h2.lo (by lia)
  have:=h3 hp h0
  rw[q] at l
  have:(48:UInt8).toNat=48:=rfl
  lia
 ·by_cases hz:bf=0
  ·rw[X.ho.1 hz];exact h8 hp hz
  ·refine Eb (λ x b d e h1 h2 h3=>?_)<|X.ho.2 (Nat.pos_of_ne_zero hz)
   have hb:=tp_8 X.tp hp
   have l:=h2.lo (by lia)
   intro y q e2
   rw[e] at e2
   rw[<-(List.cons.inj e2).1]
   exact xv (by lia)
theorem v9(X:Tx ax p ag ld neg body ds bf){more:List UInt8}(Qk:more.length<=2)(hm:body=[]->p=[]->∀x q,more=x::q->fF x=false/\x≠45):zG (ld++(sgn neg++(p++(body++more)))) ld neg (p++(body++more)):=by
 refine⟨rfl,X.bs,λ _ x q e=>?_,?_⟩
 ·rcases Mw X.tp with hp|⟨p',hp,_⟩
  ·rw[hp] at e
   by_cases hz:bf=0
   ·have hb:=X.ho.1 hz
    rw[hb] at e
    exact hm hb hp x q e
   ·refine Eb (λ y b d e2 h1 h2 h3=>?_)<|X.ho.2 (Nat.pos_of_ne_zero hz)
    rw[e2] at e
    rw[<-(List.cons.inj e).1]
    exact⟨h2.bl,h2.mn⟩
  ·rw[hp] at e
   rw[<-(List.cons.inj e).1];decide
 ·have h1:=X.ldn
  have h2:=X.pn
  have h3:=X.bn
  have h4:=X.m3
  have h5:(sgn neg).length<=1:=by cases neg<;> decide
  rw[List.length_append,List.length_append,List.length_append,List.length_append]
  lia
end
section
variable{ax ag bf w:Nat}{p ld body:List UInt8}{ds:List Nat}{neg:Bool}
theorem rK:(sgn neg).length<=1:=by cases neg<;> decide
theorem rL(X:Tx ax p ag ld neg body ds bf):((ld++sgn neg)++p).length<=5/\body.length<=6:=by
 have h1:=X.ldn
 have h2:=X.pn
 have h3:=X.bn
 have h4:=X.m3
 have h5:=rK (neg:=neg)
 rw[List.length_append,List.length_append]
 lia
theorem Dz{more:List UInt8}:ld++(sgn neg++(p++(body++more)))=((ld++sgn neg)++p)++(body++more):=by simp only [List.append_assoc]
theorem DA:((ld++sgn neg)++p).length=(ld++sgn neg).length+p.length:=List.length_append
theorem ud(X:Tx ax p ag ld neg body ds bf)(et:bf=0->p=[]->False)(more:List UInt8):∃x q,p++(body++more)=x::q/\dw x.toNat ax<lim ax:=by
 rcases Mw X.tp with hp|⟨p',hp,h0⟩
 ·refine Eb (λ x b d e h1 h2 h3=>?_)<|X.ho.2 (Nat.pos_of_ne_zero λ q=>et q hp)
  exact⟨x,b++more,by rw[hp,e];rfl,JL X.tp hp h1 h2⟩
 ·exact⟨48,p'++(body++more),by rw[hp];rfl,Dy h0⟩
theorem Mx(X:Tx ax p ag ld neg body ds bf)(et:bf=0->p=[]->False)(gz:1<=w)(hw:w<=64)(hW:300<Wn):
  ao prog Wn (n+12) (.fn 435) none [.bytes (((ld++sgn neg)++p)++body),.int ax,.int w]=some (.ok (.int (if neg then -(cJ ag 0 ds:Nat) else (cJ ag 0 ds:Nat))) []):=by
 have hl:=rL X
 have H:=v9 X (more:=[]) (Nat.zero_le _) (λ _ _ x q e=>nomatch e)
 have P:=Hg (T:=ld++(sgn neg++(p++(body++ [])))) (pre:=ld++sgn neg) (by rw[List.append_assoc]) X.tp (Hh X (more:=[]) et λ _ _ x q e=>nomatch e)
 refine fb (λ x q e1 e2=>?_)<|ud X et []
 have hb:=xw X.tp
 have gA:=rI ds 0 X.bd.lt
 have hv:cJ ag 0 ds<2^60:=by
  have a1:ag^ds.length<=62^ds.length:=Nat.pow_le_pow_left hb.2 _
  have a2:(62:Nat)^ds.length<=62^3:=UP (by decide) (by rw[X.dn];exact X.m3)
  have a3:(62:Nat)^3<2^60:=by decide
  rw[Nat.zero_add,Nat.one_mul] at gA
  exact Nat.lt_trans gA (UN (Nat.le_trans a1 a2) a3)
 obtain⟨T,eT⟩:∃T,T=((ld++sgn neg)++p)++body:=⟨_,rfl⟩
 have a0:ld++(sgn neg++(p++(body++ [])))=T:=by rw[Dz,List.append_nil,eT]
 rw[a0] at H P
 rw[e1] at H
 rw[<-DA] at P
 rw[List.length_append] at P
 rw[<-eT]
 exact y8 (Wn:=Wn) (n:=n) (pre:=(ld++sgn neg)++p) (body:=body) (ag:=ag) (ds:=ds) gz hw H (by rw[eT,List.length_append];lia) (nH X.tp) e2 P eT hb.1 hb.2 X.bd (by rw[X.dn];exact Nat.le_succ_of_le X.m3) hv
theorem Gd(X:Tx ax p ag ld neg body ds bf)(hm:bf=0)(hp:p=[])(hW:300<Wn):
  ao prog Wn (n+12) (.fn 435) none [.bytes (((ld++sgn neg)++p)++body),.int ax,.int w]=some (.ok (ig (((ld++sgn neg)++p)++body).length) []):=by
 have hl:=rL X
 have H:=v9 X (more:=[]) (Nat.zero_le _) (λ _ _ x q e=>nomatch e)
 have hb:=X.ho.1 hm
 rw[hb,hp] at H
 have:=mV (Wn:=Wn) (n:=n+9) (w:=w) H (by
  rw[hb,hp] at hl
  have e:(ld++(sgn neg++ []++([]++ []))).length=((ld++sgn neg)++ []).length:=by simp
  have h5:=hl.1
  show(ld++(sgn neg++([]++([]++ [])))).length<Wn
  simp only [List.append_nil] at h5 ⊢
  lia) (nH X.tp)
 have e:ld++(sgn neg++([]++([]++ [])))=((ld++sgn neg)++p)++body:=by rw[hb,hp];simp
 rw[e] at this
 exact this
theorem JM(X:Tx ax p ag ld neg body ds bf){y:UInt8}(Y:Mv ax ag y)(hW:300<Wn):
  ao prog Wn (n+12) (.fn 435) none [.bytes ((((ld++sgn neg)++p)++body)++ [y]++ [49]),.int ax,.int w]=some (.ok (ig (((ld++sgn neg)++p)++body).length) []):=by
 have hl:=rL X
 have H:=v9 X (more:=[y,49]) (Nat.le_refl _) (λ _ _ x q e=>by rw[<-(List.cons.inj e).1];exact⟨Y.bl,Y.mn⟩)
 obtain⟨T,eT⟩:∃T,T=(((ld++sgn neg)++p)++body)++ [y]++ [49]:=⟨_,rfl⟩
 have a0:ld++(sgn neg++(p++(body++ [y,49])))=T:=by rw[eT];simp
 have a1:T=((ld++sgn neg)++p)++(body++y::[49]):=by rw[eT];simp
 have hT:T.length<Wn:=by
  rw[eT,List.length_append,List.length_append,List.length_append]
  show _+1+1<Wn
  lia
 rw[a0] at H
 rw[<-eT]
 by_cases hz:bf=0/\p=[]
 ·have hb:=X.ho.1 hz.1
  have e1:p++(body++ [y,49])=y::[49]:=by rw[hb,hz.2];rfl
  rw[e1] at H
  have hf:lim ax<=dw y.toNat ax:=by
   rw[Dx X.tp hz.2]
   refine Or.elim (X.tp) (d8 λ h0 h=>?_) (rS λ _ e _=>?_)
   ·have I4:=rJ (.inl ⟨h0,h⟩) h0 hz.2
    rw[I4,h0];exact Y.h0 h0 I4
   ·rw[<-e];exact Y.hi
  have:=y7 (Wn:=Wn) (n:=n+9) (w:=w) H hT (nH X.tp) hf
  rw[this]
  congr 3
  rw[hb,hz.2,List.append_nil,List.append_nil,List.length_append]
 ·have et:bf=0->p=[]->False:=λ a b=>hz ⟨a,b⟩
  have P:=Hg (T:=T) (pre:=ld++sgn neg) (rest:=body++ [y,49]) (by rw[<-a0,List.append_assoc]) X.tp (Hh X (more:=[y,49]) et λ hp _ x q e=>by
   rw[<-(List.cons.inj e).1];exact Y.two (tp_8 X.tp hp))
  refine fb (λ x q e1 e2=>?_)<|ud X et [y,49]
  rw[e1] at H
  rw[<-DA] at P
  rw[List.length_append] at P
  have:=lN (Wn:=Wn) (n:=n) (w:=w) (pre:=(ld++sgn neg)++p) (body:=body) (ag:=ag) (ds:=ds) (more:=[49]) H hT (nH X.tp) e2 P a1 X.bd Y.bl Y.hi
  rw[<-List.length_append] at this
  exact this
end
theorem DB(q:Nat):cL .eq (ig q) (ig q)=some true:=by
 show some (((Str.ofString "bad"==Str.ofString "bad")&&(((q:Int)==(q:Int))&&true)))=_
 rw[beq_self_eq_true,beq_self_eq_true];rfl
theorem eq_int(i:Int):cL .eq (.int i) (.int i)=some true:=by
 show some (i==i)=_
 rw[beq_self_eq_true]
section
variable{xs:List Int}{c s w:Nat}
theorem JN(ld:List UInt8)(neg:Bool)(h:ld=[]\/ld=[32]\/ld=[10,9]):∃z,fZ (some (-1)) none (.bytes (ld++sgn neg))=some (.bytes z)/\(z==[45])=neg:=by
 rcases h with e|e|e<;> rw[e]<;> cases neg<;> exact⟨_,rfl,by decide⟩
theorem zd{r:Nat}(h:r<8):∃ax:Nat,cV (.seq false [.int 0,.int 0,.int 2,.int 10,.int 16,.int 36,.int 37,.int 62]) (.int r)=some (.int ax)/\(ax=0\/(2<=ax/\ax<=62)):=by
 match r,h with
 |0,_=>exact⟨0,rfl,by decide⟩
 |1,_=>exact⟨0,rfl,by decide⟩
 |2,_=>exact⟨2,rfl,by decide⟩
 |3,_=>exact⟨10,rfl,by decide⟩
 |4,_=>exact⟨16,rfl,by decide⟩
 |5,_=>exact⟨36,rfl,by decide⟩
 |6,_=>exact⟨37,rfl,by decide⟩
 |7,_=>exact⟨62,rfl,by decide⟩
theorem DC{r:Nat}(h:r<4):∃(p:List UInt8) (ag:Nat),cV (.seq false [.seq true [.bytes [],.int 10],.seq true [.bytes [48,120],.int 16],.seq true [.bytes [48,66],.int 2],.seq true [.bytes [48],.int 8]]) (.int r)=some (.seq true [.bytes p,.int ag])/\TP 0 p ag/\p.length<=2:=by
 match r,h with
 |0,_=>exact⟨[],10,rfl,.inl ⟨rfl,.inl ⟨rfl,rfl⟩⟩,by decide⟩
 |1,_=>exact⟨[48,120],16,rfl,.inl ⟨rfl,.inr (.inl ⟨rfl,rfl⟩)⟩,by decide⟩
 |2,_=>exact⟨[48,66],2,rfl,.inl ⟨rfl,.inr (.inr (.inl ⟨rfl,rfl⟩))⟩,by decide⟩
 |3,_=>exact⟨[48],8,rfl,.inl ⟨rfl,.inr (.inr (.inr ⟨rfl,rfl⟩))⟩,by decide⟩
theorem ze{r:Nat}(h:r<3):∃ld:List UInt8,cV (.seq false [.bytes [],.bytes [32],.bytes [10,9]]) (.int r)=some (.bytes ld)/\(ld=[]\/ld=[32]\/ld=[10,9]):=by
 match r,h with
 |0,_=>exact⟨_,rfl,by decide⟩
 |1,_=>exact⟨_,rfl,by decide⟩
 |2,_=>exact⟨_,rfl,by decide⟩
theorem DE{r:Nat}(h:r<2):∃neg:Bool,cV (.seq false [.bytes [],.bytes [45]]) (.int r)=some (.bytes (sgn neg)):=by
 match r,h with
 |0,_=>exact⟨false,rfl⟩
 |1,_=>exact⟨true,rfl⟩
theorem Ge{ld:List UInt8}(h:ld=[]\/ld=[32]\/ld=[10,9]):(∀x∈ld,fF x=true)/\ld.length<=2:=by
 rcases h with e|e|e<;> rw[e]<;> decide
noncomputable def Uk(b_:Ss):Ss:=bz b_
theorem Gf(hl:xs.length<=40)(hc:c<2^59):∃c' ax p ag,c'<=c+2/\TP ax p ag/\p.length<=2/\∀r,
  aU (ao prog Wn (n+1)) Wn (bz (bz cg)) [.aD (bU xs c' s),VI w,VI ax,.af,.af,.af,.val (.bytes p),VI ag,.af,.af,.af,.af,.af,.af,.af]=r->
  aU (ao prog Wn (n+1)) Wn cg [.aD (bU xs c s),VI w,.af,.af,.af,.af,.af,.af,.af,.af,.af,.af,.af,.af,.af]=r:=by
 have Kq:(2:Nat)^59+1000<2^60:=by decide
 refine aV (λ r1 Kr g1=>?_)<|dZ (Wn:=Wn) (n:=n) (xs:=xs) (c:=c) (s:=s) (m:=8) hl (by decide) (by exact cD ‹_› (by decide))
 refine aV (λ ax i1 ht=>?_)<|zd Kr
 have Mu:∀sl2,ex (ao prog Wn (n+1)) Wn (.asg 2 (.idx (.lst (.cons (.av (.int 0)) (.cons (.av (.int 0)) (.cons (.av (.int 2)) (.cons (.av (.int 10)) (.cons (.av (.int 16)) (.cons (.av (.int 36)) (.cons (.av (.int 37)) (.cons (.av (.int 62)) .nil))))))))) (.b8 393 "_law_give" 0 (.cons (.av (.int 8)) .nil)))) (.aD (bU xs c s)::VI w:: .af::sl2)=some (.next (.aD (bU xs (c+1) s)::VI w::VI ax::sl2)):=λ sl2=>
  bq (iP (bR (aa ah (aa ah (aa ah (aa ah (aa ah (aa ah (aa ah (aa ah aq)))))))) rfl) (c8 rfl (aa ah aq) rfl g1) i1) rfl
 unfold cg
 by_cases h0:ax=0
 ·subst h0
  refine aV (λ r2 Mq g2=>?_)<|dZ (Wn:=Wn) (n:=n) (xs:=xs) (c:=c+1) (s:=s) (m:=4) hl (by decide) (by lia)
  refine ew (λ p ag i2 h1 h2=>?_)<|DC Mq
  exact⟨c+1+1,0,p,ag,by exact Nat.le_refl _,h1,h2,λ r hr=>aj (Mu _) (aj (tY (fA (ay (c:=true) (ae rfl) ah rfl) (iP (bR (aa (dC (aa ah (aa ah aq)) rfl) (aa (dC (aa ah (aa ah aq)) rfl) (aa (dC (aa ah (aa ah aq)) rfl) (aa (dC (aa ah (aa ah aq)) rfl) aq)))) rfl) (c8 rfl (aa ah aq) rfl g2) i2)) rfl) hr)⟩
 ·have h2:2<=ax/\ax<=62:=ht.resolve_left h0
  exact⟨c+1,ax,[],ax,by lia,.inr ⟨rfl,rfl,h2.1,h2.2⟩,by decide,λ r hr=>aj (Mu _) (aj (tY (fK (ay (c:=false) (ae rfl) ah (bw (ff (by exact xQ ‹_›)))) (dC (aa ah (aa (ae rfl) aq)) rfl)) rfl) hr)⟩
theorem Gg{ax ag:Nat}{p:List UInt8}(hl:xs.length<=40)(hc:c<2^59)(hp:p.length<=2):∃c' ld neg bf,c'<=c+3/\(∀x∈ld,fF x=true)/\ld.length<=2/\bf<=3/\∀r,
  aU (ao prog Wn (n+1)) Wn (bz (bz (bz (bz (bz cg))))) (mq xs c' s w ax ((ld++sgn neg)++p) .af p ag neg 0 bf .af .af)=r->
  aU (ao prog Wn (n+1)) Wn (bz (bz cg)) [.aD (bU xs c s),VI w,VI ax,.af,.af,.af,.val (.bytes p),VI ag,.af,.af,.af,.af,.af,.af,.af]=r:=by
 have hL:bL=100000:=rfl
 have Kq:(2:Nat)^59+1000<2^60:=by decide
 refine aV (λ r1 Kr g1=>?_)<|dZ (Wn:=Wn) (n:=n) (xs:=xs) (c:=c) (s:=s) (m:=3) hl (by decide) (by exact cD ‹_› (by decide))
 refine aV (λ ld i1 Ql=>?_)<|ze Kr
 refine aV (λ r2 Mq g2=>?_)<|dZ (Wn:=Wn) (n:=n) (xs:=xs) (c:=c+1) (s:=s) (m:=2) hl (by decide) (by lia)
 refine bJ (λ neg i2=>?_)<|DE Mq
 refine aV (λ bf S9 g3=>?_)<|dZ (Wn:=Wn) (n:=n) (xs:=xs) (c:=c+1+1) (s:=s) (m:=4) hl (by decide) (by lia)
 refine aV (λ z z1 z2=>?_)<|JN ld neg Ql
 have My:=Ge Ql
 have h5:=rK (neg:=neg)
 refine⟨c+1+1+1,ld,neg,bf,by exact Nat.le_refl _,My.1,My.2,by exact Nl ‹_›,λ r hr=>?_⟩
 refine aj (bq (az (iP (bR (aa ah (aa ah (aa ah aq))) rfl) (c8 rfl (aa ah aq) rfl g1) i1) (iP (bR (aa ah (aa ah aq)) rfl) (c8 rfl (aa ah aq) rfl g2) i2) (fW (by lia))) rfl) ?_
 refine aj (dY (aa (kc (jQ (ae rfl) (hU ah) z1) ah (congrArg some z2)) (aa (az (ae rfl) (ae rfl) (fW (by rw[List.length_append];lia))) aq)) rfl) ?_
 exact aj (dY (aa ah (aa (c8 rfl (aa ah aq) rfl g3) aq)) rfl) hr
end
theorem ue{a b:Bool}{t u:T}(h1:gQ call t sl a sl)(h2:gQ call u sl b sl):gQ call (.and (.cons t (.cons u .nil))) sl (a&&b) sl:=by
 cases a with
 |false=>exact eg (bY h1 rfl)
 |true=>cases b with
  |false=>exact eg (cy h1 (bY h2 rfl))
  |true=>exact eg (cy h1 (cy h2 fj))
noncomputable def Nb:Ss:=bz (bz (bz (bz (bz (bz cg)))))
section
variable{xs:List Int}{c s w ax ag bT bf bad:Nat}{text p:List UInt8}{neg:Bool}{turn dg bk:Slot}
noncomputable abbrev xx(xs:List Int)(c s w ax:Nat)(text:List UInt8)(turn:Slot)(bad:Nat)(p:List UInt8)(ag:Nat)(neg:Bool)(bT bf:Nat)(dg bk wa JO:Slot):List Slot:=
 [.aD (bU xs c s),VI w,VI ax,.val (.bytes text),turn,VI bad,.val (.bytes p),VI ag,.val (.bool neg),VI bT,VI bf,dg,bk,wa,JO]
theorem DF{wa:V}{JO:Slot}(h:ao prog Wn n (.fn 435) none [.bytes text,.int ax,.int w]=some (.ok wa []))(he:cL .eq wa wa=some true):
  aU (ao prog Wn n) Wn (bz (bz Nb)) (xx xs c s w ax text turn bad p ag neg bT bf dg bk (.val wa) JO)=some (.ret (.bool true) (xx xs c s w ax text turn bad p ag neg bT bf dg bk (.val wa) JO)):=
 aH (aY (kc (aF (aa (ae rfl) (aa (ae rfl) (aa (ae rfl) aq))) h) (ae rfl) he))
theorem DG{x:X}{q:Nat}(h:Ok call x sl (.int q) aB):Ok call (.tup (.cons (.av (.str (Str.ofString "bad"))) (.cons x .nil))) sl (ig q) aB:=dC (aa ah (aa h aq)) rfl
theorem xy{wa:V}(ht:text.length<1000)(h:ao prog Wn n (.fn 435) none [.bytes text,.int ax,.int w]=some (.ok wa []))(he:cL .eq wa wa=some true)
  (hd:wa=if (decide (bf=0)&&(p==[])) then ig text.length else .int (if neg then -(bT:Nat) else (bT:Nat))):
  aU (ao prog Wn n) Wn (bz Nb) (xx xs c s w ax text turn 0 p ag neg bT bf dg bk .af .af)=some (.ret (.bool true) (xx xs c s w ax text turn 0 p ag neg bT bf dg bk (.val wa) .af)):=by
 have hL:bL=100000:=rfl
 have tc:=ue (call:=ao prog Wn n) (sl:=xx xs c s w ax text turn 0 p ag neg bT bf dg bk .af .af) (ay (ae (i:=10) rfl) (ah (v:= .int 0)) (bw (c:=decide (bf=0)) (decide_eq_decide.mpr (by lia)))) (ay (c:=p==[]) (ae (i:=6) rfl) (ah (v:= .bytes [])) (show cL .eq (.bytes p) (.bytes [])=some (p==[]) from rfl))
 refine aj (aB:=xx xs c s w ax text turn 0 p ag neg bT bf dg bk (.val wa) .af) (aX (ay (c:=true) (ae rfl) ah rfl) (aj (bq (v:=wa) (aB:=xx xs c s w ax text turn 0 p ag neg bT bf dg bk .af .af) ?_ rfl) aM)) (DF h he)
 cases hb:(decide (bf=0)&&(p==[])) with
 |true=>
  rw[hb] at tc hd
  rw[hd]
  exact fA tc (DG (aK rfl (gx (by exact cD ‹_› (by decide)))))
 |false=>
  rw[hb] at tc hd
  rw[hd]
  refine fK tc ?_
  cases neg with
  |true=>exact fA (iQ (ae rfl)) (hU (ae rfl))
  |false=>exact fK (iQ (ae rfl)) (ae rfl)
theorem JP(hl:xs.length<=40)(hc:c<2^60)(hb:0<bad)(tV:ag<=62)(ht:text.length<1000)(h:∀y,Mv ax ag y->ao prog Wn (n+1) (.fn 435) none [.bytes (text++ [y]++ [49]),.int ax,.int w]=some (.ok (ig text.length) [])):
  ∃c' y,c'<=c+1/\aU (ao prog Wn (n+1)) Wn (bz Nb) (xx xs c s w ax text turn bad p ag neg bT bf dg bk .af .af)=some (.ret (.bool true) (xx xs c' s w ax (text++ [y]++ [49]) turn bad p ag neg bT bf dg bk (.val (ig text.length)) (.val (.int (y.toNat:Nat))))):=by
 have hL:bL=100000:=rfl
 have tc:∀c,gQ (ao prog Wn (n+1)) _ (xx xs c s w ax text turn bad p ag neg bT bf dg bk (.val (ig text.length)) .af) _ (xx xs c s w ax text turn bad p ag neg bT bf dg bk (.val (ig text.length)) .af):=λ c=>
  ue (ay (op:= .lt) (ae (i:=7) rfl) (ah (v:= .int 36)) (cF (c:=decide (ag<36)) (decide_eq_decide.mpr (by lia)))) (ay (op:= .eq) (ae (i:=5) rfl) (ah (v:= .int 1)) (bw (c:=decide (bad=1)) (decide_eq_decide.mpr (by lia))))
 have JO:∃c' y,c'<=c+1/\Mv ax ag y/\Ok (ao prog Wn (n+1)) (.ik (.and (.cons (.aC .lt (.ai 7) (.av (.int 36))) (.cons (.aC .eq (.ai 5) (.av (.int 1))) .nil))) (.idx (.glob "_law_small" (.bytes [48,49,50,51,52,53,54,55,56,57,97,98,99,100,101,102,103,104,105,106,107,108,109,110,111,112,113,114,115,116,117,118,119,120,121,122])) (.ai 7)) (.idx (.av (.bytes [47,58,64,91,96,123,46])) (.b8 393 "_law_give" 0 (.cons (.av (.int 7)) .nil))))
   (xx xs c s w ax text turn bad p ag neg bT bf dg bk (.val (ig text.length)) .af) (.int (y.toNat:Nat)) (xx xs c' s w ax text turn bad p ag neg bT bf dg bk (.val (ig text.length)) .af):=by
  have tc:=tc c
  cases hb:(decide (ag<36)&&decide (bad=1)) with
  |true=>
   rw[hb] at tc
   refine aV (λ y h1 h2=>?_)<|zc (ax:=ax) (ag:=ag) (UH (Bool.and_eq_true_iff.mp hb).1)
   exact⟨c,y,Nat.le_succ _,h2,fA tc (iP cY (ae rfl) (d7 (b:=jD) (by decide) h1))⟩
  |false=>
   rw[hb] at tc
   refine aV (λ r hr g=>?_)<|dZ (Wn:=Wn) (n:=n) (xs:=xs) (c:=c) (s:=s) (m:=7) hl (by decide) hc
   refine aV (λ y h1 h2=>?_)<|Gb (ax:=ax) hr tV
   exact⟨c+1,y,Nat.le_refl _,h2,fK tc (iP ah (c8 rfl (aa ah aq) rfl g) (d7 (b:=Pc) (by decide) h1))⟩
 refine ew (λ c' y o1 o2 o3=>?_) JO;clear JO
 refine⟨c',y,o1,aj (aN (ay (c:=false) (ae rfl) ah (bw (ff (by exact xQ (Nat.ne_of_gt ‹_›))))) ?_) (DF (h y o2) (DB _))⟩
 refine aj (bq (v:=ig text.length) (DG (aK rfl (gx (by exact cD ‹_› (by decide))))) rfl) (aj (bq o3 rfl) (aj (bq (az (az (ae rfl) (qr (bR (aa (ae rfl) aq) rfl) (uc y)) (fW ?_)) ah (fW ?_)) rfl) aM))
 ·rw[List.length_singleton];lia
 ·rw[List.length_append,List.length_singleton,List.length_singleton];lia
end
theorem lO{xs:List Int}{c s w:Nat}(hl:xs.length<=40)(gz:1<=w)(hw:w<=64)(hW:300<Wn)(hc:c<2^58):
  ∃c',c'<=c+30/\ao prog Wn (n+13) (.fn 449) (some (bU xs c s)) [.int w]=some (.ok (.bool true) (bU xs c' s)):=by
 have Te:(2:Nat)^58+1000<2^59:=by decide
 have Kq:(2:Nat)^59+1000<2^60:=by decide
 refine Ec (λ c1 ax p ag a1 a2 a3 a4=>?_)<|Gf (Wn:=Wn) (n:=n+11) (s:=s) (w:=w) (c:=c) hl (by exact cD ‹_› (by decide))
 refine Hp (λ c2 ld neg bf b1 b2 b3 b4 b5=>?_)<|Gg (Wn:=Wn) (n:=n+11) (s:=s) (w:=w) (c:=c1) (ax:=ax) (ag:=ag) hl (by lia) a3
 have hb:=xw a2
 have h5:=rK (neg:=neg)
 refine QE (λ c3 body ds turn dg bk d1 d2 d3 d4 d5 d6=>?_)<|xt (Wn:=Wn) (n:=n+11) (s:=s) (w:=w) (T0:=(ld++sgn neg)++p) (neg:=neg) hl hb.1 hb.2 (rJ a2) b4 (by rw[List.length_append,List.length_append];lia) bf 0 c2 [] [] .af .af .af (Nat.zero_add _) eh eh eh (by lia) .nil rfl (Nat.zero_le _) ⟨λ _=>rfl,λ h=>absurd h (Nat.lt_irrefl _)⟩
 have X:Tx ax p ag ld neg body ds bf:=⟨a2,b2,b3,a3,d3,d4,d5,d6,b4⟩
 refine aV (λ bad hr g=>?_)<|dZ (Wn:=Wn) (n:=n+11) (xs:=xs) (c:=c3) (s:=s) (m:=5) hl (by decide) (by lia)
 have cw:=rL X
 have DH:(((ld++sgn neg)++p)++body).length<1000:=by rw[List.length_append];lia
 have fin:∃c' a8,c'<=c3+2/\aU (ao prog Wn (n+12)) Wn (bz Nb) (xx xs (c3+1) s w ax (((ld++sgn neg)++p)++body) turn bad p ag neg (cJ ag 0 ds) bf dg bk .af .af)=some (.ret (.bool true) (.aD (bU xs c' s)::a8)):=by
  by_cases h0:bad=0
  ·subst h0
   by_cases hz:bf=0/\p=[]
   ·refine⟨c3+1,_,Nat.le_succ _,xy DH (Gd X hz.1 hz.2 hW) (DB _) ?_⟩
    rw[hz.2,UJ hz.1];rfl
   ·refine⟨c3+1,_,Nat.le_succ _,xy DH (Mx X (λ a b=>hz ⟨a,b⟩) gz hw hW) (eq_int _) ?_⟩
    have:(decide (bf=0)&&(p==[]))=false:=by
     cases hq:(decide (bf=0)&&(p==[])) with
     |false=>rfl
     |true=>
      have q:=Bool.and_eq_true_iff.mp hq
      exact absurd ⟨UH q.1,eq_of_beq q.2⟩ hz
    rw[this];rfl
  ·refine fb (λ c' y o1 o2=>?_)<|JP (Wn:=Wn) (n:=n+11) (s:=s) (w:=w) (ax:=ax) (ag:=ag) (p:=p) (neg:=neg) (bT:=cJ ag 0 ds) (bf:=bf) (turn:=turn) (dg:=dg) (bk:=bk) (c:=c3+1) hl (by lia) (Nat.pos_of_ne_zero h0) hb.2 DH λ y Y=>JM X Y hW
   exact⟨c',_,by assumption,o2⟩
 refine fb (λ c' a8 f1 f2=>?_) fin;clear fin
 refine⟨c',by lia,?_⟩
 rw[aE (fn:=gZ) rfl]
 refine ie rfl rfl (by decide) ⟨a8,?_⟩
 refine a4 _ (b5 _ ?_)
 refine aj (aB:=mq xs c3 s w ax (((ld++sgn neg)++p)++body) turn p ag neg (cJ ag 0 ds) bf dg bk) (jA (aa (ae rfl) aq) (range_one (k:=bf) (by exact gy ‹_› (by decide))) ?_) (aj (bq (c8 rfl (aa ah aq) rfl g) rfl) f2)
 have e:(bK 0 1 bf).map V.int=upTo 0 bf:=dt 0 bf
 rw[e]
 have d1:=d1
 rw[List.append_nil] at d1
 exact d1
end Mine
end
section
open PySem PySem.W PyProof.Rows PySem.Calls
namespace Mine
theorem bounds_1:ao prog 400 30 (.fn 454) none [.int 1]=some (.ok (.bool true) []):=by kernel_rfl
theorem bounds_2:ao prog 400 30 (.fn 454) none [.int 2]=some (.ok (.bool true) []):=by kernel_rfl
theorem bounds_3:ao prog 400 30 (.fn 454) none [.int 3]=some (.ok (.bool true) []):=by kernel_rfl
theorem bounds_4:ao prog 400 30 (.fn 454) none [.int 4]=some (.ok (.bool true) []):=by kernel_rfl
theorem bounds_5:ao prog 400 30 (.fn 454) none [.int 5]=some (.ok (.bool true) []):=by kernel_rfl
theorem bounds_6:ao prog 400 30 (.fn 454) none [.int 6]=some (.ok (.bool true) []):=by kernel_rfl
theorem bounds_7:ao prog 400 30 (.fn 454) none [.int 7]=some (.ok (.bool true) []):=by kernel_rfl
theorem bounds_8:ao prog 400 30 (.fn 454) none [.int 8]=some (.ok (.bool true) []):=by kernel_rfl
theorem bounds_9:ao prog 400 30 (.fn 454) none [.int 9]=some (.ok (.bool true) []):=by kernel_rfl
theorem DI{w:Nat}(h1:1<=w)(h:w<=9):ao prog 400 30 (.fn 454) none [.int w]=some (.ok (.bool true) []):=by
 match w,h1,h with
 |1,_,_=>exact bounds_1
 |2,_,_=>exact bounds_2
 |3,_,_=>exact bounds_3
 |4,_,_=>exact bounds_4
 |5,_,_=>exact bounds_5
 |6,_,_=>exact bounds_6
 |7,_,_=>exact bounds_7
 |8,_,_=>exact bounds_8
 |9,_,_=>exact bounds_9
theorem Gh{w:Nat}:ao prog 400 30 (.fn 435) none [.bytes [32,9,49,120],.int 10,.int w]=some (.ok (ig 3) []):=by
 have H:zG [32,9,49,120] [32,9] false [49,120]:=⟨rfl,by decide,λ _ x q e=>by rw[<-(List.cons.inj e).1];decide,by decide⟩
 exact lN (Wn:=400) (n:=18) (ax:=10) (pre:=[32,9]) (body:=[49]) (y:=120) (more:=[]) (ag:=10) (ds:=[1]) H (by decide) (.inr (by decide)) (by decide) (.inl ⟨by decide,rfl,rfl⟩) rfl (.digit (by decide) (by decide) .nil) (by decide) (by decide)
theorem Gi{w:Nat}:ao prog 400 30 (.fn 435) none [.bytes [32,32],.int 10,.int w]=some (.ok (ig 2) []):=by
 have H:zG [32,32] [32,32] false []:=⟨rfl,by decide,(λ _ x q e=>nomatch e),by decide⟩
 exact mV (Wn:=400) (n:=27) (ax:=10) H (by decide) (.inr (by decide))
end Mine
end
section
open PySem PySem.W PyProof.Rows PySem.Calls
namespace Mine
variable{Wn n:Nat}{call:Hd}{sl aB sl2 lZ:List Slot}
noncomputable def fL:List Nat->List Nat
 | []=>[]
 |x::xs=>if fL xs=[]/\x=0 then [] else x::fL xs
theorem uf:∀xs:List Nat,fL (xs++ [0])=fL xs
 | []=>rfl
 |x::xs=>by
  show(if fL (xs++ [0])=[]/\x=0 then [] else x::fL (xs++ [0]))=_
  rw[uf xs];rfl
theorem ug{x:Nat}(hx:x≠0):∀xs:List Nat,fL (xs++ [x])=xs++ [x]
 | []=>by
  show(if fL []=[]/\x=0 then [] else x::fL [])=_
  rw[if_neg λ q=>hx q.2];rfl
 |y::xs=>by
  show(if fL (xs++ [x])=[]/\y=0 then [] else y::fL (xs++ [x]))=_
  rw[ug hx xs,if_neg λ q=>by simp at q];rfl
theorem uh:∀(k:Nat) (xs:List Nat),xs.length<=k->norm (xs.map λ x:Nat=>(x:Int))=(fL xs).map λ x:Nat=>(x:Int)
 |0,xs,h=>by
  have:=List.eq_nil_of_length_eq_zero (Nat.le_zero.mp h)
  rw[this];rfl
 |k+1,xs,h=>by
  rcases List.eq_nil_or_concat xs with e|⟨ys,y,e⟩
  ·rw[e];rfl
  ·rw[e] at h ⊢
   rw[List.concat_eq_append] at h ⊢
   rw[List.length_append,List.length_singleton] at h
   rw[List.map_append]
   show norm (ys.map _++ [(y:Int)])=_
   by_cases hy:y=0
   ·subst hy
    rw[uf]
    exact(qj _).trans (uh k ys (Nat.le_of_succ_le_succ h))
   ·rw[ug hy,qk (by exact xQ ‹_›),List.map_append];rfl
theorem eQ(w:Nat):∀xs:List Nat,ak w (fL xs)=ak w xs
 | []=>rfl
 |x::xs=>by
  have ih:=eQ w xs
  show ak w (if fL xs=[]/\x=0 then [] else x::fL xs)=x+2^w*ak w xs
  split
  ·rename_i h
   rw[h.1] at ih
   rw[h.2,<-ih];rfl
  ·show x+2^w*ak w (fL xs)=_
   rw[ih]
theorem jV:∀xs:List Nat,(fL xs).length<=xs.length
 | []=>Nat.le_refl _
 |x::xs=>by
  show(if fL xs=[]/\x=0 then [] else x::fL xs).length<=_
  split
  ·exact Nat.zero_le _
  ·exact Nat.succ_le_succ (jV xs)
noncomputable def NL(w:Nat):List Nat->Prop
 | []=>True
 |x::xs=>x<2^w/\NL w xs/\(xs=[]->x≠0)
theorem oZ{w:Nat}:∀{xs:List Nat},NL w xs->∀x∈xs,x<2^w
 | [],_,_,h=>nomatch h
 |y::ys,h,x,hx=>by
  cases hx with
  |head=>exact h.1
  |tail _ hx=>exact oZ h.2.1 x hx
theorem rM{w:Nat}:∀xs:List Nat,(∀x∈xs,x<2^w)->NL w (fL xs)
 | [],_=>trivial
 |x::xs,h=>by
  show NL w (if fL xs=[]/\x=0 then [] else x::fL xs)
  split
  ·trivial
  ·rename_i k
   exact⟨h x (UG ..),rM xs λ y hy=>h y (UK _ hy),λ e q=>k ⟨e,q⟩⟩
theorem DJ{w:Nat}:∀{xs:List Nat},NL w xs->fL xs=xs
 | [],_=>rfl
 |x::xs,h=>by
  show(if fL xs=[]/\x=0 then [] else x::fL xs)=_
  rw[DJ h.2.1,if_neg λ q=>h.2.2 q.1 q.2]
theorem ui{w:Nat}(hw:1<=w):∀(j m:Nat),m<2^j->NL w (aw w j m)
 |0,_,_=>trivial
 |j+1,m,h=>by
  unfold aw
  split
  ·trivial
  ·rename_i h0
   have hb:2<=2^w:=UP (n:=2) (by decide) hw
   have gA:m/2^w<2^j:=by
    rw[Nat.div_lt_iff_lt_mul (Nat.two_pow_pos w)]
    exact UO (by rw[<-Nat.pow_succ];exact h) (Nat.mul_le_mul_left (2^j) hb)
   refine⟨Nat.mod_lt _ (Nat.two_pow_pos w),ui hw j _ gA,λ e q=>?_⟩
   have h1:=cq hw j _ gA
   rw[e] at h1
   have h1:0=m/2^w:=h1
   have h2:=Nat.mod_add_div m (2^w)
   rw[q,<-h1] at h2
   lia
theorem o4{w:Nat}:∀{xs:List Nat},NL w xs->xs≠[]->0<ak w xs
 | [],_,h=>absurd rfl h
 |x::xs,h,_=>by
  show 0<x+2^w*ak w xs
  by_cases e:xs=[]
  ·have:=h.2.2 e;lia
  ·have:=Nat.mul_pos (Nat.two_pow_pos w) (o4 h.2.1 e);lia
theorem xA{w:Nat}(hw:1<=w):∀{xs:List Nat} (j:Nat),NL w xs->ak w xs<2^j->xs=aw w j (ak w xs)
 | [],j,_,_=>by cases j<;> rfl
 |x::xs,0,h,hj=>by
  have:=o4 h (λ q=>nomatch q)
  lia
 |x::xs,j+1,h,hj=>by
  have hp:=o4 h (λ q=>nomatch q)
  have hb:2<=2^w:=UP (n:=2) (by decide) hw
  have e:ak w (x::xs)=x+2^w*ak w xs:=rfl
  have hd:(x+2^w*ak w xs)/2^w=ak w xs:=by
   rw[Nat.add_mul_div_left _ _ (Nat.two_pow_pos w),Nat.div_eq_of_lt h.1,Nat.zero_add]
  have hm:(x+2^w*ak w xs)%2^w=x:=by
   rw[Nat.add_mul_mod_self_left,Nat.mod_eq_of_lt h.1]
  have gA:ak w xs<2^j:=by
   rw[e] at hj
   have:ak w xs*2<=2^w*ak w xs:=by rw[Nat.mul_comm];exact Nat.mul_le_mul_right _ hb
   rw[Nat.pow_succ] at hj
   lia
  have ih:=xA hw j h.2.1 gA
  unfold aw
  rw[e] at hp ⊢
  rw[if_neg (by exact Nat.ne_of_gt ‹_›),hm,hd,<-ih]
theorem jE{w:Nat}:∀{xs:List Nat},(∀x∈xs,x<2^w)->ak w xs<2^(w*xs.length)
 | [],_=>by show 0<2^(w*0);rw[Nat.mul_zero];decide
 |x::xs,h=>by
  have ih:=jE (xs:=xs) λ y hy=>h y (UK _ hy)
  have hx:=h x (UG ..)
  show x+2^w*ak w xs<2^(w*(xs.length+1))
  rw[pow_step,Nat.mul_comm (2^(w*xs.length))]
  have:=Nat.mul_le_mul_left (2^w) (Nat.succ_le_of_lt ih)
  rw[Nat.mul_succ] at this
  lia
theorem rN{w:Nat}:∀{xs:List Nat},NL w xs->xs≠[]->2^(w*(xs.length-1))<=ak w xs
 | [],_,h=>absurd rfl h
 | [x],h,_=>by
  show 2^(w*0)<=x+2^w*0
  have:=h.2.2 rfl
  rw[Nat.mul_zero];lia
 |x::y::ys,h,_=>by
  have ih:=rN h.2.1 (λ q=>nomatch q)
  show 2^(w*(ys.length+1))<=x+2^w*ak w (y::ys)
  have ih:2^(w*ys.length)<=ak w (y::ys):=ih
  rw[pow_step,Nat.mul_comm (2^(w*ys.length))]
  exact Nat.le_trans (Nat.mul_le_mul_left _ ih) (Nat.le_add_left _ _)
theorem fX(xs:List Nat)(hl:xs.length<99999)(hW:xs.length<Wn):ao prog Wn (n+1) (.fn 103) none [.seq false (ns xs)]=some (.ok (.seq false (ns (fL xs))) []):=by
 have h:=CY (Wn:=Wn) (n:=n) (xs.map λ x:Nat=>(x:Int)) (by rw[List.length_map];exact Nat.lt_trans hl (by decide)) (by rw[List.length_map];exact hW)
 rw[uh xs.length xs (Nat.le_refl _),<-nE,<-nE] at h
 exact h
theorem Mz(xs:List Nat)(k:Nat)(hl:xs.length<99999)(hW:xs.length<Wn)(hk:k<=xs.length):ao prog Wn (n+2) (.fn 297) none [.seq false (ns xs),.int k]=some (.ok (.seq false (ns (fL (xs.take k)))) []):=by
 rw[aE (fn:=jq) rfl]
 refine aS rfl rfl (by decide) ?_
 apply Exists.intro
 show aU _ _ jo [VS xs,VI k]=_
 have s1:=rq (xs:=ns xs) (k:=k) (by rw[bh];exact Nat.lt_trans hl (by decide)) (by rw[bh];exact hk)
 rw[xa] at s1
 exact aH (aY (aF (aa (jP (ae rfl) (ae rfl) s1) aq) (fX (xs.take k) (by rw[List.length_take];lia) (by rw[List.length_take];lia))))
theorem uj{xs:List V}{k:Nat}(h:xs.length<bL)(hk:xs.length<=k):fZ none (some (k:Int)) (.seq false xs)=some (.seq false xs):=by
 show(if dO xs then some (V.seq false (pick xs none (some (k:Int)))) else none)=_
 rw[if_pos (show dO xs=true from UJ h)]
 congr 2
 unfold pick
 have e1:kms_lo none xs.length=0:=rfl
 have e2:kms_hi (some (k:Int)) xs.length=xs.length:=by
  show(if (k:Int)<0 then xs.length-(-(k:Int)).toNat else min (k:Int).toNat xs.length)=xs.length
  rw[if_neg (by lia),Int.toNat_natCast,Nat.min_eq_right hk]
 rw[e1,e2];simp
theorem wb(xs:List Nat)(k:Nat)(hl:xs.length<99999)(hW:xs.length<Wn):ao prog Wn (n+2) (.fn 297) none [.seq false (ns xs),.int k]=some (.ok (.seq false (ns (fL (xs.take k)))) []):=by
 by_cases hk:k<=xs.length
 ·exact Mz xs k hl hW hk
 ·rw[aE (fn:=jq) rfl]
  refine aS rfl rfl (by decide) ?_
  apply Exists.intro
  show aU _ _ jo [VS xs,VI k]=_
  have s1:=uj (xs:=ns xs) (k:=k) (by rw[bh];exact Nat.lt_trans hl (by decide)) (by rw[bh];lia)
  rw[List.take_of_length_le (by lia)]
  exact aH (aY (aF (aa (jP (ae rfl) (ae rfl) s1) aq) (fX xs hl hW)))
noncomputable def kf(n w:Nat):Bool:=(List.range (2^(w-1))).all λ k=>match ao prog 400 (n+1) (.fn 290) none [.int ((2*k+1:Nat):Int),.int w] with
 |some (.ok (.int r) [])=>decide (0<=r)&&decide (r.toNat<2^w)&&decide ((r.toNat*(2*k+1))%2^w=1)
 |_=>false
theorem inv_1(n:Nat):kf n 1=true:=by kernel_rfl
theorem inv_2(n:Nat):kf n 2=true:=by kernel_rfl
theorem inv_3(n:Nat):kf n 3=true:=by kernel_rfl
theorem inv_4(n:Nat):kf n 4=true:=by kernel_rfl
theorem inv_5(n:Nat):kf n 5=true:=by kernel_rfl
theorem inv_6(n:Nat):kf n 6=true:=by kernel_rfl
theorem inv_7(n:Nat):kf n 7=true:=by kernel_rfl
theorem inv_8(n:Nat):kf n 8=true:=by kernel_rfl
theorem inv_9(n:Nat):kf n 9=true:=by kernel_rfl
theorem Gl(n:Nat){w:Nat}(h1:1<=w)(h:w<=9):kf n w=true:=by
 match w,h1,h with
 |1,_,_=>exact inv_1 n
 |2,_,_=>exact inv_2 n
 |3,_,_=>exact inv_3 n
 |4,_,_=>exact inv_4 n
 |5,_,_=>exact inv_5 n
 |6,_,_=>exact inv_6 n
 |7,_,_=>exact inv_7 n
 |8,_,_=>exact inv_8 n
 |9,_,_=>exact inv_9 n
set_option tactic.hygienic true in
theorem Hi{w d:Nat}(h1:1<=w)(h:w<=9)(hd:d<2^w)(ho:d%2=1):∃r,r<2^w/\(r*d)%2^w=1/\ao prog 400 (n+1) (.fn 290) none [.int d,.int w]=some (.ok (.int (r:Nat)) []):=by
 obtain⟨k,rfl⟩:∃k,d=2*k+1:=⟨d/2,by lia⟩
 have hk:k<2^(w-1):=by
  have:2^w=2*2^(w-1):=by rw[<-Nat.pow_succ'];congr 1;lia
  lia
 have:=List.all_eq_true.mp (Gl n h1 h) k (List.mem_range.mpr hk)
 split at this
 ·rename_i r e
  simp only [Bool.and_eq_true,decide_eq_true_eq] at this
  obtain⟨⟨a,b⟩,c⟩:=this
  exact⟨r.toNat,b,c,by rw[e,Int.toNat_of_nonneg a]⟩
 ·exact kh this
theorem wc{d w:Nat}(h:d%2=0):ao prog Wn (n+1) (.fn 290) none [.int d,.int w]=some (.exc 82 .none):=by
 rw[aE (fn:=jn) rfl]
 refine dN rfl rfl (by decide) ?_
 show aU _ _ gm [VI d,VI w,.af,.af,.af]=_
 unfold gm
 refine cZ (aX (ay (az (ae rfl) ah (mod_int (by decide))) ah (bw (tt ?_))) (cZ (rz ah)))
 have e:Int.fmod (d:Int) 2=((d%2:Nat):Int):=tI d 1
 rw[e,h];rfl
theorem DK{i j:Nat}{x:X}{b:Ss}{ys:List V}{r:Option F}(h:Ok call x sl (.seq false ys) aB)(hl:ys.length<bL)(h2:bW (aU call Wn b) (λ x sl=>match x with| .seq true vs=>cz sl [i,j] (vs.map .val)|_=>none) (gb 0 ys) aB=r):ex call Wn (.xS i j x b) sl=r:=by
 show(aW (ev call x sl) λ a sl=>match a with
  | .seq false ys=>if dO ys then bW (aU call Wn b) (λ x sl=>match x with| .seq true vs=>cz sl [i,j] (vs.map .val)|_=>none) (gb 0 ys) sl else none
  |_=>none)=_
 rw[h]
 show(if dO ys then _ else none)=_
 rw[if_pos (show dO ys=true from UJ hl)]
 exact h2
theorem xB{b:List Slot->Option F}{de:V->List Slot->Option (List Slot)}{x v:V}{xs:List V}(h:de x sl=some aB)(h2:b aB=some (.ret v sl2)):bW b de (x::xs) sl=some (.ret v sl2):=by
 show(de x sl).bind _=_
 rw[h]
 show(match b aB with
  |some (.next sl)=>bW b de xs sl
  |some (.cont sl)=>bW b de xs sl
  |r=>r)=_
 rw[h2]
theorem uk{x:X}{i:Int}(h:Ok call x sl (.int i) aB):Ok call (.ki x) sl (.int (intBits i)) aB:=by
 show(au (ev call x sl) λ a sl=>(nu a).map (R.ok · sl))=_
 rw[h];rfl
theorem Gm:∀k,k<256->Builtin.bitAnd ((2*k+1:Nat):Int) (-((2*k+1:Nat):Int))=1:=by
 have h:(List.range 256).all (λ k=>decide (Builtin.bitAnd ((2*k+1:Nat):Int) (-((2*k+1:Nat):Int))=1))=true:=by decide +kernel
 exact λ k hk=>UH (List.all_eq_true.mp h k (List.mem_range.mpr hk))
theorem DL:intBits 1=1:=by decide +kernel
theorem MA{w:Nat}(h:w<=64):wk (w:Nat)=true:=bI (k:=10) (by rw[Int.natAbs_natCast];exact UN h (by decide))
theorem xC{x w:Nat}{r:List Nat}(hx:x<512)(ho:x%2=1)(hl:r.length<9999)(hw:w<=64):ao prog Wn (n+1) (.fn 152) none [.seq false (ns (x::r)),.int w]=some (.ok (.int 0) []):=by
 have hL:bL=100000:=rfl
 obtain⟨k,rfl⟩:∃k,x=2*k+1:=⟨x/2,by lia⟩
 rw[aE (fn:=kx) rfl]
 refine aS rfl rfl (by decide) ⟨[.val (.seq false (ns ((2*k+1)::r))),VI w,.val (.int 0),.val (.int ((2*k+1:Nat):Int))],?_⟩
 show aU _ _ gj [.val (.seq false (ns ((2*k+1)::r))),VI w,.af,.af]=_
 unfold gj
 refine aH (DK (ys:=ns ((2*k+1)::r)) (ae rfl) (by rw[bh,List.length_cons];lia) ?_)
 refine xB (aB:=[.val (.seq false (ns ((2*k+1)::r))),VI w,.val (.int 0),.val (.int ((2*k+1:Nat):Int))]) rfl ?_
 have lb:dz .and (.int ((2*k+1:Nat):Int)) (.int (-((2*k+1:Nat):Int)))=some (.int 1):=congrArg (λ q=>some (V.int q)) (Gm k (by lia))
 have z0:dz .mul (.int 0) (.int w)=some (.int 0):=(mul_int (bI (k:=1) (by decide)) (MA hw)).trans (by rw[Int.zero_mul])
 exact aH (aX (ay (ae rfl) ah (cmp_gt (tt (by exact rY (Nat.succ_pos _))))) (aH (aY (az (v:= .int 0) (az (v:= .int 1) (az (ae rfl) (ae rfl) z0) (uk (i:=1) (az (ae rfl) (hU (ae rfl)) lb)) (by rw[DL];rfl)) ah rfl))))
theorem trail_2(n:Nat){w:Nat}(h1:1<=w)(h:w<=9):ao prog 400 (n+1) (.fn 152) none [.seq false (ns (aw w 64 2)),.int w]=some (.ok (.int 1) []):=by
 match w,h1,h with
 |1,_,_=>kernel_rfl
 |2,_,_=>kernel_rfl
 |3,_,_=>kernel_rfl
 |4,_,_=>kernel_rfl
 |5,_,_=>kernel_rfl
 |6,_,_=>kernel_rfl
 |7,_,_=>kernel_rfl
 |8,_,_=>kernel_rfl
 |9,_,_=>kernel_rfl
theorem zf(a b:Nat):Builtin.bitOr (a:Int) (b:Int)=((a ||| b:Nat):Int):=by
 have na:∀c:Nat,Builtin.bitNot (c:Int)= -(c:Int)-1:=λ c=>rfl
 have h:∀c:Nat,decide (0<=Builtin.bitNot (c:Int))=false:=λ c=>UM (by rw[na];lia)
 have nn:∀c:Nat,Builtin.bitNot (Builtin.bitNot (c:Int))=(c:Int):=λ c=>by rw[na];show -(-(c:Int)-1)-1=_;lia
 unfold Builtin.bitOr Builtin.bitAnd
 rw[h,h]
 show Builtin.bitNot (Builtin.bitNot (((Builtin.bitNot (Builtin.bitNot (a:Int))).toNat ||| (Builtin.bitNot (Builtin.bitNot (b:Int))).toNat:Nat):Int))=_
 rw[nn,nn,nn,Int.toNat_natCast,Int.toNat_natCast]
noncomputable def Qm:Ss:=(.cons (.asg 8 (.ik (.aC .lt (.bin .add (.ai 3) (.av (.int 1))) (.bu 0)) (.aZ 0 (.bin .add (.ai 3) (.av (.int 1)))) (.av (.int 0))))
  (.cons (.app 6 (.bin .and (.bin .or (.bin .shr (.aZ 0 (.ai 3)) (.ai 5)) (.bin .shl (.ai 8) (.bin .sub (.ai 2) (.ai 5)))) (.ai 7)))
  .nil))
noncomputable def um(a:List Nat)(w:Nat)(z:Slot)(f:List Nat)(y:Slot):List Slot:=[VS a,.val (.int 0),VI w,z,.val (.int 0),.val (.int 0),.own (ns f),.val (.int ((2^w-1:Nat):Int)),y]
theorem Gn{a f:List Nat}{w i x:Nat}{y:Slot}(hw:w<=64)(hl:a.length<9999)(hf:f.length<9999)(hx:a[i]?=some x)(gA:∀x∈a,x<2^w)(hy:Frs y):
  ∃y',Frs y'/\aU call Wn Qm (um a w (VI i) f y)=some (.next (um a w (VI i) (f++ [x]) y')):=by
 have hL:bL=100000:=rfl
 have ab:∃u:Nat,u<2^w/\Ok call (.ik (.aC .lt (.bin .add (.ai 3) (.av (.int 1))) (.bu 0)) (.aZ 0 (.bin .add (.ai 3) (.av (.int 1)))) (.av (.int 0))) (um a w (VI i) f y) (.int u) (um a w (VI i) f y):=by
  by_cases h:i+1<a.length
  ·have e:=UT h
   exact⟨a[i+1],gA _ (List.getElem_mem h),fA (ay (az (ae rfl) ah rfl) (aK rfl (du (by exact cD ‹_› (by decide)))) (cF (tt (by lia)))) (bc rfl (az (v:= .int ((i+1:Nat):Int)) (ae rfl) ah rfl) (eN (by exact cD ‹_› (by decide)) e))⟩
  ·exact⟨0,Nat.two_pow_pos w,fK (ay (az (ae rfl) ah rfl) (aK rfl (du (by exact cD ‹_› (by decide)))) (cF (ff (by lia)))) ah⟩
 refine aV ?_ ab;clear ab;intro u hu ab
 have Tf:=gA x (List.mem_of_getElem? hx)
 have v1:dz .shr (.int x) (.int 0)=some (.int x):=(jS (by decide)).trans (by show some (V.int (Int.fdiv (x:Int) (2^0)))=_;rw[hY];simp)
 have v2:dz .shl (.int u) (.int ((w:Int)-0))=some (.int ((u*2^w:Nat):Int)):=(dq (by lia) (by lia) (bI (k:=64) (by rw[Int.natAbs_natCast];exact UO hu (UP (by decide) hw)))).trans (by
  rw[Int.sub_zero,Int.toNat_natCast,dE,Int.natCast_mul])
 have v3:dz .or (.int x) (.int ((u*2^w:Nat):Int))=some (.int ((x ||| u*2^w:Nat):Int)):=congrArg (λ q=>some (V.int q)) (zf x (u*2^w))
 have v4:(x ||| u*2^w)%2^w=x:=by
  rw[Nat.or_mod_two_pow,Nat.mod_eq_of_lt Tf,Nat.mul_mod_left,Nat.or_zero]
 refine⟨VI u,cu,aj (aB:=um a w (VI i) f (VI u)) (bq ab (cG (a:=[VS a,.val (.int 0),VI w,VI i,.val (.int 0),.val (.int 0),.own (ns f),.val (.int ((2^w-1:Nat):Int))]) (b:=[]) hy)) (aj (iR rfl (az (az (az (bc rfl (ae rfl) (eN (by exact cD ‹_› (by decide)) hx)) (ae rfl) v1) (az (ae rfl) (az (ae rfl) (ae rfl) rfl) v2) v3) (ae rfl) (jC w _)) (eG rfl (by rw[bh];exact cD ‹_› (by decide)))) ?_)⟩
 rw[v4,gH];rfl
theorem xD{a:List Nat}{w:Nat}(hw:w<=64)(hl:a.length<9999)(gA:∀x∈a,x<2^w):∀(k i:Nat) (z y:Slot),i+k=a.length->Frs z->Frs y->
  ∃z' y',bW (aU call Wn Qm) (λ x sl=>bg sl 3 (.val x)) (upTo i k) (um a w z (a.take i) y)=some (.next (um a w z' a y'))
 |0,i,z,y,hi,_,_=>by
  have hi:i=a.length:=hi
  rw[hi,List.take_length]
  exact⟨z,y,rfl⟩
 |k+1,i,z,y,hi,hz,hy=>by
  have hx:=UT (show i<a.length by exact J5 ‹_›)
  refine aV (λ y' h1 h2=>?_)<|Gn (call:=call) (Wn:=Wn) (f:=a.take i) (y:=y) hw hl (by rw[List.length_take];lia) hx gA hy
  refine Ej (λ z2 y2 h3=>?_)<|xD hw hl gA k (i+1) (VI i) y' (by exact Gw ‹_›) cu h1
  refine⟨z2,y2,?_⟩
  rw[dG]
  rw[take_succ_get hx] at h3
  exact kK (cG (a:=[VS a,.val (.int 0),VI w]) (b:=[.val (.int 0),.val (.int 0),.own (ns (a.take i)),.val (.int ((2^w-1:Nat):Int)),y]) hz) h2 h3
theorem uo{a:List Nat}{w:Nat}(h1:1<=w)(hw:w<=64)(hl:a.length<9999)(hW:a.length<Wn)(h:NL w a):ao prog Wn (n+2) (.fn 145) none [.seq false (ns a),.int 0,.int w]=some (.ok (.seq false (ns a)) []):=by
 have hL:bL=100000:=rfl
 refine Ej (λ z y Tg=>?_)<|xD (call:=ao prog Wn (n+1)) (Wn:=Wn) hw hl (oZ h) a.length 0 .af .af (Nat.zero_add _) eh eh
 rw[aE (fn:=j8) rfl]
 refine aS rfl rfl (by decide) ?_
 apply Exists.intro
 show aU _ _ gN [VS a,.val (.int 0),VI w,.af,.af,.af,.af,.af,.af]=_
 unfold gN
 have w0:(w:Int)≠0:=by lia
 have q1:dz .fdiv (.int 0) (.int w)=some (.int 0):=(oL w0 (by lia)).trans (by rw[Int.zero_fdiv])
 have q2:dz .mod (.int 0) (.int w)=some (.int 0):=(mod_int w0).trans (by rw[Int.zero_fmod])
 refine aj (dY (aa (az (ae rfl) (ae rfl) q1) (aa (az (ae rfl) (ae rfl) q2) aq)) rfl) ?_
 refine aj (dY (vs:=[.seq false [],.int (1*2^w-1)]) (aa (bR aq rfl) (aa (az (az ah (ae rfl) (dq (by exact mv (Nat.zero_le _)) (by exact zz (iT ‹_› (by decide))) eZ)) ah ?_) aq)) rfl) ?_
 ·rw[Int.toNat_natCast];rfl
 rw[jB]
 refine aj (aB:=um a w z a y) (jA (vs:=[.int (0:Nat),.int (a.length:Nat)]) (aa (ae rfl) (aa (aK rfl (du (by lia))) aq)) (jT (i:=0) (k:=a.length) (by decide) (by lia)) ?_) ?_
 ·rw[dt,Nat.sub_zero];exact Tg
 ·have:=fX (Wn:=Wn) (n:=n) a (by lia) hW
  rw[DJ h] at this
  exact aH (aY (aF (aa (hH rfl) aq) this))
theorem mr(w:Nat):∀(xs:List Nat) (i d r:Nat),xs[i]?=some r->ak w (xs.set i d)+r*2^(w*i)=ak w xs+d*2^(w*i)
 | [],i,d,r,h=>by cases h
 |x::xs,0,d,r,h=>by
  have h:=Option.some.inj h
  subst h
  show d+2^w*ak w xs+x*2^(w*0)=x+2^w*ak w xs+d*2^(w*0)
  rw[Nat.mul_zero,Nat.pow_zero];lia
 |x::xs,i+1,d,r,h=>by
  have ih:=mr w xs i d r h
  show x+2^w*ak w (xs.set i d)+r*2^(w*(i+1))=x+2^w*ak w xs+d*2^(w*(i+1))
  rw[pow_step,Nat.mul_comm (2^(w*i)),Nat.mul_left_comm r,Nat.mul_left_comm d,Nat.add_assoc,Nat.add_assoc,<-Nat.mul_add,<-Nat.mul_add,ih]
theorem uq{B r t:Nat}(hB:0<B)(hr:r<B):∃d q:Nat,d<B/\r+B*q=t+d/\Int.fmod ((r:Int)-(t:Int)) (B:Nat)=(d:Nat)/\-(Int.fdiv ((r:Int)-(t:Int)) (B:Nat))=(q:Nat):=by
 have hb:(0:Int)<(B:Nat):=by exact rY ‹_›
 have h1:=Int.fmod_nonneg_of_pos ((r:Int)-(t:Int)) hb
 have h2:=Int.fmod_lt_of_pos ((r:Int)-(t:Int)) hb
 have h3:=Int.mul_fdiv_add_fmod ((r:Int)-(t:Int)) (B:Nat)
 revert h1 h2 h3
 generalize Int.fmod ((r:Int)-(t:Int)) (B:Nat)=m
 generalize Int.fdiv ((r:Int)-(t:Int)) (B:Nat)=q
 intro h1 h2 h3
 have hq:q<=0:=by
  apply Int.not_lt.mp
  intro hq
  have:(B:Int)*1<=(B:Int)*q:=Int.mul_le_mul_of_nonneg_left (by lia) (by exact mv (Nat.le_of_lt ‹_›))
  lia
 refine⟨m.toNat,(-q).toNat,(Int.toNat_lt ‹_›).mpr ‹_›,?_,by exact Eq.symm (Int.toNat_of_nonneg ‹_›),by lia⟩
 have e:((B*(-q).toNat:Nat):Int)= -((B:Int)*q):=by
  rw[Int.natCast_mul,Int.toNat_of_nonneg (Int.neg_nonneg_of_nonpos hq),Int.mul_neg]
 exact QS ‹_› ‹_› e
noncomputable def o5(row b:List Nat)(br eo w:Nat)(z:Slot)(q at_:Nat)(l:Slot):List Slot:=
 [.aD (ns row),VS b,VI br,VI eo,VI w,z,.val (.int ((2^w:Nat):Int)),VI q,VI at_,l]
theorem DM{b:List Slot}{row:List Nat}{i d:Nat}(h:row.length<bL)(hi:i<row.length):sd (.aD (ns row)::b) 0 (i:Nat) (.int d)=some (.aD (ns (row.set i d))::b):=by
 show(if dO (ns row)&&decide (0<=(i:Int))&&decide ((i:Int)<(ns row).length) then some (.aD ((ns row).set (i:Int).toNat (.int d))::b) else none)=_
 have h1:dO (ns row)=true:=UJ (by rw[bh];exact h)
 have h2:decide (0<=(i:Int))=true:=UJ (Int.natCast_nonneg _)
 have h3:decide ((i:Int)<(ns row).length)=true:=UJ (by rw[bh];exact xP ‹_›)
 rw[h1,h2,h3]
 show some (Slot.aD ((ns row).set (i:Int).toNat (.int d))::b)=_
 rw[Int.toNat_natCast]
 unfold ns
 rw[List.map_set]
noncomputable def Lt(w:Nat)(xs:List Nat):Prop:=∀x∈xs,x<2^w
theorem Lt.set{w:Nat}{xs:List Nat}{i d:Nat}(h:Lt w xs)(hd:d<2^w):Lt w (xs.set i d):=λ x hx=>by
 rcases List.mem_or_eq_of_mem_set hx with h1|h1
 ·exact h x h1
 ·rw[h1];exact hd
section
variable{row b:List Nat}{br eo w q at_:Nat}{z l:Slot}
theorem xE{d q' r t:Nat}(hw:w<=9)(hl:row.length<9999)(hi:at_<row.length)(h1:Int.fmod ((r:Int)-(t:Int)) ((2^w:Nat):Int)=(d:Nat))(h2:-(Int.fdiv ((r:Int)-(t:Int)) ((2^w:Nat):Int))=(q':Nat)):
  aU call Wn (.cons (.mW 0 (.ai 8) (.bin .mod (.ai 9) (.ai 6))) (.cons (.asg 7 (.neg (.bin .fdiv (.ai 9) (.ai 6)))) (.cons (.asg 8 (.bin .add (.ai 8) (.av (.int 1)))) .nil))) (o5 row b br eo w z q at_ (.val (.int ((r:Int)-(t:Int)))))
   =some (.next (o5 (row.set at_ d) b br eo w z q' (at_+1) (.val (.int ((r:Int)-(t:Int)))))):=by
 have hL:bL=100000:=rfl
 have hp:=Nat.two_pow_pos w
 have G9:2^w<=2^9:=UP (by decide) hw
 have Qg:(2:Nat)^9=512:=by decide
 have w0:((2^w:Nat):Int)≠0:=by exact xQ (Nat.ne_of_gt ‹_›)
 refine aj (aB:=o5 (row.set at_ d) b br eo w z q at_ (.val (.int ((r:Int)-(t:Int))))) (C6 (v:= .int d) (az (ae rfl) (ae rfl) ((mod_int w0).trans (by rw[h1]))) rfl (ae rfl) (DM (by exact cD ‹_› (by decide)) hi)) ?_
 refine aj (aB:=o5 (row.set at_ d) b br eo w z q' at_ (.val (.int ((r:Int)-(t:Int))))) (bq (v:= .int q') (aB:=o5 (row.set at_ d) b br eo w z q at_ (.val (.int ((r:Int)-(t:Int))))) ?_ rfl) (aj (bq (v:= .int ((at_+1:Nat):Int)) (az (ae rfl) ah rfl) rfl) aM)
 rw[<-h2]
 exact hU (az (ae rfl) (ae rfl) (oL w0 (by rw[Int.natAbs_natCast];exact gy ‹_› (by decide))))
end
theorem MB{N0 N1 N2 Z r d q q1 p br B M P:Nat}(g:N1+r*P=N0+d*P)(f:N2+(br*M+q1)*(P*B)=N1+Z)(s:r+B*q1=br*p+q+d):N2+(br*(p+B*M)+q)*P=N0+Z:=by
 have e1:(br*M+q1)*(P*B)=br*(B*M)*P+B*q1*P:=by
  rw[Nat.add_mul,Nat.mul_left_comm br B M,Nat.mul_comm B (br*M),Nat.mul_assoc (br*M),Nat.mul_comm B P,Nat.mul_comm B q1,Nat.mul_assoc q1 B P,Nat.mul_comm B P]
 have e2:r*P+B*q1*P=br*p*P+q*P+d*P:=by rw[<-Nat.add_mul,s,Nat.add_mul,Nat.add_mul]
 rw[e1] at f
 rw[Nat.mul_add br,Nat.add_mul,Nat.add_mul]
 exact QQ g f e2
theorem Pd{r d e q u s:Nat}(h:r+d*q=u+e+s)(h1:e<2^20)(h2:s<512)(h4:u<=512*512)(h3:2*q<=d*q):q<2^20:=by lia
theorem DN{b0:List Nat}{br eo w:Nat}(hw:w<=9)(DO:br<2^w):∀(bs row:List Nat) (q at_:Nat) (z l:Slot),row.length<9999->at_+bs.length<=row.length->Lt w row->Lt w bs->q<2^20->Frs z->Frs l->
  ∃fR q' z' l',bW (aU call Wn (.cons (.asg 9 (.bin .sub (.bin .sub (.aZ 0 (.ai 8)) (.bin .mul (.ai 2) (.ai 5))) (.ai 7))) (.cons (.mW 0 (.ai 8) (.bin .mod (.ai 9) (.ai 6))) (.cons (.asg 7 (.neg (.bin .fdiv (.ai 9) (.ai 6)))) (.cons (.asg 8 (.bin .add (.ai 8) (.av (.int 1)))) .nil))))) (λ x sl=>bg sl 5 (.val x)) (ns bs) (o5 row b0 br eo w z q at_ l)
   =some (.next (o5 fR b0 br eo w z' q' (at_+bs.length) l'))/\Frs l'/\fR.length=row.length/\Lt w fR/\q'<2^20/\ak w fR+(br*ak w bs+q)*2^(w*at_)=ak w row+q'*2^(w*(at_+bs.length))
 | [],row,q,at_,z,l,h1,h2,h3,h4,h5,h6,h7=>⟨row,q,z,l,rfl,h7,rfl,h3,h5,by show _+(br*0+q)*_=_+q*2^(w*(at_+0));rw[Nat.mul_zero,Nat.zero_add,Nat.add_zero]⟩
 |p::bs,row,q,at_,z,l,h1,h2,h3,h4,h5,h6,h7=>by
  have hL:bL=100000:=rfl
  have h2:at_+(bs.length+1)<=row.length:=h2
  have hi:at_<row.length:=by exact QH ‹_›
  have hx:=UT hi
  have hr:=h3 _ (List.mem_of_getElem? hx)
  have hp:=h4 p (UG ..)
  have G9:2^w<=512:=UP (n:=2) (j:=9) (by decide) hw
  have Th:(2:Nat)^20=1048576:=by decide
  have hm:br*p<=512*512:=Nat.mul_le_mul (by lia) (by lia)
  refine Ku (λ d q1 s1 s2 s3 s4=>?_)<|uq (t:=br*p+q) (Nat.two_pow_pos w) hr
  have Pf:q1<2^20:=by
   have:1*q1<=2^w*q1:=Nat.mul_le_mul_right _ (Nat.two_pow_pos w)
   rcases Nat.lt_or_ge w 1 with h0|h0
   ·have:w=0:=by lia
    subst this
    have:br=0:=by lia
    subst this
    rw[Nat.zero_mul] at s2;lia
   ·have:2*q1<=2^w*q1:=Nat.mul_le_mul_right _ (UP (n:=2) (i:=1) (by decide) h0)
    exact Pd s2 h5 (UO s1 G9) hm this
  obtain⟨fR,q',z',l',f1,f2,f3,f4,f5,f6⟩:=DN hw DO bs (row.set at_ d) q1 (at_+1) (VI p) (.val (.int ((row[at_]:Int)-((br*p+q:Nat):Int)))) (by rw[List.length_set];exact h1) (by rw[List.length_set];exact QI ‹_›) (h3.set s1) (λ x hx=>h4 x (UK _ hx)) Pf cu cu
  refine⟨fR,q',z',l',?_,f2,by rw[f3,List.length_set],f4,f5,?_⟩
  ·refine kK (cG (a:=[.aD (ns row),VS b0,VI br,VI eo,VI w]) (b:=[.val (.int ((2^w:Nat):Int)),VI q,VI at_,l]) h6)
    (aj (bq (v:= .int ((row[at_]:Int)-((br*p+q:Nat):Int))) (az (az (jz (xs:=[]) rfl (ae rfl) rfl (eN (t:=false) (by exact cD ‹_› (by decide)) hx)) (az (ae rfl) (ae rfl) (mul_int (bI (k:=20) (by rw[Int.natAbs_natCast];lia)) (bI (k:=20) (by rw[Int.natAbs_natCast];lia)))) rfl) (ae rfl) ?_) (cG (a:=[.aD (ns row),VS b0,VI br,VI eo,VI w,VI p,.val (.int ((2^w:Nat):Int)),VI q,VI at_]) (b:=[]) h7)) (xE hw h1 hi s3 s4)) ?_
   ·show some (V.int ((row[at_]:Int)-(br:Int)*(p:Int)-(q:Int)))=_
    congr 2
    rw[Int.natCast_add,Int.natCast_mul];lia
   ·have e:at_+(p::bs).length=at_+1+bs.length:=by rw[List.length_cons];lia
    rw[e];exact f1
  ·have g:=mr w row at_ d _ hx
   have e:at_+(p::bs).length=at_+1+bs.length:=by rw[List.length_cons];lia
   rw[e]
   show ak w fR+(br*(p+2^w*ak w bs)+q)*2^(w*at_)=_
   rw[pow_step] at f6
   exact MB g f6 s2
theorem DP{b0:List Nat}{br eo w:Nat}{z:Slot}(hw:w<=9):∀(k j at_ q:Nat) (row:List Nat) (l:Slot),at_+k=row.length->k<j->row.length<9999->Lt w row->q<2^20->Frs l->
  ∃fR q' at' l',cS (iW call (.and (.cons (.aC .gt (.ai 7) (.av (.int 0))) (.cons (.aC .lt (.ai 8) (.bu 0)) .nil)))) (aU call Wn (.cons (.asg 9 (.bin .sub (.aZ 0 (.ai 8)) (.ai 7))) (.cons (.mW 0 (.ai 8) (.bin .mod (.ai 9) (.ai 6))) (.cons (.asg 7 (.neg (.bin .fdiv (.ai 9) (.ai 6)))) (.cons (.asg 8 (.bin .add (.ai 8) (.av (.int 1)))) .nil))))) j (o5 row b0 br eo w z q at_ l)
   =some (.next (o5 fR b0 br eo w z q' at' l'))/\fR.length=row.length/\Lt w fR/\q'<2^20/\ak w fR+q*2^(w*at_)=ak w row+q'*2^(w*row.length)
 |k,j+1,at_,q,row,l,hk,hj,h1,h3,h5,h7=>by
  have hL:bL=100000:=rfl
  by_cases h0:q=0
  ·subst h0
   exact⟨row,0,at_,l,fo (eg (bY (ay (c:=false) (ae rfl) ah rfl) rfl)),rfl,h3,by decide,by rw[Nat.zero_mul,Nat.zero_mul]⟩
  ·have t1:gQ call (.aC .gt (.ai 7) (.av (.int 0))) (o5 row b0 br eo w z q at_ l) true (o5 row b0 br eo w z q at_ l):=ay (ae rfl) ah (cmp_gt (tt (by exact rY (Nat.pos_of_ne_zero ‹_›))))
   have ln:eH (.seq false (ns row))=some (.int (row.length:Nat)):=du (by exact cD ‹_› (by decide))
   cases k with
   |zero=>
    have hk:at_=row.length:=hk
    refine⟨row,q,at_,l,fo (eg (cy t1 (bY (ay (c:=false) (ae rfl) (aK rfl ln) (cF (ff (by lia)))) rfl))),rfl,h3,h5,by rw[hk]⟩
   |succ k=>
    have hi:at_<row.length:=by exact J5 ‹_›
    have hx:=UT hi
    have hr:=h3 _ (List.mem_of_getElem? hx)
    have G9:2^w<=512:=UP (n:=2) (j:=9) (by decide) hw
    have Th:(2:Nat)^20=1048576:=by decide
    refine Ku (λ d q1 s1 s2 s3 s4=>?_)<|uq (t:=q) (Nat.two_pow_pos w) hr
    have Pf:q1<2^20:=by
     rcases Nat.lt_or_ge w 1 with g0|g0
     ·have:w=0:=by lia
      subst this
      have:row[at_]=0:=by lia
      lia
     ·have:2*q1<=2^w*q1:=Nat.mul_le_mul_right _ (UP (n:=2) (i:=1) (by decide) g0)
      exact QT s2 h5 (UO s1 G9) this
    obtain⟨fR,q',at',l',f1,f3,f4,f5,f6⟩:=DP hw k j (at_+1) q1 (row.set at_ d) (.val (.int ((row[at_]:Int)-(q:Int)))) (by rw[List.length_set];exact Gw ‹_›) (by exact Nat.lt_of_succ_lt_succ ‹_›) (by rw[List.length_set];exact h1) (h3.set s1) Pf cu
    rw[List.length_set] at f3 f6
    refine⟨fR,q',at',l',tH (eg (cy t1 (cy (ay (c:=true) (ae rfl) (aK rfl ln) (cF (tt (by exact xP ‹_›)))) fj))) (aj (bq (v:= .int ((row[at_]:Int)-(q:Int))) (az (jz (xs:=[]) rfl (ae rfl) rfl (eN (t:=false) (by exact cD ‹_› (by decide)) hx)) (ae rfl) rfl) (cG (a:=[.aD (ns row),VS b0,VI br,VI eo,VI w,z,.val (.int ((2^w:Nat):Int)),VI q,VI at_]) (b:=[]) h7)) (xE hw h1 hi s3 s4)) f1,f3,f4,f5,?_⟩
    have g:=mr w row at_ d _ hx
    rw[pow_step] at f6
    exact QR g f6 (by rw[<-Nat.add_mul,<-s2,Nat.add_mul,Nat.mul_comm (2^(w*at_)) (2^w),<-Nat.mul_assoc,Nat.mul_comm q1 (2^w)])
theorem JQ{row b:List Nat}{br eo w:Nat}(hw:w<=9)(DO:br<2^w)(hl:row.length<9999)(hW:row.length<Wn)(hs:eo+b.length<=row.length)(h1:Lt w row)(h2:Lt w b):
  ∃fR q,ao prog Wn (n+1) (.fn 316) (some (ns row)) [.seq false (ns b),.int br,.int eo,.int w]=some (.ok (.int (q:Nat)) (ns fR))/\fR.length=row.length/\Lt w fR/\q<2^20/\
   ak w fR+br*ak w b*2^(w*eo)=ak w row+q*2^(w*row.length):=by
 have hL:bL=100000:=rfl
 refine Ng (λ r1 q1 z1 l1 a1 a2 a3 a4 a5 a6=>?_)<|DN (call:=ao prog Wn n) (Wn:=Wn) (b0:=b) (br:=br) (eo:=eo) hw DO b row 0 eo .af .af hl hs h1 h2 (by decide) eh eh
 refine Hp (λ r2 q2 at2 l2 b1 b3 b4 b5 b6=>?_)<|DP (call:=ao prog Wn n) (Wn:=Wn) (b0:=b) (br:=br) (eo:=eo) (z:=z1) hw (row.length-(eo+b.length)) Wn (eo+b.length) q1 r1 l1 (by rw[a3];exact Nat.add_sub_cancel' ‹_›) (by exact UN (Nat.sub_le _ _) ‹_›) (by rw[a3];exact hl) a4 a5 a2
 rw[a3] at b3 b6
 refine⟨r2,q2,?_,b3,b4,b5,by rw[Nat.add_zero] at a6;exact QO a6 b6⟩
 rw[aE (fn:=jr) rfl]
 refine ie rfl rfl (by decide) ⟨[VS b,VI br,VI eo,VI w,z1,.val (.int ((2^w:Nat):Int)),VI q2,VI at2,l2],?_⟩
 show aU _ _ gn [.aD (ns row),VS b,VI br,VI eo,VI w,.af,.af,.af,.af,.af]=_
 unfold gn
 refine aj (dY (vs:=[.int ((2^w:Nat):Int),.int 0,.int eo]) (aa (az ah (ae rfl) ((dq (by exact mv (Nat.zero_le _)) (by exact zz (iT ‹_› (by decide))) eZ).trans ?_)) (aa ah (aa (ae rfl) aq))) rfl) ?_
 ·rw[Int.one_mul,Int.toNat_natCast,dE]
 exact aj (kJ (t:=false) (ae rfl) (by rw[bh];lia) a1) (aj b1 (aH (aY (ae rfl))))
theorem JR{i k:Nat}{m b:X}{v:V}(h:Ok call (.fG k m b) sl v aB)(h2:bg aB i (.val v)=some sl2):ex call Wn (.uC i (.fG k m b)) sl=some (.next sl2):=by
 show(aW (ev call (.fG k m b) sl) λ v sl=>(bg sl i (.val v)).map F.next)=_
 rw[h];show(bg aB i (.val v)).map _=_;rw[h2];rfl
theorem rO(w:Nat):∀(xs:List Nat) (k:Nat),ak w (xs.take k)<=ak w xs
 | [],k=>by rw[List.take_nil];exact Nat.le_refl _
 |x::xs,0=>Nat.zero_le _
 |x::xs,k+1=>Nat.add_le_add_left (Nat.mul_le_mul_left _ (rO w xs k)) _
theorem DQ{w:Nat}:∀{xs:List Nat},Lt w xs->Lt w (fL xs):=λ h=>oZ (rM _ h)
theorem Lt.take{w:Nat}{xs:List Nat}(h:Lt w xs)(k:Nat):Lt w (xs.take k):=λ x hx=>h x (List.mem_of_mem_take hx)
theorem Lt.drop{w:Nat}{xs:List Nat}(h:Lt w xs)(k:Nat):Lt w (xs.drop k):=λ x hx=>h x (List.mem_of_mem_drop hx)
noncomputable def zg(a:List Nat)(k w:Nat)(t z:Slot):List Slot:=[VS a,VI k,VI w,.val (.int ((2^w-1:Nat):Int)),t,z]
theorem xF{a:List Nat}{k w:Nat}{t:Slot}(hl:a.length<9999)(ha:Lt w a):∀(m i:Nat) (z:Slot),∃ts z',compLoop 5 (ev call (.bin .sub (.ai 3) (.ik (.aC .lt (.ai 5) (.bu 0)) (.aZ 0 (.ai 5)) (.av (.int 0))))) (upTo i m) (zg a k w t z)=some (.ok (ns ts) (zg a k w t z'))/\ts.length=m/\Lt w ts
 |0,i,z=>⟨[],z,rfl,rfl,λ x hx=>nomatch hx⟩
 |m+1,i,z=>by
  have hL:bL=100000:=rfl
  have hp:=Nat.two_pow_pos w
  obtain⟨u,hu,e⟩:∃u,u<2^w/\Ok call (.ik (.aC .lt (.ai 5) (.bu 0)) (.aZ 0 (.ai 5)) (.av (.int 0))) (zg a k w t (VI i)) (.int (u:Nat)) (zg a k w t (VI i)):=by
   by_cases h:i<a.length
   ·have hx:=UT h
    exact⟨a[i],ha _ (List.getElem_mem h),fA (ay (ae rfl) (aK rfl (du (by exact cD ‹_› (by decide)))) (cF (tt (by exact xP ‹_›)))) (bc rfl (ae rfl) (eN (by exact cD ‹_› (by decide)) hx))⟩
   ·exact⟨0,hp,fK (ay (ae rfl) (aK rfl (du (by exact cD ‹_› (by decide)))) (cF (ff (by exact Gv ‹_›)))) ah⟩
  obtain⟨ts,z',h1,h2,h3⟩:=xF hl ha m (i+1) (VI i)
  refine⟨(2^w-1-u)::ts,z',?_,congrArg Nat.succ h2,λ x hx=>?_⟩
  ·rw[dG]
   refine rD (v:= .int ((2^w-1-u:Nat):Int)) (aB:=zg a k w t (VI i)) ?_ h1
   refine az (ae rfl) e ?_
   show some (V.int _)=some (V.int _)
   congr 2;exact MH (Nl ‹_›)
  ·cases hx with
   |head=>exact UN (Nat.sub_le _ _) (Nat.sub_lt ‹_› Nat.one_pos)
   |tail _ hx=>exact h3 x hx
theorem xG{a:List Nat}{k w:Nat}(hw:w<=64)(hl:a.length<9999)(hk:k<9999)(hW:k+10<Wn)(ha:Lt w a):
  ∃r,ao prog Wn (n+3) (.fn 302) none [.seq false (ns a),.int k,.int w]=some (.ok (.seq false (ns r)) [])/\ak w r<=2^(w*k)/\r.length<=k:=by
 have hL:bL=100000:=rfl
 refine ew (λ ts z h1 h2 h3=>?_)<|xF (call:=ao prog Wn (n+2)) (k:=k) (t:= .af) hl ha k 0 .af
 have h4:=fX (Wn:=Wn) (n:=n+1) ts (by lia) (by lia)
 have h5:=jV ts
 refine fY (λ r1 a1 a2 a3=>?_)<|w7 (Wn:=Wn) (n:=n+1) (a:=fL ts) (b:=[1]) (w:=w) (by exact iT ‹_› (by decide)) (by lia) (by decide)
 have a3:r1.length<=(fL ts).length+1+1:=a3
 have a4:=wb (Wn:=Wn) (n:=n) r1 k (by lia) (by lia)
 refine⟨fL (r1.take k),?_,?_,?_⟩
 ·rw[aE (fn:=lD) rfl]
  refine aS rfl rfl (by decide) ?_
  apply Exists.intro
  show aU _ _ iI [VS a,VI k,VI w,.af,.af,.af]=_
  unfold iI
  refine aj (bq (v:= .int ((2^w-1:Nat):Int)) (az (az ah (ae rfl) (dq (by exact mv (Nat.zero_le _)) (by exact zz (iT ‹_› (by decide))) eZ)) ah ?_) rfl) ?_
  ·rw[Int.toNat_natCast,<-jB];rfl
  refine aj (JR (xk (sl2:=zg a k w .af z) (vs:=ns ts) (ae rfl) (range_one (k:=k) (by exact cD ‹_› (by decide))) ?_) rfl) ?_
  ·have e:(bK 0 1 k).map V.int=upTo 0 k:=dt 0 k
   rw[e];exact h1
  exact aH (aY (aF (aa (aF (aa (aF (aa (ae rfl) aq) h4) (aa (bR (aa ah aq) rfl) (aa (ae rfl) aq))) a1) (aa (ae rfl) aq)) a4))
 ·rw[eQ]
  have q1:=rO w r1 k
  have q2:=jE h3
  rw[h2] at q2
  rw[eQ] at a2
  have e:ak w [1]=1:=rfl
  lia
 ·have:=jV (r1.take k)
  rw[List.length_take] at this
  exact Nm ‹_›
end Mine
end
section
open PySem PySem.W PyProof.Rows PySem.Calls
namespace Mine
variable{n:Nat}{call:Hd}{sl aB sl2 lZ:List Slot}
theorem jW(a b:Nat):Int.fmod (a:Int) (b:Nat)=((a%b:Nat):Int):=by
 rw[Int.fmod_eq_emod_of_nonneg _ (Int.natCast_nonneg _)]
 exact(Int.natCast_emod a b).symm
theorem ur{w:Nat}:∀{xs:List Nat} {k r:Nat},Lt w xs->xs[k]?=some r->(ak w xs/2^(w*k))%2^w=r
 | [],k,r,_,h=>by cases h
 |x::xs,0,r,h,e=>by
  have e:=Option.some.inj e
  subst e
  show((x+2^w*ak w xs)/2^(w*0))%2^w=x
  rw[Nat.mul_zero,Nat.pow_zero,Nat.div_one,Nat.add_mul_mod_self_left,Nat.mod_eq_of_lt (h x (UG ..))]
 |x::xs,k+1,r,h,e=>by
  have ih:=ur (xs:=xs) (k:=k) (r:=r) (λ y hy=>h y (UK _ hy)) e
  show((x+2^w*ak w xs)/2^(w*(k+1)))%2^w=r
  rw[pow_step,Nat.mul_comm (2^(w*k)),<-Nat.div_div_eq_div_mul,Nat.add_mul_div_left _ _ (Nat.two_pow_pos w),Nat.div_eq_of_lt (h x (UG ..)),Nat.zero_add]
  exact ih
theorem zh{w b0:Nat}{bs:List Nat}(L r v:Nat)(hv:(v*b0)%2^w=1%2^w)(hL:L=(r*v)%2^w):(L*ak w (b0::bs))%2^w=r%2^w:=by
 show(L*(b0+2^w*ak w bs))%2^w=_
 rw[Nat.mul_add,Nat.mul_left_comm,Nat.add_mul_mod_self_left,hL,Nat.mod_mul_mod,Nat.mul_assoc,Nat.mul_mod,hv,<-Nat.mul_mod,Nat.mul_one]
theorem DR{P B N0 N1 L Z:Nat}(hP:0<P)(h0:N0%P=0)(hd:(N0/P)%B=L%B)(h:N1+L*P=N0+Z)(hZ:Z%(P*B)=0):N1%(P*B)=0:=by
 have e0:N0=P*(N0/P):=by
  have:=Nat.mod_add_div N0 P
  lia
 have a1:(N1+L*P)%(P*B)=(L*P)%(P*B):=by
  rw[h,Nat.add_mod,hZ,Nat.add_zero,Nat.mod_mod,e0,Nat.mul_mod_mul_left,hd,<-Nat.mul_mod_mul_left,Nat.mul_comm P L]
 have a2:=Nat.sub_mod_eq_zero_of_mod_eq a1
 rw[Nat.add_sub_cancel] at a2
 exact a2
noncomputable def wd(a b:List Nat)(n0 w size:Nat)(z:Slot)(v:Nat)(row found:List Nat)(aD:Nat)(l:Slot):List Slot:=
 [VS a,VS b,VI n0,VI w,VI size,z,.af,VI v,.val (.int ((2^w:Nat):Int)),.own (ns row),.own (ns found),VI aD,l]
structure Dv(a b:List Nat)(w size i:Nat)(row found:List Nat)(aD:Nat):Prop where
 lr:Lt w row
 nr:row.length=size
 lf:Lt w found
 nf:found.length=i
 va:ak w row+ak w b*ak w found=ak w a+aD*2^(w*size)
 dv:ak w row%2^(w*i)=0
theorem xH{a bs:List Nat}{b0 n0 w size v:Nat}(gz:1<=w)(hw:w<=9)(hs:size<390)(hn:n0+(bs.length+1)<=size)(hb:Lt w (b0::bs))(hv:v<2^w)(MC:(v*b0)%2^w=1):
  ∀(k i:Nat) (row found:List Nat) (aD:Nat) (z l:Slot),i+k=n0->Frs z->Frs l->Dv a (b0::bs) w size i row found aD->
  ∃fR rP Gp z' l',bW (aU (ao prog 400 (n+1)) 400 (.cons (.asg 12 (.bin .mod (.bin .mul (.aZ 9 (.ai 5)) (.ai 7)) (.ai 8))) (.cons (.app 10 (.ai 12)) (.cons (.asg 11 (.bin .add (.ai 11) (.b8 316 "take_product" 9 (.cons (.ai 1) (.cons (.ai 12) (.cons (.ai 5) (.cons (.ai 3) .nil))))))) .nil)))) (λ x sl=>bg sl 5 (.val x)) (upTo i k) (wd a (b0::bs) n0 w size z v row found aD l)
   =some (.next (wd a (b0::bs) n0 w size z' v fR rP Gp l'))/\Dv a (b0::bs) w size n0 fR rP Gp
 |0,i,row,found,aD,z,l,hi,hz,hl,D=>by
  have hi:i=n0:=hi
  subst hi
  exact⟨row,found,aD,z,l,rfl,D⟩
 |k+1,i,row,found,aD,z,l,hi,hz,hl,D=>by
  have hL:bL=100000:=rfl
  have hp:=Nat.two_pow_pos w
  have G9:2^w<=512:=UP (n:=2) (j:=9) (by decide) hw
  have Ob:i<row.length:=by rw[D.nr];lia
  have Ti:row.length<bL:=by rw[D.nr];exact cD ‹_› (by decide)
  have hx:=UT Ob
  have hr:=D.lr _ (List.getElem_mem Ob)
  obtain⟨L,Pg⟩:∃L,L=(row[i]*v)%2^w:=⟨_,rfl⟩
  have Qn:L<2^w:=by rw[Pg];exact Nat.mod_lt _ hp
  refine Ek (λ JS q t1 t2 t3 t4 t5=>?_)<|JQ (Wn:=400) (n:=n) (row:=row) (b:=b0::bs) (br:=L) (eo:=i) hw Qn (by rw[D.nr];exact cD ‹_› (by decide)) (by rw[D.nr];exact cD ‹_› (by decide)) (by rw[D.nr,List.length_cons];lia) D.lr hb
  rw[D.nr] at t2 t5
  have Ph:1%2^w=1:=Nat.mod_eq_of_lt (UO (by decide) (UP (n:=2) (i:=1) (by decide) gz))
  have D1:Dv a (b0::bs) w size (i+1) JS (found++ [L]) (aD+q):=by
   refine⟨t3,t2,λ x hx=>?_,by rw[List.length_append,D.nf];rfl,?_,?_⟩
   ·rcases List.mem_append.mp hx with h|h
    ·exact D.lf x h
    ·rw[List.mem_singleton.mp h];exact Qn
   ·have va:=D.va
    rw[cO,D.nf]
    have e1:ak w (b0::bs)*(ak w found+2^(w*i)*L)=ak w (b0::bs)*ak w found+L*ak w (b0::bs)*2^(w*i):=by
     rw[Nat.mul_add,Nat.mul_comm (2^(w*i)) L,<-Nat.mul_assoc,Nat.mul_comm (ak w (b0::bs)) L]
    rw[e1,Nat.add_mul]
    exact QP t5 va
   ·rw[pow_step]
    refine DR (Nat.two_pow_pos _) D.dv ?_ t5 ?_
    ·rw[ur D.lr hx,zh L row[i] v (by rw[MC,Ph]) Pg,Nat.mod_eq_of_lt hr]
    ·have:w*size=w*(i+1)+w*(size-(i+1)):=by rw[<-Nat.mul_add];congr 1;lia
     rw[this,Nat.pow_add,pow_step,Nat.mul_left_comm]
     exact Nat.mul_mod_right _ _
  refine Nh (λ fR rP Gp z' l' f1 f2=>?_)<|xH gz hw hs hn hb hv MC k (i+1) JS (found++ [L]) (aD+q) (VI i) (VI L) (by exact Gw ‹_›) cu cu D1
  refine⟨fR,rP,Gp,z',l',?_,f2⟩
  rw[dG]
  have Jj:dz .mod (.int ((row[i]*v:Nat):Int)) (.int ((2^w:Nat):Int))=some (.int (L:Nat)):=(mod_int (by exact xQ (Nat.ne_of_gt ‹_›))).trans (by rw[jW,Pg])
  refine kK (cG (a:=[VS a,.val (.seq false (ns (b0::bs))),VI n0,VI w,VI size]) (b:=[.af,VI v,.val (.int ((2^w:Nat):Int)),.own (ns row),.own (ns found),VI aD,l]) hz) (aj (aB:=wd a (b0::bs) n0 w size (VI i) v row found aD (VI L)) (bq (v:= .int (L:Nat)) (az (v:= .int (L:Nat)) (az (v:= .int ((row[i]*v:Nat):Int)) (jz (xs:=[]) rfl (ae rfl) rfl (eN (t:=false) Ti hx)) (ae rfl) ((mul_int (bI (k:=20) (by rw[Int.natAbs_natCast];exact UO hr (Nat.le_trans G9 (by decide)))) (bI (k:=20) (by rw[Int.natAbs_natCast];exact UO hv (Nat.le_trans G9 (by decide))))).trans (by rw[Int.natCast_mul]))) (ae rfl) Jj)
   (cG (a:=[VS a,.val (.seq false (ns (b0::bs))),VI n0,VI w,VI size,VI i,.af,VI v,.val (.int ((2^w:Nat):Int)),.own (ns row),.own (ns found),VI aD]) (b:=[]) hl))
   (aj (aB:=wd a (b0::bs) n0 w size (VI i) v row (found++ [L]) aD (VI L)) (iR rfl (ae rfl) ((eG rfl (by rw[bh,D.nf];exact Nat.lt_trans ‹_› ‹_›)).trans (by rw[gH];rfl)))
   (aj (aB:=wd a (b0::bs) n0 w size (VI i) v JS (found++ [L]) (aD+q) (VI L)) (bq (v:= .int ((aD+q:Nat):Int)) (az (ae rfl) (jR rfl (aa (ae rfl) (aa (ae rfl) (aa (ae rfl) (aa (ae rfl) aq)))) rfl t1) rfl) rfl) aM))) f1
theorem qu(w:Nat):∀(xs ys:List Nat),ak w (xs++ys)=ak w xs+2^(w*xs.length)*ak w ys
 | [],ys=>by simp[ak]
 |x::xs,ys=>by
  show x+2^w*ak w (xs++ys)=x+2^w*ak w xs+2^(w*(xs.length+1))*ak w ys
  rw[qu w xs ys,pow_step,Nat.mul_add,Nat.mul_comm (2^(w*xs.length)) (2^w),Nat.mul_assoc,Nat.add_assoc]
theorem JT{xs ys:List Nat}(h:xs.length+ys.length<bL):dz .add (.seq false (ns xs)) (.seq false (ns ys))=some (.seq false (ns (xs++ys))):=by
 show(if isAdd .add=true/\false=false/\false=false/\(ns xs).length+(ns ys).length<bL then some (V.seq false (ns xs++ns ys)) else none)=_
 rw[if_pos ⟨rfl,rfl,rfl,by rw[bh,bh];exact h⟩,ns,ns,ns,List.map_append]
theorem JU{xs:List Nat}{k:Nat}(h:xs.length<bL)(hk:k<=xs.length):fZ (some (k:Int)) none (.seq false (ns xs))=some (.seq false (ns (xs.drop k))):=by
 rw[tR (by rw[bh];exact h) (by rw[bh];exact hk),ns,ns,List.map_drop]
theorem DS{a b:List Nat}{w:Nat}(ha:Lt w a):Dv a b w (a.length+1) 0 (a++ [0]) [] 0 where
 lr:=λ x hx=>by
  rcases List.mem_append.mp hx with h|h
  ·exact ha x h
  ·rw[List.mem_singleton.mp h];exact Nat.two_pow_pos w
 nr:=by rw[List.length_append];rfl
 lf:=λ x hx=>nomatch hx
 nf:=rfl
 va:=by rw[cO];show _+_+_*0=_;lia
 dv:=by rw[Nat.mul_zero,Nat.pow_zero,Nat.mod_one]
theorem we{n0 b a:Nat}(h:n0+(b+1)=a+1):n0<=a:=Nat.le_of_succ_le_succ (Nat.le_trans (Nat.add_le_add_left (Nat.succ_pos b) n0) (Nat.le_of_eq h))
theorem DT{a bs:List Nat}{b0 n0 w:Nat}(gz:1<=w)(hw:w<=9)(hl:a.length<380)(hn:n0+(bs.length+1)=a.length+1)(h0:1<=n0)(ha:Lt w a)(hb:Lt w (b0::bs))(ho:b0%2=1):
  ∃found row aD kg,ao prog 400 (n+5) (.fn 323) none [.seq false (ns a),.seq false (ns (b0::bs)),.int n0,.int w]=some (.ok (.seq true [.seq false (ns (fL found)),.bool (decide (0<aD)),.seq false (ns kg)]) [])/\Dv a (b0::bs) w (a.length+1) n0 row found aD/\(aD=0->kg=fL (row.drop n0))/\kg.length<=400:=by
 have hL:bL=100000:=rfl
 refine fY (λ v hv MC i1=>?_)<|Hi (n:=n+3) gz hw (hb b0 (UG ..)) ho
 refine Nh (λ row found aD z' l' k1 D=>?_)<|xH (n:=n+3) (size:=a.length+1) (n0:=n0) gz hw (by lia) (by exact Nat.le_of_eq ‹_›) hb hv MC n0 0 (a++ [0]) [] 0 .af .af (Nat.zero_add _) eh eh (DS (b:=b0::bs) ha)
 have Pj:=D.nr
 have Ul:=D.nf
 have Pk:a.length+1-n0<380:=UN (Nat.sub_le_sub_left h0 _) hl
 have GH:(row.drop n0).length<380:=by rw[List.length_drop,Pj];exact Pk
 have Um:n0<380:=UN (we hn) hl
 have Na:bs.length+1<381:=UN (Nat.le_trans (Nat.le_add_left _ n0) (Nat.le_of_eq hn)) (Nat.succ_lt_succ hl)
 have n1:=fX (Wn:=400) (n:=n+3) (row.drop n0) (by exact cD ‹_› (by decide)) (by exact cD ‹_› (by decide))
 have n2:=fX (Wn:=400) (n:=n+3) found (by lia) (by lia)
 have w1:=UN (jV (row.drop n0)) GH
 refine fY (λ r Pm Qo Tj=>?_)<|xG (Wn:=400) (n:=n+1) (a:=fL (row.drop n0)) (k:=a.length+1-n0) (w:=w) (by exact iT ‹_› (by decide)) (by exact cD ‹_› (by decide)) (cD Pk (by decide)) (cD (Nat.add_lt_add_right Pk 10) (by decide)) (DQ (D.lr.drop n0))
 have el:eH (.seq false (ns (b0::bs)))=some (.int ((bs.length+1:Nat):Int)):=du (ls:=b0::bs) (by show bs.length+1<_;exact cD ‹_› (by decide))
 have zH:eH (.seq false (ns a))=some (.int (a.length:Nat)):=du (by exact cD ‹_› (by decide))
 refine⟨found,row,aD,if 0<aD then r else fL (row.drop n0),?_,D,λ h=>by rw[h];rfl,by split<;> lia⟩
 rw[aE (fn:=fP) rfl]
 refine aS rfl rfl (by decide) ?_
 apply Exists.intro
 show aU _ _ dp [VS a,.val (.seq false (ns (b0::bs))),VI n0,VI w,.af,.af,.af,.af,.af,.af,.af,.af,.af]=_
 unfold dp
 have hx:cV (.seq false (ns (b0::bs))) (.int 0)=some (.int b0):=eN (i:=0) (ls:=b0::bs) (by show bs.length+1<_;exact cD ‹_› (by decide)) rfl
 refine aj (aN (fQ (cy (ay (aK rfl el) ah (bw (ff (by lia)))) (cy (ay (az (bc rfl ah hx) ah (mod_int (by decide))) ah (bw (c:=false) ?_)) fj))) aM) ?_
 ·have:=jW b0 2
  have e2:((2:Nat):Int)=2:=rfl
  rw[e2] at this
  rw[this,ho];rfl
 have M6:dz .shl (.int 1) (.int w)=some (.int ((2^w:Nat):Int)):=(dq (by exact mv (Nat.zero_le _)) (by exact zz (iT ‹_› (by decide))) eZ).trans (by rw[Int.toNat_natCast,Int.one_mul,dE])
 refine aj (aB:=[VS a,.val (.seq false (ns (b0::bs))),VI n0,VI w,.af,.af,.af,VI v,.val (.int ((2^w:Nat):Int)),.af,.af,.af,.af]) (dY (aa (aF (aa (bc rfl ah hx) (aa (ae rfl) aq)) i1) (aa (az ah (ae rfl) M6) aq)) rfl) ?_
 refine aj (aB:=[VS a,.val (.seq false (ns (b0::bs))),VI n0,VI w,.val (.int ((a.length+1:Nat):Int)),.af,.af,VI v,.val (.int ((2^w:Nat):Int)),.af,.af,.af,.af]) (bq (C5 (j:=((a.length+1:Nat):Int)) (aK rfl zH) (az (ae rfl) (aK rfl el) ?_)) ?_) ?_
 ·show some (V.int _)=some (V.int _)
  congr 2;lia
 ·rw[if_pos (show(a.length:Int)<((a.length+1:Nat):Int) by lia)]
  rfl
 refine aj (aB:=wd a (b0::bs) n0 w (a.length+1) .af v (a++ [0]) [] 0 .af) (dY (aa (az (ae rfl) (az (bR (aa ah aq) rfl) (az (v:= .int ((1:Nat):Int)) (ae rfl) (aK rfl zH) ?_) (xl (v:=0) (by decide))) (JT (ys:=[0]) (by show a.length+1<_;lia))) (aa (bR aq rfl) (aa ah aq))) rfl) ?_
 ·show some (V.int _)=some (V.int _)
  congr 2;lia
 refine aj (aB:=wd a (b0::bs) n0 w (a.length+1) z' v row found aD l') (jA (aa (ae rfl) aq) (range_one (k:=n0) (by exact cD ‹_› (by decide))) ?_) ?_
 ·have e:(bK 0 1 n0).map V.int=upTo 0 n0:=dt 0 n0
  rw[e]
  exact k1
 refine aj (bq (aF (aa (jQ (hH rfl) (ae rfl) (JU (by lia) (by lia))) aq) n1) rfl) ?_
 by_cases uB:0<aD
 ·rw[if_pos uB,UJ uB]
  refine aH (aX (ay (ae rfl) ah (cmp_gt (tt (by exact rY ‹_›)))) (aH (aY (dC (aa (aF (aa (hH rfl) aq) n2) (aa ah (aa (aF (aa (ae rfl) (aa (az (ae rfl) (ae rfl) ?_) (aa (ae rfl) aq))) Pm) aq))) rfl))))
  show some (V.int _)=some (V.int _)
  congr 2;exact MH (Nk ‹_›)
 ·rw[if_neg uB,UM uB]
  refine aj (aN (ay (ae rfl) ah (cmp_gt (ff (by lia)))) aM) ?_
  exact aH (aY (dC (aa (aF (aa (hH rfl) aq) n2) (aa ah (aa (ae rfl) aq))) rfl))
end Mine
end
section
open PySem PySem.W PyProof.Rows PySem.Calls
namespace Mine
variable{Wn n:Nat}{call:Hd}{sl aB sl2 lZ:List Slot}
theorem DU{x:Nat}(h:x<512)(h0:0<x):1<=intBits (Builtin.bitAnd (x:Int) (-(x:Int))):=by
 have e:(List.range 512).all (λ k=>decide (0<k->1<=intBits (Builtin.bitAnd (k:Int) (-(k:Int)))))=true:=by decide +kernel
 exact UH (List.all_eq_true.mp e x (List.mem_range.mpr h)) h0
noncomputable def Tn:Ss:=(.cons (.ite (.aC .gt (.ai 3) (.av (.int 0))) (.cons (.ret (.bin .sub (.bin .add (.bin .mul (.ai 2) (.ai 1)) (.ki (.bin .and (.ai 3) (.neg (.ai 3))))) (.av (.int 1)))) .nil) .nil) .nil)
theorem xI{a:V}{w:Nat}(hw:w<=9):∀(xs:List Nat) (i:Nat) (y z:Slot),NL w xs->xs≠[]->i+xs.length<9999->Frs y->Frs z->
  ∃(t:Nat) (a8:List Slot),bW (aU call Wn Tn) (λ x sl=>match x with| .seq true vs=>cz sl [2,3] (vs.map .val)|_=>none) (gb i (ns xs)) [.val a,VI w,y,z]=some (.ret (.int t) a8)
 | [],_,_,_,_,h,_,_,_=>absurd rfl h
 |x::xs,i,y,z,h,_,hi,hy,hz=>by
  have hi:i+(xs.length+1)<9999:=hi
  have s1:(cz [.val a,VI w,y,z] [2,3] ([V.int i,V.int x].map .val))=some [.val a,VI w,VI i,VI x]:=by
   show((bg [.val a,VI w,y,z] 2 (VI i)).bind λ sl=>(bg sl 3 (VI x)).bind some)=_
   rw[show bg [.val a,VI w,y,z] 2 (VI i)=_ from cG (a:=[.val a,VI w]) (b:=[z]) hy]
   show(bg [.val a,VI w,VI i,z] 3 (VI x)).bind some=_
   rw[show bg [.val a,VI w,VI i,z] 3 (VI x)=_ from cG (a:=[.val a,VI w,VI i]) (b:=[]) hz];rfl
  by_cases hx:x=0
  ·refine Ej (λ t a8 k=>?_)<|xI (a:=a) hw xs (i+1) (VI i) (VI x) h.2.1 (λ e=>h.2.2 e hx) (by exact J6 ‹_›) cu cu
   exact⟨t,a8,kK s1 (aj (aN (ay (ae rfl) ah (cmp_gt (ff (by lia)))) aM) aM) k⟩
  ·have p:x<512:=UO h.1 (UP (n:=2) (j:=9) (by decide) hw)
   have lb:=DU p (by exact Nat.pos_of_ne_zero ‹_›)
   refine⟨i*w+intBits (Builtin.bitAnd (x:Int) (-(x:Int)))-1,[.val a,VI w,VI i,VI x],xB s1 ?_⟩
   refine aH (aX (ay (ae rfl) ah (cmp_gt (tt (by exact rY (Nat.pos_of_ne_zero ‹_›))))) (aH (aY (az (az (az (ae rfl) (ae rfl) (mul_int (jU (Nat.lt_trans (show i<2^20 by lia) (Nat.pow_lt_pow_right (a:=2) (m:=20) (n:=4000) (by decide) (by decide)))) (MA (by exact iT ‹_› (by decide))))) (uk (i:=Builtin.bitAnd (x:Int) (-(x:Int))) (az (ae rfl) (hU (ae rfl)) rfl)) rfl) ah ?_))))
   show some (V.int _)=some (V.int _)
   congr 2
   rw[<-Int.natCast_mul]
   lia
theorem DV{a:List Nat}{w:Nat}(hw:w<=9)(h:NL w a)(h0:a≠[])(hl:a.length<9999):∃t:Nat,ao prog Wn (n+1) (.fn 152) none [.seq false (ns a),.int w]=some (.ok (.int t) []):=by
 have hL:bL=100000:=rfl
 refine Ej (λ t a8 k=>?_)<|xI (call:=ao prog Wn n) (Wn:=Wn) (a:= .seq false (ns a)) hw a 0 .af .af h h0 (by lia) eh eh
 refine⟨t,?_⟩
 rw[aE (fn:=kx) rfl]
 refine aS rfl rfl (by decide) ⟨a8,?_⟩
 show aU _ _ gj [VS a,VI w,.af,.af]=_
 unfold gj
 exact aH (DK (ys:=ns a) (ae rfl) (by rw[bh];exact cD ‹_› (by decide)) k)
theorem xJ{a bs:List Nat}{b0 w:Nat}(h1:1<=w)(hw:w<=9)(ha:NL w a)(h0:a≠[])(hl:a.length<300)(hb:NL w (b0::bs))(Nc:bs.length<300)(ho:b0%2=1):
  ao prog 400 (n+3) (.fn 330) none [.seq false (ns a),.seq false (ns (b0::bs)),.int w]=some (.ok (.seq true [.seq false (ns a),.seq false (ns (b0::bs))]) []):=by
 refine bJ (λ t k1=>?_)<|DV (Wn:=400) (n:=n+1) hw ha h0 (by exact cD ‹_› (by decide))
 have k2:=xC (Wn:=400) (n:=n+1) (r:=bs) (w:=w) (UO hb.1 (UP (n:=2) (j:=9) (by decide) hw)) ho (by exact cD ‹_› (by decide)) (by exact iT ‹_› (by decide))
 have k3:=uo (Wn:=400) (n:=n) h1 (by exact iT ‹_› (by decide)) (by exact cD ‹_› (by decide)) (by exact cD ‹_› (by decide)) ha
 have k4:=uo (Wn:=400) (n:=n) (a:=b0::bs) h1 (by exact iT ‹_› (by decide)) (by show bs.length+1<_;lia) (by show bs.length+1<_;lia) hb
 rw[aE (fn:=gp) rfl]
 refine aS rfl rfl (by decide) ⟨[VS a,.val (.seq false (ns (b0::bs))),VI w,.val (.int 0)],?_⟩
 show aU _ _ dU [VS a,.val (.seq false (ns (b0::bs))),VI w,.af]=_
 unfold dU
 refine aj (bq (aF (aa (ae rfl) (aa (ae rfl) aq)) k2) rfl) ?_
 refine aj (aN (ay (aF (aa (ae rfl) (aa (ae rfl) aq)) k1) (ae rfl) (cF (ff (by lia)))) aM) ?_
 exact aH (aY (dC (aa (aF (aa (ae rfl) (aa (ae rfl) (aa (ae rfl) aq))) k3) (aa (aF (aa (ae rfl) (aa (ae rfl) (aa (ae rfl) aq))) k4) aq)) rfl))
theorem c_wtwos_2{x w:Nat}{r:List Nat}(h1:1<=w)(hw:w<=9)(hx:x<2^w)(ho:x%2=1)(hl:r.length<9999):
  ao prog 400 (n+3) (.fn 330) none [.seq false (ns (x::r)),.seq false (ns (aw w 64 2)),.int w]=some (.ok .none []):=by
 have k1:=xC (Wn:=400) (n:=n+1) (r:=r) (w:=w) (UO hx (UP (n:=2) (j:=9) (by decide) hw)) ho (by assumption) (by exact iT ‹_› (by decide))
 have k2:=trail_2 (n+1) h1 hw
 rw[aE (fn:=gp) rfl]
 refine aS rfl rfl (by decide) ⟨[.val (.seq false (ns (x::r))),.val (.seq false (ns (aw w 64 2))),VI w,.val (.int 1)],?_⟩
 show aU _ _ dU [.val (.seq false (ns (x::r))),.val (.seq false (ns (aw w 64 2))),VI w,.af]=_
 unfold dU
 refine aj (bq (aF (aa (ae rfl) (aa (ae rfl) aq)) k2) rfl) ?_
 exact aH (aX (ay (aF (aa (ae rfl) (aa (ae rfl) aq)) k1) (ae rfl) (cF (tt (by decide)))) (aH (aY ah)))
theorem Gq{w b0:Nat}{bs:List Nat}(h1:1<=w)(ho:b0%2=1):ak w (b0::bs)%2=1:=by
 obtain⟨k,rfl⟩:∃k,w=k+1:=⟨w-1,by exact Eq.symm (Nat.sub_add_cancel ‹_›)⟩
 show(b0+2^(k+1)*ak (k+1) bs)%2=1
 rw[Nat.pow_succ,Nat.mul_comm (2^k) 2,Nat.mul_assoc,Nat.add_mul_mod_self_left];exact ho
theorem o6{b x k:Nat}(ho:b%2=1)(h:2^k ∣ b*x)(hx:x<2^k):x=0:=by
 have c:Nat.Coprime 2 b:=by
  show Nat.gcd 2 b=1
  rw[Nat.gcd_rec,ho];rfl
 exact Nat.eq_zero_of_dvd_of_lt (Nat.Coprime.dvd_of_dvd_mul_left (Nat.Coprime.pow_left k c) h) hx
theorem DW{M K R B F q e:Nat}(h:M*R+B*F=q*B+e*(M*K))(To:F<=q):M ∣ B*(q-F):=by
 obtain⟨d,rfl⟩:∃d,q=F+d:=⟨q-F,by exact Eq.symm (Nat.add_sub_cancel' ‹_›)⟩
 rw[Nat.add_sub_cancel_left]
 rw[Nat.add_mul,Nat.mul_comm F B,Nat.mul_comm d B,Nat.mul_left_comm e M] at h
 have h2:M*(e*K)+B*d=M*R:=by lia
 exact(Nat.dvd_add_right (Nat.dvd_mul_right M (e*K))).mp (by rw[h2];exact Nat.dvd_mul_right M R)
theorem zi{M K R B F q e:Nat}(h:M*R+B*F=q*B+e*(M*K))(To:q<=F):M ∣ B*(F-q):=by
 obtain⟨d,rfl⟩:∃d,F=q+d:=⟨F-q,by exact Eq.symm (Nat.add_sub_cancel' ‹_›)⟩
 rw[Nat.add_sub_cancel_left]
 rw[Nat.mul_add,Nat.mul_comm B q,Nat.mul_left_comm e M] at h
 have h2:M*R+B*d=M*(e*K):=by lia
 exact(Nat.dvd_add_right (Nat.dvd_mul_right M R)).mp (by rw[h2];exact Nat.dvd_mul_right M (e*K))
theorem uu(w:Nat)(xs:List Nat){k:Nat}(h:k<=xs.length):ak w xs=ak w (xs.take k)+2^(w*k)*ak w (xs.drop k):=by
 have:=qu w (xs.take k) (xs.drop k)
 rw[List.take_append_drop,List.length_take,Nat.min_eq_left h] at this
 exact this
theorem DX{w:Nat}{xs:List Nat}(h:Lt w xs)(h0:ak w xs=0):fL xs=[]:=by
 by_cases e:fL xs=[]
 ·exact e
 ·have:=o4 (rM xs h) e
  rw[eQ] at this;lia
theorem DY{a b row found:List Nat}{w n0 aD q:Nat}(h1:1<=w)(hb:NL w b)(uB:b≠[])(ha:Lt w a)(hn:n0+b.length=a.length+1)(ho:ak w b%2=1)(D:Dv a b w (a.length+1) n0 row found aD)(hq:ak w a=q*ak w b)(Tp:ak w a<2^64):
  aD=0/\fL (row.drop n0)=[]/\fL found=aw w 64 q:=by
 have va:=D.va
 rw[hq] at va
 have hM:=Nat.two_pow_pos (w*n0)
 obtain⟨R,hR⟩:∃R,ak w row=2^(w*n0)*R:=Nat.dvd_of_mod_eq_zero D.dv
 have hS:2^(w*(a.length+1))=2^(w*n0)*2^(w*b.length):=by rw[<-hn,Nat.mul_add,Nat.pow_add]
 have Qp:=va
 rw[hR,hS] at va
 have hF:ak w found<2^(w*n0):=by rw[<-D.nf];exact jE D.lf
 have Tq:=rN hb uB
 have Na:1<=b.length:=by
  rcases b with _|⟨_,_⟩
  ·exact absurd rfl uB
  ·exact Nat.succ_le_succ (Nat.zero_le _)
 have Un:q<2^(w*n0):=by
  have k1:=jE ha
  have k2:2^(w*a.length)=2^(w*n0)*2^(w*(b.length-1)):=by
   have:a.length=n0+(b.length-1):=by lia
   rw[<-Nat.pow_add,<-Nat.mul_add,<-this]
  have k3:=Nat.mul_le_mul_left q Tq
  rw[<-hq] at k3
  rw[k2] at k1
  exact Nat.lt_of_mul_lt_mul_right (UN k3 k1)
 have e:ak w found=q:=by
  rcases Nat.le_total (ak w found) q with h|h
  ·have:=o6 ho (DW va h) (by exact UN (Nat.sub_le _ _) ‹_›)
   lia
  ·have:=o6 ho (zi va h) (by exact UN (Nat.sub_le _ _) ‹_›)
   lia
 rw[e,Nat.mul_comm (ak w b) q,Nat.add_comm] at Qp
 have Tr:=Nat.add_left_cancel Qp
 have Pj:=jE D.lr
 rw[D.nr] at Pj
 have uB:aD=0:=by
  rcases Nat.eq_zero_or_pos aD with h|h
  ·exact h
  ·have:=Nat.le_mul_of_pos_left (2^(w*(a.length+1))) h
   lia
 rw[uB,Nat.zero_mul] at Tr
 have hd:=uu w row (k:=n0) (by rw[D.nr];lia)
 refine⟨uB,DX (D.lr.drop n0) ?_,?_⟩
 ·rcases Nat.eq_zero_or_pos (ak w (row.drop n0)) with h|h
  ·exact h
  ·have:=Nat.mul_pos hM h
   lia
 ·have Pn:q<2^64:=by
   have:q*1<=q*ak w b:=Nat.mul_le_mul_left q (by lia)
   lia
  have:=xA h1 64 (rM found D.lf) (by rw[eQ,e];exact Pn)
  rw[eQ,e] at this
  exact this
theorem JV{a b row found:List Nat}{w n0 aD:Nat}(hn:n0+b.length=a.length+1)(D:Dv a b w (a.length+1) n0 row found aD)(et:∀q,ak w a≠q*ak w b)(h0:aD=0):fL (row.drop n0)≠[]:=by
 intro h
 have hd:=uu w row (k:=n0) (by rw[D.nr];lia)
 have k1:=eQ w (row.drop n0)
 rw[h] at k1
 have k1:0=ak w (row.drop n0):=k1
 rw[<-k1,Nat.mul_zero,Nat.add_zero] at hd
 have k2:=jE (D.lr.take n0)
 rw[List.length_take,Nat.min_eq_left (by rw[D.nr];lia),<-hd] at k2
 have k3:=D.dv
 rw[Nat.mod_eq_of_lt k2] at k3
 have va:=D.va
 rw[k3,h0,Nat.zero_mul,Nat.zero_add,Nat.add_zero,Nat.mul_comm] at va
 exact et _ va.symm
theorem zj{a b:List Nat}{w q:Nat}(hb:NL w b)(ha:NL w a)(h0:a≠[])(hl:a.length<b.length):ak w a≠q*ak w b:=by
 intro e
 have k1:=jE (oZ ha)
 have k2:=rN hb (λ h=>by rw[h] at hl;exact Nat.not_lt_zero _ hl)
 have k3:=o4 ha h0
 have k4:2^(w*a.length)<=2^(w*(b.length-1)):=UP (by decide) (Nat.mul_le_mul_left w (by exact Nl ‹_›))
 rcases Nat.eq_zero_or_pos q with h|h
 ·rw[h,Nat.zero_mul] at e;lia
 ·have:=Nat.le_mul_of_pos_left (ak w b) h
  lia
theorem is_none{a:V}{c:Bool}(h:Kz a .none=some c):cL .Hq a .none=some c:=h
theorem e9{t:Bool}{xs:List Nat}(h:xs.length<400):eH (.seq t (ns xs))=some (.int (xs.length:Nat)):=du (Nat.lt_trans h (by decide))
noncomputable def Tu(w:Nat)(a b:List Nat)(v:V):Prop:=(∀q,ak w a=q*ak w b->v= .seq false (ns (aw w 64 q)))/\((∀q,ak w a≠q*ak w b)->v= .none)
theorem Hj{a bs:List Nat}{b0 w:Nat}(h1:1<=w)(hw:w<=9)(ha:NL w a)(h0:a≠[])(hl:a.length<65)(hb:NL w (b0::bs))(Nc:bs.length<65)(ho:b0%2=1)(hA:ak w a<2^64):
  ∃v,ao prog 400 (n+7) (.fn 337) none [.seq false (ns a),.seq false (ns (b0::bs)),.int w]=some (.ok v [])/\Tu w a (b0::bs) v:=by
 have k1:=xJ (n:=n+3) h1 hw ha h0 (by exact cD ‹_› (by decide)) hb (by exact cD ‹_› (by decide)) ho
 have Tv:1<=a.length:=by
  rcases a with _|⟨_,_⟩
  ·exact absurd rfl h0
  ·exact Nat.succ_le_succ (Nat.zero_le _)
 have zH:eH (.seq false (ns a))=some (.int (a.length:Nat)):=e9 (by exact cD ‹_› (by decide))
 have Hk:eH (.seq false (ns (b0::bs)))=some (.int ((bs.length+1:Nat):Int)):=e9 (xs:=b0::bs) (by show bs.length+1<_;lia)
 rw[aE (fn:=dc) rfl]
 have T:∀(v:V),(∃sl,aU (ao prog 400 (n+6)) 400 bH [VS a,.val (.seq false (ns (b0::bs))),VI w,.af,.af,.af,.af]=some (.ret v sl))->fH (ao prog 400 (n+6)) 400 dc none [.seq false (ns a),.seq false (ns (b0::bs)),.int w]=some (.ok v []):=λ v h=>aS rfl rfl (by decide) h
 have B:∀{r:Option F} {rest:Ss},aU (ao prog 400 (n+6)) 400 rest [VS a,.val (.seq false (ns (b0::bs))),VI w,.val (.seq true [.seq false (ns a),.seq false (ns (b0::bs))]),.af,.af,.af]=r->aU (ao prog 400 (n+6)) 400 (.cons (.ite (.aC .eq (.bu 0) (.av (.int 0))) (.cons (.ret (.lst .nil)) .nil) .nil) (.cons (.asg 3 (.call 330 "without_twos" (.cons (.ai 0) (.cons (.ai 1) (.cons (.ai 2) .nil))))) rest)) [VS a,.val (.seq false (ns (b0::bs))),VI w,.af,.af,.af,.af]=r:=λ h=>
  aj (aN (ay (aK rfl zH) ah (bw (ff (by lia)))) aM) (aj (bq (aF (aa (ae rfl) (aa (ae rfl) (aa (ae rfl) aq))) k1) rfl) h)
 by_cases gA:a.length<bs.length+1
 ·refine⟨.none,T _ ?_,λ q e=>absurd e (zj hb ha h0 gA),λ _=>rfl⟩
  apply Exists.intro
  unfold bH
  refine B (aH (aX (fQ (cy (ay (ae rfl) ah (is_none rfl)) (bY (ay (hV (bc rfl ah rfl) zH) (hV (bc rfl ah rfl) Hk) (cF (tt (by exact xP ‹_›)))) rfl))) (aH (aY ah))))
 ·obtain⟨n0,hn⟩:∃n0,n0+(bs.length+1)=a.length+1:=⟨a.length-bs.length,by lia⟩
  refine Ec (λ found row aD kg d1 D d2 d3=>?_)<|DT (n:=n+1) (n0:=n0) h1 hw (by exact cD ‹_› (by decide)) hn (by lia) (oZ ha) (oZ hb) ho
  have hv:∃sl,aU (ao prog 400 (n+6)) 400 bH [VS a,.val (.seq false (ns (b0::bs))),VI w,.af,.af,.af,.af]=some (.ret (if 0<aD\/0<kg.length then .none else .seq false (ns (fL found))) sl):=by
   apply Exists.intro
   unfold bH
   refine B (aj (aN (fQ (cy (ay (ae rfl) ah (is_none rfl)) (cy (ay (hV (bc rfl ah rfl) zH) (hV (bc rfl ah rfl) Hk) (cF (ff (by exact Gv ‹_›)))) fj))) aM) ?_)
   refine aj (tY (aF (aa (bc rfl ah rfl) (aa (bc rfl ah rfl) (aa (az (v:= .int (n0:Nat)) (az (hV (bc rfl ah rfl) zH) (hV (bc rfl ah rfl) Hk) rfl) ah ?_) (aa (ae rfl) aq)))) d1) rfl) ?_
   ·show some (V.int _)=some (V.int _)
    congr 2;lia
   by_cases uB:0<aD
   ·rw[if_pos (Or.inl uB)]
    exact aH (aY (fA (fQ (bY (iQ (b:=true) (ae (by rw[UJ uB];rfl))) rfl)) ah))
   ·have tb:gQ (ao prog 400 (n+6)) (.val (.ai 5)) [VS a,.val (.seq false (ns (b0::bs))),VI w,.val (.seq true [.seq false (ns a),.seq false (ns (b0::bs))]),.val (.seq false (ns (fL found))),.val (.bool (decide (0<aD))),VS kg] false [VS a,.val (.seq false (ns (b0::bs))),VI w,.val (.seq true [.seq false (ns a),.seq false (ns (b0::bs))]),.val (.seq false (ns (fL found))),.val (.bool (decide (0<aD))),VS kg]:=iQ (ae (by rw[UM uB];rfl))
    have tl:eH (.seq false (ns kg))=some (.int (kg.length:Nat)):=du (by exact gy ‹_› (by decide))
    by_cases ht:0<kg.length
    ·rw[if_pos (Or.inr ht)]
     exact aH (aY (fA (fQ (cy tb (bY (ay (aK rfl tl) ah (cmp_gt (tt (by exact rY ‹_›)))) rfl))) ah))
    ·rw[if_neg (by lia)]
     exact aH (aY (fK (fQ (cy tb (cy (ay (aK rfl tl) ah (cmp_gt (ff (by lia)))) fj))) (ae rfl)))
  refine⟨_,T _ hv,λ q hq=>?_,λ hq=>?_⟩
  ·refine rS (λ e1 e2 e3=>?_)<|DY h1 hb (λ h=>nomatch h) (oZ ha) hn (Gq h1 ho) D hq hA
   rw[d2 e1,e2,e1,e3,if_neg (by simp)]
  ·by_cases e:aD=0
   ·have:=JV hn D hq e
    rw[d2 e,if_pos (Or.inr (List.length_pos_iff.mpr this))]
   ·rw[if_pos (Or.inl (by exact Nat.pos_of_ne_zero ‹_›))]
theorem c_exq_2{x w:Nat}{r:List Nat}(h1:1<=w)(hw:w<=9)(hx:x<2^w)(ho:x%2=1)(hl:r.length<300):
  ao prog 400 (n+7) (.fn 337) none [.seq false (ns (x::r)),.seq false (ns (aw w 64 2)),.int w]=some (.ok .none []):=by
 have k1:=c_wtwos_2 (n:=n+3) h1 hw hx ho (r:=r) (by exact cD ‹_› (by decide))
 rw[aE (fn:=dc) rfl]
 refine aS rfl rfl (by decide) ?_
 apply Exists.intro
 show aU _ _ bH [.val (.seq false (ns (x::r))),.val (.seq false (ns (aw w 64 2))),VI w,.af,.af,.af,.af]=_
 unfold bH
 have el:eH (.seq false (ns (x::r)))=some (.int ((r.length+1:Nat):Int)):=e9 (xs:=x::r) (by show r.length+1<_;lia)
 exact aj (aN (ay (aK rfl el) ah (bw (ff (by lia)))) aM) (aj (bq (aF (aa (ae rfl) (aa (ae rfl) (aa (ae rfl) aq))) k1) rfl) (aH (aX (fQ (bY (ay (c:=true) (ae rfl) ah (is_none rfl)) rfl)) (aH (aY ah)))))
theorem fS{C:Nat}{nm:Str}{x:X}{v:V}(h:Ok call x sl v aB):aU call Wn (.cons (.eR C nm false x) .nil) sl=some (.exc C .none):=cZ (rz h)
theorem Gr{a b:List Nat}{w:Nat}{v:V}{b':List V}(hb:0<b.length)(hl:b.length<400)(h:ao prog Wn n (.fn 337) none [.seq false (ns a),.seq false (ns b),.int w]=some (.ok v b')):
  (v= .none->ao prog Wn (n+1) (.fn 344) none [.seq false (ns a),.seq false (ns b),.int w]=some (.exc 49 .none))/\(∀t xs,v= .seq t xs->ao prog Wn (n+1) (.fn 344) none [.seq false (ns a),.seq false (ns b),.int w]=some (.ok v [])):=by
 rw[aE (fn:=gq) rfl]
 have B:∀{r:Option F} {rest:Ss},aU (ao prog Wn n) Wn rest [VS a,VS b,VI w,.val v]=r->aU (ao prog Wn n) Wn (.cons (.ite (.aC .eq (.bu 1) (.av (.int 0))) (.cons (.eR 37 "DivisionByZero" false (.av (.str (Str.ofString "exact division by 0")))) .nil) .nil) (.cons (.asg 3 (.call 337 "exact_quotient" (.cons (.ai 0) (.cons (.ai 1) (.cons (.ai 2) .nil))))) rest)) [VS a,VS b,VI w,.af]=r:=λ k=>
  aj (aN (ay (aK rfl (e9 hl)) ah (bw (ff (by exact xQ (Nat.ne_of_gt ‹_›))))) aM) (aj (bq (aF (aa (ae rfl) (aa (ae rfl) (aa (ae rfl) aq))) h) rfl) k)
 constructor
 ·intro hv
  subst hv
  refine dN rfl rfl (by decide) ?_
  show aU _ _ cN [VS a,VS b,VI w,.af]=_
  unfold cN
  exact B (cZ (aX (ay (ae rfl) ah (is_none rfl)) (fS ah)))
 ·intro t xs hv
  subst hv
  refine aS rfl rfl (by decide) ⟨[VS a,VS b,VI w,.val (.seq t xs)],?_⟩
  show aU _ _ cN [VS a,VS b,VI w,.af]=_
  unfold cN
  exact B (aj (aN (ay (ae rfl) ah (is_none rfl)) aM) (aH (aY (ae rfl))))
theorem zk{b:V}{w:Nat}:ao prog Wn (n+1) (.fn 337) none [.seq false [],b,.int w]=some (.ok (.seq false []) []):=by
 rw[aE (fn:=dc) rfl]
 refine aS rfl rfl (by decide) ?_
 apply Exists.intro
 show aU _ _ bH [.val (.seq false []),.val b,VI w,.af,.af,.af,.af]=_
 unfold bH
 exact aH (aX (ay (aK rfl (e9 (xs:=[]) (by decide))) ah (bw (tt rfl))) (aH (aY (bR aq rfl))))
theorem zl{a:V}{w:Nat}:ao prog Wn (n+1) (.fn 344) none [a,.seq false [],.int w]=some (.exc 37 .none):=by
 rw[aE (fn:=gq) rfl]
 refine dN rfl rfl (by decide) ?_
 show aU _ _ cN [.val a,.val (.seq false []),VI w,.af]=_
 unfold cN
 exact cZ (aX (ay (aK rfl (e9 (xs:=[]) (by decide))) ah (bw (tt rfl))) (fS ah))
theorem zm{a mul:V}{w:Nat}:ao prog Wn (n+1) (.fn 351) none [a,.seq false [],.int w,mul]=some (.exc 37 .none):=by
 rw[aE (fn:=cP) rfl]
 refine dN rfl rfl (by decide) ?_
 show aU _ _ bx [.val a,.val (.seq false []),VI w,.val mul,.af,.af,.af]=_
 unfold bx
 exact cZ (aX (ay (aK rfl (e9 (xs:=[]) (by decide))) ah (bw (tt rfl))) (fS ah))
theorem o7{a:List Nat}{w:Nat}(h:a.length<400):ao prog Wn (n+1) (.fn 358) none [.seq false (ns a),.seq false [],.int w]=some (.ok (.bool (decide ((a.length:Int)=0))) []):=by
 rw[aE (fn:=gr) rfl]
 refine aS rfl rfl (by decide) ?_
 apply Exists.intro
 show aU _ _ dW [VS a,.val (.seq false []),VI w]=_
 unfold dW
 exact aH (aX (ay (aK rfl (e9 (xs:=[]) (by decide))) ah (bw (tt rfl))) (aH (aY (kc (aK rfl (e9 h)) ah (bw rfl)))))
theorem MD{a b:List Nat}{w:Nat}{xs b':List V}(hb:0<b.length)(hl:b.length<400)(h:ao prog Wn n (.fn 337) none [.seq false (ns a),.seq false (ns b),.int w]=some (.ok (.seq false xs) b')):ao prog Wn (n+1) (.fn 358) none [.seq false (ns a),.seq false (ns b),.int w]=some (.ok (.bool true) []):=by
 rw[aE (fn:=gr) rfl]
 refine aS rfl rfl (by decide) ?_
 apply Exists.intro
 show aU _ _ dW [VS a,VS b,VI w]=_
 unfold dW
 exact aj (aN (ay (aK rfl (e9 hl)) ah (bw (ff (by exact xQ (Nat.ne_of_gt ‹_›))))) aM) (aH (aY (kc (aF (aa (ae rfl) (aa (ae rfl) (aa (ae rfl) aq))) h) ah rfl)))
noncomputable def mu(k:Nat):List V:=(List.range k).map λ j:Nat=>V.int ((k-1-j:Nat):Int)
theorem uv(k:Nat):mu (k+1)= .int k::mu k:=by
 unfold mu
 rw[List.range_succ_eq_map,List.map_cons,List.map_map]
 refine congr (congrArg List.cons ?_) (List.map_congr_left λ j hj=>?_)
 ·rfl
 ·have:=List.mem_range.mp hj
  show V.int _=V.int _
  congr 2;lia
theorem wg{k:Nat}(h:k<99999):∃zs,bN [.int ((k:Int)-1),.int (-1),.int (-1)]=some zs/\zs.map V.int=mu k:=by
 have hL:bL=100000:=rfl
 refine⟨bK ((k:Int)-1) (-1) k,?_,?_⟩
 ·show(if (-1:Int)= -1/\pa ((k:Int)-1)=true/\pa (-1)=true then some (bK ((k:Int)-1) (-1) ((k:Int)-1- -1).toNat) else none)=_
  have o1:pa ((k:Int)-1)=true:=by
   unfold pa
   rw[UJ (show(k:Int)-1<(bL:Nat) by lia),UJ (show -(bL:Int)<(k:Int)-1 by lia)];rfl
  rw[if_pos ⟨rfl,o1,by decide⟩,show((k:Int)-1- -1).toNat=k by lia]
 ·unfold bK mu
  rw[List.map_map]
  refine List.map_congr_left λ j hj=>?_
  have:=List.mem_range.mp hj
  show V.int ((k:Int)-1+(j:Int)* -1)=V.int ((k-1-j:Nat):Int)
  congr 1;rw[show k-1-j=k-(1+j) from Nat.sub_sub ..,Int.ofNat_sub (by rw[Nat.add_comm];assumption),Int.natCast_add,Int.mul_neg,Int.mul_one,<-Int.sub_eq_add_neg,Int.sub_sub];rfl
noncomputable def Tw:Ss:=(.cons (.ite (.aC .ne (.aZ 0 (.ai 2)) (.aZ 1 (.ai 2))) (.cons (.ret (.ik (.aC .lt (.aZ 0 (.ai 2)) (.aZ 1 (.ai 2))) (.neg (.av (.int 1))) (.av (.int 1)))) .nil) .nil) .nil)
theorem xK{a b:List Nat}(hl:a.length<9999)(zC:a.length=b.length):∀(k:Nat) (z:Slot),k<=a.length->Frs z->
  (∃(i:Int) (a8:List Slot),i≠0/\bW (aU call Wn Tw) (λ x sl=>bg sl 2 (.val x)) (mu k) [VS a,VS b,z]=some (.ret (.int i) a8))\/a.take k=b.take k
 |0,z,_,_=>Or.inr rfl
 |k+1,z,hk,hz=>by
  have hL:bL=100000:=rfl
  have h1:k<a.length:=hk
  have h2:k<b.length:=by lia
  have x1:=UT h1
  have x2:=UT h2
  have s1:bg [VS a,VS b,z] 2 (VI k)=some [VS a,VS b,VI k]:=cG (a:=[VS a,VS b]) (b:=[]) hz
  rw[uv]
  have i1:=eN (t:=false) (show a.length<bL by exact cD ‹_› (by decide)) x1
  have i2:=eN (t:=false) (show b.length<bL by lia) x2
  by_cases e:a[k]=b[k]
  ·rcases xK hl zC k (VI k) (by exact Nat.le_of_lt ‹_›) cu with ⟨i,a8,h0,h⟩|h
   ·exact Or.inl ⟨i,a8,h0,kK s1 (aj (aN (ay (bc rfl (ae rfl) i1) (bc rfl (ae rfl) i2) (mj (by rw[e,UJ rfl];rfl))) aM) aM) h⟩
   ·exact Or.inr (by rw[take_succ_get x1,take_succ_get x2,h,e])
  ·refine Or.inl ?_
   have t1:gQ call (.aC .ne (.aZ 0 (.ai 2)) (.aZ 1 (.ai 2))) [VS a,VS b,VI k] true [VS a,VS b,VI k]:=ay (bc rfl (ae rfl) i1) (bc rfl (ae rfl) i2) (mj (by rw[UM (by exact Nj ‹_›)];rfl))
   by_cases gA:a[k]<b[k]
   ·exact⟨-1,_,by decide,xB s1 (aH (aX t1 (aH (aY (fA (ay (bc rfl (ae rfl) i1) (bc rfl (ae rfl) i2) (cF (tt (by exact xP ‹_›)))) (hU ah))))))⟩
   ·exact⟨1,_,by decide,xB s1 (aH (aX t1 (aH (aY (fK (ay (bc rfl (ae rfl) i1) (bc rfl (ae rfl) i2) (cF (ff (by exact Gv ‹_›)))) ah)))))⟩
theorem zo{a b:List Nat}(ha:a.length<400)(hb:b.length<400)(et:a≠b):∃i:Int,i≠0/\ao prog Wn (n+1) (.fn 117) none [.seq false (ns a),.seq false (ns b)]=some (.ok (.int i) []):=by
 have T:∀i:Int,(∃sl,aU (ao prog Wn n) Wn l8 [VS a,VS b,.af]=some (.ret (.int i) sl))->ao prog Wn (n+1) (.fn 117) none [.seq false (ns a),.seq false (ns b)]=some (.ok (.int i) []):=λ i h=>by
  rw[aE (fn:=qg) rfl]
  exact aS rfl rfl (by decide) h
 by_cases e:a.length=b.length
 ·rcases xK (call:=ao prog Wn n) (Wn:=Wn) (show a.length<9999 by exact cD ‹_› (by decide)) e a.length .af (Nat.le_refl _) eh with ⟨i,a8,h0,h⟩|h
  ·refine⟨i,h0,T i ⟨a8,?_⟩⟩
   refine aV (λ zs r1 r2=>?_)<|wg (k:=a.length) (by exact cD ‹_› (by decide))
   unfold l8
   refine aj (aN (ay (aK rfl (e9 ha)) (aK rfl (e9 hb)) (mj (by rw[UJ (by exact QG ‹_›)];rfl))) aM) ?_
   refine aH (jA (aa (az (aK rfl (e9 ha)) ah rfl) (aa (hU ah) (aa (hU ah) aq))) r1 ?_)
   rw[r2];exact h
  ·rw[List.take_of_length_le (Nat.le_refl _),List.take_of_length_le (Nat.le_of_eq e.symm)] at h
   exact absurd h et
 ·have t1:gQ (ao prog Wn n) (.aC .ne (.bu 0) (.bu 1)) [VS a,VS b,.af] true [VS a,VS b,.af]:=ay (aK rfl (e9 ha)) (aK rfl (e9 hb)) (mj (by rw[UM (by exact Nj ‹_›)];rfl))
  by_cases gA:a.length<b.length
  ·exact⟨-1,by decide,T _ ⟨_,aH (aX t1 (aH (aY (fA (ay (aK rfl (e9 ha)) (aK rfl (e9 hb)) (cF (tt (by exact xP ‹_›)))) (hU ah)))))⟩⟩
  ·exact⟨1,by decide,T _ ⟨_,aH (aX t1 (aH (aY (fK (ay (aK rfl (e9 ha)) (aK rfl (e9 hb)) (cF (ff (by exact Gv ‹_›)))) ah))))⟩⟩
end Mine
end
section
open PySem PySem.W PyProof.Rows PySem.Calls
namespace Mine
variable{n:Nat}{call:Hd}{sl aB sl2 lZ:List Slot}
theorem JW{x y:X}{i j:Int}(h1:Ok call x sl (.int i) aB)(h2:Ok call y aB (.int j) sl2):Ok call (.min2 x y) sl (.int (if j<i then j else i)) sl2:=by
 show(au (ev call x sl) λ a sl=>au (ev call y sl) λ b sl=>match a,b with| .int i,.int j=>some (R.ok (V.int (if j<i then j else i)) sl)|_,_=>none)=_
 rw[h1];show au (ev call y aB) _=_;rw[h2];rfl
noncomputable def zp(w:Nat)(xs:List Nat):Prop:=ak w xs<2^150/\xs.length<399
theorem nI{a b:List Nat}{k w:Nat}(h1:1<=w)(hw:w<=9)(ha:zp w a)(hb:zp w b)(hk:w*k<=100):
  ∃r r1,ao prog 400 (n+2) (.fn 414) none [.seq false (ns a),.seq false (ns b),.int w]=some (.ok (.seq false (ns r1)) [])/\ao prog 400 (n+2) (.fn 297) none [.seq false (ns r1),.int k]=some (.ok (.seq false (ns r)) [])/\Lt w r/\r.length<=k/\zp w r/\r1=aw w 320 (ak w a*ak w b):=by
 have hL:bL=100000:=rfl
 have p1:(2:Nat)^150<2^4000:=Nat.pow_lt_pow_right (a:=2) (m:=150) (n:=4000) (by decide) (by decide)
 have hm:ak w a*ak w b<2^320:=by
  have:=Nat.mul_lt_mul'' ha.1 hb.1
  exact Nat.lt_trans this (by decide)
 have cw:=cI (w:=w) 320 (ak w a*ak w b)
 have q:=nF (Wn:=400) (n:=n) (w:=w) (j:=320) (a:=a) (b:=b) h1 (by exact iT ‹_› (by decide)) (by have:=ha.2;exact cD ‹_› (by decide)) (by have:=hb.2;exact cD ‹_› (by decide)) (Nat.lt_trans ha.1 p1) (Nat.lt_trans hb.1 p1) hm (by decide) (by decide)
 have q2:=wb (Wn:=400) (n:=n) (aw w 320 (ak w a*ak w b)) k (by exact gy ‹_› (by decide)) (by exact gy ‹_› (by decide))
 have Qq:Lt w (fL ((aw w 320 (ak w a*ak w b)).take k)):=DQ (Lt.take (tK 320 _) k)
 have My:=jV ((aw w 320 (ak w a*ak w b)).take k)
 rw[List.length_take] at My
 have v:=jE Qq
 have Uo:w*(fL ((aw w 320 (ak w a*ak w b)).take k)).length<=w*k:=Nat.mul_le_mul_left w (by exact Nm ‹_›)
 have ME:k<=100:=Nat.le_trans (Nat.le_mul_of_pos_left k h1) hk
 exact⟨_,_,q,q2,Qq,by exact Nm ‹_›,⟨Nat.lt_trans v (Nat.pow_lt_pow_right (by decide) (by lia)),by lia⟩,rfl⟩
theorem rQ{a:List Nat}{k w:Nat}(ha:zp w a):ao prog 400 (n+2) (.fn 297) none [.seq false (ns a),.int k]=some (.ok (.seq false (ns (fL (a.take k)))) [])/\zp w (fL (a.take k)):=by
 have h:=ha.2
 have h2:=jV (a.take k)
 rw[List.length_take] at h2
 have h3:=rO w a k
 have h4:=eQ w (a.take k)
 exact⟨wb (Wn:=400) (n:=n) a k (by exact cD ‹_› (by decide)) (by exact cD ‹_› (by decide)),by have:=ha.1;lia,by lia⟩
noncomputable def pI(b:List Nat)(m w:Nat)(q:Slot)(s:Nat)(y z:Slot):List Slot:=[VS b,VI m,VI w,.val (.obj 414),q,VI s,y,z]
noncomputable abbrev VN(f:List Nat):Slot:=VS f
theorem Hl{b f:List Nat}{m w s:Nat}{q y z:Slot}(h:q= .own (ns f)\/q=VN f):Ok call (.ai 4) (pI b m w q s y z) (.seq false (ns f)) (pI b m w (VN f) s y z):=by
 rcases h with h|h
 ·subst h;exact hH rfl
 ·subst h;exact ae rfl
theorem xM{b:List Nat}{m w:Nat}(h1:1<=w)(hw:w<=9)(hb:zp w b)(hm:w*m<=100):∀(k s:Nat) (f:List Nat) (q y z:Slot),m-s<k->1<=s->zp w f->(q= .own (ns f)\/q=VN f)->Frs y->Frs z->
  ∃(f':List Nat) (s':Nat) (q' y' z':Slot),cS (iW (ao prog 400 (n+4)) (.aC .lt (.ai 5) (.ai 1))) (aU (ao prog 400 (n+4)) 400 (.cons (.asg 5 (.min2 (.bin .mul (.av (.int 2)) (.ai 5)) (.ai 1)))
  (.cons (.asg 6 (.call 297 "low_limbs" (.cons (.fc 3 (.cons (.call 297 "low_limbs" (.cons (.ai 0) (.cons (.ai 5) .nil))) (.cons (.ai 4) (.cons (.ai 2) .nil)))) (.cons (.ai 5) .nil))))
  (.cons (.asg 7 (.call 297 "low_limbs" (.cons (.call 124 "add" (.cons (.call 302 "complement" (.cons (.ai 6) (.cons (.ai 5) (.cons (.ai 2) .nil)))) (.cons (.lst (.cons (.av (.int 2)) .nil)) (.cons (.ai 2) .nil)))) (.cons (.ai 5) .nil))))
  (.cons (.asg 4 (.call 297 "low_limbs" (.cons (.fc 3 (.cons (.ai 4) (.cons (.ai 7) (.cons (.ai 2) .nil)))) (.cons (.ai 5) .nil))))
  .nil))))) k (pI b m w q s y z)=some (.next (pI b m w q' s' y' z'))/\zp w f'/\(q'= .own (ns f')\/q'=VN f')
 |0,_,_,_,_,_,h,_,_,_,_,_=>absurd h (Nat.not_lt_zero _)
 |k+1,s,f,q,y,z,hk,hs,hf,hq,hy,hz=>by
  have hL:bL=100000:=rfl
  by_cases gA:s<m
  ·obtain⟨s2,e2⟩:∃s2,s2=if m<2*s then m else 2*s:=⟨_,rfl⟩
   have Tz:s2<=m/\s<s2:=by rw[e2];split<;> lia
   have ME:m<=100:=Nat.le_trans (Nat.le_mul_of_pos_left m h1) hm
   have Po:w*s2<=100:=Nat.le_trans (Nat.mul_le_mul_left w Tz.1) hm
   refine d8 (λ c1 b1=>?_)<|rQ (n:=n+2) (k:=s2) hb
   refine J3 (λ r r1 m1 m2 m3 m4 m5 _=>?_)<|nI (n:=n+2) h1 hw b1 hf Po
   refine fY (λ cr Pm Qo Tj=>?_)<|xG (Wn:=400) (n:=n+1) (a:=r) (k:=s2) (w:=w) (by exact iT ‹_› (by decide)) (by lia) (by lia) (by lia) m3
   refine fY (λ a1 TA Up Qr=>?_)<|w7 (Wn:=400) (n:=n+3) (a:=cr) (b:=[2]) (w:=w) (by exact iT ‹_› (by decide)) (by lia) (by decide)
   have Qr:a1.length<=cr.length+1+1:=Qr
   have PZ:ak w cr<=2^100:=Nat.le_trans Qo (UP (by decide) Po)
   have e0:ak w [2]=2:=rfl
   have TB:(2:Nat)^100+2<2^150:=by decide
   have ba:zp w a1:=⟨by lia,by lia⟩
   refine d8 (λ c3 b3=>?_)<|rQ (n:=n+2) (k:=s2) ba
   refine J3 (λ r5 r6 m6 m7 m8 m9 TC _=>?_)<|nI (n:=n+2) h1 hw hf b3 Po
   refine Nh (λ f' s' q' y' z' k1 k2=>?_)<|xM h1 hw hb hm k s2 r5 (VN r5) (VS r) (.val (.seq false (ns (fL (a1.take s2))))) (by lia) (by lia) TC (Or.inr rfl) cu cu
   refine⟨f',s',q',y',z',?_,k2⟩
   refine tH (ay (ae rfl) (ae rfl) (cF (tt (by exact xP ‹_›)))) (aj (aB:=pI b m w q s2 y z) (bq (JW (az ah (ae rfl) (mul_int (bI (k:=2) (by decide)) (bI (k:=10) (by lia)))) (ae rfl)) ?_) (aj (aB:=pI b m w (VN f) s2 (VS r) z) (bq (aB:=pI b m w (VN f) s2 y z) (v:= .seq false (ns r)) (aF (aa (iL rfl rfl (aa (aF (aa (ae rfl) (aa (ae rfl) aq)) c1) (aa (Hl hq) (aa (ae rfl) aq))) m1) (aa (ae rfl) aq)) m2) (cG (a:=[VS b,VI m,VI w,.val (.obj 414),VS f,VI s2]) (b:=[z]) hy)) (aj (aB:=pI b m w (VN f) s2 (VS r) (.val (.seq false (ns (fL (a1.take s2)))))) (bq (aF (aa (aF (aa (aF (aa (ae rfl) (aa (ae rfl) (aa (ae rfl) aq))) Pm) (aa (bR (aa ah aq) rfl) (aa (ae rfl) aq))) TA) (aa (ae rfl) aq)) c3) (cG (a:=[VS b,VI m,VI w,.val (.obj 414),VS f,VI s2,VS r]) (b:=[]) hz)) (aj (bq (aF (aa (iL rfl rfl (aa (ae rfl) (aa (ae rfl) (aa (ae rfl) aq))) m6) (aa (ae rfl) aq)) m7) rfl) aM)))) k1
   have e3:(if (m:Int)<2*(s:Int) then (m:Int) else 2*(s:Int))=(s2:Int):=by
    rw[e2];split<;> split<;> lia
   rw[e3];rfl
  ·exact⟨f,s,q,y,z,fo (ay (ae rfl) (ae rfl) (cF (ff (by exact Gv ‹_›)))),hf,hq⟩
theorem xN{b0:Nat}(ho:b0%2=1):dz .mod (.int b0) (.int 2)=some (.int 1):=(mod_int (by decide)).trans (by
 have:=jW b0 2
 have e2:((2:Nat):Int)=2:=rfl
 rw[e2] at this
 rw[this,ho];rfl)
theorem DZ{b0:Nat}{bs:List Nat}{m w:Nat}(h1:1<=w)(hw:w<=9)(hb:zp w (b0::bs))(uB:b0<2^w)(ho:b0%2=1)(hm:w*m<=100)(O4:1<=m):∃f,zp w f/\ao prog 400 (n+5) (.fn 309) none [.seq false (ns (b0::bs)),.int m,.int w,.obj 414]=some (.ok (.seq false (ns f)) []):=by
 have hL:bL=100000:=rfl
 have Na:bs.length+1<399:=hb.2
 refine fY (λ v hv MC i1=>?_)<|Hi (n:=n+3) h1 hw uB ho
 have ME:m<=100:=Nat.le_trans (Nat.le_mul_of_pos_left m h1) hm
 have bv:zp w [v]:=⟨by
  have:(2:Nat)^w<=2^9:=UP (by decide) hw
  show v+2^w*0<_
  have:(2:Nat)^9<2^150:=by decide
  lia,(by decide:1<399)⟩
 refine QD (λ f' s' q' y' z' k1 k2 k3=>?_)<|xM (n:=n) h1 hw hb hm 400 1 [v] (.own (ns [v])) .af .af (by exact UN (Nat.sub_le _ _) (gy ‹_› (by decide))) (by decide) bv (Or.inl rfl) eh eh
 refine⟨f',k2,?_⟩
 rw[aE (fn:=fs) rfl]
 refine aS rfl rfl (by decide) ⟨pI (b0::bs) m w (VN f') s' y' z',?_⟩
 show aU _ _ cX [.val (.seq false (ns (b0::bs))),VI m,VI w,.val (.obj 414),.af,.af,.af,.af]=_
 unfold cX
 have hx:cV (.seq false (ns (b0::bs))) (.int 0)=some (.int b0):=eN (i:=0) (ls:=b0::bs) (by show bs.length+1<_;exact cD ‹_› (by decide)) rfl
 refine aj (aN (fQ (cy (ay (aK rfl (e9 (xs:=b0::bs) (by show bs.length+1<_;exact cD ‹_› (by decide)))) ah (bw (ff (by show ¬ ((bs.length+1:Nat):Int)=0;lia)))) (cy (ay (az (bc rfl ah hx) ah (xN ho)) ah (bw (c:=false) rfl)) fj))) aM) ?_
 refine aj (aN (ay (ae rfl) ah (bw (ff (by lia)))) aM) ?_
 refine aj (aB:=pI (b0::bs) m w (.own (ns [v])) 1 .af .af) (dY (aa (bR (aa (aF (aa (bc rfl ah hx) (aa (ae rfl) aq)) i1) aq) rfl) (aa ah aq)) rfl) ?_
 exact aj k1 (aH (aY (Hl k3)))
theorem D6{w j:Nat}{a:List Nat}(hw:w<=9)(h:NL w a)(h0:a≠[])(hA:ak w a<2^j):w*a.length<j+9:=by
 have k:=UN (rN h h0) hA
 have k2:w*(a.length-1)<j:=(Nat.pow_lt_pow_iff_right (by decide)).mp k
 obtain⟨m,hm⟩:∃m,a.length=m+1:=by
  rcases a with _|⟨_,l⟩
  ·exact absurd rfl h0
  ·exact⟨l.length,rfl⟩
 rw[hm,Nat.mul_succ]
 rw[hm,Nat.add_sub_cancel] at k2
 lia
theorem Hm{w:Nat}{a:List Nat}(hl:a.length<65)(hA:ak w a<2^64):zp w a:=⟨Nat.lt_trans hA (by decide),by exact cD ‹_› (by decide)⟩
theorem D7{a bs:List Nat}{b0 w:Nat}(h1:1<=w)(hw:w<=9)(ha:NL w a)(h0:a≠[])(hl:a.length<65)(hb:NL w (b0::bs))(Nc:(b0::bs).length<65)(ho:b0%2=1)(hA:ak w a<2^64)(hB:ak w (b0::bs)<2^64)(et:∀q,ak w a≠q*ak w (b0::bs)):
  ao prog 400 (n+7) (.fn 351) none [.seq false (ns a),.seq false (ns (b0::bs)),.int w,.obj 414]=some (.exc 49 .none):=by
 have Nc:bs.length+1<65:=Nc
 have k1:=xJ (n:=n+3) h1 hw ha h0 (by exact cD ‹_› (by decide)) hb (by lia) ho
 have zH:eH (.seq false (ns a))=some (.int (a.length:Nat)):=e9 (by exact cD ‹_› (by decide))
 have Hk:eH (.seq false (ns (b0::bs)))=some (.int ((bs.length+1:Nat):Int)):=e9 (xs:=b0::bs) (by show bs.length+1<_;exact cD ‹_› (by decide))
 have Tv:1<=a.length:=by
  rcases a with _|⟨_,_⟩
  ·exact absurd rfl h0
  ·exact Nat.succ_le_succ (Nat.zero_le _)
 have B:∀{r:Option F} {rest:Ss},aU (ao prog 400 (n+6)) 400 rest [VS a,.val (.seq false (ns (b0::bs))),VI w,.val (.obj 414),.val (.seq true [.seq false (ns a),.seq false (ns (b0::bs))]),.af,.af]=r->aU (ao prog 400 (n+6)) 400 (.cons (.ite (.aC .eq (.bu 1) (.av (.int 0))) (.cons (.eR 37 "DivisionByZero" false (.av (.str (Str.ofString "exact division by 0")))) .nil) .nil) (.cons (.ite (.aC .eq (.bu 0) (.av (.int 0))) (.cons (.ret (.lst .nil)) .nil) .nil) (.cons (.asg 4 (.call 330 "without_twos" (.cons (.ai 0) (.cons (.ai 1) (.cons (.ai 2) .nil))))) rest))) [VS a,.val (.seq false (ns (b0::bs))),VI w,.val (.obj 414),.af,.af,.af]=r:=λ h=>
  aj (aN (ay (aK rfl Hk) ah (bw (ff (by lia)))) aM) (aj (aN (ay (aK rfl zH) ah (bw (ff (by lia)))) aM) (aj (bq (aF (aa (ae rfl) (aa (ae rfl) (aa (ae rfl) aq))) k1) rfl) h))
 rw[aE (fn:=cP) rfl]
 refine dN rfl rfl (by decide) ?_
 show aU _ _ bx [VS a,.val (.seq false (ns (b0::bs))),VI w,.val (.obj 414),.af,.af,.af]=_
 unfold bx
 refine B ?_
 by_cases gA:a.length<bs.length+1
 ·exact cZ (aX (fQ (cy (ay (ae rfl) ah (is_none rfl)) (bY (ay (hV (bc rfl ah rfl) zH) (hV (bc rfl ah rfl) Hk) (cF (tt (by exact xP ‹_›)))) rfl))) (fS ah))
 ·obtain⟨n0,hn⟩:∃n0,n0+(bs.length+1)=a.length+1:=⟨a.length-bs.length,by lia⟩
  have Uq:=D6 hw ha h0 hA
  have Qs:w*n0<=100:=Nat.le_trans (Nat.mul_le_mul_left w (show n0<=a.length by lia)) (by exact J4 ‹_› (by decide))
  have Bb:=Hm (w:=w) (a:=b0::bs) (by show bs.length+1<_;assumption) hB
  refine d8 (λ c1 b1=>?_)<|rQ (n:=n+4) (k:=n0) (Hm hl hA)
  refine aV (λ f f1 f2=>?_)<|DZ (n:=n+1) h1 hw Bb hb.1 ho Qs (by lia)
  refine J3 (λ r r1 m1 m2 m3 m4 m5 _=>?_)<|nI (n:=n+4) h1 hw b1 f1 Qs
  refine J3 (λ _ p p1 _ _ _ _ p3=>?_)<|nI (n:=n+4) (k:=1) h1 hw m5 Bb (by lia)
  have mC:=cI (w:=w) 320 (ak w r*ak w (b0::bs))
  refine aV (λ i i0 i1=>?_)<|zo (Wn:=400) (n:=n+5) (a:=p) (b:=a) (by rw[p3];exact gy ‹_› (by decide)) (by exact cD ‹_› (by decide)) (λ e=>by
   have hm:ak w r*ak w (b0::bs)<2^320:=Nat.lt_trans (Nat.mul_lt_mul'' m5.1 Bb.1) (by decide)
   have:=cq h1 320 _ hm
   rw[<-p3,e] at this
   exact et _ this)
  refine aj (aN (fQ (cy (ay (ae rfl) ah (is_none rfl)) (cy (ay (hV (bc rfl ah rfl) zH) (hV (bc rfl ah rfl) Hk) (cF (ff (by exact Gv ‹_›)))) fj))) aM) ?_
  refine aj (bq (v:= .int (n0:Nat)) (az (az (hV (bc rfl ah rfl) zH) (hV (bc rfl ah rfl) Hk) rfl) ah ?_) rfl) ?_
  ·show some (V.int _)=some (V.int _)
   congr 2;lia
  refine aj (bq (aF (aa (iL rfl rfl (aa (aF (aa (bc rfl ah rfl) (aa (ae rfl) aq)) c1) (aa (aF (aa (bc rfl ah rfl) (aa (ae rfl) (aa (ae rfl) (aa (ae rfl) aq)))) f2) (aa (ae rfl) aq))) m1) (aa (ae rfl) aq)) m2) rfl) ?_
  exact cZ (aX (ay (aF (aa (iL rfl rfl (aa (ae rfl) (aa (bc rfl ah rfl) (aa (ae rfl) aq))) p1) (aa (bc rfl ah rfl) aq)) i1) ah (mj (by rw[UM i0];rfl))) (fS ah))
theorem c_newton_2{x w:Nat}{r:List Nat}(h1:1<=w)(hw:w<=9)(hx:x<2^w)(ho:x%2=1)(hl:r.length<300):
  ao prog 400 (n+7) (.fn 351) none [.seq false (ns (x::r)),.seq false (ns (aw w 64 2)),.int w,.obj 414]=some (.exc 49 .none):=by
 have k1:=c_wtwos_2 (n:=n+3) h1 hw hx ho (r:=r) (by exact cD ‹_› (by decide))
 have My:=cI (w:=w) 64 2
 have h2:ak w (aw w 64 2)=2:=cq h1 64 2 (by decide)
 have h3:0<(aw w 64 2).length:=by
  rcases e:aw w 64 2 with _|⟨_,_⟩
  ·rw[e] at h2;exact absurd h2 (show(0:Nat)≠2 by decide)
  ·exact Nat.succ_pos _
 rw[aE (fn:=cP) rfl]
 refine dN rfl rfl (by decide) ?_
 show aU _ _ bx [.val (.seq false (ns (x::r))),.val (.seq false (ns (aw w 64 2))),VI w,.val (.obj 414),.af,.af,.af]=_
 unfold bx
 have el:eH (.seq false (ns (x::r)))=some (.int ((r.length+1:Nat):Int)):=e9 (xs:=x::r) (by show r.length+1<_;lia)
 exact aj (aN (ay (aK rfl (e9 (by exact gy ‹_› (by decide)))) ah (bw (ff (by exact xQ (Nat.ne_of_gt ‹_›))))) aM) (aj (aN (ay (aK rfl el) ah (bw (ff (by lia)))) aM) (aj (bq (aF (aa (ae rfl) (aa (ae rfl) (aa (ae rfl) aq))) k1) rfl) (cZ (aX (fQ (bY (ay (c:=true) (ae rfl) ah (is_none rfl)) rfl)) (fS ah)))))
end Mine
end
section
open PySem PySem.W PyProof.Rows PySem.Calls
namespace Mine
variable{Wn n:Nat}{call:Hd}{sl aB sl2 lZ:List Slot}
theorem uw:∀xs:List Nat,∃bs,eqs (ns xs) (ns xs)=some bs/\bs.all id=true
 | []=>⟨[],rfl,rfl⟩
 |x::xs=>by
  refine aV (λ bs h1 h2=>?_)<|uw xs
  refine⟨true::bs,?_,by rw[List.all_cons,h2];rfl⟩
  show(Gy (.int x) (.int x)).bind (λ b=>(eqs (ns xs) (ns xs)).map (b:: ·))=_
  rw[h1]
  show some (((x:Int)==(x:Nat))::bs)=_
  rw[beq_self_eq_true]
theorem ne_self{xs:List Nat}(h:xs.length<bL):cL .ne (.seq false (ns xs)) (.seq false (ns xs))=some false:=by
 refine aV (λ bs h1 h2=>?_)<|uw xs
 show(if false=false then (if dO (ns xs)&&dO (ns xs) then (if (ns xs).length=(ns xs).length then (eqs (ns xs) (ns xs)).map (·.all id) else if false then none else some false) else none) else none:Option Bool).map (!·)=_
 rw[if_pos rfl,show dO (ns xs)=true from UJ (by rw[bh];exact h),h1,Bool.and_self,if_pos rfl,if_pos rfl]
 show some (!bs.all id)=_
 rw[h2];rfl
theorem Gs{w b0:Nat}{bs:List Nat}(h1:1<=w):ak w (b0::bs)%2=b0%2:=by
 obtain⟨k,rfl⟩:∃k,w=k+1:=⟨w-1,by exact Eq.symm (Nat.sub_add_cancel ‹_›)⟩
 show(b0+2^(k+1)*ak (k+1) bs)%2=_
 rw[Nat.pow_succ,Nat.mul_comm (2^k) 2,Nat.mul_assoc,Nat.add_mul_mod_self_left]
theorem dy{w m:Nat}(h1:1<=w)(hm:m<2^64)(h0:0<m):∃x r,aw w 64 m=x::r/\NL w (x::r)/\ak w (x::r)=m/\(x::r).length<65/\x%2=m%2:=by
 have k1:=ui h1 64 m hm
 have k2:=cq h1 64 m hm
 have k3:=cI (w:=w) 64 m
 rcases e:aw w 64 m with _|⟨x,r⟩
 ·rw[e] at k2
  exact absurd k2 (Nat.ne_of_lt h0)
 ·rw[e] at k1 k2 k3
  exact⟨x,r,rfl,k1,k2,Nat.lt_succ_of_le k3,by rw[<-k2,Gs h1]⟩
theorem zq{w q B:Nat}(h1:1<=w)(hw:w<=9)(hq:0<q)(hB:B%2=1)(Nd:B<2^64)(hA:q*B<2^64):
  ao prog 400 (n+8) (.fn 344) none [.seq false (ns (aw w 64 (q*B))),.seq false (ns (aw w 64 B)),.int w]=some (.ok (.seq false (ns (aw w 64 q))) [])/\
  ao prog 400 (n+8) (.fn 358) none [.seq false (ns (aw w 64 (q*B))),.seq false (ns (aw w 64 B)),.int w]=some (.ok (.bool true) []):=by
 refine Ek (λ a0 as ea a1 a2 a3 _=>?_)<|dy h1 hA (Nat.mul_pos hq (by lia))
 refine Ek (λ b0 bs eb b1 b2 b3 b4=>?_)<|dy h1 Nd (by lia)
 have TF:bs.length+1<65:=b3
 refine fY (λ v v1 v2 _=>?_)<|Hj (n:=n) h1 hw a1 (λ h=>nomatch h) a3 b1 (by exact Nat.lt_of_succ_lt ‹_›) (by lia) (by rw[a2];exact hA)
 have v3:=v2 q (by rw[a2,b2])
 subst v3
 rw[ea,eb]
 exact⟨(Gr (b:=b0::bs) (Nat.succ_pos _) (Nat.lt_trans b3 (by decide)) v1).2 _ _ rfl,MD (b:=b0::bs) (Nat.succ_pos _) (Nat.lt_trans b3 (by decide)) v1⟩
theorem ux{w A B:Nat}(h1:1<=w)(hw:w<=9)(TG:0<A)(hA:A<2^64)(hB:B%2=1)(Nd:B<2^64)(et:∀q,A≠q*B):
  ao prog 400 (n+8) (.fn 344) none [.seq false (ns (aw w 64 A)),.seq false (ns (aw w 64 B)),.int w]=some (.exc 49 .none)/\
  ao prog 400 (n+8) (.fn 351) none [.seq false (ns (aw w 64 A)),.seq false (ns (aw w 64 B)),.int w,.obj 414]=some (.exc 49 .none):=by
 refine Ek (λ a0 as ea a1 a2 a3 _=>?_)<|dy h1 hA TG
 refine Ek (λ b0 bs eb b1 b2 b3 b4=>?_)<|dy h1 Nd (by lia)
 have TF:bs.length+1<65:=b3
 refine fY (λ v v1 _ v2=>?_)<|Hj (n:=n) h1 hw a1 (λ h=>nomatch h) a3 b1 (by exact Nat.lt_of_succ_lt ‹_›) (by lia) (by rw[a2];exact hA)
 have E6:∀q,ak w (a0::as)≠q*ak w (b0::bs):=by rw[a2,b2];exact et
 rw[ea,eb]
 exact⟨(Gr (b:=b0::bs) (Nat.succ_pos _) (Nat.lt_trans b3 (by decide)) v1).1 (v2 E6),D7 (n:=n+1) h1 hw a1 (λ h=>nomatch h) a3 b1 b3 (by lia) (by rw[a2];exact hA) (by rw[b2];exact Nd) E6⟩
theorem zr{w A:Nat}(h1:1<=w)(hw:w<=9)(hA:A<2^64)(Ur:A%2=1):
  ao prog 400 (n+8) (.fn 344) none [.seq false (ns (aw w 64 A)),.seq false (ns (aw w 64 2)),.int w]=some (.exc 49 .none)/\
  ao prog 400 (n+8) (.fn 351) none [.seq false (ns (aw w 64 A)),.seq false (ns (aw w 64 2)),.int w,.obj 414]=some (.exc 49 .none):=by
 refine Ek (λ a0 as ea a1 a2 a3 a4=>?_)<|dy h1 hA (by lia)
 refine Ek (λ b0 bs eb b1 b2 b3 b4=>?_)<|dy (m:=2) h1 (by decide) (by decide)
 have Us:as.length+1<65:=a3
 have k:=c_exq_2 (n:=n) (r:=as) h1 hw a1.1 (by lia) (by lia)
 have k2:=c_newton_2 (n:=n+1) (r:=as) h1 hw a1.1 (by lia) (by lia)
 rw[<-ea] at k k2
 rw[eb] at k k2 ⊢
 exact⟨(Gr (b:=b0::bs) (Nat.succ_pos _) (Nat.lt_trans b3 (by decide)) k).1 rfl,k2⟩
theorem zt{a:V}{k:Int}{w:Nat}:ao prog Wn (n+1) (.fn 323) none [a,.seq false [],.int k,.int w]=some (.exc 82 .none):=by
 rw[aE (fn:=fP) rfl]
 refine dN rfl rfl (by decide) ?_
 show aU _ _ dp [.val a,.val (.seq false []),.val (.int k),VI w,.af,.af,.af,.af,.af,.af,.af,.af,.af]=_
 unfold dp
 exact cZ (aX (fQ (bY (ay (aK rfl (e9 (xs:=[]) (by decide))) ah (bw (tt rfl))) rfl)) (fS ah))
theorem zu{k:Int}{m:V}{w:Nat}:ao prog Wn (n+1) (.fn 309) none [.seq false [],.int k,.int w,m]=some (.exc 82 .none):=by
 rw[aE (fn:=fs) rfl]
 refine dN rfl rfl (by decide) ?_
 show aU _ _ cX [.val (.seq false []),.val (.int k),VI w,.val m,.af,.af,.af,.af]=_
 unfold cX
 exact cZ (aX (fQ (bY (ay (aK rfl (e9 (xs:=[]) (by decide))) ah (bw (tt rfl))) rfl)) (fS ah))
theorem zv{a:V}{b0:Nat}{bs:List Nat}{k:Int}{w:Nat}(hl:(b0::bs).length<400)(he:b0%2=0):ao prog Wn (n+1) (.fn 323) none [a,.seq false (ns (b0::bs)),.int k,.int w]=some (.exc 82 .none):=by
 have hL:bL=100000:=rfl
 have ye:bs.length+1<400:=hl
 rw[aE (fn:=fP) rfl]
 refine dN rfl rfl (by decide) ?_
 show aU _ _ dp [.val a,.val (.seq false (ns (b0::bs))),.val (.int k),VI w,.af,.af,.af,.af,.af,.af,.af,.af,.af]=_
 unfold dp
 have hx:cV (.seq false (ns (b0::bs))) (.int 0)=some (.int b0):=eN (i:=0) (ls:=b0::bs) (by show bs.length+1<_;exact cD ‹_› (by decide)) rfl
 have hm:dz .mod (.int b0) (.int 2)=some (.int 0):=(mod_int (by decide)).trans (by
  have:=jW b0 2
  rw[he] at this
  exact congrArg (λ q=>some (V.int q)) this)
 exact cZ (aX (fQ (cy (ay (aK rfl (e9 hl)) ah (bw (ff (by show ¬((bs.length+1:Nat):Int)=0;lia)))) (bY (ay (c:=true) (az (bc rfl ah hx) ah hm) ah (bw rfl)) rfl))) (fS ah))
theorem zw{b0:Nat}{bs:List Nat}{m:V}{w:Nat}(hl:(b0::bs).length<400)(ho:b0%2=1):ao prog Wn (n+1) (.fn 309) none [.seq false (ns (b0::bs)),.int 0,.int w,m]=some (.ok (.seq false []) []):=by
 have hL:bL=100000:=rfl
 have ye:bs.length+1<400:=hl
 rw[aE (fn:=fs) rfl]
 refine aS rfl rfl (by decide) ?_
 apply Exists.intro
 show aU _ _ cX [.val (.seq false (ns (b0::bs))),.val (.int 0),VI w,.val m,.af,.af,.af,.af]=_
 unfold cX
 have hx:cV (.seq false (ns (b0::bs))) (.int 0)=some (.int b0):=eN (i:=0) (ls:=b0::bs) (by show bs.length+1<_;exact cD ‹_› (by decide)) rfl
 exact aj (aN (fQ (cy (ay (aK rfl (e9 hl)) ah (bw (ff (by show ¬((bs.length+1:Nat):Int)=0;lia)))) (cy (ay (c:=false) (az (bc rfl ah hx) ah (xN ho)) ah (bw rfl)) fj))) aM) (aH (aX (ay (ae rfl) ah (bw (tt rfl))) (aH (aY (bR aq rfl)))))
theorem JX{is:List Nat}{x:X}{b:Ss}{ys:List V}{r:Option F}(h:Ok call x sl (.seq true ys) aB)(hl:dO ys=true)(h2:bW (aU call Wn b) (λ x sl=>match x with| .seq true vs=>cz sl is (vs.map .val)|_=>none) ys aB=r):ex call Wn (.xT is x b) sl=r:=by
 show(aW (ev call x sl) λ a sl=>match a with
  | .seq true ys=>if dO ys then bW (aU call Wn b) (λ x sl=>match x with| .seq true vs=>cz sl is (vs.map .val)|_=>none) ys sl else none
  |_=>none)=_
 rw[h]
 show(if dO ys then bW _ _ ys aB else none)=_
 rw[if_pos hl,h2]
theorem D8{x:X}{a v:V}(h1:Ok call x sl a aB)(h3:pJ a=some v):Ok call (.repr x) sl v aB:=by
 show(au (ev call x sl) λ a sl=>(pJ a).map (R.ok · sl))=_
 rw[h1];show(pJ a).map _=_;rw[h3];rfl
theorem ne_str(x:Str):cL .ne (.str x) (.str x)=some false:=by
 show some (!(x==x))=_
 rw[beq_self_eq_true];rfl
theorem wh{a b:Nat}(ha:a<2^4000)(hb:b<2^4000):dz .mul (.int a) (.int b)=some (.int ((a*b:Nat):Int)):=mul_int (jU ha) (jU hb)
theorem jF{k:Nat}{l:pb}{bM:List Nat}{vs:List V}{C:Nat}{nm:Str}(hc:iV sl bM=some vs)(hl:prog.pe[k]?=some l)(hn:vs.length=l.names.length)(hC:C=37\/C=49\/C=82\/C=94)(h:ev (ao prog Wn n) l.body (vs.map Slot.val)=some (.exc C .none)):gQ (ao prog Wn (n+2)) (.aC .ne (.dI 428 "_law_kind" k bM) (.glob nm (.cls C))) sl false sl:=
 ay (xi hc (oS hC (xj hl hn h)) rfl) cY (by
  show(if C=C then some true else none:Option Bool).map (!·)=_
  rw[if_pos rfl];rfl)
noncomputable def j0(xs:List Int)(c s w m odd:Nat)(z7 z8 z9 zx:Slot):List Slot:=[.aD (bU xs c s),VI w,VI m,VI odd,.val (.seq false (ns (aw w 64 (m*odd)))),.val (.seq false (ns (aw w 64 odd))),.val (.seq false (ns (aw w 64 (2*odd)))),z7,z8,z9,zx]
noncomputable def Pp:Ss:=(.cons (.e8 [9,10] (.cons (.call 400 "_law_limbs" (.cons (.ai 7) (.cons (.ai 1) .nil))) (.cons (.call 400 "_law_limbs" (.cons (.ai 8) (.cons (.ai 1) .nil))) .nil)))
  (.cons (.ite (.aC .ne (.dI 428 "_law_kind" 9 [1,10,9]) (.glob "NotExact" (.cls 49))) (.cons (.ret (.av (.bool false)))
  .nil) .nil)
  (.cons (.ite (.aC .ne (.dI 428 "_law_kind" 8 [1,10,9]) (.glob "NotExact" (.cls 49))) (.cons (.ret (.av (.bool false)))
  .nil) .nil)
  .nil)))
theorem rR{xs:List Int}{c s w m odd A B:Nat}{z7 z8 z9 zx:Slot}{r:Option F}{ys:List V}(h1:1<=w)(hw:w<=9)(f7:Frs z7)(f8:Frs z8)(f9:Frs z9)(NT:Frs zx)(hA:A<2^64)(hB:B<2^64)
  (k:ao prog 400 (n+8) (.fn 344) none [.seq false (ns (aw w 64 A)),.seq false (ns (aw w 64 B)),.int w]=some (.exc 49 .none)/\
  ao prog 400 (n+8) (.fn 351) none [.seq false (ns (aw w 64 A)),.seq false (ns (aw w 64 B)),.int w,.obj 414]=some (.exc 49 .none))
  (h:bW (aU (ao prog 400 (n+10)) 400 Pp) (λ x sl=>match x with| .seq true vs=>cz sl [7,8] (vs.map .val)|_=>none) ys (j0 xs c s w m odd (VI A) (VI B) (.val (.seq false (ns (aw w 64 A)))) (.val (.seq false (ns (aw w 64 B)))))=r):
  bW (aU (ao prog 400 (n+10)) 400 Pp) (λ x sl=>match x with| .seq true vs=>cz sl [7,8] (vs.map .val)|_=>none) (.seq true [.int A,.int B]::ys) (j0 xs c s w m odd z7 z8 z9 zx)=r:=by
 have hL:bL=100000:=rfl
 have q1:=iK (Wn:=400) (n:=n+9) (w:=w) (m:=A) (j:=64) h1 (by exact iT ‹_› (by decide)) hA (by decide) (by decide)
 have q2:=iK (Wn:=400) (n:=n+9) (w:=w) (m:=B) (j:=64) h1 (by exact iT ‹_› (by decide)) hB (by decide) (by decide)
 have s7:bg (j0 xs c s w m odd z7 z8 z9 zx) 7 (VI A)=some (j0 xs c s w m odd (VI A) z8 z9 zx):=cG (a:=[_,_,_,_,_,_,_]) (b:=[_,_,_]) f7
 have s8:bg (j0 xs c s w m odd (VI A) z8 z9 zx) 8 (VI B)=some (j0 xs c s w m odd (VI A) (VI B) z9 zx):=cG (a:=[_,_,_,_,_,_,_,_]) (b:=[_,_]) f8
 have s9:∀v,bg (j0 xs c s w m odd (VI A) (VI B) z9 zx) 9 v=some (j0 xs c s w m odd (VI A) (VI B) v zx):=λ v=>cG (a:=[_,_,_,_,_,_,_,_,_]) (b:=[_]) f9
 have TH:∀v z,bg (j0 xs c s w m odd (VI A) (VI B) z zx) 10 v=some (j0 xs c s w m odd (VI A) (VI B) z v):=λ v z=>cG (a:=[_,_,_,_,_,_,_,_,_,_]) (b:=[]) NT
 refine kK (aB:=j0 xs c s w m odd (VI A) (VI B) z9 zx) ?_ ?_ h
 ·show((bg (j0 xs c s w m odd z7 z8 z9 zx) 7 (VI A)).bind λ sl=>(bg sl 8 (VI B)).bind some)=_
  rw[s7]
  show(bg _ _ _).bind some=_
  rw[s8];rfl
 ·unfold Pp
  refine aj (aB:=j0 xs c s w m odd (VI A) (VI B) (.val (.seq false (ns (aw w 64 A)))) (.val (.seq false (ns (aw w 64 B))))) (dY (aa (aF (aa (ae rfl) (aa (ae rfl) aq)) q1) (aa (aF (aa (ae rfl) (aa (ae rfl) aq)) q2) aq)) ?_) ?_
  ·show((bg _ 9 (.val (.seq false (ns (aw w 64 A))))).bind λ sl=>(bg sl 10 (.val (.seq false (ns (aw w 64 B))))).bind some)=_
   rw[s9]
   show(bg _ _ _).bind some=_
   rw[TH];rfl
  ·exact aj (aN (jF (l:=l_9) (vs:=[.int w,.seq false (ns (aw w 64 B)),.seq false (ns (aw w 64 A))]) rfl rfl rfl (Or.inr (Or.inl rfl)) (eF (aa (ae rfl) (aa (ae rfl) (aa (ae rfl) aq))) k.1)) aM) (aj (aN (jF (l:=l_8) (vs:=[.int w,.seq false (ns (aw w 64 B)),.seq false (ns (aw w 64 A))]) rfl rfl rfl (Or.inr (Or.inl rfl)) (eF (aa (ae rfl) (aa (ae rfl) (aa (ae rfl) (aa cY aq)))) k.2)) aM) aM)
theorem Pq{m odd q:Nat}(h:3<=odd):m*odd+1≠q*odd:=by
 intro e
 have h1:(m*odd+1)%odd=1:=by
  rw[Nat.add_comm,Nat.add_mul_mod_self_right,Nat.mod_eq_of_lt (by lia)]
 rw[e,Nat.mul_mod_left] at h1
 lia
theorem Pr{B q:Nat}(h:2<=B):1≠q*B:=by
 intro e
 rcases Nat.eq_zero_or_pos q with h1|h1
 ·rw[h1,Nat.zero_mul] at e;lia
 ·have:=Nat.le_mul_of_pos_left B h1
  lia
theorem Pt{a k:Nat}(hk:k<=4096)(ha:a<2^4000):dz .shl (.int a) (.int k)=some (.int ((a*2^k:Nat):Int)):=(dq (by exact mv (Nat.zero_le _)) (by exact zz ‹_›) (jU ha)).trans (by rw[Int.toNat_natCast,dE,Int.natCast_mul])
theorem uy{xs:List Int}{c s w:Nat}(hl:xs.length<=40)(h1:1<=w)(hw:w<=9)(hc:c<2^59):
  ∃c',c'<=c+10/\ao prog 400 (n+11) (.fn 466) (some (bU xs c s)) [.int w]=some (.ok (.bool true) (bU xs c' s)):=by
 have hL:bL=100000:=rfl
 have Kq:(2:Nat)^59+1000<2^60:=by decide
 have Ut:20000000000<2^64:=by decide
 have Uu:(2:Nat)^64<=2^4000:=UP (by decide) (by decide)
 refine aV (λ r1 Kr g1=>?_)<|dZ (Wn:=400) (n:=n+9) (xs:=xs) (c:=c) (s:=s) (m:=99) hl (by exact Nat.le_add_left _ _) (by exact cD ‹_› (by decide))
 refine aV (λ r2 Mq g2=>?_)<|dZ (Wn:=400) (n:=n+9) (xs:=xs) (c:=c+1) (s:=s) (m:=30) hl (by exact Nat.le_add_left _ _) (by lia)
 obtain⟨m,hm⟩:∃m,m=1+r1:=⟨_,rfl⟩
 obtain⟨odd,TJ⟩:∃odd,odd=3+2*r2:=⟨_,rfl⟩
 have Uv:m*odd<=99*61:=Nat.mul_le_mul (by lia) (by lia)
 have Uw:1<=m*odd:=Nat.mul_pos (by lia) (by lia)
 have TK:2^(2*w)<=2^18:=UP (by decide) (by lia)
 have TM:=Nat.two_pow_pos (2*w)
 have TN:odd*2^(2*w)<=61*2^18:=Nat.mul_le_mul (by lia) TK
 have Qt:3*1<=odd*2^(2*w):=Nat.mul_le_mul (by lia) TM
 have Qu:(odd*2^(2*w))%2=0:=by
  obtain⟨j,hj⟩:∃j,2*w=j+1:=⟨2*w-1,by lia⟩
  rw[hj,Nat.pow_succ,<-Nat.mul_assoc,Nat.mul_mod_left]
 have q1:=iK (Wn:=400) (n:=n+9) (w:=w) (m:=m*odd) (j:=64) h1 (by exact iT ‹_› (by decide)) (by exact gy ‹_› (by decide)) (by decide) (by decide)
 have q2:=iK (Wn:=400) (n:=n+9) (w:=w) (m:=odd) (j:=64) h1 (by exact iT ‹_› (by decide)) (by lia) (by decide) (by decide)
 have q3:=iK (Wn:=400) (n:=n+9) (w:=w) (m:=2*odd) (j:=64) h1 (by exact iT ‹_› (by decide)) (by lia) (by decide) (by decide)
 have q4:=iK (Wn:=400) (n:=n+9) (w:=w) (m:=m) (j:=64) h1 (by exact iT ‹_› (by decide)) (by lia) (by decide) (by decide)
 refine d8 (λ y1 y2=>?_)<|zq (n:=n+2) (q:=m) (B:=odd) h1 hw (by lia) (by lia) (by lia) (by exact gy ‹_› (by decide))
 have kA:=ux (n:=n) (w:=w) (A:=m*odd+1) (B:=odd) h1 hw (by exact Nat.succ_pos _) (by lia) (by lia) (by lia) (λ q=>Pq (by lia))
 have kB:=zr (n:=n) (w:=w) (A:=m*odd*2+1) h1 hw (by lia) (by lia)
 have kC:=ux (n:=n) (w:=w) (A:=1) (B:=odd*2^(2*w)+1) h1 hw (by exact Nat.succ_pos _) (by decide) (by lia) (by lia) (λ q=>Pr (by lia))
 refine Ek (λ b0 bs eb b1 b2 b3 b4=>?_)<|dy (w:=w) (m:=odd) h1 (by lia) (by lia)
 refine Ek (λ e0 es ee e1 e2 e3 e4=>?_)<|dy (w:=w) (m:=2*odd) h1 (by lia) (by lia)
 have S6:=cI (w:=w) 64 (m*odd)
 have Ux:1<=(aw w 64 (m*odd)).length:=by
  refine fb (λ a0 as ea _=>?_)<|dy (w:=w) (m:=m*odd) h1 (by exact gy ‹_› (by decide)) (by exact Nat.lt_of_succ_le ‹_›)
  rw[ea];exact Nat.succ_pos _
 have x0:ao prog 400 (n+10) (.fn 358) none [.seq false [],.seq false [],.int w]=some (.ok (.bool true) []):=o7 (a:=[]) (by decide)
 have x1:ao prog 400 (n+10) (.fn 358) none [.seq false (ns (aw w 64 (m*odd))),.seq false [],.int w]=some (.ok (.bool false) []):=(o7 (a:=aw w 64 (m*odd)) (by exact gy ‹_› (by decide))).trans (by rw[UM (by lia)])
 have x2:ao prog 400 (n+10) (.fn 309) none [.seq false (ns (aw w 64 odd)),.int 0,.int w,.obj 414]=some (.ok (.seq false []) []):=by rw[eb];exact zw (by exact cD ‹_› (by decide)) (by lia)
 have x3:ao prog 400 (n+10) (.fn 344) none [.seq false [],.seq false (ns (aw w 64 odd)),.int w]=some (.ok (.seq false []) []):=by
  rw[eb];exact(Gr (a:=[]) (b:=b0::bs) (Nat.succ_pos _) (by exact cD ‹_› (by decide)) zk).2 _ _ rfl
 refine⟨c+1+1,by lia,?_⟩
 rw[aE (fn:=fg) rfl]
 refine ie rfl rfl (by decide) ?_
 apply Exists.intro
 show aU _ _ dH [.aD (bU xs c s),VI w,.af,.af,.af,.af,.af,.af,.af,.af,.af]=_
 unfold dH
 refine aj (aB:=[.aD (bU xs (c+1+1) s),VI w,VI m,VI odd,.af,.af,.af,.af,.af,.af,.af]) (dY (aa (az ah (c8 rfl (aa ah aq) rfl g1) rfl) (aa (az ah (az ah (c8 rfl (aa ah aq) rfl g2) (wh (a:=2) (by decide) (by exact cD ‹_› (by decide)))) rfl) aq)) ?_) ?_
 ·have i1:(1:Int)+(r1:Nat)=(m:Nat):=by lia
  have i2:(3:Int)+((2*r2:Nat):Int)=(odd:Nat):=by lia
  rw[i1,i2];rfl
 refine aj (aB:=j0 xs (c+1+1) s w m odd .af .af .af .af) (dY (aa (aF (aa (az (ae rfl) (ae rfl) (wh (by lia) (by lia))) (aa (ae rfl) aq)) q1) (aa (aF (aa (ae rfl) (aa (ae rfl) aq)) q2) (aa (aF (aa (az ah (ae rfl) (wh (a:=2) (by decide) (by lia))) (aa (ae rfl) aq)) q3) aq))) rfl) ?_
 refine aj (aN (fQ (cy (jF (l:=l_15) (vs:=[.int w]) rfl rfl rfl (Or.inr (Or.inr (Or.inl rfl))) (eF (aa ah (aa (ae rfl) aq)) (wc (d:=0) (n:=n+7) rfl))) (cy (jF (l:=l_14) (vs:=[.int w,.seq false (ns (aw w 64 (m*odd)))]) rfl rfl rfl (Or.inr (Or.inr (Or.inl rfl))) (eF (aa (ae rfl) (aa (bR aq rfl) (aa ah (aa (ae rfl) aq)))) (zt (n:=n+7)))) fj))) aM) ?_
 refine aj (aN (jF (l:=l_13) (vs:=[.int w]) rfl rfl rfl (Or.inr (Or.inr (Or.inl rfl))) (eF (aa (bR aq rfl) (aa ah (aa (ae rfl) (aa cY aq)))) (zu (n:=n+7)))) aM) ?_
 refine aj (aN (aB:=j0 xs (c+1+1) s w m odd .af .af .af .af) ?_ aM) ?_
 ·by_cases gz:1<w
  ·refine eg (cy (ay (ae rfl) ah (cmp_gt (tt (by exact rY ‹_›)))) (bY (jF (l:=l_12) (vs:=[.int w,.seq false (ns (aw w 64 (2*odd))),.seq false (ns (aw w 64 (m*odd)))]) rfl rfl rfl (Or.inr (Or.inr (Or.inl rfl))) (eF (aa (ae rfl) (aa (ae rfl) (aa ah (aa (ae rfl) aq)))) ?_)) rfl))
   rw[ee]
   exact zv (n:=n+7) (by exact cD ‹_› (by decide)) (by lia)
  ·exact eg (bY (ay (ae rfl) ah (cmp_gt (ff (by lia)))) rfl)
 refine aj (aN (fQ (cy (ay (aF (aa (ae rfl) (aa ah (aa (ae rfl) (aa cY aq)))) x2) (bR aq rfl) (ne_self (xs:=[]) (by decide))) (cy (ay (aF (aa (bR aq rfl) (aa (ae rfl) (aa (ae rfl) aq))) x3) (bR aq rfl) (ne_self (xs:=[]) (by decide))) fj))) aM) ?_
 refine aj (aN (ay (aF (aa (ae rfl) (aa (ae rfl) (aa (ae rfl) aq))) y1) (aF (aa (ae rfl) (aa (ae rfl) aq)) q4) (ne_self (by have:=cI (w:=w) 64 m;exact gy ‹_› (by decide)))) aM) ?_
 refine aj (aN (ay (D8 (bR (aa (aF (aa (bR aq rfl) (aa (bR aq rfl) (aa (ae rfl) aq))) x0) (aa (aF (aa (ae rfl) (aa (bR aq rfl) (aa (ae rfl) aq))) x1) (aa (aF (aa (ae rfl) (aa (ae rfl) (aa (ae rfl) aq))) y2) aq))) rfl) rfl) (D8 (bR (aa ah (aa ah (aa ah aq))) rfl) rfl) (ne_str _)) aM) ?_
 refine aj (aN (jF (l:=l_11) (vs:=[.int w,.seq false (ns (aw w 64 (m*odd)))]) rfl rfl rfl (Or.inl rfl) (eF (aa (ae rfl) (aa (bR aq rfl) (aa (ae rfl) aq))) (zl (n:=n+7)))) aM) ?_
 refine aj (aN (jF (l:=l_10) (vs:=[.int w]) rfl rfl rfl (Or.inl rfl) (eF (aa (bR aq rfl) (aa (bR aq rfl) (aa (ae rfl) (aa cY aq)))) (zm (n:=n+7)))) aM) ?_
 refine aj (aB:=j0 xs (c+1+1) s w m odd (.val (.int (1:Nat))) (.val (.int ((odd*2^(2*w)+1:Nat):Int))) (.val (.seq false (ns (aw w 64 1)))) (.val (.seq false (ns (aw w 64 (odd*2^(2*w)+1)))))) (JX (ys:=[.seq true [.int ((m*odd+1:Nat):Int),.int (odd:Nat)],.seq true [.int ((m*odd*2+1:Nat):Int),.int (2:Nat)],.seq true [.int (1:Nat),.int ((odd*2^(2*w)+1:Nat):Int)]]) (dC (aa (dC (aa (az (az (ae rfl) (ae rfl) (wh (by lia) (by lia))) ah rfl) (aa (ae rfl) aq)) rfl) (aa (dC (aa (az (az (az (ae rfl) (ae rfl) (wh (by lia) (by lia))) ah (wh (b:=2) (by exact gy ‹_› (by decide)) (by decide))) ah rfl) (aa ah aq)) rfl) (aa (dC (aa ah (aa (az (az (ae rfl) (az ah (ae rfl) (wh (a:=2) (by decide) (by exact gy ‹_› (by decide)))) (Pt (by lia) (by lia))) ah rfl) aq)) rfl) aq))) rfl) rfl ?_) ?_
 ·exact rR h1 hw eh eh eh eh (by lia) (by lia) kA (rR h1 hw cu cu cu cu (by lia) (by decide) kB (rR h1 hw cu cu cu cu (by decide) (by lia) kC Ml))
 ·exact aH (aY ah)
theorem MF{x:X}{a v:V}(h1:Ok call x sl a aB)(h3:uD a=some v):Ok call (.sum x) sl v aB:=by
 show(au (ev call x sl) λ a sl=>(uD a).map (R.ok · sl))=_
 rw[h1];show(uD a).map _=_;rw[h3];rfl
theorem Gu{i:Nat}{m body:X}{ys vs:List V}(h:Ok call m sl (.seq false ys) aB)(hl:dO ys=true)(hc:compLoop i (ev call body) ys aB=some (.ok vs sl2)):Ok call (.kL i m body) sl (.seq false vs) (sl2.set i .af):=by
 show(au (ev call m sl) λ a sl=>(eS a).bind λ ys=>au (compLoop i (ev call body) ys sl) λ vs sl=>some (R.ok (V.seq false vs) (sl.set i .af)))=_
 rw[h]
 show(if dO ys then some ys else none).bind _=_
 rw[if_pos hl]
 show au (compLoop i (ev call body) ys aB) _=_
 rw[hc];rfl
theorem JY{xs:Xs}(h:gR call xs sl=some (.ok (.bool true) aB)):Ok call (.rZ xs) sl (.bool true) aB:=h
theorem JZ{x:X}(h:Ok call x sl (.bool true) aB):gR call (.cons x .nil) sl=some (.ok (.bool true) aB):=h
theorem Hn{x y:X}{xs:Xs}(h:Ok call x sl (.bool true) aB)(h2:gR call (.cons y xs) aB=some (.ok (.bool true) sl2)):gR call (.cons x (.cons y xs)) sl=some (.ok (.bool true) sl2):=by
 show(au (ev call x sl) λ v sl=>match v with
  | .bool true=>gR call (.cons y xs) sl
  | .bool false=>some (.ok (.bool false) sl)
  |_=>none)=_
 rw[h];exact h2
theorem xO{a b c:Slot}:∀(ys:List Int) (z:Slot),∃z',compLoop 3 (ev call (.abs (.ai 3))) (ys.map .int) [a,b,c,z]=some (.ok ((ys.map λ y=>(y.natAbs:Int)).map .int) [a,b,c,z'])
 | [],z=>⟨z,rfl⟩
 |y::ys,z=>by
  obtain⟨z',h⟩:=xO ys (.val (.int y))
  exact⟨z',rD (Hb (ae rfl)) h⟩
theorem o8:∀ys:List Int,ez (ys.map .int)=some ys
 | []=>rfl
 |y::ys=>by
  show(some y).bind (λ i=>(ez (ys.map .int)).map (i:: ·))=_
  rw[o8 ys];rfl
theorem sum_ints{ys:List Int}(h:ys.length<bL):uD (.seq false (ys.map .int))=some (.int ys.sum):=by
 show((if dO (ys.map V.int) then some (ys.map V.int) else none).bind λ xs=>(ez xs).map λ ns=>V.int ns.sum)=_
 rw[if_pos (show dO (ys.map V.int)=true from UJ (by rw[List.length_map];exact h))]
 show((ez (ys.map .int)).map λ ns=>V.int ns.sum)=_
 rw[o8];rfl
theorem slc_40{zs:List Int}(h:zs.length<=63):fZ none (some 40) (.seq false (zs.map .int))=some (.seq false ((zs.take 40).map .int)):=by
 have hL:bL=100000:=rfl
 by_cases hk:40<=zs.length
 ·have:=rq (xs:=zs.map V.int) (k:=40) (by rw[List.length_map];exact gy ‹_› (by decide)) (by rw[List.length_map];exact hk)
  rw[<-List.map_take] at this;exact this
 ·have:=uj (xs:=zs.map V.int) (k:=40) (by rw[List.length_map];exact gy ‹_› (by decide)) (by rw[List.length_map];lia)
  rw[List.take_of_length_le (by lia)];exact this
theorem zy{zs:List Int}(h:zs.length<=63):∃sl,aU (ao prog 400 30) 400 Cg [.val (.seq false (zs.map .int)),.af,.af,.af]=some (.ret (.bool true) sl):=by
 have hL:bL=100000:=rfl
 have Kt:(zs.take 40).length<=40:=by rw[List.length_take];exact Nat.min_le_left _ _
 obtain⟨ys,ey⟩:∃ys,ys=zs.take 40:=⟨_,rfl⟩
 rw[<-ey] at Kt
 refine aV (λ r hr er=>?_)<|rC (a:=(ys.map λ y=>(y.natAbs:Int)).sum) (m:=59) (by decide)
 refine bJ (λ z' kz=>?_)<|xO (call:=ao prog 400 30) (a:= .val (.seq false (zs.map .int))) (b:= .af) (c:= .af) ys .af
 refine aV (λ r1 Kr g1=>?_)<|dZ (Wn:=400) (n:=29) (xs:=ys) (c:=0) (s:=r) (m:=9) Kt (by decide) (by decide)
 obtain⟨w,hw⟩:∃w,w=1+r1:=⟨_,rfl⟩
 have Te:(100000000:Nat)<2^58:=by decide
 have Kq:(2:Nat)^58<2^59:=by decide
 refine aV (λ c1 Uy t1=>?_)<|lO (Wn:=400) (n:=17) (xs:=ys) (c:=0+1) (s:=r) (w:=w) Kt (by lia) (by lia) (by decide) (by decide)
 refine aV (λ c2 Uz t2=>?_)<|lO (Wn:=400) (n:=17) (xs:=ys) (c:=c1) (s:=r) (w:=w) Kt (by lia) (by lia) (by decide) (by exact gy ‹_› (by decide))
 refine aV (λ c3 UA t3=>?_)<|oU (Wn:=400) (n:=18) (xs:=ys) (c:=c2) (s:=r) (w:=w) Kt (by lia) (by lia) (by decide) (by lia)
 refine aV (λ c4 UB t4=>?_)<|uy (n:=19) (xs:=ys) (c:=c3) (s:=r) (w:=w) Kt (by lia) (by lia) (by lia)
 have hb:=DI (w:=w) (by lia) (by lia)
 have J0:=slc_40 h
 rw[<-ey] at J0
 apply Exists.intro
 unfold Cg
 refine aj (aB:=[.val (.seq false (zs.map .int)),.own (bU ys 0 r),.af,.af]) (mf rfl (bR (aa (jP (ae rfl) ah J0) (aa ah (aa (az (MF (Gu (jP (ae rfl) ah J0) (UJ (by rw[List.length_map];exact gy ‹_› (by decide))) kz) (sum_ints (by rw[List.length_map];exact gy ‹_› (by decide)))) ah ((mod_int (by decide)).trans (congrArg (λ q=>some (V.int q)) er))) aq))) rfl) rfl) ?_
 refine aj (aB:=[.val (.seq false (zs.map .int)),.own (bU ys (0+1) r),VI w,.af]) (bq (az ah (jR rfl (aa ah aq) rfl g1) rfl) ?_) ?_
 ·have i1:(1:Int)+(r1:Nat)=(w:Nat):=by lia
  rw[i1];rfl
 refine aj (aN (fQ (cy (ay (aF (aa ah (aa ah (aa (ae rfl) aq))) Gh) (dC (aa ah (aa ah aq)) rfl) (c:=false) rfl) (cy (ay (aF (aa ah (aa ah (aa (ae rfl) aq))) Gi) (dC (aa ah (aa ah aq)) rfl) (c:=false) rfl) fj))) aM) ?_
 refine aj (aN (fQ (cy (tG (iQ (jR rfl (aa (ae rfl) aq) rfl t1))) (cy (tG (iQ (jR rfl (aa (ae rfl) aq) rfl t2))) fj))) aM) ?_
 exact aH (aY (JY (Hn (aF (aa (ae rfl) aq) hb) (Hn (jR rfl (aa (ae rfl) aq) rfl t3) (JZ (jR rfl (aa (ae rfl) aq) rfl t4))))))
end Mine
end
section
open PySem PySem.W PyProof.Rows PySem.Calls
namespace Mine
theorem J1:Plain:=λ zs h=>by
 refine bJ (λ sl k=>?_)<|zy h
 exact⟨30,400,sl,by decide,k⟩
theorem all_:PySem.Challenge.rw_pq0546_01.Holds:=OW J1
end Mine
end
set_option maxRecDepth 100000 in
theorem PySem.Challenge.cw_pq0546_01_holds : PySem.Challenge.rw_pq0546_01.Holds :=
  Mine.all_
