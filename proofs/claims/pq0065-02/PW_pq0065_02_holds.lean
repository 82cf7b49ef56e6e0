import PyProof.Rows.All
import Wide.All
import OpenK.AllK
import Wide.FinOn
import KE.KDictSum
import PySem.Challenge.RW_pq0065_02
set_option autoImplicit false
set_option maxRecDepth 100000
set_option bootstrap.genMatcherCode false
noncomputable section
namespace Mine.Internal
noncomputable def c7t:=@PySem.wpAny_bind
noncomputable def c7u:=@PySem.wpAny_pure
noncomputable def c7v:=@Nat.le_of_ble_eq_true
noncomputable def c7w:=@List.mem_of_getElem?
noncomputable def c7x:=@List.length_map
section
variable {P:Prop} {α1 α2 α3 α4 α5 α6:Sort _}
theorem eE {r:α1->Prop} (h:∃ x1:α1,r x1) (k:∀ x1:α1,r x1->P):P:=h.elim λx1 h=>k x1 h
theorem eA {p1 r:Prop} (h:p1/\r) (k:p1->r->P):P:=h.elim λp1 h=>k p1 h
theorem i9 {p1 r:α1->Prop} (h:∃ x1:α1,p1 x1/\r x1) (k:∀ x1:α1,p1 x1->r x1->P):P:=h.elim λx1 h=>h.elim λp1 h=>k x1 p1 h
theorem eAA {p1 p2 r:Prop} (h:p1/\p2/\r) (k:p1->p2->r->P):P:=h.elim λp1 h=>h.elim λp2 h=>k p1 p2 h
theorem eEE {r:α1->α2->Prop} (h:∃ x1:α1,∃ x2:α2,r x1 x2) (k:∀ x1:α1,∀ x2:α2,r x1 x2->P):P:=h.elim λx1 h=>h.elim λx2 h=>k x1 x2 h
theorem A6 {p1 r:α1->α2->Prop} (h:∃ x1:α1,∃ x2:α2,p1 x1 x2/\r x1 x2) (k:∀ x1:α1,∀ x2:α2,p1 x1 x2->r x1 x2->P):P:=h.elim λx1 h=>h.elim λx2 h=>h.elim λp1 h=>k x1 x2 p1 h
theorem B2 {p1 p2 r:α1->Prop} (h:∃ x1:α1,p1 x1/\p2 x1/\r x1) (k:∀ x1:α1,p1 x1->p2 x1->r x1->P):P:=h.elim λx1 h=>h.elim λp1 h=>h.elim λp2 h=>k x1 p1 p2 h
theorem a8E {p1 p2 p3 r:Prop} (h:p1/\p2/\p3/\r) (k:p1->p2->p3->r->P):P:=h.elim λp1 h=>h.elim λp2 h=>h.elim λp3 h=>k p1 p2 p3 h
theorem k8 {p1 p2 r:α1->α2->Prop} (h:∃ x1:α1,∃ x2:α2,p1 x1 x2/\p2 x1 x2/\r x1 x2) (k:∀ x1:α1,∀ x2:α2,p1 x1 x2->p2 x1 x2->r x1 x2->P):P:=h.elim λx1 h=>h.elim λx2 h=>h.elim λp1 h=>h.elim λp2 h=>k x1 x2 p1 p2 h
theorem Q2 {p1 p2 p3 r:α1->Prop} (h:∃ x1:α1,p1 x1/\p2 x1/\p3 x1/\r x1) (k:∀ x1:α1,p1 x1->p2 x1->p3 x1->r x1->P):P:=h.elim λx1 h=>h.elim λp1 h=>h.elim λp2 h=>h.elim λp3 h=>k x1 p1 p2 p3 h
theorem a5K {p1 r:α1->α2->α3->Prop} (h:∃ x1:α1,∃ x2:α2,∃ x3:α3,p1 x1 x2 x3/\r x1 x2 x3) (k:∀ x1:α1,∀ x2:α2,∀ x3:α3,p1 x1 x2 x3->r x1 x2 x3->P):P:=h.elim λx1 h=>h.elim λx2 h=>h.elim λx3 h=>h.elim λp1 h=>k x1 x2 x3 p1 h
theorem a3R {p1 p2 p3 p4 r:Prop} (h:p1/\p2/\p3/\p4/\r) (k:p1->p2->p3->p4->r->P):P:=h.elim λp1 h=>h.elim λp2 h=>h.elim λp3 h=>h.elim λp4 h=>k p1 p2 p3 p4 h
theorem a0G {p1 p2:Prop} {p3 r:α1->Prop} (h:p1/\p2/\∃ x1:α1,p3 x1/\r x1) (k:p1->p2->∀ x1:α1,p3 x1->r x1->P):P:=h.elim λp1 h=>h.elim λp2 h=>h.elim λx1 h=>h.elim λp3 h=>k p1 p2 x1 p3 h
theorem S8 {p1 p2:α1->Prop} {r:α1->α2->Prop} (h:∃ x1:α1,p1 x1/\p2 x1/\∃ x2:α2,r x1 x2) (k:∀ x1:α1,p1 x1->p2 x1->∀ x2:α2,r x1 x2->P):P:=h.elim λx1 h=>h.elim λp1 h=>h.elim λp2 h=>h.elim λx2 h=>k x1 p1 p2 x2 h
theorem a9k {p1 p2 p3:Prop} {r:α1->Prop} (h:p1/\p2/\p3/\∃ x1:α1,r x1) (k:p1->p2->p3->∀ x1:α1,r x1->P):P:=h.elim λp1 h=>h.elim λp2 h=>h.elim λp3 h=>h.elim λx1 h=>k p1 p2 p3 x1 h
theorem a1o {p1:Prop} {p2 p3 r:α1->Prop} (h:p1/\∃ x1:α1,p2 x1/\p3 x1/\r x1) (k:p1->∀ x1:α1,p2 x1->p3 x1->r x1->P):P:=h.elim λp1 h=>h.elim λx1 h=>h.elim λp2 h=>h.elim λp3 h=>k p1 x1 p2 p3 h
theorem I6 {p1 p2 p3 r:α1->α2->Prop} (h:∃ x1:α1,∃ x2:α2,p1 x1 x2/\p2 x1 x2/\p3 x1 x2/\r x1 x2) (k:∀ x1:α1,∀ x2:α2,p1 x1 x2->p2 x1 x2->p3 x1 x2->r x1 x2->P):P:=h.elim λx1 h=>h.elim λx2 h=>h.elim λp1 h=>h.elim λp2 h=>h.elim λp3 h=>k x1 x2 p1 p2 p3 h
theorem a2t {p1 p2 r:α1->α2->α3->Prop} (h:∃ x1:α1,∃ x2:α2,∃ x3:α3,p1 x1 x2 x3/\p2 x1 x2 x3/\r x1 x2 x3) (k:∀ x1:α1,∀ x2:α2,∀ x3:α3,p1 x1 x2 x3->p2 x1 x2 x3->r x1 x2 x3->P):P:=h.elim λx1 h=>h.elim λx2 h=>h.elim λx3 h=>h.elim λp1 h=>h.elim λp2 h=>k x1 x2 x3 p1 p2 h
theorem b8h {p1 p2 p3 p4 r:α1->Prop} (h:∃ x1:α1,p1 x1/\p2 x1/\p3 x1/\p4 x1/\r x1) (k:∀ x1:α1,p1 x1->p2 x1->p3 x1->p4 x1->r x1->P):P:=h.elim λx1 h=>h.elim λp1 h=>h.elim λp2 h=>h.elim λp3 h=>h.elim λp4 h=>k x1 p1 p2 p3 p4 h
theorem b63 {p1:Prop} {p2 p3 r:α1->α2->Prop} (h:p1/\∃ x1:α1,∃ x2:α2,p2 x1 x2/\p3 x1 x2/\r x1 x2) (k:p1->∀ x1:α1,∀ x2:α2,p2 x1 x2->p3 x1 x2->r x1 x2->P):P:=h.elim λp1 h=>h.elim λx1 h=>h.elim λx2 h=>h.elim λp2 h=>h.elim λp3 h=>k p1 x1 x2 p2 p3 h
theorem a6y {p1:α1->Prop} {p2 p3 r:α1->α2->Prop} (h:∃ x1:α1,p1 x1/\∃ x2:α2,p2 x1 x2/\p3 x1 x2/\r x1 x2) (k:∀ x1:α1,p1 x1->∀ x2:α2,p2 x1 x2->p3 x1 x2->r x1 x2->P):P:=h.elim λx1 h=>h.elim λp1 h=>h.elim λx2 h=>h.elim λp2 h=>h.elim λp3 h=>k x1 p1 x2 p2 p3 h
theorem b35 {p1:Prop} {p2 p3 p4 r:α1->Prop} (h:p1/\∃ x1:α1,p2 x1/\p3 x1/\p4 x1/\r x1) (k:p1->∀ x1:α1,p2 x1->p3 x1->p4 x1->r x1->P):P:=h.elim λp1 h=>h.elim λx1 h=>h.elim λp2 h=>h.elim λp3 h=>h.elim λp4 h=>k p1 x1 p2 p3 p4 h
theorem b72 {p1 r:α1->α2->α3->α4->Prop} (h:∃ x1:α1,∃ x2:α2,∃ x3:α3,∃ x4:α4,p1 x1 x2 x3 x4/\r x1 x2 x3 x4) (k:∀ x1:α1,∀ x2:α2,∀ x3:α3,∀ x4:α4,p1 x1 x2 x3 x4->r x1 x2 x3 x4->P):P:=h.elim λx1 h=>h.elim λx2 h=>h.elim λx3 h=>h.elim λx4 h=>h.elim λp1 h=>k x1 x2 x3 x4 p1 h
theorem C8 {p1 p2 p3 p4 r:α1->α2->Prop} (h:∃ x1:α1,∃ x2:α2,p1 x1 x2/\p2 x1 x2/\p3 x1 x2/\p4 x1 x2/\r x1 x2) (k:∀ x1:α1,∀ x2:α2,p1 x1 x2->p2 x1 x2->p3 x1 x2->p4 x1 x2->r x1 x2->P):P:=h.elim λx1 h=>h.elim λx2 h=>h.elim λp1 h=>h.elim λp2 h=>h.elim λp3 h=>h.elim λp4 h=>k x1 x2 p1 p2 p3 p4 h
theorem U4 {p1 p2 p3 r:α1->α2->α3->Prop} (h:∃ x1:α1,∃ x2:α2,∃ x3:α3,p1 x1 x2 x3/\p2 x1 x2 x3/\p3 x1 x2 x3/\r x1 x2 x3) (k:∀ x1:α1,∀ x2:α2,∀ x3:α3,p1 x1 x2 x3->p2 x1 x2 x3->p3 x1 x2 x3->r x1 x2 x3->P):P:=h.elim λx1 h=>h.elim λx2 h=>h.elim λx3 h=>h.elim λp1 h=>h.elim λp2 h=>h.elim λp3 h=>k x1 x2 x3 p1 p2 p3 h
theorem a0R {p1 p2 p3 p4 p5 r:α1->Prop} (h:∃ x1:α1,p1 x1/\p2 x1/\p3 x1/\p4 x1/\p5 x1/\r x1) (k:∀ x1:α1,p1 x1->p2 x1->p3 x1->p4 x1->p5 x1->r x1->P):P:=h.elim λx1 h=>h.elim λp1 h=>h.elim λp2 h=>h.elim λp3 h=>h.elim λp4 h=>h.elim λp5 h=>k x1 p1 p2 p3 p4 p5 h
theorem S5 {p1 p2 p3:Prop} {p4 r:α1->α2->Prop} (h:p1/\p2/\p3/\∃ x1:α1,∃ x2:α2,p4 x1 x2/\r x1 x2) (k:p1->p2->p3->∀ x1:α1,∀ x2:α2,p4 x1 x2->r x1 x2->P):P:=h.elim λp1 h=>h.elim λp2 h=>h.elim λp3 h=>h.elim λx1 h=>h.elim λx2 h=>h.elim λp4 h=>k p1 p2 p3 x1 x2 p4 h
theorem b4o {p1 p2 r:α1->α2->α3->α4->Prop} (h:∃ x1:α1,∃ x2:α2,∃ x3:α3,∃ x4:α4,p1 x1 x2 x3 x4/\p2 x1 x2 x3 x4/\r x1 x2 x3 x4) (k:∀ x1:α1,∀ x2:α2,∀ x3:α3,∀ x4:α4,p1 x1 x2 x3 x4->p2 x1 x2 x3 x4->r x1 x2 x3 x4->P):P:=h.elim λx1 h=>h.elim λx2 h=>h.elim λx3 h=>h.elim λx4 h=>h.elim λp1 h=>h.elim λp2 h=>k x1 x2 x3 x4 p1 p2 h
theorem a40 {p1 p2 p3 p4 p5 r:α1->α2->Prop} (h:∃ x1:α1,∃ x2:α2,p1 x1 x2/\p2 x1 x2/\p3 x1 x2/\p4 x1 x2/\p5 x1 x2/\r x1 x2) (k:∀ x1:α1,∀ x2:α2,p1 x1 x2->p2 x1 x2->p3 x1 x2->p4 x1 x2->p5 x1 x2->r x1 x2->P):P:=h.elim λx1 h=>h.elim λx2 h=>h.elim λp1 h=>h.elim λp2 h=>h.elim λp3 h=>h.elim λp4 h=>h.elim λp5 h=>k x1 x2 p1 p2 p3 p4 p5 h
theorem b3b {p1 p2 p3 p4 r:α1->α2->α3->Prop} (h:∃ x1:α1,∃ x2:α2,∃ x3:α3,p1 x1 x2 x3/\p2 x1 x2 x3/\p3 x1 x2 x3/\p4 x1 x2 x3/\r x1 x2 x3) (k:∀ x1:α1,∀ x2:α2,∀ x3:α3,p1 x1 x2 x3->p2 x1 x2 x3->p3 x1 x2 x3->p4 x1 x2 x3->r x1 x2 x3->P):P:=h.elim λx1 h=>h.elim λx2 h=>h.elim λx3 h=>h.elim λp1 h=>h.elim λp2 h=>h.elim λp3 h=>h.elim λp4 h=>k x1 x2 x3 p1 p2 p3 p4 h
theorem a6X {p1 p2 p3 r:α1->α2->α3->α4->Prop} (h:∃ x1:α1,∃ x2:α2,∃ x3:α3,∃ x4:α4,p1 x1 x2 x3 x4/\p2 x1 x2 x3 x4/\p3 x1 x2 x3 x4/\r x1 x2 x3 x4) (k:∀ x1:α1,∀ x2:α2,∀ x3:α3,∀ x4:α4,p1 x1 x2 x3 x4->p2 x1 x2 x3 x4->p3 x1 x2 x3 x4->r x1 x2 x3 x4->P):P:=h.elim λx1 h=>h.elim λx2 h=>h.elim λx3 h=>h.elim λx4 h=>h.elim λp1 h=>h.elim λp2 h=>h.elim λp3 h=>k x1 x2 x3 x4 p1 p2 p3 h
theorem a7C {p1 p2 p3 p4 p5 p6 r:α1->Prop} (h:∃ x1:α1,p1 x1/\p2 x1/\p3 x1/\p4 x1/\p5 x1/\p6 x1/\r x1) (k:∀ x1:α1,p1 x1->p2 x1->p3 x1->p4 x1->p5 x1->p6 x1->r x1->P):P:=h.elim λx1 h=>h.elim λp1 h=>h.elim λp2 h=>h.elim λp3 h=>h.elim λp4 h=>h.elim λp5 h=>h.elim λp6 h=>k x1 p1 p2 p3 p4 p5 p6 h
theorem a1X {p1 p2:α1->α2->Prop} {p3 p4 r:α1->α2->α3->α4->Prop} (h:∃ x1:α1,∃ x2:α2,p1 x1 x2/\p2 x1 x2/\∃ x3:α3,∃ x4:α4,p3 x1 x2 x3 x4/\p4 x1 x2 x3 x4/\r x1 x2 x3 x4) (k:∀ x1:α1,∀ x2:α2,p1 x1 x2->p2 x1 x2->∀ x3:α3,∀ x4:α4,p3 x1 x2 x3 x4->p4 x1 x2 x3 x4->r x1 x2 x3 x4->P):P:=h.elim λx1 h=>h.elim λx2 h=>h.elim λp1 h=>h.elim λp2 h=>h.elim λx3 h=>h.elim λx4 h=>h.elim λp3 h=>h.elim λp4 h=>k x1 x2 p1 p2 x3 x4 p3 p4 h
theorem a3T {p1 p2 p3 p4 p5 p6 p7 p8 r:α1->α2->Prop} (h:∃ x1:α1,∃ x2:α2,p1 x1 x2/\p2 x1 x2/\p3 x1 x2/\p4 x1 x2/\p5 x1 x2/\p6 x1 x2/\p7 x1 x2/\p8 x1 x2/\r x1 x2) (k:∀ x1:α1,∀ x2:α2,p1 x1 x2->p2 x1 x2->p3 x1 x2->p4 x1 x2->p5 x1 x2->p6 x1 x2->p7 x1 x2->p8 x1 x2->r x1 x2->P):P:=h.elim λx1 h=>h.elim λx2 h=>h.elim λp1 h=>h.elim λp2 h=>h.elim λp3 h=>h.elim λp4 h=>h.elim λp5 h=>h.elim λp6 h=>h.elim λp7 h=>h.elim λp8 h=>k x1 x2 p1 p2 p3 p4 p5 p6 p7 p8 h
theorem a0W {p1 p2 p3 p4 p5:α1->α2->α3->α4->α5->Prop} {r:α1->α2->α3->α4->α5->α6->Prop} (h:∃ x1:α1,∃ x2:α2,∃ x3:α3,∃ x4:α4,∃ x5:α5,p1 x1 x2 x3 x4 x5/\p2 x1 x2 x3 x4 x5/\p3 x1 x2 x3 x4 x5/\p4 x1 x2 x3 x4 x5/\p5 x1 x2 x3 x4 x5/\∃ x6:α6,r x1 x2 x3 x4 x5 x6) (k:∀ x1:α1,∀ x2:α2,∀ x3:α3,∀ x4:α4,∀ x5:α5,p1 x1 x2 x3 x4 x5->p2 x1 x2 x3 x4 x5->p3 x1 x2 x3 x4 x5->p4 x1 x2 x3 x4 x5->p5 x1 x2 x3 x4 x5->∀ x6:α6,r x1 x2 x3 x4 x5 x6->P):P:=h.elim λx1 h=>h.elim λx2 h=>h.elim λx3 h=>h.elim λx4 h=>h.elim λx5 h=>h.elim λp1 h=>h.elim λp2 h=>h.elim λp3 h=>h.elim λp4 h=>h.elim λp5 h=>h.elim λx6 h=>k x1 x2 x3 x4 x5 p1 p2 p3 p4 p5 x6 h
theorem a0v {p1 p2 p3 p4 p5 p6 p7 p8 p9 p10 p11 r:α1->α2->α3->α4->Prop} (h:∃ x1:α1,∃ x2:α2,∃ x3:α3,∃ x4:α4,p1 x1 x2 x3 x4/\p2 x1 x2 x3 x4/\p3 x1 x2 x3 x4/\p4 x1 x2 x3 x4/\p5 x1 x2 x3 x4/\p6 x1 x2 x3 x4/\p7 x1 x2 x3 x4/\p8 x1 x2 x3 x4/\p9 x1 x2 x3 x4/\p10 x1 x2 x3 x4/\p11 x1 x2 x3 x4/\r x1 x2 x3 x4) (k:∀ x1:α1,∀ x2:α2,∀ x3:α3,∀ x4:α4,p1 x1 x2 x3 x4->p2 x1 x2 x3 x4->p3 x1 x2 x3 x4->p4 x1 x2 x3 x4->p5 x1 x2 x3 x4->p6 x1 x2 x3 x4->p7 x1 x2 x3 x4->p8 x1 x2 x3 x4->p9 x1 x2 x3 x4->p10 x1 x2 x3 x4->p11 x1 x2 x3 x4->r x1 x2 x3 x4->P):P:=h.elim λx1 h=>h.elim λx2 h=>h.elim λx3 h=>h.elim λx4 h=>h.elim λp1 h=>h.elim λp2 h=>h.elim λp3 h=>h.elim λp4 h=>h.elim λp5 h=>h.elim λp6 h=>h.elim λp7 h=>h.elim λp8 h=>h.elim λp9 h=>h.elim λp10 h=>h.elim λp11 h=>k x1 x2 x3 x4 p1 p2 p3 p4 p5 p6 p7 p8 p9 p10 p11 h
end
@[elab_as_elim] theorem b9 {α:Sort _} {a b:α} {motive:α->Prop} (h:a=b) (x:motive b):motive a:=h▸x
@[elab_as_elim] theorem t6 {α:Sort _} {a b:α} {motive:α->Prop} (h:b=a) (x:motive b):motive a:=h▸x
@[elab_as_elim] theorem I9 {a b:Prop} {motive:Prop->Prop} (h:a↔b) (x:motive b):motive a:=propext h▸x
theorem A3 {α:Type _} {a x:α} (h:some a=some x):a=x:=Option.some.inj h
variable {x0:Nat} {x1:Nat} {x2:Nat} {x3:Nat} {x4:Nat} {n:Nat} {m:Nat} {k:Nat} {t:Nat}
section
theorem zo0:x0 - 0 < x0+1:=Nat.sub_lt_succ x0 0
theorem zo1:¬x1 < x0->x0<=x1:=λh0=>Nat.le_of_not_lt h0
theorem zo2:x0<=2->x0+1<=1000000:=by lia
theorem zo3:x0 < x1->x0 < x1+1:=λh0=>Nat.lt_add_right 1 h0
theorem zo4:x0<=2->x0<=1000000:=by lia
theorem zo5:(↑x0:Int)=(↑x1:Int)->x0=x1:=λh0=>Int.ofNat_inj.mp h0
theorem zo6:x0 < 2->x0=0\/x0=1:=by lia
theorem zo7:x0<=1000000->x0<=16777216:=λh0=>Nat.le_trans h0 (c7v rfl)
theorem zo8:x0 < 17->x0<=1000000:=λh0=>Nat.le_of_lt (Nat.lt_of_lt_of_le h0 (c7v rfl))
theorem zo9:x0<=x0+1:=Nat.le_add_right x0 1
theorem b3j:x0+200 < x1->x0+65 < x1:=λh0=>Nat.lt_of_le_of_lt (Nat.add_le_add_left (c7v rfl) _) h0
theorem b3O:x0+64 < x1->x0+7 < x1:=λh0=>Nat.lt_of_le_of_lt (Nat.add_le_add_left (c7v rfl) _) h0
theorem b3P:¬x0=x1->x0<=x1->x0 < x1:=λh0 h1=>Nat.lt_of_le_of_ne h1 h0
theorem b1Q:x2 < x1->x0 < x2->x0 < x1:=λh0 h1=>Nat.lt_trans h1 h0
theorem b56:74 > 0:=Nat.zero_lt_succ 73
theorem b5R:x0 < 17->x0<=17:=λh0=>Nat.le_of_succ_le h0
theorem b52:x0<=2->1+x0<=1000000:=by lia
theorem b4E:x0<=3->x0+1<=1000000:=λh0=>Nat.lt_of_le_of_lt h0 (c7v rfl)
theorem b4H:1+x0<=x1+1->x0<=x1:=by lia
theorem b4Q:x0+65 < x1->x0+1+64 < x1:=λh0=>Nat.lt_of_succ_le h0
theorem b4W:x0<=x0+x1:=Nat.le_add_right x0 x1
theorem b4G:1+x0+x2<=x1+1->x0<=x1:=by lia
theorem b5h:1+x2+x0<=x1+1->x0<=x1:=by lia
theorem c3h:x1=x2+1->x0<=x2->x0 < x1:=λh0 h1=>h0▸Nat.lt_succ_of_le h1
theorem c7r:0<=16777216:=Nat.zero_le 16777216
theorem b7h {x0:Int}:(↑x1:Int) < (2:Int) ^ (62:Nat)->-(↑x1:Int)<=x0->-(2:Int) ^ (62:Nat)<=x0:=by lia
theorem b7W {x0:Int}:(↑x1:Int) < (2:Int) ^ (62:Nat)->x0<=(↑x1:Int)->x0 < (2:Int) ^ (62:Nat):=by lia
theorem b8x:(0:Nat) < x0->(0:Int) < (↑x0:Int):=λh0=>Int.natCast_pos.mpr h0
theorem b7d:2<=x0->0 < x0:=λh0=>Nat.zero_lt_of_lt h0
theorem b64:(↑(x0+(1:Nat)):Int) - (1:Int)=(↑x0:Int):=Int.sub_eq_iff_eq_add.mpr rfl
theorem b7o:-(↑(1000000:Nat):Int)<=(↑x0:Int):=Int.neg_natCast_le_natCast 1000000 x0
theorem b7w:x0 < x0+1:=Nat.lt_add_one x0
theorem b71:x0<=0->x0=0:=λh0=>Nat.eq_zero_of_le_zero h0
theorem b7I:x0<=100000->x0<=1000000:=λh0=>Nat.le_trans h0 (c7v rfl)
theorem b67:x0<=3->x0<=1000000:=λh0=>Nat.le_trans h0 (c7v rfl)
theorem b8w:x0<=3->x0<=4:=λh0=>Nat.le_succ_of_le h0
theorem b8y:x0+(x1+1)=x0+1+x1:=Eq.symm (Nat.succ_add_eq_add_succ x0 x1)
theorem b7F:x0 < x1+1->¬x0 < x1->x0=x1:=λh0 h1=>Nat.eq_of_lt_succ_of_not_lt h0 h1
theorem b62:x0 < x1+1->¬x0=x1->x0 < x1:=by lia
theorem b8r:x0 < x1+3->¬x0=x1+2->x0 < x1+2:=λa b=>Nat.lt_of_le_of_ne (Nat.le_of_lt_succ a) b
theorem b8A:x0 < x1->(↑x0:Int) < (↑x1:Int):=λh0=>Int.ofNat_lt.mpr h0
theorem b8v:x0 < x1->x0=x1->False:=by lia
theorem b6Y:x0 < x1->x0≠x1:=λh0=>Nat.ne_of_lt h0
theorem b75:x0=x1->x1 < x0->False:=by lia
theorem b7V:x1=x0+1->x0<=x1:=λh0=>Nat.le.intro (id (Eq.symm h0))
theorem b7i:x1<=x0->¬x0 < x1:=λh0=>Nat.not_lt.mpr h0
theorem b5g:¬x0=x1+1->x0<=x1+1->x0<=x1:=by lia
theorem b8i:x1 < x2->min x0 x1 < x2:=λh0=>Nat.lt_of_le_of_lt (Nat.min_le_right _ _) h0
theorem b4r:x1<=x2->x0 < x1->(x0+x1) / 2 < x2:=λh0 h1=>Nat.div_lt_of_lt_mul (Nat.lt_of_lt_of_eq (Nat.add_lt_add_of_lt_of_le (Nat.lt_of_lt_of_le h1 h0) h0) (Nat.two_mul x2).symm)
theorem b4z:x2=x0->x2<=x1->x0<=x1:=λh0 h1=>le_of_eq_of_le (id (Eq.symm h0)) h1
theorem c53:1≠0:=Nat.one_ne_zero
theorem c1r:1<=0->False:=λh0=>Nat.not_succ_le_zero 0 h0
theorem c05:128 > 0:=Nat.zero_lt_succ 127
theorem b9E:(↑(1:Nat):Int)<=(↑(1000000:Nat):Int):=Int.le.intro_sub (1000000 - Nat.succ 0) rfl
theorem c2e:(↑(5:Nat):Int)<=(↑(1000000:Nat):Int):=Int.le.intro_sub (1000000 - Nat.succ 4) rfl
theorem c54:-(↑(1000000:Nat):Int)<=(↑(1:Nat):Int):=Int.neg_natCast_le_natCast 1000000 1
theorem c4Z:-(↑(1000000:Nat):Int)<=(↑(5:Nat):Int):=Int.neg_natCast_le_natCast 1000000 5
theorem c5V {x0:Int}:x0+(↑(x1+(1:Nat)):Int)=x0+(↑x1:Int)+(1:Int):=by lia
theorem b92:(-1:Int)=(↑x0:Int)->False:=by lia
theorem c3O:1+x0<=0->False:=by lia
theorem c57:(↑(x0+(2:Nat)):Int) - (1:Int)=(↑(x0+(1:Nat)):Int):=Int.sub_eq_iff_eq_add.mpr rfl
theorem c6m:-(↑(1000000:Nat):Int)<=(↑(x0+(1:Nat)):Int):=Int.neg_natCast_le_natCast 1000000 (x0+1)
theorem c7n:x0+1<=x0+1:=Nat.le_refl (x0+1)
theorem c3m:x0 < 18->x0+1<=16777216:=λh0=>Nat.le_trans h0 (c7v rfl)
theorem c00:x0 < 3->x0+2<=10:=λh0=>Nat.lt_of_le_of_lt h0 (c7v rfl)
theorem c4E:x0 < 3->x0=0\/x0=1\/x0=2:=by lia
theorem c18:x0 < 64->x0<=1000000:=by lia
theorem c5j:x0 < 64->x0<=16777216:=λh0=>Nat.le_of_lt (Nat.lt_of_lt_of_le h0 (c7v rfl))
theorem c1E:x0<=0->1<=x0->False:=λh0 h1=>absurd h1 (Nat.not_lt_of_le h0)
theorem c1Q:x0<=100->x0<=16777216:=λh0=>Nat.le_trans h0 (c7v rfl)
theorem c52:x0<=1000->x0<=1000000:=λh0=>Nat.le_trans h0 (c7v rfl)
theorem c2N:x0<=20->x0<=21:=λh0=>Nat.le_succ_of_le h0
theorem c2k:x0<=40->x0<=1000000:=λh0=>Nat.le_trans h0 (c7v rfl)
theorem c2c:¬(↑x0:Int) < (0:Int):=Int.not_ofNat_neg x0
theorem c38 {x0 x1:Int}:¬x1<=x0->x0<=x1:=λh0=>Int.le_of_not_le h0
theorem c0U:1+(x0+(x1+0))=1+x0+x1:=Eq.symm (Nat.add_assoc 1 x0 x1)
theorem c2t:1+x0+x1<=0->False:=by lia
theorem b89:(↑x0:Int) - (↑(x1+(1:Nat)):Int)=(↑x0:Int) - (↑x1:Int) - (1:Int):=by lia
theorem c3a:max (↑x0:Int) (↑x1:Int)=(↑(max x0 x1):Int):=by omega
theorem c1F:min (↑x0:Int) (↑x1:Int)=(↑(min x0 x1):Int):=by omega
theorem b81:x0+1<=x1->x0 < x1:=λh0=>Nat.lt_of_succ_le h0
theorem c34:x0+1<=x1->x0<=x1:=λh0=>Nat.le_of_succ_le h0
theorem c5X:x0+200 < x1->x0+110 < x1:=λh0=>Nat.lt_of_le_of_lt (Nat.add_le_add_left (c7v rfl) _) h0
theorem c5q:x0+65 < x1->x0 < x1:=λh0=>Nat.lt_of_add_right_lt h0
theorem c5K:x0+x1<=1000000->x0+x1<=16777216:=λh0=>Nat.le_trans h0 (c7v rfl)
theorem b9i:x0=0\/x1=0->x0=x1->x0=0:=by lia
theorem b9a:x0=x1->x0 < x1+1:=by lia
theorem c2X:x0=x1->x0<=x1:=λh0=>Nat.le_of_eq h0
theorem c0k:x0=x1->¬x0 < x1:=by lia
theorem b9f:x0≠0->x0 * 128+x1≠0:=λh e=>h ((Nat.mul_eq_zero.mp (Nat.eq_zero_of_add_eq_zero_right e)).resolve_right (Nat.succ_ne_zero 127))
theorem b2d:x0≠x1->min x0 x1≠max x0 x1:=λh0 e=>h0 (Nat.le_antisymm (Nat.le_trans (Nat.le_max_left x0 x1) (Nat.le_trans (Nat.le_of_eq e.symm) (Nat.min_le_right x0 x1))) (Nat.le_trans (Nat.le_max_right x0 x1) (Nat.le_trans (Nat.le_of_eq e.symm) (Nat.min_le_left x0 x1))))
theorem c5k:x0≠x1->min x0 x1 < max x0 x1:=λh0=>Nat.lt_of_le_of_ne (Nat.le_trans (Nat.min_le_left _ _) (Nat.le_max_left _ _)) (b2d h0)
theorem c1G:x0<=0+x1->x0<=x1:=by lia
theorem c4X:x0<=x1+1->¬x0=x1+1->x0<=x1:=λh0 h1=>b5g h1 h0
theorem c42:x0<=x1 - 1->0 < x1->x0+1<=x1:=λh0 h1=>Nat.add_le_of_le_sub h1 h0
theorem c41:x0<=x1->x0+1<=x1+1:=λh0=>Nat.add_le_add_right h0 1
theorem b88:x0<=x1->x0 < x1+1:=λh0=>Nat.lt_succ_of_le h0
theorem c3w:x0<=x1->x0<=x1+1:=λh0=>Nat.le_add_right_of_le h0
theorem b9g:x1 < x0->0 < x0:=λh0=>Nat.zero_lt_of_lt h0
theorem c44:x1=0->¬x0 < x1:=by lia
theorem c5J:x1=7/\x0=4->x0+1<=16777216:=by lia
theorem b6H:x1<=2->x0<=x1->x0<=2:=λh0 h1=>Nat.le_trans h1 h0
theorem b6B:x0+(x1+1)<=x2->x0+1+x1<=x2:=by lia
theorem b6y:x0+(x2+1)=x1->x0 < x1:=by lia
theorem b6P:x0+(x2+1)<=x1->x0<=x1:=λh0=>Nat.le_of_add_right_le h0
theorem b6L:x0+x2<=x1->x0<=x1:=λh0=>Nat.le_of_add_right_le h0
theorem b3w:x0 - x1 < x2+1->x1 < x0->x0 - (x1+1) < x2:=λh0 h1=>Nat.lt_of_lt_of_le (Nat.sub_succ_lt_self _ _ h1) (Nat.le_of_lt_succ h0)
theorem b6l:x0 < x1 - x2+1->x0<=x1 - x2:=λh0=>Nat.le_of_lt_succ h0
theorem b6M:x0 < x2->x1 < x2->max x0 x1 < x2:=λh0 h1=>Nat.max_lt.mpr ⟨h0,h1⟩
theorem b6E:x0 < x2->x2 < x1->x0 < x1:=λh0 h1=>Nat.lt_trans h0 h1
theorem b6o:x0<=x2->x2<=x1->x0<=x1:=λh0 h1=>Nat.le_trans h0 h1
theorem b6c:x1<=x2->x0+x1<=x0+x2:=λh0=>Nat.add_le_add_iff_left.mpr h0
theorem b6g:x2 < x1->x0<=x2->x0 < x1:=λh0 h1=>Nat.lt_of_le_of_lt h1 h0
theorem b6e:x2=x0->¬x1 < x2->x0<=x1:=by lia
theorem b2v:x2<=x1->x0<=x2->x0<=x1:=λh0 h1=>Nat.le_trans h1 h0
theorem b6r:x0+65 < x3->x1<=20->x0+1+min x1 x2 < x3:=λh0 h1=>Nat.lt_of_le_of_lt (show x0+1+min x1 x2<=x0+1+64 from Nat.add_le_add_left (Nat.le_trans (Nat.min_le_left _ _) (Nat.le_trans h1 (c7v rfl))) _) h0
theorem b6j:x0<=x3+x2->x3<=x1+1->x0<=x1+(x2+1):=by lia
theorem b6N:x3<=x1+x2->x0<=x3+1->x0<=x1+(x2+1):=by lia
theorem b6h:x4 < x2 - x3+1->x0 < x1+x4->x0 - x1<=x2 - x3:=λh g=>Nat.le_trans (Nat.sub_le_iff_le_add'.mpr (Nat.le_of_lt g)) (Nat.le_of_lt_succ h)
theorem c46:(-1:Int) < (0:Int):=Int.sign_eq_neg_one_iff_neg.mp rfl
theorem c3M:(0:Int)<=(40:Int):=Int.zero_le_ofNat 40
theorem c7f:0+1+1+1+1+1<=16777216+2:=Nat.le_add_left (0+1+1+1+1+1) 16777213
theorem c7i:0+1+1+1+1<=16777216+2:=Nat.le_add_left (0+1+1+1+1) 16777214
theorem c02:0+1<=1000000:=c7v rfl
theorem b9S:0 < 2:=Nat.zero_lt_two
theorem c08:0 < 4:=Nat.zero_lt_succ 3
theorem c3t:0 < 6:=Nat.zero_lt_succ 5
theorem c7a:0<=16777216+1:=Nat.le_add_left 0 (16777216+1)
theorem c2C:0<=74:=Nat.zero_le 74
theorem c3X:(1:Int)<=(1:Int):=Int.le_refl 1
theorem c2j:1+1<=1000000:=c7v rfl
theorem c49:1<=74 ^ 0:=c7v rfl
theorem c3V:4<=5:=c7v rfl
theorem c4l:(40:Int) < (↑(1000000:Nat):Int):=Rat.intCast_lt_intCast.mp rfl
theorem c1p:(↑(2:Nat):Int)<=(↑(1000000:Nat):Int):=Int.le.intro_sub (1000000 - Nat.succ 1) rfl
theorem b8V:-(↑(1000000:Nat):Int)<=(↑(2:Nat):Int):=Int.neg_natCast_le_natCast 1000000 2
theorem c5W:¬(-1:Int) < (0:Int)->False:=by lia
theorem c33 {x0:Int}:(0:Int)<=x0/\x0 < (↑x1:Int)->(0:Int)<=x0/\x0 < (↑x1:Int):=λh0=>And.comm.mp (id (And.symm h0))
theorem c4C {x0:Int}:(0:Int)<=x0/\x0 < (↑x1:Int)->-(2:Int) ^ (63:Nat)<=x0:=by lia
theorem c6l {x0:Int}:(0:Int)<=x0/\x0 < (↑x1:Int)->x0.toNat < x1:=λh0=>(Int.toNat_lt h0.1).mpr h0.2
theorem b8R {x0:Int}:(0:Int)<=x0/\x0 < (↑x1:Int)->¬x0 < (0:Int):=by lia
theorem b87 {x0:Int}:(1:Nat)<=(0:Nat)->x0=(↑x1:Int):=by lia
theorem c6d {x0:Int}:-(↑x1:Int)<=x0->(↑x1:Int) < (2:Int) ^ (62:Nat)->-(2:Int) ^ (62:Nat)<=x0:=by lia
theorem b99 {x0:Int}:x0 < (0:Int)/\-(↑x1:Int)<=x0->(0:Int)<=x0+(↑x1:Int)/\x0+(↑x1:Int) < (↑x1:Int):=λh=>⟨Int.le_trans (Int.le_of_eq (Int.add_left_neg (↑x1:Int)).symm) (Int.add_le_add_right h.2 _),Int.lt_of_lt_of_le (Int.add_lt_add_right h.1 _) (Int.le_of_eq (Int.zero_add _))⟩
theorem c1Z {x0:Int}:x0 < (0:Int)/\-(↑x1:Int)<=x0->(x0+(↑x1:Int)).toNat < x1:=λh=>(Int.toNat_lt (Int.le_trans (Int.le_of_eq (Int.add_left_neg (↑x1:Int)).symm) (Int.add_le_add_right h.2 _))).mpr (Int.lt_of_lt_of_le (Int.add_lt_add_right h.1 _) (Int.le_of_eq (Int.zero_add _)))
theorem c6e {x0:Int}:x0 < (0:Int)/\-(↑x1:Int)<=x0->x0 < (2:Int) ^ (63:Nat):=by lia
theorem c3g {x0:Int}:x0 < (↑x1:Int)->x1<=(1000000:Nat)->x0 < (2:Int) ^ (63:Nat):=λh a=>Int.lt_of_lt_of_le h (Int.le_trans (Int.ofNat_le.mpr a) (by decide))
theorem b80 {x0:Int}:x0<=(↑x1:Int)->(↑x1:Int) < (2:Int) ^ (62:Nat)->x0 < (2:Int) ^ (62:Nat):=by lia
theorem c43 {x0:Int}:x1<=(1000000:Nat)->(0:Int)<=x0/\x0 < (↑x1:Int)->x0 < (2:Int) ^ (63:Nat):=λa h=>Int.lt_of_lt_of_le h.2 (Int.le_trans (Int.ofNat_le.mpr a) (by decide))
theorem c2l {x0:Int}:x1<=(1000000:Nat)->x0 < (0:Int)/\-(↑x1:Int)<=x0->-(2:Int) ^ (63:Nat)<=x0:=by lia
theorem c2F {x0:Int}:(1:Nat)+x2<=(0:Nat)->x0=(↑x1:Int):=by lia
theorem c4U {x0:Int}:x0 < (↑x2:Int)->x2=x1->x0 < (↑x1:Int):=λh0 h1=>lt_of_lt_of_eq h0 (congrArg Nat.cast h1)
theorem c2J {x0:Int}:(1:Nat)+x2+x3<=(0:Nat)->x0=(↑x1:Int):=by lia
theorem b9K {x0:Int}:(0:Int) < x0->(0:Int)<=x0:=λh0=>Int.le_of_lt h0
theorem c0y {x0:Int}:(0:Int) < x0->x0≠(0:Int):=λh0=>Ne.symm (Int.ne_of_lt h0)
theorem c04 {x0:Int}:(0:Int)<=x0/\x0 < (17:Int)->x0.toNat < (17:Nat):=λh0=>(Int.toNat_lt h0.1).mpr h0.2
theorem c0O {x0:Int}:(1:Int)<=x0->(0:Int)<=x0:=λh0=>Int.le_of_lt h0
theorem c5e {x0:Int}:(x0 - (0:Int)).toNat=((↑x0.toNat:Int) - (0:Int)).toNat:=(congrArg Int.toNat (Int.sub_zero x0)).trans (congrArg Int.toNat (Int.sub_zero (↑x0.toNat:Int))).symm
theorem c5O {x0:Int}:(↑x0.toNat:Int)=(↑((↑x0.toNat:Int) - (0:Int)).toNat:Int):=Int.ofNat_inj.mpr rfl
theorem b9W {x0:Int}:x0+(1:Int)=x0->False:=by lia
theorem c3J {x0:Int}:x0<=(↑(1000000:Nat):Int)->x0.toNat<=(2:Nat) ^ (24:Nat):=by lia
theorem c32 {x1:Int}:x2=x0->x1 < (0:Int)/\-(↑x2:Int)<=x1->-(↑x0:Int)<=x1:=by lia
theorem c1u:((-1:Int)+(↑(x0+(1:Nat)):Int)).toNat=x0:=congrArg Int.toNat ((Int.add_comm _ _).trans (Int.add_neg_cancel_right (x0:Int) 1))
theorem c1k:((↑x0:Int) - (0:Int)).toNat=x0:=Nat.add_zero x0
theorem c4t:(0:Int)+(↑x0:Int) * (1:Int)=(↑((0:Nat)+x0):Int):=Int.zero_add (↑x0 * 1)
theorem b9Z:(0:Nat) < x0->(↑x0:Int)≠(0:Int):=λh0=>Int.natCast_ne_zero_iff_pos.mpr h0
theorem c5s:(1:Int)<=(↑x0:Int)+(1:Int):=by lia
theorem c6r:(1:Int)<=(↑x0:Int)->(1:Nat)<=x0:=λh0=>Int.ofNat_le.mp h0
theorem c4Q:1<=0->x0=1:=λh0=>Eq.symm (Nat.eq_of_mul_eq_mul_right h0 rfl)
theorem c3b:13<=x0->13<=x0+1:=λh0=>Nat.le_add_right_of_le h0
theorem c1W:(↑x0:Int) < (0:Int)->False:=λh0=>(Int.negSucc_not_nonneg x0).mp h0
theorem c4v:-(2:Int) ^ (60:Nat) < (↑x0:Int):=Rat.intCast_lt_intCast.mp rfl
theorem c4j:-(↑(x0+(1:Nat)):Int)<=(-1:Int):=Rat.intCast_le_intCast.mp rfl
theorem c1L:x0+1 - 1=x0:=Nat.add_sub_self_right x0 1
theorem c4m:x0+1 < x0+2:=Nat.lt_add_one (x0+1)
theorem c1e:x0+1≠x0:=Ne.symm (Nat.ne_add_one x0)
theorem c1I:x0 - 0<=x0:=Nat.sub_le x0 0
theorem b9b:x0 < 128->x0 < 55296:=λh0=>Nat.le_trans h0 (c7v rfl)
theorem c0o:x0 < 17->x0+1<=1000000:=λh0=>Nat.le_trans h0 (c7v rfl)
theorem c2T:x0 < 17->x0+1<=17:=λh0=>b4z rfl h0
theorem c1o:x0 < 18->x0 < 4096:=λh0=>Nat.le_trans h0 (c7v rfl)
theorem c6y:x0 < 2->1+(x0+1)<=1000000:=λh0=>Nat.le_trans (Nat.add_le_add_left h0 _) (c7v rfl)
theorem b82:x0 < (2:Nat)->(↑(x0+(1:Nat)):Int)<=(↑(1000000:Nat):Int):=by lia
theorem c6a:x0 < 2->x0+1<=2:=λh0=>Nat.succ_le_of_lt h0
theorem c5Z:x0 < 2->¬x0=0->x0=1:=by lia
theorem c6o:x0 < (3:Nat)->(↑(x0+(1:Nat)):Int)<=(↑(1000000:Nat):Int):=by lia
theorem c3K:x0 < (3:Nat)->(↑x0:Int) < (2:Int) ^ (60:Nat):=by lia
theorem c4e:x0 < 3->x0+2<=1000000:=λh0=>Nat.lt_of_le_of_lt h0 (c7v rfl)
theorem c6s:x0 < 3->x0 < 1000000:=λh0=>Nat.le_trans h0 (c7v rfl)
theorem c3W:x0 < 3->x0<=1000000:=λh0=>Nat.le_of_lt (Nat.lt_of_lt_of_le h0 (c7v rfl))
theorem c37:x0 < (4:Nat)->(↑x0:Int)<=(↑(1000000:Nat):Int):=by lia
theorem c5C:x0 < 5 - 1->x0<=3:=λh0=>Nat.le_of_lt_succ h0
theorem c6c:x0 < 5 - 2->x0 < 3:=λh0=>Nat.lt_of_succ_le h0
theorem b9z:x0 < 55296->x0 < 1114112:=λh0=>Nat.le_trans h0 (c7v rfl)
theorem c5M:x0 < (6:Nat)->(↑x0:Int)<=(↑(1000000:Nat):Int):=by lia
theorem c6b:x0 < 60->x0 < 1920:=λh0=>Nat.le_trans h0 (c7v rfl)
theorem c5z:x0 < (64:Nat)->(↑x0:Int) < (2:Int) ^ (63:Nat):=by lia
theorem c2m:x0=1->x0<=20:=by lia
theorem c4y:x0=1->x0<=3:=by lia
theorem b9J:x0=2->2<=x0:=λh0=>Nat.le_of_eq (id (Eq.symm h0))
theorem c0F:x0=2->x0<=2+0:=λh0=>Nat.le_of_eq h0
theorem c1X:x0=5->x0<=18:=by lia
theorem c2W:x0<=10->x0<=1000000:=λh0=>Nat.le_trans h0 (c7v rfl)
theorem c5F:x0<=100->x0<=1000000:=λh0=>Nat.le_trans h0 (c7v rfl)
theorem b9T:x0<=1000->x0+7<=1000000:=λh0=>Nat.le_trans (Nat.add_le_add_right h0 _) (c7v rfl)
theorem c5m:x0<=100000->x0+1<=1000000:=λh0=>Nat.lt_of_le_of_lt h0 (c7v rfl)
theorem c3R:x0<=(1000000:Nat)->(↑x0:Int) < (2:Int) ^ (63:Nat):=by lia
theorem c0Y:x0<=122->x0 < 123:=λh0=>Nat.lt_succ_of_le h0
theorem c2w:x0<=122->x0 < 128:=λh0=>Nat.lt_of_le_of_lt h0 (c7v rfl)
theorem c2n:x0<=15->0+x0<=1000000:=λh0=>Nat.le_trans (Nat.add_le_add_left h0 _) (c7v rfl)
theorem c4B:x0<=(17:Nat)->(↑x0:Int)<=(↑(1000000:Nat):Int):=by lia
theorem c19:x0<=17->x0+1<=1000000:=λh0=>Nat.lt_of_le_of_lt h0 (c7v rfl)
theorem c1N:x0<=17->x0<=1000000:=λh0=>Nat.le_trans h0 (c7v rfl)
theorem c3H:x0<=2 * 1000000->x0<=16777216:=λh0=>Nat.le_trans h0 (c7v rfl)
theorem c0L:x0<=2->x0<=74:=λh0=>Nat.le_trans h0 (c7v rfl)
theorem c4J:x0<=20->x0+1<=21:=λh0=>Nat.succ_le_succ h0
theorem c0A:x0<=3->1+x0<=1000000:=λh0=>Nat.le_trans (Nat.add_le_add_left h0 _) (c7v rfl)
theorem c0J:x0<=3->x0+1<=7:=λh0=>Nat.lt_of_le_of_lt h0 (c7v rfl)
theorem c1y:x0<=3->x0+1<=8:=λh0=>Nat.lt_of_le_of_lt h0 (c7v rfl)
theorem c0H:x0<=3->x0=0\/x0=1\/x0=2\/x0=3:=by lia
theorem c36:x0<=40->1+300+6 * x0+5<=990:=by lia
theorem c6v:x0<=40->4+200 * x0+200<=9900:=by lia
theorem b8Q:x0<=5 * 100->x0<=1000:=λh0=>Nat.le_trans h0 (c7v rfl)
theorem c2G:x0<=500000->x0<=1000000:=λh0=>Nat.le_trans h0 (c7v rfl)
theorem c2S:x0<=63->x0<=1000000:=λh0=>Nat.le_trans h0 (c7v rfl)
theorem c3T:x0<=74 * 74->x0<=10000:=λh0=>Nat.le_trans h0 (c7v rfl)
theorem b9Q:x0<=74->x0<=10000:=λh0=>Nat.le_trans h0 (c7v rfl)
theorem c3i:x0<=8->x0<=74:=λh0=>Nat.le_trans h0 (c7v rfl)
theorem c0S:x0<=900000->x0<=1000000:=λh0=>Nat.le_trans h0 (c7v rfl)
theorem c59:x0<=x0 - 1+1:=Nat.sub_le_iff_le_add.mp (Nat.le_refl _)
theorem c40:¬((0:Int)<=(-1:Int)/\(-1:Int) < (↑(x0+(1:Nat)):Int)):=of_decide_eq_false rfl
theorem c0j:¬(0:Int)<=(↑x0:Int)->False:=by lia
theorem b8W:¬(↑x0:Int) > (0:Int)->x0=(0:Nat):=by lia
theorem c2h:¬x0+1 < x0:=Nat.not_succ_lt_self
theorem c3f {x0 x1:Int}:x0 < x1->x0≠x1:=λh0=>Int.ne_of_lt h0
theorem c0x {x0 x1:Int}:x0 < x1->x0<=x1:=λh0=>Int.le_of_lt h0
theorem c4Y {x0 x1:Int}:x1 > x0->x0<=x1:=λh0=>Int.le_of_lt h0
theorem c24 {x0 x1:Int}:¬x0 > x1->x0<=x1:=λh0=>Int.not_lt.mp h0
theorem c1s {x0 x1:Int}:¬x1 < x0->x0<=x1:=λh0=>Int.not_lt.mp h0
theorem c2y {x2:Int}:x2 < (↑x1:Int)->x2=(↑x0:Int)->x0 < x1:=by lia
theorem c0i:((↑x0:Int) - (↑x1:Int)).toNat=x0 - x1:=Int.toNat_sub x0 x1
theorem b8X:0 < x1->x1=x0->x0 - 1 < x0:=λh0 h1=>Nat.sub_lt (h1▸h0) (Nat.succ_pos 0)
theorem b8U:1+x1<=0->x0=1+x1:=by lia
theorem b9e:2<=x1->x1<=x0->2<=x0:=λh0 h1=>Nat.le_trans h0 h1
theorem c2a:4<=x1->x0<=4->x0<=x1:=λh0 h1=>b2v h0 h1
theorem c03:(x0=min x0 x1\/x0=max x0 x1)/\(x1=min x0 x1\/x1=max x0 x1):=(Nat.le_total x0 x1).elim (λh=>⟨.inl (Nat.min_eq_left h).symm,.inr (Nat.max_eq_right h).symm⟩) (λh=>⟨.inr (Nat.max_eq_left h).symm,.inl (Nat.min_eq_right h).symm⟩)
theorem c0u:(↑(min x0 x1):Int)=(↑(max x0 x1):Int)->x0=x1:=λh0=>Decidable.byContradiction λh=>b2d h (Int.ofNat_inj.mp h0)
theorem c0M:(↑(x0+(1:Nat)):Int)<=(↑x1:Int)->x0 < x1:=λh0=>Int.ofNat_lt.mp h0
theorem c22:(↑x0:Int) < (↑x1:Int)->x0 < x1:=λh0=>Int.ofNat_lt.mp h0
theorem c3j:(↑x0:Int) < (↑x1:Int)->x0=x1->False:=by lia
theorem c5Y:(↑x0:Int)=(↑x1:Int)->x0 < x1->False:=by lia
theorem c4u:(↑x1:Int)=(↑x0:Int)->x0=x1:=λh0=>Int.ofNat_inj.mp (id (Eq.symm h0))
theorem b9p:-(↑x0:Int)<=(↑x1:Int):=Int.neg_natCast_le_natCast x0 x1
theorem b9n:min x0 x1+(x1 - x0+1)=x1+1:=congrArg Nat.succ ((Nat.add_comm _ _).trans ((congrArg (x1 - x0+·) (Nat.min_comm x0 x1)).trans (Nat.sub_add_min_cancel x1 x0)))
theorem c5I:min x0 x1<=max x0 x1:=Nat.le_trans (Nat.min_le_left _ _) (Nat.le_max_left _ _)
theorem c0n:x0+1 < x1+1->x0 < x1:=λh0=>Nat.succ_lt_succ_iff.mp h0
theorem b9c:x0+1=x1+1->x0=x1:=λh0=>Nat.add_right_cancel h0
theorem c5v:x0+1<=x1+1->¬x0 < x1->x0=x1:=λh0 h1=>Nat.eq_of_lt_succ_of_not_lt h0 h1
theorem c5l:x0+100 < x1->x0+1+64 < x1:=by lia
theorem c4x:x0+100 < x1->x0+1+7 < x1:=by lia
theorem c1R:x0+110 < x1->x0+1+1+100 < x1:=λh=>Nat.lt_of_le_of_lt (Nat.add_le_add_left (c7v rfl:102<=110) x0) h
theorem b9A:x0+200 * (x1+1)+200<=9900->x0+3+2 * 40+200 * x1+300<=9900:=by lia
theorem c2P:x0+200 < x1->x0+1+64 < x1:=by lia
theorem c2O:x0+200 < x1->x0+64 < x1:=λh0=>Nat.lt_of_le_of_lt (Nat.add_le_add_left (c7v rfl) _) h0
theorem c4o:x0+6 * (x1+1)+5<=990->x0+1+6 * x1+10<=990:=by lia
theorem c5T:x0+6 * (x1+1)+5<=990->x0 < 1000:=by lia
theorem c4P:x0+6 * x1+10<=990->x0+6 * x1+5<=990:=λh0=>Nat.lt_of_le_of_lt (Nat.add_le_add_left (c7v rfl) _) h0
theorem b8P:x0+6 * x1+10<=990->x0 < 1000:=by lia
theorem c28:x0+64 < x1->x0 < x1:=λh0=>Nat.lt_of_add_right_lt h0
theorem c4W:x0+65 < x1->x0+64 < x1:=λh0=>Nat.lt_of_succ_lt h0
theorem c2d:x0+x1=x1+x0:=Nat.add_comm x0 x1
theorem b9M:x0+x1<=10->x0+x1<=1000000:=λh0=>Nat.le_trans h0 (c7v rfl)
theorem c5c:x0 - x1 < x0+2:=Nat.lt_of_le_of_lt (Nat.sub_le _ _) (Nat.lt_add_of_pos_right (Nat.succ_pos 1))
theorem c4z:x0 < 10 * x1->10 * x1 < 100000->x0 < 100000:=λh0 h1=>Nat.lt_trans h0 h1
theorem c2I:x0 < 2->min x0 x1 < 17:=λh0=>Nat.lt_of_le_of_lt (Nat.min_le_left _ _) (Nat.lt_of_lt_of_le h0 (c7v rfl))
theorem c0z:x0 < x1+1 - 1->1+x0 < x1+2:=by lia
theorem c6f:x0 < x1+1 - 1->x0<=x1:=λh0=>Nat.le_of_succ_le h0
theorem b9o:x0 < x1+1->13+x0 < 0+(x1+15):=by lia
theorem c3I:x0 < x1+1->x0<=x1:=λh0=>Nat.le_of_lt_succ h0
theorem c1q:x0 < x1+2->¬x0=x1+2:=λh0=>Nat.ne_of_lt h0
theorem c4D:x0 < x1->(x0+x1) / 2+1<=x1:=λh=>(Nat.div_lt_iff_lt_mul Nat.zero_lt_two).mpr (Nat.lt_of_lt_of_le (Nat.add_lt_add_right h x1) (Nat.le_of_eq (Nat.mul_two x1).symm))
theorem b97:x0 < x1->x0+1+(x1 - (x0+1))=x1:=λh0=>Nat.add_sub_of_le h0
theorem b9U:x0 < x1->x0+1 < x1+1:=λh0=>Nat.add_lt_add_right h0 1
theorem c3e:x0 < x1->x0+1<=x1:=λh0=>Nat.succ_le_of_lt h0
theorem c0a:x0 < x1->x0<=(x0+x1) / 2:=λh0=>(Nat.le_div_iff_mul_le (Nat.succ_pos 1)).mpr (Nat.mul_two x0▸Nat.add_le_add_left (Nat.le_of_lt h0) x0)
theorem c0G:x0 < x1->x1=x0->False:=by lia
theorem c0w:x0 < x1->¬(↑x0:Int) < (↑x1:Int)->False:=by lia
theorem c1b:x0 < x1->¬x0=x1:=λh0=>Nat.ne_of_lt h0
theorem c3u:x0=7/\x1 < 4\/x0=31/\x1 < 18->x0=7/\x1+1<=4\/x0=31/\x1+1<=18:=λh0=>Or.symm (id (Or.symm h0))
theorem c4b:x0=x1+1->x0<=x1+1:=λh0=>Nat.le_of_eq h0
theorem c1U:x0=x1+1->x0<=x1->False:=by lia
theorem zx1:x2=x1->x0 < x2->x0 < x1:=λh0 h1=>Nat.lt_of_lt_of_eq h1 h0
theorem c1v:x0=x1->0 < x1->0 < x0:=λh0 h1=>zx1 (id (Eq.symm h0)) h1
theorem b9x:x0=x1->1+x0<=1+x1:=λh0=>Nat.le_of_eq (congrArg (HAdd.hAdd 1) h0)
theorem c5Q:x0=x1->(↑x0:Int)=(↑x1:Int):=λh0=>Int.ofNat_inj.mpr h0
theorem b9k:x0=x1->x0 < x1->False:=by lia
theorem c5f:x0=x1->x0<=0+x1:=by lia
theorem c06:x0≠x1->x0<=x1->x0 < x1:=λh0 h1=>Nat.lt_of_le_of_ne h1 h0
theorem c1x:x0<=0+x1->x0<=2 * x1:=by lia
theorem c51:x0<=1+x1->x0+1<=1+(x1+1):=λh0=>Nat.add_le_add_right h0 1
theorem c1d:x0<=1+x1->x0<=1+(x1+1):=λh0=>Nat.le_succ_of_le h0
theorem c4q:x0<=100000->x1<=10000->x0+x1<=1000000:=λh0 h1=>Nat.le_trans (Nat.add_le_add h0 h1) (c7v rfl)
theorem c1Y:x0<=100000->x1<=100000->x0+x1<=1000000:=λh0 h1=>Nat.le_trans (Nat.add_le_add h0 h1) (c7v rfl)
theorem c5H:x0<=x1 * 1->x0<=x1:=by lia
theorem b9L:x0<=x1 * 1->x1<=100->x0<=1000000:=by lia
theorem c2r:x0<=x1 * 5476->x1 * 5476<=17 * 5476->x0<=100000:=λh0 h1=>Nat.le_trans (Nat.le_trans h0 h1) (c7v rfl)
theorem c0m:x0<=x1+1->x0 - 1<=x1:=λh0=>Nat.sub_le_of_le_add h0
theorem c6i:x0<=x1->(↑x0:Int)<=(↑x1:Int):=λh0=>Int.ofNat_le.mpr h0
theorem c1C:x0<=x1->x1+1<=x0->False:=by lia
theorem c0d:x0<=x1->x1≠x0->x0+1<=x1:=by lia
theorem c2U:x0<=x1->x1<=100 * 100->x0<=1000000:=λh0 h1=>Nat.le_trans (Nat.le_trans h0 h1) (c7v rfl)
theorem c5A:x0>=x1->x0 - x1=0->x0=x1:=λh0 h1=>Nat.le_antisymm (Nat.sub_eq_zero_iff_le.mp h1) h0
theorem c0f:x1+1=1+x0->x0<=x1:=by lia
theorem c4S:x1 - x0=0->x0<=x1->x0=x1:=λh0 h1=>Nat.le_antisymm h1 (Nat.sub_eq_zero_iff_le.mp h0)
theorem c4k:x1 < 128->x0 * 128+x1+1<=(x0+1) * 128:=by lia
theorem b9h:x1 < (17:Nat)->x0 < x1->(↑x0:Int) < (17:Int):=λa b=>Int.ofNat_lt.mpr (Nat.lt_trans b a)
theorem c3B:x1 < 17->x0<=x1->x0<=1000000:=by lia
theorem c5r:x1 < 3->x0=x1+1->x0<=3:=λh0 h1=>le_of_eq_of_le h1 h0
theorem c0P:x1 < 4->x0 < x1->x0 < 3:=by lia
theorem c58:x1 < 6->x0<=2+x1->x0<=17:=by lia
theorem b9r:x1 < 64->x0=x1->x0 < 64:=λh0 h1=>lt_of_eq_of_lt h1 h0
theorem b9v:x1 < 64->x1=x0->x0 < 64:=λh0 h1=>lt_of_eq_of_lt (id (Eq.symm h1)) h0
theorem c0Z:x1 < x0->(0:Int) < (↑x0:Int) - (↑x1:Int):=by lia
theorem c4R:x1 < x0->x0 < x1->x0=x1:=by lia
theorem c3v:x1 < x0->x0=x0 - 1+1:=λh0=>(Nat.sub_add_cancel (Nat.lt_of_le_of_lt (Nat.zero_le _) h0)).symm
theorem b9H:x1 < x0->x0≠x1:=λh0=>Ne.symm (Nat.ne_of_lt h0)
theorem b9B:x1=0\/x0=0->x1=x0->x0=0:=by lia
theorem c6t:x1=x0->0+x0<=x1:=by lia
theorem c5a:x1=x0->x0 < x1+1:=by lia
theorem c5u:x1=x0->x1=0->x0=0:=λh0 h1=>h0▸h1
theorem c3s:x1<=100->x0<=x1 * 1->x0<=1000000:=by lia
theorem c3C:x1<=10000->x0<=x1 * 1->x0<=1000000:=by lia
theorem c1a:x1<=10000->x0<=x1->x0<=1000000:=λh0 h1=>Nat.le_trans (Nat.le_trans h1 h0) (c7v rfl)
theorem c0I:x1<=100000->x0<=100000->x0+x1<=1000000:=by lia
theorem c1l:x1<=1000000->x1=x0->x0<=16777216:=by lia
theorem b9F:x1<=15->x0=x1->x0 < 30:=by lia
theorem c6q:x1<=17->x0 < x1->x0<=17:=λh0 h1=>Nat.le_of_lt (Nat.lt_of_lt_of_le h1 h0)
theorem c2q:x1<=17->x0=x1->x0<=100000:=by lia
theorem c2z:x1<=17->x0<=34 * x1->x0<=100000:=by lia
theorem c2s:x1<=17->x0<=x1 * 5476->x0<=100000:=by lia
theorem b91:x1<=17->x0<=x1->x0 < 18:=λh0 h1=>Nat.lt_of_le_of_lt (Nat.le_trans h1 h0) (c7v rfl)
theorem c47:x1<=2->x0 < x1->x0<=1:=by lia
theorem c2f:x1<=2->x0 < x1->x0<=1000000:=by lia
theorem c2A:x1<=3->x0<=x1+1->x0<=8:=by lia
theorem c23:x1<=3->x0<=x1->x0<=7:=λh0 h1=>Nat.le_trans (Nat.le_trans h1 h0) (c7v rfl)
theorem b85:x1<=3->x0<=x1->x0<=8:=λh0 h1=>Nat.le_trans (Nat.le_trans h1 h0) (c7v rfl)
theorem c30:x1<=4->x0<=x1->x0<=8:=λh0 h1=>Nat.le_trans (Nat.le_trans h1 h0) (c7v rfl)
theorem b9I:x1<=4->x1+1=1+x0->x0<=8:=by lia
theorem c6w:x1<=4->x1=x0->x0<=4:=λh0 h1=>le_of_eq_of_le (id (Eq.symm h1)) h0
theorem c0t:x1<=x0->(↑(x0+(2:Nat)):Int) - (1:Int) - (↑((1:Nat)+x1):Int)=(↑(x0 - x1):Int):=λh=>(congrArg (· - (↑(1+x1):Int)) (Int.sub_eq_iff_eq_add.mpr rfl:(↑(x0+2):Int) - 1=↑(x0+1))).trans ((congrArg (λy:Nat=>(↑(x0+1):Int) - ↑y) (Nat.add_comm 1 x1)).trans ((Int.ofNat_sub (Nat.succ_le_succ h)).symm.trans (congrArg Nat.cast (Nat.succ_sub_succ x0 x1))))
theorem c2p:x1<=x0->¬x0 < x1+0:=λh0=>Nat.not_lt.mpr h0
theorem c2i:¬(↑(min x0 x1):Int)=(↑(max x0 x1):Int)->min x0 x1 < max x0 x1:=λh=>Nat.lt_of_le_of_ne (Nat.le_trans (Nat.min_le_left x0 x1) (Nat.le_max_left x0 x1)) (λe=>h (congrArg Nat.cast e))
theorem b96:¬(↑(min x0 x1):Int)=(↑(max x0 x1):Int)->x0≠x1:=λh e=>h (e▸congrArg Nat.cast ((Nat.min_self x0).trans (Nat.max_self x0).symm))
theorem b94:¬(↑x0:Int)=(↑x1:Int)->x0≠x1:=λh0=>Ne.intro λa=>h0 (congrArg Nat.cast a)
theorem c6g:¬x0 - x1 - (x0 - x1) > 0:=by lia
theorem b9j:¬x0 < x1->x0 - x1 < 1->x0=x1:=λh g=>Nat.le_antisymm (Nat.le_of_sub_eq_zero (Nat.lt_one_iff.mp g)) (Nat.le_of_not_lt h)
theorem c1w:¬x0=x1->(↑x0:Int)=(↑x1:Int)->False:=by lia
theorem c2o:¬x0=x1->¬(↑x0:Int)=(↑x1:Int):=λh0=>Nat.ToInt.of_diseq rfl rfl h0
theorem c1j:¬x1+1 < x0->x0<=x1+1:=λh0=>Nat.le_of_not_lt h0
theorem c6n:¬x1 < x0->(↑x0:Int) - (↑x1:Int)<=(0:Int):=by lia
theorem c4I:¬x1 < x0->x0<=x1+1:=λh0=>Nat.le_of_not_ge h0
theorem c5b:1+x1+x2<=0->x0=1+x1+x2:=by lia
theorem c4N:(↑x0:Int)+(↑x1:Int)<=(↑x2:Int)↔x0+x1<=x2:=Int.ofNat_le (m:=x0+x1) (n:=x2)
theorem c5x:(↑x0:Int)=(↑(max x1 x2):Int)->x0=max x1 x2:=λh0=>Int.ofNat_inj.mp h0
theorem c0g:x0+1<=x1 - x2->x0<=x1 - x2:=λh0=>Nat.le_of_succ_le h0
theorem c0b:x0+2 * (x1+1)+200 * x2+300<=9900->x0+1+2 * x1+200 * x2+300<=9900:=λh=>Nat.le_trans (Nat.add_le_add_right (Nat.add_le_add_right (Nat.le_trans (Nat.le_of_eq (Nat.add_right_comm x0 1 _)) (Nat.le_succ _)) _) 300) h
theorem b8Z:x0+2 * x1+200 * x2+300<=9900->x0+200 < 9900:=λh=>Nat.lt_of_lt_of_le (Nat.add_lt_add_of_le_of_lt (Nat.le_trans (Nat.le_add_right x0 _) (Nat.le_add_right _ _)) (c7v rfl)) h
theorem c1m:x0+2 * x2+200 * x1+300<=9900->x0+200 * x1+200<=9900:=λh=>Nat.le_trans (Nat.add_le_add (Nat.add_le_add_right (Nat.le_add_right x0 _) _) (c7v rfl)) h
theorem c01:x0+(x1+1) < x2->x0+1+x1 < x2:=λh0=>Nat.lt_of_le_of_lt (Nat.le_of_eq (Nat.add_right_comm x0 1 x1)) h0
theorem c3U:x0+(x1+1)=x2->x0+1+x1=x2:=by lia
theorem c1H:x0+(x1+1)<=x2->x0+(0+1)+x1<=x2:=by lia
theorem c5h:x0+(x1+x2)=x0+x1+x2:=Eq.symm (Nat.add_assoc x0 x1 x2)
theorem c2b:x0+(x2+1) < x1->x0 < x1:=λh0=>Nat.lt_of_add_right_lt h0
theorem c6x:x0+(x2+1)<=x1->x0 < x1:=λh0=>Nat.lt_of_add_right_lt h0
theorem c0c:x0+x1+x2=x0+x2+x1:=Nat.add_right_comm x0 x1 x2
theorem c21:x0+x1=x2->x0+(x1+1)=x2+1:=λh0=>congrArg _ h0
theorem c35:x0+x1=x2->x2<=17->x0<=17:=by lia
theorem c0K:x0+x1<=x2->x0+x1<=x2+1:=λh0=>Nat.le_add_right_of_le h0
theorem b9P:x0 - x1=x2+1->x0 - (x1+1)=x2:=λh0=>(Nat.sub_add_eq _ _ _).trans (congrArg (· - 1) h0)
theorem c1i:x0 - x1<=x2+1->x0 - ((x1+x0) / 2+1)<=x2:=λh=>(Nat.le_total x1 x0).elim (λa=>Nat.le_trans (Nat.sub_le_sub_left (Nat.succ_le_succ ((Nat.le_div_iff_mul_le Nat.zero_lt_two).mpr (Nat.le_trans (Nat.le_of_eq (Nat.mul_two x1)) (Nat.add_le_add_left a x1)))) x0) (Nat.pred_le_pred h)) (λa=>Nat.le_trans (Nat.le_of_eq (Nat.sub_eq_zero_of_le (Nat.le_succ_of_le ((Nat.le_div_iff_mul_le Nat.zero_lt_two).mpr (Nat.le_trans (Nat.le_of_eq (Nat.mul_two x0)) (Nat.add_le_add_right a x0)))))) (Nat.zero_le _))
theorem c48:x0 - x2<=0->x2<=x1->x0<=x1:=λh0 h1=>Nat.le_trans (Nat.sub_eq_zero_iff_le.mp (Nat.le_zero.mp h0)) h1
theorem c4p:x0 < ((↑x1:Int) - (↑x2:Int)).toNat->x0 < x1 - x2:=λh0=>Nat.lt_of_lt_of_eq h0 (Int.toNat_sub _ _)
theorem c3Z:x0 < (x1+x2) / 2+1->x0<=(x1+x2) / 2:=λh0=>Nat.le_of_lt_succ h0
theorem c6p:x0 < x1+(x2+1)->x0 < x1+1+x2:=by lia
theorem c3o:x0 < x1->x0 < x1+x2:=λh0=>Nat.lt_add_right x2 h0
theorem b90:x0 < x1/\x2 < x1->x0 < x1+1/\x2 < x1+1:=λh=>⟨Nat.lt_succ_of_lt h.1,Nat.lt_succ_of_lt h.2⟩
theorem c0N:x0 < x2+1->x1 < x2+1->¬x0 < x2->¬x1 < x2->x0=x1:=λa b c d=>(Nat.eq_of_lt_succ_of_not_lt a c).trans (Nat.eq_of_lt_succ_of_not_lt b d).symm
theorem c0R:x0 < x2->x1=x2->x0 < x1:=λh0 h1=>Nat.lt_of_lt_of_eq h0 (id (Eq.symm h1))
theorem c3N:x0 < x2->x2=x1->x0<=x1:=by lia
theorem c2E:x0=x1->1+x0<=1+x1+x2:=λh0=>Nat.le.intro (congrFun (congrArg HAdd.hAdd (congrArg (HAdd.hAdd 1) h0)) x2)
theorem c0Q:x0=x1->x0 < x2->x1=x2->False:=by lia
theorem c4s:x0=x1->x1=x2->x0 < x2->False:=by lia
theorem c5P:x0=x2->x2<=x1->x0<=x1:=λh0 h1=>le_of_eq_of_le h0 h1
theorem c5D:x0<=100000->x2<=5476->x1<=x2->x0+x1<=1000000:=by lia
theorem c4d:x0<=x1+x2->x0+1<=x1+(x2+1):=λh0=>Nat.add_le_add_right h0 1
theorem c3S:x0<=x1+x2->x0<=x1+(x2+1):=λh0=>Nat.le_succ_of_le h0
theorem c4i:x0<=x1 - x2->x0 < x1 - x2+1:=λh0=>Nat.lt_succ_of_le h0
theorem c4g:x0<=x1->x1<=2 * x2->x2<=17->x0<=100000:=by lia
theorem c0e:x0<=x1->x2<=x0->x2+1=x1+1->x0=x1:=by lia
theorem c07:x0<=x1->x2<=x0->x2=x1->x0=x1:=by lia
theorem c5w:x0<=x2 * 5476->x1<=5476->x0+x1<=x2 * 5476+1 * 5476:=λh0 h1=>Nat.add_le_add h0 h1
theorem c1g:x0<=x2->x0<=x1+x2:=λh0=>Nat.le_add_left_of_le h0
theorem b83:x0<=x2->x1<=x2->x0+x1<=x2 * 2:=by lia
theorem c4T:x0<=x2->x1<=x2->x2<=2 ^ 17->x0+x1<=1000000:=by lia
theorem c0q:x1+1=1+x0+x2->x0<=x1:=by lia
theorem c4c:x1+1=1+x2+x0->x0<=x1:=by lia
theorem c5p:x1 - x0=x2+1->x0+1<=x1:=λh0=>Nat.lt_of_sub_ne_zero λe=>Nat.succ_ne_zero x2 (h0.symm.trans e)
theorem c0V:x1 - x0=x2+1->x0 < x1:=λh0=>Nat.lt_of_sub_ne_zero λe=>Nat.succ_ne_zero x2 (h0.symm.trans e)
theorem c2B:x1 - x0<=x2+1->(x0+x1) / 2 - x0<=x2:=λh=>Nat.sub_le_iff_le_add.mpr (Nat.le_of_lt_succ ((Nat.div_lt_iff_lt_mul Nat.zero_lt_two).mpr (Nat.lt_of_lt_of_le (Nat.add_lt_add_of_lt_of_le (Nat.lt_succ_of_le (Nat.le_add_left x0 x2)) (Nat.le_trans (Nat.sub_le_iff_le_add.mp h) (Nat.le_of_eq (Nat.add_right_comm x2 1 x0)))) (Nat.le_of_eq (Nat.mul_two _).symm))))
theorem c6u:x1 < 4->x0=x2->x2 < x1->x0 < 3:=λa b c=>by subst b;exact Nat.lt_of_lt_of_le c (Nat.le_of_lt_succ a)
theorem c0v:x1 < 6->x0<=2+x2->x2 < x1->x0 < 17:=λa b c=>Nat.lt_of_le_of_lt (Nat.le_trans b (Nat.add_le_add_left (Nat.le_of_lt (Nat.lt_trans c a)) 2)) (c7v rfl)
theorem c1J:x1=x0->x1 < x2->x2<=(17:Nat)->(↑x0:Int) < (17:Int):=λa b c=>by subst a;exact Int.ofNat_lt.mpr (Nat.lt_of_lt_of_le b c)
theorem c4a:x1=x2->1+x0+x1<=1+x0+x2:=λh0=>Nat.le_of_eq (congrArg (HAdd.hAdd (1+x0)) h0)
theorem c5d:x1=x2->x0 < x2->x0 < x1:=λh0 h1=>Nat.lt_of_lt_of_eq h1 (id (Eq.symm h0))
theorem c0W:x1=x2->x0 < x2->x0<=x1 - 1:=λh0 h1=>Nat.le_sub_one_of_lt (Nat.lt_of_lt_of_eq h1 h0.symm)
theorem c4M:x1=x2->x2=x0->x0=x1:=λh0 h1=>h0▸h1▸rfl
theorem c5g:x1<=100000->x0<=x2+x1->x2<=74->x0<=500000:=λa b c=>Nat.le_trans b (Nat.le_trans (Nat.add_le_add c a) (c7v rfl))
theorem c2u:x1<=17->x0<=x1+x2->x2<=3->x0<=100000:=by lia
theorem c1D:x1<=17->x0<=x2->x2 < x1->x0<=1000000:=by lia
theorem c2V:x1<=2->x0<=2+x1+x2->x2<=2 * 2->x0<=8:=by lia
theorem b9R:x1<=2->x2 < x1->x0<=1+x2->x0<=3:=by lia
theorem c1M:x1<=3->x0+6 * x2+10<=990->x0+x1+6 * x2+5<=990:=by lia
theorem c3p:x1<=4->x1+1=1+x0+x2->x0<=8:=by lia
theorem c0s:x1<=4->x1+1=1+x2+x0->x0<=8:=by lia
theorem c50:x1<=8->x0<=2+x1+x2->x2<=8 * 8->x0<=74:=by lia
theorem c3D:x1<=x0->x0 < x1+x2->x0 - x1 < x2:=λh0 h1=>Nat.sub_lt_left_of_lt_add h0 h1
theorem b9y:x1<=x2->2+x0+x1<=2+x0+x2:=λh0=>Nat.add_le_add_iff_left.mpr h0
theorem c0T:x1<=x2->x0 < x1->(x0+x1) / 2<=x2:=λh0 h1=>Nat.le_of_lt (b4r h0 h1)
theorem b9d:x1<=x2->x0<=x1->x0=x2->x0=x1:=by lia
theorem c0h:x2+1<=x0 - x1->x0 - x1 - x2 > 0:=λh0=>Nat.zero_lt_sub_of_lt h0
theorem c3c:x2+1<=x1+1->x0<=x2->x0<=x1:=by lia
theorem c5N:x2+1<=x1+1->¬x0=x2+1->x0<=x2+1->x0<=x1:=by lia
theorem c1t:x2+x0=x2+x1->x0=x1:=λh0=>Nat.add_left_cancel h0
theorem b9C:x2+x0<=x1->x0<=x1:=λh0=>Nat.le_of_add_left_le h0
theorem c2Q:x2 < 10 * x1->x0<=x2->x0 < 10 * x1:=λh0 h1=>Nat.lt_of_le_of_lt h1 h0
theorem b9q:x2 < x1+1->x0<=10 * (13+x2)->x0 < 10 * (x1+15):=λa b=>Nat.lt_of_le_of_lt b (Nat.mul_lt_mul_of_pos_left (Nat.lt_of_le_of_lt (Nat.le_of_eq (Nat.add_comm 13 x2)) (Nat.add_lt_add_of_le_of_lt (Nat.le_of_lt_succ a) (c7v rfl))) (Nat.zero_lt_succ 9))
theorem c4r:x2 < x1->x0<=x2->x0<=x1:=λh0 h1=>Nat.le_of_lt (Nat.lt_of_le_of_lt h1 h0)
theorem b95:x2=x0->x2 < x1->x0 < x1+1:=by lia
theorem c26:x2=x1+1->(17 - x0) * 1000+x1 < (17 - x0) * 1000+x2:=by lia
theorem c2K:x2=x1+1->x0 < x2->x0 < x1+1:=λh0 h1=>Nat.lt_of_lt_of_eq h1 h0
theorem c1z:x2=x1->0 < x1->x0<=x2 - 1->x0 < x1:=λa b c=>by subst a;exact Nat.lt_of_le_of_lt c (Nat.sub_lt b Nat.one_pos)
theorem c3G:x2=x1->(↑x0:Int)<=(↑x2:Int)->x0<=x1:=by lia
theorem c2R:x2<=2+x1->x0<=x2+1->x0<=2+(x1+1):=λa b=>Nat.le_trans b (Nat.succ_le_succ a)
theorem c1c:x2<=x0->x0<=x1->x2=x1->x0=x1:=by lia
theorem c45:x2<=x1->x0+1 < x2->x0+1 < x1:=λh0 h1=>Nat.lt_of_lt_of_le h1 h0
theorem b9O:x2<=x1->x0<=0+x2->x0<=x1:=by lia
theorem c0r:x2<=x1->x0<=x2+x1->x0<=2 * x1:=by lia
theorem b9s:x2<=x1->x0<=x2->x0+1<=x1+1:=by lia
theorem c5i:¬(↑x0:Int)=(↑(max x1 x2):Int)->¬x0=max x1 x2:=λh0=>Ne.intro λa=>h0 (congrArg Nat.cast a)
theorem c2Z:¬x0=x1+1->x2=x1+1->x2=x0->False:=by lia
theorem c0E:¬x1 < x2->x0=x2->x0<=x1:=by lia
theorem c2x:¬x2 < x0->x2<=x1->x0<=x1:=by lia
theorem c3P:x0+(x2 - x3)+1<=x1->x0<=x1:=by lia
theorem c5y:x0+x1+1<=x2+34 * x3->x0+1+x1<=x2+34 * x3:=by lia
theorem b98:x0+x1<=x2+34 * x3->x0+x1+1<=x2+1+34 * x3:=by lia
theorem c4V:x0+x1<=x2+34 * x3->x0+x1<=x2+1+34 * x3:=by lia
theorem c29:x0<=10 * x3->x1 - x2<=9->x0+(x1 - x2)+1<=10 * (x3+1):=λa b=>Nat.succ_le_succ (Nat.add_le_add a b)
theorem c3q:x0<=x1+(x2 - x3)->x0 - x1<=x2 - x3:=λh0=>Nat.sub_le_iff_le_add'.mpr h0
theorem c3d:x0<=x3->x1<=x2->x0+x1<=x2+1 * x3:=λa b=>Nat.le_trans (Nat.le_of_eq (Nat.add_comm x0 x1)) (Nat.add_le_add b (Nat.le_trans a (Nat.le_of_eq (Nat.one_mul x3).symm)))
theorem c1P:x1+1=x3->x0+x3=x2->x0+1+x1=x2:=λa b=>by subst a;exact (Nat.add_right_comm x0 1 x1).trans b
theorem c5G:x1+x2=x3->x0+x1+x2=x0+x3:=by lia
theorem c1O:x1=x2->x2=x3->x0 < x3->x0 < x1:=by lia
theorem c0p:x1=x2->x3=x0->x3<=x1->x2<=x0->x0=x1:=λa b c d=>Nat.le_antisymm (b▸c) (a▸d)
theorem b86:x1<=20->x0+2 * x3+200 * x2+300<=9900->x0+x1+200 * x2+200<=9900:=λa h=>Nat.le_trans (Nat.add_le_add_right (Nat.le_trans (Nat.le_of_eq (Nat.add_right_comm x0 x1 _)) (Nat.add_le_add (Nat.add_le_add_right (Nat.le_add_right x0 (2 * x3)) _) a)) 200) (Nat.le_trans (Nat.le_of_eq (Nat.add_assoc _ 20 200)) (Nat.le_trans (Nat.add_le_add_left (c7v rfl) _) h))
theorem c4O:x1<=21->x0+64 < x3->x0+min x1 x2 < x3:=λh0 h1=>Nat.lt_of_le_of_lt (Nat.add_le_add_left (Nat.le_trans (Nat.min_le_left _ _) (Nat.le_trans h0 (c7v rfl))) _) h1
theorem c2g:x1<=3->x2<=100000->x0<=x3+x2->x3<=x1 * 100000->x0<=900000:=λa b c d=>Nat.le_trans c (Nat.le_trans (Nat.add_le_add (Nat.le_trans d (Nat.mul_le_mul_right 100000 a)) b) (c7v rfl))
theorem c27:x1<=x3->x0+2 * x3+200 * x2+300<=9900->x0+2 * x1+200 * x2+300<=9900:=λa h=>Nat.le_trans (Nat.add_le_add_right (Nat.add_le_add_right (Nat.add_le_add_left (Nat.mul_le_mul_left 2 a) x0) _) 300) h
theorem c4A:x2 * 128+x0=x3 * 128+x1->x2=x3->x0=x1:=λa b=>by subst b;exact Nat.add_left_cancel a
theorem c3k:x2+x0=x3+x1->x2=x3->x0=x1:=by lia
theorem b8T:x2+x3<=1000000->x2=x0->x3=x1->x0+x1<=16777216:=by lia
theorem c5n:x2 < 10 * x1->x3+x0=x2->x0 < 10 * x1:=λh0 h1=>Nat.lt_of_le_of_lt (Nat.le_trans (Nat.le_add_left _ _) (Nat.le_of_eq h1)) h0
theorem c2H:x2 < 128->x3 < 128->x0 * 128+x2=x1 * 128+x3->x0=x1:=λa b h=>(have e:∀ u v:Nat,v < 128->u * 128+v=x1 * 128+x3->(x1 * 128+x3) / 128=u:=λu v q w=>(Nat.div_eq_of_lt_le (Nat.le_trans (Nat.le_add_right _ v) (Nat.le_of_eq w)) (Nat.lt_of_le_of_lt (Nat.le_of_eq w.symm) (Nat.lt_of_lt_of_le (Nat.add_lt_add_left q _) (Nat.le_of_eq (Nat.succ_mul u 128).symm))));(e _ _ a h).symm.trans (e _ _ b rfl))
theorem c2v:x2 < 3->x3 < x2+1 - 1->x0<=100->x1<=x3 * 10000->x0+x1<=100000:=λa b c d=>Nat.le_trans (Nat.add_le_add c (Nat.le_trans d (Nat.mul_le_mul_right 10000 (Nat.le_of_lt (Nat.lt_trans b a))))) (c7v rfl)
theorem c6k:x2 < x3+1->x3 < x2->x0=x1+1:=λh0 h1=>absurd h0 (Nat.not_lt_of_le h1)
theorem c4h:x2=x0->x3=x1->x2+x3<=1000000->x0+x1<=16777216:=by lia
theorem c4F:x2=x0->x3=x1->x2=0\/x3=0->x0=0\/x1=0:=by lia
theorem c1A:x2=x1->x2=x3->x0 < x3->x0 < x1:=by lia
theorem c1h:x2=x3->x1=x2->x3=x0->x0=x1:=by lia
theorem c3Q:x2=x3->x2 < x3->x0=x1:=by lia
theorem c0C:x2=x3->x3+1<=x2->x0=x1+1:=by lia
theorem c39:x2<=100000->x0<=x3+x2->x3<=x1 * 100000->x0<=(x1+1) * 100000:=λa b c=>Nat.le_trans b (Nat.le_trans (Nat.add_le_add c a) (Nat.le_of_eq (Nat.succ_mul x1 100000).symm))
theorem b6C:x3+x2=x0->x3<=x1->x1 < x0->x0 - (x1+1) < x2:=λh0 h1 h2=>b3w (Nat.lt_succ_of_le (Nat.sub_le_iff_le_add'.mpr (h0▸Nat.add_le_add_right h1 _))) h2
theorem b9w:x3<=x2->x0<=x1+x3->x0+1<=x1+1+x2:=by lia
theorem c3Y:x3<=x2/\x0+x1<=x2->x1 > 0->x0+1+(x1 - 1)<=x2:=λh g=>Nat.le_trans (Nat.le_of_eq ((Nat.add_assoc x0 1 _).trans (congrArg (x0+·) (Nat.add_sub_cancel' g)))) h.2
theorem c5B:¬x3<=x0+(x1 - x2)->x0+(x1 - x2)+1<=x3:=by lia
theorem c4L:x0<=x2->x3<=x4->x1=x2->x0+x3=x1+x4->x0=x1:=λa b c d=>by subst c;exact Nat.le_antisymm a (Nat.le_of_add_le_add_right (Nat.le_trans (Nat.le_of_eq d.symm) (Nat.add_le_add_left b x0)))
theorem c5S:x0<=x4->x1<=x3->x2=x4->x0+x1<=x2+x3:=λa b c=>Nat.add_le_add (c▸a) b
theorem b9m:x1+x2=x3->x3<=17->x0+x4<=x3+34 * x1->x0<=100000:=λa b c=>Nat.le_trans (Nat.le_add_right x0 x4) (Nat.le_trans c (Nat.le_trans (Nat.add_le_add b (Nat.mul_le_mul_left 34 (Nat.le_trans (Nat.le.intro a) b))) (c7v rfl)))
theorem b8Y:x1<=x3->x3<=2 * x4->x4<=17->x1=x1->x0<=34 * x2->x0+x1<=34 * (x2+1):=λa b c _ d=>Nat.add_le_add d (Nat.le_trans a (Nat.le_trans b (Nat.mul_le_mul_left 2 c)))
theorem c1K:x2<=2->x0<=x3+x4+x2->x3<=2 * x1->x4=0->x0<=2 * (x1+1):=λa b c d=>by subst d;exact Nat.le_trans b (Nat.add_le_add c a)
theorem c1B:x3+x4=x0->x4 < x2+1->x3<=x1->x1 < x0->x0 - (x1+1) < x2:=λh0 h1 h2 h3=>Nat.lt_of_lt_of_le (b6C h0 h2 h3) (Nat.le_of_lt_succ h1)
theorem b9G:x4=x1+1->x0+x4<=x2+34 * x3->x0+x1+1<=x2+34 * x3:=λa b=>by subst a;exact b
theorem b9D {x0 x1 x2 x3 x4 x5:Nat}:x1 < 17->x2<=x3+x4+x5->x4=0->x3<=2 * x1->x5<=2->x0<=x2->x0<=1000:=λa b c d e f=>Nat.le_trans f (Nat.le_trans b (Nat.le_trans (Nat.add_le_add (Nat.add_le_add (Nat.le_trans d (Nat.mul_le_mul_left 2 (Nat.le_of_lt a))) (Nat.le_of_eq c)) e) (c7v rfl)))
theorem c3L {x0 x1 x2 x3 x4 x5:Nat}:x1<=34 * x0->x0+x4=x5->x5<=17->x0=x2+1->(17 - x0) * 1000+x1 < (17 - x2) * 1000+x3:=λh1 h2 h3 h4=>by subst h4;exact (have a:x2+1<=17:=Nat.le_trans (Nat.le.intro h2) h3;have e:(17 - x2) * 1000=(17 - (x2+1)) * 1000+1000:=(congrArg (· * 1000) ((Nat.succ_sub (Nat.le_of_succ_le_succ a)).trans (congrArg Nat.succ (Nat.succ_sub_succ 16 x2).symm))).trans (Nat.succ_mul _ _);Nat.lt_of_lt_of_le (Nat.add_lt_add_left (Nat.lt_of_le_of_lt (Nat.le_trans h1 (Nat.mul_le_mul_left 34 a)) (c7v rfl)) _) (Nat.le_trans (Nat.le_of_eq e.symm) (Nat.le_add_right _ _)))
theorem c4K {x0 x1 x2 x3 x4 x5:Nat}:x2<=x5->x5<=2 * x3->x3<=17->x2=x2->x0+x1<=x3+34 * x4->x0+(x1+x2)<=x3+34 * (x4+1):=λa b c _ d=>Nat.le_trans (Nat.le_of_eq (Nat.add_assoc x0 x1 x2).symm) (Nat.le_trans (Nat.add_le_add d (Nat.le_trans a (Nat.le_trans b (Nat.mul_le_mul_left 2 c)))) (Nat.le_of_eq (Nat.add_assoc x3 (34 * x4) 34)))
end
section
open PySem
noncomputable abbrev Nm:=Nat
noncomputable def nm (s:Str):Nm:=s.cps.toList.foldl (λa c=>a * 128+c) 1
noncomputable def y6 (s:Str):Bool:=s.cps.toList.all λn=>Nat.blt n 128
noncomputable def nmS (s:Str):String:=String.ofList (s.cps.toList.map Char.ofNat)
inductive d8 where
 | none | bool (b:Bool) | int (i:Int) | str (s:String) | tup (l:List d8) | ref (a:Nat) | fz (l:List Int)
inductive Z5 where
 | list (xs:List d8)
 | dict (es:List (d8×d8)) (ep:Nat)
 | inst (c:Nm) (d:Nat)
 | ns (fs:List (Nm×d8))
noncomputable abbrev Hp:=Nat->Option Z5
noncomputable abbrev En:=Nm->Option d8
noncomputable def Hp.set (H:Hp) (a:Nat) (o:Z5):Hp:=λb=>if b=a then some o else H b
noncomputable def En.set (r:En) (x:Nm) (v:d8):En:=λy=>bif Nat.beq y x then some v else r y
noncomputable def En.nil:En:=λ_=>Option.none
inductive BOp where
 | add | sub | mod
inductive COp where
 | eq | ne | lt | le | gt | isin | is
inductive BI where
 | len | sum | max | min | sorted | list | tuple | int | str
mutual
noncomputable def B8:Nat->d8->Bool
 | _,.int _=>true
 | _,.str _=>true
 | n+1,.tup l=>Y8 n l
 | 0,.tup _=>false
 | _,.none=>false
 | _,.bool _=>false
 | _,.ref _=>false
 | _,.fz _=>false
noncomputable def Y8:Nat->List d8->Bool
 | _,[]=>true
 | n,v :: r=>B8 n v&&Y8 n r
end
noncomputable def a1H (v:d8):Bool:=B8 20 v
noncomputable def a1F (l:List d8):Bool:=Y8 20 l
noncomputable def a3K (H:Hp) (v:d8) (xs:List d8):Prop:=v=.tup xs\/∃ a,v=.ref a/\H a=some (.list xs)
noncomputable def a1s (p:d8×d8):d8:=.tup [p.1,p.2]
open Classical in
noncomputable def eq0 (H:Hp) (v w:d8) (b:Bool):Prop :=
 (a1H v=true/\a1H w=true/\b=decide (v=w)) \/
 (∃ x y xs ys,v=.ref x/\w=.ref y/\H x=some (.list xs)/\H y=some (.list ys)/\((a1F xs=true/\a1F ys=true)\/xs=[]\/ys=[])/\b=decide (xs=ys)) \/
 (∃ x xs,v=.ref x/\w=.none/\H x=some (.list xs)/\b=false)
inductive a5t (H:Hp):List d8->List d8->Bool->Prop
 | nil:a5t H [] [] true
 | cons {v w:d8} {vs ws:List d8} {a c:Bool}:eq0 H v w a->a5t H vs ws c->a5t H (v :: vs) (w :: ws) (a&&c)
noncomputable def eq1 (H:Hp) (v w:d8) (b:Bool):Prop:=eq0 H v w b\/∃ l m,v=.tup l/\w=.tup m/\a5t H l m b
open Classical in
noncomputable def s9 (es:List (d8×d8)) (k:d8):Option d8:=(es.find? λp=>decide (p.1=k)).map (·.2)
open Classical in
noncomputable def C6 (es:List (d8×d8)) (k v:d8):List (d8×d8) :=
 if (s9 es k).isSome then es.map λp=>if p.1=k then (p.1,v) else p else es++[(k,v)]
open Classical in
noncomputable def a33 (es:List (d8×d8)) (k:d8):List (d8×d8):=es.filter λp=>decide (p.1≠k)
noncomputable def x9:d8->Nat
 | .int _=>0
 | .str _=>1
 | .tup _=>2
 | .none=>3
 | .bool _=>3
 | .ref _=>3
 | .fz _=>3
noncomputable def B0 (es:List (d8×d8)) (k:d8):Prop:=B8 7 k=true/\∀ p∈es,x9 p.1=x9 k
noncomputable def a0j (l:List (d8×d8)):Prop:=(∀ p∈l,B8 7 p.1=true)/\∀ p∈l,∀ q∈l,x9 p.1=x9 q.1
open Classical in
noncomputable def dep (es:List (d8×d8)) (k:d8) (ep:Nat):Nat:=if (s9 es k).isSome then ep else ep+1
noncomputable def A9 (l:List (d8×d8)):List (d8×d8):=l.foldl (λes p=>C6 es p.1 p.2) []
noncomputable def o5:Nat:=1000000
noncomputable abbrev m7:=d8->Hp->Prop
noncomputable abbrev N3:=Bool->Hp->Prop
noncomputable def alloc (o:Z5) (H:Hp) (Q:m7):Prop:=∀ a,H a=Option.none->Q (.ref a) (H.set a o)
noncomputable def newList (xs:List d8) (H:Hp) (Q:m7):Prop:=xs.length<=o5/\alloc (.list xs) H Q
noncomputable def newDict (es:List (d8×d8)) (H:Hp) (Q:m7):Prop:=∀ ep,alloc (.dict es ep) H Q
noncomputable def small (i:Int):Prop:=-(2 ^ 60) < i/\i < 2 ^ 60
noncomputable def c6E (v w:d8) (H:Hp) (Q:m7):Prop :=
 (∃ i j,v=.int i/\w=.int j/\Q (.int (i+j)) H) \/
 (∃ a b,v=.str a/\w=.str b/\a.length+b.length<=o5/\Q (.str (a++b)) H) \/
 (∃ l m,v=.tup l/\w=.tup m/\l.length+m.length<=o5/\Q (.tup (l++m)) H) \/
 (∃ a b xs ys,v=.ref a/\w=.ref b/\H a=some (.list xs)/\H b=some (.list ys)/\newList (xs++ys) H Q)
noncomputable def a43 (o:BOp) (v w:d8) (H:Hp) (Q:m7):Prop :=
 match o with
 | .add=>c6E v w H Q
 | .sub=>∃ i j,v=.int i/\w=.int j/\Q (.int (i - j)) H
 | .mod=>∃ i j,v=.int i/\w=.int j/\0 < j/\Q (.int (i % j)) H
open Classical in
noncomputable def inW (v w:d8) (H:Hp) (Q:N3):Prop :=
 (∃ b c,w=.str b/\97<=c.toNat/\c.toNat<=122/\v=.str (String.singleton c)/\Q (b.toList.contains c) H) \/
 (∃ l,w=.tup l/\a1H v=true/\a1F l=true/\Q (decide (v∈l)) H) \/
 (∃ a xs,w=.ref a/\H a=some (.list xs)/\a1H v=true/\a1F xs=true/\Q (decide (v∈xs)) H) \/
 (∃ a es ep,w=.ref a/\H a=some (.dict es ep)/\B0 es v/\Q (s9 es v).isSome H)
open Classical in
noncomputable def isW (v w:d8) (H:Hp) (Q:N3):Prop :=
 w=.none/\Q (decide (v=.none)) H
noncomputable def b5Y (v w:d8) (H:Hp) (f:Int->Int->Bool) (Q:N3):Prop:=∃ i j,v=.int i/\w=.int j/\Q (f i j) H
noncomputable def X8 (o:COp) (v w:d8) (H:Hp) (Q:N3):Prop :=
 match o with
 | .eq=>∃ b,eq1 H v w b/\Q b H
 | .ne=>∃ b,eq1 H v w b/\Q (!b) H
 | .lt=>b5Y v w H (λi j=>decide (i < j)) Q
 | .le=>b5Y v w H (λi j=>decide (i<=j)) Q
 | .gt=>b5Y v w H (λi j=>decide (i > j)) Q
 | .isin=>inW v w H Q
 | .is=>isW v w H Q
noncomputable def a07 (n:Nat) (i:Int):Option Nat:=if n<=o5 then (if 0<=i/\i < n then some i.toNat else if i < 0/\-(n:Int)<=i then some (i+n).toNat else Option.none) else Option.none
noncomputable def a8v (v i:d8) (H:Hp) (Q:m7):Prop :=
 (∃ s c t,v=.str s/\i=.int 0/\s.toList=c :: t/\c.toNat < 128/\Q (.str (String.singleton c)) H) \/
 (∃ xs k j x,a3K H v xs/\i=.int k/\a07 xs.length k=some j/\xs[j]?=some x/\Q x H) \/
 (∃ a es ep x,v=.ref a/\H a=some (.dict es ep)/\B0 es i/\s9 es i=some x/\Q x H)
noncomputable def c3x (v i x:d8) (H:Hp) (Q:Hp->Prop):Prop :=
 (∃ a xs k,v=.ref a/\H a=some (.list xs)/\i=.int k/\0<=k/\k < xs.length/\xs.length<=o5/\Q (H.set a (.list (xs.set k.toNat x)))) \/
 (∃ a es ep,v=.ref a/\H a=some (.dict es ep)/\B0 es i/\es.length<=o5/\Q (H.set a (.dict (C6 es i x) (dep es i ep))))
noncomputable def b8m (H:Hp) (v:d8) (c:Nm) (d:Nat) (fs:List (Nm×d8)):Prop:=∃ a,v=.ref a/\H a=some (.inst c d)/\H d=some (.ns fs)
noncomputable def a0n (fs:List (Nm×d8)) (x:Nm):Option d8 :=
 match fs with
 | []=>Option.none
 | p :: r=>bif Nat.beq p.1 x then some p.2 else a0n r x
noncomputable def a9G (v:d8) (x:Nm) (H:Hp) (Q:m7):Prop:=∃ c d fs u,b8m H v c d fs/\a0n fs x=some u/\Q u H
noncomputable def a0f (fs:List (Nm×d8)) (x:Nm) (v:d8):List (Nm×d8) :=
 match fs with
 | []=>[(x,v)]
 | p :: r=>bif Nat.beq p.1 x then (x,v) :: r else p :: a0f r x v
noncomputable def a7r (v:d8) (x:Nm) (u:d8) (H:Hp) (Q:Hp->Prop):Prop:=∃ c d fs,b8m H v c d fs/\fs.length<=1000/\Q (H.set d (.ns (a0f fs x u)))
noncomputable def a6A (v i:d8) (H:Hp) (Q:m7):Prop :=
 ∃ l k,v=.tup l/\i=.int k/\1<=k/\k<=l.length/\l.length<=o5/\Q (.tup (l.drop k.toNat)) H
noncomputable def b6x (v i:d8) (H:Hp) (Q:m7):Prop :=
 ∃ l k,v=.fz l/\i=.int k/\0<=k/\k < o5/\l.length<=o5/\newList ((l.take k.toNat).map d8.int) H Q
noncomputable def a9Y:List Int->Int
 | []=>0
 | x :: r=>r.foldl max x
noncomputable def c0B:List Int->Int
 | []=>0
 | x :: r=>r.foldl min x
noncomputable def b6K:d8->Bool
 | .tup _=>true
 | _=>false
noncomputable def T2 (l:List Int):List Int:=l.mergeSort (λa b=>decide (a<=b))
noncomputable def biW (b:BI) (vs:List d8) (H:Hp) (Q:m7):Prop :=
 match b with
 | .len=>∃ a xs,vs=[.ref a]/\H a=some (.list xs)/\xs.length<=o5/\Q (.int xs.length) H
 | .sum=>∃ a,∃ l:List Int,vs=[.ref a]/\H a=some (.list (l.map d8.int))/\Q (.int l.sum) H
 | .max=>(∃ a,∃ l:List Int,vs=[.ref a]/\H a=some (.list (l.map d8.int))/\l≠[]/\Q (.int (a9Y l)) H)\/(∃ i j,vs=[.int i,.int j]/\Q (.int (max i j)) H)
 | .min=>∃ i j,vs=[.int i,.int j]/\Q (.int (min i j)) H
 | .sorted=>∃ a,∃ l:List Int,vs=[.ref a]/\H a=some (.list (l.map d8.int))/\l.length < 64/\newList ((T2 l).map d8.int) H Q
 | .list=>∃ a xs,vs=[.ref a]/\H a=some (.list xs)/\newList xs H Q
 | .tuple=>∃ v xs,vs=[v]/\a3K H v xs/\xs.length<=o5/\Q (.tup xs) H
 | .int=>∃ i,vs=[.int i]/\Q (.int i) H
 | .str=>∃ i,vs=[.int i]/\small i/\Q (.str (toString i)) H
noncomputable def b7v (v:d8) (H:Hp) (Q:List d8->Prop):Prop:=∃ a,∃ l:List Int,v=.ref a/\H a=some (.list (l.map d8.int))/\(∀ i∈l,0<=i/\i < 17)/\∀ ys:List Int,ys.Pairwise (· < ·)->(∀ i,i∈ys↔i∈l)->Q (ys.map d8.int)
noncomputable def b7j (v:d8) (H:Hp) (Q:List d8->Prop):Prop:=∃ a xs,v=.ref a/\H a=some (.list xs)/\xs.length<=17/\(∀ x∈xs,b6K x=true/\B8 3 x=true)/\∀ ys:List d8,ys.Nodup->(∀ v,v∈ys↔v∈xs)->Q ys
structure Calls where
 call:Nm->Nm->List d8->Hp->m7->Prop
 has:Nm->Nm->Bool
inductive LM where
 | append | extend | pop
inductive DM where
 | get | setdefault | pop
noncomputable def lmN (m:LM):Nm:=match m with
 | .append=>7761242453860
 | .extend=>7900837279588
 | .pop=>3946480
noncomputable def dmN (m:DM):Nm:=match m with
 | .get=>3797748
 | .setdefault=>2248622967450708571764
 | .pop=>3946480
noncomputable def b8s:Nm:=1028727313560037
noncomputable def a7D:Nm:=125959291554050015
noncomputable def a7f (a:Nat) (xs:List d8) (m:LM) (vs:List d8) (H:Hp) (Q:m7):Prop :=
 match m with
 | .append=>∃ v,vs=[v]/\xs.length<=o5/\Q .none (H.set a (.list (xs++[v])))
 | .extend=>∃ b ys,vs=[.ref b]/\b≠a/\H b=some (.list ys)/\xs.length+ys.length<=o5/\Q .none (H.set a (.list (xs++ys)))
 | .pop=>∃ v,vs=[]/\xs.length<=o5/\xs.getLast?=some v/\Q v (H.set a (.list xs.dropLast))
noncomputable def a7m (a:Nat) (es:List (d8×d8)) (ep:Nat) (m:DM) (vs:List d8) (H:Hp) (Q:m7):Prop :=
 match m with
 | .get=>∃ k d,vs=[k,d]/\B0 es k/\Q ((s9 es k).getD d) H
 | .setdefault=>∃ k d,vs=[k,d]/\B0 es k/\es.length<=o5/\(∀ v,s9 es k=some v->Q v H)/\(s9 es k=Option.none->Q d (H.set a (.dict (es++[(k,d)]) (ep+1))))
 | .pop=>∃ k v,vs=[k]/\B0 es k/\es.length<=o5/\s9 es k=some v/\Q v (H.set a (.dict (a33 es k) (ep+1)))
noncomputable def b4C (s:String) (vs:List d8) (H:Hp) (Q:m7):Prop :=
 vs=[]/\(∃ c:Char,97<=c.toNat/\c.toNat<=122/\s=String.singleton c)/\Q (.bool false) H
inductive RK where
 | inst (c:Nm) | str | lst (m:LM) | dct (m:DM)
noncomputable def b6Q (has:Nm->Nm->Bool) (H:Hp) (v:d8) (m:Nm) (k:RK):Prop :=
 match k with
 | .inst c=>∃ d fs,b8m H v c d fs/\a0n fs m=Option.none/\has c m=true
 | .str=>(∃ s,v=.str s)/\m=b8s
 | .lst t=>(∃ a xs,v=.ref a/\H a=some (.list xs))/\m=lmN t
 | .dct t=>(∃ a es ep,v=.ref a/\H a=some (.dict es ep))/\m=dmN t
noncomputable def S9 (K:Calls) (k:RK) (v:d8) (m:Nm) (vs:List d8) (H:Hp) (Q:m7):Prop :=
 match k with
 | .inst c=>K.call c m (v :: vs) H Q
 | .str=>∃ s,v=.str s/\b4C s vs H Q
 | .lst t=>∃ a xs,v=.ref a/\H a=some (.list xs)/\a7f a xs t vs H Q
 | .dct t=>∃ a es ep,v=.ref a/\H a=some (.dict es ep)/\a7m a es ep t vs H Q
noncomputable def b04 (K:Calls) (c:Nm) (vs:List d8) (H:Hp) (Q:m7):Prop :=
 ∀ a d,H a=Option.none->H d=Option.none->a≠d->K.call c a7D (.ref a :: vs) ((H.set d (.ns [])).set a (.inst c d)) λv H'=>v=.none/\Q (.ref a) H'
inductive Src where
 | seq (l:List d8)
 | lst (a:Nat)
 | enum (a:Nat)
 | keys (a:Nat) (ks:List d8) (ep:Nat)
noncomputable def Src.next (H:Hp) (s:Src) (i:Nat) (o:Option d8):Prop :=
 match s with
 | .seq l=>o=l[i]?
 | .lst a=>∃ xs,H a=some (.list xs)/\o=xs[i]?
 | .enum a=>∃ xs,H a=some (.list xs)/\o=xs[i]?.map λx=>.tup [.int i,x]
 | .keys a ks ep=>∃ es,H a=some (.dict es ep)/\es.map (·.1)=ks/\o=ks[i]?
noncomputable def bindL (t:List Nm) (l:List d8) (r:En):En:=(t.zip l).foldl (λr p=>r.set p.1 p.2) r
noncomputable def a0a (t:List Nm) (one:Bool) (v:d8) (r r':En):Prop :=
 (one=true/\∃ x,t=[x]/\r'=r.set x v)\/(one=false/\∃ l,v=.tup l/\l.length=t.length/\r'=bindL t l r)
noncomputable def itV (v:d8) (H:Hp) (Q:Src->Hp->Prop):Prop :=
 (∃ l,v=.tup l/\Q (.seq l) H)\/(∃ s,v=.str s/\Q (.seq (s.toList.map λc=>.str (String.singleton c))) H) \/
 (∃ a xs,v=.ref a/\H a=some (.list xs)/\Q (.lst a) H)\/(∃ a es ep,v=.ref a/\H a=some (.dict es ep)/\Q (.keys a (es.map (·.1)) ep) H)
noncomputable def t9 (m n:Int):List d8:=(List.range (n - m).toNat).map λi=>d8.int (m+(i:Nat))
noncomputable def itR (vs:List d8) (H:Hp) (Q:Src->Hp->Prop):Prop :=
 (∃ n,vs=[.int n]/\-o5<=n/\n<=o5/\Q (.seq (t9 0 n)) H) \/
 (∃ m n,vs=[.int m,.int n]/\-o5<=m/\m<=o5/\-o5<=n/\n<=o5/\Q (.seq (t9 m n)) H)
noncomputable def itE (v:d8) (H:Hp) (Q:Src->Hp->Prop):Prop:=∃ a xs,v=.ref a/\H a=some (.list xs)/\Q (.enum a) H
noncomputable abbrev Ev:=Calls->En->Hp->m7->Prop
noncomputable abbrev Cv:=Calls->En->Hp->N3->Prop
noncomputable abbrev Lv:=Calls->En->Hp->(List d8->Hp->Prop)->Prop
noncomputable abbrev Iv:=Calls->En->Hp->(Src->Hp->Prop)->Prop
structure It where
 iv:Iv
 tup:Bool
noncomputable def a0M (turn:d8->Hp->(List d8->Hp->Prop)->Prop) (src:Src):Nat->Nat->List d8->Hp->(List d8->Hp->Prop)->Prop
 | 0,_,_,_,_=>False
 | n+1,i,acc,H,Q=>∃ o,src.next H i o/\(o=Option.none->Q acc H)/\∀ v,o=some v->acc.length<=o5/\turn v H λxs H'=>a0M turn src n (i+1) (acc++xs) H' Q
noncomputable def j6 (v:d8):Ev:=λ_ _ H Q=>Q v H
noncomputable def d7 (x:Nm):Ev:=λ_ r H Q=>∃ v,r x=some v/\Q v H
noncomputable def f4:Lv:=λ_ _ H Q=>Q [] H
noncomputable def d6 (e:Ev) (es:Lv):Lv:=λK r H Q=>e K r H λv H1=>es K r H1 λvs H2=>Q (v :: vs) H2
noncomputable def n5 (es:Lv):Ev:=λK r H Q=>es K r H λvs H1=>Q (.tup vs) H1
noncomputable def J5 (es:Lv):Ev:=λK r H Q=>es K r H λvs H1=>alloc (.list vs) H1 Q
noncomputable def a1c:Ev:=λ_ _ H Q=>alloc (.dict [] 0) H Q
noncomputable def a7H (ks:List String) (es:Lv):Ev:=λK r H Q=>es K r H λvs H1=>vs.length=ks.length/\newDict (A9 ((ks.map d8.str).zip vs)) H1 Q
noncomputable def y7 (o:BOp) (a b:Ev):Ev:=λK r H Q=>a K r H λv H1=>b K r H1 λw H2=>a43 o v w H2 Q
noncomputable def a3c (a:Ev):Ev:=λK r H Q=>a K r H λv H1=>∃ i,v=.int i/\Q (.int (-i)) H1
noncomputable def a2K (c:Cv):Ev:=λK r H Q=>c K r H λb H1=>Q (.bool b) H1
noncomputable def b5H (a b:Ev):Ev:=λK r H Q=>a K r H λv H1=>∃ t,v=.bool t/\(t=true->b K r H1 Q)/\(t=false->Q v H1)
noncomputable def a2B (c:Cv) (a b:Ev):Ev:=λK r H Q=>c K r H λt H1=>(t=true->a K r H1 Q)/\(t=false->b K r H1 Q)
noncomputable def n7 (e:Ev) (x:Nm):Ev:=λK r H Q=>e K r H λv H1=>a9G v x H1 Q
noncomputable def l6 (e i:Ev):Ev:=λK r H Q=>e K r H λv H1=>i K r H1 λw H2=>a8v v w H2 Q
noncomputable def a2g (e i:Ev):Ev:=λK r H Q=>e K r H λv H1=>i K r H1 λw H2=>a6A v w H2 Q
noncomputable def b2p (e i:Ev):Ev:=λK r H Q=>e K r H λv H1=>i K r H1 λw H2=>b6x v w H2 Q
noncomputable def G7 (f:Nm) (args:Lv):Ev:=λK r H Q=>args K r H λvs H1=>K.call 0 f vs H1 Q
noncomputable def a6m (c:Nm) (args:Lv):Ev:=λK r H Q=>args K r H λvs H1=>b04 K c vs H1 Q
noncomputable def j7 (e:Ev) (m:Nm) (args:Lv):Ev:=λK r H Q=>e K r H λv H1=>∃ k,b6Q K.has H1 v m k/\args K r H1 λvs H2=>S9 K k v m vs H2 Q
noncomputable def J8 (b:BI) (args:Lv):Ev:=λK r H Q=>args K r H λvs H1=>biW b vs H1 Q
noncomputable def a57 (a:Ev):Ev:=λK r H Q=>a K r H λv H1=>∃ n:Int,v=.int n/\-o5<=n/\n<=o5/\alloc (.list (t9 0 n)) H1 Q
noncomputable def M6 (e:Ev):Ev:=λK r H Q=>e K r H λv H1=>b7v v H1 λys=>alloc (.list ys) H1 Q
noncomputable def a4a (e:Ev):Ev:=λK r H Q=>e K r H λv H1=>b7j v H1 λys=>Q (.int ys.length) H1
noncomputable def B6:Cv:=λ_ _ H Q=>Q true H
noncomputable def S2 (c:Cv) (cs:Cv):Cv:=λK r H Q=>c K r H λb H1=>(b=true->cs K r H1 Q)/\(b=false->Q false H1)
noncomputable def b5x:Cv:=λ_ _ H Q=>Q false H
noncomputable def a5i (c:Cv) (cs:Cv):Cv:=λK r H Q=>c K r H λb H1=>(b=true->Q true H1)/\(b=false->cs K r H1 Q)
noncomputable def a2R (elt:Ev) (ifs:Cv) (K:Calls) (r':En) (H2:Hp) (P:List d8->Hp->Prop):Prop :=
 ifs K r' H2 λb H3=>(b=true->elt K r' H3 λx H4=>P [x] H4)/\(b=false->P [] H3)
noncomputable def a2E (t:List Nm) (one:Bool) (r:En) (body:En->Hp->(List d8->Hp->Prop)->Prop) (v:d8) (H2:Hp) (P:List d8->Hp->Prop):Prop:=∃ r',a0a t one v r r'/\body r' H2 P
noncomputable def b3C (elt:Ev) (t2:List Nm) (one2:Bool) (it2:It) (ifs:Cv) (K:Calls) (r':En) (H2:Hp) (P:List d8->Hp->Prop):Prop :=
 it2.iv K r' H2 λsrc2 H3=>∃ n2,a0M (a2E t2 one2 r' (a2R elt ifs K)) src2 n2 0 [] H3 P
noncomputable def v8 (elt:Ev) (t:List Nm) (one:Bool) (it:It) (ifs:Cv):Ev:=λK r H Q=>it.iv K r H λsrc H1=>∃ n,a0M (a2E t one r (a2R elt ifs K)) src n 0 [] H1 λxs H5=>alloc (.list xs) H5 Q
noncomputable def V5 (elt:Ev) (t:List Nm) (one:Bool) (it:It) (t2:List Nm) (one2:Bool) (it2:It) (ifs:Cv):Ev:=λK r H Q=>it.iv K r H λsrc H1 =>
 ∃ n,a0M (a2E t one r (b3C elt t2 one2 it2 ifs K)) src n 0 [] H1 λxs H5=>alloc (.list xs) H5 Q
noncomputable def b18 (k v:Ev) (K:Calls) (r':En) (H2:Hp) (P:List d8->Hp->Prop):Prop :=
 k K r' H2 λkv H3=>v K r' H3 λvv H4=>(∃ x,kv=.int x)/\P [a1s (kv,vv)] H4
noncomputable def a3t (k v:Ev) (t:List Nm) (one:Bool) (it:It):Ev:=λK r H Q=>it.iv K r H λsrc H1=>∃ n,a0M (a2E t one r (b18 k v K)) src n 0 [] H1 λxs H5=>∃ l,xs=l.map a1s/\newDict (A9 l) H5 Q
noncomputable def B3 (o:COp) (a b:Ev):Cv:=λK r H Q=>a K r H λv H1=>b K r H1 λw H2=>X8 o v w H2 Q
noncomputable def a55 (o1 o2:COp) (a b c:Ev):Cv:=λK r H Q=>a K r H λv H1=>b K r H1 λw H2=>X8 o1 v w H2 λt H3 =>
   (t=true->c K r H3 λu H4=>X8 o2 w u H4 Q)/\(t=false->Q false H3)
noncomputable def b2P (c:Cv):Cv:=λK r H Q=>c K r H λb H1=>Q (!b) H1
noncomputable def a4D (e:Ev):Cv:=λK r H Q=>e K r H λv H1=>∃ b,v=.bool b/\Q b H1
noncomputable def w5 (e:Ev):It:=⟨λK r H Q=>e K r H λv H1=>itV v H1 Q,false⟩
noncomputable def D5 (es:Lv):It:=⟨λK r H Q=>es K r H λvs H1=>itR vs H1 Q,false⟩
noncomputable def a5j (e:Ev):It:=⟨λK r H Q=>e K r H λv H1=>itE v H1 Q,true⟩
noncomputable abbrev a3M:=En->Hp->Prop
noncomputable abbrev Tv:=Calls->d8->En->Hp->a3M->Prop
noncomputable def l7 (x:Nm):Tv:=λ_ v r H Q=>Q (r.set x v) H
noncomputable def a1E (e i:Ev):Tv:=λK v r H Q=>e K r H λo H1=>i K r H1 λk H2=>c3x o k v H2 (Q r)
noncomputable def P8 (e:Ev) (x:Nm):Tv:=λK v r H Q=>e K r H λo H1=>a7r o x v H1 (Q r)
noncomputable def b4Y (K:Calls):List Tv->List d8->En->Hp->a3M->Prop
 | [],vs,r,H,Q=>vs=[]/\Q r H
 | t :: ts,vs,r,H,Q=>∃ v ws,vs=v :: ws/\t K v r H λr1 H1=>b4Y K ts ws r1 H1 Q
noncomputable def Q9 (ts:List Tv):Tv:=λK v r H Q=>∃ vs,a3K H v vs/\vs.length=ts.length/\b4Y K ts vs r H Q
inductive Fl where
 | next | ret (v:d8)
noncomputable def a3o (f:Fl) (n:Prop) (rt:d8->Prop):Prop :=
 match f with
 | .next=>n
 | .ret v=>rt v
noncomputable abbrev C0:=Fl->En->Hp->Prop
noncomputable abbrev Bv:=Calls->En->Hp->C0->Prop
noncomputable def b3r (c:En->Hp->N3->Prop) (b:En->Hp->C0->Prop):Nat->En->Hp->C0->Prop
 | 0,_,_,_=>False
 | n+1,r,H,Q=>c r H λt H1=>(t=true->b r H1 λf r1 H2=>a3o f (b3r c b n r1 H2 Q) λv=>Q (.ret v) r1 H2)/\(t=false->Q .next r H1)
noncomputable def a88 (t:List Nm) (one:Bool) (b:En->Hp->C0->Prop) (src:Src):Nat->Nat->En->Hp->C0->Prop
 | 0,_,_,_,_=>False
 | n+1,i,r,H,Q=>∃ o,src.next H i o/\(o=Option.none->Q .next r H)/\∀ v,o=some v->∃ r',a0a t one v r r'/\b r' H λf r1 H2 =>
   a3o f (a88 t one b src n (i+1) r1 H2 Q) λv=>Q (.ret v) r1 H2
noncomputable def v7 (e:Ev):Bv:=λK r H Q=>e K r H λ_ H1=>Q .next r H1
noncomputable def s6 (t:Tv) (e:Ev):Bv:=λK r H Q=>e K r H λv H1=>t K v r H1 λr1 H2=>Q .next r1 H2
noncomputable def H9 (e:Ev):Bv:=λK r H Q=>e K r H λv H1=>Q (.ret v) r H1
noncomputable def a0t (c:Cv) (a b:Bv):Bv:=λK r H Q=>c K r H λt H1=>(t=true->a K r H1 Q)/\(t=false->b K r H1 Q)
noncomputable def a8X (c:Cv) (b:Bv):Bv:=λK r H Q=>∃ n,b3r (c K) (b K) n r H Q
noncomputable def O6 (t:List Nm) (one:Bool) (it:It) (b:Bv):Bv:=λK r H Q=>it.iv K r H λsrc H1=>∃ n,a88 t one (b K) src n 0 r H1 Q
noncomputable def b1x:Bv:=λ_ _ _ _=>False
noncomputable def m6:Bv:=λ_ r H Q=>Q .next r H
noncomputable def f6 (s b:Bv):Bv:=λK r H Q=>s K r H λf r1 H1=>a3o f (b K r1 H1 Q) λv=>Q (.ret v) r1 H1
structure Fn where
 params:List Nm
 body:Bv
noncomputable abbrev D4:=Nm->Nm->Option Fn
noncomputable def j5 (F:D4):Nat->Calls
 | 0=>⟨λ_ _ _ _ _=>False,λc f=>(F c f).isSome⟩
 | n+1=>⟨λc f vs H Q=>∃ fd,F c f=some fd/\vs.length=fd.params.length/\fd.body (j5 F n) (bindL fd.params vs En.nil) H λfl _ H'=>a3o fl (Q .none H') λv=>Q v H',λc f=>(F c f).isSome⟩
theorem a5F (F:D4) (n:Nat) (c f:Nm):(j5 F n).has c f=(F c f).isSome:=by cases n <;> rfl
structure Cx where
 names:List (Str×NameKind)
 fns:List Str
 clss:List Str
 attrs:List Str
 dom:List Str
inductive VK where
 | var | glob | no
noncomputable def Cx.kind (c:Cx) (x:Str):VK:=match c.names.lookup x with
 | some .local=>.var
 | some .cell=>.var
 | some .globalImplicit=>.glob
 | _=>.no
theorem x8 {α:Type} {a:α} {C:Prop} (h:(none:Option α)=some a):C:=nomatch h
noncomputable def gd {α:Type} (b:Bool) (x:Option α):Option α:=bif b then x else none
theorem o8 {α:Type} {b:Bool} {x:Option α} {a:α} (h:gd b x=some a):b=true/\x=some a:=by
 cases b with
 | true=>exact ⟨rfl,h⟩
 | false=>exact x8 h
theorem f5 {α β:Type} {x:Option α} {f:α->Option β} {b:β} (h:x.bind f=some b):∃ a,x=some a/\f a=some b:=Option.bind_eq_some_iff.mp h
theorem l8 {α β:Type} {x:Option α} {f:α->β} {b:β} (h:x.map f=some b):∃ a,x=some a/\f a=b:=Option.map_eq_some_iff.mp h
noncomputable def one? {α:Type} (l:List α):Option α:=match l with
 | []=>none
 | a :: r=>bif r.isEmpty then some a else none
theorem one?_some {α:Type} {l:List α} {a:α} (h:one? l=some a):l=[a]:=by
 cases l with
 | nil=>exact x8 h
 | cons b r =>
  cases r with
  | nil=>exact congrArg (λx=>[x]) (Option.some.inj h)
  | cons _ _=>exact x8 h
noncomputable def two? {α:Type} (l:List α):Option (α×α):=match l with
 | []=>none
 | a :: r=>(one? r).map λb=>(a,b)
theorem two?_some {α:Type} {l:List α} {a b:α} (h:two? l=some (a,b)):l=[a,b]:=by
 cases l with
 | nil=>exact x8 h
 | cons c r =>
  refine i9 (l8 h) λd h1 h2=>?_;cases h2;refine b9 (one?_some h1) ?_;rfl
noncomputable def sN (l:List Nat):Str:=⟨l.toArray⟩
noncomputable def a4B:Str:=sN [108,101,110]
noncomputable def b6f:Str:=sN [115,117,109]
noncomputable def b6m:Str:=sN [109,97,120]
noncomputable def b6I:Str:=sN [109,105,110]
noncomputable def Y3:Str:=sN [115,111,114,116,101,100]
noncomputable def a2x:Str:=sN [108,105,115,116]
noncomputable def a9Q:Str:=sN [116,117,112,108,101]
noncomputable def b6G:Str:=sN [105,110,116]
noncomputable def b6b:Str:=sN [115,116,114]
noncomputable def U2:Str:=sN [114,97,110,103,101]
noncomputable def a0e:Str:=sN [101,110,117,109,101,114,97,116,101]
noncomputable def a2l:Str:=sN [115,101,116]
noncomputable def a25:Str:=sN [95,95,100,101,98,117,103,95,95]
noncomputable def a2k:Str:=sN [46,48]
noncomputable def b4w:List (Str×BI):=[(a4B,.len),(b6f,.sum),(b6m,.max),(b6I,.min),(Y3,.sorted),(a2x,.list),(a9Q,.tuple),(b6G,.int),(b6b,.str)]
noncomputable def b6t (o:Operator):Option BOp:=match o with
 | .Add=>some .add | .Sub=>some .sub | .Mod=>some .mod | _=>none
noncomputable def a2s (o:CmpOp):Option COp:=match o with
 | .Eq=>some .eq | .NotEq=>some .ne | .Lt=>some .lt | .LtE=>some .le | .Gt=>some .gt | .In=>some .isin | .Is=>some .is | _=>none
noncomputable def a1P (x:Str):Option Nm:=gd (y6 x) (some (nm x))
noncomputable def a7w (x:Str):Option String:=gd (y6 x) (some (nmS x))
noncomputable def a1r (e:Expr):Option Str:=match e with
 | .Name x _=>some x
 | _=>none
theorem a0b {e:Expr} {x:Str} (h:a1r e=some x):∃ p,e=.Name x p:=by
 cases e <;> first | exact x8 h | exact ⟨_,congrArg (Expr.Name · _) (Option.some.inj h)⟩
noncomputable def D2 {α β:Type} (f:α->Option β):List α->Option (List β)
 | []=>some []
 | a :: r=>(f a).bind λb=>(D2 f r).bind λl=>some (b :: l)
theorem v9 {α β:Type} {f:α->Option β} {a:α} {r:List α} {l:List β} (h:D2 f (a :: r)=some l):∃ b l',f a=some b/\D2 f r=some l'/\l=b :: l':=by
 refine i9 (f5 h) λb h1 h=>?_;refine i9 (f5 h) λl' h2 h=>?_;exact ⟨b,l',h1,h2,(Option.some.inj h).symm⟩
noncomputable def a2F (es:List Expr):Option (List Nm):=D2 (λe=>(a1r e).bind a1P) es
noncomputable def W4 (e:Expr):Option (List Nm×Bool):=match e with
 | .Name x _=>(a1P x).map λa=>([a],true)
 | .Tuple es _ _=>(a2F es).map λl=>(l,false)
 | _=>none
noncomputable def Cx.glob (c:Cx) (x:Str):Bool:=match c.kind x with
 | .glob=>true
 | _=>false
noncomputable def Cx.var (c:Cx) (x:Str):Bool:=match c.kind x with
 | .var=>true
 | _=>false
theorem a5W {c:Cx} {x:Str} (h:c.glob x=true):c.kind x=.glob:=by
 unfold Cx.glob at h;cases e:c.kind x <;> rw [e] at h <;> first | rfl | exact nomatch h
theorem a7F {c:Cx} {x:Str} (h:c.var x=true):c.kind x=.var:=by
 unfold Cx.var at h;cases e:c.kind x <;> rw [e] at h <;> first | rfl | exact nomatch h
noncomputable def t4 (c:Cx) (x:Str) (s:Str):Bool:=x==s&&(c.glob x&&(!(c.fns.contains x)&&!(c.clss.contains x)))
noncomputable def a1O:List Ev->Lv
 | []=>f4
 | e :: r=>d6 e (a1O r)
noncomputable def a1k:List Cv->Cv
 | []=>B6
 | e :: r=>S2 e (a1k r)
noncomputable def b4x:List Cv->Cv
 | []=>b5x
 | e :: r=>a5i e (b4x r)
noncomputable def toB:List Bv->Bv
 | []=>m6
 | e :: r=>f6 e (toB r)
noncomputable def a4h (e:Option Expr):Option String:=e.bind λe=>match e with
 | .Constant k _ _=>(match k with
  | .str s=>a7w s
  | _=>none)
 | _=>none
theorem a3D {e:Option Expr} {s:String} (h:a4h e=some s):∃ x k p,e=some (.Constant (.str x) k p)/\a7w x=some s:=by
 refine i9 (f5 h) λe q2 h=>?_;subst q2;cases e with
 | Constant v n p=>cases v <;> first | exact x8 h | exact ⟨_,_,_,rfl,h⟩
 | _=>exact x8 h
noncomputable def a3e (e:Expr):Option (Str×List Expr):=match e with
 | .Call f args kws _=>(a1r f).bind λg=>gd kws.isEmpty (some (g,args))
 | _=>none
theorem a3y {e:Expr} {g:Str} {as:List Expr} (h:a3e e=some (g,as)):∃ p q,e=.Call (.Name g p) as [] q:=by
 cases e with
 | Call f args kws pos =>
  refine i9 (f5 h) λg' h1 h=>?_;refine eE (a0b h1) λp q1=>?_;subst q1;refine eA (o8 h) λh2 h=>?_;cases h;cases kws with
  | nil=>exact ⟨_,_,rfl⟩
  | cons _ _=>exact nomatch h2
 | _=>exact x8 h
noncomputable def a5p (e:Expr):Bool:=match e with
 | .Set ..=>true
 | _=>false
noncomputable def b19 (rec:Expr->Option Ev) (c:Cx) (e:Expr) (f:Str) (args:List Expr):Option It :=
 bif t4 c f U2 then (D2 rec args).map λl=>D5 (a1O l)
 else bif t4 c f a0e then (one? args).bind λa=>(rec a).map a5j
 else (rec e).map w5
noncomputable def a3F (rec:Expr->Option Ev) (c:Cx) (e:Expr):Option It :=
 bif a5p e then none else
 match a3e e with
 | some p=>b19 rec c e p.1 p.2
 | none=>(rec e).map w5
noncomputable def b70 (rec:Expr->Option Ev) (l:Expr) (op:CmpOp) (rs:List Expr):Option Cv:=(one? rs).bind λr=>gd (!a5p r) <| (rec l).bind λa=>(rec r).bind λb=>(a2s op).map λo=>B3 o a b
noncomputable def c2D (o:BoolOp):Bool:=match o with
 | .And=>true
 | .Or=>false
noncomputable def b4h (rec:Expr->Option Ev) (l:Expr) (ops:List CmpOp) (rs:List Expr):Option Cv :=
 match one? ops with
 | some op=>b70 rec l op rs
 | none=>(two? ops).bind λo=>(two? rs).bind λr=>gd (!a5p r.2) <| (rec l).bind λa=>(rec r.1).bind λb=>(rec r.2).bind λz=>(a2s o.1).bind λo1=>(a2s o.2).map λo2=>a55 o1 o2 a b z
noncomputable def c31 (o:UnaryOp):Bool:=match o with
 | .Not=>true
 | _=>false
noncomputable def b93 (o:UnaryOp):Bool:=match o with
 | .USub=>true
 | _=>false
noncomputable def b8p (recC:Expr->Option Cv) (o:BoolOp) (vs:List Expr):Option Cv:=gd (!vs.isEmpty) <| (D2 recC vs).map λl=>match o with
 | .And=>a1k l
 | .Or=>b4x l
noncomputable def b9Y (rec:Expr->Option Ev) (recC:Expr->Option Cv) (e:Expr):Option Cv :=
 match e with
 | .UnaryOp o x _=>bif c31 o then (recC x).map b2P else (rec e).map a4D
 | .BoolOp o vs _=>b8p recC o vs
 | .Compare l ops rs _=>b4h rec l ops rs
 | .IfExp ..=>none
 | e=>(rec e).map a4D
noncomputable def S4 (c:Cx) (l:List (Str×NameKind)):List (Str×NameKind):=l.map λp=>if p.2==.free&&c.names.lookup p.1==some .cell then (p.1,.cell) else p
noncomputable def S1 (e:Expr):List Str:=match e with
 | .Name x _=>[x]
 | .Tuple es _ _=>es.filterMap a1r
 | _=>[]
noncomputable def a4p (sc:Scope):List (Str×NameKind):=sc.names.filter λp=>p.1 != a2k
noncomputable def Y9 (c:Cx) (sc:Scope) (must:List Str):Bool:=sc.kind==.function &&
 (sc.names.all λp=>p.2 != .cell&&(p.2 != .free||c.names.lookup p.1==some .cell)&&(p.2 != .local||sc.names.lookup p.1==some .local)) &&
 (a4p sc).all λp=>p.2 != .local||must.contains p.1||!(c.dom.contains p.1)
noncomputable def a2z (l:List (Str×NameKind)):List Str:=(l.filter λp=>p.2==.local||p.2==.cell).map (·.1)
noncomputable def sub (c:Cx) (sc:Scope):Cx:={c with names:=S4 c (a4p sc),dom:=c.dom++a2z (S4 c (a4p sc))}
noncomputable def Q8 (f:Str->Bool) (t:Expr):Bool:=match t with
 | .Name x _=>f x
 | .Tuple es _ _=>es.all λe=>((a1r e).map f).getD false
 | _=>false
noncomputable def S7 (c:Cx) (x:Str):Bool:=c.names.lookup x==some .local
noncomputable def a1i (it:It) (one:Bool):Bool:=!it.tup||!one
noncomputable def a5m (e:Expr):Bool:=match a3e e with
 | some p=>!p.2.isEmpty
 | none=>true
noncomputable def b5T (k:Const):Option d8:=match k with
 | .none=>some .none
 | .bool b=>some (.bool b)
 | .int i=>some (.int i)
 | .str s=>(a7w s).map .str
 | _=>none
noncomputable def b8j (c:Cx) (x:Str):Option Ev:=gd (!(x==a25)) <| gd (c.var x) ((a1P x).map d7)
noncomputable def b6z (rec:Expr->Option Ev) (v i:Expr):Option Ev:=match i with
 | .Slice lo hi st _=>gd st.isNone <| (match lo with
  | some lo=>gd hi.isNone <| (rec v).bind λa=>(rec lo).bind λb=>some (a2g a b)
  | none=>hi.bind λhi=>(rec v).bind λa=>(rec hi).bind λb=>some (b2p a b))
 | i=>(rec v).bind λa=>(rec i).bind λb=>some (l6 a b)
noncomputable def b1s (rec:Expr->Option Ev) (ob:Expr) (m:Str) (apos:Pos) (args:List Expr) (pos:Pos):Option Ev :=
 gd (decide (args.length<=15)&&a5m ob&&(apos.endLine==pos.line)) <| (rec ob).bind λo=>(a1P m).bind λm=>(D2 rec args).bind λl=>some (j7 o m (a1O l))
noncomputable def b7C (rec:Expr->Option Ev) (c:Cx) (f:Str) (args:List Expr):Option Ev :=
 gd (t4 c f f&&decide (args.length<=2)) <| (b4w.lookup f).bind λb=>(D2 rec args).bind λl=>some (J8 b (a1O l))
noncomputable def b4g (rec:Expr->Option Ev) (c:Cx) (f:Str) (args:List Expr):Option Ev :=
 match (one? args).bind a3e with
 | some p =>
  bif t4 c p.1 a2l then (one? p.2).bind λa=>(rec a).bind λa=>bif t4 c f Y3 then some (M6 a) else bif t4 c f a4B then some (a4a a) else none
  else bif t4 c p.1 U2&&t4 c f a2x then (one? p.2).bind λa=>(rec a).map a57
  else b7C rec c f args
 | none=>b7C rec c f args
noncomputable def a9U (rec:Expr->Option Ev) (c:Cx) (f:Str) (args:List Expr):Option Ev:=gd (decide (args.length<=15)&&!(f==a25)) <| gd (c.glob f) <|
   bif c.fns.contains f then (a1P f).bind λf=>(D2 rec args).map λl=>G7 f (a1O l)
   else bif c.clss.contains f then (a1P f).bind λf=>(D2 rec args).map λl=>a6m f (a1O l)
   else b4g rec c f args
noncomputable def b2t (rec:Expr->Option Ev) (c:Cx) (f:Expr) (args:List Expr) (kws:List Keyword) (pos:Pos):Option Ev:=gd kws.isEmpty <| match f with
 | .Attribute ob m apos=>b1s rec ob m apos args pos
 | .Name f _=>a9U rec c f args
 | _=>none
noncomputable def a9v (g:Comprehension):Bool:=g.is_async==0
noncomputable def b60 (rec:Cx->Expr->Option Ev) (recC:Cx->Expr->Option Cv) (c:Cx) (elt:Expr) (g:Comprehension) (sc:Scope):Option Ev :=
 gd (a9v g&&Y9 c sc (S1 g.target)&&Q8 (S7 (sub c sc)) g.target) <|
 (W4 g.target).bind λt=>(a3F (rec c) c g.iter).bind λit=>(D2 (recC (sub c sc)) g.ifs).bind λifs=>(rec (sub c sc) elt).bind λe=>gd (a1i it t.2) (some (v8 e t.1 t.2 it (a1k ifs)))
noncomputable def b7z (rec:Cx->Expr->Option Ev) (recC:Cx->Expr->Option Cv) (c:Cx) (elt:Expr) (g g2:Comprehension) (sc:Scope):Option Ev :=
 gd (a9v g&&a9v g2&&g.ifs.isEmpty&&Y9 c sc (S1 g.target)&&Q8 (S7 (sub c sc)) g.target&&Q8 (S7 (sub c sc)) g2.target) <|
 (W4 g.target).bind λt=>(a3F (rec c) c g.iter).bind λit=>(W4 g2.target).bind λt2=>(a3F (rec (sub c sc)) (sub c sc) g2.iter).bind λit2=>(D2 (recC (sub c sc)) g2.ifs).bind λifs=>(rec (sub c sc) elt).bind λe =>
  gd (a1i it t.2&&a1i it2 t2.2) (some (V5 e t.1 t.2 it t2.1 t2.2 it2 (a1k ifs)))
noncomputable def c25 (rec:Cx->Expr->Option Ev) (c:Cx) (k v:Expr) (g:Comprehension) (sc:Scope):Option Ev :=
 gd (a9v g&&g.ifs.isEmpty&&Y9 c sc (S1 g.target)&&Q8 (S7 (sub c sc)) g.target) <|
 (W4 g.target).bind λt=>(a3F (rec c) c g.iter).bind λit=>(rec (sub c sc) k).bind λk=>(rec (sub c sc) v).bind λv=>gd (a1i it t.2) (some (a3t k v t.1 t.2 it))
noncomputable def a8o (rec:Expr->Option Ev) (ks:List (Option Expr)) (vs:List Expr):Option Ev :=
 bif ks.isEmpty&&vs.isEmpty then some a1c else
 gd (decide (ks.length<=15)&&ks.length==vs.length) <| (D2 a4h ks).bind λks=>(D2 rec vs).bind λvs=>some (a7H ks (a1O vs))
noncomputable def c4w (c:Cx) (rec:Cx->Expr->Option Ev) (recC:Cx->Expr->Option Cv) (e:Expr):Option Ev :=
 match e with
 | .Constant k _ _=>(b5T k).map j6
 | .Name x _=>b8j c x
 | .Tuple es _ _=>gd (decide (es.length<=100)) <| (D2 (rec c) es).map λl=>n5 (a1O l)
 | .List es _=>gd (decide (es.length<=100)) <| (D2 (rec c) es).map λl=>J5 (a1O l)
 | .Dict ks vs _=>a8o (rec c) ks vs
 | .BinOp a op b _=>(b6t op).bind λo=>(rec c a).bind λx=>(rec c b).bind λy=>some (y7 o x y)
 | .UnaryOp o x _=>bif b93 o then (rec c x).map a3c else none
 | .BoolOp o vs _=>gd (c2D o) <| (two? vs).bind λp=>(rec c p.1).bind λa=>(rec c p.2).map λb=>b5H a b
 | .Compare l ops rs _=>(one? ops).bind λop=>(b70 (rec c) l op rs).map a2K
 | .IfExp t a b _=>(recC c t).bind λt=>(rec c a).bind λa=>(rec c b).bind λb=>some (a2B t a b)
 | .Attribute v a _=>gd (c.attrs.contains a&&a5m v) <| (rec c v).bind λe=>(a1P a).bind λx=>some (n7 e x)
 | .Subscript v i _=>b6z (rec c) v i
 | .Call f args kws pos=>b2t (rec c) c f args kws pos
 | .ListComp elt gs sc _=>(match one? gs with
  | some g=>b60 rec recC c elt g sc
  | none=>(two? gs).bind λg=>b7z rec recC c elt g.1 g.2 sc)
 | .DictComp k v gs sc _=>(one? gs).bind λg=>c25 rec c k v g sc
 | _=>none
mutual
noncomputable def P1:Nat->Cx->Expr->Option Ev
 | 0,_,_=>none
 | n+1,c,e=>c4w c (P1 n) (trC n) e
noncomputable def trC:Nat->Cx->Expr->Option Cv
 | 0,_,_=>none
 | n+1,c,e=>b9Y (P1 n c) (trC n c) e
end
noncomputable def a27 (e:Expr):Bool:=match e with
 | .Slice ..=>true
 | _=>false
noncomputable def a7R (n:Nat) (c:Cx) (e:Expr):Option Tv :=
 match e with
 | .Name x _=>gd (c.var x) <| (a1P x).map l7
 | .Subscript v i _=>gd (!a27 i) <| (P1 n c v).bind λa=>(P1 n c i).bind λb=>some (a1E a b)
 | .Attribute v a _=>gd (c.attrs.contains a) <| (P1 n c v).bind λe=>(a1P a).bind λx=>some (P8 e x)
 | _=>none
noncomputable def b2g (e:Expr):Option (List Expr):=match e with
 | .Tuple es _ _=>some es
 | _=>none
noncomputable def trT (n:Nat) (c:Cx) (e:Expr):Option Tv :=
 match b2g e with
 | some es=>(D2 (a7R n c) es).map Q9
 | none=>a7R n c e
noncomputable def a16 (t e:Expr):Bool :=
 match t with
 | .Tuple _ _ _=>((b2g e).map λvs=>vs.all (constantsAlone 8)).getD false
 | .List ..=>true
 | _=>false
noncomputable def Z7 (e:Expr):Bool:=match e with
 | .ListComp ..=>true
 | .SetComp ..=>true
 | .DictComp ..=>true
 | _=>false
noncomputable def a5c (recS:Cx->Stmt->Option Bv) (c:Cx) (l:List Stmt):Option Bv:=(D2 (recS c) l).map toB
noncomputable def trS:Nat->Cx->Stmt->Option Bv
 | 0,_,_=>none
 | n+1,c,s=>match s with
  | .Expr e _=>gd (!Z7 e) <| (P1 n c e).map v7
  | .Assign ts e _=>(one? ts).bind λt=>gd (!a16 t e) <| (trT n c t).bind λt=>(P1 n c e).bind λe=>some (s6 t e)
  | .Return e _=>e.bind λe=>(P1 n c e).map H9
  | .If t a b _=>(trC n c t).bind λt=>(a5c (trS n) c a).bind λa=>(a5c (trS n) c b).bind λb=>some (a0t t a b)
  | .While t b els _=>gd els.isEmpty <| (trC n c t).bind λt=>(a5c (trS n) c b).bind λb=>some (a8X t b)
  | .For t it b els _=>gd (els.isEmpty&&Q8 c.var t) <| (W4 t).bind λt=>(a3F (P1 n c) c it).bind λit=>(a5c (trS n) c b).bind λb=>gd (a1i it t.2) (some (O6 t.1 t.2 it b))
  | .Raise _ _ _=>some b1x
  | _=>none
noncomputable def a7S (p:Arguments):Option (List Nm) :=
 gd (p.posonlyargs.isEmpty&&p.vararg.isNone&&p.kwonlyargs.isEmpty&&p.kwarg.isNone&&p.defaults.isEmpty) <| D2 (λa=>a1P a.arg) p.args
noncomputable def trF (fns clss attrs:List Str) (p:Arguments) (body:List Stmt) (sc:Scope):Option Fn :=
 (a7S p).bind λps=>(a5c (trS 60) ⟨sc.names,fns,clss,attrs,a2z sc.names⟩ body).bind λb=>some ⟨ps,b⟩
end
variable {x:PySem.Str}
section
open PySem PySem.W PyProof.Rows
structure Gi where
 base:Addr->Option Obj
 K:Frag
 fa:Nm->Nm->Option Addr
 ca:Nm->Option Addr
 sa:Addr
 sl:List Int
 os:OsState
 F:D4
section
variable (G:Gi)
mutual
noncomputable def i8 (h:Heap):d8->Value->Prop
 | .none,v=>v=.none
 | .bool b,v=>v=.bool b
 | .int i,v=>∃ t,v=.int i t
 | .str s,v=>∃ t,v=.str (Str.ofString s) t
 | .tup l,v=>∃ a vs,v=.ref a/\IsTup h a vs.toArray/\l5 h l vs
 | .ref a,v=>v=.ref a
 | .fz l,v=>v=.ref G.sa/\l=G.sl
noncomputable def l5 (h:Heap):List d8->List Value->Prop
 | [],vs=>vs=[]
 | x :: r,vs=>∃ u us,vs=u :: us/\i8 h x u/\l5 h r us
end
end
section
variable {G:Gi} {h:Heap} {v:Value}
theorem a9H (r:i8 G h .none v):v=.none:=r
theorem a9I {b:Bool} (r:i8 G h (.bool b) v):v=.bool b:=r
theorem N0 {i:Int} (r:i8 G h (.int i) v):∃ t,v=.int i t:=r
theorem a1h {s:String} (r:i8 G h (.str s) v):∃ t,v=.str (Str.ofString s) t:=r
theorem Y0 {l:List d8} (r:i8 G h (.tup l) v):∃ a vs,v=.ref a/\IsTup h a vs.toArray/\l5 G h l vs:=r
theorem R4 {a:Nat} (r:i8 G h (.ref a) v):v=.ref a:=r
theorem vfz {l:List Int} (r:i8 G h (.fz l) v):v=.ref G.sa/\l=G.sl:=r
theorem a1l {vs:List Value} (r:l5 G h [] vs):vs=[]:=r
theorem F0 {x:d8} {l:List d8} {vs:List Value} (r:l5 G h (x :: l) vs):∃ u us,vs=u :: us/\i8 G h x u/\l5 G h l us:=r
theorem i8.ref {a:Nat}:i8 G h (.ref a) (.ref a):=(rfl:Value.ref a=.ref a)
theorem i8.int {i:Int} {t:Tok}:i8 G h (.int i) (.int i t):=(⟨t,rfl⟩:∃ t',Value.int i t=.int i t')
theorem i8.none:i8 G h .none .none:=(rfl:Value.none=.none)
theorem i8.bool {b:Bool}:i8 G h (.bool b) (.bool b):=(rfl:Value.bool b=.bool b)
theorem i8.str {s:String} {t:Tok}:i8 G h (.str s) (.str (Str.ofString s) t):=(⟨t,rfl⟩:∃ t',Value.str (Str.ofString s) t=.str (Str.ofString s) t')
theorem i8.tup {l:List d8} {a:Addr} {vs:List Value} (t:IsTup h a vs.toArray) (r:l5 G h l vs):i8 G h (.tup l) (.ref a):=(⟨a,vs,rfl,t,r⟩:∃ b us,Value.ref a=.ref b/\IsTup h b us.toArray/\l5 G h l us)
theorem l5.nil:l5 G h [] []:=(rfl:([]:List Value)=[])
theorem l5.cons {x:d8} {u:Value} {l:List d8} {vs:List Value} (a:i8 G h x u) (b:l5 G h l vs):l5 G h (x :: l) (u :: vs):=(⟨u,vs,rfl,a,b⟩:∃ u' us,u :: vs=u' :: us/\i8 G h x u'/\l5 G h l us)
end
theorem l5.length {G:Gi} {h:Heap}:∀ {l:List d8} {vs:List Value},l5 G h l vs->l.length=vs.length:=by
 intro r;induction r with
 | nil=>intro _ e;cases a1l e;rfl
 | cons _ r ih =>
  intro _ e;replace e:=F0 e;revert e;intro q7;refine k8 q7 λu us q6 _ e=>?_;clear q7;subst q6;simp [ih e]
theorem l5.append {G:Gi} {h:Heap}:∀ {l m:List d8} {vs ws:List Value},l5 G h l vs->l5 G h m ws->l5 G h (l++m) (vs++ws):=by
 intro r;induction r with
 | nil=>intro _ _ _ e f;cases a1l e;exact f
 | cons _ r ih =>
  intro _ _ _ e f;replace e:=F0 e;revert e;intro q9;refine k8 q9 λu us q8 a e=>?_;clear q9;subst q8;exact .cons a (ih e f)
theorem l5.get {G:Gi} {h:Heap}:∀ {l:List d8} {vs:List Value} (i:Nat) {x:d8},l5 G h l vs->l[i]?=some x->∃ u,vs[i]?=some u/\i8 G h x u:=by
 intro r;induction r with
 | nil=>intro _ i _ _ f;simp at f
 | cons y r ih =>
  intro _ i x e f;replace e:=F0 e;revert e;intro q11;refine k8 q11 λu us q10 a e=>?_;clear q11;subst q10;cases i with
  | zero=>simp at f;subst f;exact ⟨u,rfl,a⟩
  | succ i=>simp at f ⊢;exact ih i e f
theorem l5.get_none {G:Gi} {h:Heap} {l:List d8} {vs:List Value} (i:Nat) (e:l5 G h l vs) (f:l[i]?=none):vs[i]?=none:=by
 rw [List.getElem?_eq_none_iff] at f ⊢;refine t6 e.length ?_;exact f
theorem l5.drop {G:Gi} {h:Heap}:∀ {l:List d8} {vs:List Value} (n:Nat),l5 G h l vs->l5 G h (l.drop n) (vs.drop n):=by
 intro l;induction l with
 | nil=>intro _ n e;cases a1l e;refine b9 List.drop_nil ?_;refine b9 List.drop_nil ?_;exact .nil
 | cons x r ih =>
  intro _ n e;refine k8 (F0 e) λu us q18 a b=>?_;subst q18;cases n with
  | zero=>exact e
  | succ n=>exact ih n b
theorem l5.take {G:Gi} {h:Heap}:∀ {l:List d8} {vs:List Value} (n:Nat),l5 G h l vs->l5 G h (l.take n) (vs.take n):=by
 intro l;induction l with
 | nil=>intro _ n e;cases a1l e;refine b9 List.take_nil ?_;refine b9 List.take_nil ?_;exact .nil
 | cons x r ih =>
  intro _ n e;refine k8 (F0 e) λu us q19 a b=>?_;subst q19;cases n with
  | zero=>exact .nil
  | succ n=>exact .cons a (ih n b)
theorem l5.set {G:Gi} {h:Heap}:∀ {l:List d8} {vs:List Value} (i:Nat) {x:d8} {u:Value},l5 G h l vs->i8 G h x u->l5 G h (l.set i x) (vs.set i u):=by
 intro r;induction r with
 | nil=>intro _ i _ _ e _;cases a1l e;simpa using .nil
 | cons y r ih =>
  intro _ i x u e f;replace e:=F0 e;revert e;intro q13;refine k8 q13 λu' us q12 a e=>?_;clear q13;subst q12;cases i with
  | zero=>simpa using .cons f e
  | succ i=>simpa using .cons a (ih i e f)
theorem l5.toInts {G:Gi} {h:Heap}:∀ {l:List Int} {vs:List Value},l5 G h (l.map d8.int) vs->IntsAre vs l:=by
 intro r;induction r with
 | nil=>intro _ e;cases a1l e;exact .nil
 | cons i r ih =>
  intro _ e;replace e:=F0 e;revert e;intro q15;refine k8 q15 λu us q14 e1 e=>?_;clear q15;subst q14;refine eE (N0 e1) λt q5=>?_;subst q5;exact .cons i t (ih e)
theorem l5.of_ints {G:Gi} {h:Heap} {l:List Int} {vs:List Value} (e:IntsAre vs l):l5 G h (l.map d8.int) vs:=by
 induction e with
 | nil=>exact .nil
 | cons _ _ _ ih=>exact .cons .int ih
structure Ext (X:Addr->Prop) (H:Hp) (h:Heap) (H':Hp) (h':Heap):Prop where
 keep:∀ a o,h.get? a=some o->H a=none->¬ X a->h'.get? a=some o
 fresh:∀ a,(H' a).isSome->(H a).isSome\/h.get? a=none\/X a
 grow:∀ a,(H a).isSome->(H' a).isSome
 there:∀ a,(h.get? a).isSome->¬ X a->(h'.get? a).isSome
noncomputable abbrev N8:Addr->Prop:=λ_=>False
theorem Ext.refl (X:Addr->Prop) (H:Hp) (h:Heap):Ext X H h H h:=⟨λ_ _ e _ _=>e,λ_ e=>.inl e,λ_ e=>e,λ_ e _=>e⟩
theorem Ext.trans {X:Addr->Prop} {H H1 H2:Hp} {h h1 h2:Heap} (x:Ext X H h H1 h1) (y:Ext X H1 h1 H2 h2):Ext X H h H2 h2:=by
 refine ⟨λa o e f g=>?_,λa e=>?_,λa e=>y.grow a (x.grow a e),λa e g=>y.there a (x.there a e g) g⟩
 ·refine y.keep a o (x.keep a o e f g) ?_ g;cases q:H1 a with
  | none=>rfl
  | some _ =>
   rcases x.fresh a (by refine b9 q ?_;rfl) with z | z | z
   ·rw [f] at z;cases z
   ·rw [e] at z;cases z
   ·exact absurd z g
 ·rcases y.fresh a e with z | z | z
  ·exact x.fresh a z
  ·cases q:h.get? a with
   | none=>exact .inr (.inl rfl)
   | some o =>
    by_cases g:X a
    ·exact .inr (.inr g)
    ·have:=x.there a (by refine b9 q ?_;rfl) g;rw [z] at this;cases this
  ·exact .inr (.inr z)
theorem Ext.weaken {X Y:Addr->Prop} {H H':Hp} {h h':Heap} (x:Ext X H h H' h') (i:∀ a,X a->Y a):Ext Y H h H' h' :=
 ⟨λa o e f g=>x.keep a o e f λz=>g (i a z),λa e=>by
  rcases x.fresh a e with z | z | z
  ·exact .inl z
  ·exact .inr (.inl z)
  ·exact .inr (.inr (i a z)),x.grow,λa e g=>x.there a e λz=>g (i a z)⟩
theorem Ext.compress {X Y:Addr->Prop} {H H':Hp} {h h':Heap} (x:Ext X H h H' h') (i:∀ a,X a->Y a\/h.get? a=none):Ext Y H h H' h':=by
 have no:∀ a o,h.get? a=some o->¬ Y a->¬ X a:=λa o e g z=>by
  rcases i a z with z | z
  ·exact g z
  ·rw [e] at z;exact nomatch z
 refine ⟨λa o e f g=>x.keep a o e f (no a o e g),λa e=>?_,x.grow,λa e g=>?_⟩
 ·rcases x.fresh a e with z | z | z
  ·exact .inl z
  ·exact .inr (.inl z)
  ·rcases i a z with z | z
   ·exact .inr (.inr z)
   ·exact .inr (.inl z)
 ·refine eE (Option.isSome_iff_exists.mp e) λo e'=>?_;exact x.there a e (no a o e' g)
theorem Ext.toks {X:Addr->Prop} {H:Hp} {h:Heap}:Ext X H h H h:=.refl X H h
noncomputable def U6 (X:Addr->Prop) (h:Heap):Prop:=∀ a o vs n,X a->h.get? a=some o->o.cls=.type "tuple"->o.data=.seq vs n->False
theorem U6.no {h:Heap}:U6 N8 h:=λ_ _ _ _ x=>x.elim
mutual
noncomputable def n6 (w:World):d8->Int
 | .int i=>hashInt i
 | .str s=>hashStr w (Str.ofString s)
 | .tup l=>reduceHash (Builtin.Tuple.tupleHashOf (R6 w l))
 | .none=>0
 | .bool _=>0
 | .ref _=>0
 | .fz _=>0
noncomputable def R6 (w:World):List d8->List Int
 | []=>[]
 | v :: r=>n6 w v :: R6 w r
end
noncomputable def K7 (G:Gi) (w:World) (h:Heap):List (d8×d8)->List DictEntry->Prop
 | [],es=>es=[]
 | p :: r,es=>∃ e t,es=e :: t/\i8 G h p.1 e.key/\i8 G h p.2 e.val/\e.hash=n6 w p.1/\K7 G w h r t
noncomputable def a2e (G:Gi) (w:World) (h:Heap) (a:Addr):Z5->Prop
 | .list xs=>∃ vs n,h.get? a=some {cls:=.type "list",data:=.seq vs n}/\l5 G h xs vs.toList
 | .dict es ep=>(es.map (·.1)).Nodup/\a0j es/\∃ ents,h.get? a=some {cls:=.type "dict",data:=.dict ents ep}/\K7 G w h es ents.toList
 | .inst c d=>∃ C,G.ca c=some C/\h.get? a=some (instObj C d)
 | .ns fs=>∃ es n,h.get? a=some {cls:=.type "dict",data:=.dict es n}/\StrKeys es/\es.size=fs.length /\
   ∀ x,y6 x=true->(∀ v,a0n fs (nm x)=some v->∃ u,nsFind es x=some u/\i8 G h v u)/\(a0n fs (nm x)=none->nsFind es x=none)
noncomputable def B9 (o:Obj):Prop:=∀ vs n,o.data≠.seq vs n
structure w6 (G:Gi) (w:World) (H:Hp) (h:Heap):Prop where
 base:∀ a o,G.base a=some o->h.get? a=some o/\H a=none
 objs:∀ a mo,H a=some mo->a2e G w h a mo
theorem i8.mono {G:Gi} {h h':Heap} (k:∀ a vs,IsTup h a vs->IsTup h' a vs) {x:d8} {v:Value} (e:i8 G h x v):i8 G h' x v :=
 d8.rec (motive_1:=λx=>∀ v,i8 G h x v->i8 G h' x v) (motive_2:=λl=>∀ vs,l5 G h l vs->l5 G h' l vs) (λ_ e=>e) (λ_ _ e=>e) (λ_ _ e=>e) (λ_ _ e=>e)
  (λl ih v e=>by replace e:=Y0 e;revert e;intro q17;refine k8 q17 λa vs q16 ht e=>?_;clear q17;subst q16;exact .tup (k _ _ ht) (ih _ e)) (λ_ _ e=>e) (λ_ _ e=>e) (λ_ e=>e)
  (λx r i1 i2 vs e=>by refine k8 (F0 e) λu us q20 e1 e2=>?_;subst q20;exact .cons (i1 _ e1) (i2 _ e2)) x v e
theorem l5.mono {G:Gi} {h h':Heap} (k:∀ a vs,IsTup h a vs->IsTup h' a vs):∀ {l:List d8} {vs:List Value},l5 G h l vs->l5 G h' l vs:=by
 intro zz;induction zz with
 | nil=>exact λe=>e
 | cons _ _ ih =>
  intro _ e;refine k8 (F0 e) λu us q21 e1 e2=>?_;subst q21;exact .cons (e1.mono k) (ih e2)
theorem b5J {G:Gi} {w:World} {h:Heap} {es:List DictEntry} (r:K7 G w h [] es):es=[]:=r
theorem a3E {G:Gi} {w:World} {h:Heap} {p:d8×d8} {l:List (d8×d8)} {es:List DictEntry} (r:K7 G w h (p :: l) es):∃ e t,es=e :: t/\i8 G h p.1 e.key/\i8 G h p.2 e.val/\e.hash=n6 w p.1/\K7 G w h l t:=r
theorem K7.cons {G:Gi} {w:World} {h:Heap} {p:d8×d8} {l:List (d8×d8)} {e:DictEntry} {t:List DictEntry} (a:i8 G h p.1 e.key) (b:i8 G h p.2 e.val) (c:e.hash=n6 w p.1) (d:K7 G w h l t):K7 G w h (p :: l) (e :: t) :=
 (⟨e,t,rfl,a,b,c,d⟩:∃ e' t',e :: t=e' :: t'/\i8 G h p.1 e'.key/\i8 G h p.2 e'.val/\e'.hash=n6 w p.1/\K7 G w h l t')
theorem K7.mono {G:Gi} {w:World} {h h':Heap} (k:∀ a vs,IsTup h a vs->IsTup h' a vs):∀ {l:List (d8×d8)} {es:List DictEntry},K7 G w h l es->K7 G w h' l es:=by
 intro zz;induction zz with
 | nil=>exact λe=>e
 | cons _ _ ih =>
  intro _ e;refine C8 (a3E e) λu us q22 e1 e2 e3 e4=>?_;subst q22;exact .cons (e1.mono k) (e2.mono k) e3 (ih e4)
theorem a2e.mono {G:Gi} {w:World} {h h':Heap} {a:Addr} {mo:Z5} (k:∀ a vs,IsTup h a vs->IsTup h' a vs) (same:∀ o,h.get? a=some o->h'.get? a=some o) (x:a2e G w h a mo):a2e G w h' a mo:=by
 cases mo with
 | list xs=>refine A6 x λvs n e r=>?_;clear x;exact ⟨vs,n,same _ e,r.mono k⟩
 | dict es ep=>refine a0G x λnd ok ents e r=>?_;clear x;exact ⟨nd,ok,ents,same _ e,r.mono k⟩
 | inst c d=>refine i9 x λC e f=>?_;clear x;exact ⟨C,e,same _ f⟩
 | ns fs =>
  refine I6 x λes n e ns sz f=>?_;clear x;refine ⟨es,n,same _ e,ns,sz,λx hx=>⟨λv hv=>?_,(f x hx).2⟩⟩;refine i9 ((f x hx).1 v hv) λu hu hv=>?_;exact ⟨u,hu,hv.mono k⟩
theorem a2e.at_ {G:Gi} {w:World} {h:Heap} {a:Addr} {mo:Z5} (x:a2e G w h a mo):∃ o,h.get? a=some o/\o.cls≠.type "tuple":=by
 cases mo with
 | list xs=>refine A6 x λvs n e r=>?_;clear x;exact ⟨_,e,by simp⟩
 | dict es ep=>refine a0G x λnd ok ents e r=>?_;clear x;exact ⟨_,e,by simp⟩
 | inst c d=>refine i9 x λC e f=>?_;clear x;exact ⟨_,f,by simp⟩
 | ns fs=>refine I6 x λes n e ns sz f=>?_;clear x;exact ⟨_,e,by simp⟩
theorem w6.noTup {G:Gi} {w:World} {H:Hp} {h:Heap} (R:w6 G w H h) {a:Addr} {vs:Array Value} (t:IsTup h a vs):H a=none:=by
 cases q:H a with
 | none=>rfl
 | some mo =>
  refine i9 ((R.objs a mo q).at_) λo e n=>?_;refine B2 t λo' e' c _=>?_;clear t;rw [e] at e';have q2:=A3 e';clear e';subst q2;exact absurd c n
theorem Ext.tup {G:Gi} {w:World} {X:Addr->Prop} {H H':Hp} {h h':Heap} (x:Ext X H h H' h') (R:w6 G w H h) (nx:U6 X h) {a:Addr} {vs:Array Value} (t:IsTup h a vs):IsTup h' a vs:=by
 have hn:=R.noTup t;refine S8 t λo e c n d=>?_;clear t;exact ⟨o,x.keep a o e hn (λhx=>nx a o _ _ hx e c d),c,n,d⟩
theorem Ext.vrep {G:Gi} {w:World} {X:Addr->Prop} {H H':Hp} {h h':Heap} (x:Ext X H h H' h') (R:w6 G w H h) (nx:U6 X h) {v:d8} {u:Value} (t:i8 G h v u):i8 G h' v u :=
 t.mono λ_ _=>x.tup R nx
theorem Ext.vreps {G:Gi} {w:World} {X:Addr->Prop} {H H':Hp} {h h':Heap} (x:Ext X H h H' h') (R:w6 G w H h) (nx:U6 X h) {v:List d8} {u:List Value} (t:l5 G h v u):l5 G h' v u :=
 t.mono λ_ _=>x.tup R nx
theorem Ext.push {H:Hp} {h:Heap} (o:Obj):Ext N8 H h H (h.push o) :=
 ⟨λ_ _ e _ _=>Heap.get?_push_of_some _ e,λ_ e=>.inl e,λ_ e=>e,λa e _=>by
  refine eE (Option.isSome_iff_exists.mp e) λo' e=>?_;refine b9 (Heap.get?_push_of_some _ e) ?_;rfl⟩
theorem b8I {α:Type} {x:Option α} {a:α} (e:x=some a):x.isSome=true:=by refine b9 e ?_;rfl
theorem w6.lt {G:Gi} {w:World} {H:Hp} {h:Heap} (R:w6 G w H h) {a:Addr} {mo:Z5} (e:H a=some mo):a < h.objs.size:=let ⟨_,e,_⟩:=(R.objs a mo e).at_;Heap.lt_size e
theorem a3i {h:Heap}:h.get? h.objs.size=none:=by
 cases e:h.get? h.objs.size with
 | none=>rfl
 | some o=>exact absurd (Heap.lt_size e) (Nat.lt_irrefl _)
theorem w6.fresh {G:Gi} {w:World} {H:Hp} {h:Heap} (R:w6 G w H h):H h.objs.size=none:=by
 cases e:H h.objs.size with
 | none=>rfl
 | some mo=>exact absurd (R.lt e) (Nat.lt_irrefl _)
theorem R8 {h:Heap} {o:Obj} {a:Addr} {vs:Array Value} (t:IsTup h a vs):IsTup (h.push o) a vs:=t.push o
theorem w6.push {G:Gi} {w:World} {H:Hp} {h:Heap} (R:w6 G w H h) (o:Obj):w6 G w H (h.push o) :=
 ⟨λa o' e=>⟨Heap.get?_push_of_some _ (R.base a o' e).1,(R.base a o' e).2⟩,λa mo e=>(R.objs a mo e).mono (λ_ _=>R8) λ_ e=>Heap.get?_push_of_some _ e⟩
theorem w6.alloc {G:Gi} {w:World} {H:Hp} {h:Heap} (R:w6 G w H h) {o:Obj} {mo:Z5} (r:a2e G w (h.push o) h.objs.size mo) :
  w6 G w (H.set h.objs.size mo) (h.push o)/\Ext N8 H h (H.set h.objs.size mo) (h.push o):=by
 refine ⟨⟨λa o' e=>?_,λa mo' e=>?_⟩,⟨λ_ _ e _ _=>Heap.get?_push_of_some _ e,λa e=>?_,λa e=>?_,(Ext.push (H:=H) o).there⟩⟩
 ·refine eA (R.base a o' e) λe1 e2=>?_;refine ⟨Heap.get?_push_of_some _ e1,?_⟩;unfold Hp.set;refine b9 (if_neg (Nat.ne_of_lt (Heap.lt_size e1))) ?_;exact e2
 ·unfold Hp.set at e
  split at e
  ·rename_i q;subst q;have q1:=A3 e;clear e;subst q1;exact r
  ·exact (R.push o).objs a mo' e
 ·unfold Hp.set at e
  split at e
  ·rename_i q;subst q;exact .inr (.inl a3i)
  ·exact .inl e
 ·unfold Hp.set
  split
  ·rfl
  ·exact e
theorem w6.update {G:Gi} {w:World} {H:Hp} {h h':Heap} (R:w6 G w H h) {a:Addr} {mo mo':Z5} (e:H a=some mo) (s:Heap.SameBut a h h') (r:(∀ b vs,IsTup h b vs->IsTup h' b vs)->a2e G w h' a mo') :
  w6 G w (H.set a mo') h'/\Ext N8 H h (H.set a mo') h':=by
 have tup:∀ b vs,IsTup h b vs->IsTup h' b vs:=λb vs t=>by
  have hn:=R.noTup t;refine i9 t λo e' r=>?_;clear t;exact ⟨o,(s.2 b (by rintro rfl;rw [e] at hn;cases hn)).trans e',r⟩
 have r:=r tup;refine ⟨⟨λb o e'=>?_,λb mo'' e'=>?_⟩,⟨λb o e' f _=>?_,λb e'=>?_,λb e'=>?_,λb e' _=>?_⟩⟩
 ·refine eA (R.base b o e') λe1 e2=>?_;have hb:b≠a:=by rintro rfl;rw [e] at e2;cases e2
  exact ⟨(s.2 b hb).trans e1,by unfold Hp.set;refine b9 (if_neg hb) ?_;exact e2⟩
 ·unfold Hp.set at e'
  split at e'
  ·rename_i q;subst q;have q3:=A3 e';clear e';subst q3;exact r
  ·rename_i q;exact (R.objs b mo'' e').mono tup λo e=>(s.2 b q).trans e
 ·exact (s.2 b (by rintro rfl;rw [e] at f;cases f)).trans e'
 ·unfold Hp.set at e'
  split at e'
  ·rename_i q;subst q;exact .inl (by refine b9 e ?_;rfl)
  ·exact .inl e'
 ·unfold Hp.set
  split
  ·rfl
  ·exact e'
 ·by_cases q:b=a
  ·subst q;refine i9 r.at_ λo e _=>?_;refine b9 e ?_;rfl
  ·refine b9 (s.2 b q) ?_;exact e'
theorem w6.but {G:Gi} {w:World} {H:Hp} {h h':Heap} {X:Addr->Prop} (R:w6 G w H h) {a:Addr} {o:Obj} (e:h.get? a=some o) (ns:B9 o) (f:H a=none) (b:G.base a=none) (x:X a) (s:Heap.SameBut a h h') (_t:(h'.get? a).isSome) :
  w6 G w H h'/\Ext X H h H h':=by
 have tup:∀ b vs,IsTup h b vs->IsTup h' b vs:=λb vs t=>by
  refine S8 t λo' e' c n d=>?_;clear t;exact ⟨o',(s.2 b (by rintro rfl;rw [e] at e';have q4:=A3 e';clear e';subst q4;exact ns _ _ d)).trans e',c,n,d⟩
 refine ⟨⟨λc o e'=>?_,λc mo e'=>?_⟩,⟨λc o e' g y=>?_,λc e'=>.inl e',λc e'=>e',λc e' y=>?_⟩⟩
 ·refine eA (R.base c o e') λe1 e2=>?_;exact ⟨(s.2 c (by rintro rfl;rw [b] at e';cases e')).trans e1,e2⟩
 ·exact (R.objs c mo e').mono tup λo e=>(s.2 c (by rintro rfl;rw [f] at e';cases e')).trans e
 ·exact (s.2 c (by rintro rfl;exact y x)).trans e'
 ·refine b9 (s.2 c (by rintro rfl;exact y x)) ?_;exact e'
end
variable {G:Gi} {w:PySem.World} {X:PySem.Addr->Prop} {H:Hp} {o:PySem.Obj} {v:PySem.Value} {u:PySem.Value} {a:PySem.Addr} {h:PySem.Heap} {xs:List d8} {vs:Array PySem.Value} {p:d8} {l:List (d8×d8)} {es:List (d8×d8)}
section
open PySem PySem.W PyProof.Rows
structure V2 (n m:Nat) (A:Around):Prop where
 h:A.handled=none
 d:A.depth+6 * n+10<=990
 u:A.units+2 * m+200 * n+300<=9900
theorem V2.down {A:Around} (x:V2 n m A) (h:k<=m):V2 n k A:=⟨x.h,x.d,by have:=x.u;exact c27 h this⟩
theorem V2.in1 {A:Around} (x:V2 n (m+1) A):V2 n m A.in1:=⟨x.h,x.d,by have:=x.u;show A.units+1+_+_+_<=_;exact c0b this⟩
theorem V2.units {A:Around} (x:V2 n m A):A.units+200 < cLine:=by have:=x.u;unfold cLine;exact b8Z this
theorem V2.room {A:Around} (x:V2 n m A):A.depth < recursionLimit:=by have:=x.d;unfold recursionLimit;exact b8P this
structure k9 (G:Gi) (w:World) (X:Addr->Prop) (H:Hp) (s:Shared) (H':Hp) (s':Shared):Prop where
 rel:w6 G w H' s'.heap
 ext:Ext X H s.heap H' s'.heap
 gens:s'.gens=s.gens
 os:s'.os=s.os
theorem k9.refl {s:Shared} (R:w6 G w H s.heap):k9 G w X H s H s:=⟨R,.refl ..,rfl,rfl⟩
theorem k9.trans {H H1 H2:Hp} {s s1 s2:Shared} (x:k9 G w X H s H1 s1) (y:k9 G w X H1 s1 H2 s2):k9 G w X H s H2 s2 :=
 ⟨y.rel,x.ext.trans y.ext,y.gens.trans x.gens,y.os.trans x.os⟩
theorem k9.weaken {X Y:Addr->Prop} {H H':Hp} {s s':Shared} (x:k9 G w X H s H' s') (i:∀ a,X a->Y a):k9 G w Y H s H' s':=⟨x.rel,x.ext.weaken i,x.gens,x.os⟩
theorem k9.no {Y:Addr->Prop} {H H':Hp} {s s':Shared} (x:k9 G w N8 H s H' s'):k9 G w Y H s H' s':=x.weaken λ_ e=>e.elim
noncomputable def V6 {α β:Type} (G:Gi) (w:World) (rep:Heap->α->β->Prop) (H:Hp) (s:Shared) (Q:α->Hp->Prop) (v:β) (s':Shared):Prop :=
 ∃ x H',rep s'.heap x v/\k9 G w N8 H s H' s'/\Q x H'
theorem V6.mk {α β:Type} {rep:Heap->α->β->Prop} {s:Shared} {Q:α->Hp->Prop} {v:β} {s':Shared} (x:α) (H':Hp) (r:rep s'.heap x v) (t:k9 G w N8 H s H' s') (q:Q x H'):V6 G w rep H s Q v s':=⟨x,H',r,t,q⟩
theorem V6.after {α β:Type} {rep:Heap->α->β->Prop} {H H1:Hp} {s s1:Shared} {Q:α->Hp->Prop} {v:β} {s':Shared} (t:k9 G w N8 H s H1 s1) (g:V6 G w rep H1 s1 Q v s'):V6 G w rep H s Q v s' :=
 let ⟨x,H',r,u,q⟩:=g;⟨x,H',r,t.trans u,q⟩
noncomputable def b76 (_:Heap) (a b:Bool):Prop:=a=b
noncomputable abbrev z5:Value->Shared->Prop:=λ_ _=>False
section
variable {prog:Program} {w:World} {G:Gi}
theorem j8 {α β:Type} {rep:Heap->α->β->Prop} {A:Around} {t:Sem β} {s s2:Shared} {Q1:α->Hp->Prop} {P:β->Shared->Prop} (a:wpAny (model prog w) A t (V6 G w rep H s Q1) z5 s2)
  (b:∀ x v H1 s1,rep s1.heap x v->k9 G w N8 H s H1 s1->Q1 x H1->P v s1):wpAny (model prog w) A t P z5 s2 :=
 wpAny_mono a (λv s1 ⟨x,H1,r,st,q⟩=>b x v H1 s1 r st q) λ_ _ e=>e
theorem y0 {α β:Type} {rep:Heap->α->β->Prop} {A:Around} {t:Sem β} {H H1:Hp} {s s1 s2:Shared} {Q:α->Hp->Prop} (st:k9 G w N8 H s H1 s1) (a:wpAny (model prog w) A t (V6 G w rep H1 s1 Q) z5 s2):wpAny (model prog w) A t (V6 G w rep H s Q) z5 s2 :=
 wpAny_mono a (λ_ _ g=>g.after st) λ_ _ e=>e
theorem c1T {α β γ δ:Type} {rep:Heap->α->β->Prop} {rep2:Heap->γ->δ->Prop} {A:Around} {t:Sem β} {f:β->Sem δ} {s:Shared} {Q1:α->Hp->Prop} {Q:γ->Hp->Prop}
  (a:wpAny (model prog w) A t (V6 G w rep H s Q1) z5 s)
  (b:∀ x v H1 s1,rep s1.heap x v->k9 G w N8 H s H1 s1->Q1 x H1->wpAny (model prog w) A (f v) (V6 G w rep2 H1 s1 Q) z5 s1) :
  wpAny (model prog w) A (t>>=f) (V6 G w rep2 H s Q) z5 s :=
 c7t (wpAny_mono a (λv s1 ⟨x,H1,r,st,q⟩=>y0 st (b x v H1 s1 r st q)) λ_ _ e=>e)
theorem c1S {α β:Type} {rep:Heap->α->β->Prop} {A:Around} {t:Sem β} {s:Shared} {Q Q':α->Hp->Prop} (a:wpAny (model prog w) A t (V6 G w rep H s Q) z5 s) (h:∀ x H,Q x H->Q' x H) :
  wpAny (model prog w) A t (V6 G w rep H s Q') z5 s:=wpAny_mono a (λ_ _ ⟨x,H',r,st,q⟩=>⟨x,H',r,st,h _ _ q⟩) λ_ _ e=>e
end
theorem k9.tok {H H':Hp} {s s':Shared} (x:k9 G w X H s H' s'):k9 G w X H s H' {s' with toks:=t}:=⟨x.rel,x.ext,x.gens,x.os⟩
theorem k9.toks {s:Shared} (R:w6 G w H s.heap):k9 G w X H s H {s with toks:=t}:=⟨R,.refl ..,rfl,rfl⟩
theorem k9.push {s:Shared} (R:w6 G w H s.heap):k9 G w N8 H s H {s with heap:=s.heap.push o,toks:=t}:=⟨R.push o,.push o,rfl,rfl⟩
theorem k9.alloc {s:Shared} {mo:Z5} (R:w6 G w H s.heap) (r:a2e G w (s.heap.push o) s.heap.objs.size mo) :
  k9 G w N8 H s (H.set s.heap.objs.size mo) {s with heap:=s.heap.push o,toks:=t}:=⟨(R.alloc r).1,(R.alloc r).2,rfl,rfl⟩
theorem k9.vrep {H H':Hp} {s s':Shared} (x:k9 G w N8 H s H' s') (R:w6 G w H s.heap) {v:d8} (t:i8 G s.heap v u):i8 G s'.heap v u:=x.ext.vrep R .no t
theorem k9.vreps {H H':Hp} {s s':Shared} (x:k9 G w N8 H s H' s') (R:w6 G w H s.heap) {v:List d8} {u:List Value} (t:l5 G s.heap v u):l5 G s'.heap v u:=x.ext.vreps R .no t
theorem k9.base {H H':Hp} {s s':Shared} (x:k9 G w X H s H' s') (e:G.base a=some o):s'.heap.get? a=some o:=(x.rel.base a o e).1
structure Gk (G:Gi):Prop where
 K:∀ a o,G.K.lookup a=some o->G.base a=some o
 sysm:(G.base sysModules).isSome=true
 script:∃ o vs n,G.base G.sa=some o/\o.cls=.type "list"/\o.data=.seq vs n/\IntsAre vs.toList G.sl
theorem a7g:a25=("__debug__":Str):=by decide +kernel
theorem c63:a2k=(".0":Str):=by decide +kernel
noncomputable def a01:List (Str×Value):=[(a4B,.builtin "len"),(b6f,.builtin "sum"),(b6m,.builtin "max"),(b6I,.builtin "min"),(Y3,.builtin "sorted"),
 (a2x,.type "list"),(a9Q,.type "tuple"),(b6G,.type "int"),(b6b,.type "str"),(U2,.type "range"),(a0e,.type "enumerate"),(a2l,.type "set")]
structure b3x (K:Frag) (C:Addr):Prop where
 cd:∃ cd,clsIn K C=some cd/\cd.hasDict=true
 ga:findIn K (.ref C) "__getattribute__"=some (some (.builtin "object.__getattribute__"))
 gaa:findIn K (.ref C) "__getattr__"=some none
 sa:findIn K (.ref C) "__setattr__"=some (some (.builtin "object.__setattr__"))
 plain:plainOver K C=true
 makes:makesIn K C=true
noncomputable def a7h (sc:Scope) (x:Str):Bool:=sc.names.lookup x==some .local||sc.names.lookup x==some .cell
inductive b1A (K:Frag) (c:Cx) (f:Addr) (fd:Fn):Prop
 | mk:∀ name qual params body scope kV doc pm an cdv ct oc od osl,
  K.lookup f=some ⟨oc,od,.func (fnOf name qual params body scope .none kV doc pm an cdv ct),osl⟩->codeIn K cdv qual=true->trF c.fns c.clss c.attrs params body scope=some fd ->
  scope.kind=.function->scope.isCoroutine=false->scope.isGenerator=false->(params.args.map (·.arg)).Nodup->(params.args.all λa=>a7h scope a.arg)=true->b1A K c f fd
theorem b1A.cx {K:Frag} {c:Cx} {f:Addr} {fd:Fn} {names:List (Str×NameKind)} {dom:List Str}:b1A K c f fd->b1A K ⟨names,c.fns,c.clss,c.attrs,dom⟩ f fd
 | ⟨_,_,_,_,_,_,_,_,_,_,_,_,_,_,b1,b2,b3,b4,b5,b6,b7,b8⟩=>⟨_,_,_,_,_,_,_,_,_,_,_,_,_,_,b1,b2,b3,b4,b5,b6,b7,b8⟩
structure Gok (G:Gi) (c:Cx):Prop extends Gk G where
 cl:∀ cn C,G.ca cn=some C->b3x G.K C
 at_:∀ cn C x,G.ca cn=some C->c.attrs.contains x=true->findIn G.K (.ref C) x=some none
 me:∀ cn C x fd,G.ca cn=some C->y6 x=true->G.F cn (nm x)=some fd->∃ f,G.fa cn (nm x)=some f/\findIn G.K (.ref C) x=some (some (.ref f))/\typeIn G.K (.ref f)=some (.type "function")
 fn:∀ x,c.fns.contains x=true->c.clss.contains x=false/\∃ f,G.fa 0 (nm x)=some f/\nsIn G.K mainGlobals x=some (some (.ref f))/\keepIn G.K (.ref f)=true
 cls:∀ x,c.clss.contains x=true->c.fns.contains x=false/\∃ C,G.ca (nm x)=some C/\nsIn G.K mainGlobals x=some (some (.ref C))/\keepIn G.K (.ref C)=true
 fun_:∀ cn name fd,G.F cn name=some fd->∃ f,G.fa cn name=some f/\b1A G.K c f fd/\keepIn G.K (.ref f)=true
 keepf:∀ name f,G.fa 0 name=some f->keepIn G.K (.ref f)=true
 nolim:∀ h:Heap,(∀ a o,G.base a=some o->h.get? a=some o)->h.NoLimit
 blt:∀ x v,a01.lookup x=some v->c.fns.contains x=false->c.clss.contains x=false->nsIn G.K mainGlobals x=some none/\nsIn G.K builtinsNs x=some (some v)
theorem w6.sysm (R:w6 G w H h) (g:Gk G) {o:Z5} (e:H a=some o):(a==sysModules)=false:=by
 cases q:a==sysModules with
 | false=>rfl
 | true =>
  have:=eq_of_beq q;subst this;refine eE (Option.isSome_iff_exists.mp g.sysm) λob h1=>?_;rw [(R.base _ _ h1).2] at e;cases e
theorem w6.In {c:Cx} (R:w6 G w H h) (g:Gok G c):G.K.In h:=λa o e=>(R.base a o (g.K a o e)).1
structure O9 (G:Gi) (w:World) (env:Env) (c:Cx) (r:En) (H:Hp) (h:Heap):Prop where
 kind:env.scope.kind=.function
 glob:env.globals=mainGlobals
 blt:env.builtins=builtinsNs
 kinds:∀ x k,c.names.lookup x=some k->env.kindOf x=some k
 loc:∃ m o,h.get? env.locals=some o/\B9 o/\h.Ns env.locals m/\∀ x v,y6 x=true->c.names.lookup x=some .local->r (nm x)=some v->∃ u,m x=some u/\i8 G h v u
 cel:∀ x,c.names.lookup x=some .cell->∃ a u,env.cells.lookup x=some a/\h.IsCell a u/\(y6 x=true->∀ v,r (nm x)=some v->∃ y,u=some y/\i8 G h v y)
 own:H env.locals=none/\G.base env.locals=none/\∀ x a,env.cells.lookup x=some a->H a=none/\G.base a=none/\a≠env.locals/\∃ u,h.IsCell a u
 inj:∀ x y a,env.cells.lookup x=some a->env.cells.lookup y=some a->x=y
 dom:∀ y,y6 y=true->c.dom.contains y=false->r (nm y)=none
 vars:∀ y,c.kind y=.var->c.dom.contains y=true
noncomputable def FX (env:Env):Addr->Prop:=λa=>a=env.locals\/∃ x,env.cells.lookup x=some a
theorem Ext.none {H H':Hp} {h h':Heap} (x:Ext X H h H' h') (e:H a=none) (s:(h.get? a).isSome) (g:¬ X a):H' a=none:=by
 cases q:H' a with
 | none=>rfl
 | some mo =>
  rcases x.fresh a (by refine b9 q ?_;rfl) with z | z | z
  ·rw [e] at z;cases z
  ·rw [z] at s;exact nomatch s
  ·exact absurd z g
theorem Heap.IsCell.is {u:Option Value} (x:h.IsCell a u):(h.get? a).isSome=true:=let ⟨_,e,_⟩:=x;by refine b9 e ?_;rfl
theorem O9.ext {env:Env} {c:Cx} {r:En} {H H':Hp} {h h':Heap} (F:O9 G w env c r H h) (R:w6 G w H h) (x:Ext N8 H h H' h'):O9 G w env c r H' h':=by
 obtain ⟨kind,glob,blt,kinds,⟨m,o,ho,hn,ns,loc⟩,cel,⟨o1,o2,o3⟩,inj,dom,vars⟩:=F;refine ⟨kind,glob,blt,kinds,⟨m,o,x.keep _ _ ho o1 (λz=>z),hn,?_,λy v a k e=>?_⟩,λy k=>?_,⟨x.none o1 (by refine b9 ho ?_;rfl) (λz=>z),o2,λy a e=>?_⟩,inj,dom,vars⟩
 ·refine a5K ns λo' es ep e rest=>?_;clear ns;rw [ho] at e;have q1:=A3 e;clear e;subst q1;exact ⟨o,es,ep,x.keep _ _ ho o1 λz=>z,rest⟩
 ·refine i9 (loc y v a k e) λu e1 e2=>?_;exact ⟨u,e1,x.vrep R .no e2⟩
 ·refine k8 (cel y k) λa u e1 q2 e4=>?_;refine i9 q2 λoc e2 e3=>?_;clear q2;refine ⟨a,u,e1,⟨oc,x.keep _ _ e2 (o3 y a e1).1 λz=>z,e3⟩,λas v e=>?_⟩;refine i9 (e4 as v e) λz e5 e6=>?_;exact ⟨z,e5,x.vrep R .no e6⟩
 ·refine S5 (o3 y a e) λp1 p2 p3 u oc p4 p5=>?_;exact ⟨x.none p1 (by refine b9 p4 ?_;rfl) (λz=>z),p2,p3,u,oc,x.keep _ _ p4 p1 λz=>z,p5⟩
theorem O9.step {env:Env} {c:Cx} {r:En} {H H':Hp} {s s':Shared} (F:O9 G w env c r H s.heap) (R:w6 G w H s.heap) (x:k9 G w N8 H s H' s'):O9 G w env c r H' s'.heap:=F.ext R x.ext
end
variable {A:PySem.Around} {s:PySem.Shared} {env:PySem.Env}
section
open PySem PySem.W PyProof.Rows PySem.Calls
section
variable (prog:Program) (w:World) (G:Gi)
noncomputable def SE (n m:Nat) (c:Cx) (e:PySem.Expr) (x:Ev):Prop :=
 ∀ (A:Around) (s:Shared) (H:Hp) (r:En) (env:Env) (Q:d8->Hp->Prop),V2 n m A->w6 G w H s.heap->O9 G w env c r H s.heap ->
  x (j5 G.F n) r H Q->wpAny (model prog w) A (eval e env) (V6 G w (i8 G) H s Q) z5 s
noncomputable def SC (n m:Nat) (c:Cx) (e:PySem.Expr) (x:Cv):Prop :=
 ∀ (A:Around) (s:Shared) (H:Hp) (r:En) (env:Env) (Q:Bool->Hp->Prop),V2 n m A->w6 G w H s.heap->O9 G w env c r H s.heap ->
  x (j5 G.F n) r H Q->wpAny (model prog w) A (isTrue e env (eval e env)) (V6 G w b76 H s Q) z5 s
noncomputable def SEs (n m:Nat) (c:Cx) (es:List PySem.Expr) (x:Lv):Prop :=
 ∀ (A:Around) (s:Shared) (H:Hp) (r:En) (env:Env) (pos:Pos) (Q:List d8->Hp->Prop),V2 n m A->w6 G w H s.heap->O9 G w env c r H s.heap ->
  x (j5 G.F n) r H Q->wpAny (model prog w) A (spliced (backTo pos (starEach es env))) (V6 G w (λh xs vs=>l5 G h xs vs/\vs.length=es.length) H s Q) z5 s
end
section
variable {prog:Program} {w:World} {G:Gi} {n m:Nat} {c:Cx}
theorem b9X {α β:Type} {rep:Heap->α->β->Prop} {Q:α->Hp->Prop} {v:β} {x:α} (R:w6 G w H s.heap) (r:rep s.heap x v) (q:Q x H) :
  wpAny (model prog w) A (pure v) (V6 G w rep H s Q) z5 s:=c7u ⟨x,H,r,.refl R,q⟩
theorem b4p {k pos}:SE prog w G n m c (.Constant .none k pos) (j6 .none):=λ_ _ H _ _ _ _ R _ q =>
 wpAny_Constant_none ⟨.none,H,.none,.refl R,q⟩
theorem b5E {b k pos}:SE prog w G n m c (.Constant (.bool b) k pos) (j6 (.bool b)):=λ_ _ H _ _ _ _ R _ q =>
 wpAny_Constant_bool ⟨.bool b,H,.bool,.refl R,q⟩
theorem b6T {i k pos}:SE prog w G n m c (.Constant (.int i) k pos) (j6 (.int i)):=λ_ _ H _ _ _ _ R _ q =>
 wpAny_Constant_int ⟨.int i,H,.int,.toks R,q⟩
theorem a0H (l:List Char):Str.ofString (String.ofList l)=⟨(l.map Char.toNat).toArray⟩:=PySem.W.Fast.ofString_ofList l
theorem a79 (h:n < 128):(Char.ofNat n).toNat=n:=by
 have:n.isValidChar:=Or.inl (b9b h);unfold Char.ofNat;refine b9 (dif_pos this) ?_;show (Char.ofNatAux n this).val.toNat=n;unfold Char.ofNatAux;simp [UInt32.toNat]
theorem a6e {s:Str} (h:y6 s=true):Str.ofString (nmS s)=s:=by
 unfold nmS;refine b9 (a0H ..) ?_;refine b9 List.map_map ?_;unfold y6 at h;obtain ⟨⟨l⟩⟩:=s;simp only [Str.mk.injEq] at h ⊢
 congr 1
 simp only [List.all_eq_true] at h;induction l with
 | nil=>rfl
 | cons a l ih =>
  refine b9 List.map_cons ?_;refine b9 (ih λx hx=>h x (List.mem_cons_of_mem _ hx)) ?_;show (Char.ofNat a).toNat :: l=_;rw [a79];have:=h a List.mem_cons_self;exact c7v this
theorem b3n (l:List Nat):∀ (k:List Nat),(∀ x∈l,x < 128)->(∀ x∈k,x < 128)->∀ a b,a≠0->b≠0->l.length=k.length->l.foldl (λa c=>a * 128+c) a=k.foldl (λa c=>a * 128+c) b->a=b/\l=k:=by
 induction l with
 | nil=>intro k _ _ a b _ _ hl e;cases k <;> first | exact ⟨e,rfl⟩ | exact nomatch hl
 | cons x l ih =>
  intro k h1 h2 a b ha hb hl e;cases k with
  | nil=>exact nomatch hl
  | cons y k =>
   have h3:=h1 x List.mem_cons_self;have h4:=h2 y List.mem_cons_self;refine eA (ih k (λz hz=>h1 z (List.mem_cons_of_mem _ hz)) (λz hz=>h2 z (List.mem_cons_of_mem _ hz)) (a * 128+x) (b * 128+y) (b9f ha) (b9f hb) (Nat.succ.inj hl) e) λh5 h6=>?_;have h7:a=b:=by exact c2H h3 h4 h5
   have h8:x=y:=by exact c4A h5 h7
   refine b9 h7 ?_;refine b9 h8 ?_;refine b9 h6 ?_;exact ⟨rfl,rfl⟩
theorem a3J (l:List Nat):∀ a,(∀ x∈l,x < 128)->a * 128 ^ l.length<=l.foldl (λa c=>a * 128+c) a/\l.foldl (λa c=>a * 128+c) a < (a+1) * 128 ^ l.length:=by
 induction l with
 | nil=>intro a _;simp
 | cons x l ih =>
  intro a h;have h1:=h x List.mem_cons_self;refine eA (ih (a * 128+x) λz hz=>h z (List.mem_cons_of_mem _ hz)) λh2 h3=>?_;refine b9 List.foldl_cons ?_;refine b9 List.length_cons ?_;refine b9 Nat.pow_succ' ?_;have e1:a * (128 * 128 ^ l.length)=(a * 128) * 128 ^ l.length:=by refine b9 (Nat.mul_assoc ..) ?_;rfl
  have e2:(a+1) * (128 * 128 ^ l.length)=((a+1) * 128) * 128 ^ l.length:=by refine b9 (Nat.mul_assoc ..) ?_;rfl
  exact ⟨e1▸Nat.le_trans (Nat.mul_le_mul_right _ (Nat.le_add_right _ _)) h2,e2▸Nat.lt_of_lt_of_le h3 (Nat.mul_le_mul_right _ (c4k h1))⟩
theorem N7 {x y:Str} (hx:y6 x=true) (hy:y6 y=true) (e:nm x=nm y):x=y:=by
 obtain ⟨⟨l⟩⟩:=x;obtain ⟨⟨k⟩⟩:=y;have a1:∀ z∈l,z < 128:=λz hz=>c7v (List.all_eq_true.mp hx z hz);have a2:∀ z∈k,z < 128:=λz hz=>c7v (List.all_eq_true.mp hy z hz);have e:l.foldl (λa c=>a * 128+c) 1=k.foldl (λa c=>a * 128+c) 1:=e;refine eA (a3J l 1 a1) λb1 b2=>?_;refine eA (a3J k 1 a2) λb3 b4=>?_;have hl:l.length=k.length:=by
  rcases Nat.lt_trichotomy l.length k.length with h | h | h
  ·have:128 ^ (l.length+1)<=128 ^ k.length:=Nat.pow_le_pow_right (c05) h;rw [Nat.pow_succ] at this;omega
  ·exact h
  ·have:128 ^ (k.length+1)<=128 ^ l.length:=Nat.pow_le_pow_right (c05) h;rw [Nat.pow_succ] at this;omega
 refine b9 ((b3n l k a1 a2 1 1 (c53) (c53) hl e).2) ?_;rfl
theorem B5 {s:Nm} (h:a1P x=some s):y6 x=true/\nm x=s:=let ⟨a,b⟩:=o8 h;⟨a,Option.some.inj b⟩
theorem a9b {s:String} (h:a7w x=some s):y6 x=true/\nmS x=s:=let ⟨a,b⟩:=o8 h;⟨a,Option.some.inj b⟩
theorem b13 {t:String} {k pos} (h:a7w x=some t):SE prog w G n m c (.Constant (.str x) k pos) (j6 (.str t)):=λ_ s H _ _ Q _ R _ q=>by
 refine eA (a9b h) λa q8=>?_;subst q8;exact wpAny_Constant_str ⟨.str (nmS x),H,(⟨s.toks,congrArg (Value.str · s.toks) (a6e a).symm⟩:∃ t,Value.str x s.toks=.str (Str.ofString (nmS x)) t),.toks R,q⟩
theorem a22 (h:c.kind x=.var):c.names.lookup x=some .local\/c.names.lookup x=some .cell:=by
 unfold Cx.kind at h
 split at h <;> first | exact .inl (by assumption) | exact .inr (by assumption) | cases h
theorem a52 (h:c.kind x=.glob):c.names.lookup x=some .globalImplicit:=by
 unfold Cx.kind at h
 split at h <;> first | assumption | cases h
theorem b1z {r:En} {Q:d8->Hp->Prop} {v:d8} (R:w6 G w H s.heap) (F:O9 G w env c r H s.heap) (k:c.kind x=.var) (a:y6 x=true) (e:r (nm x)=some v) (q:Q v H) :
  wpAny (model prog w) A (loadName env x) (V6 G w (i8 G) H s Q) z5 s:=by
 rcases a22 k with k | k
 ·refine I6 F.loc λmm o ho hn ns loc=>?_;refine i9 (loc x v a k e) λu e1 e2=>?_;exact wpAny_loadName_local F.kind (F.kinds _ _ k) ns e1 ⟨v,H,e2,.refl R,q⟩
 ·refine k8 (F.cel x k) λad u e1 e2 e3=>?_;refine i9 (e3 a v e) λy q9 e4=>?_;subst q9;exact wpAny_loadName_cell F.kind (F.kinds _ _ k) e1 e2 ⟨v,H,e4,.refl R,q⟩
theorem b7U {t:Nm} {pos:Pos} (h:a1P x=some t) (k:c.kind x=.var) (d:(x==("__debug__":Str))=false):SE prog w G n m c (.Name x pos) (d7 t):=λA s H r env Q _ R F q=>by
 refine eA (B5 h) λa q7=>?_;subst q7;revert q;intro q2;refine i9 q2 λv e q=>?_;clear q2;exact wpAny_Name (b1z R F k a e q) d
theorem a2q {Q:Value->Shared->Prop} (hk:env.scope.kind=.function) (hl:env.kindOf x=some .globalImplicit) (h:wpAny (model prog w) A (loadGlobal env x) Q z5 s):wpAny (model prog w) A (loadName env x) Q z5 s:=by
 unfold loadName;simp only [Env.blockKind,hk,hl,ScopeKind.isAnnotationScope,Bool.false_and,Bool.false_eq_true,if_false];exact h
theorem a7U {r:En} {Q:Value->Shared->Prop} (g:Gok G c) (R:w6 G w H s.heap) (F:O9 G w env c r H s.heap) (k:c.kind x=.glob) (e:nsIn G.K mainGlobals x=some (some v)) (q:Q v s) :
  wpAny (model prog w) A (loadName env x) Q z5 s:=by
 refine a2q F.kind (F.kinds _ _ (a52 k)) ?_;unfold loadGlobal;refine b9 F.glob ?_;exact c7t ((looks_nsIn (R.In g) e).here (c7u q))
theorem a4H {r:En} {Q:Value->Shared->Prop} (g:Gok G c) (R:w6 G w H s.heap) (F:O9 G w env c r H s.heap) (k:c.kind x=.glob) (e:nsIn G.K mainGlobals x=some none)
  (e2:nsIn G.K builtinsNs x=some (some v)) (q:Q v s) :
  wpAny (model prog w) A (loadName env x) Q z5 s:=by
 refine a2q F.kind (F.kinds _ _ (a52 k)) ?_;unfold loadGlobal;refine b9 F.glob ?_;refine b9 F.blt ?_;refine c7t ((looks_nsIn (R.In g) e).here ?_);exact c7t ((looks_nsIn (R.In g) e2).here (c7u q))
theorem Z2 {e:PySem.Expr} {p:Pos} {x:Ev} (h:P1 k c (.Starred e p)=some x):False:=by
 cases k <;> exact x8 h
theorem K4 {e:PySem.Expr} {es:List PySem.Expr} (h:∀ e' p,e≠.Starred e' p):starEach (e :: es) env=(false,eval e env) :: starEach es env:=by
 cases e <;> first | rfl | exact absurd rfl (h _ _)
theorem a2v (hs:∀ e x,P1 k c e=some x->SE prog w G n m c e x):∀ (es:List PySem.Expr) (l:List Ev),D2 (P1 k c) es=some l->SEs prog w G n m c es (a1O l):=by
 intro es;induction es with
 | nil =>
  intro l h;have q1:=A3 h;clear h;subst q1;intro A s H r env pos Q _ R _ q;exact wpAny_items_nil ⟨[],H,⟨.nil,rfl⟩,.refl R,q⟩
 | cons e es ih =>
  intro l h;refine k8 (v9 h) λx l' hx hl q10=>?_;subst q10;intro A s H r env pos Q a R F q;refine wpAny_items_cons (j8 (hs e x hx A s H r env _ a R F q) λy v H1 s1 r1 st q1=>?_) (K4 λe' p he=>by subst he;exact Z2 hx)
  exact j8 (ih l' hl A s1 H1 r env pos _ a st.rel (F.step R st) q1) λys vs H2 s2 ⟨r2,hl⟩ st2 q2 =>
   ⟨y :: ys,H2,⟨.cons (st2.vrep st.rel r1) r2,by refine b9 List.length_cons ?_;refine b9 List.length_cons ?_;refine b9 hl ?_;rfl⟩,st.trans st2,q2⟩
theorem b7k {es:List PySem.Expr} {x:Lv} {pos:Pos} (h:SEs prog w G n m c es x) (hz:es.length<=100):SE prog w G n m c (.Tuple es k pos) (n5 x):=λA s H r env Q a R F q=>by
 refine wpAny_Tuple (j8 (h A s H r env pos _ a R F q) (λxs vs H1 s1 ⟨r1,hl⟩ st q1=>⟨?_,?_⟩))
 ·refine b9 hl ?_;refine b9 sizeLine_eq ?_;exact c1Q hz
 ·refine ⟨.tup xs,H1,?_,st.trans (.push (t:=s1.toks) st.rel),q1⟩;exact .tup (IsTup.new _ _) (r1.mono λ_ _=>R8)
theorem b0b {H:Hp} {vs:List Value} (r:l5 G h xs vs):a2e G w (h.push {cls:=.type "list",data:=.seq vs.toArray}) h.objs.size (.list xs) :=
 ⟨vs.toArray,0,Heap.get?_push_size _ rfl,by simpa using r.mono λ_ _=>R8⟩
theorem b8l {es:List PySem.Expr} {x:Lv} {pos:Pos} (h:SEs prog w G n m c es x) (hz:es.length<=100):SE prog w G n m c (.List es pos) (J5 x):=λA s H r env Q a R F q=>by
 refine wpAny_List (j8 (h A s H r env pos _ a R F q) (λxs vs H1 s1 ⟨r1,hl⟩ st q1=>⟨?_,?_⟩))
 ·refine b9 hl ?_;refine b9 sizeLine_eq ?_;exact c1Q hz
 ·exact ⟨.ref _,_,.ref,st.trans (.alloc (t:=s1.toks) st.rel (b0b (H:=H) r1)),q1 _ st.rel.fresh⟩
noncomputable def SOp (op:Sem Value) (P:Hp->(d8->Hp->Prop)->Prop) (A:Around) (s:Shared) (H:Hp):Prop :=
 ∀ Q:d8->Hp->Prop,P H Q->wpAny (model prog w) A op (V6 G w (i8 G) H s Q) z5 s
theorem b7K {a b:PySem.Expr} {x y:Ev} {op:Operator} {o:BOp} {pos:Pos} (ha:SE prog w G n m c a x) (hb:SE prog w G n m c b y)
  (ho:∀ A s H v u p q Q,V2 n m A->w6 G w H s.heap->i8 G s.heap p v->i8 G s.heap q u->a43 o p q H Q->wpAny (model prog w) A (binaryOp op v u) (V6 G w (i8 G) H s Q) z5 s) :
  SE prog w G n m c (.BinOp a op b pos) (y7 o x y):=λA s H r env Q al R F q=>by
 refine wpAny_BinOp (j8 (ha A s H r env _ al R F q) (λp v H1 s1 r1 st q1=>?_));refine j8 (hb A s1 H1 r env _ al st.rel (F.step R st) q1) (λp2 u H2 s2 r2 st2 q2=>?_);exact y0 (st.trans st2) (ho A s2 H2 v u p p2 _ al st2.rel (st2.vrep st.rel r1) r2 q2)
theorem b6Z {t a b:PySem.Expr} {z:Cv} {x y:Ev} {pos:Pos} (ht:SC prog w G n m c t z) (ha:SE prog w G n m c a x) (hb:SE prog w G n m c b y) :
  SE prog w G n m c (.IfExp t a b pos) (a2B z x y):=λA s H r env Q al R F q=>by
 refine wpAny_IfExp (j8 (ht A s H r env _ al R F q) (λp v H1 s1 r1 st q1=>?_));have r1:p=v:=r1;subst r1;cases p with
 | true=>exact y0 st (ha A s1 H1 r env _ al st.rel (F.step R st) (q1.1 rfl))
 | false=>exact y0 st (hb A s1 H1 r env _ al st.rel (F.step R st) (q1.2 rfl))
theorem b7y {a b:PySem.Expr} {x y:Ev} {pos:Pos} (ha:SE prog w G n m c a x) (hb:SE prog w G n m c b y):SE prog w G n m c (.BoolOp .And [a,b] pos) (b5H x y):=λA s H r env Q al R F q=>by
 refine b9 (arm_eval_BoolOp ..) ?_;show wpAny _ _ (eval a env>>=λv=>standAt pos>>=λ_=>holding [v] (truthy v)>>=λt=>match BoolOp.And,t with | .And,false | .Or,true=>pure v | _,_=>eval b env) _ _ _
 refine c7t (j8 (ha A s H r env _ al R F q) (λp v H1 s1 r1 st q1=>?_));revert q1;intro q4;refine i9 q4 λt q3 q1=>?_;clear q4;subst q3;replace r1:=a9I r1;subst r1;refine c7t (wpAny_standAt (c7t (wpAny_holding (wpAny_truthy_bool ?_))));cases t with
 | true=>exact y0 st (hb A s1 H1 r env _ al st.rel (F.step R st) (q1.1 rfl))
 | false=>exact c7u ⟨.bool false,H1,.bool,st,q1.2 rfl⟩
theorem b6W {e:PySem.Expr} {x:Ev} (h:SE prog w G n m c e x) (he:∀ env whole,isTrue e env whole=(do let v<-whole;standAt e.pos;holding [v] (truthy v))):SC prog w G n m c e (a4D x):=λA s H r env Q al R F q=>by
 refine wpAny_isTrue_value (j8 (h A s H r env _ al R F q) (λp v H1 s1 r1 st q1=>?_)) (he _ _);revert q1;intro q6;refine i9 q6 λb q5 q1=>?_;clear q6;subst q5;replace r1:=a9I r1;subst r1;exact wpAny_truthy_bool ⟨_,H1,rfl,st,q1⟩
theorem b61 {e:PySem.Expr} {z:Cv} {pos:Pos} (h:SC prog w G n m c e z):SC prog w G n m c (.UnaryOp .Not e pos) (b2P z):=λA s H r env Q al R F q =>
 wpAny_isTrue_Not (j8 (h A s H r env _ al R F q) λp v H1 s1 r1 st q1=>⟨!p,H1,congrArg _ r1,st,q1⟩)
end
end
variable {pos:PySem.Pos} {y:Ev} {E:PySem.Value->PySem.Shared->Prop} {Q:d8->Hp->Prop} {value:PySem.Expr} {slice:PySem.Expr} {I:PySem.Addr}
section
open PySem PySem.W PyProof.Rows PySem.Calls
section
variable {prog:Program} {w:World} {G:Gi} {n m:Nat} {c:Cx}
noncomputable abbrev b4q (_:Heap) (b:Bool) (v:Value):Prop:=v=.bool b
theorem b6S (hs:∀ e x,trC k c e=some x->SC prog w G n m c e x):∀ (es:List PySem.Expr) (l:List Cv),D2 (trC k c) es=some l->SC prog w G n m c (.BoolOp .And es pos) (a1k l):=by
 have key:∀ (es:List PySem.Expr) (l:List Cv),D2 (trC k c) es=some l->∀ (A:Around) (s:Shared) (H:Hp) (r:En) (env:Env) (Q:Bool->Hp->Prop),V2 n m A->w6 G w H s.heap->O9 G w env c r H s.heap ->
   (a1k l) (j5 G.F n) r H Q->wpAny (model prog w) A (allTrue .And es env) (V6 G w b76 H s Q) z5 s:=by
  intro es;induction es with
  | nil =>
   intro l h A s H r env Q _ R _ q;have q1:=A3 h;clear h;subst q1;exact wpAny_allTrue_And_nil ⟨true,H,rfl,.refl R,q⟩
  | cons e es ih =>
   intro l h A s H r env Q a R F q;refine k8 (v9 h) λx l' hx hl q3=>?_;subst q3;refine wpAny_allTrue_And_cons (j8 (hs e x hx A s H r env _ a R F q) (λp b H1 s1 r1 st q1=>?_));have r1:p=b:=r1;subst r1;cases p with
   | true=>exact y0 st (ih l' hl A s1 H1 r env _ a st.rel (F.step R st) (q1.1 rfl))
   | false=>exact ⟨false,H1,rfl,st,q1.2 rfl⟩
 exact λes l h A s H r env Q a R F q=>wpAny_isTrue_BoolOp (key es l h A s H r env Q a R F q)
theorem c56 (hs:∀ e x,trC k c e=some x->SC prog w G n m c e x):∀ (es:List PySem.Expr) (l:List Cv),D2 (trC k c) es=some l->SC prog w G n m c (.BoolOp .Or es pos) (b4x l):=by
 have key:∀ (es:List PySem.Expr) (l:List Cv),D2 (trC k c) es=some l->∀ (A:Around) (s:Shared) (H:Hp) (r:En) (env:Env) (Q:Bool->Hp->Prop),V2 n m A->w6 G w H s.heap->O9 G w env c r H s.heap ->
   (b4x l) (j5 G.F n) r H Q->wpAny (model prog w) A (allTrue .Or es env) (V6 G w b76 H s Q) z5 s:=by
  intro es;induction es with
  | nil =>
   intro l h A s H r env Q _ R _ q;have q2:=A3 h;clear h;subst q2;exact wpAny_allTrue_Or_nil ⟨false,H,rfl,.refl R,q⟩
  | cons e es ih =>
   intro l h A s H r env Q a R F q;refine k8 (v9 h) λx l' hx hl q4=>?_;subst q4;refine wpAny_allTrue_Or_cons (j8 (hs e x hx A s H r env _ a R F q) (λp b H1 s1 r1 st q1=>?_));have r1:p=b:=r1;subst r1;cases p with
   | false=>exact y0 st (ih l' hl A s1 H1 r env _ a st.rel (F.step R st) (q1.2 rfl))
   | true=>exact ⟨true,H1,rfl,st,q1.1 rfl⟩
 exact λes l h A s H r env Q a R F q=>wpAny_isTrue_BoolOp (key es l h A s H r env Q a R F q)
noncomputable def a7a (prog:Program) (w:World) (G:Gi) (n m:Nat):Prop:=∀ (op:CmpOp) (o:COp) (A:Around) (s:Shared) (H:Hp) (v u:Value) (p q:d8) (Q:Bool->Hp->Prop),a2s op=some o->V2 n m A->w6 G w H s.heap->i8 G s.heap p v->i8 G s.heap q u ->
 X8 o p q H Q->wpAny (model prog w) A (compareOp op v u) (V6 G w b4q H s Q) z5 s
theorem a7M {a b:PySem.Expr} {x y:Ev} {op:CmpOp} {o:COp} {r:En} {Q:Bool->Hp->Prop} (ho:a7a prog w G n m) (e:a2s op=some o) (ha:SE prog w G n m c a x) (hb:SE prog w G n m c b y) (al:V2 n m A) (R:w6 G w H s.heap) (F:O9 G w env c r H s.heap) (q:B3 o x y (j5 G.F n) r H Q) :
  wpAny (model prog w) A (eval a env) (λv s1=>wpAny (model prog w) A (eval b env) (λu s2=>wpAny (model prog w) A (compareOp op v u) (V6 G w b4q H s Q) z5 s2) z5 s1) z5 s:=by
 refine j8 (ha A s H r env _ al R F q) (λp v H1 s1 r1 st q1=>?_);refine j8 (hb A s1 H1 r env _ al st.rel (F.step R st) q1) (λp2 u H2 s2 r2 st2 q2=>?_);exact y0 (st.trans st2) (ho op o A s2 H2 v u p p2 _ e al st2.rel (st2.vrep st.rel r1) r2 q2)
theorem b7q {a b:PySem.Expr} {x y:Ev} {op:CmpOp} {o:COp} (ho:a7a prog w G n m) (e:a2s op=some o) (ha:SE prog w G n m c a x) (hb:SE prog w G n m c b y) (hm:behindInMarks op b=false) :
  SC prog w G n m c (.Compare a [op] [b] pos) (B3 o x y):=λA s H r env Q al R F q=>by
 refine wpAny_isTrue_Compare1 (wpAny_mono (a7M ho e ha hb al R F q) (λv s1 h1=>wpAny_mono h1 (λu s2 h2=>j8 h2 (λp t H1 s3 r1 st q1=>?_)) λ_ _ e=>e) λ_ _ e=>e) hm;subst r1;exact wpAny_truthy_bool ⟨p,H1,rfl,st,q1⟩
theorem b8a {a b:PySem.Expr} {x y:Ev} {op:CmpOp} {o:COp} (ho:a7a prog w G n m) (e:a2s op=some o) (ha:SE prog w G n m c a x) (hb:SE prog w G n m c b y) (hm:behindInMarks op b=false) :
  SE prog w G n m c (.Compare a [op] [b] pos) (a2K (B3 o x y)):=λA s H r env Q al R F q =>
 wpAny_mono (wpAny_Compare1 (a7M ho e ha hb al R F q) hm) (λ_ _ ⟨p,H1,r1,st,q1⟩=>⟨.bool p,H1,r1,st,q1⟩) λ_ _ e=>e
theorem b2N {a b d:PySem.Expr} {x y z:Ev} {o1 o2:CmpOp} {c1 c2:COp} (ho:a7a prog w G n m) (k1:a2s o1=some c1) (k2:a2s o2=some c2) (ha:SE prog w G n m c a x) (hb:SE prog w G n m c b y) (hd:SE prog w G n m c d z) (hm:behindInMarks o2 d=false) :
  SC prog w G n m c (.Compare a [o1,o2] [b,d] pos) (a55 c1 c2 x y z):=λA s H r env Q al R F q=>by
 have rel:∀ (l k:List Value) (s:Shared) (Q:Unit->Shared->Prop),Q () s->wpAny (model prog w) A (release l k) Q z5 s:=λl k s Q h=>λΓ p _=>by refine b9 (Sem.wp_release ..) ?_;exact h
 refine b9 (arm_isTrue_Compare ..) ?_;refine c7t (j8 (ha A s H r env _ al R F q) (λp v H1 s1 r1 st q1=>?_));show wpAny _ _ (testChain pos v [o1,o2] (markedEach [o1,o2] [b,d] [eval b env,eval d env])) _ _ _;show wpAny _ _ (holding [v] (eval b env)>>=λrv=>standAt pos>>=λ_=>holding [v,rv] (compareOp o1 v rv)>>=λcc=>release [v,rv] [cc]>>=λ_=>holding [cc,rv] (truthy cc)>>=λt=>if t then testChain pos rv [o2] (markedEach [o2] [d] [eval d env]) else pure false) _ _ _
 refine c7t (wpAny_holding (j8 (hb A s1 H1 r env _ al st.rel (F.step R st) q1) (λp2 u H2 s2 r2 st2 q2=>?_)));refine c7t (wpAny_standAt (c7t (wpAny_holding (j8 (ho o1 c1 A s2 H2 v u p p2 _ k1 al st2.rel (st2.vrep st.rel r1) r2 q2) (λp3 t H3 s3 r3 st3 q3=>?_)))));subst r3;refine c7t (rel _ _ _ _ (c7t (wpAny_holding (wpAny_truthy_bool ?_))));cases p3 with
 | false=>exact c7u ⟨false,H3,rfl,st.trans (st2.trans st3),q3.2 rfl⟩
 | true =>
  show wpAny _ _ (testChain pos u [o2] [markedBehindIn o2 d (eval d env)]) _ _ _;refine b9 (markedBehindIn_of_false hm) ?_;show wpAny _ _ (holding [u] (eval d env)>>=λrv=>standAt pos>>=λ_=>operate [u,rv] (compareOp o2 u rv)>>=λcc=>holding [cc] (truthy cc)) _ _ _;refine c7t (wpAny_holding (j8 (hd A s3 H3 r env _ al st3.rel (F.step R (st.trans (st2.trans st3))) (q3.1 rfl)) (λp4 u2 H4 s4 r4 st4 q4=>?_)))
  refine c7t (wpAny_standAt (c7t (wpAny_operate' (j8 (ho o2 c2 A s4 H4 u u2 p2 p4 _ k2 al st4.rel (st4.vrep st3.rel (st3.vrep st2.rel r2)) r4 q4) (λp5 t H5 s5 r5 st5 q5=>?_)))));subst r5;exact wpAny_holding (wpAny_truthy_bool ⟨p5,H5,rfl,st.trans (st2.trans (st3.trans (st4.trans st5))),q5⟩)
end
mutual
noncomputable def toD:d8->PyData
 | .none=>.none
 | .bool b=>.bool b
 | .int i=>.int i
 | .str s=>.str (Str.ofString s)
 | .tup l=>.tuple (W7 l)
 | .ref _=>.none
 | .fz _=>.none
noncomputable def W7:List d8->List PyData
 | []=>[]
 | v :: r=>toD v :: W7 r
end
theorem r9 (s:String):Str.ofString s=⟨(s.toList.map Char.toNat).toArray⟩:=by
 have:=a0H s.toList;rwa [String.ofList_toList] at this
theorem a6Y (c:Char):Str.ofString (String.singleton c)=⟨#[c.toNat]⟩:=by refine b9 (r9 ..) ?_;simp
theorem b3Z (s:String):PyData.strOk (Str.ofString s)=true:=by
 refine b9 (r9 ..) ?_;unfold PyData.strOk;refine I9 (Array.all_eq_true ..) ?_;intro i hi;simp only [List.getElem_toArray,List.getElem_map,decide_eq_true_eq];have:=(s.toList[i]'(by simpa using hi)).valid
 unfold Char.toNat;rcases this with h | h
 ·have:(s.toList[i]'(by simpa using hi)).val.toNat < 0xd800:=h
  exact b9z h
 ·exact h.2
theorem D9 {v:d8} {r:List d8} (h:Y8 n (v :: r)=true):B8 n v=true/\Y8 n r=true:=Bool.and_eq_true_iff.mp h
theorem a0Q {v:d8} (h:B8 n v=true):(∃ i,v=.int i)\/(∃ s,v=.str s)\/∃ l,v=.tup l:=by
 cases v <;> first | exact .inl ⟨_,rfl⟩ | exact .inr (.inl ⟨_,rfl⟩) | exact .inr (.inr ⟨_,rfl⟩) | exact absurd h Bool.false_ne_true
theorem W1 {P:Nat->d8->Prop} (int:∀ n i,P n (.int i)) (str:∀ n s,P n (.str s)) (tup:∀ n l,(∀ y,B8 n y=true->P n y)->Y8 n l=true->P (n+1) (.tup l)):∀ n v,B8 n v=true->P n v:=by
 intro n;induction n with
 | zero=>intro v h;cases v <;> first | exact int _ _ | exact str _ _ | exact absurd h Bool.false_ne_true
 | succ n ih=>intro v h;cases v <;> first | exact int _ _ | exact str _ _ | exact tup _ _ ih h | exact absurd h Bool.false_ne_true
theorem a6j (a:∀ v,B8 n v=true->(toD v).canLay0=true/\(toD v).depth<=n):∀ l,Y8 n l=true->PyData.canLayAll0 (W7 l)=true/\PyData.depthAll (W7 l)<=n:=by
 intro l;induction l with
 | nil=>exact λ_=>⟨rfl,Nat.zero_le _⟩
 | cons v r ih =>
  intro h;refine eA (D9 h) λh1 h2=>?_;exact ⟨Bool.and_eq_true_iff.mpr ⟨(a v h1).1,(ih h2).1⟩,Nat.max_le.mpr ⟨(a v h1).2,(ih h2).2⟩⟩
theorem a9w:∀ n v,B8 n v=true->(toD v).canLay0=true/\(toD v).depth<=n :=
 W1 (λ_ _=>⟨rfl,Nat.zero_le _⟩) (λ_ s=>⟨b3Z s,Nat.zero_le _⟩) λ_ l ih h=>⟨(a6j ih l h).1,Nat.succ_le_succ (a6j ih l h).2⟩
theorem G9 (n:Nat):(∀ v,B8 n v=true->(toD v).canLay0=true/\(toD v).depth<=n)/\∀ l,Y8 n l=true->PyData.canLayAll0 (W7 l)=true/\PyData.depthAll (W7 l)<=n:=⟨a9w n,a6j (a9w n)⟩
theorem a0Y {a b:String} (h:Str.ofString a=Str.ofString b):a=b:=by
 rw [r9,r9] at h;simp only [Str.mk.injEq] at h;have h:a.toList.map Char.toNat=b.toList.map Char.toNat:=by injection h
 have inj:∀ l m:List Char,l.map Char.toNat=m.map Char.toNat->l=m:=by
  intro l;induction l with
  | nil=>intro m h;cases m <;> simp_all
  | cons x l ih =>
   intro m h;cases m with
   | nil=>simp at h
   | cons y m =>
    simp only [List.map_cons,List.cons.injEq] at h;refine b9 (ih m h.2) ?_;refine b9 (Char.toNat_inj.mp h.1) ?_;rfl
 exact String.toList_injective (inj _ _ h)
theorem b10 (a:∀ v,B8 n v=true->∀ m u,B8 m u=true->(PyData.eqv (toD v) (toD u)=true↔v=u)):∀ l m,Y8 n l=true->Y8 k m=true->(PyData.eqvAll (W7 l) (W7 m)=true↔l=m):=by
 intro l;induction l with
 | nil=>intro m _ _;cases m with
  | nil=>exact ⟨λ_=>rfl,λ_=>rfl⟩
  | cons _ _=>exact ⟨λh=>absurd h Bool.false_ne_true,λh=>nomatch h⟩
 | cons v r ih =>
  intro m h1 h2;cases m with
  | nil=>exact ⟨λh=>absurd h Bool.false_ne_true,λh=>nomatch h⟩
  | cons u m =>
   refine eA (D9 h1) λa1 a2=>?_;refine eA (D9 h2) λb1 b2=>?_;show (PyData.eqv (toD v) (toD u)&&PyData.eqvAll (W7 r) (W7 m))=true↔_;refine b9 (Bool.and_eq_true ..) ?_;refine I9 (a v a1 k u b1 ..) ?_;refine I9 (ih m a2 b2 ..) ?_;refine b9 (List.cons.injEq ..) ?_;rfl
theorem a3q {x:Bool} {p:Prop} (h:x=false) (q:¬ p):x=true↔p:=⟨λe=>absurd (h.symm.trans e) Bool.false_ne_true,λe=>absurd e q⟩
theorem b6A:∀ n v,B8 n v=true->∀ m u,B8 m u=true->(PyData.eqv (toD v) (toD u)=true↔v=u):=by
 refine W1 (λn i m u h=>?_) (λn s m u h=>?_) λn l ih h m u hu=>?_
 ·rcases a0Q h with ⟨j,rfl⟩ | ⟨j,rfl⟩ | ⟨j,rfl⟩
  ·exact beq_iff_eq.trans ⟨congrArg _,λe=>d8.int.inj e⟩
  ·exact a3q rfl λe=>nomatch e
  ·exact a3q rfl λe=>nomatch e
 ·rcases a0Q h with ⟨j,rfl⟩ | ⟨j,rfl⟩ | ⟨j,rfl⟩
  ·exact a3q rfl λe=>nomatch e
  ·exact beq_iff_eq.trans ⟨λe=>congrArg _ (a0Y e),λe=>congrArg _ (d8.str.inj e)⟩
  ·exact a3q rfl λe=>nomatch e
 ·rcases a0Q hu with ⟨j,rfl⟩ | ⟨j,rfl⟩ | ⟨j,rfl⟩
  ·exact a3q rfl λe=>nomatch e
  ·exact a3q rfl λe=>nomatch e
  ·cases m with
   | zero=>exact absurd hu Bool.false_ne_true
   | succ m=>exact (b10 ih l j h hu).trans ⟨congrArg _,λe=>d8.tup.inj e⟩
theorem a20 (n:Nat):(∀ v u,B8 n v=true->B8 n u=true->(PyData.eqv (toD v) (toD u)=true↔v=u))/\∀ l m,Y8 n l=true->Y8 n m=true->(PyData.eqvAll (W7 l) (W7 m)=true↔l=m) :=
 ⟨λv u h1 h2=>b6A n v h1 n u h2,b10 (b6A n)⟩
section
variable {G:Gi} {h:Heap}
theorem a9K (a:∀ x,B8 n x=true->∀ v,i8 G h x v->∃ as,Reads h v (toD x) as):∀ l,Y8 n l=true->∀ vs,l5 G h l vs->∃ as,ReadsAll h vs (W7 l) as:=by
 intro l;induction l with
 | nil=>intro _ vs e;cases a1l e;exact ⟨_,.nil⟩
 | cons x r ih =>
  intro h1 vs e;refine k8 (F0 e) λu us q3 e1 e2=>?_;subst q3;refine eA (D9 h1) λk1 k2=>?_;refine eE (a x k1 u e1) λas h3=>?_;refine eE (ih k2 us e2) λbs h4=>?_;exact ⟨_,.cons h3 h4⟩
theorem a9p:∀ n x,B8 n x=true->∀ v,i8 G h x v->∃ as,Reads h v (toD x) as:=by
 refine W1 (λn i v e=>?_) (λn s v e=>?_) λn l ih hl v e=>?_
 ·refine eE (N0 e) λt q1=>?_;subst q1;exact ⟨_,.int ..⟩
 ·refine eE (a1h e) λt q2=>?_;subst q2;exact ⟨_,.str ..⟩
 ·replace e:=Y0 e;revert e;intro q6;refine k8 q6 λb vs q4 q5 e=>?_;clear q6;subst q4;refine S8 q5 λo ho hc k hd=>?_;clear q5;refine eE (a9K ih l hl vs e) λas h3=>?_;exact ⟨_,.tuple ho hc hd h3⟩
theorem O7 (n:Nat):(∀ x v,B8 n x=true->i8 G h x v->∃ as,Reads h v (toD x) as)/\∀ l vs,Y8 n l=true->l5 G h l vs->∃ as,ReadsAll h vs (W7 l) as :=
 ⟨λx v a b=>a9p n x a v b,λl vs a b=>a9K (a9p n) l a vs b⟩
end
end
variable {d:PySem.Addr} {ep:Nat}
section
open PySem PySem.W PyProof.Rows PySem.Calls PySem.SeqAt
open Classical
section
variable {prog:Program} {w:World} {G:Gi} {n m:Nat} {c:Cx} {A:Around} {s:Shared} {H:Hp}
structure Eqs (A:Around) (s:Shared) (v u:Value) (b:Bool):Prop where
 eq:EqAt A s v u b
 rc:RcAt A s v u b
 ne:RcNeAt A s v u (!b)
theorem a3k {d e:PyData} {as bs:List Addr} (ra:Reads s.heap v d as) (rb:Reads s.heap u e bs) (ha:d.canLay0=true) (hb:e.canLay0=true) (hd:d.depth<=21) (hu:A.units+64 < cLine):Eqs A s v u (PyData.eqv d e):=by
 have hu:A.units+min d.depth e.depth < cLine:=by
  have:=Nat.min_le_left d.depth e.depth;exact c4O hd hu
 exact ⟨eqAt_reads d e A s v u as bs ra rb ha hb hu,rcAt_reads ra rb ha hb hu,rcNeAt_reads ra rb ha hb hu⟩
theorem K7.length:∀ {l:List (d8×d8)} {es:List DictEntry},K7 G w h l es->l.length=es.length:=by
 intro zz;induction zz with
 | nil=>intro _ e;cases b5J e;rfl
 | cons _ _ ih =>
  intro _ e;replace e:=a3E e;revert e;intro q10;refine C8 q10 λu us q9 _ _ _ e=>?_;clear q10;subst q9;simp [ih e]
theorem a6v {a b:Addr} {vs us:Array Value} (h1:s.heap.IsList a vs) (h2:s.heap.IsList b us) (z:vs.size=0\/us.size=0) (hu:A.units < cLine):Eqs A s (.ref a) (.ref b) (decide (vs.size=us.size)):=by
 by_cases e:vs.size=us.size
 ·refine b9 (decide_eq_true e) ?_;have z1:vs.size=0:=by exact b9i z e
  have z2:us.size=0:=by exact c5u e z1
  have q:(List.range vs.size).all (λ_=>true)=true:=by simp
  have rc:RcAt A s (.ref a) (.ref b) true:=q▸RcAt.lists (e:=λ_=>true) h1 h2 e hu λj h1 _=>absurd h1 (c44 z1);have ne:RcNeAt A s (.ref a) (.ref b) (!true):=by
   have:=RcNeAt.lists (e:=λ_=>true) (A:=A) h1 h2 e hu λj h1 _=>absurd h1 (c44 z1);rwa [q] at this
  refine ⟨?_,rc,ne⟩;by_cases e:a=b
  ·subst e;exact .same _
  ·exact .of_refs e rc
 ·refine b9 (decide_eq_false e) ?_;have rc:=RcAt.lists_lengths (A:=A) h1 h2 (by simpa using e) hu
  refine ⟨?_,rc,RcNeAt.lists_lengths h1 h2 (by simpa using e) hu⟩
  by_cases e':a=b
  ·subst e';refine S8 h1 λo ho _ n hd=>?_;clear h1;refine S8 h2 λo' ho' _ n' hd'=>?_;clear h2;obtain rfl:o=o':=Option.some.inj (ho.symm.trans ho');rw [hd] at hd';injection hd' with hd' _;subst hd';exact absurd rfl e
  ·exact .of_refs e' rc
theorem b3t (g:Gk G) (R:w6 G w H s.heap) (hu:A.units+64 < cLine) {p q:d8} {b:Bool} (rp:i8 G s.heap p v) (rq:i8 G s.heap q u) (e:eq0 H p q b):Eqs A s v u b:=by
 have hu0:A.units < cLine:=by exact c28 hu
 rcases e with ⟨hp,hq,rfl⟩ | ⟨x,y,xs,ys,rfl,rfl,h1,h2,hc,rfl⟩ | ⟨x,xs,rfl,rfl,h1,rfl⟩
 ·refine eE ((O7 20).1 p v hp rp) λas r1=>?_;refine eE ((O7 20).1 q u hq rq) λbs r2=>?_;refine eA ((G9 20).1 p hp) λl1 d1=>?_;refine eA ((G9 20).1 q hq) λl2 d2=>?_;have:=a3k (A:=A) r1 r2 l1 l2 (c2N d1) hu;have e:PyData.eqv (toD p) (toD q)=decide (p=q):=by
   refine I9 (Bool.eq_iff_iff ..) ?_;refine I9 ((a20 20).1 p q hp hq ..) ?_;refine I9 (decide_eq_true_iff ..) ?_;rfl
  rwa [e] at this
 ·replace rp:=R4 rp;replace rq:=R4 rq;subst rp rq;refine A6 (R.objs _ _ h1) λvs k1 g1 r1=>?_;refine A6 (R.objs _ _ h2) λus k2 g2 r2=>?_;rcases hc with ⟨p1,p2⟩ | hc
  ·refine eE ((O7 20).2 xs _ p1 r1) λas q1=>?_;refine eE ((O7 20).2 ys _ p2 r2) λbs q2=>?_;refine eA ((G9 20).2 xs p1) λl1 d1=>?_;refine eA ((G9 20).2 ys p2) λl2 d2=>?_;have:=a3k (A:=A) (Reads.list g1 rfl rfl q1) (Reads.list g2 rfl rfl q2) (by simpa [PyData.canLay0] using l1) (by simpa [PyData.canLay0] using l2) (by simp only [PyData.depth];exact c4J d1) hu
   have e:PyData.eqv (.list (W7 xs)) (.list (W7 ys))=decide (xs=ys):=by
    refine I9 (Bool.eq_iff_iff ..) ?_;refine I9 (decide_eq_true_iff ..) ?_;rewrite [<- (a20 20).2 xs ys p1 p2];simp only [PyData.eqv]
   rwa [e] at this
  ·have n1:xs.length=vs.size:=by refine b9 r1.length ?_;refine b9 Array.length_toList ?_;rfl
   have n2:ys.length=us.size:=by refine b9 r2.length ?_;refine b9 Array.length_toList ?_;rfl
   have hc':xs.length=0\/ys.length=0:=hc.imp (λh=>by refine b9 h ?_;rfl) λh=>by refine b9 h ?_;rfl
   have:=a6v (A:=A) ⟨_,g1,rfl,_,rfl⟩ ⟨_,g2,rfl,_,rfl⟩ (c4F n1 n2 hc') hu0;have e:decide (vs.size=us.size)=decide (xs=ys):=by
    refine t6 n1 ?_;refine t6 n2 ?_;refine I9 (decide_eq_decide ..) ?_;exact ⟨λh=>by refine b9 (List.eq_nil_of_length_eq_zero (b9i hc' h:xs.length=0)) ?_;refine b9 (List.eq_nil_of_length_eq_zero (b9B hc' h:ys.length=0)) ?_;rfl,λh=>by refine b9 h ?_;rfl⟩
   rwa [e] at this
 ·replace rp:=R4 rp;replace rq:=a9H rq;subst rp rq;refine A6 (R.objs _ _ h1) λvs k1 g1 r1=>?_;have hl:s.heap.IsList x vs:=⟨_,g1,rfl,_,rfl⟩;exact ⟨EqAt.list_none hl hu0,RcAt.list_none hl hu0,RcNeAt.list_none hl hu0⟩
theorem a5t.get {l r:List d8} {b:Bool} (h:a5t H l r b):l.length=r.length/\∃ es:List Bool,es.length=l.length/\b=es.all id/\∀ (j:Nat) (x y:d8) (z:Bool),l[j]?=some x->r[j]?=some y->es[j]?=some z->eq0 H x y z:=by
 induction h with
 | nil=>exact ⟨rfl,[],rfl,rfl,λj x y z h=>nomatch h⟩
 | cons h1 _ ih =>
  refine a1o ih λh3 es h4 q7 h5=>?_;clear ih;subst q7;refine ⟨congrArg (·+1) h3,_ :: es,congrArg (·+1) h4,rfl,λj x' y' z e1 e2 e3=>?_⟩;cases j with
  | zero=>have q1:=A3 e1;clear e1;subst q1;have q2:=A3 e2;clear e2;subst q2;have q3:=A3 e3;clear e3;subst q3;exact h1
  | succ j=>exact h5 j x' y' z e1 e2 e3
theorem b2n (g:Gk G) (R:w6 G w H s.heap) (hu:A.units+65 < cLine) {p q:d8} {b:Bool} (rp:i8 G s.heap p v) (rq:i8 G s.heap q u) (e:eq1 H p q b):RcAt A s v u b/\RcNeAt A s v u (!b):=by
 rcases e with e0 | ⟨l,r,rfl,rfl,e⟩
 ·have:=b3t (A:=A) g R (c4W hu) rp rq e0;exact ⟨this.rc,this.ne⟩
 ·
   replace rp:=Y0 rp;replace rq:=Y0 rq;refine k8 rp λa vs q6 t1 r1=>?_;clear rp;subst q6;refine k8 rq λa' us q8 t2 r2=>?_;clear rq;subst q8;refine a1o e.get λhl es h4 q11 h5=>?_;subst q11;have n1:l.length=vs.length:=r1.length;have n2:r.length=us.length:=r2.length;have he:∀ j (h1:j < vs.toArray.size) (h2:j < us.toArray.size),EqAt A.in1 s vs.toArray[j] us.toArray[j] (es[j]?.getD true):=λj h1 h2=>by
    have h1:j < vs.length:=by simpa using h1
    have h2:j < us.length:=by simpa using h2
    have e1:l[j]?=some (l[j]'(c5d n1 h1)):=List.getElem?_eq_getElem _;have e2:r[j]?=some (r[j]'(c1A hl n1 h1)):=List.getElem?_eq_getElem _;have e3:es[j]?=some (es[j]'(c1O h4 n1 h1)):=List.getElem?_eq_getElem _;refine i9 (r1.get j e1) λx i1 i2=>?_;refine i9 (r2.get j e2) λy i3 i4=>?_;rw [List.getElem?_eq_getElem h1] at i1;rw [List.getElem?_eq_getElem h2] at i3;have q4:=A3 i1;clear i1;subst q4;have q5:=A3 i3;clear i3;subst q5
    have:=(b3t (A:=A.in1) g R (by show A.units+1+64 < cLine;exact b4Q hu) i2 i4 (h5 j _ _ _ e1 e2 e3)).eq
    refine b9 e3 ?_;simpa using this
   have key:((List.range (min vs.toArray.size us.toArray.size)).all (λj=>es[j]?.getD true)&&vs.toArray.size==us.toArray.size)=es.all id:=by
    have s1:vs.toArray.size=es.length:=by simp;exact c4M h4 n1
    have s2:us.toArray.size=es.length:=by simp;exact c1h hl h4 n2
    refine b9 s1 ?_;refine b9 s2 ?_;refine b9 (Nat.min_self ..) ?_;refine b9 (beq_self_eq_true ..) ?_;refine b9 (Bool.and_true ..) ?_;refine I9 (Bool.eq_iff_iff ..) ?_;refine I9 (List.all_eq_true ..) ?_;refine I9 (List.all_eq_true ..) ?_;constructor
    ·intro h x hx;obtain ⟨j,hj,rfl⟩:=List.mem_iff_getElem.mp hx;have:=h j (List.mem_range.mpr hj);simpa [List.getElem?_eq_getElem hj] using this
    ·intro h j hj;have hj:=List.mem_range.mp hj;have:=h _ (List.getElem_mem hj);simpa [List.getElem?_eq_getElem hj] using this
   have a1:=RcAt.tuples (A:=A) t1 t2 (c5q hu) he;have a2:=RcNeAt.tuples (A:=A) t1 t2 (c5q hu) he;rw [key] at a1 a2;exact ⟨a1,a2⟩
end
end
variable {e:PySem.Expr}
section
open PySem PySem.W PyProof.Rows PySem.Calls PySem.SeqAt
open Classical
mutual
noncomputable def J1:d8->Nat
 | .tup l=>a14 l+1
 | .none=>1
 | .bool _=>1
 | .int _=>1
 | .str _=>1
 | .ref _=>1
 | .fz _=>1
noncomputable def a14:List d8->Nat
 | []=>0
 | v :: r=>J1 v+a14 r
end
theorem a6k (w:World) (l:List d8) (y:d8):R6 w (l++[y])=R6 w l++[n6 w y]:=by
 induction l with
 | nil=>rfl
 | cons z l ih=>exact congrArg (n6 w z :: ·) ih
theorem a6F (l:List d8) (y:d8):a14 (l++[y])=a14 l+J1 y:=by
 induction l with
 | nil=>exact (Nat.zero_add _).symm
 | cons z l ih=>exact (congrArg (J1 z+·) ih).trans (Nat.add_assoc _ _ _).symm
theorem b5Q (a:∀ y,B8 n y=true->B8 m y=true):∀ l,Y8 n l=true->Y8 m l=true:=by
 intro l;induction l with
 | nil=>exact λ_=>rfl
 | cons v r ih=>exact λh=>Bool.and_eq_true_iff.mpr ⟨a v (D9 h).1,ih (D9 h).2⟩
theorem a9t:∀ n v,B8 n v=true->∀ m,n<=m->B8 m v=true:=by
 refine W1 (λ_ _ m _=>?_) (λ_ _ m _=>?_) λn l ih h m hm=>?_
 ·cases m <;> rfl
 ·cases m <;> rfl
 ·cases m with
  | zero=>exact absurd hm (Nat.not_succ_le_zero n)
  | succ m=>exact b5Q (λy hy=>ih y hy m (Nat.le_of_succ_le_succ hm)) l h
section
variable {G:Gi} {h:Heap}
theorem b7O (a:∀ x,B8 n x=true->∀ m y v,B8 m y=true->i8 G h x v->i8 G h y v->x=y):∀ l,Y8 n l=true->∀ l' vs,Y8 m l'=true->l5 G h l vs->l5 G h l' vs->l=l':=by
 intro l;induction l with
 | nil =>
  intro _ l' vs _ e f;cases a1l e;cases l' with
  | nil=>rfl
  | cons y m=>replace f:=F0 f;revert f;intro q8;refine A6 q8 λ_ _ f _=>?_;clear q8;exact nomatch f
 | cons x r ih =>
  intro h1 l' vs h2 e f;refine k8 (F0 e) λu us q26 e1 e2=>?_;subst q26;cases l' with
  | nil=>exact nomatch a1l f
  | cons y l' =>
   refine k8 (F0 f) λu' us' hh f1 f2=>?_;cases hh;refine eA (D9 h1) λk1 k2=>?_;refine eA (D9 h2) λj1 j2=>?_;refine b9 (a x k1 m y _ j1 e1 f1) ?_;refine b9 (ih k2 l' _ j2 e2 f2) ?_;rfl
theorem c6F:∀ n x,B8 n x=true->∀ m y v,B8 m y=true->i8 G h x v->i8 G h y v->x=y:=by
 refine W1 (λn i m y v hy e f=>?_) (λn i m y v hy e f=>?_) λn l ih hl m y v hy e f=>?_
 ·refine eE (N0 e) λt q12=>?_;subst q12;rcases a0Q hy with ⟨j,rfl⟩ | ⟨j,rfl⟩ | ⟨j,rfl⟩
  ·replace f:=N0 f;revert f;intro q2;refine eE q2 λ_ f=>?_;clear q2;cases f;rfl
  ·replace f:=a1h f;revert f;intro q3;refine eE q3 λ_ f=>?_;clear q3;exact nomatch f
  ·replace f:=Y0 f;revert f;intro q9;refine A6 q9 λ_ _ f _=>?_;clear q9;exact nomatch f
 ·refine eE (a1h e) λt q13=>?_;subst q13;rcases a0Q hy with ⟨j,rfl⟩ | ⟨j,rfl⟩ | ⟨j,rfl⟩
  ·replace f:=N0 f;revert f;intro q4;refine eE q4 λ_ f=>?_;clear q4;exact nomatch f
  ·replace f:=a1h f;revert f;intro q5;refine eE q5 λ_ f=>?_;clear q5;injection f with f _
   exact congrArg d8.str (a0Y f)
  ·replace f:=Y0 f;revert f;intro q10;refine A6 q10 λ_ _ f _=>?_;clear q10;exact nomatch f
 ·replace e:=Y0 e;revert e;intro q23;refine k8 q23 λa vs q22 t1 e=>?_;clear q23;subst q22;rcases a0Q hy with ⟨j,rfl⟩ | ⟨j,rfl⟩ | ⟨j,rfl⟩
  ·replace f:=N0 f;revert f;intro q6;refine eE q6 λ_ f=>?_;clear q6;exact nomatch f
  ·replace f:=a1h f;revert f;intro q7;refine eE q7 λ_ f=>?_;clear q7;exact nomatch f
  ·replace f:=Y0 f;revert f;intro q24;refine k8 q24 λa2 vs2 hh t2 f=>?_;clear q24;cases hh;refine S8 t1 λo ho _ _ hd=>?_;clear t1;refine S8 t2 λo' ho' _ _ hd'=>?_;clear t2;obtain rfl:o=o':=Option.some.inj (ho.symm.trans ho');rw [hd] at hd';injection hd' with hd' _
   have hd':vs=vs2:=congrArg Array.toList hd';subst hd';cases m with
   | zero=>exact absurd hy Bool.false_ne_true
   | succ m=>exact congrArg d8.tup (b7O ih l hl j vs hy e f)
end
section
variable {prog:Program} {w:World} {G:Gi}
theorem a0O (t:IsTup s.heap a vs):s.TypeIs (.ref a) "tuple":=let ⟨o,ho,hc,_⟩:=t;⟨o,ho,hc⟩
theorem a4F {β:Type} {l:List d8} {vs:List Value} {body:Value->β->Sem (ForInStep β)} {b0:β} {Q:β->Shared->Prop} (P:β->Prop) (h:Y8 n l=true) (r:l5 G s.heap l vs) (p:P b0)
  (step:∀ y u b,B8 n y=true->i8 G s.heap y u->P b->wpAny (model prog w) A (body u b) (λx s'=>match x with | .yield b'=>s'=s/\P b' | .done b'=>Q b' s') E s) (fin:∀ b,P b->Q b s) :
  wpAny (model prog w) A (forIn vs.toArray b0 body) Q E s:=by
 refine t6 Array.forIn_toList ?_;refine wpAny_forIn_list _ (λrest b s'=>s'=s/\P b/\∃ left,Y8 n left=true/\l5 G s.heap left rest) _ (λu rest b s' hi=>?_) (λb s' hi=>?_) _ _ ⟨rfl,p,l,h,r⟩
 ·refine a0G hi λq25 p left hl hv=>?_;clear hi;subst q25;cases left with
  | nil=>exact nomatch a1l hv
  | cons y left =>
   refine k8 (F0 hv) λ_ _ hh r1 r2=>?_;cases hh;refine wpAny_mono (step y u b (D9 hl).1 r1 p) (λx s1 hx=>?_) λ_ _ e=>e;cases x with
   | done b'=>exact hx
   | yield b'=>exact ⟨hx.1,hx.2,left,(D9 hl).2,r2⟩
 ·refine eAA hi λq11 p _=>?_;clear hi;subst q11;exact fin b p
theorem a0L:∀ n k,B8 n k=true->∀ (A:Around) (E:Value->Shared->Prop) (s:Shared) (v:Value) (Q:Int->Shared->Prop),A.units+n < cLine->i8 G s.heap k v->Q (n6 w k) {s with toks:=s.toks+J1 k} ->
  wpAny (model prog w) A (PySem.pyHash v) Q E s:=by
 refine W1 (λn i A E s v Q _ r q=>?_) (λn i A E s v Q _ r q=>?_) λn l ih h A E s v Q hu r q=>?_
 ·refine eE (N0 r) λt q14=>?_;subst q14;exact wpAny_pyHash_int q
 ·refine eE (a1h r) λt q15=>?_;subst q15;exact wpAny_pyHash_str q
 ·replace r:=Y0 r;revert r;intro q19;refine k8 q19 λa vs q18 t r=>?_;clear q19;subst q18;have hT:=a0O t;refine S8 t λo ho _ z hd=>?_;clear t;unfold pyHash
  first | unfold pyHashByItsType | skip
  first | refine c7t (wpAny_cRoomFor_or (.inr (c2b hu)) ?_) | skip
  refine c7t (wpAny_specialOf hT PySem.F.slot_tuple_hash.lookup ?_);show wpAny _ _ (if (some (Value.builtin "tuple.__hash__")==some Value.none)=true then _ else _) Q E s
  refine b9 (if_neg (by refine b9 (beq_builtin_none ..) ?_;exact Bool.false_ne_true)) ?_
  refine c7t (wpAny_specialOf hT PySem.F.slot_tuple_hash.lookup ?_);show wpAny _ _ (callSpecialIfBoundUnlessNone? (.ref a) "__hash__" _>>=_) Q E s;refine c7t (wpAny_callSpecialIfBoundUnlessNone?_slot hT PySem.F.slot_tuple_hash (wpAny_call_entry PySem.F.slot_tuple_hash hT PySem.F.entry_tuple_hash ?_ (PySem.F.args_tuple_hash_1 _)));show wpAny _ _ (Builtin.Tuple.tupleItemsOf (.ref a)>>=_) _ _ s
  refine c7t (wpAny_tupleItemsOf ho hd ?_);refine c7t ?_;refine t6 Array.forIn_toList ?_;refine wpAny_forIn_list _
   (λrest (b:Array Int) s'=>∃ done left,l=done++left/\Y8 n left=true/\l5 G s.heap left rest/\b.toList=R6 w done/\s'={s with toks:=s.toks+a14 done})
   _ ?_ ?_ _ _ ⟨[],l,rfl,h,r,rfl,rfl⟩
  ·intro x rest b s' hi;refine C8 hi λdone left q27 hl hr hb q28=>?_;clear hi;subst q27;subst q28;cases left with
   | nil=>exact nomatch a1l hr
   | cons y left =>
    refine k8 (F0 hr) λu us hh r1 r2=>?_;cases hh;refine c7t (ih y (D9 hl).1 _ _ _ _ _ (by show A.units+1+n < cLine;exact c01 hu) r1 (c7u ⟨done++[y],left,(List.append_assoc done [y] left).symm,(D9 hl).2,r2,?_,?_⟩))
    ·refine b9 (a6k ..) ?_;refine b9 Array.toList_push ?_;refine b9 hb ?_;rfl
    ·refine b9 (a6F ..) ?_;refine b9 (Nat.add_assoc ..) ?_;rfl
  ·intro b s' hi;refine C8 hi λdone left q29 hl hr hb q30=>?_;clear hi;subst q29;subst q30;cases left with
   | cons y left=>refine A6 (F0 hr) λ_ _ e _=>?_;exact nomatch e
   | nil =>
    rw [List.append_nil] at q;show wpAny _ _ (retInt (Builtin.Tuple.tupleHashOf b.toList)) _ _ _;refine b9 hb ?_;refine wpAny_ret_mkInt ?_;show wpAny _ _ (if (decide (-(2:Int) ^ 63<=Builtin.Tuple.tupleHashOf (R6 w done))&&decide (Builtin.Tuple.tupleHashOf (R6 w done) < 2 ^ 63))=true then _ else _) Q E _
    have q:Q (if (decide (-(2:Int) ^ 63<=Builtin.Tuple.tupleHashOf (R6 w done))&&decide (Builtin.Tuple.tupleHashOf (R6 w done) < 2 ^ 63))=true then _ else _) {s with toks:=s.toks+a14 done+1}:=q
    by_cases hr:(decide (-(2:Int) ^ 63<=Builtin.Tuple.tupleHashOf (R6 w done))&&decide (Builtin.Tuple.tupleHashOf (R6 w done) < 2 ^ 63))=true
    ·refine b9 (if_pos hr) ?_;rw [if_pos hr] at q;exact c7u q
    ·refine b9 (if_neg hr) ?_;rw [if_neg hr] at q;exact c7t (wpAny_rule (c7u q))
theorem a6p:∀ n k,B8 n k=true->∀ (j:Nat) (A:Around) (E:Value->Shared->Prop) (s:Shared) (v:Value) (Q:Bool->Shared->Prop),i8 G s.heap k v->Q true s ->
  wpAny (model prog w) A (eqIsQuiet (n+j+1) v) Q E s:=by
 refine W1 (λn i j A E s v Q r q=>?_) (λn i j A E s v Q r q=>?_) λn l ih h j A E s v Q r q=>?_
 ·refine eE (N0 r) λt q16=>?_;subst q16;refine b9 (eqIsQuiet_byValue _ rfl) ?_;exact c7u q
 ·refine eE (a1h r) λt q17=>?_;subst q17;refine b9 (eqIsQuiet_byValue _ rfl) ?_;exact c7u q
 ·replace r:=Y0 r;revert r;intro q21;refine k8 q21 λa vs q20 t r=>?_;clear q21;subst q20;have hT:=a0O t;refine S8 t λo ho _ z hd=>?_;clear t;unfold eqIsQuiet;refine c7t (wpAny_specialOf hT PySem.F.slot_tuple_eq.lookup ?_);show wpAny _ _ (isInstance (.ref a) (.type "tuple")>>=_) _ _ s;refine c7t (wpAny_isInstance hT isSubtype_tuple_tuple ?_);simp only [Bool.not_true,Bool.false_eq_true,if_false]
  refine c7t (wpAny_seqItems ho hd ?_);refine b9 (show n+1+j=n+j+1 from Nat.add_right_comm n 1 j) ?_;refine c7t (a4F (λb=>b.1=none) h r rfl (λy u b hy ry hb=>?_) λb hb=>?_)
  ·refine c7t (ih y hy j _ _ _ _ _ ry ?_);simp only [Bool.not_true,Bool.false_eq_true,if_false];exact c7u ⟨rfl,rfl⟩
  ·obtain ⟨b1,b2⟩:=b;cases (show b1=none from hb);exact c7u q
end
noncomputable def kIs (G:Gi) (h:Heap) (k:d8) (a:Addr):Prop:=B8 7 k=true/\i8 G h k (.ref a)
theorem W9 {k:d8} (h:B8 7 k=true):a1H k=true:=a9t 7 k h 20 (c7v rfl)
noncomputable def kk (prog:Program) (w:World) (G:Gi):HeapKind prog w d8 where
 is:=kIs G
 hash:=n6 w
 draws:=J1
 room:=λA=>A.units+64 < cLine
 inj:=λhx hy=>c6F 7 _ hx.1 7 _ _ hy.1 hx.2 hy.2
 keeps:=λ{h h' k a d o es ep} x ho hd hs=>⟨x.1,x.2.mono λb vs t=>by
  refine S8 t λo' ho' hc z hd'=>?_;clear t;refine ⟨o',(hs.2 b ?_).trans ho',hc,z,hd'⟩
  rintro rfl
  rw [ho] at ho';have q1:=A3 ho';clear ho';subst q1;rw [hd] at hd';cases hd'⟩
 pyHash:=λhu hk h=>a0L 7 _ hk.1 _ _ _ _ _ (b3O hu) hk.2 h
 eqBool:=λ{A E s x y a b Q} hu hx hy h=>by
  refine eE ((O7 20).1 x _ (W9 hx.1) hx.2) λas r1=>?_;refine eE ((O7 20).1 y _ (W9 hy.1) hy.2) λbs r2=>?_;refine eA ((G9 20).1 x (W9 hx.1)) λl1 d1=>?_;refine eA ((G9 20).1 y (W9 hy.1)) λl2 d2=>?_;have:=a3k (A:=A) r1 r2 l1 l2 (c2N d1) hu;have e:PyData.eqv (toD x) (toD y)=decide (x=y):=by
   refine I9 (Bool.eq_iff_iff ..) ?_;refine I9 ((a20 20).1 x y (W9 hx.1) (W9 hy.1) ..) ?_;refine I9 (decide_eq_true_iff ..) ?_;rfl
  rw [e] at this;exact this.eq prog w E Q h
 quiet:=λhk h=>a6p 7 _ hk.1 0 _ _ _ _ _ hk.2 h
section
variable {prog:Program} {w:World} {G:Gi}
theorem K7.get:∀ {l:List (d8×d8)} {es:List DictEntry} (i:Nat) {p:d8×d8},K7 G w h l es->l[i]?=some p->∃ e,es[i]?=some e/\i8 G h p.1 e.key/\i8 G h p.2 e.val/\e.hash=n6 w p.1:=by
 intro r;induction r with
 | nil=>intro _ i _ _ f;simp at f
 | cons q r ih =>
  intro _ i p e f;replace e:=a3E e;revert e;intro q16;refine C8 q16 λu us q15 a b c e=>?_;clear q16;subst q15;cases i with
  | zero=>simp at f;subst f;exact ⟨u,rfl,a,b,c⟩
  | succ i=>simp at f ⊢;exact ih i e f
theorem K7.get':∀ {l:List (d8×d8)} {es:List DictEntry} (i:Nat) {e:DictEntry},K7 G w h l es->es[i]?=some e->∃ p,l[i]?=some p/\i8 G h p.1 e.key/\i8 G h p.2 e.val/\e.hash=n6 w p.1:=by
 intro r;induction r with
 | nil=>intro _ i _ e f;cases b5J e;simp at f
 | cons q r ih =>
  intro _ i p e f;replace e:=a3E e;revert e;intro q18;refine C8 q18 λu us q17 a b c e=>?_;clear q18;subst q17;cases i with
  | zero=>simp at f;subst f;exact ⟨q,rfl,a,b,c⟩
  | succ i =>
   simp only [List.getElem?_cons_succ] at f ⊢;exact ih i e f
theorem K7.snoc:∀ {l:List (d8×d8)} {es:List DictEntry} {k x:d8} {e:DictEntry},K7 G w h l es->i8 G h k e.key->i8 G h x e.val->e.hash=n6 w k->K7 G w h (l++[(k,x)]) (es++[e]):=by
 intro r;induction r with
 | nil =>
  intro _ _ _ _ e a b c;cases b5J e;exact K7.cons (t:=[]) a b c rfl
 | cons q r ih =>
  intro _ _ _ _ e a b c;replace e:=a3E e;revert e;intro q20;refine C8 q20 λu us q19 a' b' c' e=>?_;clear q20;subst q19;exact K7.cons a' b' c' (ih e a b c)
theorem K7.modify:∀ {l:List (d8×d8)} {es:List DictEntry} {k x y:d8} {v:Value} (i:Nat),K7 G w h l es->(l.map (·.1)).Nodup->l[i]?=some (k,y)->i8 G h x v ->
  K7 G w h (l.map λp=>if p.1=k then (p.1,x) else p) (es.modify i λe=>{e with val:=v}):=by
 intro r;induction r with
 | nil=>intro _ _ _ _ _ i _ _ f _;simp at f
 | cons q r ih =>
  intro _ k x y v i e nd f a;replace e:=a3E e;revert e;intro q22;refine C8 q22 λu us q21 a' b' c' e=>?_;clear q22;subst q21;simp only [List.map_cons,List.nodup_cons] at nd;cases i with
  | zero =>
   simp at f;subst f;refine b9 (show (u :: us).modify 0 (λe:DictEntry=>{e with val:=v})={u with val:=v} :: us by simp) ?_;refine b9 List.map_cons ?_;refine b9 (if_pos rfl) ?_
   refine K7.cons a' a c' ?_;have:(r.map λp=>if p.1=k then (p.1,x) else p)=r:=by
    conv=>rhs;rw [<- List.map_id r]
    apply List.map_congr_left;intro p hp;rewrite [if_neg];rfl;intro e;exact nd.1 (List.mem_map.mpr ⟨p,hp,e⟩)
   refine b9 this ?_;exact e
  | succ i =>
   simp at f;have hne:¬ q.1=k:=λe=>nd.1 (e▸List.mem_map.mpr ⟨(k,y),c7w f,rfl⟩);refine b9 (show (u :: us).modify (i+1) (λe:DictEntry=>{e with val:=v})=u :: us.modify i (λe:DictEntry=>{e with val:=v}) by simp) ?_;refine b9 List.map_cons ?_;refine b9 (if_neg hne) ?_
   exact K7.cons a' b' c' (ih i e nd.2 f a)
theorem K7.erase:∀ {l:List (d8×d8)} {es:List DictEntry} {k y:d8} (i:Nat),K7 G w h l es->(l.map (·.1)).Nodup->l[i]?=some (k,y) ->
  K7 G w h (a33 l k) (es.eraseIdx i):=by
 intro r;induction r with
 | nil=>intro _ _ _ i _ _ f;simp at f
 | cons q r ih =>
  intro _ k y i e nd f;replace e:=a3E e;revert e;intro q24;refine C8 q24 λu us q23 a' b' c' e=>?_;clear q24;subst q23;simp only [List.map_cons,List.nodup_cons] at nd;cases i with
  | zero =>
   simp at f;subst f;have:a33 ((k,y) :: r) k=r:=by
    unfold a33;refine b9 (List.filter_cons_of_neg (by simp)) ?_;refine I9 (List.filter_eq_self ..) ?_
    intro p hp;simp only [ne_eq,decide_not,Bool.not_eq_eq_eq_not,Bool.not_true,decide_eq_false_iff_not];intro e;exact nd.1 (List.mem_map.mpr ⟨p,hp,e⟩)
   refine b9 this ?_;simpa using e
  | succ i =>
   simp at f;have hne:¬ q.1=k:=λe=>nd.1 (e▸List.mem_map.mpr ⟨(k,y),c7w f,rfl⟩);have:a33 (q :: r) k=q :: a33 r k:=by
    unfold a33;refine b9 (List.filter_cons_of_pos (by simpa using hne)) ?_;rfl
   refine b9 this ?_;refine b9 List.eraseIdx_cons_succ ?_;exact K7.cons a' b' c' (ih i e nd.2 f)
theorem V0 (hn:(l.map (·.1)).Nodup) {i:Nat} {k x:d8} (hx:l[i]?=some (k,x)):s9 l k=some x:=by
 induction l generalizing i with
 | nil=>simp at hx
 | cons q rest ih =>
  rw [List.map_cons,List.nodup_cons] at hn;cases i with
  | zero=>simp at hx;subst hx;simp [s9]
  | succ j =>
   simp at hx;have hne:¬ q.1=k:=λe=>hn.1 (e▸List.mem_map.mpr ⟨(k,x),c7w hx,rfl⟩);have:=ih hn.2 hx;simpa [s9,List.find?_cons,hne] using this
theorem T7 {k:d8} (h:∀ (j:Nat) (x:d8),l[j]?≠some (k,x)):s9 l k=none:=by
 unfold s9;have:(l.find? λp=>decide (p.1=k))=none:=by
  refine I9 (List.find?_eq_none ..) ?_;intro p hp hk;refine eE (List.mem_iff_getElem?.mp hp) λj hj=>?_;have hk':p.1=k:=of_decide_eq_true hk;exact h j p.2 (by refine b9 hj ?_;refine t6 hk' ?_;rfl)
 refine b9 this ?_;rfl
theorem b0S {k x:d8} (h:s9 l k=some x):∃ i:Nat,l[i]?=some (k,x):=by
 unfold s9 at h;refine i9 (Option.map_eq_some_iff.mp h) λp h1 h2=>?_;have h3:=List.find?_some h1;refine eE (List.mem_iff_getElem?.mp (List.mem_of_find?_eq_some h1)) λi hi=>?_;have h3:p.1=k:=of_decide_eq_true h3;exact ⟨i,by refine b9 hi ?_;refine t6 h3 ?_;refine t6 h2 ?_;rfl⟩
theorem b24 {k:d8} (h:s9 l k=none):k∉l.map (·.1):=by
 intro hm;refine i9 (List.mem_map.mp hm) λp hp q27=>?_;subst q27;unfold s9 at h;rw [Option.map_eq_none_iff,List.find?_eq_none] at h;exact h p hp (by simp)
theorem a6d {P:d8->Prop} (k:d8) (a:∀ i,x9 k=0->P (.int i)) (b:∀ i,x9 k=1->P (.str i)) (c:∀ i,x9 k=2->P (.tup i)) (d:x9 k=3->P k):P k:=by
 cases k with
 | int i=>exact a i rfl
 | str i=>exact b i rfl
 | tup i=>exact c i rfl
 | _=>exact d rfl
theorem a0x {k:d8} (hk:x9 k=0):∃ i,k=.int i:=a6d (P:=λk=>∃ i,k=.int i) k (λ_ _=>⟨_,rfl⟩) (λ_ h=>nomatch hk.symm.trans h) (λ_ h=>nomatch hk.symm.trans h) λh=>nomatch hk.symm.trans h
theorem a2H {k:d8} (hk:x9 k=1):∃ i,k=.str i:=a6d (P:=λk=>∃ i,k=.str i) k (λ_ h=>nomatch hk.symm.trans h) (λ_ _=>⟨_,rfl⟩) (λ_ h=>nomatch hk.symm.trans h) λh=>nomatch hk.symm.trans h
theorem b26 {k:d8} (hk:x9 k=2):∃ i,k=.tup i:=a6d (P:=λk=>∃ i,k=.tup i) k (λ_ h=>nomatch hk.symm.trans h) (λ_ h=>nomatch hk.symm.trans h) (λ_ _=>⟨_,rfl⟩) λh=>nomatch hk.symm.trans h
theorem a1m {K:Type} [DecidableEq K] {knd:KeyKind prog w K} {ents:Array DictEntry} {k:d8} {Q:Option Nat->Shared->Prop} {g:d8->K} {κ:Nat}
  (gi:∀ x y,x9 x=κ->x9 y=κ->g x=g y->x=y) (ho:s.heap.get? d=some o) (hd:o.data=.dict ents ep) (he:K7 G w s.heap es ents.toList) (hk:x9 k=κ)
  (rk:i8 G s.heap k v) (hall:∀ p∈es,x9 p.1=κ) (hrep:∀ x u,x9 x=κ->i8 G s.heap x u->knd.is (g x) u=true) (hh:∀ x,x9 x=κ->n6 w x=knd.hash (g x))
  (hnone:(∀ (j:Nat) (x:d8),es[j]?≠some (k,x))->Q none s) (hsome:∀ (j:Nat) (x:d8),es[j]?=some (k,x)->Q (some j) s):wpAny (model prog w) A (dictFind d v (n6 w k)) Q E s:=by
 refine b9 (hh k hk) ?_;refine wpAny_dictFind_of (hrep k v hk rk) ho hd ?_ ?_
 ·intro e he';refine eE (List.mem_iff_getElem?.mp (Array.mem_toList_iff.mpr he')) λj hj=>?_;refine Q2 (he.get' j hj) λp h1 h2 h3 h4=>?_;have hz:=hall p (c7w h1);exact ⟨g p.1,hrep p.1 _ hz h2,by refine b9 h4 ?_;refine b9 (hh _ hz) ?_;rfl⟩
 ·have key:∀ (j:Nat) (e:DictEntry),ents.toList[j]?=some e->(knd.is (g k) e.key=true↔∃ x,es[j]?=some (k,x)):=by
   intro j e hj;refine Q2 (he.get' j hj) λp h1 h2 h3 h4=>?_;have hz:=hall p (c7w h1);have:=hrep p.1 _ hz h2;constructor
   ·intro h;have:=gi _ _ hz hk (knd.inj _ _ _ this h);exact ⟨p.2,by refine b9 h1 ?_;refine t6 this ?_;rfl⟩
   ·rintro ⟨x,hx⟩
    rw [h1] at hx;have q1:=A3 hx;clear hx;subst q1;exact this
  cases hq:ents.findIdx? λe=>knd.is (g k) e.key with
  | none =>
   refine hnone λj x hj=>?_;refine i9 (he.get j hj) λe h1 _=>?_;have:=Array.findIdx?_eq_none_iff.mp hq e (Array.mem_toList_iff.mp (c7w h1));rw [(key j e h1).mpr ⟨x,hj⟩] at this;cases this
  | some j =>
   refine i9 (Array.findIdx?_eq_some_iff_getElem.mp hq) λhlt hp _=>?_;refine eE ((key j ents[j] (by refine b9 Array.getElem?_toList ?_;refine b9 (Array.getElem?_eq_getElem hlt) ?_;rfl)).mp hp) λx hx=>?_
   exact hsome j x hx
theorem a04 {ents:Array DictEntry} {k:d8} {Q:Option Nat->Shared->Prop}
  (hu:A.units+64 < cLine) (hk:B0 es k) (oks:a0j es) (nd:(es.map (·.1)).Nodup) (ho:s.heap.get? d=some o) (hd:o.data=.dict ents ep) (he:K7 G w s.heap es ents.toList) (rk:i8 G s.heap k v)
  (hnone:(∀ (j:Nat) (x:d8),es[j]?≠some (k,x))->Q none s) (hsome:∀ (j:Nat) (x:d8),es[j]?=some (k,x)->Q (some j) s):wpAny (model prog w) A (dictFind d v (n6 w k)) Q E s:=by
 refine eA hk λkv kinds=>?_;clear hk;have cases3:x9 k=0\/x9 k=1\/x9 k=2:=by
  rcases a0Q kv with ⟨_,rfl⟩ | ⟨_,rfl⟩ | ⟨_,rfl⟩
  ·exact .inl rfl
  ·exact .inr (.inl rfl)
  ·exact .inr (.inr rfl)
 rcases cases3 with h | h | h
 ·refine a1m (knd:=PySem.intKind prog w) (κ:=0) (g:=λx=>match x with | .int i=>i | _=>0) ?_ ho hd he h rk (λp hp=>(kinds p hp).trans h) ?_ ?_ hnone hsome
  ·intro x y hx hy e;refine eE (a0x hx) λi q5=>?_;subst q5;refine eE (a0x hy) λj q6=>?_;subst q6;exact congrArg d8.int e
  ·intro x u hx r;refine eE (a0x hx) λi q7=>?_;subst q7;replace r:=N0 r;refine eE r λt q2=>?_;clear r;subst q2;show Value.isInt i (.int i t)=true;simp [Value.isInt]
  ·intro x hx;refine eE (a0x hx) λi q8=>?_;subst q8;rfl
 ·refine a1m (knd:=PySem.strKind prog w) (κ:=1) (g:=λx=>match x with | .str i=>Str.ofString i | _=>Str.ofString "") ?_ ho hd he h rk (λp hp=>(kinds p hp).trans h) ?_ ?_ hnone hsome
  ·intro x y hx hy e;refine eE (a2H hx) λi q9=>?_;subst q9;refine eE (a2H hy) λj q10=>?_;subst q10;exact congrArg d8.str (a0Y e)
  ·intro x u hx r;refine eE (a2H hx) λi q11=>?_;subst q11;replace r:=a1h r;refine eE r λt q3=>?_;clear r;subst q3;show Value.isStrOf (Str.ofString i) (.str (Str.ofString i) t)=true;simp [Value.isStrOf]
  ·intro x hx;refine eE (a2H hx) λi q12=>?_;subst q12;rfl
 ·have tup:∀ x:d8,x9 x=2->∀ u,i8 G s.heap x u->∃ a,u=.ref a:=by
   intro x hx u r;refine eE (b26 hx) λl q13=>?_;subst q13;replace r:=Y0 r;refine A6 r λa _ q4 _=>?_;clear r;subst q4;exact ⟨a,rfl⟩
  refine eE (tup k h v rk) λa q14=>?_;subst q14;have keyref:∀ e∈ents.toList,∃ a,e.key=.ref a:=by
   intro e he';refine eE (List.mem_iff_getElem?.mp he') λj hj=>?_;refine Q2 (he.get' j hj) λp h1 h2 h3 h4=>?_;exact tup p.1 ((kinds p (c7w h1)).trans h) _ h2
  have mk:∀ (l:List (d8×d8)) (es:List DictEntry),K7 G w s.heap l es->(∀ p∈l,B8 7 p.1=true/\x9 p.1=2)->∃ xs:List (d8×Addr×Value),es=xs.map (entryOfKey (kk prog w G))/\xs.map (·.1)=l.map (·.1)/\(∀ x∈xs,kIs G s.heap x.1 x.2.1):=by
   intro l;induction l with
   | nil=>intro es e _;cases b5J e;exact ⟨[],rfl,rfl,by simp⟩
   | cons p l ih =>
    intro es e hp;replace e:=a3E e;revert e;intro q26;refine C8 q26 λu us q25 a1 a2 a3 e=>?_;clear q26;subst q25;refine B2 (ih us e λq hq=>hp q (List.mem_cons_of_mem _ hq)) λxs h1 h2 h3=>?_;refine eA (hp p List.mem_cons_self) λk1 k2=>?_;refine eE (tup p.1 k2 _ a1) λb hb=>?_;refine ⟨(p.1,b,u.val) :: xs,?_,by simp [h2],?_⟩
    ·refine b9 List.map_cons ?_;refine t6 h1 ?_
     congr 1
     obtain ⟨uh,uk,uv⟩:=u;simp only at hb a3;subst hb a3;rfl
    ·intro x hx;rcases List.mem_cons.mp hx with rfl | hx
     ·exact ⟨k1,hb▸a1⟩
     ·exact h3 x hx
  refine B2 (mk es ents.toList he λp hp=>⟨oks.1 p hp,(kinds p hp).trans h⟩) λxs h1 h2 h3=>?_;have conv:∀ j:Nat,(∃ p,xs[j]?=some (k,p))↔∃ x,es[j]?=some (k,x):=by
   intro j;have:(xs.map (·.1))[j]?=(es.map (·.1))[j]?:=by refine b9 h2 ?_;rfl
   simp only [List.getElem?_map] at this;constructor
   ·rintro ⟨p,hp⟩
    rw [hp] at this;cases q:es[j]? with
    | none=>rw [q] at this;cases this
    | some y=>rw [q] at this;injection this with this;exact ⟨y.2,by refine b9 (show k=y.1 from this) ?_;rfl⟩
   ·rintro ⟨x,hx⟩
    rw [hx] at this;cases q:xs[j]? with
    | none=>rw [q] at this;cases this
    | some y=>rw [q] at this;injection this with this;exact ⟨y.2,by refine b9 (show k=y.1 from this.symm) ?_;rfl⟩
  refine wpAny_dictFind_heap (knd:=kk prog w G) (xs:=xs) hu ⟨kv,rk⟩ ho hd h1 h3 (h2▸nd) (λhn=>hnone λj x hj=>?_) (λj p hj=>?_)
  ·refine eE ((conv j).mpr ⟨x,hj⟩) λp hp=>?_
   exact hn j p hp
  ·refine eE ((conv j).mp ⟨p,hj⟩) λx hx=>?_
   exact hsome j x hx
end
end
variable {ents:Array PySem.DictEntry}
section
open PySem PySem.W PyProof.Rows PySem.Calls PySem.SeqAt
open Classical
section
variable {prog:Program} {w:World} {G:Gi} {A:Around} {E:Value->Shared->Prop} {s:Shared} {H:Hp} {d:Addr} {es:List (d8×d8)} {ep:Nat} {k:d8} {v:Value}
theorem a7z {x:d8} (ok:a0j es) (hk:B0 es k):a0j (es++[(k,x)]):=by
 refine ⟨λp hp=>?_,λp hp q hq=>?_⟩
 ·rcases List.mem_append.mp hp with h | h
  ·exact ok.1 p h
  ·simp only [List.mem_singleton] at h;subst h;exact hk.1
 ·rcases List.mem_append.mp hp with h | h <;> rcases List.mem_append.mp hq with h' | h'
  ·exact ok.2 p h q h'
  ·simp only [List.mem_singleton] at h';subst h';exact hk.2 p h
  ·simp only [List.mem_singleton] at h;subst h;exact (hk.2 q h').symm
  ·simp only [List.mem_singleton] at h h';subst h h';rfl
theorem a4G {fs:List (d8×d8)} (ok:a0j es) (h:∀ p∈fs,∃ q∈es,q.1=p.1):a0j fs:=by
 refine ⟨λp hp=>?_,λp hp q hq=>?_⟩
 ·refine i9 (h p hp) λq h1 h2=>?_;refine t6 h2 ?_;exact ok.1 q h1
 ·refine i9 (h p hp) λp' h1 h2=>?_;refine i9 (h q hq) λq' h3 h4=>?_;refine t6 h2 ?_;refine t6 h4 ?_;exact ok.2 _ h1 _ h3
theorem b2h {x:d8}:(es.map λp=>if p.1=k then (p.1,x) else p).map (·.1)=es.map (·.1):=by
 refine b9 List.map_map ?_;apply List.map_congr_left;intro p _;show (if p.1=k then (p.1,x) else p).1=p.1
 split <;> rfl
theorem a8T {x:d8} (ok:a0j es):a0j (es.map λp=>if p.1=k then (p.1,x) else p):=by
 refine a4G ok λp hp=>?_;refine i9 (List.mem_map.mp hp) λq h1 q3=>?_;subst q3;exact ⟨q,h1,by split <;> rfl⟩
theorem a3l (hu:A.units+64 < cLine) (R:w6 G w H s.heap) (hd:H d=some (.dict es ep)) (hk:B0 es k) (rk:i8 G s.heap k v) {Q:Option Value->Shared->Prop}
  (hnone:s9 es k=none->Q none {s with toks:=s.toks+J1 k}) (hsome:∀ x u,s9 es k=some x->i8 G s.heap x u->Q (some u) {s with toks:=s.toks+J1 k}) :
  wpAny (model prog w) A (dictGet d v) Q E s:=by
 refine a0G (R.objs _ _ hd) λnd ok ents ho he=>?_;unfold dictGet
 try with_reducible refine wpAny_holding ?_
 refine c7t (a0L (G:=G) 7 k hk.1 A E s v _ (b3O hu) rk (c7t (a04 (s:={s with toks:=s.toks+J1 k}) hu hk ok nd ho rfl he rk (λhn=>?_) (λj x hj=>?_))))
 ·exact c7u (hnone (T7 hn))
 ·refine c7t (wpAny_dictEntries (s:={s with toks:=s.toks+J1 k}) ho rfl (c7u ?_))
  refine Q2 (he.get j hj) λe h1 h2 h3 h4=>?_;refine t6 Array.getElem?_toList ?_;refine b9 h1 ?_;exact hsome x e.val (V0 nd hj) h3
theorem a8u (h:∀ (j:Nat) (x:d8),l[j]?≠some (k,x)):dep l k ep=ep+1:=by unfold dep;refine b9 (T7 h) ?_;simp
theorem a7I (h:∀ (j:Nat) (x:d8),l[j]?≠some (k,x)):C6 l k=λx=>l++[(k,x)]:=by
 funext x;unfold C6;refine b9 (T7 h) ?_;simp
theorem a2h {x:d8} (R:w6 G w H h) (hd:H d=some (.dict es ep)) (hk:B0 es k) (nd:(es.map (·.1)).Nodup) (ok:a0j es) (ho:h.get? d=some {cls:=.type "dict",data:=.dict ents ep}) (he:K7 G w h es ents.toList)
  (rk:i8 G h k v) (rx:i8 G h x u) (hn:s9 es k=none):w6 G w (H.set d (.dict (es++[(k,x)]) (ep+1))) (h.update d (Obj.mapDictKeys (·.push ⟨n6 w k,v,u⟩)))/\Ext N8 H h (H.set d (.dict (es++[(k,x)]) (ep+1))) (h.update d (Obj.mapDictKeys (·.push ⟨n6 w k,v,u⟩))):=by
 refine R.update hd (Heap.SameBut.update ..) λtup=>⟨?_,a7z ok hk,_,Heap.get?_update_self _ ho rfl,?_⟩
 ·refine b9 List.map_append ?_;refine I9 (List.nodup_append ..) ?_;refine ⟨nd,by simp,?_⟩
  intro a ha b hb;simp only [List.map_cons,List.map_nil,List.mem_singleton] at hb;subst hb;exact λe=>b24 hn (e▸ha)
 ·refine b9 Array.toList_push ?_;exact (he.mono tup).snoc (rk.mono tup) (rx.mono tup) rfl
theorem a6u {x y:d8} {j:Nat} (R:w6 G w H h) (hd:H d=some (.dict es ep)) (nd:(es.map (·.1)).Nodup) (ok:a0j es) (ho:h.get? d=some {cls:=.type "dict",data:=.dict ents ep}) (he:K7 G w h es ents.toList)
  (rx:i8 G h x u) (hj:es[j]?=some (k,y)):w6 G w (H.set d (.dict (C6 es k x) (dep es k ep))) (h.update d (Obj.mapDict (·.modify j λe=>{e with val:=u})))/\Ext N8 H h (H.set d (.dict (C6 es k x) (dep es k ep))) (h.update d (Obj.mapDict (·.modify j λe=>{e with val:=u}))):=by
 have e:C6 es k x=es.map λp=>if p.1=k then (p.1,x) else p:=by unfold C6;refine b9 (V0 nd hj) ?_;rfl
 have e':dep es k ep=ep:=by unfold dep;refine b9 (V0 nd hj) ?_;rfl
 refine b9 e ?_;refine b9 e' ?_;refine R.update hd (Heap.SameBut.update ..) λtup=>⟨?_,a8T ok,_,Heap.get?_update_self _ ho rfl,?_⟩
 ·refine b9 b2h ?_;exact nd
 ·have:=(he.mono tup).modify j nd hj (rx.mono tup);obtain ⟨l⟩:=ents;simpa using this
theorem a5H (hu:A.units+64 < cLine) (R:w6 G w H s.heap) (hd:H d=some (.dict es ep)) (hk:B0 es k) (rk:i8 G s.heap k v) {x:d8} (rx:i8 G s.heap x u) (hz:es.length<=o5) {Q:Unit->Shared->Prop}
  (q:∀ s',k9 G w N8 H s (H.set d (.dict (C6 es k x) (dep es k ep))) s'->Q () s'):wpAny (model prog w) A (dictSet d v u) Q E s:=by
 refine a0G (R.objs _ _ hd) λnd ok ents ho he=>?_;have hsz:ents.size<=sizeLine:=by refine t6 Array.length_toList ?_;refine t6 he.length ?_;refine b9 sizeLine_eq ?_;unfold o5 at hz;exact zo7 hz
 unfold dictSet
 try with_reducible refine wpAny_holding ?_
 refine c7t (a0L (G:=G) 7 k hk.1 A E s v _ (b3O hu) rk ?_);unfold dictSetHashed
 try with_reducible refine wpAny_holding ?_
 refine c7t (a04 (s:={s with toks:=s.toks+J1 k}) hu hk ok nd ho rfl he rk (λhn=>?_) (λj y hj=>?_))
 ·refine c7t (wpAny_rule (wpAny_updateDictKeys (hz:=hsz) (s:={s with toks:=s.toks+J1 k}) ho rfl ?_))
  have:=a2h (x:=x) R hd hk nd ok ho he rk rx (T7 hn);rw [a7I hn,a8u hn] at q;exact q _ ⟨this.1,this.2,rfl,rfl⟩
 ·refine c7t (wpAny_rule (c7t (wpAny_updateDict (s:={s with toks:=s.toks+J1 k}) ho rfl (wpAny_point ?_))))
  have:=a6u (x:=x) R hd nd ok ho he rx hj;exact q _ ⟨this.1,this.2,rfl,rfl⟩
theorem a3r (hu:A.units+64 < cLine) (R:w6 G w H s.heap) (hd:H d=some (.dict es ep)) (hk:B0 es k) (rk:i8 G s.heap k v) {x:d8} (rx:i8 G s.heap x u) (hz:es.length<=o5) {Q:Value->Shared->Prop}
  (q1:∀ y u' s',s9 es k=some y->i8 G s.heap y u'->k9 G w N8 H s H s'->Q u' s')
  (q2:∀ s',s9 es k=none->k9 G w N8 H s (H.set d (.dict (es++[(k,x)]) (ep+1))) s'->Q u s'):wpAny (model prog w) A (dictSetDefault d v u) Q E s:=by
 refine a0G (R.objs _ _ hd) λnd ok ents ho he=>?_;have hsz:ents.size<=sizeLine:=by refine t6 Array.length_toList ?_;refine t6 he.length ?_;refine b9 sizeLine_eq ?_;unfold o5 at hz;exact zo7 hz
 unfold dictSetDefault
 try with_reducible refine wpAny_holding ?_
 refine c7t (a0L (G:=G) 7 k hk.1 A E s v _ (b3O hu) rk ?_);refine c7t (a04 (s:={s with toks:=s.toks+J1 k}) hu hk ok nd ho rfl he rk (λhn=>?_) (λj y hj=>?_))
 ·refine c7t (wpAny_rule (c7t (wpAny_updateDictKeys (hz:=hsz) (s:={s with toks:=s.toks+J1 k}) ho rfl (c7u ?_))))
  have:=a2h (x:=x) R hd hk nd ok ho he rk rx (T7 hn);exact q2 _ (T7 hn) ⟨this.1,this.2,rfl,rfl⟩
 ·refine c7t (wpAny_dictEntries (s:={s with toks:=s.toks+J1 k}) ho rfl ?_)
  refine Q2 (he.get j hj) λe h1 h2 h3 h4=>?_;refine t6 Array.getElem?_toList ?_;refine b9 h1 ?_;exact c7t (wpAny_rule (c7u (q1 y _ _ (V0 nd hj) h3 (.toks R))))
theorem a5Y (hu:A.units+64 < cLine) (R:w6 G w H s.heap) (hd:H d=some (.dict es ep)) (hk:B0 es k) (rk:i8 G s.heap k v) (hz:es.length<=o5) {y:d8} (hy:s9 es k=some y) {Q:Option DictEntry->Shared->Prop}
  (q:∀ e s',i8 G s.heap y e.val->k9 G w N8 H s (H.set d (.dict (a33 es k) (ep+1))) s'->Q (some e) s'):wpAny (model prog w) A (Builtin.Dict.takeOut d v) Q E s:=by
 refine a0G (R.objs _ _ hd) λnd ok ents ho he=>?_;have hsz:ents.size<=sizeLine:=by refine t6 Array.length_toList ?_;refine t6 he.length ?_;refine b9 sizeLine_eq ?_;unfold o5 at hz;exact zo7 hz
 unfold Builtin.Dict.takeOut
 try with_reducible refine wpAny_holding ?_
 refine c7t (a0L (G:=G) 7 k hk.1 A E s v _ (b3O hu) rk ?_);refine c7t (a04 (s:={s with toks:=s.toks+J1 k}) hu hk ok nd ho rfl he rk (λhn=>?_) (λj y' hj=>?_))
 ·rw [T7 hn] at hy;cases hy
 ·have:=V0 nd hj;rw [hy] at this;have q2:=A3 this;clear this;subst q2;refine c7t (wpAny_dictEntries (s:={s with toks:=s.toks+J1 k}) ho rfl ?_)
  refine Q2 (he.get j hj) λe h1 h2 h3 h4=>?_;refine t6 Array.getElem?_toList ?_;refine b9 h1 ?_;refine c7t (wpAny_updateDictKeys (hz:=hsz) (s:={s with toks:=s.toks+J1 k}) ho rfl (c7u ?_))
  have:=R.update (h':=s.heap.update d (Obj.mapDictKeys (·.eraseIdxIfInBounds j))) (mo':=.dict (a33 es k) (ep+1)) hd (Heap.SameBut.update ..) λtup=>⟨?_,?_,_,Heap.get?_update_self _ ho rfl,?_⟩
  ·exact q e _ h3 ⟨this.1,this.2,rfl,rfl⟩
  ·exact List.Sublist.nodup (List.Sublist.map _ List.filter_sublist) nd
  ·exact a4G ok λp hp=>⟨p,(List.mem_filter.mp hp).1,rfl⟩
  ·have:=(he.mono tup).erase j nd hj;obtain ⟨l⟩:=ents;simpa using this
theorem Q7 (R:w6 G w H s.heap) (hd:H d=some (.dict es ep)):s.TypeIs (.ref d) "dict":=let ⟨_,_,_,ho,_⟩:=R.objs _ _ hd;⟨_,ho,rfl⟩
theorem a8D (g:Gk G) (hu:A.units+65 < cLine) (R:w6 G w H s.heap) (hd:H d=some (.dict es ep)) (hk:B0 es k) (rk:i8 G s.heap k v) {Q:Bool->Shared->Prop} (h:Q (s9 es k).isSome {s with toks:=s.toks+J1 k}) :
  wpAny (model prog w) A (contains (.ref d) v) Q E s:=by
 have hT:=Q7 R hd;unfold contains
 try with_reducible refine wpAny_holding ?_
 refine c7t (wpAny_specialOf hT slot_dict_contains.lookup ?_);show wpAny _ _ (if (some (Value.builtin "dict.__contains__")==some Value.none)=true then _ else _) _ E s
 refine b9 (if_neg (by refine b9 (beq_builtin_none ..) ?_;exact Bool.false_ne_true)) ?_
 refine c7t (wpAny_callSpecialUnlessNone?_slot (name:=Str.ofString "__contains__") hT slot_dict_contains
  (wpAny_call_entry slot_dict_contains hT entry_dict_contains ?_ (args_dict_contains _ _)))
 show wpAny _ _ (dictGet d v>>=_) _ _ s;refine c7t (a3l (by show A.units+1+64 < cLine;exact b4Q hu) R hd hk rk (λhn=>?_) λx u hx rx=>?_)
 ·rw [hn] at h;show wpAny _ _ (Builtin.Dict.pendingKey? d v>>=_) _ _ _;exact c7t (wpAny_pendingKey_other (R.sysm g hd) (c7u ⟨_,rfl,wpAny_truthy_bool h⟩))
 ·rw [hx] at h;show wpAny _ _ (ret (.bool true)) _ _ _;exact c7u ⟨_,rfl,wpAny_truthy_bool h⟩
theorem b0L (hu:A.units+65 < cLine) (R:w6 G w H s.heap) (hd:H d=some (.dict es ep)) (hk:B0 es k) (rk:i8 G s.heap k v) {x:d8} (hx:s9 es k=some x) {Q:Value->Shared->Prop}
  (h:∀ u,i8 G s.heap x u->Q u {s with toks:=s.toks+J1 k}):wpAny (model prog w) A (getItem (.ref d) v) Q E s:=by
 have hT:=Q7 R hd;unfold getItem
 try with_reducible refine wpAny_holding ?_
 refine c7t (wpAny_sequenceKey hT (by decide) ?_)
 refine c7t (wpAny_callSpecial?_slot (name:=Str.ofString "__getitem__") hT slot_dict_getitem
  (wpAny_call_entry slot_dict_getitem hT entry_dict_getitem ?_ (args_dict_getitem _ _)))
 show wpAny _ _ (dictGet d v>>=_) _ _ s;refine c7t (a3l (by show A.units+1+64 < cLine;exact b4Q hu) R hd hk rk (λhn=>?_) λx' u hx' rx=>?_)
 ·rw [hn] at hx;cases hx
 ·rw [hx] at hx';have q1:=A3 hx';clear hx';subst q1;exact c7u ⟨u,rfl,c7u (h u rx)⟩
theorem b0X (hu:A.units+65 < cLine) (R:w6 G w H s.heap) (hd:H d=some (.dict es ep)) (hk:B0 es k) (rk:i8 G s.heap k v) {x:d8} (rx:i8 G s.heap x u) (hz:es.length<=o5) {Q:Unit->Shared->Prop}
  (q:∀ s',k9 G w N8 H s (H.set d (.dict (C6 es k x) (dep es k ep))) s'->Q () s'):wpAny (model prog w) A (setItem (.ref d) v u) Q E s:=by
 have hT:=Q7 R hd;unfold setItem
 try with_reducible refine wpAny_holding ?_
 refine c7t (wpAny_sequenceKey hT (by decide) ?_)
 refine c7t (wpAny_callSpecial?_slot (name:=Str.ofString "__setitem__") hT slot_dict_setitem
  (wpAny_call_entry slot_dict_setitem hT entry_dict_setitem ?_ (args_dict_setitem _ _ _)))
 show wpAny _ _ (Builtin.Dict.notOrdered "__setitem__" ⟨[.ref d,v,u],[]⟩>>=_) _ _ s;refine c7t (wpAny_notOrdered_dict hT ?_);show wpAny _ _ (dictSet d v u>>=_) _ _ s;exact c7t (a5H (by show A.units+1+64 < cLine;exact b4Q hu) R hd hk rk rx hz λs' st=>c7u ⟨.none,rfl,c7u (q s' st)⟩)
end
end
variable {l:List d8}
section
open PySem PySem.W PyProof.Rows PySem.Calls PySem.SeqAt
open Classical
section
variable {prog:Program} {w:World} {G:Gi} {n m:Nat}
theorem a9u:∀ (xs:List d8) (v:d8),a1F xs=true->a1H v=true->(W7 xs).any (λy=>PyData.eqv y (toD v))=decide (v∈xs):=by
 intro r;induction r with
 | nil=>exact λv _ _=>(decide_eq_false List.not_mem_nil).symm
 | cons x r ih =>
  intro v h hv;have h:=D9 h;show (PyData.eqv (toD x) (toD v)||(W7 r).any _)=_
  refine b9 (ih v h.2 hv) ?_;refine I9 (Bool.eq_iff_iff ..) ?_;refine b9 (Bool.or_eq_true ..) ?_;refine I9 ((a20 20).1 x v h.1 hv ..) ?_;refine I9 (decide_eq_true_iff ..) ?_;refine I9 (decide_eq_true_iff ..) ?_;refine I9 (List.mem_cons ..) ?_;exact or_congr ⟨Eq.symm,Eq.symm⟩ Iff.rfl
theorem c5R (g:Gk G) (A:Around) (s:Shared) (H:Hp) (v u:Value) (p q:d8) (Q:Bool->Hp->Prop) (al:V2 n m A) (R:w6 G w H s.heap) (rp:i8 G s.heap p v) (rq:i8 G s.heap q u) (h:inW p q H Q) :
  wpAny (model prog w) A (compareOp .In v u) (V6 G w b4q H s Q) z5 s:=by
 have hu:A.units+65 < cLine:=by have:=al.units;exact b3j this
 rcases h with ⟨b,c,rfl,c1,c2,rfl,h⟩ | ⟨l,rfl,h1,h2,h⟩ | ⟨a,xs,rfl,e,h1,h2,h⟩ | ⟨a,es,ep,rfl,e,h1,h⟩
 ·replace rp:=a1h rp;replace rq:=a1h rq;refine eE rp λt q4=>?_;clear rp;subst q4;refine eE rq λt' q8=>?_;clear rq;subst q8;have e1:Str.ofString (String.singleton c)=⟨#[c.toNat]⟩:=by
   refine b9 (r9 ..) ?_;simp
  have e2:(!(Builtin.Str.occurrences (Str.ofString b) (Str.ofString (String.singleton c)) 0 (Str.ofString b).length 1).isEmpty)=b.toList.contains c:=by
   refine b9 e1 ?_;refine b9 (StrLaws.found_one ..) ?_;refine b9 (r9 ..) ?_;refine I9 (Bool.eq_iff_iff ..) ?_;refine I9 (decide_eq_true_iff ..) ?_;refine I9 (List.contains_iff_mem ..) ?_;simp only [List.mem_map];exact ⟨λ⟨x,hx,e⟩=>Char.toNat_inj.mp e▸hx,λhx=>⟨c,hx,rfl⟩⟩
  refine PySem.P.in_str ?_;refine b9 e2 ?_;exact ⟨_,H,rfl,.refl R,h⟩
 ·replace rq:=Y0 rq;revert rq;intro q19;refine k8 q19 λa vs q17 q18 rq=>?_;clear q19;subst q17;refine S8 q18 λo ho hc z hd=>?_;clear q18;refine eE ((O7 20).2 l _ h2 rq) λas q1=>?_;refine eE ((O7 20).1 p _ h1 rp) λbs q2=>?_;refine eA ((G9 20).2 l h2) λl1 d1=>?_;refine eA ((G9 20).1 p h1) λl2 d2=>?_;have hu2:A.units+1+min (PyData.depthAll (W7 l)) (toD p).depth < cLine:=by
   have:=Nat.min_le_left (PyData.depthAll (W7 l)) (toD p).depth;exact b6r hu d1
  have rc:=Reads.tuple (xs:=W7 l) ho hc hd q1;exact in_tuple_reads rc q2 l1 l2 hu2 (by refine b9 (a9u l p h2 h1) ?_;exact ⟨_,H,rfl,.refl R,h⟩)
 ·replace rq:=R4 rq;subst rq;refine A6 (R.objs _ _ e) λvs z ho rq=>?_;refine eE ((O7 20).2 xs _ h2 rq) λas q1=>?_;refine eE ((O7 20).1 p _ h1 rp) λbs q2=>?_;refine eA ((G9 20).2 xs h2) λl1 d1=>?_;refine eA ((G9 20).1 p h1) λl2 d2=>?_;have hu2:A.units+1+min (PyData.depthAll (W7 xs)) (toD p).depth < cLine:=by
   have:=Nat.min_le_left (PyData.depthAll (W7 xs)) (toD p).depth;exact b6r hu d1
  have rc:=Reads.list (xs:=W7 xs) ho rfl rfl q1;exact in_list_reads rc q2 l1 l2 hu2 (by refine b9 (a9u xs p h2 h1) ?_;exact ⟨_,H,rfl,.refl R,h⟩)
 ·replace rq:=R4 rq;subst rq;exact c7t (a8D g hu R e h1 rp (c7u ⟨_,H,rfl,.toks R,h⟩))
theorem a4t {x:d8} (r:i8 G h x v):handedIn v=true/\(v==Value.none)=decide (x=.none):=by
 have no:∀ {u:Value},x≠.none->handedIn u=true->(u==Value.none)=false->handedIn u=true/\(u==Value.none)=decide (x=.none):=λh1 h2 h3=>⟨h2,h3.trans (decide_eq_false h1).symm⟩;cases x with
 | none=>cases a9H r;exact ⟨rfl,by simp⟩
 | bool b=>cases a9I r;exact no (λe=>nomatch e) rfl (by simp)
 | int i=>refine eE (N0 r) λ_ q11=>?_;subst q11;exact no (λe=>nomatch e) rfl (by simp)
 | str s=>refine eE (a1h r) λ_ q12=>?_;subst q12;exact no (λe=>nomatch e) rfl (by simp)
 | tup l=>refine A6 (Y0 r) λ_ _ q13 _=>?_;subst q13;exact no (λe=>nomatch e) rfl (by simp)
 | ref a=>cases R4 r;exact no (λe=>nomatch e) rfl (by simp)
 | fz l=>refine eA (vfz r) λq10 _=>?_;subst q10;exact no (λe=>nomatch e) rfl (by simp)
theorem b84 (A:Around) (s:Shared) (H:Hp) (v u:Value) (p q:d8) (Q:Bool->Hp->Prop) (R:w6 G w H s.heap) (rp:i8 G s.heap p v) (rq:i8 G s.heap q u) (h:isW p q H Q) :
  wpAny (model prog w) A (compareOp .Is v u) (V6 G w b4q H s Q) z5 s:=by
 revert h;intro q3;refine eA q3 λq2 h=>?_;clear q3;subst q2;replace rq:=a9H rq;subst rq;have e:=(a4t rp).2;exact is_none_gen (by refine b9 e ?_;exact ⟨_,H,rfl,.refl R,h⟩)
theorem a8x {A:Around} {p q:d8} {f:Int->Int->Bool} {Q:Bool->Hp->Prop} {C:Prop} (rp:i8 G s.heap p v) (rq:i8 G s.heap q u) (h:b5Y p q H f Q)
  (k:∀ i t j t',v=.int i t->u=.int j t'->Q (f i j) H->C):C:=by
 revert h;intro q16;refine k8 q16 λi j q14 q15 h=>?_;clear q16;subst q14;subst q15;replace rp:=N0 rp;replace rq:=N0 rq;refine eE rp λt q5=>?_;clear rp;subst q5;refine eE rq λt' q9=>?_;clear rq;subst q9;exact k _ _ _ _ rfl rfl h
theorem a8e (g:Gk G):a7a prog w G n m:=by
 intro op o A s H v u p q Q ho al R rp rq h;have hu:A.units+65 < cLine:=by have:=al.units;exact b3j this
 cases op <;> cases ho
 ·revert h;intro q6;refine i9 q6 λb e h=>?_;clear q6;exact (b2n g R hu rp rq e).1 _ _ _ _ ⟨_,H,rfl,.refl R,h⟩
 ·revert h;intro q7;refine i9 q7 λb e h=>?_;clear q7;exact (b2n g R hu rp rq e).2 _ _ _ _ ⟨_,H,rfl,.refl R,h⟩
 ·exact a8x (A:=A) rp rq h λ_ _ _ _ e1 e2 h=>by subst e1 e2;exact wpAny_lt_int ⟨_,H,rfl,.refl R,h⟩
 ·exact a8x (A:=A) rp rq h λ_ _ _ _ e1 e2 h=>by subst e1 e2;exact le_int ⟨_,H,rfl,.refl R,h⟩
 ·exact a8x (A:=A) rp rq h λ_ _ _ _ e1 e2 h=>by subst e1 e2;exact gt_int ⟨_,H,rfl,.refl R,h⟩
 ·exact b84 A s H v u p q Q R rp rq h
 ·exact c5R g A s H v u p q Q al R rp rq h
end
end
variable {r:En} {must:List PySem.Str}
section
open PySem PySem.W PyProof.Rows PySem.Calls PySem.SeqAt
section
variable {prog:Program} {w:World} {G:Gi} {n m:Nat} {A:Around} {s:Shared} {H:Hp}
theorem a8a (r:l5 G h xs vs.toList):a2e G w (h.push {cls:=.type "list",data:=.seq vs}) h.objs.size (.list xs) :=
 ⟨vs,0,Heap.get?_push_size _ rfl,r.mono λ_ _=>R8⟩
theorem a3B (R:w6 G w H s.heap) (r:l5 G s.heap xs vs.toList) (h:newList xs H Q) :
  V6 G w (i8 G) H s Q (.ref s.heap.objs.size) {s with heap:=s.heap.push {cls:=.type "list",data:=.seq vs},toks:=t} :=
 ⟨.ref _,_,.ref,.alloc R (a8a r),h.2 _ R.fresh⟩
theorem a6w (R:w6 G w H s.heap) (r:l5 G s.heap xs vs.toList) (h:Q (.tup xs) H) :
  V6 G w (i8 G) H s Q (.ref s.heap.objs.size) {s with heap:=s.heap.push {cls:=.type "tuple",data:=.seq vs},toks:=t} :=
 ⟨.tup xs,H,i8.tup (by simpa using IsTup.new s.heap vs) (r.mono λ_ _=>R8),.push R,h⟩
theorem b8e (op:Operator) (o:BOp) (ho:b6t op=some o) (A:Around) (s:Shared) (H:Hp) (v u:Value) (p q:d8) (Q:d8->Hp->Prop) (al:V2 n m A) (R:w6 G w H s.heap) (rp:i8 G s.heap p v) (rq:i8 G s.heap q u) (h:a43 o p q H Q) :
  wpAny (model prog w) A (binaryOp op v u) (V6 G w (i8 G) H s Q) z5 s:=by
 have str_len:∀ a:String,(Str.ofString a).length=a.length:=λa=>by
  refine b9 (r9 ..) ?_;show (a.toList.map Char.toNat).toArray.size=_;refine b9 List.size_toArray ?_;refine b9 (c7x ..) ?_;exact String.length_toList
 cases op <;> cases ho
 ·rcases h with ⟨i,j,rfl,rfl,h⟩ | ⟨a,b,rfl,rfl,hz,h⟩ | ⟨l,r,rfl,rfl,hz,h⟩ | ⟨a,b,xs,ys,rfl,rfl,h1,h2,h⟩
  ·replace rp:=N0 rp;replace rq:=N0 rq;refine eE rp λt q2=>?_;clear rp;subst q2;refine eE rq λt' q6=>?_;clear rq;subst q6;exact P.add_int ⟨_,H,.int,.toks R,h⟩
  ·replace rp:=a1h rp;replace rq:=a1h rq;refine eE rp λt q3=>?_;clear rp;subst q3;refine eE rq λt' q7=>?_;clear rq;subst q7;refine P.add_str ?_;have e:Str.ofString (a++b)=Str.ofString a++Str.ofString b:=by
    refine b9 (r9 ..) ?_;refine b9 (r9 ..) ?_;refine b9 (r9 ..) ?_;refine b9 String.toList_append ?_;refine b9 List.map_append ?_;show _=(⟨_++_⟩:Str);simp
   have nil:∀ a:String,(Str.ofString a).length==0->a="":=λa h=>by
    rw [str_len] at h;have:a.toList=[]:=List.eq_nil_of_length_eq_zero (by simpa using eq_of_beq h)
    exact String.toList_injective (by simpa using this)
   split
   ·rename_i z;have:=nil a z;subst this;exact ⟨.str b,H,.str,.refl R,by simpa using h⟩
   ·split
    ·rename_i z;have:=nil b z;subst this;exact ⟨.str a,H,.str,.refl R,by simpa using h⟩
    ·refine ⟨?_,.str (a++b),H,e▸.str,.toks R,h⟩;refine t6 e ?_;refine b9 (str_len ..) ?_;refine b9 (String.length_append ..) ?_;refine b9 sizeLine_eq ?_;unfold o5 at hz;exact c5K hz
  ·replace rp:=Y0 rp;replace rq:=Y0 rq;refine k8 rp λa vs q13 t1 r1=>?_;clear rp;subst q13;refine k8 rq λb us q14 t2 r2=>?_;clear rq;subst q14;refine S8 (id t1) λq18 ho1 hc k hd=>?_;obtain ⟨cls,dd,data,sl⟩:=q18;refine S8 (id t2) λq19 ho2 hc2 k2 hd2=>?_;obtain ⟨cls2,dd2,data2,sl2⟩:=q19;cases hc;cases hd;cases hc2;cases hd2;have e:vs.toArray++us.toArray=(vs++us).toArray:=by simp
   have n1:=r1.length;have n2:=r2.length;by_cases hv:vs=[]
   ·subst hv;have:l=[]:=List.eq_nil_of_length_eq_zero n1;subst this;exact concat_meets ⟨_,ho1,rfl⟩ ⟨_,ho2,rfl⟩ noFill_tuple_add seq_tuple_add PySem.F.slot_tuple_add PySem.F.entry_tuple_add (PySem.F.args_tuple_add_2 _ _)
     (tuple_addW0 a b _ us.toArray k k2 dd dd2 sl sl2 rfl) ⟨ho1,ho2,.tup r,H,.tup t2 r2,.refl R,h⟩
   ·by_cases hw:us=[]
    ·subst hw;have:r=[]:=List.eq_nil_of_length_eq_zero n2;subst this;exact concat_meets ⟨_,ho1,rfl⟩ ⟨_,ho2,rfl⟩ noFill_tuple_add seq_tuple_add PySem.F.slot_tuple_add PySem.F.entry_tuple_add (PySem.F.args_tuple_add_2 _ _)
      (tuple_addW1 a b vs.toArray _ k k2 dd dd2 sl sl2 (by simpa using hv) rfl) ⟨ho1,ho2,.tup l,H,.tup t1 r1,.refl R,List.append_nil l▸h⟩
    ·refine concat_meets ⟨_,ho1,rfl⟩ ⟨_,ho2,rfl⟩ noFill_tuple_add seq_tuple_add PySem.F.slot_tuple_add PySem.F.entry_tuple_add (PySem.F.args_tuple_add_2 _ _)
      (tuple_addW2 a b vs.toArray us.toArray k k2 dd dd2 sl sl2 (by simpa using hv) (by simpa using hw) (by refine b9 List.size_toArray ?_;refine b9 List.size_toArray ?_;refine b9 sizeLine_eq ?_;unfold o5 at hz;exact b8T hz n1 n2)) ⟨ho1,ho2,?_⟩
     refine b9 e ?_;exact a6w R (r1.append r2) h
  ·replace rp:=R4 rp;replace rq:=R4 rq;subst rp rq;refine A6 (R.objs _ _ h1) λvs k g1 r1=>?_;refine A6 (R.objs _ _ h2) λus k2 g2 r2=>?_;have n1:xs.length=vs.size:=by refine b9 r1.length ?_;refine b9 Array.length_toList ?_;rfl
   have n2:ys.length=us.size:=by refine b9 r2.length ?_;refine b9 Array.length_toList ?_;rfl
   refine P.add_list g1 g2 (a3B R (by refine b9 Array.toList_append ?_;exact r1.append r2) h) ?_
   have:=h.1;rw [List.length_append] at this;refine b9 sizeLine_eq ?_;unfold o5 at this;exact c4h n1 n2 this
 ·revert h;intro q12;refine k8 q12 λi j q10 q11 h=>?_;clear q12;subst q10;subst q11;replace rp:=N0 rp;replace rq:=N0 rq;refine eE rp λt q4=>?_;clear rp;subst q4;refine eE rq λt' q8=>?_;clear rq;subst q8;exact P.sub_int ⟨_,H,.int,.toks R,h⟩
 ·revert h;intro q17;refine I6 q17 λi j q15 q16 hj h=>?_;clear q17;subst q15;subst q16;replace rp:=N0 rp;replace rq:=N0 rq;refine eE rp λt q5=>?_;clear rp;subst q5;refine eE rq λt' q9=>?_;clear rq;subst q9;refine mod_int' (c0y hj) ?_;refine b9 (Int.fmod_eq_emod_of_nonneg _ (b9K hj)) ?_;exact ⟨_,H,.int,.toks R,h⟩
end
section
variable {prog:Program} {w:World} {G:Gi} {n m:Nat} {c:Cx}
theorem a1T {o i:Value} {T id:String} {ops:List Value} {Q:Value->Shared->Prop} (hT:s.TypeIs o T)
  (hl:typeLookup (.type T) "__getitem__"=pure (some (.builtin id))) (h:wpAny (model prog w) A (getItem o i) Q E s)
  (hs:subscripted slice false o i=operate ops (getItem o i)):wpAny (model prog w) A (subscriptTail value slice o i) Q E s:=by
 unfold subscriptTail;refine c7t ?_;refine b9 (getitemInPython_of_ne hT.not_modules) ?_;refine c7t (wpAny_specialOf hT hl ?_);have fin:wpAny (model prog w) A (subscripted slice false o i) (λr s₃=>wpAny (model prog w) A (letTemporaryGo value o r>>=λ_=>pure r) Q E s₃) E s:=by
  refine b9 hs ?_;exact wpAny_operating (wpAny_mono h (λr s₃ h₃=>c7t (wpAny_letTemporaryGo (c7u h₃))) λ_ _ x=>x)
 first
  | exact c7u (c7t fin)
  | exact c7t (c7u (c7t fin))
  | exact c7t fin
theorem a4b (h:a27 slice=false) (o i:Value):subscripted slice false o i=operate [o,i] (getItem o i):=by
 cases slice <;> first | rfl | exact nomatch h
theorem a5X {l u:Option PySem.Expr} {p:Pos} (o i:Value):subscripted (.Slice l u none p) false o i=operate [i,o] (getItem o i):=rfl
theorem a5f {i:Int} {j:Nat} (h:a07 n i=some j):seqIndex? i n=some j/\-(2 ^ 63)<=i/\i < 2 ^ 63/\n<=o5/\j < n:=by
 unfold a07 at h
 split at h
 ·rename_i hn;have hn':=hn;unfold o5 at hn';unfold seqIndex?
  split at h
  ·rename_i hc;have q1:=A3 h;clear h;subst q1;have e:(if i < 0 then i+(n:Int) else i)=i:=if_neg (b8R hc)
   simp only [e];refine ⟨?_,by exact c4C hc,by exact c43 hn' hc,hn,by exact c6l hc⟩
   rw [if_pos];simp;exact c33 hc
  ·split at h
   ·rename_i hc;have q2:=A3 h;clear h;subst q2;have e:(if i < 0 then i+(n:Int) else i)=i+n:=if_pos hc.1
    simp only [e];refine ⟨?_,by exact c2l hn' hc,by exact c6e hc,hn,by exact c1Z hc⟩
    rw [if_pos];simp;exact b99 hc
   ·cases h
 ·cases h
theorem b7x {p q:d8} (hns:a27 slice=false) (al:V2 n m A) (R:w6 G w H s.heap) (rp:i8 G s.heap p v) (rq:i8 G s.heap q u) (h:a8v p q H Q) :
  wpAny (model prog w) A (subscriptTail value slice v u) (V6 G w (i8 G) H s Q) z5 s:=by
 have hu:A.units+65 < cLine:=by have:=al.units;exact b3j this
 rcases h with ⟨x,ch,rest,rfl,rfl,e,_,h⟩ | ⟨xs,k,j,x,hs,rfl,e1,e2,h⟩ | ⟨a,es,ep,x,rfl,e,h1,hx,h⟩
 ·replace rp:=a1h rp;replace rq:=N0 rq;refine eE rp λt q5=>?_;clear rp;subst q5;refine eE rq λt' q7=>?_;clear rq;subst q7;refine a1T (typeIs_str _ _ _) PySem.F.slot_str_getitem.lookup (PySem.P.getItem_str (c:=ch.toNat) (by decide) ?_ ?_) (a4b hns _ _)
  ·refine b9 (r9 ..) ?_;refine b9 e ?_;show ((seqIndex? 0 (List.map Char.toNat (ch :: rest)).toArray.size).bind λi=>(List.map Char.toNat (ch :: rest)).toArray[i]?)=_;unfold seqIndex?;simp
  ·refine ⟨.str (String.singleton ch),H,?_,.toks R,h⟩;exact a6Y ch▸.str
 ·refine a3R (a5f e1) λg1 g2 g3 g4 g5=>?_;rcases hs with rfl | ⟨a,rfl,e⟩
  ·replace rp:=Y0 rp;replace rq:=N0 rq;refine k8 rp λa vs q16 t1 r1=>?_;clear rp;subst q16;refine eE rq λt' q8=>?_;clear rq;subst q8;refine i9 (r1.get j e2) λy h1 h2=>?_;refine a1T t1.typeIs slot_tuple_getitem.lookup (getItem_tuple t1 g2 g3 ?_ (by simpa using h1) ⟨x,H,h2,.refl R,h⟩) (a4b hns _ _)
   refine b9 List.size_toArray ?_;refine t6 r1.length ?_;exact g1
  ·replace rp:=R4 rp;replace rq:=N0 rq;subst rp;refine eE rq λt' q9=>?_;clear rq;subst q9;refine A6 (R.objs _ _ e) λvs z ho r1=>?_;have hl:s.heap.IsList a vs:=⟨_,ho,rfl,_,rfl⟩;refine i9 (r1.get j e2) λy h1 h2=>?_;have n1:xs.length=vs.size:=by refine b9 r1.length ?_;refine b9 Array.length_toList ?_;rfl
   refine a1T hl.typeIs list_getitem_lookup ?_ (a4b hns _ _);rw [Array.getElem?_toList] at h1;unfold a07 at e1;rw [if_pos g4] at e1;by_cases hc:0<=k/\k < xs.length
   ·rw [if_pos hc] at e1;have q3:=A3 e1;clear e1;subst q3;exact wpAny_getItem_list hl hc.1 g3 h1 ⟨x,H,h2,.refl R,h⟩
   ·rw [if_neg hc] at e1;by_cases hc:k < 0/\-(xs.length:Int)<=k
    ·rw [if_pos hc] at e1;have q4:=A3 e1;clear e1;subst q4;exact wpAny_getItem_list_neg hl hc.1 (c32 n1 hc) g2 (by refine t6 n1 ?_;exact h1) ⟨x,H,h2,.refl R,h⟩
    ·rw [if_neg hc] at e1;cases e1
 ·replace rp:=R4 rp;subst rp;exact a1T (Q7 R e) slot_dict_getitem.lookup (b0L hu R e h1 rq hx λy r=>⟨x,H,r,.toks R,h⟩) (a4b hns _ _)
theorem b7Q {a b:PySem.Expr} {x y:Ev} (hns:a27 b=false) (ha:SE prog w G n m c a x) (hb:SE prog w G n m c b y):SE prog w G n m c (.Subscript a b pos) (l6 x y):=λA s H r env Q al R F q=>by
 refine Subscript_ (j8 (ha A s H r env _ al R F q) (λp v H1 s1 r1 st q1=>?_));refine j8 (hb A s1 H1 r env _ al st.rel (F.step R st) q1) (λp2 u H2 s2 r2 st2 q2=>?_);exact y0 (st.trans st2) (b7x hns al st2.rel (st2.vrep st.rel r1) r2 q2)
theorem a48 {ys:List d8} {z:Nat} {vl vu:Value} {lo hi:Option Int} {l u:Option PySem.Expr} {p:Pos} (R:w6 G w H s.heap)
  (ho:s.heap.get? a=some o) (hc:o.cls=.type "list") (hd:o.data=.seq vs z) (pl:IsPart vl lo) (pu:IsPart vu hi) (hz:vs.size<=o5) (r:l5 G s.heap ys (slicePick vs lo hi none).toList) (h:newList ys H Q) :
  wpAny (model prog w) A (subscriptTail value (.Slice l u none p) (.ref a) (.ref s.heap.objs.size)) (V6 G w (i8 G) H s Q) z5 {s with heap:=s.heap.push {cls:=.type "slice",data:=.fields #[vl,vu,.none]}}:=by
 have hl:s.heap.IsList a vs:=⟨_,ho,hc,_,hd⟩;have R1:=R.push {cls:=.type "slice",data:=.fields #[vl,vu,.none]};refine a1T (Heap.IsList.typeIs (s:={s with heap:=s.heap.push {cls:=.type "slice",data:=.fields #[vl,vu,.none]}}) (hl.push _)) list_getitem_lookup
  (wpAny_getItem_list_slice (hl.push _) (Heap.IsSliceOf.new ..) pl pu .none (by simp) ?_ (by refine b9 sizeLine_eq ?_;unfold o5 at hz;exact zo7 hz)) (a5X _ _)
 have:=a3B (s:={s with heap:=s.heap.push {cls:=.type "slice",data:=.fields #[vl,vu,.none]}}) (Q:=Q) (t:=s.toks) R1 (r.mono λ_ _=>R8) h
 exact this.after (.push (t:=s.toks) R)
theorem a4E {vs:List Value} {k:Int} {t:Tok} {l u:Option PySem.Expr} {p:Pos} (R:w6 G w H s.heap)
  (ht:IsTup s.heap a vs.toArray) (hz:xs.length<=o5) (r:l5 G s.heap xs vs) (h1:1<=k) (h2:k<=xs.length) (h:Q (.tup (xs.drop k.toNat)) H) :
  wpAny (model prog w) A (subscriptTail value (.Slice l u none p) (.ref a) (.ref s.heap.objs.size)) (V6 G w (i8 G) H s Q) z5 {s with heap:=s.heap.push {cls:=.type "slice",data:=.fields #[.int k t,.none,.none]}}:=by
 have R1:=R.push {cls:=.type "slice",data:=.fields #[.int k t,.none,.none]};have n1:=r.length;refine eE (Int.eq_ofNat_of_zero_le (show 0<=k by exact c0O h1)) λj q24=>?_;subst q24
 refine a1T (IsTup.typeIs (s:={s with heap:=s.heap.push {cls:=.type "slice",data:=.fields #[.int (j:Int) t,.none,.none]}}) (ht.push _)) slot_tuple_getitem.lookup
  (getItem_tuple_from (ht.push _) (Heap.IsSliceOf.new ..) (a:=j) (c6r h1) (by simp;exact c3G n1 h2) ?_ (by simp;refine b9 sizeLine_eq ?_;unfold o5 at hz;exact c1l hz n1)) (a5X _ _)
 have:=a6w (s:={s with heap:=s.heap.push {cls:=.type "slice",data:=.fields #[.int (j:Int) t,.none,.none]}}) (vs:=(vs.drop j).toArray) (Q:=Q) (t:=s.toks) R1 (by simpa using (r.drop j).mono λ_ _=>R8) h
 exact this.after (.push (t:=s.toks) R)
theorem b0w {a b:PySem.Expr} {x y:Ev} {p pos:Pos} (g:Gk G) (ha:SE prog w G n m c a x) (hb:SE prog w G n m c b y):SE prog w G n m c (.Subscript a (.Slice (some b) none none p) pos) (a2g x y):=λA s H r env Q al R F q=>by
 refine Subscript_ (j8 (ha A s H r env _ al R F q) (λp v H1 s1 r1 st q1=>?_));refine wpAny_Slice ?_;refine b9 (evalPart_some ..) ?_;refine b9 (evalPart_none ..) ?_;refine j8 (hb A s1 H1 r env _ al st.rel (F.step R st) q1) (λp2 u H2 s2 r2 st2 q2=>c7u (c7u ?_));replace r1:=st2.vrep st.rel r1;refine y0 (st.trans st2) (?_:wpAny (model prog w) A _ (V6 G w (i8 G) H2 s2 Q) z5 _);refine a40 q2 λl k q19 q20 h1 h2 h3 h=>?_;clear q2;subst q19;subst q20
 replace r1:=Y0 r1;replace r2:=N0 r2;revert r1;intro q18;refine k8 q18 λad vs q17 t1 r1=>?_;clear q18;subst q17;refine eE r2 λt' q10=>?_;clear r2;subst q10;exact a4E st2.rel t1 h3 r1 h1 h2 h
theorem b4U {a b:PySem.Expr} {x y:Ev} {p pos:Pos} (g:Gk G) (ha:SE prog w G n m c a x) (hb:SE prog w G n m c b y):SE prog w G n m c (.Subscript a (.Slice none (some b) none p) pos) (b2p x y):=λA s H r env Q al R F q=>by
 refine Subscript_ (j8 (ha A s H r env _ al R F q) (λp v H1 s1 r1 st q1=>?_));refine wpAny_Slice ?_;refine b9 (evalPart_some ..) ?_;refine b9 (evalPart_none ..) ?_;refine c7u (j8 (hb A s1 H1 r env _ al st.rel (F.step R st) q1) (λp2 u H2 s2 r2 st2 q2=>c7u ?_));replace r1:=st2.vrep st.rel r1;refine y0 (st.trans st2) (?_:wpAny (model prog w) A _ (V6 G w (i8 G) H2 s2 Q) z5 _);refine a40 q2 λl k q21 q22 h1 h2 h3 h=>?_;clear q2;subst q21;subst q22
 replace r1:=vfz r1;replace r2:=N0 r2;refine eA r1 λq12 q13=>?_;clear r1;subst q12;subst q13;refine eE r2 λt' q11=>?_;clear r2;subst q11;refine U4 g.script λo vs z e1 e2 e3 e4=>?_;have ho:=(st2.rel.base _ _ e1).1;have n1:G.sl.length=vs.size:=by refine t6 e4.length ?_;refine b9 Array.length_toList ?_;rfl
 refine a48 st2.rel ho e2 e3 .none (.int _ t') (by refine t6 n1 ?_;exact h3) ?_ h
 refine eE (Int.eq_ofNat_of_zero_le h1) λj q23=>?_;subst q23;refine b9 (slicePick_upto' ..) ?_;exact l5.of_ints (G:=G) (h:=s2.heap) (e4.take j)
theorem b8f {a:PySem.Expr} {x:Ev} (ha:SE prog w G n m c a x):SE prog w G n m c (.UnaryOp .USub a pos) (a3c x):=λA s H r env Q al R F q=>by
 refine wpAny_UnaryOp (j8 (ha A s H r env _ al R F q) (λp v H1 s1 r1 st q1=>?_));revert q1;intro q15;refine i9 q15 λi q14 q1=>?_;clear q15;subst q14;replace r1:=N0 r1;refine eE r1 λt q6=>?_;clear r1;subst q6;exact PySem.P.neg_int ⟨_,H1,.int,st.tok,q1⟩
end
section
variable {prog:Program} {w:World} {G:Gi} {n m:Nat} {c:Cx} {A:Around} {s:Shared} {H:Hp}
theorem a5x {es:Array DictEntry} (hk:StrKeys es) (x:Str):lookIn x {cls:=.type "dict",data:=.dict es k}=some (nsFind es x):=by
 unfold lookIn nsFind findBy;simp only;refine t6 Array.find?_toList ?_;cases es.toList.find? (·.key.isStr x) with
 | some e=>rfl
 | none =>
  simp only;rewrite [if_neg];rfl;refine I9 (List.any_eq_true ..) ?_
  rintro ⟨e,he,h⟩
  refine eEE (hk e (Array.mem_toList_iff.mp he)) λn t hh=>?_;simp [DictEntry.refKey,hh] at h
theorem a56 {a d C:Addr} (h1:s.heap.get? a=some (instObj C d)) (h2:s.heap.get? d=some o):InstAt s.heap a (instObj C d) C (some o):=⟨h1,rfl,rfl,h2⟩
theorem a47 {K:Frag} {C:Addr} (h:b3x K C) (ha:findIn K (.ref C) x=some none) (hl:lookIn x o=some (some v)):findObj K C (some o) x=some (.value v):=by
 refine i9 h.cd λcd h1 h2=>?_;unfold findObj;refine b9 h1 ?_;refine b9 (Option.bind_some ..) ?_;refine b9 ha ?_;refine b9 (Option.bind_some ..) ?_;simp only [Option.bind_some];unfold W.ownOf;refine b9 (if_pos h2) ?_;simp only [hl,Option.bind_some]
theorem b5F (g:Gok G c) (R:w6 G w H s.heap) (hx:y6 x=true) (ha:c.attrs.contains x=true) (rp:i8 G s.heap p v) (h:a9G p (nm x) H Q) :
  wpAny (model prog w) A (getAttr v x true) (V6 G w (i8 G) H s Q) z5 s:=by
 revert h;intro q7;refine b4o q7 λcn d fs u q5 e3 h=>?_;clear q7;refine B2 q5 λa q6 e1 e2=>?_;clear q5;subst q6;replace rp:=R4 rp;subst rp;refine i9 (R.objs _ _ e1) λC hC ho=>?_;refine I6 (R.objs _ _ e2) λes k hd hk sz hf=>?_;refine i9 ((hf x hx).1 u e3) λy hy ry=>?_;have hcl:=g.cl _ _ hC;exact get_value (R.In g) (a56 ho hd) hcl.ga (a47 hcl (g.at_ _ _ _ hC ha) (v:=y) (by rewrite [a5x hk];refine b9 hy ?_;rfl)) (a4t ry).1 ⟨u,H,ry,.toks R,h⟩
theorem a4w {a:Str} (ns:a5m e=true):attributeBase e a env (eval e env)=eval e env:=by
 cases e with
 | Call f args kws pos =>
  cases f with
  | Name x p =>
   cases args with
   | nil =>
    cases kws with
    | nil=>exact nomatch ns
    | cons _ _=>rfl
   | cons _ _=>rfl
  | _=>rfl
 | _=>rfl
theorem b5P {a:Str} {t:Nm} {x:Ev} (g:Gok G c) (he:SE prog w G n m c e x) (ht:a1P a=some t) (hc:c.attrs.contains a=true) (ns:a5m e=true):SE prog w G n m c (.Attribute e a pos) (n7 x t):=λA s H r env Q al R F q=>by
 refine eA (B5 ht) λhx q1=>?_;subst q1;refine b9 (arm_eval_Attribute ..) ?_;refine b9 (a4w ns) ?_;refine c7t (j8 (he A s H r env _ al R F q) (λp v H1 s1 r1 st q1=>?_));refine c7t (wpAny_standAt (c7t (wpAny_holding (wpAny_mono (b5F g st.rel hx hc r1 q1) (λu s2 g2=>?_) λ_ _ e=>e))));exact c7t (wpAny_letTemporaryGo (c7u (g2.after st)))
theorem a8J {a b:Nat} (h:¬ a=b):Nat.beq a b=false:=by
 cases e:Nat.beq a b with
 | false=>rfl
 | true=>exact absurd (Nat.eq_of_beq_eq_true e) h
theorem c1V (x:Nm):a0n [] x=none:=rfl
theorem a0u (x:Nm) (v:d8) (r:List (Nm×d8)):a0n ((x,v) :: r) x=some v:=by
 show (bif Nat.beq x x then some v else a0n r x)=_
 refine b9 (Nat.beq_refl ..) ?_;rfl
theorem a2b {x y:Nm} (v:d8) (r:List (Nm×d8)) (h:¬ x=y):a0n ((x,v) :: r) y=a0n r y:=by
 show (bif Nat.beq x y then some v else a0n r y)=_
 refine b9 (a8J h) ?_;rfl
theorem a7W (x:Nm) (v u:d8) (r:List (Nm×d8)):a0f ((x,u) :: r) x v=(x,v) :: r:=by
 show (bif Nat.beq x x then (x,v) :: r else _)=_
 refine b9 (Nat.beq_refl ..) ?_;rfl
theorem b1D {x y:Nm} (v u:d8) (r:List (Nm×d8)) (h:¬ y=x):a0f ((y,u) :: r) x v=(y,u) :: a0f r x v:=by
 show (bif Nat.beq y x then (x,v) :: r else _)=_
 refine b9 (a8J h) ?_;rfl
theorem a6N (x:Nm) (v:d8):∀ (fs:List (Nm×d8)) (y:Nm),a0n (a0f fs x v) y=if y=x then some v else a0n fs y:=by
 intro r;induction r with
 | nil =>
  intro y;by_cases h:y=x
  ·subst h;refine b9 (if_pos rfl) ?_;exact a0u ..
  ·refine b9 (if_neg h) ?_;exact a2b v [] λe=>h e.symm
 | cons z1 r ih =>
  intro y;obtain ⟨p,u⟩:=z1;by_cases hp:p=x
  ·subst hp;refine b9 (a7W ..) ?_;by_cases h:y=p
   ·subst h;refine b9 (if_pos rfl) ?_;refine b9 (a0u ..) ?_;rfl
   ·refine b9 (if_neg h) ?_;refine b9 (a2b _ _ λe=>h e.symm) ?_;refine b9 (a2b _ _ λe=>h e.symm) ?_;rfl
  ·refine b9 (b1D v u r hp) ?_;by_cases h:p=y
   ·subst h;refine b9 (a0u ..) ?_;refine b9 (a0u ..) ?_;refine b9 (if_neg hp) ?_;rfl
   ·refine b9 (a2b _ _ h) ?_;refine b9 (a2b _ _ h) ?_;refine b9 (ih y) ?_;rfl
theorem a6t (x:Nm) (v:d8):∀ (fs:List (Nm×d8)),(a0f fs x v).length=if (a0n fs x).isSome then fs.length else fs.length+1:=by
 intro r;induction r with
 | nil =>
  exact rfl
 | cons z2 r ih =>
  obtain ⟨p,u⟩:=z2;by_cases hp:p=x
  ·subst hp;refine b9 (a7W ..) ?_;refine b9 (a0u ..) ?_;rfl
  ·refine b9 (b1D v u r hp) ?_;refine b9 (a2b _ _ hp) ?_;refine b9 List.length_cons ?_;refine b9 List.length_cons ?_;refine b9 ih ?_
   split <;> rfl
theorem a9d {es:Array DictEntry} (hk:StrKeys es) (x:Str) (hh:Int) (t:Tok) (v:Value):∃ es' k',Obj.putName x hh (.str x t) v {cls:=.type "dict",data:=.dict es k}={cls:=.type "dict",data:=.dict es' k'}/\StrKeys es' /\
  (es'.size=if (nsFind es x).isSome then es.size else es.size+1)/\∀ y,nsFind es' y=if y=x then some v else nsFind es y:=by
 cases hi:es.findIdx? (·.key.isStr x) with
 | some i =>
  have hs:(nsFind es x).isSome=true:=by
   unfold nsFind;refine b9 (findBy_of_findIdx? ..) ?_;refine b9 hi ?_;refine i9 (Array.findIdx?_eq_some_iff_getElem.mp hi) λhlt _ _=>?_;simp [Array.getElem?_eq_getElem hlt]
  refine ⟨_,k,by simp only [Obj.putName_eq,Obj.putNameByArray,hi];rfl,hk.modify _ _,by refine b9 (if_pos hs) ?_;refine b9 Array.size_modify ?_;rfl,λy=>?_⟩
  exact findBy_modify (λn v=>v.isStr n) Value.isStr_inj es x y v i hi
 | none =>
  have hs:(nsFind es x).isSome=false:=by
   unfold nsFind;refine b9 (findBy_of_findIdx? ..) ?_;refine b9 hi ?_;rfl
  refine ⟨_,k+1,by simp only [Obj.putName_eq,Obj.putNameByArray,hi];rfl,hk.push _ _ _ _,by refine b9 hs ?_;simp,λy=>?_⟩
  exact findBy_push (λn v=>v.isStr n) es x y _ _ v (λy=>by
   show (x==y)=decide (y=x);by_cases h:y=x
   ·subst h;simp
   ·have:¬ x=y:=λe=>h e.symm;simp [h,this]) hi
theorem a8U (g:Gok G c) (R:w6 G w H s.heap) {p q:d8} {Q:Hp->Prop} (hx:y6 x=true) (ha:c.attrs.contains x=true) (rp:i8 G s.heap p v) (rq:i8 G s.heap q u) (h:a7r p (nm x) q H Q) :
  wpAny (model prog w) A (setAttr v x u) (λ_ s'=>∃ H',k9 G w N8 H s H' s'/\Q H') z5 s:=by
 revert h;intro q4;refine a2t q4 λcn d fs q2 hz h=>?_;clear q4;refine B2 q2 λa q3 e1 e2=>?_;clear q2;subst q3;replace rp:=R4 rp;subst rp;refine i9 (R.objs _ _ e1) λC hC ho=>?_;refine I6 (R.objs _ _ e2) λes k hd hk sz hf=>?_;have hcl:=g.cl _ _ hC;have X:=R.In g;have I:=a56 ho hd;have ht:takerIn G.K C x=some none:=by unfold takerIn;refine b9 (g.at_ _ _ _ hC ha) ?_;rfl
 refine i9 hcl.cd λcd hc hd'=>?_;refine set_plain X I hcl.sa ?_;refine osa_open (s:={s with toks:=s.toks+1}) X I hcl.plain ht λb=>?_
 refine c7t (c7u (c7t (c7t (wpAny_loadPart (s:={s with toks:=s.toks+1}) ho (c7t (Looks.here (s:={s with toks:=s.toks+1}) (looks_clsIn X hc) ?_))))))
 refine b9 hd' ?_;refine c7u (a:=some d) (c7t (c7u (c7t ?_)));unfold nsSet;refine c7t (c7t (wpAny_askSetting (c7u (c7t (wpAny_mkText (c7t (wpAny_loadPart (s:={s with toks:=s.toks+1+1}) hd ?_)))))))
 dsimp only;have hany:es.any (·.refKey)=false:=by
  refine I9 (Array.any_eq_false' ..) ?_;intro e he;refine eEE (hk e he) λn t h=>?_;simp [DictEntry.refKey,h]
 have hno:aRefKeyMayBeTheName x es=false:=by
  refine b9 aRefKeyMayBeTheName_eq ?_;unfold aRefKeyMayBeTheNameByArray;refine b9 hany ?_;refine b9 (Bool.and_false ..) ?_;rfl
 refine b9 hno ?_;refine I6 (a9d (k:=k) hk x (PyData.keyHash w.params x) (s.toks+1) u) λes' k' hp hk' hs' hf'=>?_;refine wpAny_updatePart (s:={s with toks:=s.toks+1+1}) hd ?_
 have hd2:(s.heap.update d (Obj.putName x (PyData.keyHash w.params x) (.str x (s.toks+1)) u)).get? d=some {cls:=.type "dict",data:=.dict es' k'}:=by
  refine t6 hp ?_;exact Heap.get?_update_self _ hd (by refine b9 hp ?_;rfl)
 have hsz:es'.size=(a0f fs (nm x) q).length:=by
  refine b9 hs' ?_;refine b9 (a6t ..) ?_;cases hl:a0n fs (nm x) with
  | some v=>refine i9 ((hf x hx).1 v hl) λu h1 _=>?_;refine b9 h1 ?_;exact sz
  | none=>refine b9 ((hf x hx).2 hl) ?_;exact congrArg (·+1) sz
 have key:=R.update (h':=s.heap.update d (Obj.putName x (PyData.keyHash w.params x) (.str x (s.toks+1)) u)) (mo':=.ns (a0f fs (nm x) q)) e2 (Heap.SameBut.update ..) λtup=>⟨es',k',hd2,hk',hsz,λy hy=>?_⟩
 ·refine c7t (wpAny_lookBehind hd2 (pastItsLine_dict (by (refine b9 hs' ?_;refine b9 sizeLine_eq ?_);split <;> omega)) ?_)
  exact c7u ⟨_,⟨key.1,key.2,rfl,rfl⟩,h⟩
 ·refine b9 (a6N ..) ?_;refine b9 (hf' ..) ?_;by_cases e:y=x
  ·subst e;refine b9 (if_pos rfl) ?_;refine b9 (if_pos rfl) ?_;exact ⟨λv hv=>⟨u,rfl,Option.some.inj hv▸rq.mono tup⟩,λhv=>x8 hv.symm⟩
  ·refine b9 (if_neg e) ?_;refine b9 (if_neg λe'=>e (N7 hy hx e')) ?_;exact ⟨λv hv=>let ⟨u,h1,h2⟩:=(hf y hy).1 v hv;⟨u,h1,h2.mono tup⟩,(hf y hy).2⟩
end
end
variable {wr:List PySem.Addr} {one:Bool} {D:PySem.Addr} {acc:List d8}
section
open PySem PySem.W PyProof.Rows PySem.Calls PySem.SeqAt
section
variable {prog:Program} {w:World} {G:Gi} {n m:Nat} {c:Cx}
structure BOk (n:Nat) (A:Around):Prop where
 h:A.handled=none
 d:A.depth+6 * n+5<=990
 u:A.units+200 * n+200<=9900
theorem V2.b (x:V2 n m A):BOk n A:=⟨x.h,by have:=x.d;exact c4P this,by have:=x.u;exact c1m this⟩
theorem BOk.deeper (x:BOk (n+1) A):V2 n 40 (A.deeper env):=⟨x.h,by have:=x.d;show A.depth+1+_+_<=_;exact c4o this,by have:=x.u;show A.units+3+_+_+_<=_;exact b9A this⟩
noncomputable def U3 (prog:Program) (w:World) (G:Gi) (n:Nat):Prop:=∀ (A:Around) (s:Shared) (H:Hp) (cn name:Nm) (f:Addr) (vs:List d8) (us:List Value) (Q:d8->Hp->Prop),BOk n A->w6 G w H s.heap->l5 G s.heap vs us ->
 G.fa cn name=some f->(j5 G.F n).call cn name vs H Q->codeAny (model prog w) A (.call (.ref f) ⟨us,[]⟩) (λr s'=>match r with | .ok (.ret v)=>V6 G w (i8 G) H s Q v s' | _=>False) s
theorem U3.call {cn name:Nm} {f:Addr} {vs:List d8} {us:List Value} (ok:U3 prog w G n) (a:BOk n A) (R:w6 G w H s.heap) (r:l5 G s.heap vs us) (e:G.fa cn name=some f)
  (h:(j5 G.F n).call cn name vs H Q):wpAny (model prog w) A (call (.ref f) us) (V6 G w (i8 G) H s Q) z5 s:=by
 refine wpAny_call (codeAny_mono (ok A s H cn name f vs us Q a R r e h) λr s' z=>?_);rcases r with e | (v | _ | _ | _) <;> exact z
theorem T9:∀ {es:List PySem.Expr} {l:List Ev},D2 (P1 k c) es=some l->(backTo pos (starEach es env)).any (·.1)=false:=by
 intro es;induction es with
 | nil=>intro _ _;exact rfl
 | cons e es ih =>
  intro l h;refine k8 (v9 h) λx l' hx hl q2=>?_;subst q2;refine b9 (K4 λe' p he=>by subst he;exact Z2 hx) ?_
  show (false||(backTo pos (starEach es env)).any (·.1))=false
  refine b9 (ih hl) ?_;rfl
theorem a6b {f:Value} {args:List (Bool×Sem Value)} {Q:Args->Shared->Prop} (hp:args.any (·.1)=false) (h:wpAny (model prog w) A (spliced args) (λvs s'=>Q ⟨vs,[]⟩ s') E s) :
  wpAny (model prog w) A (evalArgs f true args []) Q E s:=by
 match args with
 | [] =>
  unfold evalArgs;show wpAny (model prog w) A (spliced []>>=_) Q E s;exact c7t (wpAny_mono h (λvs s' q=>c7t (c7u (wpAny_holding (c7t (c7u (c7t (c7u (c7u q)))))))) λ_ _ e=>e)
 | (true,_) :: _=>simp at hp
 | (false,x) :: rest=>exact evalArgs_plain h
theorem P9 {f:Value} {first:List Value} {args:List (Bool×Sem Value)} {Q:Value->Shared->Prop} {P:Heap->Prop} (hp:args.any (·.1)=false)
  (hk:∀ h,P h->∃ k,(k=Keeper.frame\/k=Keeper.machine\/k=Keeper.boundFrame)/\Looks (model prog w) h (keeperOf f) k)
  (h:wpAny (model prog w) A (spliced args) (λvs s₁=>P s₁.heap/\wpAny (model prog w) A (call f (first++vs)) Q z5 s₁) z5 s):wpAny (model prog w) A (callWith pos f first args []) Q z5 s :=
 callWith_of (P:=P) (by refine b9 hp ?_;rfl) hk (a6b hp h)
theorem a0A {f:Value} (h:∀ a,f≠.ref a) (hp:Heap):∃ k,(k=Keeper.frame\/k=Keeper.machine\/k=Keeper.boundFrame)/\Looks (model prog w) hp (keeperOf f) k :=
 ⟨.machine,.inr (.inl rfl),Looks.of_pure (by unfold keeperOf;cases f <;> first | rfl | exact absurd rfl (h _))⟩
theorem b4A {p pos:Pos} {es:List PySem.Expr} {l:List Ev} (g:Gok G c) (ok:U3 prog w G n) (hs:∀ e x,P1 k c e=some x->SE prog w G n m c e x) (hl:D2 (P1 k c) es=some l) (hk:c.kind x=.glob) (hx:y6 x=true) (hf:c.fns.contains x=true) (hd:(x==("__debug__":Str))=false) :
  SE prog w G n m c (.Call (.Name x p) es [] pos) (G7 (nm x) (a1O l)):=λA s H r env Q al R F q=>by
 refine a1o (g.fn x hf) λ_ f e1 e2 e3=>?_;refine wpAny_Call_NameR (wpAny_Name (a7U g R F hk e2 ?_) hd);refine P9 (P:=G.K.In) (T9 hl) (keeps_K e3) ?_;refine j8 (a2v hs es l hl A s H r env pos _ al R F q) (λvs us H1 s1 ⟨r1,_⟩ st q1=>⟨st.rel.In g,?_⟩);exact y0 st (ok.call al.b st.rel r1 e1 q1)
theorem b1B {cn f:Nm} {vs:List d8} (h:(j5 G.F n).call cn f vs H Q):∃ fd,G.F cn f=some fd:=by
 cases n with
 | zero=>exact h.elim
 | succ n=>refine i9 h λfd e _=>?_;clear h;exact ⟨fd,e⟩
theorem b5y {cn:Nm} {C:Addr} (R:w6 G w H h) (hC:G.ca cn=some C) :
  let H':=(H.set h.objs.size (.ns [])).set (h.objs.size+1) (.inst cn h.objs.size)
  let h':=(h.push emptyDict).push (instObj C h.objs.size)
  w6 G w H' h'/\Ext N8 H h H' h':=by
 have a1:=R.alloc (o:=emptyDict) (mo:=.ns []) ⟨#[],0,Heap.get?_push_size _ rfl,λ_ he=>by simp at he,rfl,λx _=>⟨λv hv=>x8 hv,λ_=>by simp [nsFind,findBy]⟩⟩
 have a2:=a1.1.alloc (o:=instObj C h.objs.size) (mo:=.inst cn h.objs.size) ⟨C,hC,Heap.get?_push_size _ rfl⟩;rw [Heap.size_push] at a2;exact ⟨a2.1,a1.2.trans a2.2⟩
theorem b05 (C:Addr) (us:List Value):(Code.builtin "type.__call__" ⟨.ref C :: us,[]⟩).weight<=3:=by
 have:(Code.builtin "type.__call__" ⟨.ref C :: us,[]⟩).weight=1:=by rfl
 exact c4y this
theorem b3F (C:Addr) (us:List Value):(Code.builtin "type.__call__" ⟨.ref C :: us,[]⟩).cUnits<=20:=by
 have:(Code.builtin "type.__call__" ⟨.ref C :: us,[]⟩).cUnits=1:=by rfl
 exact c2m this
theorem b7p {p pos:Pos} {es:List PySem.Expr} {l:List Ev} (g:Gok G c) (ok:U3 prog w G n) (hs:∀ e x,P1 k c e=some x->SE prog w G n m c e x) (hl:D2 (P1 k c) es=some l) (hk:c.kind x=.glob) (hx:y6 x=true) (hf:c.clss.contains x=true) (hd:(x==("__debug__":Str))=false) :
  SE prog w G n m c (.Call (.Name x p) es [] pos) (a6m (nm x) (a1O l)):=λA s H r env Q al R F q=>by
 refine a1o (g.cls x hf) λ_ C e1 e2 e3=>?_;refine wpAny_Call_NameR (wpAny_Name (a7U g R F hk e2 ?_) hd);refine P9 (P:=G.K.In) (T9 hl) (keeps_K e3) ?_;refine j8 (a2v hs es l hl A s H r env pos _ al R F q) (λvs us H1 s1 ⟨r1,_⟩ st q1=>⟨st.rel.In g,?_⟩);have hcl:=g.cl _ _ e1;have X:=st.rel.In g;obtain ⟨h,gens,dr,t,os⟩:=s1;have fr1:H1 h.objs.size=none:=st.rel.fresh;have fr2:H1 (h.objs.size+1)=none:=by
  cases q:H1 (h.objs.size+1) with
  | none=>rfl
  | some mo=>have:=st.rel.lt q;exact absurd this (by show ¬ h.objs.size+1 < h.objs.size;exact c2h)
 have q1:=q1 (h.objs.size+1) h.objs.size fr2 fr1 (c1e);refine eE (b1B q1) λfd hfd=>?_;have hini:y6 ("__init__":Str)=true:=by decide +kernel
 refine B2 (g.me (nm x) C ("__init__":Str) fd e1 hini hfd) λfI g1 g2 g3=>?_;have rn:=b5y st.rel e1;have st2:k9 G w N8 H1 ⟨h,gens,dr,t,os⟩ ((H1.set h.objs.size (.ns [])).set (h.objs.size+1) (.inst (nm x) h.objs.size)) ⟨(h.push emptyDict).push (instObj C h.objs.size),gens,dr,t,os⟩:=⟨rn.1,rn.2,rfl,rfl⟩;refine wpAny_call (make_core (makes_of X hcl.makes) (looks_findIn X g2) (λself=>bind_fn X self g3) (.inl rfl) ?_)
 have wt:=b05 C ([]++us);have ut:=b3F C ([]++us);have b2:BOk n (A.under (.builtin "type.__call__" ⟨.ref C :: ([]++us),[]⟩)):=⟨al.h,by have:=al.d;show A.depth+_+_+_<=_;exact c1M wt this,by have:=al.u;show A.units+_+_+_<=_;exact b86 ut this⟩
 refine codeAny_mono (ok _ _ _ (nm x) (nm "__init__") fI (.ref (h.objs.size+1) :: vs) (.ref (h.objs.size+1) :: us) _ b2 st2.rel (.cons .ref (st2.vreps st.rel r1)) g1 q1) (λr s' z=>?_);rcases r with e | (v | _ | _ | _) <;> first | exact z.elim | skip
 refine I6 z λy H' ry st3 q1 qq=>?_;clear z;subst q1;replace ry:=a9H ry;exact ⟨ry,.ref _,H',.ref,st.trans (st2.trans st3),qq⟩
end
end
variable {tg:PySem.Expr} {cenv:PySem.Env}
section
open PySem PySem.W PyProof.Rows PySem.Calls PySem.SeqAt PySem.MeetsSeq
open Classical
section
variable {prog:Program} {w:World} {G:Gi} {n m:Nat} {c:Cx}
noncomputable def b2o (m:LM):String:=match m with
 | .append=>"list.append" | .extend=>"list.extend" | .pop=>"list.pop"
noncomputable def b2w (m:DM):String:=match m with
 | .get=>"dict.get" | .setdefault=>"dict.setdefault" | .pop=>"dict.pop"
theorem a8n (h:s.heap.get? a=some {cls:=.type "list",data:=.seq vs k}):s.TypeIs (.ref a) "list":=⟨_,h,rfl⟩
theorem a63 {m':LM} {vs:List d8} {us:List Value} (al:V2 n m A) (R:w6 G w H s.heap) (e:H a=some (.list xs)) (rv:l5 G s.heap vs us) (h:a7f a xs m' vs H Q) :
  wpAny (model prog w) A (call (.builtin (b2o m')) (.ref a :: us)) (V6 G w (i8 G) H s Q) z5 s:=by
 refine A6 (R.objs _ _ e) λws k ho r=>?_;have hT:=a8n ho;have n1:xs.length=ws.size:=by refine b9 r.length ?_;refine b9 Array.length_toList ?_;rfl
 have hu:A.units+65 < cLine:=by have:=al.units;exact b3j this
 cases m'
 ·revert h;intro q2;refine B2 q2 λv q1 hz h=>?_;clear q2;subst q1;replace rv:=F0 rv;revert rv;intro q8;refine k8 q8 λu us' q7 rv hh=>?_;clear q8;subst q7;subst hh;have hz:ws.size<=sizeLine:=by refine t6 n1 ?_;refine b9 sizeLine_eq ?_;unfold o5 at hz;exact zo7 hz
  refine call_meets PySem.F.slot_list_append hT PySem.F.entry_list_append (PySem.F.args_list_append_2 _ _) (list_append a ws k u hz) ⟨ho,?_⟩;have:=R.update (h':=s.heap.update a (Obj.mapSeq λx=>x.push u)) (mo':=.list (xs++[v])) e (Heap.SameBut.update ..) λtup=>⟨ws.push u,_,IsL.update ho _,by refine b9 Array.toList_push ?_;exact (r.mono tup).append (.cons (rv.mono tup) .nil)⟩
  exact ⟨.none,_,.none,⟨this.1,this.2,rfl,rfl⟩,h⟩
 ·revert h;intro q18;refine C8 q18 λb ys q17 hne e2 hz' h=>?_;clear q18;subst q17;replace rv:=F0 rv;refine k8 rv λu us' q11 q12 q13=>?_;clear rv;subst q11;subst q12;subst q13;refine A6 (R.objs _ _ e2) λws2 k2 ho2 r2=>?_;have n2:ys.length=ws2.size:=by refine b9 r2.length ?_;refine b9 Array.length_toList ?_;rfl
  have hz:ws.size+ws2.size<=sizeLine:=by refine t6 n1 ?_;refine t6 n2 ?_;refine b9 sizeLine_eq ?_;unfold o5 at hz';exact c5K hz'
  refine call_meets PySem.F.slot_list_extend hT PySem.F.entry_list_extend (PySem.F.args_list_extend_2 _ _) (AutoSeq1.list_extend_list_list_0 a ws k b ws2 k2 (by simp [Builtin.List.listTooLong];omega) (b6L hz) (c0K hz)) ⟨ho,ho2,?_⟩
  have:=R.update (h':=s.heap.update a (Obj.mapSeq λx=>x++ws2)) (mo':=.list (xs++ys)) e (Heap.SameBut.update ..) λtup=>⟨ws++ws2,_,IsL.update ho _,by refine b9 Array.toList_append ?_;exact (r.mono tup).append (r2.mono tup)⟩
  exact ⟨.none,_,.none,⟨this.1,this.2,rfl,rfl⟩,h⟩
 ·revert h;intro q6;refine Q2 q6 λv q5 hz hv h=>?_;clear q6;subst q5;replace rv:=a1l rv;subst rv
  ·have hne:xs≠[]:=by rintro rfl;simp at hv
   have hlen:0 < xs.length:=List.length_pos_iff.mpr hne;rw [List.getLast?_eq_getElem?] at hv;refine i9 (r.get _ hv) λu h1 h2=>?_;rw [n1,Array.getElem?_toList] at h1;refine call_meets PySem.F.slot_list_pop hT PySem.F.entry_list_pop (PySem.F.args_list_pop_1 _) (list_pop_last a ws k u h1 (by refine t6 n1 ?_;refine b9 sizeLine_eq ?_;unfold o5 at hz;exact zo7 hz)) ⟨ho,?_⟩
   have:=R.update (h':=s.heap.update a (Obj.mapSeq λxs=>xs.eraseIdxIfInBounds (ws.size - 1))) (mo':=.list xs.dropLast) e (Heap.SameBut.update ..) λtup=>⟨ws.eraseIdxIfInBounds (ws.size - 1),_,IsL.update ho _,?_⟩
   ·exact ⟨v,_,this.2.vrep R .no h2,⟨this.1,this.2,rfl,rfl⟩,h⟩
   ·have e3:(ws.eraseIdxIfInBounds (ws.size - 1)).toList=ws.toList.take (ws.size - 1):=by
     obtain ⟨l⟩:=ws;have hl:l.length - 1 < l.length:=by simp at n1;exact b8X hlen n1
     simp only [Array.eraseIdxIfInBounds,List.size_toArray,hl,dite_true];simp [List.eraseIdx_eq_take_drop_succ,List.drop_eq_nil_of_le];exact c59
    refine b9 e3 ?_;refine b9 List.dropLast_eq_take ?_;refine b9 n1 ?_;exact (r.mono tup).take _
theorem a7V {m':DM} {vs:List d8} {us:List Value} (g:Gk G) (al:V2 n m A) (R:w6 G w H s.heap) (e:H a=some (.dict es ep)) (rv:l5 G s.heap vs us) (h:a7m a es ep m' vs H Q) :
  wpAny (model prog w) A (call (.builtin (b2w m')) (.ref a :: us)) (V6 G w (i8 G) H s Q) z5 s:=by
 have hT:=Q7 R e;have hd:=R.sysm g e;have hu:A.units+1+64 < cLine:=by have:=al.units;exact c2P this
 cases m'
 ·revert h;intro q4;refine k8 q4 λk d q3 h1 h=>?_;clear q4;subst q3;replace rv:=F0 rv;refine a1X rv λu us' q19 rk u2 us2 q20 rd q21=>?_;clear rv;subst q19;subst q20;subst q21;refine wpAny_call_entry PySem.F.slot_dict_get hT PySem.F.entry_dict_get ?_ (PySem.F.args_dict_get_3 _ _ _);show wpAny _ _ (Builtin.Dict.keyAndDefault "get" ⟨[.ref a,u,u2],[]⟩>>=_) _ _ s;refine c7t ?_;unfold Builtin.Dict.keyAndDefault
  refine c7t (wpAny_notOrdered_dict hT ?_);show wpAny _ _ (pure (a,u,some u2)) _ _ s;refine c7u ?_;show wpAny _ _ (dictGet a u>>=_) _ _ s;refine c7t (a3l hu R e h1 rk (λhn=>?_) (λy u' hy ry=>?_))
  ·show wpAny _ _ (Builtin.Dict.missed a u>>=_) _ _ _;refine c7t (wpAny_missed_other hd (c7u ⟨u2,rfl,d,H,rd,.toks R,?_⟩));rwa [hn] at h
  ·refine c7u ⟨u',rfl,y,H,ry,.toks R,?_⟩;rwa [hy] at h
 ·refine C8 h λk d q16 h1 h2 h3 h4=>?_;clear h;subst q16;replace rv:=F0 rv;refine a1X rv λu us' q22 rk u2 us2 q23 rd q24=>?_;clear rv;subst q22;subst q23;subst q24;refine wpAny_call_entry PySem.F.slot_dict_setdefault hT PySem.F.entry_dict_setdefault ?_ (PySem.F.args_dict_setdefault_3 _ _ _);unfold Builtin.«dict.setdefault»;refine c7t ?_;unfold Builtin.Dict.keyAndDefault;refine c7t (wpAny_notOrdered_dict hT ?_)
  show wpAny _ _ (pure (a,u,some u2)) _ _ s;refine c7u ?_;show wpAny _ _ (if (a==sysModules)=true then _ else (dictSetDefault a u u2>>=_)) _ _ s
  refine b9 (if_neg (by refine b9 hd ?_;exact Bool.false_ne_true)) ?_
  refine c7t (a3r hu R e h1 rk rd h2 (λy u' s' hy ry st=>c7u ⟨u',rfl,y,H,st.vrep R ry,st,?_⟩) (λs' hn st=>c7u ⟨u2,rfl,d,_,st.vrep R rd,st,?_⟩))
  ·exact h3 _ hy
  ·exact h4 hn
 ·revert h;intro q15;refine C8 q15 λk y q14 h1 h2 hy h=>?_;clear q15;subst q14;replace rv:=F0 rv;refine k8 rv λu us' q9 rk q10=>?_;clear rv;subst q9;subst q10
  ·refine wpAny_call_entry PySem.F.slot_dict_pop hT PySem.F.entry_dict_pop ?_ (PySem.F.args_dict_pop_2 _ _);unfold Builtin.«dict.pop»;refine c7t ?_;unfold Builtin.Dict.keyAndDefault;refine c7t (wpAny_notOrdered_dict hT ?_);show wpAny _ _ (pure (a,u,none)) _ _ s;refine c7u ?_;refine a0G (R.objs _ _ e) λnd ok ents ho he=>?_;have hne:ents.isEmpty=false:=by
    refine eE (b0S hy) λi hi=>?_;have:0 < es.length:=by
     have:=(List.getElem?_eq_some_iff.mp hi).1;exact b9g this
    rw [he.length,Array.length_toList] at this;refine I9 (Array.isEmpty_eq_false_iff ..) ?_;intro e;rw [e] at this;simp at this
   cases hk:(keyPart u).isSome with
   | true =>
    simp only [hk,if_true];refine c7t (c7u ?_);simp only [Bool.false_eq_true,if_false];refine c7t (a5Y hu R e h1 rk h2 hy λen s' ry st=>?_);simp only [Option.isNone_some,Bool.false_eq_true,if_false]
    first
     | exact c7t (wpAny_letGo (c7u ⟨_,rfl,y,_,ry.mono λ_ _ t=>st.ext.tup R .no t,st,h⟩))
     | exact c7t (c7u (c7t (wpAny_letGo (c7u ⟨_,rfl,y,_,ry.mono λ_ _ t=>st.ext.tup R .no t,st,h⟩))))
   | false =>
    simp only [hk,Bool.false_eq_true,if_false];refine c7t (wpAny_dictEntries ho rfl (c7t (c7u ?_)));refine b9 hne ?_;simp only [Bool.false_eq_true,if_false];refine c7t (a5Y hu R e h1 rk h2 hy λen s' ry st=>?_);simp only [Option.isNone_some,Bool.false_eq_true,if_false]
    first
     | exact c7t (wpAny_letGo (c7u ⟨_,rfl,y,_,ry.mono λ_ _ t=>st.ext.tup R .no t,st,h⟩))
     | exact c7t (c7u (c7t (wpAny_letGo (c7u ⟨_,rfl,y,_,ry.mono λ_ _ t=>st.ext.tup R .no t,st,h⟩))))
end
end
variable {Q:PySem.Value->PySem.Shared->Prop}
section
open PySem PySem.W PyProof.Rows PySem.Calls PySem.SeqAt PySem.MeetsSeq
theorem b1M:∀ c,c < 123->97<=c->PySem.Unicode.isSpace c=false:=by decide +kernel
open Classical
section
variable {M:Model} {A:Around} {E:Value->Shared->Prop} {s:Shared} {pl:Sem Bool} {Q:Value×List Value->Shared->Prop}
theorem c65 {z:Str} {t:Tok}:∀ a,Value.str z t=.ref a->∃ o,s.heap.get? a=some o/\o.dict=none:=by
 intro a e;exact absurd e (by intro h;injection h)
theorem c6U {z:Str} {t:Tok}:s.TypeIs (.str z t) "str":=typeIs_str s z t
theorem a8l {z:Str} {t:Tok} (h:Q (.builtin "str.isspace",[.str z t]) s):wpAny M A (getMethod (.str z t) (Str.ofString "isspace") pl) Q E s :=
 getMethod_builtin (T:="str") (id:="str.isspace") (name:=Str.ofString "isspace") c6U PySem.F.plainAttrs_str PySem.F.slot_str_isspace PySem.F.type_str_isspace c65 h
theorem b1c (ho:s.heap.get? a=some o) (hc:o.cls=.type "list") (hd:o.dict=none) (h:Q (.builtin "list.append",[.ref a]) s):wpAny M A (getMethod (.ref a) (Str.ofString "append") pl) Q E s :=
 getMethod_builtin ⟨o,ho,hc⟩ PySem.F.plainAttrs_list PySem.F.slot_list_append PySem.F.type_list_append (λb e=>by injection e with e;subst e;exact ⟨o,ho,hd⟩) h
theorem b0f (ho:s.heap.get? a=some o) (hc:o.cls=.type "list") (hd:o.dict=none) (h:Q (.builtin "list.extend",[.ref a]) s):wpAny M A (getMethod (.ref a) (Str.ofString "extend") pl) Q E s :=
 getMethod_builtin ⟨o,ho,hc⟩ PySem.F.plainAttrs_list PySem.F.slot_list_extend PySem.F.type_list_extend (λb e=>by injection e with e;subst e;exact ⟨o,ho,hd⟩) h
theorem b51 (ho:s.heap.get? a=some o) (hc:o.cls=.type "list") (hd:o.dict=none) (h:Q (.builtin "list.pop",[.ref a]) s):wpAny M A (getMethod (.ref a) (Str.ofString "pop") pl) Q E s :=
 getMethod_builtin ⟨o,ho,hc⟩ PySem.F.plainAttrs_list PySem.F.slot_list_pop PySem.F.type_list_pop (λb e=>by injection e with e;subst e;exact ⟨o,ho,hd⟩) h
theorem b7D (ho:s.heap.get? a=some o) (hc:o.cls=.type "dict") (hd:o.dict=none) (h:Q (.builtin "dict.get",[.ref a]) s):wpAny M A (getMethod (.ref a) (Str.ofString "get") pl) Q E s :=
 getMethod_builtin ⟨o,ho,hc⟩ PySem.F.plainAttrs_dict PySem.F.slot_dict_get PySem.F.type_dict_get (λb e=>by injection e with e;subst e;exact ⟨o,ho,hd⟩) h
theorem a49 (ho:s.heap.get? a=some o) (hc:o.cls=.type "dict") (hd:o.dict=none) (h:Q (.builtin "dict.setdefault",[.ref a]) s):wpAny M A (getMethod (.ref a) (Str.ofString "setdefault") pl) Q E s :=
 getMethod_builtin ⟨o,ho,hc⟩ PySem.F.plainAttrs_dict PySem.F.slot_dict_setdefault PySem.F.type_dict_setdefault (λb e=>by injection e with e;subst e;exact ⟨o,ho,hd⟩) h
theorem b5t (ho:s.heap.get? a=some o) (hc:o.cls=.type "dict") (hd:o.dict=none) (h:Q (.builtin "dict.pop",[.ref a]) s):wpAny M A (getMethod (.ref a) (Str.ofString "pop") pl) Q E s :=
 getMethod_builtin ⟨o,ho,hc⟩ PySem.F.plainAttrs_dict PySem.F.slot_dict_pop PySem.F.type_dict_pop (λb e=>by injection e with e;subst e;exact ⟨o,ho,hd⟩) h
end
theorem a1N {α β:Type} {f:α->Option β}:∀ {es:List α} {l:List β},D2 f es=some l->es.length=l.length:=by
 intro es;induction es with
 | nil=>intro l h;have q1:=A3 h;clear h;subst q1;rfl
 | cons e es ih =>
  intro l h;refine k8 (v9 h) λx l' hx hl q12=>?_;subst q12;refine b9 List.length_cons ?_;refine b9 List.length_cons ?_;refine b9 (ih hl) ?_;rfl
section
variable {prog:Program} {w:World} {G:Gi} {n m:Nat} {c:Cx}
theorem a3Y:∀ {es:List PySem.Expr} {l:List Ev},D2 (P1 k c) es=some l->(backTo pos (starEach es env)).all (!·.1)=true:=by
 intro es;induction es with
 | nil=>intro _ _;exact rfl
 | cons e es ih =>
  intro l h;refine k8 (v9 h) λx l' hx hl q13=>?_;subst q13;refine b9 (K4 λe' p he=>by subst he;exact Z2 hx) ?_
  show (true&&(backTo pos (starEach es env)).all (!·.1))=true;refine b9 (ih hl) ?_;rfl
theorem a7j {o:PySem.Expr} {apos pos:Pos} {es:List PySem.Expr} {l:List Ev} (hl:D2 (P1 k c) es=some l) (hz:l.length<=15) (ns:a5m o=true) (hp:(apos.endLine==pos.line)=true)
  (h:wpAny (model prog w) A (eval o env) (λov s₁=>∀ pl,wpAny (model prog w) A (getMethod ov x pl) (λfx s₂=>wpAny (model prog w) A (callWith pos fx.1 fx.2 (backTo pos (starEach es env)) []) Q E s₂) E s₁) E s) :
  wpAny (model prog w) A (eval (.Call (.Attribute o x apos) es [] pos) env) Q E s:=by
 refine b9 (arm_eval_Call ..) ?_;refine b9 (a4w ns) ?_;refine c7t (wpAny_mono h (λov s₁ h₁=>c7t (wpAny_standAt ?_)) λ_ _ e=>e);have lene:es.length=l.length:=a1N hl;have hform:methodCallForm (es.length+([]:List Keyword).length) (backTo pos (starEach es env)) (backToKw pos (keywordEach [] env))=true:=by
  unfold methodCallForm;refine b9 (a3Y hl) ?_;show (true&&true&&decide (es.length+0+0 < 30))=true;simp;exact b9F hz lene
 have hpos:methodCallPos true o env apos pos=pure pos:=by unfold methodCallPos;rw [if_pos];simpa using hp
 unfold methodCall;refine b9 hform ?_;refine c7t (wpAny_holding (wpAny_mono (h₁ _) (λfx s₂ h₂=>?_) λ_ _ e=>e));exact c7t (wpAny_of_eq hpos h₂)
noncomputable def c2M (prog:Program) (w:World) (G:Gi) (n:Nat) (A:Around) (env:Env) (r:En) (H H1:Hp) (s s1:Shared) (Q:d8->Hp->Prop) (l:List Ev) (es:List PySem.Expr) (pos:Pos) (p:d8) (v:Value):Prop :=
 ∀ (f:Value) (P:Hp->List d8->(d8->Hp->Prop)->Prop),(∀ h,G.K.In h->∃ k,(k=Keeper.frame\/k=Keeper.machine\/k=Keeper.boundFrame)/\Looks (model prog w) h (keeperOf f) k) ->
   ((a1O l) (j5 G.F n) r H1 λvs H2=>P H2 vs Q) ->
   (∀ s2 H2 vs us,w6 G w H2 s2.heap->l5 G s2.heap vs us->i8 G s2.heap p v->P H2 vs Q->wpAny (model prog w) A (call f (v :: us)) (V6 G w (i8 G) H2 s2 Q) z5 s2) ->
   wpAny (model prog w) A (callWith pos f [v] (backTo pos (starEach es env)) []) (V6 G w (i8 G) H s Q) z5 s1
theorem b42 {o:PySem.Expr} {t:Nm} {apos pos:Pos} {es:List PySem.Expr} {l:List Ev} (g:Gok G c) (ok:U3 prog w G n) (ho:SE prog w G n m c o y) (hs:∀ e x,P1 k c e=some x->SE prog w G n m c e x) (hl:D2 (P1 k c) es=some l)
  (ht:a1P x=some t) (hz:l.length<=15) (ns:a5m o=true) (hp:(apos.endLine==pos.line)=true):SE prog w G n m c (.Call (.Attribute o x apos) es [] pos) (j7 y t (a1O l)):=λA s H r env Q al R F q=>by
 refine eA (B5 ht) λhx q7=>?_;subst q7;refine a7j hl hz ns hp (j8 (ho A s H r env _ al R F q) (λp v H1 s1 r1 st q1=>λpl=>?_));have args:c2M prog w G n A env r H H1 s s1 Q l es pos p v:=by
  intro f P hk h1 h2;refine P9 (P:=G.K.In) (T9 hl) hk ?_;refine j8 (a2v hs es l hl A s1 H1 r env pos _ al st.rel (F.step R st) h1) (λvs us H2 s2 ⟨r2,_⟩ st2 q2=>⟨st2.rel.In g,?_⟩);exact y0 (st.trans st2) (h2 s2 H2 vs us st2.rel r2 (st2.vrep st.rel r1) q2)
 revert q1;intro q4;refine i9 q4 λk hk q1=>?_;clear q4;cases k with
 | str =>
  refine eA hk λq5 hm=>?_;clear hk;refine eE q5 λz q6=>?_;clear q5;subst q6;have e1:x=("isspace":Str):=N7 hx (by decide +kernel) (hm.trans (by decide +kernel))
  replace r1:=a1h r1;refine eE r1 λtk q3=>?_;clear r1;subst q3;subst e1;refine a8l ?_;refine args (.builtin "str.isspace") (λH2 vs Q=>S9 (j5 G.F n) .str (.str z) (nm "isspace") vs H2 Q) (λh _=>a0A (λa=>by intro e;cases e) h) q1 λs2 H2 vs us R2 rv _ h=>?_
  revert h;intro q21;refine Q2 q21 λz' hz' q18 q19 h=>?_;clear q21;subst q18;refine B2 q19 λch c1 c2 q20=>?_;clear q19;subst q20;cases hz';replace rv:=a1l rv;subst rv;refine call_gives PySem.F.slot_str_isspace (typeIs_str _ _ _) PySem.F.entry_str_isspace (PySem.F.args_str_isspace_1 _) (gives_str_isspace _ _) ?_;have e2:Str.ofString (String.singleton ch)=⟨#[ch.toNat]⟩:=by refine b9 (r9 ..) ?_;simp
  refine b9 e2 ?_;have e3:((⟨#[ch.toNat]⟩:Str).length > 0&&(#[ch.toNat]:Array Nat).all Unicode.isSpace)=false:=by
   simp [b1M _ (show ch.toNat < 123 by exact c0Y c2) c1]
  show V6 G w (i8 G) H2 s2 Q (.bool _) s2;refine b9 e3 ?_;exact ⟨.bool false,H2,.bool,.refl R2,h⟩
 | inst cn =>
  refine k8 hk λd fs q16 hl0 hm=>?_;clear hk;refine B2 q16 λa q17 e1 e2=>?_;clear q16;subst q17;replace r1:=R4 r1;subst r1;refine i9 (st.rel.objs _ _ e1) λC hC ho'=>?_;refine I6 (st.rel.objs _ _ e2) λents z hd hks sz hf=>?_;have hcl:=g.cl _ _ hC;have X:=st.rel.In g;rw [a5F] at hm;refine eE (Option.isSome_iff_exists.mp hm) λfd hfd=>?_;refine B2 (g.me cn C x fd hC hx hfd) λf g1 g2 g3=>?_
  have g4:keepIn G.K (.ref f)=true:=by
   refine B2 (g.fun_ _ _ _ hfd) λf' h1 _ h3=>?_;rw [g1] at h1;have q2:=A3 h1;clear h1;subst q2;exact h3
  refine method_fn X (a56 ho' hd) hcl.ga hcl.gaa g2 g3 (by show (lookIn x _).map _=_;rewrite [a5x hks];refine b9 ((hf x hx).2 hl0) ?_;rfl) ?_
  exact args (.ref f) (λH2 vs Q=>S9 (j5 G.F n) (.inst cn) (.ref a) (nm x) vs H2 Q) (keeps_K g4) q1 λs2 H2 vs us R2 rv rr h=>ok.call al.b R2 (.cons rr rv) g1 h
 | lst m' =>
  refine eA hk λq10 hm=>?_;clear hk;refine A6 q10 λa xs q11 e1=>?_;clear q10;subst q11;replace r1:=R4 r1;subst r1;refine A6 (st.rel.objs _ _ e1) λws z ho' r'=>?_;have meth:(∀ pl Q,Q (Value.builtin (b2o m'),[Value.ref a]) s1->wpAny (model prog w) A (getMethod (.ref a) x pl) Q z5 s1) ->
    wpAny (model prog w) A (getMethod (.ref a) x pl) (λfx s₂=>wpAny (model prog w) A (callWith pos fx.1 fx.2 (backTo pos (starEach es env)) []) (V6 G w (i8 G) H s Q) z5 s₂) z5 s1:=by
   intro gm;refine gm _ _ ?_;refine args (.builtin (b2o m')) (λH2 vs Q=>S9 (j5 G.F n) (.lst m') (.ref a) (nm x) vs H2 Q) (λh _=>a0A (λa=>by intro e;cases e) h) q1 λs2 H2 vs us R2 rv _ h=>?_
   revert h;intro q8;refine k8 q8 λa' ys ha' e2 h=>?_;clear q8;cases ha';exact a63 al R2 e2 rv h
  refine meth λpl Q q=>?_;clear meth args;have e1:∀ y:Str,y6 y=true->lmN m'=nm y->x=y:=λy hy e=>N7 hx hy (hm.trans e);cases m'
  ·refine b9 (e1 ("append":Str) (by decide +kernel) (by decide +kernel)) ?_;exact b1c ho' rfl rfl q
  ·refine b9 (e1 ("extend":Str) (by decide +kernel) (by decide +kernel)) ?_;exact b0f ho' rfl rfl q
  ·refine b9 (e1 ("pop":Str) (by decide +kernel) (by decide +kernel)) ?_;exact b51 ho' rfl rfl q
 | dct m' =>
  refine eA hk λq14 hm=>?_;clear hk;refine a5K q14 λa es' ep q15 e1=>?_;clear q14;subst q15;replace r1:=R4 r1;subst r1;refine a0G (st.rel.objs _ _ e1) λ_ _ ents' ho' r'=>?_;have meth:(∀ pl Q,Q (Value.builtin (b2w m'),[Value.ref a]) s1->wpAny (model prog w) A (getMethod (.ref a) x pl) Q z5 s1) ->
    wpAny (model prog w) A (getMethod (.ref a) x pl) (λfx s₂=>wpAny (model prog w) A (callWith pos fx.1 fx.2 (backTo pos (starEach es env)) []) (V6 G w (i8 G) H s Q) z5 s₂) z5 s1:=by
   intro gm;refine gm _ _ ?_;refine args (.builtin (b2w m')) (λH2 vs Q=>S9 (j5 G.F n) (.dct m') (.ref a) (nm x) vs H2 Q) (λh _=>a0A (λa=>by intro e;cases e) h) q1 λs2 H2 vs us R2 rv _ h=>?_
   revert h;intro q9;refine a2t q9 λa' ys ep' ha' e2 h=>?_;clear q9;cases ha';exact a7V g.toGk al R2 e2 rv h
  refine meth λpl Q q=>?_;clear meth args;have e1:∀ y:Str,y6 y=true->dmN m'=nm y->x=y:=λy hy e=>N7 hx hy (hm.trans e);cases m'
  ·refine b9 (e1 ("get":Str) (by decide +kernel) (by decide +kernel)) ?_;exact b7D ho' rfl rfl q
  ·refine b9 (e1 ("setdefault":Str) (by decide +kernel) (by decide +kernel)) ?_;exact a49 ho' rfl rfl q
  ·refine b9 (e1 ("pop":Str) (by decide +kernel) (by decide +kernel)) ?_;exact b5t ho' rfl rfl q
end
end
variable {elt:PySem.Expr} {iter:PySem.Expr} {ifs:List PySem.Expr}
section
open PySem PySem.W PyProof.Rows PySem.Calls PySem.SeqAt PySem.MeetsSeq
open Classical
section
variable {prog:Program} {w:World} {G:Gi}
theorem a0c {h':Heap} (R:w6 G w H s.heap) (own:∀ b∈wr,H b=none/\G.base b=none) (ns:∀ b∈wr,∃ o,s.heap.get? b=some o/\B9 o) (hk:∀ b o,b∉wr->s.heap.get? b=some o->h'.get? b=some o) :
  k9 G w (·∈wr) H s H {s with heap:=h',toks:=t}:=by
 have tup:∀ b vs,IsTup s.heap b vs->IsTup h' b vs:=λb vs ⟨o,ho,hc,n,hd⟩=>⟨o,hk b o (λhb=>by
  refine i9 (ns b hb) λo' ho' hn=>?_;rw [ho] at ho';have q3:=A3 ho';clear ho';subst q3;exact hn _ _ hd) ho,hc,n,hd⟩
 refine ⟨⟨λa o e=>?_,λa mo e=>?_⟩,⟨λa o e _ g=>hk a o g e,λ_ e=>.inl e,λ_ e=>e,λa e g=>?_⟩,rfl,rfl⟩
 ·refine eA (R.base a o e) λe1 e2=>?_;exact ⟨hk a o (λhb=>by rw [(own a hb).2] at e;cases e) e1,e2⟩
 ·exact (R.objs a mo e).mono tup λo ho=>hk a o (λhb=>by rw [(own a hb).1] at e;cases e) ho
 ·refine eE (Option.isSome_iff_exists.mp e) λo e=>?_;show (h'.get? a).isSome=true;refine b9 (hk a o g e) ?_;rfl
noncomputable def a6L (e:PySem.Expr):Bool:=match e with
 | .Tuple ..=>true
 | _=>false
theorem ni {b I:Addr} (h:b∉[I]):b≠I:=λe=>h (e▸List.mem_singleton.mpr rfl)
theorem ni1 {b e I:Addr} (h:b∉[e,I]):b≠e:=λq=>h (q▸List.mem_cons_self)
theorem ni2 {b e I:Addr} (h:b∉[e,I]):b≠I:=λq=>h (q▸List.mem_cons_of_mem _ List.mem_cons_self)
structure T6 (prog:Program) (w:World) (G:Gi) (I:Addr) (wr:List Addr) (src:Src) (tupOnly:Bool) (St:Nat->Heap->Prop):Prop where
 mem:I∈wr
 frame:∀ i h h',St i h->(∀ b∈wr,∀ o,h.get? b=some o->h'.get? b=some o)->(∀ a vs,IsTup h a vs->IsTup h' a vs)->St i h'
 nons:∀ i h,St i h->∀ b∈wr,∃ o,h.get? b=some o/\B9 o
 self:∀ (A:Around) (i:Nat) (s:Shared) (Q:Value->Shared->Prop),St i s.heap->Q (.ref I) s->wpAny (model prog w) A (pyIter (.ref I)) Q z5 s
 next:∀ (A:Around) (i:Nat) (s:Shared) (H:Hp) (r:Option d8),A.handled=none->w6 G w H s.heap->St i s.heap->(∀ b∈wr,H b=none/\G.base b=none)->src.next H i r ->
  wpAny (model prog w) A (pyNext (.ref I)) (λo s'=>match r with
   | none=>o=none/\k9 G w (·∈wr) H s H s'
   | some v=>∃ u,o=some u/\i8 G s'.heap v u/\k9 G w (·∈wr) H s H s'/\(tupOnly=false->St (i+1) s'.heap)/\(∀ b∈wr,∃ o,s'.heap.get? b=some o/\B9 o)/\∀ (target:PySem.Expr) (Q:Unit->Shared->Prop),(tupOnly=true->a6L target=true) ->
     (∀ s'',k9 G w (·∈wr) H s' H s''->St (i+1) s''.heap->Q () s'')->wpAny (model prog w) A (letOwnedTupleGo target (.ref I) u) Q z5 s') z5 s
theorem Y4 (ho:h.get? I=some o) (hn:B9 o):∀ b∈[I],∃ o,h.get? b=some o/\B9 o:=λb hb=>by
 simp only [List.mem_singleton] at hb;subst hb;exact ⟨o,ho,hn⟩
theorem r7 (hd:o.data=.fields vs):B9 o:=λws n e=>by rw [hd] at e;cases e
theorem Q3 {target:PySem.Expr} {T:String} {Q:Unit->Shared->Prop} (ho:s.heap.get? I=some o) (hc:o.cls=.type T)
  (hn:["enumerate","zip","dict_itemiterator","dict_reverseitemiterator","odict_iterator","itertools.zip_longest","itertools.pairwise"].contains T=false) (h:Q () s):wpAny (model prog w) A (letOwnedTupleGo target (.ref I) u) Q z5 s:=by
 obtain ⟨c,od,dt,sl⟩:=o;cases hc;cases target <;> first | exact c7u h | skip
 all_goals
  cases u <;> first | exact c7u h | skip
  refine c7t (wpAny_load ho ?_);cases dt <;> first | exact c7u h | skip
  show wpAny _ _ (if (List.contains _ T&&_)=true then _ else pure ()) Q z5 s
  refine b9 hn ?_;refine b9 (Bool.false_and ..) ?_;exact c7u h
theorem b3Q (hne:a≠I):T6 prog w G I [I] (.lst a) false (λi h=>h.IsListIter I a i) where
 mem:=by simp
 frame:=λ_ _ _ st hk _=>st.at λo e=>hk I (by simp) o e
 nons:=λi h ⟨o,ho,_,hd⟩ b hb=>by
  simp only [List.mem_singleton] at hb;subst hb;exact ⟨o,ho,λvs n e=>by rw [hd] at e;cases e⟩
 self:=λ_ _ _ _ st h=>wpAny_pyIter_listiter st h
 next:=λA i s H r hh R st own e=>by
  have ns:∀ b∈[I],∃ o,s.heap.get? b=some o/\B9 o:=let ⟨o,ho,_,hd⟩:=st;Y4 ho (r7 hd);refine i9 e λxs e1 q4=>?_;clear e;subst q4
  ·refine A6 (R.objs _ _ e1) λvs k ho rv=>?_;have hl:s.heap.IsList a vs:=⟨_,ho,rfl,_,rfl⟩;have n1:xs.length=vs.size:=by refine b9 rv.length ?_;refine b9 Array.length_toList ?_;rfl
   cases hx:xs[i]? with
   | none =>
    refine wpAny_pyNext_list_end hh st hl ?_ λh' he=>⟨rfl,a0c R own ns λb o hb e=>he b o (ni hb) e⟩;refine I9 (Array.getElem?_eq_none_iff ..) ?_;rw [List.getElem?_eq_none_iff] at hx;exact b4z n1 hx
   | some x =>
    refine i9 (rv.get i hx) λu h1 h2=>?_;rw [Array.getElem?_toList] at h1;refine wpAny_pyNext_list_item st hl h1 λh' hit hs=>?_;have st1:k9 G w (·∈[I]) H s H {s with heap:=h'}:=a0c R own ns λb o hb e=>hs.extBut b o (ni hb) e
    refine ⟨u,rfl,h2.mono λb vs t=>?_,st1,λ_=>hit,let ⟨o,ho,_,hd⟩:=hit;Y4 ho (r7 hd),λtarget Q _ hq=>?_⟩
    ·refine st1.ext.tup R (λc o vs n hc e1 _ e2=>?_) t;refine i9 (ns c hc) λo' e3 e4=>?_;rw [e1] at e3;have q1:=A3 e3;clear e3;subst q1;exact e4 _ _ e2
    ·refine B2 (id hit) λo ho hc hd=>?_;exact Q3 ho hc (by decide) (hq _ (.refl st1.rel) hit)
theorem b0l {I t:Addr} {vs:List Value}:T6 prog w G I [I] (.seq l) false (λi h=>h.IsTupleIter I t i/\IsTup h t vs.toArray/\l5 G h l vs) where
 mem:=by simp
 frame:=λ_ _ _ st hk ht=>⟨st.1.at λo e=>hk I (by simp) o e,ht _ _ st.2.1,st.2.2.mono ht⟩
 nons:=λi h ⟨⟨o,ho,_,hd⟩,_⟩ b hb=>by
  simp only [List.mem_singleton] at hb;subst hb;exact ⟨o,ho,λvs n e=>by rw [hd] at e;cases e⟩
 self:=λ_ _ _ _ st h=>wpAny_pyIter_tupleiter st.1 h
 next:=λA i s H r hh R st own e=>by
  refine eAA st λhit ht rv=>?_;clear st;have ns:∀ b∈[I],∃ o,s.heap.get? b=some o/\B9 o:=let ⟨o,ho,_,hd⟩:=hit;Y4 ho (r7 hd);cases (show r=_ from e);cases hx:l[i]? with
  | none =>
   refine wpAny_pyNext_tuple_end hh hit ht ?_ λh' he=>⟨rfl,a0c R own ns λb o hb e=>he b o (ni hb) e⟩;have:=rv.get_none i hx;simpa using this
  | some x =>
   refine i9 (rv.get i hx) λu h1 h2=>?_;refine wpAny_pyNext_tuple_item hit ht (x:=u) (by simpa using h1) λh' hit' hs=>?_
   have st1:k9 G w (·∈[I]) H s H {s with heap:=h'}:=a0c R own ns λb o hb e=>hs.extBut b o (ni hb) e
   have tup:∀ b vs,IsTup s.heap b vs->IsTup h' b vs:=λb vs t=>by
    refine st1.ext.tup R (λc o vs n hc e1 _ e2=>?_) t;refine i9 (ns c hc) λo' e3 e4=>?_;rw [e1] at e3;have q2:=A3 e3;clear e3;subst q2;exact e4 _ _ e2
   refine ⟨u,rfl,h2.mono tup,st1,λ_=>⟨hit',tup _ _ ht,rv.mono tup⟩,let ⟨o,ho,_,hd⟩:=hit';Y4 ho (r7 hd),λtarget Q _ hq=>?_⟩;refine B2 (id hit') λo ho hc hd=>?_;exact Q3 ho hc (by decide) (hq _ (.refl st1.rel) ⟨hit',tup _ _ ht,rv.mono tup⟩)
theorem a5o {a:Int}:T6 prog w G I [I] (.seq ((List.range n).map λi=>d8.int (a+(i:Nat)))) false (λi h=>IsRangeIter h I (a+(i:Nat)) ((n:Int) - (i:Nat)) 1) where
 mem:=by simp
 frame:=λ_ _ _ st hk ht=>hk I (by simp) _ st
 nons:=λi h ho b hb=>by
  simp only [List.mem_singleton] at hb;subst hb;exact ⟨_,ho,λvs n e=>by cases e⟩
 self:=λ_ _ _ _ st h=>wpAny_pyIter_rangeiter st h
 next:=λA i s H r hh R st own e=>by
  have ns:∀ b∈[I],∃ o,s.heap.get? b=some o/\B9 o:=Y4 st (r7 rfl);cases (show r=_ from e);by_cases hi:i < n
  ·have hx:((List.range n).map λi=>d8.int (a+(i:Nat)))[i]?=some (.int (a+(i:Nat))):=by simp [hi]
   refine b9 hx ?_;refine wpAny_pyNext_range_item st (c0Z hi) λh' hit' hs=>?_;have st1:k9 G w (·∈[I]) H s H {s with heap:=h',toks:=s.toks+1}:=a0c R own ns λb o hb e=>hs.extBut b o (ni hb) e
   have next':IsRangeIter h' I (a+((i+1:Nat):Int)) ((n:Int) - ((i+1:Nat):Int)) 1:=by
    have e1:a+((i+1:Nat):Int)=a+(i:Int)+1:=by exact c5V
    have e2:(n:Int) - ((i+1:Nat):Int)=(n:Int) - (i:Int) - 1:=by exact b89
    refine b9 e1 ?_;refine b9 e2 ?_;exact hit'
   refine ⟨_,rfl,.int,st1,λ_=>next',Y4 hit' (r7 rfl),λtarget Q _ hq=>?_⟩;refine Q3 hit' rfl (by decide) (hq _ (.refl st1.rel) ?_)
   have e1:a+((i+1:Nat):Int)=a+(i:Int)+1:=by exact c5V
   have e2:(n:Int) - ((i+1:Nat):Int)=(n:Int) - (i:Int) - 1:=by exact b89
   refine b9 e1 ?_;refine b9 e2 ?_;exact hit'
  ·have hx:((List.range n).map λi=>d8.int (a+(i:Nat)))[i]?=none:=by simp;exact zo1 hi
   refine b9 hx ?_;exact wpAny_pyNext_range_end hh st (c6n hi) λh' he=>⟨rfl,a0c R own ns λb o hb e=>he b o (ni hb) e⟩
end
end
variable {tg2:PySem.Expr} {iter2:PySem.Expr}
section
open PySem PySem.W PyProof.Rows PySem.Calls PySem.SeqAt PySem.MeetsSeq
open Classical
section
variable {prog:Program} {w:World} {G:Gi}
theorem a8V {e I:Addr} {o o':Obj} (ho:h.get? e=some o) (hn:B9 o) (ho':h.get? I=some o') (hn':B9 o'):∀ b∈[e,I],∃ o,h.get? b=some o/\B9 o:=λb hb=>by
 rcases List.mem_cons.mp hb with rfl | hb
 ·exact ⟨o,ho,hn⟩
 ·exact Y4 ho' hn' b hb
theorem a9D {x:String} {t:Tok} {ty:String} (hty:ty="str_ascii_iterator"\/ty="str_iterator") :
  T6 prog w G I [I] (.seq (x.toList.map λc=>d8.str (String.singleton c))) false (λi h=>h.IsStrIter I ty (Str.ofString x) t i) where
 mem:=by simp
 frame:=λ_ _ _ ⟨o,ho,r⟩ hk _=>⟨o,hk I (by simp) o ho,r⟩
 nons:=λi h ⟨o,ho,_,hd⟩ b hb=>by
  simp only [List.mem_singleton] at hb;subst hb;exact ⟨o,ho,λvs n e=>by rw [hd] at e;cases e⟩
 self:=λ_ _ _ _ st h=>by
  rcases hty with rfl | rfl
  ·exact wpAny_pyIter_striter_ascii st h
  ·exact wpAny_pyIter_striter_wide st h
 next:=λA i s H r hh R st own e=>by
  have ns:∀ b∈[I],∃ o,s.heap.get? b=some o/\B9 o:=let ⟨o,ho,_,hd⟩:=st;Y4 ho (r7 hd);cases (show r=_ from e);have cps:∀ j:Nat,(Str.ofString x).cps[j]?=(x.toList[j]?).map Char.toNat:=λj=>by
   refine b9 (r9 ..) ?_;simp
  have item:∀ c:Char,x.toList[i]?=some c->∀ h' ,h'.IsStrIter I ty (Str.ofString x) t (i+1)->Heap.SameBut I s.heap h' ->
    ∃ u,some (Value.str ⟨#[c.toNat]⟩ s.toks)=some u/\i8 G h' (.str (String.singleton c)) u/\k9 G w (·∈[I]) H s H {s with heap:=h',toks:=s.toks+1}/\((false:Bool)=false->h'.IsStrIter I ty (Str.ofString x) t (i+1))/\(∀ b∈[I],∃ o,h'.get? b=some o/\B9 o)/\∀ (target:PySem.Expr) (Q:Unit->Shared->Prop),((false:Bool)=true->a6L target=true) ->
     (∀ s'',k9 G w (·∈[I]) H {s with heap:=h',toks:=s.toks+1} H s''->s''.heap.IsStrIter I ty (Str.ofString x) t (i+1)->Q () s'')->wpAny (model prog w) A (letOwnedTupleGo target (.ref I) u) Q z5 {s with heap:=h',toks:=s.toks+1}:=by
   intro c hc h' hit' hs;have st1:k9 G w (·∈[I]) H s H {s with heap:=h',toks:=s.toks+1}:=a0c R own ns λb o hb e=>hs.extBut b o (ni hb) e
   refine ⟨_,rfl,?_,st1,λ_=>hit',let ⟨o,ho,_,hd⟩:=hit';Y4 ho (r7 hd),λtarget Q _ hq=>?_⟩
   ·exact a6Y c▸.str
   ·refine B2 (id hit') λo ho hc' hd=>?_;rcases hty with rfl | rfl
    ·exact Q3 (s:={s with heap:=h',toks:=s.toks+1}) ho hc' (by decide) (hq _ (.refl st1.rel) hit')
    ·exact Q3 (s:={s with heap:=h',toks:=s.toks+1}) ho hc' (by decide) (hq _ (.refl st1.rel) hit')
  cases hx:x.toList[i]? with
  | none =>
   have e1:(x.toList.map λc=>d8.str (String.singleton c))[i]?=none:=by simp [hx]
   have e2:(Str.ofString x).cps[i]?=none:=by refine b9 (cps ..) ?_;refine b9 hx ?_;rfl
   refine b9 e1 ?_;rcases hty with rfl | rfl
   ·exact wpAny_pyNext_ascii_end hh st e2 λh' he=>⟨rfl,a0c R own ns λb o hb e=>he b o (ni hb) e⟩
   ·exact wpAny_pyNext_wide_end hh st e2 λh' he=>⟨rfl,a0c R own ns λb o hb e=>he b o (ni hb) e⟩
  | some c =>
   have e1:(x.toList.map λc=>d8.str (String.singleton c))[i]?=some (.str (String.singleton c)):=by simp [hx]
   have e2:(Str.ofString x).cps[i]?=some c.toNat:=by refine b9 (cps ..) ?_;refine b9 hx ?_;rfl
   refine b9 e1 ?_;rcases hty with rfl | rfl
   ·exact wpAny_pyNext_ascii_item st e2 λh' hit' hs=>item c hx h' hit' hs
   ·exact wpAny_pyNext_wide_item st e2 λh' hit' hs=>item c hx h' hit' hs
theorem b28 {e I a:Addr} (hne:e≠I) (hae:a≠e) (haI:a≠I):T6 prog w G e [e,I] (.enum a) true (λi h=>(∃ old,IsEnum h e I i old)/\h.IsListIter I a i) where
 mem:=by simp
 frame:=λ_ _ _ st hk _=>⟨let ⟨old,h⟩:=st.1;⟨old,hk e (by simp) _ h⟩,st.2.at λo ho=>hk I (by simp) o ho⟩
 nons:=λi h ⟨⟨old,he⟩,o,ho,_,hd⟩ b hb=>a8V he (r7 rfl) ho (r7 hd) b hb
 self:=λ_ _ _ _ st h=>by
  refine eA st λq3 _=>?_;clear st;refine eE q3 λold he=>?_;clear q3;exact wpAny_pyIter_enum he h
 next:=λA i s H r hh R st own ee=>by
  refine eA st λq4 hit=>?_;clear st;refine eE q4 λold he=>?_;clear q4;have ns:∀ b∈[e,I],∃ o,s.heap.get? b=some o/\B9 o:=let ⟨o,ho,_,hd⟩:=hit;a8V he (r7 rfl) ho (r7 hd);refine i9 ee λxs e1 q2=>?_;clear ee;subst q2
  ·refine A6 (R.objs _ _ e1) λvs k ho rv=>?_;have hl:s.heap.IsList a vs:=⟨_,ho,rfl,_,rfl⟩;have n1:xs.length=vs.size:=by refine b9 rv.length ?_;refine b9 Array.length_toList ?_;rfl
   cases hx:xs[i]? with
   | none =>
    refine wpAny_pyNext_enum_end hh he hit hl ?_ λh' hb=>⟨rfl,a0c R own ns λb o hb' e=>hb b o (ni2 hb') e⟩;refine I9 (Array.getElem?_eq_none_iff ..) ?_;rw [List.getElem?_eq_none_iff] at hx;exact b4z n1 hx
   | some x =>
    refine i9 (rv.get i hx) λu h1 h2=>?_;rw [Array.getElem?_toList] at h1;refine wpAny_pyNext_enum_item he hit hl h1 hne λh' hout hit' htup hsz hk=>?_;have st1:k9 G w (·∈[e,I]) H s H {s with heap:=h',toks:=s.toks+1}:=a0c R own ns λb o hb e=>hk b o (ni1 hb) (ni2 hb) e
    have tup:∀ b vs,IsTup s.heap b vs->IsTup h' b vs:=λb vs t=>by
     refine st1.ext.tup R (λc o vs n hc e1 _ e2=>?_) t;refine i9 (ns c hc) λo' e3 e4=>?_;rw [e1] at e3;have q1:=A3 e3;clear e3;subst q1;exact e4 _ _ e2
    have nsOut:∀ b∈[e,I],∃ o,h'.get? b=some o/\B9 o:=let ⟨o,ho,_,hd⟩:=hit';a8V hout (r7 rfl) ho (r7 hd);refine ⟨_,rfl,?_,st1,λz=>absurd z (by decide),nsOut,λtarget Q ht hq=>?_⟩
    ·exact .tup (vs:=[.int i s.toks,u]) ⟨_,htup,rfl,_,rfl⟩ (.cons .int (.cons (h2.mono tup) .nil))
    ·have ht:=ht rfl;cases target <;> first | exact absurd ht Bool.false_ne_true | skip
     refine wpAny_letOwnedTupleGo_enum (s:={s with heap:=h',toks:=s.toks+1}) hout λh'' he'' hs''=>?_
     have st2:=a0c (s:={s with heap:=h',toks:=s.toks+1}) (t:=s.toks+1) (h':=h'') st1.rel own nsOut λb o hb e=>hs''.extBut b o (ni1 hb) e
     refine hq _ st2 ⟨⟨_,he''⟩,?_⟩;refine i9 hit' λo ho r=>?_;clear hit';exact ⟨o,(hs''.2 I (Ne.symm hne)).trans ho,r⟩
end
section
variable {prog:Program} {w:World} {G:Gi} {A:Around} {E:Value->Shared->Prop} {s:Shared}
theorem a9X {it d:Addr} {i ep:Nat} {od:Obj} {en:DictEntry} {Q:Option Value->Shared->Prop} (hit:s.heap.IsKeyIter it d i ents.size ep)
  (hod:s.heap.get? d=some od) (hdd:od.data=.dict ents ep) (hx:ents[i]?=some en)
  (hQ:∀ h',h'.IsKeyIter it d (i+1) ents.size ep->Heap.SameBut it s.heap h'->Q (some en.key) {s with heap:=h'}) :
  wpAny (model prog w) A (pyNext (.ref it)) Q E s:=by
 refine B2 (id hit) λo ho hc hd=>?_;unfold pyNext;refine c7t (wpAny_attempt (wpAny_callSpecial?_slot (name:=Str.ofString "__next__") hit.typeIs PySem.F.slot_dict_keyiterator_next
  (wpAny_call_entry PySem.F.slot_dict_keyiterator_next hit.typeIs PySem.F.entry_dict_keyiterator_next ?_ (PySem.F.args_dict_keyiterator_next_1 _))))
 refine c7t (c7u ?_);refine c7t ?_;refine c7t ?_
 first | refine c7t (wpAny_typeNameOfWhole_keyiter hit.typeIs (c7u ?_)) | refine c7t (wpAny_typeNameOf_keyiter hit.typeIs (c7u ?_))
 refine c7t (wpAny_fieldsOf ho hd ?_);have hown:Builtin.Dict_items.ownsTuple "dict_keyiterator"=false:=by decide
 refine b9 hown ?_;show wpAny _ _ (if (Value.ref d==Value.none)=true then _ else _) _ _ s
 refine b9 (if_neg (show ¬ ((Value.ref d==Value.none)=true) from Bool.false_ne_true)) ?_;refine c7t (c7u ?_);refine c7t (wpAny_dictEntries hod hdd ?_);refine b9 (if_neg (by simp)) ?_
 refine c7t (c7u ?_);refine c7t (wpAny_dictEpoch hod hdd ?_);refine b9 (if_neg (by simp)) ?_
 refine c7u ?_;dsimp only;refine b9 (if_neg (show ¬ ((i:Int) < 0) from by exact c2c)) ?_;refine b9 (Int.toNat_natCast ..) ?_;refine b9 hx ?_
 refine c7t ?_
 first | refine c7t (wpAny_typeNameOfWhole_keyiter hit.typeIs (c7u ?_)) | refine c7t (wpAny_typeNameOf_keyiter hit.typeIs (c7u ?_))
 refine c7t (wpAny_isOneOf_keyiter hit.typeIs ?_);show wpAny _ _ (setField (.ref it) 1 (rawInt ((i:Int)+1))>>=_) _ _ s;refine c7t (wpAny_setField ho hd (by simp) ?_)
 have hit':(s.heap.update it (Obj.mapFields (·.setIfInBounds 1 (rawInt ((i:Int)+1))))).IsKeyIter it d (i+1) ents.size ep :=
  ⟨_,Heap.get?_update_self _ ho (Obj.isFreed_of_fields (Obj.data_mapFields hd _)),(Obj.cls_mapFields ..).trans hc,by rewrite [Obj.data_mapFields hd];simp [rawInt]⟩
 refine c7t (wpAny_holding ?_);refine c7t (wpAny_isOneOf_keyiter (s:={s with heap:=s.heap.update it (Obj.mapFields (·.setIfInBounds 1 (rawInt ((i:Int)+1))))}) hit'.typeIs ?_)
 show wpAny _ _ (pure en.key) _ _ _;exact c7u (c7u ⟨_,rfl,c7u (hQ _ hit' (Heap.SameBut.update ..))⟩)
theorem b1g {it d:Addr} {i ep:Nat} {od:Obj} {Q:Option Value->Shared->Prop} (hh:A.handled=none) (hit:s.heap.IsKeyIter it d i ents.size ep)
  (hod:s.heap.get? d=some od) (hdd:od.data=.dict ents ep) (hge:ents.size<=i) (hQ:∀ h',Heap.ExtBut it s.heap h'->Q none {s with heap:=h'}):wpAny (model prog w) A (pyNext (.ref it)) Q E s:=by
 refine B2 (id hit) λo ho hc hd=>?_;unfold pyNext;refine c7t (wpAny_attempt (wpAny_callSpecial?_slot (name:=Str.ofString "__next__") hit.typeIs PySem.F.slot_dict_keyiterator_next
  (wpAny_call_entry PySem.F.slot_dict_keyiterator_next hit.typeIs PySem.F.entry_dict_keyiterator_next ?_ (PySem.F.args_dict_keyiterator_next_1 _))))
 refine c7t (c7u ?_);refine c7t ?_;refine c7t ?_
 first | refine c7t (wpAny_typeNameOfWhole_keyiter hit.typeIs (c7u ?_)) | refine c7t (wpAny_typeNameOf_keyiter hit.typeIs (c7u ?_))
 refine c7t (wpAny_fieldsOf ho hd ?_);have hown:Builtin.Dict_items.ownsTuple "dict_keyiterator"=false:=by decide
 refine b9 hown ?_;show wpAny _ _ (if (Value.ref d==Value.none)=true then _ else _) _ _ s
 refine b9 (if_neg (show ¬ ((Value.ref d==Value.none)=true) from Bool.false_ne_true)) ?_;refine c7t (c7u ?_);refine c7t (wpAny_dictEntries hod hdd ?_);refine b9 (if_neg (by simp)) ?_
 refine c7t (c7u ?_);refine c7t (wpAny_dictEpoch hod hdd ?_);refine b9 (if_neg (by simp)) ?_
 refine c7u ?_;dsimp only;refine b9 (if_neg (show ¬ ((i:Int) < 0) from by exact c2c)) ?_;refine b9 (Int.toNat_natCast ..) ?_;refine b9 (Array.getElem?_eq_none hge) ?_
 refine c7t ?_
 first | refine c7t (wpAny_typeNameOfWhole_keyiter hit.typeIs (c7u ?_)) | refine c7t (wpAny_typeNameOf_keyiter hit.typeIs (c7u ?_))
 show wpAny _ _ (setField (.ref it) 0 .none>>=_) _ _ s;refine c7t (wpAny_setField ho hd (by simp) ?_)
 show wpAny _ _ (newExc (.type "StopIteration") []>>=_) _ _ _;refine c7t ?_;simp only [newExc,newTuple];refine c7t (wpAny_newObj_type ?_ (by size_fits))
 refine c7t (m:=firstArgMember _ _) (wpAny_of_eq (a:=Value.none) (by first | rfl | (simp only [firstArgMember];rfl)) ?_)
 refine wpAny_newObj_type ?_ (by size_fits)
 simp only [raiseNew];refine c7t (wpAny_handled ?_);refine b9 (show A.in1.handled=none from hh) ?_;refine c7t (c7u (wpAny_throw ?_));refine c7t (wpAny_isInstance (T:="StopIteration") (b:=true) ⟨_,Heap.get?_push_size _ rfl,rfl⟩ isSubtype_stop ?_);exact c7u (hQ _ (((Heap.SameBut.update ..).extBut.push _).push _))
theorem b2O {ks:List d8} (hne:a≠I):T6 prog w G I [I] (.keys a ks ep) false (λi h=>h.IsKeyIter I a i ks.length ep) where
 mem:=by simp
 frame:=λ_ _ _ ⟨o,ho,r⟩ hk _=>⟨o,hk I (by simp) o ho,r⟩
 nons:=λi h ⟨o,ho,_,hd⟩ b hb=>by
  simp only [List.mem_singleton] at hb;subst hb;exact ⟨o,ho,λvs n e=>by rw [hd] at e;cases e⟩
 self:=λ_ _ _ _ st h=>wpAny_pyIter_keyiter st h
 next:=λA i s H r hh R st own e=>by
  have ns:∀ b∈[I],∃ o,s.heap.get? b=some o/\B9 o:=let ⟨o,ho,_,hd⟩:=st;Y4 ho (r7 hd);refine B2 e λes e1 q2 q3=>?_;clear e;subst q2;subst q3
  ··refine a0G (R.objs _ _ e1) λnd ok ents ho he=>?_;have n1:(es.map (·.1)).length=ents.size:=by refine b9 (c7x ..) ?_;refine b9 he.length ?_;refine b9 Array.length_toList ?_;rfl
    rw [n1] at st;cases hx:(es.map (·.1))[i]? with
    | none =>
     refine b1g hh st ho rfl ?_ λh' he=>⟨rfl,a0c R own ns λb o hb e=>he b o (ni hb) e⟩;rw [List.getElem?_eq_none_iff] at hx;exact b4z n1 hx
    | some x =>
     rw [List.getElem?_map] at hx;refine i9 (Option.map_eq_some_iff.mp hx) λp hp q4=>?_;subst q4;refine Q2 (he.get i hp) λen h1 h2 h3 h4=>?_;rw [Array.getElem?_toList] at h1;refine a9X st ho rfl h1 λh' hit hs=>?_;have st1:k9 G w (·∈[I]) H s H {s with heap:=h'}:=a0c R own ns λb o hb e=>hs.extBut b o (ni hb) e
     have tup:∀ b vs,IsTup s.heap b vs->IsTup h' b vs:=λb vs t=>by
      refine st1.ext.tup R (λc o vs n hc e1 _ e2=>?_) t;refine i9 (ns c hc) λo' e3 e4=>?_;rw [e1] at e3;have q1:=A3 e3;clear e3;subst q1;exact e4 _ _ e2
     refine ⟨en.key,rfl,h2.mono tup,st1,λ_=>by refine b9 n1 ?_;exact hit,let ⟨o,ho,_,hd⟩:=hit;Y4 ho (r7 hd),λtarget Q _ hq=>?_⟩
     refine B2 (id hit) λo ho' hc hd=>?_;exact Q3 ho' hc (by decide) (hq _ (.refl st1.rel) (by refine b9 n1 ?_;exact hit))
theorem b0h (g:Gk G) (R:w6 G w H s.heap) (hd:H d=some (.dict es ep))
  (hQ:Q (.ref s.heap.objs.size) {s with heap:=s.heap.push {cls:=.type "dict_keyiterator",data:=.fields #[.ref d,.int 0 0,.int es.length 0,.int ep 0]}}) :
  wpAny (model prog w) A (pyIter (.ref d)) Q E s:=by
 refine a0G (R.objs _ _ hd) λnd ok ents ho he=>?_;have hT:=Q7 R hd;have n1:es.length=ents.size:=by refine b9 he.length ?_;refine b9 Array.length_toList ?_;rfl
 refine wpAny_pyIter_slot hT PySem.F.slot_dict_iter (wpAny_call_entry PySem.F.slot_dict_iter hT PySem.F.entry_dict_iter ?_ (PySem.F.args_dict_iter_1 _));unfold Builtin.«dict.__iter__»;refine c7t ?_;unfold Builtin.Dict.dictSlotNone;refine c7t (wpAny_notOrdered_dict hT ?_);show wpAny _ _ (pure (Value.ref d)) _ _ s;refine c7u ?_;show wpAny _ _ (Builtin.Dict.showsAll d>>=_) _ _ s;unfold Builtin.Dict.showsAll
 refine b9 (if_neg (by refine b9 (R.sysm g hd) ?_;exact Bool.false_ne_true)) ?_
 refine c7t (c7u ?_);refine c7t (wpAny_dictEntries ho rfl ?_);refine c7t (wpAny_dictEpoch ho rfl ?_);refine c7t (wpAny_newObj_type (c7u ⟨_,rfl,"dict_keyiterator",_,⟨_,Heap.get?_push_size _ rfl,rfl⟩,PySem.F.slot_dict_keyiterator_next.lookup,?_⟩));simpa [rawInt,n1] using hQ
end
end
variable {one2:Bool}
section
open PySem PySem.W PyProof.Rows PySem.Calls PySem.SeqAt PySem.MeetsSeq
open Classical
section
variable {prog:Program} {w:World} {G:Gi} {n m:Nat} {c:Cx}
noncomputable def a1y (prog:Program) (w:World) (G:Gi) (tup:Bool) (H:Hp) (s:Shared) (Q:Src->Hp->Prop) (itv:Value) (s':Shared):Prop :=
 ∃ I wr src St H',itv=.ref I/\T6 prog w G I wr src tup St/\St 0 s'.heap/\(∀ b∈wr,s.heap.get? b=none/\H' b=none/\G.base b=none)/\k9 G w N8 H s H' s'/\Q src H'
theorem a1y.after {tup:Bool} {H H1:Hp} {s s1 s2:Shared} {Q:Src->Hp->Prop} (st:k9 G w N8 H s H1 s1) (r:a1y prog w G tup H1 s1 Q v s2):a1y prog w G tup H s Q v s2:=by
 obtain ⟨I,wr,src,St,H',e,ok,h0,fr,st2,q⟩:=r;refine ⟨I,wr,src,St,H',e,ok,h0,λb hb=>⟨?_,(fr b hb).2⟩,st.trans st2,q⟩;cases e:s.heap.get? b with
 | none=>rfl
 | some o =>
  have:=st.ext.there b (by refine b9 e ?_;rfl) (λz=>z)
  rw [(fr b hb).1] at this;exact nomatch this
theorem E9 (R:w6 G w H h) (hk:h.objs.size<=k):h.get? k=none/\H k=none/\G.base k=none:=by
 have e:h.get? k=none:=by
  cases q:h.get? k with
  | none=>rfl
  | some o=>exact absurd (Nat.lt_of_lt_of_le (Heap.lt_size q) hk) (Nat.lt_irrefl _)
 refine ⟨e,?_,?_⟩
 ·cases q:H k with
  | none=>rfl
  | some mo=>exact absurd (Nat.lt_of_lt_of_le (R.lt q) hk) (Nat.lt_irrefl _)
 ·cases q:G.base k with
  | none=>rfl
  | some o=>rw [(R.base k o q).1] at e;exact nomatch e
theorem T5 {src:Src} {St:Nat->Heap->Prop} {tup:Bool} {Q:Src->Hp->Prop} (R:w6 G w H s.heap) (ok:T6 prog w G s.heap.objs.size [s.heap.objs.size] src tup St) (h0:St 0 (s.heap.push o)) (q:Q src H) :
  a1y prog w G tup H s Q (.ref s.heap.objs.size) {s with heap:=s.heap.push o,toks:=t}:=by
 refine ⟨_,_,src,St,H,rfl,ok,h0,λb hb=>?_,.push R,q⟩;simp only [List.mem_singleton] at hb;subst hb;exact E9 R (Nat.le_refl _)
theorem a7n {Q:Src->Hp->Prop} (g:Gk G) (R:w6 G w H s.heap) (rp:i8 G s.heap p v) (h:itV p H Q) :
  wpAny (model prog w) A (pyIter v) (a1y prog w G false H s Q) z5 s:=by
 rcases h with ⟨l,rfl,h⟩ | ⟨x,rfl,h⟩ | ⟨a,xs,rfl,e,h⟩ | ⟨a,es,ep,rfl,e,h⟩
 ·replace rp:=Y0 rp;refine k8 rp λa vs q4 t r=>?_;clear rp;subst q4;exact wpAny_pyIter_tuple t (T5 R b0l ⟨⟨_,Heap.get?_push_size _ rfl,rfl,rfl⟩,R8 t,r.mono λ_ _=>R8⟩ h)
 ·replace rp:=a1h rp;refine eE rp λt q1=>?_;clear rp;subst q1;cases ha:(Str.ofString x).cps.all (· < 128)
  ·exact wpAny_pyIter_wide ha (T5 R (a9D (.inr rfl)) ⟨_,Heap.get?_push_size _ rfl,rfl,rfl⟩ h)
  ·exact wpAny_pyIter_ascii ha (T5 R (a9D (.inl rfl)) ⟨_,Heap.get?_push_size _ rfl,rfl,rfl⟩ h)
 ·replace rp:=R4 rp;subst rp;refine A6 (R.objs _ _ e) λvs k ho r=>?_;exact wpAny_pyIter_list ⟨_,ho,rfl,_,rfl⟩ (T5 R (b3Q (Nat.ne_of_lt (Heap.lt_size ho))) ⟨_,Heap.get?_push_size _ rfl,rfl,rfl⟩ h)
 ·replace rp:=R4 rp;subst rp;refine a0G (R.objs _ _ e) λ_ _ ents ho _=>?_;exact b0h g R e (T5 R (b2O (Nat.ne_of_lt (Heap.lt_size ho))) ⟨_,Heap.get?_push_size _ rfl,rfl,by refine b9 (c7x ..) ?_;rfl⟩ h)
theorem J3 {x y:Str} (h:t4 c x y=true):x=y/\c.kind x=.glob/\c.fns.contains x=false/\c.clss.contains x=false:=by
 refine eA ((Bool.and_eq_true_iff).mp h) λh1 h=>?_;refine eA ((Bool.and_eq_true_iff).mp h) λh2 h=>?_;refine eA ((Bool.and_eq_true_iff).mp h) λh3 h4=>?_;exact ⟨eq_of_beq h1,a5W h2,Bool.not_eq_true' _▸h3,Bool.not_eq_true' _▸h4⟩
theorem b02 {vs:List d8} {us:List Value} {Q:Src->Hp->Prop} (R:w6 G w H s.heap) (rv:l5 G s.heap vs us) (h:itR vs H Q) :
  wpAny (model prog w) A (call (.type "range") us) (λx s1=>wpAny (model prog w) A (pyIter x) (a1y prog w G false H s Q) z5 s1) z5 s:=by
 have lim62:(o5:Int) < 2 ^ 62:=by decide
 rcases h with ⟨nn,rfl,h1,h2,h⟩ | ⟨mm,nn,rfl,h1,h2,h3,h4,h⟩
 ·skip
  replace rv:=F0 rv;refine k8 rv λu us' q11 q12 q14=>?_;clear rv;subst q11;refine eE q12 λt q13=>?_;clear q12;subst q13;subst q14;refine call_range_1 (wpAny_pyIter_range (IsRange.new ..) (small_one (by decide) (by decide) (b7h lim62 h1) (b7W lim62 h2)) ?_)
  have R1:=R.push {cls:=.type "range",data:=.fields #[.int 0 s.toks,.int nn t,.int 1 (s.toks+1)]};have st1:k9 G w N8 H s H {s with heap:=s.heap.push {cls:=.type "range",data:=.fields #[.int 0 s.toks,.int nn t,.int 1 (s.toks+1)]},toks:=s.toks+1+1}:=.push R
  have hsz:Builtin.Range.rangeSize 0 nn 1=((nn - 0).toNat:Int):=by refine b9 (rangeSize_one ..) ?_;split <;> omega
  refine (T5 (s:={s with heap:=s.heap.push {cls:=.type "range",data:=.fields #[.int 0 s.toks,.int nn t,.int 1 (s.toks+1)]},toks:=s.toks+1+1}) R1 (a5o (a:=0) (n:=(nn - 0).toNat)) ?_ h).after st1
  have e1:(0:Int)+((0:Nat):Int)=0:=by simp
  have e2:(((nn - 0).toNat:Nat):Int) - ((0:Nat):Int)=((nn - 0).toNat:Int):=by simp
  dsimp only;refine b9 hsz ?_;refine b9 e1 ?_;refine b9 e2 ?_;exact Heap.get?_push_size _ rfl
 ·skip
  replace rv:=F0 rv;refine a1X rv λu us' q15 q16 u2 us2 q18 q19 q21=>?_;clear rv;subst q15;refine eE q16 λt q17=>?_;clear q16;subst q17;subst q18;refine eE q19 λt2 q20=>?_;clear q19;subst q20;subst q21;refine call_range_2 (wpAny_pyIter_range (IsRange.new ..) (small_one (b7h lim62 h1) (b7W lim62 h2) (b7h lim62 h3) (b7W lim62 h4)) ?_);have R1:=R.push {cls:=.type "range",data:=.fields #[.int mm t,.int nn t2,.int 1 s.toks]}
  have st1:k9 G w N8 H s H {s with heap:=s.heap.push {cls:=.type "range",data:=.fields #[.int mm t,.int nn t2,.int 1 s.toks]},toks:=s.toks+1}:=.push R
  have hsz:Builtin.Range.rangeSize mm nn 1=((nn - mm).toNat:Int):=by refine b9 (rangeSize_one ..) ?_;split <;> omega
  refine (T5 (s:={s with heap:=s.heap.push {cls:=.type "range",data:=.fields #[.int mm t,.int nn t2,.int 1 s.toks]},toks:=s.toks+1}) R1 (a5o (a:=mm) (n:=(nn - mm).toNat)) ?_ h).after st1
  have e1:mm+((0:Nat):Int)=mm:=by simp
  have e2:(((nn - mm).toNat:Nat):Int) - ((0:Nat):Int)=((nn - mm).toNat:Int):=by simp
  dsimp only;refine b9 hsz ?_;refine b9 e1 ?_;refine b9 e2 ?_;exact Heap.get?_push_size _ rfl
theorem b2L {Q:Src->Hp->Prop} (R:w6 G w H s.heap) (rp:i8 G s.heap p v) (h:itE p H Q) :
  wpAny (model prog w) A (call (.type "enumerate") [v]) (λx s1=>wpAny (model prog w) A (pyIter x) (a1y prog w G true H s Q) z5 s1) z5 s:=by
 revert h;intro q3;refine k8 q3 λa xs q2 e h=>?_;clear q3;subst q2;replace rp:=R4 rp;subst rp
 ··refine A6 (R.objs _ _ e) λvs k ho r=>?_;have hla:=Heap.lt_size ho;refine call_enumerate_1 ho λh' he hit hz hk=>wpAny_pyIter_enum he ?_;have st:k9 G w N8 H s H {s with heap:=h'}:=by
    have tup:∀ b vs,IsTup s.heap b vs->IsTup h' b vs:=λb vs ⟨o,ho,r⟩=>⟨o,hk b o ho,r⟩;refine ⟨⟨λa o e=>?_,λa mo e=>?_⟩,⟨λa o e _ _=>hk a o e,λ_ e=>.inl e,λ_ e=>e,λa e _=>?_⟩,rfl,rfl⟩
    ·exact ⟨hk a o (R.base a o e).1,(R.base a o e).2⟩
    ·exact (R.objs a mo e).mono tup λo ho=>hk a o ho
    ·refine eE (Option.isSome_iff_exists.mp e) λo e=>?_;show (h'.get? a).isSome=true;refine b9 (hk a o e) ?_;rfl
   refine ⟨_,_,_,_,H,rfl,b28 (a:=a) (I:=s.heap.objs.size) (Nat.ne_of_gt (Nat.lt_succ_self _)) (Nat.ne_of_lt (Nat.lt_succ_of_lt hla)) (Nat.ne_of_lt hla),⟨⟨_,he⟩,hit⟩,λb hb=>?_,st,h⟩;simp only [List.mem_cons,List.not_mem_nil,or_false] at hb;rcases hb with rfl | rfl
   ·exact E9 R (Nat.le_succ _)
   ·exact E9 R (Nat.le_refl _)
noncomputable def SIt (prog:Program) (w:World) (G:Gi) (n m:Nat) (c:Cx) (e:PySem.Expr) (it:It):Prop :=
 ∀ (A:Around) (s:Shared) (H:Hp) (r:En) (env:Env) (Q:Src->Hp->Prop),V2 n m A->w6 G w H s.heap->O9 G w env c r H s.heap->it.iv (j5 G.F n) r H Q ->
  (∀ x,foldedSetIterable e env x=pure x)/\wpAny (model prog w) A (eval e env) (λx s1=>wpAny (model prog w) A (pyIter x) (a1y prog w G it.tup H s Q) z5 s1) z5 s
theorem a9J {it:It} (g:Gok G c) (hs:∀ e x,P1 k c e=some x->SE prog w G n m c e x) (hset:a5p e=false) (h:(P1 k c e).map w5=some it):SIt prog w G n m c e it:=by
 refine i9 (l8 h) λx hx q5=>?_;subst q5;intro A s H r env Q al R F q;refine ⟨λv=>?_,j8 (hs e x hx A s H r env _ al R F q) λp v H1 s1 r1 st q1=>wpAny_mono (a7n g.toGk st.rel r1 q1) (λ_ _ z=>a1y.after st z) λ_ _ e=>e⟩;cases e <;> first | rfl | exact nomatch hset
theorem a4C {it:It} (g:Gok G c) (hs:∀ e x,P1 k c e=some x->SE prog w G n m c e x) (h:a3F (P1 k c) c e=some it):SIt prog w G n m c e it:=by
 unfold a3F at h;cases hset:a5p e with
 | true=>rw [hset] at h;exact x8 h
 | false =>
  rw [hset] at h;cases hc:a3e e with
  | none=>rw [hc] at h;exact a9J g hs hset h
  | some p =>
   rw [hc] at h;obtain ⟨f,args⟩:=p;refine eEE (a3y hc) λps pos q8=>?_;subst q8;replace h:b19 (P1 k c) c (.Call (.Name f ps) args [] pos) f args=some it:=h;unfold b19 at h;cases hn:t4 c f U2 with
   | true =>
    rw [hn] at h;refine a8E (J3 hn) λq9 hk h1 h2=>?_;subst q9;refine i9 (l8 h) λl hl q6=>?_;subst q6;intro A s H r env Q al R F q;refine ⟨λv=>rfl,?_⟩;refine eA (g.blt U2 (.type "range") rfl h1 h2) λb1 b2=>?_;refine wpAny_Call_NameR (wpAny_Name (a4H g R F hk b1 b2 ?_) (by decide +kernel))
    refine P9 (P:=G.K.In) (T9 hl) (λh _=>a0A (λa e=>by cases e) h) ?_
    refine j8 (a2v hs args l hl A s H r env pos _ al R F q) (λvs us H1 s1 r1 st q1=>⟨st.rel.In g,?_⟩);exact wpAny_mono (b02 st.rel r1.1 q1) (λ_ _ z=>wpAny_mono z (λ_ _ z=>a1y.after st z) λ_ _ e=>e) λ_ _ e=>e
   | false =>
    rw [hn] at h;cases hn:t4 c f a0e with
    | true =>
     rw [hn] at h;refine a8E (J3 hn) λq10 hk h1 h2=>?_;subst q10;refine i9 (f5 h) λa ha h=>?_;refine i9 (l8 h) λx hx q7=>?_;subst q7;cases one?_some ha;intro A s H r env Q al R F q;refine ⟨λv=>rfl,?_⟩;refine eA (g.blt a0e (.type "enumerate") rfl h1 h2) λb1 b2=>?_;have hl:D2 (P1 k c) [a]=some [x]:=by show ((P1 k c a).bind λb=>some [b])=_;refine b9 hx ?_;rfl
     refine wpAny_Call_NameR (wpAny_Name (a4H g R F hk b1 b2 ?_) (by decide +kernel))
     refine P9 (P:=G.K.In) (T9 hl) (λh _=>a0A (λa e=>by cases e) h) ?_
     refine wpAny_items_cons (j8 (hs a x hx A s H r env _ al R F q) (λv u H1 s1 ru st q1=>wpAny_items_nil ⟨st.rel.In g,?_⟩)) (K4 λe' p he=>by subst he;exact Z2 hx)
     exact wpAny_mono (b2L st.rel ru q1) (λ_ _ z=>wpAny_mono z (λ_ _ z=>a1y.after st z) λ_ _ e=>e) λ_ _ e=>e
    | false =>
     rw [hn] at h;exact a9J g hs hset h
end
end
variable {v:d8} {it:It}
section
open PySem PySem.W PyProof.Rows PySem.Calls PySem.SeqAt PySem.MeetsSeq
open Classical
section
variable {prog:Program} {w:World} {G:Gi} {n m:Nat} {c:Cx}
theorem S0 {x:Nm}:(r.set x v) x=some v:=by unfold En.set;refine b9 (Nat.beq_refl ..) ?_;rfl
theorem O4 {x y:Nm} (h:y≠x):(r.set x v) y=r y:=by unfold En.set;refine b9 (a8J h) ?_;rfl
theorem b5N:FX env env.locals:=.inl rfl
noncomputable def XS (env:Env) (c:Cx) (loc:Bool):Addr->Prop:=λa=>if loc then a=env.locals else FX env a
theorem XS.fx {loc:Bool} (h:XS env c loc a):FX env a:=by
 unfold XS at h;cases loc with
 | true=>exact .inl h
 | false=>exact h
noncomputable def KS (c:Cx) (loc:Bool) (x:Str):Bool:=bif loc then S7 c x else c.var x
theorem a2Y (h:S7 c x=true):c.names.lookup x=some .local:=eq_of_beq h
theorem KS.var {loc:Bool} (h:KS c loc x=true):c.kind x=.var:=by
 cases loc with
 | true=>unfold Cx.kind;refine b9 (a2Y h) ?_;rfl
 | false=>exact a7F h
theorem a2G (lo:Bool) {Q:Unit->Shared->Prop} (R:w6 G w H s.heap) (F:O9 G w env c r H s.heap) (ks:KS c lo x=true) (hx:y6 x=true) (rv:i8 G s.heap v u)
  (q:∀ s',O9 G w env c (r.set (nm x) v) H s'.heap->k9 G w (XS env c lo) H s H s'->Q () s'):wpAny (model prog w) A (bindName env x u) Q z5 s:=by
 refine wpAny_bindName ?_;have k:=KS.var ks;obtain ⟨kind,glob,blt,kinds,⟨mm,o,ho,hn,ns,loc⟩,cel,⟨o1,o2,o3⟩,inj,dom,vars⟩:=F;have dom':∀ y,y6 y=true->c.dom.contains y=false->(r.set (nm x) v) (nm y)=none:=λy hy hd=>by
  refine b9 (O4 λe=>by have:=N7 hy hx e;subst this;rw [vars y k] at hd;cases hd) ?_
  exact dom y hy hd
 have nsF:∀ b,FX env b->H b=none/\G.base b=none/\∃ o,s.heap.get? b=some o/\B9 o:=by
  rintro b (rfl | ⟨y,hy⟩)
  ·exact ⟨o1,o2,o,ho,hn⟩
  ·refine S5 (o3 y b hy) λp1 p2 p3 uu oc p4 p5=>?_;exact ⟨p1,p2,oc,p4,λvs n e=>by rw [p5] at e;cases e⟩
 have nTup:U6 (XS env c lo) s.heap:=λa o vs n hX e1 ec e2=>by
  refine a0G (nsF a (XS.fx hX)) λ_ _ o' e3 e4=>?_;rw [e1] at e3;have q3:=A3 e3;clear e3;subst q3;exact e4 _ _ e2
 rcases a22 k with k | k
 ·refine wpAny_storeName_local (kinds _ _ k) ns (λh' ns' hs=>?_) (by refine b9 kind ?_;rfl)
  refine a2t (id ns') λo' es' ep' ho' hd' rest=>?_;have hn':B9 o':=λvs n e=>by rw [hd'] at e;cases e
  have hb:=R.but (X:=XS env c lo) (h':=h') ho hn o1 o2 (by unfold XS;cases lo;exact b5N;rfl) hs (by refine b9 ho' ?_;rfl)
  have tup:∀ b vs,IsTup s.heap b vs->IsTup h' b vs:=λb vs t=>hb.2.tup R nTup t;refine q {s with heap:=h',toks:=s.toks+1} ⟨kind,glob,blt,kinds,⟨_,o',ho',hn',ns',λy vv hy ky e=>?_⟩,λy ky=>?_,⟨o1,o2,λy a e=>?_⟩,inj,dom',vars⟩ ⟨hb.1,hb.2,rfl,rfl⟩
  ·by_cases h:y=x
   ·subst h;rw [S0] at e;have q1:=A3 e;clear e;subst q1;exact ⟨u,if_pos rfl,rv.mono tup⟩
   ·rw [O4 λe=>h (N7 hy hx e)] at e;refine i9 (loc y vv hy ky e) λuu e1 e2=>?_;exact ⟨uu,by refine b9 (if_neg h) ?_;exact e1,e2.mono tup⟩
  ·refine k8 (cel y ky) λa uu e1 q6 e4=>?_;refine i9 q6 λoc e2 e3=>?_;clear q6;have hne:=(o3 y a e1).2.2.1;refine ⟨a,uu,e1,⟨oc,(hs.2 a hne).trans e2,e3⟩,λhy vv e=>?_⟩;rw [O4 λe=>by have:=N7 hy hx e;subst this;rw [k] at ky;cases ky] at e
   refine i9 (e4 hy vv e) λz e5 e6=>?_;exact ⟨z,e5,e6.mono tup⟩
  ·refine S5 (o3 y a e) λp1 p2 p3 uu oc p4 p5=>?_;exact ⟨p1,p2,p3,uu,oc,(hs.2 a p3).trans p4,p5⟩
 ·refine k8 (cel x k) λa u0 e1 e2 e3=>?_;refine a8E (o3 x a e1) λp1 p2 p3 _=>?_;refine wpAny_storeName_cell kind (kinds _ _ k) e1 e2 (λh' hc' hs=>?_);refine i9 (id e2) λoc e4 e5=>?_;have hloc:lo=false:=by
   cases lo with
   | false=>rfl
   | true=>rw [a2Y ks] at k;cases k
  have hb:=R.but (X:=XS env c lo) (h':=h') e4 (λvs n e=>by rw [e5] at e;cases e) p1 p2 (by subst hloc;exact .inr ⟨x,e1⟩) hs (Heap.IsCell.is hc')
  have tup:∀ b vs,IsTup s.heap b vs->IsTup h' b vs:=λb vs t=>hb.2.tup R nTup t;refine q {s with heap:=h'} ⟨kind,glob,blt,kinds,⟨mm,o,(hs.2 _ (Ne.symm p3)).trans ho,hn,ns.sameBut hs (Ne.symm p3),λy vv hy ky e=>?_⟩,λy ky=>?_,⟨o1,o2,λy b e=>?_⟩,inj,dom',vars⟩ ⟨hb.1,hb.2,rfl,rfl⟩
  ·rw [O4 λe=>by have:=N7 hy hx e;subst this;rw [k] at ky;cases ky] at e
   refine i9 (loc y vv hy ky e) λuu e1 e2=>?_;exact ⟨uu,e1,e2.mono tup⟩
  ·by_cases h:y=x
   ·subst h;refine ⟨a,some u,e1,hc',λ_ vv e=>?_⟩;rw [S0] at e;have q2:=A3 e;clear e;subst q2;exact ⟨u,rfl,rv.mono tup⟩
   ·refine k8 (cel y ky) λb uu g1 q7 g4=>?_;refine i9 q7 λoc g2 g3=>?_;clear q7;have hne:b≠a:=λe=>h (inj y x b g1 (e▸e1));refine ⟨b,uu,g1,⟨oc,(hs.2 b hne).trans g2,g3⟩,λhy vv e=>?_⟩;rw [O4 λe=>h (N7 hy hx e)] at e;refine i9 (g4 hy vv e) λz e5 e6=>?_;exact ⟨z,e5,e6.mono tup⟩
  ·refine S5 (o3 y b e) λp1 p2 p3 uu oc p4 p5=>?_;refine ⟨p1,p2,p3,?_⟩;by_cases h:b=a
   ·subst h;exact ⟨_,hc'⟩
   ·exact ⟨uu,oc,(hs.2 b h).trans p4,p5⟩
theorem b4D {src:Src} {St:Nat->Heap->Prop} (hh:A.handled=none) (ok:T6 prog w G I wr src false St) (hl:∀ i,src.next H i l[i]?) (own:∀ b∈wr,H b=none/\G.base b=none) :
  ∀ (k i:Nat) (s:Shared) (Q:List Value->Shared->Prop),w6 G w H s.heap->St i s.heap->i+k<=l.length ->
   (∀ us s',l5 G s'.heap ((l.drop i).take k) us->k9 G w (·∈wr) H s H s'->St (i+k) s'.heap->Q us s')->wpAny (model prog w) A (draw (.ref I) k) Q z5 s:=by
 intro k;induction k with
 | zero=>intro i s Q R st hk q;exact c7u (q [] s (by refine b9 List.take_zero ?_;exact .nil) (.refl R) st)
 | succ k ih =>
  intro i s Q R st hk q;have hlt:i < l.length:=by exact c6x hk
  refine c7t (wpAny_mono (ok.next A i s H _ hh R st own (hl i)) (λo s1 h1=>?_) λ_ _ e=>e);rw [List.getElem?_eq_getElem hlt] at h1;refine a0R h1 λu q5 ru st1 hst _ _=>?_;clear h1;subst q5;refine c7t (wpAny_holding (ih (i+1) s1 _ st1.rel (hst rfl) (b6B hk) λus s2 r2 st2 h2=>c7u (q _ s2 ?_ (st1.trans st2) (by refine b9 (show i+(k+1)=i+1+k by exact b8y) ?_;exact h2))))
  have hd:l.drop i=l[i] :: l.drop (i+1):=List.drop_eq_getElem_cons hlt;refine b9 hd ?_;refine b9 List.take_succ_cons ?_;refine .cons (st2.ext.vrep st1.rel (λa o vs n hX e1 ec e2=>?_) ru) r2;refine i9 (ok.nons (i+1) _ (hst rfl) a hX) λo' e3 e4=>?_;rw [e1] at e3;have q4:=A3 e3;clear e3;subst q4;exact e4 _ _ e2
end
end
variable {kx:PySem.Expr} {vx:PySem.Expr}
section
open PySem PySem.W PyProof.Rows PySem.Calls PySem.SeqAt PySem.MeetsSeq
open Classical
section
variable {prog:Program} {w:World} {G:Gi} {n m:Nat} {c:Cx}
theorem b0d (h:a3K H p l):itV p H λsrc H'=>H'=H/\∀ i,src.next H i l[i]?:=by
 rcases h with rfl | ⟨a,rfl,e⟩
 ·exact .inl ⟨l,rfl,rfl,λi=>rfl⟩
 ·exact .inr (.inr (.inl ⟨a,l,rfl,e,rfl,λi=>⟨l,e,rfl⟩⟩))
theorem a76 {v:Value} {Q:Bool->Shared->Prop} (R:w6 G w H s.heap) (rp:i8 G s.heap p v) (h:a3K H p l) (q:Q false s):wpAny (model prog w) A (notIterableAtAll v) Q z5 s:=by
 unfold notIterableAtAll;rcases h with rfl | ⟨a,rfl,e⟩
 ·replace rp:=Y0 rp;refine k8 rp λa vs q7 t _=>?_;clear rp;subst q7;exact c7t (wpAny_specialOf t.typeIs PySem.F.slot_tuple_iter.lookup (c7u q))
 ·replace rp:=R4 rp;subst rp;refine A6 (R.objs _ _ e) λvs k ho _=>?_;exact c7t (wpAny_specialOf (a8n ho) slot_list_iter.lookup (c7u q))
theorem Z0 {v:Value} {Q:List Value->Shared->Prop} (g:Gk G) (hh:A.handled=none) (R:w6 G w H s.heap) (rp:i8 G s.heap p v) (h:a3K H p l) (hk:l.length=k)
  (q:∀ us s',l5 G s'.heap l us->k9 G w N8 H s H s'->Q us s'):wpAny (model prog w) A (unpackItems v k none) Q z5 s:=by
 unfold unpackItems;refine c7t (a76 R rp h ?_);simp only [Bool.false_eq_true,if_false];refine c7t (wpAny_holding (wpAny_mono (a7n g R rp (b0d h)) (λitv s1 r=>?_) λ_ _ e=>e));obtain ⟨I,wr,src,St,H',rfl,ok,h0,fr,st,rfl,hl⟩:=r;have own:∀ b∈wr,H' b=none/\G.base b=none:=λb hb=>(fr b hb).2;refine c7t (wpAny_holding (b4D hh ok hl own k 0 s1 _ st.rel h0 (c6t hk) λus s2 r2 st2 h2=>?_))
 have hus:l5 G s2.heap l us:=by rw [List.drop_zero,List.take_of_length_le (c2X hk)] at r2;exact r2
 have hlen:us.length=k:=by refine t6 hus.length ?_;refine b9 hk ?_;rfl
 refine b9 (if_neg (c0k hlen)) ?_;refine c7t (wpAny_holding (wpAny_mono (ok.next A (0+k) s2 H' _ hh st2.rel h2 own (hl _)) (λo s3 h3=>?_) λ_ _ e=>e));rw [List.getElem?_eq_none (c5f hk)] at h3;refine eA h3 λq6 st3=>?_;clear h3;subst q6;simp only [Option.isSome_none,Bool.false_eq_true,if_false];have stX:=st2.trans st3;have ns:U6 (·∈wr) s2.heap:=λa o vs n hX e1 ec e2=>by
  refine i9 (ok.nons _ _ h2 a hX) λo' e3 e4=>?_;rw [e1] at e3;have q3:=A3 e3;clear e3;subst q3;exact e4 _ _ e2
 have fin:k9 G w N8 H' s H' s3:=by
  have x:k9 G w (·∈wr) H' s H' s3:=(st.no).trans stX;exact ⟨x.rel,x.ext.compress λa ha=>.inr (fr a ha).1,x.gens,x.os⟩
 exact c7u (q us s3 (st3.ext.vreps st2.rel ns hus) fin)
noncomputable def a1K (G:Gi) (w:World) (env:Env) (c:Cx) (H:Hp) (s:Shared) (Q:En->Hp->Prop) (_:Unit) (s':Shared):Prop :=
 ∃ r' H',O9 G w env c r' H' s'.heap/\k9 G w (FX env) H s H' s'/\Q r' H'
theorem a29 (F:O9 G w env c r H h):U6 (FX env) h:=λa o vs n hX e1 ec e2=>by
 rcases hX with rfl | ⟨y,hy⟩
 ·refine k8 F.loc λ_ o' ho hn _=>?_;rw [e1] at ho;have q4:=A3 ho;clear ho;subst q4;exact hn _ _ e2
 ·refine S5 (F.own.2.2 y a hy) λ_ _ _ uu oc p4 p5=>?_;rw [e1] at p4;have q5:=A3 p4;clear p4;subst q5;rw [p5] at e2;cases e2
theorem a6B {loc:Bool} (F:O9 G w env c r H h):U6 (XS env c loc) h:=λa o vs n hX e1 ec e2=>a29 F a o vs n (XS.fx hX) e1 ec e2
theorem b3y (loc:Bool):∀ (es:List PySem.Expr) (ts:List Nm) (l:List d8) (us:List Value) (s:Shared) (H:Hp) (r:En) (Q:Unit->Shared->Prop),a2F es=some ts->(es.all λe=>((a1r e).map (KS c loc)).getD false)=true ->
  l.length=ts.length->w6 G w H s.heap->O9 G w env c r H s.heap->l5 G s.heap l us ->
  (∀ s',O9 G w env c (bindL ts l r) H s'.heap->k9 G w (XS env c loc) H s H s'->Q () s') ->
  wpAny (model prog w) A (assignInOrder ((assignEach es env).map (·.2)) us) Q z5 s:=by
 intro es;induction es with
 | nil =>
  intro ts l us s H r Q h _ hl R F rv q;have q1:=A3 h;clear h;subst q1;cases l with
  | cons _ _=>exact nomatch hl
  | nil =>
   replace rv:=a1l rv;subst rv;exact c7u (q s F (.refl R))
 | cons e es ih =>
  intro ts l us s H r Q h hk hl R F rv q;refine k8 (v9 h) λa b ha hb q14=>?_;subst q14;refine i9 (f5 ha) λx h1 ha=>?_;refine eE (a0b h1) λp q10=>?_;subst q10;refine eA (B5 ha) λhx q8=>?_;subst q8;refine eA (Bool.and_eq_true_iff.mp hk) λhkx hk=>?_;cases l with
  | nil=>exact nomatch hl
  | cons v l =>
   replace rv:=F0 rv;revert rv;intro q13;refine k8 q13 λu us' q12 ru rv=>?_;clear q13;subst q12;show wpAny _ _ (holding us' (assign (.Name x p) env u)>>=λ_=>assignInOrder ((assignEach es env).map (·.2)) us') _ _ _;refine c7t (wpAny_holding ?_);refine b9 (arm_assign_Name ..) ?_;refine c7t (wpAny_standAt (a2G loc R F hkx hx ru λs1 F1 st1=>?_));exact ih b l us' s1 H _ Q hb hk (Nat.succ.inj hl) st1.rel F1 (st1.ext.vreps R (a6B F) rv) λs2 F2 st2=>q s2 F2 (st1.trans st2)
theorem b33:∀ {es:List PySem.Expr} {ts:List Nm} {env:Env},a2F es=some ts->(assignEach es env).findIdx? (·.1)=none/\(assignEach es env).length=ts.length:=by
 intro es;induction es with
 | nil=>intro ts env h;have q2:=A3 h;clear h;subst q2;exact ⟨rfl,rfl⟩
 | cons e es ih =>
  intro ts env h;refine k8 (v9 h) λa b ha hb q15=>?_;subst q15;refine i9 (f5 ha) λx h1 ha=>?_;refine eE (a0b h1) λp q11=>?_;subst q11;obtain ⟨h1,h2⟩:=ih hb;show ((false,assign (.Name x p) env) :: assignEach es env).findIdx? (·.1)=none/\((false,assign (.Name x p) env) :: assignEach es env).length=_;refine b9 List.findIdx?_cons ?_;exact ⟨by refine b9 h1 ?_;rfl,congrArg (·+1) h2⟩
theorem b31 (loc:Bool) {r r':En} {t:List Nm} {Q:Unit->Shared->Prop} (g:Gk G) (hh:A.handled=none) (h:W4 tg=some (t,one)) (hk:Q8 (KS c loc) tg=true) (hb:a0a t one v r r')
  (R:w6 G w H s.heap) (F:O9 G w env c r H s.heap) (rv:i8 G s.heap v u) (q:∀ s',O9 G w env c r' H s'.heap->k9 G w (XS env c loc) H s H s'->Q () s'):wpAny (model prog w) A (assign tg env u) Q z5 s:=by
 cases tg with
 | Name x p =>
  refine i9 (l8 h) λa ha e=>?_;cases e;refine eA (B5 ha) λhx q9=>?_;subst q9;rcases hb with ⟨_,y,hy,rfl⟩ | ⟨h0,_⟩
  ·cases hy;refine b9 (arm_assign_Name ..) ?_;exact c7t (wpAny_standAt (a2G loc R F hk hx rv q))
  ·exact nomatch h0
 | Tuple es k p =>
  refine i9 (l8 h) λts hts e=>?_;cases e;rcases hb with ⟨h0,_⟩ | ⟨_,l,rfl,hlen,rfl⟩
  ·exact nomatch h0
  ·refine b9 (arm_assign_Tuple ..) ?_;refine eA (b33 (env:=env) hts) λf1 f2=>?_;refine c7t (wpAny_standAt ?_);unfold unpack;refine b9 f1 ?_;refine b9 f2 ?_;refine c7t (wpAny_holding (Z0 g hh R rv (.inl rfl) hlen λus s1 r1 st=>?_));exact b3y loc es t l us s1 H r Q hts hk hlen st.rel (F.step R st) r1 λs2 F2 st2=>q s2 F2 (st.no.trans st2)
 | _=>exact x8 h
end
end
variable {t:List Nm} {t2:List Nm} {l:List Int}
section
open PySem PySem.W PyProof.Rows PySem.Calls PySem.SeqAt PySem.MeetsSeq
open Classical
section
variable {prog:Program} {w:World} {G:Gi} {n m:Nat} {c:Cx}
noncomputable def Q0 (env:Env):List (Str×NameKind)->List (Str×Addr)->List (Str×Addr)
 | [],acc=>acc
 | (x,k) :: r,acc=>if k==.free then Q0 env r ((x,(env.cells.lookup x).getD 0) :: acc) else Q0 env r acc
theorem a3x:∀ (l:List (Str×NameKind)) (acc:List (Str×Addr)),(∀ p∈l,p.2=.free->(env.cells.lookup p.1).isSome=true)->(∀ x a,acc.lookup x=some a->env.cells.lookup x=some a)->∀ x a,(Q0 env l acc).lookup x=some a->env.cells.lookup x=some a:=by
 intro r;induction r with
 | nil =>
  intro acc _ h x a e;exact h x a e
 | cons z3 r ih =>
  intro acc hs h x a e;obtain ⟨y,k⟩:=z3;unfold Q0 at e
  split at e
  ·rename_i hk;refine ih _ (λp hp=>hs p (List.mem_cons_of_mem _ hp)) (λz b e=>?_) x a e;rw [List.lookup_cons] at e
   split at e
   ·rename_i hz;have:=eq_of_beq hz;subst this;have hf:=hs (z,k) List.mem_cons_self (by simpa using hk)
    refine eE (Option.isSome_iff_exists.mp hf) λq hq=>?_;simp only at hq;rw [hq] at e ⊢;exact e
   ·exact h z b e
  ·exact ih acc (λp hp=>hs p (List.mem_cons_of_mem _ hp)) h x a e
theorem a72:∀ (l:List (Str×NameKind)) (acc:List (Str×Addr)) (x:Str),(acc.lookup x).isSome=true->((Q0 env l acc).lookup x).isSome=true:=by
 intro r;induction r with
 | nil =>
  intro acc x h;exact h
 | cons z4 r ih =>
  intro acc x h;obtain ⟨y,k⟩:=z4;unfold Q0
  split
  ·refine ih _ x ?_;refine b9 List.lookup_cons ?_;split
   ·rfl
   ·exact h
  ·exact ih acc x h
theorem b0x:∀ (l:List (Str×NameKind)) (acc:List (Str×Addr)) (x:Str),(x,NameKind.free)∈l->((Q0 env l acc).lookup x).isSome=true:=by
 intro l;induction l with
 | nil=>intro acc x h;exact (List.not_mem_nil h).elim
 | cons z r ih =>
  intro acc x h;obtain ⟨y,k⟩:=z;unfold Q0;rcases List.mem_cons.mp h with e | h
  ·cases e;simp only [beq_self_eq_true,if_true];refine a72 r _ _ ?_;refine b9 List.lookup_cons ?_;simp
  ·split <;> exact ih _ x h
theorem a8F {sc:Scope} (hs:∀ p∈sc.names,p.2=.free->(env.cells.lookup p.1).isSome=true):closureFor sc env=pure (Q0 env sc.names []):=by
 simp only [closureFor];have key:∀ (l:List (Str×NameKind)) (acc:List (Str×Addr)),(∀ p∈l,p.2=.free->(env.cells.lookup p.1).isSome=true) ->
   (forIn l acc λ(x:Str×NameKind) r=>match x with | (name,kind)=>if (kind==NameKind.free)=true then do let a<-cellOf env name;pure (ForInStep.yield ((name,a) :: r)) else pure (ForInStep.yield r))=(pure (Q0 env l acc):Sem _):=by
  intro l;induction l with
  | nil=>intro acc _;rfl
  | cons p l ih =>
   intro acc hl;obtain ⟨x,k⟩:=p;refine b9 (List.forIn_cons ..) ?_;unfold Q0;by_cases hk:(k==NameKind.free)=true
   ·have hf:=hl (x,k) List.mem_cons_self (by simpa using hk)
    refine eE (Option.isSome_iff_exists.mp hf) λa ha=>?_;simp only at ha;have hc:cellOf env x=pure a:=by unfold cellOf;refine b9 ha ?_;rfl
    simp only [hk,if_true,hc,ha,Option.getD_some,pure_bind];exact ih _ λp hp=>hl p (List.mem_cons_of_mem _ hp)
   ·simp only [hk,if_false,pure_bind];exact ih _ λp hp=>hl p (List.mem_cons_of_mem _ hp)
 have:=key sc.names [] hs
 first
  | (refine b9 this ?_;rfl)
  | (simp only [this,pure_bind])
  | simpa using this
noncomputable def Q4 (must:List Str) (r:En):En:=λy=>if y∈must.map nm then Option.none else r y
theorem a0X {sc:Scope} (h:Y9 c sc must=true):sc.kind=.function/\(∀ p∈sc.names,p.2≠.cell/\(p.2=.free->c.names.lookup p.1=some .cell)/\(p.2=.local->sc.names.lookup p.1=some .local)) /\
  ∀ p∈a4p sc,p.2=.local->must.contains p.1=true\/c.dom.contains p.1=false:=by
 unfold Y9 at h;simp only [Bool.and_eq_true,beq_iff_eq,List.all_eq_true,Bool.or_eq_true,bne_iff_ne,ne_eq,Bool.not_eq_true'] at h;refine eA h λq1 h3=>?_;clear h;refine eA q1 λh1 h2=>?_;clear q1;refine ⟨h1,λp hp=>?_,λp hp hl=>?_⟩
 ·refine eA (h2 p hp) λq2 d=>?_;refine eA q2 λa b=>?_;clear q2;exact ⟨a,λe=>b.resolve_left (λz=>z e),λe=>d.resolve_left (λz=>z e)⟩
 ·rcases h3 p hp with (a | a) | a
  ·exact absurd hl a
  ·exact .inl a
  ·exact .inr a
theorem N1 {α:Type} {l:List (Str×α)} {k:α} (h:l.lookup x=some k):(x,k)∈l:=mem_of_lookup h
theorem a0Z {sc:Scope} {k:NameKind} (h:(sub c sc).names.lookup x=some k):x≠a2k/\∃ k0,(x,k0)∈sc.names/\sc.names.lookup x=some k0/\(if k0=.free/\c.names.lookup x=some .cell then k=.cell else k=k0):=by
 have key:∀ l:List (Str×NameKind),(S4 c (l.filter λp=>p.1 != a2k)).lookup x=some k->x≠a2k/\∃ k0,(x,k0)∈l/\l.lookup x=some k0/\(if k0=.free/\c.names.lookup x=some .cell then k=.cell else k=k0):=by
  intro l;induction l with
  | nil=>intro h;simp [S4] at h
  | cons p l ih =>
   intro h;obtain ⟨y,ky⟩:=p;by_cases hy:y=a2k
   ·have e:((y,ky) :: l).filter (λp=>p.1 != a2k)=l.filter λp=>p.1 != a2k:=by
     rw [List.filter_cons_of_neg];simp [hy]
    rw [e] at h;refine a1o (ih h) λh1 k0 h2 h3 h4=>?_;refine ⟨h1,k0,List.mem_cons_of_mem _ h2,?_,h4⟩;refine b9 List.lookup_cons ?_;have:(x==y)=false:=by simpa [hy] using h1
    refine b9 this ?_;exact h3
   ·have e:((y,ky) :: l).filter (λp=>p.1 != a2k)=(y,ky) :: l.filter λp=>p.1 != a2k:=by
     rw [List.filter_cons_of_pos];simpa using hy
    rw [e] at h;unfold S4 at h;rw [List.map_cons,List.lookup_cons] at h;by_cases hx:x=y
    ·subst hx;refine ⟨hy,ky,List.mem_cons_self,by simp,?_⟩
     simp only at h;by_cases hc:ky=.free/\c.names.lookup x=some .cell
     ·refine b9 (if_pos hc) ?_;have:(ky==NameKind.free&&c.names.lookup x==some NameKind.cell)=true:=by simp [hc.1,hc.2]
      rw [this] at h;simpa using h.symm
     ·refine b9 (if_neg hc) ?_;have:(ky==NameKind.free&&c.names.lookup x==some NameKind.cell)=false:=by
       refine I9 (Bool.and_eq_false_iff ..) ?_;by_cases h1:ky=.free
       ·right;simpa using λe=>hc ⟨h1,e⟩
       ·left;simpa using h1
      rw [this] at h;simpa using h.symm
    ·have hxy:(x==(if (ky==NameKind.free&&c.names.lookup y==some NameKind.cell)=true then (y,NameKind.cell) else (y,ky)).1)=false:=by
      split <;> simpa using hx
     simp only at h;rw [hxy] at h;refine a1o (ih h) λh1 k0 h2 h3 h4=>?_;refine ⟨h1,k0,List.mem_cons_of_mem _ h2,?_,h4⟩;refine b9 List.lookup_cons ?_;have:(x==y)=false:=by simpa using hx
     refine b9 this ?_;exact h3
 exact key sc.names h
end
end
variable {sc:PySem.Scope}
section
open PySem PySem.W PyProof.Rows PySem.Calls PySem.SeqAt PySem.MeetsSeq
open Classical
section
variable {prog:Program} {w:World} {G:Gi} {n m:Nat} {c:Cx}
theorem a4J {α:Type} (f:Str×α->Str×α) (hf:∀ p,(f p).1=p.1):∀ (l:List (Str×α)) (x:Str),(l.map f).lookup x=(l.lookup x).map λk=>(f (x,k)).2:=by
 intro l;induction l with
 | nil =>
  intro x;exact rfl
 | cons z6 l ih =>
  intro x;obtain ⟨y,k⟩:=z6;refine b9 List.map_cons ?_;refine b9 List.lookup_cons ?_;have e:f (y,k)=(y,(f (y,k)).2):=Prod.ext (hf (y,k)) rfl;refine b9 e ?_;simp only;by_cases h:x=y
  ·subst h;simp
  ·have:(x==y)=false:=by simpa using h
   refine b9 this ?_;refine b9 List.lookup_cons ?_;refine b9 this ?_;exact ih x
theorem a5L {y:Nm} (h:r y=Option.none):Q4 must r y=Option.none:=by unfold Q4;split <;> first | rfl | exact h
theorem b0o (h:must.contains x=true):Q4 must r (nm x)=Option.none:=by
 unfold Q4;rw [if_pos];exact List.mem_map_of_mem (List.contains_iff_mem.mp h)
theorem b32 {H H1:Hp} {h h1:Heap} {C:Addr} (F:O9 G w env c r H h) (R:w6 G w H h) (ok:Y9 c sc must=true) (x:Ext N8 H h H1 h1) (hC:h.get? C=none) (nsC:h1.Ns C λ_=>none) (HC:H1 C=none) (bC:G.base C=none) :
  O9 G w (compEnvC sc (Q0 env sc.names []) C env) (sub c sc) (Q4 must r) H1 h1:=by
 refine eAA (a0X ok) λok1 ok2 ok3=>?_;have F1:=F.ext R x;have cellsome:∀ y a,env.cells.lookup y=some a->True:=λ_ _ _=>trivial;have hfree:∀ p∈sc.names,p.2=.free->(env.cells.lookup p.1).isSome=true:=λp hp e=>by
  refine A6 (F.cel p.1 ((ok2 p hp).2.1 e)) λa u h1 _=>?_;refine b9 h1 ?_;rfl
 have sound:=a3x (env:=env) sc.names [] hfree (λx a e=>by cases e)
 have cell0:∀ y,(sub c sc).names.lookup y=some .cell->c.names.lookup y=some .cell/\(y,NameKind.free)∈sc.names:=λy e=>by
  refine a1o (a0Z e) λ_ k0 h2 h3 h4=>?_
  split at h4
  ·rename_i hc;exact ⟨hc.2,hc.1▸h2⟩
  ·rename_i hc;subst h4;exact absurd rfl (ok2 _ h2).1
 refine ⟨?_,F.glob,F.blt,λy k e=>?_,?_,λy e=>?_,⟨HC,bC,λy a e=>?_⟩,λy z a e1 e2=>F.inj y z a (sound y a e1) (sound z a e2),λy hy hd=>?_,λy hk=>?_⟩
 ·show sc.kind=.function;exact ok1
 ·refine a1o (a0Z e) λh1 k0 h2 h3 h4=>?_;show ((relabel sc env).names.lookup y)=some k;unfold relabel;simp only
  (rewrite [a4J _ (λp=>by obtain ⟨a,b⟩:=p;dsimp only;split <;> rfl)];refine b9 h3 ?_)
  simp only [Option.map_some];by_cases hf:k0=.free
  ·have hc:=(ok2 _ h2).2.1 hf;rw [if_pos ⟨hf,hc⟩] at h4;have:(k0==NameKind.free&&env.scope.kind==ScopeKind.function&&env.kindOf y==some NameKind.cell)=true:=by
    refine b9 F.kind ?_;refine b9 (F.kinds y _ hc) ?_;refine b9 hf ?_;rfl
   refine b9 this ?_;simp [h4]
  ·rw [if_neg (λz=>hf z.1)] at h4;have:(k0==NameKind.free)=false:=by simpa using hf
   refine b9 this ?_;simp [h4]
 ·refine a2t (id nsC) λo es ep ho hd rest=>?_;have hno:B9 o:=λvs n e=>by rw [hd] at e;cases e
  refine ⟨λ_=>Option.none,o,ho,hno,nsC,λy v hy hk e=>?_⟩;exfalso;refine a1o (a0Z hk) λh1 k0 h2 h3 h4=>?_
  split at h4
  ·cases h4
  ·subst h4;have hm:(y,NameKind.local)∈a4p sc:=List.mem_filter.mpr ⟨h2,by simpa using h1⟩
   rcases ok3 _ hm rfl with a | a
   ·rw [b0o a] at e;cases e
   ·rw [a5L (F.dom y hy a)] at e;cases e
 ·refine eA (cell0 y e) λhc hm=>?_;refine k8 (F1.cel y hc) λa u e1 e2 e3=>?_;have hs:=b0x (env:=env) sc.names [] y hm;refine eE (Option.isSome_iff_exists.mp hs) λb hb=>?_;have:=sound y b hb;rw [e1] at this;have q1:=A3 this;clear this;subst q1;refine ⟨a,u,hb,e2,λhy v e=>e3 hy v ?_⟩;unfold Q4 at e
  split at e
  ·cases e
  ·exact e
 ·refine a9k (F1.own.2.2 y a (sound y a e)) λp1 p2 p3 u hu=>?_;refine ⟨p1,p2,?_,u,hu⟩;intro hac;refine S5 (F.own.2.2 y _ (sound y _ e)) λ_ _ _ u0 o0 e0 _=>?_;replace hac:a=C:=hac;rw [hac,hC] at e0;cases e0
 ·refine a5L (F.dom y hy ?_);have:(c.dom++a2z (S4 c (a4p sc))).contains y=false:=hd;rw [List.contains_eq_mem,decide_eq_false_iff_not,List.mem_append,not_or] at this;refine b9 (List.contains_eq_mem ..) ?_;refine I9 (decide_eq_false_iff_not ..) ?_;exact this.1
 ·have hk':=a22 hk;have hm:(y,NameKind.local)∈S4 c (a4p sc)\/(y,NameKind.cell)∈S4 c (a4p sc):=hk'.imp N1 N1;show (c.dom++a2z (S4 c (a4p sc))).contains y=true;refine I9 (List.contains_iff_mem ..) ?_;refine I9 (List.mem_append ..) ?_
  right
  unfold a2z;refine I9 (List.mem_map ..) ?_;rcases hm with hm | hm
  ·exact ⟨_,List.mem_filter.mpr ⟨hm,rfl⟩,rfl⟩
  ·exact ⟨_,List.mem_filter.mpr ⟨hm,rfl⟩,rfl⟩
end
section
variable {prog:Program} {w:World} {G:Gi} {n m:Nat} {c:Cx}
theorem O9.sub {r r1:En} (F:O9 G w env c r1 H h) (hr:∀ y v,r y=some v->r1 y=some v):O9 G w env c r H h:=by
 obtain ⟨kind,glob,blt,kinds,⟨mm,o,ho,hn,ns,loc⟩,cel,own,inj,dom,vars⟩:=F;refine ⟨kind,glob,blt,kinds,⟨mm,o,ho,hn,ns,λy v hy hk e=>loc y v hy hk (hr _ _ e)⟩,λy hk=>?_,own,inj,λy hy hd=>?_,vars⟩
 ·refine k8 (cel y hk) λa u e1 e2 e3=>?_;exact ⟨a,u,e1,e2,λhy v e=>e3 hy v (hr _ _ e)⟩
 ·cases e:r (nm y) with
  | none=>rfl
  | some v=>have:=hr _ _ e;rw [dom y hy hd] at this;cases this
theorem a5D {r r1:En} {t:Nm} {ts:List Nm} (h:∀ y,y∉t :: ts->r1 y=r y) (y:Nm) (hy:y∉ts):(r1.set t v) y=(r.set t v) y:=by
 by_cases e:y=t
 ·subst e;refine b9 S0 ?_;refine b9 S0 ?_;rfl
 ·refine b9 (O4 e) ?_;refine b9 (O4 e) ?_;exact h y λz=>(List.mem_cons.mp z).elim e hy
theorem a8A:∀ (ts:List Nm) (l:List d8) (r r1:En),l.length=ts.length->(∀ y,y∉ts->r1 y=r y)->bindL ts l r1=bindL ts l r:=by
 intro ts;induction ts with
 | nil =>
  intro _ r r1 _ h;exact funext λy=>h y List.not_mem_nil
 | cons _ ts ih =>
  intro z7;cases z7 with
  | cons _ l =>
   intro _ _ hl h;exact ih l _ _ (Nat.succ.inj hl) (a5D h)
  | nil =>
   intro _ _ hl _;exact nomatch hl
theorem a6T {r r1 r':En} (h:a0a t one v r r') (ha:∀ y,y∉t->r1 y=r y):a0a t one v r1 r':=by
 rcases h with ⟨h1,x,rfl,rfl⟩ | ⟨h1,l,h2,h3,rfl⟩
 ·exact .inl ⟨h1,x,rfl,funext λy=>(a5D ha y List.not_mem_nil).symm⟩
 ·exact .inr ⟨h1,l,h2,h3,(a8A _ l r r1 h3 ha).symm⟩
theorem a7A:∀ (ts:List Nm) (l:List d8) (r:En) (y:Nm),y∉ts->bindL ts l r y=r y:=by
 intro ts;induction ts with
 | nil =>
  intro _ r y _;exact rfl
 | cons t ts ih =>
  intro z8;cases z8 with
  | nil =>
   intro r y _;exact rfl
  | cons v l =>
   intro r y h;exact (ih l _ y λz=>h (List.mem_cons_of_mem _ z)).trans (O4 λe=>h (e▸List.mem_cons_self))
theorem a50 {r r':En} (h:a0a t one v r r') {y:Nm} (hy:y∉t):r' y=r y:=by
 rcases h with ⟨h1,x,rfl,rfl⟩ | ⟨h1,l,h2,h3,rfl⟩
 ·exact O4 λe=>hy (e▸List.mem_cons_self)
 ·exact a7A _ _ _ _ hy
theorem b3g:∀ {es:List PySem.Expr} {t:List Nm},a2F es=some t->(es.filterMap a1r).map nm=t:=by
 intro es;induction es with
 | nil=>intro t h;have q1:=A3 h;clear h;subst q1;rfl
 | cons e es ih =>
  intro t h;refine k8 (v9 h) λa b ha hb q3=>?_;subst q3;refine i9 (f5 ha) λx h1 ha=>?_;refine b9 (List.filterMap_cons_some h1) ?_;refine b9 List.map_cons ?_;refine b9 (ih hb) ?_;refine b9 ((B5 ha).2) ?_;rfl
theorem N4 (h:W4 tg=some (t,one)):(S1 tg).map nm=t:=by
 cases tg with
 | Name x p =>
  refine i9 (l8 h) λa ha e=>?_;cases e;exact congrArg (λx=>[x]) (B5 ha).2
 | Tuple es k p =>
  refine i9 (l8 h) λts hts e=>?_;cases e;exact b3g hts
 | _=>exact x8 h
noncomputable def c6W (G:Gi) (w:World) (H:Hp) (s:Shared) (Q:Bool->Hp->Prop) (b:Bool) (s':Shared):Prop:=∃ H',k9 G w N8 H s H' s'/\Q b H'
theorem a67:∀ (ifs:List PySem.Expr) (s:Shared) (Q:Bool->Shared->Prop),Q false s ->
  wpAny (model prog w) A (forIn ifs false λc r=>if r=true then do let ok<-isTrue c env (eval c env);pure (ForInStep.yield ok) else pure (ForInStep.yield r)) Q z5 s:=by
 intro ifs;induction ifs with
 | nil=>intro s Q h;refine b9 List.forIn_nil ?_;exact c7u h
 | cons e ifs ih =>
  intro s Q h;refine b9 (List.forIn_cons ..) ?_;exact c7t (c7u (ih s Q h))
theorem b1k (hs:∀ e x,trC k c e=some x->SC prog w G n m c e x):∀ (ifs:List PySem.Expr) (l:List Cv),D2 (trC k c) ifs=some l->∀ (s:Shared) (H:Hp) (Q:Bool->Hp->Prop),V2 n m A->w6 G w H s.heap->O9 G w env c r H s.heap ->
  (a1k l) (j5 G.F n) r H Q ->
  wpAny (model prog w) A (forIn ifs true λc r=>if r=true then do let ok<-isTrue c env (eval c env);pure (ForInStep.yield ok) else pure (ForInStep.yield r)) (c6W G w H s Q) z5 s:=by
 intro ifs;induction ifs with
 | nil =>
  intro l h s H Q al R F q;have q2:=A3 h;clear h;subst q2;refine b9 List.forIn_nil ?_;exact c7u ⟨H,.refl R,q⟩
 | cons e ifs ih =>
  intro l h s H Q al R F q
  ·refine k8 (v9 h) λx l' hx hl q4=>?_;subst q4;refine b9 (List.forIn_cons ..) ?_;refine c7t (c7t (j8 (hs e x hx A s H r env _ al R F q) (λp b H1 s1 r1 st q1=>c7u ?_)));have r1:p=b:=r1;subst r1;cases p with
   | true=>exact wpAny_mono (ih l' hl s1 H1 Q al st.rel (F.step R st) (q1.1 rfl)) (λb s2 ⟨H2,st2,q2⟩=>⟨H2,st.trans st2,q2⟩) λ_ _ e=>e
   | false=>exact a67 ifs s1 _ ⟨H1,st,q1.2 rfl⟩
end
end
variable {x:Ev}
section
open PySem PySem.W PyProof.Rows PySem.Calls PySem.SeqAt PySem.MeetsSeq
open Classical
section
variable {prog:Program} {w:World} {G:Gi} {n m:Nat} {c:Cx}
theorem O9.extX {H H':Hp} {h h':Heap} (F:O9 G w env c r H h) (R:w6 G w H h) (x:Ext X H h H' h') (nt:U6 X h) (dj:∀ a,X a->¬ FX env a):O9 G w env c r H' h':=by
 obtain ⟨kind,glob,blt,kinds,⟨mm,o,ho,hn,ns,loc⟩,cel,⟨o1,o2,o3⟩,inj,dom,vars⟩:=F;have nx:¬ X env.locals:=λz=>dj _ z (.inl rfl);have nc:∀ y a,env.cells.lookup y=some a->¬ X a:=λy a e z=>dj _ z (.inr ⟨y,e⟩);refine ⟨kind,glob,blt,kinds,⟨mm,o,x.keep _ _ ho o1 nx,hn,?_,λy v a k e=>?_⟩,λy k=>?_,⟨x.none o1 (by refine b9 ho ?_;rfl) nx,o2,λy a e=>?_⟩,inj,dom,vars⟩
 ·refine a5K ns λo' es ep e rest=>?_;clear ns;rw [ho] at e;have q1:=A3 e;clear e;subst q1;exact ⟨o,es,ep,x.keep _ _ ho o1 nx,rest⟩
 ·refine i9 (loc y v a k e) λu e1 e2=>?_;exact ⟨u,e1,x.vrep R nt e2⟩
 ·refine k8 (cel y k) λa u e1 q6 e4=>?_;refine i9 q6 λoc e2 e3=>?_;clear q6;refine ⟨a,u,e1,⟨oc,x.keep _ _ e2 (o3 y a e1).1 (nc y a e1),e3⟩,λas v e=>?_⟩;refine i9 (e4 as v e) λz e5 e6=>?_;exact ⟨z,e5,x.vrep R nt e6⟩
 ·refine S5 (o3 y a e) λp1 p2 p3 u oc p4 p5=>?_;exact ⟨x.none p1 (by refine b9 p4 ?_;rfl) (nc y a e),p2,p3,u,oc,x.keep _ _ p4 p1 (nc y a e),p5⟩
inductive AK | list | dict (κ:Nat)
noncomputable def b3D:AK->List d8->Z5->Prop
 | .list,acc,mo=>mo=.list acc
 | .dict κ,acc,mo=>∃ l ep,acc=l.map a1s/\(∀ p∈l,B8 7 p.1=true/\x9 p.1=κ)/\mo=.dict (A9 l) ep
noncomputable def Acc (ak:AK) (G:Gi) (w:World) (H:Hp) (h:Heap) (D:Addr) (acc:List d8):Prop:=∃ mo,b3D ak acc mo/\a2e G w h D mo/\H D=none/\G.base D=none
theorem Acc.ext {ak:AK} {H H':Hp} {h h':Heap} (a:Acc ak G w H h D acc) (R:w6 G w H h) (x:Ext X H h H' h') (nt:U6 X h) (hD:¬ X D):Acc ak G w H' h' D acc:=by
 refine Q2 a λmo e r h1 h2=>?_;clear a;refine i9 r.at_ λo eo _=>?_;exact ⟨mo,e,r.mono (λ_ _=>x.tup R nt) λo ho=>x.keep _ _ ho h1 hD,x.none h1 (by refine b9 eo ?_;rfl) hD,h2⟩
theorem Acc.nt {ak:AK} (a:Acc ak G w H h D acc):U6 (·=D) h:=λb o vs n hX e1 ec e2=>by
 refine Q2 a λmo e r h1 h2=>?_;clear a;refine i9 r.at_ λo' eo ne=>?_;rw [show b=D from hX,eo] at e1;have q3:=A3 e1;clear e1;subst q3;exact ne ec
theorem b1U {h':Heap} {t:Nat} (R:w6 G w H s.heap) (h1:H D=none) (h2:G.base D=none) (hs:Heap.SameBut D s.heap h') (tup:∀ b vs,IsTup s.heap b vs->IsTup h' b vs):k9 G w (·=D) H s H {s with heap:=h',toks:=t}:=by
 refine ⟨⟨λb o e=>?_,λb mo e=>?_⟩,⟨λb o e _ g=>(hs.2 b g).trans e,λ_ e=>.inl e,λ_ e=>e,λb e g=>?_⟩,rfl,rfl⟩
 ·refine eA (R.base b o e) λe1 e2=>?_;exact ⟨(hs.2 b (by rintro rfl;rw [h2] at e;cases e)).trans e1,e2⟩
 ·exact (R.objs b mo e).mono tup λo eo=>(hs.2 b (by rintro rfl;rw [h1] at e;cases e)).trans eo
 ·show (h'.get? b).isSome=true;refine b9 (hs.2 b g) ?_;exact e
theorem b3u {x:d8} (a:Acc .list G w H s.heap D acc) (R:w6 G w H s.heap) (rx:i8 G s.heap x u) (hz:acc.length<=2 * o5)
  (q:∀ s',Acc .list G w H s'.heap D (acc++[x])->k9 G w (·=D) H s H s'->Q .none s'):wpAny (model prog w) A (call (.builtin "list.append") [.ref D,u]) Q z5 s:=by
 refine Q2 a λmo q4 q5 h1 h2=>?_;clear a;subst q4;refine A6 q5 λvs z ho r=>?_;clear q5;have n1:acc.length=vs.size:=by refine b9 r.length ?_;refine b9 Array.length_toList ?_;rfl
 refine call_meets PySem.F.slot_list_append (a8n ho) PySem.F.entry_list_append (PySem.F.args_list_append_2 _ _) (list_append D vs z u (by refine t6 n1 ?_;refine b9 sizeLine_eq ?_;unfold o5 at hz;exact c3H hz)) ⟨ho,?_⟩
 have hnew:=IsL.update ho (λx=>x.push u);have hs:Heap.SameBut D s.heap (s.heap.update D (Obj.mapSeq λx=>x.push u)):=Heap.SameBut.update ..;have tup:∀ b vs,IsTup s.heap b vs->IsTup (s.heap.update D (Obj.mapSeq λx=>x.push u)) b vs:=λb vs ⟨o,e,ec,n,ed⟩=>by
  refine ⟨o,(hs.2 b ?_).trans e,ec,n,ed⟩
  rintro rfl
  rw [ho] at e;have q2:=A3 e;clear e;subst q2;simp at ec
 exact q _ ⟨_,rfl,⟨vs.push u,_,hnew,by refine b9 Array.toList_push ?_;exact (r.mono tup).append (.cons (rx.mono tup) .nil)⟩,h1,h2⟩ (b1U (t:=s.toks) R h1 h2 hs tup)
structure Cl (G:Gi) (w:World) (cenv:Env) (wr:List Addr) (D:Addr):Prop where
 dw:D∉wr
 dj:∀ b∈wr,¬ FX cenv b
 dd:¬ FX cenv D
noncomputable def CX (cenv:Env) (wr:List Addr) (D:Addr):Addr->Prop:=λa=>a∈wr\/a=D\/a=cenv.locals
structure Inv (ak:AK) (prog:Program) (w:World) (G:Gi) (c':Cx) (cenv:Env) (r0:En) (D:Addr) (H:Hp) (s:Shared) (acc:List d8):Prop where
 rel:w6 G w H s.heap
 frm:O9 G w cenv c' r0 H s.heap
 acc:Acc ak G w H s.heap D acc
end
section
variable {prog:Program} {w:World} {G:Gi} {n m:Nat} {c:Cx} {ak:AK}
noncomputable def YX (cenv:Env) (D:Addr):Addr->Prop:=λa=>a=D\/a=cenv.locals
theorem a7e {H H':Hp} {s s':Shared} (st:k9 G w X H s H' s') (own:∀ b∈wr,H b=none/\G.base b=none) (there:∀ b∈wr,∃ o,s.heap.get? b=some o/\B9 o) (nx:∀ b∈wr,¬ X b):∀ b∈wr,H' b=none/\G.base b=none:=λb hb=>by
 refine i9 (there b hb) λo e _=>?_;exact ⟨st.ext.none (own b hb).1 (by refine b9 e ?_;rfl) (nx b hb),(own b hb).2⟩
theorem a36 {src:Src} {tup:Bool} {St:Nat->Heap->Prop} {i:Nat} {H H':Hp} {s s':Shared} (ok:T6 prog w G I wr src tup St) (R:w6 G w H s.heap) (h:St i s.heap) (st:k9 G w X H s H' s') (own:∀ b∈wr,H b=none/\G.base b=none) (nx:∀ b∈wr,¬ X b) (nt:U6 X s.heap):St i s'.heap :=
 ok.frame i _ _ h (λb hb o e=>st.ext.keep b o e (own b hb).1 (nx b hb)) λa vs t=>st.ext.tup R nt t
theorem Inv.noTup {c':Cx} (I:Inv ak prog w G c' cenv r D H s acc):U6 (YX cenv D) s.heap:=λa o vs n hX e1 ec e2=>by
 rcases hX with rfl | rfl
 ·exact I.acc.nt _ _ _ _ rfl e1 ec e2
 ·refine k8 I.frm.loc λ_ o' ho hn _=>?_;rw [e1] at ho;have q1:=A3 ho;clear ho;subst q1;exact hn _ _ e2
theorem a4V {src:Src} {tup:Bool} {St:Nat->Heap->Prop} {i:Nat} (ok:T6 prog w G I wr src tup St) (st:St i h):U6 (·∈wr) h:=λa o vs n hX e1 _ e2=>by
 refine i9 (ok.nons _ _ st a hX) λo' e3 e4=>?_;rw [e1] at e3;have q2:=A3 e3;clear e3;subst q2;exact e4 _ _ e2
theorem Inv.back {r r0:En} {c':Cx} (I:Inv ak prog w G c' cenv r D H s acc) (h:∀ y v,r0 y=some v->r y=some v):Inv ak prog w G c' cenv r0 D H s acc:=⟨I.rel,I.frm.sub h,I.acc⟩
theorem a3g {r0 r':En} (hr0:∀ y∈t,r0 y=none) (hb:a0a t one v r0 r') (y:Nm) (v':d8) (e:r0 y=some v'):r' y=some v':=by
 by_cases hy:y∈t
 ·rw [hr0 y hy] at e;cases e
 ·refine b9 (a50 hb hy) ?_;exact e
noncomputable def a61 (prog:Program) (w:World) (A:Around) (c0:Code) (I:Addr) (tg:PySem.Expr) (cenv:Env) (rest:Sem Fin):Prop :=
 ∀ (s:Shared) (Q:Fin->Shared->Prop),wpAny (model prog w) A (pyNext (.ref I)) (λo s1=>match o with
   | none=>Q (.done .next) s1
   | some u=>wpAny (model prog w) A (letOwnedTupleGo tg (.ref I) u) (λ_ s2=>wpAny (model prog w) A (assign tg cenv u) (λ_ s3=>wpAny (model prog w) A rest Q z5 s3) z5 s2) z5 s1) z5 s ->
  wpAny (model prog w) (A.under c0) ((model prog w).den c0) Q (λ_ _=>False) s
theorem a13 {c':Cx} {c0:Code} {src:Src} {tup:Bool} {St:Nat->Heap->Prop} {rest:Sem Fin} {r0:En} {R:Result->Shared->Prop}
  {turnM:d8->Hp->(List d8->Hp->Prop)->Prop} {body:En->Hp->(List d8->Hp->Prop)->Prop} (g:Gk G) (hh:A.handled=none) (hq:c0.quiet=true) (hT:a61 prog w A c0 I tg cenv rest) (ok:T6 prog w G I wr src tup St) (cl:Cl G w cenv wr D)
  (htg:W4 tg=some (t,one)) (hloc:Q8 (S7 c') tg=true) (htup:tup=true->a6L tg=true) (hbind:∀ v H P,turnM v H P->∃ r',a0a t one v r0 r'/\body r' H P) {pre:List d8} (hpre:pre.length<=o5)
  (hrest:∀ (s:Shared) (H:Hp) (r':En) (v:d8) (acc:List d8) (P:List d8->Hp->Prop),Inv ak prog w G c' cenv r' D H s acc->acc.length<=pre.length+o5->a0a t one v r0 r'->body r' H P ->
   wpAny (model prog w) A rest (λfin s'=>fin=.again c0/\∃ xs H',Inv ak prog w G c' cenv r0 D H' s' (acc++xs)/\k9 G w (YX cenv D) H s H' s'/\P xs H') z5 s) :
  ∀ (nf i:Nat) (acc:List d8) (s:Shared) (H:Hp) (Q:List d8->Hp->Prop),Inv ak prog w G c' cenv r0 D H s (pre++acc)->St i s.heap->(∀ b∈wr,H b=none/\G.base b=none)->a0M turnM src nf i acc H Q ->
   (∀ acc' H' s',Inv ak prog w G c' cenv r0 D H' s' (pre++acc')->k9 G w (CX cenv wr D) H s H' s'->Q acc' H'->R (.ok .next) s')->codeAny (model prog w) A c0 R s:=by
 intro nf;induction nf with
 | zero=>intro _ _ _ _ _ _ _ _ q _;exact q.elim
 | succ nf ih =>
  intro i acc s H Q inv st own q hR;refine B2 q λo hn q1 q2=>?_;clear q;refine codeAny_of_tree (wpAny_mono (hT s (λfin s'=>match fin with | .done f=>R (.ok f) s' | .again c1=>c1.quiet=true/\codeAny (model prog w) A c1 R s') ?_) (λ_ _ h=>h) λ_ _ e=>e.elim)
  cases o with
  | none =>
   refine wpAny_mono (ok.next A i s H none hh inv.rel st own hn) (λo s1 h1=>?_) λ_ _ e=>e;refine eA h1 λq4 st1=>?_;clear h1;subst q4;have nt:=a4V ok st;exact hR acc H s1 ⟨st1.rel,inv.frm.extX inv.rel st1.ext nt cl.dj,inv.acc.ext inv.rel st1.ext nt cl.dw⟩ (st1.weaken λa h=>.inl h) (q1 rfl)
  | some v =>
   refine eA (q2 v rfl) λhz q=>?_;refine wpAny_mono (ok.next A i s H (some v) hh inv.rel st own hn) (λo s1 h1=>?_) λ_ _ e=>e;refine a0R h1 λu q6 ru st1 _ ns1 hgo=>?_;clear h1;subst q6;have nt:=a4V ok st;refine hgo tg _ htup λs2 st2 hSt=>?_;refine i9 (hbind v H _ q) λr' hb q=>?_;have f1:=inv.frm.extX inv.rel st1.ext nt cl.dj;have a1:=inv.acc.ext inv.rel st1.ext nt cl.dw;have nt1:U6 (·∈wr) s1.heap:=λa o vs n hX e1 _ e2=>by
    refine i9 (ns1 a hX) λo' e3 e4=>?_;rw [e1] at e3;have q3:=A3 e3;clear e3;subst q3;exact e4 _ _ e2
   have f2:=f1.extX st1.rel st2.ext nt1 cl.dj;have a2:=a1.ext st1.rel st2.ext nt1 cl.dw;have ru2:=st2.ext.vrep st1.rel nt1 ru;refine b31 true g hh htg hloc hb st2.rel f2 ru2 λs3 f3 st3=>?_;have nw:∀ b∈wr,¬ XS cenv c' true b:=λb hb e=>cl.dj b hb (XS.fx e);have nD:¬ XS cenv c' true D:=λe=>cl.dd (XS.fx e);have a3:=a2.ext st2.rel st3.ext (a6B f2) nD;have own2:=own;have hSt3:St (i+1) s3.heap:=a36 ok st2.rel hSt st3 own nw (a6B f2)
   have inv3:Inv ak prog w G c' cenv r' D H s3 (pre++acc):=⟨st3.rel,f3,a3⟩;refine wpAny_mono (hrest s3 H r' v (pre++acc) _ inv3 (by refine b9 List.length_append ?_;exact b6c hz) hb q) (λfin s4 h4=>?_) λ_ _ e=>e
   refine b63 h4 λq5 xs H4 inv4 st4 q4=>?_;clear h4;subst q5;have nwY:∀ b∈wr,¬ YX cenv D b:=λb hb e=>by
    rcases e with rfl | rfl
    ·exact cl.dw hb
    ·exact cl.dj _ hb (.inl rfl)
   have hSt4:St (i+1) s4.heap:=a36 ok st3.rel hSt3 st4 own nwY inv3.noTup;have own4:=a7e st4 own (ok.nons _ _ hSt3) nwY;rw [List.append_assoc] at inv4;refine ⟨hq,ih (i+1) (acc++xs) s4 H4 Q inv4 hSt4 own4 q4 λacc' H' s' i5 st5 q5=>?_⟩;refine hR acc' H' s' i5 ?_ q5;refine (st1.weaken λa h=>.inl h).trans ((st2.weaken λa h=>.inl h).trans ((st3.weaken λa h=>.inr (.inr h)).trans ((st4.weaken λa h=>.inr h).trans st5)))
end
end
variable {p:PySem.Pos}
section
open PySem PySem.W PyProof.Rows PySem.Calls PySem.SeqAt PySem.MeetsSeq
open Classical
section
variable {prog:Program} {w:World} {G:Gi} {n m:Nat} {c:Cx}
noncomputable def a5C (ifs:List PySem.Expr) (elt:PySem.Expr) (cenv:Env) (D:Addr) (c0:Code):Sem Fin :=
 (forIn ifs true λc r=>if r=true then do let ok<-isTrue c cenv (eval c cenv);pure (ForInStep.yield ok) else pure (ForInStep.yield r))>>=λok =>
  if ok=true then (eval elt cenv>>=λx=>call (.builtin "list.append") [.ref D,x]>>=λ_=>pure ())>>=λ_=>again c0 else again c0
theorem a78 :
  a61 prog w A (.compLoop (.ListComp elt [⟨tg,iter,ifs,0⟩] sc pos) 0 (.ref I) (.ref D) cenv) I tg cenv (a5C ifs elt cenv D (.compLoop (.ListComp elt [⟨tg,iter,ifs,0⟩] sc pos) 0 (.ref I) (.ref D) cenv)):=by
 intro s Q h;show wpAny _ A ((compTurn (.ListComp elt [⟨tg,iter,ifs,0⟩] sc pos) 0 (.ref I) (.ref D) cenv).onRaise (λx=>do noteFrame x cenv;theTreesLotGoes x)) _ _ s
 refine wpAny_noted ?_;refine b9 (compTurn_list ..) ?_;refine c7t (wpAny_standAt (c7t (wpAny_mono h (λo s1 h1=>?_) λ_ _ e=>e.elim)));cases o with
 | none=>exact c7u h1
 | some u =>
  refine c7t (wpAny_mono h1 (λ_ s2 h2=>c7t (wpAny_mono h2 (λ_ s3 h3=>?_) λ_ _ e=>e.elim)) λ_ _ e=>e.elim);exact wpAny_mono h3 (λ_ _ q=>q) λ_ _ e=>e.elim
theorem a5N {c':Cx} {l:List Cv} {c0:Code} (hC:∀ e x,trC k c' e=some x->SC prog w G n m c' e x) (hE:SE prog w G n m c' elt x) (hl:D2 (trC k c') ifs=some l) (al:V2 n m A)
  (dd:¬ FX cenv D) (s:Shared) (H:Hp) (r' r0:En) (acc:List d8) (P:List d8->Hp->Prop) (inv:Inv .list prog w G c' cenv r' D H s acc) (hz:acc.length<=2 * o5) (hbk:∀ y v,r0 y=some v->r' y=some v)
  (q:a2R x (a1k l) (j5 G.F n) r' H P) :
  wpAny (model prog w) A (a5C ifs elt cenv D c0) (λfin s'=>fin=.again c0/\∃ xs H',Inv .list prog w G c' cenv r0 D H' s' (acc++xs)/\k9 G w (YX cenv D) H s H' s'/\P xs H') z5 s:=by
 unfold a5C;refine c7t (wpAny_mono (b1k hC ifs l hl s H _ al inv.rel inv.frm q) (λb s1 ⟨H1,st1,q1⟩=>?_) λ_ _ e=>e);have f1:=inv.frm.step inv.rel st1;have a1:=inv.acc.ext inv.rel st1.ext .no (λz=>z);cases b with
 | false =>
  refine b9 (if_neg Bool.false_ne_true) ?_;refine c7u ⟨rfl,[],H1,⟨st1.rel,f1.sub hbk,by refine b9 (List.append_nil ..) ?_;exact a1⟩,st1.no,q1.2 rfl⟩
 | true =>
  refine b9 (if_pos rfl) ?_;refine c7t (c7t (j8 (hE A s1 H1 r' cenv _ al st1.rel f1 (q1.1 rfl)) (λy u H2 s2 ry st2 q2=>?_)));have f2:=f1.step st1.rel st2;have a2:=a1.ext st1.rel st2.ext .no (λz=>z);refine c7t (b3u a2 st2.rel ry hz λs3 a3 st3=>c7u (c7u ⟨rfl,[y],H2,⟨st3.rel,O9.sub ?_ hbk,a3⟩,?_,q2⟩))
  ·exact f2.extX st2.rel st3.ext a2.nt (λa h=>by refine b9 (show a=D from h) ?_;exact dd)
  ·exact (st1.no).trans ((st2.no).trans (st3.weaken λa h=>.inl h))
end
section
variable {prog:Program} {w:World} {G:Gi} {n m:Nat} {c:Cx} {ak:AK}
noncomputable def a2d (G:Gi) (w:World) (env:Env) (c:Cx) (H:Hp) (s:Shared) (P:En->Hp->Prop) (s':Shared):Prop:=∃ r' H',k9 G w (FX env) H s H' s'/\O9 G w env c r' H' s'.heap/\P r' H'
theorem a2d.after {H H1:Hp} {s s1 s':Shared} {P:En->Hp->Prop} (st:k9 G w N8 H s H1 s1) (x:a2d G w env c H1 s1 P s'):a2d G w env c H s P s':=by
 refine k8 x λr' H' st' F q=>?_;clear x;exact ⟨r',H',st.no.trans st',F,q⟩
theorem a8O {m:Str->Option Value} (x:h.Ns a m):∃ o,h.get? a=some o/\B9 o:=by
 refine a2t x λo es ep ho hd _=>?_;clear x;exact ⟨o,ho,λvs n e=>by rw [hd] at e;cases e⟩
theorem w6.but0 {h h':Heap} (R:w6 G w H h) (e:h.get? a=some o) (ns:B9 o) (f:H a=none) (b:G.base a=none) (x:X a) (s:Heap.SameBut a h h') :
  w6 G w H h'/\Ext X H h H h':=by
 have tup:∀ b vs,IsTup h b vs->IsTup h' b vs:=λb vs t=>by
  refine S8 t λo' e' c n d=>?_;clear t;exact ⟨o',(s.2 b (by rintro rfl;rw [e] at e';have q2:=A3 e';clear e';subst q2;exact ns _ _ d)).trans e',c,n,d⟩
 refine ⟨⟨λc o e'=>?_,λc mo e'=>?_⟩,⟨λc o e' g y=>?_,λc e'=>.inl e',λc e'=>e',λc e' y=>?_⟩⟩
 ·refine eA (R.base c o e') λe1 e2=>?_;exact ⟨(s.2 c (by rintro rfl;rw [b] at e';cases e')).trans e1,e2⟩
 ·exact (R.objs c mo e').mono tup λo e=>(s.2 c (by rintro rfl;rw [f] at e';cases e')).trans e
 ·exact (s.2 c (by rintro rfl;exact y x)).trans e'
 ·refine b9 (s.2 c (by rintro rfl;exact y x)) ?_;exact e'
theorem a4N {H H':Hp} {s s':Shared} {C:Addr} {m:Str->Option Value} {h':Heap} (st:k9 G w X H s H' s') (e:s'.heap.Ns C m) (h1:H' C=none) (h2:G.base C=none) (fr:s.heap.get? C=none) (sb:Heap.SameBut C s'.heap h') :
  k9 G w X H s H' {s' with heap:=h'}/\k9 G w (·=C) H' s' H' {s' with heap:=h'}:=by
 refine i9 (a8O e) λo ho no=>?_;have b:=st.rel.but0 (X:=(·=C)) ho no h1 h2 rfl sb;have st2:k9 G w (·=C) H' s' H' {s' with heap:=h'}:=⟨b.1,b.2,rfl,rfl⟩
 refine ⟨?_,st2⟩;have t:=(st.weaken (Y:=λa=>X a\/a=C) λ_=>.inl).trans (st2.weaken λ_=>.inr);exact ⟨t.rel,t.ext.compress λa ha=>ha.imp id λe=>by refine b9 e ?_;exact fr,t.gens,t.os⟩
noncomputable def a6D:AK->Obj
 | .list=>{cls:=.type "list",data:=.seq #[]}
 | .dict _=>{cls:=.type "dict",data:=.dict #[]}
noncomputable def b7R:AK->Z5
 | .list=>.list []
 | .dict _=>.dict [] 0
theorem a9o (ak:AK):b3D ak [] (b7R ak):=by
 cases ak with
 | list=>rfl
 | dict=>exact ⟨[],0,rfl,λp hp=>by simp at hp,rfl⟩
theorem a4O (ak:AK) (e:h.get? a=some (a6D ak)):a2e G w h a (b7R ak):=by
 cases ak with
 | list=>exact ⟨#[],0,e,.nil⟩
 | dict=>exact ⟨List.nodup_nil,⟨λp hp=>by simp at hp,λp hp=>by simp at hp⟩,#[],e,rfl⟩
noncomputable def a9z (prog:Program) (w:World) (G:Gi) (ak:AK) (A:Around) (e:PySem.Expr) (tup:Bool) (c':Cx) (r0:En) (turnM:d8->Hp->(List d8->Hp->Prop)->Prop) (Qc:List d8->Hp->Prop):Prop :=
 ∀ (I:Addr) (wr:List Addr) (src:Src) (St:Nat->Heap->Prop) (cenv:Env) (D:Addr) (nf:Nat) (s:Shared) (H:Hp) (Rr:Result->Shared->Prop),T6 prog w G I wr src tup St->Cl G w cenv wr D->Inv ak prog w G c' cenv r0 D H s []->St 0 s.heap ->
  (∀ b∈wr,H b=none/\G.base b=none)->a0M turnM src nf 0 [] H Qc->(∀ acc' H' s',Inv ak prog w G c' cenv r0 D H' s' acc'->k9 G w (CX cenv wr D) H s H' s'->Qc acc' H'->Rr (.ok .next) s') ->
  codeAny (model prog w) A (.compLoop e 0 (.ref I) (.ref D) cenv) Rr s
theorem a2A {newAcc:Sem Value} {g:PySem.Comprehension} {gs:List PySem.Comprehension} {use:Option (Value->Sem Unit)}
  {turnM:d8->Hp->(List d8->Hp->Prop)->Prop} {Qc:List d8->Hp->Prop} {Qm:d8->Hp->Prop}
  (hcl:clausesOf e=g :: gs) (hok:Y9 c sc must=true) (sit:SIt prog w G n m c g.iter it) (al:V2 n m A) (R:w6 G w H s.heap) (F:O9 G w env c r H s.heap)
  (q:it.iv (j5 G.F n) r H λsrc H1=>∃ nf,a0M turnM src nf 0 [] H1 Qc) (hQc:∀ xs H5 mo,Qc xs H5->b3D ak xs mo->alloc mo H5 Qm)
  (hnew:∀ (s:Shared) (Q:Value->Shared->Prop),Q (.ref s.heap.objs.size) {s with heap:=s.heap.push (a6D ak)}->wpAny (model prog w) A newAcc Q z5 s)
  (hstart:∀ (I D:Addr) (cenv:Env) (s:Shared) (Rr:Result->Shared->Prop),(∀ Q:Value->Shared->Prop,Q (.ref I) s->wpAny (model prog w) A (pyIter (.ref I)) Q z5 s)->codeAny (model prog w) A (.compLoop e 0 (.ref I) (.ref D) cenv) Rr s->codeAny (model prog w) A (.compStart e 0 (.ref I) (.ref D) cenv) Rr s)
  (hloop:a9z prog w G ak A e it.tup (sub c sc) (Q4 must r) turnM Qc)
  (hnone:use=none->∀ D H' s',k9 G w N8 H s H' s'->Qm (.ref D) H'->Q (.ref D) s')
  (hsome:∀ u,use=some u->∃ P,(∀ D H' s',k9 G w N8 H s H' s'->Qm (.ref D) H'->wpAny (model prog w) A (u (.ref D)) (λ_ s''=>a2d G w env c H' s' P s'') z5 s')/\∀ s',a2d G w env c H s P s'->Q .none s') :
  wpAny (model prog w) A (comprehension e sc env pos newAcc false (eval g.iter env) use) Q z5 s:=by
 refine eAA (a0X hok) λok1 ok2 ok3=>?_;refine eA (sit A s H r env _ al R F q) λs1 s2=>?_;have hfree:∀ p∈sc.names,p.2=.free->(env.cells.lookup p.1).isSome=true:=λp hp e=>by
  refine A6 (F.cel p.1 ((ok2 p hp).2.1 e)) λa u h1 _=>?_;refine b9 h1 ?_;rfl
 refine wpAny_comprehension_free hcl s1 (a8F hfree) ok1 (λp hp e=>(ok2 p hp).2.2 e) (wpAny_mono s2 (λx t1 h1=>wpAny_mono h1 (λv t2 h2=>?_) λ_ _ e=>e) λ_ _ e=>e);refine a0W h2 λI wr src St H1 q4 ok h0 fr st1 nf q=>?_;clear h2;subst q4;refine hnew t2 _ ?_;refine wpAny_newFunctionEnv (λx hx=>(ok2 x hx).1) (by intro y hy;simp at hy) (λh3 hns hsb=>?_) ok1
 dsimp only at hns hsb ⊢;generalize hP:t2.heap.push (a6D ak)=HP at hns hsb ⊢;have R2:=st1.rel;have RP:w6 G w H1 HP:=by refine t6 hP ?_;exact R2.push _
 have hCs:HP.objs.size=t2.heap.objs.size+1:=by refine t6 hP ?_;refine b9 (Heap.size_push ..) ?_;rfl
 generalize hD:t2.heap.objs.size=D at hCs;generalize hC:HP.objs.size=C at hns hsb hCs;have hDC:D≠C:=by refine b9 hCs ?_;exact Nat.ne_of_lt (Nat.lt_succ_self _)
 refine eAA (E9 (k:=D) R2 (Nat.le_of_eq hD)) λfD1 fD2 fD3=>?_;refine eAA (E9 (k:=C) R2 (by refine b9 hCs ?_;refine t6 hD ?_;exact Nat.le_succ _)) λfC1 fC2 fC3=>?_
 refine eAA (E9 (k:=C) RP (Nat.le_of_eq hC)) λgC1 _ _=>?_;have old:∀ b o,t2.heap.get? b=some o->h3.get? b=some o:=λb o e=>by
  have hb:=Heap.lt_size e;refine (hsb.extBut b o (by refine b9 hCs ?_;refine t6 hD ?_;exact Nat.ne_of_lt (Nat.lt_succ_of_lt hb)) (Heap.get?_push_of_some _ ?_))
  refine t6 hP ?_;exact Heap.get?_push_of_some _ e
 have hDo:h3.get? D=some (a6D ak):=by
  refine hsb.extBut _ _ hDC (Heap.get?_push_of_some _ ?_)
  (refine t6 hP ?_;refine t6 hD ?_);exact Heap.get?_push_size _ (by cases ak <;> rfl)
 have tup:∀ b vs,IsTup t2.heap b vs->IsTup h3 b vs:=λb vs ⟨o,e,r⟩=>⟨o,old b o e,r⟩;have st2:∀ t:Nat,k9 G w N8 H1 t2 H1 {t2 with heap:=h3,toks:=t}:=λt=>by
  refine ⟨⟨λb o e=>⟨old b o (R2.base b o e).1,(R2.base b o e).2⟩,λb mo e=>(R2.objs b mo e).mono tup λo ho=>old b o ho⟩,⟨λb o e _ _=>old b o e,λ_ e=>.inl e,λ_ e=>e,λb e _=>?_⟩,rfl,rfl⟩;refine eE (Option.isSome_iff_exists.mp e) λo eo=>?_;show (h3.get? b).isSome=true;refine b9 (old b o eo) ?_;rfl
 have st12:=st1.trans (st2 (t2.toks+([]:List (Str×Value)).length));have fresh0:∀ a,t2.heap.get? a=none->s.heap.get? a=none:=λa e=>by
  cases q:s.heap.get? a with
  | none=>rfl
  | some o =>
   have:=st1.ext.there a (by refine b9 q ?_;rfl) (λz=>z)
   rw [e] at this;exact nomatch this
 have hCH:H C=none:=by
  cases q:H C with
  | none=>rfl
  | some mo=>have:=st1.ext.grow C (by refine b9 q ?_;rfl);rw [fC2] at this;exact nomatch this
 have F3:O9 G w (compEnvC sc (Q0 env sc.names []) C env) (sub c sc) (Q4 must r) H1 h3:=by
  refine b32 F R hok (st12.ext) (fresh0 C fC1) ?_ fC2 fC3;have:(λx=>List.lookup x ([]:List (Str×Value)).reverse)=λ_=>(none:Option Value):=rfl;refine t6 this ?_;exact hns
 have cells0:∀ x a,(Q0 env sc.names []).lookup x=some a->env.cells.lookup x=some a:=a3x (env:=env) sc.names [] hfree (λx a e=>by cases e)
 have fxs:∀ a,FX (compEnvC sc (Q0 env sc.names []) C env) a->a=C\/∃ o,s.heap.get? a=some o:=λa h=>by
  rcases h with rfl | ⟨x,e⟩
  ·exact .inl rfl
  ·refine S5 (F.own.2.2 x a (cells0 x a e)) λ_ _ _ u o e1 _=>?_;exact .inr ⟨o,e1⟩
 have notFX:∀ a,s.heap.get? a=none->a≠C->¬ FX (compEnvC sc (Q0 env sc.names []) C env) a:=λa e hne h=>by
  rcases fxs a h with rfl | ⟨o,e1⟩
  ·exact hne rfl
  ·rw [e] at e1;cases e1
 have wrt:∀ b∈wr,∃ o,t2.heap.get? b=some o:=λb hb=>let ⟨o,e,_⟩:=ok.nons _ _ h0 b hb;⟨o,e⟩;have cl:Cl G w (compEnvC sc (Q0 env sc.names []) C env) wr D:=by
  refine ⟨λhm=>?_,λb hb=>?_,notFX D (fresh0 D fD1) hDC⟩
  ·refine eE (wrt D hm) λo e=>?_;rw [fD1] at e;cases e
  ·refine notFX b (fr b hb).1 ?_
   rintro rfl
   refine eE (wrt _ hb) λo e=>?_;rw [fC1] at e;cases e
 have inv:Inv ak prog w G (sub c sc) (compEnvC sc (Q0 env sc.names []) C env) (Q4 must r) D H1 {t2 with heap:=h3,toks:=t2.toks+([]:List (Str×Value)).length} [] :=
  ⟨(st2 _).rel,F3,b7R ak,a9o ak,a4O ak hDo,fD2,fD3⟩
 have hSt:St 0 h3:=ok.frame 0 _ _ h0 (λb _ o e=>old b o e) tup;refine hstart I D _ _ _ (λQ' hQ'=>ok.self A 0 _ _ hSt hQ') ?_;refine hloop I wr src St (compEnvC sc (Q0 env sc.names []) C env) D nf _ H1 _ ok cl inv hSt (λb hb=>(fr b hb).2) q λxs H5 s5 inv5 st5 q5=>?_;refine Q2 inv5.acc λmo a1 a2 a3 a4=>?_;have hm:=hQc xs H5 mo q5 a1 D a3;have r6:w6 G w (H5.set D mo) s5.heap:=by
  refine ⟨λa o e=>⟨(inv5.rel.base a o e).1,?_⟩,λa mo' e=>?_⟩
  ·unfold Hp.set;refine b9 (if_neg (by rintro rfl;rw [a4] at e;cases e)) ?_
   exact (inv5.rel.base a o e).2
  ·unfold Hp.set at e
   split at e
   ·rename_i h;subst h;have q1:=A3 e;clear e;subst q1;exact a2
   ·exact inv5.rel.objs a mo' e
 have st6:k9 G w (·=D) H5 s5 (H5.set D mo) s5:=by
  refine ⟨r6,⟨λa o e _ _=>e,λa e=>?_,λa e=>?_,λa e _=>e⟩,rfl,rfl⟩
  ·unfold Hp.set at e
   split at e
   ·rename_i h;exact .inr (.inr h)
   ·exact .inl e
  ·unfold Hp.set
   split
   ·rfl
   ·exact e
 have st7:k9 G w N8 H s (H5.set D mo) s5:=by
  have t:=(st12.no (Y:=CX (compEnvC sc (Q0 env sc.names []) C env) wr D)).trans (st5.trans (st6.weaken λa h=>.inr (.inl h)));refine ⟨t.rel,t.ext.compress λa ha=>.inr ?_,t.gens,t.os⟩;rcases ha with ha | rfl | rfl
  ·exact (fr a ha).1
  ·exact fresh0 _ fD1
  ·exact fresh0 _ fC1
 have sC:s.heap.get? C=none:=fresh0 C fC1;obtain ⟨mm,oC,hoC,hnC,nsC,_⟩:∃ mm oC,s5.heap.get? C=some oC/\B9 oC/\s5.heap.Ns C mm/\True:=by
  refine I6 inv5.frm.loc λmm oC a b d _=>?_;exact ⟨mm,oC,a,b,d,trivial⟩
 have hH6:(H5.set D mo) C=none:=by
  unfold Hp.set;refine b9 (if_neg hDC.symm) ?_;exact inv5.frm.own.1
 have nFX:¬ FX env C:=λh=>by
  rcases h with e | ⟨x,e⟩
  ·refine A6 F.loc λ_ o ho _=>?_;rw [<- e,sC] at ho;cases ho
  ·refine S5 (F.own.2.2 x C e) λ_ _ _ u o e1 _=>?_;rw [sC] at e1;cases e1
 unfold compPost;cases use with
 | none =>
  refine ⟨mm,nsC,λh' sb=>?_⟩;exact hnone rfl D _ _ (a4N st7 nsC hH6 fC3 sC sb).1 hm
 | some u =>
  refine i9 (hsome u rfl) λP hu hP'=>?_;refine wpAny_mono (hu D _ _ st7 hm) (λ_ s8 h8=>?_) λ_ _ e=>e;refine k8 h8 λr' H8 st8 F8 p8=>?_;clear h8;have nsC8:s8.heap.Ns C mm:=by
   refine a5K nsC λo' es ep e rest=>?_;clear nsC;exact ⟨o',es,ep,st8.ext.keep _ _ e hH6 nFX,rest⟩
  have hH8:H8 C=none:=st8.ext.none hH6 (by refine b9 hoC ?_;rfl) nFX
  refine ⟨mm,nsC8,λh' sb=>hP' _ ⟨r',H8,(a4N (st7.no.trans st8) nsC8 hH8 fC3 sC sb).1,?_,p8⟩⟩;have b:=a4N (st7.no.trans st8) nsC8 hH8 fC3 sC sb;refine F8.extX st8.rel b.2.ext (λa o vs n hX e1 ec e2=>?_) λa h=>by refine b9 (show a=C from h) ?_;exact nFX
  refine i9 (a8O nsC8) λo' e3 e4=>?_;rw [show a=C from hX,e3] at e1;have q3:=A3 e1;clear e1;subst q3;exact e4 _ _ e2
end
end
variable {Qc:List d8->Hp->Prop}
section
open PySem PySem.W PyProof.Rows PySem.Calls PySem.SeqAt PySem.MeetsSeq
open Classical
section
variable {prog:Program} {w:World} {G:Gi} {n m:Nat} {c:Cx} {ak:AK}
theorem a2X {y:Nm} (h:y∉must.map nm):Q4 must r y=r y:=by unfold Q4;refine b9 (if_neg h) ?_;rfl
theorem a4c {y:Nm} (h:y∈must.map nm):Q4 must r y=none:=by unfold Q4;refine b9 (if_pos h) ?_;rfl
theorem a19 {r r':En} (htg:W4 tg=some (t,one)) (h:a0a t one v r r'):a0a t one v (Q4 (S1 tg) r) r' :=
 a6T h λy hy=>a2X (by refine b9 (N4 htg) ?_;exact hy)
theorem a4s (htg:W4 tg=some (t,one)) (h:a1i it one=true):it.tup=true->a6L tg=true:=λhi=>by
 unfold a1i at h;rw [hi] at h;cases tg with
 | Name x p=>refine i9 (l8 htg) λ_ _ e=>?_;cases e;exact nomatch h
 | Tuple _ _ _=>rfl
 | _=>exact x8 htg
theorem a8f {l:List Cv} (g:Gk G) (al:V2 n m A)
  (hC:∀ e x,trC k (sub c sc) e=some x->SC prog w G n m (sub c sc) e x) (hE:SE prog w G n m (sub c sc) elt x) (hl:D2 (trC k (sub c sc)) ifs=some l)
  (htg:W4 tg=some (t,one)) (hloc:Q8 (S7 (sub c sc)) tg=true) (hit:a1i it one=true) :
  a9z prog w G .list A (.ListComp elt [⟨tg,iter,ifs,0⟩] sc pos) it.tup (sub c sc) (Q4 (S1 tg) r) (a2E t one r (a2R x (a1k l) (j5 G.F n))) Qc:=by
 intro I wr src St cenv D nf s H Rr ok cl inv st own q hR;refine a13 (pre:=[]) g al.h rfl a78 ok cl htg hloc (a4s htg hit) (λv H P ⟨r',hb,q⟩=>⟨r',a19 htg hb,q⟩) (Nat.zero_le _) (λs H r' v acc P inv hz hb q=>?_) nf 0 [] s H Qc inv st own q hR;exact a5N hC hE hl al cl.dd s H r' _ acc P inv (by simp only [List.length_nil] at hz;exact c1x hz) (a3g (λy hy=>a4c (by refine b9 (N4 htg) ?_;exact hy)) hb) q
theorem Gok.sub (g:Gok G c):Gok G (Mine.Internal.sub c sc):={g with cl:=g.cl,at_:=g.at_,me:=g.me,fn:=g.fn,cls:=g.cls,fun_:=λcn name fd h=>let ⟨f,a,b,d⟩:=g.fun_ cn name fd h;⟨f,a,b.cx,d⟩,keepf:=g.keepf,nolim:=g.nolim,blt:=g.blt}
noncomputable def SU (prog:Program) (w:World) (G:Gi) (n m:Nat) (c:Cx) (e:PySem.Expr) (x:Ev):Prop :=
 ∀ (A:Around) (s:Shared) (H:Hp) (r:En) (env:Env) (Qm:d8->Hp->Prop) (P:En->Hp->Prop) (u:Value->Sem Unit),V2 n m A->w6 G w H s.heap->O9 G w env c r H s.heap->x (j5 G.F n) r H Qm ->
  (∀ D H' s',k9 G w N8 H s H' s'->Qm (.ref D) H'->wpAny (model prog w) A (u (.ref D)) (λ_ s''=>a2d G w env c H' s' P s'') z5 s')->wpAny (model prog w) A (evalThenUse e env u) (λ_ s'=>a2d G w env c H s P s') z5 s
theorem b3o {l:List Cv} (g:Gok G c)
  (hC:∀ e x,trC k (sub c sc) e=some x->SC prog w G n m (sub c sc) e x) (hE:SE prog w G n m (sub c sc) elt x) (hl:D2 (trC k (sub c sc)) ifs=some l) (sit:SIt prog w G n m c iter it)
  (hok:Y9 c sc (S1 tg)=true) (htg:W4 tg=some (t,one)) (hloc:Q8 (S7 (sub c sc)) tg=true) (hit:a1i it one=true) :
  SE prog w G n m c (.ListComp elt [⟨tg,iter,ifs,0⟩] sc pos) (v8 x t one it (a1k l))/\SU prog w G n m c (.ListComp elt [⟨tg,iter,ifs,0⟩] sc pos) (v8 x t one it (a1k l)):=by
 have key:∀ (A:Around) (s:Shared) (H:Hp) (r:En) (env:Env) (Qm:d8->Hp->Prop) (use:Option (Value->Sem Unit)) (Q:Value->Shared->Prop),V2 n m A->w6 G w H s.heap->O9 G w env c r H s.heap->(v8 x t one it (a1k l)) (j5 G.F n) r H Qm ->
   (use=none->∀ D H' s',k9 G w N8 H s H' s'->Qm (.ref D) H'->Q (.ref D) s') ->
   (∀ u,use=some u->∃ P,(∀ D H' s',k9 G w N8 H s H' s'->Qm (.ref D) H'->wpAny (model prog w) A (u (.ref D)) (λ_ s''=>a2d G w env c H' s' P s'') z5 s')/\∀ s',a2d G w env c H s P s'->Q .none s') ->
   wpAny (model prog w) A (comprehension (.ListComp elt [⟨tg,iter,ifs,0⟩] sc pos) sc env (firstIterPos [⟨tg,iter,ifs,0⟩] pos) (PySem.newList []) false (eval iter env) use) Q z5 s:=by
  intro A s H r env Qm use Q al R F q h1 h2;refine a2A (ak:=.list) (g:=⟨tg,iter,ifs,0⟩) (gs:=[]) rfl hok sit al R F q (λxs H5 mo h e=>?_) (λs Q h=>wpAny_newObj_type h) (λI D cenv s Rr hs h=>codeAny_compStart_list h (wpAny_mono (hs _ h) (λ_ _ h=>h) λ_ _ e=>e.elim)) (a8f g.toGk al hC hE hl htg hloc hit) h1 h2;refine b9 (show mo=.list xs from e) ?_;exact h
 refine ⟨λA s H r env Q al R F q=>?_,λA s H r env Qm P u al R F q hu=>?_⟩
 ·exact key A s H r env Q none (V6 G w (i8 G) H s Q) al R F q (λ_ D H' s' st q=>⟨.ref D,H',.ref,st,q⟩) λu e=>nomatch e
 ·exact c7t (key A s H r env Qm (some u) (λ_ s'=>wpAny (model prog w) A (pure ()) (λ_ s'=>a2d G w env c H s P s') z5 s') al R F q (λe=>nomatch e) λu' e=>by have q1:=A3 e;clear e;subst q1;exact ⟨P,hu,λs' h=>c7u h⟩)
end
section
variable {prog:Program} {w:World} {G:Gi} {n m:Nat} {c:Cx} {ak:AK}
noncomputable def a9s (e:PySem.Expr) (iter2:PySem.Expr) (cenv:Env) (D:Addr) (c0:Code):Sem Fin :=
 (eval iter2 cenv>>=λx=>standAt iter2.pos>>=λ_=>foldedSetIterable iter2 cenv x>>=λx=>holding [x] (pyIter x)>>=λi=>runOwn (.compStart e 1 i (.ref D) cenv) cenv>>=λ_=>again c0)
theorem a6K (elt tg iter tg2 iter2:PySem.Expr) (ifs:List PySem.Expr) (sc:Scope) (pos:Pos) (it:Value) (D:Addr) (env:Env) :
  compTurn (.ListComp elt [⟨tg,iter,[],0⟩,⟨tg2,iter2,ifs,0⟩] sc pos) 0 it (.ref D) env=(standAt iter.pos>>=λ_=>pyNext it>>=λr=>match r with
   | none=>pure (.done .next)
   | some v=>letOwnedTupleGo tg it v>>=λ_=>assign tg env v>>=λ_ =>
     a9s (.ListComp elt [⟨tg,iter,[],0⟩,⟨tg2,iter2,ifs,0⟩] sc pos) iter2 env D (.compLoop (.ListComp elt [⟨tg,iter,[],0⟩,⟨tg2,iter2,ifs,0⟩] sc pos) 0 it (.ref D) env)):=by rfl
theorem a7G (elt tg iter tg2 iter2:PySem.Expr) (ifs:List PySem.Expr) (sc:Scope) (pos:Pos) (it:Value) (D:Addr) (env:Env) :
  compTurn (.ListComp elt [⟨tg,iter,[],0⟩,⟨tg2,iter2,ifs,0⟩] sc pos) 1 it (.ref D) env=(standAt iter2.pos>>=λ_=>pyNext it>>=λr=>match r with
   | none=>pure (.done .next)
   | some v=>letOwnedTupleGo tg2 it v>>=λ_=>assign tg2 env v>>=λ_ =>
     a5C ifs elt env D (.compLoop (.ListComp elt [⟨tg,iter,[],0⟩,⟨tg2,iter2,ifs,0⟩] sc pos) 1 it (.ref D) env)):=by rfl
theorem b1f :
  a61 prog w A (.compLoop (.ListComp elt [⟨tg,iter,[],0⟩,⟨tg2,iter2,ifs,0⟩] sc pos) 0 (.ref I) (.ref D) cenv) I tg cenv
   (a9s (.ListComp elt [⟨tg,iter,[],0⟩,⟨tg2,iter2,ifs,0⟩] sc pos) iter2 cenv D (.compLoop (.ListComp elt [⟨tg,iter,[],0⟩,⟨tg2,iter2,ifs,0⟩] sc pos) 0 (.ref I) (.ref D) cenv)):=by
 intro s Q h;show wpAny _ A ((compTurn (.ListComp elt [⟨tg,iter,[],0⟩,⟨tg2,iter2,ifs,0⟩] sc pos) 0 (.ref I) (.ref D) cenv).onRaise (λx=>do noteFrame x cenv;theTreesLotGoes x)) _ _ s
 refine wpAny_noted ?_;refine b9 (a6K ..) ?_;refine c7t (wpAny_standAt (c7t (wpAny_mono h (λo s1 h1=>?_) λ_ _ e=>e.elim)));cases o with
 | none=>exact c7u h1
 | some u =>
  refine c7t (wpAny_mono h1 (λ_ s2 h2=>c7t (wpAny_mono h2 (λ_ s3 h3=>?_) λ_ _ e=>e.elim)) λ_ _ e=>e.elim);exact wpAny_mono h3 (λ_ _ q=>q) λ_ _ e=>e.elim
theorem b17 :
  a61 prog w A (.compLoop (.ListComp elt [⟨tg,iter,[],0⟩,⟨tg2,iter2,ifs,0⟩] sc pos) 1 (.ref I) (.ref D) cenv) I tg2 cenv
   (a5C ifs elt cenv D (.compLoop (.ListComp elt [⟨tg,iter,[],0⟩,⟨tg2,iter2,ifs,0⟩] sc pos) 1 (.ref I) (.ref D) cenv)):=by
 intro s Q h;show wpAny _ A ((compTurn (.ListComp elt [⟨tg,iter,[],0⟩,⟨tg2,iter2,ifs,0⟩] sc pos) 1 (.ref I) (.ref D) cenv).onRaise (λx=>do noteFrame x cenv;theTreesLotGoes x)) _ _ s
 refine wpAny_noted ?_;refine b9 (a7G ..) ?_;refine c7t (wpAny_standAt (c7t (wpAny_mono h (λo s1 h1=>?_) λ_ _ e=>e.elim)));cases o with
 | none=>exact c7u h1
 | some u =>
  refine c7t (wpAny_mono h1 (λ_ s2 h2=>c7t (wpAny_mono h2 (λ_ s3 h3=>?_) λ_ _ e=>e.elim)) λ_ _ e=>e.elim);exact wpAny_mono h3 (λ_ _ q=>q) λ_ _ e=>e.elim
theorem b2J {Rr:Result->Shared->Prop} (hs:∀ Q:Value->Shared->Prop,Q (.ref I) s->wpAny (model prog w) A (pyIter (.ref I)) Q z5 s)
  (h:codeAny (model prog w) A (.compLoop (.ListComp elt [⟨tg,iter,[],0⟩,⟨tg2,iter2,ifs,0⟩] sc pos) 1 (.ref I) (.ref D) cenv) Rr s):codeAny (model prog w) A (.compStart (.ListComp elt [⟨tg,iter,[],0⟩,⟨tg2,iter2,ifs,0⟩] sc pos) 1 (.ref I) (.ref D) cenv) Rr s:=by
 refine codeAny_of_tree ?_;show wpAny _ _ ((compStart (.ListComp elt [⟨tg,iter,[],0⟩,⟨tg2,iter2,ifs,0⟩] sc pos) 1 (.ref I) (.ref D) cenv).onRaise (λx=>do noteFrame x cenv;standAt theWindowsPlace)) _ _ s
 refine wpAny_notedAt ?_;unfold compStart;show wpAny _ _ (ask>>=_) _ _ s;refine c7t (wpAny_askSetting (wpAny_ite ?_));have h':wpAny (model prog w) A (pyIter (.ref I)) (λit' s'=>codeAny (model prog w) A (.compLoop (.ListComp elt [⟨tg,iter,[],0⟩,⟨tg2,iter2,ifs,0⟩] sc pos) 1 it' (.ref D) cenv) Rr s') (notedBy (model prog w) A cenv λx s'=>Rr (.error x) s') s:=wpAny_mono (hs _ h) (λ_ _ h=>h) λ_ _ e=>e.elim
 split
 ·first
   | exact c7t (c7u (c7u (And.intro rfl h)))
   | exact c7u (And.intro rfl h)
 ·first
   | exact c7t (wpAny_rule (c7t (wpAny_standAt (c7t (wpAny_mono h' (λit' s' h'=>c7u (And.intro rfl h')) λ_ _ x=>x)))))
   | (refine c7t (wpAny_rule ?_);show wpAny _ _ (standAt iter2.pos>>=_) _ _ s;exact c7t (wpAny_standAt (c7t (wpAny_mono h' (λit' s' h'=>c7u (And.intro rfl h')) λ_ _ x=>x))))
theorem b0v (A:Around):A.mark none=A:=rfl
end
section
variable {prog:Program} {w:World} {G:Gi} {n m:Nat} {c:Cx} {ak:AK}
theorem b2u {c':Cx} {l:List Cv} {c0:Code} {it2:It} (g:Gk G)
  (hC:∀ e x,trC k c' e=some x->SC prog w G n m c' e x) (hE:SE prog w G n m c' elt x) (hl:D2 (trC k c') ifs=some l) (sit:SIt prog w G n m c' iter2 it2) (al:V2 n m A)
  (htg:W4 tg2=some (t2,one2)) (hloc:Q8 (S7 c') tg2=true) (hit:a1i it2 one2=true)
  (dd:¬ FX cenv D) (s:Shared) (H:Hp) (r' r0:En) (acc:List d8) (P:List d8->Hp->Prop) (inv:Inv .list prog w G c' cenv r' D H s acc) (hz:acc.length<=o5) (hbk:∀ y v,r0 y=some v->(Q4 (S1 tg2) r') y=some v)
  (q:b3C x t2 one2 it2 (a1k l) (j5 G.F n) r' H P) :
  wpAny (model prog w) A (a9s (.ListComp elt [⟨tg,iter,[],0⟩,⟨tg2,iter2,ifs,0⟩] sc pos) iter2 cenv D c0) (λfin s'=>fin=.again c0/\∃ xs H',Inv .list prog w G c' cenv r0 D H' s' (acc++xs)/\k9 G w (YX cenv D) H s H' s'/\P xs H') z5 s:=by
 refine eA (sit A s H r' cenv _ al inv.rel inv.frm q) λs1 s2=>?_;unfold a9s;refine c7t (wpAny_mono s2 (λxv t1 h1=>c7t (wpAny_standAt (c7t (wpAny_of_eq (s1 xv) (c7t (wpAny_holding (wpAny_mono h1 (λv t2 h2=>?_) λ_ _ e=>e))))))) λ_ _ e=>e);refine a0W h2 λI wr src St H1 q1 ok h0 fr st1 nf q=>?_;clear h2;subst q1;have f1:=inv.frm.step inv.rel st1;have a1:=inv.acc.ext inv.rel st1.ext .no (λz=>z)
 have inv1:Inv .list prog w G c' cenv (Q4 (S1 tg2) r') D H1 t2 (acc++[]):=⟨st1.rel,f1.sub λy v e=>by
  unfold Q4 at e
  split at e
  ·cases e
  ·exact e,by refine b9 (List.append_nil ..) ?_;exact a1⟩
 have cl:Cl G w cenv wr D:=by
  refine ⟨λhm=>?_,λb hb h=>?_,dd⟩
  ·refine B2 inv.acc λmo _ a2 _=>?_;refine i9 a2.at_ λo e _=>?_;rw [(fr D hm).1] at e;cases e
  ·rcases h with e | ⟨x,e⟩
   ·refine A6 inv.frm.loc λ_ o ho _=>?_;rw [<- e,(fr b hb).1] at ho;cases ho
   ·refine S5 (inv.frm.own.2.2 x b e) λ_ _ _ u o e1 _=>?_;rw [(fr b hb).1] at e1;cases e1
 refine c7t (wpAny_runOwn ?_);refine b9 (b0v ..) ?_;refine b2J (λQ hQ=>ok.self A 0 _ _ h0 hQ) ?_;refine a13 (pre:=acc) (rest:=a5C ifs elt cenv D _) (body:=a2R x (a1k l) (j5 G.F n)) g al.h rfl b17 ok cl htg hloc (a4s htg hit) (λv H P ⟨r',hb,q⟩=>⟨r',a19 htg hb,q⟩) hz (λs H r' v acc P inv hz hb q=>?_) nf 0 [] t2 H1 P inv1 h0 (λb hb=>(fr b hb).2) q λxs H' s' i5 st5 q5=>?_
 ·exact a5N hC hE hl al cl.dd s H r' _ acc P inv (c0r ‹_› hz) (a3g (λy hy=>a4c (by refine b9 (N4 htg) ?_;exact hy)) hb) q
 ·refine c7u ⟨rfl,xs,H',i5.back hbk,?_,q5⟩;have t:=(st1.no (Y:=CX cenv wr D)).trans st5;refine ⟨t.rel,t.ext.compress λa ha=>?_,t.gens,t.os⟩;rcases ha with ha | ha
  ·exact .inr (fr a ha).1
  ·exact .inl ha
theorem b0W {l:List Cv} {it it2:It} (g:Gk G) (al:V2 n m A)
  (hC:∀ e x,trC k (sub c sc) e=some x->SC prog w G n m (sub c sc) e x) (hE:SE prog w G n m (sub c sc) elt x) (hl:D2 (trC k (sub c sc)) ifs=some l)
  (sit:SIt prog w G n m (sub c sc) iter2 it2) (htg2:W4 tg2=some (t2,one2)) (hloc2:Q8 (S7 (sub c sc)) tg2=true) (hit2:a1i it2 one2=true)
  (htg:W4 tg=some (t,one)) (hloc:Q8 (S7 (sub c sc)) tg=true) (hit:a1i it one=true) (hdom:∀ y∈t2,y∉t->r y=none) :
  a9z prog w G .list A (.ListComp elt [⟨tg,iter,[],0⟩,⟨tg2,iter2,ifs,0⟩] sc pos) it.tup (sub c sc) (Q4 (S1 tg) r) (a2E t one r (b3C x t2 one2 it2 (a1k l) (j5 G.F n))) Qc:=by
 intro I wr src St cenv D nf s H Rr ok cl inv st own q hR;refine a13 (pre:=[]) g al.h rfl b1f ok cl htg hloc (a4s htg hit) (λv H P ⟨r',hb,q⟩=>⟨r',a19 htg hb,q⟩) (Nat.zero_le _) (λs H r' v acc P inv hz hb q=>?_) nf 0 [] s H Qc inv st own q hR;refine b2u g hC hE hl sit al htg2 hloc2 hit2 cl.dd s H r' _ acc P inv (by simp only [List.length_nil] at hz;exact c1G hz) (λy v e=>?_) q
 have hy:y∉t:=λhy=>by rw [a4c (by refine b9 (N4 htg) ?_;exact hy)] at e;cases e
 rw [a2X (by refine b9 (N4 htg) ?_;exact hy)] at e
 have h2:y∉t2:=λh2=>by rw [hdom y h2 hy] at e;cases e
 refine b9 (a2X (by refine b9 (N4 htg2) ?_;exact h2)) ?_;refine b9 (a50 hb hy) ?_;refine b9 (a2X (by refine b9 (N4 htg) ?_;exact hy)) ?_
 exact e
end
end
variable {xs:Array Nat}
section
open PySem PySem.W PyProof.Rows PySem.Calls PySem.SeqAt PySem.MeetsSeq
open Classical
section
variable {prog:Program} {w:World} {G:Gi} {n m:Nat} {c:Cx} {ak:AK}
theorem b0J:∀ {es:List PySem.Expr} {t:List Nm},a2F es=some t->(es.all λe=>((a1r e).map (S7 c)).getD false)=true->∀ y∈t,∃ x,y=nm x/\y6 x=true/\c.names.lookup x=some .local:=by
 intro es;induction es with
 | nil=>intro t h _ y hy;have q1:=A3 h;clear h;subst q1;exact nomatch hy
 | cons e es ih =>
  intro t h hl y hy;refine k8 (v9 h) λa b ha hb q6=>?_;subst q6;refine i9 (f5 ha) λx h1 ha=>?_;refine eE (a0b h1) λp q5=>?_;subst q5;refine eA (B5 ha) λh1 q3=>?_;subst q3;refine eA (Bool.and_eq_true_iff.mp hl) λhl hl2=>?_;rcases List.mem_cons.mp hy with rfl | hy
  ·exact ⟨x,rfl,h1,a2Y hl⟩
  ·exact ih hb hl2 y hy
theorem b3a (h:W4 tg=some (t,one)) (hl:Q8 (S7 c) tg=true):∀ y∈t,∃ x,y=nm x/\y6 x=true/\c.names.lookup x=some .local:=by
 cases tg with
 | Name x p =>
  intro y hy;refine i9 (l8 h) λa ha e=>?_;cases e;refine eA (B5 ha) λh1 q4=>?_;subst q4;exact ⟨x,List.mem_singleton.mp hy,h1,a2Y hl⟩
 | Tuple es k p =>
  refine i9 (l8 h) λts hts e=>?_;cases e;exact b0J hts hl
 | _=>exact x8 h
theorem b4u (F:O9 G w env c r H h) (hok:Y9 c sc (S1 tg)=true) (htg:W4 tg=some (t,one)) (htg2:W4 tg2=some (t2,one2)) (hl:Q8 (S7 (sub c sc)) tg2=true) :
  ∀ y∈t2,y∉t->r y=none:=λy hy hn=>by
 refine B2 (b3a htg2 hl y hy) λx q7 ha hk=>?_;subst q7;refine a1o (a0Z hk) λh1 k0 h2 h3 h4=>?_
 split at h4
 ·cases h4
 ·subst h4;rcases (a0X hok).2.2 (x,.local) (List.mem_filter.mpr ⟨h2,by simpa using h1⟩) rfl with a | a
  ·exact absurd (by refine t6 (N4 htg) ?_;exact List.mem_map_of_mem (List.contains_iff_mem.mp a)) hn
  ·exact F.dom x ha a
theorem b3h {l:List Cv} {it it2:It} (g:Gok G c)
  (hC:∀ e x,trC k (sub c sc) e=some x->SC prog w G n m (sub c sc) e x) (hE:SE prog w G n m (sub c sc) elt x) (hl:D2 (trC k (sub c sc)) ifs=some l) (sit:SIt prog w G n m c iter it)
  (sit2:SIt prog w G n m (sub c sc) iter2 it2) (htg2:W4 tg2=some (t2,one2)) (hloc2:Q8 (S7 (sub c sc)) tg2=true) (hit2:a1i it2 one2=true)
  (hok:Y9 c sc (S1 tg)=true) (htg:W4 tg=some (t,one)) (hloc:Q8 (S7 (sub c sc)) tg=true) (hit:a1i it one=true) :
  SE prog w G n m c (.ListComp elt [⟨tg,iter,[],0⟩,⟨tg2,iter2,ifs,0⟩] sc pos) (V5 x t one it t2 one2 it2 (a1k l))/\SU prog w G n m c (.ListComp elt [⟨tg,iter,[],0⟩,⟨tg2,iter2,ifs,0⟩] sc pos) (V5 x t one it t2 one2 it2 (a1k l)):=by
 have key:∀ (A:Around) (s:Shared) (H:Hp) (r:En) (env:Env) (Qm:d8->Hp->Prop) (use:Option (Value->Sem Unit)) (Q:Value->Shared->Prop),V2 n m A->w6 G w H s.heap->O9 G w env c r H s.heap->(V5 x t one it t2 one2 it2 (a1k l)) (j5 G.F n) r H Qm ->
   (use=none->∀ D H' s',k9 G w N8 H s H' s'->Qm (.ref D) H'->Q (.ref D) s') ->
   (∀ u,use=some u->∃ P,(∀ D H' s',k9 G w N8 H s H' s'->Qm (.ref D) H'->wpAny (model prog w) A (u (.ref D)) (λ_ s''=>a2d G w env c H' s' P s'') z5 s')/\∀ s',a2d G w env c H s P s'->Q .none s') ->
   wpAny (model prog w) A (comprehension (.ListComp elt [⟨tg,iter,[],0⟩,⟨tg2,iter2,ifs,0⟩] sc pos) sc env (firstIterPos [⟨tg,iter,[],0⟩,⟨tg2,iter2,ifs,0⟩] pos) (PySem.newList []) false (eval iter env) use) Q z5 s:=by
  intro A s H r env Qm use Q al R F q h1 h2;refine a2A (ak:=.list) (g:=⟨tg,iter,[],0⟩) (gs:=[⟨tg2,iter2,ifs,0⟩]) rfl hok sit al R F q (λxs H5 mo h e=>?_) (λs Q h=>wpAny_newObj_type h) (λI D cenv s Rr hs h=>codeAny_compStart_list h (wpAny_mono (hs _ h) (λ_ _ h=>h) λ_ _ e=>e.elim)) (b0W g.toGk al hC hE hl sit2 htg2 hloc2 hit2 htg hloc hit (b4u F hok htg htg2 hloc2)) h1 h2;refine b9 (show mo=.list xs from e) ?_;exact h
 refine ⟨λA s H r env Q al R F q=>?_,λA s H r env Qm P u al R F q hu=>?_⟩
 ·exact key A s H r env Q none (V6 G w (i8 G) H s Q) al R F q (λ_ D H' s' st q=>⟨.ref D,H',.ref,st,q⟩) λu e=>nomatch e
 ·exact c7t (key A s H r env Qm (some u) (λ_ s'=>wpAny (model prog w) A (pure ()) (λ_ s'=>a2d G w env c H s P s') z5 s') al R F q (λe=>nomatch e) λu' e=>by have q2:=A3 e;clear e;subst q2;exact ⟨P,hu,λs' h=>c7u h⟩)
end
end
variable {i:Nat} {j:Nat}
section
open PySem PySem.W PyProof.Rows PySem.Calls PySem.SeqAt PySem.MeetsSeq
open Classical
section
variable {prog:Program} {w:World} {G:Gi} {n m:Nat} {c:Cx} {ak:AK}
theorem a5G:∀ {l m:List (d8×d8)},l.map a1s=m.map a1s->l=m:=by
 intro l;induction l with
 | nil =>
  intro z9;cases z9 with
  | nil =>
   intro _;exact rfl
  | cons _ _ =>
   intro h;exact nomatch h
 | cons z10 l ih =>
  intro z11;cases z11 with
  | nil =>
   intro h;obtain ⟨a,b⟩:=z10;exact nomatch h
  | cons z12 m =>
   intro h;obtain ⟨a,b⟩:=z10;obtain ⟨a',b'⟩:=z12;injection h with h1 h2
   injection h1 with h1
   injection h1 with h1 h3
   injection h3 with h3
   cases h1;cases h3;refine b9 (ih h2) ?_;rfl
theorem b1E {k v:d8} {p:d8×d8} (h:p∈C6 es k v):p.1=k\/∃ q∈es,q.1=p.1:=by
 unfold C6 at h
 split at h
 ·refine i9 (List.mem_map.mp h) λq hq e=>?_;refine .inr ⟨q,hq,?_⟩
  split at e <;> (subst e;first | rfl | assumption | simp_all)
 ·rcases List.mem_append.mp h with h | h
  ·exact .inr ⟨p,h,rfl⟩
  ·simp only [List.mem_singleton] at h;exact .inl (by refine b9 h ?_;rfl)
theorem a7x {k v:d8}:(C6 es k v).length<=es.length+1:=by
 unfold C6
 split <;> simp
theorem a44 {l:List (d8×d8)} {k v:d8}:A9 (l++[(k,v)])=C6 (A9 l) k v:=by
 unfold A9;refine b9 List.foldl_append ?_;rfl
theorem a4i {κ:Nat}:∀ (l:List (d8×d8)) (es:List (d8×d8)),(∀ p∈l,B8 7 p.1=true/\x9 p.1=κ)->(∀ p∈es,B8 7 p.1=true/\x9 p.1=κ)->∀ p∈l.foldl (λes p=>C6 es p.1 p.2) es,B8 7 p.1=true/\x9 p.1=κ:=by
 intro l;induction l with
 | nil=>intro es _ h p hp;exact h p hp
 | cons q l ih=>intro es hl h p hp;exact ih _ (λp hp=>hl p (List.mem_cons_of_mem _ hp)) (λp hp=>by
  rcases b1E hp with e | ⟨z,hz,e⟩
  ·refine b9 e ?_;exact hl q List.mem_cons_self
  ·refine t6 e ?_;exact h z hz) p hp
theorem a32:∀ (l:List (d8×d8)) (es:List (d8×d8)),(l.foldl (λes p=>C6 es p.1 p.2) es).length<=es.length+l.length:=by
 intro l;induction l with
 | nil=>intro es;simp
 | cons q l ih =>
  intro es;have:=ih (C6 es q.1 q.2);have h2:=a7x (es:=es) (k:=q.1) (v:=q.2);simp only [List.foldl_cons,List.length_cons];exact b6j this h2
theorem w6.own {mo:Z5} (R:w6 G w H h) (h1:H D=none) (h2:G.base D=none) (r:a2e G w h D mo):w6 G w (H.set D mo) h:=by
 refine ⟨λa o e=>⟨(R.base a o e).1,?_⟩,λa mo' e=>?_⟩
 ·unfold Hp.set;refine b9 (if_neg (by rintro rfl;rw [h2] at e;cases e)) ?_
  exact (R.base a o e).2
 ·unfold Hp.set at e
  split at e
  ·rename_i h;subst h;have q1:=A3 e;clear e;subst q1;exact r
  ·exact R.objs a mo' e
theorem w6.disown {mo:Z5} (R:w6 G w (H.set D mo) h) (h1:H D=none) (_h2:G.base D=none):w6 G w H h/\a2e G w h D mo:=by
 refine ⟨⟨λa o e=>?_,λa mo' e=>?_⟩,R.objs D mo (by unfold Hp.set;refine b9 (if_pos rfl) ?_;rfl)⟩
 ·refine eA (R.base a o e) λe1 e2=>?_;refine ⟨e1,?_⟩;unfold Hp.set at e2
  split at e2
  ·cases e2
  ·exact e2
 ·refine R.objs a mo' ?_;unfold Hp.set;refine b9 (if_neg (by rintro rfl;rw [h1] at e;cases e)) ?_
  exact e
theorem a9T {κ:Nat} {x y:d8} {kv u:Value} {Q:Unit->Shared->Prop} (al:V2 n m A) (a:Acc (.dict κ) G w H s.heap D acc) (R:w6 G w H s.heap) (hk:B8 7 x=true/\x9 x=κ) (rk:i8 G s.heap x kv) (ry:i8 G s.heap y u) (hz:acc.length<=o5)
  (q:∀ s',Acc (.dict κ) G w H s'.heap D (acc++[a1s (x,y)])->k9 G w (·=D) H s H s'->Q () s'):wpAny (model prog w) A (dictSet D kv u) Q z5 s:=by
 refine Q2 a λmo q2 r h1 h2=>?_;clear a;refine k8 q2 λl ep hp hs q3=>?_;clear q2;subst q3;have R1:=R.own h1 h2 r;have hst:∀ p∈A9 l,B8 7 p.1=true/\x9 p.1=κ:=a4i l [] hs (λp hp=>(List.not_mem_nil hp).elim);refine a5H (H:=H.set D (.dict (A9 l) ep)) (by have:=al.units;exact c2O this) R1 (by unfold Hp.set;refine b9 (if_pos rfl) ?_;rfl) (k:=x) ⟨hk.1,λp hp=>(hst p hp).2.trans hk.2.symm⟩ rk ry ?_ λs' st=>?_
 ·have:=a32 l [];rw [hp,List.length_map] at hz;unfold A9;simp only [List.length_nil] at this;exact b9O hz this
 ·have eset:(H.set D (.dict (A9 l) ep)).set D (.dict (C6 (A9 l) x y) (dep (A9 l) x ep))=H.set D (.dict (C6 (A9 l) x y) (dep (A9 l) x ep)):=by
   funext b
   unfold Hp.set
   split <;> rfl
  rw [eset] at st;refine eA (st.rel.disown h1 h2) λR2 r2=>?_;refine q s' ⟨_,⟨l++[(x,y)],_,by refine b9 hp ?_;refine b9 List.map_append ?_;rfl,λp hp=>?_,by refine b9 a44 ?_;rfl⟩,r2,h1,h2⟩ ⟨R2,⟨λb o e f g=>?_,λ_ e=>.inl e,λ_ e=>e,λb e g=>?_⟩,st.gens,st.os⟩
  ·rcases List.mem_append.mp hp with h | h
   ·exact hs p h
   ·simp only [List.mem_singleton] at h;refine b9 h ?_;exact hk
  ·refine st.ext.keep b o e ?_ (λz=>z);unfold Hp.set;refine b9 (if_neg g) ?_;exact f
  ·exact st.ext.there b e λz=>z
end
end
variable {es:List PySem.Expr}
section
open PySem PySem.W PyProof.Rows PySem.Calls PySem.SeqAt PySem.MeetsSeq
open Classical
section
variable {prog:Program} {w:World} {G:Gi} {n m:Nat} {c:Cx} {ak:AK}
noncomputable def b3X (kx vx:PySem.Expr) (cenv:Env) (D:Addr) (c0:Code):Sem Fin :=
 (eval kx cenv>>=λkv=>holding [kv] (eval vx cenv)>>=λvv=>standAt {kx.pos with endLine:=vx.pos.endLine,endCol:=vx.pos.endCol}>>=λ_=>holding [kv,vv] (dictSet D kv vv))>>=λ_=>again c0
theorem a8y :
  a61 prog w A (.compLoop (.DictComp kx vx [⟨tg,iter,[],0⟩] sc pos) 0 (.ref I) (.ref D) cenv) I tg cenv (b3X kx vx cenv D (.compLoop (.DictComp kx vx [⟨tg,iter,[],0⟩] sc pos) 0 (.ref I) (.ref D) cenv)):=by
 intro s Q h;show wpAny _ A ((compTurn (.DictComp kx vx [⟨tg,iter,[],0⟩] sc pos) 0 (.ref I) (.ref D) cenv).onRaise (λx=>do noteFrame x cenv;theTreesLotGoes x)) _ _ s
 refine wpAny_noted ?_;refine b9 (compTurn_dict ..) ?_;refine c7t (wpAny_standAt (c7t (wpAny_mono h (λo s1 h1=>?_) λ_ _ e=>e.elim)));cases o with
 | none=>exact c7u h1
 | some u =>
  refine c7t (wpAny_mono h1 (λ_ s2 h2=>c7t (wpAny_mono h2 (λ_ s3 h3=>?_) λ_ _ e=>e.elim)) λ_ _ e=>e.elim);exact wpAny_mono h3 (λ_ _ q=>q) λ_ _ e=>e.elim
theorem b06 {c':Cx} {k v:Ev} {c0:Code} (hK:SE prog w G n m c' kx k) (hV:SE prog w G n m c' vx v) (al:V2 n m A)
  (dd:¬ FX cenv D) (s:Shared) (H:Hp) (r' r0:En) (acc:List d8) (P:List d8->Hp->Prop) (inv:Inv (.dict 0) prog w G c' cenv r' D H s acc) (hz:acc.length<=o5) (hbk:∀ y v,r0 y=some v->r' y=some v)
  (q:b18 k v (j5 G.F n) r' H P) :
  wpAny (model prog w) A (b3X kx vx cenv D c0) (λfin s'=>fin=.again c0/\∃ xs H',Inv (.dict 0) prog w G c' cenv r0 D H' s' (acc++xs)/\k9 G w (YX cenv D) H s H' s'/\P xs H') z5 s:=by
 unfold b3X;refine c7t (c7t (j8 (hK A s H r' cenv _ al inv.rel inv.frm q) (λkv ku H1 s1 rk st1 q1=>?_)));have f1:=inv.frm.step inv.rel st1;have a1:=inv.acc.ext inv.rel st1.ext .no (λz=>z);refine c7t (wpAny_holding (j8 (hV A s1 H1 r' cenv _ al st1.rel f1 q1) (λy u H2 s2 ry st2 q2=>?_)));revert q2;intro q5;refine eA q5 λq3 q2=>?_;clear q5;refine eE q3 λx q4=>?_;clear q3;subst q4
 have f2:=f1.step st1.rel st2;have a2:=a1.ext st1.rel st2.ext .no (λz=>z);have rk2:=st2.vrep st1.rel rk;refine c7t (wpAny_standAt (wpAny_holding (a9T al a2 st2.rel ⟨rfl,rfl⟩ rk2 ry hz λs3 a3 st3=>c7u ⟨rfl,[a1s (.int x,y)],H2,⟨st3.rel,O9.sub ?_ hbk,a3⟩,?_,q2⟩)))
 ·exact f2.extX st2.rel st3.ext a2.nt (λa h=>by refine b9 (show a=D from h) ?_;exact dd)
 ·exact (st1.no).trans ((st2.no).trans (st3.weaken λa h=>.inl h))
theorem a8q {kE vE:Ev} (g:Gk G) (al:V2 n m A)
  (hK:SE prog w G n m (sub c sc) kx kE) (hV:SE prog w G n m (sub c sc) vx vE)
  (htg:W4 tg=some (t,one)) (hloc:Q8 (S7 (sub c sc)) tg=true) (hit:a1i it one=true) :
  a9z prog w G (.dict 0) A (.DictComp kx vx [⟨tg,iter,[],0⟩] sc pos) it.tup (sub c sc) (Q4 (S1 tg) r) (a2E t one r (b18 kE vE (j5 G.F n))) Qc:=by
 intro I wr src St cenv D nf s H Rr ok cl inv st own q hR;refine a13 (pre:=[]) g al.h rfl a8y ok cl htg hloc (a4s htg hit) (λv H P ⟨r',hb,q⟩=>⟨r',a19 htg hb,q⟩) (Nat.zero_le _) (λs H r' v acc P inv hz hb q=>?_) nf 0 [] s H Qc inv st own q hR;exact b06 hK hV al cl.dd s H r' _ acc P inv (by simp only [List.length_nil] at hz;exact c1G hz) (a3g (λy hy=>a4c (by refine b9 (N4 htg) ?_;exact hy)) hb) q
theorem b5D {kE vE:Ev} (g:Gok G c)
  (hK:SE prog w G n m (sub c sc) kx kE) (hV:SE prog w G n m (sub c sc) vx vE) (sit:SIt prog w G n m c iter it)
  (hok:Y9 c sc (S1 tg)=true) (htg:W4 tg=some (t,one)) (hloc:Q8 (S7 (sub c sc)) tg=true) (hit:a1i it one=true) :
  SE prog w G n m c (.DictComp kx vx [⟨tg,iter,[],0⟩] sc pos) (a3t kE vE t one it)/\SU prog w G n m c (.DictComp kx vx [⟨tg,iter,[],0⟩] sc pos) (a3t kE vE t one it):=by
 have key:∀ (A:Around) (s:Shared) (H:Hp) (r:En) (env:Env) (Qm:d8->Hp->Prop) (use:Option (Value->Sem Unit)) (Q:Value->Shared->Prop),V2 n m A->w6 G w H s.heap->O9 G w env c r H s.heap->(a3t kE vE t one it) (j5 G.F n) r H Qm ->
   (use=none->∀ D H' s',k9 G w N8 H s H' s'->Qm (.ref D) H'->Q (.ref D) s') ->
   (∀ u,use=some u->∃ P,(∀ D H' s',k9 G w N8 H s H' s'->Qm (.ref D) H'->wpAny (model prog w) A (u (.ref D)) (λ_ s''=>a2d G w env c H' s' P s'') z5 s')/\∀ s',a2d G w env c H s P s'->Q .none s') ->
   wpAny (model prog w) A (comprehension (.DictComp kx vx [⟨tg,iter,[],0⟩] sc pos) sc env (firstIterPos [⟨tg,iter,[],0⟩] pos) (PySem.newDict) false (eval iter env) use) Q z5 s:=by
  intro A s H r env Qm use Q al R F q h1 h2;refine a2A (ak:=.dict 0) (g:=⟨tg,iter,[],0⟩) (gs:=[]) rfl hok sit al R F q (λxs H5 mo h e=>?_) (λs Q h=>?_) (λI D cenv s Rr hs h=>codeAny_compStart_dict h (wpAny_mono (hs _ h) (λ_ _ h=>h) λ_ _ e=>e.elim)) (a8q g.toGk al hK hV htg hloc hit) h1 h2
  ·refine k8 e λl ep e1 _ q6=>?_;clear e;subst q6;revert h;intro q2;refine i9 q2 λl' e2 h=>?_;clear q2;cases a5G (e1.symm.trans e2);exact h ep
  ·exact wpAny_newObj_type h
 refine ⟨λA s H r env Q al R F q=>?_,λA s H r env Qm P u al R F q hu=>?_⟩
 ·exact key A s H r env Q none (V6 G w (i8 G) H s Q) al R F q (λ_ D H' s' st q=>⟨.ref D,H',.ref,st,q⟩) λu e=>nomatch e
 ·exact c7t (key A s H r env Qm (some u) (λ_ s'=>wpAny (model prog w) A (pure ()) (λ_ s'=>a2d G w env c H s P s') z5 s') al R F q (λe=>nomatch e) λu' e=>by have q1:=A3 e;clear e;subst q1;exact ⟨P,hu,λs' h=>c7u h⟩)
end
end
variable {t:PySem.Expr}
section
open PySem PySem.W PyProof.Rows PySem.Calls PySem.SeqAt
section
variable {prog:Program} {w:World} {G:Gi} {n m:Nat} {c:Cx}
theorem k9.kept {h':Heap} {tk:Nat} (R:w6 G w H s.heap) (hk:∀ b o,s.heap.get? b=some o->h'.get? b=some o):k9 G w N8 H s H {s with heap:=h',toks:=tk}:=by
 have tup:∀ b vs,IsTup s.heap b vs->IsTup h' b vs:=λb vs ⟨o,ho,r⟩=>⟨o,hk b o ho,r⟩;refine ⟨⟨λa o e=>⟨hk a o (R.base a o e).1,(R.base a o e).2⟩,λa mo e=>(R.objs a mo e).mono tup λo ho=>hk a o ho⟩,⟨λa o e _ _=>hk a o e,λ_ e=>.inl e,λ_ e=>e,λa e _=>?_⟩,rfl,rfl⟩;refine eE (Option.isSome_iff_exists.mp e) λo e=>?_;show (h'.get? a).isSome=true;refine b9 (hk a o e) ?_;rfl
theorem k9.give {H H':Hp} {s s':Shared} {mo:Z5} (st:k9 G w N8 H s H' s') (hn:s.heap.get? a=none) (h1:H' a=none) (h2:G.base a=none) (r:a2e G w s'.heap a mo):k9 G w N8 H s (H'.set a mo) s':=by
 refine ⟨st.rel.own h1 h2 r,⟨λb o e f g=>st.ext.keep b o e f g,λb e=>?_,λb e=>?_,st.ext.there⟩,st.gens,st.os⟩
 ·unfold Hp.set at e
  split at e
  ·rename_i q;subst q;exact .inr (.inl hn)
  ·exact st.ext.fresh b e
 ·unfold Hp.set
  split
  ·rfl
  ·exact st.ext.grow b e
noncomputable def b3q (b:BI):Value:=match b with
 | .len=>.builtin "len" | .sum=>.builtin "sum" | .max=>.builtin "max" | .min=>.builtin "min" | .sorted=>.builtin "sorted"
 | .list=>.type "list" | .tuple=>.type "tuple" | .int=>.type "int" | .str=>.type "str"
noncomputable def a3a (prog:Program) (w:World) (G:Gi) (n m:Nat) (b:BI):Prop:=∀ (A:Around) (s:Shared) (H:Hp) (vs:List d8) (us:List Value) (Q:d8->Hp->Prop),V2 n m A->w6 G w H s.heap->l5 G s.heap vs us->biW b vs H Q ->
 wpAny (model prog w) A (call (b3q b) us) (V6 G w (i8 G) H s Q) z5 s
theorem a1x {us:List Value} (r:l5 G h [v] us):∃ u,us=[u]/\i8 G h v u:=by
 replace r:=F0 r;revert r;intro q23;refine k8 q23 λu us' q21 r q22=>?_;clear q23;subst q21;subst q22;exact ⟨u,rfl,r⟩
theorem b3V {v w':d8} {us:List Value} (r:l5 G h [v,w'] us):∃ u u',us=[u,u']/\i8 G h v u/\i8 G h w' u':=by
 replace r:=F0 r;revert r;intro q35;refine a1X q35 λu us' q32 r u' us'' q33 r' q34=>?_;clear q35;subst q32;subst q33;subst q34;exact ⟨u,u',rfl,r,r'⟩
theorem a66 (h:k<=o5):k<=sizeLine:=by refine b9 sizeLine_eq ?_;unfold o5 at h;exact zo7 h
theorem b4N (h:k<=o5):((k:Int) < 2 ^ 63):=by unfold o5 at h;exact c3R h
theorem b8c:a3a prog w G n m .len:=λA s H vs us Q al R rv h=>by
 revert h;intro q26;refine I6 q26 λa xs q25 e hz h=>?_;clear q26;subst q25;refine i9 (a1x rv) λu q14 r0=>?_;subst q14;cases R4 r0;refine A6 (R.objs _ _ e) λws k ho r=>?_;have e1:(xs.length:Int)=(ws.size:Int):=by refine b9 r.length ?_;refine b9 Array.length_toList ?_;rfl
 rw [e1] at h;exact call_len_list ⟨_,ho,rfl,_,rfl⟩ (by refine t6 e1 ?_;exact b4N hz) ⟨_,H,.int,.toks R,h⟩
theorem a4A {ws:Array Value} (hi:IntsAre ws.toList l):∃ xs:Array (Int×Tok),ws=intItems xs/\xs.size=l.length/\∀ i,i < l.length->numAt xs i=l.getD i 0:=by
 obtain ⟨ws⟩:=ws;have:∀ (ws:List Value) (l:List Int),IntsAre ws l->∃ xs:List (Int×Tok),ws=xs.map (λp=>Value.int p.1 p.2)/\xs.map (·.1)=l:=by
  intro ws l h;induction h with
  | nil=>exact ⟨[],rfl,rfl⟩
  | cons i t _ ih=>refine i9 ih λxs e1 e2=>?_;clear ih;exact ⟨(i,t) :: xs,by refine b9 List.map_cons ?_;refine b9 e1 ?_;rfl,by refine b9 List.map_cons ?_;refine b9 e2 ?_;rfl⟩
 refine i9 (this ws l hi) λxs e1 e2=>?_;subst e2;refine ⟨xs.toArray,by show _=intItems _;unfold intItems;refine b9 List.map_toArray ?_;refine b9 e1 ?_;rfl,by simp,λi hi=>?_⟩
 unfold numAt;simp only [List.length_map] at hi;simp [hi]
theorem a7P (l:List Int) (f:Nat->Int) (h:∀ i,i < l.length->f i=l.getD i 0):preSum f l.length=l.sum:=by
 have:∀ k,k<=l.length->preSum f k=(l.take k).sum:=by
  intro k;induction k with
  | zero=>intro _;simp [preSum]
  | succ k ih =>
   intro hk;show preSum f k+f k=_;refine b9 (ih (c34 hk)) ?_;refine b9 (h k (b81 hk)) ?_;refine b9 List.take_add_one ?_;refine b9 List.sum_append ?_;simp [List.getD_eq_getElem?_getD,List.getElem?_eq_getElem (show k < l.length by exact b81 hk)]
 refine b9 (this _ (Nat.le_refl _)) ?_;refine b9 List.take_length ?_;rfl
theorem b7N:a3a prog w G n m .sum:=λA s H vs us Q al R rv h=>by
 revert h;intro q10;refine k8 q10 λa l q9 e h=>?_;clear q10;subst q9;refine i9 (a1x rv) λu q15 r0=>?_;subst q15;cases R4 r0;refine A6 (R.objs _ _ e) λws k ho r=>?_;refine B2 (a4A r.toInts) λxs q30 hz hn=>?_;subst q30;refine sum_intListG al.h ⟨_,ho,rfl,_,rfl⟩ λh' tk t' hk=>?_;refine b9 hz ?_;refine b9 (a7P l _ hn) ?_;exact ⟨_,H,.int,.kept R hk,h⟩
theorem b0k (l:List Int):∀ x,x<=l.foldl max x/\(∀ y∈l,y<=l.foldl max x)/\(l.foldl max x=x\/l.foldl max x∈l):=by
 induction l with
 | nil=>intro x;exact ⟨Int.le_refl _,λy hy=>(List.not_mem_nil hy).elim,.inl rfl⟩
 | cons a l ih =>
  intro x;refine eAA (ih (max x a)) λh1 h2 h3=>?_;refine ⟨Int.le_trans (Int.le_max_left _ _) h1,λy hy=>?_,?_⟩
  ·rcases List.mem_cons.mp hy with rfl | hy
   ·exact Int.le_trans (Int.le_max_right _ _) h1
   ·exact h2 y hy
  ·rcases h3 with h3 | h3
   ·show List.foldl max (max x a) l=x\/_;rewrite [h3];rcases Int.le_total x a with h | h
    ·right;refine b9 List.foldl_cons ?_;refine b9 h3 ?_;refine b9 (Int.max_eq_right h) ?_;exact List.mem_cons_self
    ·left;exact Int.max_eq_left h
   ·exact .inr (List.mem_cons_of_mem _ h3)
theorem b0r (l:List Int):∀ x,l.foldl min x<=x/\(∀ y∈l,l.foldl min x<=y)/\(l.foldl min x=x\/l.foldl min x∈l):=by
 induction l with
 | nil=>intro x;exact ⟨Int.le_refl _,λy hy=>(List.not_mem_nil hy).elim,.inl rfl⟩
 | cons a l ih =>
  intro x;refine eAA (ih (min x a)) λh1 h2 h3=>?_;refine ⟨Int.le_trans h1 (Int.min_le_left _ _),λy hy=>?_,?_⟩
  ·rcases List.mem_cons.mp hy with rfl | hy
   ·exact Int.le_trans h1 (Int.min_le_right _ _)
   ·exact h2 y hy
  ·rcases h3 with h3 | h3
   ·show List.foldl min (min x a) l=x\/_;rewrite [h3];rcases Int.le_total x a with h | h
    ·left;exact Int.min_eq_left h
    ·right;refine b9 List.foldl_cons ?_;refine b9 h3 ?_;refine b9 (Int.min_eq_right h) ?_;exact List.mem_cons_self
   ·exact .inr (List.mem_cons_of_mem _ h3)
theorem b2G (h:l≠[]):a9Y l∈l/\∀ y∈l,y<=a9Y l:=by
 cases l with
 | nil=>exact absurd rfl h
 | cons x r =>
  refine eAA (b0k r x) λh1 h2 h3=>?_;exact ⟨h3.elim (λe=>List.mem_cons.mpr (.inl e)) (List.mem_cons_of_mem _),λy hy=>(List.mem_cons.mp hy).elim (λe=>e▸h1) (h2 y)⟩
theorem c6h (h:l≠[]):c0B l∈l/\∀ y∈l,c0B l<=y:=by
 cases l with
 | nil=>exact absurd rfl h
 | cons x r =>
  refine eAA (b0r r x) λh1 h2 h3=>?_;exact ⟨h3.elim (λe=>List.mem_cons.mpr (.inl e)) (List.mem_cons_of_mem _),λy hy=>(List.mem_cons.mp hy).elim (λe=>e▸h1) (h2 y)⟩
theorem b27 (h:i < l.length):l.getD i 0∈l:=by
 refine b9 List.getD_eq_getElem?_getD ?_;refine b9 (List.getElem?_eq_getElem h) ?_;exact List.getElem_mem h
theorem b3A {y:Int} (h:y∈l):∃ i,i < l.length/\l.getD i 0=y:=by
 obtain ⟨i,hi,e⟩:=List.mem_iff_getElem.mp h;exact ⟨i,hi,by refine b9 List.getD_eq_getElem?_getD ?_;refine b9 (List.getElem?_eq_getElem hi) ?_;exact e⟩
theorem b7T:a3a prog w G n m .max:=λA s H vs us Q al R rv h=>by
 rcases h with ⟨a,l,rfl,e,hne,h⟩ | ⟨i,j,rfl,h⟩
 ·refine i9 (a1x rv) λu q16 r0=>?_;subst q16;cases R4 r0;refine A6 (R.objs _ _ e) λws k ho r=>?_;refine B2 (a4A r.toInts) λxs q31 hz hn=>?_;subst q31;have hl:0 < l.length:=List.length_pos_iff.mpr hne;refine max_intList al.h ⟨_,ho,rfl,_,rfl⟩ (c1v hz hl) λv h' tk hv hk=>?_;refine eA (argBest_gt (numAt xs) (xs.size - 1)) λh1 h2=>?_;refine eE (intItems_at hv) λt q24=>?_;subst q24;have hb:argBest (λi j=>decide (numAt xs i > numAt xs j)) (xs.size - 1) < l.length:=by exact c1z hz hl h1
  have e2:numAt xs (argBest (λi j=>decide (numAt xs i > numAt xs j)) (xs.size - 1))=a9Y l:=by
   refine eA (b2G hne) λm1 m2=>?_;refine i9 (b3A m1) λi hi e3=>?_;refine Int.le_antisymm ?_ ?_
   ·refine b9 (hn _ hb) ?_;exact m2 _ (b27 hb)
   ·refine t6 e3 ?_;refine t6 (hn i hi) ?_;exact h2 i (c0W hz hi)
  refine b9 e2 ?_;exact ⟨_,H,.int,.kept R hk,h⟩
 ·refine k8 (b3V rv) λu u' q29 r1 r2=>?_;subst q29;refine eE (N0 r1) λt q3=>?_;subst q3;refine eE (N0 r2) λt' q6=>?_;subst q6;refine max_two_ints al.h λh' tk hk=>?_;by_cases hc:j > i
  ·refine b9 (if_pos hc) ?_;rw [Int.max_eq_right (c4Y hc)] at h;exact ⟨_,H,.int,.kept R hk,h⟩
  ·refine b9 (if_neg hc) ?_;rw [Int.max_eq_left (c24 hc)] at h;exact ⟨_,H,.int,.kept R hk,h⟩
theorem b7t:a3a prog w G n m .int:=λA s H vs us Q al R rv h=>by
 revert h;intro q2;refine i9 q2 λi q1 h=>?_;clear q2;subst q1;refine i9 (a1x rv) λu q17 r0=>?_;subst q17;refine eE (N0 r0) λt q4=>?_;subst q4;exact call_int_int ⟨_,H,.int,.refl R,h⟩
theorem b7X:a3a prog w G n m .str:=λA s H vs us Q al R rv h=>by
 revert h;intro q8;refine B2 q8 λi q7 hs h=>?_;clear q8;subst q7;refine i9 (a1x rv) λu q18 r0=>?_;subst q18;refine eE (N0 r0) λt q5=>?_;subst q5;refine PySem.P.str_of_int ?_ ⟨_,H,.str,.toks R,h⟩;have h0:i.natAbs < 2 ^ 60:=by unfold small at hs;omega
 by_cases hz:i.natAbs=0
 ·refine b9 hz ?_;decide
 ·have:=(Nat.log2_lt hz).mpr h0;exact c6b this
theorem b5e:a3a prog w G n m .list:=λA s H vs us Q al R rv h=>by
 revert h;intro q12;refine k8 q12 λa xs q11 e h=>?_;clear q12;subst q11;refine i9 (a1x rv) λu q19 r0=>?_;subst q19;cases R4 r0;refine A6 (R.objs _ _ e) λws k ho r=>?_;have e1:xs.length=ws.size:=by refine b9 r.length ?_;refine b9 Array.length_toList ?_;rfl
 refine call_list_seq a (.inl rfl) ho rfl rfl (λh' c' hk hnew=>?_) (by refine t6 e1 ?_;exact a66 h.1)
 have st:k9 G w N8 H s H {s with heap:=h'}:=k9.kept (tk:=s.toks) R hk
 have fr:=E9 R (Nat.le_refl s.heap.objs.size);exact ⟨.ref _,_,.ref,st.give (mo:=.list xs) fr.1 fr.2.1 fr.2.2 ⟨ws,c',hnew,st.vreps R r⟩,h.2 _ fr.2.1⟩
theorem b4e:a3a prog w G n m .tuple:=λA s H vs us Q al R rv h=>by
 revert h;intro q28;refine I6 q28 λv xs q27 hk hz h=>?_;clear q28;subst q27;refine i9 (a1x rv) λu q20 r0=>?_;subst q20;rcases hk with rfl | ⟨a,rfl,e⟩
 ·have rv':=r0;replace r0:=Y0 r0;refine k8 r0 λa ws q13 t r=>?_;clear r0;subst q13;exact call_tuple_tup t ⟨_,H,rv',.refl R,h⟩
 ·cases R4 r0;refine A6 (R.objs _ _ e) λws k ho r=>?_;have e1:xs.length=ws.size:=by refine b9 r.length ?_;refine b9 Array.length_toList ?_;rfl
  refine call_tuple_list ⟨_,ho,rfl,_,rfl⟩ (λh' hk=>?_) (by refine t6 e1 ?_;exact a66 hz)
  have st:k9 G w N8 H s H {s with heap:=h'}:=k9.kept (tk:=s.toks) R hk
  exact (a6w (s:={s with heap:=h'}) (t:=s.toks) (Q:=Q) st.rel (st.vreps R r) h).after st
end
section
variable {prog:Program} {w:World} {G:Gi} {n m:Nat} {c:Cx}
theorem a1K.after {H H1:Hp} {s s1 s':Shared} {Q:En->Hp->Prop} {u:Unit} (st:k9 G w (FX env) H s H1 s1) (x:a1K G w env c H1 s1 Q u s'):a1K G w env c H s Q u s' :=
 let ⟨r',H',F,st2,q⟩:=x;⟨r',H',F,st.trans st2,q⟩
noncomputable def ST (prog:Program) (w:World) (G:Gi) (n m:Nat) (c:Cx) (tg:PySem.Expr) (t:Tv):Prop :=
 ∀ (A:Around) (s:Shared) (H:Hp) (r:En) (env:Env) (v:d8) (u:Value) (Q:En->Hp->Prop),V2 n m A->w6 G w H s.heap->O9 G w env c r H s.heap->i8 G s.heap v u ->
  t (j5 G.F n) v r H Q->wpAny (model prog w) A (assign tg env u) (a1K G w env c H s Q) z5 s
theorem a4j {l k:List Value} {Q:Unit->Shared->Prop} (h:Q () s):wpAny (model prog w) A (release l k) Q E s:=λΓ p _=>by refine b9 (Sem.wp_release ..) ?_;exact h
theorem b2E {ws:Array Value} {z:Nat} {k:Int} {t:Tok} {y:Value} {Q:Unit->Shared->Prop} (ho:s.heap.get? a=some {cls:=.type "list",data:=.seq ws z}) (h0:0<=k) (hfit:k < 2 ^ 63) (hj:k < ws.size)
  (hQ:Q () {s with heap:=s.heap.update a (Obj.mapSeq (·.setIfInBounds k.toNat y))}):wpAny (model prog w) A (setItem (.ref a) (.int k t) y) Q E s:=by
 have hl:s.heap.IsList a ws:=⟨_,ho,rfl,z,rfl⟩;unfold setItem
 try with_reducible refine wpAny_holding ?_
 first | refine c7t (c7u ?_) | skip
 refine c7t (wpAny_sequenceKey hl.typeIs (by decide) ?_)
 refine c7t (wpAny_callSpecial?_slot (name:=Str.ofString "__setitem__") hl.typeIs slot_list_setitem (wpAny_call_entry slot_list_setitem hl.typeIs entry_list_setitem ?_ (args_list_setitem _ _ _)));show wpAny _ _ (Builtin.List.listSubscript? (.int k t)>>=_) _ _ s;refine c7t (wpAny_listSubscript_int (fitsIndex_of h0 hfit) ?_);clear hfit;refine eE (Int.eq_ofNat_of_zero_le h0) λj q24=>?_;subst q24
 have hj:j < ws.size:=by exact c22 hj
 have at_:ws[j]?=some ws[j]:=Array.getElem?_eq_getElem hj;show wpAny _ _ ((seqItemAt a j>>=λr=>pure (r.map (j,·)))>>=_) _ _ s;refine c7t (c7t (wpAny_seqItemAt ho rfl (c7u ?_)));refine b9 at_ ?_;show wpAny _ _ (setSeqItemAt a j y>>=_) _ _ s;refine c7t (wpAny_setSeqItemAt ho rfl ?_)
 first
  | exact c7t (c7u (c7u ⟨.none,rfl,c7u hQ⟩))
  | exact c7u ⟨.none,rfl,c7u hQ⟩
theorem a8s {p q x:d8} {v u y:Value} {Q:Hp->Prop} (al:V2 n m A) (R:w6 G w H s.heap) (rp:i8 G s.heap p v) (rq:i8 G s.heap q u) (rx:i8 G s.heap x y) (h:c3x p q x H Q) :
  wpAny (model prog w) A (setItem v u y) (λ_ s'=>∃ H',k9 G w N8 H s H' s'/\Q H') z5 s:=by
 have hu:A.units+65 < cLine:=by have:=al.units;exact b3j this
 rcases h with ⟨a,xs,k,rfl,e,rfl,h0,h1,hz,h⟩ | ⟨a,es,ep,rfl,e,hk,hz,h⟩
 ·cases R4 rp;refine eE (N0 rq) λt q10=>?_;subst q10;refine A6 (R.objs _ _ e) λws z ho r=>?_;have n1:xs.length=ws.size:=by refine b9 r.length ?_;refine b9 Array.length_toList ?_;rfl
  refine b2E ho h0 (by unfold o5 at hz;exact c3g h1 hz) (c4U h1 n1) ?_
  have up:=R.update (h':=s.heap.update a (Obj.mapSeq λw=>w.setIfInBounds k.toNat y)) (mo':=.list (xs.set k.toNat x)) e (Heap.SameBut.update ..) λtup=>⟨ws.setIfInBounds k.toNat y,_,IsL.update ho _,by
   refine b9 Array.toList_setIfInBounds ?_;exact (r.mono tup).set _ (rx.mono tup)⟩
  exact ⟨_,⟨up.1,up.2,rfl,rfl⟩,h⟩
 ·cases R4 rp;exact b0X hu R e hk rq rx hz λs' st=>⟨_,st,h⟩
theorem b5r {x:Str} {a:Nm} (h:a1P x=some a) (k:c.var x=true):ST prog w G n m c (.Name x pos) (l7 a):=λA s H r env v u Q al R F rv q=>by
 refine eA (B5 h) λhx q14=>?_;subst q14;refine b9 (arm_assign_Name ..) ?_;exact c7t (wpAny_standAt (a2G false R F k hx rv λs' F' st=>⟨_,H,F',st.weaken λ_ z=>z,q⟩))
theorem b7S {o i:PySem.Expr} {a b:Ev} (ha:SE prog w G n m c o a) (hb:SE prog w G n m c i b):ST prog w G n m c (.Subscript o i pos) (a1E a b):=λA s H r env v u Q al R F rv q=>by
 refine b9 (arm_assign_Subscript ..) ?_;refine c7t (wpAny_holding (j8 (ha A s H r env _ al R F q) λp ov H1 s1 r1 st1 q1=>?_));refine c7t (wpAny_holding (j8 (hb A s1 H1 r env _ al st1.rel (F.step R st1) q1) λp2 iv H2 s2 r2 st2 q2=>?_));have st:=st1.trans st2;refine c7t (wpAny_standAt (c7t (wpAny_holding (wpAny_mono (a8s al st.rel (st2.vrep st1.rel r1) r2 (st.vrep R rv) q2) (λ_ s3 h3=>?_) λ_ _ e=>e))))
 refine i9 h3 λH3 st3 q3=>?_;clear h3;have stt:=st.trans st3;exact a4j ⟨r,H3,F.step R stt,stt.no,q3⟩
theorem b5w {o:PySem.Expr} {a:Ev} {x:Str} {y:Nm} (g:Gok G c) (ha:SE prog w G n m c o a) (ht:a1P x=some y) (hc:c.attrs.contains x=true):ST prog w G n m c (.Attribute o x pos) (P8 a y):=λA s H r env v u Q al R F rv q=>by
 refine eA (B5 ht) λhx q15=>?_;subst q15;refine b9 (arm_assign_Attribute ..) ?_;refine c7t (wpAny_holding (j8 (ha A s H r env _ al R F q) λp ov H1 s1 r1 st1 q1=>?_));refine c7t (wpAny_standAt (c7t (wpAny_holding (wpAny_mono (a8U g st1.rel hx hc r1 (st1.vrep R rv) q1) (λ_ s2 h2=>?_) λ_ _ e=>e))));refine i9 h2 λH2 st2 q2=>?_;clear h2;have stt:=st1.trans st2;exact a4j ⟨r,H2,F.step R stt,stt.no,q2⟩
theorem b3J {t:Tv} (g:Gok G c) (hs:∀ e x,P1 k c e=some x->SE prog w G n m c e x) (h:a7R k c tg=some t):ST prog w G n m c tg t:=by
 cases tg with
 | Name x p =>
  refine eA (o8 h) λh1 h=>?_;refine i9 (l8 h) λa ha q16=>?_;subst q16;exact b5r ha h1
 | Subscript o i p =>
  refine eA (o8 h) λh1 h=>?_;refine i9 (f5 h) λa ha h=>?_;refine i9 (f5 h) λb hb h=>?_;have q1:=A3 h;clear h;subst q1;exact b7S (hs _ _ ha) (hs _ _ hb)
 | Attribute o x p =>
  refine eA (o8 h) λh1 h=>?_;refine i9 (f5 h) λa ha h=>?_;refine i9 (f5 h) λb hb h=>?_;have q2:=A3 h;clear h;subst q2;exact b5w g (hs _ _ ha) hb h1
 | _=>exact x8 h
theorem a1U {t:Tv} (h:a7R k c (.Starred e p)=some t):False:=x8 h
theorem P5 (h:∀ e' p,e≠.Starred e' p):assignEach (e :: es) env=(false,assign e env) :: assignEach es env:=by
 cases e <;> first | rfl | exact absurd rfl (h _ _)
theorem b0Q:∀ {es:List PySem.Expr} {ts:List Tv},D2 (a7R k c) es=some ts->(assignEach es env).findIdx? (·.1)=none/\(assignEach es env).length=ts.length:=by
 intro es;induction es with
 | nil=>intro ts h;have q3:=A3 h;clear h;subst q3;exact ⟨rfl,rfl⟩
 | cons e es ih =>
  intro ts h;refine k8 (v9 h) λa b ha hb q21=>?_;subst q21;refine eA (ih hb) λh1 h2=>?_;refine b9 (P5 λe' p he=>by subst he;exact a1U ha) ?_;refine b9 List.findIdx?_cons ?_
  exact ⟨by refine b9 h1 ?_;rfl,congrArg (·+1) h2⟩
theorem b7g (g:Gok G c) (hs:∀ e x,P1 k c e=some x->SE prog w G n m c e x) (al:V2 n m A):∀ (es:List PySem.Expr) (ts:List Tv) (vs:List d8) (us:List Value) (s:Shared) (H:Hp) (r:En) (Q:En->Hp->Prop),D2 (a7R k c) es=some ts ->
  w6 G w H s.heap->O9 G w env c r H s.heap->l5 G s.heap vs us->b4Y (j5 G.F n) ts vs r H Q->wpAny (model prog w) A (assignInOrder ((assignEach es env).map (·.2)) us) (a1K G w env c H s Q) z5 s:=by
 intro es;induction es with
 | nil =>
  intro ts vs us s H r Q h R F rv q;have q4:=A3 h;clear h;subst q4;revert q;intro q8;refine eA q8 λq7 q=>?_;clear q8;subst q7;replace rv:=a1l rv;subst rv;exact c7u ⟨r,H,F,.refl R,q⟩
 | cons e es ih =>
  intro ts vs us s H r Q h R F rv q;refine k8 (v9 h) λt ts' ht hts q22=>?_;subst q22;revert q;intro q12;refine A6 q12 λv ws q11 q=>?_;clear q12;subst q11;replace rv:=F0 rv;revert rv;intro q18;refine k8 q18 λu us' q17 ru rv=>?_;clear q18;subst q17;refine b9 (P5 λe' p he=>by subst he;exact a1U ht) ?_
  show wpAny _ _ (holding us' (assign e env u)>>=λ_=>assignInOrder ((assignEach es env).map (·.2)) us') _ _ _;refine c7t (wpAny_holding (wpAny_mono (b3J g hs ht A s H r env v u _ al R F ru q) (λ_ s1 h1=>?_) λ_ _ e=>e));refine k8 h1 λr1 H1 F1 st1 q1=>?_;clear h1;exact wpAny_mono (ih ts' ws us' s1 H1 r1 Q hts st1.rel F1 (st1.ext.vreps R (a29 F) rv) q1) (λ_ _ x=>a1K.after st1 x) λ_ _ e=>e
theorem c3l {t:Tv} (g:Gok G c) (hs:∀ e x,P1 k c e=some x->SE prog w G n m c e x) (h:trT k c tg=some t):ST prog w G n m c tg t:=by
 cases ha:b2g tg with
 | none=>unfold trT at h;rw [ha] at h;exact b3J g hs h
 | some es =>
  unfold trT at h;rw [ha] at h;refine i9 (l8 h) λts hts q20=>?_;subst q20;cases tg with
  | Tuple es' k' p =>
   have q5:=A3 ha;clear ha;subst q5;intro A s H r env v u Q al R F rv q;revert q;intro q13;refine B2 q13 λvs hq hl q=>?_;clear q13;refine b9 (arm_assign_Tuple ..) ?_;refine eA (b0Q (env:=env) hts) λf1 f2=>?_;refine c7t (wpAny_standAt ?_);unfold unpack;refine b9 f1 ?_;refine b9 f2 ?_;refine c7t (wpAny_holding (Z0 g.toGk al.h R rv hq hl λus s1 r1 st=>?_));exact wpAny_mono (b7g g hs al _ ts vs us s1 H r Q hts st.rel (F.step R st) r1 q) (λ_ _ x=>a1K.after st.no x) λ_ _ e=>e
  | _=>exact x8 ha
noncomputable def c6X (G:Gi) (h:Heap) (f:Fl) (x:Flow):Prop:=match f with
 | .next=>x=.next
 | .ret v=>∃ u,x=.ret u/\i8 G h v u
noncomputable def a30 (G:Gi) (w:World) (env:Env) (c:Cx) (H:Hp) (s:Shared) (Q:C0) (x:Flow) (s':Shared):Prop :=
 ∃ f r' H',c6X G s'.heap f x/\k9 G w (FX env) H s H' s'/\O9 G w env c r' H' s'.heap/\Q f r' H'
theorem a30.after {H H1:Hp} {s s1 s':Shared} {Q:C0} {x:Flow} (st:k9 G w (FX env) H s H1 s1) (g:a30 G w env c H1 s1 Q x s'):a30 G w env c H s Q x s' :=
 let ⟨f,r',H',a,b,d,e⟩:=g;⟨f,r',H',a,st.trans b,d,e⟩
noncomputable def SS (prog:Program) (w:World) (G:Gi) (n m:Nat) (c:Cx) (st:Stmt) (x:Bv):Prop :=
 ∀ (A:Around) (s:Shared) (H:Hp) (r:En) (env:Env) (Q:C0),V2 n m A->w6 G w H s.heap->O9 G w env c r H s.heap ->
  x (j5 G.F n) r H Q->wpAny (model prog w) A (exec st env) (a30 G w env c H s Q) z5 s
noncomputable def SB (prog:Program) (w:World) (G:Gi) (n m:Nat) (c:Cx) (l:List Stmt) (x:Bv):Prop :=
 ∀ (A:Around) (s:Shared) (H:Hp) (r:En) (env:Env) (Q:C0),V2 n m A->w6 G w H s.heap->O9 G w env c r H s.heap ->
  x (j5 G.F n) r H Q->wpAny (model prog w) A (execs l env) (a30 G w env c H s Q) z5 s
theorem b7J:SB prog w G n m c [] (toB []):=λA s H r env Q _ R F q=>wpAny_execs_nil ⟨.next,r,H,rfl,.refl R,F,q⟩
theorem b5d {st:Stmt} {x:Bv} {l:List Stmt} {b:Bv} (h:SS prog w G n m c st x) (hb:SB prog w G n m c l b):SB prog w G n m c (st :: l) (f6 x b):=λA s H r env Q al R F q=>by
 refine wpAny_execs_cons (wpAny_mono (h A s H r env _ al R F q) (λf s1 g=>?_) λ_ _ e=>e);refine U4 g λfl r1 H1 fr st1 F1 q1=>?_;clear g;cases fl with
 | next =>
  cases (show f=.next from fr);exact wpAny_mono (hb A s1 H1 r1 env Q al st1.rel F1 q1) (λ_ _ g=>g.after st1) λ_ _ e=>e
 | ret v =>
  refine i9 fr λu q9 ru=>?_;clear fr;subst q9;exact ⟨.ret v,r1,H1,⟨u,rfl,ru⟩,st1,F1,q1⟩
theorem a7d {recS:Cx->Stmt->Option Bv} (hs:∀ st x,recS c st=some x->SS prog w G n m c st x):∀ {l:List Stmt} {b:Bv},a5c recS c l=some b->SB prog w G n m c l b:=by
 intro l b h;refine i9 (l8 h) λxs hx q19=>?_;subst q19;clear h;induction l generalizing xs with
 | nil=>have q6:=A3 hx;clear hx;subst q6;exact b7J
 | cons st l ih =>
  refine k8 (v9 hx) λx xs' h1 h2 q23=>?_;subst q23;exact b5d (hs st x h1) (ih xs' h2)
end
end
variable {hs:List Int}
section
open PySem PySem.W PyProof.Rows PySem.Calls PySem.SeqAt
section
variable {prog:Program} {w:World} {G:Gi} {n m:Nat} {c:Cx}
theorem a8c:∀ (k:Nat) (l:List Str),l.length<=k->l.eraseDups.length<=l.length/\(l.eraseDups.length=l.length->l.Nodup):=by
 intro k;induction k with
 | zero =>
  intro l h;cases l with
  | nil=>exact ⟨Nat.le_refl _,λ_=>List.nodup_nil⟩
  | cons _ _=>exact absurd h (Nat.not_succ_le_zero _)
 | succ k ih =>
  intro z13;cases z13 with
  | nil =>
   intro _;exact ⟨Nat.le_refl _,λ_=>List.nodup_nil⟩
  | cons a l =>
   intro h;refine b9 List.eraseDups_cons ?_;have h0:=List.length_filter_le (λb=>!b==a) l;simp only [List.length_cons] at h ⊢;refine eA (ih (l.filter λb=>!b==a) (c3c h h0)) λh1 h2=>?_;refine ⟨by exact b9s h0 h1,λe=>?_⟩
   have e1:(l.filter λb=>!b==a).length=l.length:=by exact c0e h0 h1 e
   have e2:l.filter (λb=>!b==a)=l:=List.filter_eq_self.mpr (List.length_filter_eq_length_iff.mp e1);rw [e2] at h2;refine List.nodup_cons.mpr ⟨λha=>?_,h2 (by rw [e2] at e;exact b9c e)⟩
   have:=List.length_filter_eq_length_iff.mp e1 a ha;simp at this
theorem b3s {x y:Nm} {v u:d8} (h:x≠y):(r.set x v).set y u=(r.set y u).set x v:=by
 funext z
 by_cases h1:z=x
 ·subst h1;refine b9 (O4 h) ?_;refine b9 S0 ?_;refine b9 S0 ?_;rfl
 ·by_cases h2:z=y
  ·subst h2;refine b9 S0 ?_;refine b9 (O4 h1) ?_;refine b9 S0 ?_;rfl
  ·refine b9 (O4 h2) ?_;refine b9 (O4 h1) ?_;refine b9 (O4 h1) ?_;refine b9 (O4 h2) ?_;rfl
theorem a7Q {xs:List Nm}:∀ {vs:List d8} {x:Nm} {v u:d8},xs.Nodup->(x,v)∈xs.zip vs->(x,u)∈xs.zip vs->v=u:=by
 induction xs with
 | nil=>intro vs x v u _ h _;simp at h
 | cons a xs ih =>
  intro vs x v u hn h1 h2;cases vs with
  | nil=>simp at h1
  | cons b vs =>
   refine eA (List.nodup_cons.mp hn) λha hn=>?_;rw [List.zip_cons_cons] at h1 h2;rcases List.mem_cons.mp h1 with e1 | h1'
   ·rcases List.mem_cons.mp h2 with e2 | h2'
    ·exact (congrArg (·.2) e1).trans (congrArg (·.2) e2).symm
    ·cases e1;exact absurd (List.of_mem_zip h2').1 ha
   ·rcases List.mem_cons.mp h2 with e2 | h2'
    ·cases e2;exact absurd (List.of_mem_zip h1').1 ha
    ·exact ih hn h1' h2'
theorem a45 {xs:List Nm} {vs:List d8} (hn:xs.Nodup) (hl:xs.length=vs.length):bindL xs.reverse vs.reverse r=bindL xs vs r:=by
 unfold bindL;have e:xs.reverse.zip vs.reverse=(xs.zip vs).reverse:=(List.reverse_zipWith hl).symm;refine b9 e ?_;refine List.Perm.foldl_eq' (List.reverse_perm _) (λp hp q hq z=>?_) r;obtain ⟨x,v⟩:=p;obtain ⟨y,u⟩:=q;have hp:=List.mem_reverse.mp hp;have hq:=List.mem_reverse.mp hq;by_cases hxy:x=y
 ·subst hxy;refine b9 (a7Q hn hp hq) ?_;rfl
 ·exact b3s hxy
theorem l5.reverse:∀ {l:List d8} {us:List Value},l5 G h l us->l5 G h l.reverse us.reverse:=by
 intro l;induction l with
 | nil=>intro us r;replace r:=a1l r;subst r;exact .nil
 | cons v l ih =>
  intro us r;replace r:=F0 r;revert r;intro q9;refine k8 q9 λu us' q8 ru r=>?_;clear q9;subst q8;refine b9 List.reverse_cons ?_;refine b9 List.reverse_cons ?_;exact (ih r).append (.cons ru .nil)
theorem b36 {xs:List Str} (h:xs.Nodup) (ha:∀ x∈xs,y6 x=true):(xs.map nm).Nodup:=by
 induction xs with
 | nil=>exact List.nodup_nil
 | cons x xs ih =>
  refine eA (List.nodup_cons.mp h) λh1 h2=>?_;refine List.nodup_cons.mpr ⟨λhm=>?_,ih h2 λy hy=>ha y (List.mem_cons_of_mem _ hy)⟩;refine i9 (List.mem_map.mp hm) λy hy e=>?_;exact h1 (N7 (ha y (List.mem_cons_of_mem _ hy)) (ha x List.mem_cons_self) e▸hy)
theorem b1Z:∀ (xs:List Str) (l:List d8) (us:List Value) (s:Shared) (H:Hp) (r:En) (Q:Unit->Shared->Prop),(∀ x∈xs,y6 x=true/\c.var x=true)->l.length=xs.length->w6 G w H s.heap->O9 G w env c r H s.heap->l5 G s.heap l us ->
  (∀ s',O9 G w env c (bindL (xs.map nm) l r) H s'.heap->k9 G w (FX env) H s H s'->Q () s')->wpAny (model prog w) A (assignInOrder (xs.map λn=>bindName env n) us) Q z5 s:=by
 intro xs;induction xs with
 | nil =>
  intro l us s H r Q _ hl R F rv q;cases l with
  | cons _ _=>exact nomatch hl
  | nil =>
   replace rv:=a1l rv;subst rv;exact c7u (q s F (.refl R))
 | cons x xs ih =>
  intro l us s H r Q hx hl R F rv q;cases l with
  | nil=>exact nomatch hl
  | cons v l =>
   replace rv:=F0 rv;revert rv;intro q12;refine k8 q12 λu us' q11 ru rv=>?_;clear q12;subst q11;refine eA (hx x List.mem_cons_self) λh1 h2=>?_;show wpAny _ _ (holding us' (bindName env x u)>>=λ_=>assignInOrder (xs.map λn=>bindName env n) us') _ _ _;refine c7t (wpAny_holding (a2G false R F h2 h1 ru λs1 F1 st1=>?_));have st1:k9 G w (FX env) H s H s1:=st1.weaken λ_ z=>z;exact ih l us' s1 H _ Q (λy hy=>hx y (List.mem_cons_of_mem _ hy)) (Nat.succ.inj hl) st1.rel F1 (st1.ext.vreps R (a29 F) rv) λs2 F2 st2=>q s2 F2 (st1.trans st2)
noncomputable def V4 (env:Env) (line:Nat) (e:PySem.Expr):Option Str:=match e with
 | .Name id pos=>if env.kindOf id==some .local&&pos.line==line then some id else none
 | _=>none
theorem b0q {line:Nat} {x:Str} (h:V4 env line e=some x):∃ p,e=.Name x p:=by
 cases e with
 | Name id p =>
  unfold V4 at h;dsimp only at h
  split at h
  ·have q1:=A3 h;clear h;subst q1;exact ⟨p,rfl⟩
  ·cases h
 | _=>exact x8 h
theorem b1a {line:Nat}:∀ {ts:List PySem.Expr},(ts.filterMap (V4 env line)).length=ts.length->∀ e∈ts,∃ x,V4 env line e=some x:=by
 intro ts;induction ts with
 | nil=>intro _ e he;exact (List.not_mem_nil he).elim
 | cons t ts ih =>
  intro h e he;have h0:=List.length_filterMap_le (V4 env line) ts;cases ht:V4 env line t with
  | none=>rw [List.filterMap_cons_none ht,List.length_cons] at h;exact (c1U h h0).elim
  | some x =>
   rw [List.filterMap_cons_some ht,List.length_cons,List.length_cons] at h;rcases List.mem_cons.mp he with rfl | he
   ·exact ⟨x,ht⟩
   ·exact ih (Nat.succ.inj h) e he
theorem a86 {line k:Nat} {K:Calls}:∀ {ts:List PySem.Expr} {ts':List Tv} {vs:List d8} {r:En} {H:Hp} {Q:En->Hp->Prop},(∀ e∈ts,∃ x,V4 env line e=some x)->D2 (a7R k c) ts=some ts'->vs.length=ts'.length->b4Y K ts' vs r H Q ->
  (∀ x∈ts.filterMap (V4 env line),y6 x=true/\c.var x=true)/\(ts.filterMap (V4 env line)).length=vs.length/\Q (bindL ((ts.filterMap (V4 env line)).map nm) vs r) H:=by
 intro ts;induction ts with
 | nil =>
  intro ts' vs r H Q _ h _ q;have q2:=A3 h;clear h;subst q2;revert q;intro q4;refine eA q4 λq3 q=>?_;clear q4;subst q3;exact ⟨λx hx=>(List.not_mem_nil hx).elim,rfl,q⟩
 | cons e ts ih =>
  intro ts' vs r H Q hp h hl q;refine k8 (v9 h) λt ts'' ht hts q14=>?_;subst q14;revert q;intro q6;refine A6 q6 λv ws q5 q=>?_;clear q6;subst q5;refine eE (hp e List.mem_cons_self) λx hx=>?_;refine eE (b0q hx) λp q7=>?_;subst q7;refine eA (o8 ht) λh1 ht=>?_;refine i9 (l8 ht) λa ha q13=>?_;subst q13;refine eA (B5 ha) λh2 q10=>?_;subst q10;refine eAA (ih (λe he=>hp e (List.mem_cons_of_mem _ he)) hts (Nat.succ.inj hl) q) λi1 i2 i3=>?_
  refine b9 (List.filterMap_cons_some hx) ?_;refine ⟨λy hy=>?_,congrArg (·+1) i2,i3⟩;rcases List.mem_cons.mp hy with rfl | hy
  ·exact ⟨h2,h1⟩
  ·exact i1 y hy
theorem b2c {ts vs:List PySem.Expr} {k k':Nat} {p p':Pos} (hc:vs.all (constantsAlone 8)=false):swappedStores [.Tuple ts k p] (.Tuple vs k' p') env=pure none \/
  ∃ line,swappedStores [.Tuple ts k p] (.Tuple vs k' p') env=pure (some (ts.filterMap (V4 env line)))/\(ts.filterMap (V4 env line)).length=ts.length/\(ts.filterMap (V4 env line)).Nodup:=by
 by_cases h1:(!(ts.length==2||ts.length==3)||vs.length != ts.length||env.blockKind != .function)=true
 ·exact .inl (if_pos h1)
 by_cases h2:(vs.any fun | .Starred ..=>true | _=>false)=true
 ·exact .inl ((if_neg h1).trans (if_pos h2))
 by_cases h3:((ts.filterMap (V4 env ((ts.head?.map (·.pos.line)).getD 0))).length != ts.length||(ts.filterMap (V4 env ((ts.head?.map (·.pos.line)).getD 0))).eraseDups.length != (ts.filterMap (V4 env ((ts.head?.map (·.pos.line)).getD 0))).length)=true
 ·exact .inl ((if_neg h1).trans ((if_neg h2).trans (if_pos h3)))
 by_cases h4:vs.all (foldedForSure 8)=true
 ·exact .inl ((if_neg h1).trans ((if_neg h2).trans ((if_neg h3).trans (if_pos h4))))
 refine .inr ⟨_,(if_neg h1).trans ((if_neg h2).trans ((if_neg h3).trans ((if_neg h4).trans (if_neg (by refine b9 hc ?_;exact Bool.false_ne_true))))),?_⟩
 rw [Bool.not_eq_true,Bool.or_eq_false_iff,bne_eq_false_iff_eq,bne_eq_false_iff_eq] at h3;exact ⟨h3.1,(a8c _ _ (Nat.le_refl _)).2 h3.2⟩
inductive b6D (env:Env):PySem.Expr->PySem.Expr->Prop
 | mk:∀ ts k p vs k' p' line,swappedStores [.Tuple ts k p] (.Tuple vs k' p') env=pure (some (ts.filterMap (V4 env line)))->(ts.filterMap (V4 env line)).length=ts.length->(ts.filterMap (V4 env line)).Nodup->b6D env (.Tuple ts k p) (.Tuple vs k' p')
theorem a5a (hc:a16 t e=false):swappedStores [t] e env=pure none\/b6D env t e:=by
 cases t with
 | List ts p=>exact nomatch (show true=false from hc)
 | Tuple ts k p =>
  cases e with
  | Tuple vs k' p'=>exact (b2c hc).imp_right λ⟨_,a,b,c⟩=>⟨_,_,_,_,_,_,_,a,b,c⟩
  | _=>exact .inl rfl
 | _=>exact .inl rfl
end
section
variable {prog:Program} {w:World} {G:Gi} {n m:Nat} {c:Cx}
theorem O9.plain (F:O9 G w env c r H h):interactive env=false:=by
 unfold interactive;refine b9 F.kind ?_;rfl
theorem b44 (he:SE prog w G n m c e x) (hc:Z7 e=false):SS prog w G n m c (.Expr e pos) (v7 x):=λA s H r env Q al R F q =>
 wpAny_Expr_any (j8 (he A s H r env _ al R F q) λp v H1 s1 r1 st q1=>⟨.next,r,H1,rfl,st.no,F.step R st,q1⟩) F.plain (by cases e <;> first | rfl | exact nomatch hc)
theorem b6U (he:SE prog w G n m c e x):SS prog w G n m c (.Return (some e) pos) (H9 x):=λA s H r env Q al R F q =>
 wpAny_Return_some (j8 (he A s H r env _ al R F q) λp v H1 s1 r1 st q1=>⟨.ret p,r,H1,⟨v,rfl,r1⟩,st.no,F.step R st,q1⟩)
theorem c5E {z:Cv} {a b:List Stmt} {x y:Bv} (ht:SC prog w G n m c t z) (ha:SB prog w G n m c a x) (hb:SB prog w G n m c b y):SS prog w G n m c (.If t a b pos) (a0t z x y):=λA s H r env Q al R F q=>by
 refine wpAny_If (j8 (ht A s H r env _ al R F q) λp v H1 s1 r1 st q1=>?_);cases (show p=v from r1);cases p with
 | true=>exact wpAny_mono (ha A s1 H1 r env Q al st.rel (F.step R st) (q1.1 rfl)) (λ_ _ g=>g.after st.no) λ_ _ e=>e
 | false=>exact wpAny_mono (hb A s1 H1 r env Q al st.rel (F.step R st) (q1.2 rfl)) (λ_ _ g=>g.after st.no) λ_ _ e=>e
theorem a7y {f:Flow} {s':Shared} {P:En->Hp->Prop} {V:d8->En->Hp->Prop} {X:Flow->Prop} (g:a30 G w env c H s (λf r1 H2=>a3o f (P r1 H2) λv=>V v r1 H2) f s')
  (h1:∀ r1 H2,k9 G w (FX env) H s H2 s'->O9 G w env c r1 H2 s'.heap->P r1 H2->X .next)
  (h3:∀ v u r1 H2,k9 G w (FX env) H s H2 s'->O9 G w env c r1 H2 s'.heap->i8 G s'.heap v u->V v r1 H2->X (.ret u)):X f:=by
 refine U4 g λfl r1 H1 fr st1 F1 q1=>?_;clear g;cases fl with
 | next=>cases (show f=.next from fr);exact h1 r1 H1 st1 F1 q1
 | ret v=>refine i9 fr λu q4 ru=>?_;clear fr;subst q4;exact h3 v u r1 H1 st1 F1 ru q1
theorem b2m {z:Cv} {a:List Stmt} {x:Bv} (ht:SC prog w G n m c t z) (ha:SB prog w G n m c a x):SS prog w G n m c (.While t a [] pos) (a8X z x):=λA s H r env Q al R F q=>by
 revert q;intro q2;refine eE q2 λk q=>?_;clear q2;refine wpAny_While ?_;refine codeAny_whileLoop (λk s1=>∃ r1 H1,k9 G w (FX env) H s H1 s1/\O9 G w env c r1 H1 s1.heap/\b3r (z (j5 G.F n)) (x (j5 G.F n)) k r1 H1 Q) (λk s1 I=>?_) k ⟨r,H,.refl R,F,q⟩;refine k8 I λr1 H1 st F1 q=>?_;clear I;cases k with
 | zero=>exact q.elim
 | succ k =>
  refine wpAny_mono (ht A s1 H1 r1 env _ al st.rel F1 q) (λb s2 h2=>?_) λ_ _ e=>e.elim;refine k8 h2 λp H2 rb st2 q2=>?_;clear h2;have rb:p=b:=rb;subst rb;have F2:=F1.step st.rel st2;cases p with
  | false =>
   refine b9 (if_neg Bool.false_ne_true) ?_;exact wpAny_execs_nil ⟨.next,r1,H2,rfl,st.trans st2.no,F2,q2.2 rfl⟩
  | true =>
   refine b9 (if_pos rfl) ?_;refine wpAny_mono (ha A s2 H2 r1 env _ al st2.rel F2 (q2.1 rfl)) (λf s3 g=>?_) λ_ _ e=>e.elim;have stt:=st.trans st2.no;refine a7y (X:=λf=>match f with
      | .next | .cont=>∃ m,m < k+1/\∃ r1 H1,k9 G w (FX env) H s H1 s3/\O9 G w env c r1 H1 s3.heap/\b3r (z (j5 G.F n)) (x (j5 G.F n)) m r1 H1 Q
      | .brk=>a30 G w env c H s Q .next s3
      | .ret v=>a30 G w env c H s Q (.ret v) s3) g (λr3 H3 st3 F3 q3=>?_) λv u r3 H3 st3 F3 ru q3=>?_
   ·exact ⟨k,Nat.lt_succ_self k,r3,H3,stt.trans st3,F3,q3⟩
   ·exact ⟨.ret v,r3,H3,⟨u,rfl,ru⟩,stt.trans st3,F3,q3⟩
theorem b78 {k:Nat} {a:List Stmt} {x:Bv} {t:List Nm} (g:Gok G c) (sit:SIt prog w G n m c iter it) (ha:SB prog w G n m c a x) (htg:W4 tg=some (t,one)) (hk:Q8 c.var tg=true) (hit:a1i it one=true) :
  SS prog w G n m c (.For tg iter a [] pos) (O6 t one it x):=λA s H r env Q al R F q=>by
 refine eA (sit A s H r env _ al R F q) λs1 s2=>?_;refine wpAny_For (wpAny_mono s2 (λxv t1 h1=>wpAny_mono h1 (λv t2 h2=>?_) λ_ _ e=>e) λ_ _ e=>e) s1;refine a0W h2 λI wr src St H1 q6 ok h0 fr st1 nf q=>?_;clear h2;subst q6;have a4p:∀ b∈wr,H1 b=none/\G.base b=none:=λb hb=>(fr b hb).2;have dj:∀ b∈wr,¬ FX env b:=λb hb h=>by
  rcases h with e | ⟨x,e⟩
  ·refine A6 F.loc λ_ o ho _=>?_;rw [<- e,(fr b hb).1] at ho;cases ho
  ·refine S5 (F.own.2.2 x b e) λ_ _ _ u o e1 _=>?_;rw [(fr b hb).1] at e1;cases e1
 have djw:∀ a,a∈wr->¬ FX env a:=dj;refine codeAny_forLoop_any (λk s1=>∃ i r1 H1',k9 G w (λa=>a∈wr\/FX env a) H s H1' s1/\O9 G w env c r1 H1' s1.heap/\St i s1.heap/\(∀ b∈wr,H1' b=none/\G.base b=none)/\a88 t one (x (j5 G.F n)) src k i r1 H1' Q) (λk s1 I'=>?_) nf ⟨0,r,H1,st1.no,F.step R st1,h0,a4p,q⟩;refine b3b I' λi r1 H2 st F1 hst own q=>?_;clear I';have fin:∀ {s':Shared} {H':Hp},k9 G w (λa=>a∈wr\/FX env a) H s H' s'->k9 G w (FX env) H s H' s':=λx=>⟨x.rel,x.ext.compress λa ha=>ha.elim (λh=>.inr (fr a h).1) .inl,x.gens,x.os⟩
 cases k with
 | zero=>exact q.elim
 | succ k =>
  refine B2 q λo hn q1 q2=>?_;clear q;refine wpAny_mono (ok.next A i s1 H2 o al.h st.rel hst own hn) (λo' s2 h2=>?_) λ_ _ e=>e.elim;have nt:=a4V ok hst;cases o with
  | none =>
   refine eA h2 λq3 st2=>?_;clear h2;subst q3;have stt:=st.trans (st2.weaken (Y:=λa=>a∈wr\/FX env a) λ_ h=>.inl h);exact wpAny_execs_nil ⟨.next,r1,H2,rfl,fin stt,F1.extX st.rel st2.ext nt djw,q1 rfl⟩
  | some v =>
   refine i9 (q2 v rfl) λr2 hb q=>?_;refine a0R h2 λu q5 ru st2 _ ns2 hgo=>?_;clear h2;subst q5;refine wpAny_mono (hgo tg (λ_ s3=>k9 G w (·∈wr) H2 s2 H2 s3/\St (i+1) s3.heap) (a4s htg hit) λs3 st3 hSt=>⟨st3,hSt⟩) (λ_ s3 h3=>?_) λ_ _ e=>e.elim;refine eA h3 λst3 hSt=>?_;clear h3;have F2:=F1.extX st.rel st2.ext nt djw;have nt2:U6 (·∈wr) s2.heap:=λa o vs n hX e1 _ e2=>by
    refine i9 (ns2 a hX) λo' e3 e4=>?_;rw [e1] at e3;have q1:=A3 e3;clear e3;subst q1;exact e4 _ _ e2
   have F3:=F2.extX st2.rel st3.ext nt2 djw;have ru3:=st3.ext.vrep st2.rel nt2 ru;have stt:=st.trans ((st2.trans st3).weaken (Y:=λa=>a∈wr\/FX env a) λ_ h=>.inl h);refine wpAny_mono (b31 false g.toGk al.h htg hk hb st3.rel F3 ru3 (Q:=λ_ s4=>O9 G w env c r2 H2 s4.heap/\k9 G w (FX env) H2 s3 H2 s4) λs4 F4 st4=>⟨F4,st4.weaken λ_ z=>z⟩) (λ_ s4 h4=>?_) λ_ _ e=>e.elim;refine eA h4 λF4 st4=>?_;clear h4
   have nw:∀ b∈wr,¬ FX env b:=dj;have hSt4:St (i+1) s4.heap:=a36 ok st3.rel hSt st4 own nw (a29 F3);have stt4:=stt.trans (st4.weaken λ_ h=>.inr h);refine wpAny_mono (ha A s4 H2 r2 env _ al st4.rel F4 q) (λf s5 gg=>?_) λ_ _ e=>e.elim;refine a7y (X:=λf=>match f with
      | .next | .cont=>∃ m,m < k+1/\∃ i r1 H1',k9 G w (λa=>a∈wr\/FX env a) H s H1' s5/\O9 G w env c r1 H1' s5.heap/\St i s5.heap/\(∀ b∈wr,H1' b=none/\G.base b=none)/\a88 t one (x (j5 G.F n)) src m i r1 H1' Q
      | .brk=>a30 G w env c H s Q .next s5
      | .ret v=>a30 G w env c H s Q (.ret v) s5) gg (λr5 H5 st5 F5 q5=>?_) λv u r5 H5 st5 F5 ru5 q5=>?_
   ·exact ⟨k,Nat.lt_succ_self k,i+1,r5,H5,stt4.trans (st5.weaken λ_ h=>.inr h),F5,a36 ok st4.rel hSt4 st5 own nw (a29 F4),a7e st5 own (ok.nons _ _ hSt4) nw,q5⟩
   ·exact ⟨.ret v,r5,H5,⟨u,rfl,ru5⟩,fin (stt4.trans (st5.weaken λ_ h=>.inr h)),F5,q5⟩
end
section
variable {prog:Program} {w:World} {G:Gi} {n m:Nat} {c:Cx}
theorem b5S:SE prog w G n m c (.Dict [] [] pos) a1c:=λA s H r env Q al R F q =>
 wpAny_Dict_empty ⟨.ref _,_,.ref,.alloc (t:=s.toks) R (a4O (.dict 0) (Heap.get?_push_size _ rfl)),q _ R.fresh⟩
noncomputable def KVs (G:Gi) (h:Heap):List String->List d8->List (Value×Value)->Prop
 | [],xs,ps=>xs=[]/\ps=[]
 | k :: ks,xs,ps=>∃ x xs' p ps',xs=x :: xs'/\ps=p :: ps'/\i8 G h (.str k) p.1/\i8 G h x p.2/\KVs G h ks xs' ps'
theorem KVs.mono {h h':Heap} (k:∀ a vs,IsTup h a vs->IsTup h' a vs):∀ {ks:List String} {xs:List d8} {ps:List (Value×Value)},KVs G h ks xs ps->KVs G h' ks xs ps:=by
 intro zz;induction zz with
 | nil =>
  intro _ _ e;exact e
 | cons _ _ ih =>
  intro _ _ z14;obtain ⟨x,xs',p,ps',e1,e2,a,b,d⟩:=z14;exact ⟨x,xs',p,ps',e1,e2,a.mono k,b.mono k,ih d⟩
theorem b16 (hs:∀ e x,P1 k c e=some x->SE prog w G n m c e x) (al:V2 n m A):∀ (ks:List (Option PySem.Expr)) (es:List PySem.Expr) (kss:List String) (l:List Ev) (s:Shared) (H:Hp) (Q:List d8->Hp->Prop),
  D2 a4h ks=some kss->D2 (P1 k c) es=some l->ks.length=es.length->w6 G w H s.heap->O9 G w env c r H s.heap->(a1O l) (j5 G.F n) r H Q ->
  wpAny (model prog w) A (evalPairs (pairTrees ks es env pos)) (λps s1=>∃ xs H1,KVs G s1.heap kss xs ps/\k9 G w N8 H s H1 s1/\Q xs H1) z5 s:=by
 intro ks;induction ks with
 | nil =>
  intro es kss l s H Q hk hl hz R F q;cases es with
  | cons _ _=>exact nomatch hz
  | nil=>have q1:=A3 hk;clear hk;subst q1;have q2:=A3 hl;clear hl;subst q2;exact evalPairs_nil ⟨[],H,⟨rfl,rfl⟩,.refl R,q⟩
 | cons ke ks ih =>
  intro es kss l s H Q hk hl hz R F q;cases es with
  | nil=>exact nomatch hz
  | cons e es =>
   refine k8 (v9 hk) λkk kss' h1 h2 q11=>?_;subst q11;refine k8 (v9 hl) λx l' h3 h4 q9=>?_;subst q9;refine a5K (a3D h1) λy ki p q10 hy=>?_;subst q10;refine evalPairs_cons (j8 (b13 (n:=n) (m:=m) (c:=c) (k:=ki) (pos:=p) hy A s H r env (λv H'=>v=.str kk/\H'=H) al R F ⟨rfl,rfl⟩) λkv ku H0 s1 rk st1 q1=>?_);refine eA q1 λq3 q4=>?_;clear q1;subst q3;subst q4;have F1:=F.step R st1;refine c7t (j8 (hs e x h3 A s1 H0 r env _ al st1.rel F1 q) λv u H1 s2 rv st2 q2=>c7t (wpAny_standAt (c7u ?_)))
   refine wpAny_mono (ih es kss' l' s2 H1 _ h2 h4 (Nat.succ.inj hz) st2.rel (F1.step st1.rel st2) q2) (λps s3 h3=>?_) λ_ _ e=>e;refine k8 h3 λxs H3 kv st3 q3=>?_;clear h3;exact ⟨v :: xs,H3,⟨v,xs,_,ps,rfl,rfl,st3.vrep st2.rel (st2.vrep st1.rel rk),st3.vrep st2.rel rv,kv⟩,st1.trans (st2.trans st3),q3⟩
theorem b00 (al:V2 n m A):∀ (ks:List String) (xs:List d8) (ps:List (Value×Value)) (acc:List d8) (s:Shared) (H:Hp) (Q:PUnit->Shared->Prop),KVs G s.heap ks xs ps->Acc (.dict 1) G w H s.heap D acc->w6 G w H s.heap->acc.length+ks.length<=o5 ->
  (∀ s',Acc (.dict 1) G w H s'.heap D (acc++((ks.map d8.str).zip xs).map a1s)->k9 G w (·=D) H s H s'->Q ⟨⟩ s') ->
  wpAny (model prog w) A (PySem.storeAll D ps) Q z5 s:=by
 intro ks;induction ks with
 | nil =>
  intro xs ps acc s H Q kv a R _ q;refine eA kv λq5 q6=>?_;clear kv;subst q5;subst q6;unfold PySem.storeAll;refine b9 List.forIn_nil ?_;exact c7u (q s (by refine b9 (show acc++(((([]:List String).map d8.str).zip ([]:List d8)).map a1s)=acc from List.append_nil _) ?_;exact a) (.refl R))
 | cons k ks ih =>
  intro xs ps acc s H Q kv a R hz q;obtain ⟨x,xs',p,ps',rfl,rfl,r1,r2,kv⟩:=kv;rw [List.length_cons] at hz;unfold PySem.storeAll;refine b9 (List.forIn_cons ..) ?_;refine c7t (c7t (a9T al a R ⟨rfl,rfl⟩ r1 r2 (b6P hz) λs1 a1 st1=>c7u ?_));have tup:∀ b vs,IsTup s.heap b vs->IsTup s1.heap b vs:=λb vs t=>st1.ext.tup R a.nt t;refine ih xs' ps' _ s1 H Q (kv.mono tup) a1 st1.rel (by refine b9 List.length_append ?_;simp only [List.length_cons,List.length_nil];exact c1H hz) λs2 a2 st2=>?_
  refine q s2 ?_ (st1.trans st2);rw [List.append_assoc] at a2;exact a2
theorem b0A:∀ {ks:List (Option PySem.Expr)} {kss:List String},D2 a4h ks=some kss->ks.all (·.isSome)=true:=by
 intro ks;induction ks with
 | nil=>intro _ _;exact rfl
 | cons k ks ih =>
  intro kss h;refine k8 (v9 h) λa b h1 h2 q7=>?_;subst q7;refine a5K (a3D h1) λ_ _ _ q8 _=>?_;subst q8;show (true&&ks.all (·.isSome))=true;refine b9 (ih h2) ?_;rfl
theorem b4P {ks:List (Option PySem.Expr)} {kss:List String} {l:List Ev} (hs:∀ e x,P1 k c e=some x->SE prog w G n m c e x) (hk:D2 a4h ks=some kss) (hl:D2 (P1 k c) es=some l)
  (hz:ks.length<=15) (he:ks.length=es.length) (h0:ks≠[]):SE prog w G n m c (.Dict ks es pos) (a7H kss (a1O l)):=λA s H r env Q al R F q=>by
 refine wpAny_Dict_any (b0A hk) he h0 hz ?_;have st0:k9 G w N8 H s H {s with heap:=s.heap.push {cls:=.type "dict",data:=.dict #[]}}:=.push (t:=s.toks) R
 have hD:(s.heap.push {cls:=.type "dict",data:=.dict #[]}).get? s.heap.objs.size=some {cls:=.type "dict",data:=.dict #[]}:=Heap.get?_push_size _ rfl;have fr:=E9 R (Nat.le_refl s.heap.objs.size);refine wpAny_mono (b16 hs al ks es kss l _ H _ hk hl he st0.rel (F.step R st0) q) (λps s1 h1=>?_) λ_ _ e=>e;refine I6 h1 λxs H1 kv st1 hlen q1=>?_;clear h1;have hz2:kss.length<=15:=by refine t6 (a1N hk) ?_;exact hz
 have a0:Acc (.dict 1) G w H {s with heap:=s.heap.push {cls:=.type "dict",data:=.dict #[]}}.heap s.heap.objs.size []:=⟨_,a9o (.dict 1),a4O (.dict 1) hD,fr.2.1,fr.2.2⟩
 have a1:=a0.ext st0.rel st1.ext .no (λz=>z);refine b00 al kss xs ps [] s1 H1 _ kv a1 st1.rel (by simp only [List.length_nil];unfold o5;exact c2n hz2) λs2 a2 st2=>?_
 refine Q2 a2 λmo q12 r2 h1 h2=>?_;clear a2;refine k8 q12 λl' ep e1 _ q13=>?_;clear q12;subst q13;rw [List.nil_append] at e1;have e1:=a5G e1;subst e1;have st:k9 G w N8 H s H1 s2:=by
  have x:k9 G w (·=s.heap.objs.size) H s H1 s2:=(st0.trans st1).no.trans st2;exact ⟨x.rel,x.ext.compress λa ha=>.inr (by refine b9 (show a=s.heap.objs.size from ha) ?_;exact fr.1),x.gens,x.os⟩
 exact ⟨.ref _,_,.ref,st.give fr.1 h1 h2 r2,q1 ep _ h1⟩
end
end
variable {k:d8} {v:PySem.Value}
section
open PySem PySem.W PyProof.Rows PySem.Calls PySem.SeqAt
section
variable {prog:Program} {w:World} {G:Gi} {n m:Nat} {c:Cx}
noncomputable def a6s (prog:Program) (w:World) (G:Gi) (n m:Nat):Prop:=∀ (A:Around) (s:Shared) (H:Hp) (v:d8) (u:Value) (Q:m7),V2 n m A->w6 G w H s.heap->i8 G s.heap v u->b7v v H (λys=>alloc (.list ys) H Q) ->
 wpAny (model prog w) A (call (.type "set") [u]) (λx s1=>k9 G w N8 H s H s1/\wpAny (model prog w) A (call (.builtin "sorted") [x]) (V6 G w (i8 G) H s Q) z5 s1) z5 s
noncomputable def a6I (prog:Program) (w:World) (G:Gi) (n m:Nat):Prop:=∀ (A:Around) (s:Shared) (H:Hp) (v:d8) (u:Value) (Q:m7),V2 n m A->w6 G w H s.heap->i8 G s.heap v u->b7j v H (λys=>Q (.int ys.length) H) ->
 wpAny (model prog w) A (call (.type "set") [u]) (λx s1=>k9 G w N8 H s H s1/\wpAny (model prog w) A (call (.builtin "len") [x]) (V6 G w (i8 G) H s Q) z5 s1) z5 s
theorem a6O {f:Str} {b:BI} (h:b4w.lookup f=some b):a01.lookup f=some (b3q b):=by
 have:=N1 h;simp only [b4w,List.mem_cons,Prod.mk.injEq,List.not_mem_nil,or_false] at this;rcases this with ⟨rfl,rfl⟩ | ⟨rfl,rfl⟩ | ⟨rfl,rfl⟩ | ⟨rfl,rfl⟩ | ⟨rfl,rfl⟩ | ⟨rfl,rfl⟩ | ⟨rfl,rfl⟩ | ⟨rfl,rfl⟩ | ⟨rfl,rfl⟩ <;> rfl
theorem a15 (b:BI) (a:Addr):b3q b≠.ref a:=by cases b <;> exact λe=>nomatch e
theorem a4W {f:Str} {fv:Value} (g:Gok G c) (R:w6 G w H s.heap) (F:O9 G w env c r H s.heap) (hn:t4 c f f=true) (hd:(f==("__debug__":Str))=false)
  (ht:a01.lookup f=some fv) (hv:∀ a,fv≠.ref a) (hl:(backTo pos (starEach es env)).any (·.1)=false)
  (h:wpAny (model prog w) A (spliced (backTo pos (starEach es env))) (λus s1=>G.K.In s1.heap/\wpAny (model prog w) A (call fv us) Q z5 s1) z5 s):wpAny (model prog w) A (eval (.Call (.Name f p) es [] pos) env) Q z5 s:=by
 refine a8E (J3 hn) λ_ hk h1 h2=>?_;refine eA (g.blt f fv ht h1 h2) λb1 b2=>?_;exact wpAny_Call_NameR (wpAny_Name (a4H g R F hk b1 b2 (P9 (P:=G.K.In) hl (λh _=>a0A hv h) h)) hd)
theorem c4n {f:Str} {b:BI} {l:List Ev} {k:Nat} (g:Gok G c) (ok:a3a prog w G n m b) (hs:∀ e x,P1 k c e=some x->SE prog w G n m c e x) (hl:D2 (P1 k c) es=some l) (hn:t4 c f f=true) (hd:(f==("__debug__":Str))=false) (hb:b4w.lookup f=some b) :
  SE prog w G n m c (.Call (.Name f p) es [] pos) (J8 b (a1O l)):=λA s H r env Q al R F q =>
 a4W g R F hn hd (a6O hb) (a15 b) (T9 hl) (j8 (a2v hs es l hl A s H r env pos _ al R F q) λvs us H1 s1 r1 st q1=>⟨st.rel.In g,y0 st (ok A s1 H1 vs us Q al st.rel r1.1 q1)⟩)
theorem a6o {f f2:Str} {fv fv2:Value} {p pos p2 pos2:Pos} {P:d8->Hp->Prop} (g:Gok G c) (al:V2 n m A) (R:w6 G w H s.heap) (F:O9 G w env c r H s.heap)
  (hs:SE prog w G n m c e x) (hst:∀ e' p,e≠.Starred e' p) (hn:t4 c f f=true) (hd:(f==("__debug__":Str))=false) (ht:a01.lookup f=some fv) (hv:∀ a,fv≠.ref a)
  (hn2:t4 c f2 f2=true) (hd2:(f2==("__debug__":Str))=false) (ht2:a01.lookup f2=some fv2) (hv2:∀ a,fv2≠.ref a) (q:x (j5 G.F n) r H P)
  (h:∀ v u H1 s1,i8 G s1.heap v u->k9 G w N8 H s H1 s1->P v H1->wpAny (model prog w) A (call fv2 [u]) (λy s2=>G.K.In s2.heap/\wpAny (model prog w) A (call fv [y]) Q z5 s2) z5 s1) :
  wpAny (model prog w) A (eval (.Call (.Name f p) [.Call (.Name f2 p2) [e] [] pos2] [] pos) env) Q z5 s:=by
 refine a4W g R F hn hd ht hv rfl ?_;refine wpAny_items_cons ?_;refine a4W g R F hn2 hd2 ht2 hv2 (by refine b9 (K4 hst) ?_;rfl) ?_
 refine wpAny_items_cons (j8 (hs A s H r env _ al R F q) λv u H1 s1 ru st q1=>wpAny_items_nil ⟨st.rel.In g,wpAny_mono (h v u H1 s1 ru st q1) (λy s2 h2=>wpAny_items_nil h2) λ_ _ e=>e⟩) (K4 hst)
theorem a9S:a01.lookup a2l=some (.type "set"):=rfl
theorem b5z {p pos p2 pos2:Pos} {k:Nat} (g:Gok G c) (ok:a6s prog w G n m) (he:P1 k c e=some x) (hs:SE prog w G n m c e x) (hn:t4 c Y3 Y3=true) (hn2:t4 c a2l a2l=true) :
  SE prog w G n m c (.Call (.Name Y3 p) [.Call (.Name a2l p2) [e] [] pos2] [] pos) (M6 x):=λA s H r env Q al R F q =>
 a6o g al R F hs (λe' p h=>by subst h;exact Z2 he) hn (by decide +kernel) (a6O (b:=.sorted) rfl) (a15 .sorted) hn2 (by decide +kernel) a9S (λa h=>nomatch h) q λv u H1 s1 ru st q1 =>
  wpAny_mono (ok A s1 H1 v u Q al st.rel ru q1) (λy s2 h2=>⟨h2.1.rel.In g,y0 st h2.2⟩) λ_ _ e=>e
theorem b5L {p pos p2 pos2:Pos} {k:Nat} (g:Gok G c) (ok:a6I prog w G n m) (he:P1 k c e=some x) (hs:SE prog w G n m c e x) (hn:t4 c a4B a4B=true) (hn2:t4 c a2l a2l=true) :
  SE prog w G n m c (.Call (.Name a4B p) [.Call (.Name a2l p2) [e] [] pos2] [] pos) (a4a x):=λA s H r env Q al R F q =>
 a6o g al R F hs (λe' p h=>by subst h;exact Z2 he) hn (by decide +kernel) (a6O (b:=.len) rfl) (a15 .len) hn2 (by decide +kernel) a9S (λa h=>nomatch h) q λv u H1 s1 ru st q1 =>
  wpAny_mono (ok A s1 H1 v u Q al st.rel ru q1) (λy s2 h2=>⟨h2.1.rel.In g,y0 st h2.2⟩) λ_ _ e=>e
theorem a71 {acc:Array Value} {k:Nat} (hi:ItemsOf (λi v=>∃ t,v=Value.int (0+i * 1) t) acc k) (hk:(k:Int)=(((k:Int) - 0).toNat:Int)):l5 G h (t9 0 k) acc.toList:=by
 have key:∀ (l:List Value) (j:Nat),(∀ i v,l[i]?=some v->∃ t,v=Value.int ((j+i:Nat):Int) t)->l5 G h ((List.range' j l.length).map λ(i:Nat)=>d8.int (0+(i:Nat))) l:=by
  intro l;induction l with
  | nil=>intro j _;exact .nil
  | cons v l ih =>
   intro j hv;refine b9 List.length_cons ?_;refine b9 List.range'_succ ?_;refine b9 List.map_cons ?_;refine eE (hv 0 v rfl) λt q2=>?_;subst q2;refine .cons (by refine b9 (Int.zero_add ..) ?_;exact .int) (ih (j+1) λi u hu=>?_)
   refine eE (hv (i+1) u hu) λt q4=>?_;subst q4;exact ⟨t,by refine b9 (show j+(i+1)=j+1+i by exact b8y) ?_;rfl⟩
 have:=key acc.toList 0 λi v hv=>by
  rw [Array.getElem?_toList] at hv;refine eE (hi.2 i v hv) λt q3=>?_;subst q3;exact ⟨t,by congr 1;exact c4t⟩
 rw [Array.length_toList,hi.1] at this;unfold t9;refine b9 (show ((k:Int) - 0).toNat=k by exact c1k) ?_;refine b9 List.range_eq_range' ?_
 exact this
theorem b0M {p pos p2 pos2:Pos} {k:Nat} (g:Gok G c) (he:P1 k c e=some x) (hs:SE prog w G n m c e x) (hn:t4 c a2x a2x=true) (hn2:t4 c U2 U2=true) :
  SE prog w G n m c (.Call (.Name a2x p) [.Call (.Name U2 p2) [e] [] pos2] [] pos) (a57 x):=λA s H r env Q al R F q =>
 a6o g al R F hs (λe' p h=>by subst h;exact Z2 he) hn (by decide +kernel) (a6O (b:=.list) rfl) (a15 .list) hn2 (by decide +kernel) (show a01.lookup U2=some (.type "range") from rfl) (λa h=>nomatch h) q λv u H1 s1 ru st q1=>by
  revert q1;intro q6;refine Q2 q6 λnn q5 h1 h2 q1=>?_;clear q6;subst q5;refine eE (N0 ru) λt q1=>?_;subst q1;have l62:(o5:Int) < 2 ^ 62:=by decide
  refine call_range_1 ?_;have st1:k9 G w N8 H1 s1 H1 {s1 with heap:=s1.heap.push {cls:=.type "range",data:=.fields #[.int 0 s1.toks,.int nn t,.int 1 (s1.toks+1)]},toks:=s1.toks+1+1}:=.push st.rel
  refine ⟨st1.rel.In g,?_⟩;have hsz:Builtin.Range.rangeSize 0 nn 1=((nn.toNat:Nat):Int):=by refine b9 (rangeSize_one ..) ?_;split <;> omega
  refine call_list_range al.h (IsRange.new ..) (small_one (by decide) (by decide) (c6d h1 l62) (b80 h2 l62)) hsz (by unfold o5 at h2;exact c3J h2) λh' tk acc' c' hk hnew hacc=>?_
  have fr:=E9 st1.rel (Nat.le_refl _);have st2:k9 G w N8 H1 {s1 with heap:=s1.heap.push {cls:=.type "range",data:=.fields #[.int 0 s1.toks,.int nn t,.int 1 (s1.toks+1)]},toks:=s1.toks+1+1} H1 {s1 with heap:=h',toks:=tk}:=.kept st1.rel hk
  have e1:t9 0 nn=t9 0 ((nn.toNat:Nat):Int):=by unfold t9;congr 2;exact c5e
  refine ⟨.ref _,_,.ref,(st.trans st1).trans (st2.give (mo:=.list (t9 0 nn)) fr.1 fr.2.1 fr.2.2 ⟨acc',c',hnew,?_⟩),q1 _ fr.2.1⟩;refine b9 e1 ?_;exact a71 hacc (c5O)
end
section
variable {prog:Program} {w:World} {G:Gi} {n m:Nat}
structure a5h (prog:Program) (w:World) (G:Gi) (n m:Nat):Prop where
 calls:U3 prog w G n
 bi:∀ b,a3a prog w G n m b
 ss:a6s prog w G n m
 ls:a6I prog w G n m
noncomputable def a9g (prog:Program) (w:World) (G:Gi) (n m k:Nat):Prop:=∀ (c:Cx) (e:PySem.Expr) (x:Ev),Gok G c->P1 k c e=some x->SE prog w G n m c e x/\(Z7 e=true->SU prog w G n m c e x)
noncomputable def b2y (prog:Program) (w:World) (G:Gi) (n m k:Nat):Prop:=∀ (c:Cx) (e:PySem.Expr) (x:Cv),Gok G c->trC k c e=some x->SC prog w G n m c e x
theorem mark (op:CmpOp) (e:PySem.Expr) (hs:a5p e=false):behindInMarks op e=false:=by cases e <;> first | rfl | exact nomatch hs
theorem a9m {rec:PySem.Expr->Option Ev} {l:PySem.Expr} {op:CmpOp} {rs:List PySem.Expr} {x:Cv} (h:b70 rec l op rs=some x) :
  ∃ r o a b,rs=[r]/\a2s op=some o/\rec l=some a/\rec r=some b/\behindInMarks op r=false/\x=B3 o a b:=by
 refine i9 (f5 h) λr hr h=>?_;refine eA (o8 h) λh1 h=>?_;refine i9 (f5 h) λa ha h=>?_;refine i9 (f5 h) λb hb h=>?_;refine i9 (l8 h) λo hc q22=>?_;subst q22;exact ⟨r,o,a,b,one?_some hr,hc,ha,hb,mark op r (Bool.not_eq_true' _▸h1),rfl⟩
section
variable {k:Nat} {c:Cx} (g:Gok G c) (hE:a9g prog w G n m k) (hC:b2y prog w G n m k)
include g hE hC
theorem b9l {x:Cv} (h:b9Y (P1 k c) (trC k c) e=some x):SC prog w G n m c e x:=by
 have val:∀ {e:PySem.Expr} {x:Cv},(P1 k c e).map a4D=some x->(∀ env whole,isTrue e env whole=(do let v<-whole;standAt e.pos;holding [v] (truthy v)))->SC prog w G n m c e x:=λ{e x} h he=>by
  refine i9 (l8 h) λy hy q23=>?_;subst q23;exact b6W (hE c e y g hy).1 he
 have con:=λe x h=>hC c e x g h;cases e with
 | UnaryOp o y p =>
  cases o with
  | Not =>
   refine i9 (l8 h) λz hz q24=>?_;subst q24;exact b61 (con y z hz)
  | _=>exact val h λ_ _=>rfl
 | BoolOp o vs p =>
  refine eA (o8 h) λh1 h=>?_;refine i9 (l8 h) λl hl q25=>?_;subst q25;cases o with
  | And=>exact b6S con _ _ hl
  | Or=>exact c56 con _ _ hl
 | Compare l ops rs p =>
  replace h:b4h (P1 k c) l ops rs=some x:=h;unfold b4h at h;have ex:=λe x h=>(hE c e x g h).1;cases ho:one? ops with
  | some op =>
   rw [ho] at h;cases one?_some ho;obtain ⟨r,o,a,b,rfl,hc,ha,hb,hm,rfl⟩:=a9m h;exact b7q (a8e g.toGk) hc (ex l a ha) (ex r b hb) hm
  | none =>
   rw [ho] at h;refine i9 (f5 h) λq48 ho2 h=>?_;obtain ⟨o1,o2⟩:=q48;refine i9 (f5 h) λq43 hr h=>?_;obtain ⟨r1,r2⟩:=q43;refine eA (o8 h) λh1 h=>?_;refine i9 (f5 h) λa ha h=>?_;refine i9 (f5 h) λb hb h=>?_;refine i9 (f5 h) λz hz h=>?_;refine i9 (f5 h) λc1 k1 h=>?_;refine i9 (l8 h) λc2 k2 q39=>?_;subst q39;cases two?_some ho2;cases two?_some hr;exact b2N (a8e g.toGk) k1 k2 (ex l a ha) (ex r1 b hb) (ex r2 z hz) (mark o2 r2 (Bool.not_eq_true' _▸h1))
 | IfExp t a b p=>exact x8 h
 | _=>exact val h λ_ _=>rfl
end
section
variable {k:Nat} {c:Cx} (g:Gok G c) (hE:a9g prog w G n m k) (hC:b2y prog w G n m k)
include g hE
theorem b1P (ops:a5h prog w G n m) {f:Str} {args:List PySem.Expr} (h:a9U (P1 k c) c f args=some x):SE prog w G n m c (.Call (.Name f p) args [] pos) x:=by
 have ex:=λe x h=>(hE c e x g h).1;refine eA (o8 h) λh1 h=>?_;refine eA (Bool.and_eq_true_iff.mp h1) λ_ hd=>?_;have hd:(f==("__debug__":Str))=false:=a7g▸(Bool.not_eq_true' _▸hd:(f==a25)=false);refine eA (o8 h) λhk h=>?_;have hk:=a5W hk;cases hf:c.fns.contains f with
 | true =>
  rw [hf] at h;refine i9 (f5 h) λy hy h=>?_;refine i9 (l8 h) λl hl q26=>?_;subst q26;refine eA (B5 hy) λhx q19=>?_;subst q19;exact b4A g ops.calls ex hl hk hx hf hd
 | false =>
  rw [hf] at h;cases hc:c.clss.contains f with
  | true =>
   rw [hc] at h;refine i9 (f5 h) λy hy h=>?_;refine i9 (l8 h) λl hl q27=>?_;subst q27;refine eA (B5 hy) λhx q20=>?_;subst q20;exact b7p g ops.calls ex hl hk hx hc hd
  | false =>
   rw [hc] at h;replace h:b4g (P1 k c) c f args=some x:=h;have bi:b7C (P1 k c) c f args=some x->SE prog w G n m c (.Call (.Name f p) args [] pos) x:=λh=>by
    refine eA (o8 h) λh1 h=>?_;refine i9 (f5 h) λb hb h=>?_;refine i9 (f5 h) λl hl h=>?_;have q1:=A3 h;clear h;subst q1;exact c4n g (ops.bi b) ex hl (Bool.and_eq_true_iff.mp h1).1 hd hb
   unfold b4g at h;cases ho:(one? args).bind a3e with
   | none=>rw [ho] at h;exact bi h
   | some q =>
    rw [ho] at h;refine i9 (f5 ho) λa1 h2 h3=>?_;obtain ⟨f2,as⟩:=q;refine eEE (a3y h3) λp2 pos2 q41=>?_;subst q41;cases one?_some h2;dsimp only at h;cases hs:t4 c f2 a2l with
    | true =>
     rw [hs] at h;refine i9 (f5 h) λa ha h6=>?_;refine i9 (f5 h6) λy hy h7=>?_;clear h h6 ho h3 h2 bi;cases one?_some ha;refine eA (J3 hs) λq21 _=>?_;subst q21;cases hsr:t4 c f Y3 with
     | true =>
      rw [hsr] at h7;have q14:=A3 h7;clear h7;subst q14;refine eA (J3 hsr) λq28 _=>?_;subst q28;exact b5z g ops.ss hy (ex a y hy) hsr hs
     | false =>
      rw [hsr] at h7;cases hsl:t4 c f a4B with
      | true =>
       rw [hsl] at h7;have q15:=A3 h7;clear h7;subst q15;refine eA (J3 hsl) λq29 _=>?_;subst q29;exact b5L g ops.ls hy (ex a y hy) hsl hs
      | false=>rw [hsl] at h7;exact x8 h7
    | false =>
     rw [hs] at h;cases hr:t4 c f2 U2&&t4 c f a2x with
     | true =>
      rw [hr] at h;refine eA (Bool.and_eq_true_iff.mp hr) λhr1 hr2=>?_;refine i9 (f5 h) λa ha h6=>?_;refine i9 (l8 h6) λy hy h7=>?_;clear h h6 ho h3 h2 bi;subst h7;cases one?_some ha;refine eA (J3 hr1) λq30 _=>?_;subst q30;refine eA (J3 hr2) λq31 _=>?_;subst q31;exact b0M g hy (ex a y hy) hr2 hr1
     | false=>rw [hr] at h;exact bi h
theorem b5a (ops:a5h prog w G n m) {f:PySem.Expr} {args:List PySem.Expr} {kws:List Keyword} (h:b2t (P1 k c) c f args kws pos=some x):SE prog w G n m c (.Call f args kws pos) x:=by
 refine eA (o8 h) λh0 h5=>?_;clear h;cases kws with
 | cons _ _=>exact nomatch h0
 | nil =>
  cases f with
  | Attribute ob mm apos =>
   replace h5:b1s (P1 k c) ob mm apos args pos=some x:=h5;refine eA (o8 h5) λh1 h=>?_;refine eA (Bool.and_eq_true_iff.mp h1) λh1 h2=>?_;refine eA (Bool.and_eq_true_iff.mp h1) λh1 h3=>?_;refine i9 (f5 h) λo ho h=>?_;refine i9 (f5 h) λy hy h=>?_;refine i9 (f5 h) λl hl h=>?_;have q2:=A3 h;clear h;subst q2;exact b42 g ops.calls (hE c ob o g ho).1 (λe x h=>(hE c e x g h).1) hl hy (by refine t6 (a1N hl) ?_;exact of_decide_eq_true h1) h3 h2
  | Name f p=>exact b1P g hE ops h5
  | _=>exact x8 h5
theorem b7r {v i:PySem.Expr} (h:b6z (P1 k c) v i=some x):SE prog w G n m c (.Subscript v i pos) x:=by
 have ex:=λe x h=>(hE c e x g h).1;have idx:∀ {i:PySem.Expr},((P1 k c v).bind λa=>(P1 k c i).bind λb=>some (l6 a b))=some x->a27 i=false->SE prog w G n m c (.Subscript v i pos) x:=λ{i} h hs=>by
  refine i9 (f5 h) λa ha h=>?_;refine i9 (f5 h) λb hb h=>?_;have q3:=A3 h;clear h;subst q3;exact b7Q hs (ex v a ha) (ex i b hb)
 cases i with
 | Slice lo hi st p =>
  refine eA (o8 h) λu1 h5=>?_;clear h;cases st with
  | some _=>exact nomatch u1
  | none =>
   cases lo with
   | some lo =>
    refine eA (o8 h5) λu2 h=>?_;cases hi with
    | some _=>exact nomatch u2
    | none =>
     refine i9 (f5 h) λa ha h=>?_;refine i9 (f5 h) λb hb h=>?_;have q4:=A3 h;clear h;subst q4;exact b0w g.toGk (ex v a ha) (ex lo b hb)
   | none =>
    refine i9 (f5 h5) λhi' he h=>?_;clear h5;cases he;refine i9 (f5 h) λa ha h=>?_;refine i9 (f5 h) λb hb h=>?_;have q5:=A3 h;clear h;subst q5;exact b4U g.toGk (ex v a ha) (ex hi' b hb)
 | _=>exact idx h rfl
include hC
theorem c4G {gg:Comprehension} (h:b60 (P1 k) (trC k) c elt gg sc=some x):SE prog w G n m c (.ListComp elt [gg] sc pos) x/\SU prog w G n m c (.ListComp elt [gg] sc pos) x:=by
 obtain ⟨tg,iter,fs,a⟩:=gg;refine eA (o8 h) λh1 h=>?_;refine eA (Bool.and_eq_true_iff.mp h1) λh1 h3=>?_;refine eA (Bool.and_eq_true_iff.mp h1) λh1 h2=>?_;cases (show a=0 from eq_of_beq h1);refine i9 (f5 h) λq44 ht h=>?_;obtain ⟨t,one⟩:=q44;refine i9 (f5 h) λit hi h=>?_;refine i9 (f5 h) λifs hf h=>?_;refine i9 (f5 h) λy hy h=>?_;refine eA (o8 h) λh4 h=>?_;have q6:=A3 h;clear h;subst q6
 exact b3o g (λe x h=>hC _ e x g.sub h) (hE _ elt y g.sub hy).1 hf (a4C g (λe x h=>(hE c e x g h).1) hi) h2 ht h3 h4
theorem c3A {g1 g2:Comprehension} (h:b7z (P1 k) (trC k) c elt g1 g2 sc=some x):SE prog w G n m c (.ListComp elt [g1,g2] sc pos) x/\SU prog w G n m c (.ListComp elt [g1,g2] sc pos) x:=by
 obtain ⟨tg,iter,fs,a⟩:=g1;obtain ⟨tg2,iter2,fs2,a2⟩:=g2;refine eA (o8 h) λu1 h=>?_;refine eA (Bool.and_eq_true_iff.mp u1) λu2 h6=>?_;refine eA (Bool.and_eq_true_iff.mp u2) λu3 h5=>?_;refine eA (Bool.and_eq_true_iff.mp u3) λu4 h4=>?_;refine eA (Bool.and_eq_true_iff.mp u4) λu5 h3=>?_;refine eA (Bool.and_eq_true_iff.mp u5) λh1 h2=>?_;clear u1 u2 u3 u4 u5;cases (show a=0 from eq_of_beq h1)
 cases (show a2=0 from eq_of_beq h2);cases List.isEmpty_iff.mp (show fs.isEmpty=true from h3);refine i9 (f5 h) λq45 ht h=>?_;obtain ⟨t,one⟩:=q45;refine i9 (f5 h) λit hi h=>?_;refine i9 (f5 h) λq49 ht2 h=>?_;obtain ⟨t2,one2⟩:=q49;refine i9 (f5 h) λit2 hi2 h=>?_;refine i9 (f5 h) λifs hf h=>?_;refine i9 (f5 h) λy hy h=>?_;refine eA (o8 h) λh7 h=>?_;refine eA (Bool.and_eq_true_iff.mp h7) λh7 h8=>?_
 have q7:=A3 h;clear h;subst q7;exact b3h g (λe x h=>hC _ e x g.sub h) (hE _ elt y g.sub hy).1 hf (a4C g (λe x h=>(hE c e x g h).1) hi) (a4C g.sub (λe x h=>(hE _ e x g.sub h).1) hi2) ht2 h6 h8 h4 ht h5 h7
theorem b9u {gg:Comprehension} (h:c25 (P1 k) c kx vx gg sc=some x):SE prog w G n m c (.DictComp kx vx [gg] sc pos) x/\SU prog w G n m c (.DictComp kx vx [gg] sc pos) x:=by
 obtain ⟨tg,iter,fs,a⟩:=gg;refine eA (o8 h) λh1 h=>?_;refine eA (Bool.and_eq_true_iff.mp h1) λh1 h4=>?_;refine eA (Bool.and_eq_true_iff.mp h1) λh1 h3=>?_;refine eA (Bool.and_eq_true_iff.mp h1) λh1 h2=>?_;cases (show a=0 from eq_of_beq h1);cases List.isEmpty_iff.mp (show fs.isEmpty=true from h2);refine i9 (f5 h) λq46 ht h=>?_;obtain ⟨t,one⟩:=q46;refine i9 (f5 h) λit hi h=>?_;refine i9 (f5 h) λy hy h=>?_
 refine i9 (f5 h) λz hz h=>?_;refine eA (o8 h) λh5 h=>?_;have q8:=A3 h;clear h;subst q8;exact b5D g (hE _ kx y g.sub hy).1 (hE _ vx z g.sub hz).1 (a4C g (λe x h=>(hE c e x g h).1) hi) h3 ht h4 h5
theorem c5t (ops:a5h prog w G n m) (h:c4w c (P1 k) (trC k) e=some x):SE prog w G n m c e x/\(Z7 e=true->SU prog w G n m c e x):=by
 have ex:=λe x h=>(hE c e x g h).1;have con:=λe x h=>hC c e x g h;cases e with
 | Constant v kk p =>
  refine ⟨?_,λh=>nomatch h⟩
  refine i9 (l8 h) λy hy q32=>?_;subst q32;cases v with
  | none=>have q16:=A3 hy;clear hy;subst q16;exact b4p
  | bool b=>have q17:=A3 hy;clear hy;subst q17;exact b5E
  | int i=>have q18:=A3 hy;clear hy;subst q18;exact b6T
  | str s=>refine i9 (l8 hy) λt ht q40=>?_;subst q40;exact b13 ht
  | _=>exact x8 hy
 | Name y p =>
  refine ⟨?_,λh=>nomatch h⟩
  refine eA (o8 h) λh1 h=>?_;have hd:(y==("__debug__":Str))=false:=a7g▸(Bool.not_eq_true' _▸h1:(y==a25)=false);refine eA (o8 h) λhk h=>?_;refine i9 (l8 h) λa ha q33=>?_;subst q33;exact b7U ha (a7F hk) hd
 | Tuple es kk p =>
  refine ⟨?_,λh=>nomatch h⟩
  refine eA (o8 h) λh1 h=>?_;refine i9 (l8 h) λl hl q34=>?_;subst q34;exact b7k (a2v ex es l hl) (of_decide_eq_true h1)
 | List es p =>
  refine ⟨?_,λh=>nomatch h⟩
  refine eA (o8 h) λh1 h=>?_;refine i9 (l8 h) λl hl q35=>?_;subst q35;exact b8l (a2v ex es l hl) (of_decide_eq_true h1)
 | Dict ks vs p =>
  refine ⟨?_,λh=>nomatch h⟩
  replace h:a8o (P1 k c) ks vs=some x:=h;unfold a8o at h;cases hz:ks.isEmpty&&vs.isEmpty with
  | true =>
   rw [hz] at h;have q9:=A3 h;clear h;subst q9;refine eA (Bool.and_eq_true_iff.mp hz) λh1 h2=>?_;cases ks with
   | cons _ _=>exact nomatch h1
   | nil =>
    cases vs with
    | cons _ _=>exact nomatch h2
    | nil=>exact b5S
  | false =>
   rw [hz] at h;refine eA (o8 h) λh1 h=>?_;refine eA (Bool.and_eq_true_iff.mp h1) λh1 h2=>?_;refine i9 (f5 h) λa ha h=>?_;refine i9 (f5 h) λb hb h=>?_;have q10:=A3 h;clear h;subst q10;have h2:=eq_of_beq h2;refine b4P ex ha hb (of_decide_eq_true h1) h2 λe=>?_;subst e;cases vs with
   | nil=>exact nomatch hz
   | cons _ _=>exact nomatch h2
 | BinOp a o b p =>
  refine ⟨?_,λh=>nomatch h⟩
  refine i9 (f5 h) λo' ho h=>?_;refine i9 (f5 h) λy hy h=>?_;refine i9 (f5 h) λz hz h=>?_;have q11:=A3 h;clear h;subst q11;exact b7K (ex a y hy) (ex b z hz) λA s H v u p q Q al R r1 r2 hb=>b8e o o' ho A s H v u p q Q al R r1 r2 hb
 | UnaryOp o y p =>
  refine ⟨?_,λh=>nomatch h⟩
  cases o with
  | USub =>
   refine i9 (l8 h) λz hz q36=>?_;subst q36;exact b8f (ex y z hz)
  | Not=>exact x8 h
  | _=>exact x8 h
 | BoolOp o vs p =>
  refine ⟨?_,λh=>nomatch h⟩
  refine eA (o8 h) λh1 h=>?_;refine i9 (f5 h) λq42 h2 h=>?_;obtain ⟨a,b⟩:=q42;refine i9 (f5 h) λy hy h=>?_;refine i9 (l8 h) λz hz q37=>?_;subst q37;cases two?_some h2;cases o with
  | And=>exact b7y (ex a y hy) (ex b z hz)
  | Or=>exact nomatch h1
 | Compare l os rs p =>
  refine ⟨?_,λh=>nomatch h⟩
  refine i9 (f5 h) λop h1 h=>?_;refine i9 (l8 h) λy hy q38=>?_;subst q38;cases one?_some h1;obtain ⟨r,o,a,b,rfl,hc,ha,hb,hm,rfl⟩:=a9m hy;exact b8a (a8e g.toGk) hc (ex l a ha) (ex r b hb) hm
 | IfExp t a b p =>
  refine ⟨?_,λh=>nomatch h⟩
  refine i9 (f5 h) λz hz h=>?_;refine i9 (f5 h) λy1 h1 h=>?_;refine i9 (f5 h) λy2 h2 h=>?_;have q12:=A3 h;clear h;subst q12;exact b6Z (con t z hz) (ex a y1 h1) (ex b y2 h2)
 | Attribute v a p =>
  refine ⟨?_,λh=>nomatch h⟩
  refine eA (o8 h) λh1 h=>?_;refine eA (Bool.and_eq_true_iff.mp h1) λh1 h2=>?_;refine i9 (f5 h) λy hy h=>?_;refine i9 (f5 h) λz hz h=>?_;have q13:=A3 h;clear h;subst q13;exact b5P g (ex v y hy) hz h1 h2
 | Subscript v i p=>exact ⟨b7r g hE h,λh=>nomatch h⟩
 | Call f args kws p=>exact ⟨b5a g hE ops h,λh=>nomatch h⟩
 | ListComp elt gs sc p =>
  have fin:SE prog w G n m c (.ListComp elt gs sc p) x/\SU prog w G n m c (.ListComp elt gs sc p) x:=by
   replace h:(match one? gs with | some g=>b60 (P1 k) (trC k) c elt g sc | none=>(two? gs).bind λg=>b7z (P1 k) (trC k) c elt g.1 g.2 sc)=some x:=h
   cases ho:one? gs with
   | some gg =>
    rw [ho] at h;cases one?_some ho;exact c4G g hE hC h
   | none =>
    rw [ho] at h;refine i9 (f5 h) λq47 h2 h=>?_;obtain ⟨g1,g2⟩:=q47;cases two?_some h2;exact c3A g hE hC h
  exact ⟨fin.1,λ_=>fin.2⟩
 | DictComp kx vx gs sc p =>
  refine i9 (f5 h) λgg hg h=>?_;cases one?_some hg;have fin:=b9u (pos:=p) g hE hC h;exact ⟨fin.1,λ_=>fin.2⟩
 | _=>exact x8 h
end
theorem c5L (ops:a5h prog w G n m):∀ k,a9g prog w G n m k/\b2y prog w G n m k:=by
 intro k;induction k with
 | zero=>exact ⟨λ_ _ _ _ h=>x8 h,λ_ _ _ _ h=>x8 h⟩
 | succ k ih =>
  refine eA ih λhE hC=>?_;clear ih;exact ⟨λc e x g h=>c5t g hE hC ops h,λc e x g h=>b9l g hE hC h⟩
end
theorem b3d {α β:Type} {f g:α->Option β}:∀ {l:List α},(∀ a∈l,f a=g a)->l.filterMap f=l.filterMap g:=by
 intro l;induction l with
 | nil=>intro _;exact rfl
 | cons a l ih =>
  intro h;have ih:=ih λb hb=>h b (List.mem_cons_of_mem _ hb);refine b9 List.filterMap_cons ?_;refine b9 List.filterMap_cons ?_;refine b9 (h a List.mem_cons_self) ?_;refine b9 ih ?_;rfl
theorem a87 {α:Type}:∀ (xs:List Str) (us:List α),us.length=xs.length->xs.Nodup->(∀ x∈xs,((xs.zip us).lookup x).isSome=true)/\xs.filterMap (λn=>((xs.zip us).lookup n).map (n,·))=xs.zip us:=by
 intro xs;induction xs with
 | nil =>
  intro _ _ _;exact ⟨λx hx=>(List.not_mem_nil hx).elim,rfl⟩
 | cons x xs ih =>
  intro z15;cases z15 with
  | nil =>
   intro h _;exact nomatch h
  | cons u us =>
   intro h hn;refine eA (List.nodup_cons.mp hn) λhx hn=>?_;refine eA (ih us (Nat.succ.inj h) hn) λh1 h2=>?_;have off:∀ y∈xs,((x :: xs).zip (u :: us)).lookup y=(xs.zip us).lookup y:=λy hy=>by
    refine b9 List.zip_cons_cons ?_;refine b9 List.lookup_cons ?_;have:(y==x)=false:=by
     cases e:y==x with
     | false=>rfl
     | true=>exact absurd (eq_of_beq e▸hy) hx
    refine b9 this ?_;rfl
   have at_:((x :: xs).zip (u :: us)).lookup x=some u:=by refine b9 List.zip_cons_cons ?_;refine b9 List.lookup_cons ?_;refine b9 (beq_self_eq_true ..) ?_;rfl
   refine ⟨λy hy=>?_,?_⟩
   ·rcases List.mem_cons.mp hy with rfl | hy
    ·refine b9 at_ ?_;rfl
    ·refine b9 (off y hy) ?_;exact h1 y hy
   ·refine b9 (List.filterMap_cons_some (b:=(x,u)) (by refine b9 at_ ?_;rfl)) ?_
    show _=(x,u) :: xs.zip us;refine t6 h2 ?_;exact congrArg _ (b3d λy hy=>by refine b9 (off y hy) ?_;rfl)
theorem a7Y {name qual:Str} {body:List Stmt} {scope:Scope} {kV doc pm cdv ct:Value} {an:Option Addr} {args:List PySem.Arg} {kd:List (Option PySem.Expr)} {us:List Value} (hl:us.length=(args.map (·.arg)).length) (hn:(args.map (·.arg)).Nodup) :
  bindArgs (fnOf name qual ⟨[],args,none,[],kd,none,[]⟩ body scope .none kV doc pm an cdv ct) ⟨us,[]⟩=pure ((args.map (·.arg)).zip us):=by
 refine eA (a87 _ us hl hn) λh1 h2=>?_;have hs:seqItems? (Value.none)=pure none:=rfl;have hm:((args.map (·.arg)).filter λn=>(((args.map (·.arg)).zip us).lookup n).isNone)=[]:=by
  refine I9 (List.filter_eq_nil_iff ..) ?_;intro x hx;have:=h1 x hx;cases e:((args.map (·.arg)).zip us).lookup x with
  | none=>rw [e] at this;exact nomatch this
  | some _=>exact Bool.false_ne_true
 have hg:(decide (us.length > (args.map (·.arg)).length)&&(none:Option PySem.Arg).isNone)=false:=by
  refine b9 hl ?_;refine b9 (decide_eq_false (Nat.lt_irrefl _)) ?_;rfl
 refine Eq.trans (show bindArgs _ _=if (decide (us.length > ((args.map (·.arg)).length))&&(none:Option PySem.Arg).isNone)=true then _ else _ from rfl) ?_
 refine (if_neg (by refine b9 hg ?_;exact Bool.false_ne_true)).trans ?_
 refine (if_neg (λe=>?_)).trans ?_
 ·have e:(!(((args.map (·.arg)).take _).filter λn=>(((args.map (·.arg)).zip us).lookup n).isNone).isEmpty)=true:=e;rw [List.filter_eq_nil_iff.mpr λx hx=>List.filter_eq_nil_iff.mp hm x (List.mem_of_mem_take hx)] at e;exact nomatch e
 rewrite [show ∀ n,List.drop n ((none:Option (Array Value)).getD #[]).toList=[] from λn=>List.drop_nil];refine b9 List.zip_nil_right ?_;exact congrArg (pure:_->Sem (List (Str×Value))) ((congrArg (List.filterMap _) (List.append_nil _)).trans h2)
end
variable {S:PySem.Addr}
section
open PySem PySem.W PyProof.Rows PySem.Calls PySem.SeqAt
section
variable {prog:Program} {w:World} {G:Gi} {n:Nat}
theorem a8t:∀ (names:List (Str×NameKind)) (k:Nat) (acc:List (Str×Addr)) (x:Str),(acc.lookup x).isSome=true->((cellsFrom k names acc).lookup x).isSome=true:=by
 intro r;induction r with
 | nil =>
  intro _ _ _ h;exact h
 | cons z16 r ih =>
  intro k acc x h;obtain ⟨y,kd⟩:=z16;unfold cellsFrom
  split
  ·refine ih _ _ x ?_;refine b9 List.lookup_cons ?_
   split
   ·rfl
   ·exact h
  ·exact ih _ _ x h
theorem a5l:∀ (names:List (Str×NameKind)) (k:Nat) (acc:List (Str×Addr)) (x:Str),(x,NameKind.cell)∈names->((cellsFrom k names acc).lookup x).isSome=true:=by
 intro l;induction l with
 | nil=>intro k acc x h;exact (List.not_mem_nil h).elim
 | cons z r ih =>
  intro k acc x h;obtain ⟨y,kd⟩:=z;unfold cellsFrom;rcases List.mem_cons.mp h with e | h
  ·cases e;refine b9 (if_pos (beq_self_eq_true _)) ?_;refine a8t r _ _ _ ?_;refine b9 List.lookup_cons ?_;refine b9 (beq_self_eq_true ..) ?_;rfl
  ·split <;> exact ih _ _ x h
noncomputable def b6u (G:Gi) (h:Heap) (ko:Str->Option NameKind) (m cm:Str->Option Value) (r:En):Prop:=∀ x v,y6 x=true->r (nm x)=some v ->
 (ko x=some .local->∃ u,m x=some u/\i8 G h v u)/\(ko x=some .cell->∃ u,cm x=some u/\i8 G h v u)
theorem b0G {ko:Str->Option NameKind}:∀ (xs:List Str) (vs:List d8) (us:List Value) (m cm:Str->Option Value) (r:En),(∀ x∈xs,y6 x=true)->l5 G h vs us->vs.length=xs.length->b6u G h ko m cm r ->
  b6u G h ko (PySem.bindL ko (xs.zip us) m) (PySem.bindC ko (xs.zip us) cm) (bindL (xs.map nm) vs r):=by
 intro xs;induction xs with
 | nil =>
  intro _ _ _ _ _ _ _ _ b;exact b
 | cons x xs ih =>
  intro z18;cases z18 with
  | nil =>
   intro _ _ _ _ _ _ hl _;exact nomatch hl
  | cons v vs =>
   intro us m cm r ha rv hl b;replace rv:=F0 rv;revert rv;intro q5;refine k8 q5 λu us' q4 ru rv=>?_;clear q5;subst q4;refine ih vs us' _ _ _ (λy hy=>ha y (List.mem_cons_of_mem _ hy)) rv (Nat.succ.inj hl) λy v' hy e=>?_;by_cases hyx:y=x
   ·subst hyx;have e:(r.set (nm y) v) (nm y)=some v':=e;rw [S0] at e;have q1:=A3 e;clear e;subst q1;refine ⟨λhk=>⟨u,?_,ru⟩,λhk=>⟨u,?_,ru⟩⟩
    ·refine b9 (if_pos hk) ?_;exact if_pos rfl
    ·refine b9 (if_neg (by refine b9 hk ?_;decide)) ?_;exact if_pos rfl
   ·have e:(r.set (nm x) v) (nm y)=some v':=e;rw [O4 λe=>hyx (N7 hy (ha x List.mem_cons_self) e)] at e;refine eA (b y v' hy e) λb1 b2=>?_;refine ⟨λhk=>?_,λhk=>?_⟩
    ·refine i9 (b1 hk) λu' h1 h2=>?_;refine ⟨u',?_,h2⟩
     split
     ·exact (if_neg hyx).trans h1
     ·exact h1
    ·refine i9 (b2 hk) λu' h1 h2=>?_;refine ⟨u',?_,h2⟩
     split
     ·exact h1
     ·exact (if_neg hyx).trans h1
theorem b50:∀ {b:List PySem.Arg} {ps:List Nm},D2 (λa=>a1P a.arg) b=some ps->(∀ a∈b.map (·.arg),y6 a=true)/\ps=(b.map (·.arg)).map nm:=by
 intro r;induction r with
 | nil=>intro ps h;have q2:=A3 h;clear h;subst q2;exact ⟨λa ha=>(List.not_mem_nil ha).elim,rfl⟩
 | cons y r ih =>
  intro ps h;refine k8 (v9 h) λq l hq hl q7=>?_;subst q7;refine eA (B5 hq) λh1 q3=>?_;subst q3;refine eA (ih hl) λi1 i2=>?_;refine ⟨λa ha=>?_,by refine b9 i2 ?_;rfl⟩
  rcases List.mem_cons.mp ha with rfl | ha
  ·exact h1
  ·exact i1 a ha
theorem b0e {p:Arguments} {ps:List Nm} (h:a7S p=some ps):∃ kd,p=⟨[],p.args,none,[],kd,none,[]⟩/\(∀ a∈p.args.map (·.arg),y6 a=true)/\ps=(p.args.map (·.arg)).map nm:=by
 refine eA (o8 h) λh1 h=>?_;obtain ⟨a,b,cc,d,e,f,g⟩:=p;refine eA (Bool.and_eq_true_iff.mp h1) λh1 h6=>?_;refine eA (Bool.and_eq_true_iff.mp h1) λh1 h5=>?_;refine eA (Bool.and_eq_true_iff.mp h1) λh1 h4=>?_;refine eA (Bool.and_eq_true_iff.mp h1) λh2 h3=>?_;cases List.isEmpty_iff.mp h2;cases Option.isNone_iff_eq_none.mp h3;cases List.isEmpty_iff.mp h4;cases Option.isNone_iff_eq_none.mp h5
 cases List.isEmpty_iff.mp h6;exact ⟨e,rfl,b50 h⟩
theorem a62 {l:List (Str×NameKind)} {x:Str} (h:l.lookup x=some .local\/l.lookup x=some .cell):(a2z l).contains x=true:=by
 refine I9 (List.contains_iff_mem ..) ?_;rcases h with h | h
 ·exact List.mem_map.mpr ⟨(x,.local),List.mem_filter.mpr ⟨N1 h,rfl⟩,rfl⟩
 ·exact List.mem_map.mpr ⟨(x,.cell),List.mem_filter.mpr ⟨N1 h,rfl⟩,rfl⟩
theorem b11 {x:Str} (h:a7h sc x=true):sc.names.lookup x=some .local\/sc.names.lookup x=some .cell :=
 (Bool.or_eq_true_iff.mp h).imp eq_of_beq eq_of_beq
theorem b1i {s s1:Shared} {name qual:Str} {params:Arguments} {body:List Stmt} {scope:Scope} {kV doc pm cdv ct:Value} {an:Option Addr} {f:Addr} {xs:List Str} {vs:List d8} {us:List Value} {fns clss attrs:List Str} (R:w6 G w H s.heap)
  (hk:scope.kind=.function) (ha:∀ x∈xs,y6 x=true) (hx:∀ x∈xs,a7h scope x=true) (rv:l5 G s.heap vs us) (hl:vs.length=xs.length)
  (x:InCallC s (callEnvC (fnOf name qual params body scope .none kV doc pm an cdv ct) s.heap.objs.size f).locals (PySem.bindL (callEnvC (fnOf name qual params body scope .none kV doc pm an cdv ct) s.heap.objs.size f).kindOf (xs.zip us) λ_=>none)
   (callEnvC (fnOf name qual params body scope .none kV doc pm an cdv ct) s.heap.objs.size f).cells (PySem.bindC (callEnvC (fnOf name qual params body scope .none kV doc pm an cdv ct) s.heap.objs.size f).kindOf (xs.zip us) λ_=>none) s1) :
  O9 G w (callEnvC (fnOf name qual params body scope .none kV doc pm an cdv ct) s.heap.objs.size f) ⟨scope.names,fns,clss,attrs,a2z scope.names⟩ (bindL (xs.map nm) vs En.nil) H s1.heap/\k9 G w N8 H s H s1:=by
 refine A6 x.done λh' tk q6 keep=>?_;subst q6;have st:k9 G w N8 H s H {s with heap:=h',toks:=tk}:=.kept R keep
 have rv':=st.vreps R rv;have bd:=b0G (G:=G) (h:=h') (ko:=(callEnvC (fnOf name qual params body scope .none kV doc pm an cdv ct) s.heap.objs.size f).kindOf) xs vs us (λ_=>none) (λ_=>none) En.nil ha rv' hl λ_ _ _ e=>x8 e;have fr:=E9 R (Nat.le_refl s.heap.objs.size);refine i9 (a8O x.toInCall.ns) λo ho hn=>?_;have inC:∀ y a,(callEnvC (fnOf name qual params body scope .none kV doc pm an cdv ct) s.heap.objs.size f).cells.lookup y=some a->H a=none/\G.base a=none/\a≠s.heap.objs.size:=λy a e=>by
  have lt:s.heap.objs.size < a:=x.above y a (mem_of_lookup e);have:=E9 R (Nat.le_of_lt lt);exact ⟨this.2.1,this.2.2,Nat.ne_of_gt lt⟩
 refine ⟨⟨hk,rfl,rfl,λy k e=>e,⟨_,o,ho,hn,x.toInCall.ns,λy v hy hk' e=>(bd y v hy e).1 hk'⟩,λy hc=>?_,⟨fr.2.1,fr.2.2,λy a e=>?_⟩,λy z a e1 e2=>?_,λy hy hd=>?_,λy hy=>?_⟩,st⟩
 ·refine eE (Option.isSome_iff_exists.mp (a5l scope.names (s.heap.objs.size+1) [] y (N1 hc))) λa e=>?_;exact ⟨a,_,e,x.cell y a e,λhy v e'=>(bd y v hy e').2 hc⟩
 ·refine eAA (inC y a e) λh1 h2 h3=>?_;exact ⟨h1,h2,h3,_,x.cell y a e⟩
 ·exact name_of_addr x.apart (mem_of_lookup e1) (mem_of_lookup e2)
 ·refine a7A _ _ En.nil _ λhm=>?_;refine i9 (List.mem_map.mp hm) λz hz e=>?_;have:=N7 (ha z hz) hy e;subst this;rw [a62 (b11 (hx z hz))] at hd;exact nomatch hd
 ·exact a62 (a22 hy)
end
section
variable {prog:Program} {w:World} {G:Gi} {n m:Nat} {c:Cx}
inductive SwK (t e:PySem.Expr) (l:Nat) (env:Env):Prop
 | mk:∀ b,swapsWith e (some t) l env=pure b->(Z7 e=true\/b=false)->SwK t e l env
theorem a8B (t e:PySem.Expr) (l:Nat) (env:Env):SwK t e l env:=by
 cases e with
 | ListComp _ _ _ _=>cases t <;> exact ⟨_,rfl,.inl rfl⟩
 | SetComp _ _ _ _=>cases t <;> exact ⟨_,rfl,.inl rfl⟩
 | DictComp _ _ _ _ _=>cases t <;> exact ⟨_,rfl,.inl rfl⟩
 | _=>exact ⟨_,rfl,.inr rfl⟩
theorem b66 {k:Nat} {tv:Tv} (g:Gok G c) (hE:a9g prog w G n m k) (hc:a16 t e=false) (ht:trT k c t=some tv) (he:P1 k c e=some x):SS prog w G n m c (.Assign [t] e pos) (s6 tv x):=λA s H r env Q al R F q=>by
 have ex:=λe x h=>(hE c e x g h).1;have sto:=c3l (m:=m) (prog:=prog) (w:=w) (n:=n) g ex ht;have plain:wpAny (model prog w) A (eval e env>>=λv=>swappedStores [t] e env>>=λsw=>assignStores env v sw ((assignEach [t] env).map (·.2))) (a30 G w env c H s Q) z5 s:=by
  refine c7t (j8 (ex e x he A s H r env _ al R F q) λp v H1 s1 r1 st q1=>?_);have F1:=F.step R st;rcases a5a (env:=env) hc with hsw | ⟨ts,kk,p1,vs,kk2,p2,line,hsw,hlen,hnd⟩
  ·refine b9 hsw ?_;refine b9 (pure_bind ..) ?_;have one:wpAny (model prog w) A (assign t env v) (a1K G w env c H1 s1 (λr1 H2=>Q .next r1 H2)) z5 s1:=sto A s1 H1 r env p v _ al st.rel F1 r1 q1;have e1:assignEach [t] env=[(false,assign t env)]:=by
    refine P5 λe' p he=>?_;subst he;unfold trT at ht;exact a1U ht
   refine b9 e1 ?_;refine c7t (wpAny_mono one (λ_ s2 h2=>?_) λ_ _ e=>e);refine k8 h2 λr2 H2 F2 st2 q2=>?_;clear h2;exact c7u ⟨.next,r2,H2,rfl,st.no.trans st2,F2,q2⟩
  ·refine b9 hsw ?_;refine b9 (pure_bind ..) ?_;show wpAny _ _ (rule "assign.swapped-stores">>=λ_=>unpackItems v (ts.filterMap (V4 env line)).length none>>=λitems=>assignInOrder ((ts.filterMap (V4 env line)).reverse.map λn=>bindName env n) items.reverse>>=λ_=>pure Flow.next) _ _ _;refine c7t (wpAny_rule ?_);replace ht:trT k c (.Tuple ts kk p1)=some tv:=ht;refine i9 (l8 (show ((D2 (a7R k c) ts).map Q9)=some tv from ht)) λtvs hts q15=>?_;subst q15
   revert q1;intro q9;refine B2 q9 λys hq hl q1=>?_;clear q9;refine eAA (a86 (b1a hlen) hts hl q1) λb1 b2 b3=>?_;refine c7t (Z0 g.toGk al.h st.rel r1 hq b2.symm λus s2 ru st2=>?_);have F2:=F1.step st.rel st2;have rr:l5 G s2.heap ys.reverse us.reverse:=ru.reverse;refine c7t (b1Z (ts.filterMap (V4 env line)).reverse ys.reverse us.reverse s2 H1 r _ (λx hx=>b1 x (List.mem_reverse.mp hx)) (by refine b9 List.length_reverse ?_;refine b9 List.length_reverse ?_;refine b9 b2 ?_;rfl) st2.rel F2 rr λs3 F3 st3=>c7u ⟨.next,_,H1,rfl,(st.trans st2).no.trans st3,F3,?_⟩)
   have hnd2:((ts.filterMap (V4 env line)).map nm).Nodup:=b36 hnd λx hx=>(b1 x hx).1;have e2:bindL ((ts.filterMap (V4 env line)).reverse.map nm) ys.reverse r=bindL ((ts.filterMap (V4 env line)).map nm) ys r:=by
    refine b9 List.map_reverse ?_;exact a45 hnd2 (by refine b9 (c7x ..) ?_;refine b9 b2 ?_;rfl)
   refine b9 e2 ?_;exact b3
 have comp:∀ b,swapsWith e (some t) pos.line env=pure b->Z7 e=true\/b=false->wpAny (model prog w) A (exec (.Assign [t] e pos) env) (a30 G w env c H s Q) z5 s:=λb hb hor=>by
  refine b9 (arm_exec_Assign ..) ?_;refine c7t (wpAny_standAt ?_);refine b9 (show swapsWithSole [t] e pos.line env=swapsWith e (some t) pos.line env from rfl) ?_;refine b9 hb ?_;refine b9 (pure_bind ..) ?_;cases b with
  | false=>exact plain
  | true =>
   refine b9 (if_pos rfl) ?_;have hcomp:Z7 e=true:=hor.elim id λh=>nomatch h
   have e1:assignEach [t] env=[(false,assign t env)]:=by
    refine P5 λe' p he=>?_;subst he;unfold trT at ht;exact a1U ht
   refine b9 e1 ?_;refine c7t (wpAny_mono ((hE c e x g he).2 hcomp A s H r env _ (λr1 H2=>Q .next r1 H2) (λv=>assignAll v [assign t env]) al R F q λD H1 s1 st q1=>?_) (λ_ s2 h2=>?_) λ_ _ e=>e)
   ·refine wpAny_mono (sto A s1 H1 r env (.ref D) (.ref D) _ al st.rel (F.step R st) .ref q1) (λ_ s2 h2=>?_) λ_ _ e=>e;refine k8 h2 λr2 H2 F2 st2 q2=>?_;clear h2;exact ⟨r2,H2,st2,F2,q2⟩
   ·refine k8 h2 λr2 H2 st2 F2 q2=>?_;clear h2;exact c7u ⟨.next,r2,H2,rfl,st2,F2,q2⟩
 obtain ⟨b,h1,h2⟩:=a8B t e pos.line env;exact comp b h1 h2
theorem b7n (ops:a5h prog w G n m):∀ (k:Nat) (c:Cx) (st:Stmt) (x:Bv),Gok G c->trS k c st=some x->SS prog w G n m c st x:=by
 intro k;induction k with
 | zero=>intro _ _ _ _ h;exact x8 h
 | succ k ih =>
  intro c st x g h;refine eA (c5L ops k) λhE hC=>?_;have ih:=λst x h=>ih c st x g h;have ex:=λe x h=>(hE c e x g h).1;cases st with
  | Expr e p =>
   refine eA (o8 (show gd (!Z7 e) ((P1 k c e).map v7)=some x from h)) λh1 h=>?_;refine i9 (l8 h) λy hy q10=>?_;subst q10;exact b44 (ex e y hy) (Bool.not_eq_true' _▸h1)
  | Assign ts e p =>
   refine i9 (f5 (show ((one? ts).bind λt=>gd (!a16 t e) <| (trT k c t).bind λt=>(P1 k c e).bind λe=>some (s6 t e))=some x from h)) λt ht h=>?_
   refine eA (o8 h) λh1 h=>?_;refine i9 (f5 h) λtv htv h=>?_;refine i9 (f5 h) λy hy h=>?_;have q1:=A3 h;clear h;subst q1;cases one?_some ht;exact b66 g hE (Bool.not_eq_true' _▸h1) htv hy
  | Return e p =>
   refine i9 (f5 (show (e.bind λe=>(P1 k c e).map H9)=some x from h)) λe' he h=>?_;refine i9 (l8 h) λy hy q11=>?_;subst q11;subst he;exact b6U (ex e' y hy)
  | If t a b p =>
   refine i9 (f5 (show ((trC k c t).bind λt=>(a5c (trS k) c a).bind λa=>(a5c (trS k) c b).bind λb=>some (a0t t a b))=some x from h)) λz hz h=>?_;refine i9 (f5 h) λy1 h1 h=>?_;refine i9 (f5 h) λy2 h2 h=>?_;have q2:=A3 h;clear h;subst q2;exact c5E (hC c t z g hz) (a7d ih h1) (a7d ih h2)
  | While t b els p =>
   refine eA (o8 (show gd els.isEmpty ((trC k c t).bind λt=>(a5c (trS k) c b).bind λb=>some (a8X t b))=some x from h)) λh1 h2=>?_;refine i9 (f5 h2) λz hz h2=>?_;refine i9 (f5 h2) λy hy h2=>?_;have q4:=A3 h2;clear h2;subst q4;cases els with
   | cons _ _=>exact nomatch h1
   | nil=>exact b2m (hC c t z g hz) (a7d ih hy)
  | For tg it b els p =>
   refine eA (o8 (show gd (els.isEmpty&&Q8 c.var tg) ((W4 tg).bind λt=>(a3F (P1 k c) c it).bind λit=>(a5c (trS k) c b).bind λb=>gd (a1i it t.2) (some (O6 t.1 t.2 it b)))=some x from h)) λh1 h2=>?_;refine eA (Bool.and_eq_true_iff.mp h1) λh1 h3=>?_;refine i9 (f5 h2) λq14 ht h2=>?_;obtain ⟨t,one⟩:=q14;refine i9 (f5 h2) λz hz h2=>?_;refine i9 (f5 h2) λy hy h2=>?_;refine eA (o8 h2) λh4 h2=>?_
   have q5:=A3 h2;clear h2;subst q5;cases els with
   | cons _ _=>exact nomatch h1
   | nil=>exact b78 (k:=0) g (a4C g ex hz) (a7d ih hy) ht h3 h4
  | Raise _ _ _=>have q3:=A3 h;clear h;subst q3;exact λA s H r env Q al R F q=>q.elim
  | _=>exact x8 h
theorem Gok.cx {names:List (Str×NameKind)} {dom:List Str} (g:Gok G c):Gok G ⟨names,c.fns,c.clss,c.attrs,dom⟩:={g with cl:=g.cl,at_:=g.at_,me:=g.me,fn:=g.fn,cls:=g.cls,fun_:=λcn name fd h=>let ⟨f,a,b,d⟩:=g.fun_ cn name fd h;⟨f,a,b.cx,d⟩,keepf:=g.keepf,nolim:=g.nolim,blt:=g.blt}
theorem b65 (g:Gok G c) (ops:a5h prog w G n 40):U3 prog w G (n+1):=by
 intro A s H cn name f vs us Q a R rv hf h;refine B2 h λfd hF hl q=>?_;clear h;refine B2 (g.fun_ cn name fd hF) λf' e1 q16 _=>?_;obtain ⟨nm',qual,params,body,scope,kV,doc,pm,an,cdv,ct,oc,od,osl,e2,e3,e4,e5,e6,e7,e8,e9⟩:=q16;rw [hf] at e1;have q6:=A3 e1;clear e1;subst q6;have hX:=R.In g;refine i9 (f5 e4) λps h1 h2=>?_;refine i9 (f5 h2) λb h3 h4=>?_;have q7:=A3 h4;clear h4;subst q7;refine B2 (b0e h1) λkd hp hasc q13=>?_;subst q13
 have hlen:us.length=(params.args.map (·.arg)).length:=by refine t6 rv.length ?_;refine b9 hl ?_;refine b9 (c7x ..) ?_;rfl
 have hargs:∀ x∈params.args.map (·.arg),a7h scope x=true:=λx hx=>by
  refine i9 (List.mem_map.mp hx) λy hy q12=>?_;subst q12;exact List.all_eq_true.mp e9 y hy
 refine codeAny_call_cells (fd:=fnOf nm' qual params body scope .none kV doc pm an cdv ct) (binds:=(params.args.map (·.arg)).zip us) (by have:=a.d;unfold recursionLimit;exact c5T this) (hX f _ e2) rfl (g.nolim _ λa o e=>(R.base a o e).1) (codeRec_of hX e3) rfl
  (by refine b9 hp ?_;exact a7Y (by rw [hp] at hlen;exact hlen) (by rw [hp] at e8;exact e8)) rfl (λx hx=>?_) (λs1 x=>?_) e6 e7 e5
 ·have hm:x.1∈params.args.map (·.arg):=(List.of_mem_zip (a:=x.1) (b:=x.2) hx).1;rcases b11 (hargs _ hm) with h | h
  ·exact .inl h
  ·exact .inr ⟨h,a5l scope.names _ [] _ (N1 h)⟩
 ·refine eA (b1i (fns:=c.fns) (clss:=c.clss) (attrs:=c.attrs) R e5 hasc hargs rv (by refine b9 hl ?_;refine b9 (c7x ..) ?_;rfl) x) λF1 st1=>?_
  have al:V2 n 40 (A.deeper (callEnvC (fnOf nm' qual params body scope .none kV doc pm an cdv ct) s.heap.objs.size f)):=a.deeper;refine wpAny_mono (a7d (λst x h=>b7n ops 60 _ st x g.cx h) h3 _ s1 H _ _ _ al st1.rel F1 q) (λfl s2 gg=>?_) λ_ _ e=>e.elim;refine U4 gg λfl' r2 H2 fr st2 F2 q2=>?_;clear gg;have st:k9 G w N8 H s H2 s2:=by
   have st12:=st1.no.trans st2;refine ⟨st12.rel,st12.ext.compress λb hb=>?_,st12.gens,st12.os⟩
   right
   rcases hb with e | ⟨y,e⟩
   ·refine b9 e ?_;exact (E9 R (Nat.le_refl _)).1
   ·exact (E9 R (Nat.le_of_lt (x.above y b (mem_of_lookup e)))).1
  cases fl' with
  | next=>cases (show fl=.next from fr);exact ⟨.none,H2,.none,st,q2⟩
  | ret v=>refine i9 fr λu q8 ru=>?_;clear fr;subst q8;exact ⟨v,H2,ru,st,q2⟩
theorem b2C (g:Gok G c) (bi:∀ n b,a3a prog w G n 40 b) (ss:∀ n,a6s prog w G n 40) (ls:∀ n,a6I prog w G n 40):∀ n,U3 prog w G n:=by
 intro n;induction n with
 | zero=>exact λA s H cn name f vs us Q a R rv hf h=>h.elim
 | succ n ih=>exact b65 g ⟨ih,bi n,ss n,ls n⟩
end
end
section
open PySem
noncomputable def tm (m:Nat):SetTable:=⟨m,#[],#[],0,true,0,true⟩
noncomputable def J7 (m:Nat) (h:Int):Nat->SetTable.Probe
 | 0=>(tm m).probeStart h
 | n+1=>(tm m).advance (J7 m h n)
noncomputable def rs (m:Nat) (x:Nat×Nat):SetTable.Probe:=⟨x.1,SetTable.runEnd m x.1 - x.1,x.1,x.2,none⟩
noncomputable def lps (m:Nat) (h:Int):Nat->Nat×Nat
 | 0=>(SetTable.bits h % (m+1),SetTable.bits h)
 | k+1=>SetTable.leap m (lps m h k).1 (lps m h k).2
theorem b21 {h:Int} {x:Nat×Nat} (e:J7 m h n=rs m x):∀ k,k<=SetTable.runEnd m x.1 - x.1->J7 m h (n+k)=⟨x.1+k,SetTable.runEnd m x.1 - x.1 - k,x.1,x.2,none⟩:=by
 intro k;induction k with
 | zero=>intro _;exact e
 | succ k ih =>
  intro hk;show (tm m).advance (J7 m h (n+k))=_;refine b9 (ih (c0g hk)) ?_;unfold SetTable.advance;refine b9 (if_pos (by show SetTable.runEnd m x.1 - x.1 - k > 0;exact c0h hk)) ?_
  show SetTable.Probe.mk _ _ _ _ _=_
  congr 1
theorem a9n {h:Int} {x:Nat×Nat} (e:J7 m h n=rs m x):J7 m h (n+(SetTable.runEnd m x.1 - x.1)+1)=rs m (SetTable.leap m x.1 x.2):=by
 show (tm m).advance (J7 m h (n+_))=_;refine b9 (b21 e _ (Nat.le_refl _)) ?_;unfold SetTable.advance;refine b9 (if_neg (by show ¬ (_ - _ > 0);exact c6g)) ?_
 rfl
theorem b5c (m i:Nat):SetTable.runEnd m i - i<=9:=by
 unfold SetTable.runEnd;split <;> omega
theorem a92 {h:Int}:∀ k,∃ n,n<=10 * k/\J7 m h n=rs m (lps m h k):=by
 intro k;induction k with
 | zero=>exact ⟨0,Nat.le_refl _,rfl⟩
 | succ k ih =>
  refine i9 ih λn h1 h2=>?_;clear ih;have:=b5c m (lps m h k).1;exact ⟨_,by exact c29 h1 this,a9n h2⟩
theorem b1I {h:Int}:∀ k,(lps m h k).2=SetTable.bits h / 32 ^ k:=by
 intro k;induction k with
 | zero=>exact (Nat.div_one _).symm
 | succ k ih =>
  show (lps m h k).2 / 32=_;refine b9 ih ?_;refine b9 (Nat.div_div_eq_div_mul ..) ?_;refine b9 (Nat.pow_succ ..) ?_;rfl
theorem b5v (h:Int):SetTable.bits h < 32 ^ 13:=by
 unfold SetTable.bits;have h1:0<=h % (2 ^ 64:Int):=Int.emod_nonneg _ (by decide)
 have h2:h % (2 ^ 64:Int) < 2 ^ 64:=Int.emod_lt_of_pos _ (by decide)
 have:(2:Int) ^ 64=18446744073709551616:=by decide
 have:(32:Nat) ^ 13=36893488147419103232:=by decide
 omega
noncomputable def lcg (m i:Nat):Nat:=(i * 5+1) % (m+1)
noncomputable def orb (m:Nat):Nat->Nat->List Nat
 | 0,_=>[]
 | k+1,i=>i :: orb m k (lcg m i)
theorem b3H (m:Nat) (h:Int):∀ (k a j:Nat),13<=a->j∈orb m k (lps m h a).1->∃ r,r < k/\(lps m h (a+r)).1=j:=by
 intro k;induction k with
 | zero=>intro _ _ _ hj;exact nomatch hj
 | succ k ih =>
  intro a j ha hj;rcases List.mem_cons.mp hj with rfl | hj
  ·exact ⟨0,Nat.succ_pos _,rfl⟩
  ·have e:lcg m (lps m h a).1=(lps m h (a+1)).1:=by
    show _=((lps m h a).1 * 5+1+(lps m h a).2 / 32) % (m+1);have:(lps m h a).2=0:=by
     refine b9 (b1I ..) ?_;exact Nat.div_eq_of_lt (Nat.lt_of_lt_of_le (b5v h) (Nat.pow_le_pow_right (by decide) ha))
    refine b9 this ?_;rfl
   rw [e] at hj;refine i9 (ih (a+1) j (c3b ha) hj) λr hr h1=>?_;exact ⟨r+1,by exact b9U hr,by refine t6 h1 ?_;refine b9 (Nat.add_assoc a 1 r) ?_;refine b9 (Nat.add_comm 1 r) ?_;rfl⟩
noncomputable def a0V (m:Nat):Bool:=(List.range (m+1)).all λi=>(List.range (m+1)).all λj=>(orb m (m+1) i).contains j
theorem b4s:a0V 7=true:=by decide +kernel
theorem a6U:a0V 31=true:=by decide +kernel
theorem b3K (m:Nat) (h:Int):∀ k,(lps m h k).1 < m+1:=by
 intro zz;induction zz with
 | zero=>exact Nat.mod_lt _ (Nat.succ_pos _)
 | succ _ ih=>exact Nat.mod_lt _ (Nat.succ_pos _)
theorem b4B (c:a0V m=true) (h:Int) (hj:j<=m):∃ n,n < 10 * SetTable.turns m/\(J7 m h n).j=j:=by
 unfold a0V at c;rw [List.all_eq_true] at c;have c1:=c _ (List.mem_range.mpr (b3K m h 13));rw [List.all_eq_true] at c1;have c2:=c1 j (List.mem_range.mpr (b88 hj));refine i9 (b3H m h (m+1) 13 j (Nat.le_refl _) (List.contains_iff_mem.mp c2)) λr hr e=>?_;refine i9 (a92 (m:=m) (h:=h) (13+r)) λn hn e2=>?_;exact ⟨n,by unfold SetTable.turns;exact b9q hr hn,by refine b9 e2 ?_;exact e⟩
theorem b03 (m:Nat) (h:Int):∀ n,(J7 m h n).dummy=none:=by
 intro n;induction n with
 | zero=>exact rfl
 | succ n ih =>
  show ((tm m).advance (J7 m h n)).dummy=none;unfold SetTable.advance
  split <;> exact ih
theorem a8b (m:Nat) (h:Int) (n:Nat):(J7 m h n).j<=m:=by
 have key:∀ n,(J7 m h n).i<=m/\(J7 m h n).j+(J7 m h n).more<=m:=by
  intro n;have st:∀ i,i<=m->i+(SetTable.runEnd m i - i)<=m:=λi hi=>by unfold SetTable.runEnd;split <;> omega
  induction n with
  | zero =>
   have:SetTable.bits h % (m+1)<=m:=Nat.le_of_lt_succ (Nat.mod_lt _ (Nat.succ_pos _));exact ⟨this,st _ this⟩
  | succ n ih =>
   show ((tm m).advance (J7 m h n)).i<=m/\((tm m).advance (J7 m h n)).j+((tm m).advance (J7 m h n)).more<=m;unfold SetTable.advance
   split
   ·exact ⟨ih.1,by show (J7 m h n).j+1+((J7 m h n).more - 1)<=m;exact c3Y ih ‹_›⟩
   ·have:((J7 m h n).i * 5+1+(J7 m h n).perturb / 32) % (m+1)<=m:=Nat.le_of_lt_succ (Nat.mod_lt _ (Nat.succ_pos _));exact ⟨this,st _ this⟩
 have:=(key n).2;exact b6L this
theorem b1G (hs:xs.toList.Pairwise (· < ·)):∀ (f lo hi:Nat),hi - lo<=f->lo<=hi->hi<=xs.size->(∀ i,i < lo->xs.getD i 0 < j)->(∀ i,hi<=i->i < xs.size->j<=xs.getD i 0) ->
  ∃ p,SetTable.below.go xs j f lo hi=p/\p<=xs.size/\(∀ i,i < p->xs.getD i 0 < j)/\∀ i,p<=i->i < xs.size->j<=xs.getD i 0:=by
 have mono:∀ i k,i<=k->k < xs.size->xs.getD i 0<=xs.getD k 0:=λi k h1 h2=>by
  rcases Nat.lt_or_eq_of_le h1 with h | rfl
  ·have:=List.pairwise_iff_getElem.mp hs i k (by simpa using (b1Q h2 h:i < xs.size)) (by simpa using h2) h
   simp only [Array.getElem_toList] at this;refine b9 Array.getD_eq_getD_getElem? ?_;refine b9 Array.getD_eq_getD_getElem? ?_;refine b9 (Array.getElem?_eq_getElem (b1Q h2 h:i < xs.size)) ?_;refine b9 (Array.getElem?_eq_getElem h2) ?_;exact Nat.le_of_lt this
  ·exact Nat.le_refl _
 intro f;induction f with
 | zero=>exact λlo hi h1 h2 h3 h4 h5=>⟨lo,rfl,by exact b6o h2 h3,h4,λi h6=>h5 i (c48 h1 h6)⟩
 | succ f ih =>
  intro lo hi h1 h2 h3 h4 h5;unfold SetTable.below.go;by_cases hlt:lo < hi
  ·refine b9 (if_pos hlt) ?_;by_cases hm:xs.getD ((lo+hi) / 2) j < j
   ·simp only [hm,if_true];have hx:xs.getD ((lo+hi) / 2) 0 < j:=by
     rw [Array.getD_eq_getD_getElem?,Array.getElem?_eq_getElem (b4r h3 hlt:(lo+hi) / 2 < xs.size)] at hm ⊢;exact hm
    exact ih _ _ (c1i h1) (c4D hlt) h3 (λi hi'=>Nat.lt_of_le_of_lt (mono i ((lo+hi) / 2) (c3Z hi') (b4r h3 hlt)) hx) h5
   ·simp only [hm,if_false];have hx:j<=xs.getD ((lo+hi) / 2) 0:=by
     rw [Array.getD_eq_getD_getElem?,Array.getElem?_eq_getElem (b4r h3 hlt:(lo+hi) / 2 < xs.size)] at hm ⊢;exact Nat.le_of_not_lt hm
    exact ih _ _ (c2B h1) (c0a hlt) (c0T h3 hlt) h4 λi h6 h7=>Nat.le_trans hx (mono _ i h6 h7)
  ·refine b9 (if_neg hlt) ?_;exact ⟨lo,rfl,by exact b6o h2 h3,h4,λi h6=>h5 i (c2x hlt h6)⟩
theorem a0S (hs:xs.toList.Pairwise (· < ·)) (j:Nat):SetTable.below xs j<=xs.size/\(∀ i,i < SetTable.below xs j->xs.getD i 0 < j)/\∀ i,SetTable.below xs j<=i->i < xs.size->j<=xs.getD i 0:=by
 refine i9 (b1G (j:=j) hs xs.size 0 xs.size (c1I) (Nat.zero_le _) (Nat.le_refl _) (λi hi=>absurd hi (Nat.not_lt_zero _)) (λi h1 h2=>absurd h2 (b7i h1))) λp e h=>?_;unfold SetTable.below;refine b9 e ?_;exact h
theorem getD_some {x:Nat} (h:xs[i]?=some x):xs.getD i 0=x:=by refine b9 Array.getD_eq_getD_getElem? ?_;refine b9 h ?_;rfl
theorem Z4 {α:Type} {xs:Array α} {x:α} (h:xs[i]?=some x):i < xs.size:=by
 have:=Array.getElem?_eq_some_iff.mp h;exact this.1
theorem b0u (hs:xs.toList.Pairwise (· < ·)) (h:xs[i]?=some j):SetTable.below xs j=i:=by
 refine eAA (a0S hs j) λh1 h2 h3=>?_;have hi:=Z4 h;have e:=getD_some h;rcases Nat.lt_trichotomy (SetTable.below xs j) i with c | c | c
 ·have q:=h3 (SetTable.below xs j) (Nat.le_refl _) (b1Q hi c);have:=List.pairwise_iff_getElem.mp hs (SetTable.below xs j) i (by simpa using (b1Q hi c:SetTable.below xs j < xs.size)) (by simpa using hi) c
  simp only [Array.getElem_toList] at this;rw [Array.getD_eq_getD_getElem?,Array.getElem?_eq_getElem (b1Q hi c:SetTable.below xs j < xs.size)] at q;rw [Array.getElem?_eq_getElem hi] at h;injection h with h
  rw [h] at this;exact absurd q (Nat.not_le_of_lt this)
 ·exact c
 ·have:=h2 i c;exact c3Q e this
theorem b0a {t:SetTable} (hs:t.place.toList.Pairwise (· < ·)) (h:t.place[i]?=some j):t.slot j=.live i:=by
 unfold SetTable.slot;refine b9 (b0u hs h) ?_;dsimp only;refine b9 h ?_;simp
theorem a8H {t:SetTable} (hd:t.dummies=#[]) (h:j∉t.place.toList):t.slot j=.empty:=by
 unfold SetTable.slot;dsimp only;have h1:(t.place[SetTable.below t.place j]?==some j)=false:=by
  refine I9 (beq_eq_false_iff_ne ..) ?_;intro e;exact h (Array.mem_toList_iff.mpr (Array.mem_of_getElem? e))
 have h2:SetTable.has t.dummies j=false:=by refine b9 hd ?_;rfl
 refine b9 h1 ?_;refine b9 h2 ?_;rfl
theorem a0m {α:Type} (xs:Array α) (p:Nat) (x:α):(SetTable.insertAt xs p x).toList=xs.toList.take p++x :: xs.toList.drop p:=by
 unfold SetTable.insertAt;simp only [Array.toList_append,Array.toList_push,Array.toList_extract,List.append_assoc,List.cons_append,List.nil_append]
 congr 2
 simp [List.extract_eq_take_drop,List.take_of_length_le]
end
variable {t:PySem.SetTable}
section
open PySem PySem.W PyProof.Rows PySem.Calls
theorem c1n {P:Nat->Prop}:∀ n,P n->∃ k,k<=n/\P k/\∀ l,l < k->¬ P l:=by
 intro n;induction n using Nat.strongRecOn with
 | ind n ih =>
  intro h;by_cases e:∃ l,l < n/\P l
  ·refine i9 e λl h1 h2=>?_;clear e;refine B2 (ih l h1 h2) λk a b c=>?_;exact ⟨k,by exact c4r h1 a,b,c⟩
  ·exact ⟨n,Nat.le_refl _,h,λl h1 h2=>e ⟨l,h1,h2⟩⟩
noncomputable abbrev El:=Nat×d8×Value
structure TI (w:World) (m:Nat) (L:List El):Prop where
 rise:(L.map (·.1)).Pairwise (· < ·)
 nod:(L.map (·.2.1)).Nodup
 size:(m=7/\L.length<=4)\/(m=31/\L.length<=18)
 le:∀ x∈L,x.1<=m
 reach:∀ x∈L,∃ n,(J7 m (n6 w x.2.1) n).j=x.1/\∀ k,k < n->(J7 m (n6 w x.2.1) k).j∈L.map (·.1)
theorem TI.cov {L:List El} (t:TI w m L):a0V m=true:=by rcases t.size with ⟨rfl,_⟩ | ⟨rfl,_⟩ <;> first | exact b4s | exact a6U
theorem TI.free {L:List El} (t:TI w m L) (h:Int):∃ N,N < 10 * SetTable.turns m/\(J7 m h N).j∉L.map (·.1)/\∀ k,k < N->(J7 m h k).j∈L.map (·.1):=by
 have ex:∃ j,j<=m/\j∉L.map (·.1):=by
  refine Classical.byContradiction λc=>?_;have c:List.range (m+1) ⊆ L.map (·.1):=λj hj=>Classical.byContradiction λq=>c ⟨j,Nat.le_of_lt_succ (List.mem_range.mp hj),q⟩;have:=List.Nodup.length_le_of_subset List.nodup_range c;rw [List.length_range,List.length_map] at this;rcases t.size with ⟨rfl,h⟩ | ⟨rfl,h⟩ <;> omega
 refine i9 ex λj hj hn=>?_;clear ex;refine i9 (b4B t.cov h hj) λn h1 h2=>?_;refine B2 (c1n (P:=λn=>(J7 m h n).j∉L.map (·.1)) n (by refine b9 h2 ?_;exact hn)) λN a b c=>?_
 exact ⟨N,by exact c2Q h1 a,b,λk hk=>Classical.not_not.mp (c k hk)⟩
structure a0C (w:World) (t:SetTable) (L:List El):Prop where
 ti:TI w t.mask L
 place:t.place.toList=L.map (·.1)
 dum:t.dummies=#[]
theorem a0C.fits {L:List El} (l:a0C w t L):t.fits L.length=true:=by
 unfold SetTable.fits SetTable.fill;have e:t.place.size=L.length:=by refine t6 Array.length_toList ?_;refine b9 l.place ?_;refine b9 (c7x ..) ?_;rfl
 refine b9 l.dum ?_;refine b9 e ?_;simp only [beq_self_eq_true,Bool.true_and,decide_eq_true_eq,List.size_toArray,List.length_nil,Nat.add_zero];rcases l.ti.size with ⟨a,b⟩ | ⟨a,b⟩ <;> omega
theorem a0C.gave {L:List El} (l:a0C w t L):t.gaveWay=false:=by
 unfold SetTable.gaveWay;rcases l.ti.size with ⟨a,_⟩ | ⟨a,_⟩ <;> refine b9 a ?_ <;> rfl
theorem a0C.at_ {L:List El} (l:a0C w t L) {x:El} (h:L[i]?=some x):t.place[i]?=some x.1:=by
 refine t6 Array.getElem?_toList ?_;refine b9 l.place ?_;refine b9 List.getElem?_map ?_;refine b9 h ?_;rfl
theorem a0C.live {L:List El} (l:a0C w t L) {x:El} (h:L[i]?=some x):t.slot x.1=.live i :=
 b0a (by refine b9 l.place ?_;exact l.ti.rise) (l.at_ h)
theorem a0C.empty {L:List El} (l:a0C w t L) (h:j∉L.map (·.1)):t.slot j=.empty:=a8H l.dum (by refine b9 l.place ?_;exact h)
inductive b7c (t:SetTable) (L:List El) (ha:Nat->Int) (h:Int) (N n f:Nat):Prop
 | free:SetTable.probe.go t ha h f (J7 t.mask h n)=some (.empty (J7 t.mask h N).j none)->(∀ k i x,n<=k->k < N->L[i]?=some x->x.1=(J7 t.mask h k).j->ha i≠h)->b7c t L ha h N n f
 | cand:∀ k i x,n<=k->k < N->L[i]?=some x->x.1=(J7 t.mask h k).j->ha i=h->SetTable.probe.go t ha h f (J7 t.mask h n)=some (.candidate (J7 t.mask h k).j i (J7 t.mask h (k+1))) ->
   (∀ k' i' x',n<=k'->k' < k->L[i']?=some x'->x'.1=(J7 t.mask h k').j->ha i'≠h)->b7c t L ha h N n f
theorem a54 {L:List El} (l:a0C w t L) {ha:Nat->Int} {h:Int} {N:Nat} (hN:(J7 t.mask h N).j∉L.map (·.1)) (hb:∀ k,k < N->(J7 t.mask h k).j∈L.map (·.1)) :
  ∀ (d n f:Nat),n+d=N->d < f->b7c t L ha h N n f
 | d,n,0,_,hf=>absurd hf (Nat.not_lt_zero _)
 | 0,n,f+1,e,_=>by
  obtain rfl:n=N:=e;refine .free ?_ λk i x h1 h2=>absurd h2 (b7i h1);unfold SetTable.probe.go;refine b9 (l.empty hN) ?_;refine b9 (b03 ..) ?_;rfl
 | d+1,n,f+1,e,hf=>by
  refine i9 (List.mem_map.mp (hb n (b6y e))) λx hx hj=>?_;refine eE (List.mem_iff_getElem?.mp hx) λi hi=>?_;have uniq:∀ i' x',L[i']?=some x'->x'.1=(J7 t.mask h n).j->i'=i:=λi' x' h1 h2=>by
   have a:=l.live h1;rw [h2,<-hj,l.live hi] at a;injection a with a
   exact a.symm
  have st:SetTable.probe.go t ha h (f+1) (J7 t.mask h n)=if ha i==h then some (.candidate (J7 t.mask h n).j i (J7 t.mask h (n+1))) else SetTable.probe.go t ha h f (J7 t.mask h (n+1)):=by
   conv=>lhs;unfold SetTable.probe.go
   refine t6 hj ?_;refine b9 (l.live hi) ?_;rfl
  by_cases c:ha i=h
  ·exact .cand n i x (Nat.le_refl _) (b6y e) hi hj c (st.trans (if_pos (beq_iff_eq.mpr c))) λk' _ _ h1 h2=>absurd h2 (b7i h1)
  ·have st:=st.trans (if_neg (by simpa using c))
   have one:∀ k i' x',n<=k->L[i']?=some x'->x'.1=(J7 t.mask h k).j->(n+1<=k->ha i'≠h)->ha i'≠h:=λk i' x' h1 h2 h3 h4=>by
    rcases Nat.lt_or_eq_of_le h1 with q | rfl
    ·exact h4 q
    ·refine b9 (uniq i' x' h2 h3) ?_;exact c
   cases a54 l (ha:=ha) hN hb d (n+1) f (c3U e) (c0n hf) with
   | free a b=>exact .free (st.trans a) λk i' x' h1 h2 h3 h4=>one k i' x' h1 h3 h4 λq=>b k i' x' q h2 h3 h4
   | cand k i' x' h1 h2 h3 h4 h5 h6 h7=>exact .cand k i' x' (c34 h1) h2 h3 h4 h5 (st.trans h6) λk' i2 x2 q1 q2 q3 q4=>one k' i2 x2 q1 q3 q4 λq=>h7 k' i2 x2 q q2 q3 q4
end
variable {L:List El}
section
open PySem PySem.W PyProof.Rows PySem.Calls
open Classical
section
variable {prog:Program} {w:World} {G:Gi}
noncomputable def t5 (w:World) (L:List El):Array (Int×Value):=(L.map λx=>(n6 w x.2.1,x.2.2)).toArray
noncomputable def a2w (k:d8):Bool:=b6K k&&B8 3 k
noncomputable def byT (w:World):Bool:=w.params.followText "set-order"
structure Md (w:World) (K:d8->Bool) (t:SetTable):Prop where
 led:t.led=!byT w
 plain:(∀ v,K v=true->x9 v=0)->t.plain=true
structure a09 (w:World) (G:Gi) (K:d8->Bool) (h:Heap) (a:Addr) (L:List El):Prop where
 ex:∃ o ep t,h.get? a=some o/\o.ExactSet/\o.data=.set (t5 w L) ep t/\a0C w t L/\Md w K t
 keys:∀ x∈L,K x.2.1=true/\i8 G h x.2.1 x.2.2
theorem a6g (x:a2w k=true) (r:i8 G h k v):∃ b,v=.ref b:=by
 cases k with
 | tup l =>
  replace r:=Y0 r;refine A6 r λa _ e _=>?_;clear r;exact ⟨a,e⟩
 | _=>cases x
theorem s0 (w:World) (L:List El):(t5 w L).size=L.length:=by simp [t5]
theorem a03 (w:World) (L:List El) (i:Nat):(t5 w L)[i]?=L[i]?.map λx=>(n6 w x.2.1,x.2.2):=by simp [t5]
theorem a9M (h:B8 3 k=true):B8 7 k=true:=a9t 3 k h 7 (c7v rfl)
theorem a2w.is (x:a2w k=true) (r:i8 G h k (.ref a)):(kk prog w G).is h k a:=⟨a9M (Bool.and_eq_true_iff.mp x).2,r⟩
theorem a9B:∀ n k,B8 n k=true->∀ (j:Nat) (A:Around) (E:Value->Shared->Prop) (s:Shared) (v:Value) (Q:Bool->Shared->Prop),i8 G s.heap k v->Q false s ->
  wpAny (model prog w) A (ofAClassStatement (n+j) v) Q E s:=by
 refine W1 (λn i j A E s v Q r q=>?_) (λn i j A E s v Q r q=>?_) λn l ih h j A E s v Q r q=>?_
 ·refine eE (N0 r) λt q1=>?_;subst q1;cases n+j <;> exact c7u q
 ·refine eE (a1h r) λt q2=>?_;subst q2;cases n+j <;> exact c7u q
 ·replace r:=Y0 r;revert r;intro q4;refine k8 q4 λa vs q3 t r=>?_;clear q4;subst q3;have hT:=a0O t;refine S8 t λo ho _ z hd=>?_;clear t;refine b9 (show n+1+j=n+j+1 from Nat.add_right_comm n 1 j) ?_;unfold ofAClassStatement;refine c7t (wpAny_typeOf hT ?_);show wpAny _ _ (do let u<-pure true;if (!u)=true then _ else _) _ _ s
  refine c7t (c7u ?_);simp only [Bool.not_true,Bool.false_eq_true,if_false];refine c7t (wpAny_seqItems ho hd ?_);refine c7t (a4F (λb=>b.1=none) h r rfl (λy u b hy ry hb=>?_) λb hb=>?_)
  ·refine c7t (ih y hy j _ _ _ _ _ ry ?_);exact c7u ⟨rfl,rfl⟩
  ·obtain ⟨b1,b2⟩:=b;cases (show b1=none from hb);exact c7u q
end
section
variable {prog:Program} {w:World} {G:Gi}
theorem b0g {Q:Bool->Shared->Prop} (hk:a2w k=true) (r:i8 G s.heap k (.ref a)) :
  ∀ l:List Value,(∀ v∈l,∃ k' b,v=.ref b/\a2w k'=true/\i8 G s.heap k' (.ref b))->Q false s->wpAny (model prog w) A (searchCouldBeSeen (.ref a) l) Q E s:=by
 intro l hl q;unfold searchCouldBeSeen;refine c7t ?_;refine wpAny_forIn_list _ (λrest r s'=>r.1=none/\s'=s/\∀ v∈rest,v∈l) _ ?_ ?_ _ _ ⟨rfl,rfl,λv h=>h⟩
 ·rintro v rest r2 s' ⟨hr,rfl,hm⟩
  refine k8 (hl v (hm v (List.mem_cons_self))) λk' b q4 hk' r'=>?_;subst q4;dsimp only;by_cases e:(a==b)=true
  ·refine b9 e ?_;exact c7u ⟨rfl,rfl,λv h=>hm v (List.mem_cons_of_mem _ h)⟩
  ·have e:(a==b)=false:=by simpa using e
   refine b9 e ?_;show wpAny _ _ (eqIsQuiet 8 (.ref a)>>=_) _ _ _;refine c7t (a6p 3 _ (Bool.and_eq_true_iff.mp hk).2 4 _ _ _ _ _ r ?_);show wpAny _ _ (eqIsQuiet 8 (.ref b)>>=_) _ _ _;refine c7t (a6p 3 _ (Bool.and_eq_true_iff.mp hk').2 4 _ _ _ _ _ r' ?_);show wpAny _ _ (ofAClassStatement 8 (.ref a)>>=_) _ _ _;refine c7t (a9B 3 _ (Bool.and_eq_true_iff.mp hk).2 5 _ _ _ _ _ r ?_);show wpAny _ _ (ofAClassStatement 8 (.ref b)>>=_) _ _ _
   refine c7t (a9B 3 _ (Bool.and_eq_true_iff.mp hk').2 5 _ _ _ _ _ r' ?_);exact c7u ⟨rfl,rfl,λv h=>hm v (List.mem_cons_of_mem _ h)⟩
 ·rintro ⟨r1,r2⟩ s' ⟨hr,rfl,_⟩
  simp only at hr;subst hr;exact c7u q
theorem K2 {Q:(Array (Int×Value)×Nat×SetTable)->Shared->Prop} (ho:s.heap.get? a=some o) (hd:o.data=.set (t5 w L) ep t) (l:a0C w t L)
  (h:Q (t5 w L,ep,t) s):wpAny (model prog w) A (setState a) Q E s :=
 wpAny_setState_of ho hd (by refine b9 (s0 ..) ?_;exact l.fits) h
theorem b0Z (t:SetTable):t.sameMemory t.moves t.mask=some true:=by unfold SetTable.sameMemory;refine b9 (if_pos (beq_self_eq_true _)) ?_;rfl
theorem a97 {a b:Addr} {ep N:Nat} {Q:SetFound->Shared->Prop} (hu:A.units+64 < cLine) (ho:s.heap.get? a=some o) (hd:o.data=.set (t5 w L) ep t) (l:a0C w t L)
  (ks:∀ x∈L,a2w x.2.1=true/\i8 G s.heap x.2.1 x.2.2) (hk:a2w k=true) (r:i8 G s.heap k (.ref b))
  (hN:(J7 t.mask (n6 w k) N).j∉L.map (·.1)) (hb:∀ j,j < N->(J7 t.mask (n6 w k) j).j∈L.map (·.1)) (hl:N < 10 * SetTable.turns t.mask)
  (q1:k∈L.map (·.2.1)->Q (.there none) s) (q2:k∉L.map (·.2.1)->Q (.free (J7 t.mask (n6 w k) N).j false) s) :
  ∀ (d n f:Nat) (st:Option SetTable.Probe),n+d=N->d < f->st.getD (t.probeStart (n6 w k))=J7 t.mask (n6 w k) n->(∀ x∈L,x.2.1=k->∃ i,n<=i/\i < N/\x.1=(J7 t.mask (n6 w k) i).j) ->
   wpAny (model prog w) A (setSearchFrom a (.ref b) (n6 w k) true f st) Q E s:=by
 intro d;induction d using Nat.strongRecOn with
 | ind d ih =>
 intro n f st e hf hst hx;obtain ⟨f,rfl⟩:∃ g,f=g+1:=⟨f - 1,by exact c3v hf⟩
 refine c7t (K2 ho hd l ?_);dsimp only;refine b9 l.gave ?_;simp only [Bool.false_eq_true,if_false];refine b9 hst ?_;have hh:∀ (i:Nat) (x:El),L[i]?=some x->(((t5 w L)[i]?.map λe=>e.1).getD 0)=n6 w x.2.1:=λi x h=>by refine b9 (a03 ..) ?_;refine b9 h ?_;rfl
 generalize hp:SetTable.probe t _ (n6 w k) (J7 t.mask (n6 w k) n)=met;rcases a54 l (ha:=λi=>((t5 w L)[i]?.map λe=>e.1).getD 0) hN hb d n (10 * SetTable.turns t.mask) e (c5n hl e) with ⟨g,no⟩ | ⟨j,i,x,h1,h2,h3,h4,h5,g,no⟩
 ·obtain rfl:met=_:=hp.symm.trans g;refine c7u (q2 λhm=>?_);refine i9 (List.mem_map.mp hm) λx hx1 hx2=>?_;refine B2 (hx x hx1 hx2) λi a1 a2 a3=>?_;refine eE (List.mem_iff_getElem?.mp hx1) λi' hi'=>?_;exact no i i' x a1 a2 hi' a3 (by refine b9 (hh i' x hi') ?_;refine b9 hx2 ?_;rfl)
 ·obtain rfl:met=_:=hp.symm.trans g;rw [hh i x h3] at h5;refine eA (ks x (c7w h3)) λkx rx=>?_;refine eE (a6g kx rx) λbx ebx=>?_;have rest:wpAny (model prog w) A (do
    let some (_,y):=(t5 w L)[i]? | unsupported "internal:set-entry"
    let equal<-holding [y] (eqBool y (.ref b))
    let (es',_,t')<-setState a
    if (true&&equal)=true then return .there none
    let some same:=t'.sameMemory t.moves t.mask | unsupported "set.changed-during-lookup:is-the-new-block-at-the-old-address"
    let still<-match (if same=true then t'.slot (J7 t.mask (n6 w k) j).j else .empty) with
     | .live i'=>match es'[i']? with
      | some (_,y')=>do pure (if (<- isSame y' y)=true then some i' else none)
      | none=>pure none
     | _=>pure none
    match still with
    | none=>do rule "set.search.anew";setSearchFrom a (.ref b) (n6 w k) true f none
    | some i'=>if equal=true then return .there (some i') else setSearchFrom a (.ref b) (n6 w k) true f (some (J7 t.mask (n6 w k) (j+1)))) Q E s:=by
   refine b9 (a03 ..) ?_;refine b9 h3 ?_;rw [ebx] at rx;dsimp only [Option.map_some];refine b9 ebx ?_;refine c7t (wpAny_holding ((kk prog w G).eqBool hu (a2w.is kx rx) (a2w.is hk r) ?_));refine c7t (K2 ho hd l ?_);by_cases c:x.2.1=k
   ·refine b9 (decide_eq_true c) ?_;exact c7u (q1 (List.mem_map.mpr ⟨x,c7w h3,c⟩))
   ·refine b9 (decide_eq_false c) ?_;simp only [Bool.and_false,Bool.false_eq_true,if_false];refine b9 (b0Z ..) ?_;simp only [if_true];refine t6 h4 ?_;refine b9 (l.live h3) ?_;dsimp only;refine b9 (a03 ..) ?_;refine b9 h3 ?_;dsimp only [Option.map_some];refine b9 ebx ?_;refine c7t (wpAny_isSame_ref_self (c7t (c7u ?_)));simp only [if_true];refine ih (N - (j+1)) (b6C e h1 h2) (j+1) f _ (b97 h2) (c1B e hf h1 h2) rfl λx' m1 m2=>?_
    refine B2 (hx x' m1 m2) λi' a1 a2 a3=>?_;refine ⟨i',?_,a2,a3⟩;refine eE (List.mem_iff_getElem?.mp m1) λi2 hi2=>?_;rcases Nat.lt_trichotomy i' j with q | rfl | q
    ·exact absurd (by refine b9 (hh i2 x' hi2) ?_;refine b9 m2 ?_;rfl) (no i' i2 x' a1 q hi2 a3)
    ·exact absurd m2 λe2=>by
      have:=l.live hi2;rw [a3,<-h4,l.live h3] at this;injection this with this
      subst this;rw [h3] at hi2;have q1:=A3 hi2;clear hi2;subst q1;exact c e2
    ·exact q
  dsimp only;cases hl:t.led with
  | true=>exact rest
  | false =>
   simp only [Bool.not_false,if_true];refine c7t (b0g hk r _ (λv hv=>?_) ?_)
   ·refine i9 (List.mem_map.mp hv) λe1 h1 q2=>?_;subst q2;have:=(Array.mem_filter.mp (Array.mem_toList_iff.mp h1)).1;rw [t5,<-Array.mem_toList_iff] at this;refine i9 (List.mem_map.mp this) λy hy q3=>?_;subst q3;refine eA (ks y hy) λk1 r1=>?_;refine eE (a6g k1 r1) λb1 e1=>?_;exact ⟨y.2.1,b1,e1,k1,e1▸r1⟩
   ·exact rest
end
end
section
open PySem
noncomputable abbrev Own:=Array (Option Nat)
noncomputable def Own.taken (o:Own) (j:Nat):Prop:=∃ i,o[j]?=some (some i)
theorem a9L {o:Own} (hs:o.size=m+1) (hj:j<=m):(o.getD j (some 0)).isNone=true\/o.taken j:=by
 refine b9 Array.getD_eq_getD_getElem? ?_;refine b9 (Array.getElem?_eq_getElem (c3h hs hj:j < o.size)) ?_;show (o[j]).isNone=true\/_;cases e:o[j] with
 | none=>exact .inl rfl
 | some i=>exact .inr ⟨i,by refine b9 (Array.getElem?_eq_getElem (c3h hs hj:j < o.size)) ?_;refine b9 e ?_;rfl⟩
theorem b5o {o:Own} (h:(o.getD j (some 0)).isNone=true):¬ o.taken j:=λ⟨i,e⟩=>by
 rw [Array.getD_eq_getD_getElem?,e] at h;cases h
theorem a93 {o:Own} {h:Int} (hs:o.size=m+1):∀ (f a n:Nat),J7 m h n=rs m (lps m h a)->(∃ b,a<=b/\b < a+f/\¬ o.taken (lps m h b).1) ->
  ∃ N,n<=N/\SetTable.layClean.free m o f (lps m h a).1 (lps m h a).2=some (J7 m h N).j/\¬ o.taken (J7 m h N).j/\∀ k,n<=k->k < N->o.taken (J7 m h k).j:=by
 intro f;induction f with
 | zero =>
  intro a n _ z19;refine B2 z19 λb h1 h2 _=>?_;clear z19;exact absurd h2 (c2p h1)
 | succ f ih =>
  intro a n e z20;refine B2 z20 λb h1 h2 h3=>?_;clear z20;have e0:SetTable.runEnd m (lps m h a).1+1 - (lps m h a).1=SetTable.runEnd m (lps m h a).1 - (lps m h a).1+1:=by
   unfold SetTable.runEnd;split <;> omega
  have run:∀ k,k<=SetTable.runEnd m (lps m h a).1 - (lps m h a).1->(J7 m h (n+k)).j=(lps m h a).1+k:=λk hk=>by refine b9 (b21 e k hk) ?_;rfl
  have le:∀ k,k<=SetTable.runEnd m (lps m h a).1 - (lps m h a).1->(lps m h a).1+k<=m:=λk hk=>by refine t6 (run k hk) ?_;exact a8b m h _
  unfold SetTable.layClean.free;refine b9 e0 ?_;cases q:(List.range (SetTable.runEnd m (lps m h a).1 - (lps m h a).1+1)).find? λk=>(o.getD ((lps m h a).1+k) (some 0)).isNone with
  | some k =>
   refine eAA (List.find?_range_eq_some.mp q) λq1 q2 q3=>?_;have hk:=List.mem_range.mp q2;refine ⟨n+k,by exact b4W,?_,?_,λk' a1 a2=>?_⟩
   ·dsimp only;refine b9 (run k (b6l hk)) ?_;rfl
   ·refine b9 (run k (b6l hk)) ?_;exact b5o q1
   ·have:=q3 (k' - n) (c3D a1 a2);refine t6 (Nat.add_sub_of_le a1) ?_;refine b9 (run (k' - n) (b6h hk a2)) ?_;exact (a9L hs (le _ (b6h hk a2))).resolve_left λz=>by rw [z] at this;cases this
  | none =>
   have all:∀ k,k<=SetTable.runEnd m (lps m h a).1 - (lps m h a).1->o.taken (J7 m h (n+k)).j:=λk hk=>by
    have:=List.find?_eq_none.mp q k (List.mem_range.mpr (c4i hk));refine b9 (run k hk) ?_;exact (a9L hs (le k hk)).resolve_left this
   have hb:b≠a:=λz=>h3 (by subst z;have:=all 0 (Nat.zero_le _);rw [run 0 (Nat.zero_le _)] at this;exact this)
   refine Q2 (ih (a+1) _ (a9n e) ⟨b,by exact c0d h1 hb,by exact c6p h2,h3⟩) λN n1 n2 n3 n4=>?_
   refine ⟨N,by exact c3P n1,n2,n3,λk a1 a2=>?_⟩
   by_cases c:k<=n+(SetTable.runEnd m (lps m h a).1 - (lps m h a).1)
   ·refine t6 (Nat.add_sub_of_le a1) ?_;exact all _ (c3q c)
   ·exact n4 k (c5B c) a2
structure OI (m:Nat) (hs:List Int) (o:Own):Prop where
 sz:o.size=m+1
 lt:∀ (j i:Nat),o[j]?=some (some i)->i < hs.length
 inj:∀ (j j' i:Nat),o[j]?=some (some i)->o[j']?=some (some i)->j=j'
 got:∀ (i:Nat) (h:Int),hs[i]?=some h->∃ n,o[(J7 m h n).j]?=some (some i)/\∀ k,k < n->o.taken (J7 m h k).j
theorem OI.nil (m:Nat):OI m [] (Array.replicate (m+1) none) where
 sz:=Array.size_replicate
 lt:=λj i e=>by
  rw [Array.getElem?_replicate] at e;split at e <;> cases e
 inj:=λj _ i e=>by
  rw [Array.getElem?_replicate] at e;split at e <;> cases e
 got:=λi h e=>nomatch e
theorem a4f {o:Own} (hj:j < o.size) (j':Nat):(o.setIfInBounds j (some i))[j']?=if j'=j then some (some i) else o[j']?:=by
 refine b9 Array.getElem?_setIfInBounds ?_;by_cases e:j'=j
 ·subst e;simp [hj]
 ·refine b9 (if_neg (λq=>e q.symm)) ?_;refine b9 (if_neg e) ?_;rfl
theorem OI.put {o:Own} (O:OI m hs o) (c:a0V m=true) (hl:hs.length<=m) (h:Int) :
  ∃ j,SetTable.layClean.free m o (SetTable.turns m) (SetTable.bits h % (m+1)) (SetTable.bits h)=some j/\OI m (hs++[h]) (o.setIfInBounds j (some hs.length)):=by
 have ex:∃ j,j<=m/\¬ o.taken j:=by
  refine Classical.byContradiction λq=>?_;have q:∀ j,j<=m->∃ i,o[j]?=some (some i):=λj hj=>Classical.byContradiction λz=>q ⟨j,hj,z⟩;have hsub:(List.range (m+1)).map (λj=>((o[j]?).getD none).getD 0) ⊆ List.range hs.length:=λi hi=>by
   refine i9 (List.mem_map.mp hi) λj hj q1=>?_;subst q1;refine eE (q j (Nat.le_of_lt_succ (List.mem_range.mp hj))) λi e=>?_;refine b9 e ?_;exact List.mem_range.mpr (O.lt j i e)
  have nd:((List.range (m+1)).map (λj=>((o[j]?).getD none).getD 0)).Nodup:=by
   refine List.Pairwise.map _ (λa b h=>h) (List.Pairwise.imp_of_mem (R:=λa b=>a≠b) (λ{a b} ha hb hne=>?_) List.nodup_range);refine eE (q a (Nat.le_of_lt_succ (List.mem_range.mp ha))) λi e=>?_;refine eE (q b (Nat.le_of_lt_succ (List.mem_range.mp hb))) λi' e'=>?_;refine b9 e ?_;refine b9 e' ?_
   rintro rfl
   exact hne (O.inj _ _ _ e e')
  have:=List.Nodup.length_le_of_subset nd hsub;rw [List.length_map,List.length_range,List.length_range] at this;exact c1C hl this
 refine i9 ex λj0 hj0 hn0=>?_;clear ex;unfold a0V at c;rw [List.all_eq_true] at c;have c1:=c _ (List.mem_range.mpr (b3K m h 13));rw [List.all_eq_true] at c1;refine i9 (b3H m h (m+1) 13 j0 (Nat.le_refl _) (List.contains_iff_mem.mp (c1 j0 (List.mem_range.mpr (b88 hj0))))) λr hr e=>?_;refine Q2 (a93 (h:=h) O.sz (SetTable.turns m) 0 0 rfl ⟨13+r,Nat.zero_le _,by unfold SetTable.turns;exact b9o hr,by refine b9 e ?_;exact hn0⟩) λN _ n2 n3 n4=>?_
 have hlt:(J7 m h N).j < o.size:=by refine b9 O.sz ?_;exact Nat.lt_succ_of_le (a8b m h N)
 have keep:∀ j',o.taken j'->∃ i,i < hs.length/\o[j']?=some (some i)/\(o.setIfInBounds (J7 m h N).j (some hs.length))[j']?=some (some i):=λj' ⟨i,e⟩ =>
  ⟨i,O.lt _ _ e,e,by rewrite [a4f hlt];refine b9 (if_neg (λq:j'=(J7 m h N).j=>n3 ⟨i,q▸e⟩)) ?_;exact e⟩
 refine ⟨_,n2,?_,λj i e=>?_,λj j' i e e'=>?_,λi h' e=>?_⟩
 ·refine b9 Array.size_setIfInBounds ?_;exact O.sz
 ·rw [a4f hlt] at e;refine b9 List.length_append ?_
  split at e
  ·cases e;show hs.length < hs.length+1;exact b7w
  ·have:=O.lt j i e;show i < hs.length+1;exact zo3 this
 ·rw [a4f hlt] at e e'
  split at e <;> split at e'
  ·rename_i a b;refine b9 a ?_;refine b9 b ?_;rfl
  ·cases e;exact absurd (O.lt _ _ e') (Nat.lt_irrefl _)
  ·cases e';exact absurd (O.lt _ _ e) (Nat.lt_irrefl _)
  ·exact O.inj _ _ _ e e'
 ·rcases Nat.lt_or_ge i hs.length with q | q
  ·rw [List.getElem?_append_left q] at e;refine i9 (O.got i h' e) λn g1 g2=>?_;refine B2 (keep _ ⟨i,g1⟩) λi' _ g3 g4=>?_;rw [g1] at g3;cases g3;exact ⟨n,g4,λk hk=>let ⟨i2,_,_,z⟩:=keep _ (g2 k hk);⟨i2,z⟩⟩
  ·rw [List.getElem?_append_right q] at e;obtain ⟨rfl,hq⟩:h=h'/\i=hs.length:=by
    cases z:i - hs.length with
    | zero=>rw [z] at e;exact ⟨Option.some.inj e,by exact c5A q z⟩
    | succ z'=>rw [z] at e;cases e
   subst hq;exact ⟨N,by rewrite [a4f hlt];refine b9 (if_pos rfl) ?_;rfl,λk hk=>let ⟨i2,_,_,z⟩:=keep _ (n4 k (Nat.zero_le _) hk);⟨i2,z⟩⟩
theorem b1N (c:a0V m=true):∀ (rest done:List Int) (o:Own),OI m done o->done.length+rest.length<=m ->
  ∃ o',(rest.foldl (λ(acc:Option (Own×Nat)) h=>do
   let (owner,k)<-acc
   let j<-SetTable.layClean.free m owner (SetTable.turns m) (SetTable.bits h % (m+1)) (SetTable.bits h)
   pure (owner.setIfInBounds j (some k),k+1)) (some (o,done.length)))=some (o',(done++rest).length)/\OI m (done++rest) o':=by
 intro rest;induction rest with
 | nil=>intro done o O _;exact ⟨o,by refine b9 (List.append_nil ..) ?_;rfl,by refine b9 (List.append_nil ..) ?_;exact O⟩
 | cons h rest ih =>
  intro done o O hl;refine i9 (O.put c (by simp at hl;exact b6P hl) h) λj e O'=>?_
  refine i9 (ih (done++[h]) _ O' (by simp at hl ⊢;exact b6B hl)) λo' e' O2=>?_
  refine ⟨o',?_,by simpa using O2⟩
  refine b9 List.foldl_cons ?_;rw [List.append_assoc] at e';refine Eq.trans (congrArg (rest.foldl _) ?_) e';show (do let j<-SetTable.layClean.free m o (SetTable.turns m) (SetTable.bits h % (m+1)) (SetTable.bits h);pure (o.setIfInBounds j (some done.length),done.length+1))=_
  refine b9 e ?_;refine b9 List.length_append ?_;rfl
theorem b09 (c:a0V m=true) (hs:List Int) (hl:hs.length<=m):∃ o,SetTable.layClean m hs.toArray=some o/\OI m hs o:=by
 refine i9 (b1N c hs [] _ (OI.nil m) (by simpa using hl)) λo e O=>?_
 refine ⟨o,?_,O⟩;unfold SetTable.layClean;refine b9 (List.foldl_toArray ..) ?_;exact congrArg (Option.map (·.1)) e
noncomputable def G3 (m:Nat) (o:Own):List (Nat×Nat):=(List.range (m+1)).filterMap λj=>(o.getD j none).map (j,·)
noncomputable def El0:El:=(0,.none,.none)
noncomputable def Z8 (L:List El) (v:List (Nat×Nat)):List El:=v.map λx=>(x.1,(L.getD x.2 El0).2)
theorem M9 {o:Own} (hs:o.size=m+1):(j,i)∈G3 m o↔o[j]?=some (some i):=by
 unfold G3;refine I9 (List.mem_filterMap ..) ?_;constructor
 ·rintro ⟨a,h1,h2⟩
  refine i9 (Option.map_eq_some_iff.mp h2) λb h3 h4=>?_;injection h4 with h4 h5
  subst h4;subst h5;rw [Array.getD_eq_getD_getElem?] at h3;cases e:o[a]? with
  | none=>rw [e] at h3;cases h3
  | some x=>rw [e] at h3;exact congrArg some h3
 ·intro e;refine ⟨j,List.mem_range.mpr ?_,?_⟩
  ·have:=Z4 e;exact c2K hs this
  ·refine b9 Array.getD_eq_getD_getElem? ?_;refine b9 e ?_;rfl
theorem a3b (m:Nat) (o:Own):(G3 m o).Pairwise λa b=>a.1 < b.1 :=
 List.Pairwise.filterMap _ (λa a' h b hb b' hb'=>by
  refine i9 (Option.map_eq_some_iff.mp hb) λ_ _ q2=>?_;subst q2;refine i9 (Option.map_eq_some_iff.mp hb') λ_ _ q11=>?_;subst q11;exact h) List.pairwise_lt_range
theorem b3W {o:Own} (O:OI m hs o):((G3 m o).map (·.2)).Nodup:=by
 refine List.Pairwise.map _ (λa b h=>h) (List.Pairwise.imp_of_mem (R:=λa b=>a.1 < b.1) (λ{a b} ha hb hne e=>?_) (a3b m o));have ha:=(M9 O.sz (j:=a.1) (i:=a.2)).mp ha;have hb:=(M9 O.sz (j:=b.1) (i:=b.2)).mp hb;rw [<- e] at hb;have:=O.inj _ _ _ ha hb;exact b8v hne this
theorem a5A {o:Own} (O:OI m hs o):((G3 m o).map (·.2)).Perm (List.range hs.length) :=
 (List.perm_ext_iff_of_nodup (b3W O) List.nodup_range).mpr λi=>⟨λhi=>by
   refine i9 (List.mem_map.mp hi) λq3 hx q4=>?_;obtain ⟨j,i⟩:=q3;subst q4;exact List.mem_range.mpr (O.lt _ _ ((M9 O.sz).mp hx)),λhi=>by
   have hi:=List.mem_range.mp hi;refine i9 (O.got i hs[i] (List.getElem?_eq_getElem hi)) λn e _=>?_;exact List.mem_map.mpr ⟨(_,i),(M9 O.sz).mpr e,rfl⟩⟩
theorem b3v {o:Own} (O:OI m hs o):(G3 m o).length=hs.length:=by
 have:=(a5A O).length_eq;rwa [c7x,List.length_range] at this
theorem a8k {o:Own} (O:OI m (L.map λx=>n6 w x.2.1) o) (nd:(L.map (·.2.1)).Nodup) (hm:m=31) (hl:L.length<=18):TI w m (Z8 L (G3 m o))/\(Z8 L (G3 m o)).length=L.length /\
  (∀ x∈Z8 L (G3 m o),∃ y∈L,y.2=x.2)/\(∀ y∈L,∃ x∈Z8 L (G3 m o),x.2=y.2)/\((G3 m o).map (·.2)).filterMap (λi=>(t5 w L)[i]?)=(t5 w (Z8 L (G3 m o))).toList:=by
 have at_:∀ j i,(j,i)∈G3 m o->∃ y,L[i]?=some y/\L.getD i El0=y:=λj i h=>by
  have:=O.lt _ _ ((M9 O.sz).mp h);rw [List.length_map] at this;exact ⟨L[i],List.getElem?_eq_getElem this,by refine b9 List.getD_eq_getElem?_getD ?_;refine b9 (List.getElem?_eq_getElem this) ?_;rfl⟩
 have ln:(Z8 L (G3 m o)).length=L.length:=by
  unfold Z8;refine b9 (c7x ..) ?_;refine b9 (b3v O) ?_;refine b9 (c7x ..) ?_;rfl
 have mp:(Z8 L (G3 m o)).map (·.1)=(G3 m o).map (·.1):=by unfold Z8;refine b9 List.map_map ?_;rfl
 have back:∀ y∈L,∃ x∈Z8 L (G3 m o),x.2=y.2:=λy hy=>by
  refine eE (List.mem_iff_getElem?.mp hy) λi hi=>?_;refine i9 (O.got i (n6 w y.2.1) (by refine b9 List.getElem?_map ?_;refine b9 hi ?_;rfl)) λn e _=>?_
  have hmem:=(M9 O.sz).mpr e;refine i9 (at_ _ _ hmem) λy' h1 h2=>?_;rw [hi] at h1;have q1:=A3 h1;clear h1;subst q1;exact ⟨_,List.mem_map.mpr ⟨_,hmem,rfl⟩,by show (L.getD i El0).2=_;refine b9 h2 ?_;rfl⟩
 refine ⟨⟨?_,?_,.inr ⟨hm,by refine b9 ln ?_;exact hl⟩,λx hx=>?_,λx hx=>?_⟩,ln,λx hx=>?_,back,?_⟩
 ·refine b9 mp ?_;exact List.Pairwise.map _ (λa b h=>h) (a3b m o)
 ·unfold Z8;refine b9 List.map_map ?_;refine List.Pairwise.map _ (λa b h=>h) (List.Pairwise.imp_of_mem (R:=λa b=>a.1 < b.1) (λ{a b} ha hb hne=>?_) (a3b m o));refine i9 (at_ a.1 a.2 ha) λx x1 x2=>?_;refine i9 (at_ b.1 b.2 hb) λy y1 y2=>?_;show (L.getD a.2 El0).2.1≠(L.getD b.2 El0).2.1;refine b9 x2 ?_;refine b9 y2 ?_;intro e;have hai:=List.getElem?_eq_some_iff.mp x1;have hbi:=List.getElem?_eq_some_iff.mp y1
  have:a.2=b.2:=(List.getElem?_inj (by simpa using hai.1) nd).mp (by refine b9 List.getElem?_map ?_;refine b9 List.getElem?_map ?_;refine b9 x1 ?_;refine b9 y1 ?_;exact congrArg some e)
  have h1:=(M9 O.sz (j:=a.1) (i:=a.2)).mp ha;have h2:=(M9 O.sz (j:=b.1) (i:=b.2)).mp hb;rw [<- this] at h2;have:=O.inj _ _ _ h1 h2;exact b8v hne this
 ·refine i9 (List.mem_map.mp hx) λq5 h1 q6=>?_;obtain ⟨j,i⟩:=q5;subst q6;have:=Z4 ((M9 O.sz).mp h1);rw [O.sz] at this;exact Nat.le_of_lt_succ this
 ·refine i9 (List.mem_map.mp hx) λq7 h1 q8=>?_;obtain ⟨j,i⟩:=q7;subst q8;refine i9 (at_ _ _ h1) λy y1 y2=>?_;refine i9 (O.got i (n6 w y.2.1) (by refine b9 List.getElem?_map ?_;refine b9 y1 ?_;rfl)) λn e tk=>?_
  have hj:=O.inj _ _ _ e ((M9 O.sz).mp h1);dsimp only;refine b9 y2 ?_;refine ⟨n,hj,λk hk=>?_⟩;refine eE (tk k hk) λi' e'=>?_;refine b9 mp ?_;exact List.mem_map.mpr ⟨_,(M9 O.sz).mpr e',rfl⟩
 ·refine i9 (List.mem_map.mp hx) λq9 h1 q10=>?_;obtain ⟨j,i⟩:=q9;subst q10;refine i9 (at_ _ _ h1) λy y1 y2=>?_;exact ⟨y,c7w y1,by show _=(L.getD i El0).2;refine b9 y2 ?_;rfl⟩
 ·have key:∀ l:List (Nat×Nat),(∀ x∈l,x∈G3 m o)->(l.map (·.2)).filterMap (λi=>(t5 w L)[i]?)=(t5 w (Z8 L l)).toList:=by
   intro l;induction l with
   | nil=>intro _;rfl
   | cons x l ih =>
    intro h;refine i9 (at_ x.1 x.2 (h x (List.mem_cons_self))) λy y1 y2=>?_;refine b9 List.map_cons ?_;refine b9 (List.filterMap_cons_some (b:=(n6 w y.2.1,y.2.2)) (by refine b9 (a03 ..) ?_;refine b9 y1 ?_;rfl)) ?_;refine b9 (ih λz hz=>h z (List.mem_cons_of_mem _ hz)) ?_
    show _=(n6 w (L.getD x.2 El0).2.1,(L.getD x.2 El0).2.2) :: _;refine b9 y2 ?_;rfl
  exact key _ λx h=>h
end
variable {Q:C0} {xs:List d8} {e:Ev}
section
open PySem PySem.W PyProof.Rows PySem.Calls
open Classical
section
variable {prog:Program} {w:World} {G:Gi}
theorem b1n:∀ n k,B8 n k=true->∀ (j:Nat) (A:Around) (E:Value->Shared->Prop) (s:Shared) (v:Value) (Q:Bool->Shared->Prop),i8 G s.heap k v->(∀ b,Q b s) ->
  wpAny (model prog w) A (hashByValue (n+j) v) Q E s:=by
 refine W1 (λn i j A E s v Q r q=>?_) (λn i j A E s v Q r q=>?_) λn l ih h j A E s v Q r q=>?_
 ·refine eE (N0 r) λt q1=>?_;subst q1;refine b9 (hashByValue_scannable _ rfl) ?_;exact c7u (q _)
 ·refine eE (a1h r) λt q2=>?_;subst q2;refine b9 (hashByValue_scannable _ rfl) ?_;exact c7u (q _)
 ·replace r:=Y0 r;revert r;intro q4;refine k8 q4 λa vs q3 t r=>?_;clear q4;subst q3;have hT:=a0O t;refine S8 t λo ho _ z hd=>?_;clear t;refine b9 (show n+1+j=n+j+1 from Nat.add_right_comm n 1 j) ?_;unfold hashByValue;refine c7t (wpAny_specialOf hT PySem.F.slot_tuple_hash.lookup ?_);dsimp only;refine c7t (wpAny_seqItems ho hd ?_);refine c7t (a4F (λ_=>True) h r trivial (λy u b hy ry _=>?_) λb _=>?_)
  ·refine c7t (ih y hy j _ _ _ _ _ ry λb=>?_);cases b
   ·exact c7u (c7u (q _))
   ·exact c7u ⟨rfl,trivial⟩
  ·obtain ⟨_ | b,_⟩:=b <;> exact c7u (q _)
structure a46 (w:World) (t:SetTable) (L:List El) (k:d8) (b:Value) (j:Nat) (t1:SetTable) (p:Nat) (L':List El):Prop where
 pl:t1.place.toList=L'.map (·.1)
 mask:t1.mask=t.mask
 dum:t1.dummies=#[]
 es:SetTable.insertAt (t5 w L) p (n6 w k,b)=t5 w L'
 len:L'.length=L.length+1
 mem:∀ x,x∈L'↔x∈L\/x=(j,k,b)
 nod:(L'.map (·.2.1)).Nodup
 ti:((t.mask=7/\L.length < 4)\/(t.mask=31/\L.length < 18))->TI w t.mask L'
 led:t1.led=t.led
 plain:t1.plain=t.plain
theorem a46.fill {t t1:SetTable} {L L':List El} {b:Value} {j p:Nat} (P:a46 w t L k b j t1 p L'):t1.fill=L.length+1:=by
 unfold SetTable.fill;refine b9 P.dum ?_;refine t6 Array.length_toList ?_;refine b9 P.pl ?_;refine b9 (c7x ..) ?_;refine b9 P.len ?_;rfl
theorem a46.keys {t t1:SetTable} {L L':List El} {b:Value} {j p:Nat} (P:a46 w t L k b j t1 p L') (v:d8):v∈L'.map (·.2.1)↔v∈L.map (·.2.1)\/v=k:=by
 simp only [List.mem_map];constructor
 ·rintro ⟨x,hx,rfl⟩
  rcases (P.mem x).mp hx with q | rfl
  ·exact .inl ⟨x,q,rfl⟩
  ·exact .inr rfl
 ·rintro (⟨x,hx,rfl⟩ | rfl)
  ·exact ⟨x,(P.mem x).mpr (.inl hx),rfl⟩
  ·exact ⟨_,(P.mem _).mpr (.inr rfl),rfl⟩
theorem a46.from {t t1:SetTable} {L L':List El} {b:Value} {j p:Nat} (P:a46 w t L k b j t1 p L') (x:El) (hx:x∈L'):(∃ y∈L,y.2=x.2)\/x.2=(k,b) :=
 ((P.mem x).mp hx).elim (λq=>.inl ⟨x,q,rfl⟩) λq=>.inr (by refine b9 q ?_;rfl)
theorem a7E {b:Value} {N:Nat} (l:a0C w t L) (hk:k∉L.map (·.2.1)) (hN:(J7 t.mask (n6 w k) N).j∉L.map (·.1)) (hb:∀ j,j < N->(J7 t.mask (n6 w k) j).j∈L.map (·.1)) :
  ∃ L',a46 w t L k b (J7 t.mask (n6 w k) N).j (t.put (J7 t.mask (n6 w k) N).j).1 (t.put (J7 t.mask (n6 w k) N).j).2 L':=by
 generalize hj:(J7 t.mask (n6 w k) N).j=j at hN ⊢;have rise:=l.ti.rise;rw [<- l.place] at rise;refine eAA (a0S rise j) λp1 p2 p3=>?_;have hd:SetTable.has t.dummies j=false:=by refine b9 l.dum ?_;rfl
 have e1:t.put j=({t with place:=SetTable.insertAt t.place (SetTable.below t.place j) j},SetTable.below t.place j):=by
  unfold SetTable.put;refine b9 hd ?_;rfl
 refine b9 e1 ?_;generalize SetTable.below t.place j=p at p1 p2 p3;have e2:(SetTable.insertAt t.place p j).toList=(L.take p++(j,k,b) :: L.drop p).map (·.1):=by
  refine b9 (a0m ..) ?_;refine b9 l.place ?_;refine b9 List.map_append ?_;refine b9 List.map_cons ?_;refine b9 List.map_take ?_;refine b9 List.map_drop ?_;rfl
 have mem:∀ x:El,x∈L.take p++(j,k,b) :: L.drop p↔x∈L\/x=(j,k,b):=λx=>by
  conv=>rhs;rw [<- List.take_append_drop p L]
  refine I9 (List.mem_append ..) ?_;refine I9 (List.mem_append ..) ?_;refine I9 (List.mem_cons ..) ?_;constructor
  ·rintro (h | h | h)
   ·exact .inl (.inl h)
   ·exact .inr h
   ·exact .inl (.inr h)
  ·rintro ((h | h) | h)
   ·exact .inl h
   ·exact .inr (.inr h)
   ·exact .inr (.inl h)
 have nod:((L.take p++(j,k,b) :: L.drop p).map (·.2.1)).Nodup:=by
  have p0:((L.take p++(j,k,b) :: L.drop p).map (·.2.1)).Perm (k :: L.map (·.2.1)):=by
   have:=(List.perm_middle (a:=(j,k,b)) (l₁:=L.take p) (l₂:=L.drop p)).map (λx:El=>x.2.1);rw [List.take_append_drop] at this;exact this
  exact p0.nodup_iff.mpr (List.nodup_cons.mpr ⟨hk,l.ti.nod⟩)
 have len:(L.take p++(j,k,b) :: L.drop p).length=L.length+1:=by
  refine b9 List.length_append ?_;refine b9 List.length_cons ?_;refine b9 List.length_take ?_;refine b9 List.length_drop ?_;have:t.place.size=L.length:=by refine t6 Array.length_toList ?_;refine b9 l.place ?_;refine b9 (c7x ..) ?_;rfl
  exact b9n
 refine ⟨_,e2,rfl,l.dum,?_,len,mem,nod,λhs=>⟨?_,nod,?_,λx hx=>?_,λx hx=>?_⟩,rfl,rfl⟩
 ·apply Array.toList_inj.mp;refine b9 (a0m ..) ?_;simp only [t5,List.map_append,List.map_cons,List.map_take,List.map_drop]
 ·refine t6 e2 ?_;refine b9 (a0m ..) ?_;have q1:∀ x∈t.place.toList.take p,x < j:=λx hx=>by
   refine eE (List.mem_iff_getElem?.mp hx) λi hi=>?_;rw [List.getElem?_take] at hi
   split at hi
   ·rename_i c;have:=p2 i c;rw [Array.getElem?_toList] at hi;rw [getD_some hi] at this;exact this
   ·cases hi
  have q2:∀ x∈t.place.toList.drop p,j < x:=λx hx=>by
   refine eE (List.mem_iff_getElem?.mp hx) λi hi=>?_;rw [List.getElem?_drop,Array.getElem?_toList] at hi;have:=p3 (p+i) (b4W) (Z4 hi);rw [getD_some hi] at this;refine Nat.lt_of_le_of_ne this λe=>hN ?_;refine t6 l.place ?_;refine b9 e ?_;exact Array.mem_toList_iff.mpr (Array.mem_of_getElem? hi)
  rw [<- List.take_append_drop p t.place.toList,List.pairwise_append] at rise;refine List.pairwise_append.mpr ⟨rise.1,List.pairwise_cons.mpr ⟨q2,rise.2.1⟩,λx hx y hy=>?_⟩;rcases List.mem_cons.mp hy with rfl | hy
  ·exact q1 x hx
  ·exact rise.2.2 x hx y hy
 ·refine b9 len ?_;exact c3u hs
 ·rcases (mem x).mp hx with h | rfl
  ·exact l.ti.le x h
  ·refine t6 hj ?_;exact a8b _ _ _
 ·have up:∀ n,n∈L.map (·.1)->n∈(L.take p++(j,k,b) :: L.drop p).map (·.1):=λn h=>by
   refine i9 (List.mem_map.mp h) λy y1 y2=>?_;exact List.mem_map.mpr ⟨y,(mem y).mpr (.inl y1),y2⟩
  rcases (mem x).mp hx with h | rfl
  ·refine i9 (l.ti.reach x h) λn a c=>?_;exact ⟨n,a,λi hi=>up _ (c i hi)⟩
  ·exact ⟨N,hj,λi hi=>up _ (hb i hi)⟩
end
end
variable {o:Z5} {j:Int}
section
open PySem PySem.W PyProof.Rows PySem.Calls
open Classical
section
variable {prog:Program} {w:World} {G:Gi}
structure c0D (w:World) (t:SetTable) (L:List El) (t':SetTable) (order:Array Nat) (L':List El):Prop where
 rel:t.relaid ((t5 w L).map (·.1)) 20=some (t',order)
 laid:a0C w t' L'
 es:order.filterMap (λi=>(t5 w L)[i]?)=t5 w L'
 led:t'.led=t.led
 plain:t'.plain=t.plain
 perm:order.toList.Perm (List.range L.length)
 len:L'.length=L.length
 fro:∀ x∈L',∃ y∈L,y.2=x.2
 til:∀ y∈L,∃ x∈L',x.2=y.2
theorem a7l (nd:(L.map (·.2.1)).Nodup) (hl:L.length=5):∃ t' order L',c0D w t L t' order L':=by
 refine i9 (b09 a6U (L.map λx=>n6 w x.2.1) (by simp [hl])) λo e O=>?_
 refine a3R (a8k O nd rfl (c1X hl)) λT ln a b c=>?_;have eh:(t5 w L).map (·.1)=(L.map λx=>n6 w x.2.1).toArray:=by
  simp only [t5,List.map_toArray,List.map_map];rfl
 refine ⟨⟨31,((G3 31 o).map (·.1)).toArray,#[],t.finger,t.led,t.movedTo 31,t.plain⟩,((G3 31 o).map (·.2)).toArray,Z8 L (G3 31 o),?_,⟨T,?_,rfl⟩,?_,rfl,rfl,by have:=a5A O;rwa [c7x] at this,ln,a,b⟩
 ·unfold SetTable.relaid SetTable.laid;refine b9 eh ?_;show (do let owner<-SetTable.layClean 31 _;_)=_
  refine b9 e ?_;rfl
 ·show (G3 31 o).map (·.1)=_;unfold Z8;refine b9 List.map_map ?_;rfl
 ·refine b9 List.filterMap_toArray ?_;refine b9 c ?_;refine b9 Array.toArray_toList ?_;rfl
theorem a2N {o:Obj} {es es':Array (Int×Value)} {t t':SetTable} (ho:h.get? a=some o) (hd:o.data=.set es ep t) :
  (h.update a (Obj.putSet es' t')).get? a=some {o with data:=.set es' (ep+1) t'}:=by
 have:=Heap.get?_update_self (Obj.putSet es' t') ho (by refine b9 (putSet_of es' t' hd) ?_;rfl)
 rw [putSet_of es' t' hd] at this;exact this
theorem a5y {h h':Heap} {o:Obj} {es:Array (Int×Value)} (ho:h.get? a=some o) (hd:o.data=.set es ep t) (hs:Heap.SameBut a h h') (x:i8 G h k v):i8 G h' k v :=
 x.mono λb vs t=>by
  refine S8 t λo' ho' hc z hd'=>?_;clear t;refine ⟨o',(hs.2 b ?_).trans ho',hc,z,hd'⟩
  rintro rfl
  rw [ho] at ho';have q1:=A3 ho';clear ho';subst q1;rw [hd] at hd';cases hd'
noncomputable def a9V (w:World) (G:Gi) (K:d8->Bool) (s:Shared) (a:Addr) (L:List El) (k:d8) (v:Value) (Q:Bool->Shared->Prop):Prop :=
 ∀ L' h',Heap.SameBut a s.heap h'->a09 w G K h' a L'->(∀ u,u∈L'.map (·.2.1)↔u∈L.map (·.2.1)\/u=k)->(∀ x∈L',(∃ y∈L,y.2=x.2)\/x.2=(k,v))->∀ b,Q b {s with heap:=h'}
section
variable {K:d8->Bool} {s:Shared} {a:Addr} {k:d8} {v:Value} {L L' L2:List El} {Q:Bool->Shared->Prop} {o:Obj} {ep j p:Nat} {t t1 t2 t':SetTable} {ord:Array Nat}
theorem a9C (P:a46 w t L k v j t1 p L') (ho:s.heap.get? a=some o) (hd:o.data=.set (t5 w L) ep t) (ks:∀ x∈L,K x.2.1=true/\i8 G s.heap x.2.1 x.2.2) (hk:K k=true) (r:i8 G s.heap k v) {h':Heap} (hs:Heap.SameBut a s.heap h') (x:El) (hx:x∈L'):K x.2.1=true/\i8 G h' x.2.1 x.2.2:=by
 rcases (P.mem x).mp hx with q | rfl
 ·exact ⟨(ks x q).1,a5y ho hd hs (ks x q).2⟩
 ·exact ⟨hk,a5y ho hd hs r⟩
theorem a7k (h:a9V w G K s a L k v Q) (P:a46 w t L k v j t1 p L') (ho:s.heap.get? a=some o) (hex:o.ExactSet) (hd:o.data=.set (t5 w L) ep t) (ks:∀ x∈L,K x.2.1=true/\i8 G s.heap x.2.1 x.2.2) (hk:K k=true) (r:i8 G s.heap k v)
  (d1:t2.place=t1.place) (d2:t2.mask=t.mask) (d3:t2.dummies=#[]) (d5:Md w K t2) (cs:(t.mask=7/\L.length < 4)\/(t.mask=31/\L.length < 18)) (b:Bool):Q b {s with heap:=s.heap.update a (Obj.putSet (t5 w L') t2)} :=
 have sb:=Heap.SameBut.update s.heap a (Obj.putSet (t5 w L') t2)
 h L' _ sb ⟨⟨_,_,t2,a2N ho hd,hex,rfl,⟨d2▸P.ti cs,by refine b9 d1 ?_;exact P.pl,d3⟩,d5⟩,a9C P ho hd ks hk r sb⟩ P.keys P.from b
theorem a7c (h:a9V w G K s a L k v Q) (P:a46 w t L k v j t1 p L') (N:c0D w t2 L' t' ord L2) (ho:s.heap.get? a=some o) (hex:o.ExactSet) (hd:o.data=.set (t5 w L) ep t) (ks:∀ x∈L,K x.2.1=true/\i8 G s.heap x.2.1 x.2.2) (hk:K k=true) (r:i8 G s.heap k v) (d5:Md w K t2) (b:Bool) :
  Q b {s with heap:=(s.heap.update a (Obj.putSet (t5 w L') t2)).update a (Obj.putSet (t5 w L2) t')}:=by
 have sb:=(Heap.SameBut.update s.heap a (Obj.putSet (t5 w L') t2)).trans (Heap.SameBut.update (s.heap.update a (Obj.putSet (t5 w L') t2)) a (Obj.putSet (t5 w L2) t'));refine h L2 _ sb ⟨⟨_,_,t',a2N (a2N ho hd) rfl,hex,rfl,N.laid,⟨N.led.trans d5.led,λq=>N.plain.trans (d5.plain q)⟩⟩,λx hx=>?_⟩ (λv=>?_) (λx hx=>?_) b
 ·refine i9 (N.fro x hx) λy y1 y2=>?_;refine t6 y2 ?_;exact a9C P ho hd ks hk r sb y y1
 ·rewrite [<- P.keys];simp only [List.mem_map];constructor
  ·rintro ⟨x,hx,rfl⟩
   refine i9 (N.fro x hx) λy y1 y2=>?_;exact ⟨y,y1,by refine b9 y2 ?_;rfl⟩
  ·rintro ⟨y,hy,rfl⟩
   refine i9 (N.til y hy) λx x1 x2=>?_;exact ⟨x,x1,by refine b9 x2 ?_;rfl⟩
 ·refine i9 (N.fro x hx) λy y1 y2=>?_;refine t6 y2 ?_;exact P.from y y1
end
theorem b5f {a b:Addr} {Q:Bool->Shared->Prop} (hu:A.units+64 < cLine) (S:a09 w G a2w s.heap a L) (hlen:L.length < 18) (hk:a2w k=true) (r:i8 G s.heap k (.ref b))
  (h:a9V w G a2w s a L k (.ref b) Q) :
  wpAny (model prog w) A (setAddHashed a (.ref b) (n6 w k)) Q E s:=by
 obtain ⟨⟨o,ep,t,ho,hex,hd,l,md⟩,ks⟩:=S;refine B2 (l.ti.free (n6 w k)) λN n1 n2 n3=>?_;have n4:10 * SetTable.turns t.mask < 100000:=by unfold SetTable.turns;rcases l.ti.size with ⟨e,_⟩ | ⟨e,_⟩ <;> omega
 unfold setAddHashed setAddHashedIn;refine wpAny_holding (c7t (K2 ho hd l ?_));dsimp only;refine b9 (show byScan (.ref b) (t5 w L)=false from rfl) ?_;simp only [Bool.false_eq_true,if_false];refine c7t (a97 hu ho hd l ks hk r n2 n3 n1 (λhm=>?_) (λhm=>?_) N 0 100000 none (Nat.zero_add _) (c4z n1 n4) rfl λx hx e=>?_)
 ·exact c7u (h L s.heap (Heap.SameBut.refl a s.heap) ⟨⟨o,ep,t,ho,hex,hd,l,md⟩,ks⟩ (λv=>⟨.inl,λz=>z.elim id λe=>e▸hm⟩) (λx hx=>.inl ⟨x,hx,rfl⟩) _)
 ·refine c7t (K2 ho hd l ?_);refine eE (a7E (b:=.ref b) l hm n2 n3) λL' P=>?_;dsimp only;refine b9 P.es ?_;generalize (t.put (J7 t.mask (n6 w k) N).j).1=t1 at P;generalize (t.put (J7 t.mask (n6 w k) N).j).2=p at P;have tail:∀ b2,wpAny (model prog w) A (do
    storeSet a (t5 w L') (if b2=true then t1 else {t1 with plain:=false})
    if (!false&&(if b2=true then t1 else {t1 with plain:=false}).tooFull)=true then setRelay a (SetTable.grown ((t5 w L).size+1))
    return true) Q E s:=λb2=>by
   generalize ht2:(if b2=true then t1 else {t1 with plain:=false})=t2
   have d1:t2.place=t1.place:=by refine t6 ht2 ?_;cases b2 <;> rfl
   have d2:t2.mask=t.mask:=by (refine t6 P.mask ?_;refine t6 ht2 ?_);cases b2 <;> rfl
   have d3:t2.dummies=#[]:=by (refine t6 P.dum ?_;refine t6 ht2 ?_);cases b2 <;> rfl
   have d5:Md w a2w t2:=⟨by (refine t6 md.led ?_;refine t6 P.led ?_;refine t6 ht2 ?_);cases b2 <;> rfl,λq=>absurd (q (.tup []) rfl) (λe=>nomatch e)⟩
   have d4:t2.fill=L.length+1:=by refine t6 P.fill ?_;unfold SetTable.fill;refine b9 d1 ?_;refine b9 d3 ?_;refine b9 P.dum ?_;rfl
   have z1:(t5 w L').size<=sizeLine:=by refine b9 (s0 ..) ?_;refine b9 P.len ?_;refine b9 sizeLine_eq ?_;exact c3m hlen
   refine c7t (wpAny_storeSet_of ho hd ?_ z1);have g1:=a2N (es':=t5 w L') (t':=t2) ho hd;unfold SetTable.tooFull;refine b9 d4 ?_;refine b9 d2 ?_;by_cases cs:t.mask=7/\L.length=4
   ·refine b9 cs.1 ?_;refine b9 cs.2 ?_;have e5:SetTable.grown ((t5 w L).size+1)=20:=by refine b9 (s0 ..) ?_;refine b9 cs.2 ?_;rfl
    refine b9 e5 ?_;show wpAny _ _ (do setRelay a 20;pure true) _ _ _
    obtain ⟨t',ord,L2,NR⟩:=a7l (t:=t2) P.nod (by refine b9 P.len ?_;refine b9 cs.2 ?_;rfl)
    have ft:t2.fits (t5 w L').size=true:=by
     unfold SetTable.fits;refine b9 d4 ?_;refine b9 d2 ?_;refine b9 d1 ?_;refine b9 (s0 ..) ?_;refine b9 P.len ?_;refine t6 Array.length_toList ?_;refine b9 P.pl ?_;refine b9 (c7x ..) ?_;refine b9 P.len ?_;refine b9 cs.1 ?_;refine b9 cs.2 ?_;rfl
    refine c7t ?_;unfold setRelay;refine c7t (wpAny_setState_of g1 rfl ft ?_);show wpAny _ _ (do
     let (es,t)<-(do
      let some (t,order):=t2.relaid ((t5 w L').map (·.1)) 20 | unsupported "internal:set-table-without-room"
      let es':=order.filterMap ((t5 w L')[·]?)
      if es'.size != (t5 w L').size then unsupported "internal:set-table-lost-an-element"
      pure (es',t))
     storeSet a es t) _ _ _
    refine b9 NR.rel ?_;dsimp only;refine b9 NR.es ?_;have ne:((t5 w L2).size != (t5 w L').size)=false:=by refine b9 (s0 ..) ?_;refine b9 (s0 ..) ?_;refine b9 NR.len ?_;simp
    refine b9 ne ?_;simp only [Bool.false_eq_true,if_false];refine c7t (c7u (wpAny_storeSet_of g1 rfl (c7u (a7c h P NR ho hex hd ks hk r d5 _)) (by refine b9 (s0 ..) ?_;refine b9 NR.len ?_;refine b9 P.len ?_;refine b9 sizeLine_eq ?_;exact c5J cs)))
   ·have cs':(t.mask=7/\L.length < 4)\/(t.mask=31/\L.length < 18):=by rcases l.ti.size with ⟨p,q⟩ | ⟨p,q⟩ <;> omega
    have nf:decide ((L.length+1) * 5>=t.mask * 3)=false:=decide_eq_false (by rcases cs' with ⟨p,q⟩ | ⟨p,q⟩ <;> omega)
    refine b9 nf ?_;exact c7u (a7k h P ho hex hd ks hk r d1 d2 d3 d5 cs' _)
  split
  ·refine c7t (b1n 3 _ (Bool.and_eq_true_iff.mp hk).2 5 _ _ _ _ _ r λb2=>tail b2)
  ·exact c7t (c7u (tail true))
 ·refine i9 (l.ti.reach x hx) λn a1 a2=>?_;rw [e] at a1 a2;refine ⟨n,Nat.zero_le _,?_,a1.symm⟩;rcases Nat.lt_trichotomy n N with q | rfl | q
  ·exact q
  ·exact absurd (List.mem_map.mpr ⟨x,hx,a1.symm⟩) n2
  ·exact absurd (a2 N q) n2
end
section
variable {prog:Program} {w:World} {G:Gi}
noncomputable def a8w (v:d8):Bool:=x9 v==0
theorem a1D (x:a8w k=true) (r:i8 G h k v):∃ i t,k=.int i/\v=.int i t:=by
 refine eE (a0x (eq_of_beq x)) λi q2=>?_;subst q2;replace r:=N0 r;refine eE r λt q1=>?_;clear r;subst q1;exact ⟨i,t,rfl,rfl⟩
theorem b5u {v:Value} {N:Nat} (l:a0C w t L) (hN:(J7 t.mask (n6 w k) N).j∉L.map (·.1)) (hb:∀ j,j < N->(J7 t.mask (n6 w k) j).j∈L.map (·.1)) (hl:N < 10 * SetTable.turns t.mask) :
  t.freeSlot (n6 w k)=some ((J7 t.mask (n6 w k) N).j,false):=by
 unfold SetTable.freeSlot;have:t.probe (λ_=>n6 w k+1) (n6 w k) (t.probeStart (n6 w k))=some (.empty (J7 t.mask (n6 w k) N).j none):=by
  rcases a54 l (ha:=λ_=>n6 w k+1) hN hb N 0 (10 * SetTable.turns t.mask) (Nat.zero_add _) hl with ⟨g,_⟩ | ⟨_,_,_,_,_,_,_,h5,_⟩
  ·exact g
  ·exact (b9W h5).elim
 refine b9 this ?_;rfl
theorem b2i {Q:Bool->Shared->Prop} (S:a09 w G a8w s.heap a L) (hlen:L.length < 18) (hk:a8w k=true) (r:i8 G s.heap k v)
  (h:a9V w G a8w s a L k v Q) :
  wpAny (model prog w) A (setAddHashed a v (n6 w k)) Q E s:=by
 obtain ⟨⟨o,ep,t,ho,hex,hd,l,md⟩,ks⟩:=S;refine B2 (l.ti.free (n6 w k)) λN n1 n2 n3=>?_;refine A6 (a1D hk r) λi tk q3 q4=>?_;subst q3;subst q4;have hi:(intKind prog w).is i (.int i tk)=true:=intKind_is _ _ _ _;have hh:n6 w (.int i)=(intKind prog w).hash i:=rfl;have hel:ElemsOf (intKind prog w) (t5 w L).toList:=λe he=>by
  refine i9 (List.mem_map.mp he) λx hx q5=>?_;subst q5;refine A6 (a1D (ks x hx).1 (ks x hx).2) λi' t' e1 e2=>?_;dsimp only;refine b9 e1 ?_;refine b9 e2 ?_;exact ⟨⟨i',intKind_is _ _ _ _,rfl⟩,rfl⟩
 have hf:t.fits (t5 w L).size=true:=by refine b9 (s0 ..) ?_;exact l.fits
 unfold setAddHashed setAddHashedIn;refine wpAny_holding (c7t (K2 ho hd l ?_));dsimp only;refine b9 (byScan_of rfl (by refine b9 (s0 ..) ?_;unfold scanBound;exact c1o hlen) hel) ?_
 simp only [if_true];unfold setAddByScan;refine c7t ?_;refine c7t (wpAny_rule ?_);refine b9 hh ?_;refine c7t (wpAny_setScan_of hi ho hd hf hel ?_);refine t6 hh ?_;have mem:∀ x∈L,(intKind prog w).is i x.2.2=true->x.2.1=.int i:=λx hx e=>by
  refine A6 (a1D (ks x hx).1 (ks x hx).2) λi' t' e1 e2=>?_;rw [e2] at e;refine b9 e1 ?_;refine b9 ((intKind prog w).inj _ _ _ e (intKind_is _ _ _ _)) ?_;rfl
 cases hr:List.findIdx? (λe:Int×Value=>(intKind prog w).is i e.2) (t5 w L).toList with
 | some j =>
  refine i9 (List.findIdx?_eq_some_iff_getElem.mp hr) λhj hpj _=>?_;have hm:d8.int i∈L.map (·.2.1):=by
   refine i9 (List.mem_map.mp (List.getElem_mem hj)) λx hx e=>?_;rw [<- e] at hpj;exact List.mem_map.mpr ⟨x,hx,mem x hx hpj⟩
  exact c7u (c7u (h L s.heap (Heap.SameBut.refl a s.heap) ⟨⟨o,ep,t,ho,hex,hd,l,md⟩,ks⟩ (λv=>⟨.inl,λz=>z.elim id λe=>e▸hm⟩) (λx hx=>.inl ⟨x,hx,rfl⟩) _))
 | none =>
  have hm:d8.int i∉L.map (·.2.1):=λhm=>by
   refine i9 (List.mem_map.mp hm) λx hx e=>?_;refine A6 (a1D (ks x hx).1 (ks x hx).2) λi' t' e1 e2=>?_;have:=List.findIdx?_eq_none_iff.mp hr (n6 w x.2.1,x.2.2) (List.mem_map.mpr ⟨x,hx,rfl⟩);rw [e1] at e;injection e with e
   rw [e2,e,intKind_is] at this;cases this
  refine eE (a7E (b:=.int i tk) l hm n2 n3) λL' P=>?_;have eL:layNew t (t5 w L) (n6 w (.int i)) (.int i tk)=(t5 w L',(t.put (J7 t.mask (n6 w (.int i)) N).j).1.orStandIn (t5 w L').size,false,!(t.put (J7 t.mask (n6 w (.int i)) N).j).1.fits (t5 w L').size):=by
   unfold layNew;refine b9 (b5u (v:=.int i tk) l n2 n3 n1) ?_;dsimp only;refine t6 P.es ?_;rfl
  generalize hL:layNew t (t5 w L) (n6 w (.int i)) (.int i tk)=LL;rw [hL] at eL;clear hL;generalize (t.put (J7 t.mask (n6 w (.int i)) N).j).1=t1 at P eL;generalize (t.put (J7 t.mask (n6 w (.int i)) N).j).2=p at P;have fl:=P.fill;have ft:t1.fits (t5 w L').size=true:=by
   unfold SetTable.fits;refine b9 fl ?_;refine b9 P.mask ?_;refine b9 (s0 ..) ?_;refine b9 P.len ?_;refine t6 Array.length_toList ?_;refine b9 P.pl ?_;refine b9 (c7x ..) ?_;refine b9 P.len ?_;simp only [beq_self_eq_true,Bool.true_and,decide_eq_true_eq];rcases l.ti.size with ⟨p,q⟩ | ⟨p,q⟩ <;> omega
  have ft':t1.orStandIn (t5 w L').size=t1:=by unfold SetTable.orStandIn;refine b9 ft ?_;rfl
  rw [ft',ft] at eL;subst eL;have pl:t1.plain=true:=by refine b9 P.plain ?_;exact md.plain λv q=>eq_of_beq q
  have d5:Md w a8w t1:=⟨P.led.trans md.led,λ_=>pl⟩;show wpAny _ _ (do
   pure ()
   let byValue<-if t1.plain=true then hashByValue 8 (.int i tk) else pure true
   let t2:=if byValue=true then t1 else {t1 with plain:=false}
   storeSet a (t5 w L') t2
   if (!false&&t2.tooFull)=true then do
    let (es,t,gave):=relayAll t2 (t5 w L') (SetTable.grown (t5 w L').size)
    (match gave with | true=>rule "set.scan.the-table-gave-way" | false=>pure ())
    storeSet a es t
    pure (some true)
   else pure (some true)) _ _ _
  refine c7t (c7u ?_);refine b9 pl ?_;refine b9 (hashByValue_scannable 8 rfl) ?_;refine c7t (c7u ?_);dsimp only [plainKind,if_true];simp only [if_true];have z1:(t5 w L').size<=sizeLine:=by refine b9 (s0 ..) ?_;refine b9 P.len ?_;refine b9 sizeLine_eq ?_;exact c3m hlen
  refine c7t (wpAny_storeSet_of ho hd ?_ z1);have g1:=a2N (es':=t5 w L') (t':=t1) ho hd;unfold SetTable.tooFull;refine b9 fl ?_;refine b9 P.mask ?_;by_cases cs:t.mask=7/\L.length=4
  ·refine b9 cs.1 ?_;refine b9 cs.2 ?_;have e5:SetTable.grown (t5 w L').size=20:=by refine b9 (s0 ..) ?_;refine b9 P.len ?_;refine b9 cs.2 ?_;rfl
   refine b9 e5 ?_;obtain ⟨t',ord,L2,NR⟩:=a7l (t:=t1) P.nod (by refine b9 P.len ?_;refine b9 cs.2 ?_;rfl)
   have er:relayAll t1 (t5 w L') 20=(t5 w L2,t',false):=by
    unfold relayAll;refine b9 NR.rel ?_;dsimp only;refine b9 NR.es ?_;have:coversAll ord (t5 w L').size=true:=by
     unfold coversAll;refine b9 (s0 ..) ?_;exact List.isPerm_iff.mpr NR.perm
    refine b9 this ?_;refine b9 (s0 ..) ?_;refine b9 NR.laid.fits ?_;rfl
   show wpAny _ _ (do
    let (es,t,gave):=relayAll t1 (t5 w L') 20
    (match gave with | true=>rule "set.scan.the-table-gave-way" | false=>pure ())
    storeSet a es t
    pure (some true)) _ _ _
   refine b9 er ?_;refine c7t (c7u ?_);refine c7t (wpAny_storeSet_of g1 rfl (c7u (c7u (a7c h P NR ho hex hd ks hk r d5 _))) (by refine b9 (s0 ..) ?_;refine b9 NR.len ?_;refine b9 P.len ?_;refine b9 sizeLine_eq ?_;exact c5J cs))
  ·have cs':(t.mask=7/\L.length < 4)\/(t.mask=31/\L.length < 18):=by rcases l.ti.size with ⟨p,q⟩ | ⟨p,q⟩ <;> omega
   have nf:decide ((L.length+1) * 5>=t.mask * 3)=false:=decide_eq_false (by rcases cs' with ⟨p,q⟩ | ⟨p,q⟩ <;> omega)
   refine b9 nf ?_;exact c7u (c7u (a7k h P ho hex hd ks hk r rfl P.mask P.dum d5 cs' _))
end
end
variable {a:Nat} {v:d8} {x:Nm} {K:Calls}
section
open PySem PySem.W PyProof.Rows PySem.Calls
open Classical
section
variable {prog:Program} {w:World} {G:Gi}
noncomputable def a4v (w:World):Obj:={cls:=.type "set",dict:=none,data:=.set #[] 0 (.fresh 0 0 (!byT w))}
theorem b5I (a:Value) {Q:Value->Shared->Prop} (h:Q (.ref s.heap.objs.size) {s with heap:=s.heap.push (a4v w)}) :
  codeAny (model prog w) A (.call (.builtin "set.__new__") ⟨[.type "set",a],[]⟩) (wants Q E) s:=by
 refine codeAny_of_tree ?_;show wpAny _ A.in1 (do checkBuiltinCall "set.__new__" ⟨[.type "set",a],[]⟩;again (.builtin "set.__new__" ⟨[.type "set",a],[]⟩)) _ _ s
 refine c7t (wpAny_of_eq (PySem.F.newCall_set_1 a) (c7u ⟨plainId_quiet PySem.F.plain_set_new _,codeAny_builtin PySem.F.entry_set_new ?_⟩));refine b9 (Around.under_plainId PySem.F.plain_set_new _) ?_;unfold Builtin.«set.__new__» Builtin.Frozenset.newClass;have hsub:=sub_set_self;obtain ⟨hp,g,d,tk,os⟩:=s;dsimp only
 wp_walk
 refine wpAny_askSetting (c7u ?_);dsimp only;simp only [newObj];refine c7t (wpAny_alloc (c7u ?_));exact c7u h
theorem b0Y {a:Value} {Q:Value->Shared->Prop}
  (h:∀ s₁,s₁={s with heap:=s.heap.push (a4v w)}->wpAny (model prog w) A.in1.in1 (Builtin.«set.__init__» ⟨[.ref s.heap.objs.size,a],[]⟩)
    (λfin s'=>match fin with | .done f=>wants (λr s₂=>r=.none/\Q (.ref s.heap.objs.size) s₂) E (.ok f) s' | .again c'=>c'.quiet=true/\codeAny (model prog w) A.in1 c' (wants (λr s₂=>r=.none/\Q (.ref s.heap.objs.size) s₂) E) s')
    (λe s'=>wants (λr s₂=>r=.none/\Q (.ref s.heap.objs.size) s₂) E (.error e) s') s₁) :
  wpAny (model prog w) A (call (.type "set") [a]) Q E s:=by
 refine eEE PySem.F.called_set.mro λc tl hmro=>?_;have hmade:=PySem.F.called_set.made;have hsub:=PySem.F.called_set.sub;refine wpAny_call (codeAny_of_tree ?_);show wpAny _ _ (callAny (.type "set") _) _ _ _;refine c7u ⟨Code.quiet_builtin _ (by decide +kernel),codeAny_builtin PySem.F.entry_type_call ?_⟩
 refine b9 (Around.under_plain (weight_type_call_type "set" [a] []) rfl) ?_;have h1:=PySem.F.called_set.notType;have h2:=PySem.F.called_set.canCreate;have hct:=PySem.F.typeCall_set_1 a
 repeat (any_goals (first | assumption | wp_step))
 refine codeAny_mono (b5I a (E:=E) (Q:=λobj s₁=>obj=.ref s.heap.objs.size/\s₁={s with heap:=s.heap.push (a4v w)}) ⟨rfl,rfl⟩) λr s₁ hr=>?_
 cases r with
 | error e=>exact hr
 | ok fl =>
  cases fl with
  | ret obj =>
   refine eA hr λq1 q2=>?_;clear hr;subst q1;subst q2;have hT:Shared.TypeIs {s with heap:=s.heap.push (a4v w)} (.ref s.heap.objs.size) "set":=⟨_,Heap.get?_push_size _ rfl,rfl⟩
   have hli:=PySem.F.called_set.init.lookup;have hbi:=PySem.F.called_set.init.bind (.ref s.heap.objs.size)
   repeat (any_goals (first | assumption | wp_step))
   refine codeAny_mono (codeAny_call_builtin (R:=wants (λr s₂=>r=.none/\Q (.ref s.heap.objs.size) s₂) E) PySem.F.called_set.init.plain PySem.F.entry_set_init (check_set_init_1 hT (h _ rfl))) λr₂ s₂ hr₂=>?_;cases r₂ with
   | error e=>exact hr₂
   | ok fl₂ =>
    cases fl₂ with
    | ret r =>
     refine eA hr₂ λq3 hq=>?_;clear hr₂;subst q3
     repeat (any_goals (first | assumption | wp_step))
    | _=>exact hr₂.elim
  | _=>exact hr.elim
noncomputable def a9N (prog:Program) (w:World) (G:Gi) (K:d8->Bool):Prop:=∀ (A:Around) (E:Value->Shared->Prop) (s:Shared) (a:Addr) (k:d8) (v:Value) (L:List El) (Q:Bool->Shared->Prop),A.units+64 < cLine->a09 w G K s.heap a L->L.length < 18->K k=true->i8 G s.heap k v ->
  (∀ L' h',Heap.SameBut a s.heap h'->a09 w G K h' a L'->(∀ v,v∈L'.map (·.2.1)↔v∈L.map (·.2.1)\/v=k)->(∀ x∈L',(∃ y∈L,y.2=x.2)\/x.2=(k,v))->∀ b,Q b {s with heap:=h'})->wpAny (model prog w) A (setAddHashed a v (n6 w k)) Q E s
theorem add_int:a9N prog w G a8w:=λ_ _ _ _ _ _ _ _ _ S hl hk r h=>b2i S hl hk r h
theorem b4l:a9N prog w G a2w:=λ_ _ _ _ _ _ _ _ hu S hl hk r h=>by
 refine eE (a6g hk r) λb q4=>?_;subst q4;exact b5f hu S hl hk r h
theorem a3n {h h':Heap} {v:Value} (x:i8 G h k v) (e:∀ b o,h.get? b=some o->h'.get? b=some o):i8 G h' k v :=
 x.mono λb vs t=>by
  refine i9 t λo' ho' r=>?_;clear t;exact ⟨o',e _ _ ho',r⟩
theorem a09.grow {K:d8->Bool} {h h':Heap} {a:Addr} (S:a09 w G K h a L) (h0:Heap) (k0:∀ x∈L,i8 G h0 x.2.1 x.2.2) (e0:∀ b o,h0.get? b=some o->h'.get? b=some o) (e:∀ o,h.get? a=some o->h'.get? a=some o):a09 w G K h' a L :=
 let ⟨⟨o,ep,t,ho,r⟩,ks⟩:=S
 ⟨⟨o,ep,t,e _ ho,r⟩,λx hx=>⟨(ks x hx).1,a3n (k0 x hx) e0⟩⟩
theorem b2f {R:Result->Shared->Prop} {fp wr:List Addr} {g:Array GenState->Array GenState->Prop} {P:Nat->Value->Prop} {St:Nat->Shared->Prop} {K:d8->Bool}
  (kv:∀ v,K v=true->B8 7 v=true) (add:a9N prog w G K) (hu:A.units+100 < cLine) (W:WalksS prog w A.in1 I fp wr g n P St) (S:Addr) (hSf:S∉fp) (xs:List d8) (hn:xs.length=n) (hx:∀ v∈xs,K v=true) (h0:Heap)
  (hv:∀ i v,P i v->∃ x,xs[i]?=some x/\i8 G h0 x v) (hw:∀ b o,h0.get? b=some o->b∉S :: wr) (D:List d8) (hD:D.length<=17) (hxD:∀ v∈xs,v∈D) :
  ∀ (k i:Nat) (s:Shared) (L:List El),n - i=k->i<=n->St i s->a09 w G K s.heap S L->(∀ x∈L,i8 G h0 x.2.1 x.2.2)->(∀ v,v∈L.map (·.2.1)↔v∈xs.take i)->(∀ b o,h0.get? b=some o->s.heap.get? b=some o) ->
   (∀ s' L',Moved (S :: wr) g s s'->a09 w G K s'.heap S L'->(∀ v,v∈L'.map (·.2.1)↔v∈xs)->R (.ok (.ret .none)) s') ->
   codeAny (model prog w) A (.builtin "set.update.loop" ⟨[.ref S,.ref I],[]⟩) R s:=by
 have hSw:S∉wr:=λh=>hSf (W.sub _ h);have hsub:∀ b∈wr,b∈S :: wr:=λb hb=>List.mem_cons_of_mem _ hb;intro k;induction k with
 | zero =>
  intro i s L hk hi hst hS kS hm he hR;obtain rfl:i=n:=by exact c4S hk hi
  refine codeAny_builtin F.entry_set_update_loop ?_;refine b9 (Around.under_plainId F.plain_set_update_loop _) ?_;show wpAny _ A.in1 (pyNext (.ref I)>>=_) _ _ s;refine c7t (W.done s _ _ hst λs' hmv=>?_);refine c7u (hR s' L (hmv.mono hsub) (hS.grow h0 kS (λb o e=>hmv.heap b o (λh=>hw b o e (hsub b h)) (he b o e)) λo e=>hmv.heap S o hSw e) λv=>?_);refine I9 (hm ..) ?_;refine t6 hn ?_;refine b9 List.take_length ?_;rfl
 | succ k ih =>
  intro i s L hk hi hst hS kS hm he hR;refine codeAny_builtin F.entry_set_update_loop ?_;refine b9 (Around.under_plainId F.plain_set_update_loop _) ?_;show wpAny _ A.in1 (pyNext (.ref I)>>=_) _ _ s;refine c7t (W.item i s _ _ (c0V hk) hst λv s' hP hst' hmv=>?_);refine i9 (hv i v hP) λx hxi rx=>?_;have he':∀ b o,h0.get? b=some o->s'.heap.get? b=some o:=λb o e=>hmv.heap b o (λh=>hw b o e (hsub b h)) (he b o e)
  have hS':=hS.grow h0 kS he' λo e=>hmv.heap S o hSw e;have kx:=hx x (c7w hxi);have hl:L.length < 18:=by
   obtain ⟨⟨_,_,t,_,_,_,l,_⟩,_⟩:=hS;have:=List.Nodup.length_le_of_subset l.ti.nod (l₂:=D) λv hv'=>hxD v (List.mem_of_mem_take ((hm v).mp hv'));rw [List.length_map] at this;exact b91 hD this
  show wpAny _ A.in1 (holding [v] (setAdd S v)>>=_) _ _ s';refine c7t (wpAny_holding ?_);unfold setAdd;refine wpAny_holding ?_;refine c7t (a0L 7 x (kv x kx) _ _ _ _ _ (by show A.units+1+7 < cLine;exact c4x hu) (a3n rx he') ?_)
  refine add _ _ _ _ x v L _ (by show A.units+1+64 < cLine;exact c5l hu) hS' hl kx (a3n rx he') λL' h' hsb hS2 hm2 org b=>?_
  have he2:∀ b o,h0.get? b=some o->h'.get? b=some o:=λb o e=>by
   refine b9 (hsb.2 b (λq=>hw b o e (q▸List.mem_cons_self))) ?_;exact he' b o e
  refine c7u ⟨plainId_quiet F.plain_set_update_loop _,ih (i+1) _ L' (b9P hk) (c5p hk) (W.frame _ s' _ _ hst' (Nat.le_add_right _ _) λb hb o e=>?_) hS2 (λy hy=>?_) (λv=>?_) he2 λs'' L'' hm'' hS'' q''=>?_⟩
  ·refine b9 (hsb.2 b (λh:b=S=>hSf (by refine t6 h ?_;exact hb))) ?_;exact e
  ·rcases org y hy with ⟨z,z1,z2⟩ | e
   ·refine t6 z2 ?_;exact kS z z1
   ·refine b9 e ?_;exact rx
  ·refine I9 (hm2 ..) ?_;refine I9 (hm ..) ?_;refine b9 List.take_add_one ?_;refine b9 hxi ?_;refine I9 (List.mem_append ..) ?_;simp only [Option.toList_some,List.mem_singleton]
  ·refine hR s'' L'' (Moved.trans W.gtrans ((hmv.mono hsub).then_heap (Nat.le_add_right _ _) λb o hb e=>?_) hm'') hS'' q'';refine b9 (hsb.2 b (λh:b=S=>hb (by refine b9 h ?_;exact List.mem_cons_self))) ?_;exact e
end
end
variable {l:List d8} {turn:d8->Hp->(List d8->Hp->Prop)->Prop}
section
open PySem PySem.W PyProof.Rows PySem.Calls
open Classical
theorem b0H {α:Type} (next:Nat->Nat):∀ (f k:Nat) (l:List α) (out:Array α),l.length<=f->(pickOrder.go next f k l out).toList.Perm (out.toList++l):=by
 intro f;induction f with
 | zero =>
  intro k l out h;obtain rfl:l=[]:=List.eq_nil_of_length_eq_zero (Nat.le_zero.mp h);unfold pickOrder.go;refine b9 (List.append_nil ..) ?_;rfl
 | succ f ih =>
  intro k l out h;unfold pickOrder.go;cases e:l[next k % l.length]? with
  | none =>
   rw [List.getElem?_eq_none_iff] at e;rcases Nat.eq_zero_or_pos l.length with z | z
   ·obtain rfl:l=[]:=List.eq_nil_of_length_eq_zero z;dsimp only;refine b9 (List.append_nil ..) ?_;rfl
   ·exact absurd (Nat.mod_lt (next k) z) (Nat.not_lt_of_le e)
  | some x =>
   refine eE (List.getElem?_eq_some_iff.mp e) λhi q3=>?_;subst q3;dsimp only;refine (ih (k+1) _ _ (by refine b9 (List.length_eraseIdx_of_lt hi) ?_;exact c0m h)).trans ?_
   refine b9 Array.toList_push ?_;refine b9 (List.append_assoc ..) ?_;refine List.Perm.append_left _ ?_;refine b9 (List.eraseIdx_eq_take_drop_succ ..) ?_;refine (List.perm_middle (l₁:=List.take _ _)).symm.trans ?_;refine t6 (List.drop_eq_getElem_cons hi) ?_;refine b9 (List.take_append_drop ..) ?_;rfl
noncomputable def a0I (w:World) (S:Addr) (ep:Nat) (L:List El):List (Int×Value):=if byT w=true then (pickOrder (w.params.setOrder S ep) (t5 w L)).toList else (t5 w L).toList
theorem a4m (w:World) (S:Addr) (ep:Nat) (L:List El):(a0I w S ep L).Perm (t5 w L).toList:=by
 unfold a0I
 split
 ·unfold pickOrder;exact b0H _ _ _ _ _ (by refine b9 Array.length_toList ?_;exact Nat.le_refl _)
 ·exact List.Perm.refl _
theorem a83 (l:a0C w t L) {x:El} (h:L[i]?=some x):SetTable.below t.place (x.1+1)=i+1:=by
 have rise:t.place.toList.Pairwise (· < ·):=by refine b9 l.place ?_;exact l.ti.rise
 have at_:=l.at_ h;have hi:=Z4 at_;refine eAA (a0S rise (x.1+1)) λp1 p2 p3=>?_;generalize SetTable.below t.place (x.1+1)=p at p1 p2 p3;have e:=getD_some at_;have up:∀ k,i < k->k < t.place.size->x.1 < t.place.getD k 0:=λk h1 h2=>by
  have:=List.pairwise_iff_getElem.mp rise i k (by simpa using hi) (by simpa using h2) h1
  simp only [Array.getElem_toList] at this;refine b9 Array.getD_eq_getD_getElem? ?_;refine b9 (Array.getElem?_eq_getElem h2) ?_;rw [Array.getElem?_eq_getElem hi] at at_;injection at_ with at_
  rw [at_] at this;exact this
 rcases Nat.lt_trichotomy p (i+1) with c | c | c
 ·have:=p3 i (c3I c) hi;exact c0C e this
 ·exact c
 ·have a:=p2 (i+1) c;have b:=up (i+1) (b7w) (c45 p1 c);exact c6k a b
theorem a8K (l:a0C w t L):SetTable.below t.place 0=0:=by
 refine eAA (a0S (by refine b9 l.place ?_;exact l.ti.rise) 0) λp1 p2 p3=>?_
 rcases Nat.eq_zero_or_pos (SetTable.below t.place 0) with c | c
 ·exact c
 ·exact absurd (p2 0 c) (Nat.not_lt_zero _)
theorem K5:Slot "set_iterator" "__next__" "set_iterator.__next__" :=
 .of (owner:="set_iterator") (n:="__next__") (by refine b9 (typeLookup_type ..) ?_;refine b9 builtinLookup_eq_fast ?_;kernel_rfl) (by decide +kernel) (by decide +kernel) (by decide +kernel)
  (by first | exact .inl (by decide +kernel) | exact .inr (by decide +kernel)) (by refine b9 (isSubtype_type ..) ?_;kernel_rfl)
theorem a1G:entryFor table "set_iterator.__next__"=some Builtin.«set_iterator.__next__»:=entryFor_of_tree (by kernel_rfl)
theorem a53:Manifest.owners.lookup (String.ofList ['r','o','t','a','r','e','t','i','_','t','e','s'].reverse)=some Manifest.sig_set_iterator:=by kernel_rfl
theorem a2i (a:Value):argsOk "set_iterator.__next__" ⟨[a],[]⟩:=by
 unfold argsOk;refine b9 (signature?_of (id:="set_iterator.__next__") (n:=['_','_','t','x','e','n','_','_']) (o:=['r','o','t','a','r','e','t','i','_','t','e','s']) (by kernel_rfl) a53) ?_;kernel_rfl
theorem a41:entryFor table "set.__iter__"=some Builtin.«frozenset.__iter__» :=
 entryFor_alias (id':="frozenset.__iter__") (by kernel_rfl) rfl (by decide +kernel) (by kernel_rfl)
section
variable {prog:Program} {w:World} {G:Gi}
theorem a2J {Q:Bool->Shared->Prop} (h:Q (byT w) s):wpAny (model prog w) A setsByText Q E s:=by
 unfold setsByText;exact c7t (wpAny_askSetting (c7u h))
structure SI (w:World) (G:Gi) (S:Addr) (L:List El) (ep:Nat) (h:Heap):Prop where
 ex:∃ o t,h.get? S=some o/\o.ExactSet/\o.data=.set (t5 w L) ep t/\a0C w t L/\t.led=!byT w/\t.plain=true
noncomputable def b0z (w:World) (S I:Addr) (L:List El) (ep i:Nat) (h:Heap):Prop :=
 ∃ sl:Nat,h.get? I=some {cls:=.type "set_iterator",data:=.fields #[.int sl 0,.int i 0,.ref S,.int L.length 0,.int ep 0]}/\(byT w=false->∃ o t,h.get? S=some o/\o.data=.set (t5 w L) ep t/\SetTable.below t.place sl=i)
theorem b01 {ep i sl:Nat} {x:Int×Value} {Q:Option (Value×Nat)->Shared->Prop} (hS:SI w G S L ep s.heap) (hb:byT w=false->∃ o t,s.heap.get? S=some o/\o.data=.set (t5 w L) ep t/\SetTable.below t.place sl=i)
  (hx:(a0I w S ep L)[i]?=some x) (hQ:∀ nx,(byT w=false->∃ o t,s.heap.get? S=some o/\o.data=.set (t5 w L) ep t/\SetTable.below t.place nx=i+1)->Q (some (x.2,nx)) s):wpAny (model prog w) A (setNext S sl i ep) Q E s:=by
 obtain ⟨⟨o,t,ho,hex,hd,l,md⟩⟩:=hS;unfold setNext;refine c7t (K2 ho hd l ?_);refine c7t (a2J ?_);cases hbt:byT w with
 | true =>
  simp only [if_true,bne_self_eq_false,Bool.false_eq_true,if_false];refine c7t ?_;unfold setWalk;refine c7t (K2 ho hd l ?_);refine c7t (a2J ?_);refine b9 hbt ?_;simp only [if_true];refine c7t (wpAny_askSetting (c7u ?_));unfold a0I at hx;rw [if_pos hbt,Array.getElem?_toList] at hx;dsimp only;refine b9 (show (model prog w).w=w from rfl) ?_;refine b9 hx ?_;exact c7u (hQ sl λq=>by rw [hbt] at q;cases q)
 | false =>
  unfold a0I at hx;rw [if_neg (by refine b9 hbt ?_;exact Bool.false_ne_true)] at hx
  rw [Array.getElem?_toList,a03] at hx;refine i9 (Option.map_eq_some_iff.mp hx) λy hy q4=>?_;subst q4;refine k8 (hb hbt) λo' t' ho' hd' hbel=>?_;rw [ho] at ho';have q1:=A3 ho';clear ho';subst q1;rw [hd] at hd';cases hd';simp only [Bool.false_eq_true,if_false];refine wpAny_ite_split (λq=>?_) (λ_=>?_)
  ·have q:(!t.plain&&decide ((t5 w L).size > 1))=true:=q;rw [md.2] at q;cases q
  refine c7t ?_;show wpAny _ _ (if (!t.led&&!(t5 w L).isEmpty)=true then unsupported "set:maker-not-led" else pure ()) _ _ _
  refine b9 md.1 ?_;refine b9 hbt ?_;refine c7u ?_;refine b9 hbel ?_;refine b9 (a03 ..) ?_;refine b9 hy ?_;refine b9 (l.at_ hy) ?_;exact c7u (hQ (y.1+1) λ_=>⟨o,t,ho,hd,a83 l hy⟩)
theorem b08 {ep sl:Nat} {Q:Option (Value×Nat)->Shared->Prop} (hS:SI w G S L ep s.heap) (hb:byT w=false->∃ o t,s.heap.get? S=some o/\o.data=.set (t5 w L) ep t/\SetTable.below t.place sl=L.length)
  (hQ:Q none s):wpAny (model prog w) A (setNext S sl L.length ep) Q E s:=by
 obtain ⟨⟨o,t,ho,hex,hd,l,md⟩⟩:=hS;have ol:(a0I w S ep L).length=L.length:=by refine b9 ((a4m w S ep L).length_eq) ?_;refine b9 Array.length_toList ?_;refine b9 (s0 ..) ?_;rfl
 unfold setNext;refine c7t (K2 ho hd l ?_);refine c7t (a2J ?_);cases hbt:byT w with
 | true =>
  simp only [if_true,bne_self_eq_false,Bool.false_eq_true,if_false];refine c7t ?_;unfold setWalk;refine c7t (K2 ho hd l ?_);refine c7t (a2J ?_);refine b9 hbt ?_;simp only [if_true];refine c7t (wpAny_askSetting (c7u ?_));unfold a0I at ol;rw [if_pos hbt,Array.length_toList] at ol;dsimp only;refine b9 (show (model prog w).w=w from rfl) ?_;refine b9 (Array.getElem?_eq_none (c2X ol)) ?_
  exact c7u hQ
 | false =>
  refine k8 (hb hbt) λo' t' ho' hd' hbel=>?_;rw [ho] at ho';have q2:=A3 ho';clear ho';subst q2;rw [hd] at hd';cases hd';simp only [Bool.false_eq_true,if_false];refine wpAny_ite_split (λq=>?_) (λ_=>?_)
  ·have q:(!t.plain&&decide ((t5 w L).size > 1))=true:=q;rw [md.2] at q;cases q
  refine c7t ?_;show wpAny _ _ (if (!t.led&&!(t5 w L).isEmpty)=true then unsupported "set:maker-not-led" else pure ()) _ _ _
  refine b9 md.1 ?_;refine b9 hbt ?_;refine c7u ?_;refine b9 hbel ?_;refine b9 (a03 ..) ?_;refine b9 (List.getElem?_eq_none (Nat.le_refl _)) ?_;exact c7u hQ
theorem b1K {x:Int×Value} {Q:Option Value->Shared->Prop} (hS:SI w G S L ep s.heap) (hI:b0z w S I L ep i s.heap) (hx:(a0I w S ep L)[i]?=some x)
  (hne:S≠I) (hQ:∀ h',b0z w S I L ep (i+1) h'->Heap.ExtBut I s.heap h'->Q (some x.2) {s with heap:=h'}):wpAny (model prog w) A (pyNext (.ref I)) Q E s:=by
 refine i9 hI λsl hi hb=>?_;clear hI;have hT:s.TypeIs (.ref I) "set_iterator":=⟨_,hi,rfl⟩;unfold pyNext;refine c7t (wpAny_attempt (wpAny_callSpecial?_slot (name:=Str.ofString "__next__") hT K5
  (wpAny_call_entry K5 hT a1G ?_ (a2i _))))
 unfold Builtin.«set_iterator.__next__»;refine c7t (c7u ?_);refine c7t (wpAny_fieldsOf hi rfl ?_);dsimp only;obtain ⟨⟨o,t,ho,hex,hd,l,md⟩⟩:=id hS;refine c7t (c7t (K2 ho hd l (c7u ?_)));dsimp only;refine b9 (s0 ..) ?_;simp only [bne_self_eq_false,Bool.false_eq_true,if_false];refine c7t (b01 hS hb hx λnx hnx=>?_);dsimp only;refine c7t (wpAny_setField hi rfl (by simp) ?_)
 have g1:=Heap.get?_update_self (Obj.mapFields (·.setIfInBounds 0 (rawInt nx))) hi rfl;refine c7t (wpAny_setField g1 rfl (by simp [Obj.mapFields]) ?_)
 have g2:=Heap.get?_update_self (Obj.mapFields (·.setIfInBounds 1 (rawInt ((i:Int)+1)))) g1 rfl;refine c7u ⟨_,rfl,c7u (hQ _ ⟨nx,g2,λq=>?_⟩ ((Heap.SameBut.update ..).trans (Heap.SameBut.update ..)).extBut)⟩;refine b9 (Heap.get?_update_other _ _ hne.symm) ?_;refine b9 (Heap.get?_update_other _ _ hne.symm) ?_;exact hnx q
theorem b48 {Q:Option Value->Shared->Prop} (hh:A.handled=none) (hS:SI w G S L ep s.heap) (hI:b0z w S I L ep L.length s.heap)
  (hQ:∀ h',Heap.ExtBut I s.heap h'->Q none {s with heap:=h'}):wpAny (model prog w) A (pyNext (.ref I)) Q E s:=by
 refine i9 hI λsl hi hb=>?_;clear hI;have hT:s.TypeIs (.ref I) "set_iterator":=⟨_,hi,rfl⟩;unfold pyNext;refine c7t (wpAny_attempt (wpAny_callSpecial?_slot (name:=Str.ofString "__next__") hT K5
  (wpAny_call_entry K5 hT a1G ?_ (a2i _))))
 unfold Builtin.«set_iterator.__next__»;refine c7t (c7u ?_);refine c7t (wpAny_fieldsOf hi rfl ?_);dsimp only;obtain ⟨⟨o,t,ho,hex,hd,l,md⟩⟩:=id hS;refine c7t (c7t (K2 ho hd l (c7u ?_)));dsimp only;refine b9 (s0 ..) ?_;simp only [bne_self_eq_false,Bool.false_eq_true,if_false];refine c7t (b08 hS hb ?_);dsimp only;refine c7t (wpAny_setField hi rfl (by simp) ?_)
 show wpAny _ _ (newExc (.type "StopIteration") []>>=_) _ _ _;refine c7t ?_;simp only [newExc,newTuple];refine c7t (wpAny_newObj_type ?_ (by size_fits))
 refine c7t (m:=firstArgMember _ _) (wpAny_of_eq (a:=Value.none) (by first | rfl | (simp only [firstArgMember];rfl)) ?_)
 refine wpAny_newObj_type ?_ (by size_fits)
 simp only [raiseNew];refine c7t (wpAny_handled ?_);refine b9 (show A.in1.handled=none from hh) ?_;refine c7t (c7u (wpAny_throw ?_));refine c7t (wpAny_isInstance (T:="StopIteration") (b:=true) ⟨_,Heap.get?_push_size _ rfl,rfl⟩ isSubtype_stop ?_);exact c7u (hQ _ (((Heap.SameBut.update ..).extBut.push _).push _))
end
end
variable {k:Nat} {es:List (d8×d8)}
section
open PySem PySem.W PyProof.Rows PySem.Calls
open Classical
theorem a2p:Slot "set_iterator" "__iter__" "set_iterator.__iter__" :=
 .of (owner:="set_iterator") (n:="__iter__") (by refine b9 (typeLookup_type ..) ?_;refine b9 builtinLookup_eq_fast ?_;kernel_rfl) (by decide +kernel) (by decide +kernel) (by decide +kernel)
  (by first | exact .inl (by decide +kernel) | exact .inr (by decide +kernel)) (by refine b9 (isSubtype_type ..) ?_;kernel_rfl)
theorem a4y:entryFor table "set_iterator.__iter__"=some Builtin.«dict_keyiterator.__iter__» :=
 entryFor_alias (id':="dict_keyiterator.__iter__") (by kernel_rfl) rfl (by decide +kernel) (by kernel_rfl)
theorem a5d (a:Value):argsOk "set_iterator.__iter__" ⟨[a],[]⟩:=by
 unfold argsOk;refine b9 (signature?_of (id:="set_iterator.__iter__") (n:=['_','_','r','e','t','i','_','_']) (o:=['r','o','t','a','r','e','t','i','_','t','e','s']) (by kernel_rfl) a53) ?_;kernel_rfl
section
variable {prog:Program} {w:World} {G:Gi}
theorem b4d {r:Addr} {Q:Bool->Shared->Prop} (hT:s.TypeIs (.ref r) "set") (h:Q false s):wpAny (model prog w) A (Builtin.List.listLengthHint (.ref r)) Q E s:=by
 unfold Builtin.List.listLengthHint;refine c7t (wpAny_specialOf hT PySem.F.slot_set_len.lookup ?_);generalize hid:("set.__len__":String)=id0
 wp_delta
 refine b9 (show splitId id0=some ("set","__len__") from by subst hid;decide +kernel) ?_
 subst hid;refine c7t (wpAny_isInstance (T:="set") (b:=true) hT (by refine b9 (isSubtype_type ..) ?_;kernel_rfl) ?_)
 refine wpAny_ite_split (λhab=>absurd hab (by decide)) (λ_=>?_)
 refine wpAny_ite_split (λ_=>?_) (λhab=>absurd (by decide +kernel) hab)
 refine c7t (wpAny_typeOf hT ?_);exact c7u h
noncomputable def b1V (S n ep:Nat):Obj:={cls:=.type "set_iterator",data:=.fields #[.int (0:Nat) 0,.int (0:Nat) 0,.ref S,.int n 0,.int ep 0]}
theorem b4f {Q:Value->Shared->Prop} (hS:SI w G S L ep s.heap)
  (hQ:Q (.ref s.heap.objs.size) {s with heap:=s.heap.push (b1V S L.length ep)}):wpAny (model prog w) A (pyIter (.ref S)) Q E s:=by
 obtain ⟨⟨o,t,ho,hex,hd,l,md⟩⟩:=hS;have hT:s.TypeIs (.ref S) "set":=⟨o,ho,hex.1⟩;refine wpAny_pyIter_slot hT PySem.F.slot_set_iter (wpAny_call_entry PySem.F.slot_set_iter hT a41 ?_ (PySem.F.args_set_iter_1 _));unfold Builtin.«frozenset.__iter__» Builtin.Frozenset.slot0 slotArgs;simp only [List.isEmpty_nil,Bool.not_true,Bool.false_eq_true,↓reduceIte,bind_assoc,List.length_nil,bne_self_eq_false];unfold Builtin.Frozenset.addrOf Builtin.Frozenset.sizeOf
 refine c7t (c7u ?_)
 try dsimp only
 refine c7t (c7u ?_);have hf:t.fits (t5 w L).size=true:=by refine b9 (s0 ..) ?_;exact l.fits
 refine c7t (c7t (wpAny_setEntries_of ho hd hf (c7u ?_)));refine c7t ?_;unfold setDrawn;refine c7t (K2 ho hd l ?_);refine c7t (a2J ?_);refine c7u ?_;refine wpAny_ite_split (λq=>?_) (λ_=>?_)
 ·have q:(!byT w&&(!t.plain&&decide ((t5 w L).size > 1)))=true:=q;rw [md.2] at q;simp at q
 refine c7t (c7u ?_);refine c7t (wpAny_setEpoch_of ho hd hf ?_);refine b9 (s0 ..) ?_;refine c7t (wpAny_newObj_type (c7u ⟨_,rfl,"set_iterator",_,⟨_,Heap.get?_push_size _ rfl,rfl⟩,K5.lookup,?_⟩));exact hQ
theorem b5l (S:Addr) (L:List El) (ep:Nat):KdlSrc prog w "set" S S L.length (λi v=>∃ x,(a0I w S ep L)[i]?=some x/\v=x.2) (SI w G S L ep) where
 type:=λ_ hm=>let ⟨⟨o,_,ho,hex,_⟩⟩:=hm;⟨o,ho,hex.1⟩
 there:=λ_ hm=>let ⟨⟨_,_,ho,_⟩⟩:=hm;⟨Heap.lt_size ho,Heap.lt_size ho⟩
 keep:=λ_ _ hm hk=>let ⟨⟨o,t,ho,r⟩⟩:=hm;⟨⟨o,t,hk S (.inl rfl) o ho,r⟩⟩
 notList:=by decide
 notTuple:=by decide
 hint:=λ_ _ _ _ hm hq=>let ⟨⟨o,_,ho,hex,_⟩⟩:=hm;b4d ⟨o,ho,hex.1⟩ hq
 iter:=λA s hh hm=>by
  refine C8 hm.ex λo t ho hex hd l md=>?_;have hne:S≠s.heap.objs.size:=Nat.ne_of_lt (Heap.lt_size ho);have frame:∀ i (h h':Heap),b0z w S s.heap.objs.size L ep i h/\SI w G S L ep h->(∀ b∈[s.heap.objs.size,S],∀ o,h.get? b=some o->h'.get? b=some o)->b0z w S s.heap.objs.size L ep i h'/\SI w G S L ep h':=λi h h' st hk=>by
   refine eA st λq2 q3=>?_;clear st;refine i9 q2 λsl hi hb=>?_;clear q2;obtain ⟨o,t,ho,r⟩:=q3;exact ⟨⟨sl,hk _ (by simp) _ hi,λq=>let ⟨o,t,e,r⟩:=hb q;⟨o,t,hk S (by simp) _ e,r⟩⟩,⟨⟨o,t,hk S (by simp) _ ho,r⟩⟩⟩
  refine ⟨b1V S L.length ep,λi h=>b0z w S s.heap.objs.size L ep i h/\SI w G S L ep h,λ_ _ hq=>b4f hm hq,⟨λb hb=>by simp at hb;simp [hb],frame,λi s' Q E hi st hQ=>?_,λs' Q E st hQ=>?_,λi s' Q E st hQ=>?_⟩,?_⟩
  ·have ol:(a0I w S ep L).length=L.length:=by refine b9 ((a4m w S ep L).length_eq) ?_;refine b9 Array.length_toList ?_;refine b9 (s0 ..) ?_;rfl
   have hx:=List.getElem?_eq_getElem (l:=a0I w S ep L) (i:=i) (c0R hi ol);refine b1K st.2 st.1 hx hne λh' st' he=>hQ _ h' s'.toks ⟨_,hx,rfl⟩ ⟨st',?_⟩ λb o hb e=>he b o (λh=>hb (by simp [h])) e
   obtain ⟨⟨o,t,ho,r⟩⟩:=st.2;exact ⟨⟨o,t,he S o hne ho,r⟩⟩
  ·exact b48 hh st.2 st.1 λh' he=>hQ h' s'.toks λb o hb e=>he b o (λh=>hb (by simp [h])) e
  ·refine eA st λq1 _=>?_;clear st;refine i9 q1 λsl hi _=>?_;clear q1;have hT:s'.TypeIs (.ref s.heap.objs.size) "set_iterator":=⟨_,hi,rfl⟩;refine wpAny_pyIter_slot hT a2p (wpAny_call_entry a2p hT a4y ?_ (a5d _));show wpAny _ _ (ret (.ref s.heap.objs.size)) _ _ s';exact c7u ⟨_,rfl,"set_iterator",_,hT,K5.lookup,hQ⟩
  ·refine ⟨⟨0,Heap.get?_push_size _ rfl,λ_=>⟨o,t,Heap.get?_push_of_some _ ho,hd,a8K l⟩⟩,⟨⟨o,t,Heap.get?_push_of_some _ ho,hex,hd,l,md⟩⟩⟩
end
end
variable {up:List Nat}
section
open PySem PySem.W PyProof.Rows PySem.Calls
open Classical
section
variable {prog:Program} {w:World} {G:Gi} {n m:Nat}
theorem b1T:∀ {xs:List d8} {us:List Value} (i:Nat) {v:Value},l5 G h xs us->us[i]?=some v->∃ x,xs[i]?=some x/\i8 G h x v:=by
 intro xs;induction xs with
 | nil=>intro _ i _ r e;replace r:=a1l r;subst r;cases e
 | cons y xs ih =>
  intro _ i v r e;replace r:=F0 r;refine k8 r λu us q2 r1 r2=>?_;clear r;subst q2;cases i with
  | zero=>have q1:=A3 e;clear e;subst q1;exact ⟨y,rfl,r1⟩
  | succ i=>exact ih i r2 e
theorem b0s {K:d8->Bool} {a:Addr} (ho:h.get? a=some (a4v w)):a09 w G K h a [] :=
 ⟨⟨_,0,_,ho,⟨rfl,rfl,rfl⟩,rfl,⟨⟨.nil,.nil,.inl ⟨rfl,Nat.zero_le _⟩,(λx hx=>nomatch hx),(λx hx=>nomatch hx)⟩,rfl,rfl⟩,⟨rfl,λ_=>rfl⟩⟩,λx hx=>nomatch hx⟩
theorem b1W {K:d8->Bool} {a:Addr} {items:Array Value} {xs D:List d8} {Q:Value->Shared->Prop} (kv:∀ v,K v=true->B8 7 v=true) (add:a9N prog w G K) (hh:A.handled=none) (hu:A.units+110 < cLine)
  (hl:s.heap.IsList a items) (r:l5 G s.heap xs items.toList) (hx:∀ v∈xs,K v=true) (hD:D.length<=17) (hxD:∀ v∈xs,v∈D)
  (h:∀ L' h' tk,a09 w G K h' s.heap.objs.size L'->(∀ v,v∈L'.map (·.2.1)↔v∈xs)->(∀ b o,s.heap.get? b=some o->h'.get? b=some o)->Q (.ref s.heap.objs.size) {s with heap:=h',toks:=tk}) :
  wpAny (model prog w) A (call (.type "set") [.ref a]) Q E s:=by
 refine b0Y λs₁ e=>?_;subst e;have hS:(s.heap.push (a4v w)).get? s.heap.objs.size=some (a4v w):=Heap.get?_push_size _ rfl;have hT:Shared.TypeIs {s with heap:=s.heap.push (a4v w)} (.ref s.heap.objs.size) "set":=⟨_,hS,rfl⟩
 refine S8 hl λol hol hcl nl hdl=>?_;clear hl;obtain ⟨ocls,odict,odata,oslots⟩:=ol;simp only at hcl hdl;subst hcl;subst hdl;have hol':(s.heap.push (a4v w)).get? a=some {cls:=.type "list",dict:=odict,data:=.seq items nl,slots:=oslots}:=Heap.get?_push_of_some _ hol;have hsls:=PySem.F.sub_list_set;have hslf:=PySem.F.sub_list_frozenset;have hne:(Value.type "list"==Value.type "dict")=false:=by decide
 have hl1:(s.heap.push (a4v w)).IsList a items:=⟨_,hol',rfl,nl,rfl⟩;unfold a4v at hS hT hol' hl1 ⊢;unfold Builtin.«set.__init__» noKeywords Builtin.Frozenset.updateFrom;generalize hPI:pyIter=PI
 wp_walk
 subst hPI;have hnew:(s.heap.push {cls:=.type "set",dict:=none,data:=.set #[] 0 (.fresh 0 0 (!byT w))}).objs.size=s.heap.objs.size+1:=Heap.size_push ..;have hlS:a < s.heap.objs.size:=Heap.lt_size hol;refine wpAny_pyIter_list hl1 ?_;refine c7t (wpAny_runValue ?_);have hh3:A.in1.in1.in1.handled=none:=hh;have hneI:a≠(s.heap.push {cls:=.type "set",dict:=none,data:=.set #[] 0 (.fresh 0 0 (!byT w))}).objs.size:=by refine b9 hnew ?_;exact Nat.ne_of_lt (Nat.lt_succ_of_lt hlS)
 have hSf:s.heap.objs.size∉[(s.heap.push {cls:=.type "set",dict:=none,data:=.set #[] 0 (.fresh 0 0 (!byT w))}).objs.size,a]:=by
  refine b9 hnew ?_;simp only [List.mem_cons,List.not_mem_nil,or_false,not_or];exact ⟨Nat.ne_of_lt (Nat.lt_succ_self _),Nat.ne_of_gt hlS⟩
 have xl:xs.length=items.size:=by refine b9 r.length ?_;refine b9 Array.length_toList ?_;rfl
 refine b2f (K:=K) (xs:=xs) (h0:=s.heap) (D:=D) kv add (by show A.units+1+1+100 < cLine;exact c1R hu) ((Walks.list hh3 _ a hneI items).toS) s.heap.objs.size hSf xl hx (λi v hv=>b1T i r (by refine b9 Array.getElem?_toList ?_;exact hv)) (λb o e hb=>?_) hD hxD (items.size - 0) 0 _ [] rfl (Nat.zero_le _) ⟨⟨_,Heap.get?_push_size _ rfl,rfl,rfl⟩,hl1.push _⟩
  (b0s (Heap.get?_push_of_some _ hS)) (λx hx=>nomatch hx) (λv=>by simp) (λb o e=>Heap.get?_push_of_some _ (Heap.get?_push_of_some _ e)) λs' L' hm S' kq=>?_
 ·have:=Heap.lt_size e;rw [hnew] at hb;simp only [List.mem_cons,List.not_mem_nil,or_false] at hb;rcases hb with rfl | rfl
  ·exact Nat.lt_irrefl _ this
  ·exact absurd this (Nat.not_lt_of_lt (Nat.lt_succ_self _))
 ·obtain ⟨h',g',d',tk',os'⟩:=s';obtain rfl:g'=s.gens:=hm.gens;obtain rfl:d'=s.drawn:=hm.drawn;obtain rfl:os'=s.os:=hm.os;refine c7u ?_;show wpAny _ _ (ret Value.none) _ _ _;refine c7u ⟨rfl,h L' h' tk' S' kq λb o e=>hm.heap b o ?_ (Heap.get?_push_of_some _ (Heap.get?_push_of_some _ e))⟩;have:=Heap.lt_size e;refine b9 hnew ?_;simp only [List.mem_cons,List.not_mem_nil,or_false,not_or]
  exact ⟨Nat.ne_of_lt this,Nat.ne_of_lt (Nat.lt_succ_of_lt this)⟩
theorem c6J:a6I prog w G n m:=λA s H v u Q al R r h=>by
 revert h;intro q7;refine C8 q7 λa xs q6 e hl hk h=>?_;clear q7;subst q6;cases R4 r;refine A6 (R.objs _ _ e) λws k ho r=>?_;refine b1W (K:=a2w) (D:=xs) (λv q=>a9M (Bool.and_eq_true_iff.mp q).2) b4l al.h (by have:=al.units;exact c5X this) ⟨_,ho,rfl,k,rfl⟩ r (λv q=>Bool.and_eq_true_iff.mpr (hk v q)) hl (λv q=>q) λL' h' tk S kq he=>⟨.kept R he,?_⟩
 obtain ⟨⟨o,ep,t,ho',hex,hd,l,md⟩,_⟩:=S;have hlen:(L'.map (·.2.1)).length < 64:=by
  refine b9 (c7x ..) ?_;rcases l.ti.size with ⟨_,q⟩ | ⟨_,q⟩ <;> omega
 refine call_len_set ho' hex hd (by refine b9 (s0 ..) ?_;exact l.fits) (by refine b9 (s0 ..) ?_;rw [List.length_map] at hlen;exact c5z hlen) ⟨_,H,.int,(k9.kept (tk:=tk+1+1) R he),?_⟩
 have:=h (L'.map (·.2.1)) l.ti.nod kq;dsimp only at this;rw [List.length_map] at this;refine b9 (s0 ..) ?_;exact this
theorem a4I (l:List Int):(T2 l).Pairwise λa b=>a<=b :=
 (List.pairwise_mergeSort (le:=λa b:Int=>decide (a<=b)) (λa b c h1 h2=>decide_eq_true (Int.le_trans (of_decide_eq_true h1) (of_decide_eq_true h2))) (λa b=>by have:=Int.le_total a b;simpa using this) l).imp of_decide_eq_true
theorem X7 (l:List Int):(T2 l).Perm l:=List.mergeSort_perm _ _
noncomputable def a3O:d8->Int
 | .int i=>i
 | _=>0
noncomputable def vint?:Value->Int
 | .int i _=>i
 | _=>0
theorem b3B:∀ {us:List Value},(∀ v∈us,∃ i t,v=.int i t)->IntsAre us (us.map vint?):=by
 intro us;induction us with
 | nil=>intro _;exact .nil
 | cons v us ih =>
  intro h;refine eEE (h v (List.mem_cons_self)) λi t q12=>?_;subst q12;exact .cons i t (ih λv q=>h v (List.mem_cons_of_mem _ q))
theorem a8I {T:String} {r d:Addr} {P:Nat->Value->Prop} {OK:Heap->Prop} {Q:m7} (src:KdlSrc prog w T r d k P OK) (hh:A.handled=none) (R:w6 G w H s.heap) (hok:OK s.heap) (hk:k < 64) (l:List Int)
  (hP:∀ acc:Array Value,ItemsOf P acc k->∃ l':List Int,IntsAre acc.toList l'/\l'.Perm l) (q:newList ((T2 l).map d8.int) H Q):wpAny (model prog w) A (call (.builtin "sorted") [.ref r]) (V6 G w (i8 G) H s Q) z5 s:=by
 refine call_function_entry kind_sorted plain_sorted entry_sorted (args_sorted1 _) ?_;unfold Builtin.«sorted»;refine c7t (m:=checkCount "sorted" 1 1 _) (c7u ?_);refine c7t (kdu_collect (A:=A.in1) src hh hok (by refine b9 sizeLine_eq ?_;exact c5j hk) λh' tk acc hk' hacc=>?_)
 refine i9 (hP acc hacc) λl' i1 i2=>?_;have hl:acc.toList.length=k:=by refine b9 Array.length_toList ?_;exact hacc.1
 refine c7t (wpAny_newList ?_ (by refine b9 hl ?_;refine b9 sizeLine_eq ?_;exact c5j hk))
 have st0:k9 G w N8 H s H {s with heap:=h',toks:=tk}:=.kept R hk'
 have hget:(h'.push {cls:=.type "list",data:=.seq acc.toList.toArray}).get? h'.objs.size=some (seqObj "list" acc.toList.toArray 0):=Heap.get?_push_size _ rfl;refine c7t (wpAny_holding (wpAny_call_entry slot_list_sort ⟨_,hget,rfl⟩ entry_list_sort (list_sort_tree hget i1 (b9r hk hl) λout ns' a1 a2 a3=>⟨_,rfl,?_⟩) (args_list_sort _)));have hz:ns'=T2 l:=by
  refine List.Perm.eq_of_pairwise (le:=λa b:Int=>a<=b) (λa b _ _ h1 h2=>Int.le_antisymm h1 h2) a3 (a4I l) ((a2.trans i2).trans (X7 l).symm)
 refine c7u ⟨_,rfl,?_⟩;subst hz;have hD:∀ o,h'.get? h'.objs.size≠some o:=λo e=>absurd (Heap.lt_size e) (Nat.lt_irrefl _);have hn:s.heap.get? h'.objs.size=none:=by
  cases e:s.heap.get? h'.objs.size with
  | none=>rfl
  | some o=>exact absurd (hk' _ _ e) (hD o)
 have hb:G.base h'.objs.size=none:=by
  cases e:G.base h'.objs.size with
  | none=>rfl
  | some o=>exact absurd (hk' _ _ (R.base _ _ e).1) (hD o)
 have hne:∀ b o,s.heap.get? b=some o->b≠h'.objs.size:=λb o e z=>by subst z;rw [hn] at e;cases e
 unfold sortedHeap;have keep:∀ b o,s.heap.get? b=some o->((((((h'.push {cls:=.type "list",data:=.seq acc.toList.toArray}).update h'.objs.size (Obj.mapSeq λ_=>#[])).push (seqObj "tuple" acc.toList.toArray 0)).push (seqObj "list" #[] 0)).update h'.objs.size (Obj.mapSeq λ_=>out))).get? b=some o:=λb o e=>by
  refine b9 (Heap.get?_update_other _ _ (hne b o e).symm) ?_;refine Heap.get?_push_of_some _ (Heap.get?_push_of_some _ ?_);refine b9 (Heap.get?_update_other _ _ (hne b o e).symm) ?_;exact Heap.get?_push_of_some _ (hk' b o e)
 have st:=k9.kept (tk:=tk) R keep;have g1:=get?_update_seq hget (λ_=>#[]);have g2:=get?_update_seq (Heap.get?_push_of_some (seqObj "list" #[] 0) (Heap.get?_push_of_some (seqObj "tuple" acc.toList.toArray 0) g1)) (λ_=>out);exact ⟨.ref _,_,.ref,st.give (mo:=.list ((T2 l).map d8.int)) hn st0.rel.fresh hb ⟨out,_,g2,l5.of_ints a1⟩,q.2 _ st0.rel.fresh⟩
theorem c6Y:a6s prog w G n m:=λA s H v u Q al R r h=>by
 revert h;intro q4;refine I6 q4 λa l q3 e hl h=>?_;clear q4;subst q3;cases R4 r;refine A6 (R.objs _ _ e) λws k ho r=>?_;refine b1W (K:=a8w) (D:=(List.range 17).map λ(i:Nat)=>d8.int i) (λv q=>?_) add_int al.h (by have:=al.units;exact c5X this) ⟨_,ho,rfl,k,rfl⟩ r (λv q=>?_) (by simp) (λv q=>?_) λL' h' tk S kq he=>⟨.kept R he,?_⟩
 ·refine eE (a0x (eq_of_beq q)) λi q10=>?_;subst q10;rfl
 ·refine i9 (List.mem_map.mp q) λi _ q8=>?_;subst q8;rfl
 ·refine i9 (List.mem_map.mp q) λi hi q9=>?_;subst q9;have:=hl i hi;exact List.mem_map.mpr ⟨i.toNat,List.mem_range.mpr (c04 this),by refine b9 (Int.toNat_of_nonneg this.1) ?_;rfl⟩
 obtain ⟨⟨o,ep,t,ho',hex,hd,l',md⟩,ks⟩:=S;have hlen:L'.length < 64:=by rcases l'.ti.size with ⟨_,q⟩ | ⟨_,q⟩ <;> omega
 have st1:k9 G w N8 H s H {s with heap:=h',toks:=tk}:=.kept R he
 have inn:∀ x∈L',∃ i t,x.2.1=.int i/\x.2.2=.int i t:=λx hx=>a1D (ks x hx).1 (ks x hx).2;refine y0 st1 (a8I (b5l (w:=w) (G:=G) s.heap.objs.size L' ep) al.h st1.rel ⟨⟨o,t,ho',hex,hd,l',md.led,md.plain λv q=>eq_of_beq q⟩⟩ hlen (L'.map λx=>a3O x.2.1) (λacc hacc=>?_) ?_)
 ·have hp:=a4m w s.heap.objs.size ep L';have e1:acc.toList=(a0I w s.heap.objs.size ep L').map (·.2):=by
   apply List.ext_getElem?;intro i;refine b9 List.getElem?_map ?_;refine b9 Array.getElem?_toList ?_;have hl1:(a0I w s.heap.objs.size ep L').length=L'.length:=by refine b9 hp.length_eq ?_;refine b9 Array.length_toList ?_;refine b9 (s0 ..) ?_;rfl
   cases q:acc[i]? with
   | none =>
    have:L'.length<=i:=by refine t6 hacc.1 ?_;exact Array.getElem?_eq_none_iff.mp q
    refine b9 (List.getElem?_eq_none (c5P hl1 this)) ?_;rfl
   | some v =>
    refine i9 (hacc.2 i v q) λx h1 q5=>?_;subst q5;refine b9 h1 ?_;rfl
  have hp2:acc.toList.Perm (L'.map (·.2.2)):=by
   refine b9 e1 ?_;refine (hp.map _).trans ?_;show ((L'.map λx=>(n6 w x.2.1,x.2.2)).map _).Perm _;refine b9 List.map_map ?_;exact List.Perm.refl _
  have hall:∀ v∈acc.toList,∃ i t,v=.int i t:=λv hv=>by
   refine i9 (List.mem_map.mp (hp2.mem_iff.mp hv)) λx hx q13=>?_;subst q13;refine A6 (inn x hx) λi t _ e=>?_;exact ⟨i,t,e⟩
  refine ⟨acc.toList.map vint?,b3B hall,(hp2.map vint?).trans ?_⟩;refine b9 List.map_map ?_;refine List.Perm.of_eq (List.map_congr_left λx hx=>?_);refine A6 (inn x hx) λi t e e'=>?_;show vint? x.2.2=a3O x.2.1;refine b9 e ?_;refine b9 e' ?_;rfl
 ·have e2:∀ i,i∈T2 (L'.map λx=>a3O x.2.1)↔i∈l:=λi=>by
   rewrite [(X7 (L'.map λx=>a3O x.2.1)).mem_iff];constructor
   ·intro hi;refine i9 (List.mem_map.mp hi) λx hx q11=>?_;subst q11;refine A6 (inn x hx) λj t e _=>?_;have:=(kq x.2.1).mp (List.mem_map.mpr ⟨x,hx,rfl⟩);rw [e] at this ⊢;refine i9 (List.mem_map.mp this) λj' h1 h2=>?_;cases h2;exact h1
   ·intro hi;have:=(kq (.int i)).mpr (List.mem_map.mpr ⟨i,hi,rfl⟩);refine i9 (List.mem_map.mp this) λx hx e=>?_;exact List.mem_map.mpr ⟨x,hx,by refine b9 e ?_;rfl⟩
  have nd:(L'.map λx=>a3O x.2.1).Nodup:=by
   refine List.Pairwise.map _ (λa b h=>h) (List.Pairwise.imp_of_mem (R:=λa b=>a.2.1≠b.2.1) (λ{a b} ha hb hne e=>?_) (List.pairwise_map.mp l'.ti.nod));refine A6 (inn a ha) λi t e1 _=>?_;refine A6 (inn b hb) λj t' e2 _=>?_;rw [e1,e2] at e hne;exact hne (congrArg d8.int e)
  have srt:(T2 (L'.map λx=>a3O x.2.1)).Pairwise (· < ·):=by
   have a1:=a4I (L'.map λx=>a3O x.2.1);have a2:(T2 (L'.map λx=>a3O x.2.1)).Nodup:=(X7 _).nodup_iff.mpr nd;exact (a1.and a2).imp λ⟨h1,h2⟩=>Int.lt_iff_le_and_ne.mpr ⟨h1,h2⟩
  refine ⟨?_,h _ srt e2⟩;refine b9 (c7x ..) ?_;refine b9 ((X7 _).length_eq) ?_;refine b9 (c7x ..) ?_;unfold o5;exact c18 hlen
end
end
variable {Q:m7}
section
open PySem PySem.W PyProof.Rows PySem.Calls
open Classical
section
variable {prog:Program} {w:World} {G:Gi} {n m:Nat} {c:Cx}
theorem b8d:a3a prog w G n m .min:=λA s H vs us Q al R rv h=>by
 revert h;intro q2;refine A6 q2 λi j q1 h=>?_;clear q2;subst q1;refine k8 (b3V rv) λu u' q7 r1 r2=>?_;subst q7;refine eE (N0 r1) λt q3=>?_;subst q3;refine eE (N0 r2) λt' q4=>?_;subst q4;refine min_two_ints al.h λh' tk hk=>?_;by_cases hc:j < i
 ·refine b9 (if_pos hc) ?_;rw [Int.min_eq_right (c0x hc)] at h;exact ⟨_,H,.int,.kept R hk,h⟩
 ·refine b9 (if_neg hc) ?_;rw [Int.min_eq_left (c1s hc)] at h;exact ⟨_,H,.int,.kept R hk,h⟩
theorem a90:a3a prog w G n m .sorted:=λA s H vs us Q al R rv h=>by
 refine I6 h λa l q6 e hl q=>?_;clear h;subst q6;refine i9 (a1x rv) λu q5 r0=>?_;subst q5;cases R4 r0;refine A6 (R.objs _ _ e) λws k ho r=>?_;have e1:l.length=ws.toList.length:=by have:=r.length;rwa [c7x] at this
 refine sorted_ints (vs:=ws.toList) (ns:=l) ⟨_,ho,rfl,k,by refine b9 Array.toArray_toList ?_;rfl⟩ r.toInts (b9v hl e1) λout ns' a1 a2 a3=>?_
 have hz:ns'=T2 l:=List.Perm.eq_of_pairwise (le:=λa b:Int=>a<=b) (λa b _ _ h1 h2=>Int.le_antisymm h1 h2) a3 (a4I l) (a2.trans (X7 l).symm);subst hz;have f1:=E9 R (Nat.le_succ s.heap.objs.size);have hne:∀ b o,s.heap.get? b=some o->b≠s.heap.objs.size+1:=λb o e z=>by subst z;rw [f1.1] at e;cases e
 have hne0:∀ b o,s.heap.get? b=some o->b≠s.heap.objs.size:=λb o e z=>by subst z;rw [(E9 R (Nat.le_refl s.heap.objs.size)).1] at e;cases e
 unfold sortedAll sortedHeap;have g0:(((s.heap.push (seqObj "list" #[] 0)).update s.heap.objs.size (Obj.mapSeq (·++ws.toList.toArray))).push (seqObj "list" ws.toList.toArray 0)).get? (s.heap.objs.size+1)=some (seqObj "list" ws.toList.toArray 0):=by
  have:=Heap.get?_push_size ((s.heap.push (seqObj "list" #[] 0)).update s.heap.objs.size (Obj.mapSeq (·++ws.toList.toArray))) (o:=seqObj "list" ws.toList.toArray 0) rfl;rwa [Heap.size_update,size_push'] at this
 have g1:=get?_update_seq g0 (λ_=>#[]);have g2:=get?_update_seq (Heap.get?_push_of_some (seqObj "list" #[] 0) (Heap.get?_push_of_some (seqObj "tuple" ws.toList.toArray 0) g1)) (λ_=>out);have keep:∀ b o,s.heap.get? b=some o->(((((((s.heap.push (seqObj "list" #[] 0)).update s.heap.objs.size (Obj.mapSeq (·++ws.toList.toArray))).push (seqObj "list" ws.toList.toArray 0)).update (s.heap.objs.size+1) (Obj.mapSeq λ_=>#[])).push (seqObj "tuple" ws.toList.toArray 0)).push (seqObj "list" #[] 0)).update (s.heap.objs.size+1) (Obj.mapSeq λ_=>out)).get? b=some o:=λb o e=>by
  refine b9 (Heap.get?_update_other _ _ (hne b o e).symm) ?_;refine Heap.get?_push_of_some _ (Heap.get?_push_of_some _ ?_);refine b9 (Heap.get?_update_other _ _ (hne b o e).symm) ?_;refine Heap.get?_push_of_some _ ?_;refine b9 (Heap.get?_update_other _ _ (hne0 b o e).symm) ?_;exact Heap.get?_push_of_some _ e
 exact ⟨.ref _,_,.ref,(k9.kept (tk:=s.toks) R keep).give (mo:=.list ((T2 l).map d8.int)) f1.1 f1.2.1 f1.2.2 ⟨out,_,g2,.of_ints a1⟩,q.2 _ f1.2.1⟩
theorem b6V:∀ b,a3a prog w G n m b
 | .len=>b8c
 | .sum=>b7N
 | .max=>b7T
 | .min=>b8d
 | .sorted=>a90
 | .list=>b5e
 | .tuple=>b4e
 | .int=>b7t
 | .str=>b7X
theorem b1b (g:Gok G c):∀ n,U3 prog w G n:=b2C g (λ_ b=>b6V b) (λ_=>c6Y) λ_=>c6J
end
end
section
open PySem PySem.W PyProof.Rows
noncomputable def a35 (tb:String->Option Builtin) (p:Program) (w:World) (n₀:Nat) (ann:Option Value):Nat->SharedT->Thread->Option SharedT
 | 0,_,_=>none
 | n+1,s,t=>match through t with
  | true=>some s
  | false=>match stepOk n₀ ann t with
   | false=>none
   | true=>match stepT (denote tb) p w s t with
    | some (s',t')=>a35 tb p w n₀ ann n s' t'
    | none=>none
theorem a8h {tb:String->Option Builtin} {p:Program} {n₀:Nat} {ann:Option Value}:∀ {n:Nat} {s s':SharedT} {t:Thread},a35 tb p w n₀ ann n s t=some s'->topRun tb p w n₀ ann n s.abs t=some s'.abs:=by
 intro n;induction n with
 | zero=>intro _ _ _ h;exact nomatch h
 | succ n ih =>
  intro s s' t h;unfold a35 at h;unfold topRun;cases ht:through t with
  | true=>rw [ht] at h;have q1:=A3 h;clear h;subst q1;rfl
  | false =>
   rw [ht] at h;cases hk:stepOk n₀ ann t with
   | false=>rw [hk] at h;cases h
   | true =>
    rw [hk] at h;cases hs:stepT (denote tb) p w s t with
    | none=>rw [hs] at h;cases h
    | some r=>obtain ⟨s₂,t₂⟩:=r;rw [hs] at h;refine b9 (stepT_spec hs) ?_;exact ih h
noncomputable def a9y:List Obj->Nat->BT->Option BT
 | [],_,t=>some t
 | o :: r,n,t=>match ((t.ins n o).get n).isSome with
  | true=>a9y r (n+1) (t.ins n o)
  | false=>none
theorem b2e {life:Life}:∀ {l:List Obj} {n:Nat} {t t':BT},a9y l n t=some t'->(absHeap t' (n+l.length) life).objs=(absHeap t n life).objs++l.toArray:=by
 intro r;induction r with
 | nil=>intro n t t' h;have q2:=A3 h;clear h;subst q2;simp
 | cons o r ih =>
  intro n t t' h;unfold a9y at h;cases q:((t.ins n o).get n).isSome with
  | false=>rw [q] at h;cases h
  | true =>
   rw [q] at h;have:=ih h;rw [absHeap_ins q] at this;refine b9 List.length_cons ?_;refine b9 (show n+(r.length+1)=n+1+r.length by exact b8y) ?_;refine b9 this ?_
   show ((absHeap t n life).push o).objs++_=_;simp [Heap.push]
noncomputable def n8 (s:String):Str:=⟨((PySem.W.S.toListS s).map Char.toNat).toArray⟩
theorem a6c:@Str.ofString=n8:=by
 funext s
 refine b9 Str.ofString_eq_byList ?_;unfold Str.ofStringByList n8;refine b9 PySem.W.S.toListS_eq ?_;rfl
noncomputable def At {α:Type _} {β:Type _} (F:α->β) (f:α) (b:β):Prop:=F f=b
theorem atM {α:Type _} {β:Type _} {F:α->β} {f:α} {b:β} (h:F f=b):At F f b:=h
theorem b6w {α:Type _} {β:Type _} (F:α->β) (f:α):F f=F f:=rfl
noncomputable def b1F:{F:(String->Str)->Params->Heap // At F Str.ofString boot_heap}:=by
 refine ⟨?F,?h⟩
 case h =>
  refine atM ((?z:((?F:(String->Str)->Params->Heap) Str.ofString=boot_heap)->(?F:(String->Str)->Params->Heap) Str.ofString=boot_heap) ?w)
  case w =>
   unfold boot_heap;unfold boot_o_0 boot_o_1 boot_o_2 boot_o_3 boot_o_4 boot_o_5 boot_o_6 boot_o_7 boot_o_8 boot_o_9 boot_o_10;generalize Str.ofString=f;exact b6w _ _
  case z=>intro _;exact Eq.refl boot_heap
noncomputable def b6F:{h:Params->Heap // h=boot_heap}:=⟨b1F.1 n8,(congrArg b1F.1 a6c.symm).trans b1F.2⟩
noncomputable def a60 (h:Params->Heap) (w:World):Option BT:=a9y (h w.params).objs.toList 0 .nil
noncomputable def stT (h:Params->Heap) (b:BT) (w:World) (os:OsState):SharedT:=⟨b,(h w.params).objs.size,(h w.params).life,#[],boot_drawn,boot_toks,os⟩
theorem b14 {h:Params->Heap} {b:BT} (hb:a60 h w=some b) (os:OsState):(stT h b w os).abs=⟨h w.params,#[],boot_drawn,boot_toks,os⟩:=by
 have:=b2e (life:=(h w.params).life) hb;unfold SharedT.abs stT;have e:(h w.params).objs.size=0+(h w.params).objs.toList.length:=by refine b9 (Nat.zero_add ..) ?_;refine b9 Array.length_toList ?_;rfl
 have:absHeap b (h w.params).objs.size (h w.params).life=h w.params:=by
  refine b9 e ?_;show Heap.mk (absHeap b _ (h w.params).life).objs _=_;refine b9 this ?_;have z:(absHeap .nil 0 (h w.params).life).objs=#[]:=rfl;refine b9 z ?_;simp
 simp only [this]
noncomputable def b4K {α:Type} (h:Params->Heap) (p:Program) (f:Shared->α) (N:Nat) (b:BT) (w:World) (os:OsState):Option α :=
 match (stT h b w os).abs.heap.isNs mainGlobals with
 | true=>(a35 treeTable p w (h w.params).objs.size ((stT h b w os).abs.heap.nsMap mainGlobals "__annotations__") N (stT h b w os) (topStub p)).bind λs₁ =>
  match staticsOk (importedModules p.main.body) (stT h b w os).abs.heap s₁.abs.heap&&namesBound p s₁.abs.heap&&gensDone s₁.abs&&laidKept (stT h b w os).abs.heap s₁.abs.heap with
  | true=>some (f s₁.abs)
  | false=>none
 | false=>none
theorem b0m {p q:Program} {loose:List Str} {Xt:Shared->Bool} {α:Type} {Yf:Shared->α} {Ya:World->α} {N:Nat} (e:opening p=plainProg p.main.scope.names) (hN:Nat.ble 600 N=true) (f:∀ s,fenceModules? p s=some s)
  (H:∀ w,(λos=>(a60 boot_heap w).bind λb=>b4K boot_heap p (λs=>(openSeen q loose (importedModules p.main.body) Xt true s,Yf s)) N b w os)=λ_=>some (openGood q loose,Ya w)):LeftO p q loose Xt Yf Ya N:=λw=>by
 refine i9 (Option.map_eq_some_iff.mp (boot_open (N:=N) e hN f w)) λs₀ hs hv=>?_;have hw:=congrFun (H w) s₀.os;cases hb:a60 boot_heap w with
 | none=>rw [hb] at hw;cases hw
 | some b =>
  rw [hb,Option.bind_some] at hw;have hv1:=congrArg (·.1) hv;have hv2:=congrArg (·.2.1) hv;have hv3:=congrArg (·.2.2.1) hv;have hv4:=congrArg (·.2.2.2) hv;dsimp only at hv1 hv2 hv3 hv4;have ha:(stT boot_heap b w s₀.os).abs=s₀:=by
   rewrite [b14 hb];refine t6 hv1 ?_;refine t6 hv3 ?_;refine t6 hv4 ?_;have:s₀.gens=#[]:=hv2;refine t6 this ?_;rfl
  have hz:(boot_heap w.params).objs.size=s₀.heap.objs.size:=by refine t6 hv1 ?_;rfl
  unfold b4K at hw;rw [ha,hz] at hw;unfold openEnds;refine b9 hs ?_;show ((topFrom treeTable p w N s₀)).map _=_;unfold topFrom;cases hn:s₀.heap.isNs mainGlobals with
  | false=>rw [hn] at hw;cases hw
  | true =>
   rw [hn] at hw;refine i9 (Option.bind_eq_some_iff.mp hw) λs₁ h1 h2=>?_;have h3:=a8h h1;rw [ha] at h3;have hg:(s₀.gens.size==0)=true:=by
    have:s₀.gens=#[]:=hv2;refine b9 this ?_;rfl
   refine b9 hg ?_;show ((topRun treeTable p w s₀.heap.objs.size _ N s₀ (topStub p)).bind _).map _=_;refine b9 h3 ?_;refine b9 (Option.bind_some ..) ?_
   split at h2
   ·rename_i hc;refine b9 hc ?_;exact h2
   ·cases h2
structure FE where
 cs:Option Str
 s:Str
 a:Addr
structure Tab where
 as:List Addr
 fns:List Str
 clss:List Str
 attrs:List Str
 cl:List (Str×Addr)
 fes:List FE
noncomputable abbrev Txt:=Arguments×List Stmt×Scope
noncomputable def cnm:Option Str->Nm
 | none=>0
 | some c=>nm c
noncomputable def a5b (x:Option (Option Value)) (v:Option Value):Bool:=x==some v
noncomputable def a2T (T:Tab) (c:Str):Option Addr:=(T.cl.find? λp=>p.1==c).map (·.2)
noncomputable def b6O (K:Frag) (e:FE) (fd:FuncData):Bool:=fd.globals==mainGlobals&&fd.closure.isEmpty&&fd.defaults==.none&&fd.builtins==builtinsNs&&codeIn K fd.code fd.qualname&&typeIn K (.ref e.a)==some (.type "function")&&y6 e.s
noncomputable def a65 (K:Frag) (T:Tab) (e:FE):Bool:=match e.cs with
 | none=>a5b (nsIn K mainGlobals e.s) (some (.ref e.a))&&T.fns.contains e.s
 | some c=>(a2T T c).isSome&&((a2T T c).all λC=>a5b (findIn K (.ref C) e.s) (some (.ref e.a)))
noncomputable def a3z (K:Frag) (T:Tab) (e:FE):Option Txt:=match K.lookup e.a with
 | some ⟨_,_,.func fd,_⟩=>(match fd.body with
  | .stmts body=>gd (b6O K e fd&&a65 K T e) (some (fd.params,body,fd.scope))
  | _=>none)
 | _=>none
noncomputable def b20 (K:Frag) (T:Tab) (p:Str×Addr):Bool:=((clsIn K p.2).any λcd=>cd.hasDict)&&a5b (findIn K (.ref p.2) "__getattribute__") (some (.builtin "object.__getattribute__"))&&a5b (findIn K (.ref p.2) "__getattr__") none &&
 a5b (findIn K (.ref p.2) "__setattr__") (some (.builtin "object.__setattr__"))&&plainOver K p.2&&makesIn K p.2&&(T.attrs.all λx=>a5b (findIn K (.ref p.2) x) none) &&
 a5b (nsIn K mainGlobals p.1) (some (.ref p.2))&&keepIn K (.ref p.2)&&y6 p.1
noncomputable def b4c (K:Frag) (T:Tab) (p:Str×Value):Bool:=a5b (nsIn K mainGlobals p.1) none&&a5b (nsIn K builtinsNs p.1) (some p.2)&&!T.fns.contains p.1&&!T.clss.contains p.1
noncomputable def a6r (K:Frag) (T:Tab):Bool:=(T.cl.all (b20 K T))&&(a01.all λp=>(T.fns.contains p.1||T.clss.contains p.1)||b4c K T p)
noncomputable def a9e (T:Tab):Bool:=(T.clss.all λx=>(a2T T x).isSome)&&(T.fns.all λx=>!(T.clss.contains x))&&(T.fns.all λx=>T.fes.any λe=>e.cs.isNone&&e.s==x) &&
 (T.fes.all λe=>e.cs.all λc=>T.clss.contains c)
noncomputable def a2I (h:Heap):List Addr->Option Frag
 | []=>some []
 | a :: r=>match h.get? a with
  | some o=>(a2I h r).map λK=>(a,o) :: K
  | none=>none
theorem a8S:∀ {as:List Addr} {K:Frag},a2I h as=some K->K.In h:=by
 intro r;induction r with
 | nil=>intro K e;have q1:=A3 e;clear e;subst q1;intro a o e;cases e
 | cons b r ih =>
  intro K e;unfold a2I at e;cases q:h.get? b with
  | none=>rw [q] at e;cases e
  | some ob =>
   rw [q] at e;refine i9 (Option.map_eq_some_iff.mp e) λK' h1 q9=>?_;subst q9;intro a o e;simp only [List.lookup] at e
   split at e
   ·rename_i z;have q2:=A3 e;clear e;subst q2;refine b9 (eq_of_beq z) ?_;exact q
   ·exact ih h1 a o e
noncomputable def a2C (T:Tab) (s:Shared):Bool×List (Option Txt):=match a2I s.heap T.as with
 | some K=>(a6r K T&&s.heap.isNs cStatics&&(s.heap.nsMap cStatics "sys.recursionlimit").isNone&&(s.heap.get? sysModules).isSome,T.fes.map (a3z K T))
 | none=>(false,[])
structure a98 (T:Tab) (tx:List (Option Txt)) (h:Heap):Prop where
 ex:∃ K,Frag.In K h/\a6r K T=true/\T.fes.map (a3z K T)=tx
 o5:h.NoLimit
 sysm:(h.get? sysModules).isSome=true
theorem a9F {T:Tab} {tx:List (Option Txt)} (e:a2C T s=(true,tx)):a98 T tx s.heap:=by
 unfold a2C at e;cases q:a2I s.heap T.as with
 | none=>rw [q] at e;cases e
 | some K =>
  rw [q] at e;injection e with e1 e2
  simp only [Bool.and_eq_true,Option.isNone_iff_eq_none] at e1;exact ⟨⟨K,a8S q,e1.1.1.1,e2⟩,⟨_,.of_isNs e1.1.1.2,e1.1.2⟩,e1.2⟩
theorem a4X {T:Tab} {tx:List (Option Txt)} {h h':Heap} (x:a98 T tx h) (k:∀ b o,h.get? b=some o->h'.get? b=some o):a98 T tx h':=by
 obtain ⟨⟨K,a,b,c⟩,l,m⟩:=x;refine ⟨⟨K,a.keeps k,b,c⟩,l.keeps k,?_⟩;refine eE (Option.isSome_iff_exists.mp m) λo e=>?_;refine b9 (k _ _ e) ?_;rfl
noncomputable def c6B (T:Tab) (tx:List (Option Txt)):Hook:=⟨_,a2C T,λ_=>(true,tx),λ_ h=>a98 T tx h,λ_ _ e=>a9F e,λ_ _ _ x k=>a4X x k⟩
noncomputable def a6i (s:Str):List Stmt->Option Txt
 | []=>none
 | x :: r=>match x with
  | .FunctionDef n a b _ _ _ sc _ _ _=>bif n==s then some (a,b,sc) else a6i s r
  | _=>a6i s r
noncomputable def c3E (cs:Option Str) (s:Str) (l:List Stmt):Option Txt:=match cs with
 | none=>a6i s l
 | some c=>(l.findSome? λx=>match x with
  | .ClassDef n _ _ b _ _ _ _ _ _ _=>bif n==c then some b else none
  | _=>none).bind (a6i s)
noncomputable def a74 (T:Tab) (p:Program):List (Option Txt):=T.fes.map λe=>c3E e.cs e.s p.main.body
noncomputable def b6a (t:Txt):Bool:=t.2.2.kind==.function&&!t.2.2.isCoroutine&&!t.2.2.isGenerator&&decide ((t.1.args.map (·.arg)).Nodup)&&t.1.args.all λa=>a7h t.2.2 a.arg
noncomputable def a5v (T:Tab) (t:Txt):Option Fn:=gd (b6a t) (trF T.fns T.clss T.attrs t.1 t.2.1 t.2.2)
noncomputable def c2Y (T:Tab) (p:Program):List (Option Fn):=(a74 T p).map λo=>o.bind (a5v T)
noncomputable def a6h (T:Tab) (fds:List Fn) (c n:Nm):Option (FE×Fn):=(T.fes.zip fds).find? λe=>Nat.beq (cnm e.1.cs) c&&Nat.beq (nm e.1.s) n
noncomputable def a96 (T:Tab) (c:Nm):Option Addr:=(T.cl.find? λp=>Nat.beq (nm p.1) c).map (·.2)
noncomputable def a8C (T:Tab) (fds:List Fn) (K:Frag) (h:Heap) (sa:Addr) (sl:List Int) (os:OsState):Gi :=
 {base:=h.get?,K:=K,fa:=λc n=>(a6h T fds c n).map (·.1.a),ca:=a96 T,sa:=sa,sl:=sl,os:=os,F:=λc n=>(a6h T fds c n).map (·.2)}
noncomputable def b49 (T:Tab):Cx:=⟨[],T.fns,T.clss,T.attrs,[]⟩
theorem b2M (x:Str):0 < nm x:=by
 have:∀ (l:List Nat) (a:Nat),0 < a->0 < l.foldl (λa c=>a * 128+c) a:=by
  intro l;induction l with
  | nil=>exact λa h=>h
  | cons c l ih=>exact λa h=>ih _ (Nat.lt_of_lt_of_le (Nat.mul_pos h (by decide)) (Nat.le_add_right _ _))
 exact this _ 1 (by decide)
theorem W0 {x:Option (Option Value)} {v:Option Value} (h:a5b x v=true):x=some v:=eq_of_beq h
section
variable {T:Tab} {K:Frag} {fds:List Fn} {tx:List (Option Txt)}
structure b55 (K:Frag) (T:Tab) (e:FE) (fd:Fn) (t:Txt):Prop where
 tx:a3z K T e=some t
 tr:a5v T t=some fd
theorem b2q (htx:T.fes.map (a3z K T)=tx) (htr:tx.map (λo=>o.bind (a5v T))=fds.map some) {c n:Nm} {e:FE} {fd:Fn} (h:a6h T fds c n=some (e,fd)):cnm e.cs=c/\nm e.s=n/\e∈T.fes/\∃ t,b55 K T e fd t:=by
 have h1:=List.find?_some h;have h2:=List.mem_of_find?_eq_some h;rw [Bool.and_eq_true] at h1;refine ⟨Nat.eq_of_beq_eq_true h1.1,Nat.eq_of_beq_eq_true h1.2,(List.of_mem_zip h2).1,?_⟩;refine eE (List.mem_iff_getElem?.mp h2) λi hi=>?_;rw [List.getElem?_zip_eq_some] at hi;have e1:=congrArg (·[i]?) htr;subst htx;simp only [List.getElem?_map,hi.1,hi.2,Option.map_some] at e1;refine i9 (Option.bind_eq_some_iff.mp (Option.some.inj e1)) λt h3 h4=>?_
 exact ⟨t,h3,h4⟩
inductive c3r (K:Frag) (e:FE) (t:Txt):Prop
 | mk:∀ name qual kV doc pm an cdv ct oc od osl,K.lookup e.a=some ⟨oc,od,.func (fnOf name qual t.1 t.2.1 t.2.2 .none kV doc pm an cdv ct),osl⟩->codeIn K cdv qual=true->c3r K e t
structure FnP (K:Frag) (T:Tab) (e:FE) (t:Txt):Prop where
 tx:c3r K e t
 ty:typeIn K (.ref e.a)=some (.type "function")
 asc:y6 e.s=true
 top:e.cs=none->nsIn K mainGlobals e.s=some (some (.ref e.a))
 cl:∀ c,e.cs=some c->∃ C,a2T T c=some C/\findIn K (.ref C) e.s=some (some (.ref e.a))
theorem b8q {e:FE} (h:a65 K T e=true) (q:e.cs=none):nsIn K mainGlobals e.s=some (some (.ref e.a)):=by
 unfold a65 at h;rw [q] at h;exact W0 (Bool.and_eq_true_iff.mp h).1
theorem c1f {e:FE} (h:a65 K T e=true) {c:Str} (q:e.cs=some c):∃ C,a2T T c=some C/\findIn K (.ref C) e.s=some (some (.ref e.a)):=by
 unfold a65 at h;rw [q] at h;refine eA (Bool.and_eq_true_iff.mp h) λh1 h2=>?_;refine eE (Option.isSome_iff_exists.mp h1) λC hC=>?_;rw [hC] at h2;exact ⟨C,hC,W0 h2⟩
theorem a0F {e:FE} {t:Txt} (h:a3z K T e=some t):FnP K T e t:=by
 unfold a3z at h;cases hl:K.lookup e.a with
 | none=>rw [hl] at h;exact nomatch h
 | some o =>
  rw [hl] at h;obtain ⟨oc,od,data,osl⟩:=o;cases data with
  | func fd =>
   obtain ⟨name,qual,params,bd,scope,gl,clo,dv,kv,doc,pm,an,cdv,ct,blt⟩:=fd;cases bd with
   | stmts body =>
    refine eA (o8 h) λq h=>?_;refine eA (Bool.and_eq_true_iff.mp q) λq1 q2=>?_;have q3:=A3 h;clear h;subst q3;simp only [b6O,Bool.and_eq_true,beq_iff_eq,List.isEmpty_iff] at q1;refine eA q1 λq14 g7=>?_;clear q1;refine eA q14 λq15 g6=>?_;clear q14;refine eA q15 λq16 g5=>?_;clear q15;refine eA q16 λq17 g4=>?_;clear q16;refine eA q17 λq18 g3=>?_;clear q17;refine eA q18 λg1 g2=>?_;clear q18
    cases g1;cases g2;cases g3;cases g4;exact ⟨⟨name,qual,kv,doc,pm,an,cdv,ct,oc,od,osl,hl,g5⟩,g6,g7,b8q q2,λ_=>c1f q2⟩
   | _=>exact nomatch h
  | _=>exact nomatch h
theorem a6l {c:Str} {C:Addr} (h:a2T T c=some C):(c,C)∈T.cl:=by
 refine i9 (Option.map_eq_some_iff.mp h) λp h1 q7=>?_;subst q7;refine t6 (eq_of_beq (List.find?_some (p:=λp:Str×Addr=>p.1==c) h1)) ?_;exact List.mem_of_find?_eq_some h1
theorem a8j {c:Nm} {C:Addr} (h:a96 T c=some C):∃ s,(s,C)∈T.cl/\nm s=c:=by
 refine i9 (Option.map_eq_some_iff.mp h) λp h1 q8=>?_;subst q8;exact ⟨p.1,List.mem_of_find?_eq_some h1,Nat.eq_of_beq_eq_true (List.find?_some (p:=λp:Str×Addr=>Nat.beq (nm p.1) c) h1)⟩
theorem b3Y (ha:∀ p∈T.cl,y6 p.1=true) {c:Str} (hc:y6 c=true):a96 T (nm c)=a2T T c:=by
 have:∀ l:List (Str×Addr),(∀ p∈l,y6 p.1=true)->(l.find? λp=>Nat.beq (nm p.1) (nm c))=l.find? λp=>p.1==c:=by
  intro l;induction l with
  | nil=>intro _;rfl
  | cons p l ih =>
   intro h;have e:Nat.beq (nm p.1) (nm c)=(p.1==c):=by
    cases q:p.1==c with
    | true=>refine b9 (eq_of_beq q) ?_;exact Nat.beq_refl _
    | false =>
     cases z:Nat.beq (nm p.1) (nm c) with
     | false=>rfl
     | true =>
      rw [N7 (h p (List.mem_cons_self)) hc (Nat.eq_of_beq_eq_true z)] at q;simp at q
   refine b9 List.find?_cons ?_;refine b9 List.find?_cons ?_;refine b9 e ?_;refine b9 (ih λq hq=>h q (List.mem_cons_of_mem _ hq)) ?_;rfl
 unfold a96 a2T;refine b9 (this T.cl ha) ?_;rfl
structure c6O (K:Frag) (T:Tab) (p:Str×Addr):Prop where
 ok:b3x K p.2
 at_:∀ x∈T.attrs,findIn K (.ref p.2) x=some none
 ns:nsIn K mainGlobals p.1=some (some (.ref p.2))
 keep:keepIn K (.ref p.2)=true
 asc:y6 p.1=true
theorem b8C {sa:Addr} {sl:List Int} {os:OsState} (ok:a9e T=true) (X:K.In h) (chk:a6r K T=true) (htx:T.fes.map (a3z K T)=tx) (o5:h.NoLimit) (sysm:(h.get? sysModules).isSome=true) (htr:tx.map (λo=>o.bind (a5v T))=fds.map some)
  (script:∃ o vs n,h.get? sa=some o/\o.cls=.type "list"/\o.data=.seq vs n/\IntsAre vs.toList sl):Gok (a8C T fds K h sa sl os) (b49 T):=by
 simp only [a6r,a9e,Bool.and_eq_true,List.all_eq_true] at chk ok;refine eA chk λc1 c2=>?_;clear chk;refine eA ok λq5 o4=>?_;clear ok;refine eA q5 λq6 o3=>?_;clear q5;refine eA q6 λo1 o2=>?_;clear q6;have cc:∀ p∈T.cl,c6O K T p:=λp hp=>by
  have:=c1 p hp;simp only [b20,Bool.and_eq_true,List.all_eq_true,Option.any_eq_true] at this;refine eA this λq19 a10=>?_;clear this;refine eA q19 λq20 a9=>?_;clear q19;refine eA q20 λq21 a8=>?_;clear q20;refine eA q21 λq22 a7=>?_;clear q21;refine eA q22 λq23 a6=>?_;clear q22;refine eA q23 λq24 a5=>?_;clear q23;refine eA q24 λq25 a4=>?_;clear q24;refine eA q25 λq26 a3=>?_;clear q25;refine eA q26 λa1 a2=>?_;clear q26
  exact ⟨⟨a1,W0 a2,W0 a3,W0 a4,a5,a6⟩,λx hx=>W0 (a7 x hx),W0 a8,a9,a10⟩
 have asc:∀ p∈T.cl,y6 p.1=true:=λp hp=>(cc p hp).asc;have keepOf:∀ e t,a3z K T e=some t->keepIn K (.ref e.a)=true:=λe t h=>by
  obtain ⟨_,_,_,_,_,_,_,_,_,_,_,hl,_⟩:=(a0F h).tx;show (match K.lookup e.a with | some ⟨_,_,.func _,_⟩=>true | some ⟨_,_,.cls _,_⟩=>_ | _=>false)=true
  refine b9 hl ?_;rfl
 have row:∀ e∈T.fes,∃ i fd t,T.fes[i]?=some e/\fds[i]?=some fd/\b55 K T e fd t:=λe he=>by
  refine eE (List.mem_iff_getElem?.mp he) λi hi=>?_;have e1:=congrArg (·[i]?) htr;rw [<- htx] at e1;simp only [List.getElem?_map,hi,Option.map_some] at e1;cases q:fds[i]? with
  | none=>rw [q] at e1;cases e1
  | some fd =>
   rw [q] at e1;refine i9 (Option.bind_eq_some_iff.mp (Option.some.inj e1)) λt h3 h4=>?_;exact ⟨i,fd,t,hi,q,h3,h4⟩
 have at0:∀ x,T.fns.contains x=true->∃ e fd t,a6h T fds 0 (nm x)=some (e,fd)/\e.cs=none/\e.s=x/\b55 K T e fd t:=λx hx=>by
  have:=o3 x (List.contains_iff_mem.mp hx);refine i9 (List.any_eq_true.mp this) λe0 h0 h1=>?_;rw [Bool.and_eq_true] at h1;refine a2t (row e0 h0) λi fd t i1 i2 f0=>?_;have e0s:e0.s=x:=eq_of_beq h1.2;have e0c:e0.cs=none:=Option.isNone_iff_eq_none.mp h1.1;cases q:a6h T fds 0 (nm x) with
  | none =>
   have:=List.find?_eq_none.mp q (e0,fd) (List.mem_iff_getElem?.mpr ⟨i,List.getElem?_zip_eq_some.mpr ⟨i1,i2⟩⟩);rw [e0c,e0s] at this;exact absurd (by refine b9 (Bool.and_eq_true ..) ?_;exact ⟨Nat.beq_refl _,Nat.beq_refl _⟩) this
  | some p =>
   obtain ⟨e,fd'⟩:=p;refine a9k (b2q htx htr q) λh2 h3 h4 t' f'=>?_;refine ⟨e,fd',t',rfl,?_,N7 (a0F f'.tx).asc (e0s▸(a0F f0.tx).asc) h3,f'⟩;cases z:e.cs with
   | none=>rfl
   | some c=>rw [z] at h2;exact absurd h2 (Nat.ne_of_gt (b2M c))
 have feF:∀ c n fd,(a8C T fds K h sa sl os).F c n=some fd->∃ e t,a6h T fds c n=some (e,fd)/\cnm e.cs=c/\nm e.s=n/\e∈T.fes/\b55 K T e fd t:=λc n fd hF=>by
  refine i9 (Option.map_eq_some_iff.mp hF) λq12 h1 q13=>?_;obtain ⟨e,fd'⟩:=q12;subst q13;refine a9k (b2q htx htr h1) λh2 h3 h4 t f=>?_;exact ⟨e,t,h1,h2,h3,h4,f⟩
 refine {K:=X,sysm:=sysm,script:=script,cl:=λcn C hC=>?_,at_:=λcn C x hC hx=>?_,me:=λcn C x fd hC hx hF=>?_,fn:=λx hx=>?_,cls:=λx hx=>?_,fun_:=λcn name fd hF=>?_,keepf:=λname f hf=>?_,nolim:=λh' k=>o5.keeps k,blt:=λx v hv h1 h2=>?_}
 ·refine i9 (a8j hC) λs hs _=>?_;exact (cc _ hs).ok
 ·refine i9 (a8j hC) λs hs _=>?_;exact (cc _ hs).at_ x (List.contains_iff_mem.mp hx)
 ·refine C8 (feF _ _ _ hF) λe t h1 h2 h3 h4 f=>?_;refine i9 (a8j hC) λs hs hn=>?_;have g:=a0F f.tx;have ex:e.s=x:=N7 g.asc hx h3;cases z:e.cs with
  | none=>rw [z] at h2;rw [<- hn] at h2;exact absurd h2.symm (Nat.ne_of_gt (b2M s))
  | some c =>
   refine i9 (g.cl c z) λC' hC' hf=>?_;rw [z] at h2;have:c=s:=N7 (asc _ (a6l hC')) (asc _ hs) (h2.trans hn.symm);have e2:a96 T cn=a2T T c:=by refine t6 h2 ?_;exact b3Y asc (asc _ (a6l hC'))
   rw [show (a8C T fds K h sa sl os).ca cn=a96 T cn from rfl,e2,hC'] at hC;have q4:=A3 hC;clear hC;subst q4;refine ⟨e.a,?_,ex▸hf,g.ty⟩;show (a6h T fds cn (nm x)).map _=_;refine b9 h1 ?_;rfl
 ·refine U4 (at0 x hx) λe fd t h1 h2 h3 f=>?_;refine ⟨?_,e.a,?_,?_,keepOf e t f.tx⟩
  ·have:=o2 x (List.contains_iff_mem.mp hx);rw [Bool.not_eq_true'] at this;exact this
  ·show (a6h T fds 0 (nm x)).map _=_;refine b9 h1 ?_;rfl
  ·refine t6 h3 ?_;exact (a0F f.tx).top h2
 ·have hs:=o1 x (List.contains_iff_mem.mp hx);refine eE (Option.isSome_iff_exists.mp hs) λC hC=>?_;have hm:=a6l hC;refine ⟨?_,C,(b3Y asc (asc _ hm)).trans hC,(cc _ hm).ns,(cc _ hm).keep⟩;show T.fns.contains x=false;cases z:T.fns.contains x with
  | false=>rfl
  | true =>
   have:=o2 x (List.contains_iff_mem.mp z);rw [show T.clss.contains x=true from hx] at this;cases this
 ·refine C8 (feF _ _ _ hF) λe t h1 h2 h3 h4 f=>?_;obtain ⟨name',qual,kV,doc,pm,an,cdv,ct,oc,od,osl,hl,hc⟩:=(a0F f.tx).tx;refine eA (o8 f.tr) λt1 t2=>?_;simp only [b6a,Bool.and_eq_true,beq_iff_eq,Bool.not_eq_true',decide_eq_true_eq] at t1;refine ⟨e.a,?_,⟨name',qual,t.1,t.2.1,t.2.2,kV,doc,pm,an,cdv,ct,oc,od,osl,hl,hc,t2,t1.1.1.1.1,t1.1.1.1.2,t1.1.1.2,t1.1.2,t1.2⟩,keepOf e t f.tx⟩;show (a6h T fds cn name).map _=_
  refine b9 h1 ?_;rfl
 ·refine i9 (Option.map_eq_some_iff.mp hf) λq10 h1 q11=>?_;obtain ⟨e,fd⟩:=q10;subst q11;refine a9k (b2q htx htr h1) λ_ _ _ t f=>?_;exact keepOf e t f.tx
 ·have hm:(x,v)∈a01:=N1 hv;have:=c2 _ hm;rw [show (b49 T).fns.contains x=T.fns.contains x from rfl] at h1;rw [show (b49 T).clss.contains x=T.clss.contains x from rfl] at h2;rw [h1,h2] at this;simp only [Bool.or_self,Bool.false_or,b4c,Bool.and_eq_true] at this;exact ⟨W0 this.1.1.1,W0 this.1.1.2⟩
end
noncomputable def a4d (T:Tab):List (Nm×Nm):=T.fes.map λe=>(cnm e.cs,nm e.s)
noncomputable def b2Y (ks:List (Nm×Nm)) (fds:List Fn):D4:=λc n=>((ks.zip fds).find? λe=>Nat.beq e.1.1 c&&Nat.beq e.1.2 n).map (·.2)
theorem b5K (T:Tab) (fds:List Fn) (K:Frag) (h:Heap) (sa:Addr) (sl:List Int) (os:OsState):(a8C T fds K h sa sl os).F=b2Y (a4d T) fds:=by
 funext c n
 have:∀ (l:List FE) (fds:List Fn),(((l.zip fds).find? λe=>Nat.beq (cnm e.1.cs) c&&Nat.beq (nm e.1.s) n).map λe=>e.2)=(((l.map λe=>(cnm e.cs,nm e.s)).zip fds).find? λe=>Nat.beq e.1.1 c&&Nat.beq e.1.2 n).map λe=>e.2:=by
  intro l;induction l with
  | nil=>intro fds;rfl
  | cons e l ih =>
   intro fds;cases fds with
   | nil=>rfl
   | cons fd fds =>
    refine b9 List.zip_cons_cons ?_;refine b9 List.map_cons ?_;refine b9 List.zip_cons_cons ?_;refine b9 List.find?_cons ?_;refine b9 List.find?_cons ?_;dsimp only
    split
    ·rfl
    ·exact ih fds
 exact this T.fes fds
end
section
noncomputable abbrev E6:Nm:=408450923
noncomputable abbrev w7:Nm:=879154534510834
noncomputable abbrev o6:Nm:=421097712
noncomputable abbrev v6:Nm:=7348374206323
noncomputable abbrev G8:Nm:=2064649317179264170361
noncomputable abbrev Q5:Nm:=16130072790479434341
noncomputable abbrev N5:Nm:=2064649317181367825907
noncomputable abbrev j9:Nm:=2064649317183246758638
noncomputable abbrev n_a:Nm:=225
noncomputable abbrev t8:Nm:=60605332325
noncomputable abbrev T4:Nm:=992988867869299
noncomputable abbrev a2j:Nm:=3699300
noncomputable abbrev u7:Nm:=7761242453860
noncomputable abbrev n_b:Nm:=226
noncomputable abbrev V8:Nm:=475559787
noncomputable abbrev n_c:Nm:=227
noncomputable abbrev a6J:Nm:=477722220
noncomputable abbrev X9:Nm:=128267992457279462
noncomputable abbrev G5:Nm:=1002093691073267
noncomputable abbrev A8:Nm:=479818219
noncomputable abbrev a1A:Nm:=7861369123955
noncomputable abbrev W6:Nm:=61683135219
noncomputable abbrev K1:Nm:=7900837279588
noncomputable abbrev G2:Nm:=484079460
noncomputable abbrev Y7:Nm:=7932776905204
noncomputable abbrev P2:Nm:=61980899816
noncomputable abbrev a9q:Nm:=3797748
noncomputable abbrev M7:Nm:=486274917
noncomputable abbrev Q6:Nm:=1019892022866162
noncomputable abbrev t7:Nm:=488206576
noncomputable abbrev a39:Nm:=62788204528
noncomputable abbrev a5P:Nm:=1028727313560037
noncomputable abbrev a3f:Nm:=492565742
noncomputable abbrev n_k:Nm:=235
noncomputable abbrev M5:Nm:=494499956
noncomputable abbrev y8:Nm:=3863780
noncomputable abbrev F7:Nm:=494563955
noncomputable abbrev a2a:Nm:=63314852846
noncomputable abbrev a2r:Nm:=3879152
noncomputable abbrev S6:Nm:=496532069
noncomputable abbrev L9:Nm:=63564184052
noncomputable abbrev a1q:Nm:=496661989
noncomputable abbrev T8:Nm:=1041782929879284
noncomputable abbrev a1w:Nm:=3880948
noncomputable abbrev w8:Nm:=496761459
noncomputable abbrev I0:Nm:=498627173
noncomputable abbrev a6C:Nm:=498628069
noncomputable abbrev t3:Nm:=498628473
noncomputable abbrev G6:Nm:=2192991219308702544627
noncomputable abbrev K6:Nm:=498628971
noncomputable abbrev h9:Nm:=63824508403
noncomputable abbrev R9:Nm:=63832896485
noncomputable abbrev U9:Nm:=8170610750180
noncomputable abbrev a6a:Nm:=498858484
noncomputable abbrev G4:Nm:=238
noncomputable abbrev N9:Nm:=500953701
noncomputable abbrev K9:Nm:=64122073843
noncomputable abbrev D8:Nm:=1050784625686899
noncomputable abbrev a5S:Nm:=3928676
noncomputable abbrev T1:Nm:=3929957
noncomputable abbrev O0:Nm:=30704
noncomputable abbrev y9:Nm:=64401060594
noncomputable abbrev b1y:Nm:=504920436
noncomputable abbrev a24:Nm:=3946480
noncomputable abbrev a2M:Nm:=8342373988334
noncomputable abbrev a1R:Nm:=1067828169570661
noncomputable abbrev F6:Nm:=3979255
noncomputable abbrev n9:Nm:=509344755
noncomputable abbrev a2V:Nm:=8376232343668
noncomputable abbrev a6q:Nm:=511275755
noncomputable abbrev V7:Nm:=511275758
noncomputable abbrev f7:Nm:=511276646
noncomputable abbrev J4:Nm:=2248622967450708571764
noncomputable abbrev a1C:Nm:=8376773588581
noncomputable abbrev a6E:Nm:=511341550
noncomputable abbrev P6:Nm:=511343973
noncomputable abbrev F9:Nm:=65452028659
noncomputable abbrev P4:Nm:=244
noncomputable abbrev a4U:Nm:=513308133
noncomputable abbrev a4P:Nm:=513374573
noncomputable abbrev a75:Nm:=513375348
noncomputable abbrev I8:Nm:=513438451
noncomputable abbrev n_u:Nm:=245
noncomputable abbrev K0:Nm:=8447885834099
noncomputable abbrev X5:Nm:=1089678813591399
noncomputable abbrev a1d:Nm:=4059379
noncomputable abbrev O1:Nm:=519601395
noncomputable abbrev W8:Nm:=1089816225266291
noncomputable def Y6:Fn:=⟨[f7,t7],
 (f6 (s6 (P8 (d7 f7) t7) (d7 t7))
 m6)⟩
noncomputable def Z3:Fn:=⟨[f7,a4P],
 (f6 (s6 (l7 F7) (v8 (j7 (d7 f7) X9 (d6 (d7 b1y) f4)) [b1y] true (w5 (a2g (d7 a4P) (j6 (.int 1)))) B6))
 (f6 (H9 (a2B (B3 .isin (a3c (j6 (.int 1))) (d7 F7)) (a3c (j6 (.int 1))) (j7 (n7 (d7 f7) t7) a6q (d6 (l6 (d7 a4P) (j6 (.int 0))) (d6 (d7 F7) f4)))))
 m6))⟩
noncomputable def a0g:Fn:=⟨[f7,n_c,a4P],
 (f6 (H9 (a2K (B3 .eq (j7 (d7 f7) X9 (d6 (d7 a4P) f4)) (j7 (n7 (d7 f7) t7) G2 (d6 (d7 n_c) f4)))))
 m6)⟩
noncomputable def a9l:Fn:=⟨[a75],
 (f6 (H9 (b5H (a2K (B3 .ne (d7 a75) (j6 (.str "")))) (a2K (B3 .eq (v8 (d7 a6E) [a6E] true (w5 (d7 a75)) (S2 (a5i (a4D (j7 (d7 a6E) a5P f4)) (a5i (B3 .isin (d7 a6E) (j6 (.str "()[]{},:"))) b5x)) B6)) (J5 f4)))))
 m6)⟩
noncomputable def a1b:Fn:=⟨[f7],
 (f6 (s6 (P8 (d7 f7) K9) (J5 f4))
 (f6 (s6 (P8 (d7 f7) D8) a1c)
 (f6 (s6 (P8 (d7 f7) W8) (J5 f4))
 (f6 (s6 (P8 (d7 f7) a1A) (J5 f4))
 m6))))⟩
noncomputable def a3S:Fn:=⟨[f7],
 (f6 (H9 (J8 .len (d6 (n7 (d7 f7) K9) f4)))
 m6)⟩
noncomputable def a3Q:Fn:=⟨[f7,O0,F7],
 (f6 (s6 (l7 N9) (y7 .add (n5 (d6 (d7 O0) f4)) (J8 .tuple (d6 (d7 F7) f4))))
 (f6 (a0t (B3 .isin (d7 N9) (n7 (d7 f7) D8))
  (f6 (H9 (l6 (n7 (d7 f7) D8) (d7 N9)))
  m6)
  m6)
 (f6 (v7 (j7 (d7 f7) a1R (d6 (d7 O0) f4)))
 (f6 (O6 [y8] true (w5 (a2g (d7 N9) (j6 (.int 1))))
  (f6 (a0t (b2P (a55 .le .lt (j6 (.int 0)) (d7 y8) (J8 .len (d6 (n7 (d7 f7) K9) f4))))
   (f6 b1x
   m6)
   m6)
  m6))
 (f6 (s6 (a1E (n7 (d7 f7) D8) (d7 N9)) (J8 .len (d6 (n7 (d7 f7) K9) f4)))
 (f6 (v7 (j7 (n7 (d7 f7) K9) u7 (d6 (d7 N9) f4)))
 (f6 (v7 (j7 (n7 (d7 f7) W8) u7 (d6 (y7 .add (j6 (.int 1)) (J8 .sum (d6 (v8 (l6 (n7 (d7 f7) W8) (d7 y8)) [y8] true (w5 (a2g (d7 N9) (j6 (.int 1)))) B6) f4))) f4)))
 (f6 (v7 (j7 (n7 (d7 f7) a1A) u7 (d6 (y7 .add (j6 (.int 1)) (J8 .max (d6 (y7 .add (v8 (l6 (n7 (d7 f7) a1A) (d7 y8)) [y8] true (w5 (a2g (d7 N9) (j6 (.int 1)))) B6) (J5 (d6 (j6 (.int 0)) f4))) f4))) f4)))
 (f6 (H9 (y7 .sub (J8 .len (d6 (n7 (d7 f7) K9) f4)) (j6 (.int 1))))
 m6)))))))))⟩
noncomputable def a1B:Fn:=⟨[f7,O0],
 (f6 (a0t (a5i (b2P (a4D (G7 a39 (d6 (d7 O0) f4)))) (a5i (B3 .eq (l6 (d7 O0) (j6 (.int 0))) (j6 (.str "?"))) b5x))
  (f6 b1x
  m6)
  m6)
 m6)⟩
noncomputable def a5w:Fn:=⟨[f7,G4],
 (f6 (H9 (l6 (l6 (n7 (d7 f7) K9) (d7 G4)) (j6 (.int 0))))
 m6)⟩
noncomputable def a3A:Fn:=⟨[f7,G4],
 (f6 (H9 (a2g (l6 (n7 (d7 f7) K9) (d7 G4)) (j6 (.int 1))))
 m6)⟩
noncomputable def a0h:Fn:=⟨[f7],
 (f6 (s6 (P8 (d7 f7) t8) (J5 f4))
 (f6 (s6 (P8 (d7 f7) w8) (J5 f4))
 (f6 (s6 (P8 (d7 f7) U9) (J5 f4))
 m6)))⟩
noncomputable def a2o:Fn:=⟨[f7],
 (f6 (v7 (j7 (n7 (d7 f7) t8) u7 (d6 (J8 .len (d6 (n7 (d7 f7) t8) f4)) f4)))
 (f6 (v7 (j7 (n7 (d7 f7) w8) u7 (d6 (J5 (d6 (J8 .len (d6 (n7 (d7 f7) w8) f4)) f4)) f4)))
 (f6 (H9 (y7 .sub (J8 .len (d6 (n7 (d7 f7) t8) f4)) (j6 (.int 1))))
 m6)))⟩
noncomputable def a2m:Fn:=⟨[f7],
 (f6 (H9 (J8 .len (d6 (n7 (d7 f7) t8) f4)))
 m6)⟩
noncomputable def a0k:Fn:=⟨[f7,n_a],
 (f6 (a8X (B3 .ne (l6 (n7 (d7 f7) t8) (d7 n_a)) (d7 n_a))
  (f6 (s6 (l7 n_a) (l6 (n7 (d7 f7) t8) (d7 n_a)))
  m6))
 (f6 (H9 (d7 n_a))
 m6))⟩
noncomputable def a1z:Fn:=⟨[f7,n_a,n_b],
 (f6 (s6 (Q9 [(l7 M5),(l7 M7)]) (J8 .sorted (d6 (J5 (d6 (j7 (d7 f7) G2 (d6 (d7 n_a) f4)) (d6 (j7 (d7 f7) G2 (d6 (d7 n_b) f4)) f4))) f4)))
 (f6 (a0t (B3 .eq (d7 M5) (d7 M7))
  (f6 (H9 (j6 .none))
  m6)
  m6)
 (f6 (s6 (a1E (n7 (d7 f7) t8) (d7 M7)) (d7 M5))
 (f6 (v7 (j7 (l6 (n7 (d7 f7) w8) (d7 M5)) K1 (d6 (l6 (n7 (d7 f7) w8) (d7 M7)) f4)))
 (f6 (v7 (j7 (n7 (d7 f7) U9) u7 (d6 (n5 (d6 (d7 M5) (d6 (d7 M7) f4))) f4)))
 (f6 (H9 (n5 (d6 (d7 M5) (d6 (d7 M7) f4))))
 m6))))))⟩
noncomputable def a0D:Fn:=⟨[f7],
 (f6 (H9 (v8 (d7 n_a) [n_a] true (D5 (d6 (J8 .len (d6 (n7 (d7 f7) t8) f4)) f4)) (S2 (B3 .eq (l6 (n7 (d7 f7) t8) (d7 n_a)) (d7 n_a)) B6)))
 m6)⟩
noncomputable def a1f:Fn:=⟨[f7],
 (f6 (s6 (P8 (d7 f7) V8) (a6m E6 f4))
 (f6 (s6 (P8 (d7 f7) K0) (a6m v6 f4))
 (f6 (s6 (P8 (d7 f7) W6) (J5 f4))
 (f6 (s6 (P8 (d7 f7) Y7) (J5 f4))
 (f6 (s6 (P8 (d7 f7) a2a) a1c)
 (f6 (s6 (P8 (d7 f7) t8) a1c)
 (f6 (s6 (P8 (d7 f7) X5) (J5 f4))
 m6)))))))⟩
noncomputable def a3U:Fn:=⟨[f7],
 (f6 (H9 (j7 (n7 (d7 f7) V8) P6 f4))
 m6)⟩
noncomputable def a3P:Fn:=⟨[f7,G4],
 (f6 (H9 (y7 .add (n5 (d6 (j7 (n7 (d7 f7) V8) O0 (d6 (d7 G4) f4)) f4)) (J8 .tuple (d6 (v8 (j7 (d7 f7) G2 (d6 (d7 y8) f4)) [y8] true (w5 (j7 (n7 (d7 f7) V8) F7 (d6 (d7 G4) f4))) B6) f4))))
 m6)⟩
noncomputable def a4x:Fn:=⟨[f7,O0,D8],
 (f6 (s6 (l7 G4) (j7 (n7 (d7 f7) V8) a4U (d6 (d7 O0) (d6 (d7 D8) f4))))
 (f6 (a0t (B3 .lt (d7 G4) (j7 (n7 (d7 f7) K0) P6 f4))
  (f6 (H9 (d7 G4))
  m6)
  m6)
 (f6 (v7 (j7 (n7 (d7 f7) K0) a6C f4))
 (f6 (s6 (a1E (n7 (d7 f7) t8) (d7 G4)) (J5 f4))
 (f6 (O6 [n_c] true (w5 (M6 (v8 (j7 (d7 f7) G2 (d6 (d7 y8) f4)) [y8] true (w5 (d7 D8)) B6)))
  (f6 (v7 (j7 (l6 (n7 (d7 f7) t8) (d7 n_c)) u7 (d6 (d7 G4) f4)))
  m6))
 (f6 (v7 (j7 (d7 f7) T8 (d6 (d7 G4) f4)))
 (f6 (H9 (d7 G4))
 m6)))))))⟩
noncomputable def a1I:Fn:=⟨[f7,G4],
 (f6 (s6 (l7 y9) (j7 (n7 (d7 f7) a2a) J4 (d6 (j7 (d7 f7) N9 (d6 (d7 G4) f4)) (d6 (d7 G4) f4))))
 (f6 (a0t (B3 .ne (j7 (d7 f7) G2 (d6 (d7 y9) f4)) (j7 (d7 f7) G2 (d6 (d7 G4) f4)))
  (f6 (v7 (j7 (d7 f7) a3f (d6 (d7 y9) (d6 (d7 G4) (d6 (n5 (d6 (j6 (.str "like")) f4)) f4)))))
  m6)
  m6)
 m6))⟩
noncomputable def a3C:Fn:=⟨[f7,G4],
 (f6 (H9 (j7 (n7 (d7 f7) K0) G2 (d6 (d7 G4) f4)))
 m6)⟩
noncomputable def a2Q:Fn:=⟨[f7,n_a,n_b,a2M],
 (f6 (H9 (j7 (d7 f7) a3f (d6 (d7 n_a) (d6 (d7 n_b) (d6 (d7 a2M) f4)))))
 m6)⟩
noncomputable def a3V:Fn:=⟨[f7,n_a,n_b,a2M],
 (f6 (v7 (j7 (n7 (d7 f7) W6) u7 (d6 (n5 (d6 (d7 n_a) (d6 (d7 n_b) (d6 (d7 a2M) f4)))) f4)))
 (f6 (s6 (l7 U9) (j7 (n7 (d7 f7) K0) R9 (d6 (d7 n_a) (d6 (d7 n_b) f4))))
 (f6 (a0t (B3 .is (d7 U9) (j6 .none))
  (f6 (H9 (j6 (.bool false)))
  m6)
  m6)
 (f6 (s6 (Q9 [(l7 M5),(l7 M7)]) (d7 U9))
 (f6 (v7 (j7 (n7 (d7 f7) Y7) u7 (d6 (y7 .sub (J8 .len (d6 (n7 (d7 f7) W6) f4)) (j6 (.int 1))) f4)))
 (f6 (v7 (j7 (n7 (d7 f7) X5) K1 (d6 (l6 (n7 (d7 f7) t8) (d7 M7)) f4)))
 (f6 (s6 (a1E (n7 (d7 f7) t8) (d7 M5)) (y7 .add (l6 (n7 (d7 f7) t8) (d7 M5)) (j7 (n7 (d7 f7) t8) a24 (d6 (d7 M7) f4))))
 (f6 (H9 (j6 (.bool true)))
 m6))))))))⟩
noncomputable def a2n:Fn:=⟨[f7],
 (f6 (a8X (B3 .gt (J8 .len (d6 (n7 (d7 f7) X5) f4)) (j6 (.int 0)))
  (f6 (v7 (j7 (d7 f7) T8 (d6 (j7 (n7 (d7 f7) X5) a24 f4) f4)))
  m6))
 m6)⟩
noncomputable def a1t:Fn:=⟨[f7],
 (f6 (H9 (j7 (n7 (d7 f7) K0) G5 f4))
 m6)⟩
noncomputable def a0d:Fn:=⟨[f7],
 (f6 (H9 (a4a (v8 (j7 (d7 f7) N9 (d6 (d7 G4) f4)) [G4] true (D5 (d6 (j7 (d7 f7) P6 f4) f4)) B6)))
 m6)⟩
noncomputable def a3W:Fn:=⟨[f7,O0,G5],
 (f6 (s6 (l7 G4) (j7 (n7 (d7 f7) a2a) a9q (d6 (y7 .add (n5 (d6 (d7 O0) f4)) (J8 .tuple (d6 (v8 (j7 (d7 f7) G2 (d6 (d7 n_c) f4)) [n_c] true (w5 (d7 G5)) B6) f4))) (d6 (a3c (j6 (.int 1))) f4))))
 (f6 (H9 (a2B (B3 .lt (d7 G4) (j6 (.int 0))) (a3c (j6 (.int 1))) (j7 (d7 f7) G2 (d6 (d7 G4) f4))))
 m6))⟩
noncomputable def D7:Fn:=⟨[A8,t3],
 (f6 (s6 (a1E (d7 A8) (j6 (.str "at"))) (y7 .add (l6 (d7 A8) (j6 (.str "at"))) (j6 (.int 1))))
 (f6 (H9 (y7 .mod (a2B (B3 .le (l6 (d7 A8) (j6 (.str "at"))) (J8 .len (d6 (l6 (d7 A8) (j6 (.str "cells"))) f4))) (l6 (l6 (d7 A8) (j6 (.str "cells"))) (y7 .sub (l6 (d7 A8) (j6 (.str "at"))) (j6 (.int 1)))) (j6 (.int 1))) (d7 t3)))
 m6))⟩
noncomputable def a00:Fn:=⟨[n9,I8],
 (f6 (s6 (Q9 [(l7 h9),(l7 a1d)]) (n5 (d6 (a57 (J8 .len (d6 (d7 n9) f4))) (d6 (j6 .none) f4))))
 (f6 (a8X (B3 .ne (d7 h9) (d7 a1d))
  (f6 (s6 (l7 a1d) (J8 .list (d6 (d7 h9) f4)))
  (f6 (s6 (l7 V7) a1c)
  (f6 (O6 [G4,F6] false (a5j (d7 n9))
   (f6 (s6 (l7 a1q) (j7 (d7 V7) J4 (d6 (y7 .add (n5 (d6 (l6 (d7 F6) (j6 (.int 0))) f4)) (J8 .tuple (d6 (v8 (l6 (d7 h9) (d7 y8)) [y8] true (w5 (a2g (d7 F6) (j6 (.int 1)))) B6) f4))) (d6 (d7 G4) f4))))
   (f6 (O6 [T1,y9] false (w5 (y7 .add (d7 I8) (J5 (d6 (n5 (d6 (d7 a1q) (d6 (d7 G4) f4))) f4))))
    (f6 (s6 (Q9 [(l7 L9),(l7 S6)]) (n5 (d6 (J8 .min (d6 (l6 (d7 h9) (d7 T1)) (d6 (l6 (d7 h9) (d7 y9)) f4))) (d6 (J8 .max (d6 (l6 (d7 h9) (d7 T1)) (d6 (l6 (d7 h9) (d7 y9)) f4))) f4))))
    (f6 (s6 (l7 h9) (v8 (a2B (B3 .eq (d7 K6) (d7 S6)) (d7 L9) (d7 K6)) [K6] true (w5 (d7 h9)) B6))
    m6)))
   m6)))
  m6))))
 (f6 (H9 (d7 h9))
 m6)))⟩
noncomputable def a1M:Fn:=⟨[n9,h9,a6a],
 (f6 (s6 (Q9 [(l7 I0),(l7 F9)]) (n5 (d6 (a3t (d7 n_c) a1c [n_c] true (w5 (d7 h9))) (d6 a1c f4))))
 (f6 (O6 [t3] true (D5 (d6 (j6 (.int 1)) (d6 (y7 .add (d7 a6a) (j6 (.int 1))) f4)))
  (f6 (s6 (l7 P2) (J5 f4))
  (f6 (O6 [G4,F6] false (a5j (d7 n9))
   (f6 (s6 (l7 O1) (J5 (d6 (n5 (d6 (n5 (d6 (l6 (d7 F6) (j6 (.int 0))) f4)) (d6 (j6 (.int 1)) f4))) f4)))
   (f6 (O6 [y8] true (w5 (a2g (d7 F6) (j6 (.int 1))))
    (f6 (s6 (l7 O1) (V5 (n5 (d6 (y7 .add (d7 P4) (n5 (d6 (d7 n_u) f4))) (d6 (y7 .add (d7 n_k) (l6 (d7 F9) (d7 n_u))) f4))) [P4,n_k] false (w5 (d7 O1)) [n_u] true (w5 (l6 (d7 I0) (l6 (d7 h9) (d7 y8)))) (S2 (B3 .le (y7 .add (d7 n_k) (l6 (d7 F9) (d7 n_u))) (d7 t3)) B6)))
    m6))
   (f6 (v7 (j7 (d7 P2) K1 (d6 (v8 (n5 (d6 (l6 (d7 h9) (d7 G4)) (d6 (d7 P4) f4))) [P4,n_k] false (w5 (d7 O1)) (S2 (B3 .eq (d7 n_k) (d7 t3)) B6)) f4)))
   m6))))
  (f6 (O6 [n_c,P4] false (w5 (d7 P2))
   (f6 (s6 (a1E (l6 (d7 I0) (d7 n_c)) (d7 P4)) (j6 (.bool true)))
   (f6 (s6 (a1E (d7 F9) (d7 P4)) (d7 t3))
   m6)))
  m6))))
 (f6 (H9 (d7 I0))
 m6)))⟩
noncomputable def W5:Fn:=⟨[a6a],
 (f6 (s6 (l7 w8) (J5 (d6 (J5 f4) (d6 (J5 (d6 (n5 (d6 (j6 (.str "a")) f4)) (d6 (n5 (d6 (j6 (.str "b")) f4)) f4))) f4))))
 (f6 (O6 [t3] true (D5 (d6 (j6 (.int 2)) (d6 (y7 .add (d7 a6a) (j6 (.int 1))) f4)))
  (f6 (s6 (l7 a1w) (v8 (n5 (d6 (j6 (.str "f")) (d6 (d7 P4) f4))) [P4] true (w5 (l6 (d7 w8) (y7 .sub (d7 t3) (j6 (.int 1))))) B6))
  (f6 (O6 [n_k] true (D5 (d6 (j6 (.int 1)) (d6 (y7 .sub (d7 t3) (j6 (.int 1))) f4)))
   (f6 (v7 (j7 (d7 a1w) K1 (d6 (V5 (n5 (d6 (j6 (.str "g")) (d6 (d7 P4) (d6 (d7 n_u) f4)))) [P4] true (w5 (l6 (d7 w8) (d7 n_k))) [n_u] true (w5 (l6 (d7 w8) (y7 .sub (y7 .sub (d7 t3) (j6 (.int 1))) (d7 n_k)))) B6) f4)))
   m6))
  (f6 (v7 (j7 (d7 w8) u7 (d6 (d7 a1w) f4)))
  m6))))
 (f6 (H9 (V5 (d7 P4) [a1w] true (w5 (d7 w8)) [P4] true (w5 (d7 a1w)) B6))
 m6)))⟩
noncomputable def b6v:Fn:=⟨[a2V],
 (f6 (s6 (Q9 [(l7 A8),(l7 t7),(l7 n9),(l7 I8)]) (n5 (d6 (a7H ["cells","at"] (d6 (v8 (J8 .int (d6 (d7 a6J) f4)) [a6J] true (w5 (b2p (d7 a2V) (j6 (.int 40)))) B6) (d6 (j6 (.int 0)) f4))) (d6 (a6m o6 f4) (d6 (J5 (d6 (n5 (d6 (j6 (.str "a")) f4)) (d6 (n5 (d6 (j6 (.str "b")) f4)) f4))) (d6 (J5 f4) f4))))))
 (f6 (O6 [F6] true (w5 (d7 n9))
  (f6 (v7 (j7 (d7 t7) a2j (d6 (l6 (d7 F6) (j6 (.int 0))) (d6 (n5 f4) f4))))
  m6))
 (f6 (O6 [a2r] true (D5 (d6 (G7 j9 (d6 (d7 A8) (d6 (j6 (.int 6)) f4))) f4))
  (f6 (s6 (l7 O0) (l6 (J5 (d6 (j6 (.str "f")) (d6 (j6 (.str "g")) f4))) (G7 j9 (d6 (d7 A8) (d6 (j6 (.int 2)) f4)))))
  (f6 (s6 (l7 F7) (J8 .tuple (d6 (v8 (G7 j9 (d6 (d7 A8) (d6 (J8 .len (d6 (d7 n9) f4)) f4))) [y8] true (D5 (d6 (a2B (B3 .eq (d7 O0) (j6 (.str "f"))) (j6 (.int 1)) (j6 (.int 2))) f4)) B6) f4)))
  (f6 (a0t (B3 .eq (j7 (d7 t7) a2j (d6 (d7 O0) (d6 (d7 F7) f4))) (J8 .len (d6 (d7 n9) f4)))
   (f6 (v7 (j7 (d7 n9) u7 (d6 (y7 .add (n5 (d6 (d7 O0) f4)) (d7 F7)) f4)))
   m6)
   m6)
  m6))))
 (f6 (O6 [a2r] true (D5 (d6 (G7 j9 (d6 (d7 A8) (d6 (j6 (.int 4)) f4))) f4))
  (f6 (v7 (j7 (d7 I8) u7 (d6 (n5 (d6 (G7 j9 (d6 (d7 A8) (d6 (J8 .len (d6 (d7 n9) f4)) f4))) (d6 (G7 j9 (d6 (d7 A8) (d6 (J8 .len (d6 (d7 n9) f4)) f4))) f4))) f4)))
  (f6 (v7 (j7 (d7 t7) R9 (d6 (l6 (l6 (d7 I8) (a3c (j6 (.int 1)))) (j6 (.int 0))) (d6 (l6 (l6 (d7 I8) (a3c (j6 (.int 1)))) (j6 (.int 1))) (d6 (n5 (d6 (j6 (.str "told")) (d6 (y7 .add (j6 (.str "tie")) (J8 .str (d6 (d7 a2r) f4))) f4))) f4)))))
  m6)))
 (f6 (v7 (j7 (d7 t7) a1C f4))
 (f6 (s6 (Q9 [(l7 h9),(l7 t3)]) (n5 (d6 (G7 N5 (d6 (d7 n9) (d6 (d7 I8) f4))) (d6 (j7 (d7 t7) G6 f4) f4))))
 (f6 (s6 (Q9 [(l7 I0),(l7 Q6)]) (n5 (d6 (G7 Q5 (d6 (d7 n9) (d6 (d7 h9) (d6 (j6 (.int 4)) f4)))) (d6 (a6m w7 (d6 (d7 t7) f4)) f4))))
 (f6 (s6 (l7 a5S) (J5 (d6 (n5 (d6 (j6 (.str "c")) f4)) (d6 (n5 (d6 (j6 (.str "f")) f4)) (d6 (n5 (d6 (j6 (.str "g")) (d6 (n5 (d6 (j6 (.str "a")) f4)) f4))) (d6 (n5 (d6 (j6 (.str "a")) (d6 (n5 (d6 (j6 (.str "b")) f4)) f4))) (d6 (n5 (d6 (j6 (.str "f")) (d6 (n5 (d6 (j6 (.str "c")) f4)) f4))) (d6 (n5 (d6 (j6 (.str "g")) (d6 (n5 (d6 (j6 (.str "a")) f4)) (d6 (n5 (d6 (j6 (.str "h")) (d6 (n5 (d6 (j6 (.str "b")) f4)) f4))) f4)))) (d6 (n5 (d6 (j6 (.str "g")) (d6 (n5 (d6 (j6 (.str "a")) f4)) (d6 (n5 (d6 (j6 (.str "b")) f4)) (d6 (n5 (d6 (j6 (.str "a")) f4)) f4))))) f4)))))))))
 (f6 (O6 [P4] true (w5 (y7 .add (G7 G8 (d6 (j6 (.int 4)) f4)) (d7 a5S)))
  (f6 (a0t (B3 .ne (v8 (d7 G4) [G4] true (D5 (d6 (J8 .len (d6 (d7 n9) f4)) f4)) (S2 (a4D (j7 (d7 Q6) T4 (d6 (d7 G4) (d6 (d7 P4) f4)))) B6)) (v8 (d7 G4) [G4] true (D5 (d6 (J8 .len (d6 (d7 n9) f4)) f4)) (S2 (B3 .isin (d7 P4) (l6 (d7 I0) (l6 (d7 h9) (d7 G4)))) B6)))
   (f6 (H9 (j6 (.bool false)))
   m6)
   m6)
  m6))
 (f6 (H9 (a2K (B3 .eq (n5 (d6 (j7 (d7 t7) P6 f4) (d6 (j7 (d7 t7) G6 f4) (d6 (j7 (d7 t7) G5 f4) f4)))) (n5 (d6 (J8 .len (d6 (d7 n9) f4)) (d6 (d7 t3) (d6 (M6 (d7 h9)) f4)))))))
 m6))))))))))⟩
noncomputable def a7s:List Fn:=[Y6,Z3,a0g,a9l,a1b,a3S,a3Q,a1B,a5w,a3A,a0h,a2o,a2m,a0k,a1z,a0D,a1f,a3U,a3P,a4x,a1I,a3C,a2Q,a3V,a2n,a1t,a0d,a3W,D7,a00,a1M,W5,b6v]
end
section
open PySem PySem.W PyProof.Rows
theorem b0i {args:List WData} (h:WShape.hasAll [] args [.list .int]=true):∃ l:List Int,args=[.list (l.map WData.int)]:=by
 have one:∀ {xs:List WData},WShape.hasItems [] xs .int=true->∃ l:List Int,[WData.list xs]=[.list (l.map WData.int)]:=λh=>let ⟨l,e⟩:=items_int h;⟨l,congrArg (λx=>[WData.list x]) e⟩;cases args with
 | nil=>exact nomatch (show false=true from h)
 | cons x r =>
  refine eA (Bool.and_eq_true_iff.mp (show (WShape.has [] x (.list .int)&&WShape.hasAll [] r [])=true from h)) λh1 h2=>?_;cases r with
  | cons y r=>exact nomatch (show false=true from h2)
  | nil =>
   cases x with
   | list xs=>exact one ((Bool.or_false _).symm.trans (show (WShape.hasItems [] xs .int||false)=true from h1))
   | _=>exact nomatch (show false=true from h1)
theorem b47 {n:Int} {sl:List Int} {z:List WData} {r:Option WData} (h:WTm.holds [] (.and (.not (.lt (.lit (.int n)) (.len (.arg 0)))) (.lit (.bool true))) {args:=[.list (sl.map WData.int)],res:=r,after:=z}=true):(sl.length:Int)<=n:=by
 have key:∀ d:Bool,WTm.holds [] (.and (.not (.lit (.bool d))) (.lit (.bool true))) {args:=[],res:=none,after:=[]}=true->d=false:=λd=>by cases d <;> first | exact λ_=>rfl | exact λh=>nomatch (show false=true from h)
 have:=key (decide (n < ((sl.map WData.int).length:Nat))) h;rw [List.length_map] at this;exact Int.not_lt.mp (of_decide_eq_false this)
theorem b0j {v s:List WData}:(WShape.has [] (.bool true) .bool&&WTm.holds [] (.eq .res (.lit (.bool true))) {args:=v,res:=some (.bool true),after:=s})=true:=by
 have key:∀ d:Bool,d=true->WTm.holds [] (.lit (.bool d)) {args:=[],res:=none,after:=[]}=true:=λd e=>by refine b9 e ?_;rfl
 exact key (same (.bool true) (.bool true)) (by decide +kernel)
theorem b0R {cl:Str->Option Addr}:∀ {l:List Int} {vs:List Value} {as:List Addr},ReadsAllW [] cl h vs (l.map WData.int) as->IntsAre vs l:=by
 intro l;induction l with
 | nil =>
  intro _ _ z;cases z;exact .nil
 | cons i l ih =>
  intro _ _ z;cases z with
  | cons r rs =>
   cases r with
   | int _ t=>exact .cons i t (ih rs)
inductive c5U (h:Heap) (vals:List Value) (l:List Int):Prop
 | mk:∀ sa o vs k,vals=[.ref sa]->h.get? sa=some o->o.cls=.type "list"->o.data=.seq vs k->IntsAre vs.toList l->c5U h vals l
theorem b0I {cl:Str->Option Addr} {l:List Int} {vals:List Value} {as:List Addr} (r:ReadsAllW [] cl h vals [.list (l.map WData.int)] as):c5U h vals l:=by
 cases r with
 | cons r1 rs =>
 cases rs;cases r1 with
 | list ho hc hd hrs=>exact ⟨_,_,_,_,rfl,ho,hc,hd,b0R hrs⟩
theorem c3n {K:Frag} {ns:Addr} {mg:Str->Option Value} {x:Str} {v:Value} (hns:h.Ns ns mg) (X:K.In h) (e:nsIn K ns x=some (some v)):mg x=some v:=by
 refine U4 hns λo es ep ho hd _ hf=>?_;clear hns;unfold nsIn at e
 split at e
 ·rename_i c d es' n sl hl;have:=X _ _ hl;rw [ho] at this;have q1:=A3 this;clear this;subst q1;injection hd with hd _
  subst hd
  split at e
  ·rename_i en he;cases e;refine t6 (hf x) ?_;rewrite [nsFind,findBy];refine t6 Array.find?_toList ?_;refine b9 he ?_;rfl
  ·split at e <;> cases e
 ·cases e
theorem b25 {l:OpenLaw} {T:Tab} {tx:List (Option Txt)} {fds:List Fn} {F:D4} {s₀ s₁:Shared} {args:List WData} {vals:List Value} {as:List Addr} {a:Addr} (ok:a9e T=true) (S:a98 T tx s₁.heap)
  (htr:tx.map (λo=>o.bind (a5v T))=fds.map some) (hF:b2Y (a4d T) fds=F) {mg:Str->Option Value} (hns:s₁.heap.Ns mainGlobals mg) (hmg:mg l.name=some (.ref a)) (hname:T.fns.contains l.name=true)
  (hg:s₁.gens=#[]) (hpre:l.row.claim.pre args=true) (hrd:ReadsAllW [] (classAt s₀.heap) s₁.heap vals args as) (hmost:l.most=some 63) (hbound:l.bound=none)
  (law:∀ sl:List Int,sl.length<=63->∃ n,n<=40/\(j5 F n).call 0 (nm l.name) [.fz sl] (λ_=>none) λv _=>v=.bool true) :
  wpAny (model l.prog w) callerA (call (.ref a) vals) (λv s'=>GoodWG l.row.claim (classAt s₀.heap) (ExcName.means s₀.heap) args s₁ (.ok (.ret v)) s')
   (λe s'=>GoodWG l.row.claim (classAt s₀.heap) (ExcName.means s₀.heap) args s₁ (.error e) s') s₁:=by
 obtain ⟨⟨K,X,chk,htx⟩,o5,sysm⟩:=S;refine eA (Bool.and_eq_true_iff.mp hpre) λp1 p2=>?_;refine eE (b0i p1) λsl q2=>?_;subst q2;have hpr:l.pre=.and (.not (.lt (.lit (.int (63:Nat))) (.len (.arg 0)))) (.lit (.bool true)):=by
  unfold OpenLaw.pre;refine b9 hmost ?_;refine b9 hbound ?_;rfl
 have hlen:sl.length<=63:=Int.ofNat_le.mp (b47 ((congrArg (λt=>WTm.holds [] t _) hpr).symm.trans p2));obtain ⟨sa,o,vs,k,rfl,ho,hc,hd,hi⟩:=b0I hrd;have g:Gok (a8C T fds K s₁.heap sa sl s₁.os) (b49 T):=b8C ok X chk htx o5 sysm htr ⟨o,vs,k,ho,hc,hd,hi⟩;refine i9 (law sl hlen) λn hn hl=>?_;have ha:(a8C T fds K s₁.heap sa sl s₁.os).fa 0 (nm l.name)=some a:=by
  refine a1o (g.fn l.name hname) λ_ f f1 f2 _=>?_;refine b9 f1 ?_;have:mg l.name=some (.ref f):=c3n hns X f2;rw [hmg] at this;injection this with this
  injection this with this
  refine b9 this ?_;rfl
 have R:w6 (a8C T fds K s₁.heap sa sl s₁.os) w (λ_=>none) s₁.heap:=⟨λb ob e=>⟨e,rfl⟩,λb mo e=>nomatch e⟩
 rw [<- hF,<-b5K T fds K s₁.heap sa sl s₁.os] at hl;refine wpAny_mono (U3.call (vs:=[.fz sl]) (us:=[.ref sa]) (cn:=0) (name:=nm l.name) (b1b g n) ?_ R (.cons (show i8 _ _ (.fz sl) _ from ⟨rfl,rfl⟩) .nil) ha hl) (λv s' ⟨x,H',rv,st,q⟩=>?_) λ_ _ e=>e.elim
 ·refine ⟨rfl,?_,?_⟩
  ·show 1+claimMargin+6 * n+5<=990;unfold claimMargin;exact c36 hn
  ·show 4+200 * n+200<=9900;exact c6v hn
 ·subst q;replace rv:=a9I rv;subst rv;refine ⟨.inl ⟨_,.bool true,[],rfl,λ_=>rfl,.bool true,?_,λ_=>⟨.nil,λ_ h=>nomatch h⟩⟩,.of_keep λb ob e=>st.ext.keep b ob e rfl λz=>z,st.os,.of_eq (st.gens.trans hg)⟩
  exact b0j
end
end Mine.Internal
section
set_option Elab.async false
set_option maxHeartbeats 0
namespace Mine.Internal
open PySem PySem.W PyProof.Rows
noncomputable def T02:Tab where
 as:=[3,0,95,94,249,248,331,330,461,460,35,34,40,39,47,46,145,144,159,158,166,165,171,170,178,177,206,205,213,212,267,266,274,273,281,280,288,287,295,294,307,306,349,348,356,355,361,360,366,365,380,379,387,386,401,400,408,407,415,414,429,428,446,445,451,450,472,471,477,476,482,481,487,486,492,491]
 fns:=[(n8 "is_op"),(n8 "_law_taken"),(n8 "_law_marks"),(n8 "_law_made"),(n8 "_law_every"),(n8 "law")]
 clss:=[(n8 "Grammar"),(n8 "Bank"),(n8 "Unions"),(n8 "Heap")]
 attrs:=[(n8 "heap"),(n8 "nodes"),(n8 "numbers"),(n8 "weights"),(n8 "depths"),(n8 "above"),(n8 "lots"),(n8 "merged"),(n8 "bank"),(n8 "unions"),(n8 "edges"),(n8 "forest"),(n8 "known"),(n8 "waiting")]
 cl:=[((n8 "Grammar"),95),((n8 "Bank"),249),((n8 "Unions"),331),((n8 "Heap"),461)]
 fes:=[⟨some (n8 "Grammar"),(n8 "__init__"),35⟩,⟨some (n8 "Grammar"),(n8 "class_of"),40⟩,⟨some (n8 "Grammar"),(n8 "accepts"),47⟩,⟨none,(n8 "is_op"),145⟩,⟨some (n8 "Bank"),(n8 "__init__"),159⟩,⟨some (n8 "Bank"),(n8 "size"),166⟩,⟨some (n8 "Bank"),(n8 "take"),171⟩,⟨some (n8 "Bank"),(n8 "require"),178⟩,⟨some (n8 "Bank"),(n8 "op"),206⟩,⟨some (n8 "Bank"),(n8 "kids"),213⟩,⟨some (n8 "Unions"),(n8 "__init__"),267⟩,⟨some (n8 "Unions"),(n8 "make"),274⟩,⟨some (n8 "Unions"),(n8 "size"),281⟩,⟨some (n8 "Unions"),(n8 "find"),288⟩,⟨some (n8 "Unions"),(n8 "merge"),295⟩,⟨some (n8 "Unions"),(n8 "classes"),307⟩,⟨some (n8 "Heap"),(n8 "__init__"),349⟩,⟨some (n8 "Heap"),(n8 "size"),356⟩,⟨some (n8 "Heap"),(n8 "node"),361⟩,⟨some (n8 "Heap"),(n8 "add"),366⟩,⟨some (n8 "Heap"),(n8 "look_at"),380⟩,⟨some (n8 "Heap"),(n8 "find"),387⟩,⟨some (n8 "Heap"),(n8 "merge"),401⟩,⟨some (n8 "Heap"),(n8 "join"),408⟩,⟨some (n8 "Heap"),(n8 "settle"),415⟩,⟨some (n8 "Heap"),(n8 "classes"),429⟩,⟨some (n8 "Heap"),(n8 "many_nodes"),446⟩,⟨some (n8 "Heap"),(n8 "seek"),451⟩,⟨none,(n8 "_law_taken"),472⟩,⟨none,(n8 "_law_marks"),477⟩,⟨none,(n8 "_law_made"),482⟩,⟨none,(n8 "_law_every"),487⟩,⟨none,(n8 "law"),492⟩]
noncomputable def b7P:{F:(String->Str)->Program // At F Str.ofString PySem.Challenge.pw_pq0065_02}:=by
 refine ⟨?F,?h⟩
 case h =>
  refine atM ((?z:((?F:(String->Str)->Program) Str.ofString=PySem.Challenge.pw_pq0065_02)->(?F:(String->Str)->Program) Str.ofString=PySem.Challenge.pw_pq0065_02) ?w)
  case w =>
   unfold PySem.Challenge.pw_pq0065_02;generalize Str.ofString=f;exact b6w _ _
  case z=>intro _;exact Eq.refl PySem.Challenge.pw_pq0065_02
noncomputable def a6G:{p:Program // p=PySem.Challenge.pw_pq0065_02}:=⟨b7P.1 n8,(congrArg b7P.1 a6c.symm).trans b7P.2⟩
noncomputable def a1Q:List Str:=[n8 "_wall",n8 "Grammar",n8 "HeapError",n8 "TermFault",n8 "is_op",n8 "Bank",n8 "Unions",n8 "Heap",n8 "_law_taken",n8 "_law_marks",n8 "_law_made",n8 "_law_every"]
noncomputable def lhsF {α:Type} (f:Shared->α) (h:Params->Heap) (p:Program) (w:World) (os:OsState):=(a60 h w).bind λb=>b4K h p f 4000 b w os
noncomputable def seenF (ks:List Nat) (l:List Str) (p:Program) (s:Shared):=openSeen (view p ks) l (importedModules p.main.body) (λ_=>true) true s
noncomputable def goodF (ks:List Nat) (l:List Str) (p:Program):=openGood (view p ks) l
end Mine.Internal
lay_quick Mine.Internal.lhsF
lay_quick Mine.Internal.seenF
lay_quick Mine.Internal.goodF
open PySem PySem.W PyProof.Rows
theorem Mine.Internal.mini02:Mine.Internal.c2Y Mine.Internal.T02 Mine.Internal.a6G.1=Mine.Internal.a7s.map some:=by kernel_rfl
theorem Mine.Internal.seen02:∀ w,PySem.W.Fast.tw4264726734810522163 (λs=>(PySem.W.Fast.tw4036098521264024637 [18] Mine.Internal.a1Q Mine.Internal.a6G.1 s,Mine.Internal.a2C Mine.Internal.T02 s)) Mine.Internal.b6F.1 Mine.Internal.a6G.1 w=λ_=>some (PySem.W.Fast.tw4065217944589469274 [18] Mine.Internal.a1Q Mine.Internal.a6G.1,true,Mine.Internal.a74 Mine.Internal.T02 Mine.Internal.a6G.1):=by
 intro w;kernel_rfl
end
namespace Mine.Internal
variable {x0:Nat} {x1:Nat} {x2:Nat} {x3:Nat} {x4:Nat} {n:Nat} {m:Nat} {k:Nat} {t:Nat}
variable {x:PySem.Str}
variable {G:Gi} {w:PySem.World} {X:PySem.Addr->Prop} {H:Hp} {o:PySem.Obj} {v:PySem.Value} {u:PySem.Value} {a:PySem.Addr} {h:PySem.Heap} {xs:List d8} {vs:Array PySem.Value} {p:d8} {l:List (d8×d8)} {es:List (d8×d8)}
variable {A:PySem.Around} {s:PySem.Shared} {env:PySem.Env}
variable {pos:PySem.Pos} {y:Ev} {E:PySem.Value->PySem.Shared->Prop} {Q:d8->Hp->Prop} {value:PySem.Expr} {slice:PySem.Expr} {I:PySem.Addr}
variable {d:PySem.Addr} {ep:Nat}
variable {e:PySem.Expr}
variable {ents:Array PySem.DictEntry}
variable {l:List d8}
variable {r:En} {must:List PySem.Str}
variable {wr:List PySem.Addr} {one:Bool} {D:PySem.Addr} {acc:List d8}
variable {tg:PySem.Expr} {cenv:PySem.Env}
variable {Q:PySem.Value->PySem.Shared->Prop}
variable {elt:PySem.Expr} {iter:PySem.Expr} {ifs:List PySem.Expr}
variable {tg2:PySem.Expr} {iter2:PySem.Expr}
variable {one2:Bool}
variable {v:d8} {it:It}
variable {kx:PySem.Expr} {vx:PySem.Expr}
variable {t:List Nm} {t2:List Nm} {l:List Int}
variable {sc:PySem.Scope}
variable {x:Ev}
variable {p:PySem.Pos}
variable {Qc:List d8->Hp->Prop}
variable {xs:Array Nat}
variable {i:Nat} {j:Nat}
variable {es:List PySem.Expr}
variable {t:PySem.Expr}
variable {hs:List Int}
variable {k:d8} {v:PySem.Value}
variable {S:PySem.Addr}
variable {t:PySem.SetTable}
variable {L:List El}
variable {Q:C0} {xs:List d8} {e:Ev}
variable {o:Z5} {j:Int}
variable {a:Nat} {v:d8} {x:Nm} {K:Calls}
variable {l:List d8} {turn:d8->Hp->(List d8->Hp->Prop)->Prop}
variable {k:Nat} {es:List (d8×d8)}
variable {up:List Nat}
variable {Q:m7}
section
section
variable {K:Calls} {r:En} {H:Hp}
theorem m8 (q:Q v H):j6 v K r H Q:=q
theorem f9 (h:r x=some v) (q:Q v H):d7 x K r H Q:=⟨v,h,q⟩
theorem D1 {es:Lv} (h:es K r H λvs H1=>Q (.tup vs) H1):n5 es K r H Q:=h
theorem X6 {es:Lv} (h:es K r H λvs H1=>∀ a,H1 a=none->Q (.ref a) (H1.set a (.list vs))):J5 es K r H Q:=h
theorem g9 {Q:List d8->Hp->Prop} (q:Q [] H):f4 K r H Q:=q
theorem d9 {es:Lv} {Q:List d8->Hp->Prop} (h:e K r H λv H1=>es K r H1 λvs H2=>Q (v :: vs) H2):d6 e es K r H Q:=h
theorem I4 {o:BOp} {a b:Ev} (h:a K r H λv H1=>b K r H1 λw H2=>a43 o v w H2 Q):y7 o a b K r H Q:=h
theorem a5J {a:Ev} (h:a K r H λv H1=>∃ i,v=.int i/\Q (.int (-i)) H1):a3c a K r H Q:=h
theorem b9N {a b:Ev} (h:a K r H λv H1=>∃ t,v=.bool t/\(t=true->b K r H1 Q)/\(t=false->Q v H1)):b5H a b K r H Q:=h
theorem a6x {c:Cv} (h:c K r H λb H1=>Q (.bool b) H1):a2K c K r H Q:=h
theorem a5Q {c:Cv} {a b:Ev} (h:c K r H λt H1=>(t=true->a K r H1 Q)/\(t=false->b K r H1 Q)):a2B c a b K r H Q:=h
theorem a3h (h:e K r H λv H1=>a9G v x H1 Q):n7 e x K r H Q:=h
theorem C9 {e i:Ev} (h:e K r H λv H1=>i K r H1 λw H2=>a8v v w H2 Q):l6 e i K r H Q:=h
theorem O8 {b:BI} {as:Lv} (h:as K r H λvs H1=>biW b vs H1 Q):J8 b as K r H Q:=h
theorem a0i {f:Nm} {as:Lv} (h:as K r H λvs H1=>K.call 0 f vs H1 Q):G7 f as K r H Q:=h
theorem a9j {c:Nm} {as:Lv} (h:as K r H λvs H1=>b04 K c vs H1 Q):a6m c as K r H Q:=h
theorem c6P {m:Nm} {as:Lv} (h:e K r H λv H1=>∃ k,b6Q K.has H1 v m k/\as K r H1 λvs H2=>S9 K k v m vs H2 Q):j7 e m as K r H Q:=h
theorem G1 {o:COp} {a b:Ev} {Q:N3} (h:a K r H λv H1=>b K r H1 λw H2=>X8 o v w H2 Q):B3 o a b K r H Q:=h
theorem a4Q {Q:N3} (q:Q true H):B6 K r H Q:=q
theorem a1Z {c cs:Cv} {Q:N3} (h:c K r H λb H1=>(b=true->cs K r H1 Q)/\(b=false->Q false H1)):S2 c cs K r H Q:=h
theorem b6n {c:Cv} {Q:N3} (h:c K r H λb H1=>Q (!b) H1):b2P c K r H Q:=h
theorem a7Z {Q:N3} (h:e K r H λv H1=>∃ b,v=.bool b/\Q b H1):a4D e K r H Q:=h
theorem a5n {a d c x:Nat} {fs:List (Nm×d8)} {u:d8} (h1:H a=some (.inst c d)) (h2:H d=some (.ns fs)) (h3:a0n fs x=some u) (q:Q u H):a9G (.ref a) x H Q:=⟨c,d,fs,u,⟨a,rfl,h1,h2⟩,h3,q⟩
theorem a9x {l:Nat} (h:i < l) (hl:l<=o5):a07 l (i:Int)=some i:=by
 unfold a07;refine b9 (if_pos hl) ?_;refine b9 (if_pos ⟨Int.natCast_nonneg _,by exact b8A h⟩) ?_;rfl
theorem M8 {x:d8} (h:H a=some (.list xs)) (hl:xs.length<=o5) (hx:xs[i]?=some x) (q:Q x H):a8v (.ref a) (.int (i:Nat)) H Q :=
 .inr (.inl ⟨xs,i,i,x,.inr ⟨a,rfl,h⟩,rfl,a9x (List.getElem?_eq_some_iff.mp hx).1 hl,hx,q⟩)
theorem a0T {x:d8} (hl:xs.length<=o5) (hx:xs[i]?=some x) (q:Q x H):a8v (.tup xs) (.int (i:Nat)) H Q :=
 .inr (.inl ⟨xs,i,i,x,.inl rfl,rfl,a9x (List.getElem?_eq_some_iff.mp hx).1 hl,hx,q⟩)
theorem B1 (h:H a=some (.list xs)) (hl:xs.length<=o5) (q:Q (.int (xs.length:Nat)) H):biW .len [.ref a] H Q:=⟨a,xs,rfl,h,hl,q⟩
theorem b2H {i j:Int} {Q:N3} (q:Q (!decide (i=j)) H):X8 .ne (.int i) (.int j) H Q:=⟨decide (i=j),.inl (.inl ⟨rfl,rfl,by
 refine I9 (decide_eq_decide ..) ?_;exact ⟨λe=>by refine b9 e ?_;rfl,λe=>by injection e⟩⟩),q⟩
theorem a2D {i j:Int} {Q:N3} (q:Q (decide (i=j)) H):X8 .eq (.int i) (.int j) H Q:=⟨decide (i=j),.inl (.inl ⟨rfl,rfl,by
 refine I9 (decide_eq_decide ..) ?_;exact ⟨λe=>by refine b9 e ?_;rfl,λe=>by injection e⟩⟩),q⟩
theorem a4l {i j:Int} {Q:N3} (q:Q (decide (i < j)) H):X8 .lt (.int i) (.int j) H Q:=⟨i,j,rfl,rfl,q⟩
theorem gt_int {i j:Int} {Q:N3} (q:Q (decide (i > j)) H):X8 .gt (.int i) (.int j) H Q:=⟨i,j,rfl,rfl,q⟩
theorem a0w {i j:Int} (q:Q (.int (i+j)) H):a43 .add (.int i) (.int j) H Q:=.inl ⟨i,j,rfl,rfl,q⟩
theorem a2u {l m:List d8} (hl:l.length+m.length<=o5) (q:Q (.tup (l++m)) H):a43 .add (.tup l) (.tup m) H Q:=.inr (.inr (.inl ⟨l,m,rfl,rfl,hl,q⟩))
theorem sub_int {i j:Int} (q:Q (.int (i - j)) H):a43 .sub (.int i) (.int j) H Q:=⟨i,j,rfl,rfl,q⟩
theorem D6 {Q:C0} (h:e K r H λ_ H1=>Q .next r H1):v7 e K r H Q:=h
theorem z0 {t:Tv} {Q:C0} (h:e K r H λv H1=>t K v r H1 λr1 H2=>Q .next r1 H2):s6 t e K r H Q:=h
theorem B7 {Q:a3M} (h:Q (r.set x v) H):l7 x K v r H Q:=h
theorem E0 {Q:C0} (h:e K r H λv H1=>Q (.ret v) r H1):H9 e K r H Q:=h
theorem a1a {c:Cv} {a b:Bv} {Q:C0} (h:c K r H λt H1=>(t=true->a K r H1 Q)/\(t=false->b K r H1 Q)):a0t c a b K r H Q:=h
theorem a9i {Q:C0} (h:Q .next r H):m6 K r H Q:=h
theorem g8 {s b:Bv} {Q:C0} (h:s K r H λf r1 H1=>a3o f (b K r1 H1 Q) λv=>Q (.ret v) r1 H1):f6 s b K r H Q:=h
end
theorem b7f {c:En->Hp->N3->Prop} {b:En->Hp->C0->Prop} {Q:C0} (I:Nat->En->Hp->Prop)
  (h:∀ k r H,I k r H->∀ W:C0,(∀ k' r1 H1,k' < k->I k' r1 H1->W .next r1 H1)->c r H λt H1=>(t=true->b r H1 W)/\(t=false->Q .next r H1)) :
  ∀ m k r H,k < m->I k r H->b3r c b m r H Q:=by
 intro m;induction m with
 | zero=>intro _ _ _ hk _;exact absurd hk (Nat.not_lt_zero _)
 | succ m ih=>intro k r H hk hi;exact h k r H hi _ λk' r1 H1 hk' hi'=>ih k' r1 H1 (Nat.lt_of_lt_of_le hk' (Nat.le_of_lt_succ hk)) hi'
theorem b3l {c:Cv} {b:Bv} {Q:C0} (I:Nat->En->Hp->Prop) (k:Nat) (hi:I k r H)
  (h:∀ k r H,I k r H->∀ W:C0,(∀ k' r1 H1,k' < k->I k' r1 H1->W .next r1 H1)->c K r H λt H1=>(t=true->b K r H1 W)/\(t=false->Q .next r H1)):a8X c b K r H Q :=
 ⟨k+1,b7f I h (k+1) k r H (Nat.lt_succ_self k) hi⟩
theorem R7 {t:List Nm} {b:En->Hp->C0->Prop} {src:Src} {Q:C0} (l:List d8) (I:Nat->En->Hp->Prop)
  (hn:∀ i r H,I i r H->src.next H i l[i]?) (he:∀ r H,I l.length r H->Q .next r H)
  (h:∀ i v r H,l[i]?=some v->I i r H->∀ W:C0,(∀ r1 H1,I (i+1) r1 H1->W .next r1 H1)->(∀ v r1 H1,Q (.ret v) r1 H1->W (.ret v) r1 H1)->∃ r',a0a t one v r r'/\b r' H W) :
  ∀ m i r H,l.length - i < m->i<=l.length->I i r H->a88 t one b src m i r H Q:=by
 intro m;induction m with
 | zero=>intro _ _ _ hk _ _;exact absurd hk (Nat.not_lt_zero _)
 | succ m ih =>
  intro i r H hk hl hi;refine ⟨l[i]?,hn i r H hi,λe=>?_,λv e=>?_⟩
  ·rw [List.getElem?_eq_none_iff] at e;obtain rfl:i=l.length:=Nat.le_antisymm hl e;exact he r H hi
  ·have hlt:=(List.getElem?_eq_some_iff.mp e).1;exact h i v r H e hi _ (λr1 H1 hi'=>ih (i+1) r1 H1 (b3w hk hlt) hlt hi') λv r1 H1 q=>q
theorem a37 {src:Src} {Q:List d8->Hp->Prop} (l:List d8) (I:Nat->List d8->Hp->Prop)
  (hn:∀ i acc H,I i acc H->src.next H i l[i]?) (he:∀ acc H,I l.length acc H->Q acc H)
  (h:∀ i v acc H,l[i]?=some v->I i acc H->acc.length<=o5/\∀ W:List d8->Hp->Prop,(∀ xs H1,I (i+1) (acc++xs) H1->W xs H1)->turn v H W) :
  ∀ m i acc H,l.length - i < m->i<=l.length->I i acc H->a0M turn src m i acc H Q:=by
 intro m;induction m with
 | zero=>intro _ _ _ hk _ _;exact absurd hk (Nat.not_lt_zero _)
 | succ m ih =>
  intro i acc H hk hl hi;refine ⟨l[i]?,hn i acc H hi,λe=>?_,λv e=>?_⟩
  ·rw [List.getElem?_eq_none_iff] at e;obtain rfl:i=l.length:=Nat.le_antisymm hl e;exact he acc H hi
  ·have hlt:=(List.getElem?_eq_some_iff.mp e).1;refine eA (h i v acc H e hi) λh1 h2=>?_;exact ⟨h1,h2 _ λxs H1 hi'=>ih (i+1) (acc++xs) H1 (b3w hk hlt) hlt hi'⟩
theorem A1:a0a [x] true v r (r.set x v):=.inl ⟨rfl,x,rfl,rfl⟩
theorem Z6 {t:List Nm} {b:Bv} {Q:C0} (h:it.iv K r H λsrc H1=>∃ n,a88 t one (b K) src n 0 r H1 Q):O6 t one it b K r H Q:=h
theorem t0 {F:D4} {c f:Nm} {vs:List d8} {fd:Fn} (hf:F c f=some fd) (hl:vs.length=fd.params.length)
  (h:fd.body (j5 F n) (bindL fd.params vs En.nil) H λfl _ H'=>a3o fl (Q .none H') λv=>Q v H'):(j5 F (n+1)).call c f vs H Q:=⟨fd,hf,hl,h⟩
inductive Slot where
 | eg (k:Nat) | lot (i:Nat) | us (i:Nat) | ow (k:Nat)
 deriving DecidableEq
noncomputable abbrev D0:=Slot->Option Z5
noncomputable def upd (C:D0) (s:Slot) (o:Z5):D0:=λt=>if t=s then some o else C t
noncomputable def I7 (lay:Slot->Nat) (s:Slot) (a:Nat):Slot->Nat:=λt=>if t=s then a else lay t
theorem B4 {C:D0} {s:Slot}:upd C s o s=some o:=if_pos rfl
theorem j3 {C:D0} {s t:Slot} (h:t≠s):upd C s o t=C t:=if_neg h
theorem a0U {lay:Slot->Nat} {s:Slot}:I7 lay s a s=a:=if_pos rfl
theorem P0 {lay:Slot->Nat} {s t:Slot} (h:t≠s):I7 lay s a t=lay t:=if_neg h
structure G0 (lay:Slot->Nat) (C:D0) (H:Hp):Prop where
 at_:∀ s o,C s=some o->H (lay s)=some o
 inj:∀ s t o p,C s=some o->C t=some p->lay s=lay t->s=t
noncomputable def m5 (H H':Hp):Prop:=∀ a o,H a=some o->H' a=some o
theorem m5.refl (H:Hp):m5 H H:=λ_ _ e=>e
theorem m5.trans {H H1 H2:Hp} (x:m5 H H1) (y:m5 H1 H2):m5 H H2:=λa o e=>y a o (x a o e)
theorem m5.new (h:H a=none):m5 H (H.set a o):=λb p e=>by
 unfold Hp.set;refine b9 (if_neg (λz=>by rw [z,h] at e;cases e)) ?_;exact e
theorem l9:(H.set a o) a=some o:=if_pos rfl
theorem A0 {a b:Nat} (h:b≠a):(H.set a o) b=H b:=if_neg h
theorem G0.keep {lay:Slot->Nat} {C:D0} {H H':Hp} (x:G0 lay C H) (k:m5 H H'):G0 lay C H':=⟨λs o e=>k _ _ (x.at_ s o e),x.inj⟩
theorem G0.put {lay:Slot->Nat} {C:D0} (x:G0 lay C H) {s:Slot} {o p:Z5} (h:C s=some p):G0 lay (upd C s o) (H.set (lay s) o):=by
 have used:∀ t q,upd C s o t=some q->∃ q',C t=some q':=λt q e=>by
  by_cases z:t=s
  ·exact ⟨p,z▸h⟩
  ·rw [j3 z] at e;exact ⟨q,e⟩
 refine ⟨λt q e=>?_,λt u q q' e e' z=>?_⟩
 ·by_cases z:t=s
  ·subst z;rw [B4] at e;have q1:=A3 e;clear e;subst q1;exact l9
  ·rw [j3 z] at e;refine b9 (A0 λw=>z (x.inj t s q p e h w)) ?_;exact x.at_ t q e
 ·refine eE (used t q e) λ_ a=>?_;refine eE (used u q' e') λ_ b=>?_;exact x.inj t u _ _ a b z
theorem G0.take {lay:Slot->Nat} {C:D0} (x:G0 lay C H) {s:Slot} (h:H a=none):G0 (I7 lay s a) (upd C s o) (H.set a o):=by
 have off:∀ t q,C t=some q->lay t≠a:=λt q e z=>by
  have:=x.at_ t q e;rw [z,h] at this;cases this
 refine ⟨λt q e=>?_,λt u q q' e e' z=>?_⟩
 ·by_cases w:t=s
  ·subst w;rw [B4] at e;have q2:=A3 e;clear e;subst q2;refine b9 a0U ?_;exact l9
  ·rw [j3 w] at e;refine b9 (P0 w) ?_;refine b9 (A0 (off t q e)) ?_;exact x.at_ t q e
 ·by_cases w:t=s <;> by_cases v:u=s
  ·refine b9 w ?_;refine b9 v ?_;rfl
  ·rw [j3 v] at e';rw [w,a0U,P0 v] at z;exact absurd z.symm (off u q' e')
  ·rw [j3 w] at e;rw [v,a0U,P0 w] at z;exact absurd z (off t q e)
  ·rw [j3 w] at e;rw [j3 v] at e';rw [P0 w,P0 v] at z;exact x.inj t u q q' e e' z
noncomputable abbrev I3:=String×List Nat
noncomputable def iL (l:List Nat):List d8:=l.map λ(i:Nat)=>d8.int i
noncomputable def r8 (x:I3):d8:=.tup (.str x.1 :: iL x.2)
structure St where
 nd:List I3
 up:List Nat
 kn:List (I3×Nat)
 us:List (Nat×List Nat)
 wt:List Nat
 m:Nat
 e:Nat
 f:Nat
noncomputable def b3f (lay:Slot->Nat):List (Nm×d8):=[(V8,.ref (lay (.eg 2))),(K0,.ref (lay (.eg 8))),(W6,.ref (lay (.eg 13))),(Y7,.ref (lay (.eg 14))),(a2a,.ref (lay (.eg 15))),(t8,.ref (lay (.eg 16))),(X5,.ref (lay (.eg 17)))]
noncomputable def a8d (lay:Slot->Nat):List (Nm×d8):=[(K9,.ref (lay (.eg 4))),(D8,.ref (lay (.eg 5))),(W8,.ref (lay (.eg 6))),(a1A,.ref (lay (.eg 7)))]
noncomputable def b6q (lay:Slot->Nat):List (Nm×d8):=[(t8,.ref (lay (.eg 10))),(w8,.ref (lay (.eg 11))),(U9,.ref (lay (.eg 12)))]
noncomputable def T0 (lay:Slot->Nat) (n:Nat):List d8:=(List.range n).map λi=>d8.ref (lay (.lot i))
noncomputable def a0q (nd:List I3):List (d8×d8):=nd.zipIdx.map λp=>(r8 p.1,d8.int p.2)
noncomputable def knV (kn:List (I3×Nat)):List (d8×d8):=kn.map λp=>(r8 p.1,d8.int p.2)
noncomputable def W2 (lay:Slot->Nat) (us:List (Nat×List Nat)):List (d8×d8):=us.map λp=>(d8.int p.1,d8.ref (lay (.us p.1)))
structure Hd (lay:Slot->Nat) (C:D0):Prop where
 c0:C (.eg 0)=some (.inst o6 (lay (.eg 1)))
 c1:C (.eg 1)=some (.ns (b3f lay))
 c2:C (.eg 2)=some (.inst E6 (lay (.eg 3)))
 c3:C (.eg 3)=some (.ns (a8d lay))
 c8:C (.eg 8)=some (.inst v6 (lay (.eg 9)))
 c9:C (.eg 9)=some (.ns (b6q lay))
noncomputable def c3z:Slot->Bool
 | .eg k=>k==0||k==1||k==2||k==3||k==8||k==9
 | _=>false
noncomputable def c6I:Slot->Bool
 | .eg _=>true
 | _=>false
theorem Hd.upd {lay:Slot->Nat} {C:D0} {s:Slot} (h:Hd lay C) (hs:c3z s=false):Hd lay (upd C s o):=by
 have ne:∀ t,c3z t=true->t≠s:=λt ht e=>by rw [e,hs] at ht;cases ht
 exact ⟨(j3 (ne _ rfl)).trans h.c0,(j3 (ne _ rfl)).trans h.c1,(j3 (ne _ rfl)).trans h.c2,(j3 (ne _ rfl)).trans h.c3,(j3 (ne _ rfl)).trans h.c8,(j3 (ne _ rfl)).trans h.c9⟩
theorem Hd.take {lay:Slot->Nat} {C:D0} {s:Slot} (h:Hd lay C) (hs:c6I s=false):Hd (I7 lay s a) (Mine.Internal.upd C s o):=by
 cases s with
 | eg k=>cases hs
 | lot i=>exact ⟨h.c0,h.c1,h.c2,h.c3,h.c8,h.c9⟩
 | us i=>exact ⟨h.c0,h.c1,h.c2,h.c3,h.c8,h.c9⟩
 | ow i=>exact ⟨h.c0,h.c1,h.c2,h.c3,h.c8,h.c9⟩
structure EG (lay:Slot->Nat) (C:D0) (st:St):Prop extends Hd lay C where
 c4:C (.eg 4)=some (.list (st.nd.map r8))
 c5:∃ ep,C (.eg 5)=some (.dict (a0q st.nd) ep)
 c6:∃ l:List Int,C (.eg 6)=some (.list (l.map d8.int))/\l.length=st.nd.length
 c7:∃ l:List Int,C (.eg 7)=some (.list (l.map d8.int))/\l.length=st.nd.length
 c10:C (.eg 10)=some (.list (iL st.up))
 c11:C (.eg 11)=some (.list (T0 lay st.up.length))
 cl:∀ i,i < st.up.length->∃ xs,C (.lot i)=some (.list xs)/\xs.length<=2 ^ st.m
 c12:∃ xs,C (.eg 12)=some (.list xs)/\xs.length=st.m
 c13:∃ xs,C (.eg 13)=some (.list xs)/\xs.length=st.e
 c14:∃ xs,C (.eg 14)=some (.list xs)/\xs.length=st.f
 c15:∃ ep,C (.eg 15)=some (.dict (knV st.kn) ep)
 c16:∃ ep,C (.eg 16)=some (.dict (W2 lay st.us) ep)
 cu:∀ p∈st.us,C (.us p.1)=some (.list (iL p.2))
 c17:C (.eg 17)=some (.list (iL st.wt))
structure Up (up:List Nat):Prop where
 le:∀ (i p:Nat),up[i]?=some p->p<=i
noncomputable def a3I (up:List Nat):Nat->Nat->Nat
 | 0,i=>i
 | f+1,i=>match up[i]? with
  | some p=>if p=i then i else a3I up f p
  | none=>i
noncomputable def f8 (up:List Nat) (i:Nat):Nat:=a3I up i i
theorem a8g (u:Up up):∀ f i,i<=f->a3I up f i=a3I up i i:=by
 intro f;induction f using Nat.strongRecOn with
 | ind f ih =>
  intro i hi;cases f with
  | zero =>
   obtain rfl:i=0:=by exact b71 hi
   rfl
  | succ f =>
   cases i with
   | zero =>
    unfold a3I;cases e:up[0]? with
    | none=>rfl
    | some p =>
     have:=u.le 0 p e;obtain rfl:p=0:=by exact b71 this
     simp
   | succ i =>
    unfold a3I;cases e:up[i+1]? with
    | none=>rfl
    | some p =>
     dsimp only;by_cases z:p=i+1
     ·refine b9 (if_pos z) ?_;refine b9 (if_pos z) ?_;rfl
     ·have:=u.le _ p e;refine b9 (if_neg z) ?_;refine b9 (if_neg z) ?_;refine b9 (ih f (Nat.lt_succ_self f) p (c5N hi z this)) ?_;by_cases w:i < f
      ·refine b9 (ih i (zo3 w) p (b5g z this)) ?_;rfl
      ·obtain rfl:i=f:=by exact c5v hi w
       refine b9 (ih i (Nat.lt_succ_self _) p (b5g z this)) ?_;rfl
theorem y5 (u:Up up) {i p:Nat} (e:up[i]?=some p):f8 up i=if p=i then i else f8 up p:=by
 unfold f8;cases i with
 | zero =>
  have:=u.le 0 p e;obtain rfl:p=0:=by exact b71 this
  rfl
 | succ i =>
  conv=>lhs;unfold a3I
  refine b9 e ?_;dsimp only;by_cases z:p=i+1
  ·refine b9 (if_pos z) ?_;refine b9 (if_pos z) ?_;rfl
  ·have:=u.le _ p e;refine b9 (if_neg z) ?_;refine b9 (if_neg z) ?_;refine b9 (a8g u i p (b5g z this)) ?_;rfl
theorem b2z {l:List Nat} {x:Nat} (h:l[i]?=some x):(iL l)[i]?=some (.int x):=by
 unfold iL;refine b9 List.getElem?_map ?_;refine b9 h ?_;rfl
theorem m9 (l:List Nat):(iL l).length=l.length:=c7x ..
theorem b6J {F:D4} (hF:F v6 G2=some a0k) {lay:Slot->Nat} {C:D0} {st:St} (L:G0 lay C H) (E:EG lay C st) (u:Up st.up) (hl:∀ p∈st.up,p < st.up.length) (hm:st.up.length<=o5) (ha:a < st.up.length) (q:Q (.int (f8 st.up a:Nat)) H) :
  (j5 F (n+1)).call v6 G2 [.ref (lay (.eg 8)),.int (a:Nat)] H Q:=by
 refine t0 hF rfl ?_;have i0:=L.at_ _ _ E.c8;have i1:=L.at_ _ _ E.c9;have i2:=L.at_ _ _ E.c10;have at_:∀ {r:En} {i p:Nat} {Q:m7},r f7=some (.ref (lay (.eg 8)))->r n_a=some (.int (i:Nat))->st.up[i]?=some p->Q (.int (p:Nat)) H->l6 (n7 (d7 f7) t8) (d7 n_a) (j5 F n) r H Q:=λh1 h2 h3 q =>
  C9 (a3h (f9 h1 (a5n i0 i1 rfl (f9 h2 (M8 i2 (by refine b9 (m9 ..) ?_;exact hm) (b2z h3) q)))))
 refine g8 (b3l (λk r1 H1=>H1=H/\r1 f7=some (.ref (lay (.eg 8)))/\r1 n_a=some (.int (k:Nat))/\k < st.up.length/\f8 st.up k=f8 st.up a) a ⟨rfl,rfl,rfl,ha,rfl⟩ λk r1 H1 hI W hW=>?_);refine a3R hI λq1 h1 h2 hk hr=>?_;clear hI;subst q1;have hp:=List.getElem?_eq_getElem hk;generalize st.up[k]=p at hp;have hs:=y5 u hp;refine G1 (at_ h1 h2 hp (f9 h2 (b2H ⟨λt=>?_,λt=>?_⟩)))
 ·have hne:p≠k:=λe=>by subst e;simp at t
  rw [if_neg hne] at hs;have:=u.le _ _ hp;exact g8 (z0 (at_ h1 h2 hp (B7 (hW p _ _ (c06 hne this) ⟨rfl,h1,rfl,hl p (c7w hp),hs.symm.trans hr⟩))))
 ·have he:p=k:=by
   have t:decide ((p:Int)=(k:Nat))=true:=by simpa using t
   have:=of_decide_eq_true t;exact zo5 this
  rw [if_pos he] at hs;refine g8 (E0 (f9 h2 ?_));show Q _ _;refine t6 hs ?_;refine b9 hr ?_;exact q
section
variable {F:D4} {n:Nat} {r:En} {H:Hp}
theorem u6 {m c:Nm} {as:Lv} {a d:Nat} {fs:List (Nm×d8)} (hF:(F c m).isSome=true) (h1:H a=some (.inst c d)) (h2:H d=some (.ns fs)) (h3:a0n fs m=none)
  (he:∀ Q:m7,Q (.ref a) H->e (j5 F n) r H Q) (h:as (j5 F n) r H λvs H2=>(j5 F n).call c m (.ref a :: vs) H2 Q):j7 e m as (j5 F n) r H Q :=
 he _ ⟨.inst c,⟨d,fs,⟨a,rfl,h1,h2⟩,h3,by refine b9 (a5F ..) ?_;exact hF⟩,h⟩
end
section
variable {K:Calls} {r:En} {H:Hp}
theorem a51 {e i:Ev} (h:e K r H λv H1=>i K r H1 λw H2=>a6A v w H2 Q):a2g e i K r H Q:=h
theorem a12 (hl:l.length+1<=o5) (q:Q (.tup l) H):a6A (.tup (v :: l)) (.int 1) H Q:=⟨v :: l,1,rfl,rfl,by exact c3X,by simp;exact c5s,hl,q⟩
end
structure Tb (F:D4):Prop where
 ufind:F v6 G2=some a0k
 usize:F v6 P6=some a2m
 umake:F v6 a6C=some a2o
 umerge:F v6 R9=some a1z
 uclasses:F v6 G5=some a0D
 bsize:F E6 P6=some a3S
 btake:F E6 a4U=some a3Q
 breq:F E6 a1R=some a1B
 bop:F E6 O0=some a5w
 bkids:F E6 F7=some a3A
 isop:F 0 a39=some a9l
 hfind:F o6 G2=some a3C
 hsize:F o6 P6=some a3U
 hnode:F o6 N9=some a3P
 hadd:F o6 a2j=some a4x
 hlook:F o6 T8=some a1I
 hmerge:F o6 R9=some a2Q
 hjoin:F o6 a3f=some a3V
 hsettle:F o6 a1C=some a2n
 hclasses:F o6 G5=some a1t
 hmany:F o6 G6=some a0d
 hseek:F o6 a6q=some a3W
structure Ok (st:St):Prop where
 up:Up st.up
 lt:∀ p∈st.up,p < st.up.length
 small:st.up.length<=17
 nd:st.nd.length<=17
 two:∀ x∈st.nd,x.2.length<=2
section
variable {F:D4} {n:Nat} {lay:Slot->Nat} {C:D0} {H:Hp} {st:St} {Q:m7}
theorem o7 (h:k<=17):k<=o5:=Nat.le_trans h (by decide)
theorem M4 (L:G0 lay C H) (E:Hd lay C) (he:∀ Q:m7,Q (.ref (lay (.eg 0))) H->e K r H Q) (h:a0n (b3f lay) x=some v) (q:Q v H):n7 e x K r H Q :=
 a3h (he _ (a5n (L.at_ _ _ E.c0) (L.at_ _ _ E.c1) h q))
theorem a08 (L:G0 lay C H) (E:Hd lay C) (he:∀ Q:m7,Q (.ref (lay (.eg 2))) H->e K r H Q) (h:a0n (a8d lay) x=some v) (q:Q v H):n7 e x K r H Q :=
 a3h (he _ (a5n (L.at_ _ _ E.c2) (L.at_ _ _ E.c3) h q))
theorem a1e (L:G0 lay C H) (E:Hd lay C) (he:∀ Q:m7,Q (.ref (lay (.eg 8))) H->e K r H Q) (h:a0n (b6q lay) x=some v) (q:Q v H):n7 e x K r H Q :=
 a3h (he _ (a5n (L.at_ _ _ E.c8) (L.at_ _ _ E.c9) h q))
theorem o9 (h:r x=some v):∀ Q:m7,Q v H->d7 x K r H Q:=λ_ q=>⟨v,h,q⟩
theorem usize (T:Tb F) (L:G0 lay C H) (E:EG lay C st) (o:Ok st) (q:Q (.int (st.up.length:Nat)) H):(j5 F (n+1)).call v6 P6 [.ref (lay (.eg 8))] H Q:=by
 refine t0 T.usize rfl (g8 (E0 (O8 (d9 (a1e L E.toHd (o9 rfl) rfl (g9 (B1 (L.at_ _ _ E.c10) ?_ ?_)))))))
 ·refine b9 (m9 ..) ?_;exact o7 o.small
 ·refine b9 (m9 ..) ?_;exact q
theorem bsize (T:Tb F) (L:G0 lay C H) (E:EG lay C st) (o:Ok st) (q:Q (.int (st.nd.length:Nat)) H):(j5 F (n+1)).call E6 P6 [.ref (lay (.eg 2))] H Q:=by
 refine t0 T.bsize rfl (g8 (E0 (O8 (d9 (a08 L E.toHd (o9 rfl) rfl (g9 (B1 (L.at_ _ _ E.c4) ?_ ?_)))))))
 ·refine b9 (c7x ..) ?_;exact o7 o.nd
 ·refine b9 (c7x ..) ?_;exact q
theorem hfind (T:Tb F) (L:G0 lay C H) (E:EG lay C st) (o:Ok st) (ha:a < st.up.length) (q:Q (.int (f8 st.up a:Nat)) H):(j5 F (n+2)).call o6 G2 [.ref (lay (.eg 0)),.int (a:Nat)] H Q:=by
 refine t0 T.hfind rfl (g8 (E0 (u6 (by refine b9 T.ufind ?_;rfl) (L.at_ _ _ E.c8) (L.at_ _ _ E.c9) rfl (λ_ q=>M4 L E.toHd (o9 rfl) rfl q) (d9 (f9 rfl (g9 (b6J T.ufind L E o.up o.lt (o7 o.small) ha ?_)))))))
 exact q
theorem hsize (T:Tb F) (L:G0 lay C H) (E:EG lay C st) (o:Ok st) (q:Q (.int (st.nd.length:Nat)) H):(j5 F (n+2)).call o6 P6 [.ref (lay (.eg 0))] H Q:=by
 refine t0 T.hsize rfl (g8 (E0 (u6 (by refine b9 T.bsize ?_;rfl) (L.at_ _ _ E.c2) (L.at_ _ _ E.c3) rfl (λ_ q=>M4 L E.toHd (o9 rfl) rfl q) (g9 (bsize T L E o ?_)))))
 exact q
theorem bop (T:Tb F) (L:G0 lay C H) (E:EG lay C st) (o:Ok st) {x:I3} (hi:st.nd[i]?=some x) (q:Q (.str x.1) H):(j5 F (n+1)).call E6 O0 [.ref (lay (.eg 2)),.int (i:Nat)] H Q:=by
 refine t0 T.bop rfl (g8 (E0 (C9 (C9 (a08 L E.toHd (o9 rfl) rfl (f9 rfl (M8 (x:=r8 x) (L.at_ _ _ E.c4) ?_ ?_ (m8 (a0T (i:=0) ?_ rfl ?_)))))))))
 ·refine b9 (c7x ..) ?_;exact o7 o.nd
 ·refine b9 List.getElem?_map ?_;refine b9 hi ?_;rfl
 ·show (iL x.2).length+1<=o5;have:=o.two x (c7w hi);refine b9 (m9 ..) ?_;unfold o5;exact zo2 this
 ·exact q
theorem bkids (T:Tb F) (L:G0 lay C H) (E:EG lay C st) (o:Ok st) {x:I3} (hi:st.nd[i]?=some x) (q:Q (.tup (iL x.2)) H):(j5 F (n+1)).call E6 F7 [.ref (lay (.eg 2)),.int (i:Nat)] H Q:=by
 refine t0 T.bkids rfl (g8 (E0 (a51 (C9 (a08 L E.toHd (o9 rfl) rfl (f9 rfl (M8 (x:=r8 x) (L.at_ _ _ E.c4) ?_ ?_ (m8 (a12 (v:=.str x.1) ?_ ?_)))))))))
 ·refine b9 (c7x ..) ?_;exact o7 o.nd
 ·refine b9 List.getElem?_map ?_;refine b9 hi ?_;rfl
 ·have:=o.two x (c7w hi);refine b9 (m9 ..) ?_;unfold o5;exact zo2 this
 ·exact q
end
end
variable {g:Nat}
section
theorem b0P {src:Src} {g:d8->Option d8} {H0:Hp} {Q:List d8->Hp->Prop} (hs:∀ H',m5 H0 H'->∀ i,src.next H' i l[i]?) (hl:l.length<=o5)
  (h:∀ v∈l,∀ H',m5 H0 H'->∀ P:List d8->Hp->Prop,(∀ H'',m5 H' H''->P (g v).toList H'')->turn v H' P) (q:∀ H',m5 H0 H'->Q (l.filterMap g) H'):∃ n,a0M turn src n 0 [] H0 Q:=by
 refine ⟨l.length+1,a37 l (λi acc H=>m5 H0 H/\acc=(l.take i).filterMap g) (λi acc H hi=>hs H hi.1 i) (λacc H hi=>?_) (λi v acc H hv hi=>⟨?_,λW hW=>?_⟩) _ 0 [] H0 (zo0) (Nat.zero_le _) ⟨.refl _,rfl⟩⟩
 ·refine b9 hi.2 ?_;refine b9 List.take_length ?_;exact q H hi.1
 ·refine b9 hi.2 ?_;exact Nat.le_trans (List.length_filterMap_le ..) (Nat.le_trans (List.length_take_le' _ _) hl)
 ·refine h v (c7w hv) H hi.1 W λH'' k=>hW _ _ ⟨hi.1.trans k,?_⟩;refine b9 hi.2 ?_;refine b9 List.take_add_one ?_;refine b9 hv ?_;refine b9 List.filterMap_append ?_;cases e:g v <;> simp [e]
theorem a0l {elt:Ev} {ifs:Cv} {g:d8->Option d8} (hl:l.length<=o5)
  (hit:∀ R:Src->Hp->Prop,(∀ src H1,m5 H H1->(∀ H',m5 H1 H'->∀ i,src.next H' i l[i]?)->R src H1)->it.iv K r H R)
  (h:∀ v∈l,∀ H',m5 H H'->∀ P:List d8->Hp->Prop,(∀ H'',m5 H' H''->P (g v).toList H'')->a2R elt ifs K (r.set x v) H' P)
  (q:∀ H' a,m5 H H'->H' a=none->Q (.ref a) (H'.set a (.list (l.filterMap g)))):v8 elt [x] true it ifs K r H Q :=
 hit _ λsrc H1 k1 hs=>b0P hs hl (λv hv H' k' P hP=>⟨_,A1,h v hv H' (k1.trans k') P hP⟩) λH' k' a ha=>q H' a (k1.trans k') ha
theorem a4R (he:∀ Q:m7,(∀ H1,m5 H H1->Q (.tup l) H1)->e K r H Q) :
  ∀ R:Src->Hp->Prop,(∀ src H1,m5 H H1->(∀ H',m5 H1 H'->∀ i,src.next H' i l[i]?)->R src H1)->(w5 e).iv K r H R:=λR hR=>he _ λH1 k=>.inl ⟨l,rfl,hR _ H1 k λ_ _ _=>rfl⟩
theorem a82 (he:∀ Q:m7,(∀ a H1,m5 H H1->H1 a=some (.list l)->Q (.ref a) H1)->e K r H Q) :
  ∀ R:Src->Hp->Prop,(∀ src H1,m5 H H1->(∀ H',m5 H1 H'->∀ i,src.next H' i l[i]?)->R src H1)->(w5 e).iv K r H R:=λR hR=>he _ λa H1 k h=>.inr (.inr (.inl ⟨a,l,rfl,h,hR _ H1 k λH' k' i=>⟨l,k' _ _ h,rfl⟩⟩))
theorem a8p {e:Lv} (hk:k<=o5) (he:∀ Q:List d8->Hp->Prop,(∀ H1,m5 H H1->Q [.int (k:Nat)] H1)->e K r H Q) :
  ∀ R:Src->Hp->Prop,(∀ src H1,m5 H H1->(∀ H',m5 H1 H'->∀ i,src.next H' i (iL (List.range k))[i]?)->R src H1)->(D5 e).iv K r H R:=λR hR=>he _ λH1 k1=>.inl ⟨k,rfl,by have:=hk;exact b9p,by have:=hk;exact c6i hk,hR _ H1 k1 λ_ _ i=>by
  show _=_
  congr 1
  unfold t9 iL;refine b9 (Int.sub_zero ..) ?_;refine b9 (Int.toNat_natCast ..) ?_;refine List.map_congr_left λi _=>?_;refine b9 (Int.zero_add ..) ?_;rfl⟩
theorem N2 {elt:Ev} {P:List d8->Hp->Prop} (h:elt K r H λx H4=>P [x] H4):a2R elt B6 K r H P:=⟨λ_=>h,λe=>nomatch e⟩
theorem a1J (h:H a=some (.list xs)) (hl:xs.length<=o5) (q:Q (.tup xs) H):biW .tuple [.ref a] H Q:=⟨.ref a,xs,rfl,.inr ⟨a,rfl,h⟩,hl,q⟩
theorem a9A (hl:xs.length<=o5) (q:Q (.tup xs) H):biW .tuple [.tup xs] H Q:=⟨.tup xs,xs,rfl,.inl rfl,hl,q⟩
theorem a0K {l:List Nat} {f:Nat->Nat} {g:d8->Option d8} (h:∀ i∈l,g (.int (i:Nat))=some (.int (f i:Nat))):(iL l).filterMap g=iL (l.map f):=by
 induction l with
 | nil=>rfl
 | cons i l ih =>
  show (d8.int (i:Nat) :: iL l).filterMap g=_;refine b9 (List.filterMap_cons_some (h i (List.mem_cons_self))) ?_;refine b9 (ih λj hj=>h j (List.mem_cons_of_mem _ hj)) ?_;rfl
theorem a1p {l:List Nat} (h:v∈iL l):∃ i,i∈l/\v=.int (i:Nat):=by
 refine i9 (List.mem_map.mp h) λi hi q2=>?_;subst q2;exact ⟨i,hi,rfl⟩
noncomputable def fnd (up:List Nat) (v:d8):Option d8:=match v with
 | .int i=>some (.int (f8 up i.toNat:Nat))
 | _=>none
theorem b7H {up l:List Nat}:(iL l).filterMap (fnd up)=iL (l.map (f8 up)):=a0K λi _=>by simp [fnd]
section
variable {F:D4} {n:Nat} {lay:Slot->Nat} {C:D0} {H:Hp} {st:St} {Q:m7}
noncomputable def v0 (up:List Nat) (x:I3):I3:=(x.1,x.2.map (f8 up))
theorem b39 {l:List Nat} (T:Tb F) (L:G0 lay C H) (E:EG lay C st) (o:Ok st) (hx:Nat.beq f7 x=false) (hr:r f7=some (.ref (lay (.eg 0)))) (hl:l.length<=o5) (hk:∀ k∈l,k < st.up.length)
  (hit:∀ R:Src->Hp->Prop,(∀ src H1,m5 H H1->(∀ H',m5 H1 H'->∀ i,src.next H' i (iL l)[i]?)->R src H1)->it.iv (j5 F (n+2)) r H R)
  (q:∀ H' a,m5 H H'->H' a=none->Q (.ref a) (H'.set a (.list (iL (l.map (f8 st.up)))))):v8 (j7 (d7 f7) G2 (d6 (d7 x) f4)) [x] true it B6 (j5 F (n+2)) r H Q:=by
 refine a0l (l:=iL l) (g:=fnd st.up) (by refine b9 (m9 ..) ?_;exact hl) hit (λv hv H' k P hP=>?_) (by refine b9 b7H ?_;exact q)
 refine i9 (a1p hv) λi hi q1=>?_;subst q1;have hs:(r.set x (.int (i:Nat))) f7=some (.ref (lay (.eg 0))):=by unfold En.set;refine b9 hx ?_;exact hr
 have hv':(r.set x (.int (i:Nat))) x=some (.int (i:Nat)):=by unfold En.set;refine b9 (Nat.beq_refl ..) ?_;rfl
 have L':=L.keep k;refine N2 (u6 (by refine b9 T.hfind ?_;rfl) (L'.at_ _ _ E.c0) (L'.at_ _ _ E.c1) rfl (o9 hs) (d9 (f9 hv' (g9 (hfind T L' E o (hk i hi) ?_)))))
 have:=hP H' (.refl _);simpa [fnd] using this
theorem hnode (T:Tb F) (L:G0 lay C H) (E:EG lay C st) (o:Ok st) (hk:∀ x∈st.nd,∀ k∈x.2,k < st.up.length) {x:I3} (hi:st.nd[i]?=some x) (q:∀ H',m5 H H'->Q (r8 (v0 st.up x)) H'):(j5 F (n+3)).call o6 N9 [.ref (lay (.eg 0)),.int (i:Nat)] H Q:=by
 have two:=o.two x (c7w hi);refine t0 T.hnode rfl (g8 (E0 (I4 (D1 (d9 (u6 (by refine b9 T.bop ?_;rfl) (L.at_ _ _ E.c2) (L.at_ _ _ E.c3) rfl (λ_ q=>M4 L E.toHd (o9 rfl) rfl q) (d9 (f9 rfl (g9 (bop T L E o hi (g9 (O8 (d9 (b39 (n:=n) (l:=x.2) T L E o rfl rfl ?_ (hk x (c7w hi)) (a4R λR hR=>u6 (by refine b9 T.bkids ?_;rfl) (L.at_ _ _ E.c2) (L.at_ _ _ E.c3) rfl (λ_ q=>M4 L E.toHd (o9 rfl) rfl q) (d9 (f9 rfl (g9 (bkids T L E o hi (hR H (.refl _))))))) λH' a k ha=>g9 (a1J l9 ?_ (a2u ?_ ?_))))))))))))))))
 ·unfold o5;exact zo4 two
 ·refine b9 (m9 ..) ?_;refine b9 (c7x ..) ?_;unfold o5;exact zo4 two
 ·refine b9 (m9 ..) ?_;refine b9 (c7x ..) ?_;show 1+_<=_;unfold o5;exact b52 two
 ·exact q _ (k.trans (.new ha))
end
section
variable {K:Calls} {r:En} {H:Hp} {e:Ev} {as:Lv} {a:Nat} {Q:m7}
theorem J9 (he:∀ Q:m7,Q (.ref a) H->e K r H Q) (h1:H a=some (.list xs)) (h:as K r H λvs H2=>S9 K (.lst .append) (.ref a) u7 vs H2 Q):j7 e u7 as K r H Q :=
 he _ ⟨.lst .append,⟨⟨a,xs,rfl,h1⟩,rfl⟩,h⟩
theorem a2U (he:∀ Q:m7,Q (.ref a) H->e K r H Q) (h1:H a=some (.list xs)) (h:as K r H λvs H2=>S9 K (.lst .extend) (.ref a) K1 vs H2 Q):j7 e K1 as K r H Q :=
 he _ ⟨.lst .extend,⟨⟨a,xs,rfl,h1⟩,rfl⟩,h⟩
theorem b8t (he:∀ Q:m7,Q (.ref a) H->e K r H Q) (h1:H a=some (.list xs)) (h:as K r H λvs H2=>S9 K (.lst .pop) (.ref a) a24 vs H2 Q):j7 e a24 as K r H Q :=
 he _ ⟨.lst .pop,⟨⟨a,xs,rfl,h1⟩,rfl⟩,h⟩
theorem b7e (he:∀ Q:m7,Q (.ref a) H->e K r H Q) (h1:H a=some (.dict es ep)) (h:as K r H λvs H2=>S9 K (.dct .pop) (.ref a) a24 vs H2 Q):j7 e a24 as K r H Q :=
 he _ ⟨.dct .pop,⟨⟨a,es,ep,rfl,h1⟩,rfl⟩,h⟩
theorem b7a (he:∀ Q:m7,Q (.ref a) H->e K r H Q) (h1:H a=some (.dict es ep)) (h:as K r H λvs H2=>S9 K (.dct .get) (.ref a) a9q vs H2 Q):j7 e a9q as K r H Q :=
 he _ ⟨.dct .get,⟨⟨a,es,ep,rfl,h1⟩,rfl⟩,h⟩
theorem b1L (he:∀ Q:m7,Q (.ref a) H->e K r H Q) (h1:H a=some (.dict es ep)) (h:as K r H λvs H2=>S9 K (.dct .setdefault) (.ref a) J4 vs H2 Q):j7 e J4 as K r H Q :=
 he _ ⟨.dct .setdefault,⟨⟨a,es,ep,rfl,h1⟩,rfl⟩,h⟩
theorem K3 {ys:List d8} (h:H a=some (.list ys)) (hl:ys.length<=o5) (q:Q .none (H.set a (.list (ys++[v])))):S9 K (.lst .append) (.ref a) u7 [v] H Q:=⟨a,ys,rfl,h,v,rfl,hl,q⟩
theorem a2Z {b:Nat} {xs ys:List d8} (h:H a=some (.list xs)) (hb:H b=some (.list ys)) (hne:b≠a) (hl:xs.length+ys.length<=o5) (q:Q .none (H.set a (.list (xs++ys)))):S9 K (.lst .extend) (.ref a) K1 [.ref b] H Q:=⟨a,xs,rfl,h,b,ys,rfl,hne,hb,hl,q⟩
theorem b79 (h:H a=some (.list xs)) (hl:xs.length<=o5) (hv:xs.getLast?=some v) (q:Q v (H.set a (.list xs.dropLast))):S9 K (.lst .pop) (.ref a) a24 [] H Q:=⟨a,xs,rfl,h,v,rfl,hl,hv,q⟩
theorem b7L {k v:d8} (h:H a=some (.dict es ep)) (hk:B0 es k) (hl:es.length<=o5) (hv:s9 es k=some v) (q:Q v (H.set a (.dict (a33 es k) (ep+1)))):S9 K (.dct .pop) (.ref a) a24 [k] H Q:=⟨a,es,ep,rfl,h,k,v,rfl,hk,hl,hv,q⟩
theorem b7B {k d:d8} (h:H a=some (.dict es ep)) (hk:B0 es k) (q:Q ((s9 es k).getD d) H):S9 K (.dct .get) (.ref a) a9q [k,d] H Q:=⟨a,es,ep,rfl,h,k,d,rfl,hk,q⟩
theorem b1Y {k d:d8} (h:H a=some (.dict es ep)) (hk:B0 es k) (hl:es.length<=o5) (q1:∀ v,s9 es k=some v->Q v H) (q2:s9 es k=none->Q d (H.set a (.dict (es++[(k,d)]) (ep+1)))):S9 K (.dct .setdefault) (.ref a) J4 [k,d] H Q :=
 ⟨a,es,ep,rfl,h,k,d,rfl,hk,hl,q1,q2⟩
end
theorem a6n:Slot.eg k≠.lot i:=λe=>nomatch e
theorem J6:Slot.lot i≠.eg k:=λe=>nomatch e
theorem K8:Slot.us i≠.eg k:=λe=>nomatch e
theorem a5R:Slot.eg k≠.us i:=λe=>nomatch e
theorem b38:Slot.us i≠.lot k:=λe=>nomatch e
theorem a9c:Slot.lot i≠.us k:=λe=>nomatch e
structure P7 (lay:Slot->Nat) (C:D0) (lay':Slot->Nat) (C':D0):Prop where
 eg:∀ k,lay' (.eg k)=lay (.eg k)
 lay:∀ k,lay' (.ow k)=lay (.ow k)
 con:∀ k,C' (.ow k)=C (.ow k)
theorem P7.refl (lay:Slot->Nat) (C:D0):P7 lay C lay C:=⟨λ_=>rfl,λ_=>rfl,λ_=>rfl⟩
theorem P7.trans {l1 l2 l3:Slot->Nat} {c1 c2 c3:D0} (x:P7 l1 c1 l2 c2) (y:P7 l2 c2 l3 c3):P7 l1 c1 l3 c3:=⟨λk=>(y.eg k).trans (x.eg k),λk=>(y.lay k).trans (x.lay k),λk=>(y.con k).trans (x.con k)⟩
section
variable {F:D4} {n:Nat} {lay:Slot->Nat} {C:D0} {H:Hp} {st:St} {Q:m7}
noncomputable def St.made (st:St):St:={st with up:=st.up++[st.up.length]}
theorem a6H {l:List Nat}:iL l++[d8.int (i:Nat)]=iL (l++[i]):=by unfold iL;refine b9 List.map_append ?_;rfl
theorem umake (T:Tb F) (L:G0 lay C H) (E:EG lay C st) (o:Ok st) (q:∀ lay' C' H',G0 lay' C' H'->EG lay' C' st.made->P7 lay C lay' C'->Q (.int (st.up.length:Nat)) H'):(j5 F (n+1)).call v6 a6C [.ref (lay (.eg 8))] H Q:=by
 have hlim:st.up.length<=o5:=o7 o.small;have hlim2:(T0 lay st.up.length).length=st.up.length:=by unfold T0;refine b9 (c7x ..) ?_;refine b9 List.length_range ?_;rfl
 have L1:=L.put (o:=.list (iL (st.up++[st.up.length]))) E.c10;have E1:=E.toHd.upd (s:=.eg 10) (o:=.list (iL (st.up++[st.up.length]))) rfl;have n11:(upd C (.eg 10) (.list (iL (st.up++[st.up.length])))) (.eg 11)=some (.list (T0 lay st.up.length)):=(j3 (by decide)).trans E.c11
 refine t0 T.umake rfl (g8 (D6 (J9 (λ_ q=>a1e L E.toHd (o9 rfl) rfl q) (L.at_ _ _ E.c10) (d9 (O8 (d9 (a1e L E.toHd (o9 rfl) rfl (g9 (B1 (L.at_ _ _ E.c10) ?_ (g9 (K3 (L.at_ _ _ E.c10) ?_ ?_)))))))))))
 ·refine b9 (m9 ..) ?_;exact hlim
 ·refine b9 (m9 ..) ?_;exact hlim
 refine b9 (m9 ..) ?_;refine b9 a6H ?_;refine g8 (D6 (J9 (λ_ q=>a1e L1 E1 (o9 rfl) rfl q) (L1.at_ _ _ n11) (d9 (X6 (d9 (O8 (d9 (a1e L1 E1 (o9 rfl) rfl (g9 (B1 (L1.at_ _ _ n11) ?_ (g9 λa ha=>?_)))))))))))
 ·refine b9 hlim2 ?_;exact hlim
 refine b9 hlim2 ?_;have L2:=L1.take (s:=.lot st.up.length) (o:=.list [.int (st.up.length:Nat)]) ha;have E2:=E1.take (s:=.lot st.up.length) (o:=.list [.int (st.up.length:Nat)]) (a:=a) rfl;have hl2:T0 (I7 lay (.lot st.up.length) a) st.up.length=T0 lay st.up.length:=by
  unfold T0;refine List.map_congr_left λi hi=>?_;rw [P0 λe=>?_];injection e with e
  exact absurd (List.mem_range.mp hi) (c0k e)
 have L3:=L2.put (s:=.eg 11) (o:=.list (T0 (I7 lay (.lot st.up.length) a) (st.up.length+1))) ((j3 a6n).trans n11);have E3:=E2.upd (s:=.eg 11) (o:=.list (T0 (I7 lay (.lot st.up.length) a) (st.up.length+1))) rfl;refine g9 (K3 (L2.at_ (.eg 11) _ ((j3 a6n).trans n11)) (by refine b9 hlim2 ?_;exact hlim) ?_)
 have hl3:T0 lay st.up.length++[.ref a]=T0 (I7 lay (.lot st.up.length) a) (st.up.length+1):=by
  unfold T0;refine b9 List.range_succ ?_;refine b9 List.map_append ?_;show _=T0 _ _++[d8.ref (I7 _ _ _ _)];refine b9 hl2 ?_;refine b9 a0U ?_;rfl
 refine b9 hl3 ?_;refine g8 (E0 (I4 (O8 (d9 (a1e L3 E3 (o9 rfl) rfl (g9 (B1 (L3.at_ (.eg 10) (.list (iL (st.up++[st.up.length]))) ?_) ?_ (m8 (sub_int ?_)))))))))
 ·exact (j3 (by decide)).trans ((j3 a6n).trans B4)
 ·refine b9 (m9 ..) ?_;refine b9 List.length_append ?_;have:=o.small;show st.up.length+1<=o5;unfold o5;exact c19 this
 refine b9 (m9 ..) ?_;refine b9 List.length_append ?_;have e1:(((st.up.length+[st.up.length].length:Nat):Int) - 1)=(st.up.length:Nat):=by
  show ((st.up.length+1:Nat):Int) - 1=_;exact b64
 refine b9 e1 ?_;refine q _ _ _ L3 ?_ ⟨λ_=>rfl,λ_=>rfl,λ_=>rfl⟩;exact {E3 with
  c4:=E.c4,c5:=E.c5,c6:=E.c6,c7:=E.c7
  c10:=rfl
  c11:=by refine b9 (show (St.made st).up.length=st.up.length+1 from List.length_append) ?_;exact B4
  cl:=λi hi=>by
   by_cases z:i=st.up.length
   ·subst z;exact ⟨_,(j3 J6).trans B4,Nat.one_le_two_pow⟩
   ·rw [show (St.made st).up.length=st.up.length+1 from List.length_append] at hi;refine i9 (E.cl i (b62 hi z)) λxs h1 h2=>?_;exact ⟨xs,(j3 J6).trans ((j3 (λe=>by injection e with e;exact z e)).trans ((j3 J6).trans h1)),h2⟩
  c12:=E.c12,c13:=E.c13,c14:=E.c14,c15:=E.c15,c16:=E.c16
  cu:=λp hp=>(j3 K8).trans ((j3 b38).trans ((j3 K8).trans (E.cu p hp)))
  c17:=E.c17}
end
end
variable {ug:List Nat}
section
theorem c3y (x y:Int):T2 [x,y]=[min x y,max x y]:=by
 unfold T2;have e:[x,y].mergeSort (λa b=>decide (a<=b))=if x<=y then [x,y] else [y,x]:=by
  simp [List.mergeSort,List.MergeSort.Internal.splitInTwo,List.merge]
 refine b9 e ?_;by_cases h:x<=y
 ·refine b9 (if_pos h) ?_;refine b9 (Int.min_eq_left h) ?_;refine b9 (Int.max_eq_right h) ?_;rfl
 ·refine b9 (if_neg h) ?_;refine b9 (Int.min_eq_right (c38 h)) ?_;refine b9 (Int.max_eq_left (c38 h)) ?_;rfl
section
variable {K:Calls} {r:En} {H:Hp}
theorem a9O {Q:N3} (q:(v=.none->Q true H)/\(v≠.none->Q false H)):X8 .is v .none H Q:=by
 refine ⟨rfl,?_⟩;by_cases h:v=.none
 ·have e:=q.1 h;rwa [<- @decide_eq_true _ (Classical.propDecidable _) h] at e
 ·have e:=q.2 h;rwa [<- @decide_eq_false _ (Classical.propDecidable _) h] at e
theorem b2S {e i:Ev} {Q:a3M} (he:∀ Q:m7,Q (.ref a) H->e K r H Q) (hi:∀ Q:m7,Q (.int (k:Nat)) H->i K r H Q) (h:H a=some (.list xs)) (hk:k < xs.length) (hl:xs.length<=o5) (q:Q r (H.set a (.list (xs.set k v)))):a1E e i K v r H Q :=
 he _ (hi _ (.inl ⟨a,xs,k,rfl,h,rfl,Int.natCast_nonneg _,by exact b8A hk,hl,q⟩))
theorem a4T {x y:Nm} {v w:d8} {u:d8} {Q:a3M} (h:a3K H u [v,w]) (q:Q ((r.set x v).set y w) H):Q9 [l7 x,l7 y] K u r H Q:=⟨[v,w],h,rfl,v,[w],rfl,w,[],rfl,rfl,q⟩
end
section
variable {F:D4} {n:Nat} {lay:Slot->Nat} {C:D0} {H:Hp} {st:St} {Q:m7}
theorem ufind (T:Tb F) (L:G0 lay C H) (E:EG lay C st) (o:Ok st) (ha:a < st.up.length) (q:Q (.int (f8 st.up a:Nat)) H):(j5 F (n+1)).call v6 G2 [.ref (lay (.eg 8)),.int (a:Nat)] H Q :=
 b6J T.ufind L E o.up o.lt (o7 o.small) ha q
noncomputable def St.joined (st:St) (k g:Nat):St:={st with up:=st.up.set g k,m:=st.m+1}
theorem C7 (u:Up up) (hl:∀ p∈up,p < up.length):∀ a,a < up.length->f8 up a < up.length:=by
 intro a;induction a using Nat.strongRecOn with
 | ind a ih =>
  intro ha;have e:=List.getElem?_eq_getElem ha;refine b9 (y5 u e) ?_
  split
  ·exact ha
  ·rename_i h;have:=u.le _ _ e;exact ih _ (b3P h this) (hl _ (c7w e))
theorem b5Z (u:Up up):∀ a,a < up.length->f8 up a<=a:=by
 intro a;induction a using Nat.strongRecOn with
 | ind a ih =>
  intro ha;have e:=List.getElem?_eq_getElem ha;refine b9 (y5 u e) ?_
  split
  ·exact Nat.le_refl _
  ·rename_i h;have:=u.le _ _ e;have h2:=ih up[a] (b3P h this) (b6g ha this);exact b2v this h2
theorem N6 (u:Up up):∀ a,a < up.length->up[f8 up a]?=some (f8 up a):=by
 intro a;induction a using Nat.strongRecOn with
 | ind a ih =>
  intro ha;have e:=List.getElem?_eq_getElem ha;refine b9 (y5 u e) ?_
  split
  ·rename_i h;refine b9 e ?_;refine b9 h ?_;rfl
  ·rename_i h;have:=u.le _ _ e;exact ih _ (b3P h this) (b6g ha this)
end
section
variable {F:D4} {n:Nat} {lay:Slot->Nat} {C:D0} {H:Hp} {st:St} {Q:m7}
theorem b7s {l:List Nat} {k v:Nat}:(iL l).set k (.int (v:Nat))=iL (l.set k v):=by
 unfold iL;refine b9 List.map_set ?_;rfl
theorem a9r (h:i < m):(T0 lay m)[i]?=some (.ref (lay (.lot i))):=by
 unfold T0;refine b9 List.getElem?_map ?_;refine b9 (List.getElem?_range h) ?_;rfl
theorem a8m (T:Tb F) (L:G0 lay C H) (E:EG lay C st) (o:Ok st) (hk:k < g) (hg:g < st.up.length) (hm:st.m<=17) (hs:r f7=some (.ref (lay (.eg 8)))) (h1:r M5=some (.int (k:Nat))) (h2:r M7=some (.int (g:Nat)))
  (q:∀ C' H',G0 lay C' H'->EG lay C' (st.joined k g)->P7 lay C lay C'->Q (.tup [.int (k:Nat),.int (g:Nat)]) H') {B:Prop} :
  (f6 (s6 (a1E (n7 (d7 f7) t8) (d7 M7)) (d7 M5))
  (f6 (v7 (j7 (l6 (n7 (d7 f7) w8) (d7 M5)) K1 (d6 (l6 (n7 (d7 f7) w8) (d7 M7)) f4)))
  (f6 (v7 (j7 (n7 (d7 f7) U9) u7 (d6 (n5 (d6 (d7 M5) (d6 (d7 M7) f4))) f4)))
  (f6 (H9 (n5 (d6 (d7 M5) (d6 (d7 M7) f4))))
  m6)))) (j5 F n) r H (λfl _ H'=>a3o fl B λv=>Q v H'):=by
 have hlim:st.up.length<=o5:=o7 o.small;have hll:(T0 lay st.up.length).length=st.up.length:=by unfold T0;refine b9 (c7x ..) ?_;refine b9 List.length_range ?_;rfl
 have L1:=L.put (o:=.list (iL (st.up.set g k))) E.c10;have E1:=E.toHd.upd (s:=.eg 10) (o:=.list (iL (st.up.set g k))) rfl;have n11:(upd C (.eg 10) (.list (iL (st.up.set g k)))) (.eg 11)=some (.list (T0 lay st.up.length)):=(j3 (by decide)).trans E.c11
 refine i9 (E.cl k (b6E hk hg)) λxs x1 x2=>?_;refine i9 (E.cl g hg) λys y1 y2=>?_;refine i9 E.c12 λms m1 m2=>?_;have nk:(upd C (.eg 10) (.list (iL (st.up.set g k)))) (.lot k)=some (.list xs):=(j3 J6).trans x1;have ng:(upd C (.eg 10) (.list (iL (st.up.set g k)))) (.lot g)=some (.list ys):=(j3 J6).trans y1;have hz:2 ^ st.m<=2 ^ 17:=Nat.pow_le_pow_right (by decide) hm
 refine g8 (z0 (f9 h1 (b2S (λ_ q=>a1e L E.toHd (o9 hs) rfl q) (o9 h2) (L.at_ _ _ E.c10) (by refine b9 (m9 ..) ?_;exact hg) (by refine b9 (m9 ..) ?_;exact hlim) ?_)))
 refine b9 b7s ?_;refine g8 (D6 (a2U (λ_ q=>C9 (a1e L1 E1 (o9 hs) rfl (f9 h1 (M8 (L1.at_ _ _ n11) (by refine b9 hll ?_;exact hlim) (a9r (b6E hk hg)) q)))) (L1.at_ _ _ nk) (d9 (C9 (a1e L1 E1 (o9 hs) rfl (f9 h2 (M8 (L1.at_ _ _ n11) (by refine b9 hll ?_;exact hlim) (a9r hg) (g9 (a2Z (L1.at_ _ _ nk) (L1.at_ _ _ ng) ?_ ?_ ?_)))))))))
 ·intro e;have:=L1.inj _ _ _ _ ng nk e;injection this with this
  exact c0G hk this
 ·unfold o5;exact c4T x2 y2 hz
 have L2:=L1.put (o:=.list (xs++ys)) nk;have E2:=E1.upd (s:=.lot k) (o:=.list (xs++ys)) rfl;have n12:(upd (upd C (.eg 10) (.list (iL (st.up.set g k)))) (.lot k) (.list (xs++ys))) (.eg 12)=some (.list ms):=(j3 a6n).trans ((j3 (by decide)).trans m1)
 have L3:=L2.put (o:=.list (ms++[.tup [.int (k:Nat),.int (g:Nat)]])) n12;have E3:=E2.upd (s:=.eg 12) (o:=.list (ms++[.tup [.int (k:Nat),.int (g:Nat)]])) rfl;refine g8 (D6 (J9 (λ_ q=>a1e L2 E2 (o9 hs) rfl q) (L2.at_ _ _ n12) (d9 (D1 (d9 (f9 h1 (d9 (f9 h2 (g9 (g9 (K3 (L2.at_ _ _ n12) ?_ ?_)))))))))))
 ·refine b9 m2 ?_;unfold o5;exact c1N hm
 refine g8 (E0 (D1 (d9 (f9 h1 (d9 (f9 h2 (g9 ?_)))))));refine q _ _ L3 ?_ ⟨λ_=>rfl,λ_=>rfl,λ_=>rfl⟩;have hlen:(st.joined k g).up.length=st.up.length:=List.length_set;exact {E3 with
  c4:=E.c4,c5:=E.c5,c6:=E.c6,c7:=E.c7
  c10:=rfl
  c11:=by refine b9 hlen ?_;exact E.c11
  cl:=λi hi=>by
   rw [hlen] at hi;by_cases z:i=k
   ·subst z;refine ⟨_,(j3 J6).trans B4,?_⟩;refine b9 List.length_append ?_;show _<=2 ^ (st.m+1);refine b9 (Nat.pow_succ ..) ?_;exact b83 x2 y2
   ·refine i9 (E.cl i hi) λzs z1 z2=>?_;refine ⟨zs,(j3 J6).trans ((j3 (λe=>by injection e with e;exact z e)).trans ((j3 J6).trans z1)),Nat.le_trans z2 ?_⟩
    exact Nat.pow_le_pow_right (by decide) (Nat.le_succ _)
  c12:=⟨_,B4,by refine b9 List.length_append ?_;refine b9 m2 ?_;rfl⟩
  c13:=E.c13
  c14:=E.c14
  c15:=E.c15,c16:=E.c16
  cu:=λp hp=>(j3 K8).trans ((j3 b38).trans ((j3 K8).trans (E.cu p hp)))
  c17:=E.c17}
end
end
variable {x:I3}
section
section
variable {F:D4} {n:Nat} {lay:Slot->Nat} {C:D0} {H:Hp} {st:St} {Q:m7}
theorem a7B {l:List Int} (h:H a=some (.list (l.map d8.int))) (hl:l.length < 64) (q:∀ b,H b=none->Q (.ref b) (H.set b (.list ((T2 l).map d8.int)))):biW .sorted [.ref a] H Q :=
 ⟨a,l,rfl,h,hl,by refine b9 (c7x ..) ?_;rewrite [T2];refine b9 (List.length_mergeSort ..) ?_;unfold o5;exact c18 hl,q⟩
theorem umerge (T:Tb F) (L:G0 lay C H) (E:EG lay C st) (o:Ok st) {a b:Nat} (ha:a < st.up.length) (hb:b < st.up.length) (hm:st.m<=17)
  (q0:f8 st.up a=f8 st.up b->∀ H',m5 H H'->Q .none H')
  (q1:f8 st.up a≠f8 st.up b->∀ C' H',G0 lay C' H'->EG lay C' (st.joined (min (f8 st.up a) (f8 st.up b)) (max (f8 st.up a) (f8 st.up b)))->P7 lay C lay C' ->
   Q (.tup [.int (min (f8 st.up a) (f8 st.up b):Nat),.int (max (f8 st.up a) (f8 st.up b):Nat)]) H'):(j5 F (n+2)).call v6 R9 [.ref (lay (.eg 8)),.int (a:Nat),.int (b:Nat)] H Q:=by
 have ra:=C7 o.up o.lt a ha;have rb:=C7 o.up o.lt b hb;refine t0 T.umerge rfl (g8 (z0 (O8 (d9 (X6 (d9 (u6 (by refine b9 T.ufind ?_;rfl) (L.at_ _ _ E.c8) (L.at_ _ _ E.c9) rfl (o9 rfl) (d9 (f9 rfl (g9 (ufind T L E o ha (d9 (u6 (by refine b9 T.ufind ?_;rfl) (L.at_ _ _ E.c8) (L.at_ _ _ E.c9) rfl (o9 rfl) (d9 (f9 rfl (g9 (ufind T L E o hb (g9 λc hc=>g9 (a7B (l:=[(f8 st.up a:Int),(f8 st.up b:Int)]) l9 (c7v rfl) λd hd=>?_)))))))))))))))))))
 have k1:m5 H (H.set c (.list [.int (f8 st.up a:Nat),.int (f8 st.up b:Nat)])):=.new hc;have k2:=k1.trans (.new (o:=.list ((T2 [(f8 st.up a:Int),(f8 st.up b:Int)]).map d8.int)) hd);have L':=L.keep k2;have e1:(T2 [(f8 st.up a:Int),(f8 st.up b:Int)]).map d8.int=[.int (min (f8 st.up a) (f8 st.up b):Nat),.int (max (f8 st.up a) (f8 st.up b):Nat)]:=by
  have m1:min (f8 st.up a:Int) (f8 st.up b:Int)=((min (f8 st.up a) (f8 st.up b):Nat):Int):=by exact c1F
  have m2:max (f8 st.up a:Int) (f8 st.up b:Int)=((max (f8 st.up a) (f8 st.up b):Nat):Int):=by exact c3a
  refine b9 (c3y ..) ?_;refine b9 m1 ?_;refine b9 m2 ?_;rfl
 generalize hH:(Hp.set (H.set c (.list [.int (f8 st.up a:Nat),.int (f8 st.up b:Nat)])) d (.list ((T2 [(f8 st.up a:Int),(f8 st.up b:Int)]).map d8.int)))=H2 at k2 L';have hd2:H2 d=some (.list [.int (min (f8 st.up a) (f8 st.up b):Nat),.int (max (f8 st.up a) (f8 st.up b):Nat)]):=by refine t6 hH ?_;refine b9 e1 ?_;exact l9
 clear hH;refine a4T (.inr ⟨d,rfl,hd2⟩) (g8 (a1a (G1 (f9 rfl (f9 rfl (a2D ⟨λt=>?_,λt=>?_⟩))))))
 ·have t:=of_decide_eq_true t;exact g8 (E0 (m8 (q0 (c0u t) _ k2)))
 ·have t:=of_decide_eq_false t;refine a8m (B:=True) T L' E o (c2i t) (b6M ra rb) hm rfl rfl rfl λC' H' l e s=>q1 (b96 t) C' H' l e s
end
end
section
open Classical
theorem a7t {α:Type} {l:List α} {f:α->d8×d8} {k:d8} {x:α} (h:x∈l) (hx:(f x).1=k) (hu:∀ y∈l,(f y).1=k->y=x):s9 (l.map f) k=some (f x).2:=by
 unfold s9;have:((l.map f).find? λp=>decide (p.1=k))=some (f x):=by
  induction l with
  | nil=>cases h
  | cons y l ih =>
   refine b9 List.map_cons ?_;refine b9 List.find?_cons ?_;by_cases e:(f y).1=k
   ·refine b9 (decide_eq_true e) ?_;refine b9 (hu y (List.mem_cons_self) e) ?_;rfl
   ·refine b9 (decide_eq_false e) ?_;refine ih ?_ λz hz=>hu z (List.mem_cons_of_mem _ hz);rcases List.mem_cons.mp h with rfl | h
    ·exact absurd hx e
    ·exact h
 refine b9 this ?_;rfl
theorem a95 {α:Type} {l:List α} {f:α->d8×d8} {k:d8} (h:∀ y∈l,(f y).1≠k):s9 (l.map f) k=none:=by
 unfold s9;have:((l.map f).find? λp=>decide (p.1=k))=none:=by
  refine I9 (List.find?_eq_none ..) ?_;intro p hp;refine i9 (List.mem_map.mp hp) λy hy q2=>?_;subst q2;simpa using h y hy
 refine b9 this ?_;rfl
theorem b5k {α:Type} {l:List α} {f:α->d8×d8} {g:α->Nat} (h:∀ y,(f y).1=.int (g y:Nat)) (i:Nat):B0 (l.map f) (.int (i:Nat)):=by
 refine ⟨rfl,λp hp=>?_⟩;refine i9 (List.mem_map.mp hp) λy _ q1=>?_;subst q1;refine b9 (h y) ?_;rfl
noncomputable def O5 (us:List (Nat×List Nat)) (k g:Nat) (ug:List Nat):List (Nat×List Nat):=(us.filter λp=>p.1 != g).map λp=>if p.1=k then (k,p.2++ug) else p
theorem b4M {lay:Slot->Nat} {us:List (Nat×List Nat)}:a33 (W2 lay us) (.int (g:Nat))=W2 lay (us.filter λp=>p.1 != g):=by
 unfold a33 W2;refine b9 List.filter_map ?_
 congr 1
 refine List.filter_congr λp _=>?_;show decide (d8.int (p.1:Nat)≠d8.int (g:Nat))=_;by_cases e:p.1=g
 ·refine b9 e ?_;simp
 ·have:d8.int (p.1:Nat)≠d8.int (g:Nat):=λz=>by injection z with z;exact c1w e z
  refine b9 (decide_eq_true this) ?_;simp [e]
end
variable {Q:N3}
section
structure Us (st:St):Prop where
 nod:(st.us.map (·.1)).Nodup
 has:∀ c,c < st.up.length->f8 st.up c=c->∃ u,(c,u)∈st.us
 len:st.us.length<=17
 small:∀ p∈st.us,p.2.length<=100000
 wt:st.wt.length<=100000
 m:st.m<=17
 e:st.e<=100000
 f:st.f<=100000
noncomputable def St.edge (st:St):St:={st with e:=st.e+1}
noncomputable def St.join (st:St) (k g:Nat) (ug:List Nat):St:={st with up:=st.up.set g k,m:=st.m+1,e:=st.e+1,f:=st.f+1,wt:=st.wt++ug,us:=O5 st.us k g ug}
section
variable {F:D4} {n:Nat} {lay:Slot->Nat} {C:D0} {H:Hp} {st:St} {Q:m7}
theorem b29 (u:Us st) {c:Nat} {uc:List Nat} (h:(c,uc)∈st.us):s9 (W2 lay st.us) (.int (c:Nat))=some (.ref (lay (.us c))):=by
 refine a7t (f:=λp:Nat×List Nat=>(d8.int (p.1:Nat),d8.ref (lay (.us p.1)))) h rfl λy hy e=>?_;have e:y.1=c:=by injection e with e;exact zo5 e
 refine eE (List.mem_iff_getElem?.mp h) λi hi=>?_;refine eE (List.mem_iff_getElem?.mp hy) λj hj=>?_;have hi':=List.getElem?_eq_some_iff.mp hi;have:i=j:=(List.getElem?_inj (by simpa using hi'.1) u.nod).mp (by refine b9 List.getElem?_map ?_;refine b9 List.getElem?_map ?_;refine b9 hi ?_;refine b9 hj ?_;exact congrArg some e.symm)
 subst this;rw [hi] at hj;have q1:=A3 hj;clear hj;subst q1;rfl
theorem a5V {us:List (Nat×List Nat)} (c:Nat):B0 (W2 lay us) (.int (c:Nat)):=b5k (g:=λp=>p.1) (λ_=>rfl) c
theorem J0 {i x:d8} (h:H a=some (.dict es ep)) (hk:B0 es i) (hx:s9 es i=some x) (q:Q x H):a8v (.ref a) i H Q:=.inr (.inr ⟨a,es,ep,x,rfl,h,hk,hx,q⟩)
theorem a91 (L:G0 lay C H) (E:EG lay C st) (x1:C (.eg 13)=some (.list xs)) (x2:xs.length=st.e):G0 lay (upd C (.eg 13) (.list (xs++[v]))) (H.set (lay (.eg 13)) (.list (xs++[v])))/\EG lay (upd C (.eg 13) (.list (xs++[v]))) st.edge :=
 ⟨L.put x1,{E.toHd.upd (s:=.eg 13) (o:=.list (xs++[v])) rfl with
  c4:=E.c4,c5:=E.c5,c6:=E.c6,c7:=E.c7,c10:=E.c10,c11:=E.c11
  cl:=λi hi=>let ⟨xs,h1,h2⟩:=E.cl i hi;⟨xs,(j3 J6).trans h1,h2⟩
  c12:=E.c12
  c13:=⟨_,B4,by refine b9 List.length_append ?_;refine b9 x2 ?_;rfl⟩
  c14:=E.c14,c15:=E.c15,c16:=E.c16
  cu:=λp hp=>(j3 K8).trans (E.cu p hp)
  c17:=E.c17}⟩
theorem Ok.edge (o:Ok st):Ok st.edge:=⟨o.up,o.lt,o.small,o.nd,o.two⟩
end
end
variable {p:Nat} {l:List Int}
section
section
variable {F:D4} {n:Nat} {lay:Slot->Nat} {C:D0} {H:Hp} {st:St} {Q:m7}
theorem b5i {us:List (Nat×List Nat)} (h:(s9 (W2 lay us) (.int (k:Nat))).isSome=true):C6 (W2 lay us) (.int (k:Nat)) (.ref a)=W2 (I7 lay (.us k) a) (us.map λp=>if p.1=k then (k,p.2++ug) else p):=by
 unfold C6;refine b9 (if_pos h) ?_;unfold W2;refine b9 List.map_map ?_;refine b9 List.map_map ?_;refine List.map_congr_left λp _=>?_;show (@ite _ (d8.int (p.1:Nat)=d8.int (k:Nat)) (Classical.propDecidable _) (d8.int (p.1:Nat),d8.ref a) (d8.int (p.1:Nat),d8.ref (lay (.us p.1))))=(d8.int ((if p.1=k then (k,p.2++ug) else p).1:Nat),d8.ref (I7 lay (.us k) a (.us (if p.1=k then (k,p.2++ug) else p).1)))
 by_cases e:p.1=k
 ·refine b9 (if_pos (by refine b9 e ?_;rfl)) ?_;refine b9 (if_pos e) ?_;refine b9 a0U ?_;refine b9 e ?_;rfl
 ·refine b9 (if_neg (λz=>e (by injection z with z;exact zo5 z))) ?_;refine b9 (if_neg e) ?_;refine b9 (P0 (λz=>e (by injection z))) ?_;rfl
theorem add_list {a b:Nat} {xs ys:List d8} (h1:H a=some (.list xs)) (h2:H b=some (.list ys)) (hl:xs.length+ys.length<=o5) (q:∀ c,H c=none->Q (.ref c) (H.set c (.list (xs++ys)))):a43 .add (.ref a) (.ref b) H Q :=
 .inr (.inr (.inr ⟨a,b,xs,ys,rfl,rfl,h1,h2,by refine b9 List.length_append ?_;exact hl,q⟩))
theorem a0r {e i:Ev} {k:d8} {Q:a3M} (he:∀ Q:m7,Q (.ref a) H->e K r H Q) (hi:∀ Q:m7,Q k H->i K r H Q) (h:H a=some (.dict es ep)) (hk:B0 es k) (hl:es.length<=o5) (q:Q r (H.set a (.dict (C6 es k v) (dep es k ep)))):a1E e i K v r H Q :=
 he _ (hi _ (.inr ⟨a,es,ep,rfl,h,hk,hl,q⟩))
theorem b0c (T:Tb F) {uk ug:List Nat} (L:G0 lay C H) (E:EG lay C (st.edge.joined k g)) (u:Us st) (hk:(k,uk)∈st.us) (hg:(g,ug)∈st.us) (hne:k≠g) (hs:r f7=some (.ref (lay (.eg 0)))) (h1:r M5=some (.int (k:Nat))) (h2:r M7=some (.int (g:Nat)))
  (q:∀ lay' C' H',G0 lay' C' H'->EG lay' C' (st.join k g ug)->P7 lay C lay' C'->Q (.bool true) H') {B:Prop} :
  (f6 (v7 (j7 (n7 (d7 f7) Y7) u7 (d6 (y7 .sub (J8 .len (d6 (n7 (d7 f7) W6) f4)) (j6 (.int 1))) f4)))
  (f6 (v7 (j7 (n7 (d7 f7) X5) K1 (d6 (l6 (n7 (d7 f7) t8) (d7 M7)) f4)))
  (f6 (s6 (a1E (n7 (d7 f7) t8) (d7 M5)) (y7 .add (l6 (n7 (d7 f7) t8) (d7 M5)) (j7 (n7 (d7 f7) t8) a24 (d6 (d7 M7) f4))))
  (f6 (H9 (j6 (.bool true)))
  m6)))) (j5 F n) r H (λfl _ H'=>a3o fl B λv=>Q v H'):=by
 refine i9 E.c13 λes e1 e2=>?_;refine i9 E.c14 λfs f1 f2=>?_;refine eE E.c16 λep a1=>?_;have m1:(st.edge.joined k g).m=st.m+1:=rfl;have e3:es.length=st.e+1:=e2;have um:=u.m;have ue:=u.e;refine g8 (D6 (J9 (λ_ q=>M4 L E.toHd (o9 hs) rfl q) (L.at_ _ _ f1) (d9 (I4 (O8 (d9 (M4 L E.toHd (o9 hs) rfl (g9 (B1 (L.at_ _ _ e1) ?_ (m8 (sub_int (g9 (K3 (L.at_ _ _ f1) ?_ ?_)))))))))))))
 ·refine b9 e3 ?_;unfold o5;exact c5m ue
 ·have:=u.f;refine b9 f2 ?_;unfold o5;show st.f<=_;exact b7I this
 generalize d8.int (_:Int)=fv;have L1:=L.put (o:=.list (fs++[fv])) f1;have E1:=E.toHd.upd (s:=.eg 14) (o:=.list (fs++[fv])) rfl;have gk:=b29 (lay:=lay) u hk;have gg:=b29 (lay:=lay) u hg;have i16:(upd C (.eg 14) (.list (fs++[fv]))) (.eg 16)=some (.dict (W2 lay st.us) ep):=(j3 (by decide)).trans a1
 have i17:(upd C (.eg 14) (.list (fs++[fv]))) (.eg 17)=some (.list (iL st.wt)):=(j3 (by decide)).trans E.c17
 have iug:(upd C (.eg 14) (.list (fs++[fv]))) (.us g)=some (.list (iL ug)):=(j3 K8).trans (E.cu _ hg);have iuk:(upd C (.eg 14) (.list (fs++[fv]))) (.us k)=some (.list (iL uk)):=(j3 K8).trans (E.cu _ hk);generalize hC1:upd C (.eg 14) (.list (fs++[fv]))=C1 at L1 E1 i16 i17 iug iuk;refine g8 (D6 (a2U (λ_ q=>M4 L1 E1 (o9 hs) rfl q) (L1.at_ _ _ i17) (d9 (C9 (M4 L1 E1 (o9 hs) rfl (f9 h2 (J0 (L1.at_ _ _ i16) (a5V g) gg (g9 (a2Z (L1.at_ _ _ i17) (L1.at_ _ _ iug) ?_ ?_ ?_)))))))))
 ·intro e;exact K8 (L1.inj _ _ _ _ iug i17 e)
 ·have:=u.small _ hg;have:=u.wt;refine b9 (m9 ..) ?_;refine b9 (m9 ..) ?_;unfold o5;dsimp only at *;exact c0I ‹_› this
 refine b9 (show iL st.wt++iL ug=iL (st.wt++ug) from (List.map_append ..).symm) ?_;have L2:=L1.put (o:=.list (iL (st.wt++ug))) i17;have E2:=E1.upd (s:=.eg 17) (o:=.list (iL (st.wt++ug))) rfl;have j16:(upd C1 (.eg 17) (.list (iL (st.wt++ug)))) (.eg 16)=some (.dict (W2 lay st.us) ep):=(j3 (by decide)).trans i16
 have L3:=L2.put (o:=.dict (W2 lay (st.us.filter λp=>p.1 != g)) (ep+1)) j16;have E3:=E2.upd (s:=.eg 16) (o:=.dict (W2 lay (st.us.filter λp=>p.1 != g)) (ep+1)) rfl;have kuk:(upd (upd C1 (.eg 17) (.list (iL (st.wt++ug)))) (.eg 16) (.dict (W2 lay (st.us.filter λp=>p.1 != g)) (ep+1))) (.us k)=some (.list (iL uk)):=(j3 K8).trans ((j3 K8).trans iuk);have kug:(upd (upd C1 (.eg 17) (.list (iL (st.wt++ug)))) (.eg 16) (.dict (W2 lay (st.us.filter λp=>p.1 != g)) (ep+1))) (.us g)=some (.list (iL ug)):=(j3 K8).trans ((j3 K8).trans iug)
 have hul:(W2 lay st.us).length<=o5:=by unfold W2;refine b9 (c7x ..) ?_;exact o7 u.len
 refine g8 (z0 (I4 (C9 (M4 L2 E2 (o9 hs) rfl (f9 h1 (J0 (L2.at_ _ _ j16) (a5V k) gk (b7e (λ_ q=>M4 L2 E2 (o9 hs) rfl q) (L2.at_ _ _ j16) (d9 (f9 h2 (g9 (b7L (L2.at_ _ _ j16) (a5V g) hul gg ?_)))))))))));refine b9 b4M ?_;refine add_list (L3.at_ _ _ kuk) (L3.at_ _ _ kug) ?_ λc hc=>?_
 ·have:=u.small _ hk;have:=u.small _ hg;refine b9 (m9 ..) ?_;refine b9 (m9 ..) ?_;unfold o5;dsimp only at *;exact c1Y ‹_› this
 refine b9 (show iL uk++iL ug=iL (uk++ug) from (List.map_append ..).symm) ?_;have L4:=L3.take (s:=.us k) (o:=.list (iL (uk++ug))) hc;have E4:=E3.take (s:=.us k) (o:=.list (iL (uk++ug))) (a:=c) rfl;have l16:(upd (upd (upd C1 (.eg 17) (.list (iL (st.wt++ug)))) (.eg 16) (.dict (W2 lay (st.us.filter λp=>p.1 != g)) (ep+1))) (.us k) (.list (iL (uk++ug)))) (.eg 16)=some (.dict (W2 lay (st.us.filter λp=>p.1 != g)) (ep+1)):=(j3 a5R).trans B4
 have hk':(k,uk)∈st.us.filter λp=>p.1 != g:=List.mem_filter.mpr ⟨hk,by simpa using hne⟩
 have u':((st.us.filter λp=>p.1 != g).map (·.1)).Nodup:=List.Nodup.sublist (List.filter_sublist.map _) u.nod;have gk':(s9 (W2 lay (st.us.filter λp=>p.1 != g)) (.int (k:Nat))).isSome=true:=by
  cases e:s9 (W2 lay (st.us.filter λp=>p.1 != g)) (.int (k:Nat)) with
  | some _=>rfl
  | none =>
   unfold s9 at e;rw [Option.map_eq_none_iff,List.find?_eq_none] at e;have:=e _ (List.mem_map.mpr ⟨_,hk',rfl⟩);simp at this
 refine a0r (λ_ q=>M4 L4 E4 (o9 hs) rfl q) (o9 h1) (L4.at_ _ _ l16) (a5V k) ?_ ?_
 ·unfold W2;refine b9 (c7x ..) ?_;exact Nat.le_trans (List.length_filter_le ..) (o7 u.len)
 refine b9 (b5i (ug:=ug) gk') ?_;generalize dep _ _ _=ep2;have L5:=L4.put (o:=.dict (W2 (I7 lay (.us k) c) (O5 st.us k g ug)) ep2) l16;have E5:=E4.upd (s:=.eg 16) (o:=.dict (W2 (I7 lay (.us k) c) (O5 st.us k g ug)) ep2) rfl;refine g8 (E0 (m8 ?_));refine q _ _ _ L5 ?_ ⟨λ_=>rfl,λ_=>rfl,λj=>?_⟩
 ·have far:∀ s,(∀ i,s≠.us i)->s≠.eg 16->s≠.eg 17->upd (upd (upd (upd C1 (.eg 17) (.list (iL (st.wt++ug)))) (.eg 16) (.dict (W2 lay (st.us.filter λp=>p.1 != g)) (ep+1))) (.us k) (.list (iL (uk++ug)))) (.eg 16) (.dict (W2 (I7 lay (.us k) c) (O5 st.us k g ug)) ep2) s=C1 s :=
   λs h1 h2 h3=>(j3 h2).trans ((j3 (h1 k)).trans ((j3 h2).trans (j3 h3)))
  have far2:∀ s,(∀ i,s≠.us i)->s≠.eg 16->s≠.eg 17->s≠.eg 14->upd (upd (upd (upd C1 (.eg 17) (.list (iL (st.wt++ug)))) (.eg 16) (.dict (W2 lay (st.us.filter λp=>p.1 != g)) (ep+1))) (.us k) (.list (iL (uk++ug)))) (.eg 16) (.dict (W2 (I7 lay (.us k) c) (O5 st.us k g ug)) ep2) s=C s :=
   λs h1 h2 h3 h4=>(far s h1 h2 h3).trans (by refine t6 hC1 ?_;exact j3 h4)
  have fe:∀ j,j≠16->j≠17->j≠14->_=C (.eg j):=λj h1 h2 h3=>far2 (.eg j) (λ_=>a5R) (λe=>h1 (by injection e)) (λe=>h2 (by injection e)) (λe=>h3 (by injection e))
  exact {E5 with
   c4:=(fe 4 (by decide) (by decide) (by decide)).trans E.c4
   c5:=let ⟨x,y⟩:=E.c5;⟨x,(fe 5 (by decide) (by decide) (by decide)).trans y⟩
   c6:=let ⟨x,y,z⟩:=E.c6;⟨x,(fe 6 (by decide) (by decide) (by decide)).trans y,z⟩
   c7:=let ⟨x,y,z⟩:=E.c7;⟨x,(fe 7 (by decide) (by decide) (by decide)).trans y,z⟩
   c10:=(fe 10 (by decide) (by decide) (by decide)).trans E.c10
   c11:=(fe 11 (by decide) (by decide) (by decide)).trans E.c11
   cl:=λi hi=>let ⟨x,y,z⟩:=E.cl i hi;⟨x,(far2 (.lot i) (λ_=>a9c) J6 J6 J6).trans y,z⟩
   c12:=let ⟨x,y,z⟩:=E.c12;⟨x,(fe 12 (by decide) (by decide) (by decide)).trans y,z⟩
   c13:=let ⟨x,y,z⟩:=E.c13;⟨x,(fe 13 (by decide) (by decide) (by decide)).trans y,z⟩
   c14:=⟨fs++[fv],(far (.eg 14) (λ_=>a5R) (by decide) (by decide)).trans (by refine t6 hC1 ?_;exact B4),by refine b9 List.length_append ?_;refine b9 f2 ?_;rfl⟩
   c15:=let ⟨x,y⟩:=E.c15;⟨x,(fe 15 (by decide) (by decide) (by decide)).trans y⟩
   c16:=⟨ep2,B4⟩
   cu:=λp hp=>by
    refine i9 (List.mem_map.mp hp) λp0 hp0 q2=>?_;subst q2;have hp1:=List.mem_filter.mp hp0;by_cases z:p0.1=k
    ·refine b9 (if_pos z) ?_;have:p0=(k,uk):=by
      refine eE (List.mem_iff_getElem?.mp hk) λi hi=>?_;refine eE (List.mem_iff_getElem?.mp hp1.1) λj hj=>?_;have hi':=List.getElem?_eq_some_iff.mp hi;have e:i=j:=(List.getElem?_inj (by simpa using hi'.1) u.nod).mp (by refine b9 List.getElem?_map ?_;refine b9 List.getElem?_map ?_;refine b9 hi ?_;refine b9 hj ?_;exact congrArg some z.symm)
      subst e;rw [hi] at hj;have q1:=A3 hj;clear hj;subst q1;rfl
     subst this;exact (j3 K8).trans B4
    ·refine b9 (if_neg z) ?_;refine (j3 K8).trans ((j3 (λe=>z (by injection e))).trans ((j3 K8).trans ((j3 K8).trans ?_)))
     refine t6 hC1 ?_;exact (j3 K8).trans (E.cu p0 hp1.1)
   c17:=(j3 (by decide)).trans ((j3 a5R).trans ((j3 (by decide)).trans B4))}
 ·show C1 (.ow j)=C (.ow j);refine t6 hC1 ?_;rfl
end
section
variable {F:D4} {n:Nat} {lay:Slot->Nat} {C:D0} {H:Hp} {st:St} {Q:m7}
theorem hjoin (T:Tb F) (L:G0 lay C H) (E:EG lay C st) (o:Ok st) (u:Us st) {a b:Nat} {why:d8} (ha:a < st.up.length) (hb:b < st.up.length)
  (q0:f8 st.up a=f8 st.up b->∀ C' H',G0 lay C' H'->EG lay C' st.edge->P7 lay C lay C'->Q (.bool false) H')
  (q1:f8 st.up a≠f8 st.up b->∀ ug,(max (f8 st.up a) (f8 st.up b),ug)∈st.us->∀ lay' C' H',G0 lay' C' H'->EG lay' C' (st.join (min (f8 st.up a) (f8 st.up b)) (max (f8 st.up a) (f8 st.up b)) ug)->P7 lay C lay' C'->Q (.bool true) H') :
  (j5 F (n+3)).call o6 a3f [.ref (lay (.eg 0)),.int (a:Nat),.int (b:Nat),why] H Q:=by
 refine i9 E.c13 λes e1 e2=>?_;have ue:=u.e;refine eA (a91 L E e1 e2 (v:=.tup [.int (a:Nat),.int (b:Nat),why])) λL1 E1=>?_;have s1:P7 lay C lay (upd C (.eg 13) (.list (es++[.tup [.int (a:Nat),.int (b:Nat),why]]))):=⟨λ_=>rfl,λ_=>rfl,λ_=>rfl⟩;refine t0 T.hjoin rfl (g8 (D6 (J9 (λ_ q=>M4 L E.toHd (o9 rfl) rfl q) (L.at_ _ _ e1) (d9 (D1 (d9 (f9 rfl (d9 (f9 rfl (d9 (f9 rfl (g9 (g9 (K3 (L.at_ _ _ e1) ?_ ?_))))))))))))))
 ·refine b9 e2 ?_;unfold o5;exact b7I ue
 generalize upd C (.eg 13) _=C1 at L1 E1 s1;generalize Hp.set H _ _=H1 at L1;refine g8 (z0 (u6 (by refine b9 T.umerge ?_;rfl) (L1.at_ _ _ E1.c8) (L1.at_ _ _ E1.c9) rfl (λ_ q=>M4 L1 E1.toHd (o9 rfl) rfl q) (d9 (f9 rfl (d9 (f9 rfl (g9 (umerge T L1 E1 o.edge ha hb u.m (λe H2 k=>?q0) λe C2 H2 L2 E2 s2=>?q1))))))))
 case q0 =>
  refine B7 (g8 (a1a (G1 (f9 rfl (m8 (a9O ⟨λ_=>⟨λ_=>g8 (E0 (m8 ?_)),(λt=>nomatch t)⟩,λt=>absurd rfl t⟩))))))
  exact q0 e _ _ (L1.keep k) E1 s1
 case q1 =>
  refine B7 (g8 (a1a (G1 (f9 rfl (m8 (a9O (v:=.tup [_,_]) ⟨(λt=>nomatch t),λ_=>⟨(λt=>nomatch t),λ_=>?_⟩⟩))))))
  refine a9i (K:=j5 F (n+2)) ?_;have ra:=N6 o.up a ha;have rb:=N6 o.up b hb;have la:=C7 o.up o.lt a ha;have lb:=C7 o.up o.lt b hb;have rr:∀ c,c < st.up.length->st.up[c]?=some c->f8 st.up c=c:=λc _ h=>by refine b9 (y5 o.up h) ?_;refine b9 (if_pos rfl) ?_;rfl
  have hk:∃ uk,(min (f8 st.up a) (f8 st.up b),uk)∈st.us:=u.has _ (b8i lb) (by
   rcases Nat.le_total (f8 st.up a) (f8 st.up b) with z | z
   ·refine b9 (Nat.min_eq_left z) ?_;exact rr _ la ra
   ·refine b9 (Nat.min_eq_right z) ?_;exact rr _ lb rb)
  have hg:∃ ug,(max (f8 st.up a) (f8 st.up b),ug)∈st.us:=u.has _ (b6M la lb) (by
   rcases Nat.le_total (f8 st.up a) (f8 st.up b) with z | z
   ·refine b9 (Nat.max_eq_right z) ?_;exact rr _ lb rb
   ·refine b9 (Nat.max_eq_left z) ?_;exact rr _ la ra)
  revert hk;intro q1;refine eE q1 λuk hk=>?_;clear q1;revert hg;intro q2;refine eE q2 λug hg=>?_;clear q2;refine g8 (z0 (f9 rfl (a4T (.inl rfl) ?_)));exact b0c (B:=True) T L2 E2 u hk hg (by have:f8 st.edge.up a≠f8 st.edge.up b:=e;have:f8 st.up a≠f8 st.up b:=this;exact b2d ‹_›) rfl rfl rfl λlay' C' H' l e' s=>q1 e ug hg lay' C' H' l e' (s1.trans (s2.trans s))
end
end
section
open Classical
theorem b1l:∀ {l m:List Nat},iL l=iL m->l=m:=by
 intro l;induction l with
 | nil =>
  intro z23;cases z23 with
  | nil =>
   intro _;exact rfl
  | cons _ _ =>
   intro h;exact nomatch h
 | cons a l ih =>
  intro z24;cases z24 with
  | nil =>
   intro h;exact nomatch h
  | cons b m =>
   intro h;have h:d8.int (a:Nat) :: iL l=d8.int (b:Nat) :: iL m:=h;injection h with h1 h2
   injection h1 with h1
   refine b9 (ih h2) ?_;refine b9 (Int.ofNat.inj h1) ?_;rfl
theorem b2k {x y:I3} (h:r8 x=r8 y):x=y:=by
 unfold r8 at h;injection h with h
 injection h with h1 h2
 injection h1 with h1
 obtain ⟨a,l⟩:=x;obtain ⟨b,m⟩:=y;refine b9 (show a=b from h1) ?_;refine b9 (show l=m from b1l h2) ?_;rfl
theorem a9h (n:Nat) (l:List Nat):Y8 n (iL l)=true:=by
 induction l with
 | nil=>rfl
 | cons a l ih=>exact Bool.and_eq_true_iff.mpr ⟨by cases n <;> rfl,ih⟩
theorem b4S (x:I3):B8 7 (r8 x)=true:=Bool.and_eq_true_iff.mpr ⟨rfl,a9h _ _⟩
noncomputable def w9 (kn:List (I3×Nat)) (x:I3):Option Nat:=(kn.find? λp=>decide (p.1=x)).map (·.2)
theorem a0P {kn:List (I3×Nat)}:s9 (knV kn) (r8 x)=(w9 kn x).map λ(i:Nat)=>d8.int i:=by
 unfold s9 w9 knV;refine b9 List.find?_map ?_;refine b9 (Option.map_map ..) ?_;refine b9 (Option.map_map ..) ?_
 congr 1
 congr 1
 funext p
 show decide (r8 p.1=r8 x)=decide (p.1=x);refine I9 (decide_eq_decide ..) ?_;exact ⟨b2k,λe=>by refine b9 e ?_;rfl⟩
theorem a4M {kn:List (I3×Nat)} (x:I3):B0 (knV kn) (r8 x):=by
 refine ⟨b4S x,λp hp=>?_⟩;refine i9 (List.mem_map.mp hp) λy _ q1=>?_;subst q1;rfl
end
variable {kn:List (I3×Nat)}
section
noncomputable def St.know (st:St) (x:I3) (i:Nat):St:={st with kn:=st.kn++[(x,i)]}
section
variable {F:D4} {n:Nat} {lay:Slot->Nat} {C:D0} {H:Hp} {st:St} {Q:m7}
theorem b2b (L:G0 lay C H) (E:EG lay C st) (x1:C (.eg 15)=some (.dict (knV st.kn) ep)) {i ep':Nat}:G0 lay (upd C (.eg 15) (.dict (knV st.kn++[(r8 x,.int (i:Nat))]) ep')) (H.set (lay (.eg 15)) (.dict (knV st.kn++[(r8 x,.int (i:Nat))]) ep')) /\
  EG lay (upd C (.eg 15) (.dict (knV st.kn++[(r8 x,.int (i:Nat))]) ep')) (st.know x i) :=
 ⟨L.put x1,{E.toHd.upd (s:=.eg 15) (o:=.dict (knV st.kn++[(r8 x,.int (i:Nat))]) ep') rfl with
  c4:=E.c4,c5:=E.c5,c6:=E.c6,c7:=E.c7,c10:=E.c10,c11:=E.c11
  cl:=λi hi=>let ⟨xs,h1,h2⟩:=E.cl i hi;⟨xs,(j3 J6).trans h1,h2⟩
  c12:=E.c12,c13:=E.c13,c14:=E.c14
  c15:=⟨ep',by refine b9 B4 ?_;unfold knV St.know;refine b9 List.map_append ?_;rfl⟩
  c16:=E.c16
  cu:=λp hp=>(j3 K8).trans (E.cu p hp)
  c17:=E.c17}⟩
theorem Ok.know (o:Ok st) (x:I3) (i:Nat):Ok (st.know x i):=⟨o.up,o.lt,o.small,o.nd,o.two⟩
theorem Us.know (u:Us st) (x:I3) (i:Nat):Us (st.know x i):=⟨u.nod,u.has,u.len,u.small,u.wt,u.m,u.e,u.f⟩
theorem a7T (T:Tb F) (L:G0 lay C H) (E:EG lay C st) (o:Ok st) (u:Us st) (hi:i < st.up.length) (hp:p < st.up.length) (hs:r f7=some (.ref (lay (.eg 0)))) (h1:r y9=some (.int (p:Nat))) (h2:r G4=some (.int (i:Nat)))
  (q0:f8 st.up p=f8 st.up i->Q .none H)
  (q1:f8 st.up p≠f8 st.up i->∀ ug,(max (f8 st.up p) (f8 st.up i),ug)∈st.us->∀ lay' C' H',G0 lay' C' H'->EG lay' C' (st.join (min (f8 st.up p) (f8 st.up i)) (max (f8 st.up p) (f8 st.up i)) ug)->P7 lay C lay' C'->Q .none H') {B:Prop} :
  (f6 (a0t (B3 .ne (j7 (d7 f7) G2 (d6 (d7 y9) f4)) (j7 (d7 f7) G2 (d6 (d7 G4) f4)))
  (f6 (v7 (j7 (d7 f7) a3f (d6 (d7 y9) (d6 (d7 G4) (d6 (n5 (d6 (j6 (.str "like")) f4)) f4)))))
  m6)
  m6)
 m6) (j5 F (n+3)) r H (λfl _ H'=>a3o fl (Q .none H') λv=>Q v H'):=by
 refine g8 (a1a (G1 (u6 (by refine b9 T.hfind ?_;rfl) (L.at_ _ _ E.c0) (L.at_ _ _ E.c1) rfl (o9 hs) (d9 (f9 h1 (g9 (hfind (n:=n+1) T L E o hp (u6 (by refine b9 T.hfind ?_;rfl) (L.at_ _ _ E.c0) (L.at_ _ _ E.c1) rfl (o9 hs) (d9 (f9 h2 (g9 (hfind (n:=n+1) T L E o hi (b2H ⟨λt=>?_,λt=>?_⟩)))))))))))))
 ·have hne:f8 st.up p≠f8 st.up i:=λe=>by rw [e] at t;simp at t
  refine g8 (D6 (u6 (by refine b9 T.hjoin ?_;rfl) (L.at_ _ _ E.c0) (L.at_ _ _ E.c1) rfl (o9 hs) (d9 (f9 h1 (d9 (f9 h2 (d9 (D1 (d9 (m8 (g9 (g9 (hjoin T L E o u hp hi (λe=>absurd e hne) λe ug hg lay' C' H' l e' s=>?_)))))))))))))
  exact q1 e ug hg lay' C' H' l e' s
 ·have he:f8 st.up p=f8 st.up i:=by
   have t:decide ((f8 st.up p:Int)=(f8 st.up i:Nat))=true:=by simpa using t
   have:=of_decide_eq_true t;exact zo5 this
  exact q0 he
end
end
variable {fs:List (Nm×d8)}
section
section
variable {F:D4} {n:Nat} {lay:Slot->Nat} {C:D0} {H:Hp} {st:St} {Q:m7}
noncomputable def lkO (st:St) (x:I3) (i:Nat):Nat:=(w9 st.kn x).getD i
noncomputable def lkS (st:St) (x:I3) (i:Nat):St:=if (w9 st.kn x).isSome then st else st.know x i
theorem hlook (T:Tb F) (L:G0 lay C H) (E:EG lay C st) (o:Ok st) (u:Us st) (hk:∀ x∈st.nd,∀ k∈x.2,k < st.up.length) (hkn:∀ p∈st.kn,p.2 < st.up.length) (hl:st.kn.length<=100000) (hx:st.nd[i]?=some x) (hi:i < st.up.length)
  (q0:f8 st.up (lkO st (v0 st.up x) i)=f8 st.up i->∀ C' H',G0 lay C' H'->EG lay C' (lkS st (v0 st.up x) i)->P7 lay C lay C'->Q .none H')
  (q1:f8 st.up (lkO st (v0 st.up x) i)≠f8 st.up i->∀ ug,(max (f8 st.up (lkO st (v0 st.up x) i)) (f8 st.up i),ug)∈st.us->∀ lay' C' H',G0 lay' C' H' ->
   EG lay' C' ((lkS st (v0 st.up x) i).join (min (f8 st.up (lkO st (v0 st.up x) i)) (f8 st.up i)) (max (f8 st.up (lkO st (v0 st.up x) i)) (f8 st.up i)) ug)->P7 lay C lay' C'->Q .none H') :
  (j5 F (n+4)).call o6 T8 [.ref (lay (.eg 0)),.int (i:Nat)] H Q:=by
 refine eE E.c15 λep k1=>?_;have hlk:lkO st (v0 st.up x) i < st.up.length:=by
  unfold lkO w9;cases e:st.kn.find? λp=>decide (p.1=v0 st.up x) with
  | none=>exact hi
  | some p=>exact hkn p (List.mem_of_find?_eq_some e)
 refine t0 T.hlook rfl (g8 (z0 (b1L (λ_ q=>M4 L E.toHd (o9 rfl) rfl q) (L.at_ _ _ k1) (d9 (u6 (by refine b9 T.hnode ?_;rfl) (L.at_ _ _ E.c0) (L.at_ _ _ E.c1) rfl (o9 rfl) (d9 (f9 rfl (g9 (hnode T L E o hk hx λH1 kp=>d9 (f9 rfl (g9 (b1Y ((L.keep kp).at_ _ _ k1) (a4M _) ?hl (λv hv=>B7 ?q0) λhv=>B7 ?q1))))))))))))
 case hl=>unfold knV;refine b9 (c7x ..) ?_;unfold o5;exact b7I hl
 case q0 =>
  rw [a0P] at hv;refine i9 (Option.map_eq_some_iff.mp hv) λp hp q1=>?_;subst q1;have eo:lkO st (v0 st.up x) i=p:=by unfold lkO;refine b9 hp ?_;rfl
  have es:lkS st (v0 st.up x) i=st:=by unfold lkS;refine b9 hp ?_;rfl
  rw [eo,es] at q0 q1;rw [eo] at hlk;exact a7T (B:=True) (n:=n) T (L.keep kp) E o u hi hlk rfl rfl rfl (λe=>q0 e _ _ (L.keep kp) E (.refl _ _)) q1
 case q1 =>
  rw [a0P] at hv;have hv:=Option.map_eq_none_iff.mp hv;have eo:lkO st (v0 st.up x) i=i:=by unfold lkO;refine b9 hv ?_;rfl
  have es:lkS st (v0 st.up x) i=st.know (v0 st.up x) i:=by unfold lkS;refine b9 hv ?_;rfl
  rw [eo,es] at q0 q1;refine eA (b2b (L.keep kp) E k1 (x:=v0 st.up x) (i:=i) (ep':=ep+1)) λL2 E2=>?_;have s2:P7 lay C lay (upd C (.eg 15) (.dict (knV st.kn++[(r8 (v0 st.up x),.int (i:Nat))]) (ep+1))):=⟨λ_=>rfl,λ_=>rfl,λ_=>rfl⟩;exact a7T (B:=True) (n:=n) (st:=st.know (v0 st.up x) i) T L2 E2 (o.know _ _) (u.know _ _) hi hi rfl rfl rfl (λe=>q0 e _ _ L2 E2 s2) λe ug hg lay' C' H' l e' s=>q1 e ug hg lay' C' H' l e' (s2.trans s)
end
section
variable {F:D4} {n:Nat} {lay:Slot->Nat} {C:D0} {H:Hp} {st:St} {Q:m7}
theorem hmerge (T:Tb F) (L:G0 lay C H) (E:EG lay C st) (o:Ok st) (u:Us st) {a b:Nat} {why:d8} (ha:a < st.up.length) (hb:b < st.up.length)
  (q0:f8 st.up a=f8 st.up b->∀ C' H',G0 lay C' H'->EG lay C' st.edge->P7 lay C lay C'->Q (.bool false) H')
  (q1:f8 st.up a≠f8 st.up b->∀ ug,(max (f8 st.up a) (f8 st.up b),ug)∈st.us->∀ lay' C' H',G0 lay' C' H'->EG lay' C' (st.join (min (f8 st.up a) (f8 st.up b)) (max (f8 st.up a) (f8 st.up b)) ug)->P7 lay C lay' C'->Q (.bool true) H') :
  (j5 F (n+4)).call o6 R9 [.ref (lay (.eg 0)),.int (a:Nat),.int (b:Nat),why] H Q:=by
 refine t0 T.hmerge rfl (g8 (E0 (u6 (by refine b9 T.hjoin ?_;rfl) (L.at_ _ _ E.c0) (L.at_ _ _ E.c1) rfl (o9 rfl) (d9 (f9 rfl (d9 (f9 rfl (d9 (f9 rfl (g9 (hjoin T L E o u ha hb ?_ ?_)))))))))))
 ·exact q0
 ·exact q1
end
theorem a59 (u:Up up) (h:k < g):Up (up.set g k):=⟨λi p e=>by
 rw [List.getElem?_set] at e
 split at e
 ·rename_i z
  split at e
  ·have q1:=A3 e;clear e;subst q1;exact c3N h z
  ·cases e
 ·exact u.le i p e⟩
theorem b68 (l:∀ p∈up,p < up.length) (h:k < up.length):∀ p∈up.set g k,p < (up.set g k).length:=λp hp=>by
 refine b9 List.length_set ?_;rcases List.mem_or_eq_of_mem_set hp with h' | rfl
 ·exact l p h'
 ·exact h
theorem a4z (u:Up up) (l:∀ p∈up,p < up.length) (hk:up[k]?=some k) (hg:up[g]?=some g) (h:k < g):∀ a,a < up.length->f8 (up.set g k) a=if f8 up a=g then k else f8 up a:=by
 have lg:g < up.length:=(List.getElem?_eq_some_iff.mp hg).1;have rk:f8 (up.set g k) k=k:=by
  have:(up.set g k)[k]?=some k:=by refine b9 (List.getElem?_set_ne (b9H h)) ?_;exact hk
  refine b9 (y5 (a59 u h) this) ?_;refine b9 (if_pos rfl) ?_;rfl
 intro a;induction a using Nat.strongRecOn with
 | ind a ih =>
  intro ha;have e:=List.getElem?_eq_getElem ha;by_cases z:a=g
  ·subst z;have e1:(up.set a k)[a]?=some k:=by refine b9 (List.getElem?_set_self lg) ?_;rfl
   refine b9 (y5 (a59 u h) e1) ?_;refine b9 (if_neg (c1b h)) ?_;refine b9 rk ?_;refine b9 (y5 u hg) ?_;refine b9 (if_pos rfl) ?_;refine b9 (if_pos rfl) ?_;rfl
  ·have e1:(up.set g k)[a]?=some up[a]:=by refine b9 (List.getElem?_set_ne (λq=>z q.symm)) ?_;exact e
   refine b9 (y5 (a59 u h) e1) ?_;refine b9 (y5 u e) ?_;by_cases w:up[a]=a
   ·refine b9 (if_pos w) ?_;refine b9 (if_pos w) ?_;refine b9 (if_neg z) ?_;rfl
   ·have:=u.le _ _ e;refine b9 (if_neg w) ?_;refine b9 (if_neg w) ?_;exact ih _ (b3P w this) (l _ (c7w e))
structure a1g (nd:List I3) (ties:List (Nat×Nat)) (E:Nat->Nat->Prop):Prop where
 refl:∀ a,E a a
 symm:∀ a b,E a b->E b a
 trans:∀ a b c,E a b->E b c->E a c
 tie:∀ p∈ties,E p.1 p.2
 node:∀ (i j:Nat) (x y:I3),nd[i]?=some x->nd[j]?=some y->x.1=y.1->x.2.length=y.2.length->(∀ (q a b:Nat),x.2[q]?=some a->y.2[q]?=some b->E a b)->E i j
noncomputable def a28 (up:List Nat):Nat:=((List.range up.length).filter λa=>up[a]?==some a).length
noncomputable def Cmp (st:St) (X:Nat->Nat->Prop):Prop:=∀ (i:Nat) (x:I3),st.nd[i]?=some x->i∈st.wt\/∃ p,w9 st.kn (v0 st.up x)=some p/\(f8 st.up p=f8 st.up i\/X p i)
structure C5 (ties:List (Nat×Nat)) (st:St):Prop extends Ok st where
 eqn:st.nd.length=st.up.length
 kid:∀ x∈st.nd,∀ k∈x.2,k < st.up.length
 knlt:∀ p∈st.kn,p.2 < st.up.length
 knk:∀ p∈st.kn,∀ a∈p.1.2,a < st.up.length
 kn:∀ p∈st.kn,∃ y,st.nd[p.2]?=some y/\y.1=p.1.1/\y.2.map (f8 st.up)=p.1.2.map (f8 st.up)
 use:∀ (i:Nat) (x:I3),st.nd[i]?=some x->∀ k∈x.2,∃ u,(f8 st.up k,u)∈st.us/\i∈u
 sound:∀ E,a1g st.nd ties E->∀ a b,a < st.up.length->b < st.up.length->f8 st.up a=f8 st.up b->E a b
 told:∀ p∈ties,f8 st.up p.1=f8 st.up p.2
 tlt:∀ p∈ties,p.1 < st.up.length/\p.2 < st.up.length
 wlt:∀ i∈st.wt,i < st.up.length
 ult:∀ p∈st.us,∀ i∈p.2,i < st.up.length
 uslt:∀ p∈st.us,p.1 < st.up.length
 nod:(st.us.map (·.1)).Nodup
 has:∀ c,c < st.up.length->f8 st.up c=c->∃ u,(c,u)∈st.us
 ulen:st.us.length<=st.up.length
 usum:(st.us.map λp=>p.2.length).sum<=2 * st.up.length
 mr:st.m+a28 st.up=st.up.length
 wm:st.wt.length<=34 * st.m
 km:st.kn.length+st.wt.length<=st.up.length+34 * st.m
 fm:st.f=st.m
 em:st.e<=st.m+ties.length
 tl:ties.length<=3
theorem a6z {us:List (Nat×List Nat)} (n:(us.map (·.1)).Nodup) {c:Nat} {u v:List Nat} (h1:(c,u)∈us) (h2:(c,v)∈us):u=v:=by
 refine eE (List.mem_iff_getElem?.mp h1) λi hi=>?_;refine eE (List.mem_iff_getElem?.mp h2) λj hj=>?_;have hi':=List.getElem?_eq_some_iff.mp hi;have e:i=j:=(List.getElem?_inj (by simpa using hi'.1) n).mp (by refine b9 List.getElem?_map ?_;refine b9 List.getElem?_map ?_;refine b9 hi ?_;refine b9 hj ?_;rfl)
 subst e;rw [hi] at hj;cases hj;rfl
theorem Y1 {us:List (Nat×List Nat)} {p:Nat×List Nat}:p∈O5 us k g ug↔∃ q∈us,q.1≠g/\p=if q.1=k then (k,q.2++ug) else q:=by
 unfold O5;refine I9 (List.mem_map ..) ?_;constructor
 ·rintro ⟨q,hq,rfl⟩
  refine eA (List.mem_filter.mp hq) λh1 h2=>?_;exact ⟨q,h1,by simpa using h2,rfl⟩
 ·rintro ⟨q,h1,h2,rfl⟩
  exact ⟨q,List.mem_filter.mpr ⟨h1,by simpa using h2⟩,rfl⟩
theorem a1Y:∀ {us:List (Nat×List Nat)} {p:Nat×List Nat},p∈us->p.2.length<=(us.map λp=>p.2.length).sum
 | q :: us,p,h=>by
  refine b9 List.map_cons ?_;refine b9 List.sum_cons ?_;rcases List.mem_cons.mp h with rfl | h
  ·exact b4W
  ·have:=a1Y h;exact c1g this
theorem C5.us {ties:List (Nat×Nat)} {st:St} (I:C5 ties st):Us st:=by
 have hm:st.m<=17:=by have:=I.mr;have:=I.small;exact c35 ‹_› this
 refine ⟨I.nod,I.has,Nat.le_trans I.ulen I.small,λp hp=>?_,?_,hm,?_,?_⟩
 ·have:=a1Y hp;have:=I.usum;have:=I.small;exact c4g ‹_› ‹_› this
 ·have:=I.wm;exact c2z hm this
 ·have:=I.em;have:=I.tl;exact c2u hm ‹_› this
 ·have:=I.fm;exact c2q hm this
theorem C5.knl {ties:List (Nat×Nat)} {st:St} (I:C5 ties st):st.kn.length<=100000:=by
 have:=I.mr;have:=I.small;have:=I.km;exact b9m ‹_› ‹_› this
section
variable {ties:List (Nat×Nat)} {st:St} {k g:Nat} {ug:List Nat}
theorem a6M {l m:List Nat} (u:Up up) (lt:∀ p∈up,p < up.length) (hk:up[k]?=some k) (hg:up[g]?=some g) (h:k < g) (hl:∀ a∈l,a < up.length) (hm:∀ a∈m,a < up.length) (e:l.map (f8 up)=m.map (f8 up)) :
  l.map (f8 (up.set g k))=m.map (f8 (up.set g k)):=by
 have key:∀ l:List Nat,(∀ a∈l,a < up.length)->l.map (f8 (up.set g k))=(l.map (f8 up)).map λc=>if c=g then k else c:=λl hl=>by
  refine b9 List.map_map ?_;exact List.map_congr_left λa ha=>a4z u lt hk hg h a (hl a ha)
 refine b9 (key l hl) ?_;refine b9 (key m hm) ?_;refine b9 e ?_;rfl
theorem a69 (o:Ok st) (kid:∀ x∈st.nd,∀ k∈x.2,k < st.up.length) (eqn:st.nd.length=st.up.length) (knlt:∀ p∈st.kn,p.2 < st.up.length) (nod:(st.us.map (·.1)).Nodup) (use:∀ (i:Nat) (x:I3),st.nd[i]?=some x->∀ k∈x.2,∃ u,(f8 st.up k,u)∈st.us/\i∈u)
  (hk:st.up[k]?=some k) (hg:st.up[g]?=some g) (h:k < g) (hug:(g,ug)∈st.us) {X:Nat->Nat->Prop} (hX:∀ p i,X p i->(f8 st.up p=k\/f8 st.up p=g)/\(f8 st.up i=k\/f8 st.up i=g)) (c:Cmp st X):Cmp (st.join k g ug) λ_ _=>False:=λi x hx=>by
 have hi:i < st.up.length:=by have:=(List.getElem?_eq_some_iff.mp hx).1;refine t6 eqn ?_;exact this
 have rs:=a4z o.up o.lt hk hg h;by_cases z:∃ q∈x.2,f8 st.up q=g
 ·refine i9 z λq hq e=>?_;clear z;refine i9 (use i x hx q hq) λu h1 h2=>?_;rw [e] at h1;rw [a6z nod h1 hug] at h2;exact .inl (List.mem_append_right _ h2)
 ·have hn:v0 (st.up.set g k) x=v0 st.up x:=by
   unfold v0
   congr 1
   refine List.map_congr_left λq hq=>?_;refine b9 (rs q (kid x (c7w hx) q hq)) ?_;refine b9 (if_neg λe=>z ⟨q,hq,e⟩) ?_;rfl
  rcases c i x hx with h1 | ⟨p,h1,h2⟩
  ·exact .inl (List.mem_append_left _ h1)
  ·have hp:p < st.up.length:=by
    unfold w9 at h1;refine i9 (Option.map_eq_some_iff.mp h1) λe h3 q1=>?_;subst q1;exact knlt e (List.mem_of_find?_eq_some h3)
   refine .inr ⟨p,by show w9 st.kn (v0 (st.up.set g k) x)=_;refine b9 hn ?_;exact h1,.inl ?_⟩
   show f8 (st.up.set g k) p=f8 (st.up.set g k) i;refine b9 (rs p hp) ?_;refine b9 (rs i hi) ?_;rcases h2 with h2 | h2
   ·refine b9 h2 ?_;rfl
   ·refine eA (hX p i h2) λa b=>?_;rcases a with a | a <;> rcases b with b | b <;> rw [a,b] <;> simp <;> omega
end
theorem a5e {us:List (Nat×List Nat)} (n:(us.map (·.1)).Nodup) (h:(g,ug)∈us):((us.filter λp=>p.1 != g).map λp=>p.2.length).sum+ug.length=(us.map λp=>p.2.length).sum:=by
 induction us with
 | nil=>cases h
 | cons q us ih =>
  rw [List.map_cons,List.nodup_cons] at n;by_cases e:q.1=g
  ·have hq:q=(g,ug):=by
    rcases List.mem_cons.mp h with h | h
    ·exact h.symm
    ·exact absurd (List.mem_map.mpr ⟨_,h,e.symm⟩) n.1
   have hf:us.filter (λp=>p.1 != g)=us:=by
    refine I9 (List.filter_eq_self ..) ?_;intro p hp;have:p.1≠g:=λz=>n.1 (List.mem_map.mpr ⟨p,hp,z.trans e.symm⟩);simpa using this
   refine b9 (List.filter_cons_of_neg (by simpa using e)) ?_;refine b9 hf ?_;refine b9 List.map_cons ?_;refine b9 List.sum_cons ?_;refine b9 hq ?_
   show _+ug.length=ug.length+_;exact c2d
  ·refine b9 (List.filter_cons_of_pos (by simpa using e)) ?_;refine b9 List.map_cons ?_;refine b9 List.sum_cons ?_;refine b9 List.map_cons ?_;refine b9 List.sum_cons ?_
   have:=ih n.2 ((List.mem_cons.mp h).resolve_left λz=>e (by refine t6 z ?_;rfl))
   exact c5G this
theorem b3G {us:List (Nat×List Nat)} (n:(us.map (·.1)).Nodup) {uk ug:List Nat} (h:(k,uk)∈us):((us.map λp=>if p.1=k then (k,p.2++ug) else p).map λp=>p.2.length).sum=(us.map λp=>p.2.length).sum+ug.length:=by
 induction us with
 | nil=>cases h
 | cons q us ih =>
  rw [List.map_cons,List.nodup_cons] at n;rw [List.map_cons,List.map_cons,List.sum_cons,List.map_cons,List.sum_cons];by_cases e:q.1=k
  ·have hf:(us.map λp=>if p.1=k then (k,p.2++ug) else p)=us:=by
    conv=>rhs;rw [<- List.map_id us]
    refine List.map_congr_left λp hp=>?_;have:p.1≠k:=λz=>n.1 (List.mem_map.mpr ⟨p,hp,z.trans e.symm⟩);refine b9 (if_neg this) ?_;rfl
   refine b9 hf ?_;refine b9 (if_pos e) ?_;show (q.2++ug).length+_=_;refine b9 List.length_append ?_;exact c0c
  ·refine b9 (if_neg e) ?_;refine b9 (ih n.2 ((List.mem_cons.mp h).resolve_left λz=>e (by refine t6 z ?_;rfl))) ?_
   exact c5h
theorem a8P {us:List (Nat×List Nat)}:(O5 us k g ug).map (·.1)=(us.filter λp=>p.1 != g).map (·.1):=by
 unfold O5;refine b9 List.map_map ?_;refine List.map_congr_left λp _=>?_;show (if p.1=k then (k,p.2++ug) else p).1=p.1
 split
 ·rename_i e;exact e.symm
 ·rfl
theorem a9a {us:List (Nat×List Nat)} (n:(us.map (·.1)).Nodup) {uk ug:List Nat} (h:(k,uk)∈us) (h2:(g,ug)∈us) (hne:k≠g):((O5 us k g ug).map λp=>p.2.length).sum=(us.map λp=>p.2.length).sum:=by
 unfold O5;refine b9 (b3G (uk:=uk) (List.Nodup.sublist (List.filter_sublist.map _) n) (List.mem_filter.mpr ⟨h,by simpa using hne⟩)) ?_;refine b9 (a5e n h2) ?_;rfl
theorem a99 (hg:up[g]?=some g) (h:k≠g):a28 (up.set g k)+1=a28 up:=by
 have lg:g < up.length:=(List.getElem?_eq_some_iff.mp hg).1;unfold a28;refine b9 List.length_set ?_;have e:(List.range up.length).filter (λa=>(up.set g k)[a]?==some a)=((List.range up.length).filter λa=>up[a]?==some a).filter λa=>a != g:=by
  refine b9 List.filter_filter ?_;refine List.filter_congr λa _=>?_;by_cases z:a=g
  ·subst z;refine b9 (List.getElem?_set_self lg) ?_;simp [h]
  ·refine b9 (List.getElem?_set_ne (λq=>z q.symm)) ?_;simp [z]
 refine b9 e ?_;have nd:((List.range up.length).filter λa=>up[a]?==some a).Nodup:=List.Nodup.sublist List.filter_sublist List.nodup_range;have hm:g∈(List.range up.length).filter λa=>up[a]?==some a:=List.mem_filter.mpr ⟨List.mem_range.mpr lg,by refine b9 hg ?_;simp⟩
 generalize (List.range up.length).filter (λa=>up[a]?==some a)=l at nd hm;induction l with
 | nil=>cases hm
 | cons a l ih =>
  rw [List.nodup_cons] at nd;by_cases z:a=g
  ·subst z;refine b9 (List.filter_cons_of_neg (by simp)) ?_
   have:l.filter (λx=>x != a)=l:=by
    refine I9 (List.filter_eq_self ..) ?_;intro x hx;have:x≠a:=λe=>nd.1 (e▸hx);simpa using this
   refine b9 this ?_;rfl
  ·refine b9 (List.filter_cons_of_pos (by simpa using z)) ?_;refine b9 List.length_cons ?_;refine b9 List.length_cons ?_;refine b9 (ih nd.2 ((List.mem_cons.mp hm).resolve_left λe=>z e.symm)) ?_;rfl
section
variable {ties ties':List (Nat×Nat)} {st:St} {k g:Nat} {uk ug:List Nat}
theorem a68 (I:C5 ties st) (hk:st.up[k]?=some k) (hg:st.up[g]?=some g) (h:k < g) (huk:(k,uk)∈st.us) (hug:(g,ug)∈st.us)
  (why:∀ E,a1g st.nd ties' E->E k g) (sub:∀ p∈ties,p∈ties') (new:∀ p∈ties',p∈ties\/((p.1 < st.up.length/\p.2 < st.up.length)/\(f8 st.up p.1=k\/f8 st.up p.1=g)/\(f8 st.up p.2=k\/f8 st.up p.2=g))) (tl:ties.length<=ties'.length) (tl':ties'.length<=3):C5 ties' (st.join k g ug):=by
 have rs:=a4z I.up I.lt hk hg h;have lk:k < st.up.length:=(List.getElem?_eq_some_iff.mp hk).1;have len:(st.join k g ug).up.length=st.up.length:=List.length_set;have rk:f8 st.up k=k:=by refine b9 (y5 I.up hk) ?_;refine b9 (if_pos rfl) ?_;rfl
 have rg:f8 st.up g=g:=by refine b9 (y5 I.up hg) ?_;refine b9 (if_pos rfl) ?_;rfl
 have lg:g < st.up.length:=(List.getElem?_eq_some_iff.mp hg).1;have same:∀ a b,a < st.up.length->b < st.up.length->f8 st.up a=f8 st.up b->f8 (st.up.set g k) a=f8 (st.up.set g k) b:=λa b ha hb e=>by refine b9 (rs a ha) ?_;refine b9 (rs b hb) ?_;refine b9 e ?_;rfl
 have both:∀ a b,a < st.up.length->b < st.up.length->(f8 st.up a=k\/f8 st.up a=g)->(f8 st.up b=k\/f8 st.up b=g)->f8 (st.up.set g k) a=f8 (st.up.set g k) b:=λa b ha hb ea eb=>by
  refine b9 (rs a ha) ?_;refine b9 (rs b hb) ?_;rcases ea with ea | ea <;> rcases eb with eb | eb <;> rw [ea,eb] <;> simp <;> omega
 have us':∀ c u,(c,u)∈st.us->∃ v,((if c=g then k else c),v)∈O5 st.us k g ug/\∀ i∈u,i∈v:=λc u hu=>by
  by_cases z:c=g
  ·subst z;refine b9 (if_pos rfl) ?_;have:=a6z I.nod hu hug;subst this;exact ⟨uk++u,Y1.mpr ⟨(k,uk),huk,by show k≠c;exact b6Y h,by refine b9 (if_pos rfl) ?_;rfl⟩,λi hi=>List.mem_append_right _ hi⟩
  ·refine b9 (if_neg z) ?_;by_cases w:c=k
   ·subst w;exact ⟨u++ug,Y1.mpr ⟨(c,u),hu,z,by refine b9 (if_pos rfl) ?_;rfl⟩,λi hi=>List.mem_append_left _ hi⟩
   ·exact ⟨u,Y1.mpr ⟨(c,u),hu,z,by refine b9 (if_neg w) ?_;rfl⟩,λi hi=>hi⟩
 have ul:=a1Y hug;have u2:=I.usum;have sm:=I.small;have dug:(g,ug).2.length=ug.length:=rfl;refine {toOk:=⟨a59 I.up h,b68 I.lt lk,by refine b9 len ?_;exact I.small,I.nd,I.two⟩,eqn:=by refine b9 len ?_;exact I.eqn,kid:=by refine b9 len ?_;exact I.kid,knlt:=by refine b9 len ?_;exact I.knlt,knk:=by refine b9 len ?_;exact I.knk,kn:=λp hp=>?_,use:=λi x hx q hq=>?_,sound:=λE cE a b ha hb e=>?_,told:=λp hp=>?_,tlt:=λp hp=>?_,wlt:=λi hi=>?_,ult:=λp hp i hi=>?_,uslt:=λp hp=>?u,nod:=?_,has:=λc hc e=>?_,ulen:=?_,usum:=?_,mr:=?_,wm:=?_,km:=?_,fm:=?_,em:=?_,tl:=tl'}
 case u =>
  refine b9 len ?_;refine B2 (Y1.mp hp) λq q1 q2 q1=>?_;subst q1
  split
  ·exact lk
  ·exact I.uslt q q1
 ·refine B2 (I.kn p hp) λy y1 y2 y3=>?_;exact ⟨y,y1,y2,a6M I.up I.lt hk hg h (I.kid y (c7w y1)) (I.knk p hp) y3⟩
 ·refine i9 (I.use i x hx q hq) λu h1 h2=>?_;refine i9 (us' _ _ h1) λv h3 h4=>?_;refine ⟨v,?_,h4 i h2⟩;show (f8 (st.up.set g k) q,v)∈_;refine b9 (rs q (I.kid x (c7w hx) q hq)) ?_;exact h3
 ·rw [len] at ha hb;have cE0:a1g st.nd ties E:=⟨cE.refl,cE.symm,cE.trans,λp hp=>cE.tie p (sub p hp),cE.node⟩;have kg:=why E cE;have toR:∀ a,a < st.up.length->E a (f8 st.up a):=λa ha=>I.sound E cE0 a _ ha (C7 I.up I.lt a ha) (by
   refine b9 (y5 I.up (N6 I.up a ha)) ?_;refine b9 (if_pos rfl) ?_;rfl)
  have toR':∀ a,a < st.up.length->E a (f8 (st.up.set g k) a):=λa ha=>by
   refine b9 (rs a ha) ?_
   split
   ·rename_i z;have:=toR a ha;rw [z] at this;exact cE.trans _ _ _ this (cE.symm _ _ kg)
   ·exact toR a ha
  have e:f8 (st.up.set g k) a=f8 (st.up.set g k) b:=e;exact cE.trans _ _ _ (toR' a ha) (by refine b9 e ?_;exact cE.symm _ _ (toR' b hb))
 ·show f8 (st.up.set g k) p.1=f8 (st.up.set g k) p.2;rcases new p hp with h' | ⟨⟨a,b⟩,c,d⟩
  ·exact same _ _ (I.tlt p h').1 (I.tlt p h').2 (I.told p h')
  ·exact both _ _ a b c d
 ·refine b9 len ?_;rcases new p hp with h' | ⟨a,_⟩
  ·exact I.tlt p h'
  ·exact a
 ·refine b9 len ?_;rcases List.mem_append.mp hi with hi | hi
  ·exact I.wlt i hi
  ·exact I.ult _ hug i hi
 ·refine b9 len ?_;refine B2 (Y1.mp hp) λq q1 q2 q2=>?_;subst q2
  split at hi
  ·rcases List.mem_append.mp hi with hi | hi
   ·exact I.ult _ q1 i hi
   ·exact I.ult _ hug i hi
  ·exact I.ult _ q1 i hi
 ·show ((O5 st.us k g ug).map (·.1)).Nodup;refine b9 a8P ?_;exact List.Nodup.sublist (List.filter_sublist.map _) I.nod
 ·rw [len] at hc;have e:f8 (st.up.set g k) c=c:=e;rw [rs c hc] at e;by_cases z:f8 st.up c=g
  ·rw [if_pos z] at e;subst e;rw [rk] at z;exact (b8v h z).elim
  ·rw [if_neg z] at e;refine eE (I.has c hc e) λu hu=>?_;refine i9 (us' c u hu) λv hv _=>?_;rw [if_neg (λw=>z (by refine b9 e ?_;refine b9 w ?_;rfl))] at hv
   exact ⟨v,hv⟩
 ·refine b9 len ?_;have:(O5 st.us k g ug).length<=st.us.length:=by
   unfold O5;refine b9 (c7x ..) ?_;exact List.length_filter_le ..
  exact Nat.le_trans this I.ulen
 ·refine b9 len ?_;show ((O5 st.us k g ug).map λp=>p.2.length).sum<=_;refine b9 (a9a I.nod huk hug (b6Y h)) ?_;exact I.usum
 ·refine b9 len ?_;have:=a99 hg (show k≠g by exact b6Y h)
  have e:=I.mr;show st.m+1+a28 (st.up.set g k)=_;exact c1P this e
 ·have:=I.wm;show (st.wt++ug).length<=34 * (st.m+1);refine b9 List.length_append ?_;exact b8Y ul u2 sm dug this
 ·have:=I.km;show st.kn.length+(st.wt++ug).length<=(st.up.set g k).length+34 * (st.m+1);refine b9 List.length_append ?_;refine b9 List.length_set ?_;exact c4K ul u2 sm dug this
 ·show st.f+1=st.m+1;refine b9 I.fm ?_;rfl
 ·have:=I.em;show st.e+1<=st.m+1+ties'.length;exact b9w tl this
end
theorem I5 (u:Up up) (ha:a < up.length):f8 up (f8 up a)=f8 up a:=by
 refine b9 (y5 u (N6 u a ha)) ?_;refine b9 (if_pos rfl) ?_;rfl
theorem a17 (u:Up up) (h:up[a]?=some a):f8 up a=a:=by refine b9 (y5 u h) ?_;refine b9 (if_pos rfl) ?_;rfl
theorem U0 (h:w9 kn x=some p):(x,p)∈kn:=by
 unfold w9 at h;refine i9 (Option.map_eq_some_iff.mp h) λe h1 q3=>?_;subst q3;have h2:=List.find?_some h1;have h2:=of_decide_eq_true h2;refine t6 h2 ?_;exact List.mem_of_find?_eq_some h1
theorem a4Z {x y:I3} (h:w9 kn x=some p):w9 (kn++[(y,i)]) x=some p:=by
 unfold w9 at h ⊢;refine i9 (Option.map_eq_some_iff.mp h) λe h1 q4=>?_;subst q4;refine b9 List.find?_append ?_;refine b9 h1 ?_;rfl
theorem a5B (h:w9 kn x=none):w9 (kn++[(x,i)]) x=some i:=by
 unfold w9 at h ⊢;refine b9 List.find?_append ?_;refine b9 (Option.map_eq_none_iff.mp h) ?_;simp
noncomputable abbrev a0o (st:St):Prop:=Cmp st λ_ _=>False
noncomputable def b7Y (st:St) (i:Nat):Prop:=∀ (j:Nat) (y:I3),st.nd[j]?=some y->j≠i->j∈st.wt\/∃ p,w9 st.kn (v0 st.up y)=some p/\f8 st.up p=f8 st.up j
section
variable {ties:List (Nat×Nat)} {st:St} {E:Nat->Nat->Prop} {i:Nat} {x:I3}
theorem C5.toR (I:C5 ties st) (cE:a1g st.nd ties E) (ha:a < st.up.length):E a (f8 st.up a) :=
 I.sound E cE a _ ha (C7 I.up I.lt a ha) (I5 I.up ha).symm
theorem C5.like (I:C5 ties st) (cE:a1g st.nd ties E) {y:I3} (hp:st.nd[p]?=some y) (hi:st.nd[i]?=some x) (h1:y.1=x.1) (h2:y.2.map (f8 st.up)=x.2.map (f8 st.up)):E p i:=by
 refine cE.node p i y x hp hi h1 (by have:=congrArg List.length h2;simpa using this) λq a b ha hb=>?_
 refine I.sound E cE a b (I.kid y (c7w hp) a (c7w ha)) (I.kid x (c7w hi) b (c7w hb)) ?_;have:=congrArg (λl=>l[q]?) h2;simpa [ha,hb] using this
theorem C5.nlt (I:C5 ties st) (hx:st.nd[i]?=some x):i < st.up.length:=by
 refine t6 I.eqn ?_;exact (List.getElem?_eq_some_iff.mp hx).1
theorem a7p (I:C5 ties st) {l:List Nat} (h:∀ k∈l,k < st.up.length):(l.map (f8 st.up)).map (f8 st.up)=l.map (f8 st.up):=by
 refine b9 List.map_map ?_;exact List.map_congr_left λk hk=>I5 I.up (h k hk)
theorem b1v (I:C5 ties st) (hx:st.nd[i]?=some x) (sl:st.kn.length+st.wt.length+1<=st.up.length+34 * st.m):C5 ties (st.know (v0 st.up x) i) :=
 have hk:=I.kid x (c7w hx)
 {I with
  knlt:=λp hp=>by
   rcases List.mem_append.mp hp with hp | hp
   ·exact I.knlt p hp
   ·obtain rfl:=List.mem_singleton.mp hp;exact I.nlt hx
  knk:=λp hp a ha=>by
   rcases List.mem_append.mp hp with hp | hp
   ·exact I.knk p hp a ha
   ·obtain rfl:=List.mem_singleton.mp hp;refine i9 (List.mem_map.mp ha) λb hb q2=>?_;subst q2;exact C7 I.up I.lt b (hk b hb)
  kn:=λp hp=>by
   rcases List.mem_append.mp hp with hp | hp
   ·exact I.kn p hp
   ·obtain rfl:=List.mem_singleton.mp hp;exact ⟨x,hx,rfl,(a7p I hk).symm⟩
  km:=by
   show (st.kn++[_]).length+st.wt.length<=st.up.length+34 * st.m;refine b9 List.length_append ?_;simp only [List.length_singleton];exact c5y sl}
theorem b5m (I:C5 ties st) (hx:st.nd[i]?=some x) (sl:st.kn.length+st.wt.length+1<=st.up.length+34 * st.m):C5 ties (lkS st (v0 st.up x) i):=by
 unfold lkS
 split
 ·exact I
 ·exact b1v I hx sl
theorem b3c (I:C5 ties st) (hx:st.nd[i]?=some x):∃ y,st.nd[lkO st (v0 st.up x) i]?=some y/\y.1=x.1/\y.2.map (f8 st.up)=x.2.map (f8 st.up):=by
 unfold lkO;cases e:w9 st.kn (v0 st.up x) with
 | none=>exact ⟨x,hx,rfl,rfl⟩
 | some p =>
  refine B2 (I.kn _ (U0 e)) λy h1 h2 h3=>?_;refine ⟨y,h1,h2,h3.trans ?_⟩;exact a7p I (I.kid x (c7w hx))
theorem b1h (st:St) (k:I3) (i:Nat):(lkS st k i).up=st.up/\(lkS st k i).nd=st.nd/\(lkS st k i).wt=st.wt/\(lkS st k i).m=st.m/\(lkS st k i).us=st.us:=by
 unfold lkS;split <;> exact ⟨rfl,rfl,rfl,rfl,rfl⟩
theorem b7Z (st:St) (k:I3) (i:Nat):w9 (lkS st k i).kn k=some (lkO st k i):=by
 unfold lkS lkO;cases e:w9 st.kn k with
 | none=>exact a5B e
 | some p=>exact e
theorem b2F {st:St} {k k':I3} (h:w9 st.kn k'=some p):w9 (lkS st k i).kn k'=some p:=by
 unfold lkS
 split
 ·exact h
 ·exact a4Z h
theorem b2s (c:b7Y st i) (hx:st.nd[i]?=some x):Cmp (lkS st (v0 st.up x) i) λp j=>p=lkO st (v0 st.up x) i/\j=i:=λj y hy=>by
 refine a3R (b1h st (v0 st.up x) i) λe1 e2 e3 e4 e5=>?_;rw [e2] at hy;refine b9 e3 ?_;refine b9 e1 ?_;by_cases z:j=i
 ·subst z;rw [hx] at hy;have q1:=A3 hy;clear hy;subst q1;exact .inr ⟨_,b7Z ..,.inr ⟨rfl,rfl⟩⟩
 ·rcases c j y hy z with h | ⟨p,h1,h2⟩
  ·exact .inl h
  ·exact .inr ⟨p,b2F h1,.inl h2⟩
end
section
variable {F:D4} {n:Nat} {lay:Slot->Nat} {C:D0} {H:Hp} {ties:List (Nat×Nat)} {st:St} {Q:m7} {i:Nat} {x:I3}
theorem a7i (T:Tb F) (L:G0 lay C H) (E:EG lay C st) (I:C5 ties st) (hx:st.nd[i]?=some x) (c:b7Y st i) (sl:st.kn.length+st.wt.length+1<=st.up.length+34 * st.m)
  (q:∀ lay' C' H' st',G0 lay' C' H'->EG lay' C' st'->P7 lay C lay' C'->C5 ties st'->a0o st'->st'.nd=st.nd->(st'.m=st.m/\st'.wt=st.wt\/st'.m=st.m+1)->Q .none H') :
  (j5 F (n+4)).call o6 T8 [.ref (lay (.eg 0)),.int (i:Nat)] H Q:=by
 have I1:=b5m I hx sl;have hi:=I.nlt hx;refine a3R (b1h st (v0 st.up x) i) λe1 e2 e3 e4 e5=>?_;refine B2 (b3c I hx) λy y1 y2 y3=>?_;have hp:=I.nlt y1;have c1:=b2s c hx;refine hlook T L E I.toOk I.us I.kid I.knlt I.knl hx hi (λe C' H' l e' s=>?_) λe ug hg lay' C' H' l e' s=>?_
 ·refine q _ _ _ _ l e' s I1 (λj y hy=>?_) e2 (.inl ⟨e4,e3⟩);rcases c1 j y hy with h | ⟨p,h1,h2⟩
  ·exact .inl h
  ·refine .inr ⟨p,h1,.inl ?_⟩;rcases h2 with h2 | ⟨rfl,rfl⟩
   ·exact h2
   ·refine b9 e1 ?_;exact e
 ·generalize hS:lkS st (v0 st.up x) i=S at *;generalize hP:lkO st (v0 st.up x) i=P at *;rw [<- e1] at e e' hg hp hi y3;rw [<- e2] at y1 hx;rw [<- e5] at hg;have rP:=N6 I1.up P hp;have ri:=N6 I1.up i hi;have lP:=C7 I1.up I1.lt P hp;have li:=C7 I1.up I1.lt i hi;have kg:min (f8 S.up P) (f8 S.up i) < max (f8 S.up P) (f8 S.up i):=by exact c5k e
  have hk:S.up[min (f8 S.up P) (f8 S.up i)]?=some (min (f8 S.up P) (f8 S.up i)):=by
   rcases Nat.le_total (f8 S.up P) (f8 S.up i) with z | z
   ·refine b9 (Nat.min_eq_left z) ?_;exact rP
   ·refine b9 (Nat.min_eq_right z) ?_;exact ri
  have hg':S.up[max (f8 S.up P) (f8 S.up i)]?=some (max (f8 S.up P) (f8 S.up i)):=by
   rcases Nat.le_total (f8 S.up P) (f8 S.up i) with z | z
   ·refine b9 (Nat.max_eq_right z) ?_;exact ri
   ·refine b9 (Nat.max_eq_left z) ?_;exact rP
  refine eE (I1.has _ (b8i li) (a17 I1.up hk)) λuk huk=>?_;have why:∀ E,a1g S.nd ties E->E (min (f8 S.up P) (f8 S.up i)) (max (f8 S.up P) (f8 S.up i)):=λE cE=>by
   have h:=I1.like cE y1 hx y2 y3;have h:=cE.trans _ _ _ (cE.symm _ _ (I1.toR cE hp)) (cE.trans _ _ _ h (I1.toR cE hi));rcases Nat.le_total (f8 S.up P) (f8 S.up i) with z | z
   ·refine b9 (Nat.min_eq_left z) ?_;refine b9 (Nat.max_eq_right z) ?_;exact h
   ·refine b9 (Nat.min_eq_right z) ?_;refine b9 (Nat.max_eq_left z) ?_;exact cE.symm _ _ h
  refine q _ _ _ _ l e' s (a68 I1 hk hg' kg huk hg why (λ_ h=>h) (λ_ h=>.inl h) (Nat.le_refl _) I1.tl) ?_ e2 (.inr (by show S.m+1=_;refine b9 e4 ?_;rfl))
  refine a69 I1.toOk I1.kid I1.eqn I1.knlt I1.nod I1.use hk hg' kg hg (λp j hX=>?_) c1;refine eA hX λq1 q2=>?_;clear hX;subst q1;subst q2;exact c03
theorem b5n (L:G0 lay C H) (E:EG lay C st) {w:List Nat}:G0 lay (upd C (.eg 17) (.list (iL w))) (H.set (lay (.eg 17)) (.list (iL w)))/\EG lay (upd C (.eg 17) (.list (iL w))) {st with wt:=w} :=
 ⟨L.put E.c17,{E.toHd.upd (s:=.eg 17) (o:=.list (iL w)) rfl with
  c4:=E.c4,c5:=E.c5,c6:=E.c6,c7:=E.c7,c10:=E.c10,c11:=E.c11
  cl:=λi hi=>let ⟨xs,h1,h2⟩:=E.cl i hi;⟨xs,(j3 J6).trans h1,h2⟩
  c12:=E.c12,c13:=E.c13,c14:=E.c14,c15:=E.c15,c16:=E.c16
  cu:=λp hp=>(j3 K8).trans (E.cu p hp)
  c17:=B4}⟩
theorem b5b (I:C5 ties st) {w:List Nat} (h:∀ a∈w,a∈st.wt) (hl:w.length<=st.wt.length):C5 ties {st with wt:=w} :=
 {I with
  wlt:=λi hi=>I.wlt i (h i hi)
  wm:=Nat.le_trans hl I.wm
  km:=Nat.le_trans (Nat.add_le_add_left hl _) I.km}
theorem hsettle (T:Tb F) (L:G0 lay C H) (E:EG lay C st) (I:C5 ties st) (c:a0o st)
  (q:∀ lay' C' H' st',G0 lay' C' H'->EG lay' C' st'->P7 lay C lay' C'->C5 ties st'->a0o st'->st'.nd=st.nd->st'.wt=[]->Q .none H') :
  (j5 F (n+5)).call o6 a1C [.ref (lay (.eg 0))] H Q:=by
 refine t0 T.hsettle rfl (g8 (b3l (λk r1 H1=>∃ lay1 C1 st1,G0 lay1 C1 H1/\EG lay1 C1 st1/\P7 lay C lay1 C1/\C5 ties st1/\a0o st1/\st1.nd=st.nd/\r1 f7=some (.ref (lay1 (.eg 0)))/\k=(17 - st1.m) * 1000+st1.wt.length) _ ⟨lay,C,st,L,E,.refl _ _,I,c,rfl,rfl,rfl⟩ λk r1 H1 hI W hW=>?_));obtain ⟨lay1,C1,st1,L1,E1,s1,I1,c1,e1,hs,rfl⟩:=hI;have wl:(iL st1.wt).length<=o5:=by refine b9 (m9 ..) ?_;exact Nat.le_trans I1.us.wt (by decide)
 refine G1 (O8 (d9 (M4 L1 E1.toHd (o9 hs) rfl (g9 (B1 (L1.at_ _ _ E1.c17) wl (m8 (gt_int ⟨λt=>?_,λt=>?_⟩)))))))
 ·have t:=of_decide_eq_true t;rw [m9] at t;obtain ⟨w,i,hw⟩:∃ w i,st1.wt=w++[i]:=⟨st1.wt.dropLast,st1.wt.getLast (λe=>by rw [e] at t;simp at t),(List.dropLast_concat_getLast _).symm⟩
  refine eA (b5n L1 E1 (w:=w)) λL2 E2=>?_;have wl2:st1.wt.length=w.length+1:=by refine b9 hw ?_;refine b9 List.length_append ?_;rfl
  have I2:=b5b I1 (w:=w) (λa ha=>by refine b9 hw ?_;exact List.mem_append_left _ ha) (b7V wl2)
  have hi:i < st1.up.length:=I1.wlt i (by refine b9 hw ?_;exact List.mem_append_right _ (List.mem_singleton.mpr rfl))
  obtain ⟨x,hx⟩:∃ x,st1.nd[i]?=some x:=⟨_,List.getElem?_eq_getElem (by refine b9 I1.eqn ?_;exact hi)⟩
  refine g8 (D6 (u6 (by refine b9 T.hlook ?_;rfl) (L1.at_ _ _ E1.c0) (L1.at_ _ _ E1.c1) rfl (o9 hs) (d9 (b8t (λ_ q=>M4 L1 E1.toHd (o9 hs) rfl q) (L1.at_ _ _ E1.c17) (g9 (b79 (v:=.int (i:Nat)) (L1.at_ _ _ E1.c17) wl (by refine b9 hw ?_;unfold iL;refine b9 List.map_append ?_;refine b9 List.map_singleton ?_;refine b9 List.getLast?_concat ?_;rfl) ?_))))))
  have e3:(iL st1.wt).dropLast=iL w:=by refine b9 hw ?_;unfold iL;refine b9 List.map_append ?_;refine b9 List.map_singleton ?_;refine b9 List.dropLast_concat ?_;rfl
  refine b9 e3 ?_;refine g9 (a7i (n:=n) T L2 E2 I2 hx (λj y hy hj=>?_) ?_ λlay' C' H' st' l e s I' D' nd' mw=>?_)
  ·rcases c1 j y hy with h | ⟨p,h1,h2⟩
   ·rw [hw] at h;rcases List.mem_append.mp h with h | h
    ·exact .inl h
    ·exact absurd (List.mem_singleton.mp h) hj
   ·exact .inr ⟨p,h1,h2.resolve_right λh=>h⟩
  ·have:=I1.km;show st1.kn.length+w.length+1<=st1.up.length+34 * st1.m;exact b9G wl2 this
  ·refine a9i (K:=j5 F (n+4)) (hW _ _ _ ?_ ⟨lay',C',st',l,e,s1.trans ⟨s.eg,s.lay,s.con⟩,I',D',nd'.trans e1,?_,rfl⟩)
   ·have:=I'.wm;have:=I'.mr;have:=I'.small;rcases mw with ⟨a,b⟩ | a
    ·have b:st'.wt=w:=b;have a:st'.m=st1.m:=a;refine b9 a ?_;refine b9 b ?_;exact c26 wl2
    ·have a:st'.m=st1.m+1:=a;have:=I1.mr;have:=I1.small;exact c3L ‹_› ‹_› ‹_› a
   ·refine b9 (s.eg ..) ?_;exact hs
 ·have t:=of_decide_eq_false t;rw [m9] at t;show Q .none H1;exact q _ _ _ _ L1 E1 s1 I1 c1 e1 (List.eq_nil_of_length_eq_zero (b8W t))
end
end
variable {sn:List (I3×Nat)}
section
section
variable {K:Calls} {r:En} {H:Hp}
theorem b8n {s:String} (he:∀ Q:m7,Q (.str s) H->e K r H Q) :
  ∀ R:Src->Hp->Prop,(∀ src H1,m5 H H1->(∀ H',m5 H1 H'->∀ i,src.next H' i (s.toList.map λc=>d8.str (String.singleton c))[i]?)->R src H1)->(w5 e).iv K r H R :=
 λR hR=>he _ (.inr (.inl ⟨s,rfl,hR _ H (.refl _) λ_ _ _=>rfl⟩))
theorem c6T (hv:a1H v=true) (q:Q true H):X8 .eq v v H Q:=⟨true,.inl (.inl ⟨hv,hv,by simp⟩),q⟩
theorem c09 {v w:d8} (hv:a1H v=true) (hw:a1H w=true) (h:v≠w) (q:Q false H):X8 .eq v w H Q:=⟨false,.inl (.inl ⟨hv,hw,by simp [h]⟩),q⟩
theorem c61 {v w:d8} (hv:a1H v=true) (hw:a1H w=true) (h:v≠w) (q:Q true H):X8 .ne v w H Q:=⟨false,.inl (.inl ⟨hv,hw,by simp [h]⟩),q⟩
theorem a38 {c cs:Cv} (h:c K r H λb H1=>(b=true->Q true H1)/\(b=false->cs K r H1 Q)):a5i c cs K r H Q:=h
theorem b2Z (q:Q false H):b5x K r H Q:=q
theorem b4O {o1 o2:COp} {a b c:Ev} (h:a K r H λv H1=>b K r H1 λw H2=>X8 o1 v w H2 λt H3=>(t=true->c K r H3 λu H4=>X8 o2 w u H4 Q)/\(t=false->Q false H3)):a55 o1 o2 a b c K r H Q:=h
theorem le_int {i j:Int} (q:Q (decide (i<=j)) H):X8 .le (.int i) (.int j) H Q:=⟨i,j,rfl,rfl,q⟩
theorem a58 (h:H a=some (.dict es ep)) (hk:B0 es v) (q:Q (s9 es v).isSome H):X8 .isin v (.ref a) H Q:=.inr (.inr (.inr ⟨a,es,ep,rfl,h,hk,q⟩))
theorem b3R {a b:Nat} {xs ys:List d8} (h1:H a=some (.list xs)) (h2:H b=some (.list ys)) (p1:a1F xs=true) (p2:a1F ys=true) (qt:xs=ys->Q true H) (qf:xs≠ys->Q false H):X8 .eq (.ref a) (.ref b) H Q:=by
 by_cases e:xs=ys
 ·exact ⟨true,.inl (.inr (.inl ⟨a,b,xs,ys,rfl,rfl,h1,h2,.inl ⟨p1,p2⟩,by simp [e]⟩)),qt e⟩
 ·exact ⟨false,.inl (.inr (.inl ⟨a,b,xs,ys,rfl,rfl,h1,h2,.inl ⟨p1,p2⟩,by simp [e]⟩)),qf e⟩
theorem b46 {c:Char} {Q:m7} (he:∀ Q:m7,Q (.str (String.singleton c)) H->e K r H Q) (c1:97<=c.toNat) (c2:c.toNat<=122) (q:Q (.bool false) H):j7 e a5P f4 K r H Q :=
 he _ ⟨.str,⟨⟨_,rfl⟩,rfl⟩,⟨_,rfl,rfl,⟨c,c1,c2,rfl⟩,q⟩⟩
theorem in_str {b:String} {c:Char} (c1:97<=c.toNat) (c2:c.toNat<=122) (q:Q (b.toList.contains c) H):X8 .isin (.str (String.singleton c)) (.str b) H Q:=.inl ⟨b,c,rfl,c1,c2,rfl,q⟩
end
theorem b4F {c:Char} (c1:97<=c.toNat) (c2:c.toNat<=122):"()[]{},:".toList.contains c=false:=by
 have e:"()[]{},:".toList=['(',')','[',']','{','}',',',':']:=by decide +kernel
 refine b9 e ?_;refine I9 (Bool.eq_false_iff ..) ?_;intro h;rw [List.contains_iff_mem] at h;simp only [List.mem_cons,List.not_mem_nil,or_false] at h;rcases h with h | h | h | h | h | h | h | h <;> subst h <;> revert c1 c2 <;> decide
theorem a0s (c:Char):(String.singleton c).toList=[c]:=by simp
section
variable {F:D4} {n:Nat} {lay:Slot->Nat} {C:D0} {H:Hp} {st:St} {Q:m7} {c:Char}
theorem isop (T:Tb F) (c1:97<=c.toNat) (c2:c.toNat<=122) (q:∀ H',m5 H H'->Q (.bool true) H'):(j5 F (n+1)).call 0 a39 [.str (String.singleton c)] H Q:=by
 have ne:d8.str (String.singleton c)≠.str "":=λe=>by
  injection e with e
  have:=congrArg String.toList e;have e2:"".toList=[]:=by decide +kernel
  rw [a0s,e2] at this;cases this
 refine t0 T.isop rfl (g8 (E0 (b9N (a6x (G1 (f9 rfl (m8 (c61 rfl rfl ne ⟨true,rfl,λ_=>?_,(λt=>nomatch t)⟩))))))))
 refine a6x (G1 (a0l (l:=((String.singleton c).toList.map λc=>d8.str (String.singleton c))) (g:=λ_=>none) ?_ (b8n (o9 rfl)) (λv hv H' k P hP=>?_) λH' a k ha=>?_))
 ·refine b9 (a0s ..) ?_;show 1<=1000000;decide
 ·rw [a0s] at hv;obtain rfl:=List.mem_singleton.mp hv;exact a1Z (a38 (a7Z (b46 (o9 rfl) c1 c2 ⟨false,rfl,(λt=>nomatch t),λ_=>a38 (G1 (f9 rfl (m8 (in_str c1 c2 ⟨λt=>(by rw [b4F c1 c2] at t;cases t),λ_=>b2Z ⟨(λt=>nomatch t),λ_=>⟨(λt=>nomatch t),λ_=>hP _ (.refl _)⟩⟩⟩))))⟩)))
 ·refine X6 (g9 λb hb=>b3R (xs:=[]) (ys:=[]) ?_ l9 rfl rfl (λ_=>?_) λe=>absurd rfl e)
  ·have:b≠a:=λe=>by rw [e,l9] at hb;cases hb
   refine b9 (A0 (λe=>this e.symm)) ?_;refine b9 l9 ?_;simp
  ·exact q _ (k.trans ((m5.new ha).trans (.new hb)))
theorem breq (T:Tb F) (L:G0 lay C H) (E:EG lay C st) (c1:97<=c.toNat) (c2:c.toNat<=122) (q:∀ H',m5 H H'->Q .none H'):(j5 F (n+2)).call E6 a1R [.ref (lay (.eg 2)),.str (String.singleton c)] H Q:=by
 have ne:d8.str (String.singleton c)≠.str "?":=λe=>by
  injection e with e
  have:=congrArg String.toList e;rw [a0s] at this;have e2:"?".toList=['?']:=by decide +kernel
  rw [e2] at this;injection this with this
  subst this;revert c1;decide
 refine t0 T.breq rfl (g8 (a1a (a38 (b6n (a7Z (a0i (d9 (f9 rfl (g9 (isop T c1 c2 λH' k=>⟨true,rfl,(λt=>nomatch t),λ_=>?_⟩))))))))))
 refine a38 (G1 (C9 (f9 rfl (m8 (.inl ⟨_,c,[],rfl,rfl,a0s c,by exact c2w c2,?_⟩)))))
 exact m8 (c09 rfl rfl ne ⟨(λt=>nomatch t),λ_=>b2Z ⟨(λt=>nomatch t),λ_=>q _ k⟩⟩)
end
end
variable {Q:m7}
section
theorem b1O (h:H a=some (.list (l.map d8.int))) (q:Q (.int l.sum) H):biW .sum [.ref a] H Q:=⟨a,l,rfl,h,q⟩
theorem b1q (h:H a=some (.list (l.map d8.int))) (ne:l≠[]) (q:Q (.int (a9Y l)) H):biW .max [.ref a] H Q:=.inl ⟨a,l,rfl,h,ne,q⟩
noncomputable def St.node (st:St) (x:I3):St:={st with nd:=st.nd++[x]}
theorem b4v {ks:List Nat}:(iL ks).filterMap (λv=>match v with | .int i=>some (d8.int (l.getD i.toNat 0)) | _=>none)=(ks.map λk=>l.getD k 0).map d8.int:=by
 induction ks with
 | nil=>rfl
 | cons k ks ih =>
  show (d8.int (k:Nat) :: iL ks).filterMap _=_;refine b9 List.filterMap_cons ?_;refine b9 ih ?_;rfl
section
variable {F:D4} {n:Nat} {lay:Slot->Nat} {C:D0} {H:Hp} {st:St} {Q:m7} {c:Char}
theorem a1L (L:G0 lay C H) (E:Hd lay C) (hs:r f7=some (.ref (lay (.eg 2)))) (h:C (.eg 4)=some (.list xs)) (hl:xs.length<=o5) (q:Q (.int (xs.length:Nat)) H):J8 .len (d6 (n7 (d7 f7) K9) f4) K r H Q :=
 O8 (d9 (a08 L E (o9 hs) rfl (g9 (B1 (L.at_ _ _ h) hl q))))
theorem a7o (L:G0 lay C H) (E:Hd lay C) {f:Nm} {s:Slot} (hf:a0n (a8d lay) f=some (.ref (lay s))) (hs:r f7=some (.ref (lay (.eg 2)))) (hn:r N9=some (r8 x)) (h:C s=some (.list (l.map d8.int))) (hl:l.length<=o5) (hk:∀ k∈x.2,k < l.length) (two:x.2.length<=2)
  (q:∀ a H',m5 H H'->H' a=none->Q (.ref a) (H'.set a (.list ((x.2.map λk=>l.getD k 0).map d8.int)))):v8 (l6 (n7 (d7 f7) f) (d7 y8)) [y8] true (w5 (a2g (d7 N9) (j6 (.int 1)))) B6 K r H Q:=by
 refine a0l (l:=iL x.2) (g:=λv=>match v with | .int i=>some (d8.int (l.getD i.toNat 0)) | _=>none) (by refine b9 (m9 ..) ?_;unfold o5;exact zo4 two) (a4R λR hR=>a51 (f9 hn (m8 (a12 (v:=.str x.1) (by refine b9 (m9 ..) ?_;unfold o5;exact zo2 two) (hR H (.refl _)))))) (λv hv H' k P hP=>?_) λH' a k ha=>by refine b9 b4v ?_;exact q a H' k ha
 refine i9 (a1p hv) λi hi q3=>?_;subst q3;have hs':(r.set y8 (.int (i:Nat))) f7=some (.ref (lay (.eg 2))):=hs;have hli:=hk i hi;refine N2 (C9 (a08 (L.keep k) E (o9 hs') hf (f9 rfl (M8 (i:=i) (x:=.int (l.getD i 0)) ((L.keep k).at_ _ _ h) (by refine b9 (c7x ..) ?_;exact hl) ?_ ?_))))
 ·refine b9 List.getElem?_map ?_;refine b9 (List.getElem?_eq_getElem hli) ?_;refine b9 List.getD_eq_getElem?_getD ?_;refine b9 (List.getElem?_eq_getElem hli) ?_;rfl
 ·have:=hP H' (.refl _);simpa using this
theorem a94 (T:Tb F) (L:G0 lay C H) (E:EG lay C st) (two:x.2.length<=2) (h:w9 st.nd.zipIdx x=some p) (q:Q (.int (p:Nat)) H):(j5 F (n+1)).call E6 a4U [.ref (lay (.eg 2)),.str x.1,.tup (iL x.2)] H Q:=by
 refine eE E.c5 λep e1=>?_;have hg:s9 (a0q st.nd) (r8 x)=some (.int (p:Nat)):=by
  show s9 (knV st.nd.zipIdx) (r8 x)=_;refine b9 a0P ?_;refine b9 h ?_;rfl
 refine t0 T.btake rfl (g8 (z0 (I4 (D1 (d9 (f9 rfl (g9 (O8 (d9 (f9 rfl (g9 (a9A ?_ (a2u ?_ (B7 ?_))))))))))))))
 ·refine b9 (m9 ..) ?_;unfold o5;exact zo4 two
 ·refine b9 (m9 ..) ?_;show 1+_<=_;unfold o5;exact b52 two
 refine g8 (a1a (G1 (f9 (v:=r8 x) rfl (a08 L E.toHd (o9 rfl) rfl (a58 (L.at_ _ _ e1) (a4M (kn:=st.nd.zipIdx) x) ⟨λ_=>?_,λt=>?_⟩)))))
 ·exact g8 (E0 (C9 (a08 L E.toHd (o9 rfl) rfl (f9 (v:=r8 x) rfl (J0 (L.at_ _ _ e1) (a4M (kn:=st.nd.zipIdx) x) hg q)))))
 ·rw [hg] at t;cases t
theorem b0V (T:Tb F) (L:G0 lay C H) (E:EG lay C st) (sm:st.nd.length < 17) (hc:x.1=String.singleton c) (c1:97<=c.toNat) (c2:c.toNat<=122) (two:x.2.length<=2) (hk:∀ k∈x.2,k < st.nd.length) (h:w9 st.nd.zipIdx x=none)
  (q:∀ C' H',G0 lay C' H'->EG lay C' (st.node x)->P7 lay C lay C'->Q (.int (st.nd.length:Nat)) H'):(j5 F (n+3)).call E6 a4U [.ref (lay (.eg 2)),.str x.1,.tup (iL x.2)] H Q:=by
 refine eE E.c5 λep e1=>?_;refine i9 E.c6 λws w1 w2=>?_;refine i9 E.c7 λds d1 d2=>?_;have hg:s9 (a0q st.nd) (r8 x)=none:=by
  show s9 (knV st.nd.zipIdx) (r8 x)=_;refine b9 a0P ?_;refine b9 h ?_;rfl
 have nl:(st.nd.map r8).length=st.nd.length:=c7x ..;have nl2:(st.nd.map r8).length<=o5:=by refine b9 nl ?_;unfold o5;exact zo8 sm
 refine t0 T.btake rfl (g8 (z0 (I4 (D1 (d9 (f9 rfl (g9 (O8 (d9 (f9 rfl (g9 (a9A ?_ (a2u ?_ (B7 ?_))))))))))))))
 ·refine b9 (m9 ..) ?_;unfold o5;exact zo4 two
 ·refine b9 (m9 ..) ?_;show 1+_<=_;unfold o5;exact b52 two
 refine g8 (a1a (G1 (f9 (v:=r8 x) rfl (a08 L E.toHd (o9 rfl) rfl (a58 (L.at_ _ _ e1) (a4M (kn:=st.nd.zipIdx) x) ⟨λt=>?_,λ_=>a9i ?_⟩)))))
 ·rw [hg] at t;cases t
 refine g8 (D6 (u6 (by refine b9 T.breq ?_;rfl) (L.at_ _ _ E.c2) (L.at_ _ _ E.c3) rfl (o9 rfl) (d9 (f9 (v:=.str (String.singleton c)) (by refine t6 hc ?_;rfl) (g9 (breq T L E c1 c2 λH1 k1=>?_))))))
 have L1:=L.keep k1;refine g8 (Z6 (a51 (f9 (v:=r8 x) rfl (m8 (a12 (v:=.str x.1) (by refine b9 (m9 ..) ?_;unfold o5;exact zo2 two) (.inl ⟨iL x.2,rfl,_,R7 (src:=.seq (iL x.2)) (iL x.2) (λi r1 H2=>H2=H1/\r1 f7=some (.ref (lay (.eg 2)))/\r1 N9=some (r8 x)) (λ_ _ _ _=>rfl) (λr2 H2 hI=>?_) (λi v r2 H2 hv hI W hW _=>?_) ((iL x.2).length+1) 0 _ _ (zo0) (Nat.zero_le _) ⟨rfl,rfl,rfl⟩⟩))))))
 ·refine eAA hI λq1 hs hn=>?_;clear hI;subst q1;refine g8 (z0 (a1L L1 E.toHd hs E.c4 nl2 (a0r (λ_ q=>a08 L1 E.toHd (o9 hs) rfl q) (o9 hn) (L1.at_ _ _ e1) (a4M (kn:=st.nd.zipIdx) x) ?_ ?_)))
  ·show (knV _).length<=_;unfold knV;refine b9 (c7x ..) ?_;refine b9 List.length_zipIdx ?_;unfold o5;exact zo8 sm
  have hd:C6 (a0q st.nd) (r8 x) (.int ((st.nd.map r8).length:Nat))=a0q (st.nd++[x]):=by
   unfold C6;refine b9 hg ?_;refine b9 (if_neg (by simp)) ?_;refine b9 nl ?_
   unfold a0q;refine b9 List.zipIdx_append ?_;refine b9 List.map_append ?_;simp
  refine b9 hd ?_;generalize dep _ _ _=ep2;have L2:=L1.put (o:=.dict (a0q (st.nd++[x])) ep2) e1;have E2:=E.toHd.upd (s:=.eg 5) (o:=.dict (a0q (st.nd++[x])) ep2) rfl;have i4:(upd C (.eg 5) (.dict (a0q (st.nd++[x])) ep2)) (.eg 4)=some (.list (st.nd.map r8)):=(j3 (by decide)).trans E.c4
  refine g8 (D6 (J9 (λ_ q=>a08 L2 E2 (o9 hs) rfl q) (L2.at_ _ _ i4) (d9 (f9 hn (g9 (K3 (L2.at_ _ _ i4) nl2 ?_))))));have e2:st.nd.map r8++[r8 x]=(st.nd++[x]).map r8:=by refine b9 List.map_append ?_;rfl
  refine b9 e2 ?_;have L3:=L2.put (o:=.list ((st.nd++[x]).map r8)) i4;have E3:=E2.upd (s:=.eg 4) (o:=.list ((st.nd++[x]).map r8)) rfl;have i6:(upd (upd C (.eg 5) (.dict (a0q (st.nd++[x])) ep2)) (.eg 4) (.list ((st.nd++[x]).map r8))) (.eg 6)=some (.list (ws.map d8.int)):=(j3 (by decide)).trans ((j3 (by decide)).trans w1)
  refine g8 (D6 (J9 (λ_ q=>a08 L3 E3 (o9 hs) rfl q) (L3.at_ _ _ i6) (d9 (I4 (m8 (O8 (d9 (a7o L3 E3 (s:=.eg 6) rfl hs hn i6 (by refine b9 w2 ?_;unfold o5;exact zo8 sm) (by refine b9 w2 ?_;exact hk) two λa H4 k4 ha=>g9 (b1O l9 (a0w (g9 ?_)))))))))))
  have L4:=L3.keep (k4.trans (.new (o:=.list ((x.2.map λk=>ws.getD k 0).map d8.int)) ha));generalize (1+((x.2.map λk=>ws.getD k 0).sum):Int)=wv;refine K3 (L4.at_ _ _ i6) (by refine b9 (c7x ..) ?_;refine b9 w2 ?_;unfold o5;exact zo8 sm) ?_
  have e6:ws.map d8.int++[.int wv]=(ws++[wv]).map d8.int:=by refine b9 List.map_append ?_;rfl
  refine b9 e6 ?_;have L5:=L4.put (o:=.list ((ws++[wv]).map d8.int)) i6;have E5:=E3.upd (s:=.eg 6) (o:=.list ((ws++[wv]).map d8.int)) rfl;have i7:(upd (upd (upd C (.eg 5) (.dict (a0q (st.nd++[x])) ep2)) (.eg 4) (.list ((st.nd++[x]).map r8))) (.eg 6) (.list ((ws++[wv]).map d8.int))) (.eg 7)=some (.list (ds.map d8.int)):=(j3 (by decide)).trans ((j3 (by decide)).trans ((j3 (by decide)).trans d1))
  refine g8 (D6 (J9 (λ_ q=>a08 L5 E5 (o9 hs) rfl q) (L5.at_ _ _ i7) (d9 (I4 (m8 (O8 (d9 (I4 (a7o L5 E5 (s:=.eg 7) rfl hs hn i7 (by refine b9 d2 ?_;unfold o5;exact zo8 sm) (by refine b9 d2 ?_;exact hk) two λa H6 k6 ha=>X6 (d9 (m8 (g9 λb hb=>?_))))))))))))
  have hab:(Hp.set (Hp.set H6 a (.list ((x.2.map λk=>ds.getD k 0).map d8.int))) b (.list [.int 0])) a=some (.list ((x.2.map λk=>ds.getD k 0).map d8.int)):=by
   refine b9 (A0 λe=>by rw [<- e,l9] at hb;cases hb) ?_;exact l9
  refine add_list hab l9 (by refine b9 (c7x ..) ?_;refine b9 (c7x ..) ?_;show _+1<=_;unfold o5;exact zo2 two) λc' hc'=>g9 (b1q (l:=(x.2.map λk=>ds.getD k 0)++[0]) (by refine b9 l9 ?_;refine b9 List.map_append ?_;rfl) (by simp) (a0w (g9 ?_)))
  have L6:=L5.keep (((k6.trans (.new (o:=.list ((x.2.map λk=>ds.getD k 0).map d8.int)) ha)).trans (.new (o:=.list [.int 0]) hb)).trans (.new (o:=.list ((x.2.map λk=>ds.getD k 0).map d8.int++[.int 0])) hc'));generalize (1+a9Y _:Int)=dv;refine K3 (L6.at_ _ _ i7) (by refine b9 (c7x ..) ?_;refine b9 d2 ?_;unfold o5;exact zo8 sm) ?_
  have e7:ds.map d8.int++[.int dv]=(ds++[dv]).map d8.int:=by refine b9 List.map_append ?_;rfl
  refine b9 e7 ?_;have L7:=L6.put (o:=.list ((ds++[dv]).map d8.int)) i7;have E7:=E5.upd (s:=.eg 7) (o:=.list ((ds++[dv]).map d8.int)) rfl;have j4:(upd (upd (upd (upd C (.eg 5) (.dict (a0q (st.nd++[x])) ep2)) (.eg 4) (.list ((st.nd++[x]).map r8))) (.eg 6) (.list ((ws++[wv]).map d8.int))) (.eg 7) (.list ((ds++[dv]).map d8.int))) (.eg 4)=some (.list ((st.nd++[x]).map r8)):=(j3 (by decide)).trans ((j3 (by decide)).trans B4)
  have nl3:((st.nd++[x]).map r8).length=st.nd.length+1:=by refine b9 (c7x ..) ?_;refine b9 List.length_append ?_;rfl
  refine g8 (E0 (I4 (a1L L7 E7 hs j4 (by refine b9 nl3 ?_;unfold o5;exact c0o sm) (m8 (sub_int ?_)))))
  refine b9 nl3 ?_;refine b9 (show (((st.nd.length+1:Nat):Int) - 1)=(st.nd.length:Nat) by exact b64) ?_
  refine q _ _ L7 ?_ ⟨λ_=>rfl,λ_=>rfl,λ_=>rfl⟩;have fe:∀ s,s≠.eg 4->s≠.eg 5->s≠.eg 6->s≠.eg 7->upd (upd (upd (upd C (.eg 5) (.dict (a0q (st.nd++[x])) ep2)) (.eg 4) (.list ((st.nd++[x]).map r8))) (.eg 6) (.list ((ws++[wv]).map d8.int))) (.eg 7) (.list ((ds++[dv]).map d8.int)) s=C s :=
   λs h4 h5 h6 h7=>(j3 h7).trans ((j3 h6).trans ((j3 h4).trans (j3 h5)))
  exact {E7 with
   c4:=j4
   c5:=⟨ep2,(j3 (by decide)).trans ((j3 (by decide)).trans ((j3 (by decide)).trans B4))⟩
   c6:=⟨ws++[wv],(j3 (by decide)).trans B4,by refine b9 List.length_append ?_;refine b9 w2 ?_;show _=(st.nd++[x]).length;refine b9 List.length_append ?_;rfl⟩
   c7:=⟨ds++[dv],B4,by refine b9 List.length_append ?_;refine b9 d2 ?_;show _=(st.nd++[x]).length;refine b9 List.length_append ?_;rfl⟩
   c10:=E.c10,c11:=E.c11
   cl:=λi hi=>let ⟨xs,h1,h2⟩:=E.cl i hi;⟨xs,(fe _ J6 J6 J6 J6).trans h1,h2⟩
   c12:=E.c12,c13:=E.c13,c14:=E.c14,c15:=E.c15,c16:=E.c16
   cu:=λp hp=>(fe _ K8 K8 K8 K8).trans (E.cu p hp)
   c17:=E.c17}
 ·refine eAA hI λq2 hs hn=>?_;clear hI;subst q2;refine i9 (a1p (c7w hv)) λk hk' q4=>?_;subst q4;have hlt:=hk k hk';refine ⟨_,A1,g8 (a1a (b6n (b4O (m8 (f9 rfl (le_int ⟨λ_=>a1L L1 E.toHd (r:=r2.set y8 (.int (k:Nat))) hs E.c4 nl2 (a4l ⟨λt=>?_,λ_=>hW _ _ ⟨rfl,hs,hn⟩⟩),λt=>?_⟩))))))⟩
  ·rw [nl] at t;have:((k:Nat):Int) < (st.nd.length:Nat):=by exact b8A hlt
   rw [decide_eq_true this] at t;cases t
  ·have:=of_decide_eq_false t;exact (c0j this).elim
end
noncomputable def U7 (n:Nat) (us:List (Nat×List Nat)) (c:Nat):List (Nat×List Nat):=us.map λp=>if p.1=c then (c,p.2++[n]) else p
noncomputable def Y5 (n:Nat) (us:List (Nat×List Nat)) (zs:List Nat):List (Nat×List Nat):=zs.foldl (U7 n) us
section
variable {n:Nat} {us:List (Nat×List Nat)} {c:Nat} {zs:List Nat}
theorem a5q:(U7 n us c).map (·.1)=us.map (·.1):=by
 unfold U7;refine b9 List.map_map ?_;refine List.map_congr_left λp _=>?_;show (if p.1=c then (c,p.2++[n]) else p).1=p.1
 split
 ·rename_i e;exact e.symm
 ·rfl
theorem a11:∀ {zs:List Nat} {us:List (Nat×List Nat)},(Y5 n us zs).map (·.1)=us.map (·.1):=by
 intro zs;induction zs with
 | nil=>intro _;exact rfl
 | cons z zs ih=>intro us;exact (ih (us:=U7 n us z)).trans a5q
theorem b0n {u:List Nat} (h:(a,u)∈us):∃ v,(a,v)∈U7 n us c/\(∀ i∈u,i∈v)/\(a=c->n∈v):=by
 by_cases e:a=c
 ·exact ⟨u++[n],List.mem_map.mpr ⟨_,h,by refine b9 (if_pos e) ?_;refine b9 e ?_;rfl⟩,λi hi=>List.mem_append_left _ hi,λ_=>List.mem_append_right _ (List.mem_singleton.mpr rfl)⟩
 ·exact ⟨u,List.mem_map.mpr ⟨_,h,if_neg e⟩,λi hi=>hi,λz=>absurd z e⟩
theorem a1S:∀ {zs:List Nat} {us:List (Nat×List Nat)} {a:Nat} {u:List Nat},(a,u)∈us->∃ v,(a,v)∈Y5 n us zs/\(∀ i∈u,i∈v)/\(a∈zs->n∈v):=by
 intro zs;induction zs with
 | nil=>intro _ _ u h;exact ⟨u,h,λ_ h=>h,λh=>nomatch h⟩
 | cons z zs ih =>
  intro us a u h;refine B2 (b0n (n:=n) (c:=z) h) λv h1 h2 h3=>?_;refine B2 (ih h1) λw h4 h5 h6=>?_;refine ⟨w,h4,λi hi=>h5 i (h2 i hi),λha=>?_⟩;rcases List.mem_cons.mp ha with e | e
  ·exact h5 n (h3 e)
  ·exact h6 e
theorem b3e {p:Nat×List Nat} (h:p∈U7 n us c) (hi:i∈p.2):i=n\/∃ q∈us,i∈q.2:=by
 refine i9 (List.mem_map.mp h) λq hq q2=>?_;subst q2
 split at hi
 ·rcases List.mem_append.mp hi with hi | hi
  ·exact .inr ⟨q,hq,hi⟩
  ·exact .inl (List.mem_singleton.mp hi)
 ·exact .inr ⟨q,hq,hi⟩
theorem b22:∀ {zs:List Nat} {us:List (Nat×List Nat)} {p:Nat×List Nat},p∈Y5 n us zs->∀ {i:Nat},i∈p.2->i=n\/∃ q∈us,i∈q.2:=by
 intro zs;induction zs with
 | nil=>intro _ p h _ hi;exact .inr ⟨p,h,hi⟩
 | cons z zs ih =>
  intro us p h i hi;rcases ih (us:=U7 n us z) h hi with e | ⟨q,h1,h2⟩
  ·exact .inl e
  ·exact b3e h1 h2
theorem b0p (nd:(us.map (·.1)).Nodup):((U7 n us c).map λp=>p.2.length).sum<=(us.map λp=>p.2.length).sum+1:=by
 by_cases h:∃ u,(c,u)∈us
 ·revert h;intro q1;refine eE q1 λu h=>?_;clear q1;unfold U7;refine b9 (b3G (ug:=[n]) nd h) ?_;exact Nat.le_refl _
 ·have:U7 n us c=us:=by
   unfold U7
   conv=>rhs;rw [<- List.map_id us]
   refine List.map_congr_left λp hp=>?_;have:p.1≠c:=λz=>h ⟨p.2,by refine t6 z ?_;exact hp⟩
   refine b9 (if_neg this) ?_;rfl
  refine b9 this ?_;exact zo9
theorem a5U:∀ {zs:List Nat} {us:List (Nat×List Nat)},(us.map (·.1)).Nodup->((Y5 n us zs).map λp=>p.2.length).sum<=(us.map λp=>p.2.length).sum+zs.length:=by
 intro zs;induction zs with
 | nil=>intro _ _;exact Nat.le_refl _
 | cons z zs ih =>
  intro us nd;have h1:=ih (us:=U7 n us z) (by refine b9 a5q ?_;exact nd)
  have h2:=b0p (n:=n) (c:=z) nd;refine b9 List.length_cons ?_;show ((Y5 n (U7 n us z) zs).map λp=>p.2.length).sum<=_;exact b6j h1 h2
end
theorem a7u {l m:List Nat} (h:l.Nodup) (s:∀ a∈l,a∈m):l.length<=m.length:=by
 induction l generalizing m with
 | nil=>exact Nat.zero_le _
 | cons a l ih =>
  rw [List.nodup_cons] at h;have ha:=s a (List.mem_cons_self);have:=ih (m:=m.erase a) h.2 λb hb=>(List.mem_erase_of_ne λe=>h.1 (by refine t6 e ?_;exact hb)).mpr (s b (List.mem_cons_of_mem _ hb))
  rw [List.length_erase_of_mem ha] at this;have:=List.length_pos_of_mem ha;refine b9 List.length_cons ?_;exact c42 ‹_› this
section
variable {up:List Nat}
theorem a4e (u:Up up):Up (up++[up.length]):=⟨λi p e=>by
 by_cases h:i < up.length
 ·rw [List.getElem?_append_left h] at e;exact u.le i p e
 ·rw [List.getElem?_append_right (zo1 h)] at e;have:=c7w e;have:=List.mem_singleton.mp this;exact c0E h this⟩
theorem b3S (h:a < up.length):(up++[up.length])[a]?=up[a]?:=List.getElem?_append_left h
theorem a9f:(up++[up.length])[up.length]?=some up.length:=by simp
theorem a3s (u:Up up) (l:∀ p∈up,p < up.length):∀ a,a < up.length->f8 (up++[up.length]) a=f8 up a:=by
 intro a;induction a using Nat.strongRecOn with
 | ind a ih =>
  intro ha;have e:=List.getElem?_eq_getElem ha;refine b9 (y5 (a4e u) ((b3S ha).trans e)) ?_;refine b9 (y5 u e) ?_
  split
  ·rfl
  ·rename_i h;have:=u.le _ _ e;exact ih _ (b3P h this) (l _ (c7w e))
theorem a81:a28 (up++[up.length])=a28 up+1:=by
 unfold a28;refine b9 List.length_append ?_;show ((List.range (up.length+1)).filter _).length=_;refine b9 List.range_succ ?_;refine b9 (List.filter_append ..) ?_;refine b9 List.length_append ?_
 congr 1
 ·congr 1
  refine List.filter_congr λa ha=>?_;refine b9 (b3S (List.mem_range.mp ha)) ?_;rfl
 ·refine b9 (List.filter_cons_of_pos (by refine b9 a9f ?_;simp)) ?_;rfl
end
noncomputable def St.added (st:St) (x:I3) (zs:List Nat):St:={st with nd:=st.nd++[x],up:=st.up++[st.up.length],us:=Y5 st.up.length (st.us++[(st.up.length,[])]) zs}
theorem a7K {nd:List I3} {x y:I3} {j:Nat} (h:(nd++[x])[j]?=some y):nd[j]?=some y\/(j=nd.length/\y=x):=by
 by_cases l:j < nd.length
 ·rw [List.getElem?_append_left l] at h;exact .inl h
 ·rw [List.getElem?_append_right (zo1 l)] at h;have h0:=(List.getElem?_eq_some_iff.mp h).1;simp only [List.length_singleton] at h0;have e:j=nd.length:=by exact b9j l h0
  subst e;simp at h;exact .inr ⟨rfl,h.symm⟩
section
variable {ties:List (Nat×Nat)} {st:St} {x:I3} {zs:List Nat}
theorem b0E (I:C5 ties st) (sm:st.up.length < 17) (two:x.2.length<=2) (hk:∀ k∈x.2,k < st.up.length) (zn:zs.Nodup) (zm:∀ c,c∈zs↔c∈x.2.map (f8 st.up)):C5 ties (st.added x zs):=by
 have len:(st.added x zs).up.length=st.up.length+1:=List.length_append;have rm:=a3s I.up I.lt;have rn:f8 (st.up++[st.up.length]) st.up.length=st.up.length:=a17 (a4e I.up) a9f;have lt':∀ {l:List Nat},(∀ k∈l,k < st.up.length)->l.map (f8 (st.up++[st.up.length]))=l.map (f8 st.up):=λh=>List.map_congr_left λk hk=>rm k (h k hk);have nd0:((st.us++[(st.up.length,([]:List Nat))]).map λp=>p.1).Nodup:=by
  refine b9 List.map_append ?_;refine I9 (List.nodup_append ..) ?_;refine ⟨I.nod,by simp,λa ha b hb e=>?_⟩
  refine i9 (List.mem_map.mp ha) λp hp q3=>?_;subst q3;have:=I.uslt p hp;simp at hb;exact c0Q e this hb
 have zl:zs.length<=2:=by
  have:=a7u zn (m:=x.2.map (f8 st.up)) λa ha=>(zm a).mp ha;rw [List.length_map] at this;exact b6H two this
 have i_kid:∀ y∈(st.added x zs).nd,∀ k∈y.2,k < st.up.length:=λy hy k h=>by
  rcases List.mem_append.mp hy with hy | hy
  ·exact I.kid y hy k h
  ·rw [List.mem_singleton.mp hy] at h;exact hk k h
 refine {toOk:=⟨a4e I.up,λp hp=>?_,by refine b9 len ?_;exact c2T sm,?_,λy hy=>?_⟩,eqn:=?_,kid:=λy hy k h=>by refine b9 len ?_;have:=i_kid y hy k h;exact zo3 this,knlt:=λp hp=>by refine b9 len ?_;have:=I.knlt p hp;exact zo3 this,knk:=λp hp a ha=>by refine b9 len ?_;have:=I.knk p hp a ha;exact zo3 this,kn:=λp hp=>?_,use:=λi y hy q hq=>?_,sound:=λE cE a b ha hb e=>?_,told:=λp hp=>?_,tlt:=λp hp=>?_,wlt:=λi hi=>by refine b9 len ?_;have:=I.wlt i hi;exact zo3 this,ult:=λp hp i hi=>?_,uslt:=λp hp=>?_,nod:=?_,has:=λc hc e=>?_,ulen:=?_,usum:=?_,mr:=?_,wm:=I.wm,km:=?_,fm:=I.fm,em:=I.em,tl:=I.tl}
 ·refine b9 len ?_;rcases List.mem_append.mp hp with hp | hp
  ·have:=I.lt p hp;exact zo3 this
  ·refine b9 (List.mem_singleton.mp hp) ?_;exact b7w
 ·show (st.nd++[x]).length<=17;refine b9 List.length_append ?_;refine b9 I.eqn ?_;exact sm
 ·rcases List.mem_append.mp hy with hy | hy
  ·exact I.two y hy
  ·refine b9 (List.mem_singleton.mp hy) ?_;exact two
 ·refine b9 len ?_;show (st.nd++[x]).length=_;refine b9 List.length_append ?_;refine b9 I.eqn ?_;rfl
 ·refine B2 (I.kn p hp) λy y1 y2 y3=>?_;refine ⟨y,?_,y2,?_⟩
  ·show (st.nd++[x])[p.2]?=_;refine b9 (List.getElem?_append_left (List.getElem?_eq_some_iff.mp y1).1) ?_;exact y1
  ·show y.2.map (f8 (st.up++[st.up.length]))=p.1.2.map (f8 (st.up++[st.up.length]));refine b9 (lt' (I.kid y (c7w y1))) ?_;refine b9 (lt' (I.knk p hp)) ?_;exact y3
 ·have hq':=i_kid y (c7w hy) q hq;show ∃ u,(f8 (st.up++[st.up.length]) q,u)∈Y5 _ _ _/\i∈u;refine b9 (rm q hq') ?_;rcases a7K hy with hy | ⟨e,rfl⟩
  ·refine i9 (I.use i y hy q hq) λu h1 h2=>?_;refine B2 (a1S (n:=st.up.length) (zs:=zs) (List.mem_append_left [(st.up.length,[])] h1)) λv h3 h4 _=>?_;exact ⟨v,h3,h4 i h2⟩
  ·refine eE (I.has _ (C7 I.up I.lt q hq') (I5 I.up hq')) λu h1=>?_;refine B2 (a1S (n:=st.up.length) (zs:=zs) (List.mem_append_left [(st.up.length,[])] h1)) λv h3 _ h5=>?_;exact ⟨v,h3,by refine b9 e ?_;refine b9 I.eqn ?_;exact h5 ((zm _).mpr (List.mem_map.mpr ⟨q,hq,rfl⟩))⟩
 ·rw [len] at ha hb;have cE0:a1g st.nd ties E:=⟨cE.refl,cE.symm,cE.trans,cE.tie,λi j y z hi hj=>cE.node i j y z (by
   show (st.nd++[x])[i]?=_;refine b9 (List.getElem?_append_left (List.getElem?_eq_some_iff.mp hi).1) ?_;exact hi) (by
   show (st.nd++[x])[j]?=_;refine b9 (List.getElem?_append_left (List.getElem?_eq_some_iff.mp hj).1) ?_;exact hj)⟩
  have e:f8 (st.up++[st.up.length]) a=f8 (st.up++[st.up.length]) b:=e;by_cases a1:a < st.up.length <;> by_cases b1:b < st.up.length
  ·rw [rm a a1,rm b b1] at e;exact I.sound E cE0 a b a1 b1 e
  ·obtain rfl:b=st.up.length:=by exact b7F hb b1
   rw [rm a a1,rn] at e;have:=C7 I.up I.lt a a1;exact (b9k e this).elim
  ·obtain rfl:a=st.up.length:=by exact b7F ha a1
   rw [rm b b1,rn] at e;have:=C7 I.up I.lt b b1;exact (b75 e this).elim
  ·obtain rfl:a=b:=by exact c0N ha hb a1 b1
   exact cE.refl a
 ·show f8 (st.up++[st.up.length]) p.1=f8 (st.up++[st.up.length]) p.2;refine b9 (rm _ (I.tlt p hp).1) ?_;refine b9 (rm _ (I.tlt p hp).2) ?_;exact I.told p hp
 ·refine b9 len ?_;have:=I.tlt p hp;exact b90 this
 ·refine b9 len ?_;rcases b22 hp hi with e | ⟨q,h1,h2⟩
  ·exact b9a e
  ·rcases List.mem_append.mp h1 with h1 | h1
   ·have:=I.ult q h1 i h2;exact zo3 this
   ·rw [List.mem_singleton.mp h1] at h2;cases h2
 ·refine b9 len ?_;have:p.1∈(st.us++[(st.up.length,([]:List Nat))]).map λp=>p.1:=by
   refine t6 (a11 (n:=st.up.length) (zs:=zs)) ?_;exact List.mem_map.mpr ⟨p,hp,rfl⟩
  refine i9 (List.mem_map.mp this) λq hq e=>?_;rcases List.mem_append.mp hq with hq | hq
  ·have:=I.uslt q hq;exact b95 e this
  ·rw [List.mem_singleton.mp hq] at e;have e:st.up.length=p.1:=e;exact c5a ‹_›
 ·show ((Y5 _ _ _).map (·.1)).Nodup;refine b9 a11 ?_;exact nd0
 ·rw [len] at hc;have e:f8 (st.up++[st.up.length]) c=c:=e;have:∃ u,(c,u)∈st.us++[(st.up.length,[])]:=by
   by_cases c1:c < st.up.length
   ·rw [rm c c1] at e;refine eE (I.has c c1 e) λu hu=>?_;exact ⟨u,List.mem_append_left _ hu⟩
   ·obtain rfl:c=st.up.length:=by exact b7F hc c1
    exact ⟨[],List.mem_append_right _ (List.mem_singleton.mpr rfl)⟩
  refine eE this λu hu=>?_;clear this;refine i9 (a1S (n:=st.up.length) (zs:=zs) hu) λv hv _=>?_;exact ⟨v,hv⟩
 ·refine b9 len ?_;have h:=congrArg List.length (a11 (n:=st.up.length) (zs:=zs) (us:=st.us++[(st.up.length,[])]));rw [List.length_map,List.length_map,List.length_append] at h;have:=I.ulen;show (Y5 _ _ _).length<=_;refine b9 h ?_;show st.us.length+1<=_;exact c41 this
 ·refine b9 len ?_;have h:=a5U (n:=st.up.length) (zs:=zs) nd0;rw [List.map_append,List.sum_append] at h;have:=I.usum;show ((Y5 _ _ _).map λp=>p.2.length).sum<=_;have e:((([(st.up.length,[])]:List (Nat×List Nat)).map λp=>p.2.length).sum)=0:=rfl;exact c1K zl h this e
 ·refine b9 len ?_;have:=I.mr;show st.m+a28 (st.up++[st.up.length])=_;refine b9 a81 ?_;exact c21 this
 ·refine b9 len ?_;have:=I.km;show st.kn.length+st.wt.length<=_+34 * st.m;exact c4V this
theorem a8i (I:C5 ties st) (D:a0o st):b7Y (st.added x zs) st.up.length:=λj y hy hj=>by
 rcases a7K hy with hy | ⟨e,_⟩
 ·have rm:=a3s I.up I.lt;have jl:=I.nlt hy;rcases D j y hy with h | ⟨p,h1,h2⟩
  ·exact .inl h
  ·have h2:=h2.resolve_right λh=>h;refine .inr ⟨p,?_,?_⟩
   ·have:v0 (st.up++[st.up.length]) y=v0 st.up y:=by
     unfold v0
     congr 1
     exact List.map_congr_left λk hk=>rm k (I.kid y (c7w hy) k hk)
    show w9 st.kn (v0 (st.up++[st.up.length]) y)=_;refine b9 this ?_;exact h1
   ·show f8 (st.up++[st.up.length]) p=f8 (st.up++[st.up.length]) j;refine b9 (rm p (I.knlt _ (U0 h1))) ?_;refine b9 (rm j jl) ?_;exact h2
 ·exact absurd (e.trans I.eqn) hj
end
end
variable {nd:List I3}
section
theorem b57 (h:w9 nd.zipIdx x=some p):nd[p]?=some x:=by
 have:=U0 h;rwa [List.mem_zipIdx_iff_getElem?] at this
theorem b5j {lay:Slot->Nat} {us:List (Nat×List Nat)} (nd:(us.map (·.1)).Nodup) {c:Nat} {uc:List Nat} (h:(c,uc)∈us):s9 (W2 lay us) (.int (c:Nat))=some (.ref (lay (.us c))):=by
 refine a7t (f:=λp:Nat×List Nat=>(d8.int (p.1:Nat),d8.ref (lay (.us p.1)))) h rfl λy hy e=>?_;have e:y.1=c:=by injection e with e;exact zo5 e
 have e2:=a6z nd h (show (c,y.2)∈us by refine t6 e ?_;exact hy)
 exact Prod.ext e e2.symm
theorem b1m (h:e K r H λv H1=>b7v v H1 λys=>alloc (.list ys) H1 Q):M6 e K r H Q:=h
theorem b5M {lay:Slot->Nat} {us:List (Nat×List Nat)} {n c:Nat}:W2 lay (U7 n us c)=W2 lay us:=by
 unfold W2 U7;refine b9 List.map_map ?_;refine List.map_congr_left λp _=>?_;show (d8.int ((if p.1=c then (c,p.2++[n]) else p).1:Nat),d8.ref (lay (.us (if p.1=c then (c,p.2++[n]) else p).1)))=_
 split
 ·rename_i e;refine b9 e ?_;rfl
 ·rfl
section
variable {F:D4} {n:Nat} {lay:Slot->Nat} {C:D0} {H:Hp} {st:St} {Q:m7}
theorem b8g (L:G0 lay C H) (E:EG lay C st) (nod:(st.us.map (·.1)).Nodup) {c i:Nat} {u:List Nat} (h:(c,u)∈st.us):G0 lay (upd C (.us c) (.list (iL (u++[i])))) (H.set (lay (.us c)) (.list (iL (u++[i]))))/\EG lay (upd C (.us c) (.list (iL (u++[i])))) {st with us:=U7 i st.us c} :=
 ⟨L.put (E.cu _ h),{E.toHd.upd (s:=.us c) (o:=.list (iL (u++[i]))) rfl with
  c4:=E.c4,c5:=E.c5,c6:=E.c6,c7:=E.c7,c10:=E.c10,c11:=E.c11
  cl:=λi hi=>let ⟨xs,h1,h2⟩:=E.cl i hi;⟨xs,(j3 a9c).trans h1,h2⟩
  c12:=E.c12,c13:=E.c13,c14:=E.c14,c15:=E.c15
  c16:=let ⟨ep,e⟩:=E.c16;⟨ep,(j3 a5R).trans (by refine b9 b5M ?_;exact e)⟩
  cu:=λp hp=>by
   refine i9 (List.mem_map.mp hp) λq hq q1=>?_;subst q1;by_cases z:q.1=c
   ·refine b9 (if_pos z) ?_;have:q.2=u:=a6z nod (show (c,q.2)∈st.us by refine t6 z ?_;exact hq) h
    refine b9 this ?_;exact B4
   ·refine b9 (if_neg z) ?_;exact (j3 λe=>z (by injection e)).trans (E.cu q hq)
  c17:=E.c17}⟩
theorem b8o (L:G0 lay C H) (E:EG lay C st) {ep ep':Nat} (x1:C (.eg 16)=some (.dict (W2 lay st.us) ep)) (hk:∀ p∈st.us,p.1≠k) (ha:H a=none) :
  G0 (I7 lay (.us k) a) (upd C (.us k) (.list [])) (H.set a (.list []))/\Hd (I7 lay (.us k) a) (upd C (.us k) (.list []))/\(upd C (.us k) (.list [])) (.eg 16)=some (.dict (W2 lay st.us) ep) /\
  G0 (I7 lay (.us k) a) (upd (upd C (.us k) (.list [])) (.eg 16) (.dict (C6 (W2 lay st.us) (.int (k:Nat)) (.ref a)) ep')) ((H.set a (.list [])).set (lay (.eg 16)) (.dict (C6 (W2 lay st.us) (.int (k:Nat)) (.ref a)) ep')) /\
  EG (I7 lay (.us k) a) (upd (upd C (.us k) (.list [])) (.eg 16) (.dict (C6 (W2 lay st.us) (.int (k:Nat)) (.ref a)) ep')) {st with us:=st.us++[(k,[])]}:=by
 have L1:=L.take (s:=.us k) (o:=.list []) ha;have E1:=E.toHd.take (s:=.us k) (o:=.list []) (a:=a) rfl;have y1:(upd C (.us k) (.list [])) (.eg 16)=some (.dict (W2 lay st.us) ep):=(j3 a5R).trans x1;have hd:C6 (W2 lay st.us) (.int (k:Nat)) (.ref a)=W2 (I7 lay (.us k) a) (st.us++[(k,[])]):=by
  have hn:s9 (W2 lay st.us) (.int (k:Nat))=none:=a95 (f:=λp:Nat×List Nat=>(d8.int (p.1:Nat),d8.ref (lay (.us p.1)))) λy hy e=>hk y hy (by
   have e:d8.int (y.1:Nat)=d8.int (k:Nat):=e;injection e with e;exact zo5 e)
  unfold C6;refine b9 hn ?_;refine b9 (if_neg (by simp)) ?_
  unfold W2;refine b9 List.map_append ?_
  congr 1
  ·refine List.map_congr_left λp hp=>?_;refine b9 (P0 λe=>hk p hp (by injection e)) ?_;rfl
  ·show _=[(d8.int (k:Nat),d8.ref (I7 lay (.us k) a (.us k)))];refine b9 a0U ?_;rfl
 refine ⟨L1,E1,y1,L1.put y1,?_⟩;refine b9 hd ?_;exact {E1.upd (s:=.eg 16) (o:=.dict (W2 (I7 lay (.us k) a) (st.us++[(k,[])])) ep') rfl with
  c4:=E.c4,c5:=E.c5,c6:=E.c6,c7:=E.c7,c10:=E.c10,c11:=E.c11
  cl:=λi hi=>let ⟨xs,h1,h2⟩:=E.cl i hi;⟨xs,(j3 J6).trans ((j3 a9c).trans h1),h2⟩
  c12:=E.c12,c13:=E.c13,c14:=E.c14,c15:=E.c15
  c16:=⟨ep',B4⟩
  cu:=λp hp=>by
   refine (j3 K8).trans ?_;rcases List.mem_append.mp hp with hp | hp
   ·exact (j3 λe=>hk p hp (by injection e)).trans (E.cu p hp)
   ·refine b9 (List.mem_singleton.mp hp) ?_;exact B4
  c17:=E.c17}
end
theorem a8W {n c:Nat} {us:List (Nat×List Nat)} {zs:List Nat} (h:zs[i]?=some c):Y5 n us (zs.take (i+1))=U7 n (Y5 n us (zs.take i)) c:=by
 unfold Y5;refine b9 List.take_add_one ?_;refine b9 h ?_;refine b9 List.foldl_append ?_;rfl
theorem a5k (l:List Nat):(l.map Int.ofNat).map d8.int=iL l:=by unfold iL;refine b9 List.map_map ?_;rfl
theorem b7u {ys:List Int} {l:List Nat} (hp:ys.Pairwise (· < ·)) (hm:∀ i,i∈ys↔i∈l.map Int.ofNat):∃ zs:List Nat,ys.map d8.int=iL zs/\zs.Nodup/\∀ c,c∈zs↔c∈l:=by
 have e:(ys.map Int.toNat).map Int.ofNat=ys:=by
  refine b9 List.map_map ?_
  conv=>rhs;rw [<- List.map_id ys]
  refine List.map_congr_left λy hy=>?_;refine i9 (List.mem_map.mp ((hm y).mp hy)) λk _ q4=>?_;subst q4;rfl
 refine ⟨ys.map Int.toNat,by refine t6 (a5k ..) ?_;refine b9 e ?_;rfl,?_,λc=>?_⟩
 ·have h2:((ys.map Int.toNat).map Int.ofNat).Nodup:=by
   refine b9 e ?_;exact List.Pairwise.imp (λh=>by exact c3f h) hp
  unfold List.Nodup at h2 ⊢;rw [List.pairwise_map] at h2;exact List.Pairwise.imp (λh e=>h (by refine b9 e ?_;rfl)) h2
 ·have:=hm (Int.ofNat c);constructor
  ·intro h;have h1:Int.ofNat c∈ys:=by refine t6 e ?_;exact List.mem_map.mpr ⟨c,h,rfl⟩
   refine i9 (List.mem_map.mp (this.mp h1)) λk hk e2=>?_;refine t6 (Int.ofNat.inj e2) ?_;exact hk
  ·intro h;have h1:=this.mpr (List.mem_map.mpr ⟨c,h,rfl⟩);exact List.mem_map.mpr ⟨_,h1,rfl⟩
section
variable {F:D4} {n:Nat} {lay:Slot->Nat} {C:D0} {H:Hp} {ties:List (Nat×Nat)} {st:St} {Q:m7} {c:Char}
theorem b1o (T:Tb F) (L:G0 lay C H) (E:EG lay C {st with nd:=st.nd++[x],up:=st.up++[st.up.length],us:=st.us++[(st.up.length,[])]}) (I:C5 ties st) (D:a0o st) (sm:st.up.length < 17) (two:x.2.length<=2) (hk:∀ k∈x.2,k < st.up.length) (hs:r f7=some (.ref (lay (.eg 0)))) (hn:r G4=some (.int (st.up.length:Nat))) (hx:r D8=some (.tup (iL x.2)))
  (q:∀ lay' C' H' st',G0 lay' C' H'->EG lay' C' st'->P7 lay C lay' C'->C5 ties st'->a0o st'->st'.nd=st.nd++[x]->Q (.int (st.up.length:Nat)) H') {B:Hp->Prop} :
  (f6 (O6 [n_c] true (w5 (M6 (v8 (j7 (d7 f7) G2 (d6 (d7 y8) f4)) [y8] true (w5 (d7 D8)) B6)))
  (f6 (v7 (j7 (l6 (n7 (d7 f7) t8) (d7 n_c)) u7 (d6 (d7 G4) f4)))
  m6))
 (f6 (v7 (j7 (d7 f7) T8 (d6 (d7 G4) f4)))
 (f6 (H9 (d7 G4))
 m6))) (j5 F (n+4)) r H (λfl _ H'=>a3o fl (B H') λv=>Q v H'):=by
 have rm:=a3s I.up I.lt;have hks:x.2.map (f8 (st.up++[st.up.length]))=x.2.map (f8 st.up):=List.map_congr_left λk h=>rm k (hk k h);have o4:Ok {st with nd:=st.nd++[x],up:=st.up++[st.up.length],us:=st.us++[(st.up.length,[])]}:=⟨a4e I.up,λp hp=>by
   show p < (st.up++[st.up.length]).length;refine b9 List.length_append ?_;rcases List.mem_append.mp hp with hp | hp
   ·have:=I.lt p hp;exact c3o this
   ·have:=List.mem_singleton.mp hp;simp only [List.length_singleton];exact b9a this,by show (st.up++[st.up.length]).length<=17;refine b9 List.length_append ?_;exact sm,by show (st.nd++[x]).length<=17;refine b9 List.length_append ?_;refine b9 I.eqn ?_;exact sm,λy hy=>by
   rcases List.mem_append.mp hy with hy | hy
   ·exact I.two y hy
   ·refine b9 (List.mem_singleton.mp hy) ?_;exact two⟩
 have nod:((st.us++[(st.up.length,([]:List Nat))]).map λp=>p.1).Nodup:=by
  refine b9 List.map_append ?_;refine I9 (List.nodup_append ..) ?_;refine ⟨I.nod,by simp,λa ha b hb e=>?_⟩
  refine i9 (List.mem_map.mp ha) λp hp q1=>?_;subst q1;simp at hb;have:=I.uslt p hp;have e:p.1=b:=e;exact c4s ‹_› hb this
 refine g8 (Z6 (b1m (b39 (n:=n+2) (l:=x.2) T L E o4 rfl hs (by unfold o5;exact zo4 two) (λk h=>by show k < (st.up++[st.up.length]).length;refine b9 List.length_append ?_;exact Nat.lt_succ_of_lt (hk k h)) (a4R λR hR=>f9 hx (hR H (.refl _))) λH5 b k5 hb=>?_)))
 have L5:=L.keep (k5.trans (.new (o:=.list (iL (x.2.map (f8 (st.up++[st.up.length]))))) hb));refine ⟨b,(x.2.map (f8 st.up)).map Int.ofNat,rfl,?_,λi hi=>?_,λys hp hm d hd=>?_⟩
 ·refine b9 l9 ?_;refine b9 (a5k ..) ?_;refine t6 hks ?_;rfl
 ·refine i9 (List.mem_map.mp hi) λc' hc' q2=>?_;subst q2;refine i9 (List.mem_map.mp hc') λk hk' q3=>?_;subst q3;have:=C7 I.up I.lt k (hk k hk');exact ⟨Int.natCast_nonneg _,by show ((f8 st.up k:Nat):Int) < 17;exact b9h sm this⟩
 refine B2 (b7u hp hm) λzs ez zn zm=>?_;refine b9 ez ?_;have L6:=L5.keep (.new (o:=.list (iL zs)) hd);have fr:∀ p∈st.us,lay (.us p.1)≠d:=λp hp e=>by
  have:=L5.at_ _ _ (E.cu p (List.mem_append_left _ hp));rw [e] at this;have hd:Hp.set H5 b (.list (iL (x.2.map (f8 (st.up++[st.up.length]))))) d=none:=hd;rw [hd] at this;cases this
 have hin:∀ i c',zs[i]?=some c'->∃ u,(c',u)∈st.us:=λi c' hi=>by
  refine i9 (List.mem_map.mp ((zm c').mp (c7w hi))) λk hk' q5=>?_;subst q5;exact I.has _ (C7 I.up I.lt k (hk k hk')) (I5 I.up (hk k hk'))
 have I':=b0E I sm two hk zn zm;have zl:zs.length<=2:=by
  have:=a7u zn (m:=x.2.map (f8 st.up)) λa ha=>(zm a).mp ha;rw [List.length_map] at this;exact b6H two this
 refine .inr (.inr (.inl ⟨d,iL zs,rfl,l9,_,R7 (src:=.lst d) (iL zs) (λi r1 H1=>∃ C1,G0 lay C1 H1/\EG lay C1 {st with nd:=st.nd++[x],up:=st.up++[st.up.length],us:=Y5 st.up.length (st.us++[(st.up.length,[])]) (zs.take i)}/\P7 lay C lay C1/\H1 d=some (.list (iL zs))/\r1 f7=some (.ref (lay (.eg 0)))/\r1 G4=some (.int (st.up.length:Nat))) (λi r1 H1 hI=>?_) (λr1 H1 hI=>?_) (λi v r1 H1 hv hI W hW _=>?_) ((iL zs).length+1) 0 _ _ (zo0) (Nat.zero_le _) ⟨C,L6,E,.refl _ _,l9,hs,hn⟩⟩))
 ·refine b8h hI λC1 _ _ _ h _=>?_;clear hI;exact ⟨_,h,rfl⟩
 ·refine a0R hI λC1 L7 E7 s7 h hs hn=>?_;clear hI;rw [m9,List.take_length] at E7;refine g8 (D6 (u6 (by refine b9 T.hlook ?_;rfl) (L7.at_ _ _ E7.c0) (L7.at_ _ _ E7.c1) rfl (o9 hs) (d9 (f9 hn (g9 (a7i (n:=n) (st:=st.added x zs) (x:=x) T L7 E7 I' ?_ (a8i I D) ?_ λlay' C' H' st' l e s i d nd mw=>?_))))))
  ·show (st.nd++[x])[st.up.length]?=some x;refine t6 I.eqn ?_;simp
  ·have:=I.km;show st.kn.length+st.wt.length+1<=(st.up++[st.up.length]).length+34 * st.m;refine b9 List.length_append ?_;simp only [List.length_singleton];exact b98 this
  ·refine g8 (E0 (f9 hn ?_));exact q lay' C' H' st' l e (s7.trans s) i d nd
 ·refine a0R hI λC1 L7 E7 s7 h hs hn=>?_;clear hI;obtain ⟨c',hz,rfl⟩:∃ c',zs[i]?=some c'/\v=.int (c':Nat):=by
   unfold iL at hv;rw [List.getElem?_map] at hv;refine i9 (Option.map_eq_some_iff.mp hv) λc' h1 h2=>?_;exact ⟨c',h1,h2.symm⟩
  refine eE (hin i c' hz) λu0 hu0=>?_;refine B2 (a1S (n:=st.up.length) (zs:=zs.take i) (List.mem_append_left [(st.up.length,[])] hu0)) λu hu _ _=>?_;have nod':((Y5 st.up.length (st.us++[(st.up.length,[])]) (zs.take i)).map λp=>p.1).Nodup:=by
   have:=a11 (n:=st.up.length) (zs:=zs.take i) (us:=st.us++[(st.up.length,[])]);refine b9 this ?_;exact nod
  refine eE E7.c16 λep x16=>?_;have iu:=E7.cu _ hu;have ul:u.length<=1000:=by
   have h1:=a1Y hu;have h2:=a5U (n:=st.up.length) (zs:=zs.take i) nod;rw [List.map_append,List.sum_append] at h2;have e:((([(st.up.length,[])]:List (Nat×List Nat)).map λp=>p.2.length).sum)=0:=rfl;have h3:=I.usum;have h4:(zs.take i).length<=2:=Nat.le_trans (List.length_take_le' _ _) zl;have h1:u.length<=_:=h1;exact b9D sm h2 e h3 h4 h1
  have hs':(r1.set n_c (.int (c':Nat))) f7=some (.ref (lay (.eg 0))):=hs;have hn':(r1.set n_c (.int (c':Nat))) G4=some (.int (st.up.length:Nat)):=hn;refine ⟨_,A1,g8 (D6 (J9 (λ_ q=>C9 (M4 L7 E7.toHd (o9 hs') rfl (f9 rfl (J0 (L7.at_ _ _ x16) (a5V c') (b5j nod' hu) q)))) (L7.at_ _ _ iu) (d9 (f9 hn' (g9 (K3 (L7.at_ _ _ iu) ?_ ?_))))))⟩
  ·refine b9 (m9 ..) ?_;show u.length<=_;unfold o5;exact c52 ul
  ·refine b9 a6H ?_;refine eA (b8g L7 E7 nod' (i:=st.up.length) hu) λL8 E8=>?_;refine hW _ _ ⟨_,L8,?_,s7.trans ⟨λ_=>rfl,λ_=>rfl,λ_=>rfl⟩,?_,hs',hn'⟩
   ·refine b9 (a8W hz) ?_;exact E8
   ·refine b9 (A0 λe=>fr _ hu0 e.symm) ?_;exact h
theorem hadd (T:Tb F) (L:G0 lay C H) (E:EG lay C st) (I:C5 ties st) (D:a0o st) (sm:st.up.length < 17) (hc:x.1=String.singleton c) (c1:97<=c.toNat) (c2:c.toNat<=122) (two:x.2.length<=2) (hk:∀ k∈x.2,k < st.up.length)
  (q0:∀ p,st.nd[p]?=some x->Q (.int (p:Nat)) H)
  (q1:∀ lay' C' H' st',G0 lay' C' H'->EG lay' C' st'->P7 lay C lay' C'->C5 ties st'->a0o st'->st'.nd=st.nd++[x]->Q (.int (st.nd.length:Nat)) H') :
  (j5 F (n+5)).call o6 a2j [.ref (lay (.eg 0)),.str x.1,.tup (iL x.2)] H Q:=by
 have o:=I.toOk;refine t0 T.hadd rfl (g8 (z0 (u6 (by refine b9 T.btake ?_;rfl) (L.at_ _ _ E.c2) (L.at_ _ _ E.c3) rfl (λ_ q=>M4 L E.toHd (o9 rfl) rfl q) (d9 (f9 rfl (d9 (f9 rfl (g9 ?_))))))))
 cases e:w9 st.nd.zipIdx x with
 | some p =>
  have hp:=b57 e;have pl:p < st.up.length:=I.nlt hp;refine a94 (n:=n+3) T L E two e (B7 (g8 (a1a (G1 (f9 rfl (u6 (by refine b9 T.usize ?_;rfl) (L.at_ _ _ E.c8) (L.at_ _ _ E.c9) rfl (λ_ q=>M4 L E.toHd (o9 rfl) rfl q) (g9 (usize (n:=n+3) T L E o (a4l ⟨λ_=>g8 (E0 (f9 rfl ?_)),λt=>?_⟩)))))))))
  ·exact q0 p hp
  ·have:=of_decide_eq_false t;exact (c0w pl this).elim
 | none =>
  refine b0V (n:=n+1) T L E (by refine b9 I.eqn ?_;exact sm) hc c1 c2 two (by refine b9 I.eqn ?_;exact hk) e λC1 H1 L1 E1 s1=>B7 ?_
  have o1:Ok (st.node x):=⟨o.up,o.lt,o.small,by show (st.nd++[x]).length<=17;refine b9 List.length_append ?_;refine b9 I.eqn ?_;exact sm,λy hy=>by
   rcases List.mem_append.mp hy with hy | hy
   ·exact o.two y hy
   ·refine b9 (List.mem_singleton.mp hy) ?_;exact two⟩
  refine g8 (a1a (G1 (f9 rfl (u6 (by refine b9 T.usize ?_;rfl) (L1.at_ _ _ E1.c8) (L1.at_ _ _ E1.c9) rfl (λ_ q=>M4 L1 E1.toHd (o9 rfl) rfl q) (g9 (usize (n:=n+3) T L1 E1 o1 (a4l ⟨λt=>?_,λ_=>a9i ?_⟩)))))))
  ·have t:=of_decide_eq_true t;have:((st.nd.length:Nat):Int) < (st.up.length:Nat):=t;have:=I.eqn;exact (c3j ‹_› this).elim
  refine g8 (D6 (u6 (by refine b9 T.umake ?_;rfl) (L1.at_ _ _ E1.c8) (L1.at_ _ _ E1.c9) rfl (λ_ q=>M4 L1 E1.toHd (o9 rfl) rfl q) (g9 (umake (n:=n+3) T L1 E1 o1 λlay2 C2 H2 L2 E2 s2=>?_))))
  refine eE E2.c16 λep x16=>?_;have self2:lay (.eg 0)=lay2 (.eg 0):=(s2.eg 0).symm;have hkey:∀ p∈st.us,p.1≠st.up.length:=λp hp=>Nat.ne_of_lt (I.uslt p hp);have hul:(W2 lay2 st.us).length<=o5:=by unfold W2;refine b9 (c7x ..) ?_;have:=I.ulen;unfold o5;exact c3B sm this
  have en:st.nd.length=st.up.length:=I.eqn;rw [en] at *;refine g8 (z0 (X6 (g9 λa ha=>?_)));refine a3R (b8o L2 E2 (ep':=dep (W2 lay2 st.us) (.int (st.up.length:Nat)) ep) x16 hkey ha) λL3 E3 y16 L4 E4=>?_;refine a0r (λ_ q=>M4 L3 E3 (o9 (congrArg (λa=>some (d8.ref a)) self2)) rfl q) (o9 rfl) (L3.at_ _ _ y16) (a5V _) hul ?_;have s4:=(s1.trans s2).trans (⟨λ_=>rfl,λ_=>rfl,λ_=>rfl⟩:P7 lay2 C2 (I7 lay2 (.us st.up.length) a) (upd (upd C2 (.us st.up.length) (.list [])) (.eg 16) (.dict (C6 (W2 lay2 (st.node x).made.us) (.int (st.up.length:Nat)) (.ref a)) (dep (W2 lay2 st.us) (.int (st.up.length:Nat)) ep))))
  refine b1o (B:=Q .none) T L4 E4 I D sm two hk (congrArg (λa=>some (d8.ref a)) (s4.eg 0).symm) rfl rfl λlay' C' H' st' l e s i d nd=>?_;have:=q1 lay' C' H' st' l e (s4.trans s) i d nd;rw [I.eqn] at this;exact this
end
end
variable {c:Nat}
section
section
variable {F:D4} {n:Nat} {lay:Slot->Nat} {C:D0} {H:Hp} {ties:List (Nat×Nat)} {st:St} {Q:m7}
theorem a3u {t:Nat×Nat} {E:Nat->Nat->Prop} (c:a1g nd (ties++[t]) E):a1g nd ties E:=⟨c.refl,c.symm,c.trans,λp hp=>c.tie p (List.mem_append_left _ hp),c.node⟩
theorem b0F (T:Tb F) (L:G0 lay C H) (E:EG lay C st) (I:C5 ties st) (D:a0o st) (tl:ties.length < 3) {a b:Nat} {why:d8} (ha:a < st.up.length) (hb:b < st.up.length)
  (q:∀ lay' C' H' st' v,G0 lay' C' H'->EG lay' C' st'->P7 lay C lay' C'->C5 (ties++[(a,b)]) st'->a0o st'->st'.nd=st.nd->Q v H'):(j5 F (n+4)).call o6 R9 [.ref (lay (.eg 0)),.int (a:Nat),.int (b:Nat),why] H Q:=by
 have tl2:(ties++[(a,b)]).length=ties.length+1:=List.length_append;refine hmerge T L E I.toOk I.us ha hb (λe C' H' l e' s=>?_) λe ug hg lay' C' H' l e' s=>?_
 ·refine q _ _ _ _ _ l e' s ?_ D rfl;exact {I with
   sound:=λE cE=>I.sound E (a3u cE)
   told:=λp hp=>by
    rcases List.mem_append.mp hp with hp | hp
    ·exact I.told p hp
    ·refine b9 (List.mem_singleton.mp hp) ?_;exact e
   tlt:=λp hp=>by
    rcases List.mem_append.mp hp with hp | hp
    ·exact I.tlt p hp
    ·refine b9 (List.mem_singleton.mp hp) ?_;exact ⟨ha,hb⟩
   em:=by have:=I.em;refine b9 tl2 ?_;show st.e+1<=st.m+_;exact c4d this
   tl:=by refine b9 tl2 ?_;exact tl}
 ·have ra:=N6 I.up a ha;have rb:=N6 I.up b hb;have la:=C7 I.up I.lt a ha;have lb:=C7 I.up I.lt b hb;have kg:min (f8 st.up a) (f8 st.up b) < max (f8 st.up a) (f8 st.up b):=by exact c5k e
  have hk:st.up[min (f8 st.up a) (f8 st.up b)]?=some (min (f8 st.up a) (f8 st.up b)):=by
   rcases Nat.le_total (f8 st.up a) (f8 st.up b) with z | z
   ·refine b9 (Nat.min_eq_left z) ?_;exact ra
   ·refine b9 (Nat.min_eq_right z) ?_;exact rb
  have hg':st.up[max (f8 st.up a) (f8 st.up b)]?=some (max (f8 st.up a) (f8 st.up b)):=by
   rcases Nat.le_total (f8 st.up a) (f8 st.up b) with z | z
   ·refine b9 (Nat.max_eq_right z) ?_;exact rb
   ·refine b9 (Nat.max_eq_left z) ?_;exact ra
  refine eE (I.has _ (b8i lb) (a17 I.up hk)) λuk huk=>?_;have why:∀ E,a1g st.nd (ties++[(a,b)]) E->E (min (f8 st.up a) (f8 st.up b)) (max (f8 st.up a) (f8 st.up b)):=λE cE=>by
   have h:E a b:=cE.tie (a,b) (List.mem_append_right _ (List.mem_singleton.mpr rfl));have h:=cE.trans _ _ _ (cE.symm _ _ (I.toR (a3u cE) ha)) (cE.trans _ _ _ h (I.toR (a3u cE) hb));rcases Nat.le_total (f8 st.up a) (f8 st.up b) with z | z
   ·refine b9 (Nat.min_eq_left z) ?_;refine b9 (Nat.max_eq_right z) ?_;exact h
   ·refine b9 (Nat.min_eq_right z) ?_;refine b9 (Nat.max_eq_left z) ?_;exact cE.symm _ _ h
  refine q _ _ _ _ _ l e' s (a68 I hk hg' kg huk hg why (λ_ h=>List.mem_append_left _ h) (λp hp=>?_) (b7V tl2) (c5r tl tl2)) (a69 I.toOk I.kid I.eqn I.knlt I.nod I.use hk hg' kg hg (λp j hX=>hX.elim) D) rfl;rcases List.mem_append.mp hp with hp | hp
  ·exact .inl hp
  ·refine b9 (List.mem_singleton.mp hp) ?_;refine .inr ⟨⟨ha,hb⟩,?_,?_⟩ <;> dsimp only <;> omega
end
section
variable {K:Calls} {r:En} {lay:Slot->Nat} {C:D0} {H:Hp} {Q:C0}
theorem a23 {sI sN:Slot} {c x:Nm} {Q:a3M} (L:G0 lay C H) (he:∀ Q:m7,Q (.ref (lay sI)) H->e K r H Q) (h1:C sI=some (.inst c (lay sN))) (h2:C sN=some (.ns fs)) (hl:fs.length<=1000)
  (q:G0 lay (upd C sN (.ns (a0f fs x v))) (H.set (lay sN) (.ns (a0f fs x v)))->Q r (H.set (lay sN) (.ns (a0f fs x v)))):P8 e x K v r H Q :=
 he _ ⟨c,_,fs,⟨_,rfl,L.at_ _ _ h1,L.at_ _ _ h2⟩,hl,q (L.put h2)⟩
theorem R5 {b:Bv} {sI sN:Slot} {c x:Nm} (s:Slot) (L:G0 lay C H) (hs:r f7=some (.ref (lay sI))) (h1:C sI=some (.inst c (lay sN))) (h2:C sN=some (.ns fs)) (hl:fs.length<=1000) (n1:sI≠s) (n2:sN≠s)
  (q:∀ a H',G0 (I7 lay s a) (upd (upd C s (.list [])) sN (.ns (a0f fs x (.ref a)))) H'->b K r H' Q):f6 (s6 (P8 (d7 f7) x) (J5 f4)) b K r H Q:=by
 refine g8 (z0 (X6 (g9 λa ha=>?_)));have L1:=L.take (s:=s) (o:=.list []) ha;refine a23 (sI:=sI) (sN:=sN) (c:=c) (fs:=fs) L1 (o9 (by refine b9 (P0 n1) ?_;exact hs)) ((j3 n1).trans (by refine b9 (P0 n2) ?_;exact h1)) ((j3 n2).trans h2) hl λL2=>?_
 exact q a _ L2
theorem a4u {b:Bv} {sI sN:Slot} {c x:Nm} (s:Slot) (L:G0 lay C H) (hs:r f7=some (.ref (lay sI))) (h1:C sI=some (.inst c (lay sN))) (h2:C sN=some (.ns fs)) (hl:fs.length<=1000) (n1:sI≠s) (n2:sN≠s)
  (q:∀ a H',G0 (I7 lay s a) (upd (upd C s (.dict [] 0)) sN (.ns (a0f fs x (.ref a)))) H'->b K r H' Q):f6 (s6 (P8 (d7 f7) x) a1c) b K r H Q:=by
 refine g8 (z0 (λa ha=>?_));have L1:=L.take (s:=s) (o:=.dict [] 0) ha;refine a23 (sI:=sI) (sN:=sN) (c:=c) (fs:=fs) L1 (o9 (by refine b9 (P0 n1) ?_;exact hs)) ((j3 n1).trans (by refine b9 (P0 n2) ?_;exact h1)) ((j3 n2).trans h2) hl λL2=>?_
 exact q a _ L2
end
structure Ti (F:D4):Prop where
 bank:F E6 a7D=some a1b
 uni:F v6 a7D=some a0h
 heap:F o6 a7D=some a1f
 gram:F w7 a7D=some Y6
section
variable {F:D4} {n:Nat} {lay:Slot->Nat} {C:D0} {H:Hp} {Q:m7}
theorem b37 (T:Ti F) (L:G0 lay C H) (q:∀ a d x4 x5 x6 x7 H',G0 (I7 (I7 (I7 (I7 (I7 (I7 lay (.eg 3) d) (.eg 2) a) (.eg 4) x4) (.eg 5) x5) (.eg 6) x6) (.eg 7) x7)
  (upd (upd (upd (upd (upd (upd (upd (upd (upd (upd C (.eg 3) (.ns [])) (.eg 2) (.inst E6 d)) (.eg 4) (.list [])) (.eg 3) (.ns [(K9,.ref x4)])) (.eg 5) (.dict [] 0)) (.eg 3) (.ns [(K9,.ref x4),(D8,.ref x5)])) (.eg 6) (.list [])) (.eg 3) (.ns [(K9,.ref x4),(D8,.ref x5),(W8,.ref x6)])) (.eg 7) (.list [])) (.eg 3) (.ns [(K9,.ref x4),(D8,.ref x5),(W8,.ref x6),(a1A,.ref x7)])) H'->Q (.ref a) H') :
  b04 (j5 F (n+1)) E6 [] H Q:=λa d ha hd hne=>by
 have L1:=L.take (s:=.eg 3) (o:=.ns []) hd;have L2:=L1.take (s:=.eg 2) (o:=.inst E6 d) (a:=a) (by refine b9 (A0 hne) ?_;exact ha)
 refine t0 T.bank rfl ?_;refine R5 (sI:=.eg 2) (sN:=.eg 3) (.eg 4) L2 rfl rfl rfl (c7v rfl) (by decide) (by decide) λx4 H4 L4=>?_
 refine a4u (sI:=.eg 2) (sN:=.eg 3) (.eg 5) L4 rfl rfl rfl (c7v rfl) (by decide) (by decide) λx5 H5 L5=>?_
 refine R5 (sI:=.eg 2) (sN:=.eg 3) (.eg 6) L5 rfl rfl rfl (c7v rfl) (by decide) (by decide) λx6 H6 L6=>?_
 refine R5 (sI:=.eg 2) (sN:=.eg 3) (.eg 7) L6 rfl rfl rfl (c7v rfl) (by decide) (by decide) λx7 H7 L7=>?_
 exact ⟨rfl,q a d x4 x5 x6 x7 H7 L7⟩
theorem b5p (T:Ti F) (L:G0 lay C H) (q:∀ a d x4 x5 x6 H',G0 (I7 (I7 (I7 (I7 (I7 lay (.eg 9) d) (.eg 8) a) (.eg 10) x4) (.eg 11) x5) (.eg 12) x6)
  (upd (upd (upd (upd (upd (upd (upd (upd C (.eg 9) (.ns [])) (.eg 8) (.inst v6 d)) (.eg 10) (.list [])) (.eg 9) (.ns [(t8,.ref x4)])) (.eg 11) (.list [])) (.eg 9) (.ns [(t8,.ref x4),(w8,.ref x5)])) (.eg 12) (.list [])) (.eg 9) (.ns [(t8,.ref x4),(w8,.ref x5),(U9,.ref x6)])) H'->Q (.ref a) H') :
  b04 (j5 F (n+1)) v6 [] H Q:=λa d ha hd hne=>by
 have L1:=L.take (s:=.eg 9) (o:=.ns []) hd;have L2:=L1.take (s:=.eg 8) (o:=.inst v6 d) (a:=a) (by refine b9 (A0 hne) ?_;exact ha)
 refine t0 T.uni rfl ?_;refine R5 (sI:=.eg 8) (sN:=.eg 9) (.eg 10) L2 rfl rfl rfl (c7v rfl) (by decide) (by decide) λx4 H4 L4=>?_
 refine R5 (sI:=.eg 8) (sN:=.eg 9) (.eg 11) L4 rfl rfl rfl (c7v rfl) (by decide) (by decide) λx5 H5 L5=>?_
 refine R5 (sI:=.eg 8) (sN:=.eg 9) (.eg 12) L5 rfl rfl rfl (c7v rfl) (by decide) (by decide) λx6 H6 L6=>?_
 exact ⟨rfl,q a d x4 x5 x6 H6 L6⟩
end
end
variable {many:Nat}
section
noncomputable def st0:St:=⟨[],[],[],[],[],0,0,0⟩
theorem c6L:C5 [] st0:=by
 refine {toOk:=⟨⟨λi p e=>by cases e⟩,λp hp=>(by cases hp),Nat.zero_le _,Nat.zero_le _,λx hx=>(by cases hx)⟩,eqn:=rfl,kid:=λx hx=>(by cases hx),knlt:=λp hp=>(by cases hp),knk:=λp hp=>(by cases hp),kn:=λp hp=>(by cases hp),use:=λi x hx=>(by cases hx),sound:=λE _ a b ha=>absurd ha (Nat.not_lt_zero _),told:=λp hp=>(by cases hp),tlt:=λp hp=>(by cases hp),wlt:=λi hi=>(by cases hi),ult:=λp hp=>(by cases hp),uslt:=λp hp=>(by cases hp),nod:=List.nodup_nil,has:=λc hc=>absurd hc (Nat.not_lt_zero _),ulen:=Nat.le_refl _,usum:=Nat.le_refl _,mr:=rfl,wm:=Nat.le_refl _,km:=Nat.le_refl _,fm:=rfl,em:=Nat.le_refl _,tl:=Nat.zero_le _}
theorem c3F:a0o st0:=λi x hx=>by cases hx
section
variable {F:D4} {n:Nat} {lay:Slot->Nat} {C:D0} {H:Hp} {Q:m7}
theorem b23 (T:Ti F) (L:G0 lay C H) (q:∀ lay' C' H',G0 lay' C' H'->EG lay' C' st0->(∀ k,lay' (.ow k)=lay (.ow k))->(∀ k,C' (.ow k)=C (.ow k))->Q (.ref (lay' (.eg 0))) H') :
  b04 (j5 F (n+2)) o6 [] H Q:=λa d ha hd hne=>by
 have L1:=L.take (s:=.eg 1) (o:=.ns []) hd;have L2:=L1.take (s:=.eg 0) (o:=.inst o6 d) (a:=a) (by refine b9 (A0 hne) ?_;exact ha)
 refine t0 T.heap rfl (g8 (z0 (a9j (g9 (b37 T L2 λb2 b3 b4 b5 b6 b7 H3 L3=>?_)))));refine a23 (sI:=.eg 0) (sN:=.eg 1) (c:=o6) (fs:=[]) L3 (o9 rfl) rfl rfl (c7v rfl) λL4=>?_;refine g8 (z0 (a9j (g9 (b5p T L4 λu8 u9 u10 u11 u12 H5 L5=>?_))));refine a23 (sI:=.eg 0) (sN:=.eg 1) (c:=o6) (fs:=[(V8,.ref b2)]) L5 (o9 rfl) rfl rfl (c7v rfl) λL6=>?_;refine R5 (sI:=.eg 0) (sN:=.eg 1) (c:=o6) (fs:=[(V8,.ref b2),(K0,.ref u8)]) (.eg 13) L6 rfl rfl rfl (c7v rfl) (by decide) (by decide) λx13 H13 L13=>?_
 refine R5 (sI:=.eg 0) (sN:=.eg 1) (c:=o6) (fs:=[(V8,.ref b2),(K0,.ref u8),(W6,.ref x13)]) (.eg 14) L13 rfl rfl rfl (c7v rfl) (by decide) (by decide) λx14 H14 L14=>?_
 refine a4u (sI:=.eg 0) (sN:=.eg 1) (c:=o6) (fs:=[(V8,.ref b2),(K0,.ref u8),(W6,.ref x13),(Y7,.ref x14)]) (.eg 15) L14 rfl rfl rfl (c7v rfl) (by decide) (by decide) λx15 H15 L15=>?_
 refine a4u (sI:=.eg 0) (sN:=.eg 1) (c:=o6) (fs:=[(V8,.ref b2),(K0,.ref u8),(W6,.ref x13),(Y7,.ref x14),(a2a,.ref x15)]) (.eg 16) L15 rfl rfl rfl (c7v rfl) (by decide) (by decide) λx16 H16 L16=>?_
 refine R5 (sI:=.eg 0) (sN:=.eg 1) (c:=o6) (fs:=[(V8,.ref b2),(K0,.ref u8),(W6,.ref x13),(Y7,.ref x14),(a2a,.ref x15),(t8,.ref x16)]) (.eg 17) L16 rfl rfl rfl (c7v rfl) (by decide) (by decide) λx17 H17 L17=>?_
 exact ⟨rfl,q _ _ _ L17 {c0:=rfl,c1:=rfl,c2:=rfl,c3:=rfl,c8:=rfl,c9:=rfl,c4:=rfl,c5:=⟨0,rfl⟩,c6:=⟨[],rfl,rfl⟩,c7:=⟨[],rfl,rfl⟩,c10:=rfl,c11:=rfl,cl:=λi hi=>absurd hi (Nat.not_lt_zero _),c12:=⟨[],rfl,rfl⟩,c13:=⟨[],rfl,rfl⟩,c14:=⟨[],rfl,rfl⟩,c15:=⟨0,rfl⟩,c16:=⟨0,rfl⟩,cu:=λp hp=>(by cases hp),c17:=rfl} (λ_=>rfl) (λ_=>rfl)⟩
end
end
variable {t:d8}
section
section
variable {K:Calls} {r:En} {H:Hp}
theorem a5E (n:Nat) (l:List Int):Y8 n (l.map d8.int)=true:=by
 induction l with
 | nil=>rfl
 | cons a l ih=>exact Bool.and_eq_true_iff.mpr ⟨by cases n <;> rfl,ih⟩
theorem b5A {i:Int} {Q:N3} (h:H a=some (.list (l.map d8.int))) (qt:i∈l->Q true H) (qf:i∉l->Q false H):X8 .isin (.int i) (.ref a) H Q:=by
 have e:d8.int i∈l.map d8.int↔i∈l:=by
  refine I9 (List.mem_map ..) ?_;exact ⟨λ⟨j,hj,e⟩=>by injection e with e;refine t6 e ?_;exact hj,λh=>⟨i,h,rfl⟩⟩
 have key:∀ inst:Decidable (d8.int i∈l.map d8.int),Q (@decide _ inst) H:=λinst=>by
  by_cases z:i∈l
  ·refine b9 (decide_eq_true (e.mpr z)) ?_;exact qt z
  ·refine b9 (decide_eq_false (λw=>z (e.mp w))) ?_;exact qf z
 exact .inr (.inr (.inl ⟨a,_,rfl,h,rfl,a5E _ l,key _⟩))
theorem b7l (h:e K r H λv H1=>b7j v H1 λys=>Q (.int ys.length) H1):a4a e K r H Q:=h
end
structure Tg (F:D4):Prop where
 cls:F w7 X9=some Z3
 acc:F w7 T4=some a0g
noncomputable def Y2 (st:St) (s:String) (cs:List Nat):Int:=match w9 st.kn (s,cs.map (f8 st.up)) with
 | some p=>(f8 st.up p:Nat)
 | none=>-1
noncomputable def J2 (st:St):Nat->d8->Int
 | k+1,.tup (.str op :: ps)=>if (-1:Int)∈ps.map (J2 st k) then -1 else Y2 st op ((ps.map (J2 st k)).map Int.toNat)
 | _,_=>-1
noncomputable def tyN:Nat->d8->Bool
 | k+1,.tup (.str _ :: ps)=>decide (ps.length<=3)&&ps.all (tyN k)
 | _,_=>false
section
variable {F:D4} {n:Nat} {lay:Slot->Nat} {C:D0} {H:Hp} {ties:List (Nat×Nat)} {st:St} {Q:m7}
theorem hseek (T:Tb F) (L:G0 lay C H) (E:EG lay C st) (I:C5 ties st) {b:Nat} {s:String} {cs:List Nat} (hb:H b=some (.list (iL cs))) (hl:cs.length<=3) (hk:∀ k∈cs,k < st.up.length) (q:∀ H',m5 H H'->Q (.int (Y2 st s cs)) H'):(j5 F (n+3)).call o6 a6q [.ref (lay (.eg 0)),.str s,.ref b] H Q:=by
 refine eE E.c15 λep k1=>?_;refine t0 T.hseek rfl (g8 (z0 (b7a (λ_ q=>M4 L E.toHd (o9 rfl) rfl q) (L.at_ _ _ k1) (d9 (I4 (D1 (d9 (f9 rfl (g9 (O8 (d9 (b39 (n:=n) (l:=cs) T L E I.toOk rfl rfl (by unfold o5;exact b67 hl) hk (a82 λR hR=>f9 rfl (hR b H (.refl _) hb)) λH' a k ha=>g9 (a1J l9 ?_ (a2u ?_ ?_))))))))))))))
 ·refine b9 (m9 ..) ?_;refine b9 (c7x ..) ?_;unfold o5;exact b67 hl
 ·refine b9 (m9 ..) ?_;refine b9 (c7x ..) ?_;show 1+_<=_;unfold o5;exact c0A hl
 have kk:m5 H (H'.set a (.list (iL (cs.map (f8 st.up))))):=k.trans (.new ha);have L1:=L.keep kk;refine d9 (a5J (m8 ⟨1,rfl,g9 (b7B (k:=r8 (s,cs.map (f8 st.up))) (L1.at_ _ _ k1) (a4M _) ?_)⟩));refine b9 a0P ?_;unfold Y2 at q;cases e:w9 st.kn (s,cs.map (f8 st.up)) with
 | none =>
  rw [e] at q;refine B7 (g8 (E0 (a5Q (G1 (f9 (v:=.int (-1)) rfl (m8 (a4l ⟨λ_=>a5J (m8 ⟨1,rfl,?_⟩),λt=>?_⟩)))))))
  ·exact q _ kk
  ·have:=of_decide_eq_false t;exact (c5W this).elim
 | some p =>
  rw [e] at q;have hp:p < st.up.length:=I.knlt _ (U0 e);refine B7 (g8 (E0 (a5Q (G1 (f9 (v:=.int (p:Nat)) rfl (m8 (a4l ⟨λt=>?_,λ_=>?_⟩)))))))
  ·have:=of_decide_eq_true t;exact (c1W this).elim
  ·refine u6 (by refine b9 T.hfind ?_;rfl) (L1.at_ _ _ E.c0) (L1.at_ _ _ E.c1) rfl (o9 rfl) (d9 (f9 (v:=.int (p:Nat)) rfl (g9 (hfind (n:=n) T L1 E I.toOk hp ?_))))
   exact q _ kk
theorem b2R (I:C5 ties st) (s:String) (cs:List Nat):Y2 st s cs=-1\/∃ c,c < st.up.length/\Y2 st s cs=(c:Nat):=by
 unfold Y2;cases e:w9 st.kn (s,cs.map (f8 st.up)) with
 | none=>exact .inl rfl
 | some p=>exact .inr ⟨_,C7 I.up I.lt p (I.knlt _ (U0 e)),rfl⟩
theorem a6Q (I:C5 ties st) (k:Nat) (t:d8):J2 st k t=-1\/∃ c,c < st.up.length/\J2 st k t=(c:Nat):=by
 unfold J2
 split
 ·split
  ·exact .inl rfl
  ·exact b2R I _ _
 ·exact .inl rfl
theorem c60 (T:Tb F) (G:Tg F) (E:EG lay C st) (I:C5 ties st) {g gd:Nat}:∀ (k:Nat) (t:d8) (H:Hp) (Q:m7),G0 lay C H->H g=some (.inst w7 gd)->H gd=some (.ns [(t7,.ref (lay (.eg 0)))])->tyN k t=true->(∀ H',m5 H H'->Q (.int (J2 st k t)) H')->(j5 F (n+k+3)).call w7 X9 [.ref g,t] H Q:=by
 intro k;induction k with
 | zero=>intro t H Q _ _ _ ht _;simp [tyN] at ht
 | succ k ih =>
  intro t H Q L h1 h2 ht q;obtain ⟨op,ps,rfl,hl,hps⟩:∃ op ps,t=.tup (.str op :: ps)/\ps.length<=3/\∀ p∈ps,tyN k p=true:=by
   unfold tyN at ht
   split at ht
   ·rename_i k' op ps e;obtain rfl:k=k':=by simpa using e
    rw [Bool.and_eq_true] at ht;exact ⟨op,ps,rfl,of_decide_eq_true ht.1,λp hp=>(List.all_eq_true.mp ht.2) p hp⟩
   ·cases ht
  refine t0 (n:=n+k+3) G.cls rfl (g8 (z0 (a0l (l:=ps) (g:=λv=>some (.int (J2 st k v))) (by unfold o5;exact b67 hl) (a4R λR hR=>a51 (f9 rfl (m8 (a12 (v:=.str op) (by unfold o5;exact b4E hl) (hR H (.refl _)))))) (λv hv H' kp P hP=>?_) λH' a kp ha=>B7 ?_)))
  ·exact N2 (u6 (by refine b9 G.cls ?_;rfl) (kp _ _ h1) (kp _ _ h2) rfl (o9 rfl) (d9 (f9 rfl (g9 (ih v H' _ (L.keep kp) (kp _ _ h1) (kp _ _ h2) (hps v hv) λH'' k'=>hP H'' k')))))
  have e1:ps.filterMap (λv=>some (d8.int (J2 st k v)))=(ps.map (J2 st k)).map d8.int:=by
   refine b9 List.map_map ?_;refine b9 List.filterMap_eq_map' ?_;rfl
  refine b9 e1 ?_;have kk:m5 H (H'.set a (.list ((ps.map (J2 st k)).map d8.int))):=kp.trans (.new ha);have L1:=L.keep kk;have q:∀ H',m5 H H'->Q (.int (if (-1:Int)∈ps.map (J2 st k) then -1 else Y2 st op ((ps.map (J2 st k)).map Int.toNat))) H':=q
  refine g8 (E0 (a5Q (G1 (a5J (m8 ⟨1,rfl,f9 rfl (b5A l9 (λz=>⟨λ_=>a5J (m8 ⟨1,rfl,?_⟩),(λt=>nomatch t)⟩) λz=>⟨(λt=>nomatch t),λ_=>?_⟩)⟩)))))
  ·have:=q _ kk;rw [if_pos z] at this;exact this
  ·refine u6 (by refine b9 T.hseek ?_;rfl) (L1.at_ _ _ E.c0) (L1.at_ _ _ E.c1) rfl (λ_ q=>a3h (f9 rfl (a5n (kk _ _ h1) (kk _ _ h2) rfl q))) (d9 (C9 (f9 rfl (m8 (a0T (i:=0) (x:=.str op) (by show ps.length+1<=_;unfold o5;exact b4E hl) rfl (d9 (f9 rfl (g9 (hseek (n:=n+k) (cs:=(ps.map (J2 st k)).map Int.toNat) T L1 E I ?_ ?_ ?_ λH'' k'=>?_)))))))))
   ·have e2:((ps.map (J2 st k)).map Int.toNat).map Int.ofNat=ps.map (J2 st k):=by
     refine b9 List.map_map ?_
     conv=>rhs;rw [<- List.map_id (ps.map (J2 st k))]
     refine List.map_congr_left λi hi=>?_;refine i9 (List.mem_map.mp hi) λp _ q1=>?_;subst q1;rcases a6Q I k p with e | ⟨c,_,e⟩
     ·exact absurd (by refine t6 e ?_;exact hi) z
     ·show Int.ofNat (J2 st k p).toNat=J2 st k p;refine b9 e ?_;rfl
    refine b9 l9 ?_;refine t6 (a5k ..) ?_;refine b9 e2 ?_;rfl
   ·refine b9 (c7x ..) ?_;refine b9 (c7x ..) ?_;exact hl
   ·intro c hc;refine i9 (List.mem_map.mp hc) λi hi q3=>?_;subst q3;refine i9 (List.mem_map.mp hi) λp _ q2=>?_;subst q2;rcases a6Q I k p with e | ⟨c,h,e⟩
    ·exact absurd (by refine t6 e ?_;exact hi) z
    ·refine b9 e ?_;exact h
   ·have:=q _ (kk.trans k');rw [if_neg z] at this;exact this
theorem c6M (T:Tb F) (G:Tg F) (L:G0 lay C H) (E:EG lay C st) (I:C5 ties st) {g gd k i:Nat} (h1:H g=some (.inst w7 gd)) (h2:H gd=some (.ns [(t7,.ref (lay (.eg 0)))])) (ht:tyN k t=true) (hi:i < st.up.length) (q:∀ H',m5 H H'->Q (.bool (decide (J2 st k t=(f8 st.up i:Nat)))) H') :
  (j5 F (n+k+3+1)).call w7 T4 [.ref g,.int (i:Nat),t] H Q:=by
 refine t0 G.acc rfl (g8 (E0 (a6x (G1 (u6 (by refine b9 G.cls ?_;rfl) h1 h2 rfl (o9 rfl) (d9 (f9 rfl (g9 (c60 (n:=n) T G E I k t H _ L h1 h2 ht λH' k'=>?_)))))))))
 have L1:=L.keep k';refine u6 (by refine b9 T.hfind ?_;rfl) (L1.at_ _ _ E.c0) (L1.at_ _ _ E.c1) rfl (λ_ q=>a3h (f9 rfl (a5n (k' _ _ h1) (k' _ _ h2) rfl q))) (d9 (f9 rfl (g9 ?_)))
 exact hfind (n:=n+k+1) T L1 E I.toOk hi (a2D (q _ k'))
end
noncomputable def a1n (up:List Nat) (v:d8):Option d8:=match v with
 | .int i=>if up[i.toNat]?=some i.toNat then some v else none
 | _=>none
noncomputable def clss (up:List Nat):List Nat:=(List.range up.length).filter λa=>up[a]?==some a
theorem b3i:∀ l:List Nat,(iL l).filterMap (a1n up)=iL (l.filter λa=>up[a]?==some a):=by
 intro l;induction l with
 | nil=>exact rfl
 | cons a l ih =>
  show (d8.int (a:Nat) :: iL l).filterMap (a1n up)=_;by_cases h:up[a]?=some a
  ·have e:a1n up (.int (a:Nat))=some (.int (a:Nat)):=by unfold a1n;exact if_pos h
   refine b9 (List.filterMap_cons_some e) ?_;refine b9 (List.filter_cons_of_pos (by simpa using h)) ?_;refine b9 ih ?_;rfl
  ·have e:a1n up (.int (a:Nat))=none:=by unfold a1n;exact if_neg h
   refine b9 (List.filterMap_cons_none e) ?_;refine b9 (List.filter_cons_of_neg (by simpa using h)) ?_;refine b9 ih ?_;rfl
theorem a8Z {α:Type} (l:List α) (f:α->d8):(iL (List.range l.length)).filterMap (λv=>match v with | .int i=>(l[i.toNat]?).map f | _=>none)=l.map f:=by
 have e:(List.range l.length).map (λi=>l[i]?)=l.map some:=by
  refine List.ext_getElem? λi=>?_;refine b9 List.getElem?_map ?_;refine b9 List.getElem?_map ?_;by_cases h:i < l.length
  ·refine b9 (List.getElem?_range h) ?_;refine b9 (List.getElem?_eq_getElem h) ?_;exact congrArg some (List.getElem?_eq_getElem h)
  ·refine b9 (List.getElem?_eq_none (by refine b9 List.length_range ?_;exact zo1 h)) ?_;refine b9 (List.getElem?_eq_none (zo1 h)) ?_;rfl
 unfold iL;refine b9 List.filterMap_map ?_;have e2:=congrArg (List.filterMap (Option.map f)) e;rw [List.filterMap_map,List.filterMap_map] at e2;refine Eq.trans ?_ (e2.trans ?_)
 ·rfl
 ·refine b9 (show (Option.map f ∘ some)=(λx=>some (f x)) from rfl) ?_;refine b9 List.filterMap_eq_map' ?_;rfl
section
variable {F:D4} {n:Nat} {lay:Slot->Nat} {C:D0} {H:Hp} {ties:List (Nat×Nat)} {st:St} {Q:m7}
theorem uclasses (T:Tb F) (L:G0 lay C H) (E:EG lay C st) (o:Ok st) (q:∀ H' a,m5 H H'->H' a=none->Q (.ref a) (H'.set a (.list (iL (clss st.up))))):(j5 F (n+1)).call v6 G5 [.ref (lay (.eg 8))] H Q:=by
 have hlim:(iL st.up).length<=o5:=by refine b9 (m9 ..) ?_;exact o7 o.small
 refine t0 T.uclasses rfl (g8 (E0 (a0l (l:=iL (List.range st.up.length)) (g:=a1n st.up) (by refine b9 (m9 ..) ?_;refine b9 List.length_range ?_;exact o7 o.small) (a8p (o7 o.small) λR hR=>d9 (O8 (d9 (a1e L E.toHd (o9 rfl) rfl (g9 (B1 (L.at_ _ _ E.c10) hlim (g9 ?_))))))) (λv hv H' k P hP=>?_) λH' a k ha=>?_)))
 ·refine b9 (m9 ..) ?_;exact hR H (.refl _)
 ·refine i9 (a1p hv) λi hi q1=>?_;subst q1;have hi:=List.mem_range.mp hi;have hg:=List.getElem?_eq_getElem hi;have L1:=L.keep k;have hP':(st.up[i]=i->P [d8.int (i:Nat)] H')/\(st.up[i]≠i->P [] H'):=by
   have:=hP H' (.refl _);constructor
   ·intro e;have e2:a1n st.up (.int (i:Nat))=some (.int (i:Nat)):=by unfold a1n;exact if_pos (by refine b9 (show Int.toNat (i:Nat)=i from rfl) ?_;refine b9 hg ?_;refine b9 e ?_;rfl)
    rwa [e2] at this
   ·intro e;have e2:a1n st.up (.int (i:Nat))=none:=by unfold a1n;exact if_neg (by refine b9 (show Int.toNat (i:Nat)=i from rfl) ?_;refine b9 hg ?_;exact λz=>e (by injection z))
    rwa [e2] at this
  refine a1Z (G1 (C9 (a1e L1 E.toHd (o9 rfl) rfl (f9 rfl (M8 (L1.at_ _ _ E.c10) hlim (b2z hg) (f9 rfl (a2D ⟨λt=>a4Q ⟨λ_=>f9 rfl ?_,(λt=>nomatch t)⟩,λt=>⟨(λt=>nomatch t),λ_=>?_⟩⟩)))))))
  ·have:=of_decide_eq_true t;exact hP'.1 (zo5 this)
  ·have:=of_decide_eq_false t;exact hP'.2 (b94 this)
 ·refine b9 (b3i ..) ?_;exact q H' a k ha
theorem hclasses (T:Tb F) (L:G0 lay C H) (E:EG lay C st) (o:Ok st) (q:∀ H' a,m5 H H'->H' a=none->Q (.ref a) (H'.set a (.list (iL (clss st.up))))):(j5 F (n+2)).call o6 G5 [.ref (lay (.eg 0))] H Q:=by
 refine t0 T.hclasses rfl (g8 (E0 (u6 (by refine b9 T.uclasses ?_;rfl) (L.at_ _ _ E.c8) (L.at_ _ _ E.c9) rfl (λ_ q=>M4 L E.toHd (o9 rfl) rfl q) (g9 (uclasses T L E o ?_)))))
 exact q
theorem hmany (T:Tb F) (L:G0 lay C H) (E:EG lay C st) (I:C5 ties st) (q:∀ H' (ys:List d8),m5 H H'->ys.Nodup->(∀ v,v∈ys↔v∈st.nd.map λx=>r8 (v0 st.up x))->Q (.int (ys.length:Nat)) H'):(j5 F (n+4)).call o6 G6 [.ref (lay (.eg 0))] H Q:=by
 have nl:=I.toOk.nd;refine t0 T.hmany rfl (g8 (E0 (b7l (a0l (l:=iL (List.range st.nd.length)) (g:=λv=>match v with | .int i=>(st.nd[i.toNat]?).map λx=>r8 (v0 st.up x) | _=>none) (by refine b9 (m9 ..) ?_;refine b9 List.length_range ?_;exact o7 nl) (a8p (o7 nl) λR hR=>d9 (u6 (by refine b9 T.hsize ?_;rfl) (L.at_ _ _ E.c0) (L.at_ _ _ E.c1) rfl (o9 rfl) (g9 (hsize (n:=n+1) T L E I.toOk (g9 (hR H (.refl _))))))) (λv hv H' k P hP=>?_) λH' a k ha=>?_))))
 ·refine i9 (a1p hv) λi hi q2=>?_;subst q2;have hi:=List.mem_range.mp hi;have hg:=List.getElem?_eq_getElem hi;have L1:=L.keep k;refine N2 (u6 (by refine b9 T.hnode ?_;rfl) (L1.at_ _ _ E.c0) (L1.at_ _ _ E.c1) rfl (o9 rfl) (d9 (f9 rfl (g9 (hnode (n:=n) T L1 E I.toOk I.kid hg λH'' k'=>?_)))))
  have:P ((st.nd[i]?).map (λx=>r8 (v0 st.up x))).toList H'':=hP H'' k';rw [hg] at this;exact this
 ·refine b9 (a8Z ..) ?_;refine ⟨a,_,rfl,l9,by refine b9 (c7x ..) ?_;exact nl,λx hx=>?_,λys hn hm=>q _ ys (k.trans (.new ha)) hn hm⟩
  refine i9 (List.mem_map.mp hx) λy _ q3=>?_;subst q3;exact ⟨rfl,Bool.and_eq_true_iff.mpr ⟨rfl,a9h _ _⟩⟩
theorem EG.ow (E:EG lay C st):EG lay (upd C (.ow k) o) st :=
 {c0:=E.c0,c1:=E.c1,c2:=E.c2,c3:=E.c3,c8:=E.c8,c9:=E.c9,c4:=E.c4,c5:=E.c5,c6:=E.c6,c7:=E.c7,c10:=E.c10,c11:=E.c11,cl:=E.cl,c12:=E.c12,c13:=E.c13,c14:=E.c14,c15:=E.c15,c16:=E.c16,cu:=E.cu,c17:=E.c17}
theorem EG.own (E:EG lay C st):EG (I7 lay (.ow k) a) (upd C (.ow k) o) st :=
 {c0:=E.c0,c1:=E.c1,c2:=E.c2,c3:=E.c3,c8:=E.c8,c9:=E.c9,c4:=E.c4,c5:=E.c5,c6:=E.c6,c7:=E.c7,c10:=E.c10,c11:=E.c11,cl:=E.cl,c12:=E.c12,c13:=E.c13,c14:=E.c14,c15:=E.c15,c16:=E.c16,cu:=E.cu,c17:=E.c17}
end
end
variable {u:d8} {l:List d8} {W:C0}
section
noncomputable def dkO (lay:Slot->Nat) (k:Nat) (ep:Nat):Z5:=.dict [(.str "cells",.ref (lay (.ow 1))),(.str "at",.int (k:Nat))] ep
theorem a4g:s9 [(.str "cells",u),(.str "at",v)] (.str "at")=some v:=by unfold s9;simp
theorem a4S:s9 [(.str "cells",u),(.str "at",v)] (.str "cells")=some u:=by unfold s9;simp
theorem b43 {u v w:d8}:C6 [(.str "cells",u),(.str "at",v)] (.str "at") w=[(.str "cells",u),(.str "at",w)]:=by
 unfold C6;refine b9 a4g ?_;simp
theorem a5r (s:String):B0 [(.str "cells",u),(.str "at",v)] (.str s):=⟨rfl,λp hp=>by
 simp only [List.mem_cons,List.not_mem_nil,or_false] at hp;rcases hp with rfl | rfl <;> rfl⟩
section
variable {F:D4} {n:Nat} {lay:Slot->Nat} {C:D0} {H:Hp} {Q:m7} {cells:List Int}
theorem a9P {i j:Int} (h:0 < j) (q:Q (.int (i % j)) H):a43 .mod (.int i) (.int j) H Q:=⟨i,j,rfl,rfl,h,q⟩
theorem taken (hF:F 0 j9=some D7) (L:G0 lay C H) (d0:C (.ow 0)=some (dkO lay k ep)) (d1:C (.ow 1)=some (.list (cells.map d8.int))) (hl:cells.length<=40) (hm:0 < many)
  (q:∀ ep' H' (j:Nat),j < many->G0 lay (upd C (.ow 0) (dkO lay (k+1) ep')) H'->Q (.int (j:Nat)) H'):(j5 F (n+1)).call 0 j9 [.ref (lay (.ow 0)),.int (many:Nat)] H Q:=by
 refine t0 hF rfl (g8 (z0 (I4 (C9 (f9 rfl (m8 (J0 (L.at_ _ _ d0) (a5r _) a4g (m8 (a0w (a0r (o9 rfl) (λ_ q=>q) (L.at_ _ _ d0) (a5r _) (by show 2<=1000000;decide) ?_))))))))))
 refine b9 b43 ?_;refine b9 (show ((k:Nat):Int)+1=((k+1:Nat):Int) from rfl) ?_;generalize dep _ _ _=ep2;have L1:G0 lay (upd C (.ow 0) (dkO lay (k+1) ep2)) (H.set (lay (.ow 0)) (dkO lay (k+1) ep2)):=L.put d0;have i0:(upd C (.ow 0) (dkO lay (k+1) ep2)) (.ow 0)=some (dkO lay (k+1) ep2):=B4;have i1:(upd C (.ow 0) (dkO lay (k+1) ep2)) (.ow 1)=some (.list (cells.map d8.int)):=(j3 (by decide)).trans d1
 have fin:∀ x:Int,Q (.int (x % (many:Nat))) (H.set (lay (.ow 0)) (dkO lay (k+1) ep2)):=λx=>by
  have h1:=Int.emod_nonneg x (show ((many:Nat):Int)≠0 by exact b9Z hm)
  have h2:=Int.emod_lt_of_pos x (show (0:Int) < ((many:Nat):Int) by exact b8x hm)
  refine eE (Int.eq_ofNat_of_zero_le h1) λj hj=>?_;refine b9 hj ?_;exact q ep2 _ j (c2y h2 hj) L1
 have hll:(cells.map d8.int).length<=o5:=by refine b9 (c7x ..) ?_;unfold o5;exact c2k hl
 refine g8 (E0 (I4 (a5Q (G1 (C9 (f9 rfl (m8 (J0 (x:=.int ((k+1:Nat):Int)) (L1.at_ _ _ i0) (a5r _) a4g ?_))))))));refine O8 (d9 (C9 (f9 rfl (m8 (J0 (x:=.ref (lay (.ow 1))) (L1.at_ _ _ i0) (a5r _) a4S (g9 (B1 (L1.at_ _ _ i1) hll (le_int ⟨λt=>?_,λ_=>?_⟩))))))))
 ·have t:=of_decide_eq_true t;rw [List.length_map] at t;have hk:k < cells.length:=by exact c0M t
  refine C9 (C9 (f9 rfl (m8 (J0 (x:=.ref (lay (.ow 1))) (L1.at_ _ _ i0) (a5r _) a4S (I4 (C9 (f9 rfl (m8 (J0 (x:=.int ((k+1:Nat):Int)) (L1.at_ _ _ i0) (a5r _) a4g (m8 (sub_int ?_)))))))))));refine b9 (show ((k+1:Nat):Int) - 1=(k:Nat) by exact b64) ?_
  refine M8 (x:=.int cells[k]) (L1.at_ _ _ i1) hll (by refine b9 List.getElem?_map ?_;refine b9 (List.getElem?_eq_getElem hk) ?_;rfl) (f9 (v:=.int (many:Nat)) rfl ?_)
  exact a9P (b8x hm) (fin _)
 ·exact m8 (f9 (v:=.int (many:Nat)) rfl (a9P (b8x hm) (fin 1)))
end
end
variable {s:Nat}
section
noncomputable def l0 (mk:List Nat) (i:Nat):Nat:=mk.getD i i
noncomputable def a0J (mk:List Nat) (a b:Nat):List Nat:=mk.map λm=>if m=max (l0 mk a) (l0 mk b) then min (l0 mk a) (l0 mk b) else m
structure Mks (nd:List I3) (ties:List (Nat×Nat)) (mk:List Nat):Prop where
 len:mk.length=nd.length
 le:∀ i,l0 mk i<=i
 idem:∀ i,l0 mk (l0 mk i)=l0 mk i
 sound:∀ E,a1g nd ties E->∀ i,E i (l0 mk i)
section
variable {nd:List I3} {ties:List (Nat×Nat)} {mk:List Nat} {a b:Nat}
theorem a2W (h:i < mk.length):mk[i]?=some (l0 mk i):=by
 unfold l0;refine b9 List.getD_eq_getElem?_getD ?_;refine b9 (List.getElem?_eq_getElem h) ?_;rfl
theorem a21 (h:¬ i < mk.length):l0 mk i=i:=by
 unfold l0;refine b9 List.getD_eq_getElem?_getD ?_;refine b9 (List.getElem?_eq_none (zo1 h)) ?_;rfl
theorem U8 (i:Nat) (h:i < mk.length):l0 (a0J mk a b) i=if l0 mk i=max (l0 mk a) (l0 mk b) then min (l0 mk a) (l0 mk b) else l0 mk i:=by
 have e:=a2W h;have:(a0J mk a b)[i]?=some (if l0 mk i=max (l0 mk a) (l0 mk b) then min (l0 mk a) (l0 mk b) else l0 mk i):=by
  unfold a0J;refine b9 List.getElem?_map ?_;refine b9 e ?_;rfl
 rewrite [l0];refine b9 List.getD_eq_getElem?_getD ?_;refine b9 this ?_;rfl
theorem a1V:(a0J mk a b).length=mk.length:=c7x ..
theorem Mks.lt (M:Mks nd ties mk) (h:i < mk.length):l0 mk i < mk.length:=Nat.lt_of_le_of_lt (M.le i) h
theorem b1R (M:Mks nd ties mk) (ha:a < mk.length) (hb:b < mk.length) (why:∀ E,a1g nd ties E->E a b):Mks nd ties (a0J mk a b):=by
 refine ⟨a1V.trans M.len,λi=>?_,λi=>?_,λE cE i=>?_⟩
 ·by_cases h:i < mk.length
  ·refine b9 (U8 i h) ?_;have:=M.le i
   split <;> omega
  ·refine b9 (a21 (by refine b9 a1V ?_;exact h)) ?_;exact Nat.le_refl i
 ·by_cases h:i < mk.length
  ·refine b9 (U8 i h) ?_;have ia:=M.idem a;have ib:=M.idem b;have ii:=M.idem i;have la:=M.lt ha;have lb:=M.lt hb;have li:=M.lt h;by_cases z:l0 mk i=max (l0 mk a) (l0 mk b)
   ·refine b9 (if_pos z) ?_;rcases Nat.le_total (l0 mk a) (l0 mk b) with w | w
    ·refine b9 (Nat.min_eq_left w) ?_;refine b9 (U8 _ la) ?_;refine b9 (Nat.min_eq_left w) ?_;refine b9 ia ?_
     split <;> rfl
    ·refine b9 (Nat.min_eq_right w) ?_;refine b9 (U8 _ lb) ?_;refine b9 (Nat.min_eq_right w) ?_;refine b9 ib ?_
     split <;> rfl
   ·refine b9 (if_neg z) ?_;refine b9 (U8 _ li) ?_;refine b9 ii ?_;refine b9 (if_neg z) ?_;rfl
  ·have e:=a21 (mk:=a0J mk a b) (i:=i) (by refine b9 a1V ?_;exact h)
   refine b9 e ?_;refine b9 e ?_;rfl
 ·by_cases h:i < mk.length
  ·refine b9 (U8 i h) ?_;have si:=M.sound E cE i
   split
   ·rename_i z;have sa:=M.sound E cE a;have sb:=M.sound E cE b;have ab:=why E cE;have key:E (l0 mk a) (l0 mk b):=cE.trans _ _ _ (cE.symm _ _ sa) (cE.trans _ _ _ ab sb);rw [z] at si;rcases Nat.le_total (l0 mk a) (l0 mk b) with w | w
    ·rw [Nat.max_eq_right w] at si;refine b9 (Nat.min_eq_left w) ?_;exact cE.trans _ _ _ si (cE.symm _ _ key)
    ·rw [Nat.max_eq_left w] at si;refine b9 (Nat.min_eq_right w) ?_;exact cE.trans _ _ _ si key
   ·exact si
  ·refine b9 (a21 (by refine b9 a1V ?_;exact h)) ?_;exact cE.refl i
theorem c6K {p q:Nat} (h:q<=p):∀ l:List Nat,(l.map λm=>if m=p then q else m).sum<=l.sum/\((l.map λm=>if m=p then q else m).sum=l.sum->(l.map λm=>if m=p then q else m)=l):=by
 intro l;induction l with
 | nil=>exact ⟨Nat.le_refl _,λ_=>rfl⟩
 | cons x l ih =>
  refine eA ih λh1 h2=>?_;clear ih;refine b9 List.map_cons ?_;refine b9 List.sum_cons ?_;refine b9 List.sum_cons ?_;by_cases z:x=p
  ·refine b9 (if_pos z) ?_;refine ⟨by exact c5S h h1 z,λe=>?_⟩
   have:q=x:=by exact c4L h h1 z e
   refine b9 (h2 (c3k e this)) ?_;refine b9 this ?_;rfl
  ·refine b9 (if_neg z) ?_;exact ⟨by exact b6c h1,λe=>by refine b9 (h2 (c1t e)) ?_;rfl⟩
theorem a5I:(a0J mk a b).sum<=mk.sum/\((a0J mk a b).sum=mk.sum->a0J mk a b=mk):=c6K (c5I) mk
theorem a8N (ha:a < mk.length) (hb:b < mk.length) (e:a0J mk a b=mk):l0 mk a=l0 mk b:=by
 have h1:=U8 (a:=a) (b:=b) a ha;have h2:=U8 (a:=a) (b:=b) b hb;rw [e] at h1 h2;rcases Nat.le_total (l0 mk a) (l0 mk b) with w | w
 ·rw [Nat.max_eq_right w,Nat.min_eq_left w,if_pos rfl] at h2;exact h2.symm
 ·rw [Nat.max_eq_left w,Nat.min_eq_right w,if_pos rfl] at h1;exact h1
structure a4k (nd:List I3) (ties:List (Nat×Nat)) (mk:List Nat):Prop where
 tie:∀ p∈ties,l0 mk p.1=l0 mk p.2
 node:∀ (i j:Nat) (x y:I3),nd[i]?=some x->nd[j]?=some y->x.1=y.1->x.2.map (l0 mk)=y.2.map (l0 mk)->l0 mk i=l0 mk j
theorem a4k.cong (f:a4k nd ties mk):a1g nd ties λa b=>l0 mk a=l0 mk b :=
 ⟨λ_=>rfl,λ_ _ e=>e.symm,λ_ _ _ e e'=>e.trans e',f.tie,λi j x y hi hj h1 h2 h3=>f.node i j x y hi hj h1 (List.ext_getElem? λq=>by
  refine b9 List.getElem?_map ?_;refine b9 List.getElem?_map ?_;by_cases h:q < x.2.length
  ·have e1:=List.getElem?_eq_getElem h;have e2:=List.getElem?_eq_getElem (h2▸h:q < y.2.length);refine b9 e1 ?_;refine b9 e2 ?_;exact congrArg some (h3 q _ _ e1 e2)
  ·refine b9 (List.getElem?_eq_none (zo1 h)) ?_;refine b9 (List.getElem?_eq_none (b6e h2 h)) ?_;rfl)⟩
end
section
variable {ties:List (Nat×Nat)} {st:St} {mk:List Nat}
theorem b0N (I:C5 ties st) (D:a0o st) (w:st.wt=[]):a1g st.nd ties λa b=>f8 st.up a=f8 st.up b :=
 ⟨λ_=>rfl,λ_ _ e=>e.symm,λ_ _ _ e e'=>e.trans e',I.told,λi j x y hi hj h1 h2 h3=>by
  have e:v0 st.up x=v0 st.up y:=by
   unfold v0;refine b9 h1 ?_
   congr 1
   refine List.ext_getElem? λq=>?_;refine b9 List.getElem?_map ?_;refine b9 List.getElem?_map ?_;by_cases h:q < x.2.length
   ·have e1:=List.getElem?_eq_getElem h;have e2:=List.getElem?_eq_getElem (h2▸h:q < y.2.length);refine b9 e1 ?_;refine b9 e2 ?_;exact congrArg some (h3 q _ _ e1 e2)
   ·refine b9 (List.getElem?_eq_none (zo1 h)) ?_;refine b9 (List.getElem?_eq_none (b6e h2 h)) ?_;rfl
  have get:∀ (i:Nat) (x:I3),st.nd[i]?=some x->∃ p,w9 st.kn (v0 st.up x)=some p/\f8 st.up p=f8 st.up i:=λi x hx=>by
   rcases D i x hx with h | ⟨p,h1,h2⟩
   ·rw [w] at h;cases h
   ·exact ⟨p,h1,h2.resolve_right λh=>h⟩
  refine i9 (get i x hi) λp p1 p2=>?_;refine i9 (get j y hj) λq q1 q2=>?_;rw [e,q1] at p1;have q1:=A3 p1;clear p1;subst q1;exact p2.symm.trans q2⟩
theorem a4L (I:C5 ties st) (D:a0o st) (w:st.wt=[]) (M:Mks st.nd ties mk) (f:a4k st.nd ties mk) (hi:i < st.up.length):l0 mk i=f8 st.up i:=by
 have h1:f8 st.up i=f8 st.up (l0 mk i):=M.sound _ (b0N I D w) i;have hr:=C7 I.up I.lt i hi;have hp:l0 mk i < st.up.length:=Nat.lt_of_le_of_lt (M.le i) hi;have h2:=I.sound _ f.cong (f8 st.up i) i hr hi (I5 I.up hi);have h3:=M.le (f8 st.up i);have h4:=b5Z I.up _ hp;have h2:l0 mk (f8 st.up i)=l0 mk i:=h2;exact c0p h1 ‹_› h3 h4
theorem b8F (I:C5 ties st) (D:a0o st) (w:st.wt=[]) (M:Mks st.nd ties mk) (f:a4k st.nd ties mk):mk=(List.range st.up.length).map (f8 st.up):=by
 refine List.ext_getElem? λi=>?_;by_cases h:i < st.up.length
 ·refine b9 (a2W (by refine b9 M.len ?_;refine b9 I.eqn ?_;exact h)) ?_;refine b9 List.getElem?_map ?_;refine b9 (List.getElem?_range h) ?_;refine b9 (a4L I D w M f h) ?_;rfl
 ·refine b9 (List.getElem?_eq_none (by refine b9 M.len ?_;refine b9 I.eqn ?_;exact zo1 h)) ?_;refine b9 (List.getElem?_eq_none (by refine b9 (c7x ..) ?_;refine b9 List.length_range ?_;exact zo1 h)) ?_;rfl
end
theorem m5.put {H0 H:Hp} (k:m5 H0 H) (h:H0 s=none):m5 H0 (H.set s o):=λa p e=>by
 refine b9 (A0 λz=>by rw [z,h] at e;cases e) ?_;exact k a p e
theorem m5.off {H0 H:Hp} (k:m5 H0 H) (h:H s=none):H0 s=none:=by
 cases e:H0 s with
 | none=>rfl
 | some o=>rw [k s o e] at h;cases h
section
variable {K:Calls} {r:En} {H:Hp}
theorem b5G {i j:Nat} (q:Q (.int (min i j:Nat)) H):biW .min [.int (i:Nat),.int (j:Nat)] H Q:=⟨i,j,rfl,by refine b9 (show min (i:Int) (j:Int)=((min i j:Nat):Int) by exact c1F) ?_;exact q⟩
theorem b4L {i j:Nat} (q:Q (.int (max i j:Nat)) H):biW .max [.int (i:Nat),.int (j:Nat)] H Q:=.inr ⟨i,j,rfl,by refine b9 (show max (i:Int) (j:Int)=((max i j:Nat):Int) by exact c3a) ?_;exact q⟩
theorem c20 {mk:List Nat} (h:i < mk.length):(iL mk)[i]?=some (.int (l0 mk i:Nat)):=b2z (a2W h)
theorem a1u {mk:List Nat} {x:Nm} (hm:r h9=some (.ref a)) (ha:H a=some (.list (iL mk))) (hl:mk.length<=17) (hx:r x=some (.int (i:Nat))) (hi:i < mk.length) (q:Q (.int (l0 mk i:Nat)) H):l6 (d7 h9) (d7 x) K r H Q :=
 C9 (f9 hm (f9 hx (M8 ha (by refine b9 (m9 ..) ?_;exact o7 hl) (c20 hi) q)))
theorem b0B {a o p:Nat} {mk:List Nat} {Q:C0} (hm:r h9=some (.ref a)) (ha:H a=some (.list (iL mk))) (hl:mk.length<=17) (ho:r T1=some (.int (o:Nat))) (hp:r y9=some (.int (p:Nat))) (lo:o < mk.length) (lp:p < mk.length)
  (q:∀ H' a' u v,m5 H H'->H' a'=some (.list (iL (a0J mk o p)))->Q .next (((r.set L9 u).set S6 v).set h9 (.ref a')) H') :
  (f6 (s6 (Q9 [(l7 L9),(l7 S6)]) (n5 (d6 (J8 .min (d6 (l6 (d7 h9) (d7 T1)) (d6 (l6 (d7 h9) (d7 y9)) f4))) (d6 (J8 .max (d6 (l6 (d7 h9) (d7 T1)) (d6 (l6 (d7 h9) (d7 y9)) f4))) f4))))
    (f6 (s6 (l7 h9) (v8 (a2B (B3 .eq (d7 K6) (d7 S6)) (d7 L9) (d7 K6)) [K6] true (w5 (d7 h9)) B6))
    m6)) K r H Q:=by
 refine g8 (z0 (D1 (d9 (O8 (d9 (a1u hm ha hl ho lo (d9 (a1u hm ha hl hp lp (g9 (b5G (d9 (O8 (d9 (a1u hm ha hl ho lo (d9 (a1u hm ha hl hp lp (g9 (b4L (g9 (a4T (.inl rfl) ?_))))))))))))))))))));have hm':((r.set L9 (.int (min (l0 mk o) (l0 mk p):Nat))).set S6 (.int (max (l0 mk o) (l0 mk p):Nat))) h9=some (.ref a):=hm;refine g8 (z0 (a0l (l:=iL mk) (g:=λv=>match v with | .int i=>some (.int ((if i.toNat=max (l0 mk o) (l0 mk p) then min (l0 mk o) (l0 mk p) else i.toNat:Nat))) | _=>none) (by refine b9 (m9 ..) ?_;exact o7 hl) (a82 λR hR=>f9 hm' (hR a H (.refl _) ha)) (λv hv H' k P hP=>?_) λH' c k hc=>B7 ?_))
 ·refine i9 (a1p hv) λi hi q1=>?_;subst q1;have:=hP H' (.refl _);refine N2 (a5Q (G1 (f9 rfl (f9 rfl (a2D ⟨λt=>f9 rfl ?_,λt=>f9 rfl ?_⟩)))))
  ·have t:=of_decide_eq_true t;have e:i=max (l0 mk o) (l0 mk p):=by exact c5x t
   have this:P [d8.int ((if i=max (l0 mk o) (l0 mk p) then min (l0 mk o) (l0 mk p) else i:Nat):Int)] H':=this
   rw [if_pos e] at this;exact this
  ·have t:=of_decide_eq_false t;have e:¬ i=max (l0 mk o) (l0 mk p):=by exact c5i t
   have this:P [d8.int ((if i=max (l0 mk o) (l0 mk p) then min (l0 mk o) (l0 mk p) else i:Nat):Int)] H':=this
   rw [if_neg e] at this;exact this
 ·refine b9 (a0K (f:=λm=>if m=max (l0 mk o) (l0 mk p) then min (l0 mk o) (l0 mk p) else m) λi _=>rfl) ?_
  exact q _ c _ _ (k.trans (.new hc)) l9
end
noncomputable def a0B (p:Nat×Nat):d8:=.tup [.int (p.1:Nat),.int (p.2:Nat)]
noncomputable def a4q (nd:List I3) (ties:List (Nat×Nat)) (sn:List (I3×Nat)):Prop:=∀ p∈sn,∃ y,nd[p.2]?=some y/\y.1=p.1.1/\y.2.length=p.1.2.length/\∀ E,a1g nd ties E->∀ (q a b:Nat),y.2[q]?=some a->p.1.2[q]?=some b->E a b
noncomputable def V9 (mk:List Nat) (x:I3):I3:=(x.1,x.2.map (l0 mk))
structure Vs (ar at_:Nat) (r:En):Prop where
 rows:r n9=some (.ref ar)
 ties:r I8=some (.ref at_)
theorem a0z {x y:Nm} {v w:d8}:a0a [x,y] false (.tup [v,w]) r ((r.set x v).set y w):=.inr ⟨rfl,[v,w],rfl,rfl,rfl⟩
noncomputable def Pr (M0 mk:List Nat) (ps:List (Nat×Nat)):Prop:=mk.sum<=M0.sum/\(mk.sum=M0.sum->mk=M0/\∀ p∈ps,l0 M0 p.1=l0 M0 p.2)
theorem b4t {M0 mk:List Nat} {ps:List (Nat×Nat)} {a b:Nat} (h:Pr M0 mk ps) (ha:a < mk.length) (hb:b < mk.length):Pr M0 (a0J mk a b) (ps++[(a,b)]):=by
 refine eA h λh1 h2=>?_;clear h;refine eA (a5I (mk:=mk) (a:=a) (b:=b)) λs1 s2=>?_;refine ⟨by exact b2v h1 s1,λe=>?_⟩
 refine eA (h2 (c07 h1 s1 e)) λh3 h4=>?_;have h5:=s2 (b9d h1 s1 e);refine ⟨by refine b9 h5 ?_;refine b9 h3 ?_;rfl,λp hp=>?_⟩
 rcases List.mem_append.mp hp with hp | hp
 ·exact h4 p hp
 ·refine b9 (List.mem_singleton.mp hp) ?_;refine t6 h3 ?_;exact a8N ha hb h5
section
variable {K:Calls} {nd:List I3} {ties:List (Nat×Nat)}
theorem a77 {H0 H:Hp} {a s b l ar at_ ep:Nat} {M0 mk:List Nat} {ps:List (Nat×Nat)} {Q:C0} (k0:m5 H0 H) (vs:Vs ar at_ r) (hm:r h9=some (.ref a)) (hw:r a1d=some (.ref b)) (hs:r V7=some (.ref s)) (ha:H a=some (.list (iL mk))) (hbb:H b=some (.list (iL M0))) (hss:H s=some (.dict (knV sn) ep)) (hll:H l=some (.list (ps.map a0B)))
  (M:Mks nd ties mk) (hl:nd.length<=17) (why:∀ p∈ps,(p.1 < nd.length/\p.2 < nd.length)/\∀ E,a1g nd ties E->E p.1 p.2) (pr:Pr M0 mk [])
  (q:∀ r' H' a' mk',m5 H0 H'->Vs ar at_ r'->r' h9=some (.ref a')->r' a1d=some (.ref b)->r' V7=some (.ref s)->H' a'=some (.list (iL mk'))->H' b=some (.list (iL M0))->H' s=some (.dict (knV sn) ep)->Mks nd ties mk'->mk'.sum<=mk.sum->Pr M0 mk' ps->Q .next r' H') :
  ∃ m,a88 [T1,y9] false ((f6 (s6 (Q9 [(l7 L9),(l7 S6)]) (n5 (d6 (J8 .min (d6 (l6 (d7 h9) (d7 T1)) (d6 (l6 (d7 h9) (d7 y9)) f4))) (d6 (J8 .max (d6 (l6 (d7 h9) (d7 T1)) (d6 (l6 (d7 h9) (d7 y9)) f4))) f4))))
    (f6 (s6 (l7 h9) (v8 (a2B (B3 .eq (d7 K6) (d7 S6)) (d7 L9) (d7 K6)) [K6] true (w5 (d7 h9)) B6))
    m6)) K) (.lst l) m 0 r H Q:=by
 refine ⟨_,R7 (src:=.lst l) (ps.map a0B) (λi r1 H1=>∃ a1 mk1,m5 H H1/\Vs ar at_ r1/\r1 h9=some (.ref a1)/\r1 a1d=some (.ref b)/\r1 V7=some (.ref s)/\H1 a1=some (.list (iL mk1))/\Mks nd ties mk1/\mk1.sum<=mk.sum/\Pr M0 mk1 (ps.take i)) (λi r1 H1 hI=>?_) (λr1 H1 hI=>?_) (λi v r1 H1 hv hI W hW _=>?_) ((ps.map a0B).length+1) 0 r H (zo0) (Nat.zero_le _) ⟨a,mk,.refl _,vs,hm,hw,hs,ha,M,Nat.le_refl _,pr⟩⟩
 ·refine A6 hI λ_ _ k _=>?_;clear hI;exact ⟨_,k _ _ hll,rfl⟩
 ·refine a3T hI λa1 mk1 k v1 m1 w1 s1 h1 M1 le1 p1=>?_;clear hI;rw [List.length_map,List.take_length] at p1;exact q r1 H1 a1 mk1 (k0.trans k) v1 m1 w1 s1 h1 (k _ _ hbb) (k _ _ hss) M1 le1 p1
 ·refine a3T hI λa1 mk1 k v1 m1 w1 s1 h1 M1 le1 p1=>?_;clear hI;rw [List.getElem?_map] at hv;refine i9 (Option.map_eq_some_iff.mp hv) λp hp q1=>?_;subst q1;refine eA (why p (c7w hp)) λq2 hE=>?_;refine eA q2 λlp lq=>?_;clear q2;rw [<- M1.len] at lp lq;refine ⟨_,a0z,b0B (a:=a1) (o:=p.1) (p:=p.2) m1 h1 (by refine b9 M1.len ?_;exact hl) rfl rfl lp lq λH' a' u v k' ha'=>hW _ _ ⟨a',a0J mk1 p.1 p.2,k.trans k',⟨v1.rows,v1.ties⟩,rfl,w1,s1,ha',b1R M1 lp lq hE,?_,?_⟩⟩
  ·exact Nat.le_trans (a5I).1 le1
  ·refine b9 List.take_add_one ?_;refine b9 hp ?_;exact b4t p1 lp lq
end
theorem c6Z {mk:List Nat}:r8 (V9 mk x)=.tup (.str x.1 :: iL (x.2.map (l0 mk))):=rfl
section
variable {K:Calls} {nd:List I3} {ties:List (Nat×Nat)}
theorem b40 {mk:List Nat} (hm:r h9=some (.ref a)) (ha:H a=some (.list (iL mk))) (hl:mk.length<=17) (hr:r F6=some (r8 x)) (two:x.2.length<=2) (hk:∀ k∈x.2,k < mk.length) (q:∀ H',m5 H H'->Q (r8 (V9 mk x)) H') :
  y7 .add (n5 (d6 (l6 (d7 F6) (j6 (.int 0))) f4)) (J8 .tuple (d6 (v8 (l6 (d7 h9) (d7 y8)) [y8] true (w5 (a2g (d7 F6) (j6 (.int 1)))) B6) f4)) K r H Q:=by
 refine I4 (D1 (d9 (C9 (f9 hr (m8 (a0T (i:=0) (x:=.str x.1) ?_ rfl (g9 (O8 (d9 (a0l (l:=iL x.2) (g:=λv=>match v with | .int i=>some (.int (l0 mk i.toNat:Nat)) | _=>none) (by refine b9 (m9 ..) ?_;unfold o5;exact zo4 two) (a4R λR hR=>a51 (f9 hr (m8 (a12 (v:=.str x.1) (by refine b9 (m9 ..) ?_;unfold o5;exact zo2 two) (hR H (.refl _)))))) (λv hv H' k P hP=>?_) λH' c k hc=>g9 (a1J l9 ?_ (a2u ?_ ?_))))))))))))
 ·show (iL x.2).length+1<=_;refine b9 (m9 ..) ?_;unfold o5;exact zo2 two
 ·refine i9 (a1p hv) λi hi q3=>?_;subst q3;have hli:=hk i hi;have hm':(r.set y8 (.int (i:Nat))) h9=some (.ref a):=hm;have:=hP H' (.refl _);refine N2 (a1u (x:=y8) hm' (k _ _ ha) hl rfl hli ?_);exact this
 ·refine b9 (a0K (f:=l0 mk) λi _=>rfl) ?_;refine b9 (m9 ..) ?_;refine b9 (c7x ..) ?_;unfold o5;exact zo4 two
 ·refine b9 (a0K (f:=l0 mk) λi _=>rfl) ?_;refine b9 (m9 ..) ?_;refine b9 (c7x ..) ?_;show 1+_<=_;unfold o5;exact b52 two
 ·refine b9 (a0K (f:=l0 mk) λi _=>rfl) ?_;exact q _ (k.trans (.new hc))
theorem a9Z {mk:List Nat} (S:a4q nd ties sn) (M:Mks nd ties mk) (hx:nd[i]?=some x):∃ p,(∀ y,w9 sn (V9 mk x)=some y->p=y)/\(w9 sn (V9 mk x)=none->p=i)/\p < nd.length/\∀ E,a1g nd ties E->E p i:=by
 cases e:w9 sn (V9 mk x) with
 | none=>exact ⟨i,(λy h=>by cases h),λ_=>rfl,(List.getElem?_eq_some_iff.mp hx).1,λE c=>c.refl i⟩
 | some p =>
  refine Q2 (S _ (U0 e)) λy h1 h2 h3 h4=>?_;refine ⟨p,(λy h=>by injection h),(λh=>by cases h),(List.getElem?_eq_some_iff.mp h1).1,λE c=>?_⟩
  have h3:y.2.length=(x.2.map (l0 mk)).length:=h3;refine c.node p i y x h1 hx h2 (by refine b9 h3 ?_;refine b9 (c7x ..) ?_;rfl) λq a b ha hb=>?_
  have h5:=h4 E c q a (l0 mk b) ha (by show (x.2.map (l0 mk))[q]?=_;refine b9 List.getElem?_map ?_;refine b9 hb ?_;rfl)
  exact c.trans _ _ _ h5 (c.symm _ _ (M.sound E c b))
theorem b2I {mk:List Nat} (S:a4q nd ties sn) (M:Mks nd ties mk) (hx:nd[i]?=some x):a4q nd ties (sn++[(V9 mk x,i)]):=λp hp=>by
 rcases List.mem_append.mp hp with hp | hp
 ·exact S p hp
 ·obtain rfl:=List.mem_singleton.mp hp;refine ⟨x,hx,rfl,(c7x ..).symm,λE c q a b ha hb=>?_⟩;have hb:(x.2.map (l0 mk))[q]?=some b:=hb;rw [List.getElem?_map,ha] at hb;injection hb with hb
  refine t6 hb ?_;exact M.sound E c a
noncomputable def Rows (nd:List I3) (ties:List (Nat×Nat)) (M0 mk:List Nat) (sn:List (I3×Nat)) (i:Nat):Prop :=
 mk.sum<=M0.sum/\(mk.sum=M0.sum->mk=M0/\(0 < i->∀ p∈ties,l0 M0 p.1=l0 M0 p.2)/\∀ j x,j < i->nd[j]?=some x->∃ p,w9 sn (V9 M0 x)=some p/\l0 M0 p=l0 M0 j)
theorem b1d {M0 mk mk':List Nat} {sn sn':List (I3×Nat)} (R:Rows nd ties M0 mk sn i) (hx:nd[i]?=some x) (le:mk'.sum<=mk.sum) (pr:Pr M0 mk' (ties++[(p,i)])) (more:∀ k q,w9 sn k=some q->w9 sn' k=some q) (now:w9 sn' (V9 mk x)=some p):Rows nd ties M0 mk' sn' (i+1):=by
 refine eA R λr1 r2=>?_;clear R;refine eA pr λp1 p2=>?_;clear pr;refine ⟨p1,λe=>?_⟩;refine eAA (r2 (c1c le r1 e)) λr3 _ r5=>?_;refine eA (p2 e) λp3 p4=>?_;refine ⟨p3,λ_ t ht=>p4 t (List.mem_append_left _ ht),λj y hj hy=>?_⟩;by_cases z:j=i
 ·subst z;rw [hx] at hy;have q1:=A3 hy;clear hy;subst q1;rw [<- r3] at p4 ⊢;exact ⟨p,now,p4 (p,j) (List.mem_append_right _ (List.mem_singleton.mpr rfl))⟩
 ·refine i9 (r5 j y (b62 hj z) hy) λq h1 h2=>?_;exact ⟨q,more _ _ h1,h2⟩
theorem b1r {M0 mk:List Nat} (R:Rows nd ties M0 mk sn nd.length) (tlt:∀ p∈ties,p.1 < nd.length):mk.sum<=M0.sum/\(mk.sum=M0.sum->mk=M0/\a4k nd ties M0):=by
 refine eA R λr1 r2=>?_;clear R;refine ⟨r1,λe=>?_⟩;refine eAA (r2 e) λr3 r4 r5=>?_;refine ⟨r3,⟨λp hp=>r4 (by have:=tlt p hp;exact b9g this) p hp,λi j x y hi hj h1 h2=>?_⟩⟩
 refine i9 (r5 i x (List.getElem?_eq_some_iff.mp hi).1 hi) λp p1 p2=>?_;refine i9 (r5 j y (List.getElem?_eq_some_iff.mp hj).1 hj) λq q1 q2=>?_;have e:V9 M0 x=V9 M0 y:=by unfold V9;refine b9 h1 ?_;refine b9 h2 ?_;rfl
 rw [e,q1] at p1;have q2:=A3 p1;clear p1;subst q2;exact p2.symm.trans q2
end
noncomputable def b4Z (nd:List I3) (ties:List (Nat×Nat)) (H0:Hp) (ar at_ b s:Nat) (M0:List Nat) (i:Nat) (r1:En) (H1:Hp):Prop :=
 ∃ a mk sn ep,m5 H0 H1/\Vs ar at_ r1/\r1 h9=some (.ref a)/\r1 a1d=some (.ref b)/\r1 V7=some (.ref s)/\H1 a=some (.list (iL mk))/\H1 b=some (.list (iL M0))/\H1 s=some (.dict (knV sn) ep)/\Mks nd ties mk/\a4q nd ties sn/\sn.length<=i/\Rows nd ties M0 mk sn i
section
variable {K:Calls} {nd:List I3} {ties:List (Nat×Nat)} {H0:Hp} {ar at_ b s:Nat} {M0:List Nat}
theorem a9W {mk:List Nat} {sn sn0:List (I3×Nat)} (k0:m5 H0 H) (vs:Vs ar at_ r) (hm:r h9=some (.ref a)) (hw:r a1d=some (.ref b)) (hs:r V7=some (.ref s)) (hlk:r a1q=some (.int (p:Nat))) (hn:r G4=some (.int (i:Nat))) (ha:H a=some (.list (iL mk))) (hbb:H b=some (.list (iL M0))) (hss:H s=some (.dict (knV sn) ep)) (hat:H at_=some (.list (ties.map a0B)))
  (M:Mks nd ties mk) (hl:nd.length<=17) (tl:ties.length<=3) (tlt:∀ p∈ties,p.1 < nd.length/\p.2 < nd.length) (S:a4q nd ties sn) (sl:sn.length<=i+1) (R:Rows nd ties M0 mk sn0 i) (hx:nd[i]?=some x) (lp:p < nd.length) (why:∀ E,a1g nd ties E->E p i) (more:∀ k q,w9 sn0 k=some q->w9 sn k=some q) (now:w9 sn (V9 mk x)=some p)
  (hW:∀ r1 H1,b4Z nd ties H0 ar at_ b s M0 (i+1) r1 H1->W .next r1 H1) :
  (f6 (O6 [T1,y9] false (w5 (y7 .add (d7 I8) (J5 (d6 (n5 (d6 (d7 a1q) (d6 (d7 G4) f4))) f4))))
    (f6 (s6 (Q9 [(l7 L9),(l7 S6)]) (n5 (d6 (J8 .min (d6 (l6 (d7 h9) (d7 T1)) (d6 (l6 (d7 h9) (d7 y9)) f4))) (d6 (J8 .max (d6 (l6 (d7 h9) (d7 T1)) (d6 (l6 (d7 h9) (d7 y9)) f4))) f4))))
    (f6 (s6 (l7 h9) (v8 (a2B (B3 .eq (d7 K6) (d7 S6)) (d7 L9) (d7 K6)) [K6] true (w5 (d7 h9)) B6))
    m6)))
   m6) K r H W:=by
 refine g8 (Z6 (I4 (f9 vs.ties (X6 (d9 (D1 (d9 (f9 hlk (d9 (f9 hn (g9 (g9 λd hd=>?_))))))))))));have k1:m5 H (H.set d (.list [.tup [.int (p:Nat),.int (i:Nat)]])):=.new hd;refine add_list (k1 _ _ hat) l9 (by refine b9 (c7x ..) ?_;show _+1<=_;unfold o5;exact b4E tl) λl hl'=>.inr (.inr (.inl ⟨l,_,rfl,l9,?_⟩))
 have e:ties.map a0B++[.tup [.int (p:Nat),.int (i:Nat)]]=(ties++[(p,i)]).map a0B:=by refine b9 List.map_append ?_;rfl
 refine b9 e ?_;have k2:=k1.trans (m5.new (o:=.list ((ties++[(p,i)]).map a0B)) hl');refine a77 (sn:=sn) (nd:=nd) (ties:=ties) (M0:=M0) (mk:=mk) (k0.trans k2) vs hm hw hs (k2 _ _ ha) (k2 _ _ hbb) (k2 _ _ hss) l9 M hl (λt ht=>?_) ⟨R.1,λe=>⟨(R.2 e).1,λp hp=>by cases hp⟩⟩ λr' H' a' mk' k' v' m' w' s' a1 b1 s1 M' le pr=>?_
 ·rcases List.mem_append.mp ht with ht | ht
  ·exact ⟨tlt t ht,λE c=>c.tie t ht⟩
  ·refine b9 (List.mem_singleton.mp ht) ?_;exact ⟨⟨lp,(List.getElem?_eq_some_iff.mp hx).1⟩,why⟩
 ·exact hW r' H' ⟨a',mk',sn,ep,k',v',m',w',s',a1,b1,s1,M',S,sl,b1d R hx le pr more now⟩
theorem b1H (I:b4Z nd ties H0 ar at_ b s M0 i r H) (h0:H0 s=none) (hat:H0 at_=some (.list (ties.map a0B))) (hl:nd.length<=17) (tl:ties.length<=3) (two:∀ x∈nd,x.2.length<=2) (kid:∀ x∈nd,∀ k∈x.2,k < nd.length) (tlt:∀ p∈ties,p.1 < nd.length/\p.2 < nd.length) (hx:nd[i]?=some x)
  (hW:∀ r1 H1,b4Z nd ties H0 ar at_ b s M0 (i+1) r1 H1->W .next r1 H1) :
  (f6 (s6 (l7 a1q) (j7 (d7 V7) J4 (d6 (y7 .add (n5 (d6 (l6 (d7 F6) (j6 (.int 0))) f4)) (J8 .tuple (d6 (v8 (l6 (d7 h9) (d7 y8)) [y8] true (w5 (a2g (d7 F6) (j6 (.int 1)))) B6) f4))) (d6 (d7 G4) f4))))
   (f6 (O6 [T1,y9] false (w5 (y7 .add (d7 I8) (J5 (d6 (n5 (d6 (d7 a1q) (d6 (d7 G4) f4))) f4))))
    (f6 (s6 (Q9 [(l7 L9),(l7 S6)]) (n5 (d6 (J8 .min (d6 (l6 (d7 h9) (d7 T1)) (d6 (l6 (d7 h9) (d7 y9)) f4))) (d6 (J8 .max (d6 (l6 (d7 h9) (d7 T1)) (d6 (l6 (d7 h9) (d7 y9)) f4))) f4))))
    (f6 (s6 (l7 h9) (v8 (a2B (B3 .eq (d7 K6) (d7 S6)) (d7 L9) (d7 K6)) [K6] true (w5 (d7 h9)) B6))
    m6)))
   m6)) K ((r.set G4 (.int (i:Nat))).set F6 (r8 x)) H W:=by
 refine a0v I λa mk sn ep k vs hm hw hs ha hbb hss M S sl R=>?_;clear I;have hi:=(List.getElem?_eq_some_iff.mp hx).1;have hxm:=c7w hx;have mll:mk.length<=17:=by refine b9 M.len ?_;exact hl
 have hm':((r.set G4 (.int (i:Nat))).set F6 (r8 x)) h9=some (.ref a):=hm;have hs':((r.set G4 (.int (i:Nat))).set F6 (r8 x)) V7=some (.ref s):=hs;refine Q2 (a9Z S M hx) λp p1 p2 p3 p4=>?_;refine g8 (z0 (b1L (o9 hs') hss (d9 (b40 hm' ha mll rfl (two x hxm) (by refine b9 M.len ?_;exact kid x hxm) λH2 k2=>d9 (f9 rfl (g9 (b1Y (k:=r8 (V9 mk x)) (k2 _ _ hss) (a4M _) ?len (λv hv=>B7 ?q0) λhv=>B7 ?q1)))))))
 case len=>unfold knV;refine b9 (c7x ..) ?_;unfold o5;exact c1D hl sl hi
 case q0 =>
  rw [a0P] at hv;refine i9 (Option.map_eq_some_iff.mp hv) λy hy q1=>?_;subst q1;have e:=p1 y hy;subst e;exact a9W (sn:=sn) (sn0:=sn) (x:=x) (k.trans k2) ⟨vs.rows,vs.ties⟩ hm hw hs rfl rfl (k2 _ _ ha) (k2 _ _ hbb) (k2 _ _ hss) (k2 _ _ (k _ _ hat)) M hl tl tlt S (c3w sl) R hx p3 p4 (λ_ _ h=>h) hy hW
 case q1 =>
  rw [a0P] at hv;have hv:=Option.map_eq_none_iff.mp hv;have e:=p2 hv;subst e;have k3:m5 H0 (H2.set s (.dict (knV sn++[(r8 (V9 mk x),.int (p:Nat))]) (ep+1))):=(k.trans k2).put h0;have off:∀ c o,H2 c=some (.list o)->(H2.set s (.dict (knV sn++[(r8 (V9 mk x),.int (p:Nat))]) (ep+1))) c=some (.list o):=λc o h=>by
   refine b9 (A0 λz=>by rw [z,k2 _ _ hss] at h;cases h) ?_;exact h
  refine a9W (sn:=sn++[(V9 mk x,p)]) (sn0:=sn) (x:=x) k3 ⟨vs.rows,vs.ties⟩ hm hw hs rfl rfl (off _ _ (k2 _ _ ha)) (off _ _ (k2 _ _ hbb)) (ep:=ep+1) ?_ (k3 _ _ hat) M hl tl tlt (b2I S M hx) (by refine b9 List.length_append ?_;simp only [List.length_singleton];exact c41 sl) R hx p3 p4 (λ_ _ h=>a4Z h) (a5B hv) hW
  refine b9 l9 ?_;unfold knV;refine b9 List.map_append ?_;rfl
end
noncomputable def a3L (nd:List I3):List d8:=nd.zipIdx.map λp=>.tup [.int (p.2:Nat),r8 p.1]
theorem a2P (i:Nat):(a3L nd)[i]?=nd[i]?.map λx=>.tup [.int (i:Nat),r8 x]:=by
 unfold a3L;refine b9 List.getElem?_map ?_;refine b9 List.getElem?_zipIdx ?_;refine b9 (Option.map_map ..) ?_;cases nd[i]? with
 | none=>rfl
 | some x=>simp
theorem a5O:(a3L nd).length=nd.length:=by unfold a3L;refine b9 (c7x ..) ?_;refine b9 List.length_zipIdx ?_;rfl
theorem c64 {ties:List (Nat×Nat)}:Mks nd ties (List.range nd.length):=by
 have e:∀ i,l0 (List.range nd.length) i=i:=λi=>by
  by_cases h:i < nd.length
  ·unfold l0;refine b9 List.getD_eq_getElem?_getD ?_;refine b9 (List.getElem?_range h) ?_;rfl
  ·exact a21 (by refine b9 List.length_range ?_;exact h)
 exact ⟨List.length_range,λi=>Nat.le_of_eq (e i),λi=>by refine b9 (e ..) ?_;refine b9 (e ..) ?_;rfl,λE c i=>by refine b9 (e ..) ?_;exact c.refl i⟩
theorem b4I {a:Ev} (h:a K r H λv H1=>∃ n:Int,v=.int n/\-o5<=n/\n<=o5/\alloc (.list (t9 0 n)) H1 Q):a57 a K r H Q:=h
theorem a0y (n:Nat):t9 0 (n:Nat)=iL (List.range n):=by
 unfold t9 iL;refine b9 (Int.sub_zero ..) ?_;refine b9 (Int.toNat_natCast ..) ?_;refine List.map_congr_left λi _=>?_;refine b9 (Int.zero_add ..) ?_;rfl
theorem b3p {x:Nm} {R:Src->Hp->Prop} (hx:r x=some (.ref a)) (h:H a=some (.list xs)) (q:R (.enum a) H):(a5j (d7 x)).iv K r H R:=f9 (K:=K) (Q:=λv H1=>itE v H1 R) hx ⟨a,xs,rfl,h,q⟩
theorem a7O {a b:Nat} {xs ys:List d8} {Q:N3} (h1:H a=some (.list xs)) (h2:H b=some (.list ys)) (p1:a1F xs=true) (p2:a1F ys=true) (qt:xs≠ys->Q true H) (qf:xs=ys->Q false H):X8 .ne (.ref a) (.ref b) H Q:=by
 by_cases e:xs=ys
 ·exact ⟨true,.inl (.inr (.inl ⟨a,b,xs,ys,rfl,rfl,h1,h2,.inl ⟨p1,p2⟩,by simp [e]⟩)),qf e⟩
 ·exact ⟨false,.inl (.inr (.inl ⟨a,b,xs,ys,rfl,rfl,h1,h2,.inl ⟨p1,p2⟩,by simp [e]⟩)),qt e⟩
theorem a2L (l:List Nat):a1F (iL l)=true:=by refine t6 (a5k ..) ?_;exact a5E _ _
section
variable {F:D4} {n:Nat} {nd:List I3} {ties:List (Nat×Nat)} {H:Hp} {ar at_:Nat} {Q:m7}
noncomputable def b8S (nd:List I3) (ties:List (Nat×Nat)) (mk:List Nat) (r:En) (H:Hp) (k:Nat):Prop :=
 (r a1d=some .none/\k=mk.sum+1)\/∃ b wk,r a1d=some (.ref b)/\H b=some (.list (iL wk))/\mk.sum<=wk.sum/\(mk.sum=wk.sum->mk=wk/\a4k nd ties wk)/\k=wk.sum
theorem b6d {H0 H:Hp} {mk:List Nat} (har:H0 ar=some (.list (nd.map r8))) (hat:H0 at_=some (.list (ties.map a0B))) (hl:nd.length<=17) (two:∀ x∈nd,x.2.length<=2) (kid:∀ x∈nd,∀ k∈x.2,k < nd.length) (tl:ties.length<=3) (tlt:∀ p∈ties,p.1 < nd.length/\p.2 < nd.length)
  (k:m5 H0 H) (vs:Vs ar at_ r) (hm:r h9=some (.ref a)) (ha:H a=some (.list (iL mk))) (M:Mks nd ties mk)
  (hW:∀ r1 H1 a1 mk1,m5 H0 H1->Vs ar at_ r1->r1 h9=some (.ref a1)->H1 a1=some (.list (iL mk1))->Mks nd ties mk1->b8S nd ties mk1 r1 H1 mk.sum->W .next r1 H1) :
  (f6 (s6 (l7 a1d) (J8 .list (d6 (d7 h9) f4)))
  (f6 (s6 (l7 V7) a1c)
  (f6 (O6 [G4,F6] false (a5j (d7 n9))
   (f6 (s6 (l7 a1q) (j7 (d7 V7) J4 (d6 (y7 .add (n5 (d6 (l6 (d7 F6) (j6 (.int 0))) f4)) (J8 .tuple (d6 (v8 (l6 (d7 h9) (d7 y8)) [y8] true (w5 (a2g (d7 F6) (j6 (.int 1)))) B6) f4))) (d6 (d7 G4) f4))))
   (f6 (O6 [T1,y9] false (w5 (y7 .add (d7 I8) (J5 (d6 (n5 (d6 (d7 a1q) (d6 (d7 G4) f4))) f4))))
    (f6 (s6 (Q9 [(l7 L9),(l7 S6)]) (n5 (d6 (J8 .min (d6 (l6 (d7 h9) (d7 T1)) (d6 (l6 (d7 h9) (d7 y9)) f4))) (d6 (J8 .max (d6 (l6 (d7 h9) (d7 T1)) (d6 (l6 (d7 h9) (d7 y9)) f4))) f4))))
    (f6 (s6 (l7 h9) (v8 (a2B (B3 .eq (d7 K6) (d7 S6)) (d7 L9) (d7 K6)) [K6] true (w5 (d7 h9)) B6))
    m6)))
   m6)))
  m6))) K r H W:=by
 refine g8 (z0 (O8 (d9 (f9 hm (g9 ⟨a,iL mk,rfl,ha,by refine b9 (m9 ..) ?_;refine b9 M.len ?_;exact o7 hl,λb hb=>B7 ?_⟩)))))
 have k1:m5 H0 (H.set b (.list (iL mk))):=k.trans (.new hb);have ha1:(H.set b (.list (iL mk))) a=some (.list (iL mk)):=m5.new hb _ _ ha;have hb1:(H.set b (.list (iL mk))) b=some (.list (iL mk)):=l9;generalize H.set b (.list (iL mk))=H1 at k1 ha1 hb1 ⊢;refine g8 (z0 λs hs=>B7 ?_);have h0:=k1.off hs;have k2:m5 H0 (H1.set s (.dict [] 0)):=k1.trans (.new hs);have ha2:(H1.set s (.dict [] 0)) a=some (.list (iL mk)):=m5.new hs _ _ ha1
 have hb2:(H1.set s (.dict [] 0)) b=some (.list (iL mk)):=m5.new hs _ _ hb1;have hs2:(H1.set s (.dict [] 0)) s=some (.dict (knV []) 0):=l9;generalize H1.set s (.dict [] 0)=H2 at k2 ha2 hb2 hs2 ⊢;refine g8 (Z6 (b3p (show ((r.set a1d (.ref b)).set V7 (.ref s)) n9=some (.ref ar) from vs.rows) (k2 _ _ har) ⟨_,R7 (src:=.enum ar) (a3L nd) (b4Z nd ties H0 ar at_ b s mk) (λi r1 H1 hI=>?_) (λr1 H1 hI=>?_) (λi v r1 H1 hv hI W' hW' _=>?_) ((a3L nd).length+1) 0 _ _ (zo0) (Nat.zero_le _) ⟨a,mk,[],0,k2,⟨vs.rows,vs.ties⟩,hm,rfl,rfl,ha2,hb2,hs2,M,λp hp=>(by cases hp),Nat.le_refl _,Nat.le_refl _,λ_=>⟨rfl,λh=>absurd h (Nat.lt_irrefl 0),λj x hj=>absurd hj (Nat.not_lt_zero _)⟩⟩⟩))
 ·refine b72 hI λ_ _ _ _ k _=>?_;clear hI;refine ⟨_,k _ _ har,?_⟩;refine b9 (a2P ..) ?_;refine b9 List.getElem?_map ?_;refine b9 (Option.map_map ..) ?_;rfl
 ·refine a0v hI λa1 mk1 sn ep k3 v3 m3 w3 s3 a3 b3 d3 M3 S3 l3 R3=>?_;clear hI;rw [a5O] at R3;refine eA (b1r R3 λp hp=>(tlt p hp).1) λe1 e2=>?_;exact hW r1 H1 a1 mk1 k3 v3 m3 a3 M3 (.inr ⟨b,mk,w3,b3,e1,e2,rfl⟩)
 ·rw [a2P] at hv;refine i9 (Option.map_eq_some_iff.mp hv) λx hx q1=>?_;subst q1;exact ⟨_,a0z,b1H hI h0 hat hl tl two kid tlt hx hW'⟩
theorem a8Y (hF:F 0 N5=some a00) (har:H ar=some (.list (nd.map r8))) (hat:H at_=some (.list (ties.map a0B))) (hl:nd.length<=17) (two:∀ x∈nd,x.2.length<=2) (kid:∀ x∈nd,∀ k∈x.2,k < nd.length) (tl:ties.length<=3) (tlt:∀ p∈ties,p.1 < nd.length/\p.2 < nd.length)
  (q:∀ H' a mk,m5 H H'->H' a=some (.list (iL mk))->Mks nd ties mk->a4k nd ties mk->Q (.ref a) H'):(j5 F (n+1)).call 0 N5 [.ref ar,.ref at_] H Q:=by
 have nl:(nd.map r8).length=nd.length:=c7x ..;refine t0 hF rfl (g8 (z0 (D1 (d9 (b4I (O8 (d9 (f9 rfl (g9 (B1 har (by refine b9 nl ?_;exact o7 hl) ⟨(nd.length:Nat),by refine b9 nl ?_;rfl,by unfold o5;exact b7o,by unfold o5;exact c4B hl,λa ha=>d9 (m8 (g9 (a4T (.inl rfl) ?_)))⟩))))))))))
 refine b9 (a0y ..) ?_;have k1:m5 H (H.set a (.list (iL (List.range nd.length)))):=.new ha;refine g8 (b3l (λk r1 H1=>∃ a1 mk1,m5 H H1/\Vs ar at_ r1/\r1 h9=some (.ref a1)/\H1 a1=some (.list (iL mk1))/\Mks nd ties mk1/\b8S nd ties mk1 r1 H1 k) _ ⟨a,_,k1,⟨rfl,rfl⟩,rfl,l9,c64,.inl ⟨rfl,rfl⟩⟩ λk r1 H1 hI W hW=>?_);refine a40 hI λa1 mk1 k2 v2 m2 a2 M2 w2=>?_;clear hI;rcases w2 with ⟨w3,rfl⟩ | ⟨b,wk,w3,b3,le,eq,rfl⟩
 ·refine G1 (f9 m2 (f9 w3 ⟨false,.inl (.inr (.inr ⟨a1,_,rfl,rfl,a2,rfl⟩)),λ_=>?_,(λt=>nomatch t)⟩))
  exact b6d har hat hl two kid tl tlt k2 v2 m2 a2 M2 λr3 H3 a3 mk3 k3 v3 m3 h3 M3 W3=>hW _ _ _ (Nat.lt_succ_self _) ⟨a3,mk3,k3,v3,m3,h3,M3,W3⟩
 ·refine G1 (f9 m2 (f9 w3 (a7O a2 b3 (a2L _) (a2L _) (λne=>⟨λ_=>?_,(λt=>nomatch t)⟩) λe=>⟨(λt=>nomatch t),λ_=>?_⟩)))
  ·have lt:mk1.sum < wk.sum:=by
    rcases Nat.lt_or_eq_of_le le with h | h
    ·exact h
    ·exact absurd (congrArg iL (eq h).1) ne
   exact b6d har hat hl two kid tl tlt k2 v2 m2 a2 M2 λr3 H3 a3 mk3 k3 v3 m3 h3 M3 W3=>hW _ _ _ lt ⟨a3,mk3,k3,v3,m3,h3,M3,W3⟩
  ·have e:=b1l e;subst e;refine g8 (E0 (f9 m2 ?_));exact q _ _ _ k2 a2 M2 (eq rfl).2
end
noncomputable def tV (op:String) (ts:List d8):d8:=.tup (.str op :: ts)
inductive Ev' (nd:List I3) (f:Nat->Nat):d8->Nat->Nat->Prop
 | zero {n:Nat} {op:String}:nd[n]?=some (op,[])->Ev' nd f (tV op []) 1 (f n)
 | one {n k s:Nat} {op:String} {t:d8}:nd[n]?=some (op,[k])->Ev' nd f t s (f k)->Ev' nd f (tV op [t]) (1+s) (f n)
 | two {n k l s r:Nat} {op:String} {t u:d8}:nd[n]?=some (op,[k,l])->Ev' nd f t s (f k)->Ev' nd f u r (f l)->Ev' nd f (tV op [t,u]) (1+s+r) (f n)
noncomputable def Shp (nd:List I3):Prop:=∀ x∈nd,(x.2=[]/\(x.1="a"\/x.1="b"))\/(x.1="f"/\∃ k,x.2=[k])\/(x.1="g"/\∃ k l,x.2=[k,l])
noncomputable def Tm:Nat->List d8
 | 0=>[]
 | m+1=>[tV "a" [],tV "b" []]++((Tm m).map λt=>tV "f" [t])++((Tm m).flatMap λt=>(Tm m).map λu=>tV "g" [t,u])
noncomputable def szN:Nat->d8->Nat
 | f+1,.tup (_ :: ps)=>1+(ps.map (szN f)).sum
 | _,_=>0
section
variable {nd:List I3} {f:Nat->Nat} {t:d8} {s c:Nat}
theorem b1J (e:Ev' nd f t s c):1<=s:=by cases e <;> omega
theorem c2L (S:Shp nd) (e:Ev' nd f t s c):∀ m,s<=m->t∈Tm m:=by
 induction e with
 | zero h =>
  intro m hm;cases m with
  | zero=>exact (c1r hm).elim
  | succ m =>
   have:=S _ (c7w h);simp only [List.cons_ne_nil,exists_false,and_false,or_false,false_and,reduceCtorEq,true_and] at this;rcases this with rfl | rfl <;> simp [Tm]
 | @one n k s op t h _ ih =>
  intro m hm;cases m with
  | zero=>exact (c3O hm).elim
  | succ m =>
   have:=S _ (c7w h);have e:op="f":=by rcases this with ⟨h1,_⟩ | ⟨h1,_⟩ | ⟨_,k,l,h1⟩ <;> first | exact h1 | cases h1
   subst e;unfold Tm;exact List.mem_append_left _ (List.mem_append_right _ (List.mem_map.mpr ⟨t,ih m (b4H hm),rfl⟩))
 | @two n k l s r op t u h _ _ ih1 ih2 =>
  intro m hm;cases m with
  | zero=>exact (c2t hm).elim
  | succ m =>
   have:=S _ (c7w h);have e:op="g":=by rcases this with ⟨h1,_⟩ | ⟨_,k,h1⟩ | ⟨h1,_⟩ <;> first | exact h1 | cases h1
   subst e;unfold Tm;exact List.mem_append_right _ (List.mem_flatMap.mpr ⟨t,ih1 m (b4G hm),List.mem_map.mpr ⟨u,ih2 m (b5h hm),rfl⟩⟩)
theorem a4o (e:Ev' nd f t s c):∀ k,s<=k->szN k t=s:=by
 induction e with
 | zero h =>
  intro k hk;cases k with
  | zero=>exact c4Q hk
  | succ k=>rfl
 | one h _ ih =>
  intro k hk;cases k with
  | zero=>exact b8U hk
  | succ k =>
   show 1+(szN k _+0)=_;refine b9 (ih k (b4H hk)) ?_;rfl
 | two h _ _ ih1 ih2 =>
  intro k hk;cases k with
  | zero=>exact c5b hk
  | succ k =>
   show 1+(szN k _+(szN k _+0))=_;refine b9 (ih1 k (b4G hk)) ?_;refine b9 (ih2 k (b5h hk)) ?_;exact c0U
theorem b9V (e:Ev' nd f t s c):∀ k,tyN k t=true->szN k t=s:=by
 induction e with
 | zero h =>
  intro k hk;cases k with
  | zero=>simp [tyN] at hk
  | succ k=>rfl
 | one h _ ih =>
  intro k hk;cases k with
  | zero=>simp [tyN] at hk
  | succ k =>
   simp [tyN,tV] at hk;show 1+(szN k _+0)=_;refine b9 (ih k hk) ?_;rfl
 | two h _ _ ih1 ih2 =>
  intro k hk;cases k with
  | zero=>simp [tyN] at hk
  | succ k =>
   simp [tyN,tV] at hk;show 1+(szN k _+(szN k _+0))=_;refine b9 (ih1 k hk.1) ?_;refine b9 (ih2 k hk.2) ?_;exact c0U
theorem b1p (e:Ev' nd f t s c):∀ k,s<=k->B8 k t=true:=by
 induction e with
 | zero h =>
  intro k hk;cases k with
  | zero=>exact (c1r hk).elim
  | succ k=>rfl
 | one h _ ih =>
  intro k hk;cases k with
  | zero=>exact (c3O hk).elim
  | succ k=>exact Bool.and_eq_true_iff.mpr ⟨ih k (b4H hk),rfl⟩
 | two h _ _ ih1 ih2 =>
  intro k hk;cases k with
  | zero=>exact (c2t hk).elim
  | succ k=>exact Bool.and_eq_true_iff.mpr ⟨ih1 k (b4G hk),Bool.and_eq_true_iff.mpr ⟨ih2 k (b5h hk),rfl⟩⟩
theorem a2c (e:Ev' nd f t s c):x9 t=2:=by cases e <;> rfl
theorem c6R (e:Ev' nd f t s c):∃ l,t=.tup l:=by cases e <;> exact ⟨_,rfl⟩
end
theorem R0 {α β:Type} (l:List α) (g:α->List β) (k:Nat) (h:∀ a∈l,(g a).length<=k):(l.flatMap g).length<=l.length * k:=by
 induction l with
 | nil=>simp
 | cons a l ih =>
  refine b9 List.flatMap_cons ?_;refine b9 List.length_append ?_;refine b9 List.length_cons ?_;have h1:=h a (List.mem_cons_self);have h2:=ih λb hb=>h b (List.mem_cons_of_mem _ hb);refine b9 (Nat.add_mul ..) ?_;exact c3d h1 h2
theorem a8M (m:Nat):(Tm (m+1)).length<=2+(Tm m).length+(Tm m).length * (Tm m).length:=by
 conv=>lhs;unfold Tm
 refine b9 List.length_append ?_;refine b9 List.length_append ?_;refine b9 (c7x ..) ?_;have:=R0 (Tm m) (λt=>(Tm m).map λu=>tV "g" [t,u]) (Tm m).length λa _=>by refine b9 (c7x ..) ?_;exact Nat.le_refl _
 show 2+_+_<=_;exact b9y this
theorem tm3:∀ m,m<=3->(Tm m).length<=74:=λm hm=>by
 have h0:(Tm 0).length=0:=rfl;have h1:(Tm 1).length<=2:=by have:=a8M 0;rw [h0] at this;omega
 have h2:(Tm 2).length<=8:=by
  have:(Tm 2).length<=_:=a8M 1;have:=Nat.mul_le_mul h1 h1;exact c2V h1 ‹_› this
 have h3:(Tm 3).length<=74:=by
  have:(Tm 3).length<=_:=a8M 2;have:=Nat.mul_le_mul h2 h2;exact c50 h2 ‹_› this
 obtain rfl | rfl | rfl | rfl:m=0\/m=1\/m=2\/m=3:=by exact c0H hm
 ·refine b9 h0 ?_;exact c2C
 ·exact c0L h1
 ·exact c3i h2
 ·exact h3
theorem a3j {α:Type} {l m:List α} (h:l.Nodup) (s:∀ a∈l,a∈m):l.length<=m.length:=by
 classical
 induction l generalizing m with
 | nil=>exact Nat.zero_le _
 | cons a l ih =>
  rw [List.nodup_cons] at h;have ha:=s a (List.mem_cons_self);have:=ih (m:=m.erase a) h.2 λb hb=>(List.mem_erase_of_ne λe=>h.1 (by refine t6 e ?_;exact hb)).mpr (s b (List.mem_cons_of_mem _ hb))
  rw [List.length_erase_of_mem ha] at this;have:=List.length_pos_of_mem ha;refine b9 List.length_cons ?_;exact c42 ‹_› this
section
variable {ties:List (Nat×Nat)} {st:St}
theorem b2A (D:a0o st) (w:st.wt=[]) (hx:st.nd[i]?=some x):∃ p,w9 st.kn (v0 st.up x)=some p/\f8 st.up p=f8 st.up i:=by
 rcases D i x hx with h | ⟨p,h1,h2⟩
 ·rw [w] at h;cases h
 ·exact ⟨p,h1,h2.resolve_right λh=>h⟩
theorem a3m (D:a0o st) (w:st.wt=[]) (hx:st.nd[i]?=some x) {cs:List Nat} (h:cs.map (f8 st.up)=x.2.map (f8 st.up)):Y2 st x.1 cs=(f8 st.up i:Nat):=by
 refine i9 (b2A D w hx) λp h1 h2=>?_;unfold Y2;have e:(x.1,cs.map (f8 st.up))=v0 st.up x:=by unfold v0;refine b9 h ?_;rfl
 refine b9 e ?_;refine b9 h1 ?_;refine t6 h2 ?_;rfl
theorem b7M (I:C5 ties st) (D:a0o st) (w:st.wt=[]) (e:Ev' st.nd (f8 st.up) t s c):∀ k,s<=k->J2 st k t=(c:Nat):=by
 induction e with
 | @zero n op h =>
  intro k hk;cases k with
  | zero=>exact b87 hk
  | succ k =>
   show (if (-1:Int)∈[] then -1 else Y2 st op [])=_
   refine b9 (if_neg (by simp)) ?_
   exact a3m D w h rfl
 | @one n k1 s op t h _ ih =>
  intro k hk;cases k with
  | zero=>exact c2F hk
  | succ k =>
   have e1:=ih k (b4H hk);show (if (-1:Int)∈[J2 st k t] then -1 else Y2 st op [(J2 st k t).toNat])=_
   have l1:=I.kid _ (c7w h) k1 (by simp)
   refine b9 e1 ?_;refine b9 (if_neg (by simp)) ?_
   exact a3m D w h (by show [f8 st.up (f8 st.up k1)]=_;refine b9 (I5 I.up l1) ?_;rfl)
 | @two n k1 k2 s r op t u h _ _ ih1 ih2 =>
  intro k hk;cases k with
  | zero=>exact c2J hk
  | succ k =>
   have e1:=ih1 k (b4G hk);have e2:=ih2 k (b5h hk);show (if (-1:Int)∈[J2 st k t,J2 st k u] then -1 else Y2 st op [(J2 st k t).toNat,(J2 st k u).toNat])=_
   have l1:=I.kid _ (c7w h) k1 (by simp)
   have l2:=I.kid _ (c7w h) k2 (by simp)
   refine b9 e1 ?_;refine b9 e2 ?_;refine b9 (if_neg (by simp)) ?_
   exact a3m D w h (by show [f8 st.up (f8 st.up k1),f8 st.up (f8 st.up k2)]=_;refine b9 (I5 I.up l1) ?_;refine b9 (I5 I.up l2) ?_;rfl)
theorem a1W (I:C5 ties st) (e:Ev' st.nd (f8 st.up) t s c):f8 st.up c=c:=by
 cases e with
 | zero h=>exact I5 I.up (I.nlt h)
 | one h _=>exact I5 I.up (I.nlt h)
 | two h _ _=>exact I5 I.up (I.nlt h)
theorem b4T (I:C5 ties st) {s:String} {cs:List Nat} (h:Y2 st s cs=(c:Nat)):∃ (p:Nat) (y:I3),st.nd[p]?=some y/\f8 st.up p=c/\y.1=s/\y.2.map (f8 st.up)=(cs.map (f8 st.up)).map (f8 st.up):=by
 unfold Y2 at h;cases e:w9 st.kn (s,cs.map (f8 st.up)) with
 | none=>rw [e] at h;simp at h
 | some p =>
  rw [e] at h;refine B2 (I.kn _ (U0 e)) λy y1 y2 y3=>?_;have h:((f8 st.up p:Nat):Int)=(c:Nat):=h;exact ⟨p,y,y1,by exact zo5 h,y2,y3⟩
theorem b8E (I:C5 ties st):∀ (k:Nat) (t:d8) (c:Nat),J2 st k t=(c:Nat)->∃ s,Ev' st.nd (f8 st.up) t s c:=by
 intro k;induction k with
 | zero=>intro t c h;unfold J2 at h;simp at h
 | succ k ih =>
  intro t c h;obtain ⟨op,ps,rfl⟩:∃ op ps,t=.tup (.str op :: ps):=by
   unfold J2 at h
   split at h
   ·exact ⟨_,_,rfl⟩
   ·exact (b92 h).elim
  have h:(if (-1:Int)∈ps.map (J2 st k) then -1 else Y2 st op ((ps.map (J2 st k)).map Int.toNat))=(c:Nat):=h
  by_cases z:(-1:Int)∈ps.map (J2 st k)
  ·rw [if_pos z] at h;exact (b92 h).elim
  rw [if_neg z] at h;refine I6 (b4T I h) λp y y1 y2 y3 y4=>?_;have two:=I.two y (c7w y1);have one:∀ u∈ps,∃ s d,Ev' st.nd (f8 st.up) u s d/\(J2 st k u).toNat=d:=λu hu=>by
   rcases a6Q I k u with e | ⟨d,_,e⟩
   ·exact absurd (List.mem_map.mpr ⟨u,hu,e⟩) z
   ·refine eE (ih u d e) λs hs=>?_;exact ⟨s,d,hs,by refine b9 e ?_;rfl⟩
  have len:ps.length=y.2.length:=by
   have:=congrArg List.length y4;simpa using this.symm
  obtain ⟨yo,yk⟩:=y;have y3:yo=op:=y3;subst y3
  match ps,yk,len,y4,one,y1,two with
  | [],[],_,_,_,y1,_=>refine t6 y2 ?_;exact ⟨1,.zero y1⟩
  | [u],[k1],_,y4,one,y1,_ =>
   refine A6 (one u (by simp)) λs d h1 h2=>?_
   have e:f8 st.up k1=d:=by
    simp only [List.map_cons,List.map_nil,List.cons.injEq,and_true] at y4;rw [h2,a1W I h1,a1W I h1] at y4;exact y4
   refine t6 y2 ?_;exact ⟨_,.one y1 (by refine b9 e ?_;exact h1)⟩
  | [u,v],[k1,k2],_,y4,one,y1,_ =>
   refine A6 (one u (by simp)) λs d h1 h2=>?_
   refine A6 (one v (by simp)) λr d2 h3 h4=>?_
   simp only [List.map_cons,List.map_nil,List.cons.injEq,and_true] at y4;have e:f8 st.up k1=d:=by rw [h2,a1W I h1,a1W I h1] at y4;exact y4.1
   have e2:f8 st.up k2=d2:=by rw [h4,a1W I h3,a1W I h3] at y4;exact y4.2
   refine t6 y2 ?_;exact ⟨_,.two y1 (by refine b9 e ?_;exact h1) (by refine b9 e2 ?_;exact h3)⟩
  | _ :: _ :: _ :: _,_ :: _ :: _ :: _,_,_,_,_,two=>simp at two
theorem b77 (I:C5 ties st) (D:a0o st) (w:st.wt=[]) (hz:szN k t<=4) (h4:4<=k) (ty:tyN k t=true):(∃ s,s<=4/\Ev' st.nd (f8 st.up) t s c)↔J2 st k t=(c:Nat):=by
 constructor
 ·rintro ⟨s,h1,h2⟩
  exact b7M I D w h2 k (c2a h4 h1)
 ·intro h;refine eE (b8E I k t c h) λs hs=>?_;have:=b9V hs k ty;exact ⟨s,by exact c6w hz this,hs⟩
end
end
section
open Classical
theorem X0 {p:d8×d8} {k:d8}:s9 (p :: es) k=if p.1=k then some p.2 else s9 es k:=by
 unfold s9;refine b9 List.find?_cons ?_;by_cases h:p.1=k
 ·refine b9 (decide_eq_true h) ?_;refine b9 (if_pos h) ?_;rfl
 ·refine b9 (decide_eq_false h) ?_;refine b9 (if_neg h) ?_;rfl
theorem b2r {k k' v:d8}:∀ es:List (d8×d8),s9 (es++[(k,v)]) k'=(s9 es k').or (if k=k' then some v else none):=by
 intro es;induction es with
 | nil=>refine b9 (List.nil_append ..) ?_;refine b9 X0 ?_;rfl
 | cons p es ih =>
  refine b9 List.cons_append ?_;refine b9 X0 ?_;refine b9 X0 ?_;refine b9 ih ?_
  split <;> rfl
theorem b2j {k k' v:d8}:∀ es:List (d8×d8),s9 (es.map λp=>if p.1=k then (p.1,v) else p) k'=if k'=k then (s9 es k').map λ_=>v else s9 es k':=by
 intro es;induction es with
 | nil =>
  show (none:Option d8)=if k'=k then none else none
  split <;> rfl
 | cons p es ih =>
  refine b9 List.map_cons ?_;refine b9 X0 ?_;refine b9 X0 ?_;refine b9 ih ?_;by_cases h:p.1=k
  ·refine b9 (if_pos h) ?_;by_cases h2:p.1=k'
   ·refine b9 (if_pos h2) ?_;refine b9 (if_pos h2) ?_;refine b9 (if_pos (h2.symm.trans h)) ?_;rfl
   ·refine b9 (if_neg h2) ?_;refine b9 (if_neg h2) ?_;rfl
  ·refine b9 (if_neg h) ?_;by_cases h2:p.1=k'
   ·refine b9 (if_pos h2) ?_;refine b9 (if_pos h2) ?_;refine b9 (if_neg λe=>h (h2.trans e)) ?_;rfl
   ·refine b9 (if_neg h2) ?_;refine b9 (if_neg h2) ?_;rfl
theorem a3d {k k' v:d8}:s9 (C6 es k v) k'=if k'=k then some v else s9 es k':=by
 unfold C6;by_cases h:(s9 es k).isSome=true
 ·refine b9 (if_pos h) ?_;refine b9 (b2j ..) ?_;by_cases e:k'=k
  ·refine b9 (if_pos e) ?_;refine b9 (if_pos e) ?_;refine b9 e ?_;refine eE (Option.isSome_iff_exists.mp h) λw hw=>?_;refine b9 hw ?_;rfl
  ·refine b9 (if_neg e) ?_;refine b9 (if_neg e) ?_;rfl
 ·refine b9 (if_neg h) ?_;refine b9 (b2r ..) ?_;have hn:s9 es k=none:=by simpa using h
  by_cases e:k'=k
  ·refine b9 (if_pos e) ?_;refine b9 e ?_;refine b9 hn ?_;refine b9 (if_pos rfl) ?_;rfl
  ·refine b9 (if_neg e) ?_;refine b9 (if_neg λz=>e z.symm) ?_;cases s9 es k' <;> rfl
theorem a7L {k v:d8} {p:d8×d8} (h:p∈C6 es k v):p.1=k\/∃ q∈es,q.1=p.1:=by
 unfold C6 at h
 split at h
 ·refine i9 (List.mem_map.mp h) λq hq q3=>?_;subst q3
  split
  ·rename_i e;exact .inl e
  ·exact .inr ⟨q,hq,rfl⟩
 ·rcases List.mem_append.mp h with h | h
  ·exact .inr ⟨p,h,rfl⟩
  ·refine b9 (List.mem_singleton.mp h) ?_;exact .inl rfl
theorem b1w {k v:d8}:(C6 es k v).length<=es.length+1:=by
 unfold C6
 split
 ·refine b9 (c7x ..) ?_;exact zo9
 ·refine b9 List.length_append ?_;exact Nat.le_refl _
noncomputable def ipV (p:Nat×Nat):d8×d8:=(.int (p.1:Nat),.ref p.2)
noncomputable def dfr (es:List (d8×d8)) (l:List (Nat×Nat)):List (d8×d8):=l.foldl (λes p=>C6 es (ipV p).1 (ipV p).2) es
theorem b3m (l:List (Nat×Nat)):A9 (l.map ipV)=dfr [] l:=by
 unfold A9 dfr;refine b9 List.foldl_map ?_;rfl
theorem b4R:∀ (l:List (Nat×Nat)) (es:List (d8×d8)),(∀ p∈l,p.1≠c)->s9 (dfr es l) (.int (c:Nat))=s9 es (.int (c:Nat)):=by
 intro l;induction l with
 | nil=>intro _ _;exact rfl
 | cons p l ih =>
  intro es h;show s9 (dfr (C6 es (ipV p).1 (ipV p).2) l) _=_;refine b9 (ih _ λq hq=>h q (List.mem_cons_of_mem _ hq)) ?_;refine b9 a3d ?_;rw [if_neg];intro e;have e:d8.int (c:Nat)=d8.int (p.1:Nat):=e;injection e with e
  exact h p (List.mem_cons_self) (c4u e)
theorem b54:∀ (l:List (Nat×Nat)) (es:List (d8×d8)),(∃ p∈l,p.1=c)->∃ a,(c,a)∈l/\s9 (dfr es l) (.int (c:Nat))=some (.ref a):=by
 intro l;induction l with
 | nil=>intro _ h;refine i9 h λp hp _=>?_;clear h;cases hp
 | cons p l ih =>
  intro es h;by_cases z:∃ q∈l,q.1=c
  ·refine i9 (ih (C6 es (ipV p).1 (ipV p).2) z) λa h1 h2=>?_;exact ⟨a,List.mem_cons_of_mem _ h1,h2⟩
  ·refine i9 h λq hq e=>?_;clear h;rcases List.mem_cons.mp hq with rfl | hq
   ·refine ⟨q.2,by refine t6 e ?_;exact List.mem_cons_self,?_⟩
    show s9 (dfr (C6 es (ipV q).1 (ipV q).2) l) _=_;refine b9 (b4R l _ λq hq e=>z ⟨q,hq,e⟩) ?_;refine b9 a3d ?_;refine b9 (if_pos (by refine t6 e ?_;rfl)) ?_;rfl
   ·exact absurd ⟨q,hq,e⟩ z
theorem b5s:∀ (l:List (Nat×Nat)) (es:List (d8×d8)),(∀ p∈es,x9 p.1=0)->∀ p∈dfr es l,x9 p.1=0:=by
 intro l;induction l with
 | nil=>intro _ h;exact h
 | cons p l ih =>
  intro es h;refine ih (C6 es (ipV p).1 (ipV p).2) λq hq=>?_;rcases a7L hq with e | ⟨q',h1,h2⟩
  ·refine b9 e ?_;rfl
  ·refine t6 h2 ?_;exact h q' h1
theorem b4V {l:List (Nat×Nat)} (n:(l.map (·.2)).Nodup) {a c d:Nat} (h1:(c,a)∈l) (h2:(d,a)∈l):c=d:=by
 refine eE (List.mem_iff_getElem?.mp h1) λi hi=>?_;refine eE (List.mem_iff_getElem?.mp h2) λj hj=>?_;have hi':=List.getElem?_eq_some_iff.mp hi;have e:i=j:=(List.getElem?_inj (by simpa using hi'.1) n).mp (by refine b9 List.getElem?_map ?_;refine b9 List.getElem?_map ?_;refine b9 hi ?_;refine b9 hj ?_;rfl)
 subst e;rw [hi] at hj;cases hj;rfl
structure Mds (H0 H:Hp) (mk:List Nat) (e:Nat) (es:List (d8×d8)) (ma:Nat->Nat):Prop where
 keep:m5 H0 H
 at_:∃ ep,H e=some (.dict es ep)
 off:H0 e=none
 ok:∀ c:Nat,B0 es (.int (c:Nat))
 get:∀ c∈mk,s9 es (.int (c:Nat))=some (.ref (ma c))
 moff:∀ c∈mk,H0 (ma c)=none
 inj:∀ c∈mk,∀ d∈mk,ma c=ma d->c=d
 ne:∀ c∈mk,ma c≠e
theorem a85 {H0 H:Hp} {mk:List Nat} (k0:m5 H0 H) (hm:r h9=some (.ref a)) (ha:H a=some (.list (iL mk))) (hl:mk.length<=17) (q:∀ H' e es ma,Mds H0 H' mk e es ma->(∀ c∈mk,H' (ma c)=some (.dict [] 0))->Q (.ref e) H'):a3t (d7 n_c) a1c [n_c] true (w5 (d7 h9)) K r H Q:=by
 refine f9 (K:=K) (Q:=λv H1=>itV v H1 _) hm (.inr (.inr (.inl ⟨a,_,rfl,ha,(iL mk).length+1,a37 (src:=.lst a) (iL mk) (λi acc H1=>m5 H H1/\∃ l:List (Nat×Nat),acc=(l.map ipV).map a1s/\l.map (·.1)=mk.take i/\(l.map (·.2)).Nodup/\∀ p∈l,H1 p.2=some (.dict [] 0)/\H p.2=none) (λi acc H1 hI=>?_) (λacc H1 hI=>?_) (λi v acc H1 hv hI=>?_) _ 0 [] H (zo0) (Nat.zero_le _) ⟨.refl _,[],rfl,rfl,List.nodup_nil,λp hp=>(by cases hp)⟩⟩)))
 ·exact ⟨_,hI.1 _ _ ha,rfl⟩
 ·refine b35 hI λk l q1 h1 h2 h3=>?_;clear hI;subst q1;rw [m9,List.take_length] at h1;refine ⟨l.map ipV,rfl,λep e he=>?_⟩;refine b9 (b3m ..) ?_;have key:∀ c,∃ x,c∈mk->(c,x)∈l/\s9 (dfr [] l) (.int (c:Nat))=some (.ref x):=λc=>by
   by_cases hc:c∈mk
   ·rw [<- h1] at hc;refine i9 (List.mem_map.mp hc) λp hp e=>?_;refine i9 (b54 l [] ⟨p,hp,e⟩) λx x1 x2=>?_;exact ⟨x,λ_=>⟨x1,x2⟩⟩
   ·exact ⟨0,λh=>absurd h hc⟩
  refine eE (Classical.axiomOfChoice key) λma hma=>?_;have ne:∀ c∈mk,ma c≠e:=λc hc z=>by
   have:=(h3 _ (hma c hc).1).1;rw [z,he] at this;cases this
  refine q _ e (dfr [] l) ma ⟨(k0.trans k).trans (.new he),⟨ep,l9⟩,(k0.trans k).off he,λc=>⟨rfl,b5s l [] λp hp=>by cases hp⟩,λc hc=>(hma c hc).2,λc hc=>k0.off (h3 _ (hma c hc).1).2,λc hc d hd z=>b4V h2 (hma c hc).1 (by refine b9 z ?_;exact (hma d hd).1),ne⟩ λc hc=>?_
  refine b9 (A0 (ne c hc)) ?_;exact (h3 _ (hma c hc).1).1
 ·refine b35 hI λk l q2 h1 h2 h3=>?_;clear hI;subst q2;have ll:l.length<=17:=by
   have:=congrArg List.length h1;rw [List.length_map] at this;refine b9 this ?_;exact Nat.le_trans (List.length_take_le' _ _) hl
  refine ⟨by refine b9 (c7x ..) ?_;refine b9 (c7x ..) ?_;exact o7 ll,λW hW=>?_⟩
  obtain ⟨c,hc,rfl⟩:∃ c,mk[i]?=some c/\v=.int (c:Nat):=by
   unfold iL at hv;rw [List.getElem?_map] at hv;refine i9 (Option.map_eq_some_iff.mp hv) λc' h1 h2=>?_;exact ⟨c',h1,h2.symm⟩
  refine ⟨_,A1,f9 (K:=K) (Q:=λkv H3=>a1c K (r.set n_c (.int (c:Nat))) H3 λvv H4=>(∃ x,kv=.int x)/\W [a1s (kv,vv)] H4) rfl λd hd=>⟨⟨_,rfl⟩,hW _ _ ⟨k.trans (.new hd),l++[(c,d)],?_,?_,?_,λp hp=>?_⟩⟩⟩
  ·refine b9 List.map_append ?_;refine b9 List.map_append ?_;rfl
  ·refine b9 List.map_append ?_;refine b9 h1 ?_;refine b9 List.take_add_one ?_;refine b9 hc ?_;rfl
  ·refine b9 List.map_append ?_;refine I9 (List.nodup_append ..) ?_;refine ⟨h2,by simp,λx hx y hy e=>?_⟩
   refine i9 (List.mem_map.mp hx) λp hp q4=>?_;subst q4;have:y=d:=by simpa using hy
   have h4:=(h3 p hp).1;rw [e,this,hd] at h4;cases h4
  ·rcases List.mem_append.mp hp with hp | hp
   ·refine ⟨?_,(h3 p hp).2⟩;refine b9 (A0 λz=>by have h4:=(h3 p hp).1;rw [z,hd] at h4;cases h4) ?_
    exact (h3 p hp).1
   ·refine b9 (List.mem_singleton.mp hp) ?_;exact ⟨l9,k.off hd⟩
end
section
theorem V1 {src:Src} {g:d8->List d8} {Q:List d8->Hp->Prop} (hs:∀ i,src.next H i l[i]?) (hl:(l.flatMap g).length<=o5)
  (h:∀ v∈l,∀ P:List d8->Hp->Prop,P (g v) H->turn v H P) (q:Q (l.flatMap g) H):∃ n,a0M turn src n 0 [] H Q:=by
 refine ⟨l.length+1,a37 l (λi acc H1=>H1=H/\acc=(l.take i).flatMap g) (λi acc H1 hi=>?_) (λacc H1 hi=>?_) (λi v acc H1 hv hi=>⟨?_,λW hW=>?_⟩) _ 0 [] H (zo0) (Nat.zero_le _) ⟨rfl,rfl⟩⟩
 ·refine b9 hi.1 ?_;exact hs i
 ·refine b9 hi.2 ?_;refine b9 List.take_length ?_;refine b9 hi.1 ?_;exact q
 ·refine b9 hi.2 ?_;refine Nat.le_trans ?_ hl
  conv=>rhs;rw [<- List.take_append_drop i l,List.flatMap_append,List.length_append]
  exact b4W
 ·refine b9 hi.1 ?_;refine h v (c7w hv) W (hW _ _ ⟨rfl,?_⟩);refine b9 hi.2 ?_;refine b9 List.take_add_one ?_;refine b9 hv ?_;refine b9 List.flatMap_append ?_;simp
noncomputable def a4n (w:List d8×Nat):d8:=.tup [.tup w.1,.int (w.2:Nat)]
noncomputable def Z9 (many:Nat) (sz:d8->Nat) (W:List (List d8×Nat)) (Us:List d8):List (List d8×Nat):=W.flatMap λw=>Us.flatMap λu=>if w.2+sz u<=many then [(w.1++[u],w.2+sz u)] else []
noncomputable def b3E (many:Nat) (sz:d8->Nat) (Us:List d8) (v:d8):List d8:=match v with
 | .tup [.tup ts,.int k]=>Us.flatMap λu=>if k+(sz u:Nat)<=(many:Nat) then [.tup [.tup (ts++[u]),.int (k+(sz u:Nat))]] else []
 | _=>[]
theorem a7b {α β γ:Type} (f:β->γ) (g:α->List β) (l:List α):(l.flatMap g).map f=l.flatMap λa=>(g a).map f:=by
 induction l with
 | nil=>rfl
 | cons a l ih=>refine b9 List.flatMap_cons ?_;refine b9 List.flatMap_cons ?_;refine b9 List.map_append ?_;refine b9 ih ?_;rfl
theorem b0y {sz:d8->Nat} {Us:List d8} (w:List d8×Nat):b3E many sz Us (a4n w)=(Us.flatMap λu=>if w.2+sz u<=many then [(w.1++[u],w.2+sz u)] else []).map a4n:=by
 refine b9 (a7b ..) ?_;show Us.flatMap _=_
 congr 1
 funext u
 have e:(((w.2:Nat):Int)+(sz u:Nat)<=(many:Nat))↔w.2+sz u<=many:=by exact c4N
 by_cases h:w.2+sz u<=many
 ·refine b9 (if_pos h) ?_;refine b9 (if_pos (e.mpr h)) ?_;rfl
 ·refine b9 (if_neg h) ?_;refine b9 (if_neg λz=>h (e.mp z)) ?_;rfl
theorem a5g {sz:d8->Nat} {W:List (List d8×Nat)} {Us:List d8}:(W.map a4n).flatMap (b3E many sz Us)=(Z9 many sz W Us).map a4n:=by
 unfold Z9;refine b9 (a7b ..) ?_;refine b9 (List.flatMap_map ..) ?_
 congr 1
 funext w
 exact b0y w
theorem a5z {sz:d8->Nat} {W:List (List d8×Nat)} {Us:List d8}:(Z9 many sz W Us).length<=W.length * Us.length :=
 R0 _ _ _ λw _=>by
  have:=R0 Us (λu=>if w.2+sz u<=many then [(w.1++[u],w.2+sz u)] else []) 1 λu _=>by split <;> simp
  exact c5H this
theorem T3 {sz:d8->Nat} {W:List (List d8×Nat)} {Us:List d8} {x:List d8×Nat}:x∈Z9 many sz W Us↔∃ w∈W,∃ u∈Us,w.2+sz u<=many/\x=(w.1++[u],w.2+sz u):=by
 unfold Z9;refine I9 (List.mem_flatMap ..) ?_;constructor
 ·rintro ⟨w,hw,h⟩
  refine i9 (List.mem_flatMap.mp h) λu hu h=>?_
  split at h
  ·rename_i z;exact ⟨w,hw,u,hu,z,List.mem_singleton.mp h⟩
  ·cases h
 ·rintro ⟨w,hw,u,hu,z,rfl⟩
  exact ⟨w,hw,List.mem_flatMap.mpr ⟨u,hu,by refine b9 (if_pos z) ?_;exact List.mem_singleton.mpr rfl⟩⟩
noncomputable def trV (l:List d8):List (d8×d8):=l.map λt=>(t,.bool true)
theorem b5X (l:List d8):(trV l).map (·.1)=l:=by unfold trV;refine b9 List.map_map ?_;exact List.map_id _
section
variable {K:Calls} {r:En} {H:Hp} {a w e za x kid many ep ep2 ep3:Nat} {mk:List Nat} {es Z:List (d8×d8)} {Us:List d8} {W:List (List d8×Nat)} {sz:d8->Nat}
theorem b2V (hk:r n_k=some (.int (k:Nat))) (hu:r n_u=some u) (hs:r F9=some (.ref za)) (hz:H za=some (.dict Z ep3)) (zok:B0 Z u) (zget:s9 Z u=some (.int (sz u:Nat))) (q:Q (.int ((k:Nat)+(sz u:Nat))) H):y7 .add (d7 n_k) (l6 (d7 F9) (d7 n_u)) K r H Q :=
 I4 (f9 hk (C9 (f9 hs (f9 hu (J0 hz zok zget (a0w q))))))
theorem b1j (hm:r h9=some (.ref a)) (ha:H a=some (.list (iL mk))) (ml:mk.length<=17) (hk:r y8=some (.int (kid:Nat))) (lk:kid < mk.length) (hw:r O1=some (.ref w)) (hww:H w=some (.list (W.map a4n)))
  (hmade:r I0=some (.ref e)) (hee:H e=some (.dict es ep)) (ok:B0 es (.int (l0 mk kid:Nat))) (get:s9 es (.int (l0 mk kid:Nat))=some (.ref x)) (hx:H x=some (.dict (trV Us) ep2))
  (hs:r F9=some (.ref za)) (hz:H za=some (.dict Z ep3)) (zok:∀ u∈Us,B0 Z u) (zget:∀ u∈Us,s9 Z u=some (.int (sz u:Nat))) (hmany:r t3=some (.int (many:Nat))) (len:∀ w∈W,w.1.length<=3) (tot:W.length * Us.length<=10000) (ul:Us.length<=10000)
  (q:∀ H' w',m5 H H'->H' w'=some (.list ((Z9 many sz W Us).map a4n))->Q (.ref w') H') :
  V5 (n5 (d6 (y7 .add (d7 P4) (n5 (d6 (d7 n_u) f4))) (d6 (y7 .add (d7 n_k) (l6 (d7 F9) (d7 n_u))) f4))) [P4,n_k] false (w5 (d7 O1)) [n_u] true (w5 (l6 (d7 I0) (l6 (d7 h9) (d7 y8)))) (S2 (B3 .le (y7 .add (d7 n_k) (l6 (d7 F9) (d7 n_u))) (d7 t3)) B6) K r H Q:=by
 refine f9 (K:=K) (Q:=λv H1=>itV v H1 _) hw (.inr (.inr (.inl ⟨w,_,rfl,hww,V1 (src:=.lst w) (l:=W.map a4n) (g:=b3E many sz Us) (λi=>⟨_,hww,rfl⟩) ?_ (λv hv P hP=>?_) λc hc=>?_⟩)))
 ·refine b9 a5g ?_;refine b9 (c7x ..) ?_;have:=a5z (many:=many) (sz:=sz) (W:=W) (Us:=Us);unfold o5;exact c1a tot this
 ·refine i9 (List.mem_map.mp hv) λy hy q1=>?_;subst q1;refine ⟨_,a0z,?_⟩;have hm':((r.set P4 (.tup y.1)).set n_k (.int (y.2:Nat))) h9=some (.ref a):=hm;have hk':((r.set P4 (.tup y.1)).set n_k (.int (y.2:Nat))) y8=some (.int (kid:Nat)):=hk;have hd':((r.set P4 (.tup y.1)).set n_k (.int (y.2:Nat))) I0=some (.ref e):=hmade;refine C9 (K:=K) (Q:=λv H1=>itV v H1 _) (f9 hd' (a1u hm' ha ml hk' lk (J0 hee ok get (.inr (.inr (.inr ⟨x,_,ep2,rfl,hx,V1 (src:=.keys x ((trV Us).map (·.1)) ep2) (l:=Us) (g:=λu=>if ((y.2:Nat):Int)+(sz u:Nat)<=(many:Nat) then [.tup [.tup (y.1++[u]),.int (((y.2:Nat):Int)+(sz u:Nat))]] else []) (λi=>⟨_,hx,rfl,by refine b9 (b5X ..) ?_;rfl⟩) ?_ (λu hu P' hP'=>?_) ?_⟩))))))
  ·have:=R0 Us (λu=>if ((y.2:Nat):Int)+(sz u:Nat)<=(many:Nat) then [d8.tup [.tup (y.1++[u]),.int (((y.2:Nat):Int)+(sz u:Nat))]] else []) 1 λu _=>by split <;> simp
   unfold o5;exact c3C ul this
  ·have hs':(((r.set P4 (.tup y.1)).set n_k (.int (y.2:Nat))).set n_u u) F9=some (.ref za):=hs;have hy':(((r.set P4 (.tup y.1)).set n_k (.int (y.2:Nat))).set n_u u) t3=some (.int (many:Nat)):=hmany;refine ⟨_,A1,a1Z (G1 (b2V rfl rfl hs' hz (zok u hu) (zget u hu) (f9 hy' (le_int ⟨λt=>a4Q ⟨λ_=>D1 (d9 (I4 (f9 rfl (D1 (d9 (f9 rfl (g9 (a2u ?_ (d9 (b2V rfl rfl hs' hz (zok u hu) (zget u hu) (g9 ?_))))))))))),(λt=>nomatch t)⟩,λt=>⟨(λt=>nomatch t),λ_=>?_⟩⟩))))⟩
   ·have:=len y hy;show y.1.length+1<=_;unfold o5;exact b4E this
   ·have t:=of_decide_eq_true t;rw [if_pos t] at hP';exact hP'
   ·have t:=of_decide_eq_false t;rw [if_neg t] at hP';exact hP'
  ·exact hP
 ·refine b9 a5g ?_;exact q _ c (.new hc) l9
end
noncomputable def a3w (many:Nat) (sz:d8->Nat) (M:Nat->List d8) (mk:List Nat) (op:String) (ks:List Nat):List (List d8×Nat):=ks.foldl (λW k=>Z9 many sz W (M (l0 mk k))) [([.str op],1)]
noncomputable def U1 (many:Nat) (sz:d8->Nat) (M:Nat->List d8) (mk:List Nat) (n:Nat) (x:I3):List (Nat×d8):=((a3w many sz M mk x.1 x.2).filter λw=>w.2==many).map λw=>(l0 mk n,d8.tup w.1)
theorem a5M {sz:d8->Nat} {M:Nat->List d8} {mk:List Nat} {op:String} {ks:List Nat} (h:ks[i]?=some k):a3w many sz M mk op (ks.take (i+1))=Z9 many sz (a3w many sz M mk op (ks.take i)) (M (l0 mk k)):=by
 unfold a3w;refine b9 List.take_add_one ?_;refine b9 h ?_;refine b9 List.foldl_append ?_;rfl
theorem V3 {mk:List Nat} (h:i < mk.length):l0 mk i∈mk:=c7w (a2W h)
section
variable {nd:List I3} {mk:List Nat} {M:Nat->List d8} {m:Nat}
theorem a18 {sz:d8->Nat} {p:Nat×d8}:p∈U1 many sz M mk n x↔∃ w∈a3w many sz M mk x.1 x.2,w.2=many/\p=(l0 mk n,d8.tup w.1):=by
 unfold U1;refine I9 (List.mem_map ..) ?_;constructor
 ·rintro ⟨w,hw,rfl⟩
  refine eA (List.mem_filter.mp hw) λh1 h2=>?_;exact ⟨w,h1,by simpa using h2,rfl⟩
 ·rintro ⟨w,h1,h2,rfl⟩
  exact ⟨w,List.mem_filter.mpr ⟨h1,by simpa using h2⟩,rfl⟩
noncomputable def b4b (nd:List I3) (mk:List Nat) (M:Nat->List d8) (m:Nat):Prop:=∀ c∈mk,∀ t,t∈M c↔∃ s,s<=m/\Ev' nd (l0 mk) t s c
theorem a6W (hl:mk.length=nd.length) (kid:∀ x∈nd,∀ k∈x.2,k < nd.length) (two:∀ x∈nd,x.2.length<=2) (hm:m<=4) (hM:b4b nd mk M m) (hx:nd[n]?=some x) (h:(c,t)∈U1 (m+1) (szN 8) M mk n x):Ev' nd (l0 mk) t (m+1) c:=by
 refine B2 (a18.mp h) λw h1 h2 h3=>?_;have hk:=kid x (c7w hx);have h2':=two x (c7w hx);have get:∀ k∈x.2,∀ u∈M (l0 mk k),Ev' nd (l0 mk) u (szN 8 u) (l0 mk k):=λk hk' u hu=>by
  refine i9 ((hM _ (V3 (by refine b9 hl ?_;exact hk k hk')) u).mp hu) λs s1 s2=>?_
  refine b9 (a4o s2 8 (c30 hm s1)) ?_;exact s2
 injection h3 with h4 h5
 subst h4 h5;obtain ⟨op,ks⟩:=x
 match ks,hx,h1,get,h2' with
 | [],hx,h1,_,_ =>
  have:=List.mem_singleton.mp h1;subst this;have h2:1=m+1:=h2;refine t6 h2 ?_;exact .zero hx
 | [k],hx,h1,get,_ =>
  have h1:w∈Z9 (m+1) (szN 8) [([.str op],1)] (M (l0 mk k)):=h1;refine a6y (T3.mp h1) λw0 hw0 u hu _ q2=>?_;subst q2;have:=List.mem_singleton.mp hw0;subst this;have h2:1+szN 8 u=m+1:=h2;refine t6 h2 ?_;exact .one hx (get k (by simp) u hu)
 | [k,l],hx,h1,get,_ =>
  have h1:w∈Z9 (m+1) (szN 8) (Z9 (m+1) (szN 8) [([.str op],1)] (M (l0 mk k))) (M (l0 mk l)):=h1;refine a6y (T3.mp h1) λw1 hw1 v hv _ q3=>?_;subst q3;refine a6y (T3.mp hw1) λw0 hw0 u hu _ q4=>?_;subst q4;have:=List.mem_singleton.mp hw0;subst this;have h2:1+szN 8 u+szN 8 v=m+1:=h2;refine t6 h2 ?_;exact .two hx (get k (by simp) u hu) (get l (by simp) v hv)
 | _ :: _ :: _ :: _,_,_,_,h2'=>simp at h2'
theorem b3M (hl:mk.length=nd.length) (kid:∀ x∈nd,∀ k∈x.2,k < nd.length) (hm:m<=4) (hM:b4b nd mk M m) (h:Ev' nd (l0 mk) t (m+1) c):∃ (n:Nat) (x:I3),nd[n]?=some x/\(c,t)∈U1 (m+1) (szN 8) M mk n x:=by
 generalize hr:m+1=r at h;cases h with
 | @zero n op hx =>
  refine ⟨n,_,hx,a18.mpr ⟨([.str op],1),List.mem_singleton.mpr rfl,by omega,rfl⟩⟩
 | @one n k s op u hx e =>
  have hk:=kid _ (c7w hx) k (by simp)
  have hu:=(hM _ (V3 (by refine b9 hl ?_;exact hk)) u).mpr ⟨s,by exact c0f hr,e⟩
  have z:=a4o e 8 (b9I hm hr);refine ⟨n,_,hx,a18.mpr ⟨([.str op,u],1+s),?_,by omega,rfl⟩⟩
  show _∈Z9 _ (szN 8) [([.str op],1)] (M (l0 mk k));exact T3.mpr ⟨_,List.mem_singleton.mpr rfl,u,hu,by show 1+_<=_;exact b9x z,by refine b9 z ?_;rfl⟩
 | @two n k l s q op u v hx e e2 =>
  have hk:=kid _ (c7w hx) k (by simp)
  have hl':=kid _ (c7w hx) l (by simp)
  have hu:=(hM _ (V3 (by refine b9 hl ?_;exact hk)) u).mpr ⟨s,by exact c0q hr,e⟩
  have hv:=(hM _ (V3 (by refine b9 hl ?_;exact hl')) v).mpr ⟨q,by exact c4c hr,e2⟩
  have z:=a4o e 8 (c3p hm hr);have z2:=a4o e2 8 (c0s hm hr);refine ⟨n,_,hx,a18.mpr ⟨([.str op,u,v],1+s+q),?_,by omega,rfl⟩⟩
  show _∈Z9 _ (szN 8) (Z9 _ (szN 8) [([.str op],1)] (M (l0 mk k))) (M (l0 mk l));exact T3.mpr ⟨([.str op,u],1+s),T3.mpr ⟨_,List.mem_singleton.mpr rfl,u,hu,by show 1+_<=_;exact c2E z,by refine b9 z ?_;rfl⟩,v,hv,by show 1+s+_<=_;exact c4a z2,by refine b9 z2 ?_;rfl⟩
theorem a26 {many:Nat} {sz:d8->Nat} {op:String} (hM:∀ c∈mk,(M c).length<=74):∀ ks:List Nat,(∀ k∈ks,k < mk.length)->∀ i,(a3w many sz M mk op (ks.take i)).length<=74 ^ i/\∀ w∈a3w many sz M mk op (ks.take i),w.1.length<=1+i
 | ks,hk,0=>⟨by show 1<=74 ^ 0;exact c49,λw hw=>by
   have:=List.mem_singleton.mp hw;subst this;exact Nat.le_refl _⟩
 | ks,hk,i+1=>by
  refine eA (a26 (many:=many) (sz:=sz) (op:=op) hM ks hk i) λh1 h2=>?_;by_cases h:i < ks.length
  ·have hg:=List.getElem?_eq_getElem h;refine b9 (a5M hg) ?_;have hb:=hM _ (V3 (hk _ (c7w hg)));refine ⟨Nat.le_trans a5z ?_,λw hw=>?_⟩
   ·refine b9 (Nat.pow_succ ..) ?_;exact Nat.mul_le_mul h1 hb
   ·refine a6y (T3.mp hw) λw0 hw0 u _ _ q1=>?_;subst q1;have:=h2 w0 hw0;show (w0.1++[u]).length<=_;refine b9 List.length_append ?_;simp only [List.length_singleton];exact c51 this
  ·have e:ks.take (i+1)=ks.take i:=by refine b9 (List.take_of_length_le (c4I h)) ?_;refine b9 (List.take_of_length_le (zo1 h)) ?_;rfl
   refine b9 e ?_;refine ⟨Nat.le_trans h1 ?_,λw hw=>by have:=h2 w hw;exact c1d this⟩
   exact Nat.pow_le_pow_right (b56) (zo9)
end
structure MV (ar a e za many:Nat) (r:En):Prop where
 rows:r n9=some (.ref ar)
 marks:r h9=some (.ref a)
 made:r I0=some (.ref e)
 sizes:r F9=some (.ref za)
 many:r t3=some (.int (many:Nat))
structure RH (H:Hp) (mk:List Nat) (e za:Nat) (es Z:List (d8×d8)) (ma:Nat->Nat) (M:Nat->List d8):Prop where
 e:∃ ep,H e=some (.dict es ep)
 m:∀ c∈mk,∃ ep,H (ma c)=some (.dict (trV (M c)) ep)
 z:∃ ep,H za=some (.dict Z ep)
structure RP (mk:List Nat) (es Z:List (d8×d8)) (ma:Nat->Nat) (M:Nat->List d8):Prop where
 ok:∀ c:Nat,B0 es (.int (c:Nat))
 get:∀ c∈mk,s9 es (.int (c:Nat))=some (.ref (ma c))
 zok:∀ c∈mk,∀ u∈M c,B0 Z u
 zget:∀ c∈mk,∀ u∈M c,s9 Z u=some (.int (szN 8 u:Nat))
 ml:mk.length<=17
 mlen:∀ c∈mk,(M c).length<=74
theorem a4r {c fr ep:Nat} (h:H c=some (.dict es ep)) (hf:H fr=some (.list l)):(H.set fr o) c=some (.dict es ep):=by
 refine b9 (A0 λz=>by rw [z,hf] at h;cases h) ?_;exact h
section
variable {K:Calls} {H0 H:Hp} {r:En} {ar a e za many:Nat} {mk:List Nat} {es Z:List (d8×d8)} {ma:Nat->Nat} {M:Nat->List d8}
theorem RH.keep {H':Hp} (R:RH H mk e za es Z ma M) (k:m5 H H'):RH H' mk e za es Z ma M :=
 ⟨let ⟨ep,h⟩:=R.e;⟨ep,k _ _ h⟩,λc hc=>let ⟨ep,h⟩:=R.m c hc;⟨ep,k _ _ h⟩,let ⟨ep,h⟩:=R.z;⟨ep,k _ _ h⟩⟩
theorem RH.put {fr:Nat} (R:RH H mk e za es Z ma M) (hf:H fr=some (.list l)):RH (H.set fr o) mk e za es Z ma M :=
 ⟨let ⟨ep,h⟩:=R.e;⟨ep,a4r h hf⟩,λc hc=>let ⟨ep,h⟩:=R.m c hc;⟨ep,a4r h hf⟩,let ⟨ep,h⟩:=R.z;⟨ep,a4r h hf⟩⟩
noncomputable def frV (p:Nat×d8):d8:=.tup [.int (p.1:Nat),p.2]
noncomputable def a9E (many i:Nat) (mk:List Nat) (v:d8):List d8:=match v with
 | .tup [.tup ts,.int k]=>if k=(many:Nat) then [.tup [.int (l0 mk i:Nat),.tup ts]] else []
 | _=>[]
theorem a5s (W:List (List d8×Nat)):(W.map a4n).flatMap (a9E many i mk)=((W.filter λw=>w.2==many).map λw=>(l0 mk i,d8.tup w.1)).map frV:=by
 induction W with
 | nil=>rfl
 | cons w W ih =>
  refine b9 List.map_cons ?_;refine b9 List.flatMap_cons ?_;refine b9 ih ?_;by_cases h:w.2=many
  ·refine b9 (List.filter_cons_of_pos (by simpa using h)) ?_
   have e:a9E many i mk (a4n w)=[frV (l0 mk i,d8.tup w.1)]:=by
    show (if ((w.2:Nat):Int)=(many:Nat) then _ else _)=_
    refine b9 (if_pos (c5Q h)) ?_;rfl
   refine b9 e ?_;rfl
  ·refine b9 (List.filter_cons_of_neg (by simpa using h)) ?_
   have e:a9E many i mk (a4n w)=[]:=by
    show (if ((w.2:Nat):Int)=(many:Nat) then _ else _)=_
    refine b9 (if_neg (c2o h)) ?_;rfl
   refine b9 e ?_;rfl
theorem b30 {fr i:Nat} {Fr:List (Nat×d8)} (k0:m5 H0 H) (v:MV ar a e za many r) (P:RP mk es Z ma M) (R:RH H mk e za es Z ma M) (ha0:H0 a=some (.list (iL mk))) (f0:H0 fr=none) (hfr:r P2=some (.ref fr)) (hff:H fr=some (.list (Fr.map frV))) (hn:r G4=some (.int (i:Nat))) (hrow:r F6=some (r8 x)) (two:x.2.length<=2) (hk:∀ k∈x.2,k < mk.length) (hi:i < mk.length) (fl:Fr.length<=100000)
  (q:∀ r' H',m5 H0 H'->MV ar a e za many r'->RH H' mk e za es Z ma M->r' P2=some (.ref fr)->H' fr=some (.list ((Fr++U1 many (szN 8) M mk i x).map frV))->W .next r' H') :
  (f6 (s6 (l7 O1) (J5 (d6 (n5 (d6 (n5 (d6 (l6 (d7 F6) (j6 (.int 0))) f4)) (d6 (j6 (.int 1)) f4))) f4)))
   (f6 (O6 [y8] true (w5 (a2g (d7 F6) (j6 (.int 1))))
    (f6 (s6 (l7 O1) (V5 (n5 (d6 (y7 .add (d7 P4) (n5 (d6 (d7 n_u) f4))) (d6 (y7 .add (d7 n_k) (l6 (d7 F9) (d7 n_u))) f4))) [P4,n_k] false (w5 (d7 O1)) [n_u] true (w5 (l6 (d7 I0) (l6 (d7 h9) (d7 y8)))) (S2 (B3 .le (y7 .add (d7 n_k) (l6 (d7 F9) (d7 n_u))) (d7 t3)) B6)))
    m6))
   (f6 (v7 (j7 (d7 P2) K1 (d6 (v8 (n5 (d6 (l6 (d7 h9) (d7 G4)) (d6 (d7 P4) f4))) [P4,n_k] false (w5 (d7 O1)) (S2 (B3 .eq (d7 n_k) (d7 t3)) B6)) f4)))
   m6))) K r H W:=by
 have two':(iL x.2).length<=2:=by refine b9 (m9 ..) ?_;exact two
 refine g8 (z0 (X6 (d9 (D1 (d9 (D1 (d9 (C9 (f9 hrow (m8 (a0T (i:=0) (x:=.str x.1) (by show (iL x.2).length+1<=_;unfold o5;exact zo2 two') rfl (g9 (d9 (m8 (g9 (g9 λw hw=>B7 ?_))))))))))))))))
 have k1:m5 H (H.set w (.list [.tup [.tup [.str x.1],.int 1]])):=.new hw;have hrow':(r.set O1 (.ref w)) F6=some (r8 x):=hrow;refine g8 (Z6 (a51 (K:=K) (f9 (K:=K) hrow' (m8 (K:=K) (a12 (v:=.str x.1) (l:=iL x.2) (by unfold o5;exact zo2 two') (.inl ⟨iL x.2,rfl,(iL x.2).length+1,R7 (src:=.seq (iL x.2)) (iL x.2) (λj r1 H1=>∃ w1,m5 H H1/\MV ar a e za many r1/\r1 P2=some (.ref fr)/\r1 G4=some (.int (i:Nat))/\r1 O1=some (.ref w1)/\H1 w1=some (.list ((a3w many (szN 8) M mk x.1 (x.2.take j)).map a4n))) (λ_ _ _ _=>rfl) (λr1 H1 hI=>?_) (λj u r1 H1 hu hI W' hW _=>?_) _ 0 _ _ (zo0) (Nat.zero_le _) ⟨w,k1,⟨v.rows,v.marks,v.made,v.sizes,v.many⟩,hfr,hn,rfl,l9⟩⟩))))))
 ·refine a0R hI λw1 k2 v2 f2 n2 w2 h2=>?_;clear hI;rw [m9,List.take_length] at h2;have wl:=a26 (many:=many) (sz:=szN 8) (op:=x.1) (M:=M) (mk:=mk) P.mlen x.2 hk x.2.length;rw [List.take_length] at wl;have wl1:(a3w many (szN 8) M mk x.1 x.2).length<=5476:=Nat.le_trans wl.1 (Nat.le_trans (Nat.pow_le_pow_right (b56) two) (by decide))
  have fl2:((Fr.map frV).length+(((a3w many (szN 8) M mk x.1 x.2).filter λw=>w.2==many).map λw=>(l0 mk i,d8.tup w.1)).length)<=o5:=by
   refine b9 (c7x ..) ?_;refine b9 (c7x ..) ?_;have:=List.length_filter_le (λw:List d8×Nat=>w.2==many) (a3w many (szN 8) M mk x.1 x.2);unfold o5;exact c5D fl wl1 this
  refine g8 (D6 (a2U (o9 f2) (k2 _ _ hff) (d9 (f9 (K:=K) (Q:=λv H1=>itV v H1 _) w2 (.inr (.inr (.inl ⟨w1,_,rfl,h2,V1 (src:=.lst w1) (g:=a9E many i mk) (λi=>⟨_,h2,rfl⟩) ?_ (λy hy P' hP=>?_) λc hc=>g9 ?_⟩)))))))
  ·refine b9 (a5s ..) ?_;refine b9 (c7x ..) ?_;exact b9C fl2
  ·refine i9 (List.mem_map.mp hy) λy hy q1=>?_;subst q1;have hm':((r1.set P4 (.tup y.1)).set n_k (.int (y.2:Nat))) h9=some (.ref a):=v2.marks;have hn':((r1.set P4 (.tup y.1)).set n_k (.int (y.2:Nat))) G4=some (.int (i:Nat)):=n2;have hy':((r1.set P4 (.tup y.1)).set n_k (.int (y.2:Nat))) t3=some (.int (many:Nat)):=v2.many;have hP:P' (if ((y.2:Nat):Int)=(many:Nat) then [.tup [.int (l0 mk i:Nat),.tup y.1]] else []) H1:=hP
   refine ⟨_,a0z,a1Z (G1 (f9 rfl (f9 hy' (a2D ⟨λt=>a4Q ⟨λ_=>D1 (d9 (a1u hm' (k2 _ _ (k0 _ _ ha0)) P.ml hn' hi (d9 (f9 rfl (g9 ?_))))),(λt=>nomatch t)⟩,λt=>⟨(λt=>nomatch t),λ_=>?_⟩⟩))))⟩
   ·have t:=of_decide_eq_true t;rw [if_pos t] at hP;exact hP
   ·have t:=of_decide_eq_false t;rw [if_neg t] at hP;exact hP
  ·refine b9 (a5s ..) ?_;have ne:c≠fr:=λz=>by
    have:=k2 _ _ hff;rw [<- z,hc] at this;cases this
   have k3:m5 H1 (H1.set c (.list ((((a3w many (szN 8) M mk x.1 x.2).filter λw=>w.2==many).map λw=>(l0 mk i,d8.tup w.1)).map frV))):=.new hc;have hf3:=k3 _ _ (k2 _ _ hff);refine a2Z hf3 l9 ne (by refine b9 (c7x (f:=frV) (as:=List.map _ _)) ?_;exact fl2) ?_
   refine t6 List.map_append ?_;exact q _ _ (((k0.trans k2).trans k3).put f0) v2 (((R.keep k2).keep k3).put hf3) f2 l9
 ·refine a0R hI λw1 k2 v2 f2 n2 w2 h2=>?_;clear hI;obtain ⟨k,hz,rfl⟩:∃ k,x.2[j]?=some k/\u=.int (k:Nat):=by
   unfold iL at hu;rw [List.getElem?_map] at hu;refine i9 (Option.map_eq_some_iff.mp hu) λc' h1 h2=>?_;exact ⟨c',h1,h2.symm⟩
  have jl:j < x.2.length:=(List.getElem?_eq_some_iff.mp hz).1;have hkk:=hk k (c7w hz);have hc:=V3 hkk;have wl:=a26 (many:=many) (sz:=szN 8) (op:=x.1) (M:=M) (mk:=mk) P.mlen x.2 hk j;have wl1:(a3w many (szN 8) M mk x.1 (x.2.take j)).length<=74:=Nat.le_trans wl.1 (Nat.le_trans (Nat.pow_le_pow_right (b56) (show j<=1 by exact c47 two jl)) (by decide))
  refine eE R.e λep he=>?_;refine eE (R.m _ hc) λep2 hm2=>?_;refine eE R.z λep3 hz3=>?_;have ml:=P.mlen _ hc;have tot:=Nat.mul_le_mul wl1 ml;refine ⟨_,A1,g8 (z0 (b1j (r:=r1.set y8 (.int (k:Nat))) v2.marks (k2 _ _ (k0 _ _ ha0)) P.ml rfl hkk w2 h2 v2.made (k2 _ _ he) (P.ok _) (P.get _ hc) (k2 _ _ hm2) v2.sizes (k2 _ _ hz3) (P.zok _ hc) (P.zget _ hc) v2.many (λw hw=>by have:=wl.2 w hw;exact b9R two jl this) (c3T tot) (b9Q ml) λH' w' k' h'=>B7 (hW _ _ ⟨w',k2.trans k',⟨v2.rows,v2.marks,v2.made,v2.sizes,v2.many⟩,f2,n2,rfl,?_⟩)))⟩
  refine b9 (a5M hz) ?_;exact h'
end
end
section
open Classical
noncomputable def a05 (l:List d8) (t:d8):List d8:=if t∈l then l else l++[t]
theorem b3N:u∈a05 l t↔u∈l\/u=t:=by
 unfold a05
 split
 ·rename_i h;exact ⟨.inl,λz=>z.elim id λe=>by refine b9 e ?_;exact h⟩
 ·refine I9 (List.mem_append ..) ?_;refine I9 (List.mem_singleton ..) ?_;rfl
theorem b1X (h:l.Nodup):(a05 l t).Nodup:=by
 unfold a05
 split
 ·exact h
 ·rename_i z;refine I9 (List.nodup_append ..) ?_;refine ⟨h,by simp,λa ha b hb e=>z ?_⟩
  rw [List.mem_singleton] at hb;refine t6 hb ?_;refine t6 e ?_;exact ha
theorem b3z:(a05 l t).length<=l.length+1:=by
 unfold a05
 split
 ·exact zo9
 ·refine b9 List.length_append ?_;exact Nat.le_refl _
theorem a6f:∀ l:List d8,s9 (trV l) t=if t∈l then some (.bool true) else none:=by
 intro l;induction l with
 | nil=>refine b9 (if_neg (by simp)) ?_;rfl
 | cons u l ih =>
  show s9 ((u,d8.bool true) :: trV l) t=_;refine b9 X0 ?_;refine b9 ih ?_;by_cases h:u=t
  ·refine b9 (if_pos h) ?_;refine b9 (if_pos (by refine b9 h ?_;exact List.mem_cons_self)) ?_;rfl
  ·refine b9 (if_neg h) ?_;by_cases h2:t∈l
   ·refine b9 (if_pos h2) ?_;refine b9 (if_pos (List.mem_cons_of_mem _ h2)) ?_;rfl
   ·refine b9 (if_neg h2) ?_;refine b9 (if_neg λz=>(List.mem_cons.mp z).elim (λe=>h e.symm) h2) ?_;rfl
theorem b5U:C6 (trV l) t (.bool true)=trV (a05 l t):=by
 unfold C6 a05;refine b9 (a6f ..) ?_;by_cases h:t∈l
 ·refine b9 (if_pos h) ?_;refine b9 (if_pos h) ?_;refine b9 (if_pos (show (some (d8.bool true)).isSome=true from rfl)) ?_;unfold trV;refine b9 List.map_map ?_;refine List.map_congr_left λu _=>?_;show (if u=t then (u,d8.bool true) else (u,d8.bool true))=_
  split <;> rfl
 ·refine b9 (if_neg h) ?_;refine b9 (if_neg h) ?_;refine b9 (if_neg (by simp)) ?_
  unfold trV;refine b9 List.map_append ?_;rfl
structure Sep (H0:Hp) (mk:List Nat) (e za:Nat) (ma:Nat->Nat):Prop where
 moff:∀ c∈mk,H0 (ma c)=none
 inj:∀ c∈mk,∀ d∈mk,ma c=ma d->c=d
 ne:∀ c∈mk,ma c≠e
 zoff:H0 za=none
 ze:za≠e
 zm:∀ c∈mk,za≠ma c
section
variable {K:Calls} {H0 H:Hp} {r:En} {ar a e za many:Nat} {mk:List Nat} {es Z:List (d8×d8)} {ma:Nat->Nat} {M:Nat->List d8}
theorem b2x (S:Sep H0 mk e za ma) (R:RH H mk e za es Z ma M) (hc:c∈mk):RH (H.set (ma c) (.dict (trV (a05 (M c) t)) ep)) mk e za es Z ma (λd=>if d=c then a05 (M c) t else M d) :=
 ⟨let ⟨ep,h⟩:=R.e;⟨ep,by refine b9 (A0 λz=>S.ne c hc z.symm) ?_;exact h⟩,λd hd=>by
  by_cases z:d=c
  ·subst z;exact ⟨ep,by refine b9 l9 ?_;refine b9 (if_pos rfl) ?_;rfl⟩
  ·refine eE (R.m d hd) λep h=>?_;exact ⟨ep,by refine b9 (A0 λw=>z (S.inj d hd c hc w)) ?_;refine b9 (if_neg z) ?_;exact h⟩,let ⟨ep,h⟩:=R.z;⟨ep,by refine b9 (A0 (S.zm c hc)) ?_;exact h⟩⟩
theorem b2Q (S:Sep H0 mk e za ma) (R:RH H mk e za es Z ma M) {Z':List (d8×d8)}:RH (H.set za (.dict Z' ep)) mk e za es Z' ma M :=
 ⟨let ⟨ep,h⟩:=R.e;⟨ep,by refine b9 (A0 λz=>S.ze z.symm) ?_;exact h⟩,λd hd=>let ⟨ep,h⟩:=R.m d hd;⟨ep,by refine b9 (A0 λz=>S.zm d hd z.symm) ?_;exact h⟩,⟨ep,l9⟩⟩
structure Put (mk:List Nat) (M M1:Nat->List d8) (Z Z1:List (d8×d8)) (many:Nat) (fs:List (Nat×d8)):Prop where
 mem:∀ c∈mk,∀ t,t∈M1 c↔t∈M c\/(c,t)∈fs
 nod:∀ c∈mk,(M1 c).Nodup
 len:∀ c∈mk,(M1 c).length<=(M c).length+fs.length
 size:∀ t,s9 Z1 t=if ∃ c,(c,t)∈fs then some (.int (many:Nat)) else s9 Z t
 kind:∀ p∈Z1,x9 p.1=2
 zlen:Z1.length<=Z.length+fs.length
theorem b34 {M1:Nat->List d8} {Z1:List (d8×d8)} {fs:List (Nat×d8)} (P:Put mk M M1 Z Z1 many fs) (ht:x9 t=2):Put mk M (λd=>if d=c then a05 (M1 c) t else M1 d) Z (C6 Z1 t (.int (many:Nat))) many (fs++[(c,t)]):=by
 have l1:(fs++[(c,t)]).length=fs.length+1:=List.length_append;refine ⟨λd hd u=>?_,λd hd=>?_,λd hd=>?_,λu=>?_,λp hp=>?_,?_⟩
 ·refine I9 (List.mem_append ..) ?_;refine I9 (List.mem_singleton ..) ?_;by_cases z:d=c
  ·subst z;show u∈(if d=d then a05 (M1 d) t else M1 d)↔_
   refine b9 (if_pos rfl) ?_;refine I9 (b3N ..) ?_;refine I9 (P.mem d hd u ..) ?_;constructor
   ·rintro ((h | h) | h)
    ·exact .inl h
    ·exact .inr (.inl h)
    ·exact .inr (.inr (by refine b9 h ?_;rfl))
   ·rintro (h | h | h)
    ·exact .inl (.inl h)
    ·exact .inl (.inr h)
    ·injection h with _ h;exact .inr h
  ·show u∈(if d=c then a05 (M1 c) t else M1 d)↔_
   refine b9 (if_neg z) ?_;refine I9 (P.mem d hd u ..) ?_;constructor
   ·rintro (h | h)
    ·exact .inl h
    ·exact .inr (.inl h)
   ·rintro (h | h | h)
    ·exact .inl h
    ·exact .inr h
    ·injection h with h;exact absurd h z
 ·by_cases z:d=c
  ·subst z;show (if d=d then a05 (M1 d) t else M1 d).Nodup
   refine b9 (if_pos rfl) ?_;exact b1X (P.nod d hd)
  ·show (if d=c then a05 (M1 c) t else M1 d).Nodup
   refine b9 (if_neg z) ?_;exact P.nod d hd
 ·refine b9 l1 ?_;have:=P.len d hd;by_cases z:d=c
  ·subst z;show (if d=d then a05 (M1 d) t else M1 d).length<=_
   refine b9 (if_pos rfl) ?_;have:=b3z (l:=M1 d) (t:=t);exact b6N ‹_› this
  ·show (if d=c then a05 (M1 c) t else M1 d).length<=_
   refine b9 (if_neg z) ?_;exact c3S this
 ·refine b9 a3d ?_;by_cases z:u=t
  ·refine b9 (if_pos z) ?_;refine b9 (if_pos ⟨c,List.mem_append_right _ (by refine b9 z ?_;exact List.mem_singleton.mpr rfl)⟩) ?_;rfl
  ·refine b9 (if_neg z) ?_;refine b9 (P.size u) ?_;have e:(∃ c_1,(c_1,u)∈fs)↔∃ c_1,(c_1,u)∈fs++[(c,t)]:=by
    constructor
    ·rintro ⟨d,h⟩;exact ⟨d,List.mem_append_left _ h⟩
    ·rintro ⟨d,h⟩
     rcases List.mem_append.mp h with h | h
     ·exact ⟨d,h⟩
     ·have:=List.mem_singleton.mp h;injection this with _ h;exact absurd h z
   by_cases w:∃ d,(d,u)∈fs
   ·refine b9 (if_pos w) ?_;refine b9 (if_pos (e.mp w)) ?_;rfl
   ·refine b9 (if_neg w) ?_;refine b9 (if_neg λh=>w (e.mpr h)) ?_;rfl
 ·rcases a7L hp with h | ⟨q,h1,h2⟩
  ·refine b9 h ?_;exact ht
  ·refine t6 h2 ?_;exact P.kind q h1
 ·refine b9 l1 ?_;have:=P.zlen;have:=b1w (es:=Z1) (k:=t) (v:=.int (many:Nat));exact b6N ‹_› this
theorem b2a {M1:Nat->List d8} {Z1:List (d8×d8)} {fs:List (Nat×d8)} (k0:m5 H0 H) (S:Sep H0 mk e za ma) (v:MV ar a e za many r) (ok:B0 es (.int (c:Nat))) (get:s9 es (.int (c:Nat))=some (.ref (ma c))) (R:RH H mk e za es Z1 ma M1) (hc:c∈mk) (rc:r n_c=some (.int (c:Nat))) (rt:r P4=some t) (kt:B8 7 t=true) (ht:x9 t=2) (mkind:∀ u∈M1 c,x9 u=2) (zkind:∀ p∈Z1,x9 p.1=2) (ml:(M1 c).length<=500000) (zl:Z1.length<=900000)
  (q:∀ H',m5 H0 H'->RH H' mk e za es (C6 Z1 t (.int (many:Nat))) ma (λd=>if d=c then a05 (M1 c) t else M1 d)->(∀ b l,H b=some (.list l)->H' b=some (.list l))->W .next r H') :
  (f6 (s6 (a1E (l6 (d7 I0) (d7 n_c)) (d7 P4)) (j6 (.bool true)))
   (f6 (s6 (a1E (d7 F9) (d7 P4)) (d7 t3))
   m6)) K r H W:=by
 refine eE R.e λep he=>?_;refine eE (R.m c hc) λep2 hm=>?_;refine g8 (z0 (m8 (a0r (λ_ q=>C9 (f9 v.made (f9 rc (J0 he ok get q)))) (o9 rt) hm ⟨kt,λp hp=>?_⟩ (by unfold trV;refine b9 (c7x ..) ?_;unfold o5;exact c2G ml) ?_)))
 ·refine i9 (List.mem_map.mp hp) λu hu q1=>?_;subst q1;refine b9 ht ?_;exact mkind u hu
 refine b9 b5U ?_;generalize dep _ _ _=ep3;have R1:=b2x (t:=t) (ep:=ep3) S R hc;have k1:m5 H0 (H.set (ma c) (.dict (trV (a05 (M1 c) t)) ep3)):=k0.put (S.moff c hc);refine eE R1.z λep4 hz=>?_;refine g8 (z0 (f9 v.many (a0r (o9 v.sizes) (o9 rt) hz ⟨kt,λp hp=>by refine b9 ht ?_;exact zkind p hp⟩ (by unfold o5;exact c0S zl) ?_)))
 generalize dep _ _ _=ep5;refine q _ (k1.put S.zoff) (b2Q S R1) λb l hb=>?_;rw [A0 λz=>?_,A0 λz=>?_]
 ·exact hb
 ·rw [z,hm] at hb;cases hb
 ·refine eE R.z λ_ h=>?_;rw [z,h] at hb;cases hb
end
structure MdM (nd:List I3) (mk:List Nat) (m:Nat) (M:Nat->List d8) (Z:List (d8×d8)):Prop where
 mem:b4b nd mk M m
 nod:∀ c∈mk,(M c).Nodup
 size:∀ t s c,s<=m->Ev' nd (l0 mk) t s c->s9 Z t=some (.int (s:Nat))
 kind:∀ p∈Z,x9 p.1=2
 zlen:Z.length<=m * 100000
structure Nds (nd:List I3) (mk:List Nat):Prop where
 len:mk.length=nd.length
 small:nd.length<=17
 kid:∀ x∈nd,∀ k∈x.2,k < nd.length
 two:∀ x∈nd,x.2.length<=2
 shp:Shp nd
section
variable {nd:List I3} {mk:List Nat} {m:Nat} {M M1:Nat->List d8} {es Z Z1:List (d8×d8)} {ma:Nat->Nat}
theorem b8B (N:Nds nd mk) (e:Ev' nd (l0 mk) t s c):c∈mk:=by
 cases e with
 | zero h=>exact V3 (by refine b9 N.len ?_;exact (List.getElem?_eq_some_iff.mp h).1)
 | one h _=>exact V3 (by refine b9 N.len ?_;exact (List.getElem?_eq_some_iff.mp h).1)
 | two h _ _=>exact V3 (by refine b9 N.len ?_;exact (List.getElem?_eq_some_iff.mp h).1)
theorem c6j (N:Nds nd mk) (hm:m<=3) (D:MdM nd mk m M Z) (ok:∀ c:Nat,B0 es (.int (c:Nat))) (get:∀ c∈mk,s9 es (.int (c:Nat))=some (.ref (ma c))):RP mk es Z ma M:=by
 refine ⟨ok,get,λc hc u hu=>?_,λc hc u hu=>?_,by refine b9 N.len ?_;exact N.small,λc hc=>?_⟩
 ·refine i9 ((D.mem c hc u).mp hu) λs h1 h2=>?_;exact ⟨b1p h2 7 (c23 hm h1),λp hp=>by refine b9 (D.kind p hp) ?_;refine b9 (a2c h2) ?_;rfl⟩
 ·refine i9 ((D.mem c hc u).mp hu) λs h1 h2=>?_;refine b9 (a4o h2 8 (b85 hm h1)) ?_;exact D.size u s c h1 h2
 ·refine Nat.le_trans (a3j (D.nod c hc) λu hu=>?_) (tm3 m hm);refine i9 ((D.mem c hc u).mp hu) λs h1 h2=>?_;exact c2L N.shp h2 m h1
theorem b2T (N:Nds nd mk) (hm:m<=3) (D:MdM nd mk m M Z) {Fr:List (Nat×d8)} (hF:∀ p,p∈Fr↔∃ n x,nd[n]?=some x/\p∈U1 (m+1) (szN 8) M mk n x) (fl:Fr.length<=100000) (P:Put mk M M1 Z Z1 (m+1) Fr):MdM nd mk (m+1) M1 Z1:=by
 have key:∀ c t,(c,t)∈Fr↔Ev' nd (l0 mk) t (m+1) c:=λc t=>by
  refine I9 (hF ..) ?_;constructor
  ·rintro ⟨n,x,hx,h⟩
   exact a6W N.len N.kid N.two (b8w hm) D.mem hx h
  ·exact λh=>b3M N.len N.kid (b8w hm) D.mem h
 refine ⟨λc hc t=>?_,P.nod,λt s c hs e=>?_,P.kind,?_⟩
 ·refine I9 (P.mem c hc t ..) ?_;refine I9 (D.mem c hc t ..) ?_;refine I9 (key ..) ?_;constructor
  ·rintro (⟨s,h1,h2⟩ | h)
   ·exact ⟨s,by exact c3w h1,h2⟩
   ·exact ⟨m+1,Nat.le_refl _,h⟩
  ·rintro ⟨s,h1,h2⟩
   by_cases z:s=m+1
   ·subst z;exact .inr h2
   ·exact .inl ⟨s,by exact c4X h1 z,h2⟩
 ·refine b9 (P.size ..) ?_;by_cases z:s=m+1
  ·subst z;refine b9 (if_pos ⟨c,(key c t).mpr e⟩) ?_;rfl
  ·rewrite [if_neg]
   ·exact D.size t s c (c4X hs z) e
   ·rintro ⟨d,hd⟩
    have h1:=a4o ((key d t).mp hd) 8 (c1y hm);have h2:=a4o e 8 (c2A hm hs);exact c2Z z h1 h2
 ·have:=P.zlen;have:=D.zlen;exact c39 fl ‹_› this
theorem b0U (hk:∀ k∈x.2,k < mk.length) (two:x.2.length<=2) (hM:∀ c∈mk,(M c).length<=74):(U1 many (szN 8) M mk n x).length<=5476:=by
 have wl:=(a26 (many:=many) (sz:=szN 8) (op:=x.1) (M:=M) (mk:=mk) hM x.2 hk x.2.length).1;rw [List.take_length] at wl;unfold U1;refine b9 (c7x ..) ?_;exact Nat.le_trans (List.length_filter_le ..) (Nat.le_trans wl (Nat.le_trans (Nat.pow_le_pow_right (b56) two) (by decide)))
end
section
variable {K:Calls} {nd:List I3} {H0 H:Hp} {r:En} {ar a e za m:Nat} {mk:List Nat} {es Z:List (d8×d8)} {ma:Nat->Nat} {M:Nat->List d8}
theorem a8R (N:Nds nd mk) (hm:m<=3) (D:MdM nd mk m M Z) (ok:∀ c:Nat,B0 es (.int (c:Nat))) (get:∀ c∈mk,s9 es (.int (c:Nat))=some (.ref (ma c))) (S:Sep H0 mk e za ma) (har:H0 ar=some (.list (nd.map r8))) (ha0:H0 a=some (.list (iL mk))) (k0:m5 H0 H) (v:MV ar a e za (m+1) r) (R:RH H mk e za es Z ma M)
  (q:∀ r' H' M' Z',m5 H0 H'->MV ar a e za (m+1) r'->RH H' mk e za es Z' ma M'->MdM nd mk (m+1) M' Z'->W .next r' H') :
  (f6 (s6 (l7 P2) (J5 f4))
  (f6 (O6 [G4,F6] false (a5j (d7 n9))
   (f6 (s6 (l7 O1) (J5 (d6 (n5 (d6 (n5 (d6 (l6 (d7 F6) (j6 (.int 0))) f4)) (d6 (j6 (.int 1)) f4))) f4)))
   (f6 (O6 [y8] true (w5 (a2g (d7 F6) (j6 (.int 1))))
    (f6 (s6 (l7 O1) (V5 (n5 (d6 (y7 .add (d7 P4) (n5 (d6 (d7 n_u) f4))) (d6 (y7 .add (d7 n_k) (l6 (d7 F9) (d7 n_u))) f4))) [P4,n_k] false (w5 (d7 O1)) [n_u] true (w5 (l6 (d7 I0) (l6 (d7 h9) (d7 y8)))) (S2 (B3 .le (y7 .add (d7 n_k) (l6 (d7 F9) (d7 n_u))) (d7 t3)) B6)))
    m6))
   (f6 (v7 (j7 (d7 P2) K1 (d6 (v8 (n5 (d6 (l6 (d7 h9) (d7 G4)) (d6 (d7 P4) f4))) [P4,n_k] false (w5 (d7 O1)) (S2 (B3 .eq (d7 n_k) (d7 t3)) B6)) f4)))
   m6))))
  (f6 (O6 [n_c,P4] false (w5 (d7 P2))
   (f6 (s6 (a1E (l6 (d7 I0) (d7 n_c)) (d7 P4)) (j6 (.bool true)))
   (f6 (s6 (a1E (d7 F9) (d7 P4)) (d7 t3))
   m6)))
  m6))) K r H W:=by
 have P:=c6j N hm D ok get;have nl:=N.small;refine g8 (z0 (X6 (g9 λfr hfr=>B7 ?_)));have f0:=k0.off hfr;have k1:m5 H0 (H.set fr (.list [])):=k0.trans (.new hfr);have v1:MV ar a e za (m+1) (r.set P2 (.ref fr)):=⟨v.rows,v.marks,v.made,v.sizes,v.many⟩;refine g8 (Z6 (b3p v1.rows (k1 _ _ har) ⟨_,R7 (src:=.enum ar) (a3L nd) (λi r1 H1=>∃ Fr:List (Nat×d8),m5 H0 H1/\MV ar a e za (m+1) r1/\RH H1 mk e za es Z ma M/\r1 P2=some (.ref fr)/\H1 fr=some (.list (Fr.map frV))/\Fr.length<=i * 5476/\∀ p,p∈Fr↔∃ n x,n < i/\nd[n]?=some x/\p∈U1 (m+1) (szN 8) M mk n x) (λi r1 H1 hI=>?_) (λr1 H1 hI=>?_) (λi u r1 H1 hu hI W' hW _=>?_) ((a3L nd).length+1) 0 _ _ (zo0) (Nat.zero_le _) ⟨[],k1,v1,R.keep (.new hfr),rfl,l9,Nat.le_refl _,λp=>⟨λh=>(by cases h),λ⟨n,x,h,_⟩=>absurd h (Nat.not_lt_zero _)⟩⟩⟩))
 ·refine i9 hI λ_ k _=>?_;clear hI;refine ⟨_,k _ _ har,?_⟩;refine b9 (a2P ..) ?_;refine b9 List.getElem?_map ?_;refine b9 (Option.map_map ..) ?_;rfl
 ·refine a7C hI λFr k2 v2 R2 f2 h2 fl hF=>?_;clear hI;rw [a5O] at fl hF;have fl1:Fr.length<=100000:=by have:=Nat.mul_le_mul_right 5476 nl;exact c2s nl fl
  have hF1:∀ p,p∈Fr↔∃ n x,nd[n]?=some x/\p∈U1 (m+1) (szN 8) M mk n x:=λp=>by
   refine I9 (hF ..) ?_;exact ⟨λ⟨n,x,_,h⟩=>⟨n,x,h⟩,λ⟨n,x,h1,h⟩=>⟨n,x,(List.getElem?_eq_some_iff.mp h1).1,h1,h⟩⟩
  have Fev:∀ c t,(c,t)∈Fr->Ev' nd (l0 mk) t (m+1) c:=λc t h=>by
   refine A6 ((hF1 _).mp h) λn x hx h=>?_;exact a6W N.len N.kid N.two (b8w hm) D.mem hx h
  have e2:∀ i,(Fr.map frV)[i]?=(Fr[i]?).map frV:=λi=>List.getElem?_map ..;refine g8 (Z6 (f9 (K:=K) (Q:=λv H1=>itV v H1 _) f2 (.inr (.inr (.inl ⟨fr,_,rfl,h2,(Fr.map frV).length+1,R7 (src:=.lst fr) (Fr.map frV) (λj r3 H3=>∃ M1 Z1,m5 H0 H3/\MV ar a e za (m+1) r3/\RH H3 mk e za es Z1 ma M1/\H3 fr=some (.list (Fr.map frV))/\Put mk M M1 Z Z1 (m+1) (Fr.take j)) (λj r3 H3 hI=>?_) (λr3 H3 hI=>?_) (λj u r3 H3 hu hI W' hW _=>?_) _ 0 _ _ (zo0) (Nat.zero_le _) ⟨M,Z,k2,v2,R2,h2,⟨λc hc t=>by simp,D.nod,λc hc=>Nat.le_refl _,λt=>by refine b9 (if_neg (by simp)) ?_;rfl,D.kind,Nat.le_refl _⟩⟩⟩)))))
  ·refine C8 hI λ_ _ _ _ _ h _=>?_;clear hI;exact ⟨_,h,rfl⟩
  ·refine C8 hI λM1 Z1 k3 v3 R3 h3 P3=>?_;clear hI;rw [List.length_map,List.take_length] at P3;exact q r3 H3 M1 Z1 k3 v3 R3 (b2T N hm D hF1 fl1 P3)
  ·refine C8 hI λM1 Z1 k3 v3 R3 h3 P3=>?_;clear hI;rw [e2] at hu;refine i9 (Option.map_eq_some_iff.mp hu) λp hp q2=>?_;subst q2;obtain ⟨c,t⟩:=p;have ev:=Fev c t (c7w hp);have hc:=b8B N ev;have tl:(Fr.take j).length<=100000:=Nat.le_trans (List.length_take_le' _ _) fl1;have l1:=P3.len c hc;have l2:=P.mlen c hc;have l3:=P3.zlen;have l4:=D.zlen;refine ⟨_,a0z,b2a (r:=(r3.set n_c (.int (c:Nat))).set P4 t) (M1:=M1) (Z1:=Z1) (fs:=Fr.take j) k3 S ⟨v3.rows,v3.marks,v3.made,v3.sizes,v3.many⟩ (ok c) (get c hc) R3 hc rfl rfl (b1p ev 7 (c0J hm)) (a2c ev) (λu hu=>?_) P3.kind (c5g tl l1 l2) (c2g hm tl l3 l4) λH' k' R' hl'=>hW _ _ ⟨_,_,k',⟨v3.rows,v3.marks,v3.made,v3.sizes,v3.many⟩,R',hl' _ _ h3,?_⟩⟩
   ·rcases (P3.mem c hc u).mp hu with h | h
    ·refine i9 ((D.mem c hc u).mp h) λs _ h=>?_;exact a2c h
    ·exact a2c (Fev c u (List.mem_of_mem_take h))
   ·refine b9 List.take_add_one ?_;refine b9 hp ?_;exact b34 P3 (a2c ev)
 ·refine a7C hI λFr k2 v2 R2 f2 h2 fl hF=>?_;clear hI;rw [a2P] at hu;refine i9 (Option.map_eq_some_iff.mp hu) λx hx q3=>?_;subst q3;have hi:=(List.getElem?_eq_some_iff.mp hx).1;have hxm:=c7w hx;have hk:∀ k∈x.2,k < mk.length:=by refine b9 N.len ?_;exact N.kid x hxm
  have fb:Fr.length<=100000:=by have:=Nat.mul_le_mul_right 5476 (show i<=17 by exact c6q nl hi);exact c2r fl this
  refine ⟨_,a0z,b30 (r:=(r1.set G4 (.int (i:Nat))).set F6 (r8 x)) (i:=i) (x:=x) k2 ⟨v2.rows,v2.marks,v2.made,v2.sizes,v2.many⟩ P R2 ha0 f0 f2 h2 rfl rfl (N.two x hxm) hk (by refine b9 N.len ?_;exact hi) fb λr' H' k' v' R' f' h'=>hW _ _ ⟨_,k',v',R',f',h',?_,λp=>?_⟩⟩
  ·refine b9 List.length_append ?_;refine b9 (Nat.add_mul ..) ?_;have:=b0U (x:=x) (many:=m+1) (n:=i) hk (N.two x hxm) P.mlen;exact c5w fl this
  ·refine I9 (List.mem_append ..) ?_;refine I9 (hF ..) ?_;constructor
   ·rintro (⟨n,y,h1,h2,h3⟩ | h)
    ·exact ⟨n,y,by exact zo3 h1,h2,h3⟩
    ·exact ⟨i,x,Nat.lt_succ_self _,hx,h⟩
   ·rintro ⟨n,y,h1,h2,h3⟩
    by_cases z:n=i
    ·subst z;rw [hx] at h2;have q1:=A3 h2;clear h2;subst q1;exact .inr h3
    ·exact .inl ⟨n,y,by exact b62 h1 z,h2,h3⟩
end
end
section
theorem a3p {a b:Nat} (h:(t9 (a:Nat) (b:Nat))[i]?=some v):i < b - a/\v=.int ((a+i:Nat)):=by
 unfold t9 at h;rw [List.getElem?_map] at h;refine i9 (Option.map_eq_some_iff.mp h) λj hj q2=>?_;subst q2;refine eE (List.getElem?_eq_some_iff.mp hj) λh1 h2=>?_;rw [List.getElem_range] at h2;rw [List.length_range] at h1;subst h2;exact ⟨by exact c4p h1,rfl⟩
theorem a2y {a b:Nat}:(t9 (a:Nat) (b:Nat)).length=b - a:=by
 unfold t9;refine b9 (c7x ..) ?_;refine b9 List.length_range ?_;exact c0i
section
variable {F:D4} {n:Nat} {nd:List I3} {H:Hp} {ar a:Nat} {mk:List Nat} {Q:m7}
theorem b1e (hF:F 0 Q5=some a1M) (N:Nds nd mk) (har:H ar=some (.list (nd.map r8))) (ha:H a=some (.list (iL mk)))
  (q:∀ H' e es (ma:Nat->Nat) (M:Nat->List d8),m5 H H'->(∃ ep,H' e=some (.dict es ep))->(∀ c:Nat,B0 es (.int (c:Nat)))->(∀ c∈mk,s9 es (.int (c:Nat))=some (.ref (ma c)))->(∀ c∈mk,∃ ep,H' (ma c)=some (.dict (trV (M c)) ep))->b4b nd mk M 4->Q (.ref e) H') :
  (j5 F (n+1)).call 0 Q5 [.ref ar,.ref a,.int 4] H Q:=by
 refine t0 hF rfl (g8 (z0 (D1 (d9 (a85 (.refl H) rfl ha (by refine b9 N.len ?_;exact N.small) λH1 e es ma D h1=>d9 λza hza=>g9 (a4T (.inl rfl) ?_))))))
 have k2:m5 H (H1.set za (.dict [] 0)):=D.keep.trans (.new hza);have zm:∀ c∈mk,za≠ma c:=λc hc z=>by
  have:=h1 c hc;rw [<- z,hza] at this;cases this
 have ze:za≠e:=λz=>by
  refine eE D.at_ λep h=>?_;rw [<- z,hza] at h;cases h
 have S:Sep H mk e za ma:=⟨D.moff,D.inj,D.ne,D.keep.off hza,ze,zm⟩;have R:RH (H1.set za (.dict [] 0)) mk e za es [] ma (λ_=>[]):=⟨let ⟨ep,h⟩:=D.at_;⟨ep,by refine b9 (A0 λz=>ze z.symm) ?_;exact h⟩,λc hc=>⟨0,by refine b9 (A0 λz=>zm c hc z.symm) ?_;exact h1 c hc⟩,⟨0,l9⟩⟩
 have M0:MdM nd mk 0 (λ_=>[]) []:=⟨λc hc t=>⟨λh=>(by cases h),λ⟨s,h2,h3⟩=>by have:=b1J h3;exact (c1E h2 this).elim⟩,λc hc=>List.nodup_nil,λt s c hs e=>by have:=b1J e;exact (c1E hs this).elim,λp hp=>(by cases hp),Nat.le_refl _⟩
 refine g8 (Z6 (d9 (K:=j5 F n) (Q:=λvs H1=>itR vs H1 _) (m8 (d9 (I4 (f9 rfl (m8 (a0w (g9 (.inr ⟨(1:Nat),(5:Nat),rfl,by unfold o5;exact c54,by unfold o5;exact b9E,by unfold o5;exact c4Z,by unfold o5;exact c2e,(t9 (1:Nat) (5:Nat)).length+1,R7 (src:=.seq (t9 (1:Nat) (5:Nat))) (t9 (1:Nat) (5:Nat)) (λi r1 H2=>∃ M Z,m5 H H2/\(r1 n9=some (.ref ar)/\r1 h9=some (.ref a)/\r1 I0=some (.ref e)/\r1 F9=some (.ref za))/\RH H2 mk e za es Z ma M/\MdM nd mk i M Z) (λ_ _ _ _=>rfl) (λr1 H2 hI=>?_) (λi v r1 H2 hv hI W hW _=>?_) _ 0 _ _ (zo0) (Nat.zero_le _) ⟨_,_,k2,⟨rfl,rfl,rfl,rfl⟩,R,M0⟩⟩))))))))))
 ·refine I6 hI λM Z k3 q3 R3 D3=>?_;clear hI;refine a8E q3 λ_ _ v3 _=>?_;clear q3;rw [a2y] at D3;refine g8 (E0 (f9 v3 ?_));exact q _ e es ma M k3 R3.e D.ok D.get R3.m D3.mem
 ·refine I6 hI λM Z k3 q4 R3 D3=>?_;clear hI;refine a8E q4 λv1 v2 v3 v4=>?_;clear q4;refine eA (a3p hv) λhi q1=>?_;subst q1;refine ⟨_,A1,a8R (m:=i) (r:=r1.set t3 (.int ((1+i:Nat)))) N (c5C hi) D3 D.ok D.get S har ha k3 ⟨v1,v2,v3,v4,by refine b9 (Nat.add_comm ..) ?_;rfl⟩ R3 λr' H' M' Z' k' v' R' D'=>hW _ _ ⟨M',Z',k',⟨v'.rows,v'.marks,v'.made,v'.sizes⟩,R',D'⟩⟩
end
noncomputable def fT (l:List d8):List d8:=l.map λt=>.tup [.str "f",t]
noncomputable def gT (l m:List d8):List d8:=l.flatMap λt=>m.map λu=>.tup [.str "g",t,u]
noncomputable def a31:List d8:=[.tup [.str "a"],.tup [.str "b"]]
noncomputable def b1u:List d8:=fT a31
noncomputable def b7G:List d8:=fT b1u++gT a31 a31
noncomputable def c4H:List d8:=fT b7G++(gT a31 b1u++gT b1u a31)
noncomputable def O3:Nat->List d8
 | 0=>[]
 | 1=>a31
 | 2=>b1u
 | 3=>b7G
 | 4=>c4H
 | _+5=>[]
noncomputable def a3X (m i:Nat):List d8:=fT (O3 (m+1))++(List.range i).flatMap λj=>gT (O3 (1+j)) (O3 (m - j))
theorem b2B (m:Nat) (h:m < 3):a3X m m=O3 (m+2):=by
 obtain rfl | rfl | rfl:m=0\/m=1\/m=2:=by exact c4E h
 ·simp [a3X,O3,b1u]
 ·simp [a3X,O3,b7G]
 ·simp [a3X,O3,List.range_succ,c4H]
theorem b0t (m i:Nat):a3X m (i+1)=a3X m i++gT (O3 (1+i)) (O3 (m - i)):=by
 unfold a3X;refine b9 List.range_succ ?_;refine b9 List.flatMap_append ?_;refine b9 (List.append_assoc ..) ?_;simp
noncomputable def a02:List d8:=(List.range 5).flatMap O3
theorem b69 (l:List d8):(fT l).length=l.length:=c7x ..
theorem a8G (l m:List d8):(gT l m).length<=l.length * m.length:=R0 _ _ _ λ_ _=>by refine b9 (c7x ..) ?_;exact Nat.le_refl _
theorem U5 (m:Nat):(O3 m).length<=100:=by
 match m with
 | 0=>exact Nat.zero_le _
 | 1=>exact c7v rfl
 | 2=>exact c7v rfl
 | 3=>exact c7v rfl
 | 4=>exact c7v rfl
 | n+5=>exact Nat.zero_le _
section
variable {K:Calls} {H0 H:Hp} {r:En} {la:Nat} {ad:Nat->Nat} {N:Nat} {Q:m7}
structure a2O (H0 H:Hp) (la:Nat) (ad:Nat->Nat) (N:Nat):Prop where
 keep:m5 H0 H
 la0:H0 la=none
 at_:H la=some (.list ((List.range N).map λj=>d8.ref (ad j)))
 lot:∀ j,j < N->H (ad j)=some (.list (O3 j))
 ne:∀ j,j < N->ad j≠la
theorem a2O.more {H':Hp} (L:a2O H0 H la ad N) (k:m5 H H'):a2O H0 H' la ad N:=⟨L.keep.trans k,L.la0,k _ _ L.at_,λj hj=>k _ _ (L.lot j hj),L.ne⟩
theorem b3L {i:Ev} {j:Nat} (L:a2O H0 H la ad N) (hN:N<=10) (hl:r w8=some (.ref la)) (hj:j < N) (hi:∀ Q:m7,Q (.int (j:Nat)) H->i K r H Q) (q:Q (.ref (ad j)) H):l6 (d7 w8) i K r H Q :=
 C9 (f9 hl (hi _ (M8 L.at_ (by refine b9 (c7x ..) ?_;refine b9 List.length_range ?_;unfold o5;exact c2W hN) (by refine b9 List.getElem?_map ?_;refine b9 (List.getElem?_range hj) ?_;rfl) q)))
theorem b7m (L:a2O H0 H la ad N) (hN:N<=10) (hl:r w8=some (.ref la)) (hm:r t3=some (.int ((m+2:Nat)))) (hj:m+1 < N) (q:∀ c,H c=none->Q (.ref c) (H.set c (.list (fT (O3 (m+1)))))) :
  v8 (n5 (d6 (j6 (.str "f")) (d6 (d7 P4) f4))) [P4] true (w5 (l6 (d7 w8) (y7 .sub (d7 t3) (j6 (.int 1))))) B6 K r H Q:=by
 refine b3L (K:=K) (Q:=λv H1=>itV v H1 _) L hN hl hj (λQ q=>I4 (f9 hm (m8 (sub_int ?_)))) (.inr (.inr (.inl ⟨_,_,rfl,L.lot _ hj,V1 (src:=.lst (ad (m+1))) (g:=λt=>[.tup [.str "f",t]]) (λi=>⟨_,L.lot _ hj,rfl⟩) ?_ (λv hv P hP=>⟨_,A1,N2 (D1 (d9 (m8 (d9 (f9 rfl (g9 hP))))))⟩) λc hc=>?_⟩)))
 ·refine b9 (show ((m+2:Nat):Int) - 1=((m+1:Nat):Int) by exact c57) ?_;exact q
 ·have:=R0 (O3 (m+1)) (λt=>[d8.tup [.str "f",t]]) 1 λ_ _=>Nat.le_refl _;have:=U5 (m+1);unfold o5;exact b9L ‹_› this
 ·have e:(O3 (m+1)).flatMap (λt=>[d8.tup [.str "f",t]])=fT (O3 (m+1)):=by
   unfold fT;induction O3 (m+1) with
   | nil=>rfl
   | cons a l ih=>refine b9 List.flatMap_cons ?_;refine b9 ih ?_;rfl
  refine b9 e ?_;exact q c hc
theorem b8b (L:a2O H0 H la ad N) (hN:N<=10) (hl:r w8=some (.ref la)) (hm:r t3=some (.int ((m+2:Nat)))) (hk:r n_k=some (.int ((1+k:Nat)))) (h1:1+k < N) (h2:m - k < N) (h3:k<=m) (q:∀ c,H c=none->Q (.ref c) (H.set c (.list (gT (O3 (1+k)) (O3 (m - k)))))) :
  V5 (n5 (d6 (j6 (.str "g")) (d6 (d7 P4) (d6 (d7 n_u) f4)))) [P4] true (w5 (l6 (d7 w8) (d7 n_k))) [n_u] true (w5 (l6 (d7 w8) (y7 .sub (y7 .sub (d7 t3) (j6 (.int 1))) (d7 n_k)))) B6 K r H Q:=by
 have ll:=U5 (1+k);have lm:=U5 (m - k);refine b3L (K:=K) (Q:=λv H1=>itV v H1 _) L hN hl h1 (o9 hk) (.inr (.inr (.inl ⟨_,_,rfl,L.lot _ h1,V1 (src:=.lst (ad (1+k))) (g:=λt=>(O3 (m - k)).map λu=>.tup [.str "g",t,u]) (λi=>⟨_,L.lot _ h1,rfl⟩) ?_ (λt ht P hP=>⟨_,A1,?_⟩) λc hc=>q c hc⟩)))
 ·have:=a8G (O3 (1+k)) (O3 (m - k));have:=Nat.mul_le_mul ll lm;unfold gT at *;unfold o5;exact c2U ‹_› this
 ·have hl':(r.set P4 t) w8=some (.ref la):=hl;have hm':(r.set P4 t) t3=some (.int ((m+2:Nat))):=hm;have hk':(r.set P4 t) n_k=some (.int ((1+k:Nat))):=hk;refine b3L (K:=K) (Q:=λv H1=>itV v H1 _) L hN hl' h2 (λQ q=>I4 (I4 (f9 hm' (m8 (sub_int (f9 hk' (sub_int ?_))))))) (.inr (.inr (.inl ⟨_,_,rfl,L.lot _ h2,V1 (src:=.lst (ad (m - k))) (g:=λu=>[.tup [.str "g",t,u]]) (λi=>⟨_,L.lot _ h2,rfl⟩) ?_ (λv hv P hP=>⟨_,A1,N2 (D1 (d9 (m8 (d9 (f9 rfl (d9 (f9 rfl (g9 hP))))))))⟩) ?_⟩)))
  ·refine b9 (show ((m+2:Nat):Int) - 1 - ((1+k:Nat):Int)=((m - k:Nat):Int) by exact c0t h3) ?_;exact q
  ·have:=R0 (O3 (m - k)) (λu=>[d8.tup [.str "g",t,u]]) 1 λ_ _=>Nat.le_refl _;unfold o5;exact c3s lm this
  ·have e:∀ l:List d8,l.flatMap (λu=>[d8.tup [.str "g",t,u]])=l.map λu=>.tup [.str "g",t,u]:=λl=>by
    induction l with
    | nil=>rfl
    | cons a l ih=>refine b9 List.flatMap_cons ?_;refine b9 ih ?_;rfl
   refine b9 (e ..) ?_;exact hP
end
theorem a7q (l:List d8):l.flatMap (λt=>[t])=l:=by
 induction l with
 | nil=>rfl
 | cons a l ih=>refine b9 List.flatMap_cons ?_;refine b9 ih ?_;rfl
theorem a8Q {α β:Type} {l:List α} {f g:α->List β} (h:∀ a∈l,f a=g a):l.flatMap f=l.flatMap g:=by
 induction l with
 | nil=>rfl
 | cons a l ih=>refine b9 List.flatMap_cons ?_;refine b9 List.flatMap_cons ?_;refine b9 (h a (List.mem_cons_self)) ?_;refine b9 (ih λb hb=>h b (List.mem_cons_of_mem _ hb)) ?_;rfl
noncomputable def cont (H:Hp) (v:d8):List d8:=match v with
 | .ref x=>(match H x with | some (.list l)=>l | _=>[])
 | _=>[]
theorem a9R:a02.length<=1000:=by
 have:=R0 (List.range 5) O3 100 λj _=>U5 j;rw [List.length_range] at this;unfold a02;exact b8Q this
section
variable {F:D4} {n:Nat} {H:Hp} {Q:m7}
theorem a2O.set {H0 H:Hp} {la c N:Nat} {ad:Nat->Nat} (L:a2O H0 H la ad N) (h0:H0 c=none) (h1:c≠la) (h2:∀ j,j < N->ad j≠c):a2O H0 (H.set c o) la ad N :=
 ⟨L.keep.put h0,L.la0,by refine b9 (A0 λz=>h1 z.symm) ?_;exact L.at_,λj hj=>by refine b9 (A0 (h2 j hj)) ?_;exact L.lot j hj,L.ne⟩
theorem a70 {H0 H:Hp} {la i:Nat} {ad:Nat->Nat} (L:a2O H0 H la ad (i+2)) (hi:i < 3) (hl:r w8=some (.ref la)) (hm:r t3=some (.int ((i+2:Nat))))
  (hW:∀ r' H' ad',a2O H0 H' la ad' (i+3)->r' w8=some (.ref la)->W .next r' H') :
  (f6 (s6 (l7 a1w) (v8 (n5 (d6 (j6 (.str "f")) (d6 (d7 P4) f4))) [P4] true (w5 (l6 (d7 w8) (y7 .sub (d7 t3) (j6 (.int 1))))) B6))
  (f6 (O6 [n_k] true (D5 (d6 (j6 (.int 1)) (d6 (y7 .sub (d7 t3) (j6 (.int 1))) f4)))
   (f6 (v7 (j7 (d7 a1w) K1 (d6 (V5 (n5 (d6 (j6 (.str "g")) (d6 (d7 P4) (d6 (d7 n_u) f4)))) [P4] true (w5 (l6 (d7 w8) (d7 n_k))) [n_u] true (w5 (l6 (d7 w8) (y7 .sub (y7 .sub (d7 t3) (j6 (.int 1))) (d7 n_k)))) B6) f4)))
   m6))
  (f6 (v7 (j7 (d7 w8) u7 (d6 (d7 a1w) f4)))
  m6))) K r H W:=by
 refine g8 (z0 (b7m (m:=i) L (c00 hi) hl hm (c4m) λc hc=>B7 ?_));have h0:=L.keep.off hc;have cla:c≠la:=λz=>by
  have:=L.at_;rw [<- z,hc] at this;cases this
 have cad:∀ j,j < i+2->ad j≠c:=λj hj z=>by
  have:=L.lot j hj;rw [z,hc] at this;cases this
 have L1:=L.set (o:=.list (fT (O3 (i+1)))) h0 cla cad;have e0:a3X i 0=fT (O3 (i+1)):=by unfold a3X;simp
 have hm1:(r.set a1w (.ref c)) t3=some (.int ((i+2:Nat))):=hm;refine g8 (Z6 (d9 (K:=K) (Q:=λvs H1=>itR vs H1 _) (m8 (d9 (I4 (f9 hm1 (m8 (sub_int (g9 (.inr ⟨(1:Nat),(i+1:Nat),by refine b9 (show ((i+2:Nat):Int) - 1=((i+1:Nat):Int) by exact c57) ?_;rfl,by unfold o5;exact c54,by unfold o5;exact b9E,by unfold o5;exact c6m,by unfold o5;exact c6o hi,(t9 (1:Nat) (i+1:Nat)).length+1,R7 (src:=.seq (t9 (1:Nat) (i+1:Nat))) (t9 (1:Nat) (i+1:Nat)) (λk r1 H2=>a2O H0 H2 la ad (i+2)/\r1 w8=some (.ref la)/\r1 t3=some (.int ((i+2:Nat)))/\r1 a1w=some (.ref c)/\H2 c=some (.list (a3X i k))) (λ_ _ _ _=>rfl) (λr1 H2 hI=>?_) (λk v r1 H2 hv hI W' hW' _=>?_) _ 0 _ _ (zo0) (Nat.zero_le _) ⟨L1,hl,hm,rfl,by refine b9 e0 ?_;exact l9⟩⟩))))))))))
 ·refine a3R hI λL2 l2 m2 c2 h2=>?_;clear hI;rw [a2y,show i+1 - 1=i by exact c1L,b2B i hi] at h2
  refine g8 (D6 (J9 (o9 l2) L2.at_ (d9 (f9 c2 (g9 (K3 L2.at_ (by refine b9 (c7x ..) ?_;refine b9 List.length_range ?_;unfold o5;exact c4e hi) ?_))))))
  refine hW _ _ (λj=>if j=i+2 then c else ad j) ⟨L2.keep.put L2.la0,L2.la0,?_,λj hj=>?_,λj hj=>?_⟩ l2
  ·have e5:(List.range (i+3)).map (λj=>d8.ref (if j=i+2 then c else ad j))=((List.range (i+2)).map λj=>d8.ref (ad j))++[.ref c]:=by
    refine b9 (show List.range (i+3)=List.range (i+2)++[i+2] from List.range_succ) ?_;refine b9 List.map_append ?_
    congr 1
    ·refine List.map_congr_left λj hj=>?_;refine b9 (if_neg (by have:=List.mem_range.mp hj;exact c1q this)) ?_;rfl
    ·show [d8.ref (if i+2=i+2 then c else ad (i+2))]=_
     refine b9 (if_pos rfl) ?_;rfl
   refine b9 l9 ?_;refine b9 e5 ?_;rfl
  ·show (Hp.set _ _ _) (if j=i+2 then c else ad j)=_
   by_cases z:j=i+2
   ·refine b9 (if_pos z) ?_;refine b9 (A0 cla) ?_;refine b9 z ?_;exact h2
   ·refine b9 (if_neg z) ?_;refine b9 (A0 (L2.ne j (b8r hj z))) ?_;exact L2.lot j (b8r hj z)
  ·show (if j=i+2 then c else ad j)≠la
   by_cases z:j=i+2
   ·refine b9 (if_pos z) ?_;exact cla
   ·refine b9 (if_neg z) ?_;exact L2.ne j (b8r hj z)
 ·refine a3R hI λL2 l2 m2 c2 h2=>?_;clear hI;refine eA (a3p hv) λhk q1=>?_;subst q1;refine ⟨_,A1,g8 (D6 (a2U (o9 (x:=a1w) (r:=r1.set n_k (.int ((1+k:Nat)))) c2) h2 (d9 (b8b (r:=r1.set n_k (.int ((1+k:Nat)))) (m:=i) (k:=k) L2 (c00 hi) l2 m2 rfl (c0z hk) (c5c) (c6f hk) λd hd=>g9 ?_))))⟩;have k3:m5 H2 (H2.set d (.list (gT (O3 (1+k)) (O3 (i - k))))):=.new hd;have L3:=L2.more k3;have ne:d≠c:=λz=>by rw [<- z,hd] at h2;cases h2
  have l1:(a3X i k).length<=100000:=by
   unfold a3X;refine b9 List.length_append ?_;refine b9 (b69 ..) ?_;have h1:=U5 (i+1);have h2:=R0 (List.range k) (λj=>gT (O3 (1+j)) (O3 (i - j))) 10000 λj _=>Nat.le_trans (a8G _ _) (Nat.mul_le_mul (U5 _) (U5 _));rw [List.length_range] at h2;exact c2v hi hk h1 h2
  have l2':(gT (O3 (1+k)) (O3 (i - k))).length<=10000:=Nat.le_trans (a8G _ _) (Nat.mul_le_mul (U5 _) (U5 _));refine a2Z (k3 _ _ h2) l9 ne (by unfold o5;exact c4q l1 l2') ?_
  refine t6 (b0t ..) ?_;exact hW' _ _ ⟨L3.set h0 cla cad,l2,m2,c2,l9⟩
theorem a8L (hF:F 0 G8=some W5) (q:∀ H' c,m5 H H'->H' c=none->Q (.ref c) (H'.set c (.list a02))):(j5 F (n+1)).call 0 G8 [.int 4] H Q:=by
 refine t0 hF rfl (g8 (z0 (X6 (d9 (X6 (g9 λx0 h0=>d9 (X6 (d9 (D1 (d9 (m8 (g9 (d9 (D1 (d9 (m8 (g9 (g9 λx1 h1=>g9 λla hla=>B7 ?_))))))))))))))))));have L:a2O H (((H.set x0 (.list [])).set x1 (.list a31)).set la (.list [.ref x0,.ref x1])) la (λj=>if j=0 then x0 else x1) 2:=by
  have hla:((H.set x0 (.list [])).set x1 (.list a31)) la=none:=hla;have k:m5 H ((H.set x0 (.list [])).set x1 (.list a31)):=(m5.new h0).trans (.new h1);have a0:((H.set x0 (.list [])).set x1 (.list a31)) x0=some (.list []):=m5.new h1 _ _ l9;have a1:((H.set x0 (.list [])).set x1 (.list a31)) x1=some (.list a31):=l9;have n0:x0≠la:=λz=>by rw [<- z,a0] at hla;cases hla
  have n1:x1≠la:=λz=>by rw [<- z,a1] at hla;cases hla
  refine ⟨k.trans (.new hla),k.off hla,l9,λj hj=>?_,λj hj=>?_⟩
  ·obtain rfl | rfl:j=0\/j=1:=by exact zo6 hj
   ·exact m5.new hla _ _ a0
   ·exact m5.new hla _ _ a1
  ·obtain rfl | rfl:j=0\/j=1:=by exact zo6 hj
   ·exact n0
   ·exact n1
 refine g8 (Z6 (d9 (K:=j5 F n) (Q:=λvs H1=>itR vs H1 _) (m8 (d9 (I4 (f9 rfl (m8 (a0w (g9 (.inr ⟨(2:Nat),(5:Nat),rfl,by unfold o5;exact b8V,by unfold o5;exact c1p,by unfold o5;exact c4Z,by unfold o5;exact c2e,(t9 (2:Nat) (5:Nat)).length+1,R7 (src:=.seq (t9 (2:Nat) (5:Nat))) (t9 (2:Nat) (5:Nat)) (λi r1 H2=>∃ ad,a2O H H2 la ad (i+2)/\r1 w8=some (.ref la)) (λ_ _ _ _=>rfl) (λr1 H2 hI=>?_) (λi v r1 H2 hv hI W hW _=>?_) _ 0 _ _ (zo0) (Nat.zero_le _) ⟨_,L,rfl⟩⟩))))))))))
 ·refine i9 hI λad L2 l2=>?_;clear hI;rw [a2y] at L2;have hall:((List.range 5).map λj=>d8.ref (ad j)).flatMap (cont H2)=a02:=by
   refine b9 (List.flatMap_map ..) ?_;unfold a02;refine a8Q λj hj=>?_;show (match H2 (ad j) with | some (.list l)=>l | _=>[])=_
   refine b9 (L2.lot j (List.mem_range.mp hj)) ?_;rfl
  refine g8 (E0 (f9 (K:=j5 F n) (Q:=λv H1=>itV v H1 _) l2 (.inr (.inr (.inl ⟨la,_,rfl,L2.at_,V1 (src:=.lst la) (g:=cont H2) (λi=>⟨_,L2.at_,rfl⟩) ?_ (λv hv P hP=>?_) λc hc=>?_⟩)))))
  ·show (((List.range 5).map λj=>d8.ref (ad j)).flatMap (cont H2)).length<=_;refine b9 hall ?_;have:=a9R;unfold o5;exact c52 this
  ·refine i9 (List.mem_map.mp hv) λj hj q3=>?_;subst q3;have hh:=L2.lot j (List.mem_range.mp hj);have e:cont H2 (.ref (ad j))=O3 j:=by
    show (match H2 (ad j) with | some (.list l)=>l | _=>[])=_
    refine b9 hh ?_;rfl
   rw [e] at hP;refine ⟨_,A1,f9 (K:=j5 F n) (Q:=λv H1=>itV v H1 _) rfl (.inr (.inr (.inl ⟨ad j,_,rfl,hh,V1 (src:=.lst (ad j)) (g:=λt=>[t]) (λi=>⟨_,hh,rfl⟩) ?_ (λu hu P' hP'=>⟨_,A1,N2 (f9 rfl hP')⟩) ?_⟩)))⟩
   ·refine b9 (a7q ..) ?_;have:=U5 j;unfold o5;exact c5F this
   ·refine b9 (a7q ..) ?_;exact hP
  ·have e:((List.range (3+2)).map λj=>d8.ref (ad j)).flatMap (cont H2)=a02:=hall;refine b9 e ?_;exact q _ c L2.keep hc
 ·refine i9 hI λad L2 l2=>?_;clear hI;refine eA (a3p hv) λhi q2=>?_;subst q2;refine ⟨_,A1,a70 (r:=r1.set t3 (.int ((2+i:Nat)))) L2 (c6c hi) l2 (by refine b9 (Nat.add_comm ..) ?_;rfl) λr' H' ad' L' l'=>hW _ _ ⟨ad',L',l'⟩⟩
end
structure LH (cells:List Int) (lay:Slot->Nat) (C:D0) (H:Hp) (st:St) (ties:List (Nat×Nat)) (rs:List I3) (tl:List (Nat×Nat)):Prop where
 L:G0 lay C H
 E:EG lay C st
 I:C5 ties st
 D:a0o st
 S:Shp st.nd
 d0:∃ k ep,C (.ow 0)=some (dkO lay k ep)
 d1:C (.ow 1)=some (.list (cells.map d8.int))
 c2:C (.ow 2)=some (.list (rs.map r8))
 c3:C (.ow 3)=some (.list (tl.map a0B))
structure LV (lay:Slot->Nat) (r:En):Prop where
 deck:r A8=some (.ref (lay (.ow 0)))
 heap:r t7=some (.ref (lay (.eg 0)))
 rows:r n9=some (.ref (lay (.ow 2)))
 ties:r I8=some (.ref (lay (.ow 3)))
section
variable {cells:List Int} {lay lay':Slot->Nat} {C C':D0} {H H':Hp} {st st':St} {ties ties':List (Nat×Nat)} {rs:List I3} {tl:List (Nat×Nat)} {r:En}
theorem LV.same (v:LV lay r) (s:P7 lay C lay' C'):LV lay' r:=⟨by refine b9 (s.lay ..) ?_;exact v.deck,by refine b9 (s.eg ..) ?_;exact v.heap,by refine b9 (s.lay ..) ?_;exact v.rows,by refine b9 (s.lay ..) ?_;exact v.ties⟩
theorem LH.same (X:LH cells lay C H st ties rs tl) (s:P7 lay C lay' C') (L:G0 lay' C' H') (E:EG lay' C' st') (I:C5 ties' st') (D:a0o st') (S:Shp st'.nd):LH cells lay' C' H' st' ties' rs tl :=
 ⟨L,E,I,D,S,let ⟨k,ep,h⟩:=X.d0;⟨k,ep,by refine b9 (s.con ..) ?_;refine b9 h ?_;unfold dkO;refine b9 (s.lay ..) ?_;rfl⟩,by refine b9 (s.con ..) ?_;exact X.d1,by refine b9 (s.con ..) ?_;exact X.c2,by refine b9 (s.con ..) ?_;exact X.c3⟩
theorem LH.keep (X:LH cells lay C H st ties rs tl) (k:m5 H H'):LH cells lay C H' st ties rs tl:=⟨X.L.keep k,X.E,X.I,X.D,X.S,X.d0,X.d1,X.c2,X.c3⟩
theorem LH.own (X:LH cells lay C H st ties rs tl) (ha:H a=none):LH cells (I7 lay (.ow 9) a) (upd C (.ow 9) o) (H.set a o) st ties rs tl :=
 ⟨X.L.take ha,X.E.own,X.I,X.D,X.S,X.d0,X.d1,X.c2,X.c3⟩
theorem LV.own (v:LV lay r):LV (I7 lay (.ow 9) a) r:=⟨v.deck,v.heap,v.rows,v.ties⟩
theorem LH.setRows (X:LH cells lay C H st ties rs tl) {rs':List I3}:LH cells lay (upd C (.ow 2) (.list (rs'.map r8))) (H.set (lay (.ow 2)) (.list (rs'.map r8))) st ties rs' tl :=
 ⟨X.L.put X.c2,X.E.ow,X.I,X.D,X.S,X.d0,X.d1,B4,X.c3⟩
theorem LH.setTies (X:LH cells lay C H st ties rs tl) {tl':List (Nat×Nat)}:LH cells lay (upd C (.ow 3) (.list (tl'.map a0B))) (H.set (lay (.ow 3)) (.list (tl'.map a0B))) st ties rs tl' :=
 ⟨X.L.put X.c3,X.E.ow,X.I,X.D,X.S,X.d0,X.d1,X.c2,B4⟩
theorem a0E {F:D4} (hF:F 0 j9=some D7) (X:LH cells lay C H st ties rs tl) (hl:cells.length<=40) (hm:0 < many) (q:∀ C' H' (j:Nat),j < many->LH cells lay C' H' st ties rs tl->C' (.ow 9)=C (.ow 9)->Q (.int (j:Nat)) H'):(j5 F (n+1)).call 0 j9 [.ref (lay (.ow 0)),.int (many:Nat)] H Q:=by
 refine eEE X.d0 λk ep h=>?_;exact taken hF X.L h X.d1 hl hm λep' H' j hj L'=>q _ H' j hj ⟨L',X.E.ow,X.I,X.D,X.S,⟨k+1,ep',B4⟩,X.d1,X.c2,X.c3⟩ rfl
end
section
variable {K:Calls} {r:En} {H:Hp}
theorem b9t {x y z w:Nm} {a b c d:d8} {Q:a3M} (h:a3K H u [a,b,c,d]) (q:Q ((((r.set x a).set y b).set z c).set w d) H):Q9 [l7 x,l7 y,l7 z,l7 w] K u r H Q:=⟨[a,b,c,d],h,rfl,a,_,rfl,b,_,rfl,c,_,rfl,d,[],rfl,rfl,q⟩
theorem b6R {ks:List String} {es:Lv} (h:es K r H λvs H1=>vs.length=ks.length/\newDict (A9 ((ks.map d8.str).zip vs)) H1 Q):a7H ks es K r H Q:=h
theorem c0X {e i:Ev} (h:e K r H λv H1=>i K r H1 λw H2=>b6x v w H2 Q):b2p e i K r H Q:=h
end
theorem b0K:A9 (["cells","at"].map d8.str |>.zip [u,v])=[(.str "cells",u),(.str "at",v)]:=by
 show C6 (C6 [] (.str "cells") u) (.str "at") v=_;have e:C6 [] (.str "cells") u=[(.str "cells",u)]:=rfl;refine b9 e ?_;unfold C6;have n:s9 [(.str "cells",u)] (.str "at")=none:=by unfold s9;simp
 refine b9 n ?_;refine b9 (if_neg (by simp)) ?_;rfl
noncomputable def ab:List I3:=[("a",[]),("b",[])]
theorem b2K {F:D4} {sl:List Int} {b:Bv} {Q:C0} (T:Ti F) (hs:r a2V=some (.fz sl)) (hl:sl.length<=63)
  (q:∀ lay C H' r',LH (sl.take 40) lay C H' st0 [] ab []->LV lay r'->b (j5 F (n+2)) r' H' Q) :
  f6 (s6 (Q9 [(l7 A8),(l7 t7),(l7 n9),(l7 I8)]) (n5 (d6 (a7H ["cells","at"] (d6 (v8 (J8 .int (d6 (d7 a6J) f4)) [a6J] true (w5 (b2p (d7 a2V) (j6 (.int 40)))) B6) (d6 (j6 (.int 0)) f4))) (d6 (a6m o6 f4) (d6 (J5 (d6 (n5 (d6 (j6 (.str "a")) f4)) (d6 (n5 (d6 (j6 (.str "b")) f4)) f4))) (d6 (J5 f4) f4)))))) b (j5 F (n+2)) r H Q:=by
 have cl:((sl.take 40).map d8.int).length<=40:=by refine b9 (c7x ..) ?_;exact List.length_take_le _ _
 refine g8 (z0 (D1 (d9 (b6R (d9 (a0l (l:=(sl.take 40).map d8.int) (g:=some) (by unfold o5;exact c2k cl) (a82 λR hR=>c0X (f9 hs (m8 (⟨sl,40,rfl,rfl,by exact c3M,by unfold o5;exact c4l,by unfold o5;exact c2S hl,by unfold o5;exact Nat.le_trans cl (by decide),λx hx=>?_⟩)))) (λv hv H' k P hP=>?_) λH1 c1 k1 hc1=>d9 (m8 (g9 ⟨rfl,λep d hd=>?_⟩))))))))
 ·exact hR x _ (.new hx) l9
 ·refine i9 (List.mem_map.mp hv) λi hi q1=>?_;subst q1;exact N2 (O8 (d9 (f9 rfl (g9 ⟨i,rfl,hP _ (.refl _)⟩))))
 refine b9 b0K ?_;have e:((sl.take 40).map d8.int).filterMap some=(sl.take 40).map d8.int:=List.filterMap_some;rw [e] at hd ⊢;have L0:G0 (λ_=>0) (λ_=>none) H1:=⟨λs o h=>(by cases h),λs t o p h=>(by cases h)⟩
 have L1:=L0.take (s:=.ow 1) (o:=.list ((sl.take 40).map d8.int)) hc1;have L2:=L1.take (s:=.ow 0) (o:=.dict [(.str "cells",.ref c1),(.str "at",.int 0)] ep) hd;refine d9 (a9j (g9 (b23 (n:=n) T L2 λlay' C' H3 L3 E3 l3 k3=>d9 (X6 (d9 (D1 (d9 (m8 (g9 (d9 (D1 (d9 (m8 (g9 (g9 λx hx=>d9 (X6 (g9 λy hy=>g9 (b9t (.inl rfl) ?_))))))))))))))))));have L4:=L3.take (s:=.ow 2) (o:=.list (ab.map r8)) hx;have E4:=E3.own (k:=2) (a:=x) (o:=.list (ab.map r8))
 have L5:=L4.take (s:=.ow 3) (o:=.list (([]:List (Nat×Nat)).map a0B)) hy;have E5:=E4.own (k:=3) (a:=y) (o:=.list (([]:List (Nat×Nat)).map a0B));refine q _ _ _ _ ⟨L5,E5,c6L,c3F,λx hx=>(by cases hx),⟨0,ep,?_⟩,?_,rfl,rfl⟩ ⟨?_,rfl,rfl,rfl⟩
 ·show C' (.ow 0)=some (.dict [(.str "cells",.ref (lay' (.ow 1))),_] ep);refine b9 (k3 ..) ?_;refine b9 (l3 ..) ?_;rfl
 ·show C' (.ow 1)=_;refine b9 (k3 ..) ?_;rfl
 ·show _=some (d8.ref (lay' (.ow 0)));refine b9 (l3 ..) ?_;rfl
noncomputable def b2W (x:I3):Prop:=(x.2=[]/\(x.1="a"\/x.1="b"))\/(x.1="f"/\∃ k,x.2=[k])\/(x.1="g"/\∃ k l,x.2=[k,l])
theorem a73 (h:b2W x):∃ c:Char,x.1=String.singleton c/\97<=c.toNat/\c.toNat<=122:=by
 rcases h with ⟨_,h | h⟩ | ⟨h,_⟩ | ⟨h,_⟩
 ·exact ⟨'a',by refine b9 h ?_;rfl,by decide,by decide⟩
 ·exact ⟨'b',by refine b9 h ?_;rfl,by decide,by decide⟩
 ·exact ⟨'f',by refine b9 h ?_;rfl,by decide,by decide⟩
 ·exact ⟨'g',by refine b9 h ?_;rfl,by decide,by decide⟩
theorem b4J (h:b2W x):x.2.length<=2:=by
 rcases h with ⟨h,_⟩ | ⟨_,_,h⟩ | ⟨_,_,_,h⟩ <;> refine b9 h ?_ <;> simp
section
variable {F:D4} {n:Nat} {cells:List Int} {lay:Slot->Nat} {C:D0} {H:Hp} {st:St} {ties:List (Nat×Nat)} {rs:List I3} {tl:List (Nat×Nat)} {r:En}
theorem b2X (T:Tb F) (X:LH cells lay C H st ties rs tl) (sm:st.nd.length < 17) (sx:b2W x) (hk:∀ k∈x.2,k < st.nd.length) (q0:∀ p,st.nd[p]?=some x->Q (.int (p:Nat)) H) (q1:∀ lay' C' H' st',LH cells lay' C' H' st' ties rs tl->P7 lay C lay' C'->st'.nd=st.nd++[x]->Q (.int (st.nd.length:Nat)) H') :
  (j5 F (n+5)).call o6 a2j [.ref (lay (.eg 0)),.str x.1,.tup (iL x.2)] H Q:=by
 refine B2 (a73 sx) λc hc c1 c2=>?_;refine hadd (n:=n) T X.L X.E X.I X.D (by refine t6 X.I.eqn ?_;exact sm) hc c1 c2 (b4J sx) (by refine t6 X.I.eqn ?_;exact hk) q0 λlay' C' H' st' L' E' s' I' D' nd'=>q1 lay' C' H' st' (X.same s' L' E' I' D' ?_) s' nd'
 refine b9 nd' ?_;intro y hy;rcases List.mem_append.mp hy with hy | hy
 ·exact X.S y hy
 ·refine b9 (List.mem_singleton.mp hy) ?_;exact sx
theorem b4a {b:Bv} {Q:C0} (T:Tb F) (X:LH cells lay C H st0 [] ab []) (v:LV lay r) (q:∀ lay' C' H' r' st',LH cells lay' C' H' st' [] ab []->st'.nd=ab->LV lay' r'->b (j5 F (n+5)) r' H' Q) :
  f6 (O6 [F6] true (w5 (d7 n9)) (f6 (v7 (j7 (d7 t7) a2j (d6 (l6 (d7 F6) (j6 (.int 0))) (d6 (n5 f4) f4)))) m6)) b (j5 F (n+5)) r H Q:=by
 refine g8 (Z6 (f9 (K:=j5 F (n+5)) (Q:=λv H1=>itV v H1 _) v.rows (.inr (.inr (.inl ⟨_,_,rfl,X.L.at_ _ _ X.c2,(ab.map r8).length+1,R7 (src:=.lst (lay (.ow 2))) (ab.map r8) (λi r1 H1=>∃ lay1 C1 st1,LH cells lay1 C1 H1 st1 [] ab []/\lay1 (.ow 2)=lay (.ow 2)/\st1.nd=ab.take i/\LV lay1 r1) (λi r1 H1 hI=>?_) (λr1 H1 hI=>?_) (λi u r1 H1 hu hI W hW _=>?_) _ 0 _ _ (zo0) (Nat.zero_le _) ⟨lay,C,st0,X,rfl,rfl,v⟩⟩)))))
 ·refine a2t hI λlay1 C1 st1 X1 e _=>?_;clear hI;exact ⟨_,by refine t6 e ?_;exact X1.L.at_ _ _ X1.c2,rfl⟩
 ·refine U4 hI λlay1 C1 st1 X1 e nd v1=>?_;clear hI;exact q lay1 C1 H1 r1 st1 X1 (by refine b9 nd ?_;rfl) v1
 ·refine U4 hI λlay1 C1 st1 X1 e nd v1=>?_;clear hI;rw [List.getElem?_map] at hu;refine i9 (Option.map_eq_some_iff.mp hu) λx hx q6=>?_;subst q6;have hi:i < 2:=(List.getElem?_eq_some_iff.mp hx).1;have sx:b2W x/\x.2=[]:=by
   obtain rfl | rfl:i=0\/i=1:=by exact zo6 hi
   ·have q1:=A3 hx;clear hx;subst q1;exact ⟨.inl ⟨rfl,.inl rfl⟩,rfl⟩
   ·have q2:=A3 hx;clear hx;subst q2;exact ⟨.inl ⟨rfl,.inr rfl⟩,rfl⟩
  have new:∀ p,st1.nd[p]?≠some x:=λp hp=>by
   rw [nd] at hp;obtain rfl | rfl:i=0\/i=1:=by exact zo6 hi
   ·have:=c7w hp;simp at this
   ·have q3:=A3 hx;clear hx;subst q3;have:=c7w hp;simp [ab] at this
  have len:st1.nd.length < 17:=by refine b9 nd ?_;refine b9 List.length_take ?_;exact c2I hi
  have v1':LV lay1 (r1.set F6 (r8 x)):=⟨v1.deck,v1.heap,v1.rows,v1.ties⟩;have e2:(d8.tup [])=.tup (iL x.2):=by refine b9 sx.2 ?_;rfl
  refine ⟨_,A1,g8 (D6 (u6 (by refine b9 T.hadd ?_;rfl) (X1.L.at_ _ _ X1.E.c0) (X1.L.at_ _ _ X1.E.c1) rfl (o9 (x:=t7) (r:=r1.set F6 (r8 x)) v1.heap) (d9 (C9 (f9 rfl (m8 (a0T (i:=0) (x:=.str x.1) (by show (iL x.2).length+1<=_;refine b9 sx.2 ?_;unfold o5;exact c7v rfl) rfl (d9 (D1 (g9 (g9 ?_)))))))))))⟩
  refine b9 e2 ?_;refine b2X (n:=n) T X1 len sx.1 (λk hk=>by rw [sx.2] at hk;cases hk) (λp hp=>absurd hp (new p)) λlay' C' H' st' X' s' nd'=>hW _ _ ⟨lay',C',st',X',(s'.lay 2).trans e,?_,v1'.same s'⟩
  refine b9 nd' ?_;refine b9 nd ?_;refine b9 List.take_add_one ?_;refine b9 hx ?_;rfl
theorem b0O {Q:List d8->Hp->Prop} (hF:F 0 j9=some D7) (X:LH cells lay C H st ties rs tl) (v:LV lay r) (hl:cells.length<=40) (hm:m<=2) (h0:0 < rs.length) (h1:rs.length<=17) (q:∀ C' H' js,js.length=m->(∀ k∈js,k < rs.length)->LH cells lay C' H' st ties rs tl->Q (iL js) H') :
  ∃ k,a0M (a2E [y8] true r (a2R (G7 j9 (d6 (d7 A8) (d6 (J8 .len (d6 (d7 n9) f4)) f4))) B6 (j5 F (n+1)))) (.seq (t9 0 (m:Nat))) k 0 [] H Q:=by
 have rl:(t9 0 (m:Nat)).length=m:=by refine b9 (a0y ..) ?_;refine b9 (m9 ..) ?_;refine b9 List.length_range ?_;rfl
 refine ⟨_,a37 (src:=.seq (t9 0 (m:Nat))) (t9 0 (m:Nat)) (λi acc H1=>∃ C1 js,LH cells lay C1 H1 st ties rs tl/\acc=iL js/\js.length=i/\∀ k∈js,k < rs.length) (λ_ _ _ _=>rfl) (λacc H1 hI=>?_) (λi u acc H1 hu hI=>?_) ((t9 0 (m:Nat)).length+1) 0 [] H (zo0) (Nat.zero_le _) ⟨C,[],X,rfl,rfl,λk hk=>(by cases hk)⟩⟩
 ·refine I6 hI λC1 js X1 q4 e hk=>?_;clear hI;subst q4;rw [rl] at e;exact q C1 H1 js e hk X1
 ·refine I6 hI λC1 js X1 q5 e hk=>?_;clear hI;subst q5;have hi:=(List.getElem?_eq_some_iff.mp hu).1;rw [rl] at hi;refine ⟨by refine b9 (m9 ..) ?_;refine b9 e ?_;unfold o5;exact c2f hm hi,λW hW=>⟨_,A1,N2 (a0i (d9 (f9 v.deck (d9 (O8 (d9 (f9 v.rows (g9 (B1 (X1.L.at_ _ _ X1.c2) ?_ (g9 ?_)))))))))) ⟩⟩
  ·refine b9 (c7x ..) ?_;exact o7 h1
  ·refine b9 (c7x ..) ?_;refine a0E hF X1 hl h0 λC' H' j hj X' _=>hW _ _ ⟨C',js++[j],X',?_,by refine b9 List.length_append ?_;refine b9 e ?_;rfl,λk hk'=>?_⟩
   ·refine t6 a6H ?_;rfl
   ·rcases List.mem_append.mp hk' with h | h
    ·exact hk k h
    ·refine b9 (List.mem_singleton.mp h) ?_;exact hj
end
noncomputable def opS (j:Nat):String:=if j=0 then "f" else "g"
theorem b7A {j:Nat} (hj:j < 2) {js:List Nat} (h:js.length=j+1):b2W (opS j,js):=by
 obtain rfl | rfl:j=0\/j=1:=by exact zo6 hj
 ·match js,h with
  | [k],_=>exact .inr (.inl ⟨rfl,k,rfl⟩)
 ·match js,h with
  | [k,l],_=>exact .inr (.inr ⟨rfl,k,l,rfl⟩)
section
variable {F:D4} {n:Nat} {cells:List Int} {lay:Slot->Nat} {C:D0} {H:Hp} {st:St} {r:En}
theorem a7N (T:Tb F) (X:LH cells lay C H st [] st.nd []) (v:LV lay r) (sm:st.nd.length < 17) {j:Nat} (hj:j < 2) {js:List Nat} (hjs:js.length=j+1) (hk:∀ k∈js,k < st.nd.length) (ho:r O0=some (.str (opS j))) (hks:r F7=some (.tup (iL js)))
  (hW:∀ lay' C' H' st',LH cells lay' C' H' st' [] st'.nd []->st.nd.length<=st'.nd.length->st'.nd.length<=st.nd.length+1->LV lay' r->W .next r H') :
  (f6 (a0t (B3 .eq (j7 (d7 t7) a2j (d6 (d7 O0) (d6 (d7 F7) f4))) (J8 .len (d6 (d7 n9) f4)))
   (f6 (v7 (j7 (d7 n9) u7 (d6 (y7 .add (n5 (d6 (d7 O0) f4)) (d7 F7)) f4)))
   m6)
   m6)
  m6) (j5 F (n+5)) r H W:=by
 have hl:∀ l:List I3,l.length<=17->(l.map r8).length<=o5:=λl h=>by refine b9 (c7x ..) ?_;exact o7 h
 refine g8 (a1a (G1 (u6 (by refine b9 T.hadd ?_;rfl) (X.L.at_ _ _ X.E.c0) (X.L.at_ _ _ X.E.c1) rfl (o9 v.heap) (d9 (f9 ho (d9 (f9 hks (g9 (b2X (n:=n) (x:=(opS j,js)) T X sm (b7A hj hjs) hk (λp hp=>?_) λlay' C' H' st' X' s' nd'=>?_)))))))))
 ·refine O8 (d9 (f9 v.rows (g9 (B1 (X.L.at_ _ _ X.c2) (hl _ (b5R sm)) (a2D ⟨λt=>?_,λ_=>?_⟩)))))
  ·have t:=of_decide_eq_true t;rw [List.length_map] at t;have:=(List.getElem?_eq_some_iff.mp hp).1;exact (c5Y t this).elim
  ·exact hW _ _ _ _ X (Nat.le_refl _) (zo9) v
 ·have v':=v.same s';refine O8 (d9 (f9 v'.rows (g9 (B1 (X'.L.at_ _ _ X'.c2) (hl _ (b5R sm)) (a2D ⟨λ_=>?_,λt=>?_⟩)))))
  ·refine g8 (D6 (J9 (o9 v'.rows) (X'.L.at_ _ _ X'.c2) (d9 (I4 (D1 (d9 (f9 ho (g9 (f9 hks (a2u ?_ (g9 (K3 (X'.L.at_ _ _ X'.c2) (hl _ (b5R sm)) ?_))))))))))))
   ·refine b9 (m9 ..) ?_;refine b9 hjs ?_;show 1+(j+1)<=_;unfold o5;exact c6y hj
   ·have e:st.nd.map r8++[.tup ([.str (opS j)]++iL js)]=st'.nd.map r8:=by refine b9 nd' ?_;refine b9 List.map_append ?_;rfl
    refine b9 e ?_;have l2:st'.nd.length=st.nd.length+1:=by refine b9 nd' ?_;refine b9 List.length_append ?_;rfl
    exact hW _ _ _ _ X'.setRows (b7V l2) (c4b l2) v'
  ·have t:=of_decide_eq_false t;rw [List.length_map] at t;exact absurd rfl t
theorem b0D (T:Tb F) (hF:F 0 j9=some D7) (cl:cells.length<=40) (X:LH cells lay C H st [] st.nd []) (v:LV lay r) (sm:st.nd.length < 17) (pos:2<=st.nd.length)
  (hW:∀ lay' C' H' st' r',LH cells lay' C' H' st' [] st'.nd []->st.nd.length<=st'.nd.length->st'.nd.length<=st.nd.length+1->LV lay' r'->W .next r' H') :
  (f6 (s6 (l7 O0) (l6 (J5 (d6 (j6 (.str "f")) (d6 (j6 (.str "g")) f4))) (G7 j9 (d6 (d7 A8) (d6 (j6 (.int 2)) f4)))))
  (f6 (s6 (l7 F7) (J8 .tuple (d6 (v8 (G7 j9 (d6 (d7 A8) (d6 (J8 .len (d6 (d7 n9) f4)) f4))) [y8] true (D5 (d6 (a2B (B3 .eq (d7 O0) (j6 (.str "f"))) (j6 (.int 1)) (j6 (.int 2))) f4)) B6) f4)))
  (f6 (a0t (B3 .eq (j7 (d7 t7) a2j (d6 (d7 O0) (d6 (d7 F7) f4))) (J8 .len (d6 (d7 n9) f4)))
   (f6 (v7 (j7 (d7 n9) u7 (d6 (y7 .add (n5 (d6 (d7 O0) f4)) (d7 F7)) f4)))
   m6)
   m6)
  m6))) (j5 F (n+5)) r H W:=by
 refine g8 (z0 (C9 (X6 (d9 (m8 (d9 (m8 (g9 λa ha=>a0i (d9 (f9 v.deck (d9 (m8 (g9 ?_)))))))))))));have X1:=X.own (o:=.list [.str "f",.str "g"]) ha;have v1:=v.own (a:=a);refine a0E (lay:=I7 lay (.ow 9) a) (n:=n+4) (many:=2) hF X1 cl (b9S) λC2 H2 j hj X2 e9=>M8 (a:=a) (x:=.str (opS j)) (xs:=[.str "f",.str "g"]) ?_ (by unfold o5;exact c7v rfl) ?_ (B7 ?_)
 ·have:=X2.L.at_ (.ow 9) _ (e9.trans B4);rw [a0U] at this;exact this
 ·obtain rfl | rfl:j=0\/j=1:=by exact zo6 hj
  ·rfl
  ·rfl
 generalize I7 lay (.ow 9) a=lay2 at X2 v1;have v2:LV lay2 (r.set O0 (.str (opS j))):=⟨v1.deck,v1.heap,v1.rows,v1.ties⟩;have cmp:∀ {P:N3},P (decide (j=0)) H2->X8 .eq (.str (opS j)) (.str "f") H2 P:=λ{P} p=>by
  obtain rfl | rfl:j=0\/j=1:=by exact zo6 hj
  ·exact c6T rfl p
  ·exact c09 rfl rfl (by simp [opS]) p
 have fin:∀ {Q:List d8->Hp->Prop},(∀ C' H' js,js.length=j+1->(∀ k∈js,k < st.nd.length)->LH cells lay2 C' H' st [] st.nd []->Q (iL js) H')->itR [.int ((j+1:Nat))] H2 λsrc H1=>∃ k,a0M (a2E [y8] true (r.set O0 (.str (opS j))) (a2R (G7 j9 (d6 (d7 A8) (d6 (J8 .len (d6 (d7 n9) f4)) f4))) B6 (j5 F (n+5)))) src k 0 [] H1 Q:=λq =>
  .inl ⟨(j+1:Nat),rfl,by unfold o5;exact c6m,by unfold o5;exact b82 hj,b0O (n:=n+4) hF X2 v2 cl (c6a hj) (b7d pos) (b5R sm) q⟩
 refine g8 (z0 (O8 (d9 (d9 (K:=j5 F (n+5)) (Q:=λvs H1=>itR vs H1 _) (a5Q (G1 (f9 rfl (m8 (cmp ⟨λt=>m8 ?_,λt=>m8 ?_⟩)))))))))
 ·have t:=of_decide_eq_true t;subst t;refine g9 (fin λC3 H3 js e hk X3 b hb=>g9 (a1J l9 (by refine b9 (m9 ..) ?_;refine b9 e ?_;unfold o5;exact c02) (B7 ?_)))
  have v3:LV lay2 ((r.set O0 (.str (opS 0))).set F7 (.tup (iL js))):=⟨v1.deck,v1.heap,v1.rows,v1.ties⟩;exact a7N T (X3.keep (.new hb)) v3 sm hj e hk rfl rfl λlay' C' H' st' X' l1 l2 v'=>hW lay' C' H' st' _ X' l1 l2 v'
 ·have t:=of_decide_eq_false t;obtain rfl:j=1:=by exact c5Z hj t
  refine g9 (fin λC3 H3 js e hk X3 b hb=>g9 (a1J l9 (by refine b9 (m9 ..) ?_;refine b9 e ?_;unfold o5;exact c2j) (B7 ?_)))
  have v3:LV lay2 ((r.set O0 (.str (opS 1))).set F7 (.tup (iL js))):=⟨v1.deck,v1.heap,v1.rows,v1.ties⟩;exact a7N T (X3.keep (.new hb)) v3 sm hj e hk rfl rfl λlay' C' H' st' X' l1 l2 v'=>hW lay' C' H' st' _ X' l1 l2 v'
end
theorem a6V {x:d8} (h:H a=some (.list (xs++[x]))) (hl:xs.length < o5) (q:Q x H):a8v (.ref a) (.int (-1)) H Q:=by
 have l1:(xs++[x]).length=xs.length+1:=List.length_append;refine .inr (.inl ⟨xs++[x],-1,xs.length,x,.inr ⟨a,rfl,h⟩,rfl,?_,by simp,q⟩)
 unfold a07;refine b9 l1 ?_;refine b9 (if_pos (c3e hl)) ?_;refine b9 (if_neg (c40)) ?_;refine b9 (if_pos ⟨by exact c46,by exact c4j⟩) ?_
 congr 1
 exact c1u
theorem b41 (hi:i < 3) (q:∀ s,Q (.str s) H):a43 .add (.str "tie") (.str (toString (i:Int))) H Q:=by
 refine .inr (.inl ⟨"tie",_,rfl,rfl,?_,q _⟩);have e:"tie".length+(toString (i:Int)).length<=10:=by
  obtain rfl | rfl | rfl:i=0\/i=1\/i=2:=by exact c4E hi
  ·decide +kernel
  ·decide +kernel
  ·decide +kernel
 unfold o5;exact b9M e
section
variable {F:D4} {n:Nat} {cells:List Int} {lay:Slot->Nat} {C:D0} {H:Hp} {st:St} {r:En} {ties:List (Nat×Nat)} {nd:List I3}
theorem b3I {b:Bv} {Q:C0} (T:Tb F) (hF:F 0 j9=some D7) (cl:cells.length<=40) (X:LH cells lay C H st [] st.nd []) (v:LV lay r) (l2:st.nd.length=2) (q:∀ lay' C' H' r' st',LH cells lay' C' H' st' [] st'.nd []->2<=st'.nd.length->st'.nd.length<=17->LV lay' r'->b (j5 F (n+5)) r' H' Q) :
  f6 (O6 [a2r] true (D5 (d6 (G7 j9 (d6 (d7 A8) (d6 (j6 (.int 6)) f4))) f4))
  (f6 (s6 (l7 O0) (l6 (J5 (d6 (j6 (.str "f")) (d6 (j6 (.str "g")) f4))) (G7 j9 (d6 (d7 A8) (d6 (j6 (.int 2)) f4)))))
  (f6 (s6 (l7 F7) (J8 .tuple (d6 (v8 (G7 j9 (d6 (d7 A8) (d6 (J8 .len (d6 (d7 n9) f4)) f4))) [y8] true (D5 (d6 (a2B (B3 .eq (d7 O0) (j6 (.str "f"))) (j6 (.int 1)) (j6 (.int 2))) f4)) B6) f4)))
  (f6 (a0t (B3 .eq (j7 (d7 t7) a2j (d6 (d7 O0) (d6 (d7 F7) f4))) (J8 .len (d6 (d7 n9) f4)))
   (f6 (v7 (j7 (d7 n9) u7 (d6 (y7 .add (n5 (d6 (d7 O0) f4)) (d7 F7)) f4)))
   m6)
   m6)
  m6)))) b (j5 F (n+5)) r H Q:=by
 refine g8 (Z6 (d9 (K:=j5 F (n+5)) (Q:=λvs H1=>itR vs H1 _) (a0i (d9 (f9 v.deck (d9 (m8 (g9 (a0E (n:=n+4) (many:=6) hF X cl (c3t) λC1 H1 j hj X1 _=>g9 (.inl ⟨(j:Nat),rfl,by unfold o5;exact b7o,by unfold o5;exact c5M hj,(t9 0 (j:Nat)).length+1,R7 (src:=.seq (t9 0 (j:Nat))) (t9 0 (j:Nat)) (λi r1 H2=>∃ lay2 C2 st2,LH cells lay2 C2 H2 st2 [] st2.nd []/\2<=st2.nd.length/\st2.nd.length<=2+i/\LV lay2 r1) (λ_ _ _ _=>rfl) (λr1 H2 hI=>?_) (λi u r1 H2 hu hI W hW _=>?_) _ 0 _ _ (zo0) (Nat.zero_le _) ⟨lay,C1,st,X1,by exact b9J l2,by exact c0F l2,v⟩⟩))))))))))
 ·refine U4 hI λlay2 C2 st2 X2 p1 p2 v2=>?_;clear hI;rw [a0y,m9,List.length_range] at p2;exact q lay2 C2 H2 r1 st2 X2 p1 (c58 hj p2) v2
 ·refine U4 hI λlay2 C2 st2 X2 p1 p2 v2=>?_;clear hI;have hi:=(List.getElem?_eq_some_iff.mp hu).1;rw [a0y,m9,List.length_range] at hi;have v3:LV lay2 (r1.set a2r u):=⟨v2.deck,v2.heap,v2.rows,v2.ties⟩;exact ⟨_,A1,b0D T hF cl X2 v3 (c0v hj p2 hi) p1 λlay' C' H' st' r' X' q1 q2 v'=>hW _ _ ⟨lay',C',st',X',by exact b9e p1 q1,by exact c2R p2 q2,v'⟩⟩
theorem b1t (T:Tb F) (hF:F 0 j9=some D7) (cl:cells.length<=40) (X:LH cells lay C H st ties nd ties) (e:st.nd=nd) (v:LV lay r) (tl:ties.length < 3) (hi:i < 3) (hlap:r a2r=some (.int (i:Nat))) (pos:2<=nd.length)
  (hW:∀ lay' C' H' st' t,LH cells lay' C' H' st' (ties++[t]) nd (ties++[t])->st'.nd=nd->LV lay' r->W .next r H') :
  (f6 (v7 (j7 (d7 I8) u7 (d6 (n5 (d6 (G7 j9 (d6 (d7 A8) (d6 (J8 .len (d6 (d7 n9) f4)) f4))) (d6 (G7 j9 (d6 (d7 A8) (d6 (J8 .len (d6 (d7 n9) f4)) f4))) f4))) f4)))
  (f6 (v7 (j7 (d7 t7) R9 (d6 (l6 (l6 (d7 I8) (a3c (j6 (.int 1)))) (j6 (.int 0))) (d6 (l6 (l6 (d7 I8) (a3c (j6 (.int 1)))) (j6 (.int 1))) (d6 (n5 (d6 (j6 (.str "told")) (d6 (y7 .add (j6 (.str "tie")) (J8 .str (d6 (d7 a2r) f4))) f4))) f4)))))
  m6)) (j5 F (n+5)) r H W:=by
 have n17:nd.length<=17:=by refine t6 e ?_;exact X.I.toOk.nd
 have hl:(nd.map r8).length<=o5:=by refine b9 (c7x ..) ?_;exact o7 n17
 refine g8 (D6 (J9 (o9 v.ties) (X.L.at_ _ _ X.c3) (d9 (D1 (d9 (a0i (d9 (f9 v.deck (d9 (O8 (d9 (f9 v.rows (g9 (B1 (X.L.at_ _ _ X.c2) hl (g9 ?_)))))))))))))));refine b9 (c7x ..) ?_;refine a0E (n:=n+4) hF X cl (b7d pos) λC1 H1 a ha X1 _=>d9 (a0i (d9 (f9 v.deck (d9 (O8 (d9 (f9 v.rows (g9 (B1 (X1.L.at_ _ _ X1.c2) hl (g9 ?_))))))))));refine b9 (c7x ..) ?_;refine a0E (n:=n+4) hF X1 cl (b7d pos) λC2 H2 b hb X2 _=>g9 (g9 (K3 (X2.L.at_ _ _ X2.c3) (by refine b9 (c7x ..) ?_;unfold o5;exact c3W tl) ?_))
 have e2:ties.map a0B++[.tup [.int (a:Nat),.int (b:Nat)]]=(ties++[(a,b)]).map a0B:=by refine b9 List.map_append ?_;rfl
 refine b9 e2 ?_;have X3:=X2.setTies (tl':=ties++[(a,b)]);generalize Hp.set H2 (lay (.ow 3)) (.list ((ties++[(a,b)]).map a0B))=H3 at X3 ⊢;have h3:H3 (lay (.ow 3))=some (.list (ties.map a0B++[.tup [.int (a:Nat),.int (b:Nat)]])):=by refine b9 e2 ?_;exact X3.L.at_ _ _ X3.c3
 have tl3:(ties.map a0B).length < o5:=by refine b9 (c7x ..) ?_;unfold o5;exact c6s tl
 refine g8 (D6 (u6 (by refine b9 T.hmerge ?_;rfl) (X3.L.at_ _ _ X3.E.c0) (X3.L.at_ _ _ X3.E.c1) rfl (o9 v.heap) (d9 (C9 (C9 (f9 v.ties (a5J (m8 ⟨1,rfl,?_⟩))))))))
 refine a6V h3 tl3 (m8 (a0T (i:=0) (x:=.int (a:Nat)) (by unfold o5;exact c7v rfl) rfl (d9 (C9 (C9 (f9 v.ties (a5J (m8 ⟨1,rfl,?_⟩))))))))
 refine a6V h3 tl3 (m8 (a0T (i:=1) (x:=.int (b:Nat)) (by unfold o5;exact c7v rfl) rfl (d9 (D1 (d9 (m8 (d9 (I4 (m8 (O8 (d9 (f9 hlap (g9 ?_)))))))))))))
 refine ⟨(i:Nat),rfl,⟨by exact c4v,by exact c3K hi⟩,b41 hi λs=>g9 (g9 ?_)⟩
 refine b0F (n:=n+1) T X3.L X3.E X3.I X3.D tl (by refine t6 X3.I.eqn ?_;refine b9 e ?_;exact ha) (by refine t6 X3.I.eqn ?_;refine b9 e ?_;exact hb) λlay' C' H' st' w L' E' s' I' D' nd'=>?_
 exact hW lay' C' H' st' (a,b) (X3.same s' L' E' I' D' (by refine b9 nd' ?_;exact X3.S)) (nd'.trans e) (v.same s')
end
section
variable {F:D4} {n:Nat} {cells:List Int} {lay:Slot->Nat} {C:D0} {H:Hp} {st:St} {r:En} {nd:List I3}
theorem b1C {b:Bv} {Q:C0} (T:Tb F) (hF:F 0 j9=some D7) (cl:cells.length<=40) (X:LH cells lay C H st [] nd []) (e:st.nd=nd) (v:LV lay r) (pos:2<=nd.length) (q:∀ lay' C' H' r' st' ties,LH cells lay' C' H' st' ties nd ties->st'.nd=nd->LV lay' r'->b (j5 F (n+5)) r' H' Q) :
  f6 (O6 [a2r] true (D5 (d6 (G7 j9 (d6 (d7 A8) (d6 (j6 (.int 4)) f4))) f4))
  (f6 (v7 (j7 (d7 I8) u7 (d6 (n5 (d6 (G7 j9 (d6 (d7 A8) (d6 (J8 .len (d6 (d7 n9) f4)) f4))) (d6 (G7 j9 (d6 (d7 A8) (d6 (J8 .len (d6 (d7 n9) f4)) f4))) f4))) f4)))
  (f6 (v7 (j7 (d7 t7) R9 (d6 (l6 (l6 (d7 I8) (a3c (j6 (.int 1)))) (j6 (.int 0))) (d6 (l6 (l6 (d7 I8) (a3c (j6 (.int 1)))) (j6 (.int 1))) (d6 (n5 (d6 (j6 (.str "told")) (d6 (y7 .add (j6 (.str "tie")) (J8 .str (d6 (d7 a2r) f4))) f4))) f4)))))
  m6))) b (j5 F (n+5)) r H Q:=by
 refine g8 (Z6 (d9 (K:=j5 F (n+5)) (Q:=λvs H1=>itR vs H1 _) (a0i (d9 (f9 v.deck (d9 (m8 (g9 (a0E (n:=n+4) (many:=4) hF X cl (c08) λC1 H1 j hj X1 _=>g9 (.inl ⟨(j:Nat),rfl,by unfold o5;exact b7o,by unfold o5;exact c37 hj,(t9 0 (j:Nat)).length+1,R7 (src:=.seq (t9 0 (j:Nat))) (t9 0 (j:Nat)) (λi r1 H2=>∃ lay2 C2 st2 ts,LH cells lay2 C2 H2 st2 ts nd ts/\st2.nd=nd/\ts.length=i/\LV lay2 r1) (λ_ _ _ _=>rfl) (λr1 H2 hI=>?_) (λi u r1 H2 hu hI W hW _=>?_) _ 0 _ _ (zo0) (Nat.zero_le _) ⟨lay,C1,st,[],X1,e,rfl,v⟩⟩))))))))))
 ·refine a6X hI λlay2 C2 st2 ts X2 e2 _ v2=>?_;clear hI;exact q lay2 C2 H2 r1 st2 ts X2 e2 v2
 ·refine a6X hI λlay2 C2 st2 ts X2 e2 l2 v2=>?_;clear hI;have hi:=(List.getElem?_eq_some_iff.mp hu).1;rw [a0y,m9,List.length_range] at hi;obtain rfl:u=.int (i:Nat):=by
   rw [a0y] at hu;unfold iL at hu;rw [List.getElem?_map,List.getElem?_range hi] at hu;injection hu with hu
   exact hu.symm
  have v3:LV lay2 (r1.set a2r (.int (i:Nat))):=⟨v2.deck,v2.heap,v2.rows,v2.ties⟩;exact ⟨_,A1,b1t (i:=i) T hF cl X2 e2 v3 (c6u hj l2 hi) (c0P hj hi) rfl pos λlay' C' H' st' t X' e' v'=>hW _ _ ⟨lay',C',st',ts++[t],X',e',by refine b9 List.length_append ?_;refine b9 l2 ?_;rfl,v'⟩⟩
theorem a89 {b:Bv} {Q:C0} {ties:List (Nat×Nat)} (T:Tb F) (X:LH cells lay C H st ties nd ties) (v:LV lay r) (q:∀ lay' C' H' st',LH cells lay' C' H' st' ties nd ties->st'.nd=st.nd->st'.wt=[]->LV lay' r->b (j5 F (n+5)) r H' Q) :
  f6 (v7 (j7 (d7 t7) a1C f4)) b (j5 F (n+5)) r H Q:=by
 refine g8 (D6 (u6 (by refine b9 T.hsettle ?_;rfl) (X.L.at_ _ _ X.E.c0) (X.L.at_ _ _ X.E.c1) rfl (o9 v.heap) (g9 (hsettle (n:=n) T X.L X.E X.I X.D λlay' C' H' st' L' E' s' I' D' nd' wt'=>?_))))
 exact q lay' C' H' st' (X.same s' L' E' I' D' (by refine b9 nd' ?_;exact X.S)) nd' wt' (v.same s')
end
section
variable {F:D4} {n:Nat} {H:Hp} {Q:m7}
theorem b1S (T:Ti F) {hv:d8} (q:∀ g gd H',m5 H H'->H' g=some (.inst w7 gd)->H' gd=some (.ns [(t7,hv)])->Q (.ref g) H'):b04 (j5 F (n+1)) w7 [hv] H Q:=λg gd hg hgd ne=>by
 have k1:m5 H (H.set gd (.ns [])):=.new hgd;have hg1:(H.set gd (.ns [])) g=none:=by refine b9 (A0 ne) ?_;exact hg
 have k2:m5 H ((H.set gd (.ns [])).set g (.inst w7 gd)):=k1.trans (.new hg1);have h1:((H.set gd (.ns [])).set g (.inst w7 gd)) gd=some (.ns []):=by refine b9 (A0 λe=>ne e.symm) ?_;exact l9
 refine t0 T.gram rfl (g8 (z0 (f9 (v:=hv) rfl (f9 (v:=.ref g) rfl ⟨w7,gd,[],⟨g,rfl,l9,h1⟩,Nat.zero_le _,?_⟩))));refine ⟨rfl,q g gd _ (k2.put hgd) ?_ l9⟩;refine b9 (A0 ne) ?_;exact l9
end
noncomputable def a4Y (p:Nat->Bool) (v:d8):Option d8:=match v with
 | .int i=>if p i.toNat=true then some v else none
 | _=>none
theorem b5C {p:Nat->Bool}:∀ l:List Nat,(iL l).filterMap (a4Y p)=iL (l.filter p):=by
 intro l;induction l with
 | nil=>exact rfl
 | cons a l ih =>
  show (d8.int (a:Nat) :: iL l).filterMap (a4Y p)=_;by_cases h:p a=true
  ·have e:a4Y p (.int (a:Nat))=some (.int (a:Nat)):=by unfold a4Y;exact if_pos h
   refine b9 (List.filterMap_cons_some e) ?_;refine b9 (List.filter_cons_of_pos h) ?_;refine b9 ih ?_;rfl
  ·have e:a4Y p (.int (a:Nat))=none:=by unfold a4Y;exact if_neg h
   refine b9 (List.filterMap_cons_none e) ?_;refine b9 (List.filter_cons_of_neg h) ?_;refine b9 ih ?_;rfl
theorem a3H {ar:Nat} {rows:List d8} {ifs:Cv} {p:Nat->Bool} (hr:r n9=some (.ref ar)) (har:H ar=some (.list rows)) (hl:rows.length<=17)
  (h:∀ i,i < rows.length->∀ H',m5 H H'->∀ P:N3,(∀ H'',m5 H' H''->P (p i) H'')->ifs K (r.set G4 (.int (i:Nat))) H' P)
  (q:∀ H' a,m5 H H'->H' a=none->Q (.ref a) (H'.set a (.list (iL ((List.range rows.length).filter p))))) :
  v8 (d7 G4) [G4] true (D5 (d6 (J8 .len (d6 (d7 n9) f4)) f4)) ifs K r H Q:=by
 refine a0l (l:=iL (List.range rows.length)) (g:=a4Y p) (by refine b9 (m9 ..) ?_;refine b9 List.length_range ?_;exact o7 hl) (a8p (o7 hl) λR hR=>d9 (O8 (d9 (f9 hr (g9 (B1 har (o7 hl) (g9 (hR H (.refl _))))))))) (λv hv H' k P hP=>?_) λH' a k ha=>by refine b9 (b5C ..) ?_;exact q H' a k ha
 refine i9 (a1p hv) λi hi q1=>?_;subst q1;refine h i (List.mem_range.mp hi) H' k _ λH'' k''=>⟨λt=>f9 rfl ?_,λt=>?_⟩
 ·have e:a4Y p (.int (i:Nat))=some (.int (i:Nat)):=by unfold a4Y;exact if_pos t
  have:=hP H'' k'';rw [e] at this;exact this
 ·have e:a4Y p (.int (i:Nat))=none:=by unfold a4Y;exact if_neg (by refine b9 (show Int.toNat (i:Nat)=i from rfl) ?_;refine b9 t ?_;simp)
  have:=hP H'' k'';rw [e] at this;exact this
theorem b2D (h:¬ i < up.length):f8 up i=i:=by
 unfold f8;cases i with
 | zero=>rfl
 | succ i =>
  unfold a3I;refine b9 (List.getElem?_eq_none (c1j h)) ?_;rfl
noncomputable def a4K:List d8:=[.tup [.str "c"],.tup [.str "f"],.tup [.str "g",.tup [.str "a"]],.tup [.str "a",.tup [.str "b"]],.tup [.str "f",.tup [.str "c"]],.tup [.str "g",.tup [.str "a"],.tup [.str "h",.tup [.str "b"]]],.tup [.str "g",.tup [.str "a"],.tup [.str "b"],.tup [.str "a"]]]
theorem c55:∀ t∈a02++a4K,tyN 5 t=true/\szN 5 t<=4/\B8 7 t=true/\x9 t=2:=by
 have h:((a02++a4K).all λt=>tyN 5 t&&(Nat.ble (szN 5 t) 4&&(B8 7 t&&Nat.beq (x9 t) 2)))=true:=by decide +kernel
 intro t ht;have:=List.all_eq_true.mp h t ht;rw [Bool.and_eq_true,Bool.and_eq_true,Bool.and_eq_true] at this;exact ⟨this.1,c7v this.2.1,this.2.2.1,Nat.eq_of_beq_eq_true this.2.2.2⟩
end
section
open Classical
structure AS (cells:List Int) (lay:Slot->Nat) (C:D0) (H:Hp) (st:St) (ties:List (Nat×Nat)) (mk:List Nat) (a e g gd:Nat) (es:List (d8×d8)) (ma:Nat->Nat) (M:Nat->List d8):Prop where
 X:LH cells lay C H st ties st.nd ties
 w:st.wt=[]
 rt:l0 mk=f8 st.up
 ml:mk.length=st.up.length
 ha:H a=some (.list (iL mk))
 he:∃ ep,H e=some (.dict es ep)
 ok:∀ c:Nat,B0 es (.int (c:Nat))
 get:∀ c∈mk,s9 es (.int (c:Nat))=some (.ref (ma c))
 hm:∀ c∈mk,∃ ep,H (ma c)=some (.dict (trV (M c)) ep)
 mem:b4b st.nd mk M 4
 hg:H g=some (.inst w7 gd)
 hgd:H gd=some (.ns [(t7,.ref (lay (.eg 0)))])
structure AV (lay:Slot->Nat) (a e g:Nat) (r:En):Prop where
 rows:r n9=some (.ref (lay (.ow 2)))
 heap:r t7=some (.ref (lay (.eg 0)))
 marks:r h9=some (.ref a)
 made:r I0=some (.ref e)
 gram:r Q6=some (.ref g)
section
variable {F:D4} {n:Nat} {cells:List Int} {lay:Slot->Nat} {C:D0} {H:Hp} {st:St} {ties:List (Nat×Nat)} {mk:List Nat} {a e g gd:Nat} {es:List (d8×d8)} {ma:Nat->Nat} {M:Nat->List d8} {r:En}
theorem AS.keep {H':Hp} (A:AS cells lay C H st ties mk a e g gd es ma M) (k:m5 H H'):AS cells lay C H' st ties mk a e g gd es ma M :=
 ⟨A.X.keep k,A.w,A.rt,A.ml,k _ _ A.ha,let ⟨ep,h⟩:=A.he;⟨ep,k _ _ h⟩,A.ok,A.get,λc hc=>let ⟨ep,h⟩:=A.hm c hc;⟨ep,k _ _ h⟩,A.mem,k _ _ A.hg,k _ _ A.hgd⟩
theorem b3T (T:Tb F) (G:Tg F) (A:AS cells lay C H st ties mk a e g gd es ma M) (v:AV lay a e g r) (ht:t∈a02++a4K) (rt:r P4=some t) (hW:∀ H',m5 H H'->W .next r H') :
  (f6 (a0t (B3 .ne (v8 (d7 G4) [G4] true (D5 (d6 (J8 .len (d6 (d7 n9) f4)) f4)) (S2 (a4D (j7 (d7 Q6) T4 (d6 (d7 G4) (d6 (d7 P4) f4)))) B6)) (v8 (d7 G4) [G4] true (D5 (d6 (J8 .len (d6 (d7 n9) f4)) f4)) (S2 (B3 .isin (d7 P4) (l6 (d7 I0) (l6 (d7 h9) (d7 G4)))) B6)))
   (f6 (H9 (j6 (.bool false)))
   m6)
   m6)
  m6) (j5 F (n+9)) r H W:=by
 refine a8E (c55 t ht) λty sz key kind=>?_;have nl:(st.nd.map r8).length=st.up.length:=by refine b9 (c7x ..) ?_;exact A.X.I.eqn
 have n17:(st.nd.map r8).length<=17:=by refine b9 nl ?_;exact A.X.I.small
 refine g8 (a1a (G1 (a3H (p:=λi=>decide (J2 st 5 t=(f8 st.up i:Nat))) v.rows (A.X.L.at_ _ _ A.X.c2) n17 (λi hi H' k P hP=>?_) λH1 c1 k1 hc1=>?_)))
 ·have A':=A.keep k;rw [nl] at hi;have gr:(r.set G4 (.int (i:Nat))) Q6=some (.ref g):=v.gram;have tt:(r.set G4 (.int (i:Nat))) P4=some t:=rt;refine a1Z (a7Z (u6 (by refine b9 G.acc ?_;rfl) A'.hg A'.hgd rfl (o9 gr) (d9 (f9 rfl (d9 (f9 tt (g9 (c6M (n:=n) (k:=5) T G A'.X.L A'.X.E A'.X.I A'.hg A'.hgd ty hi λH'' k''=>⟨_,rfl,λz=>a4Q ?_,λz=>?_⟩))))))))
  ·have:=hP H'' k'';rw [z] at this;exact this
  ·have:=hP H'' k'';rw [z] at this;exact this
 ·have k2:m5 H (H1.set c1 (.list (iL ((List.range (st.nd.map r8).length).filter λi=>decide (J2 st 5 t=(f8 st.up i:Nat)))))):=k1.trans (.new hc1);have hc2:(H1.set c1 (.list (iL ((List.range (st.nd.map r8).length).filter λi=>decide (J2 st 5 t=(f8 st.up i:Nat)))))) c1=some (.list (iL ((List.range (st.nd.map r8).length).filter λi=>decide (J2 st 5 t=(f8 st.up i:Nat))))):=l9;have A2:=A.keep k2;generalize H1.set c1 (.list (iL ((List.range (st.nd.map r8).length).filter λi=>decide (J2 st 5 t=(f8 st.up i:Nat)))))=H2 at k2 hc2 A2 ⊢
  refine a3H (p:=λi=>decide (t∈M (l0 mk i))) v.rows (A2.X.L.at_ _ _ A2.X.c2) n17 (λi hi H' k P hP=>?_) λH3 c3 k3 hc3=>?_
  ·have A':=A2.keep k;rw [nl] at hi;have hi':i < mk.length:=by refine b9 A.ml ?_;exact hi
   have hmm:=V3 hi';have m17:mk.length<=17:=by refine b9 A.ml ?_;exact A.X.I.small
   have md:(r.set G4 (.int (i:Nat))) I0=some (.ref e):=v.made;have mr:(r.set G4 (.int (i:Nat))) h9=some (.ref a):=v.marks;have tt:(r.set G4 (.int (i:Nat))) P4=some t:=rt;refine eE A'.he λep he=>?_;refine eE (A'.hm _ hmm) λep2 hm=>?_;refine a1Z (G1 (f9 tt (C9 (f9 md (a1u (x:=G4) mr A'.ha m17 rfl hi' (J0 he (A'.ok _) (A'.get _ hmm) (a58 hm ⟨key,λp hp=>?_⟩ ⟨λz=>a4Q ?_,λz=>?_⟩)))))))
   ·refine i9 (List.mem_map.mp hp) λu hu q1=>?_;subst q1;refine i9 ((A.mem _ hmm u).mp hu) λs _ ev=>?_;refine b9 kind ?_;exact a2c ev
   ·rw [a6f] at z;have:=hP H' (.refl _);by_cases w:t∈M (l0 mk i)
    ·rw [decide_eq_true w] at this;exact this
    ·rw [if_neg w] at z;cases z
   ·rw [a6f] at z;have:=hP H' (.refl _);by_cases w:t∈M (l0 mk i)
    ·rw [if_pos w] at z;cases z
    ·rw [decide_eq_false w] at this;exact this
  ·have same:(List.range (st.nd.map r8).length).filter (λi=>decide (J2 st 5 t=(f8 st.up i:Nat)))=(List.range (st.nd.map r8).length).filter λi=>decide (t∈M (l0 mk i)):=by
    refine List.filter_congr λi hi=>?_;have hi:=List.mem_range.mp hi;rw [nl] at hi;have hmm:l0 mk i∈mk:=V3 (by refine b9 A.ml ?_;exact hi)
    refine I9 (decide_eq_decide ..) ?_;refine I9 (A.mem _ hmm t ..) ?_;refine b9 A.rt ?_;exact (b77 A.X.I A.X.D A.w sz (c3V) ty).symm
   refine a7O (m5.new hc3 _ _ (k3 _ _ hc2)) l9 (a2L _) (a2L _) (λne=>absurd (congrArg iL same) ne) λ_=>⟨(λz=>nomatch z),λ_=>?_⟩
   exact hW _ ((k2.trans k3).trans (.new hc3))
end
theorem a84:∀ {l m:List Nat},l.Pairwise (· < ·)->m.Pairwise (· < ·)->(∀ a,a∈l↔a∈m)->l=m:=by
 intro l;induction l with
 | nil =>
  intro z26;cases z26 with
  | nil =>
   intro _ _ _;exact rfl
  | cons b m =>
   intro _ _ h;have:=(h b).mpr List.mem_cons_self;cases this
 | cons a l ih =>
  intro z27;cases z27 with
  | nil =>
   intro _ _ h;have:=(h a).mp List.mem_cons_self;cases this
  | cons b m =>
   intro p q h;rw [List.pairwise_cons] at p q;have e:a=b:=by
    rcases List.mem_cons.mp ((h a).mp List.mem_cons_self) with z | z
    ·exact z
    ·rcases List.mem_cons.mp ((h b).mpr List.mem_cons_self) with w | w
     ·exact w.symm
     ·have:=q.1 a z;have:=p.1 b w;exact c4R ‹_› this
   subst e;rw [ih p.2 q.2 λx=>?_];constructor
   ·intro hx;rcases List.mem_cons.mp ((h x).mp (List.mem_cons_of_mem _ hx)) with z | z
    ·have:=p.1 x hx;exact (b75 z this).elim
    ·exact z
   ·intro hx;rcases List.mem_cons.mp ((h x).mpr (List.mem_cons_of_mem _ hx)) with z | z
    ·have:=q.1 x hx;exact (b75 z this).elim
    ·exact z
theorem b5q {ys:List Int} {l:List Nat} (hp:ys.Pairwise (· < ·)) (hm:∀ i,i∈ys↔i∈l.map Int.ofNat) {cs:List Nat} (sc:cs.Pairwise (· < ·)) (mc:∀ c,c∈cs↔c∈l):ys.map d8.int=iL cs:=by
 have e:(ys.map Int.toNat).map Int.ofNat=ys:=by
  refine b9 List.map_map ?_
  conv=>rhs;rw [<- List.map_id ys]
  refine List.map_congr_left λy hy=>?_;refine i9 (List.mem_map.mp ((hm y).mp hy)) λk _ q2=>?_;subst q2;rfl
 have e2:ys.map Int.toNat=cs:=by
  refine a84 ?_ sc λc=>?_
  ·have h2:((ys.map Int.toNat).map Int.ofNat).Pairwise (· < ·):=by refine b9 e ?_;exact hp
   rw [List.pairwise_map] at h2;exact List.Pairwise.imp (λh=>by exact Int.ofNat_lt.mp h) h2
  ·refine I9 (mc ..) ?_;have:=hm (Int.ofNat c);constructor
   ·intro h;have h1:Int.ofNat c∈ys:=by refine t6 e ?_;exact List.mem_map.mpr ⟨c,h,rfl⟩
    refine i9 (List.mem_map.mp (this.mp h1)) λk hk e2=>?_;refine t6 (Int.ofNat.inj e2) ?_;exact hk
   ·intro h;have h1:=this.mpr (List.mem_map.mpr ⟨c,h,rfl⟩);exact List.mem_map.mpr ⟨_,h1,rfl⟩
 refine t6 e2 ?_;refine t6 (a5k ..) ?_;refine b9 e ?_;rfl
theorem b45 {i j:Int} {a b:Nat} {Q:N3} (h1:H a=some (.list l)) (h2:H b=some (.list l)) (p:a1F l=true) (q:Q true H):X8 .eq (.tup [.int i,.int j,.ref a]) (.tup [.int i,.int j,.ref b]) H Q:=by
 have e:∀ k:Int,eq0 H (.int k) (.int k) true:=λk=>.inl ⟨rfl,rfl,by simp⟩
 have el:eq0 H (.ref a) (.ref b) true:=.inr (.inl ⟨a,b,l,l,rfl,rfl,h1,h2,.inl ⟨p,p⟩,by simp⟩)
 exact ⟨true,.inr ⟨_,_,rfl,rfl,.cons (c:=true) (e i) (.cons (c:=true) (e j) (.cons (c:=true) el .nil))⟩,q⟩
section
variable {F:D4} {n:Nat} {cells:List Int} {lay:Slot->Nat} {C:D0} {H:Hp} {st:St} {ties:List (Nat×Nat)} {mk:List Nat} {a e g gd:Nat} {es:List (d8×d8)} {ma:Nat->Nat} {M:Nat->List d8} {r:En} {Q:m7}
theorem b15 (I:C5 ties st):c∈clss st.up↔∃ i,i < st.up.length/\f8 st.up i=c:=by
 unfold clss;refine I9 (List.mem_filter ..) ?_;refine I9 (List.mem_range ..) ?_;constructor
 ·rintro ⟨h1,h2⟩
  exact ⟨c,h1,a17 I.up (by simpa using h2)⟩
 ·rintro ⟨i,hi,rfl⟩
  exact ⟨C7 I.up I.lt i hi,by refine b9 (N6 I.up i hi) ?_;simp⟩
theorem b4m {k od:Nat} {B:Hp->Prop} (T:Tb F) (G:Tg F) (hE:F 0 G8=some W5) (A:AS cells lay C H st ties mk a e g gd es ma M) (v:AV lay a e g r) (hk:r t3=some (.int (k:Nat))) (hys:∃ ys:List d8,ys.Nodup/\(∀ v,v∈ys↔v∈st.nd.map λx=>r8 (v0 st.up x))/\k=ys.length) (ho:r a5S=some (.ref od)) (hod:H od=some (.list a4K)) (q:∀ H',Q (.bool true) H') :
  (f6 (O6 [P4] true (w5 (y7 .add (G7 G8 (d6 (j6 (.int 4)) f4)) (d7 a5S)))
  (f6 (a0t (B3 .ne (v8 (d7 G4) [G4] true (D5 (d6 (J8 .len (d6 (d7 n9) f4)) f4)) (S2 (a4D (j7 (d7 Q6) T4 (d6 (d7 G4) (d6 (d7 P4) f4)))) B6)) (v8 (d7 G4) [G4] true (D5 (d6 (J8 .len (d6 (d7 n9) f4)) f4)) (S2 (B3 .isin (d7 P4) (l6 (d7 I0) (l6 (d7 h9) (d7 G4)))) B6)))
   (f6 (H9 (j6 (.bool false)))
   m6)
   m6)
  m6))
 (f6 (H9 (a2K (B3 .eq (n5 (d6 (j7 (d7 t7) P6 f4) (d6 (j7 (d7 t7) G6 f4) (d6 (j7 (d7 t7) G5 f4) f4)))) (n5 (d6 (J8 .len (d6 (d7 n9) f4)) (d6 (d7 t3) (d6 (M6 (d7 h9)) f4)))))))
 m6)) (j5 F (n+9)) r H (λfl _ H'=>a3o fl (B H') λv=>Q v H'):=by
 refine g8 (Z6 (I4 (K:=j5 F (n+9)) (Q:=λv H1=>itV v H1 _) (a0i (d9 (m8 (g9 (a8L (n:=n+8) hE λH1 c k1 hc=>f9 ho ?_)))))));have k2:m5 H (H1.set c (.list a02)):=k1.trans (.new hc);refine add_list l9 (k2 _ _ hod) (by have:=a9R;show _+7<=_;unfold o5;exact b9T this) λd hd=>?_
 have k3:m5 H (Hp.set (H1.set c (.list a02)) d (.list (a02++a4K))):=k2.trans (.new hd);have hd3:(Hp.set (H1.set c (.list a02)) d (.list (a02++a4K))) d=some (.list (a02++a4K)):=l9;generalize Hp.set (H1.set c (.list a02)) d (.list (a02++a4K))=H3 at k3 hd3 ⊢;refine .inr (.inr (.inl ⟨d,_,rfl,hd3,(a02++a4K).length+1,R7 (src:=.lst d) (a02++a4K) (λi r1 H2=>m5 H3 H2/\AV lay a e g r1/\r1 t3=some (.int (k:Nat))) (λi r1 H2 hI=>⟨_,hI.1 _ _ hd3,rfl⟩) (λr1 H2 hI=>?_) (λi t r1 H2 ht hI W hW _=>?_) _ 0 _ _ (zo0) (Nat.zero_le _) ⟨.refl _,v,hk⟩⟩))
 ·refine eAA hI λk4 v4 m4=>?_;clear hI;have A4:=A.keep (k3.trans k4);have nl:(st.nd.map r8).length=st.nd.length:=c7x ..;have eqn:=A4.X.I.eqn;have nlim:(st.nd.map r8).length<=o5:=by refine b9 nl ?_;exact o7 A4.X.I.toOk.nd
  refine g8 (E0 (a6x (G1 (D1 (d9 (u6 (by refine b9 T.hsize ?_;rfl) (A4.X.L.at_ _ _ A4.X.E.c0) (A4.X.L.at_ _ _ A4.X.E.c1) rfl (o9 v4.heap) (g9 (hsize (n:=n+7) T A4.X.L A4.X.E A4.X.I.toOk (d9 (u6 (by refine b9 T.hmany ?_;rfl) (A4.X.L.at_ _ _ A4.X.E.c0) (A4.X.L.at_ _ _ A4.X.E.c1) rfl (o9 v4.heap) (g9 (hmany (n:=n+5) T A4.X.L A4.X.E A4.X.I λH5 ys k5 ny my=>?_))))))))))))
  have A5:=A4.keep k5;refine d9 (u6 (by refine b9 T.hclasses ?_;rfl) (A5.X.L.at_ _ _ A5.X.E.c0) (A5.X.L.at_ _ _ A5.X.E.c1) rfl (o9 v4.heap) (g9 (hclasses (n:=n+7) T A5.X.L A5.X.E A5.X.I.toOk λH6 c6 k6 hc6=>g9 ?_)))
  have k7:m5 H5 (H6.set c6 (.list (iL (clss st.up)))):=k6.trans (.new hc6);have hc7:(H6.set c6 (.list (iL (clss st.up)))) c6=some (.list (iL (clss st.up))):=l9;have A7:=A5.keep k7;generalize H6.set c6 (.list (iL (clss st.up)))=H7 at k7 hc7 A7 ⊢;have m17:mk.length<=17:=by refine b9 A.ml ?_;exact A.X.I.small
  have mkm:∀ c,c∈mk↔∃ i,i < st.up.length/\f8 st.up i=c:=λc=>by
   constructor
   ·intro h;refine eE (List.mem_iff_getElem?.mp h) λi hi=>?_;have li:=(List.getElem?_eq_some_iff.mp hi).1;rw [a2W li] at hi;injection hi with hi
    exact ⟨i,by refine t6 A.ml ?_;exact li,by refine t6 A.rt ?_;exact hi⟩
   ·rintro ⟨i,hi,rfl⟩
    refine t6 A.rt ?_;exact V3 (by refine b9 A.ml ?_;exact hi)
  refine D1 (d9 (O8 (d9 (f9 v4.rows (g9 (B1 (A7.X.L.at_ _ _ A7.X.c2) nlim (d9 (f9 m4 (d9 (b1m (f9 v4.marks ⟨a,mk.map Int.ofNat,rfl,by refine b9 (a5k ..) ?_;exact A7.ha,λi hi=>?_,λzs hp hm b hb=>g9 ?_⟩)))))))))))
  ·refine i9 (List.mem_map.mp hi) λc hc q2=>?_;subst q2;refine i9 ((mkm c).mp hc) λj hj e=>?_;have:=C7 A.X.I.up A.X.I.lt j hj;have:=A.X.I.small;exact ⟨Int.natCast_nonneg _,by show ((c:Nat):Int) < 17;exact c1J e ‹_› this⟩
  ·have ez:=b5q hp hm (cs:=clss st.up) (List.Pairwise.filter _ List.pairwise_lt_range) λc=>by refine I9 (b15 A.X.I ..) ?_;refine I9 (mkm ..) ?_;rfl
   refine B2 hys λys0 n0 m0 q1=>?_;clear hys;subst q1;have elen:ys.length=ys0.length:=Nat.le_antisymm (a3j ny λx hx=>(m0 x).mpr ((my x).mp hx)) (a3j n0 λx hx=>(my x).mpr ((m0 x).mp hx));refine b9 elen ?_;refine b9 nl ?_;refine b9 ez ?_;refine b45 (l:=iL (clss st.up)) (m5.new hb _ _ hc7) l9 (a2L _) ?_;exact q _
 ·refine eAA hI λk4 v4 m4=>?_;clear hI;have v5:AV lay a e g (r1.set P4 t):=⟨v4.rows,v4.heap,v4.marks,v4.made,v4.gram⟩;exact ⟨_,A1,b3T T G (A.keep (k3.trans k4)) v5 (c7w ht) rfl λH' k'=>hW _ _ ⟨k4.trans k',v5,m4⟩⟩
end
structure Tl (F:D4):Prop where
 taken:F 0 j9=some D7
 marks:F 0 N5=some a00
 made:F 0 Q5=some a1M
 every:F 0 G8=some W5
 law:F 0 3879159=some b6v
section
variable {F:D4} {n:Nat} {cells:List Int} {lay:Slot->Nat} {C:D0} {H:Hp} {st:St} {ties:List (Nat×Nat)} {r:En} {Q:m7}
theorem b5W {B:Hp->Prop} (T:Tb F) (Z:Ti F) (G:Tg F) (U:Tl F) (X:LH cells lay C H st ties st.nd ties) (v:LV lay r) (w:st.wt=[]) (q:∀ H',Q (.bool true) H') :
  (f6 (s6 (Q9 [(l7 h9),(l7 t3)]) (n5 (d6 (G7 N5 (d6 (d7 n9) (d6 (d7 I8) f4))) (d6 (j7 (d7 t7) G6 f4) f4))))
 (f6 (s6 (Q9 [(l7 I0),(l7 Q6)]) (n5 (d6 (G7 Q5 (d6 (d7 n9) (d6 (d7 h9) (d6 (j6 (.int 4)) f4)))) (d6 (a6m w7 (d6 (d7 t7) f4)) f4))))
 (f6 (s6 (l7 a5S) (J5 (d6 (n5 (d6 (j6 (.str "c")) f4)) (d6 (n5 (d6 (j6 (.str "f")) f4)) (d6 (n5 (d6 (j6 (.str "g")) (d6 (n5 (d6 (j6 (.str "a")) f4)) f4))) (d6 (n5 (d6 (j6 (.str "a")) (d6 (n5 (d6 (j6 (.str "b")) f4)) f4))) (d6 (n5 (d6 (j6 (.str "f")) (d6 (n5 (d6 (j6 (.str "c")) f4)) f4))) (d6 (n5 (d6 (j6 (.str "g")) (d6 (n5 (d6 (j6 (.str "a")) f4)) (d6 (n5 (d6 (j6 (.str "h")) (d6 (n5 (d6 (j6 (.str "b")) f4)) f4))) f4)))) (d6 (n5 (d6 (j6 (.str "g")) (d6 (n5 (d6 (j6 (.str "a")) f4)) (d6 (n5 (d6 (j6 (.str "b")) f4)) (d6 (n5 (d6 (j6 (.str "a")) f4)) f4))))) f4)))))))))
 (f6 (O6 [P4] true (w5 (y7 .add (G7 G8 (d6 (j6 (.int 4)) f4)) (d7 a5S)))
  (f6 (a0t (B3 .ne (v8 (d7 G4) [G4] true (D5 (d6 (J8 .len (d6 (d7 n9) f4)) f4)) (S2 (a4D (j7 (d7 Q6) T4 (d6 (d7 G4) (d6 (d7 P4) f4)))) B6)) (v8 (d7 G4) [G4] true (D5 (d6 (J8 .len (d6 (d7 n9) f4)) f4)) (S2 (B3 .isin (d7 P4) (l6 (d7 I0) (l6 (d7 h9) (d7 G4)))) B6)))
   (f6 (H9 (j6 (.bool false)))
   m6)
   m6)
  m6))
 (f6 (H9 (a2K (B3 .eq (n5 (d6 (j7 (d7 t7) P6 f4) (d6 (j7 (d7 t7) G6 f4) (d6 (j7 (d7 t7) G5 f4) f4)))) (n5 (d6 (J8 .len (d6 (d7 n9) f4)) (d6 (d7 t3) (d6 (M6 (d7 h9)) f4)))))))
 m6))))) (j5 F (n+9)) r H (λfl _ H'=>a3o fl (B H') λv=>Q v H'):=by
 have eqn:=X.I.eqn;have kid:∀ x∈st.nd,∀ k∈x.2,k < st.nd.length:=by refine b9 eqn ?_;exact X.I.kid
 refine g8 (z0 (D1 (d9 (a0i (d9 (f9 v.rows (d9 (f9 v.ties (g9 (a8Y (n:=n+8) U.marks (X.L.at_ _ _ X.c2) (X.L.at_ _ _ X.c3) X.I.toOk.nd X.I.two kid X.I.tl (by refine b9 eqn ?_;exact X.I.tlt) λH1 a mk k1 ha M f=>?_))))))))))
 have X1:=X.keep k1;refine d9 (u6 (by refine b9 T.hmany ?_;rfl) (X1.L.at_ _ _ X1.E.c0) (X1.L.at_ _ _ X1.E.c1) rfl (o9 v.heap) (g9 (hmany (n:=n+5) T X1.L X1.E X1.I λH2 ys k2 ny my=>g9 (a4T (.inl rfl) ?_))))
 have X2:=X1.keep k2;have ml:mk.length=st.up.length:=M.len.trans eqn;have rt:l0 mk=f8 st.up:=by
  funext i
  by_cases h:i < st.up.length
  ·exact a4L X.I X.D w M f h
  ·refine b9 (a21 (by refine b9 ml ?_;exact h)) ?_;refine b9 (b2D h) ?_;rfl
 have N:Nds st.nd mk:=⟨M.len,X.I.toOk.nd,kid,X.I.two,X.S⟩;have v2:LV lay ((r.set h9 (.ref a)).set t3 (.int (ys.length:Nat))):=⟨v.deck,v.heap,v.rows,v.ties⟩;refine g8 (z0 (D1 (d9 (a0i (d9 (f9 v2.rows (d9 (f9 rfl (d9 (m8 (g9 (b1e (n:=n+8) U.made N (X2.L.at_ _ _ X2.c2) (k2 _ _ ha) λH3 e es ma M k3 he ok get hm mem=>?_))))))))))));refine d9 (a9j (d9 (f9 v2.heap (g9 (b1S (n:=n+8) Z λg gd H4 k4 hg hgd=>g9 (a4T (.inl rfl) ?_))))))
 have A:AS cells lay C H4 st ties mk a e g gd es ma M:=AS.mk (X2.keep (k3.trans k4)) w rt ml (k4 _ _ (k3 _ _ (k2 _ _ ha))) (let ⟨ep,h⟩:=he;⟨ep,k4 _ _ h⟩) ok get (λc hc=>let ⟨ep,h⟩:=hm c hc;⟨ep,k4 _ _ h⟩) mem hg hgd;refine g8 (z0 (show ∀ od,H4 od=none->_ from λod hod=>B7 ?_));have A5:=A.keep (.new (o:=.list a4K) hod);exact b4m (n:=n) (B:=B) T G U.every A5 ⟨v.rows,v.heap,rfl,rfl,rfl⟩ rfl ⟨ys,ny,my,rfl⟩ rfl l9 q
end
theorem b4n {F:D4} (T:Tb F) (Z:Ti F) (G:Tg F) (U:Tl F) {sl:List Int} (hl:sl.length<=63):(j5 F (n+10)).call 0 3879159 [.fz sl] (λ_=>none) λv _=>v=.bool true:=by
 have cl:(sl.take 40).length<=40:=List.length_take_le _ _;refine t0 U.law rfl (b2K (n:=n+7) Z rfl hl λlay C H r X v=>?_);refine b4a (n:=n+4) T X v λlay1 C1 H1 r1 st1 X1 nd1 v1=>?_;have X1':LH (sl.take 40) lay1 C1 H1 st1 [] st1.nd []:=by refine b9 nd1 ?_;exact X1
 refine b3I (n:=n+4) T U.taken cl X1' v1 (by refine b9 nd1 ?_;rfl) λlay2 C2 H2 r2 st2 X2 p2 _ v2=>?_
 refine b1C (n:=n+4) T U.taken cl X2 rfl v2 p2 λlay3 C3 H3 r3 st3 ties X3 e3 v3=>?_;refine a89 (n:=n+4) T X3 v3 λlay4 C4 H4 st4 X4 e4 w4 v4=>?_;have X4':LH (sl.take 40) lay4 C4 H4 st4 ties st4.nd ties:=by refine b9 e4 ?_;refine b9 e3 ?_;exact X4
 exact b5W (n:=n) (B:=λ_=>(d8.none=.bool true)) T Z G U X4' v4 w4 λ_=>rfl
end
end Mine.Internal
section
set_option Elab.async false
namespace Mine.Internal
open PySem PySem.W PyProof.Rows
theorem c6S:PySem.Challenge.rw_pq0065_02.wellSaid=true:=by
 have h:OpenLaw.wellSaid {prog:=a6G.1,name:=n8 "law",about:=[n8 "Grammar",n8 "accepts"],foot:=5,most:=some 63,bound:=none,writes:=false}=true:=by
  rw [PySem.W.Fast.te9446332074065402090]
  kernel_rfl
 rw [a6G.2,<-a6c] at h;exact h
noncomputable def b3k:List (Nm×Nm):=[(w7,125959291554050015),(w7,X9),(w7,T4),(0,a39),(E6,125959291554050015),(E6,P6),(E6,a4U),(E6,a1R),(E6,O0),(E6,F7),(v6,125959291554050015),(v6,a6C),(v6,P6),(v6,G2),(v6,R9),(v6,G5),(o6,125959291554050015),(o6,P6),(o6,N9),(o6,a2j),(o6,T8),(o6,G2),(o6,R9),(o6,a3f),(o6,a1C),(o6,G5),(o6,G6),(o6,a6q),(0,j9),(0,N5),(0,Q5),(0,G8),(0,3879159)]
noncomputable abbrev F02:D4:=b2Y b3k a7s
theorem b6X:∀ w,(λos=>(a60 boot_heap w).bind λb=>b4K boot_heap PySem.Challenge.pw_pq0065_02 (λs=>(openSeen (view PySem.Challenge.pw_pq0065_02 [18]) a1Q (importedModules PySem.Challenge.pw_pq0065_02.main.body) (λ_=>true) true s,a2C T02 s)) 4000 b w os) =
  λ_=>some (openGood (view PySem.Challenge.pw_pq0065_02 [18]) a1Q,(true,a74 T02 PySem.Challenge.pw_pq0065_02)):=λw=>by
 have h:=seen02 w;rw [<- PySem.W.Fast.te4264726734810522163,<-PySem.W.Fast.te4036098521264024637,<-PySem.W.Fast.te4065217944589469274,a6G.2,b6F.2] at h;exact h
theorem c4f:(a74 T02 PySem.Challenge.pw_pq0065_02).map (λo=>o.bind (a5v T02))=a7s.map some:=by
 have h:=mini02;rw [a6G.2] at h;exact h
theorem b8k:LeftO PySem.Challenge.pw_pq0065_02 (view PySem.Challenge.pw_pq0065_02 [18]) a1Q (λ_=>true) (a2C T02) (λ_=>(true,a74 T02 PySem.Challenge.pw_pq0065_02)) 4000 :=
 b0m (by rfl) rfl (λs=>by rfl) b6X
theorem b5V:a9e T02=true:=by kernel_rfl
theorem b8u:b2Y (a4d T02) a7s=F02:=congrArg (b2Y · a7s) (show a4d T02=b3k by kernel_rfl)
theorem b4y:T02.fns.contains PySem.Challenge.rw_pq0065_02.name=true:=by decide +kernel
theorem b53:nm PySem.Challenge.rw_pq0065_02.name=3879159:=by decide +kernel
theorem b7E (sl:List Int) (h:sl.length<=63):∃ n,n<=40/\(j5 F02 n).call 0 3879159 [.fz sl] (λ_=>none) λv _=>v=.bool true :=
 ⟨10,by decide,b4n (n:=0) ⟨rfl,rfl,rfl,rfl,rfl,rfl,rfl,rfl,rfl,rfl,rfl,rfl,rfl,rfl,rfl,rfl,rfl,rfl,rfl,rfl,rfl,rfl⟩ ⟨rfl,rfl,rfl,rfl⟩ ⟨rfl,rfl⟩ ⟨rfl,rfl,rfl,rfl,rfl⟩ h⟩
end Mine.Internal
set_option maxHeartbeats 8000000 in
theorem PySem.Challenge.cw_pq0065_02_holds : PySem.Challenge.rw_pq0065_02.Holds := by
 refine PySem.W.holds_law Mine.Internal.c6S λ_=>?_;refine PySem.W.holds_open (q:=PySem.W.view PySem.Challenge.pw_pq0065_02 [18]) (loose:=Mine.Internal.a1Q) (Xt:=λ_=>true) (XP:=λ_ _=>True) (Yf:=Mine.Internal.a2C Mine.Internal.T02) (Ya:=λ_=>(true,Mine.Internal.a74 Mine.Internal.T02 PySem.Challenge.pw_pq0065_02))
  (YP:=λ_ h=>Mine.Internal.a98 Mine.Internal.T02 (Mine.Internal.a74 Mine.Internal.T02 PySem.Challenge.pw_pq0065_02) h) (N:=4000) Mine.Internal.b8k (λ_ _ e=>Mine.Internal.a9F e) (λ_ _ _ x k=>Mine.Internal.a4X x k) (λ_ _=>trivial) (λ_ _ _ _ _=>trivial) (by rfl) (by rfl) (by rfl) ?hR (by rfl) (by assumption) (by decide +kernel) ⟨rfl,rfl,rfl,rfl,rfl,by decide +kernel⟩ ?hw ?hc
 case hw=>w_witness2
 case hR=>exact λs _=>PySem.W.recFacts_of (s:=s) rfl
 case hc =>
  intro w s₀ s₁ mg mb G Y a o pm cd doc dV kV ho hd hcd hD hmg hg args vals as hpre hlay hrd hwl hlo;exact Mine.Internal.b25 (l:=PySem.Challenge.rw_pq0065_02) Mine.Internal.b5V Y Mine.Internal.c4f Mine.Internal.b8u G.T.g hmg Mine.Internal.b4y hg hpre hrd rfl rfl λsl hsl=>by
   rw [Mine.Internal.b53];exact Mine.Internal.b7E sl hsl
end
end
